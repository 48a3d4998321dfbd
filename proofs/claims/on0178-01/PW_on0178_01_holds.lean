import PyProof.Rows.All
import Wide.All
import OpenK.AllK
import Wide.FinOn
import Lean
import PySem.Challenge.RW_on0178_01
set_option Elab.async false
set_option genSizeOf false
set_option linter.all false
set_option maxRecDepth 100000
namespace Mine
def ae:=@List.length_map
def ah:=@List.getElem?_eq_some_iff
def aj:=@Nat.le_trans
def ak:=@List.mem_singleton
def am:=@List.mem_of_getElem?
def ao:=@List.getElem?_eq_getElem
def aq:=@List.length_append
def aw:=@Nat.lt_of_lt_of_le
def ax:=@Option.some.inj
def ay:=@List.map_append
def az:=@List.mem_map
def aA:=@Nat.lt_of_le_of_lt
def aB:=@List.mem_append_right
def aC:=@Nat.le_refl
def aD:=@List.mem_append
def aE:=@List.getD_eq_getElem?_getD
def aF:=@Nat.le_of_eq
def aG:=@List.getElem?_append_left
def aH:=@List.getElem?_map
def aI:=@List.mem_cons
def aK:=@Nat.le_of_lt
def aL:=@List.mem_cons_of_mem
def aM:=@Nat.succ_le_succ
def aN:=@List.append_nil
def aO:=@List.getElem?_of_mem
def aP:=@List.mem_cons_self
def aQ:=@List.not_mem_nil
def aR:=@List.take_length
def aS:=@Int.natCast_nonneg
def aT:=@List.length_range
def aU:=@List.length_set
def aV:=@List.mem_append_left
def aW:=@List.take_add_one
def aY:=@List.getElem?_append_right
def aZ:=@Option.map_eq_some_iff
def a7:=@List.length_filter_le
def a8:=@List.getElem?_set_self
def a9:=@List.getElem?_set_ne
def a_:=@Int.ofNat_inj
def ba:=@Nat.lt_or_ge
def bj:=@Nat.lt_succ_iff_lt_or_eq
def bm:=@Nat.not_lt_zero
def bp:=@List.mem_range
def br:=@List.Nodup.length_le_of_subset
def bt:=@List.getElem?_concat_length
def bu:=@Nat.le_add_right
def bv:=@List.all_eq_true
def bw:=@Nat.zero_le
def bz:=@List.mem_filter
def bA:=@List.cons.inj
def bB:=@Nat.le_of_lt_succ
def bC:=@Int.ofNat_lt
def bE:=@Nat.not_lt
def bF:=@List.map_map
def bG:=@List.range_succ
def bH:=@Nat.mul_le_mul_left
def bJ:=@List.length_take_le'
def bK:=@Nat.lt_trans
def bN:=@List.append_assoc
def bO:=@List.lookup_cons
def bP:=@Nat.le_antisymm
def bQ:=@List.map_cons
def bR:=@List.getElem?_eq_none
def bS:=@List.size_toArray
def bT:=@Nat.lt_succ_self
def bW:=@Nat.testBit_or
def bX:=@List.length_replicate
def bZ:=@Nat.add_le_add_left
def cq:=@Eq.symm
def cr:=@Nat.ne_of_lt
def cu:=@Nat.le_succ_of_le
def cv:=@Nat.le_of_succ_le
def cx:=@List.flatMap_cons
def cA:=@Bool.false_ne_true
def cC:=@List.getElem?_toArray
def cD:=@Bool.or_eq_true_iff
def cF:=@PySem.wpAt_of_wpAny
def cH:=@List.flatMap_append
def cK:=@Nat.succ_ne_zero
def cM:=@List.getElem?_inj
def cP:=@List.filter_append
def cR:=@List.flatMap_nil
def cS:=@List.map_congr_left
def cT:=@List.length_reverse
def cU:=@Nat.add_sub_cancel'
def cV:=@List.contains_iff_mem
def cY:=@List.filter_cons_of_pos
def cZ:=@List.getElem?_replicate
def c8:=@Nat.add_le_add
def c9:=@List.nodup_iff_pairwise_ne
def c_:=@List.nodup_cons
def dc:=@Nat.lt_succ_of_le
def di:=@Nat.ne_of_gt
def dq:=@List.filter_cons_of_neg
def dv:=@Nat.add_assoc
def dz:=@Nat.or_lt_two_pow
def dA:=@List.getElem?_nil
def dB:=@List.getElem?_range
def dE:=@List.mem_of_find?_eq_some
def dF:=@List.getElem?_drop
def dG:=@Nat.add_right_comm
def dH:=@Nat.pos_of_ne_zero
def dJ:=@Nat.sub_le_of_le_add
def dK:=@Bool.eq_false_iff
def dM:=@Int.ofNat_le
def dN:=@List.filter_eq_nil_iff
def dO:=@Nat.add_comm
def dQ:=@Nat.le_of_not_lt
def dR:=@Nat.succ_lt_succ
def dS:=@List.find?_eq_none
def dU:=@Ne.symm
def dW:=@Nat.le_of_ble_eq_true
def dZ:=@Nat.ge_two_pow_of_testBit
def d3:=@List.getElem?_eq_none_iff
def d4:=@List.drop_eq_getElem_cons
def d6:=@List.filter_nil
def d9:=@Nat.lt_succ_of_lt
def d_:=@Nat.add_le_add_right
def eg:=@Nat.sub_self
def eo:=@List.nodup_append
def ez:=@List.Pairwise.filter
def eO:=@Nat.lt_irrefl
def eQ:=@List.length_take
def eV:=@List.nodup_range
def fp:=@List.find?_cons_of_pos
def fw:=@List.find?_cons_of_neg
def fy:=@Int.not_lt
def fE:=@List.take_of_length_le
def fG:=@Bool.or_true
def fH:=@Nat.lt_of_succ_lt_succ
def fJ:=@Nat.lt_of_lt_of_eq
def fO:=@Int.natCast_pos
def fQ:=@Bool.or_eq_true
def fS:=@List.concat_eq_append
def fV:=@List.take_append_drop
def fY:=@Int.toNat_natCast
def f_:=@Nat.one_shiftLeft
def gy:=@Bool.and_eq_true_iff
def gz:=@List.map_id
def gG:=@Nat.add_lt_add_of_le_of_lt
def gO:=@List.length_drop
def gQ:=@Nat.succ.inj
def gV:=@Nat.succ_pos
def g_:=@List.getElem_mem
def hB:=@List.map_nil
def hE:=@List.drop_length
def hJ:=@List.mem_or_eq_of_mem_set
def hK:=@Option.isNone_iff_eq_none
def hM:=@Decidable.byContradiction
def hV:=@Nat.sub_lt_sub_left
def h_:=@List.length_take_le
def iu:=@List.map_take
def iv:=@List.getElem?_take_of_lt
def iw:=@List.eq_of_mem_replicate
def iy:=@Nat.exists_eq_add_of_le'
def iH:=@Int.neg_neg_of_pos
def iI:=@Nat.lt_of_le_of_ne
def iJ:=@Nat.eq_or_lt_of_le
def iK:=@Nat.not_le
def iL:=@List.append_ne_nil_of_right_ne_nil
def iO:=@Int.neg_neg
def iP:=@Nat.le_succ
def iS:=@Int.neg_le_neg
def iT:=@List.take_succ_eq_append_getElem
def iU:=@Array.getElem?_eq_none
def iV:=@List.getElem?_set
def jb:=@List.any_eq_true
def jc:=@List.map_reverse
def jd:=@List.mem_reverse
def je:=@Nat.zero_testBit
def jf:=@List.mem_flatMap
def jg:=@List.cons_ne_nil
def jh:=@List.perm_middle
def jn:=@Bool.true_and
def ju:=@Exists.elim
def jv:=@Nat.add_lt_add_right
def jw:=@Nat.pow_le_pow_right
def jz:=@List.foldl_cons
def jC:=@List.forIn_cons
def jE:=@List.mem_zipIdx_iff_getElem?
def jF:=@List.find?_some
def jO:=@List.length_flatMap
def jP:=@Nat.add_lt_add_left
def jQ:=@List.filter_sublist
def jY:=@Int.le_of_lt
def kx:=@Int.add_sub_cancel
def ky:=@List.map_replicate
def kA:=@Int.neg_nonneg
def kG:=@Nat.shiftRight_eq_div_pow
def kZ:=@Bool.not_eq_true'
def k7:=@List.reverse_cons
def k_:=@Nat.sub_sub_right
def lc:=@List.pairwise_map
def lg:=@List.ext_getElem?
def lE:=@PySem.is_none
def lF:=@Int.ofNat_sub
def lG:=@List.filterMap_cons_some
def lH:=@Option.isSome_iff_exists
def lJ:=@List.Pairwise.imp_of_mem
def lK:=@Int.neg_nonpos_of_nonneg
def lW:=@List.pairwise_mergeSort
def lX:=@List.length_eq_zero_iff
def lY:=@Nat.sub_sub_self
def lZ:=@Bool.and_eq_true
def l_:=@List.countP_cons
def md:=@Nat.lt_of_not_le
def mh:=@Nat.add_sub_cancel_left
def mj:=@List.pairwise_singleton
def mL:=@Nat.sub_le
def mN:=@Nat.testBit_shiftRight
def mO:=@Nat.zero_add
def mP:=@List.map_set
def mQ:=@List.length_take_of_le
def mR:=@Nat.le_of_succ_le_succ
def mS:=@Int.ne_of_gt
def mU:=@List.sum_append
def mV:=@Bool.eq_iff_iff
def mZ:=@List.length_nil
def m6:=@Int.neg_eq_zero
def nj:=@List.length_mergeSort
def ny:=@Array.getElem?_toList
def nA:=@Nat.sub_eq_zero_of_le
def nG:=@List.eq_nil_or_concat
def nH:=@List.countP_mono_left
def oA:=@List.take_left
def oB:=@Array.mem_toList_iff
def oD:=@Bool.or_eq_false_iff
def oE:=@Option.or_none
def oF:=@List.mem_of_mem_take
def oG:=@Nat.le.dest
def oH:=@List.count_le_length
def oI:=@Nat.pow_lt_pow_right
def oJ:=@Nat.mul_le_mul_right
def o7:=@Option.some_ne_none
def o9:=@List.replicate_succ
def o_:=@List.append_toArray
def pc:=@List.mem_map_of_mem
def ph:=@List.mergeSort_perm
def pj:=@List.eraseDups_cons
def pk:=@Nat.lt_two_pow_self
def pq:=@Nat.testBit_two_pow
def pX:=@Int.sub_eq_add_neg
def pY:=@List.zip_cons_cons
def pZ:=@Nat.eq_zero_or_pos
def p5:=@Bool.not_eq_false'
def p6:=@Nat.sub_right_comm
def p7:=@Nat.sub_add_cancel
def p8:=@List.getElem?_take
def qH:=@Int.add_comm
def qI:=@Int.le_trans
def qJ:=@Int.sub_zero
def qK:=@Nat.add_zero
def qL:=@Int.le_of_eq
def qM:=@Nat.succ_add
def rT:=@Int.neg_inj
def sJ:=@Iff.rfl
section
inductive V where
 |none|bool (b:Bool)|int (i:Int)|str (n:Nat)|tup (l:List V)|ref (a:Nat)
inductive O where
 |list (l:List V)|bc (d:List (Int×V))|bV (d:List (List Int×V))|kH (n:Nat)|inst (c:Nat) (fs:List (Nat×V))|ro (l:List Int)|fi (d:List (Int×V))|ft (d:List (List Int×V))
set_option genInjectivity false
set_option genCtorIdx false
abbrev Hp:=List O
abbrev Lc:=List (Option V)
noncomputable def SZ:Nat:=2^24
noncomputable def vi (i:Int):V:=.int i
noncomputable def de (l:List Int):List V:=l.map V.int
noncomputable def place (i:Int) (n:Nat):Option Nat:=
 if 0≤i then(if i.toNat<n then some i.toNat else Option.none)
 else if(-i).toNat≤n then some (n-(-i).toNat)else Option.none
noncomputable def qN (f:Nat):List (Nat×V)->Option V
 |[]=>Option.none
 |(g,u)::r=>if g=f then some u else qN f r
noncomputable def dj (f:Nat) (v:V):List (Nat×V)->List (Nat×V)
 |[]=>[(f,v)]
 |(g,u)::r=>if g=f then(g,v)::r else(g,u)::dj f v r
section
variable {κ:Type} [DecidableEq κ]
noncomputable def d7 (k:κ) (d:List (κ×V)):Option V:=(d.find? λp=>decide (p.1=k)).map (·.2)
noncomputable def dput (k:κ) (v:V) (d:List (κ×V)):List (κ×V):=
 if d.any (λp=>decide (p.1=k))then d.map (λp=>if p.1=k then(p.1,v)else p)else d++[(k,v)]
noncomputable def xY (k:κ) (d:List (κ×V)):List (κ×V):=d.filter λp=>decide (p.1≠k)
end
noncomputable def FJ (l:List Int):List Int:=l.mergeSort λa b=>decide (a≤b)
set_option genCtorIdx true in
inductive LG where
 |add|sub|mul|fdiv|mod|band|bor|shl|shr
 deriving DecidableEq
set_option genCtorIdx true in
inductive B1 where
 |eq|ne|lt|le|gt|ge|is|xZ|isin|jG
 deriving DecidableEq
mutual
inductive CE where
 |lit (v:V)
 |var (i:Nat)
 |bin (o:LG) (a b:CE)
 |neg (a:CE)|inv (a:CE)|not (a:CE)
 |cmp (o:B1) (a b:CE)
 |pH (o p:B1) (a b c:CE)
 |and (l:mo)|or (l:mo)
 |ite (c a b:CE)
 |list (l:mo)|tup (l:mo)|iM (k:Nat)
 |comp (caps:List Nat) (elt:CE) (it:CI) (ifs:mo)
 |idx (a i:CE)|sK (a i:CE)|p_ (a i:CE)
 |attr (a:CE) (f:Nat)
 |call (f:Nat) (l:mo)|new (c:Nat) (l:mo)|bx (o:CE) (m f:Nat) (l:mo)
 |len (a:CE)|sorted (a:CE)|listOf (a:CE)|tupleOf (a:CE)|intOf (a:CE)|sum (a:CE)|max (a b:CE)
 |append (o x:CE)|extend (o x:CE)|pop (o:CE)|u7 (o k:CE)|qO (o k d:CE)|u8 (o k:CE)
inductive CI where
 |ex (e:CE)|range (e:CE)|rev (e:CE)
inductive mo where
 |nil|cons (e:CE) (r:mo)
end
noncomputable def CE.kind:CE->Nat
 | .comp .. =>1
 | .not _| .and _| .or _| .ite .. | .cmp .. | .pH .. =>2
 |_=>0
noncomputable def CE.qP (e:CE):Bool:=e.kind !=2
noncomputable def CE.mq (e:CE):Bool:=e.kind==1
inductive Tg where
 |v (i:Nat)|p (i j:Nat)
mutual
inductive CS where
 |expr (e:CE)
 |set (t:Tg) (e:CE)
 |setattr (o:CE) (f:Nat) (e:CE)
 |bq (o i e:CE)
 |ite (c:CE) (a b:i6)
 |while (c:CE) (b:i6)
 |for (t:Tg) (i:CI) (b:i6)
 |ret (e:CE)
 |cont
 |sup (l:mo)
inductive i6 where
 |nil|cons (s:CS) (r:i6)
end
set_option genCtorIdx true in
inductive Fl where
 |next|cont|ret (v:V)
noncomputable def Fl.val:Fl->V
 | .ret v=>v
 |_=>.none
inductive Gd where
 |none|list (a:Nat) (l:List V)|bc (a:Nat) (d:List (Int×V))|bV (a:Nat) (d:List (List Int×V))
noncomputable def Gd.ok (H:Hp):Gd->Prop
 | .none=>True
 | .list a l=>H[a]?=some (.list l)
 | .bc a d=>H[a]?=some (.fi d)
 | .bV a d=>H[a]?=some (.ft d)
noncomputable def Gd.Ca:Gd->Bool
 | .none| .list .. =>false
 | .bc .. | .bV .. =>true
noncomputable def Gd.fz (H:Hp):Gd->Hp
 | .none| .list .. =>H
 | .bc a d=>H.set a (.fi d)
 | .bV a d=>H.set a (.ft d)
noncomputable def Gd.th (H:Hp):Gd->Hp
 | .none| .list .. =>H
 | .bc a d=>H.set a (.bc d)
 | .bV a d=>H.set a (.bV d)
structure Fn where
 np:Nat
 defs:List V
 nl:Nat
 body:i6
structure Pg where
 fn:Nat->Option Fn
 init:Nat->Option Nat
 xQ:Nat->Nat->Option Nat
 sup:Nat
 wi:Nat
noncomputable def Fn.start (f:Fn) (vs:List V):Lc:=
 (vs++f.defs.drop (vs.length+f.defs.length-f.np)).map some++List.replicate (f.nl-f.np) Option.none
noncomputable def Fn.takes (f:Fn) (n:Nat):Prop:=n≤f.np∧f.np≤n+f.defs.length
mutual
noncomputable def V.plain:V->Nat->Bool
 | .tup l,n=>decide (0<n)&&lh l (n-1)
 | .ref _,_=>false
 | .none,_| .bool _,_| .int _,_| .str _,_=>true
noncomputable def lh:List V->Nat->Bool
 |[],_=>true
 |v::r,n=>v.plain n&&lh r n
end
noncomputable def pJ (H:Hp) (a:Nat):Prop:=(∃d,H[a]?=some (.bc d))∨∃d,H[a]?=some (.bV d)
end
set_option genInjectivity false
set_option genCtorIdx false
section
open PySem PySem.W PySem.Calls PyProof.Rows
section
structure Nm where
 st:Nat->Option Str
 at_:Nat->Option Str
 cl:Nat->Addr
 fa:Nat->Addr
 HV:Nat
structure Lk where
 ι:Nat->Addr
 δ:Nat->Addr
abbrev ic (vs:List Value) (e:Nat):Obj:={cls:=.type "tuple",data:=.seq vs.toArray e}
abbrev lL (vs:List Value) (e:Nat):Obj:={cls:=.type "list",data:=.seq vs.toArray e}
structure Cx where
 prog:Program
 w:World
 K:Frag
 hb:Heap
 q:Program
 loose:List Str
 AG:ExcName->Option Value
 mg:Str->Option Value
 mb:Str->Option Value
 G:Nm
 X:K.In hb
 T:Top q loose AG mg mb hb
abbrev ik (c:Cx):=intKind c.prog c.w
theorem ff {P:Prop} (h:false=true):P:=Bool.noConfusion h
theorem cW {α:Type} {o:Option α} {x:α} {P:Prop} (e:o=none) (f:o=some x):P:=absurd (f.symm.trans e) (o7 x)
section
variable(c:Cx) (k:Lk) (H:Hp) (h:Heap)
mutual
noncomputable def VR:V->Value->Prop
 | .none,v=>v= .none
 | .bool b,v=>v= .bool b
 | .int i,v=>∃t,v= .int i t
 | .str n,v=>∃x t,c.G.st n=some x∧v= .str x t
 | .tup l,v=>∃a vs e,v= .ref a∧h.get? a=some (ic vs e)∧eH l vs
 | .ref j,v=>j<H.length∧v= .ref (k.ι j)
noncomputable def eH:List V->List Value->Prop
 |[],vs=>vs=[]
 |x::l,vs=>∃v r,vs=v::r∧VR x v∧eH l r
end
noncomputable def jo {κ:Type}:List (κ×V)->List (κ×Value)->Prop
 |[],kvs=>kvs=[]
 |p::d,kvs=>∃v r,kvs=(p.1,v)::r∧VR c k H h p.2 v∧jo d r
noncomputable def qQ:List (Nat×V)->List DictEntry->Prop
 |[],es=>es=[]
 |p::d,es=>∃hh x t v r,es=⟨hh,.str x t,v⟩::r∧c.G.at_ p.1=some x∧VR c k H h p.2 v∧qQ d r
noncomputable def K1 (j:Nat) (d:List (Int×V)):Prop:=∃kvs:List (Int×Value),h.DictOf (ik c) (k.ι j) kvs∧jo c k H h d kvs
noncomputable def K2 (j:Nat) (d:List (List Int×V)):Prop:=∃xs:List (List Int×Addr×Value),h.DictOfH (tupleKind (ik c)) (k.ι j) xs∧(∀x∈xs,∃vs e,h.get? x.2.1=some (ic vs e))∧jo c k H h d (xs.map λx=>(x.1,x.2.2))
noncomputable def OR (j:Nat):O->Prop
 | .list l=>l.length≤SZ∧∃vs e,h.get? (k.ι j)=some (lL vs e)∧eH c k H h l vs
 | .bc d| .fi d=>K1 c k H h j d
 | .bV d| .ft d=>K2 c k H h j d
 | .kH n=>∃kvs:List (Str×Value),h.DictOf (strKind c.prog c.w) (k.ι j) kvs∧kvs.length≤n
 | .inst cl fs=>cl<c.G.HV∧h.get? (k.ι j)=some (instObj (c.G.cl cl) (k.δ j))∧∃es e,h.get? (k.δ j)=some {cls:=.type "dict",data:=.dict es.toArray e}∧qQ c k H h fs es
 | .ro l=>l.length≤SZ∧∃vs e,h.get? (k.ι j)=some (lL vs e)∧IntsAre vs l
end
noncomputable def O.owned:O->Bool
 | .ro _| .fi _| .ft _=>false
 |_=>true
noncomputable def O.made:O->Bool
 | .ro _=>false
 |_=>true
noncomputable def O.dL:O->Bool
 | .inst .. =>true
 |_=>false
noncomputable def At (k:Lk) (j:Nat) (o:O) (a:Addr):Prop:=a=k.ι j∨(o.dL=true∧a=k.δ j)
noncomputable def nJ (k:Lk) (H:Hp) (a:Addr):Prop:=∀j o,H[j]?=some o->¬At k j o a
noncomputable def Oo (k:Lk) (H:Hp) (a:Addr):Prop:=∃j o,H[j]?=some o∧o.owned=true∧At k j o a
inductive dw (c:Cx) (k:Lk) (H:Hp) (h:Heap):Prop
 |mk (base:∀b o,c.hb.get? b=some o->h.get? b=some o) (obj:∀j o,H[j]?=some o->OR c k H h j o) (up:∀j o a,H[j]?=some o->o.made=true->At k j o a->c.hb.get? a=none∧a≠sysModules) (sep:∀a i j x y,H[i]?=some x->H[j]?=some y->At k i x a->At k j y a->i=j)
noncomputable def iR (o:Obj):Prop:=∀vs e,o≠ic vs e
inductive jx (X:Addr->Prop) (k:Lk) (H:Hp) (h:Heap) (k':Lk) (H':Hp) (h':Heap):Prop
 |mk (len:H.length≤H'.length) (ag:∀j,j<H.length->k'.ι j=k.ι j∧k'.δ j=k.δ j) (keep:∀b o,¬Oo k H b->¬X b->h.get? b=some o->h'.get? b=some o) (own:∀b,Oo k H b->Oo k' H' b) (new:∀b o,¬Oo k H b->h.get? b=some o->¬Oo k' H' b) (fr:∀j,H.length≤j->j<H'.length->¬Oo k H (k'.ι j)∧h.get? (k'.ι j)=none) (lv:∀b o,X b->h.get? b=some o->∃o',h'.get? b=some o'∧(iR o->iR o'))
noncomputable def NY (_:Addr):Prop:=False
inductive Mw (k:Lk) (H:Hp) (h:Heap) (k':Lk) (H':Hp) (h':Heap):Prop
 |mk (len:H.length≤H'.length) (io:∀j,j<H.length->k'.ι j=k.ι j) (tup:∀a vs e,h.get? a=some (ic vs e)->h'.get? a=some (ic vs e))
section
variable {c:Cx} {k k' HW:Lk} {H H' K3:Hp} {h h' K4:Heap} {a b:Addr} {X:Addr->Prop} {j:Nat} {o o':O} {x:V} {l r:List V} {v:Value} {vs us:List Value}
mutual
theorem VR.mono (m:Mw k H h k' H' h'):∀{x:V} {v:Value},VR c k H h x v->VR c k' H' h' x v
 | .none,_,r=>r
 | .bool _,_,r=>r
 | .int _,_,r=>r
 | .str _,_,r=>r
 | .tup l,_,r=>by
  obtain⟨a,vs,e,h1,h2,h3⟩:=r
  exact⟨a,vs,e,h1,m.3 _ _ _ h2,eH.mono m h3⟩
 | .ref j,_,r=>⟨aw r.1 m.1,m.2 j r.1▸r.2⟩
theorem eH.mono (m:Mw k H h k' H' h'):∀{l:List V} {vs:List Value},eH c k H h l vs->eH c k' H' h' l vs
 |[],_,r=>r
 |x::l,_,r=>by
  obtain⟨v,r',h1,h2,h3⟩:=r
  exact⟨v,r',h1,VR.mono m h2,eH.mono m h3⟩
end
theorem VR.kI {P:Value->Prop} {i:Int} (x:VR c k H h (.int i) v) (q:∀t,P (.int i t)):P v:=ju x λt e=>e▸q t
theorem VR.kB {P:Value->Prop} {b:Bool} (x:VR c k H h (.bool b) v) (q:P (.bool b)):P v:=cq x▸q
theorem VR.kN {P:Value->Prop} (x:VR c k H h .none v) (q:P .none):P v:=cq x▸q
theorem VR.kR {P:Value->Prop} (x:VR c k H h (.ref j) v) (q:j<H.length->P (.ref (k.ι j))):P v:=cq x.2▸q x.1
theorem VR.kS {P:Value->Prop} {n:Nat} (x:VR c k H h (.str n) v) (q:∀x t,c.G.st n=some x->P (.str x t)):P v:=ju x λy x=>x.elim λt x=>cq x.2▸q y t x.1
theorem VR.kT {P:Value->Prop} (x:VR c k H h (.tup l) v) (q:∀a vs e,h.get? a=some (ic vs e)->eH c k H h l vs->P (.ref a)):P v:=ju x λa x=>x.elim λvs x=>x.elim λe x=>cq x.1▸q a vs e x.2.1 x.2.2
theorem eH.nE {P:List Value->Prop} (x:eH c k H h [] vs) (q:P []):P vs:=cq x▸q
theorem eH.cE {P:List Value->Prop} (y:eH c k H h (x::l) vs) (q:∀v r,VR c k H h x v->eH c k H h l r->P (v::r)):P vs:=ju y λv x=>x.elim λr x=>cq x.1▸q v r x.2.1 x.2.2
theorem eH.cons (y:VR c k H h x v) (z:eH c k H h l vs):eH c k H h (x::l) (v::vs):=⟨v,vs,rfl,y,z⟩
theorem eH.one (y:VR c k H h x v):eH c k H h [x] [v]:=.cons y rfl
theorem Fq (i:Int) (t:Tok):VR c k H h (.int i) (.int i t):=⟨t,rfl⟩
theorem OP {e:Nat} (x:h.get? a=some (ic vs e)) (y:eH c k H h l vs):VR c k H h (.tup l) (.ref a):=⟨a,vs,e,rfl,x,y⟩
theorem eH.length:∀{l:List V} {vs:List Value},eH c k H h l vs->l.length=vs.length
 |[],_,r=>r▸rfl
 |_::_,_,r=>r.cE (P:=λvs=>_=vs.length) λ_ _ _ q=>congrArg Nat.succ q.length
theorem eH.get:∀{l:List V} {vs:List Value} {i:Nat} {x:V},eH c k H h l vs->l[i]?=some x->∃v,vs[i]?=some v∧VR c k H h x v
 |_::_,_,0,x,r,e=>r.cE (P:=λvs=>∃v,vs[0]?=some v∧VR c k H h x v) λv _ p _=>⟨v,rfl,ax e▸p⟩
 |_::_,_,i+1,x,r,e=>r.cE (P:=λvs=>∃v,vs[i+1]?=some v∧VR c k H h x v) λ_ _ _ q=>q.get (i:=i) e
theorem eH.append:∀{l r:List V} {vs us:List Value},eH c k H h l vs->eH c k H h r us->eH c k H h (l++r) (vs++us)
 |[],_,_,_,a,b=>a.nE (P:=λvs=>eH c k H h _ (vs++_)) b
 |_::_,_,_,_,a,b=>a.cE (P:=λvs=>eH c k H h _ (vs++_)) λ_ _ p q=>.cons p (q.append b)
end
end
section
section
variable {c:Cx} {k k' HW:Lk} {H H' K3:Hp} {h h' K4:Heap} {a b d:Addr} {X:Addr->Prop} {j n:Nat} {o o' x:O} {v:Value} {l r:List V} {vs us:List Value}
theorem oK {o:Obj} {n:String} (q:o.cls= .type n) (g:n≠"tuple"):iR o:=λ_ _ z=>g (by rw[z]at q;cases q;rfl)
theorem mw {o:Obj} {es ep} (q:o.data= .dict es ep):iR o:=λ_ _ z=>by rw[z]at q;cases q
theorem sL {o:Obj} {v} (q:o.data= .cell v):iR o:=λ_ _ z=>by rw[z]at q;cases q
theorem AH {κ:Type} [DecidableEq κ] {knd:KeyKind c.prog c.w κ} {kvs:List (κ×Value)} (x:h.DictOf knd a kvs):∃b,h.get? a=some b∧iR b:=by
 obtain⟨o,es,ep,q,_,d,_⟩:=x;exact⟨o,q,mw d⟩
theorem OR.lv (x:OR c k H h j o) (z:At k j o a):∃b,h.get? a=some b∧iR b:=by
 rcases z with rfl|⟨i,rfl⟩
 ·cases o with
  |list|ro=>obtain⟨_,vs,e,q,_⟩:=x;exact⟨_,q,oK rfl (by decide)⟩
  |bc|fi|kH=>obtain⟨_,q,_⟩:=x;exact AH q
  |bV|ft=>obtain⟨_,⟨o,es,ep,q,_,d,_⟩,_⟩:=x;exact⟨o,q,mw d⟩
  |inst=>exact⟨_,x.2.1,λ_ _ z=>by cases z⟩
 ·cases o with
  |inst=>obtain⟨_,_,es,e,q,_⟩:=x;exact⟨_,q,mw rfl⟩
  |_=>exact ff i
theorem dw.OQ (S:dw c k H h) {e:Nat} (q:h.get? a=some (ic vs e)):nJ k H a:=λ_ _ ho z=>let⟨_,hb,hn⟩:=(S.2 _ _ ho).lv z;hn _ _ (ax (hb.symm.trans q))
theorem nJ.ow (x:nJ k H a):¬Oo k H a:=fun⟨j,o,e,_,z⟩=>x j o e z
theorem dw.xR (S:dw c k H h) (q:h.get? a=none):nJ k H a:=λ_ _ ho z=>let⟨_,hb,_⟩:=(S.2 _ _ ho).lv z;cW q hb
theorem dw.FK (S:dw c k H h) (q:h.get? a=none):c.hb.get? a=none:=by
 cases z:c.hb.get? a with
 |none=>rfl
 |some o=>exact cW q (S.1 _ _ z)
theorem j0 {α:Type} {l:List α} {o:α} (e:l[j]?=some o):j<l.length:=(ah.mp e).1
theorem nJ.im (x:nJ k H a) (l:j<H.length):k.ι j≠a:=λz=>x j _ (ao l) (.inl z.symm)
theorem jx.refl:jx X k H h k H h:=⟨aC _,λ_ _=>⟨rfl,rfl⟩,λ_ _ _ _ e=>e,λ_ e=>e,λ_ _ e _=>e,λ_ a b=>absurd b (bE.mpr a),λ_ o _ e=>⟨o,e,id⟩⟩
theorem jx.trans (x:jx X k H h k' H' h') (y:jx X k' H' h' HW K3 K4):jx X k H h HW K3 K4:=.mk
 (aj x.1 y.1)
 (λj l=>⟨(y.2 j (aw l x.1)).1.trans (x.2 j l).1,(y.2 j (aw l x.1)).2.trans (x.2 j l).2⟩)
 (λb o f n e=>y.3 b o (x.5 b o f e) n (x.3 b o f n e))
 (λb e=>y.4 b (x.4 b e))
 (λb o e l=>by
  by_cases n:X b
  ·obtain⟨o',l',_⟩:=x.7 b o n l;exact y.5 b o' (x.5 b o e l) l'
  ·exact y.5 b o (x.5 b o e l) (x.3 b o e n l))
 (λj a b=>by
  rcases ba j H'.length with l|l
  ·rw[(y.2 j l).1];exact x.6 j a l
  ·obtain⟨f1,f2⟩:=y.6 j l b
   have g:=λz=>f1 (x.4 _ z)
   refine⟨g,?_⟩
   cases z:h.get? (HW.ι j)with
   |none=>rfl
   |some o=>
    by_cases n:X (HW.ι j)
    ·obtain⟨o',l',_⟩:=x.7 _ o n z;exact cW f2 l'
    ·exact cW f2 (x.3 _ _ g n z))
 (λb o n l=>by obtain⟨o',l',t⟩:=x.7 b o n l;obtain⟨o2,l2,t2⟩:=y.7 b o' n l';exact⟨o2,l2,λz=>t2 (t z)⟩)
theorem jx.mono {Y:Addr->Prop} (x:jx X k H h k' H' h') (i:∀b o,X b->h.get? b=some o->Y b) (n:∀b,Y b->¬Oo k H b):jx Y k H h k' H' h':=
 ⟨x.1,x.2,λb o f q e=>x.3 b o f (λz=>q (i b o z e)) e,x.4,x.5,x.6,λb o y l=>by
  by_cases z:X b
  ·exact x.7 b o z l
  ·exact⟨o,x.3 b o (n b y) z l,id⟩⟩
theorem jx.keeps (e:∀b o,¬X b->h.get? b=some o->h'.get? b=some o) (l:∀b o,X b->h.get? b=some o->∃o',h'.get? b=some o'∧(iR o->iR o')):jx X k H h k H h':=
 ⟨aC _,λ_ _=>⟨rfl,rfl⟩,λb o _=>e b o,λ_ e=>e,λ_ _ e _=>e,λ_ a b=>absurd b (bE.mpr a),l⟩
theorem Mw.keep (e:∀b o,h.get? b=some o->h'.get? b=some o):Mw k H h k H h':=⟨aC _,λ_ _=>rfl,λ_ _ _=>e _ _⟩
theorem jx.mv (F:jx X k H h k' H' h') (S:dw c k H h) (n:∀a vs e,X a->h.get? a≠some (ic vs e)):Mw k H h k' H' h':=⟨F.1,λj l=>(F.2 j l).1,λa _ _ q=>F.3 _ _ (S.OQ q).ow (λx=>n _ _ _ x q) q⟩
theorem rF {ks:List Int} {e:Nat} (x:(tupleKind (ik c)).is h ks a) (q:h.get? a=some (ic vs e)) (q':h'.get? a=some (ic vs e)):(tupleKind (ik c)).is h' ks a:=by
 obtain⟨o,its,n,g,r⟩:=x
 cases g.symm.trans q
 exact⟨_,its,n,q',r⟩
theorem rG {κ:Type} [DecidableEq κ] {knd:KeyKind c.prog c.w κ} {kvs:List (κ×Value)} (x:h.DictOf knd a kvs) (e:∀o,h.get? a=some o->h'.get? b=some o):h'.DictOf knd b kvs:=by
 obtain⟨o,es,ep,q,z⟩:=x;exact⟨o,es,ep,e _ q,z⟩
theorem jo.kN {κ:Type} {kvs:List (κ×Value)} {P:List (κ×Value)->Prop} (r:jo c k H h ([]:List (κ×V)) kvs) (q:P []):P kvs:=cq r▸q
theorem jo.kC {κ:Type} {p:κ×V} {d:List (κ×V)} {kvs:List (κ×Value)} {P:List (κ×Value)->Prop} (r:jo c k H h (p::d) kvs) (q:∀v LH,VR c k H h p.2 v->jo c k H h d LH->P ((p.1,v)::LH)):P kvs:=
 ju r λv x=>x.elim λr x=>cq x.1▸q v r x.2.1 x.2.2
theorem jo.mono {κ:Type} (m:Mw k H h k' H' h'):∀{d:List (κ×V)} {kvs:List (κ×Value)},jo c k H h d kvs->jo c k' H' h' d kvs
 |[],_,x=>x
 |_::_,_,x=>x.kC (P:=λkvs=>jo c k' H' h' _ kvs) λv r a b=>⟨v,r,rfl,a.mono m,b.mono m⟩
theorem qQ.mono (m:Mw k H h k' H' h'):∀{d:List (Nat×V)} {es:List DictEntry},qQ c k H h d es->qQ c k' H' h' d es
 |[],_,x=>x
 |_::_,_,⟨hh,x,t,v,r,e,a,b,z⟩=>⟨hh,x,t,v,r,e,a,b.mono m,z.mono m⟩
theorem K1.mono {d:List (Int×V)} (m:Mw k H h k' H' h') (e:∀o,h.get? (k.ι j)=some o->h'.get? (k'.ι j)=some o) (x:K1 c k H h j d):K1 c k' H' h' j d:=by
 obtain⟨kvs,D,P⟩:=x;exact⟨kvs,rG D e,P.mono m⟩
theorem K2.mono {d:List (List Int×V)} (m:Mw k H h k' H' h') (e:∀o,h.get? (k.ι j)=some o->h'.get? (k'.ι j)=some o) (x:K2 c k H h j d):K2 c k' H' h' j d:=by
 obtain⟨xs,⟨o,es,ep,q,z1,z2,z3,z4,z5⟩,zt,P⟩:=x
 refine⟨xs,⟨o,es,ep,e _ q,z1,z2,z3,λy hy=>?_,z5⟩,λy hy=>?_,P.mono m⟩
 ·obtain⟨_,_,g⟩:=zt y hy;exact rF (z4 y hy) g (m.3 _ _ _ g)
 ·obtain⟨vs,e,g⟩:=zt y hy;exact⟨vs,e,m.3 _ _ _ g⟩
theorem OR.mono (x:OR c k H h j o) (m:Mw k H h k' H' h') (i:k'.ι j=k.ι j) (i':k'.δ j=k.δ j) (e:∀a b,At k j o a->h.get? a=some b->h'.get? a=some b):OR c k' H' h' j o:=by
 have e1:∀b,h.get? (k.ι j)=some b->h'.get? (k'.ι j)=some b:=λb=>i.symm▸e _ b (.inl rfl)
 cases o with
 |list l=>obtain⟨z,vs,e,q,r⟩:=x;exact⟨z,vs,e,e1 _ q,r.mono m⟩
 |bc d|fi d=>exact K1.mono m e1 x
 |bV d|ft d=>exact K2.mono m e1 x
 |kH d=>obtain⟨kvs,D,r⟩:=x;exact⟨kvs,rG D e1,r⟩
 |inst cl fs=>obtain⟨q0,q,es,n,q2,r⟩:=x;exact⟨q0,i'.symm▸e1 _ q,es,n,i'.symm▸e _ _ (.inr ⟨rfl,rfl⟩) q2,r.mono m⟩
 |ro l=>obtain⟨z,vs,e,q,r⟩:=x;exact⟨z,vs,e,e1 _ q,r⟩
theorem dw.Cb (S:dw c k H h) (hX:∀a,X a->nJ k H a∧c.hb.get? a=none) (hn:∀a vs e,X a->h.get? a≠some (ic vs e)) (e:∀b o,¬X b->h.get? b=some o->h'.get? b=some o):dw c k H h':=
 ⟨λb o q=>e _ _ (λz=>cW (hX _ z).2 q) (S.1 b o q),λj o q=>(S.2 j o q).mono ⟨aC _,λ_ _=>rfl,λ_ _ _ q=>e _ _ (λx=>hn _ _ _ x q) q⟩ rfl rfl λa b z=>e _ _ λx=>(hX _ x).1 _ _ q z,S.3,S.4⟩
theorem dw.keeps (S:dw c k H h) (e:∀b o,h.get? b=some o->h'.get? b=some o):dw c k H h':=S.Cb (X:=NY) (λ_ x=>x.elim) (λ_ _ _ x=>x.elim) λb o _=>e b o
theorem qR {α:Type} {l:List α} {i:Nat} {o x:α} (e:(l.set j o)[i]?=some x):(i=j∧x=o)∨(i≠j∧l[i]?=some x):=by
 by_cases q:i=j
 ·subst q;rw[a8 (by have:=j0 e;rwa[aU]at this)]at e;exact .inl ⟨rfl,(ax e).symm⟩
 ·rw[a9 (dU q)]at e;exact .inr ⟨q,e⟩
theorem dw.set (S:dw c k H h) (hj:H[j]?=some o) (hi:o'.dL=o.dL) (hm:o'.made=o.made) (hX:∀a,X a->o.made=true∧At k j o a) (e:∀a b,¬X a->h.get? a=some b->h'.get? a=some b) (x:OR c k H h' j o'):dw c k (H.set j o') h':=by
 have back:∀{i:Nat} {y:O},(H.set j o')[i]?=some y->∃z,H[i]?=some z∧y.made=z.made∧∀a,At k i y a->At k i z a:=λq=>by
  rcases qR q with⟨rfl,rfl⟩|⟨_,q⟩
  ·exact⟨_,hj,hm,λa z=>z.imp id λz=>⟨hi▸z.1,z.2⟩⟩
  ·exact⟨_,q,rfl,λ_ z=>z⟩
 have m:∀{h:Heap},Mw k H h k (H.set j o') h:=⟨by rw[aU];exact aC _,λ_ _=>rfl,λ_ _ _ q=>q⟩
 have nt:∀a vs n,h.get? a=some (ic vs n)->h'.get? a=some (ic vs n):=λa vs n q=>e _ _ (λz=>S.OQ q _ _ hj (hX _ z).2) q
 refine⟨λb o q=>e _ _ (λz=>cW (S.3 _ _ _ hj (hX _ z).1 (hX _ z).2).1 q) (S.1 b o q),λi y q=>?_,λi y a q w z=>?_,λa i i' y y' q q' z z'=>?_⟩
 ·rcases qR q with⟨rfl,rfl⟩|⟨n,q⟩
  ·exact x.mono m rfl rfl λ_ _ _ e=>e
  ·exact(S.2 i y q).mono ⟨m (h:=h).1,λ_ _=>rfl,nt⟩ rfl rfl λa b z=>e _ _ λw=>n (S.4 a i j _ _ q hj z (hX _ w).2)
 ·obtain⟨y',q,f,g⟩:=back q;exact S.3 i y' a q (f▸w) (g _ z)
 ·obtain⟨_,q,_,g⟩:=back q;obtain⟨_,q',_,g'⟩:=back q';exact S.4 a _ _ _ _ q q' (g _ z) (g' _ z')
noncomputable def Lk.add (k:Lk) (j:Nat) (a d:Addr):Lk:=⟨λi=>if i=j then a else k.ι i,λi=>if i=j then d else k.δ i⟩
theorem oL {α:Type} {l:List α} {o x:α} (e:(l++[o])[j]?=some x):(j<l.length∧l[j]?=some x)∨(j=l.length∧x=o):=by
 rcases ba j l.length with q|q
 ·exact .inl ⟨q,by rwa[aG q]at e⟩
 ·have i:=j0 e
  rw[aq]at i
  cases bP q (bB i)
  rw[bt]at e;exact .inr ⟨rfl,(ax e).symm⟩
theorem lj (l:j<n):(k.add n a d).ι j=k.ι j∧(k.add n a d).δ j=k.δ j:=⟨if_neg (cr l),if_neg (cr l)⟩
theorem At.old (l:j<n) (z:At (k.add n a d) j o b):At k j o b:=z.imp (λz=>z.trans (lj l).1) λz=>⟨z.1,z.2.trans (lj l).2⟩
theorem At.up (l:j<n) (z:At k j o b):At (k.add n a d) j o b:=z.imp (λz=>z.trans (lj l).1.symm) λz=>⟨z.1,z.2.trans (lj l).2.symm⟩
theorem At.new (z:At (k.add n a d) n o b):b=a∨(o.dL=true∧b=d):=z.imp (λz=>z.trans (if_pos rfl)) λz=>⟨z.1,z.2.trans (if_pos rfl)⟩
theorem Mw.add (e:∀b y,h.get? b=some y->h'.get? b=some y):Mw k H h (k.add H.length a d) (H++[o]) h':=⟨by rw[aq];exact bu _ _,λ_ l=>(lj l).1,λ_ _ _=>e _ _⟩
theorem dw.add (S:dw c k H h) (e:∀b y,h.get? b=some y->h'.get? b=some y) (n:∀b,b=a∨(o.dL=true∧b=d)->nJ k H b∧c.hb.get? b=none∧b≠sysModules) (x:OR c (k.add H.length a d) (H++[o]) h' H.length o):dw c (k.add H.length a d) (H++[o]) h':=by
 refine⟨λb o q=>e _ _ (S.1 b o q),λj y q=>?_,λj y b q w z=>?_,λb i i' y y' q q' z z'=>?_⟩
 ·rcases oL q with⟨l,q⟩|⟨rfl,rfl⟩
  ·exact(S.2 j y q).mono (.add e) (lj l).1 (lj l).2 λ_ _ _=>e _ _
  ·exact x
 ·rcases oL q with⟨l,q⟩|⟨rfl,rfl⟩
  ·exact S.3 j y b q w (z.old l)
  ·exact(n _ z.new).2
 ·rcases oL q with⟨l,r⟩|⟨rfl,rfl⟩<;>rcases oL q' with⟨l',r'⟩|⟨rfl,rfl⟩
  ·exact S.4 b _ _ _ _ r r' (z.old l) (z'.old l')
  ·exact absurd (z.old l) ((n _ z'.new).1 _ _ r)
  ·exact absurd (z'.old l') ((n _ z.new).1 _ _ r')
  ·rfl
theorem jx.add (F:jx X k H h k' H' h') (e:∀b y,h'.get? b=some y->K4.get? b=some y) (n:∀b,b=a∨(o.dL=true∧b=d)->¬Oo k H b∧h.get? b=none):jx X k H h (k'.add H'.length a d) (H'++[o]) K4:=.mk
 (by rw[aq];exact aj F.1 (bu _ _))
 (λj l=>⟨(lj (aw l F.1)).1.trans (F.2 j l).1,(lj (aw l F.1)).2.trans (F.2 j l).2⟩)
 (λb y f x q=>e _ _ (F.3 b y f x q))
 (λb q=>by
  obtain⟨j,y,q,w,z⟩:=F.4 b q
  exact⟨j,y,(aG (j0 q)).trans q,w,z.up (j0 q)⟩)
 (λb y f q ⟨j,y',g,w,z⟩=>by
  rcases oL g with⟨l,g⟩|⟨rfl,rfl⟩
  ·exact F.5 b y f q ⟨j,y',g,w,z.old l⟩
  ·exact cW (n _ z.new).2 q)
 (λj l l'=>by
  rw[aq]at l'
  rcases ba j H'.length with i|i
  ·rw[(lj i).1];exact F.6 j l i
  ·rw[show(k'.add H'.length a d).ι j=a from if_pos (bP (bB l') i)];exact n _ (.inl rfl))
 (λb y x q=>by obtain⟨y',q,t⟩:=F.7 b y x q;exact⟨y',e _ _ q,t⟩)
theorem VR.new (l:H.length=n):VR c (k.add n a d) (H++[o]) h (.ref n) (.ref a):=⟨by rw[aq,l];exact bT _,congrArg Value.ref (if_pos rfl).symm⟩
end
end
section
structure Tb where
 st:List Str
 at_:List Str
 gi:List (Str×Int)
 fn:List Str
 cn:List Str
 rk:List Nat
 P:Pg
section
variable {α β γ δ:Type}
noncomputable def z2 (_:α) (_:β):=false
noncomputable def z3 (_:α) (_:β) (_:γ):=false
noncomputable def z4 (_:α) (_:β) (_:γ) (_:δ):=false
theorem Z2 {P:α->β->Prop} x y (h:z2 x y=true):P x y:=ff h
theorem Z3 {P:α->β->γ->Prop} x y z (h:z3 x y z=true):P x y z:=ff h
theorem Z4 {P:α->β->γ->δ->Prop} x y z w (h:z4 x y z w=true):P x y z w:=ff h
noncomputable def pick (n:Str->Pos->Bool) (b:Expr->Operator->Expr->Pos->Bool) (u:UnaryOp->Expr->Pos->Bool) (c:Expr->List CmpOp->List Expr->Pos->Bool) (o:BoolOp->List Expr->Pos->Bool) (i:Expr->Expr->Expr->Pos->Bool)
  (l:List Expr->Pos->Bool) (t:List Expr->Nat->Pos->Bool) (d:List (Option Expr)->List Expr->Pos->Bool) (m:Expr->List Comprehension->Scope->Pos->Bool) (s:Expr->Expr->Pos->Bool)
  (r:Option Expr->Option Expr->Option Expr->Pos->Bool) (a:Expr->Str->Pos->Bool) (f:Expr->List Expr->List Keyword->Pos->Bool) (k:Const->Nat->Pos->Bool):Expr->Bool
 | .Name x y=>n x y
 | .BinOp x y z w=>b x y z w
 | .UnaryOp x y z=>u x y z
 | .Compare x y z w=>c x y z w
 | .BoolOp x y z=>o x y z
 | .IfExp x y z w=>i x y z w
 | .List x y=>l x y
 | .Tuple x y z=>t x y z
 | .Dict x y z=>d x y z
 | .ListComp x y z w=>m x y z w
 | .Subscript x y z=>s x y z
 | .Slice x y z w=>r x y z w
 | .Attribute x y z=>a x y z
 | .Call x y z w=>f x y z w
 | .Constant x y z=>k x y z
 |_=>false
theorem dC {P:Expr->Prop} {n b u c o i l t d m s r a f k}:∀{e},pick n b u c o i l t d m s r a f k e=true->(∀x y,n x y=true->P (.Name x y))->(∀x y z w,b x y z w=true->P (.BinOp x y z w))->(∀x y z,u x y z=true->P (.UnaryOp x y z))->
  (∀x y z w,c x y z w=true->P (.Compare x y z w))->(∀x y z,o x y z=true->P (.BoolOp x y z))->(∀x y z w,i x y z w=true->P (.IfExp x y z w))->(∀x y,l x y=true->P (.List x y))->(∀x y z,t x y z=true->P (.Tuple x y z))->(∀x y z,d x y z=true->P (.Dict x y z))->
  (∀x y z w,m x y z w=true->P (.ListComp x y z w))->(∀x y z,s x y z=true->P (.Subscript x y z))->(∀x y z w,r x y z w=true->P (.Slice x y z w))->(∀x y z,a x y z=true->P (.Attribute x y z))->(∀x y z w,f x y z w=true->P (.Call x y z w))->
  (∀x y z,k x y z=true->P (.Constant x y z))->P e:=by
 intro e h n b u c o i l t d m s r a f k
 cases e<;>first|exact n _ _ h|exact b _ _ _ _ h|exact u _ _ _ h|exact c _ _ _ _ h|exact o _ _ _ h|exact i _ _ _ _ h|exact l _ _ h|exact t _ _ _ h|exact d _ _ _ h|exact m _ _ _ _ h|exact s _ _ _ h|exact r _ _ _ _ h|exact a _ _ _ h|exact f _ _ _ _ h|exact k _ _ _ h|exact ff h
variable {P:Expr->Prop} {e:Expr}
theorem anyE {o:Option α} {f:α->Bool} {P:Prop} (h:o.any f=true) (k:∀t,f t=true->P):P:=by
 cases o with
 |none=>exact ff h
 |some t=>exact k t h
theorem cI {a b:Bool} (h:(a&&b)=true):a=true∧b=true:=gy.mp h
theorem iW {a b:Bool} {P:Prop} (h:(a&&b)=true) (k:a=true->b=true->P):P:=k (cI h).1 (cI h).2
theorem i7 {a b c:Bool} {P:Prop} (h:(a&&(b&&c))=true) (k:a=true->b=true->c=true->P):P:=iW h λh1 h=>iW h (k h1)
theorem oW {a b c d:Bool} {P:Prop} (h:(a&&(b&&(c&&d)))=true) (k:a=true->b=true->c=true->d=true->P):P:=iW h λh1 h=>i7 h (k h1)
theorem u9 {a b c d e:Bool} {P:Prop} (h:(a&&(b&&(c&&(d&&e))))=true) (k:a=true->b=true->c=true->d=true->e=true->P):P:=iW h λh1 h=>oW h (k h1)
theorem cJ [BEq α] [LawfulBEq α] {a b:α} (h:(a==b)=true):a=b:=beq_iff_eq.mp h
theorem sM {a:Bool} (h:(!a)=true):a=false:=kZ a▸h
noncomputable def w1 (f:α->Bool):List α->Bool
 |[x]=>f x
 |_=>false
noncomputable def w2 (f:α->α->Bool):List α->Bool
 |[x,y]=>f x y
 |_=>false
noncomputable def zo (f:α->List α->Bool):List α->Bool
 |x::y=>f x y
 |_=>false
theorem K5 {P:List α->Prop} {f:α->Bool}:∀{l},w1 f l=true->(∀x,f x=true->P [x])->P l
 |[_],h,k=>k _ h
theorem K6 {P:List α->Prop} {f:α->α->Bool}:∀{l},w2 f l=true->(∀x y,f x y=true->P [x,y])->P l
 |[_,_],h,k=>k _ _ h
theorem sN {P:List α->Prop} {f:α->List α->Bool}:∀{l},zo f l=true->(∀x y,f x y=true->P (x::y))->P l
 |_::_,h,k=>k _ _ h
theorem sO {P:List α->Prop}:∀{l},l.isEmpty=true->P []->P l
 |[],_,k=>k
noncomputable def uD (f:Str->Bool):=pick (λx _=>f x) z4 z3 z4 z3 z4 z2 z3 z3 z4 z3 z4 z3 z4 z3
theorem pK {f} (h:uD f e=true) (k:∀x p,f x=true->P (.Name x p)):P e:=dC h k Z4 Z3 Z4 Z3 Z4 Z2 Z3 Z3 Z4 Z3 Z4 Z3 Z4 Z3
noncomputable def LJ (f:Expr->Operator->Expr->Bool):=pick z2 (λx y z _=>f x y z) z3 z4 z3 z4 z2 z3 z3 z4 z3 z4 z3 z4 z3
theorem HX {f} (h:LJ f e=true) (k:∀x y z p,f x y z=true->P (.BinOp x y z p)):P e:=dC h Z2 k Z3 Z4 Z3 Z4 Z2 Z3 Z3 Z4 Z3 Z4 Z3 Z4 Z3
noncomputable def LM (f:UnaryOp->Expr->Bool):=pick z2 z4 (λx y _=>f x y) z4 z3 z4 z2 z3 z3 z4 z3 z4 z3 z4 z3
theorem Cc {f} (h:LM f e=true) (k:∀x y p,f x y=true->P (.UnaryOp x y p)):P e:=dC h Z2 Z4 k Z4 Z3 Z4 Z2 Z3 Z3 Z4 Z3 Z4 Z3 Z4 Z3
noncomputable def LN (f:Expr->CmpOp->Expr->Bool):=pick z2 z4 z3 (λx o y _=>w1 (λo=>w1 (f x o) y) o) z3 z4 z2 z3 z3 z4 z3 z4 z3 z4 z3
theorem HY {f} (h:LN f e=true) (k:∀x o y p,f x o y=true->P (.Compare x [o] [y] p)):P e:=dC h Z2 Z4 Z3 (λx o y p h=>K5 (P:=λo=>P (.Compare x o y p)) h λo h=>K5 (P:=λy=>P (.Compare x [o] y p)) h λy=>k x o y p) Z3 Z4 Z2 Z3 Z3 Z4 Z3 Z4 Z3 Z4 Z3
noncomputable def HZ (f:Expr->CmpOp->CmpOp->Expr->Expr->Bool):=pick z2 z4 z3 (λx o y _=>w2 (λo o1=>w2 (f x o o1) y) o) z3 z4 z2 z3 z3 z4 z3 z4 z3 z4 z3
theorem I_ {f} (h:HZ f e=true) (k:∀x o o1 y z p,f x o o1 y z=true->P (.Compare x [o,o1] [y,z] p)):P e:=dC h Z2 Z4 Z3 (λx o y p h=>K6 (P:=λo=>P (.Compare x o y p)) h λo o1 h=>K6 (P:=λy=>P (.Compare x [o,o1] y p)) h λy z=>k x o o1 y z p) Z3 Z4 Z2 Z3 Z3 Z4 Z3 Z4 Z3 Z4 Z3
noncomputable def Cd (f:BoolOp->List Expr->Bool):=pick z2 z4 z3 z4 (λx y _=>f x y) z4 z2 z3 z3 z4 z3 z4 z3 z4 z3
theorem u_ {f} (h:Cd f e=true) (k:∀x y p,f x y=true->P (.BoolOp x y p)):P e:=dC h Z2 Z4 Z3 Z4 k Z4 Z2 Z3 Z3 Z4 Z3 Z4 Z3 Z4 Z3
noncomputable def wIf (f:Expr->Expr->Expr->Bool):=pick z2 z4 z3 z4 z3 (λx y z _=>f x y z) z2 z3 z3 z4 z3 z4 z3 z4 z3
theorem LO {f} (h:wIf f e=true) (k:∀x y z p,f x y z=true->P (.IfExp x y z p)):P e:=dC h Z2 Z4 Z3 Z4 Z3 k Z2 Z3 Z3 Z4 Z3 Z4 Z3 Z4 Z3
noncomputable def H_ (f:List Expr->Bool):=pick z2 z4 z3 z4 z3 z4 (λx _=>f x) z3 z3 z4 z3 z4 z3 z4 z3
theorem Ce {f} (h:H_ f e=true) (k:∀x p,f x=true->P (.List x p)):P e:=dC h Z2 Z4 Z3 Z4 Z3 Z4 k Z3 Z3 Z4 Z3 Z4 Z3 Z4 Z3
noncomputable def Ja (f:List Expr->Bool):=pick z2 z4 z3 z4 z3 z4 z2 (λx _ _=>f x) z3 z4 z3 z4 z3 z4 z3
theorem Cf {f} (h:Ja f e=true) (k:∀x n p,f x=true->P (.Tuple x n p)):P e:=dC h Z2 Z4 Z3 Z4 Z3 Z4 Z2 k Z3 Z4 Z3 Z4 Z3 Z4 Z3
noncomputable def Ia:=pick z2 z4 z3 z4 z3 z4 z2 z3 (λx y _=>x.isEmpty&&y.isEmpty) z4 z3 z4 z3 z4 z3
theorem Cg (h:Ia e=true) (k:∀p,P (.Dict [] [] p)):P e:=dC h Z2 Z4 Z3 Z4 Z3 Z4 Z2 Z3 (λx y p h=>iW h λh g=>sO (P:=λx=>P (.Dict x y p)) h (sO (P:=λy=>P (.Dict [] y p)) g (k p))) Z4 Z3 Z4 Z3 Z4 Z3
noncomputable def Ib (f:Expr->Str->Expr->List Expr->Scope->Bool):=pick z2 z4 z3 z4 z3 z4 z2 z3 z3 (λy g s _=>w1 (λg=>uD (λx=>g.is_async==0&&f y x g.iter g.ifs s) g.target) g) z3 z4 z3 z4 z3
theorem Jb {y:Expr} {s:Scope} {f:Expr->Str->Expr->List Expr->Scope->Bool} {P:Comprehension->Prop}:∀{g:Comprehension},uD (λx=>g.is_async==0&&f y x g.iter g.ifs s) g.target=true->(∀x p i l,f y x i l s=true->P ⟨.Name x p,i,l,0⟩)->P g
 |⟨t,i,l,a⟩,h,k=>pK (P:=λt=>P ⟨t,i,l,a⟩) h λx p h=>iW h λh1 h=>by
  cases(cJ h1:a=0)
  exact k x p i l h
theorem x_ {f} (h:Ib f e=true) (k:∀y x p i l s q,f y x i l s=true->P (.ListComp y [⟨.Name x p,i,l,0⟩] s q)):P e:=dC h Z2 Z4 Z3 Z4 Z3 Z4 Z2 Z3 Z3 (λy g s q h=>K5 (P:=λg=>P (.ListComp y g s q)) h λg h=>Jb (P:=λg=>P (.ListComp y [g] s q)) h λx p i l=>k y x p i l s q) Z3 Z4 Z3 Z4 Z3
noncomputable def AI (f:Expr->Expr->Bool):=pick z2 z4 z3 z4 z3 z4 z2 z3 z3 z4 (λx y _=>f x y) z4 z3 z4 z3
theorem wj {f} (h:AI f e=true) (k:∀x y p,f x y=true->P (.Subscript x y p)):P e:=dC h Z2 Z4 Z3 Z4 Z3 Z4 Z2 Z3 Z3 Z4 k Z4 Z3 Z4 Z3
noncomputable def uc (f:α->Bool):Option α->Bool
 |some x=>f x
 |none=>false
theorem zp {P:Option α->Prop} {f:α->Bool}:∀{o},uc f o=true->(∀x,f x=true->P (some x))->P o
 |some _,h,k=>k _ h
theorem zv {P:Option α->Prop}:∀{o},o.isNone=true->P none->P o
 |none,_,k=>k
noncomputable def Ic (f:Expr->Bool):=pick z2 z4 z3 z4 z3 z4 z2 z3 z3 z4 z3 (λx y z _=>uc (λy=>x.isNone&&(z.isNone&&f y)) y) z3 z4 z3
theorem Jc {f} (h:Ic f e=true) (k:∀x p,f x=true->P (.Slice none (some x) none p)):P e:=
 dC h Z2 Z4 Z3 Z4 Z3 Z4 Z2 Z3 Z3 Z4 Z3 (λx y z p h=>zp (P:=λy=>P (.Slice x y z p)) h λy h=>i7 h λh1 h2 h=>zv (P:=λx=>P (.Slice x (some y) z p)) h1 (zv (P:=λz=>P (.Slice none (some y) z p)) h2 (k y p h))) Z3 Z4 Z3
noncomputable def Id (f:Expr->Bool):=pick z2 z4 z3 z4 z3 z4 z2 z3 z3 z4 z3 (λx y z _=>uc (λx=>y.isNone&&(z.isNone&&f x)) x) z3 z4 z3
theorem Jd {f} (h:Id f e=true) (k:∀x p,f x=true->P (.Slice (some x) none none p)):P e:=
 dC h Z2 Z4 Z3 Z4 Z3 Z4 Z2 Z3 Z3 Z4 Z3 (λx y z p h=>zp (P:=λx=>P (.Slice x y z p)) h λx h=>i7 h λh1 h2 h=>zv (P:=λy=>P (.Slice (some x) y z p)) h1 (zv (P:=λz=>P (.Slice (some x) none z p)) h2 (k x p h))) Z3 Z4 Z3
noncomputable def zA (f:Expr->Str->Pos->Bool):=pick z2 z4 z3 z4 z3 z4 z2 z3 z3 z4 z3 z4 f z4 z3
theorem vd {f} (h:zA f e=true) (k:∀x n p,f x n p=true->P (.Attribute x n p)):P e:=dC h Z2 Z4 Z3 Z4 Z3 Z4 Z2 Z3 Z3 Z4 Z3 Z4 k Z4 Z3
noncomputable def sP (f:Str->List Expr->Bool):=pick z2 z4 z3 z4 z3 z4 z2 z3 z3 z4 z3 z4 z3 (λg l k _=>k.isEmpty&&uD (λx=>f x l) g) z3
theorem qS {f} (h:sP f e=true) (k:∀x q l p,f x l=true->P (.Call (.Name x q) l [] p)):P e:=
 dC h Z2 Z4 Z3 Z4 Z3 Z4 Z2 Z3 Z3 Z4 Z3 Z4 Z3 (λg l w p h=>iW h λh1 h=>sO (P:=λw=>P (.Call g l w p)) h1 (pK (P:=λg=>P (.Call g l [] p)) h λx q=>k x q l p)) Z3
noncomputable def zB (f:Expr->Str->List Expr->Bool):=pick z2 z4 z3 z4 z3 z4 z2 z3 z3 z4 z3 z4 z3 (λg l k p=>k.isEmpty&&zA (λx n q=>(q.endLine==p.line&&decide (l.length<20))&&f x n l) g) z3
theorem vf {f} (h:zB f e=true) (k:∀x n q l p,(q.endLine==p.line&&decide (l.length<20))=true->f x n l=true->P (.Call (.Attribute x n q) l [] p)):P e:=
 dC h Z2 Z4 Z3 Z4 Z3 Z4 Z2 Z3 Z3 Z4 Z3 Z4 Z3 (λg l w p h=>iW h λh1 h=>sO (P:=λw=>P (.Call g l w p)) h1 (vd (P:=λg=>P (.Call g l [] p)) h λx n q h=>iW h (k x n q l p))) Z3
noncomputable def gd (m r:Bool):=pick (λ_ _=>true) (λ_ _ _ _=>true) (λ_ _ _=>true) (λ_ _ _ _=>true) (λ_ _ _=>true) (λ_ _ _ _=>true) (λ_ _=>true) (λ_ _ _=>true) (λ_ _ _=>true) (λ_ _ _ _=>m) (λ_ _ _=>true) (λ_ _ _ _=>r) (λ_ _ _=>true) (λ_ _ _ _=>true) λ_ _ _=>true
noncomputable def mq:=pick z2 z4 z3 z4 z3 z4 z2 z3 z3 (λ_ _ _ _=>true) z3 z4 z3 z4 z3
noncomputable def eX:=pick (λ_ _=>true) (λ_ _ _ _=>true) (λ_ _ _=>true) (λ_ _ _ _=>true) (λ_ _ _=>true) (λ_ _ _ _=>true) (λ_ _=>true) (λ_ _ _=>true) (λ_ _ _=>true) (λ_ _ _ _=>true) (λ_ _ _=>true) (λ_ _ _ _=>true) (λ_ _ _=>true) (λg _ _ _=>pick (λx _=>x !="super") z4 z3 z4 z3 z4 z2 z3 z3 z4 z3 z4 (λ_ _ _=>true) z4 z3 g) λ_ _ _=>true
end
noncomputable def yb:Option NameKind->Bool
 |some .local|some .cell|some .free=>true
 |_=>false
noncomputable def qT (x:Str):Bool:=!(x==("__debug__":Str))&& !(x==("__classdict__":Str))
noncomputable def LP:LG->Operator
 | .add=>.Add| .sub=>.Sub| .mul=>.Mult| .fdiv=>.FloorDiv| .mod=>.Mod| .band=>.BitAnd| .bor=>.BitOr| .shl=>.LShift| .shr=>.RShift
noncomputable def Fr:B1->CmpOp
 | .eq=>.Eq| .ne=>.NotEq| .lt=>.Lt| .le=>.LtE| .gt=>.Gt| .ge=>.GtE| .is=>.Is| .xZ=>.IsNot| .isin=>.In| .jG=>.NotIn
noncomputable def nL (sc:Scope) (x:Str):Bool:=sc.names.lookup x==some .globalImplicit&&qT x
noncomputable def vg (op:CmpOp) (e:Expr):Bool:=!behindInMarks op e
section
variable(T:Tb)
noncomputable def sQ (f:Const->Bool):=pick z2 z4 z3 z4 z3 z4 z2 z3 z3 z4 z3 z4 z3 z4 λc _ _=>f c
noncomputable def LQ (sc:Scope):V->Expr->Bool
 | .none=>sQ (· == .none)
 | .bool b=>sQ (· == .bool b)
 | .int i=>pick (λx _=>nL sc x&&T.gi.lookup x==some i) z4 z3 z4 z3 z4 z2 z3 z3 z4 z3 z4 z3 z4 λc _ _=>c== .int i
 | .str n=>sQ λc=>T.st[n]?.any λx=>c== .str x
 |_=>λ_=>false
noncomputable def wm (f r:Nat):Bool:=match T.rk[f]? with
 |some x=>decide (x<r)
 |none=>false
noncomputable def LR (sc:Scope) (x:Str) (y:Str):Bool:=x==y&&nL sc x
noncomputable def Ch (sc:Scope) (y:Str) (f:Expr->Bool):=sP λx l=>w1 (λa=>LR sc x y&&(gd true true a&&f a)) l
theorem Ci {P:Expr->Prop} {e:Expr} {sc:Scope} {y:Str} {f:Expr->Bool} (h:Ch sc y f e=true) (k:∀q a p,nL sc y=true->gd true true a=true->f a=true->P (.Call (.Name y q) [a] [] p)):P e:=
 qS h λx q l p h=>K5 (P:=λl=>P (.Call (.Name x q) l [] p)) h λa h=>i7 h λh1 h2 h3=>iW h1 λh1 h=>by
  cases cJ h1
  exact k q a p h h2 h3
noncomputable def Ie (y:Str) (f:Expr->List Expr->Bool):=zB λx n l=>n==y&&(eX x&&f x l)
theorem yd {P:Expr->Prop} {e:Expr} {y:Str} {f:Expr->List Expr->Bool} (h:Ie y f e=true) (k:∀x q l p,(q.endLine==p.line&&decide (l.length<20))=true->eX x=true->f x l=true->P (.Call (.Attribute x y q) l [] p)):P e:=
 vf h λx n q l p g h=>i7 h λh1 h2 h3=>by
  cases cJ h1
  exact k x q l p g h2 h3
noncomputable def qb (iZ sc:Scope):Scope:={iZ with names:=iZ.names.map fun(n,k)=>if(k== .free&&sc.kind== .function&&sc.names.lookup n==some .cell)then(n,.cell)else(n,k)}
noncomputable def vh (sc iZ:Scope) (nm:List Str) (x:Str):Bool:=iZ.kind== .function&&(qT x&&(iZ.names.lookup x==some .local&&
 iZ.names.all (λy=>(y.2 != .cell&&iZ.names.lookup y.1==some y.2)&&(y.2 != .free||(qT y.1&&((sc.names.lookup y.1==some .cell||sc.names.lookup y.1==some .free)&&nm.contains y.1))))))
noncomputable def ig (nm:List Str) (caps:List Nat):List Str:=caps.map λi=>nm.getD i Str.empty
noncomputable def sR (nm:List Str) (iZ:Scope) (x:Str) (caps:List Nat):Bool:=
 caps.all (λi=>match nm[i]? with|some n=>iZ.names.lookup n==some .free&&n !=x|none=>false)&&decide (ig nm caps).Nodup
noncomputable def Cj (f g:Expr->Bool) (x:Expr) (l:List Expr):Bool:=w1 (λu=>gd true true u&&(f x&&g u)) l
theorem zE {f g:Expr->Bool} {P:List Expr->Prop} {x:Expr} {l:List Expr} (h:Cj f g x l=true) (k:∀u,gd true true u=true->f x=true->g u=true->P [u]):P l:=K5 h λu h=>i7 h (k u)
mutual
noncomputable def gH (r:Nat) (sc:Scope) (nm:List Str):CE->Expr->Bool
 | .lit v=>LQ T sc v
 | .var i=>uD λx=>nm[i]?==some x&&(yb (sc.names.lookup x)&&qT x)
 | .bin o a b=>LJ λx p y=>p==LP o&&(gH r sc nm a x&&gH r sc nm b y)
 | .neg a=>LM λo x=>o== .USub&&gH r sc nm a x
 | .inv a=>LM λo x=>o== .Invert&&gH r sc nm a x
 | .not a=>LM λo x=>o== .Not&&gH r sc nm a x
 | .cmp o a b=>LN λx p y=>p==Fr o&&(vg p y&&(gH r sc nm a x&&gH r sc nm b y))
 | .pH o o' a b d=>HZ λx p p' y z=>(p==Fr o&&(p'==Fr o'&&(vg p y&&vg p' z)))&&(gH r sc nm a x&&(gH r sc nm b y&&gH r sc nm d z))
 | .and l=>Cd λo x=>o== .And&&jp r sc nm l x
 | .or l=>Cd λo x=>o== .Or&&jp r sc nm l x
 | .ite a b d=>wIf λx y z=>gH r sc nm a x&&(gH r sc nm b y&&gH r sc nm d z)
 | .list l=>H_ (jp r sc nm l)
 | .tup l=>Ja (jp r sc nm l)
 | .iM _=>Ia
 | .comp caps elt it ifs=>Ib λy x i l s=>vh sc s nm x&&(sR nm s x caps&&(LT r sc nm it i&&(gH r (qb s sc) (ig nm caps++[x]) elt y&&jp r (qb s sc) (ig nm caps++[x]) ifs l)))
 | .idx a i=>AI λx y=>gd true false y&&(gH r sc nm a x&&gH r sc nm i y)
 | .sK a i=>AI λx y=>gH r sc nm a x&&Ic (gH r sc nm i) y
 | .p_ a i=>AI λx y=>gH r sc nm a x&&Id (gH r sc nm i) y
 | .attr a f=>zA λx n _=>T.at_[f]?==some n&&(eX x&&gH r sc nm a x)
 | .call f l=>sP λx y=>T.fn[f]?==some x&&(nL sc x&&(wm T f r&&jp r sc nm l y))
 | .new cl l=>sP λx y=>T.cn[cl]?==some x&&(nL sc x&&((T.P.init cl).all (λf=>wm T f r)&&jp r sc nm l y))
 | .bx o m f l=>zB λx n y=>T.at_[m]?==some n&&(eX x&&(wm T f r&&(gH r sc nm o x&&jp r sc nm l y)))
 | .len a=>Ch sc "len" (gH r sc nm a)
 | .sorted a=>Ch sc "sorted" (gH r sc nm a)
 | .listOf a=>Ch sc "list" (gH r sc nm a)
 | .tupleOf a=>Ch sc "tuple" (gH r sc nm a)
 | .intOf a=>Ch sc "int" (gH r sc nm a)
 | .sum a=>Ch sc "sum" (gH r sc nm a)
 | .max a b=>sP λx l=>LR sc x "max"&&w2 (λu v=>gd true true u&&(gd true true v&&(gH r sc nm a u&&gH r sc nm b v))) l
 | .append o a=>Ie "append" (Cj (gH r sc nm o) (gH r sc nm a))
 | .extend o a=>Ie "extend" (Cj (gH r sc nm o) (gH r sc nm a))
 | .pop o=>Ie "pop" λx l=>l.isEmpty&&gH r sc nm o x
 | .u7 o a=>Ie "get" (Cj (gH r sc nm o) (gH r sc nm a))
 | .qO o a b=>Ie "get" λx l=>w2 (λu v=>gd true true u&&(gd true true v&&(gH r sc nm o x&&(gH r sc nm a u&&gH r sc nm b v)))) l
 | .u8 o a=>Ie "pop" (Cj (gH r sc nm o) (gH r sc nm a))
noncomputable def LT (r:Nat) (sc:Scope) (nm:List Str):CI->Expr->Bool
 | .ex a=>λe=>gd true true e&&gH r sc nm a e
 | .range a=>Ch sc "range" (gH r sc nm a)
 | .rev a=>Ch sc "reversed" (gH r sc nm a)
noncomputable def jp (r:Nat) (sc:Scope) (nm:List Str):mo->List Expr->Bool
 | .nil=>List.isEmpty
 | .cons a l=>zo λx xs=>gd true true x&&(gH r sc nm a x&&jp r sc nm l xs)
end
end
end
section
noncomputable def Sm (s s':Shared):Prop:=s'={s with heap:=s'.heap,toks:=s'.toks}
theorem Sm.refl (s:Shared):Sm s s:=rfl
theorem Sm.of (s:Shared) (h:Heap) (t:Nat):Sm s {s with heap:=h,toks:=t}:=rfl
theorem Sm.trans {s s' zF:Shared} (x:Sm s s') (y:Sm s' zF):Sm s zF:=
 (Eq.trans (y:zF=_) (congrArg (λz:Shared=>{z with heap:=zF.heap,toks:=zF.toks}) (x:s'=_)):zF=_)
inductive cX (c:Cx) (X:Addr->Prop) (k:Lk) (H:Hp) (s:Shared) (k':Lk) (H':Hp) (s':Shared):Prop
 |mk (sim:dw c k' H' s'.heap) (Fs:jx X k H s.heap k' H' s'.heap) (sm:Sm s s')
abbrev du (c:Cx) (k:Lk) (H:Hp) (s:Shared) (k':Lk) (H':Hp) (s':Shared):Prop:=cX c NY k H s k' H' s'
noncomputable def B2 (env:Env) (a:Addr):Prop:=a=env.locals∨∃n,env.cells.lookup n=some a
inductive ud (k:Lk) (H:Hp) (h:Heap) (a:Addr):Prop
 |mk (no:nJ k H a) (lv:∃o,h.get? a=some o∧iR o)
inductive LS (c:Cx) (env:Env) (nm:List Str):Prop
 |mk (fn:env.scope.kind= .function) (gl:env.globals=mainGlobals) (bi:env.builtins=builtinsNs) (nd:nm.Nodup) (lup:c.hb.get? env.locals=none) (cup:∀n a,env.kindOf n=some .cell->env.cells.lookup n=some a->c.hb.get? a=none) (cap:∀n n' a,env.cells.lookup n=some a->env.cells.lookup n'=some a->n=n') (cne:∀n,env.cells.lookup n≠some env.locals)
inductive Loc (c:Cx) (k:Lk) (H:Hp) (h:Heap) (env:Env) (nm:List Str) (L:Lc):Prop
 |mk (st:LS c env nm) (len:L.length=nm.length) (fr:∀a,B2 env a->ud k H h a) (ns:∃m,h.Ns env.locals m∧∀(i:Nat) n x,nm[i]?=some n->L[i]?=some (some x)->env.kindOf n=some .local->∃v,m n=some v∧VR c k H h x v) (cell:∀(i:Nat) n,nm[i]?=some n->(env.kindOf n=some .cell∨env.kindOf n=some .free)->∃a ov,env.cells.lookup n=some a∧h.IsCell a ov∧∀x,L[i]?=some (some x)->∃v,ov=some v∧VR c k H h x v)
inductive B3 (A:Around) (r:Nat):Prop
 |mk (hd:A.handled=none) (dp:A.depth+3*r+20<recursionLimit) (un:A.units+40*r+200<cLine) (fr:∃l,A.frames=some l)
section
variable {c:Cx} {k k' HW:Lk} {H H' K3:Hp} {h h':Heap} {s s' zF:Shared} {env:Env} {nm:List Str} {L:Lc} {X:Addr->Prop} {a:Addr} {y:V} {v:Value} {l:List V} {vs:List Value}
theorem nJ.Fs (x:nJ k H a) {o:Obj} (e:h.get? a=some o) (F:jx X k H h k' H' h'):nJ k' H' a:=λj y q z=>by
 rcases z with rfl|⟨i,rfl⟩
 ·rcases ba j H.length with l|l
  ·rw[(F.2 j l).1]at x;exact x.im l rfl
  ·exact cW (F.6 j l (j0 q)).2 e
 ·exact F.5 _ _ x.ow e ⟨j,y,q,by cases y<;>first|rfl|exact ff i,.inr ⟨i,rfl⟩⟩
theorem ud.Fs (x:ud k H h a) (F:jx X k H h k' H' h'):ud k' H' h' a:=by
 obtain⟨p,o,e,t⟩:=x
 refine⟨p.Fs e F,?_⟩
 by_cases n:X a
 ·obtain⟨o',e',t'⟩:=F.7 a o n e;exact⟨o',e',t' t⟩
 ·exact⟨o,F.3 _ _ p.ow n e,t⟩
theorem qc {m:Option Value} (n:h.IsCell a m) (g:∀o,h.get? a=some o->h'.get? a=some o):h'.IsCell a m:=by
 obtain⟨o,q,r⟩:=n;exact⟨o,g _ q,r⟩
theorem Loc.mv (x:Loc c k H h env nm L) (f:∀a,B2 env a->ud k H h a->ud k' H' h' a) (g:∀a o,B2 env a->h.get? a=some o->h'.get? a=some o) (m:Mw k H h k' H' h'):Loc c k' H' h' env nm L:=.mk
 (x.1)
 (x.2)
 (λa p=>f a p (x.3 a p))
 (x.4.elim λm' z=>⟨m',z.1.at λ_=>g _ _ (.inl rfl),λi n y a b d=>(z.2 i n y a b d).elim λv z=>⟨v,z.1,z.2.mono m⟩⟩)
 (λi n a b=>(x.5 i n a b).elim λy z=>z.elim λov z=>⟨y,ov,z.1,qc z.2.1 λ_=>g _ _ (.inr ⟨n,z.1⟩),λu e=>(z.2.2 u e).elim λv z=>⟨v,z.1,z.2.mono m⟩⟩)
theorem du.mv (W:du c k H s k' H' s') (S:dw c k H s.heap):Mw k H s.heap k' H' s'.heap:=W.2.mv S λ_ _ _ x=>x.elim
theorem du.loc (W:du c k H s k' H' s') (S:dw c k H s.heap) (x:Loc c k H s.heap env nm L):Loc c k' H' s'.heap env nm L:=
 x.mv (λ_ _ y=>y.Fs W.2) (λ_ _ p e=>W.2.3 _ _ (x.3 _ p).1.ow id e) (W.mv S)
theorem cX.refl (S:dw c k H s.heap):cX c X k H s k H s:=⟨S,.refl,rfl⟩
theorem du.tok (S:dw c k H s.heap) (t:Nat):du c k H s k H {s with toks:=t}:=⟨S,.refl,rfl⟩
theorem cX.trans (x:cX c X k H s k' H' s') (y:cX c X k' H' s' HW K3 zF):cX c X k H s HW K3 zF:=⟨y.1,x.2.trans y.2,x.3.trans y.3⟩
theorem du.toks (x:du c k H s k' H' s') (t:Nat):du c k H s k' H' {s' with toks:=t}:=x.trans (du.tok x.1 t)
theorem du.vr (S:dw c k H s.heap) (x:du c k H s k' H' s') (r:VR c k H s.heap y v):VR c k' H' s'.heap y v:=r.mono (x.mv S)
theorem du.OS (S:dw c k H s.heap) (x:du c k H s k' H' s') (r:eH c k H s.heap l vs):eH c k' H' s'.heap l vs:=r.mono (x.mv S)
theorem du.keeps (S:dw c k H s.heap) {t:Nat} (e:∀b o,s.heap.get? b=some o->h'.get? b=some o):du c k H s k H {s with heap:=h',toks:=t}:=⟨S.keeps e,.keeps (λb o _=>e b o) (λ_ _ x=>x.elim),rfl⟩
theorem du.zG (S:dw c k H s.heap) (o:Obj) (t:Nat):du c k H s k H {s with heap:=s.heap.push o,toks:=t}:=du.keeps S λb y e=>Heap.get?_push_of_some _ e
end
noncomputable def zH (K:Frag) (C:Addr) (x:Str) (isM:Bool):Bool:=isM||match findIn K (.ref C) x with
 |some a=>noGet K a&&(takerIn K C x==some none)
 |none=>false
inductive nK (c:Cx) (T:Tb):Prop
 |mk (st:∀n x,T.st[n]?=some x->c.G.st n=some x) (stInj:T.st.Nodup) (stOk:∀n x,c.G.st n=some x->(PyData.str x).canLay0=true) (stAll:∀n x,c.G.st n=some x->T.st[n]?=some x) (at_:∀n,c.G.at_ n=T.at_[n]?) (atInj:T.at_.Nodup) (cls:∀a,a<c.G.HV->∀n x,T.at_[n]?=some x->zH c.K (c.G.cl a) x (T.P.xQ a n).isSome=true) (icl:∀a,a<c.G.HV->plainGet c.K (c.G.cl a) ""=true∧hasDictIn c.K (c.G.cl a)=true∧plainOver c.K (c.G.cl a)=true∧findIn c.K (.ref (c.G.cl a)) "__setattr__"=some (some (.builtin "object.__setattr__"))) (xQ:∀a n f,T.P.xQ a n=some f->∀x,T.at_[n]?=some x->findIn c.K (.ref (c.G.cl a)) x=some (some (.ref (c.G.fa f)))∧isFn c.K (.ref (c.G.fa f))=true∧keepIn c.K (.ref (c.G.fa f))=true) (gi:∀x i,T.gi.lookup x=some i->∃t,c.mg x=some (.int i t)) (fn:∀f x,T.fn[f]?=some x->c.mg x=some (.ref (c.G.fa f))) (keep:∀f x,T.fn[f]?=some x->keepIn c.K (.ref (c.G.fa f))=true) (cn:∀a x,T.cn[a]?=some x->c.mg x=some (.ref (c.G.cl a))∧keepIn c.K (.ref (c.G.cl a))=true∧makesIn c.K (c.G.cl a)=true∧a<c.G.HV) (bi:∀x∈([("len":Str),"sorted","list","tuple","int","sum","max","range","reversed","super"]),c.mg x=none)
inductive St (c:Cx) (A:Around) (r:Nat) (k:Lk) (H:Hp) (s:Shared) (env:Env) (nm:List Str) (L:Lc):Prop
 |mk (aok:B3 A r) (sim:dw c k H s.heap) (loc:Loc c k H s.heap env nm L)
theorem St.go {c:Cx} {A:Around} {r:Nat} {k k':Lk} {H H':Hp} {s s':Shared} {env:Env} {nm:List Str} {L:Lc} (S:St c A r k H s env nm L) (W:du c k H s k' H' s'):St c A r k' H' s' env nm L:=⟨S.1,W.1,W.loc S.2 S.3⟩
abbrev Md (c:Cx):Model:=model c.prog c.w
section
variable(c:Cx) (T:Tb)
noncomputable def b9 (e:CE) (L:Lc) (H:Hp) (v:V) (H':Hp):Prop:=
 ∀{A:Around} {r:Nat} {env:Env} {nm:List Str} {pe:Expr} {k:Lk} {s:Shared} {Q:Value->Shared->Prop} {E:Value->Shared->Prop},St c A r k H s env nm L->
  gH T r env.scope nm e pe=true->(∀k' s' v',du c k H s k' H' s'->VR c k' H' s'.heap v v'->Q v' s')->wpAny (Md c) A (eval pe env) Q E s
noncomputable def nO (l:mo) (L:Lc) (H:Hp) (vs:List V) (H':Hp):Prop:=
 ∀{A:Around} {r:Nat} {env:Env} {nm:List Str} {pos:Pos} {kJ:List Expr} {k:Lk} {s:Shared} {Q:List Value->Shared->Prop} {E:Value->Shared->Prop},St c A r k H s env nm L->
  jp T r env.scope nm l kJ=true->(∀k' s' Je,du c k H s k' H' s'->eH c k' H' s'.heap vs Je->Q Je s')->wpAny (Md c) A (spliced (backTo pos (starEach kJ env))) Q E s
noncomputable def lp (e:CE) (L:Lc) (H:Hp) (b:Bool) (H':Hp):Prop:=
 ∀{A:Around} {r:Nat} {env:Env} {nm:List Str} {pe:Expr} {k:Lk} {s:Shared} {Q:Bool->Shared->Prop} {E:Value->Shared->Prop},St c A r k H s env nm L->
  gH T r env.scope nm e pe=true->(∀k' s',du c k H s k' H' s'->Q b s')->wpAny (Md c) A (isTrue pe env (eval pe env)) Q E s
noncomputable def iC (op:BoolOp) (l:mo) (L:Lc) (H:Hp) (b:Bool) (H':Hp):Prop:=
 ∀{A:Around} {r:Nat} {env:Env} {nm:List Str} {kJ:List Expr} {k:Lk} {s:Shared} {Q:Bool->Shared->Prop} {E:Value->Shared->Prop},St c A r k H s env nm L->
  jp T r env.scope nm l kJ=true->(∀k' s',du c k H s k' H' s'->Q b s')->wpAny (Md c) A (allTrue op kJ env) Q E s
noncomputable def wo (op:BoolOp) (l:mo) (L:Lc) (H:Hp) (v:V) (H':Hp):Prop:=
 ∀{A:Around} {r:Nat} {env:Env} {nm:List Str} {pos:Pos} {kJ:List Expr} {k:Lk} {s:Shared} {Q:Value->Shared->Prop} {E:Value->Shared->Prop},St c A r k H s env nm L->
  jp T r env.scope nm l kJ=true->(∀k' s' v',du c k H s k' H' s'->VR c k' H' s'.heap v v'->Q v' s')->wpAny (Md c) A (boolOp pos op (evalEach kJ env)) Q E s
end
section
variable {c:Cx} {T:Tb} {L:Lc} {H H1 H2 H3 H':Hp} {e a b d:CE} {l:mo} {v u:V} {r:Nat} {sc:Scope} {nm:List Str} {pe:Expr}
theorem AJ {P:Prop}:∀{o:Option NameKind},yb o=true->(o=some .local->P)->(o=some .cell∨o=some .free->P)->P
 |some .local,_,k,_=>k rfl
 |some .cell,_,_,g=>g (.inl rfl)
 |some .free,_,_,g=>g (.inr rfl)
theorem qd {x:Str} (q:qT x=true):(x==("__debug__":Str))=false∧(x==("__classdict__":Str))=false:=⟨sM (cI q).1,sM (cI q).2⟩
theorem Loc.ld {k:Lk} {s:Shared} {env:Env} {A:Around} {Q:Value->Shared->Prop} {E:Value->Shared->Prop} {x:Str} {i:Nat} (X:Loc c k H s.heap env nm L) (hx:nm[i]?=some x) (hk:yb (env.scope.names.lookup x)=true)
  (hn:qT x=true) (hl:L[i]?=some (some v)) (h:∀v',VR c k H s.heap v v'->Q v' s):wpAny (Md c) A (loadName env x) Q E s:=by
 refine AJ hk (λz=>?_) λz=>?_
 ·obtain⟨_,ns,w⟩:=X.4
  obtain⟨_,p,q⟩:=w i x v hx hl z
  exact wpAny_loadName_local X.1.1 z ns p (h _ q)
 ·obtain⟨_,_,p,q,w⟩:=X.5 i x hx z
  obtain⟨_,e,q'⟩:=w v hl
  rw[e]at q
  exact z.elim (λz=>wpAny_loadName_cell X.1.1 z p q (h _ q')) λz=>wpAny_loadName_free X.1.1 z p q (h _ q') (qd hn).2
theorem FN {i:Nat} (hl:L[i]?=some (some v)):b9 c T (.var i) L H v H:=by
 intro A r env nm pe k s Q E S ok h
 apply pK ok λx p ok=>i7 ok λh1 h2 h3=>?_
 exact wpAny_Name (S.3.ld (cJ h1) h2 h3 hl λv'=>h _ _ _ (cX.refl S.2)) (qd h3).1
theorem Loc.glob {k:Lk} {s:Shared} {env:Env} {A:Around} {Q:Value->Shared->Prop} {E:Value->Shared->Prop} {x:Str} {pos:Pos} {v:Value} (X:Loc c k H s.heap env nm L) (S:dw c k H s.heap) (hg:nL env.scope x=true) (hm:c.mg x=some v) (h:Q v s):
  wpAny (Md c) A (eval (.Name x pos) env) Q E s:=
 Name_function_global X.1.1 (cJ (cI hg).1) (loadGlobal_global (mg:=c.mg) (X.1.2▸c.T.g.keeps S.1) hm h) (qd (cI hg).2).1
theorem Loc.Ig {k:Lk} {s:Shared} {env:Env} {A:Around} {Q:Value->Shared->Prop} {E:Value->Shared->Prop} {x:Str} {pos:Pos} {v:Value} (X:Loc c k H s.heap env nm L) (S:dw c k H s.heap) (hg:nL env.scope x=true) (hm:c.mg x=none)
  (hb:bootBuiltins x=some v) (hx:x≠"__name__") (h:Q v s):wpAny (Md c) A (eval (.Name x pos) env) Q E s:=
 Name_function_global X.1.1 (cJ (cI hg).1) (loadGlobal_builtin (mg:=c.mg) (mb:=c.mb) (X.1.2▸c.T.g.keeps S.1) hm (X.1.3▸c.T.b.keeps S.1) ((c.T.builtins x hx).trans hb) h) (qd (cI hg).2).1
theorem sj {P:Expr->Prop} {f:Const->Bool} (h:sQ f pe=true) (k:∀x y z,f x=true->P (.Constant x y z)):P pe:=dC h Z2 Z4 Z3 Z4 Z3 Z4 Z2 Z3 Z3 Z4 Z3 Z4 Z3 Z4 k
theorem FO (TO:nK c T):b9 c T (.lit v) L H v H:=by
 intro A r env nm pe k s Q E S ok h
 cases v with
 |none=>apply sj ok λx y z e=>?_;cases cJ e;exact wpAny_Constant_none (h _ _ _ (cX.refl S.2) rfl)
 |bool b=>apply sj ok λx y z e=>?_;cases cJ e;exact wpAny_Constant_bool (h _ _ _ (cX.refl S.2) rfl)
 |int i=>
  apply dC ok (λx p ok=>?_) Z4 Z3 Z4 Z3 Z4 Z2 Z3 Z3 Z4 Z3 Z4 Z3 Z4 λx y z e=>?_
  ·obtain⟨t,ht⟩:=TO.10 _ _ (cJ (cI ok).2)
   exact S.3.glob S.2 (cI ok).1 ht (h _ _ _ (cX.refl S.2) ⟨t,rfl⟩)
  ·cases cJ e;exact wpAny_Constant_int (h _ _ _ (du.tok S.2 _) ⟨_,rfl⟩)
 |str n=>
  apply sj ok λx y z (e:(T.st[n]?.any λy=>x== .str y)=true)=>?_
  cases q:T.st[n]? with
  |none=>rw[q]at e;exact ff e
  |some w=>rw[q]at e;cases cJ e;exact wpAny_Constant_str (h _ _ _ (du.tok S.2 _) ⟨_,_,TO.1 _ _ q,rfl⟩)
 |_=>exact ff ok
end
end
section
section
variable {c:Cx} {X:Addr->Prop} {H H' H0:Hp} {k k' k0:Lk} {s s' s0:Shared} {A:Around} {E:Value->Shared->Prop} {h h':Heap} {v:Value} {o:O} {a d:Addr}
theorem gh:sizeLine=SZ:=sizeLine_eq
theorem NZ {vs:List Value} {e:Nat} {h:Heap} {a:Addr} (x:h.get? a=some (lL vs e)):IsL h a vs.toArray e:=x
theorem dw.nP {h:Heap} (S:dw c k H h) {h':Heap} (ek:∀b o,h.get? b=some o->h'.get? b=some o):h'.objs.size≠sysModules:=by
 obtain⟨o,es,ep,q,_⟩:=c.T.g
 have:mainGlobals<h'.objs.size:=Heap.lt_size (ek _ _ (S.1 _ _ q))
 intro z
 rw[z]at this
 exact absurd this (by decide)
theorem ip (h:Heap):h.get? h.objs.size=none:=by
 cases z:h.get? h.objs.size with
 |none=>rfl
 |some o=>exact absurd (Heap.lt_size z) (eO _)
theorem cX.add {t:Nat} (W:cX c X k0 H0 s0 k H s) (S:dw c k0 H0 s0.heap) (e:∀b y,s.heap.get? b=some y->h'.get? b=some y) (n:∀b,b=a∨(o.dL=true∧b=d)->s0.heap.get? b=none∧nJ k H b∧b≠sysModules) (x:OR c (k.add H.length a d) (H++[o]) h' H.length o):
  cX c X k0 H0 s0 (k.add H.length a d) (H++[o]) {s with heap:=h',toks:=t}:=
 ⟨W.1.add e (λb z=>⟨(n b z).2.1,S.FK (n b z).1,(n b z).2.2⟩) x,W.2.add e λb z=>⟨(S.xR (n b z).1).ow,(n b z).1⟩,W.3.trans rfl⟩
theorem du.new {t:Nat} (S:dw c k H s.heap) (i:o.dL=false) (e:∀b y,s.heap.get? b=some y->h'.get? b=some y) (ha:s.heap.get? a=none) (hy:a≠sysModules) (x:OR c (k.add H.length a a) (H++[o]) h' H.length o):
  du c k H s (k.add H.length a a) (H++[o]) {s with heap:=h',toks:=t}∧VR c (k.add H.length a a) (H++[o]) h' (.ref H.length) (.ref a):=
 ⟨(cX.refl S).add S e (λb z=>z.elim (λz=>z▸⟨ha,S.xR ha,hy⟩) λz=>ff (i▸z.1)) x,.new rfl⟩
theorem OR.lst {l:List V} {vs:List Value} {e n:Nat} (z:l.length≤SZ) (R:eH c k H h l vs) (m:Mw k H h (k.add n a d) H' h') (g:h'.get? a=some (lL vs e)):OR c (k.add n a d) H' h' n (.list l):=⟨z,vs,e,(congrArg h'.get? (if_pos rfl)).trans g,R.mono m⟩
theorem du.list (S:dw c k H s.heap) {l:List V} {vs:List Value} (R:eH c k H s.heap l vs) (z:l.length≤SZ) {t e:Nat} (ha:s.heap.get? a=none) (hy:a≠sysModules) (ho:h'.get? a=some (lL vs e)) (ek:∀b o,s.heap.get? b=some o->h'.get? b=some o):
  du c k H s (k.add H.length a a) (H++[.list l]) {s with heap:=h',toks:=t}∧VR c (k.add H.length a a) (H++[O.list l]) h' (.ref H.length) (.ref a):=du.new S rfl ek ha hy (.lst z R (.add ek) ho)
theorem du.list1 (S:dw c k H s.heap) {l:List V} {vs:List Value} (R:eH c k H s.heap l vs) (z:l.length≤SZ) (t:Nat):du c k H s (k.add H.length s.heap.objs.size s.heap.objs.size) (H++[.list l]) {s with heap:=s.heap.push (lL vs 0),toks:=t}∧
  VR c (k.add H.length s.heap.objs.size s.heap.objs.size) (H++[O.list l]) (s.heap.push (lL vs 0)) (.ref H.length) (.ref s.heap.objs.size):=
 du.list S R z (ip _) (S.nP λ_ _ e=>e) (Heap.get?_push_size _ rfl) λb o e=>Heap.get?_push_of_some _ e
theorem dw.list (S:dw c k H h) {j:Nat} {l:List V} (g:H[j]?=some (.list l)):∃vs e,h.get? (k.ι j)=some (lL vs e)∧eH c k H h l vs:=(S.2 j _ g).2
theorem dw.Ih (S:dw c k H h) {j:Nat} {l:List V} (g:H[j]?=some (.list l)):l.length≤SZ:=(S.2 j _ g).1
theorem dw.kL (S:dw c k H h) {j:Nat} {l:List V} {P:Prop} (g:H[j]?=some (.list l)) (q:∀vs e,h.get? (k.ι j)=some (lL vs e)->eH c k H h l vs->P):P:=(S.2 j _ g).2.elim λvs x=>x.elim λe x=>q vs e x.1 x.2
theorem LU {a b:Int} (ha:a.natAbs<2^64):IntMulOk a b:=.of_left (intBits_le ha)
theorem foldl_rep {α:Type} (v:α):∀(n:Nat) (acc:Array α),(List.foldl (λx1 x2=>x1++x2) acc (List.replicate n #[v]))=acc++(List.replicate n v).toArray
 |0,acc=>by simp
 |n+1,acc=>by rw[o9,jz,foldl_rep v n];apply Array.ext';simp[o9]
theorem ye (a b:Nat):Builtin.bitAnd (a:Int) (b:Int)=((a&&& b:Nat):Int):=by
 unfold Builtin.bitAnd
 rw[decide_eq_true (aS a),decide_eq_true (aS b)];simp
theorem AK (a b:Nat):Builtin.bitOr (a:Int) (b:Int)=((a|||b:Nat):Int):=by
 unfold Builtin.bitOr Builtin.bitNot Builtin.bitAnd
 rw[decide_eq_false (by omega:¬(0:Int)≤ -(a:Int)-1),decide_eq_false (by omega:¬(0:Int)≤ -(b:Int)-1)]
 simp only[Builtin.bitNot]
 have h1:∀n:Nat,(-(-(n:Int)-1)-1)=n:=λn=>by omega
 rw[h1,h1,h1];simp
theorem wp (a b:Nat):Builtin.bitAnd (a:Int) (-(b:Int)-1)=((a-(a&&& b):Nat):Int):=by
 unfold Builtin.bitAnd
 rw[decide_eq_true (aS a),decide_eq_false (by omega:¬(0:Int)≤ -(b:Int)-1)]
 simp only[Builtin.bitNot]
 rw[show(-(-(b:Int)-1)-1)=b by omega]
 have:a&&& b≤a:=Nat.and_le_left
 simp;omega
theorem LW {n:Nat} (hn:n≤2^24):¬(!Builtin.List.listFitsIndex (n:Int))=true:=by simp[Builtin.List.listFitsIndex];omega
theorem zI {n:Nat} (hn:n≤2^24):¬Builtin.List.listTooLong n=true:=by simp[Builtin.List.listTooLong,sizeLine];omega
theorem FP {Q:Value->Shared->Prop} {l:Addr} {items:Array Value} {e:Nat} {x:Int} {t:Tok} (g:s.heap.get? l=some {cls:=.type "list",dict:=none,data:=.seq items e,slots:=#[]})
  (h1:¬(!Builtin.List.listFitsIndex x)=true) (h2:¬items.size*x.toNat>(2^63-1)/8) (h3:¬Builtin.List.listTooLong (items.size*x.toNat)=true)
  (h:Q (.ref s.heap.objs.size) {s with heap:=s.heap.push {cls:=.type "list",data:=.seq (List.foldl (λx1 x2=>x1++x2) #[] (List.replicate (if items.isEmpty=true then 0 else x.toNat) items))}}):wpAny (Md c) A (binaryOp .Mult (.ref l) (.int x t)) Q E s:=
 wpAny_binaryOp_repeat_ref (T:="list") (U:="int") (by decide) ⟨_,g,rfl⟩ (λs'=>typeIs_int s' x t) noFill_list_mul F.fills_int_mul F.slot_int_rmul repeat_list F.slot_int_index.lookup
  (call_meets F.slot_int_rmul (typeIs_int s x t) F.entry_int_rmul (F.args_int_rmul_2 _ _) (int___rmul___int_list x t l items e)
   ⟨g,rfl,⟨_,g,rfl⟩,call_meets F.slot_list_mul ⟨_,g,rfl⟩ F.entry_list_mul (F.args_list_mul_2 _ _) (AutoListH.list___mul___list_int_3 l items e x t h1 h2 h3) ⟨g,h⟩⟩)
theorem Ck {Q:Value->Shared->Prop} {l:Addr} {v:Value} {e n:Nat} {t:Tok} (hl:s.heap.get? l=some (lL [v] e)) (hn:n≤SZ)
  (h:Q (.ref s.heap.objs.size) {s with heap:=s.heap.push (lL (List.replicate n v) 0)}):wpAny (Md c) A (binaryOp .Mult (.ref l) (.int n t)) Q E s:=by
 have e1:(List.foldl (λx1 x2=>x1++x2) #[] (List.replicate (if(#[v]:Array Value).isEmpty=true then 0 else(n:Int).toNat) #[v]))=(List.replicate n v).toArray:=by
  rw[if_neg (by simp),foldl_rep];simp
 have h:Q (.ref s.heap.objs.size) {s with heap:=s.heap.push {cls:=.type "list",data:=.seq (List.replicate n v).toArray}}:=h
 rw[←e1]at h
 have hs:(#[v]:Array Value).size=1:=rfl
 have hz:n≤2^24:=by unfold SZ at hn;omega
 exact FP (items:=#[v]) hl (LW hz) (by rw[hs,Nat.one_mul,fY];omega) (by rw[hs,Nat.one_mul,fY];exact zI hz) h
theorem Cl {x:V} (R:VR c k H h x v):∀n,eH c k H h (List.replicate n x) (List.replicate n v)
 |0=>rfl
 |n+1=>.cons R (Cl R n)
end
noncomputable def iX (o:LG) (x y:V) (H:Hp) (z:V) (H':Hp):Prop:=∀(c:Cx) (k:Lk) (s:Shared) (A:Around) (va vb:Value) (Q:Value->Shared->Prop) (E:Value->Shared->Prop),dw c k H s.heap->VR c k H s.heap x va->VR c k H s.heap y vb->
 (∀k' s' v',du c k H s k' H' s'->VR c k' H' s'.heap z v'->Q v' s')->wpAny (Md c) A (binaryOp (LP o) va vb) Q E s
theorem iX.ii {o:LG} {i j r:Int} {H:Hp} (w:∀(c:Cx) (s:Shared) (A:Around) (t t':Tok) (Q:Value->Shared->Prop) (E:Value->Shared->Prop),Q (.int r s.toks) {s with toks:=s.toks+1}->wpAny (Md c) A (binaryOp (LP o) (.int i t) (.int j t')) Q E s):
  iX o (.int i) (.int j) H (.int r) H:=λc k s A va vb Q E S ra rb h=>
 ra.kI (P:=λva=>wpAny (Md c) A (binaryOp (LP o) va vb) Q E s) λt=>rb.kI (P:=λvb=>wpAny (Md c) A (binaryOp (LP o) (.int i t) vb) Q E s) λt'=>w c s A t t' Q E (h _ _ _ (du.tok S _) (Fq ..))
theorem iX.add (a b:Int) (H:Hp):iX .add (.int a) (.int b) H (.int (a+b)) H:=.ii λ_ _ _ _ _ _ _ h=>P.add_int h
theorem iX.sub (a b:Int) (H:Hp):iX .sub (.int a) (.int b) H (.int (a-b)) H:=.ii λ_ _ _ _ _ _ _ h=>P.sub_int h
theorem iX.mul (a b:Int) (H:Hp) (ha:a.natAbs<2^64) (hb:b.natAbs<2^64):iX .mul (.int a) (.int b) H (.int (a*b)) H:=.ii λ_ _ _ _ _ _ _ h=>P.mul_int h (LU ha)
theorem iX.fdiv (a b:Int) (H:Hp) (hb:b.natAbs<1073741824) (h0:b≠0):iX .fdiv (.int a) (.int b) H (.int (a.fdiv b)) H:=.ii λ_ _ _ _ _ _ _ h=>floordiv_int h0 h (.inl (PyProof.noPylong_small hb))
theorem iX.mod (a b:Int) (H:Hp) (hb:b≠0):iX .mod (.int a) (.int b) H (.int (a.fmod b)) H:=.ii λ_ _ _ _ _ _ _ h=>mod_int' hb h
theorem iX.band (a b:Nat) (H:Hp):iX .band (.int a) (.int b) H (.int (a&&& b:Nat)) H:=.ii λ_ _ _ _ _ _ _ h=>and_int (by rw[ye];exact h)
theorem iX.LX (a b:Nat) (H:Hp):iX .band (.int a) (.int (-(b:Int)-1)) H (.int (a-(a&&& b):Nat)) H:=.ii λ_ _ _ _ _ _ _ h=>and_int (by rw[wp];exact h)
theorem iX.bor (a b:Nat) (H:Hp):iX .bor (.int a) (.int b) H (.int (a|||b:Nat)) H:=.ii λ_ _ _ _ _ _ _ h=>or_int (by rw[AK];exact h)
theorem iX.shl (a b:Nat) (H:Hp) (ha:a<2^64) (hb:b<2^16):iX .shl (.int a) (.int b) H (.int (a<<<b:Nat)) H:=.ii λ_ _ _ _ _ _ _ h=>
 lshift_int_small (aS b) (dM.mpr (aj (aK hb) (by decide))) ha (by rw[Nat.shiftLeft_eq,Int.natCast_mul,Int.natCast_pow]at h;exact h)
theorem iX.shr (a b:Nat) (H:Hp):iX .shr (.int a) (.int b) H (.int (a>>>b:Nat)) H:=.ii λ_ _ _ _ _ _ _ h=>rshift_int (aS b) (by
 rw[kG,Int.natCast_ediv,Int.natCast_pow]at h;rw[Int.fdiv_eq_ediv_of_nonneg _ (Int.pow_nonneg (by decide))];exact h)
theorem iX.cat {a b:Nat} {l r:List V} {H:Hp} (h:H[a]?=some (.list l)) (k:H[b]?=some (.list r)) (z:l.length+r.length≤SZ):iX .add (.ref a) (.ref b) H (.ref H.length) (H++[.list (l++r)]):=λc κ s A va vb Q E S ra rb q=>by
 apply ra.kR λ_=>?_
 apply rb.kR λ_=>?_
 refine S.kL h λvs e1 g1 R1=>S.kL k λus e2 g2 R2=>?_
 have W:=du.list1 S (R1.append R2) (by rw[aq];exact z) s.toks
 exact P.add_list (NZ g1) (NZ g2) (by rw[o_];exact q _ _ _ W.1 W.2) (by rw[gh,bS,bS,←R1.length,←R2.length];exact z)
theorem iX.rep {a:Nat} {v:V} {n:Nat} {H:Hp} (h:H[a]?=some (.list [v])) (z:n≤SZ):iX .mul (.ref a) (.int n) H (.ref H.length) (H++[.list (List.replicate n v)]):=λc κ s A va vb Q E S ra rb q=>by
 apply ra.kR λ_=>?_
 apply rb.kI λ_=>?_
 refine S.kL h λvs e1 g1 R1=>?_
 obtain⟨v1,_,rfl,R1,rfl⟩:=R1
 have W:=du.list1 S (Cl R1 n) (by rw[bX];exact z) s.toks
 exact Ck g1 z (q _ _ _ W.1 W.2)
end
section
section
variable {c:Cx} {T:Tb} {H H':Hp} {h:Heap} {k:Lk} {s:Shared} {A:Around} {E:Value->Shared->Prop} {v va vb:Value} {x:V} {l:List V} {vs us:List Value}
theorem vj {α:Type} {l:List α} {i j:Nat} {x:α} (n:l.Nodup) (h:l[i]?=some x) (g:l[j]?=some x):i=j:=(cM (ah.mp h).1 n).mp (h.trans g.symm)
theorem LY (TO:nK c T) {a b:Nat} {x y:Str} (h:c.G.st a=some x) (h':c.G.st b=some y):(x==y)=(a==b):=by
 by_cases q:a=b
 ·subst q;cases h.symm.trans h';rw[beq_self_eq_true,beq_self_eq_true]
 ·rw[beq_false_of_ne q];exact beq_false_of_ne λz=>q (vj TO.2 (TO.4 _ _ h) (z▸TO.4 _ _ h'))
mutual
noncomputable def Ii (G:Nm):V->PyData
 | .none=>.none
 | .bool b=>.bool b
 | .int i=>.int i
 | .str n=>.str ((G.st n).getD Str.empty)
 | .tup l=>.tuple (qe G l)
 | .ref _=>.none
noncomputable def qe (G:Nm):List V->List PyData
 |[]=>[]
 |v::r=>Ii G v::qe G r
end
mutual
theorem qU (TO:nK c T):∀(x:V) (n:Nat) (v:Value),x.plain n=true->VR c k H h x v->Reads h v (Ii c.G x) []∧(Ii c.G x).canLay0=true∧(Ii c.G x).depth≤n
 | .none=>λ_ _ _ r=>r▸⟨.none,rfl,bw _⟩
 | .bool b=>λ_ _ _ r=>r▸⟨.bool _,rfl,bw _⟩
 | .int i=>λn _ _ r=>r.kI (P:=λv=>Reads h v (.int i) []∧true=true∧0≤n) λt=>⟨.int _ _,rfl,bw _⟩
 | .str m=>λn v _ r=>r.kS (P:=λv=>Reads h v (.str ((c.G.st m).getD Str.empty)) []∧(PyData.str ((c.G.st m).getD Str.empty)).canLay0=true∧0≤n) λx t q=>by
  rw[q];exact⟨.str _ _,TO.3 _ _ q,bw _⟩
 | .tup l=>λn v p r=>r.kT (P:=λv=>Reads h v (.tuple (qe c.G l)) []∧PyData.canLayAll0 (qe c.G l)=true∧PyData.depthAll (qe c.G l)+1≤n) λa vs e g r=>
  ⟨.tuple g rfl rfl (jS TO l _ vs (cI p).2 r).1,(jS TO l _ vs (cI p).2 r).2.1,Nat.add_le_of_le_sub (of_decide_eq_true (cI p).1) (jS TO l _ vs (cI p).2 r).2.2⟩
 | .ref _=>λ_ _ p _=>ff p
theorem jS (TO:nK c T):∀(l:List V) (n:Nat) (vs:List Value),lh l n=true->eH c k H h l vs->ReadsAll h vs (qe c.G l) []∧PyData.canLayAll0 (qe c.G l)=true∧PyData.depthAll (qe c.G l)≤n
 |[]=>λ_ _ _ r=>r▸⟨.nil,rfl,bw _⟩
 |x::l=>λn vs p r=>r.cE (P:=λvs=>ReadsAll h vs (Ii c.G x::qe c.G l) []∧((Ii c.G x).canLay0&&PyData.canLayAll0 (qe c.G l))=true∧max (Ii c.G x).depth (PyData.depthAll (qe c.G l))≤n) λv vs r1 r2=>
  ⟨ReadsAll.cons (as:=[]) (bs:=[]) (qU TO x n v (cI p).1 r1).1 (jS TO l n vs (cI p).2 r2).1,gy.mpr ⟨(qU TO x n v (cI p).1 r1).2.1,(jS TO l n vs (cI p).2 r2).2.1⟩,Nat.max_le.mpr ⟨(qU TO x n v (cI p).1 r1).2.2,(jS TO l n vs (cI p).2 r2).2.2⟩⟩
end
theorem qf:∀(l:List Int) (n:Nat),lh (de l) n=true
 |[],_=>rfl
 |_::l,n=>qf l n
noncomputable def pyL (G:Nm) (l:List V):PyData:=.list (qe G l)
theorem LZ {d:PyData} {n:Nat} (a:d.canLay0=true) (b:d.depth≤n) (z:n≤60):SeqAt.shaped d=true:=by
 unfold SeqAt.shaped;rw[a,jn];exact decide_eq_true (aj (aj b z) (by decide))
noncomputable def N0 (h:Heap) (v:Value) (d:PyData):Prop:=∃as,Reads h v d as∧SeqAt.shaped d=true
theorem Cm (TO:nK c T) (p:x.plain 1=true) (r:VR c k H h x v):N0 h v (Ii c.G x):=⟨[],(qU TO _ 1 _ p r).1,LZ (qU TO _ 1 _ p r).2.1 (qU TO _ 1 _ p r).2.2 (by decide)⟩
theorem K7 (TO:nK c T) (S:dw c k H h) {j n:Nat} (g:H[j]?=some (.list l)) (p:lh l n=true) (z:n≤59) (r:VR c k H h (.ref j) v):N0 h v (pyL c.G l):=by
 apply r.kR λ_=>?_
 refine S.kL g λvs e g R=>?_
 exact⟨_,.list g rfl rfl (jS TO _ _ _ p R).1,LZ (n:=n+1) (jS TO _ _ _ p R).2.1 (aM (jS TO _ _ _ p R).2.2) (aM z)⟩
theorem Cn (G:Nm):∀l r:List Int,PyData.eqvAll (qe G (de l)) (qe G (de r))=(l==r)
 |[],[]=>rfl
 |[],_::_=>rfl
 |_::_,[]=>rfl
 |a::l,b::r=>congrArg ((a==b)&& ·) (Cn G l r)
end
noncomputable def Eqv (H:Hp) (x y:V) (q:Bool):Prop:=∀(c:Cx) (T:Tb) (k:Lk) (h:Heap) (va vb:Value),nK c T->dw c k H h->VR c k H h x va->VR c k H h y vb->∃da db,N0 h va da∧N0 h vb db∧PyData.eqv da db=q
section
variable {H:Hp}
theorem Eqv.int (a b:Int):Eqv H (.int a) (.int b) (a==b):=λ_ _ _ _ _ _ t S ra rb=>⟨_,_,Cm t rfl ra,Cm t rfl rb,rfl⟩
theorem Eqv.none:Eqv H .none .none true:=λ_ _ _ _ _ _ t S ra rb=>⟨_,_,Cm t rfl ra,Cm t rfl rb,rfl⟩
theorem Eqv.bool (a b:Bool):Eqv H (.bool a) (.bool b) (a==b):=λ_ _ _ _ _ _ t S ra rb=>⟨_,_,Cm t rfl ra,Cm t rfl rb,rfl⟩
theorem Eqv.str (a b:Nat):Eqv H (.str a) (.str b) (a==b):=λ_ _ _ _ _ _ t S ra rb=>⟨_,_,Cm t rfl ra,Cm t rfl rb,ra.elim λx p=>rb.elim λy q=>p.elim λ_ p=>q.elim λ_ q=>by
 show(Option.getD _ _==Option.getD _ _)=_
 rw[p.1,q.1];exact LY t p.1 q.1⟩
theorem Eqv.none_str (b:Nat):Eqv H .none (.str b) false:=λ_ _ _ _ _ _ t S ra rb=>⟨_,_,Cm t rfl ra,Cm t rfl rb,rfl⟩
theorem Eqv.list_str {a:Nat} {l:List Int} (b:Nat) (h:H[a]?=some (.list (de l))):Eqv H (.ref a) (.str b) false:=λ_ _ _ _ _ _ t S ra rb=>⟨_,_,K7 (n:=1) t S h (qf _ _) (by decide) ra,Cm t rfl rb,rfl⟩
theorem Eqv.il {a b:Nat} {l r:List Int} (h:H[a]?=some (.list (de l))) (k:H[b]?=some (.list (de r))):Eqv H (.ref a) (.ref b) (l==r):=λ_ _ _ _ _ _ t S ra rb=>⟨_,_,K7 (n:=1) t S h (qf _ _) (by decide) ra,K7 (n:=1) t S k (qf _ _) (by decide) rb,Cn _ _ _⟩
theorem Eqv.same {a b:Nat} {l:List V} (h:H[a]?=some (.list l)) (k:H[b]?=some (.list l)) (p:lh l 8=true):Eqv H (.ref a) (.ref b) true:=λ_ _ _ _ _ _ t S ra rb=>
 ⟨_,_,K7 t S h p (by decide) ra,K7 t S k p (by decide) rb,(K7 t S h p (by decide) ra).elim λ_ x=>SeqAt.eqv_refl _ (SeqAt.canLay_of_shaped x.2)⟩
end
end
section
noncomputable def OV (c:Cx) (k:Lk) (H:Hp) (h:Heap):Option V->Option Value->Prop
 |none,v=>v=none
 |some x,v=>∃w,v=some w∧VR c k H h x w
section
variable {c:Cx} {T:Tb} {H H':Hp} {h:Heap} {k:Lk} {s:Shared} {A:Around} {E:Value->Shared->Prop} {v w:Value} {y:V}
theorem OV.isSome:∀{x:Option V} {v:Option Value},OV c k H h x v->v.isSome=x.isSome
 |none,_,r=>congrArg Option.isSome r
 |some _,_,r=>r.elim λ_ q=>congrArg Option.isSome q.1
theorem OV.getD:∀{x:Option V} {v:Option Value},OV c k H h x v->VR c k H h y w->VR c k H h (x.getD y) (v.getD w)
 |none,_,r,q=>r▸q
 |some _,_,r,_=>r.elim λ_ q=>q.1▸q.2
section
variable {κ:Type} [DecidableEq κ] {p:κ×V} {d e:List (κ×V)} {kvs us:List (κ×Value)}
theorem jo.cons {x:κ} (a:VR c k H h y v) (r:jo c k H h d kvs):jo c k H h ((x,y)::d) ((x,v)::kvs):=⟨v,kvs,rfl,a,r⟩
theorem jo.len:∀{d:List (κ×V)} {kvs:List (κ×Value)},jo c k H h d kvs->d.length=kvs.length
 |[],_,r=>r▸rfl
 |_::_,_,r=>r.kC (P:=λkvs=>_=kvs.length) λ_ _ _ q=>congrArg Nat.succ q.len
theorem jo.get (x:κ):∀(d:List (κ×V)) {kvs:List (κ×Value)},jo c k H h d kvs->OV c k H h (d7 x d) (valueAt kvs x)
 |[],_,r=>r.kN (P:=λkvs=>OV c k H h none (valueAt kvs x)) rfl
 |p::d,_,r=>by
  apply r.kC λv kvs h1 h2=>?_
  have ih:=jo.get x d h2
  unfold d7 valueAt at ih ⊢
  by_cases q:p.1=x
  ·rw[fp (p:=λp:κ×V=>decide (p.1=x)) (decide_eq_true q),fp (p:=λp:κ×Value=>decide (p.1=x)) (decide_eq_true q)];exact⟨_,rfl,h1⟩
  ·rw[fw (p:=λp:κ×V=>decide (p.1=x)) (λz=>q (of_decide_eq_true z)),fw (p:=λp:κ×Value=>decide (p.1=x)) (λz=>q (of_decide_eq_true z))];exact ih
theorem jo.any (x:κ):∀(d:List (κ×V)) {kvs:List (κ×Value)},jo c k H h d kvs->(kvs.any λp=>decide (p.1=x))=d.any λp=>decide (p.1=x)
 |[],_,r=>r.kN (P:=λkvs=>(kvs.any λp=>decide (p.1=x))=false) rfl
 |p::d,_,r=>by apply r.kC λv kvs _ h2=>?_;exact congrArg (decide (p.1=x)|| ·) (jo.any x d h2)
theorem jo.Co (z:VR c k H h y w) (x:κ):∀(d:List (κ×V)) {kvs:List (κ×Value)},jo c k H h d kvs->jo c k H h (d.map λp=>if p.1=x then(p.1,y)else p) (kvs.map λp=>if p.1=x then(p.1,w)else p)
 |[],_,r=>r.kN (P:=λkvs:List (κ×Value)=>jo c k H h ([]:List (κ×V)) (kvs.map λp:κ×Value=>if p.1=x then(p.1,w)else p)) rfl
 |p::d,_,r=>by
  apply r.kC λv kvs h1 h2=>?_
  have ih:=jo.Co z x d h2
  rw[bQ,bQ]
  by_cases q:p.1=x
  ·rw[if_pos q,if_pos q];exact .cons z ih
  ·rw[if_neg q,if_neg q];exact .cons h1 ih
theorem jo.append (r':jo c k H h e us):∀{d:List (κ×V)} {kvs:List (κ×Value)},jo c k H h d kvs->jo c k H h (d++e) (kvs++us)
 |[],_,r=>r.kN (P:=λkvs=>jo c k H h _ (kvs++us)) r'
 |_::_,_,r=>r.kC (P:=λkvs=>jo c k H h _ (kvs++us)) λ_ _ a b=>.cons a (jo.append r' b)
theorem jo.put (z:VR c k H h y w) (x:κ) (r:jo c k H h d kvs):jo c k H h (dput x y d) (stored kvs x w):=by
 unfold dput stored
 rw[jo.any x d r]
 split
 ·exact jo.Co z x d r
 ·exact jo.append (.cons z (show jo c k H h [] [] from rfl)) r
theorem jo.del (x:κ):∀(d:List (κ×V)) {kvs:List (κ×Value)},jo c k H h d kvs->jo c k H h (xY x d) (without kvs x)
 |[],_,r=>r.kN (P:=λkvs:List (κ×Value)=>jo c k H h ([]:List (κ×V)) (without kvs x)) rfl
 |p::d,_,r=>by
  apply r.kC λv kvs h1 h2=>?_
  have ih:=jo.del x d h2
  unfold xY without at ih ⊢
  by_cases q:p.1=x
  ·rw[dq (by simp[q]),dq (by simp[q])];exact ih
  ·rw[cY (by simp[q]),cY (by simp[q])];exact .cons h1 ih
end
theorem jq (i:Int) (t:Tok):(ik c).is i (.int i t)=true:=beq_self_eq_true i
theorem intsOf:∀{l:List Int} {vs:List Value},eH c k H h (de l) vs->IntsAre vs l
 |[],_,r=>r.nE (P:=λvs=>IntsAre vs []) .nil
 |x::l,_,r=>r.cE (P:=λvs=>IntsAre vs (x::l)) λv r a b=>a.kI (P:=λv=>IntsAre (v::r) (x::l)) λt=>.cons _ _ (intsOf b)
theorem vk {l:List Int} {vs:List Value} (r:IntsAre vs l):eH c k H h (de l) vs:=by
 induction r with
 |nil=>exact rfl
 |cons n t _ ih=>exact .cons (Fq n t) ih
theorem itemsOf:∀{l:List Int} {vs:List Value},eH c k H h (de l) vs->ItemsAre (ik c) l vs
 |[],_,r=>r.nE (P:=λvs=>ItemsAre (ik c) [] vs) .nil
 |x::l,_,r=>r.cE (P:=λvs=>ItemsAre (ik c) (x::l) vs) λv r a b=>a.kI (P:=λv=>ItemsAre (ik c) (x::l) (v::r)) λt=>.cons (jq _ _) (itemsOf b)
theorem VR.kK {l:List Int} {P:Value->Prop} (r:VR c k H h (.tup (de l)) v) (q:∀a,(tupleKind (ik c)).is h l a->(∃vs e,h.get? a=some (ic vs e))->P (.ref a)):P v:=by
 apply r.kT λa vs e g R=>?_
 exact q a ⟨_,vs.toArray,e,g,rfl,rfl,itemsOf R⟩ ⟨vs,e,g⟩
theorem dw.noSys (S:dw c k H h) {j:Nat} {o:O} (g:H[j]?=some o) (w:o.made=true):(k.ι j==sysModules)=false:=beq_false_of_ne (S.3 _ _ _ g w (.inl rfl)).2
theorem nQ (i:Int):∀(l:List Int),(l.any λx=>x==i)=l.contains i
 |[]=>rfl
 |x::l=>by rw[List.any_cons,List.contains_cons,nQ i l,BEq.comm]
end
noncomputable def dY (H:Hp) (a:Nat) (x:V) (q:Option V):Prop:=∀(c:Cx) (k:Lk) (h:Heap) (P:V->Prop),dw c k H h->(∀i kvs,(k.ι a==sysModules)=false->h.DictOf (ik c) (k.ι a) kvs->OV c k H h q (valueAt kvs i)->P (.int i))->
 (∀ks xs,(k.ι a==sysModules)=false->h.DictOfH (tupleKind (ik c)) (k.ι a) xs->OV c k H h q ((atKey xs ks).map (·.2))->P (.tup (de ks)))->P x
section
variable {H:Hp} {a:Nat}
theorem dY.ofI {d:List (Int×V)} {k:Int} (w:∀c κ h,dw c κ H h->K1 c κ H h a d∧(κ.ι a==sysModules)=false):dY H a (.int k) (d7 k d):=λc κ h P S f _=>(w c κ h S).1.elim λkvs D=>f k kvs (w c κ h S).2 D.1 (jo.get k d D.2)
theorem dY.ofT {d:List (List Int×V)} {k:List Int} (w:∀c κ h,dw c κ H h->K2 c κ H h a d∧(κ.ι a==sysModules)=false):dY H a (.tup (de k)) (d7 k d):=λc κ h P S _ f=>(w c κ h S).1.elim λxs D=>f k xs (w c κ h S).2 D.1 (by
 have:=jo.get k d D.2.2
 rw[show(xs.map λx=>(x.1,x.2.2))=kvsOf xs from rfl,valueAt_kvsOf]at this
 exact this)
theorem dY.i {d:List (Int×V)} {k:Int} (h:H[a]?=some (.bc d)):dY H a (.int k) (d7 k d):=.ofI λ_ _ _ S=>⟨S.2 _ _ h,S.noSys h rfl⟩
theorem dY.fi {d:List (Int×V)} {k:Int} (h:H[a]?=some (.fi d)):dY H a (.int k) (d7 k d):=.ofI λ_ _ _ S=>⟨S.2 _ _ h,S.noSys h rfl⟩
theorem dY.t {d:List (List Int×V)} {k:List Int} (h:H[a]?=some (.bV d)):dY H a (.tup (de k)) (d7 k d):=.ofT λ_ _ _ S=>⟨S.2 _ _ h,S.noSys h rfl⟩
theorem dY.ft {d:List (List Int×V)} {k:List Int} (h:H[a]?=some (.ft d)):dY H a (.tup (de k)) (d7 k d):=.ofT λ_ _ _ S=>⟨S.2 _ _ h,S.noSys h rfl⟩
end
noncomputable def zJ (H:Hp) (x y:V) (q:Bool):Prop:=∀(c:Cx) (k:Lk) (s:Shared) (A:Around) (va vb:Value) (E:Value->Shared->Prop),A.units+10<cLine->dw c k H s.heap->VR c k H s.heap x va->VR c k H s.heap y vb->
 (∀Q:Value->Shared->Prop,(∀s',du c k H s k H s'->Q (.bool q) s')->wpAny (Md c) A (compareOp .In va vb) Q E s)∧∀Q:Value->Shared->Prop,(∀s',du c k H s k H s'->Q (.bool (!q)) s')->wpAny (Md c) A (compareOp .NotIn va vb) Q E s
theorem uE {c:Cx} {A:Around} (hu:A.units+10<cLine):(tupleKind (ik c)).room A.in1:=aA (bZ (by decide) _) hu
section
variable {H:Hp}
theorem zJ.dict {v:V} {a:Nat} {r:Option V} (g:dY H a v r):zJ H v (.ref a) r.isSome:=λc k s A va vb E hu S ra rb=>by
 apply rb.kR λ_=>?_
 refine g c k s.heap (λv=>VR c k H s.heap v va->_∧_) S (λi kvs n D P ra=>?_) (λks xs n D P ra=>?_) ra
 ·apply ra.kI λt=>?_
  rw[←P.isSome]
  exact⟨λQ h=>wpAny_in_of (jq _ t) n D.mapOf (h _ (du.tok S _)),λQ h=>wpAny_notIn_of (jq _ t) n D.mapOf (h _ (du.tok S _))⟩
 ·apply ra.kK λa K _=>?_
  rw[←P.isSome,Option.isSome_map]
  exact⟨λQ h=>wpAny_in_heap (uE hu) K n D (h _ (du.tok S _)),λQ h=>wpAny_notIn_heap (uE hu) K n D (h _ (du.tok S _))⟩
theorem zJ.list {i:Int} {a:Nat} {l:List Int} (h:H[a]?=some (.list (de l))):zJ H (.int i) (.ref a) (l.contains i):=λc k s A va vb E hu S ra rb=>by
 apply rb.kR λ_=>?_
 apply ra.kI λt=>?_
 refine S.kL h λvs e g R=>?_
 rw[←nQ]
 exact⟨λQ h=>in_list_ints ⟨_,g,rfl,_,rfl⟩ (intsOf R) (h _ (cX.refl S)),λQ h=>notin_list_ints ⟨_,g,rfl,_,rfl⟩ (intsOf R) (h _ (cX.refl S))⟩
theorem zJ.tup {i:Int} {l:List Int}:zJ H (.int i) (.tup (de l)) (l.contains i):=λc k s A va vb E hu S ra rb=>by
 apply ra.kI λt=>?_
 apply rb.kT λa vs e g R=>?_
 have hq:∀y,y∈vs.toArray->SeqAt.EqAt A.in1 s y (.int i t) (isInt i y):=λy hy=>(eq_isInt i t (intsOf R) y (List.mem_toArray.mp hy)).at _ _
 have e:vs.toArray.any (isInt i)=l.contains i:=by rw[←Array.any_toList];exact(any_isInt i (intsOf R)).trans (nQ _ _)
 rw[←e]
 exact⟨λQ h=>SeqAt.in_tupleAt (isInt i) ⟨_,g,rfl,_,rfl⟩ hq (h _ (cX.refl S)),λQ h=>SeqAt.notIn_tupleAt (isInt i) ⟨_,g,rfl,_,rfl⟩ hq (h _ (cX.refl S))⟩
end
end
section
noncomputable def cL (H:Hp) (o:B1) (x y:V) (q:Bool):Prop:=∀(c:Cx) (T:Tb) (k:Lk) (s:Shared) (A:Around) (va vb:Value) (Q:Value->Shared->Prop) (E:Value->Shared->Prop),nK c T->A.units+100<cLine->dw c k H s.heap->VR c k H s.heap x va->VR c k H s.heap y vb->
 (∀s',du c k H s k H s'->Q (.bool q) s')->wpAny (Md c) A (compareOp (Fr o) va vb) Q E s
section
variable {H:Hp}
theorem Ij {n m a b:Nat} (h:n+a<m) (l:b≤a):n+b<m:=aA (bZ l _) h
theorem cL.eq {a b:V} {r:Bool} (e:Eqv H a b r):cL H .eq a b r:=λc T k s A va vb Q E t hu S ra rb h=>by
 obtain⟨da,db,⟨as,r1,s1⟩,⟨bs,r2,s2⟩,rfl⟩:=e c T k s.heap va vb t S ra rb
 exact SeqAt.compareEq_shaped r1 r2 s1 s2 (Ij hu (by decide)) (h _ (cX.refl S))
theorem cL.ne {a b:V} {r:Bool} (e:Eqv H a b r):cL H .ne a b (!r):=λc T k s A va vb Q E t hu S ra rb h=>by
 obtain⟨da,db,⟨as,r1,s1⟩,⟨bs,r2,s2⟩,rfl⟩:=e c T k s.heap va vb t S ra rb
 exact SeqAt.compareNe_shaped r1 r2 s1 s2 (Ij hu (by decide)) (h _ (cX.refl S))
theorem cL.ii {o:B1} {i j:Int} {r:Bool} (w:∀(c:Cx) (s:Shared) (A:Around) (t t':Tok) (Q:Value->Shared->Prop) (E:Value->Shared->Prop),Q (.bool r) s->wpAny (Md c) A (compareOp (Fr o) (.int i t) (.int j t')) Q E s):cL H o (.int i) (.int j) r:=
 λc T k s A va vb Q E t hu S ra rb h=>ra.kI (P:=λva=>wpAny (Md c) A (compareOp (Fr o) va vb) Q E s) λt=>rb.kI (P:=λvb=>wpAny (Md c) A (compareOp (Fr o) (.int i t) vb) Q E s) λt'=>w c s A t t' Q E (h _ (cX.refl S))
theorem cL.lt (a b:Int):cL H .lt (.int a) (.int b) (decide (a<b)):=.ii λ_ _ _ _ _ _ _ h=>P.lt_int h
theorem cL.le (a b:Int):cL H .le (.int a) (.int b) (decide (a≤b)):=.ii λ_ _ _ _ _ _ _ h=>P.le_int h
theorem cL.gt (a b:Int):cL H .gt (.int a) (.int b) (decide (b<a)):=.ii λ_ _ _ _ _ _ _ h=>P.gt_int h
theorem cL.ge (a b:Int):cL H .ge (.int a) (.int b) (decide (b≤a)):=.ii λ_ _ _ _ _ _ _ h=>P.ge_int h
theorem cL.nn {o:B1} {x:V} {r:Bool} (w:∀(c:Cx) (k:Lk) (s:Shared) (A:Around) (va:Value) (Q:Value->Shared->Prop) (E:Value->Shared->Prop),VR c k H s.heap x va->Q (.bool r) s->wpAny (Md c) A (compareOp (Fr o) va .none) Q E s):cL H o x .none r:=
 λc T k s A va vb Q E t hu S ra rb h=>rb.kN (P:=λvb=>wpAny (Md c) A (compareOp (Fr o) va vb) Q E s) (w c k s A va Q E ra (h _ (cX.refl S)))
theorem cL.is_none:cL H .is .none .none true:=.nn λc k s A va Q E ra h=>by apply ra.kN;exact lE h
theorem cL.qV:cL H .xZ .none .none false:=.nn λc k s A va Q E ra h=>by apply ra.kN;exact isNot_none h
theorem cL.Jf (a:Nat):cL H .is (.ref a) .none false:=.nn λc k s A va Q E ra h=>by apply ra.kR λ_=>?_;exact lE h
theorem cL.is_tup (l:List V):cL H .is (.tup l) .none false:=.nn λc k s A va Q E ra h=>by apply ra.kT λ_ _ _ _ _=>?_;exact lE h
theorem cL.Jg (a:Nat):cL H .is (.str a) .none false:=.nn λc k s A va Q E ra h=>by apply ra.kS λ_ _ _=>?_;exact lE h
theorem cL.Cq (a:Nat):cL H .xZ (.str a) .none true:=.nn λc k s A va Q E ra h=>by apply ra.kS λ_ _ _=>?_;exact isNot_none h
theorem cL.isin {a b:V} {r:Bool} (e:zJ H a b r):cL H .isin a b r:=λc T k s A va vb Q E t hu S ra rb h=>(e c k s A va vb E (Ij hu (by decide)) S ra rb).1 Q h
theorem cL.jG {a b:V} {r:Bool} (e:zJ H a b r):cL H .jG a b (!r):=λc T k s A va vb Q E t hu S ra rb h=>(e c k s A va vb E (Ij hu (by decide)) S ra rb).2 Q h
end
noncomputable def FR (H:Hp) (l r:List V):Prop:=l.length=r.length∧∀(i:Nat) x y,l[i]?=some x->r[i]?=some y->∃(a b:Nat) (d:List (Int×Int)),x= .ref a∧y= .ref b∧H[a]?=some (.bc (d.map λp=>(p.1,.int p.2)))∧H[b]?=some (.bc (d.map λp=>(p.1,.int p.2)))
section
variable {c:Cx} {k:Lk} {H:Hp} {h:Heap} {s:Shared} {A:Around}
theorem wq {p p':Program} {w w':World} {a:Addr} {kvs:List (Int×Value)} (D:h.DictOf (intKind p w) a kvs):h.DictOf (intKind p' w') a kvs:=by
 obtain⟨o,es,ep,h1,h2,h3,h4,h5,h6⟩:=D
 refine⟨o,es,ep,h1,h2,h3,h4,?_,h6⟩
 clear h3 h4 h6
 generalize es.toList=l at h5
 induction h5 with
 |nil=>exact .nil
 |cons a b _ ih=>exact .cons a b ih
theorem Cr {OT:List (Int×Value)} {dd:List (Int×Int)}:∀{ka kb:List (Int×Value)},jo c k H h (dd.map λp=>(p.1,V.int p.2)) ka->jo c k H h (dd.map λp=>(p.1,V.int p.2)) kb->(∀p∈kb,valueAt OT p.1=some p.2)->KeqHits A s OT ka true:=by
 induction dd with
 |nil=>intro ka kb r1 _ _;exact r1.kN (P:=λka=>KeqHits A s OT ka true) .nil
 |cons p dd ih=>
  intro ka kb r1 r2 h3
  apply r1.kC λv ka v1 t1=>?_
  revert h3
  apply r2.kC λu kb u1 t2=>?_
  intro h3
  have g:=h3 _ aP
  revert g
  apply v1.kI λt=>?_
  apply u1.kI λt'=>?_
  intro g
  exact KeqHits.hit (v:=.int p.2 t) (y:=.int p.2 t') (e:=true) (b:=true) g (λprog w E Q q=>wpAny_eqBool_int (by rw[beq_self_eq_true];exact q)) (ih t1 t2 λp hp=>h3 p (aL _ hp))
theorem wr {kb:List (Int×Value)} (n:(kb.map (·.1)).Nodup):∀p∈kb,valueAt kb p.1=some p.2:=by
 induction kb with
 |nil=>exact λp h=>absurd h aQ
 |cons q kb ih=>
  intro p h
  obtain⟨n1,n2⟩:=c_.mp n
  unfold valueAt at ih ⊢
  rcases aI.mp h with rfl|h
  ·rw[fp (p:=λkv:Int×Value=>decide (kv.1=p.1)) (decide_eq_true rfl)];rfl
  ·rw[fw (p:=λkv:Int×Value=>decide (kv.1=p.1)) (λz=>n1 (by show q.1∈_;rw[of_decide_eq_true z];exact pc h))]
   exact ih n2 p h
theorem Jh (S:dw c k H s.heap) (hu:A.units+2<cLine) {a b:Nat} {dd:List (Int×Int)} (h:H[a]?=some (.bc (dd.map λp=>(p.1,.int p.2)))) (g:H[b]?=some (.bc (dd.map λp=>(p.1,.int p.2)))):
  SeqAt.EqAt A s (.ref (k.ι a)) (.ref (k.ι b)) true:=by
 by_cases q:k.ι a=k.ι b
 ·rw[q];exact SeqAt.EqAt.same _
 ·obtain⟨ka,D1,r1⟩:=S.2 _ _ h
  obtain⟨kb,D2,r2⟩:=S.2 _ _ g
  refine SeqAt.EqAt.of_refs q λprog w E Q hq=>?_
  have hl:=r1.len.symm.trans r2.len
  have nd:=D2
  obtain⟨_,_,_,_,_,_,_,_,n⟩:=nd
  exact keq_eq (knd:=intKind prog w) (S.noSys h rfl) (S.noSys g rfl) (wq D1) (wq D2) (aA (bu _ _) hu) (λ_=>Cr r1 r2 (wr n)) (by rw[hl,beq_self_eq_true];exact hq)
end
theorem cL.Cs {H:Hp} {a b:Nat} {l r:List V} (h:H[a]?=some (.list l)) (g:H[b]?=some (.list r)) (e:FR H l r):cL H .ne (.ref a) (.ref b) false:=λc T k s A va vb Q E t hu S ra rb q=>by
 apply ra.kR λ_=>?_
 apply rb.kR λ_=>?_
 refine S.kL h λvs n1 g1 R1=>S.kL g λus n2 g2 R2=>?_
 have len:=R1.length.symm.trans (e.1.trans R2.length)
 have:=SeqAt.RcNeAt.lists (A:=A) (s:=s) (e:=λ_=>true) (items:=vs.toArray) (items2:=us.toArray) ⟨_,g1,rfl,_,rfl⟩ ⟨_,g2,rfl,_,rfl⟩ len (aA (bu _ _) hu)
  (λj h1 h2=>by
   have l1:=ao (l:=l) (R1.length▸h1:j<l.length)
   have l2:=ao (l:=r) (R2.length▸h2:j<r.length)
   obtain⟨a',b',d,e1,e2,o1,o2⟩:=e.2 j _ _ l1 l2
   obtain⟨v,q1,r1⟩:=R1.get l1
   obtain⟨u,q2,r2⟩:=R2.get l2
   rw[e1]at r1
   rw[e2]at r2
   have e3:vs.toArray[j]=v:=ax ((ao h1).symm.trans q1)
   have e4:us.toArray[j]=u:=ax ((ao h2).symm.trans q2)
   rw[e3,e4,r1.2,r2.2]
   exact Jh S (aA (show A.units+(1+2)≤A.units+100 from bZ (by decide) _) hu) o1 o2)
 refine this c.prog c.w E Q ?_
 rw[show(!(List.range vs.toArray.size).all λ_=>true)=false by rw[bv.mpr λ_ _=>rfl];rfl]
 exact q _ (cX.refl S)
end
section
section
variable {c:Cx} {H:Hp} {h:Heap} {k:Lk} {s:Shared} {A:Around} {E:Value->Shared->Prop} {P:Prop}
theorem Ft {n q:Nat} (z:n≤SZ) (l:q≤n):(q:Int)<2^63:=bC.mpr (aA (aj l z) (by decide:SZ<2^63))
theorem yf {P:Int->Nat->Prop} {i:Int} {n q:Nat} (h:place i n=some q) (z:n≤SZ) (f:∀m:Nat,m<n->P m m) (g:∀m:Nat,0<m->m≤n->P (-m) (n-m)):P i q:=by
 unfold place at h
 by_cases h0:0≤i
 ·rw[if_pos h0]at h
  obtain⟨m,rfl⟩:=Int.eq_ofNat_of_zero_le h0
  rw[fY]at h
  by_cases h1:m<n
  ·rw[if_pos h1]at h;cases h;exact f _ h1
  ·rw[if_neg h1]at h;cases h
 ·rw[if_neg h0]at h
  have h2:=Int.not_le.mp h0
  obtain⟨m,rfl⟩:=Int.exists_eq_neg_ofNat (jY h2)
  rw[iO,fY]at h
  by_cases h1:m≤n
  ·rw[if_pos h1]at h;cases h;exact g _ (bC.mp (Int.neg_lt_zero_iff.mp h2)) h1
  ·rw[if_neg h1]at h;cases h
theorem Ct {n m:Nat} (l:m≤n):(-(m:Int)+n).toNat=n-m:=by rw[qH,←pX,←lF l];rfl
theorem wu {l:Addr} {items:Array Value} {i:Int} {t:Tok} {q:Nat} {x:Value} {Q:Value->Shared->Prop} (hl:s.heap.IsList l items) (z:items.size≤SZ) (p:place i items.size=some q) (hx:items[q]?=some x) (h:Q x s):
  wpAny (Md c) A (getItem (.ref l) (.int i t)) Q E s:=
 yf (P:=λi q=>items[q]?=some x->wpAny (Md c) A (getItem (.ref l) (.int i t)) Q E s) p z (λm l hx=>wpAny_getItem_list hl (aS m) (Ft z (aK l)) hx h)
  (λm m0 l hx=>wpAny_getItem_list_neg hl (iH (bC.mpr m0)) (iS (dM.mpr l)) (iS (jY (Ft z l))) (by rw[Ct l];exact hx) h) hx
theorem nR {y:Expr} (h:gd true false y=true) (o i:Value):subscripted y false o i=operate [o,i] (getItem o i):=
 dC (P:=λy=>subscripted y false o i=operate [o,i] (getItem o i)) h (λ_ _ _=>rfl) (λ_ _ _ _ _=>rfl) (λ_ _ _ _=>rfl) (λ_ _ _ _ _=>rfl) (λ_ _ _ _=>rfl) (λ_ _ _ _ _=>rfl) (λ_ _ _=>rfl) (λ_ _ _ _=>rfl) (λ_ _ _ _=>rfl)
  (λ_ _ _ _ _=>rfl) (λ_ _ _ _=>rfl) (λ_ _ _ _ h=>ff h) (λ_ _ _ _=>rfl) (λ_ _ _ _ _=>rfl) λ_ _ _ _=>rfl
end
noncomputable def Item (H:Hp) (x w u:V):Prop:=∀(c:Cx) (k:Lk) (s:Shared) (A:Around) (value y:Expr) (va vb:Value) (Q:Value->Shared->Prop) (E:Value->Shared->Prop),gd true false y=true->A.units+10<cLine->dw c k H s.heap->VR c k H s.heap x va->VR c k H s.heap w vb->
 (∀s' v',du c k H s k H s'->VR c k H s'.heap u v'->Q v' s')->wpAny (Md c) A (subscriptTail value y va vb) Q E s
section
variable {H:Hp}
theorem Item.list {a:Nat} {l:List V} {i:Int} {k:Nat} {x:V} (o:H[a]?=some (.list l)) (p:place i l.length=some k) (h:l[k]?=some x):Item H (.ref a) (.int i) x:=λc κ s A value y va vb Q E hy hu S ra rb q=>by
 apply ra.kR λ_=>?_
 apply rb.kI λt=>?_
 refine S.kL o λvs e g R=>?_
 obtain⟨v,gv,rv⟩:=R.get h
 have z:=S.Ih o
 rw[R.length]at p z
 exact tail_any (s:=s) ⟨_,g,rfl⟩ slot_list_getitem.lookup (wu (items:=vs.toArray) ⟨_,g,rfl,_,rfl⟩ z p (by rw[cC];exact gv) (q s v (cX.refl S) rv)) (nR hy _ _)
theorem Item.ro {a:Nat} {l:List Int} {i:Int} {k:Nat} {x:Int} (o:H[a]?=some (.ro l)) (p:place i l.length=some k) (h:l[k]?=some x):Item H (.ref a) (.int i) (.int x):=λc κ s A value y va vb Q E hy hu S ra rb q=>by
 apply ra.kR λ_=>?_
 apply rb.kI λt=>?_
 obtain⟨z,vs,e,g,I⟩:=S.2 _ _ o
 obtain⟨v,gv,rv⟩:=(vk (c:=c) (k:=κ) (H:=H) (h:=s.heap) I).get (i:=k) (x:=V.int x) (by unfold de;rw[aH,h];rfl)
 rw[←I.length]at p z
 exact tail_any (s:=s) ⟨_,g,rfl⟩ slot_list_getitem.lookup (wu (items:=vs.toArray) ⟨_,g,rfl,_,rfl⟩ z p (by rw[cC];exact gv) (q s v (cX.refl S) rv)) (nR hy _ _)
theorem L4 {i:Int} {n q:Nat} (h:place i n=some q) (z:n≤SZ):seqIndex? i n=some q∧ -(2^63)≤i∧i<2^63:=
 yf (P:=λi q=>seqIndex? i n=some q∧ -(2^63)≤i∧i<2^63) h z (λm l=>⟨by
  unfold seqIndex?
  rw[if_neg (fy.mpr (aS m)),if_pos (by rw[decide_eq_true (aS m),decide_eq_true (bC.mpr l)];rfl)];rfl,qI (by decide) (aS m),Ft z (aK l)⟩) λm m0 l=>⟨by
  unfold seqIndex?
  have e: -(m:Int)+n=(n-m:Nat):=by rw[qH,←pX,←lF l]
  rw[if_pos (iH (bC.mpr m0)),e,if_pos (by rw[decide_eq_true (aS _),decide_eq_true (bC.mpr (Nat.sub_lt (aw m0 l) m0))];rfl)];rfl,iS (jY (Ft z l)),Int.lt_of_lt_of_le (iH (bC.mpr m0)) (by decide)⟩
theorem Item.tup {l:List V} {i:Int} {k:Nat} {x:V} (z:l.length≤SZ) (p:place i l.length=some k) (h:l[k]?=some x):Item H (.tup l) (.int i) x:=λc κ s A value y va vb Q E hy hu S ra rb q=>by
 apply rb.kI λt=>?_
 apply ra.kT λa vs e g R=>?_
 obtain⟨v,gv,rv⟩:=R.get h
 rw[R.length]at p z
 obtain⟨p1,p2,p3⟩:=L4 p z
 exact tail_any (s:=s) ⟨_,g,rfl⟩ slot_tuple_getitem.lookup (getItem_tuple (items:=vs.toArray) ⟨_,g,rfl,_,rfl⟩ p2 p3 p1 (by rw[cC];exact gv) (q s v (cX.refl S) rv)) (nR hy _ _)
theorem Item.dict {a:Nat} {v x:V} (h:dY H a v (some x)):Item H (.ref a) v x:=λc κ s A value y va vb Q E hy hu S ra rb q=>by
 apply ra.kR λ_=>?_
 refine h c κ s.heap (λv=>VR c κ H s.heap v vb->_) S (λi kvs n D P rb=>?_) (λks xs n D P rb=>?_) rb
 ·apply rb.kI λt=>?_
  obtain⟨v,e,rv⟩:=P
  exact tail_any (s:=s) D.typeIs slot_dict_getitem.lookup (wpAny_getItem_of (jq _ t) D.mapOf e (q _ v (du.tok S _) rv)) (nR hy _ _)
 ·apply rb.kK λb K _=>?_
  obtain⟨v,e,rv⟩:=P
  obtain⟨p,e2,rfl⟩:=aZ.mp e
  exact tail_any (s:=s) D.typeIs slot_dict_getitem.lookup (wpAny_getItem_heap (uE hu) K D e2 (q _ _ (du.tok S _) rv)) (nR hy _ _)
end
end
section
section
variable {c:Cx} {H:Hp} {h:Heap} {k:Lk} {s:Shared} {A:Around} {E:Value->Shared->Prop}
theorem eH.take:∀(n:Nat) {l:List V} {vs:List Value},eH c k H h l vs->eH c k H h (l.take n) (vs.take n)
 |0,_,_,_=>rfl
 |n+1,[],_,r=>r.nE (P:=λvs=>eH c k H h [] (vs.take (n+1))) rfl
 |n+1,x::l,_,r=>r.cE (P:=λvs=>eH c k H h (x::l.take n) (vs.take (n+1))) λ_ _ a b=>.cons a (b.take n)
theorem eH.drop:∀(n:Nat) {l:List V} {vs:List Value},eH c k H h l vs->eH c k H h (l.drop n) (vs.drop n)
 |0,_,_,r=>r
 |n+1,[],_,r=>r.nE (P:=λvs=>eH c k H h [] (vs.drop (n+1))) rfl
 |n+1,x::l,_,r=>r.cE (P:=λvs=>eH c k H h (l.drop n) (vs.drop (n+1))) λ_ _ a b=>b.drop n
theorem eH.rev:∀{l:List V} {vs:List Value},eH c k H h l vs->eH c k H h l.reverse vs.reverse
 |[],_,r=>r.nE (P:=λvs=>eH c k H h [] vs.reverse) rfl
 |x::l,_,r=>by
  apply r.cE λv r a b=>?_
  rw[k7,k7]
  exact b.rev.append (.one a)
theorem sS {value y:Expr} {l:Addr} {vs:List Value} {e:Nat} {vl vu:Value} {lo hi:Option Int} {Q:Value->Shared->Prop} (hl:s.heap.get? l=some (lL vs e)) (pl:IsPart vl lo) (pu:IsPart vu hi) (z:vs.length≤SZ)
  (hs:∀o i,subscripted y false o i=operate [i,o] (getItem o i))
  (h:Q (.ref (s.heap.objs.size+1)) {s with heap:=(s.heap.push {cls:=.type "slice",data:=.fields #[vl,vu,.none]}).push {cls:=.type "list",data:=.seq (slicePick vs.toArray lo hi none)}}):
  wpAny (Md c) A (subscriptTail value y (.ref l) (.ref s.heap.objs.size)) Q E {s with heap:=s.heap.push {cls:=.type "slice",data:=.fields #[vl,vu,.none]}}:=by
 have hl':s.heap.IsList l vs.toArray:=⟨_,hl,rfl,_,rfl⟩
 refine tail_any (ops:=[.ref s.heap.objs.size,.ref l]) (Heap.IsList.typeIs (s:={s with heap:=s.heap.push {cls:=.type "slice",data:=.fields #[vl,vu,.none]}}) (hl'.push _)) list_getitem_lookup
  (wpAny_getItem_list_slice (hl'.push _) (Heap.IsSliceOf.new ..) pl pu .none (by simp) ?_ (by rw[gh,bS];exact z)) (hs _ _)
 show Q (.ref (s.heap.push _).objs.size) _
 rw[Heap.size_push];exact h
theorem du.slice (S:dw c k H s.heap) {x:Obj} {l:List V} {vs:Array Value} (R:eH c k H s.heap l vs.toList) (z:l.length≤SZ):
  du c k H s (k.add H.length (s.heap.objs.size+1) (s.heap.objs.size+1)) (H++[.list l]) {s with heap:=(s.heap.push x).push {cls:=.type "list",data:=.seq vs}}∧
  VR c (k.add H.length (s.heap.objs.size+1) (s.heap.objs.size+1)) (H++[O.list l]) ((s.heap.push x).push {cls:=.type "list",data:=.seq vs}) (.ref H.length) (.ref (s.heap.objs.size+1)):=by
 have e1:(s.heap.push x).objs.size=s.heap.objs.size+1:=Heap.size_push ..
 refine du.list S (e:=0) R z (t:=s.toks) ?_ ?_ ?_ λb o e=>Heap.get?_push_of_some _ (Heap.get?_push_of_some _ e)
 ·cases q:s.heap.get? (s.heap.objs.size+1)with
  |none=>rfl
  |some o=>exact absurd (Heap.lt_size q) (bE.mpr (iP _))
 ·rw[←e1];exact S.nP λb o e=>Heap.get?_push_of_some _ e
 ·rw[←e1];exact Heap.get?_push_size _ rfl
end
noncomputable def sT (H:Hp) (x:V) (n:Nat) (l:List V):Prop:=∀(c:Cx) (k:Lk) (h:Heap) (P:Value->Prop) (va:Value),dw c k H h->VR c k H h x va->(∀a vs e,h.get? a=some (lL vs e)->eH c k H h l (vs.take n)->vs.length≤SZ->l.length≤SZ->P (.ref a))->P va
theorem sT.list {H:Hp} {a n:Nat} {l:List V} (o:H[a]?=some (.list l)):sT H (.ref a) n (l.take n):=λc k h P va S ra q=>by
 apply ra.kR λ_=>?_
 refine S.kL o λvs e g R=>q _ vs e g (R.take _) (R.length▸S.Ih o) ?_
 rw[eQ];exact aj (Nat.min_le_right _ _) (S.Ih o)
theorem sT.ro {H:Hp} {a n:Nat} {l:List Int} (o:H[a]?=some (.ro l)):sT H (.ref a) n (de (l.take n)):=λc k h P va S ra q=>by
 apply ra.kR λ_=>?_
 obtain⟨z,vs,e,g,I⟩:=S.2 _ _ o
 have R:=(vk (c:=c) (k:=k) (H:=H) (h:=h) I).take n
 refine q _ vs e g (by unfold de at R ⊢;rw[iu];exact R) (I.length▸z) ?_
 unfold de
 rw[ae,eQ];exact aj (Nat.min_le_right _ _) z
end
section
noncomputable def wv (H:Hp) (x:V) (n:Nat) (l:List V):Prop:=∀(c:Cx) (k:Lk) (h:Heap) (P:Value->Prop) (va:Value),dw c k H h->VR c k H h x va->(∀a vs e,h.get? a=some (lL vs e)->eH c k H h l (vs.drop n)->vs.length≤SZ->l.length≤SZ->P (.ref a))->P va
theorem wv.list {H:Hp} {a n:Nat} {l:List V} (o:H[a]?=some (.list l)):wv H (.ref a) n (l.drop n):=λc k h P va S ra q=>by
 apply ra.kR λ_=>?_
 refine S.kL o λvs e g R=>q _ vs e g (R.drop _) (R.length▸S.Ih o) ?_
 rw[gO];exact aj (mL _ _) (S.Ih o)
noncomputable def wy (H:Hp) (x:V) (n:Nat):Prop:=∀(c:Cx) (k:Lk) (s:Shared) (A:Around) (va:Value) (Q:Value->Shared->Prop) (E:Value->Shared->Prop),dw c k H s.heap->VR c k H s.heap x va->(∀s' t,du c k H s k H s'->Q (.int n t) s')->wpAny (Md c) A (call (.builtin "len") [va]) Q E s
section
variable {H:Hp}
theorem wy.tup {l:List V} (z:l.length≤SZ):wy H (.tup l) l.length:=λc k s A va Q E S ra h=>by
 apply ra.kT λa vs e g R=>?_
 rw[R.length]at z h
 exact len_tuple (s:=s) (t:=a) (items:=vs.toArray) ⟨_,g,rfl,_,rfl⟩ (Ft z (aC _)) (h _ _ (du.tok S _))
theorem wy.list {a:Nat} {l:List V} (o:H[a]?=some (.list l)) (z:l.length≤SZ):wy H (.ref a) l.length:=λc k s A va Q E S ra h=>by
 apply ra.kR λ_=>?_
 refine S.kL o λvs e g R=>?_
 rw[R.length]at z h
 exact call_len_list (items:=vs.toArray) ⟨_,g,rfl,_,rfl⟩ (Ft z (aC _)) (h _ _ (du.tok S _))
theorem wy.ro {a:Nat} {l:List Int} (o:H[a]?=some (.ro l)):wy H (.ref a) l.length:=λc k s A va Q E S ra h=>by
 apply ra.kR λ_=>?_
 obtain⟨z,vs,e,g,I⟩:=S.2 _ _ o
 rw[←I.length]at z h
 exact call_len_list (items:=vs.toArray) ⟨_,g,rfl,_,rfl⟩ (Ft z (aC _)) (h _ _ (du.tok S _))
end
end
section
section
variable {c:Cx} {T:Tb} {L:Lc} {H H1 H2:Hp} {e:CE} {l:mo} {v u:V} {k k':Lk} {s s':Shared} {A:Around} {r:Nat} {E:Value->Shared->Prop} {env:Env} {pos:Pos} {sc:Scope} {nm:List Str}
theorem nU {x:Expr} (xs:List Expr) (h:gd true true x=true):starEach (x::xs) env=(false,eval x env)::starEach xs env:=
 dC (P:=λx=>starEach (x::xs) env=(false,eval x env)::starEach xs env) h (λ_ _ _=>rfl) (λ_ _ _ _ _=>rfl) (λ_ _ _ _=>rfl) (λ_ _ _ _ _=>rfl) (λ_ _ _ _=>rfl) (λ_ _ _ _ _=>rfl) (λ_ _ _=>rfl) (λ_ _ _ _=>rfl) (λ_ _ _ _=>rfl)
  (λ_ _ _ _ _=>rfl) (λ_ _ _ _=>rfl) (λ_ _ _ _ _=>rfl) (λ_ _ _ _=>rfl) (λ_ _ _ _ _=>rfl) λ_ _ _ _=>rfl
theorem uF {x:Expr} (h:gd true true x=true):backTo pos (starEach [x] env)=[(false,eval x env)]:=by rw[nU _ h];rfl
theorem Cu {x y:Expr} (h:gd true true x=true) (h':gd true true y=true):backTo pos (starEach [x,y] env)=[(false,eval x env),(false,eval y env)]:=by rw[nU _ h,nU _ h'];rfl
theorem fh {P:List Expr->Prop} {kJ:List Expr} (ok:jp T r sc nm (.cons e l) kJ=true) (k:∀x xs,gd true true x=true->gH T r sc nm e x=true->jp T r sc nm l xs=true->P (x::xs)):P kJ:=sN ok λx xs h=>i7 h (k x xs)
theorem lM {P:List Expr->Prop} {kJ:List Expr} (ok:jp T r sc nm .nil kJ=true) (k:P []):P kJ:=sO ok k
theorem noStar:∀{l:mo} {kJ:List Expr},jp T r sc nm l kJ=true->(backTo pos (starEach kJ env)).all (λx=>!x.1)=true
 | .nil,_,ok=>lM (P:=λkJ=>(backTo pos (starEach kJ env)).all (λx=>!x.1)=true) ok rfl
 | .cons e l,_,ok=>by
  apply fh ok λx xs h1 _ h3=>?_
  rw[nU _ h1]
  exact noStar h3
theorem wz {o:Expr} {name:Str} (h:eX o=true):attributeBase o name env (eval o env)=eval o env:=
 dC (P:=λo=>∀w,attributeBase o name env w=w) h (λ_ _ _ _=>rfl) (λ_ _ _ _ _ _=>rfl) (λ_ _ _ _ _=>rfl) (λ_ _ _ _ _ _=>rfl) (λ_ _ _ _ _=>rfl) (λ_ _ _ _ _ _=>rfl) (λ_ _ _ _=>rfl) (λ_ _ _ _ _=>rfl) (λ_ _ _ _ _=>rfl)
  (λ_ _ _ _ _ _=>rfl) (λ_ _ _ _ _=>rfl) (λ_ _ _ _ _ _=>rfl) (λ_ _ _ _ _=>rfl) (λg l k p h=>dC (P:=λg=>∀w,attributeBase (.Call g l k p) name env w=w) h (λx q h w=>by
   cases l with
   |cons=>rfl
   |nil=>cases k with
    |cons=>rfl
    |nil=>
     show(if(x !="super"||_||_||_)=true then(do let r ←w;pure r)else _)=w
     rw[if_pos (by rw[h];rfl)];try exact bind_pure w) Z4 Z3 Z4 Z3 Z4 Z2 Z3 Z3 Z4 Z3 Z4 (λ_ _ _ _ w=>by cases l<;>cases k<;>rfl) Z4 Z3) (λ_ _ _ _ _=>rfl) _
theorem O.Ji:∀{o:O},o.owned=true->o.made=true
 | .list _,_| .bc _,_| .bV _,_| .kH _,_| .inst ..,_=>rfl
section
variable {j:Nat} {o o':O} {a b:Addr} {h':Heap} {t:Nat}
theorem Ik (hj:H[j]?=some o) (hw:o.owned=true) (Il:o'.owned=true) (hi:o'.dL=o.dL):Oo k (H.set j o') b↔Oo k H b:=by
 refine⟨fun⟨i,y,q,w,z⟩=>?_,fun⟨i,y,q,w,z⟩=>?_⟩
 ·rcases qR q with⟨rfl,rfl⟩|⟨_,q⟩
  ·exact⟨i,o,hj,hw,z.imp id λz=>⟨hi▸z.1,z.2⟩⟩
  ·exact⟨i,y,q,w,z⟩
 ·by_cases n:i=j
  ·subst n;cases hj.symm.trans q;exact⟨i,o',a8 (j0 q),Il,z.imp id λz=>⟨hi.symm▸z.1,z.2⟩⟩
  ·exact⟨i,y,(a9 (dU n)).trans q,w,z⟩
theorem du.set (S:dw c k H s.heap) (hj:H[j]?=some o) (hw:o.owned=true) (Il:o'.owned=true) (hi:o'.dL=o.dL) (hp:At k j o a) (e:∀b y,b≠a->s.heap.get? b=some y->h'.get? b=some y) (x:Mw k H s.heap k H h'->OR c k H h' j o'):
  du c k H s k (H.set j o') {s with heap:=h',toks:=t}:=
 ⟨S.set (X:=λb=>b=a) hj hi ((O.Ji Il).trans (O.Ji hw).symm) (λ_ z=>⟨O.Ji hw,cq z▸hp⟩) e (x ⟨aC _,λ_ _=>rfl,λb _ _ q=>e _ _ (λz=>S.OQ q _ _ hj (cq z▸hp)) q⟩),
  ⟨by rw[aU];exact aC _,λ_ _=>⟨rfl,rfl⟩,λb y f _ q=>e _ _ (λz=>f ⟨j,o,hj,hw,cq z▸hp⟩) q,λ_=>(Ik hj hw Il hi).mpr,λ_ _ f _ z=>f ((Ik hj hw Il hi).mp z),λi l l'=>absurd (aw l' (by rw[aU];exact l)) (eO _),λ_ _ x=>x.elim⟩,rfl⟩
theorem du.FT (S:dw c k H s.heap) {ll l':List V} {vs Je:List Value} {n:Nat} (f:Array Value->Array Value) (hj:H[j]?=some (.list ll)) (g:s.heap.get? (k.ι j)=some (lL vs n)) (z:l'.length≤SZ) (ef:f vs.toArray=Je.toArray) (R:eH c k H s.heap l' Je):
  du c k H s k (H.set j (.list l')) {s with heap:=s.heap.update (k.ι j) (Obj.mapSeq f),toks:=t}:=
 du.set (a:=k.ι j) S hj rfl rfl rfl (.inl rfl) (λb y q e=>(Heap.get?_update_other _ _ (dU q)).trans e) λm=>⟨z,Je,_,by have:=(NZ g).update f;rw[ef]at this;exact this,R.mono m⟩
end
theorem wA {o:Expr} {ov:Value} {name:Str} {apos:Pos} {args:List Expr} {Q:Value->Shared->Prop} (hp:(apos.endLine==pos.line&&decide (args.length<20))=true) (hs:(backTo pos (starEach args env)).all (λx=>!x.1)=true)
  (h:∀pl,wpAny (Md c) A (getMethod ov name pl) (λfx s₂=>wpAny (Md c) A (callWith pos fx.1 fx.2 (backTo pos (starEach args env)) []) Q E s₂) E s):
  wpAny (Md c) A (methodCall o name apos pos env ov (args.length+([]:List Keyword).length) (backTo pos (starEach args env)) (backToKw pos (keywordEach [] env))) Q E s:=by
 have L6:methodCallForm (args.length+([]:List Keyword).length) (backTo pos (starEach args env)) (backToKw pos (keywordEach [] env))=true:=by
  show((backTo pos (starEach args env)).all (!·.1)&&true&&decide (args.length+0+0<30))=true
  rw[hs,decide_eq_true (show args.length+0+0<30 from bK (of_decide_eq_true (cI hp).2) (by decide))];rfl
 have OU:methodCallPos true o env apos pos=pure pos:=by
  unfold methodCallPos;rw[(cI hp).1];rfl
 unfold methodCall
 rw[L6]
 refine wpAny_bind (wpAny_holding (wpAny_mono (h _) (λfx s₂ h₂=>?_) λ_ _ e=>e))
 exact wpAny_bind (wpAny_of_eq OU h₂)
theorem wC {o:Expr} {name:Str} {apos:Pos} {args:List Expr} {Q:Value->Shared->Prop} (hp:(apos.endLine==pos.line&&decide (args.length<20))=true) (hb:eX o=true) (hs:(backTo pos (starEach args env)).all (λx=>!x.1)=true)
  (h:wpAny (Md c) A (eval o env) (λov s₁=>∀pl,wpAny (Md c) A (getMethod ov name pl) (λfx s₂=>wpAny (Md c) A (callWith pos fx.1 fx.2 (backTo pos (starEach args env)) []) Q E s₂) E s₁) E s):
  wpAny (Md c) A (eval (.Call (.Attribute o name apos) args [] pos) env) Q E s:=by
 rw[arm_eval_Call,wz hb]
 exact wpAny_bind (wpAny_mono h (λov s₁ h₁=>wpAny_bind (wpAny_standAt (wA hp hs h₁))) λ_ _ e=>e)
theorem K8 {o:CE} {kk:Nat} {y:Expr} {q:Pos} {args:List Expr} {name:Str} {id U:String} {Q:Value->Shared->Prop} (ih:b9 c T o L H (.ref kk) H1) (S:St c A r k H s env nm L) (hp:(q.endLine==pos.line&&decide (args.length<20))=true) (hn:eX y=true)
  (hs:(backTo pos (starEach args env)).all (λx=>!x.1)=true) (ok:gH T r env.scope nm o y=true) (pa:PlainAttrs U) (sl:Slot U name id) (ty:typeOf (.builtin id)=pure (.type "method_descriptor"))
  (g:∀k h,dw c k H1 h->∃o,h.get? (k.ι kk)=some o∧o.cls= .type U∧o.dict=none) (h:∀k1 s1,du c k H s k1 H1 s1->kk<H1.length->wpAny (Md c) A (callWith pos (.builtin id) [.ref (k1.ι kk)] (backTo pos (starEach args env)) []) Q E s1):
  wpAny (Md c) A (eval (.Call (.Attribute y name q) args [] pos) env) Q E s:=
 wC hp hn hs (ih S ok λk1 s1 v1 T1 R1 pl=>by
  apply R1.kR λN=>?_
  obtain⟨o,e,t,d⟩:=g k1 _ T1.1
  exact getMethod_builtin ⟨o,e,t⟩ pa sl ty (λa z=>⟨o,by cases z;exact e,d⟩) (h k1 s1 T1 N))
theorem zK {x:Expr} (h:gd true true x=true):(backTo pos (starEach [x] env)).all (λx=>!x.1)=true:=by rw[uF h];rfl
theorem dw.OX {kk:Nat} {ll:List V} (g:H[kk]?=some (.list ll)):∀k h,dw c k H h->∃o,h.get? (k.ι kk)=some o∧o.cls= .type "list"∧o.dict=none:=λk h S=>S.kL g λ_ _ g _=>⟨_,g,rfl,rfl⟩
theorem yg {o x:CE} {kk:Nat} {ll:List V} (Cy:b9 c T o L H (.ref kk) H1) (FU:b9 c T x L H1 v H2) (h0:∃l0,H1[kk]?=some (.list l0)) (h:H2[kk]?=some (.list ll)) (z:ll.length<SZ):
  b9 c T (.append o x) L H .none (H2.set kk (.list (ll++[v]))):=by
 intro A r env nm pe k s Q E S ok hQ
 obtain⟨l0,g0⟩:=h0
 apply yd ok λy q as p hp hn ok=>?_
 revert hp
 apply zE ok λw hw o1 o2=>?_
 intro hp
 refine K8 Cy S hp hn (zK hw) o1 F.plainAttrs_list F.slot_list_append F.type_list_append (dw.OX g0) λk1 s1 T1 N=>?_
 rw[uF hw]
 refine P.append_list (FU (S.go T1) o2 λk2 s2 v2 T2 R2=>?_)
 rw[←(T2.2.2 kk N).1]
 refine T2.1.kL h λvs e g2 R=>?_
 exact⟨vs.toArray,e,by rw[gh,bS,←R.length];exact aK z,g2,hQ k2 _ _ ((T1.trans T2).trans (du.FT T2.1 _ h g2 (by rw[aq];exact z) (List.push_toArray vs v2) (R.append (.one R2)))) rfl⟩
theorem yh {o x:CE} {kk j:Nat} {ll rr:List V} (Cy:b9 c T o L H (.ref kk) H1) (FU:b9 c T x L H1 (.ref j) H2) (h0:∃l0,H1[kk]?=some (.list l0)) (h:H2[kk]?=some (.list ll)) (h2:H2[j]?=some (.list rr)) (ne:kk≠j)
  (z:ll.length+rr.length<SZ):b9 c T (.extend o x) L H .none (H2.set kk (.list (ll++rr))):=by
 intro A r env nm pe k s Q E S ok hQ
 obtain⟨l0,g0⟩:=h0
 apply yd ok λy q as p hp hn ok=>?_
 revert hp
 apply zE ok λw hw o1 o2=>?_
 intro hp
 refine K8 Cy S hp hn (zK hw) o1 F.plainAttrs_list F.slot_list_extend F.type_list_extend (dw.OX g0) λk1 s1 T1 N=>?_
 rw[uF hw]
 refine P.extend_list (FU (S.go T1) o2 λk2 s2 v2 T2 R2=>?_)
 rw[←(T2.2.2 kk N).1]
 apply R2.kR λ_=>?_
 refine T2.1.kL h λvs e g2 R=>T2.1.kL h2 λus e' g3 R'=>?_
 have z1:=z
 rw[R.length,R'.length]at z1
 exact⟨_,vs.toArray,us.toArray,e,e',by rw[gh,bS];exact aj (bu _ _) (aK z1),by rw[gh,bS,bS];exact cu (aK z1),λq=>zI (n:=vs.toArray.size+us.toArray.size) (aK z1) (cI q).2,rfl,g2,g3,
  hQ k2 _ _ ((T1.trans T2).trans (du.FT T2.1 _ h g2 (by rw[aq];exact aK z) (o_ ..) (R.append R'))) rfl⟩
theorem FV {o:CE} {kk:Nat} {ll:List V} (Cy:b9 c T o L H (.ref kk) H1) (h:H1[kk]?=some (.list (ll++[v]))) (z:ll.length<SZ):b9 c T (.pop o) L H v (H1.set kk (.list ll)):=by
 intro A r env nm pe k s Q E S ok hQ
 apply yd ok λy q as p hp hn ok=>?_
 apply iW ok λh1 o1=>?_
 revert hp
 apply sO h1
 intro hp
 refine K8 Cy S hp hn rfl o1 F.plainAttrs_list F.slot_list_pop F.type_list_pop (dw.OX h) λk1 s1 T1 N=>?_
 refine T1.1.kL h λvs e g R=>?_
 obtain⟨w,gw,Jj⟩:=R.get (i:=ll.length) (x:=v) bt
 have e1:vs.toArray.size-1=ll.length:=by rw[bS,←R.length,aq];rfl
 have zz:=T1.1.Ih h
 rw[R.length]at zz
 have R2:=R.take ll.length
 rw[oA]at R2
 have T2:=du.FT (t:=s1.toks) T1.1 (λxs=>xs.eraseIdxIfInBounds (vs.toArray.size-1)) h g (aK z) (Je:=vs.take ll.length) (by
  rw[e1,List.eraseIdxIfInBounds_toArray,List.eraseIdx_eq_take_drop_succ,List.drop_eq_nil_of_le (by rw[←R.length,aq];exact aC _),aN]) R2
 exact P.pop_list (NZ g) (by rw[e1,cC];exact gw) (hQ k1 _ _ (T1.trans T2) (T2.vr T1.1 Jj)) zz
end
end
section
section
variable {c:Cx} {T:Tb} {L:Lc} {H H1 H2:Hp} {a b:CE} {v u:V} {k:Lk} {s:Shared} {A:Around} {r:Nat} {E:Value->Shared->Prop} {env:Env} {nm:List Str} {pos:Pos} {f:Value} {h':Heap}
noncomputable def FW (c:Cx) (f:Value):Prop:=∀{A:Around} {pos:Pos} {x:Sem Value} {s:Shared} {Q:Value->Shared->Prop} {E:Value->Shared->Prop},wpAny (Md c) A (spliced [(false,x)]) (λvs s₁=>wpAny (Md c) A (call f vs) Q E s₁) E s->wpAny (Md c) A (callWith pos f [] [(false,x)] []) Q E s
theorem OY {id:String}:FW c (.builtin id):=λh=>callWith_builtin rfl (evalArgs_plain h)
theorem L8 {t:String}:FW c (.type t):=λh=>PySem.callWith_type rfl (evalArgs_plain h)
theorem yi {y:Str} {q:Pos} {w:Expr} {Q:Value->Shared->Prop} (TO:nK c T) (hy:y∈([("len":Str),"sorted","list","tuple","int","sum","max","range","reversed","super"])) (hb:bootBuiltins y=some f) (cw:FW c f) (S:St c A r k H s env nm L) (hg:nL env.scope y=true) (hw:gd true true w=true)
  (h:wpAny (Md c) A (eval w env) (λv s₁=>wpAny (Md c) A (call f [v]) Q E s₁) E s):wpAny (Md c) A (eval (.Call (.Name y q) [w] [] pos) env) Q E s:=by
 refine wpAny_bind (S.3.Ig S.2 hg (TO.14 _ hy) hb (λz=>by rw[z]at hy;revert hy;decide) ?_)
 rw[uF hw]
 exact cw (spliced_cons (wpAny_mono h (λ_ _ h=>spliced_nil h) λ_ _ e=>e))
theorem uG {e:CE} {y:Str} (ok:∀r sc nm,gH T r sc nm e=Ch sc y (gH T r sc nm a)) (TO:nK c T) (hy:y∈([("len":Str),"sorted","list","tuple","int","sum","max","range","reversed","super"])) (hb:bootBuiltins y=some f) (cw:FW c f) (x:b9 c T a L H v H1)
  (g:∀{A:Around} {r k s va Q} {E:Value->Shared->Prop},B3 A r->dw c k H1 s.heap->VR c k H1 s.heap v va->(∀k' s' v',du c k H1 s k' H2 s'->VR c k' H2 s'.heap u v'->Q v' s')->wpAny (Md c) A (call f [va]) Q E s):b9 c T e L H u H2:=by
 intro A r env nm pe k s Q E S o h
 rw[ok]at o
 apply Ci o λq w pos hg hw o=>?_
 exact yi TO hy hb cw S hg hw (x S o λk1 s1 v1 T1 R1=>g S.1 T1.1 R1 λk2 s2 v2 T2 R2=>h _ _ _ (T1.trans T2) R2)
theorem FX {n:Nat} (TO:nK c T) (x:b9 c T a L H v H1) (R:wy H1 v n):b9 c T (.len a) L H (.int n) H1:=
 uG (f:=.builtin "len") (λ_ _ _=>rfl) TO (by decide) (by decide+kernel) OY x λ_ S R1 h=>R _ _ _ _ _ _ _ S R1 λ_ _ T2=>h _ _ _ T2 (Fq _ _)
theorem AL {i:Int} (TO:nK c T) (x:b9 c T a L H (.int i) H1):b9 c T (.intOf a) L H (.int i) H1:=
 uG (f:=.type "int") (λ_ _ _=>rfl) TO (by decide) (by decide+kernel) L8 x λ{A r k s va Q E} _ S R1 h=>by
  apply R1.kI λt=>?_
  exact call_int_int (h _ _ _ (cX.refl S) (Fq _ _))
theorem yj {kk:Nat} {ll:List V} (TO:nK c T) (x:b9 c T a L H (.ref kk) H1) (o:H1[kk]?=some (.list ll)) (z:ll.length≤SZ):b9 c T (.listOf a) L H (.ref H1.length) (H1++[.list ll]):=
 uG (f:=.type "list") (λ_ _ _=>rfl) TO (by decide) (by decide+kernel) L8 x λ{A r k s va Q E} _ S R1 h=>by
  apply R1.kR λ_=>?_
  refine S.kL o λvs e g R=>?_
  refine call_list_seq (items:=vs.toArray) _ (.inl rfl) g rfl rfl (λh' c' hk ho=>?_) (by rw[gh,bS,←R.length];exact z)
  have W:=du.list (t:=s.toks) (e:=c') S R z (ip _) (S.nP λ_ _ e=>e) ho hk
  exact h _ _ _ W.1 W.2
theorem wD {kk:Nat} {ll:List V} (TO:nK c T) (x:b9 c T a L H (.ref kk) H1) (o:H1[kk]?=some (.list ll)) (z:ll.length≤SZ):b9 c T (.tupleOf a) L H (.tup ll) H1:=
 uG (f:=.type "tuple") (λ_ _ _=>rfl) TO (by decide) (by decide+kernel) L8 x λ{A r k s va Q E} _ S R1 h=>by
  apply R1.kR λ_=>?_
  refine S.kL o λvs e g R=>?_
  refine call_tuple_list (items:=vs.toArray) ⟨_,g,rfl,_,rfl⟩ (λh' hk=>?_) (by rw[gh,bS,←R.length];exact z)
  have W:=du.keeps (h':=h'.push (ic vs 0)) (t:=s.toks) S λb o e=>Heap.get?_push_of_some _ (hk b o e)
  exact h _ _ _ W (OP (e:=0) (Heap.get?_push_size _ rfl) (W.OS S R))
theorem FY {i j:Int} (TO:nK c T) (x:b9 c T a L H (.int i) H1) (y:b9 c T b L H1 (.int j) H2):b9 c T (.max a b) L H (.int (if i<j then j else i)) H2:=by
 intro A r env nm pe k s Q E S ok h
 apply qS ok λn q l p ok=>?_
 apply iW ok λhx ol=>?_
 clear ok
 apply iW hx λhn hg=>?_
 cases cJ hn
 apply K6 ol λw1 w2 ok=>?_
 apply oW ok λh1 h2 o1 o2=>?_
 refine wpAny_bind (S.3.Ig S.2 hg (TO.14 _ (by decide)) (by decide+kernel:bootBuiltins "max"=some (.builtin "max")) (by decide) ?_)
 rw[Cu h1 h2]
 refine callWith_builtin rfl (evalArgs_plain (spliced_cons (x S o1 λk1 s1 v1 T1 R1=>spliced_cons (y (S.go T1) o2 λk2 s2 v2 T2 R2=>spliced_nil ?_))))
 apply R1.kI λt=>?_
 apply R2.kI λt'=>?_
 refine max_two_ints S.1.1 λh' tk hk=>h _ _ _ ((T1.trans T2).trans (du.keeps (t:=tk) T2.1 hk)) ?_
 by_cases q:i<j
 ·rw[if_pos q,if_pos (show j>i from q)];exact Fq _ _
 ·rw[if_neg q,if_neg (show ¬j>i from q)];exact Fq _ _
theorem L9 {a ns:List Int} (p:a.Perm ns) (o:a.Pairwise (· ≤ ·)):a=FJ ns:=by
 refine List.Perm.eq_of_pairwise (le:=(· ≤ ·)) (λx y _ _ h1 h2=>Int.le_antisymm h1 h2) o ?_ (p.trans (ph _ _).symm)
 exact(lW (le:=λa b:Int=>decide (a≤b)) (λa b c h1 h2=>decide_eq_true (qI (of_decide_eq_true h1) (of_decide_eq_true h2))) (λa b=>cD.mpr ((Int.le_total a b).imp decide_eq_true decide_eq_true)) ns).imp of_decide_eq_true
theorem FZ {n:Nat} (h:n<64):n≤SZ:=aj (aK h) (by decide)
theorem Jk (l:List Int):(de (FJ l)).length=l.length:=(ae _).trans (nj _)
noncomputable def OZ (c:Cx) (s:Shared) (A:Around) (v:Value) (ns:List Int) (E:Value->Shared->Prop):Prop:=∀Q':List Value->Shared->Prop,(∀h' tk vs,(∀b o,s.heap.get? b=some o->h'.get? b=some o)->IntsAre vs ns->Q' vs {s with heap:=h',toks:=tk})->wpAny (Md c) A (collect v) Q' E s
theorem AM {v:Value} {ns:List Int} {Q:Value->Shared->Prop} (S:dw c k H s.heap) (hn:ns.length<64) (hc:OZ c s A.in1 v ns E)
  (h:∀k' s' v',du c k H s k' (H++[.list (de (FJ ns))]) s'->VR c k' (H++[O.list (de (FJ ns))]) s'.heap (.ref H.length) v'->Q v' s'):wpAny (Md c) A (call (.builtin "sorted") [v]) Q E s:=by
 refine call_function_entry kind_sorted plain_sorted entry_sorted (args_sorted1 _) ?_
 unfold Builtin.«sorted»
 refine wpAny_bind (m:=checkCount "sorted" 1 1 _) (wpAny_pure ?_)
 refine wpAny_bind (hc _ λh' tk vs hk hI=>?_)
 have hl:=hI.length
 rw[←hl]at hn
 refine wpAny_bind (wpAny_newList ?_ (by rw[gh];exact FZ hn))
 have ho:(h'.push (seqObj "list" vs.toArray 0)).get? h'.objs.size=some (seqObj "list" vs.toArray 0):=Heap.get?_push_size _ rfl
 refine wpAny_bind (wpAny_holding (wpAny_call_entry slot_list_sort ⟨_,ho,rfl⟩ entry_list_sort (list_sort_tree (s:={s with heap:=h'.push (seqObj "list" vs.toArray 0),toks:=tk}) ho hI hn λout O0 a1 a2 a3=>⟨_,rfl,?_⟩) (args_list_sort _)))
 refine wpAny_pure ⟨_,rfl,?_⟩
 obtain⟨e',he⟩:=sortedHeap_at (h:=h'.push (seqObj "list" vs.toArray 0)) (a:=h'.objs.size) (vs:=vs) (n:=0) (out:=out) ho
 cases L9 a2 a3
 have W:=du.list (t:=tk) (l:=de (FJ ns)) (vs:=out.toList) (e:=e') S (vk a1) (by rw[Jk,←hl];exact FZ hn) (a:=h'.objs.size)
  (by
   cases z:s.heap.get? h'.objs.size with
   |none=>rfl
   |some o=>exact absurd (Heap.lt_size (hk _ _ z)) (eO _))
  (S.nP hk) he
  (λb o e=>(sortedHeap_old (cr (Heap.lt_size (hk _ _ e))) (aw (Heap.lt_size (hk _ _ e)) (by rw[Heap.size_push];exact iP _))).trans (Heap.get?_push_of_some _ (hk b o e)))
 exact h _ _ _ W.1 W.2
theorem Cz {kvs:List (Int×Value)}:∀{vs:List Value},vs.length=kvs.length->(∀(j:Nat) (v:Value),vs[j]?=some v->∃k x,kvs[j]?=some (k,x)∧(ik c).is k v=true)->IntsAre vs (kvs.map (·.1)):=by
 induction kvs with
 |nil=>intro vs h _;cases lX.mp h;exact .nil
 |cons p kvs ih=>
  intro vs h g
  cases vs with
  |nil=>cases h
  |cons v vs=>
   obtain⟨k',x',e,w⟩:=g 0 v rfl
   obtain⟨t,rfl⟩:=Value.isInt_shape w
   cases e
   exact .cons _ _ (ih (gQ h) λj=>g (j+1))
theorem sk {κ:Type}:∀{d:List (κ×V)} {kvs:List (κ×Value)},jo c k H h' d kvs->d.map (·.1)=kvs.map (·.1)
 |[],_,r=>r.kN (P:=λkvs=>([]:List (κ×V)).map (·.1)=kvs.map (·.1)) rfl
 |_::_,_,r=>r.kC (P:=λkvs=>_=kvs.map (·.1)) λ_ _ _ q=>congrArg (_:: ·) (sk q)
end
noncomputable def jH (H:Hp) (x:V) (ns:List Int):Prop:=∀(c:Cx) (k:Lk) (s:Shared) (A:Around) (v:Value) (E:Value->Shared->Prop),A.handled=none->dw c k H s.heap->VR c k H s.heap x v->ns.length<64->OZ c s A.in1 v ns E
section
variable {H:Hp}
theorem jH.seq {c:Cx} {s:Shared} {A:Around} {a:Addr} {E:Value->Shared->Prop} {vs:List Value} {n:Nat} {l:List Int} {U:String} (hU:U="list"∨U="tuple") (g:s.heap.get? a=some (seqObj U vs.toArray n)) (I:IntsAre vs l) (z:l.length<64):OZ c s A (.ref a) l E:=λQ' hq=>
 wpAny_collect_seq (items:=vs.toArray) _ hU g rfl rfl (λh' hk=>hq h' s.toks vs hk I) (by rw[gh,bS,I.length];exact FZ z)
theorem jH.tup {l:List Int}:jH H (.tup (de l)) l:=λc k s A v E hA S ra z=>by
 apply ra.kT λa vs e g R=>?_
 exact jH.seq (.inr rfl) g (intsOf R) z
theorem jH.list {a:Nat} {l:List Int} (o:H[a]?=some (.list (de l))):jH H (.ref a) l:=λc k s A v E hA S ra z=>by
 apply ra.kR λ_=>?_
 exact S.kL o λvs e g R=>jH.seq (.inl rfl) g (intsOf R) z
theorem jH.dict {a:Nat} {d:List (Int×V)} (o:H[a]?=some (.bc d)):jH H (.ref a) (d.map (·.1)):=λc k s A v E hA S ra z=>by
 apply ra.kR λ_=>?_
 obtain⟨kvs,D,P⟩:=S.2 _ _ o
 obtain⟨ep,hat⟩:=D.dictAt
 rw[ae,P.len]at z
 rw[sk P]
 exact λQ' hq=>kdu_collect (kdl_dict (knd:=ik c) (kvs:=kvs) (ep:=ep) (S.noSys o rfl)) hA hat (by rw[gh];exact FZ z) λh' tk acc hk L_=>hq h' tk _ hk (Cz L_.1 λj u hu=>L_.2 j u (by rw[←ny];exact hu))
theorem Im {l:List Int}:∀j,j≤l.length->preSum (λi=>l.getD i 0) j=(l.take j).sum
 |0,_=>rfl
 |j+1,h=>by
  rw[iT h,mU,←Im j (aK h)]
  exact congrArg (_+ ·) ((congrArg (Option.getD · 0) (ao h)).trans (Int.add_zero _).symm)
theorem Jl {vs:List Value} {ns:List Int} (I:IntsAre vs ns):∀(i:Nat) v,vs[i]?=some v->∃t,v= .int (ns.getD i 0) t:=by
 induction I with
 |nil=>exact λi v h=>cW rfl h
 |cons n t _ ih=>exact λi v h=>match i,h with
  |0,h=>⟨t,(ax h).symm⟩
  |i+1,h=>ih i v h
variable {c:Cx} {T:Tb} {L:Lc} {H1:Hp} {a:CE} {v:V}
theorem yk {ns:List Int} (TO:nK c T) (x:b9 c T a L H v H1) (R:jH H1 v ns) (z:ns.length<64):b9 c T (.sorted a) L H (.ref H1.length) (H1++[.list (de (FJ ns))]):=
 uG (f:=.builtin "sorted") (λ_ _ _=>rfl) TO (by decide) (by decide+kernel) OY x λhA S R1 h=>AM S z (R _ _ _ _ _ _ hA.1 S R1 z) h
theorem F4 {kk:Nat} {ns:List Int} (TO:nK c T) (x:b9 c T a L H (.ref kk) H1) (o:H1[kk]?=some (.list (de ns))):b9 c T (.sum a) L H (.int ns.sum) H1:=
 uG (f:=.builtin "sum") (λ_ _ _=>rfl) TO (by decide) (by decide+kernel) OY x λ{A r k s va Q E} hA S R1 h=>by
  apply R1.kR λ_=>?_
  refine S.kL o λvs e g R=>?_
  have I:=intsOf R
  have hg:s.heap.IsList (k.ι kk) vs.toArray:=⟨_,g,rfl,_,rfl⟩
  refine call_sum_walkG (wpAny_pyIter_list hg ⟨_,_,_,_,_,_,λi=>ns.getD i 0,rfl,Walks.list (A:=A.in1) hA.1 s.heap.objs.size (k.ι kk) (cr (Heap.lt_size g)) vs.toArray,
   ⟨⟨_,Heap.get?_push_size _ rfl,rfl,rfl⟩,hg.push _⟩,λb hb=>?_,λi v hv=>Jl I i v (by rw[←cC];exact hv),λh' tk t' hk=>?_⟩)
  ·show b<(Heap.push _ _).objs.size
   rw[Heap.size_push]
   rcases aI.mp hb with rfl|hb
   ·exact bT _
   ·exact ak.mp hb▸d9 (Heap.lt_size g)
  ·rw[bS,I.length,Im _ (aC _),aR]
   exact h _ _ _ (du.keeps S λb o e=>hk b o (λz=>eO _ (ak.mp z▸Heap.lt_size e)) (Heap.get?_push_of_some _ e)) (Fq _ _)
end
end
section
section
variable {c:Cx} {T:Tb} {L:Lc} {H H1 H2 H3 H':Hp} {a b d:CE} {v u:V} {w:Value} {k:Lk} {s:Shared} {A:Around} {r:Nat} {E:Value->Shared->Prop} {h:Heap}
theorem dw.Ca {kk:Nat} (g:pJ H kk):∀k h,dw c k H h->∃o,h.get? (k.ι kk)=some o∧o.cls= .type "dict"∧o.dict=none:=λk h S=>by
 rcases g with⟨d,g⟩|⟨d,g⟩
 ·obtain⟨_,⟨o,_,_,q,x,_⟩,_⟩:=S.2 _ _ g
  exact⟨o,q,x.1,x.2.1⟩
 ·obtain⟨_,⟨o,_,_,q,x,_⟩,_⟩:=S.2 _ _ g
  exact⟨o,q,x.1,x.2.1⟩
theorem dY.g1 {kk:Nat} {q:Option V} {va:Value} {Q:Value->Shared->Prop} (g:dY H kk u q) (hu:A.units+10<cLine) (S:dw c k H s.heap) (ra:VR c k H s.heap u va) (h:∀t v',VR c k H s.heap (q.getD .none) v'->Q v' {s with toks:=t}):
  s.TypeIs (.ref (k.ι kk)) "dict"∧argsOk "dict.get" ⟨[.ref (k.ι kk),va],[]⟩∧∃S,MeetsIn c.prog c.w (Builtin.«dict.get» ⟨[.ref (k.ι kk),va],[]⟩) S∧S A (wants Q E) s:=by
 refine g c k s.heap (λv=>VR c k H s.heap v va->_) S (λi kvs n D P ra=>?_) (λks xs n D P ra=>?_) ra
 ·apply ra.kI λt=>?_
  exact⟨D.typeIs,F.args_dict_get_2 _ _,_,meets_dict_get (ik c) _ (jq _ t) n,_,D.mapOf,h _ _ (P.getD rfl)⟩
 ·apply ra.kK λa K _=>?_
  exact⟨D.typeIs,F.args_dict_get_2 _ _,_,meetsH_dict_get (tupleKind (ik c)) _ a n,uE hu,ks,xs,K,D,h _ _ (P.getD rfl)⟩
theorem dY.g2 {kk:Nat} {q:Option V} {va vb:Value} {Q:Value->Shared->Prop} (g:dY H kk u q) (hu:A.units+10<cLine) (S:dw c k H s.heap) (ra:VR c k H s.heap u va) (rb:VR c k H s.heap v vb) (h:∀t v',VR c k H s.heap (q.getD v) v'->Q v' {s with toks:=t}):
  s.TypeIs (.ref (k.ι kk)) "dict"∧argsOk "dict.get" ⟨[.ref (k.ι kk),va,vb],[]⟩∧∃S,MeetsIn c.prog c.w (Builtin.«dict.get» ⟨[.ref (k.ι kk),va,vb],[]⟩) S∧S A (wants Q E) s:=by
 refine g c k s.heap (λv=>VR c k H s.heap v va->_) S (λi kvs n D P ra=>?_) (λks xs n D P ra=>?_) ra
 ·apply ra.kI λt=>?_
  exact⟨D.typeIs,F.args_dict_get_3 _ _ _,_,meets_dict_get_default (ik c) _ (jq _ t) n _,_,D.mapOf,h _ _ (P.getD rb)⟩
 ·apply ra.kK λa K _=>?_
  exact⟨D.typeIs,F.args_dict_get_3 _ _ _,_,meetsH_dict_get_default (tupleKind (ik c)) _ a n _,uE hu,ks,xs,K,D,h _ _ (P.getD rb)⟩
theorem B3.N2 (x:B3 A r):A.units+10<cLine:=aA (aj (bZ (by decide:10≤200) _) (d_ (bu _ _) _)) x.3
theorem B3.F6 (x:B3 A r):A.units+100<cLine:=aA (aj (bZ (by decide:100≤200) _) (d_ (bu _ _) _)) x.3
theorem CA {o x:CE} {kk:Nat} {q:Option V} (Cy:b9 c T o L H (.ref kk) H1) (FU:b9 c T x L H1 u H2) (h0:pJ H1 kk) (h:dY H2 kk u q):b9 c T (.u7 o x) L H (q.getD .none) H2:=by
 intro A r env nm pe k s Q E S ok hQ
 apply yd ok λy q' as p hp hn ok=>?_
 revert hp
 apply zE ok λw hw o1 o2=>?_
 intro hp
 refine K8 Cy S hp hn (zK hw) o1 F.plainAttrs_dict F.slot_dict_get F.type_dict_get (dw.Ca h0) λk1 s1 T1 N=>?_
 rw[uF hw]
 refine method1_meetsIn F.slot_dict_get F.entry_dict_get (FU (S.go T1) o2 λk2 s2 v2 T2 R2=>?_)
 rw[←(T2.2.2 kk N).1]
 exact h.g1 S.1.N2 T2.1 R2 λt v' R=>hQ _ _ _ (du.toks (T1.trans T2) t) R
theorem CB {o x y:CE} {kk:Nat} {q:Option V} (Cy:b9 c T o L H (.ref kk) H1) (FU:b9 c T x L H1 u H2) (ih3:b9 c T y L H2 v H3) (h0:pJ H1 kk) (h:dY H3 kk u q):b9 c T (.qO o x y) L H (q.getD v) H3:=by
 intro A r env nm pe k s Q E S ok hQ
 apply yd ok λy q' as p hp hn ok=>?_
 revert hp
 apply K6 ok λw w' ok=>?_
 intro hp
 apply u9 ok λhw Il o1 o2 o3=>?_
 refine K8 Cy S hp hn (by rw[Cu hw Il];rfl) o1 F.plainAttrs_dict F.slot_dict_get F.type_dict_get (dw.Ca h0) λk1 s1 T1 N=>?_
 rw[Cu hw Il]
 refine method2_meetsIn F.slot_dict_get F.entry_dict_get (FU (S.go T1) o2 λk2 s2 v2 T2 R2=>ih3 ((S.go T1).go T2) o3 λk3 s3 v3 T3 R3=>?_)
 rw[←((T2.trans T3).2.2 kk N).1]
 exact h.g2 S.1.N2 T3.1 (T3.vr T2.1 R2) R3 λt v' R=>hQ _ _ _ (du.toks (T1.trans (T2.trans T3)) t) R
theorem qg {kk:Addr} {h':Heap} (hs:Heap.SameBut kk h h'):∀b y,b≠kk->h.get? b=some y->h'.get? b=some y:=λb _ n e=>(hs.2 b n).trans e
theorem CC {o x:CE} {kk:Nat} {i:Int} {dd:List (Int×V)} (Cy:b9 c T o L H (.ref kk) H1) (FU:b9 c T x L H1 (.int i) H2) (h0:pJ H1 kk) (h:H2[kk]?=some (.bc dd)) (zz:dd.length≤SZ) (g:d7 i dd=some v):
  b9 c T (.u8 o x) L H v (H2.set kk (.bc (xY i dd))):=by
 intro A r env nm pe k s Q E S ok hQ
 apply yd ok λy q' as p hp hn ok=>?_
 revert hp
 apply zE ok λw hw o1 o2=>?_
 intro hp
 refine K8 Cy S hp hn (zK hw) o1 F.plainAttrs_dict F.slot_dict_pop F.type_dict_pop (dw.Ca h0) λk1 s1 T1 N=>?_
 rw[uF hw]
 refine method1_meetsIn F.slot_dict_pop F.entry_dict_pop (FU (S.go T1) o2 λk2 s2 v2 T2 R2=>?_)
 rw[←(T2.2.2 kk N).1]
 apply R2.kI λt=>?_
 obtain⟨kvs,D,P⟩:=T2.1.2 _ _ h
 have hv:=jo.get i _ P
 rw[g]at hv
 obtain⟨w',e2,Jj⟩:=hv
 refine⟨D.typeIs,F.args_dict_pop_2 _ _,_,meets_dict_pop_there (ik c) (k:=i) _ (jq i t) [] (.inl rfl) rfl,kvs,w',D,by rw[gh,←P.len];exact zz,e2,λh' D' hs=>?_⟩
 have T3:=du.set (t:=s2.toks+1) (o':=.bc (xY i dd)) T2.1 h rfl rfl rfl (.inl rfl) (qg hs) λm=>⟨_,D',(P.del i).mono m⟩
 exact hQ k2 _ _ ((T1.trans T2).trans T3) (T3.vr T2.1 Jj)
theorem eH.set {x:V} (z:VR c k H h x w):∀{l:List V} {vs:List Value} (n:Nat),eH c k H h l vs->eH c k H h (l.set n x) (vs.set n w)
 |[],_,n,r=>r.nE (P:=λvs=>eH c k H h [] (vs.set n w)) rfl
 |_::l,_,0,r=>r.cE (P:=λvs=>eH c k H h (x::l) (vs.set 0 w)) λ_ _ _ b=>.cons z b
 |y::l,_,n+1,r=>r.cE (P:=λvs=>eH c k H h (y::l.set n x) (vs.set (n+1) w)) λ_ _ a b=>.cons a (eH.set z n b)
end
noncomputable def qW (x y z:V) (H H':Hp):Prop:=∀(c:Cx) (k:Lk) (s:Shared) (A:Around) (va vb vc:Value) (Q:Unit->Shared->Prop) (E:Value->Shared->Prop),A.units+10<cLine->dw c k H s.heap->VR c k H s.heap x va->VR c k H s.heap y vb->VR c k H s.heap z vc->
 (∀s',du c k H s k H' s'->Q () s')->wpAny (Md c) A (setItem va vb vc) Q E s
theorem qW.list {a:Nat} {l:List V} {i:Int} {k:Nat} {x:V} {H:Hp} (o:H[a]?=some (.list l)) (p:place i l.length=some k):qW (.ref a) (.int i) x H (H.set a (.list (l.set k x))):=λc κ s A va vb vc Q E hu S ra rb rc h=>by
 apply ra.kR λ_=>?_
 apply rb.kI λt=>?_
 refine S.kL o λvs e g R=>?_
 have z:=S.Ih o
 have f:Q () {s with heap:=s.heap.update (κ.ι a) (Obj.mapSeq λxs=>xs.setIfInBounds k vc)}:=h _ (du.FT (t:=s.toks) S _ o g (by rw[aU];exact z) (List.setIfInBounds_toArray ..) (R.set rc k))
 rw[R.length]at p z
 exact yf (P:=λi k=>Q () {s with heap:=s.heap.update (κ.ι a) (Obj.mapSeq λxs=>xs.setIfInBounds k vc)}->wpAny (Md c) A (setItem (.ref (κ.ι a)) (.int i t) vc) Q E s) p z
  (λm l f=>ki_setAt (items:=vs.toArray) g (aS m) (Ft z (aK l)) (bC.mpr l) f)
  (λm m0 l f=>ki_setBack (items:=vs.toArray) g (iH (bC.mpr m0)) (iS (dM.mpr l)) (iS (jY (Ft z l))) (by rw[bS,Ct l];exact f)) f
theorem qW.bc {a:Nat} {d:List (Int×V)} {x:V} {k:Int} {H:Hp} (o:H[a]?=some (.bc d)) (z:d.length<SZ):qW (.ref a) (.int k) x H (H.set a (.bc (dput k x d))):=λc κ s A va vb vc Q E hu S ra rb rc h=>by
 apply ra.kR λ_=>?_
 apply rb.kI λt=>?_
 obtain⟨kvs,D,P⟩:=S.2 _ _ o
 exact wpAny_setItem_pairs (knd:=ik c) (jq _ t) D (λh' D' hs=>h _ (du.set S o rfl rfl rfl (.inl rfl) (qg hs) λm=>⟨_,D',(P.put rc _).mono m⟩)) (by rw[gh,←P.len];exact aK z)
theorem Jm {h h':Heap} {κ:Type} [DecidableEq κ] {xs:List (κ×Addr×Value)} {x:κ} {a:Addr} {w:Value} (W:∀y∈xs,∃vs e,h.get? y.2.1=some (ic vs e)) (g:∃vs e,h.get? a=some (ic vs e)) (m:∀a vs e,h.get? a=some (ic vs e)->h'.get? a=some (ic vs e)):
  ∀y∈storedH xs x a w,∃vs e,h'.get? y.2.1=some (ic vs e):=by
 have m':∀{a},(∃vs e,h.get? a=some (ic vs e))->∃vs e,h'.get? a=some (ic vs e):=fun⟨vs,e,g⟩=>⟨vs,e,m _ _ _ g⟩
 intro y hy
 unfold storedH at hy
 split at hy
 ·obtain⟨y',hy',rfl⟩:=az.mp hy
  refine m' ?_
  unfold putAt
  split<;>exact W y' hy'
 ·rcases aD.mp hy with hy|hy
  ·exact m' (W y hy)
  ·cases ak.mp hy;exact m' g
theorem AO {κ:Type} [DecidableEq κ] (xs:List (κ×Addr×Value)) (x:κ) (a:Addr) (w:Value):(storedH xs x a w).map (λx=>(x.1,x.2.2))=stored (xs.map λx=>(x.1,x.2.2)) x w:=by
 have e:(atKey xs x).isSome=((xs.map λx=>(x.1,x.2.2)).any λkv=>decide (kv.1=x)):=by
  unfold atKey
  rw[Option.isSome_map,List.any_map,mV,List.find?_isSome,jb];exact sJ
 unfold storedH stored
 rw[e]
 split
 ·rw[bF,bF];refine cS λy _=>?_;show(λx=>(x.1,x.2.2)) (putAt x w y)=if y.1=x then(y.1,w)else(y.1,y.2.2);unfold putAt;split<;>rfl
 ·rw[ay];rfl
theorem qW.bV {a:Nat} {d:List (List Int×V)} {x:V} {k:List Int} {H:Hp} (o:H[a]?=some (.bV d)) (z:d.length<SZ):qW (.ref a) (.tup (de k)) x H (H.set a (.bV (dput k x d))):=λc κ s A va vb vc Q E hu S ra rb rc h=>by
 apply ra.kR λ_=>?_
 apply rb.kK λa K T'=>?_
 obtain⟨xs,D,W,P⟩:=S.2 _ _ o
 refine wpAny_setItem_heap (knd:=tupleKind (ik c)) (uE hu) K D (λh' D' hs=>h _ (du.set S o rfl rfl rfl (.inl rfl) (qg hs) λm=>⟨_,D',Jm W T' m.3,?_⟩)) (by rw[gh,←ae (f:=λx=>(x.1,x.2.2)) (as:=xs),←P.len];exact aK z)
 rw[AO];exact(P.put rc _).mono m
theorem qW.kH {a n:Nat} {x:V} {k:Nat} {H:Hp} (o:H[a]?=some (.kH n)) (z:n<SZ):qW (.ref a) (.str k) x H (H.set a (.kH (n+1))):=λc κ s A va vb vc Q E hu S ra rb rc h=>by
 apply ra.kR λ_=>?_
 apply rb.kS λx t _=>?_
 obtain⟨kvs,D,P⟩:=S.2 _ _ o
 refine wpAny_setItem_pairs (knd:=PySem.strKind c.prog c.w) (k:=x) (beq_self_eq_true x) D (λh' D' hs=>h _ (du.set S o rfl rfl rfl (.inl rfl) (qg hs) λ_=>⟨_,D',?_⟩)) (by rw[gh];exact aj P (aK z))
 unfold stored
 split
 ·rw[ae];exact cu P
 ·rw[aq];exact aM P
end
section
noncomputable def Tr (H:Hp) (x:V) (q:Bool):Prop:=∀(c:Cx) (k:Lk) (s:Shared) (A:Around) (va:Value) (Q:Bool->Shared->Prop) (E:Value->Shared->Prop),dw c k H s.heap->VR c k H s.heap x va->(∀s',du c k H s k H s'->Q q s')->wpAny (Md c) A (truthy va) Q E s
section
variable {H:Hp}
theorem Tr.none:Tr H .none false:=λc k s A va Q E S ra h=>by apply ra.kN;exact λ_ _ _=>h _ (cX.refl S)
theorem Tr.bool (b:Bool):Tr H (.bool b) b:=λc k s A va Q E S ra h=>by apply ra.kB;exact wpAny_truthy_bool (h _ (cX.refl S))
theorem Tr.int (i:Int):Tr H (.int i) (i !=0):=λc k s A va Q E S ra h=>by apply ra.kI λt=>?_;exact P.truthy_int (h _ (cX.refl S))
theorem Tr.list {a:Nat} {l:List V} (o:H[a]?=some (.list l)):Tr H (.ref a) (!l.isEmpty):=λc k s A va Q E S ra h=>by
 apply ra.kR λ_=>?_
 refine S.kL o λvs e g R=>?_
 have z:=S.Ih o
 rw[R.length]at z
 refine wpAny_truthy_list (items:=vs.toArray) ⟨_,g,rfl,_,rfl⟩ (Ft z (aC _)) ?_
 rw[show vs.toArray.isEmpty=l.isEmpty by have q:=R.length;cases l<;>cases vs<;>first|rfl|cases q];exact h _ (du.tok S _)
end
section
variable {c:Cx} {T:Tb} {L:Lc} {H H1 H2 H3 H':Hp} {e a b d:CE} {l:mo} {v u w va vb vc:V} {k k':Lk} {s s':Shared} {A:Around} {r:Nat} {E:Value->Shared->Prop} {env:Env} {nm:List Str} {pos:Pos}
theorem F7 {o:LG} {q:V} (x:b9 c T a L H va H1) (y:b9 c T b L H1 vb H2) (R:iX o va vb H2 q H3):b9 c T (.bin o a b) L H q H3:=by
 intro A r env nm pe k s Q E S ok h
 apply HX ok λp f q pos ok=>?_
 apply i7 ok λho o1 o2=>?_
 rw[cJ ho]
 exact wpAny_BinOp (x S o1 λk1 s1 v1 T1 R1=>y (S.go T1) o2 λk2 s2 v2 T2 R2=>R _ _ _ _ _ _ _ _ T2.1 (T2.vr T1.1 R1) R2 λk3 s3 v3 T3 R3=>h _ _ _ ((T1.trans T2).trans T3) R3)
theorem F8 {i:Int} (x:b9 c T a L H (.int i) H1):b9 c T (.neg a) L H (.int (-i)) H1:=by
 intro A r env nm pe k s Q E S ok h
 apply Cc ok λf p pos ok=>iW ok λho o1=>?_
 rw[cJ ho]
 refine wpAny_UnaryOp (x S o1 λk1 s1 v1 T1 R1=>?_)
 apply R1.kI λt=>?_
 exact P.neg_int (h _ _ _ (du.toks T1 _) (Fq ..))
theorem F9 {i:Int} (x:b9 c T a L H (.int i) H1):b9 c T (.inv a) L H (.int (-i-1)) H1:=by
 intro A r env nm pe k s Q E S ok h
 apply Cc ok λf p pos ok=>iW ok λho o1=>?_
 rw[cJ ho]
 refine wpAny_UnaryOp (x S o1 λk1 s1 v1 T1 R1=>?_)
 apply R1.kI λt=>?_
 exact invert_int (h _ _ _ (du.toks T1 _) (Fq ..))
theorem F_ {q:Bool} (x:b9 c T a L H v H1) (t:Tr H1 v q):b9 c T (.not a) L H (.bool (!q)) H1:=by
 intro A r env nm pe k s Q E S ok h
 apply Cc ok λf p pos ok=>iW ok λho o1=>?_
 rw[cJ ho]
 exact wpAny_UnaryOp (x S o1 λk1 s1 v1 T1 R1=>not_value (t _ _ _ _ _ _ _ T1.1 R1 λs' T2=>h _ _ _ (T1.trans T2) rfl))
theorem Ga {o:B1} {q:Bool} (TO:nK c T) (x:b9 c T a L H va H1) (y:b9 c T b L H1 vb H2) (R:cL H2 o va vb q):b9 c T (.cmp o a b) L H (.bool q) H2:=by
 intro A r env nm pe k s Q E S ok h
 apply HY ok λp f q pos ok=>?_
 apply oW ok λho hm o1 o2=>?_
 rw[cJ ho]at hm ⊢
 exact wpAny_Compare1 (x S o1 λk1 s1 v1 T1 R1=>y (S.go T1) o2 λk2 s2 v2 T2 R2=>R _ _ _ _ _ _ _ _ _ TO S.1.F6 T2.1 (T2.vr T1.1 R1) R2 λs3 T3=>h _ _ _ ((T1.trans T2).trans T3) rfl) (sM hm)
theorem CD {o:B1} {q:Bool} (TO:nK c T) (x:b9 c T a L H va H1) (y:b9 c T b L H1 vb H2) (R:cL H2 o va vb q):lp c T (.cmp o a b) L H q H2:=by
 intro A r env nm pe k s Q E S ok h
 apply HY ok λp f q pos ok=>?_
 apply oW ok λho hm o1 o2=>?_
 rw[cJ ho]at hm ⊢
 exact wpAny_isTrue_Compare1 (x S o1 λk1 s1 v1 T1 R1=>y (S.go T1) o2 λk2 s2 v2 T2 R2=>R _ _ _ _ _ _ _ _ _ TO S.1.F6 T2.1 (T2.vr T1.1 R1) R2 λs3 T3=>wpAny_truthy_bool (h _ _ ((T1.trans T2).trans T3))) (sM hm)
theorem CG:nO c T .nil L H [] H:=by
 intro A r env nm pos kJ k s Q E S ok h
 apply lM ok
 exact wpAny_items_nil (h _ _ _ (cX.refl S.2) rfl)
theorem AP {vs:List V} (x:b9 c T e L H v H1) (y:nO c T l L H1 vs H2):nO c T (.cons e l) L H (v::vs) H2:=by
 intro A r env nm pos kJ k s Q E S ok h
 apply fh ok λp xs h1 o1 o2=>?_
 exact wpAny_items_cons (x S o1 λk1 s1 v1 T1 R1=>y (S.go T1) o2 λk2 s2 v2 T2 R2=>h _ _ _ (T1.trans T2) (.cons (T2.vr T1.1 R1) R2)) (nU _ h1)
theorem CH {vs:List V} (x:nO c T l L H vs H1) (z:vs.length≤SZ):b9 c T (.list l) L H (.ref H1.length) (H1++[.list vs]):=by
 intro A r env nm pe k s Q E S ok h
 apply Ce ok λxs p ok=>?_
 refine wpAny_List (x S ok λk1 s1 v1 T1 R1=>⟨by rw[gh,←R1.length];exact z,?_⟩)
 have W:=du.list1 T1.1 R1 z s1.toks
 exact h _ _ _ (T1.trans W.1) W.2
theorem Gb {vs:List V} (x:nO c T l L H vs H1) (z:vs.length≤SZ):b9 c T (.tup l) L H (.tup vs) H1:=by
 intro A r env nm pe k s Q E S ok h
 apply Cf ok λxs n p ok=>?_
 refine wpAny_Tuple (x S ok λk1 s1 v1 T1 R1=>⟨by rw[gh,←R1.length];exact z,?_⟩)
 have W:=du.zG T1.1 (ic v1 0) s1.toks
 exact h _ _ _ (T1.trans W) (OP (e:=0) (Heap.get?_push_size _ rfl) (W.OS T1.1 R1))
theorem Gc {q:V} (x:b9 c T a L H va H1) (y:b9 c T b L H1 vb H2) (R:Item H2 va vb q):b9 c T (.idx a b) L H q H2:=by
 intro A r env nm pe k s Q E S ok h
 apply wj ok λp f pos ok=>?_
 apply i7 ok λhy o1 o2=>?_
 exact Subscript_ (x S o1 λk1 s1 v1 T1 R1=>y (S.go T1) o2 λk2 s2 v2 T2 R2=>R _ _ _ _ _ _ _ _ _ _ hy S.1.N2 T2.1 (T2.vr T1.1 R1) R2 λs3 v3 T3 R3=>h _ _ _ ((T1.trans T2).trans T3) R3)
theorem sU (lo up st:Option Expr) (p:Pos):eval (.Slice lo up st p) env=(do
  let l ←valueOrNone (evalOpt lo env)
  let u ←holding [l] (valueOrNone (evalOpt up env))
  let s ←holding [l,u] (valueOrNone (evalOpt st env))
  newFields "slice" [l,u,s]):=rfl
theorem AQ {y:Expr} {p:Pos} {Q:Value->Shared->Prop} (h:wpAny (Md c) A (eval y env) (λu s₁=>Q (.ref s₁.heap.objs.size) {s₁ with heap:=s₁.heap.push {cls:=.type "slice",data:=.fields #[.none,u,.none]}}) E s):
  wpAny (Md c) A (eval (.Slice none (some y) none p) env) Q E s:=by
 rw[sU]
 refine wpAny_bind (wpAny_pure (wpAny_bind (wpAny_holding (wpAny_mono h (λu s₁ h₁=>?_) λ_ _ e=>e))))
 refine wpAny_bind (wpAny_holding (wpAny_pure ?_))
 exact wpAny_newObj_type h₁ (by size_fits)
theorem AR {y:Expr} {p:Pos} {Q:Value->Shared->Prop} (h:wpAny (Md c) A (eval y env) (λu s₁=>Q (.ref s₁.heap.objs.size) {s₁ with heap:=s₁.heap.push {cls:=.type "slice",data:=.fields #[u,.none,.none]}}) E s):
  wpAny (Md c) A (eval (.Slice (some y) none none p) env) Q E s:=by
 rw[sU]
 refine wpAny_bind (wpAny_mono h (λu s₁ h₁=>?_) λ_ _ e=>e)
 refine wpAny_bind (wpAny_holding (wpAny_pure ?_))
 refine wpAny_bind (wpAny_holding (wpAny_pure ?_))
 exact wpAny_newObj_type h₁ (by size_fits)
theorem CJ {q:List V} {n:Nat} (x:b9 c T a L H va H1) (y:b9 c T b L H1 (.int n) H2) (R:sT H2 va n q) (z:n≤SZ):b9 c T (.sK a b) L H (.ref H2.length) (H2++[.list q]):=by
 intro A r env nm pe k s Q E S ok h
 apply wj ok λp f pos ok=>?_
 apply iW ok λo1 ok=>?_
 apply Jc ok λw p2 o2=>?_
 refine Subscript_ (x S o1 λk1 s1 v1 T1 R1=>AQ (y (S.go T1) o2 λk2 s2 v2 T2 R2=>?_))
 apply R2.kI λt=>?_
 refine R _ _ _ (λv=>wpAny (Md c) A (subscriptTail _ _ v _) _ _ _) _ T2.1 (T2.vr T1.1 R1) λa' vs e g RR z1 z2=>?_
 refine sS g .none (.int n t) z1 (λo i=>rfl) ?_
 have W:=du.slice (x:={cls:=.type "slice",data:=.fields #[.none,.int n t,.none]}) (vs:=slicePick vs.toArray none (some (n:Int)) none) T2.1 (l:=q) (by rw[slicePick_upto' vs.toArray n];exact RR) z2
 exact h _ _ _ ((T1.trans T2).trans W.1) W.2
theorem AS {q:List V} {n:Nat} (x:b9 c T a L H va H1) (y:b9 c T b L H1 (.int n) H2) (R:wv H2 va n q) (z:n≤SZ):b9 c T (.p_ a b) L H (.ref H2.length) (H2++[.list q]):=by
 intro A r env nm pe k s Q E S ok h
 apply wj ok λp f pos ok=>?_
 apply iW ok λo1 ok=>?_
 apply Jd ok λw p2 o2=>?_
 refine Subscript_ (x S o1 λk1 s1 v1 T1 R1=>AR (y (S.go T1) o2 λk2 s2 v2 T2 R2=>?_))
 apply R2.kI λt=>?_
 refine R _ _ _ (λv=>wpAny (Md c) A (subscriptTail _ _ v _) _ _ _) _ T2.1 (T2.vr T1.1 R1) λa' vs e g RR z1 z2=>?_
 refine sS g (.int n t) .none z1 (λo i=>rfl) ?_
 have W:=du.slice (x:={cls:=.type "slice",data:=.fields #[.int n t,.none,.none]}) (vs:=slicePick vs.toArray (some (n:Int)) none none) T2.1 (l:=q) (by rw[slicePick_from' vs.toArray n];exact RR) z2
 exact h _ _ _ ((T1.trans T2).trans W.1) W.2
theorem CK {q:Bool} (x:lp c T e L H q H1):lp c T (.not e) L H (!q) H1:=by
 intro A r env nm pe k s Q E S ok h
 apply Cc ok λf p pos ok=>iW ok λho o1=>?_
 rw[cJ ho]
 exact wpAny_isTrue_Not (x S o1 λk1 s1 T1=>h _ _ T1)
theorem CL {q:Bool} (x:iC c T .And l L H q H1):lp c T (.and l) L H q H1:=by
 intro A r env nm pe k s Q E S ok h
 apply u_ ok λf p pos ok=>iW ok λho o1=>?_
 rw[cJ ho]
 exact wpAny_isTrue_BoolOp (x S o1 h)
theorem Ge {q:Bool} (x:iC c T .Or l L H q H1):lp c T (.or l) L H q H1:=by
 intro A r env nm pe k s Q E S ok h
 apply u_ ok λf p pos ok=>iW ok λho o1=>?_
 rw[cJ ho]
 exact wpAny_isTrue_BoolOp (x S o1 h)
theorem CM:iC c T .And .nil L H true H:=by
 intro A r env nm kJ k s Q E S ok h
 apply lM ok
 exact wpAny_allTrue_And_nil (h _ _ (cX.refl S.2))
theorem CN:iC c T .Or .nil L H false H:=by
 intro A r env nm kJ k s Q E S ok h
 apply lM ok
 exact wpAny_allTrue_Or_nil (h _ _ (cX.refl S.2))
theorem Jn (x:lp c T e L H false H1):iC c T .And (.cons e l) L H false H1:=by
 intro A r env nm kJ k s Q E S ok h
 apply fh ok λp xs h1 o1 o2=>?_
 exact wpAny_allTrue_And_cons (x S o1 λk1 s1 T1=>h _ _ T1)
theorem Jo {q:Bool} (x:lp c T e L H true H1) (y:iC c T .And l L H1 q H2):iC c T .And (.cons e l) L H q H2:=by
 intro A r env nm kJ k s Q E S ok h
 apply fh ok λp xs h1 o1 o2=>?_
 exact wpAny_allTrue_And_cons (x S o1 λk1 s1 T1=>y (S.go T1) o2 λk2 s2 T2=>h _ _ (T1.trans T2))
theorem Jp (x:lp c T e L H true H1):iC c T .Or (.cons e l) L H true H1:=by
 intro A r env nm kJ k s Q E S ok h
 apply fh ok λp xs h1 o1 o2=>?_
 exact wpAny_allTrue_Or_cons (x S o1 λk1 s1 T1=>h _ _ T1)
theorem Jq {q:Bool} (x:lp c T e L H false H1) (y:iC c T .Or l L H1 q H2):iC c T .Or (.cons e l) L H q H2:=by
 intro A r env nm kJ k s Q E S ok h
 apply fh ok λp xs h1 o1 o2=>?_
 exact wpAny_allTrue_Or_cons (x S o1 λk1 s1 T1=>y (S.go T1) o2 λk2 s2 T2=>h _ _ (T1.trans T2))
theorem Gf {q:Bool} (x:lp c T a L H q H1) (y:b9 c T (if q then b else d) L H1 v H2):b9 c T (.ite a b d) L H v H2:=by
 intro A r env nm pe k s Q E S ok h
 apply LO ok λp1 p2 p3 pos ok=>?_
 apply i7 ok λo1 o2 o3=>?_
 refine wpAny_IfExp (x S o1 λk1 s1 T1=>?_)
 cases q
 ·exact y (S.go T1) o3 λk2 s2 v2 T2 R2=>h _ _ _ (T1.trans T2) R2
 ·exact y (S.go T1) o2 λk2 s2 v2 T2 R2=>h _ _ _ (T1.trans T2) R2
theorem ue (x y z:Expr) (p:Pos) (w:Sem Value):isTrue (.IfExp x y z p) env w=(do if ←isTrue x env (eval x env)then isTrue y env (eval y env)else isTrue z env (eval z env)):=rfl
theorem CO {q q2:Bool} (x:lp c T a L H q H1) (y:lp c T (if q then b else d) L H1 q2 H2):lp c T (.ite a b d) L H q2 H2:=by
 intro A r env nm pe k s Q E S ok h
 apply LO ok λp1 p2 p3 pos ok=>?_
 apply i7 ok λo1 o2 o3=>?_
 rw[ue]
 refine wpAny_bind (x S o1 λk1 s1 T1=>?_)
 cases q
 ·exact y (S.go T1) o3 λk2 s2 T2=>h _ _ (T1.trans T2)
 ·exact y (S.go T1) o2 λk2 s2 T2=>h _ _ (T1.trans T2)
noncomputable def zL (op:BoolOp) (t:Bool) (v:Value) (m:Sem Value):Sem Value:=match op,t with
 | .And,false| .Or,true=>pure v
 |_,_=>m
theorem CP {op:BoolOp} {x y:Expr} {xs:List Expr}:boolOp pos op (evalEach (x::y::xs) env)=(do
  let v ←eval x env
  standAt pos
  let t ←holding [v] (truthy v)
  zL op t v (boolOp pos op (evalEach (y::xs) env))):=rfl
theorem zM {op:BoolOp} (x:b9 c T e L H v H1):wo c T op (.cons e .nil) L H v H1:=by
 intro A r env nm pos kJ k s Q E S ok h
 apply fh ok λp xs h1 o1 o2=>?_
 apply lM o2
 exact x S o1 h
theorem Io {op:BoolOp} {f:CE} {q:Bool} {nm:List Str} {kJ:List Expr} {Q:Value->Shared->Prop} (x:b9 c T e L H v H1) (t:Tr H1 v q) (S:St c A r k H s env nm L) (ok:jp T r env.scope nm (.cons e (.cons f l)) kJ=true)
  (h:∀w y ys k' s',jp T r env.scope nm (.cons f l) (y::ys)=true->du c k H s k' H1 s'->VR c k' H1 s'.heap v w->wpAny (Md c) A (zL op q w (boolOp pos op (evalEach (y::ys) env))) Q E s'):wpAny (Md c) A (boolOp pos op (evalEach kJ env)) Q E s:=by
 apply fh ok λp xs h1 o1 o2=>?_
 revert o2
 refine λo2=>fh (P:=λxs=>jp T r env.scope nm (.cons f l) xs=true->wpAny (Md c) A (boolOp pos op (evalEach (p::xs) env)) Q E s) o2 (λy ys _ _ _ o2=>?_) o2
 rw[CP]
 exact wpAny_bind (x S o1 λk1 s1 v1 T1 R1=>wpAny_bind (wpAny_standAt (wpAny_bind (wpAny_holding (t _ _ _ _ _ _ _ T1.1 R1 λs2 T2=>h _ _ _ _ _ o2 (T1.trans T2) (T2.vr T1.1 R1))))))
theorem zN {op:BoolOp} {f:CE} {q:Bool} (O1:∀v m,zL op q v m=pure v) (x:b9 c T e L H v H1) (t:Tr H1 v q):wo c T op (.cons e (.cons f l)) L H v H1:=λ{A r env nm pos kJ k s Q E} S ok h=>
 Io x t S ok λw y ys k' s' _ W R=>by rw[O1];exact wpAny_pure (h _ _ _ W R)
theorem zO {op:BoolOp} {f:CE} {q:Bool} (O1:∀v m,zL op q v m=m) (x:b9 c T e L H v H1) (t:Tr H1 v q) (y:wo c T op (.cons f l) L H1 u H2):wo c T op (.cons e (.cons f l)) L H u H2:=λ{A r env nm pos kJ k s Q E} S ok h=>
 Io x t S ok λw z zs k' s' o2 W R=>by rw[O1];exact y (S.go W) o2 λk3 s3 v3 T3 R3=>h _ _ _ (W.trans T3) R3
theorem snd_and (x:wo c T .And l L H v H1):b9 c T (.and l) L H v H1:=by
 intro A r env nm pe k s Q E S ok h
 apply u_ ok λf p pos ok=>iW ok λho o1=>?_
 rw[cJ ho]
 exact x S o1 h
theorem Jr (x:wo c T .Or l L H v H1):b9 c T (.or l) L H v H1:=by
 intro A r env nm pe k s Q E S ok h
 apply u_ ok λf p pos ok=>iW ok λho o1=>?_
 rw[cJ ho]
 exact x S o1 h
end
end
section
section
variable {c:Cx} {T:Tb} {L:Lc} {H H1 H2 H3 H':Hp} {e a b d:CE} {l:mo} {v u w va vb vc:V} {k k':Lk} {s s':Shared} {A:Around} {r:Nat} {E:Value->Shared->Prop} {env:Env} {nm:List Str} {pos:Pos}
theorem wE {a:Value} {op Gg:CmpOp} {r r':Sem Value}:testChain pos a [op,Gg] [r,r']=(do
  let rv ←holding [a] r
  standAt pos
  let c ←holding [a,rv] (compareOp op a rv)
  release [a,rv] [c]
  if ←holding [c,rv] (truthy c)then testChain pos rv [Gg] [r']else pure false):=rfl
theorem yl {x y z:Expr} {op Gg:CmpOp} {wh:Sem Value} {Q:Bool->Shared->Prop} (hm:vg Gg z=true)
  (h:wpAny (Md c) A (eval x env) (λa s₁=>wpAny (Md c) A (eval y env) (λb s₂=>wpAny (Md c) A (compareOp op a b) (λq s₃=>wpAny (Md c) A (truthy q) (λt s₄=>
   if t then wpAny (Md c) A (eval z env) (λd s₅=>wpAny (Md c) A (compareOp Gg b d) (λq s₆=>wpAny (Md c) A (truthy q) Q E s₆) E s₅) E s₄ else Q false s₄) E s₃) E s₂) E s₁) E s):
  wpAny (Md c) A (isTrue (.Compare x [op,Gg] [y,z] pos) env wh) Q E s:=by
 have N3:markedEach [op,Gg] [y,z] (evalEach [y,z] env)=[eval y env,eval z env]:=congrArg (λw=>[eval y env,w]) (markedBehindIn_of_false (sM hm))
 show wpAny (Md c) A (do testChain pos (←eval x env) [op,Gg] (markedEach [op,Gg] [y,z] (evalEach [y,z] env))) Q E s
 rw[N3]
 refine wpAny_bind (wpAny_mono h (λa s₁ h₁=>?_) λ_ _ e=>e)
 rw[wE]
 refine wpAny_bind (wpAny_holding (wpAny_mono h₁ (λb s₂ h₂=>wpAny_bind (wpAny_standAt (wpAny_bind (wpAny_holding (wpAny_mono h₂ (λq s₃ h₃=>?_) λ_ _ e=>e))))) λ_ _ e=>e))
 have rel:∀{vs keep:List Value} {Q:Unit->Shared->Prop} {s:Shared},Q () s->wpAny (Md c) A (release vs keep) Q E s:=λhq Γ p _=>by rw[Sem.wp_release];exact hq
 refine wpAny_bind (rel (wpAny_bind (wpAny_holding (wpAny_mono h₃ (λt s₄ h₄=>?_) λ_ _ e=>e))))
 cases t with
 |false=>exact wpAny_pure h₄
 |true=>exact wpAny_bind (wpAny_holding (wpAny_mono h₄ (λd s₅ h₅=>wpAny_bind (wpAny_standAt (wpAny_bind (wpAny_operating (wpAny_mono h₅ (λq s₆ h₆=>wpAny_holding h₆) λ_ _ e=>e))))) λ_ _ e=>e))
theorem CR {o p:B1} {t:Bool} {pe:Expr} {Q:Bool->Shared->Prop} (TO:nK c T) (x:b9 c T a L H va H1) (y:b9 c T b L H1 vb H2) (R:cL H2 o va vb t) (S:St c A r k H s env nm L) (ok:gH T r env.scope nm (.pH o p a b d) pe=true)
  (h:∀k' s' v z,gH T r env.scope nm d z=true->du c k H s k' H2 s'->VR c k' H2 s'.heap vb v->if t then wpAny (Md c) A (eval z env) (λd s₅=>wpAny (Md c) A (compareOp (Fr p) v d) (λq s₆=>wpAny (Md c) A (truthy q) Q E s₆) E s₅) E s' else Q false s'):wpAny (Md c) A (isTrue pe env (eval pe env)) Q E s:=by
 apply I_ ok λp1 f f' p2 p3 pos ok=>?_
 apply iW ok λho ok=>?_
 apply oW ho λho ho' hm N3=>?_
 apply i7 ok λo1 o2 o3=>?_
 rw[cJ ho']at N3 ⊢
 rw[cJ ho]
 exact yl N3 (x S o1 λk1 s1 v1 T1 R1=>y (S.go T1) o2 λk2 s2 v2 T2 R2=>R _ _ _ _ _ _ _ _ _ TO S.1.F6 T2.1 (T2.vr T1.1 R1) R2 λs3 T3=>wpAny_truthy_bool (h _ _ _ _ o3 ((T1.trans T2).trans T3) (T3.vr T2.1 R2)))
theorem AT {o p:B1} (TO:nK c T) (x:b9 c T a L H va H1) (y:b9 c T b L H1 vb H2) (R:cL H2 o va vb false):lp c T (.pH o p a b d) L H false H2:=λS ok h=>
 CR TO x y R S ok λ_ _ _ _ _ W _=>h _ _ W
theorem AV {o p:B1} {q:Bool} (TO:nK c T) (x:b9 c T a L H va H1) (y:b9 c T b L H1 vb H2) (R:cL H2 o va vb true) (z:b9 c T d L H2 vc H3) (R':cL H3 p vb vc q):lp c T (.pH o p a b d) L H q H3:=λS ok h=>
 CR TO x y R S ok λ_ _ _ _ o3 W rv=>z (S.go W) o3 λk4 s4 v4 T4 R4=>R' _ _ _ _ _ _ _ _ _ TO S.1.F6 T4.1 (T4.vr W.1 rv) R4 λs5 T5=>wpAny_truthy_bool (h _ _ ((W.trans T4).trans T5))
noncomputable def Ma:=pick (λ_ _=>true) (λ_ _ _ _=>true) (λo _ _=>o != .Not) z4 z3 z4 (λ_ _=>true) (λ_ _ _=>true) (λ_ _ _=>true) (λ_ _ _ _=>true) (λ_ _ _=>true) (λ_ _ _ _=>true) (λ_ _ _=>true) (λ_ _ _ _=>true) λ_ _ _=>true
theorem CT {pe:Expr} (h:Ma pe=true) (wh:Sem Value):isTrue pe env wh=(do let v ←wh;standAt pe.pos;holding [v] (truthy v)):=
 dC (P:=λpe=>isTrue pe env wh=(do let v ←wh;standAt pe.pos;holding [v] (truthy v))) h (λ_ _ _=>rfl) (λ_ _ _ _ _=>rfl) (λo _ _ h=>by cases o<;>first|rfl|exact ff h) Z4 Z3 Z4 (λ_ _ _=>rfl) (λ_ _ _ _=>rfl) (λ_ _ _ _=>rfl)
  (λ_ _ _ _ _=>rfl) (λ_ _ _ _=>rfl) (λ_ _ _ _ _=>rfl) (λ_ _ _ _=>rfl) (λ_ _ _ _ _=>rfl) λ_ _ _ _=>rfl
noncomputable def PT (e:Expr):Prop:=Ma e=true
theorem Mc {sc:Scope} {y:Str} {f:Expr->Bool} {pe:Expr} (ok:Ch sc y f pe=true):PT pe:=Ci ok λ_ _ _ _ _ _=>rfl
theorem Me {y:Str} {f:Expr->List Expr->Bool} {pe:Expr} (ok:Ie y f pe=true):PT pe:=yd ok λ_ _ _ _ _ _ _=>rfl
theorem Js {f:Expr->Expr->Bool} {pe:Expr} (ok:AI f pe=true):PT pe:=wj ok λ_ _ _ _=>rfl
theorem Gh {f:Str->List Expr->Bool} {pe:Expr} (ok:sP f pe=true):PT pe:=qS ok λ_ _ _ _ _=>rfl
theorem Mf {o:UnaryOp} {f:Expr->Bool} {pe:Expr} (ok:LM (λp x=>p==o&&f x) pe=true) (n:(o != .Not)=true):PT pe:=Cc ok λ_ _ _ h=>(cJ (cI h).1:_=o)▸n
theorem Jt {f:Const->Bool} {pe:Expr} (ok:sQ f pe=true):PT pe:=sj ok λ_ _ _ _=>rfl
theorem O2 {sc:Scope} {pe:Expr} (ok:gH T r sc nm e pe=true) (h:e.qP=true):PT pe:=by
 cases e with
 |lit v=>
  cases v with
  |none|bool|str=>exact Jt ok
  |int=>exact dC (P:=PT) ok (λ_ _ _=>rfl) Z4 Z3 Z4 Z3 Z4 Z2 Z3 Z3 Z4 Z3 Z4 Z3 Z4 λ_ _ _ _=>rfl
  |_=>exact ff ok
 |not|and|or|ite|cmp|pH=>exact ff h
 |var=>exact pK (P:=PT) ok λ_ _ _=>rfl
 |bin=>exact HX (P:=PT) ok λ_ _ _ _ _=>rfl
 |list=>exact Ce (P:=PT) ok λ_ _ _=>rfl
 |tup=>exact Cf (P:=PT) ok λ_ _ _ _=>rfl
 |comp=>exact x_ (P:=PT) ok λ_ _ _ _ _ _ _ _=>rfl
 |attr=>exact vd (P:=PT) ok λ_ _ _ _=>rfl
 |iM=>exact Cg (P:=PT) ok λ_=>rfl
 |bx=>exact vf (P:=PT) ok λ_ _ _ _ _ _ _=>rfl
 |idx|sK|p_=>exact Js ok
 |call|new|max=>exact Gh ok
 |neg|inv=>exact Mf ok rfl
 |len|sorted|listOf|tupleOf|intOf|sum=>exact Mc ok
 |append|extend|pop|u7|qO|u8=>exact Me ok
theorem CU {q:Bool} (x:b9 c T e L H v H1) (t:Tr H1 v q) (n:e.qP=true):lp c T e L H q H1:=by
 intro A r env nm pe k s Q E S ok h
 rw[CT (O2 ok n)]
 exact wpAny_bind (x S ok λk1 s1 v1 T1 R1=>wpAny_bind (wpAny_standAt (wpAny_holding (t _ _ _ _ _ _ _ T1.1 R1 λs2 T2=>h _ _ (T1.trans T2)))))
theorem OR.emp {h:Heap} {n:Nat} (g:h.get? (k.ι n)=some {cls:=.type "dict",data:=.dict #[]}) (q:Nat):OR c k H h n (if q=0 then .bc []else if q=1 then .bV []else .kH 0):=by
 split
 ·exact⟨[],⟨_,#[],0,g,⟨rfl,rfl,rfl⟩,rfl,λe he=>absurd (oB.mpr he) aQ,.nil,.nil⟩,rfl⟩
 ·split
  ·exact⟨[],⟨_,#[],0,g,⟨rfl,rfl,rfl⟩,rfl,rfl,λx hx=>absurd hx aQ,.nil⟩,λx hx=>absurd hx aQ,rfl⟩
  ·exact⟨[],⟨_,#[],0,g,⟨rfl,rfl,rfl⟩,rfl,λe he=>absurd (oB.mpr he) aQ,.nil,.nil⟩,aC _⟩
theorem AW {q:Nat}:b9 c T (.iM q) L H (.ref H.length) (H++[if q=0 then .bc []else if q=1 then .bV []else .kH 0]):=by
 intro A r env nm pe k s Q E S ok h
 apply Cg ok λp=>?_
 rw[eval_Dict_empty]
 refine wpAny_bind (wpAny_standAt ?_)
 refine wpAny_newObj_type (data:=.dict #[] 0) (T:="dict") ?_ (by size_fits)
 have W:=du.new (t:=s.toks) S.2 (by split;rfl;split<;>rfl) (λb o e=>Heap.get?_push_of_some _ e) (ip _) (S.2.nP λ_ _ e=>e) (OR.emp (by rw[show(k.add H.length s.heap.objs.size s.heap.objs.size).ι H.length=s.heap.objs.size from if_pos rfl];exact Heap.get?_push_size (o:={cls:=.type "dict",data:=.dict #[]}) _ rfl) q)
 exact h _ _ _ W.1 W.2
end
end
section
section
variable {c:Cx} {T:Tb} {L:Lc} {H H1:Hp} {h:Heap} {a:CE} {v u:V} {k:Lk} {s:Shared} {A:Around} {r:Nat} {E:Value->Shared->Prop} {env:Env} {nm:List Str}
theorem dw.Fu (S:dw c k H h):c.K.In h:=c.X.keeps S.1
section
variable {fs:List (Nat×V)} {es:List DictEntry} {f:Nat} {n:Str}
theorem qQ.kN {P:List DictEntry->Prop} (r:qQ c k H h [] es) (q:P []):P es:=cq r▸q
theorem qQ.kC {p:Nat×V} {P:List DictEntry->Prop} (r:qQ c k H h (p::fs) es) (q:∀hh x t v r,c.G.at_ p.1=some x->VR c k H h p.2 v->qQ c k H h fs r->P (⟨hh,.str x t,v⟩::r)):P es:=
 ju r λhh r=>r.elim λx r=>r.elim λt r=>r.elim λv r=>r.elim λes r=>cq r.1▸q hh x t v es r.2.1 r.2.2.1 r.2.2.2
theorem qQ.cons {g:Nat} {hh:Int} {x:Str} {t:Tok} {v:Value} (hx:c.G.at_ g=some x) (r:VR c k H h u v) (R:qQ c k H h fs es):qQ c k H h ((g,u)::fs) (⟨hh,.str x t,v⟩::es):=⟨hh,x,t,v,es,rfl,hx,r,R⟩
theorem qQ.noRef:∀{fs:List (Nat×V)} {es:List DictEntry},qQ c k H h fs es->es.any (·.refKey)=false
 |[],_,r=>r.kN (P:=λes=>es.any (·.refKey)=false) rfl
 |_::_,_,r=>r.kC (P:=λes=>es.any (·.refKey)=false) λ_ _ _ _ _ _ _ q=>q.noRef
theorem qQ.len:∀{fs:List (Nat×V)} {es:List DictEntry},qQ c k H h fs es->fs.length=es.length
 |[],_,r=>r.kN (P:=λes=>0=es.length) rfl
 |_::_,_,r=>r.kC (P:=λes=>_=es.length) λ_ _ _ _ _ _ _ q=>congrArg Nat.succ q.len
theorem Mg (TO:nK c T) {g f:Nat} {x n:Str} (h1:c.G.at_ g=some x) (h2:T.at_[f]?=some n):(x==n)=decide (g=f):=by
 rw[TO.5]at h1
 by_cases q:g=f
 ·subst q;cases h1.symm.trans h2;rw[beq_self_eq_true,decide_eq_true rfl]
 ·rw[beq_false_of_ne λz=>q (vj TO.6 h1 (h2.trans (congrArg some (cq z)))),decide_eq_false q]
theorem Ju {g:Nat}:qN f ((g,u)::fs)=if g=f then some u else qN f fs:=rfl
theorem Jv {g:Nat}:dj f v ((g,u)::fs)=if g=f then(g,v)::fs else(g,u)::dj f v fs:=rfl
theorem qQ.find (TO:nK c T) (hn:T.at_[f]?=some n):∀{fs:List (Nat×V)} {es:List DictEntry},qQ c k H h fs es->OV c k H h (qN f fs) ((es.find? (·.key.isStr n)).map (·.val))
 |[],_,r=>r.kN (P:=λes=>((es.find? (·.key.isStr n)).map (·.val))=none) rfl
 |(g,u)::fs,_,r=>by
  apply r.kC λhh x t v es hx rv R=>?_
  have ih:=qQ.find TO hn R
  have e:(DictEntry.mk hh (.str x t) v).key.isStr n=decide (g=f):=Mg TO hx hn
  rw[Ju]
  by_cases q:g=f
  ·rw[if_pos q,fp (p:=λx:DictEntry=>x.key.isStr n) (e.trans (decide_eq_true q))];exact⟨_,rfl,rv⟩
  ·rw[if_neg q,fw (p:=λx:DictEntry=>x.key.isStr n) (λz=>cA ((decide_eq_false q).symm.trans (e.symm.trans z)))];exact ih
theorem getLE {es:List DictEntry} {q:Option Value} (nr:es.any (·.refKey)=false) (x:(es.find? (·.key.isStr n)).map (·.val)=q):getL n es=some q:=by
 unfold getL
 cases z:es.find? (·.key.isStr n)with
 |some e=>rw[z]at x;exact congrArg some x
 |none=>rw[z]at x;rw[nr];exact congrArg some x
theorem qQ.put (TO:nK c T) (hn:T.at_[f]?=some n) {hh:Int} {t:Tok} {v':Value} (rv:VR c k H h v v'):∀{fs:List (Nat×V)} {es:List DictEntry},qQ c k H h fs es->qQ c k H h (dj f v fs) (putL n hh (.str n t) v' es)
 |[],_,r=>r.kN (P:=λes=>qQ c k H h (dj f v []) (putL n hh (.str n t) v' es)) (.cons ((TO.5 f).trans hn) rv rfl)
 |(g,u)::fs,_,r=>by
  apply r.kC λhh' x t' v0 es hx r0 R=>?_
  have e:(DictEntry.mk hh' (.str x t') v0).key.isStr n=decide (g=f):=Mg TO hx hn
  rw[Jv]
  unfold putL
  by_cases q:g=f
  ·rw[if_pos q,if_pos (e.trans (decide_eq_true q))];exact .cons hx rv R
  ·rw[if_neg q,if_neg (λz=>cA ((decide_eq_false q).symm.trans (e.symm.trans z)))];exact .cons hx r0 (qQ.put TO hn rv R)
end
theorem CV (n:Str) (hh:Int) (t v:Value):∀es:List DictEntry,(putL n hh t v es).length≤es.length+1
 |[]=>aC _
 |e::es=>by
  unfold putL
  split
  ·exact iP _
  ·exact aM (CV n hh t v es)
theorem VR.handed {v:Value}:∀{x:V},VR c k H h x v->handedIn v=true
 | .none,r=>r.kN (P:=λv=>handedIn v=true) rfl
 | .bool _,r=>r.kB (P:=λv=>handedIn v=true) rfl
 | .int _,r=>r.kI (P:=λv=>handedIn v=true) λ_=>rfl
 | .str _,r=>r.kS (P:=λv=>handedIn v=true) λ_ _ _=>rfl
 | .tup _,r=>r.kT (P:=λv=>handedIn v=true) λ_ _ _ _ _=>rfl
 | .ref _,r=>r.kR (P:=λv=>handedIn v=true) λ_=>rfl
theorem AX (o:Expr) (n:Str) (p:Pos):eval (.Attribute o n p) env=(do
  let ov ←attributeBase o n env (eval o env)
  standAt p.atName
  let r ←holding [ov] (getAttr ov n true)
  letTemporaryGo o ov r
  pure r):=rfl
theorem zP {K:Frag} {C:Addr} {n:Str} {P:Prop} (x:zH K C n false=true) (q:∀a,findIn K (.ref C) n=some a->noGet K a=true->takerIn K C n=some none->P):P:=by
 unfold zH at x
 rw[Bool.false_or]at x
 cases z:findIn K (.ref C) n with
 |none=>rw[z]at x;exact ff x
 |some a=>rw[z]at x;exact q a z (cI x).1 (cJ (cI x).2)
theorem dw.kO {P:Prop} (S:dw c k H h) {j cl:Nat} {fs:List (Nat×V)} (g:H[j]?=some (.inst cl fs)) (q:∀es n,cl<c.G.HV->qQ c k H h fs es->h.get? (k.ι j)=some (instObj (c.G.cl cl) (k.δ j))->h.get? (k.δ j)=some (dictOf es n)->InstAt h (k.ι j) (instObj (c.G.cl cl) (k.δ j)) (c.G.cl cl) (some (dictOf es n))->P):P:=by
 obtain⟨q0,g1,es,n,g2,R⟩:=S.2 _ _ g
 exact q es n q0 R g1 g2 ⟨g1,rfl,rfl,g2⟩
theorem CX {f kk cl:Nat} {fs:List (Nat×V)} (TO:nK c T) (x:b9 c T a L H (.ref kk) H1) (o:H1[kk]?=some (.inst cl fs)) (m:T.P.xQ cl f=none) (hf:qN f fs=some v):b9 c T (.attr a f) L H v H1:=by
 intro A r env nm pe k s Q E S ok h
 apply vd ok λy n p ok=>?_
 apply i7 ok λhn hb o1=>?_
 rw[AX,wz hb]
 refine wpAny_bind (x S o1 λk1 s1 v1 T1 R1=>wpAny_bind (wpAny_standAt (wpAny_bind (wpAny_holding ?_))))
 apply R1.kR λ_=>?_
 refine T1.1.kO o λes e q0 R g1 g2 I=>?_
 have fd:=R.find TO (cJ hn)
 rw[hf]at fd
 obtain⟨v',hl,rv⟩:=fd
 have ck:=TO.7 cl q0 f n (cJ hn)
 rw[m]at ck
 refine zP ck λat' ha hg _=>?_
 obtain⟨pg,hd,_⟩:=TO.8 cl q0
 exact get_value T1.1.Fu I (plainGet_of pg).1 (findObj_own hd ha hg (getLE R.noRef hl)) rv.handed (wpAny_bind (wpAny_letTemporaryGo (wpAny_pure (h _ _ _ (du.toks T1 _) rv))))
theorem du.Mh {kk cl f:Nat} {fs:List (Nat×V)} {es Mi:List DictEntry} {e e':Nat} {h':Heap} {t:Nat} (S:dw c k H s.heap) (o:H[kk]?=some (.inst cl fs)) (q0:cl<c.G.HV) (g1:s.heap.get? (k.ι kk)=some (instObj (c.G.cl cl) (k.δ kk))) (g2:s.heap.get? (k.δ kk)=some (dictOf es e)) (hs:Heap.SameBut (k.δ kk) s.heap h') (D:h'.get? (k.δ kk)=some (dictOf Mi e')) (R:qQ c k H s.heap (dj f v fs) Mi):
  du c k H s k (H.set kk (.inst cl (dj f v fs))) {s with heap:=h',toks:=t}:=
 du.set S o rfl rfl rfl (.inr ⟨rfl,rfl⟩) (qg hs) λm=>⟨q0,(hs.2 _ λz=>by rw[z,g2]at g1;cases g1).trans g1,_,_,D,R.mono m⟩
theorem vm {kk cl f:Nat} {n:Str} {fs:List (Nat×V)} {v':Value} {Q:Unit->Shared->Prop} (TO:nK c T) (S:dw c k H s.heap) (o:H[kk]?=some (.inst cl fs)) (hn:T.at_[f]?=some n) (m:T.P.xQ cl f=none) (z:fs.length≤100)
  (rv:VR c k H s.heap v v') (h:∀s',du c k H s k (H.set kk (.inst cl (dj f v fs))) s'->Q () s'):wpAny (Md c) A (setAttr (.ref (k.ι kk)) n v') Q E s:=by
 refine S.kO o λes e q0 R g1 g2 I=>?_
 have ck:=TO.7 cl q0 f n hn
 rw[m]at ck
 refine zP ck λat' ha hg ht=>?_
 obtain⟨pg,hd,po,hsa⟩:=TO.8 cl q0
 have KI:=S.Fu
 refine set_plain KI I hsa (osa_open (s:={s with toks:=s.toks+1}) KI I po ht λb=>?_)
 obtain⟨cd,hc,hd'⟩:=any_some hd
 have h1:Looks (Md c) s.heap (classData (c.G.cl cl)) cd:=looks_clsIn (M:=Md c) KI hc
 refine wpAny_bind (wpAny_pure (wpAny_bind (wpAny_bind (wpAny_loadPart g1 (wpAny_bind (Looks.here (s:={s with toks:=s.toks+1}) h1 ?_))))))
 rw[hd']
 refine wpAny_pure (a:=some (k.δ kk)) (wpAny_bind (wpAny_pure (wpAny_bind ?_)))
 unfold nsSet
 refine wpAny_bind (wpAny_bind (wpAny_askSetting (wpAny_pure (wpAny_bind (wpAny_mkText (wpAny_bind (wpAny_loadPart g2 ?_)))))))
 have nr:es.toArray.any (·.refKey)=false:=by rw[List.any_toArray];exact R.noRef
 have cc:(!es.toArray.any (·.key.isStr n)&&es.toArray.any (·.refKey))=false:=by rw[nr,Bool.and_false]
 dsimp only
 rw[aRefKeyMayBeTheName_at,cc]
 refine wpAny_updatePart g2 ?_
 have ef:=putName_dict n (PyData.keyHash c.w.params n) (.str n (s.toks+1)) v' es e
 have D':(s.heap.update (k.δ kk) (Obj.putName n (PyData.keyHash c.w.params n) (.str n (s.toks+1)) v')).get? (k.δ kk)=some (dictOf (putL n (PyData.keyHash c.w.params n) (.str n (s.toks+1)) v' es) (putN n es e)):=by
  rw[←ef];exact Heap.get?_update_self _ g2 (by rw[ef];rfl)
 have ln:(putL n (PyData.keyHash c.w.params n) (.str n (s.toks+1)) v' es).length≤101:=aj (CV ..) (aM (R.len▸z))
 refine wpAny_bind (wpAny_lookBehind D' (pastItsLine_dict (by rw[bS,sizeLine_eq];exact aj ln (by decide))) (wpAny_pure ?_))
 exact h _ (du.Mh S o q0 g1 g2 (Heap.SameBut.update ..) D' (R.put TO hn rv))
end
end
section
theorem K9:Manifest.owners.lookup (String.ofList ['d','e','s','r','e','v','e','r'].reverse)=some Manifest.sig_reversed:=by kernel_rfl
theorem iq:Slot "reversed" "__next__" "reversed.__next__":=
 .of (owner:="reversed") (n:="__next__") (by rw[typeLookup_type,builtinLookup_eq_fast];kernel_rfl) (by decide+kernel) (by decide+kernel) (by decide+kernel)
  (by first|exact .inl (by decide+kernel)|exact .inr (by decide+kernel)) (by rw[isSubtype_type];kernel_rfl)
theorem nV:entryFor table "reversed.__next__"=some Builtin.«reversed.__next__»:=entryFor_of_tree (by kernel_rfl)
theorem pw (a:Value):argsOk "reversed.__next__" ⟨[a],[]⟩:=by unfold argsOk;kernel_rfl
theorem py:Slot "reversed" "__iter__" "reversed.__iter__":=
 .of (owner:="reversed") (n:="__iter__") (by rw[typeLookup_type,builtinLookup_eq_fast];kernel_rfl) (by decide+kernel) (by decide+kernel) (by decide+kernel)
  (by first|exact .inl (by decide+kernel)|exact .inr (by decide+kernel)) (by rw[isSubtype_type];kernel_rfl)
theorem uf (a:Value):argsOk "reversed.__iter__" ⟨[a],[]⟩:=by unfold argsOk;kernel_rfl
theorem sV:entryFor table "reversed.__iter__"=some Builtin.«dict_keyiterator.__iter__»:=
 entryFor_alias (id':="dict_keyiterator.__iter__") (by kernel_rfl) (by first|rfl|decide+kernel|(unfold String.splitOn;simp+decide [String.splitOnAux])) (by decide+kernel) (by kernel_rfl)
theorem pA:Slot "reversed" "__init__" "object.__init__":=
 .of (owner:="object") (n:="__init__") (by rw[typeLookup_type,builtinLookup_eq_fast];kernel_rfl) (by decide+kernel) (by decide+kernel) (by decide+kernel)
  (by first|exact .inl (by decide+kernel)|exact .inr (by decide+kernel)) (by rw[isSubtype_type];kernel_rfl)
theorem ym:TypeCalled "reversed" "reversed.__new__" "object.__init__":=
 ⟨by decide+kernel,by decide+kernel,⟨_,_,F.mro_reversed⟩,F.made_reversed,by decide+kernel,by rw[isSubtype_type];kernel_rfl,pA⟩
theorem AY:typeLookup (.type "tuple") "__reversed__"=pure none:=by rw[typeLookup_type,builtinLookup_eq_fast];kernel_rfl
theorem rH:typeLookup (.type "tuple") "__getitem__"=pure (some (.builtin "tuple.__getitem__")):=by rw[typeLookup_type,builtinLookup_eq_fast];kernel_rfl
theorem yo:isSubtype (.type "tuple") (.type "dict")=pure false:=by rw[isSubtype_type];kernel_rfl
noncomputable def Mj (l:Addr) (i:Int):Obj:={cls:=.type "reversed",data:=.fields #[.ref l,rawInt i]}
noncomputable def vo (h:Heap) (I l:Addr) (i:Int):Prop:=∃o,h.get? I=some o∧o.cls= .type "reversed"∧o.data= .fields #[.ref l,rawInt i]
theorem vo.typeIs {s:Shared} {a l:Addr} {i:Int} (x:vo s.heap a l i):s.TypeIs (.ref a) "reversed":=let⟨o,ho,hc,_⟩:=x;⟨o,ho,hc⟩
section
variable {prog:Program} {w:World} {A:Around} {E:Value->Shared->Prop} {s:Shared}
theorem zQ {α:Type} {Q:α->Shared->Prop} {Q0:Option Value->Shared->Prop} (hh:A.handled=none) (h:∀h',(∀b o,s.heap.get? b=some o->h'.get? b=some o)->Q0 none {s with heap:=h'}):
  wpAny (model prog w) A.in1 (do raiseNew (←newExc (.type "StopIteration") [])) Q (λe s'=>wpAny (model prog w) A (do if ←isInstance e (.type "StopIteration")then pure none else throw e) Q0 E s') s:=by
 refine wpAny_bind ?_
 unfold newExc newTuple
 refine wpAny_bind (wpAny_newObj_type ?_ (by size_fits))
 refine wpAny_bind (m:=firstArgMember _ _) (wpAny_of_eq (a:=Value.none) (by first|rfl|(simp only[firstArgMember];rfl)) ?_)
 refine wpAny_newObj_type ?_ (by size_fits)
 unfold raiseNew
 refine wpAny_bind (wpAny_handled ?_)
 rw[show A.in1.handled=none from hh]
 show wpAny _ _ (pure ()>>=λ_=>throw _) _ _ _
 refine wpAny_bind (wpAny_pure (wpAny_throw ?_))
 exact wpAny_bind (wpAny_isInstance (T:="StopIteration") (b:=true) ⟨_,Heap.get?_push_size _ rfl,rfl⟩ isSubtype_stop (wpAny_pure (h _ λb o e=>Heap.get?_push_of_some _ (Heap.get?_push_of_some _ e))))
theorem wF {l:Addr} {vs:List Value} {e:Nat} {Q₁:Value->Shared->Prop} (hl:s.heap.get? l=some (ic vs e)) (hz:vs.length<2^62)
  (h:∀t,Q₁ (.ref s.heap.objs.size) {s with heap:=s.heap.push (Mj l ((vs.length:Int)-1)),toks:=t}):
  codeAny (model prog w) A (.call (.builtin "reversed.__new__") ⟨[.type "reversed",.ref l],[]⟩) (wants Q₁ E) s:=by
 have hT:s.TypeIs (.ref l) "tuple":=⟨_,hl,rfl⟩
 refine codeAny_of_tree ?_
 show wpAny _ A.in1 (do checkBuiltinCall "reversed.__new__" ⟨[.type "reversed",.ref l],[]⟩;again (.builtin "reversed.__new__" ⟨[.type "reversed",.ref l],[]⟩)) _ _ s
 refine wpAny_bind (wpAny_of_eq (F.newCall_reversed_1 _) (wpAny_pure ⟨plainId_quiet F.plain_reversed_new _,codeAny_builtin F.entry_reversed_new ?_⟩))
 rw[Around.under_plainId F.plain_reversed_new _]
 unfold Builtin.«reversed.__new__»
 refine wpAny_bind (wpAny_of_eq (newClass_reversed _) ?_)
 try dsimp only
 refine wpAny_bind (wpAny_of_eq (a:=()) (by first|rfl|kernel_rfl) ?_)
 refine wpAny_bind (wpAny_of_eq (a:=()) (by first|rfl|kernel_rfl) ?_)
 try dsimp only
 refine wpAny_bind (wpAny_specialOf hT AY ?_)
 try dsimp only
 refine wpAny_bind ?_
 show wpAny _ _ (isInstance (.ref l) (.type "dict")>>=_) _ _ _
 refine wpAny_bind (wpAny_isInstance hT yo ?_)
 rw[if_neg cA]
 show wpAny _ _ (specialOf (.ref l) "__getitem__">>=_) _ _ _
 refine wpAny_bind (wpAny_specialOf hT rH ?_)
 dsimp only
 have hc:(["tuple.__getitem__","str.__getitem__","bytes.__getitem__","bytearray.__getitem__","memoryview.__getitem__","numpy.ndarray.__getitem__","sqlite3.Row.__getitem__"]:List String).contains "tuple.__getitem__"=true:=by decide
 rw[if_pos hc]
 refine wpAny_pure ?_
 rw[if_neg (by decide)]
 refine wpAny_bind (len_tuple (items:=vs.toArray) ⟨_,hl,rfl,_,rfl⟩ (bC.mpr (bK hz (by decide))) ?_)
 refine wpAny_bind (wpAny_of_eq (a:=some ((vs.toArray.size:Nat):Int)) rfl ?_)
 dsimp only
 show wpAny _ _ (newObj (.type "reversed") (.fields #[.ref l,rawInt (((vs.toArray.size:Nat):Int)-1)])>>=_) _ _ _
 refine wpAny_bind (wpAny_newObj_type ?_ (by size_fits))
 exact wpAny_pure (h (s.toks+1+1))
theorem oX {l:Addr} {vs:List Value} {e:Nat} {Q:Value->Shared->Prop} (hl:s.heap.get? l=some (ic vs e)) (hz:vs.length<2^62)
  (h:∀t,Q (.ref s.heap.objs.size) {s with heap:=s.heap.push (Mj l ((vs.length:Int)-1)),toks:=t}):
  wpAny (model prog w) A (call (.type "reversed") [.ref l]) Q E s:=by
 refine callType_codes ym (F.typeCall_reversed_1 _) F.entry_object_init (wF (Q₁:=λobj s₁=>obj= .ref s.heap.objs.size∧∃t,s₁={s with heap:=s.heap.push (Mj l ((vs.length:Int)-1)),toks:=t}) hl hz λt=>⟨rfl,t,rfl⟩) ?_
 rintro obj s₁ ⟨rfl,t,rfl⟩
 refine⟨⟨_,Heap.get?_push_size _ rfl,rfl⟩,F.args_object_init_2 _ _,?_⟩
 exact object_init_meets (T:="reversed") pA.lookup F.made_reversed (by decide) prog w A.in1 _ _ ⟨⟨_,Heap.get?_push_size _ rfl,rfl⟩,rfl,h t⟩
theorem Gi {it l:Addr} {i:Nat} {vs:List Value} {e:Nat} {x:Value} {Q:Option Value->Shared->Prop} (hit:vo s.heap it l (i:Int)) (hl:s.heap.get? l=some (ic vs e)) (hx:vs[i]?=some x) (hz:vs.length<2^62)
  (hQ:∀h' t,vo h' it l ((i:Int)-1)->Heap.SameBut it s.heap h'->Q (some x) {s with heap:=h',toks:=t}):wpAny (model prog w) A (pyNext (.ref it)) Q E s:=by
 obtain⟨o,ho,hc,hd⟩:=id hit
 have li:i<vs.length:=(ah.mp hx).1
 have hT:s.TypeIs (.ref l) "tuple":=⟨_,hl,rfl⟩
 unfold pyNext
 refine wpAny_bind (wpAny_attempt (wpAny_callSpecial?_slot (name:=Str.ofString "__next__") hit.typeIs iq
  (wpAny_call_entry iq hit.typeIs nV ?_ (pw _))))
 unfold Builtin.«reversed.__next__»
 refine wpAny_bind (wpAny_of_eq (a:=(Value.ref it,[])) rfl ?_)
 try dsimp only
 refine wpAny_bind (wpAny_field ho hd (x:=.ref l) rfl ?_)
 refine wpAny_bind (wpAny_field ho hd (x:=rawInt (i:Int)) rfl ?_)
 show wpAny _ _ (if(i:Int)<0 then _ else _) _ _ s
 rw[if_neg (fy.mpr (aS i))]
 show wpAny _ _ (specialOf (.ref l) "__getitem__">>=_) _ _ _
 refine wpAny_bind (wpAny_specialOf hT rH ?_)
 show wpAny _ _ (mkInt (i:Int)>>=_) _ _ _
 refine wpAny_bind (wpAny_mkInt ?_)
 have n0:¬(i:Int)<0:=fy.mpr (aS i)
 have hi:seqIndex? (i:Int) vs.toArray.size=some i:=by
  unfold seqIndex?
  rw[if_neg n0,if_pos (by rw[decide_eq_true (aS i),decide_eq_true (show(i:Int)<vs.toArray.size from bC.mpr li)];rfl)];rfl
 refine wpAny_bind (wpAny_attempt (getItem_tuple (x:=x) (items:=vs.toArray) ⟨_,hl,rfl,_,rfl⟩ (qI (by decide) (aS i)) (bC.mpr (bK (bK li hz) (by decide))) hi (by rw[cC];exact hx) ?_))
 show wpAny _ _ (field (.ref it) 1>>=_) _ _ _
 refine wpAny_bind (wpAny_field ho hd (x:=rawInt (i:Int)) rfl ?_)
 show wpAny _ _ (setField (.ref it) 1 (rawInt ((i:Int)-1))>>=_) _ _ _
 refine wpAny_bind (wpAny_setField ho hd (by simp) ?_)
 refine wpAny_pure ⟨x,rfl,wpAny_pure (hQ _ (s.toks+1) ?_ (Heap.SameBut.update ..))⟩
 exact⟨_,Heap.get?_update_self _ ho (Obj.isFreed_of_fields (Obj.data_mapFields hd _)),(Obj.cls_mapFields ..).trans hc,by rw[Obj.data_mapFields hd];simp⟩
theorem Jw {it l:Addr} {Q:Option Value->Shared->Prop} (hh:A.handled=none) (hit:vo s.heap it l (-1))
  (hQ:∀h',Heap.ExtBut it s.heap h'->Q none {s with heap:=h'}):wpAny (model prog w) A (pyNext (.ref it)) Q E s:=by
 obtain⟨o,ho,hc,hd⟩:=id hit
 unfold pyNext
 refine wpAny_bind (wpAny_attempt (wpAny_callSpecial?_slot (name:=Str.ofString "__next__") hit.typeIs iq
  (wpAny_call_entry iq hit.typeIs nV ?_ (pw _))))
 unfold Builtin.«reversed.__next__»
 refine wpAny_bind (wpAny_of_eq (a:=(Value.ref it,[])) rfl ?_)
 try dsimp only
 refine wpAny_bind (wpAny_field ho hd (x:=.ref l) rfl ?_)
 refine wpAny_bind (wpAny_field ho hd (x:=rawInt (-1)) rfl ?_)
 show wpAny _ _ (if(-1:Int)<0 then _ else _) _ _ s
 rw[if_pos (by decide)]
 refine wpAny_bind (wpAny_rule ?_)
 refine wpAny_bind ?_
 show wpAny _ _ (setField (.ref it) 1 (rawInt (-1))>>=_) _ _ _
 refine wpAny_bind (wpAny_setField ho hd (by simp) ?_)
 refine wpAny_setField (Heap.get?_update_self _ ho (Obj.isFreed_of_fields (Obj.data_mapFields hd _))) (Obj.data_mapFields hd _) (by simp) ?_
 refine wpAny_bind (zQ hh λh' e=>hQ _ λb o n q=>e _ _ ((((Heap.SameBut.update ..).trans (Heap.SameBut.update ..)).extBut) b o n q))
theorem zR {it l:Addr} {i:Int} {Q:Value->Shared->Prop} (hit:vo s.heap it l i) (h:Q (.ref it) s):wpAny (model prog w) A (pyIter (.ref it)) Q E s:=by
 refine wpAny_pyIter_slot hit.typeIs py (wpAny_call_entry py hit.typeIs sV ?_ (uf _))
 show wpAny _ _ (ret (.ref it)) _ _ s
 exact wpAny_pure ⟨_,rfl,"reversed",_,hit.typeIs,iq.lookup,h⟩
end
end
section
section
variable {c:Cx} {H:Hp} {h h':Heap} {k:Lk} {s:Shared} {A:Around} {E:Value->Shared->Prop} {I:Addr}
theorem wG {d:Addr} {i n ep:Nat} {od:Obj} {es:Array DictEntry} {q:Option DictEntry} {Q:Option Value->Shared->Prop} (hh:A.handled=none) (hit:s.heap.IsKeyIter I d i n ep) (hod:s.heap.get? d=some od) (hdd:od.data= .dict es ep) (O3:es.size=n) (hx:es[i]?=q)
  (hQ:∀h',Heap.ExtBut I s.heap h'->(∀en,q=some en->h'.IsKeyIter I d (i+1) n ep)->Q (q.map (·.key)) {s with heap:=h'}):wpAny (Md c) A (pyNext (.ref I)) Q E s:=by
 obtain⟨o,ho,hc,hd⟩:=id hit
 unfold pyNext
 refine wpAny_bind (wpAny_attempt (wpAny_callSpecial?_slot (name:=Str.ofString "__next__") hit.typeIs F.slot_dict_keyiterator_next
  (wpAny_call_entry F.slot_dict_keyiterator_next hit.typeIs F.entry_dict_keyiterator_next ?_ (F.args_dict_keyiterator_next_1 _))))
 refine wpAny_bind (wpAny_pure (wpAny_bind (wpAny_bind ?_)))
 first|refine wpAny_bind (wpAny_typeNameOfWhole_keyiter hit.typeIs (wpAny_pure ?_))|refine wpAny_bind (wpAny_typeNameOf_keyiter hit.typeIs (wpAny_pure ?_))
 refine wpAny_bind (wpAny_fieldsOf ho hd ?_)
 rw[show Builtin.Dict_items.ownsTuple "dict_keyiterator"=false by decide]
 show wpAny _ _ (if(Value.ref d==Value.none)=true then _ else _) _ _ s
 rw[if_neg (show ¬((Value.ref d==Value.none)=true) from cA)]
 refine wpAny_bind (wpAny_pure (wpAny_bind (wpAny_dictEntries hod hdd ?_)))
 rw[if_neg (by rw[O3];exact λz=>cA ((bne_self_eq_false _).symm.trans z))]
 refine wpAny_bind (wpAny_pure (wpAny_bind (wpAny_dictEpoch hod hdd ?_)))
 rw[if_neg (λz=>cA ((bne_self_eq_false _).symm.trans z))]
 refine wpAny_pure ?_
 dsimp only
 rw[if_neg (fy.mpr (aS i)),fY,hx]
 cases q with
 |some en=>
  refine wpAny_bind ?_
  first|refine wpAny_bind (wpAny_typeNameOfWhole_keyiter hit.typeIs (wpAny_pure ?_))|refine wpAny_bind (wpAny_typeNameOf_keyiter hit.typeIs (wpAny_pure ?_))
  refine wpAny_bind (wpAny_isOneOf_keyiter hit.typeIs ?_)
  show wpAny _ _ (setField (.ref I) 1 (rawInt ((i:Int)+1))>>=_) _ _ s
  refine wpAny_bind (wpAny_setField ho hd (show 1<4 by decide) ?_)
  have Mk:(s.heap.update I (Obj.mapFields (·.setIfInBounds 1 (rawInt ((i:Int)+1))))).IsKeyIter I d (i+1) n ep:=
   ⟨_,Heap.get?_update_self _ ho (Obj.isFreed_of_fields (Obj.data_mapFields hd _)),(Obj.cls_mapFields ..).trans hc,Obj.data_mapFields hd _⟩
  refine wpAny_bind (wpAny_holding (wpAny_bind (wpAny_isOneOf_keyiter (s:={s with heap:=s.heap.update I (Obj.mapFields (·.setIfInBounds 1 (rawInt ((i:Int)+1))))}) Mk.typeIs ?_)))
  exact wpAny_pure (wpAny_pure ⟨_,rfl,wpAny_pure (hQ _ (Heap.SameBut.update ..).extBut λ_ _=>Mk)⟩)
 |none=>
  refine wpAny_bind ?_
  first|refine wpAny_bind (wpAny_typeNameOfWhole_keyiter hit.typeIs (wpAny_pure ?_))|refine wpAny_bind (wpAny_typeNameOf_keyiter hit.typeIs (wpAny_pure ?_))
  show wpAny _ _ (setField (.ref I) 0 .none>>=_) _ _ s
  refine wpAny_bind (wpAny_setField ho hd (show 0<4 by decide) ?_)
  exact zQ hh λh' e=>hQ h' (λb o n z=>e _ _ ((Heap.SameBut.update ..).extBut b o n z)) λ_ z=>cW rfl z
noncomputable def mT (I:Addr) (h h':Heap):Prop:=∀b o,b≠I->h.get? b=some o->h'.get? b=some o
end
noncomputable def oM (n:String):Bool:=n !="tuple"&& !(["enumerate","zip","dict_itemiterator","dict_reverseitemiterator","odict_iterator","itertools.zip_longest","itertools.pairwise"].contains n)
inductive wH (c:Cx) (I:Addr) (g:Gd) (P:List V->Lk->Hp->Heap->Prop):Prop
 |mk (cls:∀{xs k H h},P xs k H h->∃ob n,h.get? I=some ob∧ob.cls= .type n∧oM n=true∧∃fs,ob.data= .fields fs) (mv:∀{xs k H h k' H' h'},P xs k H h->(∀o,h.get? I=some o->h'.get? I=some o)->(∀j o b,H[j]?=some o->o.owned=false->h.get? (k.ι j)=some b->h'.get? (k.ι j)=some b)->Mw k H h k' H' h'->g.ok H'->P xs k' H' h') (next:∀{x xs k H s A} {Q:Option Value->Shared->Prop} {E:Value->Shared->Prop},A.handled=none->P (x::xs) k H s.heap->dw c k H s.heap->nJ k H I->(∀h' t v,mT I s.heap h'->VR c k H h' x v->P xs k H h'->Q (some v) {s with heap:=h',toks:=t})->wpAny (Md c) A (pyNext (.ref I)) Q E s) (done:∀{k H s A} {Q:Option Value->Shared->Prop} {E:Value->Shared->Prop},A.handled=none->P [] k H s.heap->dw c k H s.heap->(∀h' t,mT I s.heap h'->Q none {s with heap:=h',toks:=t})->wpAny (Md c) A (pyNext (.ref I)) Q E s) (self:∀{xs k H s A} {Q:Value->Shared->Prop} {E:Value->Shared->Prop},g.Ca=false->P xs k H s.heap->Q (.ref I) s->wpAny (Md c) A (pyIter (.ref I)) Q E s)
noncomputable def i8 (c:Cx) (k:Lk) (H:Hp) (h:Heap) (I:Addr) (g:Gd) (xs:List V):Prop:=∃P,P xs k H h∧wH c I g P
section
variable {c:Cx} {k:Lk} {H:Hp} {h h':Heap} {s:Shared} {A:Around} {E:Value->Shared->Prop} {I:Addr}
theorem uH (hs:Heap.SameBut I h h'):mT I h h':=λb _ n e=>(hs.2 b n).trans e
theorem Ip (hs:Heap.ExtBut I h h'):mT I h h':=λb o n e=>hs b o n e
theorem pE {n:String} {fs:Array Value} (z:oM n=true) (x:∃o,h.get? I=some o∧o.cls= .type n∧o.data= .fields fs):∃ob n,h.get? I=some ob∧ob.cls= .type n∧oM n=true∧∃fs,ob.data= .fields fs:=x.elim λo x=>⟨o,n,x.1,x.2.1,z,fs,x.2.2⟩
theorem sW {Φ:Obj->Prop} (x:∃o,h.get? I=some o∧Φ o) (f:∀o,h.get? I=some o->h'.get? I=some o):∃o,h'.get? I=some o∧Φ o:=x.elim λo x=>⟨o,f o x.1,x.2⟩
theorem qh (x:∃ob n,h.get? I=some ob∧ob.cls= .type n∧oM n=true∧∃fs,ob.data= .fields fs):∃o,h.get? I=some o∧iR o:=x.elim λo x=>x.elim λn x=>⟨o,x.1,oK x.2.1 λe=>bne_iff_ne.mp (cI x.2.2.1).1 e⟩
theorem Jx (x:∃ob n,h.get? I=some ob∧ob.cls= .type n∧oM n=true∧∃fs,ob.data= .fields fs) (e:mT I h h'):Mw k H h k H h':=⟨aC _,λ_ _=>rfl,λa vs n q=>e a _ (λz=>(qh x).elim λo y=>y.2 _ _ (ax (y.1.symm.trans (cq z▸q)))) q⟩
theorem lN {α:Type} {x:α} {xs l:List α} {i:Nat} (e:l.drop i=x::xs):l[i]?=some x∧xs=l.drop (i+1):=
 ⟨(dF (xs:=l) (i:=i) (j:=0)).symm.trans (congrArg (λl:List α=>l[0]?) e),(congrArg List.tail e).symm.trans List.tail_drop⟩
theorem vp {α:Type} {l:List α} {i:Nat} (e:[]=l.drop i):l.length≤i:=List.drop_eq_nil_iff.mp e.symm
theorem Jy {a:Nat} {l:List V}:wH c I (.list a l) λxs k H h=>H[a]?=some (.list l)∧∃i,h.IsListIter I (k.ι a) i∧xs=l.drop i:=.mk
 (λp=>p.2.elim λ_ q=>pE (by decide) q.1)
 (λp f _ m g=>⟨g,p.2.elim λi q=>⟨i,cq (m.2 _ (j0 p.1))▸sW q.1 f,q.2⟩⟩)
 (λ{x xs k H s A Q E} _ p S _ hQ=>p.2.elim λi q=>S.kL p.1 λvs n g R=>(R.get (lN q.2.symm).1).elim λv w=>
  wpAny_pyNext_list_item q.1 ⟨_,g,rfl,n,rfl⟩ ((cC ..).trans w.1) λh' CY hs=>hQ h' s.toks v (uH hs) (w.2.mono (Jx (pE (by decide) q.1) (uH hs))) ⟨p.1,_,CY,(lN q.2.symm).2⟩)
 (λ{k H s A Q E} hh p S hQ=>p.2.elim λi q=>S.kL p.1 λvs n g R=>wpAny_pyNext_list_end hh q.1 ⟨_,g,rfl,n,rfl⟩ (iU (aj (aF R.length.symm) (vp q.2))) λh' hs=>hQ h' s.toks (Ip hs))
 (λ_ p h=>p.2.elim λ_ q=>wpAny_pyIter_listiter q.1 h)
theorem Ml {t:Addr} {l:List V} {vs:List Value} {n:Nat}:wH c I .none λxs k H h=>(h.get? t=some (ic vs n)∧eH c k H h l vs)∧∃i,h.IsTupleIter I t i∧xs=l.drop i:=.mk
 (λp=>p.2.elim λ_ q=>pE (by decide) q.1)
 (λp f _ m g=>⟨⟨m.3 _ _ _ p.1.1,p.1.2.mono m⟩,p.2.elim λi q=>⟨i,sW q.1 f,q.2⟩⟩)
 (λ{x xs k H s A Q E} _ p S _ hQ=>p.2.elim λi q=>(p.1.2.get (lN q.2.symm).1).elim λv w=>wpAny_pyNext_tuple_item q.1 ⟨_,p.1.1,rfl,n,rfl⟩ ((cC ..).trans w.1) λh' CY hs=>by
  have m:=Jx (k:=k) (H:=H) (pE (by decide) q.1) (uH hs)
  exact hQ h' s.toks v (uH hs) (w.2.mono m) ⟨⟨m.3 _ _ _ p.1.1,p.1.2.mono m⟩,_,CY,(lN q.2.symm).2⟩)
 (λ{k H s A Q E} hh p S hQ=>p.2.elim λi q=>wpAny_pyNext_tuple_end hh q.1 ⟨_,p.1.1,rfl,n,rfl⟩ (iU (aj (aF p.1.2.length.symm) (vp q.2))) λh' hs=>hQ h' s.toks (Ip hs))
 (λ_ p h=>p.2.elim λ_ q=>wpAny_pyIter_tupleiter q.1 h)
theorem yp (m:Nat):((m+1:Nat):Int)-1=(m:Int):=by rw[Int.natCast_succ,kx]
theorem uI {a:Int} {n:Nat}:((List.range (n+1)).map λj=>V.int (a+Int.ofNat j))=V.int a::(List.range n).map λj=>V.int (a+1+Int.ofNat j):=by
 rw[List.range_succ_eq_map,bQ,bF]
 exact congr (congrArg List.cons (congrArg V.int (Int.add_zero a))) (cS λj _=>congrArg V.int ((congrArg (a+ ·) (qH (Int.ofNat j) 1)).trans (Int.add_assoc a 1 _).symm))
theorem Gj:wH c I .none λxs k H h=>∃(a:Int) (n:Nat),IsRangeIter h I a (n:Int) 1∧xs=(List.range n).map λj=>V.int (a+Int.ofNat j):=.mk
 (λp=>p.elim λa p=>p.elim λn q=>⟨_,_,q.1,rfl,by decide,_,rfl⟩)
 (λp f _ m g=>p.elim λa p=>p.elim λn q=>⟨a,n,f _ q.1,q.2⟩)
 (λ{x xs k H s A Q E} _ p S _ hQ=>by
  obtain⟨a,n,it,e⟩:=p
  cases n with
  |zero=>cases e
  |succ n=>
   rw[uI]at e
   cases e
   exact wpAny_pyNext_range_item it (bC.mpr (gV n)) λh' CY hs=>hQ h' _ _ (uH hs) (Fq _ _) ⟨a+1,n,yp n▸CY,rfl⟩)
 (λ{k H s A Q E} hh p S hQ=>by
  obtain⟨a,n,it,e⟩:=p
  cases n with
  |zero=>exact wpAny_pyNext_range_end hh it (Int.le_refl 0) λh' hs=>hQ h' s.toks (Ip hs)
  |succ n=>rw[uI]at e;cases e)
 (λ_ p h=>p.elim λa p=>p.elim λn q=>wpAny_pyIter_rangeiter q.1 h)
theorem zT {P:Prop} {i:Nat} {l:List V} {x:V} {xs:List V} (e:x::xs=(l.take i).reverse) (z:i≤l.length) (k:∀m,i=m+1->m≤l.length->l[m]?=some x->xs=(l.take m).reverse->P):P:=by
 cases i with
 |zero=>cases e
 |succ m=>
  rw[iT z,List.reverse_append]at e
  cases e
  exact k m rfl (cv z) (ao z) rfl
theorem CZ {i:Nat} {l:List V} (e:[]=(l.take i).reverse) (z:i≤l.length):i=0:=by
 have:=congrArg List.length e
 rw[cT,eQ,Nat.min_eq_left z]at this
 exact this.symm
theorem Mm {a:Nat} {l:List V}:wH c I (.list a l) λxs k H h=>H[a]?=some (.list l)∧∃i:Nat,h.IsRevIter I (k.ι a) ((i:Int)-1)∧i≤l.length∧xs=(l.take i).reverse:=.mk
 (λp=>p.2.elim λ_ q=>pE (by decide) q.1)
 (λp f _ m g=>⟨g,p.2.elim λi q=>⟨i,cq (m.2 _ (j0 p.1))▸sW q.1 f,q.2⟩⟩)
 (λ{x xs k H s A Q E} _ p S _ hQ=>p.2.elim λi q=>zT q.2.2 q.2.1 λm em zm e1 e2=>S.kL p.1 λvs n g R=>(R.get e1).elim λv w=>by
  have it:=q.1
  rw[em,yp]at it
  exact wpAny_pyNext_rev_item it ⟨_,g,rfl,n,rfl⟩ ((cC ..).trans w.1) λh' CY hs=>hQ h' s.toks v (uH hs) (w.2.mono (Jx (pE (by decide) it) (uH hs))) ⟨p.1,_,CY,zm,e2⟩)
 (λ{k H s A Q E} hh p S hQ=>p.2.elim λi q=>wpAny_pyNext_rev_end hh (CZ q.2.2 q.2.1▸q.1:s.heap.IsRevIter I (k.ι a) (((0:Nat):Int)-1)) λh' hs=>hQ h' s.toks (Ip hs))
 (λ_ p h=>p.2.elim λ_ q=>wpAny_pyIter_revIter q.1 h)
theorem O4 {t:Addr} {l:List V} {vs:List Value} {n:Nat} (zl:l.length≤SZ):wH c I .none λxs k H h=>(h.get? t=some (ic vs n)∧eH c k H h l vs)∧∃i:Nat,vo h I t ((i:Int)-1)∧i≤l.length∧xs=(l.take i).reverse:=.mk
 (λp=>p.2.elim λ_ q=>pE (by decide) q.1)
 (λp f _ m g=>⟨⟨m.3 _ _ _ p.1.1,p.1.2.mono m⟩,p.2.elim λi q=>⟨i,sW q.1 f,q.2⟩⟩)
 (λ{x xs k H s A Q E} _ p S _ hQ=>p.2.elim λi q=>zT q.2.2 q.2.1 λm em zm e1 e2=>(p.1.2.get e1).elim λv w=>by
  have it:=q.1
  rw[em,yp]at it
  refine Gi it p.1.1 w.1 (aA (p.1.2.length▸zl) (by decide)) λh' t' CY hs=>?_
  have m':=Jx (k:=k) (H:=H) (pE (by decide) it) (uH hs)
  exact hQ h' t' v (uH hs) (w.2.mono m') ⟨⟨m'.3 _ _ _ p.1.1,p.1.2.mono m'⟩,_,CY,zm,e2⟩)
 (λ{k H s A Q E} hh p S hQ=>p.2.elim λi q=>Jw hh (CZ q.2.2 q.2.1▸q.1:vo s.heap I t (((0:Nat):Int)-1)) λh' hs=>hQ h' s.toks (Ip hs))
 (λ_ p h=>p.2.elim λ_ q=>zR q.1 h)
noncomputable def keysOf (es:Array DictEntry):List Value:=es.toList.map (·.key)
theorem C0 {a:Nat} {o:O} {g:Gd} {l:List V} {od:Obj} {es:Array DictEntry} {ep:Nat} (hg:∀H,g.ok H->H[a]?=some o) (ho:o.owned=false) (hd:g.Ca=true) (y:od.data= .dict es ep):
  wH c I g λxs k H h=>(H[a]?=some o∧h.get? (k.ι a)=some od∧eH c k H h l (keysOf es))∧∃i,h.IsKeyIter I (k.ι a) i es.size ep∧xs=l.drop i:=.mk
 (λp=>p.2.elim λ_ q=>pE (by decide) q.1)
 (λ{xs k H h k' H' h'} p f f' m g'=>by
  have e:=m.2 _ (j0 p.1.1)
  exact⟨⟨hg _ g',cq e▸f' _ _ _ p.1.1 ho p.1.2.1,p.1.2.2.mono m⟩,p.2.elim λi q=>⟨i,cq e▸sW q.1 f,q.2⟩⟩)
 (λ{x xs k H s A Q E} hh p S hI hQ=>p.2.elim λi q=>(p.1.2.2.get (lN q.2.symm).1).elim λv w=>by
  obtain⟨en,g2,e3⟩:=aZ.mp (aH.symm.trans w.1)
  refine wG hh q.1 p.1.2.1 y rfl (ny.symm.trans g2) λh' hs CY=>?_
  have m:=Jx (k:=k) (H:=H) (pE (by decide) q.1) (Ip hs)
  exact hQ h' s.toks _ (Ip hs) ((cq e3▸w.2:VR c k H s.heap x en.key).mono m) ⟨⟨p.1.1,hs _ _ (hI.im (j0 p.1.1)) p.1.2.1,p.1.2.2.mono m⟩,_,CY _ rfl,(lN q.2.symm).2⟩)
 (λ{k H s A Q E} hh p S hQ=>p.2.elim λi q=>wG hh q.1 p.1.2.1 y rfl (iU (aj (aF (p.1.2.2.length.trans (ae _)).symm) (vp q.2))) λh' hs _=>hQ h' s.toks (Ip hs))
 (λq=>ff (q.symm.trans hd))
end
end
section
noncomputable def Gd.was (H:Hp):Gd->Prop
 | .none=>True
 | .list a l=>H[a]?=some (.list l)
 | .bc a d=>H[a]?=some (.bc d)
 | .bV a d=>H[a]?=some (.bV d)
noncomputable def Made (c:Cx) (k:Lk) (H:Hp) (s:Shared) (g:Gd) (xs:List V) (Q:Value->Shared->Prop):Prop:=∀s' I,du c k H s k H s'->s.heap.get? I=none->g.was H->i8 c k (g.fz H) s'.heap I g xs->Q (.ref I) s'
noncomputable def sX (c:Cx) (T:Tb) (i:CI) (L:Lc) (H:Hp) (xs:List V) (g:Gd) (H':Hp):Prop:=
 ∀{A:Around} {r:Nat} {env:Env} {nm:List Str} {pe:Expr} {k:Lk} {s:Shared} {Q:Value->Shared->Prop} {E:Value->Shared->Prop},St c A r k H s env nm L->LT T r env.scope nm i pe=true->
  (∀k1 s1,du c k H s k1 H' s1->Made c k1 H' s1 g xs Q)->wpAny (Md c) A (eval pe env) (λx s₁=>wpAny (Md c) A (pyIter x) Q E s₁) E s
section
variable {c:Cx} {T:Tb} {L:Lc} {H H1:Hp} {h h':Heap} {e:CE} {v:V} {k:Lk} {s:Shared} {A:Around} {E:Value->Shared->Prop} {g:Gd} {xs:List V} {Q:Value->Shared->Prop}
theorem wI {dd:Addr} {ep:Nat} {od:Obj} {es:Array DictEntry} (hd:(dd==sysModules)=false) (ho:s.heap.get? dd=some od) (hc:od.ExactDict) (Mn:od.data= .dict es ep)
  (hQ:Q (.ref s.heap.objs.size) {s with heap:=s.heap.push {cls:=.type "dict_keyiterator",data:=.fields #[.ref dd,.int 0 0,.int es.size 0,.int ep 0]}}):wpAny (Md c) A (pyIter (.ref dd)) Q E s:=by
 have hT:s.TypeIs (.ref dd) "dict":=⟨od,ho,hc.1⟩
 refine wpAny_pyIter_slot hT F.slot_dict_iter (wpAny_call_entry F.slot_dict_iter hT F.entry_dict_iter ?_ (F.args_dict_iter_1 _))
 unfold Builtin.«dict.__iter__»
 refine wpAny_bind ?_
 unfold Builtin.Dict.dictSlotNone
 refine wpAny_bind (wpAny_notOrdered_dict hT ?_)
 show wpAny _ _ (pure (Value.ref dd)) _ _ s
 refine wpAny_pure ?_
 show wpAny _ _ (Builtin.Dict.showsAll dd>>=_) _ _ s
 unfold Builtin.Dict.showsAll
 rw[if_neg (by rw[hd];exact cA)]
 refine wpAny_bind (wpAny_pure (wpAny_bind (wpAny_dictEntries ho Mn (wpAny_bind (wpAny_dictEpoch ho Mn ?_)))))
 exact wpAny_bind (wpAny_newObj_type (wpAny_pure ⟨_,rfl,"dict_keyiterator",_,⟨_,Heap.get?_push_size _ rfl,rfl⟩,F.slot_dict_keyiterator_next.lookup,hQ⟩))
theorem Made.at {o:Obj} {t:Nat} {P:List V->Lk->Hp->Heap->Prop} (M:Made c k H s g xs Q) (S:dw c k H s.heap) (w:g.was H) (I:wH c s.heap.objs.size g P) (p:P xs k (g.fz H) (s.heap.push o)):Q (.ref s.heap.objs.size) {s with heap:=s.heap.push o,toks:=t}:=
 M {s with heap:=s.heap.push o,toks:=t} _ (du.zG S o t) (ip _) w ⟨P,p,I⟩
theorem intKeys {es:List DictEntry} {kvs:List (Int×Value)} (p:Pairs (ik c) es kvs):eH c k H h (de (kvs.map (·.1))) (es.map (·.key)):=by
 induction p with
 |nil=>exact rfl
 |cons q _ _ ih=>exact .cons (Value.isInt_shape q) ih
theorem C7 {l:List Int} {vs:List Value} (A:ItemsAre (ik c) l vs):eH c k H h (de l) vs:=by
 induction A with
 |nil=>exact rfl
 |cons q _ ih=>exact .cons (Value.isInt_shape q) ih
theorem Gk {xs:List (List Int×Addr×Value)} (h1:∀x∈xs,(tupleKind (ik c)).is h x.1 x.2.1) (h2:∀x∈xs,∃vs e,h.get? x.2.1=some (ic vs e)):
  eH c k H h (xs.map λx=>.tup (de x.1)) ((xs.map (entryOfKey (tupleKind (ik c)))).map (·.key)):=by
 induction xs with
 |nil=>exact rfl
 |cons x xs ih=>
  refine .cons ?_ (ih (λy hy=>h1 y (aL _ hy)) λy hy=>h2 y (aL _ hy))
  obtain⟨vs,e,q⟩:=h2 x aP
  obtain⟨o,its,n,g,_,hd,A⟩:=h1 x aP
  cases q.symm.trans g
  cases hd
  exact OP q (C7 A)
end
noncomputable def SrcR (H:Hp) (x:V) (xs:List V) (g:Gd):Prop:=∀(c:Cx) (k:Lk) (s:Shared) (A:Around) (va:Value) (Q:Value->Shared->Prop) (E:Value->Shared->Prop),dw c k H s.heap->VR c k H s.heap x va->Made c k H s g xs Q->wpAny (Md c) A (pyIter va) Q E s
section
variable {H:Hp}
theorem SrcR.tup {l:List V}:SrcR H (.tup l) l .none:=λc k s A va Q E S ra M=>by
 apply ra.kT λa vs e g R=>?_
 exact wpAny_pyIter_tuple (items:=vs.toArray) ⟨_,g,rfl,_,rfl⟩ (M.at (t:=s.toks) S trivial Ml ⟨⟨Heap.get?_push_of_some _ g,R.mono (.keep λ_ _=>Heap.get?_push_of_some _)⟩,0,⟨_,Heap.get?_push_size _ rfl,rfl,rfl⟩,rfl⟩)
theorem SrcR.list {a:Nat} {l:List V} (o:H[a]?=some (.list l)):SrcR H (.ref a) l (.list a l):=λc k s A va Q E S ra M=>by
 apply ra.kR λ_=>?_
 refine S.kL o λvs e g R=>?_
 exact wpAny_pyIter_list (items:=vs.toArray) ⟨_,g,rfl,_,rfl⟩ (M.at (t:=s.toks) S o Jy ⟨o,0,⟨_,Heap.get?_push_size _ rfl,rfl,rfl⟩,rfl⟩)
theorem SrcR.bc {a:Nat} {d:List (Int×V)} (o:H[a]?=some (.bc d)):SrcR H (.ref a) (de (d.map (·.1))) (.bc a d):=λc k s A va Q E S ra M=>by
 apply ra.kR λ_=>?_
 obtain⟨kvs,⟨od,es,ep,g1,hc,hd,hk,hp,hn⟩,P⟩:=S.2 _ _ o
 rw[sk P]at M
 exact wI (S.noSys o rfl) g1 hc hd (M.at (t:=s.toks) S o (C0 (g:=.bc a d) (λ_ e=>e) rfl rfl hd) ⟨⟨a8 (j0 o),Heap.get?_push_of_some _ g1,intKeys hp⟩,0,⟨_,Heap.get?_push_size _ rfl,rfl,rfl⟩,rfl⟩)
theorem SrcR.bV {a:Nat} {d:List (List Int×V)} (o:H[a]?=some (.bV d)):SrcR H (.ref a) (d.map λp=>.tup (de p.1)) (.bV a d):=λc k s A va Q E S ra M=>by
 apply ra.kR λ_=>?_
 obtain⟨ys,⟨od,es,ep,g1,hc,hd,he,hk,hn⟩,ht,P⟩:=S.2 _ _ o
 have e1:(d.map λp=>V.tup (de p.1))=ys.map λx=>V.tup (de x.1):=by
  have:=congrArg (List.map λq=>V.tup (de q)) (sk P)
  rw[bF,bF,bF]at this
  exact this
 rw[e1]at M
 have R:eH c k (H.set a (.ft d)) (s.heap.push {cls:=.type "dict_keyiterator",data:=.fields #[.ref (k.ι a),.int 0 0,.int es.size 0,.int ep 0]}) (ys.map λx=>V.tup (de x.1)) (keysOf es):=by
  unfold keysOf
  rw[he]
  refine Gk (λx hx=>?_) λx hx=>?_
  ·obtain⟨vs,n,q⟩:=ht x hx;exact rF (hk x hx) q (Heap.get?_push_of_some _ q)
  ·obtain⟨vs,n,q⟩:=ht x hx;exact⟨vs,n,Heap.get?_push_of_some _ q⟩
 exact wI (S.noSys o rfl) g1 hc hd (M.at (t:=s.toks) S o (C0 (g:=.bV a d) (λ_ e=>e) rfl rfl hd) ⟨⟨a8 (j0 o),Heap.get?_push_of_some _ g1,R⟩,0,⟨_,Heap.get?_push_size _ rfl,rfl,rfl⟩,rfl⟩)
end
noncomputable def AZ (H:Hp) (x:V) (xs:List V) (g:Gd):Prop:=∀(c:Cx) (k:Lk) (s:Shared) (A:Around) (va:Value) (Q:Value->Shared->Prop) (E:Value->Shared->Prop),dw c k H s.heap->VR c k H s.heap x va->xs.length≤SZ->Made c k H s g xs Q->wpAny (Md c) A (call (.type "reversed") [va]) (λx s₁=>wpAny (Md c) A (pyIter x) Q E s₁) E s
section
variable {H:Hp}
theorem AZ.list {a:Nat} {l:List V} (o:H[a]?=some (.list l)):AZ H (.ref a) l.reverse (.list a l):=λc k s A va Q E S ra z M=>by
 apply ra.kR λ_=>?_
 refine S.kL o λvs e g R=>?_
 refine call_reversed_list (items:=vs.toArray) ⟨_,g,rfl,_,rfl⟩ ?_
 have it:(s.heap.push (revObj (k.ι a) ((vs.toArray.size:Int)-1))).IsRevIter s.heap.objs.size (k.ι a) ((l.length:Int)-1):=⟨_,Heap.get?_push_size _ rfl,rfl,by rw[R.length];rfl⟩
 exact wpAny_pyIter_revIter it (M.at (t:=s.toks) S o Mm ⟨o,_,it,aC _,by rw[aR]⟩)
theorem AZ.tup {l:List V}:AZ H (.tup l) l.reverse .none:=λc k s A va Q E S ra z M=>by
 apply ra.kT λa vs e g R=>?_
 rw[cT]at z
 refine oX g (aA (R.length▸z) (by decide)) λt=>?_
 have it:vo (s.heap.push (Mj a ((vs.length:Int)-1))) s.heap.objs.size a ((l.length:Int)-1):=⟨_,Heap.get?_push_size _ rfl,rfl,by rw[R.length];rfl⟩
 exact zR (s:={s with heap:=s.heap.push (Mj a ((vs.length:Int)-1)),toks:=t}) it (M.at S trivial (O4 z) ⟨⟨Heap.get?_push_of_some _ g,R.mono (.keep λ_ _=>Heap.get?_push_of_some _)⟩,_,it,aC _,by rw[aR]⟩)
variable {c:Cx} {T:Tb} {L:Lc} {H1:Hp} {e:CE} {v:V} {g:Gd} {xs:List V}
theorem Gm (x:b9 c T e L H v H1) (R:SrcR H1 v xs g) (z:xs.length≤SZ):sX c T (.ex e) L H xs g H1:=λS ok h=>x S (cI ok).2 λk1 s1 v1 T1 R1=>R _ _ _ _ _ _ _ T1.1 R1 (h _ _ T1)
theorem C8 (TO:nK c T) (x:b9 c T e L H v H1) (R:AZ H1 v xs g) (z:xs.length≤SZ):sX c T (.rev e) L H xs g H1:=by
 intro A r env nm pe k s Q E S ok h
 apply Ci ok λq w pos hg hw o=>?_
 exact yi (f:=.type "reversed") TO (by decide) (by decide+kernel) L8 S hg hw (x S o λk1 s1 v1 T1 R1=>R _ _ _ _ _ _ _ T1.1 R1 z (h _ _ T1))
theorem zU:∀n:Nat,Builtin.Range.rangeSize 0 n 1=n
 |0=>rfl
 |n+1=>by
  unfold Builtin.Range.rangeSize
  rw[if_pos (by decide),if_pos (show(0:Int)<((n+1:Nat):Int) from bC.mpr (gV n)),qJ,Int.ediv_one,Int.sub_add_cancel]
theorem yq {n:Nat} (z:n≤2^24):Builtin.Range.small 0 n 1=true:=by
 unfold Builtin.Range.small
 simp only[zU]
 simp[Builtin.Range.rangeFitsLong]
 omega
theorem yr {n:Nat} (TO:nK c T) (x:b9 c T e L H (.int n) H1) (z:n≤SZ):sX c T (.range e) L H (de ((List.range n).map Int.ofNat)) .none H1:=by
 intro A r env nm pe k s Q E S ok h
 apply Ci ok λq w pos hg hw o=>?_
 refine yi (f:=.type "range") TO (by decide) (by decide+kernel) L8 S hg hw (x S o λk1 s1 v1 T1 R1=>?_)
 apply R1.kI λt=>?_
 refine call_range_1 ?_
 refine wpAny_pyIter_range (a:=0) (b:=n) (c:=1) (Heap.get?_push_size _ rfl) (yq z) ?_
 have W:=du.zG T1.1 {cls:=.type "range",data:=.fields #[.int 0 s1.toks,.int n t,.int 1 (s1.toks+1)]} (s1.toks+1+1)
 have e2:de ((List.range n).map Int.ofNat)=(List.range n).map λj=>V.int (0+Int.ofNat j):=by
  unfold de
  rw[bF]
  exact cS λj _=>congrArg V.int (Int.zero_add _).symm
 have M:=h _ _ (T1.trans W)
 rw[e2]at M
 exact M.at (t:=s1.toks+1+1) W.1 trivial Gj ⟨0,n,by rw[zU];exact Heap.get?_push_size _ rfl,rfl⟩
end
end
section
noncomputable def Own (env:Env) (b:Addr):Prop:=b=env.locals∨∃n,env.kindOf n=some .cell∧env.cells.lookup n=some b
abbrev wJ (c:Cx) (env:Env) (k:Lk) (H:Hp) (s:Shared) (k':Lk) (H':Hp) (s':Shared):Prop:=cX c (Own env) k H s k' H' s'
section
variable {c:Cx} {L L':Lc} {H H':Hp} {h h':Heap} {v:V} {k k':Lk} {s s':Shared} {A:Around} {E:Value->Shared->Prop} {env:Env} {nm:List Str} {X Y:Addr->Prop} {a b:Addr} {r i:Nat}
theorem Own.K_ (x:Own env b):B2 env b:=x.imp id fun⟨n,z⟩=>⟨n,z.2⟩
theorem Loc.own (x:Loc c k H h env nm L) (z:Own env b):ud k H h b:=x.3 b z.K_
theorem cX.up (x:cX c X k H s k' H' s') (i:∀b o,X b->s.heap.get? b=some o->Y b) (n:∀b,Y b->¬Oo k H b):cX c Y k H s k' H' s':=⟨x.1,x.2.mono i n,x.3⟩
theorem du.p (x:du c k H s k' H' s') (n:∀b,X b->ud k H s.heap b):cX c X k H s k' H' s':=x.up (λ_ _ z _=>z.elim) λb z=>(n b z).1.ow
theorem du.x (x:du c k H s k' H' s') (L0:Loc c k H s.heap env nm L):wJ c env k H s k' H' s':=x.p λ_=>L0.own
theorem cX.Iq (x:cX c X k H s k' H' s') (i:∀b o,X b->s.heap.get? b=some o->False):du c k H s k' H' s':=x.up i λ_ z=>z.elim
theorem cX.mv (x:cX c X k H s k' H' s') (S:dw c k H s.heap) (n:∀b,X b->ud k H s.heap b):Mw k H s.heap k' H' s'.heap:=x.2.mv S λa vs e z q=>(n a z).2.elim λo y=>y.2 _ _ (ax (y.1.symm.trans q))
theorem wJ.mv (x:wJ c env k H s k' H' s') (S:dw c k H s.heap) (L0:Loc c k H s.heap env nm L):Mw k H s.heap k' H' s'.heap:=cX.mv x S λ_=>L0.own
theorem St.O5 (S:St c A r k H s env nm L) (W:wJ c env k H s k' H' s') (X:Loc c k' H' s'.heap env nm L'):St c A r k' H' s' env nm L':=⟨S.1,W.1,X⟩
theorem dw.wK (S:dw c k H h) (n:nJ k H b) (f:∃o,h.get? b=some o∧iR o) (hh:c.hb.get? b=none) (e:mT b h h'):dw c k H h':=
 S.Cb (X:=λa=>a=b) (λa z=>cq z▸⟨n,hh⟩) (λa vs n z q=>f.elim λo y=>y.2 _ _ (ax (y.1.symm.trans (z▸q)))) e
theorem cX.wK {t:Nat} (S:dw c k H s.heap) (f:ud k H s.heap b) (hh:c.hb.get? b=none) (e:mT b s.heap h') (lv:∃o,h'.get? b=some o∧iR o):cX c (λa=>a=b) k H s k H {s with heap:=h',toks:=t}:=
 ⟨S.wK f.1 f.2 hh e,.keeps e (λa o z _=>lv.elim λo y=>⟨o,cq z▸y.1,λ_=>y.2⟩),rfl⟩
theorem cX.tail {t:Nat} (W:cX c X k H s k' H' s') (f:s.heap.get? b=none) (S:dw c k' H' h') (e:mT b s'.heap h'):cX c X k H s k' H' {s' with heap:=h',toks:=t}:=by
 have ne:∀{a o},s.heap.get? a=some o->a≠b:=λq z=>cW f (z▸q)
 exact⟨S,⟨W.2.1,W.2.2,λa o g n q=>e _ _ (ne q) (W.2.3 a o g n q),W.2.4,W.2.5,W.2.6,λa o z q=>(W.2.7 a o z q).elim λo' y=>⟨o',e _ _ (ne q) y.1,y.2⟩⟩,W.3.trans rfl⟩
theorem C9 {m:Str->Option Value} (x:h.Ns b m):∃o,h.get? b=some o∧iR o:=by obtain⟨o,es,ep,q,d,_⟩:=x;exact⟨o,q,mw d⟩
theorem C_ {m:Option Value} (x:h.IsCell b m):∃o,h.get? b=some o∧iR o:=by obtain⟨o,q,d⟩:=x;exact⟨o,q,sL d⟩
theorem Loc.other {P:Prop} {j:Nat} {n x:Str} {y:V} (L0:Loc c k H h env nm L) (hx:nm[i]?=some x) (hn:nm[j]?=some n) (hl:(L.set i (some v))[j]?=some (some y)) (f:n=x->y=v->P) (g:n≠x->L[j]?=some (some y)->P):P:=by
 by_cases q:j=i
 ·subst q
  rw[a8 (L0.2▸j0 hx)]at hl
  cases hl
  exact f (ax (hn.symm.trans hx)) rfl
 ·rw[a9 (dU q)]at hl
  exact g (λz=>q (vj L0.1.4 (z▸hn) hx)) hl
theorem qi {α:Type} {x y:α} {o:Option α} (h:o=some x∨o=some y) {z:α} (q:o=some z) (n:z≠x) (m:z≠y):False:=h.elim (λe=>n (ax (q.symm.trans e))) λe=>m (ax (q.symm.trans e))
theorem Loc.Da {x:Str} {v':Value} {Q:Unit->Shared->Prop} (S:dw c k H s.heap) (L0:Loc c k H s.heap env nm L) (hx:nm[i]?=some x) (hk:env.scope.names.lookup x=some .local∨env.scope.names.lookup x=some .cell)
  (rv:VR c k H s.heap v v') (h:∀b s',Own env b->(env.kindOf x=some .local->b=env.locals)->cX c (λa=>a=b) k H s k H s'->Loc c k H s'.heap env nm (L.set i (some v))->Q () s'):wpAny (Md c) A (storeName env x v') Q E s:=by
 obtain⟨m,ns,z⟩:=L0.4
 have go:∀{b:Addr} {h':Heap} {t:Nat},Own env b->(env.kindOf x=some .local->b=env.locals)->c.hb.get? b=none->mT b s.heap h'->(∃o,h'.get? b=some o∧iR o)->
   (Mw k H s.heap k H h'->(∃m,h'.Ns env.locals m∧∀(j:Nat) n y,nm[j]?=some n->(L.set i (some v))[j]?=some (some y)->env.kindOf n=some .local->∃w,m n=some w∧VR c k H h' y w)∧
    ∀(j:Nat) n a ov,nm[j]?=some n->(env.kindOf n=some .cell∨env.kindOf n=some .free)->env.cells.lookup n=some a->s.heap.IsCell a ov->(∀y,L[j]?=some (some y)->∃w,ov=some w∧VR c k H s.heap y w)->∃ov,h'.IsCell a ov∧∀y,(L.set i (some v))[j]?=some (some y)->∃w,ov=some w∧VR c k H h' y w)->Q () {s with heap:=h',toks:=t}:=by
  intro b h' t ob lb hb oi lv f
  have W:=cX.wK (t:=t) S (L0.own ob) hb oi lv
  obtain⟨f1,f2⟩:=f (W.mv S λ_ z=>cq z▸L0.own ob)
  exact h b _ ob lb W ⟨L0.1,(aU).trans L0.2,λa p=>(L0.3 a p).Fs W.2,f1,λj n hn hk=>(L0.5 j n hn hk).elim λa y=>y.elim λov y=>(f2 j n a ov hn hk y.1 y.2.1 y.2.2).elim λov z=>⟨a,ov,y.1,z⟩⟩
 rcases hk with hk|hk
 ·refine wpAny_storeName_local hk ns (λh' O0 hs=>go (.inl rfl) (λ_=>rfl) L0.1.5 (uH hs) (C9 O0) λmv=>⟨⟨_,O0,λj n y hn hl Jz=>L0.other hx hn hl (λe e'=>⟨v',if_pos e,cq e'▸rv.mono mv⟩) λne hl=>?_⟩,λj n a ov hn Jz p g w=>⟨ov,?_,λy hl=>?_⟩⟩) (by rw[L0.1.1];rfl)
  ·obtain⟨w,p,Jj⟩:=z j n y hn hl Jz
   exact⟨w,(if_neg ne).trans p,Jj.mono mv⟩
  ·exact qc g λo=>uH hs _ _ λe=>L0.1.8 n (e▸p)
  ·exact L0.other hx hn hl (λe _=>(qi Jz (cq e▸hk:env.kindOf n=some .local) (λe=>NameKind.noConfusion e) λe=>NameKind.noConfusion e).elim) λ_ hl=>(w y hl).elim λw q=>⟨w,q.1,q.2.mono mv⟩
 ·obtain⟨a,ov,p,g,_⟩:=L0.5 i x hx (.inl hk)
  refine wpAny_storeName_cell L0.1.1 hk p g λh' g' hs=>go (t:=s.toks) (.inr ⟨x,hk,p⟩) (λz=>NameKind.noConfusion (ax (z.symm.trans hk))) (L0.1.6 _ _ hk p) (uH hs) (C_ g') λmv=>⟨⟨m,ns.sameBut hs (λq=>L0.1.8 x (q▸p)),λj n y hn hl Jz=>?_⟩,λj n b ov hn Jz q g2 w=>?_⟩
  ·exact L0.other hx hn hl (λe _=>NameKind.noConfusion (ax ((e▸Jz:env.kindOf x=some .local).symm.trans hk))) λ_ hl=>(z j n y hn hl Jz).elim λw q=>⟨w,q.1,q.2.mono mv⟩
  ·by_cases ne:n=x
   ·cases ne
    cases p.symm.trans q
    exact⟨some v',g',λy hl=>L0.other hx hn hl (λ_ e'=>⟨v',rfl,cq e'▸rv.mono mv⟩) λq _=>absurd rfl q⟩
   ·exact⟨ov,qc g2 λo=>uH hs _ _ λe=>ne (L0.1.7 _ _ _ q (e▸p)),λy hl=>L0.other hx hn hl (λe _=>absurd e ne) λ_ hl=>(w y hl).elim λw q=>⟨w,q.1,q.2.mono mv⟩⟩
theorem Loc.store {x:Str} {v':Value} {Q:Unit->Shared->Prop} (S:dw c k H s.heap) (L0:Loc c k H s.heap env nm L) (hx:nm[i]?=some x) (hk:env.scope.names.lookup x=some .local∨env.scope.names.lookup x=some .cell)
  (rv:VR c k H s.heap v v') (h:∀s',wJ c env k H s k H s'->Loc c k H s'.heap env nm (L.set i (some v))->Q () s'):wpAny (Md c) A (storeName env x v') Q E s:=
 L0.Da S hx hk rv λb s' o _ W=>h s' (W.up (λ_ _ z _=>cq z▸o) λ_ q=>(L0.own q).1.ow)
end
end
section
section
variable {c:Cx} {T:Tb} {A:Around} {R:Result->Shared->Prop} {s:Shared} {env:Env}
abbrev Nt (c:Cx) (A:Around) (env:Env) (R:Result->Shared->Prop):Value->Shared->Prop:=notedBy (Md c) A env λe s'=>R (.error e) s'
noncomputable def CQ (c:Cx) (A:Around) (env:Env) (elt target iter:Expr) (ifs:List Expr) (scope:Scope) (pos:Pos) (it acc:Value) (R:Result->Shared->Prop):Bool->Shared->Prop:=λok s₃=>
 if ok=true then wpAny (Md c) A (eval elt env) (λx s₄=>
  wpAny (Md c) A (call (.builtin "list.append") [acc,x]) (λ_ s₅=>codeAny (Md c) A (.compLoop (.ListComp elt [⟨target,iter,ifs,0⟩] scope pos) 0 it acc env) R s₅) (Nt c A env R) s₄) (Nt c A env R) s₃
 else codeAny (Md c) A (.compLoop (.ListComp elt [⟨target,iter,ifs,0⟩] scope pos) 0 it acc env) R s₃
noncomputable def CQ1 (c:Cx) (A:Around) (env:Env) (target:Expr) (it:Value) (ifs:List Expr) (N:Shared->Prop) (Q:Bool->Shared->Prop) (E:Value->Shared->Prop):Option Value->Shared->Prop
 |none,s₁=>N s₁
 |some v,s₁=>wpAny (Md c) A (letOwnedTupleGo target it v) (λ_ wL=>wpAny (Md c) A (assign target env v) (λ_ s₂=>
   wpAny (Md c) A (forIn ifs true λc r=>if r=true then do let ok ←isTrue c env (eval c env);pure (ForInStep.yield ok)else pure (ForInStep.yield r)) Q E s₂) E wL) E s₁
theorem sY {elt target iter:Expr} {ifs:List Expr} {scope:Scope} {pos:Pos} {it acc:Value}
  (h:wpAny (Md c) A (pyNext it) (CQ1 c A env target it ifs (R (.ok .next)) (CQ c A env elt target iter ifs scope pos it acc R) (Nt c A env R)) (Nt c A env R) s):
  codeAny (Md c) A (.compLoop (.ListComp elt [⟨target,iter,ifs,0⟩] scope pos) 0 it acc env) R s:=by
 refine codeAny_of_tree ?_
 show wpAny _ A ((compTurn (.ListComp elt [⟨target,iter,ifs,0⟩] scope pos) 0 it acc env).onRaise (λx=>do noteFrame x env;theTreesLotGoes x)) _ _ s
 refine wpAny_noted ?_
 rw[compTurn_list]
 refine wpAny_bind (wpAny_standAt (wpAny_bind (wpAny_mono h (λq s₁ h₁=>?_) λ_ _ h'=>h')))
 cases q with
 |none=>exact wpAny_pure h₁
 |some v=>
  refine wpAny_bind (wpAny_mono h₁ (λ_ wL Db=>?_) λ_ _ h'=>h')
  refine wpAny_bind (wpAny_mono Db (λ_ s₂ h₂=>wpAny_bind (wpAny_mono h₂ (λok s₃ h₃=>?_) λ_ _ h'=>h')) λ_ _ h'=>h')
  cases ok with
  |false=>exact wpAny_pure ⟨rfl,h₃⟩
  |true=>
   exact wpAny_bind (wpAny_bind (wpAny_mono h₃ (λx s₄ h₄=>wpAny_bind (wpAny_mono h₄ (λ_ s₅ h₅=>wpAny_pure (wpAny_pure ⟨rfl,h₅⟩)) λ_ _ h'=>h')) λ_ _ h'=>h'))
noncomputable def FQ (c:Cx) (A:Around) (env:Env) (target:Expr) (it:Value) (body:List Stmt) (R:Result->Shared->Prop):Flow->Shared->Prop
 | .next,s₃| .cont,s₃=>codeAny (Md c) A (.forLoop target it body [] env) R s₃
 | .brk,s₃=>R (.ok .next) s₃
 | .ret v,s₃=>R (.ok (.ret v)) s₃
noncomputable def FQ1 (c:Cx) (A:Around) (env:Env) (target:Expr) (it:Value) (body:List Stmt) (N:Shared->Prop) (Q:Flow->Shared->Prop) (E:Value->Shared->Prop):Option Value->Shared->Prop
 |none,s₁=>N s₁
 |some v,s₁=>wpAny (Md c) A (letOwnedTupleGo target it v) (λ_ wL=>wpAny (Md c) A (assign target env v) (λ_ s₂=>wpAny (Md c) A (execs body env) Q E s₂) E wL) E s₁
theorem vq {target:Expr} {it:Value} {body:List Stmt}
  (h:wpAny (Md c) A (pyNext it) (FQ1 c A env target it body (R (.ok .next)) (FQ c A env target it body R) (Nt c A env R)) (Nt c A env R) s):
  codeAny (Md c) A (.forLoop target it body [] env) R s:=by
 refine codeAny_of_tree ?_
 show wpAny _ A ((forTurn target it body [] env).onRaise (λx=>do noteFrame x env;theTreesLotGoes x)) _ _ s
 refine wpAny_noted ?_
 unfold forTurn
 refine wpAny_bind (wpAny_standAt (wpAny_bind (wpAny_onRaise (wpAny_mono h (λq s₁ h₁=>?_) λ_ _ h'=>wpAny_standAt h'))))
 cases q with
 |none=>exact wpAny_pure ⟨rfl,codeAny_block (wpAny_execs_nil h₁)⟩
 |some v=>
  refine wpAny_bind (wpAny_mono h₁ (λ_ wL Db=>?_) λ_ _ h'=>h')
  refine wpAny_bind (wpAny_mono Db (λ_ s₂ h₂=>wpAny_bind (wpAny_mono h₂ (λf s₃ h₃=>?_) λ_ _ h'=>h')) λ_ _ h'=>h')
  cases f with
  |next=>exact wpAny_pure ⟨rfl,h₃⟩
  |cont=>exact wpAny_pure ⟨rfl,h₃⟩
  |brk=>exact wpAny_pure h₃
  |ret v=>exact wpAny_pure h₃
theorem qX {test:Expr} {body:List Stmt}
  (h:wpAny (Md c) A (isTrue test env (eval test env)) (λb s₂=>
    if b then wpAny (Md c) A (execs body env) (λf s₃=>match f with
      | .next| .cont=>codeAny (Md c) A (.whileLoop test body [] env) R s₃
      | .brk=>R (.ok .next) s₃
      | .ret v=>R (.ok (.ret v)) s₃) (Nt c A env R) s₂
    else R (.ok .next) s₂) (Nt c A env R) s):
  codeAny (Md c) A (.whileLoop test body [] env) R s:=by
 refine codeAny_of_tree ?_
 show wpAny _ A ((whileTurn test body [] env).onRaise (λx=>do noteFrame x env;theTreesLotGoes x)) _ _ s
 refine wpAny_noted ?_
 unfold whileTurn
 refine wpAny_bind (wpAny_mono h (λb s₂ h₂=>?_) λ_ _ h'=>h')
 cases b with
 |false=>exact wpAny_bind (wpAny_execs_nil (wpAny_pure h₂))
 |true=>
  refine wpAny_bind (wpAny_mono h₂ (λf s₃ h₃=>?_) λ_ _ h'=>h')
  cases f with
  |next=>exact wpAny_pure ⟨rfl,h₃⟩
  |cont=>exact wpAny_pure ⟨rfl,h₃⟩
  |brk=>exact wpAny_pure h₃
  |ret v=>exact wpAny_pure h₃
end
end
section
noncomputable def Dc (f:Str->Pos->Str->Pos->Bool):=Ja λl=>w2 (λa b=>pick (λx p=>pick (λy q=>f x p y q) z4 z3 z4 z3 z4 z2 z3 z3 z4 z3 z4 z3 z4 z3 b) z4 z3 z4 z3 z4 z2 z3 z3 z4 z3 z4 z3 z4 z3 a) l
theorem yt {P:Expr->Prop} {e:Expr} {f} (h:Dc f e=true) (k:∀x p y q n r,f x p y q=true->P (.Tuple [.Name x p,.Name y q] n r)):P e:=
 Cf h λl n r h=>K6 (P:=λl=>P (.Tuple l n r)) h λa b h=>dC (P:=λa=>P (.Tuple [a,b] n r)) h (λx p h=>dC (P:=λb=>P (.Tuple [.Name x p,b] n r)) h (λy q h=>k x p y q n r h) Z4 Z3 Z4 Z3 Z4 Z2 Z3 Z3 Z4 Z3 Z4 Z3 Z4 Z3) Z4 Z3 Z4 Z3 Z4 Z2 Z3 Z3 Z4 Z3 Z4 Z3 Z4 Z3
noncomputable def rI (x:Expr->Bool) (a:Expr->Expr->Pos->Bool) (i:Expr->List Stmt->List Stmt->Bool) (w:Expr->List Stmt->Bool) (f:Expr->Expr->List Stmt->Bool) (r:Expr->Bool) (c:Bool):Stmt->Bool
 | .Expr e _=>x e
 | .Assign l e p=>w1 (λt=>a t e p) l
 | .If e l m _=>i e l m
 | .While e l m _=>m.isEmpty&&w e l
 | .For t e l m _=>m.isEmpty&&f t e l
 | .Return e _=>uc r e
 | .Continue _=>c
 |_=>false
theorem pL {P:Stmt->Prop} {x a i w f r c}:∀{s},rI x a i w f r c s=true->(∀e p,x e=true->P (.Expr e p))->(∀t e p,a t e p=true->P (.Assign [t] e p))->(∀e l m p,i e l m=true->P (.If e l m p))->(∀e l p,w e l=true->P (.While e l [] p))->
  (∀t e l p,f t e l=true->P (.For t e l [] p))->(∀e p,r e=true->P (.Return (some e) p))->(∀p,c=true->P (.Continue p))->P s:=by
 intro s h x a i w f r c
 cases s<;>first|exact ff h|exact x _ _ h|exact K5 (P:=λl=>P (.Assign l _ _)) h λt=>a t _ _|exact i _ _ _ _ h|exact sO (P:=λm=>P (.While _ _ m _)) (cI h).1 (w _ _ _ (cI h).2)|exact sO (P:=λm=>P (.For _ _ _ m _)) (cI h).1 (f _ _ _ _ (cI h).2)|exact zp (P:=λe=>P (.Return e _)) h λe=>r e _|exact c _ h
section
variable {P:Stmt->Prop} {s:Stmt}
noncomputable def JB (f:Expr->Bool):=rI f z3 z3 z2 z3 (λ_=>false) false
theorem Ir {f} (h:JB f s=true) (k:∀e p,f e=true->P (.Expr e p)):P s:=pL h k (λ_ _ _ h=>ff h) (λ_ _ _ _ h=>ff h) (λ_ _ _ h=>ff h) (λ_ _ _ _ h=>ff h) (λ_ _ h=>ff h) λ_ h=>ff h
noncomputable def Gp (f:Expr->Expr->Bool):=rI (λ_=>false) (λt e _=>f t e) z3 z2 z3 (λ_=>false) false
theorem Dd {f} (h:Gp f s=true) (k:∀t e p,f t e=true->P (.Assign [t] e p)):P s:=pL h (λ_ _ h=>ff h) k (λ_ _ _ _ h=>ff h) (λ_ _ _ h=>ff h) (λ_ _ _ _ h=>ff h) (λ_ _ h=>ff h) λ_ h=>ff h
noncomputable def Mo (f:Expr->List Stmt->List Stmt->Bool):=rI (λ_=>false) z3 f z2 z3 (λ_=>false) false
theorem Mp {f} (h:Mo f s=true) (k:∀e l m p,f e l m=true->P (.If e l m p)):P s:=pL h (λ_ _ h=>ff h) (λ_ _ _ h=>ff h) k (λ_ _ _ h=>ff h) (λ_ _ _ _ h=>ff h) (λ_ _ h=>ff h) λ_ h=>ff h
noncomputable def Mq (f:Expr->List Stmt->Bool):=rI (λ_=>false) z3 z3 f z3 (λ_=>false) false
theorem Mr {f} (h:Mq f s=true) (k:∀e l p,f e l=true->P (.While e l [] p)):P s:=pL h (λ_ _ h=>ff h) (λ_ _ _ h=>ff h) (λ_ _ _ _ h=>ff h) k (λ_ _ _ _ h=>ff h) (λ_ _ h=>ff h) λ_ h=>ff h
noncomputable def Ms (f:Expr->Expr->List Stmt->Bool):=rI (λ_=>false) z3 z3 z2 f (λ_=>false) false
theorem Mt {f} (h:Ms f s=true) (k:∀t e l p,f t e l=true->P (.For t e l [] p)):P s:=pL h (λ_ _ h=>ff h) (λ_ _ _ h=>ff h) (λ_ _ _ _ h=>ff h) (λ_ _ _ h=>ff h) k (λ_ _ h=>ff h) λ_ h=>ff h
noncomputable def Mu (f:Expr->Bool):=rI (λ_=>false) z3 z3 z2 z3 f false
theorem Mx {f} (h:Mu f s=true) (k:∀e p,f e=true->P (.Return (some e) p)):P s:=pL h (λ_ _ h=>ff h) (λ_ _ _ h=>ff h) (λ_ _ _ _ h=>ff h) (λ_ _ _ h=>ff h) (λ_ _ _ _ h=>ff h) k λ_ h=>ff h
noncomputable def My:=rI (λ_=>false) z3 z3 z2 z3 (λ_=>false) true
theorem Mz (h:My s=true) (k:∀p,P (.Continue p)):P s:=pL h (λ_ _ h=>ff h) (λ_ _ _ h=>ff h) (λ_ _ _ _ h=>ff h) (λ_ _ _ h=>ff h) (λ_ _ _ _ h=>ff h) (λ_ _ h=>ff h) λp _=>k p
end
noncomputable def yu (sc:Scope) (nm:List Str) (i:Nat) (x:Str):Bool:=nm[i]?==some x&&(sc.names.lookup x==some .local||sc.names.lookup x==some .cell)
noncomputable def La (sc:Scope) (nm:List Str):Tg->Expr->Bool
 | .v i=>uD (yu sc nm i)
 | .p i j=>Dc λx _ y _=>i !=j&&(yu sc nm i x&&yu sc nm j y)
noncomputable def MB (sc:Scope) (te:Expr):Expr->Bool:=pick (λ_ _=>true) (λ_ _ _ _=>true) (λ_ _ _=>true) (λ_ _ _ _=>true) (λ_ _ _=>true) (λ_ _ _ _=>true) (λ_ _=>true)
 (λvs _ _=>w2 (λa b=>gd true true a&&gd true true b) vs&&Dc (λx p y q=>sc.names.lookup x !=some .local||((sc.names.lookup x==some .local&&p.line==p.line)&&((sc.names.lookup y==some .local&&q.line==p.line)&&(x !=y&&(!(vs.all (foldedForSure 8))&& !(vs.all (constantsAlone 8))))))) te)
 (λ_ _ _=>true) (λ_ _ _ _=>true) (λ_ _ _=>true) (λ_ _ _ _=>true) (λ_ _ _=>true) (λ_ _ _ _=>true) λ_ _ _=>true
noncomputable def isCall:=pick z2 z4 z3 z4 z3 z4 z2 z3 z3 z4 z3 z4 z3 (λ_ _ _ _=>true) z3
noncomputable def O6 (sc:Scope) (e:CE):Tg->Expr->Expr->Bool
 | .v _=>λ_ x=>if e.mq=true then mq x else gd false true x
 | .p _ _=>λt x=>gd false true x&&MB sc t x
mutual
noncomputable def CS.eX:CS->Bool
 | .sup _=>false
 | .ite _ a b=>a.eX&&b.eX
 | .while _ b=>b.eX
 | .for _ _ b=>b.eX
 |_=>true
noncomputable def i6.eX:i6->Bool
 | .nil=>true
 | .cons s r=>s.eX&&r.eX
end
section
variable(T:Tb)
mutual
noncomputable def okS (r:Nat) (sc:Scope) (nm:List Str):CS->Stmt->Bool
 | .expr e=>JB λx=>isCall x&&gH T r sc nm e x
 | .set t e=>Gp λy x=>La sc nm t y&&(O6 sc e t y x&&gH T r sc nm e x)
 | .setattr o f e=>Gp λy x=>zA (λz n _=>T.at_[f]?==some n&&(gd true true x&&(gH T r sc nm o z&&gH T r sc nm e x))) y
 | .bq o i e=>Gp λy x=>AI (λz w=>gd true false w&&(gd true true x&&(gH T r sc nm o z&&(gH T r sc nm i w&&gH T r sc nm e x)))) y
 | .ite c a b=>Mo λx l m=>gH T r sc nm c x&&(sZ r sc nm a l&&sZ r sc nm b m)
 | .while c b=>Mq λx l=>b.eX&&(gH T r sc nm c x&&sZ r sc nm b l)
 | .for t i b=>Ms λy x l=>b.eX&&(La sc nm t y&&(LT T r sc nm i x&&sZ r sc nm b l))
 | .ret e=>Mu (gH T r sc nm e)
 | .cont=>My
 | .sup l=>JB (zB λo n as=>n=="__init__"&&(sP (λx m=>x=="super"&&m.isEmpty) o&&(jp T r sc nm l as&&wm T T.P.sup r)))
noncomputable def sZ (r:Nat) (sc:Scope) (nm:List Str):i6->List Stmt->Bool
 | .nil=>List.isEmpty
 | .cons s q=>zo λx l=>okS r sc nm s x&&sZ r sc nm q l
end
end
noncomputable def zV (t:Tg) (x:V) (L L':Lc):Prop:=match t with
 | .v i=>L'=L.set i (some x)
 | .p i j=>∃a b,x= .tup [a,b]∧L'=(L.set i (some a)).set j (some b)
theorem zV.v (i:Nat) (x:V) (L:Lc):zV (.v i) x L (L.set i (some x)):=rfl
theorem zV.p (i j:Nat) (x y:V) (L:Lc):zV (.p i j) (.tup [x,y]) L ((L.set i (some x)).set j (some y)):=⟨x,y,rfl,rfl⟩
noncomputable def B4 (c:Cx) (k:Lk) (H:Hp) (h:Heap):Fl->Flow->Prop
 | .next,f=>f= .next
 | .cont,f=>f= .cont
 | .ret v,f=>∃v',f= .ret v'∧VR c k H h v v'
section
variable {c:Cx} {T:Tb} {L L':Lc} {H:Hp} {k:Lk} {s:Shared} {A:Around} {r:Nat} {E:Value->Shared->Prop} {env:Env} {nm:List Str} {v u w:V}
theorem ji {sc:Scope} {i:Nat} {x:Str} (h:yu sc nm i x=true):nm[i]?=some x∧(sc.names.lookup x=some .local∨sc.names.lookup x=some .cell):=⟨cJ (cI h).1,(cD.mp (cI h).2).imp cJ cJ⟩
theorem De {x y:Str} {i j:Nat} {vu vw:Value} {Q:Unit->Shared->Prop} (S:dw c k H s.heap) (L0:Loc c k H s.heap env nm L) (o1:yu env.scope nm i x=true) (o2:yu env.scope nm j y=true) (ru:VR c k H s.heap u vu) (Jj:VR c k H s.heap w vw)
  (h:∀s',wJ c env k H s k H s'->Loc c k H s'.heap env nm ((L.set i (some u)).set j (some w))->Q () s'):wpAny (Md c) A (storeName env x vu) (λ_ s1=>wpAny (Md c) A (storeName env y vw) Q E s1) E s:=
 L0.store S (ji o1).1 (ji o1).2 ru λs1 W1 X1=>X1.store W1.1 (ji o2).1 (ji o2).2 (Jj.mono (W1.mv S L0)) λs2 W2 X2=>h s2 (W1.trans W2) X2
theorem rJ {t:Tg} {te:Expr} {v':Value} {Q:Unit->Shared->Prop} (S:St c A r k H s env nm L) (ok:La env.scope nm t te=true) (R:zV t v L L') (rv:VR c k H s.heap v v')
  (h:∀s',wJ c env k H s k H s'->Loc c k H s'.heap env nm L'->Q () s'):wpAny (Md c) A (assign te env v') Q E s:=by
 cases t with
 |v i=>
  cases(R:L'=_)
  apply pK ok λn p ok=>?_
  exact wpAny_assign_Name (S.3.store S.2 (ji ok).1 (ji ok).2 rv h)
 |p i j=>
  obtain⟨x,y,rfl,rfl⟩:=R
  apply yt ok λn p n' p' q pp ok=>?_
  apply i7 ok λ_ o1 o2=>?_
  apply rv.kT λa vs e g R=>?_
  obtain⟨v1,_,rfl,r1,v2,_,rfl,r2,rfl⟩:=R
  refine wpAny_assign_Tuple (items:=#[v1,v2]) S.1.1 ⟨_,g,rfl,_,rfl⟩ rfl rfl λh' he=>?_
  have K:=du.keeps (h':=h') (t:=s.toks) S.2 λb o q=>he b o (cr (Heap.lt_size q)) q
  exact wpAny_bind (wpAny_holding (wpAny_assign_Name (wpAny_mono (De K.1 (K.loc S.2 S.3) o1 o2 (K.vr S.2 r1) (K.vr S.2 r2) λs2 W X=>wpAny_pure (h s2 ((K.x S.3).trans W) X)) (λ_ _ h=>wpAny_bind (wpAny_holding (wpAny_assign_Name h))) λ_ _ e=>e)))
theorem Df {n n':Str} {p p' pp:Pos} {q:Nat} {value:Expr} {P:Prop} (hf:env.scope.kind= .function) (ok:MB env.scope (.Tuple [.Name n p,.Name n' p'] q pp) value=true) (k1:swappedStores [.Tuple [.Name n p,.Name n' p'] q pp] value env=pure none->P)
  (k2:swappedStores [.Tuple [.Name n p,.Name n' p'] q pp] value env=pure (some [n,n'])->P):P:=by
 refine dC (P:=λvalue=>swappedStores [.Tuple [.Name n p,.Name n' p'] q pp] value env=pure none∨swappedStores [.Tuple [.Name n p,.Name n' p'] q pp] value env=pure (some [n,n'])) ok (λ_ _ _=>.inl rfl) (λ_ _ _ _ _=>.inl rfl) (λ_ _ _ _=>.inl rfl) (λ_ _ _ _ _=>.inl rfl) (λ_ _ _ _=>.inl rfl) (λ_ _ _ _ _=>.inl rfl) (λ_ _ _=>.inl rfl) (λvs a b ok=>?_) (λ_ _ _ _=>.inl rfl)
  (λ_ _ _ _ _=>.inl rfl) (λ_ _ _ _=>.inl rfl) (λ_ _ _ _ _=>.inl rfl) (λ_ _ _ _=>.inl rfl) (λ_ _ _ _ _=>.inl rfl) (λ_ _ _ _=>.inl rfl)|>.elim k1 k2
 clear k1 k2
 apply iW ok λok2 ok=>?_
 revert ok
 apply K6 ok2 λx y hs=>?_
 intro ok
 have e3:env.blockKind= .function:=by unfold Env.blockKind;rw[hf];rfl
 have st:∀f:Expr->Bool,f x=false->f y=false->¬[x,y].any f=true:=λf a b z=>ff ((oD.mpr ⟨a,oD.mpr ⟨b,rfl⟩⟩).symm.trans z)
 unfold swappedStores
 rcases cD.mp ok with o|ok
 ·have key:∀f:Expr->Option Str,f (.Name n p)=none->(List.filterMap f [.Name n p,.Name n' p']).length<2:=λf h=>by rw[List.filterMap_cons_none h];exact dc (List.length_filterMap_le _ _)
  refine .inl ((if_neg (by rw[e3];exact λz=>ff z)).trans ((if_neg (st _ ?_ ?_)).trans (if_pos (cD.mpr (.inl (bne_iff_ne.mpr (cr (key _ ?_))))))))
  ·apply dC (cI hs).1<;>(intros;rfl)
  ·apply dC (cI hs).2<;>(intros;rfl)
  ·exact if_neg λz=>bne_iff_ne.mp o (cJ (cI z).1)
 ·apply u9 ok λo1 o2 o5 o3 o4=>?_
  have e1:(env.kindOf n==some .local&&p.line==p.line)=true:=o1
  have e2:(env.kindOf n'==some .local&&p'.line==p.line)=true:=o2
  have e4:(n'==n)=false:=beq_false_of_ne (dU (bne_iff_ne.mp o5))
  have key:∀f:Expr->Option Str,f (.Name n p)=some n->f (.Name n' p')=some n'->List.filterMap f [.Name n p,.Name n' p']=[n,n']:=λf h1 h2=>by rw[lG h1,lG h2];rfl
  have he:[n,n'].eraseDups=[n,n']:=by
   rw[pj,cY (by rw[e4];rfl),d6,pj];rfl
  refine .inr ((if_neg (by rw[e3];exact λz=>ff z)).trans ((if_neg (st _ ?_ ?_)).trans ((congrArg (λnames:List Str=>(if(names.length !=2||names.eraseDups.length !=names.length)=true then(pure none:Sem (Option (List Str)))else if [x,y].all (foldedForSure 8)=true then pure none else
   if [x,y].all (constantsAlone 8)=true then(do let _ ←(unsupported "assign.tuple-of-constant-expressions:order-of-the-stores":Sem Unit);pure (some names))else pure (some names))) (key _ ?_ ?_)).trans ((if_neg (by rw[he];exact λz=>ff z)).trans ((if_neg λz=>ff ((sM o3).symm.trans z)).trans (if_neg λz=>ff ((sM o4).symm.trans z)))))))
  ·apply dC (cI hs).1<;>(intros;rfl)
  ·apply dC (cI hs).2<;>(intros;rfl)
  ·exact if_pos e1
  ·exact if_pos e2
end
end
section
inductive Dh (c:Cx) (T:Tb) (scope:Scope) (f s6 cc D:Addr) (x0:Str):Prop
 |mk (fn:∃oc od fd Gq ar,c.K.lookup f=some ⟨oc,od,.func fd,Gq⟩∧(fd.params.posonlyargs++fd.params.args).head?=some ar∧ar.arg=x0) (code:∃Lg Lh vs N4 file tf,c.K.lookup s6=some ⟨Lg,Lh,.fields vs,N4⟩∧vs[2]?=some (.str file tf)∧((c.prog.main.file:Str)==file)=true) (cell:∃cl O7 MC,c.K.lookup cc=some ⟨cl,O7,.cell (some (.ref D)),MC⟩) (cls:∃Lg Lh cdD MC,c.K.lookup D=some ⟨Lg,Lh,.cls cdD,MC⟩) (sub:mroIn c.K (c.G.cl T.P.wi) (.ref D)=some true) (ks:scope.names.lookup ("super":Str)=some .globalImplicit) (kc:scope.names.lookup ("__class__":Str)=some .free) (ka:scope.names.lookup x0=some .local) (top:(c.prog.main.scope.names.lookup ("super":Str)).isSome=false) (any:nsIn c.K cStatics "thirdparty.any"=some none) (get:ks_superIn c.K (c.G.cl T.P.wi) D "__init__"=some (some (.ref (c.G.fa T.P.sup)))) (ty:typeIn c.K (.ref (c.G.fa T.P.sup))=some (.type "function"))
noncomputable def Di (c:Cx) (T:Tb) (env:Env) (x0:Str):Prop:=∃q scope L f s6 cc D,env=ksEnv q scope L f (.ref s6) cc∧Dh c T scope f s6 cc D x0
noncomputable def Go (c:Cx) (X:Addr->Prop) (env:Env) (nm:List Str) (k:Lk) (H:Hp) (s:Shared) (f:Fl) (L':Lc) (H':Hp) (Q:Flow->Shared->Prop):Prop:=∀k' s' fv,cX c X k H s k' H' s'->Loc c k' H' s'.heap env nm L'->B4 c k' H' s'.heap f fv->Q fv s'
noncomputable def JD (env:Env) (I b:Addr):Prop:=Own env b∨b=I
noncomputable def GoI (c:Cx) (I:Addr) (env:Env) (nm:List Str) (k:Lk) (H:Hp) (s:Shared) (f:Fl) (L':Lc) (H':Hp) (R:Result->Shared->Prop):Prop:=∀k' s' fv h' t,cX c (JD env I) k H s k' H' s'->mT I s'.heap h'->dw c k' H' h'->Loc c k' H' h' env nm L'->B4 c k' H' h' f fv->R (.ok fv) {s' with heap:=h',toks:=t}
section
variable(c:Cx) (T:Tb)
noncomputable def qj (st:CS) (L:Lc) (H:Hp) (f:Fl) (L':Lc) (H':Hp):Prop:=
 ∀{A:Around} {r:Nat} {env:Env} {nm:List Str} {ps:Stmt} {k:Lk} {s:Shared} {Q:Flow->Shared->Prop} {E:Value->Shared->Prop} {c0:Code},St c A r k H s env nm L->
  okS T r env.scope nm st ps=true->(st.eX=true∨((∃body,c0= .func body env)∧Di c T env (nm.getD 0 Str.empty)))->Go c (Own env) env nm k H s f L' H' Q->_root_.PySem.wpAt (Md c) A c0 (exec ps env) Q E s
noncomputable def j_ (st:i6) (L:Lc) (H:Hp) (f:Fl) (L':Lc) (H':Hp):Prop:=
 ∀{A:Around} {r:Nat} {env:Env} {nm:List Str} {ps:List Stmt} {k:Lk} {s:Shared} {Q:Flow->Shared->Prop} {E:Value->Shared->Prop} {c0:Code},St c A r k H s env nm L->
  sZ T r env.scope nm st ps=true->(st.eX=true∨((∃body,c0= .func body env)∧Di c T env (nm.getD 0 Str.empty)))->Go c (Own env) env nm k H s f L' H' Q->_root_.PySem.wpAt (Md c) A c0 (execs ps env) Q E s
noncomputable def qY (t:Tg) (b:i6) (g:Gd) (xs:List V) (L:Lc) (H:Hp) (f:Fl) (L':Lc) (H':Hp):Prop:=
 ∀{A:Around} {r:Nat} {env:Env} {nm:List Str} {te:Expr} {ps:List Stmt} {k:Lk} {s:Shared} {I:Addr} {R:Result->Shared->Prop},St c A r k H s env nm L->La env.scope nm t te=true->sZ T r env.scope nm b ps=true->b.eX=true->
  i8 c k H s.heap I g xs->nJ k H I->¬B2 env I->c.hb.get? I=none->GoI c I env nm k H s f L' H' R->codeAny (Md c) A (.forLoop te (.ref I) ps [] env) R s
noncomputable def uJ (e:CE) (b:i6) (L:Lc) (H:Hp) (f:Fl) (L':Lc) (H':Hp):Prop:=
 ∀{A:Around} {r:Nat} {env:Env} {nm:List Str} {pe:Expr} {ps:List Stmt} {k:Lk} {s:Shared} {R:Result->Shared->Prop},St c A r k H s env nm L->gH T r env.scope nm e pe=true->sZ T r env.scope nm b ps=true->b.eX=true->
  Go c (Own env) env nm k H s f L' H' (λfv=>R (.ok fv))->codeAny (Md c) A (.whileLoop pe ps [] env) R s
noncomputable def MD (e:CE) (L:Lc) (H:Hp) (v:V) (H':Hp):Prop:=
 ∀{A:Around} {r:Nat} {env:Env} {nm:List Str} {pe:Expr} {k:Lk} {s:Shared} {use:Value->Sem Unit} {Q:Unit->Shared->Prop} {E:Value->Shared->Prop},St c A r k H s env nm L->
  gH T r env.scope nm e pe=true->(∀k' s' v' C,du c k H s k' H' s'->VR c k' H' s'.heap v v'->s.heap.get? C=none->nJ k' H' C->(∃m,s'.heap.Ns C m)->
   wpAny (Md c) A (use v') (λ_ zF=>(∃m,zF.heap.Ns C m)∧∀h',Heap.SameBut C zF.heap h'->Q () {zF with heap:=h'}) E s')->wpAny (Md c) A (evalThenUse pe env use) Q E s
noncomputable def zW (e:CE) (L:Lc) (H:Hp) (v:V) (H':Hp):Prop:=b9 c T e L H v H'∧(e.mq=true->MD c T e L H v H')
end
section
variable {c:Cx} {T:Tb} {L L1 L' L2:Lc} {H H1 H2 H3 H4 H':Hp} {e o i:CE} {v va vb:V} {k k':Lk} {s s':Shared} {A:Around} {r:Nat} {E:Value->Shared->Prop} {env:Env} {nm:List Str} {f fl:Fl} {st:CS} {ss sa sb:i6} {Q:Flow->Shared->Prop} {X:Addr->Prop}
theorem Go.ME (h:Go c (Own env) env nm k H s .next L H' Q) (S:St c A r k H s env nm L) (W:du c k H s k' H' s'):Q .next s':=h _ _ _ (W.x S.3) (W.loc S.2 S.3) rfl
theorem Go.Dk (h:Go c X env nm k H s f L' H' Q) (W:cX c X k H s k' H1 s'):Go c X env nm k' H1 s' f L' H' Q:=λk2 s2 fv W2 X2 F2=>h k2 s2 fv (W.trans W2) X2 F2
theorem zX {value:Expr} {t:Option Expr} {line:Nat} (h:gd false true value=true):swapsWith value t line env=pure false:=by apply dC h<;>first|(intros;rfl)|exact λ_ _ _ _ h=>ff h
theorem A0 {value o:Expr} {n:Str} {p:Pos} {line:Nat} (h:gd true true value=true):swapsWith value (some (.Attribute o n p)) line env=pure false:=by apply dC h<;>(intros;rfl)
theorem Dl {value o i:Expr} {p:Pos} {line:Nat} (h:gd true true value=true):swapsWith value (some (.Subscript o i p)) line env=pure false:=by apply dC h<;>(intros;rfl)
theorem wM (L0:Loc c k H s.heap env nm L):interactive env=false:=by unfold interactive;rw[L0.1.1];rfl
theorem Gr {P:Expr->Prop} {e:Expr} (h:isCall e=true) (q:∀f l k p,P (.Call f l k p)):P e:=dC h Z2 Z4 Z3 Z4 Z3 Z4 Z2 Z3 Z3 Z4 Z3 Z4 Z3 (λ_ _ _ _ _=>q _ _ _ _) Z3
theorem Gs {P:Expr->Prop} {e:Expr} (h:mq e=true) (q:∀f l k p,P (.ListComp f l k p)):P e:=dC h Z2 Z4 Z3 Z4 Z3 Z4 Z2 Z3 Z3 (λ_ _ _ _ _=>q _ _ _ _) Z3 Z4 Z3 Z4 Z3
theorem Dm {g:Expr} {l:List Expr} {w:List Keyword} {q p:Pos} {v':Value} (h:Q .next s):wpAny (Md c) A (dropValue (.Call g l w q) p v') Q E s:=by
 cases v' with
 |ref a=>
  refine wpAny_bind (wpAny_standAt (wpAny_bind (wpAny_runValue (codeAny_builtin entry_let_go ?_))))
  rw[Around.under_plainId plain_let_go _]
  exact wpAny_pure (wpAny_pure h)
 |_=>exact wpAny_pure h
theorem Do (x:b9 c T e L H v H1):qj c T (.expr e) L H .next L H1:=by
 intro A r env nm ps k s Q E c0 S ok hs h
 apply Ir ok λpe p ok=>?_
 apply iW ok λhc ok=>?_
 revert ok
 apply Gr hc λg l w q=>?_
 intro ok
 refine cF ?_
 rw[exec_Expr env _ p (wM S.3) rfl]
 exact wpAny_bind (wpAny_standAt (wpAny_bind (x S ok λk1 s1 v1 T1 R1=>Dm (h.ME S T1))))
theorem Gu (x:b9 c T e L H v H1):qj c T (.ret e) L H (.ret v) L H1:=by
 intro A r env nm ps k s Q E c0 S ok hs h
 apply Mx ok λpe p ok=>?_
 exact cF (wpAny_Return_some (x S ok λk1 s1 v1 T1 R1=>h _ _ _ (T1.x S.3) (T1.loc S.2 S.3) ⟨_,rfl,R1⟩))
theorem Dp:qj c T .cont L H .cont L H:=by
 intro A r env nm ps k s Q E c0 S ok hs h
 apply Mz ok λp=>?_
 exact cF (wpAny_Continue (h _ _ _ (cX.refl S.2) S.3 rfl))
theorem Loc.wK {b:Addr} {h h':Heap} (L0:Loc c k H h env nm L) (d:¬B2 env b) (f:∃o,h.get? b=some o∧iR o) (e:mT b h h'):Loc c k H h' env nm L:=
 L0.mv (λa p y=>⟨y.1,y.2.elim λo z=>⟨o,e _ _ (λq=>d (q▸p)) z.1,z.2⟩⟩) (λa _ p q=>e _ _ (λz=>d (z▸p)) q) ⟨aC _,λ_ _=>rfl,λa vs n q=>e _ _ (λz=>f.elim λo y=>y.2 _ _ (ax (y.1.symm.trans (z▸q)))) q⟩
theorem s7 {b:Addr} {h:Heap} (L0:Loc c k H h env nm L) (f:h.get? b=none):¬B2 env b:=λz=>(L0.3 _ z).2.elim λ_ y=>cW f y.1
theorem Gv {n:Str} {j:Nat} {p:Pos} {pe:Expr} (x:MD c T e L H v H1) (S:St c A r k H s env nm L) (vt:gH T r env.scope nm e pe=true) (o1:yu env.scope nm j n=true) (h:Go c (Own env) env nm k H s .next (L.set j (some v)) H1 Q):
  wpAny (Md c) A (evalThenUse pe env (assign (.Name n p) env)) (λ_ s=>Q .next s) E s:=by
 refine x S vt λk1 s1 v1 C T1 R1 fC oC nC=>wpAny_assign_Name ?_
 have pC:=s7 S.3 fC
 refine(T1.loc S.2 S.3).store T1.1 (ji o1).1 (ji o1).2 R1 λs2 W X2=>?_
 have F2:=ud.Fs ⟨oC,nC.elim λ_=>C9⟩ W.2
 refine⟨nC.elim λm ns=>⟨m,ns.at λo q=>W.2.3 _ _ oC.ow (λz=>pC z.K_) q⟩,λh' O8=>?_⟩
 exact h _ _ _ (((T1.x S.3).trans W).tail fC (W.1.wK F2.1 F2.2 (S.2.FK fC) (uH O8)) (uH O8)) (X2.wK pC F2.2 (uH O8)) rfl
theorem Gw {t:Tg} (x:zW c T e L H v H1) (R:zV t v L L'):qj c T (.set t e) L H .next L' H1:=by
 intro A r env nm ps k s Q E c0 S ok hs h
 refine cF ?_
 apply Dd ok λte pe p ok=>?_
 apply i7 ok λxS Gx vt=>?_
 have fin:∀{k1 s1 s2},du c k H s k1 H1 s1->wJ c env k1 H1 s1 k1 H1 s2->Loc c k1 H1 s2.heap env nm L'->Q .next s2:=λT1 W X=>h _ _ _ ((T1.x S.3).trans W) X rfl
 cases t with
 |v i=>
  cases(R:L'=_)
  apply pK xS λn p' o1=>?_
  have plain:swapsWith pe (some (.Name n p')) p.line env=pure false->wpAny (Md c) A (exec (.Assign [.Name n p'] pe p) env) Q E s:=λhq=>
   wpAny_Assign_Name (x.1 S vt λk1 s1 v1 T1 R1=>(T1.loc S.2 S.3).store T1.1 (ji o1).1 (ji o1).2 R1 λs2 W X=>fin T1 W X) hq
  have Gx:(if e.mq=true then mq pe else gd false true pe)=true:=Gx
  by_cases hc:e.mq=true
  ·rw[if_pos hc]at Gx
   have hq:∀w,∃b:Bool,swapsWith pe (some (.Name n p')) w env=pure b:=λw=>Gs (P:=λpe=>∃b:Bool,swapsWith pe (some (.Name n p')) w env=pure b) Gx λ_ _ _ _=>⟨_,rfl⟩
   obtain⟨b,hq⟩:=hq p.line
   cases b with
   |false=>exact plain hq
   |true=>
    rw[exec_Assign_Name_used _ _ _ _ hq]
    exact wpAny_bind (wpAny_standAt (wpAny_bind (wpAny_mono (Gv (x.2 hc) S vt o1 h) (λ_ _ z=>wpAny_pure z) λ_ _ z=>z)))
  ·rw[if_neg hc]at Gx
   exact plain (zX Gx)
 |p i j=>
  have JG:=xS
  revert JG Gx
  apply yt xS λn p1 n' p2 q pp xS=>?_
  intro Gx JG
  apply iW Gx λokg O9=>?_
  have hsw:swapsWithSole [.Tuple [.Name n p1,.Name n' p2] q pp] pe p.line env=pure false:=zX (t:=some (.Tuple [.Name n p1,.Name n' p2] q pp)) (line:=p.line) (env:=env) okg
  refine Df S.3.1.1 O9 (λhw=>?_) λhw=>?_
  ·exact Assign_Tuple (x.1 S vt λk1 s1 v1 T1 R1=>rJ (S.go T1) JG R R1 λs2 W X=>fin T1 W X) hsw hw
  ·refine Assign_Tuple_swapped (x.1 S vt λk1 s1 v1 T1 R1=>?_) hsw hw
   obtain⟨a,b,rfl,rfl⟩:=R
   apply i7 xS λhij o1 o2=>?_
   apply R1.kT λa vs e g R=>?_
   obtain⟨v1,_,rfl,r1,v2,_,rfl,r2,rfl⟩:=R
   refine wpAny_unpackItems_tuple (items:=#[v1,v2]) S.1.1 ⟨_,g,rfl,_,rfl⟩ λh' he=>?_
   have K:=du.keeps (h':=h') (t:=s1.toks) T1.1 λb o q=>he b o (cr (Heap.lt_size q)) q
   have L1:=T1.loc S.2 S.3
   exact wpAny_bind (wpAny_holding (wpAny_bindName (wpAny_mono (De K.1 (K.loc T1.1 L1) o2 o1 (K.vr T1.1 r2) (K.vr T1.1 r1) λs2 W X=>wpAny_pure (M:=Md c) (A:=A) (E:=E) (a:=()) (Q:=λ_=>Q .next) (fin T1 ((K.x L1).trans W) (List.set_comm _ _ (bne_iff_ne.mp hij)▸X))) (λ_ _ h=>wpAny_bind (wpAny_holding (wpAny_bindName h))) λ_ _ e=>e)))
end
end
section
section
variable {c:Cx} {T:Tb} {L L1 L' L2:Lc} {H H1 H2 H3 H4 H':Hp} {h h':Heap} {e o i:CE} {v va vb x:V} {k k':Lk} {s s':Shared} {A:Around} {r:Nat} {E:Value->Shared->Prop} {env:Env} {nm:List Str} {f fl:Fl} {st:CS} {ss sa sb:i6} {Q:Flow->Shared->Prop} {X:Addr->Prop} {I:Addr} {g:Gd} {xs:List V} {ci:CI}
theorem wN {n kk cl:Nat} {fs:List (Nat×V)} (TO:nK c T) (x:b9 c T e L H v H1) (y:b9 c T o L H1 (.ref kk) H2) (q:H2[kk]?=some (.inst cl fs)) (m:T.P.xQ cl n=none) (z:fs.length≤100):
  qj c T (.setattr o n e) L H .next L (H2.set kk (.inst cl (dj n v fs))):=by
 intro A r env nm ps k s Q E c0 S ok hs h
 refine cF ?_
 apply Dd ok λte pe p ok=>?_
 apply vd ok λpo nn p' ok=>?_
 apply oW ok λhn hg oo oe=>?_
 refine plainObj_wpAny_Assign_Attribute (x S oe λk1 s1 v1 T1 R1=>y (S.go T1) oo λk2 s2 v2 T2 R2=>?_) (A0 hg)
 apply R2.kR λ_=>?_
 exact vm TO T2.1 q (cJ hn) m z (T2.vr T1.1 R1) λs3 T3=>h.ME S ((T1.trans T2).trans T3)
theorem yv (x:b9 c T e L H v H1) (y:b9 c T o L H1 va H2) (w':b9 c T i L H2 vb H3) (R:qW va vb v H3 H4):qj c T (.bq o i e) L H .next L H4:=by
 intro A r env nm ps k s Q E c0 S ok hs h
 refine cF ?_
 apply Dd ok λte pe p ok=>?_
 apply wj ok λpo pi p' ok=>?_
 apply u9 ok λhi hg oo oi oe=>?_
 exact wpAny_Assign_Subscript (x S oe λk1 s1 v1 T1 R1=>y (S.go T1) oo λk2 s2 v2 T2 R2=>w' ((S.go T1).go T2) oi λk3 s3 v3 T3 R3=>
  R _ _ _ _ _ _ _ _ _ S.1.N2 T3.1 (T3.vr T2.1 R2) R3 (du.vr T1.1 (T2.trans T3) R1) λs4 T4=>h.ME S (((T1.trans T2).trans T3).trans T4)) (Dl hg)
theorem Dq:j_ c T .nil L H .next L H:=by
 intro A r env nm ps k s Q E c0 S ok hs h
 apply sO ok
 exact cF (wpAny_execs_nil (h _ _ _ (cX.refl S.2) S.3 rfl))
theorem jy {c0:Code} {p:Stmt} {ps:List Stmt}
  (h:_root_.PySem.wpAt (Md c) A c0 (exec p env) (λf s'=>match f with| .next=>_root_.PySem.wpAt (Md c) A c0 (execs ps env) Q E s'|f=>Q f s') E s):_root_.PySem.wpAt (Md c) A c0 (execs (p::ps) env) Q E s:=λΓ q hc hΓ=>by
 rw[execs_cons,Sem.wp_bind']
 refine Sem.wp_mono _ Γ _ (λf p' s' h'=>?_) (λ_ _ _ h'=>h') _ _ (h Γ q hc hΓ)
 cases f<;>first|exact h' Γ p' hc hΓ|exact h'
theorem A1 (x:qj c T st L H .next L1 H1) (y:j_ c T ss L1 H1 f L' H'):j_ c T (.cons st ss) L H f L' H':=by
 intro A r env nm ps k s Q E c0 S ok hs h
 apply sN ok λp ps ok=>?_
 refine jy (x S (cI ok).1 (hs.imp (λq=>(cI q).1) id) λk1 s1 fv W1 X1 F1=>?_)
 rw[(F1:fv=_)]
 exact y (S.O5 W1 X1) (cI ok).2 (hs.imp (λq=>(cI q).2) id) (h.Dk W1)
theorem Dr (x:qj c T st L H (.ret v) L' H'):j_ c T (.cons st ss) L H (.ret v) L' H':=by
 intro A r env nm ps k s Q E c0 S ok hs h
 apply sN ok λp ps ok=>?_
 refine jy (x S (cI ok).1 (hs.imp (λq=>(cI q).1) id) λk1 s1 fv W1 X1 F1=>?_)
 have F:=F1
 obtain⟨v',rfl,_⟩:=F1
 exact h _ _ _ W1 X1 F
theorem A4 (x:qj c T st L H .cont L' H'):j_ c T (.cons st ss) L H .cont L' H':=by
 intro A r env nm ps k s Q E c0 S ok hs h
 apply sN ok λp ps ok=>?_
 refine jy (x S (cI ok).1 (hs.imp (λq=>(cI q).1) id) λk1 s1 fv W1 X1 F1=>?_)
 rw[(F1:fv=_)]
 exact h _ _ _ W1 X1 rfl
theorem Gy {c0:Code} {pe:Expr} {pa pb:List Stmt} {p:Pos}
  (h:wpAny (Md c) A (isTrue pe env (eval pe env)) (λq s₂=>if q then _root_.PySem.wpAt (Md c) A c0 (execs pa env) Q E s₂ else _root_.PySem.wpAt (Md c) A c0 (execs pb env) Q E s₂) E s):_root_.PySem.wpAt (Md c) A c0 (exec (.If pe pa pb p) env) Q E s:=λΓ q hc hΓ=>by
 simp only[exec_If,Sem.wp_bind',Sem.wp_cmd_standAt]
 refine Sem.wp_mono _ Γ _ (λt p₂ s₂ h₂=>?_) (λ_ _ _ h'=>h') _ _ (h Γ _ hΓ)
 cases t<;>exact h₂ Γ p₂ hc hΓ
theorem Gz {q:Bool} (x:lp c T e L H q H1) (y:j_ c T (if q then sa else sb) L H1 f L' H2):qj c T (.ite e sa sb) L H f L' H2:=by
 intro A r env nm ps k s Q E c0 S ok hs h
 apply Mp ok λpe pa pb p ok=>?_
 apply i7 ok λo1 o2 o3=>?_
 refine Gy (x S o1 λk1 s1 T1=>?_)
 cases q
 ·exact y (S.go T1) o3 (hs.imp (λq=>(cI q).2) id) (h.Dk (T1.x S.3))
 ·exact y (S.go T1) o2 (hs.imp (λq=>(cI q).1) id) (h.Dk (T1.x S.3))
theorem anyOf {t:Sem Flow} (h:∀c0,_root_.PySem.wpAt (Md c) A c0 t Q E s):wpAny (Md c) A t Q E s:=λΓ p hΓ=>h Γ.code Γ p rfl hΓ
theorem Ds (x:lp c T e L H false H1):uJ c T e ss L H .next L H1:=by
 intro A r env nm pe ps k s R S vt yw hn h
 exact qX (x S vt λk1 s1 T1=>Go.ME (Q:=λfv=>R (.ok fv)) h S T1)
theorem Dt (x:lp c T e L H true H1) (y:j_ c T ss L H1 (.ret v) L' H'):uJ c T e ss L H (.ret v) L' H':=by
 intro A r env nm pe ps k s R S vt yw hn h
 refine qX (x S vt λk1 s1 T1=>anyOf λc0=>y (S.go T1) yw (.inl hn) λk2 s2 fv W2 X2 F2=>?_)
 have F:=F2
 obtain⟨v',rfl,rv⟩:=F2
 exact h _ _ _ ((T1.x S.3).trans W2) X2 F
theorem B4.go {P:Flow->Prop} {fv:Flow} (n:fl= .next∨fl= .cont) (F:B4 c k H h fl fv) (a:P .next) (b:P .cont):P fv:=by
 rcases n with rfl|rfl
 ·exact cq (F:fv=_)▸a
 ·exact cq (F:fv=_)▸b
theorem A5 (x:lp c T e L H true H1) (y:j_ c T ss L H1 fl L2 H2) (n:fl= .next∨fl= .cont) (w':uJ c T e ss L2 H2 f L' H'):uJ c T e ss L H f L' H':=by
 intro A r env nm pe ps k s R S vt yw hn h
 refine qX (x S vt λk1 s1 T1=>anyOf λc0=>y (S.go T1) yw (.inl hn) λk2 s2 fv W2 X2 F2=>?_)
 have go:=w' (R:=R) ((S.go T1).O5 W2 X2) vt yw hn (Go.Dk (Go.Dk h (T1.x S.3)) W2)
 apply B4.go n F2
 ·exact go
 ·exact go
theorem B3.mark (x:B3 A r):B3 (A.mark none) r:=⟨x.1,x.2,x.3,x.4⟩
theorem GB (x:uJ c T e ss L H f L' H'):qj c T (.while e ss) L H f L' H':=by
 intro A r env nm ps k s Q E c0 S ok hs h
 apply Mr ok λpe pb p ok=>?_
 apply i7 ok λhn o1 o2=>?_
 exact cF (wpAny_While (x ⟨S.1.mark,S.2,S.3⟩ o1 o2 hn h))
theorem JH {t:Tg} {te:Expr} {v':Value} {ob:Obj} {n:String} {fs:Array Value} {Q:Unit->Shared->Prop} (ok:La env.scope nm t te=true) (ho:s.heap.get? I=some ob) (hc:ob.cls= .type n) (hn:oM n=true) (hd:ob.data= .fields fs)
  (h:Q () s):wpAny (Md c) A (letOwnedTupleGo te (.ref I) v') Q E s:=by
 cases t with
 |v i=>apply pK ok λ_ _ _=>?_;exact wpAny_pure h
 |p i j=>
  apply yt ok λn p n' p' q pp ok=>?_
  cases v' with
  |ref a=>
   refine wpAny_bind (wpAny_load ho ?_)
   rw[hc,hd]
   show wpAny (Md c) A (if _ then _ else pure ()) Q E s
   rw[if_neg λz=>ff ((sM (cI hn).2).symm.trans (cI z).1)]
   exact wpAny_pure h
  |_=>exact wpAny_pure h
theorem dw.MF {j:Nat} {o:O} (S:dw c k H h) (hj:H[j]?=some o) (hw:o.owned=false):¬Oo k H (k.ι j):=fun⟨i,y,q,w,z⟩=>by
 cases S.4 _ i j _ _ q hj z (.inl rfl)
 cases q.symm.trans hj
 exact ff (hw.symm.trans w)
theorem i8.go (X:i8 c k H s.heap I g xs) (S:dw c k H s.heap) {Y:Addr->Prop} (W:cX c Y k H s k' H' s') (n:∀b,Y b->ud k H s.heap b) (nI:nJ k H I) (hI:¬Y I) (hg:g.ok H'):i8 c k' H' s'.heap I g xs:=
 X.elim λP x=>⟨P,x.2.2 x.1 (λo q=>W.2.3 _ _ nI.ow hI q) (λj o b q w z=>W.2.3 _ _ (S.MF q w) (λy=>(n _ y).1 _ _ q (.inl rfl)) z) (W.mv S n) hg,x.2⟩
theorem plI (L0:Loc c k H h env nm L) (f:ud k H h I):∀b,JD env I b->ud k H h b:=λb z=>z.elim L0.own λz=>cq z▸f
theorem Du {t:Tg}:qY c T t ss g [] L H .next L H:=by
 intro A r env nm te ps k s I R S xS yw hn X nI pI hb h
 obtain⟨P,p,K⟩:=X
 have f:=qh (K.1 p)
 exact vq (K.4 S.1.1 p S.2 λh' tk oi=>h k s _ h' tk (cX.refl S.2) oi (S.2.wK nI f hb oi) (S.3.wK pI f oi) rfl)
theorem wO {t:Tg} {Nn:Shared->Prop} {E':Value->Shared->Prop} {te:Expr} {ps:List Stmt} (S:St c A r k H s env nm L) (xS:La env.scope nm t te=true) (yw:sZ T r env.scope nm ss ps=true) (hn:ss.eX=true) (X:i8 c k H s.heap I g (x::xs)) (nI:nJ k H I) (pI:¬B2 env I) (hb:c.hb.get? I=none)
  (og:g.ok H) (R:zV t x L L1) (y:j_ c T ss L1 H fl L2 H2)
  (h:∀k2 s2 fv,cX c (JD env I) k H s k2 H2 s2->Loc c k2 H2 s2.heap env nm L2->B4 c k2 H2 s2.heap fl fv->nJ k2 H2 I->(g.ok H2->i8 c k2 H2 s2.heap I g xs)->Q fv s2):
  wpAny (Md c) A (pyNext (.ref I)) (FQ1 c A env te (.ref I) ps Nn Q E') E' s:=by
 obtain⟨P,p,K⟩:=X
 have f:=qh (K.1 p)
 refine K.3 S.1.1 p S.2 nI λh' tk v' oi rv p'=>?_
 have f':=qh (K.1 p')
 have W0:=cX.wK (t:=tk) S.2 ⟨nI,f⟩ hb oi f'
 have S1:St c A r k H {s with heap:=h',toks:=tk} env nm L:=⟨S.1,W0.1,S.3.wK pI f oi⟩
 obtain⟨ob,n,ho,hc,hz,fs,hd⟩:=K.1 p'
 refine JH (s:={s with heap:=h',toks:=tk}) xS ho hc hz hd (rJ S1 xS R rv λs1 W1 X1=>?_)
 refine anyOf λc0=>y (S1.O5 W1 X1) yw (.inl hn) λk2 s2 fv W2 X2 F2=>?_
 have O_:=W1.trans W2
 have fI:ud k H h' I:=⟨nI,f'⟩
 exact h k2 s2 fv ((W0.up (λ_ _ z _=>.inr z) λb z=>(plI S.3 ⟨nI,f⟩ b z).1.ow).trans (O_.up (λ_ _ z _=>.inl z) λb z=>(plI S1.3 fI b z).1.ow)) X2 F2 (fI.Fs O_.2).1 λLj=>i8.go ⟨P,p',K⟩ W0.1 O_ (λ_=>S1.3.own) nI (λz=>pI z.K_) Lj
theorem Dv {t:Tg} (og:g.ok H) (R:zV t x L L1) (y:j_ c T ss L1 H (.ret v) L' H'):qY c T t ss g (x::xs) L H (.ret v) L' H':=by
 intro A r env nm te ps k s I R' S xS yw hn X nI pI hb h
 refine vq (wO S xS yw hn X nI pI hb og R y λk2 s2 fv W X2 F2 _ _=>?_)
 have F:=F2
 obtain⟨v',rfl,rv⟩:=F2
 exact h _ _ _ _ _ W (λ_ _ _ e=>e) W.1 X2 F
theorem A6 {t:Tg} (og:g.ok H) (R:zV t x L L1) (y:j_ c T ss L1 H fl L2 H2) (Lj:g.ok H2) (n:fl= .next∨fl= .cont) (w':qY c T t ss g xs L2 H2 f L' H'):qY c T t ss g (x::xs) L H f L' H':=by
 intro A r env nm te ps k s I R' S xS yw hn X nI pI hb h
 refine vq (wO S xS yw hn X nI pI hb og R y λk2 s2 fv W X2 F2 n2 it=>?_)
 have go:=w' (R:=R') ⟨S.1,W.1,X2⟩ xS yw hn (it Lj) n2 pI hb λk3 s3 fv h' t W3=>h k3 s3 fv h' t (W.trans W3)
 apply B4.go n F2
 ·exact go
 ·exact go
theorem zY {sc:Scope} {pe:Expr} (ok:LT T r sc nm ci pe=true) (y:Value):foldedSetIterable pe env y=pure y:=by
 have key:∀{pe},gd true true pe=true->foldedSetIterable pe env y=pure y:=λq=>by apply dC q<;>(intros;rfl)
 cases ci with
 |ex e=>exact key (cI ok).1
 |range e|rev e=>exact Ci (P:=λpe=>foldedSetIterable pe env y=pure y) ok λ_ _ _ _ _ _=>rfl
theorem jx.Pa {aa:Nat} {o oz:O} (S:dw c k H1 h) (ho:H1[aa]?=some o) (hw:o.owned=true) (hi:o.dL=false) (W:jx X k (H1.set aa oz) h k' H2 h') (h2:H2[aa]?=some oz) (hz:oz.owned=false):jx X k H1 h k' (H2.set aa o) h':=by
 have len:(H1.set aa oz).length=H1.length:=aU
 have ei:=(W.2 aa (len.symm▸j0 ho)).1
 have up:∀{b},Oo k (H1.set aa oz) b->Oo k H1 b:=fun⟨i,y,q,w,z⟩=>by
  rcases qR q with⟨_,rfl⟩|⟨_,q⟩
  ·exact ff (hz.symm.trans w)
  ·exact⟨i,y,q,w,z⟩
 refine⟨by rw[aU];exact len▸W.1,λj l=>W.2 j (len.symm▸l),λb o' f n q=>W.3 b o' (λz=>f (up z)) n q,λb q=>?_,λb o' f q z=>?_,λj l l'=>?_,W.7⟩
 ·obtain⟨i,y,q,w,z⟩:=q
  by_cases n:i=aa
  ·subst n;cases ho.symm.trans q
   exact⟨i,o,a8 (j0 h2),hw,.inl (z.elim (λz=>z.trans ei.symm) λz=>ff (hi.symm.trans z.1))⟩
  ·obtain⟨j,y',q',w',z'⟩:=W.4 b ⟨i,y,(a9 (dU n)).trans q,w,z⟩
   refine⟨j,y',(a9 λz=>?_).trans q',w',z'⟩
   subst z;cases h2.symm.trans q';exact ff (hz.symm.trans w')
 ·obtain⟨i,y,q',w,z'⟩:=z
  rcases qR q' with⟨rfl,rfl⟩|⟨_,q'⟩
  ·exact f ⟨i,y,ho,hw,.inl (z'.elim (λz=>z.trans ei) λz=>ff (hi.symm.trans z.1))⟩
  ·exact W.5 b o' (λz=>f (up z)) q ⟨i,y,q',w,z'⟩
 ·rw[aU]at l'
  obtain⟨_,f2⟩:=W.6 j (len.symm▸l) l'
  exact⟨(S.xR f2).ow,f2⟩
theorem dw.Dw {aa:Nat} {o o':O} (S:dw c k H h) (ho:H[aa]?=some o) (hi:o'.dL=o.dL) (hm:o'.made=o.made) (x:OR c k H h aa o'):dw c k (H.set aa o') h:=S.set (X:=NY) ho hi hm (λ_ z=>z.elim) (λ_ _ _ e=>e) x
theorem Iu {aa:Nat} {o o':O} {b:Addr} (ho:H[aa]?=some o) (hi:o'.dL=o.dL) (n:nJ k H b):nJ k (H.set aa o') b:=λj y q z=>by
 rcases qR q with⟨rfl,rfl⟩|⟨_,q⟩
 ·exact n _ _ ho (z.imp id λz=>⟨hi▸z.1,z.2⟩)
 ·exact n _ _ q z
theorem Loc.Dw {aa:Nat} {o o':O} (L0:Loc c k H h env nm L) (ho:H[aa]?=some o) (hi:o'.dL=o.dL):Loc c k (H.set aa o') h env nm L:=
 L0.mv (λ_ _ f=>⟨Iu ho hi f.1,f.2⟩) (λ_ _ _ e=>e) ⟨by rw[aU];exact aC _,λ_ _=>rfl,λ_ _ _ e=>e⟩
theorem B4.set {aa:Nat} {o':O}:∀{f:Fl} {fv:Flow},B4 c k H h f fv->B4 c k (H.set aa o') h f fv
 | .next,_,F=>F
 | .cont,_,F=>F
 | .ret _,_,F=>F.elim λv z=>⟨v,z.1,z.2.mono ⟨by rw[aU];exact aC _,λ_ _=>rfl,λ_ _ _ e=>e⟩⟩
theorem cX.bk {a:Addr} (W:cX c X k H s k' H' s') (q:s'.heap.get? a=none):s.heap.get? a=none:=by
 cases z:s.heap.get? a with
 |none=>rfl
 |some o=>
  by_cases w:Oo k H a
  ·obtain⟨j,y,e,_,t⟩:=W.2.4 a w
   obtain⟨b,g,_⟩:=(W.1.2 j y e).lv t
   exact cW q g
  ·by_cases n:X a
   ·obtain⟨o',l,_⟩:=W.2.7 a o n z;exact cW q l
   ·exact cW q (W.2.3 a o w n z)
theorem Dx {t:Tg} (x:sX c T ci L H xs g H1) (y:qY c T t ss g xs L (g.fz H1) f L' H2) (og:g.ok H2):qj c T (.for t ci ss) L H f L' (g.th H2):=by
 intro A r env nm ps k s Q E c0 S ok hs h
 refine cF ?_
 apply Mt ok λte pi pb p ok=>?_
 apply oW ok λhn xS Dy yw=>?_
 refine wpAny_For (x S Dy λk1 s1 T1 s2 I T2 fI w X=>?_) (zY Dy)
 have S2:=(S.go T1).go T2
 have Dz:=T1.bk fI
 have fi:ud k1 H1 s2.heap I:=⟨T1.1.xR fI,X.elim λP x=>qh (x.2.1 x.1)⟩
 suffices M:∀R:Result->Shared->Prop,(∀fv s',Q fv s'->R (.ok fv) s')->codeAny (Md c) A (.forLoop te (.ref I) pb [] env) R s2 from M _ λ_ _ q=>q
 intro R hR
 have main:∀{Hz H3:Hp},g.fz H1=Hz->g.th H2=H3->dw c k1 Hz s2.heap->Loc c k1 Hz s2.heap env nm L->nJ k1 Hz I->(∀{k3 h3},jx (JD env I) k1 Hz s2.heap k3 H2 h3->jx (JD env I) k1 H1 s2.heap k3 H3 h3)->
   (∀{k3 h'},dw c k3 H2 h'->dw c k3 H3 h')->(∀{k3 h'},Loc c k3 H2 h' env nm L'->Loc c k3 H3 h' env nm L')->(∀{k3 h' fv},B4 c k3 H2 h' f fv->B4 c k3 H3 h' f fv)->codeAny (Md c) A (.forLoop te (.ref I) pb [] env) R s2:=by
  intro Hz H3 e1 e2 Sz Lz nI f1 f2 f3 f4
  subst e1 e2
  refine y ⟨S.1,Sz,Lz⟩ xS yw hn X nI (s7 S.3 Dz) (S.2.FK Dz) λk3 s3 fv h' t W3 oi S3 X3 F3=>?_
  have V:cX c (JD env I) k1 H1 s2 k3 (g.th H2) s3:=⟨f2 W3.1,f1 W3.2,W3.3⟩
  have U:cX c (JD env I) k H s k1 H1 s2:=(T1.trans T2).up (λ_ _ z _=>z.elim) λb z=>z.elim (λz=>(S.3.own z).1.ow) λz=>(S.2.xR (z▸Dz)).ow
  exact hR _ _ (h _ _ _ (((U.trans V).up (λb o z l=>z.elim id λz=>cW Dz (z▸l)) λb q=>(S.3.own q).1.ow).tail Dz (f2 S3) oi) (f3 X3) (f4 F3))
 have dict:∀{aa:Nat} {o oz:O},g.fz H1=H1.set aa oz->g.th H2=H2.set aa o->H1[aa]?=some o->H2[aa]?=some oz->o.owned=true->o.dL=false->oz.owned=false->oz.dL=false->oz.made=true->(∀{k H h},OR c k H h aa o->OR c k H h aa oz)->(∀{k H h},OR c k H h aa oz->OR c k H h aa o)->codeAny (Md c) A (.forLoop te (.ref I) pb [] env) R s2:=by
  intro aa o oz e1 e2 q1 q2 w1 w2 w3 w4 w5 r1 r2
  have i:oz.dL=o.dL:=w4.trans w2.symm
  have m:oz.made=o.made:=w5.trans (O.Ji w1).symm
  exact main e1 e2 (S2.2.Dw q1 i m (r1 (S2.2.2 _ _ q1))) (S2.3.Dw q1 i) (Iu q1 i fi.1) (λW=>jx.Pa S2.2 q1 w1 w2 W q2 w3) (λZ=>Z.Dw q2 i.symm m.symm (r2 (Z.2 _ _ q2))) (λZ=>Z.Dw q2 i.symm) λZ=>Z.set
 cases g with
 |none|list=>exact main rfl rfl S2.2 S2.3 fi.1 id id id id
 |bc aa dd=>exact dict rfl rfl w og rfl rfl rfl rfl rfl id id
 |bV aa dd=>exact dict rfl rfl w og rfl rfl rfl rfl rfl id id
end
end
section
noncomputable def Acc (c:Cx) (k:Lk) (H:Hp) (h:Heap) (D:Addr) (acc:List V):Prop:=nJ k H D∧∃vs n,h.get? D=some (lL vs n)∧eH c k H h acc vs
inductive CW (c:Cx) (A:Around) (r:Nat) (env:Env) (nm:List Str) (x:Str) (I D:Addr) (g:Gd) (L1:Lc) (k:Lk) (H:Hp) (s:Shared) (xs acc:List V):Prop
 |mk (st:∃old,St c A r k H s env nm (L1++[old])) (it:i8 c k H s.heap I g xs) (nI:nJ k H I) (ac:Acc c k H s.heap D acc) (nx:nm[L1.length]?=some x) (lx:env.kindOf x=some .local) (pI:¬B2 env I) (bI:c.hb.get? I=none) (pD:¬B2 env D) (bD:c.hb.get? D=none) (ne:D≠I)
noncomputable def N5 (env:Env) (I D a:Addr):Prop:=a=env.locals∨a=I∨a=D
noncomputable def kM (c:Cx) (T:Tb) (elt:CE) (ifs:mo) (L1:Lc) (g:Gd) (xs acc:List V) (H:Hp) (ys:List V) (H':Hp):Prop:=
 ∀{A:Around} {r:Nat} {env:Env} {nm:List Str} {x:Str} {px:Pos} {iter DA:Expr} {qk:List Expr} {scope:Scope} {pos:Pos} {k:Lk} {s:Shared} {I D:Addr} {R:Result->Shared->Prop},
  CW c A r env nm x I D g L1 k H s xs acc->gH T r env.scope nm elt DA=true->jp T r env.scope nm ifs qk=true->
  (∀k' s' h' t,cX c (N5 env I D) k H s k' H' s'->mT I s'.heap h'->dw c k' H' h'->(∃m,h'.Ns env.locals m)->nJ k' H' env.locals->Acc c k' H' h' D ys->R (.ok .next) {s' with heap:=h',toks:=t})->
  codeAny (Md c) A (.compLoop (.ListComp DA [⟨.Name x px,iter,qk,0⟩] scope pos) 0 (.ref I) (.ref D) env) R s
section
variable {c:Cx} {T:Tb} {L1:Lc} {H H1 H2 H3 H':Hp} {h h':Heap} {elt:CE} {v x:V} {k k':Lk} {s s':Shared} {A:Around} {r:Nat} {E:Value->Shared->Prop} {env:Env} {nm:List Str} {I D:Addr} {g:Gd} {xs acc ys:List V} {ifs:mo} {xn:Str} {Y:Addr->Prop}
theorem DB (env:Env):∀(l:List Expr),(forIn l false λc r=>if r=true then do let ok ←isTrue c env (eval c env);pure (ForInStep.yield ok)else pure (ForInStep.yield r))=(pure false:Sem Bool)
 |[]=>rfl
 |x::l=>by
  rw[jC,if_neg cA,pure_bind]
  exact DB env l
theorem zZ (env:Env):∀(l:List Expr),(forIn l true λc r=>if r=true then do let ok ←isTrue c env (eval c env);pure (ForInStep.yield ok)else pure (ForInStep.yield r))=allTrue .And l env
 |[]=>rfl
 |x::l=>by
  rw[jC,if_pos rfl,bind_assoc]
  refine congrArg (isTrue x env (eval x env)>>= ·) (funext λq=>?_)
  rw[pure_bind]
  cases q with
  |false=>exact DB env l
  |true=>exact zZ env l
theorem Acc.nt (a:Acc c k H h D acc):∃o,h.get? D=some o∧iR o:=a.2.elim λvs z=>z.elim λn z=>⟨_,z.1,oK rfl (by decide)⟩
theorem Acc.mv (a:Acc c k H h D acc) (n:nJ k' H' D) (e:∀o,h.get? D=some o->h'.get? D=some o) (m:Mw k H h k' H' h'):Acc c k' H' h' D acc:=⟨n,a.2.elim λvs z=>z.elim λn z=>⟨vs,n,e _ z.1,z.2.mono m⟩⟩
theorem Acc.go (a:Acc c k H s.heap D acc) (S:dw c k H s.heap) (W:cX c Y k H s k' H' s') (n:∀b,Y b->ud k H s.heap b) (d:¬Y D):Acc c k' H' s'.heap D acc:=
 a.mv (ud.Fs ⟨a.1,a.nt⟩ W.2).1 (λ_=>W.2.3 _ _ a.1.ow d) (W.mv S n)
theorem i8.fr (X:i8 c k H h I g xs) (n:nJ k H I):ud k H h I:=⟨n,X.elim λP x=>qh (x.2.1 x.1)⟩
theorem CW.pl (w:CW c A r env nm xn I D g L1 k H s xs acc):∀b,N5 env I D b->ud k H s.heap b:=λb z=>by
 rcases z with rfl|rfl|rfl
 ·obtain⟨_,S⟩:=w.1;exact S.3.own (.inl rfl)
 ·exact w.2.fr w.3
 ·exact⟨w.4.1,w.4.nt⟩
theorem DC (og:g.ok H):kM c T elt ifs L1 g [] acc H acc H:=by
 intro A r env nm x px iter DA qk scope pos k s I D R w vt Dy h
 obtain⟨old,S⟩:=w.1
 obtain⟨P,p,K⟩:=w.2
 have f:=qh (K.1 p)
 refine sY (K.4 S.1.1 p S.2 λh' tk oi=>?_)
 have L2:=S.3.wK w.7 f oi
 exact h k s h' tk (cX.refl S.2) oi (S.2.wK w.3 f w.8 oi) (L2.4.elim λm z=>⟨m,z.1⟩) (L2.own (.inl rfl)).1 (w.4.mv w.4.1 (λo=>oi _ o w.11) (Jx (K.1 p) oi))
theorem uK {b0:Bool} {Nn:Shared->Prop} {px:Pos} {qk:List Expr} {Q:Bool->Shared->Prop} {E':Value->Shared->Prop} (w:CW c A r env nm xn I D g L1 k H s (x::xs) acc) (Dy:jp T r env.scope nm ifs qk=true) (og:g.ok H) (y:iC c T .And ifs (L1++[some x]) H b0 H1) (MG:g.ok H1)
  (h:∀k2 s2,cX c (N5 env I D) k H s k2 H1 s2->St c A r k2 H1 s2 env nm (L1++[some x])->CW c A r env nm xn I D g L1 k2 H1 s2 xs acc->Q b0 s2):
  wpAny (Md c) A (pyNext (.ref I)) (CQ1 c A env (.Name xn px) (.ref I) qk Nn Q E') E' s:=by
 obtain⟨old,S⟩:=w.1
 obtain⟨P,p,K⟩:=w.2
 have f:=qh (K.1 p)
 refine K.3 S.1.1 p S.2 w.3 λh' tk v' oi rv p'=>?_
 have W0:=cX.wK (t:=tk) S.2 ⟨w.3,f⟩ w.8 oi (qh (K.1 p'))
 have L2:=S.3.wK w.7 f oi
 have A2:=w.4.mv w.4.1 (λo=>oi _ o w.11) (Jx (K.1 p) oi)
 refine wpAny_pure (wpAny_assign_Name (L2.Da (s:={s with heap:=h',toks:=tk}) W0.1 w.5 (.inl w.6) rv λb s3 _ eb W3 L3=>?_))
 cases eb w.6
 have fl:∀b,b=env.locals->ud k H h' b:=λb z=>cq z▸L2.own (.inl rfl)
 have A3:=A2.go (s:={s with heap:=h',toks:=tk}) W0.1 W3 fl λz=>w.9 (.inl z)
 have I3:=i8.go (s:={s with heap:=h',toks:=tk}) ⟨P,p',K⟩ W0.1 W3 fl w.3 (λz=>w.7 (.inl z)) og
 rw[List.set_append_right _ _ (aC _),eg]at L3
 rw[zZ]
 have S3:St c A r k H s3 env nm (L1++[some x]):=⟨S.1,W3.1,L3⟩
 refine y S3 Dy λk4 s4 T4=>?_
 have S4:=S3.go T4
 refine h k4 s4 (((W0.up (λ_ _ z _=>.inr (.inl z)) λb z=>(w.pl b z).1.ow).trans (W3.up (λ_ _ z _=>.inl z) λb z=>(w.pl b z).1.ow)).trans (T4.up (λ_ _ z _=>z.elim) λb z=>(w.pl b z).1.ow)) S4
  ⟨⟨_,S4⟩,I3.go W3.1 T4 (λ_ z=>z.elim) w.3 id MG,((I3.fr w.3).Fs T4.2).1,A3.go W3.1 T4 (λ_ z=>z.elim) id,w.5,w.6,w.7,w.8,w.9,w.10,w.11⟩
theorem JJ (og:g.ok H) (t:iC c T .And ifs (L1++[some x]) H false H1) (MG:g.ok H1) (w':kM c T elt ifs L1 g xs acc H1 ys H2):kM c T elt ifs L1 g (x::xs) acc H ys H2:=by
 intro A r env nm xn px iter DA qk scope pos k s I D R w vt Dy h
 refine sY (uK w Dy og t MG λk2 s2 W2 S2 w2=>?_)
 unfold CQ
 rw[if_neg cA]
 exact w' w2 vt Dy λk3 s3 h' t W3=>h k3 s3 h' t (W2.trans W3)
theorem JK (og:g.ok H) (t:iC c T .And ifs (L1++[some x]) H true H1) (e':b9 c T elt (L1++[some x]) H1 v H2) (z:acc.length<SZ) (Lj:g.ok H2) (MG:g.ok H1) (w':kM c T elt ifs L1 g xs (acc++[v]) H2 ys H3):
  kM c T elt ifs L1 g (x::xs) acc H ys H3:=by
 intro A r env nm xn px iter DA qk scope pos k s I D R w vt Dy h
 refine sY (uK w Dy og t MG λk2 s2 W2 S2 w2=>?_)
 unfold CQ
 rw[if_pos rfl]
 refine e' S2 vt λk3 s3 v3 T3 R3=>?_
 have S3:=S2.go T3
 have A3:=w2.4.go S2.2 T3 (λ_ z=>z.elim) id
 have I3:=w2.2.go S2.2 T3 (λ_ z=>z.elim) w2.3 id Lj
 have nI:=((w2.2.fr w2.3).Fs T3.2).1
 have nD:=A3.nt
 obtain⟨n3,vs,n,g3,R⟩:=A3
 refine wpAny_list_append_plain (items:=vs.toArray) ⟨n,g3⟩ (λh' hp hs=>?_) (by rw[gh,bS,←R.length];exact aK z)
 obtain⟨n',gp⟩:=hp
 rw[List.push_toArray]at gp
 have W4:=cX.wK (t:=s3.toks) S3.2 ⟨n3,nD⟩ w2.10 (uH hs) ⟨_,gp,oK rfl (by decide)⟩
 have W24:=(T3.up (λ_ _ z _=>z.elim) λb z=>(w2.pl b z).1.ow).trans (W4.up (λ_ _ z _=>.inr (.inr z)) λb z=>by
  rcases z with rfl|rfl|rfl
  ·exact(S3.3.own (.inl rfl)).1.ow
  ·exact nI.ow
  ·exact n3.ow)
 exact w' ⟨⟨_,S3.1,W4.1,S3.3.wK w2.9 nD (uH hs)⟩,I3.go S3.2 W4 (λ_ z=>cq z▸⟨n3,nD⟩) nI (λz=>w2.11 z.symm) Lj,nI,⟨n3,_,n',gp,(R.append (.one R3)).mono (W4.mv S3.2 λ_ z=>cq z▸⟨n3,nD⟩)⟩,w2.5,w2.6,w2.7,w2.8,w2.9,w2.10,w2.11⟩ vt Dy
  λk5 s5 h' t W5=>h k5 s5 h' t (W2.trans (W24.trans W5))
end
end
section
section
variable {c:Cx} {T:Tb} {L L1:Lc} {H H1 H2:Hp} {h':Heap} {elt:CE} {k:Lk} {s:Shared} {A:Around} {r:Nat} {E:Value->Shared->Prop} {env:Env} {nm:List Str} {g:Gd} {xs ys:List V} {ifs:mo}
noncomputable def s_ (env:Env):List (Str×NameKind)->List (Str×Addr)->List (Str×Addr)
 |[],acc=>acc
 |y::l,acc=>s_ env l (if(y.2== .free)=true then(y.1,(env.cells.lookup y.1).getD 0)::acc else acc)
theorem yy {y:Str×NameKind} {l:List (Str×NameKind)} {acc:List (Str×Addr)}:s_ env (y::l) acc=s_ env l (if(y.2== .free)=true then(y.1,(env.cells.lookup y.1).getD 0)::acc else acc):=rfl
theorem z6:∀(l:List (Str×NameKind)) (acc:List (Str×Addr)),(∀y∈l,y.2= .free->∃a,env.cells.lookup y.1=some a)->
  (forIn l acc λx r=>if(x.2== .free)=true then do let a ←cellOf env x.1;pure (ForInStep.yield ((x.1,a)::r))else pure (ForInStep.yield r))=(pure (s_ env l acc):Sem _)
 |[],acc,_=>rfl
 |y::l,acc,hl=>by
  rw[jC]
  have ih:=λacc=>z6 l acc λy hy=>hl y (aL _ hy)
  rw[yy]
  by_cases q:(y.2== .free)=true
  ·obtain⟨a,ha⟩:=hl y aP (cJ q)
   rw[if_pos q,if_pos q]
   unfold cellOf
   rw[ha]
   exact ih _
  ·rw[if_neg q,if_neg q];exact ih _
theorem vv {n:Str} {a:Addr}:∀(l:List (Str×NameKind)) (acc:List (Str×Addr)),(∀y∈l,y.2= .free->∃a,env.cells.lookup y.1=some a)->(s_ env l acc).lookup n=some a->acc.lookup n=some a∨((n,NameKind.free)∈l∧env.cells.lookup n=some a)
 |[],acc,_,h=>.inl h
 |y::l,acc,hl,h=>by
  rw[yy]at h
  rcases vv l _ (λy hy=>hl y (aL _ hy)) h with h|h
  ·by_cases q:(y.2== .free)=true
   ·rw[if_pos q,bO]at h
    cases z:n==y.1 with
    |false=>rw[z]at h;exact .inl h
    |true=>
     rw[z]at h
     obtain⟨a',ha⟩:=hl y aP (cJ q)
     rw[ha]at h
     have e:=cJ z
     exact .inr ⟨e▸(cJ q:y.2=_)▸aP,e▸ha.trans h⟩
   ·rw[if_neg q]at h;exact .inl h
  ·exact .inr ⟨aL _ h.1,h.2⟩
theorem uL {n:Str}:∀(l:List (Str×NameKind)) (acc:List (Str×Addr)),(n,NameKind.free)∈l∨(acc.lookup n).isSome=true->((s_ env l acc).lookup n).isSome=true
 |[],acc,h=>h.elim (λh=>absurd h aQ) id
 |y::l,acc,h=>by
  rw[yy]
  refine uL l _ ?_
  have key:y=(n,.free)∨(acc.lookup n).isSome=true->((if(y.2== .free)=true then(y.1,(env.cells.lookup y.1).getD 0)::acc else acc).lookup n).isSome=true:=λh=>by
   split
   ·rw[bO]
    cases z:n==y.1 with
    |true=>rfl
    |false=>exact h.elim (λe=>by rw[e,beq_self_eq_true]at z;exact ff z.symm) id
   ·rename_i q
    exact h.elim (λe=>absurd (by rw[e];rfl) q) id
  exact h.elim (λh=>(aI.mp h).elim (λe=>.inr (key (.inl e.symm))) .inl) λh=>.inr (key (.inr h))
theorem oN:∀{l:List (Str×NameKind)} {n:Str} {kd:NameKind},l.lookup n=some kd->(n,kd)∈l
 |p::l,n,kd,h=>by
  rw[bO]at h
  cases q:n==p.1 with
  |true=>rw[q]at h;cases h;rw[beq_iff_eq.mp q];exact aP
  |false=>rw[q]at h;exact aL _ (oN h)
theorem wP {f:Str->NameKind->NameKind} {n:Str}:∀{l:List (Str×NameKind)},(l.map λx=>(x.1,f x.1 x.2)).lookup n=(l.lookup n).map (f n)
 |[]=>rfl
 |x::l=>by
  rw[bQ,bO,bO]
  cases z:n==x.1 with
  |true=>cases beq_iff_eq.mp z;rfl
  |false=>exact wP
noncomputable def MH (sc:Scope) (n:Str) (kd:NameKind):NameKind:=if(kd== .free&&sc.kind== .function&&sc.names.lookup n==some .cell)=true then .cell else kd
theorem z7 {iZ:Scope} {cl:List (Str×Addr)} {C:Addr} {n:Str}:(compEnvC iZ cl C env).kindOf n=(iZ.names.lookup n).map (MH env.scope n):=by
 refine Eq.trans (congrArg (List.lookup n) (cS λx _=>?_)) (wP (f:=MH env.scope) (l:=iZ.names))
 unfold MH
 exact(apply_ite (Prod.mk x.1) _ _ _).symm
inductive MI (sc iZ:Scope) (nm:List Str) (x:Str):Prop
 |mk (fn:iZ.kind= .function) (xl:iZ.names.lookup x=some .local) (Pb:∀y∈iZ.names,y.2≠ .cell) (look:∀y∈iZ.names,iZ.names.lookup y.1=some y.2) (free:∀y∈iZ.names,y.2= .free->(sc.names.lookup y.1=some .cell∨sc.names.lookup y.1=some .free)∧y.1∈nm)
theorem Pc {sc iZ:Scope} {x:Str} (h:vh sc iZ nm x=true):MI sc iZ nm x:=by
 apply oW h λh1 _ h2 h3=>?_
 have h3:=bv.mp h3
 refine⟨cJ h1,cJ h2,λy hy=>bne_iff_ne.mp (cI (cI (h3 y hy)).1).1,λy hy=>cJ (cI (cI (h3 y hy)).1).2,λy hy q=>?_⟩
 rcases cD.mp (cI (h3 y hy)).2 with z|z
 ·exact absurd q (bne_iff_ne.mp z)
 ·apply i7 z λ_ z1 z2=>?_
  exact⟨(cD.mp z1).imp cJ cJ,cV.mp z2⟩
end
end
section
section
variable {c:Cx} {T:Tb} {L L1:Lc} {H H1 H2:Hp} {h':Heap} {elt:CE} {k:Lk} {s:Shared} {A:Around} {r:Nat} {E:Value->Shared->Prop} {env:Env} {nm:List Str} {g:Gd} {xs ys:List V} {ifs:mo}
theorem Iv {iZ:Scope} {xn:Str} {caps:List Nat} (oc:sR nm iZ xn caps=true):∀i∈caps,nm[i]?=some (nm.getD i Str.empty)∧iZ.names.lookup (nm.getD i Str.empty)=some .free∧nm.getD i Str.empty≠xn:=λi hi=>by
 have:=bv.mp (cI oc).1 i hi
 rw[aE]
 cases q:nm[i]? with
 |none=>rw[q]at this;exact ff this
 |some n=>rw[q]at this;exact⟨rfl,cJ (cI this).1,bne_iff_ne.mp (cI this).2⟩
theorem Iw {P:Prop} {iZ:Scope} {xn:Str} {caps:List Nat} {j:Nat} {n:Str} (oc:sR nm iZ xn caps=true) (q:(ig nm caps++[xn])[j]?=some n)
  (f:∀i:Nat,nm[i]?=some n->iZ.names.lookup n=some .free->(∀y:V,(caps.map (λi:Nat=>(L[i]?).join)++[none])[j]?=some (some y)->L[i]?=some (some y))->P) (g:n=xn->(caps.map (λi:Nat=>(L[i]?).join)++[none])[j]?=some none->P):P:=by
 have e:(ig nm caps).length=caps.length:=ae _
 rcases ba j caps.length with l|l
 ·rw[aG (e.symm▸l)]at q
  unfold ig at q
  rw[aH,ao l]at q
  cases q
  obtain⟨h1,h2,_⟩:=Iv oc _ (g_ l)
  refine f _ h1 h2 λy hy=>?_
  rw[aG (by rw[ae];exact l),aH,ao l]at hy
  exact Option.join_eq_some_iff.mp (ax hy)
 ·have q':=j0 q
  rw[aq,e]at q'
  cases bP (bB q') l
  refine g ?_ ?_
  ·rw[←e,bt]at q;exact(ax q).symm
  ·exact(congrArg (λn=>(caps.map (λi:Nat=>(L[i]?).join)++[none])[n]?) (ae (as:=caps) (λi=>(L[i]?).join)).symm).trans bt
theorem GC {iZ:Scope} {xn:Str} {caps:List Nat} {C:Addr} (L0:Loc c k H s.heap env nm L) (S:dw c k H s.heap) (O:MI env.scope iZ nm xn) (oc:sR nm iZ xn caps=true) (hl:∀y∈iZ.names,y.2= .free->∃a,env.cells.lookup y.1=some a)
  (hC:s.heap.get? C=none) (ek:∀b o,s.heap.get? b=some o->h'.get? b=some o) (ns:h'.Ns C λ_=>none):Loc c k H h' (compEnvC iZ (s_ env iZ.names []) C env) (ig nm caps++[xn]) (caps.map (λi=>(L[i]?).join)++[none]):=by
 have hc:∀{n a},(s_ env iZ.names []).lookup n=some a->(n,NameKind.free)∈iZ.names∧env.cells.lookup n=some a:=λq=>(vv _ _ hl q).resolve_left λz=>cW rfl z
 have m:Mw k H s.heap k H h':=.keep ek
 refine⟨⟨O.1,L0.1.2,L0.1.3,?_,S.FK hC,λn a hk q=>?_,λn n' a q q'=>L0.1.7 n n' a (hc q).2 (hc q').2,λn q=>s7 L0 hC (.inr ⟨n,(hc q).2⟩)⟩,?_,λa p=>?_,⟨_,ns,λj n y hn hy hk=>?_⟩,λj n hn hk=>?_⟩
 ·rw[eo]
  refine⟨of_decide_eq_true (cI oc).2,c_.mpr ⟨aQ,List.nodup_nil⟩,λx hx y hy=>?_⟩
  cases ak.mp hy
  obtain⟨i,hi,rfl⟩:=az.mp hx
  exact(Iv oc i hi).2.2
 ·refine L0.1.6 n a ?_ (hc q).2
  rw[z7]at hk
  obtain⟨kd,w1,w2⟩:=aZ.mp hk
  unfold MH at w2
  split at w2
  ·rename_i w;exact cJ (cI w).2
  ·subst w2;exact absurd rfl (O.3 _ (oN w1))
 ·rw[aq,aq,ae];exact congrArg (· +1) (ae _).symm
 ·rcases p with rfl|⟨n,q⟩
  ·exact⟨S.xR hC,C9 ns⟩
  ·have F:=L0.3 a (.inr ⟨n,(hc q).2⟩)
   exact⟨F.1,F.2.elim λo z=>⟨o,ek _ _ z.1,z.2⟩⟩
 ·refine Iw (L:=L) oc hn (λi _ hf _=>?_) λ_ z=>absurd (z.symm.trans hy) (by intro z;cases z)
  rw[z7,hf]at hk
  have hk:=ax hk
  unfold MH at hk
  split at hk<;>cases hk
 ·refine Iw (L:=L) oc hn (λi hi hf hL=>?_) λe _=>?_
  ·obtain⟨a,ov,q1,q2,q4⟩:=L0.5 i n hi (O.5 _ (oN hf) rfl).1
   obtain⟨a',q5⟩:=lH.mp (uL (env:=env) iZ.names [] (.inl (oN hf)))
   cases q1.symm.trans (hc q5).2
   exact⟨a,ov,q5,qc q2 λo=>ek _ o,λy hy=>(q4 y (hL y hy)).elim λv w=>⟨v,w.1,w.2.mono m⟩⟩
  ·cases e
   rw[z7,O.2]at hk
   exact(qi hk rfl (λe=>NameKind.noConfusion e) λe=>NameKind.noConfusion e).elim
end
end
section
section
variable {c:Cx} {T:Tb} {L L1:Lc} {H H1 H2:Hp} {elt:CE} {k:Lk} {s:Shared} {A:Around} {r:Nat} {E:Value->Shared->Prop} {env:Env} {nm:List Str} {g:Gd} {xs ys:List V} {ifs:mo} {a d b:Addr} {o:O}
theorem nJ.add (n:nJ k H b) (h:b=a∨(o.dL=true∧b=d)->False):nJ (k.add H.length a d) (H++[o]) b:=λj y q z=>by
 rcases oL q with⟨l,q⟩|⟨rfl,rfl⟩
 ·exact n j y q (z.old l)
 ·exact h z.new
theorem wQ {it:CI} {caps:List Nat} {use:Option (Value->Sem Unit)} {pe:Expr} {pi:Expr} {qk:List Expr} {xn:Str} {px pos:Pos} {iZ:Scope} {Q:Value->Shared->Prop} (S:St c A r k H s env nm L)
  (x:sX c T it L H xs g H1) (ng:g.Ca=false) (y:kM c T elt ifs (caps.map (λi=>(L[i]?).join)) g xs [] H1 ys H2) (zy:ys.length≤SZ)
  (ok:(vh env.scope iZ nm xn&&(sR nm iZ xn caps&&(LT T r env.scope nm it pi&&(gH T r (qb iZ env.scope) (ig nm caps++[xn]) elt pe&&jp T r (qb iZ env.scope) (ig nm caps++[xn]) ifs qk))))=true)
  (h:∀k' s' D C,du c k H s k' (H2++[.list ys]) s'->VR c k' (H2++[O.list ys]) s'.heap (.ref H2.length) (.ref D)->s.heap.get? C=none->nJ k' (H2++[O.list ys]) C->(∃m,s'.heap.Ns C m)->compPost (Md c) A E use Q (.ref D) C (.ok .next) s'):
  wpAny (Md c) A (comprehension (.ListComp pe [⟨.Name xn px,pi,qk,0⟩] iZ pos) iZ env (firstIterPos [⟨.Name xn px,pi,qk,0⟩] pos) (newList []) false (eval pi env) use) Q E s:=by
 apply u9 ok λos oc oi oe of=>?_
 have O:=Pc os
 have hl:∀y∈iZ.names,y.2= .free->∃a,env.cells.lookup y.1=some a:=λy hy q=>by
  obtain⟨hk,hm⟩:=O.5 y hy q
  obtain⟨i,hi⟩:=aO hm
  obtain⟨a,ov,q1,_⟩:=S.3.5 i y.1 hi hk
  exact⟨a,q1⟩
 have MJ:closureFor iZ env=pure (s_ env iZ.names []):=congrArg (· >>=λcs=>pure cs) (z6 iZ.names [] hl)
 refine wpAny_comprehension_free rfl (zY oi) MJ O.1 (λy hy q=>q▸O.4 y hy) ?_
 refine x S oi λk1 s1 T1 s2 I T2 fI w X=>?_
 have X:i8 c k1 H1 s2.heap I g xs:=by cases g<;>first|exact X|exact ff ng.symm
 have og:g.ok H1:=by cases g<;>first|exact w|exact ff ng.symm
 have nI:=T1.1.xR fI
 have N6:=T1.trans T2
 have S2:=S.go N6
 refine wpAny_newObj_type ?_ (by size_fits)
 generalize hD:s2.heap.push {cls:=.type "list",data:=.seq ([]:List Value).toArray}=hp
 have eD:∀b o,s2.heap.get? b=some o->hp.get? b=some o:=λb o e=>hD▸Heap.get?_push_of_some _ e
 have O3:hp.objs.size=s2.heap.objs.size+1:=hD▸Heap.size_push ..
 have gD:hp.get? s2.heap.objs.size=some (lL [] 0):=hD▸Heap.get?_push_size _ rfl
 refine wpAny_newFunctionEnv (λy hy=>O.3 y hy) (λy hy=>absurd hy aQ) (λh' ns Pd=>?_) O.1
 have eC:∀b o,hp.get? b=some o->h'.get? b=some o:=λb o e=>(Pd.2 b (cr (Heap.lt_size e))).trans (Heap.get?_push_of_some _ e)
 have e2:∀b o,s2.heap.get? b=some o->h'.get? b=some o:=λb o e=>eC b o (eD b o e)
 have fC:s2.heap.get? hp.objs.size=none:=by
  cases z:s2.heap.get? hp.objs.size with
  |none=>rfl
  |some o=>exact absurd (Heap.lt_size (eD _ _ z)) (eO _)
 have fD:=ip s2.heap
 have T3:=du.keeps (t:=s2.toks+([]:List (Str×Value)).length) S2.2 e2
 have T13:=N6.trans T3
 have Dz:=T1.bk fI
 have Pe:=N6.bk fC
 have JL:=N6.bk fD
 have LC:=GC (h':=h') S2.3 S2.2 O oc hl fC e2 ns
 have neD:s2.heap.objs.size≠hp.objs.size:=by rw[O3];exact cr (bT _)
 have Iy:∀{b},s2.heap.get? b=none->b≠I:=λq z=>(X.fr nI).2.elim λo y=>cW q (cq z▸y.1)
 have K_:∀{b},B2 (compEnvC iZ (s_ env iZ.names []) hp.objs.size env) b->b=hp.objs.size∨B2 env b:=λz=>z.imp id fun⟨n,q⟩=>.inr ⟨n,((vv _ _ hl q).resolve_left λz=>cW rfl z).2⟩
 have X3:=X.go S2.2 T3 (λ_ z=>z.elim) nI id og
 have loop:=y (R:=compPost (Md c) A E use Q (.ref s2.heap.objs.size) hp.objs.size) (iter:=pi) (px:=px) (scope:=iZ) (pos:=pos) (I:=I) (D:=s2.heap.objs.size)
  ⟨⟨_,⟨S.1,T3.1,LC⟩⟩,X3,nI,⟨S2.2.xR fD,[],0,eC _ _ gD,rfl⟩,(congrArg (λn=>(ig nm caps++[xn])[n]?) ((ae _).trans (ae (as:=caps) _).symm)).trans bt,by rw[z7,O.2];rfl,
   λz=>(K_ z).elim (λz=>Iy fC z.symm) (s7 S.3 Dz),S.2.FK Dz,λz=>(K_ z).elim neD (s7 S.3 JL),S.2.FK JL,Iy fD⟩ oe of
  λk' s' K4 t W oi' S' MK nC A'=>by
   have U:cX c (N5 (compEnvC iZ (s_ env iZ.names []) hp.objs.size env) I s2.heap.objs.size) k H s k' H2 s':=(T13.up (λ_ _ z _=>z.elim) λb z=>by
    rcases z with rfl|rfl|rfl
    ·exact(S.2.xR Pe).ow
    ·exact(S.2.xR Dz).ow
    ·exact(S.2.xR JL).ow).trans W
   have V:=(U.Iq λb o z l=>by
    rcases z with rfl|rfl|rfl
    ·exact cW Pe l
    ·exact cW Dz l
    ·exact cW JL l).tail (t:=t) Dz S' oi'
   obtain⟨nD,vs,n,gl,R⟩:=A'
   have Z:=cX.add (a:=s2.heap.objs.size) (d:=s2.heap.objs.size) (o:=.list ys) (t:=t) V S.2 (λ_ _ e=>e) (λb z=>z.elim (λz=>z▸⟨JL,nD,S2.2.nP λ_ _ e=>e⟩) λz=>ff z.1) (.lst zy R (.add λ_ _ e=>e) gl)
   exact h _ _ _ _ Z (.new rfl) Pe (nC.add λz=>z.elim neD.symm λz=>ff z.1) MK
 exact codeAny_compStart_list loop (X3.elim λP x=>x.2.5 (s:={s2 with heap:=h',toks:=s2.toks+([]:List (Str×Value)).length}) ng x.1 loop)
theorem A7 {it:CI} {caps:List Nat} (hL:L1=caps.map (λi=>(L[i]?).join)) (x:sX c T it L H xs g H1) (ng:g.Ca=false) (y:kM c T elt ifs L1 g xs [] H1 ys H2) (zy:ys.length≤SZ):zW c T (.comp caps elt it ifs) L H (.ref H2.length) (H2++[.list ys]):=by
 subst hL
 refine⟨?_,λ_=>?_⟩
 ·intro A r env nm pe k s Q E S ok h
  apply x_ ok λpe xn px pi qk iZ pos ok=>?_
  rw[eval_ListComp]
  refine wQ (use:=none) S x ng y zy ok λk' s' D C W R fC nC MK=>?_
  obtain⟨m,ns⟩:=MK
  refine⟨m,ns,λh' hs=>?_⟩
  exact h _ _ _ (W.tail (t:=s'.toks) fC (W.1.wK nC (C9 ns) (S.2.FK fC) (uH hs)) (uH hs)) R
 ·intro A r env nm pe k s use Q E S ok h
  apply x_ ok λpe xn px pi qk iZ pos ok=>?_
  refine wpAny_bind (wQ (use:=some use) (Q:=λ_ s'=>wpAny (Md c) A (pure ()) Q E s') S x ng y zy ok λk' s' D C W R fC nC MK=>?_)
  exact wpAny_mono (h k' s' (.ref D) C W R fC nC MK) (λ_ zF z=>z.1.elim λm ns=>⟨m,ns,λh' hs=>wpAny_pure (z.2 h' hs)⟩) λ_ _ e=>e
end
end
section
section
variable {n:Str}
theorem vx:∀{l r:List (Str×Value)},(l++r).lookup n=(l.lookup n).or (r.lookup n)
 |[],_=>rfl
 |p::l,r=>by
  rw[List.cons_append,bO,bO]
  cases n==p.1 with
  |true=>rfl
  |false=>exact vx
noncomputable def vy (slots:List (Str×Value)):List (Str×Value)->List (Str×Value)
 |[]=>slots
 |p::r=>vy (if(slots.lookup p.1).isNone=true then slots++[(p.1,p.2)]else slots) r
theorem vz:∀(l:List (Str×Value)) (slots:List (Str×Value)),(forIn l slots λx r=>if(List.lookup x.1 r).isNone=true then pure (ForInStep.yield (r++[(x.1,x.2)]))else pure (ForInStep.yield r))=(pure (vy slots l):Sem _)
 |[],_=>rfl
 |p::l,slots=>by
  rw[jC,show vy slots (p::l)=vy (if(slots.lookup p.1).isNone=true then slots++[(p.1,p.2)]else slots) l from rfl]
  by_cases q:(List.lookup p.1 slots).isNone=true
  ·rw[if_pos q,if_pos q];exact vz l _
  ·rw[if_neg q,if_neg q];exact vz l _
theorem uM:∀(l:List (Str×Value)) (slots:List (Str×Value)),(vy slots l).lookup n=(slots.lookup n).or (l.lookup n)
 |[],slots=>(oE).symm
 |p::l,slots=>by
  rw[show vy slots (p::l)=vy (if(slots.lookup p.1).isNone=true then slots++[(p.1,p.2)]else slots) l from rfl,uM,bO]
  cases z:n==p.1 with
  |true=>
   cases cJ z
   cases q:slots.lookup p.1 with
   |some v=>rw[if_neg (by intro h;cases h),q];rfl
   |none=>rw[if_pos (show(none:Option Value).isNone=true from rfl),vx,q,bO,z];rfl
  |false=>
   by_cases q:(List.lookup p.1 slots).isNone=true
   ·rw[if_pos q,vx,bO,z,show([]:List (Str×Value)).lookup n=none from rfl,oE]
   ·rw[if_neg q]
theorem sr:∀{ns:List Str} {vs:List Value} {i:Nat},ns.Nodup->ns[i]?=some n->(ns.zip vs).lookup n=vs[i]?
 |m::ns,[],i,_,_=>rfl
 |m::ns,v::vs,0,_,h=>by
  cases h
  rw[pY,bO,beq_self_eq_true];rfl
 |m::ns,v::vs,i+1,nd,h=>by
  obtain⟨h1,h2⟩:=c_.mp nd
  have h:ns[i]?=some n:=h
  rw[pY,bO,show(n==m)=false from beq_false_of_ne λz=>h1 (z▸am h)]
  exact sr h2 h
theorem GD {f:Str->Option Value} {ns:List Str}:∀{us:List Value},ns.length=us.length->(∀(i:Nat) n,ns[i]?=some n->f n=us[i]?)->ns.filterMap (λn=>(f n).map (n,·))=ns.zip us:=by
 induction ns with
 |nil=>exact λ_ _=>rfl
 |cons m ns ih=>
  intro us e h
  cases us with
  |nil=>cases e
  |cons u us=>
   rw[List.filterMap_cons,h 0 m rfl]
   exact congrArg ((m,u):: ·) (ih (gQ e) λi=>h (i+1))
inductive yz (p:Arguments) (ns:List Str):Prop
 |mk (pos:p.posonlyargs=[]) (args:p.args.map (·.arg)=ns) (va:p.vararg=none) (ko:p.kwonlyargs=[]) (ka:p.kwarg=none) (nd:ns.Nodup)
theorem DD {c:Cx} {A:Around} {E:Value->Shared->Prop} {s:Shared} {fd:FuncData} {ar:List Arg} {kd:List (Option Expr)} {df:List Expr} {vs ds:List Value} {Q:List (Str×Value)->Shared->Prop} (P:fd.params=⟨[],ar,none,[],kd,none,df⟩) (h1:vs.length≤(ar.map (·.arg)).length)
  (h3:ds.length≤(ar.map (·.arg)).length) (hd:∀{Q':Option (Array Value)->Shared->Prop},(∀o:Option (Array Value),(o.getD #[]).toList=ds->Q' o s)->wpAny (Md c) A (seqItems? fd.defaults) Q' E s)
  (hm:(((ar.map (·.arg)).take ((ar.map (·.arg)).length-ds.length)).filter λn=>(((ar.map (·.arg)).zip vs).lookup n).isNone)=[])
  (h:Q ((ar.map (·.arg)).filterMap λn=>((vy ((ar.map (·.arg)).zip vs) (((ar.map (·.arg)).drop ((ar.map (·.arg)).length-ds.length)).zip ds)).lookup n).map (n,·)) s):wpAny (Md c) A (bindArgs fd ⟨vs,[]⟩) Q E s:=by
 unfold bindArgs
 rw[P]
 refine wpAny_bind (wpAny_of_eq rfl (wpAny_bind (hd λo ho=>?_)))
 rw[ho]
 have e1:ds.drop (ds.length-(ar.map (·.arg)).length)=ds:=by rw[nA h3];rfl
 refine(?_:wpAny (Md c) A (if(decide (vs.length>(ar.map (·.arg)).length)&&true)=true then _ else _) Q E s)
 rw[if_neg (by rw[decide_eq_false (bE.mpr h1)];exact cA)]
 refine(?_:wpAny (Md c) A (if(!(((ar.map (·.arg)).take ((ar.map (·.arg)).length-(ds.drop (ds.length-(ar.map (·.arg)).length)).length)).filter λn=>(((ar.map (·.arg)).zip vs).lookup n).isNone).isEmpty)=true then _ else _) Q E s)
 rw[e1,hm,if_neg (show ¬(!([]:List Str).isEmpty)=true from λz=>ff z)]
 refine wpAny_bind (wpAny_of_eq (vz _ _) (wpAny_bind (wpAny_of_eq rfl ?_)))
 have h':Q ((ar.map (λx:Arg=>x.arg)++[]).filterMap λn=>((vy ((ar.map (λx:Arg=>x.arg)).zip vs) (((ar.map (λx:Arg=>x.arg)).drop ((ar.map (λx:Arg=>x.arg)).length-(ds.drop (ds.length-(ar.map (λx:Arg=>x.arg)).length)).length)).zip (ds.drop (ds.length-(ar.map (λx:Arg=>x.arg)).length)))).lookup n).map (n,·)) s:=by rw[e1,aN];exact h
 exact wpAny_pure h'
theorem GE {c:Cx} {A:Around} {E:Value->Shared->Prop} {s:Shared} {fd:FuncData} {ns:List Str} {vs ds:List Value} {Q:List (Str×Value)->Shared->Prop} (P:yz fd.params ns) (h1:vs.length≤ns.length) (h2:ns.length≤vs.length+ds.length) (h3:ds.length≤ns.length)
  (hd:∀{Q':Option (Array Value)->Shared->Prop},(∀o:Option (Array Value),(o.getD #[]).toList=ds->Q' o s)->wpAny (Md c) A (seqItems? fd.defaults) Q' E s)
  (h:Q (ns.zip (vs++ds.drop (vs.length+ds.length-ns.length))) s):wpAny (Md c) A (bindArgs fd ⟨vs,[]⟩) Q E s:=by
 have hp:∃kd df,fd.params=⟨[],fd.params.args,none,[],kd,none,df⟩:=by
  have q:=P.1;have q1:=P.3;have q2:=P.4;have q3:=P.5
  cases e:fd.params
  rw[e]at q q1 q2 q3
  cases q;cases q1;cases q2;cases q3
  exact⟨_,_,rfl⟩
 obtain⟨kd,df,hp⟩:=hp
 have hf:ns.length-ds.length≤vs.length:=dJ h2
 have sub:vs.length+ds.length-ns.length=vs.length-(ns.length-ds.length):=(k_ _ h3).symm
 refine DD hp (P.2.symm▸h1) (P.2.symm▸h3) hd ?_ ?_
 ·rw[P.2,dN]
  intro n hn
  obtain⟨i,hi⟩:=aO hn
  have li:=aw (j0 hi) (by rw[eQ];exact Nat.min_le_left _ _)
  rw[iv li]at hi
  rw[sr P.6 hi,ao (aw li hf)]
  exact λz=>ff z
 ·rw[P.2,GD (us:=vs++ds.drop (vs.length+ds.length-ns.length)) (by rw[aq,gO,dO vs.length ds.length,←k_ _ h1,lY (dJ (dO .. ▸h2)),cU h1]) λi n hi=>?_]
  ·exact h
  ·rw[uM,sr P.6 hi]
   rcases ba i vs.length with l|l
   ·rw[aG l,ao l];rfl
   ·have l2:=aj hf l
    have hi2:(ns.drop (ns.length-ds.length))[i-(ns.length-ds.length)]?=some n:=by rw[dF,cU l2];exact hi
    rw[aY l,bR l,Option.none_or,sr (P.6.sublist (List.drop_sublist _ _)) hi2,dF,sub]
    exact congrArg (λi:Nat=>ds[i]?) ((Nat.sub_add_sub_cancel l hf).symm.trans (dO ..))
end
end
section
inductive FnAt (c:Cx) (T:Tb) (f:Nat) (d:Fn) (fd:FuncData) (body:List Stmt) (nm:List Str) (rf:Nat):Prop
 |mk (at_:∃oc od Gq,c.K.lookup (c.G.fa f)=some ⟨oc,od,.func fd,Gq⟩) (bd:fd.body= .stmts body) (gl:fd.globals=mainGlobals) (bi:fd.builtins=builtinsNs) (cd:codeIn c.K fd.code fd.qualname=true) (co:fd.scope.isCoroutine=false) (gen:fd.scope.isGenerator=false) (kd:fd.scope.kind= .function) (rk:T.rk[f]?=some rf) (len:nm.length=d.nl) (np:d.np≤d.nl) (nd:nm.Nodup) (ok:sZ T rf fd.scope nm d.body body=true) (par:yz fd.params (nm.take d.np)) (dl:d.defs.length≤d.np) (df:(fd.defaults= .none∧d.defs=[])∨∃t vs e,fd.defaults= .ref t∧c.hb.get? t=some (ic vs e)∧∀k H h,eH c k H h d.defs vs) (kinds:∀n∈nm,fd.scope.names.lookup n=some .local∨fd.scope.names.lookup n=some .cell)
inductive FnS (c:Cx) (T:Tb) (f:Nat) (fd:FuncData) (nm:List Str):Prop
 |mk (clo:∃s6 cc D,fd.closure=[(("__class__":Str),cc)]∧fd.code= .ref s6∧Dh c T fd.scope (c.G.fa f) s6 cc D (nm.getD 0 Str.empty)) (nc:∀x∈fd.scope.names,x.2≠ .cell) (loc:∀n∈nm,fd.scope.names.lookup n=some .local)
section
variable {kf:Str->Option NameKind} {n:Str} {v:Value}
theorem uN:∀{l:List (Str×Value)} {m:Str->Option Value},n∉l.map (·.1)->bindL kf l m n=m n
 |[],_,_=>rfl
 |x::l,m,h=>by
  refine(uN (l:=l) λz=>h (aL _ z)).trans ?_
  split
  ·exact if_neg λz:n=x.1=>h (by rw[z];exact aP)
  ·rfl
theorem uO:∀{l:List (Str×Value)} {m:Str->Option Value},n∉l.map (·.1)->bindC kf l m n=m n
 |[],_,_=>rfl
 |x::l,m,h=>by
  refine(uO (l:=l) λz=>h (aL _ z)).trans ?_
  split
  ·rfl
  ·exact if_neg λz:n=x.1=>h (by rw[z];exact aP)
theorem uP:∀{l:List (Str×Value)} {m:Str->Option Value},(l.map (·.1)).Nodup->(n,v)∈l->kf n=some .local->bindL kf l m n=some v
 |x::l,m,h,hm,hk=>by
  obtain⟨h1,h2⟩:=c_.mp h
  rcases aI.mp hm with e|hm
  ·cases e;exact(uN h1).trans ((congrFun (if_pos hk) n).trans (if_pos rfl))
  ·exact uP (l:=l) h2 hm hk
theorem uQ:∀{l:List (Str×Value)} {m:Str->Option Value},(l.map (·.1)).Nodup->(n,v)∈l->kf n=some .cell->bindC kf l m n=some v
 |x::l,m,h,hm,hk=>by
  obtain⟨h1,h2⟩:=c_.mp h
  rcases aI.mp hm with e|hm
  ·cases e;exact(uO h1).trans ((congrFun (if_neg λz=>NameKind.noConfusion (ax (hk.symm.trans z))) n).trans (if_pos rfl))
  ·exact uQ (l:=l) h2 hm hk
theorem DE {α:Type} {x:Str} {a:α} {l:List (Str×α)} (h:(l.lookup n).isSome=true):(((x,a)::l).lookup n).isSome=true:=by
 rw[bO]
 cases n==x with
 |true=>rfl
 |false=>exact h
theorem lq:∀{names:List (Str×NameKind)} {i:Nat} {acc:List (Str×Addr)},(acc.lookup n).isSome=true->((cellsFrom i names acc).lookup n).isSome=true
 |[],_,_,h=>h
 |x::r,i,acc,h=>by
  show(List.lookup n (if(x.2== .cell)=true then _ else _)).isSome=true
  split
  ·exact lq (DE h)
  ·exact lq h
theorem cellsFrom_some:∀{names:List (Str×NameKind)} {i:Nat} {acc:List (Str×Addr)},names.lookup n=some .cell->((cellsFrom i names acc).lookup n).isSome=true
 |x::r,i,acc,h=>by
  rw[bO]at h
  show(List.lookup n (if(x.2== .cell)=true then cellsFrom (i+1) r ((x.1,i)::acc)else cellsFrom i r acc)).isSome=true
  cases q:n==x.1 with
  |true=>
   rw[q]at h
   rw[if_pos (show(x.2==NameKind.cell)=true by rw[ax h];rfl)]
   exact lq (by rw[bO,q];rfl)
  |false=>
   rw[q]at h
   split<;>exact cellsFrom_some h
theorem z8:∀(ns:List Str) (vs:List Value),ns.length=vs.length->(ns.zip vs).map (·.1)=ns
 |[],_,_=>rfl
 |n::ns,v::vs,h=>congrArg (n:: ·) (z8 ns vs (gQ h))
theorem A8 {l:List (Str×Value)} (h:(l.map (·.1)).Nodup) (hm:(n,v)∈l):l.lookup n=some v:=by
 induction l with
 |nil=>cases hm
 |cons p l ih=>
  obtain⟨h1,h2⟩:=c_.mp h
  rw[bO]
  rcases aI.mp hm with e|hm
  ·cases e;rw[beq_self_eq_true]
  ·rw[show(n==p.1)=false from beq_false_of_ne λz=>h1 (by show p.1∈_;rw[←z];exact pc (f:=(·.1)) hm)];exact ih h2 hm
end
inductive JM (A:Around) (r:Nat):Prop
 |mk (hd:A.handled=none) (dp:A.depth+3*r+18<recursionLimit) (un:A.units+40*r+170<cLine) (fr:∃l,A.frames=some l)
noncomputable def wR (c:Cx) (T:Tb) (f:Nat) (vs:List V) (H:Hp) (v:V) (H':Hp):Prop:=
 ∀{A:Around} {r:Nat} {k:Lk} {s:Shared} {args:List Value} {R:Result->Shared->Prop},JM A r->wm T f r=true->dw c k H s.heap->eH c k H s.heap vs args->
  (∀k' s' v',du c k H s k' H' s'->VR c k' H' s'.heap v v'->R (.ok (.ret v')) s')->codeAny (Md c) A (.call (.ref (c.G.fa f)) ⟨args,[]⟩) R s
section
variable {c:Cx} {T:Tb} {k:Lk} {s s1:Shared} {H H':Hp} {A:Around} {f:Nat} {d:Fn} {fd:FuncData} {body:List Stmt} {nm:List Str} {rf r:Nat} {vs:List V} {args us:List Value} {env:Env} {h1:Heap}
theorem B3.Pf (x:B3 A r):JM A r:=⟨x.1,Ij x.2 (by decide),Ij x.3 (by decide),x.4⟩
theorem JM.deeper (x:JM A r) {q:Nat} (h:q<r):B3 (A.deeper env) q:=by
 obtain⟨l,hl⟩:=x.4
 exact⟨x.1,aA (show A.depth+1+3*q+20≤A.depth+3*r+18 by have:=bH 3 h;rw[Nat.mul_succ]at this;omega) x.2,aA (show A.units+3+40*q+200≤A.units+40*r+170 by have:=bH 40 h;rw[Nat.mul_succ]at this;omega) x.3,⟨_,Around.frames_deeper hl⟩⟩
theorem wS {m:Str->Option Value} (F:FnAt c T f d fd body nm rf) (S:dw c k H s.heap) (RV:eH c k H s.heap (vs++d.defs.drop (vs.length+d.defs.length-d.np)) us) (hl:us.length=d.np) (e1:env.scope=fd.scope) (e2:env.globals=fd.globals) (e3:env.builtins=fd.builtins)
  (fL:s.heap.get? env.locals=none) (keep:∀b o,s.heap.get? b=some o->h1.get? b=some o) (ns:h1.Ns env.locals m) (hm:∀n v,(n,v)∈(nm.take d.np).zip us->env.kindOf n=some .local->m n=some v)
  (hc:∀n a,env.cells.lookup n=some a->nJ k H a∧(∃o,h1.get? a=some o∧iR o)∧a≠env.locals∧(env.kindOf n=some .cell->c.hb.get? a=none)) (cap:∀n n' a,env.cells.lookup n=some a->env.cells.lookup n'=some a->n=n')
  (hv:∀n∈nm,(env.kindOf n=some .cell∨env.kindOf n=some .free)->∃a ov,env.cells.lookup n=some a∧h1.IsCell a ov∧∀v,(n,v)∈(nm.take d.np).zip us->ov=some v):Loc c k H h1 env nm (d.start vs):=by
 have mv:Mw k H s.heap k H h1:=.keep keep
 have ll:=RV.length.trans hl
 have arg:∀(i:Nat) n x,nm[i]?=some n->(d.start vs)[i]?=some (some x)->∃v,(n,v)∈(nm.take d.np).zip us∧VR c k H s.heap x v:=λi n x hn hx=>by
  unfold Fn.start at hx
  rcases ba i d.np with li|li
  ·rw[aG (by rw[ae,ll];exact li),aH]at hx
   obtain⟨y,hy,hyx⟩:=aZ.mp hx
   cases hyx
   obtain⟨v,hv,rv⟩:=RV.get hy
   exact⟨v,am (List.getElem?_zip_eq_some.mpr ⟨(iv li).trans hn,hv⟩),rv⟩
  ·rw[aY (by rw[ae,ll];exact li)]at hx
   cases iw (am hx)
 refine⟨⟨e1▸F.8,e2.trans F.3,e3.trans F.4,F.12,S.FK fL,λn a q q'=>(hc n a q').2.2.2 q,cap,λn q=>(hc n _ q).2.2.1 rfl⟩,?_,λa p=>?_,⟨m,ns,λi n x hn hx hk=>(arg i n x hn hx).elim λv z=>⟨v,hm n v z.1 hk,z.2.mono mv⟩⟩,λi n hn hk=>(hv n (am hn) hk).elim λa z=>z.elim λov z=>⟨a,ov,z.1,z.2.1,λx hx=>(arg i n x hn hx).elim λv y=>⟨v,z.2.2 v y.1,y.2.mono mv⟩⟩⟩
 ·unfold Fn.start
  rw[aq,ae,ll,bX,F.10];exact cU F.11
 ·rcases p with rfl|⟨n,q⟩
  ·exact⟨S.xR fL,C9 ns⟩
  ·exact⟨(hc n a q).1,(hc n a q).2.1⟩
theorem runCore (F:FnAt c T f d fd body nm rf) {R:Result->Shared->Prop} (hA:JM A r) (S:dw c k H s.heap) (RV:eH c k H s.heap vs args) (ht:d.takes vs.length)
  (h:∀us,eH c k H s.heap (vs++d.defs.drop (vs.length+d.defs.length-d.np)) us->us.length=d.np->(((nm.take d.np).zip us).map (·.1)).Nodup->(∀x∈(nm.take d.np).zip us,x.1∈nm)->
   wpAny (Md c) A.in1 (newFunctionEnv fd.scope fd.globals fd.closure ((nm.take d.np).zip us) (fd.qualname++".<locals>.") (some (c.G.fa f)) fd.code none fd.builtins) (λenv s₂=>s₂.heap.NoLimit∧codeAny (Md c) A (.func body env) R s₂) (λe s'=>R (.error e) s') s):
  codeAny (Md c) A (.call (.ref (c.G.fa f)) ⟨args,[]⟩) R s:=by
 obtain⟨oc,od,Gq,ho⟩:=F.1
 have X:=c.X.keeps S.1
 refine codeAny_call_function (fd:=fd) (body:=body) (aA (aj (bu _ _) (bu _ _)) hA.2) (X _ _ ho) rfl F.6 F.7 F.2 (codeRec_of X F.5) ?_
 have tl:(nm.take d.np).length=d.np:=by rw[eQ,F.10];exact Nat.min_eq_left F.11
 have D:∃ds,eH c k H s.heap d.defs ds∧∀{E:Value->Shared->Prop} {Q':Option (Array Value)->Shared->Prop},(∀o:Option (Array Value),(o.getD #[]).toList=ds->Q' o s)->wpAny (Md c) A.in1 (seqItems? fd.defaults) Q' E s:=by
  rcases F.16 with⟨e1,e2⟩|⟨t,ds,e,e1,e2,e3⟩
  ·exact⟨[],by rw[e2];exact rfl,λh=>by rw[e1];exact wpAny_pure (h _ rfl)⟩
  ·exact⟨ds,e3 _ _ _,λh=>by rw[e1];exact wpAny_seqItems (S.1 _ _ e2) rfl (h _ rfl)⟩
 obtain⟨ds,RD,hd⟩:=D
 have al:=RV.length
 have dl:=RD.length
 have RU:=RV.append (RD.drop (vs.length+d.defs.length-d.np))
 obtain⟨t1,t2⟩:=ht
 have ul:(args++ds.drop (vs.length+d.defs.length-d.np)).length=d.np:=by
  rw[←RU.length,aq,gO,dO vs.length d.defs.length,←k_ _ t1,lY (dJ (dO .. ▸t2)),cU t1]
 refine GE F.14 (by rw[tl,←al];exact t1) (by rw[tl,←al,←dl];exact t2) (by rw[tl,←dl];exact F.15) hd ?_
 rw[tl,←al,←dl]
 exact h _ RU ul (by rw[z8 _ _ (tl.trans ul.symm)];exact F.14.6) λx hx=>oF (List.of_mem_zip (a:=x.1) (b:=x.2) hx).1
theorem Ph (F:FnAt c T f d fd body nm rf) (hr:wm T f r=true):rf<r:=by
 unfold wm at hr
 rw[F.9]at hr
 exact of_decide_eq_true hr
theorem z9 {fl:Fl} {L':Lc} (F:FnAt c T f d fd body nm rf) {R:Result->Shared->Prop} (hA:JM A r) (hr:wm T f r=true) (es:env.scope=fd.scope) (x:j_ c T d.body (d.start vs) H fl L' H') (W:du c k H s k H s1) (L1:Loc c k H s1.heap env nm (d.start vs))
  (hs:d.body.eX=true∨Di c T env (nm.getD 0 Str.empty)) (hn:∀b o,Own env b->s.heap.get? b=some o->False) (h:∀k' s' v',du c k H s k' H' s'->VR c k' H' s'.heap fl.val v'->R (.ok (.ret v')) s'):codeAny (Md c) A (.func body env) R s1:=by
 refine ks_codeAny_funcAt (x ⟨hA.deeper (Ph F hr),W.1,L1⟩ (es▸F.13) (hs.imp id λz=>⟨⟨_,rfl⟩,z⟩) λk2 s2 fv W2 L2 R2=>?_)
 have TT:=((W.up (Y:=Own env) (λ_ _ z _=>z.elim) λb z=>(L1.own z).1.ow).trans W2).Iq hn
 cases fl with
 |next=>rw[(R2:fv=_)];exact h _ _ _ TT rfl
 |cont=>rw[(R2:fv=_)];exact h _ _ _ TT rfl
 |ret v=>obtain⟨v',rfl,rv⟩:=R2;exact h _ _ _ TT rv
end
end
section
section
variable {c:Cx} {T:Tb} {L:Lc} {H H1 H2 H3 H':Hp} {o:CE} {l:mo} {v:V} {vs:List V} {k:Lk} {s:Shared} {A:Around} {r f:Nat} {E:Value->Shared->Prop} {env:Env} {nm:List Str} {pos:Pos} {d:Fn} {fd:FuncData} {body:List Stmt} {rf:Nat}
theorem GF {fl:Fl} {L':Lc} (F:FnAt c T f d fd body nm rf) (clo:fd.closure=[]) (hs:d.body.eX=true) (ht:d.takes vs.length) (x:j_ c T d.body (d.start vs) H fl L' H'):wR c T f vs H fl.val H':=by
 intro A r k s args R hA hr S RV h
 refine runCore F hA S RV ht λus RU ul nd hk=>?_
 rw[clo]
 refine wpAny_newFunctionEnv_cells F.8 (λx hx=>(F.17 _ (hk x hx)).imp id λz=>⟨z,cellsFrom_some z⟩) λenv he s1 W=>?_
 subst he
 have keep:=W.toInCall.keep
 refine⟨(c.T.nolimit).keeps (λb o e=>keep b o (S.1 b o e)),?_⟩
 have past:∀{a:Addr},s.heap.objs.size≤a->s.heap.get? a=none:=λ{a} h=>by
  cases z:s.heap.get? a with
  |none=>rfl
  |some o=>exact absurd (Heap.lt_size z) (bE.mpr h)
 have above:∀{n a},(callEnvC fd s.heap.objs.size (c.G.fa f)).cells.lookup n=some a->s.heap.objs.size<a:=λh=>W.above _ _ (mem_of_lookup h)
 have fa:∀{n a},(callEnvC fd s.heap.objs.size (c.G.fa f)).cells.lookup n=some a->s.heap.get? a=none:=λh=>past (aK (above h))
 have L1:=wS (env:=callEnvC fd s.heap.objs.size (c.G.fa f)) F S RU ul rfl rfl rfl (past (aC _)) keep W.toInCall.ns (λn v hm hk=>uP nd hm hk)
  (λn a h=>⟨S.xR (fa h),C_ (W.cell _ _ h),di (above h),λ_=>S.FK (fa h)⟩) (λn n' a h h'=>name_of_addr W.apart (mem_of_lookup h) (mem_of_lookup h')) (λn hn hk=>by
   have hk:(callEnvC fd s.heap.objs.size (c.G.fa f)).kindOf n=some .cell:=(F.17 n hn).elim (λz=>(qi hk z (λe=>NameKind.noConfusion e) λe=>NameKind.noConfusion e).elim) id
   obtain⟨a,ha⟩:=lH.mp (cellsFrom_some (i:=s.heap.objs.size+1) (acc:=[]) hk)
   exact⟨a,_,ha,W.cell _ _ ha,λv hm=>uQ nd hm hk⟩)
 obtain⟨h1,tk,e1⟩:=W.toInCall.same
 subst e1
 refine z9 F hA hr rfl x (du.keeps S keep) L1 (.inl hs) (λb o hb q=>?_) h
 rcases hb with rfl|⟨n,_,h⟩
 ·exact cW (past (aC _)) q
 ·exact cW (fa h) q
theorem nJ.JN (S:dw c k H s.heap) {a:Addr} {o:Obj} {x:Option Value} (e:c.hb.get? a=some o) (hd:o.data= .cell x):nJ k H a:=λj y q z=>by
 by_cases m:y.made=true
 ·exact cW (S.3 _ _ _ q m z).1 e
 ·cases y with
  |ro l=>
   rcases z with rfl|z
   ·obtain⟨_,ws,n,g,_⟩:=S.2 _ _ q
    cases g.symm.trans (S.1 _ _ e);cases hd
   ·exact ff z.1
  |_=>exact absurd rfl m
theorem DG {fl:Fl} {L':Lc} (F:FnAt c T f d fd body nm rf) (FS:FnS c T f fd nm) (ht:d.takes vs.length) (x:j_ c T d.body (d.start vs) H fl L' H'):wR c T f vs H fl.val H':=by
 intro A r k s args R hA hr S RV h
 refine runCore F hA S RV ht λus RU ul nd hk=>?_
 refine wpAny_newFunctionEnv FS.2 (λx hx=>FS.3 _ (hk x hx)) (λh1 ns Pd=>?_) F.8
 have keep:∀b o,s.heap.get? b=some o->h1.get? b=some o:=λb o e=>Pd.extBut b o (cr (Heap.lt_size e)) (Heap.get?_push_of_some _ e)
 refine⟨(c.T.nolimit).keeps (λb o e=>keep b o (S.1 b o e)),?_⟩
 obtain⟨s6,cc,D,ML,DH,SA⟩:=FS.1
 obtain⟨Pi,O7,MC,DJ⟩:=SA.3
 have Pj:=c.X _ _ DJ
 have Pk:∀{n a},(callEnv fd s.heap.objs.size (c.G.fa f)).cells.lookup n=some a->a=cc∧n="__class__":=λ{n a} h=>by
  have h:fd.closure.lookup n=some a:=h
  rw[ML,bO]at h
  cases q:n==("__class__":Str)with
  |true=>rw[q]at h;exact⟨(ax h).symm,cJ q⟩
  |false=>rw[q]at h;exact cW rfl h
 have DK:∀{n},(callEnv fd s.heap.objs.size (c.G.fa f)).kindOf n=some .cell->False:=λh=>FS.2 _ (mem_of_lookup h) rfl
 have L1:=wS (env:=callEnv fd s.heap.objs.size (c.G.fa f)) F S RU ul rfl rfl rfl (ip _) keep ns (λn v hm _=>A8 (by rw[jc];exact List.pairwise_reverse.mpr (List.Pairwise.imp (λz=>dU z) nd)) (jd.mpr hm))
  (λn a h=>by cases(Pk h).1;exact⟨nJ.JN S Pj rfl,⟨_,keep _ _ (S.1 _ _ Pj),sL rfl⟩,λz=>cW (ip s.heap) (z▸S.1 _ _ Pj),λz=>(DK z).elim⟩) (λn n' a h h'=>(Pk h).2.trans (Pk h').2.symm)
  (λn hn hk=>(qi hk (FS.3 n hn) (λe=>NameKind.noConfusion e) λe=>NameKind.noConfusion e).elim)
 refine z9 (s1:={s with heap:=h1,toks:=s.toks+((nm.take d.np).zip us).length}) F hA hr rfl x (du.keeps S keep) L1 (.inr ⟨fd.qualname,fd.scope,s.heap.objs.size,c.G.fa f,s6,cc,D,?_,SA⟩) (λb o hb q=>hb.elim (λz=>cW (ip s.heap) (z▸q)) fun⟨n,z,_⟩=>DK z) h
 show({scope:=fd.scope,locals:=_,globals:=fd.globals,cells:=fd.closure,qual:=_,func:=_,code:=fd.code,frame:=_,builtins:=fd.builtins}:Env)=_
 rw[F.3,F.4,ML,DH]
inductive GG (c:Cx) (T:Tb):Prop
 |mk (HV:c.G.HV≤T.cn.length) (supFn:fnIn c.K (c.G.fa T.P.sup)=true) (init:∀a f,T.P.init a=some f->findIn c.K (.ref (c.G.cl a)) "__init__"=some (some (.ref (c.G.fa f)))∧typeIn c.K (.ref (c.G.fa f))=some (.type "function"))
inductive MM (c:Cx) (T:Tb):Prop
 |mk (fn:∀f d,T.P.fn f=some d->∃fd body nm rf,FnAt c T f d fd body nm rf∧((fd.closure=[]∧d.body.eX=true)∨FnS c T f fd nm))
theorem oY {e:CE} (x:b9 c T e L H v H') (n:e.mq=false:=by rfl):zW c T e L H v H':=⟨x,λz=>ff (n.symm.trans z)⟩
theorem JU {sc:Scope} {kJ:List Expr} {fv:Value} {Q:Args->Shared->Prop} (ok:jp T r sc nm l kJ=true) (h:wpAny (Md c) A (spliced (backTo pos (starEach kJ env))) (λvs s₁=>Q ⟨vs,[]⟩ s₁) E s):
  wpAny (Md c) A (evalArgs fv true (backTo pos (starEach kJ env)) []) Q E s:=by
 have ns:=noStar (pos:=pos) (env:=env) ok
 cases z:backTo pos (starEach kJ env)with
 |nil=>
  rw[z]at h
  unfold evalArgs
  refine wpAny_bind (wpAny_mono h (λvs s' h'=>?_) λ_ _ x=>x)
  exact wpAny_bind (wpAny_pure (wpAny_holding (wpAny_bind (wpAny_pure (wpAny_bind (wpAny_pure (wpAny_pure h')))))))
 |cons x rest=>
  rw[z]at h ns
  obtain⟨b,m⟩:=x
  cases b with
  |false=>exact evalArgs_plain h
  |true=>exact ff ns
theorem JV {sc:Scope} {kJ:List Expr} (ok:jp T r sc nm l kJ=true):(backTo pos (starEach kJ env)).any (·.1)=false:=by
 have ns:=noStar (pos:=pos) (env:=env) ok
 rw[List.any_eq_false]
 exact λx hx z=>ff ((sM (bv.mp ns x hx)).symm.trans z)
theorem z_ {kJ:List Expr} {fv:Value} {pre:List Value} {Q:Value->Shared->Prop} {P:Heap->Prop} (ok:jp T r env.scope nm l kJ=true) (hk:∀h,P h->∃k,(k=Keeper.frame∨k=Keeper.machine∨k=Keeper.boundFrame)∧Looks (Md c) h (keeperOf fv) k) (S:St c A r k H s env nm L) (x:nO c T l L H vs H1)
  (h:∀k1 s1 DM,du c k H s k1 H1 s1->eH c k1 H1 s1.heap vs DM->P s1.heap∧codeAny (Md c) A (.call fv ⟨pre++DM,[]⟩) (λr s'=>match r with| .ok (.ret v)=>Q v s'| .ok _=>False| .error e=>E e s') s1):
  wpAny (Md c) A (callWith pos fv pre (backTo pos (starEach kJ env)) []) Q E s:=
 callWith_of (P:=P) (by rw[JV ok];rfl) hk (JU ok (x S ok λk1 s1 DM T1 R1=>(h k1 s1 DM T1 R1).imp id wpAny_call))
theorem DN (TO:nK c T) (x:nO c T l L H vs H1) (y:wR c T f vs H1 v H2):b9 c T (.call f l) L H v H2:=by
 intro A r env nm pe k s Q E S ok h
 apply qS ok λn q as p ok=>?_
 apply oW ok λhn hg hr o1=>?_
 refine wpAny_bind (S.3.glob S.2 hg (TO.11 _ _ (cJ hn)) ?_)
 exact z_ o1 (keeps_K (TO.12 _ _ (cJ hn))) S x λk1 s1 DM T1 R1=>⟨T1.1.Fu,y S.1.Pf hr T1.1 R1 λk2 s2 v2 T2 R2=>h _ _ _ (T1.trans T2) R2⟩
theorem DO {m kk cl:Nat} {fs:List (Nat×V)} (TO:nK c T) (x:b9 c T o L H (.ref kk) H1) (g:H1[kk]?=some (.inst cl fs)) (q:T.P.xQ cl m=some f) (n:qN m fs=none)
  (y:nO c T l L H1 vs H2) (z:wR c T f (.ref kk::vs) H2 v H3):b9 c T (.bx o m f l) L H v H3:=by
 intro A r env nm pe k s Q E S ok h
 apply vf ok λoe mn q1 as p hp ok=>?_
 apply u9 ok λhn hs hm o1 o2=>?_
 refine wC hp hs (noStar o2) (x S o1 λk1 s1 v1 T1 R1 pl=>?_)
 apply R1.kR λN1=>?_
 refine T1.1.kO g λes e q0 R g1 g2 I=>?_
 obtain⟨mf,isf,kf⟩:=TO.9 _ _ _ q _ (cJ hn)
 obtain⟨pg,hd,_⟩:=TO.8 cl q0
 have fd:=R.find TO (cJ hn)
 rw[n]at fd
 refine method_fn T1.1.Fu I (plainGet_of pg).1 (plainGet_of pg).2 mf (beq_iff_eq.mp isf) (congrArg (Option.map _) (getLE R.noRef fd)) ?_
 exact z_ o2 (keeps_K kf) (S.go T1) y λk2 s2 vs2 T2 R2=>⟨T2.1.Fu,z S.1.Pf hm T2.1 (.cons (T2.vr T1.1 ⟨N1,rfl⟩) R2) λk3 s3 v3 T3 R3=>h _ _ _ (T1.trans (T2.trans T3)) R3⟩
theorem GH {cl:Nat} (TO:nK c T) (Pl:GG c T) (x:nO c T l L H vs H1) (i:T.P.init cl=some f) (y:wR c T f (.ref H1.length::vs) (H1++[.inst cl []]) .none H2):b9 c T (.new cl l) L H (.ref H1.length) H2:=by
 intro A r env nm pe k s Q E S ok h
 apply qS ok λn q as p ok=>?_
 apply oW ok λhn hg hr o1=>?_
 rw[i]at hr
 obtain⟨mg,kp,mk,lt⟩:=TO.13 _ _ (cJ hn)
 obtain⟨fi,ti⟩:=Pl.3 _ _ i
 refine wpAny_bind (S.3.glob S.2 hg mg ?_)
 refine z_ o1 (keeps_K kp) S x λk1 s1 DM T1 R1=>⟨T1.1.Fu,?_⟩
 have KI:=T1.1.Fu
 refine make_core (h:=s1.heap) (g:=s1.gens) (d:=s1.drawn) (t:=s1.toks) (os:=s1.os) (makes_of KI mk) (looks_findIn KI fi) (λself=>bind_fn KI self ti) (.inl rfl) ?_
 have e0:∀b o,s1.heap.get? b=some o->(s1.heap.push emptyDict).get? b=some o:=λb o e=>Heap.get?_push_of_some _ e
 have sz:(s1.heap.push emptyDict).objs.size=s1.heap.objs.size+1:=Heap.size_push ..
 have ha:s1.heap.get? (s1.heap.objs.size+1)=none:=by
  cases z:s1.heap.get? (s1.heap.objs.size+1)with
  |none=>rfl
  |some o=>exact absurd (Heap.lt_size z) (bE.mpr (iP _))
 have hd:=ip s1.heap
 have T2:=cX.add (t:=s1.toks) (a:=s1.heap.objs.size+1) (d:=s1.heap.objs.size) (o:=.inst cl []) (X:=NY) (cX.refl T1.1) T1.1 (λb o e=>Heap.get?_push_of_some (instObj (c.G.cl cl) s1.heap.objs.size) (e0 b o e)) (λb z=>by
   rcases z with rfl|⟨_,rfl⟩
   ·exact⟨ha,T1.1.xR ha,sz▸T1.1.nP e0⟩
   ·exact⟨hd,T1.1.xR hd,T1.1.nP λ_ _ e=>e⟩)
  ⟨lt,by rw[show(k1.add H1.length (s1.heap.objs.size+1) s1.heap.objs.size).ι H1.length=_ from if_pos rfl,show(k1.add H1.length (s1.heap.objs.size+1) s1.heap.objs.size).δ H1.length=_ from if_pos rfl,←sz];exact Heap.get?_push_size _ rfl,[],0,by rw[show(k1.add H1.length (s1.heap.objs.size+1) s1.heap.objs.size).δ H1.length=_ from if_pos rfl];exact Heap.get?_push_of_some _ (Heap.get?_push_size _ rfl),rfl⟩
 have AU:JM (A.under (.builtin "type.__call__" ⟨.ref (c.G.cl cl)::([]++DM),[]⟩)) r:=by
  obtain⟨l,hl⟩:=S.1.4
  have e:(Code.builtin "type.__call__" ⟨.ref (c.G.cl cl)::([]++DM),[]⟩).cUnits=1:=by kernel_rfl
  refine⟨S.1.1,?_,?_,l,hl⟩
  ·show A.depth+1+3*r+18<_;rw[dG A.depth 1,dv _ 1 18];exact Ij S.1.2 (by decide)
  ·show A.units+(Code.builtin "type.__call__" ⟨.ref (c.G.cl cl)::([]++DM),[]⟩).cUnits+40*r+170<_;rw[e,dG A.units 1,dv _ 1 170];exact Ij S.1.3 (by decide)
 have RS:VR c (k1.add H1.length (s1.heap.objs.size+1) s1.heap.objs.size) (H1++[O.inst cl []]) ((s1.heap.push emptyDict).push (instObj (c.G.cl cl) s1.heap.objs.size)) (.ref H1.length) (.ref (s1.heap.objs.size+1)):=.new rfl
 exact y AU hr T2.1 (.cons RS (du.OS T1.1 T2 R1)) λk3 s3 v3 T3 R3=>⟨R3,h _ _ _ (T1.trans (T2.trans T3)) (du.vr T2.1 T3 RS)⟩
end
end
section
section
variable {c:Cx} {T:Tb} {L:Lc} {H H1 H2:Hp} {l:mo} {vs:List V}
theorem GI (TO:nK c T) (Pl:GG c T) {kk:Nat} {fs:List (Nat×V)} (hl:L[0]?=some (some (.ref kk))) (g:H[kk]?=some (.inst T.P.wi fs)) (x:nO c T l L H vs H1) (y:wR c T T.P.sup (.ref kk::vs) H1 .none H2):qj c T (.sup l) L H .next L H2:=by
 intro A r env nm ps k s Q E c0 S ok Pm h
 apply Ir ok λe p' ok=>?_
 apply vf ok λo n ap as p hp ok=>?_
 apply oW ok λhn okc o1 hr=>?_
 cases cJ hn
 apply qS okc λx0 p0 m p1 O9=>?_
 apply iW O9 λhs hm=>?_
 cases cJ hs
 apply sO hm
 rcases Pm with z|⟨⟨body,rfl⟩,SO⟩
 ·exact ff z
 obtain⟨q,scope,L',f,s6,cc,D,rfl,SA⟩:=SO
 refine ks_wpAt_Expr_any ?_ (wM S.3) rfl
 rw[arm_eval_Call]
 obtain⟨oc,od,fd,Gq,ar,hfn,har,JX⟩:=SA.1
 obtain⟨Lg,Lh,ws,N4,file,tf,DH,hws,MN⟩:=SA.2
 obtain⟨Pi,O7,MC,DJ⟩:=SA.3
 obtain⟨ccl',cdd',cdD,csl',hD⟩:=SA.4
 have KI:=S.2.Fu
 have hD1:=KI _ _ hD
 refine S.2.kO g λes n q0 R g1 g2 I=>?_
 have hx:nm[0]?=some (nm.getD 0 Str.empty):=by
  rw[aE,ao (S.3.2▸j0 hl)];rfl
 obtain⟨m,ns,hm⟩:∃m,s.heap.Ns L' m∧m ar.arg=some (.ref (k.ι kk)):=by
  obtain⟨m,ns,z⟩:=S.3.4
  obtain⟨v',p,rv⟩:=z 0 _ _ hx hl SA.8
  exact⟨m,ns,JX▸p.trans (congrArg some rv.2)⟩
 have ka:scope.names.lookup ar.arg=some .local:=JX▸SA.8
 have kd:scope.kind= .function:=S.3.1.1
 refine PySem.wpAt_bind (ks_wpAt_mono (ks_wpAt_super_base (Q:=λov s₁=>∀(u:Unit),wpAny (Md c) A (methodCall (.Call (.Name "super" p0) [] [] p1) "__init__" ap p (ksEnv q scope L' f (.ref s6) cc) ov (as.length+([]:List Keyword).length) (backTo p (starEach as (ksEnv q scope L' f (.ref s6) cc))) (backToKw p (keywordEach [] (ksEnv q scope L' f (.ref s6) cc)))) (λ_=>Q .next) E s₁) SA.6 SA.7 (by decide) rfl (KI _ _ hfn) rfl har rfl (KI _ _ DH) rfl hws MN SA.9 ?_) (λov s₁ h₁=>cF (wpAny_bind (wpAny_standAt (h₁ ())))) (λ_ _ h=>h))
 refine ks_loadName_global kd SA.6 (loadGlobal_builtin (mg:=c.mg) (mb:=c.mb) (v:=.type "super") (c.T.g.keeps S.2.1) (TO.14 _ (by decide)) (c.T.b.keeps S.2.1) ((c.T.builtins _ (by decide)).trans (by decide+kernel)) ⟨rfl,?_⟩)
 refine wpAny_loadName_free kd SA.7 rfl ⟨_,KI _ _ DJ,rfl⟩ ?_
 refine wpAny_loadName_local kd ka ns hm ?_
 refine ks_wpAny_isType_cls hD1 rfl ⟨rfl,?_⟩
 refine ks_wpAny_call_super hD1 rfl I.at_ I.cls (λc e=>nomatch e) (looks_mroIn KI SA.5) (λh' e ek _=>?_)
 have T0:=du.keeps (h':=h') (t:=s.toks) S.2 ek
 have N7:=T0.1.Fu
 refine wA hp (noStar o1) λpl=>?_
 have SG:=SA.11
 unfold ks_superIn at SG
 cases hc:clsIn c.K (c.G.cl T.P.wi)with
 |none=>rw[hc]at SG;cases SG
 |some cd=>
 rw[hc]at SG
 obtain⟨of,hof,Pn⟩:∃of,h'.get? (c.G.fa T.P.sup)=some of∧of.cls= .type "function":=by
  have ht':(c.K.lookup (c.G.fa T.P.sup)).map (·.cls)=some (.type "function"):=SA.12
  obtain⟨of,z,e⟩:=aZ.mp ht'
  exact⟨of,N7 _ _ z,e⟩
 refine ks_wpAny_getMethod_super e (looks_opaque N7 SA.10) (l₀:=cd.mro) ?_ rfl N7 SG hof Pn (ks_ne KI I hc) (by decide) ?_
 ·exact λA Q E s k q=>wpAny_bind ((looks_clsIn N7 hc) A _ E s k (wpAny_pure q))
 have T1:=du.zG T0.1 (methodObj (.ref (c.G.fa T.P.sup)) (.ref (k.ι kk))) (s.toks+1)
 have hq:(h'.push (methodObj (.ref (c.G.fa T.P.sup)) (.ref (k.ι kk)))).get? h'.objs.size=some (methodObj (.ref (c.G.fa T.P.sup)) (.ref (k.ι kk))):=Heap.get?_push_at rfl rfl
 have fq:=(T0.1.xR (ip h')).ow
 refine z_ (P:=λh=>h.get? h'.objs.size=some (methodObj (.ref (c.G.fa T.P.sup)) (.ref (k.ι kk)))∧c.K.In h) o1 (keeps_M (q:=h'.objs.size) (self:=.ref (k.ι kk)) Pl.2) ((S.go T0).go T1) x λk1 s1 DM T2 R2=>⟨⟨T2.2.3 _ _ fq id hq,T2.1.Fu⟩,?_⟩
 refine ks_codeAny_call_bound (T2.2.3 _ _ fq id hq) ?_
 exact y (args:=.ref (k.ι kk)::DM) S.1.Pf hr T2.1 (.cons (T2.vr T1.1 ⟨j0 g,rfl⟩) R2) λk3 s3 v3 T3 R3=>h.ME S (T0.trans (T1.trans (T2.trans T3)))
end
end
end
noncomputable def JY:Fn:=⟨1,[],4,(.cons (.set (.v 1) (.list .nil)) (.cons (.set (.v 2) (.lit (.int 0))) (.cons (.set (.v 3) (.var 0)) (.cons (.while (.cmp .gt (.var 3) (.lit (.int 0))) (.cons (.ite (.cmp .eq (.bin .band (.var 3) (.lit (.int 1))) (.lit (.int 1))) (.cons (.expr (.append (.var 1) (.var 2))) .nil) .nil) (.cons (.set (.v 3) (.bin .shr (.var 3) (.lit (.int 1)))) (.cons (.set (.v 2) (.bin .add (.var 2) (.lit (.int 1)))) .nil)))) (.cons (.ret (.var 1)) .nil)))))⟩
noncomputable def qZ:Fn:=⟨2,[],4,(.cons (.set (.v 2) (.list .nil)) (.cons (.for (.v 3) (.ex (.var 1)) (.cons (.ite (.and (.cons (.cmp .lt (.bx (.var 0) 0 31 (.cons (.var 3) .nil)) (.lit (.int 0))) (.cons (.cmp .ne (.bx (.var 0) 1 37 (.cons (.var 3) .nil)) (.lit (.int 0))) .nil))) (.cons (.expr (.append (.var 2) (.bx (.var 0) 1 37 (.cons (.var 3) .nil)))) .nil) .nil) .nil)) (.cons (.ret (.sorted (.var 2))) .nil)))⟩
noncomputable def yA:Fn:=⟨2,[],2,(.cons (.ret (.bx (.var 0) 2 34 (.cons (.bx (.var 0) 1 37 (.cons (.var 1) .nil)) (.cons (.bin .add (.bx (.var 0) 3 38 (.cons (.var 1) .nil)) (.lit (.int 1))) .nil)))) .nil)⟩
noncomputable def q6:Fn:=⟨2,[],6,(.cons (.set (.v 2) (.iM 0)) (.cons (.for (.v 3) (.ex (.var 1)) (.cons (.set (.v 4) (.bx (.var 0) 0 31 (.cons (.var 3) .nil))) (.cons (.ite (.cmp .ge (.var 4) (.lit (.int 0))) (.cons (.ite (.cmp .jG (.var 4) (.var 2)) (.cons (.bq (.var 2) (.var 4) (.list .nil)) .nil) .nil) (.cons (.expr (.append (.idx (.var 2) (.var 4)) (.call 2 (.cons (.var 0) (.cons (.var 3) .nil))))) .nil)) .nil) .nil))) (.cons (.set (.v 5) (.iM 0)) (.cons (.for (.v 4) (.ex (.sorted (.var 2))) (.cons (.bq (.var 5) (.var 4) (.tupleOf (.sorted (.idx (.var 2) (.var 4))))) .nil)) (.cons (.ret (.var 5)) .nil)))))⟩
noncomputable def vA:Fn:=⟨1,[],4,(.cons (.set (.v 1) (.listOf (.var 0))) (.cons (.for (.v 2) (.range (.len (.var 1))) (.cons (.for (.v 3) (.range (.len (.var 1))) (.cons (.ite (.cmp .eq (.bin .band (.bin .shr (.idx (.var 1) (.var 3)) (.var 2)) (.lit (.int 1))) (.lit (.int 1))) (.cons (.bq (.var 1) (.var 3) (.bin .bor (.idx (.var 1) (.var 3)) (.idx (.var 1) (.var 2)))) .nil) .nil) .nil)) .nil)) (.cons (.ret (.var 1)) .nil)))⟩
noncomputable def GJ:Fn:=⟨1,[],1,(.cons (.ret (.bx (.new 2 (.cons (.var 0) .nil)) 4 40 .nil)) .nil)⟩
noncomputable def A9:Fn:=⟨3,[],3,(.cons (.ite (.cmp .lt (.var 1) (.len (.var 0))) (.cons (.ret (.bin .mod (.intOf (.idx (.var 0) (.var 1))) (.var 2))) .nil) .nil) (.cons (.ret (.bin .mod (.bin .add (.bin .fdiv (.bin .mul (.var 1) (.bin .add (.var 1) (.lit (.int 1)))) (.lit (.int 2))) (.sum (.sK (.var 0) (.lit (.int 40))))) (.var 2))) .nil))⟩
noncomputable def tc:Fn:=⟨2,[],10,(.cons (.set (.v 2) (.list (.cons (.new 5 (.cons (.lit (.int 0)) (.cons (.lit (.int 5)) (.cons (.tup (.cons (.lit (.int 6)) (.cons (.lit (.int 0)) .nil))) .nil)))) .nil))) (.cons (.for (.p 3 4) (.ex (.var 1)) (.cons (.set (.v 5) (.comp [] (.var 0) (.ex (.var 4)) (.cons (.cmp .lt (.var 0) (.lit (.int 5))) .nil))) (.cons (.expr (.append (.var 2) (.new 5 (.cons (.len (.var 2)) (.cons (.var 3) (.cons (.var 4) (.cons (.ite (.cmp .ne (.var 5) (.list .nil)) (.idx (.var 5) (.neg (.lit (.int 1)))) (.neg (.lit (.int 1)))) .nil))))))) .nil))) (.cons (.set (.v 6) (.iM 0)) (.cons (.for (.v 7) (.ex (.tup (.cons (.lit (.int 3)) (.cons (.lit (.int 4)) .nil)))) (.cons (.set (.v 8) (.call 6 (.cons (.var 0) (.cons (.bin .add (.lit (.int 24)) (.var 7)) (.cons (.lit (.int 3)) .nil))))) (.cons (.ite (.cmp .gt (.var 8) (.lit (.int 0))) (.cons (.bq (.var 6) (.var 7) (.tup (.cons (.var 8) (.cons (.idx (.tup (.cons (.lit (.str 0)) (.cons (.lit (.str 1)) (.cons (.lit (.str 2)) (.cons (.lit (.str 3)) .nil))))) (.call 6 (.cons (.var 0) (.cons (.bin .add (.lit (.int 28)) (.var 8)) (.cons (.lit (.int 4)) .nil))))) .nil)))) .nil) .nil) .nil))) (.cons (.set (.v 9) (.list (.cons (.lit (.str 4)) (.cons (.lit (.str 5)) (.cons (.lit (.str 6)) (.cons (.lit (.str 7)) (.cons (.lit (.str 8)) (.cons (.lit (.str 9)) (.cons (.lit (.str 10)) (.cons (.lit (.str 11)) .nil)))))))))) (.cons (.ret (.new 4 (.cons (.var 9) (.cons (.lit (.int 5)) (.cons (.var 2) (.cons (.var 6) (.cons (.lit .none) (.cons (.lit (.int 6)) .nil)))))))) .nil))))))⟩
noncomputable def DP:Fn:=⟨2,[],12,(.cons (.set (.v 2) (.listOf (.var 1))) (.cons (.set (.v 3) (.list .nil)) (.cons (.set (.v 4) (.comp [] (.list .nil) (.ex (.var 2)) .nil)) (.cons (.set (.v 5) (.list .nil)) (.cons (.for (.v 6) (.ex (.attr (.var 0) 5)) (.cons (.set (.v 7) (.lit (.int 0))) (.cons (.for (.v 8) (.ex (.attr (.var 6) 6)) (.cons (.ite (.not (.idx (.var 2) (.var 8))) (.cons (.set (.v 7) (.bin .add (.var 7) (.lit (.int 1)))) (.cons (.expr (.append (.idx (.var 4) (.var 8)) (.attr (.var 6) 7))) .nil)) .nil) .nil)) (.cons (.expr (.append (.var 3) (.var 7))) .nil)))) (.cons (.for (.v 6) (.ex (.attr (.var 0) 5)) (.cons (.ite (.and (.cons (.cmp .eq (.idx (.var 3) (.attr (.var 6) 7)) (.lit (.int 0))) (.cons (.not (.idx (.var 2) (.attr (.var 6) 8))) .nil))) (.cons (.bq (.var 2) (.attr (.var 6) 8) (.lit (.bool true))) (.cons (.expr (.append (.var 5) (.attr (.var 6) 8))) .nil)) .nil) .nil)) (.cons (.set (.v 9) (.lit (.int 0))) (.cons (.while (.cmp .lt (.var 9) (.len (.var 5))) (.cons (.for (.v 10) (.ex (.idx (.var 4) (.idx (.var 5) (.var 9)))) (.cons (.bq (.var 3) (.var 10) (.bin .sub (.idx (.var 3) (.var 10)) (.lit (.int 1)))) (.cons (.set (.v 11) (.attr (.idx (.attr (.var 0) 5) (.var 10)) 8)) (.cons (.ite (.and (.cons (.cmp .eq (.idx (.var 3) (.var 10)) (.lit (.int 0))) (.cons (.not (.idx (.var 2) (.var 11))) .nil))) (.cons (.bq (.var 2) (.var 11) (.lit (.bool true))) (.cons (.expr (.append (.var 5) (.var 11))) .nil)) .nil) .nil)))) (.cons (.set (.v 9) (.bin .add (.var 9) (.lit (.int 1)))) .nil))) (.cons (.ret (.var 2)) .nil)))))))))⟩
noncomputable def yB:Fn:=⟨1,[],1,(.cons (.ret (.call 8 (.cons (.var 0) (.cons (.bin .mul (.list (.cons (.lit (.bool false)) .nil)) (.bx (.var 0) 9 41 .nil)) .nil)))) .nil)⟩
noncomputable def yC:Fn:=⟨2,[],2,(.cons (.ite (.cmp .jG (.var 1) (.var 0)) (.cons (.expr (.append (.var 0) (.var 1))) .nil) .nil) .nil)⟩
noncomputable def A_:Fn:=⟨3,[],13,(.cons (.set (.v 3) (.listOf (.var 2))) (.cons (.set (.v 4) (.bin .mul (.list (.cons (.lit (.int 0)) .nil)) (.var 0))) (.cons (.set (.v 5) (.bin .add (.var 0) (.lit (.int 1)))) (.cons (.set (.v 6) (.list .nil)) (.cons (.for (.v 7) (.range (.var 0)) (.cons (.ite (.cmp .ne (.idx (.var 4) (.var 7)) (.lit (.int 0))) (.cons .cont .nil) .nil) (.cons (.expr (.append (.var 6) (.var 7))) (.cons (.bq (.var 4) (.var 7) (.len (.var 6))) (.cons (.set (.v 8) (.list (.cons (.list (.cons (.var 7) (.cons (.len (.var 6)) (.cons (.lit (.int 0)) .nil)))) .nil))) (.cons (.while (.var 8) (.cons (.set (.v 9) (.idx (.var 8) (.neg (.lit (.int 1))))) (.cons (.set (.v 10) (.idx (.var 9) (.lit (.int 0)))) (.cons (.ite (.cmp .lt (.idx (.var 9) (.lit (.int 2))) (.len (.idx (.var 1) (.var 10)))) (.cons (.set (.v 11) (.idx (.idx (.var 1) (.var 10)) (.idx (.var 9) (.lit (.int 2))))) (.cons (.ite (.cmp .eq (.idx (.var 4) (.var 11)) (.lit (.int 0))) (.cons (.expr (.append (.var 6) (.var 11))) (.cons (.bq (.var 4) (.var 11) (.len (.var 6))) (.cons (.expr (.append (.var 8) (.list (.cons (.var 11) (.cons (.len (.var 6)) (.cons (.lit (.int 0)) .nil)))))) (.cons .cont .nil)))) .nil) (.cons (.bq (.var 9) (.lit (.int 2)) (.bin .add (.idx (.var 9) (.lit (.int 2))) (.lit (.int 1)))) (.cons (.ite (.cmp .lt (.idx (.var 4) (.var 11)) (.idx (.var 4) (.var 10))) (.cons (.bq (.var 4) (.var 10) (.idx (.var 4) (.var 11))) .nil) .nil) (.cons (.bq (.var 3) (.var 10) (.bin .bor (.idx (.var 3) (.var 10)) (.idx (.var 3) (.var 11)))) (.cons .cont .nil)))))) .nil) (.cons (.expr (.pop (.var 8))) (.cons (.ite (.cmp .eq (.idx (.var 4) (.var 10)) (.idx (.var 9) (.lit (.int 1)))) (.cons (.set (.v 12) (.neg (.lit (.int 1)))) (.cons (.while (.cmp .ne (.var 12) (.var 10)) (.cons (.set (.v 12) (.pop (.var 6))) (.cons (.bq (.var 4) (.var 12) (.var 5)) (.cons (.bq (.var 3) (.var 12) (.idx (.var 3) (.var 10))) .nil)))) .nil)) .nil) .nil)))))) .nil)))))) (.cons (.ret (.var 3)) .nil))))))⟩
noncomputable def vB:Fn:=⟨1,[],1,(.cons (.ret (.attr (.new 6 (.cons (.var 0) .nil)) 10)) .nil)⟩
noncomputable def yD:Fn:=⟨3,[],5,(.cons (.set (.v 3) (.lit (.int 0))) (.cons (.for (.v 4) (.ex (.var 0)) (.cons (.set (.v 3) (.bin .bor (.var 3) (.idx (.var 2) (.var 4)))) (.cons (.ite (.not (.idx (.var 1) (.var 4))) (.cons (.ret (.tup (.cons (.var 3) (.cons (.lit (.bool false)) .nil)))) .nil) .nil) .nil))) (.cons (.ret (.tup (.cons (.var 3) (.cons (.lit (.bool true)) .nil)))) .nil)))⟩
noncomputable def ug:Fn:=⟨1,[],7,(.cons (.set (.v 1) (.call 9 (.cons (.var 0) .nil))) (.cons (.set (.v 2) (.list .nil)) (.cons (.for (.v 3) (.range (.bx (.var 0) 9 41 .nil)) (.cons (.expr (.append (.var 2) (.ite (.bx (.var 0) 11 46 (.cons (.var 3) .nil)) (.bin .shl (.lit (.int 1)) (.var 3)) (.lit (.int 0))))) .nil)) (.cons (.set (.v 4) (.lit (.bool true))) (.cons (.while (.var 4) (.cons (.set (.v 4) (.lit (.bool false))) (.cons (.for (.v 5) (.ex (.attr (.var 0) 5)) (.cons (.set (.v 6) (.bin .bor (.idx (.var 2) (.attr (.var 5) 8)) (.idx (.call 13 (.cons (.attr (.var 5) 6) (.cons (.var 1) (.cons (.var 2) .nil)))) (.lit (.int 0))))) (.cons (.ite (.cmp .ne (.var 6) (.idx (.var 2) (.attr (.var 5) 8))) (.cons (.bq (.var 2) (.attr (.var 5) 8) (.var 6)) (.cons (.set (.v 4) (.lit (.bool true))) .nil)) .nil) .nil))) .nil))) (.cons (.ret (.var 2)) .nil))))))⟩
noncomputable def td:Fn:=⟨1,[],8,(.cons (.set (.v 1) (.call 9 (.cons (.var 0) .nil))) (.cons (.set (.v 2) (.call 14 (.cons (.var 0) .nil))) (.cons (.set (.v 3) (.bin .mul (.list (.cons (.lit (.int 0)) .nil)) (.bx (.var 0) 9 41 .nil))) (.cons (.set (.v 4) (.lit (.bool true))) (.cons (.while (.var 4) (.cons (.set (.v 4) (.lit (.bool false))) (.cons (.for (.v 5) (.ex (.attr (.var 0) 5)) (.cons (.set (.v 6) (.idx (.var 3) (.attr (.var 5) 8))) (.cons (.for (.v 7) (.rev (.attr (.var 5) 6)) (.cons (.ite (.bx (.var 0) 11 46 (.cons (.var 7) .nil)) (.cons (.set (.v 6) (.idx (.var 2) (.var 7))) (.cons .cont .nil)) .nil) (.cons (.ite (.cmp .ne (.bin .bor (.idx (.var 3) (.var 7)) (.var 6)) (.idx (.var 3) (.var 7))) (.cons (.bq (.var 3) (.var 7) (.bin .bor (.idx (.var 3) (.var 7)) (.var 6))) (.cons (.set (.v 4) (.lit (.bool true))) .nil)) .nil) (.cons (.set (.v 6) (.ite (.idx (.var 1) (.var 7)) (.bin .bor (.var 6) (.idx (.var 2) (.var 7))) (.idx (.var 2) (.var 7)))) .nil)))) .nil))) .nil))) (.cons (.ret (.var 3)) .nil))))))⟩
noncomputable def wT:Fn:=⟨1,[],5,(.cons (.set (.v 1) (.call 15 (.cons (.attr (.var 0) 12) .nil))) (.cons (.set (.v 2) (.iM 1)) (.cons (.for (.v 3) (.ex (.attr (.var 0) 13)) (.cons (.for (.v 4) (.ex (.attr (.var 3) 14)) (.cons (.bq (.var 2) (.tup (.cons (.attr (.var 3) 7) (.cons (.var 4) .nil))) (.idx (.var 1) (.attr (.idx (.attr (.attr (.var 0) 12) 5) (.var 4)) 8))) .nil)) .nil)) (.cons (.ret (.var 2)) .nil))))⟩
noncomputable def DQ:Fn:=⟨3,[],5,(.cons (.set (.v 3) (.u7 (.attr (.var 0) 15) (.attr (.idx (.attr (.var 0) 5) (.var 1)) 16))) (.cons (.set (.v 4) (.u7 (.attr (.var 0) 15) (.var 2))) (.cons (.ite (.or (.cons (.cmp .is (.var 3) (.lit .none)) (.cons (.cmp .is (.var 4) (.lit .none)) .nil))) (.cons (.ret (.lit .none)) .nil) .nil) (.cons (.ite (.cmp .gt (.idx (.var 3) (.lit (.int 0))) (.idx (.var 4) (.lit (.int 0)))) (.cons (.ret (.lit (.str 12))) .nil) .nil) (.cons (.ite (.cmp .lt (.idx (.var 3) (.lit (.int 0))) (.idx (.var 4) (.lit (.int 0)))) (.cons (.ret (.lit (.str 13))) .nil) .nil) (.cons (.ite (.cmp .eq (.idx (.var 4) (.lit (.int 1))) (.lit (.str 0))) (.cons (.ret (.lit (.str 12))) .nil) .nil) (.cons (.ite (.cmp .eq (.idx (.var 4) (.lit (.int 1))) (.lit (.str 1))) (.cons (.ret (.lit (.str 13))) .nil) .nil) (.cons (.ite (.cmp .eq (.idx (.var 4) (.lit (.int 1))) (.lit (.str 2))) (.cons (.ret (.lit (.str 14))) .nil) .nil) (.cons (.ret (.lit .none)) .nil)))))))))⟩
noncomputable def vC:Fn:=⟨1,[],5,(.cons (.ite (.cmp .gt (.idx (.var 0) (.lit (.int 1))) (.lit (.int 0))) (.cons (.ret (.lit (.int 0))) .nil) .nil) (.cons (.set (.v 1) (.iM 0)) (.cons (.for (.v 2) (.ex (.var 0)) (.cons (.ite (.pH .lt .lt (.lit (.int (-1048576))) (.var 2) (.lit (.int 0))) (.cons (.bq (.var 1) (.neg (.var 2)) (.bin .add (.qO (.var 1) (.neg (.var 2)) (.lit (.int 0))) (.lit (.int 1)))) .nil) .nil) .nil)) (.cons (.set (.v 3) (.lit (.int 0))) (.cons (.for (.v 4) (.ex (.sorted (.var 1))) (.cons (.ite (.or (.cons (.cmp .eq (.var 3) (.lit (.int 0))) (.cons (.cmp .gt (.idx (.var 1) (.var 4)) (.idx (.var 1) (.var 3))) .nil))) (.cons (.set (.v 3) (.var 4)) .nil) .nil) .nil)) (.cons (.ret (.var 3)) .nil))))))⟩
noncomputable def Ba:Fn:=⟨2,[],2,(.cons (.ret (.comp [1] (.ite (.cmp .eq (.var 1) (.neg (.var 0))) (.lit (.int 0)) (.var 1)) (.ex (.var 0)) .nil)) .nil)⟩
noncomputable def JZ:Fn:=⟨4,[(.str 15)],13,(.cons (.set (.v 4) (.list .nil)) (.cons (.set (.v 5) (.list .nil)) (.cons (.set (.v 6) (.list .nil)) (.cons (.set (.v 7) (.list .nil)) (.cons (.set (.v 8) (.list .nil)) (.cons (.for (.v 9) (.ex (.attr (.var 0) 13)) (.cons (.set (.v 10) (.new 8 (.cons (.attr (.var 0) 12) (.cons (.var 9) (.cons (.var 1) .nil))))) (.cons (.expr (.bx (.var 10) 17 60 .nil)) (.cons (.set (.v 11) (.bx (.var 10) 18 61 .nil)) (.cons (.expr (.extend (.var 7) (.bx (.var 10) 19 62 (.cons (.var 11) .nil)))) (.cons (.expr (.extend (.var 8) (.attr (.var 10) 20))) (.cons (.set (.v 12) (.lit (.int 0))) (.cons (.ite (.var 2) (.cons (.set (.v 12) (.call 18 (.cons (.var 11) .nil))) .nil) .nil) (.cons (.ite (.cmp .ne (.var 12) (.lit (.int 0))) (.cons (.set (.v 11) (.call 19 (.cons (.var 11) (.cons (.var 12) .nil)))) .nil) .nil) (.cons (.expr (.append (.var 4) (.var 11))) (.cons (.expr (.append (.var 5) (.attr (.var 10) 21))) (.cons (.expr (.append (.var 6) (.var 12))) .nil)))))))))))) (.cons (.ret (.new 7 (.cons (.attr (.var 0) 12) (.cons (.var 4) (.cons (.var 5) (.cons (.var 6) (.cons (.var 7) (.cons (.var 8) (.cons (.var 3) .nil))))))))) .nil)))))))⟩
noncomputable def wU:Fn:=⟨4,[],4,(.cons (.ret (.tupleOf (.comp [3,0,1] (.idx (.var 0) (.call 6 (.cons (.var 1) (.cons (.bin .add (.var 2) (.var 3)) (.cons (.len (.var 0)) .nil))))) (.range (.var 2)) .nil))) .nil)⟩
noncomputable def vD:Fn:=⟨1,[],2,(.cons (.set (.v 1) (.list (.cons (.tup (.cons (.lit (.int 6)) (.cons (.call 21 (.cons (.var 0) (.cons (.lit (.int 6)) (.cons (.bin .add (.lit (.int 1)) (.call 6 (.cons (.var 0) (.cons (.lit (.int 5)) (.cons (.lit (.int 3)) .nil))))) (.cons (.list (.cons (.lit (.int 7)) (.cons (.lit (.int 3)) (.cons (.lit (.int 4)) .nil)))) .nil))))) .nil))) .nil))) (.cons (.expr (.append (.var 1) (.tup (.cons (.lit (.int 6)) (.cons (.call 21 (.cons (.var 0) (.cons (.lit (.int 10)) (.cons (.call 6 (.cons (.var 0) (.cons (.lit (.int 9)) (.cons (.lit (.int 4)) .nil)))) (.cons (.list (.cons (.lit (.int 6)) (.cons (.lit (.int 7)) (.cons (.lit (.int 3)) (.cons (.lit (.int 4)) .nil))))) .nil))))) .nil))))) (.cons (.expr (.append (.var 1) (.tup (.cons (.lit (.int 7)) (.cons (.call 21 (.cons (.var 0) (.cons (.lit (.int 3)) (.cons (.call 6 (.cons (.var 0) (.cons (.lit (.int 2)) (.cons (.lit (.int 3)) .nil)))) (.cons (.list (.cons (.lit (.int 3)) (.cons (.lit (.int 4)) .nil))) .nil))))) .nil))))) (.cons (.expr (.append (.var 1) (.tup (.cons (.lit (.int 7)) (.cons (.call 21 (.cons (.var 0) (.cons (.lit (.int 14)) (.cons (.call 6 (.cons (.var 0) (.cons (.lit (.int 13)) (.cons (.lit (.int 4)) .nil)))) (.cons (.list (.cons (.lit (.int 6)) (.cons (.lit (.int 7)) (.cons (.lit (.int 3)) (.cons (.lit (.int 4)) .nil))))) .nil))))) .nil))))) (.cons (.ret (.var 1)) .nil)))))⟩
noncomputable def q7:Fn:=⟨2,[],5,(.cons (.for (.v 2) (.range (.bx (.var 0) 22 63 .nil)) (.cons (.set (.v 3) (.bx (.var 1) 23 64 (.cons (.var 2) .nil))) (.cons (.set (.v 4) (.comp [2,0] (.bx (.var 1) 24 65 (.cons (.var 0) (.cons (.var 2) .nil))) (.range (.lit (.int 5))) .nil)) (.cons (.ite (.cmp .ne (.comp [2,1] (.bx (.var 1) 24 65 (.cons (.var 0) (.cons (.var 2) .nil))) (.range (.lit (.int 5))) .nil) (.comp [3] (.ite (.and (.cons (.cmp .ne (.var 0) (.lit (.int 0))) (.cons (.cmp .eq (.var 1) (.neg (.var 0))) .nil))) (.lit (.int 0)) (.var 1)) (.ex (.var 4)) .nil)) (.cons (.ret (.lit (.bool false))) .nil) .nil) (.cons (.ite (.or (.cons (.cmp .ne (.bx (.var 0) 23 64 (.cons (.var 2) .nil)) (.lit (.int 0))) (.cons (.cmp .ne (.bx (.var 1) 25 66 (.cons (.var 2) .nil)) (.and (.cons (.cmp .ne (.var 3) (.lit (.int 0))) (.cons (.cmp .eq (.comp [3] (.var 1) (.ex (.var 4)) (.cons (.cmp .jG (.var 1) (.tup (.cons (.lit (.int 0)) (.cons (.neg (.var 0)) .nil)))) .nil)) (.list .nil)) .nil)))) .nil))) (.cons (.ret (.lit (.bool false))) .nil) .nil) (.cons (.ite (.and (.cons (.cmp .eq (.var 3) (.lit (.int 0))) (.cons (.cmp .le (.idx (.var 4) (.lit (.int 1))) (.lit (.int 0))) (.cons (.cmp .ne (.comp [] (.var 0) (.ex (.var 4)) (.cons (.pH .lt .lt (.neg (.lit (.int 100))) (.var 0) (.lit (.int 0))) .nil)) (.list .nil)) .nil)))) (.cons (.ret (.lit (.bool false))) .nil) .nil) .nil)))))) (.cons (.ret (.lit (.bool true))) .nil))⟩
noncomputable def vE:Fn:=⟨4,[],9,(.cons (.set (.v 4) (.var 1)) (.cons (.for (.v 5) (.range (.var 3)) (.cons (.set (.v 6) (.bx (.var 0) 26 67 (.cons (.idx (.var 4) (.neg (.lit (.int 1)))) (.cons (.var 2) .nil)))) (.cons (.ite (.cmp .ge (.var 6) (.lit (.int 0))) (.cons (.ret (.cmp .gt (.var 6) (.lit (.int 0)))) .nil) .nil) (.cons (.set (.v 7) (.bx (.var 0) 27 68 (.cons (.neg (.var 6)) .nil))) (.cons (.ite (.cmp .ge (.var 7) (.len (.var 4))) (.cons (.ret (.lit (.bool false))) .nil) .nil) (.cons (.set (.v 4) (.sK (.var 4) (.bin .sub (.len (.var 4)) (.var 7)))) (.cons (.set (.v 8) (.bx (.var 0) 28 69 (.cons (.idx (.var 4) (.neg (.lit (.int 1)))) (.cons (.bx (.var 0) 8 70 (.cons (.neg (.var 6)) .nil)) .nil)))) (.cons (.ite (.cmp .lt (.var 8) (.lit (.int 0))) (.cons (.ret (.lit (.bool false))) .nil) .nil) (.cons (.expr (.append (.var 4) (.var 8))) .nil))))))))) (.cons (.ret (.lit (.bool false))) .nil)))⟩
noncomputable def q8:Fn:=⟨3,[],5,(.cons (.set (.v 3) (.list .nil)) (.cons (.for (.v 4) (.range (.attr (.var 0) 29)) (.cons (.ite (.and (.cons (.cmp .ne (.var 4) (.lit (.int 1))) (.cons (.cmp .ne (.var 4) (.lit (.int 2))) (.cons (.call 24 (.cons (.var 0) (.cons (.var 1) (.cons (.var 4) (.cons (.var 2) .nil))))) .nil)))) (.cons (.expr (.append (.var 3) (.var 4))) .nil) .nil) .nil)) (.cons (.ret (.var 3)) .nil)))⟩
noncomputable def uh:Fn:=⟨3,[],6,(.cons (.set (.v 3) (.listOf (.var 1))) (.cons (.for (.v 4) (.range (.lit (.int 60))) (.cons (.set (.v 5) (.bx (.var 0) 26 67 (.cons (.idx (.var 3) (.neg (.lit (.int 1)))) (.cons (.var 2) .nil)))) (.cons (.ite (.cmp .gt (.var 5) (.lit (.int 0))) (.cons (.ret (.bin .add (.var 3) (.list (.cons (.var 5) .nil)))) .nil) .nil) (.cons (.ite (.or (.cons (.cmp .eq (.var 5) (.lit (.int 0))) (.cons (.cmp .ge (.bx (.var 0) 27 68 (.cons (.neg (.var 5)) .nil)) (.len (.var 3))) .nil))) (.cons (.ret (.lit .none)) .nil) .nil) (.cons (.set (.v 3) (.sK (.var 3) (.bin .sub (.len (.var 3)) (.bx (.var 0) 27 68 (.cons (.neg (.var 5)) .nil))))) (.cons (.expr (.append (.var 3) (.bx (.var 0) 28 69 (.cons (.idx (.var 3) (.neg (.lit (.int 1)))) (.cons (.bx (.var 0) 8 70 (.cons (.neg (.var 5)) .nil)) .nil))))) .nil)))))) (.cons (.ret (.lit (.str 16))) .nil)))⟩
noncomputable def MO:Fn:=⟨1,[],13,(.cons (.set (.v 1) (.call 5 (.cons (.call 7 (.cons (.var 0) (.cons (.call 22 (.cons (.var 0) .nil)) .nil))) .nil))) (.cons (.set (.v 2) (.ite (.cmp .eq (.call 6 (.cons (.var 0) (.cons (.lit (.int 0)) (.cons (.lit (.int 2)) .nil)))) (.lit (.int 0))) (.call 12 (.cons (.var 1) .nil)) (.call 16 (.cons (.var 1) .nil)))) (.cons (.set (.p 3 4) (.tup (.cons (.call 20 (.cons (.var 1) (.cons (.var 2) (.cons (.lit (.bool false)) .nil)))) (.cons (.call 20 (.cons (.var 1) (.cons (.var 2) (.cons (.lit (.bool true)) .nil)))) .nil)))) (.cons (.for (.p 5 6) (.ex (.tup (.cons (.tup (.cons (.attr (.var 3) 19) (.cons (.attr (.var 4) 19) .nil))) (.cons (.tup (.cons (.attr (.var 3) 20) (.cons (.attr (.var 4) 20) .nil))) .nil)))) (.cons (.ite (.cmp .ne (.comp [] (.bx (.var 0) 30 71 .nil) (.ex (.var 5)) .nil) (.comp [] (.bx (.var 0) 30 71 .nil) (.ex (.var 6)) .nil)) (.cons (.ret (.lit (.bool false))) .nil) .nil) .nil)) (.cons (.ite (.or (.cons (.cmp .ne (.attr (.var 3) 21) (.attr (.var 4) 21)) (.cons (.not (.call 23 (.cons (.var 3) (.cons (.var 4) .nil)))) .nil))) (.cons (.ret (.lit (.bool false))) .nil) .nil) (.cons (.set (.v 7) (.list (.cons (.lit (.int 0)) .nil))) (.cons (.for (.v 8) (.range (.lit (.int 6))) (.cons (.ite (.cmp .ne (.call 25 (.cons (.var 3) (.cons (.var 7) (.cons (.lit (.int 30)) .nil)))) (.call 25 (.cons (.var 4) (.cons (.var 7) (.cons (.lit (.int 30)) .nil))))) (.cons (.ret (.lit (.bool false))) .nil) .nil) (.cons (.set (.v 9) (.comp [3,7] (.var 2) (.ex (.tup (.cons (.lit (.int 0)) (.cons (.lit (.int 3)) (.cons (.lit (.int 4)) .nil))))) (.cons (.call 24 (.cons (.var 0) (.cons (.var 1) (.cons (.var 2) (.cons (.lit (.int 30)) .nil))))) .nil))) (.cons (.set (.v 10) (.call 6 (.cons (.var 0) (.cons (.bin .add (.lit (.int 18)) (.var 8)) (.cons (.lit (.int 12)) .nil))))) (.cons (.set (.v 11) (.ite (.and (.cons (.cmp .gt (.bin .mod (.var 10) (.lit (.int 3))) (.lit (.int 0))) (.cons (.cmp .ne (.var 9) (.list .nil)) .nil))) (.var 9) (.list (.cons (.lit (.int 3)) (.cons (.lit (.int 4)) (.cons (.lit (.int 0)) (.cons (.lit (.int 2)) .nil))))))) (.cons (.set (.v 12) (.idx (.var 11) (.bin .mod (.bin .fdiv (.var 10) (.lit (.int 3))) (.len (.var 11))))) (.cons (.set (.p 5 6) (.tup (.cons (.call 26 (.cons (.var 3) (.cons (.var 7) (.cons (.var 12) .nil)))) (.cons (.call 26 (.cons (.var 4) (.cons (.var 7) (.cons (.var 12) .nil)))) .nil)))) (.cons (.ite (.and (.cons (.cmp .ne (.var 5) (.var 6)) (.cons (.or (.cons (.cmp .xZ (.var 5) (.lit .none)) (.cons (.cmp .ne (.var 6) (.lit (.str 16))) .nil))) .nil))) (.cons (.ret (.lit (.bool false))) .nil) .nil) (.cons (.ite (.or (.cons (.cmp .is (.var 5) (.lit .none)) (.cons (.cmp .eq (.var 5) (.lit (.str 16))) (.cons (.cmp .eq (.idx (.var 5) (.neg (.lit (.int 1)))) (.lit (.int 1048576))) .nil)))) (.cons (.ret (.lit (.bool true))) .nil) .nil) (.cons (.set (.v 7) (.var 5)) .nil)))))))))) (.cons (.ret (.lit (.bool true))) .nil))))))))⟩
noncomputable def tg:Fn:=⟨4,[],4,(.cons (.setattr (.var 0) 7 (.var 1)) (.cons (.setattr (.var 0) 31 (.var 2)) (.cons (.setattr (.var 0) 32 (.var 3)) (.cons (.setattr (.var 0) 33 (.list .nil)) (.cons (.setattr (.var 0) 34 (.iM 0)) (.cons (.setattr (.var 0) 14 (.list .nil)) .nil))))))⟩
noncomputable def oZ:Fn:=⟨3,[],3,(.cons (.ite (.cmp .jG (.var 1) (.attr (.var 0) 35)) (.cons (.bq (.attr (.var 0) 35) (.var 1) (.len (.attr (.var 0) 13))) (.cons (.expr (.append (.attr (.var 0) 13) (.new 0 (.cons (.len (.attr (.var 0) 13)) (.cons (.var 1) (.cons (.var 2) .nil)))))) .nil)) .nil) (.cons (.ret (.idx (.attr (.var 0) 35) (.var 1))) .nil))⟩
noncomputable def q9:Fn:=⟨3,[],3,(.cons (.setattr (.var 0) 12 (.var 1)) (.cons (.setattr (.var 0) 13 (.var 2)) .nil))⟩
noncomputable def rU:Fn:=⟨2,[],4,(.cons (.set (.v 2) (.attr (.idx (.attr (.var 0) 5) (.idx (.attr (.var 0) 36) (.var 1))) 6)) (.cons (.set (.v 3) (.bin .sub (.var 1) (.idx (.attr (.var 0) 37) (.idx (.attr (.var 0) 36) (.var 1))))) (.cons (.ret (.ite (.cmp .lt (.var 3) (.len (.var 2))) (.idx (.var 2) (.var 3)) (.neg (.lit (.int 1))))) .nil)))⟩
noncomputable def rV:Fn:=⟨2,[],5,(.cons (.set (.v 2) (.lit (.int 0))) (.cons (.for (.v 3) (.ex (.var 1)) (.cons (.set (.v 4) (.bx (.attr (.var 0) 12) 0 31 (.cons (.var 3) .nil))) (.cons (.ite (.cmp .ge (.var 4) (.lit (.int 0))) (.cons (.set (.v 2) (.bin .bor (.bin .bor (.var 2) (.bin .shl (.lit (.int 1)) (.var 4))) (.idx (.attr (.var 0) 38) (.var 4)))) .nil) .nil) .nil))) (.cons (.ret (.var 2)) .nil)))⟩
noncomputable def pM:Fn:=⟨2,[],2,(.cons (.ret (.listOf (.idx (.attr (.var 0) 39) (.var 1)))) .nil)⟩
noncomputable def tj:Fn:=⟨3,[],3,(.cons (.ret (.bin .add (.idx (.attr (.var 0) 37) (.var 1)) (.var 2))) .nil)⟩
noncomputable def tm:Fn:=⟨2,[],6,(.cons (.set (.v 2) (.list .nil)) (.cons (.for (.v 3) (.ex (.call 0 (.cons (.bx (.var 0) 40 32 (.cons (.var 1) .nil)) .nil))) (.cons (.for (.v 4) (.ex (.bx (.attr (.var 0) 12) 41 33 (.cons (.var 3) .nil))) (.cons (.set (.v 5) (.bx (.attr (.var 0) 12) 2 34 (.cons (.var 4) (.cons (.lit (.int 0)) .nil)))) (.cons (.ite (.cmp .jG (.var 5) (.var 1)) (.cons (.expr (.append (.var 2) (.var 5))) .nil) .nil) .nil))) .nil)) (.cons (.ret (.sorted (.var 2))) .nil)))⟩
noncomputable def tn:Fn:=⟨2,[],2,(.cons (.ret (.bin .add (.sorted (.var 1)) (.bx (.var 0) 42 35 (.cons (.var 1) .nil)))) .nil)⟩
noncomputable def qm:Fn:=⟨2,[],2,(.cons (.ret (.idx (.attr (.var 0) 36) (.var 1))) .nil)⟩
noncomputable def q_:Fn:=⟨2,[],2,(.cons (.ret (.bin .sub (.var 1) (.idx (.attr (.var 0) 37) (.idx (.attr (.var 0) 36) (.var 1))))) .nil)⟩
noncomputable def re:Fn:=⟨2,[],4,(.cons (.setattr (.var 1) 33 (.bx (.attr (.var 0) 43) 44 36 (.cons (.attr (.var 1) 31) .nil))) (.cons (.setattr (.var 1) 14 (.call 1 (.cons (.attr (.var 0) 12) (.cons (.attr (.var 1) 33) .nil)))) (.cons (.set (.v 2) (.call 3 (.cons (.attr (.var 0) 12) (.cons (.attr (.var 1) 33) .nil)))) (.cons (.for (.v 3) (.ex (.var 2)) (.cons (.bq (.attr (.var 1) 34) (.var 3) (.bx (.var 0) 45 29 (.cons (.idx (.var 2) (.var 3)) (.cons (.var 3) .nil)))) .nil)) .nil))))⟩
noncomputable def rW:Fn:=⟨1,[],2,(.cons (.expr (.bx (.var 0) 45 29 (.cons (.tup (.cons (.bx (.attr (.var 0) 12) 2 34 (.cons (.lit (.int 0)) (.cons (.lit (.int 0)) .nil))) .nil)) (.cons (.lit (.int (-1))) .nil)))) (.cons (.set (.v 1) (.lit (.int 0))) (.cons (.while (.cmp .lt (.var 1) (.len (.attr (.var 0) 13))) (.cons (.expr (.bx (.var 0) 46 39 (.cons (.idx (.attr (.var 0) 13) (.var 1)) .nil))) (.cons (.set (.v 1) (.bin .add (.var 1) (.lit (.int 1)))) .nil))) (.cons (.ret (.new 1 (.cons (.attr (.var 0) 12) (.cons (.attr (.var 0) 13) .nil)))) .nil))))⟩
noncomputable def mA:Fn:=⟨1,[],1,(.cons (.ret (.len (.attr (.var 0) 47))) .nil)⟩
noncomputable def ui:Fn:=⟨2,[],4,(.cons (.setattr (.var 0) 12 (.var 1)) (.cons (.set (.v 2) (.bin .mul (.list (.cons (.lit (.int 0)) .nil)) (.bx (.var 1) 9 41 .nil))) (.cons (.for (.v 3) (.ex (.attr (.var 1) 5)) (.cons (.ite (.cmp .gt (.len (.attr (.var 3) 6)) (.lit (.int 0))) (.cons (.bq (.var 2) (.attr (.var 3) 8) (.bin .bor (.idx (.var 2) (.attr (.var 3) 8)) (.bin .shl (.lit (.int 1)) (.idx (.attr (.var 3) 6) (.lit (.int 0)))))) .nil) .nil) .nil)) (.cons (.setattr (.var 0) 38 (.call 4 (.cons (.var 2) .nil))) .nil))))⟩
noncomputable def tp:Fn:=⟨2,[],2,(.cons (.setattr (.var 0) 12 (.var 1)) (.cons (.setattr (.var 0) 43 (.new 3 (.cons (.var 1) .nil))) (.cons (.setattr (.var 0) 13 (.list .nil)) (.cons (.setattr (.var 0) 35 (.iM 1)) .nil))))⟩
noncomputable def tq:Fn:=⟨7,[],8,(.cons (.setattr (.var 0) 47 (.var 1)) (.cons (.setattr (.var 0) 29 (.var 2)) (.cons (.setattr (.var 0) 5 (.var 3)) (.cons (.setattr (.var 0) 15 (.var 4)) (.cons (.setattr (.var 0) 48 (.var 5)) (.cons (.setattr (.var 0) 49 (.var 6)) (.cons (.setattr (.var 0) 39 (.comp [] (.list .nil) (.ex (.attr (.var 0) 47)) .nil)) (.cons (.setattr (.var 0) 37 (.list .nil)) (.cons (.setattr (.var 0) 36 (.list .nil)) (.cons (.for (.v 7) (.ex (.attr (.var 0) 5)) (.cons (.expr (.append (.idx (.attr (.var 0) 39) (.attr (.var 7) 8)) (.attr (.var 7) 7))) (.cons (.expr (.append (.attr (.var 0) 37) (.len (.attr (.var 0) 36)))) (.cons (.expr (.extend (.attr (.var 0) 36) (.bin .mul (.list (.cons (.attr (.var 7) 7) .nil)) (.bin .add (.len (.attr (.var 7) 6)) (.lit (.int 1)))))) .nil)))) (.cons (.setattr (.var 0) 50 (.len (.attr (.var 0) 36))) .nil)))))))))))⟩
noncomputable def rK:Fn:=⟨8,[(.int (-1)),.none,(.int 0),(.int 0)],8,(.cons (.setattr (.var 0) 7 (.var 1)) (.cons (.setattr (.var 0) 8 (.var 2)) (.cons (.setattr (.var 0) 6 (.var 3)) (.cons (.setattr (.var 0) 16 (.var 4)) (.cons (.setattr (.var 0) 26 (.var 5)) (.cons (.setattr (.var 0) 51 (.var 6)) (.cons (.setattr (.var 0) 52 (.var 7)) .nil)))))))⟩
noncomputable def m7:Fn:=⟨2,[],2,(.cons (.ret (.cmp .lt (.var 1) (.attr (.var 0) 29))) .nil)⟩
noncomputable def iY:Fn:=⟨1,[],4,(.cons (.set (.v 1) (.attr (.attr (.var 0) 53) 12)) (.cons (.for (.v 2) (.ex (.attr (.attr (.var 0) 53) 13)) (.cons (.for (.v 3) (.ex (.sorted (.attr (.var 2) 34))) (.cons (.ite (.not (.bx (.var 1) 11 46 (.cons (.var 3) .nil))) (.cons (.bq (.attr (.var 0) 54) (.tup (.cons (.attr (.var 2) 7) (.cons (.var 3) .nil))) (.len (.attr (.var 0) 55))) (.cons (.expr (.append (.attr (.var 0) 55) (.tup (.cons (.attr (.var 2) 7) (.cons (.var 3) .nil))))) .nil)) .nil) .nil)) .nil)) .nil))⟩
noncomputable def tt:Fn:=⟨2,[],2,(.cons (.ret (.qO (.attr (.var 0) 34) (.var 1) (.lit (.int (-1))))) .nil)⟩
noncomputable def rg:Fn:=⟨3,[],3,(.cons (.ret (.bx (.idx (.attr (.var 0) 13) (.var 1)) 28 48 (.cons (.var 2) .nil))) .nil)⟩
noncomputable def lP:Fn:=⟨1,[],9,(.cons (.set (.v 1) (.attr (.attr (.var 0) 53) 12)) (.cons (.for (.p 2 3) (.ex (.attr (.var 0) 55)) (.cons (.set (.v 4) (.bx (.attr (.var 0) 53) 28 49 (.cons (.var 2) (.cons (.var 3) .nil)))) (.cons (.set (.v 5) (.lit (.int 0))) (.cons (.set (.v 6) (.list .nil)) (.cons (.set (.v 7) (.attr (.idx (.attr (.attr (.var 0) 53) 13) (.var 4)) 34)) (.cons (.for (.v 8) (.ex (.sorted (.var 7))) (.cons (.ite (.bx (.var 1) 11 46 (.cons (.var 8) .nil)) (.cons (.set (.v 5) (.bin .bor (.var 5) (.bin .shl (.lit (.int 1)) (.var 8)))) .nil) (.cons (.ite (.idx (.attr (.var 0) 56) (.var 8)) (.cons (.expr (.append (.var 6) (.idx (.attr (.var 0) 54) (.tup (.cons (.var 4) (.cons (.var 8) .nil)))))) .nil) .nil) .nil)) .nil)) (.cons (.expr (.append (.attr (.var 0) 57) (.var 5))) (.cons (.expr (.append (.attr (.var 0) 58) (.var 6))) .nil)))))))) .nil))⟩
noncomputable def mB:Fn:=⟨2,[],3,(.cons (.set (.v 2) (.len (.var 1))) (.cons (.while (.and (.cons (.cmp .gt (.var 2) (.lit (.int 0))) (.cons (.idx (.attr (.var 0) 56) (.idx (.var 1) (.bin .sub (.var 2) (.lit (.int 1))))) .nil))) (.cons (.set (.v 2) (.bin .sub (.var 2) (.lit (.int 1)))) .nil)) (.cons (.ret (.max (.bin .sub (.var 2) (.lit (.int 1))) (.lit (.int 0)))) .nil)))⟩
noncomputable def kg:Fn:=⟨1,[],13,(.cons (.set (.v 1) (.attr (.attr (.var 0) 53) 12)) (.cons (.for (.v 2) (.ex (.attr (.attr (.var 0) 53) 13)) (.cons (.for (.v 3) (.ex (.attr (.var 2) 14)) (.cons (.bq (.attr (.var 0) 59) (.tup (.cons (.attr (.var 2) 7) (.cons (.var 3) .nil))) (.list .nil)) .nil)) .nil)) (.cons (.for (.v 4) (.range (.len (.attr (.var 0) 55))) (.cons (.set (.p 5 6) (.idx (.attr (.var 0) 55) (.var 4))) (.cons (.for (.v 3) (.ex (.bx (.var 1) 41 33 (.cons (.var 6) .nil))) (.cons (.set (.v 7) (.attr (.idx (.attr (.var 1) 5) (.var 3)) 6)) (.cons (.set (.v 8) (.bx (.var 0) 60 51 (.cons (.var 7) .nil))) (.cons (.set (.v 9) (.var 5)) (.cons (.for (.v 10) (.range (.len (.var 7))) (.cons (.set (.v 11) (.idx (.var 7) (.var 10))) (.cons (.ite (.and (.cons (.cmp .ge (.var 10) (.var 8)) (.cons (.not (.bx (.var 1) 11 46 (.cons (.var 11) .nil))) .nil))) (.cons (.set (.v 12) (.idx (.attr (.var 0) 54) (.tup (.cons (.var 9) (.cons (.var 11) .nil))))) (.cons (.expr (.call 10 (.cons (.idx (.attr (.var 0) 61) (.var 12)) (.cons (.var 4) .nil)))) (.cons (.ite (.cmp .eq (.var 10) (.lit (.int 0))) (.cons (.expr (.call 10 (.cons (.idx (.attr (.var 0) 62) (.var 12)) (.cons (.var 4) .nil)))) .nil) .nil) .nil))) .nil) (.cons (.set (.v 9) (.bx (.attr (.var 0) 53) 28 49 (.cons (.var 9) (.cons (.var 11) .nil)))) .nil)))) (.cons (.expr (.call 10 (.cons (.idx (.attr (.var 0) 59) (.tup (.cons (.var 9) (.cons (.var 3) .nil)))) (.cons (.var 4) .nil)))) .nil)))))) .nil))) .nil)))⟩
noncomputable def kE:Fn:=⟨1,[],5,(.cons (.set (.v 1) (.iM 1)) (.cons (.for (.v 2) (.ex (.attr (.var 0) 59)) (.cons (.set (.v 3) (.lit (.int 0))) (.cons (.for (.v 4) (.ex (.idx (.attr (.var 0) 59) (.var 2))) (.cons (.set (.v 3) (.bin .bor (.var 3) (.idx (.attr (.var 0) 63) (.var 4)))) .nil)) (.cons (.bq (.var 1) (.var 2) (.var 3)) .nil)))) (.cons (.ret (.var 1)) .nil)))⟩
noncomputable def qn:Fn:=⟨2,[],3,(.cons (.setattr (.var 0) 53 (.var 1)) (.cons (.setattr (.var 0) 56 (.call 9 (.cons (.attr (.var 1) 12) .nil))) (.cons (.setattr (.var 0) 55 (.list .nil)) (.cons (.setattr (.var 0) 54 (.iM 1)) (.cons (.expr (.bx (.var 0) 64 47 .nil)) (.cons (.setattr (.var 0) 57 (.list .nil)) (.cons (.setattr (.var 0) 58 (.list .nil)) (.cons (.expr (.bx (.var 0) 65 50 .nil)) (.cons (.setattr (.var 0) 61 (.comp [] (.list .nil) (.ex (.attr (.var 0) 55)) .nil)) (.cons (.setattr (.var 0) 62 (.comp [] (.list .nil) (.ex (.attr (.var 0) 55)) .nil)) (.cons (.setattr (.var 0) 59 (.iM 1)) (.cons (.expr (.bx (.var 0) 66 52 .nil)) (.cons (.set (.v 2) (.len (.attr (.var 0) 55))) (.cons (.setattr (.var 0) 67 (.call 11 (.cons (.var 2) (.cons (.attr (.var 0) 58) (.cons (.attr (.var 0) 57) .nil))))) (.cons (.setattr (.var 0) 63 (.call 11 (.cons (.var 2) (.cons (.attr (.var 0) 61) (.cons (.attr (.var 0) 67) .nil))))) (.cons (.setattr (.var 0) 10 (.bx (.var 0) 68 53 .nil)) .nil))))))))))))))))⟩
noncomputable def uj:Fn:=⟨6,[],7,(.cons (.setattr (.var 0) 47 (.var 1)) (.cons (.setattr (.var 0) 29 (.var 2)) (.cons (.setattr (.var 0) 69 (.var 3)) (.cons (.setattr (.var 0) 70 (.var 4)) (.cons (.setattr (.var 0) 71 (.var 5)) (.cons (.setattr (.var 0) 72 (.list .nil)) (.cons (.setattr (.var 0) 35 (.iM 2)) (.cons (.for (.v 6) (.range (.var 2)) (.cons (.bq (.attr (.var 0) 35) (.idx (.var 1) (.var 6)) (.var 6)) .nil)) .nil))))))))⟩
noncomputable def pN:Fn:=⟨8,[],11,(.cons (.set (.v 8) (.comp [] (.attr (.var 0) 8) (.ex (.attr (.var 1) 5)) .nil)) (.cons (.set (.v 9) (.comp [] (.len (.attr (.var 0) 6)) (.ex (.attr (.var 1) 5)) .nil)) (.cons (.set (.v 10) (.comp [] (.attr (.var 0) 52) (.ex (.attr (.var 1) 5)) .nil)) (.cons (.sup (.cons (.attr (.var 1) 47) (.cons (.attr (.var 1) 29) (.cons (.var 8) (.cons (.var 9) (.cons (.var 10) .nil)))))) (.cons (.setattr (.var 0) 12 (.var 1)) (.cons (.setattr (.var 0) 73 (.var 2)) (.cons (.setattr (.var 0) 21 (.var 3)) (.cons (.setattr (.var 0) 72 (.var 4)) (.cons (.setattr (.var 0) 19 (.var 5)) (.cons (.setattr (.var 0) 20 (.var 6)) (.cons (.setattr (.var 0) 74 (.var 7)) .nil)))))))))))⟩
noncomputable def rX:Fn:=⟨4,[],6,(.cons (.setattr (.var 0) 12 (.var 1)) (.cons (.setattr (.var 0) 7 (.attr (.var 2) 7)) (.cons (.setattr (.var 0) 75 (.iM 0)) (.cons (.setattr (.var 0) 21 (.iM 0)) (.cons (.for (.v 4) (.ex (.attr (.var 2) 34)) (.cons (.ite (.cmp .eq (.var 4) (.lit (.int 0))) (.cons (.bq (.attr (.var 0) 75) (.var 4) (.lit (.int 1048576))) .nil) (.cons (.ite (.cmp .lt (.var 4) (.attr (.var 1) 29)) (.cons (.bq (.attr (.var 0) 75) (.var 4) (.idx (.attr (.var 2) 34) (.var 4))) .nil) (.cons (.bq (.attr (.var 0) 21) (.var 4) (.idx (.attr (.var 2) 34) (.var 4))) .nil)) .nil)) .nil)) (.cons (.setattr (.var 0) 76 (.list .nil)) (.cons (.for (.v 5) (.ex (.attr (.var 2) 14)) (.cons (.expr (.append (.attr (.var 0) 76) (.list (.cons (.var 5) (.cons (.qO (.var 3) (.tup (.cons (.attr (.var 2) 7) (.cons (.var 5) .nil))) (.lit (.int 0))) .nil))))) .nil)) (.cons (.setattr (.var 0) 77 (.lit (.int 0))) (.cons (.setattr (.var 0) 20 (.list .nil)) .nil)))))))))⟩
noncomputable def rY:Fn:=⟨6,[],6,(.cons (.setattr (.var 0) 78 (.var 1)) (.cons (.setattr (.var 0) 79 (.var 2)) (.cons (.setattr (.var 0) 80 (.var 3)) (.cons (.setattr (.var 0) 5 (.var 4)) (.cons (.setattr (.var 0) 81 (.var 5)) .nil)))))⟩
noncomputable def m8:Fn:=⟨4,[],5,(.cons (.set (.v 4) (.idx (.attr (.var 0) 75) (.var 2))) (.cons (.ite (.cmp .eq (.var 3) (.lit (.str 12))) (.cons (.set (.v 4) (.neg (.idx (.var 1) (.lit (.int 0))))) .nil) .nil) (.cons (.ite (.cmp .eq (.var 3) (.lit (.str 14))) (.cons (.set (.v 4) (.lit (.int (-1048576)))) (.cons (.setattr (.var 0) 77 (.bin .bor (.attr (.var 0) 77) (.bin .shl (.lit (.int 1)) (.var 2)))) .nil)) .nil) (.cons (.ite (.cmp .ne (.var 3) (.lit (.str 12))) (.cons (.bq (.var 1) (.lit (.int 1)) (.bin .band (.idx (.var 1) (.lit (.int 1))) (.inv (.bin .shl (.lit (.int 1)) (.var 2))))) .nil) .nil) (.cons (.ite (.cmp .ne (.var 3) (.lit (.str 13))) (.cons (.expr (.u8 (.attr (.var 0) 75) (.var 2))) .nil) .nil) (.cons (.expr (.append (.attr (.var 0) 20) (.new 9 (.cons (.attr (.var 0) 7) (.cons (.var 2) (.cons (.lit (.str 17)) (.cons (.tup (.cons (.idx (.var 1) (.lit (.int 0))) .nil)) (.cons (.var 4) .nil)))))))) .nil))))))⟩
noncomputable def lr:Fn:=⟨1,[],4,(.cons (.for (.v 1) (.ex (.attr (.var 0) 76)) (.cons (.for (.v 2) (.ex (.call 0 (.cons (.idx (.var 1) (.lit (.int 1))) .nil))) (.cons (.set (.v 3) (.lit .none)) (.cons (.ite (.cmp .isin (.var 2) (.attr (.var 0) 75)) (.cons (.set (.v 3) (.call 17 (.cons (.attr (.var 0) 12) (.cons (.idx (.var 1) (.lit (.int 0))) (.cons (.var 2) .nil))))) .nil) .nil) (.cons (.ite (.cmp .xZ (.var 3) (.lit .none)) (.cons (.expr (.bx (.var 0) 82 59 (.cons (.var 1) (.cons (.var 2) (.cons (.var 3) .nil))))) .nil) .nil) .nil)))) .nil)) .nil)⟩
noncomputable def tu:Fn:=⟨1,[],4,(.cons (.set (.v 1) (.bin .mul (.list (.cons (.lit (.int 0)) .nil)) (.attr (.attr (.var 0) 12) 29))) (.cons (.for (.v 2) (.rev (.attr (.var 0) 76)) (.cons (.for (.v 3) (.ex (.call 0 (.cons (.idx (.var 2) (.lit (.int 1))) .nil))) (.cons (.bq (.var 1) (.var 3) (.neg (.idx (.var 2) (.lit (.int 0))))) .nil)) .nil)) (.cons (.for (.v 3) (.ex (.attr (.var 0) 75)) (.cons (.bq (.var 1) (.var 3) (.idx (.attr (.var 0) 75) (.var 3))) .nil)) (.cons (.for (.v 3) (.ex (.call 0 (.cons (.attr (.var 0) 77) .nil))) (.cons (.bq (.var 1) (.var 3) (.lit (.int (-1048576)))) .nil)) (.cons (.ret (.var 1)) .nil)))))⟩
noncomputable def nY:Fn:=⟨2,[],7,(.cons (.set (.v 2) (.list .nil)) (.cons (.for (.v 3) (.range (.attr (.attr (.var 0) 12) 29)) (.cons (.set (.v 4) (.comp [3] (.idx (.var 1) (.lit (.int 0))) (.ex (.attr (.var 0) 76)) (.cons (.bin .band (.idx (.var 1) (.lit (.int 1))) (.bin .shl (.lit (.int 1)) (.var 0))) .nil))) (.cons (.ite (.and (.cons (.var 4) (.cons (.cmp .isin (.var 3) (.attr (.var 0) 75)) .nil))) (.cons (.expr (.append (.var 2) (.new 9 (.cons (.attr (.var 0) 7) (.cons (.var 3) (.cons (.lit (.str 17)) (.cons (.tupleOf (.var 4)) (.cons (.idx (.var 1) (.var 3)) .nil)))))))) .nil) .nil) (.cons (.for (.v 5) (.ex (.p_ (.var 4) (.lit (.int 1)))) (.cons (.set (.v 6) (.tup (.cons (.idx (.var 4) (.lit (.int 0))) (.cons (.var 5) .nil)))) (.cons (.expr (.append (.var 2) (.new 9 (.cons (.attr (.var 0) 7) (.cons (.var 3) (.cons (.lit (.str 18)) (.cons (.var 6) (.cons (.idx (.var 1) (.var 3)) .nil)))))))) .nil))) .nil)))) (.cons (.ret (.var 2)) .nil)))⟩
noncomputable def kF:Fn:=⟨1,[],1,(.cons (.ret (.len (.attr (.var 0) 73))) .nil)⟩
noncomputable def rh:Fn:=⟨2,[],2,(.cons (.ret (.idx (.attr (.var 0) 72) (.var 1))) .nil)⟩
noncomputable def mC:Fn:=⟨3,[],3,(.cons (.ret (.idx (.idx (.attr (.var 0) 73) (.var 1)) (.var 2))) .nil)⟩
noncomputable def mD:Fn:=⟨2,[],3,(.cons (.ite (.cmp .eq (.bx (.var 0) 23 64 (.cons (.var 1) .nil)) (.lit (.int 0))) (.cons (.ret (.lit (.bool false))) .nil) .nil) (.cons (.for (.v 2) (.range (.attr (.var 0) 29)) (.cons (.ite (.cmp .ne (.bx (.var 0) 24 65 (.cons (.var 1) (.cons (.var 2) .nil))) (.lit (.int 0))) (.cons (.ret (.lit (.bool false))) .nil) .nil) .nil)) (.cons (.ret (.lit (.bool true))) .nil)))⟩
noncomputable def rZ:Fn:=⟨3,[],4,(.cons (.set (.v 3) (.bx (.var 0) 24 65 (.cons (.var 1) (.cons (.var 2) .nil)))) (.cons (.ite (.cmp .eq (.var 3) (.lit (.int (-1048576)))) (.cons (.ret (.lit (.int 0))) .nil) .nil) (.cons (.ite (.cmp .eq (.var 3) (.lit (.int 0))) (.cons (.ret (.neg (.bx (.var 0) 23 64 (.cons (.var 1) .nil)))) .nil) .nil) (.cons (.ret (.var 3)) .nil))))⟩
noncomputable def r7:Fn:=⟨2,[],2,(.cons (.ret (.idx (.attr (.var 0) 70) (.var 1))) .nil)⟩
noncomputable def pO:Fn:=⟨3,[],3,(.cons (.ret (.qO (.idx (.attr (.var 0) 21) (.var 1)) (.var 2) (.neg (.lit (.int 1))))) .nil)⟩
noncomputable def uk:Fn:=⟨2,[],2,(.cons (.ret (.idx (.attr (.var 0) 69) (.var 1))) .nil)⟩
noncomputable def r8:Fn:=⟨1,[],1,(.cons (.ret (.tup (.cons (.attr (.var 0) 78) (.cons (.attr (.var 0) 79) (.cons (.attr (.var 0) 80) (.cons (.attr (.var 0) 5) (.cons (.attr (.var 0) 81) .nil))))))) .nil)⟩
noncomputable def MP:Nat->Option Fn
 |0=>some JY
 |1=>some qZ
 |2=>some yA
 |3=>some q6
 |4=>some vA
 |5=>some GJ
 |6=>some A9
 |7=>some tc
 |8=>some DP
 |9=>some yB
 |10=>some yC
 |11=>some A_
 |12=>some vB
 |13=>some yD
 |14=>some ug
 |15=>some td
 |16=>some wT
 |17=>some DQ
 |18=>some vC
 |19=>some Ba
 |20=>some JZ
 |21=>some wU
 |22=>some vD
 |23=>some q7
 |24=>some vE
 |25=>some q8
 |26=>some uh
 |27=>some MO
 |28=>some tg
 |29=>some oZ
 |30=>some q9
 |31=>some rU
 |32=>some rV
 |33=>some pM
 |34=>some tj
 |35=>some tm
 |36=>some tn
 |37=>some qm
 |38=>some q_
 |39=>some re
 |40=>some rW
 |41=>some mA
 |42=>some ui
 |43=>some tp
 |44=>some tq
 |45=>some rK
 |46=>some m7
 |47=>some iY
 |48=>some tt
 |49=>some rg
 |50=>some lP
 |51=>some mB
 |52=>some kg
 |53=>some kE
 |54=>some qn
 |55=>some uj
 |56=>some pN
 |57=>some rX
 |58=>some rY
 |59=>some m8
 |60=>some lr
 |61=>some tu
 |62=>some nY
 |63=>some kF
 |64=>some rh
 |65=>some mC
 |66=>some mD
 |67=>some rZ
 |68=>some r7
 |69=>some pO
 |70=>some uk
 |71=>some r8
 |_=>none
noncomputable def GK:Nat->Option Nat
 |0=>some 28
 |1=>some 30
 |2=>some 43
 |3=>some 42
 |4=>some 44
 |5=>some 45
 |6=>some 54
 |7=>some 56
 |8=>some 57
 |9=>some 58
 |_=>none
noncomputable def J0:Nat->Nat->Option Nat
 |0,25=>some 72|4,7=>some 73|7,52=>some 74|7,79=>some 75
 |0,28=>some 48
 |1,28=>some 49
 |2,4=>some 40
 |2,46=>some 39
 |2,45=>some 29
 |3,42=>some 35
 |3,44=>some 36
 |3,40=>some 32
 |4,0=>some 31
 |4,3=>some 38
 |4,11=>some 46
 |4,2=>some 34
 |4,1=>some 37
 |4,41=>some 33
 |4,9=>some 41
 |6,66=>some 52
 |6,65=>some 50
 |6,68=>some 53
 |6,64=>some 47
 |6,60=>some 51
 |7,26=>some 67
 |7,23=>some 64
 |7,24=>some 65
 |7,28=>some 69
 |7,25=>some 66
 |7,8=>some 70
 |7,27=>some 68
 |7,22=>some 63
 |8,19=>some 62
 |8,18=>some 61
 |8,17=>some 60
 |8,82=>some 59
 |9,30=>some 71
 |0,83=>some 28
 |1,83=>some 30
 |2,83=>some 43
 |3,83=>some 42
 |4,83=>some 44
 |5,83=>some 45
 |6,83=>some 54
 |7,83=>some 56
 |8,83=>some 57
 |9,83=>some 58
 |_,_=>none
noncomputable def pg:Pg:=⟨MP,GK,J0,55,7⟩
section
open PySem PySem.W PySem.Calls PyProof.Rows
noncomputable def tb:Tb:=⟨(["left","right","nonassoc","precedence","$end","error","$undefined","a","b","$accept","S","A","reduce","shift","bar","lalr","round","shift/reduce","reduce/reduce"]:List String).map Str.ofString,(["after","rule_of","item","dot_of","built","rules","right","number","left","symbol_count","masks","is_terminal","grammar","states","reductions","levels","level_of","settle_levels","row","conflicts","settled","gotos","state_count","default","explicit","is_consistent","action","length","goto","terminal_count","told","kernel","symbol","items","moves","numbers","owners","offsets","firsts","by_left","wanted","rules_of","added","closer","close","number_of","expand","names","expect","start","item_count","line","before","automaton","index","transitions","nullables","direct","reads","lookback","open_ends","includes","turns","follow_masks","number_transitions","find_reads","find_includes","read_masks","joined_masks","lefts","lengths","befores","defaults","rows","mode","shifts","looks","barred","state","terminal","way","chosen","settle_one","__init__"]:List String).map Str.ofString,[("ACCEPT",1048576),("BARRED",(-1048576)),("END",0),("ERROR",1),("UNDEFINED",2),("NONE",(-1))],(["bits","complete_rules","advanced","kernels_behind","transitive","build","_law_at","_law_grammar","spread","nullable","add_once","digraph","lalr_masks","first_of","first_masks","follow_masks","slr_masks","settle","default_of","without","fill","_law_side","_law_pairs","_law_rows_hold","would_take","exact_expected","_law_pushed","law"]:List String).map Str.ofString,(["LrState","Automaton","Builder","Closer","Grammar","Rule","Lookaheads","ParseTables","RowMaker","Conflict"]:List String).map Str.ofString,[3,11,13,14,17,21,24,25,26,27,34,36,39,40,41,42,43,47,53,54,55,56,57,62,67,68,69,71,0,1,2,4,5,6,7,8,9,10,12,15,16,18,19,20,22,23,28,29,30,31,32,33,35,37,38,44,45,46,48,49,50,51,52,58,59,60,61,63,64,65,66,70],pg⟩
noncomputable def vF:List Addr:=[68,653,639,646,466,758,765,782,431,438,541,473,548,445,452,459,555,241,295,300,308,770,777,794,315,322,789,799,569,730,667,419,611,391,398,618,625,405,412,737,744,363,604,723,356,337,370,492,576,674,499,513,506,520,485,82,208,255,180,269,262,276,281,215,131,222,159,145,103,229,96,187,583,384,110,89]
noncomputable def Bb:List Addr:=[586,705,747,628,422,340,530,232,284,190]
noncomputable def J1:List (List Str):=([["mask","found","at","left"],
 ["grammar","items","found","item"],
 ["grammar","item"],
 ["grammar","items","found","item","symbol","ordered"],
 ["rows","found","middle","one"],
 ["grammar"],
 ["script","k","many"],
 ["script","pairs","rules","left","right","marks","levels","terminal","number","names"],
 ["grammar","known","found","lacking","users","queue","rule","missing","symbol","at","number","left"],
 ["grammar"],
 ["row","number"],
 ["count","relation","masks","result","heights","done","pile","start","frames","frame","x","y","last"],
 ["automaton"],
 ["symbols","nullables","firsts","mask","symbol"],
 ["grammar","nullables","firsts","symbol","is_grown","rule","mask"],
 ["grammar","nullables","firsts","follows","is_grown","rule","behind","symbol"],
 ["automaton","follows","masks","state","rule"],
 ["grammar","rule","terminal","own","other"],
 ["row","counts","number","best","rule"],
 ["row","rule"],
 ["automaton","masks","with_defaults","mode","rows","gotos","defaults","conflicts","settled","state","maker","row","rule"],
 ["script","k","length","symbols"],
 ["script","pairs"],
 ["whole","cut","state","best","row"],
 ["tables","states","terminal","most","stack","turn","told","length","goal"],
 ["tables","states","most","found","terminal"],
 ["tables","states","symbol","stack","turn","deed"],
 ["script","automaton","masks","whole","cut","one","other","states","k","takes","number","menu","symbol"],
 ["self","number","kernel","symbol"],
 ["self","kernel","symbol"],
 ["self","grammar","states"],
 ["self","item","right","dot"],
 ["self","kernel","mask","item","symbol"],
 ["self","symbol"],
 ["self","rule","dot"],
 ["self","kernel","found","symbol","number","item"],
 ["self","kernel"],
 ["self","item"],
 ["self","item"],
 ["self","state","behind","symbol"],
 ["self","at"],
 ["self"],
 ["self","grammar","rows","rule"],
 ["self","grammar"],
 ["self","names","terminal_count","rules","levels","expect","start","rule"],
 ["self","number","left","right","level_of","action","line","before"],
 ["self","symbol"],
 ["self","grammar","state","symbol"],
 ["self","symbol"],
 ["self","state","symbol"],
 ["self","grammar","state","symbol","goal","mask","row","moves","later"],
 ["self","right","spot"],
 ["self","grammar","state","rule","x","first","left","right","ends","at","spot","symbol","inner"],
 ["self","masks","pair","mask","x"],
 ["self","automaton","count"],
 ["self","names","terminal_count","lefts","lengths","befores","number"],
 ["self","grammar","rows","gotos","defaults","conflicts","settled","mode","lefts","lengths","befores"],
 ["self","grammar","state","masks","symbol","rule"],
 ["self","state","terminal","way","rules","chosen"],
 ["self","look","terminal","way","chosen"],
 ["self","look","terminal","way"],
 ["self","row","look","terminal"],
 ["self","row","found","terminal","rules","other","pair"],
 ["self"],
 ["self","state"],
 ["self","state","terminal"],
 ["self","state","terminal"],
 ["self","state","terminal","told"],
 ["self","rule"],
 ["self","state","nonterminal"],
 ["self","rule"],
 ["self"]]:List (List String)).map (·.map Str.ofString)
inductive Aa (c:Cx):Prop
 |mk (t1:nK c tb) (t2:GG c tb) (t3:MM c tb)
noncomputable def JE (e:CE) (L:Lc) (H:Hp) (v:V) (H':Hp):Prop:=∀c,Aa c->zW c tb e L H v H'
noncomputable def vG (l:mo) (L:Lc) (H:Hp) (vs:List V) (H':Hp):Prop:=∀c,Aa c->nO c tb l L H vs H'
noncomputable def JT (e:CE) (L:Lc) (H:Hp) (b:Bool) (H':Hp):Prop:=∀c,Aa c->lp c tb e L H b H'
noncomputable def JA (l:mo) (L:Lc) (H:Hp) (b:Bool) (H':Hp):Prop:=∀c,Aa c->iC c tb .And l L H b H'
noncomputable def JO (l:mo) (L:Lc) (H:Hp) (b:Bool) (H':Hp):Prop:=∀c,Aa c->iC c tb .Or l L H b H'
noncomputable def JP (l:mo) (L:Lc) (H:Hp) (v:V) (H':Hp):Prop:=∀c,Aa c->wo c tb .And l L H v H'
noncomputable def JQ (l:mo) (L:Lc) (H:Hp) (v:V) (H':Hp):Prop:=∀c,Aa c->wo c tb .Or l L H v H'
noncomputable def JI (i:CI) (L:Lc) (H:Hp) (xs:List V) (g:Gd) (H':Hp):Prop:=∀c,Aa c->sX c tb i L H xs g H'
noncomputable def JC (elt:CE) (ifs:mo) (L:Lc) (g:Gd) (xs acc:List V) (H:Hp) (ys:List V) (H':Hp):Prop:=∀c,Aa c->kM c tb elt ifs L g xs acc H ys H'
noncomputable def JS (s:CS) (L:Lc) (H:Hp) (f:Fl) (L':Lc) (H':Hp):Prop:=∀c,Aa c->qj c tb s L H f L' H'
noncomputable def xT (l:i6) (L:Lc) (H:Hp) (f:Fl) (L':Lc) (H':Hp):Prop:=∀c,Aa c->j_ c tb l L H f L' H'
noncomputable def JF (t:Tg) (b:i6) (g:Gd) (xs:List V) (L:Lc) (H:Hp) (f:Fl) (L':Lc) (H':Hp):Prop:=∀c,Aa c->qY c tb t b g xs L H f L' H'
noncomputable def JW (e:CE) (b:i6) (L:Lc) (H:Hp) (f:Fl) (L':Lc) (H':Hp):Prop:=∀c,Aa c->uJ c tb e b L H f L' H'
noncomputable def JR (f:Nat) (vs:List V) (H:Hp) (v:V) (H':Hp):Prop:=∀c,Aa c->wR c tb f vs H v H'
theorem JE.lit {v L H}:JE (.lit v) L H v H:=λκ ω=>oY (FO ω.1)
theorem JE.var {i L H v} (h:L[i]?=some (some v)):JE (.var i) L H v H:=λκ ω=>oY (FN h)
theorem JE.bin {o a b L H va vb r H1 H2 H3} (x:JE a L H va H1) (y:JE b L H1 vb H2) (r':iX o va vb H2 r H3):JE (.bin o a b) L H r H3:=λκ ω=>oY (F7 (x κ ω).1 (y κ ω).1 r')
theorem JE.neg {a L H i H1} (x:JE a L H (.int i) H1):JE (.neg a) L H (.int (-i)) H1:=λκ ω=>oY (F8 (x κ ω).1)
theorem JE.inv {a L H i H1} (x:JE a L H (.int i) H1):JE (.inv a) L H (.int (-i-1)) H1:=λκ ω=>oY (F9 (x κ ω).1)
theorem JE.not {a L H v b H1} (x:JE a L H v H1) (t:Tr H1 v b):JE (.not a) L H (.bool (!b)) H1:=λκ ω=>oY (F_ (x κ ω).1 t)
theorem JE.cmp {o a b L H va vb r H1 H2} (x:JE a L H va H1) (y:JE b L H1 vb H2) (r':cL H2 o va vb r):JE (.cmp o a b) L H (.bool r) H2:=λκ ω=>oY (Ga ω.1 (x κ ω).1 (y κ ω).1 r')
theorem JE.and {l L H v H1} (x:JP l L H v H1):JE (.and l) L H v H1:=λκ ω=>oY (snd_and (x κ ω))
theorem JE.or {l L H v H1} (x:JQ l L H v H1):JE (.or l) L H v H1:=λκ ω=>oY (Jr (x κ ω))
theorem JE.ite {c a b L H t v H1 H2} (x:JT c L H t H1) (y:JE (if t then a else b) L H1 v H2):JE (.ite c a b) L H v H2:=λκ ω=>oY (Gf (x κ ω) (y κ ω).1)
theorem JE.list {l L H vs H1} (x:vG l L H vs H1) (z:vs.length≤SZ):JE (.list l) L H (.ref H1.length) (H1++[.list vs]):=λκ ω=>oY (CH (x κ ω) z)
theorem JE.tup {l L H vs H1} (x:vG l L H vs H1) (z:vs.length≤SZ):JE (.tup l) L H (.tup vs) H1:=λκ ω=>oY (Gb (x κ ω) z)
theorem JE.iM {k L H}:JE (.iM k) L H (.ref H.length) (H++[if k=0 then .bc []else if k=1 then .bV []else .kH 0]):=λκ ω=>oY AW
theorem JE.MQ {caps elt it ifs L L1 H xs g H1 ys H2} (c:L1=caps.map (λi=>(L[i]?).join)) (x:JI it L H xs g H1) (ng:g.Ca=false) (y:JC elt ifs L1 g xs [] H1 ys H2) (z:ys.length≤SZ):JE (.comp caps elt it ifs) L H (.ref H2.length) (H2++[.list ys]):=λκ ω=>A7 c (x κ ω) ng (y κ ω) z
theorem JE.idx {a i L H va vi r H1 H2} (x:JE a L H va H1) (y:JE i L H1 vi H2) (r':Item H2 va vi r):JE (.idx a i) L H r H2:=λκ ω=>oY (Gc (x κ ω).1 (y κ ω).1 r')
theorem JE.sK {a i L H va r H1 H2} {n:Nat} (x:JE a L H va H1) (y:JE i L H1 (.int n) H2) (r':sT H2 va n r) (z:n≤SZ):JE (.sK a i) L H (.ref H2.length) (H2++[.list r]):=λκ ω=>oY (CJ (x κ ω).1 (y κ ω).1 r' z)
theorem JE.p_ {a i L H va r H1 H2} {n:Nat} (x:JE a L H va H1) (y:JE i L H1 (.int n) H2) (r':wv H2 va n r) (z:n≤SZ):JE (.p_ a i) L H (.ref H2.length) (H2++[.list r]):=λκ ω=>oY (AS (x κ ω).1 (y κ ω).1 r' z)
theorem JE.attr {a f L H k c fs v H1} (x:JE a L H (.ref k) H1) (o:H1[k]?=some (.inst c fs)) (m:pg.xQ c f=Option.none) (h:qN f fs=some v):JE (.attr a f) L H v H1:=λκ ω=>oY (CX ω.1 (x κ ω).1 o m h)
theorem JE.call {f l L H vs v H1 H2} (x:vG l L H vs H1) (y:JR f vs H1 v H2):JE (.call f l) L H v H2:=λκ ω=>oY (DN ω.1 (x κ ω) (y κ ω))
theorem JE.new {c f l L H vs H1 H2} (x:vG l L H vs H1) (i:pg.init c=some f) (y:JR f (.ref H1.length::vs) (H1++[.inst c []]) .none H2):JE (.new c l) L H (.ref H1.length) H2:=λκ ω=>oY (GH ω.1 ω.2 (x κ ω) i (y κ ω))
theorem JE.bx {o m l L H k c fs f vs v H1 H2 H3} (x:JE o L H (.ref k) H1) (h:H1[k]?=some (.inst c fs)) (q:pg.xQ c m=some f) (n:qN m fs=Option.none) (y:vG l L H1 vs H2) (z:JR f (.ref k::vs) H2 v H3):JE (.bx o m f l) L H v H3:=λκ ω=>oY (DO ω.1 (x κ ω).1 h q n (y κ ω) (z κ ω))
theorem JE.len {a L H v n H1} (x:JE a L H v H1) (r:wy H1 v n):JE (.len a) L H (.int n) H1:=λκ ω=>oY (FX ω.1 (x κ ω).1 r)
theorem JE.sorted {a L H v l H1} (x:JE a L H v H1) (r:jH H1 v l) (z:l.length<64):JE (.sorted a) L H (.ref H1.length) (H1++[.list (de (FJ l))]):=λκ ω=>oY (yk ω.1 (x κ ω).1 r z)
theorem JE.listOf {a L H k l H1} (x:JE a L H (.ref k) H1) (o:H1[k]?=some (.list l)) (z:l.length≤SZ):JE (.listOf a) L H (.ref H1.length) (H1++[.list l]):=λκ ω=>oY (yj ω.1 (x κ ω).1 o z)
theorem JE.tupleOf {a L H k l H1} (x:JE a L H (.ref k) H1) (o:H1[k]?=some (.list l)) (z:l.length≤SZ):JE (.tupleOf a) L H (.tup l) H1:=λκ ω=>oY (wD ω.1 (x κ ω).1 o z)
theorem JE.intOf {a L H i H1} (x:JE a L H (.int i) H1):JE (.intOf a) L H (.int i) H1:=λκ ω=>oY (AL ω.1 (x κ ω).1)
theorem JE.sum {a L H k l H1} (x:JE a L H (.ref k) H1) (o:H1[k]?=some (.list (de l))):JE (.sum a) L H (.int l.sum) H1:=λκ ω=>oY (F4 ω.1 (x κ ω).1 o)
theorem JE.max {a b L H i j H1 H2} (x:JE a L H (.int i) H1) (y:JE b L H1 (.int j) H2):JE (.max a b) L H (.int (if i<j then j else i)) H2:=λκ ω=>oY (FY ω.1 (x κ ω).1 (y κ ω).1)
theorem JE.append {o x L H k l v H1 H2} (a:JE o L H (.ref k) H1) (b:JE x L H1 v H2) (h0:∃l0,H1[k]?=some (.list l0)) (h:H2[k]?=some (.list l)) (z:l.length<SZ):JE (.append o x) L H .none (H2.set k (.list (l++[v]))):=λκ ω=>oY (yg (a κ ω).1 (b κ ω).1 h0 h z)
theorem JE.extend {o x L H k j l r H1 H2} (a:JE o L H (.ref k) H1) (b:JE x L H1 (.ref j) H2) (h0:∃l0,H1[k]?=some (.list l0)) (h:H2[k]?=some (.list l)) (h2:H2[j]?=some (.list r)) (n:k≠j) (z:l.length+r.length<SZ):JE (.extend o x) L H .none (H2.set k (.list (l++r))):=λκ ω=>oY (yh (a κ ω).1 (b κ ω).1 h0 h h2 n z)
theorem JE.pop {o L H k l v H1} (a:JE o L H (.ref k) H1) (h:H1[k]?=some (.list (l++[v]))) (z:l.length<SZ):JE (.pop o) L H v (H1.set k (.list l)):=λκ ω=>oY (FV (a κ ω).1 h z)
theorem JE.u7 {o x L H k u r H1 H2} (a:JE o L H (.ref k) H1) (b:JE x L H1 u H2) (h0:pJ H1 k) (h:dY H2 k u r):JE (.u7 o x) L H (r.getD .none) H2:=λκ ω=>oY (CA (a κ ω).1 (b κ ω).1 h0 h)
theorem JE.qO {o x y L H k u w r H1 H2 H3} (a:JE o L H (.ref k) H1) (b:JE x L H1 u H2) (c:JE y L H2 w H3) (h0:pJ H1 k) (h:dY H3 k u r):JE (.qO o x y) L H (r.getD w) H3:=λκ ω=>oY (CB (a κ ω).1 (b κ ω).1 (c κ ω).1 h0 h)
theorem JE.u8 {o x L H k d i v H1 H2} (a:JE o L H (.ref k) H1) (b:JE x L H1 (.int i) H2) (h0:pJ H1 k) (h:H2[k]?=some (.bc d)) (z:d.length≤SZ) (g:d7 i d=some v):JE (.u8 o x) L H v (H2.set k (.bc (xY i d))):=λκ ω=>oY (CC (a κ ω).1 (b κ ω).1 h0 h z g)
theorem vG.bn {L H}:vG .nil L H [] H:=λκ ω=>CG
theorem vG.av {e r L H v vs H1 H2} (x:JE e L H v H1) (y:vG r L H1 vs H2):vG (.cons e r) L H (v::vs) H2:=λκ ω=>AP (x κ ω).1 (y κ ω)
theorem JT.ir {e L H v b H1} (x:JE e L H v H1) (t:Tr H1 v b) (n:e.qP=true):JT e L H b H1:=λκ ω=>CU (x κ ω).1 t n
theorem JT.um {e L H b H1} (x:JT e L H b H1):JT (.not e) L H (!b) H1:=λκ ω=>CK (x κ ω)
theorem JT.iD {l L H b H1} (x:JA l L H b H1):JT (.and l) L H b H1:=λκ ω=>CL (x κ ω)
theorem JT.xU {l L H b H1} (x:JO l L H b H1):JT (.or l) L H b H1:=λκ ω=>Ge (x κ ω)
theorem JT.tite {c a b L H t r H1 H2} (x:JT c L H t H1) (y:JT (if t then a else b) L H1 r H2):JT (.ite c a b) L H r H2:=λκ ω=>CO (x κ ω) (y κ ω)
theorem JT.bY {o a b L H va vb r H1 H2} (x:JE a L H va H1) (y:JE b L H1 vb H2) (r':cL H2 o va vb r):JT (.cmp o a b) L H r H2:=λκ ω=>CD ω.1 (x κ ω).1 (y κ ω).1 r'
theorem JT.Iz {o p a b c L H va vb H1 H2} (x:JE a L H va H1) (y:JE b L H1 vb H2) (r':cL H2 o va vb false):JT (.pH o p a b c) L H false H2:=λκ ω=>AT ω.1 (x κ ω).1 (y κ ω).1 r'
theorem JT.DR {o p a b c L H va vb vc r H1 H2 H3} (x:JE a L H va H1) (y:JE b L H1 vb H2) (r':cL H2 o va vb true) (z:JE c L H2 vc H3) (r2:cL H3 p vb vc r):JT (.pH o p a b c) L H r H3:=λκ ω=>AV ω.1 (x κ ω).1 (y κ ω).1 r' (z κ ω).1 r2
theorem JA.lu {L H}:JA .nil L H true H:=λκ ω=>CM
theorem JA.af {e r L H H1} (x:JT e L H false H1):JA (.cons e r) L H false H1:=λκ ω=>Jn (x κ ω)
theorem JA.«at» {e r L H b H1 H2} (x:JT e L H true H1) (y:JA r L H1 b H2):JA (.cons e r) L H b H2:=λκ ω=>Jo (x κ ω) (y κ ω)
theorem JO.wV {L H}:JO .nil L H false H:=λκ ω=>CN
theorem JO.ot {e r L H H1} (x:JT e L H true H1):JO (.cons e r) L H true H1:=λκ ω=>Jp (x κ ω)
theorem JO.of {e r L H b H1 H2} (x:JT e L H false H1) (y:JO r L H1 b H2):JO (.cons e r) L H b H2:=λκ ω=>Jq (x κ ω) (y κ ω)
theorem JP.av1 {e L H v H1} (x:JE e L H v H1):JP (.cons e .nil) L H v H1:=λκ ω=>zM (x κ ω).1
theorem JP.avf {e f r L H v H1} (x:JE e L H v H1) (t:Tr H1 v false):JP (.cons e (.cons f r)) L H v H1:=λκ ω=>zN (λ_ _=>rfl) (x κ ω).1 t
theorem JP.avt {e f r L H v u H1 H2} (x:JE e L H v H1) (t:Tr H1 v true) (y:JP (.cons f r) L H1 u H2):JP (.cons e (.cons f r)) L H u H2:=λκ ω=>zO (λ_ _=>rfl) (x κ ω).1 t (y κ ω)
theorem JQ.ov1 {e L H v H1} (x:JE e L H v H1):JQ (.cons e .nil) L H v H1:=λκ ω=>zM (x κ ω).1
theorem JQ.ovt {e f r L H v H1} (x:JE e L H v H1) (t:Tr H1 v true):JQ (.cons e (.cons f r)) L H v H1:=λκ ω=>zN (λ_ _=>rfl) (x κ ω).1 t
theorem JQ.ovf {e f r L H v u H1 H2} (x:JE e L H v H1) (t:Tr H1 v false) (y:JQ (.cons f r) L H1 u H2):JQ (.cons e (.cons f r)) L H u H2:=λκ ω=>zO (λ_ _=>rfl) (x κ ω).1 t (y κ ω)
theorem JI.pF {e L H v xs g H1} (x:JE e L H v H1) (r:SrcR H1 v xs g) (z:xs.length≤SZ):JI (.ex e) L H xs g H1:=λκ ω=>Gm (x κ ω).1 r z
theorem JI.yE {e L H H1} {n:Nat} (x:JE e L H (.int n) H1) (z:n≤SZ):JI (.range e) L H (de ((List.range n).map Int.ofNat)) .none H1:=λκ ω=>yr ω.1 (x κ ω).1 z
theorem JI.MR {e L H v xs g H1} (x:JE e L H v H1) (r:AZ H1 v xs g) (z:xs.length≤SZ):JI (.rev e) L H xs g H1:=λκ ω=>C8 ω.1 (x κ ω).1 r z
theorem JC.Po {elt ifs L g acc H} (o:g.ok H):JC elt ifs L g [] acc H acc H:=λκ ω=>DC o
theorem JC.cf {elt ifs L g x xs acc H H1 ys H2} (o:g.ok H) (t:JA ifs (L++[some x]) H false H1) (o1:g.ok H1) (r:JC elt ifs L g xs acc H1 ys H2):JC elt ifs L g (x::xs) acc H ys H2:=λκ ω=>JJ o (t κ ω) o1 (r κ ω)
theorem JC.ct {elt ifs L g x xs acc H v H1 H2 ys H3} (o:g.ok H) (t:JA ifs (L++[some x]) H true H1) (e:JE elt (L++[some x]) H1 v H2) (z:acc.length<SZ) (o1:g.ok H1) (o2:g.ok H2) (r:JC elt ifs L g xs (acc++[v]) H2 ys H3):JC elt ifs L g (x::xs) acc H ys H3:=λκ ω=>JK o (t κ ω) (e κ ω).1 z o2 o1 (r κ ω)
theorem JS.expr {e L H v H1} (x:JE e L H v H1):JS (.expr e) L H .next L H1:=λκ ω=>Do (x κ ω).1
theorem JS.set {t e L H v L' H1} (x:JE e L H v H1) (r:zV t v L L'):JS (.set t e) L H .next L' H1:=λκ ω=>Gw (x κ ω) r
theorem JS.setattr {o f e L H v k c fs H1 H2} (x:JE e L H v H1) (y:JE o L H1 (.ref k) H2) (h:H2[k]?=some (.inst c fs)) (m:pg.xQ c f=Option.none) (z:fs.length≤100):JS (.setattr o f e) L H .next L (H2.set k (.inst c (dj f v fs))):=λκ ω=>wN ω.1 (x κ ω).1 (y κ ω).1 h m z
theorem JS.bq {o i e L H v a b H1 H2 H3 H4} (x:JE e L H v H1) (y:JE o L H1 a H2) (w:JE i L H2 b H3) (r:qW a b v H3 H4):JS (.bq o i e) L H .next L H4:=λκ ω=>yv (x κ ω).1 (y κ ω).1 (w κ ω).1 r
theorem JS.ifs {c a b L H t f L' H1 H2} (x:JT c L H t H1) (y:xT (if t then a else b) L H1 f L' H2):JS (.ite c a b) L H f L' H2:=λκ ω=>Gz (x κ ω) (y κ ω)
theorem JS.whl {c b L H f L' H'} (x:JW c b L H f L' H'):JS (.while c b) L H f L' H':=λκ ω=>GB (x κ ω)
theorem JS.wW {t i b L H xs g f L' H1 H2} (x:JI i L H xs g H1) (y:JF t b g xs L (g.fz H1) f L' H2) (o:g.ok H2):JS (.for t i b) L H f L' (g.th H2):=λκ ω=>Dx (x κ ω) (y κ ω) o
theorem JS.ret {e L H v H1} (x:JE e L H v H1):JS (.ret e) L H (.ret v) L H1:=λκ ω=>Gu (x κ ω).1
theorem JS.cont {L H}:JS .cont L H .cont L H:=λκ ω=>Dp
theorem JS.sup {l L H k fs vs H1 H2} (s:L[0]?=some (some (.ref k))) (h:H[k]?=some (.inst pg.wi fs)) (x:vG l L H vs H1) (y:JR pg.sup (.ref k::vs) H1 .none H2):JS (.sup l) L H .next L H2:=λκ ω=>GI ω.1 ω.2 s h (x κ ω) (y κ ω)
theorem xT.Pp {L H}:xT .nil L H .next L H:=λκ ω=>Dq
theorem xT.MS {s r L H L1 H1 f L' H'} (x:JS s L H .next L1 H1) (y:xT r L1 H1 f L' H'):xT (.cons s r) L H f L' H':=λκ ω=>A1 (x κ ω) (y κ ω)
theorem xT.Pq {s r L H v L' H'} (x:JS s L H (.ret v) L' H'):xT (.cons s r) L H (.ret v) L' H':=λκ ω=>Dr (x κ ω)
theorem xT.MT {s r L H L' H'} (x:JS s L H .cont L' H'):xT (.cons s r) L H .cont L' H':=λκ ω=>A4 (x κ ω)
theorem JF.Pt {t b g L H} (o:g.ok H):JF t b g [] L H .next L H:=λκ ω=>Du
theorem JF.Pu {t b g x xs L H L1 v L' H'} (o:g.ok H) (r:zV t x L L1) (e:xT b L1 H (.ret v) L' H'):JF t b g (x::xs) L H (.ret v) L' H':=λκ ω=>Dv o r (e κ ω)
theorem JF.MU {t b g x xs L H L1 fl L2 H2 f L' H'} (o:g.ok H) (r:zV t x L L1) (e:xT b L1 H fl L2 H2) (o2:g.ok H2) (n:fl= .next∨fl= .cont) (w:JF t b g xs L2 H2 f L' H'):JF t b g (x::xs) L H f L' H':=λκ ω=>A6 o r (e κ ω) o2 n (w κ ω)
theorem JW.Pv {c b L H H1} (x:JT c L H false H1):JW c b L H .next L H1:=λκ ω=>Ds (x κ ω)
theorem JW.Pw {c b L H H1 v L' H'} (x:JT c L H true H1) (e:xT b L H1 (.ret v) L' H'):JW c b L H (.ret v) L' H':=λκ ω=>Dt (x κ ω) (e κ ω)
theorem JW.MV {c b L H H1 fl L2 H2 f L' H'} (x:JT c L H true H1) (e:xT b L H1 fl L2 H2) (n:fl= .next∨fl= .cont) (w:JW c b L2 H2 f L' H'):JW c b L H f L' H':=λκ ω=>A5 (x κ ω) (e κ ω) n (w κ ω)
theorem JR.run {f d vs H fl L' H'} (h:pg.fn f=some d) (k:d.takes vs.length) (e:xT d.body (d.start vs) H fl L' H'):JR f vs H fl.val H':=λκ ω=>by obtain⟨fd,body,nm,rf,F,z⟩:=ω.3.1 _ _ h;exact z.elim (λz=>GF F z.1 z.2 k (e κ ω)) λz=>DG F z k (e κ ω)
end
section
noncomputable def i6.tl (b:i6):i6:=b.casesOn .nil λ_ r=>r
noncomputable def i6.at (b:i6) (n:Nat):CS:=i6.casesOn (motive_2:=λ_=>CS) (n.rec b λ_=>i6.tl) .cont λs _=>s
noncomputable def CS.in (s:CS):i6:=s.casesOn (λ_=>.nil) (λ_ _=>.nil) (λ_ _ _=>.nil) (λ_ _ _=>.nil) (λ_ a _=>a) (λ_ a=>a) (λ_ _ a=>a) (λ_=>.nil) .nil λ_=>.nil
noncomputable def i6.dr (b:i6) (n:Nat):i6:=n.rec b λ_=>i6.tl
noncomputable def bo (f:Nat):i6:=((pg.fn f).map (·.body)).getD .nil
abbrev Ps:=Fl->Lc->Hp->Prop
noncomputable def WS (s:CS) (L:Lc) (H:Hp) (Q:Ps):Prop:=∃f L' H',JS s L H f L' H'∧Q f L' H'
noncomputable def cB (l:i6) (L:Lc) (H:Hp) (Q:Ps):Prop:=∃f L' H',xT l L H f L' H'∧Q f L' H'
noncomputable def Fl.go:Fl->Bool
 | .ret _=>false
 |_=>true
noncomputable def Nx (r:i6) (Q:Ps):Ps
 | .next,L,H=>cB r L H Q
 |f,L,H=>Q f L H
variable {L L1 L':Lc} {H H' H1 H2 H3 H4:Hp} {Q:Ps} {r a b:i6} {e o i c:CE} {s:CS} {v:V} {G:Prop}
theorem cB.cons (h:WS s L H (Nx r Q)):cB (.cons s r) L H Q:=by
 obtain⟨f,L',H',j,q⟩:=h
 cases f with
 |next=>obtain⟨f,L2,H2,j2,q⟩:=q;exact⟨_,_,_,.MS j j2,q⟩
 |cont=>exact⟨_,_,_,.MT j,q⟩
 |ret v=>exact⟨_,_,_,.Pq j,q⟩
theorem cB.nil (q:Q .next L H):cB .nil L H Q:=⟨_,_,_,.Pp,q⟩
theorem cB.cut (R:Lc->Hp->Prop) (h:∀K:Ps,(∀{L' H'},R L' H'->K .next L' H')->WS s L H K) (q:∀L' H',R L' H'->cB r L' H' Q):cB (.cons s r) L H Q:=
 .cons (h _ λk=>q _ _ k)
theorem cB.expr (x:JE e L H v H1) (h:cB r L H1 Q):cB (.cons (.expr e) r) L H Q:=.cons ⟨_,_,_,.expr x,h⟩
theorem cB.set {k} (x:JE e L H v H1) (h:cB r (L.set k (some v)) H1 Q):cB (.cons (.set (.v k) e) r) L H Q:=.cons ⟨_,_,_,.set x (.v _ _ _),h⟩
theorem cB.J2 {k m} {x y:V} (j:JE e L H (.tup [x,y]) H1) (h:cB r ((L.set k (some x)).set m (some y)) H1 Q):cB (.cons (.set (.p k m) e) r) L H Q:=
 .cons ⟨_,_,_,.set j (.p _ _ _ _ _),h⟩
theorem cB.setattr {f k cl fs} (x:JE e L H v H1) (y:JE o L H1 (.ref k) H2) (g:H2[k]?=some (.inst cl fs)) (m:pg.xQ cl f=none) (z:Nat.ble fs.length 100=true)
  (h:cB r L (H2.set k (.inst cl (dj f v fs))) Q):cB (.cons (.setattr o f e) r) L H Q:=.cons ⟨_,_,_,.setattr x y g m (dW z),h⟩
theorem cB.bq {u w:V} (x:JE e L H v H1) (y:JE o L H1 u H2) (z:JE i L H2 w H3) (s:qW u w v H3 H4) (h:cB r L H4 Q):cB (.cons (.bq o i e) r) L H Q:=
 .cons ⟨_,_,_,.bq x y z s,h⟩
theorem WS.ite {t} {K:Ps} (x:JT c L H t H1) (ht:t=true->cB a L H1 K) (hf:t=false->cB b L H1 K):WS (.ite c a b) L H K:=by
 cases t
 ·obtain⟨f,L',H',j2,q⟩:=hf rfl;exact⟨_,_,_,.ifs x j2,q⟩
 ·obtain⟨f,L',H',j2,q⟩:=ht rfl;exact⟨_,_,_,.ifs x j2,q⟩
theorem cB.ite {t} (x:JT c L H t H1) (ht:t=true->cB a L H1 (Nx r Q)) (hf:t=false->cB b L H1 (Nx r Q)):cB (.cons (.ite c a b) r) L H Q:=.cons (.ite x ht hf)
theorem cB.then (x:JT c L H true H1) (h:cB a L H1 (Nx r Q)):cB (.cons (.ite c a b) r) L H Q:=.ite x (λ_=>h) λz=>ff z.symm
theorem cB.else (x:JT c L H false H1) (h:cB b L H1 (Nx r Q)):cB (.cons (.ite c a b) r) L H Q:=.ite x ff λ_=>h
theorem cB.pass (x:JT c L H false H1) (h:cB r L H1 Q):cB (.cons (.ite c a .nil) r) L H Q:=.else x (.nil h)
theorem cB.ret (x:JE e L H v H1) (h:Q (.ret v) L H1):cB (.cons (.ret e) r) L H Q:=.cons ⟨_,_,_,.ret x,h⟩
theorem cB.cont (h:Q .cont L H):cB (.cons .cont r) L H Q:=.cons ⟨_,_,_,.cont,h⟩
theorem cB.sup {l k fs vs} (s:L[0]?=some (some (.ref k))) (h:H[k]?=some (.inst pg.wi fs)) (x:vG l L H vs H1) (y:JR pg.sup (.ref k::vs) H1 .none H2) (q:cB r L H2 Q):
  cB (.cons (.sup l) r) L H Q:=.cons ⟨_,_,_,.sup s h x y,q⟩
theorem c7 (f:Nat) (vs:List V) (H:Hp) {d:Fn} (h:pg.fn f=some d) (k:(decide (vs.length≤d.np)&&decide (d.np≤vs.length+d.defs.length))=true) (e':d.start vs=L)
  (q:∀Q:Ps,(∀{fl L' H'},(JR f vs H fl.val H'->G)->Q fl L' H')->cB d.body L H Q):G:=by
 obtain⟨fl,L',H',j,q2⟩:=q (λfl L' H'=>JR f vs H fl.val H'->G) id
 subst e';simp only[lZ,decide_eq_true_eq]at k;exact q2 (JR.run h k j)
theorem Ab {α:Type} {xs:List α} (A:List α->Nat->Prop) (h0:A [] xs.length) (h1:∀y ys n,xs[n]?=some y->A ys (n+1)->A (y::ys) n):A xs 0:=by
 suffices z:∀ys pre,xs=pre++ys->A ys pre.length from z xs [] rfl
 intro ys;induction ys with
 |nil=>intro pre e;rw[aN]at e;exact e▸h0
 |cons y ys ih=>intro pre e;exact h1 y ys _ (by rw[e,aY (aC _),eg];rfl) (aq (as:=pre) (bs:=[y])▸ih _ (e.trans (List.append_cons ..)))
noncomputable def Gn (I:Lc->Hp->Prop) (O:V->Lc->Hp->Prop):Ps
 | .ret v,L,H=>O v L H
 |_,L,H=>I L H
variable {I:Lc->Hp->Prop} {O:V->Lc->Hp->Prop} {f:Fl}
theorem Gn.on (z:f.go=true) (h:I L H):Gn I O f L H:=by
 cases f with
 |ret=>exact ff z
 |_=>exact h
theorem Gn.or (q:Gn I O f L H):((f= .next∨f= .cont)∧I L H)∨∃v,f= .ret v∧O v L H:=by
 cases f with
 |ret v=>exact .inr ⟨v,rfl,q⟩
 |next=>exact .inl ⟨.inl rfl,q⟩
 |cont=>exact .inl ⟨.inr rfl,q⟩
section
variable {t:Tg} {xs:List V} {g:Gd} {it:CI} {k m:Nat} {σ:Type}
noncomputable def Tn (xs:List V) (I:Nat->Lc->Hp->Prop) (g:Gd) (Q:Ps) (B:V->Lc->Hp->Ps->Prop):Prop:=
 ∀n y L H (K:Ps),xs[n]?=some y->I n L H->(∀{f L' H'},f.go=true->I (n+1) L' H'->K f L' H')->(∀{v L' H'},g.ok H'->Q (.ret v) L' (g.th H')->K (.ret v) L' H')->B y L H K
theorem WS.for (x:JI it L H xs g H1) (I:Nat->Lc->Hp->Prop) (h0:I 0 L (g.fz H1)) (hg:∀{n L H},I n L H->g.ok H) (st:Tn xs I g Q λy L H K=>∃L1,zV t y L L1∧cB a L1 H K)
  (he:∀{L H},I xs.length L H->Q .next L (g.th H)):WS (.for t it a) L H Q:=by
 obtain⟨f,L',H',j,o,q⟩:=Ab (xs:=xs) (λys n=>∀L H,I n L H->∃f L' H',JF t a g ys L H f L' H'∧g.ok H'∧Q f L' (g.th H')) (λL H h=>⟨_,_,_,.Pt (hg h),hg h,he h⟩) (λy ys n hy ih L H h=>by
  obtain⟨L1,r,f,L2,H2,j,q⟩:=st n y L H (Gn (I (n+1)) λv L' H'=>g.ok H'∧Q (.ret v) L' (g.th H')) hy h Gn.on λo q=>⟨o,q⟩
  rcases q.or with⟨z,q⟩|⟨v,rfl,q⟩
  ·obtain⟨f2,L3,H3,j2,q2⟩:=ih _ _ q
   exact⟨_,_,_,.MU (hg h) r j (hg q) z j2,q2⟩
  ·exact⟨_,_,_,.Pu (hg h) r j,q⟩) _ _ h0
 exact⟨_,_,_,.wW x j o,q⟩
theorem cB.for (x:JI it L H xs g H1) (I:Nat->Lc->Hp->Prop) (h0:I 0 L (g.fz H1)) (hg:∀{n L H},I n L H->g.ok H) (st:Tn xs I g Q λy L H K=>cB a (L.set k (some y)) H K)
  (he:∀{L H},I xs.length L H->cB r L (g.th H) Q):cB (.cons (.for (.v k) it a) r) L H Q:=.cons (.for x I h0 hg (λn y L H K hy h k1 k2=>⟨_,.v _ _ _,st n y L H K hy h k1 k2⟩) he)
noncomputable def Ll {α:Type} (xs:List α) (Lf:Nat->σ->Lc) (P:Nat->σ->Hp->Prop) (g:Gd) (Q:Ps) (B:α->Lc->Hp->Ps->Prop):Prop:=
 ∀n y s H (K:Ps),xs[n]?=some y->P n s H->(∀{f} s' {H'},f.go=true->P (n+1) s' H'->K f (Lf (n+1) s') H')->(∀{v L' H'},g.ok H'->Q (.ret v) L' (g.th H')->K (.ret v) L' H')->B y (Lf n s) H K
theorem WS.wW {Q:Ps} (Lf:Nat->σ->Lc) (P:Nat->σ->Hp->Prop) (s0:σ) (x:JI it (Lf 0 s0) H xs g H1) (h0:P 0 s0 (g.fz H1)) (hg:∀{n s H},P n s H->g.ok H) (st:Ll xs Lf P g Q λy L H K=>∃L1,zV t y L L1∧cB a L1 H K)
  (he:∀s H,P xs.length s H->Q .next (Lf xs.length s) (g.th H)):WS (.for t it a) (Lf 0 s0) H Q:=by
 refine .for x (λn L H=>∃s,L=Lf n s∧P n s H) ⟨s0,rfl,h0⟩ (λq=>q.elim λ_ h=>hg h.2) (λn y L H K hy q k1 k2=>q.elim λs h=>?_) λq=>q.elim λs h=>h.1▸he s _ h.2
 rw[h.1];exact st n y s H K hy h.2 (λs' H' z h=>k1 z ⟨s',rfl,h⟩) k2
theorem cB.wW (Lf:Nat->σ->Lc) (P:Nat->σ->Hp->Prop) (s0:σ) (x:JI it (Lf 0 s0) H xs g H1) (h0:P 0 s0 (g.fz H1)) (hg:∀{n s H},P n s H->g.ok H) (st:Ll xs Lf P g Q λy L H K=>cB a (L.set k (some y)) H K)
  (he:∀s H,P xs.length s H->cB r (Lf xs.length s) (g.th H) Q):cB (.cons (.for (.v k) it a) r) (Lf 0 s0) H Q:=.cons (.wW Lf P s0 x h0 hg (λn y s H K hy h k1 k2=>⟨_,.v _ _ _,st n y s H K hy h k1 k2⟩) he)
theorem cB.DT (Lf:Nat->σ->Lc) (P:Nat->σ->Hp->Prop) (s0:σ) (x:JI it (Lf 0 s0) H xs g H1) (h0:P 0 s0 (g.fz H1)) (hg:∀{n s H},P n s H->g.ok H)
  (st:Ll xs Lf P g Q λy L H K=>∃u w,y= .tup [u,w]∧cB a ((L.set k (some u)).set m (some w)) H K) (he:∀s H,P xs.length s H->cB r (Lf xs.length s) (g.th H) Q):cB (.cons (.for (.p k m) it a) r) (Lf 0 s0) H Q:=
 .cons (.wW Lf P s0 x h0 hg (λn y s H K hy h k1 k2=>(st n y s H K hy h k1 k2).elim λu q=>q.elim λw q=>⟨_,q.1▸ .p _ _ _ _ _,q.2⟩) he)
end
noncomputable def Wh (c':CE) (a':i6) (L0:Lc) (H0:Hp) (K Q':Ps):Prop:=∃t H5,JT c' L0 H0 t H5∧(t=true->cB a' L0 H5 K)∧(t=false->Q' .next L0 H5)
theorem Wh.mk {L0:Lc} {H0 H5} {c' a' t} {K Q':Ps} (x:JT c' L0 H0 t H5) (ht:t=true->cB a' L0 H5 K) (hf:t=false->Q' .next L0 H5):Wh c' a' L0 H0 K Q':=⟨_,_,x,ht,hf⟩
theorem WS.while (I:Nat->Lc->Hp->Prop) {n:Nat} (h0:I n L H)
  (st:∀n L H (K:Ps),I n L H->(∀{f L' H'} m,m<n->f.go=true->I m L' H'->K f L' H')->(∀{v L' H'},Q (.ret v) L' H'->K (.ret v) L' H')->Wh c a L H K Q):WS (.while c a) L H Q:=by
 suffices A:∃f L' H',JW c a L H f L' H'∧Q f L' H' from A.elim λf q=>q.elim λL' q=>q.elim λH' q=>⟨_,_,_,.whl q.1,q.2⟩
 induction n using Nat.strongRecOn generalizing L H with
 |_ n ih=>
  obtain⟨t,H1,x,ht,hf⟩:=st n L H (Gn (λL' H'=>∃m,m<n∧I m L' H') λv L' H'=>Q (.ret v) L' H') h0 (λm a b c=>Gn.on b ⟨m,a,c⟩) id
  cases t
  ·exact⟨_,_,_,.Pv x,hf rfl⟩
  ·obtain⟨f,L',H',j2,q⟩:=ht rfl
   rcases q.or with⟨z,m,hm,q⟩|⟨v,rfl,q⟩
   ·obtain⟨f2,L2,H2,j3,q⟩:=ih m hm q
    exact⟨_,_,_,.MV x j2 z j3,q⟩
   ·exact⟨_,_,_,.Pw x j2,q⟩
theorem cB.while (I:Nat->Lc->Hp->Prop) (n:Nat) (h0:I n L H)
  (st:∀n L H (K:Ps),I n L H->(∀{f L' H'} m,m<n->f.go=true->I m L' H'->K f L' H')->(∀{v L' H'},Q (.ret v) L' H'->K (.ret v) L' H')->Wh c a L H K (Nx r Q)):
  cB (.cons (.while c a) r) L H Q:=.cons (.while I h0 st)
theorem cB.pP {σ:Type} (Lf:σ->Lc) (P:σ->Hp->Prop) (μ:σ->Nat) (s0:σ) (h0:P s0 H)
  (st:∀s H (K:Ps),P s H->(∀{f} s' {H'},f.go=true->P s' H'->μ s'<μ s->K f (Lf s') H')->(∀{v L' H'},Q (.ret v) L' H'->K (.ret v) L' H')->Wh c a (Lf s) H K (Nx r Q)):
  cB (.cons (.while c a) r) (Lf s0) H Q:=
 .while (λn L H=>∃s,L=Lf s∧P s H∧n=μ s) (μ s0) ⟨s0,rfl,h0,rfl⟩ λn L H K q k1 k2=>q.elim λs q=>q.1▸st s H K q.2.1 (λs' H' z h u=>k1 _ (q.2.2▸u) z ⟨s',rfl,h,rfl⟩) k2
theorem Wh.yes {L0:Lc} {H0 H5} {c' a'} {K Q':Ps} (x:JT c' L0 H0 true H5) (h:cB a' L0 H5 K):Wh c' a' L0 H0 K Q':=.mk x (λ_=>h) λz=>ff z.symm
theorem Wh.no {L0:Lc} {H0 H5} {c' a'} {K Q':Ps} (x:JT c' L0 H0 false H5) (h:Q' .next L0 H5):Wh c' a' L0 H0 K Q':=.mk x ff λ_=>h
noncomputable def Cp (ifs:mo) (elt:CE) (g:Gd) (L':Lc) (H0:Hp) (I0:Hp->Prop) (I1:V->Hp->Prop):Prop:=∃H5,(JA ifs L' H0 false H5∧I0 H5)∨(JA ifs L' H0 true H5∧g.ok H5∧∃w H6,JE elt L' H5 w H6∧I1 w H6)
section
variable {ifs:mo} {elt:CE} {g:Gd} {L':Lc} {H0 H5 H6:Hp} {w:V} {I0:Hp->Prop} {I1:V->Hp->Prop}
theorem Cp.no (x:JA ifs L' H0 false H5) (q:I0 H5):Cp ifs elt g L' H0 I0 I1:=⟨_,.inl ⟨x,q⟩⟩
theorem Cp.yes (x:JA ifs L' H0 true H5) (o:g.ok H5) (j:JE elt L' H5 w H6) (q:I1 w H6):Cp ifs elt g L' H0 I0 I1:=⟨_,.inr ⟨x,o,_,_,j,q⟩⟩
end
theorem rL {elt ifs g} {xs:List V} (I:Nat->List V->Hp->Prop) (h0:I 0 [] H) (hg:∀{n ys H},I n ys H->g.ok H) (hl:∀{n ys H},I n ys H->ys.length≤n) (hz:xs.length≤SZ)
  (st:∀n x ys H,xs[n]?=some x->I n ys H->Cp ifs elt g (L++[some x]) H (λH1=>I (n+1) ys H1) λv H2=>I (n+1) (ys++[v]) H2)
  (he:∀{ys H'},JC elt ifs L g xs [] H ys H'->I xs.length ys H'->G):G:=by
 obtain⟨us,H',j,q⟩:=Ab (xs:=xs) (λzs n=>∀ys H,I n ys H->∃us H',JC elt ifs L g zs ys H us H'∧I xs.length us H') (λys H h=>⟨_,_,.Po (hg h),h⟩) (λy zs n hy ih ys H h=>by
  rcases st n y ys H hy h with⟨H5,⟨x,q⟩|⟨x,o,_,_,j,q⟩⟩
  ·obtain⟨us,H2,j2,w⟩:=ih _ _ q
   exact⟨_,_,.cf (hg h) x (hg q) j2,w⟩
  ·obtain⟨us,H3,j2,w⟩:=ih _ _ q
   exact⟨_,_,.ct (hg h) x j (aA (hl h) (aw (ah.1 hy).1 hz)) o (hg q) j2,w⟩) _ _ h0
 exact he j q
inductive C2 (a b:Prop):Prop
 |mk (_:a) (_:b)
inductive C3 (a b c:Prop):Prop
 |mk (_:a) (_:b) (_:c)
inductive C4 (a b c d:Prop):Prop
 |mk (_:a) (_:b) (_:c) (_:d)
inductive C5 (a b c d e:Prop):Prop
 |mk (_:a) (_:b) (_:c) (_:d) (_:e)
inductive C6 (a b c d e f:Prop):Prop
 |mk (_:a) (_:b) (_:c) (_:d) (_:e) (_:f)
section
variable {n k:Nat} {a b:CE} {t t':Bool} {v w x y:V} {o:B1} {l:List Nat} {c':Nat}
theorem JT.to (h:JT c L H t H1) (e:t=t'):JT c L H t' H1:=e▸h
theorem JE.to (h:JE a L H v H1) (e:v=w):JE a L H w H1:=e▸h
theorem JI.to {it:CI} {xs ys:List V} {g:Gd} (h:JI it L H xs g H1) (e:xs=ys):JI it L H ys g H1:=e▸h
theorem dY.to {q r:Option V} (h:dY H c' v q) (e:q=r):dY H c' v r:=e▸h
theorem cL.to (h:cL H o x y t) (e:t=t'):cL H o x y t':=e▸h
theorem cL.ltT (h:n<k):cL H .lt (.int n) (.int k) true:=cL.to (.lt _ _) (decide_eq_true (bC.2 h))
theorem cL.ltF (h:k≤n):cL H .lt (.int n) (.int k) false:=cL.to (.lt _ _) (decide_eq_false λz=>bE.2 h (bC.1 z))
theorem cL.geT (h:k≤n):cL H .ge (.int n) (.int k) true:=cL.to (.ge _ _) (decide_eq_true (dM.2 h))
theorem cL.geF (h:n<k):cL H .ge (.int n) (.int k) false:=cL.to (.ge _ _) (decide_eq_false λz=>bE.2 (dM.1 z) h)
end
end
section
noncomputable def Ext (H H':Hp):Prop:=∀(b:Nat) (o:O),H[b]?=some o->H'[b]?=some o
theorem Ext.r {H:Hp}:Ext H H:=λ_ _ h=>h
theorem Ext.trans {H1 H2 H3:Hp} (a:Ext H1 H2) (b:Ext H2 H3):Ext H1 H3:=λ_ _ h=>b _ _ (a _ _ h)
theorem Ext.app {H:Hp} {l}:Ext H (H++l):=λb o h=>(aG (ah.1 h).1).trans h
theorem Ext.none {H H':Hp} {a:Nat} (e:Ext H H') (h:H'[a]?= .none):H[a]?= .none:=by
 cases k:H[a]? with
 |none=>rfl
 |some o=>exact cW h (e _ _ k)
theorem Ext.set {H H':Hp} {a:Nat} {o:O} (e:Ext H H') (h:H[a]?= .none):Ext H (H'.set a o):=λb p k=>
 (a9 λz=>cW h (z▸k)).trans (e _ _ k)
theorem rM {H:Hp} {a b:Nat} {o p:O} (h:H[a]?=some o) (k:H[b]?=some p) (n:o≠p):a≠b:=
 λz=>n (ax (h.symm.trans (z▸k)))
theorem dg {H:Hp} {a b:Nat} {o p:O} (h:H[a]?=some o) (k:H[b]?=some p) (n:Nat.beq o.ctorIdx p.ctorIdx=false):a≠b:=
 rM h k λe=>ff ((n.symm.trans (e▸Nat.beq_refl _)))
theorem J3 {H:Hp} {a b c d:Nat} {fs gs} (h:H[a]?=some (.inst c fs)) (k:H[b]?=some (.inst d gs)) (n:Nat.beq c d=false):a≠b:=rM h k λe=>ff (n.symm.trans ((O.inst.inj e).1▸Nat.beq_refl _))
theorem e_ {H:Hp} {a b:Nat} {p:O} (h:H[a]?= .none) (k:H[b]?=some p):b≠a:=λz=>cW h (z▸k)
theorem dh {H:Hp} {a:Nat} {o p:O} (h:H[a]?=some o):(H.set a p)[a]?=some p:=a8 (ah.1 h).1
theorem eJ {H:Hp} {a b:Nat} {o p:O} (h:H[b]?=some o) (n:b≠a):(H.set a p)[b]?=some o:=(a9 (dU n)).trans h
theorem Fv {H:Hp}:H[H.length]?=none:=bR (aC _)
theorem Fw {H:Hp} {o:O}:(H++[o])[H.length]?=some o:=bt
section
variable {l:mo} {L:Lc} {H H1 H2:Hp} {vs:List V} {G:Prop}
theorem jJ (x:vG l L H vs H1) (z:vs.length≤SZ) (k:∀a H2,JE (.list l) L H (.ref a) H2->H1[a]?=none->H2[a]?=some (.list vs)->Ext H1 H2->G):G:=
 k _ _ (.list x z) Fv Fw .app
theorem hN (k:∀a H2,JE (.list .nil) L H (.ref a) H2->H[a]?=none->H2[a]?=some (.list [])->Ext H H2->G):G:=jJ .bn (bw _) k
noncomputable def MW (k:Nat):O:=if k=0 then .bc []else if k=1 then .bV []else .kH 0
theorem lQ {n:Nat} (k:∀a H2,JE (.iM n) L H (.ref a) H2->H[a]?=none->H2[a]?=some (MW n)->Ext H H2->G):G:=
 k _ _ .iM Fv Fw .app
theorem qo {e b} {l:List V} (x:JE e L H (.ref b) H1) (o:H1[b]?=some (.list l)) (z:l.length≤SZ)
  (k:∀a H2,JE (.listOf e) L H (.ref a) H2->H1[a]?=none->H2[a]?=some (.list l)->Ext H1 H2->G):G:=k _ _ (.listOf x o z) Fv Fw .app
theorem GM {e v} {l:List Int} (x:JE e L H v H1) (o:jH H1 v l) (z:l.length<64)
  (k:∀a H2,JE (.sorted e) L H (.ref a) H2->H1[a]?=none->H2[a]?=some (.list (de (FJ l)))->Ext H1 H2->G):G:=k _ _ (.sorted x o z) Fv Fw .app
theorem GN {e f b u} {n:Nat} (x:JE e L H (.ref b) H1) (y:JE f L H1 (.int n) H2) (o:H2[b]?=some (.list [u])) (z:n≤SZ)
  (k:∀a H3,JE (.bin .mul e f) L H (.ref a) H3->H2[a]?=none->H3[a]?=some (.list (List.replicate n u))->Ext H2 H3->G):G:=k _ _ (.bin x y (.rep o z)) Fv Fw .app
theorem MX {e f b c} {l m:List V} (x:JE e L H (.ref b) H1) (y:JE f L H1 (.ref c) H2) (o:H2[b]?=some (.list l)) (p:H2[c]?=some (.list m)) (z:l.length+m.length≤SZ)
  (k:∀a H3,JE (.bin .add e f) L H (.ref a) H3->H2[a]?=none->H3[a]?=some (.list (l++m))->Ext H2 H3->G):G:=k _ _ (.bin x y (.cat o p z)) Fv Fw .app
theorem IB {e f v r} {n:Nat} (x:JE e L H v H1) (y:JE f L H1 (.int n) H2) (o:sT H2 v n r) (z:n≤SZ)
  (k:∀a H3,JE (.sK e f) L H (.ref a) H3->H2[a]?=none->H3[a]?=some (.list r)->Ext H2 H3->G):G:=k _ _ (.sK x y o z) Fv Fw .app
theorem J4 {e f v r} {n:Nat} (x:JE e L H v H1) (y:JE f L H1 (.int n) H2) (o:wv H2 v n r) (z:n≤SZ)
  (k:∀a H3,JE (.p_ e f) L H (.ref a) H3->H2[a]?=none->H3[a]?=some (.list r)->Ext H2 H3->G):G:=k _ _ (.p_ x y o z) Fv Fw .app
theorem kh {caps:List Nat} {elt ifs L1} {it:CI} {xs ys:List V} {g:Gd} (c:L1=caps.map (λi=>(L[i]?).join)) (x:JI it L H xs g H1) (ng:g.Ca=false) (y:JC elt ifs L1 g xs [] H1 ys H2) (z:ys.length≤SZ)
  (k:∀a H3,JE (.comp caps elt it ifs) L H (.ref a) H3->H2[a]?=none->H3[a]?=some (.list ys)->Ext H2 H3->G):G:=k _ _ (.MQ c x ng y z) Fv Fw .app
theorem new_ {c f:Nat} (x:vG l L H vs H1) (i:pg.init c=some f)
  (k:∀a H2,H1[a]?=none->H2[a]?=some (.inst c [])->Ext H1 H2->(∀{H3},JR f (.ref a::vs) H2 .none H3->JE (.new c l) L H (.ref a) H3)->G):G:=
 k _ _ Fv Fw .app λy=>.new x i y
end
noncomputable def vn (l:List Nat):List V:=l.map fun(n:Nat)=>V.int (n:Int)
theorem aX (l:List Nat):(vn l).length=l.length:=ae _
theorem pQ (a b:List Nat):vn (a++b)=vn a++vn b:=ay
theorem vH {l:List Nat} {k:Nat}:vn l++[.int k]=vn (l++[k]):=(pQ l [k]).symm
theorem iE (l:List Nat):vn l=de (l.map Int.ofNat):=bF.symm
theorem vJ {p:Nat->Bool} {n m:Nat} (h:∀i,p i=true->i<n) (k:∀i,p i=true->i<m):(List.range n).filter p=(List.range m).filter p:=by
 have A:∀n d,(∀i,p i=true->i<n)->(List.range n).filter p=(List.range (n+d)).filter p:=λn d h=>by
  rw[List.range_add,cP]
  rw[dN.2 λa ha hp=>(az.1 ha).elim λx q=>bE.2 (bu n x) ((show n+x=a from q.2)▸h _ hp),aN]
 rcases Nat.le_total n m with e|e
 ·obtain⟨d,rfl⟩:=oG e;exact A _ _ h
 ·obtain⟨d,rfl⟩:=oG e;exact(A _ _ k).symm
noncomputable def dx (m:Nat):List Nat:=(List.range m).filter m.testBit
theorem uR {m i:Nat} (h:m.testBit i=true):i<m:=aw pk (dZ h)
theorem eK {m i:Nat}:i∈dx m↔m.testBit i=true:=
 bz.trans ⟨λh=>h.2,λh=>⟨bp.2 (uR h),h⟩⟩
theorem DU {m n:Nat} (h:m>>>n=0):(List.range n).filter m.testBit=dx m:=by
 refine vJ (λi hi=>?_) λi hi=>uR hi
 rcases ba i n with k|k
 ·exact k
 ·have:(m>>>n).testBit (i-n)=true:=by rw[mN];rwa[cU k]
  rw[h,je]at this;exact ff this
theorem vK {m:Nat} {H:Hp} {G:Prop} (z:m<2^20) (k:∀a H',JR 0 [.int m] H (.ref a) H'->H[a]?=none->H'[a]?=some (.list (vn (dx m)))->Ext H H'->G):G:=by
 refine c7 0 [.int m] H rfl rfl (L:=[some (.int m),none,none,none]) rfl λQ q=>?_
 refine hN λa H1 j fr g e=>.set j (.set .lit (.set (.var rfl) ?_))
 refine .while (λk L H2=>∃n,k=m>>>n∧L=[some (.int m),some (.ref a),some (.int n),some (.int (m>>>n:Nat))]∧Ext H H2∧H2[a]?=some (.list (vn ((List.range n).filter m.testBit)))) m ⟨0,rfl,rfl,e,g⟩ ?_
 rintro _ _ H2 K ⟨n,rfl,rfl,e,g⟩ kn kr
 refine .mk (.bY (.var rfl) .lit (.gt _ _)) (λt=>?_) λt=>?_
 ·have t:=of_decide_eq_true t
  have t0:0<m>>>n:=fO.1 t
  refine .cut (λL' H'=>L'=[some (.int m),some (.ref a),some (.int n),some (.int (m>>>n:Nat))]∧Ext H H'∧H'[a]?=some (.list (vn ((List.range (n+1)).filter m.testBit)))) (λK kk=>?_) ?_
  ·have A:((m>>>n&&& 1:Nat):Int)=1↔m.testBit n=true:=a_.trans (by simp[Nat.testBit])
   refine .ite (.bY (.bin (.var rfl) .lit (.band _ 1 _)) .lit (.eq (.int _ _))) (λt=>?_) λt=>?_
   ·rw[beq_iff_eq,A]at t
    refine .expr (.append (.var rfl) (.var rfl) ⟨_,g⟩ g ?_) (.nil (kk ⟨rfl,e.set fr,?_⟩))
    ·have h1:2^n≤m:=by
      rcases ba m (2^n)with k|k
      ·rw[kG,Nat.div_eq_of_lt k]at t0;cases t0
      ·exact k
     rw[aX];exact aA (aj (a7 ..) (aF aT)) (bK pk (aA h1 (bK z (by decide))))
    ·rw[dh g,bG,cP,cY t,pQ];rfl
   ·rw[beq_eq_false_iff_ne,Ne,A]at t
    refine .nil (kk ⟨rfl,e,?_⟩)
    rw[g,bG,cP,dq t,d6,aN]
  ·rintro _ H3 ⟨rfl,e,g⟩
   exact .set (.bin (.var rfl) .lit (.shr _ 1 _)) (.set (.bin (.var rfl) .lit (.add _ _ _)) (.nil (kn _ (Nat.div_lt_self t0 (by decide)) rfl ⟨n+1,rfl,rfl,e,g⟩)))
 ·have t:=of_decide_eq_false t
  have t:m>>>n=0:=Nat.eq_zero_of_not_pos λh=>t (fO.2 h)
  exact .ret (.var rfl) (q λj=>k a H2 j fr (by rw[g,DU t]) e)
end
section
theorem dP {k n:Nat} (h:k<n):place (k:Int) n=some k:=(if_pos (aS k)).trans (if_pos h)
theorem Item.nat {H:Hp} {a k:Nat} {l:List V} {x:V} (o:H[a]?=some (.list l)) (h:l[k]?=some x):Item H (.ref a) (.int (k:Int)) x:=
 .list o (dP (ah.1 h).1) h
theorem Item.DV {H:Hp} {k:Nat} {l:List V} {x:V} (h:l[k]?=some x) (z:l.length≤SZ):Item H (.tup l) (.int (k:Int)) x:=
 .tup z (dP (ah.1 h).1) h
theorem Item.last {H:Hp} {a:Nat} {l:List V} {x:V} (o:H[a]?=some (.list (l++[x]))):Item H (.ref a) (.int (-1)) x:=
 .list (k:=l.length) o (by rw[aq];exact(if_neg (by decide)).trans (if_pos (Nat.le_add_left 1 l.length))) bt
theorem get_map {α β:Type} {f:α->β} {l:List α} {k:Nat} {x:α} (h:l[k]?=some x):(l.map f)[k]?=some (f x):=by rw[aH,h];rfl
theorem nZ {α β:Type} {f:α->β} {l:List α} {k:Nat} {x:β} (h:(l.map f)[k]?=some x):∃n,l[k]?=some n∧x=f n:=by
 rw[aH]at h;exact(aZ.1 h).imp λn q=>⟨q.1,q.2.symm⟩
theorem cN {l:List Nat} {k x:Nat} (h:l[k]?=some x):(vn l)[k]?=some (.int (x:Int)):=get_map h
theorem DW {l:List Nat} {k:Nat} {x:V} (h:(vn l)[k]?=some x):∃n:Nat,l[k]?=some n∧x= .int n:=nZ h
theorem Ac {l:List Nat} {k:Nat} {x:V} (h:(l.map V.ref)[k]?=some x):∃n:Nat,l[k]?=some n∧x= .ref n:=nZ h
theorem dy {l:List Nat} {k x:Nat} (h:l[k]?=some x):(l.map V.ref)[k]?=some (.ref x):=get_map h
structure Ru where
 left:Nat
 right:List Nat
 lvl:Int
structure aJ where
 rules:List Ru
 levels:List (Int×V)
namespace aJ
variable(G:aJ)
noncomputable def own:List Nat:=(List.range G.rules.length).flatMap λr=>List.replicate ((G.rules[r]?.map (·.right.length)).getD 0+1) r
noncomputable def off (r:Nat):Nat:=((G.rules.take r).map λx=>x.right.length+1).sum
noncomputable def GP:List Nat:=(List.range G.rules.length).map G.off
noncomputable def gj (s:Nat):List Nat:=(List.range G.rules.length).filter λr=>(G.rules[r]?.map (·.left))==some s
noncomputable def rl (i:Nat):Nat:=G.own.getD i 0
noncomputable def dt (i:Nat):Nat:=i-G.off (G.rl i)
noncomputable def right (r:Nat):List Nat:=(G.rules[r]?.map (·.right)).getD []
noncomputable def left (r:Nat):Nat:=(G.rules[r]?.map (·.left)).getD 0
noncomputable def GQ (i:Nat):Int:=match(G.right (G.rl i))[G.dt i]? with
 |some x=>x
 |none=> -1
inductive Ok:Prop
 |mk (len:G.rules.length=5) (lefts:∀(r:Nat) (x:Ru),G.rules[r]?=some x->x.left=if r=0 then 5 else if r<3 then 6 else 7) (Px:∀(r:Nat) (x:Ru),G.rules[r]?=some x->x.right.length≤3) (r0:(G.rules[0]?.map λx:Ru=>x.right)=some [6,0]) (rs:∀(r:Nat) (x:Ru),G.rules[r]?=some x->0<r->∀s∈x.right,s=3∨s=4∨s=6∨s=7) (r1:∀x:Ru,G.rules[1]?=some x->∃s l,x.right=s::l∧s≠6) (r3:∀x:Ru,G.rules[3]?=some x->∀s∈x.right,s=3∨s=4) (r3l:∀x:Ru,G.rules[3]?=some x->x.right.length≤2) (lv:∀(r:Nat) (x:Ru),G.rules[r]?=some x-> -1≤x.lvl∧x.lvl<5) (uS:∀(k:Int) (v:V),(k,v)∈G.levels->∃(a:Nat) (b:Nat),v= .tup [.int a,.str b]∧b<4)
end aJ
structure GA where
 nm:Nat
 rl:Nat
 lv:Nat
 bl:Nat
 of:Nat
 ow:Nat
 rs:List Nat
 bs:List Nat
 ns:List Nat
noncomputable def B5 (i:Nat) (r:Ru):O:=.inst 5 [(7,.int i),(8,.int r.left),(6,.tup (vn r.right)),(16,.int r.lvl),(26,.none),(51,.int 0),(52,.int 0)]
inductive b_ (H:Hp) (g:Nat) (G:aJ) (A:GA):Prop
 |mk (inst:H[g]?=some (.inst 4 [(47,.ref A.nm),(29,.int 5),(5,.ref A.rl),(15,.ref A.lv),(48,.none),(49,.int 6),(39,.ref A.bl),(37,.ref A.of),(36,.ref A.ow),(50,.int G.own.length)])) (rules:H[A.rl]?=some (.list (A.rs.map .ref))) (Px:A.rs.length=G.rules.length) (rule:∀(i a:Nat),A.rs[i]?=some a->∃r,G.rules[i]?=some r∧H[a]?=some (B5 i r)) (bl:H[A.bl]?=some (.list (A.bs.map .ref))) (blen:A.bs.length=8) (brow:∀(s b:Nat),A.bs[s]?=some b->H[b]?=some (.list (vn (G.gj s)))) (of_:H[A.of]?=some (.list (vn G.GP))) (ow:H[A.ow]?=some (.list (vn G.own))) (lv:H[A.lv]?=some (.bc G.levels)) (nm:H[A.nm]?=some (.list (A.ns.map .str))) (nlen:A.ns.length=8) (ok:G.Ok)
theorem b_.ext {H H':Hp} {g G A} (h:b_ H g G A) (e:Ext H H'):b_ H' g G A:=.mk
 (e _ _ h.1)
 (e _ _ h.2)
 (h.3)
 (λi a k=>(h.4 i a k).imp λ_ q=>⟨q.1,e _ _ q.2⟩)
 (e _ _ h.5)
 (h.6)
 (λs b k=>e _ _ (h.7 s b k))
 (e _ _ h.8)
 (e _ _ h.9)
 (e _ _ h.10)
 (e _ _ h.11)
 (h.12)
 (h.13)
theorem b_.len {H:Hp} {g G A} (h:b_ H g G A):A.rs.length=5:=h.3.trans h.13.1
theorem b_.at_ {H:Hp} {g G A} (h:b_ H g G A) {r:Nat} {R:Prop} (z:r<5) (k:∀a x,A.rs[r]?=some a->G.rules[r]?=some x->H[a]?=some (B5 r x)->G.left r=x.left->G.right r=x.right->R):R:=by
 have:r<A.rs.length:=by rw[h.len];exact z
 obtain⟨x,a,b⟩:=h.4 r _ (ao this)
 exact k _ x (ao this) a b (by unfold aJ.left;rw[a];rfl) (by unfold aJ.right;rw[a];rfl)
namespace aJ
variable {G:aJ}
theorem GR:∀(f:Nat->Nat) (n:Nat) (i:Nat),i<((List.range n).flatMap λr=>List.replicate (f r+1) r).length->
  ∃r,((List.range n).flatMap λr=>List.replicate (f r+1) r)[i]?=some r∧r<n∧((List.range r).map λx=>f x+1).sum≤i∧i≤((List.range r).map λx=>f x+1).sum+f r:=by
 intro f n;induction n with
 |zero=>intro i h;simp at h
 |succ n ih=>
  intro i h
  have L:((List.range n).flatMap λr=>List.replicate (f r+1) r).length=((List.range n).map λx=>f x+1).sum:=by
   rw[jO];simp
  rw[bG,cH]at h ⊢
  simp only[cx,cR,aN,aq,bX]at h ⊢
  rcases ba i ((List.range n).flatMap λr=>List.replicate (f r+1) r).length with k|k
  ·obtain⟨r,a,b,c⟩:=ih i k
   exact⟨r,(aG k).trans a,d9 b,c⟩
  ·exact⟨n,by rw[aY k,cZ,if_pos (Nat.sub_lt_left_of_lt_add k h)],bT n,L▸k,bB (L▸h)⟩
theorem vL (G:aJ):∀r,r≤G.rules.length->G.off r=((List.range r).map λx=>((G.rules[x]?.map (·.right.length)).getD 0)+1).sum:=by
 intro r;induction r with
 |zero=>intro _;simp[off]
 |succ r ih=>
  intro h
  have:=ih (cv h)
  rw[bG,ay,mU,←this]
  simp only[off]
  rw[aW,ay,mU,ao h]
  simp only[Option.toList,bQ,hB,List.sum_cons,List.sum_nil]
  rw[ao h];rfl
theorem i9 (G:aJ) {i:Nat} (h:i<G.own.length):G.own[i]?=some (G.rl i)∧G.rl i<G.rules.length∧G.off (G.rl i)≤i∧i≤G.off (G.rl i)+(G.right (G.rl i)).length:=by
 obtain⟨r,a,b,c,d⟩:=GR _ _ _ h
 have e:G.rl i=r:=(aE ..).trans (congrArg (Option.getD · 0) a)
 rw[e]
 refine⟨a,b,?_,?_⟩
 ·rw[vL G r (aK b)];exact c
 ·rw[vL G r (aK b)]
  have:(G.right r).length=(G.rules[r]?.map (·.right.length)).getD 0:=by
   unfold right;cases G.rules[r]?<;>rfl
  rw[this];exact d
end aJ
end
section
theorem kD {n:Nat} (h:n≤1000):n≤SZ:=aj h (by decide)
theorem ri {n:Nat} (h:n≤1000):n<SZ:=aA h (by decide)
section
variable {H:Hp} {g:Nat} {G:aJ} {A:GA} {R:Prop}
theorem iz (h:b_ H g G A):JR 41 [.ref g] H (.int 8) H:=by
 refine c7 41 [.ref g] H rfl rfl (L:=[some (.ref g)]) rfl λQ q=>.ret (.len (.attr (.var rfl) h.1 rfl rfl) (.list h.11 (kD ?_))) (q λj=>?_)
 ·rw[ae,h.12];decide
 ·rw[ae,h.12]at j;exact j
theorem n7 (h:b_ H g G A) {s:Int}:JR 46 [.ref g,.int s] H (.bool (decide (s<5))) H:=
 c7 46 [.ref g,.int s] H rfl rfl (L:=[some (.ref g),some (.int s)]) rfl λQ q=>.ret (.cmp (.var rfl) (.attr (.var rfl) h.1 rfl rfl) (.lt _ _)) (q id)
theorem DX (h:b_ H g G A) {s:Nat} (z:s<5):JR 46 [.ref g,.int s] H (.bool true) H:=by
 have:=n7 h (s:=s);rwa[decide_eq_true (show(s:Int)<5 from bC.2 z)]at this
theorem DY (h:b_ H g G A) {s:Nat} (z:5≤s):JR 46 [.ref g,.int s] H (.bool false) H:=by
 have:=n7 h (s:=s);rwa[decide_eq_false (λw:(s:Int)<5=>bE.2 z (bC.1 w))]at this
theorem tv (h:b_ H g G A) {i:Nat} (z:i<G.own.length):JR 37 [.ref g,.int i] H (.int (G.rl i)) H:=
 c7 37 [.ref g,.int i] H rfl rfl (L:=[some (.ref g),some (.int i)]) rfl λQ q=>.ret (.idx (.attr (.var rfl) h.1 rfl rfl) (.var rfl) (.nat h.9 (cN (G.i9 z).1))) (q id)
theorem Ad (h:b_ H g G A) {r:Nat} (z:r<5):G.GP[r]?=some (G.off r):=
 get_map (dB (h.13.1.symm▸z))
theorem MY {i:Nat} (z:i<G.own.length):(i:Int)-(G.off (G.rl i):Nat)=(G.dt i:Nat):=(lF (G.i9 z).2.2.1).symm
theorem IC (h:b_ H g G A) {L:Lc} {i:Nat} (z:i<G.own.length) (x:L[0]?=some (some (.ref g))) (y:L[1]?=some (some (.int i))):
  JE (.bin .sub (.var 1) (.idx (.attr (.var 0) 37) (.idx (.attr (.var 0) 36) (.var 1)))) L H (.int (G.dt i)) H:=by
 rw[←MY z]
 exact .bin (.var y) (.idx (.attr (.var x) h.1 rfl rfl) (.idx (.attr (.var x) h.1 rfl rfl) (.var y) (.nat h.9 (cN (G.i9 z).1))) (.nat h.8 (cN (Ad h (h.13.1▸(G.i9 z).2.1))))) (.sub _ _ _)
theorem Bc (h:b_ H g G A) {i:Nat} (z:i<G.own.length):JR 38 [.ref g,.int i] H (.int (G.dt i)) H:=
 c7 38 [.ref g,.int i] H rfl rfl (L:=[some (.ref g),some (.int i)]) rfl λQ q=>.ret (IC h z rfl rfl) (q id)
theorem vM (h:b_ H g G A) {r d:Nat} (z:r<5):JR 34 [.ref g,.int r,.int d] H (.int (G.off r+d:Nat)) H:=
 c7 34 [.ref g,.int r,.int d] H rfl rfl (L:=[some (.ref g),some (.int r),some (.int d)]) rfl λQ q=>.ret (.bin (.idx (.attr (.var rfl) h.1 rfl rfl) (.var rfl) (.nat h.8 (cN (Ad h z)))) (.var rfl) (.add _ _ _)) (q id)
theorem tw (h:b_ H g G A) {i:Nat} (z:i<G.own.length):JR 31 [.ref g,.int i] H (.int (G.GQ i)) H:=by
 refine c7 31 [.ref g,.int i] H rfl rfl (L:=[some (.ref g),some (.int i),none,none]) rfl λQ q=>?_
 obtain⟨a,b,c,d⟩:=G.i9 z
 refine h.at_ (h.13.1▸b) λra x r1 r2 r3 r4 r5=>?_
 have zr:x.right.length≤SZ:=kD (aj (h.13.3 _ _ r2) (by decide))
 refine .set (.attr (.idx (.attr (.var rfl) h.1 rfl rfl) (.idx (.attr (.var rfl) h.1 rfl rfl) (.var rfl) (.nat h.9 (cN a))) (.nat h.2 (dy r1))) r3 rfl rfl) (.set (IC h z rfl rfl) ?_)
 have T:=JT.bY (L:=[some (.ref g),some (.int i),some (.tup (vn x.right)),some (.int (G.dt i))]) (H:=H) (a:=.var 3) (b:=.len (.var 2)) (.var rfl) (.len (.var rfl) (.tup (by rw[aX];exact zr))) (.lt _ _)
 rw[aX]at T
 cases e:x.right[G.dt i]? with
 |some s=>
  have t:=(ah.1 e).1
  rw[decide_eq_true (bC.2 t)]at T
  rw[show G.GQ i=s by unfold aJ.GQ;rw[r5,e]]at q
  exact .ret (.ite T (.idx (.var rfl) (.var rfl) (.DV (cN e) (by rw[aX];exact zr)))) (q id)
 |none=>
  have t:=d3.1 e
  rw[decide_eq_false λw=>bE.2 t (bC.1 w)]at T
  rw[show G.GQ i= -1 by unfold aJ.GQ;rw[r5,e]]at q
  exact .ret (.ite T (.neg .lit)) (q id)
theorem kj (h:b_ H g G A) (s:Nat):(G.gj s).length≤5:=by
 have:=a7 (λr=>(G.rules[r]?.map (·.left))==some s) (List.range G.rules.length)
 rw[aT]at this;exact aj this (aF h.13.1)
theorem rN (h:b_ H g G A) {s:Nat} (z:s<8) (q:∀a H',JR 33 [.ref g,.int s] H (.ref a) H'->H[a]?=none->H'[a]?=some (.list (vn (G.gj s)))->Ext H H'->R):R:=by
 refine c7 33 [.ref g,.int s] H rfl rfl (L:=[some (.ref g),some (.int s)]) rfl λQ k=>?_
 have e:=ao (h.6.symm▸z:s<A.bs.length)
 exact qo (.idx (.attr (.var rfl) h.1 rfl rfl) (.var rfl) (.nat h.5 (dy e))) (h.7 _ _ e) (kD (by rw[aX];exact aj (kj h s) (by decide))) λa H1 j f g e=>.ret j (k λj=>q a H1 j f g e)
end
end
section
noncomputable def Rows (H:Hp) (as:List Nat) (rows:Nat->List Nat):Prop:=∀(s b:Nat),as[s]?=some b->H[b]?=some (.list (vn (rows s)))
theorem Rows.set {H:Hp} {as rows} (h:Rows H as rows) (nd:as.Nodup) {s b:Nat} (k:as[s]?=some b) (l:List Nat):Rows (H.set b (.list (vn l))) as (λt=>if t=s then l else rows t):=by
 intro t c e
 show _=some (O.list (vn (if t=s then l else rows t)))
 by_cases d:t=s
 ·cases d;cases k.symm.trans e;rw[if_pos rfl];exact dh (h _ _ k)
 ·rw[if_neg d];exact eJ (h _ _ e) λx=>d ((cM (ah.1 e).1 nd).1 (e.trans (x▸k.symm)))
theorem Rows.ne {H:Hp} {as rows} (h:Rows H as rows) {a:Nat} {o:O} (k:a∉as):Rows (H.set a o) as rows:=λs b e=>
 eJ (h _ _ e) λx=>k (x▸am e)
theorem rj {α:Type} {P:α->Prop}:∀a∈([]:List α),P a:=λ_ m=>absurd m aQ
theorem iA {α:Type} {l:List α} {x:α} (n:l.Nodup) (h:x∉l):(l++[x]).Nodup:=
 eo.2 ⟨n,.cons nofun .nil,λa ha b hb e=>h (ak.1 hb▸e▸ha)⟩
theorem gK {α:Type} {l:List α} (nd:l.Nodup) {n:Nat} {x:α} (h:l[n]?=some x):x∉l.take n:=λm=>by
 obtain⟨i,hi⟩:=aO m
 have z:=aw (eQ▸(ah.1 hi).1) (Nat.min_le_left ..)
 rw[iv z]at hi
 exact cr z ((cM (bK z (ah.1 h).1) nd).1 (hi.trans h.symm))
theorem qp {L:Lc} {H:Hp} {a:Nat} {l xs:List V} {R:Prop} (o:H[a]?=some (.list l)) (z:xs.length≤SZ)
  (q:∀(as:List Nat) (H':Hp),JC (.list .nil) .nil L (.list a l) xs [] H (as.map .ref) H'->as.length=xs.length->as.Nodup->(∀b∈as,H'[b]?=some (.list [])∧H[b]?=none)->Ext H H'->R):R:=by
 refine rL (g:=.list a l) (xs:=xs) (elt:=.list .nil) (ifs:=.nil) (L:=L) (H:=H) (λn ys H'=>∃as:List Nat,ys=as.map V.ref∧as.length=n∧as.Nodup∧Ext H H'∧∀b∈as,H'[b]?=some (.list [])∧H[b]?=none) ⟨[],rfl,rfl,.nil,.r,nofun⟩ ?_ ?_ z ?_ ?_
 ·rintro n ys H' ⟨as,rfl,rfl,nd,e,m⟩;exact e _ _ o
 ·rintro n ys H' ⟨as,rfl,rfl,nd,e,m⟩;rw[ae];exact aC _
 ·rintro n x ys H'-⟨as,rfl,rfl,nd,e,m⟩
  refine hN λb H1 j fr g1 e1=>.yes .lu (e _ _ o) j ⟨as++[b],(ay (l₂:=[b])).symm,aq,?_,e.trans e1,?_⟩
  ·exact iA nd λhc=>cW fr (m b hc).1
  ·exact λc hc=>(aD.1 hc).elim (λk=>⟨e1 _ _ (m c k).1,(m c k).2⟩) λk=>by
    cases ak.1 k;exact⟨g1,e.none fr⟩
 ·rintro ys H' j ⟨as,rfl,k,nd,e,m⟩;exact q as H' j k nd m e
noncomputable def B6 (G:aJ) (s:Nat):Prop:=∀P:Nat->Prop,(∀r<5,(∀s∈G.right r,P s)->P (G.left r))->P s
theorem B6.mk {G:aJ} (r:Nat) (z:r<5) (h:∀s∈G.right r,B6 G s):B6 G (G.left r):=λP k=>k r z λs m=>h s m P k
noncomputable def Nl (G:aJ) (fb:List Bool):Prop:=fb.length=8∧∀r<5,(∀s∈G.right r,fb[s]?=some true)->fb[G.left r]?=some true
theorem Nl.nul {G fb} (h:Nl G fb) {s} (n:B6 G s):fb[s]?=some true:=n _ h.2
noncomputable def vN (l:List Bool):List V:=l.map .bool
namespace iF
variable(G:aJ)
noncomputable def cnt (r:Nat) (P:List Nat):Nat:=(G.right r).countP λs=>!P.contains s
noncomputable def m9 (n s:Nat):List Nat:=(List.range n).flatMap λr=>List.replicate ((G.right r).count s) r
theorem DZ {n s r:Nat} (h:r∈m9 G n s):r<n:=
 (jf.1 h).elim λt q=>iw q.2▸bp.1 q.1
theorem Bd {n s r:Nat} (h:r<n):(m9 G n s).count r=(G.right r).count s:=by
 induction n with
 |zero=>exact absurd h (bm _)
 |succ n ih=>
  rw[m9,bG,cH,List.count_append]
  rcases ba r n with k|k
  ·have:=ih k;rw[m9]at this;rw[this,cx,cR,aN,List.count_replicate,if_neg λz=>di k (beq_iff_eq.1 z)];rfl
  ·cases bP (bB h) k
   have z:(m9 G r s).count r=0:=List.count_eq_zero.2 λm=>eO _ (DZ G m)
   rw[m9]at z;rw[z,cx,cR,aN,List.count_replicate_self,mO]
theorem GU {r:Nat} {P:List Nat} {x:Nat} (h:x∉P):cnt G r P=cnt G r (P++[x])+(G.right r).count x:=by
 unfold cnt;induction G.right r with
 |nil=>rfl
 |cons a l ih=>
  simp only[l_,List.count_cons,ih]
  by_cases e:a=x
  ·subst e;simp[h];exact dv ..
  ·simp[e];exact dG ..
inductive Sp (N:Nat) (P:List Nat) (f:Nat->Nat) (fb:List Bool) (lk:List Int) (q:List Nat):Prop
 |mk (fl:fb.length=8) (ll:lk.length=5) (nd:q.Nodup) (lt:∀s∈q,s<8) (fq:∀s,s∈q↔fb[s]?=some true) (lk:∀r<5,lk[r]?=some ((cnt G r P:Int)-f r)) (z:∀r<N,(cnt G r P:Int)-f r=0->fb[G.left r]?=some true)
end iF
namespace iF
variable {G:aJ} {A:GA} {g:Nat}
inductive Dj (H:Hp) (F K U q:Nat) (us:List Nat):Prop
 |mk (zf:H[F]?=none) (zk:H[K]?=none) (zu:H[U]?=none) (zq:H[q]?=none) (fu:∀b∈us,H[b]?=none) (fk:F≠K) (fu':F≠U) (fq:F≠q) (ku:K≠U) (kq:K≠q) (uq:U≠q) (nf:F∉us) (nk:K∉us) (nu:U∉us) (nq:q∉us) (nd:us.Nodup) (l8:us.length=8)
inductive Hs (H0 H:Hp) (F K U q:Nat) (us:List Nat) (fb:List Bool) (lk:List Int) (rows:Nat->List Nat) (ql:List Nat):Prop
 |mk (e:Ext H0 H) (gf:H[F]?=some (.list (vN fb))) (gk:H[K]?=some (.list (de lk))) (gu:H[U]?=some (.list (us.map .ref))) (r:Rows H us rows) (gq:H[q]?=some (.list (vn ql)))
section
variable {H0 H:Hp} {F K U q:Nat} {us:List Nat} {fb:List Bool} {lk:List Int} {rows:Nat->List Nat} {ql:List Nat}
theorem Hs.dj (h:Hs H0 H F K U q us fb lk rows ql) (d:Dj H0 F K U q us) (fb'):Hs H0 (H.set F (.list (vN fb'))) F K U q us fb' lk rows ql:=
 ⟨h.1.set d.1,dh h.2,eJ h.3 d.6.symm,eJ h.4 d.7.symm,h.5.ne d.12,eJ h.6 d.8.symm⟩
theorem Hs.MZ (h:Hs H0 H F K U q us fb lk rows ql) (d:Dj H0 F K U q us) (ID):Hs H0 (H.set K (.list (de ID))) F K U q us fb ID rows ql:=
 ⟨h.1.set d.2,eJ h.2 d.6,dh h.3,eJ h.4 d.9.symm,h.5.ne d.13,eJ h.6 d.10.symm⟩
theorem Hs.Py (h:Hs H0 H F K U q us fb lk rows ql) (d:Dj H0 F K U q us) (GV):Hs H0 (H.set q (.list (vn GV))) F K U q us fb lk rows GV:=
 ⟨h.1.set d.4,eJ h.2 d.8,eJ h.3 d.10,eJ h.4 d.11,h.5.ne d.15,dh h.6⟩
theorem Hs.Pz (h:Hs H0 H F K U q us fb lk rows ql) (d:Dj H0 F K U q us) {s b:Nat} (k:us[s]?=some b) (l:List Nat):
  Hs H0 (H.set b (.list (vn l))) F K U q us fb lk (λt=>if t=s then l else rows t) ql:=
 have m:=am k
 ⟨h.1.set (d.5 b m),eJ h.2 λx=>d.12 (x▸m),eJ h.3 λx=>d.13 (x▸m),eJ h.4 λx=>d.14 (x▸m),h.5.set d.16 k l,eJ h.6 λx=>d.15 (x▸m)⟩
theorem Hs.row (h:Hs H0 H F K U q us fb lk rows ql) (d:Dj H0 F K U q us) {s:Nat} (z:s<8):∃b,us[s]?=some b∧H[b]?=some (.list (vn (rows s))):=
 ⟨_,ao (d.17▸z),h.5 _ _ (ao (d.17▸z))⟩
end
theorem lR (o:G.Ok) {r s:Nat} (h:s∈G.right r):s<8:=by
 unfold aJ.right at h
 cases e:G.rules[r]? with
 |none=>rw[e]at h;exact absurd h aQ
 |some x=>
  rw[e]at h
  have h:s∈x.right:=h
  rcases pZ r with k|k
  ·subst k;have:=o.4;rw[e]at this;rw[show x.right=[6,0] from ax this]at h;exact(by decide:∀s∈[6,0],s<8) s h
  ·rcases o.5 r x e k s h with e|e|e|e<;>rw[e]<;>decide
theorem jV (o:G.Ok) {r:Nat} (h:r<5):G.left r<8:=by
 have:r<G.rules.length:=by rw[o.1];exact h
 have e:=ao this
 generalize G.rules[r]=x at e
 have:=o.2 r _ e
 unfold aJ.left;rw[e];show x.left<8;rw[this]
 by_cases a:r=0
 ·rw[if_pos a];decide
 ·rw[if_neg a];by_cases b:r<3
  ·rw[if_pos b];decide
  ·rw[if_neg b];decide
theorem rn (o:G.Ok) (r:Nat):(G.right r).length≤3:=by
 unfold aJ.right
 cases e:G.rules[r]? with
 |none=>simp
 |some x=>exact o.3 r x e
theorem Ae (o:G.Ok) (n s:Nat):(m9 G n s).length≤3*n:=by
 induction n with
 |zero=>simp[m9]
 |succ n ih=>
  rw[m9,bG,cH,aq]
  rw[cx,cR,aN,bX]
  exact c8 ih (aj oH (rn o n))
theorem Sp.M0 {N P f fb lk q} (h:Sp G N P f fb lk q):q.length≤8:=by
 exact aT (n:=8)▸br h.3 λs m=>bp.2 (h.4 s m)
theorem Sp.mark {N P f fb lk q l} (h:Sp G N P f fb lk q) (hl:l<8) (hf:fb[l]?=some false):Sp G N P f (fb.set l true) lk (q++[l]):=.mk
 (aU.trans h.1)
 (h.2)
 (iA h.3 λm=>ff (ax (hf.symm.trans ((h.5 l).1 m))))
 (λs hs=>(aD.1 hs).elim (h.4 s) λk=>ak.1 k▸hl)
 (λs=>by
  rw[aD,ak,h.5,iV]
  by_cases e:l=s
  ·subst e;simp[h.1,hl]
  ·simp[e,dU e])
 (h.6)
 (λr hr e=>by
  have:=h.7 r hr e
  rw[iV];split
  ·simp[h.1,hl]
  ·exact this)
theorem Sp.more {N P f fb lk q} (h:Sp G N P f fb lk q) (z:(cnt G N P:Int)-f N=0->fb[G.left N]?=some true):Sp G (N+1) P f fb lk q:=
 ⟨h.1,h.2,h.3,h.4,h.5,h.6,λr hr e=>by
  rcases ba r N with k|k
  ·exact h.7 r k e
  ·cases bP k (bB hr);exact z e⟩
theorem Sp.dec {P f fb lk q} {r:Nat} {v:Int} (h:Sp G 5 P f fb lk q) (hr:r<5) (hv:lk[r]?=some v) (z:v-1=0->fb[G.left r]?=some true):
  Sp G 5 P (λt=>f t+if r==t then 1 else 0) fb (lk.set r (v-1)) q:=
 ⟨h.1,aU.trans h.2,h.3,h.4,h.5,λt ht=>by
  by_cases e:r=t
  ·cases e;cases hv.symm.trans (h.6 r hr)
   rw[a8 (h.2.symm▸hr),beq_self_eq_true];exact congrArg some (Int.sub_sub ..)
  ·rw[a9 e,beq_false_of_ne e];exact h.6 t ht,λt ht=>by
  by_cases e:r=t
  ·cases e;cases hv.symm.trans (h.6 r hr)
   rw[beq_self_eq_true];exact λk=>z ((Int.sub_sub ..).trans k)
  ·rw[beq_false_of_ne e];exact h.7 t ht⟩
end iF
end
section
theorem ib (n:Nat) (h:Nat.ble n 1000=true):n≤SZ:=kD (dW h)
section
variable {α σ:Type} {H H1:Hp} {Q:Ps} {r a:i6} {g:Gd} {it:CI} {k:Nat}
theorem cB.GW {l:List α} (f:α->V) (Lf:Nat->σ->Lc) (P:Nat->σ->Hp->Prop) (s0:σ) (x:JI it (Lf 0 s0) H (l.map f) g H1) (h0:P 0 s0 (g.fz H1)) (hg:∀{n s H},P n s H->g.ok H)
  (st:Ll l Lf P g Q λy L H K=>cB a (L.set k (some (f y))) H K) (he:∀s H,P l.length s H->cB r (Lf l.length s) (g.th H) Q):cB (.cons (.for (.v k) it a) r) (Lf 0 s0) H Q:=
 .wW Lf P s0 x h0 hg (λn y s H K hy h k1 k2=>(nZ hy).elim λm q=>q.2▸st n m s H K q.1 h k1 k2) λs H h=>by rw[ae]at h ⊢;exact he s H h
theorem cB.jW {l:List Nat} (Lf:Nat->σ->Lc) (P:Nat->σ->Hp->Prop) (s0:σ) (x:JI it (Lf 0 s0) H (vn l) g H1) (h0:P 0 s0 (g.fz H1)) (hg:∀{n s H},P n s H->g.ok H)
  (st:Ll l Lf P g Q fun(y:Nat) L H K=>cB a (L.set k (some (.int y))) H K) (he:∀s H,P l.length s H->cB r (Lf l.length s) (g.th H) Q):cB (.cons (.for (.v k) it a) r) (Lf 0 s0) H Q:=.GW _ Lf P s0 x h0 hg st he
theorem cB.r9 {l:List Nat} (Lf:Nat->σ->Lc) (P:Nat->σ->Hp->Prop) (s0:σ) (x:JI it (Lf 0 s0) H (l.map .ref) g H1) (h0:P 0 s0 (g.fz H1)) (hg:∀{n s H},P n s H->g.ok H)
  (st:Ll l Lf P g Q λy L H K=>cB a (L.set k (some (.ref y))) H K) (he:∀s H,P l.length s H->cB r (Lf l.length s) (g.th H) Q):cB (.cons (.for (.v k) it a) r) (Lf 0 s0) H Q:=.GW _ Lf P s0 x h0 hg st he
theorem cB.GX (m:Nat) (Lf:Nat->σ->Lc) (P:Nat->σ->Hp->Prop) (s0:σ) {e:CE} (x:JE e (Lf 0 s0) H (.int m) H1) (z:m≤SZ) (h0:P 0 s0 H1)
  (st:∀n s H (K:Ps),n<m->P n s H->(∀{f} s' {H'},f.go=true->P (n+1) s' H'->K f (Lf (n+1) s') H')->(∀{v L' H'},Q (.ret v) L' H'->K (.ret v) L' H')->
   cB a ((Lf n s).set k (some (.int (n:Nat)))) H K) (he:∀s H,P m s H->cB r (Lf m s) H Q):cB (.cons (.for (.v k) (.range e) a) r) (Lf 0 s0) H Q:=
 .GW (g:=.none) (λn:Nat=>.int n) Lf P s0 (by have:=JI.yE x z;rwa[de,bF]at this) h0 (λ_=>trivial) (λn y s H K hy h k1 k2=>by
  have e:=ah.1 hy
  have z:=aT (n:=m)▸e.1
  cases(ax ((dB z).symm.trans hy));exact st n s H K z h k1 (k2 trivial)) λs H h=>by rw[aT]at h ⊢;exact he s H h
theorem cB.tx (m:Nat) (Lf:Nat->σ->Lc) (P:Nat->σ->Hp->Prop) (s0:σ) {e:CE} (x:JE e (Lf 0 s0) H (.int m) H1) (z:m≤1000) (h0:P 0 s0 H1)
  (st:∀n s H (K:Ps),n<m->P n s H->(∀{f} s' {H'},f.go=true->P (n+1) s' H'->K f (Lf (n+1) s') H')->(∀{v L' H'},Q (.ret v) L' H'->K (.ret v) L' H')->
   cB a ((Lf n s).set k (some (.int (n:Nat)))) H K) (he:∀s H,P m s H->cB r (Lf m s) H Q):cB (.cons (.for (.v k) (.range e) a) r) (Lf 0 s0) H Q:=.GX m Lf P s0 x (kD z) h0 st he
end
theorem JI.dT {L:Lc} {H H1:Hp} {e:CE} {a:Nat} {l:List V} (x:JE e L H (.ref a) H1) (o:H1[a]?=some (.list l)) (z:l.length≤1000):JI (.ex e) L H l (.list a l) H1:=.pF x (.list o) (kD z)
namespace iF
variable {G:aJ} {A:GA} {g:Nat}
noncomputable def Ls (g kn F K U q:Nat) (x6 x7 x8 x9 gJ fK:Option V):Lc:=[some (.ref g),some (.ref kn),some (.ref F),some (.ref K),some (.ref U),some (.ref q),x6,x7,x8,x9,gJ,fK]
theorem n_ {H0 H:Hp} (hG:b_ H0 g G A) (e:Ext H0 H) {L:Lc} {k:Nat} (x:L[k]?=some (some (.ref g))):JI (.ex (.attr (.var k) 5)) L H (A.rs.map .ref) (.list A.rl (A.rs.map .ref)) H:=
 .dT (.attr (.var x) (e _ _ hG.1) rfl rfl) (e _ _ hG.2) (by rw[ae,hG.len];decide)
variable {H0 H:Hp} {kn F K U q:Nat} {us:List Nat} {x6 x7 x8:Option V} {Q:Ps} {r:i6}
theorem IE {x:Nat} {l:List Nat} {j s:Nat} (hs:l[j]?=some s):(l.take (j+1)).count x=(l.take j).count x+if s==x then 1 else 0:=by
 rw[aW,hs,List.count_append];exact congrArg _ List.count_singleton
noncomputable def f8:List Bool:=List.replicate 8 false
noncomputable def yF (G:aJ) (n:Nat):List Int:=(List.range n).map λr=>((G.right r).length:Int)
noncomputable def U1 (G:aJ) (n:Nat) (w:List Nat) (j s:Nat):List Nat:=m9 G n s++List.replicate ((w.take j).count s) n
theorem PA {n w}:U1 G n w 0=m9 G n:=funext λ_=>aN _
theorem PB {n w j s} (hs:w[j]?=some s):(λt=>if t=s then U1 G n w j s++[n]else U1 G n w j t)=U1 G n w (j+1):=funext λt=>by
 unfold U1;rw[IE hs]
 by_cases e:t=s
 ·rw[if_pos e,e,beq_self_eq_true,bN];exact congrArg _ List.replicate_succ'.symm
 ·rw[if_neg e,beq_false_of_ne (dU e)];rfl
theorem PC {n}:U1 G n (G.right n) (G.right n).length=m9 G (n+1):=funext λt=>by
 rw[U1,aR,m9,m9,bG,cH,cx,cR,aN]
theorem GY {n}:(de (yF G n)).length=n:=by rw[de,ae,yF,ae,aT]
theorem J5 {r n} (h:r<n):(yF G n)[r]?=some ((G.right r).length:Int):=get_map (dB h)
theorem M1 {n}:de (yF G n)++[.int (G.right n).length]=de (yF G (n+1)):=by rw[yF,yF,de,de,bG,ay,ay];rfl
theorem J6 {ru:Ru} {n a:Nat} (d:Dj H0 F K U q us) (hG:b_ H0 g G A) (r2:G.rules[n]?=some ru) (r3:H0[a]?=some (B5 n ru)) (r5:G.right n=ru.right) (h:Hs H0 H F K U q us f8 (yF G n) (m9 G n) [])
  (k:∀x8 H',Hs H0 H' F K U q us f8 (yF G n) (m9 G (n+1)) []->cB r (Ls g kn F K U q (some (.ref a)) (some (.int ru.right.length)) x8 none none none) H' Q):
  cB (.cons (((bo 8).at 4).in.at 1) r) (Ls g kn F K U q (some (.ref a)) (some (.int 0)) x8 none none none) H Q:=by
 have zr:=hG.13.3 _ _ r2
 refine .jW (λj x8=>Ls g kn F K U q (some (.ref a)) (some (.int (j:Nat))) x8 none none none) (λj _ H'=>Hs H0 H' F K U q us f8 (yF G n) (U1 G n ru.right j) []) x8
  (.pF (.attr (.var rfl) (h.1 _ _ r3) rfl rfl) .tup (kD (by rw[aX];exact aj zr (by decide)))) (PA▸h) (λ_=>trivial) (λj s x8 H2 K' hs h kn kr=>?_) λx8 H2 h=>k x8 H2 (by rw[←r5,PC]at h;exact h)
 have s8:s<8:=lR (r:=n) hG.13 (r5▸am hs)
 obtain⟨b,b1,b2⟩:=h.row d s8
 refine .then (.um (.ir (.idx (.var rfl) (.var rfl) (.nat h.2 (get_map ((cZ (a:=false)).trans (if_pos s8))))) (.bool _) rfl)) (.set (.bin (.var rfl) .lit (.add _ _ _))
  (.expr (.append (.idx (.var rfl) (.var rfl) (.nat h.4 (dy b1))) (.attr (.var rfl) (h.1 _ _ r3) rfl rfl) ⟨_,b2⟩ b2 (ri ?_)) (.nil (.nil (kn _ rfl ?_)))))
 ·rw[aX,U1,aq,bX]
  exact aj (c8 (aj (Ae hG.13 n s) (bH 3 (aK (hG.13.1▸(ah.1 r2).1)))) (aj oH (aj (bJ ..) zr))) (by decide)
 ·have:=h.Pz d b1 (U1 G n ru.right j s++[n])
  rw[pQ,PB hs]at this;exact this
theorem M2 (d:Dj H0 F K U q us) (hG:b_ H0 g G A) (h:Hs H0 H F K U q us f8 [] (λ_=>[]) [])
  (k:∀x6 x7 x8 H',Hs H0 H' F K U q us f8 (yF G 5) (m9 G 5) []->cB r (Ls g kn F K U q x6 x7 x8 none none none) H' Q):cB (.cons ((bo 8).at 4) r) (Ls g kn F K U q none none none none none none) H Q:=by
 refine .r9 (λ_ (s:Option V×Option V×Option V)=>Ls g kn F K U q s.1 s.2.1 s.2.2 none none none) (λn _ H'=>Hs H0 H' F K U q us f8 (yF G n) (m9 G n) []) (none,none,none) (n_ hG h.1 rfl) h (λh=>h.1 _ _ hG.2)
  (λn a s H1 K' ha h cg _=>?_) λs H1 h=>k _ _ _ _ (hG.len▸h)
 refine hG.at_ (hG.len▸(ah.1 ha).1) λa' ru r1 r2 r3 r4 r5=>?_
 cases ha.symm.trans r1
 refine .set .lit (J6 (kn:=kn) d hG r2 r3 r5 h λx8 H2 h=>.expr (.append (.var rfl) (.var rfl) ⟨_,h.3⟩ h.3 (ri ?_)) (.nil (cg (_,_,_) rfl ?_)))
 ·rw[GY];exact aK (aw (hG.len▸(ah.1 ha).1) (by decide))
 ·rw[←r5,M1];exact h.MZ d _
theorem kP {l:List Bool} {k:Nat} {b:Bool} (h:l[k]?=some b):(vN l)[k]?=some (.bool b):=get_map h
theorem kQ {l:List Int} {k:Nat} {b:Int} (h:l[k]?=some b):(de l)[k]?=some (.int b):=get_map h
theorem su {l:List Int} {k:Nat} {b:Int}:(de l).set k (.int b)=de (l.set k b):=mP.symm
theorem Af {l:List Bool} {k:Nat} {b:Bool}:(vN l).set k (.bool b)=vN (l.set k b):=mP.symm
theorem GZ {l:List Bool}:(vN l).length=l.length:=ae _
theorem dD {l:List Int}:(de l).length=l.length:=ae _
theorem flag {l:List Bool} {k:Nat} (h:l.length=8) (z:k<8):l[k]?=some true∨l[k]?=some false:=by
 rw[ao (h.symm▸z)];cases l[k]'(h.symm▸z);exact .inr rfl;exact .inl rfl
theorem mark {fb lk ID ql f P N} {l:Nat} {L:Lc} {K':Ps} {e:CE} (d:Dj H0 F K U q us) (h:Hs H0 H F K U q us fb lk (m9 G 5) ql) (sp:Sp G N P f fb ID ql) (l8:l<8) (fl:fb[l]?=some false)
  (x2:L[2]?=some (some (.ref F))) (x5:L[5]?=some (some (.ref q))) (xe:∀H',Ext H0 H'->JE e L H' (.int l) H')
  (k:∀H',Hs H0 H' F K U q us (fb.set l true) lk (m9 G 5) (ql++[l])->Sp G N P f (fb.set l true) ID (ql++[l])->(fb.set l true)[l]?=some true->cB r L H' K'):
  cB (.cons (.bq (.var 2) e (.lit (.bool true))) (.cons (.expr (.append (.var 5) e)) r)) L H K':=by
 have h2:=h.dj d (fb.set l true)
 have h3:=h2.Py d (ql++[l])
 rw[←Af,pQ]at h3
 rw[←Af]at h2
 exact .bq .lit (.var x2) (xe _ h.1) (.list h.2 (dP (by rw[GZ,sp.1];exact l8)))
  (.expr (.append (.var x5) (xe _ h2.1) ⟨_,h2.6⟩ h2.6 (ri (by rw[aX];exact aj sp.M0 (by decide)))) (k _ h3 (sp.mark l8 fl) (a8 (sp.1.symm▸l8))))
theorem IF {fb lk ID ql f P N} {l m:Nat} {v:Int} {L:Lc} {K':Ps} {e1 e2:CE} (d:Dj H0 F K U q us) (h:Hs H0 H F K U q us fb lk (m9 G 5) ql) (sp:Sp G N P f fb ID ql) (l8:l<8) (hv:lk[m]?=some v)
  (x2:L[2]?=some (some (.ref F))) (x3:L[3]?=some (some (.ref K))) (x5:L[5]?=some (some (.ref q))) (xm:∀H',Ext H0 H'->JE e1 L H' (.int m) H') (xe:∀H',Ext H0 H'->JE e2 L H' (.int l) H')
  (k:∀H' fb GV,Hs H0 H' F K U q us fb lk (m9 G 5) (ql++GV)->Sp G N P f fb ID (ql++GV)->(v=0->fb[l]?=some true)->cB r L H' K'):
  cB (.cons (.ite (.and (.cons (.cmp .eq (.idx (.var 3) e1) (.lit (.int 0))) (.cons (.not (.idx (.var 2) e2)) .nil))) (.cons (.bq (.var 2) e2 (.lit (.bool true))) (.cons (.expr (.append (.var 5) e2)) .nil)) .nil) r) L H K':=by
 have h':=h;have PD:=sp
 rw[←aN ql]at h' PD
 have T:=JT.bY (.idx (.var x3) (xm _ h.1) (.nat h.3 (kQ hv))) .lit (.eq (.int v 0))
 by_cases z:v=0
 ·rw[beq_iff_eq.2 z]at T
  rcases flag sp.1 l8 with fl|fl
  ·exact .pass (.iD (.at T (.af (.um (.ir (.idx (.var x2) (xe _ h.1) (.nat h.2 (kP fl))) (.bool _) rfl))))) (k _ _ _ h' PD λ_=>fl)
  ·exact .then (.iD (.at T (.at (.um (.ir (.idx (.var x2) (xe _ h.1) (.nat h.2 (kP fl))) (.bool _) rfl)) .lu))) (mark d h sp l8 fl x2 x5 xe λH2 h sp fl=>.nil (k _ _ _ h sp λ_=>fl))
 ·rw[beq_eq_false_iff_ne.2 z]at T
  exact .pass (.iD (.af T)) (k _ _ _ h' PD λe=>(z e).elim)
theorem M3 (d:Dj H0 F K U q us) (hG:b_ H0 g G A) (h:Hs H0 H F K U q us f8 (yF G 5) (m9 G 5) [])
  (k:∀x6 fb lk ql H',Hs H0 H' F K U q us fb lk (m9 G 5) ql->Sp G 5 [] (λ_=>0) fb lk ql->cB r (Ls g kn F K U q x6 x7 x8 none none none) H' Q):cB (.cons ((bo 8).at 5) r) (Ls g kn F K U q x6 x7 x8 none none none) H Q:=by
 refine .r9 (λ_ (s:Option V×List Bool×List Int×List Nat)=>Ls g kn F K U q s.1 x7 x8 none none none) (λn s H'=>Hs H0 H' F K U q us s.2.1 s.2.2.1 (m9 G 5) s.2.2.2∧Sp G n [] (λ_=>0) s.2.1 s.2.2.1 s.2.2.2) (x6,f8,yF G 5,[]) (n_ hG h.1 rfl) ⟨h,?_⟩ (λh=>h.1.1 _ _ hG.2)
  (λn a s H1 K' ha h cg _=>?_) λs H1 h=>k _ _ _ _ _ h.1 (hG.len▸h.2)
 ·exact⟨rfl,ae _,.nil,nofun,λs=>⟨nofun,λh=>ff (iw (am h)).symm⟩,
   λr hr=>by show(yF G 5)[r]?=some ((cnt G r []:Int)-(0:Nat));rw[show cnt G r []=(G.right r).length from List.countP_eq_length.2 λ_ _=>rfl];exact(J5 hr).trans (congrArg some (qJ _).symm),λr h=>absurd h (bm r)⟩
 ·have hn:n<5:=hG.len▸(ah.1 ha).1
  refine hG.at_ hn λa' ru r1 r2 r3 r4 r5=>?_
  cases ha.symm.trans r1
  exact IF (l:=G.left n) d h.1 h.2 (jV hG.13 hn) (h.2.6 n hn) rfl rfl rfl (λH' e=>.attr (.var rfl) (e _ _ r3) rfl rfl) (λH' e=>r4▸ .attr (.var rfl) (e _ _ r3) rfl rfl) λH2 fb GV h sp fl=>
   .nil (cg (_,_,_,_++GV) rfl ⟨h,sp.more fl⟩)
theorem J7 {at_ x:Nat} {ql:List Nat} {gJ fK:Option V} {fb lk} (d:Dj H0 F K U q us) (hG:b_ H0 g G A) (hq:ql[at_]?=some x) (N8:x<8) (h:Hs H0 H F K U q us fb lk (m9 G 5) ql) (sp:Sp G 5 (ql.take at_) (λ_=>0) fb lk ql)
  (k:∀gJ fK fb lk Lm H',Hs H0 H' F K U q us fb lk (m9 G 5) (ql++Lm)->Sp G 5 (ql.take at_) (λr=>(m9 G 5 x).count r) fb lk (ql++Lm)->cB r (Ls g kn F K U q x6 x7 x8 (some (.int at_)) gJ fK) H' Q):
  cB (.cons (((bo 8).at 7).in.at 0) r) (Ls g kn F K U q x6 x7 x8 (some (.int at_)) gJ fK) H Q:=by
 obtain⟨b,b1,b2⟩:=h.row d N8
 refine .jW (λ_ (s:Option V×Option V×List Bool×List Int×List Nat)=>Ls g kn F K U q x6 x7 x8 (some (.int at_)) s.1 s.2.1)
  (λj s H'=>Hs H0 H' F K U q us s.2.2.1 s.2.2.2.1 (m9 G 5) (ql++s.2.2.2.2)∧Sp G 5 (ql.take at_) (λr=>((m9 G 5 x).take j).count r) s.2.2.1 s.2.2.2.1 (ql++s.2.2.2.2)) (gJ,fK,fb,lk,[])
  (.dT (.idx (.var rfl) (.idx (.var rfl) (.var rfl) (.nat h.6 (cN hq))) (.nat h.4 (dy b1))) b2 (by rw[aX];exact aj (Ae hG.13 5 x) (by decide)))
  ⟨(aN ql).symm▸h,(aN ql).symm▸sp⟩ (λh=>h.1.5 _ _ b1) (λj r s H2 K' hr h cg _=>?_) λs H2 h=>k _ _ _ _ _ H2 h.1 (aR (l:=m9 G 5 x)▸h.2)
 have r5:r<5:=DZ G (am hr)
 refine hG.at_ r5 λa ru r1 r2 r3 r4 _=>?_
 have PE:=h.2.6 r r5
 generalize ((cnt G r (ql.take at_):Int)-(((m9 G 5 x).take j).count r:Nat))=v at PE
 have h2:=h.1.MZ d (s.2.2.2.1.set r (v-1))
 rw[←su]at h2
 refine .bq (.bin (.idx (.var rfl) (.var rfl) (.nat h.1.3 (kQ PE))) .lit (.sub _ _ _)) (.var rfl) (.var rfl) (.list h.1.3 (dP (by rw[dD,h.2.2];exact r5)))
  (.set (.attr (.idx (.attr (.var rfl) (h2.1 _ _ hG.1) rfl rfl) (.var rfl) (.nat (h2.1 _ _ hG.2) (dy r1))) (h2.1 _ _ r3) rfl rfl) ?_)
 rw[←r4]
 refine IF (l:=G.left r) (m:=r) d h2 h.2 (jV hG.13 r5) (v:=v-1) (a8 (h.2.2.symm▸r5)) rfl rfl rfl (λH' e=>.var rfl) (λH' e=>.var rfl) λH2 fb GV h sp fl=>
  .nil (cg (_,_,_,_,_++GV) rfl ⟨bN ql _ _▸h,?_⟩)
 have sp:=sp.dec r5 PE fl
 rw[bN]at sp
 exact(funext λt=>(IE hr).symm:_=λt=>((m9 G 5 x).take (j+1)).count t)▸sp
theorem M4 {fb lk ql} (d:Dj H0 F K U q us) (hG:b_ H0 g G A) (h:Hs H0 H F K U q us fb lk (m9 G 5) ql) (sp:Sp G 5 [] (λ_=>0) fb lk ql)
  (k:∀x9 gJ fK fb lk ql H',Hs H0 H' F K U q us fb lk (m9 G 5) ql->Sp G 5 ql (λ_=>0) fb lk ql->cB r (Ls g kn F K U q x6 x7 x8 x9 gJ fK) H' Q):
  cB (.cons ((bo 8).at 7) r) (Ls g kn F K U q x6 x7 x8 (some (.int 0)) none none) H Q:=by
 refine .pP (λs:Nat×Option V×Option V×List Bool×List Int×List Nat=>Ls g kn F K U q x6 x7 x8 (some (.int s.1)) s.2.1 s.2.2.1)
  (λs H'=>Hs H0 H' F K U q us s.2.2.2.1 s.2.2.2.2.1 (m9 G 5) s.2.2.2.2.2∧Sp G 5 (s.2.2.2.2.2.take s.1) (λ_=>0) s.2.2.2.1 s.2.2.2.2.1 s.2.2.2.2.2∧s.1≤s.2.2.2.2.2.length) (λs=>8-s.1) (0,none,none,_,_,_) ⟨h,sp,bw _⟩ λs H1 K' h cg _=>?_
 obtain⟨n,gJ,fK,fb,lk,ql⟩:=s
 obtain⟨h,sp,hn⟩:=h
 have l8:ql.length≤8:=sp.M0
 have T:=JT.bY (L:=Ls g kn F K U q x6 x7 x8 (some (.int n)) gJ fK) (H:=H1) (a:=.var 9) (b:=.len (.var 5)) (.var rfl) (.len (.var rfl) (.list h.6 (kD (by rw[aX];exact aj l8 (by decide))))) (.lt _ _)
 rw[aX]at T
 rcases ba n ql.length with t|t
 ·rw[decide_eq_true (bC.2 t)]at T
  refine .yes T ?_
  have hx:=ao t
  have N8:=sp.4 _ (g_ t)
  generalize ql[n]=x at hx N8
  refine J7 d hG hx N8 h sp λIG IH fb lk Lm H2 h sp=>.set (.bin (.var rfl) .lit (.add _ _ _)) (.nil (cg (n+1,IG,IH,fb,lk,ql++Lm) rfl ⟨h,?_,by rw[aq];exact aj t (bu _ _)⟩ (hV (aw t l8) (bT n))))
  have N9:=gK (eo.1 sp.3).1 hx
  have e1:(ql++Lm).take (n+1)=ql.take n++[x]:=by
   rw[List.take_append_of_le_length t,aW,hx];rfl
  show Sp G 5 ((ql++Lm).take (n+1)) _ _ _ _
  rw[e1]
  have key:∀r<5,((cnt G r (ql.take n):Int)-((m9 G 5 x).count r:Nat))=(cnt G r (ql.take n++[x]):Int)-(0:Nat):=λr hr=>by
   rw[Bd G hr,GU G N9,Int.natCast_add];exact(kx ..).trans (qJ _).symm
  exact⟨sp.1,sp.2,sp.3,sp.4,sp.5,λr hr=>key r hr▸sp.6 r hr,λr hr=>key r hr▸sp.7 r hr⟩
 ·rw[decide_eq_false λh=>bE.2 t (bC.1 h)]at T
  rw[fE t]at sp
  exact .no T (k _ _ _ _ _ _ H1 h sp)
end iF
open iF
variable {G:aJ} {A:GA} {g:Nat} {R:Prop}
theorem Be {H:Hp} {kn:Nat} (hG:b_ H g G A) (hk:H[kn]?=some (.list (vN f8)))
  (q:∀a fb H',JR 8 [.ref g,.ref kn] H (.ref a) H'->H[a]?=none->H'[a]?=some (.list (vN fb))->Ext H H'->Nl G fb->R):R:=by
 refine c7 8 [.ref g,.ref kn] H rfl rfl (L:=[some (.ref g),some (.ref kn),none,none,none,none,none,none,none,none,none,none]) rfl λQ q'=>?_
 refine qo (.var rfl) hk (by decide) λF H1 j f1 g1 e1=>.set j ?_
 refine hN λK H2 j f2 g2 e2=>.set j ?_
 refine qp (L:=[]) (e2 _ _ g1) (by decide) λus H3 j3 l3 nd fu e3=>kh rfl (.dT (.var rfl) (e2 _ _ g1) (by decide)) rfl j3 (by rw[ae,l3];decide) λU H4 j f4 g4 e4=>.set j ?_
 refine hN λqa H5 j f5 g5 e5=>.set j ?_
 have E3:Ext H H3:=e1.trans (e2.trans e3)
 have d:Dj H F K U qa us:=by
  have a1:=e4 _ _ (e3 _ _ (e2 _ _ g1))
  have a2:=e4 _ _ (e3 _ _ g2)
  have m3:∀b∈us,H3[b]?=some (.list []):=λb hb=>(fu b hb).1
  refine⟨f1,e1.none f2,E3.none f4,(E3.trans e4).none f5,λb hb=>(e1.trans e2).none (fu b hb).2,e_ f2 g1,e_ f4 (e3 _ _ (e2 _ _ g1)),e_ f5 a1,e_ f4 (e3 _ _ g2),e_ f5 a2,e_ f5 g4,?_,?_,?_,?_,nd,l3⟩
  ·exact λm=>cW (fu _ m).2 (e2 _ _ g1)
  ·exact λm=>cW (fu _ m).2 g2
  ·exact λm=>cW f4 (m3 _ m)
  ·exact λm=>cW f5 (e4 _ _ (m3 _ m))
 have E4:Ext H3 H5:=e4.trans e5
 refine M2 d hG (kn:=kn) ⟨E3.trans E4,E4 _ _ (e3 _ _ (e2 _ _ g1)),E4 _ _ (e3 _ _ g2),e5 _ _ g4,λs b k=>E4 _ _ (fu b (am k)).1,g5⟩ λx6 x7 x8 H6 h=>
  M3 d hG h λx6 fb lk ql H7 h sp=>.set .lit (M4 (kn:=kn) d hG h sp λx9 gJ fK fb lk ql H7 h sp=>.ret (.var rfl) (q' λj=>q F fb H7 j f1 h.2 h.1 ⟨sp.1,λr hr hs=>sp.7 r hr ?_⟩))
 rw[show cnt G r ql=0 from List.countP_eq_zero.2 λs m=>by rw[cV.2 ((sp.5 s).2 (hs s m))];exact ff];rfl
theorem oa {H:Hp} (hG:b_ H g G A)
  (q:∀a fb H',JR 9 [.ref g] H (.ref a) H'->H[a]?=none->H'[a]?=some (.list (vN fb))->Ext H H'->Nl G fb->R):R:=by
 refine c7 9 [.ref g] H rfl rfl (L:=[some (.ref g)]) rfl λQ q'=>?_
 refine jJ (vs:=[.bool false]) (.av .lit .bn) (by decide) λa H1 j f1 g1 e1=>GN (L:=[some (.ref g)]) (n:=8) (f:=.bx (.var 0) 9 41 .nil) j (.bx (.var rfl) (e1 _ _ hG.1) rfl rfl .bn (iz (hG.ext e1))) g1 (by decide) λb H2 j f2 g2 e2=>?_
 exact Be (hG.ext (e1.trans e2)) g2 λc fb H3 y f3 g3 e3 n=>.ret (.call (.av (.var rfl) (.av j .bn)) y) (q' λj=>q c fb H3 j ((e1.trans e2).none f3) g3 ((e1.trans e2).trans e3) n)
end
section
theorem D0 {f:CE} {L:Lc} {H:Hp} {u:V} {n:Nat} {R:Prop} (k:∀a H2,JE (.bin .mul (.list (.cons (.lit u) .nil)) f) L H (.ref a) H2->H[a]?=none->H2[a]?=some (.list (List.replicate n u))->Ext H H2->R)
  (y:∀H',Ext H H'->JE f L H' (.int n) H') (z:n≤1000):R:=
 jJ (vs:=[u]) (.av .lit .bn) (ib _ rfl) λa H1 j _ g e=>GN j (y _ e) g (kD z) λb H2 j f g e2=>k b H2 j (e.none f) g (e.trans e2)
theorem getD_at {α} {l:List α} {k:Nat} {d:α} (z:k<l.length):l[k]?=some (l.getD k d):=by
 rw[aE,ao z];rfl
theorem tA {l:List Nat} {k b:Nat}:(vn l).set k (.int b)=vn (l.set k b):=mP.symm
theorem tB {w:List Nat} {n k s:Nat} (h:∀s∈w,s<n) (e:w[k]?=some s):s<n:=h s (am e)
theorem sw {α} {w:List α} {k:Nat} {x:α} (h:w[k]?=some x):w.drop k=x::w.drop (k+1):=
 (ah.1 h).elim λz e=>e▸d4 z
noncomputable def fo (fs:List Nat) (nb:List Bool):Nat->List Nat->Nat×Bool
 |m,[]=>(m,true)
 |m,s::l=>bif nb.getD s false then fo fs nb (m|||fs.getD s 0) l else(m|||fs.getD s 0,false)
theorem PF {fs nb m}:fo fs nb m []=(m,true):=rfl
theorem G0 {fs nb m s l}:fo fs nb m (s::l)=bif nb.getD s false then fo fs nb (m|||fs.getD s 0) l else(m|||fs.getD s 0,false):=rfl
variable {H:Hp} {R:Prop}
theorem wX {w:List Nat} {n f:Nat} {nb:List Bool} {fs:List Nat} (wl:w.length≤3) (w8:∀s∈w,s<8) (hn:H[n]?=some (.list (vN nb))) (nl:nb.length=8) (hf:H[f]?=some (.list (vn fs))) (fl:fs.length=8):
  JR 13 [.tup (vn w),.ref n,.ref f] H (.tup [.int (fo fs nb 0 w).1,.bool (fo fs nb 0 w).2]) H:=by
 refine c7 13 [.tup (vn w),.ref n,.ref f] H rfl rfl (L:=[some (.tup (vn w)),some (.ref n),some (.ref f),none,none]) rfl λQ q=>.set .lit ?_
 refine .jW (λ_ (s:Nat×Option V)=>[some (.tup (vn w)),some (.ref n),some (.ref f),some (.int s.1),s.2]) (λk s H'=>H'=H∧fo fs nb 0 w=fo fs nb s.1 (w.drop k)) (0,none)
  (.pF (.var rfl) .tup (kD (by rw[aX];exact aj wl (by decide)))) ⟨rfl,rfl⟩ (λ_=>trivial) ?_ ?_
 ·intro k x s H1 K hx h kn kr
  obtain⟨rfl,h⟩:=h
  have x8:=tB w8 hx
  rw[sw hx,G0]at h
  refine .set (.bin (.var rfl) (.idx (.var rfl) (.var rfl) (.nat hf (cN (getD_at (d:=0) (fl.symm▸x8))))) (.bor _ _ _)) ?_
  have T:=JT.ir (H:=H1) (L:=[some (.tup (vn w)),some (.ref n),some (.ref f),some (.int (s.1|||fs.getD x 0:Nat)),some (.int x)]) (e:=.idx (.var 1) (.var 4)) (.idx (.var rfl) (.var rfl) (.nat hn (iF.kP (getD_at (d:=false) (nl.symm▸x8))))) (.bool _) rfl
  cases eb:nb.getD x false
  ·rw[eb]at h T
   refine .then (.um T) (.ret (.tup (.av (.var rfl) (.av .lit .bn)) (ib _ rfl)) (kr trivial (q λj=>?_)))
   rw[h];exact j
  ·rw[eb]at h T
   exact .pass (.um T) (.nil (kn (_,_) rfl ⟨rfl,h⟩))
 ·intro s H1 h
  obtain⟨rfl,h⟩:=h
  rw[hE,PF]at h
  rw[h]at q
  exact .ret (.tup (.av (.var rfl) (.av .lit .bn)) (ib _ rfl)) (q id)
end
section
inductive G1 (G:aJ) (fs:List Nat):Prop
 |mk (len:fs.length=8) (lt:∀s∈fs,s<32) (t:∀t<5,(fs.getD t 0).testBit t=true) (cl:∀r<5,∀(k s:Nat),(G.right r)[k]?=some s->(∀x∈(G.right r).take k,B6 G x)->∀t,(fs.getD s 0).testBit t=true->(fs.getD (G.left r) 0).testBit t=true)
noncomputable def f0 (n:Nat):List Nat:=(List.range n).map λi=>if i<5 then 1<<<i else 0
theorem jj {fs:List Nat} {k:Nat} (h:∀s∈fs,s<32):fs.getD k 0<32:=by
 rw[aE]
 cases e:fs[k]? with
 |none=>decide
 |some x=>exact h x (am e)
section
variable {fs:List Nat} {nb:List Bool}
theorem M5 (h:∀s∈fs,s<32) (w:List Nat):∀m<32,(fo fs nb m w).1<32:=by
 induction w with
 |nil=>exact λ_ z=>z
 |cons s l ih=>
  intro m z
  have:=dz (n:=5) z (jj (k:=s) h)
  rw[G0];cases nb.getD s false
  ·exact this
  ·exact ih _ this
theorem M6 (w:List Nat):∀m t:Nat,m.testBit t=true->(fo fs nb m w).1.testBit t=true:=by
 induction w with
 |nil=>exact λ_ _ h=>h
 |cons s l ih=>
  intro m t h
  have:(m|||fs.getD s 0).testBit t=true:=by rw[bW,h];rfl
  rw[G0];cases nb.getD s false
  ·exact this
  ·exact ih _ t this
theorem J8 (w:List Nat):∀m k s t:Nat,w[k]?=some s->(∀x∈w.take k,nb[x]?=some true)->(fs.getD s 0).testBit t=true->(fo fs nb m w).1.testBit t=true:=by
 induction w with
 |nil=>exact λm k s t e _ _=>cW dA e
 |cons a l ih=>
  intro m k s t e n h
  rw[G0]
  cases k with
  |zero=>
   cases e
   have:(m|||fs.getD a 0).testBit t=true:=by rw[bW,h,fG]
   cases nb.getD a false
   ·exact this
   ·exact M6 l _ t this
  |succ k=>
   rw[aE,n a aP]
   exact ih _ k s t e (λx hx=>n x (aL _ hx)) h
end
theorem sum_set (fs:List Nat):∀k v:Nat,k<fs.length->(fs.set k v).sum+fs.getD k 0=fs.sum+v:=by
 induction fs with
 |nil=>exact λk v h=>absurd h (bm k)
 |cons a l ih=>
  intro k v h
  cases k with
  |zero=>exact(dG v _ a).trans ((congrArg (· +l.sum) (dO v a)).trans (dG a v _))
  |succ k=>exact(dv a ..).trans ((congrArg (a+ ·) (ih k v (fH h))).trans (dv a ..).symm)
theorem D4 (fs:List Nat) (h:∀s∈fs,s<32):fs.sum≤31*fs.length:=by
 induction fs with
 |nil=>exact aC _
 |cons a l ih=>exact aj (c8 (bB (h a aP)) (ih λs m=>h s (aL _ m))) (aF (dO ..))
theorem qq {fs:List Nat} {k v j:Nat} (h:k<fs.length):(fs.set k v).getD j 0=if j=k then v else fs.getD j 0:=by
 rw[aE,aE]
 by_cases e:j=k
 ·cases e;rw[a8 h,if_pos rfl];rfl
 ·rw[a9 (dU e),if_neg e]
theorem wY {fs:List Nat} {k s0 m:Nat} (z:k<fs.length) (g:s0≤fs.sum) (e:fs.getD k 0|||m≠fs.getD k 0):s0<(fs.set k (fs.getD k 0|||m)).sum:=
 aA g (Nat.lt_of_add_lt_add_right (fJ (jP (iI Nat.left_le_or (dU e)) _) (sum_set fs k _ z).symm))
theorem msr {a b:Nat} {t:Bool} (h1:a≤248) (h3:b≤a) (h4:t=true->b<a):2*(248-a)+t.toNat<2*(248-b)+1:=by
 cases t
 ·exact dc (bH 2 (Nat.sub_le_sub_left h3 248))
 ·exact jv ((Nat.mul_lt_mul_left (by decide)).2 (hV (aw (h4 rfl) h1) (h4 rfl))) 1
inductive Rd (G:aJ) (fb:List Bool) (s0 n:Nat) (b:Bool) (fs:List Nat):Prop
 |mk (len:fs.length=8) (lt:∀s∈fs,s<32) (t:∀t<5,(fs.getD t 0).testBit t=true) (up:s0≤fs.sum) (yes:b=true->s0<fs.sum) (no:b=false->∀r<n,fs.getD (G.left r) 0|||(fo fs fb 0 (G.right r)).1=fs.getD (G.left r) 0)
theorem Rd.G2 {G fb s0 n b fs} (h:Rd G fb s0 n b fs) (e:fs.getD (G.left n) 0|||(fo fs fb 0 (G.right n)).1=fs.getD (G.left n) 0):Rd G fb s0 (n+1) b fs:=
 ⟨h.1,h.2,h.3,h.4,h.5,λz r hr=>by
  rcases bj.1 hr with k|k
  ·exact h.6 z r k
  ·exact k▸e⟩
theorem Rd.grow {G fb s0 n b fs m k} (h:Rd G fb s0 n b fs) (k8:k<8) (m5:m<32) (e:fs.getD k 0|||m≠fs.getD k 0):Rd G fb s0 (n+1) true (fs.set k (fs.getD k 0|||m)):=by
 have g4:=wY (h.1.symm▸k8) h.4 e
 refine⟨aU.trans h.1,λs hs=>?_,λt ht=>?_,aK g4,λ_=>g4,λz=>ff z.symm⟩
 ·rcases hJ hs with k|k
  ·exact h.2 s k
  ·rw[k];exact dz (n:=5) (jj h.2) m5
 ·rw[qq (h.1.symm▸k8)]
  by_cases e:t=k
  ·rw[if_pos e,←e,bW,h.3 t ht];rfl
  ·rw[if_neg e];exact h.3 t ht
theorem Rd.fst {G fb s0 fs} (h:Rd G fb s0 5 false fs) (nl:Nl G fb):G1 G fs:=
 ⟨h.1,h.2,h.3,λr hr k s hk hn t ht=>by
  rw[←h.6 rfl r hr,bW,J8 (G.right r) 0 k s t hk (λx hx=>nl.nul (hn x hx)) ht,fG]⟩
end
section
variable {G:aJ} {A:GA} {g:Nat} {R:Prop}
theorem rd0 {fb}:Rd G fb 0 0 false (f0 8):=⟨by decide,by decide,by decide,bw _,ff,λ_ r h=>absurd h (bm r)⟩
theorem Rd.z {fb s0 n b fs} (h:Rd G fb s0 n b fs):Rd G fb 0 0 false fs:=⟨h.1,h.2,h.3,bw _,ff,λ_ r h=>absurd h (bm r)⟩
theorem Rd.s {fb s0 n b fs} (h:Rd G fb s0 n b fs):fs.sum≤248:=aj (D4 fs h.2) (by rw[h.1];decide)
theorem tC {H:Hp} (hG:b_ H g G A)
  (q:∀a fs H',JR 14 [.ref g] H (.ref a) H'->H[a]?=none->H'[a]?=some (.list (vn fs))->Ext H H'->G1 G fs->R):R:=by
 refine c7 14 [.ref g] H rfl rfl (L:=[some (.ref g),none,none,none,none,none,none]) rfl λQ q'=>?_
 refine oa hG λN fb H1 j fN gN eN nl=>.set (.call (.av (.var rfl) .bn) j) ?_
 refine hN λF H2 j fF gF eF=>.set j ?_
 have e0:=eN.trans eF
 refine .tx 8 (λ_ (s:Option V)=>[some (.ref g),some (.ref N),some (.ref F),s,none,none,none]) (λn s H'=>Ext H1 H'∧H'[F]?=some (.list (vn (f0 n)))) none
  (.bx (.var rfl) (e0 _ _ hG.1) rfl rfl .bn (iz (hG.ext e0))) (by decide) ⟨eF,gF⟩ ?_ ?_
 ·intro n s H' K hn h cg _
  have N_:=hG.ext (eN.trans h.1)
  have E:f0 (n+1)=f0 n++[if n<5 then 1<<<n else 0]:=by rw[f0,bG,ay];rfl
  have X:JE (.ite (.bx (.var 0) 11 46 (.cons (.var 3) .nil)) (.bin .shl (.lit (.int 1)) (.var 3)) (.lit (.int 0))) [some (.ref g),some (.ref N),some (.ref F),some (.int n),none,none,none] H' (.int (if n<5 then 1<<<n else 0:Nat)) H':=by
   rcases ba n 5 with z|z
   ·rw[if_pos z]
    exact .ite (.ir (.bx (.var rfl) N_.1 rfl rfl (.av (.var rfl) .bn) (DX N_ z)) (.bool _) rfl) (.bin .lit (.var rfl) (.shl 1 n _ (by decide) (bK hn (by decide))))
   ·rw[if_neg (bE.2 z)]
    exact .ite (.ir (.bx (.var rfl) N_.1 rfl rfl (.av (.var rfl) .bn) (DY N_ z)) (.bool _) rfl) .lit
  refine .expr (.append (.var rfl) X ⟨_,h.2⟩ h.2 (ri ?_)) (.nil (cg _ rfl ⟨h.1.set fF,?_⟩))
  ·rw[aX,f0,ae,aT];exact aK (bK hn (by decide))
  ·rw[dh h.2,E,pQ];rfl
 ·intro s H3 h
  refine .set .lit (.pP (fun(s:Bool×List Nat×Option V×Option V×Option V)=>[some (.ref g),some (.ref N),some (.ref F),s.2.2.1,some (.bool s.1),s.2.2.2.1,s.2.2.2.2]) (λs H'=>Ext H1 H'∧H'[F]?=some (.list (vn s.2.1))∧Rd G fb 0 0 false s.2.1∧(s.1=false->G1 G s.2.1))
   (λs=>2*(248-s.2.1.sum)+s.1.toNat) (true,f0 8,s,none,none) ⟨h.1,h.2,rd0,λz=>ff z.symm⟩ ?_)
  intro s H' K h cg _
  obtain⟨b,fs,x3,x5,x6⟩:=s
  cases b with
  |false=>exact .no (.ir (.var rfl) (.bool _) rfl) (.ret (.var rfl) (q' λj=>q F fs H' j (eN.none fF) h.2.1 (eN.trans h.1) (h.2.2.2 rfl)))
  |true=>
   have g1:=h.2.2.1
   refine .yes (.ir (.var rfl) (.bool _) rfl) (.set .lit (.r9 (λ_ (s:Bool×List Nat×Option V×Option V)=>[some (.ref g),some (.ref N),some (.ref F),x3,some (.bool s.1),s.2.2.1,s.2.2.2])
    (λn s H'=>Ext H1 H'∧H'[F]?=some (.list (vn s.2.1))∧Rd G fb fs.sum n s.1 s.2.1) (false,fs,x5,x6) (iF.n_ hG (eN.trans h.1) rfl) ⟨h.1,h.2.1,⟨g1.1,g1.2,g1.3,aC _,ff,λ_ r h=>absurd h (bm r)⟩⟩ ?_ ?_ ?_))
   ·intro n s H h;exact(eN.trans h.1) _ _ hG.2
   ·intro n a s H4 K hx h cg _
    have hn:n<5:=hG.len▸(ah.1 hx).1
    have rd:=h.2.2
    refine hG.at_ hn λa' x r1 r2 r3 r4 r5=>?_
    cases hx.symm.trans r1
    have hr:=(eN.trans h.1) _ _ r3
    have l8:=iF.jV hG.13 hn
    have gl:=cN (getD_at (d:=0) (rd.1.symm▸l8))
    rw[r4]at gl
    have fo_:=wX (hG.13.3 _ _ r2) (λs m=>iF.lR hG.13 (r:=n) (r5▸m)) (h.1 _ _ gN) nl.1 h.2.1 rd.1
    rw[←r5]at fo_
    refine .set (.bin (.idx (.var rfl) (.attr (.var rfl) hr rfl rfl) (.nat h.2.1 gl)) (.idx (.call (.av (.attr (.var rfl) hr rfl (r5▸rfl)) (.av (.var rfl) (.av (.var rfl) .bn))) fo_) .lit (.tup (ib _ rfl) rfl rfl)) (.bor _ _ _)) ?_
    rw[r4]at l8
    refine .ite (.bY (.var rfl) (.idx (.var rfl) (.attr (.var rfl) hr rfl rfl) (.nat h.2.1 gl)) (.ne (.int _ _))) (λt=>?_) λt=>?_
    ·have t:s.2.1.getD x.left 0|||(fo s.2.1 fb 0 (G.right n)).1≠s.2.1.getD x.left 0:=λe=>by rw[e,beq_self_eq_true]at t;exact ff t
     refine .bq (.var rfl) (.var rfl) (.attr (.var rfl) hr rfl rfl) (.list h.2.1 (dP (by rw[aX,rd.1];exact l8))) (.set .lit (.nil (.nil (cg (true,_,_,_) rfl ⟨h.1.set fF,?_,rd.grow l8 (M5 rd.2 _ _ (by decide)) t⟩))))
     rw[dh h.2.1,tA]
    ·have t:s.2.1.getD x.left 0|||(fo s.2.1 fb 0 (G.right n)).1=s.2.1.getD x.left 0:=by
      rw[p5,beq_iff_eq]at t;exact a_.1 t
     rw[←r4]at t;exact .nil (.nil (cg (s.1,s.2.1,some (.ref a),some (.int (s.2.1.getD x.left 0|||(fo s.2.1 fb 0 (G.right n)).1:Nat))) rfl ⟨h.1,h.2.1,rd.G2 t⟩))
   ·intro s H4 h
    have rd:=h.2.2
    rw[hG.len]at rd
    refine .nil (cg (_,_,_,_,_) rfl ⟨h.1,h.2.1,rd.z,λe=>?_⟩ ?_)
    ·rw[show s.1=false from e]at rd;exact rd.fst nl
    ·exact msr rd.s rd.4 rd.5
end
section
noncomputable def bh (fs:List Nat) (nb:List Bool) (base:Nat):List Nat->Nat
 |[]=>base
 |s::w=>if s<5 then fs.getD s 0 else bif nb.getD s false then bh fs nb base w|||fs.getD s 0 else fs.getD s 0
inductive J9 (G:aJ) (fs ws:List Nat):Prop
 |mk (len:ws.length=8) (lt:∀s∈ws,s<32) (a:∀r<5,∀(i A j s:Nat),(G.right r)[i]?=some A->5≤A->((G.right r).drop (i+1))[j]?=some s->(∀x∈((G.right r).drop (i+1)).take j,5≤x∧B6 G x)->∀t,(fs.getD s 0).testBit t=true->(ws.getD A 0).testBit t=true) (b:∀r<5,∀(i A:Nat),(G.right r)[i]?=some A->5≤A->(∀x∈(G.right r).drop (i+1),5≤x∧B6 G x)->∀t,(ws.getD (G.left r) 0).testBit t=true->(ws.getD A 0).testBit t=true)
section
variable {fs:List Nat} {nb:List Bool} {base t s:Nat}
theorem D5 {w:List Nat}:bh fs nb base (s::w)=if s<5 then fs.getD s 0 else bif nb.getD s false then bh fs nb base w|||fs.getD s 0 else fs.getD s 0:=rfl
theorem M7 {w:List Nat} (n:5≤s∧nb[s]?=some true):bh fs nb base (s::w)=bh fs nb base w|||fs.getD s 0:=by
 rw[D5,if_neg (bE.2 n.1),aE,n.2];rfl
theorem M8 (h:∀s∈fs,s<32) (b:base<32) (w:List Nat):bh fs nb base w<32:=by
 induction w with
 |nil=>exact b
 |cons s w ih=>
  rw[D5];by_cases z:s<5
  ·rw[if_pos z];exact jj h
  ·rw[if_neg z];cases nb.getD s false
   ·exact jj h
   ·exact dz (n:=5) ih (jj h)
theorem PG (ht:(fs.getD s 0).testBit t=true) (w:List Nat):∀j:Nat,w[j]?=some s->(∀x∈w.take j,5≤x∧nb[x]?=some true)->(bh fs nb base w).testBit t=true:=by
 induction w with
 |nil=>exact λj e _=>cW dA e
 |cons a w ih=>
  intro j e n
  cases j with
  |zero=>
   cases e
   rw[D5];by_cases z:s<5
   ·rw[if_pos z];exact ht
   ·rw[if_neg z];cases nb.getD s false
    ·exact ht
    ·exact(bW ..).trans (by rw[ht,fG])
  |succ j=>rw[M7 (n a aP),bW,ih j e λx hx=>n x (aL _ hx)];rfl
theorem PH (ht:base.testBit t=true) (w:List Nat):(∀x∈w,5≤x∧nb[x]?=some true)->(bh fs nb base w).testBit t=true:=by
 induction w with
 |nil=>exact λ_=>ht
 |cons a w ih=>intro n;rw[M7 (n a aP),bW,ih λx hx=>n x (aL _ hx)];rfl
end
noncomputable def Cw (fs:List Nat) (nb:List Bool) (ws:List Nat) (l:Nat) (w:List Nat) (k:Nat):Prop:=∀(i A:Nat),k≤i->w[i]?=some A->5≤A->ws.getD A 0|||bh fs nb (ws.getD l 0) (w.drop (i+1))=ws.getD A 0
inductive Rf (G:aJ) (fs:List Nat) (nb:List Bool) (s0 n:Nat) (b:Bool) (ws:List Nat):Prop
 |mk (len:ws.length=8) (lt:∀s∈ws,s<32) (up:s0≤ws.sum) (yes:b=true->s0<ws.sum) (no:b=false->∀r<n,Cw fs nb ws (G.left r) (G.right r) 0)
theorem Rf.more {G fs nb s0 n b ws} (h:Rf G fs nb s0 n b ws) (e:b=false->Cw fs nb ws (G.left n) (G.right n) 0):Rf G fs nb s0 (n+1) b ws:=
 ⟨h.1,h.2,h.3,h.4,λz r hr=>by
  rcases bj.1 hr with k|k
  ·exact h.5 z r k
  ·exact k▸e z⟩
theorem Rf.grow {G fs nb s0 n b ws m k} (h:Rf G fs nb s0 n b ws) (k8:k<8) (m5:m<32) (e:ws.getD k 0|||m≠ws.getD k 0):Rf G fs nb s0 n true (ws.set k (ws.getD k 0|||m)):=by
 have g4:=wY (h.1.symm▸k8) h.3 e
 refine⟨aU.trans h.1,λs hs=>?_,aK g4,λ_=>g4,λz=>ff z.symm⟩
 rcases hJ hs with k|k
 ·exact h.2 s k
 ·rw[k];exact dz (n:=5) (jj h.2) m5
theorem Rf.z {G fs nb s0 n b ws} (h:Rf G fs nb s0 n b ws):Rf G fs nb 0 0 false ws:=⟨h.1,h.2,bw _,ff,λ_ r h=>absurd h (bm r)⟩
theorem Rf.s {G fs nb s0 n b ws} (h:Rf G fs nb s0 n b ws):ws.sum≤248:=aj (D4 ws h.2) (by rw[h.1];decide)
theorem Rf.flw {G fs nb s0 ws} (h:Rf G fs nb s0 5 false ws) (nl:Nl G nb):J9 G fs ws:=
 ⟨h.1,h.2,λr hr i A j s hi h5 hj hn t ht=>by
  rw[←h.5 rfl r hr i A (bw _) hi h5,bW,PG ht _ j hj λx hx=>⟨(hn x hx).1,nl.nul (hn x hx).2⟩,fG],
 λr hr i A hi h5 hn t ht=>by
  rw[←h.5 rfl r hr i A (bw _) hi h5,bW,PH ht _ λx hx=>⟨(hn x hx).1,nl.nul (hn x hx).2⟩,fG]⟩
end
section
variable {G:aJ} {A:GA} {g:Nat} {R:Prop}
theorem PI {m n:Nat} (h:n<m):m-n=m-1-n+1:=by rw[p6,p7 (Nat.sub_pos_of_lt h)]
theorem PJ (m n:Nat):m-(n+1)=m-1-n:=by rw[p6];rfl
theorem rep0 {n:Nat}:List.replicate n (V.int 0)=vn (List.replicate n 0):=(ky (f:=λn:Nat=>V.int n)).symm
theorem J_ {w:List Nat} {n:Nat} {y:V} (h:(vn w).reverse[n]?=some y):∃s:Nat,n<w.length∧w[w.length-1-n]?=some s∧y= .int s:=by
 have z:=(ah.1 h).1
 rw[cT,aX]at z
 rw[List.getElem?_reverse (by rw[aX];exact z),aX]at h
 obtain⟨s,e,q⟩:=DW h;exact⟨s,z,e,q⟩
inductive Fl0 (G:aJ) (A:GA) (g:Nat) (H:Hp) (N Fa:Nat) (fb:List Bool) (fs:List Nat):Prop
 |mk (g:b_ H g G A) (n:H[N]?=some (.list (vN fb))) (nl:Nl G fb) (f:H[Fa]?=some (.list (vn fs))) (fs:G1 G fs)
noncomputable def Lw (g N F W:Nat) (x4 x5 x6 x7:Option V):Lc:=[some (.ref g),some (.ref N),some (.ref F),some (.ref W),x4,x5,x6,x7]
theorem Bf {H H':Hp} {N Fa W n a:Nat} {fb fs ws s0 b x4 x7} {ru:Ru} {Q:Fl->Lc->Hp->Prop} {r:i6} (o:Fl0 G A g H N Fa fb fs) (e:Ext H H') (fW:H[W]?=none) (gW:H'[W]?=some (.list (vn ws)))
  (hn:n<5) (r3:H[a]?=some (B5 n ru)) (r4:G.left n=ru.left) (r5:G.right n=ru.right) (rl:ru.right.length≤3) (rf:Rf G fs fb s0 n b ws)
  (k:∀b' x6 x7 Oa H2,Ext H H2->H2[W]?=some (.list (vn Oa))->Rf G fs fb s0 (n+1) b' Oa->cB r (Lw g N Fa W (some (.bool b')) (some (.ref a)) x6 x7) H2 Q):
  cB (.cons ((((bo 15).at 4).in.at 1).in.at 0) (.cons ((((bo 15).at 4).in.at 1).in.at 1) r))
   (Lw g N Fa W (some (.bool b)) (some (.ref a)) x4 x7) H' Q:=by
 have l8:=iF.jV o.1.13 hn
 have rf0:=rf
 rw[r4]at l8
 refine .set (.idx (.var rfl) (.attr (.var rfl) (e _ _ r3) rfl rfl) (.nat gW (cN (getD_at (d:=0) (rf.1.symm▸l8))))) ?_
 refine .wW (λ_ (s:Bool×List Nat×Nat×Option V)=>Lw g N Fa W (some (.bool s.1)) (some (.ref a)) (some (.int s.2.2.1)) s.2.2.2)
  (λm s H'=>Ext H H'∧H'[W]?=some (.list (vn s.2.1))∧Rf G fs fb s0 n s.1 s.2.1∧s.2.2.1=bh fs fb (ws.getD ru.left 0) (ru.right.drop (ru.right.length-m))∧
   (s.1=false->s.2.1.getD ru.left 0=ws.getD ru.left 0∧Cw fs fb s.2.1 ru.left ru.right (ru.right.length-m))) (b,ws,ws.getD ru.left 0,x7)
  (.MR (.attr (.var rfl) (e _ _ r3) rfl rfl) .tup (by rw[cT,aX];exact kD (aj rl (by decide)))) ⟨e,gW,rf,?_,λ_=>⟨rfl,λi A hi hA=>?_⟩⟩ (λ_=>trivial) ?_ ?_
 ·show _=bh fs fb (ws.getD ru.left 0) (ru.right.drop (ru.right.length-0));rw[Nat.sub_zero,hE];rfl
 ·exact cW (bR hi) hA
 ·intro m y s H1 K hy h cg _
  obtain⟨b1,II,b6,x7⟩:=s
  obtain⟨E,gW,rf,hb,cw⟩:=h
  obtain⟨s,hm,hs,rfl⟩:=J_ hy
  have s8:s<8:=iF.lR o.1.13 (r:=n) (r5▸am hs)
  have e1:ru.right.length-m=ru.right.length-1-m+1:=PI hm
  have e2:ru.right.length-(m+1)=ru.right.length-1-m:=PJ _ _
  have e3:=sw hs
  generalize ru.right.length-1-m=i at hs e1 e2 e3
  simp only[e1]at hb cw
  simp only[e2,e3]at cg
  have fx:JE (.idx (.var 2) (.var 7)) (Lw g N Fa W (some (.bool b1)) (some (.ref a)) (some (.int b6)) (some (.int s))) H1 (.int (fs.getD s 0:Nat)) H1:=
   .idx (.var rfl) (.var rfl) (.nat (E _ _ o.4) (cN (getD_at (d:=0) (o.5.1.symm▸s8))))
  rcases ba s 5 with z|z
  ·refine .then (.ir (.bx (.var rfl) (E _ _ o.1.1) rfl rfl (.av (.var rfl) .bn) (DX (o.1.ext E) z)) (.bool _) rfl) (.set fx (.cont (cg (b1,II,fs.getD s 0,some (.int s)) rfl ⟨E,gW,rf,?_,λt=>⟨(cw t).1,λj A hj hA h5=>?_⟩⟩)))
   ·rw[D5,if_pos z]
   ·rcases iJ hj with rfl|hj
    ·cases hs.symm.trans hA;exact absurd z (bE.2 h5)
    ·exact(cw t).2 j A hj hA h5
  ·refine .pass (.ir (.bx (.var rfl) (E _ _ o.1.1) rfl rfl (.av (.var rfl) .bn) (DY (o.1.ext E) z)) (.bool _) rfl) ?_
   have w8:(vn II)[s]?=some (.int (II.getD s 0:Nat)):=cN (getD_at (rf.1.symm▸s8))
   have b32:b6<32:=hb▸M8 o.5.2 (jj rf0.2) _
   have tail:∀b2 Ka H2,Ext H H2->H2[W]?=some (.list (vn Ka))->Rf G fs fb s0 n b2 Ka->(b2=false->Ka.getD ru.left 0=ws.getD ru.left 0∧Cw fs fb Ka ru.left ru.right i)->
     cB (.cons (.set (.v 6) (.ite (.idx (.var 1) (.var 7)) (.bin .bor (.var 6) (.idx (.var 2) (.var 7))) (.idx (.var 2) (.var 7)))) .nil) (Lw g N Fa W (some (.bool b2)) (some (.ref a)) (some (.int b6)) (some (.int s))) H2 K:=λb2 Ka H2 E gW rf cw=>by
    have T:=JT.ir (H:=H2) (L:=Lw g N Fa W (some (.bool b2)) (some (.ref a)) (some (.int b6)) (some (.int s))) (e:=.idx (.var 1) (.var 7)) (.idx (.var rfl) (.var rfl) (.nat (E _ _ o.2) (iF.kP (getD_at (d:=false) (o.3.1.symm▸s8))))) (.bool _) rfl
    have fx:JE (.idx (.var 2) (.var 7)) (Lw g N Fa W (some (.bool b2)) (some (.ref a)) (some (.int b6)) (some (.int s))) H2 (.int (fs.getD s 0:Nat)) H2:=
     .idx (.var rfl) (.var rfl) (.nat (E _ _ o.4) (cN (getD_at (d:=0) (o.5.1.symm▸s8))))
    rw[D5,if_neg (bE.2 z)]at cg
    cases eb:fb.getD s false
    ·rw[eb]at T cg
     exact .set (.ite T fx) (.nil (cg (b2,Ka,fs.getD s 0,some (.int s)) rfl ⟨E,gW,rf,rfl,cw⟩))
    ·rw[eb]at T cg
     exact .set (.ite T (.bin (.var rfl) fx (.bor _ _ _))) (.nil (cg (b2,Ka,b6|||fs.getD s 0,some (.int s)) rfl ⟨E,gW,rf,by rw[hb];rfl,cw⟩))
   refine .ite (.bY (.bin (.idx (.var rfl) (.var rfl) (.nat gW w8)) (.var rfl) (.bor _ _ _)) (.idx (.var rfl) (.var rfl) (.nat gW w8)) (.ne (.int _ _))) (λt=>?_) λt=>?_
   ·have t:II.getD s 0|||b6≠II.getD s 0:=λe=>by rw[e,beq_self_eq_true]at t;exact ff t
    refine .bq (.bin (.idx (.var rfl) (.var rfl) (.nat gW w8)) (.var rfl) (.bor _ _ _)) (.var rfl) (.var rfl) (.list gW (dP (by rw[aX,rf.1];exact s8))) (.set .lit (.nil (tail true _ _ (E.set fW) ?_ (rf.grow s8 b32 t) λz=>ff z.symm)))
    rw[dh gW,tA]
   ·have t:II.getD s 0|||b6=II.getD s 0:=by
     rw[p5,beq_iff_eq]at t;exact a_.1 t
    refine .nil (tail b1 II H1 E gW rf λu=>⟨(cw u).1,λj A hj hA h5=>?_⟩)
    rcases iJ hj with rfl|hj
    ·cases hs.symm.trans hA;rw[(cw u).1,←show b6=bh fs fb (ws.getD ru.left 0) (ru.right.drop (i+1)) from hb];exact t
    ·exact(cw u).2 j A hj hA h5
 ·intro s H1 h
  rw[cT,aX,eg]at h
  refine k s.1 _ _ s.2.1 H1 h.1 h.2.1 (h.2.2.1.more λt=>?_)
  rw[r4,r5];exact(h.2.2.2.2 t).2
theorem r_ {H:Hp} (hG:b_ H g G A)
  (q:∀a fs ws H',JR 15 [.ref g] H (.ref a) H'->H[a]?=none->H'[a]?=some (.list (vn ws))->Ext H H'->G1 G fs->J9 G fs ws->R):R:=by
 refine c7 15 [.ref g] H rfl rfl (L:=[some (.ref g),none,none,none,none,none,none,none]) rfl λQ q'=>?_
 refine oa hG λN fb H1 j fN gN eN nl=>.set (.call (.av (.var rfl) .bn) j) ?_
 refine tC (hG.ext eN) λFa fs H2 j fF gF eF fst=>.set (.call (.av (.var rfl) .bn) j) ?_
 have e2:=eN.trans eF
 refine D0 (n:=8) (λW H3 j fW gW e3=>.set j (.set .lit ?_)) (λH' e=>.bx (.var rfl) ((e2.trans e) _ _ hG.1) rfl rfl .bn (iz (hG.ext (e2.trans e)))) (by decide)
 have o:Fl0 G A g H2 N Fa fb fs:=⟨hG.ext e2,eF _ _ gN,nl,gF,fst⟩
 rw[rep0]at gW
 refine .pP (fun(s:Bool×List Nat×Option V×Option V×Option V)=>Lw g N Fa W (some (.bool s.1)) s.2.2.1 s.2.2.2.1 s.2.2.2.2) (λs H'=>Ext H2 H'∧H'[W]?=some (.list (vn s.2.1))∧Rf G fs fb 0 0 false s.2.1∧(s.1=false->J9 G fs s.2.1))
  (λs=>2*(248-s.2.1.sum)+s.1.toNat) (true,List.replicate 8 0,none,none,none) ⟨e3,gW,⟨rfl,by decide,bw _,ff,λ_ r h=>absurd h (bm r)⟩,λz=>ff z.symm⟩ ?_
 intro s H' K h cg _
 obtain⟨b,ws,x5,x6,x7⟩:=s
 cases b with
 |false=>exact .no (.ir (.var rfl) (.bool _) rfl) (.ret (.var rfl) (q' λj=>q W fs ws H' j (e2.none fW) h.2.1 (e2.trans h.1) fst (h.2.2.2 rfl)))
 |true=>
  have g1:=h.2.2.1
  refine .yes (.ir (.var rfl) (.bool _) rfl) (.set .lit (.r9 (λ_ (s:Bool×List Nat×Option V×Option V×Option V)=>Lw g N Fa W (some (.bool s.1)) s.2.2.1 s.2.2.2.1 s.2.2.2.2)
   (λn s H'=>Ext H2 H'∧H'[W]?=some (.list (vn s.2.1))∧Rf G fs fb ws.sum n s.1 s.2.1) (false,ws,x5,x6,x7) (iF.n_ o.1 h.1 rfl) ⟨h.1,h.2.1,⟨g1.1,g1.2,aC _,ff,λ_ r h=>absurd h (bm r)⟩⟩ ?_ ?_ ?_))
  ·intro n s H h;exact h.1 _ _ o.1.2
  ·intro n a s H4 K hx h cg _
   have hn:n<5:=hG.len▸(ah.1 hx).1
   refine o.1.at_ hn λa' x r1 r2 r3 r4 r5=>?_
   cases hx.symm.trans r1
   exact Bf o h.1 fW h.2.1 hn r3 r4 r5 (hG.13.3 _ _ r2) h.2.2 λb' x6 x7 Oa H5 e g rf=>.nil (cg (b',Oa,some (.ref a),x6,x7) rfl ⟨e,g,rf⟩)
  ·intro s H4 h
   have rd:=h.2.2
   rw[hG.len]at rd
   refine .nil (cg (_,_,_,_,_) rfl ⟨h.1,h.2.1,rd.z,λe=>?_⟩ (msr rd.s rd.3 rd.4))
   rw[show s.1=false from e]at rd;exact rd.flw nl
end
section
noncomputable def yG (m:Nat) (l:List Nat) (i:Nat):List Nat:=bif (l.getD i 0).testBit m then l.set i (l.getD i 0|||l.getD m 0)else l
noncomputable def G3 (l:List Nat) (m:Nat):List Nat:=(List.range 8).foldl (yG m) l
noncomputable def tr (l:List Nat):List Nat:=(List.range 8).foldl G3 l
theorem G4 {m l i}:(yG m l i).length=l.length:=by
 unfold yG;cases(l.getD i 0).testBit m
 ·rfl
 ·exact aU
theorem d5 {α} (f:α->Nat->α) (x:α) (n:Nat):(List.range (n+1)).foldl f x=f ((List.range n).foldl f x) n:=by
 rw[bG,List.foldl_append];rfl
theorem qr {m l} (n:Nat):((List.range n).foldl (yG m) l).length=l.length:=by
 induction n with
 |zero=>rfl
 |succ n ih=>rw[d5,G4,ih]
theorem oO {l} (n:Nat):((List.range n).foldl G3 l).length=l.length:=by
 induction n with
 |zero=>rfl
 |succ n ih=>rw[d5,G3,qr,ih]
theorem G5 (m:Nat):(((m&&& 1:Nat):Int)==1)=m.testBit 0:=by
 rw[Nat.testBit_zero,Nat.and_one_is_mod]
 rcases Nat.mod_two_eq_zero_or_one m with h|h<;>rw[h]<;>rfl
variable {H:Hp} {R:Prop}
theorem uo {a:Nat} {rs:List Nat} (h:H[a]?=some (.list (vn rs))) (l8:rs.length=8) (q:∀b H',JR 4 [.ref a] H (.ref b) H'->H[b]?=none->H'[b]?=some (.list (vn (tr rs)))->Ext H H'->R):R:=by
 refine c7 4 [.ref a] H rfl rfl (L:=[some (.ref a),none,none,none]) rfl λQ q'=>?_
 refine qo (.var rfl) h (by rw[aX,l8];decide) λb H1 j fb gb eb=>.set j ?_
 refine .tx 8 (λ_ (s:Option V×Option V)=>[some (.ref a),some (.ref b),s.1,s.2]) (λn s H'=>Ext H H'∧H'[b]?=some (.list (vn ((List.range n).foldl G3 rs)))) (none,none) ?_ (by decide) ⟨eb,gb⟩ ?_ ?_
 ·have:=JE.len (L:=[some (.ref a),some (.ref b),none,none]) (a:=.var 1) (.var rfl) (.list gb (by rw[aX,l8];decide))
  rw[aX,l8]at this;exact this
 ·intro n s H2 K hn h cg _
  refine .tx 8 (λ_ (s:Option V)=>[some (.ref a),some (.ref b),some (.int n),s]) (λm s H'=>Ext H H'∧H'[b]?=some (.list (vn ((List.range m).foldl (yG n) ((List.range n).foldl G3 rs))))) s.2 ?_ (by decide) h ?_ ?_
  ·have:=JE.len (L:=[some (.ref a),some (.ref b),some (.int n),s.2]) (a:=.var 1) (.var rfl) (.list h.2 (by rw[aX,oO,l8];decide))
   rw[aX,oO,l8]at this;exact this
  ·intro m s H3 K hm h cg _
   rw[d5]at cg
   have ll:((List.range m).foldl (yG n) ((List.range n).foldl G3 rs)).length=8:=by rw[qr,oO,l8]
   generalize (List.range m).foldl (yG n) ((List.range n).foldl G3 rs)=l at h cg ll
   have gm:=cN (getD_at (d:=0) (ll.symm▸hm:m<l.length))
   have gn:=cN (getD_at (d:=0) (ll.symm▸hn:n<l.length))
   have T:=JT.bY (H:=H3) (L:=[some (.ref a),some (.ref b),some (.int n),some (.int m)]) (.bin (.bin (.idx (.var (i:=1) rfl) (.var (i:=3) rfl) (.nat h.2 gm)) (.var (i:=2) rfl) (.shr _ _ _)) .lit (.band _ 1 _)) .lit (.eq (.int _ 1))
   rw[G5,mN,qK]at T
   cases e:(l.getD m 0).testBit n
   ·rw[e]at T;rw[yG,e]at cg
    exact .pass T (.nil (cg _ rfl h))
   ·rw[e]at T;rw[yG,e]at cg
    refine .then T (.bq (.bin (.idx (.var rfl) (.var rfl) (.nat h.2 gm)) (.idx (.var rfl) (.var rfl) (.nat h.2 gn)) (.bor _ _ _)) (.var rfl) (.var rfl) (.list h.2 (dP (by rw[aX,ll];exact hm))) (.nil (.nil (cg _ rfl ⟨h.1.set fb,?_⟩))))
    rw[dh h.2,tA];rfl
  ·intro s H3 h
   refine .nil (cg (_,s) rfl ?_)
   rw[d5];exact h
 ·intro s H2 h
  exact .ret (.var rfl) (q' λj=>q b H2 j fb h.2 h.1)
end
section
noncomputable def jK (l:List Nat):List Nat:=l.mergeSort λa b=>decide (a≤b)
theorem Kc (l:List Nat):de (FJ (l.map Int.ofNat))=vn (jK l):=by
 rw[iE,jK,List.map_mergeSort (s:=λa b=>decide (a≤b))]
 ·rfl
 ·intro a _ b _;exact decide_eq_decide.2 dM.symm
theorem dI {l:List Nat} {x:Nat}:x∈jK l↔x∈l:=List.mem_mergeSort
theorem d8 (l:List Nat):(jK l).length=l.length:=nj l
theorem yH (l:List Nat):(jK l).Pairwise (· ≤ ·):=
 (lW (le:=λa b:Nat=>decide (a≤b)) (λ_ _ _ h k=>decide_eq_true (aj (of_decide_eq_true h) (of_decide_eq_true k))) (λa b=>cD.2 ((Nat.le_total a b).imp decide_eq_true decide_eq_true)) l).imp of_decide_eq_true
theorem eP {l:List Nat} (h:l.Nodup):(jK l).Nodup:=(ph l _).nodup_iff.2 h
theorem Kd {l:List Nat} (h:l.Nodup):(jK l).Pairwise (· < ·):=
 ((yH l).and (eP h)).imp λq=>iI q.1 q.2
namespace aJ
variable(G:aJ)
noncomputable def af (i:Nat):Option Nat:=(G.right (G.rl i))[G.dt i]?
theorem tD {G:aJ} {i s:Nat} (h:G.af i=some s):G.GQ i=s:=by unfold GQ;rw[show(G.right (G.rl i))[G.dt i]?=some s from h]
theorem tE {G:aJ} {i:Nat} (h:G.af i=none):G.GQ i= -1:=by unfold GQ;rw[show(G.right (G.rl i))[G.dt i]?=none from h]
noncomputable def Fx (l:List Nat) (r:Nat):List Nat:=match G.right r with
 |[]=>l
 |s::_=>l.set (G.left r) (l.getD (G.left r) 0|||1<<<s)
noncomputable def wZ (n:Nat):List Nat:=(List.range n).foldl G.Fx (List.replicate 8 0)
noncomputable def B7:List Nat:=tr (G.wZ 5)
noncomputable def G6 (m i:Nat):Nat:=match G.af i with
 |none=>m
 |some s=>m|||1<<<s|||G.B7.getD s 0
noncomputable def wn (ker:List Nat):Nat:=ker.foldl G.G6 0
noncomputable def w_ (ker:List Nat) (s:Nat):List Nat:=((G.gj s).map G.off).filter λi=>!ker.contains i
noncomputable def adds (ker:List Nat):List Nat:=(dx (G.wn ker)).flatMap (G.w_ ker)
noncomputable def cls (ker:List Nat):List Nat:=jK ker++jK (G.adds ker)
noncomputable def red (its:List Nat):List Nat:=jK ((its.filter λi=>(G.af i).isNone&&(G.rl i !=0)).map G.rl)
noncomputable def sf (l:List Nat) (i:Nat):List Nat:=match G.af i with
 |none=>l
 |some s=>if s∈l then l else l++[s]
noncomputable def syms (its:List Nat):List Nat:=its.foldl G.sf []
noncomputable def hO (its:List Nat) (s:Nat):List Nat:=(its.filter λi=>G.af i==some s).map (· +1)
noncomputable def Ke (its:List Nat):List (Nat×List Nat):=(jK (G.syms its)).map λs=>(s,jK (G.hO its s))
end aJ
variable {G:aJ} {A:GA} {g:Nat} {R:Prop} {H:Hp}
theorem tF {r:Nat} (hG:b_ H g G A) {s:Nat} {w:List Nat} (e:G.right r=s::w):s<8:=iF.lR hG.13 (r:=r) (e▸aP ..)
theorem xb {l r} (e:G.right r=[]):G.Fx l r=l:=by unfold aJ.Fx;rw[e]
theorem xc {l r s w} (e:G.right r=s::w):G.Fx l r=l.set (G.left r) (l.getD (G.left r) 0|||1<<<s):=by unfold aJ.Fx;rw[e]
theorem G7 {l r}:(G.Fx l r).length=l.length:=by
 cases e:G.right r with
 |nil=>rw[xb e]
 |cons=>rw[xc e];exact aU
theorem mH (n:Nat):(G.wZ n).length=8:=by
 induction n with
 |zero=>rfl
 |succ n ih=>rw[aJ.wZ,d5,G7];exact ih
inductive Bg (H:Hp) (c g:Nat) (G:aJ) (T:Nat):Prop
 |mk (inst:H[c]?=some (.inst 3 [(12,.ref g),(38,.ref T)])) (t:H[T]?=some (.list (vn G.B7)))
theorem tG {H':Hp} {c:Nat} (hG:b_ H g G A) (fc:H[c]?=none) (e:Ext H H') (hc:H'[c]?=some (.inst 3 []))
  (q:∀T H2,JR 42 [.ref c,.ref g] H' .none H2->Ext H H2->Bg H2 c g G T->R):R:=by
 refine c7 42 [.ref c,.ref g] H' rfl rfl (L:=[some (.ref c),some (.ref g),none,none]) rfl λQ q'=>?_
 refine .setattr (.var rfl) (.var rfl) hc rfl rfl ?_
 have e1:Ext H (H'.set c (.inst 3 (dj 12 (.ref g) []))):=e.set fc
 have Ob:(H'.set c (.inst 3 (dj 12 (.ref g) [])))[c]?=some (.inst 3 [(12,.ref g)]):=dh hc
 generalize H'.set c (.inst 3 (dj 12 (.ref g) []))=H1 at e1 Ob
 refine D0 (n:=8) (λW H3 j fW gW e3=>.set j ?_) (λH' e=>.bx (.var rfl) ((e1.trans e) _ _ hG.1) rfl rfl .bn (iz (hG.ext (e1.trans e)))) (by decide)
 rw[rep0]at gW
 refine .r9 (λ_ (s:Option V)=>[some (.ref c),some (.ref g),some (.ref W),s]) (λn s H'=>Ext H1 H'∧H'[W]?=some (.list (vn (G.wZ n)))) none (iF.n_ hG (e1.trans e3) rfl) ⟨e3,gW⟩ (λh=>(e1.trans h.1) _ _ hG.2) ?_ ?_
 ·intro n a s H4 K hx h cg _
  have hn:n<5:=hG.len▸(ah.1 hx).1
  refine hG.at_ hn λa' x r1 r2 r3 r4 r5=>?_
  cases hx.symm.trans r1
  have hr:=(e1.trans h.1) _ _ r3
  have l8:=iF.jV hG.13 hn
  have E:G.wZ (n+1)=G.Fx (G.wZ n) n:=d5 _ _ _
  have ll:=mH (G:=G) n
  have T:=JT.bY (H:=H4) (L:=[some (.ref c),some (.ref g),some (.ref W),some (.ref a)]) (a:=.len (.attr (.var 3) 6)) (.len (.attr (.var rfl) hr rfl rfl) (.tup (kD (by rw[aX];exact aj (hG.13.3 _ _ r2) (by decide))))) .lit (.gt _ 0)
  rw[aX,←r5]at T
  cases ew:G.right n with
  |nil=>
   rw[ew]at T;rw[xb ew]at E
   exact .pass T (.nil (cg _ rfl ⟨h.1,E▸h.2⟩))
  |cons y w=>
   rw[ew,decide_eq_true (show(0:Int)<(((y::w).length:Nat):Int) from fO.2 (gV _))]at T;rw[xc ew]at E
   have s8:=tF hG ew
   refine .then T ?_
   have gl:=cN (getD_at (d:=0) (ll.symm▸l8:G.left n<(G.wZ n).length))
   rw[r4]at gl
   have r6:(vn x.right)[0]?=some (.int y):=by rw[←r5,ew];rfl
   refine .bq (.bin (.idx (.var rfl) (.attr (.var rfl) hr rfl rfl) (.nat h.2 gl)) (.bin .lit (.idx (.attr (.var rfl) hr rfl rfl) .lit (.tup (kD (by rw[aX];exact aj (hG.13.3 _ _ r2) (by decide))) (dP (k:=0) (ah.1 r6).1) r6)) (.shl 1 y _ (by decide) (bK s8 (by decide)))) (.bor _ _ _)) (.var rfl) (.attr (.var rfl) hr rfl rfl) (.list h.2 (dP (by rw[aX,ll,←r4];exact l8)))
    (.nil (.nil (cg _ rfl ⟨h.1.set fW,?_⟩)))
   rw[dh h.2,tA,E,r4]
 ·intro s H4 h
  rw[hG.len]at h
  refine uo h.2 (mH 5) λT H5 j fT gT eT=>.setattr (.call (.av (.var rfl) .bn) j) (.var rfl) ((h.1.trans eT) _ _ Ob) rfl rfl (.nil (q' λj=>q T _ j ?_ ⟨dh ((h.1.trans eT) _ _ Ob),eJ gT ?_⟩))
  ·exact((e1.trans h.1).trans eT).set fc
  ·exact rM gT ((h.1.trans eT) _ _ Ob) λz=>O.noConfusion z
end
section
theorem iG {α β} (f:β->α->β) (a:β) {l:List α} {n:Nat} {x:α} (h:l[n]?=some x):(l.take (n+1)).foldl f a=f ((l.take n).foldl f a) x:=by
 rw[aW,h,List.foldl_append];rfl
theorem Bh {α β} (f:α->List β) {l:List α} {n:Nat} {x:α} (h:l[n]?=some x):(l.take (n+1)).flatMap f=(l.take n).flatMap f++f x:=by
 rw[aW,h,cH];exact congrArg (_++ ·) (aN (f x))
theorem kU {α} (p:α->Bool) {l:List α} {n:Nat} {x:α} (h:l[n]?=some x):(l.take (n+1)).filter p=bif p x then(l.take n).filter p++[x]else(l.take n).filter p:=by
 rw[aW,h,cP]
 cases e:p x
 ·exact(congrArg (_++ ·) (dq λz=>ff (e.symm.trans z))).trans (aN _)
 ·exact congrArg (_++ ·) (cY e)
theorem qs (l:List Nat) (i:Nat):(l.map Int.ofNat).contains (i:Int)=l.contains i:=by
 rw[mV,cV,cV,az]
 exact⟨λq=>q.elim λj q=>Int.ofNat.inj q.2▸q.1,λh=>⟨i,h,rfl⟩⟩
theorem M9 {H:Hp} {i:Nat} {l:List Nat}:zJ H (.int i) (.tup (vn l)) (l.contains i):=by
 rw[←qs,iE];exact .tup
theorem D6 {H:Hp} {l:List Nat}:jH H (.tup (vn l)) (l.map Int.ofNat):=by rw[iE];exact .tup
theorem ints_list {H:Hp} {a:Nat} {l:List Nat} (h:H[a]?=some (.list (vn l))):jH H (.ref a) (l.map Int.ofNat):=by rw[iE]at h;exact .list h
theorem pR {L:Lc} {H H1:Hp} {e:CE} {v:V} {l:List Nat} {R:Prop} (x:JE e L H v H1) (o:jH H1 v (l.map Int.ofNat)) (z:l.length<64)
  (k:∀a H2,JE (.sorted e) L H (.ref a) H2->H1[a]?=none->H2[a]?=some (.list (vn (jK l)))->Ext H1 H2->R):R:=
 GM x o (by rw[ae];exact z) λa H2 j f g e=>k a H2 j f (by rw[g,Kc]) e
theorem Ag {a b:Nat} (h:a<256) (k:b<256):a|||b<256:=dz (n:=8) h k
theorem D7 {l:List Nat} {i v b:Nat} (z:i<l.length) (h:∀k,l.getD k 0<b) (hv:v<b) (k:Nat):(l.set i v).getD k 0<b:=by
 rw[qq z];by_cases e:k=i
 ·rw[if_pos e];exact hv
 ·rw[if_neg e];exact h k
theorem M_ {l:List Nat} (h:∀k,l.getD k 0<256) (l8:l.length=8):∀k,(tr l).getD k 0<256:=by
 have A:∀m l i,l.length=8->(∀k,l.getD k 0<256)->i<8->∀k,(yG m l i).getD k 0<256:=λm l i e h z k=>by
  unfold yG;cases(l.getD i 0).testBit m
  ·exact h k
  ·exact D7 (e.symm▸z) h (Ag (h _) (h _)) k
 have B:∀m l n,l.length=8->(∀k,l.getD k 0<256)->n≤8->∀k,((List.range n).foldl (yG m) l).getD k 0<256:=λm l n e h=>by
  induction n with
  |zero=>exact λ_=>h
  |succ n ih=>intro z;rw[d5];exact A _ _ _ (by rw[qr,e]) (ih (cv z)) z
 have C:∀n,∀k,((List.range n).foldl G3 l).getD k 0<256:=λn=>by
  induction n with
  |zero=>exact h
  |succ n ih=>rw[d5];exact B _ _ 8 (by rw[oO,l8]) ih (aC _)
 exact C 8
variable {G:aJ} {A:GA} {g c T:Nat} {R:Prop} {H:Hp}
theorem D8 {s:Nat} (h:s<8):1<<<s<256:=by rw[f_];exact oI (a:=2) (by decide) h
theorem Kf (hG:b_ H g G A) (n:Nat):n≤5->∀k,(G.wZ n).getD k 0<256:=by
 induction n with
 |zero=>
  intro _ k
  rw[aE,aJ.wZ]
  show((List.replicate 8 0)[k]?).getD 0<256
  rw[cZ];by_cases z:k<8
  ·rw[if_pos z];decide
  ·rw[if_neg z];decide
 |succ n ih=>
  intro z k
  have ih:=ih (cv z)
  rw[aJ.wZ,d5]
  cases e:G.right n with
  |nil=>rw[xb e];exact ih k
  |cons s w=>rw[xc e];exact D7 (mH (G:=G) n▸iF.jV hG.13 z) ih (Ag (ih _) (D8 (tF hG e))) k
theorem Kg (hG:b_ H g G A):∀k,G.B7.getD k 0<256:=M_ (Kf hG 5 (aC _)) (mH 5)
theorem Ah:G.B7.length=8:=by rw[aJ.B7,tr,oO,mH]
theorem xd (hG:b_ H g G A) {i s:Nat} (h:G.af i=some s):s<8:=iF.lR hG.13 (r:=G.rl i) (am h)
theorem D9 {m i} (e:G.af i=none):G.G6 m i=m:=by unfold aJ.G6;rw[e]
theorem D_ {m i s} (e:G.af i=some s):G.G6 m i=m|||1<<<s|||G.B7.getD s 0:=by unfold aJ.G6;rw[e]
theorem xf (hG:b_ H g G A) (ker:List Nat):G.wn ker<256:=by
 have:∀(l:List Nat) m,m<256->l.foldl G.G6 m<256:=λl=>by
  induction l with
  |nil=>exact λm h=>h
  |cons i l ih=>
   intro m h
   refine ih _ ?_
   cases e:G.af i with
   |none=>rw[D9 e];exact h
   |some s=>rw[D_ e];exact Ag (Ag h (D8 (xd hG e))) (Kg hG _)
 exact this ker 0 (by decide)
theorem Bj {ker:List Nat} (hG:b_ H g G A) (hC:Bg H c g G T) (hk:∀i∈ker,i<G.own.length) (kl:ker.length≤20):JR 32 [.ref c,.tup (vn ker)] H (.int (G.wn ker)) H:=by
 refine c7 32 [.ref c,.tup (vn ker)] H rfl rfl (L:=[some (.ref c),some (.tup (vn ker)),none,none,none]) rfl λQ q=>.set .lit ?_
 refine .jW (λ_ (s:Nat×Option V×Option V)=>[some (.ref c),some (.tup (vn ker)),some (.int s.1),s.2.1,s.2.2]) (λn s H'=>H'=H∧s.1=(ker.take n).foldl G.G6 0) (0,none,none)
  (.pF (.var rfl) .tup (kD (by rw[aX];exact aj kl (by decide)))) ⟨rfl,rfl⟩ (λ_=>trivial) ?_ ?_
 ·intro n i s H1 K hi h cg _
  obtain⟨rfl,h⟩:=h
  dsimp only at cg;rw[iG _ _ hi,←h]at cg
  refine .set (.bx (.attr (.var rfl) hC.1 rfl rfl) hG.1 rfl rfl (.av (.var rfl) .bn) (tw hG (hk i (am hi)))) ?_
  cases e:G.af i with
  |none=>
   rw[aJ.tE e];rw[D9 e]at cg
   exact .pass (.bY (.var rfl) .lit (.ge _ 0)) (.nil (cg (s.1,some (.int i),some (.int (-1))) rfl ⟨rfl,rfl⟩))
  |some y=>
   rw[aJ.tD e];rw[D_ e]at cg
   have s8:=xd hG e
   have T:=JT.bY (H:=H1) (L:=[some (.ref c),some (.tup (vn ker)),some (.int s.1),some (.int i),some (.int y)]) (.var (i:=4) rfl) .lit (.ge (y:Int) 0)
   rw[decide_eq_true (aS y)]at T
   exact .then T (.set (.bin (.bin (.var rfl) (.bin .lit (.var rfl) (.shl 1 y _ (by decide) (bK s8 (by decide)))) (.bor _ _ _)) (.idx (.attr (.var rfl) hC.1 rfl rfl) (.var rfl) (.nat hC.2 (cN (getD_at (d:=0) (Ah.symm▸s8))))) (.bor _ _ _)) (.nil (.nil (cg (_,_,_) rfl ⟨rfl,rfl⟩))))
 ·intro s H1 h
  obtain⟨rfl,h⟩:=h
  rw[aR]at h
  refine .ret (.var rfl) (q λj=>?_)
  rw[h]at j;exact j
end
section
noncomputable def eE (S:List Nat) (H H':Hp):Prop:=∀(a:Nat) (o:O),a∉S->H[a]?=some o->H'[a]?=some o
section
variable {S:List Nat} {H0 H H1 H2:Hp} {a b F:Nat} {o p:O}
theorem eE.r:eE S H H:=λ_ _ _ h=>h
theorem eE.trans (x:eE S H H1) (y:eE S H1 H2):eE S H H2:=λ_ _ n h=>y _ _ n (x _ _ n h)
theorem eE.of (e:Ext H H1):eE S H H1:=λ_ _ _ h=>e _ _ h
theorem eE.set (x:eE S H H1) (m:a∈S):eE S H (H1.set a o):=λb p n h=>eJ (x b p n h) λe=>n (e▸m)
theorem eE.ext (x:eE S H H1) (e:Ext H0 H) (f:∀a∈S,H0[a]?=none):Ext H0 H1:=λb p h=>x b p (λm=>cW (f b m) h) (e b p h)
theorem eE.new (x:eE [F] H H1) (f:H0[F]?=none) (e:Ext H0 H):Ext H0 H1:=x.ext e λa m=>ak.1 m▸f
theorem yI (f:H[F]?=none) (h:H[a]?=some o):a∉[F]:=λm=>e_ f h (ak.1 m)
theorem vO {a b:Nat} (h:a≠b):a∉[b]:=λm=>h (ak.1 m)
theorem tH {x y:Nat} (h:b≠x) (k:b≠y):b∉[x,y]:=λm=>(aI.1 m).elim h λm=>k (ak.1 m)
theorem Oc {P:Nat->Prop} {x y:Nat} (h:P x) (k:P y):∀b∈[x,y],P b:=λb m=>(aI.1 m).elim (λe=>e▸h) λm=>ak.1 m▸k
theorem Bk (f:H[a]?=none) (h:H[F]?=some o):a∉[F]:=λm=>e_ f h (ak.1 m).symm
end
variable {G:aJ} {A:GA} {g c T:Nat} {R:Prop} {H:Hp}
theorem vP {m:Nat} (h:m<256) {i:Nat} (hi:i∈dx m):i<8:=
 md λk=>absurd (aA (dZ (eK.1 hi)) h) (bE.2 (jw (n:=2) (by decide) k))
theorem tI {m:Nat} (h:m<256):(dx m).length≤8:=
 aT (n:=8)▸br (eV.filter _) λi hi=>bp.2 (vP h hi)
theorem qt {α β} {f:α->List β} {k:Nat} (l:List α) (h:∀x∈l,(f x).length≤k):(l.flatMap f).length≤k*l.length:=by
 induction l with
 |nil=>exact bw _
 |cons a l ih=>rw[cx,aq,dO];exact c8 (ih λx m=>h x (aL _ m)) (h a aP)
theorem xh (hG:b_ H g G A) (ker:List Nat) (s:Nat):(G.w_ ker s).length≤5:=
 aj (a7 _ _) (by rw[ae];exact kj hG s)
theorem tJ (hG:b_ H g G A) (ker:List Nat):(G.adds ker).length≤40:=
 aj (qt _ λs _=>xh hG ker s) (bH 5 (tI (xf hG ker)))
theorem Bl {r s:Nat} (hG:b_ H g G A) (h:r∈G.gj s):r<5:=hG.13.1▸bp.1 (bz.1 h).1
theorem Ea {ker:List Nat} (hG:b_ H g G A) (hC:Bg H c g G T) (hk:∀i∈ker,i<G.own.length) (kl:ker.length≤20)
  (q:∀a H',JR 35 [.ref c,.tup (vn ker)] H (.ref a) H'->H[a]?=none->H'[a]?=some (.list (vn (jK (G.adds ker))))->Ext H H'->R):R:=by
 refine c7 35 [.ref c,.tup (vn ker)] H rfl rfl (L:=[some (.ref c),some (.tup (vn ker)),none,none,none,none]) rfl λQ q'=>?_
 refine hN λF H1 j fF gF eF=>.set j ?_
 refine vK (H:=H1) (m:=G.wn ker) (bK (xf hG ker) (by decide)) λB H2 j fB gB eB=>?_
 have e2:=eF.trans eB
 have z40:=tJ hG ker
 have nB:B∉[F]:=Bk fB gF
 refine .jW (λ_ (s:Option V×Option V×Option V)=>[some (.ref c),some (.tup (vn ker)),some (.ref F),s.1,s.2.1,s.2.2]) (λn s H'=>eE [F] H2 H'∧H'[F]?=some (.list (vn (((dx (G.wn ker)).take n).flatMap (G.w_ ker))))) (none,none,none)
  (.dT (.call (.av (.bx (.var rfl) (eF _ _ hC.1) rfl rfl (.av (.var rfl) .bn) (Bj (hG.ext eF) ⟨eF _ _ hC.1,eF _ _ hC.2⟩ hk kl)) .bn) j) gB (by rw[aX];exact aj (tI (xf hG ker)) (by decide)))
  ⟨.r,eB _ _ gF⟩ (λh=>h.1 _ _ nB gB) ?_ ?_
 ·intro n y s H3 K hy h cg _
  have E3:=h.1.new fF e2
  have y8:=vP (xf hG ker) (am hy)
  dsimp only at cg;rw[Bh _ hy]at cg
  have bl:=qt ((dx (G.wn ker)).take n) λs _=>xh hG ker s
  have bl:(((dx (G.wn ker)).take n).flatMap (G.w_ ker)).length≤40:=aj bl (show 5*_≤5*8 from bH 5 (aj (bJ n _) (tI (xf hG ker))))
  generalize ((dx (G.wn ker)).take n).flatMap (G.w_ ker)=base at h cg bl
  refine rN (hG.ext E3) y8 λC H4 j fC gC eC=>?_
  refine .jW (λ_ (s:Option V×Option V)=>[some (.ref c),some (.tup (vn ker)),some (.ref F),some (.int y),s.1,s.2]) (λm s H'=>eE [F] H4 H'∧H'[F]?=some (.list (vn (base++(((G.gj y).take m).map G.off).filter λi=>!ker.contains i)))) (s.2.1,s.2.2)
   (.dT (.bx (.attr (.var rfl) (E3 _ _ hC.1) rfl rfl) (E3 _ _ hG.1) rfl rfl (.av (.var rfl) .bn) j) gC (by rw[aX];exact aj (kj hG y) (by decide)))
   ⟨.r,by rw[List.take_zero,hB,d6,aN];exact eC _ _ h.2⟩ (λh2=>h2.1 _ _ (Bk fC h.2) gC) ?_ ?_
  ·intro m r s H5 K hr h2 cg _
   have r5:=Bl hG (am hr)
   have E5:=h2.1.new fF (E3.trans eC)
   refine .set (.bx (.attr (.var rfl) (E5 _ _ hC.1) rfl rfl) (E5 _ _ hG.1) rfl rfl (.av (.var rfl) (.av .lit .bn)) (vM (hG.ext E5) (r:=r) (d:=0) r5)) ?_
   have X:=JT.bY (H:=H5) (L:=[some (.ref c),some (.tup (vn ker)),some (.ref F),some (.int y),some (.int r),some (.int (G.off r))]) (.var (i:=5) rfl) (.var (i:=1) rfl) (.jG M9)
   have hm:((G.gj y).map G.off)[m]?=some (G.off r):=by rw[aH,hr];rfl
   dsimp only at cg;rw[iu,kU _ hm]at cg
   rw[iu]at h2
   cases e:ker.contains (G.off r)
   ·rw[e]at X cg
    refine .then X (.expr (.append (.var rfl) (.var rfl) ⟨_,h2.2⟩ h2.2 (ri ?_)) (.nil (.nil (cg (_,_) rfl ⟨h2.1.set (ak.2 rfl),?_⟩))))
    ·rw[aX,aq]
     exact aj (c8 bl (aj (a7 ..) (aj (bJ ..) (aj (aF (ae _)) (kj hG y))))) (by decide)
    ·rw[dh h2.2,vH,bN];rfl
   ·rw[e]at X cg
    exact .pass X (.nil (cg (some (.int r),some (.int (G.off r))) rfl h2))
  ·intro s H5 h2
   rw[aR]at h2
   exact .nil (cg (_,_,_) rfl ⟨h.1.trans ((eE.of eC).trans h2.1),h2.2⟩)
 ·intro s H3 h
  rw[aR]at h
  have E3:=h.1.new fF e2
  exact pR (.var rfl) (ints_list h.2) (aA z40 (by decide)) λa H4 j f g e=>.ret j (q' λj=>q a H4 j (E3.none f) g (E3.trans e))
theorem Eb {ker:List Nat} (hG:b_ H g G A) (hC:Bg H c g G T) (hk:∀i∈ker,i<G.own.length) (kl:ker.length≤20)
  (q:∀a H',JR 36 [.ref c,.tup (vn ker)] H (.ref a) H'->H[a]?=none->H'[a]?=some (.list (vn (G.cls ker)))->Ext H H'->R):R:=by
 refine c7 36 [.ref c,.tup (vn ker)] H rfl rfl (L:=[some (.ref c),some (.tup (vn ker))]) rfl λQ q'=>?_
 refine pR (H:=H) (L:=[some (.ref c),some (.tup (vn ker))]) (.var (i:=1) rfl) D6 (aA kl (by decide)) λa H1 j f1 g1 e1=>?_
 refine Ea (hG.ext e1) ⟨e1 _ _ hC.1,e1 _ _ hC.2⟩ hk kl λb H2 j2 f2 g2 e2=>?_
 refine MX j (.bx (.var rfl) (e1 _ _ hC.1) rfl rfl (.av (.var rfl) .bn) j2) (e2 _ _ g1) g2 (kD ?_) λd H3 j3 f3 g3 e3=>.ret j3 (q' λj=>q d H3 j ((e1.trans e2).none f3) ?_ ((e1.trans e2).trans e3))
 ·rw[aX,aX,d8,d8];exact aj (c8 kl (tJ hG ker)) (by decide)
 ·rw[g3,aJ.cls,pQ]
end
section
noncomputable def nd {α:Type} (f:α->V) (ks:List (Nat×α)):List (Int×V):=ks.map λp=>((p.1:Int),f p.2)
section
variable {α:Type} {f:α->V} {ks:List (Nat×α)} {y:Nat} {b:α}
theorem tK {κ:Type} [DecidableEq κ] {k:κ} {p:κ×V} {d:List (κ×V)}:d7 k (p::d)=bif decide (p.1=k)then some p.2 else d7 k d:=by
 unfold d7;rw[List.find?_cons];cases decide (p.1=k)<;>rfl
section
variable {κ:Type} [DecidableEq κ] {k:κ} {d:List (κ×V)} {v:V}
theorem vQ (h:∀p∈d,p.1≠k):d7 k d=none:=congrArg (Option.map λp:κ×V=>p.2) (dS.2 λp m z=>h p m (of_decide_eq_true z))
theorem sx (h:∀p∈d,p.1≠k):dput k v d=d++[(k,v)]:=if_neg λz=>(jb.1 z).elim λx q=>h x q.1 (of_decide_eq_true q.2)
end
theorem kW (h:(y,b)∈ks) (n:(ks.map (·.1)).Nodup):d7 (y:Int) (nd f ks)=some (f b):=by
 induction ks with
 |nil=>exact absurd h aQ
 |cons p l ih=>
  have n:=c_.1 n
  refine tK.trans ?_
  rcases aI.1 h with e|e
  ·rw[←e,decide_eq_true rfl];rfl
  ·rw[decide_eq_false λk=>n.1 (az.2 ⟨_,e,(a_.1 k).symm⟩)];exact ih e n.2
theorem IJ (h:y∉ks.map (·.1)) (x:Int×V) (m:x∈nd f ks):x.1≠y:=λz=>
 (az.1 m).elim λp q=>h (az.2 ⟨p,q.1,a_.1 ((congrArg (·.1) q.2).trans z)⟩)
theorem jX (h:y∉ks.map (·.1)):d7 (y:Int) (nd f ks)=none:=vQ (IJ h)
theorem oP (h:y∉ks.map (·.1)) (b:α):dput (y:Int) (f b) (nd f ks)=nd f (ks++[(y,b)]):=by
 rw[sx (IJ h),nd,nd,ay];rfl
theorem lw:(nd f ks).length=ks.length:=ae _
theorem oQ:(nd f ks).map (·.1)=(ks.map (·.1)).map Int.ofNat:=by rw[nd,bF,bF];rfl
theorem i_ (h:y∈ks.map (·.1)) (n:(ks.map (·.1)).Nodup):∃b,(y,b)∈ks∧d7 (y:Int) (nd f ks)=some (f b):=
 (az.1 h).elim λp q=>⟨p.2,q.2▸q.1,kW (q.2▸q.1) n⟩
end
variable {G:aJ} {A:GA} {g:Nat} {R:Prop} {H:Hp}
theorem Kh {i:Nat} (h:i<G.own.length):G.off (G.rl i)+(G.dt i+1)=i+1:=by
 rw[←dv,aJ.dt,cU (G.i9 h).2.2.1]
theorem xo {i:Nat} (hG:b_ H g G A) (z:i<G.own.length):JR 2 [.ref g,.int i] H (.int (i+1:Nat)) H:=by
 rw[←Kh z]
 exact c7 2 [.ref g,.int i] H rfl rfl (L:=[some (.ref g),some (.int i)]) rfl λQ q=>.ret (.bx (.var rfl) hG.1 rfl rfl (.av (.bx (.var rfl) hG.1 rfl rfl (.av (.var rfl) .bn) (tv hG z))
  (.av (.bin (.bx (.var rfl) hG.1 rfl rfl (.av (.var rfl) .bn) (Bc hG z)) .lit (.add _ _ _)) .bn)) (vM hG (d:=G.dt i+1) (hG.13.1▸(G.i9 z).2.1))) (q id)
theorem xp {I:Nat} {its:List Nat} (hG:b_ H g G A) (hI:H[I]?=some (.list (vn its))) (hk:∀i∈its,i<G.own.length) (kl:its.length<64)
  (q:∀a H',JR 1 [.ref g,.ref I] H (.ref a) H'->H[a]?=none->H'[a]?=some (.list (vn (G.red its)))->Ext H H'->R):R:=by
 refine c7 1 [.ref g,.ref I] H rfl rfl (L:=[some (.ref g),some (.ref I),none,none]) rfl λQ q'=>?_
 refine hN λF H1 j fF gF eF=>.set j ?_
 refine .jW (λ_ s=>[some (.ref g),some (.ref I),some (.ref F),s]) (λn s H'=>eE [F] H1 H'∧H'[F]?=some (.list (vn (((its.take n).filter λi=>(G.af i).isNone&&(G.rl i !=0)).map G.rl)))) none
  (.dT (.var rfl) (eF _ _ hI) (by rw[aX];exact aK (aw kl (by decide)))) ⟨.r,gF⟩ (λh=>h.1 _ _ (yI fF hI) (eF _ _ hI)) ?_ ?_
 ·intro n i s H2 K hi h cg _
  have E:=h.1.new fF eF
  have zi:=hk i (am hi)
  dsimp only at cg;rw[kU _ hi]at cg
  have X:=JE.bx (L:=[some (.ref g),some (.ref I),some (.ref F),some (.int i)]) (.var (i:=0) rfl) (E _ _ hG.1) (m:=0) rfl rfl (.av (.var (i:=3) rfl) .bn) (tw (hG.ext E) zi)
  have Y:=JE.bx (L:=[some (.ref g),some (.ref I),some (.ref F),some (.int i)]) (.var (i:=0) rfl) (E _ _ hG.1) (m:=1) rfl rfl (.av (.var (i:=3) rfl) .bn) (tv (hG.ext E) zi)
  cases e:G.af i with
  |some s=>
   rw[aJ.tD e]at X;rw[e]at cg
   have T:=JT.bY X .lit (.lt _ 0)
   rw[decide_eq_false (fy.2 (aS s))]at T
   exact .pass (.iD (.af T)) (.nil (cg _ rfl h))
  |none=>
   rw[aJ.tE e]at X;rw[e]at cg
   have T:=JT.bY X .lit (.lt _ 0)
   by_cases r0:G.rl i=0
   ·rw[r0]at cg Y
    exact .pass (.iD (.at T (.af (.bY Y .lit (.ne (.int 0 0)))))) (.nil (cg _ rfl h))
   ·have T2:=JT.bY Y .lit (.ne (.int (G.rl i:Nat) 0))
    have b:(((G.rl i:Nat):Int)==0)=false:=beq_eq_false_iff_ne.2 λe=>r0 (a_.1 e)
    have b2:(G.rl i !=0)=true:=bne_iff_ne.2 r0
    rw[b]at T2;rw[b2]at cg
    refine .then (.iD (.at T (.at T2 .lu))) (.expr (.append (.var rfl) Y ⟨_,h.2⟩ h.2 (ri ?_)) (.nil (.nil (cg _ rfl ⟨h.1.set (ak.2 rfl),?_⟩))))
    ·rw[aX,ae];exact aj (a7 ..) (aj (bJ ..) (aK (aw kl (by decide))))
    ·rw[dh h.2];show _=some (O.list (vn (List.map G.rl (_++[i]))));rw[ay,pQ];rfl
 ·intro s H2 h
  rw[aR]at h
  have E:=h.1.new fF eF
  refine pR (.var rfl) (ints_list h.2) ?_ λa H3 j f g e=>.ret j (q' λj=>q a H3 j (E.none f) g (E.trans e))
  rw[ae];exact aA (a7 ..) kl
end
section
namespace aJ
variable {G:aJ}
theorem Bm {its:List Nat} {n i:Nat} (h:its[n]?=some i):G.syms (its.take (n+1))=G.sf (G.syms (its.take n)) i:=iG _ _ h
theorem rp {l:List Nat} {i:Nat} (e:G.af i=none):G.sf l i=l:=by unfold sf;rw[e]
theorem vR {l:List Nat} {i y:Nat} (e:G.af i=some y) (m:y∈l):G.sf l i=l:=by unfold sf;rw[e];exact if_pos m
theorem qu {l:List Nat} {i y:Nat} (e:G.af i=some y) (m:y∉l):G.sf l i=l++[y]:=by unfold sf;rw[e];exact if_neg m
theorem Ec {l:List Nat} {i y:Nat}:y∈G.sf l i↔y∈l∨G.af i=some y:=by
 cases e:G.af i with
 |none=>rw[rp e];exact⟨.inl,λh=>h.elim id (cW rfl)⟩
 |some s=>
  by_cases m:s∈l
  ·rw[vR e m];exact⟨.inl,λh=>h.elim id λz=>ax z▸m⟩
  ·rw[qu e m,aD,ak,Option.some.injEq,eq_comm]
theorem tL {l:List Nat} {i:Nat} (n:l.Nodup):(G.sf l i).Nodup:=by
 cases e:G.af i with
 |none=>rw[rp e];exact n
 |some s=>
  by_cases m:s∈l
  ·rw[vR e m];exact n
  ·rw[qu e m];exact iA n m
theorem xq (its:List Nat):∀l:List Nat,(∀y,y∈its.foldl G.sf l↔y∈l∨∃i∈its,G.af i=some y)∧(l.Nodup->(its.foldl G.sf l).Nodup):=by
 induction its with
 |nil=>intro l;exact⟨λy=>by simp,id⟩
 |cons i its ih=>
  intro l
  refine⟨λy=>?_,λn=>(ih _).2 (tL n)⟩
  rw[jz,(ih _).1 y,Ec,or_assoc];simp
theorem oh {its:List Nat} {y:Nat}:y∈G.syms its↔∃i∈its,G.af i=some y:=by
 rw[syms,(xq its []).1 y];simp
theorem fj (its:List Nat):(G.syms its).Nodup:=(xq its []).2 .nil
theorem Bo {its:List Nat} {n i:Nat} (h:its[n]?=some i) (s:Nat):G.hO (its.take (n+1)) s=bif G.af i==some s then G.hO (its.take n) s++[i+1]else G.hO (its.take n) s:=by
 rw[hO,kU _ h];cases e:G.af i==some s
 ·rfl
 ·show List.map _ (_++[i])=_;rw[ay];rfl
theorem Ee {its:List Nat} {y:Nat} (h:y∉G.syms its):G.hO its y=[]:=by
 rw[hO,dN.2 λi hi e=>h (oh.2 ⟨i,hi,beq_iff_eq.1 e⟩)];rfl
end aJ
inductive Kb (H H':Hp) (F:Nat) (ks:List (Nat×Nat)) (c:Nat->List Nat) (keys:List Nat):Prop
 |mk (e:Ext H H') (d:H'[F]?=some (.bc (nd .ref ks))) (r:∀p∈ks,H'[p.2]?=some (.list (vn (c p.1)))∧H[p.2]?=none) (nd:(ks.map (·.2)).Nodup) (k:ks.map (·.1)=keys)
section
variable {H H' H2:Hp} {F b y:Nat} {ks:List (Nat×Nat)} {c:Nat->List Nat} {keys:List Nat}
theorem Kb.ext (h:Kb H H' F ks c keys) (e:Ext H' H2):Kb H H2 F ks c keys:=⟨h.1.trans e,e _ _ h.2,λp m=>⟨e _ _ (h.3 p m).1,(h.3 p m).2⟩,h.4,h.5⟩
theorem Kb.add (h:Kb H H' F ks c keys) (fF:H[F]?=none) (n:y∉keys) (f:H'[b]?=none) (g:H2[b]?=some (.list [])) (e:Ext H' H2) (cy:c y=[]):
  Kb H (H2.set F (.bc (dput y (.ref b) (Mine.nd .ref ks)))) F (ks++[(y,b)]) c (keys++[y]):=by
 have h2:=h.ext e
 refine⟨h2.1.set fF,by rw[dh h2.2,oP (by rw[h.5];exact n)],λp m=>?_,?_,by rw[ay,h.5];rfl⟩
 ·rcases aD.1 m with m|m
  ·exact⟨eJ (h2.3 p m).1 (dg (h2.3 p m).1 h2.2 rfl),(h2.3 p m).2⟩
  ·rw[ak.1 m]
   exact⟨by rw[eJ g (dg g h2.2 rfl),cy];rfl,h.1.none f⟩
 ·rw[ay];exact iA h.4 λha=>(az.1 ha).elim λp q=>cW (q.2▸f) (h.3 p q.1).1
theorem iN {α β:Type} {f:α->β} {ks:List α} {p q:α} (n:(ks.map f).Nodup) (hp:p∈ks) (hq:q∈ks) (e:f p=f q):p=q:=by
 obtain⟨i,hi⟩:=aO hp
 obtain⟨j,hj⟩:=aO hq
 cases(cM (ah.1 (get_map hi)).1 n).1 ((get_map hi).trans ((congrArg some e).trans (get_map hj).symm))
 exact ax (hi.symm.trans hj)
theorem Kb.app {v:Nat} {c':Nat->List Nat} (h:Kb H H' F ks c keys) (kn:keys.Nodup) (m:(y,b)∈ks) (cy:c' y=c y++[v]) (cn:∀s,s≠y->c' s=c s):
  Kb H (H'.set b (.list (vn (c y)++[.int v]))) F ks c' keys:=by
 refine⟨h.1.set (h.3 _ m).2,eJ h.2 (rM h.2 (h.3 _ m).1 nofun),λp hp=>⟨?_,(h.3 p hp).2⟩,h.4,h.5⟩
 by_cases e:p.2=b
 ·have:=iN (f:=(·.2)) h.4 hp m e
  subst this;rw[dh (h.3 _ m).1,cy,vH]
 ·rw[eJ (h.3 p hp).1 e,cn]
  intro k;exact e (congrArg (·.2) (iN (f:=(·.1)) (h.5▸kn) hp m k))
end
end
section
variable {G:aJ} {A:GA} {g:Nat} {R:Prop} {H:Hp}
noncomputable def Lb (g I F:Nat) (x3 x4 x5:Option V):Lc:=[some (.ref g),some (.ref I),some (.ref F),x3,x4,x5]
theorem Ef (its:List Nat) (s:Nat):(G.hO its s).length≤its.length:=by rw[aJ.hO,ae];exact a7 _ _
theorem qv (hG:b_ H g G A) (its:List Nat):(G.syms its).length≤8:=by
 have:=br (aJ.fj (G:=G) its) (l₂:=List.range 8) λy hy=>by
  obtain⟨i,_,e⟩:=aJ.oh.1 hy;exact bp.2 (xd hG e)
 rwa[aT]at this
theorem Na {H1:Hp} {I F:Nat} {its:List Nat} {Q:Fl->Lc->Hp->Prop} {r:i6} (hG:b_ H g G A) (hI:H[I]?=some (.list (vn its))) (hk:∀i∈its,i<G.own.length) (kl:its.length<64) (fF:H[F]?=none) (e1:Ext H H1) (gF:H1[F]?=some (.bc []))
  (k:∀ks x3 x4 H2,Kb H H2 F ks (G.hO its) (G.syms its)->cB r (Lb g I F x3 x4 none) H2 Q):
  cB (.cons ((bo 3).at 1) r) (Lb g I F none none none) H1 Q:=by
 refine .jW (λ_ (s:List (Nat×Nat)×Option V×Option V)=>Lb g I F s.2.1 s.2.2 none) (λn s H'=>Kb H H' F s.1 (G.hO (its.take n)) (G.syms (its.take n))) ([],none,none)
  (.dT (.var rfl) (e1 _ _ hI) (by rw[aX];exact aK (aw kl (by decide)))) ⟨e1,gF,λp m=>absurd m aQ,.nil,rfl⟩ (λh=>h.1 _ _ hI) ?_ ?_
 ·intro n i s H2 K hi h cg _
  obtain⟨ks,x3,x4⟩:=s
  have h:Kb H H2 F ks (G.hO (its.take n)) (G.syms (its.take n)):=h
  have zi:=hk i (am hi)
  have hb:=aJ.Bo (G:=G) hi
  dsimp only at cg;rw[aJ.Bm hi]at cg
  refine .set (.bx (.var rfl) (h.1 _ _ hG.1) rfl rfl (.av (.var rfl) .bn) (tw (hG.ext h.1) zi)) ?_
  cases e:G.af i with
  |none=>
   rw[aJ.tE e];rw[aJ.rp e]at cg;rw[e]at hb
   exact .pass (.bY (.var rfl) .lit (.ge _ 0)) (.nil (cg (ks,some (.int i),some (.int (-1))) rfl ((funext λs=>hb s:G.hO (its.take (n+1))=G.hO (its.take n))▸h)))
  |some y=>
   rw[aJ.tD e];rw[e]at hb
   have T:=JT.bY (H:=H2) (L:=Lb g I F (some (.int i)) (some (.int y)) none) (.var (i:=4) rfl) .lit (.ge (y:Int) 0)
   rw[decide_eq_true (aS y)]at T
   refine .then T ?_
   have tail:∀ks H3 keys,keys.Nodup->y∈keys->Kb H H3 F ks (G.hO (its.take n)) keys->(∀ks H4,Kb H H4 F ks (G.hO (its.take (n+1))) keys->K .next (Lb g I F (some (.int i)) (some (.int y)) none) H4)->
     cB (.cons (.expr (.append (.idx (.var 2) (.var 4)) (.call 2 (.cons (.var 0) (.cons (.var 3) .nil))))) .nil) (Lb g I F (some (.int i)) (some (.int y)) none) H3 (Nx .nil K):=λks H3 keys nd my h c=>by
    obtain⟨b,m,gd⟩:=i_ (f:=V.ref) (h.5.symm▸my:y∈ks.map (·.1)) (h.5.symm▸nd)
    have gb:=(h.3 _ m).1
    have X:=dY.i (k:=(y:Int)) h.2
    rw[gd]at X
    refine .expr (.append (.idx (.var rfl) (.var rfl) (.dict X)) (.call (.av (.var rfl) (.av (.var rfl) .bn)) (xo (hG.ext h.1) zi)) ⟨_,gb⟩ gb (ri ?_)) (.nil (.nil (c ks _ (h.app nd m ?_ λs z=>?_))))
    ·show(vn (G.hO (its.take n) y)).length≤1000
     rw[aX,aJ.hO,ae];exact aj (a7 ..) (aj (bJ ..) (aK (aw kl (by decide))))
    ·rw[hb,beq_self_eq_true];rfl
    ·rw[hb,beq_eq_false_iff_ne.2 λe=>z (ax e).symm];rfl
   by_cases my:y∈G.syms (its.take n)
   ·rw[aJ.vR e my]at cg
    obtain⟨b,m,gd⟩:=i_ (f:=V.ref) (h.5.symm▸my:y∈ks.map (·.1)) (h.5.symm▸aJ.fj _)
    have X:=zJ.dict (dY.i (k:=(y:Int)) h.2)
    rw[gd]at X
    exact .pass (.bY (.var rfl) (.var rfl) (.jG X)) (tail ks H2 _ (aJ.fj _) my h λks H4 h=>cg (ks,_,_) rfl h)
   ·rw[aJ.qu e my]at cg
    have X:=zJ.dict (dY.i (k:=(y:Int)) h.2)
    rw[jX (h.5.symm▸my)]at X
    refine .then (.bY (.var rfl) (.var rfl) (.jG X)) (hN λb H3 j fb gb eb=>.bq j (.var rfl) (.var rfl) (.bc (eb _ _ h.2) (ri ?_)) (.nil (tail _ _ _ ?_ (aB _ (ak.2 rfl)) (h.add fF my fb gb eb (aJ.Ee my)) λks H4 h=>cg (ks,_,_) rfl h)))
    ·have:=congrArg List.length h.5
     rw[ae]at this
     rw[lw,this];exact aj (qv hG _) (by decide)
    ·rw[←aJ.qu e my];exact aJ.tL (aJ.fj _)
 ·intro s H2 h
  rw[aR]at h
  exact k _ _ _ _ h
theorem yJ {I:Nat} {its:List Nat} (hG:b_ H g G A) (hI:H[I]?=some (.list (vn its))) (hk:∀i∈its,i<G.own.length) (kl:its.length<64)
  (q:∀a H',JR 3 [.ref g,.ref I] H (.ref a) H'->H[a]?=none->H'[a]?=some (.bc (nd (λl=>.tup (vn l)) (G.Ke its)))->Ext H H'->R):R:=by
 refine c7 3 [.ref g,.ref I] H rfl rfl (L:=[some (.ref g),some (.ref I),none,none,none,none]) rfl λQ q'=>?_
 refine lQ λF H1 j fF gF eF=>.set j ?_
 refine Na (F:=F) hG hI hk kl fF eF gF λks x3 x4 H2 h=>?_
 refine lQ λW H3 j fW gW eW=>.set j ?_
 have h3:=h.ext eW
 have sl:=qv hG its
 have io:jH H3 (.ref F) ((G.syms its).map Int.ofNat):=by rw[←h.5,←oQ (f:=V.ref)];exact .dict h3.2
 refine pR (L:=Lb g I F x3 x4 (some (.ref W))) (.var (i:=2) rfl) io (aA sl (by decide)) λD H4 j fD gD eD=>?_
 have h4:=h3.ext eD
 have nF:F∉[W]:=yI fW h.2
 refine .jW (λ_ (s:Option V)=>Lb g I F x3 s (some (.ref W))) (λn s H'=>eE [W] H4 H'∧H'[W]?=some (.bc (nd (λl=>.tup (vn l)) (((jK (G.syms its)).take n).map λs=>(s,jK (G.hO its s)))))) x4
  (.dT j gD (by rw[aX,d8];exact aj sl (by decide))) ⟨.r,eD _ _ gW⟩ (λh=>h.1 _ _ (Bk fD gW) gD) ?_ ?_
 ·intro n y s H5 K hy h5 cg _
  have my:=dI.1 (am hy)
  have nn:=eP (aJ.fj (G:=G) its)
  obtain⟨b,m,gd⟩:=i_ (f:=V.ref) (h.5.symm▸my:y∈ks.map (·.1)) (h.5.symm▸aJ.fj _)
  have X:=dY.i (k:=(y:Int)) (h5.1 _ _ nF h4.2)
  rw[gd]at X
  have bl:=Ef (G:=G) its y
  refine pR (.idx (.var rfl) (.var rfl) (.dict X)) (ints_list (h5.1 _ _ (yI fW (h.3 _ m).1) (h4.3 _ m).1)) (aA bl kl) λa H6 j f g e=>.bq (.tupleOf j g (kD ?_)) (.var rfl) (.var rfl) (.bc (e _ _ h5.2) (ri ?_)) (.nil (cg _ rfl ⟨(h5.1.trans (.of e)).set (ak.2 rfl),?_⟩))
  ·rw[aX,d8];exact aj bl (aK (aw kl (by decide)))
  ·rw[lw,ae];exact aj (bJ _ _) (by rw[d8];exact aj sl (by decide))
  ·rw[dh (e _ _ h5.2)]
   refine congrArg (λd=>some (O.bc d)) ?_
   have:=oP (f:=λl=>V.tup (vn l)) (ks:=((jK (G.syms its)).take n).map λs=>(s,jK (G.hO its s))) (y:=y) (by rw[bF];exact λm=>gK nn hy (by rw[show((λx:Nat×List Nat=>x.1)∘λs=>(s,jK (G.hO its s)))=id from rfl,gz]at m;exact m)) (jK (G.hO its y))
   rw[aW,hy,ay];exact this
 ·intro s H5 h5
  rw[aR]at h5
  exact .ret (.var rfl) (q' λj=>q W H5 j (h.1.none fW) h5.2 (h.1.trans (h5.1.new fW (eW.trans eD))))
end
section
noncomputable def subs:Nat->List (List Nat)
 |0=>[[]]
 |n+1=>subs n++(subs n).map (· ++[n])
theorem Eg (n:Nat):(subs n).length=2^n:=by
 induction n with
 |zero=>rfl
 |succ n ih=>rw[subs,aq,ae,ih,Nat.pow_succ,Nat.mul_two]
theorem Eh (n:Nat):∀l:List Nat,l.Pairwise (· < ·)->(∀x∈l,x<n)->l∈subs n:=by
 induction n with
 |zero=>
  intro l _ h
  cases l with
  |nil=>exact ak.2 rfl
  |cons a l=>exact absurd (h a aP) (bm _)
 |succ n ih=>
  intro l p h
  refine aD.2 ?_
  by_cases m:n∈l
  ·right
   rcases nG l with rfl|⟨l',x,rfl⟩
   ·exact absurd m aQ
   ·rw[fS]at p m h ⊢
    have q:=List.pairwise_append.1 p
    have xl:=ak.2 (Eq.refl x)
    have e:n=x:=(aD.1 m).elim (λm=>absurd (q.2.2 n m x xl) (bE.2 (bB (h x (aB _ xl))))) ak.1
    subst e
    exact az.2 ⟨l',ih l' q.1 λy hy=>q.2.2 y hy n xl,rfl⟩
  ·exact .inl (ih l p λx hx=>iI (bB (h x hx)) λe=>m (e▸hx))
variable {G:aJ} {A:GA} {g:Nat} {R:Prop} {H:Hp}
theorem Ai (hG:b_ H g G A):G.own.length≤18:=by
 have f:∀r:Nat,(G.rules[r]?.map λx:Ru=>x.right.length).getD 0≤3:=λr=>by
  cases e:G.rules[r]? with
  |none=>decide
  |some x=>exact hG.13.3 r x e
 have f0:(G.rules[0]?.map λx:Ru=>x.right.length).getD 0≤2:=by
  have:=hG.13.4
  cases e:G.rules[0]? with
  |none=>decide
  |some x=>rw[e]at this;rw[Option.map_some,(ax this:x.right=_)];decide
 have f3:(G.rules[3]?.map λx:Ru=>x.right.length).getD 0≤2:=by
  cases e:G.rules[3]? with
  |none=>decide
  |some x=>exact hG.13.8 x e
 rw[aJ.own,hG.13.1,show List.range 5=[0,1,2,3,4] from rfl]
 simp only[cx,cR,aq,bX,mZ]
 exact c8 (aM f0) (c8 (aM (f 1)) (c8 (aM (f 2)) (c8 (aM f3) (aM (f 4)))))
inductive Ki (G:aJ) (ker:List Nat):Prop
 |mk (lt:∀i∈ker,i<G.own.length) (st:ker.Pairwise (· < ·))
theorem tM {l:List Nat} (h:l.Pairwise (· < ·)):l.Nodup:=h.imp λh=>cr h
theorem Ki.len {ker:List Nat} (hG:b_ H g G A) (h:Ki G ker):ker.length≤20:=by
 have:=br (tM h.2) (l₂:=List.range G.own.length) λi hi=>bp.2 (h.1 i hi)
 rw[aT]at this;exact aj this (aj (Ai hG) (by decide))
theorem Ei {Kj:List (List Nat)} (hG:b_ H g G A) (h:∀k∈Kj,Ki G k) (n:Kj.Nodup):Kj.length≤2^18:=by
 have:=br n (l₂:=subs 18) λk hk=>Eh 18 k (h k hk).2 λx hx=>aw ((h k hk).1 x hx) (Ai hG)
 rwa[Eg]at this
namespace aJ
theorem kt {ker:List Nat} {s i:Nat}:i∈G.w_ ker s↔(∃r,r<G.rules.length∧G.rules[r]?.map (·.left)=some s∧G.off r=i)∧i∉ker:=by
 rw[w_,bz,az,kZ,←Bool.not_eq_true,cV]
 simp only[gj,bz,bp,beq_iff_eq,and_assoc]
theorem Ej (f:Nat->Nat) (n:Nat):((List.range n).flatMap λr=>List.replicate (f r+1) r).length=((List.range n).map λx=>f x+1).sum∧
  ∀r d,r<n->d≤f r->((List.range n).flatMap λr=>List.replicate (f r+1) r)[((List.range r).map λx=>f x+1).sum+d]?=some r:=by
 induction n with
 |zero=>exact⟨rfl,λr d h=>absurd h (bm r)⟩
 |succ n ih=>
  refine⟨by rw[jO];simp,λr d hr hd=>?_⟩
  rw[bG,cH]
  rcases bj.1 hr with k|k
  ·have:=ih.2 r d k hd
   rw[aG (ah.1 this).1];exact this
  ·subst k
   rw[aY (by rw[ih.1];exact bu _ _),ih.1,mh]
   simp only[cx,cR,aN,cZ]
   exact if_pos (dc hd)
theorem xt {r d:Nat} (hr:r<G.rules.length) (hd:d≤(G.right r).length):G.own[G.off r+d]?=some r:=by
 rw[vL G r (aK hr)]
 refine(Ej (λr=>(G.rules[r]?.map (·.right.length)).getD 0) G.rules.length).2 r d hr ?_
 unfold right at hd;rw[ao hr]at hd ⊢;exact hd
theorem kX {r d:Nat} (hr:r<G.rules.length) (hd:d≤(G.right r).length):G.rl (G.off r+d)=r:=by
 rw[rl,aE,xt hr hd];rfl
theorem sA {r d:Nat} (hr:r<G.rules.length) (hd:d≤(G.right r).length):G.dt (G.off r+d)=d:=by
 rw[dt,kX hr hd,mh]
theorem sB {r d:Nat} (hr:r<G.rules.length) (hd:d≤(G.right r).length):G.off r+d<G.own.length:=(ah.1 (xt hr hd)).1
theorem qw {i:Nat} (h:i<G.own.length):G.off (G.rl i)+G.dt i=i:=by rw[dt,cU (G.i9 h).2.2.1]
theorem Aj {i s:Nat} (h:i<G.own.length) (e:G.af i=some s):i+1<G.own.length∧G.rl (i+1)=G.rl i∧G.dt (i+1)=G.dt i+1:=by
 have z:=(ah.1 e).1
 have r5:=(G.i9 h).2.1
 have eq:i+1=G.off (G.rl i)+(G.dt i+1):=by rw[←dv,qw h]
 rw[eq];exact⟨sB r5 z,kX r5 z,sA r5 z⟩
theorem yK (hG:b_ H g G A) {ker:List Nat} (h:∀i∈ker,i<G.own.length):∀i∈G.cls ker,i<G.own.length:=λi hi=>by
 rcases aD.1 hi with m|m
 ·exact h i (dI.1 m)
 ·obtain⟨s,_,m⟩:=jf.1 (dI.1 m)
  obtain⟨⟨r,hr,_,e⟩,_⟩:=kt.1 m
  rw[←e];exact sB (d:=0) hr (bw _)
theorem G8 (hG:b_ H g G A) {ker:List Nat} (h:ker.length≤20):(G.cls ker).length<64:=by
 rw[cls,aq,d8,d8];exact aA (c8 h (tJ hG ker)) (by decide)
theorem yL (ker:List Nat):(G.adds ker).Nodup:=by
 have A:∀s r,r<G.rules.length∧G.rules[r]?.map (·.left)=some s->G.rules[G.rl (G.off r)]?.map (·.left)=some s:=λs r h=>by
  have:=kX (d:=0) h.1 (bw _);rw[qK]at this;rw[this];exact h.2
 rw[adds,c9,List.pairwise_flatMap]
 refine⟨λs _=>?_,?_⟩
 ·rw[←c9,w_]
  refine ez _ ?_
  have:(List.filter (λr=>G.rules[r]?.map (·.left)==some s) (List.range G.rules.length)).Nodup:=ez _ eV
  rw[gj,lc]
  refine lJ ?_ this
  intro a b ha hb ne e
  have za:=bp.1 (bz.1 ha).1
  have zb:=bp.1 (bz.1 hb).1
  have e1:=kX (d:=0) za (bw _)
  have e2:=kX (d:=0) zb (bw _)
  rw[qK]at e1 e2
  exact ne (e1▸e2▸e▸rfl)
 ·have:(dx (G.wn ker)).Nodup:=ez _ eV
  refine List.Pairwise.imp ?_ (c9.1 this)
  intro s t ne x hx y hy e
  subst e
  obtain⟨⟨r,h1,h2,e1⟩,_⟩:=kt.1 hx
  obtain⟨⟨q,h3,h4,e2⟩,_⟩:=kt.1 hy
  have a1:=A s r ⟨h1,h2⟩
  have a2:=A t q ⟨h3,h4⟩
  rw[e1]at a1;rw[e2,a1]at a2
  exact ne (ax a2)
theorem uT {ker:List Nat} (h:ker.Nodup):(G.cls ker).Nodup:=by
 rw[cls,eo]
 refine⟨eP h,eP (yL ker),?_⟩
 intro a ha b hb e
 subst e
 obtain⟨s,_,m⟩:=jf.1 (dI.1 hb)
 exact(kt.1 m).2 (dI.1 ha)
theorem G9 (hG:b_ H g G A) {its:List Nat} (h:∀i∈its,i<G.own.length) (n:its.Nodup) (s:Nat):Ki G (jK (G.hO its s)):=by
 have nd:(G.hO its s).Nodup:=by
  rw[hO,c9,lc]
  exact(c9.1 (ez _ n)).imp λne e=>ne (gQ e)
 refine⟨λi hi=>?_,Kd nd⟩
 obtain⟨j,hj,rfl⟩:=az.1 (dI.1 hi)
 have:=bz.1 hj
 exact(Aj (h j this.1) (beq_iff_eq.1 this.2)).1
end aJ
end
section
structure cQ where
 ker:List Nat
 its:List Nat
 red:List Nat
 mv:List (Nat×Nat)
 sym:Int
noncomputable def vI (n:Nat):V:=.int n
noncomputable def ly (S:List cQ):List (List Int×V):=S.zipIdx.map λp=>(p.1.ker.map Int.ofNat,vI p.2)
inductive m_ (H:Hp) (a q:Nat) (s:cQ) (ia ma ra:Nat):Prop
 |mk (inst:H[a]?=some (.inst 0 [(7,.int q),(31,.tup (vn s.ker)),(32,.int s.sym),(33,.ref ia),(34,.ref ma),(14,.ref ra)])) (it:H[ia]?=some (.list (vn s.its))) (mv:H[ma]?=some (.bc (nd vI s.mv))) (rd:H[ra]?=some (.list (vn s.red)))
inductive BS (H0 H:Hp) (LS ND:Nat) (SA MA:List Nat) (S:List cQ):Prop
 |mk (e:Ext H0 H) (ls:H[LS]?=some (.list (SA.map .ref))) (nd:H[ND]?=some (.bV (ly S))) (sl:SA.length=S.length) (ml:MA.length=S.length) (st:∀q s a ma,S[q]?=some s->SA[q]?=some a->MA[q]?=some ma->∃ia ra,m_ H a q s ia ma ra) (fl:H0[LS]?=none) (fn:H0[ND]?=none) (fs:∀a∈SA,H0[a]?=none) (fm:∀a∈MA,H0[a]?=none) (ns:SA.Nodup) (nm:MA.Nodup)
section
variable {H0 H H':Hp} {LS ND q a ma:Nat} {SA MA:List Nat} {S:List cQ} {s:cQ} {R:Prop}
theorem m_.ex {T:List Nat} {ia ra:Nat} (h:m_ H a q s ia ma ra) (x:eE T H H') (n:∀b o,b∈T->H[b]?=some o->b≠a∧b≠ia∧b≠ma∧b≠ra):m_ H' a q s ia ma ra:=
 ⟨x _ _ (λm=>(n _ _ m h.1).1 rfl) h.1,x _ _ (λm=>(n _ _ m h.2).2.1 rfl) h.2,x _ _ (λm=>(n _ _ m h.3).2.2.1 rfl) h.3,x _ _ (λm=>(n _ _ m h.4).2.2.2 rfl) h.4⟩
theorem BS.get (h:BS H0 H LS ND SA MA S) (e:S[q]?=some s) (k:∀a ma ia ra,SA[q]?=some a->MA[q]?=some ma->m_ H a q s ia ma ra->R):R:=by
 have z:=(ah.1 e).1
 have e1:=ao (h.4.symm▸z:q<SA.length)
 have e2:=ao (h.5.symm▸z:q<MA.length)
 obtain⟨ia,ra,st⟩:=h.6 _ _ _ _ e e1 e2
 exact k _ _ ia ra e1 e2 st
theorem BS.nls {l:List Nat} {b:Nat} (h:BS H0 H LS ND SA MA S) (e:S[q]?=some s) (k:H[b]?=some (.list (vn l))):LS≠b:=λz=>by
 have z:SA.map V.ref=vn l:=O.list.inj (ax (h.2.symm.trans (z▸k)))
 have a:=ao (h.4.symm▸(ah.1 e).1:q<SA.length)
 have a:=dy a;rw[z]at a
 obtain⟨n,_,c⟩:=DW a;exact V.noConfusion c
theorem BS.upd {s':cQ} {ia ra:Nat} (h:BS H0 H LS ND SA MA S) (e:S[q]?=some s) (e1:SA[q]?=some a) (e2:MA[q]?=some ma) (x:eE [a,ma] H H') (st:m_ H' a q s' ia ma ra) (ek:s'.ker=s.ker):BS H0 H' LS ND SA MA (S.set q s'):=by
 obtain⟨ia0,ra0,lC⟩:=h.6 _ _ _ _ e e1 e2
 have z:=(ah.1 e).1
 have n2:∀{b:Nat} {o:O},H[b]?=some o->Nat.beq o.ctorIdx 4=false->Nat.beq o.ctorIdx 1=false->b∉[a,ma]:=λk i d m=>
  (aI.1 m).elim (dg k lC.1 i) λm=>dg k lC.3 d (ak.1 m)
 have fa:=h.9 a (am e1)
 have fm:=h.10 ma (am e2)
 refine⟨x.ext h.1 λb m=>?_,x _ _ (n2 h.2 rfl rfl) h.2,?_,h.4.trans aU.symm,h.5.trans aU.symm,λq2 s2 a2 m2 g1 g2 g3=>?_,h.7,h.8,h.9,h.10,h.11,h.12⟩
 ·exact(aI.1 m).elim (λm=>m▸fa) λm=>ak.1 m▸fm
 ·have:ly (S.set q s')=ly S:=by
   apply lg;intro i
   simp only[ly,aH,List.getElem?_zipIdx,iV]
   by_cases c:q=i
   ·subst c;rw[if_pos rfl,if_pos z,e];simp[ek]
   ·rw[if_neg c]
  rw[this];exact x _ _ (n2 h.3 rfl rfl) h.3
 ·by_cases c:q=q2
  ·subst c
   cases e1.symm.trans g2;cases e2.symm.trans g3;cases(a8 z).symm.trans g1
   exact⟨ia,ra,st⟩
  ·rw[a9 c]at g1
   obtain⟨Nb,IK,lD⟩:=h.6 _ _ _ _ g1 g2 g3
   refine⟨Nb,IK,lD.ex x λb o m k=>?_⟩
   have d1:a≠a2:=λe=>c ((cM (ah.1 e1).1 h.11).1 (e1.trans (e▸g2.symm)))
   have d2:ma≠m2:=λe=>c ((cM (ah.1 e2).1 h.12).1 (e2.trans (e▸g3.symm)))
   rcases aI.1 m with m|m
   ·rw[m];exact⟨d1,dg lC.1 lD.2 rfl,dg lC.1 lD.3 rfl,dg lC.1 lD.4 rfl⟩
   ·rw[ak.1 m];exact⟨dg lC.3 lD.1 rfl,dg lC.3 lD.2 rfl,d2,dg lC.3 lD.4 rfl⟩
end
variable {G:aJ} {A:GA} {g:Nat} {R:Prop} {H:Hp}
theorem ur {H':Hp} {a n:Nat} {ker:List Nat} {sym:Int} (fa:H[a]?=none) (e:Ext H H') (ha:H'[a]?=some (.inst 0 []))
  (q:∀ia ma ra H2,JR 28 [.ref a,.int n,.tup (vn ker),.int sym] H' .none H2->Ext H H2->m_ H2 a n ⟨ker,[],[],[],sym⟩ ia ma ra->H[ia]?=none->H[ma]?=none->H[ra]?=none->R):R:=by
 refine c7 28 [.ref a,.int n,.tup (vn ker),.int sym] H' rfl rfl (L:=[some (.ref a),some (.int n),some (.tup (vn ker)),some (.int sym)]) rfl λQ q'=>?_
 refine .setattr (.var rfl) (.var rfl) ha rfl rfl (.setattr (.var rfl) (.var rfl) (dh ha) rfl rfl (.setattr (.var rfl) (.var rfl) (dh (dh ha)) rfl rfl ?_))
 have e1:=((e.set (o:=.inst 0 (dj 7 (.int n) [])) fa).set (o:=.inst 0 (dj 31 (.tup (vn ker)) (dj 7 (.int n) []))) fa).set (o:=.inst 0 (dj 32 (.int sym) (dj 31 (.tup (vn ker)) (dj 7 (.int n) [])))) fa
 have g1:=dh (p:=.inst 0 (dj 32 (.int sym) (dj 31 (.tup (vn ker)) (dj 7 (.int n) [])))) (dh (p:=.inst 0 (dj 31 (.tup (vn ker)) (dj 7 (.int n) []))) (dh (p:=.inst 0 (dj 7 (.int n) [])) ha))
 generalize ((H'.set a _).set a _).set a _=H1 at e1 g1
 refine hN λia H2 j f2 g2 e2=>.setattr j (.var rfl) (e2 _ _ g1) rfl rfl ?_
 have n2:ia≠a:=(e_ f2 g1).symm
 have e3:=(e1.trans e2).set (o:=.inst 0 (dj 33 (.ref ia) (dj 32 (.int sym) (dj 31 (.tup (vn ker)) (dj 7 (.int n) []))))) fa
 have g3:=dh (p:=.inst 0 (dj 33 (.ref ia) (dj 32 (.int sym) (dj 31 (.tup (vn ker)) (dj 7 (.int n) []))))) (e2 _ _ g1)
 have i3:=eJ (p:=.inst 0 (dj 33 (.ref ia) (dj 32 (.int sym) (dj 31 (.tup (vn ker)) (dj 7 (.int n) []))))) g2 n2
 generalize H2.set a _=H3 at e3 g3 i3
 refine lQ λma H4 j f4 g4 e4=>.setattr j (.var rfl) (e4 _ _ g3) rfl rfl ?_
 have n4:ma≠a:=(e_ f4 g3).symm
 have e5:=(e3.trans e4).set (o:=.inst 0 (dj 34 (.ref ma) (dj 33 (.ref ia) (dj 32 (.int sym) (dj 31 (.tup (vn ker)) (dj 7 (.int n) [])))))) fa
 have g5:=dh (p:=.inst 0 (dj 34 (.ref ma) (dj 33 (.ref ia) (dj 32 (.int sym) (dj 31 (.tup (vn ker)) (dj 7 (.int n) [])))))) (e4 _ _ g3)
 have i5:=eJ (p:=.inst 0 (dj 34 (.ref ma) (dj 33 (.ref ia) (dj 32 (.int sym) (dj 31 (.tup (vn ker)) (dj 7 (.int n) [])))))) (e4 _ _ i3) n2
 have m5:=eJ (p:=.inst 0 (dj 34 (.ref ma) (dj 33 (.ref ia) (dj 32 (.int sym) (dj 31 (.tup (vn ker)) (dj 7 (.int n) [])))))) g4 n4
 generalize H4.set a _=H5 at e5 g5 i5 m5
 refine hN λra H6 j f6 g6 e6=>.setattr j (.var rfl) (e6 _ _ g5) rfl rfl (.nil (q' λj=>q ia ma ra _ j ((e5.trans e6).set fa) ⟨dh (e6 _ _ g5),eJ (e6 _ _ i5) n2,eJ (e6 _ _ m5) n4,eJ g6 (e_ f6 g5).symm⟩ (e1.none f2) (e3.none f4) (e5.none f6)))
end
section
theorem ofNat_inj {l m:List Nat} (h:l.map Int.ofNat=m.map Int.ofNat):l=m:=by
 have:=congrArg (List.map Int.toNat) h
 rw[bF,bF,show Int.toNat∘Int.ofNat=id from rfl,gz,gz]at this;exact this
theorem yM {H:Hp} {a:Nat} {d:List (List Int×V)} {k:List Nat} (h:H[a]?=some (.bV d)):dY H a (.tup (vn k)) (d7 (k.map Int.ofNat) d):=by rw[iE];exact .t h
section
variable {S:List cQ} {ker:List Nat} {q:Nat} {s:cQ}
theorem tN {p:List Int×V}:p∈ly S↔∃q s,S[q]?=some s∧p=(s.ker.map Int.ofNat,vI q):=
 ⟨λh=>(az.1 h).elim λx q=>⟨x.2,x.1,jE.1 q.1,q.2.symm⟩,λh=>h.elim λq h=>h.elim λs h=>az.2 ⟨(s,q),jE.2 h.1,h.2.symm⟩⟩
theorem Ak (h:ker∉S.map (·.ker)) (p:List Int×V) (m:p∈ly S):p.1≠ker.map Int.ofNat:=λe=>
 (tN.1 m).elim λq z=>z.elim λs z=>h (az.2 ⟨s,am z.1,ofNat_inj ((congrArg Prod.fst z.2).symm.trans e)⟩)
theorem Bp (h:ker∉S.map (·.ker)):d7 (ker.map Int.ofNat) (ly S)=none:=vQ (Ak h)
theorem uU (n:(S.map (·.ker)).Nodup) (h:S[q]?=some s):d7 (s.ker.map Int.ofNat) (ly S)=some (vI q):=by
 rw[d7]
 cases e:(ly S).find? λp=>decide (p.1=s.ker.map Int.ofNat)with
 |none=>exact absurd (decide_eq_true rfl) (dS.1 e _ (tN.2 ⟨q,s,h,rfl⟩))
 |some p=>
  obtain⟨q2,s2,h2,rfl⟩:=tN.1 (dE e)
  have a1:(S.map (·.ker))[q2]?=some s.ker:=(get_map h2).trans (congrArg some (ofNat_inj (of_decide_eq_true (jF (p:=λp:List Int×V=>decide (p.1=s.ker.map Int.ofNat)) e))))
  exact congrArg (λi=>some (vI i)) ((cM (ah.1 a1).1 n).1 (a1.trans (get_map h).symm))
theorem Ek {sym:Int} (h:ker∉S.map (·.ker)):dput (ker.map Int.ofNat) (vI S.length) (ly S)=ly (S++[⟨ker,[],[],[],sym⟩]):=by
 rw[sx (Ak h),ly,ly,List.zipIdx_append,ay,mO];rfl
theorem El:(ly S).length=S.length:=by rw[ly,ae,List.length_zipIdx]
end
noncomputable def vS (S S':List cQ) (ker:List Nat) (p:Nat):Prop:=
 (S'=S∧∃s,S[p]?=some s∧s.ker=ker)∨(ker∉S.map (·.ker)∧p=S.length∧∃sym,S'=S++[⟨ker,[],[],[],sym⟩])
noncomputable def BO (g c LS ND:Nat):O:=.inst 2 [(12,.ref g),(43,.ref c),(13,.ref LS),(35,.ref ND)]
section
variable {H0 H H1 H3:Hp} {LS ND b:Nat} {SA MA:List Nat} {S:List cQ} {R:Prop}
theorem BS.push {a ia ma ra:Nat} {ker:List Nat} {sym:Int} (h:BS H0 H LS ND SA MA S) (hn:ker∉S.map (·.ker)) (e1:H1=H.set ND (.bV (dput (ker.map Int.ofNat) (vI S.length) (ly S))))
  (fa:H1[a]?=none) (e:Ext H1 H3) (st:m_ H3 a S.length ⟨ker,[],[],[],sym⟩ ia ma ra) (fi:H1[ia]?=none) (fm:H1[ma]?=none) (fr:H1[ra]?=none):
  BS H0 (H3.set LS (.list (SA.map .ref++[.ref a]))) LS ND (SA++[a]) (MA++[ma]) (S++[⟨ker,[],[],[],sym⟩])∧eE [LS,ND] H (H3.set LS (.list (SA.map .ref++[.ref a]))):=by
 subst e1
 have nl:=dg h.2 h.3 rfl
 have g1:=e _ _ (eJ (p:=.bV (dput (ker.map Int.ofNat) (vI S.length) (ly S))) h.2 nl)
 have x:eE [LS,ND] H (H3.set LS (.list (SA.map .ref++[.ref a]))):=(eE.trans (eE.r.set (aL _ (ak.2 rfl))) (.of e)).set (aP ..)
 have old:∀{b:Nat},(H.set ND (.bV (dput (ker.map Int.ofNat) (vI S.length) (ly S))))[b]?=none->H[b]?=none:=λ{b} f=>by
  have:¬b<_:=bE.2 (d3.1 f)
  rw[aU]at this;exact bR (dQ this)
 have Od:∀{b:Nat},(H.set ND (.bV (dput (ker.map Int.ofNat) (vI S.length) (ly S))))[b]?=none->b≠LS:=λf e=>cW f (e▸eJ h.2 nl)
 refine⟨⟨x.ext h.1 λb m=>?_,?_,?_,?_,?_,λq s a2 m2 k1 k2 k3=>?_,h.7,h.8,λb m=>?_,λb m=>?_,?_,?_⟩,x⟩
 ·exact(aI.1 m).elim (λm=>m▸h.7) λm=>ak.1 m▸h.8
 ·rw[dh g1,ay];rfl
 ·rw[eJ (e _ _ (dh h.3)) nl.symm,Ek hn]
 ·rw[aq,aq,h.4];rfl
 ·rw[aq,aq,h.5];rfl
 ·rcases ba q S.length with z|z
  ·rw[aG z]at k1
   rw[aG (h.4.symm▸z)]at k2
   rw[aG (h.5.symm▸z)]at k3
   obtain⟨Nb,IK,lD⟩:=h.6 _ _ _ _ k1 k2 k3
   refine⟨Nb,IK,lD.ex x λb o m k=>?_⟩
   rcases aI.1 m with m|m
   ·rw[m];exact⟨dg h.2 lD.1 rfl,h.nls k1 lD.2,dg h.2 lD.3 rfl,h.nls k1 lD.4⟩
   ·rw[ak.1 m];exact⟨dg h.3 lD.1 rfl,dg h.3 lD.2 rfl,dg h.3 lD.3 rfl,dg h.3 lD.4 rfl⟩
  ·have:q=S.length:=by
    have:=(ah.1 k1).1
    rw[aq]at this;exact bP (bB this) z
   subst this
   rw[aY z,eg]at k1
   rw[aY (h.4.symm▸z),h.4,eg]at k2
   rw[aY (h.5.symm▸z),h.5,eg]at k3
   cases k1;cases k2;cases k3
   exact⟨ia,ra,eJ st.1 (Od fa),eJ st.2 (Od fi),eJ st.3 (Od fm),eJ st.4 (Od fr)⟩
 ·exact(aD.1 m).elim (h.9 b) λm=>ak.1 m▸h.1.none (old fa)
 ·exact(aD.1 m).elim (h.10 b) λm=>ak.1 m▸h.1.none (old fm)
 ·refine iA h.11 λhb=>?_
  obtain⟨i,hi⟩:=aO hb
  have z:=(ah.1 hi).1
  obtain⟨_,_,lD⟩:=h.6 _ _ _ _ (ao (h.4▸z)) hi (ao (h.5.symm▸h.4▸z))
  exact cW (old fa) lD.1
 ·refine iA h.12 λhb=>?_
  obtain⟨i,hi⟩:=aO hb
  have z:=(ah.1 hi).1
  obtain⟨_,_,lD⟩:=h.6 _ _ _ _ (ao (h.5▸z)) (ao (h.4.symm▸h.5▸z)) hi
  exact cW (old fm) lD.3
end
end
section
section
variable {H0 H:Hp} {g c LS ND b:Nat} {SA MA:List Nat} {S:List cQ} {R:Prop}
theorem uV {ker:List Nat} {sym:Int} (hb:H[b]?=some (BO g c LS ND)) (h:BS H0 H LS ND SA MA S) (kn:(S.map (·.ker)).Nodup) (z:S.length≤2^18)
  (q:∀p G_ Kk S' H',JR 29 [.ref b,.tup (vn ker),.int sym] H (.int (p:Nat)) H'->eE [LS,ND] H H'->BS H0 H' LS ND G_ Kk S'->vS S S' ker p->SA<+:G_->R):R:=by
 have zS:S.length<SZ:=aA z (by decide)
 refine c7 29 [.ref b,.tup (vn ker),.int sym] H rfl rfl (L:=[some (.ref b),some (.tup (vn ker)),some (.int sym)]) rfl λQ q'=>?_
 have T:=JT.bY (H:=H) (L:=[some (.ref b),some (.tup (vn ker)),some (.int sym)]) (.var (i:=1) rfl) (.attr (.var (i:=0) rfl) hb (f:=35) rfl rfl) (.jG (.dict (yM (k:=ker) h.3)))
 by_cases m:ker∈S.map (·.ker)
 ·obtain⟨s,ms,rfl⟩:=az.1 m
  obtain⟨p,hp⟩:=aO ms
  have X:=yM (k:=s.ker) h.3
  rw[uU kn hp]at T X
  exact .pass T (.ret (.idx (.attr (.var rfl) hb rfl rfl) (.var rfl) (.dict X)) (q' λj=>q p SA MA S H j .r h (.inl ⟨rfl,s,hp,rfl⟩) List.prefix_rfl))
 ·rw[Bp m]at T
  have ln:=JE.len (H:=H) (L:=[some (.ref b),some (.tup (vn ker)),some (.int sym)]) (a:=.attr (.var 0) 13) (.attr (.var (i:=0) rfl) hb (f:=13) rfl rfl) (.list h.2 (by rw[ae,h.4];exact aK zS))
  rw[ae,h.4]at ln
  refine .then T (.bq ln (.attr (.var rfl) hb rfl rfl) (.var rfl) (by rw[iE];exact .bV h.3 (by rw[El];exact zS)) ?_)
  have nb:b≠ND:=dg hb h.3 rfl
  have hb1:=eJ (p:=.bV (dput (ker.map Int.ofNat) (vI S.length) (ly S))) hb nb
  have PK:=eJ (p:=.bV (dput (ker.map Int.ofNat) (vI S.length) (ly S))) h.2 (dg h.2 h.3 rfl)
  have ln:=JE.len (L:=[some (.ref b),some (.tup (vn ker)),some (.int sym)]) (a:=.attr (.var 0) 13) (.attr (.var (i:=0) rfl) hb1 (f:=13) rfl rfl) (.list PK (by rw[ae,h.4];exact aK zS))
  rw[ae,h.4]at ln
  refine new_ (c:=0) (.av ln (.av (.var (i:=1) rfl) (.av (.var (i:=2) rfl) .bn))) rfl λa H2 fa ga ea nw=>?_
  refine ur (n:=S.length) (ker:=ker) (sym:=sym) fa ea ga λia ma ra H3 j e3 st fi fm fr=>?_
  refine .expr (.append (.attr (.var rfl) hb1 rfl rfl) (nw j) ⟨_,PK⟩ (e3 _ _ PK) (by rw[ae,h.4];exact zS)) (.nil ?_)
  obtain⟨bs,x⟩:=h.push m rfl fa e3 st fi fm fr
  have X:=yM (k:=ker) bs.3
  have n2:((S++[cQ.mk ker [] [] [] sym]).map (·.ker)).Nodup:=by
   rw[ay];exact iA kn m
  rw[uU n2 (q:=S.length) (s:=⟨ker,[],[],[],sym⟩) bt]at X
  refine .ret (.idx (.attr (.var rfl) (x _ _ ?_ hb) rfl rfl) (.var rfl) (.dict X)) (q' λj=>q S.length _ _ _ _ j x bs (.inr ⟨m,rfl,sym,rfl⟩) (List.prefix_append ..))
  exact λe=>(aI.1 e).elim (dg hb h.2 rfl) λe=>nb (ak.1 e)
end
end
section
noncomputable def Mb (o:O):Prop:=(∀l,o= .list l->∀x∈l,∃a,x= .ref a)∧∀c fs,o= .inst c fs->c=0
theorem Mb.t {d}:Mb (.bV d):=⟨λ_ e=>O.noConfusion e,λ_ _ e=>O.noConfusion e⟩
theorem Mb.d {d}:Mb (.bc d):=⟨λ_ e=>O.noConfusion e,λ_ _ e=>O.noConfusion e⟩
theorem Mb.f {d}:Mb (.fi d):=⟨λ_ e=>O.noConfusion e,λ_ _ e=>O.noConfusion e⟩
theorem Mb.l {l:List Nat}:Mb (.list (l.map .ref)):=⟨λ_ e x hx=>(az.1 ((O.list.inj e).symm▸hx)).imp λ_ q=>q.2.symm,λ_ _ e=>O.noConfusion e⟩
theorem Mb.i {fs}:Mb (.inst 0 fs):=⟨λ_ e=>O.noConfusion e,λ_ _ e=>(O.inst.inj e).1.symm⟩
inductive BX (H0 H:Hp) (g:Nat) (G:aJ) (A:GA) (b c T LS ND:Nat) (SA MA:List Nat) (S:List cQ):Prop
 |mk (hG:b_ H0 g G A) (hb:H[b]?=some (BO g c LS ND)) (hC:Bg H c g G T) (bs:BS H0 H LS ND SA MA S) (ko:∀s∈S,Ki G s.ker) (kn:(S.map (·.ker)).Nodup)
section
variable {H0 H H':Hp} {g b c T LS ND:Nat} {G:aJ} {A:GA} {SA MA:List Nat} {S S':List cQ} {R:Prop}
theorem BX.gr (h:BX H0 H g G A b c T LS ND SA MA S):b_ H g G A:=h.1.ext h.4.1
theorem BX.z (h:BX H0 H g G A b c T LS ND SA MA S):S.length≤2^18:=by
 have:=Ei h.1 (λk hk=>(az.1 hk).elim λs q=>q.2▸h.5 s q.1) h.6
 rwa[ae]at this
theorem nMb (hb:H[b]?=some (BO g c LS ND)) (hC:Bg H c g G T) {x:Nat} {o:O} (k:H[x]?=some o) (m:Mb o):b≠x∧c≠x∧T≠x:=by
 refine⟨rM hb k λe=>?_,rM hC.1 k λe=>?_,rM hC.2 k λe=>?_⟩
 ·exact absurd (m.2 _ _ e.symm) (by decide:(2:Nat)≠0)
 ·exact absurd (m.2 _ _ e.symm) (by decide:(3:Nat)≠0)
 ·exact(m.1 _ e.symm _ (am (cN (getD_at (d:=0) (Ah.symm▸by decide:0<G.B7.length))))).elim λa w=>V.noConfusion w
theorem BX.keep (h:BX H0 H g G A b c T LS ND SA MA S) {X:List Nat} (x:eE X H H') (m:∀y∈X,∃o,H[y]?=some o∧Mb o) (bs:BS H0 H' LS ND G_ Kk S') (ko:∀s∈S',Ki G s.ker) (kn:(S'.map (·.ker)).Nodup):
  BX H0 H' g G A b c T LS ND G_ Kk S':=by
 have n:∀y∈X,b≠y∧c≠y∧T≠y:=λy hy=>(m y hy).elim λo q=>nMb h.2 h.3 q.1 q.2
 exact⟨h.1,x _ _ (λm=>(n _ m).1 rfl) h.2,⟨x _ _ (λm=>(n _ m).2.1 rfl) h.3.1,x _ _ (λm=>(n _ m).2.2 rfl) h.3.2⟩,bs,ko,kn⟩
theorem BS.ext (h:BS H0 H LS ND SA MA S) (e:Ext H H'):BS H0 H' LS ND SA MA S:=
 ⟨h.1.trans e,e _ _ h.2,e _ _ h.3,h.4,h.5,λq s a ma k1 k2 k3=>(h.6 q s a ma k1 k2 k3).imp λia q=>q.imp λra st=>⟨e _ _ st.1,e _ _ st.2,e _ _ st.3,e _ _ st.4⟩,h.7,h.8,h.9,h.10,h.11,h.12⟩
theorem BX.ext (h:BX H0 H g G A b c T LS ND SA MA S) (e:Ext H H'):BX H0 H' g G A b c T LS ND SA MA S:=
 ⟨h.1,e _ _ h.2,⟨e _ _ h.3.1,e _ _ h.3.2⟩,h.4.ext e,h.5,h.6⟩
theorem BS.mbl (h:BS H0 H LS ND SA MA S):∀y∈[LS,ND],∃o,H[y]?=some o∧Mb o:=λy m=>
 (aI.1 m).elim (λm=>m▸⟨_,h.2,.l⟩) λm=>ak.1 m▸⟨_,h.3,.t⟩
theorem m_.mbs {a q ia ma ra:Nat} {s:cQ} (h:m_ H a q s ia ma ra):∀y∈[a,ma],∃o,H[y]?=some o∧Mb o:=λy m=>
 (aI.1 m).elim (λm=>m▸⟨_,h.1,.i⟩) λm=>ak.1 m▸⟨_,h.3,.d⟩
theorem BS.th {D:Nat} {d:List (Int×V)} {o:O} (h:BS H0 H LS ND SA MA S) (k:H[D]?=some (.fi d)) (f:H0[D]?=none):BS H0 (H.set D o) LS ND SA MA S:=by
 have x:eE [D] H (H.set D o):=eE.r.set (ak.2 rfl)
 refine⟨x.new f h.1,eJ h.2 (dg h.2 k rfl),eJ h.3 (dg h.3 k rfl),h.4,h.5,λq s a ma k1 k2 k3=>?_,h.7,h.8,h.9,h.10,h.11,h.12⟩
 exact(h.6 q s a ma k1 k2 k3).imp λia q=>q.imp λra st=>⟨eJ st.1 (dg st.1 k rfl),eJ st.2 (dg st.2 k rfl),eJ st.3 (dg st.3 k rfl),eJ st.4 (dg st.4 k rfl)⟩
theorem Em {q:Nat} {s s':cQ} (e:S[q]?=some s) (k:s'.ker=s.ker):(S.set q s').map (·.ker)=S.map (·.ker):=by
 have z:=(ah.1 e).1
 apply lg;intro i
 rw[aH,aH,iV]
 by_cases c:q=i
 ·rw[←c,if_pos rfl,if_pos z,e];exact congrArg some k
 ·rw[if_neg c]
theorem BX.upd {q a ma ia ra:Nat} {s s':cQ} (h:BX H0 H g G A b c T LS ND SA MA S) (e:S[q]?=some s) (e1:SA[q]?=some a) (e2:MA[q]?=some ma) (x:eE [a,ma] H H') (st:m_ H' a q s' ia ma ra) (ek:s'.ker=s.ker):
  BX H0 H' g G A b c T LS ND SA MA (S.set q s'):=by
 obtain⟨ia0,ra0,lC⟩:=h.4.6 _ _ _ _ e e1 e2
 refine h.keep x lC.mbs (h.4.upd e e1 e2 x st ek) (λt m=>?_) (by rw[Em e ek];exact h.6)
 exact(hJ m).elim (h.5 t) λm=>m▸ek▸h.5 s (am e)
end
end
section
noncomputable def cQ.new (s:cQ):Prop:=s.its=[]∧s.red=[]∧s.mv=[]
noncomputable def En (G:aJ) (S:List cQ) (its:List Nat) (mv:List (Nat×Nat)):Prop:=∀p∈mv,∃s,S[p.2]?=some s∧s.ker=jK (G.hO its p.1)
inductive IM (G:aJ) (S S':List cQ) (q:Nat) (s:cQ) (n:Nat):Prop
 |mk (len:S.length≤S'.length) (old:∀j<S.length,j≠q->S'[j]?=S[j]?) (new:∀j t,S.length≤j->S'[j]?=some t->t.new) (cur:∃mv,S'[q]?=some ⟨s.ker,G.cls s.ker,G.red (G.cls s.ker),mv,s.sym⟩∧mv.map (·.1)=(jK (G.syms (G.cls s.ker))).take n∧En G S' (G.cls s.ker) mv)
section
variable {S S':List cQ} {ker:List Nat} {p:Nat}
theorem vS.app (g:vS S S' ker p):∃r,S'=S++r∧∀t∈r,t.new∧t.ker=ker:=by
 rcases g with⟨e,_⟩|⟨_,_,sym,e⟩
 ·exact⟨[],e.trans (aN S).symm,rj⟩
 ·exact⟨_,e,λt m=>ak.1 m▸⟨⟨rfl,rfl,rfl⟩,rfl⟩⟩
theorem vS.at_ (g:vS S S' ker p):∃s,S'[p]?=some s∧s.ker=ker:=by
 rcases g with⟨e,h⟩|⟨_,e2,sym,e⟩
 ·exact e▸h
 ·exact⟨_,by rw[e,e2];exact bt,rfl⟩
theorem vS.kn (g:vS S S' ker p) (h:(S.map (·.ker)).Nodup):(S'.map (·.ker)).Nodup:=by
 rcases g with⟨e,_⟩|⟨nm,_,sym,e⟩
 ·exact e▸h
 ·rw[e,ay];exact iA h nm
end
theorem En.grow {G S S' its mv ker p} (h:En G S its mv) (g:vS S S' ker p):En G S' its mv:=λx m=>
 g.app.elim λr q=>(h x m).imp λs k=>⟨q.1▸(aG (ah.1 k.1).1).trans k.1,k.2⟩
theorem En.set {G S its mv q} {s s':cQ} (h:En G S its mv) (e:S[q]?=some s) (k:s'.ker=s.ker):En G (S.set q s') its mv:=λx m=>by
 obtain⟨t,e2,k2⟩:=h x m
 by_cases c:q=x.2
 ·rw[←c]at e2 ⊢;cases e.symm.trans e2
  exact⟨s',a8 (ah.1 e).1,k.trans k2⟩
 ·exact⟨t,(a9 c).trans e2,k2⟩
theorem IM.step {G:aJ} {S S1 S2:List cQ} {q n X p:Nat} {s:cQ} (h:IM G S S1 q s n) (hq:q<S.length) (g:vS S1 S2 (jK (G.hO (G.cls s.ker) X)) p) (hX:(jK (G.syms (G.cls s.ker)))[n]?=some X) {mv:List (Nat×Nat)}
  (e1:S1[q]?=some ⟨s.ker,G.cls s.ker,G.red (G.cls s.ker),mv,s.sym⟩) (k:mv.map (·.1)=(jK (G.syms (G.cls s.ker))).take n) (t:En G S1 (G.cls s.ker) mv):
  IM G S (S2.set q ⟨s.ker,G.cls s.ker,G.red (G.cls s.ker),mv++[(X,p)],s.sym⟩) q s (n+1)∧S2[q]?=some ⟨s.ker,G.cls s.ker,G.red (G.cls s.ker),mv,s.sym⟩:=by
 obtain⟨r,e0,nw⟩:=g.app
 have l12:S1.length≤S2.length:=by rw[e0,aq];exact bu ..
 have st:∀j<S1.length,S2[j]?=S1[j]?:=λj z=>e0▸aG z
 have e2:S2[q]?=some ⟨s.ker,G.cls s.ker,G.red (G.cls s.ker),mv,s.sym⟩:=by rw[st q (ah.1 e1).1,e1]
 refine⟨⟨by rw[aU];exact aj h.1 l12,λj z ne=>?_,λj t z e=>?_,mv++[(X,p)],?_,?_,λx m=>?_⟩,e2⟩
 ·rw[a9 (dU ne),st j (aw z h.1)];exact h.2 j z ne
 ·rw[a9 λe:q=j=>bE.2 z (e▸hq)]at e
  rcases ba j S1.length with w|w
  ·rw[st j w]at e;exact h.3 j t z e
  ·rw[e0,aY w]at e;exact(nw t (am e)).1
 ·exact a8 (ah.1 e2).1
 ·rw[ay,k,aW,hX];rfl
 ·have t2:En G (S2.set q ⟨s.ker,G.cls s.ker,G.red (G.cls s.ker),mv++[(X,p)],s.sym⟩) (G.cls s.ker) mv:=(t.grow g).set e2 rfl
  rcases aD.1 m with m|m
  ·exact t2 x m
  ·rw[ak.1 m]
   refine En.set (s':=⟨s.ker,G.cls s.ker,G.red (G.cls s.ker),mv++[(X,p)],s.sym⟩) (mv:=[(X,p)]) (λy hy=>?_) e2 rfl (X,p) (ak.2 rfl)
   rw[ak.1 hy];exact g.at_
section
variable {H0 H:Hp} {g b c T LS ND a ma q:Nat} {G:aJ} {A:GA} {SA MA:List Nat} {S:List cQ} {R:Prop}
theorem Bq {s:cQ} (h:BX H0 H g G A b c T LS ND SA MA S) (e:S[q]?=some s) (e1:SA[q]?=some a) (sn:s.new)
  (k:∀G_ Kk S' H',JR 39 [.ref b,.ref a] H .none H'->BX H0 H' g G A b c T LS ND G_ Kk S'->IM G S S' q s (jK (G.syms (G.cls s.ker))).length->SA<+:G_->R):R:=by
 refine c7 39 [.ref b,.ref a] H rfl rfl (L:=[some (.ref b),some (.ref a),none,none]) rfl λQ q'=>?_
 have z:=(ah.1 e).1
 refine h.4.get e λa' ma ia ra Oe e2 st=>?_
 cases e1.symm.trans Oe
 have hk:=h.5 s (am e)
 have kl:=hk.len h.1
 have cl:=aJ.yK h.1 hk.1
 have cz:=aJ.G8 h.1 kl
 refine Eb h.gr h.3 hk.1 kl λI H1 j fI gI eI=>.setattr (.bx (.attr (.var rfl) h.2 rfl rfl) h.3.1 rfl rfl (.av (.attr (.var rfl) st.1 rfl rfl) .bn) j) (.var rfl) (eI _ _ st.1) rfl rfl ?_
 have h1:=h.ext eI
 have mI:m_ (H1.set a (.inst 0 [(7,.int q),(31,.tup (vn s.ker)),(32,.int s.sym),(33,.ref I),(34,.ref ma),(14,.ref ra)])) a q ⟨s.ker,G.cls s.ker,[],[],s.sym⟩ I ma ra:=
  ⟨dh (eI _ _ st.1),eJ gI (dg gI (eI _ _ st.1) rfl),sn.2.2▸eJ (eI _ _ st.3) (dg st.3 st.1 rfl),sn.2.1▸eJ (eI _ _ st.4) (dg st.4 st.1 rfl)⟩
 have h2:=h1.upd e e1 e2 (eE.r.set (aP ..)) mI rfl
 have q2:(S.set q ⟨s.ker,G.cls s.ker,[],[],s.sym⟩)[q]?=some ⟨s.ker,G.cls s.ker,[],[],s.sym⟩:=a8 z
 refine xp h2.gr mI.2 cl cz λW H3 j fW gW eW=>.setattr (.call (.av (.attr (.var rfl) h2.2 rfl rfl) (.av (.attr (.var rfl) mI.1 rfl rfl) .bn)) j) (.var rfl) (eW _ _ mI.1) rfl rfl ?_
 have h3:=h2.ext eW
 have lD:m_ (H3.set a (.inst 0 [(7,.int q),(31,.tup (vn s.ker)),(32,.int s.sym),(33,.ref I),(34,.ref ma),(14,.ref W)])) a q ⟨s.ker,G.cls s.ker,G.red (G.cls s.ker),[],s.sym⟩ I ma W:=
  ⟨dh (eW _ _ mI.1),eJ (eW _ _ mI.2) (dg mI.2 mI.1 rfl),eJ (eW _ _ mI.3) (dg mI.3 mI.1 rfl),eJ gW (dg gW (eW _ _ mI.1) rfl)⟩
 have h4:=h3.upd q2 e1 e2 (eE.r.set (aP ..)) lD rfl
 rw[List.set_set]at h4
 have q4:(S.set q ⟨s.ker,G.cls s.ker,G.red (G.cls s.ker),[],s.sym⟩)[q]?=some ⟨s.ker,G.cls s.ker,G.red (G.cls s.ker),[],s.sym⟩:=a8 z
 refine yJ h4.gr lD.2 cl cz λD H5 j fD gD eD=>.set (.call (.av (.attr (.var rfl) h4.2 rfl rfl) (.av (.attr (.var rfl) lD.1 rfl rfl) .bn)) j) ?_
 have kd:((G.Ke (G.cls s.ker)).map (·.1))=jK (G.syms (G.cls s.ker)):=by
  rw[aJ.Ke,bF,show((λx:Nat×List Nat=>x.1)∘λt=>(t,jK (G.hO (G.cls s.ker) t)))=id from rfl,gz]
 have sl:=qv h.1 (G.cls s.ker)
 have nn:=eP (aJ.fj (G:=G) (G.cls s.ker))
 have it:JI (.ex (.var 2)) [some (.ref b),some (.ref a),some (.ref D),none] H5 (vn (jK (G.syms (G.cls s.ker)))) (.bc D (nd (λl=>.tup (vn l)) (G.Ke (G.cls s.ker)))) H5:=by
  rw[iE,←kd,←oQ (f:=λl=>V.tup (vn l))]
  exact .pF (.var rfl) (.bc gD) (kD (by rw[de,ae,ae,lw,aJ.Ke,ae,d8];exact aj sl (by decide)))
 have JL:H0[D]?=none:=h4.4.1.none fD
 refine .jW (λ_ (t:Option V×List Nat×List Nat×List cQ)=>[some (.ref b),some (.ref a),some (.ref D),t.1]) (λn t H'=>BX H0 H' g G A b c T LS ND t.2.1 t.2.2.1 t.2.2.2∧H'[D]?=some (.fi (nd (λl=>.tup (vn l)) (G.Ke (G.cls s.ker))))∧IM G S t.2.2.2 q s n∧SA<+:t.2.1)
  (none,SA,MA,_) it ⟨h4.ext (eD.set fD),dh gD,⟨by rw[aU];exact aC _,λj w ne=>a9 (dU ne),λj t w e=>cW (bR (aU.symm▸w)) e,[],q4,rfl,rj⟩,List.prefix_rfl⟩ (λh=>h.2.1) ?_ ?_
 ·intro n X t H6 K hX h6 cg _
  obtain⟨x3,SA1,MA1,S1⟩:=t
  obtain⟨h6,Of,ex,eSA⟩:=h6
  have h6:BX H0 H6 g G A b c T LS ND SA1 MA1 S1:=h6
  refine uV (ker:=jK (G.hO (G.cls s.ker) X)) (sym:=X) h6.2 h6.4 h6.6 h6.z λp Og MA2 S2 H7 j x bs gr PM=>?_
  obtain⟨mv,c1,c2,c3⟩:=ex.4
  obtain⟨ex2,e7⟩:=ex.step z gr hX c1 c2 c3
  have h7:BX H0 H7 g G A b c T LS ND Og MA2 S2:=h6.keep x h6.4.mbl bs (λt m=>gr.app.elim λr w=>(aD.1 (w.1▸m)).elim (h6.5 t) λm=>(w.2 t m).2▸aJ.G9 h.1 cl (aJ.uT (tM hk.2)) X) (gr.kn h6.6)
  have eS:SA<+:Og:=eSA.trans PM
  have Oe:Og[q]?=some a:=eS.elim λw e=>e▸(aG (h.4.4.symm▸z)).trans e1
  have gD7:=x D _ (λm=>(aI.1 m).elim (dg Of h6.4.2 rfl) λm=>dg Of h6.4.3 rfl (ak.1 m)) Of
  refine h7.4.get e7 λa2 ma2 Nb IK k1 k2 Br=>?_
  cases Oe.symm.trans k1
  have X6:=dY.fi (k:=(X:Int)) Of
  rw[kW (ks:=G.Ke (G.cls s.ker)) (b:=jK (G.hO (G.cls s.ker) X)) (az.2 ⟨X,am hX,rfl⟩) (by rw[kd];exact nn)]at X6
  have nX:X∉mv.map (·.1):=by rw[c2];exact gK nn hX
  have ml:mv.length≤8:=by rw[←ae (f:=λx:Nat×Nat=>x.1),c2];exact aj (bJ _ _) (by rw[d8];exact sl)
  refine .bq (.bx (.var rfl) h6.2 rfl rfl (.av (.idx (.var rfl) (.var rfl) (.dict X6)) (.av (.var rfl) .bn)) j) (.attr (.var rfl) Br.1 rfl rfl) (.var rfl) (.bc Br.3 (by rw[lw];exact ri (aj ml (by decide)))) (.nil (cg (some (.int X),Og,MA2,_) rfl ⟨?_,?_,ex2,eS⟩))
  ·refine h7.upd e7 Oe k2 (eE.r.set (aL _ (ak.2 rfl))) (ia:=Nb) (ra:=IK) ⟨eJ Br.1 (dg Br.1 Br.3 rfl),eJ Br.2 (dg Br.2 Br.3 rfl),?_,eJ Br.4 (dg Br.4 Br.3 rfl)⟩ rfl
   rw[dh Br.3];exact congrArg (λd=>some (O.bc d)) (oP nX p)
  ·exact eJ gD7 (dg gD7 Br.3 rfl)
 ·intro t H6 h6
  refine .nil (q' λj=>k t.2.1 t.2.2.1 t.2.2.2 _ j ?_ h6.2.2.1 h6.2.2.2)
  exact h6.1.keep (eE.r.set (ak.2 rfl)) (λy m=>ak.1 m▸⟨_,h6.2.1,.f⟩) (h6.1.4.th h6.2.1 JL) h6.1.5 h6.1.6
end
end
section
inductive Dn (G:aJ) (S:List cQ) (s:cQ):Prop
 |mk (its:s.its=G.cls s.ker) (red:s.red=G.red s.its) (mks:s.mv.map (·.1)=jK (G.syms s.its)) (mt:En G S s.its s.mv)
inductive Bi (G:aJ) (S:List cQ) (n:Nat):Prop
 |mk (z0:∃s,S[0]?=some s∧s.ker=[0]) (le:n≤S.length) (dn:∀q<n,∀s,S[q]?=some s->Dn G S s) (nw:∀q s,n≤q->S[q]?=some s->s.new)
inductive o0 (G:aJ) (S:List cQ):Prop
 |mk (z0:∃s,S[0]?=some s∧s.ker=[0]) (dn:∀(q:Nat) s,S[q]?=some s->Dn G S s) (ko:∀s∈S,Ki G s.ker) (kn:(S.map (·.ker)).Nodup) (z:S.length≤2^18)
inductive bM (H:Hp) (u g:Nat) (G:aJ) (A:GA) (LS:Nat) (SA:List Nat) (S:List cQ):Prop
 |mk (gr:b_ H g G A) (inst:H[u]?=some (.inst 1 [(12,.ref g),(13,.ref LS)])) (ls:H[LS]?=some (.list (SA.map .ref))) (sl:SA.length=S.length) (st:∀(q:Nat) s a,S[q]?=some s->SA[q]?=some a->∃ia ma ra,m_ H a q s ia ma ra) (ok:o0 G S)
theorem IM.ker {G:aJ} {S S':List cQ} {q n:Nat} {s:cQ} (h:IM G S S' q s n) (e:S[q]?=some s) {j:Nat} {t:cQ} (k:S[j]?=some t):∃t',S'[j]?=some t'∧t'.ker=t.ker:=by
 by_cases c:j=q
 ·cases c;cases e.symm.trans k;exact h.4.elim λmv q=>⟨_,q.1,rfl⟩
 ·exact⟨t,(h.2 j (ah.1 k).1 c).trans k,rfl⟩
theorem Bi.step {G:aJ} {S S':List cQ} {n:Nat} {s:cQ} (h:Bi G S n) (e:S[n]?=some s) (x:IM G S S' n s (jK (G.syms (G.cls s.ker))).length):Bi G S' (n+1):=by
 have z:=(ah.1 e).1
 refine⟨?_,aw z x.1,λq hq t k=>?_,λq t hq k=>?_⟩
 ·exact h.1.elim λt q=>(x.ker e q.1).imp λt' w=>⟨w.1,w.2.trans q.2⟩
 ·rcases bj.1 hq with w|w
  ·rw[x.2 q (bK w z) (cr w)]at k
   have d:=h.3 q w t k
   exact⟨d.1,d.2,d.3,λp m=>(d.4 p m).elim λy q=>(x.ker e q.1).imp λy' w=>⟨w.1,w.2.trans q.2⟩⟩
  ·subst w
   obtain⟨mv,c1,c2,c3⟩:=x.4
   cases c1.symm.trans k
   exact⟨rfl,rfl,c2.trans aR,c3⟩
 ·rcases ba q S.length with w|w
  ·rw[x.2 q w (di hq)]at k;exact h.4 q t (aK hq) k
  ·exact x.3 q t w k
section
variable {H0 H H':Hp} {g b:Nat} {G:aJ} {A:GA} {R:Prop}
theorem sg (hG:b_ H g G A) (fb:H[b]?=none) (e:Ext H H') (hb:H'[b]?=some (.inst 2 []))
  (q:∀c T LS ND H2,JR 43 [.ref b,.ref g] H' .none H2->Ext H H2->BX H H2 g G A b c T LS ND [] [] []->R):R:=by
 refine c7 43 [.ref b,.ref g] H' rfl rfl (L:=[some (.ref b),some (.ref g)]) rfl λQ q'=>.setattr (.var rfl) (.var rfl) hb rfl rfl ?_
 have e1:=e.set (o:=.inst 2 [(12,.ref g)]) fb
 have g1:=dh (p:=.inst 2 [(12,.ref g)]) hb
 refine new_ (H:=H'.set b (.inst 2 [(12,.ref g)])) (L:=[some (.ref b),some (.ref g)]) (c:=3) (.av (.var (i:=1) rfl) .bn) rfl λc H2 fc gc ec nw=>?_
 refine tG (hG.ext e1) fc ec gc λT H3 j e3 hC=>.setattr (nw j) (.var rfl) (e3 _ _ g1) rfl rfl ?_
 have e4:=(e1.trans e3).set (o:=.inst 2 [(12,.ref g),(43,.ref c)]) fb
 have g4:=dh (p:=.inst 2 [(12,.ref g),(43,.ref c)]) (e3 _ _ g1)
 have c4:=eJ (p:=.inst 2 [(12,.ref g),(43,.ref c)]) hC.1 (J3 hC.1 (e3 _ _ g1) rfl)
 have t4:=eJ (p:=.inst 2 [(12,.ref g),(43,.ref c)]) hC.2 (dg hC.2 (e3 _ _ g1) rfl)
 refine hN λLS H5 j f5 g5 e5=>.setattr j (.var rfl) (e5 _ _ g4) rfl rfl ?_
 have nb:=dg g5 (e5 _ _ g4) rfl
 have e6:=(e4.trans e5).set (o:=.inst 2 [(12,.ref g),(43,.ref c),(13,.ref LS)]) fb
 have g6:=dh (p:=.inst 2 [(12,.ref g),(43,.ref c),(13,.ref LS)]) (e5 _ _ g4)
 have l6:=eJ (p:=.inst 2 [(12,.ref g),(43,.ref c),(13,.ref LS)]) g5 nb
 have c6:=eJ (p:=.inst 2 [(12,.ref g),(43,.ref c),(13,.ref LS)]) (e5 _ _ c4) (J3 hC.1 (e3 _ _ g1) rfl)
 have t6:=eJ (p:=.inst 2 [(12,.ref g),(43,.ref c),(13,.ref LS)]) (e5 _ _ t4) (dg hC.2 (e3 _ _ g1) rfl)
 refine lQ λND H7 j f7 g7 e7=>.setattr j (.var rfl) (e7 _ _ g6) rfl rfl (.nil (q' λj=>q c T LS ND _ j ((e6.trans e7).set fb) ⟨hG,dh (e7 _ _ g6),⟨eJ (e7 _ _ c6) (J3 hC.1 (e3 _ _ g1) rfl),eJ (e7 _ _ t6) (dg hC.2 (e3 _ _ g1) rfl)⟩,
  ⟨(e6.trans e7).set fb,eJ (e7 _ _ l6) nb,eJ g7 (dg g7 (e7 _ _ g6) rfl),rfl,rfl,λ_ _ _ _ e=>cW dA e,e4.none f5,e6.none f7,rj,rj,.nil,.nil⟩,rj,.nil⟩))
theorem xu {u LS:Nat} (fu:H[u]?=none) (e:Ext H H') (hu:H'[u]?=some (.inst 1 []))
  (q:∀H2,JR 30 [.ref u,.ref g,.ref LS] H' .none H2->Ext H H2->H2[u]?=some (.inst 1 [(12,.ref g),(13,.ref LS)])->R):R:=by
 refine c7 30 [.ref u,.ref g,.ref LS] H' rfl rfl (L:=[some (.ref u),some (.ref g),some (.ref LS)]) rfl λQ q'=>
  .setattr (.var rfl) (.var rfl) hu rfl rfl (.setattr (.var rfl) (.var rfl) (dh hu) rfl rfl (.nil (q' λj=>q _ j ((e.set fu).set fu) (dh (dh hu)))))
theorem Eo {c T LS ND:Nat} (h:BX H0 H g G A b c T LS ND [] [] [])
  (k:∀u SA S H',JR 40 [.ref b] H (.ref u) H'->H0[u]?=none->Ext H0 H'->bM H' u g G A LS SA S->R):R:=by
 refine c7 40 [.ref b] H rfl rfl (L:=[some (.ref b),none]) rfl λQ q'=>?_
 refine uV (ker:=[0]) (sym:= -1) h.2 h.4 .nil (bw _) λp SA MA S H1 j x bs gr _=>?_
 obtain⟨_,s,e,_⟩|⟨_,_,sym,rfl⟩:=gr
 ·exact cW dA e
 have h1:BX H0 H1 g G A b c T LS ND SA MA _:=h.keep x h.4.mbl bs (λs m=>by
  rw[ak.1 m]
  exact⟨λi hi=>by rw[ak.1 hi];exact aJ.sB (G:=G) (r:=0) (d:=0) (h.1.13.1▸by decide) (bw _),mj ..⟩) (mj ..)
 refine .expr (.bx (.var rfl) h.2 rfl rfl (.av (.tup (.av (.bx (.attr (.var rfl) h.2 rfl rfl) h.gr.1 rfl rfl (.av .lit (.av .lit .bn)) (vM h.gr (r:=0) (d:=0) (by decide))) .bn) (ib _ rfl)) (.av .lit .bn)) j) (.set .lit ?_)
 refine .pP (fun(s:Nat×List Nat×List Nat×List cQ)=>[some (.ref b),some (.int s.1)]) (λs H'=>BX H0 H' g G A b c T LS ND s.2.1 s.2.2.1 s.2.2.2∧Bi G s.2.2.2 s.1) (λs=>2^18+1-s.1) (0,SA,MA,_) ⟨h1,⟨_,rfl,rfl⟩,bw _,λq h=>absurd h (bm q),λq s _ e=>?_⟩ ?_
 ·rw[ak.1 (am e)];exact⟨rfl,rfl,rfl⟩
 intro s H2 K hh cg _
 obtain⟨n,SA,MA,S⟩:=s
 have h2:BX H0 H2 g G A b c T LS ND SA MA S:=hh.1
 have bi:Bi G S n:=hh.2
 have X:=JT.bY (H:=H2) (L:=[some (.ref b),some (.int n)]) (a:=.var 1) (b:=.len (.attr (.var 0) 13)) (.var rfl) (.len (.attr (.var rfl) h2.2 rfl rfl) (.list h2.4.2 (by rw[ae,h2.4.4];exact aj h2.z (by decide)))) (.lt _ _)
 rw[ae,h2.4.4]at X
 rcases ba n S.length with z|z
 ·rw[decide_eq_true (bC.2 z)]at X
  have e:=ao z
  have e1:=ao (h2.4.4.symm▸z:n<SA.length)
  refine .yes X (Bq h2 e e1 (bi.4 n _ (aC _) e) λG_ Kk S' H3 j h3 ex _=>.expr (.bx (.var rfl) h2.2 rfl rfl (.av (.idx (.attr (.var rfl) h2.2 rfl rfl) (.var rfl) (.nat h2.4.2 (dy e1))) .bn) j)
   (.set (.bin (.var rfl) .lit (.add _ _ _)) (.nil (cg (n+1,G_,Kk,S') rfl ⟨h3,bi.step e ex⟩ ?_))))
  exact hV (dc (aj (aK z) h2.z)) (bT n)
 ·rw[decide_eq_false (λh=>bE.2 z (bC.1 h))]at X
  have en:n=S.length:=bP bi.2 z
  subst en
  refine .no X (new_ (H:=H2) (L:=[some (.ref b),some (.int S.length)]) (c:=1) (.av (.attr (.var (i:=0) rfl) h2.2 (f:=12) rfl rfl) (.av (.attr (.var (i:=0) rfl) h2.2 (f:=13) rfl rfl) .bn)) rfl λu H3 fu gu eu nw=>xu fu eu gu λH4 j e4 hu=>.ret (nw j) (q' λj=>k u SA S H4 j (h2.4.1.none fu) (h2.4.1.trans e4)
   ⟨h2.1.ext (h2.4.1.trans e4),hu,e4 _ _ h2.4.2,h2.4.4,λq s a k1 k2=>?_,bi.1,λq s e=>bi.3 q (ah.1 e).1 s e,h2.5,h2.6,h2.z⟩))
  refine h2.4.get k1 λa' ma ia ra e1 e2 st=>?_
  cases k2.symm.trans e1
  exact⟨ia,ma,ra,e4 _ _ st.1,e4 _ _ st.2,e4 _ _ st.3,e4 _ _ st.4⟩
theorem Ep (hG:b_ H g G A) (q:∀u LS SA S H',JR 5 [.ref g] H (.ref u) H'->H[u]?=none->Ext H H'->bM H' u g G A LS SA S->R):R:=by
 refine c7 5 [.ref g] H rfl rfl (L:=[some (.ref g)]) rfl λQ q'=>?_
 refine new_ (H:=H) (L:=[some (.ref g)]) (c:=2) (.av (.var (i:=0) rfl) .bn) rfl λb H1 f1 g1 e1 nw=>?_
 refine sg hG f1 e1 g1 λc T LS ND H2 j e2 h=>Eo h λu SA S H3 j3 f3 e3 au=>.ret (.bx (nw j) h.2 rfl rfl .bn j3) (q' λj=>q u LS SA S H3 j f3 e3 au)
end
end
section
section
variable {κ:Type} [DecidableEq κ]
variable {k:κ}
theorem Er {d e:List (κ×V)}:d7 k (d++e)=(d7 k d).or (d7 k e):=by unfold d7;rw[List.find?_append];cases List.find? _ d<;>rfl
theorem uW (k j:κ) (v:V) (d:List (κ×V)):d7 k (dput j v d)=if j=k then some v else d7 k d:=by
 by_cases h:d.any (λp=>decide (p.1=j))=true
 ·rw[dput,if_pos h]
  by_cases e:j=k
  ·rw[if_pos e,←e]
   induction d with
   |nil=>exact ff h
   |cons p l ih=>
    rw[bQ,tK]
    by_cases z:p.1=j
    ·rw[if_pos z,decide_eq_true (show(p.1,v).1=j from z)];rfl
    ·rw[if_neg z,decide_eq_false z];exact ih (by rw[List.any_cons,decide_eq_false z]at h;exact h)
  ·rw[if_neg e];clear h
   induction d with
   |nil=>rfl
   |cons p l ih=>
    rw[bQ,tK,tK,ih]
    by_cases z:p.1=j
    ·rw[if_pos z,decide_eq_false (show ¬(p.1,v).1=k from z▸e)];rfl
    ·rw[if_neg z]
 ·have n:∀p∈d,p.1≠j:=λp m z=>h (jb.2 ⟨p,m,decide_eq_true z⟩)
  rw[sx n,Er,tK]
  by_cases e:j=k
  ·rw[if_pos e,←e,vQ n,decide_eq_true rfl];rfl
  ·rw[if_neg e,decide_eq_false e];exact oE
theorem tO (k:κ) (v:V) (d:List (κ×V)):(dput k v d).length≤d.length+1:=by
 unfold dput;by_cases z:d.any (λp=>decide (p.1=k))=true
 ·rw[if_pos z,ae];exact iP _
 ·rw[if_neg z,aq];exact aC _
end
namespace aJ
variable {G:aJ}
theorem Al {its:List Nat} {r:Nat}:r∈G.red its↔∃i∈its,G.af i=none∧G.rl i≠0∧G.rl i=r:=by
 rw[red,dI,az]
 simp only[bz,lZ,hK,bne_iff_ne,and_assoc]
end aJ
variable {H:Hp} {u g LS:Nat} {G:aJ} {A:GA} {SA:List Nat} {S:List cQ} {R:Prop}
theorem bM.ext {H':Hp} (h:bM H u g G A LS SA S) (e:Ext H H'):bM H' u g G A LS SA S:=
 ⟨h.1.ext e,e _ _ h.2,e _ _ h.3,h.4,λq s a k1 k2=>(h.5 q s a k1 k2).imp λia q=>q.imp λma q=>q.imp λra st=>⟨e _ _ st.1,e _ _ st.2,e _ _ st.3,e _ _ st.4⟩,h.6⟩
theorem bM.at_ {q a:Nat} (h:bM H u g G A LS SA S) (e:SA[q]?=some a) (k:∀s ia ma ra,S[q]?=some s->m_ H a q s ia ma ra->R):R:=by
 have z:=(ah.1 e).1
 have e1:=ao (h.4▸z:q<S.length)
 obtain⟨ia,ma,ra,st⟩:=h.5 _ _ _ e1 e
 exact k _ ia ma ra e1 st
theorem bM.get {q:Nat} {s:cQ} (h:bM H u g G A LS SA S) (e:S[q]?=some s) (k:∀a ia ma ra,SA[q]?=some a->m_ H a q s ia ma ra->R):R:=by
 have z:=(ah.1 e).1
 have e1:=ao (h.4.symm▸z:q<SA.length)
 obtain⟨ia,ma,ra,st⟩:=h.5 _ _ _ e e1
 exact k _ ia ma ra e1 st
theorem o0.yN {hG:b_ H g G A} (h:o0 G S) {q:Nat} {s:cQ} (e:S[q]?=some s):∀i∈s.its,i<G.own.length:=by
 rw[(h.2 q s e).1];exact aJ.yK hG (h.3 s (am e)).1
theorem bM.mJ (h:bM H u g G A LS SA S) {q:Nat} {s:cQ} (e:S[q]?=some s):∀r∈s.red,0<r∧r<5:=λr m=>by
 rw[(h.6.2 q s e).2]at m
 obtain⟨i,hi,_,r0,rfl⟩:=aJ.Al.1 m
 have:=(G.i9 (o0.yN (hG:=h.1) h.6 e i hi)).2.1
 rw[h.1.13.1]at this
 exact⟨dH r0,this⟩
theorem bM.rq (h:bM H u g G A LS SA S) {q:Nat} {s:cQ} (e:S[q]?=some s):s.red.Nodup:=by
 rw[(h.6.2 q s e).2,aJ.red]
 refine eP ?_
 rw[c9,lc]
 have hk:=h.6.3 s (am e)
 have n:s.its.Nodup:=by rw[(h.6.2 q s e).1];exact aJ.uT (tM hk.2)
 refine lJ ?_ (ez _ n)
 intro a b ha hb ne e2
 have a1:=bz.1 ha
 have b1:=bz.1 hb
 simp only[lZ,hK]at a1 b1
 have la:=o0.yN (hG:=h.1) h.6 e a a1.1
 have lb:=o0.yN (hG:=h.1) h.6 e b b1.1
 have dt:∀i,i<G.own.length->G.af i=none->G.dt i=(G.right (G.rl i)).length:=λi li ai=>
   bP (Nat.sub_le_iff_le_add'.2 (G.i9 li).2.2.2) (d3.1 ai)
 apply ne
 rw[←aJ.qw la,←aJ.qw lb,dt a la a1.2.1,dt b lb b1.2.1,e2]
theorem bM.qx (h:bM H u g G A LS SA S) {q:Nat} {s:cQ} (e:S[q]?=some s):s.red.length≤5:=by
 exact aT (n:=5)▸br (h.rq e) λr m=>bp.2 (h.mJ e r m).2
end
section
noncomputable def qy (S:List cQ) (m:Nat->Nat->Nat) (n k:Nat) (d:List (List Int×V)):Prop:=
 ∀(q:Nat) (s:cQ) (j r:Nat),S[q]?=some s->s.red[j]?=some r->(q<n∨(q=n∧j<k))->d7 [(q:Int),(r:Int)] d=some (vI (m q r))
theorem qy.zero {S m}:qy S m 0 0 []:=λq s j r _ _ c=>c.elim (λc=>absurd c (bm _)) λc=>absurd c.2 (bm _)
theorem qy.put {S m n k d} {s:cQ} {r:Nat} (h:qy S m n k d) (e:S[n]?=some s) (hr:s.red[k]?=some r) (nd:s.red.Nodup):qy S m n (k+1) (dput [(n:Int),(r:Int)] (vI (m n r)) d):=by
 intro q t j x e1 e2 c
 rw[uW]
 by_cases z:[(n:Int),(r:Int)]=[(q:Int),(x:Int)]
 ·rw[if_pos z]
  have z1:=a_.1 (bA z).1
  have z2:=a_.1 (bA (bA z).2).1
  rw[z1,z2]
 ·rw[if_neg z]
  refine h q t j x e1 e2 ?_
  exact c.imp id λc=>⟨c.1,iI (bB c.2) λe3=>z (by
   cases e.symm.trans (c.1▸e1);cases hr.symm.trans (e3▸e2);rw[c.1])⟩
theorem qy.next {S m n d} {s:cQ} (h:qy S m n s.red.length d) (e:S[n]?=some s):qy S m (n+1) 0 d:=by
 intro q t j x e1 e2 c
 refine h q t j x e1 e2 ?_
 refine c.elim (λc=>(bj.1 c).imp id λc=>⟨c,?_⟩) λc=>absurd c.2 (bm _)
 cases e.symm.trans (c▸e1);exact(ah.1 e2).1
inductive Fy (H:Hp) (M:Nat) (S:List cQ) (m:Nat->Nat->Nat) (d:List (List Int×V)):Prop
 |mk (at_:H[M]?=some (.bV d)) (get:∀(q:Nat) s r,S[q]?=some s->r∈s.red->d7 [(q:Int),(r:Int)] d=some (vI (m q r)))
theorem qy.all {S m d} (h:qy S m S.length 0 d) (q:Nat) (s:cQ) (r:Nat) (e:S[q]?=some s) (mr:r∈s.red):d7 [(q:Int),(r:Int)] d=some (vI (m q r)):=by
 obtain⟨j,hj⟩:=aO mr
 exact h q s j r e hj (.inl (ah.1 e).1)
variable {H:Hp} {u g LS:Nat} {G:aJ} {A:GA} {SA:List Nat} {S:List cQ} {R:Prop}
theorem vT (h:bM H u g G A LS SA S)
  (q:∀M fs ws d H',JR 16 [.ref u] H (.ref M) H'->H[M]?=none->Ext H H'->G1 G fs->J9 G fs ws->Fy H' M S (λ_ r=>ws.getD (G.left r) 0) d->R):R:=by
 refine c7 16 [.ref u] H rfl rfl (L:=[some (.ref u),none,none,none,none]) rfl λQ q'=>?_
 refine r_ h.1 λW fs ws H1 j fW gW eW f1 f2=>.set (.call (.av (.attr (.var rfl) h.2 rfl rfl) .bn) j) ?_
 refine lQ λM H2 j fM gM eM=>.set j ?_
 have h2:=(h.ext eW).ext eM
 have nM:∀{b:Nat} {o:O},H1[b]?=some o->b∉[M]:=λk=>yI fM k
 have gW2:=eM _ _ gW
 refine .r9 (λ_ (t:Option V×Option V×List (List Int×V))=>[some (.ref u),some (.ref W),some (.ref M),t.1,t.2.1]) (λn t H'=>eE [M] H2 H'∧H'[M]?=some (.bV t.2.2)∧qy S (λ_ r=>ws.getD (G.left r) 0) n 0 t.2.2∧t.2.2.length≤5*n) (none,none,[])
  (.pF (.attr (.var rfl) h2.2 rfl rfl) (.list h2.3) (by rw[ae,h2.4];exact aj h.6.5 (by decide))) ⟨.r,gM,qy.zero,bw _⟩ (λt=>t.1 _ _ (nM (eW _ _ h.3)) h2.3) ?_ ?_
 ·intro n a t H3 K ha h3 cg _
  obtain⟨x3,x4,d⟩:=t
  obtain⟨x,gM3,mk,dl⟩:=h3
  refine(h.ext eW).at_ ha λs ia ma ra e st=>?_
  have e3:Ext H1 H3:=x.new fM eM
  have zn:n<S.length:=(ah.1 e).1
  have rl:=h.qx e
  refine .jW (λ_ (t:Option V×List (List Int×V))=>[some (.ref u),some (.ref W),some (.ref M),some (.ref a),t.1]) (λk t H'=>eE [M] H3 H'∧H'[M]?=some (.bV t.2)∧qy S (λ_ r=>ws.getD (G.left r) 0) n k t.2∧t.2.length≤5*n+k) (x4,d)
   (.dT (.attr (.var rfl) (e3 _ _ st.1) rfl rfl) (e3 _ _ st.4) (by rw[aX];exact aj rl (by decide))) ⟨.r,gM3,mk,dl⟩ (λt=>t.1 _ _ (nM st.4) (e3 _ _ st.4)) ?_ ?_
  ·intro k r t H4 K hr h4 cg _
   obtain⟨y4,d⟩:=t
   obtain⟨x4,IO,mk,dl⟩:=h4
   have e4:Ext H1 H4:=(x.trans x4).new fM eM
   have r5:=(h.mJ e r (am hr)).2
   have kl:=(ah.1 hr).1
   refine(h.1.ext eW).at_ r5 λar ru r1 r2 r3 r4 _=>?_
   have l8:=iF.jV h.1.13 r5
   have gl:=cN (getD_at (d:=0) (f2.1.symm▸l8:G.left r<ws.length))
   have zz:=h.6.5
   refine .bq (.idx (.var rfl) (.attr (.idx (.attr (.attr (.var rfl) (e4 _ _ (eW _ _ h.2)) rfl rfl) (e4 _ _ (eW _ _ h.1.1)) rfl rfl) (.var rfl) (.nat (e4 _ _ (eW _ _ h.1.2)) (dy r1))) (e4 _ _ r3) rfl rfl) (.nat (e4 _ _ gW) (r4▸gl))) (.var rfl)
    (.tup (.av (.attr (.var rfl) (e4 _ _ st.1) rfl rfl) (.av (.var rfl) .bn)) (ib _ rfl)) (.bV (k:=[(n:Int),(r:Int)]) IO (aA dl ?_)) (.nil (cg (some (.int r),_) rfl ⟨x4.set (ak.2 rfl),dh IO,mk.put e hr (h.rq e),aj (tO _ _ _) (aM dl)⟩))
   exact aw (gG (bH 5 (aj (aK zn) zz)) (aw kl rl)) (by decide)
  ·intro t H4 h4
   exact .nil (cg (some (.ref a),t.1,t.2) rfl ⟨x.trans h4.1,h4.2.1,h4.2.2.1.next e,aj h4.2.2.2 (bZ rl _)⟩)
 ·intro t H3 h3
  exact .ret (.var rfl) (q' λj=>q M fs ws t.2.2 H3 j (eW.none fM) (eW.trans (h3.1.new fM eM)) f1 f2 ⟨h3.2.1,qy.all (h.4▸h3.2.2.1)⟩)
end
section
noncomputable def Kl (l:Nat) (f:Option Nat) (rows:List Nat):List Nat:=f.elim rows λs=>rows.set l (rows.getD l 0|||1<<<s)
noncomputable def IP (f1 f2 f3 f4:Option Nat):List Nat:=Kl 7 f4 (Kl 7 f3 (Kl 6 f2 (Kl 6 f1 (Kl 5 (some 6) (List.replicate 8 0)))))
noncomputable def Nc (rows:List Nat):Bool:=(List.range 8).all λs=>rows.getD s 0|||(tr rows).getD s 0==(tr rows).getD s 0&&
 (List.range 8).all λD=>!((tr rows).getD s 0).testBit D||rows.getD D 0|||(tr rows).getD s 0==(tr rows).getD s 0
theorem Hc:([3,4,7].map some|>.all λf1=>(none::[3,4,6,7].map some).all λf2=>(none::[3,4].map some).all λf3=>(none::[3,4,6,7].map some).all λf4=>Nc (IP f1 f2 f3 f4))=true:=by decide+kernel
noncomputable def Km (G:aJ) (n s D:Nat):Prop:=∃r w,r<n∧G.left r=s∧G.right r=D::w
noncomputable def Ld (G:aJ) (s D:Nat):Prop:=Km G 5 s D
inductive Fz (G:aJ):Nat->Nat->Prop
 |one {s D:Nat} (h:Ld G s D):Fz G s D
 |more {s D E:Nat} (h:Fz G s D) (k:Ld G D E):Fz G s E
theorem Fz.trans {G:aJ} {a b c:Nat} (h:Fz G a b) (k:Fz G b c):Fz G a c:=by
 induction k with
 |one k=>exact .more h k
 |more _ k ih=>exact .more ih k
theorem Kn {P:Nat->Nat->Prop} (t:∀a b c,P a b->P b c->P a c) {l:List Nat} (h:∀s D,(l.getD s 0).testBit D=true->P s D) (l8:l.length=8):∀s D,((tr l).getD s 0).testBit D=true->P s D:=by
 have A:∀m l i,l.length=8->i<8->(∀s D,(l.getD s 0).testBit D=true->P s D)->∀s D,((yG m l i).getD s 0).testBit D=true->P s D:=λm l i e z h s D k=>by
  unfold yG at k
  cases c:(l.getD i 0).testBit m
  ·rw[c]at k;exact h s D k
  ·rw[c]at k
   replace k:((l.set i (l.getD i 0|||l.getD m 0)).getD s 0).testBit D=true:=k
   rw[qq (e.symm▸z)]at k;split at k
   ·next es=>
    subst es
    rw[bW,fQ]at k
    exact k.elim (h s D) λk=>t s m D (h s m c) (h m D k)
   ·exact h s D k
 have B:∀m l n,l.length=8->(∀s D,(l.getD s 0).testBit D=true->P s D)->n≤8->∀s D,(((List.range n).foldl (yG m) l).getD s 0).testBit D=true->P s D:=λm l n e h=>by
  induction n with
  |zero=>exact λ_=>h
  |succ n ih=>intro z;rw[d5];exact A _ _ _ (by rw[qr,e]) z (ih (cv z))
 have C:∀n,∀s D,(((List.range n).foldl G3 l).getD s 0).testBit D=true->P s D:=λn=>by
  induction n with
  |zero=>exact h
  |succ n ih=>rw[d5];exact B _ _ 8 (by rw[oO,l8]) ih (aC _)
 exact C 8
variable {G:aJ} {A:GA} {g:Nat} {H:Hp}
theorem Ko (l:List Nat) (r:Nat):G.Fx l r=Kl (G.left r) (G.right r).head? l:=by
 cases e:G.right r with
 |nil=>exact xb e
 |cons s w=>exact xc e
theorem vU (o:G.Ok) {r:Nat} (h:r<5):G.left r=if r=0 then 5 else if r<3 then 6 else 7:=by
 have e:=ao (l:=G.rules) (i:=r) (o.1.symm▸h)
 have:=o.2 r _ e
 rw[aJ.left,e];exact this
theorem qz {r:Nat} {x:Ru} (e:G.rules[r]?=some x):G.right r=x.right:=by rw[aJ.right,e];rfl
theorem Kp (o:G.Ok):G.wZ 5=IP (G.right 1).head? (G.right 2).head? (G.right 3).head? (G.right 4).head?:=by
 have r0:(G.right 0).head?=some 6:=by
  have e:=ao (l:=G.rules) (i:=0) (o.1.symm▸by decide)
  rw[qz e,show(G.rules[0]'_).right=[6,0] from ax ((congrArg (Option.map _) e).symm.trans o.4)];rfl
 have A:∀l r k,r<5->(if r=0 then 5 else if r<3 then 6 else 7)=k->G.Fx l r=Kl k (G.right r).head? l:=λl r k z e=>by rw[Ko,vU o z,e]
 refine(A _ 4 7 (by decide) rfl).trans (congrArg _ ((A _ 3 7 (by decide) rfl).trans (congrArg _ ((A _ 2 6 (by decide) rfl).trans (congrArg _ ((A _ 1 6 (by decide) rfl).trans (congrArg _ ((A _ 0 5 (by decide) rfl).trans (by rw[r0])))))))))
theorem Es {w l:List Nat} (h:∀a∈w,a∈l):w.head?∈none::l.map some:=by
 cases w with
 |nil=>exact .head _
 |cons a w=>exact .tail _ (az.2 ⟨a,h a (.head _),rfl⟩)
theorem Nd {a b c d s:Nat} (h:s=a∨s=b∨s=c∨s=d):s∈[a,b,c,d]:=aI.2 (h.imp id λh=>aI.2 (h.imp id λh=>aI.2 (h.imp id ak.2)))
theorem Et (o:G.Ok):Nc (G.wZ 5)=true:=by
 have at_:∀r,r<5->∃x,G.rules[r]?=some x∧G.right r=x.right:=λr h=>⟨_,ao (o.1.symm▸h),qz (ao (o.1.symm▸h))⟩
 have any:∀r,0<r->r<5->(G.right r).head?∈none::[3,4,6,7].map some:=λr z h=>(at_ r h).elim λx q=>q.2▸Es λa m=>Nd (o.5 r x q.1 z a m)
 have h1:(G.right 1).head?∈[3,4,7].map some:=(at_ 1 (by decide)).elim λx q=>(o.6 x q.1).elim λs w=>w.elim λl w=>by
  rw[q.2,w.1]
  have:=o.5 1 x q.1 (by decide) s (w.1▸ .head _)
  exact az.2 ⟨s,aI.2 (this.imp id λk=>aI.2 (k.imp id λk=>k.elim (λk=>(w.2 k).elim) ak.2)),rfl⟩
 have h3:(G.right 3).head?∈none::[3,4].map some:=(at_ 3 (by decide)).elim λx q=>q.2▸Es λa m=>aI.2 ((o.7 x q.1 a m).imp id ak.2)
 rw[Kp o]
 exact bv.1 (bv.1 (bv.1 (bv.1 Hc _ h1) _ (any 2 (by decide) (by decide))) _ h3) _ (any 4 (by decide) (by decide))
theorem Eu {a b D:Nat} (e:a|||b=b) (h:a.testBit D=true):b.testBit D=true:=by rw[←e,bW,h];rfl
theorem Nf (o:G.Ok) {s D:Nat} (z:s<8) (h:((G.wZ 5).getD s 0).testBit D=true):(G.B7.getD s 0).testBit D=true:=
 Eu (beq_iff_eq.1 (gy.1 (bv.1 (Et o) s (bp.2 z))).1) h
theorem Ng (o:G.Ok) {s D E:Nat} (z:s<8) (zD:D<8) (h:(G.B7.getD s 0).testBit D=true) (k:((G.wZ 5).getD D 0).testBit E=true):(G.B7.getD s 0).testBit E=true:=by
 have:=bv.1 (gy.1 (bv.1 (Et o) s (bp.2 z))).2 D (bp.2 zD)
 exact((fQ ..).mp this).elim (λc=>ff ((kZ _|>.mp c).symm.trans h)) λc=>Eu (beq_iff_eq.1 c) k
theorem Ev {n k:Nat}:(List.replicate n 0).getD k 0=0:=by
 rw[aE,cZ];by_cases z:k<n
 ·rw[if_pos z];rfl
 ·rw[if_neg z];rfl
theorem Km.succ {n s D:Nat}:Km G (n+1) s D↔Km G n s D∨G.left n=s∧∃w,G.right n=D::w:=
 ⟨λh=>h.elim λr q=>q.elim λw q=>(bj.1 q.1).elim (λk=>.inl ⟨r,w,k,q.2⟩) λk=>.inr (k▸⟨q.2.1,w,q.2.2⟩),
  λh=>h.elim (λh=>h.elim λr q=>q.elim λw q=>⟨r,w,d9 q.1,q.2⟩) λh=>h.2.elim λw q=>⟨n,w,bT _,h.1,q⟩⟩
theorem Am (hG:b_ H g G A) (s D n:Nat) (zn:n≤5):((G.wZ n).getD s 0).testBit D=true↔Km G n s D:=by
 induction n with
 |zero=>exact⟨λh=>ff ((show(((List.replicate 8 0).getD s 0).testBit D)=false by rw[Ev,je]).symm.trans h),λh=>h.elim λr h=>h.elim λw h=>absurd h.1 (bm _)⟩
 |succ n ih=>
  refine Iff.trans ?_ Km.succ.symm
  rw[show G.wZ (n+1)=G.Fx (G.wZ n) n from d5 _ _ _,←ih (cv zn)]
  cases c:G.right n with
  |nil=>rw[xb c];exact⟨.inl,λh=>h.elim id λh=>h.2.elim λw q=>absurd q (jg _ _).symm⟩
  |cons a v=>
   rw[xc c,qq (by rw[mH];exact iF.jV hG.13 zn)]
   by_cases e:s=G.left n
   ·rw[if_pos e,←e,bW,fQ,f_,pq,decide_eq_true_eq]
    exact or_congr sJ ⟨λh=>⟨rfl,v,h▸rfl⟩,λh=>h.2.elim λw q=>(bA q).1⟩
   ·rw[if_neg e];exact⟨.inl,λh=>h.elim id λh=>absurd h.1.symm e⟩
theorem Nh (hG:b_ H g G A) {s D:Nat} (h:(G.B7.getD s 0).testBit D=true):Fz G s D:=
 Kn (P:=Fz G) (λ_ _ _ a b=>a.trans b) (λs D h=>.one ((Am hG s D 5 (aC _)).1 h)) (mH 5) s D h
theorem An {α:Type} {a:α} {l:List α} {p:α->Prop}:(∃x,x∈a::l∧p x)↔p a∨∃x,x∈l∧p x:=
 ⟨λh=>h.elim λx q=>(aI.1 q.1).elim (λe=>.inl (e▸q.2)) λm=>.inr ⟨x,m,q.2⟩,λh=>h.elim (λh=>⟨a,.head _,h⟩) λh=>h.elim λx q=>⟨x,.tail _ q.1,q.2⟩⟩
noncomputable def Wn (G:aJ) (D i:Nat):Prop:=∃s,G.af i=some s∧(D=s∨(G.B7.getD s 0).testBit D=true)
theorem yO (ker:List Nat) (D:Nat):(G.wn ker).testBit D=true↔∃i∈ker,Wn G D i:=by
 have step:∀m i,(G.G6 m i).testBit D=true↔m.testBit D=true∨Wn G D i:=λm i=>by
  unfold Wn
  cases e:G.af i with
  |none=>rw[D9 e];exact⟨.inl,λh=>h.elim id λh=>h.elim λs q=>absurd q.1.symm (o7 s)⟩
  |some s=>
   rw[D_ e,bW,bW,fQ,fQ,f_,pq,decide_eq_true_eq,or_assoc]
   exact or_congr sJ ⟨λh=>⟨s,rfl,h.imp cq id⟩,λh=>h.elim λs' q=>(ax q.1).symm▸q.2.imp cq id⟩
 have A:∀(l:List Nat) m,(l.foldl G.G6 m).testBit D=true↔m.testBit D=true∨∃i∈l,Wn G D i:=λl=>by
  induction l with
  |nil=>exact λm=>⟨.inl,λh=>h.elim id λh=>h.elim λi q=>absurd q.1 aQ⟩
  |cons i l ih=>exact λm=>(ih _).trans ((or_congr (step m i) sJ).trans (or_assoc.trans (or_congr sJ An.symm)))
 exact(A ker 0).trans ⟨λh=>h.elim (λh=>ff ((je D).symm.trans h)) id,.inr⟩
inductive yP (G:aJ) (ker:List Nat):Nat->Prop
 |ker {i:Nat} (h:i∈ker):yP G ker i
 |cl {i r:Nat} (h:yP G ker i) (e:G.af i=some (G.left r)) (z:r<5):yP G ker (G.off r)
namespace aJ
theorem rO (o:G.Ok) {r:Nat} (z:r<5):G.off r<G.own.length∧G.rl (G.off r)=r∧G.dt (G.off r)=0:=by
 have z':r<G.rules.length:=o.1▸z
 exact⟨sB (d:=0) z' (bw _),kX (d:=0) z' (bw _),sA (d:=0) z' (bw _)⟩
theorem kY {ker:List Nat} {i:Nat}:i∈G.cls ker↔i∈ker∨i∈G.adds ker:=by rw[cls,aD,dI,dI]
theorem qA (o:G.Ok) {ker:List Nat} {i:Nat}:i∈G.adds ker↔∃r,r<5∧G.off r=i∧(G.wn ker).testBit (G.left r)=true∧i∉ker:=by
 refine jf.trans ⟨λh=>h.elim λs q=>(kt.1 q.2).1.elim λr w=>?_,λh=>h.elim λr q=>?_⟩
 ·have:G.left r=s:=congrArg (λo:Option Nat=>o.getD 0) w.2.1
  exact⟨r,o.1▸w.1,w.2.2,this.symm▸eK.1 q.1,(kt.1 q.2).2⟩
 ·have z':r<G.rules.length:=o.1▸q.1
  exact⟨G.left r,eK.2 q.2.2.1,kt.2 ⟨⟨r,z',by rw[left,ao z'];rfl,q.2.1⟩,q.2.2.2⟩⟩
theorem af0 {r s:Nat} (h:G.off r<G.own.length∧G.rl (G.off r)=r∧G.dt (G.off r)=0) (e:G.af (G.off r)=some s):∃v,G.right r=s::v:=by
 rw[af,h.2.1,h.2.2]at e
 cases c:G.right r with
 |nil=>rw[c]at e;exact cW rfl e
 |cons a w=>rw[c]at e;exact⟨w,congrArg (· ::w) (ax e)⟩
theorem Ao (hG:b_ H g G A) {ker:List Nat} {i r:Nat} (hi:i∈G.cls ker) (e:G.af i=some (G.left r)) (z:r<5):G.off r∈G.cls ker:=by
 have b:(G.wn ker).testBit (G.left r)=true:=(yO ..).2<|(kY.1 hi).elim (λm=>⟨i,m,_,e,.inl rfl⟩) λm=>((qA hG.13).1 m).elim λq w=>
  ((yO ker _).1 w.2.2.1).elim λk v=>v.2.elim λs u=>by
   have I:=rO hG.13 w.1
   have row:Km G 5 (G.left q) (G.left r):=(af0 I (w.2.1▸e)).elim λv f=>⟨q,v,w.1,rfl,f⟩
   have row:=(Am hG _ _ 5 (aC _)).2 row
   have s8:=xd hG u.1
   exact⟨k,v.1,s,u.1,.inr (u.2.elim (λc=>Nf hG.13 s8 (c▸row)) λc=>Ng hG.13 s8 (iF.jV hG.13 w.1) c row)⟩
 by_cases m:G.off r∈ker
 ·exact kY.2 (.inl m)
 ·exact kY.2 (.inr ((qA hG.13).2 ⟨r,z,rfl,b,m⟩))
theorem Ap (hG:b_ H g G A) {ker:List Nat} {i:Nat} (hi:i∈G.cls ker):yP G ker i:=by
 have step:∀{j s D},yP G ker j->G.af j=some s->Ld G s D->∃j',yP G ker j'∧G.af j'=some D:=λd e l=>l.elim λp l=>l.elim λw l=>
  ⟨G.off p,.cl d (l.2.1▸e) l.1,by rw[af,(rO hG.13 l.1).2.1,(rO hG.13 l.1).2.2,l.2.2];rfl⟩
 have A:∀{s D},Fz G s D->∀j,yP G ker j->G.af j=some s->∃j',yP G ker j'∧G.af j'=some D:=λL=>by
  induction L with
  |one h=>exact λj d e=>step d e h
  |more _ h ih=>exact λj d e=>(ih j d e).elim λj q=>step q.1 q.2 h
 exact(kY.1 hi).elim .ker λm=>((qA hG.13).1 m).elim λq w=>((yO ker _).1 w.2.2.1).elim λk v=>v.2.elim λs u=>w.2.1▸(show yP G ker (G.off q) from
  u.2.elim (λc=>.cl (.ker v.1) (c▸u.1) w.1) λc=>(A (Nh hG c) k (.ker v.1) u.1).elim λj q=>.cl q.1 q.2 w.1)
theorem Hd (hG:b_ H g G A) {ker:List Nat} {i:Nat} (h:yP G ker i):i∈G.cls ker:=by
 induction h with
 |ker m=>exact kY.2 (.inl m)
 |cl _ e z ih=>exact Ao hG ih e z
theorem Aq (hG:b_ H g G A) {ker:List Nat} {i:Nat} (hi:i∈G.cls ker):i∈ker∨G.dt i=0:=
 (kY.1 hi).imp id λm=>((qA hG.13).1 m).elim λq w=>(congrArg G.dt w.2.1).symm.trans (rO hG.13 w.1).2.2
end aJ
noncomputable def It (S:List cQ) (q i:Nat):Prop:=∃s,S[q]?=some s∧i∈s.its
noncomputable def Mv (S:List cQ) (q X p:Nat):Prop:=∃s,S[q]?=some s∧(X,p)∈s.mv
section
variable {S:List cQ} {q X p i:Nat}
theorem It.at {s:cQ} (k:It S q i) (e:S[q]?=some s):i∈s.its:=k.elim λs' w=>ax (w.1.symm.trans e)▸w.2
theorem It.lt (hG:b_ H g G A) (h:o0 G S) (k:It S q i):i<G.own.length:=
 k.elim λs w=>aJ.yK hG (h.3 s (am w.1)).1 i ((h.2 q s w.1).1▸w.2)
theorem It.mv (hG:b_ H g G A) (h:o0 G S) (k:It S q i) (e:G.af i=some X):∃p,Mv S q X p:=by
 obtain⟨s,e1,m⟩:=k
 have:X∈s.mv.map (·.1):=by rw[(h.2 q s e1).3];exact dI.2 (aJ.oh.2 ⟨i,m,e⟩)
 obtain⟨⟨_,p⟩,m2,rfl⟩:=az.1 this
 exact⟨p,s,e1,m2⟩
theorem Mv.ker (h:o0 G S) (k:Mv S q X p):∃s t,S[q]?=some s∧S[p]?=some t∧t.ker=jK (G.hO s.its X):=by
 obtain⟨s,e,m⟩:=k
 obtain⟨t,a,b⟩:=(h.2 q s e).4 _ m
 exact⟨s,t,e,a,b⟩
theorem tP {its:List Nat}:i∈G.hO its X↔∃j∈its,G.af j=some X∧j+1=i:=by
 rw[aJ.hO,az]
 simp only[bz,beq_iff_eq,and_assoc]
theorem It.next (h:o0 G S) (k:It S q i) (e:G.af i=some X) (m:Mv S q X p):It S p (i+1):=
 (m.ker h).elim λs w=>w.elim λt w=>⟨t,w.2.1,by rw[(h.2 p t w.2.1).1,aJ.kY,w.2.2];exact .inl (dI.2 (tP.2 ⟨i,k.at w.1,e,rfl⟩))⟩
theorem It.prev (hG:b_ H g G A) (h:o0 G S) (k:It S p i) (d:G.dt i≠0) (m:Mv S q X p):∃j,It S q j∧j+1=i∧G.af j=some X:=
 (m.ker h).elim λs w=>w.elim λt w=>by
  have mi:=k.at w.2.1
  rw[(h.2 p t w.2.1).1]at mi
  exact(aJ.Aq hG mi).elim (λc=>(tP.1 (dI.1 (w.2.2▸c))).elim λj v=>⟨j,⟨s,w.1,v.1⟩,v.2.2,v.2.1⟩) λc=>(d c).elim
theorem It.close (hG:b_ H g G A) (h:o0 G S) (k:It S q i) {r:Nat} (e:G.af i=some (G.left r)) (z:r<5):It S q (G.off r):=
 k.elim λs w=>⟨s,w.1,by rw[(h.2 q s w.1).1];exact aJ.Ao hG ((h.2 q s w.1).1▸w.2) e z⟩
theorem Mv.it (h:o0 G S) (k:Mv S q X p):∃i,It S q i∧G.af i=some X:=by
 obtain⟨s,e,m⟩:=k
 have:X∈s.mv.map (·.1):=az.2 ⟨_,m,rfl⟩
 rw[(h.2 q s e).3]at this
 obtain⟨i,a,b⟩:=aJ.oh.1 (dI.1 this)
 exact⟨i,⟨s,e,a⟩,b⟩
theorem Mv.det (h:o0 G S) {p':Nat} (a:Mv S q X p) (b:Mv S q X p'):p=p':=a.elim λs w=>b.elim λs' w'=>by
 have nd:(s.mv.map (·.1)).Nodup:=by rw[(h.2 q s w.1).3];exact eP (aJ.fj _)
 exact congrArg (·.2) (iN (f:=(·.1)) nd w.2 (q:=(X,p')) ((ax (w'.1.symm.trans w.1):s'=s)▸w'.2) rfl)
inductive Walk (S:List cQ):Nat->List Nat->Nat->Prop
 |nil (q:Nat):Walk S q [] q
 |snoc {q p t:Nat} {w:List Nat} {X:Nat} (h:Walk S q w p) (m:Mv S p X t):Walk S q (w++[X]) t
theorem rt (hG:b_ H g G A) {r n:Nat} (z:r<5) (h:n≤(G.right r).length):G.af (G.off r+n)=(G.right r)[n]?:=by
 rw[aJ.af,aJ.kX (hG.13.1▸z) h,aJ.sA (hG.13.1▸z) h]
theorem Bt (hG:b_ H g G A) (h:o0 G S) {r:Nat} (z:r<5) (k:It S q (G.off r)):∀n,n≤(G.right r).length->∃p,Walk S q ((G.right r).take n) p∧It S p (G.off r+n):=by
 intro n;induction n with
 |zero=>exact λ_=>⟨q,.nil q,k⟩
 |succ n ih=>
  exact λhn=>(ih (cv hn)).elim λp w=>by
   have e:=ao hn
   have a:=(rt hG z (cv hn)).trans e
   exact(w.2.mv hG h a).elim λt m=>⟨t,by rw[aW,e];exact w.1.snoc m,w.2.next h a m⟩
theorem tQ (h:o0 G S) {r:Nat} {s:cQ} (e:S[q]?=some s):r∈s.red↔∃i,It S q i∧G.af i=none∧G.rl i≠0∧G.rl i=r:=by
 rw[(h.2 q s e).2,aJ.Al]
 exact⟨λh=>h.imp λi w=>⟨⟨s,e,w.1⟩,w.2⟩,λh=>h.imp λi w=>⟨w.1.at e,w.2⟩⟩
end
end
section
variable {G:aJ} {A:GA} {g:Nat} {H:Hp} {S:List cQ}
inductive jr (S:List cQ):List Nat->Prop
 |base:jr S [0]
 |push {q X p:Nat} {st:List Nat} (h:jr S (q::st)) (m:Mv S q X p):jr S (p::q::st)
theorem jr.E {R:Prop} {p:Nat} {st:List Nat} (k:jr S (p::st)) (h0:p=0->R) (h1:∀q X dk,st=q::dk->jr S (q::dk)->Mv S q X p->R):R:=by
 generalize e:p::st=l at k
 cases k with
 |base=>exact h0 (bA e).1
 |push h m=>exact h1 _ _ _ (bA e).2 h ((bA e).1▸m)
inductive PN (G:aJ) (S:List cQ) (r:Nat) (st lD:List Nat):Prop
 |mk (red:∃q lC s,st=q::lC∧S[q]?=some s∧r∈s.red) (res:∃p dk p2,st.drop (G.right r).length=p::dk∧Mv S p (G.left r) p2∧lD=p2::p::dk)
theorem yQ (h:o0 G S) {s:cQ} (e:S[0]?=some s):s.ker=[0]:=h.1.elim λs' w=>ax (w.1.symm.trans e)▸w.2
theorem It.zero (hG:b_ H g G A) (h:o0 G S) {i:Nat} (k:It S 0 i):G.dt i=0:=k.elim λs q=>by
 have m:=q.2
 rw[(h.2 0 s q.1).1,yQ h q.1]at m
 exact(aJ.Aq hG m).elim (λc=>(congrArg G.dt (ak.1 c)).trans (Nat.zero_sub _)) id
theorem Mv.He (hG:b_ H g G A) (h:o0 G S) {q X p:Nat} (m:Mv S q X p) {t:cQ} (e:S[p]?=some t) {i:Nat} (mi:i∈t.ker):G.dt i≠0:=(m.ker h).elim λs w=>w.elim λt' w=>by
 rw[ax (e.symm.trans w.2.1),w.2.2]at mi
 exact(tP.1 (dI.1 mi)).elim λj v=>v.2.2▸(aJ.Aj (It.lt hG h ⟨s,w.1,v.1⟩) v.2.1).2.2▸cK _
theorem Ar (hG:b_ H g G A) {r r':Nat} (z:r<5) (z':r'<5) (e:G.off r'=G.off r):r'=r:=
 (aJ.rO hG.13 z').2.1.symm.trans ((congrArg G.rl e).trans (aJ.rO hG.13 z).2.1)
theorem jr.cause (hG:b_ H g G A) (h:o0 G S) {p:Nat} {st:List Nat} (k:jr S (p::st)) {s:cQ} (e:S[p]?=some s) {r:Nat} (z:r<5) (z0:0<r):G.off r∉s.ker:=λm=>
 k.E (λp0=>di z0 (Ar hG (by decide) z (ak.1 (yQ h (p0▸e)▸m)))) λq X dk _ _ mv=>mv.He hG h e m (aJ.rO hG.13 z).2.2
theorem yP.E {ker:List Nat} {x:Nat} {R:Prop} (d:yP G ker x) (h0:x∈ker->R) (h1:∀i r,yP G ker i->G.af i=some (G.left r)->r<5->G.off r=x->R):R:=by
 cases d with
 |ker m=>exact h0 m
 |cl d e z=>exact h1 _ _ d e z rfl
theorem It.call (hG:b_ H g G A) (h:o0 G S) {p:Nat} {s:cQ} (e:S[p]?=some s) {r:Nat} (z:r<5) (m:It S p (G.off r)) (n:G.off r∉s.ker):∃i,yP G s.ker i∧G.af i=some (G.left r):=
 (aJ.Ap hG ((h.2 p s e).1▸m.at e)).E (λm=>(n m).elim) λi r' d a z' x=>⟨i,d,Ar hG z z' x▸a⟩
theorem jr.mv (hG:b_ H g G A) (h:o0 G S) {p:Nat} {st:List Nat} (k:jr S (p::st)) {r:Nat} (z:r<5) (z0:0<r) (i:It S p (G.off r)):∃p2,Mv S p (G.left r) p2:=i.elim λs w=>
 (i.call hG h w.1 z (k.cause hG h w.1 z z0)).elim λj v=>It.mv hG h ⟨s,w.1,(h.2 p s w.1).1▸aJ.Hd hG v.1⟩ v.2
theorem jr.tB (hG:b_ H g G A) (h:o0 G S) {q:Nat} {s:cQ} (e:S[q]?=some s) {r:Nat} (m:r∈s.red):0<r∧r<5∧It S q (G.off r+(G.right r).length):=((tQ h e).1 m).elim λi w=>by
 have il:=w.1.lt hG h
 have v:=G.i9 il
 have d:G.dt i=(G.right (G.rl i)).length:=bP (dJ (dO .. ▸v.2.2.2)) (d3.1 w.2.1)
 rw[←w.2.2.2]
 refine⟨dH w.2.2.1,hG.13.1▸v.2.1,?_⟩
 rw[←d,aJ.qw il];exact w.1
theorem IQ (hG:b_ H g G A) {r n:Nat} (z:r<5) (hn:n+1≤(G.right r).length):G.dt (G.off r+(n+1))≠0:=λe=>cK n ((aJ.sA (hG.13.1▸z) hn).symm.trans e)
theorem It.back (hG:b_ H g G A) (h:o0 G S) {q X p r n:Nat} (z:r<5) (hn:n+1≤(G.right r).length) (i:It S p (G.off r+(n+1))) (m:Mv S q X p):It S q (G.off r+n)∧(G.right r)[n]?=some X:=
 (i.prev hG h (IQ hG z hn) m).elim λj w=>by
  have e:j=G.off r+n:=gQ w.2.1
  exact⟨e▸w.1,(rt hG z (cv hn)).symm.trans (e▸w.2.2)⟩
theorem jr.pop (hG:b_ H g G A) (h:o0 G S) {r:Nat} (z:r<5) {R:Prop} (n:Nat):∀q st,jr S (q::st)->It S q (G.off r+n)->n≤(G.right r).length->(∀p dk,(q::st).drop n=p::dk->jr S (p::dk)->Walk S p ((G.right r).take n) q->It S p (G.off r)->R)->R:=by
 induction n with
 |zero=>exact λq st k i _ R=>R q st rfl k (.nil q) i
 |succ n ih=>
  exact λq st k i hn R=>k.E (λe=>(IQ hG z hn ((e▸i:It S 0 _).zero hG h)).elim) λq' X mI e k m=>by
   have w:=i.back hG h z hn m
   refine ih q' mI k w.1 (cv hn) λp dk a b c d=>R p dk ((congrArg (List.drop n) e).trans a) b ?_ d
   rw[aW,w.2];exact c.snoc m
theorem jr.red (hG:b_ H g G A) (h:o0 G S) {q:Nat} {st:List Nat} (k:jr S (q::st)) {s:cQ} (e:S[q]?=some s) {r:Nat} (m:r∈s.red) {R:Prop}
  (f:∀p dk p2,(q::st).drop (G.right r).length=p::dk->jr S (p::dk)->Walk S p (G.right r) q->It S p (G.off r)->Mv S p (G.left r) p2->R):R:=by
 have w:=jr.tB hG h e m
 refine k.pop hG h w.2.1 _ q st w.2.2 (aC _) λp dk a b c d=>(b.mv hG h w.2.1 w.1 d).elim λp2 m2=>f p dk p2 a b ?_ d m2
 rw[aR]at c;exact c
inductive Up (G:aJ) (S:List cQ) (p A:Nat) (dk:List Nat):List Nat->List Nat->Prop
 |base {p1:Nat} (m:Mv S p A p1):Up G S p A dk (p1::p::dk) []
 |push {q C t:Nat} {st cs:List Nat} (h:Up G S p A dk (q::st) cs) (m:Mv S q C t) (n:B6 G C) (z:5≤C):Up G S p A dk (t::q::st) (cs++[C])
section
variable {p A' q:Nat} {dk st cs:List Nat}
theorem Up.E {R:Prop} (u:Up G S p A' dk (q::st) cs) (h0:st=p::dk->cs=[]->Mv S p A' q->R)
  (h1:∀q' C mI Ni,st=q'::mI->cs=Ni++[C]->Up G S p A' dk (q'::mI) Ni->Mv S q' C q->B6 G C->5≤C->R):R:=by
 generalize e:q::st=l at u
 cases u with
 |base m=>exact h0 (bA e).2 rfl ((bA e).1▸m)
 |push h m n z=>exact h1 _ _ _ _ (bA e).2 rfl h ((bA e).1▸m) n z
theorem Up.nul (h:Up G S p A' dk st cs):∀C∈cs,5≤C∧B6 G C:=by
 induction h with
 |base=>exact rj
 |push _ _ n z ih=>exact λC hC=>(aD.1 hC).elim (ih C) λk=>ak.1 k▸⟨z,n⟩
theorem Up.Oh (h:Up G S p A' dk st cs):∃p1,Mv S p A' p1:=by
 induction h with
 |base m=>exact⟨_,m⟩
 |push _ _ _ _ ih=>exact ih
theorem Up.pop (hG:b_ H g G A) (h:o0 G S) {r:Nat} (z:r<5) {R:Prop} (n:Nat):∀q st cs,Up G S p A' dk (q::st) cs->It S q (G.off r+n)->n≤(G.right r).length->
  (∀q2 lD IR,IR.length+n=cs.length->(∀C∈(G.right r).take n,B6 G C)->(q::st).drop n=q2::lD->Up G S p A' dk (q2::lD) IR->It S q2 (G.off r)->R)->
  (∀m,n=m+(cs.length+1)->(G.right r).take n=(G.right r).take m++A'::cs->It S p (G.off r+m)->(q::st).drop n=(p::dk).drop m->R)->R:=by
 induction n with
 |zero=>exact λq st cs k i _ k1 _=>k1 q st cs rfl rj rfl k i
 |succ n ih=>
  refine λq st cs k i hn k1 k2=>k.E (λe ec m=>?_) λq' C mI Ni e ec u m nC zC=>?_
  ·have w:=i.back hG h z hn m
   exact k2 n (by rw[ec];rfl) (by rw[ec,aW,w.2];rfl) w.1 (congrArg (List.drop n) e)
  ·have w:=i.back hG h z hn m
   have t:(G.right r).take (n+1)=(G.right r).take n++[C]:=by rw[aW,w.2];rfl
   have l:cs.length=Ni.length+1:=by rw[ec,aq];rfl
   refine ih q' mI Ni u w.1 (cv hn) (λq2 lD IR a b c d f=>k1 q2 lD IR (l▸congrArg (· +1) a) (λX hX=>(aD.1 (t▸hX)).elim (b X) λk=>ak.1 k▸nC) ((congrArg (List.drop n) e).trans c) d f)
    λm a b c d=>k2 m (l▸congrArg (· +1) a) ?_ c ((congrArg (List.drop n) e).trans d)
   rw[t,b,ec,bN];rfl
end
inductive Ew (G:aJ) (S:List cQ) (F:Nat->Nat->Nat->Prop):Prop
 |mk (sh:∀p A dk q lC cs t x,5≤A->jr S (p::dk)->Up G S p A dk (q::lC) cs->Mv S q t x->t<5->F p A t) (inc:∀p' r a A b p t,0<r->r<5->It S p' (G.off r)->G.right r=a++A::b->5≤A->(∀C∈b,5≤C∧B6 G C)->Walk S p' a p->(∃p2,Mv S p' (G.left r) p2)->F p' (G.left r) t->F p A t)
theorem Ex (o:G.Ok) {r:Nat} (z:r<5):5≤G.left r:=vU o z▸(by decide:∀r<5,5≤if r=0 then 5 else if r<3 then 6 else 7) r z
inductive IS (G:aJ) (S:List cQ) (e:List Nat):List Nat->Prop
 |nil:IS G S e e
 |cons {r:Nat} {st lD:List Nat} (h:PN G S r st lD) (k:IS G S e lD):IS G S e st
theorem Bu (hG:b_ H g G A) (h:o0 G S) {F:Nat->Nat->Nat->Prop} (f:Ew G S F) {t:Nat} (zt:t<5) {q0 x:Nat} {Oi st:List Nat} (mv:Mv S q0 t x) (c:IS G S (q0::Oi) st):
  ∀p A' dk cs,5≤A'->jr S (p::dk)->Up G S p A' dk st cs->F p A' t:=by
 induction c with
 |nil=>exact λp A' dk cs z5 k u=>f.1 p A' dk _ _ cs t x z5 k u mv zt
 | @cons r st lD r0 _ ih=>
  refine λp A' dk cs z5 k u=>r0.1.elim λq a=>a.elim λlC a=>a.elim λs a=>r0.2.elim λp' b=>b.elim λKq b=>b.elim λp2 b=>?_
  have w:=jr.tB hG h a.2.1 a.2.2
  have n5:=Ex hG.13 w.2.1
  have e1:=(congrArg (List.drop _) a.1.symm).trans b.1
  refine(a.1▸u:Up G S p A' dk (q::lC) cs).pop hG h w.2.1 _ q lC cs w.2.2 (aC _) (λq2 lD IR _ c2 c3 c4 _=>?_) λm em c2 c3 c4=>?_
  ·have e:=bA (e1.symm.trans c3)
   rw[aR]at c2
   exact ih p A' dk (IR++[G.left r]) z5 k (b.2.2▸ .push (e.1▸e.2▸c4) b.2.1 (.mk _ w.2.1 c2) n5)
  ·rw[aR]at c2
   refine k.pop hG h w.2.1 m p dk c3 (em▸bu ..) λy st3 f1 f2 f3 f4=>?_
   have e:=bA (f1.symm.trans (c4.symm.trans e1))
   exact f.2 p' r _ A' cs p t w.1 w.2.1 (e.1▸f4) c2 z5 u.nul (e.1▸f3) ⟨_,b.2.1⟩ (ih p' (G.left r) Kq [] n5 (e.1▸e.2▸f2) (b.2.2▸ .base b.2.1))
end
section
variable {G:aJ} {A:GA} {g:Nat} {H:Hp} {S:List cQ}
theorem Up.cause (hG:b_ H g G A) (h:o0 G S) {p A' q:Nat} {dk lC cs:List Nat} (u:Up G S p A' dk (q::lC) cs) {s:cQ} (e:S[q]?=some s):∀i∈s.ker,G.dt i≠0:=λi mi=>
 u.E (λ_ _ m=>m.He hG h e mi) λ_ _ _ _ _ _ _ m _ _=>m.He hG h e mi
theorem yR {α:Type} {a b:List α} {x:α}:(a++x::b)[a.length]?=some x:=by rw[aY (aC _),eg];rfl
theorem tR {α:Type} {a b:List α} {x:α}:(a++x::b).drop (a.length+1)=b:=by
 rw[List.append_cons,show a.length+1=(a++[x]).length from(aq (bs:=[x])).symm,List.drop_left]
theorem Kr (hG:b_ H g G A) (h:o0 G S) {fs ws:List Nat} (f1:G1 G fs) (f2:J9 G fs ws) {p A' t:Nat} {dk:List Nat} (z5:5≤A') (k:jr S (p::dk)) (n:Nat):
  ∀q lC cs s,cs.length≤n->Up G S p A' dk (q::lC) cs->S[q]?=some s->∀i,yP G s.ker i->∀Y,G.af i=some Y->(fs.getD Y 0).testBit t=true->(ws.getD A' 0).testBit t=true:=by
 induction n using Nat.strongRecOn with
 |_ n ihn=>
 intro q lC cs s hn u e i d
 induction d with
 | @cl i r d ei z ih=>
  exact λY eY hY=>ih (G.left r) ei (f1.4 r z 0 Y ((rt hG z (bw _)).symm.trans eY) rj t hY)
 | @ker i mi=>
  intro Y eY hY
  have il:=(h.3 s (am e)).1 i mi
  have w:=G.i9 il
  have rz:G.rl i<5:=hG.13.1▸w.2.1
  have ie:=aJ.qw il
  have it:It S q (G.off (G.rl i)+G.dt i):=by rw[ie];exact⟨s,e,by rw[(h.2 q s e).1];exact aJ.kY.2 (.inl mi)⟩
  have dl:G.dt i≤(G.right (G.rl i)).length:=dJ (dO .. ▸w.2.2.2)
  refine u.pop hG h rz _ q lC cs it dl (λq2 lD IR c1 c2 _ c4 c5=>c5.elim λs2 v=>?_) λm em c2 _ _=>?_
  ·exact(It.call hG h v.1 rz c5 λm=>c4.cause hG h v.1 _ m (aJ.rO hG.13 rz).2.2).elim λj x=>ihn IR.length (aw (aw (Nat.lt_add_of_pos_right (dH (u.cause hG h e i mi))) (aF c1)) hn) q2 lD _ s2 (aC _) c4 v.1 j x.1 (G.left (G.rl i)) x.2 (f1.4 _ rz (G.dt i) Y eY c2 t hY)
  ·have E:G.right (G.rl i)=(G.right (G.rl i)).take m++A'::(cs++(G.right (G.rl i)).drop (G.dt i)):=
    (fV (G.dt i) _).symm.trans ((congrArg (· ++_) c2).trans (bN ..))
   have l:((G.right (G.rl i)).take m).length=m:=mQ (aj (aj (bu ..) (aF em.symm)) dl)
   have D:=tR (a:=(G.right (G.rl i)).take m) (b:=cs++(G.right (G.rl i)).drop (G.dt i)) (x:=A')
   rw[←E,l]at D
   refine f2.3 _ rz m A' cs.length Y ?_ z5 ?_ (by rw[D,oA];exact u.nul) t hY
   ·have:=yR (a:=(G.right (G.rl i)).take m) (b:=cs++(G.right (G.rl i)).drop (G.dt i)) (x:=A')
    rw[←E,l]at this;exact this
   ·rw[dF,dG,dv,←em];exact eY
theorem Hf (hG:b_ H g G A) (h:o0 G S) {fs ws:List Nat} (f1:G1 G fs) (f2:J9 G fs ws):Ew G S λ_ A t=>(ws.getD A 0).testBit t=true:=.mk
 (λp A' dk q lC cs t x z5 k u m zt=>(m.it h).elim λi w=>w.1.elim λs v=>
  Kr hG h f1 f2 z5 k cs.length q lC cs s (aC _) u v.1 i (aJ.Ap hG ((h.2 q s v.1).1▸v.2)) t w.2 (f1.3 t zt))
 (λp' r a A' b p t z0 z i e z5 n w _ ht=>f2.4 r z a.length A' (by rw[e];exact yR) z5 (by rw[e,tR];exact n) t ht)
end
section
noncomputable def tV (p:Nat×Nat):V:=.tup [.int p.1,.int p.2]
inductive p9 (S:List cQ) (n:Nat) (l:List Nat) (ts:List (Nat×Nat)):Prop
 |mk (snd:∀p∈ts,(p.1<n∨(p.1=n∧p.2∈l))∧5≤p.2∧∃s,S[p.1]?=some s∧p.2∈s.mv.map (·.1)) (cpl:∀(q:Nat) s X,S[q]?=some s->X∈s.mv.map (·.1)->5≤X->(q<n∨(q=n∧X∈l))->(q,X)∈ts) (nd:ts.Nodup) (len:ts.length≤8*n+l.length)
inductive Ix (ts:List (Nat×Nat)) (d:List (List Int×V)):Prop
 |mk (get:∀(i p X:Nat),ts[i]?=some (p,X)->d7 [(p:Int),(X:Int)] d=some (vI i)) (len:d.length≤ts.length)
theorem Ix.add {ts d q X} (h:Ix ts d) (n:(q,X)∉ts):Ix (ts++[(q,X)]) (dput [(q:Int),(X:Int)] (vI ts.length) d):=by
 refine⟨λi p Y e=>?_,by rw[aq];exact aj (tO _ _ _) (aM h.2)⟩
 rw[uW]
 rcases ba i ts.length with z|z
 ·rw[aG z]at e
  rw[if_neg λk=>n ((a_.1 (bA k).1:q=p)▸(a_.1 (bA (bA k).2).1:X=Y)▸am e),h.1 i p Y e]
 ·rw[aY z]at e
  have:=(ah.1 e).1
  have w:i=ts.length:=bP (Nat.le_of_sub_eq_zero (Nat.lt_one_iff.1 this)) z
  cases ak.1 (am e)
  rw[w];exact if_pos rfl
theorem p9.zero {S}:p9 S 0 [] []:=⟨rj,λq s X _ _ _ c=>c.elim (λc=>absurd c (bm q)) λc=>absurd c.2 aQ,.nil,aC _⟩
theorem p9.skip {S n l ts X} (h:p9 S n l ts) (z:X<5):p9 S n (l++[X]) ts:=
 ⟨λp m=>⟨(h.1 p m).1.imp id λq=>⟨q.1,aV _ q.2⟩,(h.1 p m).2⟩,λq s Y e m y c=>h.2 q s Y e m y (c.imp id λq=>⟨q.1,(aD.1 q.2).elim id λb=>absurd z (bE.2 ((ak.1 b:Y=X)▸y))⟩),h.3,by rw[aq,←dv];exact aj h.4 (bu _ _)⟩
theorem p9.new {S n l ts X} (h:p9 S n l ts) (m:X∉l):(n,X)∉ts:=λk=>(h.1 _ k).1.elim (eO _) λc=>m c.2
theorem p9.add {S n l ts X} {s:cQ} (h:p9 S n l ts) (m:X∉l) (e:S[n]?=some s) (mX:X∈s.mv.map (·.1)) (z:5≤X):p9 S n (l++[X]) (ts++[(n,X)]):=by
 refine⟨λp k=>?_,λq t Y e2 mY y c=>?_,?_,by rw[aq,aq];exact aM h.4⟩
 ·rcases aD.1 k with k|k
  ·exact⟨(h.1 p k).1.imp id λq=>⟨q.1,aV _ q.2⟩,(h.1 p k).2⟩
  ·rw[ak.1 k];exact⟨.inr ⟨rfl,aB _ (ak.2 rfl)⟩,z,s,e,mX⟩
 ·exact c.elim (λc=>aV _ (h.2 q t Y e2 mY y (.inl c))) λc=>(aD.1 c.2).elim (λk=>aV _ (h.2 q t Y e2 mY y (.inr ⟨c.1,k⟩))) λk=>by
   rw[c.1,ak.1 k];exact aB _ (ak.2 rfl)
 ·exact iA h.3 (h.new m)
theorem p9.next {S n l ts} {s:cQ} (h:p9 S n l ts) (e:S[n]?=some s) (k:∀X,X∈s.mv.map (·.1)->X∈l) (z:l.length≤8):p9 S (n+1) [] ts:=
 ⟨λp m=>⟨.inl ((h.1 p m).1.elim (λc=>d9 c) λc=>c.1▸bT _),(h.1 p m).2⟩,λq t Y e2 mY y c=>h.2 q t Y e2 mY y (c.elim (λc=>(bj.1 c).imp id λc=>⟨c,by
  cases e.symm.trans (c▸e2);exact k Y mY⟩) λc=>absurd c.2 aQ),h.3,aj h.4 (bZ z _)⟩
variable {H0 H:Hp} {u g LS:Nat} {G:aJ} {A:GA} {SA:List Nat} {S:List cQ} {R:Prop}
theorem bM.oj (h:bM H u g G A LS SA S) {q:Nat} {s:cQ} (e:S[q]?=some s):s.mv.length≤8:=by
 have:=congrArg List.length (h.6.2 q s e).3
 rw[ae,d8]at this
 rw[this];exact qv h.1 _
theorem bM.keys_nodup (h:bM H u g G A LS SA S) {q:Nat} {s:cQ} (e:S[q]?=some s):(s.mv.map (·.1)).Nodup:=by
 rw[(h.6.2 q s e).3];exact eP (aJ.fj _)
theorem bM.yS (h:bM H u g G A LS SA S) {q:Nat} {s:cQ} (e:S[q]?=some s) {X:Nat} (m:X∈s.mv.map (·.1)):X<8:=by
 rw[(h.6.2 q s e).3]at m
 obtain⟨i,_,k⟩:=aJ.oh.1 (dI.1 m);exact xd h.1 k
theorem IT {L:Lc} {H:Hp} {e:CE} {a:Nat} {mv:List (Nat×Nat)} (x:JE e L H (.ref a) H) (o:H[a]?=some (.bc (nd vI mv))) (z:mv.length<64)
  (k:∀b H2,JE (.sorted e) L H (.ref b) H2->H[b]?=none->H2[b]?=some (.list (vn (jK (mv.map (·.1)))))->Ext H H2->R):R:=
 pR (l:=mv.map (·.1)) x (by rw[←oQ (f:=vI)];exact .dict o) (by rw[ae];exact z) k
theorem vV {la N TL IX:Nat} (h:bM H0 u g G A LS SA S) (e:Ext H0 H) (hl:H[la]?=some (.inst 6 [(53,.ref u),(56,.ref N),(55,.ref TL),(54,.ref IX)])) (gT:H[TL]?=some (.list [])) (gI:H[IX]?=some (.bV [])) (fT:H0[TL]?=none) (fI:H0[IX]?=none)
  (q:∀ts d H',JR 47 [.ref la] H .none H'->eE [TL,IX] H H'->H'[TL]?=some (.list (ts.map tV))->H'[IX]?=some (.bV d)->p9 S S.length [] ts->Ix ts d->R):R:=by
 refine c7 47 [.ref la] H rfl rfl (L:=[some (.ref la),none,none,none]) rfl λQ q'=>.set (.attr (.attr (.var rfl) hl rfl rfl) (e _ _ h.2) rfl rfl) ?_
 have nl:la∉[TL,IX]:=tH (dg hl gT rfl) (dg hl gI rfl)
 have n0:∀{b:Nat} {o:O},H0[b]?=some o->b∉[TL,IX]:=λk=>tH (e_ fT k) (e_ fI k)
 have nTI:=dg gT gI rfl
 have ex:∀{H'},eE [TL,IX] H H'->Ext H0 H':=λx=>x.ext e (Oc fT fI)
 refine .r9 (λ_ (t:Option V×Option V×List (Nat×Nat)×List (List Int×V))=>[some (.ref la),some (.ref g),t.1,t.2.1]) (λn t H'=>eE [TL,IX] H H'∧H'[TL]?=some (.list (t.2.2.1.map tV))∧H'[IX]?=some (.bV t.2.2.2)∧p9 S n [] t.2.2.1∧Ix t.2.2.1 t.2.2.2) (none,none,[],[])
  (.pF (.attr (.attr (.var rfl) hl rfl rfl) (e _ _ h.2) rfl rfl) (.list (e _ _ h.3)) (by rw[ae,h.4];exact aj h.6.5 (by decide))) ⟨.r,gT,gI,p9.zero,⟨λ_ _ _ e=>cW dA e,aC _⟩⟩ (λt=>ex t.1 _ _ h.3) ?_ ?_
 ·intro n a t H1 K ha h1 cg _
  obtain⟨x2,x3,ts,d⟩:=t
  obtain⟨x1,gT1,gI1,tr,ix⟩:=h1
  refine h.at_ ha λs ia ma ra es st=>?_
  have kl:=h.oj es
  have zn:=(ah.1 es).1
  have zz:=h.6.5
  have kd:=eP (h.keys_nodup es)
  refine IT (L:=[some (.ref la),some (.ref g),some (.ref a),x3]) (.attr (.var (i:=2) rfl) (ex x1 _ _ st.1) (f:=34) rfl rfl) (ex x1 _ _ st.3) (aA kl (by decide)) λW H2 j fW gW eW=>?_
  refine .jW (λ_ (t:Option V×List (Nat×Nat)×List (List Int×V))=>[some (.ref la),some (.ref g),some (.ref a),t.1]) (λk t H'=>eE [TL,IX] H2 H'∧H'[TL]?=some (.list (t.2.1.map tV))∧H'[IX]?=some (.bV t.2.2)∧p9 S n ((jK (s.mv.map (·.1))).take k) t.2.1∧Ix t.2.1 t.2.2) (x3,ts,d)
   (.dT j gW (by rw[aX,d8,ae];exact aj kl (by decide))) ⟨.r,eW _ _ gT1,eW _ _ gI1,tr,ix⟩ (λt=>t.1 _ _ (tH (e_ fW gT1).symm (e_ fW gI1).symm) gW) ?_ ?_
  ·intro k X t H3 K hX h3 cg _
   obtain⟨y3,ts,d⟩:=t
   obtain⟨x3,PO,PP,tr,ix⟩:=h3
   have tr:p9 S n ((jK (s.mv.map (·.1))).take k) ts:=tr
   have E3:Ext H0 H3:=ex (x1.trans ((eE.of eW).trans x3))
   have nX:=gK kd hX
   have mX:=dI.1 (am hX)
   have X8:=h.yS es mX
   have e1:(jK (s.mv.map (·.1))).take (k+1)=(jK (s.mv.map (·.1))).take k++[X]:=by rw[aW,hX];rfl
   dsimp only at cg;rw[e1]at cg
   rcases ba X 5 with z|z
   ·exact .pass (.um (.ir (.bx (.var rfl) (E3 _ _ h.1.1) rfl rfl (.av (.var rfl) .bn) (DX (h.1.ext E3) z)) (.bool _) rfl)) (.nil (cg (some (.int X),ts,d) rfl ⟨x3,PO,PP,tr.skip z,ix⟩))
   ·have PQ:=(x1.trans ((eE.of eW).trans x3)) _ _ nl hl
    have tl:ts.length≤2^23+8:=aj tr.4 (aj (c8 (bH 8 (aj (aK zn) zz)) (aj (bJ ..) (by rw[d8,ae];exact kl))) (by decide))
    have ln:=JE.len (L:=[some (.ref la),some (.ref g),some (.ref a),some (.int X)]) (a:=.attr (.var 0) 55) (.attr (.var rfl) PQ rfl rfl) (.list PO (by rw[ae];exact aj tl (by decide)))
    rw[ae]at ln
    refine .then (.um (.ir (.bx (.var rfl) (E3 _ _ h.1.1) rfl rfl (.av (.var rfl) .bn) (DY (h.1.ext E3) z)) (.bool _) rfl))
     (.bq ln (.attr (.var rfl) PQ rfl rfl) (.tup (.av (.attr (.var rfl) (E3 _ _ st.1) rfl rfl) (.av (.var rfl) .bn)) (ib _ rfl)) (.bV (k:=[(n:Int),(X:Int)]) PP (aA (aj ix.2 tl) (by decide))) ?_)
    have Ey:=dg hl gI rfl
    have Oj:=eJ (p:=.bV (dput [(n:Int),(X:Int)] (.int ts.length) d)) PQ Ey
    have PR:=eJ (p:=.bV (dput [(n:Int),(X:Int)] (.int ts.length) d)) PO nTI
    refine .expr (.append (.attr (.var rfl) Oj rfl rfl) (.tup (.av (.attr (.var rfl) (eJ (E3 _ _ st.1) λe=>n0 st.1 (e▸aL _ (ak.2 rfl))) rfl rfl) (.av (.var rfl) .bn)) (ib _ rfl)) ⟨_,PR⟩ PR (by rw[ae];exact aA tl (by decide)))
     (.nil (.nil (cg (some (.int X),ts++[(n,X)],_) rfl ⟨(x3.set (aL _ (ak.2 rfl))).set (aP ..),?_,eJ (dh PP) nTI.symm,tr.add nX es mX z,ix.add (tr.new nX)⟩)))
    rw[dh PR,ay];rfl
  ·intro t H3 h3
   rw[aR]at h3
   exact .nil (cg (some (.ref a),t.1,t.2.1,t.2.2) rfl ⟨x1.trans ((eE.of eW).trans h3.1),h3.2.1,h3.2.2.1,h3.2.2.2.1.next es (λX m=>dI.2 m) (by rw[d8,ae];exact kl),h3.2.2.2.2⟩)
 ·intro t H1 h1
  exact .nil (q' λj=>q t.2.2.1 t.2.2.2 H1 j h1.1 h1.2.1 h1.2.2.1 (h.4▸h1.2.2.2.1) h1.2.2.2.2)
end
section
theorem cB.PS {H H1:Hp} {Q:Ps} {r a:i6} {g:Gd} {it:CI} {k m:Nat} {σ:Type} {l:List (Nat×Nat)} (Lf:Nat->σ->Lc) (P:Nat->σ->Hp->Prop) (s0:σ) (x:JI it (Lf 0 s0) H (l.map tV) g H1) (h0:P 0 s0 (g.fz H1)) (hg:∀{n s H},P n s H->g.ok H)
  (st:∀n (p X:Nat) s H (K:Ps),l[n]?=some (p,X)->P n s H->(∀{f} s' {H'},f.go=true->P (n+1) s' H'->K f (Lf (n+1) s') H')->
   cB a (((Lf n s).set k (some (.int p))).set m (some (.int X))) H K) (he:∀s H,P l.length s H->cB r (Lf l.length s) (g.th H) Q):cB (.cons (.for (.p k m) it a) r) (Lf 0 s0) H Q:=
 .DT Lf P s0 x h0 hg (λn y s H K hy h k1 k2=>(nZ hy).elim λp q=>⟨_,_,q.2,st n p.1 p.2 s H K q.1 h k1⟩) λs H h=>by rw[ae]at h ⊢;exact he s H h
variable {H0 H:Hp} {u g LS:Nat} {G:aJ} {A:GA} {SA:List Nat} {S:List cQ} {R:Prop}
theorem As (h:bM H u g G A LS SA S) {q X p:Nat} {s:cQ} (e:S[q]?=some s) (m:(X,p)∈s.mv):JR 49 [.ref u,.int q,.int X] H (.int p) H:=by
 refine h.get e λa ia ma ra ea st=>?_
 have D:=dY.i (k:=(X:Int)) st.3
 rw[kW m (h.keys_nodup e)]at D
 exact c7 49 [.ref u,.int q,.int X] H rfl rfl (L:=[some (.ref u),some (.int q),some (.int X)]) rfl λQ q'=>.ret (.bx (.idx (.attr (.var rfl) h.2 rfl rfl) (.var rfl) (.nat h.3 (dy ea))) st.1 rfl rfl (.av (.var rfl) .bn)
  (c7 48 [.ref a,.int X] H rfl rfl (L:=[some (.ref a),some (.int X)]) rfl λQ q'=>.ret (.qO (.attr (.var rfl) st.1 rfl rfl) (.var rfl) .lit (.inl ⟨_,st.3⟩) D) (q' id))) (q' id)
inductive xV (S:List cQ) (ts:List (Nat×Nat)) (fb:List Bool) (g:Nat) (l:List Nat) (m:Nat) (row:List Nat):Prop
 |mk (lt:m<32) (rl:∀j∈row,j<ts.length) (d:∀t∈l,t<5->m.testBit t=true) (r:∀Y∈l,5≤Y->fb[Y]?=some true->∃j,ts[j]?=some (g,Y)∧j∈row) (len:row.length≤l.length)
theorem xV.t {S ts fb g l m row X} (h:xV S ts fb g l m row) (z:X<5):xV S ts fb g (l++[X]) (m|||1<<<X) row:=by
 refine⟨dz (n:=5) h.1 (by rw[f_];exact oI (by decide) z),h.2,λt k z=>?_,λY k y=>?_,by rw[aq];exact aj h.5 (bu _ _)⟩
 ·rw[bW]
  rcases aD.1 k with k|k
  ·rw[h.3 t k z];rfl
  ·rw[ak.1 k,f_,Nat.testBit_two_pow_self,fG]
 ·rcases aD.1 k with k|k
  ·exact h.4 Y k y
  ·exact absurd z (bE.2 ((ak.1 k:Y=X)▸y))
theorem xV.n {S ts fb g l m row X} (h:xV S ts fb g l m row) (z:5≤X) (f:fb[X]?≠some true):xV S ts fb g (l++[X]) m row:=
 ⟨h.1,h.2,λt k z'=>(aD.1 k).elim (λk=>h.3 t k z') λk=>absurd z (iK.2 ((ak.1 k:t=X)▸z')),λY k y e=>
  (aD.1 k).elim (λk=>h.4 Y k y e) λk=>absurd ((ak.1 k:Y=X)▸e) f,by rw[aq];exact aj h.5 (bu _ _)⟩
theorem xV.y {S ts fb g l m row X j} (h:xV S ts fb g l m row) (z:5≤X) (e:ts[j]?=some (g,X)):xV S ts fb g (l++[X]) m (row++[j]):=
 ⟨h.1,λi k=>(aD.1 k).elim (h.2 i) λk=>ak.1 k▸(ah.1 e).1,
  λt k z'=>(aD.1 k).elim (λk=>h.3 t k z') λk=>absurd z (iK.2 ((ak.1 k:t=X)▸z')),λY k y f=>
  (aD.1 k).elim (λk=>(h.4 Y k y f).imp λi q=>⟨q.1,aV _ q.2⟩) λk=>ak.1 k▸⟨j,e,aB _ (ak.2 rfl)⟩,by rw[aq,aq];exact aM h.5⟩
theorem p9.goal {n l ts} (h:bM H u g G A LS SA S) (t:p9 S n l ts) {i p X:Nat} (e:ts[i]?=some (p,X)):∃s y t,S[p]?=some s∧(X,y)∈s.mv∧S[y]?=some t:=by
 exact(t.1 _ (am e)).2.2.elim λs q=>(az.1 q.2).elim λx w=>((h.6.2 p s q.1).4 _ w.1).elim λt v=>⟨s,x.2,t,q.1,(show x.1=X from w.2)▸w.1,v.1⟩
inductive Bv (S:List cQ) (ts:List (Nat×Nat)) (fb:List Bool) (n:Nat) (ms:List Nat) (rows:List (List Nat)):Prop
 |mk (ml:ms.length=n) (rl:rows.length=n) (at_:∀(i p X:Nat) s y t m row,ts[i]?=some (p,X)->ms[i]?=some m->rows[i]?=some row->S[p]?=some s->(X,y)∈s.mv->S[y]?=some t->xV S ts fb y (jK (t.mv.map (·.1))) m row)
noncomputable def gx (H:Hp) (as:List Nat) (rows:List (List Nat)):Prop:=as.length=rows.length∧∀(i b:Nat) row,as[i]?=some b->rows[i]?=some row->H[b]?=some (.list (vn row))
end
section
variable {H0 H:Hp} {u g LS:Nat} {G:aJ} {A:GA} {SA:List Nat} {S:List cQ} {R:Prop}
theorem Ks {mv:List (Nat×Nat)} (n:(mv.map (·.1)).Nodup) {X y z:Nat} (a:(X,y)∈mv) (b:(X,z)∈mv):y=z:=congrArg (·.2) (iN (f:=(·.1)) n a b rfl)
theorem Bv.add {ts fb n ms rows p X y m row} {s t:cQ} (h:bM H u g G A LS SA S) (r:Bv S ts fb n ms rows) (e:ts[n]?=some (p,X)) (e1:S[p]?=some s) (my:(X,y)∈s.mv) (e2:S[y]?=some t) (d:xV S ts fb y (jK (t.mv.map (·.1))) m row):
  Bv S ts fb (n+1) (ms++[m]) (rows++[row]):=by
 refine⟨by rw[aq,r.1];rfl,by rw[aq,r.2];rfl,λi p' X' s' y' t' m' Kt a1 a2 a3 a4 a5 a6=>?_⟩
 rcases ba i n with z|z
 ·rw[aG (r.1.symm▸z)]at a2
  rw[aG (r.2.symm▸z)]at a3
  exact r.3 i p' X' s' y' t' m' Kt a1 a2 a3 a4 a5 a6
 ·have w:=(ah.1 a2).1
  rw[aq,r.1]at w
  have w:i=n:=bP (bB w) z
  rw[w]at a1
  rw[w,←r.1,bt]at a2
  rw[w,←r.2,bt]at a3
  cases a2;cases a3
  cases e.symm.trans a1;cases e1.symm.trans a4
  cases Ks (h.keys_nodup e1) my a5
  cases e2.symm.trans a6;exact d
noncomputable def Lr (la g:Nat) (c:Option V×Option V×Option V×Option V×Option V×Option V×Option V):Lc:=[some (.ref la),some (.ref g),c.1,c.2.1,c.2.2.1,c.2.2.2.1,c.2.2.2.2.1,c.2.2.2.2.2.1,c.2.2.2.2.2.2]
noncomputable def Ol (u N TL IX DL RL:Nat):List (Nat×V):=[(53,.ref u),(56,.ref N),(55,.ref TL),(54,.ref IX),(57,.ref DL),(58,.ref RL)]
theorem reads_in {H1:Hp} {la N TL IX DL RL W y:Nat} {ts d fb} {t:cQ} {a ia ma ra:Nat} {x2 x3 x8:Option V} {Q:Fl->Lc->Hp->Prop} {r:i6} (h:bM H u g G A LS SA S) (e:Ext H H1) (hl:H[la]?=some (.inst 6 (Ol u N TL IX DL RL))) (gN:H[N]?=some (.list (vN fb))) (fl:fb.length=8)
  (gI:H[IX]?=some (.bV d)) (tr:p9 S S.length [] ts) (ix:Ix ts d) (fW:H[W]?=none) (gW:H1[W]?=some (.list [])) (et:S[y]?=some t) (st:m_ H a y t ia ma ra)
  (k:∀m row x8 H2,Ext H H2->H2[W]?=some (.list (vn row))->eE [W] H1 H2->xV S ts fb y (jK (t.mv.map (·.1))) m row->cB r (Lr la g (x2,x3,some (.int y),some (.int m),some (.ref W),some (.ref ma),x8)) H2 Q):
  cB (.cons (((bo 50).at 1).in.at 4) r) (Lr la g (x2,x3,some (.int y),some (.int 0),some (.ref W),some (.ref ma),x8)) H1 Q:=by
 have kl:=h.oj et
 have kd:=eP (h.keys_nodup et)
 have sl:(jK (t.mv.map (·.1))).length≤8:=by rw[d8,ae];exact kl
 refine IT (L:=Lr la g (x2,x3,some (.int y),some (.int 0),some (.ref W),some (.ref ma),x8)) (.var (i:=7) rfl) (e _ _ st.3) (aA kl (by decide)) λB H2 j fB gB eB=>?_
 refine .jW (λ_ (c:Nat×List Nat×Option V)=>Lr la g (x2,x3,some (.int y),some (.int c.1),some (.ref W),some (.ref ma),c.2.2)) (λk c H'=>eE [W] H2 H'∧H'[W]?=some (.list (vn c.2.1))∧xV S ts fb y ((jK (t.mv.map (·.1))).take k) c.1 c.2.1) (0,[],x8)
  (.dT j gB (by rw[aX];exact aj sl (by decide))) ⟨.r,eB _ _ gW,⟨show 0<32 by decide,rj,rj,rj,bw _⟩⟩ (λc=>c.1 _ _ (Bk fB gW) gB) ?_ ?_
 ·intro k X c H3 K hX h3 cg _
  obtain⟨m,row,x8⟩:=c
  obtain⟨x,Nj,rd⟩:=h3
  have rd:xV S ts fb y ((jK (t.mv.map (·.1))).take k) m row:=rd
  have E:Ext H H3:=x.new fW (e.trans eB)
  have mX:=dI.1 (am hX)
  have X8:=h.yS et mX
  have e1:(jK (t.mv.map (·.1))).take (k+1)=(jK (t.mv.map (·.1))).take k++[X]:=by rw[aW,hX];rfl
  dsimp only at cg;rw[e1]at cg
  rcases ba X 5 with z|z
  ·exact .then (.ir (.bx (.var rfl) (E _ _ h.1.1) rfl rfl (.av (.var rfl) .bn) (DX (h.1.ext E) z)) (.bool _) rfl)
    (.set (.bin (.var rfl) (.bin .lit (.var rfl) (.shl 1 X _ (by decide) (bK X8 (by decide)))) (.bor _ _ _)) (.nil (.nil (cg (_,row,some (.int X)) rfl ⟨x,Nj,rd.t z⟩))))
  ·refine .else (.ir (.bx (.var rfl) (E _ _ h.1.1) rfl rfl (.av (.var rfl) .bn) (DY (h.1.ext E) z)) (.bool _) rfl) ?_
   rcases iF.flag fl X8 with f|f
   ·have mt:(y,X)∈ts:=tr.2 y t X et mX z (.inl (ah.1 et).1)
    obtain⟨i,hi⟩:=aO mt
    have D:=dY.t (k:=[(y:Int),(X:Int)]) (E _ _ gI)
    rw[ix.1 i y X hi]at D
    have rl:(vn row).length<SZ:=by
     rw[aX];exact ri (aj rd.5 (aj (bJ ..) (aj sl (by decide))))
    refine .then (.ir (.idx (.attr (.var rfl) (E _ _ hl) rfl rfl) (.var rfl) (.nat (E _ _ gN) (iF.kP f))) (.bool _) rfl)
     (.expr (.append (.var rfl) (.idx (.attr (.var rfl) (E _ _ hl) rfl rfl) (.tup (.av (.var rfl) (.av (.var rfl) .bn)) (ib _ rfl)) (.dict D)) ⟨_,Nj⟩ Nj rl) (.nil (.nil (.nil (cg (m,row++[i],some (.int X)) rfl ⟨x.set (ak.2 rfl),?_,rd.y z hi⟩)))))
    rw[dh Nj];exact congrArg (λl=>some (O.list l)) vH
   ·exact .pass (.ir (.idx (.attr (.var rfl) (E _ _ hl) rfl rfl) (.var rfl) (.nat (E _ _ gN) (iF.kP f))) (.bool _) rfl) (.nil (.nil (cg (m,row,some (.int X)) rfl ⟨x,Nj,rd.n z (by rw[f];exact λz=>ff (ax z))⟩)))
 ·intro c H3 h3
  rw[aR]at h3
  exact k c.1 c.2.1 _ H3 (h3.1.new fW (e.trans eB)) h3.2.1 ((eE.of eB).trans h3.1) h3.2.2
theorem gx.ex {T:List Nat} {H H':Hp} {as rows} (h:gx H as rows) (x:eE T H H') (n:∀b∈as,b∉T):gx H' as rows:=⟨h.1,λi b row e1 e2=>x _ _ (n b (am e1)) (h.2 i b row e1 e2)⟩
theorem gx.add {H:Hp} {as rows b row} (h:gx H as rows) (g:H[b]?=some (.list (vn row))):gx H (as++[b]) (rows++[row]):=by
 refine⟨by rw[aq,aq,h.1];rfl,λi c Kt e1 e2=>?_⟩
 rcases ba i as.length with z|z
 ·rw[aG z]at e1
  rw[aG (h.1▸z)]at e2
  exact h.2 i c Kt e1 e2
 ·rw[aY z]at e1
  rw[aY (h.1▸z)]at e2
  rw[ak.1 (am e1),ak.1 (am e2)];exact g
theorem ut {la N TL IX DL RL:Nat} {ts d fb} (h:bM H u g G A LS SA S) (fl:fb.length=8) (tr:p9 S S.length [] ts) (ix:Ix ts d) {H1:Hp} (e:Ext H H1) (gN:H1[N]?=some (.list (vN fb))) (gT:H1[TL]?=some (.list (ts.map tV))) (gI:H1[IX]?=some (.bV d)) (nN:N∉[DL,RL]) (nT:TL∉[DL,RL]) (hl:H1[la]?=some (.inst 6 (Ol u N TL IX DL RL))) (gD:H1[DL]?=some (.list [])) (gR:H1[RL]?=some (.list [])) (fD:H[DL]?=none) (fR:H[RL]?=none) (ne:DL≠RL)
  (q:∀ms RA rows H',JR 50 [.ref la] H1 .none H'->eE [DL,RL] H1 H'->H'[DL]?=some (.list (vn ms))->H'[RL]?=some (.list (RA.map .ref))->gx H' RA rows->(∀b∈RA,H1[b]?=none)->Bv S ts fb ts.length ms rows->R):R:=by
 have zz:=h.6.5
 have tl:ts.length≤2^23:=aj tr.4 (aj (bH 8 zz) (by decide))
 refine c7 50 [.ref la] H1 rfl rfl (L:=[some (.ref la),none,none,none,none,none,none,none,none]) rfl λQ q'=>.set (.attr (.attr (.var rfl) hl rfl rfl) (e _ _ h.2) rfl rfl) ?_
 have ex:∀{H'},eE [DL,RL] H1 H'->Ext H H':=λx=>x.ext e (Oc fD fR)
 have Ey:la∉[DL,RL]:=tH (dg hl gD rfl) (dg hl gR rfl)
 have nI:IX∉[DL,RL]:=tH (dg gI gD rfl) (dg gI gR rfl)
 refine .PS (λ_ (t:(Option V×Option V×Option V×Option V×Option V×Option V×Option V)×List Nat×List Nat×List (List Nat))=>Lr la g t.1) (λn t H'=>eE [DL,RL] H1 H'∧H'[DL]?=some (.list (vn t.2.1))∧H'[RL]?=some (.list (t.2.2.1.map .ref))∧gx H' t.2.2.1 t.2.2.2∧(∀b∈t.2.2.1,b∉[DL,RL]∧H1[b]?=none)∧Bv S ts fb n t.2.1 t.2.2.2)
  ((none,none,none,none,none,none,none),[],[],[]) (.pF (.attr (.var rfl) hl rfl rfl) (.list gT) (by rw[ae];exact aj tl (by decide))) ⟨.r,gD,gR,⟨rfl,λ_ _ _ e=>cW dA e⟩,rj,⟨rfl,rfl,λ_ _ _ _ _ _ _ _ _ e=>cW dA e⟩⟩ (λt=>t.1 _ _ nT gT) ?_ ?_
 ·intro n p X t H2 K hp h2 cg
  obtain⟨c,ms,RA,rows⟩:=t
  obtain⟨x,Nk,No,ra,nb,rd⟩:=h2
  have Nk:H2[DL]?=some (.list (vn ms)):=Nk
  have No:H2[RL]?=some (.list (RA.map .ref)):=No
  have rd:Bv S ts fb n ms rows:=rd
  have ra:gx H2 RA rows:=ra
  have E:Ext H H2:=ex x
  have Om:=x _ _ Ey hl
  have nl:=(ah.1 hp).1
  obtain⟨s,y,t,e1,my,e2⟩:=tr.goal h hp
  refine h.get e2 λa ia ma rda ea st=>?_
  refine .set (.bx (.attr (.var rfl) Om rfl rfl) (E _ _ h.2) rfl rfl (.av (.var rfl) (.av (.var rfl) .bn)) (As (h.ext E) e1 my)) (.set .lit (hN λW H3 j fW gW eW=>.set j (.set (.attr (.idx (.attr (.attr (.var rfl) (eW _ _ Om) rfl rfl) (eW _ _ (E _ _ h.2)) rfl rfl) (.var rfl) (.nat (eW _ _ (E _ _ h.3)) (dy ea))) (eW _ _ (E _ _ st.1)) rfl rfl) ?_)))
  refine reads_in (W:=W) (x2:=some (.int p)) (x3:=some (.int X)) (h.ext E) eW Om (x _ _ nN gN) fl (x _ _ nI gI) tr ix fW gW e2 ⟨E _ _ st.1,E _ _ st.2,E _ _ st.3,E _ _ st.4⟩ λm row x8 H4 E4 gW4 x4 On=>?_
  have nD:∀{b:Nat} {o:O},H2[b]?=some o->b∉[W]:=λk=>yI fW k
  have nW:W∉[DL,RL]:=tH (e_ fW Nk).symm (e_ fW No).symm
  have PU:=x4 _ _ (nD Nk) (eW _ _ Nk)
  have PV:=x4 _ _ (nD No) (eW _ _ No)
  have x5:eE [DL,RL] H1 (H4.set DL (.list (vn ms++[.int m]))):=λb o nb hb=>eJ (x4 _ _ (yI fW (x _ _ nb hb)) (eW _ _ (x _ _ nb hb))) λk=>nb (k▸aP ..)
  refine .expr (.append (.attr (.var rfl) (E4 _ _ Om) rfl rfl) (.var rfl) ⟨_,PU⟩ PU (by rw[aX,rd.1];exact aw nl (aj tl (by decide))))
   (.expr (.append (.attr (.var rfl) (x5 _ _ Ey hl) rfl rfl) (.var rfl) ⟨_,eJ PV ne.symm⟩ (eJ PV ne.symm) (by rw[ae,ra.1,rd.2];exact aw nl (aj tl (by decide))))
    (.nil (cg ((_,_,_,_,_,_,_),ms++[m],RA++[W],rows++[row]) rfl ⟨x5.set (aL _ (ak.2 rfl)),?_,?_,?_,λb k=>?_,rd.add h hp e1 my e2 On⟩)))
  ·rw[eJ (dh PU) ne,vH]
  ·rw[dh (eJ PV ne.symm),ay];rfl
  ·have r4:gx (H4.set DL (.list (vn ms++[.int m]))) RA rows:=(ra.ex (eE.of (S:=[W]) eW|>.trans x4) λb k=>?_).ex (eE.r.set (aP ..):eE [DL,RL] H4 _) λb k=>(nb b k).1
   ·exact(r4.add (row:=row) (eJ gW4 λk=>nW (k▸aP ..))).ex (eE.r.set (aL _ (ak.2 rfl)):eE [DL,RL] _ _) λb k=>(aD.1 k).elim (λk=>(nb b k).1) λk=>ak.1 k▸nW
   ·obtain⟨i,hi⟩:=aO k
    have z:=(ah.1 hi).1
    exact yI fW (ra.2 i b _ hi (ao (ra.1▸z)))
  ·refine(aD.1 k).elim (nb b) λk=>ak.1 k▸⟨nW,?_⟩
   cases c:H1[W]? with
   |none=>rfl
   |some o=>exact cW fW (x W o nW c)
 ·intro t H2 h2
  exact .nil (q' λj=>q t.2.1 t.2.2.1 t.2.2.2 H2 j h2.1 h2.2.1 h2.2.2.1 h2.2.2.2.1 (λb m=>(h2.2.2.2.2.1 b m).2) h2.2.2.2.2.2)
end
section
variable {H0 H:Hp} {u g LS:Nat} {G:aJ} {A:GA} {SA:List Nat} {S:List cQ} {R:Prop}
theorem Ez {n:Nat}:((n+1:Nat):Int)-1=n:=kx n 1
theorem vW {la N:Nat} {fs:List (Nat×V)} {fb:List Bool} {w:List Nat} (hl:H[la]?=some (.inst 6 fs)) (gf:qN 56 fs=some (.ref N)) (gN:H[N]?=some (.list (vN fb))) (fl:fb.length=8) (w8:∀s∈w,s<8) (wl:w.length≤3)
  (q:∀k,JR 51 [.ref la,.tup (vn w)] H (.int (k:Nat)) H->(∀i A,w[i]?=some A->(∀x∈w.drop (i+1),fb[x]?=some true)->k≤i)->R):R:=by
 have zw:(vn w).length≤SZ:=kD (by rw[aX];exact aj wl (by decide))
 refine c7 51 [.ref la,.tup (vn w)] H rfl rfl (L:=[some (.ref la),some (.tup (vn w)),none]) rfl λQ q'=>?_
 have ln:=JE.len (H:=H) (L:=[some (.ref la),some (.tup (vn w)),none]) (a:=.var 1) (.var rfl) (.tup zw)
 rw[aX]at ln
 refine .set ln (.pP (fun(s:Nat)=>[some (.ref la),some (.tup (vn w)),some (.int s)]) (λs H'=>H'=H∧s≤w.length) id w.length ⟨rfl,aC _⟩ ?_)
 intro s H' K h cg _
 obtain⟨rfl,hs⟩:=h
 have fin:(∀i A,w[i]?=some A->(∀x∈w.drop (i+1),fb[x]?=some true)->s-1≤i)->cB (.cons (.ret (.max (.bin .sub (.var 2) (.lit (.int 1))) (.lit (.int 0)))) .nil) [some (.ref la),some (.tup (vn w)),some (.int s)] H' Q:=λhk=>by
  refine .ret (.max (.bin (.var rfl) .lit (.sub _ _ _)) .lit) (q' λj=>q (s-1) ?_ hk)
  have:(if(s:Int)-1<0 then(0:Int)else s-1)=((s-1:Nat):Int):=by
   cases s with
   |zero=>rfl
   |succ n=>rw[Ez,if_neg (fy.2 (aS n))];rfl
  rw[←this];exact j
 cases s with
 |zero=>exact .no (.iD (.af (.bY (.var rfl) .lit (.gt _ 0)))) (fin λi A _ _=>bw i)
 |succ n=>
  have hx:=ao hs
  have x8:=w8 _ (g_ hs)
  generalize w[n]=x at hx x8
  have T1:=JT.bY (H:=H') (L:=[some (.ref la),some (.tup (vn w)),some (.int (n+1:Nat))]) (.var (i:=2) rfl) .lit (.gt ((n+1:Nat):Int) 0)
  rw[decide_eq_true (fO.2 (gV n))]at T1
  have sb:JE (.bin .sub (.var 2) (.lit (.int 1))) [some (.ref la),some (.tup (vn w)),some (.int (n+1:Nat))] H' (.int n) H':=by
   have:=JE.bin (H:=H') (L:=[some (.ref la),some (.tup (vn w)),some (.int (n+1:Nat))]) (.var (i:=2) rfl) (.lit (v:=.int 1)) (.sub ((n+1:Nat):Int) 1 _)
   rw[Ez]at this;exact this
  rcases iF.flag fl x8 with f|f
  ·exact .yes (.iD (.at T1 (.at (.ir (.idx (.attr (.var rfl) hl rfl gf) (.idx (.var rfl) sb (.DV (cN hx) zw)) (.nat gN (iF.kP f))) (.bool _) rfl) .lu))) (.set sb (.nil (cg n rfl ⟨rfl,cv hs⟩ (bT n))))
  ·refine .no (.iD (.at T1 (.af (.ir (.idx (.attr (.var rfl) hl rfl gf) (.idx (.var rfl) sb (.DV (cN hx) zw)) (.nat gN (iF.kP f))) (.bool _) rfl)))) (fin λi A ei hd=>?_)
   refine dQ λc=>?_
   have c:i<n:=c
   have m:x∈w.drop (i+1):=am (i:=n-(i+1)) (by rw[dF,cU c];exact hx)
   exact ff (ax (f.symm.trans (hd x m)))
inductive Row (n:Nat) (l:List Nat):Prop
 |mk (nd:l.Nodup) (lt:∀j∈l,j<n)
theorem Row.len {n l} (h:Row n l):l.length≤n:=by
 exact aT (n:=n)▸br h.1 λj m=>bp.2 (h.2 j m)
theorem Row.add {n l x} (h:Row n l) (m:x∉l) (z:x<n):Row n (l++[x]):=
 ⟨iA h.1 m,λj k=>(aD.1 k).elim (h.2 j) λk=>ak.1 k▸z⟩
theorem in_list {H:Hp} {i a:Nat} {l:List Nat} (h:H[a]?=some (.list (vn l))):zJ H (.int i) (.ref a) (l.contains i):=by
 rw[←qs];rw[iE]at h;exact .list h
theorem xw {b x n:Nat} {l:List Nat} (h:H[b]?=some (.list (vn l))) (r:Row n l) (xn:x<n) (z:n≤2^23)
  (q:∀l' H',JR 10 [.ref b,.int x] H .none H'->eE [b] H H'->H'[b]?=some (.list (vn l'))->Row n l'->x∈l'->(∀y∈l,y∈l')->R):R:=by
 refine c7 10 [.ref b,.int x] H rfl rfl (L:=[some (.ref b),some (.int x)]) rfl λQ q'=>?_
 have T:=JT.bY (H:=H) (L:=[some (.ref b),some (.int x)]) (.var (i:=1) rfl) (.var (i:=0) rfl) (.jG (in_list h))
 by_cases m:x∈l
 ·rw[cV.2 m]at T
  exact .pass T (.nil (q' λj=>q l H j .r h r m λ_ k=>k))
 ·rw[dK.2 λk=>m (cV.1 k)]at T
  exact .then T (.expr (.append (.var rfl) (.var rfl) ⟨_,h⟩ h (by rw[aX];exact aA (aj r.len z) (by decide))) (.nil (.nil (q' λj=>q (l++[x]) _ j (eE.r.set (ak.2 rfl)) (by rw[dh h,vH]) (r.add m xn) (aB _ (ak.2 rfl)) λy k=>aV _ k))))
inductive yT (H1 H:Hp) (n:Nat) (B:List Nat) (c:Nat->List Nat):Prop
 |mk (x:eE B H1 H) (g:∀b∈B,H[b]?=some (.list (vn (c b)))∧Row n (c b))
noncomputable def Le (c c':Nat->List Nat):Prop:=∀b,∀x∈c b,x∈c' b
theorem Le.r {c:Nat->List Nat}:Le c c:=λ_ _ h=>h
theorem Le.trans {a b c:Nat->List Nat} (h:Le a b) (k:Le b c):Le a c:=λ_ _ m=>k _ _ (h _ _ m)
theorem yT.once {H1:Hp} {n x b:Nat} {B:List Nat} {c:Nat->List Nat} (h:yT H1 H n B c) (m:b∈B) (xn:x<n) (z:n≤2^23)
  (q:∀c' H',JR 10 [.ref b,.int x] H .none H'->yT H1 H' n B c'->Le c c'->x∈c' b->eE B H H'->R):R:=by
 refine xw (h.2 b m).1 (h.2 b m).2 xn z λl' H' j x' g' r' m' s'=>q (λa=>if a=b then l' else c a) H' j ⟨h.1.trans λa o na ha=>x' a o (λk=>na (ak.1 k▸m)) ha,λa ha=>?_⟩ (λa y hy=>?_) (by rw[if_pos rfl];exact m') λa o na ha=>x' a o (λk=>na (ak.1 k▸m)) ha
 ·by_cases e:a=b
  ·rw[e,if_pos rfl];exact⟨g',r'⟩
  ·rw[if_neg e];exact⟨x' a _ (λk=>e (ak.1 k)) (h.2 a ha).1,(h.2 a ha).2⟩
 ·by_cases e:a=b
  ·show y∈if a=b then l' else c a
   rw[if_pos e];rw[e]at hy;exact s' y hy
  ·show y∈if a=b then l' else c a
   rw[if_neg e];exact hy
end
section
noncomputable def pd {α:Type} (f:α->V) (l:List ((Nat×Nat)×α)):List (List Int×V):=l.map λp=>([(p.1.1:Int),(p.1.2:Int)],f p.2)
section
variable {α:Type} {f:α->V} {l:List ((Nat×Nat)×α)} {k:Nat×Nat} {b:α}
theorem EA {j:Nat×Nat} (e:[(j.1:Int),(j.2:Int)]=[(k.1:Int),(k.2:Int)]):j=k:=
 Prod.ext (a_.1 (bA e).1) (a_.1 (bA (bA e).2).1)
theorem vX (n:(l.map (·.1)).Nodup) (h:(k,b)∈l):d7 [(k.1:Int),(k.2:Int)] (pd f l)=some (f b):=by
 rw[d7]
 cases e:(pd f l).find? λp=>decide (p.1=[(k.1:Int),(k.2:Int)])with
 |none=>exact absurd (decide_eq_true rfl) (dS.1 e _ (az.2 ⟨_,h,rfl⟩))
 |some x=>
  obtain⟨y,m,rfl⟩:=az.1 (dE e)
  rw[show y=(k,b) from iN (f:=(·.1)) n m h (EA (of_decide_eq_true (jF (p:=λp:List Int×V=>decide (p.1=[(k.1:Int),(k.2:Int)])) e)))];rfl
theorem EB (h:k∉l.map (·.1)) (b:α):dput [(k.1:Int),(k.2:Int)] (f b) (pd f l)=pd f (l++[(k,b)]):=by
 rw[sx (d:=pd f l) λx m e=>(az.1 m).elim λp q=>h (az.2 ⟨p,q.1,EA ((congrArg Prod.fst q.2).trans e)⟩),pd,pd,ay];rfl
theorem yU:(pd f l).length=l.length:=ae _
end
inductive xW (S:List cQ) (n k:Nat) (l:List ((Nat×Nat)×Nat)):Prop
 |mk (cpl:∀(q:Nat) s (j r:Nat),S[q]?=some s->s.red[j]?=some r->(q<n∨(q=n∧j<k))->∃b,((q,r),b)∈l) (snd:∀p∈l,∃s j,S[p.1.1]?=some s∧s.red[j]?=some p.1.2∧(p.1.1<n∨(p.1.1=n∧j<k))) (nd:(l.map (·.1)).Nodup) (len:l.length≤5*n+k)
theorem xW.zero {S}:xW S 0 0 []:=⟨λq s j r _ _ c=>c.elim (λc=>absurd c (bm _)) λc=>absurd c.2 (bm _),rj,.nil,aC _⟩
theorem xW.new {S n k l r} {s:cQ} (h:xW S n k l) (e:S[n]?=some s) (hr:s.red[k]?=some r) (nd:s.red.Nodup):(n,r)∉l.map (·.1):=λm=>by
 obtain⟨p,mp,ep⟩:=az.1 m
 obtain⟨s',j,e',r',c⟩:=h.2 p mp
 rw[ep]at e' r' c
 cases e.symm.trans e'
 exact c.elim (eO _) λc=>cr c.2 ((cM (ah.1 r').1 nd).1 (r'.trans hr.symm))
theorem xW.add {S n k l r b} {s:cQ} (h:xW S n k l) (e:S[n]?=some s) (hr:s.red[k]?=some r) (nd:s.red.Nodup):xW S n (k+1) (l++[((n,r),b)]):=by
 refine⟨λq t j x e1 e2 c=>?_,λp m=>?_,?_,by rw[aq];exact aM h.4⟩
 ·have o:=λc=>(h.1 q t j x e1 e2 c).imp λb' m=>aV [((n,r),b)] m
  refine c.elim (λc=>o (.inl c)) λc=>(bj.1 c.2).elim (λw=>o (.inr ⟨c.1,w⟩)) λw=>?_
  cases e.symm.trans (c.1▸e1);cases hr.symm.trans (w▸e2)
  exact⟨b,aB _ (ak.2 (by rw[c.1]))⟩
 ·exact(aD.1 m).elim (λm=>(h.2 p m).imp λs' q=>q.imp λj w=>⟨w.1,w.2.1,w.2.2.imp id λc=>⟨c.1,d9 c.2⟩⟩) λm=>ak.1 m▸⟨s,k,e,hr,.inr ⟨rfl,bT k⟩⟩
 ·rw[ay];exact iA h.3 (h.new e hr nd)
theorem xW.next {S n l} {s:cQ} (h:xW S n s.red.length l) (e:S[n]?=some s) (z:s.red.length≤5):xW S (n+1) 0 l:=
 ⟨λq t j x e1 e2 c=>h.1 q t j x e1 e2 (c.elim (λc=>(bj.1 c).imp id λc=>⟨c,by
  cases e.symm.trans (c▸e1);exact(ah.1 e2).1⟩) λc=>absurd c.2 (bm _)),
 λp m=>(h.2 p m).imp λs' q=>q.imp λj w=>⟨w.1,w.2.1,.inl (w.2.2.elim d9 λc=>c.1▸bT _)⟩,h.3,aj h.4 (bZ z _)⟩
variable {H0 H:Hp} {u g LS:Nat} {G:aJ} {A:GA} {SA:List Nat} {S:List cQ} {R:Prop}
noncomputable def Li (la g:Nat) (x2 x3 x4 x5 x6 x7 x8 x9 gJ fK fX:Option V):Lc:=[some (.ref la),some (.ref g),x2,x3,x4,x5,x6,x7,x8,x9,gJ,fK,fX]
noncomputable def laG (u N TL IX DL RL IL UL LB:Nat):List (Nat×V):=[(53,.ref u),(56,.ref N),(55,.ref TL),(54,.ref IX),(57,.ref DL),(58,.ref RL),(61,.ref IL),(62,.ref UL),(59,.ref LB)]
theorem xx {H1:Hp} {la N TL IX DL RL IL UL LB:Nat} {Q:Fl->Lc->Hp->Prop} {r:i6} (h:bM H0 u g G A LS SA S) (e:Ext H0 H1) (hl:H1[la]?=some (.inst 6 (laG u N TL IX DL RL IL UL LB))) (gL:H1[LB]?=some (.bV [])) (fL:H0[LB]?=none)
  (k:∀x2 x3 l H',eE [LB] H1 H'->H'[LB]?=some (.bV (pd .ref l))->xW S S.length 0 l->(∀p∈l,H'[p.2]?=some (.list [])∧H1[p.2]?=none)->cB r (Li la g x2 x3 none none none none none none none none none) H' Q):
  cB (.cons ((bo 52).at 1) r) (Li la g none none none none none none none none none none none) H1 Q:=by
 have Ey:la∉[LB]:=λm=>dg hl gL rfl (ak.1 m)
 refine .r9 (λ_ (t:Option V×Option V×List ((Nat×Nat)×Nat))=>Li la g t.1 t.2.1 none none none none none none none none none) (λn t H'=>eE [LB] H1 H'∧H'[LB]?=some (.bV (pd .ref t.2.2))∧xW S n 0 t.2.2∧∀p∈t.2.2,H'[p.2]?=some (.list [])∧H1[p.2]?=none) (none,none,[])
  (.pF (.attr (.attr (.var rfl) hl rfl rfl) (e _ _ h.2) rfl rfl) (.list (e _ _ h.3)) (by rw[ae,h.4];exact aj h.6.5 (by decide))) ⟨.r,gL,.zero,rj⟩ (λt=>t.1.new fL e _ _ h.3) ?_ ?_
 ·intro n a t H2 K ha h2 cg _
  obtain⟨x2,x3,l⟩:=t
  obtain⟨x,PW,lk,fr⟩:=h2
  refine h.at_ ha λs ia ma ra es st=>?_
  have E:=x.new fL e
  have rl:=h.qx es
  have zn:=(ah.1 es).1
  have zz:=h.6.5
  refine .jW (λ_ (t:Option V×List ((Nat×Nat)×Nat))=>Li la g (some (.ref a)) t.1 none none none none none none none none none) (λk t H'=>eE [LB] H1 H'∧H'[LB]?=some (.bV (pd .ref t.2))∧xW S n k t.2∧∀p∈t.2,H'[p.2]?=some (.list [])∧H1[p.2]?=none) (x3,l)
   (.dT (.attr (.var rfl) (E _ _ st.1) rfl rfl) (E _ _ st.4) (by rw[aX];exact aj rl (by decide))) ⟨x,PW,lk,fr⟩ (λt=>t.1.new fL e _ _ st.4) ?_ ?_
  ·intro k r t H3 K hr h3 cg _
   obtain⟨y3,l⟩:=t
   obtain⟨x,EC,lk,fr⟩:=h3
   have EC:H3[LB]?=some (.bV (pd .ref l)):=EC
   have lk:xW S n k l:=lk
   have E:=x.new fL e
   have kl:=(ah.1 hr).1
   have nd:=h.rq es
   have ll:=lk.4
   refine hN λb H4 j fb gb eb=>.bq j (.attr (.var rfl) (eb _ _ (x _ _ Ey hl)) rfl rfl) (.tup (.av (.attr (.var rfl) (eb _ _ (E _ _ st.1)) rfl rfl) (.av (.var rfl) .bn)) (ib _ rfl))
    (.bV (k:=[(n:Int),(r:Int)]) (eb _ _ EC) (by rw[yU];exact aA ll (aw (gG (bH 5 (aj (aK zn) zz)) (aw kl rl)) (by decide)))) (.nil (cg (some (.int r),l++[((n,r),b)]) rfl ⟨(x.trans (.of eb)).set (ak.2 rfl),?_,lk.add es hr nd,λp m=>?_⟩))
   ·rw[dh (eb _ _ EC)];exact congrArg (λd=>some (O.bV d)) (EB (f:=V.ref) (k:=(n,r)) (lk.new es hr nd) b)
   ·rcases aD.1 m with m|m
    ·exact⟨eJ (eb _ _ (fr p m).1) (dg (fr p m).1 EC rfl),(fr p m).2⟩
    ·rw[ak.1 m]
     refine⟨eJ gb (dg gb (eb _ _ EC) rfl),?_⟩
     cases c:H1[b]? with
     |none=>rfl
     |some o=>
      exact cW fb (x b o (vO (e_ fb EC).symm) c)
  ·intro t H3 h3
   exact .nil (cg (some (.ref a),t.1,t.2) rfl ⟨h3.1,h3.2.1,h3.2.2.1.next es rl,h3.2.2.2⟩)
 ·intro t H2 h2
  exact k t.1 t.2.1 t.2.2 H2 h2.1 h2.2.1 (h.4▸h2.2.2.1) h2.2.2.2
end
section
structure IU where
 la:Nat
 N:Nat
 TL:Nat
 IX:Nat
 DL:Nat
 RL:Nat
 IL:Nat
 UL:Nat
 LB:Nat
structure xX where
 fb:List Bool
 ts:List (Nat×Nat)
 d:List (List Int×V)
 IA:List Nat
 UA:List Nat
 l:List ((Nat×Nat)×Nat)
 B:List Nat
noncomputable def IU.fs (a:IU) (u:Nat):List (Nat×V):=laG u a.N a.TL a.IX a.DL a.RL a.IL a.UL a.LB
inductive Fi (H0 H2:Hp) (u g:Nat) (G:aJ) (A:GA) (LS:Nat) (SA:List Nat) (S:List cQ) (a:IU) (t:xX):Prop
 |mk (Op:bM H0 u g G A LS SA S) (e:Ext H0 H2) (fB:∀b∈t.B,H0[b]?=none) (hl:H2[a.la]?=some (.inst 6 (a.fs u))) (gN:H2[a.N]?=some (.list (vN t.fb))) (fl:t.fb.length=8) (gT:H2[a.TL]?=some (.list (t.ts.map tV))) (gI:H2[a.IX]?=some (.bV t.d)) (Oq:H2[a.IL]?=some (.list (t.IA.map .ref))) (Os:H2[a.UL]?=some (.list (t.UA.map .ref))) (FB:H2[a.LB]?=some (.bV (pd .ref t.l))) (il:t.IA.length=t.ts.length) (ul:t.UA.length=t.ts.length) (kN:a.N∉t.B) (kT:a.TL∉t.B) (kIL:a.IL∉t.B) (kUL:a.UL∉t.B) (kla:a.la∉t.B) (kIX:a.IX∉t.B) (kLB:a.LB∉t.B) (bI:∀b∈t.IA,b∈t.B) (bU:∀b∈t.UA,b∈t.B) (bL:∀p∈t.l,p.2∈t.B) (tr:p9 S S.length [] t.ts) (ix:Ix t.ts t.d) (lk:xW S S.length 0 t.l)
noncomputable def xy (S:List cQ) (t:xX) (c:Nat->List Nat) (x p:Nat) (w:List Nat) (i:Nat):Prop:=
 ∀(X at_ y b:Nat),w[i]?=some X->5≤X->(∀Z∈w.drop (i+1),t.fb[Z]?=some true)->Walk S p (w.take i) at_->t.ts[y]?=some (at_,X)->t.IA[y]?=some b->x∈c b
noncomputable def Ot (S:List cQ) (t:xX) (c:Nat->List Nat) (x p:Nat) (w:List Nat) (r:Nat):Prop:=∀(e b:Nat),Walk S p w e->((e,r),b)∈t.l->x∈c b
theorem xy.le {S t c c' x p w i} (h:xy S t c x p w i) (k:Le c c'):xy S t c' x p w i:=λX at_ y b a1 a2 a3 a4 a5 a6=>k _ _ (h X at_ y b a1 a2 a3 a4 a5 a6)
theorem Ot.le {S t c c' x p w r} (h:Ot S t c x p w r) (k:Le c c'):Ot S t c' x p w r:=λe b a1 a2=>k _ _ (h e b a1 a2)
theorem Walk.E {S:List cQ} {q p:Nat} {w:List Nat} {R:Prop} (a:Walk S q w p) (h0:w=[]->q=p->R) (h1:∀m v X,w=v++[X]->Walk S q v m->Mv S m X p->R):R:=by
 cases a with
 |nil=>exact h0 rfl rfl
 |snoc a m=>exact h1 _ _ _ rfl a m
theorem tS {S:List cQ} {G:aJ} (h:o0 G S) {q p:Nat} {w:List Nat} (a:Walk S q w p):∀{p'},Walk S q w p'->p=p':=by
 induction a with
 |nil=>exact λb=>b.E (λ_ e=>e) λ_ _ _ e=>absurd e.symm (iL _ (jg _ _))
 |snoc a m1 ih=>
  exact λb=>b.E (λe=>absurd e (iL _ (jg _ _))) λ_ _ _ e b m2=>by
   have w:=List.append_inj' e rfl
   exact m1.det h (ih (w.1▸b)▸(bA w.2).1▸m2)
section
variable {H0 H2 H:Hp} {u g LS:Nat} {G:aJ} {A:GA} {SA:List Nat} {S:List cQ} {a:IU} {t:xX} {R:Prop} {c:Nat->List Nat}
theorem Fi.x (F:Fi H0 H2 u g G A LS SA S a t) (b:yT H2 H t.ts.length t.B c):Ext H0 H:=b.1.ext F.2 F.3
theorem Fi.tl (F:Fi H0 H2 u g G A LS SA S a t):t.ts.length≤2^23:=aj F.24.4 (aj (bH 8 F.1.6.5) (by decide))
theorem Ku (o:G.Ok) {i s:Nat} (h:G.af i=some s):s≠5:=by
 have m:s∈G.right (G.rl i):=am h
 cases e:G.rules[G.rl i]? with
 |none=>rw[aJ.right,e]at m;exact absurd m aQ
 |some x=>
  rw[qz e]at m
  refine(pZ (G.rl i)).elim (λk=>?_) λk=>(by decide:∀s∈[3,4,6,7],s≠5) s (Nd (o.5 _ x e k s m))
  have e0:G.rules[0]?=some x:=k▸e
  have:=o.4;rw[e0]at this
  exact(by decide:∀s∈[6,0],s≠5) s ((ax this:x.right=[6,0])▸m)
theorem Bw (F:Fi H0 H2 u g G A LS SA S a t) {x p Bs r k:Nat} {x2 fK fX:Option V} {Q:Fl->Lc->Hp->Prop} {rest:i6} (bg:yT H2 H t.ts.length t.B c) (hx:x<t.ts.length) (z:r<5) (it:It S p (G.off r))
  (hk:∀i X,(G.right r)[i]?=some X->(∀Z∈(G.right r).drop (i+1),t.fb[Z]?=some true)->k≤i) {gJ:Option V}
  (q:∀c' H' at_ gJ fK fX,yT H2 H' t.ts.length t.B c'->Le c c'->(∀i,xy S t c' x p (G.right r) i)->Walk S p (G.right r) at_->It S at_ (G.off r+(G.right r).length)->eE t.B H H'->
   cB rest (Li a.la g x2 (some (.int r)) (some (.int x)) (some (.int p)) (some (.int Bs)) (some (.tup (vn (G.right r)))) (some (.int k)) (some (.int at_)) gJ fK fX) H' Q):
  cB (.cons ((((bo 52).at 2).in.at 1).in.at 3) rest)
   (Li a.la g x2 (some (.int r)) (some (.int x)) (some (.int p)) (some (.int Bs)) (some (.tup (vn (G.right r)))) (some (.int k)) (some (.int p)) gJ fK fX) H Q:=by
 have PX:=iF.rn F.1.1.13 r
 have zw:(vn (G.right r)).length≤SZ:=kD (by rw[aX];exact aj PX (by decide))
 refine .tx (G.right r).length (λ_ (s:(Nat->List Nat)×Nat×Option V×Option V×Option V)=>Li a.la g x2 (some (.int r)) (some (.int x)) (some (.int p)) (some (.int Bs)) (some (.tup (vn (G.right r)))) (some (.int k)) (some (.int s.2.1)) s.2.2.1 s.2.2.2.1 s.2.2.2.2)
  (λn s H'=>C6 (yT H2 H' t.ts.length t.B s.1) (Le c s.1) (Walk S p ((G.right r).take n) s.2.1) (It S s.2.1 (G.off r+n)) (eE t.B H H') (∀i<n,xy S t s.1 x p (G.right r) i)) (c,p,gJ,fK,fX)
  ((JE.len (.var rfl) (.tup zw)).to (by rw[aX])) (aj PX (by decide)) ⟨bg,.r,.nil p,it,.r,λ_ h=>absurd h (bm _)⟩ (λn s H3 K hn h3 cg _=>?_) λs H3 h3=>?_
 ·have hX:=ao hn
  generalize (G.right r)[n]=X at hX
  have af:=(rt F.1.1 z (aK hn)).trans hX
  refine(h3.4.mv F.1.1 F.1.6 af).elim λnx mv=>?_
  have mts:5≤X->(s.2.1,X)∈t.ts:=λz5=>mv.elim λsq w=>F.24.2 s.2.1 sq X w.1 (az.2 ⟨_,w.2,rfl⟩) z5 (.inl (ah.1 w.1).1)
  have tail:∀c2 H4 B8,eE t.B H3 H4->yT H2 H4 t.ts.length t.B c2->Le s.1 c2->xy S t c2 x p (G.right r) n->cB (((((bo 52).at 2).in.at 1).in.at 3).in.tl.tl)
    (Li a.la g x2 (some (.int r)) (some (.int x)) (some (.int p)) (some (.int Bs)) (some (.tup (vn (G.right r)))) (some (.int k)) (some (.int s.2.1)) (some (.int n)) (some (.int X)) B8) H4 K:=λc2 H4 B8 Ln b2 IV i2=>
   .set (.bx (.attr (.var rfl) (b2.1 _ _ F.18 F.4) rfl rfl) ((F.x b2) _ _ F.1.2) rfl rfl (.av (.var rfl) (.av (.var rfl) .bn)) (mv.elim λsq w=>As (F.1.ext (F.x b2)) w.1 w.2)) (.nil (cg (c2,nx,some (.int n),some (.int X),B8) rfl
    ⟨b2,h3.2.trans IV,by rw[aW,hX];exact h3.3.snoc mv,h3.4.next F.1.6 af mv,h3.5.trans Ln,λi hi=>(bj.1 hi).elim (λw=>(h3.6 i w).le IV) λw=>w▸i2⟩))
  refine .set (.idx (.var rfl) (.var rfl) (.DV (cN hX) zw)) ?_
  rcases ba n k with zk|zk
  ·exact .pass (.iD (.af (.bY (.var (i:=10) rfl) (.var (i:=8) rfl) (.geF zk)))) (tail s.1 H3 _ .r h3.1 .r λX' at' y b a1 a2 a3=>absurd zk (bE.2 (hk n X' a1 a3)))
  ·have E3:=F.x h3.1
   rcases ba X 5 with z5|z5
   ·exact .pass (.iD (.at (.bY (.var (i:=10) rfl) (.var (i:=8) rfl) (.geT zk)) (.af (.um (.ir (.bx (.var rfl) (E3 _ _ F.1.1.1) rfl rfl (.av (.var rfl) .bn) (DX (F.1.1.ext E3) z5)) (.bool _) rfl)))))
     (tail s.1 H3 _ .r h3.1 .r λX' at' y b a1 a2=>absurd a2 (iK.2 (ax (hX.symm.trans a1)▸z5)))
   ·obtain⟨y,hy⟩:=aO (mts z5)
    have zy:=(ah.1 hy).1
    have hI:=ao (F.12.symm▸zy:y<t.IA.length)
    have hU:=ao (F.13.symm▸zy:y<t.UA.length)
    refine h3.1.once (F.21 _ (am hI)) hx F.tl λc2 H4 j b2 IV m2 Ln=>?_
    have i2:∀c3,Le c2 c3->xy S t c3 x p (G.right r) n:=λc3 IW X' at' y' b a1 a2 a3 a4 a5 a6=>by
     have e:y'=y:=(cM (ah.1 a5).1 F.24.3).1 (a5.trans (tS F.1.6 h3.3 a4▸ax (hX.symm.trans a1)▸hy.symm))
     exact ax (hI.symm.trans (e▸a6))▸IW _ _ m2
    refine .then (.iD (.at (.bY (.var (i:=10) rfl) (.var (i:=8) rfl) (.geT zk)) (.at (.um (.ir (.bx (.var rfl) (E3 _ _ F.1.1.1) rfl rfl (.av (.var rfl) .bn) (DY (F.1.1.ext E3) z5)) (.bool _) rfl)) .lu)))
     (.set (.idx (.attr (.var rfl) (h3.1.1 _ _ F.18 F.4) rfl rfl) (.tup (.av (.var rfl) (.av (.var rfl) .bn)) (ib _ rfl)) (.dict ((dY.t (k:=[(s.2.1:Int),(X:Int)]) (h3.1.1 _ _ F.19 F.8)).to (F.25.1 y s.2.1 X hy))))
      (.expr (.call (.av (.idx (.attr (.var rfl) (h3.1.1 _ _ F.18 F.4) rfl rfl) (.var rfl) (.nat (h3.1.1 _ _ F.16 F.9) (dy hI))) (.av (.var rfl) .bn)) j) ?_))
    refine .ite (.bY (.var rfl) .lit (.eq (.int (n:Int) 0))) (λ_=>?_) λ_=>.nil (.nil (tail c2 H4 _ Ln b2 IV (i2 c2 .r)))
    exact b2.once (F.22 _ (am hU)) hx F.tl λc3 H5 j b3 IW _ PY=>.expr (.call (.av (.idx (.attr (.var rfl) (b2.1 _ _ F.18 F.4) rfl rfl) (.var rfl) (.nat (b2.1 _ _ F.17 F.10) (dy hU))) (.av (.var rfl) .bn)) j) (.nil (.nil (tail c3 H5 _ (Ln.trans PY) b3 (IV.trans IW) (i2 c3 IW))))
 ·refine q s.1 H3 s.2.1 _ _ _ h3.1 h3.2 (λi=>?_) (by have:=h3.3;rw[aR]at this;exact this) h3.4 h3.5
  rcases ba i (G.right r).length with w|w
  ·exact h3.6 i w
  ·exact λX at_ y b a1=>cW (bR w) a1
end
end
section
variable {H0 H2 H:Hp} {u g LS:Nat} {G:aJ} {A:GA} {SA:List Nat} {S:List cQ} {a:IU} {t:xX} {R:Prop} {c:Nat->List Nat}
noncomputable def yV (G:aJ) (S:List cQ) (t:xX) (c:Nat->List Nat) (x p r:Nat):Prop:=(∀i,xy S t c x p (G.right r) i)∧Ot S t c x p (G.right r) r
theorem yV.le {x p r:Nat} {c':Nat->List Nat} (h:yV G S t c x p r) (k:Le c c'):yV G S t c' x p r:=⟨λi=>(h.1 i).le k,h.2.le k⟩
noncomputable def Kv (G:aJ) (S:List cQ) (t:xX) (c:Nat->List Nat) (n:Nat):Prop:=∀x<n,∀p B,t.ts[x]?=some (p,B)->∀r∈G.gj B,yV G S t c x p r
theorem pS (o:G.Ok) {r s:Nat}:r∈G.gj s↔r<5∧G.left r=s:=by
 rw[aJ.gj,bz,bp,o.1,beq_iff_eq]
 refine and_congr_right λz=>?_
 rw[aJ.left,ao (o.1.symm▸z)]
 exact⟨λh=>ax h,λh=>congrArg some h⟩
theorem It.red (hG:b_ H g G A) (h:o0 G S) {r e:Nat} {s:cQ} (z0:0<r) (z:r<5) (ee:S[e]?=some s) (m:It S e (G.off r+(G.right r).length)):r∈s.red:=
 have w:G.rl (G.off r+(G.right r).length)=r:=aJ.kX (hG.13.1▸z) (aC _)
 (tQ h ee).2 ⟨_,m,(rt hG z (aC _)).trans (bR (aC _)),λk=>di z0 (w.symm.trans k),w⟩
theorem Bx (F:Fi H0 H2 u g G A LS SA S a t) {x p Bs:Nat} {x2 x3 x7 x8 x9 gJ fK fX:Option V} {Q:Fl->Lc->Hp->Prop} {rest:i6} (bg:yT H2 H t.ts.length t.B c) (hx:t.ts[x]?=some (p,Bs))
  (q:∀c' H' x3 x7 x8 x9 gJ fK fX,yT H2 H' t.ts.length t.B c'->Le c c'->(∀r∈G.gj Bs,yV G S t c' x p r)->cB rest (Li a.la g x2 x3 (some (.int x)) (some (.int p)) (some (.int Bs)) x7 x8 x9 gJ fK fX) H' Q):
  cB (.cons (((bo 52).at 2).in.at 1) rest) (Li a.la g x2 x3 (some (.int x)) (some (.int p)) (some (.int Bs)) x7 x8 x9 gJ fK fX) H Q:=by
 have hxl:=(ah.1 hx).1
 refine(show ∃s,S[p]?=some s∧Bs∈s.mv.map (·.1) from(F.24.1 _ (am hx)).2.2).elim λs es=>(az.1 es.2).elim λmv em=>(Mv.it F.1.6 ⟨s,es.1,em.1⟩).elim λi0 a0=>?_
 have a0':G.af i0=some Bs:=a0.2.trans (congrArg some em.2)
 refine rN (F.1.1.ext (F.x bg)) (F.1.yS es.1 es.2) λW H3 j fW gW eW=>?_
 refine .jW (λ_ (s:(Nat->List Nat)×Option V×Option V×Option V×Option V×Option V×Option V×Option V)=>Li a.la g x2 s.2.1 (some (.int x)) (some (.int p)) (some (.int Bs)) s.2.2.1 s.2.2.2.1 s.2.2.2.2.1 s.2.2.2.2.2.1 s.2.2.2.2.2.2.1 s.2.2.2.2.2.2.2)
  (λn s H'=>C4 (yT H2 H' t.ts.length t.B s.1) (H'[W]?=some (.list (vn (G.gj Bs)))) (Le c s.1) (∀r∈(G.gj Bs).take n,yV G S t s.1 x p r)) (c,x3,x7,x8,x9,gJ,fK,fX)
  (.dT (.bx (.var rfl) ((F.x bg) _ _ F.1.1.1) rfl rfl (.av (.var rfl) .bn) j) gW (by rw[aX];exact aj (kj F.1.1 _) (by decide)))
  ⟨⟨bg.1.trans (.of eW),λb m=>⟨eW _ _ (bg.2 b m).1,(bg.2 b m).2⟩⟩,gW,.r,rj⟩ (λh=>h.2) (λn r s4 H4 K hr h4 cg _=>?_) λs H4 h4=>?_
 ·have w:=(pS F.1.1.13).1 (am hr)
  have z0:0<r:=dH λk=>Ku F.1.1.13 a0' (w.2.symm.trans (k▸vU F.1.1.13 (by decide)))
  have E4:=F.x h4.1
  refine F.1.1.at_ w.1 λar ru r1 r2 r3 r4 r5=>vW (h4.1.1 _ _ F.18 F.4) rfl (h4.1.1 _ _ F.14 F.5) F.6 (λs m=>iF.lR F.1.1.13 m) (iF.rn F.1.1.13 r) λk jk hk=>?_
  refine .set (v:=.tup (vn (G.right r))) (.attr (.idx (.attr (.var rfl) (E4 _ _ F.1.1.1) rfl rfl) (.var rfl) (.nat (E4 _ _ F.1.1.2) (dy r1))) (E4 _ _ r3) rfl (r5▸rfl)) (.set (.bx (.var rfl) (h4.1.1 _ _ F.18 F.4) rfl rfl (.av (.var rfl) .bn) jk) (.set (.var rfl) ?_))
  refine Bw (Bs:=Bs) F h4.1 hxl w.1 (a0.1.close F.1.1 F.1.6 (w.2.symm▸a0') w.1) hk λc2 H5 e IG IH B8 b2 IV Hg wk ite Ln=>ite.elim λse me=>?_
  refine(aO (It.red F.1.1 F.1.6 z0 w.1 me.1 ite)).elim λj2 hj2=>(F.26.1 e se j2 r me.1 hj2 (.inl (ah.1 me.1).1)).elim λb mb=>?_
  refine b2.once (F.23 _ mb) hxl F.tl λc3 H6 j3 b3 IW m3 PY=>.expr (.call (.av (.idx (.attr (.var rfl) (b2.1 _ _ F.18 F.4) rfl rfl) (.tup (.av (.var rfl) (.av (.var rfl) .bn)) (ib _ rfl)) (.dict ((dY.t (k:=[(e:Int),(r:Int)]) (b2.1 _ _ F.20 F.11)).to (vX (k:=(e,r)) F.26.3 mb)))) (.av (.var rfl) .bn)) j3)
   (.nil (cg (c3,some (.int r),_,_,_,_,_,_) rfl ⟨b3,(Ln.trans PY) _ _ (λm=>cW fW (bg.2 _ m).1) h4.2,h4.3.trans (IV.trans IW),λr' m'=>?_⟩))
  rw[aW,hr]at m'
  exact(aD.1 m').elim (λm'=>(h4.4 r' m').le (IV.trans IW)) λm'=>(ak.1 m').symm▸(show yV G S t c3 x p r from⟨λi=>(Hg i).le IW,λe' b' wk' mb'=>
   (congrArg (·.2) (iN (f:=(·.1)) F.26.3 mb mb' (congrArg (·,r) (tS F.1.6 wk wk'))):b=b')▸m3⟩)
 ·have w:=h4.4
  rw[aR]at w
  exact q s.1 H4 _ _ _ _ _ _ _ h4.1 h4.3 w
end
section
noncomputable def xX.of (fb:List Bool) (ts:List (Nat×Nat)) (d:List (List Int×V)) (IA UA:List Nat) (l:List ((Nat×Nat)×Nat)):xX:=⟨fb,ts,d,IA,UA,l,(IA++UA)++l.map (·.2)⟩
variable {H0 H1:Hp} {u g LS:Nat} {G:aJ} {A:GA} {SA:List Nat} {S:List cQ} {R:Prop}
theorem vY {α:Type} {P:α->Prop} {l m:List α} (h:∀b∈l,P b) (k:∀b∈m,P b):∀b∈l++m,P b:=λb w=>(aD.1 w).elim (h b) (k b)
theorem all_map {α β:Type} {P:β->Prop} {f:α->β} {l:List α} (h:∀b∈l,P (f b)):∀b∈l.map f,P b:=λb w=>(az.1 w).elim λx q=>q.2▸h x q.1
theorem ry (Op:bM H0 u g G A LS SA S) (e:Ext H0 H1) (a:IU) {fb ts d IA UA} (hl:H1[a.la]?=some (.inst 6 (a.fs u))) (gN:H1[a.N]?=some (.list (vN fb))) (fl:fb.length=8) (gT:H1[a.TL]?=some (.list (ts.map tV))) (gI:H1[a.IX]?=some (.bV d))
  (Oq:H1[a.IL]?=some (.list (IA.map .ref))) (Os:H1[a.UL]?=some (.list (UA.map .ref))) (FB:H1[a.LB]?=some (.bV [])) (il:IA.length=ts.length) (ul:UA.length=ts.length) (fLB:H0[a.LB]?=none) (nIX:a.IX≠a.LB)
  (emp:∀b∈IA++UA,H1[b]?=some (.list [])∧H0[b]?=none) (kp:∀x∈[a.N,a.TL,a.IL,a.UL],x∉IA++UA) (tr:p9 S S.length [] ts) (ix:Ix ts d)
  (q:∀l c H2 H',JR 52 [.ref a.la] H1 .none H'->Fi H0 H2 u g G A LS SA S a (.of fb ts d IA UA l)->yT H2 H' ts.length (xX.of fb ts d IA UA l).B c->Kv G S (.of fb ts d IA UA l) c ts.length->eE (a.LB::(IA++UA)) H1 H'->R):R:=by
 refine c7 52 [.ref a.la] H1 rfl rfl (L:=[some (.ref a.la),none,none,none,none,none,none,none,none,none,none,none,none]) rfl λQ q'=>.set (.attr (.attr (.var rfl) hl rfl rfl) (e _ _ Op.2) rfl rfl) ?_
 refine xx (la:=a.la) Op e hl FB fLB λx2 x3 l H2 x PW lk fr=>?_
 have n1:∀{b:Nat} {o:O},H1[b]?=some o->b≠a.LB->H2[b]?=some o:=λk n=>x _ _ (vO n) k
 have nB:∀{b:Nat} {o:O},H1[b]?=some o->b∉IA++UA->b∉(xX.of fb ts d IA UA l).B:=λk n m=>(aD.1 m).elim n λm=>(az.1 m).elim λp q=>cW (fr p q.1).2 (q.2▸k)
 have nk:∀{b:Nat} {o:O},H1[b]?=some o->Nat.beq o.ctorIdx 0=false->b∉IA++UA:=λk n m=>dg k (emp _ m).1 n rfl
 have F:Fi H0 H2 u g G A LS SA S a (.of fb ts d IA UA l):=
  ⟨Op,x.new fLB e,vY (λb m=>(emp b m).2) (all_map λp m=>e.none (fr p m).2),
  n1 hl (dg hl FB rfl),n1 gN (dg gN FB rfl),fl,n1 gT (dg gT FB rfl),n1 gI nIX,n1 Oq (dg Oq FB rfl),n1 Os (dg Os FB rfl),PW,il,ul,
  nB gN (kp _ (.head _)),nB gT (kp _ (.tail _ (.head _))),nB Oq (kp _ (.tail _ (.tail _ (.head _)))),nB Os (kp _ (.tail _ (.tail _ (.tail _ (.head _))))),nB hl (nk hl rfl),nB gI (nk gI rfl),nB FB (nk FB rfl),
  λb m=>aV _ (aV _ m),λb m=>aV _ (aB _ m),λp m=>aB _ (az.2 ⟨p,m,rfl⟩),tr,ix,lk⟩
 have bg:yT H2 H2 ts.length (xX.of fb ts d IA UA l).B λ_=>[]:=⟨.r,λb m=>⟨vY (P:=λb=>H2[b]?=some (.list [])) (λb m=>n1 (emp b m).1 (dg (emp b m).1 FB rfl)) (all_map λp m=>(fr p m).1) b m,.nil,rj⟩⟩
 have tl:=F.tl
 refine .GX ts.length (λ_ (s:(Nat->List Nat)×Option V×Option V×Option V×Option V×Option V×Option V×Option V×Option V×Option V×Option V)=>Li a.la g x2 s.2.1 s.2.2.1 s.2.2.2.1 s.2.2.2.2.1 s.2.2.2.2.2.1 s.2.2.2.2.2.2.1 s.2.2.2.2.2.2.2.1 s.2.2.2.2.2.2.2.2.1 s.2.2.2.2.2.2.2.2.2.1 s.2.2.2.2.2.2.2.2.2.2)
  (λn s H'=>C2 (yT H2 H' ts.length (xX.of fb ts d IA UA l).B s.1) (Kv G S (.of fb ts d IA UA l) s.1 n)) (λ_=>[],x3,none,none,none,none,none,none,none,none,none)
  ((JE.len (.attr (.var rfl) F.4 rfl rfl) (.list F.7 (by rw[ae];exact aj tl (by decide)))).to (by rw[ae];rfl)) (aj tl (by decide)) ⟨bg,λx h=>absurd h (bm _)⟩ (λn s H3 K hn h3 cg _=>?_) λs H3 h3=>?_
 ·have hx:=ao hn
  generalize ts[n]=pB at hx
  refine .J2 (x:=.int pB.1) (y:=.int pB.2) (.idx (.attr (.var rfl) (h3.1.1 _ _ F.18 F.4) rfl rfl) (.var rfl) (.nat (h3.1.1 _ _ F.15 F.7) (get_map hx))) ?_
  exact Bx (x2:=x2) F h3.1 hx λc2 H4 y3 y7 y8 y9 IG IH B8 b4 le Hg=>.nil (cg (c2,y3,some (.int n),some (.int pB.1),some (.int pB.2),y7,y8,y9,IG,IH,B8) rfl ⟨b4,λx hx' p' B' e' r mr=>
   (bj.1 hx').elim (λw=>(h3.2 x w p' B' e' r mr).le le) λw=>by
    have e:pB=(p',B'):=ax (hx.symm.trans (w▸e'))
    rw[e]at Hg;exact w.symm▸Hg r mr⟩)
 ·exact .nil (q' λj=>q l s.1 H2 H3 j F h3.1 h3.2 λb o nb hb=>h3.1.1 b o (nB hb λm=>nb (aL _ m)) (n1 hb λk=>nb (k▸aP ..)))
end
section
noncomputable def tT (ms:List Nat) (row:List Nat):Nat:=row.foldl (λm x=>m|||ms.getD x 0) 0
theorem By {ms row:List Nat}:∀m t,(row.foldl (λm x=>m|||ms.getD x 0) m).testBit t=true↔m.testBit t=true∨∃x∈row,(ms.getD x 0).testBit t=true:=by
 induction row with
 |nil=>exact λm t=>⟨.inl,λh=>h.elim id λh=>h.elim λx q=>absurd q.1 aQ⟩
 |cons a l ih=>exact λm t=>(ih _ t).trans (by rw[bW,fQ,or_assoc,An])
theorem Bz {ms row:List Nat} {t:Nat}:(tT ms row).testBit t=true↔∃x∈row,(ms.getD x 0).testBit t=true:=(By 0 t).trans ⟨λh=>h.elim (λh=>ff ((je t).symm.trans h)) id,.inr⟩
theorem ED {ms row:List Nat} (h:∀s∈ms,s<32):tT ms row<32:=by
 have:∀m,m<32->row.foldl (λm x=>m|||ms.getD x 0) m<32:=by
  induction row with
  |nil=>exact λm h=>h
  |cons a l ih=>exact λm z=>ih _ (dz (n:=5) z (jj h))
 exact this 0 (by decide)
noncomputable def jm (ms:List Nat) (c:Nat->List Nat) (l:List ((Nat×Nat)×Nat)):List ((Nat×Nat)×Nat):=l.map λp=>(p.1,tT ms (c p.2))
variable {H1:Hp} {R:Prop}
theorem BA {la LB FM n:Nat} {fs:List (Nat×V)} {l:List ((Nat×Nat)×Nat)} {c:Nat->List Nat} {ms:List Nat} (hl:H1[la]?=some (.inst 6 fs)) (g1:qN 59 fs=some (.ref LB)) (g2:qN 63 fs=some (.ref FM)) (gL:H1[LB]?=some (.bV (pd .ref l))) (gF:H1[FM]?=some (.list (vn ms)))
  (nd:(l.map (·.1)).Nodup) (ll:l.length≤2^23) (rows:∀p∈l,H1[p.2]?=some (.list (vn (c p.2)))∧Row n (c p.2)) (ml:ms.length=n) (nz:n≤2^23)
  (q:∀M H',JR 53 [.ref la] H1 (.ref M) H'->H1[M]?=none->Ext H1 H'->H'[M]?=some (.bV (pd vI (jm ms c l)))->R):R:=by
 refine c7 53 [.ref la] H1 rfl rfl (L:=[some (.ref la),none,none,none,none]) rfl λQ q'=>lQ λM H2 j fM gM eM=>.set j ?_
 have PZ:∀{b:Nat} {o:O},H1[b]?=some o->Nat.beq o.ctorIdx 2=false->(H2.set LB (.ft (pd .ref l)))[b]?=some o:=λk n=>eJ (eM _ _ k) (dg k gL n)
 have EC:(H2.set LB (.ft (pd .ref l)))[LB]?=some (.ft (pd .ref l)):=dh (eM _ _ gL)
 refine .GW (l:=l) (λp=>.tup (de [(p.1.1:Int),(p.1.2:Int)])) (λ_ (s:Option V×Option V×Option V)=>[some (.ref la),some (.ref M),s.1,s.2.1,s.2.2]) (λk s H'=>C2 (eE [M] (H2.set LB (.ft (pd .ref l))) H') (H'[M]?=some (.bV (pd vI (jm ms c (l.take k)))))) (none,none,none)
  (JI.to (.pF (.attr (.var rfl) (eM _ _ hl) rfl g1) (.bV (eM _ _ gL)) (by rw[ae,yU];exact aj ll (by decide))) bF) ⟨.r,eJ gM (e_ fM gL).symm⟩ (λh=>h.1 _ _ (yI fM gL) EC) (λk y s H3 K Lp h3 cg _=>?_) λs H3 h3=>?_
 ·have Ou:=rows _ (am Lp)
  have Lq:=h3.1 _ _ (yI fM Ou.1) (PZ Ou.1 rfl)
  have Oj:=h3.1 _ _ (yI fM hl) (PZ hl rfl)
  refine .set .lit (.jW (λ_ (s:Nat×Option V)=>[some (.ref la),some (.ref M),some (.tup (de [(y.1.1:Int),(y.1.2:Int)])),some (.int s.1),s.2]) (λi s H'=>C2 (H'=H3) (s.1=((c y.2).take i).foldl (λm x=>m|||ms.getD x 0) 0)) (0,s.2.2)
   (.pF (.idx (.attr (.var rfl) Oj rfl g1) (.var rfl) (.dict ((dY.ft (k:=[(y.1.1:Int),(y.1.2:Int)]) (h3.1 _ _ (yI fM gL) EC)).to (vX (k:=y.1) nd (am Lp))))) (.list Lq) (by rw[aX];exact aj Ou.2.len (aj nz (by decide)))) ⟨rfl,rfl⟩ (λh=>h.1▸Lq) (λi x s H4 K hy h4 cg _=>?_) λs H4 h4=>?_)
  ·have e:=h4.1
   exact .set (.bin (.var rfl) (.idx (.attr (.var rfl) (e▸Oj) rfl g2) (.var rfl) (.nat (e▸h3.1 _ _ (yI fM gF) (PZ gF rfl)) (cN (getD_at (d:=0) (ml.symm▸Ou.2.2 x (am hy)))))) (.bor _ _ _)) (.nil (cg (_,some (.int x)) rfl ⟨e,(congrArg (· |||_) h4.2).trans (iG (λm x=>m|||ms.getD x 0) 0 hy).symm⟩))
  ·have IO:=h4.1▸h3.2
   have nk:y.1∉(jm ms c (l.take k)).map (·.1):=by
    rw[jm,bF,show((λx:(Nat×Nat)×Nat=>x.1)∘λp:(Nat×Nat)×Nat=>(p.1,tT ms (c p.2)))=(·.1) from rfl,iu]
    exact gK nd (get_map Lp)
   refine .bq (.var rfl) (.var rfl) (.var rfl) (.bV (k:=[(y.1.1:Int),(y.1.2:Int)]) IO ?_) (.nil (cg (_,_,_) rfl ⟨h4.1▸h3.1.set (ak.2 rfl),(dh IO).trans (congrArg (λd=>some (O.bV d)) ?_)⟩))
   ·rw[yU,jm,ae];exact aA (bJ _ _) (aA ll (by decide))
   ·have e:s.1=tT ms (c y.2):=h4.2.trans (by rw[aR];rfl)
    rw[e,aW,Lp]
    exact(EB (f:=vI) (k:=y.1) nk (tT ms (c y.2))).trans (by rw[jm,jm,ay];rfl)
 ·have IO:=h3.2
  rw[aR]at IO
  refine .ret (.var rfl) (q' λj=>q M _ j fM (λb o hb=>?_) (eJ IO (e_ fM gL).symm))
  by_cases w:b=LB
  ·rw[w]at hb ⊢;exact(dh (h3.1 _ _ (yI fM gL) EC)).trans (gL.symm.trans hb)
  ·exact eJ (h3.1 _ _ (yI fM hb) (eJ (eM _ _ hb) w)) w
end
section
namespace Dg
noncomputable def Sb (a b:Nat):Prop:=∀t,a.testBit t=true->b.testBit t=true
theorem Sb.r {a:Nat}:Sb a a:=λ_ h=>h
theorem Sb.trans {a b c:Nat} (h:Sb a b) (k:Sb b c):Sb a c:=λt w=>k t (h t w)
theorem Sb.l {a b:Nat}:Sb a (a|||b):=λt h=>by rw[bW,h];rfl
theorem Sb.rr {a b:Nat}:Sb b (a|||b):=λt h=>by rw[bW,h,fG]
noncomputable def upd (f:Nat->Nat) (x v:Nat):Nat->Nat:=λz=>if z=x then v else f z
theorem tU {f x v}:upd f x v x=v:=if_pos rfl
theorem rP {f x v z} (h:z≠x):upd f x v z=f z:=if_neg h
theorem om {α:Type} {c:Prop} [Decidable c] (P:α->Prop) {a b:α} (h1:c->P a) (h2:¬c->P b):P (if c then a else b):=by
 by_cases z:c
 ·rw[if_pos z];exact h1 z
 ·rw[if_neg z];exact h2 z
theorem rQ (P:Nat->Prop) {f:Nat->Nat} {x v z:Nat} (h1:z=x->P v) (h2:z≠x->P (f z)):P (upd f x v z):=om P h1 h2
theorem Sb.eq {a b:Nat} (e:a=b):Sb a b:=e▸Sb.r
variable(rel:Nat->List Nat) (n:Nat) (m0:Nat->Nat)
noncomputable def FC (h:Nat->Nat) (x i:Nat) (Q:Nat->Prop):Prop:=∃w,(rel x)[i]?=some w∧h w≠0∧Q w
inductive Ed (r h:Nat->Nat) (P:List Nat) (x i b z y:Nat):Prop
 |mk (v:h y≠0) (d:h y=n+1->Sb (r y) (r z)) (p:∀k,P[k]?=some y->k+1<b∧(h x≤k+1∨FC rel h x i λw=>h w≤k+1))
inductive Np (r h:Nat->Nat) (P:List Nat) (x h0 i b:Nat):Prop
 |mk (lt:h0+1<b) (at_:P[h0]?=some x) (il:i≤(rel x).length) (sub:∀k z,h0<k->k+1<b->P[k]?=some z->∀t,(r z).testBit t=true->(r x).testBit t=true∨FC rel h x i λw=>(r w).testBit t=true) (fin:∀k z,h0<k->k+1<b->P[k]?=some z->∀y∈rel z,Ed rel n r h P x i b z y) (own:∀j y,j<i->(rel x)[j]?=some y->Ed rel n r h P x i b x y)
noncomputable def Frs (r h:Nat->Nat) (P:List Nat) (b:Nat) (l:List (Nat×Nat×Nat)):Prop:=
 l.rec (motive:=λ_=>Nat->Prop) (λb=>b=1) (λp fr s b=>C3 (Np rel n r h P p.1 p.2.1 p.2.2 b) (s (p.2.1+1)) (∀f0 rest,fr=f0::rest->(rel f0.1)[f0.2.2]?=some p.1)) b
inductive Gl (r h:Nat->Nat) (P:List Nat):Prop
 |mk (m:∀z<n,Sb (m0 z) (r z)) (lt:∀z<n,r z<32) (nd:P.Nodup) (pl:∀z∈P,z<n) (on:∀k z,P[k]?=some z->1≤h z∧h z≤k+1) (off:∀z,z∉P->h z=0∨h z=n+1) (dn:∀z<n,h z=n+1->∀y∈rel z,h y=n+1∧Sb (r y) (r z))
variable {rel n m0} {r h:Nat->Nat} {P:List Nat} {x h0 i b y:Nat} {fr:List (Nat×Nat×Nat)}
theorem FC.imp {h':Nat->Nat} {Q Q':Nat->Prop} (p:FC rel h x i Q) (f:∀w,h w≠0->h' w≠0) (k:∀w,h w≠0->Q w->Q' w):FC rel h' x i Q':=p.elim λw q=>⟨w,q.1,f w q.2.1,k w q.2.1 q.2.2⟩
theorem FC.at {Q:Nat->Prop} (p:FC rel h x i Q) (e:(rel x)[i]?=some y):Q y:=p.elim λw q=>ax (q.1.symm.trans e)▸q.2.2
theorem Gl.len (g:Gl rel n m0 r h P):P.length≤n:=
 aj (br g.3 (l₂:=List.range n) λz m=>bp.2 (g.4 z m)) (aF aT)
theorem Gl.le (g:Gl rel n m0 r h P) {k z:Nat} (e:P[k]?=some z):h z≤n:=aj (g.5 k z e).2 (aj (ah.1 e).1 g.len)
theorem Gl.inj (g:Gl rel n m0 r h P) {k j z:Nat} (e:P[k]?=some z) (e2:P[j]?=some z):k=j:=(cM (ah.1 e).1 g.3).1 (e.trans e2.symm)
theorem Gl.ne (g:Gl rel n m0 r h P) {k z:Nat} (e:P[k]?=some z):h z≠0:=di (g.5 k z e).1
theorem Gl.de (g:Gl rel n m0 r h P) {z:Nat} (v:h z≠0):h z=n+1∨∃k:Nat,P[k]?=some z:=by
 by_cases m:z∈P
 ·exact .inr (aO m)
 ·exact .inl ((g.6 z m).resolve_left v)
inductive P0 (n:Nat) (r h r' h':Nat->Nat) (x:Nat):Prop
 |mk (er:∀z,z≠x->r' z=r z) (sb:∀z,Sb (r z) (r' z)) (le:∀z,h' z≤h z) (nz:∀z,h z≠0->h' z≠0) (dn:∀z,h' z=n+1->C2 (h z=n+1) (z≠x))
theorem Ed.up {r' h':Nat->Nat} {x0 i0 b z y:Nat} (U:P0 n r h r' h' x) (e:Ed rel n r h P x0 i0 b z y):Ed rel n r' h' P x0 i0 b z y:=
 ⟨U.4 _ e.1,λv=>(Sb.eq (U.1 _ (U.5 _ v).2)).trans ((e.2 (U.5 _ v).1).trans (U.2 _)),λk hk=>⟨(e.3 k hk).1,(e.3 k hk).2.imp (aj (U.3 _)) λq=>q.imp U.4 λw _=>aj (U.3 w)⟩⟩
theorem Frs.mono {r' h':Nat->Nat} (g:Gl rel n m0 r h P) (ex:P[h0]?=some x) (U:P0 n r h r' h' x) {c:Nat} (s:Frs rel n r h P c fr) (hc:c≤h0+1):Frs rel n r' h' P c fr:=by
 induction fr generalizing c with
 |nil=>exact s
 |cons p fr ih=>
  have f:=s.1
  exact⟨⟨f.1,f.2,f.3,λk z k1 k2 k3 t ht=>(f.4 k z k1 k2 k3 t (Sb.eq (U.1 z λe=>cr (fH (aw k2 hc)) (g.inj k3 (e▸ex))) t ht)).imp (U.2 _ t) λq=>q.imp U.4 λw _=>U.2 w t,
   λk z k1 k2 k3 y m=>(f.5 k z k1 k2 k3 y m).up U,λj y a b=>(f.6 j y a b).up U⟩,ih s.2 (aj (aK f.1) hc),s.3⟩
theorem mnl (a b:Nat):C3 ((if a<b then a else b)≤b) ((if a<b then a else b)≤a) (a≠0->b≠0->(if a<b then a else b)≠0):=by
 by_cases c:a<b
 ·rw[if_pos c];exact⟨aK c,aC _,λh _=>h⟩
 ·rw[if_neg c];exact⟨aC _,bE.1 c,λ_ h=>h⟩
theorem BB (g:Gl rel n m0 r h P) (s:Frs rel n r h P (P.length+1) ((x,h0,i)::fr)) (e:(rel x)[i]?=some y) (yn:y<n) (v:h y≠0):
  C2 (Gl rel n m0 (upd r x (r x|||r y)) (upd h x (if h y<h x then h y else h x)) P) (Frs rel n (upd r x (r x|||r y)) (upd h x (if h y<h x then h y else h x)) P (P.length+1) ((x,h0,i+1)::fr)):=by
 have f:=s.1
 have N9:=g.le f.2
 have V:=mnl (h y) (h x)
 generalize (if h y<h x then h y else h x)=v' at V ⊢
 have U:P0 n r h (upd r x (r x|||r y)) (upd h x v') x:=⟨λz k=>rP k,λz=>rQ (Sb (r z)) (λe=>e▸Sb.l) λ_=>Sb.r,λz=>rQ (· ≤h z) (λe=>e▸V.1) λ_=>aC _,
  λz w=>rQ (· ≠0) (λ_=>V.3 v (g.ne f.2)) λ_=>w,λz=>rQ (λu=>u=n+1->C2 (h z=n+1) (z≠x)) (λ_ w=>absurd (w▸V.1:n+1≤h x) (iK.2 (dc N9))) λk w=>⟨w,k⟩⟩
 have yx:Sb (r y) (upd r x (r x|||r y) x):=Sb.rr.trans (Sb.eq tU.symm)
 have le:∀{k:Nat},v'≤k+1->upd h x v' x≤k+1:=λa=>aj (aF tU) a
 have ed:∀{z y':Nat},Ed rel n r h P x i (P.length+1) z y'->Ed rel n (upd r x (r x|||r y)) (upd h x v') P x (i+1) (P.length+1) z y':=λq=>
  ⟨U.4 _ q.1,λw=>(Sb.eq (U.1 _ (U.5 _ w).2)).trans ((q.2 (U.5 _ w).1).trans (U.2 _)),λk hk=>⟨(q.3 k hk).1,.inl (le ((q.3 k hk).2.elim (aj V.1) λp=>aj V.2 (p.at e)))⟩⟩
 refine⟨⟨λz zn=>(g.1 z zn).trans (U.2 z),λz zn=>rQ (· <32) (λ_=>dz (n:=5) (g.2 x (g.4 x (am f.2))) (g.2 y yn)) λ_=>g.2 z zn,g.3,g.4,
  λk z hk=>⟨dH (U.4 z (g.ne hk)),aj (U.3 z) (g.5 k z hk).2⟩,λz hz=>have e:upd h x v' z=h z:=rP λc=>hz (c▸am f.2);(g.6 z hz).imp e.trans e.trans,λz zn w y' m=>?_⟩,
  ⟨f.1,f.2,(ah.1 e).1,λk z k1 k2 k3 t ht=>.inl ((f.4 k z k1 k2 k3 t (Sb.eq (U.1 z λc=>di k1 (g.inj k3 (c▸f.2))) t ht)).elim (U.2 x t) λp=>yx t (p.at e)),λk z k1 k2 k3 y' m=>ed (f.5 k z k1 k2 k3 y' m),λj y' hj ej=>?_⟩,
  Frs.mono g f.2 U s.2 (aC _),s.3⟩
 ·have a:=g.7 z zn (U.5 z w).1 y' m
  have e:y'≠x:=λk=>Nat.not_succ_le_self n (aj (aF (a.1.symm.trans (congrArg h k))) N9)
  exact⟨(rP e).trans a.1,(Sb.eq (rP e)).trans (a.2.trans (U.2 z))⟩
 ·refine(bj.1 hj).elim (λc=>ed (f.6 j y' c ej)) λc=>?_
  rw[ax ((c▸ej:(rel x)[i]?=some y').symm.trans e)]
  exact⟨U.4 _ v,λw=>(Sb.eq (U.1 _ (U.5 _ w).2)).trans yx,λk hk=>⟨dR (ah.1 hk).1,.inl (le (aj V.2 (g.5 k _ hk).2))⟩⟩
end Dg
end
section
namespace Dg
variable {rel:Nat->List Nat} {n:Nat} {m0 r h:Nat->Nat} {P:List Nat} {x h0 i b y:Nat} {fr:List (Nat×Nat×Nat)}
theorem yW {α} {P:List α} {y z:α} {k:Nat} (e:(P++[y])[k]?=some z):P[k]?=some z∨(k=P.length∧z=y):=by
 rcases ba k P.length with c|c
 ·rw[aG c]at e;exact .inl e
 ·have l:=(ah.1 e).1
  rw[aq]at l
  rw[aY c]at e
  exact .inr ⟨bP (bB l) c,ak.1 (am e)⟩
theorem tW {f:Nat->Nat} {x v z:Nat} (h:f z≠0) (k:v≠0):upd f x v z≠0:=rQ (· ≠0) (λ_=>k) λ_=>h
theorem xz {f:Nat->Nat} {x v z:Nat} (e:f x=0) (h:f z≠0):upd f x v z=f z:=rP λk=>h (k▸e)
theorem Ed.push (v:h y=0) {x0 i0 b z y':Nat} (JX:h x0≠0) (q:Ed rel n r h P x0 i0 b z y'):Ed rel n r (upd h y (P.length+1)) (P++[y]) x0 i0 b z y':=
 ⟨tW q.1 (cK _),λw=>q.2 ((xz v q.1).symm.trans w),λk hk=>(yW hk).elim (λc=>⟨(q.3 k c).1,(q.3 k c).2.imp (aj (aF (xz v JX))) λw=>w.imp (λw a=>tW a (cK _)) λw a=>aj (aF (xz v a))⟩)
  λc=>absurd (congrArg h c.2|>.trans v) q.1⟩
theorem Frs.push (g:Gl rel n m0 r h P) (v:h y=0) {c:Nat} (s:Frs rel n r h P c fr) (hc:c≤P.length+1):Frs rel n r (upd h y (P.length+1)) (P++[y]) c fr:=by
 induction fr generalizing c with
 |nil=>exact s
 |cons p fr ih=>
  have f:=s.1
  have JX:=g.ne f.2
  have old:∀{k z:Nat},k+1<c->(P++[y])[k]?=some z->P[k]?=some z:=λa e=>(yW e).resolve_right λw=>cr (fH (aw a hc)) w.1
  exact⟨⟨f.1,(aG (ah.1 f.2).1).trans f.2,f.3,λk z k1 k2 k3 t ht=>(f.4 k z k1 k2 (old k2 k3) t ht).imp id λq=>q.imp (λw a=>tW a (cK _)) λ_ _ q=>q,
   λk z k1 k2 k3 y' m=>(f.5 k z k1 k2 (old k2 k3) y' m).push v JX,λj y' a b=>(f.6 j y' a b).push v JX⟩,ih s.2 (aj (aK f.1) hc),s.3⟩
theorem uX (g:Gl rel n m0 r h P) (s:Frs rel n r h P (P.length+1) fr) (l:∀f0 rest,fr=f0::rest->(rel f0.1)[f0.2.2]?=some y) (yn:y<n) (v:h y=0):
  C2 (Gl rel n m0 r (upd h y (P.length+1)) (P++[y])) (Frs rel n r (upd h y (P.length+1)) (P++[y]) ((P++[y]).length+1) ((y,P.length,0)::fr)):=by
 have ln:(P++[y]).length=P.length+1:=aq
 have nd:(P++[y]).Nodup:=iA g.3 λm=>(aO m).elim λk e=>g.ne e v
 have pl:∀z∈P++[y],z<n:=λz m=>(aD.1 m).elim (g.4 z) λm=>ak.1 m▸yn
 have pn:P.length+1≤n:=ln▸aj (br nd (l₂:=List.range n) λz m=>bp.2 (pl z m)) (aF aT)
 have ab:∀{k:Nat} {R:Prop},P.length<k->k+1<(P++[y]).length+1->R:=λa b=>absurd (bB (aw (fH b) (aF ln))) (iK.2 a)
 refine⟨⟨g.1,g.2,nd,pl,λk z hk=>(yW hk).elim (λc=>(xz v (g.ne c)).symm▸g.5 k z c) λc=>?_,λz hz=>?_,λz zn w y' m=>?_⟩,
  ⟨ln.symm▸bT _,bt,bw _,λk z k1 k2=>ab k1 k2,λk z k1 k2=>ab k1 k2,λj _ w=>absurd w (bm j)⟩,Frs.push g v s (aC _),l⟩
 ·have e:upd h y (P.length+1) z=k+1:=c.2▸c.1▸tU
  exact⟨aj (gV k) (aF e.symm),aF e⟩
 ·have e:upd h y (P.length+1) z=h z:=rP λe=>hz (e▸aB _ (.head _))
  exact(g.6 z λm=>hz (aV _ m)).imp e.trans e.trans
 ·have a:=g.7 z zn (rQ (λu=>u=n+1->h z=n+1) (λ_ w=>absurd pn (iK.2 (dc (aF (gQ w).symm)))) (λ_ w=>w) w) y' m
  exact⟨(xz v (a.1▸cK n)).trans a.1,a.2⟩
theorem yX {x0 g0 i0:Nat} (s:Frs rel n r h P b ((x,h0,i)::(x0,g0,i0)::fr)) (hi:i=(rel x).length) (g:Gl rel n m0 r h P):Frs rel n r h P b ((x0,g0,i0)::fr):=by
 have f:=s.1
 have f0:=s.2.1
 have P1:∀{Q:Nat->Prop},Q x->FC rel h x0 i0 Q:=λq=>⟨x,s.3 _ _ rfl,g.ne f.2,q⟩
 have Nq:∀{Q:Nat->Prop},¬FC rel h x i Q:=λp=>p.elim λw q=>cW (bR (aF hi.symm)) q.1
 have up:∀{z y:Nat},Ed rel n r h P x i b z y->Ed rel n r h P x0 i0 b z y:=λq=>⟨q.1,q.2,λk hk=>⟨(q.3 k hk).1,.inr (P1 ((q.3 k hk).2.resolve_right Nq))⟩⟩
 have wd:∀{z y:Nat},Ed rel n r h P x0 i0 (h0+1) z y->Ed rel n r h P x0 i0 b z y:=λq=>⟨q.1,q.2,λk hk=>⟨bK (q.3 k hk).1 f.1,(q.3 k hk).2⟩⟩
 have tri:∀{k z:Nat} {R:Prop},P[k]?=some z->(k<h0->R)->(z=x->R)->(h0<k->R)->R:=λ{k z R} e a b c=>(Nat.lt_trichotomy k h0).elim a λw=>w.elim (λw=>b (ax (e.symm.trans (w▸f.2)))) c
 exact⟨⟨bK f0.1 f.1,f0.2,f0.3,λk z k1 k2 k3 t ht=>tri k3 (λc=>f0.4 k z k1 (dR c) k3 t ht) (λe=>.inr (P1 (e▸ht))) λc=>.inr (P1 ((f.4 k z c k2 k3 t ht).resolve_right Nq)),
  λk z k1 k2 k3 y m=>tri k3 (λc=>wd (f0.5 k z k1 (dR c) k3 y m)) (λe=>(aO m).elim λj hj=>e▸up (f.6 j y (hi▸(ah.1 (e▸hj)).1) (e▸hj))) λc=>up (f.5 k z c k2 k3 y m),
  λj y a c=>wd (f0.6 j y a c)⟩,s.2.2,s.2.3⟩
theorem BC (g:Gl rel n m0 r h P) (s:Frs rel n r h P b [(x,h0,i)]):h x=h0+1:=bP (g.5 _ _ s.1.2).2 (aj (aF s.2) (g.5 _ _ s.1.2).1)
noncomputable def o6 (P:List Nat) (h0 x:Nat) (r:Nat->Nat):Nat->Nat:=λz=>if z∈P.drop h0 then r x else r z
noncomputable def rA (P:List Nat) (h0 n:Nat) (h:Nat->Nat):Nat->Nat:=λz=>if z∈P.drop h0 then n+1 else h z
theorem sw {z k:Nat} (e:P[k]?=some z) (c:h0≤k):z∈P.drop h0:=am (i:=k-h0) (by rw[dF,cU c];exact e)
theorem qB {z:Nat} {R:Prop} (m:z∈P.drop h0) (q:∀k,h0≤k->P[k]?=some z->R):R:=(aO m).elim λk e=>q (h0+k) (bu _ _) (dF.symm.trans e)
theorem iB {α:Type} {P:List α} {z:α} {k h0:Nat} (e:(P.take h0)[k]?=some z):k<h0∧P[k]?=some z:=by
 rw[p8]at e
 by_cases c:k<h0
 ·rw[if_pos c]at e;exact⟨c,e⟩
 ·rw[if_neg c]at e;exact cW rfl e
section
variable {z:Nat}
theorem pT (m:z∉P.drop h0):o6 P h0 x r z=r z:=if_neg m
theorem pU (m:z∉P.drop h0):rA P h0 n h z=h z:=if_neg m
theorem vZ (v:h z≠0):rA P h0 n h z≠0:=om (· ≠0) (λ_=>cK n) λ_=>v
theorem Gl.low (g:Gl rel n m0 r h P) {k:Nat} (c:k<h0) (e:P[k]?=some z):z∉P.drop h0:=λm=>qB m λ_ a b=>iK.2 c (g.inj e b▸a)
end
theorem Frs.cut (g:Gl rel n m0 r h P) (ex:P[h0]?=some x) (hr:h x=h0+1) {c:Nat} (s:Frs rel n r h P c fr) (hc:c≤h0+1)
  (lk:∀f0 rest,fr=f0::rest->∃w,(rel f0.1)[f0.2.2]?=some w∧P[c-1]?=some w):Frs rel n (o6 P h0 x r) (rA P h0 n h) (P.take h0) c fr:=by
 induction fr generalizing c with
 |nil=>exact s
 |cons p fr ih=>
  have f:=s.1
  refine(lk _ _ rfl).elim λw L=>?_
  have g1:p.2.1+1≤h0:=bB (aw f.1 hc)
  have xl:=g.low g1 f.2
  have wd:w∈P.drop h0->w=x:=λm=>qB m λj a b=>ax (L.2.symm.trans (show P[c-1]?=some x from(bP (dJ hc) (g.inj b L.2▸a):c-1=h0)▸ex))
  have wl:∀{k:Nat},k+1<c->h w≤k+1->w∉P.drop h0:=λb a m=>bE.2 (aj (aF ((congrArg h (wd m)).trans hr).symm) a) (aw b hc)
  have ed:∀{z y:Nat},z∉P.drop h0->Ed rel n r h P p.1 p.2.2 c z y->Ed rel n (o6 P h0 x r) (rA P h0 n h) (P.take h0) p.1 p.2.2 c z y:=λ{z y} zl q=>by
   refine⟨vZ q.1,λd=>?_,λk hk=>⟨(q.3 k (iB hk).2).1,(q.3 k (iB hk).2).2.imp (aj (aF (pU xl))) λp=>?_⟩⟩
   ·have m:y∉P.drop h0:=λm=>qB m λj a b=>absurd (aw (q.3 j b).1 hc) (bE.2 (aM a))
    exact(Sb.eq (pT m)).trans ((q.2 ((pU m).symm.trans d)).trans (Sb.eq (pT zl).symm))
   ·have a:=p.at L.1
    exact⟨w,L.1,p.elim λw' v=>vZ (ax (v.1.symm.trans L.1)▸v.2.1),aj (aF (pU (wl (q.3 k (iB hk).2).1 a))) a⟩
  refine⟨⟨f.1,p8.trans ((if_pos g1).trans f.2),f.3,λk z k1 k2 k3 t ht=>?_,λk z k1 k2 k3 y m=>ed (g.low (iB k3).1 (iB k3).2) (f.5 k z k1 k2 (iB k3).2 y m),λj y a b=>ed xl (f.6 j y a b)⟩,
   ih s.2 (cu g1) λf0 rest e=>⟨p.1,s.3 f0 rest e,f.2⟩,s.3⟩
  refine(f.4 k z k1 k2 (iB k3).2 t (Sb.eq (pT (g.low (iB k3).1 (iB k3).2)) t ht)).imp (Sb.eq (pT xl).symm t) λq=>have q3:=q.at L.1;⟨w,L.1,q.elim λw' v=>vZ (ax (v.1.symm.trans L.1)▸v.2.1),?_⟩
  exact om (λu:Nat=>u.testBit t=true) (λm=>(congrArg r (wd m):r w=r x)▸q3) λ_=>q3
theorem BD (rl:∀z<n,∀y∈rel z,y<n) (g:Gl rel n m0 r h P) (s:Frs rel n r h P (P.length+1) ((x,h0,i)::fr)) (hi:i=(rel x).length) (hr:h x=h0+1):
  C2 (Gl rel n m0 (o6 P h0 x r) (rA P h0 n h) (P.take h0)) (Frs rel n (o6 P h0 x r) (rA P h0 n h) (P.take h0) ((P.take h0).length+1) fr):=by
 have f:=s.1
 have ex:P[h0]?=some x:=f.2
 have Nq:∀{Q:Nat->Prop},¬FC rel h x i Q:=λp=>p.elim λw q=>cW (bR (aF hi.symm)) q.1
 have at_:∀{z:Nat} {R:Prop},z∈P.drop h0->(z=x->R)->(∀k,h0<k->k+1<P.length+1->P[k]?=some z->R)->R:=λm a b=>qB m λk c e=>
  (iJ c).elim (λw=>a (ax (e.symm.trans (w▸ex)))) λw=>b k w (dR (ah.1 e).1) e
 have sub:∀z∈P.drop h0,Sb (r z) (r x):=λz m=>at_ m (λe=>Sb.eq (congrArg r e)) λk c l e t ht=>(f.4 k z c l e t ht).resolve_right Nq
 have edg:∀z∈P.drop h0,∀y∈rel z,Ed rel n r h P x i (P.length+1) z y:=λz m y my=>at_ m (λe=>(aO my).elim λj hj=>e▸f.6 j y (hi▸(ah.1 (e▸hj)).1) (e▸hj)) λk c l e=>f.5 k z c l e y my
 have lt:(P.take h0).length=h0:=mQ (aK (ah.1 ex).1)
 refine⟨⟨λz zn=>om (Sb (m0 z)) (λm=>(g.1 z zn).trans (sub z m)) λ_=>g.1 z zn,λz zn=>om (· <32) (λ_=>g.2 x (g.4 x (am ex))) λ_=>g.2 z zn,g.3.sublist (List.take_sublist _ _),λz m=>g.4 z (oF m),
  λk z e=>(pU (g.low (iB e).1 (iB e).2)).symm▸g.5 k z (iB e).2,λz m=>om (λu=>u=0∨u=n+1) (λ_=>.inr rfl) λc=>g.6 z λk=>(aD.1 (show z∈P.take h0++P.drop h0 from(fV h0 P).symm▸k)).elim m c,λz zn w y my=>?_⟩,?_⟩
 ·by_cases m:z∈P.drop h0
  ·have q:=edg z m y my
   have rz:o6 P h0 x r z=r x:=if_pos m
   by_cases c:y∈P.drop h0
   ·exact⟨if_pos c,Sb.eq ((if_pos c).trans rz.symm)⟩
   ·have e:h y=n+1:=(g.de q.1).resolve_right λk=>k.elim λk e=>(q.3 k e).2.elim (λw=>c (sw e (mR (aj (aF hr.symm) w)))) Nq
    exact⟨(pU c).trans e,(Sb.eq (pT c)).trans (((q.2 e).trans (sub z m)).trans (Sb.eq rz.symm))⟩
  ·have a:=g.7 z zn ((pU m).symm.trans w) y my
   have c:y∉P.drop h0:=λk=>qB k λj _ e=>absurd (g.le e) (iK.2 (Nat.lt_of_succ_le (aF a.1.symm)))
   exact⟨(pU c).trans a.1,(Sb.eq (pT c)).trans (a.2.trans (Sb.eq (pT m).symm))⟩
 ·rw[lt]
  exact Frs.cut g ex hr s.2 (aC _) λf0 rest e=>⟨x,s.3 f0 rest e,ex⟩
theorem EE (s:Frs rel n r h P (P.length+1) []):P=[]:=lX.1 (gQ s)
end Dg
end
section
inductive Ow (H1 H:Hp) (l:List (Nat×O)):Prop
 |mk (e:Ext H1 H) (g:∀p∈l,H1[p.1]?=none∧H[p.1]?=some p.2) (nd:(l.map (·.1)).Nodup)
section
variable {H1 H H2:Hp} {l:List (Nat×O)} {a:Nat} {o p:O}
theorem Ow.new (h:Ow H1 H l) (f:H[a]?=none) (k:H2[a]?=some o) (e:Ext H H2):Ow H1 H2 ((a,o)::l):=
 ⟨h.1.trans e,λq m=>(aI.1 m).elim (λm=>m▸⟨h.1.none f,k⟩) λm=>⟨(h.2 q m).1,e _ _ (h.2 q m).2⟩,c_.2 ⟨λm=>(az.1 m).elim λq w=>cW f (w.2▸(h.2 q w.1).2),h.3⟩⟩
theorem Ow.at_ (h:Ow H1 H l) (k:Nat) (e:l[k]?=some (a,o)):H[a]?=some o:=(h.2 _ (am e)).2
theorem Ow.fr (h:Ow H1 H l) (k:Nat) (e:l[k]?=some (a,o)):H1[a]?=none:=(h.2 _ (am e)).1
theorem Ow.ext (h:Ow H1 H l) (e:Ext H H2):Ow H1 H2 l:=⟨h.1.trans e,λq m=>⟨(h.2 q m).1,e _ _ (h.2 q m).2⟩,h.3⟩
theorem Ow.perm {l':List (Nat×O)} (h:Ow H1 H l) (p:l'.Perm l):Ow H1 H l':=⟨h.1,λq m=>h.2 q (p.mem_iff.1 m),(p.map _).nodup_iff.2 h.3⟩
theorem Ow.sub {l':List (Nat×O)} (h:Ow H1 H l) (p:l'.Sublist l):Ow H1 H l':=⟨h.1,λq m=>h.2 q (p.subset m),h.3.sublist (p.map _)⟩
theorem EF {α:Type} {l:List α} (k:Nat) {x:α}:(l.take k++x::l.drop k).Perm (x::l):=jh.trans (by rw[fV])
theorem xA {α:Type} {l:List α} {k:Nat} {x:α} (e:l[k]?=some x):l.take k++x::l.drop (k+1)=l:=by
 rw[←(ah.1 e).2,←d4,fV]
theorem Ow.ins (A:List (Nat×O)) {B:List (Nat×O)} (h:Ow H1 H (A++B)) (f:H[a]?=none) (g:H2[a]?=some o) (e:Ext H H2):Ow H1 H2 (A++(a,o)::B):=(h.new f g e).perm jh
theorem Ow.nw (k:Nat) (h:Ow H1 H l) (f:H[a]?=none) (g:H2[a]?=some o) (e:Ext H H2):Ow H1 H2 (l.take k++(a,o)::l.drop k):=(h.new f g e).perm (EF k)
theorem Ow.drop (A:List (Nat×O)) {B:List (Nat×O)} (h:Ow H1 H (A++(a,o)::B)):Ow H1 H (A++B):=h.sub ((List.sublist_cons_self ..).append_left A)
theorem Ow.rm (k:Nat) (h:Ow H1 H l) (e:l[k]?=some (a,o)):Ow H1 H (l.take k++l.drop (k+1)):=.drop (a:=a) (o:=o) _ (by rw[xA e];exact h)
theorem Ow.set (A:List (Nat×O)) {B:List (Nat×O)} (h:Ow H1 H (A++(a,o)::B)) (p:O):Ow H1 (H.set a p) (A++(a,p)::B):=by
 have w:Ow H1 H ((a,o)::(A++B)):=h.perm jh.symm
 refine Ow.perm (l:=(a,p)::(A++B)) ⟨w.1.set (w.2 _ (.head _)).1,λq m=>(aI.1 m).elim (λm=>m▸⟨(w.2 _ (.head _)).1,dh (w.2 _ (.head _)).2⟩) λm=>?_,w.3⟩ jh
 exact⟨(w.2 q (.tail _ m)).1,eJ (w.2 q (.tail _ m)).2 λe=>(c_.1 w.3).1 (az.2 ⟨q,m,e⟩)⟩
theorem Ow.up (k:Nat) (h:Ow H1 H l) (e:l[k]?=some (a,o)) (p:O):Ow H1 (H.set a p) (l.take k++(a,p)::l.drop (k+1)):=.set (o:=o) _ (by rw[xA e];exact h) p
end
namespace Dg
noncomputable def tab (n:Nat) (f:Nat->Nat):List Nat:=(List.range n).map f
theorem ja {n f i} (h:i<n):(tab n f)[i]?=some (f i):=get_map (dB h)
theorem oR {n f}:(tab n f).length=n:=by rw[tab,ae,aT]
theorem yY {n f} {l:List Nat} (h:l.length=n) (k:∀i<n,l[i]?=some (f i)):l=tab n f:=lg λi=>by
 rcases ba i n with c|c
 ·rw[ja c,k i c]
 ·rw[bR (aj (aF h) c),bR (aj (aF oR) c)]
theorem Hh {n f i v}:(tab n f).set i v=tab n (upd f i v):=yY (aU.trans oR) λk c=>by
 by_cases e:i=k
 ·rw[e,a8 (aw c (aF oR.symm)),tU]
 ·rw[a9 e,rP (dU e),ja c]
noncomputable def lO (l:List Nat):O:=.list (vn l)
theorem oS {H:Hp} {a i n v:Nat} {f:Nat->Nat} (g:H[a]?=some (lO (tab n f))) (z:i<n):qW (.ref a) (.int i) (.int (v:Nat)) H (H.set a (lO (tab n (upd f i v)))):=by
 have:=qW.list (x:=.int (v:Nat)) g (dP (by rw[aX,oR];exact z))
 rw[tA,Hh]at this;exact this
variable {rel:Nat->List Nat} {n:Nat} {m0 r h:Nat->Nat} {P:List Nat} {x h0 i:Nat} {fr:List (Nat×Nat×Nat)} {H1 H:Hp} {RS HS PL:Nat} {B:List (Nat×O)} {Q:Fl->Lc->Hp->Prop} {rest:i6}
noncomputable def wB:i6:=(((bo 11).at 4).in.at 4).in
noncomputable def Ld (c1 c2:Nat) (n RS HS PL FL:Nat) (x7 x9 gJ fK fX:Option V):Lc:=[some (.int n),some (.ref c1),some (.ref c2),some (.ref RS),some (.ref HS),some (.int (n+1:Nat)),some (.ref PL),x7,some (.ref FL),x9,gJ,fK,fX]
theorem Au {D D':List Nat} {a v:Nat} {f:Nat->Nat} (mem:∀z,z∈D'↔z=v∨z∈D):upd (λz=>if z∈D then a else f z) v a=λz=>if z∈D' then a else f z:=funext λz=>by
 by_cases c:z=v
 ·rw[c,tU,if_pos ((mem v).2 (.inl rfl))]
 ·rw[rP c];by_cases d:z∈D
  ·rw[if_pos d,if_pos ((mem z).2 (.inr d))]
  ·rw[if_neg d,if_neg λk=>d (((mem z).1 k).resolve_left c)]
theorem Av {a:Nat} {f:Nat->Nat}:(λz=>if z∈P.drop P.length then a else f z)=f:=funext λz=>if_neg (by rw[hE];exact aQ)
noncomputable def FD (P:List Nat) (m:Nat):Int:=(P[m]?).elim (-1) λv=>v
theorem tX {m v:Nat} (e:P[m]?=some v):FD P m=v:=by rw[FD,e];rfl
noncomputable def D3 (n:Nat) (RS HS PL:Nat) (r h:Nat->Nat) (P:List Nat) (B:List (Nat×O)):List (Nat×O):=(RS,lO (tab n r))::(HS,lO (tab n h))::(PL,lO P)::B
theorem EG {c1 c2 FL:Nat} {x7 x9 fK fX:Option V} (g:Gl rel n m0 r h P) (ex:P[h0]?=some x) (ow:Ow H1 H (D3 n RS HS PL r h P B)) (nz:n≤2^23)
  (k:∀fX H',Ow H1 H' (D3 n RS HS PL (o6 P h0 x r) (rA P h0 n h) (P.take h0) B)->Q .next (Ld c1 c2 n RS HS PL FL x7 x9 (some (.int x)) fK fX) H'):
  cB (wB.at 4).in (Ld c1 c2 n RS HS PL FL x7 x9 (some (.int x)) fK fX) H Q:=by
 have pl:=(ah.1 ex).1
 have rx:∀k,o6 P k x r x=r x:=λk=>om (· =r x) (λ_=>rfl) λ_=>rfl
 have w0:Ow H1 H (D3 n RS HS PL (o6 P P.length x r) (rA P P.length n h) (P.take P.length) B):=by rw[show o6 P P.length x r=r from Av,show rA P P.length n h=h from Av,aR];exact ow
 have l0: -1=FD P P.length:=by rw[FD,bR (aC _)];rfl
 refine .set (v:=.int (FD P P.length)) ((JE.neg .lit).to (congrArg V.int l0)) (.pP (λm=>Ld c1 c2 n RS HS PL FL x7 x9 (some (.int x)) fK (some (.int (FD P m))))
  (λm H'=>C3 (Ow H1 H' (D3 n RS HS PL (o6 P m x r) (rA P m n h) (P.take m) B)) (h0≤m) (m≤P.length)) id P.length ⟨w0,aK pl,aC _⟩ λm H' K hh cg _=>?_)
 rcases iJ hh.2 with w|w
 ·exact .no (.bY (.var (i:=12) rfl) (.var (i:=10) rfl) (cL.to (.ne (.int (FD P m) x)) (by rw[←w,tX ex,beq_self_eq_true];rfl))) (.nil (k _ H' (w▸hh.1)))
 ·have ne:FD P m≠x:=by
   cases c:P[m]? with
   |none=>rw[FD,c];exact λe=>absurd (e▸(by decide:(-1:Int)<0):(x:Int)<0) (fy.2 (aS x))
   |some v=>rw[tX c];exact λe=>di w (g.inj c (a_.1 e▸ex))
  have em:m-1+1=m:=p7 (aA (bw _) w)
  generalize m-1=m' at em
  have z2:m'<P.length:=aw (aw (bT _) (aF em)) hh.3
  have hv:=ao z2
  have mem:∀z,z∈P.drop m'↔z=P[m']∨z∈P.drop m:=λz=>by rw[d4 z2,em,aI]
  generalize P[m']=v at hv mem
  have vn':=g.4 v (am hv)
  have gP:H'[PL]?=some (.list (vn (P.take m')++[.int v])):=(hh.1.at_ 2 rfl).trans (by rw[lO,←em,aW,hv,vH];rfl)
  have o1:=hh.1.up 2 rfl (lO (P.take m'))
  have o2:=o1.up 1 rfl (lO (tab n (rA P m' n h)))
  have q1:=oS (v:=n+1) (o1.at_ 1 rfl) vn'
  have q2:=oS (v:=o6 P m x r x) (o2.at_ 0 rfl) vn'
  rw[show upd (rA P m n h) v (n+1)=rA P m' n h from Au mem]at q1
  rw[show upd (o6 P m x r) v (o6 P m x r x)=o6 P m' x r from rx m▸Au mem]at q2
  exact .yes (.bY (.var (i:=12) rfl) (.var (i:=10) rfl) (cL.to (.ne (.int (FD P m) x)) (by rw[beq_eq_false_iff_ne.2 ne];rfl)))
   (.set ((JE.pop (.var rfl) gP (by rw[aX];exact aA (aj (bJ _ _) (aj g.len nz)) (by decide))).to (congrArg V.int (tX hv).symm)) (.bq (.var rfl) (.var rfl) ((JE.var rfl).to (congrArg V.int (tX hv))) q1
    (.bq (.idx (.var rfl) (.var rfl) (.nat (o2.at_ 0 rfl) (cN (ja (g.4 x (am ex)))))) (.var rfl) ((JE.var rfl).to (congrArg V.int (tX hv))) q2 (.nil (cg m' rfl ⟨o2.up 0 rfl (lO (tab n (o6 P m' x r))),bB (aw w (aF em.symm)),aK z2⟩ (aw (bT _) (aF em)))))))
end Dg
end
section
namespace Dg
abbrev Fm:=Nat×Nat×Nat×Nat
noncomputable def frm (p:Fm):Nat×O:=(p.1,lO [p.2.1,p.2.2.1+1,p.2.2.2])
noncomputable def Kw (fs:List Fm):List V:=fs.foldr (λp l=>l++[V.ref p.1]) []
theorem Aw {fs:List Fm}:(Kw fs).length=fs.length:=by
 induction fs with
 |nil=>rfl
 |cons p fs ih=>exact aq.trans (congrArg (· +1) ih)
noncomputable def DS (RS HS PL FL n:Nat) (r h:Nat->Nat) (P:List Nat) (fs:List Fm):List (Nat×O):=D3 n RS HS PL r h P ((FL,.list (Kw fs))::fs.map frm)
noncomputable def wt (rel:Nat->List Nat) (fs:List Fm):Nat:=(fs.map λp=>(rel p.2.1).length-p.2.2.2+1).sum
noncomputable def Nr (n:Nat) (h:Nat->Nat):Nat:=(List.range n).countP λz=>h z==0
theorem EH {n:Nat} {h h':Nat->Nat} (k:∀z,h z≠0->h' z≠0):Nr n h'≤Nr n h:=
 nH λz _ e=>beq_iff_eq.2 (hM λc=>k z c (beq_iff_eq.1 e))
theorem Kx {n:Nat} {h h':Nat->Nat} (k:∀z,h z≠0->h' z≠0) {y:Nat} (yn:y<n) (h0:h y=0) (h1:h' y≠0):Nr n h'<Nr n h:=by
 have km:∀z,(h' z==0)=true->(h z==0)=true:=λz e=>beq_iff_eq.2 (hM λc=>k z c (beq_iff_eq.1 e))
 have key:∀l:List Nat,y∈l->l.countP (λz=>h' z==0)<l.countP λz=>h z==0:=λl=>by
  induction l with
  |nil=>exact λm=>absurd m aQ
  |cons a l ih=>
   intro m
   rw[l_,l_]
   refine(aI.1 m).elim (λe=>?_) λm=>Nat.add_lt_add_of_lt_of_le (ih m) (om (· ≤_) (λz=>aF (if_pos (km a z)).symm) λ_=>bw _)
   rw[←e,if_pos (beq_iff_eq.2 h0),if_neg λe=>h1 (beq_iff_eq.1 e)]
   exact dc (nH λz _=>km z)
 exact key _ (bp.2 yn)
inductive pG (H1:Hp) (RL n:Nat) (RA:List Nat) (rel:Nat->List Nat):Prop
 |mk (l:H1[RL]?=some (.list (RA.map .ref))) (row:∀z<n,∃b,RA[z]?=some b∧H1[b]?=some (.list (vn (rel z)))) (lt:∀z<n,∀y∈rel z,y<n) (len:∀z<n,(rel z).length≤2^23) (nz:n≤2^23)
variable {rel:Nat->List Nat} {n:Nat} {m0 r h:Nat->Nat} {P:List Nat} {x h0 i a:Nat} {fs:List Fm} {H1 H:Hp} {RS HS PL FL RL c2:Nat} {RA:List Nat} {Q:Fl->Lc->Hp->Prop} {rest:i6}
theorem Ky {L:Lc} {o e:CE} {k y:Nat} (a:JE o L H (.ref k) H) (b:JE e L H (.int y) H) (g:H[k]?=some (lO P)) (z:P.length<SZ):JE (.append o e) L H .none (H.set k (lO (P++[y]))):=by
 have:=JE.append a b ⟨_,g⟩ g (by rw[aX];exact z)
 rw[vH]at this;exact this
theorem EI {L:Lc} {o:CE} {k:Nat} (a:JE o L H (.ref k) H) (g:H[k]?=some (lO P)) (z:P.length≤SZ):JE (.len o) L H (.int P.length) H:=
 (JE.len a (.list g (by rw[aX];exact z))).to (by rw[aX])
theorem EJ {y:Nat} {x7 x9 gJ fX:Option V} (R:pG H1 RL n RA rel) (ow:Ow H1 H (DS RS HS PL FL n r h P ((a,x,h0,i)::fs))) (g:Gl rel n m0 r h P) (s:Frs rel n r h P (P.length+1) (((a,x,h0,i)::fs).map (·.2))) (e:(rel x)[i]?=some y) (yn:y<n) (v:h y=0) (fl:fs.length<2^23)
  (q:∀b H',Ow H1 H' (DS RS HS PL FL n r (upd h y (P.length+1)) (P++[y]) ((b,y,P.length,0)::(a,x,h0,i)::fs))->Gl rel n m0 r (upd h y (P.length+1)) (P++[y])->Frs rel n r (upd h y (P.length+1)) (P++[y]) ((P++[y]).length+1) (((b,y,P.length,0)::(a,x,h0,i)::fs).map (·.2))->
   Q .cont (Ld RL c2 n RS HS PL FL x7 x9 gJ (some (.int y)) fX) H'):
  cB ((wB.at 2).in.at 1).in (Ld RL c2 n RS HS PL FL x7 x9 gJ (some (.int y)) fX) H Q:=by
 have w:=uX (y:=y) g s (λf0 rest e'=>(bA e').1▸e) yn v
 have z1:P.length+1<SZ:=aA (aM (aj g.len R.5)) (by decide)
 have o1:=ow.up 2 rfl (lO (P++[y]))
 have o2:=o1.up 1 rfl (lO (tab n (upd h y (P.length+1))))
 have ln:∀{H'},H'[PL]?=some (lO (P++[y]))->JE (.len (.var 6)) (Ld RL c2 n RS HS PL FL x7 x9 gJ (some (.int y)) fX) H' (.int (P.length+1:Nat)) H':=λk=>
  (EI (.var rfl) k (aj (aF aq) (aK z1))).to (by rw[aq];rfl)
 refine .expr (Ky (.var rfl) (.var rfl) (ow.at_ 2 rfl) (Nat.lt_of_succ_lt z1)) (.bq (ln (o1.at_ 2 rfl)) (.var rfl) (.var rfl) (oS (o1.at_ 1 rfl) yn) ?_)
 refine jJ (vs:=[.int y,.int (P.length+1:Nat),.int 0]) (.av (.var (i:=11) rfl) (.av (ln (o2.at_ 2 rfl)) (.av .lit .bn))) (ib _ rfl) λb H2 j fb gb eb=>?_
 have gF:(List.set (H.set PL _) HS _)[FL]?=some (.list (Kw ((a,x,h0,i)::fs))):=o2.at_ 3 rfl
 exact .expr (.append (.var rfl) j ⟨_,gF⟩ (eb _ _ gF) (by rw[Aw];exact aw (dR fl) (by decide)))
  (.cont (q b _ ((o2.nw 4 fb gb eb).up 3 rfl (.list (Kw ((b,y,P.length,0)::(a,x,h0,i)::fs)))) w.1 w.2))
end Dg
end
section
namespace Dg
variable {rel:Nat->List Nat} {n:Nat} {m0 r h:Nat->Nat} {P:List Nat} {x h0 i a:Nat} {fs:List Fm} {H1 H:Hp} {RS HS PL FL RL c2:Nat} {RA:List Nat} {Q:Fl->Lc->Hp->Prop} {rest:i6}
theorem EK {y:Nat} {x7 fX:Option V} (ow:Ow H1 H (DS RS HS PL FL n r h P ((a,x,h0,i)::fs))) (g:Gl rel n m0 r h P) (s:Frs rel n r h P (P.length+1) (((a,x,h0,i)::fs).map (·.2))) (e:(rel x)[i]?=some y) (xn:x<n) (yn:y<n) (v:h y≠0)
  (q:∀H',Ow H1 H' (DS RS HS PL FL n (upd r x (r x|||r y)) (upd h x (if h y<h x then h y else h x)) P ((a,x,h0,i+1)::fs))->Gl rel n m0 (upd r x (r x|||r y)) (upd h x (if h y<h x then h y else h x)) P->Frs rel n (upd r x (r x|||r y)) (upd h x (if h y<h x then h y else h x)) P (P.length+1) (((a,x,h0,i+1)::fs).map (·.2))->
   Q .cont (Ld RL c2 n RS HS PL FL x7 (some (.ref a)) (some (.int x)) (some (.int y)) fX) H'):
  cB (wB.at 2).in.tl.tl (Ld RL c2 n RS HS PL FL x7 (some (.ref a)) (some (.int x)) (some (.int y)) fX) H Q:=by
 have w:=BB g s e yn v
 have o1:Ow H1 (H.set a (lO [x,h0+1,i+1])) (DS RS HS PL FL n r h P ((a,x,h0,i+1)::fs)):=ow.up 4 rfl (lO [x,h0+1,i+1])
 have ga:H[a]?=some (lO [x,h0+1,i]):=ow.at_ 4 rfl
 have tail:∀H' h',Ow H1 H' (DS RS HS PL FL n r h' P ((a,x,h0,i+1)::fs))->h'=upd h x (if h y<h x then h y else h x)->
   cB (wB.at 2).in.tl.tl.tl.tl (Ld RL c2 n RS HS PL FL x7 (some (.ref a)) (some (.int x)) (some (.int y)) fX) H' Q:=λH' h' o eh=>
  .bq (.bin (.idx (.var rfl) (.var rfl) (.nat (o.at_ 0 rfl) (cN (ja xn)))) (.idx (.var rfl) (.var rfl) (.nat (o.at_ 0 rfl) (cN (ja yn)))) (.bor _ _ _)) (.var rfl) (.var rfl) (oS (o.at_ 0 rfl) xn) (.cont (q _ (eh▸o.up 0 rfl _) w.1 w.2))
 refine .bq (.bin (.idx (.var rfl) .lit (.nat (k:=2) ga rfl)) .lit (.add _ _ _)) (.var rfl) .lit (.list (k:=2) ga rfl) ?_
 have T:=λt (c:cL (H.set a (lO [x,h0+1,i+1])) .lt (.int (h y)) (.int (h x)) t)=>JT.bY (L:=Ld RL c2 n RS HS PL FL x7 (some (.ref a)) (some (.int x)) (some (.int y)) fX) (.idx (.var (i:=4) rfl) (.var (i:=11) rfl) (.nat (o1.at_ 1 rfl) (cN (ja yn)))) (.idx (.var (i:=4) rfl) (.var (i:=10) rfl) (.nat (o1.at_ 1 rfl) (cN (ja xn)))) c
 by_cases c:h y<h x
 ·exact .then (T _ (.ltT c)) (.bq (.idx (.var rfl) (.var rfl) (.nat (o1.at_ 1 rfl) (cN (ja yn)))) (.var rfl) (.var rfl) (oS (o1.at_ 1 rfl) xn) (.nil (tail _ _ (o1.up 1 rfl _) (congrArg (upd h x) (if_pos c).symm))))
 ·exact .pass (T _ (.ltF (dQ c))) (tail _ h o1 (by rw[if_neg c];exact funext λz=>(rQ (· =h z) (λe=>congrArg h e.symm) λ_=>rfl).symm))
theorem Kz {b:Nat} {fr:List (Nat×Nat×Nat)} (s:Frs rel n r h P b ((x,h0,i)::fr)) (hi:i=(rel x).length) (g:Gl rel n m0 r h P) (c:h x≠h0+1):Frs rel n r h P b fr:=by
 cases fr with
 |nil=>exact(c (BC g s)).elim
 |cons p fr=>exact yX s hi g
theorem Hi {x7 fK fX:Option V} (R:pG H1 RL n RA rel) (ow:Ow H1 H (DS RS HS PL FL n r h P ((a,x,h0,i)::fs))) (g:Gl rel n m0 r h P) (s:Frs rel n r h P (P.length+1) (((a,x,h0,i)::fs).map (·.2))) (hi:i=(rel x).length) (xn:x<n) (fl:fs.length<2^23)
  (q:∀r' h' P' H' fX,Ow H1 H' (DS RS HS PL FL n r' h' P' fs)->Gl rel n m0 r' h' P'->Frs rel n r' h' P' (P'.length+1) (fs.map (·.2))->(∀z,h z≠0->h' z≠0)->Q .next (Ld RL c2 n RS HS PL FL x7 (some (.ref a)) (some (.int x)) fK fX) H'):
  cB wB.tl.tl.tl (Ld RL c2 n RS HS PL FL x7 (some (.ref a)) (some (.int x)) fK fX) H Q:=by
 have o1:=ow.up 3 rfl (.list (Kw fs))
 have o2:Ow H1 (H.set FL (.list (Kw fs))) (DS RS HS PL FL n r h P fs):=o1.rm 4 rfl
 refine .expr (.pop (.var rfl) (ow.at_ 3 rfl) (aA (aF (Aw (fs:=fs))) (aw fl (by decide)))) ?_
 have T:=λt (c:cL (H.set FL (.list (Kw fs))) .eq (.int (h x)) (.int (h0+1:Nat)) t)=>JT.bY (L:=Ld RL c2 n RS HS PL FL x7 (some (.ref a)) (some (.int x)) fK fX) (.idx (.var (i:=4) rfl) (.var (i:=10) rfl) (.nat (o2.at_ 1 rfl) (cN (ja xn)))) (.idx (.var (i:=9) rfl) .lit (.nat (k:=1) (o1.at_ 4 rfl) rfl)) c
 by_cases c:h x=h0+1
 ·have w:=BD R.3 g s hi c
  exact .then (T _ (.to (.eq (.int (h x) (h0+1:Nat))) (by rw[c,beq_self_eq_true]))) (EG g s.1.2 o2 R.5 λfX H' o3=>.nil (q _ _ _ H' fX o3 w.1 w.2 λz=>vZ))
 ·exact .pass (T _ (.to (.eq (.int (h x) (h0+1:Nat))) (beq_eq_false_iff_ne.2 λk=>c (a_.1 k)))) (.nil (q r h P _ fX o2 g (Kz s hi g c) λ_ v=>v))
end Dg
end
section
namespace Dg
variable {rel:Nat->List Nat} {n:Nat} {m0 r h:Nat->Nat} {P:List Nat} {fs:List Fm} {H1 H:Hp} {RS HS PL FL RL c2:Nat} {RA:List Nat} {Q:Fl->Lc->Hp->Prop} {rest:i6}
theorem Frs.P2 {b:Nat} {fr:List (Nat×Nat×Nat)} (s:Frs rel n r h P b fr):fr.length<b:=by
 induction fr generalizing b with
 |nil=>exact aw Nat.zero_lt_one (aF (show b=1 from s).symm)
 |cons p fr ih=>exact aA (ih s.2) s.1.1
theorem sC {p:Fm}:wt rel (p::fs)=(rel p.2.1).length-p.2.2.2+1+wt rel fs:=by rw[wt,bQ,List.sum_cons];rfl
theorem Hj {u u' w l K:Nat} (h:u'<u) (hl:l+1<K):u'*K+(l+1+w)<u*K+w:=
 aw (jP (jv hl w) _) (aj (aF ((dv ..).symm.trans (congrArg (· +w) (Nat.succ_mul ..).symm))) (d_ (oJ K h) w))
theorem IY {u u' w w' K:Nat} (h:u'≤u) (hw:w'<w):u'*K+w'<u*K+w:=gG (oJ K h) hw
theorem KA (l:List V) (a:V):(!(l++[a]).isEmpty)=true:=by cases l<;>rfl
abbrev Ls:=(Nat->Nat)×(Nat->Nat)×List Nat×List Fm×Option V×Option V×Option V×Option V
noncomputable def mu (rel:Nat->List Nat) (n:Nat) (s:Ls):Nat:=Nr n s.2.1*(2^23+2)+wt rel s.2.2.2.1
inductive LI (rel:Nat->List Nat) (n:Nat) (m0 hq:Nat->Nat) (H1:Hp) (RS HS PL FL:Nat) (s:Ls) (H':Hp):Prop
 |mk (ow:Ow H1 H' (DS RS HS PL FL n s.1 s.2.1 s.2.2.1 s.2.2.2.1)) (g:Gl rel n m0 s.1 s.2.1 s.2.2.1) (fr:Frs rel n s.1 s.2.1 s.2.2.1 (s.2.2.1.length+1) (s.2.2.2.1.map (·.2))) (m:∀z,hq z≠0->s.2.1 z≠0)
theorem EL {x7 x9 gJ fK fX:Option V} {hq:Nat->Nat} {p:Fm} {K:Ps} (R:pG H1 RL n RA rel) (I:LI rel n m0 hq H1 RS HS PL FL (r,h,P,p::fs,x9,gJ,fK,fX) H)
  (k:∀{f} s' {H'},f.go=true->LI rel n m0 hq H1 RS HS PL FL s' H'->mu rel n s'<mu rel n (r,h,P,p::fs,x9,gJ,fK,fX)->K f (Ld RL c2 n RS HS PL FL x7 s'.2.2.2.2.1 s'.2.2.2.2.2.1 s'.2.2.2.2.2.2.1 s'.2.2.2.2.2.2.2) H'):
  cB wB (Ld RL c2 n RS HS PL FL x7 x9 gJ fK fX) H K:=by
 have ow:Ow H1 H (DS RS HS PL FL n r h P (p::fs)):=I.1
 have g:Gl rel n m0 r h P:=I.2
 have s:Frs rel n r h P (P.length+1) ((p::fs).map (·.2)):=I.3
 have f:Np rel n r h P p.2.1 p.2.2.1 p.2.2.2 (P.length+1):=s.1
 have ga:=ow.at_ 4 rfl
 have hx:=g.ne f.2
 have xn:=g.4 _ (am f.2)
 have fl:fs.length<2^23:=aw (aw (bT _) (aj (aF (ae (as:=p::fs) (·.2)).symm) (bB s.P2))) (aj g.len R.5)
 refine(R.2 _ xn).elim λb e=>?_
 have rl:=R.4 _ xn
 have gR:=ow.1 _ _ R.1
 have gb:=ow.1 _ _ e.2
 refine .set (.idx (.var rfl) (.neg .lit) (.last (ow.at_ 3 rfl))) (.set (.idx (.var rfl) .lit (.nat (k:=0) ga rfl)) ?_)
 have T:=λt (c:cL H .lt (.int p.2.2.2) (.int (rel p.2.1).length) t)=>JT.bY (L:=Ld RL c2 n RS HS PL FL x7 (some (.ref p.1)) (some (.int p.2.1)) fK fX) (.idx (.var (i:=9) rfl) .lit (.nat (k:=2) ga rfl)) (EI (.idx (.var (i:=1) rfl) (.var (i:=10) rfl) (.nat gR (dy e.1))) gb (aj rl (by decide))) c
 rcases ba p.2.2.2 (rel p.2.1).length with z|z
 ·have ey:=ao z
  generalize (rel p.2.1)[p.2.2.2]=y at ey
  have yn:=R.3 _ xn y (am ey)
  refine .then (T _ (.ltT z)) (.set (.idx (.idx (.var rfl) (.var rfl) (.nat gR (dy e.1))) (.idx (.var rfl) .lit (.nat (k:=2) ga rfl)) (.nat gb (cN ey))) ?_)
  have T2:=λt (c:cL H .eq (.int (h y)) (.int 0) t)=>JT.bY (L:=Ld RL c2 n RS HS PL FL x7 (some (.ref p.1)) (some (.int p.2.1)) (some (.int y)) fX) (.idx (.var (i:=4) rfl) (.var (i:=11) rfl) (.nat (ow.at_ 1 rfl) (cN (ja yn)))) .lit c
  by_cases c:h y=0
  ·exact .then (T2 _ (.to (.eq (.int (h y:Nat) 0)) (by rw[c];rfl))) (EJ R ow g s ey yn c fl λb' H2 o2 g2 s2=>k (r,upd h y (P.length+1),P++[y],(b',y,P.length,0)::p::fs,_,_,_,_) rfl ⟨o2,g2,s2,λz v=>tW (I.4 z v) (cK _)⟩
    (aA (aF (congrArg (_+ ·) sC)) (Hj (Kx (λw v=>tW v (cK _)) yn c λe=>cK _ (tU.symm.trans e)) (dR (dc (R.4 y yn))))))
  ·have nz:∀z,h z≠0->upd h p.2.1 (if h y<h p.2.1 then h y else h p.2.1) z≠0:=λz v=>tW v ((mnl _ _).3 c hx)
   exact .pass (T2 _ (.to (.eq (.int (h y:Nat) 0)) (beq_eq_false_iff_ne.2 λk=>c (a_.1 k)))) (EK ow g s ey xn yn c λH2 o2 g2 s2=>k (_,_,P,(p.1,p.2.1,p.2.2.1,p.2.2.2+1)::fs,_,_,_,_) rfl ⟨o2,g2,s2,λz v=>nz z (I.4 z v)⟩
    (IY (EH nz) (aA (aF sC) (aw (jv (dR (hV z (bT _))) _) (aF sC.symm)))))
 ·exact .pass (T _ (.ltF z)) (Hi R ow g s (bP f.3 z) xn fl λr' h' P' H2 B8 o2 g2 s2 mz=>k (r',h',P',fs,some (.ref p.1),some (.int p.2.1),fK,B8) rfl ⟨o2,g2,s2,λz v=>mz z (I.4 z v)⟩
   (IY (EH mz) (aw (Nat.lt_add_of_pos_left (gV _)) (aF sC.symm))))
theorem EM {x7 x9 gJ fK fX:Option V} {hq:Nat->Nat} (R:pG H1 RL n RA rel) (I:LI rel n m0 hq H1 RS HS PL FL (r,h,P,fs,x9,gJ,fK,fX) H)
  (q:∀r' h' H' x9 gJ fK fX,LI rel n m0 hq H1 RS HS PL FL (r',h',[],[],x9,gJ,fK,fX) H'->cB rest (Ld RL c2 n RS HS PL FL x7 x9 gJ fK fX) H' Q):
  cB (.cons (((bo 11).at 4).in.at 4) rest) (Ld RL c2 n RS HS PL FL x7 x9 gJ fK fX) H Q:=by
 refine .pP (λs:Ls=>Ld RL c2 n RS HS PL FL x7 s.2.2.2.2.1 s.2.2.2.2.2.1 s.2.2.2.2.2.2.1 s.2.2.2.2.2.2.2) (LI rel n m0 hq H1 RS HS PL FL) (mu rel n) (r,h,P,fs,x9,gJ,fK,fX) I λs H' K I k _=>?_
 cases e:s.2.2.2.1 with
 |nil=>
  have I':=I
  rw[show s=(s.1,s.2.1,s.2.2.1,s.2.2.2.1,s.2.2.2.2) from rfl,e]at I'
  exact .no (.ir (.var rfl) (.list (I'.1.at_ 3 rfl)) rfl) (q _ _ H' _ _ _ _ ((show s.2.2.1=[] from EE I'.3)▸I'))
 |cons p fs=>
  have es:s=(s.1,s.2.1,s.2.2.1,p::fs,s.2.2.2.2):=by rw[←e]
  exact .yes ((JT.ir (.var rfl) (.list ((es▸I:LI rel n m0 hq H1 RS HS PL FL (s.1,s.2.1,s.2.2.1,p::fs,s.2.2.2.2) H').1.at_ 3 rfl)) rfl).to (KA ..)) (EL R (es▸I) λs' _ g i m=>k s' g i (es▸m))
end Dg
end
section
namespace Dg
variable {rel:Nat->List Nat} {n:Nat} {H1:Hp} {RL c2:Nat} {RA:List Nat} {R:Prop}
theorem tab_of {l:List Nat} (h:l.length=n):l=tab n λz=>l.getD z 0:=yY h λ_ c=>getD_at (h.symm▸c)
noncomputable def Lo (c1 c2 n RS HS PL:Nat) (x7 x8 x9 gJ fK fX:Option V):Lc:=[some (.int n),some (.ref c1),some (.ref c2),some (.ref RS),some (.ref HS),some (.int (n+1:Nat)),some (.ref PL),x7,x8,x9,gJ,fK,fX]
theorem tY {ms:List Nat} (A:pG H1 RL n RA rel) (gM:H1[c2]?=some (.list (vn ms))) (ml:ms.length=n) (Nu:∀s∈ms,s<32)
  (q:∀a r H',JR 11 [.int n,.ref RL,.ref c2] H1 (.ref a) H'->H1[a]?=none->H'[a]?=some (.list (vn (tab n r)))->Ext H1 H'->(∀z<n,Sb (ms.getD z 0) (r z))->(∀z<n,r z<32)->(∀z<n,∀y∈rel z,Sb (r y) (r z))->R):R:=by
 have nS:n≤SZ:=aj A.5 (by decide)
 refine c7 11 [.int n,.ref RL,.ref c2] H1 rfl rfl (L:=[some (.int n),some (.ref RL),some (.ref c2),none,none,none,none,none,none,none,none,none,none]) rfl λQ q'=>?_
 refine qo (.var rfl) gM (by rw[aX,ml];exact nS) λRS H2 j f2 g2 e2=>.set j ?_
 refine jJ (L:=[some (.int n),some (.ref RL),some (.ref c2),some (.ref RS),none,none,none,none,none,none,none,none,none]) (vs:=[.int 0]) (H:=H2) (.av (e:=.lit (.int 0)) .lit .bn) (ib _ rfl) λZ H3 jZ fZ gZ eZ=>?_
 refine GN (n:=n) (f:=.var 0) jZ (.var (i:=0) rfl) gZ nS λHS H4 j f4 g4 e4=>.set j (.set (.bin (.var rfl) .lit (.add _ _ _)) (hN λPL H5 j f5 g5 e5=>.set j ?_))
 have zt:List.replicate n (V.int 0)=vn (tab n λ_=>0):=(congrArg vn (yY (l:=List.replicate n 0) bX λi h=>cZ.trans (if_pos h))).symm.trans ky|>.symm
 have o5:Ow H1 H5 (D3 n RS HS PL (λz=>ms.getD z 0) (λ_=>0) [] []):=((((Ow.mk .r rj .nil:Ow H1 H1 []).new f2 (o:=lO (tab n λz=>ms.getD z 0)) (g2.trans (congrArg (λl=>some (O.list (vn l))) (tab_of ml))) e2).ext eZ).nw 1 f4 (o:=lO (tab n λ_=>0)) (g4.trans (congrArg (λl=>some (O.list l)) zt)) e4).nw 2 f5 g5 e5
 refine .GX n (λ_ (s:(Nat->Nat)×(Nat->Nat)×Option V×Option V×Option V×Option V×Option V×Option V)=>Lo RL c2 n RS HS PL s.2.2.1 s.2.2.2.1 s.2.2.2.2.1 s.2.2.2.2.2.1 s.2.2.2.2.2.2.1 s.2.2.2.2.2.2.2)
  (λk s H'=>C3 (Ow H1 H' (D3 n RS HS PL s.1 s.2.1 [] [])) (Gl rel n (λz=>ms.getD z 0) s.1 s.2.1 []) (∀z<k,s.2.1 z≠0)) (_,_,none,none,none,none,none,none) (.var rfl) nS
  ⟨o5,⟨λ_ _=>.r,λz _=>jj Nu,.nil,rj,λ_ _ e=>cW dA e,λ_ _=>.inl rfl,λz _ w=>absurd w (cK n).symm⟩,λz h=>absurd h (bm z)⟩ (λst s H6 K hn hh cg _=>?_) λs H6 hh=>?_
 ·have T:=λt (c:cL H6 .ne (.int (s.2.1 st)) (.int 0) t)=>JT.bY (L:=Lo RL c2 n RS HS PL (some (.int st)) s.2.2.2.1 s.2.2.2.2.1 s.2.2.2.2.2.1 s.2.2.2.2.2.2.1 s.2.2.2.2.2.2.2) (.idx (.var (i:=4) rfl) (.var (i:=7) rfl) (.nat (hh.1.at_ 1 rfl) (cN (ja hn)))) .lit c
  by_cases c:s.2.1 st=0
  ·have o1:=hh.1.up 2 rfl (lO [st])
   have o2:=o1.up 1 rfl (lO (tab n (upd s.2.1 st 1)))
   refine .pass (T _ (.to (.ne (.int (s.2.1 st:Nat) 0)) (by rw[c];rfl))) (.expr (.append (.var rfl) (.var rfl) ⟨_,hh.1.at_ 2 rfl⟩ (hh.1.at_ 2 rfl) (by decide)) (.bq (.len (.var rfl) (.list (o1.at_ 2 rfl) (ib _ rfl))) (.var rfl) (.var rfl) (oS (v:=1) (o1.at_ 1 rfl) hn) ?_))
   refine jJ (L:=Lo RL c2 n RS HS PL (some (.int st)) s.2.2.2.1 s.2.2.2.2.1 s.2.2.2.2.2.1 s.2.2.2.2.2.2.1 s.2.2.2.2.2.2.2) (vs:=[.int st,.int (1:Nat),.int 0]) (.av (.var (i:=7) rfl) (.av (.len (.var (i:=6) rfl) (.list (o2.at_ 2 rfl) (ib _ rfl))) (.av (e:=.lit (.int 0)) .lit .bn))) (ib _ rfl) λb H7 j7 f7 g7 e7=>?_
   refine jJ (vs:=[.ref b]) (.av j7 .bn) (ib _ rfl) λFL H8 j8 f8 g8 e8=>.set j8 ?_
   have o8:Ow H1 H8 (DS RS HS PL FL n s.1 (upd s.2.1 st 1) [st] [(b,st,0,0)]):=(o2.nw 3 f7 (o:=lO [st,0+1,0]) g7 e7).nw 3 f8 (o:=.list [.ref b]) g8 e8
   have w:=uX (fr:=[]) (y:=st) hh.2 rfl (λ_ _ e=>absurd e.symm (jg _ _)) hn c
   exact EM (hq:=upd s.2.1 st 1) (fs:=[(b,st,0,0)]) A ⟨o8,w.1,w.2,λ_ v=>v⟩ λr' h' H9 y9 IG IH B8 I=>.nil (cg (r',h',some (.int st),some (.ref FL),y9,IG,IH,B8) rfl ⟨I.1.rm 3 rfl,I.2,λz hz=>I.4 z
    ((bj.1 hz).elim (λw=>tW (hh.3 z w) Nat.one_ne_zero) λw=>w▸λe=>Nat.one_ne_zero (tU.symm.trans e))⟩)
  ·exact .then (T _ (.to (.ne (.int (s.2.1 st:Nat) 0)) (congrArg (!·) (beq_eq_false_iff_ne.2 (Int.natCast_ne_zero.2 c))))) (.cont (cg (s.1,s.2.1,some (.int st),s.2.2.2) rfl ⟨hh.1,hh.2,λz hz=>(bj.1 hz).elim (hh.3 z) λw=>w▸c⟩))
 ·exact .ret (.var rfl) (q' λj=>q RS s.1 H6 j (hh.1.fr 0 rfl) (hh.1.at_ 0 rfl) hh.1.1 hh.2.1 hh.2.2 λz hz y m=>(hh.2.7 z hz ((hh.2.6 z aQ).resolve_left (hh.3 z hz)) y m).2)
end Dg
end
section
open Dg (pG Sb tab)
theorem Ow.ne {H1 H:Hp} {l:List (Nat×O)} (h:Ow H1 H l) (i j:Nat) {a b:Nat} {o p:O} (ij:Nat.beq i j=false) (ei:l[i]?=some (a,o)) (ej:l[j]?=some (b,p)):a≠b:=λe=>
 Nat.ne_of_beq_eq_false ij ((cM (ah.1 (get_map (f:=(·.1)) ei)).1 h.3).1 ((get_map (f:=(·.1)) ei).trans ((congrArg some e).trans (get_map (f:=(·.1)) ej).symm)))
theorem Ow.val {H1 H H':Hp} {l l':List (Nat×O)} (h:Ow H1 H l) (e:Ext H1 H') (k:l'.map (·.1)=l.map (·.1)) (v:∀p∈l',H'[p.1]?=some p.2):Ow H1 H' l':=
 ⟨e,λp m=>⟨(az.1 (k▸az.2 ⟨p,m,rfl⟩:p.1∈l.map (·.1))).elim λq w=>w.2▸(h.2 q w.1).1,v p m⟩,k▸h.3⟩
theorem nh {α:Type} {P:α->Prop} {a:α} {l:List α} (h:P a) (k:∀p∈l,P p):∀p∈a::l,P p:=λp m=>(aI.1 m).elim (λe=>e▸h) (k p)
inductive Hk (G:aJ) (S:List cQ) (t:xX) (c:Nat->List Nat) (ms:List Nat) (rows:List (List Nat)) (r1 r2:Nat->Nat):Prop
 |mk (nl:Nl G t.fb) (tr:p9 S S.length [] t.ts) (rd:Bv S t.ts t.fb t.ts.length ms rows) (inc:Kv G S t c t.ts.length) (il:t.IA.length=t.ts.length) (lk:xW S S.length 0 t.l) (a1:∀z<t.ts.length,Sb (ms.getD z 0) (r1 z)) (b1:∀z<t.ts.length,∀y∈rows.getD z [],Sb (r1 y) (r1 z)) (a2:∀z<t.ts.length,Sb (r1 z) (r2 z)) (b2:∀z<t.ts.length,∀y∈c (t.IA.getD z 0),Sb (r2 y) (r2 z)) (lt:∀z<t.ts.length,r2 z<32)
noncomputable def laH (u N TL IX DL RL IL UL LB RM FM M:Nat):List (Nat×V):=[(53,.ref u),(56,.ref N),(55,.ref TL),(54,.ref IX),(57,.ref DL),(58,.ref RL),(61,.ref IL),(62,.ref UL),(59,.ref LB),(67,.ref RM),(63,.ref FM),(10,.ref M)]
variable {H H':Hp} {u g LS:Nat} {G:aJ} {A:GA} {SA:List Nat} {S:List cQ} {R:Prop}
theorem Bv.row {z:Nat} {ts fb ms rows} (h:bM H' u g G A LS SA S) (rd:Bv S ts fb ts.length ms rows) (tr:p9 S S.length [] ts) (hz:z<ts.length):∃y l,C2 (xV S ts fb y l (ms.getD z 0) (rows.getD z [])) (l.length≤8):=
 have e4:=ao hz
 (tr.goal h (p:=ts[z].1) (X:=ts[z].2) e4).elim λs w=>w.elim λy w=>w.elim λt w=>⟨y,_,rd.3 z _ _ s y t _ _ e4 (getD_at (rd.1.symm▸hz)) (getD_at (rd.2.symm▸hz)) w.1 w.2.1 w.2.2,
  aj (aF ((d8 _).trans (ae _))) (h.oj w.2.2)⟩
theorem BE {H:Hp} {RL:Nat} {RA:List Nat} {rows ts fb ms} (h:bM H' u g G A LS SA S) (gR:H[RL]?=some (.list (RA.map .ref))) (ra:gx H RA rows) (rd:Bv S ts fb ts.length ms rows) (tr:p9 S S.length [] ts):pG H RL ts.length RA λz=>rows.getD z []:=
 ⟨gR,λz hz=>⟨_,ao (ra.1.symm▸rd.2.symm▸hz),ra.2 _ _ _ (ao (ra.1.symm▸rd.2.symm▸hz)) (getD_at (rd.2.symm▸hz))⟩,
  λz hz y m=>(rd.row h tr hz).elim λ_ w=>w.elim λ_ w=>w.1.2 y m,λz hz=>(rd.row h tr hz).elim λ_ w=>w.elim λ_ w=>aj w.1.5 (aj w.2 (by decide)),
  aj tr.4 (aj (bH 8 h.6.5) (by decide))⟩
theorem Bv.Nu {ts fb ms rows} (h:bM H' u g G A LS SA S) (rd:Bv S ts fb ts.length ms rows) (tr:p9 S S.length [] ts):∀s∈ms,s<32:=λs m=>(aO m).elim λz hz=>
 have zl:=(ah.1 hz).1
 (rd.row h tr (rd.1▸zl)).elim λ_ w=>w.elim λ_ w=>(ax ((getD_at zl).symm.trans hz):ms.getD z 0=s)▸w.1.1
end
section
open Dg (pG Sb tab lO)
variable {H H':Hp} {u g LS:Nat} {G:aJ} {A:GA} {SA:List Nat} {S:List cQ} {R:Prop}
theorem gx.ext {H H':Hp} {as rows} (h:gx H as rows) (e:Ext H H'):gx H' as rows:=⟨h.1,λi b row e1 e2=>e _ _ (h.2 i b row e1 e2)⟩
section
variable {L:Lc} {H0 H1 H2:Hp} {Q:Ps} {r:i6} {e:CE} {a c f N:Nat} {fs:List (Nat×V)} {o:O} {B:List (Nat×O)}
theorem cB.attr (w:Ow H0 H1 ((a,.inst c fs)::B)) (j:JE e L H (.ref N) H2) (fN:H1[N]?=none) (gN:H2[N]?=some o) (eN:Ext H1 H2) (s:L[0]?=some (some (.ref a))) (m:pg.xQ c f=none) (z:Nat.ble fs.length 100=true)
  (k:∀H3,Ow H0 H3 ((a,.inst c (dj f (.ref N) fs))::(N,o)::B)->eE [a] H1 H3->cB r L H3 Q):cB (.cons (.setattr (.var 0) f e) r) L H Q:=
 .setattr j (.var s) (eN _ _ (w.at_ 0 rfl)) m z (k _ ((w.nw 1 fN gN eN).up 0 rfl _) ((eE.of eN).set (.head _)))
theorem cB.own {v:V} (x:JE e L H v H1) (s:L[0]?=some (some (.ref a))) (w:Ow H0 H1 ((a,.inst c fs)::B)) (m:pg.xQ c f=none) (z:Nat.ble fs.length 100=true)
  (k:∀H2,Ow H0 H2 ((a,.inst c (dj f v fs))::B)->eE [a] H1 H2->cB r L H2 Q):cB (.cons (.setattr (.var 0) f e) r) L H Q:=.setattr x (.var s) (w.at_ 0 rfl) m z (k _ (w.set [] _) (eE.r.set (.head _)))
end
noncomputable def l4 (la u N TL IX:Nat) (fb:List Bool) (ts:List (Nat×Nat)) (d:List (List Int×V)):List (Nat×O):=[(la,.inst 6 [(53,.ref u),(56,.ref N),(55,.ref TL),(54,.ref IX)]),(IX,.bV d),(TL,.list (ts.map tV)),(N,.list (vN fb))]
noncomputable def l6 (la u N TL IX DL RL:Nat) (fb:List Bool) (ts:List (Nat×Nat)) (d:List (List Int×V)) (ms RA:List Nat):List (Nat×O):=[(la,.inst 6 (Ol u N TL IX DL RL)),(RL,.list (RA.map .ref)),(DL,.list (vn ms)),(IX,.bV d),(TL,.list (ts.map tV)),(N,.list (vN fb))]
noncomputable def l9 (u:Nat) (a:IU) (fb:List Bool) (ts:List (Nat×Nat)) (d:List (List Int×V)) (ms RA IA UA:List Nat):List (Nat×O):=
 [(a.la,.inst 6 (a.fs u)),(a.LB,.bV []),(a.UL,.list (UA.map .ref)),(a.IL,.list (IA.map .ref)),(a.RL,.list (RA.map .ref)),(a.DL,.list (vn ms)),(a.IX,.bV d),(a.TL,.list (ts.map tV)),(a.N,.list (vN fb))]
noncomputable def L3 (la u:Nat) (x:Option V):Lc:=[some (.ref la),some (.ref u),x]
section
variable {la N TL IX DL RL:Nat} {fb:List Bool} {ts:List (Nat×Nat)} {d:List (List Int×V)} {ms RA:List Nat} {rows:List (List Nat)} {Q:Ps}
theorem Nv (h:bM H u g G A LS SA S) (fa:H[la]?=none) (e:Ext H H') (ha:H'[la]?=some (.inst 6 []))
  (k:∀N TL IX fb ts d H5,Nl G fb->p9 S S.length [] ts->Ix ts d->Ow H H5 (l4 la u N TL IX fb ts d)->cB ((bo 54).dr 5) (L3 la u none) H5 Q):cB (bo 54) (L3 la u none) H' Q:=by
 have w1:Ow H _ [(la,.inst 6 [(53,.ref u)])]:=((Ow.mk .r rj .nil:Ow H H []).new fa ha e).up 0 rfl _
 refine .setattr (.var rfl) (.var rfl) ha rfl rfl (oa (h.1.ext w1.1) λN fb H1 jN fN gN eN nl=>.attr w1 (.call (.av (.attr (.var rfl) (w1.1 _ _ h.2) rfl rfl) .bn) jN) fN gN eN rfl rfl rfl λH2 w2 _=>
  hN λTL H3 jT fT gT eT=>.attr w2 jT fT gT eT rfl rfl rfl λH4 w3 _=>lQ λIX H5 jI fI gI eI=>.attr w3 jI fI gI eI rfl rfl rfl λH6 w4 _=>?_)
 refine vV h w4.1 (w4.at_ 0 rfl) (w4.at_ 2 rfl) (w4.at_ 1 rfl) (w4.fr 2 rfl) (w4.fr 1 rfl) λts d H7 j5 x5 gT5 gI5 tr ix=>.expr (.bx (.var rfl) (w4.at_ 0 rfl) rfl rfl .bn j5) (k N TL IX fb ts d H7 nl tr ix ?_)
 exact w4.val (x5.ext w4.1 (Oc (w4.fr 2 rfl) (w4.fr 1 rfl))) rfl (nh (x5 _ _ (tH (w4.ne 0 2 rfl rfl rfl) (w4.ne 0 1 rfl rfl rfl)) (w4.at_ 0 rfl)) (nh gI5 (nh gT5 (nh (x5 _ _ (tH (w4.ne 3 2 rfl rfl rfl) (w4.ne 3 1 rfl rfl rfl)) (w4.at_ 3 rfl)) rj))))
theorem Nw (h:bM H u g G A LS SA S) (nl:Nl G fb) (tr:p9 S S.length [] ts) (ix:Ix ts d) (w:Ow H H' (l4 la u N TL IX fb ts d))
  (k:∀DL RL ms RA rows H8,Ow H H8 (l6 la u N TL IX DL RL fb ts d ms RA)->gx H8 RA rows->(∀b∈RA,b∉[la])->Bv S ts fb ts.length ms rows->cB ((bo 54).dr 8) (L3 la u none) H8 Q):cB ((bo 54).dr 5) (L3 la u none) H' Q:=by
 refine hN λDL H6 jD fD gD eD=>.attr w jD fD gD eD rfl rfl rfl λH1 w1 _=>hN λRL H7 jR fR gR eR=>.attr w1 jR fR gR eR rfl rfl rfl λH2 w2 _=>?_
 refine ut h nl.1 tr ix w2.1 (w2.at_ 5 rfl) (w2.at_ 4 rfl) (w2.at_ 3 rfl) (tH (w2.ne 5 2 rfl rfl rfl) (w2.ne 5 1 rfl rfl rfl)) (tH (w2.ne 4 2 rfl rfl rfl) (w2.ne 4 1 rfl rfl rfl)) (w2.at_ 0 rfl) (w2.at_ 2 rfl) (w2.at_ 1 rfl) (w2.fr 2 rfl) (w2.fr 1 rfl) (w2.ne 2 1 rfl rfl rfl)
  λms RA rows H8 j8 x8 gD8 gR8 ra raf rd=>.expr (.bx (.var rfl) (w2.at_ 0 rfl) rfl rfl .bn j8) (k DL RL ms RA rows H8 ?_ ra (λb m k=>cW (raf b m) (ak.1 k▸w2.at_ 0 rfl)) rd)
 have old:∀{b:Nat} {o:O} (i:Nat),Nat.beq i 2=false->Nat.beq i 1=false->(((la,O.inst 6 (Ol u N TL IX DL RL))::(RL,.list [])::(DL,.list [])::(l4 la u N TL IX fb ts d).tail)[i]?)=some (b,o)->H8[b]?=some o:=λi a c e=>x8 _ _ (tH (w2.ne i 2 a e rfl) (w2.ne i 1 c e rfl)) (w2.at_ i e)
 exact w2.val (x8.ext w2.1 (Oc (w2.fr 2 rfl) (w2.fr 1 rfl))) rfl (nh (old 0 rfl rfl rfl) (nh gR8 (nh gD8 (nh (old 3 rfl rfl rfl) (nh (old 4 rfl rfl rfl) (nh (old 5 rfl rfl rfl) rj))))))
theorem Ny (w:Ow H H' (l6 la u N TL IX DL RL fb ts d ms RA)) (ra:gx H' RA rows) (Ey:∀b∈RA,b∉[la]) (tz:(ts.map tV).length≤SZ)
  (k:∀IL UL LB IA UA H6,Ow H H6 (l9 u ⟨la,N,TL,IX,DL,RL,IL,UL,LB⟩ fb ts d ms RA IA UA)->gx H6 RA rows->IA.length=ts.length->UA.length=ts.length->(∀b∈IA++UA,H6[b]?=some (.list [])∧H[b]?=none)->(∀{b o},H'[b]?=some o->b∉IA++UA)->IL∉IA++UA->UL∉IA++UA->
   cB ((bo 54).dr 11) (L3 la u none) H6 Q):cB ((bo 54).dr 8) (L3 la u none) H' Q:=by
 refine qp (L:=[]) (w.at_ 4 rfl) tz λIA H1 jA lA _ fA eA=>kh (L:=L3 la u none) (caps:=[]) rfl (.pF (.attr (f:=55) (.var (i:=0) rfl) (w.at_ 0 rfl) rfl rfl) (.list (w.at_ 4 rfl)) tz) rfl jA (by rw[ae,lA];exact tz) λIL H2 jI fI gI eI=>.attr (w.ext eA) jI fI gI eI rfl rfl rfl λH3 w3 x3=>?_
 have fr:∀{b:Nat} {o:O},H'[b]?=some o->∀{c:Nat},c∈IA->c∉[b]:=λe c m k=>cW (fA _ m).2 (ak.1 k▸e)
 have gA:∀b∈IA,H3[b]?=some (.list []):=λb m=>x3 _ _ (fr (w.at_ 0 rfl) m) (fA b m).1
 have lA':IA.length=ts.length:=lA.trans (ae _)
 refine qp (L:=[]) (w3.at_ 5 rfl) tz λUA H4 jB lB _ fB eB=>kh (L:=L3 la u none) (caps:=[]) rfl (.pF (.attr (f:=55) (.var (i:=0) rfl) (w3.at_ 0 rfl) rfl rfl) (.list (w3.at_ 5 rfl)) tz) rfl jB (by rw[ae,lB];exact tz) λUL H5 jU fU gU eU=>.attr (w3.ext eB) jU fU gU eU rfl rfl rfl λH6 w6 x6=>?_
 have gB:∀b∈UA,H6[b]?=some (.list []):=λb m=>x6 _ _ (λk=>cW (fB b m).2 (ak.1 k▸w3.at_ 0 rfl)) (fB b m).1
 refine lQ (H:=H6) (n:=1) (L:=L3 la u none) λLB H7 jL fL gL eL=>.attr w6 jL fL gL eL rfl rfl rfl λH8 w8 x8=>?_
 have up:∀{b:Nat} {o:O},b∉[la]->H3[b]?=some o->H8[b]?=some o:=λn e=>x8 _ _ n (x6 _ _ n (eB _ _ e))
 have n3:∀{b:Nat} {o:O},H3[b]?=some o->b∉UA:=λe m=>cW (fB _ m).2 e
 refine k IL UL LB IA UA H8 w8 (((ra.ext eA).ex x3 Ey).ex (λ_ _ n e=>up n e) Ey) lA' (lB.trans (ae _)) (vY (λb m=>⟨up (fr (w.at_ 0 rfl) m) (gA b m),w.1.none (fA b m).2⟩) λb m=>⟨x8 _ _ (λk=>cW (fB b m).2 (ak.1 k▸w3.at_ 0 rfl)) (gB b m),w3.1.none (fB b m).2⟩)
  (λ{b o} e m=>(aD.1 m).elim (λm=>cW (fA _ m).2 e) λm=>?_) (λm=>(aD.1 m).elim (λm=>cW fI (fA _ m).1) (n3 (w3.at_ 1 rfl))) λm=>(aD.1 m).elim (λm=>cW fU (eB _ _ (gA _ m))) λm=>cW fU (fB _ m).1
 by_cases c:b=la
 ·exact n3 (c▸w3.at_ 0 rfl) m
 ·exact n3 (x3 _ _ (vO c) (eA _ _ e)) m
end
theorem EN {n:Nat} {r:Nat->Nat} {k:Nat} (l:∀z<n,r z<k):∀s∈tab n r,s<k:=λs m=>(az.1 m).elim λz w=>w.2▸l z (bp.1 w.1)
theorem Nz {H0 H1:Hp} {a:IU} {t:xX} {c:Nat->List Nat} {ms RA:List Nat} {rows:List (List Nat)} {Q:Ps} (F:Fi H0 H1 u g G A LS SA S a t) (bg:yT H1 H t.ts.length t.B c) (fa:H0[a.la]?=none) (gD:H[a.DL]?=some (.list (vn ms))) (rel:pG H a.RL t.ts.length RA λz=>rows.getD z []) (ml:ms.length=t.ts.length) (Nu:∀s∈ms,s<32)
  (k:∀M H2 (r1 r2:Nat->Nat) RM FM,Ext H0 H2->H2[a.la]?=some (.inst 6 (laH u a.N a.TL a.IX a.DL a.RL a.IL a.UL a.LB RM FM M))->H2[M]?=some (.bV (pd vI (jm (tab t.ts.length r2) c t.l)))->H0[M]?=none->(∀z<t.ts.length,Sb (ms.getD z 0) (r1 z))->(∀z<t.ts.length,∀y∈rows.getD z [],Sb (r1 y) (r1 z))->(∀z<t.ts.length,Sb (r1 z) (r2 z))->(∀z<t.ts.length,∀y∈c (t.IA.getD z 0),Sb (r2 y) (r2 z))->(∀z<t.ts.length,r2 z<32)->Q .next (L3 a.la u (some (.int t.ts.length))) H2):
  cB ((bo 54).dr 12) (L3 a.la u none) H Q:=by
 have hl:=bg.1 _ _ F.18 F.4
 have tl:=F.tl
 have w:Ow H0 H [(a.la,.inst 6 (a.fs u))]:=⟨F.x bg,nh ⟨fa,hl⟩ rj,c_.2 ⟨aQ,.nil⟩⟩
 refine .set ((JE.len (.attr (.var rfl) hl rfl rfl) (.list (bg.1 _ _ F.15 F.7) (by rw[ae];exact aj tl (by decide)))).to (by rw[ae])) ?_
 refine Dg.tY (c2:=a.DL) rel gD ml Nu λRM r1 H2 j2 f2 g2 e2 s1 l1 c1=>?_
 refine .attr w (.call (.av (.var (i:=2) rfl) (.av (.attr (.var (i:=0) rfl) hl (f:=58) rfl rfl) (.av (.attr (.var (i:=0) rfl) hl (f:=57) rfl rfl) .bn))) j2) f2 g2 e2 rfl rfl rfl λH3 w3 x3=>?_
 have I:∀{z:Nat},z<t.ts.length->t.IA[z]?=some (t.IA.getD z 0):=λhz=>getD_at (F.12.symm▸hz)
 have B:=λ{z:Nat} (hz:z<t.ts.length)=>bg.2 _ (F.21 _ (am (I hz)))
 have y3:∀{b:Nat} {o:O},H[b]?=some o->Nat.beq o.ctorIdx 4=false->H3[b]?=some o:=λe n=>x3 _ _ (vO (dg e hl n)) e
 refine Dg.tY (rel:=λz=>c (t.IA.getD z 0)) (c2:=RM) (RA:=t.IA) (RL:=a.IL) (n:=t.ts.length) ⟨y3 (bg.1 _ _ F.16 F.9) rfl,λz hz=>⟨_,I hz,y3 (B hz).1 rfl⟩,λz hz=>(B hz).2.2,λz hz=>aj (B hz).2.len tl,tl⟩ (w3.at_ 1 rfl) Dg.oR (EN l1) λFM r2 H4 j4 f4 g4 e4 s2 l2 c2=>?_
 refine .attr w3 (.call (.av (.var (i:=2) rfl) (.av (.attr (.var (i:=0) rfl) (w3.at_ 0 rfl) (f:=61) rfl rfl) (.av (.attr (.var (i:=0) rfl) (w3.at_ 0 rfl) (f:=67) rfl rfl) .bn))) j4) f4 g4 e4 rfl rfl rfl λH5 w5 x5=>?_
 have y5:∀{b:Nat} {o:O},H[b]?=some o->Nat.beq o.ctorIdx 4=false->H5[b]?=some o:=λe n=>x5 _ _ (vO (dg e hl n)) (y3 e n)
 refine BA (l:=t.l) (c:=c) (n:=t.ts.length) (ms:=tab t.ts.length r2) (w5.at_ 0 rfl) (LB:=a.LB) (FM:=FM) rfl rfl (y5 (bg.1 _ _ F.20 F.11) rfl) (w5.at_ 1 rfl) F.26.3 (aj F.26.4 (aj (bH 5 F.1.6.5) (by decide))) (λp m=>⟨y5 (bg.2 _ (F.23 p m)).1 rfl,(bg.2 _ (F.23 p m)).2⟩) Dg.oR tl λM H6 j6 f6 e6 g6=>?_
 exact .attr w5 (.bx (.var rfl) (w5.at_ 0 rfl) rfl rfl .bn j6) f6 g6 e6 rfl rfl rfl λH7 w7 _=>.nil (k M H7 r1 r2 RM FM w7.1 (w7.at_ 0 rfl) (w7.at_ 1 rfl) (w7.fr 1 rfl) s1 c1 (λz hz t ht=>s2 z hz t (by rw[aE,Dg.ja hz];exact ht)) c2 l2)
theorem v5 {la:Nat} (h:bM H u g G A LS SA S) (fa:H[la]?=none) (e:Ext H H') (ha:H'[la]?=some (.inst 6 []))
  (q:∀M H2 t c ms rows r1 r2 N TL IX DL RL IL UL LB RM FM,JR 54 [.ref la,.ref u] H' .none H2->Ext H H2->H2[la]?=some (.inst 6 (laH u N TL IX DL RL IL UL LB RM FM M))->H2[M]?=some (.bV (pd vI (jm (tab t.ts.length r2) c t.l)))->H[M]?=none->Hk G S t c ms rows r1 r2->R):R:=by
 refine c7 54 [.ref la,.ref u] H' rfl rfl (L:=L3 la u none) rfl λQ q'=>Nv h fa e ha λN TL IX fb ts d H1 nl tr ix w1=>Nw h nl tr ix w1 λDL RL ms RA rows H2 w2 IK Ey rd=>?_
 refine Ny w2 IK Ey (by rw[ae];exact aj tr.4 (aj (bH 8 h.6.5) (by decide))) λIL UL LB IA UA H3 w3 ra3 lI lU emp nf nIL nUL=>?_
 refine ry h w3.1 ⟨la,N,TL,IX,DL,RL,IL,UL,LB⟩ (w3.at_ 0 rfl) (w3.at_ 8 rfl) nl.1 (w3.at_ 7 rfl) (w3.at_ 6 rfl) (w3.at_ 3 rfl) (w3.at_ 2 rfl) (w3.at_ 1 rfl) lI lU (w3.fr 1 rfl) (w3.ne 6 1 rfl rfl rfl) emp (nh (nf (w2.at_ 5 rfl)) (nh (nf (w2.at_ 4 rfl)) (nh nIL (nh nUL rj)))) tr ix λl c H4 H5 j5 F bg inc x5=>?_
 have up:∀{b:Nat} {o o':O},H3[b]?=some o->H2[b]?=some o'->Nat.beq o.ctorIdx 2=false->H5[b]?=some o:=λe e2 n=>x5 _ _ (λm=>(aI.1 m).elim (dg e (w3.at_ 1 rfl) n) (nf e2)) e
 refine .expr (.bx (.var rfl) (w3.at_ 0 rfl) rfl rfl .bn j5) (Nz F bg fa (up (w3.at_ 5 rfl) (w2.at_ 2 rfl) rfl) (BE h (up (w3.at_ 4 rfl) (w2.at_ 1 rfl) rfl) ⟨ra3.1,λi b row e1 e2=>up (ra3.2 i b row e1 e2) (IK.2 i b row e1 e2) rfl⟩ rd tr) rd.1 (rd.Nu h tr)
  λM H6 r1 r2 RM FM e6 g6 gM fM a1 b1 a2 b2 lt=>q' λj=>q M H6 (.of fb ts d IA UA l) c ms rows r1 r2 N TL IX DL RL IL UL LB RM FM j e6 g6 gM fM ⟨nl,tr,rd,inc,F.12,F.26,a1,b1,a2,b2,lt⟩)
end
section
open Dg (pG Sb tab)
variable {H H':Hp} {u g LS:Nat} {G:aJ} {A:GA} {SA:List Nat} {S:List cQ} {R:Prop}
inductive ni (G:aJ) (S:List cQ) (m:Nat->Nat->Nat):Prop
 |mk (lt:∀(q:Nat) s r,S[q]?=some s->r∈s.red->m q r<32) (fol:∃F,Ew G S F∧∀p r q t p2 s,0<r->r<5->It S p (G.off r)->Walk S p (G.right r) q->Mv S p (G.left r) p2->S[q]?=some s->r∈s.red->F p (G.left r) t->(m q r).testBit t=true)
noncomputable def Ov (d:List (List Int×V)) (q r:Nat):Nat:=match d7 [(q:Int),(r:Int)] d with
 |some (.int v)=>v.toNat
 |_=>0
theorem EO {d:List (List Int×V)} {q r v:Nat} (h:d7 [(q:Int),(r:Int)] d=some (vI v)):Ov d q r=v:=by unfold Ov;rw[h];rfl
variable {t:xX} {c:Nat->List Nat} {ms:List Nat} {rows:List (List Nat)} {r1 r2:Nat->Nat}
theorem Hk.idx (l:Hk G S t c ms rows r1 r2) {p X y:Nat} (m:Mv S p X y) (z:5≤X):∃i:Nat,t.ts[i]?=some (p,X):=m.elim λs w=>
 aO (l.2.2 p s X w.1 (az.2 ⟨_,w.2,rfl⟩) z (.inl (ah.1 w.1).1))
theorem Hk.On (h:bM H u g G A LS SA S) (l:Hk G S t c ms rows r1 r2) {i p X y:Nat} (e:t.ts[i]?=some (p,X)) (m:Mv S p X y) {s:cQ} (es:S[y]?=some s):xV S t.ts t.fb y (jK (s.mv.map (·.1))) (ms.getD i 0) (rows.getD i []):=m.elim λs' w=>
 have z:=(ah.1 e).1
 l.3.3 i p X s' y s _ _ e (getD_at (l.3.1.symm▸z)) (getD_at (l.3.2.symm▸z)) w.1 w.2 es
theorem Hk.up (h:bM H u g G A LS SA S) (l:Hk G S t c ms rows r1 r2) {p A' i:Nat} (z5:5≤A') (e:t.ts[i]?=some (p,A')) {dk st cs:List Nat} (k:Up G S p A' dk st cs):
  ∀q lC,st=q::lC->∃j p' X,C3 (t.ts[j]?=some (p',X)) (Mv S p' X q) (Sb (r1 j) (r1 i)):=by
 induction k with
 |base m=>exact λq lC eq=>⟨i,p,A',e,(bA eq).1▸m,Sb.r⟩
 |push _ m n z ih=>
  exact λq' lC eq=>(ih _ _ rfl).elim λj w=>w.elim λp' w=>w.elim λX w=>(id m).elim λs v=>
   ((l.On h w.1 w.2 v.1).4 _ (dI.2 (az.2 ⟨_,v.2,rfl⟩)) z (l.1.nul n)).elim λj2 a=>⟨j2,_,_,a.1,(bA eq).1▸m,(l.8 j (ah.1 w.1).1 j2 a.2).trans w.3⟩
theorem Hk.ok (h:bM H u g G A LS SA S) (l:Hk G S t c ms rows r1 r2):ni G S (Ov (pd vI (jm (tab t.ts.length r2) c t.l))):=by
 have nd:((jm (tab t.ts.length r2) c t.l).map (·.1)).Nodup:=by rw[jm,bF];exact l.6.3
 have gt:∀q (s:cQ) r,S[q]?=some s->r∈s.red->∃b,((q,r),b)∈t.l∧Ov (pd vI (jm (tab t.ts.length r2) c t.l)) q r=tT (tab t.ts.length r2) (c b):=λq s r e m=>(aO m).elim λj hj=>
  (l.6.1 q s j r e hj (.inl (ah.1 e).1)).elim λb mb=>⟨b,mb,EO (vX (k:=(q,r)) nd (az.2 ⟨_,mb,rfl⟩))⟩
 refine⟨λq s r e m=>(gt q s r e m).elim λb w=>w.2▸ED (EN l.11),λp A' x=>∃i,t.ts[i]?=some (p,A')∧(r2 i).testBit x=true,⟨λp A' dk q lC cs x y z5 k u m zx=>?_,λp' r a A' b p x z0 z i e z5 n w mv hF=>?_⟩,λp r q x p2 s z0 z i w mv e m hF=>?_⟩
 ·exact u.Oh.elim λp1 m1=>(l.idx m1 z5).elim λi hi=>(l.up h z5 hi u q lC rfl).elim λj v=>v.elim λp' v=>v.elim λX v=>m.elim λs f=>
   ⟨i,hi,l.9 i (ah.1 hi).1 x (v.3 x (l.7 j (ah.1 v.1).1 x ((l.On h v.1 v.2 f.1).3 x (dI.2 (az.2 ⟨_,f.2,rfl⟩)) zx)))⟩
 ·have la:a.length≤(G.right r).length:=by rw[e,aq];exact bu _ _
  have ta:(G.right r).take a.length=a:=by rw[e,oA]
  have ea:(G.right r)[a.length]?=some A':=by rw[e];exact yR
  exact hF.elim λj f=>(Bt h.1 h.6 z i a.length la).elim λp3 v=>by
   have ep:p=p3:=tS h.6 w (ta▸v.1)
   exact(v.2.mv h.1 h.6 ((rt h.1 z la).trans ea)).elim λp4 m4=>(l.idx m4 z5).elim λy hy=>by
    have zy:=(ah.1 hy).1
    have mc:=(l.4 j (ah.1 f.1).1 p' (G.left r) f.1 r ((pS h.1.13).2 ⟨z,rfl⟩)).1 a.length A' p3 y _ ea z5 (by rw[e,tR];exact λZ hZ=>l.1.nul (n Z hZ).2) v.1 hy (getD_at (d:=0) (l.5.symm▸zy))
    exact⟨y,ep▸hy,l.10 y zy j mc x f.2⟩
 ·exact hF.elim λj f=>(gt q s r e m).elim λb v=>by
   rw[v.2,Bz]
   exact⟨j,(l.4 j (ah.1 f.1).1 p (G.left r) f.1 r ((pS h.1.13).2 ⟨z,rfl⟩)).2 q b w v.1,by rw[aE,Dg.ja (ah.1 f.1).1];exact f.2⟩
theorem KB (h:bM H u g G A LS SA S) {fs ws:List Nat} (f1:G1 G fs) (f2:J9 G fs ws):ni G S λ_ r=>ws.getD (G.left r) 0:=
 ⟨λ_ _ _ _ _=>jj f2.2,_,Hf h.1 h.6 f1 f2,λ_ _ _ _ _ _ _ _ _ _ _ _ _ hF=>hF⟩
theorem uu (h:bM H u g G A LS SA S) (q:∀M m d H',JR 12 [.ref u] H (.ref M) H'->H[M]?=none->Ext H H'->Fy H' M S m d->ni G S m->R):R:=by
 refine c7 12 [.ref u] H rfl rfl (L:=[some (.ref u)]) rfl λQ q'=>new_ (H:=H) (L:=[some (.ref u)]) (c:=6) (.av (.var (i:=0) rfl) .bn) rfl λla H1 fa ga ea nw=>
  v5 h fa ea ga λM H2 t c ms rows r1 r2 N TL IX DL RL IL UL LB RM FM j e2 hl gM fM P3=>.ret (.attr (nw j) hl rfl rfl) (q' λj=>q M _ _ H2 j fM e2 ⟨gM,λq s r e m=>?_⟩ (P3.ok h))
 refine(aO m).elim λj' hj=>(P3.6.1 q s j' r e hj (.inl (ah.1 e).1)).elim λb mb=>?_
 have:=vX (f:=vI) (l:=jm (tab t.ts.length r2) c t.l) (k:=(q,r)) (by rw[jm,bF];exact P3.6.3) (az.2 ⟨_,mb,rfl⟩)
 rw[EO this];exact this
end
section
variable {H:Hp} {g:Nat} {G:aJ} {A:GA} {R:Prop}
noncomputable def aJ.lvl (G:aJ) (r:Nat):Int:=(G.rules[r]?.map (·.lvl)).getD (-1)
noncomputable def aJ.uS (G:aJ) (k:Int):V:=(d7 k G.levels).getD .none
noncomputable def Ox:V->Option (Int×Nat)
 | .tup [.int a,.str b]=>some (a,b)
 |_=>none
noncomputable def NA (a b:Int) (s:Nat):V:=if b<a then .str 12 else if a<b then .str 13 else if s=0 then .str 12 else if s=1 then .str 13 else if s=2 then .str 14 else .none
noncomputable def yZ (own other:V):V:=match Ox own with
 |none=>.none
 |some p=>match Ox other with
  |none=>.none
  |some q=>NA p.1 q.1 q.2
theorem uY (o:G.Ok) (k:Int):G.uS k= .none∨∃a b:Nat,G.uS k= .tup [.int a,.str b]:=by
 unfold aJ.uS
 cases e:d7 k G.levels with
 |none=>exact .inl rfl
 |some v=>
  right
  rw[d7,aZ]at e
  obtain⟨p,hp,rfl⟩:=e
  have m:=dE hp
  obtain⟨a,b,e,_⟩:=o.10 p.1 p.2 m
  exact⟨a,b,e⟩
theorem BF (hG:b_ H g G A) {r t:Nat} (z:r<5):JR 17 [.ref g,.int r,.int t] H (yZ (G.uS (G.lvl r)) (G.uS t)) H:=by
 refine hG.at_ z λa x r1 r2 r3 r4 r5=>?_
 have el:G.lvl r=x.lvl:=by rw[aJ.lvl,r2];rfl
 rw[el]
 refine c7 17 [.ref g,.int r,.int t] H rfl rfl (L:=[some (.ref g),some (.int r),some (.int t),none,none]) rfl λQ q=>?_
 refine .set (v:=G.uS x.lvl) (.u7 (.attr (.var rfl) hG.1 rfl rfl) (.attr (.idx (.attr (.var rfl) hG.1 rfl rfl) (.var rfl) (.nat hG.2 (dy r1))) r3 rfl rfl) (.inl ⟨_,hG.10⟩) (.i hG.10)) (.set (v:=G.uS t) (.u7 (.attr (.var rfl) hG.1 rfl rfl) (.var rfl) (.inl ⟨_,hG.10⟩) (.i hG.10)) ?_)
 rcases uY hG.13 x.lvl with e1|⟨a1,b1,e1⟩
 ·rw[e1]at q ⊢
  exact .then (.xU (.ot (.bY (.var rfl) .lit .is_none))) (.ret .lit (q id))
 rcases uY hG.13 t with e2|⟨a2,b2,e2⟩
 ·rw[e1,e2]at q ⊢
  exact .then (.xU (.of (.bY (.var rfl) .lit (.is_tup _)) (.ot (.bY (.var rfl) .lit .is_none)))) (.ret .lit (q id))
 rw[e1,e2]at q ⊢
 refine .pass (.xU (.of (.bY (.var rfl) .lit (.is_tup _)) (.of (.bY (.var rfl) .lit (.is_tup _)) .wV))) ?_
 have i1:JE (.idx (.var 3) (.lit (.int 0))) [some (.ref g),some (.int r),some (.int t),some (.tup [.int a1,.str b1]),some (.tup [.int a2,.str b2])] H (.int a1) H:=.idx (.var rfl) .lit (.tup (ib _ rfl) rfl rfl)
 have i2:JE (.idx (.var 4) (.lit (.int 0))) [some (.ref g),some (.int r),some (.int t),some (.tup [.int a1,.str b1]),some (.tup [.int a2,.str b2])] H (.int a2) H:=.idx (.var rfl) .lit (.tup (ib _ rfl) rfl rfl)
 have i3:JE (.idx (.var 4) (.lit (.int 1))) [some (.ref g),some (.int r),some (.int t),some (.tup [.int a1,.str b1]),some (.tup [.int a2,.str b2])] H (.str b2) H:=.idx (.var rfl) .lit (.tup (ib _ rfl) rfl rfl)
 have T1:=JT.bY i1 i2 (.gt _ _)
 have T2:=JT.bY i1 i2 (.lt _ _)
 have T3:=λs=>JT.bY i3 (.lit (v:=.str s)) (.eq (.str b2 s))
 have sv:yZ (.tup [.int a1,.str b1]) (.tup [.int a2,.str b2])=if(a2:Int)<a1 then .str 12 else if(a1:Int)<a2 then .str 13 else if b2=0 then .str 12 else if b2=1 then .str 13 else if b2=2 then .str 14 else .none:=rfl
 rw[sv]at q
 by_cases c1:(a2:Int)<a1
 ·rw[decide_eq_true c1]at T1;rw[if_pos c1]at q
  exact .then T1 (.ret .lit (q id))
 rw[decide_eq_false c1]at T1;rw[if_neg c1]at q
 refine .pass T1 ?_
 by_cases c2:(a1:Int)<a2
 ·rw[decide_eq_true c2]at T2;rw[if_pos c2]at q
  exact .then T2 (.ret .lit (q id))
 rw[decide_eq_false c2]at T2;rw[if_neg c2]at q
 refine .pass T2 ?_
 by_cases c3:b2=0
 ·have:=T3 0;rw[beq_iff_eq.2 c3]at this;rw[if_pos c3]at q
  exact .then this (.ret .lit (q id))
 have t3:=T3 0;rw[beq_eq_false_iff_ne.2 c3]at t3;rw[if_neg c3]at q
 refine .pass t3 ?_
 by_cases c4:b2=1
 ·have:=T3 1;rw[beq_iff_eq.2 c4]at this;rw[if_pos c4]at q
  exact .then this (.ret .lit (q id))
 have t4:=T3 1;rw[beq_eq_false_iff_ne.2 c4]at t4;rw[if_neg c4]at q
 refine .pass t4 ?_
 by_cases c5:b2=2
 ·have:=T3 2;rw[beq_iff_eq.2 c5]at this;rw[if_pos c5]at q
  exact .then this (.ret .lit (q id))
 have t5:=T3 2;rw[beq_eq_false_iff_ne.2 c5]at t5;rw[if_neg c5]at q
 exact .pass t5 (.ret .lit (q id))
theorem y0 (a b:Int) (s:Nat) {x:V} (h:NA a b s=x):x= .none∨x= .str 12∨x= .str 13∨x= .str 14:=by
 subst h
 have A:∀{c:Prop} [Decidable c] {y z:V},(y= .none∨y= .str 12∨y= .str 13∨y= .str 14)->(z= .none∨z= .str 12∨z= .str 13∨z= .str 14)->((if c then y else z)= .none∨(if c then y else z)= .str 12∨(if c then y else z)= .str 13∨(if c then y else z)= .str 14):=λ{c} _ {y z} h k=>by
  by_cases w:c
  ·rw[if_pos w];exact h
  ·rw[if_neg w];exact k
 exact A (.inr (.inl rfl)) (A (.inr (.inr (.inl rfl))) (A (.inr (.inl rfl)) (A (.inr (.inr (.inl rfl))) (A (.inr (.inr (.inr rfl))) (.inl rfl)))))
theorem tZ (o w:V) {x:V} (h:yZ o w=x):x= .none∨x= .str 12∨x= .str 13∨x= .str 14:=by
 unfold yZ at h
 cases e:Ox o with
 |none=>rw[e]at h;exact .inl h.symm
 |some p=>
  rw[e]at h
  cases e2:Ox w with
  |none=>rw[e2]at h;exact .inl h.symm
  |some q=>rw[e2]at h;exact y0 _ _ _ h
structure jM where
 q:Nat
 t:Nat
 way:Nat
 rules:List Nat
 ch:Int
noncomputable def jM.told (c:jM):V:=.tup [.int c.q,.int c.t,.str c.way,.tup (vn c.rules),.int c.ch]
noncomputable def jM.o (c:jM):O:=.inst 9 [(78,.int c.q),(79,.int c.t),(80,.str c.way),(5,.tup (vn c.rules)),(81,.int c.ch)]
theorem lS {a:Nat} {H':Hp} (c:jM) (fa:H[a]?=none) (e:Ext H H') (ha:H'[a]?=some (.inst 9 []))
  (k:∀H2,JR 58 [.ref a,.int c.q,.int c.t,.str c.way,.tup (vn c.rules),.int c.ch] H' .none H2->Ext H H2->H2[a]?=some c.o->eE [a] H' H2->R):R:=by
 have w0:Ow H H' [(a,.inst 9 [])]:=Ow.new ⟨.r,nofun,.nil⟩ fa ha e
 refine c7 58 [.ref a,.int c.q,.int c.t,.str c.way,.tup (vn c.rules),.int c.ch] H' rfl rfl (L:=[some (.ref a),some (.int c.q),some (.int c.t),some (.str c.way),some (.tup (vn c.rules)),some (.int c.ch)]) rfl λQ q'=>?_
 refine .own (.var rfl) rfl w0 rfl rfl λH1 w1 x1=>.own (.var rfl) rfl w1 rfl rfl λH2 w2 x2=>.own (.var rfl) rfl w2 rfl rfl λH3 w3 x3=>.own (.var rfl) rfl w3 rfl rfl λH4 w4 x4=>.own (.var rfl) rfl w4 rfl rfl λH5 w5 x5=>.nil (q' λj=>k H5 j w5.1 (w5.at_ 0 rfl) (((x1.trans x2).trans (x3.trans x4)).trans x5))
end
section
open Dg (lO)
section
variable {H1 H:Hp} {l:List (Nat×O)} {b:Nat} {o p:O}
theorem Ow.fz (h:Ow H1 H l) (k:H1[b]?=some o) (p:O):Ow (H1.set b p) (H.set b p) l:=by
 have n:∀x∈l,x.1≠b:=λx m e=>by have:=(h.2 x m).1;rw[e,k]at this;cases this
 refine⟨λa q hq=>?_,λx m=>⟨?_,eJ (h.2 x m).2 (n x m)⟩,h.3⟩
 ·by_cases e:a=b
  ·subst e;rw[dh k]at hq;cases hq;exact dh (h.1 _ _ k)
  ·rw[a9 (dU e)]at hq ⊢;exact h.1 _ _ hq
 ·rw[a9 (dU (n x m))];exact(h.2 x m).1
theorem Ow.th (h:Ow (H1.set b p) H l) (k:H1[b]?=some o):Ow H1 (H.set b o) l:=by
 have hb:=h.1 b p (dh k)
 have n:∀x∈l,x.1≠b:=λx m e=>by have:=(h.2 x m).1;rw[e,dh k]at this;cases this
 refine⟨λa q hq=>?_,λx m=>⟨?_,eJ (h.2 x m).2 (n x m)⟩,h.3⟩
 ·by_cases e:a=b
  ·subst e;rw[k]at hq;cases hq;exact dh hb
  ·exact eJ (h.1 a q (eJ hq e)) e
 ·have:=(h.2 x m).1;rw[a9 (dU (n x m))]at this;exact this
end
theorem Hl {α:Type} {f:α->V} {ks:List (Nat×α)} {t:Nat}:xY (t:Int) (nd f ks)=nd f (ks.filter λp=>p.1 !=t):=by
 rw[xY,nd,nd,List.filter_map]
 congr 1
 apply List.filter_congr
 intro x _
 show decide ((x.1:Int)≠(t:Int))=(x.1 !=t)
 by_cases e:x.1=t
 ·rw[e];simp
 ·have:(x.1:Int)≠t:=λk=>e (a_.1 k)
  simp[e,this]
noncomputable def qC (l:List (Nat×Nat)):List (Nat×Int):=(l.filter λp=>p.1<5).map λp=>(p.1,if p.1=0 then 1048576 else(p.2:Int))
noncomputable def goN (l:List (Nat×Nat)):List (Nat×Nat):=l.filter λp=>5≤p.1
noncomputable def Ax (g q SH GO LK SE:Nat) (bar:Nat):O:=.inst 8 [(12,.ref g),(7,.int q),(75,.ref SH),(21,.ref GO),(76,.ref LK),(77,.int bar),(20,.ref SE)]
noncomputable def BG (p:Nat×Nat×Nat):Nat×O:=(p.1,lO [p.2.1,p.2.2])
noncomputable def cO (p:Nat×jM):Nat×O:=(p.1,p.2.o)
noncomputable def iQ {α:Type} (l:List (Nat×α)):O:=.list ((l.map (·.1)).map .ref)
noncomputable def oq (mk SH GO LK SE g q:Nat) (sh:List (Nat×Int)) (go:List (Nat×Nat)) (dX:List (Nat×Nat×Nat)) (bar:Nat) (ca:List (Nat×jM)):List (Nat×O):=
 [(mk,Ax g q SH GO LK SE bar),(SH,.bc (nd .int sh)),(GO,.bc (nd vI go)),(LK,iQ dX),(SE,iQ ca)]++(dX.map BG++ca.map cO)
variable {H H':Hp} {u g LS:Nat} {G:aJ} {A:GA} {SA:List Nat} {S:List cQ} {R:Prop}
theorem Hm {l:List (Nat×Nat)} {X p:Nat}:qC (l++[(X,p)])=if X<5 then qC l++[(X,if X=0 then 1048576 else(p:Int))]else qC l:=by
 rw[qC,cP]
 by_cases c:X<5
 ·have e:([(X,p)]:List (Nat×Nat)).filter (λp=>decide (p.1<5))=[(X,p)]:=by simp[c]
  rw[if_pos c,e,ay];rfl
 ·have e:([(X,p)]:List (Nat×Nat)).filter (λp=>decide (p.1<5))=[]:=by simp;omega
  rw[if_neg c,e,aN];rfl
theorem Hn {l:List (Nat×Nat)} {X p:Nat}:goN (l++[(X,p)])=if X<5 then goN l else goN l++[(X,p)]:=by
 rw[goN,cP]
 by_cases c:X<5
 ·have e:([(X,p)]:List (Nat×Nat)).filter (λp=>decide (5≤p.1))=[]:=by simp;omega
  rw[if_pos c,e,aN];rfl
 ·have e:([(X,p)]:List (Nat×Nat)).filter (λp=>decide (5≤p.1))=[(X,p)]:=by simp;omega
  rw[if_neg c,e];rfl
theorem Ho {l:List (Nat×Nat)} {X:Nat} (h:X∈(qC l).map (·.1)):X∈l.map (·.1):=by
 obtain⟨p,m,rfl⟩:=az.1 h
 obtain⟨q,m2,rfl⟩:=az.1 m
 exact az.2 ⟨q,(bz.1 m2).1,rfl⟩
theorem Hq {l:List (Nat×Nat)} {X:Nat} (h:X∈(goN l).map (·.1)):X∈l.map (·.1):=by
 obtain⟨p,m,rfl⟩:=az.1 h
 exact az.2 ⟨p,(bz.1 m).1,rfl⟩
theorem xB {H1:Hp} {mk SH GO q a ia ma ra:Nat} {x3 x5:Option V} {s:cQ} {fs:List (Nat×V)} {Q:Fl->Lc->Hp->Prop} {r:i6} (h:bM H u g G A LS SA S) (es:S[q]?=some s) (st:m_ H a q s ia ma ra)
  (gf1:qN 75 fs=some (.ref SH)) (gf2:qN 21 fs=some (.ref GO)) (ow:Ow H H1 [(mk,.inst 8 fs),(SH,.bc []),(GO,.bc [])])
  (k:∀x4 H2,Ow H H2 [(mk,.inst 8 fs),(SH,.bc (nd .int (qC s.mv))),(GO,.bc (nd vI (goN s.mv)))]->cB r [some (.ref mk),some (.ref g),some (.ref a),x3,x4,x5] H2 Q):
  cB (.cons (.for (.v 4) (.ex (.attr (.var 2) 34)) (.cons (.ite (.cmp .eq (.var 4) (.lit (.int 0))) (.cons (.bq (.attr (.var 0) 75) (.var 4) (.lit (.int 1048576))) .nil) (.cons (.ite (.cmp .lt (.var 4) (.attr (.var 1) 29)) (.cons (.bq (.attr (.var 0) 75) (.var 4) (.idx (.attr (.var 2) 34) (.var 4))) .nil) (.cons (.bq (.attr (.var 0) 21) (.var 4) (.idx (.attr (.var 2) 34) (.var 4))) .nil)) .nil)) .nil)) r)
   [some (.ref mk),some (.ref g),some (.ref a),x3,none,x5] H1 Q:=by
 have kl:=h.oj es
 have kd:=h.keys_nodup es
 have nm:∀{b:Nat} {o:O},H[b]?=some o->(∀d,o≠ .bc d)->∀{H2 l},Ow (H.set ma (.fi (nd vI s.mv))) H2 l->H2[b]?=some o:=λk n _ _ w=>w.1 _ _ (eJ k (rM k st.3 (n _)))
 have it:JI (.ex (.attr (.var 2) 34)) [some (.ref mk),some (.ref g),some (.ref a),x3,none,x5] H1 (vn (s.mv.map (·.1))) (.bc ma (nd vI s.mv)) H1:=by
  rw[iE,←oQ (f:=vI)]
  exact .pF (.attr (.var rfl) (ow.1 _ _ st.1) rfl rfl) (.bc (ow.1 _ _ st.3)) (kD (by rw[de,ae,ae,lw];omega))
 refine .jW (λ_ (t:Option V)=>[some (.ref mk),some (.ref g),some (.ref a),x3,t,x5]) (λn t H'=>Ow (H.set ma (.fi (nd vI s.mv))) H' [(mk,.inst 8 fs),(SH,.bc (nd .int (qC (s.mv.take n)))),(GO,.bc (nd vI (goN (s.mv.take n))))]) none it (ow.fz st.3 _) (λw=>w.1 _ _ (dh st.3)) ?_ ?_
 ·intro n X t H2 K hX w cg _
  obtain⟨⟨X',p⟩,hp,ex⟩:∃y,s.mv[n]?=some y∧y.1=X:=by
   rw[aH,aZ]at hX;exact hX
  have ex:X'=X:=ex
  subst ex
  have tk:s.mv.take (n+1)=s.mv.take n++[(X',p)]:=by rw[aW,hp];rfl
  dsimp only at cg;rw[tk,Hm,Hn]at cg
  have nX:X'∉(s.mv.take n).map (·.1):=by
   have:=gK kd hX;rw[←iu]at this;exact this
  have D:=dY.fi (k:=(X':Int)) (w.1 _ _ (dh st.3))
  rw[kW (am hp) kd]at D
  have mvx:JE (.idx (.attr (.var 2) 34) (.var 4)) [some (.ref mk),some (.ref g),some (.ref a),x3,some (.int X'),x5] H2 (.int p) H2:=.idx (.attr (.var rfl) (nm st.1 nofun w) rfl rfl) (.var rfl) (.dict D)
  have l1:(nd V.int (qC (s.mv.take n))).length<SZ:=by
   have:=a7 (λp:Nat×Nat=>decide (p.1<5)) (s.mv.take n)
   have:=bJ n s.mv
   rw[lw,qC,ae];exact ri (by omega)
  have l2:(nd vI (goN (s.mv.take n))).length<SZ:=by
   have:=a7 (λp:Nat×Nat=>decide (5≤p.1)) (s.mv.take n)
   have:=bJ n s.mv
   rw[lw,goN];exact ri (by omega)
  have o1:∀v:Int,Ow (H.set ma (.fi (nd vI s.mv))) (H2.set SH (.bc (dput (X':Int) (.int v) (nd V.int (qC (s.mv.take n)))))) [(mk,.inst 8 fs),(SH,.bc (nd .int (qC (s.mv.take n)++[(X',v)]))),(GO,.bc (nd vI (goN (s.mv.take n))))]:=λv=>by
   rw[oP (f:=V.int) (λm=>nX (Ho m)) v]
   exact w.set [(mk,.inst 8 fs)] _
  have T0:=JT.bY (H:=H2) (L:=[some (.ref mk),some (.ref g),some (.ref a),x3,some (.int X'),x5]) (.var (i:=4) rfl) .lit (.eq (.int (X':Int) 0))
  by_cases c0:X'=0
  ·have T:((X':Int)==0)=true:=by rw[c0];rfl
   rw[T]at T0
   rw[if_pos (show X'<5 by omega),if_pos (show X'<5 by omega),if_pos c0]at cg
   exact .then T0 (.bq .lit (.attr (.var rfl) (w.at_ 0 rfl) rfl gf1) (.var rfl) (.bc (w.at_ 1 rfl) l1) (.nil (.nil (cg (some (.int X')) rfl (o1 1048576)))))
  ·have T:((X':Int)==0)=false:=beq_eq_false_iff_ne.2 λk=>c0 (a_.1 k)
   rw[T]at T0
   refine .else T0 ?_
   have T1:=JT.bY (H:=H2) (L:=[some (.ref mk),some (.ref g),some (.ref a),x3,some (.int X'),x5]) (.var (i:=4) rfl) (.attr (f:=29) (.var (i:=1) rfl) (nm h.1.1 nofun w) rfl rfl) (.lt (X':Int) 5)
   by_cases c5:X'<5
   ·rw[decide_eq_true (show(X':Int)<5 by omega)]at T1
    rw[if_pos c5,if_pos c5,if_neg c0]at cg
    exact .then T1 (.bq mvx (.attr (.var rfl) (w.at_ 0 rfl) rfl gf1) (.var rfl) (.bc (w.at_ 1 rfl) l1) (.nil (.nil (.nil (cg (some (.int X')) rfl (o1 p))))))
   ·rw[decide_eq_false (show ¬(X':Int)<5 by omega)]at T1
    rw[if_neg c5,if_neg c5]at cg
    refine .else T1 (.bq mvx (.attr (.var rfl) (w.at_ 0 rfl) rfl gf2) (.var rfl) (.bc (w.at_ 2 rfl) l2) (.nil (.nil (.nil (cg (some (.int X')) rfl ?_)))))
    rw[show dput (X':Int) (V.int p) (nd vI (goN (s.mv.take n)))=nd vI (goN (s.mv.take n)++[(X',p)]) from oP (f:=vI) (λm=>nX (Hq m)) p]
    exact w.set [(mk,.inst 8 fs),(SH,.bc (nd .int (qC (s.mv.take n))))] _
 ·intro t H2 w
  rw[ae,aR]at w
  exact k t _ (w.th st.3)
end
section
open Dg (lO)
variable {H H':Hp} {u g LS:Nat} {G:aJ} {A:GA} {SA:List Nat} {S:List cQ} {R:Prop}
theorem oT {α:Type} {l:List (Nat×α)} {b:Nat} {x:α}:O.list ((l.map (·.1)).map .ref++[.ref b])=iQ (l++[(b,x)]):=by rw[iQ,ay,ay];rfl
theorem uv {mk q a M:Nat} {s:cQ} {m:Nat->Nat->Nat} {d:List (List Int×V)} (h:bM H u g G A LS SA S) (ms:Fy H M S m d) (es:S[q]?=some s) (ea:SA[q]?=some a) (fm:H[mk]?=none) (e:Ext H H') (hm:H'[mk]?=some (.inst 8 []))
  (k:∀SH GO LK SE dX H2,JR 57 [.ref mk,.ref g,.ref a,.ref M] H' .none H2->Ow H H2 (oq mk SH GO LK SE g q (qC s.mv) (goN s.mv) dX 0 [])->dX.map (·.2)=s.red.map (λr=>(r,m q r))->R):R:=by
 refine h.get es λa' ia ma ra ea' st=>?_
 cases ea.symm.trans ea'
 have w0:Ow H H' [(mk,.inst 8 [])]:=Ow.new ⟨.r,nofun,.nil⟩ fm hm e
 refine c7 57 [.ref mk,.ref g,.ref a,.ref M] H' rfl rfl (L:=[some (.ref mk),some (.ref g),some (.ref a),some (.ref M),none,none]) rfl λQ q'=>?_
 refine .own (.var rfl) rfl w0 rfl rfl λH1 w1 _=>.own (.attr (.var rfl) (w1.1 _ _ st.1) rfl rfl) rfl w1 rfl rfl λH2 w2 _=>?_
 refine lQ (n:=0) (H:=H2) (L:=[some (.ref mk),some (.ref g),some (.ref a),some (.ref M),none,none]) λSH H3 j3 f3 g3 e3=>.own j3 rfl (Ow.ins [(mk,.inst 8 [(12,.ref g),(7,.int q)])] (B:=[]) (o:=.bc []) w2 f3 g3 e3) rfl rfl λH4 w4 _=>?_
 refine lQ (n:=0) (H:=H4) (L:=[some (.ref mk),some (.ref g),some (.ref a),some (.ref M),none,none]) λGO H5 j5 f5 g5 e5=>.own j5 rfl (Ow.ins [(mk,.inst 8 [(12,.ref g),(7,.int q),(75,.ref SH)]),(SH,.bc [])] (B:=[]) (o:=.bc []) w4 f5 g5 e5) rfl rfl λH6 w6 _=>?_
 refine xB (x3:=some (.ref M)) (x5:=none) h es st rfl rfl w6 λx4 H7 w7=>?_
 refine hN λLK H8 j8 f8 g8 e8=>.own j8 rfl (Ow.ins [(mk,.inst 8 [(12,.ref g),(7,.int q),(75,.ref SH),(21,.ref GO)]),(SH,.bc (nd .int (qC s.mv))),(GO,.bc (nd vI (goN s.mv)))] (B:=[]) (o:=.list []) w7 f8 g8 e8) rfl rfl λH9 w9 _=>?_
 have rl:=h.qx es
 refine .jW (λ_ (t:List (Nat×Nat×Nat)×Option V)=>[some (.ref mk),some (.ref g),some (.ref a),some (.ref M),x4,t.2])
  (λn t H'=>Ow H H' ([(mk,.inst 8 [(12,.ref g),(7,.int q),(75,.ref SH),(21,.ref GO),(76,.ref LK)]),(SH,.bc (nd .int (qC s.mv))),(GO,.bc (nd vI (goN s.mv))),(LK,iQ t.1)]++t.1.map BG)∧t.1.map (·.2)=(s.red.take n).map λr=>(r,m q r)) ([],none)
  (.dT (.attr (.var rfl) (w9.1 _ _ st.1) rfl rfl) (w9.1 _ _ st.4) (by rw[aX];omega)) ⟨w9,rfl⟩ (λw=>w.1.1 _ _ st.4) ?_ ?_
 ·intro n r t Ay K hr w cg _
  obtain⟨dX,x5⟩:=t
  obtain⟨w,el⟩:=w
  have w:Ow H Ay ([(mk,.inst 8 [(12,.ref g),(7,.int q),(75,.ref SH),(21,.ref GO),(76,.ref LK)]),(SH,.bc (nd .int (qC s.mv))),(GO,.bc (nd vI (goN s.mv))),(LK,iQ dX)]++dX.map BG):=w
  have el:dX.map (·.2)=(s.red.take n).map λr=>(r,m q r):=el
  have D:=dY.t (k:=[(q:Int),(r:Int)]) (w.1 _ _ ms.1)
  rw[ms.2 q s r es (am hr)]at D
  refine jJ (L:=[some (.ref mk),some (.ref g),some (.ref a),some (.ref M),x4,some (.int r)]) (vs:=[.int r,.int (m q r)]) (.av (.var (i:=5) rfl) (.av (.qO (.var (i:=3) rfl) (.tup (.av (.attr (f:=7) (.var (i:=2) rfl) (w.1 _ _ st.1) rfl rfl) (.av (.var (i:=5) rfl) .bn)) (ib _ rfl)) (.lit (v:=.int 0)) (.inr ⟨_,w.1 _ _ ms.1⟩) D) .bn)) (ib _ rfl) λb KC P4 f11 Oy NB=>?_
  have ll:dX.length≤5:=by
   have:=congrArg List.length el
   rw[ae,ae]at this;rw[this];exact aj (bJ _ _) rl
  have gL:=w.at_ 3 rfl
  refine .expr (.append (.attr (.var rfl) (w.at_ 0 rfl) rfl rfl) P4 ⟨_,gL⟩ (NB _ _ gL) (by rw[ae,ae];exact ri (by omega))) (.nil (cg (dX++[(b,r,m q r)],some (.int r)) rfl ⟨?_,?_⟩))
  ·rw[oT (x:=(r,m q r)),ay,←bN]
   have o1:=Ow.ins ([(mk,.inst 8 [(12,.ref g),(7,.int q),(75,.ref SH),(21,.ref GO),(76,.ref LK)]),(SH,.bc (nd .int (qC s.mv))),(GO,.bc (nd vI (goN s.mv))),(LK,iQ dX)]++dX.map BG) (B:=[]) (o:=lO [r,m q r]) (by rw[aN];exact w) f11 Oy NB
   exact Ow.set [(mk,.inst 8 [(12,.ref g),(7,.int q),(75,.ref SH),(21,.ref GO),(76,.ref LK)]),(SH,.bc (nd .int (qC s.mv))),(GO,.bc (nd vI (goN s.mv)))] (B:=dX.map BG++[(b,lO [r,m q r])]) o1 _
  ·rw[aW,hr,ay,ay,el];rfl
 ·intro t Ay w
  obtain⟨w,el⟩:=w
  rw[aR]at el
  refine .own .lit rfl w rfl rfl λKC IZ _=>hN λSE H12 j f gg ee=>.own j rfl (Ow.ins [(mk,.inst 8 [(12,.ref g),(7,.int q),(75,.ref SH),(21,.ref GO),(76,.ref LK),(77,.int 0)]),(SH,.bc (nd .int (qC s.mv))),(GO,.bc (nd vI (goN s.mv))),(LK,iQ t.1)] (B:=t.1.map BG) (o:=.list []) IZ f gg ee) rfl rfl λP5 P6 _=>.nil (q' λj=>k SH GO LK SE t.1 P5 j ?_ el)
  rw[oq,hB,aN];exact P6
structure RS where
 sh:List (Nat×Int)
 bar:Nat
 cf:List jM
noncomputable def Oz (sh:List (Nat×Int)) (t:Nat):Int:=((sh.find? λp=>p.1==t).map (·.2)).getD 0
noncomputable def so (w q rule t:Nat) (r:RS×Nat):RS×Nat:=
 (⟨if w=13 then r.1.sh else r.1.sh.filter λp=>p.1 !=t,if w=14 then r.1.bar|||1<<<t else r.1.bar,r.1.cf++[⟨q,t,17,[rule],if w=14 then -1048576 else if w=12 then -(rule:Int)else Oz r.1.sh t⟩]⟩,
  if w=12 then r.2 else r.2-(r.2&&& 1<<<t))
theorem KD {sh:List (Nat×Int)} {t:Nat} {v:Int} (n:(sh.map (·.1)).Nodup) (h:(t,v)∈sh):Oz sh t=v:=by
 unfold Oz
 cases e:sh.find? λp=>p.1==t with
 |none=>have:=dS.1 e _ h;simp at this
 |some p=>
  have k:=jF e
  have:=iN (f:=(·.1)) n (dE e) h (beq_iff_eq.1 k)
  rw[this];rfl
end
section
open Dg (lO)
variable {H0 H:Hp} {mk SH GO LK SE g q b rule m t w bar:Nat} {sh:List (Nat×Int)} {go:List (Nat×Nat)} {l1 l2:List (Nat×Nat×Nat)} {ca:List (Nat×jM)} {ch:Int} {Q:Fl->Lc->Hp->Prop} {r:i6}
noncomputable def B9 (mk b t w:Nat) (ch:Int):Lc:=[some (.ref mk),some (.ref b),some (.int t),some (.str w),some (.int ch)]
theorem Az {p p':Nat×Nat×Nat} (h:p'.1=p.1):iQ (l1++p'::l2)=iQ (l1++p::l2):=by
 simp only[iQ,ay,bQ,h]
theorem rB {p:Nat×Nat×Nat}:oq mk SH GO LK SE g q sh go (l1++p::l2) bar ca=([(mk,Ax g q SH GO LK SE bar),(SH,.bc (nd .int sh)),(GO,.bc (nd vI go)),(LK,iQ (l1++p::l2)),(SE,iQ ca)]++l1.map BG)++BG p::(l2.map BG++ca.map cO):=by
 rw[oq,ay,bQ,bN,bN];rfl
theorem qD {p:Nat×Nat×Nat} (ow:Ow H0 H (oq mk SH GO LK SE g q sh go (l1++p::l2) bar ca)):H[p.1]?=some (lO [p.2.1,p.2.2]):=by
 rw[rB]at ow
 exact(ow.2 _ (aB _ (aP ..))).2
theorem eE.sub {T T':List Nat} {H H':Hp} (x:eE T H H') (h:∀a∈T,a∈T'):eE T' H H':=λa o n k=>x a o (λm=>n (h a m)) k
theorem Hr (ow:Ow H0 H (oq mk SH GO LK SE g q sh go (l1++(b,rule,m)::l2) bar ca)) (t8:t<8)
  (k:∀H',Ow H0 H' (oq mk SH GO LK SE g q sh go (l1++(b,rule,if w=12 then m else m-(m&&& 1<<<t))::l2) bar ca)->eE [mk,SH,SE,b] H H'->cB r (B9 mk b t w ch) H' Q):
  cB (.cons (.ite (.cmp .ne (.var 3) (.lit (.str 12))) (.cons (.bq (.var 1) (.lit (.int 1)) (.bin .band (.idx (.var 1) (.lit (.int 1))) (.inv (.bin .shl (.lit (.int 1)) (.var 2))))) .nil) .nil) r) (B9 mk b t w ch) H Q:=by
 have T:=JT.bY (H:=H) (L:=B9 mk b t w ch) (.var (i:=3) rfl) (.lit (v:=.str 12)) (.ne (.str w 12))
 by_cases c:w=12
 ·rw[beq_iff_eq.2 c]at T;rw[if_pos c]at k
  exact .pass T (k H ow .r)
 ·rw[beq_eq_false_iff_ne.2 c]at T;rw[if_neg c]at k
  have gb:H[b]?=some (lO [rule,m]):=qD ow
  rw[rB]at ow
  refine .then T (.bq (.bin (.idx (.var rfl) .lit (.nat (k:=1) gb rfl)) (.inv (.bin .lit (.var rfl) (.shl 1 t _ (by decide) (bK t8 (by decide))))) (.LX m (1<<<t) _)) (.var rfl) .lit (.list (k:=1) gb rfl) (.nil (k _ ?_ (eE.r.set (by simp)))))
  have:=ow.set _ (lO [rule,m-(m&&& 1<<<t)])
  rw[rB,Az (l1:=l1) (l2:=l2) (p:=(b,rule,m)) (p':=(b,rule,m-(m&&& 1<<<t))) rfl];exact this
theorem KE {dX:List (Nat×Nat×Nat)} {v:Int} (ow:Ow H0 H (oq mk SH GO LK SE g q sh go dX bar ca)) (n:(sh.map (·.1)).Nodup) (hv:(t,v)∈sh) (sl:sh.length≤8)
  (k:∀H',Ow H0 H' (oq mk SH GO LK SE g q (if w=13 then sh else sh.filter λp=>p.1 !=t) go dX bar ca)->eE [mk,SH,SE,b] H H'->cB r (B9 mk b t w ch) H' Q):
  cB (.cons (.ite (.cmp .ne (.var 3) (.lit (.str 13))) (.cons (.expr (.u8 (.attr (.var 0) 75) (.var 2))) .nil) .nil) r) (B9 mk b t w ch) H Q:=by
 have T:=JT.bY (H:=H) (L:=B9 mk b t w ch) (.var (i:=3) rfl) (.lit (v:=.str 13)) (.ne (.str w 13))
 by_cases c:w=13
 ·rw[beq_iff_eq.2 c]at T;rw[if_pos c]at k
  exact .pass T (k H ow .r)
 ·rw[beq_eq_false_iff_ne.2 c]at T;rw[if_neg c]at k
  have gS:=ow.at_ 1 rfl
  refine .then T (.expr (.u8 (.attr (.var rfl) (ow.at_ 0 rfl) rfl rfl) (.var rfl) (.inl ⟨_,gS⟩) gS (by rw[lw];exact kD (by omega)) (kW hv n)) (.nil (k _ ?_ (eE.r.set (by simp)))))
  rw[Hl]
  exact Ow.set [(mk,Ax g q SH GO LK SE bar)] ow _
theorem KF {dX:List (Nat×Nat×Nat)} (ow:Ow H0 H (oq mk SH GO LK SE g q sh go dX bar ca)) (t8:t<8)
  (k:∀H',Ow H0 H' (oq mk SH GO LK SE g q sh go dX (if w=14 then bar|||1<<<t else bar) ca)->eE [mk,SH,SE,b] H H'->cB r (B9 mk b t w (if w=14 then -1048576 else ch)) H' Q):
  cB (.cons (.ite (.cmp .eq (.var 3) (.lit (.str 14))) (.cons (.set (.v 4) (.lit (.int (-1048576)))) (.cons (.setattr (.var 0) 77 (.bin .bor (.attr (.var 0) 77) (.bin .shl (.lit (.int 1)) (.var 2)))) .nil)) .nil) r) (B9 mk b t w ch) H Q:=by
 have T:=JT.bY (H:=H) (L:=B9 mk b t w ch) (.var (i:=3) rfl) (.lit (v:=.str 14)) (.eq (.str w 14))
 by_cases c:w=14
 ·rw[beq_iff_eq.2 c]at T;rw[if_pos c,if_pos c]at k
  exact .then T (.set .lit (.own (.bin (.attr (.var rfl) (ow.at_ 0 rfl) rfl rfl) (.bin .lit (.var rfl) (.shl 1 t _ (by decide) (bK t8 (by decide)))) (.bor _ _ _)) rfl ow rfl rfl λH2 w2 x2=>.nil (k H2 w2 (x2.sub (by simp)))))
 ·rw[beq_eq_false_iff_ne.2 c]at T;rw[if_neg c,if_neg c]at k
  exact .pass T (k H ow .r)
theorem uw {v:Int} {R:Prop} (ow:Ow H0 H (oq mk SH GO LK SE g q sh go (l1++(b,rule,m)::l2) bar ca)) (n:(sh.map (·.1)).Nodup) (hv:(t,v)∈sh) (t8:t<8) (sl:sh.length≤8) (cl:ca.length<1000)
  (k:∀a c H',JR 59 [.ref mk,.ref b,.int t,.str w] H .none H'->(so w q rule t (⟨sh,bar,ca.map (·.2)⟩,m)).1.cf=ca.map (·.2)++[c]->Ow H0 H' (oq mk SH GO LK SE g q (so w q rule t (⟨sh,bar,ca.map (·.2)⟩,m)).1.sh go (l1++(b,rule,(so w q rule t (⟨sh,bar,ca.map (·.2)⟩,m)).2)::l2) (so w q rule t (⟨sh,bar,ca.map (·.2)⟩,m)).1.bar (ca++[(a,c)]))->eE [mk,SH,SE,b] H H'->R):R:=by
 refine c7 59 [.ref mk,.ref b,.int t,.str w] H rfl rfl (L:=[some (.ref mk),some (.ref b),some (.int t),some (.str w),none]) rfl λQ q'=>?_
 have D:=dY.i (k:=(t:Int)) (ow.at_ 1 rfl)
 rw[kW hv n]at D
 refine .set (.idx (.attr (.var rfl) (ow.at_ 0 rfl) rfl rfl) (.var rfl) (.dict D)) ?_
 have gb:H[b]?=some (lO [rule,m]):=qD ow
 have T:=JT.bY (H:=H) (L:=B9 mk b t w v) (.var (i:=3) rfl) (.lit (v:=.str 12)) (.eq (.str w 12))
 have tail:cB (.cons (.ite (.cmp .eq (.var 3) (.lit (.str 14))) (.cons (.set (.v 4) (.lit (.int (-1048576)))) (.cons (.setattr (.var 0) 77 (.bin .bor (.attr (.var 0) 77) (.bin .shl (.lit (.int 1)) (.var 2)))) .nil)) .nil) (.cons (.ite (.cmp .ne (.var 3) (.lit (.str 12))) (.cons (.bq (.var 1) (.lit (.int 1)) (.bin .band (.idx (.var 1) (.lit (.int 1))) (.inv (.bin .shl (.lit (.int 1)) (.var 2))))) .nil) .nil) (.cons (.ite (.cmp .ne (.var 3) (.lit (.str 13))) (.cons (.expr (.u8 (.attr (.var 0) 75) (.var 2))) .nil) .nil) (.cons (.expr (.append (.attr (.var 0) 20) (.new 9 (.cons (.attr (.var 0) 7) (.cons (.var 2) (.cons (.lit (.str 17)) (.cons (.tup (.cons (.idx (.var 1) (.lit (.int 0))) .nil)) (.cons (.var 4) .nil)))))))) .nil))))
   (B9 mk b t w (if w=12 then -(rule:Int)else v)) H Q:=by
  refine KF ow t8 λH1 w1 x1=>Hr w1 t8 λH2 w2 x2=>KE w2 n hv sl λH3 w3 x3=>?_
  have Lq:=qD w3
  have gE:=w3.at_ 4 rfl
  refine new_ (H:=H3) (L:=B9 mk b t w (if w=14 then -1048576 else if w=12 then -(rule:Int)else v)) (c:=9) (l:=.cons (.attr (.var 0) 7) (.cons (.var 2) (.cons (.lit (.str 17)) (.cons (.tup (.cons (.idx (.var 1) (.lit (.int 0))) .nil)) (.cons (.var 4) .nil)))))
   (.av (.attr (.var rfl) (w3.at_ 0 rfl) rfl rfl) (.av (.var rfl) (.av .lit (.av (.tup (.av (.idx (.var rfl) .lit (.nat (k:=0) Lq rfl)) .bn) (ib _ rfl)) (.av (.var rfl) .bn))))) rfl λa H4 fa ga ea nw=>?_
  refine lS ⟨q,t,17,[rule],if w=14 then -1048576 else if w=12 then -(rule:Int)else v⟩ fa ea ga λH5 j5 e5 g5 _=>.expr (.append (.attr (.var rfl) (w3.at_ 0 rfl) rfl rfl) (nw j5) ⟨_,gE⟩ (e5 _ _ gE) (by rw[ae,ae];exact ri (by omega))) (.nil (q' λj=>k a ⟨q,t,17,[rule],if w=14 then -1048576 else if w=12 then -(rule:Int)else v⟩ _ j ?_ ?_ ((((x1.trans x2).trans x3).trans (.of e5)).set (by simp))))
  ·show _++[_]=_;rw[show Oz sh t=v from KD n hv]
  ·rw[oT (x:=(⟨q,t,17,[rule],if w=14 then -1048576 else if w=12 then -(rule:Int)else v⟩:jM))]
   have o1:=Ow.ins (oq mk SH GO LK SE g q (if w=13 then sh else sh.filter λp=>p.1 !=t) go (l1++(b,rule,if w=12 then m else m-(m&&& 1<<<t))::l2) (if w=14 then bar|||1<<<t else bar) ca) (B:=[]) (by rw[aN];exact w3) fa g5 e5
   have o2:=Ow.set [_,_,_,_] (B:=((l1++(b,rule,if w=12 then m else m-(m&&& 1<<<t))::l2).map BG++ca.map cO)++[(a,jM.o ⟨q,t,17,[rule],if w=14 then -1048576 else if w=12 then -(rule:Int)else v⟩)]) o1 (iQ (ca++[(a,(⟨q,t,17,[rule],if w=14 then -1048576 else if w=12 then -(rule:Int)else v⟩:jM))]))
   rw[oq,ay (f:=cO),←bN (as:=List.map BG _)];exact o2
 by_cases c:w=12
 ·rw[beq_iff_eq.2 c]at T;rw[if_pos c]at tail
  exact .then T (.set (.neg (.idx (.var rfl) .lit (.nat (k:=0) gb rfl))) (.nil tail))
 ·rw[beq_eq_false_iff_ne.2 c]at T;rw[if_neg c]at tail
  exact .pass T tail
end
section
open Dg (lO)
noncomputable def strOf:V->Option Nat
 | .str w=>some w
 |_=>none
noncomputable def Ht (G:aJ) (q rule:Nat) (r:RS×Nat) (t:Nat):RS×Nat:=
 if t∈r.1.sh.map (·.1)then(match strOf (yZ (G.uS (G.lvl rule)) (G.uS t))with
  |some w=>so w q rule t r
  |none=>r)else r
noncomputable def wf (G:aJ) (q:Nat) (r:RS) (p:Nat×Nat):RS×Nat:=(dx p.2).foldl (Ht G q p.1) (r,p.2)
noncomputable def ux (G:aJ) (q:Nat):RS->List (Nat×Nat)->RS×List (Nat×Nat)
 |r,[]=>(r,[])
 |r,p::l=>((ux G q (wf G q r p).1 l).1,(p.1,(wf G q r p).2)::(ux G q (wf G q r p).1 l).2)
variable {H0 H:Hp} {G:aJ} {A:GA} {mk SH GO LK SE g q b rule m t w bar:Nat} {sh:List (Nat×Int)} {go:List (Nat×Nat)} {l1 l2:List (Nat×Nat×Nat)} {ca:List (Nat×jM)} {Q:Fl->Lc->Hp->Prop} {r:i6}
theorem NC {r:RS×Nat} (n:(r.1.sh.map (·.1)).Nodup):((so w q rule t r).1.sh.map (·.1)).Nodup∧(so w q rule t r).1.sh.length≤r.1.sh.length:=by
 show((if w=13 then r.1.sh else r.1.sh.filter λp=>p.1 !=t).map (·.1)).Nodup∧(if w=13 then r.1.sh else r.1.sh.filter λp=>p.1 !=t).length≤_
 split
 ·exact⟨n,aC _⟩
 ·exact⟨n.sublist (jQ.map _),a7 _ _⟩
inductive I2 (r:RS) (k:Nat):Prop
 |mk (nd:(r.sh.map (·.1)).Nodup) (sl:r.sh.length≤8) (cl:r.cf.length≤k)
theorem BH {x3:Option V} {rs:RS} {k0:Nat} (hG:b_ H0 g G A) (ow:Ow H0 H (oq mk SH GO LK SE g q rs.sh go (l1++(b,rule,m)::l2) rs.bar ca)) (ec:ca.map (·.2)=rs.cf) (rk:I2 rs k0) (kz:k0≤900) (r5:rule<5) (m5:m<32) {x2:Option V}
  (k:∀x2 x3 AA H',Ow H0 H' (oq mk SH GO LK SE g q (wf G q rs (rule,m)).1.sh go (l1++(b,rule,(wf G q rs (rule,m)).2)::l2) (wf G q rs (rule,m)).1.bar AA)->AA.map (·.2)=(wf G q rs (rule,m)).1.cf->I2 (wf G q rs (rule,m)).1 (k0+5)->cB r [some (.ref mk),some (.ref b),x2,x3] H' Q):
  cB (.cons (.for (.v 2) (.ex (.call 0 (.cons (.idx (.var 1) (.lit (.int 1))) .nil))) (.cons (.set (.v 3) (.lit .none)) (.cons (.ite (.cmp .isin (.var 2) (.attr (.var 0) 75)) (.cons (.set (.v 3) (.call 17 (.cons (.attr (.var 0) 12) (.cons (.idx (.var 1) (.lit (.int 0))) (.cons (.var 2) .nil))))) .nil) .nil) (.cons (.ite (.cmp .xZ (.var 3) (.lit .none)) (.cons (.expr (.bx (.var 0) 82 59 (.cons (.var 1) (.cons (.var 2) (.cons (.var 3) .nil))))) .nil) .nil) .nil)))) r)
   [some (.ref mk),some (.ref b),x2,x3] H Q:=by
 have bl:(dx m).length≤5:=by
  have:(dx m).length≤(List.range 5).length:=br ((eV).filter _) λi hi=>by
   rw[bp]
   have:=dZ (eK.1 hi)
   exact md λk=>absurd (aA this m5) (bE.2 (jw (n:=2) (by decide) k))
  rwa[aT]at this
 have gb:=qD ow
 refine vK (H:=H) (m:=m) (bK m5 (by decide)) λB H2 j fB gB eB=>?_
 have nB:B∉[mk,SH,SE,b]:=λk=>by
  simp only[aI,aQ,or_false]at k
  rcases k with e|e|e|e
  ·rw[e,ow.at_ 0 rfl]at fB;cases fB
  ·rw[e,ow.at_ 1 rfl]at fB;cases fB
  ·rw[e,ow.at_ 4 rfl]at fB;cases fB
  ·rw[e,gb]at fB;cases fB
 refine .jW (λ_ (s:RS×Nat×List (Nat×jM)×Option V×Option V)=>[some (.ref mk),some (.ref b),s.2.2.2.1,s.2.2.2.2])
  (λn s H'=>Ow H0 H' (oq mk SH GO LK SE g q s.1.sh go (l1++(b,rule,s.2.1)::l2) s.1.bar s.2.2.1)∧H'[B]?=some (.list (vn (dx m)))∧s.2.2.1.map (·.2)=s.1.cf∧I2 s.1 (k0+n)∧(s.1,s.2.1)=((dx m).take n).foldl (Ht G q rule) (rs,m)) (rs,m,ca,x2,x3)
  (.dT (.call (.av (.idx (.var rfl) .lit (.nat (k:=1) gb rfl)) .bn) j) gB (by rw[aX];omega)) ⟨ow.ext eB,gB,ec,rk,rfl⟩ (λh=>h.2.1) ?_ ?_
 ·intro n t s H3 K ht h3 cg _
  obtain⟨sD,m',AA,y2,y3⟩:=s
  obtain⟨ow,P7,ec,rk,ef⟩:=h3
  have ow:Ow H0 H3 (oq mk SH GO LK SE g q sD.sh go (l1++(b,rule,m')::l2) sD.bar AA):=ow
  have ec:AA.map (·.2)=sD.cf:=ec
  have rk:I2 sD (k0+n):=rk
  have ef:(sD,m')=((dx m).take n).foldl (Ht G q rule) (rs,m):=ef
  have nl:=(ah.1 ht).1
  have t5:t<8:=vP (bK m5 (by decide)) (am ht)
  dsimp only at cg;rw[iG _ _ ht,←ef]at cg
  have step:∀KG m2 KH H4 x3,Ow H0 H4 (oq mk SH GO LK SE g q KG.sh go (l1++(b,rule,m2)::l2) KG.bar KH)->H4[B]?=some (.list (vn (dx m)))->KH.map (·.2)=KG.cf->I2 KG (k0+n+1)->Ht G q rule (sD,m') t=(KG,m2)->K .next [some (.ref mk),some (.ref b),some (.int t),x3] H4:=
   λKG m2 KH H4 x3 a1 a2 a3 a4 a5=>cg (KG,m2,KH,some (.int t),x3) rfl ⟨a1,a2,a3,a4,a5.symm⟩
  refine .set .lit ?_
  have Lq:=qD ow
  have D:=zJ.dict (dY.i (k:=(t:Int)) (ow.at_ 1 rfl))
  by_cases c:t∈sD.sh.map (·.1)
  ·obtain⟨v,mv,gd⟩:=i_ (f:=V.int) c rk.1
   rw[gd]at D
   refine .then (.bY (.var rfl) (.attr (.var rfl) (ow.at_ 0 rfl) rfl rfl) (.isin D)) (.set (.call (.av (.attr (.var rfl) (ow.at_ 0 rfl) rfl rfl) (.av (.idx (.var rfl) .lit (.nat (k:=0) Lq rfl)) (.av (.var rfl) .bn))) (BF (hG.ext ow.1) r5)) (.nil ?_))
   have es:Ht G q rule (sD,m') t=match strOf (yZ (G.uS (G.lvl rule)) (G.uS t))with
    |some w=>so w q rule t (sD,m')
    |none=>(sD,m'):=if_pos c
   have ww:∀w,yZ (G.uS (G.lvl rule)) (G.uS t)= .str w->cB (.cons (.ite (.cmp .xZ (.var 3) (.lit .none)) (.cons (.expr (.bx (.var 0) 82 59 (.cons (.var 1) (.cons (.var 2) (.cons (.var 3) .nil))))) .nil) .nil) .nil) [some (.ref mk),some (.ref b),some (.int t),some (.str w)] H3 K:=λw ew=>by
    have I4:(⟨sD.sh,sD.bar,AA.map (·.2)⟩:RS)=sD:=by rw[ec]
    have cl:=rk.3
    have Pi:AA.length<1000:=by have:=congrArg List.length ec;rw[ae]at this;omega
    refine .then (.bY (.var rfl) .lit (.Cq w)) (uw (w:=w) ow rk.1 mv t5 rk.2 Pi λa cc H4 j4 e1 o4 x4=>.expr (.bx (.var rfl) (ow.at_ 0 rfl) rfl rfl (.av (.var rfl) (.av (.var rfl) (.av (.var rfl) .bn))) j4) (.nil (.nil (step _ _ _ H4 _ o4 (x4 _ _ nB P7) ?_ ?_ ?_))))
    ·rw[e1,ay];rfl
    ·rw[I4]at e1 ⊢
     obtain⟨n1,n2⟩:=NC (w:=w) (q:=q) (rule:=rule) (t:=t) (r:=(sD,m')) rk.1
     exact⟨n1,aj n2 rk.2,by rw[e1,aq,ae];have:=congrArg List.length ec;rw[ae]at this;simp only[List.length_cons,mZ];omega⟩
    ·rw[es,ew,I4];rfl
   rcases tZ (G.uS (G.lvl rule)) (G.uS t) rfl with e|e|e|e
   ·rw[e]at es ⊢
    exact .pass (.bY (.var rfl) .lit .qV) (.nil (step sD m' AA H3 _ ow P7 ec ⟨rk.1,rk.2,cu rk.3⟩ es))
   ·rw[e];exact ww 12 e
   ·rw[e];exact ww 13 e
   ·rw[e];exact ww 14 e
  ·rw[jX c]at D
   exact .pass (.bY (.var rfl) (.attr (.var rfl) (ow.at_ 0 rfl) rfl rfl) (.isin D)) (.pass (.bY (.var rfl) .lit .qV) (.nil (step sD m' AA H3 _ ow P7 ec ⟨rk.1,rk.2,cu rk.3⟩ (if_neg c))))
 ·intro s H3 h3
  obtain⟨ow,_,ec,rk,ef⟩:=h3
  rw[aR]at ef
  have e1:wf G q rs (rule,m)=(s.1,s.2.1):=ef.symm
  rw[e1]at k
  exact k _ _ s.2.2.1 H3 ow ec ⟨rk.1,rk.2,aj rk.3 (by omega)⟩
end
section
open Dg (lO)
variable {H0 H:Hp} {G:aJ} {A:GA} {mk SH GO LK SE g q bar:Nat} {sh:List (Nat×Int)} {go:List (Nat×Nat)} {dX:List (Nat×Nat×Nat)} {ca:List (Nat×jM)} {Q:Fl->Lc->Hp->Prop} {R:Prop}
theorem rC {rs:RS} (hG:b_ H0 g G A) (ow:Ow H0 H (oq mk SH GO LK SE g q rs.sh go dX rs.bar ca)) (ec:ca.map (·.2)=rs.cf) (rk:I2 rs 0) (ll:dX.length≤5) (lm:∀p∈dX,p.2.1<5∧p.2.2<32)
  (k:∀y_ AA H',JR 60 [.ref mk] H .none H'->Ow H0 H' (oq mk SH GO LK SE g q (ux G q rs (dX.map (·.2))).1.sh go y_ (ux G q rs (dX.map (·.2))).1.bar AA)->y_.map (·.2)=(ux G q rs (dX.map (·.2))).2->AA.map (·.2)=(ux G q rs (dX.map (·.2))).1.cf->I2 (ux G q rs (dX.map (·.2))).1 25->R):R:=by
 refine c7 60 [.ref mk] H rfl rfl (L:=[some (.ref mk),none,none,none]) rfl λQ q'=>?_
 refine .r9 (λ_ (s:RS×List (Nat×Nat×Nat)×List (Nat×jM)×Option V×Option V×Option V)=>[some (.ref mk),s.2.2.2.1,s.2.2.2.2.1,s.2.2.2.2.2])
  (λn s H'=>Ow H0 H' (oq mk SH GO LK SE g q s.1.sh go (s.2.1++dX.drop n) s.1.bar s.2.2.1)∧iQ (s.2.1++dX.drop n)=iQ dX∧s.2.2.1.map (·.2)=s.1.cf∧I2 s.1 (5*n)∧
   ux G q rs (dX.map (·.2))=((ux G q s.1 ((dX.drop n).map (·.2))).1,s.2.1.map (·.2)++(ux G q s.1 ((dX.drop n).map (·.2))).2)) (rs,[],ca,none,none,none)
  (.pF (.attr (.var rfl) (ow.at_ 0 rfl) rfl rfl) (.list (ow.at_ 3 rfl)) (by rw[ae,ae];exact kD (by omega))) ⟨ow,rfl,ec,rk,rfl⟩ (λh=>by have:=h.1.at_ 3 rfl;rw[h.2.1]at this;exact this) ?_ ?_
 ·intro n b s H3 K hb h3 cg _
  obtain⟨sD,dn,AA,x1,x2,x3⟩:=s
  obtain⟨ow,er,ec,rk,es⟩:=h3
  have er:iQ (dn++dX.drop n)=iQ dX:=er
  have es:ux G q rs (dX.map (·.2))=((ux G q sD ((dX.drop n).map (·.2))).1,dn.map (·.2)++(ux G q sD ((dX.drop n).map (·.2))).2):=es
  have hp:∃p,dX[n]?=some p∧p.1=b:=by rw[aH,aZ]at hb;exact hb
  obtain⟨⟨b',rule,m⟩,hp,eb⟩:=hp
  have eb:b'=b:=eb
  subst eb
  have nl:=(ah.1 hp).1
  have dr:dX.drop n=(b',rule,m)::dX.drop (n+1):=by
   have:=ah.1 hp
   rw[←this.2];exact d4 this.1
  obtain⟨r5,m5⟩:=lm _ (am hp)
  have ow:Ow H0 H3 (oq mk SH GO LK SE g q sD.sh go (dn++(b',rule,m)::dX.drop (n+1)) sD.bar AA):=by rw[←dr];exact ow
  rw[dr]at er es
  refine BH hG ow ec rk (by omega) r5 m5 λy2 y3 KH H4 o4 ec4 rk4=>.nil (cg (_,dn++[(b',rule,(wf G q sD (rule,m)).2)],KH,some (.ref b'),y2,y3) rfl ⟨?_,?_,ec4,rk4,?_⟩)
  ·show Ow H0 H4 (oq mk SH GO LK SE g q _ go ((dn++[_])++dX.drop (n+1)) _ KH)
   rw[bN];exact o4
  ·show iQ ((dn++[_])++dX.drop (n+1))=_
   rw[bN,←er];exact Az (l1:=dn) (l2:=dX.drop (n+1)) (p:=(b',rule,m)) (p':=(b',rule,(wf G q sD (rule,m)).2)) rfl
  ·rw[es]
   show((ux G q (wf G q sD (rule,m)).1 _).1,_)=_
   rw[ay,bN];rfl
 ·intro s H3 h3
  obtain⟨ow,er,ec,rk,es⟩:=h3
  rw[ae,hE,aN]at ow
  rw[ae,hE,hB]at es
  have es:ux G q rs (dX.map (·.2))=(s.1,s.2.1.map (·.2)):=by rw[es];show(s.1,_++[])=_;rw[aN]
  rw[es]at k
  exact .nil (q' λj=>k s.2.1 s.2.2.1 H3 j ow rfl ec ⟨rk.1,rk.2,aj rk.3 (by rw[ae];omega)⟩)
noncomputable def Mh (l:List Int) (i:Nat) (v:Int):List Int:=l.set i v
noncomputable def v6 (l:List Int) (p:Nat×Nat):List Int:=(dx p.2).foldl (λl t=>l.set t (-(p.1:Int))) l
noncomputable def v7 (sh:List (Nat×Int)) (lk:List (Nat×Nat)) (bar:Nat):List Int:=
 (dx bar).foldl (λl t=>l.set t (-1048576)) (sh.foldl (λl p=>l.set p.1 p.2) (lk.reverse.foldl v6 (List.replicate 5 0)))
theorem qE {l:List Int} {p:Nat×Nat}:(v6 l p).length=l.length:=by
 have:∀b:List Nat,∀l:List Int,(b.foldl (λl t=>l.set t (-(p.1:Int))) l).length=l.length:=λb=>by
  induction b with
  |nil=>exact λ_=>rfl
  |cons a b ih=>intro l;rw[jz,ih,aU]
 exact this _ l
theorem ou {α:Type} {f:List Int->α->List Int} (h:∀l x,(f l x).length=l.length):∀(b:List α) (l:List Int),(b.foldl f l).length=l.length:=λb=>by
 induction b with
 |nil=>exact λ_=>rfl
 |cons a b ih=>intro l;rw[jz,ih,h]
theorem su {l:List Int} {k:Nat} {b:Int}:(de l).set k (.int b)=de (l.set k b):=mP.symm
theorem dD {l:List Int}:(de l).length=l.length:=ae _
theorem kQ {l:List Int} {k:Nat} {b:Int} (h:l[k]?=some b):(de l)[k]?=some (.int b):=by rw[de,aH,h];rfl
end
section
open Dg (lO)
variable {H0 H:Hp} {G:aJ} {A:GA} {mk SH GO LK SE g q bar:Nat} {sh:List (Nat×Int)} {go:List (Nat×Nat)} {dX:List (Nat×Nat×Nat)} {ca:List (Nat×jM)} {Q:Fl->Lc->Hp->Prop} {r:i6} {R:Prop}
theorem EP {m:Nat} (h:m<32) {i:Nat} (hi:i∈dx m):i<5:=by
 have:=dZ (eK.1 hi)
 exact md λk=>absurd (aA this h) (bE.2 (jw (n:=2) (by decide) k))
theorem BI {m:Nat} (h:m<32):(dx m).length≤5:=by
 have:(dx m).length≤(List.range 5).length:=br ((eV).filter _) λi hi=>bp.2 (EP h hi)
 rwa[aT]at this
theorem xC {W m:Nat} {v:Int} {l:List Int} {B:List (Nat×O)} {me ve:CE} {x2 x3:Option V} (ow:Ow H0 H ((W,.list (de l))::B)) (l5:l.length=5) (m5:m<32) (xm:JE me [some (.ref mk),some (.ref W),x2,x3] H (.int m) H)
  (xv:∀H' t l',Ow H0 H' ((W,.list (de l'))::B)->JE ve [some (.ref mk),some (.ref W),x2,some (.int (t:Nat))] H' (.int v) H')
  (k:∀x3 H',Ow H0 H' ((W,.list (de ((dx m).foldl (λl t=>l.set t v) l)))::B)->cB r [some (.ref mk),some (.ref W),x2,x3] H' Q):
  cB (.cons (.for (.v 3) (.ex (.call 0 (.cons me .nil))) (.cons (.bq (.var 1) (.var 3) ve) .nil)) r) [some (.ref mk),some (.ref W),x2,x3] H Q:=by
 refine vK (H:=H) (m:=m) (bK m5 (by decide)) λC H2 j fC gC eC=>?_
 have nW:C≠W:=λe=>by rw[e,ow.at_ 0 rfl]at fC;cases fC
 refine .jW (λ_ (s:List Int×Option V)=>[some (.ref mk),some (.ref W),x2,s.2]) (λn s H'=>Ow H0 H' ((W,.list (de s.1))::B)∧H'[C]?=some (.list (vn (dx m)))∧s.1=((dx m).take n).foldl (λl t=>l.set t v) l∧s.1.length=5) (l,x3)
  (.dT (.call (.av xm .bn) j) gC (by rw[aX];have:=BI m5;omega)) ⟨ow.ext eC,gC,rfl,l5⟩ (λh=>h.2.1) ?_ ?_
 ·intro n t s H3 K ht h3 cg _
  obtain⟨l',y3⟩:=s
  obtain⟨ow,gC,el,l5⟩:=h3
  have ow:Ow H0 H3 ((W,.list (de l'))::B):=ow
  have l5:l'.length=5:=l5
  dsimp only at cg;rw[iG _ _ ht,←el]at cg
  refine .bq (xv H3 t l' ow) (.var rfl) (.var rfl) (.list (ow.at_ 0 rfl) (dP (by rw[dD,l5];exact EP m5 (am ht)))) (.nil (cg (l'.set t v,some (.int t)) rfl ⟨?_,eJ gC nW,rfl,by rw[aU];exact l5⟩))
  rw[su];exact Ow.set [] ow _
 ·intro s H3 h3
  obtain⟨ow,_,el,_⟩:=h3
  rw[aR]at el
  refine k _ H3 ?_
  rw[←el];exact ow
theorem KJ (hG:b_ H0 g G A) (ow:Ow H0 H (oq mk SH GO LK SE g q sh go dX bar ca)) (ll:dX.length≤5) (lm:∀p∈dX,p.2.2<32) (sn:(sh.map (·.1)).Nodup) (s5:∀p∈sh,p.1<5) (sl:sh.length≤8) (b5:bar<32)
  (k:∀W H',JR 61 [.ref mk] H (.ref W) H'->Ow H0 H' ((W,.list (de (v7 sh (dX.map (·.2)) bar)))::oq mk SH GO LK SE g q sh go dX bar ca)->R):R:=by
 refine c7 61 [.ref mk] H rfl rfl (L:=[some (.ref mk),none,none,none]) rfl λQ q'=>?_
 refine D0 (n:=5) (λW H1 j fW gW e1=>.set j ?_) (λH' e=>.attr (.attr (.var rfl) (e _ _ (ow.at_ 0 rfl)) rfl rfl) (e _ _ (ow.1 _ _ hG.1)) rfl rfl) (by decide)
 have w1:=ow.new fW gW e1
 have itr:JI (.rev (.attr (.var 0) 76)) [some (.ref mk),some (.ref W),none,none] H1 ((dX.map (·.1)).reverse.map .ref) (.list LK ((dX.map (·.1)).map .ref)) H1:=by
  rw[jc];exact .MR (.attr (.var rfl) (w1.at_ 1 rfl) rfl rfl) (.list (w1.at_ 4 rfl)) (by rw[cT,ae,ae];exact kD (by omega))
 refine .r9 (l:=(dX.map (·.1)).reverse) (g:=.list LK ((dX.map (·.1)).map .ref)) (H1:=H1) (λ_ (s:List Int×Option V×Option V)=>[some (.ref mk),some (.ref W),s.2.1,s.2.2])
  (λn s H'=>Ow H0 H' ((W,.list (de s.1))::oq mk SH GO LK SE g q sh go dX bar ca)∧s.1=(((dX.map (·.2)).reverse).take n).foldl v6 (List.replicate 5 0)∧s.1.length=5) (List.replicate 5 0,none,none)
  itr ⟨w1,rfl,rfl⟩ (λh=>h.1.at_ 4 rfl) ?_ ?_
 ·intro n b s H3 K hb h3 cg _
  obtain⟨l,x2,x3⟩:=s
  obtain⟨ow,el,l5⟩:=h3
  have ow:Ow H0 H3 ((W,.list (de l))::oq mk SH GO LK SE g q sh go dX bar ca):=ow
  rw[←jc,aH,aZ]at hb
  obtain⟨⟨b',rule,m⟩,hp,eb⟩:=hb
  have eb:b'=b:=eb
  subst eb
  have mp:(b',rule,m)∈dX:=jd.1 (am hp)
  have hp2:((dX.map (·.2)).reverse)[n]?=some (rule,m):=by rw[←jc,aH,hp];rfl
  dsimp only at cg;rw[iG _ _ hp2,←el]at cg
  have gb:∀{H' l'},Ow H0 H' ((W,.list (de l'))::oq mk SH GO LK SE g q sh go dX bar ca)->H'[b']?=some (lO [rule,m]):=λw=>
   (w.2 (b',lO [rule,m]) (aL _ (aB _ (aV _ (az.2 ⟨_,mp,rfl⟩))))).2
  refine xC (x2:=some (.ref b')) ow l5 (lm _ mp) (.idx (.var rfl) .lit (.nat (k:=1) (gb ow) rfl)) (λH' t l' w=>.neg (.idx (.var rfl) .lit (.nat (k:=0) (gb w) rfl))) λx3 H4 w4=>.nil (cg (v6 l (rule,m),some (.ref b'),x3) rfl ⟨w4,rfl,by rw[qE];exact l5⟩)
 ·intro s H3 h3
  obtain⟨l,x2,x3⟩:=s
  obtain⟨ow,el,l5⟩:=h3
  have ow:Ow H0 H3 ((W,.list (de l))::oq mk SH GO LK SE g q sh go dX bar ca):=ow
  have l5:l.length=5:=l5
  rw[cT,ae,fE (by rw[cT,ae];exact aC _)]at el
  have el:l=(dX.map (·.2)).reverse.foldl v6 (List.replicate 5 0):=el
  have it:JI (.ex (.attr (.var 0) 75)) [some (.ref mk),some (.ref W),x2,x3] H3 (vn (sh.map (·.1))) (.bc SH (nd .int sh)) H3:=by
   rw[iE,←oQ (f:=V.int)]
   exact .pF (.attr (.var rfl) (ow.at_ 1 rfl) rfl rfl) (.bc (ow.at_ 2 rfl)) (kD (by rw[de,ae,ae,lw];omega))
  have oz:=Ow.set [(W,.list (de l)),(mk,Ax g q SH GO LK SE bar)] ow (.fi (nd .int sh))
  refine .jW (λ_ (s:List Int×Option V)=>[some (.ref mk),some (.ref W),x2,s.2])
   (λn s H'=>Ow H0 H' ([(W,.list (de s.1)),(mk,Ax g q SH GO LK SE bar)]++(SH,.fi (nd .int sh))::([(GO,.bc (nd vI go)),(LK,iQ dX),(SE,iQ ca)]++(dX.map BG++ca.map cO)))∧s.1=(sh.take n).foldl (λl p=>l.set p.1 p.2) l∧s.1.length=5) (l,x3) it ⟨oz,rfl,l5⟩ (λh=>h.1.at_ 2 rfl) ?_ ?_
  ·intro n t s H4 K ht h4 cg _
   obtain⟨l',y3⟩:=s
   obtain⟨I5,Lu,Lv⟩:=h4
   have I5:Ow H0 H4 ([(W,.list (de l')),(mk,Ax g q SH GO LK SE bar)]++(SH,.fi (nd .int sh))::([(GO,.bc (nd vI go)),(LK,iQ dX),(SE,iQ ca)]++(dX.map BG++ca.map cO))):=I5
   have Lv:l'.length=5:=Lv
   rw[aH,aZ]at ht
   obtain⟨⟨t',v⟩,hp,et⟩:=ht
   have et:t'=t:=et
   subst et
   have mp:=am hp
   dsimp only at cg;rw[iG _ _ hp,←Lu]at cg
   have D:=dY.fi (k:=(t':Int)) (I5.at_ 2 rfl)
   rw[kW mp sn]at D
   refine .bq (.idx (.attr (.var rfl) (I5.at_ 1 rfl) rfl rfl) (.var rfl) (.dict D)) (.var rfl) (.var rfl) (.list (I5.at_ 0 rfl) (dP (by rw[dD,Lv];exact s5 _ mp))) (.nil (cg (l'.set t' v,some (.int t')) rfl ⟨?_,rfl,by rw[aU];exact Lv⟩))
   rw[su];exact Ow.set [] I5 _
  ·intro s H4 h4
   obtain⟨l',y3⟩:=s
   obtain⟨I5,Lu,Lv⟩:=h4
   rw[ae,aR]at Lu
   have Lu:l'=sh.foldl (λl p=>l.set p.1 p.2) l:=Lu
   have o5:Ow H0 (H4.set SH (.bc (nd .int sh))) ((W,.list (de l'))::oq mk SH GO LK SE g q sh go dX bar ca):=Ow.set [(W,.list (de l')),(mk,Ax g q SH GO LK SE bar)] I5 (.bc (nd .int sh))
   refine xC o5 Lv b5 (.attr (.var rfl) (o5.at_ 1 rfl) rfl rfl) (λH' t l' w=>.lit) λx3 H5 w5=>.ret (.var rfl) (q' λj=>k W H5 j ?_)
   rw[v7,←el,←Lu];exact w5
end
section
open Dg (lO)
noncomputable def zc (lk:List (Nat×Nat)) (t:Nat):List Nat:=(lk.filter λp=>(p.2&&& 1<<<t) !=0).map (·.1)
noncomputable def OA (q:Nat) (row:List Int) (sh:List (Nat×Int)) (lk:List (Nat×Nat)) (t:Nat):List jM:=
 (if zc lk t≠[]∧t∈sh.map (·.1)then [⟨q,t,17,zc lk t,row.getD t 0⟩]else [])++(zc lk t).tail.map λo=>⟨q,t,18,[(zc lk t).headD 0,o],row.getD t 0⟩
noncomputable def cfs (q:Nat) (row:List Int) (sh:List (Nat×Int)) (lk:List (Nat×Nat)):List jM:=(List.range 5).flatMap (OA q row sh lk)
theorem Hu {l:List (Nat×Nat)} {rule m t:Nat}:zc (l++[(rule,m)]) t=if m&&& 1<<<t=0 then zc l t else zc l t++[rule]:=by
 rw[zc,cP]
 by_cases c:m&&& 1<<<t=0
 ·have e:([(rule,m)]:List (Nat×Nat)).filter (λp=>(p.2&&& 1<<<t) !=0)=[]:=by simp[c]
  rw[if_pos c,e,aN];rfl
 ·have e:([(rule,m)]:List (Nat×Nat)).filter (λp=>(p.2&&& 1<<<t) !=0)=[(rule,m)]:=by simp[c]
  rw[if_neg c,e,ay];rfl
variable {H0 H:Hp} {G:aJ} {A:GA} {mk SH GO LK SE g q bar:Nat} {sh:List (Nat×Int)} {go:List (Nat×Nat)} {dX:List (Nat×Nat×Nat)} {ca:List (Nat×jM)} {Q:Fl->Lc->Hp->Prop} {r:i6} {R:Prop}
theorem KK {H1:Hp} {L:Lc} {t:Nat} (hm:H[mk]?=some (Ax g q SH GO LK SE bar)) (hL:H[LK]?=some (iQ dX)) (lk:∀p∈dX,H[p.1]?=some (lO [p.2.1,p.2.2])) (e:Ext H H1) (ll:dX.length≤5) (t5:t<5) (x0:L[0]?=some (some (.ref mk))) (x3:L[3]?=some (some (.int t)))
  (k:∀a H2,JE (.comp [3] (.idx (.var 1) (.lit (.int 0))) (.ex (.attr (.var 0) 76)) (.cons (.bin .band (.idx (.var 1) (.lit (.int 1))) (.bin .shl (.lit (.int 1)) (.var 0))) .nil)) L H1 (.ref a) H2->H1[a]?=none->H2[a]?=some (.list (vn (zc (dX.map (·.2)) t)))->Ext H1 H2->R):R:=by
 have gL:=e _ _ hL
 have zl:((dX.map (·.1)).map V.ref).length≤SZ:=by rw[ae,ae];exact kD (by omega)
 refine rL (elt:=.idx (.var 1) (.lit (.int 0))) (ifs:=.cons (.bin .band (.idx (.var 1) (.lit (.int 1))) (.bin .shl (.lit (.int 1)) (.var 0))) .nil) (L:=[some (.int t)]) (H:=H1) (g:=.list LK ((dX.map (·.1)).map .ref)) (xs:=(dX.map (·.1)).map .ref)
  (λn ys H'=>H'=H1∧ys=vn (zc ((dX.take n).map (·.2)) t)) ⟨rfl,rfl⟩ (λh=>h.1▸gL) (λ{n ys H'} h=>?_) zl ?_ ?_
 ·rw[h.2,aX,zc,ae]
  exact aj (a7 _ _) (by rw[ae];exact h_ _ _)
 ·rintro n y ys H' hy ⟨rfl,rfl⟩
  obtain⟨b,hb,rfl⟩:=Ac hy
  rw[aH,aZ]at hb
  obtain⟨⟨b',rule,m⟩,hp,rfl⟩:=hb
  have gb:=e _ _ (lk _ (am hp))
  have T:=JT.ir (L:=[some (.int t),some (.ref b')]) (.bin (.idx (.var (i:=1) rfl) (.lit (v:=.int 1)) (.nat (k:=1) gb rfl)) (.bin .lit (.var (i:=0) rfl) (.shl 1 t _ (by decide) (bK t5 (by decide)))) (.band m (1<<<t) _)) (.int _) rfl
  have e2:(dX.take (n+1)).map (·.2)=(dX.take n).map (·.2)++[(rule,m)]:=by rw[aW,hp,ay];rfl
  rw[e2,Hu]
  by_cases c:m&&& 1<<<t=0
  ·have c1:(((m&&& 1<<<t:Nat):Int) !=0)=false:=by rw[c];rfl
   rw[c1]at T;rw[if_pos c]
   exact .no (.af T) ⟨rfl,rfl⟩
  ·have c1:(((m&&& 1<<<t:Nat):Int) !=0)=true:=bne_iff_ne.2 λk=>c (a_.1 k)
   rw[c1]at T;rw[if_neg c]
   exact .yes (.at T .lu) gL (.idx (.var rfl) .lit (.nat (k:=0) gb rfl)) ⟨rfl,by rw[←vH]⟩
 ·rintro ys H' j ⟨rfl,rfl⟩
  rw[ae,ae,aR]at j
  refine kh (it:=.ex (.attr (.var 0) 76)) (L:=L) (caps:=[3]) (by rw[bQ,x3];rfl) (.pF (.attr (.var x0) (e _ _ hm) rfl rfl) (.list gL) zl) rfl j ?_ k
  rw[aX,zc,ae]
  exact aj (a7 _ _) (by rw[ae];exact kD (by omega))
theorem EQ {H1:Hp} {L:Lc} {F:Nat} {fa:List (Nat×jM)} {args:mo} {vs:List V} {fe:CE} (c:jM) (ev:vs=[.int c.q,.int c.t,.str c.way,.tup (vn c.rules),.int c.ch]) (w:Ow H H1 ([(F,iQ fa)]++fa.map cO)) (fl:fa.length<1000) (xF:JE fe L H1 (.ref F) H1) (xa:vG args L H1 vs H1)
  (k:∀a H2,Ow H H2 ([(F,iQ (fa++[(a,c)]))]++(fa++[(a,c)]).map cO)->eE [F] H1 H2->cB r L H2 Q):cB (.cons (.expr (.append fe (.new 9 args))) r) L H1 Q:=by
 subst ev
 refine new_ xa rfl λa H4 fa' ga ea nw=>lS c fa' ea ga λH5 j5 e5 g5 _=>?_
 have gF:=w.at_ 0 rfl
 refine .expr (.append xF (nw j5) ⟨_,gF⟩ (e5 _ _ gF) (by rw[ae,ae];exact ri (by omega))) (k a _ ?_ ((eE.of e5).set (ak.2 rfl)))
 rw[oT (x:=c),ay]
 have o1:=Ow.ins ([(F,iQ fa)]++fa.map cO) (B:=[]) (by rw[aN];exact w) fa' g5 e5
 exact Ow.set [] (B:=fa.map cO++[(a,c.o)]) o1 (iQ (fa++[(a,c)]))
end
section
open Dg (lO)
variable {H0 H:Hp} {G:aJ} {A:GA} {mk SH GO LK SE g q bar W:Nat} {sh:List (Nat×Int)} {go:List (Nat×Nat)} {dX:List (Nat×Nat×Nat)} {ca:List (Nat×jM)} {row:List Int} {R:Prop}
theorem Hv (lk:List (Nat×Nat)) (t:Nat):(zc lk t).length≤lk.length:=by rw[zc,ae];exact a7 _ _
theorem v8 (hG:b_ H0 g G A) (ow:Ow H0 H ((W,.list (de row))::oq mk SH GO LK SE g q sh go dX bar ca)) (ll:dX.length≤5) (r5:row.length=5)
  (k:∀F fa H',JR 62 [.ref mk,.ref W] H (.ref F) H'->H[F]?=none->Ext H H'->Ow H H' ([(F,iQ fa)]++fa.map cO)->fa.map (·.2)=cfs q row sh (dX.map (·.2))->fa.length≤50->R):R:=by
 refine c7 62 [.ref mk,.ref W] H rfl rfl (L:=[some (.ref mk),some (.ref W),none,none,none,none,none]) rfl λQ q'=>?_
 have hm:=ow.at_ 1 rfl
 have hS:=ow.at_ 2 rfl
 have hW:=ow.at_ 0 rfl
 have Lp:∀p∈dX,H[p.1]?=some (lO [p.2.1,p.2.2]):=λp m=>(ow.2 (p.1,lO [p.2.1,p.2.2]) (aL _ (aB _ (aV _ (az.2 ⟨_,m,rfl⟩))))).2
 refine hN λF H1 j fF gF e1=>.set j ?_
 have w1:Ow H H1 ([(F,iQ ([]:List (Nat×jM)))]++([]:List (Nat×jM)).map cO):=Ow.new ⟨.r,nofun,.nil⟩ fF gF e1
 refine .tx 5 (λ_ (s:List (Nat×jM)×Option V×Option V×Option V×Option V)=>[some (.ref mk),some (.ref W),some (.ref F),s.2.1,s.2.2.1,s.2.2.2.1,s.2.2.2.2])
  (λn s H'=>Ow H H' ([(F,iQ s.1)]++s.1.map cO)∧s.1.map (·.2)=(List.range n).flatMap (OA q row sh (dX.map (·.2)))∧s.1.length≤10*n) ([],none,none,none,none)
  (.attr (.attr (.var rfl) (w1.1 _ _ hm) rfl rfl) (w1.1 _ _ (ow.1 _ _ hG.1)) rfl rfl) (by decide) ⟨w1,rfl,aC _⟩ ?_ ?_
 ·intro t s H2 K ht h2 cg _
  obtain⟨fa,x3,x4,x5,x6⟩:=s
  obtain⟨w2,ec,fl⟩:=h2
  have w2:Ow H H2 ([(F,iQ fa)]++fa.map cO):=w2
  have ec:fa.map (·.2)=(List.range t).flatMap (OA q row sh (dX.map (·.2))):=ec
  have fl:fa.length≤10*t:=fl
  rw[bG,cH,cx,cR,aN,←ec,OA]at cg
  have rll:=Hv (dX.map (·.2)) t
  rw[ae]at rll
  have gv:row[t]?=some (row.getD t 0):=getD_at (r5.symm▸ht)
  refine KK (L:=[some (.ref mk),some (.ref W),some (.ref F),some (.int t),x4,x5,x6]) (t:=t) hm (ow.at_ 4 rfl) Lp w2.1 ll ht rfl rfl λC H3 j3 f3 g3 e3=>.set j3 ?_
  have w3:=w2.ext e3
  generalize hrs:zc (dX.map (·.2)) t=rs at g3 rll cg
  have zrs:(vn rs).length≤SZ:=kD (by rw[aX];omega)
  have nCF:C∉[F]:=Bk f3 (w2.at_ 0 rfl)
  have tail:∀ER H4,Ow H H4 ([(F,iQ ER)]++ER.map cO)->H4[C]?=some (.list (vn rs))->ER.length≤10*t+1->(∀zd H5 x5 x6,Ow H H5 ([(F,iQ zd)]++zd.map cO)->zd.map (·.2)=ER.map (·.2)++rs.tail.map (λo=>⟨q,t,18,[rs.headD 0,o],row.getD t 0⟩)->zd.length≤ER.length+4->K .next [some (.ref mk),some (.ref W),some (.ref F),some (.int t),some (.ref C),x5,x6] H5)->
    cB (.cons (.for (.v 5) (.ex (.p_ (.var 4) (.lit (.int 1)))) (.cons (.set (.v 6) (.tup (.cons (.idx (.var 4) (.lit (.int 0))) (.cons (.var 5) .nil)))) (.cons (.expr (.append (.var 2) (.new 9 (.cons (.attr (.var 0) 7) (.cons (.var 3) (.cons (.lit (.str 18)) (.cons (.var 6) (.cons (.idx (.var 1) (.var 3)) .nil)))))))) .nil))) .nil) [some (.ref mk),some (.ref W),some (.ref F),some (.int t),some (.ref C),x5,x6] H4 K:=λER H4 w4 gC fl1 kk=>by
   refine J4 (L:=[some (.ref mk),some (.ref W),some (.ref F),some (.int t),some (.ref C),x5,x6]) (n:=1) (f:=.lit (.int 1)) (.var (i:=4) rfl) .lit (.list gC) (ib 1 rfl) λD H5 j5 f5 g5 e5=>?_
   have gD:H5[D]?=some (.list (vn rs.tail)):=by
    rw[g5];cases rs<;>rfl
   have nDF:D∉[F]:=Bk f5 (w4.at_ 0 rfl)
   have tl:rs.tail.length≤4:=by rw[List.length_tail];omega
   refine .jW (λ_ (s:List (Nat×jM)×Option V×Option V)=>[some (.ref mk),some (.ref W),some (.ref F),some (.int t),some (.ref C),s.2.1,s.2.2])
    (λn s H'=>Ow H H' ([(F,iQ s.1)]++s.1.map cO)∧eE [F] H5 H'∧s.1.map (·.2)=ER.map (·.2)++(rs.tail.take n).map (λo=>⟨q,t,18,[rs.headD 0,o],row.getD t 0⟩)∧s.1.length≤ER.length+n) (ER,x5,x6)
    (.dT j5 gD (by rw[aX];omega)) ⟨w4.ext e5,.r,by rw[List.take_zero,hB,aN],aC _⟩ (λh=>h.2.1 _ _ nDF gD) ?_ ?_
   ·intro n o s H6 K ho h6 cg _
    obtain⟨NE,y5,y6⟩:=s
    obtain⟨w6,x6',Lx,NF⟩:=h6
    have w6:Ow H H6 ([(F,iQ NE)]++NE.map cO):=w6
    have Lx:NE.map (·.2)=ER.map (·.2)++(rs.tail.take n).map (λo=>⟨q,t,18,[rs.headD 0,o],row.getD t 0⟩):=Lx
    have NF:NE.length≤ER.length+n:=NF
    have nn:=(ah.1 ho).1
    have gC6:=x6' _ _ nCF (e5 _ _ gC)
    have h0:rs[0]?=some (rs.headD 0):=by
     cases rs with
     |nil=>cases nn
     |cons a l=>rfl
    refine .set (.tup (.av (.idx (.var rfl) .lit (.nat (k:=0) gC6 (cN h0))) (.av (.var rfl) .bn)) (ib _ rfl)) (EQ ⟨q,t,18,[rs.headD 0,o],row.getD t 0⟩ rfl w6 (by omega) (.var rfl)
     (.av (.attr (.var rfl) (w6.1 _ _ hm) rfl rfl) (.av (.var rfl) (.av .lit (.av (.var rfl) (.av (.idx (.var rfl) (.var rfl) (.nat (w6.1 _ _ hW) (kQ gv))) .bn))))) λa H7 w7 x7=>.nil (cg (NE++[(a,⟨q,t,18,[rs.headD 0,o],row.getD t 0⟩)],some (.int o),some (.tup [.int (rs.headD 0:Nat),.int o])) rfl ⟨w7,x6'.trans x7,?_,by rw[aq];exact aM NF⟩))
    rw[ay,Lx,aW,ho,ay,bN];rfl
   ·intro s H6 h6
    obtain⟨w6,_,Lx,NF⟩:=h6
    rw[aR]at Lx
    exact .nil (kk s.1 H6 _ _ w6 Lx (aj NF (bZ tl _)))
  have T1:=JT.ir (H:=H3) (L:=[some (.ref mk),some (.ref W),some (.ref F),some (.int t),some (.ref C),x5,x6]) (e:=.var 4) (.var (i:=4) rfl) (.list g3) rfl
  have D:=zJ.dict (dY.i (k:=(t:Int)) (w3.1 _ _ hS))
  have T2:JT (.cmp .isin (.var 3) (.attr (.var 0) 75)) [some (.ref mk),some (.ref W),some (.ref F),some (.int t),some (.ref C),x5,x6] H3 (d7 (t:Int) (nd V.int sh)).isSome H3:=.bY (.var rfl) (.attr (.var rfl) (w3.1 _ _ hm) rfl rfl) (.isin D)
  have no:¬(rs≠[]∧t∈sh.map (·.1))->K .next=K .next∧(∀zd H5 x5 x6,Ow H H5 ([(F,iQ zd)]++zd.map cO)->zd.map (·.2)=fa.map (·.2)++rs.tail.map (λo=>⟨q,t,18,[rs.headD 0,o],row.getD t 0⟩)->zd.length≤fa.length+4->K .next [some (.ref mk),some (.ref W),some (.ref F),some (.int t),some (.ref C),x5,x6] H5):=λc=>⟨rfl,λzd H5 x5 x6 a1 a2 a3=>cg (zd,some (.int t),some (.ref C),x5,x6) rfl ⟨a1,by rw[if_neg c,List.nil_append];exact a2,by show zd.length≤10*(t+1);omega⟩⟩
  by_cases c1:rs=[]
  ·have:(!(vn rs).isEmpty)=false:=by rw[c1];rfl
   rw[this]at T1
   exact .pass (.iD (.af T1)) (tail fa H3 w3 g3 (by omega) (no λh=>h.1 c1).2)
  ·have:(!(vn rs).isEmpty)=true:=by
    cases rs with
    |nil=>exact(c1 rfl).elim
    |cons a l=>rfl
   rw[this]at T1
   by_cases c2:t∈sh.map (·.1)
   ·have e2:(d7 (t:Int) (nd V.int sh)).isSome=true:=by
     cases e:d7 (t:Int) (nd V.int sh)with
     |some _=>rfl
     |none=>
      rw[d7,Option.map_eq_none_iff]at e
      obtain⟨p,mp,ep⟩:=az.1 c2
      have:=dS.1 e _ (az.2 ⟨p,mp,rfl⟩)
      simp[ep]at this
    rw[e2]at T2
    refine .then (.iD (.at T1 (.at T2 .lu))) (EQ ⟨q,t,17,rs,row.getD t 0⟩ rfl w3 (by omega) (.var rfl) (.av (.attr (.var rfl) (w3.1 _ _ hm) rfl rfl) (.av (.var rfl) (.av .lit (.av (.tupleOf (.var rfl) g3 zrs) (.av (.idx (.var rfl) (.var rfl) (.nat (w3.1 _ _ hW) (kQ gv))) .bn)))))
     λa H4 w4 x4=>.nil (tail _ H4 w4 (x4 _ _ nCF g3) (by rw[aq];exact aM fl) λzd H5 x5 x6 a1 a2 a3=>cg (zd,some (.int t),some (.ref C),x5,x6) rfl ⟨a1,?_,?_⟩))
    ·rw[if_pos ⟨c1,c2⟩,a2,ay,bN];rfl
    ·rw[aq,List.length_cons,mZ]at a3;show zd.length≤10*(t+1);omega
   ·have e2:(d7 (t:Int) (nd V.int sh)).isSome=false:=by rw[jX c2];rfl
    rw[e2]at T2
    exact .pass (.iD (.at T1 (.af T2))) (tail fa H3 w3 g3 (by omega) (no λh=>c2 h.2).2)
 ·intro s H2 h2
  exact .ret (.var rfl) (q' λj=>k F s.1 H2 j fF h2.1.1 h2.1 h2.2.1 h2.2.2)
end
section
variable {H:Hp} {row:List Int} {R:Prop}
inductive OB (row:List Int) (best:Nat):Prop
 |mk (z:best=0->0<row.getD 1 0∨∀x∈row,¬(-1048576<x∧x<0)) (p:best≠0->(-(best:Int))∈row∧best<1048576)
theorem uy {W:Nat} (hW:H[W]?=some (.list (de row))) (r5:row.length=5) (k:∀best H',JR 18 [.ref W] H (.int (best:Nat)) H'->Ext H H'->OB row best->R):R:=by
 refine c7 18 [.ref W] H rfl rfl (L:=[some (.ref W),none,none,none,none]) rfl λQ q'=>?_
 have gv:row[1]?=some (row.getD 1 0):=getD_at (r5.symm▸by decide)
 have T:=JT.bY (H:=H) (L:=[some (.ref W),none,none,none,none]) (.idx (.var (i:=0) rfl) (.lit (v:=.int 1)) (.nat (k:=1) hW (kQ gv))) .lit (.gt _ 0)
 by_cases c:0<row.getD 1 0
 ·rw[decide_eq_true c]at T
  exact .then T (.ret .lit (q' λj=>k 0 H j .r ⟨λ_=>.inl c,λh=>(h rfl).elim⟩))
 rw[decide_eq_false c]at T
 refine .pass T (lQ λC H1 j fC gC e1=>.set j ?_)
 refine .wW (λ_ (s:List (Nat×Int)×Option V)=>[some (.ref W),some (.ref C),s.2,none,none]) (λn s H'=>eE [C] H1 H'∧H'[C]?=some (.bc (nd .int s.1))∧(s.1.map (·.1)).Nodup∧s.1.length≤n∧(∀m:Nat,m∈s.1.map (·.1)->0<m∧(-(m:Int))∈row∧m<1048576)∧∀x∈row.take n, -1048576<x∧x<0->(-x).toNat∈s.1.map (·.1)) ([],none)
  (.pF (.var rfl) (.list (e1 _ _ hW)) (by rw[dD,r5];exact kD (by decide))) ⟨.r,gC,.nil,aC _,nofun,nofun⟩ (λh=>h.1 _ _ (yI fC hW) (e1 _ _ hW)) ?_ ?_
 ·intro n y s H2 K hy h2 cg _
  obtain⟨cs,x2⟩:=s
  obtain⟨x,BJ,B_,cl,ck,cc⟩:=h2
  have BJ:H2[C]?=some (.bc (nd .int cs)):=BJ
  have B_:(cs.map (·.1)).Nodup:=B_
  have cl:cs.length≤n:=cl
  have ck:∀m:Nat,m∈cs.map (·.1)->0<m∧(-(m:Int))∈row∧m<1048576:=ck
  have cc:∀x∈row.take n, -1048576<x∧x<0->(-x).toNat∈cs.map (·.1):=cc
  rw[de,aH,aZ]at hy
  obtain⟨v,hv,rfl⟩:=hy
  have nl:=(ah.1 hv).1
  have mv:=am hv
  have tk:∀x,x∈row.take (n+1)↔x∈row.take n∨x=v:=λx=>by rw[aW,hv,aD];simp
  have G2:¬(-1048576<v∧v<0)->K .next [some (.ref W),some (.ref C),some (.int v),none,none] H2:=λnv=>cg (cs,some (.int v)) rfl ⟨x,BJ,B_,cu cl,ck,λx hx hb=>by
   rcases(tk x).1 hx with w|w
   ·exact cc x w hb
   ·subst w;exact(nv hb).elim⟩
  by_cases c1: -1048576<v
  ·by_cases c2:v<0
   ·have T:JT (.pH .lt .lt (.lit (.int (-1048576))) (.var 2) (.lit (.int 0))) [some (.ref W),some (.ref C),some (.int v),none,none] H2 true H2:=by
     have:=JT.DR (H:=H2) (L:=[some (.ref W),some (.ref C),some (.int v),none,none]) (o:=.lt) (p:=.lt) (.lit (v:=.int (-1048576))) (.var (i:=2) rfl) (by have:=cL.lt (H:=H2) (-1048576) v;rw[decide_eq_true c1]at this;exact this) (.lit (v:=.int 0)) (.lt v 0)
     rw[decide_eq_true c2]at this;exact this
    obtain⟨m,rfl⟩:∃m:Nat,v= -(m:Int):=⟨(-v).toNat,by omega⟩
    have m0:0<m:=by omega
    have key:JE (.neg (.var 2)) [some (.ref W),some (.ref C),some (.int (-(m:Int))),none,none] H2 (.int m) H2:=by
     have:=JE.neg (H:=H2) (L:=[some (.ref W),some (.ref C),some (.int (-(m:Int))),none,none]) (.var (i:=2) rfl)
     rw[iO]at this;exact this
    have val:∃w:Int,((d7 (m:Int) (nd V.int cs)).getD (.int 0))= .int w:=by
     by_cases mm:m∈cs.map (·.1)
     ·obtain⟨w,_,e⟩:=i_ (f:=V.int) mm B_;rw[e];exact⟨w,rfl⟩
     ·rw[jX mm];exact⟨0,rfl⟩
    obtain⟨w,ew⟩:=val
    have g2:=JE.qO (L:=[some (.ref W),some (.ref C),some (.int (-(m:Int))),none,none]) (.var (i:=1) rfl) key (.lit (v:=.int 0)) (.inl ⟨_,BJ⟩) (.i BJ)
    rw[ew]at g2
    refine .then T (.bq (.bin g2 .lit (.add _ _ _)) (.var rfl) key (.bc BJ (by rw[lw];exact ri (by omega))) (.nil (.nil ?_)))
    by_cases mm:m∈cs.map (·.1)
    ·
     have dp:dput (m:Int) (.int (w+1)) (nd V.int cs)=nd V.int (cs.map λp=>if p.1=m then(p.1,w+1)else p):=by
      rw[dput,if_pos,nd,nd,bF,bF]
      ·apply cS;intro p _
       show(if(p.1:Int)=m then((p.1:Int),V.int (w+1))else((p.1:Int),V.int p.2))=((((if p.1=m then(p.1,w+1)else p).1:Nat):Int),V.int (if p.1=m then(p.1,w+1)else p).2)
       by_cases e:p.1=m
       ·rw[if_pos e,if_pos (by rw[e])]
       ·rw[if_neg e,if_neg λk=>e (a_.1 k)]
      ·obtain⟨p,mp,ep⟩:=az.1 mm
       exact jb.2 ⟨_,az.2 ⟨p,mp,rfl⟩,decide_eq_true (by show(p.1:Int)=m;rw[ep])⟩
     have keys:(cs.map λp=>if p.1=m then(p.1,w+1)else p).map (·.1)=cs.map (·.1):=by
      rw[bF];apply cS;intro p _
      show(if p.1=m then(p.1,w+1)else p).1=p.1
      split<;>rfl
     refine cg (cs.map λp=>if p.1=m then(p.1,w+1)else p,some (.int (-(m:Int)))) rfl ⟨x.set (ak.2 rfl),by rw[dh BJ,dp],by rw[keys];exact B_,by rw[ae];exact cu cl,by rw[keys];exact ck,λx hx hb=>?_⟩
     rw[keys]
     rcases(tk x).1 hx with w'|w'
     ·exact cc x w' hb
     ·subst w';rw[iO];exact mm
    ·refine cg (cs++[(m,w+1)],some (.int (-(m:Int)))) rfl ⟨x.set (ak.2 rfl),by rw[dh BJ];exact congrArg (λd=>some (O.bc d)) (oP (f:=V.int) mm (w+1)),?_,by rw[aq];exact aM cl,λa ha=>?_,λx hx hb=>?_⟩
     ·rw[ay,eo];exact⟨B_,by simp,λa ha b hb e=>mm (by rw[e,ak.1 hb]at ha;exact ha)⟩
     ·rw[ay]at ha
      rcases aD.1 ha with w'|w'
      ·exact ck a w'
      ·rw[ak.1 w'];exact⟨m0,mv,(by omega:m<1048576)⟩
     ·rw[ay]
      rcases(tk x).1 hx with w'|w'
      ·exact aV _ (cc x w' hb)
      ·subst w';rw[iO];exact aB _ (ak.2 rfl)
   ·have T:JT (.pH .lt .lt (.lit (.int (-1048576))) (.var 2) (.lit (.int 0))) [some (.ref W),some (.ref C),some (.int v),none,none] H2 false H2:=by
     have:=JT.DR (H:=H2) (L:=[some (.ref W),some (.ref C),some (.int v),none,none]) (o:=.lt) (p:=.lt) (.lit (v:=.int (-1048576))) (.var (i:=2) rfl) (by have:=cL.lt (H:=H2) (-1048576) v;rw[decide_eq_true c1]at this;exact this) (.lit (v:=.int 0)) (.lt v 0)
     rw[decide_eq_false c2]at this;exact this
    exact .pass T (.nil (G2 λh=>c2 h.2))
  ·have T:JT (.pH .lt .lt (.lit (.int (-1048576))) (.var 2) (.lit (.int 0))) [some (.ref W),some (.ref C),some (.int v),none,none] H2 false H2:=
    JT.Iz (o:=.lt) (p:=.lt) (.lit (v:=.int (-1048576))) (.var (i:=2) rfl) (by have:=cL.lt (H:=H2) (-1048576) v;rw[decide_eq_false c1]at this;exact this)
   exact .pass T (.nil (G2 λh=>c1 h.1))
 ·intro s H2 h2
  obtain⟨cs,x2⟩:=s
  obtain⟨x,BJ,B_,cl,ck,cc⟩:=h2
  have BJ:H2[C]?=some (.bc (nd .int cs)):=BJ
  have B_:(cs.map (·.1)).Nodup:=B_
  rw[dD]at cl cc
  have cl:cs.length≤row.length:=cl
  rw[fE (aC _)]at cc
  have cc:∀x∈row, -1048576<x∧x<0->(-x).toNat∈cs.map (·.1):=cc
  have ck:∀m:Nat,m∈cs.map (·.1)->0<m∧(-(m:Int))∈row∧m<1048576:=ck
  refine .set .lit (pR (l:=cs.map (·.1)) (L:=[some (.ref W),some (.ref C),x2,some (.int 0),none]) (.var (i:=1) rfl) (by rw[←oQ (f:=V.int)];exact .dict BJ) (by rw[ae];omega) λD H3 j3 f3 g3 e3=>?_)
  have nm:=eP B_
  refine .jW (λ_ (s:Nat×Option V)=>[some (.ref W),some (.ref C),x2,some (.int s.1),s.2]) (λn s H'=>H'=H3∧(s.1=0∨s.1∈cs.map (·.1))∧(0<n->s.1≠0)) (0,none)
   (.dT j3 g3 (by rw[aX,d8,ae];omega)) ⟨rfl,.inl rfl,nofun⟩ (λh=>h.1▸g3) ?_ ?_
  ·intro n m s H4 K hm h4 cg _
   obtain⟨best,x4⟩:=s
   obtain⟨rfl,hb,hn⟩:=h4
   have hb:best=0∨best∈cs.map (·.1):=hb
   have mm:=dI.1 (am hm)
   have m0:=(ck m mm).1
   have T1:=JT.bY (H:=H4) (L:=[some (.ref W),some (.ref C),x2,some (.int best),some (.int m)]) (.var (i:=3) rfl) .lit (.eq (.int (best:Nat) 0))
   have take:K .next [some (.ref W),some (.ref C),x2,some (.int m),some (.int m)] H4:=cg (m,some (.int m)) rfl ⟨rfl,.inr mm,λ_=>di m0⟩
   by_cases b0:best=0
   ·have:(((best:Nat):Int)==0)=true:=by rw[b0];rfl
    rw[this]at T1
    exact .then (.xU (.ot T1)) (.set (.var rfl) (.nil (.nil take)))
   ·have:(((best:Nat):Int)==0)=false:=beq_eq_false_iff_ne.2 λk=>b0 (a_.1 k)
    rw[this]at T1
    obtain⟨v1,_,d1⟩:=i_ (f:=V.int) mm B_
    obtain⟨v2,_,d2⟩:=i_ (f:=V.int) (hb.resolve_left b0) B_
    have gC4:=e3 _ _ BJ
    have D1:=dY.i (k:=(m:Int)) gC4
    have D2:=dY.i (k:=(best:Int)) gC4
    rw[d1]at D1;rw[d2]at D2
    have T2:=JT.bY (H:=H4) (L:=[some (.ref W),some (.ref C),x2,some (.int best),some (.int m)]) (.idx (.var (i:=1) rfl) (.var (i:=4) rfl) (.dict D1)) (.idx (.var (i:=1) rfl) (.var (i:=3) rfl) (.dict D2)) (.gt v1 v2)
    by_cases c3:v2<v1
    ·rw[decide_eq_true c3]at T2
     exact .then (.xU (.of T1 (.ot T2))) (.set (.var rfl) (.nil (.nil take)))
    ·rw[decide_eq_false c3]at T2
     exact .pass (.xU (.of T1 (.of T2 .wV))) (.nil (cg (best,some (.int m)) rfl ⟨rfl,hb,λ_=>b0⟩))
  ·intro s H4 h4
   obtain⟨rfl,hb,hn⟩:=h4
   refine .ret (.var rfl) (q' λj=>k s.1 H4 j ((x.new fC e1).trans e3) ⟨λb0=>.inr λx hx hr=>?_,λb0=>(ck s.1 (hb.resolve_left b0)).2⟩)
   have:=cc x hx hr
   have l0:0<(jK (cs.map (·.1))).length:=by rw[d8];exact List.length_pos_of_mem this
   exact hn l0 b0
theorem ze {W rule:Nat} (hW:H[W]?=some (.list (de row))) (r5:row.length=5) (k:∀a H',JR 19 [.ref W,.int rule] H (.ref a) H'->H[a]?=none->Ext H H'->H'[a]?=some (.list (de (row.map λd=>if d= -(rule:Int)then 0 else d)))->R):R:=by
 refine c7 19 [.ref W,.int rule] H rfl rfl (L:=[some (.ref W),some (.int rule)]) rfl λQ q'=>?_
 refine rL (elt:=.ite (.cmp .eq (.var 1) (.neg (.var 0))) (.lit (.int 0)) (.var 1)) (ifs:=.nil) (L:=[some (.int rule)]) (H:=H) (g:=.list W (de row)) (xs:=de row) (λn ys H'=>H'=H∧ys=de ((row.take n).map λd=>if d= -(rule:Int)then 0 else d)) ⟨rfl,rfl⟩ (λh=>h.1▸hW) (λ{n ys H'} h=>?_) (by rw[dD,r5];exact kD (by decide)) ?_ ?_
 ·rw[h.2,dD,ae];exact h_ _ _
 ·rintro n y ys H' hy ⟨rfl,rfl⟩
  rw[de,aH,aZ]at hy
  obtain⟨v,hv,rfl⟩:=hy
  have T:=JT.bY (H:=H') (L:=[some (.int rule),some (.int v)]) (.var (i:=1) rfl) (.neg (.var (i:=0) rfl)) (.eq (.int v (-(rule:Int))))
  have e2:de ((row.take (n+1)).map λd=>if d= -(rule:Int)then 0 else d)=de ((row.take n).map λd=>if d= -(rule:Int)then 0 else d)++[.int (if v= -(rule:Int)then 0 else v)]:=by
   rw[aW,hv,ay,de,de,ay];rfl
  rw[e2]
  by_cases c:v= -(rule:Int)
  ·rw[beq_iff_eq.2 c]at T;rw[if_pos c]
   exact .yes .lu hW (.ite T .lit) ⟨rfl,rfl⟩
  ·rw[beq_eq_false_iff_ne.2 c]at T;rw[if_neg c]
   exact .yes .lu hW (.ite T (.var rfl)) ⟨rfl,rfl⟩
 ·rintro ys H' j ⟨rfl,rfl⟩
  rw[dD,fE (aC _)]at j
  refine kh (it:=.ex (.var 0)) (L:=[some (.ref W),some (.int rule)]) (caps:=[1]) rfl (.pF (.var rfl) (.list hW) (by rw[dD,r5];exact kD (by decide))) rfl j (by rw[dD,ae,r5];exact kD (by decide)) λa H2 j2 f2 g2 e2=>.ret j2 (q' λj=>k a H2 j f2 e2 g2)
end
theorem KL {α:Type} {l:List α} {i:Nat} {v d:α} (z:i<l.length):(l.set i v).getD i d=v:=by rw[aE,a8 z];rfl
theorem KM {α:Type} {l:List α} {i j:Nat} {v d:α} (n:i≠j):(l.set i v).getD j d=l.getD j d:=by rw[aE,a9 n,aE]
theorem KN {α:Type} (k:α->Nat) (v:α->Int) (xs:List α) (l:List Int) {t:Nat} (z:t<l.length):
  C2 (∀x∈xs,k x≠t) ((xs.foldl (λl x=>l.set (k x) (v x)) l).getD t 0=l.getD t 0)∨∃x,C3 (x∈xs) (k x=t) ((xs.foldl (λl x=>l.set (k x) (v x)) l).getD t 0=v x):=by
 induction xs generalizing l with
 |nil=>exact .inl ⟨rj,rfl⟩
 |cons a xs ih=>
  refine(ih (l.set (k a) (v a)) (fJ z aU.symm)).elim (λh=>?_) λh=>.inr (h.imp λx q=>⟨.tail _ q.1,q.2,q.3⟩)
  by_cases c:k a=t
  ·exact .inr ⟨a,.head _,c,h.2.trans (c▸KL (c▸z))⟩
  ·exact .inl ⟨nh c h.1,h.2.trans (KM c)⟩
theorem P8 (lk:List (Nat×Nat)) (l:List Int) {t:Nat} (z:t<l.length):
  C2 (∀p∈lk,p.2.testBit t=false) ((lk.foldl v6 l).getD t 0=l.getD t 0)∨∃p,C3 (p∈lk) (p.2.testBit t=true) ((lk.foldl v6 l).getD t 0= -(p.1:Int)):=by
 induction lk generalizing l with
 |nil=>exact .inl ⟨rj,rfl⟩
 |cons a lk ih=>
  exact(ih (v6 l a) (fJ z qE.symm)).elim (λh=>(KN (λt:Nat=>t) (λ_=> -(a.1:Int)) (dx a.2) l z).elim (λw=>.inl ⟨nh (dK.2 λb=>w.1 t (eK.2 b) rfl) h.1,h.2.trans w.2⟩)
   λw=>w.elim λx q=>.inr ⟨a,.head _,eK.1 (q.2▸q.1),h.2.trans q.3⟩) λh=>.inr (h.imp λx q=>⟨.tail _ q.1,q.2,q.3⟩)
theorem AB {sh:List (Nat×Int)} {lk:List (Nat×Nat)} {bar t:Nat} (z:t<5) {R:Prop} (k1:bar.testBit t=true->(v7 sh lk bar).getD t 0= -1048576->R) (k2:∀v,(t,v)∈sh->(v7 sh lk bar).getD t 0=v->R)
  (k3:∀p∈lk,p.2.testBit t=true->(v7 sh lk bar).getD t 0= -(p.1:Int)->R) (k4:bar.testBit t≠true->t∉sh.map (·.1)->(∀p∈lk,p.2.testBit t=false)->(v7 sh lk bar).getD t 0=0->R):R:=by
 have L5:∀lk:List (Nat×Nat),(lk.foldl v6 (List.replicate 5 0)).length=5:=λlk=>ou (λ_ _=>qE) ..
 refine(KN (λt:Nat=>t) (λ_=> -1048576) (dx bar) _ (t:=t) (fJ z ((ou (λ_ _=>aU) _ _).trans (L5 lk.reverse)).symm)).elim (λh1=>?_) λh=>h.elim λx q=>k1 (eK.1 (q.2▸q.1)) q.3
 refine(KN (λp:Nat×Int=>p.1) (λp=>p.2) sh _ (t:=t) (fJ z (L5 lk.reverse).symm)).elim (λh2=>?_) λh=>h.elim λx q=>k2 x.2 (q.2▸q.1) (h1.2.trans q.3)
 exact(P8 lk.reverse (List.replicate 5 0) (t:=t) z).elim (λh3=>k4 (λb=>h1.1 t (eK.2 b) rfl) (λm=>(az.1 m).elim λp q=>h2.1 p q.1 q.2) (λp hp=>h3.1 p (jd.2 hp))
  (h1.2.trans (h2.2.trans (h3.2.trans (by rw[aE,cZ,if_pos z];rfl))))) λh=>h.elim λx q=>k3 x (jd.1 q.1) q.2 (h1.2.trans (h2.2.trans q.3))
theorem Hw:∀m<32,∀t<5,∀i<5,(m-(m&&& 1<<<t)).testBit i=(m.testBit i&&i !=t):=by decide+kernel
theorem Hx:∀m<32,∀t<5,(m|||1<<<t)<32∧∀i<5,(m|||1<<<t).testBit i=(m.testBit i||i==t):=by decide+kernel
noncomputable def xD (t:Nat) (sh:List (Nat×Int)) (bar:Nat) (l:List (Nat×Nat)):Prop:=t∈sh.map (·.1)∨bar.testBit t=true∨∃p,p∈l∧p.2.testBit t=true
theorem xD.imp {t:Nat} {sh OC:List (Nat×Int)} {bar Hy:Nat} {l l':List (Nat×Nat)} (h:xD t sh bar l) (a:t∈sh.map (·.1)->xD t OC Hy l') (b:bar.testBit t=true->xD t OC Hy l') (c:∀p∈l,p.2.testBit t=true->xD t OC Hy l'):xD t OC Hy l':=
 h.elim a λh=>h.elim b λh=>h.elim λp q=>c p q.1 q.2
theorem xD.tl {t:Nat} {sh:List (Nat×Int)} {bar:Nat} {l:List (Nat×Nat)} {p:Nat×Nat} (h:xD t sh bar l):xD t sh bar (p::l):=h.imp .inl (λh=>.inr (.inl h)) λp m b=>.inr (.inr ⟨p,.tail _ m,b⟩)
inductive Cv (t:Nat) (r r':RS) (l l':List (Nat×Nat)):Prop
 |mk (sh:∀p∈r'.sh,p∈r.sh) (b:r.bar<32->r'.bar<32) (k:l'.map (·.1)=l.map (·.1)) (m:(∀p∈l,p.2<32)->∀p∈l',p.2<32) (c:r.bar<32->xD t r.sh r.bar l->xD t r'.sh r'.bar l')
inductive C1 (t:Nat) (r r':RS×Nat):Prop
 |mk (sh:∀p∈r'.1.sh,p∈r.1.sh) (b:r'.1.bar<32) (m:r'.2<32) (c:xD t r.1.sh r.1.bar [(0,r.2)]->xD t r'.1.sh r'.1.bar [(0,r'.2)])
theorem C1.r {t:Nat} {r:RS×Nat} (b:r.1.bar<32) (m:r.2<32):C1 t r r:=⟨λ_ h=>h,b,m,id⟩
noncomputable def OD (t i:Nat) (r r':RS×Nat):Prop:=C2 (C1 t r r') (∀j<5,j≠i->r'.2.testBit j=r.2.testBit j)
theorem ES {q rule t i:Nat} {r:RS×Nat} (b:r.1.bar<32) (m:r.2<32) (t5:t<5) (i5:i<5) (hi:r.2.testBit i=true) (ki:i∈r.1.sh.map (·.1)):
  C3 (OD t i r (so 12 q rule i r)) (OD t i r (so 13 q rule i r)) (OD t i r (so 14 q rule i r)):=by
 have cb:=Hw r.2 m i i5
 have pb:=Hx r.1.bar b i i5
 have keep:t≠i->t∈r.1.sh.map (·.1)->t∈(r.1.sh.filter λp=>p.1 !=i).map (·.1):=λn h=>(az.1 h).elim λp q=>az.2 ⟨p,bz.2 ⟨q.1,bne_iff_ne.2 (q.2▸n)⟩,q.2⟩
 have cm:r.2-(r.2&&& 1<<<i)<32:=aA (mL _ _) m
 have cj:∀j<5,j≠i->(r.2-(r.2&&& 1<<<i)).testBit j=r.2.testBit j:=λj z n=>by rw[cb j z,bne_iff_ne.2 n,Bool.and_true]
 have one:∀{x:Nat} {p:Nat×Nat},p∈[(0,x)]->p.2.testBit t=true->x.testBit t=true:=λ{x p} h k=>(congrArg (·.2) (ak.1 h):p.2=x)▸k
 have OE:∀{sh:List (Nat×Int)} {bar x:Nat},x.testBit t=true->xD t sh bar [(0,x)]:=λh=>.inr (.inr ⟨_,.head _,h⟩)
 refine⟨⟨⟨λp h=>(bz.1 h).1,b,m,λh=>?_⟩,λ_ _ _=>rfl⟩,⟨⟨λp h=>h,b,cm,λh=>?_⟩,cj⟩,⟨⟨λp h=>(bz.1 h).1,pb.1,cm,λh=>?_⟩,cj⟩⟩
 ·by_cases e:t=i
  ·exact OE (e▸hi)
  ·exact h.imp (λk=>.inl (keep e k)) (λk=>.inr (.inl k)) λp mp k=>OE (one mp k)
 ·by_cases e:t=i
  ·exact .inl (e▸ki)
  ·exact h.imp .inl (λk=>.inr (.inl k)) λp mp k=>OE ((cj t t5 e).trans (one mp k))
 ·have pt:=pb.2 t t5
  by_cases e:t=i
  ·exact .inr (.inl (pt.trans (by rw[e,beq_self_eq_true,fG])))
  ·exact h.imp (λk=>.inl (keep e k)) (λk=>.inr (.inl (pt.trans (by rw[k,Bool.true_or])))) λp mp k=>OE ((cj t t5 e).trans (one mp k))
theorem KO {G:aJ} {q rule t i:Nat} {r:RS×Nat} (b:r.1.bar<32) (m:r.2<32) (t5:t<5) (i5:i<5) (hi:r.2.testBit i=true):OD t i r (Ht G q rule r i):=by
 unfold Ht
 by_cases c:i∈r.1.sh.map (·.1)
 ·rw[if_pos c]
  rcases tZ (G.uS (G.lvl rule)) (G.uS i) rfl with e|e|e|e<;>rw[e]
  ·exact⟨.r b m,λ_ _ _=>rfl⟩
  ·exact(ES b m t5 i5 hi c).1
  ·exact(ES b m t5 i5 hi c).2
  ·exact(ES b m t5 i5 hi c).3
 ·rw[if_neg c];exact⟨.r b m,λ_ _ _=>rfl⟩
theorem HA {G:aJ} {q rule t:Nat} (t5:t<5) (l:List Nat):∀r:RS×Nat,r.1.bar<32->r.2<32->l.Nodup->(∀i∈l,i<5∧r.2.testBit i=true)->C1 t r (l.foldl (Ht G q rule) r):=by
 induction l with
 |nil=>exact λr b m _ _=>.r b m
 |cons i l ih=>
  intro r b m nd h
  have c:=KO (G:=G) (q:=q) (rule:=rule) b m t5 (h i (.head _)).1 (h i (.head _)).2
  rw[c_]at nd
  have d:=ih _ c.1.2 c.1.3 nd.2 λj hj=>⟨(h j (.tail _ hj)).1,(c.2 j (h j (.tail _ hj)).1 λe=>nd.1 (e▸hj)).trans (h j (.tail _ hj)).2⟩
  exact⟨λp hp=>c.1.1 p (d.1 p hp),d.2,d.3,λhh=>d.4 (c.1.4 hh)⟩
theorem KP {G:aJ} {q t:Nat} (t5:t<5) (l:List (Nat×Nat)):∀r:RS,r.bar<32->(∀p∈l,p.2<32)->Cv t r (ux G q r l).1 l (ux G q r l).2:=by
 induction l with
 |nil=>exact λr b m=>⟨λ_ h=>h,id,rfl,λh=>h,λ_=>id⟩
 |cons p l ih=>
  intro r b m
  have m5:=m p (.head _)
  have ml:=λp hp=>m p (.tail _ hp)
  have c:C1 t (r,p.2) (wf G q r p):=HA t5 (dx p.2) (r,p.2) b m5 (eV.filter _) λi hi=>⟨EP m5 hi,eK.1 hi⟩
  have d:=ih (wf G q r p).1 c.2 ml
  have up:xD t (wf G q r p).1.sh (wf G q r p).1.bar [(0,(wf G q r p).2)]->xD t (ux G q r (p::l)).1.sh (ux G q r (p::l)).1.bar (ux G q r (p::l)).2:=λh=>
   h.imp (λk=>(d.5 c.2 (.inl k)).tl) (λk=>(d.5 c.2 (.inr (.inl k))).tl) λx mx k=>.inr (.inr ⟨_,.head _,(ak.1 mx▸k:(0,(wf G q r p).2).2.testBit t=true)⟩)
  exact⟨λp hp=>c.1 p (d.1 p hp),λ_=>d.2 c.2,congrArg (p.1:: ·) d.3,λ_=>nh c.3 (d.4 ml),λ_ hh=>
   hh.imp (λk=>up (c.4 (.inl k))) (λk=>up (c.4 (.inr (.inl k)))) λx mx k=>(aI.1 mx).elim (λe=>up (c.4 (.inr (.inr ⟨_,.head _,(e▸k:p.2.testBit t=true)⟩)))) λmx=>(d.5 c.2 (.inr (.inr ⟨x,mx,k⟩))).tl⟩
section
noncomputable def Ly (m:Nat->Nat->Nat) (q:Nat) (s:cQ):List (Nat×Nat):=s.red.map λr=>(r,m q r)
noncomputable def wg (G:aJ) (m:Nat->Nat->Nat) (q:Nat) (s:cQ):RS×List (Nat×Nat):=ux G q ⟨qC s.mv,0,[]⟩ (Ly m q s)
noncomputable def sE (G:aJ) (m:Nat->Nat->Nat) (q:Nat) (s:cQ):List Int:=v7 (wg G m q s).1.sh (wg G m q s).2 (wg G m q s).1.bar
inductive P9 (s:cQ) (m:Nat->Nat) (row:List Int):Prop
 |mk (len:row.length=5) (ent:∀t<5,row.getD t 0=0∨row.getD t 0= -1048576∨(∃r∈s.red,row.getD t 0= -(r:Int))∨∃p,(t,p)∈s.mv∧row.getD t 0=if t=0 then 1048576 else(p:Int)) (zero:∀t<5,row.getD t 0=0->(∀p,(t,p)∉s.mv)∧∀r∈s.red,(m r).testBit t=false)
variable {H:Hp} {u g LS:Nat} {G:aJ} {A:GA} {SA:List Nat} {S:List cQ} {m:Nat->Nat->Nat} {q:Nat} {s:cQ}
theorem sF {l:List (Nat×Nat)} {t:Nat} {v:Int}:(t,v)∈qC l↔t<5∧∃p,(t,p)∈l∧v=if t=0 then 1048576 else(p:Int):=
 az.trans ⟨λh=>h.elim λx w=>(congrArg (·.1) w.2:x.1=t)▸⟨of_decide_eq_true (bz.1 w.1).2,x.2,(bz.1 w.1).1,(congrArg (·.2) w.2).symm⟩,λh=>h.2.elim λp w=>⟨(t,p),bz.2 ⟨w.1,decide_eq_true h.1⟩,w.2▸rfl⟩⟩
theorem bM.NG (h:bM H u g G A LS SA S) (la:ni G S m) (e:S[q]?=some s):∀p∈Ly m q s,p.2<32:=all_map λr mr=>la.1 q s r e mr
theorem bM.NH (h:bM H u g G A LS SA S) (la:ni G S m) (e:S[q]?=some s) {t:Nat} (z:t<5):Cv t ⟨qC s.mv,0,[]⟩ (wg G m q s).1 (Ly m q s) (wg G m q s).2:=
 KP z _ _ (Nat.zero_lt_succ _) (h.NG la e)
theorem bM.Oh (h:bM H u g G A LS SA S) {X p:Nat} (k:Mv S q X p):0<p∧p<S.length:=(k.ker h.6).elim λs w=>w.elim λt w=>
 ⟨dH λc=>k.He h.1 h.6 w.2.1 (yQ h.6 (c▸w.2.1)▸ .head _:0∈t.ker) (Nat.zero_sub _),(ah.1 w.2.1).1⟩
theorem kw (sh:List (Nat×Int)) (lk:List (Nat×Nat)) (bar:Nat):(v7 sh lk bar).length=5:=
 (ou (λ_ _=>aU) ..).trans ((ou (λ_ _=>aU) ..).trans (ou (λ_ _=>qE) ..))
theorem bM.rw (h:bM H u g G A LS SA S) (la:ni G S m) (e:S[q]?=some s):P9 s (m q) (sE G m q s):=by
 have rl:∀p∈(wg G m q s).2,p.1∈s.red:=λp hp=>by
  have:=(h.NH la e (t:=0) (by decide)).3▸az.2 ⟨p,hp,rfl⟩
  rw[Ly,bF]at this
  exact(az.1 this).elim λr w=>(show r=p.1 from w.2)▸w.1
 refine⟨kw ..,λt z=>?_,λt z h0=>?_⟩
 ·exact AB z (λ_ e1=>.inr (.inl e1)) (λv mv e1=>(sF.1 ((h.NH la e z).1 _ mv)).2.elim λy w=>.inr (.inr (.inr ⟨y,w.1,e1.trans w.2⟩))) (λp mp _ e1=>.inr (.inr (.inl ⟨p.1,rl p mp,e1⟩))) λ_ _ _ e1=>.inl e1
 ·refine AB (R:=_∧_) z (λ_ e1=>absurd (h0.symm.trans e1) (by decide)) (λv mv e1=>(sF.1 ((h.NH la e z).1 _ mv)).2.elim λy w=>?_) (λp mp _ e1=>?_) λn1 n2 n3 _=>?_
  ·exact absurd (w.2.symm.trans (e1.symm.trans h0)) (Dg.om (· ≠0) (λ_=>by decide) λ_ k=>di (h.Oh ⟨s,e,w.1⟩).1 (a_.1 k))
  ·exact absurd (a_.1 (m6.1 (e1.symm.trans h0))) (di (h.mJ e _ (rl p mp)).1)
  ·have cc:¬xD t (qC s.mv) 0 (Ly m q s):=λhh=>((h.NH la e z).5 (Nat.zero_lt_succ _) hh).elim n2 λk=>k.elim n1 λk=>k.elim λp w=>ff ((n3 p w.1).symm.trans w.2)
   exact⟨λp mp=>cc (.inl (az.2 ⟨_,sF.2 ⟨z,p,mp,rfl⟩,rfl⟩)),λr mr=>dK.2 λk=>cc (.inr (.inr ⟨(r,m q r),az.2 ⟨r,mr,rfl⟩,k⟩))⟩
end
section
noncomputable def LA (S:List cQ) (q X:Nat):Option Nat:=((S[q]?.map (·.mv)).getD []).find? (λp=>p.1==X)|>.map (·.2)
noncomputable def FE (G:aJ) (S:List cQ) (r:Nat) (st:List Nat):List Nat:=(st.drop (G.right r).length).casesOn [] λp dk=>(LA S p (G.left r)).getD 0::p::dk
noncomputable def res (G:aJ) (S:List cQ) (b:Nat->Int) (n:Nat):List Nat->Option (List Nat×Int):=
 n.rec (λ_=>none) λ_ f st=>if 0≤b (st.headD 0)then some (st,b (st.headD 0))else f (FE G S (-(b (st.headD 0))).toNat st)
noncomputable def Act (S:List cQ) (t:Nat) (b:Nat->Int):Prop:=∀(q:Nat) s,S[q]?=some s->b q=0∨(∃x,Mv S q t x∧b q=if t=0 then 1048576 else(x:Int))∨∃r∈s.red,b q= -(r:Int)
variable {H:Hp} {u g LS:Nat} {G:aJ} {A:GA} {SA:List Nat} {S:List cQ} {m:Nat->Nat->Nat} {q t:Nat} {s:cQ} {a b:Nat->Int}
theorem bM.LA (h:bM H u g G A LS SA S) {X p:Nat} (k:Mv S q X p):LA S q X=some p:=k.elim λs w=>by
 rw[Mine.LA,w.1,Option.map_some,Option.getD_some]
 cases c:s.mv.find? λp=>p.1==X with
 |none=>exact absurd (beq_self_eq_true X) (dS.1 c _ w.2)
 |some y=>exact congrArg (λy:Nat×Nat=>some y.2) (iN (f:=(·.1)) (h.keys_nodup w.1) (dE c) w.2 (beq_iff_eq.1 (jF (p:=λp:Nat×Nat=>p.1==X) c)))
theorem jr.top {st:List Nat} (k:jr S (q::st)) (h:bM H u g G A LS SA S):∃s,S[q]?=some s:=
 k.E (λe=>h.6.1.imp λs w=>e▸w.1) λ_ _ _ _ _ m=>(m.ker h.6).elim λ_ w=>w.imp λ_ w=>w.2.1
inductive xE (G:aJ) (S:List cQ) (r:Nat) (q:Nat) (st:List Nat) (p:Nat) (dk:List Nat) (p2:Nat):Prop
 |mk (d:(q::st).drop (G.right r).length=p::dk) (e:FE G S r (q::st)=p2::p::dk) (k:jr S (p::dk)) (w:Walk S p (G.right r) q) (i:It S p (G.off r)) (m:Mv S p (G.left r) p2) (rd:PN G S r (q::st) (p2::p::dk))
theorem jr.FE (h:bM H u g G A LS SA S) {st:List Nat} (k:jr S (q::st)) (e:S[q]?=some s) {r:Nat} (m:r∈s.red) {R:Prop} (f:∀p dk p2,xE G S r q st p dk p2->R):R:=
 k.red h.1 h.6 e m λp dk p2 d k' w i mv=>f p dk p2 ⟨d,by rw[Mine.FE,d];exact congrArg (λo:Option Nat=>o.getD 0::p::dk) (h.LA mv),k',w,i,mv,⟨q,st,s,rfl,e,m⟩,p,dk,p2,d,mv,rfl⟩
theorem toNat_neg (r:Nat):(- -(r:Int)).toNat=r:=by rw[iO];rfl
theorem qF {st:List Nat} {n:Nat} (c:0≤b q):res G S b (n+1) (q::st)=some (q::st,b q):=if_pos c
theorem oU {st:List Nat} {n r p p2:Nat} {dk:List Nat} (c:¬0≤b q) (er:b q= -(r:Int)) (ro:xE G S r q st p dk p2):res G S b (n+1) (q::st)=res G S b n (p2::p::dk):=
 (if_neg c:res G S b (n+1) (q::st)=res G S b n (Mine.FE G S (-(b q)).toNat (q::st))).trans (congrArg (res G S b n) ((congrArg (λv:Int=>Mine.FE G S (-v).toNat (q::st)) er).trans (by rw[toNat_neg];exact ro.2)))
theorem Act.neg (hb:Act S t b) (e:S[q]?=some s) (c:¬0≤b q):∃r∈s.red,b q= -(r:Int):=(hb q s e).elim (λw=>(c (qL w.symm)).elim) λw=>w.elim (λw=>w.elim λx w=>(c (by rw[w.2];exact Dg.om (0≤ ·) (λ_=>by decide) λ_=>aS x)).elim) id
theorem uZ (h:bM H u g G A LS SA S) (hb:Act S t b) {R:Prop} (n:Nat):∀q st dk v,jr S (q::st)->res G S b n (q::st)=some (dk,v)->
  (∀q' lC,dk=q'::lC->jr S (q'::lC)->v=b q'->0≤v->IS G S dk (q::st)->R)->R:=by
 induction n with
 |zero=>exact λq st dk v _ e=>cW rfl e
 |succ n ih=>
  intro q st dk v k e f
  by_cases c:0≤b q
  ·have e:=ax ((qF c).symm.trans e)
   have e1:q::st=dk:=congrArg (·.1) e
   have e2:b q=v:=congrArg (·.2) e
   exact f q st e1.symm k e2.symm (e2▸c) (e1▸ .nil)
  ·exact(k.top h).elim λs es=>(hb.neg es c).elim λr w=>k.FE h es w.1 λp mI p2 ro=>ih p2 (p::mI) dk v (ro.3.push ro.6) ((oU c w.2 ro).symm.trans e) λq' lC a b c d ch=>f q' lC a b c d (.cons ro.7 ch)
theorem IS.E {e st:List Nat} {R:Prop} (c:IS G S e st) (h0:st=e->R) (h1:∀r lD,PN G S r st lD->IS G S e lD->R):R:=by
 cases c with
 |nil=>exact h0 rfl
 |cons a b=>exact h1 _ _ a b
theorem ET (h:bM H u g G A LS SA S) (la:ni G S m) (hb:Act S t b) (zt:t<5) {st dk:List Nat} {n:Nat} {v:Int} (k:jr S (q::st)) (es:S[q]?=some s)
  (z1:∀p,(t,p)∉s.mv) (z2:∀r∈s.red,(m q r).testBit t=false) (e:res G S b n (q::st)=some (dk,v)):v=0:=by
 refine uZ h hb n _ _ _ _ k e λq' lC e1 k1 e2 v0 ch=>(k1.top h).elim λs' Mi=>(hb q' s' Mi).elim (λw=>e2.trans w) λw=>w.elim (λw=>w.elim λx mv=>False.elim ?_) λw=>w.elim λr w=>?_
 ·refine ch.E (λa=>mv.1.elim λs2 w=>?_) λr lD r0 c=>r0.1.elim λq1 a=>a.elim λmI a=>a.elim λs1 a=>r0.2.elim λp b=>b.elim λdk b=>b.elim λp2 b=>la.2.elim λF f=>?_
  ·have eq:q=q':=(bA (a.trans e1)).1
   exact z1 x (ax (es.symm.trans (eq▸w.1))▸w.2)
  ·have mr:r∈s.red:=ax (es.symm.trans ((bA a.1).1▸a.2.1))▸a.2.2
   have z:=jr.tB h.1 h.6 es mr
   refine k.red h.1 h.6 es mr λp' Kq p2' d k' w i mv'=>?_
   have eq:=bA (d.symm.trans b.1)
   have hF:=Bu h.1 h.6 f.1 zt mv.1 (e1▸c) p' (G.left r) Kq [] (Ex h.1.13 z.2.1) k' (b.2.2▸eq.1▸eq.2▸ .base (eq.1▸b.2.1))
   exact ff ((z2 r mr).symm.trans (f.2 p' r q t p2' s z.1 z.2.1 i w mv' es mr hF))
 ·exact absurd (h.mJ Mi r w.1).1 (bE.2 (dM.1 (kA.1 (e2.trans w.2▸v0))))
theorem HB (h:bM H u g G A LS SA S) (la:ni G S m) (ha:Act S t a) (hb:Act S t b) (zt:t<5) (ab:∀(q:Nat) s,S[q]?=some s->a q≠0->b q=a q)
  (z:∀(q:Nat) s,S[q]?=some s->a q=0->b q≠0->(∀p,(t,p)∉s.mv)∧∀r∈s.red,(m q r).testBit t=false) (n:Nat):∀q st,jr S (q::st)->
  res G S a n (q::st)=res G S b n (q::st)∨(∃dk,res G S a n (q::st)=some (dk,0))∧(res G S b n (q::st)=none∨∃dk,res G S b n (q::st)=some (dk,0)):=by
 induction n with
 |zero=>exact λ_ _ _=>.inl rfl
 |succ n ih=>
  refine λq st k=>(k.top h).elim λs es=>?_
  have z0:∀{b:Nat->Int},b q=0->res G S b (n+1) (q::st)=some (q::st,0):=λe=>(qF (qL e.symm)).trans (by rw[e])
  by_cases c:a q=0
  ·by_cases cb:b q=0
   ·exact .inl ((z0 c).trans (z0 cb).symm)
   ·refine .inr ⟨⟨q::st,z0 c⟩,?_⟩
    cases e:res G S b (n+1) (q::st)with
    |none=>exact .inl rfl
    |some y=>exact .inr ⟨y.1,congrArg (λv=>some (y.1,v)) (ET h la hb zt k es (z q s es c cb).1 (z q s es c cb).2 e)⟩
  ·have e:=ab q s es c
   by_cases c0:0≤a q
   ·exact .inl ((qF c0).trans (e▸(qF (e.symm▸c0)).symm))
   ·exact(ha.neg es c0).elim λr w=>k.FE h es w.1 λp mI p2 ro=>by
     rw[oU c0 w.2 ro,oU (e.symm▸c0) (e.trans w.2) ro];exact ih _ _ (ro.3.push ro.6)
end
section
structure TD where
 rows:List (List Int)
 FF:List (List (Nat×Nat))
 ub:List Nat
 cf:List jM
 st:List jM
noncomputable def TD.at_ (d:TD) (q t:Nat):Int:=(d.rows.getD q []).getD t 0
noncomputable def TD.act (d:TD) (t q:Nat):Int:=if d.at_ q t= -1048576 then 0 else if d.at_ q t=0 then -(d.ub.getD q 0:Nat)else d.at_ q t
structure TA where
 nm:Nat
 lf:Nat
 ln:Nat
 bf:Nat
 df:Nat
 nu:Nat
 rw:Nat
 go:Nat
 cf:Nat
 st:Nat
 ra:List Nat
 ga:List Nat
 ca:List (Nat×jM)
 sa:List (Nat×jM)
noncomputable def P_ (g:Nat) (a:TA):List (Nat×V):=[(47,.ref a.nm),(29,.int 5),(69,.ref a.lf),(70,.ref a.ln),(71,.ref a.bf),(72,.ref a.df),(35,.ref a.nu),(12,.ref g),(73,.ref a.rw),(21,.ref a.go),(19,.ref a.cf),(20,.ref a.st),(74,.str 15)]
inductive TabAt (H:Hp) (T g:Nat) (G:aJ) (N:Nat) (a:TA) (d:TD):Prop
 |mk (inst:H[T]?=some (.inst 7 (P_ g a))) (rw:H[a.rw]?=some (.list (a.ra.map .ref))) (rl:a.ra.length=N) (ro:∀(q b:Nat),a.ra[q]?=some b->H[b]?=some (.list (de (d.rows.getD q [])))) (go:H[a.go]?=some (.list (a.ga.map .ref))) (gl:a.ga.length=N) (gr:∀(q b:Nat),a.ga[q]?=some b->H[b]?=some (.bc (nd vI (d.FF.getD q [])))) (df:H[a.df]?=some (.list (vn d.ub))) (dl:d.ub.length=N) (lf:H[a.lf]?=some (.list (vn ((List.range 5).map G.left)))) (ln:H[a.ln]?=some (.list (vn ((List.range 5).map λr=>(G.right r).length)))) (cf:H[a.cf]?=some (iQ a.ca)) (cd:∀p∈a.ca,H[p.1]?=some p.2.o) (ce:a.ca.map (·.2)=d.cf) (st:H[a.st]?=some (iQ a.sa)) (sd:∀p∈a.sa,H[p.1]?=some p.2.o) (se:a.sa.map (·.2)=d.st) (r5:∀q<N,(d.rows.getD q []).length=5) (z:N≤2^18)
variable {H H':Hp} {T g N q t r:Nat} {G:aJ} {a:TA} {d:TD}
theorem TabAt.ext (h:TabAt H T g G N a d) (e:Ext H H'):TabAt H' T g G N a d:=
 ⟨e _ _ h.1,e _ _ h.2,h.3,λq b k=>e _ _ (h.4 q b k),e _ _ h.5,h.6,λq b k=>e _ _ (h.7 q b k),e _ _ h.8,h.9,e _ _ h.10,e _ _ h.11,e _ _ h.12,λp m=>e _ _ (h.13 p m),h.14,e _ _ h.15,λp m=>e _ _ (h.16 p m),h.17,h.18,h.19⟩
theorem EU (h:TabAt H T g G N a d):JR 63 [.ref T] H (.int N) H:=by
 refine c7 63 [.ref T] H rfl rfl (L:=[some (.ref T)]) rfl λQ k=>.ret (.len (.attr (.var rfl) h.1 rfl rfl) (.list h.2 ?_)) (k λj=>?_)
 ·rw[ae,h.3];exact aj h.19 (by decide)
 ·rw[ae,h.3]at j;exact j
theorem mK (h:TabAt H T g G N a d) (z:q<N):JR 64 [.ref T,.int q] H (.int (d.ub.getD q 0:Nat)) H:=
 c7 64 [.ref T,.int q] H rfl rfl (L:=[some (.ref T),some (.int q)]) rfl λQ k=>.ret (.idx (.attr (.var rfl) h.1 rfl rfl) (.var rfl) (.nat h.8 (cN (getD_at (h.9.symm▸z))))) (k id)
theorem ox (h:TabAt H T g G N a d) (z:q<N) (t5:t<5):JR 65 [.ref T,.int q,.int t] H (.int (d.at_ q t)) H:=
 have e:=ao (h.3.symm▸z:q<a.ra.length)
 c7 65 [.ref T,.int q,.int t] H rfl rfl (L:=[some (.ref T),some (.int q),some (.int t)]) rfl λQ k=>.ret (.idx (.idx (.attr (.var rfl) h.1 rfl rfl) (.var rfl) (.nat h.2 (dy e))) (.var rfl) (.nat (h.4 _ _ e) (kQ (getD_at ((h.18 q z).symm▸t5))))) (k id)
theorem u0 (h:TabAt H T g G N a d) (z:r<5):JR 68 [.ref T,.int r] H (.int (G.right r).length) H:=
 c7 68 [.ref T,.int r] H rfl rfl (L:=[some (.ref T),some (.int r)]) rfl λQ k=>.ret (.idx (.attr (.var rfl) h.1 rfl rfl) (.var rfl) (.nat h.11 (cN (by rw[aH,dB z];rfl)))) (k id)
theorem xG (h:TabAt H T g G N a d) (z:r<5):JR 70 [.ref T,.int r] H (.int (G.left r)) H:=
 c7 70 [.ref T,.int r] H rfl rfl (L:=[some (.ref T),some (.int r)]) rfl λQ k=>.ret (.idx (.attr (.var rfl) h.1 rfl rfl) (.var rfl) (.nat h.10 (cN (by rw[aH,dB z];rfl)))) (k id)
theorem EV {X p:Nat} (h:TabAt H T g G N a d) (z:q<N) (m:(X,p)∈d.FF.getD q []) (n:((d.FF.getD q []).map (·.1)).Nodup):JR 69 [.ref T,.int q,.int X] H (.int p) H:=by
 have e:=ao (h.6.symm▸z:q<a.ga.length)
 have D:=dY.i (k:=(X:Int)) (h.7 _ _ e)
 rw[kW m n]at D
 exact c7 69 [.ref T,.int q,.int X] H rfl rfl (L:=[some (.ref T),some (.int q),some (.int X)]) rfl λQ k=>.ret (.qO (.idx (.attr (.var rfl) h.1 rfl rfl) (.var rfl) (.nat h.5 (dy e))) (.var rfl) (.neg .lit) (.inl ⟨_,h.7 _ _ e⟩) D) (k id)
theorem u2 (h:TabAt H T g G N a d) (z:q<N) (t5:t<5):JR 67 [.ref T,.int q,.int t] H (.int (d.act t q)) H:=by
 refine c7 67 [.ref T,.int q,.int t] H rfl rfl (L:=[some (.ref T),some (.int q),some (.int t),none]) rfl λQ k=>.set (.bx (.var rfl) h.1 rfl rfl (.av (.var rfl) (.av (.var rfl) .bn)) (ox h z t5)) ?_
 have T1:∀i,JT (.cmp .eq (.var 3) (.lit (.int i))) [some (.ref T),some (.int q),some (.int t),some (.int (d.at_ q t))] H (d.at_ q t==i) H:=λi=>.bY (.var rfl) .lit (.eq (.int _ i))
 unfold TD.act at k
 by_cases c:d.at_ q t= -1048576
 ·rw[if_pos c]at k
  have:=T1 (-1048576);rw[beq_iff_eq.2 c]at this
  exact .then this (.ret .lit (k id))
 ·rw[if_neg c]at k
  have t1:=T1 (-1048576);rw[beq_eq_false_iff_ne.2 c]at t1
  refine .pass t1 ?_
  by_cases c0:d.at_ q t=0
  ·rw[if_pos c0]at k
   have:=T1 0;rw[beq_iff_eq.2 c0]at this
   exact .then this (.ret (.neg (.bx (.var rfl) h.1 rfl rfl (.av (.var rfl) .bn) (mK h z))) (k id))
  ·rw[if_neg c0]at k
   have:=T1 0;rw[beq_eq_false_iff_ne.2 c0]at this
   exact .pass this (.ret (.var rfl) (k id))
theorem HC {b:Nat} {c:jM} (h:H[b]?=some c.o):JR 71 [.ref b] H c.told H:=
 c7 71 [.ref b] H rfl rfl (L:=[some (.ref b)]) rfl λQ k=>.ret (.tup (.av (.attr (.var rfl) h rfl rfl) (.av (.attr (.var rfl) h rfl rfl) (.av (.attr (.var rfl) h rfl rfl) (.av (.attr (.var rfl) h rfl rfl) (.av (.attr (.var rfl) h rfl rfl) .bn))))) (ib _ rfl)) (k id)
end
section
inductive uz (H:Hp) (T g:Nat) (G:aJ) (S:List cQ) (a:TA) (d:TD):Prop
 |mk (tab:TabAt H T g G S.length a d) (FF:∀(q:Nat) s,S[q]?=some s->d.FF.getD q []=goN s.mv) (act:∀t<5,Act S t (d.act t))
theorem uz.ext {H H':Hp} {T g:Nat} {G:aJ} {S:List cQ} {a:TA} {d:TD} (h:uz H T g G S a d) (e:Ext H H'):uz H' T g G S a d:=⟨h.1.ext e,h.2,h.3⟩
noncomputable def uA (st:List Nat):List V:=st.foldr (λq l=>l++[.int (q:Nat)]) []
noncomputable def rD (st:List Nat):O:=.list (uA st)
variable {H H':Hp} {u g LS T X q t r:Nat} {G:aJ} {A:GA} {SA:List Nat} {S:List cQ} {a:TA} {d:TD} {R:Prop} {st dk:List Nat}
theorem oy (l:List Nat) (x:Nat):vn (l++[x])=vn l++[.int x]:=vH.symm
theorem v9:uA st=vn st.reverse:=by
 induction st with
 |nil=>rfl
 |cons q st ih=>rw[k7,oy,←ih];rfl
theorem oV:(uA st).length=st.length:=by rw[v9,aX,cT]
theorem HD {k:Nat} (z:k≤st.length):(uA st).take (st.length-k)=uA (st.drop k):=by
 rw[v9,v9,vn,vn,←iu,List.take_reverse,lY z]
theorem jr.sh {S:List cQ} (k:jr S st) {P:List Nat->Prop} (f:∀q st,P (q::st)):P st:=by cases k<;>exact f _ _
theorem jr.lt {S:List cQ} (k:jr S (q::st)) (h:bM H u g G A LS SA S):q<S.length:=(k.top h).elim λ_ e=>(ah.1 e).1
theorem Act.next {b:Nat->Int} (hb:Act S t b) (k:jr S (q::st)) (h:bM H u g G A LS SA S) (n:Nat) (k0:0≤b q->res G S b (n+1) (q::st)=some (q::st,b q)->R)
  (k1:∀(r:Nat) p dk p2,0<r->r<5->b q= -(r:Int)->xE G S r q st p dk p2->res G S b (n+1) (q::st)=res G S b n (p2::p::dk)->R):R:=by
 by_cases c:0≤b q
 ·exact k0 c (qF c)
 ·exact(k.top h).elim λs es=>(hb.neg es c).elim λr w=>k.FE h es w.1 λp dk p2 ro=>k1 r p dk p2 (h.mJ es r w.1).1 (h.mJ es r w.1).2 w.2 ro (oU c w.2 ro)
theorem xE.klt {p p2:Nat} (ro:xE G S r q st p dk p2):C2 ((G.right r).length≤st.length) (dk.length≤st.length):=
 have e:(q::st).length-(G.right r).length=dk.length+1:=gO.symm.trans (congrArg List.length ro.1)
 ⟨dQ λc=>cK _ (e.symm.trans (nA c)),mR (aj (aF e.symm) (mL ..))⟩
theorem uz.go (h:bM H u g G A LS SA S) {H2:Hp} (hT:uz H2 T g G S a d) {p p2:Nat} (z:r<5) (ro:xE G S r q st p dk p2):JR 69 [.ref T,.int p,.int (G.left r)] H2 (.int p2) H2:=ro.6.elim λs w=>
 EV hT.1 (ah.1 w.1).1 (hT.2 _ _ w.1▸bz.2 ⟨w.2,decide_eq_true (Ex h.1.13 z)⟩) (hT.2 _ _ w.1▸(h.keys_nodup w.1).sublist (jQ.map _))
theorem NI {L:Lc} {e c:CE} {Y p p2:Nat} (gY:H[Y]?=some (rD (q::st))) (ro:xE G S r q st p dk p2) (z:st.length≤1000) (ya:JE e L H (.ref Y) H) (yc:JE c L H (.int (G.right r).length) H)
  (k:JT (.cmp .ge c (.len e)) L H false H->∀Z H3,JE (.sK e (.bin .sub (.len e) c)) L H (.ref Z) H3->H[Z]?=none->H3[Z]?=some (rD (p::dk))->Ext H H3->R):R:=by
 have ln:JE (.len e) L H (.int (q::st).length) H:=(JE.len ya (.list gY (aj (aF oV) (aj (aM z) (by decide))))).to (congrArg (λn:Nat=>V.int n) oV)
 have kl:=cu ro.klt.1
 refine IB (n:=(q::st).length-(G.right r).length) ya ((JE.bin ln yc (.sub _ _ _)).to (congrArg V.int (lF kl).symm)) (.list gY) (aj (mL ..) (aj (aM z) (by decide))) λZ H3 j f g e=>?_
 rw[HD kl,ro.1]at g
 exact k (.bY yc ln (.geF (dc ro.klt.1))) Z H3 j f g e
noncomputable def FG (G:aJ) (S:List cQ) (b:Nat->Int) (st:List Nat):Bool:=((res G S b 30 st).map λy=>decide (0<y.2)).getD false
inductive DI (H0:Hp) (G:aJ) (S:List cQ) (b:Nat->Int) (m n:Nat) (lC:List Nat) (Y q:Nat) (st:List Nat) (H:Hp):Prop
 |mk (e:Ext H0 H) (g:H[Y]?=some (rD (q::st))) (k:jr S (q::st)) (l:st.length≤500+n) (r:∀k,n+k=m->res G S b m lC=res G S b k (q::st))
theorem DI.next {b:Nat->Int} {m n Y Z p p2:Nat} {lC:List Nat} {H0 H H3:Hp} (D:DI H0 G S b m n lC Y q st H) (ro:xE G S r q st p dk p2) (e3:Ext H H3) (f3:H[Z]?=none) (g3:H3[Z]?=some (rD (p::dk))) (e:∀k,res G S b (k+1) (q::st)=res G S b k (p2::p::dk)):
  DI H0 G S b m (n+1) lC Z p2 (p::dk) (H3.set Z (rD (p2::p::dk))):=
 ⟨(D.1.trans e3).set (D.1.none f3),dh g3,ro.3.push ro.6,aM (aj ro.klt.2 D.4),λk ek=>(D.5 (k+1) ((qM n k).symm.trans ek)).trans (e k)⟩
theorem xH (h:bM H u g G A LS SA S) (hT:uz H T g G S a d) (hX:H[X]?=some (rD st)) (k:jr S st) (sl:st.length≤500) (t5:t<5)
  (kk:∀H',JR 24 [.ref T,.ref X,.int t,.int 30] H (.bool (FG G S (d.act t) st)) H'->Ext H H'->R):R:=by
 have mI:∃q mI,st=q::mI:=k.sh (P:=λst=>∃q mI,st=q::mI) λq st=>⟨q,st,rfl⟩
 refine mI.elim λq0 w=>w.elim λmI HE=>c7 24 [.ref T,.ref X,.int t,.int 30] H rfl rfl (L:=[some (.ref T),some (.ref X),some (.int t),some (.int 30),none,none,none,none,none]) rfl λQ q'=>.set (.var rfl) ?_
 refine .tx 30 (λ_ (s:Nat×Nat×List Nat×Option V×Option V×Option V×Option V)=>[some (.ref T),some (.ref X),some (.int t),some (.int 30),some (.ref s.1),s.2.2.2.1,s.2.2.2.2.1,s.2.2.2.2.2.1,s.2.2.2.2.2.2])
  (λn s H'=>DI H G S (d.act t) 30 n st s.1 s.2.1 s.2.2.1 H') (X,q0,mI,none,none,none,none) (.var rfl) (by decide) ⟨.r,HE▸hX,HE▸k,aj (iP _) (aj (aF (congrArg List.length HE.symm)) sl),λk e=>by rw[←e,mO,HE]⟩ (λn s H2 K hn D kn kr=>?_) λs H2 D=>?_
 ·have EW:=hT.ext D.1
  have sz:s.2.2.1.length≤1000:=aj D.4 (aj (bZ (aK hn) _) (by decide))
  refine .set (.bx (.var rfl) EW.1.1 rfl rfl (.av (.idx (.var rfl) (.neg .lit) (.last D.2)) (.av (.var rfl) .bn)) (u2 EW.1 (D.3.lt h) t5)) ?_
  have T1:=JT.bY (H:=H2) (L:=[some (.ref T),some (.ref X),some (.int t),some (.int 30),some (.ref s.1),some (.int n),some (.int (d.act t s.2.1)),s.2.2.2.2.2.1,s.2.2.2.2.2.2]) (.var (i:=6) rfl) .lit (.ge _ 0)
  refine(oG hn).elim λk0 ek=>(hT.3 t t5).next D.3 h k0 (λc e=>?_) λr p dk p2 r0 r5 ec ro _=>?_
  ·exact .then (T1.to (decide_eq_true c)) (.ret (.cmp (.var rfl) .lit (.gt _ _)) (kr (q' λj=>kk H2 (by rw[FG,D.5 (k0+1) ((qM n k0).symm.trans ek),e];exact j) D.1)))
  ·have ng:∀{L:Lc} {H3:Hp},L[6]?=some (some (.int (d.act t s.2.1)))->JE (.neg (.var 6)) L H3 (.int r) H3:=λx=>(JE.neg (.var x)).to (by rw[ec,iO])
   refine .pass (T1.to (decide_eq_false λk=>by rw[ec]at k;exact bE.2 (dM.1 (kA.1 k)) r0)) (.set (.bx (.var rfl) EW.1.1 rfl rfl (.av (ng rfl) .bn) (u0 EW.1 r5)) ?_)
   refine NI (e:=.var 4) (c:=.var 7) D.2 ro sz (.var rfl) (.var rfl) λT2 Z H3 j3 f3 g3 e3=>.pass T2 (.set j3 ?_)
   have HF:=EW.ext e3
   refine .set (.bx (.var rfl) HF.1.1 rfl rfl (.av (.idx (.var rfl) (.neg .lit) (.last g3)) (.av (.bx (.var rfl) HF.1.1 rfl rfl (.av (ng rfl) .bn) (xG HF.1 r5)) .bn)) (HF.go h r5 ro)) (.pass (.bY (.var (i:=8) rfl) .lit (.to (.lt p2 0) (decide_eq_false (fy.2 (aS p2)))))
    (.expr (.append (.var rfl) (.var rfl) ⟨_,g3⟩ g3 (aA (aF oV) (aA (aM (aj ro.klt.2 sz)) (by decide)))) (.nil (kn (Z,p2,p::dk,some (.int n),some (.int (d.act t s.2.1)),some (.int (G.right r).length),some (.int p2)) rfl (D.next ro e3 f3 g3 λk=>oU (λk=>by rw[ec]at k;exact bE.2 (dM.1 (kA.1 k)) r0) ec ro)))))
 ·exact .ret .lit (q' λj=>kk H2 (by rw[FG,D.5 0 rfl];exact j) D.1)
end
section
variable {H H':Hp} {u g LS T X q t r:Nat} {G:aJ} {A:GA} {SA:List Nat} {S:List cQ} {a:TA} {d:TD} {R:Prop} {st dk:List Nat}
noncomputable def FH (G:aJ) (S:List cQ) (d:TD) (st:List Nat) (t:Nat):Bool:=t !=1&&(t !=2&&FG G S (d.act t) st)
theorem rR (h:bM H u g G A LS SA S) (hT:uz H T g G S a d) (hX:H[X]?=some (rD st)) (k:jr S st) (sl:st.length≤500)
  (kk:∀F H',JR 25 [.ref T,.ref X,.int 30] H (.ref F) H'->H[F]?=none->H'[F]?=some (.list (vn ((List.range 5).filter (FH G S d st))))->Ext H H'->R):R:=by
 refine c7 25 [.ref T,.ref X,.int 30] H rfl rfl (L:=[some (.ref T),some (.ref X),some (.int 30),none,none]) rfl λQ q'=>hN λF H1 j fF gF e1=>.set j ?_
 refine .tx 5 (λ_ (x4:Option V)=>[some (.ref T),some (.ref X),some (.int 30),some (.ref F),x4]) (λn x4 H'=>C2 (eE [F] H1 H') (H'[F]?=some (.list (vn ((List.range n).filter (FH G S d st)))))) none
  (.attr (.var rfl) (e1 _ _ hT.1.1) rfl rfl) (by decide) ⟨.r,gF⟩ (λt x4 H2 K t5 h2 cg _=>?_) λx4 H2 h2=>?_
 ·have e2:Ext H H2:=h2.1.new fF e1
  have T1:=λb (c:cL H2 .ne (.int t) (.int 1) b)=>JT.bY (L:=[some (.ref T),some (.ref X),some (.int 30),some (.ref F),some (.int t)]) (.var (i:=4) rfl) .lit c
  have T2:=λb (c:cL H2 .ne (.int t) (.int 2) b)=>JT.bY (L:=[some (.ref T),some (.ref X),some (.int 30),some (.ref F),some (.int t)]) (.var (i:=4) rfl) .lit c
  have no:∀{H3},FH G S d st t=false->Ext H2 H3->K .next [some (.ref T),some (.ref X),some (.int 30),some (.ref F),some (.int t)] H3:=λ{H3} c e=>cg (f:=.next) (some (.int t)) rfl ⟨h2.1.trans (.of e),by
   rw[bG,cP,dq (by rw[c];exact cA),d6,aN];exact e _ _ h2.2⟩
  have ne:∀{i:Nat},t≠i->(!((t:Int)==(i:Int)))=true:=λc=>bne_iff_ne.2 λk=>c (a_.1 k)
  by_cases c1:t=1
  ·exact .pass (.iD (.af (T1 _ (.to (.ne (.int t 1)) (by rw[c1];rfl))))) (.nil (no (by rw[FH,c1];rfl) .r))
  by_cases c2:t=2
  ·exact .pass (.iD (.at (T1 _ (.to (.ne (.int t 1)) (ne c1))) (.af (T2 _ (.to (.ne (.int t 2)) (by rw[c2];rfl)))))) (.nil (no (by rw[FH,c2];rfl) .r))
  have ex:FH G S d st t=FG G S (d.act t) st:=by rw[FH,bne_iff_ne.2 c1,bne_iff_ne.2 c2];rfl
  refine xH (h.ext e2) (hT.ext e2) (e2 _ _ hX) k sl t5 λH3 j3 e3=>?_
  have T3:=JT.ir (L:=[some (.ref T),some (.ref X),some (.int 30),some (.ref F),some (.int t)]) (e:=.call 24 (.cons (.var 0) (.cons (.var 1) (.cons (.var 4) (.cons (.var 2) .nil))))) (.call (.av (.var rfl) (.av (.var rfl) (.av (.var rfl) (.av (.var rfl) .bn)))) j3) (.bool _) rfl
  by_cases w:FG G S (d.act t) st=true
  ·exact .then (.iD (.at (T1 _ (.to (.ne (.int t 1)) (ne c1))) (.at (T2 _ (.to (.ne (.int t 2)) (ne c2))) (.at (T3.to w) .lu)))) (.expr (.append (.var rfl) (.var rfl) ⟨_,e3 _ _ h2.2⟩ (e3 _ _ h2.2) (by rw[aX];exact ri (aj (a7 ..) (aj (aF aT) (aj (aK t5) (by decide))))))
    (.nil (.nil (cg (f:=.next) (some (.int t)) rfl ⟨(h2.1.trans (.of e3)).set (.head _),by rw[dh (e3 _ _ h2.2),bG,cP,cY (ex.trans w),d6,oy]⟩))))
  ·exact .pass (.iD (.at (T1 _ (.to (.ne (.int t 1)) (ne c1))) (.at (T2 _ (.to (.ne (.int t 2)) (ne c2))) (.af (T3.to (dK.2 w)))))) (.nil (no (ex.trans (dK.2 w)) e3))
 ·exact .ret (.var rfl) (q' λj=>kk F H2 j fF h2.2 (h2.1.new fF e1))
noncomputable def FI (H H':Hp) (v:V) (o:Option (List Nat×Int)):Prop:=o.casesOn (v= .str 16) λy=>(y.2=0∧v= .none)∨(0<y.2∧∃c,v= .ref c∧H[c]?=none∧H'[c]?=some (.list (uA y.1++[.int y.2])))
theorem u3 (h:bM H u g G A LS SA S) (hT:uz H T g G S a d) (hX:H[X]?=some (rD st)) (k:jr S st) (sl:st.length≤500) (t5:t<5)
  (kk:∀v H',JR 26 [.ref T,.ref X,.int t] H v H'->Ext H H'->FI H H' v (res G S (d.act t) 60 st)->R):R:=by
 have mI:∃q mI,st=q::mI:=k.sh (P:=λst=>∃q mI,st=q::mI) λq st=>⟨q,st,rfl⟩
 refine mI.elim λq0 w=>w.elim λmI HE=>c7 26 [.ref T,.ref X,.int t] H rfl rfl (L:=[some (.ref T),some (.ref X),some (.int t),none,none,none]) rfl λQ q'=>qo (.var (i:=1) rfl) hX (aj (aF oV) (aj sl (by decide))) λY0 H1 j1 f1 g1 e1=>.set j1 ?_
 refine .tx 60 (λ_ (s:Nat×Nat×List Nat×Option V×Option V)=>[some (.ref T),some (.ref X),some (.int t),some (.ref s.1),s.2.2.2.1,s.2.2.2.2])
  (λn s H'=>DI H G S (d.act t) 60 n st s.1 s.2.1 s.2.2.1 H') (Y0,q0,mI,none,none) .lit (by decide) ⟨e1,HE▸g1,HE▸k,aj (iP _) (aj (aF (congrArg List.length HE.symm)) sl),λk e=>by rw[←e,mO,HE]⟩ (λn s H2 K hn D kn kr=>?_) λs H2 D=>?_
 ·have EW:=hT.ext D.1
  have sz:s.2.2.1.length≤1000:=aj D.4 (aj (bZ (aK hn) _) (by decide))
  refine .set (.bx (.var rfl) EW.1.1 rfl rfl (.av (.idx (.var rfl) (.neg .lit) (.last D.2)) (.av (.var rfl) .bn)) (u2 EW.1 (D.3.lt h) t5)) ?_
  have T1:=λb (c:cL H2 .gt (.int (d.act t s.2.1)) (.int 0) b)=>JT.bY (L:=[some (.ref T),some (.ref X),some (.int t),some (.ref s.1),some (.int n),some (.int (d.act t s.2.1))]) (.var (i:=5) rfl) .lit c
  have T2:=λb (c:cL H2 .eq (.int (d.act t s.2.1)) (.int 0) b)=>JT.bY (L:=[some (.ref T),some (.ref X),some (.int t),some (.ref s.1),some (.int n),some (.int (d.act t s.2.1))]) (.var (i:=5) rfl) .lit c
  refine(oG hn).elim λk0 ek=>(hT.3 t t5).next D.3 h k0 (λc e=>?_) λr p dk p2 r0 r5 ec ro _=>?_
  ·have er:=(D.5 (k0+1) ((qM n k0).symm.trans ek)).trans e
   by_cases c0:d.act t s.2.1=0
   ·exact .pass (T1 _ (.to (.gt _ 0) (decide_eq_false λk=>Int.lt_irrefl 0 (c0▸k)))) (.then (.xU (.ot (T2 _ (.to (.eq (.int _ 0)) (beq_iff_eq.2 c0))))) (.ret .lit (kr (q' λj=>kk .none H2 j D.1 (er▸ .inl ⟨c0,rfl⟩)))))
   ·have cp:=Int.lt_iff_le_and_ne.2 ⟨c,dU c0⟩
    exact .then (T1 _ (.to (.gt _ 0) (decide_eq_true cp))) (jJ (L:=[some (.ref T),some (.ref X),some (.int t),some (.ref s.1),some (.int n),some (.int (d.act t s.2.1))]) (.av (.var (i:=5) rfl) .bn) (ib _ rfl) λB H3 j3 f3 g3 e3=>MX (.var (i:=3) rfl) j3 (e3 _ _ D.2) g3 (aj (aM (aj (aF oV) (aM sz))) (by decide))
     λC H4 j4 f4 g4 e4=>.ret j4 (kr (q' λj=>kk (.ref C) H4 j ((D.1.trans e3).trans e4) (er▸ .inr ⟨cp,C,rfl,(D.1.trans e3).none f4,g4⟩))))
  ·have neg:¬0≤d.act t s.2.1:=λk=>by rw[ec]at k;exact bE.2 (dM.1 (kA.1 k)) r0
   have ng:∀{L:Lc} {H3:Hp},L[5]?=some (some (.int (d.act t s.2.1)))->JE (.neg (.var 5)) L H3 (.int r) H3:=λx=>(JE.neg (.var x)).to (by rw[ec,iO])
   refine NI (L:=[some (.ref T),some (.ref X),some (.int t),some (.ref s.1),some (.int n),some (.int (d.act t s.2.1))]) (e:=.var 3) (c:=.bx (.var 0) 27 68 (.cons (.neg (.var 5)) .nil)) D.2 ro sz (.var rfl) (.bx (.var rfl) EW.1.1 rfl rfl (.av (ng rfl) .bn) (u0 EW.1 r5)) λT3 Z H3 j3 f3 g3 e3=>?_
   have HF:=EW.ext e3
   exact .pass (T1 _ (.to (.gt _ 0) (decide_eq_false λk=>neg (jY k)))) (.pass (.xU (.of (T2 _ (.to (.eq (.int _ 0)) (beq_eq_false_iff_ne.2 λk=>neg (qL k.symm)))) (.of T3 .wV))) (.set j3
    (.expr (.append (.var rfl) (.bx (.var rfl) HF.1.1 rfl rfl (.av (.idx (.var rfl) (.neg .lit) (.last g3)) (.av (.bx (.var rfl) HF.1.1 rfl rfl (.av (ng rfl) .bn) (xG HF.1 r5)) .bn)) (HF.go h r5 ro)) ⟨_,g3⟩ g3 (aA (aF oV) (aA (aM (aj ro.klt.2 sz)) (by decide))))
     (.nil (kn (Z,p2,p::dk,some (.int n),some (.int (d.act t s.2.1))) rfl (D.next ro e3 f3 g3 λk=>oU neg ec ro))))))
 ·exact .ret .lit (q' λj=>kk (.str 16) H2 j D.1 (D.5 0 rfl▸rfl))
end
section
variable {H H0 H':Hp} {u g LS T q t r:Nat} {G:aJ} {A:GA} {a:TA} {d:TD} {R:Prop}
theorem pW {L:Lc} {k:Nat} {elt:CE} (f:Nat->Nat) (hG:b_ H g G A) (xg:L[k]?=some (some (.ref g))) (hx:∀r b x,r<5->G.rules[r]?=some x->H[b]?=some (B5 r x)->JE elt [some (.ref b)] H (.int (f r)) H)
  (q:∀a H2,JE (.comp [] elt (.ex (.attr (.var k) 5)) .nil) L H (.ref a) H2->H[a]?=none->H2[a]?=some (.list (vn ((List.range 5).map f)))->Ext H H2->R):R:=by
 have zl:(A.rs.map V.ref).length≤SZ:=by rw[ae,hG.len];exact ib _ rfl
 refine rL (elt:=elt) (ifs:=.nil) (L:=[]) (H:=H) (g:=.list A.rl (A.rs.map .ref)) (xs:=A.rs.map .ref) (λn ys H'=>H'=H∧ys=vn ((List.range n).map f)) ⟨rfl,rfl⟩ (λh=>h.1▸hG.2) (λh=>by rw[h.2,aX,ae,aT];exact aC _) zl ?_ ?_
 ·rintro n y ys H' hy ⟨rfl,rfl⟩
  obtain⟨b,hb,rfl⟩:=Ac hy
  have z:n<5:=hG.len▸(ah.1 hb).1
  obtain⟨x,e1,e2⟩:=hG.4 n b hb
  exact .yes .lu hG.2 (hx n b x z e1 e2) ⟨rfl,by rw[bG,ay,←oy];rfl⟩
 ·rintro ys H' j ⟨rfl,rfl⟩
  rw[ae,hG.len]at j
  exact kh (it:=.ex (.attr (.var k) 5)) (L:=L) (caps:=[]) rfl (.pF (.attr (.var xg) hG.1 rfl rfl) (.list hG.2) zl) rfl j (by rw[aX,ae,aT];exact ib _ rfl) q
noncomputable def L7 (T nm lf ln bf:Nat) (x:Option V):Lc:=[some (.ref T),some (.ref nm),some (.int 5),some (.ref lf),some (.ref ln),some (.ref bf),x]
theorem t7 {lf ln bf:Nat} {B:List (Nat×O)} (hG:b_ H0 g G A) (w:Ow H0 H ((T,.inst 7 [])::B))
  (k:∀DF NU H2,JR 55 [.ref T,.ref A.nm,.int 5,.ref lf,.ref ln,.ref bf] H .none H2->Ow H0 H2 ((T,.inst 7 [(47,.ref A.nm),(29,.int 5),(69,.ref lf),(70,.ref ln),(71,.ref bf),(72,.ref DF),(35,.ref NU)])::(NU,.kH 5)::(DF,.list [])::B)->R):R:=by
 refine c7 55 [.ref T,.ref A.nm,.int 5,.ref lf,.ref ln,.ref bf] H rfl rfl (L:=L7 T A.nm lf ln bf none) rfl λQ q'=>?_
 refine .own (.var rfl) rfl w rfl rfl λH1 w1 _=>.own (.var rfl) rfl w1 rfl rfl λH2 w2 _=>.own (.var rfl) rfl w2 rfl rfl λH3 w3 _=>.own (.var rfl) rfl w3 rfl rfl λH4 w4 _=>.own (.var rfl) rfl w4 rfl rfl λH5 w5 _=>hN (H:=H5) (L:=L7 T A.nm lf ln bf none) λDF H6 j6 f6 g6 e6=>?_
 refine .own j6 rfl (Ow.ins [_] (B:=B) w5 f6 g6 e6) rfl rfl λH7 w7 _=>lQ (n:=2) (H:=H7) (L:=L7 T A.nm lf ln bf none) λNU H8 j8 f8 g8 e8=>.own j8 rfl (Ow.ins [_] (B:=(DF,.list [])::B) w7 f8 g8 e8) rfl rfl λH9 w9 _=>?_
 refine .tx 5 (λ_ (x6:Option V)=>L7 T A.nm lf ln bf x6) (λn x6 H'=>Ow H0 H' ((T,.inst 7 [(47,.ref A.nm),(29,.int 5),(69,.ref lf),(70,.ref ln),(71,.ref bf),(72,.ref DF),(35,.ref NU)])::(NU,.kH n)::(DF,.list [])::B)) none (.var rfl) (by decide) w9 ?_ ?_
 ·intro n x6 Ay K z I6 cg _
  have e:=ao (l:=A.ns) (i:=n) (by rw[hG.12];omega)
  refine .bq (.var rfl) (.attr (.var rfl) (I6.at_ 0 rfl) rfl rfl) (.idx (.var rfl) (.var rfl) (.nat (I6.1 _ _ hG.11) (by rw[aH,e];rfl))) (.kH (I6.at_ 1 rfl) (ri (by omega))) (.nil (cg (some (.int n)) rfl (Ow.set [_] I6 _)))
 ·intro x6 Ay I6
  exact .nil (q' λj=>k DF NU Ay j I6)
theorem uB {RW GT DF CF ST:Nat} (hG:b_ H g G A) (fT:H[T]?=none) (e:Ext H H') (hT:H'[T]?=some (.inst 7 []))
  (k:∀nm lf ln bf nu H2,JR 56 [.ref T,.ref g,.ref RW,.ref GT,.ref DF,.ref CF,.ref ST,.str 15] H' .none H2->Ext H H2->H2[T]?=some (.inst 7 [(47,.ref nm),(29,.int 5),(69,.ref lf),(70,.ref ln),(71,.ref bf),(72,.ref DF),(35,.ref nu),(12,.ref g),(73,.ref RW),(21,.ref GT),(19,.ref CF),(20,.ref ST),(74,.str 15)])->
   H2[lf]?=some (.list (vn ((List.range 5).map G.left)))->H2[ln]?=some (.list (vn ((List.range 5).map λr=>(G.right r).length)))->R):R:=by
 have w0:Ow H H' [(T,.inst 7 [])]:=Ow.new ⟨.r,nofun,.nil⟩ fT hT e
 refine c7 56 [.ref T,.ref g,.ref RW,.ref GT,.ref DF,.ref CF,.ref ST,.str 15] H' rfl rfl (L:=[some (.ref T),some (.ref g),some (.ref RW),some (.ref GT),some (.ref DF),some (.ref CF),some (.ref ST),some (.str 15),none,none,none]) rfl λQ q'=>?_
 refine pW (k:=1) (elt:=.attr (.var 0) 8) G.left (hG.ext w0.1) rfl (λr b x z e1 e2=>?_) λlf H1 j1 f1 g1 e1=>.set j1 ?_
 ·rw[show G.left r=x.left by rw[aJ.left,e1];rfl];exact .attr (.var rfl) e2 rfl rfl
 have w1:=Ow.ins [_] (B:=[]) w0 f1 g1 e1
 refine pW (k:=1) (elt:=.len (.attr (.var 0) 6)) (λr=>(G.right r).length) (hG.ext w1.1) rfl (λr b x z e1 e2=>?_) λln H2 j2 f2 g2 e2=>.set j2 ?_
 ·have:=hG.13.3 r x e1
  have j:=JE.len (L:=[some (.ref b)]) (.attr (f:=6) (.var (i:=0) rfl) e2 rfl rfl) (.tup (l:=vn x.right) (by rw[aX];exact kD (by omega)))
  rw[aX,←qz e1]at j;exact j
 have w2:=Ow.ins [_] (B:=[(lf,.list (vn ((List.range 5).map G.left)))]) w1 f2 g2 e2
 refine pW (k:=1) (elt:=.attr (.var 0) 52) (λ_=>0) (hG.ext w2.1) rfl (λr b x z e1 e2=>.attr (.var rfl) e2 rfl rfl) λbf H3 j3 f3 g3 e3=>.set j3 ?_
 have w3:=w2.ext e3
 have g3:=w3.1 _ _ hG.1
 refine t7 (lf:=lf) (ln:=ln) (bf:=bf) hG w3 λDF' NU H4 j4 w4=>.sup rfl (w3.at_ 0 rfl) (.av (.attr (.var rfl) g3 rfl rfl) (.av (.attr (.var rfl) g3 rfl rfl) (.av (.var rfl) (.av (.var rfl) (.av (.var rfl) .bn))))) j4 ?_
 refine .own (.var rfl) rfl w4 rfl rfl λH5 w5 _=>.own (.var rfl) rfl w5 rfl rfl λH6 w6 _=>.own (.var rfl) rfl w6 rfl rfl λH7 w7 _=>.own (.var rfl) rfl w7 rfl rfl λH8 w8 _=>.own (.var rfl) rfl w8 rfl rfl λH9 w9 _=>.own (.var rfl) rfl w9 rfl rfl λAy I6 _=>.own (.var rfl) rfl I6 rfl rfl λKC IZ _=>?_
 exact .nil (q' λj=>k A.nm lf ln bf NU KC j IZ.1 (IZ.at_ 0 rfl) (IZ.at_ 4 rfl) (IZ.at_ 3 rfl))
end
section
theorem Ow.join {H H1 H2:Hp} {l l':List (Nat×O)} (h:Ow H H1 l) (k:Ow H1 H2 l'):Ow H H2 (l++l'):=by
 refine⟨h.1.trans k.1,λp m=>?_,?_⟩
 ·rcases aD.1 m with m|m
  ·exact⟨(h.2 p m).1,k.1 _ _ (h.2 p m).2⟩
  ·exact⟨h.1.none (k.2 p m).1,(k.2 p m).2⟩
 ·rw[ay,eo]
  refine⟨h.3,k.3,λa ha b hb e=>?_⟩
  obtain⟨p,mp,ep⟩:=az.1 ha
  obtain⟨p',mp',ep'⟩:=az.1 hb
  have:=(k.2 p' mp').1
  rw[ep',←e,←ep,(h.2 p mp).2]at this;cases this
variable {H:Hp} {u g LS M q ad:Nat} {G:aJ} {A:GA} {SA:List Nat} {S:List cQ} {m:Nat->Nat->Nat} {s:cQ} {dm:List (List Int×V)} {R:Prop}
noncomputable def OG (G:aJ) (m:Nat->Nat->Nat) (q:Nat) (s:cQ):List jM:=cfs q (sE G m q s) (wg G m q s).1.sh (wg G m q s).2
theorem KQ (h:bM H u g G A LS SA S) (es:S[q]?=some s):((qC s.mv).map (·.1)).Nodup∧(qC s.mv).length≤8:=by
 have e:(qC s.mv).map (·.1)=(s.mv.filter λp=>decide (p.1<5)).map (·.1):=by rw[qC,bF];rfl
 refine⟨?_,?_⟩
 ·rw[e];exact(h.keys_nodup es).sublist (jQ.map _)
 ·rw[qC,ae];exact aj (a7 _ _) (h.oj es)
noncomputable def stO (g q mk SH GO LK SE W F b:Nat) (row:List Int) (go:List (Nat×Nat)) (fa ca:List (Nat×jM)):List (Nat×O):=
 (F,iQ fa)::(SE,iQ ca)::(W,.list (de row))::(GO,.bc (nd vI go))::(mk,Ax g q SH GO LK SE b)::(fa.map cO++ca.map cO)
theorem zg {L:Lc} {l:mo} (x:vG l L H [.ref g,.ref ad,.ref M] H) (h:bM H u g G A LS SA S) (ms:Fy H M S m dm) (la:ni G S m) (es:S[q]?=some s) (ea:SA[q]?=some ad)
  (k:∀mk SH GO LK SE b ca W F fa H1 H2 H3 H4 l2,JE (.new 8 l) L H (.ref mk) H1->H1[mk]?=some (Ax g q SH GO LK SE 0)->JR 60 [.ref mk] H1 .none H2->H2[mk]?=some (Ax g q SH GO LK SE b)->JR 61 [.ref mk] H2 (.ref W) H3->
   H3[mk]?=some (Ax g q SH GO LK SE b)->JR 62 [.ref mk,.ref W] H3 (.ref F) H4->H3[F]?=none->Ext H H3->Ext H3 H4->Ow H H4 l2->(∀p∈stO g q mk SH GO LK SE W F b (sE G m q s) (goN s.mv) fa ca,p∈l2)->fa.map (·.2)=OG G m q s->ca.map (·.2)=(wg G m q s).1.cf->fa.length≤50->ca.length≤25->R):R:=by
 refine new_ x rfl λmk H0 fm gm em nw=>uv h ms es ea fm em gm λSH GO LK SE dX H1 j1 w1 el=>?_
 have ll:dX.length≤5:=by
  have:=congrArg List.length el
  rw[ae,ae]at this;rw[this];exact h.qx es
 obtain⟨n0,n8⟩:=KQ h es
 have pv:=h.NH la es (t:=0) (by decide)
 refine rC (rs:=⟨qC s.mv,0,[]⟩) h.1 w1 rfl ⟨n0,n8,aC _⟩ ll (λp hp=>?_) λy_ ca H2 j2 w2 NJ Qa rk=>?_
 ·have:p.2∈s.red.map λr=>(r,m q r):=el▸az.2 ⟨p,hp,rfl⟩
  obtain⟨r,mr,er⟩:=az.1 this
  rw[←er];exact⟨(h.mJ es r mr).2,la.1 q s r es mr⟩
 rw[el]at w2 NJ Qa rk
 have l5:y_.length≤5:=by
  have a:=congrArg List.length NJ
  have b:=congrArg List.length (pv.3)
  rw[ae]at a
  rw[ae,ae,Ly,ae]at b
  rw[a];exact aj (aF b) (h.qx es)
 refine KJ h.1 w2 l5 (λp hp=>pv.4 (h.NG la es) p.2 (NJ▸az.2 ⟨p,hp,rfl⟩)) rk.1 (λp hp=>?_) rk.2 (pv.2 (by decide:(0:Nat)<32)) λW H3 j3 w3=>?_
 ·obtain⟨a,v⟩:=p;exact(sF.1 (pv.1 _ hp)).1
 have r5:(sE G m q s).length=5:=kw ..
 have er:v7 (wg G m q s).1.sh (y_.map (·.2)) (wg G m q s).1.bar=sE G m q s:=by rw[NJ];rfl
 have w3:Ow H H3 ((W,.list (de (sE G m q s)))::oq mk SH GO LK SE g q (wg G m q s).1.sh (goN s.mv) y_ (wg G m q s).1.bar ca):=by rw[←er];exact w3
 refine v8 h.1 w3 l5 r5 λF fa H4 j4 fF e4 w4 ef fl=>k mk SH GO LK SE _ ca W F fa H1 H2 H3 H4 _ (nw j1) (w1.at_ 0 rfl) j2 (w2.at_ 0 rfl) j3 (w3.at_ 1 rfl) j4 fF w3.1 e4 (w3.join w4) (λp hp=>?_) ?_ Qa fl ?_
 ·have OH:∀{x:Nat×O} (i:Nat),(((W,O.list (de (sE G m q s)))::oq mk SH GO LK SE g q (wg G m q s).1.sh (goN s.mv) y_ (wg G m q s).1.bar ca)++([(F,iQ fa)]++fa.map cO))[i]?=some x->x∈_:=λi e=>am e
  rcases aI.1 hp with rfl|hp
  ·exact aB _ (aP ..)
  rcases aI.1 hp with rfl|hp
  ·exact OH 5 rfl
  rcases aI.1 hp with rfl|hp
  ·exact OH 0 rfl
  rcases aI.1 hp with rfl|hp
  ·exact OH 3 rfl
  rcases aI.1 hp with rfl|hp
  ·exact OH 1 rfl
  rcases aD.1 hp with hp|hp
  ·exact aB _ (aL _ hp)
  ·exact aV _ (aL _ (aB _ (aB _ hp)))
 ·rw[ef,NJ];rfl
 ·have:=congrArg List.length Qa
  rw[ae]at this;rw[this];exact rk.3
end
section
variable {H H0:Hp} {u g LS M q ad:Nat} {G:aJ} {A:GA} {SA:List Nat} {S:List cQ} {m:Nat->Nat->Nat} {s:cQ} {dm:List (List Int×V)} {R:Prop} {wd:Bool}
noncomputable def EX (wd:Bool) (w row:List Int) (best:Nat):Prop:=(wd=false->best=0)∧(wd=true->OB w best)∧row=if best=0 then w else w.map λx=>if x= -(best:Int)then 0 else x
noncomputable def Qb (G:aJ) (m:Nat->Nat->Nat) (S:List cQ) (q:Nat):List jM:=match S[q]? with
 |some s=>OG G m q s
 |none=>[]
noncomputable def Qc (G:aJ) (m:Nat->Nat->Nat) (S:List cQ) (q:Nat):List jM:=match S[q]? with
 |some s=>(wg G m q s).1.cf
 |none=>[]
structure FS where
 rs:List (Nat×List Int)
 gs:List (Nat×List (Nat×Nat))
 ds:List Nat
 ca:List (Nat×jM)
 sa:List (Nat×jM)
 X:List (Nat×O)
 x9:Option V
 gJ:Option V
 fK:Option V
 fX:Option V
structure FA where
 RW:Nat
 GT:Nat
 DF:Nat
 CF:Nat
 ST:Nat
noncomputable def F5 (a:FA) (f:FS):List (Nat×O):=(a.RW,iQ f.rs)::(a.GT,iQ f.gs)::(a.DF,.list (vn f.ds))::(a.CF,iQ f.ca)::(a.ST,iQ f.sa)::f.X
noncomputable def FL (u M:Nat) (wd:Bool) (a:FA) (x9 gJ fK fX:Option V):Lc:=[some (.ref u),some (.ref M),some (.bool wd),some (.str 15),some (.ref a.RW),some (.ref a.GT),some (.ref a.DF),some (.ref a.CF),some (.ref a.ST),x9,gJ,fK,fX]
inductive v_ (wd:Bool) (G:aJ) (S:List cQ) (m:Nat->Nat->Nat) (n:Nat) (f:FS):Prop
 |mk (rl:f.rs.length=n) (gl:f.gs.length=n) (dl:f.ds.length=n) (rm:∀p∈f.rs,(p.1,O.list (de p.2))∈f.X) (gm:∀p∈f.gs,(p.1,O.bc (nd vI p.2))∈f.X) (cm:∀p∈f.ca,cO p∈f.X) (sm:∀p∈f.sa,cO p∈f.X) (at_:∀(q:Nat) s,S[q]?=some s->q<n->EX wd (sE G m q s) ((f.rs.map (·.2)).getD q []) (f.ds.getD q 0)∧(f.gs.map (·.2)).getD q []=goN s.mv) (cf:f.ca.map (·.2)=(List.range n).flatMap (Qb G m S)) (st:f.sa.map (·.2)=(List.range n).flatMap (Qc G m S)) (cl:f.ca.length≤50*n) (sl:f.sa.length≤25*n)
theorem t9 {α:Type} {l:List α} {x d:α} {q:Nat} (z:q≤l.length):(l++[x]).getD q d=if q<l.length then l.getD q d else x:=by
 rw[aE,aE]
 split
 ·next h=>rw[aG h]
 ·next h=>rw[aY (dQ h),bP z (dQ h),eg];rfl
theorem v_.step {n:Nat} {f:FS} (h:v_ wd G S m n f) (es:S[n]?=some s) {W GO:Nat} {row:List Int} {best:Nat} {fa ca:List (Nat×jM)} {Y:List (Nat×O)} {y9 IG IH B8:Option V} (r:EX wd (sE G m n s) row best)
  (mW:(W,O.list (de row))∈f.X++Y) (mG:(GO,O.bc (nd vI (goN s.mv)))∈f.X++Y) (mf:∀p∈fa,cO p∈f.X++Y) (mc:∀p∈ca,cO p∈f.X++Y) (ef:fa.map (·.2)=OG G m n s) (ec:ca.map (·.2)=(wg G m n s).1.cf) (fl:fa.length≤50) (cl:ca.length≤25):
  v_ wd G S m (n+1) ⟨f.rs++[(W,row)],f.gs++[(GO,goN s.mv)],f.ds++[best],f.ca++fa,f.sa++ca,f.X++Y,y9,IG,IH,B8⟩:=by
 have up:∀{α:Type} {l l':List α} {F:α->Nat×O},(∀p∈l,F p∈f.X)->(∀p∈l',F p∈f.X++Y)->∀p∈l++l',F p∈f.X++Y:=λa b p hp=>(aD.1 hp).elim (λk=>aV _ (a p k)) (b p)
 have one:∀{α:Type} {x:α} {F:α->Nat×O},F x∈f.X++Y->∀p∈[x],F p∈f.X++Y:=λa p hp=>by rw[ak.1 hp];exact a
 refine⟨by rw[aq,h.1];rfl,by rw[aq,h.2];rfl,by rw[aq,h.3];rfl,up h.4 (one mW),up h.5 (one mG),up h.6 mf,up h.7 mc,λq s' e z=>?_,?_,?_,?_,?_⟩
 ·rw[ay,ay,bQ,hB,bQ,hB,t9 (l:=f.rs.map (·.2)) (by rw[ae,h.1];omega),t9 (l:=f.gs.map (·.2)) (by rw[ae,h.2];omega),t9 (l:=f.ds) (by rw[h.3];omega),ae,ae,h.1,h.2,h.3]
  by_cases c:q<n
  ·rw[if_pos c,if_pos c,if_pos c];exact h.8 q s' e c
  ·rw[if_neg c,if_neg c,if_neg c]
   cases(bP (bB z) (dQ c):q=n)
   cases es.symm.trans e;exact⟨r,rfl⟩
 ·rw[ay,h.9,bG,cH,cx,cR,aN,Qb,es,ef]
 ·rw[ay,h.10,bG,cH,cx,cR,aN,Qc,es,ec]
 ·rw[aq];have:=h.11;omega
 ·rw[aq];have:=h.12;omega
theorem AC {α:Type} {l r:List (Nat×α)}:O.list ((l.map (·.1)).map V.ref++(r.map (·.1)).map .ref)=iQ (l++r):=by rw[iQ,ay,ay]
theorem xI {n:Nat} {a:FA} {f:FS} {K:Fl->Lc->Hp->Prop} {fa ca:List (Nat×jM)} {Y:List (Nat×O)} {GO W mk SH LK SE b best:Nat} {row:List Int} {x9:Option V} (zn:n<2^18) (i:v_ wd G S m n f)
  (w:Ow H0 H (F5 a {f with ca:=f.ca++fa,sa:=f.sa++ca,X:=f.X++Y})) (hm:H[mk]?=some (Ax g q SH GO LK SE b)) (nm:mk∉[a.RW,a.GT])
  (k:∀H',Ow H0 H' (F5 a {f with rs:=f.rs++[(W,row)],gs:=f.gs++[(GO,goN s.mv)],ds:=f.ds++[best],ca:=f.ca++fa,sa:=f.sa++ca,X:=f.X++Y})->K .next (FL u M wd a x9 (some (.ref mk)) (some (.ref W)) (some (.int best))) H'):
  cB (.cons (.expr (.append (.var 4) (.var 11))) (.cons (.expr (.append (.var 5) (.attr (.var 10) 21))) (.cons (.expr (.append (.var 6) (.var 12))) .nil))) (FL u M wd a x9 (some (.ref mk)) (some (.ref W)) (some (.int best))) H K:=by
 have g0:=w.at_ 0 rfl
 have sz:n<SZ:=bK zn (by decide)
 refine .expr (.append (.var rfl) (.var rfl) ⟨_,g0⟩ g0 (by rw[ae,ae,i.1];exact sz)) ?_
 have w1:=Ow.set [] w (iQ (f.rs++[(W,row)]))
 rw[oT (x:=row)]
 have g1:=w1.at_ 1 rfl
 refine .expr (.append (.var rfl) (.attr (.var rfl) (eJ hm λe=>nm (e▸aP ..)) rfl rfl) ⟨_,g1⟩ g1 (by rw[ae,ae,i.2];exact sz)) ?_
 have w2:=Ow.set [_] w1 (iQ (f.gs++[(GO,goN s.mv)]))
 rw[oT (x:=goN s.mv)]
 have g2:=w2.at_ 2 rfl
 refine .expr (.append (.var rfl) (.var rfl) ⟨_,g2⟩ g2 (by rw[aX,i.3];exact sz)) (.nil (k _ ?_))
 rw[←oy];exact Ow.set [_,_] w2 _
end
section
variable {H H0:Hp} {u g LS M q ad:Nat} {G:aJ} {A:GA} {SA:List Nat} {S:List cQ} {m:Nat->Nat->Nat} {s:cQ} {dm:List (List Int×V)} {R:Prop} {wd:Bool}
inductive hH (wd:Bool) (G:aJ) (S:List cQ) (m:Nat->Nat->Nat) (d:TD):Prop
 |mk (at_:∀(q:Nat) s,S[q]?=some s->EX wd (sE G m q s) (d.rows.getD q []) (d.ub.getD q 0)∧d.FF.getD q []=goN s.mv) (cf:d.cf=(List.range S.length).flatMap (Qb G m S)) (st:d.st=(List.range S.length).flatMap (Qc G m S)) (cl:d.cf.length≤SZ) (sl:d.st.length≤SZ)
theorem u4 {n b:Nat} {a:FA} {f:FS} {K:Fl->Lc->Hp->Prop} {fa ca:List (Nat×jM)} {l2:List (Nat×O)} {GO W mk SH LK SE F bb best:Nat} (zn:n<2^18) (i:v_ wd G S m n f) (es:S[n]?=some s)
  (w:Ow H0 H (F5 a {f with ca:=f.ca++fa,sa:=f.sa++ca,X:=f.X++l2})) (sub:∀p∈stO g n mk SH GO LK SE W F bb (sE G m n s) (goN s.mv) fa ca,p∈l2) (nm:mk∉[a.RW,a.GT])
  (ef:fa.map (·.2)=OG G m n s) (ec:ca.map (·.2)=(wg G m n s).1.cf) (fl:fa.length≤50) (cl:ca.length≤25) (db:(wd=false->best=0)∧(wd=true->OB (sE G m n s) best))
  (k:∀(f':FS) H',Ow H0 H' (F5 a f')->v_ wd G S m (n+1) f'->K .next (FL u M wd a (some (.ref b)) f'.gJ f'.fK f'.fX) H'):
  cB (.cons (.ite (.cmp .ne (.var 12) (.lit (.int 0))) (.cons (.set (.v 11) (.call 19 (.cons (.var 11) (.cons (.var 12) .nil)))) .nil) .nil) (.cons (.expr (.append (.var 4) (.var 11))) (.cons (.expr (.append (.var 5) (.attr (.var 10) 21))) (.cons (.expr (.append (.var 6) (.var 12))) .nil))))
   (FL u M wd a (some (.ref b)) (some (.ref mk)) (some (.ref W)) (some (.int best))) H K:=by
 have T:=JT.bY (H:=H) (L:=FL u M wd a (some (.ref b)) (some (.ref mk)) (some (.ref W)) (some (.int best))) (.var (i:=12) rfl) .lit (.ne (.int (best:Nat) 0))
 have Ji:(mk,Ax g n SH GO LK SE bb)∈l2:=sub _ (am (i:=4) rfl)
 have mG:(GO,O.bc (nd vI (goN s.mv)))∈l2:=sub _ (am (i:=3) rfl)
 have mW:(W,O.list (de (sE G m n s)))∈l2:=sub _ (am (i:=2) rfl)
 have mfa:∀p∈fa,cO p∈l2:=λp hp=>sub _ (aB [_,_,_,_,_] (aV _ (az.2 ⟨p,hp,rfl⟩)))
 have mca:∀p∈ca,cO p∈l2:=λp hp=>sub _ (aB [_,_,_,_,_] (aB _ (az.2 ⟨p,hp,rfl⟩)))
 have KR:∀{p} {f':FS},p∈f'.X->p∈F5 a f':=λh=>aB [_,_,_,_,_] h
 by_cases c:best=0
 ·have:(!((best:Int)==0))=false:=by rw[c];rfl
  rw[this]at T
  refine .pass T (xI (row:=sE G m n s) zn i w (w.2 _ (KR (aB _ Ji))).2 nm λH' w'=>k ⟨_,_,_,_,_,_,some (.ref b),some (.ref mk),some (.ref W),some (.int best)⟩ H' w' (i.step es ⟨db.1,db.2,(if_pos c).symm⟩ (aB _ mW) (aB _ mG) (λp hp=>aB _ (mfa p hp)) (λp hp=>aB _ (mca p hp)) ef ec fl cl))
 ·have:(!((best:Int)==0))=true:=bne_iff_ne.2 (by omega:(best:Int)≠0)
  rw[this]at T
  refine ze (rule:=best) (w.2 _ (KR (aB _ mW))).2 (kw ..) λW2 H2 j2 f2 e2 g2=>.then T (.set (.call (.av (.var rfl) (.av (.var rfl) .bn)) j2) (.nil ?_))
  have w2:Ow H0 H2 (F5 a {f with ca:=f.ca++fa,sa:=f.sa++ca,X:=f.X++l2++[(W2,.list (de ((sE G m n s).map λd=>if d= -(best:Int)then 0 else d)))]}):=w.join (Ow.new ⟨.r,nofun,.nil⟩ f2 g2 e2)
  rw[bN]at w2
  refine xI (W:=W2) (row:=(sE G m n s).map λd=>if d= -(best:Int)then 0 else d) zn i w2 (w2.2 _ (KR (aB _ (aV _ Ji)))).2 nm λH' w'=>k ⟨_,_,_,_,_,_,some (.ref b),some (.ref mk),some (.ref W2),some (.int best)⟩ H' w'
   (i.step es ⟨db.1,db.2,(if_neg c).symm⟩ (aB _ (aB _ (ak.2 rfl))) (aB _ (aV _ mG)) (λp hp=>aB _ (aV _ (mfa p hp))) (λp hp=>aB _ (aV _ (mca p hp))) ef ec fl cl)
end
section
variable {H H0:Hp} {u g LS M q ad:Nat} {G:aJ} {A:GA} {SA:List Nat} {S:List cQ} {m:Nat->Nat->Nat} {s:cQ} {dm:List (List Int×V)} {R:Prop} {wd:Bool}
theorem Fy.ext {H':Hp} (h:Fy H M S m dm) (e:Ext H H'):Fy H' M S m dm:=⟨e _ _ h.1,h.2⟩
theorem BK {n b:Nat} {a:FA} {f:FS} {K:Fl->Lc->Hp->Prop} (h:bM H u g G A LS SA S) (ms:Fy H M S m dm) (la:ni G S m) (eb:SA[n]?=some b) (w:Ow H H0 (F5 a f)) (i:v_ wd G S m n f)
  (k:∀(f':FS) H',Ow H H' (F5 a f')->v_ wd G S m (n+1) f'->K .next (FL u M wd a (some (.ref b)) f'.gJ f'.fK f'.fX) H'):
  cB (.cons (.set (.v 10) (.new 8 (.cons (.attr (.var 0) 12) (.cons (.var 9) (.cons (.var 1) .nil))))) (.cons (.expr (.bx (.var 10) 17 60 .nil)) (.cons (.set (.v 11) (.bx (.var 10) 18 61 .nil)) (.cons (.expr (.extend (.var 7) (.bx (.var 10) 19 62 (.cons (.var 11) .nil)))) (.cons (.expr (.extend (.var 8) (.attr (.var 10) 20))) (.cons (.set (.v 12) (.lit (.int 0))) (.cons (.ite (.var 2) (.cons (.set (.v 12) (.call 18 (.cons (.var 11) .nil))) .nil) .nil) (.cons (.ite (.cmp .ne (.var 12) (.lit (.int 0))) (.cons (.set (.v 11) (.call 19 (.cons (.var 11) (.cons (.var 12) .nil)))) .nil) .nil) (.cons (.expr (.append (.var 4) (.var 11))) (.cons (.expr (.append (.var 5) (.attr (.var 10) 21))) (.cons (.expr (.append (.var 6) (.var 12))) .nil)))))))))))
   (FL u M wd a (some (.ref b)) f.gJ f.fK f.fX) H0 K:=by
 have h2:=h.ext w.1
 have zS:n<S.length:=h.4▸(ah.1 eb).1
 have zn:n<2^18:=aw zS h.6.5
 have es:=ao zS
 refine zg (L:=FL u M wd a (some (.ref b)) f.gJ f.fK f.fX) (.av (.attr (.var (i:=0) rfl) h2.2 (f:=12) rfl rfl) (.av (.var (i:=9) rfl) (.av (.var (i:=1) rfl) .bn))) h2 (ms.ext w.1) la es eb
  λmk SH GO LK SE bb ca W F fa H3 H4 H5 H6 l2 j1 g1 j2 g2 j3 g3 j4 fF e5 e6 w2 sub ef ec fl cl=>.set j1 (.expr (.bx (.var rfl) g1 rfl rfl .bn j2) (.set (.bx (.var rfl) g2 rfl rfl .bn j3) ?_))
 have w3:Ow H H6 (F5 a {f with X:=f.X++l2}):=w.join w2
 have mF:=sub _ (am (i:=0) rfl)
 have mE:=sub _ (am (i:=1) rfl)
 have mW:=sub _ (am (i:=2) rfl)
 have mM:=sub _ (am (i:=4) rfl)
 have KR:∀{p} {f':FS},p∈f'.X->p∈F5 a f':=λh=>aB [_,_,_,_,_] h
 have cl1:=i.11
 have Ht:=i.12
 have c2:=w.at_ 3 rfl
 have s2:=w.at_ 4 rfl
 have c5:=e5 _ _ c2
 have c6:=e6 _ _ c5
 refine .expr (.extend (.var rfl) (.bx (.var rfl) g3 rfl rfl (.av (.var rfl) .bn) j4) ⟨_,c5⟩ c6 (w2.2 _ mF).2 (e_ fF c5) (by rw[ae,ae,ae,ae];unfold SZ;omega)) ?_
 rw[AC]
 have w4:=Ow.set [_,_,_] w3 (iQ (f.ca++fa))
 have s4:=w4.at_ 4 rfl
 refine .expr (.extend (.var rfl) (.attr (.var rfl) (w4.2 _ (KR (f':={f with ca:=f.ca++fa,X:=f.X++l2}) (aB _ mM))).2 rfl rfl) ⟨_,s4⟩ s4 (w4.2 _ (KR (f':={f with ca:=f.ca++fa,X:=f.X++l2}) (aB _ mE))).2 (e_ (w2.2 _ mE).1 s2) (show((f.sa.map (·.1)).map V.ref).length+((ca.map (·.1)).map V.ref).length<SZ by rw[ae,ae,ae,ae];unfold SZ;omega)) ?_
 rw[AC]
 have w5:Ow H _ (F5 a {f with ca:=f.ca++fa,sa:=f.sa++ca,X:=f.X++l2}):=Ow.set [_,_,_,_] w4 (iQ (f.sa++ca))
 have nm:mk∉[a.RW,a.GT]:=λk=>by
  have f0:=(w2.2 _ mM).1
  rcases aI.1 k with e|e
  ·rw[e]at f0;rw[w.at_ 0 rfl]at f0;cases f0
  ·rw[ak.1 e]at f0;rw[w.at_ 1 rfl]at f0;cases f0
 refine .set .lit ?_
 cases wd with
 |false=>exact .pass (.ir (.var rfl) (.bool false) rfl) (u4 (best:=0) zn i es w5 sub nm ef ec fl cl ⟨λ_=>rfl,nofun⟩ k)
 |true=>
  refine .then (.ir (.var rfl) (.bool true) rfl) (uy (w5.2 _ (KR (f':={f with ca:=f.ca++fa,sa:=f.sa++ca,X:=f.X++l2}) (aB _ mW))).2 (kw ..) λbest H9 j9 e9 df=>.set (.call (.av (.var rfl) .bn) j9) (.nil ?_))
  exact u4 zn i es (w5.ext e9) sub nm ef ec fl cl ⟨nofun,λ_=>df⟩ k
noncomputable def F0:FS:=⟨[],[],[],[],[],[],none,none,none,none⟩
theorem AD (h:bM H u g G A LS SA S) (ms:Fy H M S m dm) (la:ni G S m)
  (k:∀T a d H',JR 20 [.ref u,.ref M,.bool wd] H (.ref T) H'->Ext H H'->TabAt H' T g G S.length a d->hH wd G S m d->R):R:=by
 refine c7 20 [.ref u,.ref M,.bool wd] H rfl rfl (L:=[some (.ref u),some (.ref M),some (.bool wd),some (.str 15),none,none,none,none,none,none,none,none,none]) rfl λQ q'=>?_
 refine hN λRW H1 j1 f1 g1 e1=>.set j1 (hN λGT H2 j2 f2 g2 e2=>.set j2 (hN λDF H3 j3 f3 g3 e3=>.set j3 (hN λCF H4 j4 f4 g4 e4=>.set j4 (hN λST H5 j5 f5 g5 e5=>.set j5 ?_))))
 have w1:Ow H H1 [(RW,.list [])]:=Ow.new ⟨.r,nofun,.nil⟩ f1 g1 e1
 have w2:=Ow.ins [_] (B:=[]) w1 f2 g2 e2
 have w3:=Ow.ins [_,_] (B:=[]) w2 f3 g3 e3
 have w4:=Ow.ins [_,_,_] (B:=[]) w3 f4 g4 e4
 have w5:Ow H H5 (F5 ⟨RW,GT,DF,CF,ST⟩ F0):=Ow.ins [_,_,_,_] (B:=[]) w4 f5 g5 e5
 refine .r9 (λ_ (f:FS)=>FL u M wd ⟨RW,GT,DF,CF,ST⟩ f.x9 f.gJ f.fK f.fX) (λn f H'=>Ow H H' (F5 ⟨RW,GT,DF,CF,ST⟩ f)∧v_ wd G S m n f) F0
  (.pF (.attr (.var rfl) (w5.1 _ _ h.2) rfl rfl) (.list (w5.1 _ _ h.3)) (by rw[ae,h.4];exact aj h.6.5 (by decide))) ⟨w5,rfl,rfl,rfl,nofun,nofun,nofun,nofun,λ_ _ _ z=>(bm _ z).elim,rfl,rfl,aC _,aC _⟩ (λw=>w.1.1 _ _ h.3) ?_ ?_
 ·intro n b f H6 K eb w cg _
  exact BK h ms la eb w.1 w.2 λf' H' w' i'=>cg ⟨f'.rs,f'.gs,f'.ds,f'.ca,f'.sa,f'.X,some (.ref b),f'.gJ,f'.fK,f'.fX⟩ rfl ⟨w',i'.1,i'.2,i'.3,i'.4,i'.5,i'.6,i'.7,i'.8,i'.9,i'.10,i'.11,i'.12⟩
 ·intro f H6 w
  obtain⟨w,i⟩:=w
  rw[h.4]at i
  refine new_ (c:=7) (L:=FL u M wd ⟨RW,GT,DF,CF,ST⟩ f.x9 f.gJ f.fK f.fX) (.av (.attr (.var (i:=0) rfl) (w.1 _ _ h.2) (f:=12) rfl rfl) (.av (.var (i:=4) rfl) (.av (.var (i:=5) rfl) (.av (.var (i:=6) rfl) (.av (.var (i:=7) rfl) (.av (.var (i:=8) rfl) (.av (.var (i:=3) rfl) .bn))))))) rfl λT H7 fT gT eT nw=>?_
  refine uB (h.1.ext w.1) fT eT gT λnm lf ln bf nu H8 j8 e8 g8 glf gln=>.ret (nw j8) (q' λj=>k T ⟨nm,lf,ln,bf,DF,nu,RW,GT,CF,ST,f.rs.map (·.1),f.gs.map (·.1),f.ca,f.sa⟩ ⟨f.rs.map (·.2),f.gs.map (·.2),f.ds,f.ca.map (·.2),f.sa.map (·.2)⟩ H8 j (w.1.trans e8) ?_ ⟨λq s e=>i.8 q s e (ah.1 e).1,i.9,i.10,?_,?_⟩)
  rotate_left
  ·show(f.ca.map _).length≤SZ
   have:=i.11
   have:=h.6.5
   rw[ae];unfold SZ;omega
  ·show(f.sa.map _).length≤SZ
   have:=i.12
   have:=h.6.5
   rw[ae];unfold SZ;omega
  have Qd:∀{p},p∈f.X->H8[p.1]?=some p.2:=λm=>e8 _ _ (w.2 _ (aB [_,_,_,_,_] m)).2
  have row:∀{α:Type} {l:List (Nat×α)} {F:α->O} {d:α},(∀p∈l,(p.1,F p.2)∈f.X)->∀(q b:Nat),(l.map (·.1))[q]?=some b->H8[b]?=some (F ((l.map (·.2)).getD q d)):=λhm q b hb=>by
   rw[aH,aZ]at hb
   obtain⟨p,hp,rfl⟩:=hb
   rw[aE,aH,hp];exact Qd (hm p (am hp))
  have r5:∀q<S.length,((f.rs.map (·.2)).getD q []).length=5:=λq z=>by
   obtain⟨⟨_,_,e⟩,_⟩:=i.8 q _ (ao z) z
   rw[e];split
   ·exact kw ..
   ·rw[ae];exact kw ..
  exact⟨g8,e8 _ _ (w.at_ 0 rfl),by rw[ae];exact i.1,row (F:=λl=>.list (de l)) i.4,e8 _ _ (w.at_ 1 rfl),by rw[ae];exact i.2,row (F:=λl=>.bc (nd vI l)) i.5,e8 _ _ (w.at_ 2 rfl),i.3,glf,gln,e8 _ _ (w.at_ 3 rfl),λp m=>Qd (i.6 p m),rfl,e8 _ _ (w.at_ 4 rfl),λp m=>Qd (i.7 p m),rfl,r5,h.6.5⟩
end
section
variable {H H0 H':Hp} {u g LS M q t T N:Nat} {G:aJ} {A:GA} {SA:List Nat} {S:List cQ} {m:Nat->Nat->Nat} {s:cQ} {a a0 a1:TA} {d d0 d1:TD} {R:Prop} {wd:Bool}
theorem lT {L L1:Lc} {caps:List Nat} {elt:CE} {ifs:mo} {it:CI} {gd:Gd} (row:List Int) (p:Int->Bool) (f:Int->Int) (c:L1=caps.map (λi=>(L[i]?).join)) (x:JI it L H (de row) gd H) (ng:gd.Ca=false) (ok:gd.ok H) (rl:row.length≤1000)
  (hp:∀v∈row,JA ifs (L1++[some (.int v)]) H (p v) H) (hf:∀v∈row,p v=true->JE elt (L1++[some (.int v)]) H (.int (f v)) H)
  (q:∀a H2,JE (.comp caps elt it ifs) L H (.ref a) H2->H[a]?=none->H2[a]?=some (.list (de ((row.filter p).map f)))->Ext H H2->R):R:=by
 have zl:(de row).length≤SZ:=by rw[dD];exact kD rl
 refine rL (elt:=elt) (ifs:=ifs) (L:=L1) (H:=H) (g:=gd) (xs:=de row) (λn ys H'=>H'=H∧ys=de (((row.take n).filter p).map f)) ⟨rfl,rfl⟩ (λh=>h.1▸ok) (λ{n ys H'} h=>?_) zl ?_ ?_
 ·rw[h.2,dD,ae]
  exact aj (a7 _ _) (h_ _ _)
 ·rintro n y ys H' hy ⟨rfl,rfl⟩
  rw[de,aH,aZ]at hy
  obtain⟨v,hv,rfl⟩:=hy
  have mv:=am hv
  have T:=hp v mv
  rw[kU p hv]
  cases e:p v with
  |false=>rw[e]at T;exact .no T ⟨rfl,rfl⟩
  |true=>
   rw[e]at T
   refine .yes T ok (hf v mv e) ⟨rfl,?_⟩
   rw[cond_true,ay,de,de,ay];rfl
 ·rintro ys H' j ⟨rfl,rfl⟩
  rw[dD,aR]at j
  exact kh c x ng j (by rw[dD,ae];exact aj (a7 _ _) (kD rl)) q
theorem EY {l:List Int} (h:l.length=5):((List.range 5).map Int.ofNat).map (λv=>l.getD v.toNat 0)=l:=by
 match l,h with
 |[a,b,c,d,e],_=>rfl
theorem filter_tt (l:List Int):l.filter (λ_=>true)=l:=List.filter_eq_self.2 λ_ _=>rfl
theorem xJ {L:Lc} {i j:Nat} (h:TabAt H T g G N a d) (z:q<N) (xi:L[i]?=some (some (.int q))) (xj:L[j]?=some (some (.ref T)))
  (k:∀c H2,JE (.comp [i,j] (.bx (.var 1) 24 65 (.cons (.var 0) (.cons (.var 2) .nil))) (.range (.lit (.int 5))) .nil) L H (.ref c) H2->H[c]?=none->H2[c]?=some (.list (de (d.rows.getD q [])))->Ext H H2->R):R:=by
 refine lT (L:=L) (L1:=[some (.int q),some (.ref T)]) (caps:=[i,j]) (elt:=.bx (.var 1) 24 65 (.cons (.var 0) (.cons (.var 2) .nil))) (ifs:=.nil) (it:=.range (.lit (.int 5))) (gd:=.none) ((List.range 5).map Int.ofNat) (λ_=>true) (λv=>(d.rows.getD q []).getD v.toNat 0)
  (by rw[bQ,bQ,xi,xj];rfl) (.yE (n:=5) .lit (ib _ rfl)) rfl trivial (by decide) (λv hv=>.lu) (λv hv _=>?_) λc H2 j f g' e=>k c H2 j f ?_ e
 ·obtain⟨n,hn,rfl⟩:=az.1 hv
  exact .bx (.var rfl) h.1 rfl rfl (.av (.var rfl) (.av (.var rfl) .bn)) (ox h z (bp.1 hn))
 ·rw[g',filter_tt,EY (h.18 q z)]
noncomputable def cons (d:TD) (q:Nat):Bool:=d.ub.getD q 0 !=0&&(List.range 5).all λt=>d.at_ q t==0
theorem zh (h:TabAt H T g G N a d) (z:q<N):JR 66 [.ref T,.int q] H (.bool (cons d q)) H:=by
 refine c7 66 [.ref T,.int q] H rfl rfl (L:=[some (.ref T),some (.int q),none]) rfl λQ k=>?_
 have T1:=JT.bY (L:=[some (.ref T),some (.int q),none]) (.bx (m:=23) (.var (i:=0) rfl) h.1 rfl rfl (.av (.var (i:=1) rfl) .bn) (mK h z)) .lit (.eq (.int _ 0))
 by_cases c:d.ub.getD q 0=0
 ·rw[beq_iff_eq.2 (by rw[c];rfl)]at T1
  refine .then T1 (.ret .lit (k λj=>?_))
  rw[cons,c];exact j
 ·rw[beq_eq_false_iff_ne.2 (by omega:((d.ub.getD q 0:Nat):Int)≠0)]at T1
  have e:cons d q=(List.range 5).all λt=>d.at_ q t==0:=by rw[cons,bne_iff_ne.2 c,jn]
  rw[e]at k
  refine .pass T1 (.tx 5 (λ_ (x:Option V)=>[some (.ref T),some (.int q),x]) (λn _ H'=>H'=H∧∀t<n,d.at_ q t=0) none (.attr (.var rfl) h.1 rfl rfl) (by decide) ⟨rfl,nofun⟩ ?_ ?_)
  ·rintro t x H2 K t5 ⟨rfl,h0⟩ kn kr
   have T2:=JT.bY (L:=[some (.ref T),some (.int q),some (.int t)]) (.bx (m:=24) (.var (i:=0) rfl) h.1 rfl rfl (.av (.var (i:=1) rfl) (.av (.var (i:=2) rfl) .bn)) (ox h z t5)) .lit (.ne (.int _ 0))
   by_cases c2:d.at_ q t=0
   ·rw[beq_iff_eq.2 c2]at T2
    refine .pass T2 (.nil (kn (some (.int t)) rfl ⟨rfl,λi hi=>?_⟩))
    rcases bj.1 hi with w|w
    ·exact h0 i w
    ·rw[w];exact c2
   ·rw[beq_eq_false_iff_ne.2 c2]at T2
    refine .then T2 (.ret .lit (kr (k λj=>?_)))
    have:((List.range 5).all λt=>d.at_ q t==0)=false:=dK.2 λw=>c2 (beq_iff_eq.1 (bv.1 w t (bp.2 t5)))
    rw[this];exact j
  ·rintro x H2 ⟨rfl,h0⟩
   refine .ret .lit (k λj=>?_)
   have:((List.range 5).all λt=>d.at_ q t==0)=true:=bv.2 λt ht=>beq_iff_eq.2 (h0 t (bp.1 ht))
   rw[this];exact j
end
section
variable {H H0 H':Hp} {g q T0 T1 N:Nat} {G:aJ} {a0 a1:TA} {d0 d1:TD} {R:Prop}
inductive Pr (d0 d1:TD) (q:Nat):Prop
 |mk (z:d0.ub.getD q 0=0) (f:OB (d0.rows.getD q []) (d1.ub.getD q 0)) (r:d1.rows.getD q []=if d1.ub.getD q 0=0 then d0.rows.getD q []else(d0.rows.getD q []).map λx=>if x= -(d1.ub.getD q 0:Int)then 0 else x)
noncomputable def xK (b v:Int):Int:=if b≠0∧v= -b then 0 else v
theorem Pr.row (h:Pr d0 d1 q):d1.rows.getD q []=(d0.rows.getD q []).map (xK (d1.ub.getD q 0:Nat)):=by
 rw[h.3]
 split
 ·next e=>
  rw[e]
  exact((cS λv _=>if_neg λk=>k.1 rfl).trans (gz _)).symm
 ·next e=>
  refine cS λv _=>?_
  have:((d1.ub.getD q 0:Nat):Int)≠0:=λk=>e (a_.1 k)
  unfold xK
  by_cases c:v= -((d1.ub.getD q 0:Nat):Int)
  ·rw[if_pos c,if_pos ⟨this,c⟩]
  ·rw[if_neg c,if_neg λk=>c k.2]
theorem EZ {W:Nat} {b:Int} {row:List Int} {L:Lc} (gW:H[W]?=some (.list (de row))) (r5:row.length=5) (x3:L[3]?=some (some (.int b))) (x4:L[4]?=some (some (.ref W)))
  (k:∀c H2,JE (.comp [3] (.ite (.and (.cons (.cmp .ne (.var 0) (.lit (.int 0))) (.cons (.cmp .eq (.var 1) (.neg (.var 0))) .nil))) (.lit (.int 0)) (.var 1)) (.ex (.var 4)) .nil) L H (.ref c) H2->H[c]?=none->H2[c]?=some (.list (de (row.map (xK b))))->Ext H H2->R):R:=by
 refine lT (L:=L) (L1:=[some (.int b)]) (caps:=[3]) (elt:=.ite (.and (.cons (.cmp .ne (.var 0) (.lit (.int 0))) (.cons (.cmp .eq (.var 1) (.neg (.var 0))) .nil))) (.lit (.int 0)) (.var 1)) (ifs:=.nil) (it:=.ex (.var 4)) (gd:=.list W (de row)) row (λ_=>true) (xK b) (by rw[bQ,x3];rfl)
  (.pF (.var x4) (.list gW) (by rw[dD,r5];exact ib _ rfl)) rfl gW (by rw[r5];decide) (λv _=>.lu) (λv _ _=>?_) λc H2 j f g' e=>k c H2 j f (by rw[g',filter_tt]) e
 have X1:=JT.bY (H:=H) (L:=[some (.int b),some (.int v)]) (.var (i:=0) rfl) .lit (.ne (.int b 0))
 have X2:=JT.bY (H:=H) (L:=[some (.int b),some (.int v)]) (.var (i:=1) rfl) (.neg (.var (i:=0) rfl)) (.eq (.int v (-b)))
 unfold xK
 by_cases c1:b=0
 ·rw[beq_iff_eq.2 c1]at X1;rw[if_neg λk=>k.1 c1]
  exact .ite (.iD (.af X1)) (.var rfl)
 ·rw[beq_eq_false_iff_ne.2 c1]at X1
  by_cases c2:v= -b
  ·rw[beq_iff_eq.2 c2]at X2;rw[if_pos ⟨c1,c2⟩]
   exact .ite (.iD (.at X1 (.at X2 .lu))) .lit
  ·rw[beq_eq_false_iff_ne.2 c2]at X2;rw[if_neg λk=>c2 k.2]
   exact .ite (.iD (.at X1 (.af X2))) (.var rfl)
theorem BM {W:Nat} {b:Int} {row:List Int} {L:Lc} (gW:H[W]?=some (.list (de row))) (r5:row.length=5) (x3:L[3]?=some (some (.int b))) (x4:L[4]?=some (some (.ref W)))
  (k:∀H2,JE (.cmp .eq (.comp [3] (.var 1) (.ex (.var 4)) (.cons (.cmp .jG (.var 1) (.tup (.cons (.lit (.int 0)) (.cons (.neg (.var 0)) .nil)))) .nil)) (.list .nil)) L H (.bool ((row.filter λv=>!([0, -b]:List Int).contains v)==[])) H2->Ext H H2->R):R:=by
 refine lT (L:=L) (L1:=[some (.int b)]) (caps:=[3]) (elt:=.var 1) (ifs:=.cons (.cmp .jG (.var 1) (.tup (.cons (.lit (.int 0)) (.cons (.neg (.var 0)) .nil)))) .nil) (it:=.ex (.var 4)) (gd:=.list W (de row)) row (λv=>!([0, -b]:List Int).contains v) id (by rw[bQ,x3];rfl)
  (.pF (.var x4) (.list gW) (by rw[dD,r5];exact ib _ rfl)) rfl gW (by rw[r5];decide) (λv _=>?_) (λv _ _=>.var rfl) λc H2 j f g' e=>hN (H:=H2) (L:=L) λc' H3 j' f' g2 e'=>k H3 ?_ (e.trans e')
 ·have X:=JT.bY (H:=H) (L:=[some (.int b),some (.int v)]) (.var (i:=1) rfl) (.tup (.av .lit (.av (.neg (.var (i:=0) rfl)) .bn)) (ib _ rfl)) (.jG (.tup (l:=[0, -b]) (i:=v)))
  cases e: !([0, -b]:List Int).contains v with
  |true=>rw[e]at X;exact .at X .lu
  |false=>rw[e]at X;exact .af X
 ·have:=e' _ _ g'
  rw[gz]at this
  exact .cmp j j' (.eq (.il (r:=[]) this g2))
theorem E0 {W:Nat} {row:List Int} {L:Lc} (gW:H[W]?=some (.list (de row))) (r5:row.length=5) (x4:L[4]?=some (some (.ref W)))
  (k:∀H2,JT (.cmp .ne (.comp [] (.var 0) (.ex (.var 4)) (.cons (.pH .lt .lt (.neg (.lit (.int 100))) (.var 0) (.lit (.int 0))) .nil)) (.list .nil)) L H (!((row.filter λv=>decide (-100<v∧v<0))==[])) H2->Ext H H2->R):R:=by
 refine lT (L:=L) (L1:=[]) (caps:=[]) (elt:=.var 0) (ifs:=.cons (.pH .lt .lt (.neg (.lit (.int 100))) (.var 0) (.lit (.int 0))) .nil) (it:=.ex (.var 4)) (gd:=.list W (de row)) row (λv=>decide (-100<v∧v<0)) id rfl
  (.pF (.var x4) (.list gW) (by rw[dD,r5];exact ib _ rfl)) rfl gW (by rw[r5];decide) (λv _=>?_) (λv _ _=>.var rfl) λc H2 j f g' e=>hN (H:=H2) (L:=L) λc' H3 j' f' g2 e'=>k H3 ?_ (e.trans e')
 ·have l1:=JE.neg (H:=H) (L:=[some (V.int v)]) (.lit (v:=.int 100))
  have c1:=cL.lt (H:=H) (-100) v
  by_cases h1: -100<v
  ·rw[decide_eq_true h1]at c1
   have X:=JT.DR l1 (.var (i:=0) rfl) c1 .lit (.lt v 0)
   by_cases h2:v<0
   ·rw[decide_eq_true h2]at X;rw[decide_eq_true ⟨h1,h2⟩];exact .at X .lu
   ·rw[decide_eq_false h2]at X;rw[decide_eq_false λk=>h2 k.2];exact .af X
  ·rw[decide_eq_false h1]at c1
   rw[decide_eq_false λk=>h1 k.1]
   exact .af (JT.Iz l1 (.var rfl) c1)
 ·have:=e' _ _ g'
  rw[gz]at this
  exact .bY j j' (.ne (.il (r:=[]) this g2))
theorem Qe {l:List Int} (h:l.length=5):((List.range 5).all λt=>l.getD t 0==0)=l.all (· ==0):=by
 match l,h with
 |[a,b,c,d,e],_=>rfl
theorem HG {b:Nat} {row:List Int} (hb:d1.ub.getD q 0=b) (r5:row.length=5) (e:d1.rows.getD q []=row.map (xK b)):cons d1 q=(decide (b≠0)&&(row.filter λv=>!([0, -(b:Int)]:List Int).contains v)==[]):=by
 by_cases c:b=0
 ·rw[cons,hb,c];rfl
 ·have ci:(b:Int)≠0:=λk=>c (a_.1 k)
  rw[cons,hb,bne_iff_ne.2 c,jn,decide_eq_true c,jn]
  unfold TD.at_
  rw[e,Qe (by rw[ae,r5]),mV,bv,beq_iff_eq,dN]
  have key:∀v,xK b v=0↔([0, -(b:Int)]:List Int).contains v=true:=λv=>by
   rw[cV,aI,ak,xK]
   by_cases k:v= -(b:Int)
   ·rw[if_pos ⟨ci,k⟩];exact⟨λ_=>.inr k,λ_=>rfl⟩
   ·rw[if_neg λh=>k h.2];exact⟨.inl,λh=>h.resolve_right k⟩
  constructor
  ·intro h v hv
   rw[(key v).1 (beq_iff_eq.1 (h _ (az.2 ⟨v,hv,rfl⟩)))];exact nofun
  ·intro h x hx
   obtain⟨v,hv,rfl⟩:=az.1 hx
   refine beq_iff_eq.2 ((key v).2 ?_)
   have:=h v hv
   cases w:([0, -(b:Int)]:List Int).contains v with
   |true=>rfl
   |false=>rw[w]at this;exact(this rfl).elim
theorem wb (h0:TabAt H T0 g G N a0 d0) (h1:TabAt H T1 g G N a1 d1) (pr:∀q<N,Pr d0 d1 q) (k:∀H',JR 23 [.ref T0,.ref T1] H (.bool true) H'->Ext H H'->R):R:=by
 refine c7 23 [.ref T0,.ref T1] H rfl rfl (L:=[some (.ref T0),some (.ref T1),none,none,none]) rfl λQ q'=>?_
 refine .GX N (λ_ (s:Option V×Option V×Option V)=>[some (.ref T0),some (.ref T1),s.1,s.2.1,s.2.2]) (λn s H'=>Ext H H') (none,none,none) (.bx (.var rfl) h0.1 rfl rfl .bn (EU h0)) (aj h0.19 (by decide)) .r ?_ ?_
 ·intro q s H2 K z e2 cg _
  have p:=pr q z
  have t1:=h1.ext e2
  generalize hb:d1.ub.getD q 0=b at p
  have db:=mK t1 z
  rw[hb]at db
  refine .set (.bx (.var rfl) t1.1 rfl rfl (.av (.var rfl) .bn) db) (xJ (h0.ext e2) z rfl rfl λW H3 j3 f3 g3 e3=>.set j3 ?_)
  have r5:=h0.18 q z
  have pf:=p.2
  have HH:=p.row
  have pz:=p.1
  rw[hb]at pf HH
  have cc:=HG hb r5 HH
  generalize d0.rows.getD q []=row at g3 r5 pf HH cc
  refine xJ (i:=2) (j:=1) (L:=[some (.ref T0),some (.ref T1),some (.int q),some (.int b),some (.ref W)]) ((h1.ext e2).ext e3) z rfl rfl λC H4 j4 f4 g4 e4=>EZ (L:=[some (.ref T0),some (.ref T1),some (.int q),some (.int b),some (.ref W)]) (e4 _ _ g3) r5 rfl rfl λD H5 j5 f5 g5 e5=>?_
  rw[HH]at g4
  have X:=JT.bY j4 j5 (.ne (.il (e5 _ _ g4) g5))
  rw[beq_self_eq_true]at X
  refine .pass X ?_
  have KS:=((e2.trans e3).trans e4).trans e5
  have Y1:=JT.bY (H:=H5) (L:=[some (.ref T0),some (.ref T1),some (.int q),some (.int b),some (.ref W)]) (.bx (m:=23) (.var (i:=0) rfl) (h0.ext KS).1 rfl rfl (.av (.var (i:=2) rfl) .bn) (mK (h0.ext KS) z)) .lit (.ne (.int _ 0))
  rw[pz]at Y1
  have Qf:=e5 _ _ (e4 _ _ g3)
  have B:=λ{H6}=>JT.bY (H:=H6) (L:=[some (.ref T0),some (.ref T1),some (.int q),some (.int b),some (.ref W)]) (.var (i:=3) rfl) .lit (.eq (.int (b:Nat) 0))
  have Bn:=JE.cmp (H:=H5) (L:=[some (.ref T0),some (.ref T1),some (.int q),some (.int b),some (.ref W)]) (.var (i:=3) rfl) .lit (.ne (.int (b:Nat) 0))
  have cj:=JE.bx (H:=H5) (L:=[some (.ref T0),some (.ref T1),some (.int q),some (.int b),some (.ref W)]) (m:=25) (.var (i:=1) rfl) (h1.ext KS).1 rfl rfl (.av (.var (i:=2) rfl) .bn) (zh (h1.ext KS) z)
  rw[cc]at cj
  by_cases c:b=0
  ·have b0:((b:Int)==0)=true:=by rw[c];rfl
   rw[b0]at Bn
   rw[decide_eq_false (λk=>k c),Bool.false_and]at cj
   refine .pass (.xU (.of Y1 (.of (.bY cj (.and (.avf Bn (.bool _))) (.ne (.bool false false))) .wV))) ?_
   have B:=λ{H6}=>b0▸ @B H6
   have gv:row[1]?=some (row.getD 1 0):=getD_at (r5.symm▸by decide)
   have C:=JT.bY (H:=H5) (L:=[some (.ref T0),some (.ref T1),some (.int q),some (.int b),some (.ref W)]) (.idx (.var (i:=4) rfl) (.lit (v:=.int 1)) (.nat (k:=1) Qf (kQ gv))) .lit (.le _ 0)
   by_cases c1:row.getD 1 0≤0
   ·rw[decide_eq_true c1]at C
    refine E0 (L:=[some (.ref T0),some (.ref T1),some (.int q),some (.int b),some (.ref W)]) Qf r5 rfl λH6 j6 e6=>?_
    have:(row.filter λv=>decide (-100<v∧v<0))=[]:=by
     rw[dN]
     intro v hv k
     have k:=of_decide_eq_true k
     rcases pf.1 c with w|w
     ·omega
     ·exact w v hv ⟨by omega,k.2⟩
    rw[this,beq_self_eq_true]at j6
    exact .pass (.iD (.at B (.at C (.af j6)))) (.nil (cg (some (.int q),some (.int b),some (.ref W)) rfl (KS.trans e6)))
   ·rw[decide_eq_false c1]at C
    exact .pass (.iD (.at B (.af C))) (.nil (cg (some (.int q),some (.int b),some (.ref W)) rfl KS))
  ·have b0:((b:Int)==0)=false:=beq_eq_false_iff_ne.2 (by omega)
   rw[b0]at Bn
   rw[decide_eq_true c,jn]at cj
   refine BM (b:=(b:Int)) (L:=[some (.ref T0),some (.ref T1),some (.int q),some (.int b),some (.ref W)]) Qf r5 rfl rfl λH6 j6 e6=>?_
   have Y2:=JT.bY cj (.and (.avt Bn (.bool _) (.av1 j6))) (.ne (.bool _ _))
   rw[beq_self_eq_true]at Y2
   exact .pass (.xU (.of Y1 (.of Y2 .wV))) (.pass (.iD (.af (b0▸B))) (.nil (cg (some (.int q),some (.int b),some (.ref W)) rfl (KS.trans e6))))
 ·intro s H2 e2
  exact .ret .lit (q' λj=>k H2 j e2)
end
section
variable {H H0:Hp} {u g LS M q t n:Nat} {G:aJ} {A:GA} {SA:List Nat} {S:List cQ} {m:Nat->Nat->Nat} {s:cQ} {R:Prop} {wd:Bool} {d d0 d1:TD} {st:List Nat}
theorem jr.on {S:List cQ} {P:List Nat->Prop} (k:jr S st) (f:∀q st,jr S (q::st)->P (q::st)):P st:=by
 cases k with
 |base=>exact f _ _ .base
 |push h m=>exact f _ _ (.push h m)
theorem EX.lt {w row:List Int} {b:Nat} (h:EX wd w row b) (n:b≠0):(-(b:Int))∈w∧b<1048576:=by
 cases wd with
 |false=>exact(n (h.1 rfl)).elim
 |true=>exact(h.2.1 rfl).2 n
noncomputable def si (b:Nat) (x:Int):Int:=if x= -1048576 then 0 else if x=0 then -(b:Int)else x
section
variable {b r:Nat} {x:Int}
theorem E1 (h:0<x):si b x=x:=(if_neg λe:x= -1048576=>absurd (e▸h:(0:Int)< -1048576) (by decide)).trans (if_neg (mS h))
theorem xL (h:0<r) (l:r<1048576):si b (-(r:Int))= -(r:Int):=(if_neg λe=>cr l (a_.1 (rT.1 e))).trans (if_neg λe=>di h (a_.1 (m6.1 e)))
theorem E2:si b 0= -(b:Int):=(if_neg (by decide)).trans (if_pos rfl)
theorem E6 (c:b≠0) (l:b<1048576):si b (if x= -(b:Int)then 0 else x)=si b x:=by
 by_cases k:x= -(b:Int)
 ·rw[if_pos k,E2,k,xL (dH c) l]
 ·rw[if_neg k]
end
theorem hH.val (fd:hH wd G S m d) (e:S[q]?=some s) (z:t<5):d.act t q=si (d.ub.getD q 0) ((sE G m q s).getD t 0):=by
 have f:=(fd.1 q s e).1
 have l5:t<(sE G m q s).length:=by rw[sE,kw];exact z
 by_cases c:d.ub.getD q 0=0
 ·exact congrArg (λw:List Int=>si (d.ub.getD q 0) (w.getD t 0)) (f.2.2.trans (if_pos c))
 ·refine(congrArg (λw:List Int=>si (d.ub.getD q 0) (w.getD t 0)) (f.2.2.trans (if_neg c))).trans (Eq.trans (congrArg (si _) ?_) (E6 c (f.lt c).2))
  exact(aE ..).trans (congrArg (Option.getD · 0) (get_map (getD_at (d:=0) l5)))
theorem hH.act (h:bM H u g G A LS SA S) (la:ni G S m) (fd:hH wd G S m d) (z:t<5):Act S t (d.act t):=λq s e=>by
 have rk:=h.rw la e
 have f:=(fd.1 q s e).1
 have pos:∀{t p:Nat},(t,p)∈s.mv->0<if t=0 then 1048576 else(p:Int):=λmp=>Dg.om (0< ·) (λ_=>by decide) λ_=>bC.2 (h.Oh ⟨s,e,mp⟩).1
 have red:∀b:Nat,b≠0->b<1048576->(-(b:Int))∈sE G m q s->b∈s.red:=λb n lt mb=>(aO mb).elim λi hi=>by
  have ei:(sE G m q s).getD i 0= -(b:Int):=by rw[aE,hi];rfl
  have k:=rk.2 i (rk.1▸(ah.1 hi).1)
  rw[ei]at k
  exact k.elim (λw=>(n (a_.1 (m6.1 w))).elim) λk=>k.elim (λw=>(cr lt (a_.1 (rT.1 w))).elim) λk=>k.elim (λk=>k.elim λr w=>a_.1 (rT.1 w.2)▸w.1)
   λk=>k.elim λp w=>absurd (w.2▸pos w.1) (fy.2 (lK (aS b)))
 rw[fd.val e z]
 refine(rk.2 t z).elim (λw=>?_) λk=>k.elim (λw=>?_) λk=>k.elim (λk=>k.elim λr w=>?_) λk=>k.elim λp w=>?_
 ·rw[w,E2]
  by_cases c:d.ub.getD q 0=0
  ·exact .inl (by rw[c];rfl)
  ·exact .inr (.inr ⟨_,red _ c (f.lt c).2 (f.lt c).1,rfl⟩)
 ·rw[w];exact .inl (if_pos rfl)
 ·rw[w.2,xL (h.mJ e r w.1).1 (bK (h.mJ e r w.1).2 (by decide))];exact .inr (.inr ⟨r,w.1,rfl⟩)
 ·rw[E1 (w.2▸pos w.1)];exact .inr (.inl ⟨p,⟨s,e,w.1⟩,w.2⟩)
theorem hH.tab (h:bM H u g G A LS SA S) (la:ni G S m) (fd:hH wd G S m d) {H2:Hp} {T:Nat} {a:TA} (ht:TabAt H2 T g G S.length a d):uz H2 T g G S a d:=
 ⟨ht,λq s e=>(fd.1 q s e).2,λt z=>fd.act h la z⟩
theorem hH.pr (f0:hH false G S m d0) (f1:hH true G S m d1):∀q<S.length,Pr d0 d1 q:=λq z=>by
 have a:=(f0.1 q _ (ao z)).1
 have b:=(f1.1 q _ (ao z)).1
 have e0:=a.2.2.trans (if_pos (a.1 rfl))
 exact⟨a.1 rfl,e0▸b.2.1 rfl,e0▸b.2.2⟩
theorem hH.two (h:bM H u g G A LS SA S) (la:ni G S m) (f0:hH false G S m d0) (f1:hH true G S m d1) (z:t<5) (k:jr S st):
  res G S (d0.act t) n st=res G S (d1.act t) n st∨(∃dk,res G S (d0.act t) n st=some (dk,0))∧(res G S (d1.act t) n st=none∨∃dk,res G S (d1.act t) n st=some (dk,0)):=by
 refine k.on (P:=λst=>res G S (d0.act t) n st=res G S (d1.act t) n st∨(∃dk,res G S (d0.act t) n st=some (dk,0))∧(res G S (d1.act t) n st=none∨∃dk,res G S (d1.act t) n st=some (dk,0)))
  (HB h la (f0.act h la z) (f1.act h la z) z (λq s e n0=>?_) (λq s e n0 n1=>?_) n)
 ·have z0:=(f0.1 q s e).1.1 rfl
  rw[f0.val e z,z0,si]at n0
  rw[f1.val e z,f0.val e z,si,si]
  by_cases c:(sE G m q s).getD t 0= -1048576
  ·rw[if_pos c,if_pos c]
  ·rw[if_neg c]at n0 ⊢;rw[if_neg c]
   by_cases c0:(sE G m q s).getD t 0=0
   ·rw[if_pos c0]at n0;exact(n0 rfl).elim
   ·rw[if_neg c0,if_neg c0]
 ·refine(h.rw la e).3 t z (hM λc0=>?_)
  have c:¬(sE G m q s).getD t 0= -1048576:=λc=>n1 ((f1.val e z).trans (if_pos c))
  exact c0 ((if_neg c0).symm.trans ((if_neg c).symm.trans ((f0.val e z).symm.trans n0)))
theorem hH.wt (h:bM H u g G A LS SA S) (la:ni G S m) (f0:hH false G S m d0) (f1:hH true G S m d1) (z:t<5) (k:jr S st):FG G S (d0.act t) st=FG G S (d1.act t) st:=by
 unfold FG
 refine(hH.two (n:=30) h la f0 f1 z k).elim (λe=>by rw[e]) λw=>w.1.elim λs0 e0=>w.2.elim (λe1=>?_) λw=>w.elim λs1 e1=>?_
 ·rw[e0,e1];rfl
 ·rw[e0,e1];rfl
theorem hH.ex (h:bM H u g G A LS SA S) (la:ni G S m) (f0:hH false G S m d0) (f1:hH true G S m d1) (k:jr S st):(List.range 5).filter (FH G S d0 st)=(List.range 5).filter (FH G S d1 st):=
 List.filter_congr λt ht=>by unfold FH;rw[f0.wt h la f1 (bp.1 ht) k]
end
section
variable {H H1:Hp} {sc sy k n many:Nat} {l:List Int} {R:Prop} {L:Lc}
theorem t_ {a:Int} {n:Nat} (h:0<n):∃v:Nat,v<n∧a.fmod n=v:=by
 have a0:=Int.fmod_nonneg_of_pos a (fO.2 h)
 have a1:=Int.fmod_lt_of_pos a (fO.2 h)
 exact⟨(a.fmod n).toNat,by omega,by omega⟩
theorem I7 (h:H[sc]?=some (.ro l)) (k9:k<1000) (m0:0<many) (q:∀v H',v<many->JR 6 [.ref sc,.int k,.int many] H (.int (v:Nat)) H'->Ext H H'->R):R:=by
 refine c7 6 [.ref sc,.int k,.int many] H rfl rfl (L:=[some (.ref sc),some (.int k),some (.int many)]) rfl λQ q'=>?_
 have T:=JT.bY (H:=H) (L:=[some (.ref sc),some (.int k),some (.int many)]) (a:=.var 1) (b:=.len (.var 0)) (.var rfl) (.len (.var rfl) (.ro h)) (.lt _ _)
 have mz:(many:Int)≠0:=by omega
 by_cases c:k<l.length
 ·rw[decide_eq_true (bC.2 c)]at T
  obtain⟨v,lt,e⟩:=t_ (a:=l[k]) m0
  refine .then T (.ret (.bin (.intOf (.idx (.var rfl) (.var rfl) (.ro h (dP c) (ao c)))) (.var rfl) (.mod _ _ _ mz)) (q' λj=>q v H lt ?_ .r))
  rw[←e];exact j
 ·rw[decide_eq_false λw=>c (bC.1 w)]at T
  refine .pass T (IB (n:=40) (L:=[some (.ref sc),some (.int k),some (.int many)]) (.var (i:=0) rfl) .lit (.ro h) (ib _ rfl) λa H2 j f g e=>?_)
  obtain⟨v,lt,ev⟩:=t_ (a:=((k:Int)*(k+1)).fdiv 2+(l.take 40).sum) m0
  refine .ret (.bin (.bin (.bin (.bin (.var rfl) (.bin (.var rfl) .lit (.add _ _ _)) (.mul _ _ _ (by omega) (by omega))) .lit (.fdiv _ _ _ (by decide) (by decide))) (.sum j g) (.add _ _ _)) (.var rfl) (.mod _ _ _ mz)) (q' λj=>q v H2 lt ?_ e)
  rw[←ev];exact j
theorem rS (x0:L[0]?=some (some (.ref sc))) (h:H[sc]?=some (.ro l)) (k9:k<1000) (m0:0<many) {ke:CE} (xk:JE ke L H (.int k) H) (q:∀v H',v<many->JE (.call 6 (.cons (.var 0) (.cons ke (.cons (.lit (.int many)) .nil)))) L H (.int (v:Nat)) H'->Ext H H'->R):R:=
 I7 h k9 m0 λv H' lt j e=>q v H' lt (.call (.av (.var x0) (.av xk (.av .lit .bn))) j) e
theorem HI {syms:List Nat} (h:H[sc]?=some (.ro l)) (hs:H[sy]?=some (.list (vn syms))) (s0:0<syms.length) (s9:syms.length≤9) (k9:k<100) (n9:n≤9)
  (q:∀r H',JR 21 [.ref sc,.int k,.int n,.ref sy] H (.tup (vn r)) H'->Ext H H'->r.length=n->(∀x∈r,x∈syms)->R):R:=by
 refine c7 21 [.ref sc,.int k,.int n,.ref sy] H rfl rfl (L:=[some (.ref sc),some (.int k),some (.int n),some (.ref sy)]) rfl λQ q'=>?_
 have zl:(de ((List.range n).map Int.ofNat)).length≤SZ:=by rw[dD,ae,aT];exact kD (by omega)
 refine rL (elt:=.idx (.var 0) (.call 6 (.cons (.var 1) (.cons (.bin .add (.var 2) (.var 3)) (.cons (.len (.var 0)) .nil))))) (ifs:=.nil) (L:=[some (.ref sy),some (.ref sc),some (.int k)]) (H:=H) (g:=.none) (xs:=de ((List.range n).map Int.ofNat))
  (λi ys H'=>Ext H H'∧∃r:List Nat,ys=vn r∧r.length=i∧∀x∈r,x∈syms) ⟨.r,[],rfl,rfl,nofun⟩ (λ_=>trivial) ?_ zl ?_ ?_
 ·rintro i ys H' ⟨_,r,rfl,rfl,_⟩;rw[aX];exact aC _
 ·rintro i y ys H' hy ⟨e,r,rfl,rfl,mr⟩
  have hn:r.length<n:=by
   have:=(ah.1 hy).1
   rwa[dD,ae,aT]at this
  have ey:y= .int (r.length:Nat):=by
   rw[de,aH,aH,dB hn]at hy;exact(ax hy).symm
  subst ey
  refine I7 (H:=H') (k:=k+r.length) (many:=syms.length) (e _ _ h) (by omega) s0 λv H2 lt j e2=>?_
  have ln:=JE.len (H:=H') (L:=[some (.ref sy),some (.ref sc),some (.int k)]++[some (.int (r.length:Nat))]) (.var (i:=0) rfl) (.list (e _ _ hs) (by rw[aX];exact kD (by omega)))
  rw[aX]at ln
  exact .yes .lu trivial (.idx (.var rfl) (.call (.av (.var rfl) (.av (.bin (.var rfl) (.var rfl) (.add _ _ _)) (.av ln .bn))) j) (.nat (e2 _ _ (e _ _ hs)) (cN (ao lt)))) ⟨e.trans e2,r++[syms[v]],(oy _ _).symm,aq,λx hx=>by
   rcases aD.1 hx with w|w
   ·exact mr x w
   ·rw[ak.1 w];exact g_ lt⟩
 ·rintro ys H' j ⟨e,r,rfl,er,mr⟩
  rw[dD,ae,aT]at er
  refine kh (L:=[some (.ref sc),some (.int k),some (.int n),some (.ref sy)]) (caps:=[3,0,1]) rfl (.yE (.var (i:=2) rfl) (kD (by omega))) rfl j (by rw[aX];exact kD (by omega)) λa H2 j2 f2 g2 e2=>.ret (.tupleOf j2 g2 (by rw[aX];exact kD (by omega))) (q' λj=>q r H2 j (e.trans e2) er mr)
theorem sG {syms:List Nat} {le:CE} {se:mo} {H2:Hp} (x0:L[0]?=some (some (.ref sc))) (h:H1[sc]?=some (.ro l)) (jl:JE le L H (.int n) H1) (js:vG se L H1 (vn syms) H1) (s0:0<syms.length) (s9:syms.length≤9) (k9:k<100) (n9:n≤9)
  (q:∀r H',JE (.call 21 (.cons (.var 0) (.cons (.lit (.int k)) (.cons le (.cons (.list se) .nil))))) L H (.tup (vn r)) H'->Ext H1 H'->r.length=n->(∀x∈r,x∈syms)->R):R:=
 jJ js (by rw[aX];exact kD (by omega)) λsy H2 j2 f2 g2 e2=>HI (e2 _ _ h) g2 s0 s9 k9 n9 λr H' j e er mr=>q r H' (.call (.av (.var x0) (.av .lit (.av jl (.av j2 .bn)))) j) (e2.trans e) er mr
noncomputable def pV (p:Nat×List Nat):V:=.tup [.int p.1,.tup (vn p.2)]
inductive KT (r1 r2 r3 r4:List Nat):Prop
 |mk (l1:0<r1.length∧r1.length≤3) (l2:r2.length≤3) (l3:r3.length≤2) (l4:r4.length≤3) (m1:∀x∈r1,x∈[7,3,4]) (m2:∀x∈r2,x∈[6,7,3,4]) (m3:∀x∈r3,x∈[3,4]) (m4:∀x∈r4,x∈[6,7,3,4])
theorem ints4 {a b c d:Nat}:vG (.cons (.lit (.int a)) (.cons (.lit (.int b)) (.cons (.lit (.int c)) (.cons (.lit (.int d)) .nil)))) L H (vn [a,b,c,d]) H:=.av .lit (.av .lit (.av .lit (.av .lit .bn)))
theorem E7 (h:H[sc]?=some (.ro l)) (q:∀P r1 r2 r3 r4 H',JR 22 [.ref sc] H (.ref P) H'->H'[P]?=some (.list ([(6,r1),(6,r2),(7,r3),(7,r4)].map pV))->Ext H H'->KT r1 r2 r3 r4->R):R:=by
 refine c7 22 [.ref sc] H rfl rfl (L:=[some (.ref sc),none]) rfl λQ q'=>?_
 refine rS (H:=H) (k:=5) (many:=3) (L:=[some (.ref sc),none]) rfl h (by decide) (by decide) .lit λv1 H1 lt1 j1 e1=>?_
 refine sG (H:=H) (H1:=H1) (H2:=H1) (L:=[some (.ref sc),none]) (k:=6) (n:=1+v1) (syms:=[7,3,4]) (se:=.cons (.lit (.int 7)) (.cons (.lit (.int 3)) (.cons (.lit (.int 4)) .nil))) rfl (e1 _ _ h) (.bin .lit j1 (.add 1 v1 _)) (.av .lit (.av .lit (.av .lit .bn))) (by decide) (by decide) (by decide) (by omega) λr1 H2 j2 e2 er1 mr1=>?_
 have HJ:=e1.trans e2
 refine jJ (.av (.tup (.av (.lit (v:=.int 6)) (.av j2 .bn)) (ib _ rfl)) .bn) (ib _ rfl) λP H3 j3 f3 g3 e3=>.set j3 ?_
 have LD:=HJ.trans e3
 refine rS (H:=H3) (k:=9) (many:=4) (L:=[some (.ref sc),some (.ref P)]) rfl (LD _ _ h) (by decide) (by decide) .lit λv2 H4 lt2 j4 e4=>?_
 refine sG (H:=H3) (H1:=H4) (H2:=H4) (L:=[some (.ref sc),some (.ref P)]) (k:=10) (n:=v2) (syms:=[6,7,3,4]) rfl (e4 _ _ (LD _ _ h)) j4 ints4 (by decide) (by decide) (by decide) (by omega) λr2 H5 j5 e5 er2 mr2=>?_
 have fP:=HJ.none f3
 have g5:=e5 _ _ (e4 _ _ g3)
 refine .expr (.append (.var rfl) (.tup (.av .lit (.av j5 .bn)) (ib _ rfl)) ⟨_,g3⟩ g5 (ri (dW rfl))) ?_
 have e6:=(LD.trans (e4.trans e5)).set (o:=.list ([pV (6,r1)]++[pV (6,r2)])) fP
 have g6:=dh (p:=.list ([pV (6,r1)]++[pV (6,r2)])) g5
 generalize hH6:H5.set P (.list ([pV (6,r1)]++[pV (6,r2)]))=H6 at e6 g6
 rw[show H5.set P (.list ([V.tup [.int 6,.tup (vn r1)]]++[.tup [.int 6,.tup (vn r2)]]))=H6 from hH6]
 refine rS (H:=H6) (k:=2) (many:=3) (L:=[some (.ref sc),some (.ref P)]) rfl (e6 _ _ h) (by decide) (by decide) .lit λv3 H7 lt3 j7 e7=>?_
 refine sG (H:=H6) (H1:=H7) (H2:=H7) (L:=[some (.ref sc),some (.ref P)]) (k:=3) (n:=v3) (syms:=[3,4]) (se:=.cons (.lit (.int 3)) (.cons (.lit (.int 4)) .nil)) rfl (e7 _ _ (e6 _ _ h)) j7 (.av .lit (.av .lit .bn)) (by decide) (by decide) (by decide) (by omega) λr3 H8 j8 e8 er3 mr3=>?_
 have g8:=e8 _ _ (e7 _ _ g6)
 refine .expr (.append (.var rfl) (.tup (.av .lit (.av j8 .bn)) (ib _ rfl)) ⟨_,g6⟩ g8 (ri (dW rfl))) ?_
 have e9:=(e6.trans (e7.trans e8)).set (o:=.list (([pV (6,r1)]++[pV (6,r2)])++[pV (7,r3)])) fP
 have g9:=dh (p:=.list (([pV (6,r1)]++[pV (6,r2)])++[pV (7,r3)])) g8
 generalize hH9:H8.set P (.list (([pV (6,r1)]++[pV (6,r2)])++[pV (7,r3)]))=H9 at e9 g9
 rw[show H8.set P (.list (([pV (6,r1)]++[pV (6,r2)])++[V.tup [.int 7,.tup (vn r3)]]))=H9 from hH9]
 refine rS (H:=H9) (k:=13) (many:=4) (L:=[some (.ref sc),some (.ref P)]) rfl (e9 _ _ h) (by decide) (by decide) .lit λv4 Ay Qg Qh LE=>?_
 refine sG (H:=H9) (H1:=Ay) (H2:=Ay) (L:=[some (.ref sc),some (.ref P)]) (k:=14) (n:=v4) (syms:=[6,7,3,4]) rfl (LE _ _ (e9 _ _ h)) Qh ints4 (by decide) (by decide) (by decide) (by omega) λr4 KC P4 NB er4 mr4=>?_
 have Oy:=NB _ _ (LE _ _ g9)
 refine .expr (.append (.var rfl) (.tup (.av .lit (.av P4 .bn)) (ib _ rfl)) ⟨_,g9⟩ Oy (ri (dW rfl))) ?_
 have HJ:=(e9.trans (LE.trans NB)).set (o:=.list ((([pV (6,r1)]++[pV (6,r2)])++[pV (7,r3)])++[pV (7,r4)])) fP
 exact .ret (.var rfl) (q' λj=>q P r1 r2 r3 r4 _ j (dh (p:=.list ((([pV (6,r1)]++[pV (6,r2)])++[pV (7,r3)])++[pV (7,r4)])) Oy) HJ ⟨by omega,by omega,by omega,by omega,mr1,mr2,mr3,mr4⟩)
end
section
open Dg (lO)
variable {H H0 H' H1:Hp} {R:Prop} {L:Lc}
theorem Ow.oth {b:Nat} {o:O} {l:List (Nat×O)} (h:Ow H1 H l) (f:H1[b]?=none) (n:∀p∈l,p.1≠b):Ow H1 (H.set b o) l:=⟨h.1.set f,λp m=>⟨(h.2 p m).1,eJ (h.2 p m).2 (n p m)⟩,h.3⟩
theorem qG {a n:Nat} {x:Ru} {vs:List V} (hk:(decide (vs.length≤8)&&decide (8≤vs.length+4))=true) (hs:rK.start vs=[some (.ref a),some (.int n),some (.int x.left),some (.tup (vn x.right)),some (.int x.lvl),some .none,some (.int 0),some (.int 0)]) (fa:H[a]?=none) (e:Ext H H') (ha:H'[a]?=some (.inst 5 []))
  (k:∀H2,JR 45 vs H' .none H2->Ow H H2 [(a,B5 n x)]->R):R:=by
 have w0:Ow H H' [(a,.inst 5 [])]:=Ow.new ⟨.r,nofun,.nil⟩ fa ha e
 refine c7 45 vs H' rfl hk hs λQ q'=>?_
 exact .own (.var rfl) rfl w0 rfl rfl λH1 w1 _=>.own (.var rfl) rfl w1 rfl rfl λH2 w2 _=>.own (.var rfl) rfl w2 rfl rfl λH3 w3 _=>.own (.var rfl) rfl w3 rfl rfl λH4 w4 _=>.own (.var rfl) rfl w4 rfl rfl λH5 w5 _=>.own (.var rfl) rfl w5 rfl rfl λH6 w6 _=>.own (.var rfl) rfl w6 rfl rfl λH7 w7 _=>.nil (q' λj=>k H7 j w7)
noncomputable def aJ.uC (G:aJ) (n:Nat):List Nat:=(List.range n).flatMap λr=>List.replicate ((G.rules[r]?.map (·.right.length)).getD 0+1) r
noncomputable def aJ.E8 (G:aJ) (n s:Nat):List Nat:=(List.range n).filter λr=>(G.rules[r]?.map (·.left))==some s
theorem E9 (G:aJ) (n:Nat):(G.uC n).length=((List.range n).map λx=>((G.rules[x]?.map (·.right.length)).getD 0)+1).sum:=by
 rw[aJ.uC,jO];congr 1
 exact cS λr _=>bX
theorem BN (G:aJ) {n:Nat} {x:Ru} (e:G.rules[n]?=some x):G.uC (n+1)=G.uC n++List.replicate (x.right.length+1) n:=by
 rw[aJ.uC,bG,cH,cx,cR,aN,e];rfl
theorem E_ (G:aJ) {n:Nat} {x:Ru} (e:G.rules[n]?=some x) (s:Nat):G.E8 (n+1) s=if s=x.left then G.E8 n x.left++[n]else G.E8 n s:=by
 rw[aJ.E8,bG,cP]
 by_cases c:s=x.left
 ·rw[if_pos c,cY (by rw[e,c];exact beq_self_eq_true _),d6,c];rfl
 ·rw[if_neg c,dq (by rw[e];exact λk=>c (ax (beq_iff_eq.1 k)).symm),d6,aN];rfl
noncomputable def gF (nm RL LV BL OF OW:Nat):List (Nat×V):=[(47,.ref nm),(29,.int 5),(5,.ref RL),(15,.ref LV),(48,.none),(49,.int 6),(39,.ref BL),(37,.ref OF),(36,.ref OW)]
theorem BP {gr nm RL LV BL OF OW:Nat} {rs:List (Nat×Ru)} {bs:List Nat} {levels:List (Int×V)} {Q:Fl->Lc->Hp->Prop} {r:i6} {G:aJ} (eG:G.rules=rs.map (·.2)) (r5:rs.length=5) (l8:∀p∈rs,p.2.left<8) (rl:∀p∈rs,p.2.right.length≤3) (NK:H[RL]?=some (iQ rs)) (hr:∀(i:Nat) p,rs[i]?=some p->H[p.1]?=some (B5 i p.2))
  (w:Ow H H1 [(gr,.inst 4 (gF nm RL LV BL OF OW)),(BL,.list (bs.map .ref)),(OF,lO []),(OW,lO [])]) (b8:bs.length=8) (nd:bs.Nodup) (fb:∀b∈bs,H[b]?=none∧b∉[gr,BL,OF,OW]) (rw0:Rows H1 bs λ_=>[])
  (k:∀x7 H',Ow H H' [(gr,.inst 4 (gF nm RL LV BL OF OW)),(BL,.list (bs.map .ref)),(OF,lO G.GP),(OW,lO G.own)]->Rows H' bs G.gj->cB r [some (.ref gr),some (.ref nm),some (.int 5),some (.ref RL),some (.ref LV),some .none,some (.int 6),x7] H' Q):
  cB (.cons (.for (.v 7) (.ex (.attr (.var 0) 5)) (.cons (.expr (.append (.idx (.attr (.var 0) 39) (.attr (.var 7) 8)) (.attr (.var 7) 7))) (.cons (.expr (.append (.attr (.var 0) 37) (.len (.attr (.var 0) 36)))) (.cons (.expr (.extend (.attr (.var 0) 36) (.bin .mul (.list (.cons (.attr (.var 7) 7) .nil)) (.bin .add (.len (.attr (.var 7) 6)) (.lit (.int 1)))))) .nil)))) r)
   [some (.ref gr),some (.ref nm),some (.int 5),some (.ref RL),some (.ref LV),some .none,some (.int 6),none] H1 Q:=by
 have gl:G.rules.length=5:=by rw[eG,ae,r5]
 refine .r9 (λ_ (x7:Option V)=>[some (.ref gr),some (.ref nm),some (.int 5),some (.ref RL),some (.ref LV),some .none,some (.int 6),x7])
  (λn _ H'=>Ow H H' [(gr,.inst 4 (gF nm RL LV BL OF OW)),(BL,.list (bs.map .ref)),(OF,lO ((List.range n).map G.off)),(OW,lO (G.uC n))]∧Rows H' bs (G.E8 n)) none
  (.pF (.attr (.var rfl) (w.at_ 0 rfl) rfl rfl) (.list (w.1 _ _ NK)) (by rw[ae,ae,r5];exact ib _ rfl)) ⟨w,rw0⟩ (λh=>h.1.1 _ _ NK) ?_ ?_
 ·intro n b x7 H2 K hb h2 cg _
  obtain⟨w2,NL⟩:=h2
  rw[aH,aZ]at hb
  obtain⟨⟨b',x⟩,hp,eb⟩:=hb
  have eb:b'=b:=eb
  subst eb
  have mp:=am hp
  have n5:n<5:=r5▸(ah.1 hp).1
  have ex:G.rules[n]?=some x:=by rw[eG,aH,hp];rfl
  have ho:=hr n _ hp
  have l8:x.left<8:=l8 _ mp
  have PX:x.right.length≤3:=rl _ mp
  have ec:=ao (b8.symm▸l8:x.left<bs.length)
  generalize bs[x.left]'(b8.symm▸l8)=c at ec
  obtain⟨fc,nc⟩:=fb c (am ec)
  have gc:=NL _ _ ec
  have bl:(G.E8 n x.left).length≤5:=by
   have:=a7 (λr=>(G.rules[r]?.map (·.left))==some x.left) (List.range n)
   rw[aT]at this;exact aj this (aK n5)
  refine .expr (.append (.idx (.attr (.var rfl) (w2.at_ 0 rfl) rfl rfl) (.attr (.var rfl) (w2.1 _ _ ho) rfl rfl) (.nat (w2.at_ 1 rfl) (dy ec))) (.attr (.var rfl) (w2.1 _ _ ho) rfl rfl) ⟨_,gc⟩ gc (by rw[aX];exact ri (by omega))) ?_
  rw[←oy]
  have w3:=w2.oth (o:=.list (vn (G.E8 n x.left++[n]))) fc λp m e=>nc (e▸az.2 ⟨p,m,rfl⟩)
  have Qi:=NL.set nd ec (G.E8 n x.left++[n])
  rw[show(λt=>if t=x.left then G.E8 n x.left++[n]else G.E8 n t)=G.E8 (n+1) from funext λt=>(E_ G ex t).symm]at Qi
  generalize H2.set c _=H3 at w3 Qi
  have ol:(G.uC n).length≤20:=by
   have:=qt (k:=4) (List.range n) (f:=λr=>List.replicate ((G.rules[r]?.map (·.right.length)).getD 0+1) r) λr hr=>by
    rw[bX]
    cases e:G.rules[r]? with
    |none=>show 0+1≤4;decide
    |some y=>
     rw[eG]at e
     obtain⟨p,mp,rfl⟩:=az.1 (am e)
     exact aM (rl p mp)
   rw[aT]at this;exact aj this (by omega)
  have off:G.off n=(G.uC n).length:=by rw[E9,aJ.vL G n (by omega)]
  have ln:=JE.len (H:=H3) (L:=[some (.ref gr),some (.ref nm),some (.int 5),some (.ref RL),some (.ref LV),some .none,some (.int 6),some (.ref b')]) (.attr (f:=36) (.var (i:=0) rfl) (w3.at_ 0 rfl) rfl rfl) (.list (w3.at_ 3 rfl) (by rw[aX];exact kD (by omega)))
  rw[aX,←off]at ln
  have g2:=w3.at_ 2 rfl
  refine .expr (.append (.attr (.var rfl) (w3.at_ 0 rfl) rfl rfl) ln ⟨_,g2⟩ g2 (by rw[aX,ae,aT];exact ri (by omega))) ?_
  rw[←oy,show(List.range n).map G.off++[G.off n]=(List.range (n+1)).map G.off by rw[bG,ay];rfl]
  have w4:=Ow.set [_,_] w3 (lO ((List.range (n+1)).map G.off))
  have rw4:=Qi.ne (a:=OF) (o:=lO ((List.range (n+1)).map G.off)) λm=>(fb OF m).2 (by simp)
  change cB _ _ (H3.set OF (lO ((List.range (n+1)).map G.off))) K
  generalize H3.set OF (lO ((List.range (n+1)).map G.off))=H4 at w4 rw4
  have ho4:=w4.1 _ _ ho
  refine jJ (L:=[some (.ref gr),some (.ref nm),some (.int 5),some (.ref RL),some (.ref LV),some .none,some (.int 6),some (.ref b')]) (.av (.attr (f:=7) (.var (i:=7) rfl) ho4 rfl rfl) .bn) (ib _ rfl) λB H5 j5 f5 g5 e5=>?_
  have ad:JE (.bin .add (.len (.attr (.var 7) 6)) (.lit (.int 1))) [some (.ref gr),some (.ref nm),some (.int 5),some (.ref RL),some (.ref LV),some .none,some (.int 6),some (.ref b')] H5 (.int ((x.right.length+1:Nat):Int)) H5:=by
   have:=JE.len (H:=H5) (L:=[some (.ref gr),some (.ref nm),some (.int 5),some (.ref RL),some (.ref LV),some .none,some (.int 6),some (.ref b')]) (.attr (f:=6) (.var (i:=7) rfl) (e5 _ _ ho4) rfl rfl) (.tup (l:=vn x.right) (by rw[aX];exact kD (by omega)))
   rw[aX]at this
   exact .bin this .lit (.add _ _ _)
  have Qj:=w4.at_ 3 rfl
  refine GN j5 ad g5 (kD (by omega)) λC H6 j6 f6 g6 e6=>.expr (.extend (.attr (.var rfl) (w4.at_ 0 rfl) rfl rfl) j6 ⟨_,Qj⟩ (e6 _ _ (e5 _ _ Qj)) g6 (e_ f6 (e5 _ _ Qj)) (by rw[aX,bX];exact ri (by omega))) (.nil (cg (some (.ref b')) rfl ⟨?_,?_⟩))
  ·have eq:O.list (vn (G.uC n)++List.replicate (x.right.length+1) (.int n))=lO (G.uC (n+1)):=by rw[lO,BN G ex,vn,vn,ay,ky]
   rw[eq];exact Ow.set [_,_,_] ((w4.ext e5).ext e6) _
  ·exact Rows.ne (λs b e=>e6 _ _ (e5 _ _ (rw4 s b e))) λm=>(fb OW m).2 (by simp)
 ·intro x7 H2 h2
  obtain⟨w2,NL⟩:=h2
  rw[ae,r5]at w2 NL
  refine k x7 H2 ?_ ?_
  ·rw[aJ.GP,aJ.own,gl];exact w2
  ·intro s b e
   have:=NL s b e
   rw[aJ.gj,gl];exact this
end
section
open Dg (lO)
variable {H H0 H' H1:Hp} {R:Prop} {L:Lc}
noncomputable def OI (gr nm RL LV:Nat):Lc:=[some (.ref gr),some (.ref nm),some (.int 5),some (.ref RL),some (.ref LV),some .none,some (.int 6),none]
theorem wc {gr nm RL LV:Nat} {rs:List (Nat×Ru)} {ns:List Nat} {levels:List (Int×V)} (Qk:H[nm]?=some (.list (ns.map .str))) (n8:ns.length=8) (NK:H[RL]?=some (iQ rs)) (hr:∀(i:Nat) p,rs[i]?=some p->H[p.1]?=some (B5 i p.2))
  (gLV:H[LV]?=some (.bc levels)) (ok:(⟨rs.map (·.2),levels⟩:aJ).Ok) (fg:H[gr]?=none) (e:Ext H H') (hg:H'[gr]?=some (.inst 4 []))
  (q:∀A H2,JR 44 [.ref gr,.ref nm,.int 5,.ref RL,.ref LV,.none,.int 6] H' .none H2->Ext H H2->b_ H2 gr ⟨rs.map (·.2),levels⟩ A->R):R:=by
 have w0:Ow H H' [(gr,.inst 4 [])]:=Ow.new ⟨.r,nofun,.nil⟩ fg hg e
 have r5:rs.length=5:=by have:=ok.1;rwa[ae]at this
 refine c7 44 [.ref gr,.ref nm,.int 5,.ref RL,.ref LV,.none,.int 6] H' rfl rfl (L:=OI gr nm RL LV) rfl λQ q'=>?_
 refine .own (.var rfl) rfl w0 rfl rfl λH1 w1 _=>.own (.var rfl) rfl w1 rfl rfl λH2 w2 _=>.own (.var rfl) rfl w2 rfl rfl λH3 w3 _=>.own (.var rfl) rfl w3 rfl rfl λH4 w4 _=>.own (.var rfl) rfl w4 rfl rfl λH5 w5 _=>.own (.var rfl) rfl w5 rfl rfl λH6 w6 _=>?_
 have zn:(ns.map V.str).length≤SZ:=by rw[ae,n8];exact ib _ rfl
 refine qp (L:=[]) (w6.1 _ _ Qk) zn λbs H7 j7 l7 nd7 b7 e7=>?_
 have b8:bs.length=8:=by rw[l7,ae,n8]
 refine kh (L:=OI gr nm RL LV) (caps:=[]) rfl (.pF (.attr (f:=47) (.var (i:=0) rfl) (w6.at_ 0 rfl) rfl rfl) (.list (w6.1 _ _ Qk)) zn) rfl j7 (by rw[ae,b8];exact ib _ rfl) λBL H8 j8 f8 g8 e8=>?_
 refine .own j8 rfl (Ow.ins [_] (B:=[]) (w6.ext e7) f8 g8 e8) rfl rfl λH9 w9 x9=>hN (H:=H9) (L:=OI gr nm RL LV) λOF Ay Qh f10 g10 LE=>?_
 refine .own Qh rfl (Ow.ins [_,_] (B:=[]) w9 f10 g10 LE) rfl rfl λKC IZ fK=>hN (H:=KC) (L:=OI gr nm RL LV) λOW H12 j12 f12 g12 HJ=>?_
 refine .own j12 rfl (Ow.ins [_,_,_] (B:=[]) IZ f12 g12 HJ) rfl rfl λP5 P6 x13=>?_
 have ng:∀b∈bs,b≠gr:=λb m k=>by have:=(b7 b m).2;rw[k,w6.at_ 0 rfl]at this;cases this
 have st8:∀b∈bs,H8[b]?=some (.list []):=λb m=>e8 _ _ (b7 b m).1
 have Oi:∀b∈bs,H9[b]?=some (.list []):=λb m=>x9 _ _ (vO (ng b m)) (st8 b m)
 have Ql:∀b∈bs,Ay[b]?=some (.list []):=λb m=>LE _ _ (Oi b m)
 have NM:∀b∈bs,KC[b]?=some (.list []):=λb m=>fK _ _ (vO (ng b m)) (Ql b m)
 have Qm:∀b∈bs,P5[b]?=some (.list []):=λb m=>x13 _ _ (vO (ng b m)) (HJ _ _ (NM b m))
 refine BP (G:=⟨rs.map (·.2),levels⟩) (BL:=BL) (OF:=OF) (OW:=OW) (levels:=levels) rfl r5 (λp m=>?_) (λp m=>?_) NK hr P6 b8 nd7 (λb m=>⟨w6.1.none (b7 b m).2,λk=>?_⟩) (λs b k=>Qm b (am k)) λx7 H14 Qn Qo=>?_
 ·obtain⟨i,hi⟩:=aO m
  have:=ok.2 i p.2 (by show(rs.map (·.2))[i]?=_;rw[aH,hi];rfl)
  rw[this];split<;>(try split)<;>omega
 ·obtain⟨i,hi⟩:=aO m
  exact ok.3 i p.2 (by show(rs.map (·.2))[i]?=_;rw[aH,hi];rfl)
 ·simp only[aI,aQ,or_false]at k
  rcases k with k|k|k|k
  ·exact ng b m k
  ·exact e_ f8 (b7 b m).1 k
  ·exact e_ f10 (Oi b m) k
  ·exact e_ f12 (NM b m) k
 ·have ol:(aJ.own ⟨rs.map (·.2),levels⟩).length≤20:=by
   have:=qt (k:=4) (List.range rs.length) (f:=λr=>List.replicate (((rs.map (·.2))[r]?.map (·.right.length)).getD 0+1) r) λr hr=>by
    rw[bX]
    cases e:(rs.map (·.2))[r]? with
    |none=>show 0+1≤4;decide
    |some y=>exact aM (ok.3 r y e)
   rw[aT,r5]at this
   rw[aJ.own];show((List.range (rs.map (·.2)).length).flatMap _).length≤20
   rw[ae,r5];exact this
  have ln:=JE.len (H:=H14) (L:=[some (.ref gr),some (.ref nm),some (.int 5),some (.ref RL),some (.ref LV),some .none,some (.int 6),x7]) (.attr (f:=36) (.var (i:=0) rfl) (Qn.at_ 0 rfl) rfl rfl) (.list (Qn.at_ 3 rfl) (by rw[aX];exact kD (by omega)))
  rw[aX]at ln
  refine .own ln rfl Qn rfl rfl λH15 HK x15=>.nil (q' λj=>q ⟨nm,RL,LV,BL,OF,OW,rs.map (λp:Nat×Ru=>p.1),bs,ns⟩ H15 j HK.1 ⟨HK.at_ 0 rfl,HK.1 _ _ NK,by rw[ae,ae],λi a k=>?_,HK.at_ 1 rfl,b8,λs b k=>x15 _ _ (vO (ng b (am k))) (Qo s b k),HK.at_ 2 rfl,HK.at_ 3 rfl,HK.1 _ _ gLV,HK.1 _ _ Qk,n8,ok⟩)
  rw[aH,aZ]at k
  obtain⟨p,hp,rfl⟩:=k
  exact⟨p.2,by show(rs.map (·.2))[i]?=_;rw[aH,hp];rfl,HK.1 _ _ (hr i p hp)⟩
end
section
variable {H H0 H' H1:Hp} {R:Prop} {L:Lc} {sc:Nat} {sl:List Int} {r1 r2 r3 r4:List Nat}
theorem Fb {κ:Type} [DecidableEq κ] {k:κ} {v:V} {d:List (κ×V)} {p:κ×V} (h:p∈dput k v d):p=(k,v)∨p∈d:=by
 unfold dput at h
 split at h
 ·obtain⟨q,m,e⟩:=az.1 h
  by_cases c:q.1=k
  ·rw[if_pos c]at e;exact .inl (e▸c▸rfl)
  ·rw[if_neg c]at e;exact .inr (e▸m)
 ·exact(aD.1 h).symm.imp ak.1 id
theorem HL {rules:List Ru} {levels:List (Int×V)} (e:rules.map (λx=>(x.left,x.right))=[(5,[6,0]),(6,r1),(6,r2),(7,r3),(7,r4)]) (pr:KT r1 r2 r3 r4) (lv:∀x∈rules, -1≤x.lvl∧x.lvl<5)
  (uS:∀(k:Int) (v:V),(k,v)∈levels->∃(a:Nat) (b:Nat),v= .tup [.int a,.str b]∧b<4):aJ.Ok ⟨rules,levels⟩:=by
 have at_:∀(r:Nat) (x:Ru),rules[r]?=some x->([(5,[6,0]),(6,r1),(6,r2),(7,r3),(7,r4)]:List (Nat×List Nat))[r]?=some (x.left,x.right):=λr x h=>by rw[←e,aH,h];rfl
 have l5:rules.length=5:=by have:=congrArg List.length e;rwa[ae]at this
 refine⟨l5,λr x h=>?_,λr x h=>?_,?_,λr x h z s m=>?_,λx h=>?_,λx h=>?_,λx h=>?_,λr x h=>lv x (am h),uS⟩
 ·obtain⟨xl,xr,xv⟩:=x
  have:=at_ r _ h
  match r with
  |0|1|2|3|4=>cases this;rfl
  |n+5=>cases this
 ·obtain⟨xl,xr,xv⟩:=x
  have:=at_ r _ h
  match r with
  |0=>cases this;exact(by decide:2≤3)
  |1=>cases this;exact pr.1.2
  |2=>cases this;exact pr.2
  |3=>cases this;exact cu pr.3
  |4=>cases this;exact pr.4
  |n+5=>cases this
 ·have h0:=ao (l:=rules) (i:=0) (by omega)
  have:=at_ 0 _ h0
  show rules[0]?.map _=_
  rw[h0];exact congrArg some (congrArg Prod.snd (ax this)).symm
 ·obtain⟨xl,xr,xv⟩:=x
  have:=at_ r _ h
  match r with
  |0=>cases z
  |1=>cases this;have:=pr.5 s m;simp only[aI,aQ,or_false]at this;omega
  |2=>cases this;have:=pr.6 s m;simp only[aI,aQ,or_false]at this;omega
  |3=>cases this;have:=pr.7 s m;simp only[aI,aQ,or_false]at this;omega
  |4=>cases this;have:=pr.8 s m;simp only[aI,aQ,or_false]at this;omega
  |n+5=>cases this
 ·obtain⟨xl,xr,xv⟩:=x
  cases at_ 1 _ h
  have l1:=pr.1.1
  show ∃s l,xr=s::l∧s≠6
  cases er:xr with
  |nil=>rw[er]at l1;cases l1
  |cons s l=>
   refine⟨s,l,rfl,?_⟩
   have:=pr.5 s (er▸aP ..)
   simp only[aI,aQ,or_false]at this;omega
 ·obtain⟨xl,xr,xv⟩:=x
  cases at_ 3 _ h
  intro s m
  have:=pr.7 s m
  simp only[aI,aQ,or_false]at this;exact this
 ·obtain⟨xl,xr,xv⟩:=x
  cases at_ 3 _ h;exact pr.3
theorem Fc {M:Nat} {ms:List Int} (x5:L[5]?=some (some (.ref M))) (gM:H[M]?=some (.list (de ms))) (hm:∀v∈ms, -1≤v∧v<5)
  (q:∀lvl H',JE (.ite (.cmp .ne (.var 5) (.list .nil)) (.idx (.var 5) (.neg (.lit (.int 1)))) (.neg (.lit (.int 1)))) L H (.int lvl) H'->Ext H H'-> -1≤lvl∧lvl<5->R):R:=
 hN (H:=H) (L:=L) λB H2 j2 f2 g2 e2=>by
  have T:=JT.bY (.var x5) j2 (.ne (.il (r:=[]) (e2 _ _ gM) g2))
  rcases nG ms with rfl|⟨l,v,rfl⟩
  ·exact q (-1) H2 (.ite T (.neg .lit)) e2 (by decide)
  ·have:(!((l.concat v)==[]))=true:=by rw[fS];cases l<;>rfl
   rw[this]at T
   have g:=e2 _ _ gM
   rw[fS,de,ay]at g
   exact q v H2 (.ite T (.idx (.var x5) (.neg .lit) (.last g))) e2 (hm v (by rw[fS];exact aB _ (ak.2 rfl)))
structure GS where
 rs:List (Nat×Ru)
 X:List (Nat×O)
 x3:Option V
 x4:Option V
 x5:Option V
inductive HM (ps:List (Nat×List Nat)) (n:Nat) (f:GS):Prop
 |mk (rl:f.rs.length=n+1) (rm:∀(i:Nat) p,f.rs[i]?=some p->(p.1,B5 i p.2)∈f.X) (e:f.rs.map (λp=>(p.2.left,p.2.right))=(5,[6,0])::ps.take n) (lv:∀p∈f.rs, -1≤p.2.lvl∧p.2.lvl<5)
noncomputable def GL (sc P RL:Nat) (x3 x4 x5 x6 x7 x8 x9:Option V):Lc:=[some (.ref sc),some (.ref P),some (.ref RL),x3,x4,x5,x6,x7,x8,x9]
theorem BQ {P RL n:Nat} {ps:List (Nat×List Nat)} {f:GS} {p:Nat×List Nat} {K:Fl->Lc->Hp->Prop} (n9:n<4) (hp:ps[n]?=some p) (l9:p.2.length≤9) (w:Ow H H1 ((RL,iQ f.rs)::f.X)) (i:HM ps n f)
  (k:∀(f':GS) H',Ow H H' ((RL,iQ f'.rs)::f'.X)->HM ps (n+1) f'->K .next (GL sc P RL f'.x3 f'.x4 f'.x5 none none none none) H'):
  cB (.cons (.set (.v 5) (.comp [] (.var 0) (.ex (.var 4)) (.cons (.cmp .lt (.var 0) (.lit (.int 5))) .nil))) (.cons (.expr (.append (.var 2) (.new 5 (.cons (.len (.var 2)) (.cons (.var 3) (.cons (.var 4) (.cons (.ite (.cmp .ne (.var 5) (.list .nil)) (.idx (.var 5) (.neg (.lit (.int 1)))) (.neg (.lit (.int 1)))) .nil))))))) .nil))
   (GL sc P RL (some (.int p.1)) (some (.tup (vn p.2))) f.x5 none none none none) H1 K:=by
 refine lT (L:=GL sc P RL (some (.int p.1)) (some (.tup (vn p.2))) f.x5 none none none none) (L1:=[]) (caps:=[]) (elt:=.var 0) (ifs:=.cons (.cmp .lt (.var 0) (.lit (.int 5))) .nil) (it:=.ex (.var 4)) (gd:=.none) (p.2.map Int.ofNat) (λv=>decide (v<5)) id rfl
  (.pF (.var rfl) (by rw[←iE];exact .tup) (by rw[dD,ae];exact kD (by omega))) rfl trivial (by rw[ae];omega) (λv _=>?_) (λv _ _=>.var rfl) λM H2 j2 f2 g2 e2=>.set j2 ?_
 ·have X:=JT.bY (H:=H1) (L:=[some (V.int v)]) (.var (i:=0) rfl) .lit (.lt v 5)
  cases c:decide (v<5)with
  |true=>rw[c]at X;exact .at X .lu
  |false=>rw[c]at X;exact .af X
 have w2:=w.ext e2
 have rl:=i.1
 refine Fc (L:=GL sc P RL (some (.int p.1)) (some (.tup (vn p.2))) (some (.ref M)) none none none none) rfl g2 (λv hv=>?_) λlvl H3 j3 e3 lz=>?_
 ·rw[gz]at hv
  obtain⟨a,b⟩:=bz.1 hv
  obtain⟨x,_,rfl⟩:=az.1 a
  have:=of_decide_eq_true b
  exact⟨by simp only[Int.ofNat_eq_natCast];omega,this⟩
 have w3:=w2.ext e3
 have ln:=JE.len (H:=H2) (L:=GL sc P RL (some (.int p.1)) (some (.tup (vn p.2))) (some (.ref M)) none none none none) (.var (i:=2) rfl) (.list (w2.at_ 0 rfl) (by rw[ae,ae];exact kD (by omega)))
 rw[ae,ae]at ln
 refine new_ (c:=5) (.av ln (.av (.var (i:=3) rfl) (.av (.var (i:=4) rfl) (.av j3 .bn)))) rfl λa H4 fa ga ea nw=>qG (n:=f.rs.length) (x:=⟨p.1,p.2,lvl⟩) (vs:=[.ref a,.int f.rs.length,.int p.1,.tup (vn p.2),.int lvl]) rfl rfl fa ea ga λH5 j5 w5=>?_
 have g0:=w2.at_ 0 rfl
 have w6:=w3.join w5
 refine .expr (.append (.var rfl) (nw j5) ⟨_,g0⟩ (w6.at_ 0 rfl) (by rw[ae,ae];exact ri (by omega))) (.nil ?_)
 rw[oT (x:=(⟨p.1,p.2,lvl⟩:Ru))]
 refine k ⟨f.rs++[(a,⟨p.1,p.2,lvl⟩)],f.X++[(a,B5 f.rs.length ⟨p.1,p.2,lvl⟩)],some (.int p.1),some (.tup (vn p.2)),some (.ref M)⟩ _ (Ow.set [] w6 _) ⟨by rw[aq,rl];rfl,λj x hx=>?_,?_,λx hx=>?_⟩
 ·rcases ba j f.rs.length with z|z
  ·rw[aG z]at hx
   exact aV _ (i.2 j x hx)
  ·have:j=f.rs.length:=by
    have:=(ah.1 hx).1
    rw[aq]at this;exact bP (bB this) z
   subst this
   rw[aY z,eg]at hx
   cases hx;exact aB _ (ak.2 rfl)
 ·show(f.rs++[_]).map _=_
  rw[ay,i.3,aW,hp];rfl
 ·rcases aD.1 hx with z|z
  ·exact i.4 x z
  ·rw[ak.1 z];exact lz
end
section
variable {H H0 H' H1:Hp} {R:Prop} {L:Lc} {sc:Nat} {sl:List Int} {r1 r2 r3 r4:List Nat}
noncomputable def KU (levels:List (Int×V)):Prop:=∀(k:Int) (v:V),(k,v)∈levels->∃(a:Nat) (b:Nat),v= .tup [.int a,.str b]∧b<4
theorem NN {v:Nat} (h:v<4):([.str 0,.str 1,.str 2,.str 3]:List V)[v]?=some (.str v):=by
 match v with
 |0|1|2|3=>rfl
 |n+4=>exact absurd h (by omega)
theorem xM {P RL LV:Nat} {x3 x4 x5:Option V} {B:List (Nat×O)} {Q:Fl->Lc->Hp->Prop} {r:i6} (hs:H[sc]?=some (.ro sl)) (w:Ow H H1 ((LV,.bc [])::B))
  (k:∀x7 x8 lv H',Ow H H' ((LV,.bc lv)::B)->KU lv->cB r (GL sc P RL x3 x4 x5 (some (.ref LV)) x7 x8 none) H' Q):
  cB (.cons (.for (.v 7) (.ex (.tup (.cons (.lit (.int 3)) (.cons (.lit (.int 4)) .nil)))) (.cons (.set (.v 8) (.call 6 (.cons (.var 0) (.cons (.bin .add (.lit (.int 24)) (.var 7)) (.cons (.lit (.int 3)) .nil))))) (.cons (.ite (.cmp .gt (.var 8) (.lit (.int 0))) (.cons (.bq (.var 6) (.var 7) (.tup (.cons (.var 8) (.cons (.idx (.tup (.cons (.lit (.str 0)) (.cons (.lit (.str 1)) (.cons (.lit (.str 2)) (.cons (.lit (.str 3)) .nil))))) (.call 6 (.cons (.var 0) (.cons (.bin .add (.lit (.int 28)) (.var 8)) (.cons (.lit (.int 4)) .nil))))) .nil)))) .nil) .nil) .nil))) r)
   (GL sc P RL x3 x4 x5 (some (.ref LV)) none none none) H1 Q:=by
 refine .jW (l:=[3,4]) (g:=.none) (H1:=H1) (λ_ (s:Option V×Option V×List (Int×V))=>GL sc P RL x3 x4 x5 (some (.ref LV)) s.1 s.2.1 none) (λn s H'=>Ow H H' ((LV,.bc s.2.2)::B)∧KU s.2.2∧s.2.2.length≤n) (none,none,[])
  (.pF (.tup (.av .lit (.av .lit .bn)) (ib _ rfl)) .tup (ib _ rfl)) ⟨w,nofun,aC _⟩ (λ_=>trivial) ?_ ?_
 ·intro n y s H2 K hy h2 cg _
  obtain⟨x7,x8,lv⟩:=s
  obtain⟨w2,lo,ll⟩:=h2
  have w2:Ow H H2 ((LV,.bc lv)::B):=w2
  have lo:KU lv:=lo
  have ll:lv.length≤n:=ll
  have n2:n<2:=(ah.1 hy).1
  have y9:y<9:=by
   have:=am hy
   simp only[aI,aQ,or_false]at this;omega
  refine rS (H:=H2) (k:=24+y) (many:=3) (L:=GL sc P RL x3 x4 x5 (some (.ref LV)) (some (.int y)) x8 none) rfl (w2.1 _ _ hs) (by omega) (by decide) (ke:=.bin .add (.lit (.int 24)) (.var 7)) (.bin .lit (.var rfl) (.add _ _ _)) λv H3 lt j3 e3=>.set j3 ?_
  have w3:=w2.ext e3
  have T:=JT.bY (H:=H3) (L:=GL sc P RL x3 x4 x5 (some (.ref LV)) (some (.int y)) (some (.int v)) none) (.var (i:=8) rfl) .lit (.gt _ 0)
  by_cases c:(0:Int)<v
  ·rw[decide_eq_true c]at T
   refine rS (H:=H3) (k:=28+v) (many:=4) (L:=GL sc P RL x3 x4 x5 (some (.ref LV)) (some (.int y)) (some (.int v)) none) rfl (w3.1 _ _ hs) (by omega) (by decide) (ke:=.bin .add (.lit (.int 28)) (.var 8)) (.bin .lit (.var rfl) (.add _ _ _)) λb H4 Qg j4 e4=>?_
   have w4:=w3.ext e4
   refine .then T (.bq (.tup (.av (.var rfl) (.av (.idx (.tup (.av .lit (.av .lit (.av .lit (.av .lit .bn)))) (ib _ rfl)) j4 (.DV (NN Qg) (ib _ rfl))) .bn)) (ib _ rfl)) (.var rfl) (.var rfl) (.bc (w4.at_ 0 rfl) (ri (by omega))) (.nil (.nil (cg (some (.int y),some (.int v),dput (y:Int) (.tup [.int v,.str b]) lv) rfl ⟨Ow.set [] w4 _,λk' v' m=>?_,aj (tO ..) (aM ll)⟩))))
   rcases Fb m with e|m
   ·cases e;exact⟨v,b,rfl,Qg⟩
   ·exact lo k' v' m
  ·rw[decide_eq_false c]at T
   exact .pass T (.nil (cg (some (.int y),some (.int v),lv) rfl ⟨w3,lo,cu ll⟩))
 ·intro s H2 h2
  exact k _ _ _ H2 h2.1 h2.2.1
theorem xN {P:Nat} (hs:H[sc]?=some (.ro sl)) (hP:H[P]?=some (.list ([(6,r1),(6,r2),(7,r3),(7,r4)].map pV))) (pr:KT r1 r2 r3 r4)
  (q:∀gr G A H',JR 7 [.ref sc,.ref P] H (.ref gr) H'->Ext H H'->b_ H' gr G A->R):R:=by
 refine c7 7 [.ref sc,.ref P] H rfl rfl (L:=GL sc P 0 none none none none none none none|>.set 2 none) rfl λQ q'=>?_
 have ev0:vG (.cons (.lit (.int 0)) (.cons (.lit (.int 5)) (.cons (.tup (.cons (.lit (.int 6)) (.cons (.lit (.int 0)) .nil))) .nil))) (GL sc P 0 none none none none none none none|>.set 2 none) H [.int 0,.int 5,.tup (vn [6,0])] H:=.av .lit (.av .lit (.av (.tup (.av .lit (.av .lit .bn)) (ib _ rfl)) .bn))
 refine new_ (c:=5) ev0 rfl λa0 H1 f1 g1 e1 nw=>qG (n:=0) (x:=⟨5,[6,0], -1⟩) (vs:=[.ref a0,.int 0,.int 5,.tup (vn [6,0])]) rfl rfl f1 e1 g1 λH2 j2 w2=>?_
 refine jJ (.av (nw j2) .bn) (ib _ rfl) λRL H3 j3 f3 g3 e3=>.set j3 ?_
 have w3:Ow H H3 ((RL,iQ [(a0,(⟨5,[6,0], -1⟩:Ru))])::[(a0,B5 0 ⟨5,[6,0], -1⟩)]):=Ow.new w2 f3 g3 e3
 refine .DT (k:=3) (m:=4) (λ_ (f:GS)=>GL sc P RL f.x3 f.x4 f.x5 none none none none) (λn f H'=>Ow H H' ((RL,iQ f.rs)::f.X)∧HM [(6,r1),(6,r2),(7,r3),(7,r4)] n f) ⟨[(a0,⟨5,[6,0], -1⟩)],[(a0,B5 0 ⟨5,[6,0], -1⟩)],none,none,none⟩
  (.pF (.var rfl) (.list (w3.1 _ _ hP)) (ib _ rfl)) ⟨w3,rfl,λi p hp=>?_,rfl,λp hp=>?_⟩ (λh=>h.1.1 _ _ hP) ?_ ?_
 ·cases i with
  |zero=>cases hp;exact ak.2 rfl
  |succ i=>cases hp
 ·rw[ak.1 hp];exact(by decide:(-1:Int)≤ -1∧(-1:Int)<5)
 ·intro n y f H4 K hy h4 cg _
  rw[aH,aZ]at hy
  obtain⟨p,hp,rfl⟩:=hy
  have n4:n<4:=(ah.1 hp).1
  refine⟨_,_,rfl,BQ n4 hp ?_ h4.1 h4.2 λf' H5 w5 i5=>cg f' rfl ⟨w5,i5⟩⟩
  have l1:=pr.1.2
  have l2:=pr.2
  have l3:=pr.3
  have l4:=pr.4
  match n with
  |0|1|2|3=>cases hp;dsimp only;omega
  |n+4=>cases hp
 ·intro f H4 h4
  obtain⟨w4,i4⟩:=h4
  have i4:HM [(6,r1),(6,r2),(7,r3),(7,r4)] 4 f:=i4
  refine lQ (n:=0) (H:=H4) (L:=GL sc P RL f.x3 f.x4 f.x5 none none none none) λLV H5 j5 f5 g5 e5=>.set j5 (xM hs (Ow.new w4 f5 g5 e5) λx7 x8 lv H6 w6 lo=>?_)
  refine jJ (H:=H6) (L:=GL sc P RL f.x3 f.x4 f.x5 (some (.ref LV)) x7 x8 none) (vs:=[4,5,6,7,8,9,10,11].map V.str) (.av .lit (.av .lit (.av .lit (.av .lit (.av .lit (.av .lit (.av .lit (.av .lit .bn)))))))) (ib _ rfl) λnm H7 j7 f7 g7 e7=>.set j7 ?_
  have w7:=w6.ext e7
  refine new_ (c:=4) (H:=H7) (L:=GL sc P RL f.x3 f.x4 f.x5 (some (.ref LV)) x7 x8 (some (.ref nm))) (.av (.var (i:=9) rfl) (.av (.lit (v:=.int 5)) (.av (.var (i:=2) rfl) (.av (.var (i:=6) rfl) (.av (.lit (v:=.none)) (.av (.lit (v:=.int 6)) .bn)))))) rfl λgr H8 f8 g8 e8 nw=>?_
  have ok:aJ.Ok ⟨f.rs.map (·.2),lv⟩:=HL (by rw[bF];exact i4.3) pr (λx hx=>by obtain⟨p,mp,rfl⟩:=az.1 hx;exact i4.4 p mp) lo
  exact wc (ns:=[4,5,6,7,8,9,10,11]) g7 rfl (w7.at_ 1 rfl) (λi p hp=>(w7.2 _ (aL _ (aL _ (i4.2 i p hp)))).2) (w7.at_ 0 rfl) ok f8 e8 g8 λA H9 j9 e9 hG=>.ret (nw j9) (q' λj=>q gr _ A H9 j (w7.1.trans e9) hG)
end
section
variable {H H0 H' H1:Hp} {u g LS T X q t n:Nat} {G:aJ} {A:GA} {SA:List Nat} {S:List cQ} {a a0 a1:TA} {d d0 d1:TD} {R:Prop} {st:List Nat} {L:Lc} {b:Nat->Int}
theorem HN (r:Nat) (st:List Nat):(FE G S r st).length≤st.length+1:=by
 have key:∀l:List Nat,(List.casesOn (motive:=λ_=>List Nat) l [] λp dk=>(LA S p (G.left r)).getD 0::p::dk).length≤l.length+1:=λl=>by
  cases l with
  |nil=>exact bw _
  |cons=>exact aC _
 exact aj (key _) (aM (aj (aF gO) (mL ..)))
theorem HO (n:Nat):∀st dk v,res G S b n st=some (dk,v)->dk.length≤st.length+n:=by
 induction n with
 |zero=>exact λ_ _ _ e=>cW rfl e
 |succ n ih=>
  intro st dk v e
  by_cases c:0≤b (st.headD 0)
  ·have e1:some (st,b (st.headD 0))=some (dk,v):=(if_pos c).symm.trans e
   exact aj (aF (congrArg (λy:List Nat×Int=>y.1.length) (ax e1)).symm) (bu ..)
  ·exact aj (ih _ _ _ ((if_neg c).symm.trans e)) (aj (d_ (HN ..) n) (aF (dG ..)))
theorem BR (l:List Nat) (n:Nat):lh (vn l) n=true:=by
 induction l with
 |nil=>rfl
 |cons a l ih=>exact ih
theorem xO (l:List jM):lh (l.map jM.told) 8=true:=by
 induction l with
 |nil=>rfl
 |cons c l ih=>
  show(c.told.plain 8&&lh (l.map jM.told) 8)=true
  rw[ih,Bool.and_true]
  show(lh (vn c.rules) 6&&true)=true
  rw[BR];rfl
theorem u5 {c k:Nat} {ca:List (Nat×jM)} (xk:L[k]?=some (some (.ref c))) (gc:H[c]?=some (iQ ca)) (cd:∀p∈ca,H[p.1]?=some p.2.o) (z:ca.length≤SZ)
  (q:∀W H2,JE (.comp [] (.bx (.var 0) 30 71 .nil) (.ex (.var k)) .nil) L H (.ref W) H2->H[W]?=none->H2[W]?=some (.list ((ca.map (·.2)).map jM.told))->Ext H H2->R):R:=by
 have zl:((ca.map (·.1)).map V.ref).length≤SZ:=by rw[ae,ae];exact z
 refine rL (elt:=.bx (.var 0) 30 71 .nil) (ifs:=.nil) (L:=[]) (H:=H) (g:=.list c ((ca.map (·.1)).map .ref)) (xs:=(ca.map (·.1)).map .ref) (λn ys H'=>C2 (H'=H) (ys=((ca.take n).map (·.2)).map jM.told)) ⟨rfl,rfl⟩ (λh=>h.1▸gc) (λh=>by rw[h.2,ae,ae];exact h_ _ _) zl (λn y ys H' hy h=>?_) λ{ys H'} j h=>?_
 ·refine(nZ hy).elim λb w=>(nZ w.1).elim λp v=>?_
  have ho:=h.1▸cd p (am v.1)
  rw[w.2,v.2]
  exact .yes .lu (h.1▸gc) (.bx (.var rfl) ho rfl rfl .bn (HC ho)) ⟨h.1,by rw[h.2,aW,v.1,ay,ay];rfl⟩
 ·have w:=h.2
  rw[ae,ae,aR]at w
  rw[w,h.1]at j
  exact kh (it:=.ex (.var k)) (L:=L) (caps:=[]) rfl (.pF (.var xk) (.list gc) zl) rfl j (by rw[ae,ae];exact z) q
theorem Fd (h0:TabAt H T g G n a0 d0) (h1:TabAt H X g G n a1 d1) (e:∀q<n,d0.FF.getD q []=d1.FF.getD q []):cL H .ne (.ref a0.go) (.ref a1.go) false:=
 .Cs h0.5 h1.5 ⟨by rw[ae,ae,h0.6,h1.6],λi x y hx hy=>(nZ hx).elim λa ha=>(nZ hy).elim λb hb=>by
  have key:nd vI (d0.FF.getD i [])=((d0.FF.getD i []).map λp=>((p.1:Int),(p.2:Int))).map λp=>(p.1,V.int p.2):=by rw[bF];rfl
  have g1:=h0.7 i a ha.1
  have g2:=h1.7 i b hb.1
  rw[←e i (h1.6▸(ah.1 hb.1).1),key]at g2
  rw[key]at g1
  exact⟨a,b,_,ha.2,hb.2,g1,g2⟩⟩
theorem zj (h:bM H u g G A LS SA S) (hT:uz H T g G S a d) (hX:H[X]?=some (rD st)) (k:jr S st) (sl:st.length≤500) (x3:L[3]?=some (some (.ref T))) (x7:L[7]?=some (some (.ref X)))
  (q:∀W l H2,JE (.comp [3,7] (.var 2) (.ex (.tup (.cons (.lit (.int 0)) (.cons (.lit (.int 3)) (.cons (.lit (.int 4)) .nil))))) (.cons (.call 24 (.cons (.var 0) (.cons (.var 1) (.cons (.var 2) (.cons (.lit (.int 30)) .nil))))) .nil)) L H (.ref W) H2->H2[W]?=some (.list (vn l))->Ext H H2->l.length≤3->(∀x∈l,x∈[0,3,4])->R):R:=by
 refine rL (elt:=.var 2) (ifs:=.cons (.call 24 (.cons (.var 0) (.cons (.var 1) (.cons (.var 2) (.cons (.lit (.int 30)) .nil))))) .nil) (L:=[some (.ref T),some (.ref X)]) (H:=H) (g:=.none) (xs:=vn [0,3,4]) (λn ys H'=>C2 (Ext H H') (∃l:List Nat,C3 (ys=vn l) (l.length≤n) (∀x∈l,x∈[0,3,4]))) ⟨.r,[],rfl,aC _,rj⟩ (λ_=>trivial) (λh=>h.2.elim λl w=>by rw[w.1,aX];exact w.2) (ib _ rfl) (λn y ys H' hy h=>h.2.elim λl w=>(DW hy).elim λt ht=>?_) λ{ys H'} j h=>h.2.elim λl w=>?_
 ·have mt:=am ht.1
  have e:=h.1
  have t5:t<5:=(by decide:∀t∈[0,3,4],t<5) t mt
  refine xH (H:=H') (‹bM H u g G A LS SA S›.ext e) (hT.ext e) (e _ _ hX) k sl t5 λH2 j e2=>?_
  have T1:=JT.ir (L:=[some (.ref T),some (.ref X)]++[some (.int t)]) (e:=.call 24 (.cons (.var 0) (.cons (.var 1) (.cons (.var 2) (.cons (.lit (.int 30)) .nil))))) (.call (.av (.var rfl) (.av (.var rfl) (.av (.var rfl) (.av .lit .bn)))) j) (.bool _) rfl
  rw[ht.2]
  by_cases c:FG G S (d.act t) st=true
  ·exact .yes (.at (T1.to c) .lu) trivial (.var rfl) ⟨e.trans e2,l++[t],by rw[w.1];exact(oy _ _).symm,by rw[aq];exact aM w.2,λx hx=>(aD.1 hx).elim (w.3 x) λm=>ak.1 m▸mt⟩
  ·exact .no (.af (T1.to (dK.2 c))) ⟨e.trans e2,l,w.1,cu w.2,w.3⟩
 ·rw[w.1]at j
  refine kh (L:=L) (caps:=[3,7]) (by rw[bQ,bQ,x3,x7];rfl) (.pF (.tup (.av .lit (.av .lit (.av .lit .bn))) (ib _ rfl)) .tup (ib _ rfl)) rfl j (by rw[aX];exact aj w.2 (ib 3 rfl)) λW H2 j2 f2 g2 e2=>q W l H2 j2 g2 (h.1.trans e2) w.2 w.3
end
section
variable {H H0 H' H1:Hp} {u g LS M T0 T1 X q t n sc:Nat} {G:aJ} {A:GA} {SA:List Nat} {S:List cQ} {a0 a1:TA} {d0 d1:TD} {R:Prop} {st:List Nat} {L:Lc} {sl:List Int} {m:Nat->Nat->Nat}
noncomputable def LL (sc u M T0 T1:Nat) (x5 x6:Option V) (X:Nat) (x8 x9 gJ fK fX:Option V):Lc:=[some (.ref sc),some (.ref u),some (.ref M),some (.ref T0),some (.ref T1),x5,x6,some (.ref X),x8,x9,gJ,fK,fX]
theorem HP {W v:Nat} {l:List Nat} (x9:L[9]?=some (some (.ref W))) (gJ:L[10]?=some (some (.int v))) (gW:H[W]?=some (.list (vn l))) (ll:l.length≤3) (ml:∀x∈l,x∈[0,3,4])
  (q:∀C l H2,JE (.ite (.and (.cons (.cmp .gt (.bin .mod (.var 10) (.lit (.int 3))) (.lit (.int 0))) (.cons (.cmp .ne (.var 9) (.list .nil)) .nil))) (.var 9) (.list (.cons (.lit (.int 3)) (.cons (.lit (.int 4)) (.cons (.lit (.int 0)) (.cons (.lit (.int 2)) .nil)))))) L H (.ref C) H2->H2[C]?=some (.list (vn l))->Ext H H2->0<l.length->l.length≤4->(∀x∈l,x<5)->R):R:=by
 have T:=λb (c:cL H .gt (.int ((v:Int).fmod 3)) (.int 0) b)=>JT.bY (L:=L) (.bin (.var gJ) .lit (.mod (v:Int) 3 _ (by decide))) .lit c
 have other:∀{H2},JT (.and (.cons (.cmp .gt (.bin .mod (.var 10) (.lit (.int 3))) (.lit (.int 0))) (.cons (.cmp .ne (.var 9) (.list .nil)) .nil))) L H false H2->Ext H H2->R:=λ{H2} T e=>jJ (H:=H2) (L:=L) ints4 (ib _ rfl) λC H3 j f g e3=>q C [3,4,0,2] H3 (.ite T j) g (e.trans e3) (by decide) (by decide) (by decide)
 by_cases c:0<(v:Int).fmod 3
 ·refine hN (H:=H) (L:=L) λB H2 j2 f2 g2 e2=>?_
  have T2:=JT.bY (.var x9) j2 (.ne (.il (r:=[]) (e2 _ _ (gW.trans (by rw[iE]))) g2))
  by_cases z:l=[]
  ·exact other (.iD (.at (T _ (.to (.gt _ 0) (decide_eq_true c))) (.af (T2.to (by rw[z];rfl))))) e2
  ·exact q W l H2 (.ite (.iD (.at (T _ (.to (.gt _ 0) (decide_eq_true c))) (.at (T2.to (congrArg (!·) (beq_eq_false_iff_ne.2 λk=>z (List.map_eq_nil_iff.1 k)))) .lu))) (.var x9)) (e2 _ _ gW) e2 (List.length_pos_iff.2 z) (cu ll) λy hy=>(by decide:∀t∈[0,3,4],t<5) y (ml y hy)
 ·exact other (.iD (.af (T _ (.to (.gt _ 0) (decide_eq_false c))))) .r
theorem we {s:List Nat} {w:Int}:uA s++[V.int w]=de (s.reverse.map Int.ofNat++[w]):=by rw[v9,iE,de,de,ay];rfl
theorem FI.z {s:List Nat} {Ha Hb:Hp} {v:V} (p:FI Ha Hb v (some (s,0))):v= .none:=p.elim (·.2) λk=>(Int.lt_irrefl _ k.1).elim
theorem BT {H2:Hp} {v1 v2:V} {x y:Option (List Nat×Int)} (HJ:Ext H1 H2) (p1:FI H H1 v1 x) (p2:FI H1 H2 v2 y) (h:x=y∨(∃s,x=some (s,0))∧(y=none∨∃s,y=some (s,0)))
  (k1:cL H2 .ne v1 v2 false->(v1= .str 16∨v1= .none)->R) (k2:cL H2 .ne v1 v2 false->∀s w c,x=some (s,w)->0<w->v1= .ref c->H2[c]?=some (.list (uA s++[.int w]))->R) (k3:v1= .none->v2= .str 16->R):R:=by
 have nn:v1= .none->v2= .none->R:=λe f=>k1 (by rw[e,f];exact .ne .none) (.inr e)
 refine h.elim (λe=>?_) λw=>w.1.elim λs e=>w.2.elim (λf=>k3 (FI.z (e▸p1)) (show FI H1 H2 v2 none from f▸p2)) λw=>w.elim λs2 f=>nn (FI.z (e▸p1)) (FI.z (f▸p2))
 have p2:FI H1 H2 v2 x:=e▸p2
 cases x with
 |none=>exact k1 (by rw[show v1= .str 16 from p1,show v2= .str 16 from p2];exact .ne (.str 16 16)) (.inl p1)
 |some y=>
  exact p1.elim (λw=>nn w.2 (p2.elim (·.2) λk=>(mS k.1 w.1).elim)) λw=>w.2.elim λc w1=>p2.elim (λk=>(mS w.1 k.1).elim) λk=>k.2.elim λc2 w2=>by
   have g1:=HJ _ _ w1.2.2
   exact k2 (by rw[w1.1,w2.1];exact(cL.ne (.il (g1.trans (by rw[we])) (w2.2.2.trans (by rw[we])))).to (by rw[beq_self_eq_true];rfl)) y.1 y.2 c rfl w.1 w1.1 g1
theorem HQ {v C X k:Nat} {x5 x6 x9 fX:Option V} {l:List Nat} (gC:H[C]?=some (.list (vn l))) (l0:0<l.length) (l4:l.length≤4)
  (q:∀t∈l,JE (.idx (.var 11) (.bin .mod (.bin .fdiv (.var 10) (.lit (.int 3))) (.len (.var 11)))) (LL sc u M T0 T1 x5 x6 X (some (.int k)) x9 (some (.int v)) (some (.ref C)) fX) H (.int t) H->R):R:=(t_ (a:=(v:Int).fdiv 3) l0).elim λy w=>by
 have ln:=(JE.len (H:=H) (L:=LL sc u M T0 T1 x5 x6 X (some (.int k)) x9 (some (.int v)) (some (.ref C)) fX) (.var (i:=11) rfl) (.list gC (by rw[aX];exact aj l4 (by decide)))).to (by rw[aX])
 exact q _ (g_ w.1) (.idx (.var rfl) ((JE.bin (.bin (.var rfl) .lit (.fdiv _ _ _ (by decide) (by decide))) ln (.mod _ _ _ λe=>di l0 (a_.1 e))).to (congrArg V.int w.2)) (.nat gC (cN (ao w.1))))
theorem Fe {k:Nat} {x9 gJ fK:Option V} {v2:V} {c:Nat} {w:Int} {s:List Nat} {K:Ps} (h:bM H u g G A LS SA S) (hb:Act S t (d0.act t)) (gc:H1[c]?=some (.list (uA s++[.int w]))) (w0:0<w) (ks:jr S st) (ex:res G S (d0.act t) 60 st=some (s,w))
  (ne:cL H1 .ne (.ref c) v2 false) (kn:∀dk,H1[c]?=some (rD dk)->jr S dk->dk.length≤st.length+61->K .next (LL sc u M T0 T1 (some (.ref c)) (some v2) c (some (.int k)) x9 gJ fK (some (.int t))) H1) (kr:∀L' H',Ext H1 H'->K (.ret (.bool true)) L' H'):
  cB (((bo 27).at 6).in.dr 6) (LL sc u M T0 T1 (some (.ref c)) (some v2) X (some (.int k)) x9 gJ fK (some (.int t))) H1 K:=by
 have T3:=λb (z:cL H1 .eq (.int w) (.int 1048576) b)=>JT.bY (L:=LL sc u M T0 T1 (some (.ref c)) (some v2) X (some (.int k)) x9 gJ fK (some (.int t))) (.idx (.var (i:=5) rfl) (.neg (.lit (v:=.int 1))) (.last gc)) .lit z
 have T:=λb (z:JO (.cons (.cmp .eq (.idx (.var 5) (.neg (.lit (.int 1)))) (.lit (.int 1048576))) .nil) (LL sc u M T0 T1 (some (.ref c)) (some v2) X (some (.int k)) x9 gJ fK (some (.int t))) H1 b H1)=>
  JT.xU (.of (.bY (.var (i:=5) rfl) (.lit (v:=.none)) (.Jf c)) (.of (.bY (.var (i:=5) rfl) (.lit (v:=.str 16)) (.eq (.list_str 16 (gc.trans (by rw[we]))))) z))
 refine .pass (.iD (.af (.bY (.var rfl) (.var rfl) ne))) ?_
 by_cases wa:w=1048576
 ·exact .then (T _ (.ot (T3 _ (.to (.eq (.int w 1048576)) (beq_iff_eq.2 wa))))) (.ret .lit (kr _ _ .r))
 ·refine .pass (T _ (.of (T3 _ (.to (.eq (.int w 1048576)) (beq_eq_false_iff_ne.2 wa))) .wV)) (.set (.var rfl) (.nil (ks.on (P:=λst=>res G S (d0.act t) 60 st=some (s,w)->st.length+61≤_->_) (λq0 lC k0 ex len=>?_) ex (aC _))))
  refine uZ h hb 60 _ _ _ _ k0 ex λq s0 es k2 ew _ _=>(k2.top h).elim λs' e'=>(hb q s' e').elim (λz=>absurd (ew.trans z) (mS w0)) λz=>z.elim (λz=>z.elim λx z=>?_) λz=>z.elim λr z=>?_
  ·have wx:w=(x:Nat):=ew.trans (z.2.trans (if_neg λtz=>wa (ew.trans (z.2.trans (if_pos tz)))))
   exact kn (x::s) (gc.trans (congrArg (λw:Int=>some (O.list (uA s++[.int w]))) wx)) (es▸k2.push z.1) (aj (aM (HO _ _ _ _ ex)) len)
  ·exact absurd (ew.trans z.2▸w0) (fy.2 (lK (aS r)))
theorem Ff {k:Nat} {x5 x6 x9 gJ fK fX:Option V} {K:Fl->Lc->Hp->Prop} (hs:H[sc]?=some (.ro sl)) (h:bM H u g G A LS SA S) (la:ni G S m) (f0:hH false G S m d0) (f1:hH true G S m d1) (h0:TabAt H T0 g G S.length a0 d0) (h1:TabAt H T1 g G S.length a1 d1)
  (k6:k<6) (e:Ext H H1) (gX:H1[X]?=some (rD st)) (ks:jr S st) (sz:st.length≤1+61*k)
  (kn:∀x5 x6 X x9 gJ fK fX st H',Ext H H'->H'[X]?=some (rD st)->jr S st->st.length≤1+61*(k+1)->K .next (LL sc u M T0 T1 x5 x6 X (some (.int k)) x9 gJ fK fX) H') (kr:∀L' H',Ext H H'->K (.ret (.bool true)) L' H'):
  cB ((bo 27).at 6).in (LL sc u M T0 T1 x5 x6 X (some (.int k)) x9 gJ fK fX) H1 K:=by
 have NO:st.length≤500:=aj sz (aj (bZ (bH 61 (aK k6)) 1) (by decide))
 have t0:=f0.tab h la h0
 have t1:=f1.tab h la h1
 refine rR (h.ext e) (t0.ext e) gX ks NO λF H2 j2 _ g2 e2=>rR (h.ext (e.trans e2)) (t1.ext (e.trans e2)) (e2 _ _ gX) ks NO λF' H3 j3 _ g3 e3=>?_
 have gg:=e3 _ _ g2
 rw[f0.ex h la f1 ks,iE]at gg
 rw[iE]at g3
 have OJ:=(e.trans e2).trans e3
 refine .pass ((JT.bY (L:=LL sc u M T0 T1 x5 x6 X (some (.int k)) x9 gJ fK fX) (.call (.av (.var (i:=3) rfl) (.av (.var (i:=7) rfl) (.av .lit .bn))) j2) (.call (.av (.var (i:=4) rfl) (.av (.var (i:=7) rfl) (.av .lit .bn))) j3) (.ne (.il gg g3))).to (by rw[beq_self_eq_true];rfl))
  (zj (L:=LL sc u M T0 T1 x5 x6 X (some (.int k)) x9 gJ fK fX) (h.ext OJ) (t0.ext OJ) (e3 _ _ (e2 _ _ gX)) ks NO rfl rfl λW l H4 j4 g4 e4 ll ml=>.set j4 ?_)
 refine rS (H:=H4) (k:=18+k) (many:=12) (L:=LL sc u M T0 T1 x5 x6 X (some (.int k)) (some (.ref W)) gJ fK fX) rfl ((OJ.trans e4) _ _ hs) (bK (jP k6 18) (by decide)) (by decide) (ke:=.bin .add (.lit (.int 18)) (.var 8)) (.bin .lit (.var rfl) (.add _ _ _)) λv H5 lt j5 e5=>.set j5 ?_
 refine HP (L:=LL sc u M T0 T1 x5 x6 X (some (.int k)) (some (.ref W)) (some (.int v)) fK fX) (H:=H5) (v:=v) rfl rfl (e5 _ _ g4) ll ml λC l2 H6 j6 g6 e6 l0 l4 m5=>.set j6 (HQ g6 l0 l4 λt mt jt=>.set jt ?_)
 have NP:=(OJ.trans e4).trans (e5.trans e6)
 have gX6:=e6 _ _ (e5 _ _ (e4 _ _ (e3 _ _ (e2 _ _ gX))))
 have t5:=m5 t mt
 refine u3 (h.ext NP) (t0.ext NP) gX6 ks NO t5 λv1 H7 j7 e7 p1=>u3 (h.ext (NP.trans e7)) (t1.ext (NP.trans e7)) (e7 _ _ gX6) ks NO t5 λv2 H8 j8 e8 p2=>?_
 have NQ:=(NP.trans e7).trans e8
 refine .J2 (.tup (.av (.call (.av (.var rfl) (.av (.var rfl) (.av (.var rfl) .bn))) j7) (.av (.call (.av (.var rfl) (.av (.var rfl) (.av (.var rfl) .bn))) j8) .bn)) (ib _ rfl)) ?_
 refine BT e8 p1 p2 (f0.two h la f1 t5 ks) (λne hv=>?_) (λne s w c ex w0 ev gc=>?_) λev ew=>?_
 ·refine .pass (.iD (.af (.bY (.var rfl) (.var rfl) ne))) (hv.elim (λev=>?_) λev=>?_)
  ·rw[ev];exact .then (.xU (.of (.bY (.var rfl) .lit (.Jg _)) (.ot (.bY (.var rfl) .lit (.eq (.str 16 16)))))) (.ret .lit (kr _ _ NQ))
  ·rw[ev];exact .then (.xU (.ot (.bY (.var rfl) .lit .is_none))) (.ret .lit (kr _ _ NQ))
 ·rw[ev]at ne ⊢
  exact Fe h (f0.act h la t5) gc w0 ks ex ne (λdk g k' z=>kn _ _ c _ _ _ _ dk H8 NQ g k' (aj z (aj (d_ sz 61) (aF (dv ..))))) λL' H' e=>kr L' H' (NQ.trans e)
 ·rw[ev,ew];exact .pass (.iD (.at (.bY (.var rfl) (.var rfl) (.ne (.none_str 16))) (.af (.xU (.of (.bY (.var rfl) .lit .qV) (.of (.bY (.var rfl) .lit (.ne (.str 16 16))) .wV)))))) (.then (.xU (.ot (.bY (.var rfl) .lit .is_none))) (.ret .lit (kr _ _ NQ)))
end
section
variable {H H0 H' H1:Hp} {u g LS M T0 T1 X q t n sc:Nat} {G:aJ} {A:GA} {SA:List Nat} {S:List cQ} {a0 a1:TA} {d0 d1:TD} {R:Prop} {L:Lc} {sl:List Int} {m:Nat->Nat->Nat}
theorem Fg (x0:L[0]?=some (some (.ref sc))) (x1:L[1]?=some (some (.ref u))) (hs:H[sc]?=some (.ro sl)) (h:bM H u g G A LS SA S)
  (q:∀M m d H2,JE (.ite (.cmp .eq (.call 6 (.cons (.var 0) (.cons (.lit (.int 0)) (.cons (.lit (.int 2)) .nil)))) (.lit (.int 0))) (.call 12 (.cons (.var 1) .nil)) (.call 16 (.cons (.var 1) .nil))) L H (.ref M) H2->Ext H H2->Fy H2 M S m d->ni G S m->R):R:=by
 refine rS (H:=H) (k:=0) (many:=2) x0 hs (by decide) (by decide) .lit λv H1 lt j e=>?_
 have T:=JT.bY j .lit (.eq (.int (v:Nat) 0))
 by_cases c:v=0
 ·rw[beq_iff_eq.2 (by rw[c];rfl)]at T
  exact uu (h.ext e) λM m d H2 j2 f2 e2 ms la=>q M m d H2 (.ite T (.call (.av (.var x1) .bn) j2)) (e.trans e2) ms la
 ·rw[beq_eq_false_iff_ne.2 (by omega)]at T
  exact vT (h.ext e) λM fs ws d H2 j2 f2 e2 f1 f2 ms=>q M _ d H2 (.ite T (.call (.av (.var x1) .bn) j2)) (e.trans e2) ms (KB h f1 f2)
theorem u6 {c0 c1:Nat} {OK OL:List (Nat×jM)} {K:Fl->Lc->Hp->Prop} (g0:H[c0]?=some (iQ OK)) (d0:∀p∈OK,H[p.1]?=some p.2.o) (z0:OK.length≤SZ) (g1:H[c1]?=some (iQ OL)) (d1:∀p∈OL,H[p.1]?=some p.2.o) (z1:OL.length≤SZ) (e:OK.map (·.2)=OL.map (·.2))
  (x5:L[5]?=some (some (.ref c0))) (x6:L[6]?=some (some (.ref c1))) (k:∀H',Ext H H'->K .next L H'):
  cB (.cons (.ite (.cmp .ne (.comp [] (.bx (.var 0) 30 71 .nil) (.ex (.var 5)) .nil) (.comp [] (.bx (.var 0) 30 71 .nil) (.ex (.var 6)) .nil)) (.cons (.ret (.lit (.bool false))) .nil) .nil) .nil) L H K:=
 u5 x5 g0 d0 z0 λW H2 j2 f2 g2 e2=>u5 (H:=H2) x6 (e2 _ _ g1) (λp m=>e2 _ _ (d1 p m)) z1 λW' H3 j3 f3 g3 e3=>
  .pass (.bY j2 j3 (.ne (.same (e3 _ _ g2) (e▸g3) (xO _)))) (.nil (k H3 (e2.trans e3)))
theorem KV (hs:H[sc]?=some (.ro sl)) (q:∀H',JR 27 [.ref sc] H (.bool true) H'->R):R:=by
 refine c7 27 [.ref sc] H rfl rfl (L:=[some (.ref sc),none,none,none,none,none,none,none,none,none,none,none,none]) rfl λQ q'=>?_
 refine E7 hs λP r1 r2 r3 r4 H1 j1 gP e1 pr=>xN (e1 _ _ hs) gP pr λgr G A H2 j2 e2 hG=>Ep hG λu LS SA S H3 j3 _ e3 h=>?_
 have LD:=(e1.trans e2).trans e3
 refine .set (.call (.av (.call (.av (.var rfl) (.av (.call (.av (.var rfl) .bn) j1) .bn)) j2) .bn) j3) ?_
 refine Fg (H:=H3) (L:=[some (.ref sc),some (.ref u),none,none,none,none,none,none,none,none,none,none,none]) rfl rfl (LD _ _ hs) h λM m dm H4 j4 e4 ms la=>.set j4 ?_
 have h4:=h.ext e4
 refine AD (wd:=false) h4 ms la λT0 a0 d0 H5 j5 e5 t0 f0=>AD (wd:=true) (h4.ext e5) (ms.ext e5) la λT1 a1 d1 H6 j6 e6 t1 f1=>?_
 refine .J2 (.tup (.av (.call (.av (.var rfl) (.av (.var rfl) (.av .lit .bn))) j5) (.av (.call (.av (.var rfl) (.av (.var rfl) (.av .lit .bn))) j6) .bn)) (ib _ rfl)) ?_
 have h6:=(h4.ext e5).ext e6
 have OM:=t0.ext e6
 have e16:=((LD.trans e4).trans e5).trans e6
 have ce:a0.ca.map (·.2)=a1.ca.map (·.2):=by rw[t0.14,t1.14,f0.2,f1.2]
 have se:a0.sa.map (·.2)=a1.sa.map (·.2):=by rw[t0.17,t1.17,f0.3,f1.3]
 have cz:∀{ca:List (Nat×jM)} {l:List jM},ca.map (·.2)=l->l.length≤SZ->ca.length≤SZ:=λe z=>by rw[←e,ae]at z;exact z
 refine .DT (k:=5) (m:=6) (xs:=[.tup [.ref a0.cf,.ref a1.cf],.tup [.ref a0.st,.ref a1.st]]) (g:=.none) (H1:=H6) (λ_ (s:Option V×Option V)=>[some (.ref sc),some (.ref u),some (.ref M),some (.ref T0),some (.ref T1),s.1,s.2,none,none,none,none,none,none]) (λn s H'=>Ext H6 H') (none,none)
  (.pF (.tup (.av (.tup (.av (.attr (.var rfl) OM.1 rfl rfl) (.av (.attr (.var rfl) t1.1 rfl rfl) .bn)) (ib _ rfl)) (.av (.tup (.av (.attr (.var rfl) OM.1 rfl rfl) (.av (.attr (.var rfl) t1.1 rfl rfl) .bn)) (ib _ rfl)) .bn)) (ib _ rfl)) .tup (ib _ rfl)) .r (λ_=>trivial) ?_ ?_
 ·intro n y s H7 K hy e7 cg _
  have t0:=OM.ext e7
  have t1:=t1.ext e7
  match n with
  |0=>
   cases hy
   exact⟨_,_,rfl,u6 t0.12 t0.13 (cz t0.14 f0.4) t1.12 t1.13 (cz t1.14 f1.4) ce rfl rfl λH8 e8=>cg (some (.ref a0.cf),some (.ref a1.cf)) rfl (e7.trans e8)⟩
  |1=>
   cases hy
   exact⟨_,_,rfl,u6 t0.15 t0.16 (cz t0.17 f0.5) t1.15 t1.16 (cz t1.17 f1.5) se rfl rfl λH8 e8=>cg (some (.ref a0.st),some (.ref a1.st)) rfl (e7.trans e8)⟩
  |n+2=>cases hy
 ·intro s H7 e7
  have ON:=OM.ext e7
  have OO:=t1.ext e7
  have e17:=e16.trans e7
  refine wb ON OO (f0.pr f1) λH8 j8 e8=>?_
  have ge:=Fd ON OO λq z=>by
   rw[(f0.1 q _ (ao z)).2,(f1.1 q _ (ao z)).2]
  refine .pass (.xU (.of (.bY (.attr (.var rfl) ON.1 rfl rfl) (.attr (.var rfl) OO.1 rfl rfl) ge) (.of (.um (.ir (.call (.av (.var rfl) (.av (.var rfl) .bn)) j8) (.bool true) rfl)) .wV))) ?_
  have e18:=e17.trans e8
  refine jJ (L:=[some (.ref sc),some (.ref u),some (.ref M),some (.ref T0),some (.ref T1),s.1,s.2,none,none,none,none,none,none]) (H:=H8) (.av (.lit (v:=.int 0)) .bn) (ib _ rfl) λX H9 j9 f9 g9 e9=>.set j9 ?_
  have Qp:=e8.trans e9
  have h9:=(h6.ext e7).ext Qp
  have hs9:=(e18.trans e9) _ _ hs
  have t09:=ON.ext Qp
  have t19:=OO.ext Qp
  refine .tx 6 (λ_ (s:Option V×Option V×Nat×Option V×Option V×Option V×Option V×Option V×List Nat)=>LL sc u M T0 T1 s.1 s.2.1 s.2.2.1 s.2.2.2.1 s.2.2.2.2.1 s.2.2.2.2.2.1 s.2.2.2.2.2.2.1 s.2.2.2.2.2.2.2.1)
   (λn s H'=>Ext H9 H'∧H'[s.2.2.1]?=some (rD s.2.2.2.2.2.2.2.2)∧jr S s.2.2.2.2.2.2.2.2∧s.2.2.2.2.2.2.2.2.length≤1+61*n) (s.1,s.2,X,none,none,none,none,none,[0]) .lit (by decide) ⟨.r,g9,.base,aC _⟩ ?_ ?_
  ·intro n s Ay K n6 LF cg kr
   exact Ff hs9 h9 la f0 f1 t09 t19 n6 LF.1 LF.2.1 LF.2.2.1 LF.2.2.2 (λx5 x6 X x9 gJ fK fX st H' e g k z=>cg (x5,x6,X,some (.int n),x9,gJ,fK,fX,st) rfl ⟨e,g,k,z⟩) λL' H' e=>kr (q' λj=>q H' j)
  ·intro s Ay _
   exact .ret .lit (q' λj=>q Ay j)
end
section
open PySem PySem.W PySem.Calls PyProof.Rows
noncomputable def cG:Nm:=⟨λn=>tb.st[n]?,λn=>tb.at_[n]?,λa=>Bb.getD a 0,λf=>vF.getD f 0,10⟩
noncomputable def upTo (n:Nat) (p:Nat->Bool):Bool:=(List.range n).all p
theorem sH {n:Nat} {p:Nat->Bool} (h:upTo n p=true) {i:Nat} (z:i<n):p i=true:=bv.1 h i (bp.2 z)
section
noncomputable def lV (f:FuncData->Bool) (v:Array Value->Bool) (c:ClassData->Bool) (l:Value->Bool) (q:Array Value->Bool):Data->Bool
 | .func fd=>f fd
 | .fields vs=>v vs
 | .cls cd=>c cd
 | .cell (some x)=>l x
 | .seq vs _=>q vs
 |_=>false
theorem rE {P:Data->Prop} {f v c l q}:∀{d},lV f v c l q d=true->(∀x,f x=true->P (.func x))->(∀x,v x=true->P (.fields x))->(∀x,c x=true->P (.cls x))->(∀x,l x=true->P (.cell (some x)))->(∀x e,q x=true->P (.seq x e))->P d:=by
 intro d h f v c l q
 cases d with
 |func=>exact f _ h
 |fields=>exact v _ h
 |cls=>exact c _ h
 |seq=>exact q _ _ h
 |cell o=>
  cases o with
  |none=>exact ff h
  |some x=>exact l _ h
 |_=>exact ff h
noncomputable def z1 {α:Type} (_:α):=false
theorem Z1 {α:Type} {P:α->Prop} x (h:z1 x=true):P x:=ff h
noncomputable def atK (K:Frag) (a:Addr) (p:Obj->Bool):Bool:=uc p (K.lookup a)
theorem BU {K:Frag} {a:Addr} {p:Obj->Bool} {P:Prop} (h:atK K a p=true) (k:∀o,K.lookup a=some o->p o=true->P):P:=by
 unfold atK at h
 cases q:K.lookup a with
 |none=>rw[q]at h;exact ff h
 |some o=>rw[q]at h;exact k o q h
noncomputable def isNs (K:Frag) (x:Str) (v:Option Value):Bool:=nsIn K mainGlobals x==some v
noncomputable def Fh (K:Frag) (a:Nat):Bool:=
 upTo tb.at_.length (λn=>zH K (Bb.getD a 0) (tb.at_.getD n Str.empty) (pg.xQ a n).isSome&&(pg.xQ a n).all λf=>findIn K (.ref (Bb.getD a 0)) (tb.at_.getD n Str.empty)==some (some (.ref (vF.getD f 0)))&&(isFn K (.ref (vF.getD f 0))&&keepIn K (.ref (vF.getD f 0))))&&
 ((plainGet K (Bb.getD a 0) ""&&(hasDictIn K (Bb.getD a 0)&&(plainOver K (Bb.getD a 0)&&findIn K (.ref (Bb.getD a 0)) "__setattr__"==some (some (.builtin "object.__setattr__")))))&&
 ((isNs K (tb.cn.getD a Str.empty) (some (.ref (Bb.getD a 0)))&&(keepIn K (.ref (Bb.getD a 0))&&makesIn K (Bb.getD a 0)))&&
 (pg.init a).all λf=>findIn K (.ref (Bb.getD a 0)) "__init__"==some (some (.ref (vF.getD f 0)))&&typeIn K (.ref (vF.getD f 0))==some (.type "function")))
noncomputable def Qq (i:Int):Value->Bool
 | .int j _=>i==j
 |_=>false
noncomputable def NR (K:Frag) (p:Str×Int):Bool:=uc (uc (Qq p.2)) (nsIn K mainGlobals p.1)
noncomputable def bis:List Str:=[("len":Str),"sorted","list","tuple","int","sum","max","range","reversed","super"]
noncomputable def Fj (K:Frag):Bool:=tb.gi.all (NR K)&&(upTo 28 (λf=>isNs K (tb.fn.getD f Str.empty) (some (.ref (vF.getD f 0)))&&keepIn K (.ref (vF.getD f 0)))&&(bis.all (λx=>isNs K x none)&&fnIn K (vF.getD pg.sup 0)))
noncomputable def Qr (n:Nat):Value->Bool
 | .str x _=>tb.st[n]?==some x
 |_=>false
noncomputable def vEq:V->Value->Bool
 | .none=>λv=>v== .none
 | .int i=>Qq i
 | .str n=>Qr n
 |_=>λ_=>false
noncomputable def KW:List V->List Value->Bool
 |[]=>List.isEmpty
 |x::l=>zo λv r=>vEq x v&&KW l r
noncomputable def AE (p:Addr->Bool):Value->Bool
 | .ref t=>p t
 |_=>false
noncomputable def NS (K:Frag) (ds:List V) (v:Value):Bool:=(v== .none&&ds.isEmpty)||AE (λt=>atK K t λo=>o.cls== .type "tuple"&&(o.dict.isNone&&(o.slots.toList.isEmpty&&lV z1 z1 z1 z1 (λvs=>KW ds vs.toList) o.data))) v
noncomputable def Fk (p:Arguments) (ns:List Str):Bool:=p.posonlyargs.isEmpty&&(p.args.map (·.arg)==ns&&(p.vararg.isNone&&(p.kwonlyargs.isEmpty&&(p.kwarg.isNone&&decide ns.Nodup))))
noncomputable def I8 (y:Str):Value->Bool
 | .str x _=>y==x
 |_=>false
noncomputable def Fo (K:Frag) (prog:Program) (scope:Scope) (f s6 cc:Addr) (x0:Str):Bool:=
 atK K f (λo=>lV (λfd=>uc (λar=>ar.arg==x0) (fd.params.posonlyargs++fd.params.args).head?) z1 z1 z1 z1 o.data)&&
 (atK K s6 (λo=>lV z1 (λvs=>uc (I8 prog.main.file) (vs[2]?:Option Value)) z1 z1 z1 o.data)&&
 (atK K cc (λo=>lV z1 z1 z1 (AE λD=>atK K D (λo=>lV z1 z1 (λ_=>true) z1 z1 o.data)&&(mroIn K (Bb.getD pg.wi 0) (.ref D)==some true&&ks_superIn K (Bb.getD pg.wi 0) D "__init__"==some (some (.ref (vF.getD pg.sup 0))))) z1 o.data)&&
 ((scope.names.lookup ("super":Str)==some .globalImplicit&&(scope.names.lookup ("__class__":Str)==some .free&&scope.names.lookup x0==some .local))&&
 ((prog.main.scope.names.lookup ("super":Str)).isNone&&(nsIn K cStatics "thirdparty.any"==some none&&typeIn K (.ref (vF.getD pg.sup 0))==some (.type "function"))))))
noncomputable def Qs (K:Frag) (prog:Program) (f:Addr) (fd:FuncData) (nm:List Str) (noS:Bool):Bool:=(fd.closure.isEmpty&&noS)||
 w1 (λp=>p.1==("__class__":Str)&&(AE (λs6=>Fo K prog fd.scope f s6 p.2 (nm.getD 0 Str.empty)) fd.code&&(fd.scope.names.all (λx=>x.2 != .cell)&&nm.all λn=>fd.scope.names.lookup n==some .local))) fd.closure
noncomputable def HR (p:List Stmt->Bool):FuncBody->Bool
 | .stmts b=>p b
 |_=>false
noncomputable def BV (K:Frag) (prog:Program) (i:Nat):Bool:=uc (λd=>atK K (vF.getD i 0) λo=>lV (λfd=>HR (λbody=>
  (fd.globals==mainGlobals&&(fd.builtins==builtinsNs&&(codeIn K fd.code fd.qualname&&(!fd.scope.isCoroutine&& !fd.scope.isGenerator))))&&((fd.scope.kind== .function&&((J1.getD i []).length==d.nl&&(decide (d.np≤d.nl)&&(decide (J1.getD i []).Nodup&&
  sZ tb (tb.rk.getD i 0) fd.scope (J1.getD i []) d.body body))))&&(Fk fd.params ((J1.getD i []).take d.np)&&(decide (d.defs.length≤d.np)&&(NS K d.defs fd.defaults&&
  ((J1.getD i []).all (λn=>fd.scope.names.lookup n==some .local||fd.scope.names.lookup n==some .cell)&&Qs K prog (vF.getD i 0) fd (J1.getD i []) d.body.eX)))))) fd.body) z1 z1 z1 z1 o.data) (pg.fn i)
end
theorem Fp {P:Value->Prop} {p:Addr->Bool}:∀{v},AE p v=true->(∀a,p a=true->P (.ref a))->P v:=by
 intro v h k
 cases v with
 |ref a=>exact k a h
 |_=>exact ff h
theorem KY {P:Value->Prop} {y:Str}:∀{v},I8 y v=true->(∀x t,(y==x)=true->P (.str x t))->P v:=by
 intro v h k
 cases v with
 |str x t=>exact k x t h
 |_=>exact ff h
theorem NT {P:Value->Prop} {i:Int}:∀{v},Qq i v=true->(∀t,P (.int i t))->P v:=by
 intro v h k
 cases v with
 |int j t=>cases cJ h;exact k t
 |_=>exact ff h
theorem Qt:tb.st.Nodup:=by decide+kernel
theorem Qu:tb.at_.Nodup:=by decide+kernel
theorem NV:tb.st.all (λx=>(PyData.str x).canLay0)=true:=by decide+kernel
theorem KZ {a n f:Nat} (h:pg.xQ a n=some f):a<10:=by
 rcases ba a 10 with z|z
 ·exact z
 ·obtain⟨b,rfl⟩:=iy z
  cases(show none=some f from h)
theorem HT {a f:Nat} (h:pg.init a=some f):a<10:=by
 rcases ba a 10 with z|z
 ·exact z
 ·obtain⟨b,rfl⟩:=iy z
  cases(show none=some f from h)
theorem I9 {f:Nat} {d:Fn} (h:pg.fn f=some d):f<72:=by
 rcases ba f 72 with z|z
 ·exact z
 ·obtain⟨b,rfl⟩:=iy z
  cases(show none=some d from h)
theorem sI {α:Type} {l:List α} {n:Nat} {x d:α} (h:l[n]?=some x):l.getD n d=x:=by rw[aE,h];rfl
theorem NW {α:Type} {o:Option α} {x:α} {p:α->Bool} (h:o.all p=true) (e:o=some x):p x=true:=by rw[e]at h;exact h
theorem tok {c:Cx} (eG:c.G=cG) (hC:∀a<10,Fh c.K a=true) (hG:Fj c.K=true):nK c tb∧GG c tb:=by
 obtain⟨prog,w,K,hb,q,loose,AG,mg,mb,G,X,T⟩:=c
 cases eG
 have hC:∀a<10,Fh K a=true:=hC
 apply oW (show Fj K=true from hG) λg1 g2 g3 g4=>?_
 have fnA:∀{f:Nat} {x:Str},tb.fn[f]?=some x->isNs K x (some (.ref (vF.getD f 0)))=true∧keepIn K (.ref (vF.getD f 0))=true:=λ{f x} h=>by
  have:=cI (sH g2 (j0 h))
  rwa[sI h]at this
 have clA:∀{a:Nat} {x:Str},tb.cn[a]?=some x->a<10:=λh=>j0 h
 refine⟨⟨λn x h=>h,Qt,λn x h=>bv.1 NV x (am h),λn x h=>h,λn=>rfl,Qu,λa z n x h=>?_,λa z=>oW (cI (cI (hC a z)).2).1 λa b d e=>⟨a,b,d,cJ e⟩,λa n f q x h=>?_,λx i h=>?_,λf x h=>mg_of X T.g (cJ (fnA h).1),λf x h=>(fnA h).2,λa x h=>?_,λx h=>mg_none_of X T.g (cJ (bv.1 g3 x h))⟩,⟨aC _,g4,λa f q=>?_⟩⟩
 ·have:=(cI (sH (cI (hC a z)).1 (j0 h))).1
  rwa[sI h]at this
 ·have:=NW (cI (sH (cI (hC a (KZ q))).1 (j0 h))).2 q
  rw[sI h]at this
  exact i7 this λa1 a2 a3=>⟨cJ a1,a2,a3⟩
 ·have:=bv.1 g1 _ (mem_of_lookup h)
  unfold NR at this
  revert this
  intro this
  cases e:nsIn K mainGlobals x with
  |none=>rw[show nsIn K mainGlobals (x,i).1=none from e]at this;exact ff this
  |some o=>
   rw[show nsIn K mainGlobals (x,i).1=some o from e]at this
   refine zp (P:=λo=>nsIn K mainGlobals x=some o->∃t,mg x=some (.int i t)) this (λv hv=>NT (P:=λv=>nsIn K mainGlobals x=some (some v)->∃t,mg x=some (.int i t)) hv λt e=>⟨t,mg_of X T.g e⟩) e
 ·have:=(cI (cI (cI (hC a (clA h))).2).2).1
  rw[sI h]at this
  exact i7 this λa1 a2 a3=>⟨mg_of X T.g (cJ a1),a2,a3,clA h⟩
 ·have:=NW (cI (cI (cI (hC a (HT q))).2).2).2 q
  exact⟨cJ (cI this).1,cJ (cI this).2⟩
theorem K0 {c:Cx} (e:c.G=cG) (k:Lk) (H:Hp) (hp:Heap) {v:Value}:∀{x:V},vEq x v=true->VR c k H hp x v
 | .none,h=>cJ h
 | .int i,h=>NT (P:=VR c k H hp (.int i)) h λt=>⟨t,rfl⟩
 | .str n,h=>by
  cases v with
  |str x t=>exact⟨x,t,by rw[e];exact cJ h,rfl⟩
  |_=>exact ff h
 | .bool _,h=>ff h
 | .tup _,h=>ff h
 | .ref _,h=>ff h
theorem xP {c:Cx} (e:c.G=cG) (k:Lk) (H:Hp) (hp:Heap):∀{l:List V} {r:List Value},KW l r=true->eH c k H hp l r
 |[],_,h=>sO (P:=eH c k H hp []) h rfl
 |x::l,_,h=>sN (P:=eH c k H hp (x::l)) h λv r h=>.cons (K0 e k H hp (cI h).1) (xP e k H hp (cI h).2)
theorem ua {α:Type} {l:List α} (h:l.isEmpty=true):l=[]:=List.isEmpty_iff.1 h
theorem AF {α:Type} {o:Option α} (h:o.isNone=true):o=none:=hK.1 h
theorem BW {p:Arguments} {ns:List Str} (h:Fk p ns=true):yz p ns:=i7 h λh1 h2 h=>oW h λh3 h4 h5 h6=>⟨ua h1,cJ h2,AF h3,ua h4,AF h5,of_decide_eq_true h6⟩
theorem HU {c:Cx} (e:c.G=cG) {ds:List V} {v:Value} (h:NS c.K ds v=true):(v= .none∧ds=[])∨∃t vs n,v= .ref t∧c.hb.get? t=some (ic vs n)∧∀k H hp,eH c k H hp ds vs:=by
 rcases cD.mp h with h|h
 ·exact .inl ⟨cJ (cI h).1,ua (cI h).2⟩
 ·apply Fp h λt h=>?_
  refine BU h λo q h=>?_
  obtain⟨cl,od,d,sl⟩:=o
  apply oW h λh1 h2 h3 h=>?_
  revert q
  have h:lV _ _ _ _ _ d=true:=h
  apply rE h Z1 Z1 Z1 Z1 λvs n hv=>?_
  intro q
  cases(cJ h1:cl=_)
  cases(AF h2:od=_)
  cases(Array.ext' (ua h3):sl=#[])
  exact .inr ⟨t,vs.toList,n,rfl,c.X _ _ q,λk H hp=>xP e k H hp hv⟩
theorem BY {c:Cx} (eG:c.G=cG) {scope:Scope} {f s6 cc:Addr} {x0:Str} (h:Fo c.K c.prog scope f s6 cc x0=true):∃D,Dh c tb scope f s6 cc D x0:=by
 apply u9 h λh1 h2 h3 h4 h5=>?_
 apply i7 h4 λk1 k2 k3=>?_
 apply i7 h5 λk4 k5 k6=>?_
 have f1:∃oc od fd Gq ar,c.K.lookup f=some ⟨oc,od,.func fd,Gq⟩∧(fd.params.posonlyargs++fd.params.args).head?=some ar∧ar.arg=x0:=BU h1 λo q h=>by
  obtain⟨oc,od,d,sl⟩:=o
  revert q
  have h:lV _ _ _ _ _ d=true:=h
  apply rE h (λfd h=>?_) Z1 Z1 Z1 λ_=>Z1
  intro q
  cases e:(fd.params.posonlyargs++fd.params.args).head? with
  |none=>rw[e]at h;exact ff h
  |some ar=>rw[e]at h;exact⟨_,_,_,_,ar,q,e,cJ h⟩
 have f2:∃Lg Lh vs N4 file tf,c.K.lookup s6=some ⟨Lg,Lh,.fields vs,N4⟩∧vs[2]?=some (.str file tf)∧((c.prog.main.file:Str)==file)=true:=BU h2 λo q h=>by
  obtain⟨oc,od,d,sl⟩:=o
  revert q
  have h:lV _ _ _ _ _ d=true:=h
  apply rE h Z1 (λvs h=>?_) Z1 Z1 λ_=>Z1
  intro q
  cases e:(vs[2]?:Option Value)with
  |none=>rw[e]at h;exact ff h
  |some v=>
   rw[e]at h
   revert e
   apply KY h λx t z=>?_
   exact λe=>⟨_,_,_,_,_,_,q,e,z⟩
 refine BU h3 λo q h=>?_
 obtain⟨oc,od,d,sl⟩:=o
 revert q
 have h:lV _ _ _ _ _ d=true:=h
 apply rE h Z1 Z1 Z1 (λv h=>?_) λ_=>Z1
 apply Fp h λD h=>?_
 intro q
 apply i7 h λa b d=>?_
 refine⟨D,f1,f2,⟨_,_,_,q⟩,BU a λo q h=>?_,by rw[eG];exact cJ b,cJ k1,cJ k2,cJ k3,by rw[AF k4];rfl,cJ k5,by rw[eG];exact cJ d,by rw[eG];exact cJ k6⟩
 obtain⟨oc,od,d,sl⟩:=o
 revert q
 have h:lV _ _ _ _ _ d=true:=h
 apply rE h Z1 Z1 (λcd _=>?_) Z1 λ_=>Z1
 exact λq=>⟨_,_,_,_,q⟩
theorem Qv {c:Cx} (eG:c.G=cG) (hF:∀i<72,BV c.K c.prog i=true):MM c tb:=⟨λf d hf=>by
 have h:=hF f (I9 hf)
 have eF:c.G.fa f=vF.getD f 0:=by rw[eG];rfl
 unfold BV at h
 rw[show pg.fn f=some d from hf]at h
 refine BU h λo q h=>?_
 obtain⟨oc,od,da,Gq⟩:=o
 revert q
 have h:lV _ _ _ _ _ da=true:=h
 apply rE h (λfd h=>?_) Z1 Z1 Z1 λ_=>Z1
 intro q
 cases eb:fd.body with
 |stmts body=>
  rw[eb]at h
  apply i7 h λa b e=>?_
  apply u9 a λh1 h2 h3 h4 h5=>?_
  apply u9 b λh6 h7 h8 h9 LF=>?_
  apply u9 e λh11 h12 h13 h14 h15=>?_
  have rk:tb.rk[f]?=some (tb.rk.getD f 0):=by rw[aE,ao (show f<tb.rk.length from I9 hf)];rfl
  refine⟨fd,body,J1.getD f [],tb.rk.getD f 0,⟨⟨oc,od,Gq,eF▸q⟩,eb,cJ h1,cJ h2,h3,sM h4,sM h5,cJ h6,rk,cJ h7,of_decide_eq_true h8,of_decide_eq_true h9,LF,BW h11,of_decide_eq_true h12,HU eG h13,λn m=>(cD.mp (bv.1 h14 n m)).imp cJ cJ⟩,?_⟩
  rcases cD.mp h15 with z|z
  ·exact .inl ⟨ua (cI z).1,(cI z).2⟩
  ·cases ec:fd.closure with
   |nil=>rw[ec]at z;exact ff z
   |cons p l=>
    rw[ec]at z
    cases l with
    |cons=>exact ff z
    |nil=>
     apply oW z λy1 y2 y3 y4=>?_
     obtain⟨x,cc⟩:=p
     cases(cJ y1:x=_)
     cases ed:fd.code with
     |ref s6=>
      rw[ed]at y2
      obtain⟨D,sup⟩:=BY eG y2
      exact .inr ⟨⟨s6,cc,D,ec,ed,eF.symm▸sup⟩,λx m=>bne_iff_ne.mp (bv.1 y3 x m),λn m=>cJ (bv.1 y4 n m)⟩
     |_=>rw[ed]at y2;exact ff y2
 |_=>rw[eb]at h;exact ff h⟩
theorem BZ {c:Cx} {a:Addr} {vs:List Value} {ns:List Int} (ha:c.hb.get? a=some (lL vs 0)) (hI:IntsAre vs ns) (nz:ns.length≤63):dw c ⟨λ_=>a,λ_=>a⟩ [.ro ns] c.hb:=by
 have one:∀{j:Nat} {o:O},([.ro ns]:Hp)[j]?=some o->j=0∧o= .ro ns:=λ{j o} h=>by
  cases j with
  |zero=>exact⟨rfl,(ax h).symm⟩
  |succ j=>exact cW rfl h
 refine⟨λ_ _ e=>e,λj o h=>?_,λj o a h w _=>?_,λa i j x y h h' _ _=>(one h).1.trans (one h').1.symm⟩
 ·obtain⟨rfl,rfl⟩:=one h
  exact⟨aj nz (by decide),vs,0,ha,hI⟩
 ·rw[(one h).2]at w;exact ff w
theorem final {c:Cx} (eG:c.G=cG) (hC:∀a<10,Fh c.K a=true) (hG:Fj c.K=true) (hF:∀i<72,BV c.K c.prog i=true) {s:Shared} (hs:s.heap=c.hb) {a:Addr} {vs:List Value} {ns:List Int} (ha:c.hb.get? a=some (lL vs 0)) (hI:IntsAre vs ns) (nz:ns.length≤63)
  {R:Result->Shared->Prop} (h:∀s',(∀b o,s.heap.get? b=some o->s'.heap.get? b=some o)->Sm s s'->R (.ok (.ret (.bool true))) s'):codeAny (Md c) callerA (.call (.ref (vF.getD 27 0)) ⟨[.ref a],[]⟩) R s:=by
 obtain⟨t1,t2⟩:=tok eG hC hG
 have t3:=Qv eG hF
 refine KV (H:=[.ro ns]) (sc:=0) (sl:=ns) rfl λH' j=>?_
 have S:wR c tb 27 [.ref 0] [.ro ns] (.bool true) H':=j c ⟨t1,t2,t3⟩
 have eF:c.G.fa 27=vF.getD 27 0:=by rw[eG];rfl
 have sim:=BZ (c:=c) ha hI nz
 rw[←hs]at sim
 rw[←eF]
 refine S (r:=72) ⟨rfl,by decide,by decide+kernel,⟨_,rfl⟩⟩ (by decide+kernel) sim ?_ λk' s' v' T1 R1=>?_
 ·exact .one ⟨gV _,rfl⟩
 ·cases(R1:v'=_)
  exact h s' (λb o e=>T1.1.1 b o (hs▸e)) T1.3
theorem B0 {P:Params} {h:Heap} {a:Addr} {ns:List Int} (W:Well P h (.ref a) (ofPy (.list (ns.map .int)))):∃vs,h.get? a=some (lL vs 0)∧IntsAre vs ns:=by
 rw[ofPy,ofPys_eq]at W
 cases W with
 |list g wa=>
  refine⟨_,g,?_⟩
  clear g
  rename_i vs
  induction ns generalizing vs with
  |nil=>cases wa;exact .nil
  |cons n ns ih=>
   rw[bQ,bQ,ofPy]at wa
   cases wa with
   |cons w r=>cases w;exact .cons _ _ (ih r)
theorem last {K:Params->Frag} {prog:Program} (hC:∀P,∀a<10,Fh (K P) a=true) (hG:∀P,Fj (K P)=true) (hF:∀P,∀i<72,BV (K P) prog i=true) {w:World} {q:Program} {loose:List Str} {AG:ExcName->Option Value} {mg mb:Str->Option Value} {s₁:Shared} {fa a:Addr} {ns:List Int}
  (KX:(K w.params).In s₁.heap) (T:Top q loose AG mg mb s₁.heap) (Qw:mg "law"=some (.ref fa)) (hg:s₁.gens=#[]) (W:Well w.params s₁.heap (.ref a) (ofPy (.list (ns.map .int)))) (nz:¬((63:Nat):Int)<(ns.length:Nat))
  {cl:ClaimW} {clf:Str->Option Addr} {NX:ExcName->Option Value} {args:List WData} (hr:∀e,cl.raises args e=false) (hp:cl.post args (.bool true) args=true):
  codeAny (model prog w) callerA (.call (.ref fa) ⟨[.ref a],[]⟩) (GoodW cl clf NX args s₁) s₁:=by
 obtain⟨vs,ha,hI⟩:=B0 W
 have tk:=(tok (c:=⟨prog,w,K w.params,s₁.heap,q,loose,AG,mg,mb,cG,KX,T⟩) rfl (hC _) (hG _)).1
 have e:=tk.11 27 "law" (by decide+kernel)
 have efa:fa=vF.getD 27 0:=by
  have:=Qw.symm.trans e
  injection this with this
  injection this
 rw[efa]
 refine final (c:=⟨prog,w,K w.params,s₁.heap,q,loose,AG,mg,mb,cG,KX,T⟩) rfl (hC _) (hG _) (hF _) rfl ha hI (by omega) λs' hk sm=>?_
 refine⟨.inl ⟨_,_,_,rfl,hr,.bool true,hp,λ_=>⟨.nil,nofun⟩⟩,hk,?_,?_⟩
 ·rw[sm]
 ·rw[sm];exact hg
end
end Mine
namespace PySem.W.Fast
def twZ:=trivial
def tw9673203406766833760:=twZ
def tw9537544019596298400:=twZ
def tw16413963553889246368:=twZ
def tw12268644228514654432:=twZ
def tw14224011070414065920:=twZ
def tw10015664371746657536:=twZ
def tw9979284746773624096:=twZ
def tw2193789692954389824:=twZ
def tw17325535178939296128:=twZ
def tw17069979004554194336:=twZ
def tw5832503352825792928:=twZ
def tw6891000109920058784:=twZ
def tw5976474108018559520:=twZ
def tw15376083050721069600:=twZ
def tw12825359941727978080:=twZ
def tw16328912562034613984:=twZ
def tw9674257727999782656:=twZ
def tw16817318245366136608:=twZ
def tw12177649209318274912:=twZ
def tw7483462131439158144:=twZ
def tw12177639751122801600:=twZ
def tw3118938333895590913:=twZ
def tw8459811325457737761:=twZ
def tw10273258801430303905:=twZ
def tw12945968074294007009:=twZ
def tw5721027456603625697:=twZ
def tw3764465048917985505:=twZ
def tw16741492637210864865:=twZ
def tw7670514497116975361:=twZ
def tw14821650378409806113:=twZ
def tw11543547407058413889:=twZ
def tw16180582048198870337:=twZ
def tw2315820567201803617:=twZ
def tw7405434945208526273:=twZ
def tw11889939097179343393:=twZ
def tw2334299552400917057:=twZ
def tw8603108125212654177:=twZ
def tw17071476683966804577:=twZ
def tw16916688483869632129:=twZ
def tw15079194523842364033:=twZ
def tw17913803186225011329:=twZ
def tw15195428891847259777:=twZ
def tw11317593695737139937:=twZ
def tw13236226663087606529:=twZ
def tw17945601986348317505:=twZ
def tw17943406268862710625:=twZ
def tw6792406925840432001:=twZ
def tw11825729669827539873:=twZ
def tw1414301608579184545:=twZ
def tw12726346659333912481:=twZ
def tw9577309144901391297:=twZ
def tw12660628722211587041:=twZ
def tw7581816359482902497:=twZ
def tw930746551332336609:=twZ
def tw13615603153576403970:=twZ
def tw4613930686462287906:=twZ
def tw12850107946570832962:=twZ
def tw3856783459128436802:=twZ
def tw9529234661008812162:=twZ
def tw704327219915372674:=twZ
def tw9594665118957945026:=twZ
def tw13559156169165276386:=twZ
def tw17344680358763864322:=twZ
def tw9948023125614773506:=twZ
def tw14209830616999942402:=twZ
def tw17000458434675057986:=twZ
def tw12835720964997663042:=twZ
def tw4797165386629745026:=twZ
def tw3093977132361051618:=twZ
def tw13640514254501968386:=twZ
def tw387338674003428930:=twZ
def tw4558998842232669794:=twZ
def tw15215539614974913122:=twZ
def tw14714103240675001986:=twZ
def tw17677822095170825858:=twZ
def tw6679490504615227074:=twZ
def tw8860024209350480642:=twZ
def tw5152784196030571298:=twZ
def tw2569364866550412066:=twZ
def tw11892598404827812706:=twZ
def tw8595292554425487202:=twZ
def tw4302124980754421698:=twZ
def tw2571919107429820419:=twZ
def tw15475462885187679331:=twZ
def tw11788150170368784547:=twZ
def tw2922074901204462755:=twZ
def tw11817470609975844035:=twZ
def tw17001327861769816259:=twZ
def tw13725850141900786883:=twZ
def tw13789449189825218787:=twZ
def tw6993175162768986339:=twZ
def tw7286323032743288035:=twZ
def tw11166942722945506595:=twZ
def tw12182807814244774211:=twZ
def tw15542691292777871779:=twZ
def tw11310463157757771331:=twZ
def tw17863021456227041891:=twZ
def tw136631920214876835:=twZ
def tw4978915544186085027:=twZ
def tw16366562015402752707:=twZ
def tw7401281599722004195:=twZ
def tw151948405760981731:=twZ
def tw774047393022817027:=twZ
def tw10887116778572429059:=twZ
def tw10190238754879171395:=twZ
def tw3315324234476444515:=twZ
def tw14981143343336467331:=twZ
def tw2599325451414397859:=twZ
def tw505943868828395459:=twZ
def tw1638017585896720355:=twZ
def tw7232422423428716515:=twZ
def tw2968979199505139716:=twZ
def tw7499937903120025604:=twZ
def tw11500935155912984676:=twZ
def tw1258299570235058372:=twZ
def tw7299951869573292228:=twZ
def tw4039474712603431140:=twZ
def tw2532725972614424836:=twZ
def tw17532718790514356516:=twZ
def tw17274371674624000324:=twZ
def tw4525517667737911620:=twZ
def tw16180483070735683940:=twZ
def tw10007627690174824804:=twZ
def tw11740888236361828772:=twZ
def tw10042830170769951172:=twZ
def tw12734952128020822468:=twZ
def tw12392613427281201732:=twZ
def tw8656719876789144132:=twZ
def tw12233582284571471492:=twZ
def tw9736788993784561348:=twZ
def tw17975652961387846372:=twZ
def tw15168306246750427876:=twZ
def tw3386650904741475044:=twZ
def tw7269565832213808900:=twZ
def tw10317580896714288900:=twZ
def tw16752143609539240740:=twZ
def tw6587116730350146372:=twZ
def tw1763209079605825380:=twZ
def tw16350708796919097252:=twZ
def tw10424941004445345732:=twZ
def tw4224760802259116069:=twZ
def tw9136488742655976645:=twZ
def tw8703263022893421829:=twZ
def tw15278061642289888581:=twZ
def tw17672482021469178181:=twZ
def tw3442601649717412197:=twZ
def tw4275521005467322725:=twZ
def tw196644378293983589:=twZ
def tw8610040677353227653:=twZ
def tw1402947280878808549:=twZ
def tw16655555454665732581:=twZ
def tw2039238271031011813:=twZ
def tw18350330562280901221:=twZ
def tw13925586954763233925:=twZ
def tw15323854079317868165:=twZ
def tw8704618095886561957:=twZ
def tw13141144453892091621:=twZ
def tw18416463498863911781:=twZ
def tw13607416678640721797:=twZ
def tw189603312586018693:=twZ
def tw5149714755402479525:=twZ
def tw11707433790658880453:=twZ
def tw2660918139993853925:=twZ
def tw16049961110935095269:=twZ
def tw14778209649434054790:=twZ
def tw2378363196638174374:=twZ
def tw12450158673883907302:=twZ
def tw8253183596043897158:=twZ
def tw17993156020533580102:=twZ
def tw3865406201487662470:=twZ
def tw14973007898608030118:=twZ
def tw17024950926791866790:=twZ
def tw14952990662201256454:=twZ
def tw7581352650102555174:=twZ
def tw4933834842325187142:=twZ
def tw9281714027785469542:=twZ
def tw4858009861420398278:=twZ
def tw16145008321745377990:=twZ
def tw2814576209186038502:=twZ
def tw17300597898927385350:=twZ
def tw3695515675974049574:=twZ
def tw5248340912204065574:=twZ
def tw764782834095389478:=twZ
def tw17842620306162639686:=twZ
def tw6607189417530752870:=twZ
def tw13169248704851481478:=twZ
def tw183835017167291270:=twZ
def tw7987952416473584550:=twZ
def tw17475289236778735526:=twZ
def tw12114495157272644582:=twZ
def tw7250012664060256230:=twZ
def tw13512673800721320934:=twZ
def tw18220123701641295943:=twZ
def tw16979880578912567463:=twZ
def tw16643706677886111943:=twZ
def tw11588390666370768167:=twZ
def tw6550987210724342151:=twZ
def tw11682084944484805031:=twZ
def tw11108263761283441063:=twZ
def tw1355338860687761863:=twZ
def tw4319705520415482375:=twZ
def tw9862997608875712007:=twZ
def tw14305139224198610471:=twZ
def tw15490439104401381959:=twZ
def tw1537898542681612871:=twZ
def tw4090926877573551719:=twZ
def tw15980859228951719591:=twZ
def tw13252181687094117063:=twZ
def tw8376441433122354887:=twZ
def tw1085346719588807367:=twZ
def tw2504098582860672743:=twZ
def tw15900120412870309639:=twZ
def tw14326252917377295143:=twZ
def tw15894407043143930727:=twZ
def tw11270796479367742343:=twZ
def tw14934708107589980039:=twZ
def tw10073347824450446311:=twZ
def tw9794667896261083176:=twZ
def tw5770868932273138760:=twZ
def tw2611137233208623240:=twZ
def tw10314498396905981064:=twZ
def tw14073706353221006472:=twZ
def tw15423634916342008072:=twZ
def tw2422670821966735624:=twZ
def tw5268983451555188008:=twZ
def tw1370275717833778536:=twZ
def tw11495947367809530248:=twZ
def tw13900631225919944168:=twZ
def tw9285146279643344392:=twZ
def tw18350638575300117064:=twZ
def tw16437185098154296904:=twZ
def tw11767421526060770920:=twZ
def tw6832808476680081064:=twZ
def tw3470799630455053000:=twZ
def tw16223305294053301992:=twZ
def tw4658958612460137192:=twZ
def tw6434138532213402376:=twZ
def tw3131671291697673992:=twZ
def tw17815586953681464072:=twZ
def tw5882768191206486792:=twZ
def tw16697116713213952808:=twZ
def tw5200128776193632040:=twZ
def tw3880421473898291048:=twZ
def tw18101931140130867144:=twZ
def tw17111948838632640456:=twZ
def tw14386061602966655976:=twZ
def tw14108194823987119177:=twZ
def tw14837249469386935497:=twZ
def tw7788680626742099145:=twZ
def tw10938465397075749097:=twZ
def tw1333364371103165705:=twZ
def tw17000155066101142889:=twZ
def tw12981051755390344553:=twZ
def tw757081541053455785:=twZ
def tw8424611434330503625:=twZ
def tw3039592710220408265:=twZ
def tw2001226814458364393:=twZ
def tw16432479971616331241:=twZ
def tw14834023430324568649:=twZ
def tw5068434257544371817:=twZ
def tw11036193050239951465:=twZ
def tw1210750091971509897:=twZ
def tw2902314222560053993:=twZ
def tw4354483373895099113:=twZ
def tw12172078356533094185:=twZ
def tw12866136484021002089:=twZ
def tw43969757491396457:=twZ
def tw3976722010076183465:=twZ
def tw8999186272805695465:=twZ
def tw8796240567053077481:=twZ
def tw9626621113073979434:=twZ
def tw14006593267861576746:=twZ
def tw8172093975534723114:=twZ
def tw14311459727803291754:=twZ
def tw7082770336023389322:=twZ
def tw1320183511955256522:=twZ
def tw7253563546036869354:=twZ
def tw3094477031063562474:=twZ
def tw1536587703002861866:=twZ
def tw1886563365779066154:=twZ
def tw1102190903223815498:=twZ
def tw13981391230805400906:=twZ
def tw4921902886906138986:=twZ
def tw5349121933718820234:=twZ
def tw17774800907425398282:=twZ
def tw15034313371233782410:=twZ
def tw1377046205977697930:=twZ
def tw1379578315556383370:=twZ
def tw18445417521260656298:=twZ
def tw7074795694173733578:=twZ
def tw14333388528381170442:=twZ
def tw12679591844961189642:=twZ
def tw9800571698397750058:=twZ
def tw13314330512976039754:=twZ
def tw8488268690174267210:=twZ
def tw5228443966233409354:=twZ
def tw1204117194425446250:=twZ
def tw9501820088010722379:=twZ
def tw18260038339965228139:=twZ
def tw10500077913531017323:=twZ
def tw15263041282635125899:=twZ
def tw8727135674562949291:=twZ
def tw6135381517318000843:=twZ
def tw16966814322356759819:=twZ
def tw17532440430192770315:=twZ
def tw4109823476700235019:=twZ
def tw383695940523520267:=twZ
def tw5450187663091677483:=twZ
def tw12813236842856870187:=twZ
def tw932993149863042379:=twZ
def tw11013792430000457035:=twZ
def tw8032284361305108907:=twZ
def tw5565278806992967083:=twZ
def tw4936483359421988267:=twZ
def tw5902227825499142635:=twZ
def tw13002492023102617099:=twZ
def tw12095823642532355627:=twZ
def tw618205885557783147:=twZ
def tw6148621092414575339:=twZ
def tw3327986453032591115:=twZ
def tw3362959441861295915:=twZ
def tw5823794197072137003:=twZ
def tw13160144027095335755:=twZ
def tw18163462532019968843:=twZ
def tw9396933662098498411:=twZ
def tw12731603968600162155:=twZ
def tw12359285113459375979:=twZ
def tw13580328829973926956:=twZ
def tw1184552218554016812:=twZ
def tw16189536214700107852:=twZ
def tw15468230090516036684:=twZ
def tw4980102563643897964:=twZ
def tw4278798014809849964:=twZ
def tw13209702108550829196:=twZ
def tw4071324889030633612:=twZ
def tw9951705424602377420:=twZ
def tw11161088081135249708:=twZ
def tw667198328695590252:=twZ
def tw4636218855388986860:=twZ
def tw17045043414572947948:=twZ
def tw1735497430108182060:=twZ
def tw18123110421147349612:=twZ
def tw13678640442995254988:=twZ
def tw5925582254088234700:=twZ
def tw14979626087600564940:=twZ
def tw1156252341971683116:=twZ
def tw6434265647005701932:=twZ
def tw4775785305629353868:=twZ
def tw4879560196417449868:=twZ
def tw6127375697748050860:=twZ
def tw7546670044616840108:=twZ
def tw2354101950205528012:=twZ
def tw8642067239939848140:=twZ
def tw7229665172594901996:=twZ
def tw10833955939284561965:=twZ
def tw11306939235166856333:=twZ
def tw3952652319720093869:=twZ
def tw1617757218408452269:=twZ
def tw39160002569200845:=twZ
def tw5076957145309523181:=twZ
def tw10719484529398299949:=twZ
def tw13581749221687468397:=twZ
def tw1772237422875290029:=twZ
def tw17101871299007795629:=twZ
def tw16374537267813192141:=twZ
def tw12371321757623732685:=twZ
def tw12821735335276811757:=twZ
def tw13700970614919252493:=twZ
def tw4679858250743294509:=twZ
def tw11838138170533393997:=twZ
def tw17846936440860909165:=twZ
def tw608726401823008365:=twZ
def tw13036272033356848781:=twZ
def tw3282434896037501709:=twZ
def tw117213463901210413:=twZ
def tw15766043655864335149:=twZ
def tw16439824349840649037:=twZ
def tw319517405115005773:=twZ
def tw9265879793445154701:=twZ
def tw9305782018832362445:=twZ
def tw14544052848187043789:=twZ
def tw17828083071136270317:=twZ
def tw14043711374191979534:=twZ
def tw18340240734955500558:=twZ
def tw8708707556590381134:=twZ
def tw16292439048969090190:=twZ
def tw724751600484774222:=twZ
def tw1189734492583310:=twZ
def tw13180171748994924942:=twZ
def tw11566699232636054958:=twZ
def tw17679261114430710190:=twZ
def tw8579058602437062094:=twZ
def tw7276740287692124622:=twZ
def tw17026713947507217902:=twZ
def tw7650934615059315214:=twZ
def tw15919542637913265678:=twZ
def tw9458956999447867950:=twZ
def tw5923252988546675246:=twZ
def tw389472881494512206:=twZ
def tw8693227569615203950:=twZ
def tw6125931036764729998:=twZ
def tw900395245841561262:=twZ
def tw16874561944515371726:=twZ
def tw2401699919119007470:=twZ
def tw16644606511662114574:=twZ
def tw5706481520468235054:=twZ
def tw17730448691065144110:=twZ
def tw563124612126607214:=twZ
def tw16018607276475445134:=twZ
def tw441327347791068078:=twZ
def tw11985326045990495214:=twZ
def tw15823609455315575823:=twZ
def tw2711585505577850959:=twZ
def tw912392155897948271:=twZ
def tw17429684086410527887:=twZ
def tw2948108419219029167:=twZ
def tw6952355047532471503:=twZ
def tw9206804518496725263:=twZ
def tw9575731206691268911:=twZ
def tw13721567128424951087:=twZ
def tw14186486079044719983:=twZ
def tw558745408833754511:=twZ
def tw4434333111790514575:=twZ
def tw5758256569797452207:=twZ
def tw1620339239838986703:=twZ
def tw16758808235637498351:=twZ
def tw11957962974430299695:=twZ
def tw11853533878840232495:=twZ
def tw6589095468515690095:=twZ
def tw6722154040420286063:=twZ
def tw3209381107111851631:=twZ
def tw17164873540382356111:=twZ
def tw15560500314895047343:=twZ
def tw12488000419048109807:=twZ
def tw13526986893379352335:=twZ
def tw11462045893675790159:=twZ
def tw14214133299417103183:=twZ
def tw15583273060660930383:=twZ
def tw13871001218405608335:=twZ
def tw6967401301877209104:=twZ
def tw9759809726879904816:=twZ
def tw10010936943081839664:=twZ
def tw2078703811421203504:=twZ
def tw8946543629884556368:=twZ
def tw1869930749605803152:=twZ
def tw6834602518627153040:=twZ
def tw15560853006256673968:=twZ
def tw11707371222683016368:=twZ
def tw16417370028952169744:=twZ
def tw1574873078441994576:=twZ
def tw3698559305507148144:=twZ
def tw2478078296215019888:=twZ
def tw17803129079492736432:=twZ
def tw347637069881736656:=twZ
def tw6179359751918216688:=twZ
def tw4575980220486274672:=twZ
def tw10964103647780587216:=twZ
def tw535072334866317008:=twZ
def tw13987355940573415152:=twZ
def tw2719445374943340272:=twZ
def tw15041003319150489328:=twZ
def tw5135500740108067664:=twZ
def tw15207642765257501584:=twZ
def tw7081425507203772304:=twZ
def tw10948738476641704880:=twZ
def tw17827458813498177553:=twZ
def tw7009043117176579089:=twZ
def tw15112985482279097393:=twZ
def tw10670733350059645105:=twZ
def tw8075568018651887793:=twZ
def tw7323676302269181137:=twZ
def tw7275051467321613617:=twZ
def tw11790162104776037713:=twZ
def tw5697894365363955025:=twZ
def tw17172517015917474193:=twZ
def tw8649964590619651473:=twZ
def tw17434858337260393937:=twZ
def tw13254397897704925713:=twZ
def tw11625766737575182897:=twZ
def tw9821368406582625841:=twZ
def tw14285029430470858289:=twZ
def tw11796506867022685745:=twZ
def tw6380047634161181297:=twZ
def tw3740020263889925745:=twZ
def tw8047484207015712433:=twZ
def tw17018628822417861297:=twZ
def tw7618406622816332465:=twZ
def tw7496433998918960881:=twZ
def tw1092655722715705105:=twZ
def tw11863081143760314161:=twZ
def tw16176465441171805009:=twZ
def tw8017206721242287953:=twZ
def tw17057272898397164401:=twZ
def tw15902184279288820625:=twZ
def tw11445135464325071761:=twZ
def tw7344376507651311505:=twZ
def tw10939839348159177617:=twZ
def tw10487160056961263569:=twZ
def tw12898947447245864913:=twZ
def tw2011108890870493169:=twZ
def tw17517737089405305841:=twZ
def tw12393455550290869266:=twZ
def tw18410474027866654770:=twZ
def tw9151444980202551346:=twZ
def tw17719373434677690450:=twZ
def tw7140130562030077042:=twZ
def tw16792545251062261874:=twZ
def tw10138199336372458610:=twZ
def tw10819683100428557426:=twZ
def tw6929956602132211858:=twZ
def tw16339471991904476338:=twZ
def tw16349216596472256690:=twZ
def tw5952267759425050802:=twZ
def tw10029231156530900338:=twZ
def tw2951486255847992690:=twZ
def tw17139780236743587250:=twZ
def tw16942194440817826258:=twZ
def tw6714822604882049554:=twZ
def tw9564595351457756722:=twZ
def tw16414604833108395602:=twZ
def tw5765706356271026770:=twZ
def tw951843321253372498:=twZ
def tw14884601019740666482:=twZ
def tw16494616584097029746:=twZ
def tw18126140380344562322:=twZ
def tw16593013826814733010:=twZ
def tw503676674663206642:=twZ
def tw9931943479562821362:=twZ
def tw4552823106982906706:=twZ
def tw15315713394281565010:=twZ
def tw16873187988247708562:=twZ
def tw16645262185327669138:=twZ
def tw4011157648589011858:=twZ
def tw4407734736301137906:=twZ
def tw6662432510661729299:=twZ
def tw5518745428033880147:=twZ
def tw1708024556718086227:=twZ
def tw5862295025349918931:=twZ
def tw1357577264870763731:=twZ
def tw10919533547850550483:=twZ
def tw3152983702415266003:=twZ
def tw10758392820592806131:=twZ
def tw6090905460779295987:=twZ
def tw4299136966843209011:=twZ
def tw10352308551163946355:=twZ
def tw15066959818950650227:=twZ
def tw16406328271908756883:=twZ
def tw10942035263794033107:=twZ
def tw14112274594779413971:=twZ
def tw10227693086864044499:=twZ
def tw17503288770812694035:=twZ
def tw3766158894648301139:=twZ
def tw9787396351842916947:=twZ
def tw5732905514179830355:=twZ
def tw9376109419431680627:=twZ
def tw4966893808263662355:=twZ
def tw15562837088269578035:=twZ
def tw15202239659555905331:=twZ
def tw2718901123391026995:=twZ
def tw13251646731365433171:=twZ
def tw4681523508651956083:=twZ
def tw1503297043503765363:=twZ
def tw1749818173716722547:=twZ
def tw313226197891681235:=twZ
def tw15450981722951097364:=twZ
def tw607167704815816724:=twZ
def tw15806122291839087668:=twZ
def tw17244072584429378644:=twZ
def tw2862820112641550484:=twZ
def tw4075660801711882420:=twZ
def tw10753579090125970612:=twZ
def tw18211773271919218964:=twZ
def tw16942504070071679284:=twZ
def tw11636919720809706868:=twZ
def tw6909570525239066004:=twZ
def tw7503421922109321716:=twZ
def tw9300948228871686676:=twZ
def tw15480198773659482676:=twZ
def tw8537084889766193716:=twZ
def tw7094674258960923220:=twZ
def tw1041845030581493396:=twZ
def tw2674190319118857908:=twZ
def tw2283851925072248500:=twZ
def tw11420187438672877268:=twZ
def tw9315938663221665524:=twZ
def tw17730428716208468724:=twZ
def tw8430678208038309684:=twZ
def tw15742981410569661332:=twZ
def tw6363645014702824404:=twZ
def tw7619357645376055252:=twZ
def tw16979494861989939188:=twZ
def tw16413264400604254196:=twZ
def tw13642483538084851733:=twZ
def tw14530364306720264245:=twZ
def tw14060403864292698165:=twZ
def tw8206430501311747189:=twZ
def tw282004115355043989:=twZ
def tw18163708392712065173:=twZ
def tw16648231224745350325:=twZ
def tw12290603225136948437:=twZ
def tw4527066259768149269:=twZ
def tw8753696776887207221:=twZ
def tw12809422525583811893:=twZ
def tw10528696920762540405:=twZ
def tw10470071008263537045:=twZ
def tw14553827428707814869:=twZ
def tw12237943961548833269:=twZ
def tw392140993173905013:=twZ
def tw12122571135941518997:=twZ
def tw11964429278604863157:=twZ
def tw17537794083376710389:=twZ
def tw13505292571300825877:=twZ
def tw17899373020297197333:=twZ
def tw725871291056497461:=twZ
def tw15773981995205291829:=twZ
def tw8450942572126056277:=twZ
def tw1218959903707654005:=twZ
def tw7299303143086499733:=twZ
def tw2354135333415324597:=twZ
def tw12635297910168745909:=twZ
def tw14126943448341045398:=twZ
def tw17954471519018878134:=twZ
def tw2958062672499776758:=twZ
def tw9413167413068371254:=twZ
def tw3619232141914619222:=twZ
def tw10996506086634736982:=twZ
def tw2627984346626558326:=twZ
def tw10030586065758793078:=twZ
def tw10442292379195195798:=twZ
def tw3142773779024712118:=twZ
def tw14023627001141898710:=twZ
def tw1401972060568974870:=twZ
def tw11939915149646268982:=twZ
def tw856264945809894966:=twZ
def tw12635813782599140982:=twZ
def tw17015423121036801654:=twZ
def tw14420389602138693270:=twZ
def tw3264259588550801142:=twZ
def tw2408619945344806742:=twZ
def tw9082586571710850966:=twZ
def tw9467589175468403638:=twZ
def tw10508251915553800215:=twZ
def tw17341736924252097559:=twZ
def tw2670528217467546775:=twZ
def tw8989982439271903415:=twZ
def tw1829445100760108279:=twZ
def tw15663404670287596823:=twZ
def tw8902219603052485911:=twZ
def tw13903129631018457399:=twZ
def tw17888162413812561239:=twZ
def tw10308316962582663543:=twZ
def tw9219426015542480343:=twZ
def tw7585139358526817783:=twZ
def tw5854881644878751223:=twZ
def tw9676229304581654039:=twZ
def tw15880737140895825463:=twZ
def tw7802139600951554647:=twZ
def tw12945451867199242903:=twZ
def tw14433975572909055671:=twZ
def tw1419416864934026935:=twZ
def tw3325841961599345399:=twZ
def tw7098571738820278039:=twZ
def tw17520869792638436183:=twZ
def tw13145125596335152023:=twZ
def tw18011898689540126615:=twZ
def tw14097648870716263351:=twZ
def tw878741703135273975:=twZ
def tw1702518465993881591:=twZ
def tw14971970265804392439:=twZ
def tw3891137856419664920:=twZ
def tw6004533443673955352:=twZ
def tw662354867322794072:=twZ
def tw5964786160019209400:=twZ
def tw17352973434858128600:=twZ
def tw14168537005229113720:=twZ
def tw10045867985992453528:=twZ
def tw17765544955259793912:=twZ
def tw6059929106960060952:=twZ
def tw8620020772036689432:=twZ
def tw7198390536060210744:=twZ
def tw9236875199018929784:=twZ
def tw18188234029961486008:=twZ
def tw13016732220969518872:=twZ
def tw8400853705098224536:=twZ
def tw17554001833073541016:=twZ
def tw1393629259489396696:=twZ
def tw18273839248471157720:=twZ
def tw16947794391021106201:=twZ
def tw17988542015724977305:=twZ
def tw13776390136698705113:=twZ
def tw4388067698380316889:=twZ
def tw16039550372008468697:=twZ
def tw6683783046931543321:=twZ
def tw13809362725867891129:=twZ
def tw9407582987413476825:=twZ
def tw17280976486791472633:=twZ
def tw2759451637364818457:=twZ
def tw15542503528162795033:=twZ
def tw6580340599500149305:=twZ
def tw15007238320947547705:=twZ
def tw8719427161674164953:=twZ
def tw12022618010286034681:=twZ
def tw6250672158363226905:=twZ
def tw6245536207120538393:=twZ
def tw16531745337717519161:=twZ
def tw3424931102881643321:=twZ
def tw13713124405324915609:=twZ
def tw12647630874787467225:=twZ
def tw721709456127091705:=twZ
def tw2460228577881660442:=twZ
def tw6789855027759293466:=twZ
def tw711467392547777562:=twZ
def tw7783732958741208154:=twZ
def tw11518781747449614426:=twZ
def tw6123655918767846522:=twZ
def tw470574548607681690:=twZ
def tw682011567655089306:=twZ
def tw9908251947323293946:=twZ
def tw12832477231654346042:=twZ
def tw6012508502120743258:=twZ
def tw4824431525194463578:=twZ
def tw5978237884098788730:=twZ
def tw3820604794100220378:=twZ
def tw8098380416015320538:=twZ
def tw3355348695024010778:=twZ
def tw10706342367453228570:=twZ
def tw3267979357774110234:=twZ
def tw15059462757989803610:=twZ
def tw8119918657739134586:=twZ
def tw15157221202141545114:=twZ
def tw3105397867545767578:=twZ
def tw11519604305632133818:=twZ
def tw13471461260053382970:=twZ
def tw14896874001708588922:=twZ
def tw10453232257043877786:=twZ
def tw17954736447514056666:=twZ
def tw219737044198020058:=twZ
def tw7392212959928792091:=twZ
def tw3577408171920636059:=twZ
def tw15512758368177026203:=twZ
def tw4904739604578439355:=twZ
def tw3436264866546951355:=twZ
def tw17497748084772794779:=twZ
def tw16548257151911338427:=twZ
def tw9763268239775435451:=twZ
def tw17394056326795013819:=twZ
def tw2664551874359636763:=twZ
def tw16865151637890581275:=twZ
def tw9589826289149064027:=twZ
def tw3953757239420563355:=twZ
def tw6213141578215901147:=twZ
def tw13833065179229638619:=twZ
def tw10379131730601215995:=twZ
def tw13215998728584607739:=twZ
def tw5720267713326709755:=twZ
def tw5357591511691535388:=twZ
def tw10181792811725400092:=twZ
def tw3504847659760329788:=twZ
def tw2370070277545300124:=twZ
def tw16846860572762119324:=twZ
def tw7365555872484859036:=twZ
def tw6654550962395885724:=twZ
def tw14323765505736481980:=twZ
def tw5701610774189311196:=twZ
def tw5345256250457102556:=twZ
def tw1706496860858754268:=twZ
def tw6214688769961185500:=twZ
def tw6817277305950994716:=twZ
def tw3560238982266916124:=twZ
def tw2447775223705975068:=twZ
def tw17853915177807527196:=twZ
def tw17100903815162463580:=twZ
def tw12659028871203227004:=twZ
def tw6426273055680023932:=twZ
def tw14210447440969649564:=twZ
def tw10205541121877940668:=twZ
def tw5853609219237828028:=twZ
def tw285844861784931804:=twZ
def tw5396446701170858492:=twZ
def tw15199281503961881116:=twZ
def tw18345786424863182364:=twZ
def tw11333186260410459676:=twZ
def tw6144853644547557980:=twZ
def tw7745614565497352828:=twZ
def tw5111356299099525756:=twZ
def tw7397068168572129948:=twZ
def tw13317431791736044220:=twZ
def tw13951257522405164796:=twZ
def tw4800724452203346748:=twZ
def tw1291980286583624508:=twZ
def tw1631149150583789468:=twZ
def tw11277413387252134812:=twZ
def tw16643379632663270332:=twZ
def tw16241802466949684156:=twZ
def tw716658179208862652:=twZ
def tw2905824091091238844:=twZ
def tw1258717718454355964:=twZ
def tw13912434898499826684:=twZ
def tw9504726810853072989:=twZ
def tw17476080006546285661:=twZ
def tw5032809538720368765:=twZ
def tw18263319221461684349:=twZ
def tw4172830789200971933:=twZ
def tw3778451253796500701:=twZ
def tw10057510723706494237:=twZ
def tw16326889199254633757:=twZ
def tw5529568453561195837:=twZ
def tw13915792640404377917:=twZ
def tw14537914154153760125:=twZ
def tw12329403913580668285:=twZ
def tw8881496252177385917:=twZ
def tw18056578402003937789:=twZ
def tw10323183001455561277:=twZ
def tw11186114360453789277:=twZ
def tw17804436615005485693:=twZ
def tw7469732015759309437:=twZ
def tw7504490480230193789:=twZ
def tw17183712847048597117:=twZ
def tw1055568401681811165:=twZ
def tw10028428298569065181:=twZ
def tw17814930658547583709:=twZ
def tw3972328310683599613:=twZ
def tw7892128664451923741:=twZ
def tw13759679279233594173:=twZ
def tw16296994325663420285:=twZ
def tw6019396324639902685:=twZ
def tw17552769576498331613:=twZ
def tw4748654258956052638:=twZ
def tw6711915476519705758:=twZ
def tw11277716924127702174:=twZ
def tw2370425770031549630:=twZ
def tw2736616831223182526:=twZ
def tw7035115661146626270:=twZ
def tw973662469405803806:=twZ
def tw3636048126100218174:=twZ
def tw325292655437039998:=twZ
def tw17964007177503468958:=twZ
def tw15736541856241217950:=twZ
def tw6380782515089751550:=twZ
def tw460243522976405022:=twZ
def tw16869277618539721502:=twZ
def tw11130039905162102590:=twZ
def tw8732485361984058174:=twZ
def tw1107438419126420414:=twZ
def tw1962928258387122110:=twZ
def tw9787463984185863102:=twZ
def tw11328821685186248670:=twZ
def tw4292500188555128830:=twZ
def tw17279654841073493023:=twZ
def tw6122645084068987007:=twZ
def tw4549333791460862111:=twZ
def tw13746126617404028095:=twZ
def tw4405960384096086239:=twZ
def tw12224578244612797663:=twZ
def tw5189142188285759775:=twZ
def tw16349804527192203551:=twZ
def tw9011979029575296479:=twZ
def tw11729385059970357855:=twZ
def tw1139862187096482527:=twZ
def tw8224813933742928703:=twZ
def tw6448080314894763839:=twZ
def tw8987815912523675519:=twZ
def tw11452132507678324671:=twZ
def tw11994158751524154303:=twZ
def tw14223099787259518943:=twZ
def tw13335737130258781183:=twZ
def tw7572482854602025787:=twZ
end PySem.W.Fast
section
namespace Mine
open PySem PySem.W PyProof.Rows
set_option maxHeartbeats 0 in
open_top hd for PySem.Challenge.rw_on0178_01
end Mine
end
namespace Mine
open PySem PySem.W PySem.Calls PyProof.Rows
theorem hdC:∀P,∀a<10,Fh (hd.heap_39 P) a=true:=λP a z=>by
 match a,z with
 |0,_|1,_|2,_|3,_|4,_|5,_|6,_|7,_|8,_|9,_=>kernel_rfl
theorem hdG:∀P,Fj (hd.heap_39 P)=true:=λP=>by kernel_rfl
noncomputable def Qx (K:Frag) (prog:Program):Bool:=upTo 72 (BV K prog)
theorem hdF:∀P,∀i<72,BV (hd.heap_39 P) PySem.Challenge.rw_on0178_01.row.prog i=true:=λP i z=>sH (show Qx (hd.heap_39 P) PySem.Challenge.rw_on0178_01.row.prog=true by kernel_rfl) z
theorem thm:PySem.Challenge.rw_on0178_01.Holds:=hd (by
 intro w s₀ s₁ mg mb G Y fa o pm cd doc dV kV ho hd hcd hD Qw hg args vals as Qy Qz hrd hwl hlo
 have KX:=kIn_of Y
 clear hd hcd hD ho
 refine Ground.open G ?_
 intro T B D TE TW
 clear B D TE TW
 wrow_args Qy Qz hrd hwl hlo
 refine enter_call ?_
 refine codeAny_mono ?_ (λ_ _ g=>GoodW.toG g)
 exact last hdC hdG hdF KX T Qw hg (by assumption) (by assumption) (λ_=>rfl) (PySem.W.postW_of (X:=true) (by kernel_rfl) (by first|kernel_rfl|(with_unfolding_all rfl)|trace_state) rfl))
end Mine
theorem PySem.Challenge.cw_on0178_01_holds : PySem.Challenge.rw_on0178_01.Holds :=
 Mine.thm
