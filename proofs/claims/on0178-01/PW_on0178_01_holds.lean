import PyProof.Rows.All
import Wide.All
import OpenK.AllK
import Wide.FinOn
import Lean
import PySem.Challenge.RW_on0178_01
set_option Elab.async false
set_option genSizeOf false
set_option linter.all false
set_option maxRecDepth 100000
namespace Mine
def ae:=@List.length_map
def ah:=@List.getElem?_eq_some_iff
def aj:=@Nat.le_trans
def ak:=@List.mem_singleton
def am:=@List.mem_of_getElem?
def ao:=@List.getElem?_eq_getElem
def aq:=@List.length_append
def aw:=@Nat.lt_of_lt_of_le
def ax:=@Nat.lt_of_le_of_lt
def ay:=@Option.some.inj
def az:=@List.map_append
def aA:=@List.mem_map
def aB:=@List.mem_append_right
def aC:=@Nat.le_refl
def aD:=@Nat.le_of_eq
def aE:=@List.mem_append
def aF:=@List.getD_eq_getElem?_getD
def aG:=@List.getElem?_append_left
def aH:=@List.mem_cons
def aI:=@Nat.le_of_lt
def aK:=@List.getElem?_map
def aL:=@List.mem_cons_of_mem
def aM:=@Nat.succ_le_succ
def aN:=@List.take_length
def aO:=@List.append_nil
def aP:=@List.getElem?_of_mem
def aQ:=@List.mem_cons_self
def aR:=@List.not_mem_nil
def aS:=@Int.natCast_nonneg
def aT:=@List.length_range
def aU:=@List.length_set
def aV:=@List.take_add_one
def aX:=@List.getElem?_append_right
def aY:=@List.mem_append_left
def aZ:=@List.getElem?_set_self
def a7:=@List.getElem?_set_ne
def a8:=@Int.ofNat_inj
def a9:=@Nat.lt_or_ge
def a_:=@List.mem_range
def ba:=@Nat.lt_succ_iff_lt_or_eq
def bc:=@Nat.not_lt_zero
def bp:=@List.length_filter_le
def bq:=@Option.map_eq_some_iff
def bt:=@List.all_eq_true
def bu:=@List.Nodup.length_le_of_subset
def bv:=@List.getElem?_concat_length
def bw:=@Nat.zero_le
def bx:=@Nat.le_add_right
def bz:=@Int.ofNat_lt
def bB:=@List.mem_filter
def bC:=@List.cons.inj
def bE:=@Nat.le_of_lt_succ
def bF:=@Nat.mul_le_mul_left
def bG:=@Nat.not_lt
def bH:=@Nat.lt_trans
def bJ:=@List.map_map
def bK:=@List.range_succ
def bM:=@List.length_take_le'
def bO:=@List.append_assoc
def bP:=@Nat.add_le_add_left
def bQ:=@List.lookup_cons
def bR:=@Nat.le_antisymm
def bS:=@List.map_cons
def bT:=@List.getElem?_eq_none
def bV:=@List.size_toArray
def bW:=@Nat.lt_succ_self
def bY:=@Nat.testBit_or
def bZ:=@List.length_replicate
def cr:=@Eq.symm
def cu:=@Nat.ne_of_lt
def cv:=@Nat.le_of_succ_le
def cx:=@List.flatMap_cons
def cA:=@Bool.false_ne_true
def cC:=@List.getElem?_toArray
def cD:=@Bool.or_eq_true_iff
def cF:=@PySem.wpAt_of_wpAny
def cH:=@List.flatMap_append
def cK:=@List.filter_cons_of_pos
def cM:=@Nat.succ_ne_zero
def cP:=@List.getElem?_inj
def cQ:=@Nat.le_succ_of_le
def cS:=@List.filter_append
def cU:=@Nat.add_le_add
def cV:=@List.flatMap_nil
def cW:=@List.map_congr_left
def cX:=@List.length_reverse
def cY:=@Nat.add_sub_cancel'
def cZ:=@List.contains_iff_mem
def c9:=@List.filter_cons_of_neg
def c_:=@List.getElem?_replicate
def de:=@List.nodup_iff_pairwise_ne
def dg:=@List.nodup_cons
def dh:=@Nat.lt_succ_of_le
def dk:=@Nat.add_assoc
def du:=@Nat.ne_of_gt
def dx:=@Nat.sub_le_of_le_add
def dC:=@Nat.or_lt_two_pow
def dD:=@List.getElem?_nil
def dE:=@List.getElem?_range
def dG:=@List.filter_nil
def dH:=@List.mem_of_find?_eq_some
def dI:=@List.getElem?_drop
def dJ:=@Nat.add_right_comm
def dK:=@Nat.pos_of_ne_zero
def dM:=@Nat.add_le_add_right
def dN:=@Bool.eq_false_iff
def dR:=@Int.ofNat_le
def dS:=@List.filter_eq_nil_iff
def dT:=@Nat.add_comm
def dU:=@Nat.lt_irrefl
def dX:=@Nat.le_of_not_lt
def dY:=@Nat.succ_lt_succ
def dZ:=@List.find?_eq_none
def d4:=@Ne.symm
def d5:=@Nat.le_of_ble_eq_true
def d7:=@Nat.ge_two_pow_of_testBit
def d8:=@List.getElem?_eq_none_iff
def d9:=@List.drop_eq_getElem_cons
def eo:=@Nat.lt_succ_of_lt
def ez:=@Nat.sub_self
def eE:=@List.Pairwise.filter
def eQ:=@List.length_take
def eV:=@List.nodup_range
def fp:=@List.find?_cons_of_pos
def fw:=@List.find?_cons_of_neg
def fy:=@Int.not_lt
def fE:=@Bool.or_true
def fG:=@Nat.lt_of_succ_lt_succ
def fH:=@Nat.lt_of_lt_of_eq
def fK:=@Int.natCast_pos
def fO:=@Bool.or_eq_true
def fS:=@List.concat_eq_append
def fV:=@List.take_append_drop
def fY:=@Int.toNat_natCast
def f_:=@List.nodup_append
def gh:=@Nat.one_shiftLeft
def gz:=@Bool.and_eq_true_iff
def gG:=@Nat.le_succ
def gH:=@List.map_id
def gJ:=@Nat.add_lt_add_of_le_of_lt
def g_:=@List.length_drop
def hB:=@Nat.succ.inj
def hE:=@Nat.succ_pos
def hH:=@List.getElem_mem
def hJ:=@List.drop_length
def hM:=@List.mem_or_eq_of_mem_set
def hN:=@Option.isNone_iff_eq_none
def hO:=@Decidable.byContradiction
def h_:=@Nat.sub_lt_sub_left
def ib:=@List.length_take_le
def iv:=@List.map_take
def iw:=@List.getElem?_take_of_lt
def iy:=@List.eq_of_mem_replicate
def iz:=@Nat.exists_eq_add_of_le'
def iH:=@Int.neg_neg_of_pos
def iI:=@Nat.lt_of_le_of_ne
def iJ:=@Nat.eq_or_lt_of_le
def iK:=@Nat.not_le
def iL:=@List.append_ne_nil_of_right_ne_nil
def iP:=@Bool.not_eq_true'
def iQ:=@Int.le_of_lt
def iR:=@Int.neg_le_neg
def iS:=@List.take_succ_eq_append_getElem
def iT:=@Array.getElem?_eq_none
def iU:=@List.map_nil
def iV:=@List.getElem?_set
def jb:=@List.any_eq_true
def jc:=@List.map_reverse
def jd:=@List.mem_reverse
def je:=@Nat.zero_testBit
def jf:=@List.mem_flatMap
def jg:=@List.cons_ne_nil
def jh:=@List.perm_middle
def jn:=@Bool.true_and
def ju:=@Exists.elim
def jv:=@Nat.add_lt_add_right
def jw:=@Nat.pow_le_pow_right
def jE:=@List.foldl_cons
def jF:=@List.forIn_cons
def jG:=@List.mem_zipIdx_iff_getElem?
def jH:=@List.find?_some
def jO:=@List.length_flatMap
def jP:=@Nat.add_lt_add_left
def jQ:=@List.filter_sublist
def ky:=@Nat.sub_le
def kA:=@Int.add_sub_cancel
def kD:=@List.map_replicate
def kE:=@Int.neg_nonneg
def kH:=@Nat.shiftRight_eq_div_pow
def k7:=@Int.neg_neg
def k_:=@List.reverse_cons
def lc:=@Nat.sub_sub_right
def lg:=@List.pairwise_map
def lh:=@List.ext_getElem?
def lF:=@PySem.is_none
def lG:=@Int.ofNat_sub
def lH:=@List.filterMap_cons_some
def lJ:=@Option.isSome_iff_exists
def lK:=@List.Pairwise.imp_of_mem
def lL:=@Int.neg_nonpos_of_nonneg
def lY:=@List.pairwise_mergeSort
def lZ:=@List.length_eq_zero_iff
def l_:=@Nat.sub_sub_self
def md:=@Bool.and_eq_true
def mh:=@List.countP_cons
def mj:=@Nat.lt_of_not_le
def mo:=@Nat.add_sub_cancel_left
def mq:=@List.pairwise_singleton
def mO:=@Nat.testBit_shiftRight
def mP:=@Nat.zero_add
def mQ:=@List.map_set
def mR:=@List.take_of_length_le
def mS:=@List.length_take_of_le
def mT:=@Nat.le_of_succ_le_succ
def mU:=@Int.ne_of_gt
def m6:=@List.sum_append
def m7:=@Bool.eq_iff_iff
def m8:=@Int.neg_eq_zero
def ny:=@List.length_mergeSort
def nA:=@Array.getElem?_toList
def nG:=@Nat.sub_eq_zero_of_le
def nH:=@List.eq_nil_or_concat
def nJ:=@List.countP_mono_left
def oy:=@List.take_left
def oA:=@Array.mem_toList_iff
def oB:=@Bool.or_eq_false_iff
def oD:=@Option.or_none
def oE:=@List.mem_of_mem_take
def oF:=@Nat.le.dest
def oG:=@List.count_le_length
def oH:=@Nat.pow_lt_pow_right
def oI:=@Nat.mul_le_mul_right
def o6:=@Option.some_ne_none
def o7:=@List.replicate_succ
def o9:=@List.append_toArray
def o_:=@List.mem_map_of_mem
def pc:=@List.mergeSort_perm
def ph:=@List.eraseDups_cons
def pj:=@Nat.lt_two_pow_self
def pk:=@Nat.testBit_two_pow
def pq:=@List.map_eq_nil_iff
def pW:=@Int.sub_eq_add_neg
def pX:=@List.zip_cons_cons
def pY:=@Nat.eq_zero_or_pos
def pZ:=@Bool.not_eq_false'
def p5:=@Nat.sub_right_comm
def p6:=@Nat.sub_add_cancel
def p7:=@List.getElem?_take
def p8:=@Int.neg_pos_of_neg
def qH:=@Int.add_comm
def qI:=@Int.le_trans
def qJ:=@Iff.rfl
def qK:=@Int.sub_zero
def qL:=@Nat.add_zero
def qM:=@Int.le_of_eq
def qN:=@Nat.succ_add
def rU:=@Int.neg_inj
section
inductive V where
 |none|bool (b:Bool)|int (i:Int)|str (n:Nat)|tup (l:List V)|ref (a:Nat)
inductive O where
 |list (l:List V)|bj (d:List (Int×V))|bX (d:List (List Int×V))|kJ (n:Nat)|inst (c:Nat) (fs:List (Nat×V))|ro (l:List Int)|fi (d:List (Int×V))|ft (d:List (List Int×V))
set_option genInjectivity false
set_option genCtorIdx false
abbrev Hp:=List O
abbrev Lc:=List (Option V)
noncomputable def SZ:Nat:=2^24
noncomputable def vi (i:Int):V:=.int i
noncomputable def di (l:List Int):List V:=l.map V.int
noncomputable def place (i:Int) (n:Nat):Option Nat:=
 if 0≤i then(if i.toNat<n then some i.toNat else Option.none)
 else if(-i).toNat≤n then some (n-(-i).toNat)else Option.none
noncomputable def qO (f:Nat):List (Nat×V)->Option V
 |[]=>Option.none
 |(g,u)::r=>if g=f then some u else qO f r
noncomputable def dv (f:Nat) (v:V):List (Nat×V)->List (Nat×V)
 |[]=>[(f,v)]
 |(g,u)::r=>if g=f then(g,v)::r else(g,u)::dv f v r
section
variable {κ:Type} [DecidableEq κ]
noncomputable def eP (k:κ) (d:List (κ×V)):Option V:=(d.find? λp=>decide (p.1=k)).map (·.2)
noncomputable def dput (k:κ) (v:V) (d:List (κ×V)):List (κ×V):=
 if d.any (λp=>decide (p.1=k))then d.map (λp=>if p.1=k then(p.1,v)else p)else d++[(k,v)]
noncomputable def yb (k:κ) (d:List (κ×V)):List (κ×V):=d.filter λp=>decide (p.1≠k)
end
noncomputable def FK (l:List Int):List Int:=l.mergeSort λa b=>decide (a≤b)
set_option genCtorIdx true in
inductive LF where
 |add|sub|mul|fdiv|mod|band|bor|shl|shr
 deriving DecidableEq
set_option genCtorIdx true in
inductive B3 where
 |eq|ne|lt|le|gt|ge|is|yd|isin|jJ
 deriving DecidableEq
mutual
inductive CE where
 |lit (v:V)
 |var (i:Nat)
 |bin (o:LF) (a b:CE)
 |neg (a:CE)|inv (a:CE)|not (a:CE)
 |cmp (o:B3) (a b:CE)
 |rV (o p:B3) (a b c:CE)
 |and (l:mw)|or (l:mw)
 |ite (c a b:CE)
 |list (l:mw)|tup (l:mw)|iM (k:Nat)
 |comp (caps:List Nat) (elt:CE) (it:CI) (ifs:mw)
 |idx (a i:CE)|sL (a i:CE)|rF (a i:CE)
 |attr (a:CE) (f:Nat)
 |call (f:Nat) (l:mw)|new (c:Nat) (l:mw)|bA (o:CE) (m f:Nat) (l:mw)
 |len (a:CE)|sorted (a:CE)|listOf (a:CE)|tupleOf (a:CE)|intOf (a:CE)|sum (a:CE)|max (a b:CE)
 |append (o x:CE)|extend (o x:CE)|pop (o:CE)|u9 (o k:CE)|qP (o k d:CE)|u_ (o k:CE)
inductive CI where
 |ex (e:CE)|range (e:CE)|rev (e:CE)
inductive mw where
 |nil|cons (e:CE) (r:mw)
end
noncomputable def CE.kind:CE->Nat
 | .comp .. =>1
 | .not _| .and _| .or _| .ite .. | .cmp .. | .rV .. =>2
 |_=>0
noncomputable def CE.qQ (e:CE):Bool:=e.kind !=2
noncomputable def CE.mA (e:CE):Bool:=e.kind==1
inductive Tg where
 |v (i:Nat)|p (i j:Nat)
mutual
inductive CS where
 |expr (e:CE)
 |set (t:Tg) (e:CE)
 |setattr (o:CE) (f:Nat) (e:CE)
 |br (o i e:CE)
 |ite (c:CE) (a b:i6)
 |while (c:CE) (b:i6)
 |for (t:Tg) (i:CI) (b:i6)
 |ret (e:CE)
 |cont
 |sup (l:mw)
inductive i6 where
 |nil|cons (s:CS) (r:i6)
end
set_option genCtorIdx true in
inductive Fl where
 |next|cont|ret (v:V)
noncomputable def Fl.val:Fl->V
 | .ret v=>v
 |_=>.none
inductive Gd where
 |none|list (a:Nat) (l:List V)|bj (a:Nat) (d:List (Int×V))|bX (a:Nat) (d:List (List Int×V))
noncomputable def Gd.ok (H:Hp):Gd->Prop
 | .none=>True
 | .list a l=>H[a]?=some (.list l)
 | .bj a d=>H[a]?=some (.fi d)
 | .bX a d=>H[a]?=some (.ft d)
noncomputable def Gd.Cb:Gd->Bool
 | .none| .list .. =>false
 | .bj .. | .bX .. =>true
noncomputable def Gd.fz (H:Hp):Gd->Hp
 | .none| .list .. =>H
 | .bj a d=>H.set a (.fi d)
 | .bX a d=>H.set a (.ft d)
noncomputable def Gd.th (H:Hp):Gd->Hp
 | .none| .list .. =>H
 | .bj a d=>H.set a (.bj d)
 | .bX a d=>H.set a (.bX d)
structure Fn where
 np:Nat
 defs:List V
 nl:Nat
 body:i6
structure Pg where
 fn:Nat->Option Fn
 init:Nat->Option Nat
 xT:Nat->Nat->Option Nat
 sup:Nat
 wp:Nat
noncomputable def Fn.start (f:Fn) (vs:List V):Lc:=
 (vs++f.defs.drop (vs.length+f.defs.length-f.np)).map some++List.replicate (f.nl-f.np) Option.none
noncomputable def Fn.takes (f:Fn) (n:Nat):Prop:=n≤f.np∧f.np≤n+f.defs.length
mutual
noncomputable def V.plain:V->Nat->Bool
 | .tup l,n=>decide (0<n)&&lj l (n-1)
 | .ref _,_=>false
 | .none,_| .bool _,_| .int _,_| .str _,_=>true
noncomputable def lj:List V->Nat->Bool
 |[],_=>true
 |v::r,n=>v.plain n&&lj r n
end
noncomputable def pH (H:Hp) (a:Nat):Prop:=(∃d,H[a]?=some (.bj d))∨∃d,H[a]?=some (.bX d)
end
set_option genInjectivity false
set_option genCtorIdx false
section
open PySem PySem.W PySem.Calls PyProof.Rows
section
structure Nm where
 st:Nat->Option Str
 at_:Nat->Option Str
 cl:Nat->Addr
 fa:Nat->Addr
 HW:Nat
structure Lk where
 ι:Nat->Addr
 δ:Nat->Addr
abbrev ig (vs:List Value) (e:Nat):Obj:={cls:=.type "tuple",data:=.seq vs.toArray e}
abbrev lN (vs:List Value) (e:Nat):Obj:={cls:=.type "list",data:=.seq vs.toArray e}
structure Cx where
 prog:Program
 w:World
 K:Frag
 hb:Heap
 q:Program
 loose:List Str
 AI:ExcName->Option Value
 mg:Str->Option Value
 mb:Str->Option Value
 G:Nm
 X:K.In hb
 T:Top q loose AI mg mb hb
abbrev ik (c:Cx):=intKind c.prog c.w
theorem ff {P:Prop} (h:false=true):P:=Bool.noConfusion h
theorem c7 {α:Type} {o:Option α} {x:α} {P:Prop} (e:o=none) (f:o=some x):P:=absurd (f.symm.trans e) (o6 x)
section
variable(c:Cx) (k:Lk) (H:Hp) (h:Heap)
mutual
noncomputable def VR:V->Value->Prop
 | .none,v=>v= .none
 | .bool b,v=>v= .bool b
 | .int i,v=>∃t,v= .int i t
 | .str n,v=>∃x t,c.G.st n=some x∧v= .str x t
 | .tup l,v=>∃a vs e,v= .ref a∧h.get? a=some (ig vs e)∧eJ l vs
 | .ref j,v=>j<H.length∧v= .ref (k.ι j)
noncomputable def eJ:List V->List Value->Prop
 |[],vs=>vs=[]
 |x::l,vs=>∃v r,vs=v::r∧VR x v∧eJ l r
end
noncomputable def jo {κ:Type}:List (κ×V)->List (κ×Value)->Prop
 |[],kvs=>kvs=[]
 |p::d,kvs=>∃v r,kvs=(p.1,v)::r∧VR c k H h p.2 v∧jo d r
noncomputable def qR:List (Nat×V)->List DictEntry->Prop
 |[],es=>es=[]
 |p::d,es=>∃hh x t v r,es=⟨hh,.str x t,v⟩::r∧c.G.at_ p.1=some x∧VR c k H h p.2 v∧qR d r
noncomputable def K2 (j:Nat) (d:List (Int×V)):Prop:=∃kvs:List (Int×Value),h.DictOf (ik c) (k.ι j) kvs∧jo c k H h d kvs
noncomputable def K3 (j:Nat) (d:List (List Int×V)):Prop:=∃xs:List (List Int×Addr×Value),h.DictOfH (tupleKind (ik c)) (k.ι j) xs∧(∀x∈xs,∃vs e,h.get? x.2.1=some (ig vs e))∧jo c k H h d (xs.map λx=>(x.1,x.2.2))
noncomputable def OR (j:Nat):O->Prop
 | .list l=>l.length≤SZ∧∃vs e,h.get? (k.ι j)=some (lN vs e)∧eJ c k H h l vs
 | .bj d| .fi d=>K2 c k H h j d
 | .bX d| .ft d=>K3 c k H h j d
 | .kJ n=>∃kvs:List (Str×Value),h.DictOf (strKind c.prog c.w) (k.ι j) kvs∧kvs.length≤n
 | .inst cl fs=>cl<c.G.HW∧h.get? (k.ι j)=some (instObj (c.G.cl cl) (k.δ j))∧∃es e,h.get? (k.δ j)=some {cls:=.type "dict",data:=.dict es.toArray e}∧qR c k H h fs es
 | .ro l=>l.length≤SZ∧∃vs e,h.get? (k.ι j)=some (lN vs e)∧IntsAre vs l
end
noncomputable def O.owned:O->Bool
 | .ro _| .fi _| .ft _=>false
 |_=>true
noncomputable def O.made:O->Bool
 | .ro _=>false
 |_=>true
noncomputable def O.dO:O->Bool
 | .inst .. =>true
 |_=>false
noncomputable def At (k:Lk) (j:Nat) (o:O) (a:Addr):Prop:=a=k.ι j∨(o.dO=true∧a=k.δ j)
noncomputable def nK (k:Lk) (H:Hp) (a:Addr):Prop:=∀j o,H[j]?=some o->¬At k j o a
noncomputable def Oo (k:Lk) (H:Hp) (a:Addr):Prop:=∃j o,H[j]?=some o∧o.owned=true∧At k j o a
inductive dz (c:Cx) (k:Lk) (H:Hp) (h:Heap):Prop
 |mk (base:∀b o,c.hb.get? b=some o->h.get? b=some o) (obj:∀j o,H[j]?=some o->OR c k H h j o) (up:∀j o a,H[j]?=some o->o.made=true->At k j o a->c.hb.get? a=none∧a≠sysModules) (sep:∀a i j x y,H[i]?=some x->H[j]?=some y->At k i x a->At k j y a->i=j)
noncomputable def iO (o:Obj):Prop:=∀vs e,o≠ig vs e
inductive jy (X:Addr->Prop) (k:Lk) (H:Hp) (h:Heap) (k':Lk) (H':Hp) (h':Heap):Prop
 |mk (len:H.length≤H'.length) (ag:∀j,j<H.length->k'.ι j=k.ι j∧k'.δ j=k.δ j) (keep:∀b o,¬Oo k H b->¬X b->h.get? b=some o->h'.get? b=some o) (own:∀b,Oo k H b->Oo k' H' b) (new:∀b o,¬Oo k H b->h.get? b=some o->¬Oo k' H' b) (fr:∀j,H.length≤j->j<H'.length->¬Oo k H (k'.ι j)∧h.get? (k'.ι j)=none) (lv:∀b o,X b->h.get? b=some o->∃o',h'.get? b=some o'∧(iO o->iO o'))
noncomputable def NX (_:Addr):Prop:=False
inductive Mw (k:Lk) (H:Hp) (h:Heap) (k':Lk) (H':Hp) (h':Heap):Prop
 |mk (len:H.length≤H'.length) (io:∀j,j<H.length->k'.ι j=k.ι j) (tup:∀a vs e,h.get? a=some (ig vs e)->h'.get? a=some (ig vs e))
section
variable {c:Cx} {k k' HX:Lk} {H H' K4:Hp} {h h' K5:Heap} {a b:Addr} {X:Addr->Prop} {j:Nat} {o o':O} {x:V} {l r:List V} {v:Value} {vs us:List Value}
mutual
theorem VR.mono (m:Mw k H h k' H' h'):∀{x:V} {v:Value},VR c k H h x v->VR c k' H' h' x v
 | .none,_,r=>r
 | .bool _,_,r=>r
 | .int _,_,r=>r
 | .str _,_,r=>r
 | .tup l,_,r=>by
  obtain⟨a,vs,e,h1,h2,h3⟩:=r
  exact⟨a,vs,e,h1,m.3 _ _ _ h2,eJ.mono m h3⟩
 | .ref j,_,r=>⟨aw r.1 m.1,m.2 j r.1▸r.2⟩
theorem eJ.mono (m:Mw k H h k' H' h'):∀{l:List V} {vs:List Value},eJ c k H h l vs->eJ c k' H' h' l vs
 |[],_,r=>r
 |x::l,_,r=>by
  obtain⟨v,r',h1,h2,h3⟩:=r
  exact⟨v,r',h1,VR.mono m h2,eJ.mono m h3⟩
end
theorem VR.kI {P:Value->Prop} {i:Int} (x:VR c k H h (.int i) v) (q:∀t,P (.int i t)):P v:=ju x λt e=>e▸q t
theorem VR.kB {P:Value->Prop} {b:Bool} (x:VR c k H h (.bool b) v) (q:P (.bool b)):P v:=cr x▸q
theorem VR.kN {P:Value->Prop} (x:VR c k H h .none v) (q:P .none):P v:=cr x▸q
theorem VR.kR {P:Value->Prop} (x:VR c k H h (.ref j) v) (q:j<H.length->P (.ref (k.ι j))):P v:=cr x.2▸q x.1
theorem VR.kS {P:Value->Prop} {n:Nat} (x:VR c k H h (.str n) v) (q:∀x t,c.G.st n=some x->P (.str x t)):P v:=ju x λy x=>x.elim λt x=>cr x.2▸q y t x.1
theorem VR.kT {P:Value->Prop} (x:VR c k H h (.tup l) v) (q:∀a vs e,h.get? a=some (ig vs e)->eJ c k H h l vs->P (.ref a)):P v:=ju x λa x=>x.elim λvs x=>x.elim λe x=>cr x.1▸q a vs e x.2.1 x.2.2
theorem eJ.nE {P:List Value->Prop} (x:eJ c k H h [] vs) (q:P []):P vs:=cr x▸q
theorem eJ.cE {P:List Value->Prop} (y:eJ c k H h (x::l) vs) (q:∀v r,VR c k H h x v->eJ c k H h l r->P (v::r)):P vs:=ju y λv x=>x.elim λr x=>cr x.1▸q v r x.2.1 x.2.2
theorem eJ.cons (y:VR c k H h x v) (z:eJ c k H h l vs):eJ c k H h (x::l) (v::vs):=⟨v,vs,rfl,y,z⟩
theorem eJ.one (y:VR c k H h x v):eJ c k H h [x] [v]:=.cons y rfl
theorem Fr (i:Int) (t:Tok):VR c k H h (.int i) (.int i t):=⟨t,rfl⟩
theorem OO {e:Nat} (x:h.get? a=some (ig vs e)) (y:eJ c k H h l vs):VR c k H h (.tup l) (.ref a):=⟨a,vs,e,rfl,x,y⟩
theorem eJ.length:∀{l:List V} {vs:List Value},eJ c k H h l vs->l.length=vs.length
 |[],_,r=>r▸rfl
 |_::_,_,r=>r.cE (P:=λvs=>_=vs.length) λ_ _ _ q=>congrArg Nat.succ q.length
theorem eJ.get:∀{l:List V} {vs:List Value} {i:Nat} {x:V},eJ c k H h l vs->l[i]?=some x->∃v,vs[i]?=some v∧VR c k H h x v
 |_::_,_,0,x,r,e=>r.cE (P:=λvs=>∃v,vs[0]?=some v∧VR c k H h x v) λv _ p _=>⟨v,rfl,ay e▸p⟩
 |_::_,_,i+1,x,r,e=>r.cE (P:=λvs=>∃v,vs[i+1]?=some v∧VR c k H h x v) λ_ _ _ q=>q.get (i:=i) e
theorem eJ.append:∀{l r:List V} {vs us:List Value},eJ c k H h l vs->eJ c k H h r us->eJ c k H h (l++r) (vs++us)
 |[],_,_,_,a,b=>a.nE (P:=λvs=>eJ c k H h _ (vs++_)) b
 |_::_,_,_,_,a,b=>a.cE (P:=λvs=>eJ c k H h _ (vs++_)) λ_ _ p q=>.cons p (q.append b)
end
end
section
section
variable {c:Cx} {k k' HX:Lk} {H H' K4:Hp} {h h' K5:Heap} {a b d:Addr} {X:Addr->Prop} {j n:Nat} {o o' x:O} {v:Value} {l r:List V} {vs us:List Value}
theorem oJ {o:Obj} {n:String} (q:o.cls= .type n) (g:n≠"tuple"):iO o:=λ_ _ z=>g (by rw[z]at q;cases q;rfl)
theorem mB {o:Obj} {es ep} (q:o.data= .dict es ep):iO o:=λ_ _ z=>by rw[z]at q;cases q
theorem sM {o:Obj} {v} (q:o.data= .cell v):iO o:=λ_ _ z=>by rw[z]at q;cases q
theorem AJ {κ:Type} [DecidableEq κ] {knd:KeyKind c.prog c.w κ} {kvs:List (κ×Value)} (x:h.DictOf knd a kvs):∃b,h.get? a=some b∧iO b:=by
 obtain⟨o,es,ep,q,_,d,_⟩:=x;exact⟨o,q,mB d⟩
theorem OR.lv (x:OR c k H h j o) (z:At k j o a):∃b,h.get? a=some b∧iO b:=by
 rcases z with rfl|⟨i,rfl⟩
 ·cases o with
  |list|ro=>obtain⟨_,vs,e,q,_⟩:=x;exact⟨_,q,oJ rfl (by decide)⟩
  |bj|fi|kJ=>obtain⟨_,q,_⟩:=x;exact AJ q
  |bX|ft=>obtain⟨_,⟨o,es,ep,q,_,d,_⟩,_⟩:=x;exact⟨o,q,mB d⟩
  |inst=>exact⟨_,x.2.1,λ_ _ z=>by cases z⟩
 ·cases o with
  |inst=>obtain⟨_,_,es,e,q,_⟩:=x;exact⟨_,q,mB rfl⟩
  |_=>exact ff i
theorem dz.OP (S:dz c k H h) {e:Nat} (q:h.get? a=some (ig vs e)):nK k H a:=λ_ _ ho z=>let⟨_,hb,hn⟩:=(S.2 _ _ ho).lv z;hn _ _ (ay (hb.symm.trans q))
theorem nK.ow (x:nK k H a):¬Oo k H a:=fun⟨j,o,e,_,z⟩=>x j o e z
theorem dz.xU (S:dz c k H h) (q:h.get? a=none):nK k H a:=λ_ _ ho z=>let⟨_,hb,_⟩:=(S.2 _ _ ho).lv z;c7 q hb
theorem dz.FN (S:dz c k H h) (q:h.get? a=none):c.hb.get? a=none:=by
 cases z:c.hb.get? a with
 |none=>rfl
 |some o=>exact c7 q (S.1 _ _ z)
theorem j0 {α:Type} {l:List α} {o:α} (e:l[j]?=some o):j<l.length:=(ah.mp e).1
theorem nK.im (x:nK k H a) (l:j<H.length):k.ι j≠a:=λz=>x j _ (ao l) (.inl z.symm)
theorem jy.refl:jy X k H h k H h:=⟨aC _,λ_ _=>⟨rfl,rfl⟩,λ_ _ _ _ e=>e,λ_ e=>e,λ_ _ e _=>e,λ_ a b=>absurd b (bG.mpr a),λ_ o _ e=>⟨o,e,id⟩⟩
theorem jy.trans (x:jy X k H h k' H' h') (y:jy X k' H' h' HX K4 K5):jy X k H h HX K4 K5:=.mk
 (aj x.1 y.1)
 (λj l=>⟨(y.2 j (aw l x.1)).1.trans (x.2 j l).1,(y.2 j (aw l x.1)).2.trans (x.2 j l).2⟩)
 (λb o f n e=>y.3 b o (x.5 b o f e) n (x.3 b o f n e))
 (λb e=>y.4 b (x.4 b e))
 (λb o e l=>by
  by_cases n:X b
  ·obtain⟨o',l',_⟩:=x.7 b o n l;exact y.5 b o' (x.5 b o e l) l'
  ·exact y.5 b o (x.5 b o e l) (x.3 b o e n l))
 (λj a b=>by
  rcases a9 j H'.length with l|l
  ·rw[(y.2 j l).1];exact x.6 j a l
  ·obtain⟨f1,f2⟩:=y.6 j l b
   have g:=λz=>f1 (x.4 _ z)
   refine⟨g,?_⟩
   cases z:h.get? (HX.ι j)with
   |none=>rfl
   |some o=>
    by_cases n:X (HX.ι j)
    ·obtain⟨o',l',_⟩:=x.7 _ o n z;exact c7 f2 l'
    ·exact c7 f2 (x.3 _ _ g n z))
 (λb o n l=>by obtain⟨o',l',t⟩:=x.7 b o n l;obtain⟨o2,l2,t2⟩:=y.7 b o' n l';exact⟨o2,l2,λz=>t2 (t z)⟩)
theorem jy.mono {Y:Addr->Prop} (x:jy X k H h k' H' h') (i:∀b o,X b->h.get? b=some o->Y b) (n:∀b,Y b->¬Oo k H b):jy Y k H h k' H' h':=
 ⟨x.1,x.2,λb o f q e=>x.3 b o f (λz=>q (i b o z e)) e,x.4,x.5,x.6,λb o y l=>by
  by_cases z:X b
  ·exact x.7 b o z l
  ·exact⟨o,x.3 b o (n b y) z l,id⟩⟩
theorem jy.keeps (e:∀b o,¬X b->h.get? b=some o->h'.get? b=some o) (l:∀b o,X b->h.get? b=some o->∃o',h'.get? b=some o'∧(iO o->iO o')):jy X k H h k H h':=
 ⟨aC _,λ_ _=>⟨rfl,rfl⟩,λb o _=>e b o,λ_ e=>e,λ_ _ e _=>e,λ_ a b=>absurd b (bG.mpr a),l⟩
theorem Mw.keep (e:∀b o,h.get? b=some o->h'.get? b=some o):Mw k H h k H h':=⟨aC _,λ_ _=>rfl,λ_ _ _=>e _ _⟩
theorem jy.mv (F:jy X k H h k' H' h') (S:dz c k H h) (n:∀a vs e,X a->h.get? a≠some (ig vs e)):Mw k H h k' H' h':=⟨F.1,λj l=>(F.2 j l).1,λa _ _ q=>F.3 _ _ (S.OP q).ow (λx=>n _ _ _ x q) q⟩
theorem rG {ks:List Int} {e:Nat} (x:(tupleKind (ik c)).is h ks a) (q:h.get? a=some (ig vs e)) (q':h'.get? a=some (ig vs e)):(tupleKind (ik c)).is h' ks a:=by
 obtain⟨o,its,n,g,r⟩:=x
 cases g.symm.trans q
 exact⟨_,its,n,q',r⟩
theorem rH {κ:Type} [DecidableEq κ] {knd:KeyKind c.prog c.w κ} {kvs:List (κ×Value)} (x:h.DictOf knd a kvs) (e:∀o,h.get? a=some o->h'.get? b=some o):h'.DictOf knd b kvs:=by
 obtain⟨o,es,ep,q,z⟩:=x;exact⟨o,es,ep,e _ q,z⟩
theorem jo.kN {κ:Type} {kvs:List (κ×Value)} {P:List (κ×Value)->Prop} (r:jo c k H h ([]:List (κ×V)) kvs) (q:P []):P kvs:=cr r▸q
theorem jo.kC {κ:Type} {p:κ×V} {d:List (κ×V)} {kvs:List (κ×Value)} {P:List (κ×Value)->Prop} (r:jo c k H h (p::d) kvs) (q:∀v LG,VR c k H h p.2 v->jo c k H h d LG->P ((p.1,v)::LG)):P kvs:=
 ju r λv x=>x.elim λr x=>cr x.1▸q v r x.2.1 x.2.2
theorem jo.mono {κ:Type} (m:Mw k H h k' H' h'):∀{d:List (κ×V)} {kvs:List (κ×Value)},jo c k H h d kvs->jo c k' H' h' d kvs
 |[],_,x=>x
 |_::_,_,x=>x.kC (P:=λkvs=>jo c k' H' h' _ kvs) λv r a b=>⟨v,r,rfl,a.mono m,b.mono m⟩
theorem qR.mono (m:Mw k H h k' H' h'):∀{d:List (Nat×V)} {es:List DictEntry},qR c k H h d es->qR c k' H' h' d es
 |[],_,x=>x
 |_::_,_,⟨hh,x,t,v,r,e,a,b,z⟩=>⟨hh,x,t,v,r,e,a,b.mono m,z.mono m⟩
theorem K2.mono {d:List (Int×V)} (m:Mw k H h k' H' h') (e:∀o,h.get? (k.ι j)=some o->h'.get? (k'.ι j)=some o) (x:K2 c k H h j d):K2 c k' H' h' j d:=by
 obtain⟨kvs,D,P⟩:=x;exact⟨kvs,rH D e,P.mono m⟩
theorem K3.mono {d:List (List Int×V)} (m:Mw k H h k' H' h') (e:∀o,h.get? (k.ι j)=some o->h'.get? (k'.ι j)=some o) (x:K3 c k H h j d):K3 c k' H' h' j d:=by
 obtain⟨xs,⟨o,es,ep,q,z1,z2,z3,z4,z5⟩,zt,P⟩:=x
 refine⟨xs,⟨o,es,ep,e _ q,z1,z2,z3,λy hy=>?_,z5⟩,λy hy=>?_,P.mono m⟩
 ·obtain⟨_,_,g⟩:=zt y hy;exact rG (z4 y hy) g (m.3 _ _ _ g)
 ·obtain⟨vs,e,g⟩:=zt y hy;exact⟨vs,e,m.3 _ _ _ g⟩
theorem OR.mono (x:OR c k H h j o) (m:Mw k H h k' H' h') (i:k'.ι j=k.ι j) (i':k'.δ j=k.δ j) (e:∀a b,At k j o a->h.get? a=some b->h'.get? a=some b):OR c k' H' h' j o:=by
 have e1:∀b,h.get? (k.ι j)=some b->h'.get? (k'.ι j)=some b:=λb=>i.symm▸e _ b (.inl rfl)
 cases o with
 |list l=>obtain⟨z,vs,e,q,r⟩:=x;exact⟨z,vs,e,e1 _ q,r.mono m⟩
 |bj d|fi d=>exact K2.mono m e1 x
 |bX d|ft d=>exact K3.mono m e1 x
 |kJ d=>obtain⟨kvs,D,r⟩:=x;exact⟨kvs,rH D e1,r⟩
 |inst cl fs=>obtain⟨q0,q,es,n,q2,r⟩:=x;exact⟨q0,i'.symm▸e1 _ q,es,n,i'.symm▸e _ _ (.inr ⟨rfl,rfl⟩) q2,r.mono m⟩
 |ro l=>obtain⟨z,vs,e,q,r⟩:=x;exact⟨z,vs,e,e1 _ q,r⟩
theorem dz.Cc (S:dz c k H h) (hX:∀a,X a->nK k H a∧c.hb.get? a=none) (hn:∀a vs e,X a->h.get? a≠some (ig vs e)) (e:∀b o,¬X b->h.get? b=some o->h'.get? b=some o):dz c k H h':=
 ⟨λb o q=>e _ _ (λz=>c7 (hX _ z).2 q) (S.1 b o q),λj o q=>(S.2 j o q).mono ⟨aC _,λ_ _=>rfl,λ_ _ _ q=>e _ _ (λx=>hn _ _ _ x q) q⟩ rfl rfl λa b z=>e _ _ λx=>(hX _ x).1 _ _ q z,S.3,S.4⟩
theorem dz.keeps (S:dz c k H h) (e:∀b o,h.get? b=some o->h'.get? b=some o):dz c k H h':=S.Cc (X:=NX) (λ_ x=>x.elim) (λ_ _ _ x=>x.elim) λb o _=>e b o
theorem qS {α:Type} {l:List α} {i:Nat} {o x:α} (e:(l.set j o)[i]?=some x):(i=j∧x=o)∨(i≠j∧l[i]?=some x):=by
 by_cases q:i=j
 ·subst q;rw[aZ (by have:=j0 e;rwa[aU]at this)]at e;exact .inl ⟨rfl,(ay e).symm⟩
 ·rw[a7 (d4 q)]at e;exact .inr ⟨q,e⟩
theorem dz.set (S:dz c k H h) (hj:H[j]?=some o) (hi:o'.dO=o.dO) (hm:o'.made=o.made) (hX:∀a,X a->o.made=true∧At k j o a) (e:∀a b,¬X a->h.get? a=some b->h'.get? a=some b) (x:OR c k H h' j o'):dz c k (H.set j o') h':=by
 have back:∀{i:Nat} {y:O},(H.set j o')[i]?=some y->∃z,H[i]?=some z∧y.made=z.made∧∀a,At k i y a->At k i z a:=λq=>by
  rcases qS q with⟨rfl,rfl⟩|⟨_,q⟩
  ·exact⟨_,hj,hm,λa z=>z.imp id λz=>⟨hi▸z.1,z.2⟩⟩
  ·exact⟨_,q,rfl,λ_ z=>z⟩
 have m:∀{h:Heap},Mw k H h k (H.set j o') h:=⟨by rw[aU];exact aC _,λ_ _=>rfl,λ_ _ _ q=>q⟩
 have nt:∀a vs n,h.get? a=some (ig vs n)->h'.get? a=some (ig vs n):=λa vs n q=>e _ _ (λz=>S.OP q _ _ hj (hX _ z).2) q
 refine⟨λb o q=>e _ _ (λz=>c7 (S.3 _ _ _ hj (hX _ z).1 (hX _ z).2).1 q) (S.1 b o q),λi y q=>?_,λi y a q w z=>?_,λa i i' y y' q q' z z'=>?_⟩
 ·rcases qS q with⟨rfl,rfl⟩|⟨n,q⟩
  ·exact x.mono m rfl rfl λ_ _ _ e=>e
  ·exact(S.2 i y q).mono ⟨m (h:=h).1,λ_ _=>rfl,nt⟩ rfl rfl λa b z=>e _ _ λw=>n (S.4 a i j _ _ q hj z (hX _ w).2)
 ·obtain⟨y',q,f,g⟩:=back q;exact S.3 i y' a q (f▸w) (g _ z)
 ·obtain⟨_,q,_,g⟩:=back q;obtain⟨_,q',_,g'⟩:=back q';exact S.4 a _ _ _ _ q q' (g _ z) (g' _ z')
noncomputable def Lk.add (k:Lk) (j:Nat) (a d:Addr):Lk:=⟨λi=>if i=j then a else k.ι i,λi=>if i=j then d else k.δ i⟩
theorem oK {α:Type} {l:List α} {o x:α} (e:(l++[o])[j]?=some x):(j<l.length∧l[j]?=some x)∨(j=l.length∧x=o):=by
 rcases a9 j l.length with q|q
 ·exact .inl ⟨q,by rwa[aG q]at e⟩
 ·have i:=j0 e
  rw[aq]at i
  cases bR q (bE i)
  rw[bv]at e;exact .inr ⟨rfl,(ay e).symm⟩
theorem lp (l:j<n):(k.add n a d).ι j=k.ι j∧(k.add n a d).δ j=k.δ j:=⟨if_neg (cu l),if_neg (cu l)⟩
theorem At.old (l:j<n) (z:At (k.add n a d) j o b):At k j o b:=z.imp (λz=>z.trans (lp l).1) λz=>⟨z.1,z.2.trans (lp l).2⟩
theorem At.up (l:j<n) (z:At k j o b):At (k.add n a d) j o b:=z.imp (λz=>z.trans (lp l).1.symm) λz=>⟨z.1,z.2.trans (lp l).2.symm⟩
theorem At.new (z:At (k.add n a d) n o b):b=a∨(o.dO=true∧b=d):=z.imp (λz=>z.trans (if_pos rfl)) λz=>⟨z.1,z.2.trans (if_pos rfl)⟩
theorem Mw.add (e:∀b y,h.get? b=some y->h'.get? b=some y):Mw k H h (k.add H.length a d) (H++[o]) h':=⟨by rw[aq];exact bx _ _,λ_ l=>(lp l).1,λ_ _ _=>e _ _⟩
theorem dz.add (S:dz c k H h) (e:∀b y,h.get? b=some y->h'.get? b=some y) (n:∀b,b=a∨(o.dO=true∧b=d)->nK k H b∧c.hb.get? b=none∧b≠sysModules) (x:OR c (k.add H.length a d) (H++[o]) h' H.length o):dz c (k.add H.length a d) (H++[o]) h':=by
 refine⟨λb o q=>e _ _ (S.1 b o q),λj y q=>?_,λj y b q w z=>?_,λb i i' y y' q q' z z'=>?_⟩
 ·rcases oK q with⟨l,q⟩|⟨rfl,rfl⟩
  ·exact(S.2 j y q).mono (.add e) (lp l).1 (lp l).2 λ_ _ _=>e _ _
  ·exact x
 ·rcases oK q with⟨l,q⟩|⟨rfl,rfl⟩
  ·exact S.3 j y b q w (z.old l)
  ·exact(n _ z.new).2
 ·rcases oK q with⟨l,r⟩|⟨rfl,rfl⟩<;>rcases oK q' with⟨l',r'⟩|⟨rfl,rfl⟩
  ·exact S.4 b _ _ _ _ r r' (z.old l) (z'.old l')
  ·exact absurd (z.old l) ((n _ z'.new).1 _ _ r)
  ·exact absurd (z'.old l') ((n _ z.new).1 _ _ r')
  ·rfl
theorem jy.add (F:jy X k H h k' H' h') (e:∀b y,h'.get? b=some y->K5.get? b=some y) (n:∀b,b=a∨(o.dO=true∧b=d)->¬Oo k H b∧h.get? b=none):jy X k H h (k'.add H'.length a d) (H'++[o]) K5:=.mk
 (by rw[aq];exact aj F.1 (bx _ _))
 (λj l=>⟨(lp (aw l F.1)).1.trans (F.2 j l).1,(lp (aw l F.1)).2.trans (F.2 j l).2⟩)
 (λb y f x q=>e _ _ (F.3 b y f x q))
 (λb q=>by
  obtain⟨j,y,q,w,z⟩:=F.4 b q
  exact⟨j,y,(aG (j0 q)).trans q,w,z.up (j0 q)⟩)
 (λb y f q ⟨j,y',g,w,z⟩=>by
  rcases oK g with⟨l,g⟩|⟨rfl,rfl⟩
  ·exact F.5 b y f q ⟨j,y',g,w,z.old l⟩
  ·exact c7 (n _ z.new).2 q)
 (λj l l'=>by
  rw[aq]at l'
  rcases a9 j H'.length with i|i
  ·rw[(lp i).1];exact F.6 j l i
  ·rw[show(k'.add H'.length a d).ι j=a from if_pos (bR (bE l') i)];exact n _ (.inl rfl))
 (λb y x q=>by obtain⟨y',q,t⟩:=F.7 b y x q;exact⟨y',e _ _ q,t⟩)
theorem VR.new (l:H.length=n):VR c (k.add n a d) (H++[o]) h (.ref n) (.ref a):=⟨by rw[aq,l];exact bW _,congrArg Value.ref (if_pos rfl).symm⟩
end
end
section
structure Tb where
 st:List Str
 at_:List Str
 gi:List (Str×Int)
 fn:List Str
 cn:List Str
 rk:List Nat
 P:Pg
section
variable {α β γ δ:Type}
noncomputable def z2 (_:α) (_:β):=false
noncomputable def z3 (_:α) (_:β) (_:γ):=false
noncomputable def z4 (_:α) (_:β) (_:γ) (_:δ):=false
theorem Z2 {P:α->β->Prop} x y (h:z2 x y=true):P x y:=ff h
theorem Z3 {P:α->β->γ->Prop} x y z (h:z3 x y z=true):P x y z:=ff h
theorem Z4 {P:α->β->γ->δ->Prop} x y z w (h:z4 x y z w=true):P x y z w:=ff h
noncomputable def pick (n:Str->Pos->Bool) (b:Expr->Operator->Expr->Pos->Bool) (u:UnaryOp->Expr->Pos->Bool) (c:Expr->List CmpOp->List Expr->Pos->Bool) (o:BoolOp->List Expr->Pos->Bool) (i:Expr->Expr->Expr->Pos->Bool)
  (l:List Expr->Pos->Bool) (t:List Expr->Nat->Pos->Bool) (d:List (Option Expr)->List Expr->Pos->Bool) (m:Expr->List Comprehension->Scope->Pos->Bool) (s:Expr->Expr->Pos->Bool)
  (r:Option Expr->Option Expr->Option Expr->Pos->Bool) (a:Expr->Str->Pos->Bool) (f:Expr->List Expr->List Keyword->Pos->Bool) (k:Const->Nat->Pos->Bool):Expr->Bool
 | .Name x y=>n x y
 | .BinOp x y z w=>b x y z w
 | .UnaryOp x y z=>u x y z
 | .Compare x y z w=>c x y z w
 | .BoolOp x y z=>o x y z
 | .IfExp x y z w=>i x y z w
 | .List x y=>l x y
 | .Tuple x y z=>t x y z
 | .Dict x y z=>d x y z
 | .ListComp x y z w=>m x y z w
 | .Subscript x y z=>s x y z
 | .Slice x y z w=>r x y z w
 | .Attribute x y z=>a x y z
 | .Call x y z w=>f x y z w
 | .Constant x y z=>k x y z
 |_=>false
theorem dF {P:Expr->Prop} {n b u c o i l t d m s r a f k}:∀{e},pick n b u c o i l t d m s r a f k e=true->(∀x y,n x y=true->P (.Name x y))->(∀x y z w,b x y z w=true->P (.BinOp x y z w))->(∀x y z,u x y z=true->P (.UnaryOp x y z))->
  (∀x y z w,c x y z w=true->P (.Compare x y z w))->(∀x y z,o x y z=true->P (.BoolOp x y z))->(∀x y z w,i x y z w=true->P (.IfExp x y z w))->(∀x y,l x y=true->P (.List x y))->(∀x y z,t x y z=true->P (.Tuple x y z))->(∀x y z,d x y z=true->P (.Dict x y z))->
  (∀x y z w,m x y z w=true->P (.ListComp x y z w))->(∀x y z,s x y z=true->P (.Subscript x y z))->(∀x y z w,r x y z w=true->P (.Slice x y z w))->(∀x y z,a x y z=true->P (.Attribute x y z))->(∀x y z w,f x y z w=true->P (.Call x y z w))->
  (∀x y z,k x y z=true->P (.Constant x y z))->P e:=by
 intro e h n b u c o i l t d m s r a f k
 cases e<;>first|exact n _ _ h|exact b _ _ _ _ h|exact u _ _ _ h|exact c _ _ _ _ h|exact o _ _ _ h|exact i _ _ _ _ h|exact l _ _ h|exact t _ _ _ h|exact d _ _ _ h|exact m _ _ _ _ h|exact s _ _ _ h|exact r _ _ _ _ h|exact a _ _ _ h|exact f _ _ _ _ h|exact k _ _ _ h|exact ff h
variable {P:Expr->Prop} {e:Expr}
theorem anyE {o:Option α} {f:α->Bool} {P:Prop} (h:o.any f=true) (k:∀t,f t=true->P):P:=by
 cases o with
 |none=>exact ff h
 |some t=>exact k t h
theorem cI {a b:Bool} (h:(a&&b)=true):a=true∧b=true:=gz.mp h
theorem iW {a b:Bool} {P:Prop} (h:(a&&b)=true) (k:a=true->b=true->P):P:=k (cI h).1 (cI h).2
theorem i7 {a b c:Bool} {P:Prop} (h:(a&&(b&&c))=true) (k:a=true->b=true->c=true->P):P:=iW h λh1 h=>iW h (k h1)
theorem oV {a b c d:Bool} {P:Prop} (h:(a&&(b&&(c&&d)))=true) (k:a=true->b=true->c=true->d=true->P):P:=iW h λh1 h=>i7 h (k h1)
theorem vd {a b c d e:Bool} {P:Prop} (h:(a&&(b&&(c&&(d&&e))))=true) (k:a=true->b=true->c=true->d=true->e=true->P):P:=iW h λh1 h=>oV h (k h1)
theorem cJ [BEq α] [LawfulBEq α] {a b:α} (h:(a==b)=true):a=b:=beq_iff_eq.mp h
theorem sN {a:Bool} (h:(!a)=true):a=false:=iP a▸h
noncomputable def w1 (f:α->Bool):List α->Bool
 |[x]=>f x
 |_=>false
noncomputable def w2 (f:α->α->Bool):List α->Bool
 |[x,y]=>f x y
 |_=>false
noncomputable def zB (f:α->List α->Bool):List α->Bool
 |x::y=>f x y
 |_=>false
theorem K6 {P:List α->Prop} {f:α->Bool}:∀{l},w1 f l=true->(∀x,f x=true->P [x])->P l
 |[_],h,k=>k _ h
theorem K7 {P:List α->Prop} {f:α->α->Bool}:∀{l},w2 f l=true->(∀x y,f x y=true->P [x,y])->P l
 |[_,_],h,k=>k _ _ h
theorem sO {P:List α->Prop} {f:α->List α->Bool}:∀{l},zB f l=true->(∀x y,f x y=true->P (x::y))->P l
 |_::_,h,k=>k _ _ h
theorem sP {P:List α->Prop}:∀{l},l.isEmpty=true->P []->P l
 |[],_,k=>k
noncomputable def uF (f:Str->Bool):=pick (λx _=>f x) z4 z3 z4 z3 z4 z2 z3 z3 z4 z3 z4 z3 z4 z3
theorem pJ {f} (h:uF f e=true) (k:∀x p,f x=true->P (.Name x p)):P e:=dF h k Z4 Z3 Z4 Z3 Z4 Z2 Z3 Z3 Z4 Z3 Z4 Z3 Z4 Z3
noncomputable def LH (f:Expr->Operator->Expr->Bool):=pick z2 (λx y z _=>f x y z) z3 z4 z3 z4 z2 z3 z3 z4 z3 z4 z3 z4 z3
theorem HY {f} (h:LH f e=true) (k:∀x y z p,f x y z=true->P (.BinOp x y z p)):P e:=dF h Z2 k Z3 Z4 Z3 Z4 Z2 Z3 Z3 Z4 Z3 Z4 Z3 Z4 Z3
noncomputable def LJ (f:UnaryOp->Expr->Bool):=pick z2 z4 (λx y _=>f x y) z4 z3 z4 z2 z3 z3 z4 z3 z4 z3 z4 z3
theorem Cd {f} (h:LJ f e=true) (k:∀x y p,f x y=true->P (.UnaryOp x y p)):P e:=dF h Z2 Z4 k Z4 Z3 Z4 Z2 Z3 Z3 Z4 Z3 Z4 Z3 Z4 Z3
noncomputable def LM (f:Expr->CmpOp->Expr->Bool):=pick z2 z4 z3 (λx o y _=>w1 (λo=>w1 (f x o) y) o) z3 z4 z2 z3 z3 z4 z3 z4 z3 z4 z3
theorem HZ {f} (h:LM f e=true) (k:∀x o y p,f x o y=true->P (.Compare x [o] [y] p)):P e:=dF h Z2 Z4 Z3 (λx o y p h=>K6 (P:=λo=>P (.Compare x o y p)) h λo h=>K6 (P:=λy=>P (.Compare x [o] y p)) h λy=>k x o y p) Z3 Z4 Z2 Z3 Z3 Z4 Z3 Z4 Z3 Z4 Z3
noncomputable def H_ (f:Expr->CmpOp->CmpOp->Expr->Expr->Bool):=pick z2 z4 z3 (λx o y _=>w2 (λo o1=>w2 (f x o o1) y) o) z3 z4 z2 z3 z3 z4 z3 z4 z3 z4 z3
theorem I_ {f} (h:H_ f e=true) (k:∀x o o1 y z p,f x o o1 y z=true->P (.Compare x [o,o1] [y,z] p)):P e:=dF h Z2 Z4 Z3 (λx o y p h=>K7 (P:=λo=>P (.Compare x o y p)) h λo o1 h=>K7 (P:=λy=>P (.Compare x [o,o1] y p)) h λy z=>k x o o1 y z p) Z3 Z4 Z2 Z3 Z3 Z4 Z3 Z4 Z3 Z4 Z3
noncomputable def Ce (f:BoolOp->List Expr->Bool):=pick z2 z4 z3 z4 (λx y _=>f x y) z4 z2 z3 z3 z4 z3 z4 z3 z4 z3
theorem vf {f} (h:Ce f e=true) (k:∀x y p,f x y=true->P (.BoolOp x y p)):P e:=dF h Z2 Z4 Z3 Z4 k Z4 Z2 Z3 Z3 Z4 Z3 Z4 Z3 Z4 Z3
noncomputable def wIf (f:Expr->Expr->Expr->Bool):=pick z2 z4 z3 z4 z3 (λx y z _=>f x y z) z2 z3 z3 z4 z3 z4 z3 z4 z3
theorem LN {f} (h:wIf f e=true) (k:∀x y z p,f x y z=true->P (.IfExp x y z p)):P e:=dF h Z2 Z4 Z3 Z4 Z3 k Z2 Z3 Z3 Z4 Z3 Z4 Z3 Z4 Z3
noncomputable def Ia (f:List Expr->Bool):=pick z2 z4 z3 z4 z3 z4 (λx _=>f x) z3 z3 z4 z3 z4 z3 z4 z3
theorem Cf {f} (h:Ia f e=true) (k:∀x p,f x=true->P (.List x p)):P e:=dF h Z2 Z4 Z3 Z4 Z3 Z4 k Z3 Z3 Z4 Z3 Z4 Z3 Z4 Z3
noncomputable def Ja (f:List Expr->Bool):=pick z2 z4 z3 z4 z3 z4 z2 (λx _ _=>f x) z3 z4 z3 z4 z3 z4 z3
theorem Cg {f} (h:Ja f e=true) (k:∀x n p,f x=true->P (.Tuple x n p)):P e:=dF h Z2 Z4 Z3 Z4 Z3 Z4 Z2 k Z3 Z4 Z3 Z4 Z3 Z4 Z3
noncomputable def Ib:=pick z2 z4 z3 z4 z3 z4 z2 z3 (λx y _=>x.isEmpty&&y.isEmpty) z4 z3 z4 z3 z4 z3
theorem Ch (h:Ib e=true) (k:∀p,P (.Dict [] [] p)):P e:=dF h Z2 Z4 Z3 Z4 Z3 Z4 Z2 Z3 (λx y p h=>iW h λh g=>sP (P:=λx=>P (.Dict x y p)) h (sP (P:=λy=>P (.Dict [] y p)) g (k p))) Z4 Z3 Z4 Z3 Z4 Z3
noncomputable def Ic (f:Expr->Str->Expr->List Expr->Scope->Bool):=pick z2 z4 z3 z4 z3 z4 z2 z3 z3 (λy g s _=>w1 (λg=>uF (λx=>g.is_async==0&&f y x g.iter g.ifs s) g.target) g) z3 z4 z3 z4 z3
theorem Jb {y:Expr} {s:Scope} {f:Expr->Str->Expr->List Expr->Scope->Bool} {P:Comprehension->Prop}:∀{g:Comprehension},uF (λx=>g.is_async==0&&f y x g.iter g.ifs s) g.target=true->(∀x p i l,f y x i l s=true->P ⟨.Name x p,i,l,0⟩)->P g
 |⟨t,i,l,a⟩,h,k=>pJ (P:=λt=>P ⟨t,i,l,a⟩) h λx p h=>iW h λh1 h=>by
  cases(cJ h1:a=0)
  exact k x p i l h
theorem ye {f} (h:Ic f e=true) (k:∀y x p i l s q,f y x i l s=true->P (.ListComp y [⟨.Name x p,i,l,0⟩] s q)):P e:=dF h Z2 Z4 Z3 Z4 Z3 Z4 Z2 Z3 Z3 (λy g s q h=>K6 (P:=λg=>P (.ListComp y g s q)) h λg h=>Jb (P:=λg=>P (.ListComp y [g] s q)) h λx p i l=>k y x p i l s q) Z3 Z4 Z3 Z4 Z3
noncomputable def AK (f:Expr->Expr->Bool):=pick z2 z4 z3 z4 z3 z4 z2 z3 z3 z4 (λx y _=>f x y) z4 z3 z4 z3
theorem wq {f} (h:AK f e=true) (k:∀x y p,f x y=true->P (.Subscript x y p)):P e:=dF h Z2 Z4 Z3 Z4 Z3 Z4 Z2 Z3 Z3 Z4 k Z4 Z3 Z4 Z3
noncomputable def ue (f:α->Bool):Option α->Bool
 |some x=>f x
 |none=>false
theorem zE {P:Option α->Prop} {f:α->Bool}:∀{o},ue f o=true->(∀x,f x=true->P (some x))->P o
 |some _,h,k=>k _ h
theorem zF {P:Option α->Prop}:∀{o},o.isNone=true->P none->P o
 |none,_,k=>k
noncomputable def Id (f:Expr->Bool):=pick z2 z4 z3 z4 z3 z4 z2 z3 z3 z4 z3 (λx y z _=>ue (λy=>x.isNone&&(z.isNone&&f y)) y) z3 z4 z3
theorem Jc {f} (h:Id f e=true) (k:∀x p,f x=true->P (.Slice none (some x) none p)):P e:=
 dF h Z2 Z4 Z3 Z4 Z3 Z4 Z2 Z3 Z3 Z4 Z3 (λx y z p h=>zE (P:=λy=>P (.Slice x y z p)) h λy h=>i7 h λh1 h2 h=>zF (P:=λx=>P (.Slice x (some y) z p)) h1 (zF (P:=λz=>P (.Slice none (some y) z p)) h2 (k y p h))) Z3 Z4 Z3
noncomputable def Ie (f:Expr->Bool):=pick z2 z4 z3 z4 z3 z4 z2 z3 z3 z4 z3 (λx y z _=>ue (λx=>y.isNone&&(z.isNone&&f x)) x) z3 z4 z3
theorem Jd {f} (h:Ie f e=true) (k:∀x p,f x=true->P (.Slice (some x) none none p)):P e:=
 dF h Z2 Z4 Z3 Z4 Z3 Z4 Z2 Z3 Z3 Z4 Z3 (λx y z p h=>zE (P:=λx=>P (.Slice x y z p)) h λx h=>i7 h λh1 h2 h=>zF (P:=λy=>P (.Slice (some x) y z p)) h1 (zF (P:=λz=>P (.Slice (some x) none z p)) h2 (k x p h))) Z3 Z4 Z3
noncomputable def zG (f:Expr->Str->Pos->Bool):=pick z2 z4 z3 z4 z3 z4 z2 z3 z3 z4 z3 z4 f z4 z3
theorem vg {f} (h:zG f e=true) (k:∀x n p,f x n p=true->P (.Attribute x n p)):P e:=dF h Z2 Z4 Z3 Z4 Z3 Z4 Z2 Z3 Z3 Z4 Z3 Z4 k Z4 Z3
noncomputable def sQ (f:Str->List Expr->Bool):=pick z2 z4 z3 z4 z3 z4 z2 z3 z3 z4 z3 z4 z3 (λg l k _=>k.isEmpty&&uF (λx=>f x l) g) z3
theorem qT {f} (h:sQ f e=true) (k:∀x q l p,f x l=true->P (.Call (.Name x q) l [] p)):P e:=
 dF h Z2 Z4 Z3 Z4 Z3 Z4 Z2 Z3 Z3 Z4 Z3 Z4 Z3 (λg l w p h=>iW h λh1 h=>sP (P:=λw=>P (.Call g l w p)) h1 (pJ (P:=λg=>P (.Call g l [] p)) h λx q=>k x q l p)) Z3
noncomputable def zH (f:Expr->Str->List Expr->Bool):=pick z2 z4 z3 z4 z3 z4 z2 z3 z3 z4 z3 z4 z3 (λg l k p=>k.isEmpty&&zG (λx n q=>(q.endLine==p.line&&decide (l.length<20))&&f x n l) g) z3
theorem vh {f} (h:zH f e=true) (k:∀x n q l p,(q.endLine==p.line&&decide (l.length<20))=true->f x n l=true->P (.Call (.Attribute x n q) l [] p)):P e:=
 dF h Z2 Z4 Z3 Z4 Z3 Z4 Z2 Z3 Z3 Z4 Z3 Z4 Z3 (λg l w p h=>iW h λh1 h=>sP (P:=λw=>P (.Call g l w p)) h1 (vg (P:=λg=>P (.Call g l [] p)) h λx n q h=>iW h (k x n q l p))) Z3
noncomputable def gd (m r:Bool):=pick (λ_ _=>true) (λ_ _ _ _=>true) (λ_ _ _=>true) (λ_ _ _ _=>true) (λ_ _ _=>true) (λ_ _ _ _=>true) (λ_ _=>true) (λ_ _ _=>true) (λ_ _ _=>true) (λ_ _ _ _=>m) (λ_ _ _=>true) (λ_ _ _ _=>r) (λ_ _ _=>true) (λ_ _ _ _=>true) λ_ _ _=>true
noncomputable def mA:=pick z2 z4 z3 z4 z3 z4 z2 z3 z3 (λ_ _ _ _=>true) z3 z4 z3 z4 z3
noncomputable def eX:=pick (λ_ _=>true) (λ_ _ _ _=>true) (λ_ _ _=>true) (λ_ _ _ _=>true) (λ_ _ _=>true) (λ_ _ _ _=>true) (λ_ _=>true) (λ_ _ _=>true) (λ_ _ _=>true) (λ_ _ _ _=>true) (λ_ _ _=>true) (λ_ _ _ _=>true) (λ_ _ _=>true) (λg _ _ _=>pick (λx _=>x !="super") z4 z3 z4 z3 z4 z2 z3 z3 z4 z3 z4 (λ_ _ _=>true) z4 z3 g) λ_ _ _=>true
end
noncomputable def yf:Option NameKind->Bool
 |some .local|some .cell|some .free=>true
 |_=>false
noncomputable def qU (x:Str):Bool:=!(x==("__debug__":Str))&& !(x==("__classdict__":Str))
noncomputable def LO:LF->Operator
 | .add=>.Add| .sub=>.Sub| .mul=>.Mult| .fdiv=>.FloorDiv| .mod=>.Mod| .band=>.BitAnd| .bor=>.BitOr| .shl=>.LShift| .shr=>.RShift
noncomputable def Fs:B3->CmpOp
 | .eq=>.Eq| .ne=>.NotEq| .lt=>.Lt| .le=>.LtE| .gt=>.Gt| .ge=>.GtE| .is=>.Is| .yd=>.IsNot| .isin=>.In| .jJ=>.NotIn
noncomputable def nO (sc:Scope) (x:Str):Bool:=sc.names.lookup x==some .globalImplicit&&qU x
noncomputable def vj (op:CmpOp) (e:Expr):Bool:=!behindInMarks op e
section
variable(T:Tb)
noncomputable def sR (f:Const->Bool):=pick z2 z4 z3 z4 z3 z4 z2 z3 z3 z4 z3 z4 z3 z4 λc _ _=>f c
noncomputable def LP (sc:Scope):V->Expr->Bool
 | .none=>sR (· == .none)
 | .bool b=>sR (· == .bool b)
 | .int i=>pick (λx _=>nO sc x&&T.gi.lookup x==some i) z4 z3 z4 z3 z4 z2 z3 z3 z4 z3 z4 z3 z4 λc _ _=>c== .int i
 | .str n=>sR λc=>T.st[n]?.any λx=>c== .str x
 |_=>λ_=>false
noncomputable def wr (f r:Nat):Bool:=match T.rk[f]? with
 |some x=>decide (x<r)
 |none=>false
noncomputable def LQ (sc:Scope) (x:Str) (y:Str):Bool:=x==y&&nO sc x
noncomputable def Ci (sc:Scope) (y:Str) (f:Expr->Bool):=sQ λx l=>w1 (λa=>LQ sc x y&&(gd true true a&&f a)) l
theorem Cj {P:Expr->Prop} {e:Expr} {sc:Scope} {y:Str} {f:Expr->Bool} (h:Ci sc y f e=true) (k:∀q a p,nO sc y=true->gd true true a=true->f a=true->P (.Call (.Name y q) [a] [] p)):P e:=
 qT h λx q l p h=>K6 (P:=λl=>P (.Call (.Name x q) l [] p)) h λa h=>i7 h λh1 h2 h3=>iW h1 λh1 h=>by
  cases cJ h1
  exact k q a p h h2 h3
noncomputable def Ig (y:Str) (f:Expr->List Expr->Bool):=zH λx n l=>n==y&&(eX x&&f x l)
theorem yg {P:Expr->Prop} {e:Expr} {y:Str} {f:Expr->List Expr->Bool} (h:Ig y f e=true) (k:∀x q l p,(q.endLine==p.line&&decide (l.length<20))=true->eX x=true->f x l=true->P (.Call (.Attribute x y q) l [] p)):P e:=
 vh h λx n q l p g h=>i7 h λh1 h2 h3=>by
  cases cJ h1
  exact k x q l p g h2 h3
noncomputable def p_ (iZ sc:Scope):Scope:={iZ with names:=iZ.names.map fun(n,k)=>if(k== .free&&sc.kind== .function&&sc.names.lookup n==some .cell)then(n,.cell)else(n,k)}
noncomputable def vk (sc iZ:Scope) (nm:List Str) (x:Str):Bool:=iZ.kind== .function&&(qU x&&(iZ.names.lookup x==some .local&&
 iZ.names.all (λy=>(y.2 != .cell&&iZ.names.lookup y.1==some y.2)&&(y.2 != .free||(qU y.1&&((sc.names.lookup y.1==some .cell||sc.names.lookup y.1==some .free)&&nm.contains y.1))))))
noncomputable def ip (nm:List Str) (caps:List Nat):List Str:=caps.map λi=>nm.getD i Str.empty
noncomputable def sS (nm:List Str) (iZ:Scope) (x:Str) (caps:List Nat):Bool:=
 caps.all (λi=>match nm[i]? with|some n=>iZ.names.lookup n==some .free&&n !=x|none=>false)&&decide (ip nm caps).Nodup
noncomputable def Ck (f g:Expr->Bool) (x:Expr) (l:List Expr):Bool:=w1 (λu=>gd true true u&&(f x&&g u)) l
theorem zI {f g:Expr->Bool} {P:List Expr->Prop} {x:Expr} {l:List Expr} (h:Ck f g x l=true) (k:∀u,gd true true u=true->f x=true->g u=true->P [u]):P l:=K6 h λu h=>i7 h (k u)
mutual
noncomputable def gK (r:Nat) (sc:Scope) (nm:List Str):CE->Expr->Bool
 | .lit v=>LP T sc v
 | .var i=>uF λx=>nm[i]?==some x&&(yf (sc.names.lookup x)&&qU x)
 | .bin o a b=>LH λx p y=>p==LO o&&(gK r sc nm a x&&gK r sc nm b y)
 | .neg a=>LJ λo x=>o== .USub&&gK r sc nm a x
 | .inv a=>LJ λo x=>o== .Invert&&gK r sc nm a x
 | .not a=>LJ λo x=>o== .Not&&gK r sc nm a x
 | .cmp o a b=>LM λx p y=>p==Fs o&&(vj p y&&(gK r sc nm a x&&gK r sc nm b y))
 | .rV o o' a b d=>H_ λx p p' y z=>(p==Fs o&&(p'==Fs o'&&(vj p y&&vj p' z)))&&(gK r sc nm a x&&(gK r sc nm b y&&gK r sc nm d z))
 | .and l=>Ce λo x=>o== .And&&jp r sc nm l x
 | .or l=>Ce λo x=>o== .Or&&jp r sc nm l x
 | .ite a b d=>wIf λx y z=>gK r sc nm a x&&(gK r sc nm b y&&gK r sc nm d z)
 | .list l=>Ia (jp r sc nm l)
 | .tup l=>Ja (jp r sc nm l)
 | .iM _=>Ib
 | .comp caps elt it ifs=>Ic λy x i l s=>vk sc s nm x&&(sS nm s x caps&&(LR r sc nm it i&&(gK r (p_ s sc) (ip nm caps++[x]) elt y&&jp r (p_ s sc) (ip nm caps++[x]) ifs l)))
 | .idx a i=>AK λx y=>gd true false y&&(gK r sc nm a x&&gK r sc nm i y)
 | .sL a i=>AK λx y=>gK r sc nm a x&&Id (gK r sc nm i) y
 | .rF a i=>AK λx y=>gK r sc nm a x&&Ie (gK r sc nm i) y
 | .attr a f=>zG λx n _=>T.at_[f]?==some n&&(eX x&&gK r sc nm a x)
 | .call f l=>sQ λx y=>T.fn[f]?==some x&&(nO sc x&&(wr T f r&&jp r sc nm l y))
 | .new cl l=>sQ λx y=>T.cn[cl]?==some x&&(nO sc x&&((T.P.init cl).all (λf=>wr T f r)&&jp r sc nm l y))
 | .bA o m f l=>zH λx n y=>T.at_[m]?==some n&&(eX x&&(wr T f r&&(gK r sc nm o x&&jp r sc nm l y)))
 | .len a=>Ci sc "len" (gK r sc nm a)
 | .sorted a=>Ci sc "sorted" (gK r sc nm a)
 | .listOf a=>Ci sc "list" (gK r sc nm a)
 | .tupleOf a=>Ci sc "tuple" (gK r sc nm a)
 | .intOf a=>Ci sc "int" (gK r sc nm a)
 | .sum a=>Ci sc "sum" (gK r sc nm a)
 | .max a b=>sQ λx l=>LQ sc x "max"&&w2 (λu v=>gd true true u&&(gd true true v&&(gK r sc nm a u&&gK r sc nm b v))) l
 | .append o a=>Ig "append" (Ck (gK r sc nm o) (gK r sc nm a))
 | .extend o a=>Ig "extend" (Ck (gK r sc nm o) (gK r sc nm a))
 | .pop o=>Ig "pop" λx l=>l.isEmpty&&gK r sc nm o x
 | .u9 o a=>Ig "get" (Ck (gK r sc nm o) (gK r sc nm a))
 | .qP o a b=>Ig "get" λx l=>w2 (λu v=>gd true true u&&(gd true true v&&(gK r sc nm o x&&(gK r sc nm a u&&gK r sc nm b v)))) l
 | .u_ o a=>Ig "pop" (Ck (gK r sc nm o) (gK r sc nm a))
noncomputable def LR (r:Nat) (sc:Scope) (nm:List Str):CI->Expr->Bool
 | .ex a=>λe=>gd true true e&&gK r sc nm a e
 | .range a=>Ci sc "range" (gK r sc nm a)
 | .rev a=>Ci sc "reversed" (gK r sc nm a)
noncomputable def jp (r:Nat) (sc:Scope) (nm:List Str):mw->List Expr->Bool
 | .nil=>List.isEmpty
 | .cons a l=>zB λx xs=>gd true true x&&(gK r sc nm a x&&jp r sc nm l xs)
end
end
end
section
noncomputable def Sm (s s':Shared):Prop:=s'={s with heap:=s'.heap,toks:=s'.toks}
theorem Sm.refl (s:Shared):Sm s s:=rfl
theorem Sm.of (s:Shared) (h:Heap) (t:Nat):Sm s {s with heap:=h,toks:=t}:=rfl
theorem Sm.trans {s s' zJ:Shared} (x:Sm s s') (y:Sm s' zJ):Sm s zJ:=
 (Eq.trans (y:zJ=_) (congrArg (λz:Shared=>{z with heap:=zJ.heap,toks:=zJ.toks}) (x:s'=_)):zJ=_)
inductive c8 (c:Cx) (X:Addr->Prop) (k:Lk) (H:Hp) (s:Shared) (k':Lk) (H':Hp) (s':Shared):Prop
 |mk (sim:dz c k' H' s'.heap) (Ft:jy X k H s.heap k' H' s'.heap) (sm:Sm s s')
abbrev dy (c:Cx) (k:Lk) (H:Hp) (s:Shared) (k':Lk) (H':Hp) (s':Shared):Prop:=c8 c NX k H s k' H' s'
noncomputable def B4 (env:Env) (a:Addr):Prop:=a=env.locals∨∃n,env.cells.lookup n=some a
inductive uf (k:Lk) (H:Hp) (h:Heap) (a:Addr):Prop
 |mk (no:nK k H a) (lv:∃o,h.get? a=some o∧iO o)
inductive LS (c:Cx) (env:Env) (nm:List Str):Prop
 |mk (fn:env.scope.kind= .function) (gl:env.globals=mainGlobals) (bi:env.builtins=builtinsNs) (nd:nm.Nodup) (lup:c.hb.get? env.locals=none) (cup:∀n a,env.kindOf n=some .cell->env.cells.lookup n=some a->c.hb.get? a=none) (cap:∀n n' a,env.cells.lookup n=some a->env.cells.lookup n'=some a->n=n') (cne:∀n,env.cells.lookup n≠some env.locals)
inductive Loc (c:Cx) (k:Lk) (H:Hp) (h:Heap) (env:Env) (nm:List Str) (L:Lc):Prop
 |mk (st:LS c env nm) (len:L.length=nm.length) (fr:∀a,B4 env a->uf k H h a) (ns:∃m,h.Ns env.locals m∧∀(i:Nat) n x,nm[i]?=some n->L[i]?=some (some x)->env.kindOf n=some .local->∃v,m n=some v∧VR c k H h x v) (cell:∀(i:Nat) n,nm[i]?=some n->(env.kindOf n=some .cell∨env.kindOf n=some .free)->∃a ov,env.cells.lookup n=some a∧h.IsCell a ov∧∀x,L[i]?=some (some x)->∃v,ov=some v∧VR c k H h x v)
inductive B5 (A:Around) (r:Nat):Prop
 |mk (hd:A.handled=none) (dp:A.depth+3*r+20<recursionLimit) (un:A.units+40*r+200<cLine) (fr:∃l,A.frames=some l)
section
variable {c:Cx} {k k' HX:Lk} {H H' K4:Hp} {h h':Heap} {s s' zJ:Shared} {env:Env} {nm:List Str} {L:Lc} {X:Addr->Prop} {a:Addr} {y:V} {v:Value} {l:List V} {vs:List Value}
theorem nK.Ft (x:nK k H a) {o:Obj} (e:h.get? a=some o) (F:jy X k H h k' H' h'):nK k' H' a:=λj y q z=>by
 rcases z with rfl|⟨i,rfl⟩
 ·rcases a9 j H.length with l|l
  ·rw[(F.2 j l).1]at x;exact x.im l rfl
  ·exact c7 (F.6 j l (j0 q)).2 e
 ·exact F.5 _ _ x.ow e ⟨j,y,q,by cases y<;>first|rfl|exact ff i,.inr ⟨i,rfl⟩⟩
theorem uf.Ft (x:uf k H h a) (F:jy X k H h k' H' h'):uf k' H' h' a:=by
 obtain⟨p,o,e,t⟩:=x
 refine⟨p.Ft e F,?_⟩
 by_cases n:X a
 ·obtain⟨o',e',t'⟩:=F.7 a o n e;exact⟨o',e',t' t⟩
 ·exact⟨o,F.3 _ _ p.ow n e,t⟩
theorem qb {m:Option Value} (n:h.IsCell a m) (g:∀o,h.get? a=some o->h'.get? a=some o):h'.IsCell a m:=by
 obtain⟨o,q,r⟩:=n;exact⟨o,g _ q,r⟩
theorem Loc.mv (x:Loc c k H h env nm L) (f:∀a,B4 env a->uf k H h a->uf k' H' h' a) (g:∀a o,B4 env a->h.get? a=some o->h'.get? a=some o) (m:Mw k H h k' H' h'):Loc c k' H' h' env nm L:=.mk
 (x.1)
 (x.2)
 (λa p=>f a p (x.3 a p))
 (x.4.elim λm' z=>⟨m',z.1.at λ_=>g _ _ (.inl rfl),λi n y a b d=>(z.2 i n y a b d).elim λv z=>⟨v,z.1,z.2.mono m⟩⟩)
 (λi n a b=>(x.5 i n a b).elim λy z=>z.elim λov z=>⟨y,ov,z.1,qb z.2.1 λ_=>g _ _ (.inr ⟨n,z.1⟩),λu e=>(z.2.2 u e).elim λv z=>⟨v,z.1,z.2.mono m⟩⟩)
theorem dy.mv (W:dy c k H s k' H' s') (S:dz c k H s.heap):Mw k H s.heap k' H' s'.heap:=W.2.mv S λ_ _ _ x=>x.elim
theorem dy.loc (W:dy c k H s k' H' s') (S:dz c k H s.heap) (x:Loc c k H s.heap env nm L):Loc c k' H' s'.heap env nm L:=
 x.mv (λ_ _ y=>y.Ft W.2) (λ_ _ p e=>W.2.3 _ _ (x.3 _ p).1.ow id e) (W.mv S)
theorem c8.refl (S:dz c k H s.heap):c8 c X k H s k H s:=⟨S,.refl,rfl⟩
theorem dy.tok (S:dz c k H s.heap) (t:Nat):dy c k H s k H {s with toks:=t}:=⟨S,.refl,rfl⟩
theorem c8.trans (x:c8 c X k H s k' H' s') (y:c8 c X k' H' s' HX K4 zJ):c8 c X k H s HX K4 zJ:=⟨y.1,x.2.trans y.2,x.3.trans y.3⟩
theorem dy.toks (x:dy c k H s k' H' s') (t:Nat):dy c k H s k' H' {s' with toks:=t}:=x.trans (dy.tok x.1 t)
theorem dy.vr (S:dz c k H s.heap) (x:dy c k H s k' H' s') (r:VR c k H s.heap y v):VR c k' H' s'.heap y v:=r.mono (x.mv S)
theorem dy.OQ (S:dz c k H s.heap) (x:dy c k H s k' H' s') (r:eJ c k H s.heap l vs):eJ c k' H' s'.heap l vs:=r.mono (x.mv S)
theorem dy.keeps (S:dz c k H s.heap) {t:Nat} (e:∀b o,s.heap.get? b=some o->h'.get? b=some o):dy c k H s k H {s with heap:=h',toks:=t}:=⟨S.keeps e,.keeps (λb o _=>e b o) (λ_ _ x=>x.elim),rfl⟩
theorem dy.zK (S:dz c k H s.heap) (o:Obj) (t:Nat):dy c k H s k H {s with heap:=s.heap.push o,toks:=t}:=dy.keeps S λb y e=>Heap.get?_push_of_some _ e
end
noncomputable def zL (K:Frag) (C:Addr) (x:Str) (isM:Bool):Bool:=isM||match findIn K (.ref C) x with
 |some a=>noGet K a&&(takerIn K C x==some none)
 |none=>false
inductive nL (c:Cx) (T:Tb):Prop
 |mk (st:∀n x,T.st[n]?=some x->c.G.st n=some x) (stInj:T.st.Nodup) (stOk:∀n x,c.G.st n=some x->(PyData.str x).canLay0=true) (stAll:∀n x,c.G.st n=some x->T.st[n]?=some x) (at_:∀n,c.G.at_ n=T.at_[n]?) (atInj:T.at_.Nodup) (cls:∀a,a<c.G.HW->∀n x,T.at_[n]?=some x->zL c.K (c.G.cl a) x (T.P.xT a n).isSome=true) (icl:∀a,a<c.G.HW->plainGet c.K (c.G.cl a) ""=true∧hasDictIn c.K (c.G.cl a)=true∧plainOver c.K (c.G.cl a)=true∧findIn c.K (.ref (c.G.cl a)) "__setattr__"=some (some (.builtin "object.__setattr__"))) (xT:∀a n f,T.P.xT a n=some f->∀x,T.at_[n]?=some x->findIn c.K (.ref (c.G.cl a)) x=some (some (.ref (c.G.fa f)))∧isFn c.K (.ref (c.G.fa f))=true∧keepIn c.K (.ref (c.G.fa f))=true) (gi:∀x i,T.gi.lookup x=some i->∃t,c.mg x=some (.int i t)) (fn:∀f x,T.fn[f]?=some x->c.mg x=some (.ref (c.G.fa f))) (keep:∀f x,T.fn[f]?=some x->keepIn c.K (.ref (c.G.fa f))=true) (cn:∀a x,T.cn[a]?=some x->c.mg x=some (.ref (c.G.cl a))∧keepIn c.K (.ref (c.G.cl a))=true∧makesIn c.K (c.G.cl a)=true∧a<c.G.HW) (bi:∀x∈([("len":Str),"sorted","list","tuple","int","sum","max","range","reversed","super"]),c.mg x=none)
inductive St (c:Cx) (A:Around) (r:Nat) (k:Lk) (H:Hp) (s:Shared) (env:Env) (nm:List Str) (L:Lc):Prop
 |mk (aok:B5 A r) (sim:dz c k H s.heap) (loc:Loc c k H s.heap env nm L)
theorem St.go {c:Cx} {A:Around} {r:Nat} {k k':Lk} {H H':Hp} {s s':Shared} {env:Env} {nm:List Str} {L:Lc} (S:St c A r k H s env nm L) (W:dy c k H s k' H' s'):St c A r k' H' s' env nm L:=⟨S.1,W.1,W.loc S.2 S.3⟩
abbrev Md (c:Cx):Model:=model c.prog c.w
section
variable(c:Cx) (T:Tb)
noncomputable def b_ (e:CE) (L:Lc) (H:Hp) (v:V) (H':Hp):Prop:=
 ∀{A:Around} {r:Nat} {env:Env} {nm:List Str} {pe:Expr} {k:Lk} {s:Shared} {Q:Value->Shared->Prop} {E:Value->Shared->Prop},St c A r k H s env nm L->
  gK T r env.scope nm e pe=true->(∀k' s' v',dy c k H s k' H' s'->VR c k' H' s'.heap v v'->Q v' s')->wpAny (Md c) A (eval pe env) Q E s
noncomputable def nP (l:mw) (L:Lc) (H:Hp) (vs:List V) (H':Hp):Prop:=
 ∀{A:Around} {r:Nat} {env:Env} {nm:List Str} {pos:Pos} {kM:List Expr} {k:Lk} {s:Shared} {Q:List Value->Shared->Prop} {E:Value->Shared->Prop},St c A r k H s env nm L->
  jp T r env.scope nm l kM=true->(∀k' s' Je,dy c k H s k' H' s'->eJ c k' H' s'.heap vs Je->Q Je s')->wpAny (Md c) A (spliced (backTo pos (starEach kM env))) Q E s
noncomputable def lq (e:CE) (L:Lc) (H:Hp) (b:Bool) (H':Hp):Prop:=
 ∀{A:Around} {r:Nat} {env:Env} {nm:List Str} {pe:Expr} {k:Lk} {s:Shared} {Q:Bool->Shared->Prop} {E:Value->Shared->Prop},St c A r k H s env nm L->
  gK T r env.scope nm e pe=true->(∀k' s',dy c k H s k' H' s'->Q b s')->wpAny (Md c) A (isTrue pe env (eval pe env)) Q E s
noncomputable def iC (op:BoolOp) (l:mw) (L:Lc) (H:Hp) (b:Bool) (H':Hp):Prop:=
 ∀{A:Around} {r:Nat} {env:Env} {nm:List Str} {kM:List Expr} {k:Lk} {s:Shared} {Q:Bool->Shared->Prop} {E:Value->Shared->Prop},St c A r k H s env nm L->
  jp T r env.scope nm l kM=true->(∀k' s',dy c k H s k' H' s'->Q b s')->wpAny (Md c) A (allTrue op kM env) Q E s
noncomputable def wu (op:BoolOp) (l:mw) (L:Lc) (H:Hp) (v:V) (H':Hp):Prop:=
 ∀{A:Around} {r:Nat} {env:Env} {nm:List Str} {pos:Pos} {kM:List Expr} {k:Lk} {s:Shared} {Q:Value->Shared->Prop} {E:Value->Shared->Prop},St c A r k H s env nm L->
  jp T r env.scope nm l kM=true->(∀k' s' v',dy c k H s k' H' s'->VR c k' H' s'.heap v v'->Q v' s')->wpAny (Md c) A (boolOp pos op (evalEach kM env)) Q E s
end
section
variable {c:Cx} {T:Tb} {L:Lc} {H H1 H2 H3 H':Hp} {e a b d:CE} {l:mw} {v u:V} {r:Nat} {sc:Scope} {nm:List Str} {pe:Expr}
theorem AL {P:Prop}:∀{o:Option NameKind},yf o=true->(o=some .local->P)->(o=some .cell∨o=some .free->P)->P
 |some .local,_,k,_=>k rfl
 |some .cell,_,_,g=>g (.inl rfl)
 |some .free,_,_,g=>g (.inr rfl)
theorem qc {x:Str} (q:qU x=true):(x==("__debug__":Str))=false∧(x==("__classdict__":Str))=false:=⟨sN (cI q).1,sN (cI q).2⟩
theorem Loc.ld {k:Lk} {s:Shared} {env:Env} {A:Around} {Q:Value->Shared->Prop} {E:Value->Shared->Prop} {x:Str} {i:Nat} (X:Loc c k H s.heap env nm L) (hx:nm[i]?=some x) (hk:yf (env.scope.names.lookup x)=true)
  (hn:qU x=true) (hl:L[i]?=some (some v)) (h:∀v',VR c k H s.heap v v'->Q v' s):wpAny (Md c) A (loadName env x) Q E s:=by
 refine AL hk (λz=>?_) λz=>?_
 ·obtain⟨_,ns,w⟩:=X.4
  obtain⟨_,p,q⟩:=w i x v hx hl z
  exact wpAny_loadName_local X.1.1 z ns p (h _ q)
 ·obtain⟨_,_,p,q,w⟩:=X.5 i x hx z
  obtain⟨_,e,q'⟩:=w v hl
  rw[e]at q
  exact z.elim (λz=>wpAny_loadName_cell X.1.1 z p q (h _ q')) λz=>wpAny_loadName_free X.1.1 z p q (h _ q') (qc hn).2
theorem FO {i:Nat} (hl:L[i]?=some (some v)):b_ c T (.var i) L H v H:=by
 intro A r env nm pe k s Q E S ok h
 apply pJ ok λx p ok=>i7 ok λh1 h2 h3=>?_
 exact wpAny_Name (S.3.ld (cJ h1) h2 h3 hl λv'=>h _ _ _ (c8.refl S.2)) (qc h3).1
theorem Loc.glob {k:Lk} {s:Shared} {env:Env} {A:Around} {Q:Value->Shared->Prop} {E:Value->Shared->Prop} {x:Str} {pos:Pos} {v:Value} (X:Loc c k H s.heap env nm L) (S:dz c k H s.heap) (hg:nO env.scope x=true) (hm:c.mg x=some v) (h:Q v s):
  wpAny (Md c) A (eval (.Name x pos) env) Q E s:=
 Name_function_global X.1.1 (cJ (cI hg).1) (loadGlobal_global (mg:=c.mg) (X.1.2▸c.T.g.keeps S.1) hm h) (qc (cI hg).2).1
theorem Loc.Ih {k:Lk} {s:Shared} {env:Env} {A:Around} {Q:Value->Shared->Prop} {E:Value->Shared->Prop} {x:Str} {pos:Pos} {v:Value} (X:Loc c k H s.heap env nm L) (S:dz c k H s.heap) (hg:nO env.scope x=true) (hm:c.mg x=none)
  (hb:bootBuiltins x=some v) (hx:x≠"__name__") (h:Q v s):wpAny (Md c) A (eval (.Name x pos) env) Q E s:=
 Name_function_global X.1.1 (cJ (cI hg).1) (loadGlobal_builtin (mg:=c.mg) (mb:=c.mb) (X.1.2▸c.T.g.keeps S.1) hm (X.1.3▸c.T.b.keeps S.1) ((c.T.builtins x hx).trans hb) h) (qc (cI hg).2).1
theorem su {P:Expr->Prop} {f:Const->Bool} (h:sR f pe=true) (k:∀x y z,f x=true->P (.Constant x y z)):P pe:=dF h Z2 Z4 Z3 Z4 Z3 Z4 Z2 Z3 Z3 Z4 Z3 Z4 Z3 Z4 k
theorem FP (TO:nL c T):b_ c T (.lit v) L H v H:=by
 intro A r env nm pe k s Q E S ok h
 cases v with
 |none=>apply su ok λx y z e=>?_;cases cJ e;exact wpAny_Constant_none (h _ _ _ (c8.refl S.2) rfl)
 |bool b=>apply su ok λx y z e=>?_;cases cJ e;exact wpAny_Constant_bool (h _ _ _ (c8.refl S.2) rfl)
 |int i=>
  apply dF ok (λx p ok=>?_) Z4 Z3 Z4 Z3 Z4 Z2 Z3 Z3 Z4 Z3 Z4 Z3 Z4 λx y z e=>?_
  ·obtain⟨t,ht⟩:=TO.10 _ _ (cJ (cI ok).2)
   exact S.3.glob S.2 (cI ok).1 ht (h _ _ _ (c8.refl S.2) ⟨t,rfl⟩)
  ·cases cJ e;exact wpAny_Constant_int (h _ _ _ (dy.tok S.2 _) ⟨_,rfl⟩)
 |str n=>
  apply su ok λx y z (e:(T.st[n]?.any λy=>x== .str y)=true)=>?_
  cases q:T.st[n]? with
  |none=>rw[q]at e;exact ff e
  |some w=>rw[q]at e;cases cJ e;exact wpAny_Constant_str (h _ _ _ (dy.tok S.2 _) ⟨_,_,TO.1 _ _ q,rfl⟩)
 |_=>exact ff ok
end
end
section
section
variable {c:Cx} {X:Addr->Prop} {H H' H0:Hp} {k k' k0:Lk} {s s' s0:Shared} {A:Around} {E:Value->Shared->Prop} {h h':Heap} {v:Value} {o:O} {a d:Addr}
theorem gj:sizeLine=SZ:=sizeLine_eq
theorem NY {vs:List Value} {e:Nat} {h:Heap} {a:Addr} (x:h.get? a=some (lN vs e)):IsL h a vs.toArray e:=x
theorem dz.nQ {h:Heap} (S:dz c k H h) {h':Heap} (ek:∀b o,h.get? b=some o->h'.get? b=some o):h'.objs.size≠sysModules:=by
 obtain⟨o,es,ep,q,_⟩:=c.T.g
 have:mainGlobals<h'.objs.size:=Heap.lt_size (ek _ _ (S.1 _ _ q))
 intro z
 rw[z]at this
 exact absurd this (by decide)
theorem iq (h:Heap):h.get? h.objs.size=none:=by
 cases z:h.get? h.objs.size with
 |none=>rfl
 |some o=>exact absurd (Heap.lt_size z) (dU _)
theorem c8.add {t:Nat} (W:c8 c X k0 H0 s0 k H s) (S:dz c k0 H0 s0.heap) (e:∀b y,s.heap.get? b=some y->h'.get? b=some y) (n:∀b,b=a∨(o.dO=true∧b=d)->s0.heap.get? b=none∧nK k H b∧b≠sysModules) (x:OR c (k.add H.length a d) (H++[o]) h' H.length o):
  c8 c X k0 H0 s0 (k.add H.length a d) (H++[o]) {s with heap:=h',toks:=t}:=
 ⟨W.1.add e (λb z=>⟨(n b z).2.1,S.FN (n b z).1,(n b z).2.2⟩) x,W.2.add e λb z=>⟨(S.xU (n b z).1).ow,(n b z).1⟩,W.3.trans rfl⟩
theorem dy.new {t:Nat} (S:dz c k H s.heap) (i:o.dO=false) (e:∀b y,s.heap.get? b=some y->h'.get? b=some y) (ha:s.heap.get? a=none) (hy:a≠sysModules) (x:OR c (k.add H.length a a) (H++[o]) h' H.length o):
  dy c k H s (k.add H.length a a) (H++[o]) {s with heap:=h',toks:=t}∧VR c (k.add H.length a a) (H++[o]) h' (.ref H.length) (.ref a):=
 ⟨(c8.refl S).add S e (λb z=>z.elim (λz=>z▸⟨ha,S.xU ha,hy⟩) λz=>ff (i▸z.1)) x,.new rfl⟩
theorem OR.lst {l:List V} {vs:List Value} {e n:Nat} (z:l.length≤SZ) (R:eJ c k H h l vs) (m:Mw k H h (k.add n a d) H' h') (g:h'.get? a=some (lN vs e)):OR c (k.add n a d) H' h' n (.list l):=⟨z,vs,e,(congrArg h'.get? (if_pos rfl)).trans g,R.mono m⟩
theorem dy.list (S:dz c k H s.heap) {l:List V} {vs:List Value} (R:eJ c k H s.heap l vs) (z:l.length≤SZ) {t e:Nat} (ha:s.heap.get? a=none) (hy:a≠sysModules) (ho:h'.get? a=some (lN vs e)) (ek:∀b o,s.heap.get? b=some o->h'.get? b=some o):
  dy c k H s (k.add H.length a a) (H++[.list l]) {s with heap:=h',toks:=t}∧VR c (k.add H.length a a) (H++[O.list l]) h' (.ref H.length) (.ref a):=dy.new S rfl ek ha hy (.lst z R (.add ek) ho)
theorem dy.list1 (S:dz c k H s.heap) {l:List V} {vs:List Value} (R:eJ c k H s.heap l vs) (z:l.length≤SZ) (t:Nat):dy c k H s (k.add H.length s.heap.objs.size s.heap.objs.size) (H++[.list l]) {s with heap:=s.heap.push (lN vs 0),toks:=t}∧
  VR c (k.add H.length s.heap.objs.size s.heap.objs.size) (H++[O.list l]) (s.heap.push (lN vs 0)) (.ref H.length) (.ref s.heap.objs.size):=
 dy.list S R z (iq _) (S.nQ λ_ _ e=>e) (Heap.get?_push_size _ rfl) λb o e=>Heap.get?_push_of_some _ e
theorem dz.list (S:dz c k H h) {j:Nat} {l:List V} (g:H[j]?=some (.list l)):∃vs e,h.get? (k.ι j)=some (lN vs e)∧eJ c k H h l vs:=(S.2 j _ g).2
theorem dz.Ii (S:dz c k H h) {j:Nat} {l:List V} (g:H[j]?=some (.list l)):l.length≤SZ:=(S.2 j _ g).1
theorem dz.kL (S:dz c k H h) {j:Nat} {l:List V} {P:Prop} (g:H[j]?=some (.list l)) (q:∀vs e,h.get? (k.ι j)=some (lN vs e)->eJ c k H h l vs->P):P:=(S.2 j _ g).2.elim λvs x=>x.elim λe x=>q vs e x.1 x.2
theorem LT {a b:Int} (ha:a.natAbs<2^64):IntMulOk a b:=.of_left (intBits_le ha)
theorem foldl_rep {α:Type} (v:α):∀(n:Nat) (acc:Array α),(List.foldl (λx1 x2=>x1++x2) acc (List.replicate n #[v]))=acc++(List.replicate n v).toArray
 |0,acc=>by simp
 |n+1,acc=>by rw[o7,jE,foldl_rep v n];apply Array.ext';simp[o7]
theorem bn (x:Int):Builtin.bitNot x= -x-1:=rfl
theorem yh (a b:Nat):Builtin.bitAnd (a:Int) (b:Int)=((a&&& b:Nat):Int):=by
 unfold Builtin.bitAnd
 rw[decide_eq_true (aS a),decide_eq_true (aS b)];simp
theorem AM (a b:Nat):Builtin.bitOr (a:Int) (b:Int)=((a|||b:Nat):Int):=by
 refine(show _=Builtin.bitNot (Builtin.bitAnd (Builtin.bitNot a) (Builtin.bitNot b)) from rfl).trans ?_
 rw[bn,bn,bn,Builtin.bitAnd]
 rw[decide_eq_false (by omega:¬(0:Int)≤ -(a:Int)-1),decide_eq_false (by omega:¬(0:Int)≤ -(b:Int)-1)]
 simp only[bn]
 have h1:∀n:Nat,(-(-(n:Int)-1)-1)=n:=λn=>by omega
 rw[h1,h1,h1];simp
theorem wv (a b:Nat):Builtin.bitAnd (a:Int) (-(b:Int)-1)=((a-(a&&& b):Nat):Int):=by
 unfold Builtin.bitAnd
 rw[decide_eq_true (aS a),decide_eq_false (by omega:¬(0:Int)≤ -(b:Int)-1)]
 simp only[bn]
 rw[show(-(-(b:Int)-1)-1)=b by omega]
 have:a&&& b≤a:=Nat.and_le_left
 simp;omega
theorem LU {n:Nat} (hn:n≤2^24):¬(!Builtin.List.listFitsIndex (n:Int))=true:=by simp[Builtin.List.listFitsIndex];omega
theorem zM {n:Nat} (hn:n≤2^24):¬Builtin.List.listTooLong n=true:=by simp[Builtin.List.listTooLong,sizeLine];omega
theorem FR {Q:Value->Shared->Prop} {l:Addr} {items:Array Value} {e:Nat} {x:Int} {t:Tok} (g:s.heap.get? l=some {cls:=.type "list",dict:=none,data:=.seq items e,slots:=#[]})
  (h1:¬(!Builtin.List.listFitsIndex x)=true) (h2:¬items.size*x.toNat>(2^63-1)/8) (h3:¬Builtin.List.listTooLong (items.size*x.toNat)=true)
  (h:Q (.ref s.heap.objs.size) {s with heap:=s.heap.push {cls:=.type "list",data:=.seq (List.foldl (λx1 x2=>x1++x2) #[] (List.replicate (if items.isEmpty=true then 0 else x.toNat) items))}}):wpAny (Md c) A (binaryOp .Mult (.ref l) (.int x t)) Q E s:=
 wpAny_binaryOp_repeat_ref (T:="list") (U:="int") (by decide) ⟨_,g,rfl⟩ (λs'=>typeIs_int s' x t) noFill_list_mul F.fills_int_mul F.slot_int_rmul repeat_list F.slot_int_index.lookup
  (call_meets F.slot_int_rmul (typeIs_int s x t) F.entry_int_rmul (F.args_int_rmul_2 _ _) (int___rmul___int_list x t l items e)
   ⟨g,rfl,⟨_,g,rfl⟩,call_meets F.slot_list_mul ⟨_,g,rfl⟩ F.entry_list_mul (F.args_list_mul_2 _ _) (AutoListH.list___mul___list_int_3 l items e x t h1 h2 h3) ⟨g,h⟩⟩)
theorem Cl {Q:Value->Shared->Prop} {l:Addr} {v:Value} {e n:Nat} {t:Tok} (hl:s.heap.get? l=some (lN [v] e)) (hn:n≤SZ)
  (h:Q (.ref s.heap.objs.size) {s with heap:=s.heap.push (lN (List.replicate n v) 0)}):wpAny (Md c) A (binaryOp .Mult (.ref l) (.int n t)) Q E s:=by
 have e1:(List.foldl (λx1 x2=>x1++x2) #[] (List.replicate (if(#[v]:Array Value).isEmpty=true then 0 else(n:Int).toNat) #[v]))=(List.replicate n v).toArray:=by
  rw[if_neg (by simp),foldl_rep];simp
 have h:Q (.ref s.heap.objs.size) {s with heap:=s.heap.push {cls:=.type "list",data:=.seq (List.replicate n v).toArray}}:=h
 rw[←e1]at h
 have hs:(#[v]:Array Value).size=1:=rfl
 have hz:n≤2^24:=by unfold SZ at hn;omega
 exact FR (items:=#[v]) hl (LU hz) (by rw[hs,Nat.one_mul,fY];omega) (by rw[hs,Nat.one_mul,fY];exact zM hz) h
theorem Cm {x:V} (R:VR c k H h x v):∀n,eJ c k H h (List.replicate n x) (List.replicate n v)
 |0=>rfl
 |n+1=>.cons R (Cm R n)
end
noncomputable def iX (o:LF) (x y:V) (H:Hp) (z:V) (H':Hp):Prop:=∀(c:Cx) (k:Lk) (s:Shared) (A:Around) (va vb:Value) (Q:Value->Shared->Prop) (E:Value->Shared->Prop),dz c k H s.heap->VR c k H s.heap x va->VR c k H s.heap y vb->
 (∀k' s' v',dy c k H s k' H' s'->VR c k' H' s'.heap z v'->Q v' s')->wpAny (Md c) A (binaryOp (LO o) va vb) Q E s
theorem iX.ii {o:LF} {i j r:Int} {H:Hp} (w:∀(c:Cx) (s:Shared) (A:Around) (t t':Tok) (Q:Value->Shared->Prop) (E:Value->Shared->Prop),Q (.int r s.toks) {s with toks:=s.toks+1}->wpAny (Md c) A (binaryOp (LO o) (.int i t) (.int j t')) Q E s):
  iX o (.int i) (.int j) H (.int r) H:=λc k s A va vb Q E S ra rb h=>
 ra.kI (P:=λva=>wpAny (Md c) A (binaryOp (LO o) va vb) Q E s) λt=>rb.kI (P:=λvb=>wpAny (Md c) A (binaryOp (LO o) (.int i t) vb) Q E s) λt'=>w c s A t t' Q E (h _ _ _ (dy.tok S _) (Fr ..))
theorem iX.add (a b:Int) (H:Hp):iX .add (.int a) (.int b) H (.int (a+b)) H:=.ii λ_ _ _ _ _ _ _ h=>P.add_int h
theorem iX.sub (a b:Int) (H:Hp):iX .sub (.int a) (.int b) H (.int (a-b)) H:=.ii λ_ _ _ _ _ _ _ h=>P.sub_int h
theorem iX.mul (a b:Int) (H:Hp) (ha:a.natAbs<2^64) (hb:b.natAbs<2^64):iX .mul (.int a) (.int b) H (.int (a*b)) H:=.ii λ_ _ _ _ _ _ _ h=>P.mul_int h (LT ha)
theorem iX.fdiv (a b:Int) (H:Hp) (hb:b.natAbs<1073741824) (h0:b≠0):iX .fdiv (.int a) (.int b) H (.int (a.fdiv b)) H:=.ii λ_ _ _ _ _ _ _ h=>floordiv_int h0 h (.inl (PyProof.noPylong_small hb))
theorem iX.mod (a b:Int) (H:Hp) (hb:b≠0):iX .mod (.int a) (.int b) H (.int (a.fmod b)) H:=.ii λ_ _ _ _ _ _ _ h=>mod_int' hb h
theorem iX.band (a b:Nat) (H:Hp):iX .band (.int a) (.int b) H (.int (a&&& b:Nat)) H:=.ii λ_ _ _ _ _ _ _ h=>and_int (by rw[yh];exact h)
theorem iX.LW (a b:Nat) (H:Hp):iX .band (.int a) (.int (-(b:Int)-1)) H (.int (a-(a&&& b):Nat)) H:=.ii λ_ _ _ _ _ _ _ h=>and_int (by rw[wv];exact h)
theorem iX.bor (a b:Nat) (H:Hp):iX .bor (.int a) (.int b) H (.int (a|||b:Nat)) H:=.ii λ_ _ _ _ _ _ _ h=>or_int (by rw[AM];exact h)
theorem iX.shl (a b:Nat) (H:Hp) (ha:a<2^64) (hb:b<2^16):iX .shl (.int a) (.int b) H (.int (a<<<b:Nat)) H:=.ii λ_ _ _ _ _ _ _ h=>
 lshift_int_small (aS b) (dR.mpr (aj (aI hb) (by decide))) ha (by rw[Nat.shiftLeft_eq,Int.natCast_mul,Int.natCast_pow]at h;exact h)
theorem iX.shr (a b:Nat) (H:Hp):iX .shr (.int a) (.int b) H (.int (a>>>b:Nat)) H:=.ii λ_ _ _ _ _ _ _ h=>rshift_int (aS b) (by
 rw[kH,Int.natCast_ediv,Int.natCast_pow]at h;rw[Int.fdiv_eq_ediv_of_nonneg _ (Int.pow_nonneg (by decide))];exact h)
theorem iX.cat {a b:Nat} {l r:List V} {H:Hp} (h:H[a]?=some (.list l)) (k:H[b]?=some (.list r)) (z:l.length+r.length≤SZ):iX .add (.ref a) (.ref b) H (.ref H.length) (H++[.list (l++r)]):=λc κ s A va vb Q E S ra rb q=>by
 apply ra.kR λ_=>?_
 apply rb.kR λ_=>?_
 refine S.kL h λvs e1 g1 R1=>S.kL k λus e2 g2 R2=>?_
 have W:=dy.list1 S (R1.append R2) (by rw[aq];exact z) s.toks
 exact P.add_list (NY g1) (NY g2) (by rw[o9];exact q _ _ _ W.1 W.2) (by rw[gj,bV,bV,←R1.length,←R2.length];exact z)
theorem iX.rep {a:Nat} {v:V} {n:Nat} {H:Hp} (h:H[a]?=some (.list [v])) (z:n≤SZ):iX .mul (.ref a) (.int n) H (.ref H.length) (H++[.list (List.replicate n v)]):=λc κ s A va vb Q E S ra rb q=>by
 apply ra.kR λ_=>?_
 apply rb.kI λ_=>?_
 refine S.kL h λvs e1 g1 R1=>?_
 obtain⟨v1,_,rfl,R1,rfl⟩:=R1
 have W:=dy.list1 S (Cm R1 n) (by rw[bZ];exact z) s.toks
 exact Cl g1 z (q _ _ _ W.1 W.2)
end
section
section
variable {c:Cx} {T:Tb} {H H':Hp} {h:Heap} {k:Lk} {s:Shared} {A:Around} {E:Value->Shared->Prop} {v va vb:Value} {x:V} {l:List V} {vs us:List Value}
theorem vm {α:Type} {l:List α} {i j:Nat} {x:α} (n:l.Nodup) (h:l[i]?=some x) (g:l[j]?=some x):i=j:=(cP (ah.mp h).1 n).mp (h.trans g.symm)
theorem LX (TO:nL c T) {a b:Nat} {x y:Str} (h:c.G.st a=some x) (h':c.G.st b=some y):(x==y)=(a==b):=by
 by_cases q:a=b
 ·subst q;cases h.symm.trans h';rw[beq_self_eq_true,beq_self_eq_true]
 ·rw[beq_false_of_ne q];exact beq_false_of_ne λz=>q (vm TO.2 (TO.4 _ _ h) (z▸TO.4 _ _ h'))
mutual
noncomputable def Ij (G:Nm):V->PyData
 | .none=>.none
 | .bool b=>.bool b
 | .int i=>.int i
 | .str n=>.str ((G.st n).getD Str.empty)
 | .tup l=>.tuple (qd G l)
 | .ref _=>.none
noncomputable def qd (G:Nm):List V->List PyData
 |[]=>[]
 |v::r=>Ij G v::qd G r
end
mutual
theorem qV (TO:nL c T):∀(x:V) (n:Nat) (v:Value),x.plain n=true->VR c k H h x v->Reads h v (Ij c.G x) []∧(Ij c.G x).canLay0=true∧(Ij c.G x).depth≤n
 | .none=>λ_ _ _ r=>r▸⟨.none,rfl,bw _⟩
 | .bool b=>λ_ _ _ r=>r▸⟨.bool _,rfl,bw _⟩
 | .int i=>λn _ _ r=>r.kI (P:=λv=>Reads h v (.int i) []∧true=true∧0≤n) λt=>⟨.int _ _,rfl,bw _⟩
 | .str m=>λn v _ r=>r.kS (P:=λv=>Reads h v (.str ((c.G.st m).getD Str.empty)) []∧(PyData.str ((c.G.st m).getD Str.empty)).canLay0=true∧0≤n) λx t q=>by
  rw[q];exact⟨.str _ _,TO.3 _ _ q,bw _⟩
 | .tup l=>λn v p r=>r.kT (P:=λv=>Reads h v (.tuple (qd c.G l)) []∧PyData.canLayAll0 (qd c.G l)=true∧PyData.depthAll (qd c.G l)+1≤n) λa vs e g r=>
  ⟨.tuple g rfl rfl (jS TO l _ vs (cI p).2 r).1,(jS TO l _ vs (cI p).2 r).2.1,Nat.add_le_of_le_sub (of_decide_eq_true (cI p).1) (jS TO l _ vs (cI p).2 r).2.2⟩
 | .ref _=>λ_ _ p _=>ff p
theorem jS (TO:nL c T):∀(l:List V) (n:Nat) (vs:List Value),lj l n=true->eJ c k H h l vs->ReadsAll h vs (qd c.G l) []∧PyData.canLayAll0 (qd c.G l)=true∧PyData.depthAll (qd c.G l)≤n
 |[]=>λ_ _ _ r=>r▸⟨.nil,rfl,bw _⟩
 |x::l=>λn vs p r=>r.cE (P:=λvs=>ReadsAll h vs (Ij c.G x::qd c.G l) []∧((Ij c.G x).canLay0&&PyData.canLayAll0 (qd c.G l))=true∧max (Ij c.G x).depth (PyData.depthAll (qd c.G l))≤n) λv vs r1 r2=>
  ⟨ReadsAll.cons (as:=[]) (bs:=[]) (qV TO x n v (cI p).1 r1).1 (jS TO l n vs (cI p).2 r2).1,gz.mpr ⟨(qV TO x n v (cI p).1 r1).2.1,(jS TO l n vs (cI p).2 r2).2.1⟩,Nat.max_le.mpr ⟨(qV TO x n v (cI p).1 r1).2.2,(jS TO l n vs (cI p).2 r2).2.2⟩⟩
end
theorem qe:∀(l:List Int) (n:Nat),lj (di l) n=true
 |[],_=>rfl
 |_::l,n=>qe l n
noncomputable def pyL (G:Nm) (l:List V):PyData:=.list (qd G l)
theorem LY {d:PyData} {n:Nat} (a:d.canLay0=true) (b:d.depth≤n) (z:n≤60):SeqAt.shaped d=true:=by
 unfold SeqAt.shaped;rw[a,jn];exact decide_eq_true (aj (aj b z) (by decide))
noncomputable def NZ (h:Heap) (v:Value) (d:PyData):Prop:=∃as,Reads h v d as∧SeqAt.shaped d=true
theorem Cn (TO:nL c T) (p:x.plain 1=true) (r:VR c k H h x v):NZ h v (Ij c.G x):=⟨[],(qV TO _ 1 _ p r).1,LY (qV TO _ 1 _ p r).2.1 (qV TO _ 1 _ p r).2.2 (by decide)⟩
theorem K8 (TO:nL c T) (S:dz c k H h) {j n:Nat} (g:H[j]?=some (.list l)) (p:lj l n=true) (z:n≤59) (r:VR c k H h (.ref j) v):NZ h v (pyL c.G l):=by
 apply r.kR λ_=>?_
 refine S.kL g λvs e g R=>?_
 exact⟨_,.list g rfl rfl (jS TO _ _ _ p R).1,LY (n:=n+1) (jS TO _ _ _ p R).2.1 (aM (jS TO _ _ _ p R).2.2) (aM z)⟩
theorem Co (G:Nm):∀l r:List Int,PyData.eqvAll (qd G (di l)) (qd G (di r))=(l==r)
 |[],[]=>rfl
 |[],_::_=>rfl
 |_::_,[]=>rfl
 |a::l,b::r=>congrArg ((a==b)&& ·) (Co G l r)
end
noncomputable def Eqv (H:Hp) (x y:V) (q:Bool):Prop:=∀(c:Cx) (T:Tb) (k:Lk) (h:Heap) (va vb:Value),nL c T->dz c k H h->VR c k H h x va->VR c k H h y vb->∃da db,NZ h va da∧NZ h vb db∧PyData.eqv da db=q
section
variable {H:Hp}
theorem Eqv.int (a b:Int):Eqv H (.int a) (.int b) (a==b):=λ_ _ _ _ _ _ t S ra rb=>⟨_,_,Cn t rfl ra,Cn t rfl rb,rfl⟩
theorem Eqv.none:Eqv H .none .none true:=λ_ _ _ _ _ _ t S ra rb=>⟨_,_,Cn t rfl ra,Cn t rfl rb,rfl⟩
theorem Eqv.bool (a b:Bool):Eqv H (.bool a) (.bool b) (a==b):=λ_ _ _ _ _ _ t S ra rb=>⟨_,_,Cn t rfl ra,Cn t rfl rb,rfl⟩
theorem Eqv.str (a b:Nat):Eqv H (.str a) (.str b) (a==b):=λ_ _ _ _ _ _ t S ra rb=>⟨_,_,Cn t rfl ra,Cn t rfl rb,ra.elim λx p=>rb.elim λy q=>p.elim λ_ p=>q.elim λ_ q=>by
 show(Option.getD _ _==Option.getD _ _)=_
 rw[p.1,q.1];exact LX t p.1 q.1⟩
theorem Eqv.none_str (b:Nat):Eqv H .none (.str b) false:=λ_ _ _ _ _ _ t S ra rb=>⟨_,_,Cn t rfl ra,Cn t rfl rb,rfl⟩
theorem Eqv.list_str {a:Nat} {l:List Int} (b:Nat) (h:H[a]?=some (.list (di l))):Eqv H (.ref a) (.str b) false:=λ_ _ _ _ _ _ t S ra rb=>⟨_,_,K8 (n:=1) t S h (qe _ _) (by decide) ra,Cn t rfl rb,rfl⟩
theorem Eqv.il {a b:Nat} {l r:List Int} (h:H[a]?=some (.list (di l))) (k:H[b]?=some (.list (di r))):Eqv H (.ref a) (.ref b) (l==r):=λ_ _ _ _ _ _ t S ra rb=>⟨_,_,K8 (n:=1) t S h (qe _ _) (by decide) ra,K8 (n:=1) t S k (qe _ _) (by decide) rb,Co _ _ _⟩
theorem Eqv.same {a b:Nat} {l:List V} (h:H[a]?=some (.list l)) (k:H[b]?=some (.list l)) (p:lj l 8=true):Eqv H (.ref a) (.ref b) true:=λ_ _ _ _ _ _ t S ra rb=>
 ⟨_,_,K8 t S h p (by decide) ra,K8 t S k p (by decide) rb,(K8 t S h p (by decide) ra).elim λ_ x=>SeqAt.eqv_refl _ (SeqAt.canLay_of_shaped x.2)⟩
end
end
section
noncomputable def OV (c:Cx) (k:Lk) (H:Hp) (h:Heap):Option V->Option Value->Prop
 |none,v=>v=none
 |some x,v=>∃w,v=some w∧VR c k H h x w
section
variable {c:Cx} {T:Tb} {H H':Hp} {h:Heap} {k:Lk} {s:Shared} {A:Around} {E:Value->Shared->Prop} {v w:Value} {y:V}
theorem OV.isSome:∀{x:Option V} {v:Option Value},OV c k H h x v->v.isSome=x.isSome
 |none,_,r=>congrArg Option.isSome r
 |some _,_,r=>r.elim λ_ q=>congrArg Option.isSome q.1
theorem OV.getD:∀{x:Option V} {v:Option Value},OV c k H h x v->VR c k H h y w->VR c k H h (x.getD y) (v.getD w)
 |none,_,r,q=>r▸q
 |some _,_,r,_=>r.elim λ_ q=>q.1▸q.2
section
variable {κ:Type} [DecidableEq κ] {p:κ×V} {d e:List (κ×V)} {kvs us:List (κ×Value)}
theorem jo.cons {x:κ} (a:VR c k H h y v) (r:jo c k H h d kvs):jo c k H h ((x,y)::d) ((x,v)::kvs):=⟨v,kvs,rfl,a,r⟩
theorem jo.len:∀{d:List (κ×V)} {kvs:List (κ×Value)},jo c k H h d kvs->d.length=kvs.length
 |[],_,r=>r▸rfl
 |_::_,_,r=>r.kC (P:=λkvs=>_=kvs.length) λ_ _ _ q=>congrArg Nat.succ q.len
theorem jo.get (x:κ):∀(d:List (κ×V)) {kvs:List (κ×Value)},jo c k H h d kvs->OV c k H h (eP x d) (valueAt kvs x)
 |[],_,r=>r.kN (P:=λkvs=>OV c k H h none (valueAt kvs x)) rfl
 |p::d,_,r=>by
  apply r.kC λv kvs h1 h2=>?_
  have ih:=jo.get x d h2
  unfold eP valueAt at ih ⊢
  by_cases q:p.1=x
  ·rw[fp (p:=λp:κ×V=>decide (p.1=x)) (decide_eq_true q),fp (p:=λp:κ×Value=>decide (p.1=x)) (decide_eq_true q)];exact⟨_,rfl,h1⟩
  ·rw[fw (p:=λp:κ×V=>decide (p.1=x)) (λz=>q (of_decide_eq_true z)),fw (p:=λp:κ×Value=>decide (p.1=x)) (λz=>q (of_decide_eq_true z))];exact ih
theorem jo.any (x:κ):∀(d:List (κ×V)) {kvs:List (κ×Value)},jo c k H h d kvs->(kvs.any λp=>decide (p.1=x))=d.any λp=>decide (p.1=x)
 |[],_,r=>r.kN (P:=λkvs=>(kvs.any λp=>decide (p.1=x))=false) rfl
 |p::d,_,r=>by apply r.kC λv kvs _ h2=>?_;exact congrArg (decide (p.1=x)|| ·) (jo.any x d h2)
theorem jo.Cq (z:VR c k H h y w) (x:κ):∀(d:List (κ×V)) {kvs:List (κ×Value)},jo c k H h d kvs->jo c k H h (d.map λp=>if p.1=x then(p.1,y)else p) (kvs.map λp=>if p.1=x then(p.1,w)else p)
 |[],_,r=>r.kN (P:=λkvs:List (κ×Value)=>jo c k H h ([]:List (κ×V)) (kvs.map λp:κ×Value=>if p.1=x then(p.1,w)else p)) rfl
 |p::d,_,r=>by
  apply r.kC λv kvs h1 h2=>?_
  have ih:=jo.Cq z x d h2
  rw[bS,bS]
  by_cases q:p.1=x
  ·rw[if_pos q,if_pos q];exact .cons z ih
  ·rw[if_neg q,if_neg q];exact .cons h1 ih
theorem jo.append (r':jo c k H h e us):∀{d:List (κ×V)} {kvs:List (κ×Value)},jo c k H h d kvs->jo c k H h (d++e) (kvs++us)
 |[],_,r=>r.kN (P:=λkvs=>jo c k H h _ (kvs++us)) r'
 |_::_,_,r=>r.kC (P:=λkvs=>jo c k H h _ (kvs++us)) λ_ _ a b=>.cons a (jo.append r' b)
theorem jo.put (z:VR c k H h y w) (x:κ) (r:jo c k H h d kvs):jo c k H h (dput x y d) (stored kvs x w):=by
 unfold dput stored
 rw[jo.any x d r]
 split
 ·exact jo.Cq z x d r
 ·exact jo.append (.cons z (show jo c k H h [] [] from rfl)) r
theorem jo.del (x:κ):∀(d:List (κ×V)) {kvs:List (κ×Value)},jo c k H h d kvs->jo c k H h (yb x d) (without kvs x)
 |[],_,r=>r.kN (P:=λkvs:List (κ×Value)=>jo c k H h ([]:List (κ×V)) (without kvs x)) rfl
 |p::d,_,r=>by
  apply r.kC λv kvs h1 h2=>?_
  have ih:=jo.del x d h2
  unfold yb without at ih ⊢
  by_cases q:p.1=x
  ·rw[c9 (by simp[q]),c9 (by simp[q])];exact ih
  ·rw[cK (by simp[q]),cK (by simp[q])];exact .cons h1 ih
end
theorem jq (i:Int) (t:Tok):(ik c).is i (.int i t)=true:=beq_self_eq_true i
theorem intsOf:∀{l:List Int} {vs:List Value},eJ c k H h (di l) vs->IntsAre vs l
 |[],_,r=>r.nE (P:=λvs=>IntsAre vs []) .nil
 |x::l,_,r=>r.cE (P:=λvs=>IntsAre vs (x::l)) λv r a b=>a.kI (P:=λv=>IntsAre (v::r) (x::l)) λt=>.cons _ _ (intsOf b)
theorem vo {l:List Int} {vs:List Value} (r:IntsAre vs l):eJ c k H h (di l) vs:=by
 induction r with
 |nil=>exact rfl
 |cons n t _ ih=>exact .cons (Fr n t) ih
theorem itemsOf:∀{l:List Int} {vs:List Value},eJ c k H h (di l) vs->ItemsAre (ik c) l vs
 |[],_,r=>r.nE (P:=λvs=>ItemsAre (ik c) [] vs) .nil
 |x::l,_,r=>r.cE (P:=λvs=>ItemsAre (ik c) (x::l) vs) λv r a b=>a.kI (P:=λv=>ItemsAre (ik c) (x::l) (v::r)) λt=>.cons (jq _ _) (itemsOf b)
theorem VR.kK {l:List Int} {P:Value->Prop} (r:VR c k H h (.tup (di l)) v) (q:∀a,(tupleKind (ik c)).is h l a->(∃vs e,h.get? a=some (ig vs e))->P (.ref a)):P v:=by
 apply r.kT λa vs e g R=>?_
 exact q a ⟨_,vs.toArray,e,g,rfl,rfl,itemsOf R⟩ ⟨vs,e,g⟩
theorem dz.noSys (S:dz c k H h) {j:Nat} {o:O} (g:H[j]?=some o) (w:o.made=true):(k.ι j==sysModules)=false:=beq_false_of_ne (S.3 _ _ _ g w (.inl rfl)).2
theorem nR (i:Int):∀(l:List Int),(l.any λx=>x==i)=l.contains i
 |[]=>rfl
 |x::l=>by rw[List.any_cons,List.contains_cons,nR i l,BEq.comm]
end
noncomputable def d6 (H:Hp) (a:Nat) (x:V) (q:Option V):Prop:=∀(c:Cx) (k:Lk) (h:Heap) (P:V->Prop),dz c k H h->(∀i kvs,(k.ι a==sysModules)=false->h.DictOf (ik c) (k.ι a) kvs->OV c k H h q (valueAt kvs i)->P (.int i))->
 (∀ks xs,(k.ι a==sysModules)=false->h.DictOfH (tupleKind (ik c)) (k.ι a) xs->OV c k H h q ((atKey xs ks).map (·.2))->P (.tup (di ks)))->P x
section
variable {H:Hp} {a:Nat}
theorem d6.ofI {d:List (Int×V)} {k:Int} (w:∀c κ h,dz c κ H h->K2 c κ H h a d∧(κ.ι a==sysModules)=false):d6 H a (.int k) (eP k d):=λc κ h P S f _=>(w c κ h S).1.elim λkvs D=>f k kvs (w c κ h S).2 D.1 (jo.get k d D.2)
theorem d6.ofT {d:List (List Int×V)} {k:List Int} (w:∀c κ h,dz c κ H h->K3 c κ H h a d∧(κ.ι a==sysModules)=false):d6 H a (.tup (di k)) (eP k d):=λc κ h P S _ f=>(w c κ h S).1.elim λxs D=>f k xs (w c κ h S).2 D.1 (by
 have:=jo.get k d D.2.2
 rw[show(xs.map λx=>(x.1,x.2.2))=kvsOf xs from rfl,valueAt_kvsOf]at this
 exact this)
theorem d6.i {d:List (Int×V)} {k:Int} (h:H[a]?=some (.bj d)):d6 H a (.int k) (eP k d):=.ofI λ_ _ _ S=>⟨S.2 _ _ h,S.noSys h rfl⟩
theorem d6.fi {d:List (Int×V)} {k:Int} (h:H[a]?=some (.fi d)):d6 H a (.int k) (eP k d):=.ofI λ_ _ _ S=>⟨S.2 _ _ h,S.noSys h rfl⟩
theorem d6.t {d:List (List Int×V)} {k:List Int} (h:H[a]?=some (.bX d)):d6 H a (.tup (di k)) (eP k d):=.ofT λ_ _ _ S=>⟨S.2 _ _ h,S.noSys h rfl⟩
theorem d6.ft {d:List (List Int×V)} {k:List Int} (h:H[a]?=some (.ft d)):d6 H a (.tup (di k)) (eP k d):=.ofT λ_ _ _ S=>⟨S.2 _ _ h,S.noSys h rfl⟩
end
noncomputable def AO (H:Hp) (x y:V) (q:Bool):Prop:=∀(c:Cx) (k:Lk) (s:Shared) (A:Around) (va vb:Value) (E:Value->Shared->Prop),A.units+10<cLine->dz c k H s.heap->VR c k H s.heap x va->VR c k H s.heap y vb->
 (∀Q:Value->Shared->Prop,(∀s',dy c k H s k H s'->Q (.bool q) s')->wpAny (Md c) A (compareOp .In va vb) Q E s)∧∀Q:Value->Shared->Prop,(∀s',dy c k H s k H s'->Q (.bool (!q)) s')->wpAny (Md c) A (compareOp .NotIn va vb) Q E s
theorem uG {c:Cx} {A:Around} (hu:A.units+10<cLine):(tupleKind (ik c)).room A.in1:=ax (bP (by decide) _) hu
section
variable {H:Hp}
theorem AO.dict {v:V} {a:Nat} {r:Option V} (g:d6 H a v r):AO H v (.ref a) r.isSome:=λc k s A va vb E hu S ra rb=>by
 apply rb.kR λ_=>?_
 refine g c k s.heap (λv=>VR c k H s.heap v va->_∧_) S (λi kvs n D P ra=>?_) (λks xs n D P ra=>?_) ra
 ·apply ra.kI λt=>?_
  rw[←P.isSome]
  exact⟨λQ h=>wpAny_in_of (jq _ t) n D.mapOf (h _ (dy.tok S _)),λQ h=>wpAny_notIn_of (jq _ t) n D.mapOf (h _ (dy.tok S _))⟩
 ·apply ra.kK λa K _=>?_
  rw[←P.isSome,Option.isSome_map]
  exact⟨λQ h=>wpAny_in_heap (uG hu) K n D (h _ (dy.tok S _)),λQ h=>wpAny_notIn_heap (uG hu) K n D (h _ (dy.tok S _))⟩
theorem AO.list {i:Int} {a:Nat} {l:List Int} (h:H[a]?=some (.list (di l))):AO H (.int i) (.ref a) (l.contains i):=λc k s A va vb E hu S ra rb=>by
 apply rb.kR λ_=>?_
 apply ra.kI λt=>?_
 refine S.kL h λvs e g R=>?_
 rw[←nR]
 exact⟨λQ h=>in_list_ints ⟨_,g,rfl,_,rfl⟩ (intsOf R) (h _ (c8.refl S)),λQ h=>notin_list_ints ⟨_,g,rfl,_,rfl⟩ (intsOf R) (h _ (c8.refl S))⟩
theorem AO.tup {i:Int} {l:List Int}:AO H (.int i) (.tup (di l)) (l.contains i):=λc k s A va vb E hu S ra rb=>by
 apply ra.kI λt=>?_
 apply rb.kT λa vs e g R=>?_
 have hq:∀y,y∈vs.toArray->SeqAt.EqAt A.in1 s y (.int i t) (isInt i y):=λy hy=>(eq_isInt i t (intsOf R) y (List.mem_toArray.mp hy)).at _ _
 have e:vs.toArray.any (isInt i)=l.contains i:=by rw[←Array.any_toList];exact(any_isInt i (intsOf R)).trans (nR _ _)
 rw[←e]
 exact⟨λQ h=>SeqAt.in_tupleAt (isInt i) ⟨_,g,rfl,_,rfl⟩ hq (h _ (c8.refl S)),λQ h=>SeqAt.notIn_tupleAt (isInt i) ⟨_,g,rfl,_,rfl⟩ hq (h _ (c8.refl S))⟩
end
end
section
noncomputable def cN (H:Hp) (o:B3) (x y:V) (q:Bool):Prop:=∀(c:Cx) (T:Tb) (k:Lk) (s:Shared) (A:Around) (va vb:Value) (Q:Value->Shared->Prop) (E:Value->Shared->Prop),nL c T->A.units+100<cLine->dz c k H s.heap->VR c k H s.heap x va->VR c k H s.heap y vb->
 (∀s',dy c k H s k H s'->Q (.bool q) s')->wpAny (Md c) A (compareOp (Fs o) va vb) Q E s
section
variable {H:Hp}
theorem Ik {n m a b:Nat} (h:n+a<m) (l:b≤a):n+b<m:=ax (bP l _) h
theorem cN.eq {a b:V} {r:Bool} (e:Eqv H a b r):cN H .eq a b r:=λc T k s A va vb Q E t hu S ra rb h=>by
 obtain⟨da,db,⟨as,r1,s1⟩,⟨bs,r2,s2⟩,rfl⟩:=e c T k s.heap va vb t S ra rb
 exact SeqAt.compareEq_shaped r1 r2 s1 s2 (Ik hu (by decide)) (h _ (c8.refl S))
theorem cN.ne {a b:V} {r:Bool} (e:Eqv H a b r):cN H .ne a b (!r):=λc T k s A va vb Q E t hu S ra rb h=>by
 obtain⟨da,db,⟨as,r1,s1⟩,⟨bs,r2,s2⟩,rfl⟩:=e c T k s.heap va vb t S ra rb
 exact SeqAt.compareNe_shaped r1 r2 s1 s2 (Ik hu (by decide)) (h _ (c8.refl S))
theorem cN.ii {o:B3} {i j:Int} {r:Bool} (w:∀(c:Cx) (s:Shared) (A:Around) (t t':Tok) (Q:Value->Shared->Prop) (E:Value->Shared->Prop),Q (.bool r) s->wpAny (Md c) A (compareOp (Fs o) (.int i t) (.int j t')) Q E s):cN H o (.int i) (.int j) r:=
 λc T k s A va vb Q E t hu S ra rb h=>ra.kI (P:=λva=>wpAny (Md c) A (compareOp (Fs o) va vb) Q E s) λt=>rb.kI (P:=λvb=>wpAny (Md c) A (compareOp (Fs o) (.int i t) vb) Q E s) λt'=>w c s A t t' Q E (h _ (c8.refl S))
theorem cN.lt (a b:Int):cN H .lt (.int a) (.int b) (decide (a<b)):=.ii λ_ _ _ _ _ _ _ h=>P.lt_int h
theorem cN.le (a b:Int):cN H .le (.int a) (.int b) (decide (a≤b)):=.ii λ_ _ _ _ _ _ _ h=>P.le_int h
theorem cN.gt (a b:Int):cN H .gt (.int a) (.int b) (decide (b<a)):=.ii λ_ _ _ _ _ _ _ h=>P.gt_int h
theorem cN.ge (a b:Int):cN H .ge (.int a) (.int b) (decide (b≤a)):=.ii λ_ _ _ _ _ _ _ h=>P.ge_int h
theorem cN.nn {o:B3} {x:V} {r:Bool} (w:∀(c:Cx) (k:Lk) (s:Shared) (A:Around) (va:Value) (Q:Value->Shared->Prop) (E:Value->Shared->Prop),VR c k H s.heap x va->Q (.bool r) s->wpAny (Md c) A (compareOp (Fs o) va .none) Q E s):cN H o x .none r:=
 λc T k s A va vb Q E t hu S ra rb h=>rb.kN (P:=λvb=>wpAny (Md c) A (compareOp (Fs o) va vb) Q E s) (w c k s A va Q E ra (h _ (c8.refl S)))
theorem cN.is_none:cN H .is .none .none true:=.nn λc k s A va Q E ra h=>by apply ra.kN;exact lF h
theorem cN.qW:cN H .yd .none .none false:=.nn λc k s A va Q E ra h=>by apply ra.kN;exact isNot_none h
theorem cN.Jf (a:Nat):cN H .is (.ref a) .none false:=.nn λc k s A va Q E ra h=>by apply ra.kR λ_=>?_;exact lF h
theorem cN.is_tup (l:List V):cN H .is (.tup l) .none false:=.nn λc k s A va Q E ra h=>by apply ra.kT λ_ _ _ _ _=>?_;exact lF h
theorem cN.Jg (a:Nat):cN H .is (.str a) .none false:=.nn λc k s A va Q E ra h=>by apply ra.kS λ_ _ _=>?_;exact lF h
theorem cN.Cr (a:Nat):cN H .yd (.str a) .none true:=.nn λc k s A va Q E ra h=>by apply ra.kS λ_ _ _=>?_;exact isNot_none h
theorem cN.isin {a b:V} {r:Bool} (e:AO H a b r):cN H .isin a b r:=λc T k s A va vb Q E t hu S ra rb h=>(e c k s A va vb E (Ik hu (by decide)) S ra rb).1 Q h
theorem cN.jJ {a b:V} {r:Bool} (e:AO H a b r):cN H .jJ a b (!r):=λc T k s A va vb Q E t hu S ra rb h=>(e c k s A va vb E (Ik hu (by decide)) S ra rb).2 Q h
end
noncomputable def FT (H:Hp) (l r:List V):Prop:=l.length=r.length∧∀(i:Nat) x y,l[i]?=some x->r[i]?=some y->∃(a b:Nat) (d:List (Int×Int)),x= .ref a∧y= .ref b∧H[a]?=some (.bj (d.map λp=>(p.1,.int p.2)))∧H[b]?=some (.bj (d.map λp=>(p.1,.int p.2)))
section
variable {c:Cx} {k:Lk} {H:Hp} {h:Heap} {s:Shared} {A:Around}
theorem wy {p p':Program} {w w':World} {a:Addr} {kvs:List (Int×Value)} (D:h.DictOf (intKind p w) a kvs):h.DictOf (intKind p' w') a kvs:=by
 obtain⟨o,es,ep,h1,h2,h3,h4,h5,h6⟩:=D
 refine⟨o,es,ep,h1,h2,h3,h4,?_,h6⟩
 clear h3 h4 h6
 generalize es.toList=l at h5
 induction h5 with
 |nil=>exact .nil
 |cons a b _ ih=>exact .cons a b ih
theorem Cs {OS:List (Int×Value)} {dd:List (Int×Int)}:∀{ka kb:List (Int×Value)},jo c k H h (dd.map λp=>(p.1,V.int p.2)) ka->jo c k H h (dd.map λp=>(p.1,V.int p.2)) kb->(∀p∈kb,valueAt OS p.1=some p.2)->KeqHits A s OS ka true:=by
 induction dd with
 |nil=>intro ka kb r1 _ _;exact r1.kN (P:=λka=>KeqHits A s OS ka true) .nil
 |cons p dd ih=>
  intro ka kb r1 r2 h3
  apply r1.kC λv ka v1 t1=>?_
  revert h3
  apply r2.kC λu kb u1 t2=>?_
  intro h3
  have g:=h3 _ aQ
  revert g
  apply v1.kI λt=>?_
  apply u1.kI λt'=>?_
  intro g
  exact KeqHits.hit (v:=.int p.2 t) (y:=.int p.2 t') (e:=true) (b:=true) g (λprog w E Q q=>wpAny_eqBool_int (by rw[beq_self_eq_true];exact q)) (ih t1 t2 λp hp=>h3 p (aL _ hp))
theorem wz {kb:List (Int×Value)} (n:(kb.map (·.1)).Nodup):∀p∈kb,valueAt kb p.1=some p.2:=by
 induction kb with
 |nil=>exact λp h=>absurd h aR
 |cons q kb ih=>
  intro p h
  obtain⟨n1,n2⟩:=dg.mp n
  unfold valueAt at ih ⊢
  rcases aH.mp h with rfl|h
  ·rw[fp (p:=λkv:Int×Value=>decide (kv.1=p.1)) (decide_eq_true rfl)];rfl
  ·rw[fw (p:=λkv:Int×Value=>decide (kv.1=p.1)) (λz=>n1 (by show q.1∈_;rw[of_decide_eq_true z];exact o_ h))]
   exact ih n2 p h
theorem Jh (S:dz c k H s.heap) (hu:A.units+2<cLine) {a b:Nat} {dd:List (Int×Int)} (h:H[a]?=some (.bj (dd.map λp=>(p.1,.int p.2)))) (g:H[b]?=some (.bj (dd.map λp=>(p.1,.int p.2)))):
  SeqAt.EqAt A s (.ref (k.ι a)) (.ref (k.ι b)) true:=by
 by_cases q:k.ι a=k.ι b
 ·rw[q];exact SeqAt.EqAt.same _
 ·obtain⟨ka,D1,r1⟩:=S.2 _ _ h
  obtain⟨kb,D2,r2⟩:=S.2 _ _ g
  refine SeqAt.EqAt.of_refs q λprog w E Q hq=>?_
  have hl:=r1.len.symm.trans r2.len
  have nd:=D2
  obtain⟨_,_,_,_,_,_,_,_,n⟩:=nd
  exact keq_eq (knd:=intKind prog w) (S.noSys h rfl) (S.noSys g rfl) (wy D1) (wy D2) (ax (bx _ _) hu) (λ_=>Cs r1 r2 (wz n)) (by rw[hl,beq_self_eq_true];exact hq)
end
theorem cN.Ct {H:Hp} {a b:Nat} {l r:List V} (h:H[a]?=some (.list l)) (g:H[b]?=some (.list r)) (e:FT H l r):cN H .ne (.ref a) (.ref b) false:=λc T k s A va vb Q E t hu S ra rb q=>by
 apply ra.kR λ_=>?_
 apply rb.kR λ_=>?_
 refine S.kL h λvs n1 g1 R1=>S.kL g λus n2 g2 R2=>?_
 have len:=R1.length.symm.trans (e.1.trans R2.length)
 have:=SeqAt.RcNeAt.lists (A:=A) (s:=s) (e:=λ_=>true) (items:=vs.toArray) (items2:=us.toArray) ⟨_,g1,rfl,_,rfl⟩ ⟨_,g2,rfl,_,rfl⟩ len (ax (bx _ _) hu)
  (λj h1 h2=>by
   have l1:=ao (l:=l) (R1.length▸h1:j<l.length)
   have l2:=ao (l:=r) (R2.length▸h2:j<r.length)
   obtain⟨a',b',d,e1,e2,o1,o2⟩:=e.2 j _ _ l1 l2
   obtain⟨v,q1,r1⟩:=R1.get l1
   obtain⟨u,q2,r2⟩:=R2.get l2
   rw[e1]at r1
   rw[e2]at r2
   have e3:vs.toArray[j]=v:=ay ((ao h1).symm.trans q1)
   have e4:us.toArray[j]=u:=ay ((ao h2).symm.trans q2)
   rw[e3,e4,r1.2,r2.2]
   exact Jh S (ax (show A.units+(1+2)≤A.units+100 from bP (by decide) _) hu) o1 o2)
 refine this c.prog c.w E Q ?_
 rw[show(!(List.range vs.toArray.size).all λ_=>true)=false by rw[bt.mpr λ_ _=>rfl];rfl]
 exact q _ (c8.refl S)
end
section
section
variable {c:Cx} {H:Hp} {h:Heap} {k:Lk} {s:Shared} {A:Around} {E:Value->Shared->Prop} {P:Prop}
theorem Fu {n q:Nat} (z:n≤SZ) (l:q≤n):(q:Int)<2^63:=bz.mpr (ax (aj l z) (by decide:SZ<2^63))
theorem yi {P:Int->Nat->Prop} {i:Int} {n q:Nat} (h:place i n=some q) (z:n≤SZ) (f:∀m:Nat,m<n->P m m) (g:∀m:Nat,0<m->m≤n->P (-m) (n-m)):P i q:=by
 unfold place at h
 by_cases h0:0≤i
 ·rw[if_pos h0]at h
  obtain⟨m,rfl⟩:=Int.eq_ofNat_of_zero_le h0
  rw[fY]at h
  by_cases h1:m<n
  ·rw[if_pos h1]at h;cases h;exact f _ h1
  ·rw[if_neg h1]at h;cases h
 ·rw[if_neg h0]at h
  have h2:=Int.not_le.mp h0
  obtain⟨m,rfl⟩:=Int.exists_eq_neg_ofNat (iQ h2)
  rw[k7,fY]at h
  by_cases h1:m≤n
  ·rw[if_pos h1]at h;cases h;exact g _ (bz.mp (Int.neg_lt_zero_iff.mp h2)) h1
  ·rw[if_neg h1]at h;cases h
theorem Cu {n m:Nat} (l:m≤n):(-(m:Int)+n).toNat=n-m:=by rw[qH,←pW,←lG l];rfl
theorem wA {l:Addr} {items:Array Value} {i:Int} {t:Tok} {q:Nat} {x:Value} {Q:Value->Shared->Prop} (hl:s.heap.IsList l items) (z:items.size≤SZ) (p:place i items.size=some q) (hx:items[q]?=some x) (h:Q x s):
  wpAny (Md c) A (getItem (.ref l) (.int i t)) Q E s:=
 yi (P:=λi q=>items[q]?=some x->wpAny (Md c) A (getItem (.ref l) (.int i t)) Q E s) p z (λm l hx=>wpAny_getItem_list hl (aS m) (Fu z (aI l)) hx h)
  (λm m0 l hx=>wpAny_getItem_list_neg hl (iH (bz.mpr m0)) (iR (dR.mpr l)) (iR (iQ (Fu z l))) (by rw[Cu l];exact hx) h) hx
theorem nU {y:Expr} (h:gd true false y=true) (o i:Value):subscripted y false o i=operate [o,i] (getItem o i):=
 dF (P:=λy=>subscripted y false o i=operate [o,i] (getItem o i)) h (λ_ _ _=>rfl) (λ_ _ _ _ _=>rfl) (λ_ _ _ _=>rfl) (λ_ _ _ _ _=>rfl) (λ_ _ _ _=>rfl) (λ_ _ _ _ _=>rfl) (λ_ _ _=>rfl) (λ_ _ _ _=>rfl) (λ_ _ _ _=>rfl)
  (λ_ _ _ _ _=>rfl) (λ_ _ _ _=>rfl) (λ_ _ _ _ h=>ff h) (λ_ _ _ _=>rfl) (λ_ _ _ _ _=>rfl) λ_ _ _ _=>rfl
end
noncomputable def Item (H:Hp) (x w u:V):Prop:=∀(c:Cx) (k:Lk) (s:Shared) (A:Around) (value y:Expr) (va vb:Value) (Q:Value->Shared->Prop) (E:Value->Shared->Prop),gd true false y=true->A.units+10<cLine->dz c k H s.heap->VR c k H s.heap x va->VR c k H s.heap w vb->
 (∀s' v',dy c k H s k H s'->VR c k H s'.heap u v'->Q v' s')->wpAny (Md c) A (subscriptTail value y va vb) Q E s
section
variable {H:Hp}
theorem Item.list {a:Nat} {l:List V} {i:Int} {k:Nat} {x:V} (o:H[a]?=some (.list l)) (p:place i l.length=some k) (h:l[k]?=some x):Item H (.ref a) (.int i) x:=λc κ s A value y va vb Q E hy hu S ra rb q=>by
 apply ra.kR λ_=>?_
 apply rb.kI λt=>?_
 refine S.kL o λvs e g R=>?_
 obtain⟨v,gv,rv⟩:=R.get h
 have z:=S.Ii o
 rw[R.length]at p z
 exact tail_any (s:=s) ⟨_,g,rfl⟩ slot_list_getitem.lookup (wA (items:=vs.toArray) ⟨_,g,rfl,_,rfl⟩ z p (by rw[cC];exact gv) (q s v (c8.refl S) rv)) (nU hy _ _)
theorem Item.ro {a:Nat} {l:List Int} {i:Int} {k:Nat} {x:Int} (o:H[a]?=some (.ro l)) (p:place i l.length=some k) (h:l[k]?=some x):Item H (.ref a) (.int i) (.int x):=λc κ s A value y va vb Q E hy hu S ra rb q=>by
 apply ra.kR λ_=>?_
 apply rb.kI λt=>?_
 obtain⟨z,vs,e,g,I⟩:=S.2 _ _ o
 obtain⟨v,gv,rv⟩:=(vo (c:=c) (k:=κ) (H:=H) (h:=s.heap) I).get (i:=k) (x:=V.int x) (by unfold di;rw[aK,h];rfl)
 rw[←I.length]at p z
 exact tail_any (s:=s) ⟨_,g,rfl⟩ slot_list_getitem.lookup (wA (items:=vs.toArray) ⟨_,g,rfl,_,rfl⟩ z p (by rw[cC];exact gv) (q s v (c8.refl S) rv)) (nU hy _ _)
theorem LZ {i:Int} {n q:Nat} (h:place i n=some q) (z:n≤SZ):seqIndex? i n=some q∧ -(2^63)≤i∧i<2^63:=
 yi (P:=λi q=>seqIndex? i n=some q∧ -(2^63)≤i∧i<2^63) h z (λm l=>⟨by
  unfold seqIndex?
  rw[if_neg (fy.mpr (aS m)),if_pos (by rw[decide_eq_true (aS m),decide_eq_true (bz.mpr l)];rfl)];rfl,qI (by decide) (aS m),Fu z (aI l)⟩) λm m0 l=>⟨by
  unfold seqIndex?
  have e: -(m:Int)+n=(n-m:Nat):=by rw[qH,←pW,←lG l]
  rw[if_pos (iH (bz.mpr m0)),e,if_pos (by rw[decide_eq_true (aS _),decide_eq_true (bz.mpr (Nat.sub_lt (aw m0 l) m0))];rfl)];rfl,iR (iQ (Fu z l)),Int.lt_of_lt_of_le (iH (bz.mpr m0)) (by decide)⟩
theorem Item.tup {l:List V} {i:Int} {k:Nat} {x:V} (z:l.length≤SZ) (p:place i l.length=some k) (h:l[k]?=some x):Item H (.tup l) (.int i) x:=λc κ s A value y va vb Q E hy hu S ra rb q=>by
 apply rb.kI λt=>?_
 apply ra.kT λa vs e g R=>?_
 obtain⟨v,gv,rv⟩:=R.get h
 rw[R.length]at p z
 obtain⟨p1,p2,p3⟩:=LZ p z
 exact tail_any (s:=s) ⟨_,g,rfl⟩ slot_tuple_getitem.lookup (getItem_tuple (items:=vs.toArray) ⟨_,g,rfl,_,rfl⟩ p2 p3 p1 (by rw[cC];exact gv) (q s v (c8.refl S) rv)) (nU hy _ _)
theorem Item.dict {a:Nat} {v x:V} (h:d6 H a v (some x)):Item H (.ref a) v x:=λc κ s A value y va vb Q E hy hu S ra rb q=>by
 apply ra.kR λ_=>?_
 refine h c κ s.heap (λv=>VR c κ H s.heap v vb->_) S (λi kvs n D P rb=>?_) (λks xs n D P rb=>?_) rb
 ·apply rb.kI λt=>?_
  obtain⟨v,e,rv⟩:=P
  exact tail_any (s:=s) D.typeIs slot_dict_getitem.lookup (wpAny_getItem_of (jq _ t) D.mapOf e (q _ v (dy.tok S _) rv)) (nU hy _ _)
 ·apply rb.kK λb K _=>?_
  obtain⟨v,e,rv⟩:=P
  obtain⟨p,e2,rfl⟩:=bq.mp e
  exact tail_any (s:=s) D.typeIs slot_dict_getitem.lookup (wpAny_getItem_heap (uG hu) K D e2 (q _ _ (dy.tok S _) rv)) (nU hy _ _)
end
end
section
section
variable {c:Cx} {H:Hp} {h:Heap} {k:Lk} {s:Shared} {A:Around} {E:Value->Shared->Prop}
theorem eJ.take:∀(n:Nat) {l:List V} {vs:List Value},eJ c k H h l vs->eJ c k H h (l.take n) (vs.take n)
 |0,_,_,_=>rfl
 |n+1,[],_,r=>r.nE (P:=λvs=>eJ c k H h [] (vs.take (n+1))) rfl
 |n+1,x::l,_,r=>r.cE (P:=λvs=>eJ c k H h (x::l.take n) (vs.take (n+1))) λ_ _ a b=>.cons a (b.take n)
theorem eJ.drop:∀(n:Nat) {l:List V} {vs:List Value},eJ c k H h l vs->eJ c k H h (l.drop n) (vs.drop n)
 |0,_,_,r=>r
 |n+1,[],_,r=>r.nE (P:=λvs=>eJ c k H h [] (vs.drop (n+1))) rfl
 |n+1,x::l,_,r=>r.cE (P:=λvs=>eJ c k H h (l.drop n) (vs.drop (n+1))) λ_ _ a b=>b.drop n
theorem eJ.rev:∀{l:List V} {vs:List Value},eJ c k H h l vs->eJ c k H h l.reverse vs.reverse
 |[],_,r=>r.nE (P:=λvs=>eJ c k H h [] vs.reverse) rfl
 |x::l,_,r=>by
  apply r.cE λv r a b=>?_
  rw[k_,k_]
  exact b.rev.append (.one a)
theorem sT {value y:Expr} {l:Addr} {vs:List Value} {e:Nat} {vl vu:Value} {lo hi:Option Int} {Q:Value->Shared->Prop} (hl:s.heap.get? l=some (lN vs e)) (pl:IsPart vl lo) (pu:IsPart vu hi) (z:vs.length≤SZ)
  (hs:∀o i,subscripted y false o i=operate [i,o] (getItem o i))
  (h:Q (.ref (s.heap.objs.size+1)) {s with heap:=(s.heap.push {cls:=.type "slice",data:=.fields #[vl,vu,.none]}).push {cls:=.type "list",data:=.seq (slicePick vs.toArray lo hi none)}}):
  wpAny (Md c) A (subscriptTail value y (.ref l) (.ref s.heap.objs.size)) Q E {s with heap:=s.heap.push {cls:=.type "slice",data:=.fields #[vl,vu,.none]}}:=by
 have hl':s.heap.IsList l vs.toArray:=⟨_,hl,rfl,_,rfl⟩
 refine tail_any (ops:=[.ref s.heap.objs.size,.ref l]) (Heap.IsList.typeIs (s:={s with heap:=s.heap.push {cls:=.type "slice",data:=.fields #[vl,vu,.none]}}) (hl'.push _)) list_getitem_lookup
  (wpAny_getItem_list_slice (hl'.push _) (Heap.IsSliceOf.new ..) pl pu .none (by simp) ?_ (by rw[gj,bV];exact z)) (hs _ _)
 show Q (.ref (s.heap.push _).objs.size) _
 rw[Heap.size_push];exact h
theorem dy.slice (S:dz c k H s.heap) {x:Obj} {l:List V} {vs:Array Value} (R:eJ c k H s.heap l vs.toList) (z:l.length≤SZ):
  dy c k H s (k.add H.length (s.heap.objs.size+1) (s.heap.objs.size+1)) (H++[.list l]) {s with heap:=(s.heap.push x).push {cls:=.type "list",data:=.seq vs}}∧
  VR c (k.add H.length (s.heap.objs.size+1) (s.heap.objs.size+1)) (H++[O.list l]) ((s.heap.push x).push {cls:=.type "list",data:=.seq vs}) (.ref H.length) (.ref (s.heap.objs.size+1)):=by
 have e1:(s.heap.push x).objs.size=s.heap.objs.size+1:=Heap.size_push ..
 refine dy.list S (e:=0) R z (t:=s.toks) ?_ ?_ ?_ λb o e=>Heap.get?_push_of_some _ (Heap.get?_push_of_some _ e)
 ·cases q:s.heap.get? (s.heap.objs.size+1)with
  |none=>rfl
  |some o=>exact absurd (Heap.lt_size q) (bG.mpr (gG _))
 ·rw[←e1];exact S.nQ λb o e=>Heap.get?_push_of_some _ e
 ·rw[←e1];exact Heap.get?_push_size _ rfl
end
noncomputable def sU (H:Hp) (x:V) (n:Nat) (l:List V):Prop:=∀(c:Cx) (k:Lk) (h:Heap) (P:Value->Prop) (va:Value),dz c k H h->VR c k H h x va->(∀a vs e,h.get? a=some (lN vs e)->eJ c k H h l (vs.take n)->vs.length≤SZ->l.length≤SZ->P (.ref a))->P va
theorem sU.list {H:Hp} {a n:Nat} {l:List V} (o:H[a]?=some (.list l)):sU H (.ref a) n (l.take n):=λc k h P va S ra q=>by
 apply ra.kR λ_=>?_
 refine S.kL o λvs e g R=>q _ vs e g (R.take _) (R.length▸S.Ii o) ?_
 rw[eQ];exact aj (Nat.min_le_right _ _) (S.Ii o)
theorem sU.ro {H:Hp} {a n:Nat} {l:List Int} (o:H[a]?=some (.ro l)):sU H (.ref a) n (di (l.take n)):=λc k h P va S ra q=>by
 apply ra.kR λ_=>?_
 obtain⟨z,vs,e,g,I⟩:=S.2 _ _ o
 have R:=(vo (c:=c) (k:=k) (H:=H) (h:=h) I).take n
 refine q _ vs e g (by unfold di at R ⊢;rw[iv];exact R) (I.length▸z) ?_
 unfold di
 rw[ae,eQ];exact aj (Nat.min_le_right _ _) z
end
section
noncomputable def wC (H:Hp) (x:V) (n:Nat) (l:List V):Prop:=∀(c:Cx) (k:Lk) (h:Heap) (P:Value->Prop) (va:Value),dz c k H h->VR c k H h x va->(∀a vs e,h.get? a=some (lN vs e)->eJ c k H h l (vs.drop n)->vs.length≤SZ->l.length≤SZ->P (.ref a))->P va
theorem wC.list {H:Hp} {a n:Nat} {l:List V} (o:H[a]?=some (.list l)):wC H (.ref a) n (l.drop n):=λc k h P va S ra q=>by
 apply ra.kR λ_=>?_
 refine S.kL o λvs e g R=>q _ vs e g (R.drop _) (R.length▸S.Ii o) ?_
 rw[g_];exact aj (ky _ _) (S.Ii o)
noncomputable def wD (H:Hp) (x:V) (n:Nat):Prop:=∀(c:Cx) (k:Lk) (s:Shared) (A:Around) (va:Value) (Q:Value->Shared->Prop) (E:Value->Shared->Prop),dz c k H s.heap->VR c k H s.heap x va->(∀s' t,dy c k H s k H s'->Q (.int n t) s')->wpAny (Md c) A (call (.builtin "len") [va]) Q E s
section
variable {H:Hp}
theorem wD.tup {l:List V} (z:l.length≤SZ):wD H (.tup l) l.length:=λc k s A va Q E S ra h=>by
 apply ra.kT λa vs e g R=>?_
 rw[R.length]at z h
 exact len_tuple (s:=s) (t:=a) (items:=vs.toArray) ⟨_,g,rfl,_,rfl⟩ (Fu z (aC _)) (h _ _ (dy.tok S _))
theorem wD.list {a:Nat} {l:List V} (o:H[a]?=some (.list l)) (z:l.length≤SZ):wD H (.ref a) l.length:=λc k s A va Q E S ra h=>by
 apply ra.kR λ_=>?_
 refine S.kL o λvs e g R=>?_
 rw[R.length]at z h
 exact call_len_list (items:=vs.toArray) ⟨_,g,rfl,_,rfl⟩ (Fu z (aC _)) (h _ _ (dy.tok S _))
theorem wD.ro {a:Nat} {l:List Int} (o:H[a]?=some (.ro l)):wD H (.ref a) l.length:=λc k s A va Q E S ra h=>by
 apply ra.kR λ_=>?_
 obtain⟨z,vs,e,g,I⟩:=S.2 _ _ o
 rw[←I.length]at z h
 exact call_len_list (items:=vs.toArray) ⟨_,g,rfl,_,rfl⟩ (Fu z (aC _)) (h _ _ (dy.tok S _))
end
end
section
section
variable {c:Cx} {T:Tb} {L:Lc} {H H1 H2:Hp} {e:CE} {l:mw} {v u:V} {k k':Lk} {s s':Shared} {A:Around} {r:Nat} {E:Value->Shared->Prop} {env:Env} {pos:Pos} {sc:Scope} {nm:List Str}
theorem nV {x:Expr} (xs:List Expr) (h:gd true true x=true):starEach (x::xs) env=(false,eval x env)::starEach xs env:=
 dF (P:=λx=>starEach (x::xs) env=(false,eval x env)::starEach xs env) h (λ_ _ _=>rfl) (λ_ _ _ _ _=>rfl) (λ_ _ _ _=>rfl) (λ_ _ _ _ _=>rfl) (λ_ _ _ _=>rfl) (λ_ _ _ _ _=>rfl) (λ_ _ _=>rfl) (λ_ _ _ _=>rfl) (λ_ _ _ _=>rfl)
  (λ_ _ _ _ _=>rfl) (λ_ _ _ _=>rfl) (λ_ _ _ _ _=>rfl) (λ_ _ _ _=>rfl) (λ_ _ _ _ _=>rfl) λ_ _ _ _=>rfl
theorem uH {x:Expr} (h:gd true true x=true):backTo pos (starEach [x] env)=[(false,eval x env)]:=by rw[nV _ h];rfl
theorem Cy {x y:Expr} (h:gd true true x=true) (h':gd true true y=true):backTo pos (starEach [x,y] env)=[(false,eval x env),(false,eval y env)]:=by rw[nV _ h,nV _ h'];rfl
theorem fh {P:List Expr->Prop} {kM:List Expr} (ok:jp T r sc nm (.cons e l) kM=true) (k:∀x xs,gd true true x=true->gK T r sc nm e x=true->jp T r sc nm l xs=true->P (x::xs)):P kM:=sO ok λx xs h=>i7 h (k x xs)
theorem lP {P:List Expr->Prop} {kM:List Expr} (ok:jp T r sc nm .nil kM=true) (k:P []):P kM:=sP ok k
theorem noStar:∀{l:mw} {kM:List Expr},jp T r sc nm l kM=true->(backTo pos (starEach kM env)).all (λx=>!x.1)=true
 | .nil,_,ok=>lP (P:=λkM=>(backTo pos (starEach kM env)).all (λx=>!x.1)=true) ok rfl
 | .cons e l,_,ok=>by
  apply fh ok λx xs h1 _ h3=>?_
  rw[nV _ h1]
  exact noStar h3
theorem wE {o:Expr} {name:Str} (h:eX o=true):attributeBase o name env (eval o env)=eval o env:=
 dF (P:=λo=>∀w,attributeBase o name env w=w) h (λ_ _ _ _=>rfl) (λ_ _ _ _ _ _=>rfl) (λ_ _ _ _ _=>rfl) (λ_ _ _ _ _ _=>rfl) (λ_ _ _ _ _=>rfl) (λ_ _ _ _ _ _=>rfl) (λ_ _ _ _=>rfl) (λ_ _ _ _ _=>rfl) (λ_ _ _ _ _=>rfl)
  (λ_ _ _ _ _ _=>rfl) (λ_ _ _ _ _=>rfl) (λ_ _ _ _ _ _=>rfl) (λ_ _ _ _ _=>rfl) (λg l k p h=>dF (P:=λg=>∀w,attributeBase (.Call g l k p) name env w=w) h (λx q h w=>by
   cases l with
   |cons=>rfl
   |nil=>cases k with
    |cons=>rfl
    |nil=>
     show(if(x !="super"||_||_||_)=true then(do let r ←w;pure r)else _)=w
     rw[if_pos (by rw[h];rfl)];try exact bind_pure w) Z4 Z3 Z4 Z3 Z4 Z2 Z3 Z3 Z4 Z3 Z4 (λ_ _ _ _ w=>by cases l<;>cases k<;>rfl) Z4 Z3) (λ_ _ _ _ _=>rfl) _
theorem O.Ji:∀{o:O},o.owned=true->o.made=true
 | .list _,_| .bj _,_| .bX _,_| .kJ _,_| .inst ..,_=>rfl
section
variable {j:Nat} {o o':O} {a b:Addr} {h':Heap} {t:Nat}
theorem Il (hj:H[j]?=some o) (hw:o.owned=true) (Im:o'.owned=true) (hi:o'.dO=o.dO):Oo k (H.set j o') b↔Oo k H b:=by
 refine⟨fun⟨i,y,q,w,z⟩=>?_,fun⟨i,y,q,w,z⟩=>?_⟩
 ·rcases qS q with⟨rfl,rfl⟩|⟨_,q⟩
  ·exact⟨i,o,hj,hw,z.imp id λz=>⟨hi▸z.1,z.2⟩⟩
  ·exact⟨i,y,q,w,z⟩
 ·by_cases n:i=j
  ·subst n;cases hj.symm.trans q;exact⟨i,o',aZ (j0 q),Im,z.imp id λz=>⟨hi.symm▸z.1,z.2⟩⟩
  ·exact⟨i,y,(a7 (d4 n)).trans q,w,z⟩
theorem dy.set (S:dz c k H s.heap) (hj:H[j]?=some o) (hw:o.owned=true) (Im:o'.owned=true) (hi:o'.dO=o.dO) (hp:At k j o a) (e:∀b y,b≠a->s.heap.get? b=some y->h'.get? b=some y) (x:Mw k H s.heap k H h'->OR c k H h' j o'):
  dy c k H s k (H.set j o') {s with heap:=h',toks:=t}:=
 ⟨S.set (X:=λb=>b=a) hj hi ((O.Ji Im).trans (O.Ji hw).symm) (λ_ z=>⟨O.Ji hw,cr z▸hp⟩) e (x ⟨aC _,λ_ _=>rfl,λb _ _ q=>e _ _ (λz=>S.OP q _ _ hj (cr z▸hp)) q⟩),
  ⟨by rw[aU];exact aC _,λ_ _=>⟨rfl,rfl⟩,λb y f _ q=>e _ _ (λz=>f ⟨j,o,hj,hw,cr z▸hp⟩) q,λ_=>(Il hj hw Im hi).mpr,λ_ _ f _ z=>f ((Il hj hw Im hi).mp z),λi l l'=>absurd (aw l' (by rw[aU];exact l)) (dU _),λ_ _ x=>x.elim⟩,rfl⟩
theorem dy.FU (S:dz c k H s.heap) {ll l':List V} {vs Je:List Value} {n:Nat} (f:Array Value->Array Value) (hj:H[j]?=some (.list ll)) (g:s.heap.get? (k.ι j)=some (lN vs n)) (z:l'.length≤SZ) (ef:f vs.toArray=Je.toArray) (R:eJ c k H s.heap l' Je):
  dy c k H s k (H.set j (.list l')) {s with heap:=s.heap.update (k.ι j) (Obj.mapSeq f),toks:=t}:=
 dy.set (a:=k.ι j) S hj rfl rfl rfl (.inl rfl) (λb y q e=>(Heap.get?_update_other _ _ (d4 q)).trans e) λm=>⟨z,Je,_,by have:=(NY g).update f;rw[ef]at this;exact this,R.mono m⟩
end
theorem wF {o:Expr} {ov:Value} {name:Str} {apos:Pos} {args:List Expr} {Q:Value->Shared->Prop} (hp:(apos.endLine==pos.line&&decide (args.length<20))=true) (hs:(backTo pos (starEach args env)).all (λx=>!x.1)=true)
  (h:∀pl,wpAny (Md c) A (getMethod ov name pl) (λfx s₂=>wpAny (Md c) A (callWith pos fx.1 fx.2 (backTo pos (starEach args env)) []) Q E s₂) E s):
  wpAny (Md c) A (methodCall o name apos pos env ov (args.length+([]:List Keyword).length) (backTo pos (starEach args env)) (backToKw pos (keywordEach [] env))) Q E s:=by
 have L4:methodCallForm (args.length+([]:List Keyword).length) (backTo pos (starEach args env)) (backToKw pos (keywordEach [] env))=true:=by
  show((backTo pos (starEach args env)).all (!·.1)&&true&&decide (args.length+0+0<30))=true
  rw[hs,decide_eq_true (show args.length+0+0<30 from bH (of_decide_eq_true (cI hp).2) (by decide))];rfl
 have OT:methodCallPos true o env apos pos=pure pos:=by
  unfold methodCallPos;rw[(cI hp).1];rfl
 unfold methodCall
 rw[L4]
 refine wpAny_bind (wpAny_holding (wpAny_mono (h _) (λfx s₂ h₂=>?_) λ_ _ e=>e))
 exact wpAny_bind (wpAny_of_eq OT h₂)
theorem wG {o:Expr} {name:Str} {apos:Pos} {args:List Expr} {Q:Value->Shared->Prop} (hp:(apos.endLine==pos.line&&decide (args.length<20))=true) (hb:eX o=true) (hs:(backTo pos (starEach args env)).all (λx=>!x.1)=true)
  (h:wpAny (Md c) A (eval o env) (λov s₁=>∀pl,wpAny (Md c) A (getMethod ov name pl) (λfx s₂=>wpAny (Md c) A (callWith pos fx.1 fx.2 (backTo pos (starEach args env)) []) Q E s₂) E s₁) E s):
  wpAny (Md c) A (eval (.Call (.Attribute o name apos) args [] pos) env) Q E s:=by
 rw[arm_eval_Call,wE hb]
 exact wpAny_bind (wpAny_mono h (λov s₁ h₁=>wpAny_bind (wpAny_standAt (wF hp hs h₁))) λ_ _ e=>e)
theorem K9 {o:CE} {kk:Nat} {y:Expr} {q:Pos} {args:List Expr} {name:Str} {id U:String} {Q:Value->Shared->Prop} (ih:b_ c T o L H (.ref kk) H1) (S:St c A r k H s env nm L) (hp:(q.endLine==pos.line&&decide (args.length<20))=true) (hn:eX y=true)
  (hs:(backTo pos (starEach args env)).all (λx=>!x.1)=true) (ok:gK T r env.scope nm o y=true) (pa:PlainAttrs U) (sl:Slot U name id) (ty:typeOf (.builtin id)=pure (.type "method_descriptor"))
  (g:∀k h,dz c k H1 h->∃o,h.get? (k.ι kk)=some o∧o.cls= .type U∧o.dict=none) (h:∀k1 s1,dy c k H s k1 H1 s1->kk<H1.length->wpAny (Md c) A (callWith pos (.builtin id) [.ref (k1.ι kk)] (backTo pos (starEach args env)) []) Q E s1):
  wpAny (Md c) A (eval (.Call (.Attribute y name q) args [] pos) env) Q E s:=
 wG hp hn hs (ih S ok λk1 s1 v1 T1 R1 pl=>by
  apply R1.kR λN=>?_
  obtain⟨o,e,t,d⟩:=g k1 _ T1.1
  exact getMethod_builtin ⟨o,e,t⟩ pa sl ty (λa z=>⟨o,by cases z;exact e,d⟩) (h k1 s1 T1 N))
theorem zN {x:Expr} (h:gd true true x=true):(backTo pos (starEach [x] env)).all (λx=>!x.1)=true:=by rw[uH h];rfl
theorem dz.OU {kk:Nat} {ll:List V} (g:H[kk]?=some (.list ll)):∀k h,dz c k H h->∃o,h.get? (k.ι kk)=some o∧o.cls= .type "list"∧o.dict=none:=λk h S=>S.kL g λ_ _ g _=>⟨_,g,rfl,rfl⟩
theorem yj {o x:CE} {kk:Nat} {ll:List V} (Cz:b_ c T o L H (.ref kk) H1) (FV:b_ c T x L H1 v H2) (h0:∃l0,H1[kk]?=some (.list l0)) (h:H2[kk]?=some (.list ll)) (z:ll.length<SZ):
  b_ c T (.append o x) L H .none (H2.set kk (.list (ll++[v]))):=by
 intro A r env nm pe k s Q E S ok hQ
 obtain⟨l0,g0⟩:=h0
 apply yg ok λy q as p hp hn ok=>?_
 revert hp
 apply zI ok λw hw o1 o2=>?_
 intro hp
 refine K9 Cz S hp hn (zN hw) o1 F.plainAttrs_list F.slot_list_append F.type_list_append (dz.OU g0) λk1 s1 T1 N=>?_
 rw[uH hw]
 refine P.append_list (FV (S.go T1) o2 λk2 s2 v2 T2 R2=>?_)
 rw[←(T2.2.2 kk N).1]
 refine T2.1.kL h λvs e g2 R=>?_
 exact⟨vs.toArray,e,by rw[gj,bV,←R.length];exact aI z,g2,hQ k2 _ _ ((T1.trans T2).trans (dy.FU T2.1 _ h g2 (by rw[aq];exact z) (List.push_toArray vs v2) (R.append (.one R2)))) rfl⟩
theorem yk {o x:CE} {kk j:Nat} {ll rr:List V} (Cz:b_ c T o L H (.ref kk) H1) (FV:b_ c T x L H1 (.ref j) H2) (h0:∃l0,H1[kk]?=some (.list l0)) (h:H2[kk]?=some (.list ll)) (h2:H2[j]?=some (.list rr)) (ne:kk≠j)
  (z:ll.length+rr.length<SZ):b_ c T (.extend o x) L H .none (H2.set kk (.list (ll++rr))):=by
 intro A r env nm pe k s Q E S ok hQ
 obtain⟨l0,g0⟩:=h0
 apply yg ok λy q as p hp hn ok=>?_
 revert hp
 apply zI ok λw hw o1 o2=>?_
 intro hp
 refine K9 Cz S hp hn (zN hw) o1 F.plainAttrs_list F.slot_list_extend F.type_list_extend (dz.OU g0) λk1 s1 T1 N=>?_
 rw[uH hw]
 refine P.extend_list (FV (S.go T1) o2 λk2 s2 v2 T2 R2=>?_)
 rw[←(T2.2.2 kk N).1]
 apply R2.kR λ_=>?_
 refine T2.1.kL h λvs e g2 R=>T2.1.kL h2 λus e' g3 R'=>?_
 have z1:=z
 rw[R.length,R'.length]at z1
 exact⟨_,vs.toArray,us.toArray,e,e',by rw[gj,bV];exact aj (bx _ _) (aI z1),by rw[gj,bV,bV];exact cQ (aI z1),λq=>zM (n:=vs.toArray.size+us.toArray.size) (aI z1) (cI q).2,rfl,g2,g3,
  hQ k2 _ _ ((T1.trans T2).trans (dy.FU T2.1 _ h g2 (by rw[aq];exact aI z) (o9 ..) (R.append R'))) rfl⟩
theorem FW {o:CE} {kk:Nat} {ll:List V} (Cz:b_ c T o L H (.ref kk) H1) (h:H1[kk]?=some (.list (ll++[v]))) (z:ll.length<SZ):b_ c T (.pop o) L H v (H1.set kk (.list ll)):=by
 intro A r env nm pe k s Q E S ok hQ
 apply yg ok λy q as p hp hn ok=>?_
 apply iW ok λh1 o1=>?_
 revert hp
 apply sP h1
 intro hp
 refine K9 Cz S hp hn rfl o1 F.plainAttrs_list F.slot_list_pop F.type_list_pop (dz.OU h) λk1 s1 T1 N=>?_
 refine T1.1.kL h λvs e g R=>?_
 obtain⟨w,gw,Jj⟩:=R.get (i:=ll.length) (x:=v) bv
 have e1:vs.toArray.size-1=ll.length:=by rw[bV,←R.length,aq];rfl
 have zz:=T1.1.Ii h
 rw[R.length]at zz
 have R2:=R.take ll.length
 rw[oy]at R2
 have T2:=dy.FU (t:=s1.toks) T1.1 (λxs=>xs.eraseIdxIfInBounds (vs.toArray.size-1)) h g (aI z) (Je:=vs.take ll.length) (by
  rw[e1,List.eraseIdxIfInBounds_toArray,List.eraseIdx_eq_take_drop_succ,List.drop_eq_nil_of_le (by rw[←R.length,aq];exact aC _),aO]) R2
 exact P.pop_list (NY g) (by rw[e1,cC];exact gw) (hQ k1 _ _ (T1.trans T2) (T2.vr T1.1 Jj)) zz
end
end
section
section
variable {c:Cx} {T:Tb} {L:Lc} {H H1 H2:Hp} {a b:CE} {v u:V} {k:Lk} {s:Shared} {A:Around} {r:Nat} {E:Value->Shared->Prop} {env:Env} {nm:List Str} {pos:Pos} {f:Value} {h':Heap}
noncomputable def FX (c:Cx) (f:Value):Prop:=∀{A:Around} {pos:Pos} {x:Sem Value} {s:Shared} {Q:Value->Shared->Prop} {E:Value->Shared->Prop},wpAny (Md c) A (spliced [(false,x)]) (λvs s₁=>wpAny (Md c) A (call f vs) Q E s₁) E s->wpAny (Md c) A (callWith pos f [] [(false,x)] []) Q E s
theorem OX {id:String}:FX c (.builtin id):=λh=>callWith_builtin rfl (evalArgs_plain h)
theorem L6 {t:String}:FX c (.type t):=λh=>PySem.callWith_type rfl (evalArgs_plain h)
theorem yl {y:Str} {q:Pos} {w:Expr} {Q:Value->Shared->Prop} (TO:nL c T) (hy:y∈([("len":Str),"sorted","list","tuple","int","sum","max","range","reversed","super"])) (hb:bootBuiltins y=some f) (cw:FX c f) (S:St c A r k H s env nm L) (hg:nO env.scope y=true) (hw:gd true true w=true)
  (h:wpAny (Md c) A (eval w env) (λv s₁=>wpAny (Md c) A (call f [v]) Q E s₁) E s):wpAny (Md c) A (eval (.Call (.Name y q) [w] [] pos) env) Q E s:=by
 refine wpAny_bind (S.3.Ih S.2 hg (TO.14 _ hy) hb (λz=>by rw[z]at hy;revert hy;decide) ?_)
 rw[uH hw]
 exact cw (spliced_cons (wpAny_mono h (λ_ _ h=>spliced_nil h) λ_ _ e=>e))
theorem uI {e:CE} {y:Str} (ok:∀r sc nm,gK T r sc nm e=Ci sc y (gK T r sc nm a)) (TO:nL c T) (hy:y∈([("len":Str),"sorted","list","tuple","int","sum","max","range","reversed","super"])) (hb:bootBuiltins y=some f) (cw:FX c f) (x:b_ c T a L H v H1)
  (g:∀{A:Around} {r k s va Q} {E:Value->Shared->Prop},B5 A r->dz c k H1 s.heap->VR c k H1 s.heap v va->(∀k' s' v',dy c k H1 s k' H2 s'->VR c k' H2 s'.heap u v'->Q v' s')->wpAny (Md c) A (call f [va]) Q E s):b_ c T e L H u H2:=by
 intro A r env nm pe k s Q E S o h
 rw[ok]at o
 apply Cj o λq w pos hg hw o=>?_
 exact yl TO hy hb cw S hg hw (x S o λk1 s1 v1 T1 R1=>g S.1 T1.1 R1 λk2 s2 v2 T2 R2=>h _ _ _ (T1.trans T2) R2)
theorem FY {n:Nat} (TO:nL c T) (x:b_ c T a L H v H1) (R:wD H1 v n):b_ c T (.len a) L H (.int n) H1:=
 uI (f:=.builtin "len") (λ_ _ _=>rfl) TO (by decide) (by decide+kernel) OX x λ_ S R1 h=>R _ _ _ _ _ _ _ S R1 λ_ _ T2=>h _ _ _ T2 (Fr _ _)
theorem AP {i:Int} (TO:nL c T) (x:b_ c T a L H (.int i) H1):b_ c T (.intOf a) L H (.int i) H1:=
 uI (f:=.type "int") (λ_ _ _=>rfl) TO (by decide) (by decide+kernel) L6 x λ{A r k s va Q E} _ S R1 h=>by
  apply R1.kI λt=>?_
  exact call_int_int (h _ _ _ (c8.refl S) (Fr _ _))
theorem ym {kk:Nat} {ll:List V} (TO:nL c T) (x:b_ c T a L H (.ref kk) H1) (o:H1[kk]?=some (.list ll)) (z:ll.length≤SZ):b_ c T (.listOf a) L H (.ref H1.length) (H1++[.list ll]):=
 uI (f:=.type "list") (λ_ _ _=>rfl) TO (by decide) (by decide+kernel) L6 x λ{A r k s va Q E} _ S R1 h=>by
  apply R1.kR λ_=>?_
  refine S.kL o λvs e g R=>?_
  refine call_list_seq (items:=vs.toArray) _ (.inl rfl) g rfl rfl (λh' c' hk ho=>?_) (by rw[gj,bV,←R.length];exact z)
  have W:=dy.list (t:=s.toks) (e:=c') S R z (iq _) (S.nQ λ_ _ e=>e) ho hk
  exact h _ _ _ W.1 W.2
theorem wH {kk:Nat} {ll:List V} (TO:nL c T) (x:b_ c T a L H (.ref kk) H1) (o:H1[kk]?=some (.list ll)) (z:ll.length≤SZ):b_ c T (.tupleOf a) L H (.tup ll) H1:=
 uI (f:=.type "tuple") (λ_ _ _=>rfl) TO (by decide) (by decide+kernel) L6 x λ{A r k s va Q E} _ S R1 h=>by
  apply R1.kR λ_=>?_
  refine S.kL o λvs e g R=>?_
  refine call_tuple_list (items:=vs.toArray) ⟨_,g,rfl,_,rfl⟩ (λh' hk=>?_) (by rw[gj,bV,←R.length];exact z)
  have W:=dy.keeps (h':=h'.push (ig vs 0)) (t:=s.toks) S λb o e=>Heap.get?_push_of_some _ (hk b o e)
  exact h _ _ _ W (OO (e:=0) (Heap.get?_push_size _ rfl) (W.OQ S R))
theorem FZ {i j:Int} (TO:nL c T) (x:b_ c T a L H (.int i) H1) (y:b_ c T b L H1 (.int j) H2):b_ c T (.max a b) L H (.int (if i<j then j else i)) H2:=by
 intro A r env nm pe k s Q E S ok h
 apply qT ok λn q l p ok=>?_
 apply iW ok λhx ol=>?_
 clear ok
 apply iW hx λhn hg=>?_
 cases cJ hn
 apply K7 ol λw1 w2 ok=>?_
 apply oV ok λh1 h2 o1 o2=>?_
 refine wpAny_bind (S.3.Ih S.2 hg (TO.14 _ (by decide)) (by decide+kernel:bootBuiltins "max"=some (.builtin "max")) (by decide) ?_)
 rw[Cy h1 h2]
 refine callWith_builtin rfl (evalArgs_plain (spliced_cons (x S o1 λk1 s1 v1 T1 R1=>spliced_cons (y (S.go T1) o2 λk2 s2 v2 T2 R2=>spliced_nil ?_))))
 apply R1.kI λt=>?_
 apply R2.kI λt'=>?_
 refine max_two_ints S.1.1 λh' tk hk=>h _ _ _ ((T1.trans T2).trans (dy.keeps (t:=tk) T2.1 hk)) ?_
 by_cases q:i<j
 ·rw[if_pos q,if_pos (show j>i from q)];exact Fr _ _
 ·rw[if_neg q,if_neg (show ¬j>i from q)];exact Fr _ _
theorem L8 {a ns:List Int} (p:a.Perm ns) (o:a.Pairwise (· ≤ ·)):a=FK ns:=by
 refine List.Perm.eq_of_pairwise (le:=(· ≤ ·)) (λx y _ _ h1 h2=>Int.le_antisymm h1 h2) o ?_ (p.trans (pc _ _).symm)
 exact(lY (le:=λa b:Int=>decide (a≤b)) (λa b c h1 h2=>decide_eq_true (qI (of_decide_eq_true h1) (of_decide_eq_true h2))) (λa b=>cD.mpr ((Int.le_total a b).imp decide_eq_true decide_eq_true)) ns).imp of_decide_eq_true
theorem F4 {n:Nat} (h:n<64):n≤SZ:=aj (aI h) (by decide)
theorem Jk (l:List Int):(di (FK l)).length=l.length:=(ae _).trans (ny _)
noncomputable def OY (c:Cx) (s:Shared) (A:Around) (v:Value) (ns:List Int) (E:Value->Shared->Prop):Prop:=∀Q':List Value->Shared->Prop,(∀h' tk vs,(∀b o,s.heap.get? b=some o->h'.get? b=some o)->IntsAre vs ns->Q' vs {s with heap:=h',toks:=tk})->wpAny (Md c) A (collect v) Q' E s
theorem AQ {v:Value} {ns:List Int} {Q:Value->Shared->Prop} (S:dz c k H s.heap) (hn:ns.length<64) (hc:OY c s A.in1 v ns E)
  (h:∀k' s' v',dy c k H s k' (H++[.list (di (FK ns))]) s'->VR c k' (H++[O.list (di (FK ns))]) s'.heap (.ref H.length) v'->Q v' s'):wpAny (Md c) A (call (.builtin "sorted") [v]) Q E s:=by
 refine call_function_entry kind_sorted plain_sorted entry_sorted (args_sorted1 _) ?_
 unfold Builtin.«sorted»
 refine wpAny_bind (m:=checkCount "sorted" 1 1 _) (wpAny_pure ?_)
 refine wpAny_bind (hc _ λh' tk vs hk hI=>?_)
 have hl:=hI.length
 rw[←hl]at hn
 refine wpAny_bind (wpAny_newList ?_ (by rw[gj];exact F4 hn))
 have ho:(h'.push (seqObj "list" vs.toArray 0)).get? h'.objs.size=some (seqObj "list" vs.toArray 0):=Heap.get?_push_size _ rfl
 refine wpAny_bind (wpAny_holding (wpAny_call_entry slot_list_sort ⟨_,ho,rfl⟩ entry_list_sort (list_sort_tree (s:={s with heap:=h'.push (seqObj "list" vs.toArray 0),toks:=tk}) ho hI hn λout OZ a1 a2 a3=>⟨_,rfl,?_⟩) (args_list_sort _)))
 refine wpAny_pure ⟨_,rfl,?_⟩
 obtain⟨e',he⟩:=sortedHeap_at (h:=h'.push (seqObj "list" vs.toArray 0)) (a:=h'.objs.size) (vs:=vs) (n:=0) (out:=out) ho
 cases L8 a2 a3
 have W:=dy.list (t:=tk) (l:=di (FK ns)) (vs:=out.toList) (e:=e') S (vo a1) (by rw[Jk,←hl];exact F4 hn) (a:=h'.objs.size)
  (by
   cases z:s.heap.get? h'.objs.size with
   |none=>rfl
   |some o=>exact absurd (Heap.lt_size (hk _ _ z)) (dU _))
  (S.nQ hk) he
  (λb o e=>(sortedHeap_old (cu (Heap.lt_size (hk _ _ e))) (aw (Heap.lt_size (hk _ _ e)) (by rw[Heap.size_push];exact gG _))).trans (Heap.get?_push_of_some _ (hk b o e)))
 exact h _ _ _ W.1 W.2
theorem CA {kvs:List (Int×Value)}:∀{vs:List Value},vs.length=kvs.length->(∀(j:Nat) (v:Value),vs[j]?=some v->∃k x,kvs[j]?=some (k,x)∧(ik c).is k v=true)->IntsAre vs (kvs.map (·.1)):=by
 induction kvs with
 |nil=>intro vs h _;cases lZ.mp h;exact .nil
 |cons p kvs ih=>
  intro vs h g
  cases vs with
  |nil=>cases h
  |cons v vs=>
   obtain⟨k',x',e,w⟩:=g 0 v rfl
   obtain⟨t,rfl⟩:=Value.isInt_shape w
   cases e
   exact .cons _ _ (ih (hB h) λj=>g (j+1))
theorem sw {κ:Type}:∀{d:List (κ×V)} {kvs:List (κ×Value)},jo c k H h' d kvs->d.map (·.1)=kvs.map (·.1)
 |[],_,r=>r.kN (P:=λkvs=>([]:List (κ×V)).map (·.1)=kvs.map (·.1)) rfl
 |_::_,_,r=>r.kC (P:=λkvs=>_=kvs.map (·.1)) λ_ _ _ q=>congrArg (_:: ·) (sw q)
end
noncomputable def jK (H:Hp) (x:V) (ns:List Int):Prop:=∀(c:Cx) (k:Lk) (s:Shared) (A:Around) (v:Value) (E:Value->Shared->Prop),A.handled=none->dz c k H s.heap->VR c k H s.heap x v->ns.length<64->OY c s A.in1 v ns E
section
variable {H:Hp}
theorem jK.seq {c:Cx} {s:Shared} {A:Around} {a:Addr} {E:Value->Shared->Prop} {vs:List Value} {n:Nat} {l:List Int} {U:String} (hU:U="list"∨U="tuple") (g:s.heap.get? a=some (seqObj U vs.toArray n)) (I:IntsAre vs l) (z:l.length<64):OY c s A (.ref a) l E:=λQ' hq=>
 wpAny_collect_seq (items:=vs.toArray) _ hU g rfl rfl (λh' hk=>hq h' s.toks vs hk I) (by rw[gj,bV,I.length];exact F4 z)
theorem jK.tup {l:List Int}:jK H (.tup (di l)) l:=λc k s A v E hA S ra z=>by
 apply ra.kT λa vs e g R=>?_
 exact jK.seq (.inr rfl) g (intsOf R) z
theorem jK.list {a:Nat} {l:List Int} (o:H[a]?=some (.list (di l))):jK H (.ref a) l:=λc k s A v E hA S ra z=>by
 apply ra.kR λ_=>?_
 exact S.kL o λvs e g R=>jK.seq (.inl rfl) g (intsOf R) z
theorem jK.dict {a:Nat} {d:List (Int×V)} (o:H[a]?=some (.bj d)):jK H (.ref a) (d.map (·.1)):=λc k s A v E hA S ra z=>by
 apply ra.kR λ_=>?_
 obtain⟨kvs,D,P⟩:=S.2 _ _ o
 obtain⟨ep,hat⟩:=D.dictAt
 rw[ae,P.len]at z
 rw[sw P]
 exact λQ' hq=>kdu_collect (kdl_dict (knd:=ik c) (kvs:=kvs) (ep:=ep) (S.noSys o rfl)) hA hat (by rw[gj];exact F4 z) λh' tk acc hk L9=>hq h' tk _ hk (CA L9.1 λj u hu=>L9.2 j u (by rw[←nA];exact hu))
theorem Io {l:List Int}:∀j,j≤l.length->preSum (λi=>l.getD i 0) j=(l.take j).sum
 |0,_=>rfl
 |j+1,h=>by
  rw[iS h,m6,←Io j (aI h)]
  exact congrArg (_+ ·) ((congrArg (Option.getD · 0) (ao h)).trans (Int.add_zero _).symm)
theorem Jl {vs:List Value} {ns:List Int} (I:IntsAre vs ns):∀(i:Nat) v,vs[i]?=some v->∃t,v= .int (ns.getD i 0) t:=by
 induction I with
 |nil=>exact λi v h=>c7 rfl h
 |cons n t _ ih=>exact λi v h=>match i,h with
  |0,h=>⟨t,(ay h).symm⟩
  |i+1,h=>ih i v h
variable {c:Cx} {T:Tb} {L:Lc} {H1:Hp} {a:CE} {v:V}
theorem yo {ns:List Int} (TO:nL c T) (x:b_ c T a L H v H1) (R:jK H1 v ns) (z:ns.length<64):b_ c T (.sorted a) L H (.ref H1.length) (H1++[.list (di (FK ns))]):=
 uI (f:=.builtin "sorted") (λ_ _ _=>rfl) TO (by decide) (by decide+kernel) OX x λhA S R1 h=>AQ S z (R _ _ _ _ _ _ hA.1 S R1 z) h
theorem F6 {kk:Nat} {ns:List Int} (TO:nL c T) (x:b_ c T a L H (.ref kk) H1) (o:H1[kk]?=some (.list (di ns))):b_ c T (.sum a) L H (.int ns.sum) H1:=
 uI (f:=.builtin "sum") (λ_ _ _=>rfl) TO (by decide) (by decide+kernel) OX x λ{A r k s va Q E} hA S R1 h=>by
  apply R1.kR λ_=>?_
  refine S.kL o λvs e g R=>?_
  have I:=intsOf R
  have hg:s.heap.IsList (k.ι kk) vs.toArray:=⟨_,g,rfl,_,rfl⟩
  refine call_sum_walkG (wpAny_pyIter_list hg ⟨_,_,_,_,_,_,λi=>ns.getD i 0,rfl,Walks.list (A:=A.in1) hA.1 s.heap.objs.size (k.ι kk) (cu (Heap.lt_size g)) vs.toArray,
   ⟨⟨_,Heap.get?_push_size _ rfl,rfl,rfl⟩,hg.push _⟩,λb hb=>?_,λi v hv=>Jl I i v (by rw[←cC];exact hv),λh' tk t' hk=>?_⟩)
  ·show b<(Heap.push _ _).objs.size
   rw[Heap.size_push]
   rcases aH.mp hb with rfl|hb
   ·exact bW _
   ·exact ak.mp hb▸eo (Heap.lt_size g)
  ·rw[bV,I.length,Io _ (aC _),aN]
   exact h _ _ _ (dy.keeps S λb o e=>hk b o (λz=>dU _ (ak.mp z▸Heap.lt_size e)) (Heap.get?_push_of_some _ e)) (Fr _ _)
end
end
section
section
variable {c:Cx} {T:Tb} {L:Lc} {H H1 H2 H3 H':Hp} {a b d:CE} {v u:V} {w:Value} {k:Lk} {s:Shared} {A:Around} {r:Nat} {E:Value->Shared->Prop} {h:Heap}
theorem dz.Cb {kk:Nat} (g:pH H kk):∀k h,dz c k H h->∃o,h.get? (k.ι kk)=some o∧o.cls= .type "dict"∧o.dict=none:=λk h S=>by
 rcases g with⟨d,g⟩|⟨d,g⟩
 ·obtain⟨_,⟨o,_,_,q,x,_⟩,_⟩:=S.2 _ _ g
  exact⟨o,q,x.1,x.2.1⟩
 ·obtain⟨_,⟨o,_,_,q,x,_⟩,_⟩:=S.2 _ _ g
  exact⟨o,q,x.1,x.2.1⟩
theorem d6.g1 {kk:Nat} {q:Option V} {va:Value} {Q:Value->Shared->Prop} (g:d6 H kk u q) (hu:A.units+10<cLine) (S:dz c k H s.heap) (ra:VR c k H s.heap u va) (h:∀t v',VR c k H s.heap (q.getD .none) v'->Q v' {s with toks:=t}):
  s.TypeIs (.ref (k.ι kk)) "dict"∧argsOk "dict.get" ⟨[.ref (k.ι kk),va],[]⟩∧∃S,MeetsIn c.prog c.w (Builtin.«dict.get» ⟨[.ref (k.ι kk),va],[]⟩) S∧S A (wants Q E) s:=by
 refine g c k s.heap (λv=>VR c k H s.heap v va->_) S (λi kvs n D P ra=>?_) (λks xs n D P ra=>?_) ra
 ·apply ra.kI λt=>?_
  exact⟨D.typeIs,F.args_dict_get_2 _ _,_,meets_dict_get (ik c) _ (jq _ t) n,_,D.mapOf,h _ _ (P.getD rfl)⟩
 ·apply ra.kK λa K _=>?_
  exact⟨D.typeIs,F.args_dict_get_2 _ _,_,meetsH_dict_get (tupleKind (ik c)) _ a n,uG hu,ks,xs,K,D,h _ _ (P.getD rfl)⟩
theorem d6.g2 {kk:Nat} {q:Option V} {va vb:Value} {Q:Value->Shared->Prop} (g:d6 H kk u q) (hu:A.units+10<cLine) (S:dz c k H s.heap) (ra:VR c k H s.heap u va) (rb:VR c k H s.heap v vb) (h:∀t v',VR c k H s.heap (q.getD v) v'->Q v' {s with toks:=t}):
  s.TypeIs (.ref (k.ι kk)) "dict"∧argsOk "dict.get" ⟨[.ref (k.ι kk),va,vb],[]⟩∧∃S,MeetsIn c.prog c.w (Builtin.«dict.get» ⟨[.ref (k.ι kk),va,vb],[]⟩) S∧S A (wants Q E) s:=by
 refine g c k s.heap (λv=>VR c k H s.heap v va->_) S (λi kvs n D P ra=>?_) (λks xs n D P ra=>?_) ra
 ·apply ra.kI λt=>?_
  exact⟨D.typeIs,F.args_dict_get_3 _ _ _,_,meets_dict_get_default (ik c) _ (jq _ t) n _,_,D.mapOf,h _ _ (P.getD rb)⟩
 ·apply ra.kK λa K _=>?_
  exact⟨D.typeIs,F.args_dict_get_3 _ _ _,_,meetsH_dict_get_default (tupleKind (ik c)) _ a n _,uG hu,ks,xs,K,D,h _ _ (P.getD rb)⟩
theorem B5.N0 (x:B5 A r):A.units+10<cLine:=ax (aj (bP (by decide:10≤200) _) (dM (bx _ _) _)) x.3
theorem B5.F7 (x:B5 A r):A.units+100<cLine:=ax (aj (bP (by decide:100≤200) _) (dM (bx _ _) _)) x.3
theorem CB {o x:CE} {kk:Nat} {q:Option V} (Cz:b_ c T o L H (.ref kk) H1) (FV:b_ c T x L H1 u H2) (h0:pH H1 kk) (h:d6 H2 kk u q):b_ c T (.u9 o x) L H (q.getD .none) H2:=by
 intro A r env nm pe k s Q E S ok hQ
 apply yg ok λy q' as p hp hn ok=>?_
 revert hp
 apply zI ok λw hw o1 o2=>?_
 intro hp
 refine K9 Cz S hp hn (zN hw) o1 F.plainAttrs_dict F.slot_dict_get F.type_dict_get (dz.Cb h0) λk1 s1 T1 N=>?_
 rw[uH hw]
 refine method1_meetsIn F.slot_dict_get F.entry_dict_get (FV (S.go T1) o2 λk2 s2 v2 T2 R2=>?_)
 rw[←(T2.2.2 kk N).1]
 exact h.g1 S.1.N0 T2.1 R2 λt v' R=>hQ _ _ _ (dy.toks (T1.trans T2) t) R
theorem CC {o x y:CE} {kk:Nat} {q:Option V} (Cz:b_ c T o L H (.ref kk) H1) (FV:b_ c T x L H1 u H2) (ih3:b_ c T y L H2 v H3) (h0:pH H1 kk) (h:d6 H3 kk u q):b_ c T (.qP o x y) L H (q.getD v) H3:=by
 intro A r env nm pe k s Q E S ok hQ
 apply yg ok λy q' as p hp hn ok=>?_
 revert hp
 apply K7 ok λw w' ok=>?_
 intro hp
 apply vd ok λhw Im o1 o2 o3=>?_
 refine K9 Cz S hp hn (by rw[Cy hw Im];rfl) o1 F.plainAttrs_dict F.slot_dict_get F.type_dict_get (dz.Cb h0) λk1 s1 T1 N=>?_
 rw[Cy hw Im]
 refine method2_meetsIn F.slot_dict_get F.entry_dict_get (FV (S.go T1) o2 λk2 s2 v2 T2 R2=>ih3 ((S.go T1).go T2) o3 λk3 s3 v3 T3 R3=>?_)
 rw[←((T2.trans T3).2.2 kk N).1]
 exact h.g2 S.1.N0 T3.1 (T3.vr T2.1 R2) R3 λt v' R=>hQ _ _ _ (dy.toks (T1.trans (T2.trans T3)) t) R
theorem qf {kk:Addr} {h':Heap} (hs:Heap.SameBut kk h h'):∀b y,b≠kk->h.get? b=some y->h'.get? b=some y:=λb _ n e=>(hs.2 b n).trans e
theorem CD {o x:CE} {kk:Nat} {i:Int} {dd:List (Int×V)} (Cz:b_ c T o L H (.ref kk) H1) (FV:b_ c T x L H1 (.int i) H2) (h0:pH H1 kk) (h:H2[kk]?=some (.bj dd)) (zz:dd.length≤SZ) (g:eP i dd=some v):
  b_ c T (.u_ o x) L H v (H2.set kk (.bj (yb i dd))):=by
 intro A r env nm pe k s Q E S ok hQ
 apply yg ok λy q' as p hp hn ok=>?_
 revert hp
 apply zI ok λw hw o1 o2=>?_
 intro hp
 refine K9 Cz S hp hn (zN hw) o1 F.plainAttrs_dict F.slot_dict_pop F.type_dict_pop (dz.Cb h0) λk1 s1 T1 N=>?_
 rw[uH hw]
 refine method1_meetsIn F.slot_dict_pop F.entry_dict_pop (FV (S.go T1) o2 λk2 s2 v2 T2 R2=>?_)
 rw[←(T2.2.2 kk N).1]
 apply R2.kI λt=>?_
 obtain⟨kvs,D,P⟩:=T2.1.2 _ _ h
 have hv:=jo.get i _ P
 rw[g]at hv
 obtain⟨w',e2,Jj⟩:=hv
 refine⟨D.typeIs,F.args_dict_pop_2 _ _,_,meets_dict_pop_there (ik c) (k:=i) _ (jq i t) [] (.inl rfl) rfl,kvs,w',D,by rw[gj,←P.len];exact zz,e2,λh' D' hs=>?_⟩
 have T3:=dy.set (t:=s2.toks+1) (o':=.bj (yb i dd)) T2.1 h rfl rfl rfl (.inl rfl) (qf hs) λm=>⟨_,D',(P.del i).mono m⟩
 exact hQ k2 _ _ ((T1.trans T2).trans T3) (T3.vr T2.1 Jj)
theorem eJ.set {x:V} (z:VR c k H h x w):∀{l:List V} {vs:List Value} (n:Nat),eJ c k H h l vs->eJ c k H h (l.set n x) (vs.set n w)
 |[],_,n,r=>r.nE (P:=λvs=>eJ c k H h [] (vs.set n w)) rfl
 |_::l,_,0,r=>r.cE (P:=λvs=>eJ c k H h (x::l) (vs.set 0 w)) λ_ _ _ b=>.cons z b
 |y::l,_,n+1,r=>r.cE (P:=λvs=>eJ c k H h (y::l.set n x) (vs.set (n+1) w)) λ_ _ a b=>.cons a (eJ.set z n b)
end
noncomputable def qX (x y z:V) (H H':Hp):Prop:=∀(c:Cx) (k:Lk) (s:Shared) (A:Around) (va vb vc:Value) (Q:Unit->Shared->Prop) (E:Value->Shared->Prop),A.units+10<cLine->dz c k H s.heap->VR c k H s.heap x va->VR c k H s.heap y vb->VR c k H s.heap z vc->
 (∀s',dy c k H s k H' s'->Q () s')->wpAny (Md c) A (setItem va vb vc) Q E s
theorem qX.list {a:Nat} {l:List V} {i:Int} {k:Nat} {x:V} {H:Hp} (o:H[a]?=some (.list l)) (p:place i l.length=some k):qX (.ref a) (.int i) x H (H.set a (.list (l.set k x))):=λc κ s A va vb vc Q E hu S ra rb rc h=>by
 apply ra.kR λ_=>?_
 apply rb.kI λt=>?_
 refine S.kL o λvs e g R=>?_
 have z:=S.Ii o
 have f:Q () {s with heap:=s.heap.update (κ.ι a) (Obj.mapSeq λxs=>xs.setIfInBounds k vc)}:=h _ (dy.FU (t:=s.toks) S _ o g (by rw[aU];exact z) (List.setIfInBounds_toArray ..) (R.set rc k))
 rw[R.length]at p z
 exact yi (P:=λi k=>Q () {s with heap:=s.heap.update (κ.ι a) (Obj.mapSeq λxs=>xs.setIfInBounds k vc)}->wpAny (Md c) A (setItem (.ref (κ.ι a)) (.int i t) vc) Q E s) p z
  (λm l f=>ki_setAt (items:=vs.toArray) g (aS m) (Fu z (aI l)) (bz.mpr l) f)
  (λm m0 l f=>ki_setBack (items:=vs.toArray) g (iH (bz.mpr m0)) (iR (dR.mpr l)) (iR (iQ (Fu z l))) (by rw[bV,Cu l];exact f)) f
theorem qX.bj {a:Nat} {d:List (Int×V)} {x:V} {k:Int} {H:Hp} (o:H[a]?=some (.bj d)) (z:d.length<SZ):qX (.ref a) (.int k) x H (H.set a (.bj (dput k x d))):=λc κ s A va vb vc Q E hu S ra rb rc h=>by
 apply ra.kR λ_=>?_
 apply rb.kI λt=>?_
 obtain⟨kvs,D,P⟩:=S.2 _ _ o
 exact wpAny_setItem_pairs (knd:=ik c) (jq _ t) D (λh' D' hs=>h _ (dy.set S o rfl rfl rfl (.inl rfl) (qf hs) λm=>⟨_,D',(P.put rc _).mono m⟩)) (by rw[gj,←P.len];exact aI z)
theorem Jm {h h':Heap} {κ:Type} [DecidableEq κ] {xs:List (κ×Addr×Value)} {x:κ} {a:Addr} {w:Value} (W:∀y∈xs,∃vs e,h.get? y.2.1=some (ig vs e)) (g:∃vs e,h.get? a=some (ig vs e)) (m:∀a vs e,h.get? a=some (ig vs e)->h'.get? a=some (ig vs e)):
  ∀y∈storedH xs x a w,∃vs e,h'.get? y.2.1=some (ig vs e):=by
 have m':∀{a},(∃vs e,h.get? a=some (ig vs e))->∃vs e,h'.get? a=some (ig vs e):=fun⟨vs,e,g⟩=>⟨vs,e,m _ _ _ g⟩
 intro y hy
 unfold storedH at hy
 split at hy
 ·obtain⟨y',hy',rfl⟩:=aA.mp hy
  refine m' ?_
  unfold putAt
  split<;>exact W y' hy'
 ·rcases aE.mp hy with hy|hy
  ·exact m' (W y hy)
  ·cases ak.mp hy;exact m' g
theorem AR {κ:Type} [DecidableEq κ] (xs:List (κ×Addr×Value)) (x:κ) (a:Addr) (w:Value):(storedH xs x a w).map (λx=>(x.1,x.2.2))=stored (xs.map λx=>(x.1,x.2.2)) x w:=by
 have e:(atKey xs x).isSome=((xs.map λx=>(x.1,x.2.2)).any λkv=>decide (kv.1=x)):=by
  unfold atKey
  rw[Option.isSome_map,List.any_map,m7,List.find?_isSome,jb];exact qJ
 unfold storedH stored
 rw[e]
 split
 ·rw[bJ,bJ];refine cW λy _=>?_;show(λx=>(x.1,x.2.2)) (putAt x w y)=if y.1=x then(y.1,w)else(y.1,y.2.2);unfold putAt;split<;>rfl
 ·rw[az];rfl
theorem qX.bX {a:Nat} {d:List (List Int×V)} {x:V} {k:List Int} {H:Hp} (o:H[a]?=some (.bX d)) (z:d.length<SZ):qX (.ref a) (.tup (di k)) x H (H.set a (.bX (dput k x d))):=λc κ s A va vb vc Q E hu S ra rb rc h=>by
 apply ra.kR λ_=>?_
 apply rb.kK λa K T'=>?_
 obtain⟨xs,D,W,P⟩:=S.2 _ _ o
 refine wpAny_setItem_heap (knd:=tupleKind (ik c)) (uG hu) K D (λh' D' hs=>h _ (dy.set S o rfl rfl rfl (.inl rfl) (qf hs) λm=>⟨_,D',Jm W T' m.3,?_⟩)) (by rw[gj,←ae (f:=λx=>(x.1,x.2.2)) (as:=xs),←P.len];exact aI z)
 rw[AR];exact(P.put rc _).mono m
theorem qX.kJ {a n:Nat} {x:V} {k:Nat} {H:Hp} (o:H[a]?=some (.kJ n)) (z:n<SZ):qX (.ref a) (.str k) x H (H.set a (.kJ (n+1))):=λc κ s A va vb vc Q E hu S ra rb rc h=>by
 apply ra.kR λ_=>?_
 apply rb.kS λx t _=>?_
 obtain⟨kvs,D,P⟩:=S.2 _ _ o
 refine wpAny_setItem_pairs (knd:=PySem.strKind c.prog c.w) (k:=x) (beq_self_eq_true x) D (λh' D' hs=>h _ (dy.set S o rfl rfl rfl (.inl rfl) (qf hs) λ_=>⟨_,D',?_⟩)) (by rw[gj];exact aj P (aI z))
 unfold stored
 split
 ·rw[ae];exact cQ P
 ·rw[aq];exact aM P
end
section
noncomputable def Tr (H:Hp) (x:V) (q:Bool):Prop:=∀(c:Cx) (k:Lk) (s:Shared) (A:Around) (va:Value) (Q:Bool->Shared->Prop) (E:Value->Shared->Prop),dz c k H s.heap->VR c k H s.heap x va->(∀s',dy c k H s k H s'->Q q s')->wpAny (Md c) A (truthy va) Q E s
section
variable {H:Hp}
theorem Tr.none:Tr H .none false:=λc k s A va Q E S ra h=>by apply ra.kN;exact λ_ _ _=>h _ (c8.refl S)
theorem Tr.bool (b:Bool):Tr H (.bool b) b:=λc k s A va Q E S ra h=>by apply ra.kB;exact wpAny_truthy_bool (h _ (c8.refl S))
theorem Tr.int (i:Int):Tr H (.int i) (i !=0):=λc k s A va Q E S ra h=>by apply ra.kI λt=>?_;exact P.truthy_int (h _ (c8.refl S))
theorem Tr.list {a:Nat} {l:List V} (o:H[a]?=some (.list l)):Tr H (.ref a) (!l.isEmpty):=λc k s A va Q E S ra h=>by
 apply ra.kR λ_=>?_
 refine S.kL o λvs e g R=>?_
 have z:=S.Ii o
 rw[R.length]at z
 refine wpAny_truthy_list (items:=vs.toArray) ⟨_,g,rfl,_,rfl⟩ (Fu z (aC _)) ?_
 rw[show vs.toArray.isEmpty=l.isEmpty by have q:=R.length;cases l<;>cases vs<;>first|rfl|cases q];exact h _ (dy.tok S _)
end
section
variable {c:Cx} {T:Tb} {L:Lc} {H H1 H2 H3 H':Hp} {e a b d:CE} {l:mw} {v u w va vb vc:V} {k k':Lk} {s s':Shared} {A:Around} {r:Nat} {E:Value->Shared->Prop} {env:Env} {nm:List Str} {pos:Pos}
theorem F8 {o:LF} {q:V} (x:b_ c T a L H va H1) (y:b_ c T b L H1 vb H2) (R:iX o va vb H2 q H3):b_ c T (.bin o a b) L H q H3:=by
 intro A r env nm pe k s Q E S ok h
 apply HY ok λp f q pos ok=>?_
 apply i7 ok λho o1 o2=>?_
 rw[cJ ho]
 exact wpAny_BinOp (x S o1 λk1 s1 v1 T1 R1=>y (S.go T1) o2 λk2 s2 v2 T2 R2=>R _ _ _ _ _ _ _ _ T2.1 (T2.vr T1.1 R1) R2 λk3 s3 v3 T3 R3=>h _ _ _ ((T1.trans T2).trans T3) R3)
theorem F9 {i:Int} (x:b_ c T a L H (.int i) H1):b_ c T (.neg a) L H (.int (-i)) H1:=by
 intro A r env nm pe k s Q E S ok h
 apply Cd ok λf p pos ok=>iW ok λho o1=>?_
 rw[cJ ho]
 refine wpAny_UnaryOp (x S o1 λk1 s1 v1 T1 R1=>?_)
 apply R1.kI λt=>?_
 exact P.neg_int (h _ _ _ (dy.toks T1 _) (Fr ..))
theorem F_ {i:Int} (x:b_ c T a L H (.int i) H1):b_ c T (.inv a) L H (.int (-i-1)) H1:=by
 intro A r env nm pe k s Q E S ok h
 apply Cd ok λf p pos ok=>iW ok λho o1=>?_
 rw[cJ ho]
 refine wpAny_UnaryOp (x S o1 λk1 s1 v1 T1 R1=>?_)
 apply R1.kI λt=>?_
 exact invert_int (h _ _ _ (dy.toks T1 _) (Fr ..))
theorem Ga {q:Bool} (x:b_ c T a L H v H1) (t:Tr H1 v q):b_ c T (.not a) L H (.bool (!q)) H1:=by
 intro A r env nm pe k s Q E S ok h
 apply Cd ok λf p pos ok=>iW ok λho o1=>?_
 rw[cJ ho]
 exact wpAny_UnaryOp (x S o1 λk1 s1 v1 T1 R1=>not_value (t _ _ _ _ _ _ _ T1.1 R1 λs' T2=>h _ _ _ (T1.trans T2) rfl))
theorem Gb {o:B3} {q:Bool} (TO:nL c T) (x:b_ c T a L H va H1) (y:b_ c T b L H1 vb H2) (R:cN H2 o va vb q):b_ c T (.cmp o a b) L H (.bool q) H2:=by
 intro A r env nm pe k s Q E S ok h
 apply HZ ok λp f q pos ok=>?_
 apply oV ok λho hm o1 o2=>?_
 rw[cJ ho]at hm ⊢
 exact wpAny_Compare1 (x S o1 λk1 s1 v1 T1 R1=>y (S.go T1) o2 λk2 s2 v2 T2 R2=>R _ _ _ _ _ _ _ _ _ TO S.1.F7 T2.1 (T2.vr T1.1 R1) R2 λs3 T3=>h _ _ _ ((T1.trans T2).trans T3) rfl) (sN hm)
theorem CG {o:B3} {q:Bool} (TO:nL c T) (x:b_ c T a L H va H1) (y:b_ c T b L H1 vb H2) (R:cN H2 o va vb q):lq c T (.cmp o a b) L H q H2:=by
 intro A r env nm pe k s Q E S ok h
 apply HZ ok λp f q pos ok=>?_
 apply oV ok λho hm o1 o2=>?_
 rw[cJ ho]at hm ⊢
 exact wpAny_isTrue_Compare1 (x S o1 λk1 s1 v1 T1 R1=>y (S.go T1) o2 λk2 s2 v2 T2 R2=>R _ _ _ _ _ _ _ _ _ TO S.1.F7 T2.1 (T2.vr T1.1 R1) R2 λs3 T3=>wpAny_truthy_bool (h _ _ ((T1.trans T2).trans T3))) (sN hm)
theorem CH:nP c T .nil L H [] H:=by
 intro A r env nm pos kM k s Q E S ok h
 apply lP ok
 exact wpAny_items_nil (h _ _ _ (c8.refl S.2) rfl)
theorem AS {vs:List V} (x:b_ c T e L H v H1) (y:nP c T l L H1 vs H2):nP c T (.cons e l) L H (v::vs) H2:=by
 intro A r env nm pos kM k s Q E S ok h
 apply fh ok λp xs h1 o1 o2=>?_
 exact wpAny_items_cons (x S o1 λk1 s1 v1 T1 R1=>y (S.go T1) o2 λk2 s2 v2 T2 R2=>h _ _ _ (T1.trans T2) (.cons (T2.vr T1.1 R1) R2)) (nV _ h1)
theorem CJ {vs:List V} (x:nP c T l L H vs H1) (z:vs.length≤SZ):b_ c T (.list l) L H (.ref H1.length) (H1++[.list vs]):=by
 intro A r env nm pe k s Q E S ok h
 apply Cf ok λxs p ok=>?_
 refine wpAny_List (x S ok λk1 s1 v1 T1 R1=>⟨by rw[gj,←R1.length];exact z,?_⟩)
 have W:=dy.list1 T1.1 R1 z s1.toks
 exact h _ _ _ (T1.trans W.1) W.2
theorem Gc {vs:List V} (x:nP c T l L H vs H1) (z:vs.length≤SZ):b_ c T (.tup l) L H (.tup vs) H1:=by
 intro A r env nm pe k s Q E S ok h
 apply Cg ok λxs n p ok=>?_
 refine wpAny_Tuple (x S ok λk1 s1 v1 T1 R1=>⟨by rw[gj,←R1.length];exact z,?_⟩)
 have W:=dy.zK T1.1 (ig v1 0) s1.toks
 exact h _ _ _ (T1.trans W) (OO (e:=0) (Heap.get?_push_size _ rfl) (W.OQ T1.1 R1))
theorem Ge {q:V} (x:b_ c T a L H va H1) (y:b_ c T b L H1 vb H2) (R:Item H2 va vb q):b_ c T (.idx a b) L H q H2:=by
 intro A r env nm pe k s Q E S ok h
 apply wq ok λp f pos ok=>?_
 apply i7 ok λhy o1 o2=>?_
 exact Subscript_ (x S o1 λk1 s1 v1 T1 R1=>y (S.go T1) o2 λk2 s2 v2 T2 R2=>R _ _ _ _ _ _ _ _ _ _ hy S.1.N0 T2.1 (T2.vr T1.1 R1) R2 λs3 v3 T3 R3=>h _ _ _ ((T1.trans T2).trans T3) R3)
theorem sV (lo up st:Option Expr) (p:Pos):eval (.Slice lo up st p) env=(do
  let l ←valueOrNone (evalOpt lo env)
  let u ←holding [l] (valueOrNone (evalOpt up env))
  let s ←holding [l,u] (valueOrNone (evalOpt st env))
  newFields "slice" [l,u,s]):=rfl
theorem AT {y:Expr} {p:Pos} {Q:Value->Shared->Prop} (h:wpAny (Md c) A (eval y env) (λu s₁=>Q (.ref s₁.heap.objs.size) {s₁ with heap:=s₁.heap.push {cls:=.type "slice",data:=.fields #[.none,u,.none]}}) E s):
  wpAny (Md c) A (eval (.Slice none (some y) none p) env) Q E s:=by
 rw[sV]
 refine wpAny_bind (wpAny_pure (wpAny_bind (wpAny_holding (wpAny_mono h (λu s₁ h₁=>?_) λ_ _ e=>e))))
 refine wpAny_bind (wpAny_holding (wpAny_pure ?_))
 exact wpAny_newObj_type h₁ (by size_fits)
theorem AV {y:Expr} {p:Pos} {Q:Value->Shared->Prop} (h:wpAny (Md c) A (eval y env) (λu s₁=>Q (.ref s₁.heap.objs.size) {s₁ with heap:=s₁.heap.push {cls:=.type "slice",data:=.fields #[u,.none,.none]}}) E s):
  wpAny (Md c) A (eval (.Slice (some y) none none p) env) Q E s:=by
 rw[sV]
 refine wpAny_bind (wpAny_mono h (λu s₁ h₁=>?_) λ_ _ e=>e)
 refine wpAny_bind (wpAny_holding (wpAny_pure ?_))
 refine wpAny_bind (wpAny_holding (wpAny_pure ?_))
 exact wpAny_newObj_type h₁ (by size_fits)
theorem CK {q:List V} {n:Nat} (x:b_ c T a L H va H1) (y:b_ c T b L H1 (.int n) H2) (R:sU H2 va n q) (z:n≤SZ):b_ c T (.sL a b) L H (.ref H2.length) (H2++[.list q]):=by
 intro A r env nm pe k s Q E S ok h
 apply wq ok λp f pos ok=>?_
 apply iW ok λo1 ok=>?_
 apply Jc ok λw p2 o2=>?_
 refine Subscript_ (x S o1 λk1 s1 v1 T1 R1=>AT (y (S.go T1) o2 λk2 s2 v2 T2 R2=>?_))
 apply R2.kI λt=>?_
 refine R _ _ _ (λv=>wpAny (Md c) A (subscriptTail _ _ v _) _ _ _) _ T2.1 (T2.vr T1.1 R1) λa' vs e g RR z1 z2=>?_
 refine sT g .none (.int n t) z1 (λo i=>rfl) ?_
 have W:=dy.slice (x:={cls:=.type "slice",data:=.fields #[.none,.int n t,.none]}) (vs:=slicePick vs.toArray none (some (n:Int)) none) T2.1 (l:=q) (by rw[slicePick_upto' vs.toArray n];exact RR) z2
 exact h _ _ _ ((T1.trans T2).trans W.1) W.2
theorem AW {q:List V} {n:Nat} (x:b_ c T a L H va H1) (y:b_ c T b L H1 (.int n) H2) (R:wC H2 va n q) (z:n≤SZ):b_ c T (.rF a b) L H (.ref H2.length) (H2++[.list q]):=by
 intro A r env nm pe k s Q E S ok h
 apply wq ok λp f pos ok=>?_
 apply iW ok λo1 ok=>?_
 apply Jd ok λw p2 o2=>?_
 refine Subscript_ (x S o1 λk1 s1 v1 T1 R1=>AV (y (S.go T1) o2 λk2 s2 v2 T2 R2=>?_))
 apply R2.kI λt=>?_
 refine R _ _ _ (λv=>wpAny (Md c) A (subscriptTail _ _ v _) _ _ _) _ T2.1 (T2.vr T1.1 R1) λa' vs e g RR z1 z2=>?_
 refine sT g (.int n t) .none z1 (λo i=>rfl) ?_
 have W:=dy.slice (x:={cls:=.type "slice",data:=.fields #[.int n t,.none,.none]}) (vs:=slicePick vs.toArray (some (n:Int)) none none) T2.1 (l:=q) (by rw[slicePick_from' vs.toArray n];exact RR) z2
 exact h _ _ _ ((T1.trans T2).trans W.1) W.2
theorem CL {q:Bool} (x:lq c T e L H q H1):lq c T (.not e) L H (!q) H1:=by
 intro A r env nm pe k s Q E S ok h
 apply Cd ok λf p pos ok=>iW ok λho o1=>?_
 rw[cJ ho]
 exact wpAny_isTrue_Not (x S o1 λk1 s1 T1=>h _ _ T1)
theorem CM {q:Bool} (x:iC c T .And l L H q H1):lq c T (.and l) L H q H1:=by
 intro A r env nm pe k s Q E S ok h
 apply vf ok λf p pos ok=>iW ok λho o1=>?_
 rw[cJ ho]
 exact wpAny_isTrue_BoolOp (x S o1 h)
theorem Gf {q:Bool} (x:iC c T .Or l L H q H1):lq c T (.or l) L H q H1:=by
 intro A r env nm pe k s Q E S ok h
 apply vf ok λf p pos ok=>iW ok λho o1=>?_
 rw[cJ ho]
 exact wpAny_isTrue_BoolOp (x S o1 h)
theorem CN:iC c T .And .nil L H true H:=by
 intro A r env nm kM k s Q E S ok h
 apply lP ok
 exact wpAny_allTrue_And_nil (h _ _ (c8.refl S.2))
theorem CO:iC c T .Or .nil L H false H:=by
 intro A r env nm kM k s Q E S ok h
 apply lP ok
 exact wpAny_allTrue_Or_nil (h _ _ (c8.refl S.2))
theorem Jn (x:lq c T e L H false H1):iC c T .And (.cons e l) L H false H1:=by
 intro A r env nm kM k s Q E S ok h
 apply fh ok λp xs h1 o1 o2=>?_
 exact wpAny_allTrue_And_cons (x S o1 λk1 s1 T1=>h _ _ T1)
theorem Jo {q:Bool} (x:lq c T e L H true H1) (y:iC c T .And l L H1 q H2):iC c T .And (.cons e l) L H q H2:=by
 intro A r env nm kM k s Q E S ok h
 apply fh ok λp xs h1 o1 o2=>?_
 exact wpAny_allTrue_And_cons (x S o1 λk1 s1 T1=>y (S.go T1) o2 λk2 s2 T2=>h _ _ (T1.trans T2))
theorem Jp (x:lq c T e L H true H1):iC c T .Or (.cons e l) L H true H1:=by
 intro A r env nm kM k s Q E S ok h
 apply fh ok λp xs h1 o1 o2=>?_
 exact wpAny_allTrue_Or_cons (x S o1 λk1 s1 T1=>h _ _ T1)
theorem Jq {q:Bool} (x:lq c T e L H false H1) (y:iC c T .Or l L H1 q H2):iC c T .Or (.cons e l) L H q H2:=by
 intro A r env nm kM k s Q E S ok h
 apply fh ok λp xs h1 o1 o2=>?_
 exact wpAny_allTrue_Or_cons (x S o1 λk1 s1 T1=>y (S.go T1) o2 λk2 s2 T2=>h _ _ (T1.trans T2))
theorem Gg {q:Bool} (x:lq c T a L H q H1) (y:b_ c T (if q then b else d) L H1 v H2):b_ c T (.ite a b d) L H v H2:=by
 intro A r env nm pe k s Q E S ok h
 apply LN ok λp1 p2 p3 pos ok=>?_
 apply i7 ok λo1 o2 o3=>?_
 refine wpAny_IfExp (x S o1 λk1 s1 T1=>?_)
 cases q
 ·exact y (S.go T1) o3 λk2 s2 v2 T2 R2=>h _ _ _ (T1.trans T2) R2
 ·exact y (S.go T1) o2 λk2 s2 v2 T2 R2=>h _ _ _ (T1.trans T2) R2
theorem ug (x y z:Expr) (p:Pos) (w:Sem Value):isTrue (.IfExp x y z p) env w=(do if ←isTrue x env (eval x env)then isTrue y env (eval y env)else isTrue z env (eval z env)):=rfl
theorem CP {q q2:Bool} (x:lq c T a L H q H1) (y:lq c T (if q then b else d) L H1 q2 H2):lq c T (.ite a b d) L H q2 H2:=by
 intro A r env nm pe k s Q E S ok h
 apply LN ok λp1 p2 p3 pos ok=>?_
 apply i7 ok λo1 o2 o3=>?_
 rw[ug]
 refine wpAny_bind (x S o1 λk1 s1 T1=>?_)
 cases q
 ·exact y (S.go T1) o3 λk2 s2 T2=>h _ _ (T1.trans T2)
 ·exact y (S.go T1) o2 λk2 s2 T2=>h _ _ (T1.trans T2)
noncomputable def zO (op:BoolOp) (t:Bool) (v:Value) (m:Sem Value):Sem Value:=match op,t with
 | .And,false| .Or,true=>pure v
 |_,_=>m
theorem CR {op:BoolOp} {x y:Expr} {xs:List Expr}:boolOp pos op (evalEach (x::y::xs) env)=(do
  let v ←eval x env
  standAt pos
  let t ←holding [v] (truthy v)
  zO op t v (boolOp pos op (evalEach (y::xs) env))):=rfl
theorem zP {op:BoolOp} (x:b_ c T e L H v H1):wu c T op (.cons e .nil) L H v H1:=by
 intro A r env nm pos kM k s Q E S ok h
 apply fh ok λp xs h1 o1 o2=>?_
 apply lP o2
 exact x S o1 h
theorem Ip {op:BoolOp} {f:CE} {q:Bool} {nm:List Str} {kM:List Expr} {Q:Value->Shared->Prop} (x:b_ c T e L H v H1) (t:Tr H1 v q) (S:St c A r k H s env nm L) (ok:jp T r env.scope nm (.cons e (.cons f l)) kM=true)
  (h:∀w y ys k' s',jp T r env.scope nm (.cons f l) (y::ys)=true->dy c k H s k' H1 s'->VR c k' H1 s'.heap v w->wpAny (Md c) A (zO op q w (boolOp pos op (evalEach (y::ys) env))) Q E s'):wpAny (Md c) A (boolOp pos op (evalEach kM env)) Q E s:=by
 apply fh ok λp xs h1 o1 o2=>?_
 revert o2
 refine λo2=>fh (P:=λxs=>jp T r env.scope nm (.cons f l) xs=true->wpAny (Md c) A (boolOp pos op (evalEach (p::xs) env)) Q E s) o2 (λy ys _ _ _ o2=>?_) o2
 rw[CR]
 exact wpAny_bind (x S o1 λk1 s1 v1 T1 R1=>wpAny_bind (wpAny_standAt (wpAny_bind (wpAny_holding (t _ _ _ _ _ _ _ T1.1 R1 λs2 T2=>h _ _ _ _ _ o2 (T1.trans T2) (T2.vr T1.1 R1))))))
theorem zQ {op:BoolOp} {f:CE} {q:Bool} (O0:∀v m,zO op q v m=pure v) (x:b_ c T e L H v H1) (t:Tr H1 v q):wu c T op (.cons e (.cons f l)) L H v H1:=λ{A r env nm pos kM k s Q E} S ok h=>
 Ip x t S ok λw y ys k' s' _ W R=>by rw[O0];exact wpAny_pure (h _ _ _ W R)
theorem zR {op:BoolOp} {f:CE} {q:Bool} (O0:∀v m,zO op q v m=m) (x:b_ c T e L H v H1) (t:Tr H1 v q) (y:wu c T op (.cons f l) L H1 u H2):wu c T op (.cons e (.cons f l)) L H u H2:=λ{A r env nm pos kM k s Q E} S ok h=>
 Ip x t S ok λw z zs k' s' o2 W R=>by rw[O0];exact y (S.go W) o2 λk3 s3 v3 T3 R3=>h _ _ _ (W.trans T3) R3
theorem snd_and (x:wu c T .And l L H v H1):b_ c T (.and l) L H v H1:=by
 intro A r env nm pe k s Q E S ok h
 apply vf ok λf p pos ok=>iW ok λho o1=>?_
 rw[cJ ho]
 exact x S o1 h
theorem Jr (x:wu c T .Or l L H v H1):b_ c T (.or l) L H v H1:=by
 intro A r env nm pe k s Q E S ok h
 apply vf ok λf p pos ok=>iW ok λho o1=>?_
 rw[cJ ho]
 exact x S o1 h
end
end
section
section
variable {c:Cx} {T:Tb} {L:Lc} {H H1 H2 H3 H':Hp} {e a b d:CE} {l:mw} {v u w va vb vc:V} {k k':Lk} {s s':Shared} {A:Around} {r:Nat} {E:Value->Shared->Prop} {env:Env} {nm:List Str} {pos:Pos}
theorem wI {a:Value} {op Gh:CmpOp} {r r':Sem Value}:testChain pos a [op,Gh] [r,r']=(do
  let rv ←holding [a] r
  standAt pos
  let c ←holding [a,rv] (compareOp op a rv)
  release [a,rv] [c]
  if ←holding [c,rv] (truthy c)then testChain pos rv [Gh] [r']else pure false):=rfl
theorem yp {x y z:Expr} {op Gh:CmpOp} {wh:Sem Value} {Q:Bool->Shared->Prop} (hm:vj Gh z=true)
  (h:wpAny (Md c) A (eval x env) (λa s₁=>wpAny (Md c) A (eval y env) (λb s₂=>wpAny (Md c) A (compareOp op a b) (λq s₃=>wpAny (Md c) A (truthy q) (λt s₄=>
   if t then wpAny (Md c) A (eval z env) (λd s₅=>wpAny (Md c) A (compareOp Gh b d) (λq s₆=>wpAny (Md c) A (truthy q) Q E s₆) E s₅) E s₄ else Q false s₄) E s₃) E s₂) E s₁) E s):
  wpAny (Md c) A (isTrue (.Compare x [op,Gh] [y,z] pos) env wh) Q E s:=by
 have N2:markedEach [op,Gh] [y,z] (evalEach [y,z] env)=[eval y env,eval z env]:=congrArg (λw=>[eval y env,w]) (markedBehindIn_of_false (sN hm))
 show wpAny (Md c) A (do testChain pos (←eval x env) [op,Gh] (markedEach [op,Gh] [y,z] (evalEach [y,z] env))) Q E s
 rw[N2]
 refine wpAny_bind (wpAny_mono h (λa s₁ h₁=>?_) λ_ _ e=>e)
 rw[wI]
 refine wpAny_bind (wpAny_holding (wpAny_mono h₁ (λb s₂ h₂=>wpAny_bind (wpAny_standAt (wpAny_bind (wpAny_holding (wpAny_mono h₂ (λq s₃ h₃=>?_) λ_ _ e=>e))))) λ_ _ e=>e))
 have rel:∀{vs keep:List Value} {Q:Unit->Shared->Prop} {s:Shared},Q () s->wpAny (Md c) A (release vs keep) Q E s:=λhq Γ p _=>by rw[Sem.wp_release];exact hq
 refine wpAny_bind (rel (wpAny_bind (wpAny_holding (wpAny_mono h₃ (λt s₄ h₄=>?_) λ_ _ e=>e))))
 cases t with
 |false=>exact wpAny_pure h₄
 |true=>exact wpAny_bind (wpAny_holding (wpAny_mono h₄ (λd s₅ h₅=>wpAny_bind (wpAny_standAt (wpAny_bind (wpAny_operating (wpAny_mono h₅ (λq s₆ h₆=>wpAny_holding h₆) λ_ _ e=>e))))) λ_ _ e=>e))
theorem CT {o p:B3} {t:Bool} {pe:Expr} {Q:Bool->Shared->Prop} (TO:nL c T) (x:b_ c T a L H va H1) (y:b_ c T b L H1 vb H2) (R:cN H2 o va vb t) (S:St c A r k H s env nm L) (ok:gK T r env.scope nm (.rV o p a b d) pe=true)
  (h:∀k' s' v z,gK T r env.scope nm d z=true->dy c k H s k' H2 s'->VR c k' H2 s'.heap vb v->if t then wpAny (Md c) A (eval z env) (λd s₅=>wpAny (Md c) A (compareOp (Fs p) v d) (λq s₆=>wpAny (Md c) A (truthy q) Q E s₆) E s₅) E s' else Q false s'):wpAny (Md c) A (isTrue pe env (eval pe env)) Q E s:=by
 apply I_ ok λp1 f f' p2 p3 pos ok=>?_
 apply iW ok λho ok=>?_
 apply oV ho λho ho' hm N2=>?_
 apply i7 ok λo1 o2 o3=>?_
 rw[cJ ho']at N2 ⊢
 rw[cJ ho]
 exact yp N2 (x S o1 λk1 s1 v1 T1 R1=>y (S.go T1) o2 λk2 s2 v2 T2 R2=>R _ _ _ _ _ _ _ _ _ TO S.1.F7 T2.1 (T2.vr T1.1 R1) R2 λs3 T3=>wpAny_truthy_bool (h _ _ _ _ o3 ((T1.trans T2).trans T3) (T3.vr T2.1 R2)))
theorem AX {o p:B3} (TO:nL c T) (x:b_ c T a L H va H1) (y:b_ c T b L H1 vb H2) (R:cN H2 o va vb false):lq c T (.rV o p a b d) L H false H2:=λS ok h=>
 CT TO x y R S ok λ_ _ _ _ _ W _=>h _ _ W
theorem AY {o p:B3} {q:Bool} (TO:nL c T) (x:b_ c T a L H va H1) (y:b_ c T b L H1 vb H2) (R:cN H2 o va vb true) (z:b_ c T d L H2 vc H3) (R':cN H3 p vb vc q):lq c T (.rV o p a b d) L H q H3:=λS ok h=>
 CT TO x y R S ok λ_ _ _ _ o3 W rv=>z (S.go W) o3 λk4 s4 v4 T4 R4=>R' _ _ _ _ _ _ _ _ _ TO S.1.F7 T4.1 (T4.vr W.1 rv) R4 λs5 T5=>wpAny_truthy_bool (h _ _ ((W.trans T4).trans T5))
noncomputable def L_:=pick (λ_ _=>true) (λ_ _ _ _=>true) (λo _ _=>o != .Not) z4 z3 z4 (λ_ _=>true) (λ_ _ _=>true) (λ_ _ _=>true) (λ_ _ _ _=>true) (λ_ _ _=>true) (λ_ _ _ _=>true) (λ_ _ _=>true) (λ_ _ _ _=>true) λ_ _ _=>true
theorem CU {pe:Expr} (h:L_ pe=true) (wh:Sem Value):isTrue pe env wh=(do let v ←wh;standAt pe.pos;holding [v] (truthy v)):=
 dF (P:=λpe=>isTrue pe env wh=(do let v ←wh;standAt pe.pos;holding [v] (truthy v))) h (λ_ _ _=>rfl) (λ_ _ _ _ _=>rfl) (λo _ _ h=>by cases o<;>first|rfl|exact ff h) Z4 Z3 Z4 (λ_ _ _=>rfl) (λ_ _ _ _=>rfl) (λ_ _ _ _=>rfl)
  (λ_ _ _ _ _=>rfl) (λ_ _ _ _=>rfl) (λ_ _ _ _ _=>rfl) (λ_ _ _ _=>rfl) (λ_ _ _ _ _=>rfl) λ_ _ _ _=>rfl
noncomputable def PT (e:Expr):Prop:=L_ e=true
theorem Ma {sc:Scope} {y:Str} {f:Expr->Bool} {pe:Expr} (ok:Ci sc y f pe=true):PT pe:=Cj ok λ_ _ _ _ _ _=>rfl
theorem Mc {y:Str} {f:Expr->List Expr->Bool} {pe:Expr} (ok:Ig y f pe=true):PT pe:=yg ok λ_ _ _ _ _ _ _=>rfl
theorem Js {f:Expr->Expr->Bool} {pe:Expr} (ok:AK f pe=true):PT pe:=wq ok λ_ _ _ _=>rfl
theorem Gi {f:Str->List Expr->Bool} {pe:Expr} (ok:sQ f pe=true):PT pe:=qT ok λ_ _ _ _ _=>rfl
theorem Me {o:UnaryOp} {f:Expr->Bool} {pe:Expr} (ok:LJ (λp x=>p==o&&f x) pe=true) (n:(o != .Not)=true):PT pe:=Cd ok λ_ _ _ h=>(cJ (cI h).1:_=o)▸n
theorem Jt {f:Const->Bool} {pe:Expr} (ok:sR f pe=true):PT pe:=su ok λ_ _ _ _=>rfl
theorem O1 {sc:Scope} {pe:Expr} (ok:gK T r sc nm e pe=true) (h:e.qQ=true):PT pe:=by
 cases e with
 |lit v=>
  cases v with
  |none|bool|str=>exact Jt ok
  |int=>exact dF (P:=PT) ok (λ_ _ _=>rfl) Z4 Z3 Z4 Z3 Z4 Z2 Z3 Z3 Z4 Z3 Z4 Z3 Z4 λ_ _ _ _=>rfl
  |_=>exact ff ok
 |not|and|or|ite|cmp|rV=>exact ff h
 |var=>exact pJ (P:=PT) ok λ_ _ _=>rfl
 |bin=>exact HY (P:=PT) ok λ_ _ _ _ _=>rfl
 |list=>exact Cf (P:=PT) ok λ_ _ _=>rfl
 |tup=>exact Cg (P:=PT) ok λ_ _ _ _=>rfl
 |comp=>exact ye (P:=PT) ok λ_ _ _ _ _ _ _ _=>rfl
 |attr=>exact vg (P:=PT) ok λ_ _ _ _=>rfl
 |iM=>exact Ch (P:=PT) ok λ_=>rfl
 |bA=>exact vh (P:=PT) ok λ_ _ _ _ _ _ _=>rfl
 |idx|sL|rF=>exact Js ok
 |call|new|max=>exact Gi ok
 |neg|inv=>exact Me ok rfl
 |len|sorted|listOf|tupleOf|intOf|sum=>exact Ma ok
 |append|extend|pop|u9|qP|u_=>exact Mc ok
theorem CV {q:Bool} (x:b_ c T e L H v H1) (t:Tr H1 v q) (n:e.qQ=true):lq c T e L H q H1:=by
 intro A r env nm pe k s Q E S ok h
 rw[CU (O1 ok n)]
 exact wpAny_bind (x S ok λk1 s1 v1 T1 R1=>wpAny_bind (wpAny_standAt (wpAny_holding (t _ _ _ _ _ _ _ T1.1 R1 λs2 T2=>h _ _ (T1.trans T2)))))
theorem OR.emp {h:Heap} {n:Nat} (g:h.get? (k.ι n)=some {cls:=.type "dict",data:=.dict #[]}) (q:Nat):OR c k H h n (if q=0 then .bj []else if q=1 then .bX []else .kJ 0):=by
 split
 ·exact⟨[],⟨_,#[],0,g,⟨rfl,rfl,rfl⟩,rfl,λe he=>absurd (oA.mpr he) aR,.nil,.nil⟩,rfl⟩
 ·split
  ·exact⟨[],⟨_,#[],0,g,⟨rfl,rfl,rfl⟩,rfl,rfl,λx hx=>absurd hx aR,.nil⟩,λx hx=>absurd hx aR,rfl⟩
  ·exact⟨[],⟨_,#[],0,g,⟨rfl,rfl,rfl⟩,rfl,λe he=>absurd (oA.mpr he) aR,.nil,.nil⟩,aC _⟩
theorem AZ {q:Nat}:b_ c T (.iM q) L H (.ref H.length) (H++[if q=0 then .bj []else if q=1 then .bX []else .kJ 0]):=by
 intro A r env nm pe k s Q E S ok h
 apply Ch ok λp=>?_
 rw[eval_Dict_empty]
 refine wpAny_bind (wpAny_standAt ?_)
 refine wpAny_newObj_type (data:=.dict #[] 0) (T:="dict") ?_ (by size_fits)
 have W:=dy.new (t:=s.toks) S.2 (by split;rfl;split<;>rfl) (λb o e=>Heap.get?_push_of_some _ e) (iq _) (S.2.nQ λ_ _ e=>e) (OR.emp (by rw[show(k.add H.length s.heap.objs.size s.heap.objs.size).ι H.length=s.heap.objs.size from if_pos rfl];exact Heap.get?_push_size (o:={cls:=.type "dict",data:=.dict #[]}) _ rfl) q)
 exact h _ _ _ W.1 W.2
end
end
section
section
variable {c:Cx} {T:Tb} {L:Lc} {H H1:Hp} {h:Heap} {a:CE} {v u:V} {k:Lk} {s:Shared} {A:Around} {r:Nat} {E:Value->Shared->Prop} {env:Env} {nm:List Str}
theorem dz.Fv (S:dz c k H h):c.K.In h:=c.X.keeps S.1
section
variable {fs:List (Nat×V)} {es:List DictEntry} {f:Nat} {n:Str}
theorem qR.kN {P:List DictEntry->Prop} (r:qR c k H h [] es) (q:P []):P es:=cr r▸q
theorem qR.kC {p:Nat×V} {P:List DictEntry->Prop} (r:qR c k H h (p::fs) es) (q:∀hh x t v r,c.G.at_ p.1=some x->VR c k H h p.2 v->qR c k H h fs r->P (⟨hh,.str x t,v⟩::r)):P es:=
 ju r λhh r=>r.elim λx r=>r.elim λt r=>r.elim λv r=>r.elim λes r=>cr r.1▸q hh x t v es r.2.1 r.2.2.1 r.2.2.2
theorem qR.cons {g:Nat} {hh:Int} {x:Str} {t:Tok} {v:Value} (hx:c.G.at_ g=some x) (r:VR c k H h u v) (R:qR c k H h fs es):qR c k H h ((g,u)::fs) (⟨hh,.str x t,v⟩::es):=⟨hh,x,t,v,es,rfl,hx,r,R⟩
theorem qR.noRef:∀{fs:List (Nat×V)} {es:List DictEntry},qR c k H h fs es->es.any (·.refKey)=false
 |[],_,r=>r.kN (P:=λes=>es.any (·.refKey)=false) rfl
 |_::_,_,r=>r.kC (P:=λes=>es.any (·.refKey)=false) λ_ _ _ _ _ _ _ q=>q.noRef
theorem qR.len:∀{fs:List (Nat×V)} {es:List DictEntry},qR c k H h fs es->fs.length=es.length
 |[],_,r=>r.kN (P:=λes=>0=es.length) rfl
 |_::_,_,r=>r.kC (P:=λes=>_=es.length) λ_ _ _ _ _ _ _ q=>congrArg Nat.succ q.len
theorem Mf (TO:nL c T) {g f:Nat} {x n:Str} (h1:c.G.at_ g=some x) (h2:T.at_[f]?=some n):(x==n)=decide (g=f):=by
 rw[TO.5]at h1
 by_cases q:g=f
 ·subst q;cases h1.symm.trans h2;rw[beq_self_eq_true,decide_eq_true rfl]
 ·rw[beq_false_of_ne λz=>q (vm TO.6 h1 (h2.trans (congrArg some (cr z)))),decide_eq_false q]
theorem Ju {g:Nat}:qO f ((g,u)::fs)=if g=f then some u else qO f fs:=rfl
theorem Jv {g:Nat}:dv f v ((g,u)::fs)=if g=f then(g,v)::fs else(g,u)::dv f v fs:=rfl
theorem qR.find (TO:nL c T) (hn:T.at_[f]?=some n):∀{fs:List (Nat×V)} {es:List DictEntry},qR c k H h fs es->OV c k H h (qO f fs) ((es.find? (·.key.isStr n)).map (·.val))
 |[],_,r=>r.kN (P:=λes=>((es.find? (·.key.isStr n)).map (·.val))=none) rfl
 |(g,u)::fs,_,r=>by
  apply r.kC λhh x t v es hx rv R=>?_
  have ih:=qR.find TO hn R
  have e:(DictEntry.mk hh (.str x t) v).key.isStr n=decide (g=f):=Mf TO hx hn
  rw[Ju]
  by_cases q:g=f
  ·rw[if_pos q,fp (p:=λx:DictEntry=>x.key.isStr n) (e.trans (decide_eq_true q))];exact⟨_,rfl,rv⟩
  ·rw[if_neg q,fw (p:=λx:DictEntry=>x.key.isStr n) (λz=>cA ((decide_eq_false q).symm.trans (e.symm.trans z)))];exact ih
theorem getLE {es:List DictEntry} {q:Option Value} (nr:es.any (·.refKey)=false) (x:(es.find? (·.key.isStr n)).map (·.val)=q):getL n es=some q:=by
 unfold getL
 cases z:es.find? (·.key.isStr n)with
 |some e=>rw[z]at x;exact congrArg some x
 |none=>rw[z]at x;rw[nr];exact congrArg some x
theorem qR.put (TO:nL c T) (hn:T.at_[f]?=some n) {hh:Int} {t:Tok} {v':Value} (rv:VR c k H h v v'):∀{fs:List (Nat×V)} {es:List DictEntry},qR c k H h fs es->qR c k H h (dv f v fs) (putL n hh (.str n t) v' es)
 |[],_,r=>r.kN (P:=λes=>qR c k H h (dv f v []) (putL n hh (.str n t) v' es)) (.cons ((TO.5 f).trans hn) rv rfl)
 |(g,u)::fs,_,r=>by
  apply r.kC λhh' x t' v0 es hx r0 R=>?_
  have e:(DictEntry.mk hh' (.str x t') v0).key.isStr n=decide (g=f):=Mf TO hx hn
  rw[Jv]
  unfold putL
  by_cases q:g=f
  ·rw[if_pos q,if_pos (e.trans (decide_eq_true q))];exact .cons hx rv R
  ·rw[if_neg q,if_neg (λz=>cA ((decide_eq_false q).symm.trans (e.symm.trans z)))];exact .cons hx r0 (qR.put TO hn rv R)
end
theorem CX (n:Str) (hh:Int) (t v:Value):∀es:List DictEntry,(putL n hh t v es).length≤es.length+1
 |[]=>aC _
 |e::es=>by
  unfold putL
  split
  ·exact gG _
  ·exact aM (CX n hh t v es)
theorem VR.handed {v:Value}:∀{x:V},VR c k H h x v->handedIn v=true
 | .none,r=>r.kN (P:=λv=>handedIn v=true) rfl
 | .bool _,r=>r.kB (P:=λv=>handedIn v=true) rfl
 | .int _,r=>r.kI (P:=λv=>handedIn v=true) λ_=>rfl
 | .str _,r=>r.kS (P:=λv=>handedIn v=true) λ_ _ _=>rfl
 | .tup _,r=>r.kT (P:=λv=>handedIn v=true) λ_ _ _ _ _=>rfl
 | .ref _,r=>r.kR (P:=λv=>handedIn v=true) λ_=>rfl
theorem A0 (o:Expr) (n:Str) (p:Pos):eval (.Attribute o n p) env=(do
  let ov ←attributeBase o n env (eval o env)
  standAt p.atName
  let r ←holding [ov] (getAttr ov n true)
  letTemporaryGo o ov r
  pure r):=rfl
theorem zT {K:Frag} {C:Addr} {n:Str} {P:Prop} (x:zL K C n false=true) (q:∀a,findIn K (.ref C) n=some a->noGet K a=true->takerIn K C n=some none->P):P:=by
 unfold zL at x
 rw[Bool.false_or]at x
 cases z:findIn K (.ref C) n with
 |none=>rw[z]at x;exact ff x
 |some a=>rw[z]at x;exact q a z (cI x).1 (cJ (cI x).2)
theorem dz.kO {P:Prop} (S:dz c k H h) {j cl:Nat} {fs:List (Nat×V)} (g:H[j]?=some (.inst cl fs)) (q:∀es n,cl<c.G.HW->qR c k H h fs es->h.get? (k.ι j)=some (instObj (c.G.cl cl) (k.δ j))->h.get? (k.δ j)=some (dictOf es n)->InstAt h (k.ι j) (instObj (c.G.cl cl) (k.δ j)) (c.G.cl cl) (some (dictOf es n))->P):P:=by
 obtain⟨q0,g1,es,n,g2,R⟩:=S.2 _ _ g
 exact q es n q0 R g1 g2 ⟨g1,rfl,rfl,g2⟩
theorem CY {f kk cl:Nat} {fs:List (Nat×V)} (TO:nL c T) (x:b_ c T a L H (.ref kk) H1) (o:H1[kk]?=some (.inst cl fs)) (m:T.P.xT cl f=none) (hf:qO f fs=some v):b_ c T (.attr a f) L H v H1:=by
 intro A r env nm pe k s Q E S ok h
 apply vg ok λy n p ok=>?_
 apply i7 ok λhn hb o1=>?_
 rw[A0,wE hb]
 refine wpAny_bind (x S o1 λk1 s1 v1 T1 R1=>wpAny_bind (wpAny_standAt (wpAny_bind (wpAny_holding ?_))))
 apply R1.kR λ_=>?_
 refine T1.1.kO o λes e q0 R g1 g2 I=>?_
 have fd:=R.find TO (cJ hn)
 rw[hf]at fd
 obtain⟨v',hl,rv⟩:=fd
 have ck:=TO.7 cl q0 f n (cJ hn)
 rw[m]at ck
 refine zT ck λat' ha hg _=>?_
 obtain⟨pg,hd,_⟩:=TO.8 cl q0
 exact get_value T1.1.Fv I (plainGet_of pg).1 (findObj_own hd ha hg (getLE R.noRef hl)) rv.handed (wpAny_bind (wpAny_letTemporaryGo (wpAny_pure (h _ _ _ (dy.toks T1 _) rv))))
theorem dy.Mg {kk cl f:Nat} {fs:List (Nat×V)} {es Mh:List DictEntry} {e e':Nat} {h':Heap} {t:Nat} (S:dz c k H s.heap) (o:H[kk]?=some (.inst cl fs)) (q0:cl<c.G.HW) (g1:s.heap.get? (k.ι kk)=some (instObj (c.G.cl cl) (k.δ kk))) (g2:s.heap.get? (k.δ kk)=some (dictOf es e)) (hs:Heap.SameBut (k.δ kk) s.heap h') (D:h'.get? (k.δ kk)=some (dictOf Mh e')) (R:qR c k H s.heap (dv f v fs) Mh):
  dy c k H s k (H.set kk (.inst cl (dv f v fs))) {s with heap:=h',toks:=t}:=
 dy.set S o rfl rfl rfl (.inr ⟨rfl,rfl⟩) (qf hs) λm=>⟨q0,(hs.2 _ λz=>by rw[z,g2]at g1;cases g1).trans g1,_,_,D,R.mono m⟩
theorem vp {kk cl f:Nat} {n:Str} {fs:List (Nat×V)} {v':Value} {Q:Unit->Shared->Prop} (TO:nL c T) (S:dz c k H s.heap) (o:H[kk]?=some (.inst cl fs)) (hn:T.at_[f]?=some n) (m:T.P.xT cl f=none) (z:fs.length≤100)
  (rv:VR c k H s.heap v v') (h:∀s',dy c k H s k (H.set kk (.inst cl (dv f v fs))) s'->Q () s'):wpAny (Md c) A (setAttr (.ref (k.ι kk)) n v') Q E s:=by
 refine S.kO o λes e q0 R g1 g2 I=>?_
 have ck:=TO.7 cl q0 f n hn
 rw[m]at ck
 refine zT ck λat' ha hg ht=>?_
 obtain⟨pg,hd,po,hsa⟩:=TO.8 cl q0
 have KI:=S.Fv
 refine set_plain KI I hsa (osa_open (s:={s with toks:=s.toks+1}) KI I po ht λb=>?_)
 obtain⟨cd,hc,hd'⟩:=any_some hd
 have h1:Looks (Md c) s.heap (classData (c.G.cl cl)) cd:=looks_clsIn (M:=Md c) KI hc
 refine wpAny_bind (wpAny_pure (wpAny_bind (wpAny_bind (wpAny_loadPart g1 (wpAny_bind (Looks.here (s:={s with toks:=s.toks+1}) h1 ?_))))))
 rw[hd']
 refine wpAny_pure (a:=some (k.δ kk)) (wpAny_bind (wpAny_pure (wpAny_bind ?_)))
 unfold nsSet
 refine wpAny_bind (wpAny_bind (wpAny_askSetting (wpAny_pure (wpAny_bind (wpAny_mkText (wpAny_bind (wpAny_loadPart g2 ?_)))))))
 have nr:es.toArray.any (·.refKey)=false:=by rw[List.any_toArray];exact R.noRef
 have cc:(!es.toArray.any (·.key.isStr n)&&es.toArray.any (·.refKey))=false:=by rw[nr,Bool.and_false]
 dsimp only
 rw[aRefKeyMayBeTheName_at,cc]
 refine wpAny_updatePart g2 ?_
 have ef:=putName_dict n (PyData.keyHash c.w.params n) (.str n (s.toks+1)) v' es e
 have D':(s.heap.update (k.δ kk) (Obj.putName n (PyData.keyHash c.w.params n) (.str n (s.toks+1)) v')).get? (k.δ kk)=some (dictOf (putL n (PyData.keyHash c.w.params n) (.str n (s.toks+1)) v' es) (putN n es e)):=by
  rw[←ef];exact Heap.get?_update_self _ g2 (by rw[ef];rfl)
 have ln:(putL n (PyData.keyHash c.w.params n) (.str n (s.toks+1)) v' es).length≤101:=aj (CX ..) (aM (R.len▸z))
 refine wpAny_bind (wpAny_lookBehind D' (pastItsLine_dict (by rw[bV,sizeLine_eq];exact aj ln (by decide))) (wpAny_pure ?_))
 exact h _ (dy.Mg S o q0 g1 g2 (Heap.SameBut.update ..) D' (R.put TO hn rv))
end
end
section
theorem K_:Manifest.owners.lookup (String.ofList ['d','e','s','r','e','v','e','r'].reverse)=some Manifest.sig_reversed:=by kernel_rfl
theorem ir:Slot "reversed" "__next__" "reversed.__next__":=
 .of (owner:="reversed") (n:="__next__") (by rw[typeLookup_type,builtinLookup_eq_fast];kernel_rfl) (by decide+kernel) (by decide+kernel) (by decide+kernel)
  (by first|exact .inl (by decide+kernel)|exact .inr (by decide+kernel)) (by rw[isSubtype_type];kernel_rfl)
theorem nY:entryFor table "reversed.__next__"=some Builtin.«reversed.__next__»:=entryFor_of_tree (by kernel_rfl)
theorem pw (a:Value):argsOk "reversed.__next__" ⟨[a],[]⟩:=by unfold argsOk;kernel_rfl
theorem py:Slot "reversed" "__iter__" "reversed.__iter__":=
 .of (owner:="reversed") (n:="__iter__") (by rw[typeLookup_type,builtinLookup_eq_fast];kernel_rfl) (by decide+kernel) (by decide+kernel) (by decide+kernel)
  (by first|exact .inl (by decide+kernel)|exact .inr (by decide+kernel)) (by rw[isSubtype_type];kernel_rfl)
theorem uh (a:Value):argsOk "reversed.__iter__" ⟨[a],[]⟩:=by unfold argsOk;kernel_rfl
theorem sW:entryFor table "reversed.__iter__"=some Builtin.«dict_keyiterator.__iter__»:=
 entryFor_alias (id':="dict_keyiterator.__iter__") (by kernel_rfl) (by first|rfl|decide+kernel|(unfold String.splitOn;simp+decide [String.splitOnAux])) (by decide+kernel) (by kernel_rfl)
theorem pA:Slot "reversed" "__init__" "object.__init__":=
 .of (owner:="object") (n:="__init__") (by rw[typeLookup_type,builtinLookup_eq_fast];kernel_rfl) (by decide+kernel) (by decide+kernel) (by decide+kernel)
  (by first|exact .inl (by decide+kernel)|exact .inr (by decide+kernel)) (by rw[isSubtype_type];kernel_rfl)
theorem yq:TypeCalled "reversed" "reversed.__new__" "object.__init__":=
 ⟨by decide+kernel,by decide+kernel,⟨_,_,F.mro_reversed⟩,F.made_reversed,by decide+kernel,by rw[isSubtype_type];kernel_rfl,pA⟩
theorem A1:typeLookup (.type "tuple") "__reversed__"=pure none:=by rw[typeLookup_type,builtinLookup_eq_fast];kernel_rfl
theorem rI:typeLookup (.type "tuple") "__getitem__"=pure (some (.builtin "tuple.__getitem__")):=by rw[typeLookup_type,builtinLookup_eq_fast];kernel_rfl
theorem yr:isSubtype (.type "tuple") (.type "dict")=pure false:=by rw[isSubtype_type];kernel_rfl
noncomputable def Mi (l:Addr) (i:Int):Obj:={cls:=.type "reversed",data:=.fields #[.ref l,rawInt i]}
noncomputable def vq (h:Heap) (I l:Addr) (i:Int):Prop:=∃o,h.get? I=some o∧o.cls= .type "reversed"∧o.data= .fields #[.ref l,rawInt i]
theorem vq.typeIs {s:Shared} {a l:Addr} {i:Int} (x:vq s.heap a l i):s.TypeIs (.ref a) "reversed":=let⟨o,ho,hc,_⟩:=x;⟨o,ho,hc⟩
section
variable {prog:Program} {w:World} {A:Around} {E:Value->Shared->Prop} {s:Shared}
theorem zU {α:Type} {Q:α->Shared->Prop} {Q0:Option Value->Shared->Prop} (hh:A.handled=none) (h:∀h',(∀b o,s.heap.get? b=some o->h'.get? b=some o)->Q0 none {s with heap:=h'}):
  wpAny (model prog w) A.in1 (do raiseNew (←newExc (.type "StopIteration") [])) Q (λe s'=>wpAny (model prog w) A (do if ←isInstance e (.type "StopIteration")then pure none else throw e) Q0 E s') s:=by
 refine wpAny_bind ?_
 unfold newExc newTuple
 refine wpAny_bind (wpAny_newObj_type ?_ (by size_fits))
 refine wpAny_bind (m:=firstArgMember _ _) (wpAny_of_eq (a:=Value.none) (by first|rfl|(simp only[firstArgMember];rfl)) ?_)
 refine wpAny_newObj_type ?_ (by size_fits)
 unfold raiseNew
 refine wpAny_bind (wpAny_handled ?_)
 rw[show A.in1.handled=none from hh]
 show wpAny _ _ (pure ()>>=λ_=>throw _) _ _ _
 refine wpAny_bind (wpAny_pure (wpAny_throw ?_))
 exact wpAny_bind (wpAny_isInstance (T:="StopIteration") (b:=true) ⟨_,Heap.get?_push_size _ rfl,rfl⟩ isSubtype_stop (wpAny_pure (h _ λb o e=>Heap.get?_push_of_some _ (Heap.get?_push_of_some _ e))))
theorem wJ {l:Addr} {vs:List Value} {e:Nat} {Q₁:Value->Shared->Prop} (hl:s.heap.get? l=some (ig vs e)) (hz:vs.length<2^62)
  (h:∀t,Q₁ (.ref s.heap.objs.size) {s with heap:=s.heap.push (Mi l ((vs.length:Int)-1)),toks:=t}):
  codeAny (model prog w) A (.call (.builtin "reversed.__new__") ⟨[.type "reversed",.ref l],[]⟩) (wants Q₁ E) s:=by
 have hT:s.TypeIs (.ref l) "tuple":=⟨_,hl,rfl⟩
 refine codeAny_of_tree ?_
 show wpAny _ A.in1 (do checkBuiltinCall "reversed.__new__" ⟨[.type "reversed",.ref l],[]⟩;again (.builtin "reversed.__new__" ⟨[.type "reversed",.ref l],[]⟩)) _ _ s
 refine wpAny_bind (wpAny_of_eq (F.newCall_reversed_1 _) (wpAny_pure ⟨plainId_quiet F.plain_reversed_new _,codeAny_builtin F.entry_reversed_new ?_⟩))
 rw[Around.under_plainId F.plain_reversed_new _]
 unfold Builtin.«reversed.__new__»
 refine wpAny_bind (wpAny_of_eq (newClass_reversed _) ?_)
 try dsimp only
 refine wpAny_bind (wpAny_of_eq (a:=()) (by first|rfl|kernel_rfl) ?_)
 refine wpAny_bind (wpAny_of_eq (a:=()) (by first|rfl|kernel_rfl) ?_)
 try dsimp only
 refine wpAny_bind (wpAny_specialOf hT A1 ?_)
 try dsimp only
 refine wpAny_bind ?_
 show wpAny _ _ (isInstance (.ref l) (.type "dict")>>=_) _ _ _
 refine wpAny_bind (wpAny_isInstance hT yr ?_)
 rw[if_neg cA]
 show wpAny _ _ (specialOf (.ref l) "__getitem__">>=_) _ _ _
 refine wpAny_bind (wpAny_specialOf hT rI ?_)
 dsimp only
 have hc:(["tuple.__getitem__","str.__getitem__","bytes.__getitem__","bytearray.__getitem__","memoryview.__getitem__","numpy.ndarray.__getitem__","sqlite3.Row.__getitem__"]:List String).contains "tuple.__getitem__"=true:=by decide
 rw[if_pos hc]
 refine wpAny_pure ?_
 rw[if_neg (by decide)]
 refine wpAny_bind (len_tuple (items:=vs.toArray) ⟨_,hl,rfl,_,rfl⟩ (bz.mpr (bH hz (by decide))) ?_)
 refine wpAny_bind (wpAny_of_eq (a:=some ((vs.toArray.size:Nat):Int)) rfl ?_)
 dsimp only
 show wpAny _ _ (newObj (.type "reversed") (.fields #[.ref l,rawInt (((vs.toArray.size:Nat):Int)-1)])>>=_) _ _ _
 refine wpAny_bind (wpAny_newObj_type ?_ (by size_fits))
 exact wpAny_pure (h (s.toks+1+1))
theorem oW {l:Addr} {vs:List Value} {e:Nat} {Q:Value->Shared->Prop} (hl:s.heap.get? l=some (ig vs e)) (hz:vs.length<2^62)
  (h:∀t,Q (.ref s.heap.objs.size) {s with heap:=s.heap.push (Mi l ((vs.length:Int)-1)),toks:=t}):
  wpAny (model prog w) A (call (.type "reversed") [.ref l]) Q E s:=by
 refine callType_codes yq (F.typeCall_reversed_1 _) F.entry_object_init (wJ (Q₁:=λobj s₁=>obj= .ref s.heap.objs.size∧∃t,s₁={s with heap:=s.heap.push (Mi l ((vs.length:Int)-1)),toks:=t}) hl hz λt=>⟨rfl,t,rfl⟩) ?_
 rintro obj s₁ ⟨rfl,t,rfl⟩
 refine⟨⟨_,Heap.get?_push_size _ rfl,rfl⟩,F.args_object_init_2 _ _,?_⟩
 exact object_init_meets (T:="reversed") pA.lookup F.made_reversed (by decide) prog w A.in1 _ _ ⟨⟨_,Heap.get?_push_size _ rfl,rfl⟩,rfl,h t⟩
theorem Gj {it l:Addr} {i:Nat} {vs:List Value} {e:Nat} {x:Value} {Q:Option Value->Shared->Prop} (hit:vq s.heap it l (i:Int)) (hl:s.heap.get? l=some (ig vs e)) (hx:vs[i]?=some x) (hz:vs.length<2^62)
  (hQ:∀h' t,vq h' it l ((i:Int)-1)->Heap.SameBut it s.heap h'->Q (some x) {s with heap:=h',toks:=t}):wpAny (model prog w) A (pyNext (.ref it)) Q E s:=by
 obtain⟨o,ho,hc,hd⟩:=id hit
 have li:i<vs.length:=(ah.mp hx).1
 have hT:s.TypeIs (.ref l) "tuple":=⟨_,hl,rfl⟩
 unfold pyNext
 refine wpAny_bind (wpAny_attempt (wpAny_callSpecial?_slot (name:=Str.ofString "__next__") hit.typeIs ir
  (wpAny_call_entry ir hit.typeIs nY ?_ (pw _))))
 unfold Builtin.«reversed.__next__»
 refine wpAny_bind (wpAny_of_eq (a:=(Value.ref it,[])) rfl ?_)
 try dsimp only
 refine wpAny_bind (wpAny_field ho hd (x:=.ref l) rfl ?_)
 refine wpAny_bind (wpAny_field ho hd (x:=rawInt (i:Int)) rfl ?_)
 show wpAny _ _ (if(i:Int)<0 then _ else _) _ _ s
 rw[if_neg (fy.mpr (aS i))]
 show wpAny _ _ (specialOf (.ref l) "__getitem__">>=_) _ _ _
 refine wpAny_bind (wpAny_specialOf hT rI ?_)
 show wpAny _ _ (mkInt (i:Int)>>=_) _ _ _
 refine wpAny_bind (wpAny_mkInt ?_)
 have n0:¬(i:Int)<0:=fy.mpr (aS i)
 have hi:seqIndex? (i:Int) vs.toArray.size=some i:=by
  unfold seqIndex?
  rw[if_neg n0,if_pos (by rw[decide_eq_true (aS i),decide_eq_true (show(i:Int)<vs.toArray.size from bz.mpr li)];rfl)];rfl
 refine wpAny_bind (wpAny_attempt (getItem_tuple (x:=x) (items:=vs.toArray) ⟨_,hl,rfl,_,rfl⟩ (qI (by decide) (aS i)) (bz.mpr (bH (bH li hz) (by decide))) hi (by rw[cC];exact hx) ?_))
 show wpAny _ _ (field (.ref it) 1>>=_) _ _ _
 refine wpAny_bind (wpAny_field ho hd (x:=rawInt (i:Int)) rfl ?_)
 show wpAny _ _ (setField (.ref it) 1 (rawInt ((i:Int)-1))>>=_) _ _ _
 refine wpAny_bind (wpAny_setField ho hd (by simp) ?_)
 refine wpAny_pure ⟨x,rfl,wpAny_pure (hQ _ (s.toks+1) ?_ (Heap.SameBut.update ..))⟩
 exact⟨_,Heap.get?_update_self _ ho (Obj.isFreed_of_fields (Obj.data_mapFields hd _)),(Obj.cls_mapFields ..).trans hc,by rw[Obj.data_mapFields hd];simp⟩
theorem Jw {it l:Addr} {Q:Option Value->Shared->Prop} (hh:A.handled=none) (hit:vq s.heap it l (-1))
  (hQ:∀h',Heap.ExtBut it s.heap h'->Q none {s with heap:=h'}):wpAny (model prog w) A (pyNext (.ref it)) Q E s:=by
 obtain⟨o,ho,hc,hd⟩:=id hit
 unfold pyNext
 refine wpAny_bind (wpAny_attempt (wpAny_callSpecial?_slot (name:=Str.ofString "__next__") hit.typeIs ir
  (wpAny_call_entry ir hit.typeIs nY ?_ (pw _))))
 unfold Builtin.«reversed.__next__»
 refine wpAny_bind (wpAny_of_eq (a:=(Value.ref it,[])) rfl ?_)
 try dsimp only
 refine wpAny_bind (wpAny_field ho hd (x:=.ref l) rfl ?_)
 refine wpAny_bind (wpAny_field ho hd (x:=rawInt (-1)) rfl ?_)
 show wpAny _ _ (if(-1:Int)<0 then _ else _) _ _ s
 rw[if_pos (by decide)]
 refine wpAny_bind (wpAny_rule ?_)
 refine wpAny_bind ?_
 show wpAny _ _ (setField (.ref it) 1 (rawInt (-1))>>=_) _ _ _
 refine wpAny_bind (wpAny_setField ho hd (by simp) ?_)
 refine wpAny_setField (Heap.get?_update_self _ ho (Obj.isFreed_of_fields (Obj.data_mapFields hd _))) (Obj.data_mapFields hd _) (by simp) ?_
 refine wpAny_bind (zU hh λh' e=>hQ _ λb o n q=>e _ _ ((((Heap.SameBut.update ..).trans (Heap.SameBut.update ..)).extBut) b o n q))
theorem zV {it l:Addr} {i:Int} {Q:Value->Shared->Prop} (hit:vq s.heap it l i) (h:Q (.ref it) s):wpAny (model prog w) A (pyIter (.ref it)) Q E s:=by
 refine wpAny_pyIter_slot hit.typeIs py (wpAny_call_entry py hit.typeIs sW ?_ (uh _))
 show wpAny _ _ (ret (.ref it)) _ _ s
 exact wpAny_pure ⟨_,rfl,"reversed",_,hit.typeIs,ir.lookup,h⟩
end
end
section
section
variable {c:Cx} {H:Hp} {h h':Heap} {k:Lk} {s:Shared} {A:Around} {E:Value->Shared->Prop} {I:Addr}
theorem wK {d:Addr} {i n ep:Nat} {od:Obj} {es:Array DictEntry} {q:Option DictEntry} {Q:Option Value->Shared->Prop} (hh:A.handled=none) (hit:s.heap.IsKeyIter I d i n ep) (hod:s.heap.get? d=some od) (hdd:od.data= .dict es ep) (O2:es.size=n) (hx:es[i]?=q)
  (hQ:∀h',Heap.ExtBut I s.heap h'->(∀en,q=some en->h'.IsKeyIter I d (i+1) n ep)->Q (q.map (·.key)) {s with heap:=h'}):wpAny (Md c) A (pyNext (.ref I)) Q E s:=by
 obtain⟨o,ho,hc,hd⟩:=id hit
 unfold pyNext
 refine wpAny_bind (wpAny_attempt (wpAny_callSpecial?_slot (name:=Str.ofString "__next__") hit.typeIs F.slot_dict_keyiterator_next
  (wpAny_call_entry F.slot_dict_keyiterator_next hit.typeIs F.entry_dict_keyiterator_next ?_ (F.args_dict_keyiterator_next_1 _))))
 refine wpAny_bind (wpAny_pure (wpAny_bind (wpAny_bind ?_)))
 first|refine wpAny_bind (wpAny_typeNameOfWhole_keyiter hit.typeIs (wpAny_pure ?_))|refine wpAny_bind (wpAny_typeNameOf_keyiter hit.typeIs (wpAny_pure ?_))
 refine wpAny_bind (wpAny_fieldsOf ho hd ?_)
 rw[show Builtin.Dict_items.ownsTuple "dict_keyiterator"=false by decide]
 show wpAny _ _ (if(Value.ref d==Value.none)=true then _ else _) _ _ s
 rw[if_neg (show ¬((Value.ref d==Value.none)=true) from cA)]
 refine wpAny_bind (wpAny_pure (wpAny_bind (wpAny_dictEntries hod hdd ?_)))
 rw[if_neg (by rw[O2];exact λz=>cA ((bne_self_eq_false _).symm.trans z))]
 refine wpAny_bind (wpAny_pure (wpAny_bind (wpAny_dictEpoch hod hdd ?_)))
 rw[if_neg (λz=>cA ((bne_self_eq_false _).symm.trans z))]
 refine wpAny_pure ?_
 dsimp only
 rw[if_neg (fy.mpr (aS i)),fY,hx]
 cases q with
 |some en=>
  refine wpAny_bind ?_
  first|refine wpAny_bind (wpAny_typeNameOfWhole_keyiter hit.typeIs (wpAny_pure ?_))|refine wpAny_bind (wpAny_typeNameOf_keyiter hit.typeIs (wpAny_pure ?_))
  refine wpAny_bind (wpAny_isOneOf_keyiter hit.typeIs ?_)
  show wpAny _ _ (setField (.ref I) 1 (rawInt ((i:Int)+1))>>=_) _ _ s
  refine wpAny_bind (wpAny_setField ho hd (show 1<4 by decide) ?_)
  have Mj:(s.heap.update I (Obj.mapFields (·.setIfInBounds 1 (rawInt ((i:Int)+1))))).IsKeyIter I d (i+1) n ep:=
   ⟨_,Heap.get?_update_self _ ho (Obj.isFreed_of_fields (Obj.data_mapFields hd _)),(Obj.cls_mapFields ..).trans hc,Obj.data_mapFields hd _⟩
  refine wpAny_bind (wpAny_holding (wpAny_bind (wpAny_isOneOf_keyiter (s:={s with heap:=s.heap.update I (Obj.mapFields (·.setIfInBounds 1 (rawInt ((i:Int)+1))))}) Mj.typeIs ?_)))
  exact wpAny_pure (wpAny_pure ⟨_,rfl,wpAny_pure (hQ _ (Heap.SameBut.update ..).extBut λ_ _=>Mj)⟩)
 |none=>
  refine wpAny_bind ?_
  first|refine wpAny_bind (wpAny_typeNameOfWhole_keyiter hit.typeIs (wpAny_pure ?_))|refine wpAny_bind (wpAny_typeNameOf_keyiter hit.typeIs (wpAny_pure ?_))
  show wpAny _ _ (setField (.ref I) 0 .none>>=_) _ _ s
  refine wpAny_bind (wpAny_setField ho hd (show 0<4 by decide) ?_)
  exact zU hh λh' e=>hQ h' (λb o n z=>e _ _ ((Heap.SameBut.update ..).extBut b o n z)) λ_ z=>c7 rfl z
noncomputable def mV (I:Addr) (h h':Heap):Prop:=∀b o,b≠I->h.get? b=some o->h'.get? b=some o
end
noncomputable def oL (n:String):Bool:=n !="tuple"&& !(["enumerate","zip","dict_itemiterator","dict_reverseitemiterator","odict_iterator","itertools.zip_longest","itertools.pairwise"].contains n)
inductive wL (c:Cx) (I:Addr) (g:Gd) (P:List V->Lk->Hp->Heap->Prop):Prop
 |mk (cls:∀{xs k H h},P xs k H h->∃ob n,h.get? I=some ob∧ob.cls= .type n∧oL n=true∧∃fs,ob.data= .fields fs) (mv:∀{xs k H h k' H' h'},P xs k H h->(∀o,h.get? I=some o->h'.get? I=some o)->(∀j o b,H[j]?=some o->o.owned=false->h.get? (k.ι j)=some b->h'.get? (k.ι j)=some b)->Mw k H h k' H' h'->g.ok H'->P xs k' H' h') (next:∀{x xs k H s A} {Q:Option Value->Shared->Prop} {E:Value->Shared->Prop},A.handled=none->P (x::xs) k H s.heap->dz c k H s.heap->nK k H I->(∀h' t v,mV I s.heap h'->VR c k H h' x v->P xs k H h'->Q (some v) {s with heap:=h',toks:=t})->wpAny (Md c) A (pyNext (.ref I)) Q E s) (done:∀{k H s A} {Q:Option Value->Shared->Prop} {E:Value->Shared->Prop},A.handled=none->P [] k H s.heap->dz c k H s.heap->(∀h' t,mV I s.heap h'->Q none {s with heap:=h',toks:=t})->wpAny (Md c) A (pyNext (.ref I)) Q E s) (self:∀{xs k H s A} {Q:Value->Shared->Prop} {E:Value->Shared->Prop},g.Cb=false->P xs k H s.heap->Q (.ref I) s->wpAny (Md c) A (pyIter (.ref I)) Q E s)
noncomputable def i8 (c:Cx) (k:Lk) (H:Hp) (h:Heap) (I:Addr) (g:Gd) (xs:List V):Prop:=∃P,P xs k H h∧wL c I g P
section
variable {c:Cx} {k:Lk} {H:Hp} {h h':Heap} {s:Shared} {A:Around} {E:Value->Shared->Prop} {I:Addr}
theorem uJ (hs:Heap.SameBut I h h'):mV I h h':=λb _ n e=>(hs.2 b n).trans e
theorem Iq (hs:Heap.ExtBut I h h'):mV I h h':=λb o n e=>hs b o n e
theorem pE {n:String} {fs:Array Value} (z:oL n=true) (x:∃o,h.get? I=some o∧o.cls= .type n∧o.data= .fields fs):∃ob n,h.get? I=some ob∧ob.cls= .type n∧oL n=true∧∃fs,ob.data= .fields fs:=x.elim λo x=>⟨o,n,x.1,x.2.1,z,fs,x.2.2⟩
theorem sX {Φ:Obj->Prop} (x:∃o,h.get? I=some o∧Φ o) (f:∀o,h.get? I=some o->h'.get? I=some o):∃o,h'.get? I=some o∧Φ o:=x.elim λo x=>⟨o,f o x.1,x.2⟩
theorem qg (x:∃ob n,h.get? I=some ob∧ob.cls= .type n∧oL n=true∧∃fs,ob.data= .fields fs):∃o,h.get? I=some o∧iO o:=x.elim λo x=>x.elim λn x=>⟨o,x.1,oJ x.2.1 λe=>bne_iff_ne.mp (cI x.2.2.1).1 e⟩
theorem Jx (x:∃ob n,h.get? I=some ob∧ob.cls= .type n∧oL n=true∧∃fs,ob.data= .fields fs) (e:mV I h h'):Mw k H h k H h':=⟨aC _,λ_ _=>rfl,λa vs n q=>e a _ (λz=>(qg x).elim λo y=>y.2 _ _ (ay (y.1.symm.trans (cr z▸q)))) q⟩
theorem lQ {α:Type} {x:α} {xs l:List α} {i:Nat} (e:l.drop i=x::xs):l[i]?=some x∧xs=l.drop (i+1):=
 ⟨(dI (xs:=l) (i:=i) (j:=0)).symm.trans (congrArg (λl:List α=>l[0]?) e),(congrArg List.tail e).symm.trans List.tail_drop⟩
theorem vt {α:Type} {l:List α} {i:Nat} (e:[]=l.drop i):l.length≤i:=List.drop_eq_nil_iff.mp e.symm
theorem Jy {a:Nat} {l:List V}:wL c I (.list a l) λxs k H h=>H[a]?=some (.list l)∧∃i,h.IsListIter I (k.ι a) i∧xs=l.drop i:=.mk
 (λp=>p.2.elim λ_ q=>pE (by decide) q.1)
 (λp f _ m g=>⟨g,p.2.elim λi q=>⟨i,cr (m.2 _ (j0 p.1))▸sX q.1 f,q.2⟩⟩)
 (λ{x xs k H s A Q E} _ p S _ hQ=>p.2.elim λi q=>S.kL p.1 λvs n g R=>(R.get (lQ q.2.symm).1).elim λv w=>
  wpAny_pyNext_list_item q.1 ⟨_,g,rfl,n,rfl⟩ ((cC ..).trans w.1) λh' CZ hs=>hQ h' s.toks v (uJ hs) (w.2.mono (Jx (pE (by decide) q.1) (uJ hs))) ⟨p.1,_,CZ,(lQ q.2.symm).2⟩)
 (λ{k H s A Q E} hh p S hQ=>p.2.elim λi q=>S.kL p.1 λvs n g R=>wpAny_pyNext_list_end hh q.1 ⟨_,g,rfl,n,rfl⟩ (iT (aj (aD R.length.symm) (vt q.2))) λh' hs=>hQ h' s.toks (Iq hs))
 (λ_ p h=>p.2.elim λ_ q=>wpAny_pyIter_listiter q.1 h)
theorem Mk {t:Addr} {l:List V} {vs:List Value} {n:Nat}:wL c I .none λxs k H h=>(h.get? t=some (ig vs n)∧eJ c k H h l vs)∧∃i,h.IsTupleIter I t i∧xs=l.drop i:=.mk
 (λp=>p.2.elim λ_ q=>pE (by decide) q.1)
 (λp f _ m g=>⟨⟨m.3 _ _ _ p.1.1,p.1.2.mono m⟩,p.2.elim λi q=>⟨i,sX q.1 f,q.2⟩⟩)
 (λ{x xs k H s A Q E} _ p S _ hQ=>p.2.elim λi q=>(p.1.2.get (lQ q.2.symm).1).elim λv w=>wpAny_pyNext_tuple_item q.1 ⟨_,p.1.1,rfl,n,rfl⟩ ((cC ..).trans w.1) λh' CZ hs=>by
  have m:=Jx (k:=k) (H:=H) (pE (by decide) q.1) (uJ hs)
  exact hQ h' s.toks v (uJ hs) (w.2.mono m) ⟨⟨m.3 _ _ _ p.1.1,p.1.2.mono m⟩,_,CZ,(lQ q.2.symm).2⟩)
 (λ{k H s A Q E} hh p S hQ=>p.2.elim λi q=>wpAny_pyNext_tuple_end hh q.1 ⟨_,p.1.1,rfl,n,rfl⟩ (iT (aj (aD p.1.2.length.symm) (vt q.2))) λh' hs=>hQ h' s.toks (Iq hs))
 (λ_ p h=>p.2.elim λ_ q=>wpAny_pyIter_tupleiter q.1 h)
theorem yt (m:Nat):((m+1:Nat):Int)-1=(m:Int):=by rw[Int.natCast_succ,kA]
theorem uK {a:Int} {n:Nat}:((List.range (n+1)).map λj=>V.int (a+Int.ofNat j))=V.int a::(List.range n).map λj=>V.int (a+1+Int.ofNat j):=by
 rw[List.range_succ_eq_map,bS,bJ]
 exact congr (congrArg List.cons (congrArg V.int (Int.add_zero a))) (cW λj _=>congrArg V.int ((congrArg (a+ ·) (qH (Int.ofNat j) 1)).trans (Int.add_assoc a 1 _).symm))
theorem Gk:wL c I .none λxs k H h=>∃(a:Int) (n:Nat),IsRangeIter h I a (n:Int) 1∧xs=(List.range n).map λj=>V.int (a+Int.ofNat j):=.mk
 (λp=>p.elim λa p=>p.elim λn q=>⟨_,_,q.1,rfl,by decide,_,rfl⟩)
 (λp f _ m g=>p.elim λa p=>p.elim λn q=>⟨a,n,f _ q.1,q.2⟩)
 (λ{x xs k H s A Q E} _ p S _ hQ=>by
  obtain⟨a,n,it,e⟩:=p
  cases n with
  |zero=>cases e
  |succ n=>
   rw[uK]at e
   cases e
   exact wpAny_pyNext_range_item it (bz.mpr (hE n)) λh' CZ hs=>hQ h' _ _ (uJ hs) (Fr _ _) ⟨a+1,n,yt n▸CZ,rfl⟩)
 (λ{k H s A Q E} hh p S hQ=>by
  obtain⟨a,n,it,e⟩:=p
  cases n with
  |zero=>exact wpAny_pyNext_range_end hh it (Int.le_refl 0) λh' hs=>hQ h' s.toks (Iq hs)
  |succ n=>rw[uK]at e;cases e)
 (λ_ p h=>p.elim λa p=>p.elim λn q=>wpAny_pyIter_rangeiter q.1 h)
theorem zW {P:Prop} {i:Nat} {l:List V} {x:V} {xs:List V} (e:x::xs=(l.take i).reverse) (z:i≤l.length) (k:∀m,i=m+1->m≤l.length->l[m]?=some x->xs=(l.take m).reverse->P):P:=by
 cases i with
 |zero=>cases e
 |succ m=>
  rw[iS z,List.reverse_append]at e
  cases e
  exact k m rfl (cv z) (ao z) rfl
theorem C0 {i:Nat} {l:List V} (e:[]=(l.take i).reverse) (z:i≤l.length):i=0:=by
 have:=congrArg List.length e
 rw[cX,eQ,Nat.min_eq_left z]at this
 exact this.symm
theorem Ml {a:Nat} {l:List V}:wL c I (.list a l) λxs k H h=>H[a]?=some (.list l)∧∃i:Nat,h.IsRevIter I (k.ι a) ((i:Int)-1)∧i≤l.length∧xs=(l.take i).reverse:=.mk
 (λp=>p.2.elim λ_ q=>pE (by decide) q.1)
 (λp f _ m g=>⟨g,p.2.elim λi q=>⟨i,cr (m.2 _ (j0 p.1))▸sX q.1 f,q.2⟩⟩)
 (λ{x xs k H s A Q E} _ p S _ hQ=>p.2.elim λi q=>zW q.2.2 q.2.1 λm em zm e1 e2=>S.kL p.1 λvs n g R=>(R.get e1).elim λv w=>by
  have it:=q.1
  rw[em,yt]at it
  exact wpAny_pyNext_rev_item it ⟨_,g,rfl,n,rfl⟩ ((cC ..).trans w.1) λh' CZ hs=>hQ h' s.toks v (uJ hs) (w.2.mono (Jx (pE (by decide) it) (uJ hs))) ⟨p.1,_,CZ,zm,e2⟩)
 (λ{k H s A Q E} hh p S hQ=>p.2.elim λi q=>wpAny_pyNext_rev_end hh (C0 q.2.2 q.2.1▸q.1:s.heap.IsRevIter I (k.ι a) (((0:Nat):Int)-1)) λh' hs=>hQ h' s.toks (Iq hs))
 (λ_ p h=>p.2.elim λ_ q=>wpAny_pyIter_revIter q.1 h)
theorem O3 {t:Addr} {l:List V} {vs:List Value} {n:Nat} (zl:l.length≤SZ):wL c I .none λxs k H h=>(h.get? t=some (ig vs n)∧eJ c k H h l vs)∧∃i:Nat,vq h I t ((i:Int)-1)∧i≤l.length∧xs=(l.take i).reverse:=.mk
 (λp=>p.2.elim λ_ q=>pE (by decide) q.1)
 (λp f _ m g=>⟨⟨m.3 _ _ _ p.1.1,p.1.2.mono m⟩,p.2.elim λi q=>⟨i,sX q.1 f,q.2⟩⟩)
 (λ{x xs k H s A Q E} _ p S _ hQ=>p.2.elim λi q=>zW q.2.2 q.2.1 λm em zm e1 e2=>(p.1.2.get e1).elim λv w=>by
  have it:=q.1
  rw[em,yt]at it
  refine Gj it p.1.1 w.1 (ax (p.1.2.length▸zl) (by decide)) λh' t' CZ hs=>?_
  have m':=Jx (k:=k) (H:=H) (pE (by decide) it) (uJ hs)
  exact hQ h' t' v (uJ hs) (w.2.mono m') ⟨⟨m'.3 _ _ _ p.1.1,p.1.2.mono m'⟩,_,CZ,zm,e2⟩)
 (λ{k H s A Q E} hh p S hQ=>p.2.elim λi q=>Jw hh (C0 q.2.2 q.2.1▸q.1:vq s.heap I t (((0:Nat):Int)-1)) λh' hs=>hQ h' s.toks (Iq hs))
 (λ_ p h=>p.2.elim λ_ q=>zV q.1 h)
noncomputable def keysOf (es:Array DictEntry):List Value:=es.toList.map (·.key)
theorem C7 {a:Nat} {o:O} {g:Gd} {l:List V} {od:Obj} {es:Array DictEntry} {ep:Nat} (hg:∀H,g.ok H->H[a]?=some o) (ho:o.owned=false) (hd:g.Cb=true) (y:od.data= .dict es ep):
  wL c I g λxs k H h=>(H[a]?=some o∧h.get? (k.ι a)=some od∧eJ c k H h l (keysOf es))∧∃i,h.IsKeyIter I (k.ι a) i es.size ep∧xs=l.drop i:=.mk
 (λp=>p.2.elim λ_ q=>pE (by decide) q.1)
 (λ{xs k H h k' H' h'} p f f' m g'=>by
  have e:=m.2 _ (j0 p.1.1)
  exact⟨⟨hg _ g',cr e▸f' _ _ _ p.1.1 ho p.1.2.1,p.1.2.2.mono m⟩,p.2.elim λi q=>⟨i,cr e▸sX q.1 f,q.2⟩⟩)
 (λ{x xs k H s A Q E} hh p S hI hQ=>p.2.elim λi q=>(p.1.2.2.get (lQ q.2.symm).1).elim λv w=>by
  obtain⟨en,g2,e3⟩:=bq.mp (aK.symm.trans w.1)
  refine wK hh q.1 p.1.2.1 y rfl (nA.symm.trans g2) λh' hs CZ=>?_
  have m:=Jx (k:=k) (H:=H) (pE (by decide) q.1) (Iq hs)
  exact hQ h' s.toks _ (Iq hs) ((cr e3▸w.2:VR c k H s.heap x en.key).mono m) ⟨⟨p.1.1,hs _ _ (hI.im (j0 p.1.1)) p.1.2.1,p.1.2.2.mono m⟩,_,CZ _ rfl,(lQ q.2.symm).2⟩)
 (λ{k H s A Q E} hh p S hQ=>p.2.elim λi q=>wK hh q.1 p.1.2.1 y rfl (iT (aj (aD (p.1.2.2.length.trans (ae _)).symm) (vt q.2))) λh' hs _=>hQ h' s.toks (Iq hs))
 (λq=>ff (q.symm.trans hd))
end
end
section
noncomputable def Gd.was (H:Hp):Gd->Prop
 | .none=>True
 | .list a l=>H[a]?=some (.list l)
 | .bj a d=>H[a]?=some (.bj d)
 | .bX a d=>H[a]?=some (.bX d)
noncomputable def Made (c:Cx) (k:Lk) (H:Hp) (s:Shared) (g:Gd) (xs:List V) (Q:Value->Shared->Prop):Prop:=∀s' I,dy c k H s k H s'->s.heap.get? I=none->g.was H->i8 c k (g.fz H) s'.heap I g xs->Q (.ref I) s'
noncomputable def sY (c:Cx) (T:Tb) (i:CI) (L:Lc) (H:Hp) (xs:List V) (g:Gd) (H':Hp):Prop:=
 ∀{A:Around} {r:Nat} {env:Env} {nm:List Str} {pe:Expr} {k:Lk} {s:Shared} {Q:Value->Shared->Prop} {E:Value->Shared->Prop},St c A r k H s env nm L->LR T r env.scope nm i pe=true->
  (∀k1 s1,dy c k H s k1 H' s1->Made c k1 H' s1 g xs Q)->wpAny (Md c) A (eval pe env) (λx s₁=>wpAny (Md c) A (pyIter x) Q E s₁) E s
section
variable {c:Cx} {T:Tb} {L:Lc} {H H1:Hp} {h h':Heap} {e:CE} {v:V} {k:Lk} {s:Shared} {A:Around} {E:Value->Shared->Prop} {g:Gd} {xs:List V} {Q:Value->Shared->Prop}
theorem wM {dd:Addr} {ep:Nat} {od:Obj} {es:Array DictEntry} (hd:(dd==sysModules)=false) (ho:s.heap.get? dd=some od) (hc:od.ExactDict) (Mm:od.data= .dict es ep)
  (hQ:Q (.ref s.heap.objs.size) {s with heap:=s.heap.push {cls:=.type "dict_keyiterator",data:=.fields #[.ref dd,.int 0 0,.int es.size 0,.int ep 0]}}):wpAny (Md c) A (pyIter (.ref dd)) Q E s:=by
 have hT:s.TypeIs (.ref dd) "dict":=⟨od,ho,hc.1⟩
 refine wpAny_pyIter_slot hT F.slot_dict_iter (wpAny_call_entry F.slot_dict_iter hT F.entry_dict_iter ?_ (F.args_dict_iter_1 _))
 unfold Builtin.«dict.__iter__»
 refine wpAny_bind ?_
 unfold Builtin.Dict.dictSlotNone
 refine wpAny_bind (wpAny_notOrdered_dict hT ?_)
 show wpAny _ _ (pure (Value.ref dd)) _ _ s
 refine wpAny_pure ?_
 show wpAny _ _ (Builtin.Dict.showsAll dd>>=_) _ _ s
 unfold Builtin.Dict.showsAll
 rw[if_neg (by rw[hd];exact cA)]
 refine wpAny_bind (wpAny_pure (wpAny_bind (wpAny_dictEntries ho Mm (wpAny_bind (wpAny_dictEpoch ho Mm ?_)))))
 exact wpAny_bind (wpAny_newObj_type (wpAny_pure ⟨_,rfl,"dict_keyiterator",_,⟨_,Heap.get?_push_size _ rfl,rfl⟩,F.slot_dict_keyiterator_next.lookup,hQ⟩))
theorem Made.at {o:Obj} {t:Nat} {P:List V->Lk->Hp->Heap->Prop} (M:Made c k H s g xs Q) (S:dz c k H s.heap) (w:g.was H) (I:wL c s.heap.objs.size g P) (p:P xs k (g.fz H) (s.heap.push o)):Q (.ref s.heap.objs.size) {s with heap:=s.heap.push o,toks:=t}:=
 M {s with heap:=s.heap.push o,toks:=t} _ (dy.zK S o t) (iq _) w ⟨P,p,I⟩
theorem intKeys {es:List DictEntry} {kvs:List (Int×Value)} (p:Pairs (ik c) es kvs):eJ c k H h (di (kvs.map (·.1))) (es.map (·.key)):=by
 induction p with
 |nil=>exact rfl
 |cons q _ _ ih=>exact .cons (Value.isInt_shape q) ih
theorem C8 {l:List Int} {vs:List Value} (A:ItemsAre (ik c) l vs):eJ c k H h (di l) vs:=by
 induction A with
 |nil=>exact rfl
 |cons q _ ih=>exact .cons (Value.isInt_shape q) ih
theorem Gm {xs:List (List Int×Addr×Value)} (h1:∀x∈xs,(tupleKind (ik c)).is h x.1 x.2.1) (h2:∀x∈xs,∃vs e,h.get? x.2.1=some (ig vs e)):
  eJ c k H h (xs.map λx=>.tup (di x.1)) ((xs.map (entryOfKey (tupleKind (ik c)))).map (·.key)):=by
 induction xs with
 |nil=>exact rfl
 |cons x xs ih=>
  refine .cons ?_ (ih (λy hy=>h1 y (aL _ hy)) λy hy=>h2 y (aL _ hy))
  obtain⟨vs,e,q⟩:=h2 x aQ
  obtain⟨o,its,n,g,_,hd,A⟩:=h1 x aQ
  cases q.symm.trans g
  cases hd
  exact OO q (C8 A)
end
noncomputable def SrcR (H:Hp) (x:V) (xs:List V) (g:Gd):Prop:=∀(c:Cx) (k:Lk) (s:Shared) (A:Around) (va:Value) (Q:Value->Shared->Prop) (E:Value->Shared->Prop),dz c k H s.heap->VR c k H s.heap x va->Made c k H s g xs Q->wpAny (Md c) A (pyIter va) Q E s
section
variable {H:Hp}
theorem SrcR.tup {l:List V}:SrcR H (.tup l) l .none:=λc k s A va Q E S ra M=>by
 apply ra.kT λa vs e g R=>?_
 exact wpAny_pyIter_tuple (items:=vs.toArray) ⟨_,g,rfl,_,rfl⟩ (M.at (t:=s.toks) S trivial Mk ⟨⟨Heap.get?_push_of_some _ g,R.mono (.keep λ_ _=>Heap.get?_push_of_some _)⟩,0,⟨_,Heap.get?_push_size _ rfl,rfl,rfl⟩,rfl⟩)
theorem SrcR.list {a:Nat} {l:List V} (o:H[a]?=some (.list l)):SrcR H (.ref a) l (.list a l):=λc k s A va Q E S ra M=>by
 apply ra.kR λ_=>?_
 refine S.kL o λvs e g R=>?_
 exact wpAny_pyIter_list (items:=vs.toArray) ⟨_,g,rfl,_,rfl⟩ (M.at (t:=s.toks) S o Jy ⟨o,0,⟨_,Heap.get?_push_size _ rfl,rfl,rfl⟩,rfl⟩)
theorem SrcR.bj {a:Nat} {d:List (Int×V)} (o:H[a]?=some (.bj d)):SrcR H (.ref a) (di (d.map (·.1))) (.bj a d):=λc k s A va Q E S ra M=>by
 apply ra.kR λ_=>?_
 obtain⟨kvs,⟨od,es,ep,g1,hc,hd,hk,hp,hn⟩,P⟩:=S.2 _ _ o
 rw[sw P]at M
 exact wM (S.noSys o rfl) g1 hc hd (M.at (t:=s.toks) S o (C7 (g:=.bj a d) (λ_ e=>e) rfl rfl hd) ⟨⟨aZ (j0 o),Heap.get?_push_of_some _ g1,intKeys hp⟩,0,⟨_,Heap.get?_push_size _ rfl,rfl,rfl⟩,rfl⟩)
theorem SrcR.bX {a:Nat} {d:List (List Int×V)} (o:H[a]?=some (.bX d)):SrcR H (.ref a) (d.map λp=>.tup (di p.1)) (.bX a d):=λc k s A va Q E S ra M=>by
 apply ra.kR λ_=>?_
 obtain⟨ys,⟨od,es,ep,g1,hc,hd,he,hk,hn⟩,ht,P⟩:=S.2 _ _ o
 have e1:(d.map λp=>V.tup (di p.1))=ys.map λx=>V.tup (di x.1):=by
  have:=congrArg (List.map λq=>V.tup (di q)) (sw P)
  rw[bJ,bJ,bJ]at this
  exact this
 rw[e1]at M
 have R:eJ c k (H.set a (.ft d)) (s.heap.push {cls:=.type "dict_keyiterator",data:=.fields #[.ref (k.ι a),.int 0 0,.int es.size 0,.int ep 0]}) (ys.map λx=>V.tup (di x.1)) (keysOf es):=by
  unfold keysOf
  rw[he]
  refine Gm (λx hx=>?_) λx hx=>?_
  ·obtain⟨vs,n,q⟩:=ht x hx;exact rG (hk x hx) q (Heap.get?_push_of_some _ q)
  ·obtain⟨vs,n,q⟩:=ht x hx;exact⟨vs,n,Heap.get?_push_of_some _ q⟩
 exact wM (S.noSys o rfl) g1 hc hd (M.at (t:=s.toks) S o (C7 (g:=.bX a d) (λ_ e=>e) rfl rfl hd) ⟨⟨aZ (j0 o),Heap.get?_push_of_some _ g1,R⟩,0,⟨_,Heap.get?_push_size _ rfl,rfl,rfl⟩,rfl⟩)
end
noncomputable def A4 (H:Hp) (x:V) (xs:List V) (g:Gd):Prop:=∀(c:Cx) (k:Lk) (s:Shared) (A:Around) (va:Value) (Q:Value->Shared->Prop) (E:Value->Shared->Prop),dz c k H s.heap->VR c k H s.heap x va->xs.length≤SZ->Made c k H s g xs Q->wpAny (Md c) A (call (.type "reversed") [va]) (λx s₁=>wpAny (Md c) A (pyIter x) Q E s₁) E s
section
variable {H:Hp}
theorem A4.list {a:Nat} {l:List V} (o:H[a]?=some (.list l)):A4 H (.ref a) l.reverse (.list a l):=λc k s A va Q E S ra z M=>by
 apply ra.kR λ_=>?_
 refine S.kL o λvs e g R=>?_
 refine call_reversed_list (items:=vs.toArray) ⟨_,g,rfl,_,rfl⟩ ?_
 have it:(s.heap.push (revObj (k.ι a) ((vs.toArray.size:Int)-1))).IsRevIter s.heap.objs.size (k.ι a) ((l.length:Int)-1):=⟨_,Heap.get?_push_size _ rfl,rfl,by rw[R.length];rfl⟩
 exact wpAny_pyIter_revIter it (M.at (t:=s.toks) S o Ml ⟨o,_,it,aC _,by rw[aN]⟩)
theorem A4.tup {l:List V}:A4 H (.tup l) l.reverse .none:=λc k s A va Q E S ra z M=>by
 apply ra.kT λa vs e g R=>?_
 rw[cX]at z
 refine oW g (ax (R.length▸z) (by decide)) λt=>?_
 have it:vq (s.heap.push (Mi a ((vs.length:Int)-1))) s.heap.objs.size a ((l.length:Int)-1):=⟨_,Heap.get?_push_size _ rfl,rfl,by rw[R.length];rfl⟩
 exact zV (s:={s with heap:=s.heap.push (Mi a ((vs.length:Int)-1)),toks:=t}) it (M.at S trivial (O3 z) ⟨⟨Heap.get?_push_of_some _ g,R.mono (.keep λ_ _=>Heap.get?_push_of_some _)⟩,_,it,aC _,by rw[aN]⟩)
variable {c:Cx} {T:Tb} {L:Lc} {H1:Hp} {e:CE} {v:V} {g:Gd} {xs:List V}
theorem Gp (x:b_ c T e L H v H1) (R:SrcR H1 v xs g) (z:xs.length≤SZ):sY c T (.ex e) L H xs g H1:=λS ok h=>x S (cI ok).2 λk1 s1 v1 T1 R1=>R _ _ _ _ _ _ _ T1.1 R1 (h _ _ T1)
theorem C9 (TO:nL c T) (x:b_ c T e L H v H1) (R:A4 H1 v xs g) (z:xs.length≤SZ):sY c T (.rev e) L H xs g H1:=by
 intro A r env nm pe k s Q E S ok h
 apply Cj ok λq w pos hg hw o=>?_
 exact yl (f:=.type "reversed") TO (by decide) (by decide+kernel) L6 S hg hw (x S o λk1 s1 v1 T1 R1=>R _ _ _ _ _ _ _ T1.1 R1 z (h _ _ T1))
theorem zX:∀n:Nat,Builtin.Range.rangeSize 0 n 1=n
 |0=>rfl
 |n+1=>by
  unfold Builtin.Range.rangeSize
  rw[if_pos (by decide),if_pos (show(0:Int)<((n+1:Nat):Int) from bz.mpr (hE n)),qK,Int.ediv_one,Int.sub_add_cancel]
theorem yu {n:Nat} (z:n≤2^24):Builtin.Range.small 0 n 1=true:=by
 unfold Builtin.Range.small
 simp only[zX]
 simp[Builtin.Range.rangeFitsLong]
 omega
theorem yv {n:Nat} (TO:nL c T) (x:b_ c T e L H (.int n) H1) (z:n≤SZ):sY c T (.range e) L H (di ((List.range n).map Int.ofNat)) .none H1:=by
 intro A r env nm pe k s Q E S ok h
 apply Cj ok λq w pos hg hw o=>?_
 refine yl (f:=.type "range") TO (by decide) (by decide+kernel) L6 S hg hw (x S o λk1 s1 v1 T1 R1=>?_)
 apply R1.kI λt=>?_
 refine call_range_1 ?_
 refine wpAny_pyIter_range (a:=0) (b:=n) (c:=1) (Heap.get?_push_size _ rfl) (yu z) ?_
 have W:=dy.zK T1.1 {cls:=.type "range",data:=.fields #[.int 0 s1.toks,.int n t,.int 1 (s1.toks+1)]} (s1.toks+1+1)
 have e2:di ((List.range n).map Int.ofNat)=(List.range n).map λj=>V.int (0+Int.ofNat j):=by
  unfold di
  rw[bJ]
  exact cW λj _=>congrArg V.int (Int.zero_add _).symm
 have M:=h _ _ (T1.trans W)
 rw[e2]at M
 exact M.at (t:=s1.toks+1+1) W.1 trivial Gk ⟨0,n,by rw[zX];exact Heap.get?_push_size _ rfl,rfl⟩
end
end
section
noncomputable def Own (env:Env) (b:Addr):Prop:=b=env.locals∨∃n,env.kindOf n=some .cell∧env.cells.lookup n=some b
abbrev wN (c:Cx) (env:Env) (k:Lk) (H:Hp) (s:Shared) (k':Lk) (H':Hp) (s':Shared):Prop:=c8 c (Own env) k H s k' H' s'
section
variable {c:Cx} {L L':Lc} {H H':Hp} {h h':Heap} {v:V} {k k':Lk} {s s':Shared} {A:Around} {E:Value->Shared->Prop} {env:Env} {nm:List Str} {X Y:Addr->Prop} {a b:Addr} {r i:Nat}
theorem Own.La (x:Own env b):B4 env b:=x.imp id fun⟨n,z⟩=>⟨n,z.2⟩
theorem Loc.own (x:Loc c k H h env nm L) (z:Own env b):uf k H h b:=x.3 b z.La
theorem c8.up (x:c8 c X k H s k' H' s') (i:∀b o,X b->s.heap.get? b=some o->Y b) (n:∀b,Y b->¬Oo k H b):c8 c Y k H s k' H' s':=⟨x.1,x.2.mono i n,x.3⟩
theorem dy.p (x:dy c k H s k' H' s') (n:∀b,X b->uf k H s.heap b):c8 c X k H s k' H' s':=x.up (λ_ _ z _=>z.elim) λb z=>(n b z).1.ow
theorem dy.x (x:dy c k H s k' H' s') (L0:Loc c k H s.heap env nm L):wN c env k H s k' H' s':=x.p λ_=>L0.own
theorem c8.Ir (x:c8 c X k H s k' H' s') (i:∀b o,X b->s.heap.get? b=some o->False):dy c k H s k' H' s':=x.up i λ_ z=>z.elim
theorem c8.mv (x:c8 c X k H s k' H' s') (S:dz c k H s.heap) (n:∀b,X b->uf k H s.heap b):Mw k H s.heap k' H' s'.heap:=x.2.mv S λa vs e z q=>(n a z).2.elim λo y=>y.2 _ _ (ay (y.1.symm.trans q))
theorem wN.mv (x:wN c env k H s k' H' s') (S:dz c k H s.heap) (L0:Loc c k H s.heap env nm L):Mw k H s.heap k' H' s'.heap:=c8.mv x S λ_=>L0.own
theorem St.O4 (S:St c A r k H s env nm L) (W:wN c env k H s k' H' s') (X:Loc c k' H' s'.heap env nm L'):St c A r k' H' s' env nm L':=⟨S.1,W.1,X⟩
theorem dz.wO (S:dz c k H h) (n:nK k H b) (f:∃o,h.get? b=some o∧iO o) (hh:c.hb.get? b=none) (e:mV b h h'):dz c k H h':=
 S.Cc (X:=λa=>a=b) (λa z=>cr z▸⟨n,hh⟩) (λa vs n z q=>f.elim λo y=>y.2 _ _ (ay (y.1.symm.trans (z▸q)))) e
theorem c8.wO {t:Nat} (S:dz c k H s.heap) (f:uf k H s.heap b) (hh:c.hb.get? b=none) (e:mV b s.heap h') (lv:∃o,h'.get? b=some o∧iO o):c8 c (λa=>a=b) k H s k H {s with heap:=h',toks:=t}:=
 ⟨S.wO f.1 f.2 hh e,.keeps e (λa o z _=>lv.elim λo y=>⟨o,cr z▸y.1,λ_=>y.2⟩),rfl⟩
theorem c8.tail {t:Nat} (W:c8 c X k H s k' H' s') (f:s.heap.get? b=none) (S:dz c k' H' h') (e:mV b s'.heap h'):c8 c X k H s k' H' {s' with heap:=h',toks:=t}:=by
 have ne:∀{a o},s.heap.get? a=some o->a≠b:=λq z=>c7 f (z▸q)
 exact⟨S,⟨W.2.1,W.2.2,λa o g n q=>e _ _ (ne q) (W.2.3 a o g n q),W.2.4,W.2.5,W.2.6,λa o z q=>(W.2.7 a o z q).elim λo' y=>⟨o',e _ _ (ne q) y.1,y.2⟩⟩,W.3.trans rfl⟩
theorem C_ {m:Str->Option Value} (x:h.Ns b m):∃o,h.get? b=some o∧iO o:=by obtain⟨o,es,ep,q,d,_⟩:=x;exact⟨o,q,mB d⟩
theorem Da {m:Option Value} (x:h.IsCell b m):∃o,h.get? b=some o∧iO o:=by obtain⟨o,q,d⟩:=x;exact⟨o,q,sM d⟩
theorem Loc.other {P:Prop} {j:Nat} {n x:Str} {y:V} (L0:Loc c k H h env nm L) (hx:nm[i]?=some x) (hn:nm[j]?=some n) (hl:(L.set i (some v))[j]?=some (some y)) (f:n=x->y=v->P) (g:n≠x->L[j]?=some (some y)->P):P:=by
 by_cases q:j=i
 ·subst q
  rw[aZ (L0.2▸j0 hx)]at hl
  cases hl
  exact f (ay (hn.symm.trans hx)) rfl
 ·rw[a7 (d4 q)]at hl
  exact g (λz=>q (vm L0.1.4 (z▸hn) hx)) hl
theorem qh {α:Type} {x y:α} {o:Option α} (h:o=some x∨o=some y) {z:α} (q:o=some z) (n:z≠x) (m:z≠y):False:=h.elim (λe=>n (ay (q.symm.trans e))) λe=>m (ay (q.symm.trans e))
theorem Loc.Db {x:Str} {v':Value} {Q:Unit->Shared->Prop} (S:dz c k H s.heap) (L0:Loc c k H s.heap env nm L) (hx:nm[i]?=some x) (hk:env.scope.names.lookup x=some .local∨env.scope.names.lookup x=some .cell)
  (rv:VR c k H s.heap v v') (h:∀b s',Own env b->(env.kindOf x=some .local->b=env.locals)->c8 c (λa=>a=b) k H s k H s'->Loc c k H s'.heap env nm (L.set i (some v))->Q () s'):wpAny (Md c) A (storeName env x v') Q E s:=by
 obtain⟨m,ns,z⟩:=L0.4
 have go:∀{b:Addr} {h':Heap} {t:Nat},Own env b->(env.kindOf x=some .local->b=env.locals)->c.hb.get? b=none->mV b s.heap h'->(∃o,h'.get? b=some o∧iO o)->
   (Mw k H s.heap k H h'->(∃m,h'.Ns env.locals m∧∀(j:Nat) n y,nm[j]?=some n->(L.set i (some v))[j]?=some (some y)->env.kindOf n=some .local->∃w,m n=some w∧VR c k H h' y w)∧
    ∀(j:Nat) n a ov,nm[j]?=some n->(env.kindOf n=some .cell∨env.kindOf n=some .free)->env.cells.lookup n=some a->s.heap.IsCell a ov->(∀y,L[j]?=some (some y)->∃w,ov=some w∧VR c k H s.heap y w)->∃ov,h'.IsCell a ov∧∀y,(L.set i (some v))[j]?=some (some y)->∃w,ov=some w∧VR c k H h' y w)->Q () {s with heap:=h',toks:=t}:=by
  intro b h' t ob lb hb oi lv f
  have W:=c8.wO (t:=t) S (L0.own ob) hb oi lv
  obtain⟨f1,f2⟩:=f (W.mv S λ_ z=>cr z▸L0.own ob)
  exact h b _ ob lb W ⟨L0.1,(aU).trans L0.2,λa p=>(L0.3 a p).Ft W.2,f1,λj n hn hk=>(L0.5 j n hn hk).elim λa y=>y.elim λov y=>(f2 j n a ov hn hk y.1 y.2.1 y.2.2).elim λov z=>⟨a,ov,y.1,z⟩⟩
 rcases hk with hk|hk
 ·refine wpAny_storeName_local hk ns (λh' OZ hs=>go (.inl rfl) (λ_=>rfl) L0.1.5 (uJ hs) (C_ OZ) λmv=>⟨⟨_,OZ,λj n y hn hl Jz=>L0.other hx hn hl (λe e'=>⟨v',if_pos e,cr e'▸rv.mono mv⟩) λne hl=>?_⟩,λj n a ov hn Jz p g w=>⟨ov,?_,λy hl=>?_⟩⟩) (by rw[L0.1.1];rfl)
  ·obtain⟨w,p,Jj⟩:=z j n y hn hl Jz
   exact⟨w,(if_neg ne).trans p,Jj.mono mv⟩
  ·exact qb g λo=>uJ hs _ _ λe=>L0.1.8 n (e▸p)
  ·exact L0.other hx hn hl (λe _=>(qh Jz (cr e▸hk:env.kindOf n=some .local) (λe=>NameKind.noConfusion e) λe=>NameKind.noConfusion e).elim) λ_ hl=>(w y hl).elim λw q=>⟨w,q.1,q.2.mono mv⟩
 ·obtain⟨a,ov,p,g,_⟩:=L0.5 i x hx (.inl hk)
  refine wpAny_storeName_cell L0.1.1 hk p g λh' g' hs=>go (t:=s.toks) (.inr ⟨x,hk,p⟩) (λz=>NameKind.noConfusion (ay (z.symm.trans hk))) (L0.1.6 _ _ hk p) (uJ hs) (Da g') λmv=>⟨⟨m,ns.sameBut hs (λq=>L0.1.8 x (q▸p)),λj n y hn hl Jz=>?_⟩,λj n b ov hn Jz q g2 w=>?_⟩
  ·exact L0.other hx hn hl (λe _=>NameKind.noConfusion (ay ((e▸Jz:env.kindOf x=some .local).symm.trans hk))) λ_ hl=>(z j n y hn hl Jz).elim λw q=>⟨w,q.1,q.2.mono mv⟩
  ·by_cases ne:n=x
   ·cases ne
    cases p.symm.trans q
    exact⟨some v',g',λy hl=>L0.other hx hn hl (λ_ e'=>⟨v',rfl,cr e'▸rv.mono mv⟩) λq _=>absurd rfl q⟩
   ·exact⟨ov,qb g2 λo=>uJ hs _ _ λe=>ne (L0.1.7 _ _ _ q (e▸p)),λy hl=>L0.other hx hn hl (λe _=>absurd e ne) λ_ hl=>(w y hl).elim λw q=>⟨w,q.1,q.2.mono mv⟩⟩
theorem Loc.store {x:Str} {v':Value} {Q:Unit->Shared->Prop} (S:dz c k H s.heap) (L0:Loc c k H s.heap env nm L) (hx:nm[i]?=some x) (hk:env.scope.names.lookup x=some .local∨env.scope.names.lookup x=some .cell)
  (rv:VR c k H s.heap v v') (h:∀s',wN c env k H s k H s'->Loc c k H s'.heap env nm (L.set i (some v))->Q () s'):wpAny (Md c) A (storeName env x v') Q E s:=
 L0.Db S hx hk rv λb s' o _ W=>h s' (W.up (λ_ _ z _=>cr z▸o) λ_ q=>(L0.own q).1.ow)
end
end
section
section
variable {c:Cx} {T:Tb} {A:Around} {R:Result->Shared->Prop} {s:Shared} {env:Env}
abbrev Nt (c:Cx) (A:Around) (env:Env) (R:Result->Shared->Prop):Value->Shared->Prop:=notedBy (Md c) A env λe s'=>R (.error e) s'
noncomputable def CQ (c:Cx) (A:Around) (env:Env) (elt target iter:Expr) (ifs:List Expr) (scope:Scope) (pos:Pos) (it acc:Value) (R:Result->Shared->Prop):Bool->Shared->Prop:=λok s₃=>
 if ok=true then wpAny (Md c) A (eval elt env) (λx s₄=>
  wpAny (Md c) A (call (.builtin "list.append") [acc,x]) (λ_ s₅=>codeAny (Md c) A (.compLoop (.ListComp elt [⟨target,iter,ifs,0⟩] scope pos) 0 it acc env) R s₅) (Nt c A env R) s₄) (Nt c A env R) s₃
 else codeAny (Md c) A (.compLoop (.ListComp elt [⟨target,iter,ifs,0⟩] scope pos) 0 it acc env) R s₃
noncomputable def CQ1 (c:Cx) (A:Around) (env:Env) (target:Expr) (it:Value) (ifs:List Expr) (N:Shared->Prop) (Q:Bool->Shared->Prop) (E:Value->Shared->Prop):Option Value->Shared->Prop
 |none,s₁=>N s₁
 |some v,s₁=>wpAny (Md c) A (letOwnedTupleGo target it v) (λ_ wP=>wpAny (Md c) A (assign target env v) (λ_ s₂=>
   wpAny (Md c) A (forIn ifs true λc r=>if r=true then do let ok ←isTrue c env (eval c env);pure (ForInStep.yield ok)else pure (ForInStep.yield r)) Q E s₂) E wP) E s₁
theorem sZ {elt target iter:Expr} {ifs:List Expr} {scope:Scope} {pos:Pos} {it acc:Value}
  (h:wpAny (Md c) A (pyNext it) (CQ1 c A env target it ifs (R (.ok .next)) (CQ c A env elt target iter ifs scope pos it acc R) (Nt c A env R)) (Nt c A env R) s):
  codeAny (Md c) A (.compLoop (.ListComp elt [⟨target,iter,ifs,0⟩] scope pos) 0 it acc env) R s:=by
 refine codeAny_of_tree ?_
 show wpAny _ A ((compTurn (.ListComp elt [⟨target,iter,ifs,0⟩] scope pos) 0 it acc env).onRaise (λx=>do noteFrame x env;theTreesLotGoes x)) _ _ s
 refine wpAny_noted ?_
 rw[compTurn_list]
 refine wpAny_bind (wpAny_standAt (wpAny_bind (wpAny_mono h (λq s₁ h₁=>?_) λ_ _ h'=>h')))
 cases q with
 |none=>exact wpAny_pure h₁
 |some v=>
  refine wpAny_bind (wpAny_mono h₁ (λ_ wP Dc=>?_) λ_ _ h'=>h')
  refine wpAny_bind (wpAny_mono Dc (λ_ s₂ h₂=>wpAny_bind (wpAny_mono h₂ (λok s₃ h₃=>?_) λ_ _ h'=>h')) λ_ _ h'=>h')
  cases ok with
  |false=>exact wpAny_pure ⟨rfl,h₃⟩
  |true=>
   exact wpAny_bind (wpAny_bind (wpAny_mono h₃ (λx s₄ h₄=>wpAny_bind (wpAny_mono h₄ (λ_ s₅ h₅=>wpAny_pure (wpAny_pure ⟨rfl,h₅⟩)) λ_ _ h'=>h')) λ_ _ h'=>h'))
noncomputable def FQ (c:Cx) (A:Around) (env:Env) (target:Expr) (it:Value) (body:List Stmt) (R:Result->Shared->Prop):Flow->Shared->Prop
 | .next,s₃| .cont,s₃=>codeAny (Md c) A (.forLoop target it body [] env) R s₃
 | .brk,s₃=>R (.ok .next) s₃
 | .ret v,s₃=>R (.ok (.ret v)) s₃
noncomputable def FQ1 (c:Cx) (A:Around) (env:Env) (target:Expr) (it:Value) (body:List Stmt) (N:Shared->Prop) (Q:Flow->Shared->Prop) (E:Value->Shared->Prop):Option Value->Shared->Prop
 |none,s₁=>N s₁
 |some v,s₁=>wpAny (Md c) A (letOwnedTupleGo target it v) (λ_ wP=>wpAny (Md c) A (assign target env v) (λ_ s₂=>wpAny (Md c) A (execs body env) Q E s₂) E wP) E s₁
theorem vv {target:Expr} {it:Value} {body:List Stmt}
  (h:wpAny (Md c) A (pyNext it) (FQ1 c A env target it body (R (.ok .next)) (FQ c A env target it body R) (Nt c A env R)) (Nt c A env R) s):
  codeAny (Md c) A (.forLoop target it body [] env) R s:=by
 refine codeAny_of_tree ?_
 show wpAny _ A ((forTurn target it body [] env).onRaise (λx=>do noteFrame x env;theTreesLotGoes x)) _ _ s
 refine wpAny_noted ?_
 unfold forTurn
 refine wpAny_bind (wpAny_standAt (wpAny_bind (wpAny_onRaise (wpAny_mono h (λq s₁ h₁=>?_) λ_ _ h'=>wpAny_standAt h'))))
 cases q with
 |none=>exact wpAny_pure ⟨rfl,codeAny_block (wpAny_execs_nil h₁)⟩
 |some v=>
  refine wpAny_bind (wpAny_mono h₁ (λ_ wP Dc=>?_) λ_ _ h'=>h')
  refine wpAny_bind (wpAny_mono Dc (λ_ s₂ h₂=>wpAny_bind (wpAny_mono h₂ (λf s₃ h₃=>?_) λ_ _ h'=>h')) λ_ _ h'=>h')
  cases f with
  |next=>exact wpAny_pure ⟨rfl,h₃⟩
  |cont=>exact wpAny_pure ⟨rfl,h₃⟩
  |brk=>exact wpAny_pure h₃
  |ret v=>exact wpAny_pure h₃
theorem qY {test:Expr} {body:List Stmt}
  (h:wpAny (Md c) A (isTrue test env (eval test env)) (λb s₂=>
    if b then wpAny (Md c) A (execs body env) (λf s₃=>match f with
      | .next| .cont=>codeAny (Md c) A (.whileLoop test body [] env) R s₃
      | .brk=>R (.ok .next) s₃
      | .ret v=>R (.ok (.ret v)) s₃) (Nt c A env R) s₂
    else R (.ok .next) s₂) (Nt c A env R) s):
  codeAny (Md c) A (.whileLoop test body [] env) R s:=by
 refine codeAny_of_tree ?_
 show wpAny _ A ((whileTurn test body [] env).onRaise (λx=>do noteFrame x env;theTreesLotGoes x)) _ _ s
 refine wpAny_noted ?_
 unfold whileTurn
 refine wpAny_bind (wpAny_mono h (λb s₂ h₂=>?_) λ_ _ h'=>h')
 cases b with
 |false=>exact wpAny_bind (wpAny_execs_nil (wpAny_pure h₂))
 |true=>
  refine wpAny_bind (wpAny_mono h₂ (λf s₃ h₃=>?_) λ_ _ h'=>h')
  cases f with
  |next=>exact wpAny_pure ⟨rfl,h₃⟩
  |cont=>exact wpAny_pure ⟨rfl,h₃⟩
  |brk=>exact wpAny_pure h₃
  |ret v=>exact wpAny_pure h₃
end
end
section
noncomputable def Dd (f:Str->Pos->Str->Pos->Bool):=Ja λl=>w2 (λa b=>pick (λx p=>pick (λy q=>f x p y q) z4 z3 z4 z3 z4 z2 z3 z3 z4 z3 z4 z3 z4 z3 b) z4 z3 z4 z3 z4 z2 z3 z3 z4 z3 z4 z3 z4 z3 a) l
theorem yw {P:Expr->Prop} {e:Expr} {f} (h:Dd f e=true) (k:∀x p y q n r,f x p y q=true->P (.Tuple [.Name x p,.Name y q] n r)):P e:=
 Cg h λl n r h=>K7 (P:=λl=>P (.Tuple l n r)) h λa b h=>dF (P:=λa=>P (.Tuple [a,b] n r)) h (λx p h=>dF (P:=λb=>P (.Tuple [.Name x p,b] n r)) h (λy q h=>k x p y q n r h) Z4 Z3 Z4 Z3 Z4 Z2 Z3 Z3 Z4 Z3 Z4 Z3 Z4 Z3) Z4 Z3 Z4 Z3 Z4 Z2 Z3 Z3 Z4 Z3 Z4 Z3 Z4 Z3
noncomputable def rJ (x:Expr->Bool) (a:Expr->Expr->Pos->Bool) (i:Expr->List Stmt->List Stmt->Bool) (w:Expr->List Stmt->Bool) (f:Expr->Expr->List Stmt->Bool) (r:Expr->Bool) (c:Bool):Stmt->Bool
 | .Expr e _=>x e
 | .Assign l e p=>w1 (λt=>a t e p) l
 | .If e l m _=>i e l m
 | .While e l m _=>m.isEmpty&&w e l
 | .For t e l m _=>m.isEmpty&&f t e l
 | .Return e _=>ue r e
 | .Continue _=>c
 |_=>false
theorem pK {P:Stmt->Prop} {x a i w f r c}:∀{s},rJ x a i w f r c s=true->(∀e p,x e=true->P (.Expr e p))->(∀t e p,a t e p=true->P (.Assign [t] e p))->(∀e l m p,i e l m=true->P (.If e l m p))->(∀e l p,w e l=true->P (.While e l [] p))->
  (∀t e l p,f t e l=true->P (.For t e l [] p))->(∀e p,r e=true->P (.Return (some e) p))->(∀p,c=true->P (.Continue p))->P s:=by
 intro s h x a i w f r c
 cases s<;>first|exact ff h|exact x _ _ h|exact K6 (P:=λl=>P (.Assign l _ _)) h λt=>a t _ _|exact i _ _ _ _ h|exact sP (P:=λm=>P (.While _ _ m _)) (cI h).1 (w _ _ _ (cI h).2)|exact sP (P:=λm=>P (.For _ _ _ m _)) (cI h).1 (f _ _ _ _ (cI h).2)|exact zE (P:=λe=>P (.Return e _)) h λe=>r e _|exact c _ h
section
variable {P:Stmt->Prop} {s:Stmt}
noncomputable def JB (f:Expr->Bool):=rJ f z3 z3 z2 z3 (λ_=>false) false
theorem Iu {f} (h:JB f s=true) (k:∀e p,f e=true->P (.Expr e p)):P s:=pK h k (λ_ _ _ h=>ff h) (λ_ _ _ _ h=>ff h) (λ_ _ _ h=>ff h) (λ_ _ _ _ h=>ff h) (λ_ _ h=>ff h) λ_ h=>ff h
noncomputable def Gq (f:Expr->Expr->Bool):=rJ (λ_=>false) (λt e _=>f t e) z3 z2 z3 (λ_=>false) false
theorem De {f} (h:Gq f s=true) (k:∀t e p,f t e=true->P (.Assign [t] e p)):P s:=pK h (λ_ _ h=>ff h) k (λ_ _ _ _ h=>ff h) (λ_ _ _ h=>ff h) (λ_ _ _ _ h=>ff h) (λ_ _ h=>ff h) λ_ h=>ff h
noncomputable def Mn (f:Expr->List Stmt->List Stmt->Bool):=rJ (λ_=>false) z3 f z2 z3 (λ_=>false) false
theorem Mo {f} (h:Mn f s=true) (k:∀e l m p,f e l m=true->P (.If e l m p)):P s:=pK h (λ_ _ h=>ff h) (λ_ _ _ h=>ff h) k (λ_ _ _ h=>ff h) (λ_ _ _ _ h=>ff h) (λ_ _ h=>ff h) λ_ h=>ff h
noncomputable def Mp (f:Expr->List Stmt->Bool):=rJ (λ_=>false) z3 z3 f z3 (λ_=>false) false
theorem Mq {f} (h:Mp f s=true) (k:∀e l p,f e l=true->P (.While e l [] p)):P s:=pK h (λ_ _ h=>ff h) (λ_ _ _ h=>ff h) (λ_ _ _ _ h=>ff h) k (λ_ _ _ _ h=>ff h) (λ_ _ h=>ff h) λ_ h=>ff h
noncomputable def Mr (f:Expr->Expr->List Stmt->Bool):=rJ (λ_=>false) z3 z3 z2 f (λ_=>false) false
theorem Ms {f} (h:Mr f s=true) (k:∀t e l p,f t e l=true->P (.For t e l [] p)):P s:=pK h (λ_ _ h=>ff h) (λ_ _ _ h=>ff h) (λ_ _ _ _ h=>ff h) (λ_ _ _ h=>ff h) k (λ_ _ h=>ff h) λ_ h=>ff h
noncomputable def Mt (f:Expr->Bool):=rJ (λ_=>false) z3 z3 z2 z3 f false
theorem Mu {f} (h:Mt f s=true) (k:∀e p,f e=true->P (.Return (some e) p)):P s:=pK h (λ_ _ h=>ff h) (λ_ _ _ h=>ff h) (λ_ _ _ _ h=>ff h) (λ_ _ _ h=>ff h) (λ_ _ _ _ h=>ff h) k λ_ h=>ff h
noncomputable def Mx:=rJ (λ_=>false) z3 z3 z2 z3 (λ_=>false) true
theorem My (h:Mx s=true) (k:∀p,P (.Continue p)):P s:=pK h (λ_ _ h=>ff h) (λ_ _ _ h=>ff h) (λ_ _ _ _ h=>ff h) (λ_ _ _ h=>ff h) (λ_ _ _ _ h=>ff h) (λ_ _ h=>ff h) λp _=>k p
end
noncomputable def yy (sc:Scope) (nm:List Str) (i:Nat) (x:Str):Bool:=nm[i]?==some x&&(sc.names.lookup x==some .local||sc.names.lookup x==some .cell)
noncomputable def Lg (sc:Scope) (nm:List Str):Tg->Expr->Bool
 | .v i=>uF (yy sc nm i)
 | .p i j=>Dd λx _ y _=>i !=j&&(yy sc nm i x&&yy sc nm j y)
noncomputable def Mz (sc:Scope) (te:Expr):Expr->Bool:=pick (λ_ _=>true) (λ_ _ _ _=>true) (λ_ _ _=>true) (λ_ _ _ _=>true) (λ_ _ _=>true) (λ_ _ _ _=>true) (λ_ _=>true)
 (λvs _ _=>w2 (λa b=>gd true true a&&gd true true b) vs&&Dd (λx p y q=>sc.names.lookup x !=some .local||((sc.names.lookup x==some .local&&p.line==p.line)&&((sc.names.lookup y==some .local&&q.line==p.line)&&(x !=y&&(!(vs.all (foldedForSure 8))&& !(vs.all (constantsAlone 8))))))) te)
 (λ_ _ _=>true) (λ_ _ _ _=>true) (λ_ _ _=>true) (λ_ _ _ _=>true) (λ_ _ _=>true) (λ_ _ _ _=>true) λ_ _ _=>true
noncomputable def isCall:=pick z2 z4 z3 z4 z3 z4 z2 z3 z3 z4 z3 z4 z3 (λ_ _ _ _=>true) z3
noncomputable def O5 (sc:Scope) (e:CE):Tg->Expr->Expr->Bool
 | .v _=>λ_ x=>if e.mA=true then mA x else gd false true x
 | .p _ _=>λt x=>gd false true x&&Mz sc t x
mutual
noncomputable def CS.eX:CS->Bool
 | .sup _=>false
 | .ite _ a b=>a.eX&&b.eX
 | .while _ b=>b.eX
 | .for _ _ b=>b.eX
 |_=>true
noncomputable def i6.eX:i6->Bool
 | .nil=>true
 | .cons s r=>s.eX&&r.eX
end
section
variable(T:Tb)
mutual
noncomputable def okS (r:Nat) (sc:Scope) (nm:List Str):CS->Stmt->Bool
 | .expr e=>JB λx=>isCall x&&gK T r sc nm e x
 | .set t e=>Gq λy x=>Lg sc nm t y&&(O5 sc e t y x&&gK T r sc nm e x)
 | .setattr o f e=>Gq λy x=>zG (λz n _=>T.at_[f]?==some n&&(gd true true x&&(gK T r sc nm o z&&gK T r sc nm e x))) y
 | .br o i e=>Gq λy x=>AK (λz w=>gd true false w&&(gd true true x&&(gK T r sc nm o z&&(gK T r sc nm i w&&gK T r sc nm e x)))) y
 | .ite c a b=>Mn λx l m=>gK T r sc nm c x&&(s6 r sc nm a l&&s6 r sc nm b m)
 | .while c b=>Mp λx l=>b.eX&&(gK T r sc nm c x&&s6 r sc nm b l)
 | .for t i b=>Mr λy x l=>b.eX&&(Lg sc nm t y&&(LR T r sc nm i x&&s6 r sc nm b l))
 | .ret e=>Mt (gK T r sc nm e)
 | .cont=>Mx
 | .sup l=>JB (zH λo n as=>n=="__init__"&&(sQ (λx m=>x=="super"&&m.isEmpty) o&&(jp T r sc nm l as&&wr T T.P.sup r)))
noncomputable def s6 (r:Nat) (sc:Scope) (nm:List Str):i6->List Stmt->Bool
 | .nil=>List.isEmpty
 | .cons s q=>zB λx l=>okS r sc nm s x&&s6 r sc nm q l
end
end
noncomputable def zY (t:Tg) (x:V) (L L':Lc):Prop:=match t with
 | .v i=>L'=L.set i (some x)
 | .p i j=>∃a b,x= .tup [a,b]∧L'=(L.set i (some a)).set j (some b)
theorem zY.v (i:Nat) (x:V) (L:Lc):zY (.v i) x L (L.set i (some x)):=rfl
theorem zY.p (i j:Nat) (x y:V) (L:Lc):zY (.p i j) (.tup [x,y]) L ((L.set i (some x)).set j (some y)):=⟨x,y,rfl,rfl⟩
noncomputable def B6 (c:Cx) (k:Lk) (H:Hp) (h:Heap):Fl->Flow->Prop
 | .next,f=>f= .next
 | .cont,f=>f= .cont
 | .ret v,f=>∃v',f= .ret v'∧VR c k H h v v'
section
variable {c:Cx} {T:Tb} {L L':Lc} {H:Hp} {k:Lk} {s:Shared} {A:Around} {r:Nat} {E:Value->Shared->Prop} {env:Env} {nm:List Str} {v u w:V}
theorem ji {sc:Scope} {i:Nat} {x:Str} (h:yy sc nm i x=true):nm[i]?=some x∧(sc.names.lookup x=some .local∨sc.names.lookup x=some .cell):=⟨cJ (cI h).1,(cD.mp (cI h).2).imp cJ cJ⟩
theorem Df {x y:Str} {i j:Nat} {vu vw:Value} {Q:Unit->Shared->Prop} (S:dz c k H s.heap) (L0:Loc c k H s.heap env nm L) (o1:yy env.scope nm i x=true) (o2:yy env.scope nm j y=true) (ru:VR c k H s.heap u vu) (Jj:VR c k H s.heap w vw)
  (h:∀s',wN c env k H s k H s'->Loc c k H s'.heap env nm ((L.set i (some u)).set j (some w))->Q () s'):wpAny (Md c) A (storeName env x vu) (λ_ s1=>wpAny (Md c) A (storeName env y vw) Q E s1) E s:=
 L0.store S (ji o1).1 (ji o1).2 ru λs1 W1 X1=>X1.store W1.1 (ji o2).1 (ji o2).2 (Jj.mono (W1.mv S L0)) λs2 W2 X2=>h s2 (W1.trans W2) X2
theorem rK {t:Tg} {te:Expr} {v':Value} {Q:Unit->Shared->Prop} (S:St c A r k H s env nm L) (ok:Lg env.scope nm t te=true) (R:zY t v L L') (rv:VR c k H s.heap v v')
  (h:∀s',wN c env k H s k H s'->Loc c k H s'.heap env nm L'->Q () s'):wpAny (Md c) A (assign te env v') Q E s:=by
 cases t with
 |v i=>
  cases(R:L'=_)
  apply pJ ok λn p ok=>?_
  exact wpAny_assign_Name (S.3.store S.2 (ji ok).1 (ji ok).2 rv h)
 |p i j=>
  obtain⟨x,y,rfl,rfl⟩:=R
  apply yw ok λn p n' p' q pp ok=>?_
  apply i7 ok λ_ o1 o2=>?_
  apply rv.kT λa vs e g R=>?_
  obtain⟨v1,_,rfl,r1,v2,_,rfl,r2,rfl⟩:=R
  refine wpAny_assign_Tuple (items:=#[v1,v2]) S.1.1 ⟨_,g,rfl,_,rfl⟩ rfl rfl λh' he=>?_
  have K:=dy.keeps (h':=h') (t:=s.toks) S.2 λb o q=>he b o (cu (Heap.lt_size q)) q
  exact wpAny_bind (wpAny_holding (wpAny_assign_Name (wpAny_mono (Df K.1 (K.loc S.2 S.3) o1 o2 (K.vr S.2 r1) (K.vr S.2 r2) λs2 W X=>wpAny_pure (h s2 ((K.x S.3).trans W) X)) (λ_ _ h=>wpAny_bind (wpAny_holding (wpAny_assign_Name h))) λ_ _ e=>e)))
theorem Dh {n n':Str} {p p' pp:Pos} {q:Nat} {value:Expr} {P:Prop} (hf:env.scope.kind= .function) (ok:Mz env.scope (.Tuple [.Name n p,.Name n' p'] q pp) value=true) (k1:swappedStores [.Tuple [.Name n p,.Name n' p'] q pp] value env=pure none->P)
  (k2:swappedStores [.Tuple [.Name n p,.Name n' p'] q pp] value env=pure (some [n,n'])->P):P:=by
 refine dF (P:=λvalue=>swappedStores [.Tuple [.Name n p,.Name n' p'] q pp] value env=pure none∨swappedStores [.Tuple [.Name n p,.Name n' p'] q pp] value env=pure (some [n,n'])) ok (λ_ _ _=>.inl rfl) (λ_ _ _ _ _=>.inl rfl) (λ_ _ _ _=>.inl rfl) (λ_ _ _ _ _=>.inl rfl) (λ_ _ _ _=>.inl rfl) (λ_ _ _ _ _=>.inl rfl) (λ_ _ _=>.inl rfl) (λvs a b ok=>?_) (λ_ _ _ _=>.inl rfl)
  (λ_ _ _ _ _=>.inl rfl) (λ_ _ _ _=>.inl rfl) (λ_ _ _ _ _=>.inl rfl) (λ_ _ _ _=>.inl rfl) (λ_ _ _ _ _=>.inl rfl) (λ_ _ _ _=>.inl rfl)|>.elim k1 k2
 clear k1 k2
 apply iW ok λok2 ok=>?_
 revert ok
 apply K7 ok2 λx y hs=>?_
 intro ok
 have e3:env.blockKind= .function:=by unfold Env.blockKind;rw[hf];rfl
 have st:∀f:Expr->Bool,f x=false->f y=false->¬[x,y].any f=true:=λf a b z=>ff ((oB.mpr ⟨a,oB.mpr ⟨b,rfl⟩⟩).symm.trans z)
 unfold swappedStores
 rcases cD.mp ok with o|ok
 ·have key:∀f:Expr->Option Str,f (.Name n p)=none->(List.filterMap f [.Name n p,.Name n' p']).length<2:=λf h=>by rw[List.filterMap_cons_none h];exact dh (List.length_filterMap_le _ _)
  refine .inl ((if_neg (by rw[e3];exact λz=>ff z)).trans ((if_neg (st _ ?_ ?_)).trans (if_pos (cD.mpr (.inl (bne_iff_ne.mpr (cu (key _ ?_))))))))
  ·apply dF (cI hs).1<;>(intros;rfl)
  ·apply dF (cI hs).2<;>(intros;rfl)
  ·exact if_neg λz=>bne_iff_ne.mp o (cJ (cI z).1)
 ·apply vd ok λo1 o2 o5 o3 o4=>?_
  have e1:(env.kindOf n==some .local&&p.line==p.line)=true:=o1
  have e2:(env.kindOf n'==some .local&&p'.line==p.line)=true:=o2
  have e4:(n'==n)=false:=beq_false_of_ne (d4 (bne_iff_ne.mp o5))
  have key:∀f:Expr->Option Str,f (.Name n p)=some n->f (.Name n' p')=some n'->List.filterMap f [.Name n p,.Name n' p']=[n,n']:=λf h1 h2=>by rw[lH h1,lH h2];rfl
  have he:[n,n'].eraseDups=[n,n']:=by
   rw[ph,cK (by rw[e4];rfl),dG,ph];rfl
  refine .inr ((if_neg (by rw[e3];exact λz=>ff z)).trans ((if_neg (st _ ?_ ?_)).trans ((congrArg (λnames:List Str=>(if(names.length !=2||names.eraseDups.length !=names.length)=true then(pure none:Sem (Option (List Str)))else if [x,y].all (foldedForSure 8)=true then pure none else
   if [x,y].all (constantsAlone 8)=true then(do let _ ←(unsupported "assign.tuple-of-constant-expressions:order-of-the-stores":Sem Unit);pure (some names))else pure (some names))) (key _ ?_ ?_)).trans ((if_neg (by rw[he];exact λz=>ff z)).trans ((if_neg λz=>ff ((sN o3).symm.trans z)).trans (if_neg λz=>ff ((sN o4).symm.trans z)))))))
  ·apply dF (cI hs).1<;>(intros;rfl)
  ·apply dF (cI hs).2<;>(intros;rfl)
  ·exact if_pos e1
  ·exact if_pos e2
end
end
section
inductive Di (c:Cx) (T:Tb) (scope:Scope) (f s7 cc D:Addr) (x0:Str):Prop
 |mk (fn:∃oc od fd Gr ar,c.K.lookup f=some ⟨oc,od,.func fd,Gr⟩∧(fd.params.posonlyargs++fd.params.args).head?=some ar∧ar.arg=x0) (code:∃Lh Lj vs N3 file tf,c.K.lookup s7=some ⟨Lh,Lj,.fields vs,N3⟩∧vs[2]?=some (.str file tf)∧((c.prog.main.file:Str)==file)=true) (cell:∃cl O6 MB,c.K.lookup cc=some ⟨cl,O6,.cell (some (.ref D)),MB⟩) (cls:∃Lh Lj cdD MB,c.K.lookup D=some ⟨Lh,Lj,.cls cdD,MB⟩) (sub:mroIn c.K (c.G.cl T.P.wp) (.ref D)=some true) (ks:scope.names.lookup ("super":Str)=some .globalImplicit) (kc:scope.names.lookup ("__class__":Str)=some .free) (ka:scope.names.lookup x0=some .local) (top:(c.prog.main.scope.names.lookup ("super":Str)).isSome=false) (any:nsIn c.K cStatics "thirdparty.any"=some none) (get:ks_superIn c.K (c.G.cl T.P.wp) D "__init__"=some (some (.ref (c.G.fa T.P.sup)))) (ty:typeIn c.K (.ref (c.G.fa T.P.sup))=some (.type "function"))
noncomputable def Dk (c:Cx) (T:Tb) (env:Env) (x0:Str):Prop:=∃q scope L f s7 cc D,env=ksEnv q scope L f (.ref s7) cc∧Di c T scope f s7 cc D x0
noncomputable def Go (c:Cx) (X:Addr->Prop) (env:Env) (nm:List Str) (k:Lk) (H:Hp) (s:Shared) (f:Fl) (L':Lc) (H':Hp) (Q:Flow->Shared->Prop):Prop:=∀k' s' fv,c8 c X k H s k' H' s'->Loc c k' H' s'.heap env nm L'->B6 c k' H' s'.heap f fv->Q fv s'
noncomputable def JD (env:Env) (I b:Addr):Prop:=Own env b∨b=I
noncomputable def GoI (c:Cx) (I:Addr) (env:Env) (nm:List Str) (k:Lk) (H:Hp) (s:Shared) (f:Fl) (L':Lc) (H':Hp) (R:Result->Shared->Prop):Prop:=∀k' s' fv h' t,c8 c (JD env I) k H s k' H' s'->mV I s'.heap h'->dz c k' H' h'->Loc c k' H' h' env nm L'->B6 c k' H' h' f fv->R (.ok fv) {s' with heap:=h',toks:=t}
section
variable(c:Cx) (T:Tb)
noncomputable def qi (st:CS) (L:Lc) (H:Hp) (f:Fl) (L':Lc) (H':Hp):Prop:=
 ∀{A:Around} {r:Nat} {env:Env} {nm:List Str} {ps:Stmt} {k:Lk} {s:Shared} {Q:Flow->Shared->Prop} {E:Value->Shared->Prop} {c0:Code},St c A r k H s env nm L->
  okS T r env.scope nm st ps=true->(st.eX=true∨((∃body,c0= .func body env)∧Dk c T env (nm.getD 0 Str.empty)))->Go c (Own env) env nm k H s f L' H' Q->_root_.PySem.wpAt (Md c) A c0 (exec ps env) Q E s
noncomputable def j_ (st:i6) (L:Lc) (H:Hp) (f:Fl) (L':Lc) (H':Hp):Prop:=
 ∀{A:Around} {r:Nat} {env:Env} {nm:List Str} {ps:List Stmt} {k:Lk} {s:Shared} {Q:Flow->Shared->Prop} {E:Value->Shared->Prop} {c0:Code},St c A r k H s env nm L->
  s6 T r env.scope nm st ps=true->(st.eX=true∨((∃body,c0= .func body env)∧Dk c T env (nm.getD 0 Str.empty)))->Go c (Own env) env nm k H s f L' H' Q->_root_.PySem.wpAt (Md c) A c0 (execs ps env) Q E s
noncomputable def qZ (t:Tg) (b:i6) (g:Gd) (xs:List V) (L:Lc) (H:Hp) (f:Fl) (L':Lc) (H':Hp):Prop:=
 ∀{A:Around} {r:Nat} {env:Env} {nm:List Str} {te:Expr} {ps:List Stmt} {k:Lk} {s:Shared} {I:Addr} {R:Result->Shared->Prop},St c A r k H s env nm L->Lg env.scope nm t te=true->s6 T r env.scope nm b ps=true->b.eX=true->
  i8 c k H s.heap I g xs->nK k H I->¬B4 env I->c.hb.get? I=none->GoI c I env nm k H s f L' H' R->codeAny (Md c) A (.forLoop te (.ref I) ps [] env) R s
noncomputable def uL (e:CE) (b:i6) (L:Lc) (H:Hp) (f:Fl) (L':Lc) (H':Hp):Prop:=
 ∀{A:Around} {r:Nat} {env:Env} {nm:List Str} {pe:Expr} {ps:List Stmt} {k:Lk} {s:Shared} {R:Result->Shared->Prop},St c A r k H s env nm L->gK T r env.scope nm e pe=true->s6 T r env.scope nm b ps=true->b.eX=true->
  Go c (Own env) env nm k H s f L' H' (λfv=>R (.ok fv))->codeAny (Md c) A (.whileLoop pe ps [] env) R s
noncomputable def MC (e:CE) (L:Lc) (H:Hp) (v:V) (H':Hp):Prop:=
 ∀{A:Around} {r:Nat} {env:Env} {nm:List Str} {pe:Expr} {k:Lk} {s:Shared} {use:Value->Sem Unit} {Q:Unit->Shared->Prop} {E:Value->Shared->Prop},St c A r k H s env nm L->
  gK T r env.scope nm e pe=true->(∀k' s' v' C,dy c k H s k' H' s'->VR c k' H' s'.heap v v'->s.heap.get? C=none->nK k' H' C->(∃m,s'.heap.Ns C m)->
   wpAny (Md c) A (use v') (λ_ zJ=>(∃m,zJ.heap.Ns C m)∧∀h',Heap.SameBut C zJ.heap h'->Q () {zJ with heap:=h'}) E s')->wpAny (Md c) A (evalThenUse pe env use) Q E s
noncomputable def zZ (e:CE) (L:Lc) (H:Hp) (v:V) (H':Hp):Prop:=b_ c T e L H v H'∧(e.mA=true->MC c T e L H v H')
end
section
variable {c:Cx} {T:Tb} {L L1 L' L2:Lc} {H H1 H2 H3 H4 H':Hp} {e o i:CE} {v va vb:V} {k k':Lk} {s s':Shared} {A:Around} {r:Nat} {E:Value->Shared->Prop} {env:Env} {nm:List Str} {f fl:Fl} {st:CS} {ss sa sb:i6} {Q:Flow->Shared->Prop} {X:Addr->Prop}
theorem Go.MD (h:Go c (Own env) env nm k H s .next L H' Q) (S:St c A r k H s env nm L) (W:dy c k H s k' H' s'):Q .next s':=h _ _ _ (W.x S.3) (W.loc S.2 S.3) rfl
theorem Go.Dl (h:Go c X env nm k H s f L' H' Q) (W:c8 c X k H s k' H1 s'):Go c X env nm k' H1 s' f L' H' Q:=λk2 s2 fv W2 X2 F2=>h k2 s2 fv (W.trans W2) X2 F2
theorem z6 {value:Expr} {t:Option Expr} {line:Nat} (h:gd false true value=true):swapsWith value t line env=pure false:=by apply dF h<;>first|(intros;rfl)|exact λ_ _ _ _ h=>ff h
theorem A5 {value o:Expr} {n:Str} {p:Pos} {line:Nat} (h:gd true true value=true):swapsWith value (some (.Attribute o n p)) line env=pure false:=by apply dF h<;>(intros;rfl)
theorem Dm {value o i:Expr} {p:Pos} {line:Nat} (h:gd true true value=true):swapsWith value (some (.Subscript o i p)) line env=pure false:=by apply dF h<;>(intros;rfl)
theorem wQ (L0:Loc c k H s.heap env nm L):interactive env=false:=by unfold interactive;rw[L0.1.1];rfl
theorem Gs {P:Expr->Prop} {e:Expr} (h:isCall e=true) (q:∀f l k p,P (.Call f l k p)):P e:=dF h Z2 Z4 Z3 Z4 Z3 Z4 Z2 Z3 Z3 Z4 Z3 Z4 Z3 (λ_ _ _ _ _=>q _ _ _ _) Z3
theorem Gu {P:Expr->Prop} {e:Expr} (h:mA e=true) (q:∀f l k p,P (.ListComp f l k p)):P e:=dF h Z2 Z4 Z3 Z4 Z3 Z4 Z2 Z3 Z3 (λ_ _ _ _ _=>q _ _ _ _) Z3 Z4 Z3 Z4 Z3
theorem Do {g:Expr} {l:List Expr} {w:List Keyword} {q p:Pos} {v':Value} (h:Q .next s):wpAny (Md c) A (dropValue (.Call g l w q) p v') Q E s:=by
 cases v' with
 |ref a=>
  refine wpAny_bind (wpAny_standAt (wpAny_bind (wpAny_runValue (codeAny_builtin entry_let_go ?_))))
  rw[Around.under_plainId plain_let_go _]
  exact wpAny_pure (wpAny_pure h)
 |_=>exact wpAny_pure h
theorem Dp (x:b_ c T e L H v H1):qi c T (.expr e) L H .next L H1:=by
 intro A r env nm ps k s Q E c0 S ok hs h
 apply Iu ok λpe p ok=>?_
 apply iW ok λhc ok=>?_
 revert ok
 apply Gs hc λg l w q=>?_
 intro ok
 refine cF ?_
 rw[exec_Expr env _ p (wQ S.3) rfl]
 exact wpAny_bind (wpAny_standAt (wpAny_bind (x S ok λk1 s1 v1 T1 R1=>Do (h.MD S T1))))
theorem Gv (x:b_ c T e L H v H1):qi c T (.ret e) L H (.ret v) L H1:=by
 intro A r env nm ps k s Q E c0 S ok hs h
 apply Mu ok λpe p ok=>?_
 exact cF (wpAny_Return_some (x S ok λk1 s1 v1 T1 R1=>h _ _ _ (T1.x S.3) (T1.loc S.2 S.3) ⟨_,rfl,R1⟩))
theorem Dq:qi c T .cont L H .cont L H:=by
 intro A r env nm ps k s Q E c0 S ok hs h
 apply My ok λp=>?_
 exact cF (wpAny_Continue (h _ _ _ (c8.refl S.2) S.3 rfl))
theorem Loc.wO {b:Addr} {h h':Heap} (L0:Loc c k H h env nm L) (d:¬B4 env b) (f:∃o,h.get? b=some o∧iO o) (e:mV b h h'):Loc c k H h' env nm L:=
 L0.mv (λa p y=>⟨y.1,y.2.elim λo z=>⟨o,e _ _ (λq=>d (q▸p)) z.1,z.2⟩⟩) (λa _ p q=>e _ _ (λz=>d (z▸p)) q) ⟨aC _,λ_ _=>rfl,λa vs n q=>e _ _ (λz=>f.elim λo y=>y.2 _ _ (ay (y.1.symm.trans (z▸q)))) q⟩
theorem s_ {b:Addr} {h:Heap} (L0:Loc c k H h env nm L) (f:h.get? b=none):¬B4 env b:=λz=>(L0.3 _ z).2.elim λ_ y=>c7 f y.1
theorem Gw {n:Str} {j:Nat} {p:Pos} {pe:Expr} (x:MC c T e L H v H1) (S:St c A r k H s env nm L) (vx:gK T r env.scope nm e pe=true) (o1:yy env.scope nm j n=true) (h:Go c (Own env) env nm k H s .next (L.set j (some v)) H1 Q):
  wpAny (Md c) A (evalThenUse pe env (assign (.Name n p) env)) (λ_ s=>Q .next s) E s:=by
 refine x S vx λk1 s1 v1 C T1 R1 fC oC nC=>wpAny_assign_Name ?_
 have pC:=s_ S.3 fC
 refine(T1.loc S.2 S.3).store T1.1 (ji o1).1 (ji o1).2 R1 λs2 W X2=>?_
 have F2:=uf.Ft ⟨oC,nC.elim λ_=>C_⟩ W.2
 refine⟨nC.elim λm ns=>⟨m,ns.at λo q=>W.2.3 _ _ oC.ow (λz=>pC z.La) q⟩,λh' O7=>?_⟩
 exact h _ _ _ (((T1.x S.3).trans W).tail fC (W.1.wO F2.1 F2.2 (S.2.FN fC) (uJ O7)) (uJ O7)) (X2.wO pC F2.2 (uJ O7)) rfl
theorem Gx {t:Tg} (x:zZ c T e L H v H1) (R:zY t v L L'):qi c T (.set t e) L H .next L' H1:=by
 intro A r env nm ps k s Q E c0 S ok hs h
 refine cF ?_
 apply De ok λte pe p ok=>?_
 apply i7 ok λxV Gy vx=>?_
 have fin:∀{k1 s1 s2},dy c k H s k1 H1 s1->wN c env k1 H1 s1 k1 H1 s2->Loc c k1 H1 s2.heap env nm L'->Q .next s2:=λT1 W X=>h _ _ _ ((T1.x S.3).trans W) X rfl
 cases t with
 |v i=>
  cases(R:L'=_)
  apply pJ xV λn p' o1=>?_
  have plain:swapsWith pe (some (.Name n p')) p.line env=pure false->wpAny (Md c) A (exec (.Assign [.Name n p'] pe p) env) Q E s:=λhq=>
   wpAny_Assign_Name (x.1 S vx λk1 s1 v1 T1 R1=>(T1.loc S.2 S.3).store T1.1 (ji o1).1 (ji o1).2 R1 λs2 W X=>fin T1 W X) hq
  have Gy:(if e.mA=true then mA pe else gd false true pe)=true:=Gy
  by_cases hc:e.mA=true
  ·rw[if_pos hc]at Gy
   have hq:∀w,∃b:Bool,swapsWith pe (some (.Name n p')) w env=pure b:=λw=>Gu (P:=λpe=>∃b:Bool,swapsWith pe (some (.Name n p')) w env=pure b) Gy λ_ _ _ _=>⟨_,rfl⟩
   obtain⟨b,hq⟩:=hq p.line
   cases b with
   |false=>exact plain hq
   |true=>
    rw[exec_Assign_Name_used _ _ _ _ hq]
    exact wpAny_bind (wpAny_standAt (wpAny_bind (wpAny_mono (Gw (x.2 hc) S vx o1 h) (λ_ _ z=>wpAny_pure z) λ_ _ z=>z)))
  ·rw[if_neg hc]at Gy
   exact plain (z6 Gy)
 |p i j=>
  have JG:=xV
  revert JG Gy
  apply yw xV λn p1 n' p2 q pp xV=>?_
  intro Gy JG
  apply iW Gy λokg O8=>?_
  have hsw:swapsWithSole [.Tuple [.Name n p1,.Name n' p2] q pp] pe p.line env=pure false:=z6 (t:=some (.Tuple [.Name n p1,.Name n' p2] q pp)) (line:=p.line) (env:=env) okg
  refine Dh S.3.1.1 O8 (λhw=>?_) λhw=>?_
  ·exact Assign_Tuple (x.1 S vx λk1 s1 v1 T1 R1=>rK (S.go T1) JG R R1 λs2 W X=>fin T1 W X) hsw hw
  ·refine Assign_Tuple_swapped (x.1 S vx λk1 s1 v1 T1 R1=>?_) hsw hw
   obtain⟨a,b,rfl,rfl⟩:=R
   apply i7 xV λhij o1 o2=>?_
   apply R1.kT λa vs e g R=>?_
   obtain⟨v1,_,rfl,r1,v2,_,rfl,r2,rfl⟩:=R
   refine wpAny_unpackItems_tuple (items:=#[v1,v2]) S.1.1 ⟨_,g,rfl,_,rfl⟩ λh' he=>?_
   have K:=dy.keeps (h':=h') (t:=s1.toks) T1.1 λb o q=>he b o (cu (Heap.lt_size q)) q
   have L1:=T1.loc S.2 S.3
   exact wpAny_bind (wpAny_holding (wpAny_bindName (wpAny_mono (Df K.1 (K.loc T1.1 L1) o2 o1 (K.vr T1.1 r2) (K.vr T1.1 r1) λs2 W X=>wpAny_pure (M:=Md c) (A:=A) (E:=E) (a:=()) (Q:=λ_=>Q .next) (fin T1 ((K.x L1).trans W) (List.set_comm _ _ (bne_iff_ne.mp hij)▸X))) (λ_ _ h=>wpAny_bind (wpAny_holding (wpAny_bindName h))) λ_ _ e=>e)))
end
end
section
section
variable {c:Cx} {T:Tb} {L L1 L' L2:Lc} {H H1 H2 H3 H4 H':Hp} {h h':Heap} {e o i:CE} {v va vb x:V} {k k':Lk} {s s':Shared} {A:Around} {r:Nat} {E:Value->Shared->Prop} {env:Env} {nm:List Str} {f fl:Fl} {st:CS} {ss sa sb:i6} {Q:Flow->Shared->Prop} {X:Addr->Prop} {I:Addr} {g:Gd} {xs:List V} {ci:CI}
theorem wR {n kk cl:Nat} {fs:List (Nat×V)} (TO:nL c T) (x:b_ c T e L H v H1) (y:b_ c T o L H1 (.ref kk) H2) (q:H2[kk]?=some (.inst cl fs)) (m:T.P.xT cl n=none) (z:fs.length≤100):
  qi c T (.setattr o n e) L H .next L (H2.set kk (.inst cl (dv n v fs))):=by
 intro A r env nm ps k s Q E c0 S ok hs h
 refine cF ?_
 apply De ok λte pe p ok=>?_
 apply vg ok λpo nn p' ok=>?_
 apply oV ok λhn hg oo oe=>?_
 refine plainObj_wpAny_Assign_Attribute (x S oe λk1 s1 v1 T1 R1=>y (S.go T1) oo λk2 s2 v2 T2 R2=>?_) (A5 hg)
 apply R2.kR λ_=>?_
 exact vp TO T2.1 q (cJ hn) m z (T2.vr T1.1 R1) λs3 T3=>h.MD S ((T1.trans T2).trans T3)
theorem yz (x:b_ c T e L H v H1) (y:b_ c T o L H1 va H2) (w':b_ c T i L H2 vb H3) (R:qX va vb v H3 H4):qi c T (.br o i e) L H .next L H4:=by
 intro A r env nm ps k s Q E c0 S ok hs h
 refine cF ?_
 apply De ok λte pe p ok=>?_
 apply wq ok λpo pi p' ok=>?_
 apply vd ok λhi hg oo oi oe=>?_
 exact wpAny_Assign_Subscript (x S oe λk1 s1 v1 T1 R1=>y (S.go T1) oo λk2 s2 v2 T2 R2=>w' ((S.go T1).go T2) oi λk3 s3 v3 T3 R3=>
  R _ _ _ _ _ _ _ _ _ S.1.N0 T3.1 (T3.vr T2.1 R2) R3 (dy.vr T1.1 (T2.trans T3) R1) λs4 T4=>h.MD S (((T1.trans T2).trans T3).trans T4)) (Dm hg)
theorem Dr:j_ c T .nil L H .next L H:=by
 intro A r env nm ps k s Q E c0 S ok hs h
 apply sP ok
 exact cF (wpAny_execs_nil (h _ _ _ (c8.refl S.2) S.3 rfl))
theorem jz {c0:Code} {p:Stmt} {ps:List Stmt}
  (h:_root_.PySem.wpAt (Md c) A c0 (exec p env) (λf s'=>match f with| .next=>_root_.PySem.wpAt (Md c) A c0 (execs ps env) Q E s'|f=>Q f s') E s):_root_.PySem.wpAt (Md c) A c0 (execs (p::ps) env) Q E s:=λΓ q hc hΓ=>by
 rw[execs_cons,Sem.wp_bind']
 refine Sem.wp_mono _ Γ _ (λf p' s' h'=>?_) (λ_ _ _ h'=>h') _ _ (h Γ q hc hΓ)
 cases f<;>first|exact h' Γ p' hc hΓ|exact h'
theorem A6 (x:qi c T st L H .next L1 H1) (y:j_ c T ss L1 H1 f L' H'):j_ c T (.cons st ss) L H f L' H':=by
 intro A r env nm ps k s Q E c0 S ok hs h
 apply sO ok λp ps ok=>?_
 refine jz (x S (cI ok).1 (hs.imp (λq=>(cI q).1) id) λk1 s1 fv W1 X1 F1=>?_)
 rw[(F1:fv=_)]
 exact y (S.O4 W1 X1) (cI ok).2 (hs.imp (λq=>(cI q).2) id) (h.Dl W1)
theorem Ds (x:qi c T st L H (.ret v) L' H'):j_ c T (.cons st ss) L H (.ret v) L' H':=by
 intro A r env nm ps k s Q E c0 S ok hs h
 apply sO ok λp ps ok=>?_
 refine jz (x S (cI ok).1 (hs.imp (λq=>(cI q).1) id) λk1 s1 fv W1 X1 F1=>?_)
 have F:=F1
 obtain⟨v',rfl,_⟩:=F1
 exact h _ _ _ W1 X1 F
theorem A7 (x:qi c T st L H .cont L' H'):j_ c T (.cons st ss) L H .cont L' H':=by
 intro A r env nm ps k s Q E c0 S ok hs h
 apply sO ok λp ps ok=>?_
 refine jz (x S (cI ok).1 (hs.imp (λq=>(cI q).1) id) λk1 s1 fv W1 X1 F1=>?_)
 rw[(F1:fv=_)]
 exact h _ _ _ W1 X1 rfl
theorem Gz {c0:Code} {pe:Expr} {pa pb:List Stmt} {p:Pos}
  (h:wpAny (Md c) A (isTrue pe env (eval pe env)) (λq s₂=>if q then _root_.PySem.wpAt (Md c) A c0 (execs pa env) Q E s₂ else _root_.PySem.wpAt (Md c) A c0 (execs pb env) Q E s₂) E s):_root_.PySem.wpAt (Md c) A c0 (exec (.If pe pa pb p) env) Q E s:=λΓ q hc hΓ=>by
 simp only[exec_If,Sem.wp_bind',Sem.wp_cmd_standAt]
 refine Sem.wp_mono _ Γ _ (λt p₂ s₂ h₂=>?_) (λ_ _ _ h'=>h') _ _ (h Γ _ hΓ)
 cases t<;>exact h₂ Γ p₂ hc hΓ
theorem GB {q:Bool} (x:lq c T e L H q H1) (y:j_ c T (if q then sa else sb) L H1 f L' H2):qi c T (.ite e sa sb) L H f L' H2:=by
 intro A r env nm ps k s Q E c0 S ok hs h
 apply Mo ok λpe pa pb p ok=>?_
 apply i7 ok λo1 o2 o3=>?_
 refine Gz (x S o1 λk1 s1 T1=>?_)
 cases q
 ·exact y (S.go T1) o3 (hs.imp (λq=>(cI q).2) id) (h.Dl (T1.x S.3))
 ·exact y (S.go T1) o2 (hs.imp (λq=>(cI q).1) id) (h.Dl (T1.x S.3))
theorem anyOf {t:Sem Flow} (h:∀c0,_root_.PySem.wpAt (Md c) A c0 t Q E s):wpAny (Md c) A t Q E s:=λΓ p hΓ=>h Γ.code Γ p rfl hΓ
theorem Dt (x:lq c T e L H false H1):uL c T e ss L H .next L H1:=by
 intro A r env nm pe ps k s R S vx yA hn h
 exact qY (x S vx λk1 s1 T1=>Go.MD (Q:=λfv=>R (.ok fv)) h S T1)
theorem Du (x:lq c T e L H true H1) (y:j_ c T ss L H1 (.ret v) L' H'):uL c T e ss L H (.ret v) L' H':=by
 intro A r env nm pe ps k s R S vx yA hn h
 refine qY (x S vx λk1 s1 T1=>anyOf λc0=>y (S.go T1) yA (.inl hn) λk2 s2 fv W2 X2 F2=>?_)
 have F:=F2
 obtain⟨v',rfl,rv⟩:=F2
 exact h _ _ _ ((T1.x S.3).trans W2) X2 F
theorem B6.go {P:Flow->Prop} {fv:Flow} (n:fl= .next∨fl= .cont) (F:B6 c k H h fl fv) (a:P .next) (b:P .cont):P fv:=by
 rcases n with rfl|rfl
 ·exact cr (F:fv=_)▸a
 ·exact cr (F:fv=_)▸b
theorem A8 (x:lq c T e L H true H1) (y:j_ c T ss L H1 fl L2 H2) (n:fl= .next∨fl= .cont) (w':uL c T e ss L2 H2 f L' H'):uL c T e ss L H f L' H':=by
 intro A r env nm pe ps k s R S vx yA hn h
 refine qY (x S vx λk1 s1 T1=>anyOf λc0=>y (S.go T1) yA (.inl hn) λk2 s2 fv W2 X2 F2=>?_)
 have go:=w' (R:=R) ((S.go T1).O4 W2 X2) vx yA hn (Go.Dl (Go.Dl h (T1.x S.3)) W2)
 apply B6.go n F2
 ·exact go
 ·exact go
theorem B5.mark (x:B5 A r):B5 (A.mark none) r:=⟨x.1,x.2,x.3,x.4⟩
theorem GC (x:uL c T e ss L H f L' H'):qi c T (.while e ss) L H f L' H':=by
 intro A r env nm ps k s Q E c0 S ok hs h
 apply Mq ok λpe pb p ok=>?_
 apply i7 ok λhn o1 o2=>?_
 exact cF (wpAny_While (x ⟨S.1.mark,S.2,S.3⟩ o1 o2 hn h))
theorem JH {t:Tg} {te:Expr} {v':Value} {ob:Obj} {n:String} {fs:Array Value} {Q:Unit->Shared->Prop} (ok:Lg env.scope nm t te=true) (ho:s.heap.get? I=some ob) (hc:ob.cls= .type n) (hn:oL n=true) (hd:ob.data= .fields fs)
  (h:Q () s):wpAny (Md c) A (letOwnedTupleGo te (.ref I) v') Q E s:=by
 cases t with
 |v i=>apply pJ ok λ_ _ _=>?_;exact wpAny_pure h
 |p i j=>
  apply yw ok λn p n' p' q pp ok=>?_
  cases v' with
  |ref a=>
   refine wpAny_bind (wpAny_load ho ?_)
   rw[hc,hd]
   show wpAny (Md c) A (if _ then _ else pure ()) Q E s
   rw[if_neg λz=>ff ((sN (cI hn).2).symm.trans (cI z).1)]
   exact wpAny_pure h
  |_=>exact wpAny_pure h
theorem dz.ME {j:Nat} {o:O} (S:dz c k H h) (hj:H[j]?=some o) (hw:o.owned=false):¬Oo k H (k.ι j):=fun⟨i,y,q,w,z⟩=>by
 cases S.4 _ i j _ _ q hj z (.inl rfl)
 cases q.symm.trans hj
 exact ff (hw.symm.trans w)
theorem i8.go (X:i8 c k H s.heap I g xs) (S:dz c k H s.heap) {Y:Addr->Prop} (W:c8 c Y k H s k' H' s') (n:∀b,Y b->uf k H s.heap b) (nI:nK k H I) (hI:¬Y I) (hg:g.ok H'):i8 c k' H' s'.heap I g xs:=
 X.elim λP x=>⟨P,x.2.2 x.1 (λo q=>W.2.3 _ _ nI.ow hI q) (λj o b q w z=>W.2.3 _ _ (S.ME q w) (λy=>(n _ y).1 _ _ q (.inl rfl)) z) (W.mv S n) hg,x.2⟩
theorem plI (L0:Loc c k H h env nm L) (f:uf k H h I):∀b,JD env I b->uf k H h b:=λb z=>z.elim L0.own λz=>cr z▸f
theorem Dv {t:Tg}:qZ c T t ss g [] L H .next L H:=by
 intro A r env nm te ps k s I R S xV yA hn X nI pI hb h
 obtain⟨P,p,K⟩:=X
 have f:=qg (K.1 p)
 exact vv (K.4 S.1.1 p S.2 λh' tk oi=>h k s _ h' tk (c8.refl S.2) oi (S.2.wO nI f hb oi) (S.3.wO pI f oi) rfl)
theorem wS {t:Tg} {Nn:Shared->Prop} {E':Value->Shared->Prop} {te:Expr} {ps:List Stmt} (S:St c A r k H s env nm L) (xV:Lg env.scope nm t te=true) (yA:s6 T r env.scope nm ss ps=true) (hn:ss.eX=true) (X:i8 c k H s.heap I g (x::xs)) (nI:nK k H I) (pI:¬B4 env I) (hb:c.hb.get? I=none)
  (og:g.ok H) (R:zY t x L L1) (y:j_ c T ss L1 H fl L2 H2)
  (h:∀k2 s2 fv,c8 c (JD env I) k H s k2 H2 s2->Loc c k2 H2 s2.heap env nm L2->B6 c k2 H2 s2.heap fl fv->nK k2 H2 I->(g.ok H2->i8 c k2 H2 s2.heap I g xs)->Q fv s2):
  wpAny (Md c) A (pyNext (.ref I)) (FQ1 c A env te (.ref I) ps Nn Q E') E' s:=by
 obtain⟨P,p,K⟩:=X
 have f:=qg (K.1 p)
 refine K.3 S.1.1 p S.2 nI λh' tk v' oi rv p'=>?_
 have f':=qg (K.1 p')
 have W0:=c8.wO (t:=tk) S.2 ⟨nI,f⟩ hb oi f'
 have S1:St c A r k H {s with heap:=h',toks:=tk} env nm L:=⟨S.1,W0.1,S.3.wO pI f oi⟩
 obtain⟨ob,n,ho,hc,hz,fs,hd⟩:=K.1 p'
 refine JH (s:={s with heap:=h',toks:=tk}) xV ho hc hz hd (rK S1 xV R rv λs1 W1 X1=>?_)
 refine anyOf λc0=>y (S1.O4 W1 X1) yA (.inl hn) λk2 s2 fv W2 X2 F2=>?_
 have O9:=W1.trans W2
 have fI:uf k H h' I:=⟨nI,f'⟩
 exact h k2 s2 fv ((W0.up (λ_ _ z _=>.inr z) λb z=>(plI S.3 ⟨nI,f⟩ b z).1.ow).trans (O9.up (λ_ _ z _=>.inl z) λb z=>(plI S1.3 fI b z).1.ow)) X2 F2 (fI.Ft O9.2).1 λLl=>i8.go ⟨P,p',K⟩ W0.1 O9 (λ_=>S1.3.own) nI (λz=>pI z.La) Ll
theorem Dw {t:Tg} (og:g.ok H) (R:zY t x L L1) (y:j_ c T ss L1 H (.ret v) L' H'):qZ c T t ss g (x::xs) L H (.ret v) L' H':=by
 intro A r env nm te ps k s I R' S xV yA hn X nI pI hb h
 refine vv (wS S xV yA hn X nI pI hb og R y λk2 s2 fv W X2 F2 _ _=>?_)
 have F:=F2
 obtain⟨v',rfl,rv⟩:=F2
 exact h _ _ _ _ _ W (λ_ _ _ e=>e) W.1 X2 F
theorem A9 {t:Tg} (og:g.ok H) (R:zY t x L L1) (y:j_ c T ss L1 H fl L2 H2) (Ll:g.ok H2) (n:fl= .next∨fl= .cont) (w':qZ c T t ss g xs L2 H2 f L' H'):qZ c T t ss g (x::xs) L H f L' H':=by
 intro A r env nm te ps k s I R' S xV yA hn X nI pI hb h
 refine vv (wS S xV yA hn X nI pI hb og R y λk2 s2 fv W X2 F2 n2 it=>?_)
 have go:=w' (R:=R') ⟨S.1,W.1,X2⟩ xV yA hn (it Ll) n2 pI hb λk3 s3 fv h' t W3=>h k3 s3 fv h' t (W.trans W3)
 apply B6.go n F2
 ·exact go
 ·exact go
theorem z7 {sc:Scope} {pe:Expr} (ok:LR T r sc nm ci pe=true) (y:Value):foldedSetIterable pe env y=pure y:=by
 have key:∀{pe},gd true true pe=true->foldedSetIterable pe env y=pure y:=λq=>by apply dF q<;>(intros;rfl)
 cases ci with
 |ex e=>exact key (cI ok).1
 |range e|rev e=>exact Cj (P:=λpe=>foldedSetIterable pe env y=pure y) ok λ_ _ _ _ _ _=>rfl
theorem jy.O_ {aa:Nat} {o oz:O} (S:dz c k H1 h) (ho:H1[aa]?=some o) (hw:o.owned=true) (hi:o.dO=false) (W:jy X k (H1.set aa oz) h k' H2 h') (h2:H2[aa]?=some oz) (hz:oz.owned=false):jy X k H1 h k' (H2.set aa o) h':=by
 have len:(H1.set aa oz).length=H1.length:=aU
 have ei:=(W.2 aa (len.symm▸j0 ho)).1
 have up:∀{b},Oo k (H1.set aa oz) b->Oo k H1 b:=fun⟨i,y,q,w,z⟩=>by
  rcases qS q with⟨_,rfl⟩|⟨_,q⟩
  ·exact ff (hz.symm.trans w)
  ·exact⟨i,y,q,w,z⟩
 refine⟨by rw[aU];exact len▸W.1,λj l=>W.2 j (len.symm▸l),λb o' f n q=>W.3 b o' (λz=>f (up z)) n q,λb q=>?_,λb o' f q z=>?_,λj l l'=>?_,W.7⟩
 ·obtain⟨i,y,q,w,z⟩:=q
  by_cases n:i=aa
  ·subst n;cases ho.symm.trans q
   exact⟨i,o,aZ (j0 h2),hw,.inl (z.elim (λz=>z.trans ei.symm) λz=>ff (hi.symm.trans z.1))⟩
  ·obtain⟨j,y',q',w',z'⟩:=W.4 b ⟨i,y,(a7 (d4 n)).trans q,w,z⟩
   refine⟨j,y',(a7 λz=>?_).trans q',w',z'⟩
   subst z;cases h2.symm.trans q';exact ff (hz.symm.trans w')
 ·obtain⟨i,y,q',w,z'⟩:=z
  rcases qS q' with⟨rfl,rfl⟩|⟨_,q'⟩
  ·exact f ⟨i,y,ho,hw,.inl (z'.elim (λz=>z.trans ei) λz=>ff (hi.symm.trans z.1))⟩
  ·exact W.5 b o' (λz=>f (up z)) q ⟨i,y,q',w,z'⟩
 ·rw[aU]at l'
  obtain⟨_,f2⟩:=W.6 j (len.symm▸l) l'
  exact⟨(S.xU f2).ow,f2⟩
theorem dz.Dx {aa:Nat} {o o':O} (S:dz c k H h) (ho:H[aa]?=some o) (hi:o'.dO=o.dO) (hm:o'.made=o.made) (x:OR c k H h aa o'):dz c k (H.set aa o') h:=S.set (X:=NX) ho hi hm (λ_ z=>z.elim) (λ_ _ _ e=>e) x
theorem Iv {aa:Nat} {o o':O} {b:Addr} (ho:H[aa]?=some o) (hi:o'.dO=o.dO) (n:nK k H b):nK k (H.set aa o') b:=λj y q z=>by
 rcases qS q with⟨rfl,rfl⟩|⟨_,q⟩
 ·exact n _ _ ho (z.imp id λz=>⟨hi▸z.1,z.2⟩)
 ·exact n _ _ q z
theorem Loc.Dx {aa:Nat} {o o':O} (L0:Loc c k H h env nm L) (ho:H[aa]?=some o) (hi:o'.dO=o.dO):Loc c k (H.set aa o') h env nm L:=
 L0.mv (λ_ _ f=>⟨Iv ho hi f.1,f.2⟩) (λ_ _ _ e=>e) ⟨by rw[aU];exact aC _,λ_ _=>rfl,λ_ _ _ e=>e⟩
theorem B6.set {aa:Nat} {o':O}:∀{f:Fl} {fv:Flow},B6 c k H h f fv->B6 c k (H.set aa o') h f fv
 | .next,_,F=>F
 | .cont,_,F=>F
 | .ret _,_,F=>F.elim λv z=>⟨v,z.1,z.2.mono ⟨by rw[aU];exact aC _,λ_ _=>rfl,λ_ _ _ e=>e⟩⟩
theorem c8.bk {a:Addr} (W:c8 c X k H s k' H' s') (q:s'.heap.get? a=none):s.heap.get? a=none:=by
 cases z:s.heap.get? a with
 |none=>rfl
 |some o=>
  by_cases w:Oo k H a
  ·obtain⟨j,y,e,_,t⟩:=W.2.4 a w
   obtain⟨b,g,_⟩:=(W.1.2 j y e).lv t
   exact c7 q g
  ·by_cases n:X a
   ·obtain⟨o',l,_⟩:=W.2.7 a o n z;exact c7 q l
   ·exact c7 q (W.2.3 a o w n z)
theorem Dy {t:Tg} (x:sY c T ci L H xs g H1) (y:qZ c T t ss g xs L (g.fz H1) f L' H2) (og:g.ok H2):qi c T (.for t ci ss) L H f L' (g.th H2):=by
 intro A r env nm ps k s Q E c0 S ok hs h
 refine cF ?_
 apply Ms ok λte pi pb p ok=>?_
 apply oV ok λhn xV Dz yA=>?_
 refine wpAny_For (x S Dz λk1 s1 T1 s2 I T2 fI w X=>?_) (z7 Dz)
 have S2:=(S.go T1).go T2
 have DA:=T1.bk fI
 have fi:uf k1 H1 s2.heap I:=⟨T1.1.xU fI,X.elim λP x=>qg (x.2.1 x.1)⟩
 suffices M:∀R:Result->Shared->Prop,(∀fv s',Q fv s'->R (.ok fv) s')->codeAny (Md c) A (.forLoop te (.ref I) pb [] env) R s2 from M _ λ_ _ q=>q
 intro R hR
 have main:∀{Hz H3:Hp},g.fz H1=Hz->g.th H2=H3->dz c k1 Hz s2.heap->Loc c k1 Hz s2.heap env nm L->nK k1 Hz I->(∀{k3 h3},jy (JD env I) k1 Hz s2.heap k3 H2 h3->jy (JD env I) k1 H1 s2.heap k3 H3 h3)->
   (∀{k3 h'},dz c k3 H2 h'->dz c k3 H3 h')->(∀{k3 h'},Loc c k3 H2 h' env nm L'->Loc c k3 H3 h' env nm L')->(∀{k3 h' fv},B6 c k3 H2 h' f fv->B6 c k3 H3 h' f fv)->codeAny (Md c) A (.forLoop te (.ref I) pb [] env) R s2:=by
  intro Hz H3 e1 e2 Sz Lz nI f1 f2 f3 f4
  subst e1 e2
  refine y ⟨S.1,Sz,Lz⟩ xV yA hn X nI (s_ S.3 DA) (S.2.FN DA) λk3 s3 fv h' t W3 oi S3 X3 F3=>?_
  have V:c8 c (JD env I) k1 H1 s2 k3 (g.th H2) s3:=⟨f2 W3.1,f1 W3.2,W3.3⟩
  have U:c8 c (JD env I) k H s k1 H1 s2:=(T1.trans T2).up (λ_ _ z _=>z.elim) λb z=>z.elim (λz=>(S.3.own z).1.ow) λz=>(S.2.xU (z▸DA)).ow
  exact hR _ _ (h _ _ _ (((U.trans V).up (λb o z l=>z.elim id λz=>c7 DA (z▸l)) λb q=>(S.3.own q).1.ow).tail DA (f2 S3) oi) (f3 X3) (f4 F3))
 have dict:∀{aa:Nat} {o oz:O},g.fz H1=H1.set aa oz->g.th H2=H2.set aa o->H1[aa]?=some o->H2[aa]?=some oz->o.owned=true->o.dO=false->oz.owned=false->oz.dO=false->oz.made=true->(∀{k H h},OR c k H h aa o->OR c k H h aa oz)->(∀{k H h},OR c k H h aa oz->OR c k H h aa o)->codeAny (Md c) A (.forLoop te (.ref I) pb [] env) R s2:=by
  intro aa o oz e1 e2 q1 q2 w1 w2 w3 w4 w5 r1 r2
  have i:oz.dO=o.dO:=w4.trans w2.symm
  have m:oz.made=o.made:=w5.trans (O.Ji w1).symm
  exact main e1 e2 (S2.2.Dx q1 i m (r1 (S2.2.2 _ _ q1))) (S2.3.Dx q1 i) (Iv q1 i fi.1) (λW=>jy.O_ S2.2 q1 w1 w2 W q2 w3) (λZ=>Z.Dx q2 i.symm m.symm (r2 (Z.2 _ _ q2))) (λZ=>Z.Dx q2 i.symm) λZ=>Z.set
 cases g with
 |none|list=>exact main rfl rfl S2.2 S2.3 fi.1 id id id id
 |bj aa dd=>exact dict rfl rfl w og rfl rfl rfl rfl rfl id id
 |bX aa dd=>exact dict rfl rfl w og rfl rfl rfl rfl rfl id id
end
end
section
noncomputable def Acc (c:Cx) (k:Lk) (H:Hp) (h:Heap) (D:Addr) (acc:List V):Prop:=nK k H D∧∃vs n,h.get? D=some (lN vs n)∧eJ c k H h acc vs
inductive CW (c:Cx) (A:Around) (r:Nat) (env:Env) (nm:List Str) (x:Str) (I D:Addr) (g:Gd) (L1:Lc) (k:Lk) (H:Hp) (s:Shared) (xs acc:List V):Prop
 |mk (st:∃old,St c A r k H s env nm (L1++[old])) (it:i8 c k H s.heap I g xs) (nI:nK k H I) (ac:Acc c k H s.heap D acc) (nx:nm[L1.length]?=some x) (lx:env.kindOf x=some .local) (pI:¬B4 env I) (bI:c.hb.get? I=none) (pD:¬B4 env D) (bD:c.hb.get? D=none) (ne:D≠I)
noncomputable def N4 (env:Env) (I D a:Addr):Prop:=a=env.locals∨a=I∨a=D
noncomputable def kP (c:Cx) (T:Tb) (elt:CE) (ifs:mw) (L1:Lc) (g:Gd) (xs acc:List V) (H:Hp) (ys:List V) (H':Hp):Prop:=
 ∀{A:Around} {r:Nat} {env:Env} {nm:List Str} {x:Str} {px:Pos} {iter DB:Expr} {qj:List Expr} {scope:Scope} {pos:Pos} {k:Lk} {s:Shared} {I D:Addr} {R:Result->Shared->Prop},
  CW c A r env nm x I D g L1 k H s xs acc->gK T r env.scope nm elt DB=true->jp T r env.scope nm ifs qj=true->
  (∀k' s' h' t,c8 c (N4 env I D) k H s k' H' s'->mV I s'.heap h'->dz c k' H' h'->(∃m,h'.Ns env.locals m)->nK k' H' env.locals->Acc c k' H' h' D ys->R (.ok .next) {s' with heap:=h',toks:=t})->
  codeAny (Md c) A (.compLoop (.ListComp DB [⟨.Name x px,iter,qj,0⟩] scope pos) 0 (.ref I) (.ref D) env) R s
section
variable {c:Cx} {T:Tb} {L1:Lc} {H H1 H2 H3 H':Hp} {h h':Heap} {elt:CE} {v x:V} {k k':Lk} {s s':Shared} {A:Around} {r:Nat} {E:Value->Shared->Prop} {env:Env} {nm:List Str} {I D:Addr} {g:Gd} {xs acc ys:List V} {ifs:mw} {xn:Str} {Y:Addr->Prop}
theorem DC (env:Env):∀(l:List Expr),(forIn l false λc r=>if r=true then do let ok ←isTrue c env (eval c env);pure (ForInStep.yield ok)else pure (ForInStep.yield r))=(pure false:Sem Bool)
 |[]=>rfl
 |x::l=>by
  rw[jF,if_neg cA,pure_bind]
  exact DC env l
theorem z8 (env:Env):∀(l:List Expr),(forIn l true λc r=>if r=true then do let ok ←isTrue c env (eval c env);pure (ForInStep.yield ok)else pure (ForInStep.yield r))=allTrue .And l env
 |[]=>rfl
 |x::l=>by
  rw[jF,if_pos rfl,bind_assoc]
  refine congrArg (isTrue x env (eval x env)>>= ·) (funext λq=>?_)
  rw[pure_bind]
  cases q with
  |false=>exact DC env l
  |true=>exact z8 env l
theorem Acc.nt (a:Acc c k H h D acc):∃o,h.get? D=some o∧iO o:=a.2.elim λvs z=>z.elim λn z=>⟨_,z.1,oJ rfl (by decide)⟩
theorem Acc.mv (a:Acc c k H h D acc) (n:nK k' H' D) (e:∀o,h.get? D=some o->h'.get? D=some o) (m:Mw k H h k' H' h'):Acc c k' H' h' D acc:=⟨n,a.2.elim λvs z=>z.elim λn z=>⟨vs,n,e _ z.1,z.2.mono m⟩⟩
theorem Acc.go (a:Acc c k H s.heap D acc) (S:dz c k H s.heap) (W:c8 c Y k H s k' H' s') (n:∀b,Y b->uf k H s.heap b) (d:¬Y D):Acc c k' H' s'.heap D acc:=
 a.mv (uf.Ft ⟨a.1,a.nt⟩ W.2).1 (λ_=>W.2.3 _ _ a.1.ow d) (W.mv S n)
theorem i8.fr (X:i8 c k H h I g xs) (n:nK k H I):uf k H h I:=⟨n,X.elim λP x=>qg (x.2.1 x.1)⟩
theorem CW.pl (w:CW c A r env nm xn I D g L1 k H s xs acc):∀b,N4 env I D b->uf k H s.heap b:=λb z=>by
 rcases z with rfl|rfl|rfl
 ·obtain⟨_,S⟩:=w.1;exact S.3.own (.inl rfl)
 ·exact w.2.fr w.3
 ·exact⟨w.4.1,w.4.nt⟩
theorem DD (og:g.ok H):kP c T elt ifs L1 g [] acc H acc H:=by
 intro A r env nm x px iter DB qj scope pos k s I D R w vx Dz h
 obtain⟨old,S⟩:=w.1
 obtain⟨P,p,K⟩:=w.2
 have f:=qg (K.1 p)
 refine sZ (K.4 S.1.1 p S.2 λh' tk oi=>?_)
 have L2:=S.3.wO w.7 f oi
 exact h k s h' tk (c8.refl S.2) oi (S.2.wO w.3 f w.8 oi) (L2.4.elim λm z=>⟨m,z.1⟩) (L2.own (.inl rfl)).1 (w.4.mv w.4.1 (λo=>oi _ o w.11) (Jx (K.1 p) oi))
theorem uM {b0:Bool} {Nn:Shared->Prop} {px:Pos} {qj:List Expr} {Q:Bool->Shared->Prop} {E':Value->Shared->Prop} (w:CW c A r env nm xn I D g L1 k H s (x::xs) acc) (Dz:jp T r env.scope nm ifs qj=true) (og:g.ok H) (y:iC c T .And ifs (L1++[some x]) H b0 H1) (MF:g.ok H1)
  (h:∀k2 s2,c8 c (N4 env I D) k H s k2 H1 s2->St c A r k2 H1 s2 env nm (L1++[some x])->CW c A r env nm xn I D g L1 k2 H1 s2 xs acc->Q b0 s2):
  wpAny (Md c) A (pyNext (.ref I)) (CQ1 c A env (.Name xn px) (.ref I) qj Nn Q E') E' s:=by
 obtain⟨old,S⟩:=w.1
 obtain⟨P,p,K⟩:=w.2
 have f:=qg (K.1 p)
 refine K.3 S.1.1 p S.2 w.3 λh' tk v' oi rv p'=>?_
 have W0:=c8.wO (t:=tk) S.2 ⟨w.3,f⟩ w.8 oi (qg (K.1 p'))
 have L2:=S.3.wO w.7 f oi
 have A2:=w.4.mv w.4.1 (λo=>oi _ o w.11) (Jx (K.1 p) oi)
 refine wpAny_pure (wpAny_assign_Name (L2.Db (s:={s with heap:=h',toks:=tk}) W0.1 w.5 (.inl w.6) rv λb s3 _ eb W3 L3=>?_))
 cases eb w.6
 have fl:∀b,b=env.locals->uf k H h' b:=λb z=>cr z▸L2.own (.inl rfl)
 have A3:=A2.go (s:={s with heap:=h',toks:=tk}) W0.1 W3 fl λz=>w.9 (.inl z)
 have I3:=i8.go (s:={s with heap:=h',toks:=tk}) ⟨P,p',K⟩ W0.1 W3 fl w.3 (λz=>w.7 (.inl z)) og
 rw[List.set_append_right _ _ (aC _),ez]at L3
 rw[z8]
 have S3:St c A r k H s3 env nm (L1++[some x]):=⟨S.1,W3.1,L3⟩
 refine y S3 Dz λk4 s4 T4=>?_
 have S4:=S3.go T4
 refine h k4 s4 (((W0.up (λ_ _ z _=>.inr (.inl z)) λb z=>(w.pl b z).1.ow).trans (W3.up (λ_ _ z _=>.inl z) λb z=>(w.pl b z).1.ow)).trans (T4.up (λ_ _ z _=>z.elim) λb z=>(w.pl b z).1.ow)) S4
  ⟨⟨_,S4⟩,I3.go W3.1 T4 (λ_ z=>z.elim) w.3 id MF,((I3.fr w.3).Ft T4.2).1,A3.go W3.1 T4 (λ_ z=>z.elim) id,w.5,w.6,w.7,w.8,w.9,w.10,w.11⟩
theorem JJ (og:g.ok H) (t:iC c T .And ifs (L1++[some x]) H false H1) (MF:g.ok H1) (w':kP c T elt ifs L1 g xs acc H1 ys H2):kP c T elt ifs L1 g (x::xs) acc H ys H2:=by
 intro A r env nm xn px iter DB qj scope pos k s I D R w vx Dz h
 refine sZ (uM w Dz og t MF λk2 s2 W2 S2 w2=>?_)
 unfold CQ
 rw[if_neg cA]
 exact w' w2 vx Dz λk3 s3 h' t W3=>h k3 s3 h' t (W2.trans W3)
theorem JK (og:g.ok H) (t:iC c T .And ifs (L1++[some x]) H true H1) (e':b_ c T elt (L1++[some x]) H1 v H2) (z:acc.length<SZ) (Ll:g.ok H2) (MF:g.ok H1) (w':kP c T elt ifs L1 g xs (acc++[v]) H2 ys H3):
  kP c T elt ifs L1 g (x::xs) acc H ys H3:=by
 intro A r env nm xn px iter DB qj scope pos k s I D R w vx Dz h
 refine sZ (uM w Dz og t MF λk2 s2 W2 S2 w2=>?_)
 unfold CQ
 rw[if_pos rfl]
 refine e' S2 vx λk3 s3 v3 T3 R3=>?_
 have S3:=S2.go T3
 have A3:=w2.4.go S2.2 T3 (λ_ z=>z.elim) id
 have I3:=w2.2.go S2.2 T3 (λ_ z=>z.elim) w2.3 id Ll
 have nI:=((w2.2.fr w2.3).Ft T3.2).1
 have nD:=A3.nt
 obtain⟨n3,vs,n,g3,R⟩:=A3
 refine wpAny_list_append_plain (items:=vs.toArray) ⟨n,g3⟩ (λh' hp hs=>?_) (by rw[gj,bV,←R.length];exact aI z)
 obtain⟨n',gp⟩:=hp
 rw[List.push_toArray]at gp
 have W4:=c8.wO (t:=s3.toks) S3.2 ⟨n3,nD⟩ w2.10 (uJ hs) ⟨_,gp,oJ rfl (by decide)⟩
 have W24:=(T3.up (λ_ _ z _=>z.elim) λb z=>(w2.pl b z).1.ow).trans (W4.up (λ_ _ z _=>.inr (.inr z)) λb z=>by
  rcases z with rfl|rfl|rfl
  ·exact(S3.3.own (.inl rfl)).1.ow
  ·exact nI.ow
  ·exact n3.ow)
 exact w' ⟨⟨_,S3.1,W4.1,S3.3.wO w2.9 nD (uJ hs)⟩,I3.go S3.2 W4 (λ_ z=>cr z▸⟨n3,nD⟩) nI (λz=>w2.11 z.symm) Ll,nI,⟨n3,_,n',gp,(R.append (.one R3)).mono (W4.mv S3.2 λ_ z=>cr z▸⟨n3,nD⟩)⟩,w2.5,w2.6,w2.7,w2.8,w2.9,w2.10,w2.11⟩ vx Dz
  λk5 s5 h' t W5=>h k5 s5 h' t (W2.trans (W24.trans W5))
end
end
section
section
variable {c:Cx} {T:Tb} {L L1:Lc} {H H1 H2:Hp} {h':Heap} {elt:CE} {k:Lk} {s:Shared} {A:Around} {r:Nat} {E:Value->Shared->Prop} {env:Env} {nm:List Str} {g:Gd} {xs ys:List V} {ifs:mw}
noncomputable def tc (env:Env):List (Str×NameKind)->List (Str×Addr)->List (Str×Addr)
 |[],acc=>acc
 |y::l,acc=>tc env l (if(y.2== .free)=true then(y.1,(env.cells.lookup y.1).getD 0)::acc else acc)
theorem yB {y:Str×NameKind} {l:List (Str×NameKind)} {acc:List (Str×Addr)}:tc env (y::l) acc=tc env l (if(y.2== .free)=true then(y.1,(env.cells.lookup y.1).getD 0)::acc else acc):=rfl
theorem z9:∀(l:List (Str×NameKind)) (acc:List (Str×Addr)),(∀y∈l,y.2= .free->∃a,env.cells.lookup y.1=some a)->
  (forIn l acc λx r=>if(x.2== .free)=true then do let a ←cellOf env x.1;pure (ForInStep.yield ((x.1,a)::r))else pure (ForInStep.yield r))=(pure (tc env l acc):Sem _)
 |[],acc,_=>rfl
 |y::l,acc,hl=>by
  rw[jF]
  have ih:=λacc=>z9 l acc λy hy=>hl y (aL _ hy)
  rw[yB]
  by_cases q:(y.2== .free)=true
  ·obtain⟨a,ha⟩:=hl y aQ (cJ q)
   rw[if_pos q,if_pos q]
   unfold cellOf
   rw[ha]
   exact ih _
  ·rw[if_neg q,if_neg q];exact ih _
theorem vy {n:Str} {a:Addr}:∀(l:List (Str×NameKind)) (acc:List (Str×Addr)),(∀y∈l,y.2= .free->∃a,env.cells.lookup y.1=some a)->(tc env l acc).lookup n=some a->acc.lookup n=some a∨((n,NameKind.free)∈l∧env.cells.lookup n=some a)
 |[],acc,_,h=>.inl h
 |y::l,acc,hl,h=>by
  rw[yB]at h
  rcases vy l _ (λy hy=>hl y (aL _ hy)) h with h|h
  ·by_cases q:(y.2== .free)=true
   ·rw[if_pos q,bQ]at h
    cases z:n==y.1 with
    |false=>rw[z]at h;exact .inl h
    |true=>
     rw[z]at h
     obtain⟨a',ha⟩:=hl y aQ (cJ q)
     rw[ha]at h
     have e:=cJ z
     exact .inr ⟨e▸(cJ q:y.2=_)▸aQ,e▸ha.trans h⟩
   ·rw[if_neg q]at h;exact .inl h
  ·exact .inr ⟨aL _ h.1,h.2⟩
theorem uN {n:Str}:∀(l:List (Str×NameKind)) (acc:List (Str×Addr)),(n,NameKind.free)∈l∨(acc.lookup n).isSome=true->((tc env l acc).lookup n).isSome=true
 |[],acc,h=>h.elim (λh=>absurd h aR) id
 |y::l,acc,h=>by
  rw[yB]
  refine uN l _ ?_
  have key:y=(n,.free)∨(acc.lookup n).isSome=true->((if(y.2== .free)=true then(y.1,(env.cells.lookup y.1).getD 0)::acc else acc).lookup n).isSome=true:=λh=>by
   split
   ·rw[bQ]
    cases z:n==y.1 with
    |true=>rfl
    |false=>exact h.elim (λe=>by rw[e,beq_self_eq_true]at z;exact ff z.symm) id
   ·rename_i q
    exact h.elim (λe=>absurd (by rw[e];rfl) q) id
  exact h.elim (λh=>(aH.mp h).elim (λe=>.inr (key (.inl e.symm))) .inl) λh=>.inr (key (.inr h))
theorem oM:∀{l:List (Str×NameKind)} {n:Str} {kd:NameKind},l.lookup n=some kd->(n,kd)∈l
 |p::l,n,kd,h=>by
  rw[bQ]at h
  cases q:n==p.1 with
  |true=>rw[q]at h;cases h;rw[beq_iff_eq.mp q];exact aQ
  |false=>rw[q]at h;exact aL _ (oM h)
theorem wT {f:Str->NameKind->NameKind} {n:Str}:∀{l:List (Str×NameKind)},(l.map λx=>(x.1,f x.1 x.2)).lookup n=(l.lookup n).map (f n)
 |[]=>rfl
 |x::l=>by
  rw[bS,bQ,bQ]
  cases z:n==x.1 with
  |true=>cases beq_iff_eq.mp z;rfl
  |false=>exact wT
noncomputable def MG (sc:Scope) (n:Str) (kd:NameKind):NameKind:=if(kd== .free&&sc.kind== .function&&sc.names.lookup n==some .cell)=true then .cell else kd
theorem z_ {iZ:Scope} {cl:List (Str×Addr)} {C:Addr} {n:Str}:(compEnvC iZ cl C env).kindOf n=(iZ.names.lookup n).map (MG env.scope n):=by
 refine Eq.trans (congrArg (List.lookup n) (cW λx _=>?_)) (wT (f:=MG env.scope) (l:=iZ.names))
 unfold MG
 exact(apply_ite (Prod.mk x.1) _ _ _).symm
inductive MH (sc iZ:Scope) (nm:List Str) (x:Str):Prop
 |mk (fn:iZ.kind= .function) (xl:iZ.names.lookup x=some .local) (Pa:∀y∈iZ.names,y.2≠ .cell) (look:∀y∈iZ.names,iZ.names.lookup y.1=some y.2) (free:∀y∈iZ.names,y.2= .free->(sc.names.lookup y.1=some .cell∨sc.names.lookup y.1=some .free)∧y.1∈nm)
theorem Pb {sc iZ:Scope} {x:Str} (h:vk sc iZ nm x=true):MH sc iZ nm x:=by
 apply oV h λh1 _ h2 h3=>?_
 have h3:=bt.mp h3
 refine⟨cJ h1,cJ h2,λy hy=>bne_iff_ne.mp (cI (cI (h3 y hy)).1).1,λy hy=>cJ (cI (cI (h3 y hy)).1).2,λy hy q=>?_⟩
 rcases cD.mp (cI (h3 y hy)).2 with z|z
 ·exact absurd q (bne_iff_ne.mp z)
 ·apply i7 z λ_ z1 z2=>?_
  exact⟨(cD.mp z1).imp cJ cJ,cZ.mp z2⟩
end
end
section
section
variable {c:Cx} {T:Tb} {L L1:Lc} {H H1 H2:Hp} {h':Heap} {elt:CE} {k:Lk} {s:Shared} {A:Around} {r:Nat} {E:Value->Shared->Prop} {env:Env} {nm:List Str} {g:Gd} {xs ys:List V} {ifs:mw}
theorem Iw {iZ:Scope} {xn:Str} {caps:List Nat} (oc:sS nm iZ xn caps=true):∀i∈caps,nm[i]?=some (nm.getD i Str.empty)∧iZ.names.lookup (nm.getD i Str.empty)=some .free∧nm.getD i Str.empty≠xn:=λi hi=>by
 have:=bt.mp (cI oc).1 i hi
 rw[aF]
 cases q:nm[i]? with
 |none=>rw[q]at this;exact ff this
 |some n=>rw[q]at this;exact⟨rfl,cJ (cI this).1,bne_iff_ne.mp (cI this).2⟩
theorem Iy {P:Prop} {iZ:Scope} {xn:Str} {caps:List Nat} {j:Nat} {n:Str} (oc:sS nm iZ xn caps=true) (q:(ip nm caps++[xn])[j]?=some n)
  (f:∀i:Nat,nm[i]?=some n->iZ.names.lookup n=some .free->(∀y:V,(caps.map (λi:Nat=>(L[i]?).join)++[none])[j]?=some (some y)->L[i]?=some (some y))->P) (g:n=xn->(caps.map (λi:Nat=>(L[i]?).join)++[none])[j]?=some none->P):P:=by
 have e:(ip nm caps).length=caps.length:=ae _
 rcases a9 j caps.length with l|l
 ·rw[aG (e.symm▸l)]at q
  unfold ip at q
  rw[aK,ao l]at q
  cases q
  obtain⟨h1,h2,_⟩:=Iw oc _ (hH l)
  refine f _ h1 h2 λy hy=>?_
  rw[aG (by rw[ae];exact l),aK,ao l]at hy
  exact Option.join_eq_some_iff.mp (ay hy)
 ·have q':=j0 q
  rw[aq,e]at q'
  cases bR (bE q') l
  refine g ?_ ?_
  ·rw[←e,bv]at q;exact(ay q).symm
  ·exact(congrArg (λn=>(caps.map (λi:Nat=>(L[i]?).join)++[none])[n]?) (ae (as:=caps) (λi=>(L[i]?).join)).symm).trans bv
theorem GD {iZ:Scope} {xn:Str} {caps:List Nat} {C:Addr} (L0:Loc c k H s.heap env nm L) (S:dz c k H s.heap) (O:MH env.scope iZ nm xn) (oc:sS nm iZ xn caps=true) (hl:∀y∈iZ.names,y.2= .free->∃a,env.cells.lookup y.1=some a)
  (hC:s.heap.get? C=none) (ek:∀b o,s.heap.get? b=some o->h'.get? b=some o) (ns:h'.Ns C λ_=>none):Loc c k H h' (compEnvC iZ (tc env iZ.names []) C env) (ip nm caps++[xn]) (caps.map (λi=>(L[i]?).join)++[none]):=by
 have hc:∀{n a},(tc env iZ.names []).lookup n=some a->(n,NameKind.free)∈iZ.names∧env.cells.lookup n=some a:=λq=>(vy _ _ hl q).resolve_left λz=>c7 rfl z
 have m:Mw k H s.heap k H h':=.keep ek
 refine⟨⟨O.1,L0.1.2,L0.1.3,?_,S.FN hC,λn a hk q=>?_,λn n' a q q'=>L0.1.7 n n' a (hc q).2 (hc q').2,λn q=>s_ L0 hC (.inr ⟨n,(hc q).2⟩)⟩,?_,λa p=>?_,⟨_,ns,λj n y hn hy hk=>?_⟩,λj n hn hk=>?_⟩
 ·rw[f_]
  refine⟨of_decide_eq_true (cI oc).2,dg.mpr ⟨aR,List.nodup_nil⟩,λx hx y hy=>?_⟩
  cases ak.mp hy
  obtain⟨i,hi,rfl⟩:=aA.mp hx
  exact(Iw oc i hi).2.2
 ·refine L0.1.6 n a ?_ (hc q).2
  rw[z_]at hk
  obtain⟨kd,w1,w2⟩:=bq.mp hk
  unfold MG at w2
  split at w2
  ·rename_i w;exact cJ (cI w).2
  ·subst w2;exact absurd rfl (O.3 _ (oM w1))
 ·rw[aq,aq,ae];exact congrArg (· +1) (ae _).symm
 ·rcases p with rfl|⟨n,q⟩
  ·exact⟨S.xU hC,C_ ns⟩
  ·have F:=L0.3 a (.inr ⟨n,(hc q).2⟩)
   exact⟨F.1,F.2.elim λo z=>⟨o,ek _ _ z.1,z.2⟩⟩
 ·refine Iy (L:=L) oc hn (λi _ hf _=>?_) λ_ z=>absurd (z.symm.trans hy) (by intro z;cases z)
  rw[z_,hf]at hk
  have hk:=ay hk
  unfold MG at hk
  split at hk<;>cases hk
 ·refine Iy (L:=L) oc hn (λi hi hf hL=>?_) λe _=>?_
  ·obtain⟨a,ov,q1,q2,q4⟩:=L0.5 i n hi (O.5 _ (oM hf) rfl).1
   obtain⟨a',q5⟩:=lJ.mp (uN (env:=env) iZ.names [] (.inl (oM hf)))
   cases q1.symm.trans (hc q5).2
   exact⟨a,ov,q5,qb q2 λo=>ek _ o,λy hy=>(q4 y (hL y hy)).elim λv w=>⟨v,w.1,w.2.mono m⟩⟩
  ·cases e
   rw[z_,O.2]at hk
   exact(qh hk rfl (λe=>NameKind.noConfusion e) λe=>NameKind.noConfusion e).elim
end
end
section
section
variable {c:Cx} {T:Tb} {L L1:Lc} {H H1 H2:Hp} {elt:CE} {k:Lk} {s:Shared} {A:Around} {r:Nat} {E:Value->Shared->Prop} {env:Env} {nm:List Str} {g:Gd} {xs ys:List V} {ifs:mw} {a d b:Addr} {o:O}
theorem nK.add (n:nK k H b) (h:b=a∨(o.dO=true∧b=d)->False):nK (k.add H.length a d) (H++[o]) b:=λj y q z=>by
 rcases oK q with⟨l,q⟩|⟨rfl,rfl⟩
 ·exact n j y q (z.old l)
 ·exact h z.new
theorem wU {it:CI} {caps:List Nat} {use:Option (Value->Sem Unit)} {pe:Expr} {pi:Expr} {qj:List Expr} {xn:Str} {px pos:Pos} {iZ:Scope} {Q:Value->Shared->Prop} (S:St c A r k H s env nm L)
  (x:sY c T it L H xs g H1) (ng:g.Cb=false) (y:kP c T elt ifs (caps.map (λi=>(L[i]?).join)) g xs [] H1 ys H2) (zy:ys.length≤SZ)
  (ok:(vk env.scope iZ nm xn&&(sS nm iZ xn caps&&(LR T r env.scope nm it pi&&(gK T r (p_ iZ env.scope) (ip nm caps++[xn]) elt pe&&jp T r (p_ iZ env.scope) (ip nm caps++[xn]) ifs qj))))=true)
  (h:∀k' s' D C,dy c k H s k' (H2++[.list ys]) s'->VR c k' (H2++[O.list ys]) s'.heap (.ref H2.length) (.ref D)->s.heap.get? C=none->nK k' (H2++[O.list ys]) C->(∃m,s'.heap.Ns C m)->compPost (Md c) A E use Q (.ref D) C (.ok .next) s'):
  wpAny (Md c) A (comprehension (.ListComp pe [⟨.Name xn px,pi,qj,0⟩] iZ pos) iZ env (firstIterPos [⟨.Name xn px,pi,qj,0⟩] pos) (newList []) false (eval pi env) use) Q E s:=by
 apply vd ok λos oc oi oe of=>?_
 have O:=Pb os
 have hl:∀y∈iZ.names,y.2= .free->∃a,env.cells.lookup y.1=some a:=λy hy q=>by
  obtain⟨hk,hm⟩:=O.5 y hy q
  obtain⟨i,hi⟩:=aP hm
  obtain⟨a,ov,q1,_⟩:=S.3.5 i y.1 hi hk
  exact⟨a,q1⟩
 have MI:closureFor iZ env=pure (tc env iZ.names []):=congrArg (· >>=λcs=>pure cs) (z9 iZ.names [] hl)
 refine wpAny_comprehension_free rfl (z7 oi) MI O.1 (λy hy q=>q▸O.4 y hy) ?_
 refine x S oi λk1 s1 T1 s2 I T2 fI w X=>?_
 have X:i8 c k1 H1 s2.heap I g xs:=by cases g<;>first|exact X|exact ff ng.symm
 have og:g.ok H1:=by cases g<;>first|exact w|exact ff ng.symm
 have nI:=T1.1.xU fI
 have N5:=T1.trans T2
 have S2:=S.go N5
 refine wpAny_newObj_type ?_ (by size_fits)
 generalize hD:s2.heap.push {cls:=.type "list",data:=.seq ([]:List Value).toArray}=hp
 have eD:∀b o,s2.heap.get? b=some o->hp.get? b=some o:=λb o e=>hD▸Heap.get?_push_of_some _ e
 have O2:hp.objs.size=s2.heap.objs.size+1:=hD▸Heap.size_push ..
 have gD:hp.get? s2.heap.objs.size=some (lN [] 0):=hD▸Heap.get?_push_size _ rfl
 refine wpAny_newFunctionEnv (λy hy=>O.3 y hy) (λy hy=>absurd hy aR) (λh' ns Pc=>?_) O.1
 have eC:∀b o,hp.get? b=some o->h'.get? b=some o:=λb o e=>(Pc.2 b (cu (Heap.lt_size e))).trans (Heap.get?_push_of_some _ e)
 have e2:∀b o,s2.heap.get? b=some o->h'.get? b=some o:=λb o e=>eC b o (eD b o e)
 have fC:s2.heap.get? hp.objs.size=none:=by
  cases z:s2.heap.get? hp.objs.size with
  |none=>rfl
  |some o=>exact absurd (Heap.lt_size (eD _ _ z)) (dU _)
 have fD:=iq s2.heap
 have T3:=dy.keeps (t:=s2.toks+([]:List (Str×Value)).length) S2.2 e2
 have T13:=N5.trans T3
 have DA:=T1.bk fI
 have Pd:=N5.bk fC
 have JL:=N5.bk fD
 have LC:=GD (h':=h') S2.3 S2.2 O oc hl fC e2 ns
 have neD:s2.heap.objs.size≠hp.objs.size:=by rw[O2];exact cu (bW _)
 have Iz:∀{b},s2.heap.get? b=none->b≠I:=λq z=>(X.fr nI).2.elim λo y=>c7 q (cr z▸y.1)
 have La:∀{b},B4 (compEnvC iZ (tc env iZ.names []) hp.objs.size env) b->b=hp.objs.size∨B4 env b:=λz=>z.imp id fun⟨n,q⟩=>.inr ⟨n,((vy _ _ hl q).resolve_left λz=>c7 rfl z).2⟩
 have X3:=X.go S2.2 T3 (λ_ z=>z.elim) nI id og
 have loop:=y (R:=compPost (Md c) A E use Q (.ref s2.heap.objs.size) hp.objs.size) (iter:=pi) (px:=px) (scope:=iZ) (pos:=pos) (I:=I) (D:=s2.heap.objs.size)
  ⟨⟨_,⟨S.1,T3.1,LC⟩⟩,X3,nI,⟨S2.2.xU fD,[],0,eC _ _ gD,rfl⟩,(congrArg (λn=>(ip nm caps++[xn])[n]?) ((ae _).trans (ae (as:=caps) _).symm)).trans bv,by rw[z_,O.2];rfl,
   λz=>(La z).elim (λz=>Iz fC z.symm) (s_ S.3 DA),S.2.FN DA,λz=>(La z).elim neD (s_ S.3 JL),S.2.FN JL,Iz fD⟩ oe of
  λk' s' K5 t W oi' S' MJ nC A'=>by
   have U:c8 c (N4 (compEnvC iZ (tc env iZ.names []) hp.objs.size env) I s2.heap.objs.size) k H s k' H2 s':=(T13.up (λ_ _ z _=>z.elim) λb z=>by
    rcases z with rfl|rfl|rfl
    ·exact(S.2.xU Pd).ow
    ·exact(S.2.xU DA).ow
    ·exact(S.2.xU JL).ow).trans W
   have V:=(U.Ir λb o z l=>by
    rcases z with rfl|rfl|rfl
    ·exact c7 Pd l
    ·exact c7 DA l
    ·exact c7 JL l).tail (t:=t) DA S' oi'
   obtain⟨nD,vs,n,gl,R⟩:=A'
   have Z:=c8.add (a:=s2.heap.objs.size) (d:=s2.heap.objs.size) (o:=.list ys) (t:=t) V S.2 (λ_ _ e=>e) (λb z=>z.elim (λz=>z▸⟨JL,nD,S2.2.nQ λ_ _ e=>e⟩) λz=>ff z.1) (.lst zy R (.add λ_ _ e=>e) gl)
   exact h _ _ _ _ Z (.new rfl) Pd (nC.add λz=>z.elim neD.symm λz=>ff z.1) MJ
 exact codeAny_compStart_list loop (X3.elim λP x=>x.2.5 (s:={s2 with heap:=h',toks:=s2.toks+([]:List (Str×Value)).length}) ng x.1 loop)
theorem A_ {it:CI} {caps:List Nat} (hL:L1=caps.map (λi=>(L[i]?).join)) (x:sY c T it L H xs g H1) (ng:g.Cb=false) (y:kP c T elt ifs L1 g xs [] H1 ys H2) (zy:ys.length≤SZ):zZ c T (.comp caps elt it ifs) L H (.ref H2.length) (H2++[.list ys]):=by
 subst hL
 refine⟨?_,λ_=>?_⟩
 ·intro A r env nm pe k s Q E S ok h
  apply ye ok λpe xn px pi qj iZ pos ok=>?_
  rw[eval_ListComp]
  refine wU (use:=none) S x ng y zy ok λk' s' D C W R fC nC MJ=>?_
  obtain⟨m,ns⟩:=MJ
  refine⟨m,ns,λh' hs=>?_⟩
  exact h _ _ _ (W.tail (t:=s'.toks) fC (W.1.wO nC (C_ ns) (S.2.FN fC) (uJ hs)) (uJ hs)) R
 ·intro A r env nm pe k s use Q E S ok h
  apply ye ok λpe xn px pi qj iZ pos ok=>?_
  refine wpAny_bind (wU (use:=some use) (Q:=λ_ s'=>wpAny (Md c) A (pure ()) Q E s') S x ng y zy ok λk' s' D C W R fC nC MJ=>?_)
  exact wpAny_mono (h k' s' (.ref D) C W R fC nC MJ) (λ_ zJ z=>z.1.elim λm ns=>⟨m,ns,λh' hs=>wpAny_pure (z.2 h' hs)⟩) λ_ _ e=>e
end
end
section
section
variable {n:Str}
theorem vz:∀{l r:List (Str×Value)},(l++r).lookup n=(l.lookup n).or (r.lookup n)
 |[],_=>rfl
 |p::l,r=>by
  rw[List.cons_append,bQ,bQ]
  cases n==p.1 with
  |true=>rfl
  |false=>exact vz
noncomputable def vA (slots:List (Str×Value)):List (Str×Value)->List (Str×Value)
 |[]=>slots
 |p::r=>vA (if(slots.lookup p.1).isNone=true then slots++[(p.1,p.2)]else slots) r
theorem vB:∀(l:List (Str×Value)) (slots:List (Str×Value)),(forIn l slots λx r=>if(List.lookup x.1 r).isNone=true then pure (ForInStep.yield (r++[(x.1,x.2)]))else pure (ForInStep.yield r))=(pure (vA slots l):Sem _)
 |[],_=>rfl
 |p::l,slots=>by
  rw[jF,show vA slots (p::l)=vA (if(slots.lookup p.1).isNone=true then slots++[(p.1,p.2)]else slots) l from rfl]
  by_cases q:(List.lookup p.1 slots).isNone=true
  ·rw[if_pos q,if_pos q];exact vB l _
  ·rw[if_neg q,if_neg q];exact vB l _
theorem uO:∀(l:List (Str×Value)) (slots:List (Str×Value)),(vA slots l).lookup n=(slots.lookup n).or (l.lookup n)
 |[],slots=>(oD).symm
 |p::l,slots=>by
  rw[show vA slots (p::l)=vA (if(slots.lookup p.1).isNone=true then slots++[(p.1,p.2)]else slots) l from rfl,uO,bQ]
  cases z:n==p.1 with
  |true=>
   cases cJ z
   cases q:slots.lookup p.1 with
   |some v=>rw[if_neg (by intro h;cases h),q];rfl
   |none=>rw[if_pos (show(none:Option Value).isNone=true from rfl),vz,q,bQ,z];rfl
  |false=>
   by_cases q:(List.lookup p.1 slots).isNone=true
   ·rw[if_pos q,vz,bQ,z,show([]:List (Str×Value)).lookup n=none from rfl,oD]
   ·rw[if_neg q]
theorem sx:∀{ns:List Str} {vs:List Value} {i:Nat},ns.Nodup->ns[i]?=some n->(ns.zip vs).lookup n=vs[i]?
 |m::ns,[],i,_,_=>rfl
 |m::ns,v::vs,0,_,h=>by
  cases h
  rw[pX,bQ,beq_self_eq_true];rfl
 |m::ns,v::vs,i+1,nd,h=>by
  obtain⟨h1,h2⟩:=dg.mp nd
  have h:ns[i]?=some n:=h
  rw[pX,bQ,show(n==m)=false from beq_false_of_ne λz=>h1 (z▸am h)]
  exact sx h2 h
theorem GE {f:Str->Option Value} {ns:List Str}:∀{us:List Value},ns.length=us.length->(∀(i:Nat) n,ns[i]?=some n->f n=us[i]?)->ns.filterMap (λn=>(f n).map (n,·))=ns.zip us:=by
 induction ns with
 |nil=>exact λ_ _=>rfl
 |cons m ns ih=>
  intro us e h
  cases us with
  |nil=>cases e
  |cons u us=>
   rw[List.filterMap_cons,h 0 m rfl]
   exact congrArg ((m,u):: ·) (ih (hB e) λi=>h (i+1))
inductive yC (p:Arguments) (ns:List Str):Prop
 |mk (pos:p.posonlyargs=[]) (args:p.args.map (·.arg)=ns) (va:p.vararg=none) (ko:p.kwonlyargs=[]) (ka:p.kwarg=none) (nd:ns.Nodup)
theorem DE {c:Cx} {A:Around} {E:Value->Shared->Prop} {s:Shared} {fd:FuncData} {ar:List Arg} {kd:List (Option Expr)} {df:List Expr} {vs ds:List Value} {Q:List (Str×Value)->Shared->Prop} (P:fd.params=⟨[],ar,none,[],kd,none,df⟩) (h1:vs.length≤(ar.map (·.arg)).length)
  (h3:ds.length≤(ar.map (·.arg)).length) (hd:∀{Q':Option (Array Value)->Shared->Prop},(∀o:Option (Array Value),(o.getD #[]).toList=ds->Q' o s)->wpAny (Md c) A (seqItems? fd.defaults) Q' E s)
  (hm:(((ar.map (·.arg)).take ((ar.map (·.arg)).length-ds.length)).filter λn=>(((ar.map (·.arg)).zip vs).lookup n).isNone)=[])
  (h:Q ((ar.map (·.arg)).filterMap λn=>((vA ((ar.map (·.arg)).zip vs) (((ar.map (·.arg)).drop ((ar.map (·.arg)).length-ds.length)).zip ds)).lookup n).map (n,·)) s):wpAny (Md c) A (bindArgs fd ⟨vs,[]⟩) Q E s:=by
 unfold bindArgs
 rw[P]
 refine wpAny_bind (wpAny_of_eq rfl (wpAny_bind (hd λo ho=>?_)))
 rw[ho]
 have e1:ds.drop (ds.length-(ar.map (·.arg)).length)=ds:=by rw[nG h3];rfl
 refine(?_:wpAny (Md c) A (if(decide (vs.length>(ar.map (·.arg)).length)&&true)=true then _ else _) Q E s)
 rw[if_neg (by rw[decide_eq_false (bG.mpr h1)];exact cA)]
 refine(?_:wpAny (Md c) A (if(!(((ar.map (·.arg)).take ((ar.map (·.arg)).length-(ds.drop (ds.length-(ar.map (·.arg)).length)).length)).filter λn=>(((ar.map (·.arg)).zip vs).lookup n).isNone).isEmpty)=true then _ else _) Q E s)
 rw[e1,hm,if_neg (show ¬(!([]:List Str).isEmpty)=true from λz=>ff z)]
 refine wpAny_bind (wpAny_of_eq (vB _ _) (wpAny_bind (wpAny_of_eq rfl ?_)))
 have h':Q ((ar.map (λx:Arg=>x.arg)++[]).filterMap λn=>((vA ((ar.map (λx:Arg=>x.arg)).zip vs) (((ar.map (λx:Arg=>x.arg)).drop ((ar.map (λx:Arg=>x.arg)).length-(ds.drop (ds.length-(ar.map (λx:Arg=>x.arg)).length)).length)).zip (ds.drop (ds.length-(ar.map (λx:Arg=>x.arg)).length)))).lookup n).map (n,·)) s:=by rw[e1,aO];exact h
 exact wpAny_pure h'
theorem GF {c:Cx} {A:Around} {E:Value->Shared->Prop} {s:Shared} {fd:FuncData} {ns:List Str} {vs ds:List Value} {Q:List (Str×Value)->Shared->Prop} (P:yC fd.params ns) (h1:vs.length≤ns.length) (h2:ns.length≤vs.length+ds.length) (h3:ds.length≤ns.length)
  (hd:∀{Q':Option (Array Value)->Shared->Prop},(∀o:Option (Array Value),(o.getD #[]).toList=ds->Q' o s)->wpAny (Md c) A (seqItems? fd.defaults) Q' E s)
  (h:Q (ns.zip (vs++ds.drop (vs.length+ds.length-ns.length))) s):wpAny (Md c) A (bindArgs fd ⟨vs,[]⟩) Q E s:=by
 have hp:∃kd df,fd.params=⟨[],fd.params.args,none,[],kd,none,df⟩:=by
  have q:=P.1;have q1:=P.3;have q2:=P.4;have q3:=P.5
  cases e:fd.params
  rw[e]at q q1 q2 q3
  cases q;cases q1;cases q2;cases q3
  exact⟨_,_,rfl⟩
 obtain⟨kd,df,hp⟩:=hp
 have hf:ns.length-ds.length≤vs.length:=dx h2
 have sub:vs.length+ds.length-ns.length=vs.length-(ns.length-ds.length):=(lc _ h3).symm
 refine DE hp (P.2.symm▸h1) (P.2.symm▸h3) hd ?_ ?_
 ·rw[P.2,dS]
  intro n hn
  obtain⟨i,hi⟩:=aP hn
  have li:=aw (j0 hi) (by rw[eQ];exact Nat.min_le_left _ _)
  rw[iw li]at hi
  rw[sx P.6 hi,ao (aw li hf)]
  exact λz=>ff z
 ·rw[P.2,GE (us:=vs++ds.drop (vs.length+ds.length-ns.length)) (by rw[aq,g_,dT vs.length ds.length,←lc _ h1,l_ (dx (dT .. ▸h2)),cY h1]) λi n hi=>?_]
  ·exact h
  ·rw[uO,sx P.6 hi]
   rcases a9 i vs.length with l|l
   ·rw[aG l,ao l];rfl
   ·have l2:=aj hf l
    have hi2:(ns.drop (ns.length-ds.length))[i-(ns.length-ds.length)]?=some n:=by rw[dI,cY l2];exact hi
    rw[aX l,bT l,Option.none_or,sx (P.6.sublist (List.drop_sublist _ _)) hi2,dI,sub]
    exact congrArg (λi:Nat=>ds[i]?) ((Nat.sub_add_sub_cancel l hf).symm.trans (dT ..))
end
end
section
inductive FnAt (c:Cx) (T:Tb) (f:Nat) (d:Fn) (fd:FuncData) (body:List Stmt) (nm:List Str) (rf:Nat):Prop
 |mk (at_:∃oc od Gr,c.K.lookup (c.G.fa f)=some ⟨oc,od,.func fd,Gr⟩) (bd:fd.body= .stmts body) (gl:fd.globals=mainGlobals) (bi:fd.builtins=builtinsNs) (cd:codeIn c.K fd.code fd.qualname=true) (co:fd.scope.isCoroutine=false) (gen:fd.scope.isGenerator=false) (kd:fd.scope.kind= .function) (rk:T.rk[f]?=some rf) (len:nm.length=d.nl) (np:d.np≤d.nl) (nd:nm.Nodup) (ok:s6 T rf fd.scope nm d.body body=true) (par:yC fd.params (nm.take d.np)) (dl:d.defs.length≤d.np) (df:(fd.defaults= .none∧d.defs=[])∨∃t vs e,fd.defaults= .ref t∧c.hb.get? t=some (ig vs e)∧∀k H h,eJ c k H h d.defs vs) (kinds:∀n∈nm,fd.scope.names.lookup n=some .local∨fd.scope.names.lookup n=some .cell)
inductive FnS (c:Cx) (T:Tb) (f:Nat) (fd:FuncData) (nm:List Str):Prop
 |mk (clo:∃s7 cc D,fd.closure=[(("__class__":Str),cc)]∧fd.code= .ref s7∧Di c T fd.scope (c.G.fa f) s7 cc D (nm.getD 0 Str.empty)) (nc:∀x∈fd.scope.names,x.2≠ .cell) (loc:∀n∈nm,fd.scope.names.lookup n=some .local)
section
variable {kf:Str->Option NameKind} {n:Str} {v:Value}
theorem uP:∀{l:List (Str×Value)} {m:Str->Option Value},n∉l.map (·.1)->bindL kf l m n=m n
 |[],_,_=>rfl
 |x::l,m,h=>by
  refine(uP (l:=l) λz=>h (aL _ z)).trans ?_
  split
  ·exact if_neg λz:n=x.1=>h (by rw[z];exact aQ)
  ·rfl
theorem uQ:∀{l:List (Str×Value)} {m:Str->Option Value},n∉l.map (·.1)->bindC kf l m n=m n
 |[],_,_=>rfl
 |x::l,m,h=>by
  refine(uQ (l:=l) λz=>h (aL _ z)).trans ?_
  split
  ·rfl
  ·exact if_neg λz:n=x.1=>h (by rw[z];exact aQ)
theorem uR:∀{l:List (Str×Value)} {m:Str->Option Value},(l.map (·.1)).Nodup->(n,v)∈l->kf n=some .local->bindL kf l m n=some v
 |x::l,m,h,hm,hk=>by
  obtain⟨h1,h2⟩:=dg.mp h
  rcases aH.mp hm with e|hm
  ·cases e;exact(uP h1).trans ((congrFun (if_pos hk) n).trans (if_pos rfl))
  ·exact uR (l:=l) h2 hm hk
theorem uS:∀{l:List (Str×Value)} {m:Str->Option Value},(l.map (·.1)).Nodup->(n,v)∈l->kf n=some .cell->bindC kf l m n=some v
 |x::l,m,h,hm,hk=>by
  obtain⟨h1,h2⟩:=dg.mp h
  rcases aH.mp hm with e|hm
  ·cases e;exact(uQ h1).trans ((congrFun (if_neg λz=>NameKind.noConfusion (ay (hk.symm.trans z))) n).trans (if_pos rfl))
  ·exact uS (l:=l) h2 hm hk
theorem DG {α:Type} {x:Str} {a:α} {l:List (Str×α)} (h:(l.lookup n).isSome=true):(((x,a)::l).lookup n).isSome=true:=by
 rw[bQ]
 cases n==x with
 |true=>rfl
 |false=>exact h
theorem lr:∀{names:List (Str×NameKind)} {i:Nat} {acc:List (Str×Addr)},(acc.lookup n).isSome=true->((cellsFrom i names acc).lookup n).isSome=true
 |[],_,_,h=>h
 |x::r,i,acc,h=>by
  show(List.lookup n (if(x.2== .cell)=true then _ else _)).isSome=true
  split
  ·exact lr (DG h)
  ·exact lr h
theorem cellsFrom_some:∀{names:List (Str×NameKind)} {i:Nat} {acc:List (Str×Addr)},names.lookup n=some .cell->((cellsFrom i names acc).lookup n).isSome=true
 |x::r,i,acc,h=>by
  rw[bQ]at h
  show(List.lookup n (if(x.2== .cell)=true then cellsFrom (i+1) r ((x.1,i)::acc)else cellsFrom i r acc)).isSome=true
  cases q:n==x.1 with
  |true=>
   rw[q]at h
   rw[if_pos (show(x.2==NameKind.cell)=true by rw[ay h];rfl)]
   exact lr (by rw[bQ,q];rfl)
  |false=>
   rw[q]at h
   split<;>exact cellsFrom_some h
theorem Aa:∀(ns:List Str) (vs:List Value),ns.length=vs.length->(ns.zip vs).map (·.1)=ns
 |[],_,_=>rfl
 |n::ns,v::vs,h=>congrArg (n:: ·) (Aa ns vs (hB h))
theorem Ba {l:List (Str×Value)} (h:(l.map (·.1)).Nodup) (hm:(n,v)∈l):l.lookup n=some v:=by
 induction l with
 |nil=>cases hm
 |cons p l ih=>
  obtain⟨h1,h2⟩:=dg.mp h
  rw[bQ]
  rcases aH.mp hm with e|hm
  ·cases e;rw[beq_self_eq_true]
  ·rw[show(n==p.1)=false from beq_false_of_ne λz=>h1 (by show p.1∈_;rw[←z];exact o_ (f:=(·.1)) hm)];exact ih h2 hm
end
inductive JM (A:Around) (r:Nat):Prop
 |mk (hd:A.handled=none) (dp:A.depth+3*r+18<recursionLimit) (un:A.units+40*r+170<cLine) (fr:∃l,A.frames=some l)
noncomputable def wV (c:Cx) (T:Tb) (f:Nat) (vs:List V) (H:Hp) (v:V) (H':Hp):Prop:=
 ∀{A:Around} {r:Nat} {k:Lk} {s:Shared} {args:List Value} {R:Result->Shared->Prop},JM A r->wr T f r=true->dz c k H s.heap->eJ c k H s.heap vs args->
  (∀k' s' v',dy c k H s k' H' s'->VR c k' H' s'.heap v v'->R (.ok (.ret v')) s')->codeAny (Md c) A (.call (.ref (c.G.fa f)) ⟨args,[]⟩) R s
section
variable {c:Cx} {T:Tb} {k:Lk} {s s1:Shared} {H H':Hp} {A:Around} {f:Nat} {d:Fn} {fd:FuncData} {body:List Stmt} {nm:List Str} {rf r:Nat} {vs:List V} {args us:List Value} {env:Env} {h1:Heap}
theorem B5.Pe (x:B5 A r):JM A r:=⟨x.1,Ik x.2 (by decide),Ik x.3 (by decide),x.4⟩
theorem JM.deeper (x:JM A r) {q:Nat} (h:q<r):B5 (A.deeper env) q:=by
 obtain⟨l,hl⟩:=x.4
 exact⟨x.1,ax (show A.depth+1+3*q+20≤A.depth+3*r+18 by have:=bF 3 h;rw[Nat.mul_succ]at this;omega) x.2,ax (show A.units+3+40*q+200≤A.units+40*r+170 by have:=bF 40 h;rw[Nat.mul_succ]at this;omega) x.3,⟨_,Around.frames_deeper hl⟩⟩
theorem wW {m:Str->Option Value} (F:FnAt c T f d fd body nm rf) (S:dz c k H s.heap) (RV:eJ c k H s.heap (vs++d.defs.drop (vs.length+d.defs.length-d.np)) us) (hl:us.length=d.np) (e1:env.scope=fd.scope) (e2:env.globals=fd.globals) (e3:env.builtins=fd.builtins)
  (fL:s.heap.get? env.locals=none) (keep:∀b o,s.heap.get? b=some o->h1.get? b=some o) (ns:h1.Ns env.locals m) (hm:∀n v,(n,v)∈(nm.take d.np).zip us->env.kindOf n=some .local->m n=some v)
  (hc:∀n a,env.cells.lookup n=some a->nK k H a∧(∃o,h1.get? a=some o∧iO o)∧a≠env.locals∧(env.kindOf n=some .cell->c.hb.get? a=none)) (cap:∀n n' a,env.cells.lookup n=some a->env.cells.lookup n'=some a->n=n')
  (hv:∀n∈nm,(env.kindOf n=some .cell∨env.kindOf n=some .free)->∃a ov,env.cells.lookup n=some a∧h1.IsCell a ov∧∀v,(n,v)∈(nm.take d.np).zip us->ov=some v):Loc c k H h1 env nm (d.start vs):=by
 have mv:Mw k H s.heap k H h1:=.keep keep
 have ll:=RV.length.trans hl
 have arg:∀(i:Nat) n x,nm[i]?=some n->(d.start vs)[i]?=some (some x)->∃v,(n,v)∈(nm.take d.np).zip us∧VR c k H s.heap x v:=λi n x hn hx=>by
  unfold Fn.start at hx
  rcases a9 i d.np with li|li
  ·rw[aG (by rw[ae,ll];exact li),aK]at hx
   obtain⟨y,hy,hyx⟩:=bq.mp hx
   cases hyx
   obtain⟨v,hv,rv⟩:=RV.get hy
   exact⟨v,am (List.getElem?_zip_eq_some.mpr ⟨(iw li).trans hn,hv⟩),rv⟩
  ·rw[aX (by rw[ae,ll];exact li)]at hx
   cases iy (am hx)
 refine⟨⟨e1▸F.8,e2.trans F.3,e3.trans F.4,F.12,S.FN fL,λn a q q'=>(hc n a q').2.2.2 q,cap,λn q=>(hc n _ q).2.2.1 rfl⟩,?_,λa p=>?_,⟨m,ns,λi n x hn hx hk=>(arg i n x hn hx).elim λv z=>⟨v,hm n v z.1 hk,z.2.mono mv⟩⟩,λi n hn hk=>(hv n (am hn) hk).elim λa z=>z.elim λov z=>⟨a,ov,z.1,z.2.1,λx hx=>(arg i n x hn hx).elim λv y=>⟨v,z.2.2 v y.1,y.2.mono mv⟩⟩⟩
 ·unfold Fn.start
  rw[aq,ae,ll,bZ,F.10];exact cY F.11
 ·rcases p with rfl|⟨n,q⟩
  ·exact⟨S.xU fL,C_ ns⟩
  ·exact⟨(hc n a q).1,(hc n a q).2.1⟩
theorem runCore (F:FnAt c T f d fd body nm rf) {R:Result->Shared->Prop} (hA:JM A r) (S:dz c k H s.heap) (RV:eJ c k H s.heap vs args) (ht:d.takes vs.length)
  (h:∀us,eJ c k H s.heap (vs++d.defs.drop (vs.length+d.defs.length-d.np)) us->us.length=d.np->(((nm.take d.np).zip us).map (·.1)).Nodup->(∀x∈(nm.take d.np).zip us,x.1∈nm)->
   wpAny (Md c) A.in1 (newFunctionEnv fd.scope fd.globals fd.closure ((nm.take d.np).zip us) (fd.qualname++".<locals>.") (some (c.G.fa f)) fd.code none fd.builtins) (λenv s₂=>s₂.heap.NoLimit∧codeAny (Md c) A (.func body env) R s₂) (λe s'=>R (.error e) s') s):
  codeAny (Md c) A (.call (.ref (c.G.fa f)) ⟨args,[]⟩) R s:=by
 obtain⟨oc,od,Gr,ho⟩:=F.1
 have X:=c.X.keeps S.1
 refine codeAny_call_function (fd:=fd) (body:=body) (ax (aj (bx _ _) (bx _ _)) hA.2) (X _ _ ho) rfl F.6 F.7 F.2 (codeRec_of X F.5) ?_
 have tl:(nm.take d.np).length=d.np:=by rw[eQ,F.10];exact Nat.min_eq_left F.11
 have D:∃ds,eJ c k H s.heap d.defs ds∧∀{E:Value->Shared->Prop} {Q':Option (Array Value)->Shared->Prop},(∀o:Option (Array Value),(o.getD #[]).toList=ds->Q' o s)->wpAny (Md c) A.in1 (seqItems? fd.defaults) Q' E s:=by
  rcases F.16 with⟨e1,e2⟩|⟨t,ds,e,e1,e2,e3⟩
  ·exact⟨[],by rw[e2];exact rfl,λh=>by rw[e1];exact wpAny_pure (h _ rfl)⟩
  ·exact⟨ds,e3 _ _ _,λh=>by rw[e1];exact wpAny_seqItems (S.1 _ _ e2) rfl (h _ rfl)⟩
 obtain⟨ds,RD,hd⟩:=D
 have al:=RV.length
 have dl:=RD.length
 have RU:=RV.append (RD.drop (vs.length+d.defs.length-d.np))
 obtain⟨t1,t2⟩:=ht
 have ul:(args++ds.drop (vs.length+d.defs.length-d.np)).length=d.np:=by
  rw[←RU.length,aq,g_,dT vs.length d.defs.length,←lc _ t1,l_ (dx (dT .. ▸t2)),cY t1]
 refine GF F.14 (by rw[tl,←al];exact t1) (by rw[tl,←al,←dl];exact t2) (by rw[tl,←dl];exact F.15) hd ?_
 rw[tl,←al,←dl]
 exact h _ RU ul (by rw[Aa _ _ (tl.trans ul.symm)];exact F.14.6) λx hx=>oE (List.of_mem_zip (a:=x.1) (b:=x.2) hx).1
theorem Pf (F:FnAt c T f d fd body nm rf) (hr:wr T f r=true):rf<r:=by
 unfold wr at hr
 rw[F.9]at hr
 exact of_decide_eq_true hr
theorem Ab {fl:Fl} {L':Lc} (F:FnAt c T f d fd body nm rf) {R:Result->Shared->Prop} (hA:JM A r) (hr:wr T f r=true) (es:env.scope=fd.scope) (x:j_ c T d.body (d.start vs) H fl L' H') (W:dy c k H s k H s1) (L1:Loc c k H s1.heap env nm (d.start vs))
  (hs:d.body.eX=true∨Dk c T env (nm.getD 0 Str.empty)) (hn:∀b o,Own env b->s.heap.get? b=some o->False) (h:∀k' s' v',dy c k H s k' H' s'->VR c k' H' s'.heap fl.val v'->R (.ok (.ret v')) s'):codeAny (Md c) A (.func body env) R s1:=by
 refine ks_codeAny_funcAt (x ⟨hA.deeper (Pf F hr),W.1,L1⟩ (es▸F.13) (hs.imp id λz=>⟨⟨_,rfl⟩,z⟩) λk2 s2 fv W2 L2 R2=>?_)
 have TT:=((W.up (Y:=Own env) (λ_ _ z _=>z.elim) λb z=>(L1.own z).1.ow).trans W2).Ir hn
 cases fl with
 |next=>rw[(R2:fv=_)];exact h _ _ _ TT rfl
 |cont=>rw[(R2:fv=_)];exact h _ _ _ TT rfl
 |ret v=>obtain⟨v',rfl,rv⟩:=R2;exact h _ _ _ TT rv
end
end
section
section
variable {c:Cx} {T:Tb} {L:Lc} {H H1 H2 H3 H':Hp} {o:CE} {l:mw} {v:V} {vs:List V} {k:Lk} {s:Shared} {A:Around} {r f:Nat} {E:Value->Shared->Prop} {env:Env} {nm:List Str} {pos:Pos} {d:Fn} {fd:FuncData} {body:List Stmt} {rf:Nat}
theorem GG {fl:Fl} {L':Lc} (F:FnAt c T f d fd body nm rf) (clo:fd.closure=[]) (hs:d.body.eX=true) (ht:d.takes vs.length) (x:j_ c T d.body (d.start vs) H fl L' H'):wV c T f vs H fl.val H':=by
 intro A r k s args R hA hr S RV h
 refine runCore F hA S RV ht λus RU ul nd hk=>?_
 rw[clo]
 refine wpAny_newFunctionEnv_cells F.8 (λx hx=>(F.17 _ (hk x hx)).imp id λz=>⟨z,cellsFrom_some z⟩) λenv he s1 W=>?_
 subst he
 have keep:=W.toInCall.keep
 refine⟨(c.T.nolimit).keeps (λb o e=>keep b o (S.1 b o e)),?_⟩
 have past:∀{a:Addr},s.heap.objs.size≤a->s.heap.get? a=none:=λ{a} h=>by
  cases z:s.heap.get? a with
  |none=>rfl
  |some o=>exact absurd (Heap.lt_size z) (bG.mpr h)
 have above:∀{n a},(callEnvC fd s.heap.objs.size (c.G.fa f)).cells.lookup n=some a->s.heap.objs.size<a:=λh=>W.above _ _ (mem_of_lookup h)
 have fa:∀{n a},(callEnvC fd s.heap.objs.size (c.G.fa f)).cells.lookup n=some a->s.heap.get? a=none:=λh=>past (aI (above h))
 have L1:=wW (env:=callEnvC fd s.heap.objs.size (c.G.fa f)) F S RU ul rfl rfl rfl (past (aC _)) keep W.toInCall.ns (λn v hm hk=>uR nd hm hk)
  (λn a h=>⟨S.xU (fa h),Da (W.cell _ _ h),du (above h),λ_=>S.FN (fa h)⟩) (λn n' a h h'=>name_of_addr W.apart (mem_of_lookup h) (mem_of_lookup h')) (λn hn hk=>by
   have hk:(callEnvC fd s.heap.objs.size (c.G.fa f)).kindOf n=some .cell:=(F.17 n hn).elim (λz=>(qh hk z (λe=>NameKind.noConfusion e) λe=>NameKind.noConfusion e).elim) id
   obtain⟨a,ha⟩:=lJ.mp (cellsFrom_some (i:=s.heap.objs.size+1) (acc:=[]) hk)
   exact⟨a,_,ha,W.cell _ _ ha,λv hm=>uS nd hm hk⟩)
 obtain⟨h1,tk,e1⟩:=W.toInCall.same
 subst e1
 refine Ab F hA hr rfl x (dy.keeps S keep) L1 (.inl hs) (λb o hb q=>?_) h
 rcases hb with rfl|⟨n,_,h⟩
 ·exact c7 (past (aC _)) q
 ·exact c7 (fa h) q
theorem nK.JN (S:dz c k H s.heap) {a:Addr} {o:Obj} {x:Option Value} (e:c.hb.get? a=some o) (hd:o.data= .cell x):nK k H a:=λj y q z=>by
 by_cases m:y.made=true
 ·exact c7 (S.3 _ _ _ q m z).1 e
 ·cases y with
  |ro l=>
   rcases z with rfl|z
   ·obtain⟨_,ws,n,g,_⟩:=S.2 _ _ q
    cases g.symm.trans (S.1 _ _ e);cases hd
   ·exact ff z.1
  |_=>exact absurd rfl m
theorem DH {fl:Fl} {L':Lc} (F:FnAt c T f d fd body nm rf) (FS:FnS c T f fd nm) (ht:d.takes vs.length) (x:j_ c T d.body (d.start vs) H fl L' H'):wV c T f vs H fl.val H':=by
 intro A r k s args R hA hr S RV h
 refine runCore F hA S RV ht λus RU ul nd hk=>?_
 refine wpAny_newFunctionEnv FS.2 (λx hx=>FS.3 _ (hk x hx)) (λh1 ns Pc=>?_) F.8
 have keep:∀b o,s.heap.get? b=some o->h1.get? b=some o:=λb o e=>Pc.extBut b o (cu (Heap.lt_size e)) (Heap.get?_push_of_some _ e)
 refine⟨(c.T.nolimit).keeps (λb o e=>keep b o (S.1 b o e)),?_⟩
 obtain⟨s7,cc,D,MK,DJ,SA⟩:=FS.1
 obtain⟨Ph,O6,MB,DK⟩:=SA.3
 have Pi:=c.X _ _ DK
 have Pj:∀{n a},(callEnv fd s.heap.objs.size (c.G.fa f)).cells.lookup n=some a->a=cc∧n="__class__":=λ{n a} h=>by
  have h:fd.closure.lookup n=some a:=h
  rw[MK,bQ]at h
  cases q:n==("__class__":Str)with
  |true=>rw[q]at h;exact⟨(ay h).symm,cJ q⟩
  |false=>rw[q]at h;exact c7 rfl h
 have DM:∀{n},(callEnv fd s.heap.objs.size (c.G.fa f)).kindOf n=some .cell->False:=λh=>FS.2 _ (mem_of_lookup h) rfl
 have L1:=wW (env:=callEnv fd s.heap.objs.size (c.G.fa f)) F S RU ul rfl rfl rfl (iq _) keep ns (λn v hm _=>Ba (by rw[jc];exact List.pairwise_reverse.mpr (List.Pairwise.imp (λz=>d4 z) nd)) (jd.mpr hm))
  (λn a h=>by cases(Pj h).1;exact⟨nK.JN S Pi rfl,⟨_,keep _ _ (S.1 _ _ Pi),sM rfl⟩,λz=>c7 (iq s.heap) (z▸S.1 _ _ Pi),λz=>(DM z).elim⟩) (λn n' a h h'=>(Pj h).2.trans (Pj h').2.symm)
  (λn hn hk=>(qh hk (FS.3 n hn) (λe=>NameKind.noConfusion e) λe=>NameKind.noConfusion e).elim)
 refine Ab (s1:={s with heap:=h1,toks:=s.toks+((nm.take d.np).zip us).length}) F hA hr rfl x (dy.keeps S keep) L1 (.inr ⟨fd.qualname,fd.scope,s.heap.objs.size,c.G.fa f,s7,cc,D,?_,SA⟩) (λb o hb q=>hb.elim (λz=>c7 (iq s.heap) (z▸q)) fun⟨n,z,_⟩=>DM z) h
 show({scope:=fd.scope,locals:=_,globals:=fd.globals,cells:=fd.closure,qual:=_,func:=_,code:=fd.code,frame:=_,builtins:=fd.builtins}:Env)=_
 rw[F.3,F.4,MK,DJ]
inductive GH (c:Cx) (T:Tb):Prop
 |mk (HW:c.G.HW≤T.cn.length) (supFn:fnIn c.K (c.G.fa T.P.sup)=true) (init:∀a f,T.P.init a=some f->findIn c.K (.ref (c.G.cl a)) "__init__"=some (some (.ref (c.G.fa f)))∧typeIn c.K (.ref (c.G.fa f))=some (.type "function"))
inductive ML (c:Cx) (T:Tb):Prop
 |mk (fn:∀f d,T.P.fn f=some d->∃fd body nm rf,FnAt c T f d fd body nm rf∧((fd.closure=[]∧d.body.eX=true)∨FnS c T f fd nm))
theorem oX {e:CE} (x:b_ c T e L H v H') (n:e.mA=false:=by rfl):zZ c T e L H v H':=⟨x,λz=>ff (n.symm.trans z)⟩
theorem JU {sc:Scope} {kM:List Expr} {fv:Value} {Q:Args->Shared->Prop} (ok:jp T r sc nm l kM=true) (h:wpAny (Md c) A (spliced (backTo pos (starEach kM env))) (λvs s₁=>Q ⟨vs,[]⟩ s₁) E s):
  wpAny (Md c) A (evalArgs fv true (backTo pos (starEach kM env)) []) Q E s:=by
 have ns:=noStar (pos:=pos) (env:=env) ok
 cases z:backTo pos (starEach kM env)with
 |nil=>
  rw[z]at h
  unfold evalArgs
  refine wpAny_bind (wpAny_mono h (λvs s' h'=>?_) λ_ _ x=>x)
  exact wpAny_bind (wpAny_pure (wpAny_holding (wpAny_bind (wpAny_pure (wpAny_bind (wpAny_pure (wpAny_pure h')))))))
 |cons x rest=>
  rw[z]at h ns
  obtain⟨b,m⟩:=x
  cases b with
  |false=>exact evalArgs_plain h
  |true=>exact ff ns
theorem JV {sc:Scope} {kM:List Expr} (ok:jp T r sc nm l kM=true):(backTo pos (starEach kM env)).any (·.1)=false:=by
 have ns:=noStar (pos:=pos) (env:=env) ok
 rw[List.any_eq_false]
 exact λx hx z=>ff ((sN (bt.mp ns x hx)).symm.trans z)
theorem Ac {kM:List Expr} {fv:Value} {pre:List Value} {Q:Value->Shared->Prop} {P:Heap->Prop} (ok:jp T r env.scope nm l kM=true) (hk:∀h,P h->∃k,(k=Keeper.frame∨k=Keeper.machine∨k=Keeper.boundFrame)∧Looks (Md c) h (keeperOf fv) k) (S:St c A r k H s env nm L) (x:nP c T l L H vs H1)
  (h:∀k1 s1 DN,dy c k H s k1 H1 s1->eJ c k1 H1 s1.heap vs DN->P s1.heap∧codeAny (Md c) A (.call fv ⟨pre++DN,[]⟩) (λr s'=>match r with| .ok (.ret v)=>Q v s'| .ok _=>False| .error e=>E e s') s1):
  wpAny (Md c) A (callWith pos fv pre (backTo pos (starEach kM env)) []) Q E s:=
 callWith_of (P:=P) (by rw[JV ok];rfl) hk (JU ok (x S ok λk1 s1 DN T1 R1=>(h k1 s1 DN T1 R1).imp id wpAny_call))
theorem DO (TO:nL c T) (x:nP c T l L H vs H1) (y:wV c T f vs H1 v H2):b_ c T (.call f l) L H v H2:=by
 intro A r env nm pe k s Q E S ok h
 apply qT ok λn q as p ok=>?_
 apply oV ok λhn hg hr o1=>?_
 refine wpAny_bind (S.3.glob S.2 hg (TO.11 _ _ (cJ hn)) ?_)
 exact Ac o1 (keeps_K (TO.12 _ _ (cJ hn))) S x λk1 s1 DN T1 R1=>⟨T1.1.Fv,y S.1.Pe hr T1.1 R1 λk2 s2 v2 T2 R2=>h _ _ _ (T1.trans T2) R2⟩
theorem DP {m kk cl:Nat} {fs:List (Nat×V)} (TO:nL c T) (x:b_ c T o L H (.ref kk) H1) (g:H1[kk]?=some (.inst cl fs)) (q:T.P.xT cl m=some f) (n:qO m fs=none)
  (y:nP c T l L H1 vs H2) (z:wV c T f (.ref kk::vs) H2 v H3):b_ c T (.bA o m f l) L H v H3:=by
 intro A r env nm pe k s Q E S ok h
 apply vh ok λoe mn q1 as p hp ok=>?_
 apply vd ok λhn hs hm o1 o2=>?_
 refine wG hp hs (noStar o2) (x S o1 λk1 s1 v1 T1 R1 pl=>?_)
 apply R1.kR λN1=>?_
 refine T1.1.kO g λes e q0 R g1 g2 I=>?_
 obtain⟨mf,isf,kf⟩:=TO.9 _ _ _ q _ (cJ hn)
 obtain⟨pg,hd,_⟩:=TO.8 cl q0
 have fd:=R.find TO (cJ hn)
 rw[n]at fd
 refine method_fn T1.1.Fv I (plainGet_of pg).1 (plainGet_of pg).2 mf (beq_iff_eq.mp isf) (congrArg (Option.map _) (getLE R.noRef fd)) ?_
 exact Ac o2 (keeps_K kf) (S.go T1) y λk2 s2 vs2 T2 R2=>⟨T2.1.Fv,z S.1.Pe hm T2.1 (.cons (T2.vr T1.1 ⟨N1,rfl⟩) R2) λk3 s3 v3 T3 R3=>h _ _ _ (T1.trans (T2.trans T3)) R3⟩
theorem GI {cl:Nat} (TO:nL c T) (Pk:GH c T) (x:nP c T l L H vs H1) (i:T.P.init cl=some f) (y:wV c T f (.ref H1.length::vs) (H1++[.inst cl []]) .none H2):b_ c T (.new cl l) L H (.ref H1.length) H2:=by
 intro A r env nm pe k s Q E S ok h
 apply qT ok λn q as p ok=>?_
 apply oV ok λhn hg hr o1=>?_
 rw[i]at hr
 obtain⟨mg,kp,mk,lt⟩:=TO.13 _ _ (cJ hn)
 obtain⟨fi,ti⟩:=Pk.3 _ _ i
 refine wpAny_bind (S.3.glob S.2 hg mg ?_)
 refine Ac o1 (keeps_K kp) S x λk1 s1 DN T1 R1=>⟨T1.1.Fv,?_⟩
 have KI:=T1.1.Fv
 refine make_core (h:=s1.heap) (g:=s1.gens) (d:=s1.drawn) (t:=s1.toks) (os:=s1.os) (makes_of KI mk) (looks_findIn KI fi) (λself=>bind_fn KI self ti) (.inl rfl) ?_
 have e0:∀b o,s1.heap.get? b=some o->(s1.heap.push emptyDict).get? b=some o:=λb o e=>Heap.get?_push_of_some _ e
 have sz:(s1.heap.push emptyDict).objs.size=s1.heap.objs.size+1:=Heap.size_push ..
 have ha:s1.heap.get? (s1.heap.objs.size+1)=none:=by
  cases z:s1.heap.get? (s1.heap.objs.size+1)with
  |none=>rfl
  |some o=>exact absurd (Heap.lt_size z) (bG.mpr (gG _))
 have hd:=iq s1.heap
 have T2:=c8.add (t:=s1.toks) (a:=s1.heap.objs.size+1) (d:=s1.heap.objs.size) (o:=.inst cl []) (X:=NX) (c8.refl T1.1) T1.1 (λb o e=>Heap.get?_push_of_some (instObj (c.G.cl cl) s1.heap.objs.size) (e0 b o e)) (λb z=>by
   rcases z with rfl|⟨_,rfl⟩
   ·exact⟨ha,T1.1.xU ha,sz▸T1.1.nQ e0⟩
   ·exact⟨hd,T1.1.xU hd,T1.1.nQ λ_ _ e=>e⟩)
  ⟨lt,by rw[show(k1.add H1.length (s1.heap.objs.size+1) s1.heap.objs.size).ι H1.length=_ from if_pos rfl,show(k1.add H1.length (s1.heap.objs.size+1) s1.heap.objs.size).δ H1.length=_ from if_pos rfl,←sz];exact Heap.get?_push_size _ rfl,[],0,by rw[show(k1.add H1.length (s1.heap.objs.size+1) s1.heap.objs.size).δ H1.length=_ from if_pos rfl];exact Heap.get?_push_of_some _ (Heap.get?_push_size _ rfl),rfl⟩
 have AU:JM (A.under (.builtin "type.__call__" ⟨.ref (c.G.cl cl)::([]++DN),[]⟩)) r:=by
  obtain⟨l,hl⟩:=S.1.4
  have e:(Code.builtin "type.__call__" ⟨.ref (c.G.cl cl)::([]++DN),[]⟩).cUnits=1:=by kernel_rfl
  refine⟨S.1.1,?_,?_,l,hl⟩
  ·show A.depth+1+3*r+18<_;rw[dJ A.depth 1,dk _ 1 18];exact Ik S.1.2 (by decide)
  ·show A.units+(Code.builtin "type.__call__" ⟨.ref (c.G.cl cl)::([]++DN),[]⟩).cUnits+40*r+170<_;rw[e,dJ A.units 1,dk _ 1 170];exact Ik S.1.3 (by decide)
 have RS:VR c (k1.add H1.length (s1.heap.objs.size+1) s1.heap.objs.size) (H1++[O.inst cl []]) ((s1.heap.push emptyDict).push (instObj (c.G.cl cl) s1.heap.objs.size)) (.ref H1.length) (.ref (s1.heap.objs.size+1)):=.new rfl
 exact y AU hr T2.1 (.cons RS (dy.OQ T1.1 T2 R1)) λk3 s3 v3 T3 R3=>⟨R3,h _ _ _ (T1.trans (T2.trans T3)) (dy.vr T2.1 T3 RS)⟩
end
end
section
section
variable {c:Cx} {T:Tb} {L:Lc} {H H1 H2:Hp} {l:mw} {vs:List V}
theorem GJ (TO:nL c T) (Pk:GH c T) {kk:Nat} {fs:List (Nat×V)} (hl:L[0]?=some (some (.ref kk))) (g:H[kk]?=some (.inst T.P.wp fs)) (x:nP c T l L H vs H1) (y:wV c T T.P.sup (.ref kk::vs) H1 .none H2):qi c T (.sup l) L H .next L H2:=by
 intro A r env nm ps k s Q E c0 S ok Pl h
 apply Iu ok λe p' ok=>?_
 apply vh ok λo n ap as p hp ok=>?_
 apply oV ok λhn okc o1 hr=>?_
 cases cJ hn
 apply qT okc λx0 p0 m p1 O8=>?_
 apply iW O8 λhs hm=>?_
 cases cJ hs
 apply sP hm
 rcases Pl with z|⟨⟨body,rfl⟩,SO⟩
 ·exact ff z
 obtain⟨q,scope,L',f,s7,cc,D,rfl,SA⟩:=SO
 refine ks_wpAt_Expr_any ?_ (wQ S.3) rfl
 rw[arm_eval_Call]
 obtain⟨oc,od,fd,Gr,ar,hfn,har,JX⟩:=SA.1
 obtain⟨Lh,Lj,ws,N3,file,tf,DJ,hws,MM⟩:=SA.2
 obtain⟨Ph,O6,MB,DK⟩:=SA.3
 obtain⟨ccl',cdd',cdD,csl',hD⟩:=SA.4
 have KI:=S.2.Fv
 have hD1:=KI _ _ hD
 refine S.2.kO g λes n q0 R g1 g2 I=>?_
 have hx:nm[0]?=some (nm.getD 0 Str.empty):=by
  rw[aF,ao (S.3.2▸j0 hl)];rfl
 obtain⟨m,ns,hm⟩:∃m,s.heap.Ns L' m∧m ar.arg=some (.ref (k.ι kk)):=by
  obtain⟨m,ns,z⟩:=S.3.4
  obtain⟨v',p,rv⟩:=z 0 _ _ hx hl SA.8
  exact⟨m,ns,JX▸p.trans (congrArg some rv.2)⟩
 have ka:scope.names.lookup ar.arg=some .local:=JX▸SA.8
 have kd:scope.kind= .function:=S.3.1.1
 refine PySem.wpAt_bind (ks_wpAt_mono (ks_wpAt_super_base (Q:=λov s₁=>∀(u:Unit),wpAny (Md c) A (methodCall (.Call (.Name "super" p0) [] [] p1) "__init__" ap p (ksEnv q scope L' f (.ref s7) cc) ov (as.length+([]:List Keyword).length) (backTo p (starEach as (ksEnv q scope L' f (.ref s7) cc))) (backToKw p (keywordEach [] (ksEnv q scope L' f (.ref s7) cc)))) (λ_=>Q .next) E s₁) SA.6 SA.7 (by decide) rfl (KI _ _ hfn) rfl har rfl (KI _ _ DJ) rfl hws MM SA.9 ?_) (λov s₁ h₁=>cF (wpAny_bind (wpAny_standAt (h₁ ())))) (λ_ _ h=>h))
 refine ks_loadName_global kd SA.6 (loadGlobal_builtin (mg:=c.mg) (mb:=c.mb) (v:=.type "super") (c.T.g.keeps S.2.1) (TO.14 _ (by decide)) (c.T.b.keeps S.2.1) ((c.T.builtins _ (by decide)).trans (by decide+kernel)) ⟨rfl,?_⟩)
 refine wpAny_loadName_free kd SA.7 rfl ⟨_,KI _ _ DK,rfl⟩ ?_
 refine wpAny_loadName_local kd ka ns hm ?_
 refine ks_wpAny_isType_cls hD1 rfl ⟨rfl,?_⟩
 refine ks_wpAny_call_super hD1 rfl I.at_ I.cls (λc e=>nomatch e) (looks_mroIn KI SA.5) (λh' e ek _=>?_)
 have T0:=dy.keeps (h':=h') (t:=s.toks) S.2 ek
 have N6:=T0.1.Fv
 refine wF hp (noStar o1) λpl=>?_
 have SG:=SA.11
 unfold ks_superIn at SG
 cases hc:clsIn c.K (c.G.cl T.P.wp)with
 |none=>rw[hc]at SG;cases SG
 |some cd=>
 rw[hc]at SG
 obtain⟨of,hof,Pm⟩:∃of,h'.get? (c.G.fa T.P.sup)=some of∧of.cls= .type "function":=by
  have ht':(c.K.lookup (c.G.fa T.P.sup)).map (·.cls)=some (.type "function"):=SA.12
  obtain⟨of,z,e⟩:=bq.mp ht'
  exact⟨of,N6 _ _ z,e⟩
 refine ks_wpAny_getMethod_super e (looks_opaque N6 SA.10) (l₀:=cd.mro) ?_ rfl N6 SG hof Pm (ks_ne KI I hc) (by decide) ?_
 ·exact λA Q E s k q=>wpAny_bind ((looks_clsIn N6 hc) A _ E s k (wpAny_pure q))
 have T1:=dy.zK T0.1 (methodObj (.ref (c.G.fa T.P.sup)) (.ref (k.ι kk))) (s.toks+1)
 have hq:(h'.push (methodObj (.ref (c.G.fa T.P.sup)) (.ref (k.ι kk)))).get? h'.objs.size=some (methodObj (.ref (c.G.fa T.P.sup)) (.ref (k.ι kk))):=Heap.get?_push_at rfl rfl
 have fq:=(T0.1.xU (iq h')).ow
 refine Ac (P:=λh=>h.get? h'.objs.size=some (methodObj (.ref (c.G.fa T.P.sup)) (.ref (k.ι kk)))∧c.K.In h) o1 (keeps_M (q:=h'.objs.size) (self:=.ref (k.ι kk)) Pk.2) ((S.go T0).go T1) x λk1 s1 DN T2 R2=>⟨⟨T2.2.3 _ _ fq id hq,T2.1.Fv⟩,?_⟩
 refine ks_codeAny_call_bound (T2.2.3 _ _ fq id hq) ?_
 exact y (args:=.ref (k.ι kk)::DN) S.1.Pe hr T2.1 (.cons (T2.vr T1.1 ⟨j0 g,rfl⟩) R2) λk3 s3 v3 T3 R3=>h.MD S (T0.trans (T1.trans (T2.trans T3)))
end
end
end
noncomputable def JY:Fn:=⟨1,[],4,(.cons (.set (.v 1) (.list .nil)) (.cons (.set (.v 2) (.lit (.int 0))) (.cons (.set (.v 3) (.var 0)) (.cons (.while (.cmp .gt (.var 3) (.lit (.int 0))) (.cons (.ite (.cmp .eq (.bin .band (.var 3) (.lit (.int 1))) (.lit (.int 1))) (.cons (.expr (.append (.var 1) (.var 2))) .nil) .nil) (.cons (.set (.v 3) (.bin .shr (.var 3) (.lit (.int 1)))) (.cons (.set (.v 2) (.bin .add (.var 2) (.lit (.int 1)))) .nil)))) (.cons (.ret (.var 1)) .nil)))))⟩
noncomputable def q6:Fn:=⟨2,[],4,(.cons (.set (.v 2) (.list .nil)) (.cons (.for (.v 3) (.ex (.var 1)) (.cons (.ite (.and (.cons (.cmp .lt (.bA (.var 0) 0 31 (.cons (.var 3) .nil)) (.lit (.int 0))) (.cons (.cmp .ne (.bA (.var 0) 1 37 (.cons (.var 3) .nil)) (.lit (.int 0))) .nil))) (.cons (.expr (.append (.var 2) (.bA (.var 0) 1 37 (.cons (.var 3) .nil)))) .nil) .nil) .nil)) (.cons (.ret (.sorted (.var 2))) .nil)))⟩
noncomputable def yD:Fn:=⟨2,[],2,(.cons (.ret (.bA (.var 0) 2 34 (.cons (.bA (.var 0) 1 37 (.cons (.var 1) .nil)) (.cons (.bin .add (.bA (.var 0) 3 38 (.cons (.var 1) .nil)) (.lit (.int 1))) .nil)))) .nil)⟩
noncomputable def q7:Fn:=⟨2,[],6,(.cons (.set (.v 2) (.iM 0)) (.cons (.for (.v 3) (.ex (.var 1)) (.cons (.set (.v 4) (.bA (.var 0) 0 31 (.cons (.var 3) .nil))) (.cons (.ite (.cmp .ge (.var 4) (.lit (.int 0))) (.cons (.ite (.cmp .jJ (.var 4) (.var 2)) (.cons (.br (.var 2) (.var 4) (.list .nil)) .nil) .nil) (.cons (.expr (.append (.idx (.var 2) (.var 4)) (.call 2 (.cons (.var 0) (.cons (.var 3) .nil))))) .nil)) .nil) .nil))) (.cons (.set (.v 5) (.iM 0)) (.cons (.for (.v 4) (.ex (.sorted (.var 2))) (.cons (.br (.var 5) (.var 4) (.tupleOf (.sorted (.idx (.var 2) (.var 4))))) .nil)) (.cons (.ret (.var 5)) .nil)))))⟩
noncomputable def vC:Fn:=⟨1,[],4,(.cons (.set (.v 1) (.listOf (.var 0))) (.cons (.for (.v 2) (.range (.len (.var 1))) (.cons (.for (.v 3) (.range (.len (.var 1))) (.cons (.ite (.cmp .eq (.bin .band (.bin .shr (.idx (.var 1) (.var 3)) (.var 2)) (.lit (.int 1))) (.lit (.int 1))) (.cons (.br (.var 1) (.var 3) (.bin .bor (.idx (.var 1) (.var 3)) (.idx (.var 1) (.var 2)))) .nil) .nil) .nil)) .nil)) (.cons (.ret (.var 1)) .nil)))⟩
noncomputable def GK:Fn:=⟨1,[],1,(.cons (.ret (.bA (.new 2 (.cons (.var 0) .nil)) 4 40 .nil)) .nil)⟩
noncomputable def Bb:Fn:=⟨3,[],3,(.cons (.ite (.cmp .lt (.var 1) (.len (.var 0))) (.cons (.ret (.bin .mod (.intOf (.idx (.var 0) (.var 1))) (.var 2))) .nil) .nil) (.cons (.ret (.bin .mod (.bin .add (.bin .fdiv (.bin .mul (.var 1) (.bin .add (.var 1) (.lit (.int 1)))) (.lit (.int 2))) (.sum (.sL (.var 0) (.lit (.int 40))))) (.var 2))) .nil))⟩
noncomputable def td:Fn:=⟨2,[],10,(.cons (.set (.v 2) (.list (.cons (.new 5 (.cons (.lit (.int 0)) (.cons (.lit (.int 5)) (.cons (.tup (.cons (.lit (.int 6)) (.cons (.lit (.int 0)) .nil))) .nil)))) .nil))) (.cons (.for (.p 3 4) (.ex (.var 1)) (.cons (.set (.v 5) (.comp [] (.var 0) (.ex (.var 4)) (.cons (.cmp .lt (.var 0) (.lit (.int 5))) .nil))) (.cons (.expr (.append (.var 2) (.new 5 (.cons (.len (.var 2)) (.cons (.var 3) (.cons (.var 4) (.cons (.ite (.cmp .ne (.var 5) (.list .nil)) (.idx (.var 5) (.neg (.lit (.int 1)))) (.neg (.lit (.int 1)))) .nil))))))) .nil))) (.cons (.set (.v 6) (.iM 0)) (.cons (.for (.v 7) (.ex (.tup (.cons (.lit (.int 3)) (.cons (.lit (.int 4)) .nil)))) (.cons (.set (.v 8) (.call 6 (.cons (.var 0) (.cons (.bin .add (.lit (.int 24)) (.var 7)) (.cons (.lit (.int 3)) .nil))))) (.cons (.ite (.cmp .gt (.var 8) (.lit (.int 0))) (.cons (.br (.var 6) (.var 7) (.tup (.cons (.var 8) (.cons (.idx (.tup (.cons (.lit (.str 0)) (.cons (.lit (.str 1)) (.cons (.lit (.str 2)) (.cons (.lit (.str 3)) .nil))))) (.call 6 (.cons (.var 0) (.cons (.bin .add (.lit (.int 28)) (.var 8)) (.cons (.lit (.int 4)) .nil))))) .nil)))) .nil) .nil) .nil))) (.cons (.set (.v 9) (.list (.cons (.lit (.str 4)) (.cons (.lit (.str 5)) (.cons (.lit (.str 6)) (.cons (.lit (.str 7)) (.cons (.lit (.str 8)) (.cons (.lit (.str 9)) (.cons (.lit (.str 10)) (.cons (.lit (.str 11)) .nil)))))))))) (.cons (.ret (.new 4 (.cons (.var 9) (.cons (.lit (.int 5)) (.cons (.var 2) (.cons (.var 6) (.cons (.lit .none) (.cons (.lit (.int 6)) .nil)))))))) .nil))))))⟩
noncomputable def DQ:Fn:=⟨2,[],12,(.cons (.set (.v 2) (.listOf (.var 1))) (.cons (.set (.v 3) (.list .nil)) (.cons (.set (.v 4) (.comp [] (.list .nil) (.ex (.var 2)) .nil)) (.cons (.set (.v 5) (.list .nil)) (.cons (.for (.v 6) (.ex (.attr (.var 0) 5)) (.cons (.set (.v 7) (.lit (.int 0))) (.cons (.for (.v 8) (.ex (.attr (.var 6) 6)) (.cons (.ite (.not (.idx (.var 2) (.var 8))) (.cons (.set (.v 7) (.bin .add (.var 7) (.lit (.int 1)))) (.cons (.expr (.append (.idx (.var 4) (.var 8)) (.attr (.var 6) 7))) .nil)) .nil) .nil)) (.cons (.expr (.append (.var 3) (.var 7))) .nil)))) (.cons (.for (.v 6) (.ex (.attr (.var 0) 5)) (.cons (.ite (.and (.cons (.cmp .eq (.idx (.var 3) (.attr (.var 6) 7)) (.lit (.int 0))) (.cons (.not (.idx (.var 2) (.attr (.var 6) 8))) .nil))) (.cons (.br (.var 2) (.attr (.var 6) 8) (.lit (.bool true))) (.cons (.expr (.append (.var 5) (.attr (.var 6) 8))) .nil)) .nil) .nil)) (.cons (.set (.v 9) (.lit (.int 0))) (.cons (.while (.cmp .lt (.var 9) (.len (.var 5))) (.cons (.for (.v 10) (.ex (.idx (.var 4) (.idx (.var 5) (.var 9)))) (.cons (.br (.var 3) (.var 10) (.bin .sub (.idx (.var 3) (.var 10)) (.lit (.int 1)))) (.cons (.set (.v 11) (.attr (.idx (.attr (.var 0) 5) (.var 10)) 8)) (.cons (.ite (.and (.cons (.cmp .eq (.idx (.var 3) (.var 10)) (.lit (.int 0))) (.cons (.not (.idx (.var 2) (.var 11))) .nil))) (.cons (.br (.var 2) (.var 11) (.lit (.bool true))) (.cons (.expr (.append (.var 5) (.var 11))) .nil)) .nil) .nil)))) (.cons (.set (.v 9) (.bin .add (.var 9) (.lit (.int 1)))) .nil))) (.cons (.ret (.var 2)) .nil)))))))))⟩
noncomputable def yE:Fn:=⟨1,[],1,(.cons (.ret (.call 8 (.cons (.var 0) (.cons (.bin .mul (.list (.cons (.lit (.bool false)) .nil)) (.bA (.var 0) 9 41 .nil)) .nil)))) .nil)⟩
noncomputable def yF:Fn:=⟨2,[],2,(.cons (.ite (.cmp .jJ (.var 1) (.var 0)) (.cons (.expr (.append (.var 0) (.var 1))) .nil) .nil) .nil)⟩
noncomputable def Bc:Fn:=⟨3,[],13,(.cons (.set (.v 3) (.listOf (.var 2))) (.cons (.set (.v 4) (.bin .mul (.list (.cons (.lit (.int 0)) .nil)) (.var 0))) (.cons (.set (.v 5) (.bin .add (.var 0) (.lit (.int 1)))) (.cons (.set (.v 6) (.list .nil)) (.cons (.for (.v 7) (.range (.var 0)) (.cons (.ite (.cmp .ne (.idx (.var 4) (.var 7)) (.lit (.int 0))) (.cons .cont .nil) .nil) (.cons (.expr (.append (.var 6) (.var 7))) (.cons (.br (.var 4) (.var 7) (.len (.var 6))) (.cons (.set (.v 8) (.list (.cons (.list (.cons (.var 7) (.cons (.len (.var 6)) (.cons (.lit (.int 0)) .nil)))) .nil))) (.cons (.while (.var 8) (.cons (.set (.v 9) (.idx (.var 8) (.neg (.lit (.int 1))))) (.cons (.set (.v 10) (.idx (.var 9) (.lit (.int 0)))) (.cons (.ite (.cmp .lt (.idx (.var 9) (.lit (.int 2))) (.len (.idx (.var 1) (.var 10)))) (.cons (.set (.v 11) (.idx (.idx (.var 1) (.var 10)) (.idx (.var 9) (.lit (.int 2))))) (.cons (.ite (.cmp .eq (.idx (.var 4) (.var 11)) (.lit (.int 0))) (.cons (.expr (.append (.var 6) (.var 11))) (.cons (.br (.var 4) (.var 11) (.len (.var 6))) (.cons (.expr (.append (.var 8) (.list (.cons (.var 11) (.cons (.len (.var 6)) (.cons (.lit (.int 0)) .nil)))))) (.cons .cont .nil)))) .nil) (.cons (.br (.var 9) (.lit (.int 2)) (.bin .add (.idx (.var 9) (.lit (.int 2))) (.lit (.int 1)))) (.cons (.ite (.cmp .lt (.idx (.var 4) (.var 11)) (.idx (.var 4) (.var 10))) (.cons (.br (.var 4) (.var 10) (.idx (.var 4) (.var 11))) .nil) .nil) (.cons (.br (.var 3) (.var 10) (.bin .bor (.idx (.var 3) (.var 10)) (.idx (.var 3) (.var 11)))) (.cons .cont .nil)))))) .nil) (.cons (.expr (.pop (.var 8))) (.cons (.ite (.cmp .eq (.idx (.var 4) (.var 10)) (.idx (.var 9) (.lit (.int 1)))) (.cons (.set (.v 12) (.neg (.lit (.int 1)))) (.cons (.while (.cmp .ne (.var 12) (.var 10)) (.cons (.set (.v 12) (.pop (.var 6))) (.cons (.br (.var 4) (.var 12) (.var 5)) (.cons (.br (.var 3) (.var 12) (.idx (.var 3) (.var 10))) .nil)))) .nil)) .nil) .nil)))))) .nil)))))) (.cons (.ret (.var 3)) .nil))))))⟩
noncomputable def vD:Fn:=⟨1,[],1,(.cons (.ret (.attr (.new 6 (.cons (.var 0) .nil)) 10)) .nil)⟩
noncomputable def yG:Fn:=⟨3,[],5,(.cons (.set (.v 3) (.lit (.int 0))) (.cons (.for (.v 4) (.ex (.var 0)) (.cons (.set (.v 3) (.bin .bor (.var 3) (.idx (.var 2) (.var 4)))) (.cons (.ite (.not (.idx (.var 1) (.var 4))) (.cons (.ret (.tup (.cons (.var 3) (.cons (.lit (.bool false)) .nil)))) .nil) .nil) .nil))) (.cons (.ret (.tup (.cons (.var 3) (.cons (.lit (.bool true)) .nil)))) .nil)))⟩
noncomputable def ui:Fn:=⟨1,[],7,(.cons (.set (.v 1) (.call 9 (.cons (.var 0) .nil))) (.cons (.set (.v 2) (.list .nil)) (.cons (.for (.v 3) (.range (.bA (.var 0) 9 41 .nil)) (.cons (.expr (.append (.var 2) (.ite (.bA (.var 0) 11 46 (.cons (.var 3) .nil)) (.bin .shl (.lit (.int 1)) (.var 3)) (.lit (.int 0))))) .nil)) (.cons (.set (.v 4) (.lit (.bool true))) (.cons (.while (.var 4) (.cons (.set (.v 4) (.lit (.bool false))) (.cons (.for (.v 5) (.ex (.attr (.var 0) 5)) (.cons (.set (.v 6) (.bin .bor (.idx (.var 2) (.attr (.var 5) 8)) (.idx (.call 13 (.cons (.attr (.var 5) 6) (.cons (.var 1) (.cons (.var 2) .nil)))) (.lit (.int 0))))) (.cons (.ite (.cmp .ne (.var 6) (.idx (.var 2) (.attr (.var 5) 8))) (.cons (.br (.var 2) (.attr (.var 5) 8) (.var 6)) (.cons (.set (.v 4) (.lit (.bool true))) .nil)) .nil) .nil))) .nil))) (.cons (.ret (.var 2)) .nil))))))⟩
noncomputable def tg:Fn:=⟨1,[],8,(.cons (.set (.v 1) (.call 9 (.cons (.var 0) .nil))) (.cons (.set (.v 2) (.call 14 (.cons (.var 0) .nil))) (.cons (.set (.v 3) (.bin .mul (.list (.cons (.lit (.int 0)) .nil)) (.bA (.var 0) 9 41 .nil))) (.cons (.set (.v 4) (.lit (.bool true))) (.cons (.while (.var 4) (.cons (.set (.v 4) (.lit (.bool false))) (.cons (.for (.v 5) (.ex (.attr (.var 0) 5)) (.cons (.set (.v 6) (.idx (.var 3) (.attr (.var 5) 8))) (.cons (.for (.v 7) (.rev (.attr (.var 5) 6)) (.cons (.ite (.bA (.var 0) 11 46 (.cons (.var 7) .nil)) (.cons (.set (.v 6) (.idx (.var 2) (.var 7))) (.cons .cont .nil)) .nil) (.cons (.ite (.cmp .ne (.bin .bor (.idx (.var 3) (.var 7)) (.var 6)) (.idx (.var 3) (.var 7))) (.cons (.br (.var 3) (.var 7) (.bin .bor (.idx (.var 3) (.var 7)) (.var 6))) (.cons (.set (.v 4) (.lit (.bool true))) .nil)) .nil) (.cons (.set (.v 6) (.ite (.idx (.var 1) (.var 7)) (.bin .bor (.var 6) (.idx (.var 2) (.var 7))) (.idx (.var 2) (.var 7)))) .nil)))) .nil))) .nil))) (.cons (.ret (.var 3)) .nil))))))⟩
noncomputable def wX:Fn:=⟨1,[],5,(.cons (.set (.v 1) (.call 15 (.cons (.attr (.var 0) 12) .nil))) (.cons (.set (.v 2) (.iM 1)) (.cons (.for (.v 3) (.ex (.attr (.var 0) 13)) (.cons (.for (.v 4) (.ex (.attr (.var 3) 14)) (.cons (.br (.var 2) (.tup (.cons (.attr (.var 3) 7) (.cons (.var 4) .nil))) (.idx (.var 1) (.attr (.idx (.attr (.attr (.var 0) 12) 5) (.var 4)) 8))) .nil)) .nil)) (.cons (.ret (.var 2)) .nil))))⟩
noncomputable def DR:Fn:=⟨3,[],5,(.cons (.set (.v 3) (.u9 (.attr (.var 0) 15) (.attr (.idx (.attr (.var 0) 5) (.var 1)) 16))) (.cons (.set (.v 4) (.u9 (.attr (.var 0) 15) (.var 2))) (.cons (.ite (.or (.cons (.cmp .is (.var 3) (.lit .none)) (.cons (.cmp .is (.var 4) (.lit .none)) .nil))) (.cons (.ret (.lit .none)) .nil) .nil) (.cons (.ite (.cmp .gt (.idx (.var 3) (.lit (.int 0))) (.idx (.var 4) (.lit (.int 0)))) (.cons (.ret (.lit (.str 12))) .nil) .nil) (.cons (.ite (.cmp .lt (.idx (.var 3) (.lit (.int 0))) (.idx (.var 4) (.lit (.int 0)))) (.cons (.ret (.lit (.str 13))) .nil) .nil) (.cons (.ite (.cmp .eq (.idx (.var 4) (.lit (.int 1))) (.lit (.str 0))) (.cons (.ret (.lit (.str 12))) .nil) .nil) (.cons (.ite (.cmp .eq (.idx (.var 4) (.lit (.int 1))) (.lit (.str 1))) (.cons (.ret (.lit (.str 13))) .nil) .nil) (.cons (.ite (.cmp .eq (.idx (.var 4) (.lit (.int 1))) (.lit (.str 2))) (.cons (.ret (.lit (.str 14))) .nil) .nil) (.cons (.ret (.lit .none)) .nil)))))))))⟩
noncomputable def vE:Fn:=⟨1,[],5,(.cons (.ite (.cmp .gt (.idx (.var 0) (.lit (.int 1))) (.lit (.int 0))) (.cons (.ret (.lit (.int 0))) .nil) .nil) (.cons (.set (.v 1) (.iM 0)) (.cons (.for (.v 2) (.ex (.var 0)) (.cons (.ite (.rV .lt .lt (.lit (.int (-1048576))) (.var 2) (.lit (.int 0))) (.cons (.br (.var 1) (.neg (.var 2)) (.bin .add (.qP (.var 1) (.neg (.var 2)) (.lit (.int 0))) (.lit (.int 1)))) .nil) .nil) .nil)) (.cons (.set (.v 3) (.lit (.int 0))) (.cons (.for (.v 4) (.ex (.sorted (.var 1))) (.cons (.ite (.or (.cons (.cmp .eq (.var 3) (.lit (.int 0))) (.cons (.cmp .gt (.idx (.var 1) (.var 4)) (.idx (.var 1) (.var 3))) .nil))) (.cons (.set (.v 3) (.var 4)) .nil) .nil) .nil)) (.cons (.ret (.var 3)) .nil))))))⟩
noncomputable def Bd:Fn:=⟨2,[],2,(.cons (.ret (.comp [1] (.ite (.cmp .eq (.var 1) (.neg (.var 0))) (.lit (.int 0)) (.var 1)) (.ex (.var 0)) .nil)) .nil)⟩
noncomputable def JZ:Fn:=⟨4,[(.str 15)],13,(.cons (.set (.v 4) (.list .nil)) (.cons (.set (.v 5) (.list .nil)) (.cons (.set (.v 6) (.list .nil)) (.cons (.set (.v 7) (.list .nil)) (.cons (.set (.v 8) (.list .nil)) (.cons (.for (.v 9) (.ex (.attr (.var 0) 13)) (.cons (.set (.v 10) (.new 8 (.cons (.attr (.var 0) 12) (.cons (.var 9) (.cons (.var 1) .nil))))) (.cons (.expr (.bA (.var 10) 17 60 .nil)) (.cons (.set (.v 11) (.bA (.var 10) 18 61 .nil)) (.cons (.expr (.extend (.var 7) (.bA (.var 10) 19 62 (.cons (.var 11) .nil)))) (.cons (.expr (.extend (.var 8) (.attr (.var 10) 20))) (.cons (.set (.v 12) (.lit (.int 0))) (.cons (.ite (.var 2) (.cons (.set (.v 12) (.call 18 (.cons (.var 11) .nil))) .nil) .nil) (.cons (.ite (.cmp .ne (.var 12) (.lit (.int 0))) (.cons (.set (.v 11) (.call 19 (.cons (.var 11) (.cons (.var 12) .nil)))) .nil) .nil) (.cons (.expr (.append (.var 4) (.var 11))) (.cons (.expr (.append (.var 5) (.attr (.var 10) 21))) (.cons (.expr (.append (.var 6) (.var 12))) .nil)))))))))))) (.cons (.ret (.new 7 (.cons (.attr (.var 0) 12) (.cons (.var 4) (.cons (.var 5) (.cons (.var 6) (.cons (.var 7) (.cons (.var 8) (.cons (.var 3) .nil))))))))) .nil)))))))⟩
noncomputable def wY:Fn:=⟨4,[],4,(.cons (.ret (.tupleOf (.comp [3,0,1] (.idx (.var 0) (.call 6 (.cons (.var 1) (.cons (.bin .add (.var 2) (.var 3)) (.cons (.len (.var 0)) .nil))))) (.range (.var 2)) .nil))) .nil)⟩
noncomputable def vF:Fn:=⟨1,[],2,(.cons (.set (.v 1) (.list (.cons (.tup (.cons (.lit (.int 6)) (.cons (.call 21 (.cons (.var 0) (.cons (.lit (.int 6)) (.cons (.bin .add (.lit (.int 1)) (.call 6 (.cons (.var 0) (.cons (.lit (.int 5)) (.cons (.lit (.int 3)) .nil))))) (.cons (.list (.cons (.lit (.int 7)) (.cons (.lit (.int 3)) (.cons (.lit (.int 4)) .nil)))) .nil))))) .nil))) .nil))) (.cons (.expr (.append (.var 1) (.tup (.cons (.lit (.int 6)) (.cons (.call 21 (.cons (.var 0) (.cons (.lit (.int 10)) (.cons (.call 6 (.cons (.var 0) (.cons (.lit (.int 9)) (.cons (.lit (.int 4)) .nil)))) (.cons (.list (.cons (.lit (.int 6)) (.cons (.lit (.int 7)) (.cons (.lit (.int 3)) (.cons (.lit (.int 4)) .nil))))) .nil))))) .nil))))) (.cons (.expr (.append (.var 1) (.tup (.cons (.lit (.int 7)) (.cons (.call 21 (.cons (.var 0) (.cons (.lit (.int 3)) (.cons (.call 6 (.cons (.var 0) (.cons (.lit (.int 2)) (.cons (.lit (.int 3)) .nil)))) (.cons (.list (.cons (.lit (.int 3)) (.cons (.lit (.int 4)) .nil))) .nil))))) .nil))))) (.cons (.expr (.append (.var 1) (.tup (.cons (.lit (.int 7)) (.cons (.call 21 (.cons (.var 0) (.cons (.lit (.int 14)) (.cons (.call 6 (.cons (.var 0) (.cons (.lit (.int 13)) (.cons (.lit (.int 4)) .nil)))) (.cons (.list (.cons (.lit (.int 6)) (.cons (.lit (.int 7)) (.cons (.lit (.int 3)) (.cons (.lit (.int 4)) .nil))))) .nil))))) .nil))))) (.cons (.ret (.var 1)) .nil)))))⟩
noncomputable def q8:Fn:=⟨2,[],5,(.cons (.for (.v 2) (.range (.bA (.var 0) 22 63 .nil)) (.cons (.set (.v 3) (.bA (.var 1) 23 64 (.cons (.var 2) .nil))) (.cons (.set (.v 4) (.comp [2,0] (.bA (.var 1) 24 65 (.cons (.var 0) (.cons (.var 2) .nil))) (.range (.lit (.int 5))) .nil)) (.cons (.ite (.cmp .ne (.comp [2,1] (.bA (.var 1) 24 65 (.cons (.var 0) (.cons (.var 2) .nil))) (.range (.lit (.int 5))) .nil) (.comp [3] (.ite (.and (.cons (.cmp .ne (.var 0) (.lit (.int 0))) (.cons (.cmp .eq (.var 1) (.neg (.var 0))) .nil))) (.lit (.int 0)) (.var 1)) (.ex (.var 4)) .nil)) (.cons (.ret (.lit (.bool false))) .nil) .nil) (.cons (.ite (.or (.cons (.cmp .ne (.bA (.var 0) 23 64 (.cons (.var 2) .nil)) (.lit (.int 0))) (.cons (.cmp .ne (.bA (.var 1) 25 66 (.cons (.var 2) .nil)) (.and (.cons (.cmp .ne (.var 3) (.lit (.int 0))) (.cons (.cmp .eq (.comp [3] (.var 1) (.ex (.var 4)) (.cons (.cmp .jJ (.var 1) (.tup (.cons (.lit (.int 0)) (.cons (.neg (.var 0)) .nil)))) .nil)) (.list .nil)) .nil)))) .nil))) (.cons (.ret (.lit (.bool false))) .nil) .nil) (.cons (.ite (.and (.cons (.cmp .eq (.var 3) (.lit (.int 0))) (.cons (.cmp .le (.idx (.var 4) (.lit (.int 1))) (.lit (.int 0))) (.cons (.cmp .ne (.comp [] (.var 0) (.ex (.var 4)) (.cons (.rV .lt .lt (.neg (.lit (.int 100))) (.var 0) (.lit (.int 0))) .nil)) (.list .nil)) .nil)))) (.cons (.ret (.lit (.bool false))) .nil) .nil) .nil)))))) (.cons (.ret (.lit (.bool true))) .nil))⟩
noncomputable def vG:Fn:=⟨4,[],9,(.cons (.set (.v 4) (.var 1)) (.cons (.for (.v 5) (.range (.var 3)) (.cons (.set (.v 6) (.bA (.var 0) 26 67 (.cons (.idx (.var 4) (.neg (.lit (.int 1)))) (.cons (.var 2) .nil)))) (.cons (.ite (.cmp .ge (.var 6) (.lit (.int 0))) (.cons (.ret (.cmp .gt (.var 6) (.lit (.int 0)))) .nil) .nil) (.cons (.set (.v 7) (.bA (.var 0) 27 68 (.cons (.neg (.var 6)) .nil))) (.cons (.ite (.cmp .ge (.var 7) (.len (.var 4))) (.cons (.ret (.lit (.bool false))) .nil) .nil) (.cons (.set (.v 4) (.sL (.var 4) (.bin .sub (.len (.var 4)) (.var 7)))) (.cons (.set (.v 8) (.bA (.var 0) 28 69 (.cons (.idx (.var 4) (.neg (.lit (.int 1)))) (.cons (.bA (.var 0) 8 70 (.cons (.neg (.var 6)) .nil)) .nil)))) (.cons (.ite (.cmp .lt (.var 8) (.lit (.int 0))) (.cons (.ret (.lit (.bool false))) .nil) .nil) (.cons (.expr (.append (.var 4) (.var 8))) .nil))))))))) (.cons (.ret (.lit (.bool false))) .nil)))⟩
noncomputable def q9:Fn:=⟨3,[],5,(.cons (.set (.v 3) (.list .nil)) (.cons (.for (.v 4) (.range (.attr (.var 0) 29)) (.cons (.ite (.and (.cons (.cmp .ne (.var 4) (.lit (.int 1))) (.cons (.cmp .ne (.var 4) (.lit (.int 2))) (.cons (.call 24 (.cons (.var 0) (.cons (.var 1) (.cons (.var 4) (.cons (.var 2) .nil))))) .nil)))) (.cons (.expr (.append (.var 3) (.var 4))) .nil) .nil) .nil)) (.cons (.ret (.var 3)) .nil)))⟩
noncomputable def uj:Fn:=⟨3,[],6,(.cons (.set (.v 3) (.listOf (.var 1))) (.cons (.for (.v 4) (.range (.lit (.int 60))) (.cons (.set (.v 5) (.bA (.var 0) 26 67 (.cons (.idx (.var 3) (.neg (.lit (.int 1)))) (.cons (.var 2) .nil)))) (.cons (.ite (.cmp .gt (.var 5) (.lit (.int 0))) (.cons (.ret (.bin .add (.var 3) (.list (.cons (.var 5) .nil)))) .nil) .nil) (.cons (.ite (.or (.cons (.cmp .eq (.var 5) (.lit (.int 0))) (.cons (.cmp .ge (.bA (.var 0) 27 68 (.cons (.neg (.var 5)) .nil)) (.len (.var 3))) .nil))) (.cons (.ret (.lit .none)) .nil) .nil) (.cons (.set (.v 3) (.sL (.var 3) (.bin .sub (.len (.var 3)) (.bA (.var 0) 27 68 (.cons (.neg (.var 5)) .nil))))) (.cons (.expr (.append (.var 3) (.bA (.var 0) 28 69 (.cons (.idx (.var 3) (.neg (.lit (.int 1)))) (.cons (.bA (.var 0) 8 70 (.cons (.neg (.var 5)) .nil)) .nil))))) .nil)))))) (.cons (.ret (.lit (.str 16))) .nil)))⟩
noncomputable def MN:Fn:=⟨1,[],13,(.cons (.set (.v 1) (.call 5 (.cons (.call 7 (.cons (.var 0) (.cons (.call 22 (.cons (.var 0) .nil)) .nil))) .nil))) (.cons (.set (.v 2) (.ite (.cmp .eq (.call 6 (.cons (.var 0) (.cons (.lit (.int 0)) (.cons (.lit (.int 2)) .nil)))) (.lit (.int 0))) (.call 12 (.cons (.var 1) .nil)) (.call 16 (.cons (.var 1) .nil)))) (.cons (.set (.p 3 4) (.tup (.cons (.call 20 (.cons (.var 1) (.cons (.var 2) (.cons (.lit (.bool false)) .nil)))) (.cons (.call 20 (.cons (.var 1) (.cons (.var 2) (.cons (.lit (.bool true)) .nil)))) .nil)))) (.cons (.for (.p 5 6) (.ex (.tup (.cons (.tup (.cons (.attr (.var 3) 19) (.cons (.attr (.var 4) 19) .nil))) (.cons (.tup (.cons (.attr (.var 3) 20) (.cons (.attr (.var 4) 20) .nil))) .nil)))) (.cons (.ite (.cmp .ne (.comp [] (.bA (.var 0) 30 71 .nil) (.ex (.var 5)) .nil) (.comp [] (.bA (.var 0) 30 71 .nil) (.ex (.var 6)) .nil)) (.cons (.ret (.lit (.bool false))) .nil) .nil) .nil)) (.cons (.ite (.or (.cons (.cmp .ne (.attr (.var 3) 21) (.attr (.var 4) 21)) (.cons (.not (.call 23 (.cons (.var 3) (.cons (.var 4) .nil)))) .nil))) (.cons (.ret (.lit (.bool false))) .nil) .nil) (.cons (.set (.v 7) (.list (.cons (.lit (.int 0)) .nil))) (.cons (.for (.v 8) (.range (.lit (.int 6))) (.cons (.ite (.cmp .ne (.call 25 (.cons (.var 3) (.cons (.var 7) (.cons (.lit (.int 30)) .nil)))) (.call 25 (.cons (.var 4) (.cons (.var 7) (.cons (.lit (.int 30)) .nil))))) (.cons (.ret (.lit (.bool false))) .nil) .nil) (.cons (.set (.v 9) (.comp [3,7] (.var 2) (.ex (.tup (.cons (.lit (.int 0)) (.cons (.lit (.int 3)) (.cons (.lit (.int 4)) .nil))))) (.cons (.call 24 (.cons (.var 0) (.cons (.var 1) (.cons (.var 2) (.cons (.lit (.int 30)) .nil))))) .nil))) (.cons (.set (.v 10) (.call 6 (.cons (.var 0) (.cons (.bin .add (.lit (.int 18)) (.var 8)) (.cons (.lit (.int 12)) .nil))))) (.cons (.set (.v 11) (.ite (.and (.cons (.cmp .gt (.bin .mod (.var 10) (.lit (.int 3))) (.lit (.int 0))) (.cons (.cmp .ne (.var 9) (.list .nil)) .nil))) (.var 9) (.list (.cons (.lit (.int 3)) (.cons (.lit (.int 4)) (.cons (.lit (.int 0)) (.cons (.lit (.int 2)) .nil))))))) (.cons (.set (.v 12) (.idx (.var 11) (.bin .mod (.bin .fdiv (.var 10) (.lit (.int 3))) (.len (.var 11))))) (.cons (.set (.p 5 6) (.tup (.cons (.call 26 (.cons (.var 3) (.cons (.var 7) (.cons (.var 12) .nil)))) (.cons (.call 26 (.cons (.var 4) (.cons (.var 7) (.cons (.var 12) .nil)))) .nil)))) (.cons (.ite (.and (.cons (.cmp .ne (.var 5) (.var 6)) (.cons (.or (.cons (.cmp .yd (.var 5) (.lit .none)) (.cons (.cmp .ne (.var 6) (.lit (.str 16))) .nil))) .nil))) (.cons (.ret (.lit (.bool false))) .nil) .nil) (.cons (.ite (.or (.cons (.cmp .is (.var 5) (.lit .none)) (.cons (.cmp .eq (.var 5) (.lit (.str 16))) (.cons (.cmp .eq (.idx (.var 5) (.neg (.lit (.int 1)))) (.lit (.int 1048576))) .nil)))) (.cons (.ret (.lit (.bool true))) .nil) .nil) (.cons (.set (.v 7) (.var 5)) .nil)))))))))) (.cons (.ret (.lit (.bool true))) .nil))))))))⟩
noncomputable def tj:Fn:=⟨4,[],4,(.cons (.setattr (.var 0) 7 (.var 1)) (.cons (.setattr (.var 0) 31 (.var 2)) (.cons (.setattr (.var 0) 32 (.var 3)) (.cons (.setattr (.var 0) 33 (.list .nil)) (.cons (.setattr (.var 0) 34 (.iM 0)) (.cons (.setattr (.var 0) 14 (.list .nil)) .nil))))))⟩
noncomputable def oY:Fn:=⟨3,[],3,(.cons (.ite (.cmp .jJ (.var 1) (.attr (.var 0) 35)) (.cons (.br (.attr (.var 0) 35) (.var 1) (.len (.attr (.var 0) 13))) (.cons (.expr (.append (.attr (.var 0) 13) (.new 0 (.cons (.len (.attr (.var 0) 13)) (.cons (.var 1) (.cons (.var 2) .nil)))))) .nil)) .nil) (.cons (.ret (.idx (.attr (.var 0) 35) (.var 1))) .nil))⟩
noncomputable def q_:Fn:=⟨3,[],3,(.cons (.setattr (.var 0) 12 (.var 1)) (.cons (.setattr (.var 0) 13 (.var 2)) .nil))⟩
noncomputable def rW:Fn:=⟨2,[],4,(.cons (.set (.v 2) (.attr (.idx (.attr (.var 0) 5) (.idx (.attr (.var 0) 36) (.var 1))) 6)) (.cons (.set (.v 3) (.bin .sub (.var 1) (.idx (.attr (.var 0) 37) (.idx (.attr (.var 0) 36) (.var 1))))) (.cons (.ret (.ite (.cmp .lt (.var 3) (.len (.var 2))) (.idx (.var 2) (.var 3)) (.neg (.lit (.int 1))))) .nil)))⟩
noncomputable def rX:Fn:=⟨2,[],5,(.cons (.set (.v 2) (.lit (.int 0))) (.cons (.for (.v 3) (.ex (.var 1)) (.cons (.set (.v 4) (.bA (.attr (.var 0) 12) 0 31 (.cons (.var 3) .nil))) (.cons (.ite (.cmp .ge (.var 4) (.lit (.int 0))) (.cons (.set (.v 2) (.bin .bor (.bin .bor (.var 2) (.bin .shl (.lit (.int 1)) (.var 4))) (.idx (.attr (.var 0) 38) (.var 4)))) .nil) .nil) .nil))) (.cons (.ret (.var 2)) .nil)))⟩
noncomputable def pL:Fn:=⟨2,[],2,(.cons (.ret (.listOf (.idx (.attr (.var 0) 39) (.var 1)))) .nil)⟩
noncomputable def tm:Fn:=⟨3,[],3,(.cons (.ret (.bin .add (.idx (.attr (.var 0) 37) (.var 1)) (.var 2))) .nil)⟩
noncomputable def tn:Fn:=⟨2,[],6,(.cons (.set (.v 2) (.list .nil)) (.cons (.for (.v 3) (.ex (.call 0 (.cons (.bA (.var 0) 40 32 (.cons (.var 1) .nil)) .nil))) (.cons (.for (.v 4) (.ex (.bA (.attr (.var 0) 12) 41 33 (.cons (.var 3) .nil))) (.cons (.set (.v 5) (.bA (.attr (.var 0) 12) 2 34 (.cons (.var 4) (.cons (.lit (.int 0)) .nil)))) (.cons (.ite (.cmp .jJ (.var 5) (.var 1)) (.cons (.expr (.append (.var 2) (.var 5))) .nil) .nil) .nil))) .nil)) (.cons (.ret (.sorted (.var 2))) .nil)))⟩
noncomputable def tp:Fn:=⟨2,[],2,(.cons (.ret (.bin .add (.sorted (.var 1)) (.bA (.var 0) 42 35 (.cons (.var 1) .nil)))) .nil)⟩
noncomputable def qk:Fn:=⟨2,[],2,(.cons (.ret (.idx (.attr (.var 0) 36) (.var 1))) .nil)⟩
noncomputable def re:Fn:=⟨2,[],2,(.cons (.ret (.bin .sub (.var 1) (.idx (.attr (.var 0) 37) (.idx (.attr (.var 0) 36) (.var 1))))) .nil)⟩
noncomputable def rg:Fn:=⟨2,[],4,(.cons (.setattr (.var 1) 33 (.bA (.attr (.var 0) 43) 44 36 (.cons (.attr (.var 1) 31) .nil))) (.cons (.setattr (.var 1) 14 (.call 1 (.cons (.attr (.var 0) 12) (.cons (.attr (.var 1) 33) .nil)))) (.cons (.set (.v 2) (.call 3 (.cons (.attr (.var 0) 12) (.cons (.attr (.var 1) 33) .nil)))) (.cons (.for (.v 3) (.ex (.var 2)) (.cons (.br (.attr (.var 1) 34) (.var 3) (.bA (.var 0) 45 29 (.cons (.idx (.var 2) (.var 3)) (.cons (.var 3) .nil)))) .nil)) .nil))))⟩
noncomputable def rY:Fn:=⟨1,[],2,(.cons (.expr (.bA (.var 0) 45 29 (.cons (.tup (.cons (.bA (.attr (.var 0) 12) 2 34 (.cons (.lit (.int 0)) (.cons (.lit (.int 0)) .nil))) .nil)) (.cons (.lit (.int (-1))) .nil)))) (.cons (.set (.v 1) (.lit (.int 0))) (.cons (.while (.cmp .lt (.var 1) (.len (.attr (.var 0) 13))) (.cons (.expr (.bA (.var 0) 46 39 (.cons (.idx (.attr (.var 0) 13) (.var 1)) .nil))) (.cons (.set (.v 1) (.bin .add (.var 1) (.lit (.int 1)))) .nil))) (.cons (.ret (.new 1 (.cons (.attr (.var 0) 12) (.cons (.attr (.var 0) 13) .nil)))) .nil))))⟩
noncomputable def mC:Fn:=⟨1,[],1,(.cons (.ret (.len (.attr (.var 0) 47))) .nil)⟩
noncomputable def uk:Fn:=⟨2,[],4,(.cons (.setattr (.var 0) 12 (.var 1)) (.cons (.set (.v 2) (.bin .mul (.list (.cons (.lit (.int 0)) .nil)) (.bA (.var 1) 9 41 .nil))) (.cons (.for (.v 3) (.ex (.attr (.var 1) 5)) (.cons (.ite (.cmp .gt (.len (.attr (.var 3) 6)) (.lit (.int 0))) (.cons (.br (.var 2) (.attr (.var 3) 8) (.bin .bor (.idx (.var 2) (.attr (.var 3) 8)) (.bin .shl (.lit (.int 1)) (.idx (.attr (.var 3) 6) (.lit (.int 0)))))) .nil) .nil) .nil)) (.cons (.setattr (.var 0) 38 (.call 4 (.cons (.var 2) .nil))) .nil))))⟩
noncomputable def tq:Fn:=⟨2,[],2,(.cons (.setattr (.var 0) 12 (.var 1)) (.cons (.setattr (.var 0) 43 (.new 3 (.cons (.var 1) .nil))) (.cons (.setattr (.var 0) 13 (.list .nil)) (.cons (.setattr (.var 0) 35 (.iM 1)) .nil))))⟩
noncomputable def tt:Fn:=⟨7,[],8,(.cons (.setattr (.var 0) 47 (.var 1)) (.cons (.setattr (.var 0) 29 (.var 2)) (.cons (.setattr (.var 0) 5 (.var 3)) (.cons (.setattr (.var 0) 15 (.var 4)) (.cons (.setattr (.var 0) 48 (.var 5)) (.cons (.setattr (.var 0) 49 (.var 6)) (.cons (.setattr (.var 0) 39 (.comp [] (.list .nil) (.ex (.attr (.var 0) 47)) .nil)) (.cons (.setattr (.var 0) 37 (.list .nil)) (.cons (.setattr (.var 0) 36 (.list .nil)) (.cons (.for (.v 7) (.ex (.attr (.var 0) 5)) (.cons (.expr (.append (.idx (.attr (.var 0) 39) (.attr (.var 7) 8)) (.attr (.var 7) 7))) (.cons (.expr (.append (.attr (.var 0) 37) (.len (.attr (.var 0) 36)))) (.cons (.expr (.extend (.attr (.var 0) 36) (.bin .mul (.list (.cons (.attr (.var 7) 7) .nil)) (.bin .add (.len (.attr (.var 7) 6)) (.lit (.int 1)))))) .nil)))) (.cons (.setattr (.var 0) 50 (.len (.attr (.var 0) 36))) .nil)))))))))))⟩
noncomputable def rL:Fn:=⟨8,[(.int (-1)),.none,(.int 0),(.int 0)],8,(.cons (.setattr (.var 0) 7 (.var 1)) (.cons (.setattr (.var 0) 8 (.var 2)) (.cons (.setattr (.var 0) 6 (.var 3)) (.cons (.setattr (.var 0) 16 (.var 4)) (.cons (.setattr (.var 0) 26 (.var 5)) (.cons (.setattr (.var 0) 51 (.var 6)) (.cons (.setattr (.var 0) 52 (.var 7)) .nil)))))))⟩
noncomputable def m9:Fn:=⟨2,[],2,(.cons (.ret (.cmp .lt (.var 1) (.attr (.var 0) 29))) .nil)⟩
noncomputable def iY:Fn:=⟨1,[],4,(.cons (.set (.v 1) (.attr (.attr (.var 0) 53) 12)) (.cons (.for (.v 2) (.ex (.attr (.attr (.var 0) 53) 13)) (.cons (.for (.v 3) (.ex (.sorted (.attr (.var 2) 34))) (.cons (.ite (.not (.bA (.var 1) 11 46 (.cons (.var 3) .nil))) (.cons (.br (.attr (.var 0) 54) (.tup (.cons (.attr (.var 2) 7) (.cons (.var 3) .nil))) (.len (.attr (.var 0) 55))) (.cons (.expr (.append (.attr (.var 0) 55) (.tup (.cons (.attr (.var 2) 7) (.cons (.var 3) .nil))))) .nil)) .nil) .nil)) .nil)) .nil))⟩
noncomputable def tu:Fn:=⟨2,[],2,(.cons (.ret (.qP (.attr (.var 0) 34) (.var 1) (.lit (.int (-1))))) .nil)⟩
noncomputable def rh:Fn:=⟨3,[],3,(.cons (.ret (.bA (.idx (.attr (.var 0) 13) (.var 1)) 28 48 (.cons (.var 2) .nil))) .nil)⟩
noncomputable def lR:Fn:=⟨1,[],9,(.cons (.set (.v 1) (.attr (.attr (.var 0) 53) 12)) (.cons (.for (.p 2 3) (.ex (.attr (.var 0) 55)) (.cons (.set (.v 4) (.bA (.attr (.var 0) 53) 28 49 (.cons (.var 2) (.cons (.var 3) .nil)))) (.cons (.set (.v 5) (.lit (.int 0))) (.cons (.set (.v 6) (.list .nil)) (.cons (.set (.v 7) (.attr (.idx (.attr (.attr (.var 0) 53) 13) (.var 4)) 34)) (.cons (.for (.v 8) (.ex (.sorted (.var 7))) (.cons (.ite (.bA (.var 1) 11 46 (.cons (.var 8) .nil)) (.cons (.set (.v 5) (.bin .bor (.var 5) (.bin .shl (.lit (.int 1)) (.var 8)))) .nil) (.cons (.ite (.idx (.attr (.var 0) 56) (.var 8)) (.cons (.expr (.append (.var 6) (.idx (.attr (.var 0) 54) (.tup (.cons (.var 4) (.cons (.var 8) .nil)))))) .nil) .nil) .nil)) .nil)) (.cons (.expr (.append (.attr (.var 0) 57) (.var 5))) (.cons (.expr (.append (.attr (.var 0) 58) (.var 6))) .nil)))))))) .nil))⟩
noncomputable def mD:Fn:=⟨2,[],3,(.cons (.set (.v 2) (.len (.var 1))) (.cons (.while (.and (.cons (.cmp .gt (.var 2) (.lit (.int 0))) (.cons (.idx (.attr (.var 0) 56) (.idx (.var 1) (.bin .sub (.var 2) (.lit (.int 1))))) .nil))) (.cons (.set (.v 2) (.bin .sub (.var 2) (.lit (.int 1)))) .nil)) (.cons (.ret (.max (.bin .sub (.var 2) (.lit (.int 1))) (.lit (.int 0)))) .nil)))⟩
noncomputable def kg:Fn:=⟨1,[],13,(.cons (.set (.v 1) (.attr (.attr (.var 0) 53) 12)) (.cons (.for (.v 2) (.ex (.attr (.attr (.var 0) 53) 13)) (.cons (.for (.v 3) (.ex (.attr (.var 2) 14)) (.cons (.br (.attr (.var 0) 59) (.tup (.cons (.attr (.var 2) 7) (.cons (.var 3) .nil))) (.list .nil)) .nil)) .nil)) (.cons (.for (.v 4) (.range (.len (.attr (.var 0) 55))) (.cons (.set (.p 5 6) (.idx (.attr (.var 0) 55) (.var 4))) (.cons (.for (.v 3) (.ex (.bA (.var 1) 41 33 (.cons (.var 6) .nil))) (.cons (.set (.v 7) (.attr (.idx (.attr (.var 1) 5) (.var 3)) 6)) (.cons (.set (.v 8) (.bA (.var 0) 60 51 (.cons (.var 7) .nil))) (.cons (.set (.v 9) (.var 5)) (.cons (.for (.v 10) (.range (.len (.var 7))) (.cons (.set (.v 11) (.idx (.var 7) (.var 10))) (.cons (.ite (.and (.cons (.cmp .ge (.var 10) (.var 8)) (.cons (.not (.bA (.var 1) 11 46 (.cons (.var 11) .nil))) .nil))) (.cons (.set (.v 12) (.idx (.attr (.var 0) 54) (.tup (.cons (.var 9) (.cons (.var 11) .nil))))) (.cons (.expr (.call 10 (.cons (.idx (.attr (.var 0) 61) (.var 12)) (.cons (.var 4) .nil)))) (.cons (.ite (.cmp .eq (.var 10) (.lit (.int 0))) (.cons (.expr (.call 10 (.cons (.idx (.attr (.var 0) 62) (.var 12)) (.cons (.var 4) .nil)))) .nil) .nil) .nil))) .nil) (.cons (.set (.v 9) (.bA (.attr (.var 0) 53) 28 49 (.cons (.var 9) (.cons (.var 11) .nil)))) .nil)))) (.cons (.expr (.call 10 (.cons (.idx (.attr (.var 0) 59) (.tup (.cons (.var 9) (.cons (.var 3) .nil)))) (.cons (.var 4) .nil)))) .nil)))))) .nil))) .nil)))⟩
noncomputable def kF:Fn:=⟨1,[],5,(.cons (.set (.v 1) (.iM 1)) (.cons (.for (.v 2) (.ex (.attr (.var 0) 59)) (.cons (.set (.v 3) (.lit (.int 0))) (.cons (.for (.v 4) (.ex (.idx (.attr (.var 0) 59) (.var 2))) (.cons (.set (.v 3) (.bin .bor (.var 3) (.idx (.attr (.var 0) 63) (.var 4)))) .nil)) (.cons (.br (.var 1) (.var 2) (.var 3)) .nil)))) (.cons (.ret (.var 1)) .nil)))⟩
noncomputable def qm:Fn:=⟨2,[],3,(.cons (.setattr (.var 0) 53 (.var 1)) (.cons (.setattr (.var 0) 56 (.call 9 (.cons (.attr (.var 1) 12) .nil))) (.cons (.setattr (.var 0) 55 (.list .nil)) (.cons (.setattr (.var 0) 54 (.iM 1)) (.cons (.expr (.bA (.var 0) 64 47 .nil)) (.cons (.setattr (.var 0) 57 (.list .nil)) (.cons (.setattr (.var 0) 58 (.list .nil)) (.cons (.expr (.bA (.var 0) 65 50 .nil)) (.cons (.setattr (.var 0) 61 (.comp [] (.list .nil) (.ex (.attr (.var 0) 55)) .nil)) (.cons (.setattr (.var 0) 62 (.comp [] (.list .nil) (.ex (.attr (.var 0) 55)) .nil)) (.cons (.setattr (.var 0) 59 (.iM 1)) (.cons (.expr (.bA (.var 0) 66 52 .nil)) (.cons (.set (.v 2) (.len (.attr (.var 0) 55))) (.cons (.setattr (.var 0) 67 (.call 11 (.cons (.var 2) (.cons (.attr (.var 0) 58) (.cons (.attr (.var 0) 57) .nil))))) (.cons (.setattr (.var 0) 63 (.call 11 (.cons (.var 2) (.cons (.attr (.var 0) 61) (.cons (.attr (.var 0) 67) .nil))))) (.cons (.setattr (.var 0) 10 (.bA (.var 0) 68 53 .nil)) .nil))))))))))))))))⟩
noncomputable def um:Fn:=⟨6,[],7,(.cons (.setattr (.var 0) 47 (.var 1)) (.cons (.setattr (.var 0) 29 (.var 2)) (.cons (.setattr (.var 0) 69 (.var 3)) (.cons (.setattr (.var 0) 70 (.var 4)) (.cons (.setattr (.var 0) 71 (.var 5)) (.cons (.setattr (.var 0) 72 (.list .nil)) (.cons (.setattr (.var 0) 35 (.iM 2)) (.cons (.for (.v 6) (.range (.var 2)) (.cons (.br (.attr (.var 0) 35) (.idx (.var 1) (.var 6)) (.var 6)) .nil)) .nil))))))))⟩
noncomputable def pM:Fn:=⟨8,[],11,(.cons (.set (.v 8) (.comp [] (.attr (.var 0) 8) (.ex (.attr (.var 1) 5)) .nil)) (.cons (.set (.v 9) (.comp [] (.len (.attr (.var 0) 6)) (.ex (.attr (.var 1) 5)) .nil)) (.cons (.set (.v 10) (.comp [] (.attr (.var 0) 52) (.ex (.attr (.var 1) 5)) .nil)) (.cons (.sup (.cons (.attr (.var 1) 47) (.cons (.attr (.var 1) 29) (.cons (.var 8) (.cons (.var 9) (.cons (.var 10) .nil)))))) (.cons (.setattr (.var 0) 12 (.var 1)) (.cons (.setattr (.var 0) 73 (.var 2)) (.cons (.setattr (.var 0) 21 (.var 3)) (.cons (.setattr (.var 0) 72 (.var 4)) (.cons (.setattr (.var 0) 19 (.var 5)) (.cons (.setattr (.var 0) 20 (.var 6)) (.cons (.setattr (.var 0) 74 (.var 7)) .nil)))))))))))⟩
noncomputable def rZ:Fn:=⟨4,[],6,(.cons (.setattr (.var 0) 12 (.var 1)) (.cons (.setattr (.var 0) 7 (.attr (.var 2) 7)) (.cons (.setattr (.var 0) 75 (.iM 0)) (.cons (.setattr (.var 0) 21 (.iM 0)) (.cons (.for (.v 4) (.ex (.attr (.var 2) 34)) (.cons (.ite (.cmp .eq (.var 4) (.lit (.int 0))) (.cons (.br (.attr (.var 0) 75) (.var 4) (.lit (.int 1048576))) .nil) (.cons (.ite (.cmp .lt (.var 4) (.attr (.var 1) 29)) (.cons (.br (.attr (.var 0) 75) (.var 4) (.idx (.attr (.var 2) 34) (.var 4))) .nil) (.cons (.br (.attr (.var 0) 21) (.var 4) (.idx (.attr (.var 2) 34) (.var 4))) .nil)) .nil)) .nil)) (.cons (.setattr (.var 0) 76 (.list .nil)) (.cons (.for (.v 5) (.ex (.attr (.var 2) 14)) (.cons (.expr (.append (.attr (.var 0) 76) (.list (.cons (.var 5) (.cons (.qP (.var 3) (.tup (.cons (.attr (.var 2) 7) (.cons (.var 5) .nil))) (.lit (.int 0))) .nil))))) .nil)) (.cons (.setattr (.var 0) 77 (.lit (.int 0))) (.cons (.setattr (.var 0) 20 (.list .nil)) .nil)))))))))⟩
noncomputable def r7:Fn:=⟨6,[],6,(.cons (.setattr (.var 0) 78 (.var 1)) (.cons (.setattr (.var 0) 79 (.var 2)) (.cons (.setattr (.var 0) 80 (.var 3)) (.cons (.setattr (.var 0) 5 (.var 4)) (.cons (.setattr (.var 0) 81 (.var 5)) .nil)))))⟩
noncomputable def m_:Fn:=⟨4,[],5,(.cons (.set (.v 4) (.idx (.attr (.var 0) 75) (.var 2))) (.cons (.ite (.cmp .eq (.var 3) (.lit (.str 12))) (.cons (.set (.v 4) (.neg (.idx (.var 1) (.lit (.int 0))))) .nil) .nil) (.cons (.ite (.cmp .eq (.var 3) (.lit (.str 14))) (.cons (.set (.v 4) (.lit (.int (-1048576)))) (.cons (.setattr (.var 0) 77 (.bin .bor (.attr (.var 0) 77) (.bin .shl (.lit (.int 1)) (.var 2)))) .nil)) .nil) (.cons (.ite (.cmp .ne (.var 3) (.lit (.str 12))) (.cons (.br (.var 1) (.lit (.int 1)) (.bin .band (.idx (.var 1) (.lit (.int 1))) (.inv (.bin .shl (.lit (.int 1)) (.var 2))))) .nil) .nil) (.cons (.ite (.cmp .ne (.var 3) (.lit (.str 13))) (.cons (.expr (.u_ (.attr (.var 0) 75) (.var 2))) .nil) .nil) (.cons (.expr (.append (.attr (.var 0) 20) (.new 9 (.cons (.attr (.var 0) 7) (.cons (.var 2) (.cons (.lit (.str 17)) (.cons (.tup (.cons (.idx (.var 1) (.lit (.int 0))) .nil)) (.cons (.var 4) .nil)))))))) .nil))))))⟩
noncomputable def lu:Fn:=⟨1,[],4,(.cons (.for (.v 1) (.ex (.attr (.var 0) 76)) (.cons (.for (.v 2) (.ex (.call 0 (.cons (.idx (.var 1) (.lit (.int 1))) .nil))) (.cons (.set (.v 3) (.lit .none)) (.cons (.ite (.cmp .isin (.var 2) (.attr (.var 0) 75)) (.cons (.set (.v 3) (.call 17 (.cons (.attr (.var 0) 12) (.cons (.idx (.var 1) (.lit (.int 0))) (.cons (.var 2) .nil))))) .nil) .nil) (.cons (.ite (.cmp .yd (.var 3) (.lit .none)) (.cons (.expr (.bA (.var 0) 82 59 (.cons (.var 1) (.cons (.var 2) (.cons (.var 3) .nil))))) .nil) .nil) .nil)))) .nil)) .nil)⟩
noncomputable def tv:Fn:=⟨1,[],4,(.cons (.set (.v 1) (.bin .mul (.list (.cons (.lit (.int 0)) .nil)) (.attr (.attr (.var 0) 12) 29))) (.cons (.for (.v 2) (.rev (.attr (.var 0) 76)) (.cons (.for (.v 3) (.ex (.call 0 (.cons (.idx (.var 2) (.lit (.int 1))) .nil))) (.cons (.br (.var 1) (.var 3) (.neg (.idx (.var 2) (.lit (.int 0))))) .nil)) .nil)) (.cons (.for (.v 3) (.ex (.attr (.var 0) 75)) (.cons (.br (.var 1) (.var 3) (.idx (.attr (.var 0) 75) (.var 3))) .nil)) (.cons (.for (.v 3) (.ex (.call 0 (.cons (.attr (.var 0) 77) .nil))) (.cons (.br (.var 1) (.var 3) (.lit (.int (-1048576)))) .nil)) (.cons (.ret (.var 1)) .nil)))))⟩
noncomputable def nZ:Fn:=⟨2,[],7,(.cons (.set (.v 2) (.list .nil)) (.cons (.for (.v 3) (.range (.attr (.attr (.var 0) 12) 29)) (.cons (.set (.v 4) (.comp [3] (.idx (.var 1) (.lit (.int 0))) (.ex (.attr (.var 0) 76)) (.cons (.bin .band (.idx (.var 1) (.lit (.int 1))) (.bin .shl (.lit (.int 1)) (.var 0))) .nil))) (.cons (.ite (.and (.cons (.var 4) (.cons (.cmp .isin (.var 3) (.attr (.var 0) 75)) .nil))) (.cons (.expr (.append (.var 2) (.new 9 (.cons (.attr (.var 0) 7) (.cons (.var 3) (.cons (.lit (.str 17)) (.cons (.tupleOf (.var 4)) (.cons (.idx (.var 1) (.var 3)) .nil)))))))) .nil) .nil) (.cons (.for (.v 5) (.ex (.rF (.var 4) (.lit (.int 1)))) (.cons (.set (.v 6) (.tup (.cons (.idx (.var 4) (.lit (.int 0))) (.cons (.var 5) .nil)))) (.cons (.expr (.append (.var 2) (.new 9 (.cons (.attr (.var 0) 7) (.cons (.var 3) (.cons (.lit (.str 18)) (.cons (.var 6) (.cons (.idx (.var 1) (.var 3)) .nil)))))))) .nil))) .nil)))) (.cons (.ret (.var 2)) .nil)))⟩
noncomputable def kG:Fn:=⟨1,[],1,(.cons (.ret (.len (.attr (.var 0) 73))) .nil)⟩
noncomputable def ri:Fn:=⟨2,[],2,(.cons (.ret (.idx (.attr (.var 0) 72) (.var 1))) .nil)⟩
noncomputable def mH:Fn:=⟨3,[],3,(.cons (.ret (.idx (.idx (.attr (.var 0) 73) (.var 1)) (.var 2))) .nil)⟩
noncomputable def mI:Fn:=⟨2,[],3,(.cons (.ite (.cmp .eq (.bA (.var 0) 23 64 (.cons (.var 1) .nil)) (.lit (.int 0))) (.cons (.ret (.lit (.bool false))) .nil) .nil) (.cons (.for (.v 2) (.range (.attr (.var 0) 29)) (.cons (.ite (.cmp .ne (.bA (.var 0) 24 65 (.cons (.var 1) (.cons (.var 2) .nil))) (.lit (.int 0))) (.cons (.ret (.lit (.bool false))) .nil) .nil) .nil)) (.cons (.ret (.lit (.bool true))) .nil)))⟩
noncomputable def r8:Fn:=⟨3,[],4,(.cons (.set (.v 3) (.bA (.var 0) 24 65 (.cons (.var 1) (.cons (.var 2) .nil)))) (.cons (.ite (.cmp .eq (.var 3) (.lit (.int (-1048576)))) (.cons (.ret (.lit (.int 0))) .nil) .nil) (.cons (.ite (.cmp .eq (.var 3) (.lit (.int 0))) (.cons (.ret (.neg (.bA (.var 0) 23 64 (.cons (.var 1) .nil)))) .nil) .nil) (.cons (.ret (.var 3)) .nil))))⟩
noncomputable def r9:Fn:=⟨2,[],2,(.cons (.ret (.idx (.attr (.var 0) 70) (.var 1))) .nil)⟩
noncomputable def pN:Fn:=⟨3,[],3,(.cons (.ret (.qP (.idx (.attr (.var 0) 21) (.var 1)) (.var 2) (.neg (.lit (.int 1))))) .nil)⟩
noncomputable def uo:Fn:=⟨2,[],2,(.cons (.ret (.idx (.attr (.var 0) 69) (.var 1))) .nil)⟩
noncomputable def r_:Fn:=⟨1,[],1,(.cons (.ret (.tup (.cons (.attr (.var 0) 78) (.cons (.attr (.var 0) 79) (.cons (.attr (.var 0) 80) (.cons (.attr (.var 0) 5) (.cons (.attr (.var 0) 81) .nil))))))) .nil)⟩
noncomputable def MO:Nat->Option Fn
 |0=>some JY
 |1=>some q6
 |2=>some yD
 |3=>some q7
 |4=>some vC
 |5=>some GK
 |6=>some Bb
 |7=>some td
 |8=>some DQ
 |9=>some yE
 |10=>some yF
 |11=>some Bc
 |12=>some vD
 |13=>some yG
 |14=>some ui
 |15=>some tg
 |16=>some wX
 |17=>some DR
 |18=>some vE
 |19=>some Bd
 |20=>some JZ
 |21=>some wY
 |22=>some vF
 |23=>some q8
 |24=>some vG
 |25=>some q9
 |26=>some uj
 |27=>some MN
 |28=>some tj
 |29=>some oY
 |30=>some q_
 |31=>some rW
 |32=>some rX
 |33=>some pL
 |34=>some tm
 |35=>some tn
 |36=>some tp
 |37=>some qk
 |38=>some re
 |39=>some rg
 |40=>some rY
 |41=>some mC
 |42=>some uk
 |43=>some tq
 |44=>some tt
 |45=>some rL
 |46=>some m9
 |47=>some iY
 |48=>some tu
 |49=>some rh
 |50=>some lR
 |51=>some mD
 |52=>some kg
 |53=>some kF
 |54=>some qm
 |55=>some um
 |56=>some pM
 |57=>some rZ
 |58=>some r7
 |59=>some m_
 |60=>some lu
 |61=>some tv
 |62=>some nZ
 |63=>some kG
 |64=>some ri
 |65=>some mH
 |66=>some mI
 |67=>some r8
 |68=>some r9
 |69=>some pN
 |70=>some uo
 |71=>some r_
 |_=>none
noncomputable def GM:Nat->Option Nat
 |0=>some 28
 |1=>some 30
 |2=>some 43
 |3=>some 42
 |4=>some 44
 |5=>some 45
 |6=>some 54
 |7=>some 56
 |8=>some 57
 |9=>some 58
 |_=>none
noncomputable def J0:Nat->Nat->Option Nat
 |0,25=>some 72|4,7=>some 73|7,52=>some 74|7,79=>some 75
 |0,28=>some 48
 |1,28=>some 49
 |2,4=>some 40
 |2,46=>some 39
 |2,45=>some 29
 |3,42=>some 35
 |3,44=>some 36
 |3,40=>some 32
 |4,0=>some 31
 |4,3=>some 38
 |4,11=>some 46
 |4,2=>some 34
 |4,1=>some 37
 |4,41=>some 33
 |4,9=>some 41
 |6,66=>some 52
 |6,65=>some 50
 |6,68=>some 53
 |6,64=>some 47
 |6,60=>some 51
 |7,26=>some 67
 |7,23=>some 64
 |7,24=>some 65
 |7,28=>some 69
 |7,25=>some 66
 |7,8=>some 70
 |7,27=>some 68
 |7,22=>some 63
 |8,19=>some 62
 |8,18=>some 61
 |8,17=>some 60
 |8,82=>some 59
 |9,30=>some 71
 |0,83=>some 28
 |1,83=>some 30
 |2,83=>some 43
 |3,83=>some 42
 |4,83=>some 44
 |5,83=>some 45
 |6,83=>some 54
 |7,83=>some 56
 |8,83=>some 57
 |9,83=>some 58
 |_,_=>none
noncomputable def pg:Pg:=⟨MO,GM,J0,55,7⟩
section
open PySem PySem.W PySem.Calls PyProof.Rows
noncomputable def tb:Tb:=⟨(["left","right","nonassoc","precedence","$end","error","$undefined","a","b","$accept","S","A","reduce","shift","bar","lalr","round","shift/reduce","reduce/reduce"]:List String).map Str.ofString,(["after","rule_of","item","dot_of","built","rules","right","number","left","symbol_count","masks","is_terminal","grammar","states","reductions","levels","level_of","settle_levels","row","conflicts","settled","gotos","state_count","default","explicit","is_consistent","action","length","goto","terminal_count","told","kernel","symbol","items","moves","numbers","owners","offsets","firsts","by_left","wanted","rules_of","added","closer","close","number_of","expand","names","expect","start","item_count","line","before","automaton","index","transitions","nullables","direct","reads","lookback","open_ends","includes","turns","follow_masks","number_transitions","find_reads","find_includes","read_masks","joined_masks","lefts","lengths","befores","defaults","rows","mode","shifts","looks","barred","state","terminal","way","chosen","settle_one","__init__"]:List String).map Str.ofString,[("ACCEPT",1048576),("BARRED",(-1048576)),("END",0),("ERROR",1),("UNDEFINED",2),("NONE",(-1))],(["bits","complete_rules","advanced","kernels_behind","transitive","build","_law_at","_law_grammar","spread","nullable","add_once","digraph","lalr_masks","first_of","first_masks","follow_masks","slr_masks","settle","default_of","without","fill","_law_side","_law_pairs","_law_rows_hold","would_take","exact_expected","_law_pushed","law"]:List String).map Str.ofString,(["LrState","Automaton","Builder","Closer","Grammar","Rule","Lookaheads","ParseTables","RowMaker","Conflict"]:List String).map Str.ofString,[3,11,13,14,17,21,24,25,26,27,34,36,39,40,41,42,43,47,53,54,55,56,57,62,67,68,69,71,0,1,2,4,5,6,7,8,9,10,12,15,16,18,19,20,22,23,28,29,30,31,32,33,35,37,38,44,45,46,48,49,50,51,52,58,59,60,61,63,64,65,66,70],pg⟩
noncomputable def vH:List Addr:=[68,653,639,646,466,758,765,782,431,438,541,473,548,445,452,459,555,241,295,300,308,770,777,794,315,322,789,799,569,730,667,419,611,391,398,618,625,405,412,737,744,363,604,723,356,337,370,492,576,674,499,513,506,520,485,82,208,255,180,269,262,276,281,215,131,222,159,145,103,229,96,187,583,384,110,89]
noncomputable def Be:List Addr:=[586,705,747,628,422,340,530,232,284,190]
noncomputable def J1:List (List Str):=([["mask","found","at","left"],
 ["grammar","items","found","item"],
 ["grammar","item"],
 ["grammar","items","found","item","symbol","ordered"],
 ["rows","found","middle","one"],
 ["grammar"],
 ["script","k","many"],
 ["script","pairs","rules","left","right","marks","levels","terminal","number","names"],
 ["grammar","known","found","lacking","users","queue","rule","missing","symbol","at","number","left"],
 ["grammar"],
 ["row","number"],
 ["count","relation","masks","result","heights","done","pile","start","frames","frame","x","y","last"],
 ["automaton"],
 ["symbols","nullables","firsts","mask","symbol"],
 ["grammar","nullables","firsts","symbol","is_grown","rule","mask"],
 ["grammar","nullables","firsts","follows","is_grown","rule","behind","symbol"],
 ["automaton","follows","masks","state","rule"],
 ["grammar","rule","terminal","own","other"],
 ["row","counts","number","best","rule"],
 ["row","rule"],
 ["automaton","masks","with_defaults","mode","rows","gotos","defaults","conflicts","settled","state","maker","row","rule"],
 ["script","k","length","symbols"],
 ["script","pairs"],
 ["whole","cut","state","best","row"],
 ["tables","states","terminal","most","stack","turn","told","length","goal"],
 ["tables","states","most","found","terminal"],
 ["tables","states","symbol","stack","turn","deed"],
 ["script","automaton","masks","whole","cut","one","other","states","k","takes","number","menu","symbol"],
 ["self","number","kernel","symbol"],
 ["self","kernel","symbol"],
 ["self","grammar","states"],
 ["self","item","right","dot"],
 ["self","kernel","mask","item","symbol"],
 ["self","symbol"],
 ["self","rule","dot"],
 ["self","kernel","found","symbol","number","item"],
 ["self","kernel"],
 ["self","item"],
 ["self","item"],
 ["self","state","behind","symbol"],
 ["self","at"],
 ["self"],
 ["self","grammar","rows","rule"],
 ["self","grammar"],
 ["self","names","terminal_count","rules","levels","expect","start","rule"],
 ["self","number","left","right","level_of","action","line","before"],
 ["self","symbol"],
 ["self","grammar","state","symbol"],
 ["self","symbol"],
 ["self","state","symbol"],
 ["self","grammar","state","symbol","goal","mask","row","moves","later"],
 ["self","right","spot"],
 ["self","grammar","state","rule","x","first","left","right","ends","at","spot","symbol","inner"],
 ["self","masks","pair","mask","x"],
 ["self","automaton","count"],
 ["self","names","terminal_count","lefts","lengths","befores","number"],
 ["self","grammar","rows","gotos","defaults","conflicts","settled","mode","lefts","lengths","befores"],
 ["self","grammar","state","masks","symbol","rule"],
 ["self","state","terminal","way","rules","chosen"],
 ["self","look","terminal","way","chosen"],
 ["self","look","terminal","way"],
 ["self","row","look","terminal"],
 ["self","row","found","terminal","rules","other","pair"],
 ["self"],
 ["self","state"],
 ["self","state","terminal"],
 ["self","state","terminal"],
 ["self","state","terminal","told"],
 ["self","rule"],
 ["self","state","nonterminal"],
 ["self","rule"],
 ["self"]]:List (List String)).map (·.map Str.ofString)
inductive Ad (c:Cx):Prop
 |mk (t1:nL c tb) (t2:GH c tb) (t3:ML c tb)
noncomputable def JE (e:CE) (L:Lc) (H:Hp) (v:V) (H':Hp):Prop:=∀c,Ad c->zZ c tb e L H v H'
noncomputable def vJ (l:mw) (L:Lc) (H:Hp) (vs:List V) (H':Hp):Prop:=∀c,Ad c->nP c tb l L H vs H'
noncomputable def JT (e:CE) (L:Lc) (H:Hp) (b:Bool) (H':Hp):Prop:=∀c,Ad c->lq c tb e L H b H'
noncomputable def JA (l:mw) (L:Lc) (H:Hp) (b:Bool) (H':Hp):Prop:=∀c,Ad c->iC c tb .And l L H b H'
noncomputable def JO (l:mw) (L:Lc) (H:Hp) (b:Bool) (H':Hp):Prop:=∀c,Ad c->iC c tb .Or l L H b H'
noncomputable def JP (l:mw) (L:Lc) (H:Hp) (v:V) (H':Hp):Prop:=∀c,Ad c->wu c tb .And l L H v H'
noncomputable def JQ (l:mw) (L:Lc) (H:Hp) (v:V) (H':Hp):Prop:=∀c,Ad c->wu c tb .Or l L H v H'
noncomputable def JI (i:CI) (L:Lc) (H:Hp) (xs:List V) (g:Gd) (H':Hp):Prop:=∀c,Ad c->sY c tb i L H xs g H'
noncomputable def JC (elt:CE) (ifs:mw) (L:Lc) (g:Gd) (xs acc:List V) (H:Hp) (ys:List V) (H':Hp):Prop:=∀c,Ad c->kP c tb elt ifs L g xs acc H ys H'
noncomputable def JS (s:CS) (L:Lc) (H:Hp) (f:Fl) (L':Lc) (H':Hp):Prop:=∀c,Ad c->qi c tb s L H f L' H'
noncomputable def xW (l:i6) (L:Lc) (H:Hp) (f:Fl) (L':Lc) (H':Hp):Prop:=∀c,Ad c->j_ c tb l L H f L' H'
noncomputable def JF (t:Tg) (b:i6) (g:Gd) (xs:List V) (L:Lc) (H:Hp) (f:Fl) (L':Lc) (H':Hp):Prop:=∀c,Ad c->qZ c tb t b g xs L H f L' H'
noncomputable def JW (e:CE) (b:i6) (L:Lc) (H:Hp) (f:Fl) (L':Lc) (H':Hp):Prop:=∀c,Ad c->uL c tb e b L H f L' H'
noncomputable def JR (f:Nat) (vs:List V) (H:Hp) (v:V) (H':Hp):Prop:=∀c,Ad c->wV c tb f vs H v H'
theorem JE.lit {v L H}:JE (.lit v) L H v H:=λκ ω=>oX (FP ω.1)
theorem JE.var {i L H v} (h:L[i]?=some (some v)):JE (.var i) L H v H:=λκ ω=>oX (FO h)
theorem JE.bin {o a b L H va vb r H1 H2 H3} (x:JE a L H va H1) (y:JE b L H1 vb H2) (r':iX o va vb H2 r H3):JE (.bin o a b) L H r H3:=λκ ω=>oX (F8 (x κ ω).1 (y κ ω).1 r')
theorem JE.neg {a L H i H1} (x:JE a L H (.int i) H1):JE (.neg a) L H (.int (-i)) H1:=λκ ω=>oX (F9 (x κ ω).1)
theorem JE.inv {a L H i H1} (x:JE a L H (.int i) H1):JE (.inv a) L H (.int (-i-1)) H1:=λκ ω=>oX (F_ (x κ ω).1)
theorem JE.not {a L H v b H1} (x:JE a L H v H1) (t:Tr H1 v b):JE (.not a) L H (.bool (!b)) H1:=λκ ω=>oX (Ga (x κ ω).1 t)
theorem JE.cmp {o a b L H va vb r H1 H2} (x:JE a L H va H1) (y:JE b L H1 vb H2) (r':cN H2 o va vb r):JE (.cmp o a b) L H (.bool r) H2:=λκ ω=>oX (Gb ω.1 (x κ ω).1 (y κ ω).1 r')
theorem JE.and {l L H v H1} (x:JP l L H v H1):JE (.and l) L H v H1:=λκ ω=>oX (snd_and (x κ ω))
theorem JE.or {l L H v H1} (x:JQ l L H v H1):JE (.or l) L H v H1:=λκ ω=>oX (Jr (x κ ω))
theorem JE.ite {c a b L H t v H1 H2} (x:JT c L H t H1) (y:JE (if t then a else b) L H1 v H2):JE (.ite c a b) L H v H2:=λκ ω=>oX (Gg (x κ ω) (y κ ω).1)
theorem JE.list {l L H vs H1} (x:vJ l L H vs H1) (z:vs.length≤SZ):JE (.list l) L H (.ref H1.length) (H1++[.list vs]):=λκ ω=>oX (CJ (x κ ω) z)
theorem JE.tup {l L H vs H1} (x:vJ l L H vs H1) (z:vs.length≤SZ):JE (.tup l) L H (.tup vs) H1:=λκ ω=>oX (Gc (x κ ω) z)
theorem JE.iM {k L H}:JE (.iM k) L H (.ref H.length) (H++[if k=0 then .bj []else if k=1 then .bX []else .kJ 0]):=λκ ω=>oX AZ
theorem JE.MP {caps elt it ifs L L1 H xs g H1 ys H2} (c:L1=caps.map (λi=>(L[i]?).join)) (x:JI it L H xs g H1) (ng:g.Cb=false) (y:JC elt ifs L1 g xs [] H1 ys H2) (z:ys.length≤SZ):JE (.comp caps elt it ifs) L H (.ref H2.length) (H2++[.list ys]):=λκ ω=>A_ c (x κ ω) ng (y κ ω) z
theorem JE.idx {a i L H va vi r H1 H2} (x:JE a L H va H1) (y:JE i L H1 vi H2) (r':Item H2 va vi r):JE (.idx a i) L H r H2:=λκ ω=>oX (Ge (x κ ω).1 (y κ ω).1 r')
theorem JE.sL {a i L H va r H1 H2} {n:Nat} (x:JE a L H va H1) (y:JE i L H1 (.int n) H2) (r':sU H2 va n r) (z:n≤SZ):JE (.sL a i) L H (.ref H2.length) (H2++[.list r]):=λκ ω=>oX (CK (x κ ω).1 (y κ ω).1 r' z)
theorem JE.rF {a i L H va r H1 H2} {n:Nat} (x:JE a L H va H1) (y:JE i L H1 (.int n) H2) (r':wC H2 va n r) (z:n≤SZ):JE (.rF a i) L H (.ref H2.length) (H2++[.list r]):=λκ ω=>oX (AW (x κ ω).1 (y κ ω).1 r' z)
theorem JE.attr {a f L H k c fs v H1} (x:JE a L H (.ref k) H1) (o:H1[k]?=some (.inst c fs)) (m:pg.xT c f=Option.none) (h:qO f fs=some v):JE (.attr a f) L H v H1:=λκ ω=>oX (CY ω.1 (x κ ω).1 o m h)
theorem JE.call {f l L H vs v H1 H2} (x:vJ l L H vs H1) (y:JR f vs H1 v H2):JE (.call f l) L H v H2:=λκ ω=>oX (DO ω.1 (x κ ω) (y κ ω))
theorem JE.new {c f l L H vs H1 H2} (x:vJ l L H vs H1) (i:pg.init c=some f) (y:JR f (.ref H1.length::vs) (H1++[.inst c []]) .none H2):JE (.new c l) L H (.ref H1.length) H2:=λκ ω=>oX (GI ω.1 ω.2 (x κ ω) i (y κ ω))
theorem JE.bA {o m l L H k c fs f vs v H1 H2 H3} (x:JE o L H (.ref k) H1) (h:H1[k]?=some (.inst c fs)) (q:pg.xT c m=some f) (n:qO m fs=Option.none) (y:vJ l L H1 vs H2) (z:JR f (.ref k::vs) H2 v H3):JE (.bA o m f l) L H v H3:=λκ ω=>oX (DP ω.1 (x κ ω).1 h q n (y κ ω) (z κ ω))
theorem JE.len {a L H v n H1} (x:JE a L H v H1) (r:wD H1 v n):JE (.len a) L H (.int n) H1:=λκ ω=>oX (FY ω.1 (x κ ω).1 r)
theorem JE.sorted {a L H v l H1} (x:JE a L H v H1) (r:jK H1 v l) (z:l.length<64):JE (.sorted a) L H (.ref H1.length) (H1++[.list (di (FK l))]):=λκ ω=>oX (yo ω.1 (x κ ω).1 r z)
theorem JE.listOf {a L H k l H1} (x:JE a L H (.ref k) H1) (o:H1[k]?=some (.list l)) (z:l.length≤SZ):JE (.listOf a) L H (.ref H1.length) (H1++[.list l]):=λκ ω=>oX (ym ω.1 (x κ ω).1 o z)
theorem JE.tupleOf {a L H k l H1} (x:JE a L H (.ref k) H1) (o:H1[k]?=some (.list l)) (z:l.length≤SZ):JE (.tupleOf a) L H (.tup l) H1:=λκ ω=>oX (wH ω.1 (x κ ω).1 o z)
theorem JE.intOf {a L H i H1} (x:JE a L H (.int i) H1):JE (.intOf a) L H (.int i) H1:=λκ ω=>oX (AP ω.1 (x κ ω).1)
theorem JE.sum {a L H k l H1} (x:JE a L H (.ref k) H1) (o:H1[k]?=some (.list (di l))):JE (.sum a) L H (.int l.sum) H1:=λκ ω=>oX (F6 ω.1 (x κ ω).1 o)
theorem JE.max {a b L H i j H1 H2} (x:JE a L H (.int i) H1) (y:JE b L H1 (.int j) H2):JE (.max a b) L H (.int (if i<j then j else i)) H2:=λκ ω=>oX (FZ ω.1 (x κ ω).1 (y κ ω).1)
theorem JE.append {o x L H k l v H1 H2} (a:JE o L H (.ref k) H1) (b:JE x L H1 v H2) (h0:∃l0,H1[k]?=some (.list l0)) (h:H2[k]?=some (.list l)) (z:l.length<SZ):JE (.append o x) L H .none (H2.set k (.list (l++[v]))):=λκ ω=>oX (yj (a κ ω).1 (b κ ω).1 h0 h z)
theorem JE.extend {o x L H k j l r H1 H2} (a:JE o L H (.ref k) H1) (b:JE x L H1 (.ref j) H2) (h0:∃l0,H1[k]?=some (.list l0)) (h:H2[k]?=some (.list l)) (h2:H2[j]?=some (.list r)) (n:k≠j) (z:l.length+r.length<SZ):JE (.extend o x) L H .none (H2.set k (.list (l++r))):=λκ ω=>oX (yk (a κ ω).1 (b κ ω).1 h0 h h2 n z)
theorem JE.pop {o L H k l v H1} (a:JE o L H (.ref k) H1) (h:H1[k]?=some (.list (l++[v]))) (z:l.length<SZ):JE (.pop o) L H v (H1.set k (.list l)):=λκ ω=>oX (FW (a κ ω).1 h z)
theorem JE.u9 {o x L H k u r H1 H2} (a:JE o L H (.ref k) H1) (b:JE x L H1 u H2) (h0:pH H1 k) (h:d6 H2 k u r):JE (.u9 o x) L H (r.getD .none) H2:=λκ ω=>oX (CB (a κ ω).1 (b κ ω).1 h0 h)
theorem JE.qP {o x y L H k u w r H1 H2 H3} (a:JE o L H (.ref k) H1) (b:JE x L H1 u H2) (c:JE y L H2 w H3) (h0:pH H1 k) (h:d6 H3 k u r):JE (.qP o x y) L H (r.getD w) H3:=λκ ω=>oX (CC (a κ ω).1 (b κ ω).1 (c κ ω).1 h0 h)
theorem JE.u_ {o x L H k d i v H1 H2} (a:JE o L H (.ref k) H1) (b:JE x L H1 (.int i) H2) (h0:pH H1 k) (h:H2[k]?=some (.bj d)) (z:d.length≤SZ) (g:eP i d=some v):JE (.u_ o x) L H v (H2.set k (.bj (yb i d))):=λκ ω=>oX (CD (a κ ω).1 (b κ ω).1 h0 h z g)
theorem vJ.bm {L H}:vJ .nil L H [] H:=λκ ω=>CH
theorem vJ.av {e r L H v vs H1 H2} (x:JE e L H v H1) (y:vJ r L H1 vs H2):vJ (.cons e r) L H (v::vs) H2:=λκ ω=>AS (x κ ω).1 (y κ ω)
theorem JT.iu {e L H v b H1} (x:JE e L H v H1) (t:Tr H1 v b) (n:e.qQ=true):JT e L H b H1:=λκ ω=>CV (x κ ω).1 t n
theorem JT.ur {e L H b H1} (x:JT e L H b H1):JT (.not e) L H (!b) H1:=λκ ω=>CL (x κ ω)
theorem JT.iD {l L H b H1} (x:JA l L H b H1):JT (.and l) L H b H1:=λκ ω=>CM (x κ ω)
theorem JT.xX {l L H b H1} (x:JO l L H b H1):JT (.or l) L H b H1:=λκ ω=>Gf (x κ ω)
theorem JT.tite {c a b L H t r H1 H2} (x:JT c L H t H1) (y:JT (if t then a else b) L H1 r H2):JT (.ite c a b) L H r H2:=λκ ω=>CP (x κ ω) (y κ ω)
theorem JT.b9 {o a b L H va vb r H1 H2} (x:JE a L H va H1) (y:JE b L H1 vb H2) (r':cN H2 o va vb r):JT (.cmp o a b) L H r H2:=λκ ω=>CG ω.1 (x κ ω).1 (y κ ω).1 r'
theorem JT.IB {o p a b c L H va vb H1 H2} (x:JE a L H va H1) (y:JE b L H1 vb H2) (r':cN H2 o va vb false):JT (.rV o p a b c) L H false H2:=λκ ω=>AX ω.1 (x κ ω).1 (y κ ω).1 r'
theorem JT.DT {o p a b c L H va vb vc r H1 H2 H3} (x:JE a L H va H1) (y:JE b L H1 vb H2) (r':cN H2 o va vb true) (z:JE c L H2 vc H3) (r2:cN H3 p vb vc r):JT (.rV o p a b c) L H r H3:=λκ ω=>AY ω.1 (x κ ω).1 (y κ ω).1 r' (z κ ω).1 r2
theorem JA.lw {L H}:JA .nil L H true H:=λκ ω=>CN
theorem JA.af {e r L H H1} (x:JT e L H false H1):JA (.cons e r) L H false H1:=λκ ω=>Jn (x κ ω)
theorem JA.«at» {e r L H b H1 H2} (x:JT e L H true H1) (y:JA r L H1 b H2):JA (.cons e r) L H b H2:=λκ ω=>Jo (x κ ω) (y κ ω)
theorem JO.wZ {L H}:JO .nil L H false H:=λκ ω=>CO
theorem JO.ot {e r L H H1} (x:JT e L H true H1):JO (.cons e r) L H true H1:=λκ ω=>Jp (x κ ω)
theorem JO.of {e r L H b H1 H2} (x:JT e L H false H1) (y:JO r L H1 b H2):JO (.cons e r) L H b H2:=λκ ω=>Jq (x κ ω) (y κ ω)
theorem JP.av1 {e L H v H1} (x:JE e L H v H1):JP (.cons e .nil) L H v H1:=λκ ω=>zP (x κ ω).1
theorem JP.avf {e f r L H v H1} (x:JE e L H v H1) (t:Tr H1 v false):JP (.cons e (.cons f r)) L H v H1:=λκ ω=>zQ (λ_ _=>rfl) (x κ ω).1 t
theorem JP.avt {e f r L H v u H1 H2} (x:JE e L H v H1) (t:Tr H1 v true) (y:JP (.cons f r) L H1 u H2):JP (.cons e (.cons f r)) L H u H2:=λκ ω=>zR (λ_ _=>rfl) (x κ ω).1 t (y κ ω)
theorem JQ.ov1 {e L H v H1} (x:JE e L H v H1):JQ (.cons e .nil) L H v H1:=λκ ω=>zP (x κ ω).1
theorem JQ.ovt {e f r L H v H1} (x:JE e L H v H1) (t:Tr H1 v true):JQ (.cons e (.cons f r)) L H v H1:=λκ ω=>zQ (λ_ _=>rfl) (x κ ω).1 t
theorem JQ.ovf {e f r L H v u H1 H2} (x:JE e L H v H1) (t:Tr H1 v false) (y:JQ (.cons f r) L H1 u H2):JQ (.cons e (.cons f r)) L H u H2:=λκ ω=>zR (λ_ _=>rfl) (x κ ω).1 t (y κ ω)
theorem JI.pF {e L H v xs g H1} (x:JE e L H v H1) (r:SrcR H1 v xs g) (z:xs.length≤SZ):JI (.ex e) L H xs g H1:=λκ ω=>Gp (x κ ω).1 r z
theorem JI.yH {e L H H1} {n:Nat} (x:JE e L H (.int n) H1) (z:n≤SZ):JI (.range e) L H (di ((List.range n).map Int.ofNat)) .none H1:=λκ ω=>yv ω.1 (x κ ω).1 z
theorem JI.MQ {e L H v xs g H1} (x:JE e L H v H1) (r:A4 H1 v xs g) (z:xs.length≤SZ):JI (.rev e) L H xs g H1:=λκ ω=>C9 ω.1 (x κ ω).1 r z
theorem JC.Pn {elt ifs L g acc H} (o:g.ok H):JC elt ifs L g [] acc H acc H:=λκ ω=>DD o
theorem JC.cf {elt ifs L g x xs acc H H1 ys H2} (o:g.ok H) (t:JA ifs (L++[some x]) H false H1) (o1:g.ok H1) (r:JC elt ifs L g xs acc H1 ys H2):JC elt ifs L g (x::xs) acc H ys H2:=λκ ω=>JJ o (t κ ω) o1 (r κ ω)
theorem JC.ct {elt ifs L g x xs acc H v H1 H2 ys H3} (o:g.ok H) (t:JA ifs (L++[some x]) H true H1) (e:JE elt (L++[some x]) H1 v H2) (z:acc.length<SZ) (o1:g.ok H1) (o2:g.ok H2) (r:JC elt ifs L g xs (acc++[v]) H2 ys H3):JC elt ifs L g (x::xs) acc H ys H3:=λκ ω=>JK o (t κ ω) (e κ ω).1 z o2 o1 (r κ ω)
theorem JS.expr {e L H v H1} (x:JE e L H v H1):JS (.expr e) L H .next L H1:=λκ ω=>Dp (x κ ω).1
theorem JS.set {t e L H v L' H1} (x:JE e L H v H1) (r:zY t v L L'):JS (.set t e) L H .next L' H1:=λκ ω=>Gx (x κ ω) r
theorem JS.setattr {o f e L H v k c fs H1 H2} (x:JE e L H v H1) (y:JE o L H1 (.ref k) H2) (h:H2[k]?=some (.inst c fs)) (m:pg.xT c f=Option.none) (z:fs.length≤100):JS (.setattr o f e) L H .next L (H2.set k (.inst c (dv f v fs))):=λκ ω=>wR ω.1 (x κ ω).1 (y κ ω).1 h m z
theorem JS.br {o i e L H v a b H1 H2 H3 H4} (x:JE e L H v H1) (y:JE o L H1 a H2) (w:JE i L H2 b H3) (r:qX a b v H3 H4):JS (.br o i e) L H .next L H4:=λκ ω=>yz (x κ ω).1 (y κ ω).1 (w κ ω).1 r
theorem JS.ifs {c a b L H t f L' H1 H2} (x:JT c L H t H1) (y:xW (if t then a else b) L H1 f L' H2):JS (.ite c a b) L H f L' H2:=λκ ω=>GB (x κ ω) (y κ ω)
theorem JS.whl {c b L H f L' H'} (x:JW c b L H f L' H'):JS (.while c b) L H f L' H':=λκ ω=>GC (x κ ω)
theorem JS.yI {t i b L H xs g f L' H1 H2} (x:JI i L H xs g H1) (y:JF t b g xs L (g.fz H1) f L' H2) (o:g.ok H2):JS (.for t i b) L H f L' (g.th H2):=λκ ω=>Dy (x κ ω) (y κ ω) o
theorem JS.ret {e L H v H1} (x:JE e L H v H1):JS (.ret e) L H (.ret v) L H1:=λκ ω=>Gv (x κ ω).1
theorem JS.cont {L H}:JS .cont L H .cont L H:=λκ ω=>Dq
theorem JS.sup {l L H k fs vs H1 H2} (s:L[0]?=some (some (.ref k))) (h:H[k]?=some (.inst pg.wp fs)) (x:vJ l L H vs H1) (y:JR pg.sup (.ref k::vs) H1 .none H2):JS (.sup l) L H .next L H2:=λκ ω=>GJ ω.1 ω.2 s h (x κ ω) (y κ ω)
theorem xW.Po {L H}:xW .nil L H .next L H:=λκ ω=>Dr
theorem xW.MR {s r L H L1 H1 f L' H'} (x:JS s L H .next L1 H1) (y:xW r L1 H1 f L' H'):xW (.cons s r) L H f L' H':=λκ ω=>A6 (x κ ω) (y κ ω)
theorem xW.Pp {s r L H v L' H'} (x:JS s L H (.ret v) L' H'):xW (.cons s r) L H (.ret v) L' H':=λκ ω=>Ds (x κ ω)
theorem xW.MS {s r L H L' H'} (x:JS s L H .cont L' H'):xW (.cons s r) L H .cont L' H':=λκ ω=>A7 (x κ ω)
theorem JF.Pq {t b g L H} (o:g.ok H):JF t b g [] L H .next L H:=λκ ω=>Dv
theorem JF.Pt {t b g x xs L H L1 v L' H'} (o:g.ok H) (r:zY t x L L1) (e:xW b L1 H (.ret v) L' H'):JF t b g (x::xs) L H (.ret v) L' H':=λκ ω=>Dw o r (e κ ω)
theorem JF.MT {t b g x xs L H L1 fl L2 H2 f L' H'} (o:g.ok H) (r:zY t x L L1) (e:xW b L1 H fl L2 H2) (o2:g.ok H2) (n:fl= .next∨fl= .cont) (w:JF t b g xs L2 H2 f L' H'):JF t b g (x::xs) L H f L' H':=λκ ω=>A9 o r (e κ ω) o2 n (w κ ω)
theorem JW.Pu {c b L H H1} (x:JT c L H false H1):JW c b L H .next L H1:=λκ ω=>Dt (x κ ω)
theorem JW.Pv {c b L H H1 v L' H'} (x:JT c L H true H1) (e:xW b L H1 (.ret v) L' H'):JW c b L H (.ret v) L' H':=λκ ω=>Du (x κ ω) (e κ ω)
theorem JW.MU {c b L H H1 fl L2 H2 f L' H'} (x:JT c L H true H1) (e:xW b L H1 fl L2 H2) (n:fl= .next∨fl= .cont) (w:JW c b L2 H2 f L' H'):JW c b L H f L' H':=λκ ω=>A8 (x κ ω) (e κ ω) n (w κ ω)
theorem JR.run {f d vs H fl L' H'} (h:pg.fn f=some d) (k:d.takes vs.length) (e:xW d.body (d.start vs) H fl L' H'):JR f vs H fl.val H':=λκ ω=>by obtain⟨fd,body,nm,rf,F,z⟩:=ω.3.1 _ _ h;exact z.elim (λz=>GG F z.1 z.2 k (e κ ω)) λz=>DH F z k (e κ ω)
end
section
noncomputable def i6.tl (b:i6):i6:=b.casesOn .nil λ_ r=>r
noncomputable def i6.at (b:i6) (n:Nat):CS:=i6.casesOn (motive_2:=λ_=>CS) (n.rec b λ_=>i6.tl) .cont λs _=>s
noncomputable def CS.in (s:CS):i6:=s.casesOn (λ_=>.nil) (λ_ _=>.nil) (λ_ _ _=>.nil) (λ_ _ _=>.nil) (λ_ a _=>a) (λ_ a=>a) (λ_ _ a=>a) (λ_=>.nil) .nil λ_=>.nil
noncomputable def i6.dr (b:i6) (n:Nat):i6:=n.rec b λ_=>i6.tl
noncomputable def bo (f:Nat):i6:=((pg.fn f).map (·.body)).getD .nil
abbrev Ps:=Fl->Lc->Hp->Prop
noncomputable def WS (s:CS) (L:Lc) (H:Hp) (Q:Ps):Prop:=∃f L' H',JS s L H f L' H'∧Q f L' H'
noncomputable def cB (l:i6) (L:Lc) (H:Hp) (Q:Ps):Prop:=∃f L' H',xW l L H f L' H'∧Q f L' H'
noncomputable def Fl.go:Fl->Bool
 | .ret _=>false
 |_=>true
noncomputable def Nx (r:i6) (Q:Ps):Ps
 | .next,L,H=>cB r L H Q
 |f,L,H=>Q f L H
variable {L L1 L':Lc} {H H' H1 H2 H3 H4:Hp} {Q:Ps} {r a b:i6} {e o i c:CE} {s:CS} {v:V} {G:Prop}
theorem cB.cons (h:WS s L H (Nx r Q)):cB (.cons s r) L H Q:=by
 obtain⟨f,L',H',j,q⟩:=h
 cases f with
 |next=>obtain⟨f,L2,H2,j2,q⟩:=q;exact⟨_,_,_,.MR j j2,q⟩
 |cont=>exact⟨_,_,_,.MS j,q⟩
 |ret v=>exact⟨_,_,_,.Pp j,q⟩
theorem cB.nil (q:Q .next L H):cB .nil L H Q:=⟨_,_,_,.Po,q⟩
theorem cB.cut (R:Lc->Hp->Prop) (h:∀K:Ps,(∀{L' H'},R L' H'->K .next L' H')->WS s L H K) (q:∀L' H',R L' H'->cB r L' H' Q):cB (.cons s r) L H Q:=
 .cons (h _ λk=>q _ _ k)
theorem cB.expr (x:JE e L H v H1) (h:cB r L H1 Q):cB (.cons (.expr e) r) L H Q:=.cons ⟨_,_,_,.expr x,h⟩
theorem cB.set {k} (x:JE e L H v H1) (h:cB r (L.set k (some v)) H1 Q):cB (.cons (.set (.v k) e) r) L H Q:=.cons ⟨_,_,_,.set x (.v _ _ _),h⟩
theorem cB.J2 {k m} {x y:V} (j:JE e L H (.tup [x,y]) H1) (h:cB r ((L.set k (some x)).set m (some y)) H1 Q):cB (.cons (.set (.p k m) e) r) L H Q:=
 .cons ⟨_,_,_,.set j (.p _ _ _ _ _),h⟩
theorem cB.setattr {f k cl fs} (x:JE e L H v H1) (y:JE o L H1 (.ref k) H2) (g:H2[k]?=some (.inst cl fs)) (m:pg.xT cl f=none) (z:Nat.ble fs.length 100=true)
  (h:cB r L (H2.set k (.inst cl (dv f v fs))) Q):cB (.cons (.setattr o f e) r) L H Q:=.cons ⟨_,_,_,.setattr x y g m (d5 z),h⟩
theorem cB.br {u w:V} (x:JE e L H v H1) (y:JE o L H1 u H2) (z:JE i L H2 w H3) (s:qX u w v H3 H4) (h:cB r L H4 Q):cB (.cons (.br o i e) r) L H Q:=
 .cons ⟨_,_,_,.br x y z s,h⟩
theorem WS.ite {t} {K:Ps} (x:JT c L H t H1) (ht:t=true->cB a L H1 K) (hf:t=false->cB b L H1 K):WS (.ite c a b) L H K:=by
 cases t
 ·obtain⟨f,L',H',j2,q⟩:=hf rfl;exact⟨_,_,_,.ifs x j2,q⟩
 ·obtain⟨f,L',H',j2,q⟩:=ht rfl;exact⟨_,_,_,.ifs x j2,q⟩
theorem cB.ite {t} (x:JT c L H t H1) (ht:t=true->cB a L H1 (Nx r Q)) (hf:t=false->cB b L H1 (Nx r Q)):cB (.cons (.ite c a b) r) L H Q:=.cons (.ite x ht hf)
theorem cB.then (x:JT c L H true H1) (h:cB a L H1 (Nx r Q)):cB (.cons (.ite c a b) r) L H Q:=.ite x (λ_=>h) λz=>ff z.symm
theorem cB.else (x:JT c L H false H1) (h:cB b L H1 (Nx r Q)):cB (.cons (.ite c a b) r) L H Q:=.ite x ff λ_=>h
theorem cB.pass (x:JT c L H false H1) (h:cB r L H1 Q):cB (.cons (.ite c a .nil) r) L H Q:=.else x (.nil h)
theorem cB.ret (x:JE e L H v H1) (h:Q (.ret v) L H1):cB (.cons (.ret e) r) L H Q:=.cons ⟨_,_,_,.ret x,h⟩
theorem cB.cont (h:Q .cont L H):cB (.cons .cont r) L H Q:=.cons ⟨_,_,_,.cont,h⟩
theorem cB.sup {l k fs vs} (s:L[0]?=some (some (.ref k))) (h:H[k]?=some (.inst pg.wp fs)) (x:vJ l L H vs H1) (y:JR pg.sup (.ref k::vs) H1 .none H2) (q:cB r L H2 Q):
  cB (.cons (.sup l) r) L H Q:=.cons ⟨_,_,_,.sup s h x y,q⟩
theorem dc (f:Nat) (vs:List V) (H:Hp) {d:Fn} (h:pg.fn f=some d) (k:(decide (vs.length≤d.np)&&decide (d.np≤vs.length+d.defs.length))=true) (e':d.start vs=L)
  (q:∀Q:Ps,(∀{fl L' H'},(JR f vs H fl.val H'->G)->Q fl L' H')->cB d.body L H Q):G:=by
 obtain⟨fl,L',H',j,q2⟩:=q (λfl L' H'=>JR f vs H fl.val H'->G) id
 subst e';simp only[md,decide_eq_true_eq]at k;exact q2 (JR.run h k j)
theorem Ae {α:Type} {xs:List α} (A:List α->Nat->Prop) (h0:A [] xs.length) (h1:∀y ys n,xs[n]?=some y->A ys (n+1)->A (y::ys) n):A xs 0:=by
 suffices z:∀ys pre,xs=pre++ys->A ys pre.length from z xs [] rfl
 intro ys;induction ys with
 |nil=>intro pre e;rw[aO]at e;exact e▸h0
 |cons y ys ih=>intro pre e;exact h1 y ys _ (by rw[e,aX (aC _),ez];rfl) (aq (as:=pre) (bs:=[y])▸ih _ (e.trans (List.append_cons ..)))
noncomputable def Gn (I:Lc->Hp->Prop) (O:V->Lc->Hp->Prop):Ps
 | .ret v,L,H=>O v L H
 |_,L,H=>I L H
variable {I:Lc->Hp->Prop} {O:V->Lc->Hp->Prop} {f:Fl}
theorem Gn.on (z:f.go=true) (h:I L H):Gn I O f L H:=by
 cases f with
 |ret=>exact ff z
 |_=>exact h
theorem Gn.or (q:Gn I O f L H):((f= .next∨f= .cont)∧I L H)∨∃v,f= .ret v∧O v L H:=by
 cases f with
 |ret v=>exact .inr ⟨v,rfl,q⟩
 |next=>exact .inl ⟨.inl rfl,q⟩
 |cont=>exact .inl ⟨.inr rfl,q⟩
section
variable {t:Tg} {xs:List V} {g:Gd} {it:CI} {k m:Nat} {σ:Type}
noncomputable def Tn (xs:List V) (I:Nat->Lc->Hp->Prop) (g:Gd) (Q:Ps) (B:V->Lc->Hp->Ps->Prop):Prop:=
 ∀n y L H (K:Ps),xs[n]?=some y->I n L H->(∀{f L' H'},f.go=true->I (n+1) L' H'->K f L' H')->(∀{v L' H'},g.ok H'->Q (.ret v) L' (g.th H')->K (.ret v) L' H')->B y L H K
theorem WS.for (x:JI it L H xs g H1) (I:Nat->Lc->Hp->Prop) (h0:I 0 L (g.fz H1)) (hg:∀{n L H},I n L H->g.ok H) (st:Tn xs I g Q λy L H K=>∃L1,zY t y L L1∧cB a L1 H K)
  (he:∀{L H},I xs.length L H->Q .next L (g.th H)):WS (.for t it a) L H Q:=by
 obtain⟨f,L',H',j,o,q⟩:=Ae (xs:=xs) (λys n=>∀L H,I n L H->∃f L' H',JF t a g ys L H f L' H'∧g.ok H'∧Q f L' (g.th H')) (λL H h=>⟨_,_,_,.Pq (hg h),hg h,he h⟩) (λy ys n hy ih L H h=>by
  obtain⟨L1,r,f,L2,H2,j,q⟩:=st n y L H (Gn (I (n+1)) λv L' H'=>g.ok H'∧Q (.ret v) L' (g.th H')) hy h Gn.on λo q=>⟨o,q⟩
  rcases q.or with⟨z,q⟩|⟨v,rfl,q⟩
  ·obtain⟨f2,L3,H3,j2,q2⟩:=ih _ _ q
   exact⟨_,_,_,.MT (hg h) r j (hg q) z j2,q2⟩
  ·exact⟨_,_,_,.Pt (hg h) r j,q⟩) _ _ h0
 exact⟨_,_,_,.yI x j o,q⟩
theorem cB.for (x:JI it L H xs g H1) (I:Nat->Lc->Hp->Prop) (h0:I 0 L (g.fz H1)) (hg:∀{n L H},I n L H->g.ok H) (st:Tn xs I g Q λy L H K=>cB a (L.set k (some y)) H K)
  (he:∀{L H},I xs.length L H->cB r L (g.th H) Q):cB (.cons (.for (.v k) it a) r) L H Q:=.cons (.for x I h0 hg (λn y L H K hy h k1 k2=>⟨_,.v _ _ _,st n y L H K hy h k1 k2⟩) he)
noncomputable def Lm {α:Type} (xs:List α) (Lf:Nat->σ->Lc) (P:Nat->σ->Hp->Prop) (g:Gd) (Q:Ps) (B:α->Lc->Hp->Ps->Prop):Prop:=
 ∀n y s H (K:Ps),xs[n]?=some y->P n s H->(∀{f} s' {H'},f.go=true->P (n+1) s' H'->K f (Lf (n+1) s') H')->(∀{v L' H'},g.ok H'->Q (.ret v) L' (g.th H')->K (.ret v) L' H')->B y (Lf n s) H K
theorem WS.yI {Q:Ps} (Lf:Nat->σ->Lc) (P:Nat->σ->Hp->Prop) (s0:σ) (x:JI it (Lf 0 s0) H xs g H1) (h0:P 0 s0 (g.fz H1)) (hg:∀{n s H},P n s H->g.ok H) (st:Lm xs Lf P g Q λy L H K=>∃L1,zY t y L L1∧cB a L1 H K)
  (he:∀s H,P xs.length s H->Q .next (Lf xs.length s) (g.th H)):WS (.for t it a) (Lf 0 s0) H Q:=by
 refine .for x (λn L H=>∃s,L=Lf n s∧P n s H) ⟨s0,rfl,h0⟩ (λq=>q.elim λ_ h=>hg h.2) (λn y L H K hy q k1 k2=>q.elim λs h=>?_) λq=>q.elim λs h=>h.1▸he s _ h.2
 rw[h.1];exact st n y s H K hy h.2 (λs' H' z h=>k1 z ⟨s',rfl,h⟩) k2
theorem cB.yI (Lf:Nat->σ->Lc) (P:Nat->σ->Hp->Prop) (s0:σ) (x:JI it (Lf 0 s0) H xs g H1) (h0:P 0 s0 (g.fz H1)) (hg:∀{n s H},P n s H->g.ok H) (st:Lm xs Lf P g Q λy L H K=>cB a (L.set k (some y)) H K)
  (he:∀s H,P xs.length s H->cB r (Lf xs.length s) (g.th H) Q):cB (.cons (.for (.v k) it a) r) (Lf 0 s0) H Q:=.cons (.yI Lf P s0 x h0 hg (λn y s H K hy h k1 k2=>⟨_,.v _ _ _,st n y s H K hy h k1 k2⟩) he)
theorem cB.DU (Lf:Nat->σ->Lc) (P:Nat->σ->Hp->Prop) (s0:σ) (x:JI it (Lf 0 s0) H xs g H1) (h0:P 0 s0 (g.fz H1)) (hg:∀{n s H},P n s H->g.ok H)
  (st:Lm xs Lf P g Q λy L H K=>∃u w,y= .tup [u,w]∧cB a ((L.set k (some u)).set m (some w)) H K) (he:∀s H,P xs.length s H->cB r (Lf xs.length s) (g.th H) Q):cB (.cons (.for (.p k m) it a) r) (Lf 0 s0) H Q:=
 .cons (.yI Lf P s0 x h0 hg (λn y s H K hy h k1 k2=>(st n y s H K hy h k1 k2).elim λu q=>q.elim λw q=>⟨_,q.1▸ .p _ _ _ _ _,q.2⟩) he)
end
noncomputable def Wh (c':CE) (a':i6) (L0:Lc) (H0:Hp) (K Q':Ps):Prop:=∃t H5,JT c' L0 H0 t H5∧(t=true->cB a' L0 H5 K)∧(t=false->Q' .next L0 H5)
theorem Wh.mk {L0:Lc} {H0 H5} {c' a' t} {K Q':Ps} (x:JT c' L0 H0 t H5) (ht:t=true->cB a' L0 H5 K) (hf:t=false->Q' .next L0 H5):Wh c' a' L0 H0 K Q':=⟨_,_,x,ht,hf⟩
theorem WS.while (I:Nat->Lc->Hp->Prop) {n:Nat} (h0:I n L H)
  (st:∀n L H (K:Ps),I n L H->(∀{f L' H'} m,m<n->f.go=true->I m L' H'->K f L' H')->(∀{v L' H'},Q (.ret v) L' H'->K (.ret v) L' H')->Wh c a L H K Q):WS (.while c a) L H Q:=by
 suffices A:∃f L' H',JW c a L H f L' H'∧Q f L' H' from A.elim λf q=>q.elim λL' q=>q.elim λH' q=>⟨_,_,_,.whl q.1,q.2⟩
 induction n using Nat.strongRecOn generalizing L H with
 |_ n ih=>
  obtain⟨t,H1,x,ht,hf⟩:=st n L H (Gn (λL' H'=>∃m,m<n∧I m L' H') λv L' H'=>Q (.ret v) L' H') h0 (λm a b c=>Gn.on b ⟨m,a,c⟩) id
  cases t
  ·exact⟨_,_,_,.Pu x,hf rfl⟩
  ·obtain⟨f,L',H',j2,q⟩:=ht rfl
   rcases q.or with⟨z,m,hm,q⟩|⟨v,rfl,q⟩
   ·obtain⟨f2,L2,H2,j3,q⟩:=ih m hm q
    exact⟨_,_,_,.MU x j2 z j3,q⟩
   ·exact⟨_,_,_,.Pv x j2,q⟩
theorem cB.while (I:Nat->Lc->Hp->Prop) (n:Nat) (h0:I n L H)
  (st:∀n L H (K:Ps),I n L H->(∀{f L' H'} m,m<n->f.go=true->I m L' H'->K f L' H')->(∀{v L' H'},Q (.ret v) L' H'->K (.ret v) L' H')->Wh c a L H K (Nx r Q)):
  cB (.cons (.while c a) r) L H Q:=.cons (.while I h0 st)
theorem cB.pO {σ:Type} (Lf:σ->Lc) (P:σ->Hp->Prop) (μ:σ->Nat) (s0:σ) (h0:P s0 H)
  (st:∀s H (K:Ps),P s H->(∀{f} s' {H'},f.go=true->P s' H'->μ s'<μ s->K f (Lf s') H')->(∀{v L' H'},Q (.ret v) L' H'->K (.ret v) L' H')->Wh c a (Lf s) H K (Nx r Q)):
  cB (.cons (.while c a) r) (Lf s0) H Q:=
 .while (λn L H=>∃s,L=Lf s∧P s H∧n=μ s) (μ s0) ⟨s0,rfl,h0,rfl⟩ λn L H K q k1 k2=>q.elim λs q=>q.1▸st s H K q.2.1 (λs' H' z h u=>k1 _ (q.2.2▸u) z ⟨s',rfl,h,rfl⟩) k2
theorem Wh.yes {L0:Lc} {H0 H5} {c' a'} {K Q':Ps} (x:JT c' L0 H0 true H5) (h:cB a' L0 H5 K):Wh c' a' L0 H0 K Q':=.mk x (λ_=>h) λz=>ff z.symm
theorem Wh.no {L0:Lc} {H0 H5} {c' a'} {K Q':Ps} (x:JT c' L0 H0 false H5) (h:Q' .next L0 H5):Wh c' a' L0 H0 K Q':=.mk x ff λ_=>h
noncomputable def Cp (ifs:mw) (elt:CE) (g:Gd) (L':Lc) (H0:Hp) (I0:Hp->Prop) (I1:V->Hp->Prop):Prop:=∃H5,(JA ifs L' H0 false H5∧I0 H5)∨(JA ifs L' H0 true H5∧g.ok H5∧∃w H6,JE elt L' H5 w H6∧I1 w H6)
section
variable {ifs:mw} {elt:CE} {g:Gd} {L':Lc} {H0 H5 H6:Hp} {w:V} {I0:Hp->Prop} {I1:V->Hp->Prop}
theorem Cp.no (x:JA ifs L' H0 false H5) (q:I0 H5):Cp ifs elt g L' H0 I0 I1:=⟨_,.inl ⟨x,q⟩⟩
theorem Cp.yes (x:JA ifs L' H0 true H5) (o:g.ok H5) (j:JE elt L' H5 w H6) (q:I1 w H6):Cp ifs elt g L' H0 I0 I1:=⟨_,.inr ⟨x,o,_,_,j,q⟩⟩
end
theorem rM {elt ifs g} {xs:List V} (I:Nat->List V->Hp->Prop) (h0:I 0 [] H) (hg:∀{n ys H},I n ys H->g.ok H) (hl:∀{n ys H},I n ys H->ys.length≤n) (hz:xs.length≤SZ)
  (st:∀n x ys H,xs[n]?=some x->I n ys H->Cp ifs elt g (L++[some x]) H (λH1=>I (n+1) ys H1) λv H2=>I (n+1) (ys++[v]) H2)
  (he:∀{ys H'},JC elt ifs L g xs [] H ys H'->I xs.length ys H'->G):G:=by
 obtain⟨us,H',j,q⟩:=Ae (xs:=xs) (λzs n=>∀ys H,I n ys H->∃us H',JC elt ifs L g zs ys H us H'∧I xs.length us H') (λys H h=>⟨_,_,.Pn (hg h),h⟩) (λy zs n hy ih ys H h=>by
  rcases st n y ys H hy h with⟨H5,⟨x,q⟩|⟨x,o,_,_,j,q⟩⟩
  ·obtain⟨us,H2,j2,w⟩:=ih _ _ q
   exact⟨_,_,.cf (hg h) x (hg q) j2,w⟩
  ·obtain⟨us,H3,j2,w⟩:=ih _ _ q
   exact⟨_,_,.ct (hg h) x j (ax (hl h) (aw (ah.1 hy).1 hz)) o (hg q) j2,w⟩) _ _ h0
 exact he j q
inductive C2 (a b:Prop):Prop
 |mk (_:a) (_:b)
inductive C3 (a b c:Prop):Prop
 |mk (_:a) (_:b) (_:c)
inductive C4 (a b c d:Prop):Prop
 |mk (_:a) (_:b) (_:c) (_:d)
inductive C5 (a b c d e:Prop):Prop
 |mk (_:a) (_:b) (_:c) (_:d) (_:e)
inductive C6 (a b c d e f:Prop):Prop
 |mk (_:a) (_:b) (_:c) (_:d) (_:e) (_:f)
section
variable {n k:Nat} {a b:CE} {t t':Bool} {v w x y:V} {o:B3} {l:List Nat} {c':Nat}
theorem JT.to (h:JT c L H t H1) (e:t=t'):JT c L H t' H1:=e▸h
theorem JE.to (h:JE a L H v H1) (e:v=w):JE a L H w H1:=e▸h
theorem JI.to {it:CI} {xs ys:List V} {g:Gd} (h:JI it L H xs g H1) (e:xs=ys):JI it L H ys g H1:=e▸h
theorem d6.to {q r:Option V} (h:d6 H c' v q) (e:q=r):d6 H c' v r:=e▸h
theorem cN.to (h:cN H o x y t) (e:t=t'):cN H o x y t':=e▸h
theorem cN.ltT (h:n<k):cN H .lt (.int n) (.int k) true:=cN.to (.lt _ _) (decide_eq_true (bz.2 h))
theorem cN.ltF (h:k≤n):cN H .lt (.int n) (.int k) false:=cN.to (.lt _ _) (decide_eq_false λz=>bG.2 h (bz.1 z))
theorem cN.geT (h:k≤n):cN H .ge (.int n) (.int k) true:=cN.to (.ge _ _) (decide_eq_true (dR.2 h))
theorem cN.geF (h:n<k):cN H .ge (.int n) (.int k) false:=cN.to (.ge _ _) (decide_eq_false λz=>bG.2 (dR.1 z) h)
end
end
section
noncomputable def Ext (H H':Hp):Prop:=∀(b:Nat) (o:O),H[b]?=some o->H'[b]?=some o
theorem Ext.r {H:Hp}:Ext H H:=λ_ _ h=>h
theorem Ext.trans {H1 H2 H3:Hp} (a:Ext H1 H2) (b:Ext H2 H3):Ext H1 H3:=λ_ _ h=>b _ _ (a _ _ h)
theorem Ext.app {H:Hp} {l}:Ext H (H++l):=λb o h=>(aG (ah.1 h).1).trans h
theorem Ext.none {H H':Hp} {a:Nat} (e:Ext H H') (h:H'[a]?= .none):H[a]?= .none:=by
 cases k:H[a]? with
 |none=>rfl
 |some o=>exact c7 h (e _ _ k)
theorem Ext.set {H H':Hp} {a:Nat} {o:O} (e:Ext H H') (h:H[a]?= .none):Ext H (H'.set a o):=λb p k=>
 (a7 λz=>c7 h (z▸k)).trans (e _ _ k)
theorem rN {H:Hp} {a b:Nat} {o p:O} (h:H[a]?=some o) (k:H[b]?=some p) (n:o≠p):a≠b:=
 λz=>n (ay (h.symm.trans (z▸k)))
theorem dj {H:Hp} {a b:Nat} {o p:O} (h:H[a]?=some o) (k:H[b]?=some p) (n:Nat.beq o.ctorIdx p.ctorIdx=false):a≠b:=
 rN h k λe=>ff ((n.symm.trans (e▸Nat.beq_refl _)))
theorem J3 {H:Hp} {a b c d:Nat} {fs gs} (h:H[a]?=some (.inst c fs)) (k:H[b]?=some (.inst d gs)) (n:Nat.beq c d=false):a≠b:=rN h k λe=>ff (n.symm.trans ((O.inst.inj e).1▸Nat.beq_refl _))
theorem e_ {H:Hp} {a b:Nat} {p:O} (h:H[a]?= .none) (k:H[b]?=some p):b≠a:=λz=>c7 h (z▸k)
theorem dq {H:Hp} {a:Nat} {o p:O} (h:H[a]?=some o):(H.set a p)[a]?=some p:=aZ (ah.1 h).1
theorem eK {H:Hp} {a b:Nat} {o p:O} (h:H[b]?=some o) (n:b≠a):(H.set a p)[b]?=some o:=(a7 (d4 n)).trans h
theorem Fw {H:Hp}:H[H.length]?=none:=bT (aC _)
theorem Fx {H:Hp} {o:O}:(H++[o])[H.length]?=some o:=bv
section
variable {l:mw} {L:Lc} {H H1 H2:Hp} {vs:List V} {G:Prop}
theorem jM (x:vJ l L H vs H1) (z:vs.length≤SZ) (k:∀a H2,JE (.list l) L H (.ref a) H2->H1[a]?=none->H2[a]?=some (.list vs)->Ext H1 H2->G):G:=
 k _ _ (.list x z) Fw Fx .app
theorem hS (k:∀a H2,JE (.list .nil) L H (.ref a) H2->H[a]?=none->H2[a]?=some (.list [])->Ext H H2->G):G:=jM .bm (bw _) k
noncomputable def MV (k:Nat):O:=if k=0 then .bj []else if k=1 then .bX []else .kJ 0
theorem lS {n:Nat} (k:∀a H2,JE (.iM n) L H (.ref a) H2->H[a]?=none->H2[a]?=some (MV n)->Ext H H2->G):G:=
 k _ _ .iM Fw Fx .app
theorem qn {e b} {l:List V} (x:JE e L H (.ref b) H1) (o:H1[b]?=some (.list l)) (z:l.length≤SZ)
  (k:∀a H2,JE (.listOf e) L H (.ref a) H2->H1[a]?=none->H2[a]?=some (.list l)->Ext H1 H2->G):G:=k _ _ (.listOf x o z) Fw Fx .app
theorem GN {e v} {l:List Int} (x:JE e L H v H1) (o:jK H1 v l) (z:l.length<64)
  (k:∀a H2,JE (.sorted e) L H (.ref a) H2->H1[a]?=none->H2[a]?=some (.list (di (FK l)))->Ext H1 H2->G):G:=k _ _ (.sorted x o z) Fw Fx .app
theorem GP {e f b u} {n:Nat} (x:JE e L H (.ref b) H1) (y:JE f L H1 (.int n) H2) (o:H2[b]?=some (.list [u])) (z:n≤SZ)
  (k:∀a H3,JE (.bin .mul e f) L H (.ref a) H3->H2[a]?=none->H3[a]?=some (.list (List.replicate n u))->Ext H2 H3->G):G:=k _ _ (.bin x y (.rep o z)) Fw Fx .app
theorem MW {e f b c} {l m:List V} (x:JE e L H (.ref b) H1) (y:JE f L H1 (.ref c) H2) (o:H2[b]?=some (.list l)) (p:H2[c]?=some (.list m)) (z:l.length+m.length≤SZ)
  (k:∀a H3,JE (.bin .add e f) L H (.ref a) H3->H2[a]?=none->H3[a]?=some (.list (l++m))->Ext H2 H3->G):G:=k _ _ (.bin x y (.cat o p z)) Fw Fx .app
theorem IC {e f v r} {n:Nat} (x:JE e L H v H1) (y:JE f L H1 (.int n) H2) (o:sU H2 v n r) (z:n≤SZ)
  (k:∀a H3,JE (.sL e f) L H (.ref a) H3->H2[a]?=none->H3[a]?=some (.list r)->Ext H2 H3->G):G:=k _ _ (.sL x y o z) Fw Fx .app
theorem J4 {e f v r} {n:Nat} (x:JE e L H v H1) (y:JE f L H1 (.int n) H2) (o:wC H2 v n r) (z:n≤SZ)
  (k:∀a H3,JE (.rF e f) L H (.ref a) H3->H2[a]?=none->H3[a]?=some (.list r)->Ext H2 H3->G):G:=k _ _ (.rF x y o z) Fw Fx .app
theorem kh {caps:List Nat} {elt ifs L1} {it:CI} {xs ys:List V} {g:Gd} (c:L1=caps.map (λi=>(L[i]?).join)) (x:JI it L H xs g H1) (ng:g.Cb=false) (y:JC elt ifs L1 g xs [] H1 ys H2) (z:ys.length≤SZ)
  (k:∀a H3,JE (.comp caps elt it ifs) L H (.ref a) H3->H2[a]?=none->H3[a]?=some (.list ys)->Ext H2 H3->G):G:=k _ _ (.MP c x ng y z) Fw Fx .app
theorem new_ {c f:Nat} (x:vJ l L H vs H1) (i:pg.init c=some f)
  (k:∀a H2,H1[a]?=none->H2[a]?=some (.inst c [])->Ext H1 H2->(∀{H3},JR f (.ref a::vs) H2 .none H3->JE (.new c l) L H (.ref a) H3)->G):G:=
 k _ _ Fw Fx .app λy=>.new x i y
end
noncomputable def vn (l:List Nat):List V:=l.map fun(n:Nat)=>V.int (n:Int)
theorem aW (l:List Nat):(vn l).length=l.length:=ae _
theorem pP (a b:List Nat):vn (a++b)=vn a++vn b:=az
theorem vK {l:List Nat} {k:Nat}:vn l++[.int k]=vn (l++[k]):=(pP l [k]).symm
theorem iE (l:List Nat):vn l=di (l.map Int.ofNat):=bJ.symm
theorem vL {p:Nat->Bool} {n m:Nat} (h:∀i,p i=true->i<n) (k:∀i,p i=true->i<m):(List.range n).filter p=(List.range m).filter p:=by
 have A:∀n d,(∀i,p i=true->i<n)->(List.range n).filter p=(List.range (n+d)).filter p:=λn d h=>by
  rw[List.range_add,cS]
  rw[dS.2 λa ha hp=>(aA.1 ha).elim λx q=>bG.2 (bx n x) ((show n+x=a from q.2)▸h _ hp),aO]
 rcases Nat.le_total n m with e|e
 ·obtain⟨d,rfl⟩:=oF e;exact A _ _ h
 ·obtain⟨d,rfl⟩:=oF e;exact(A _ _ k).symm
noncomputable def dA (m:Nat):List Nat:=(List.range m).filter m.testBit
theorem uT {m i:Nat} (h:m.testBit i=true):i<m:=aw pj (d7 h)
theorem eO {m i:Nat}:i∈dA m↔m.testBit i=true:=
 bB.trans ⟨λh=>h.2,λh=>⟨a_.2 (uT h),h⟩⟩
theorem DV {m n:Nat} (h:m>>>n=0):(List.range n).filter m.testBit=dA m:=by
 refine vL (λi hi=>?_) λi hi=>uT hi
 rcases a9 i n with k|k
 ·exact k
 ·have:(m>>>n).testBit (i-n)=true:=by rw[mO];rwa[cY k]
  rw[h,je]at this;exact ff this
theorem vM {m:Nat} {H:Hp} {G:Prop} (z:m<2^20) (k:∀a H',JR 0 [.int m] H (.ref a) H'->H[a]?=none->H'[a]?=some (.list (vn (dA m)))->Ext H H'->G):G:=by
 refine dc 0 [.int m] H rfl rfl (L:=[some (.int m),none,none,none]) rfl λQ q=>?_
 refine hS λa H1 j fr g e=>.set j (.set .lit (.set (.var rfl) ?_))
 refine .while (λk L H2=>∃n,k=m>>>n∧L=[some (.int m),some (.ref a),some (.int n),some (.int (m>>>n:Nat))]∧Ext H H2∧H2[a]?=some (.list (vn ((List.range n).filter m.testBit)))) m ⟨0,rfl,rfl,e,g⟩ ?_
 rintro _ _ H2 K ⟨n,rfl,rfl,e,g⟩ kn kr
 refine .mk (.b9 (.var rfl) .lit (.gt _ _)) (λt=>?_) λt=>?_
 ·have t:=of_decide_eq_true t
  have t0:0<m>>>n:=fK.1 t
  refine .cut (λL' H'=>L'=[some (.int m),some (.ref a),some (.int n),some (.int (m>>>n:Nat))]∧Ext H H'∧H'[a]?=some (.list (vn ((List.range (n+1)).filter m.testBit)))) (λK kk=>?_) ?_
  ·have A:((m>>>n&&& 1:Nat):Int)=1↔m.testBit n=true:=a8.trans (by simp[Nat.testBit])
   refine .ite (.b9 (.bin (.var rfl) .lit (.band _ 1 _)) .lit (.eq (.int _ _))) (λt=>?_) λt=>?_
   ·rw[beq_iff_eq,A]at t
    refine .expr (.append (.var rfl) (.var rfl) ⟨_,g⟩ g ?_) (.nil (kk ⟨rfl,e.set fr,?_⟩))
    ·have h1:2^n≤m:=by
      rcases a9 m (2^n)with k|k
      ·rw[kH,Nat.div_eq_of_lt k]at t0;cases t0
      ·exact k
     rw[aW];exact ax (aj (bp ..) (aD aT)) (bH pj (ax h1 (bH z (by decide))))
    ·rw[dq g,bK,cS,cK t,pP];rfl
   ·rw[beq_eq_false_iff_ne,Ne,A]at t
    refine .nil (kk ⟨rfl,e,?_⟩)
    rw[g,bK,cS,c9 t,dG,aO]
  ·rintro _ H3 ⟨rfl,e,g⟩
   exact .set (.bin (.var rfl) .lit (.shr _ 1 _)) (.set (.bin (.var rfl) .lit (.add _ _ _)) (.nil (kn _ (Nat.div_lt_self t0 (by decide)) rfl ⟨n+1,rfl,rfl,e,g⟩)))
 ·have t:=of_decide_eq_false t
  have t:m>>>n=0:=Nat.eq_zero_of_not_pos λh=>t (fK.2 h)
  exact .ret (.var rfl) (q λj=>k a H2 j fr (by rw[g,DV t]) e)
end
section
theorem dW {k n:Nat} (h:k<n):place (k:Int) n=some k:=(if_pos (aS k)).trans (if_pos h)
theorem Item.nat {H:Hp} {a k:Nat} {l:List V} {x:V} (o:H[a]?=some (.list l)) (h:l[k]?=some x):Item H (.ref a) (.int (k:Int)) x:=
 .list o (dW (ah.1 h).1) h
theorem Item.DW {H:Hp} {k:Nat} {l:List V} {x:V} (h:l[k]?=some x) (z:l.length≤SZ):Item H (.tup l) (.int (k:Int)) x:=
 .tup z (dW (ah.1 h).1) h
theorem Item.last {H:Hp} {a:Nat} {l:List V} {x:V} (o:H[a]?=some (.list (l++[x]))):Item H (.ref a) (.int (-1)) x:=
 .list (k:=l.length) o (by rw[aq];exact(if_neg (by decide)).trans (if_pos (Nat.le_add_left 1 l.length))) bv
theorem get_map {α β:Type} {f:α->β} {l:List α} {k:Nat} {x:α} (h:l[k]?=some x):(l.map f)[k]?=some (f x):=by rw[aK,h];rfl
theorem kj {α β:Type} {f:α->β} {l:List α} {k:Nat} {x:β} (h:(l.map f)[k]?=some x):∃n,l[k]?=some n∧x=f n:=by
 rw[aK]at h;exact(bq.1 h).imp λn q=>⟨q.1,q.2.symm⟩
theorem cR {l:List Nat} {k x:Nat} (h:l[k]?=some x):(vn l)[k]?=some (.int (x:Int)):=get_map h
theorem DX {l:List Nat} {k:Nat} {x:V} (h:(vn l)[k]?=some x):∃n:Nat,l[k]?=some n∧x= .int n:=kj h
theorem GQ {l:List Nat} {k:Nat} {x:V} (h:(l.map V.ref)[k]?=some x):∃n:Nat,l[k]?=some n∧x= .ref n:=kj h
theorem dB {l:List Nat} {k x:Nat} (h:l[k]?=some x):(l.map V.ref)[k]?=some (.ref x):=get_map h
structure Ru where
 left:Nat
 right:List Nat
 lvl:Int
structure aJ where
 rules:List Ru
 levels:List (Int×V)
namespace aJ
variable(G:aJ)
noncomputable def own:List Nat:=(List.range G.rules.length).flatMap λr=>List.replicate ((G.rules[r]?.map (·.right.length)).getD 0+1) r
noncomputable def off (r:Nat):Nat:=((G.rules.take r).map λx=>x.right.length+1).sum
noncomputable def GR:List Nat:=(List.range G.rules.length).map G.off
noncomputable def gx (s:Nat):List Nat:=(List.range G.rules.length).filter λr=>(G.rules[r]?.map (·.left))==some s
noncomputable def rl (i:Nat):Nat:=G.own.getD i 0
noncomputable def dt (i:Nat):Nat:=i-G.off (G.rl i)
noncomputable def right (r:Nat):List Nat:=(G.rules[r]?.map (·.right)).getD []
noncomputable def left (r:Nat):Nat:=(G.rules[r]?.map (·.left)).getD 0
noncomputable def GU (i:Nat):Int:=match(G.right (G.rl i))[G.dt i]? with
 |some x=>x
 |none=> -1
inductive Ok:Prop
 |mk (len:G.rules.length=5) (lefts:∀(r:Nat) (x:Ru),G.rules[r]?=some x->x.left=if r=0 then 5 else if r<3 then 6 else 7) (Pw:∀(r:Nat) (x:Ru),G.rules[r]?=some x->x.right.length≤3) (r0:(G.rules[0]?.map λx:Ru=>x.right)=some [6,0]) (rs:∀(r:Nat) (x:Ru),G.rules[r]?=some x->0<r->∀s∈x.right,s=3∨s=4∨s=6∨s=7) (r1:∀x:Ru,G.rules[1]?=some x->∃s l,x.right=s::l∧s≠6) (r3:∀x:Ru,G.rules[3]?=some x->∀s∈x.right,s=3∨s=4) (r3l:∀x:Ru,G.rules[3]?=some x->x.right.length≤2) (lv:∀(r:Nat) (x:Ru),G.rules[r]?=some x-> -1≤x.lvl∧x.lvl<5) (uU:∀(k:Int) (v:V),(k,v)∈G.levels->∃(a:Nat) (b:Nat),v= .tup [.int a,.str b]∧b<4)
end aJ
structure GA where
 nm:Nat
 rl:Nat
 lv:Nat
 bl:Nat
 of:Nat
 ow:Nat
 rs:List Nat
 bs:List Nat
 ns:List Nat
noncomputable def B7 (i:Nat) (r:Ru):O:=.inst 5 [(7,.int i),(8,.int r.left),(6,.tup (vn r.right)),(16,.int r.lvl),(26,.none),(51,.int 0),(52,.int 0)]
inductive cg (H:Hp) (g:Nat) (G:aJ) (A:GA):Prop
 |mk (inst:H[g]?=some (.inst 4 [(47,.ref A.nm),(29,.int 5),(5,.ref A.rl),(15,.ref A.lv),(48,.none),(49,.int 6),(39,.ref A.bl),(37,.ref A.of),(36,.ref A.ow),(50,.int G.own.length)])) (rules:H[A.rl]?=some (.list (A.rs.map .ref))) (Pw:A.rs.length=G.rules.length) (rule:∀(i a:Nat),A.rs[i]?=some a->∃r,G.rules[i]?=some r∧H[a]?=some (B7 i r)) (bl:H[A.bl]?=some (.list (A.bs.map .ref))) (blen:A.bs.length=8) (brow:∀(s b:Nat),A.bs[s]?=some b->H[b]?=some (.list (vn (G.gx s)))) (of_:H[A.of]?=some (.list (vn G.GR))) (ow:H[A.ow]?=some (.list (vn G.own))) (lv:H[A.lv]?=some (.bj G.levels)) (nm:H[A.nm]?=some (.list (A.ns.map .str))) (nlen:A.ns.length=8) (ok:G.Ok)
theorem cg.ext {H H':Hp} {g G A} (h:cg H g G A) (e:Ext H H'):cg H' g G A:=.mk
 (e _ _ h.1)
 (e _ _ h.2)
 (h.3)
 (λi a k=>(h.4 i a k).imp λ_ q=>⟨q.1,e _ _ q.2⟩)
 (e _ _ h.5)
 (h.6)
 (λs b k=>e _ _ (h.7 s b k))
 (e _ _ h.8)
 (e _ _ h.9)
 (e _ _ h.10)
 (e _ _ h.11)
 (h.12)
 (h.13)
theorem cg.len {H:Hp} {g G A} (h:cg H g G A):A.rs.length=5:=h.3.trans h.13.1
theorem cg.at_ {H:Hp} {g G A} (h:cg H g G A) {r:Nat} {R:Prop} (z:r<5) (k:∀a x,A.rs[r]?=some a->G.rules[r]?=some x->H[a]?=some (B7 r x)->G.left r=x.left->G.right r=x.right->R):R:=by
 have:r<A.rs.length:=by rw[h.len];exact z
 obtain⟨x,a,b⟩:=h.4 r _ (ao this)
 exact k _ x (ao this) a b (by unfold aJ.left;rw[a];rfl) (by unfold aJ.right;rw[a];rfl)
namespace aJ
variable {G:aJ}
theorem GV:∀(f:Nat->Nat) (n:Nat) (i:Nat),i<((List.range n).flatMap λr=>List.replicate (f r+1) r).length->
  ∃r,((List.range n).flatMap λr=>List.replicate (f r+1) r)[i]?=some r∧r<n∧((List.range r).map λx=>f x+1).sum≤i∧i≤((List.range r).map λx=>f x+1).sum+f r:=by
 intro f n;induction n with
 |zero=>intro i h;simp at h
 |succ n ih=>
  intro i h
  have L:((List.range n).flatMap λr=>List.replicate (f r+1) r).length=((List.range n).map λx=>f x+1).sum:=by
   rw[jO];simp
  rw[bK,cH]at h ⊢
  simp only[cx,cV,aO,aq,bZ]at h ⊢
  rcases a9 i ((List.range n).flatMap λr=>List.replicate (f r+1) r).length with k|k
  ·obtain⟨r,a,b,c⟩:=ih i k
   exact⟨r,(aG k).trans a,eo b,c⟩
  ·exact⟨n,by rw[aX k,c_,if_pos (Nat.sub_lt_left_of_lt_add k h)],bW n,L▸k,bE (L▸h)⟩
theorem vN (G:aJ):∀r,r≤G.rules.length->G.off r=((List.range r).map λx=>((G.rules[x]?.map (·.right.length)).getD 0)+1).sum:=by
 intro r;induction r with
 |zero=>intro _;simp[off]
 |succ r ih=>
  intro h
  have:=ih (cv h)
  rw[bK,az,m6,←this]
  simp only[off]
  rw[aV,az,m6,ao h]
  simp only[Option.toList,bS,iU,List.sum_cons,List.sum_nil]
  rw[ao h];rfl
theorem i9 (G:aJ) {i:Nat} (h:i<G.own.length):G.own[i]?=some (G.rl i)∧G.rl i<G.rules.length∧G.off (G.rl i)≤i∧i≤G.off (G.rl i)+(G.right (G.rl i)).length:=by
 obtain⟨r,a,b,c,d⟩:=GV _ _ _ h
 have e:G.rl i=r:=(aF ..).trans (congrArg (Option.getD · 0) a)
 rw[e]
 refine⟨a,b,?_,?_⟩
 ·rw[vN G r (aI b)];exact c
 ·rw[vN G r (aI b)]
  have:(G.right r).length=(G.rules[r]?.map (·.right.length)).getD 0:=by
   unfold right;cases G.rules[r]?<;>rfl
  rw[this];exact d
end aJ
end
section
theorem lM {n:Nat} (h:n≤1000):n≤SZ:=aj h (by decide)
theorem sf {n:Nat} (h:n≤1000):n<SZ:=ax h (by decide)
section
variable {H:Hp} {g:Nat} {G:aJ} {A:GA} {R:Prop}
theorem iA (h:cg H g G A):JR 41 [.ref g] H (.int 8) H:=by
 refine dc 41 [.ref g] H rfl rfl (L:=[some (.ref g)]) rfl λQ q=>.ret (.len (.attr (.var rfl) h.1 rfl rfl) (.list h.11 (lM ?_))) (q λj=>?_)
 ·rw[ae,h.12];decide
 ·rw[ae,h.12]at j;exact j
theorem n7 (h:cg H g G A) {s:Int}:JR 46 [.ref g,.int s] H (.bool (decide (s<5))) H:=
 dc 46 [.ref g,.int s] H rfl rfl (L:=[some (.ref g),some (.int s)]) rfl λQ q=>.ret (.cmp (.var rfl) (.attr (.var rfl) h.1 rfl rfl) (.lt _ _)) (q id)
theorem DY (h:cg H g G A) {s:Nat} (z:s<5):JR 46 [.ref g,.int s] H (.bool true) H:=by
 have:=n7 h (s:=s);rwa[decide_eq_true (show(s:Int)<5 from bz.2 z)]at this
theorem DZ (h:cg H g G A) {s:Nat} (z:5≤s):JR 46 [.ref g,.int s] H (.bool false) H:=by
 have:=n7 h (s:=s);rwa[decide_eq_false (λw:(s:Int)<5=>bG.2 z (bz.1 w))]at this
theorem tw (h:cg H g G A) {i:Nat} (z:i<G.own.length):JR 37 [.ref g,.int i] H (.int (G.rl i)) H:=
 dc 37 [.ref g,.int i] H rfl rfl (L:=[some (.ref g),some (.int i)]) rfl λQ q=>.ret (.idx (.attr (.var rfl) h.1 rfl rfl) (.var rfl) (.nat h.9 (cR (G.i9 z).1))) (q id)
theorem Af (h:cg H g G A) {r:Nat} (z:r<5):G.GR[r]?=some (G.off r):=
 get_map (dE (h.13.1.symm▸z))
theorem MX {i:Nat} (z:i<G.own.length):(i:Int)-(G.off (G.rl i):Nat)=(G.dt i:Nat):=(lG (G.i9 z).2.2.1).symm
theorem ID (h:cg H g G A) {L:Lc} {i:Nat} (z:i<G.own.length) (x:L[0]?=some (some (.ref g))) (y:L[1]?=some (some (.int i))):
  JE (.bin .sub (.var 1) (.idx (.attr (.var 0) 37) (.idx (.attr (.var 0) 36) (.var 1)))) L H (.int (G.dt i)) H:=by
 rw[←MX z]
 exact .bin (.var y) (.idx (.attr (.var x) h.1 rfl rfl) (.idx (.attr (.var x) h.1 rfl rfl) (.var y) (.nat h.9 (cR (G.i9 z).1))) (.nat h.8 (cR (Af h (h.13.1▸(G.i9 z).2.1))))) (.sub _ _ _)
theorem Bf (h:cg H g G A) {i:Nat} (z:i<G.own.length):JR 38 [.ref g,.int i] H (.int (G.dt i)) H:=
 dc 38 [.ref g,.int i] H rfl rfl (L:=[some (.ref g),some (.int i)]) rfl λQ q=>.ret (ID h z rfl rfl) (q id)
theorem vO (h:cg H g G A) {r d:Nat} (z:r<5):JR 34 [.ref g,.int r,.int d] H (.int (G.off r+d:Nat)) H:=
 dc 34 [.ref g,.int r,.int d] H rfl rfl (L:=[some (.ref g),some (.int r),some (.int d)]) rfl λQ q=>.ret (.bin (.idx (.attr (.var rfl) h.1 rfl rfl) (.var rfl) (.nat h.8 (cR (Af h z)))) (.var rfl) (.add _ _ _)) (q id)
theorem tx (h:cg H g G A) {i:Nat} (z:i<G.own.length):JR 31 [.ref g,.int i] H (.int (G.GU i)) H:=by
 refine dc 31 [.ref g,.int i] H rfl rfl (L:=[some (.ref g),some (.int i),none,none]) rfl λQ q=>?_
 obtain⟨a,b,c,d⟩:=G.i9 z
 refine h.at_ (h.13.1▸b) λra x r1 r2 r3 r4 r5=>?_
 have zr:x.right.length≤SZ:=lM (aj (h.13.3 _ _ r2) (by decide))
 refine .set (.attr (.idx (.attr (.var rfl) h.1 rfl rfl) (.idx (.attr (.var rfl) h.1 rfl rfl) (.var rfl) (.nat h.9 (cR a))) (.nat h.2 (dB r1))) r3 rfl rfl) (.set (ID h z rfl rfl) ?_)
 have T:=JT.b9 (L:=[some (.ref g),some (.int i),some (.tup (vn x.right)),some (.int (G.dt i))]) (H:=H) (a:=.var 3) (b:=.len (.var 2)) (.var rfl) (.len (.var rfl) (.tup (by rw[aW];exact zr))) (.lt _ _)
 rw[aW]at T
 cases e:x.right[G.dt i]? with
 |some s=>
  have t:=(ah.1 e).1
  rw[decide_eq_true (bz.2 t)]at T
  rw[show G.GU i=s by unfold aJ.GU;rw[r5,e]]at q
  exact .ret (.ite T (.idx (.var rfl) (.var rfl) (.DW (cR e) (by rw[aW];exact zr)))) (q id)
 |none=>
  have t:=d8.1 e
  rw[decide_eq_false λw=>bG.2 t (bz.1 w)]at T
  rw[show G.GU i= -1 by unfold aJ.GU;rw[r5,e]]at q
  exact .ret (.ite T (.neg .lit)) (q id)
theorem kt (h:cg H g G A) (s:Nat):(G.gx s).length≤5:=by
 have:=bp (λr=>(G.rules[r]?.map (·.left))==some s) (List.range G.rules.length)
 rw[aT]at this;exact aj this (aD h.13.1)
theorem rO (h:cg H g G A) {s:Nat} (z:s<8) (q:∀a H',JR 33 [.ref g,.int s] H (.ref a) H'->H[a]?=none->H'[a]?=some (.list (vn (G.gx s)))->Ext H H'->R):R:=by
 refine dc 33 [.ref g,.int s] H rfl rfl (L:=[some (.ref g),some (.int s)]) rfl λQ k=>?_
 have e:=ao (h.6.symm▸z:s<A.bs.length)
 exact qn (.idx (.attr (.var rfl) h.1 rfl rfl) (.var rfl) (.nat h.5 (dB e))) (h.7 _ _ e) (lM (by rw[aW];exact aj (kt h s) (by decide))) λa H1 j f g e=>.ret j (k λj=>q a H1 j f g e)
end
end
section
noncomputable def Rows (H:Hp) (as:List Nat) (rows:Nat->List Nat):Prop:=∀(s b:Nat),as[s]?=some b->H[b]?=some (.list (vn (rows s)))
theorem Rows.set {H:Hp} {as rows} (h:Rows H as rows) (nd:as.Nodup) {s b:Nat} (k:as[s]?=some b) (l:List Nat):Rows (H.set b (.list (vn l))) as (λt=>if t=s then l else rows t):=by
 intro t c e
 show _=some (O.list (vn (if t=s then l else rows t)))
 by_cases d:t=s
 ·cases d;cases k.symm.trans e;rw[if_pos rfl];exact dq (h _ _ k)
 ·rw[if_neg d];exact eK (h _ _ e) λx=>d ((cP (ah.1 e).1 nd).1 (e.trans (x▸k.symm)))
theorem Rows.ne {H:Hp} {as rows} (h:Rows H as rows) {a:Nat} {o:O} (k:a∉as):Rows (H.set a o) as rows:=λs b e=>
 eK (h _ _ e) λx=>k (x▸am e)
theorem qo {α:Type} {P:α->Prop}:∀a∈([]:List α),P a:=λ_ m=>absurd m aR
theorem gQ {α:Type} {l:List α} {x:α} (n:l.Nodup) (h:x∉l):(l++[x]).Nodup:=
 f_.2 ⟨n,.cons nofun .nil,λa ha b hb e=>h (ak.1 hb▸e▸ha)⟩
theorem gV {α:Type} {l:List α} (nd:l.Nodup) {n:Nat} {x:α} (h:l[n]?=some x):x∉l.take n:=λm=>by
 obtain⟨i,hi⟩:=aP m
 have z:=aw (eQ▸(ah.1 hi).1) (Nat.min_le_left ..)
 rw[iw z]at hi
 exact cu z ((cP (bH z (ah.1 h).1) nd).1 (hi.trans h.symm))
theorem qp {L:Lc} {H:Hp} {a:Nat} {l xs:List V} {R:Prop} (o:H[a]?=some (.list l)) (z:xs.length≤SZ)
  (q:∀(as:List Nat) (H':Hp),JC (.list .nil) .nil L (.list a l) xs [] H (as.map .ref) H'->as.length=xs.length->as.Nodup->(∀b∈as,H'[b]?=some (.list [])∧H[b]?=none)->Ext H H'->R):R:=by
 refine rM (g:=.list a l) (xs:=xs) (elt:=.list .nil) (ifs:=.nil) (L:=L) (H:=H) (λn ys H'=>∃as:List Nat,ys=as.map V.ref∧as.length=n∧as.Nodup∧Ext H H'∧∀b∈as,H'[b]?=some (.list [])∧H[b]?=none) ⟨[],rfl,rfl,.nil,.r,nofun⟩ ?_ ?_ z ?_ ?_
 ·rintro n ys H' ⟨as,rfl,rfl,nd,e,m⟩;exact e _ _ o
 ·rintro n ys H' ⟨as,rfl,rfl,nd,e,m⟩;rw[ae];exact aC _
 ·rintro n x ys H'-⟨as,rfl,rfl,nd,e,m⟩
  refine hS λb H1 j fr g1 e1=>.yes .lw (e _ _ o) j ⟨as++[b],(az (l₂:=[b])).symm,aq,?_,e.trans e1,?_⟩
  ·exact gQ nd λhc=>c7 fr (m b hc).1
  ·exact λc hc=>(aE.1 hc).elim (λk=>⟨e1 _ _ (m c k).1,(m c k).2⟩) λk=>by
    cases ak.1 k;exact⟨g1,e.none fr⟩
 ·rintro ys H' j ⟨as,rfl,k,nd,e,m⟩;exact q as H' j k nd m e
noncomputable def B8 (G:aJ) (s:Nat):Prop:=∀P:Nat->Prop,(∀r<5,(∀s∈G.right r,P s)->P (G.left r))->P s
theorem B8.mk {G:aJ} (r:Nat) (z:r<5) (h:∀s∈G.right r,B8 G s):B8 G (G.left r):=λP k=>k r z λs m=>h s m P k
noncomputable def Nl (G:aJ) (fb:List Bool):Prop:=fb.length=8∧∀r<5,(∀s∈G.right r,fb[s]?=some true)->fb[G.left r]?=some true
theorem Nl.nul {G fb} (h:Nl G fb) {s} (n:B8 G s):fb[s]?=some true:=n _ h.2
noncomputable def vP (l:List Bool):List V:=l.map .bool
namespace iF
variable(G:aJ)
noncomputable def cnt (r:Nat) (P:List Nat):Nat:=(G.right r).countP λs=>!P.contains s
noncomputable def nh (n s:Nat):List Nat:=(List.range n).flatMap λr=>List.replicate ((G.right r).count s) r
theorem D0 {n s r:Nat} (h:r∈nh G n s):r<n:=
 (jf.1 h).elim λt q=>iy q.2▸a_.1 q.1
theorem Bg {n s r:Nat} (h:r<n):(nh G n s).count r=(G.right r).count s:=by
 induction n with
 |zero=>exact absurd h (bc _)
 |succ n ih=>
  rw[nh,bK,cH,List.count_append]
  rcases a9 r n with k|k
  ·have:=ih k;rw[nh]at this;rw[this,cx,cV,aO,List.count_replicate,if_neg λz=>du k (beq_iff_eq.1 z)];rfl
  ·cases bR (bE h) k
   have z:(nh G r s).count r=0:=List.count_eq_zero.2 λm=>dU _ (D0 G m)
   rw[nh]at z;rw[z,cx,cV,aO,List.count_replicate_self,mP]
theorem GW {r:Nat} {P:List Nat} {x:Nat} (h:x∉P):cnt G r P=cnt G r (P++[x])+(G.right r).count x:=by
 unfold cnt;induction G.right r with
 |nil=>rfl
 |cons a l ih=>
  simp only[mh,List.count_cons,ih]
  by_cases e:a=x
  ·subst e;simp[h];exact dk ..
  ·simp[e];exact dJ ..
inductive Sp (N:Nat) (P:List Nat) (f:Nat->Nat) (fb:List Bool) (lk:List Int) (q:List Nat):Prop
 |mk (fl:fb.length=8) (ll:lk.length=5) (nd:q.Nodup) (lt:∀s∈q,s<8) (fq:∀s,s∈q↔fb[s]?=some true) (lk:∀r<5,lk[r]?=some ((cnt G r P:Int)-f r)) (z:∀r<N,(cnt G r P:Int)-f r=0->fb[G.left r]?=some true)
end iF
namespace iF
variable {G:aJ} {A:GA} {g:Nat}
inductive Dj (H:Hp) (F K U q:Nat) (us:List Nat):Prop
 |mk (zf:H[F]?=none) (zk:H[K]?=none) (zu:H[U]?=none) (zq:H[q]?=none) (fu:∀b∈us,H[b]?=none) (fk:F≠K) (fu':F≠U) (fq:F≠q) (ku:K≠U) (kq:K≠q) (uq:U≠q) (nf:F∉us) (nk:K∉us) (nu:U∉us) (nq:q∉us) (nd:us.Nodup) (l8:us.length=8)
inductive Hs (H0 H:Hp) (F K U q:Nat) (us:List Nat) (fb:List Bool) (lk:List Int) (rows:Nat->List Nat) (ql:List Nat):Prop
 |mk (e:Ext H0 H) (gf:H[F]?=some (.list (vP fb))) (gk:H[K]?=some (.list (di lk))) (gu:H[U]?=some (.list (us.map .ref))) (r:Rows H us rows) (gq:H[q]?=some (.list (vn ql)))
section
variable {H0 H:Hp} {F K U q:Nat} {us:List Nat} {fb:List Bool} {lk:List Int} {rows:Nat->List Nat} {ql:List Nat}
theorem Hs.dv (h:Hs H0 H F K U q us fb lk rows ql) (d:Dj H0 F K U q us) (fb'):Hs H0 (H.set F (.list (vP fb'))) F K U q us fb' lk rows ql:=
 ⟨h.1.set d.1,dq h.2,eK h.3 d.6.symm,eK h.4 d.7.symm,h.5.ne d.12,eK h.6 d.8.symm⟩
theorem Hs.MY (h:Hs H0 H F K U q us fb lk rows ql) (d:Dj H0 F K U q us) (IE):Hs H0 (H.set K (.list (di IE))) F K U q us fb IE rows ql:=
 ⟨h.1.set d.2,eK h.2 d.6,dq h.3,eK h.4 d.9.symm,h.5.ne d.13,eK h.6 d.10.symm⟩
theorem Hs.Px (h:Hs H0 H F K U q us fb lk rows ql) (d:Dj H0 F K U q us) (GX):Hs H0 (H.set q (.list (vn GX))) F K U q us fb lk rows GX:=
 ⟨h.1.set d.4,eK h.2 d.8,eK h.3 d.10,eK h.4 d.11,h.5.ne d.15,dq h.6⟩
theorem Hs.Py (h:Hs H0 H F K U q us fb lk rows ql) (d:Dj H0 F K U q us) {s b:Nat} (k:us[s]?=some b) (l:List Nat):
  Hs H0 (H.set b (.list (vn l))) F K U q us fb lk (λt=>if t=s then l else rows t) ql:=
 have m:=am k
 ⟨h.1.set (d.5 b m),eK h.2 λx=>d.12 (x▸m),eK h.3 λx=>d.13 (x▸m),eK h.4 λx=>d.14 (x▸m),h.5.set d.16 k l,eK h.6 λx=>d.15 (x▸m)⟩
theorem Hs.row (h:Hs H0 H F K U q us fb lk rows ql) (d:Dj H0 F K U q us) {s:Nat} (z:s<8):∃b,us[s]?=some b∧H[b]?=some (.list (vn (rows s))):=
 ⟨_,ao (d.17▸z),h.5 _ _ (ao (d.17▸z))⟩
end
theorem lT (o:G.Ok) {r s:Nat} (h:s∈G.right r):s<8:=by
 unfold aJ.right at h
 cases e:G.rules[r]? with
 |none=>rw[e]at h;exact absurd h aR
 |some x=>
  rw[e]at h
  have h:s∈x.right:=h
  rcases pY r with k|k
  ·subst k;have:=o.4;rw[e]at this;rw[show x.right=[6,0] from ay this]at h;exact(by decide:∀s∈[6,0],s<8) s h
  ·rcases o.5 r x e k s h with e|e|e|e<;>rw[e]<;>decide
theorem jV (o:G.Ok) {r:Nat} (h:r<5):G.left r<8:=by
 have:r<G.rules.length:=by rw[o.1];exact h
 have e:=ao this
 generalize G.rules[r]=x at e
 have:=o.2 r _ e
 unfold aJ.left;rw[e];show x.left<8;rw[this]
 by_cases a:r=0
 ·rw[if_pos a];decide
 ·rw[if_neg a];by_cases b:r<3
  ·rw[if_pos b];decide
  ·rw[if_neg b];decide
theorem rj (o:G.Ok) (r:Nat):(G.right r).length≤3:=by
 unfold aJ.right
 cases e:G.rules[r]? with
 |none=>simp
 |some x=>exact o.3 r x e
theorem Ag (o:G.Ok) (n s:Nat):(nh G n s).length≤3*n:=by
 induction n with
 |zero=>simp[nh]
 |succ n ih=>
  rw[nh,bK,cH,aq]
  rw[cx,cV,aO,bZ]
  exact cU ih (aj oG (rj o n))
theorem Sp.MZ {N P f fb lk q} (h:Sp G N P f fb lk q):q.length≤8:=by
 exact aT (n:=8)▸bu h.3 λs m=>a_.2 (h.4 s m)
theorem Sp.mark {N P f fb lk q l} (h:Sp G N P f fb lk q) (hl:l<8) (hf:fb[l]?=some false):Sp G N P f (fb.set l true) lk (q++[l]):=.mk
 (aU.trans h.1)
 (h.2)
 (gQ h.3 λm=>ff (ay (hf.symm.trans ((h.5 l).1 m))))
 (λs hs=>(aE.1 hs).elim (h.4 s) λk=>ak.1 k▸hl)
 (λs=>by
  rw[aE,ak,h.5,iV]
  by_cases e:l=s
  ·subst e;simp[h.1,hl]
  ·simp[e,d4 e])
 (h.6)
 (λr hr e=>by
  have:=h.7 r hr e
  rw[iV];split
  ·simp[h.1,hl]
  ·exact this)
theorem Sp.more {N P f fb lk q} (h:Sp G N P f fb lk q) (z:(cnt G N P:Int)-f N=0->fb[G.left N]?=some true):Sp G (N+1) P f fb lk q:=
 ⟨h.1,h.2,h.3,h.4,h.5,h.6,λr hr e=>by
  rcases a9 r N with k|k
  ·exact h.7 r k e
  ·cases bR k (bE hr);exact z e⟩
theorem Sp.dec {P f fb lk q} {r:Nat} {v:Int} (h:Sp G 5 P f fb lk q) (hr:r<5) (hv:lk[r]?=some v) (z:v-1=0->fb[G.left r]?=some true):
  Sp G 5 P (λt=>f t+if r==t then 1 else 0) fb (lk.set r (v-1)) q:=
 ⟨h.1,aU.trans h.2,h.3,h.4,h.5,λt ht=>by
  by_cases e:r=t
  ·cases e;cases hv.symm.trans (h.6 r hr)
   rw[aZ (h.2.symm▸hr),beq_self_eq_true];exact congrArg some (Int.sub_sub ..)
  ·rw[a7 e,beq_false_of_ne e];exact h.6 t ht,λt ht=>by
  by_cases e:r=t
  ·cases e;cases hv.symm.trans (h.6 r hr)
   rw[beq_self_eq_true];exact λk=>z ((Int.sub_sub ..).trans k)
  ·rw[beq_false_of_ne e];exact h.7 t ht⟩
end iF
end
section
theorem ic (n:Nat) (h:Nat.ble n 1000=true):n≤SZ:=lM (d5 h)
section
variable {α σ:Type} {H H1:Hp} {Q:Ps} {r a:i6} {g:Gd} {it:CI} {k:Nat}
theorem cB.D4 {l:List α} (f:α->V) (Lf:Nat->σ->Lc) (P:Nat->σ->Hp->Prop) (s0:σ) (x:JI it (Lf 0 s0) H (l.map f) g H1) (h0:P 0 s0 (g.fz H1)) (hg:∀{n s H},P n s H->g.ok H)
  (st:Lm l Lf P g Q λy L H K=>cB a (L.set k (some (f y))) H K) (he:∀s H,P l.length s H->cB r (Lf l.length s) (g.th H) Q):cB (.cons (.for (.v k) it a) r) (Lf 0 s0) H Q:=
 .yI Lf P s0 x h0 hg (λn y s H K hy h k1 k2=>(kj hy).elim λm q=>q.2▸st n m s H K q.1 h k1 k2) λs H h=>by rw[ae]at h ⊢;exact he s H h
theorem cB.jW {l:List Nat} (Lf:Nat->σ->Lc) (P:Nat->σ->Hp->Prop) (s0:σ) (x:JI it (Lf 0 s0) H (vn l) g H1) (h0:P 0 s0 (g.fz H1)) (hg:∀{n s H},P n s H->g.ok H)
  (st:Lm l Lf P g Q fun(y:Nat) L H K=>cB a (L.set k (some (.int y))) H K) (he:∀s H,P l.length s H->cB r (Lf l.length s) (g.th H) Q):cB (.cons (.for (.v k) it a) r) (Lf 0 s0) H Q:=.D4 _ Lf P s0 x h0 hg st he
theorem cB.sg {l:List Nat} (Lf:Nat->σ->Lc) (P:Nat->σ->Hp->Prop) (s0:σ) (x:JI it (Lf 0 s0) H (l.map .ref) g H1) (h0:P 0 s0 (g.fz H1)) (hg:∀{n s H},P n s H->g.ok H)
  (st:Lm l Lf P g Q λy L H K=>cB a (L.set k (some (.ref y))) H K) (he:∀s H,P l.length s H->cB r (Lf l.length s) (g.th H) Q):cB (.cons (.for (.v k) it a) r) (Lf 0 s0) H Q:=.D4 _ Lf P s0 x h0 hg st he
theorem cB.GY (m:Nat) (Lf:Nat->σ->Lc) (P:Nat->σ->Hp->Prop) (s0:σ) {e:CE} (x:JE e (Lf 0 s0) H (.int m) H1) (z:m≤SZ) (h0:P 0 s0 H1)
  (st:∀n s H (K:Ps),n<m->P n s H->(∀{f} s' {H'},f.go=true->P (n+1) s' H'->K f (Lf (n+1) s') H')->(∀{v L' H'},Q (.ret v) L' H'->K (.ret v) L' H')->
   cB a ((Lf n s).set k (some (.int (n:Nat)))) H K) (he:∀s H,P m s H->cB r (Lf m s) H Q):cB (.cons (.for (.v k) (.range e) a) r) (Lf 0 s0) H Q:=
 .D4 (g:=.none) (λn:Nat=>.int n) Lf P s0 (by have:=JI.yH x z;rwa[di,bJ]at this) h0 (λ_=>trivial) (λn y s H K hy h k1 k2=>by
  have e:=ah.1 hy
  have z:=aT (n:=m)▸e.1
  cases(ay ((dE z).symm.trans hy));exact st n s H K z h k1 (k2 trivial)) λs H h=>by rw[aT]at h ⊢;exact he s H h
theorem cB.tA (m:Nat) (Lf:Nat->σ->Lc) (P:Nat->σ->Hp->Prop) (s0:σ) {e:CE} (x:JE e (Lf 0 s0) H (.int m) H1) (z:m≤1000) (h0:P 0 s0 H1)
  (st:∀n s H (K:Ps),n<m->P n s H->(∀{f} s' {H'},f.go=true->P (n+1) s' H'->K f (Lf (n+1) s') H')->(∀{v L' H'},Q (.ret v) L' H'->K (.ret v) L' H')->
   cB a ((Lf n s).set k (some (.int (n:Nat)))) H K) (he:∀s H,P m s H->cB r (Lf m s) H Q):cB (.cons (.for (.v k) (.range e) a) r) (Lf 0 s0) H Q:=.GY m Lf P s0 x (lM z) h0 st he
end
theorem JI.d3 {L:Lc} {H H1:Hp} {e:CE} {a:Nat} {l:List V} (x:JE e L H (.ref a) H1) (o:H1[a]?=some (.list l)) (z:l.length≤1000):JI (.ex e) L H l (.list a l) H1:=.pF x (.list o) (lM z)
namespace iF
variable {G:aJ} {A:GA} {g:Nat}
noncomputable def Ls (g kn F K U q:Nat) (x6 x7 x8 x9 gO fJ:Option V):Lc:=[some (.ref g),some (.ref kn),some (.ref F),some (.ref K),some (.ref U),some (.ref q),x6,x7,x8,x9,gO,fJ]
theorem n_ {H0 H:Hp} (hG:cg H0 g G A) (e:Ext H0 H) {L:Lc} {k:Nat} (x:L[k]?=some (some (.ref g))):JI (.ex (.attr (.var k) 5)) L H (A.rs.map .ref) (.list A.rl (A.rs.map .ref)) H:=
 .d3 (.attr (.var x) (e _ _ hG.1) rfl rfl) (e _ _ hG.2) (by rw[ae,hG.len];decide)
variable {H0 H:Hp} {kn F K U q:Nat} {us:List Nat} {x6 x7 x8:Option V} {Q:Ps} {r:i6}
theorem IF {x:Nat} {l:List Nat} {j s:Nat} (hs:l[j]?=some s):(l.take (j+1)).count x=(l.take j).count x+if s==x then 1 else 0:=by
 rw[aV,hs,List.count_append];exact congrArg _ List.count_singleton
noncomputable def f8:List Bool:=List.replicate 8 false
noncomputable def yJ (G:aJ) (n:Nat):List Int:=(List.range n).map λr=>((G.right r).length:Int)
noncomputable def U1 (G:aJ) (n:Nat) (w:List Nat) (j s:Nat):List Nat:=nh G n s++List.replicate ((w.take j).count s) n
theorem Pz {n w}:U1 G n w 0=nh G n:=funext λ_=>aO _
theorem PA {n w j s} (hs:w[j]?=some s):(λt=>if t=s then U1 G n w j s++[n]else U1 G n w j t)=U1 G n w (j+1):=funext λt=>by
 unfold U1;rw[IF hs]
 by_cases e:t=s
 ·rw[if_pos e,e,beq_self_eq_true,bO];exact congrArg _ List.replicate_succ'.symm
 ·rw[if_neg e,beq_false_of_ne (d4 e)];rfl
theorem PB {n}:U1 G n (G.right n) (G.right n).length=nh G (n+1):=funext λt=>by
 rw[U1,aN,nh,nh,bK,cH,cx,cV,aO]
theorem GZ {n}:(di (yJ G n)).length=n:=by rw[di,ae,yJ,ae,aT]
theorem J5 {r n} (h:r<n):(yJ G n)[r]?=some ((G.right r).length:Int):=get_map (dE h)
theorem M0 {n}:di (yJ G n)++[.int (G.right n).length]=di (yJ G (n+1)):=by rw[yJ,yJ,di,di,bK,az,az];rfl
theorem J6 {ru:Ru} {n a:Nat} (d:Dj H0 F K U q us) (hG:cg H0 g G A) (r2:G.rules[n]?=some ru) (r3:H0[a]?=some (B7 n ru)) (r5:G.right n=ru.right) (h:Hs H0 H F K U q us f8 (yJ G n) (nh G n) [])
  (k:∀x8 H',Hs H0 H' F K U q us f8 (yJ G n) (nh G (n+1)) []->cB r (Ls g kn F K U q (some (.ref a)) (some (.int ru.right.length)) x8 none none none) H' Q):
  cB (.cons (((bo 8).at 4).in.at 1) r) (Ls g kn F K U q (some (.ref a)) (some (.int 0)) x8 none none none) H Q:=by
 have zr:=hG.13.3 _ _ r2
 refine .jW (λj x8=>Ls g kn F K U q (some (.ref a)) (some (.int (j:Nat))) x8 none none none) (λj _ H'=>Hs H0 H' F K U q us f8 (yJ G n) (U1 G n ru.right j) []) x8
  (.pF (.attr (.var rfl) (h.1 _ _ r3) rfl rfl) .tup (lM (by rw[aW];exact aj zr (by decide)))) (Pz▸h) (λ_=>trivial) (λj s x8 H2 K' hs h kn kr=>?_) λx8 H2 h=>k x8 H2 (by rw[←r5,PB]at h;exact h)
 have s8:s<8:=lT (r:=n) hG.13 (r5▸am hs)
 obtain⟨b,b1,b2⟩:=h.row d s8
 refine .then (.ur (.iu (.idx (.var rfl) (.var rfl) (.nat h.2 (get_map ((c_ (a:=false)).trans (if_pos s8))))) (.bool _) rfl)) (.set (.bin (.var rfl) .lit (.add _ _ _))
  (.expr (.append (.idx (.var rfl) (.var rfl) (.nat h.4 (dB b1))) (.attr (.var rfl) (h.1 _ _ r3) rfl rfl) ⟨_,b2⟩ b2 (sf ?_)) (.nil (.nil (kn _ rfl ?_)))))
 ·rw[aW,U1,aq,bZ]
  exact aj (cU (aj (Ag hG.13 n s) (bF 3 (aI (hG.13.1▸(ah.1 r2).1)))) (aj oG (aj (bM ..) zr))) (by decide)
 ·have:=h.Py d b1 (U1 G n ru.right j s++[n])
  rw[pP,PA hs]at this;exact this
theorem M1 (d:Dj H0 F K U q us) (hG:cg H0 g G A) (h:Hs H0 H F K U q us f8 [] (λ_=>[]) [])
  (k:∀x6 x7 x8 H',Hs H0 H' F K U q us f8 (yJ G 5) (nh G 5) []->cB r (Ls g kn F K U q x6 x7 x8 none none none) H' Q):cB (.cons ((bo 8).at 4) r) (Ls g kn F K U q none none none none none none) H Q:=by
 refine .sg (λ_ (s:Option V×Option V×Option V)=>Ls g kn F K U q s.1 s.2.1 s.2.2 none none none) (λn _ H'=>Hs H0 H' F K U q us f8 (yJ G n) (nh G n) []) (none,none,none) (n_ hG h.1 rfl) h (λh=>h.1 _ _ hG.2)
  (λn a s H1 K' ha h cq _=>?_) λs H1 h=>k _ _ _ _ (hG.len▸h)
 refine hG.at_ (hG.len▸(ah.1 ha).1) λa' ru r1 r2 r3 r4 r5=>?_
 cases ha.symm.trans r1
 refine .set .lit (J6 (kn:=kn) d hG r2 r3 r5 h λx8 H2 h=>.expr (.append (.var rfl) (.var rfl) ⟨_,h.3⟩ h.3 (sf ?_)) (.nil (cq (_,_,_) rfl ?_)))
 ·rw[GZ];exact aI (aw (hG.len▸(ah.1 ha).1) (by decide))
 ·rw[←r5,M0];exact h.MY d _
theorem kQ {l:List Bool} {k:Nat} {b:Bool} (h:l[k]?=some b):(vP l)[k]?=some (.bool b):=get_map h
theorem kU {l:List Int} {k:Nat} {b:Int} (h:l[k]?=some b):(di l)[k]?=some (.int b):=get_map h
theorem sA {l:List Int} {k:Nat} {b:Int}:(di l).set k (.int b)=di (l.set k b):=mQ.symm
theorem Ah {l:List Bool} {k:Nat} {b:Bool}:(vP l).set k (.bool b)=vP (l.set k b):=mQ.symm
theorem G0 {l:List Bool}:(vP l).length=l.length:=ae _
theorem dP {l:List Int}:(di l).length=l.length:=ae _
theorem flag {l:List Bool} {k:Nat} (h:l.length=8) (z:k<8):l[k]?=some true∨l[k]?=some false:=by
 rw[ao (h.symm▸z)];cases l[k]'(h.symm▸z);exact .inr rfl;exact .inl rfl
theorem mark {fb lk IE ql f P N} {l:Nat} {L:Lc} {K':Ps} {e:CE} (d:Dj H0 F K U q us) (h:Hs H0 H F K U q us fb lk (nh G 5) ql) (sp:Sp G N P f fb IE ql) (l8:l<8) (fl:fb[l]?=some false)
  (x2:L[2]?=some (some (.ref F))) (x5:L[5]?=some (some (.ref q))) (xe:∀H',Ext H0 H'->JE e L H' (.int l) H')
  (k:∀H',Hs H0 H' F K U q us (fb.set l true) lk (nh G 5) (ql++[l])->Sp G N P f (fb.set l true) IE (ql++[l])->(fb.set l true)[l]?=some true->cB r L H' K'):
  cB (.cons (.br (.var 2) e (.lit (.bool true))) (.cons (.expr (.append (.var 5) e)) r)) L H K':=by
 have h2:=h.dv d (fb.set l true)
 have h3:=h2.Px d (ql++[l])
 rw[←Ah,pP]at h3
 rw[←Ah]at h2
 exact .br .lit (.var x2) (xe _ h.1) (.list h.2 (dW (by rw[G0,sp.1];exact l8)))
  (.expr (.append (.var x5) (xe _ h2.1) ⟨_,h2.6⟩ h2.6 (sf (by rw[aW];exact aj sp.MZ (by decide)))) (k _ h3 (sp.mark l8 fl) (aZ (sp.1.symm▸l8))))
theorem IG {fb lk IE ql f P N} {l m:Nat} {v:Int} {L:Lc} {K':Ps} {e1 e2:CE} (d:Dj H0 F K U q us) (h:Hs H0 H F K U q us fb lk (nh G 5) ql) (sp:Sp G N P f fb IE ql) (l8:l<8) (hv:lk[m]?=some v)
  (x2:L[2]?=some (some (.ref F))) (x3:L[3]?=some (some (.ref K))) (x5:L[5]?=some (some (.ref q))) (xm:∀H',Ext H0 H'->JE e1 L H' (.int m) H') (xe:∀H',Ext H0 H'->JE e2 L H' (.int l) H')
  (k:∀H' fb GX,Hs H0 H' F K U q us fb lk (nh G 5) (ql++GX)->Sp G N P f fb IE (ql++GX)->(v=0->fb[l]?=some true)->cB r L H' K'):
  cB (.cons (.ite (.and (.cons (.cmp .eq (.idx (.var 3) e1) (.lit (.int 0))) (.cons (.not (.idx (.var 2) e2)) .nil))) (.cons (.br (.var 2) e2 (.lit (.bool true))) (.cons (.expr (.append (.var 5) e2)) .nil)) .nil) r) L H K':=by
 have h':=h;have PC:=sp
 rw[←aO ql]at h' PC
 have T:=JT.b9 (.idx (.var x3) (xm _ h.1) (.nat h.3 (kU hv))) .lit (.eq (.int v 0))
 by_cases z:v=0
 ·rw[beq_iff_eq.2 z]at T
  rcases flag sp.1 l8 with fl|fl
  ·exact .pass (.iD (.at T (.af (.ur (.iu (.idx (.var x2) (xe _ h.1) (.nat h.2 (kQ fl))) (.bool _) rfl))))) (k _ _ _ h' PC λ_=>fl)
  ·exact .then (.iD (.at T (.at (.ur (.iu (.idx (.var x2) (xe _ h.1) (.nat h.2 (kQ fl))) (.bool _) rfl)) .lw))) (mark d h sp l8 fl x2 x5 xe λH2 h sp fl=>.nil (k _ _ _ h sp λ_=>fl))
 ·rw[beq_eq_false_iff_ne.2 z]at T
  exact .pass (.iD (.af T)) (k _ _ _ h' PC λe=>(z e).elim)
theorem M2 (d:Dj H0 F K U q us) (hG:cg H0 g G A) (h:Hs H0 H F K U q us f8 (yJ G 5) (nh G 5) [])
  (k:∀x6 fb lk ql H',Hs H0 H' F K U q us fb lk (nh G 5) ql->Sp G 5 [] (λ_=>0) fb lk ql->cB r (Ls g kn F K U q x6 x7 x8 none none none) H' Q):cB (.cons ((bo 8).at 5) r) (Ls g kn F K U q x6 x7 x8 none none none) H Q:=by
 refine .sg (λ_ (s:Option V×List Bool×List Int×List Nat)=>Ls g kn F K U q s.1 x7 x8 none none none) (λn s H'=>Hs H0 H' F K U q us s.2.1 s.2.2.1 (nh G 5) s.2.2.2∧Sp G n [] (λ_=>0) s.2.1 s.2.2.1 s.2.2.2) (x6,f8,yJ G 5,[]) (n_ hG h.1 rfl) ⟨h,?_⟩ (λh=>h.1.1 _ _ hG.2)
  (λn a s H1 K' ha h cq _=>?_) λs H1 h=>k _ _ _ _ _ h.1 (hG.len▸h.2)
 ·exact⟨rfl,ae _,.nil,nofun,λs=>⟨nofun,λh=>ff (iy (am h)).symm⟩,
   λr hr=>by show(yJ G 5)[r]?=some ((cnt G r []:Int)-(0:Nat));rw[show cnt G r []=(G.right r).length from List.countP_eq_length.2 λ_ _=>rfl];exact(J5 hr).trans (congrArg some (qK _).symm),λr h=>absurd h (bc r)⟩
 ·have hn:n<5:=hG.len▸(ah.1 ha).1
  refine hG.at_ hn λa' ru r1 r2 r3 r4 r5=>?_
  cases ha.symm.trans r1
  exact IG (l:=G.left n) d h.1 h.2 (jV hG.13 hn) (h.2.6 n hn) rfl rfl rfl (λH' e=>.attr (.var rfl) (e _ _ r3) rfl rfl) (λH' e=>r4▸ .attr (.var rfl) (e _ _ r3) rfl rfl) λH2 fb GX h sp fl=>
   .nil (cq (_,_,_,_++GX) rfl ⟨h,sp.more fl⟩)
theorem J7 {at_ x:Nat} {ql:List Nat} {gO fJ:Option V} {fb lk} (d:Dj H0 F K U q us) (hG:cg H0 g G A) (hq:ql[at_]?=some x) (N7:x<8) (h:Hs H0 H F K U q us fb lk (nh G 5) ql) (sp:Sp G 5 (ql.take at_) (λ_=>0) fb lk ql)
  (k:∀gO fJ fb lk Ln H',Hs H0 H' F K U q us fb lk (nh G 5) (ql++Ln)->Sp G 5 (ql.take at_) (λr=>(nh G 5 x).count r) fb lk (ql++Ln)->cB r (Ls g kn F K U q x6 x7 x8 (some (.int at_)) gO fJ) H' Q):
  cB (.cons (((bo 8).at 7).in.at 0) r) (Ls g kn F K U q x6 x7 x8 (some (.int at_)) gO fJ) H Q:=by
 obtain⟨b,b1,b2⟩:=h.row d N7
 refine .jW (λ_ (s:Option V×Option V×List Bool×List Int×List Nat)=>Ls g kn F K U q x6 x7 x8 (some (.int at_)) s.1 s.2.1)
  (λj s H'=>Hs H0 H' F K U q us s.2.2.1 s.2.2.2.1 (nh G 5) (ql++s.2.2.2.2)∧Sp G 5 (ql.take at_) (λr=>((nh G 5 x).take j).count r) s.2.2.1 s.2.2.2.1 (ql++s.2.2.2.2)) (gO,fJ,fb,lk,[])
  (.d3 (.idx (.var rfl) (.idx (.var rfl) (.var rfl) (.nat h.6 (cR hq))) (.nat h.4 (dB b1))) b2 (by rw[aW];exact aj (Ag hG.13 5 x) (by decide)))
  ⟨(aO ql).symm▸h,(aO ql).symm▸sp⟩ (λh=>h.1.5 _ _ b1) (λj r s H2 K' hr h cq _=>?_) λs H2 h=>k _ _ _ _ _ H2 h.1 (aN (l:=nh G 5 x)▸h.2)
 have r5:r<5:=D0 G (am hr)
 refine hG.at_ r5 λa ru r1 r2 r3 r4 _=>?_
 have PD:=h.2.6 r r5
 generalize ((cnt G r (ql.take at_):Int)-(((nh G 5 x).take j).count r:Nat))=v at PD
 have h2:=h.1.MY d (s.2.2.2.1.set r (v-1))
 rw[←sA]at h2
 refine .br (.bin (.idx (.var rfl) (.var rfl) (.nat h.1.3 (kU PD))) .lit (.sub _ _ _)) (.var rfl) (.var rfl) (.list h.1.3 (dW (by rw[dP,h.2.2];exact r5)))
  (.set (.attr (.idx (.attr (.var rfl) (h2.1 _ _ hG.1) rfl rfl) (.var rfl) (.nat (h2.1 _ _ hG.2) (dB r1))) (h2.1 _ _ r3) rfl rfl) ?_)
 rw[←r4]
 refine IG (l:=G.left r) (m:=r) d h2 h.2 (jV hG.13 r5) (v:=v-1) (aZ (h.2.2.symm▸r5)) rfl rfl rfl (λH' e=>.var rfl) (λH' e=>.var rfl) λH2 fb GX h sp fl=>
  .nil (cq (_,_,_,_,_++GX) rfl ⟨bO ql _ _▸h,?_⟩)
 have sp:=sp.dec r5 PD fl
 rw[bO]at sp
 exact(funext λt=>(IF hr).symm:_=λt=>((nh G 5 x).take (j+1)).count t)▸sp
theorem M3 {fb lk ql} (d:Dj H0 F K U q us) (hG:cg H0 g G A) (h:Hs H0 H F K U q us fb lk (nh G 5) ql) (sp:Sp G 5 [] (λ_=>0) fb lk ql)
  (k:∀x9 gO fJ fb lk ql H',Hs H0 H' F K U q us fb lk (nh G 5) ql->Sp G 5 ql (λ_=>0) fb lk ql->cB r (Ls g kn F K U q x6 x7 x8 x9 gO fJ) H' Q):
  cB (.cons ((bo 8).at 7) r) (Ls g kn F K U q x6 x7 x8 (some (.int 0)) none none) H Q:=by
 refine .pO (λs:Nat×Option V×Option V×List Bool×List Int×List Nat=>Ls g kn F K U q x6 x7 x8 (some (.int s.1)) s.2.1 s.2.2.1)
  (λs H'=>Hs H0 H' F K U q us s.2.2.2.1 s.2.2.2.2.1 (nh G 5) s.2.2.2.2.2∧Sp G 5 (s.2.2.2.2.2.take s.1) (λ_=>0) s.2.2.2.1 s.2.2.2.2.1 s.2.2.2.2.2∧s.1≤s.2.2.2.2.2.length) (λs=>8-s.1) (0,none,none,_,_,_) ⟨h,sp,bw _⟩ λs H1 K' h cq _=>?_
 obtain⟨n,gO,fJ,fb,lk,ql⟩:=s
 obtain⟨h,sp,hn⟩:=h
 have l8:ql.length≤8:=sp.MZ
 have T:=JT.b9 (L:=Ls g kn F K U q x6 x7 x8 (some (.int n)) gO fJ) (H:=H1) (a:=.var 9) (b:=.len (.var 5)) (.var rfl) (.len (.var rfl) (.list h.6 (lM (by rw[aW];exact aj l8 (by decide))))) (.lt _ _)
 rw[aW]at T
 rcases a9 n ql.length with t|t
 ·rw[decide_eq_true (bz.2 t)]at T
  refine .yes T ?_
  have hx:=ao t
  have N7:=sp.4 _ (hH t)
  generalize ql[n]=x at hx N7
  refine J7 d hG hx N7 h sp λIH II fb lk Ln H2 h sp=>.set (.bin (.var rfl) .lit (.add _ _ _)) (.nil (cq (n+1,IH,II,fb,lk,ql++Ln) rfl ⟨h,?_,by rw[aq];exact aj t (bx _ _)⟩ (h_ (aw t l8) (bW n))))
  have N8:=gV (f_.1 sp.3).1 hx
  have e1:(ql++Ln).take (n+1)=ql.take n++[x]:=by
   rw[List.take_append_of_le_length t,aV,hx];rfl
  show Sp G 5 ((ql++Ln).take (n+1)) _ _ _ _
  rw[e1]
  have key:∀r<5,((cnt G r (ql.take n):Int)-((nh G 5 x).count r:Nat))=(cnt G r (ql.take n++[x]):Int)-(0:Nat):=λr hr=>by
   rw[Bg G hr,GW G N8,Int.natCast_add];exact(kA ..).trans (qK _).symm
  exact⟨sp.1,sp.2,sp.3,sp.4,sp.5,λr hr=>key r hr▸sp.6 r hr,λr hr=>key r hr▸sp.7 r hr⟩
 ·rw[decide_eq_false λh=>bG.2 t (bz.1 h)]at T
  rw[mR t]at sp
  exact .no T (k _ _ _ _ _ _ H1 h sp)
end iF
open iF
variable {G:aJ} {A:GA} {g:Nat} {R:Prop}
theorem Bh {H:Hp} {kn:Nat} (hG:cg H g G A) (hk:H[kn]?=some (.list (vP f8)))
  (q:∀a fb H',JR 8 [.ref g,.ref kn] H (.ref a) H'->H[a]?=none->H'[a]?=some (.list (vP fb))->Ext H H'->Nl G fb->R):R:=by
 refine dc 8 [.ref g,.ref kn] H rfl rfl (L:=[some (.ref g),some (.ref kn),none,none,none,none,none,none,none,none,none,none]) rfl λQ q'=>?_
 refine qn (.var rfl) hk (by decide) λF H1 j f1 g1 e1=>.set j ?_
 refine hS λK H2 j f2 g2 e2=>.set j ?_
 refine qp (L:=[]) (e2 _ _ g1) (by decide) λus H3 j3 l3 nd fu e3=>kh rfl (.d3 (.var rfl) (e2 _ _ g1) (by decide)) rfl j3 (by rw[ae,l3];decide) λU H4 j f4 g4 e4=>.set j ?_
 refine hS λqa H5 j f5 g5 e5=>.set j ?_
 have E3:Ext H H3:=e1.trans (e2.trans e3)
 have d:Dj H F K U qa us:=by
  have a1:=e4 _ _ (e3 _ _ (e2 _ _ g1))
  have a2:=e4 _ _ (e3 _ _ g2)
  have m3:∀b∈us,H3[b]?=some (.list []):=λb hb=>(fu b hb).1
  refine⟨f1,e1.none f2,E3.none f4,(E3.trans e4).none f5,λb hb=>(e1.trans e2).none (fu b hb).2,e_ f2 g1,e_ f4 (e3 _ _ (e2 _ _ g1)),e_ f5 a1,e_ f4 (e3 _ _ g2),e_ f5 a2,e_ f5 g4,?_,?_,?_,?_,nd,l3⟩
  ·exact λm=>c7 (fu _ m).2 (e2 _ _ g1)
  ·exact λm=>c7 (fu _ m).2 g2
  ·exact λm=>c7 f4 (m3 _ m)
  ·exact λm=>c7 f5 (e4 _ _ (m3 _ m))
 have E4:Ext H3 H5:=e4.trans e5
 refine M1 d hG (kn:=kn) ⟨E3.trans E4,E4 _ _ (e3 _ _ (e2 _ _ g1)),E4 _ _ (e3 _ _ g2),e5 _ _ g4,λs b k=>E4 _ _ (fu b (am k)).1,g5⟩ λx6 x7 x8 H6 h=>
  M2 d hG h λx6 fb lk ql H7 h sp=>.set .lit (M3 (kn:=kn) d hG h sp λx9 gO fJ fb lk ql H7 h sp=>.ret (.var rfl) (q' λj=>q F fb H7 j f1 h.2 h.1 ⟨sp.1,λr hr hs=>sp.7 r hr ?_⟩))
 rw[show cnt G r ql=0 from List.countP_eq_zero.2 λs m=>by rw[cZ.2 ((sp.5 s).2 (hs s m))];exact ff];rfl
theorem oa {H:Hp} (hG:cg H g G A)
  (q:∀a fb H',JR 9 [.ref g] H (.ref a) H'->H[a]?=none->H'[a]?=some (.list (vP fb))->Ext H H'->Nl G fb->R):R:=by
 refine dc 9 [.ref g] H rfl rfl (L:=[some (.ref g)]) rfl λQ q'=>?_
 refine jM (vs:=[.bool false]) (.av .lit .bm) (by decide) λa H1 j f1 g1 e1=>GP (L:=[some (.ref g)]) (n:=8) (f:=.bA (.var 0) 9 41 .nil) j (.bA (.var rfl) (e1 _ _ hG.1) rfl rfl .bm (iA (hG.ext e1))) g1 (by decide) λb H2 j f2 g2 e2=>?_
 exact Bh (hG.ext (e1.trans e2)) g2 λc fb H3 y f3 g3 e3 n=>.ret (.call (.av (.var rfl) (.av j .bm)) y) (q' λj=>q c fb H3 j ((e1.trans e2).none f3) g3 ((e1.trans e2).trans e3) n)
end
section
theorem D5 {f:CE} {L:Lc} {H:Hp} {u:V} {n:Nat} {R:Prop} (k:∀a H2,JE (.bin .mul (.list (.cons (.lit u) .nil)) f) L H (.ref a) H2->H[a]?=none->H2[a]?=some (.list (List.replicate n u))->Ext H H2->R)
  (y:∀H',Ext H H'->JE f L H' (.int n) H') (z:n≤1000):R:=
 jM (vs:=[u]) (.av .lit .bm) (ic _ rfl) λa H1 j _ g e=>GP j (y _ e) g (lM z) λb H2 j f g e2=>k b H2 j (e.none f) g (e.trans e2)
theorem getD_at {α} {l:List α} {k:Nat} {d:α} (z:k<l.length):l[k]?=some (l.getD k d):=by
 rw[aF,ao z];rfl
theorem tB {l:List Nat} {k b:Nat}:(vn l).set k (.int b)=vn (l.set k b):=mQ.symm
theorem tC {w:List Nat} {n k s:Nat} (h:∀s∈w,s<n) (e:w[k]?=some s):s<n:=h s (am e)
theorem sB {α} {w:List α} {k:Nat} {x:α} (h:w[k]?=some x):w.drop k=x::w.drop (k+1):=
 (ah.1 h).elim λz e=>e▸d9 z
noncomputable def fo (fs:List Nat) (nb:List Bool):Nat->List Nat->Nat×Bool
 |m,[]=>(m,true)
 |m,s::l=>bif nb.getD s false then fo fs nb (m|||fs.getD s 0) l else(m|||fs.getD s 0,false)
theorem PE {fs nb m}:fo fs nb m []=(m,true):=rfl
theorem G1 {fs nb m s l}:fo fs nb m (s::l)=bif nb.getD s false then fo fs nb (m|||fs.getD s 0) l else(m|||fs.getD s 0,false):=rfl
variable {H:Hp} {R:Prop}
theorem w_ {w:List Nat} {n f:Nat} {nb:List Bool} {fs:List Nat} (wl:w.length≤3) (w8:∀s∈w,s<8) (hn:H[n]?=some (.list (vP nb))) (nl:nb.length=8) (hf:H[f]?=some (.list (vn fs))) (fl:fs.length=8):
  JR 13 [.tup (vn w),.ref n,.ref f] H (.tup [.int (fo fs nb 0 w).1,.bool (fo fs nb 0 w).2]) H:=by
 refine dc 13 [.tup (vn w),.ref n,.ref f] H rfl rfl (L:=[some (.tup (vn w)),some (.ref n),some (.ref f),none,none]) rfl λQ q=>.set .lit ?_
 refine .jW (λ_ (s:Nat×Option V)=>[some (.tup (vn w)),some (.ref n),some (.ref f),some (.int s.1),s.2]) (λk s H'=>H'=H∧fo fs nb 0 w=fo fs nb s.1 (w.drop k)) (0,none)
  (.pF (.var rfl) .tup (lM (by rw[aW];exact aj wl (by decide)))) ⟨rfl,rfl⟩ (λ_=>trivial) ?_ ?_
 ·intro k x s H1 K hx h kn kr
  obtain⟨rfl,h⟩:=h
  have x8:=tC w8 hx
  rw[sB hx,G1]at h
  refine .set (.bin (.var rfl) (.idx (.var rfl) (.var rfl) (.nat hf (cR (getD_at (d:=0) (fl.symm▸x8))))) (.bor _ _ _)) ?_
  have T:=JT.iu (H:=H1) (L:=[some (.tup (vn w)),some (.ref n),some (.ref f),some (.int (s.1|||fs.getD x 0:Nat)),some (.int x)]) (e:=.idx (.var 1) (.var 4)) (.idx (.var rfl) (.var rfl) (.nat hn (iF.kQ (getD_at (d:=false) (nl.symm▸x8))))) (.bool _) rfl
  cases eb:nb.getD x false
  ·rw[eb]at h T
   refine .then (.ur T) (.ret (.tup (.av (.var rfl) (.av .lit .bm)) (ic _ rfl)) (kr trivial (q λj=>?_)))
   rw[h];exact j
  ·rw[eb]at h T
   exact .pass (.ur T) (.nil (kn (_,_) rfl ⟨rfl,h⟩))
 ·intro s H1 h
  obtain⟨rfl,h⟩:=h
  rw[hJ,PE]at h
  rw[h]at q
  exact .ret (.tup (.av (.var rfl) (.av .lit .bm)) (ic _ rfl)) (q id)
end
section
inductive G2 (G:aJ) (fs:List Nat):Prop
 |mk (len:fs.length=8) (lt:∀s∈fs,s<32) (t:∀t<5,(fs.getD t 0).testBit t=true) (cl:∀r<5,∀(k s:Nat),(G.right r)[k]?=some s->(∀x∈(G.right r).take k,B8 G x)->∀t,(fs.getD s 0).testBit t=true->(fs.getD (G.left r) 0).testBit t=true)
noncomputable def f0 (n:Nat):List Nat:=(List.range n).map λi=>if i<5 then 1<<<i else 0
theorem jj {fs:List Nat} {k:Nat} (h:∀s∈fs,s<32):fs.getD k 0<32:=by
 rw[aF]
 cases e:fs[k]? with
 |none=>decide
 |some x=>exact h x (am e)
section
variable {fs:List Nat} {nb:List Bool}
theorem M4 (h:∀s∈fs,s<32) (w:List Nat):∀m<32,(fo fs nb m w).1<32:=by
 induction w with
 |nil=>exact λ_ z=>z
 |cons s l ih=>
  intro m z
  have:=dC (n:=5) z (jj (k:=s) h)
  rw[G1];cases nb.getD s false
  ·exact this
  ·exact ih _ this
theorem M5 (w:List Nat):∀m t:Nat,m.testBit t=true->(fo fs nb m w).1.testBit t=true:=by
 induction w with
 |nil=>exact λ_ _ h=>h
 |cons s l ih=>
  intro m t h
  have:(m|||fs.getD s 0).testBit t=true:=by rw[bY,h];rfl
  rw[G1];cases nb.getD s false
  ·exact this
  ·exact ih _ t this
theorem J8 (w:List Nat):∀m k s t:Nat,w[k]?=some s->(∀x∈w.take k,nb[x]?=some true)->(fs.getD s 0).testBit t=true->(fo fs nb m w).1.testBit t=true:=by
 induction w with
 |nil=>exact λm k s t e _ _=>c7 dD e
 |cons a l ih=>
  intro m k s t e n h
  rw[G1]
  cases k with
  |zero=>
   cases e
   have:(m|||fs.getD a 0).testBit t=true:=by rw[bY,h,fE]
   cases nb.getD a false
   ·exact this
   ·exact M5 l _ t this
  |succ k=>
   rw[aF,n a aQ]
   exact ih _ k s t e (λx hx=>n x (aL _ hx)) h
end
theorem sum_set (fs:List Nat):∀k v:Nat,k<fs.length->(fs.set k v).sum+fs.getD k 0=fs.sum+v:=by
 induction fs with
 |nil=>exact λk v h=>absurd h (bc k)
 |cons a l ih=>
  intro k v h
  cases k with
  |zero=>exact(dJ v _ a).trans ((congrArg (· +l.sum) (dT v a)).trans (dJ a v _))
  |succ k=>exact(dk a ..).trans ((congrArg (a+ ·) (ih k v (fG h))).trans (dk a ..).symm)
theorem D6 (fs:List Nat) (h:∀s∈fs,s<32):fs.sum≤31*fs.length:=by
 induction fs with
 |nil=>exact aC _
 |cons a l ih=>exact aj (cU (bE (h a aQ)) (ih λs m=>h s (aL _ m))) (aD (dT ..))
theorem qq {fs:List Nat} {k v j:Nat} (h:k<fs.length):(fs.set k v).getD j 0=if j=k then v else fs.getD j 0:=by
 rw[aF,aF]
 by_cases e:j=k
 ·cases e;rw[aZ h,if_pos rfl];rfl
 ·rw[a7 (d4 e),if_neg e]
theorem xb {fs:List Nat} {k s0 m:Nat} (z:k<fs.length) (g:s0≤fs.sum) (e:fs.getD k 0|||m≠fs.getD k 0):s0<(fs.set k (fs.getD k 0|||m)).sum:=
 ax g (Nat.lt_of_add_lt_add_right (fH (jP (iI Nat.left_le_or (d4 e)) _) (sum_set fs k _ z).symm))
theorem msr {a b:Nat} {t:Bool} (h1:a≤248) (h3:b≤a) (h4:t=true->b<a):2*(248-a)+t.toNat<2*(248-b)+1:=by
 cases t
 ·exact dh (bF 2 (Nat.sub_le_sub_left h3 248))
 ·exact jv ((Nat.mul_lt_mul_left (by decide)).2 (h_ (aw (h4 rfl) h1) (h4 rfl))) 1
inductive Rd (G:aJ) (fb:List Bool) (s0 n:Nat) (b:Bool) (fs:List Nat):Prop
 |mk (len:fs.length=8) (lt:∀s∈fs,s<32) (t:∀t<5,(fs.getD t 0).testBit t=true) (up:s0≤fs.sum) (yes:b=true->s0<fs.sum) (no:b=false->∀r<n,fs.getD (G.left r) 0|||(fo fs fb 0 (G.right r)).1=fs.getD (G.left r) 0)
theorem Rd.G3 {G fb s0 n b fs} (h:Rd G fb s0 n b fs) (e:fs.getD (G.left n) 0|||(fo fs fb 0 (G.right n)).1=fs.getD (G.left n) 0):Rd G fb s0 (n+1) b fs:=
 ⟨h.1,h.2,h.3,h.4,h.5,λz r hr=>by
  rcases ba.1 hr with k|k
  ·exact h.6 z r k
  ·exact k▸e⟩
theorem Rd.grow {G fb s0 n b fs m k} (h:Rd G fb s0 n b fs) (k8:k<8) (m5:m<32) (e:fs.getD k 0|||m≠fs.getD k 0):Rd G fb s0 (n+1) true (fs.set k (fs.getD k 0|||m)):=by
 have g4:=xb (h.1.symm▸k8) h.4 e
 refine⟨aU.trans h.1,λs hs=>?_,λt ht=>?_,aI g4,λ_=>g4,λz=>ff z.symm⟩
 ·rcases hM hs with k|k
  ·exact h.2 s k
  ·rw[k];exact dC (n:=5) (jj h.2) m5
 ·rw[qq (h.1.symm▸k8)]
  by_cases e:t=k
  ·rw[if_pos e,←e,bY,h.3 t ht];rfl
  ·rw[if_neg e];exact h.3 t ht
theorem Rd.fst {G fb s0 fs} (h:Rd G fb s0 5 false fs) (nl:Nl G fb):G2 G fs:=
 ⟨h.1,h.2,h.3,λr hr k s hk hn t ht=>by
  rw[←h.6 rfl r hr,bY,J8 (G.right r) 0 k s t hk (λx hx=>nl.nul (hn x hx)) ht,fE]⟩
end
section
variable {G:aJ} {A:GA} {g:Nat} {R:Prop}
theorem rd0 {fb}:Rd G fb 0 0 false (f0 8):=⟨by decide,by decide,by decide,bw _,ff,λ_ r h=>absurd h (bc r)⟩
theorem Rd.z {fb s0 n b fs} (h:Rd G fb s0 n b fs):Rd G fb 0 0 false fs:=⟨h.1,h.2,h.3,bw _,ff,λ_ r h=>absurd h (bc r)⟩
theorem Rd.s {fb s0 n b fs} (h:Rd G fb s0 n b fs):fs.sum≤248:=aj (D6 fs h.2) (by rw[h.1];decide)
theorem tD {H:Hp} (hG:cg H g G A)
  (q:∀a fs H',JR 14 [.ref g] H (.ref a) H'->H[a]?=none->H'[a]?=some (.list (vn fs))->Ext H H'->G2 G fs->R):R:=by
 refine dc 14 [.ref g] H rfl rfl (L:=[some (.ref g),none,none,none,none,none,none]) rfl λQ q'=>?_
 refine oa hG λN fb H1 j fN gN eN nl=>.set (.call (.av (.var rfl) .bm) j) ?_
 refine hS λF H2 j fF gF eF=>.set j ?_
 have e0:=eN.trans eF
 refine .tA 8 (λ_ (s:Option V)=>[some (.ref g),some (.ref N),some (.ref F),s,none,none,none]) (λn s H'=>Ext H1 H'∧H'[F]?=some (.list (vn (f0 n)))) none
  (.bA (.var rfl) (e0 _ _ hG.1) rfl rfl .bm (iA (hG.ext e0))) (by decide) ⟨eF,gF⟩ ?_ ?_
 ·intro n s H' K hn h cq _
  have N9:=hG.ext (eN.trans h.1)
  have E:f0 (n+1)=f0 n++[if n<5 then 1<<<n else 0]:=by rw[f0,bK,az];rfl
  have X:JE (.ite (.bA (.var 0) 11 46 (.cons (.var 3) .nil)) (.bin .shl (.lit (.int 1)) (.var 3)) (.lit (.int 0))) [some (.ref g),some (.ref N),some (.ref F),some (.int n),none,none,none] H' (.int (if n<5 then 1<<<n else 0:Nat)) H':=by
   rcases a9 n 5 with z|z
   ·rw[if_pos z]
    exact .ite (.iu (.bA (.var rfl) N9.1 rfl rfl (.av (.var rfl) .bm) (DY N9 z)) (.bool _) rfl) (.bin .lit (.var rfl) (.shl 1 n _ (by decide) (bH hn (by decide))))
   ·rw[if_neg (bG.2 z)]
    exact .ite (.iu (.bA (.var rfl) N9.1 rfl rfl (.av (.var rfl) .bm) (DZ N9 z)) (.bool _) rfl) .lit
  refine .expr (.append (.var rfl) X ⟨_,h.2⟩ h.2 (sf ?_)) (.nil (cq _ rfl ⟨h.1.set fF,?_⟩))
  ·rw[aW,f0,ae,aT];exact aI (bH hn (by decide))
  ·rw[dq h.2,E,pP];rfl
 ·intro s H3 h
  refine .set .lit (.pO (fun(s:Bool×List Nat×Option V×Option V×Option V)=>[some (.ref g),some (.ref N),some (.ref F),s.2.2.1,some (.bool s.1),s.2.2.2.1,s.2.2.2.2]) (λs H'=>Ext H1 H'∧H'[F]?=some (.list (vn s.2.1))∧Rd G fb 0 0 false s.2.1∧(s.1=false->G2 G s.2.1))
   (λs=>2*(248-s.2.1.sum)+s.1.toNat) (true,f0 8,s,none,none) ⟨h.1,h.2,rd0,λz=>ff z.symm⟩ ?_)
  intro s H' K h cq _
  obtain⟨b,fs,x3,x5,x6⟩:=s
  cases b with
  |false=>exact .no (.iu (.var rfl) (.bool _) rfl) (.ret (.var rfl) (q' λj=>q F fs H' j (eN.none fF) h.2.1 (eN.trans h.1) (h.2.2.2 rfl)))
  |true=>
   have g1:=h.2.2.1
   refine .yes (.iu (.var rfl) (.bool _) rfl) (.set .lit (.sg (λ_ (s:Bool×List Nat×Option V×Option V)=>[some (.ref g),some (.ref N),some (.ref F),x3,some (.bool s.1),s.2.2.1,s.2.2.2])
    (λn s H'=>Ext H1 H'∧H'[F]?=some (.list (vn s.2.1))∧Rd G fb fs.sum n s.1 s.2.1) (false,fs,x5,x6) (iF.n_ hG (eN.trans h.1) rfl) ⟨h.1,h.2.1,⟨g1.1,g1.2,g1.3,aC _,ff,λ_ r h=>absurd h (bc r)⟩⟩ ?_ ?_ ?_))
   ·intro n s H h;exact(eN.trans h.1) _ _ hG.2
   ·intro n a s H4 K hx h cq _
    have hn:n<5:=hG.len▸(ah.1 hx).1
    have rd:=h.2.2
    refine hG.at_ hn λa' x r1 r2 r3 r4 r5=>?_
    cases hx.symm.trans r1
    have hr:=(eN.trans h.1) _ _ r3
    have l8:=iF.jV hG.13 hn
    have gl:=cR (getD_at (d:=0) (rd.1.symm▸l8))
    rw[r4]at gl
    have fo_:=w_ (hG.13.3 _ _ r2) (λs m=>iF.lT hG.13 (r:=n) (r5▸m)) (h.1 _ _ gN) nl.1 h.2.1 rd.1
    rw[←r5]at fo_
    refine .set (.bin (.idx (.var rfl) (.attr (.var rfl) hr rfl rfl) (.nat h.2.1 gl)) (.idx (.call (.av (.attr (.var rfl) hr rfl (r5▸rfl)) (.av (.var rfl) (.av (.var rfl) .bm))) fo_) .lit (.tup (ic _ rfl) rfl rfl)) (.bor _ _ _)) ?_
    rw[r4]at l8
    refine .ite (.b9 (.var rfl) (.idx (.var rfl) (.attr (.var rfl) hr rfl rfl) (.nat h.2.1 gl)) (.ne (.int _ _))) (λt=>?_) λt=>?_
    ·have t:s.2.1.getD x.left 0|||(fo s.2.1 fb 0 (G.right n)).1≠s.2.1.getD x.left 0:=λe=>by rw[e,beq_self_eq_true]at t;exact ff t
     refine .br (.var rfl) (.var rfl) (.attr (.var rfl) hr rfl rfl) (.list h.2.1 (dW (by rw[aW,rd.1];exact l8))) (.set .lit (.nil (.nil (cq (true,_,_,_) rfl ⟨h.1.set fF,?_,rd.grow l8 (M4 rd.2 _ _ (by decide)) t⟩))))
     rw[dq h.2.1,tB]
    ·have t:s.2.1.getD x.left 0|||(fo s.2.1 fb 0 (G.right n)).1=s.2.1.getD x.left 0:=by
      rw[pZ,beq_iff_eq]at t;exact a8.1 t
     rw[←r4]at t;exact .nil (.nil (cq (s.1,s.2.1,some (.ref a),some (.int (s.2.1.getD x.left 0|||(fo s.2.1 fb 0 (G.right n)).1:Nat))) rfl ⟨h.1,h.2.1,rd.G3 t⟩))
   ·intro s H4 h
    have rd:=h.2.2
    rw[hG.len]at rd
    refine .nil (cq (_,_,_,_,_) rfl ⟨h.1,h.2.1,rd.z,λe=>?_⟩ ?_)
    ·rw[show s.1=false from e]at rd;exact rd.fst nl
    ·exact msr rd.s rd.4 rd.5
end
section
noncomputable def bh (fs:List Nat) (nb:List Bool) (base:Nat):List Nat->Nat
 |[]=>base
 |s::w=>if s<5 then fs.getD s 0 else bif nb.getD s false then bh fs nb base w|||fs.getD s 0 else fs.getD s 0
inductive J9 (G:aJ) (fs ws:List Nat):Prop
 |mk (len:ws.length=8) (lt:∀s∈ws,s<32) (a:∀r<5,∀(i A j s:Nat),(G.right r)[i]?=some A->5≤A->((G.right r).drop (i+1))[j]?=some s->(∀x∈((G.right r).drop (i+1)).take j,5≤x∧B8 G x)->∀t,(fs.getD s 0).testBit t=true->(ws.getD A 0).testBit t=true) (b:∀r<5,∀(i A:Nat),(G.right r)[i]?=some A->5≤A->(∀x∈(G.right r).drop (i+1),5≤x∧B8 G x)->∀t,(ws.getD (G.left r) 0).testBit t=true->(ws.getD A 0).testBit t=true)
section
variable {fs:List Nat} {nb:List Bool} {base t s:Nat}
theorem D7 {w:List Nat}:bh fs nb base (s::w)=if s<5 then fs.getD s 0 else bif nb.getD s false then bh fs nb base w|||fs.getD s 0 else fs.getD s 0:=rfl
theorem M6 {w:List Nat} (n:5≤s∧nb[s]?=some true):bh fs nb base (s::w)=bh fs nb base w|||fs.getD s 0:=by
 rw[D7,if_neg (bG.2 n.1),aF,n.2];rfl
theorem M7 (h:∀s∈fs,s<32) (b:base<32) (w:List Nat):bh fs nb base w<32:=by
 induction w with
 |nil=>exact b
 |cons s w ih=>
  rw[D7];by_cases z:s<5
  ·rw[if_pos z];exact jj h
  ·rw[if_neg z];cases nb.getD s false
   ·exact jj h
   ·exact dC (n:=5) ih (jj h)
theorem PF (ht:(fs.getD s 0).testBit t=true) (w:List Nat):∀j:Nat,w[j]?=some s->(∀x∈w.take j,5≤x∧nb[x]?=some true)->(bh fs nb base w).testBit t=true:=by
 induction w with
 |nil=>exact λj e _=>c7 dD e
 |cons a w ih=>
  intro j e n
  cases j with
  |zero=>
   cases e
   rw[D7];by_cases z:s<5
   ·rw[if_pos z];exact ht
   ·rw[if_neg z];cases nb.getD s false
    ·exact ht
    ·exact(bY ..).trans (by rw[ht,fE])
  |succ j=>rw[M6 (n a aQ),bY,ih j e λx hx=>n x (aL _ hx)];rfl
theorem PG (ht:base.testBit t=true) (w:List Nat):(∀x∈w,5≤x∧nb[x]?=some true)->(bh fs nb base w).testBit t=true:=by
 induction w with
 |nil=>exact λ_=>ht
 |cons a w ih=>intro n;rw[M6 (n a aQ),bY,ih λx hx=>n x (aL _ hx)];rfl
end
noncomputable def Cw (fs:List Nat) (nb:List Bool) (ws:List Nat) (l:Nat) (w:List Nat) (k:Nat):Prop:=∀(i A:Nat),k≤i->w[i]?=some A->5≤A->ws.getD A 0|||bh fs nb (ws.getD l 0) (w.drop (i+1))=ws.getD A 0
inductive Rf (G:aJ) (fs:List Nat) (nb:List Bool) (s0 n:Nat) (b:Bool) (ws:List Nat):Prop
 |mk (len:ws.length=8) (lt:∀s∈ws,s<32) (up:s0≤ws.sum) (yes:b=true->s0<ws.sum) (no:b=false->∀r<n,Cw fs nb ws (G.left r) (G.right r) 0)
theorem Rf.more {G fs nb s0 n b ws} (h:Rf G fs nb s0 n b ws) (e:b=false->Cw fs nb ws (G.left n) (G.right n) 0):Rf G fs nb s0 (n+1) b ws:=
 ⟨h.1,h.2,h.3,h.4,λz r hr=>by
  rcases ba.1 hr with k|k
  ·exact h.5 z r k
  ·exact k▸e z⟩
theorem Rf.grow {G fs nb s0 n b ws m k} (h:Rf G fs nb s0 n b ws) (k8:k<8) (m5:m<32) (e:ws.getD k 0|||m≠ws.getD k 0):Rf G fs nb s0 n true (ws.set k (ws.getD k 0|||m)):=by
 have g4:=xb (h.1.symm▸k8) h.3 e
 refine⟨aU.trans h.1,λs hs=>?_,aI g4,λ_=>g4,λz=>ff z.symm⟩
 rcases hM hs with k|k
 ·exact h.2 s k
 ·rw[k];exact dC (n:=5) (jj h.2) m5
theorem Rf.z {G fs nb s0 n b ws} (h:Rf G fs nb s0 n b ws):Rf G fs nb 0 0 false ws:=⟨h.1,h.2,bw _,ff,λ_ r h=>absurd h (bc r)⟩
theorem Rf.s {G fs nb s0 n b ws} (h:Rf G fs nb s0 n b ws):ws.sum≤248:=aj (D6 ws h.2) (by rw[h.1];decide)
theorem Rf.flw {G fs nb s0 ws} (h:Rf G fs nb s0 5 false ws) (nl:Nl G nb):J9 G fs ws:=
 ⟨h.1,h.2,λr hr i A j s hi h5 hj hn t ht=>by
  rw[←h.5 rfl r hr i A (bw _) hi h5,bY,PF ht _ j hj λx hx=>⟨(hn x hx).1,nl.nul (hn x hx).2⟩,fE],
 λr hr i A hi h5 hn t ht=>by
  rw[←h.5 rfl r hr i A (bw _) hi h5,bY,PG ht _ λx hx=>⟨(hn x hx).1,nl.nul (hn x hx).2⟩,fE]⟩
end
section
variable {G:aJ} {A:GA} {g:Nat} {R:Prop}
theorem PH {m n:Nat} (h:n<m):m-n=m-1-n+1:=by rw[p5,p6 (Nat.sub_pos_of_lt h)]
theorem PI (m n:Nat):m-(n+1)=m-1-n:=by rw[p5];rfl
theorem rep0 {n:Nat}:List.replicate n (V.int 0)=vn (List.replicate n 0):=(kD (f:=λn:Nat=>V.int n)).symm
theorem J_ {w:List Nat} {n:Nat} {y:V} (h:(vn w).reverse[n]?=some y):∃s:Nat,n<w.length∧w[w.length-1-n]?=some s∧y= .int s:=by
 have z:=(ah.1 h).1
 rw[cX,aW]at z
 rw[List.getElem?_reverse (by rw[aW];exact z),aW]at h
 obtain⟨s,e,q⟩:=DX h;exact⟨s,z,e,q⟩
inductive Fl0 (G:aJ) (A:GA) (g:Nat) (H:Hp) (N Fa:Nat) (fb:List Bool) (fs:List Nat):Prop
 |mk (g:cg H g G A) (n:H[N]?=some (.list (vP fb))) (nl:Nl G fb) (f:H[Fa]?=some (.list (vn fs))) (fs:G2 G fs)
noncomputable def Lw (g N F W:Nat) (x4 x5 x6 x7:Option V):Lc:=[some (.ref g),some (.ref N),some (.ref F),some (.ref W),x4,x5,x6,x7]
theorem Bj {H H':Hp} {N Fa W n a:Nat} {fb fs ws s0 b x4 x7} {ru:Ru} {Q:Fl->Lc->Hp->Prop} {r:i6} (o:Fl0 G A g H N Fa fb fs) (e:Ext H H') (fW:H[W]?=none) (gW:H'[W]?=some (.list (vn ws)))
  (hn:n<5) (r3:H[a]?=some (B7 n ru)) (r4:G.left n=ru.left) (r5:G.right n=ru.right) (rl:ru.right.length≤3) (rf:Rf G fs fb s0 n b ws)
  (k:∀b' x6 x7 N_ H2,Ext H H2->H2[W]?=some (.list (vn N_))->Rf G fs fb s0 (n+1) b' N_->cB r (Lw g N Fa W (some (.bool b')) (some (.ref a)) x6 x7) H2 Q):
  cB (.cons ((((bo 15).at 4).in.at 1).in.at 0) (.cons ((((bo 15).at 4).in.at 1).in.at 1) r))
   (Lw g N Fa W (some (.bool b)) (some (.ref a)) x4 x7) H' Q:=by
 have l8:=iF.jV o.1.13 hn
 have rf0:=rf
 rw[r4]at l8
 refine .set (.idx (.var rfl) (.attr (.var rfl) (e _ _ r3) rfl rfl) (.nat gW (cR (getD_at (d:=0) (rf.1.symm▸l8))))) ?_
 refine .yI (λ_ (s:Bool×List Nat×Nat×Option V)=>Lw g N Fa W (some (.bool s.1)) (some (.ref a)) (some (.int s.2.2.1)) s.2.2.2)
  (λm s H'=>Ext H H'∧H'[W]?=some (.list (vn s.2.1))∧Rf G fs fb s0 n s.1 s.2.1∧s.2.2.1=bh fs fb (ws.getD ru.left 0) (ru.right.drop (ru.right.length-m))∧
   (s.1=false->s.2.1.getD ru.left 0=ws.getD ru.left 0∧Cw fs fb s.2.1 ru.left ru.right (ru.right.length-m))) (b,ws,ws.getD ru.left 0,x7)
  (.MQ (.attr (.var rfl) (e _ _ r3) rfl rfl) .tup (by rw[cX,aW];exact lM (aj rl (by decide)))) ⟨e,gW,rf,?_,λ_=>⟨rfl,λi A hi hA=>?_⟩⟩ (λ_=>trivial) ?_ ?_
 ·show _=bh fs fb (ws.getD ru.left 0) (ru.right.drop (ru.right.length-0));rw[Nat.sub_zero,hJ];rfl
 ·exact c7 (bT hi) hA
 ·intro m y s H1 K hy h cq _
  obtain⟨b1,IJ,b6,x7⟩:=s
  obtain⟨E,gW,rf,hb,cw⟩:=h
  obtain⟨s,hm,hs,rfl⟩:=J_ hy
  have s8:s<8:=iF.lT o.1.13 (r:=n) (r5▸am hs)
  have e1:ru.right.length-m=ru.right.length-1-m+1:=PH hm
  have e2:ru.right.length-(m+1)=ru.right.length-1-m:=PI _ _
  have e3:=sB hs
  generalize ru.right.length-1-m=i at hs e1 e2 e3
  simp only[e1]at hb cw
  simp only[e2,e3]at cq
  have fx:JE (.idx (.var 2) (.var 7)) (Lw g N Fa W (some (.bool b1)) (some (.ref a)) (some (.int b6)) (some (.int s))) H1 (.int (fs.getD s 0:Nat)) H1:=
   .idx (.var rfl) (.var rfl) (.nat (E _ _ o.4) (cR (getD_at (d:=0) (o.5.1.symm▸s8))))
  rcases a9 s 5 with z|z
  ·refine .then (.iu (.bA (.var rfl) (E _ _ o.1.1) rfl rfl (.av (.var rfl) .bm) (DY (o.1.ext E) z)) (.bool _) rfl) (.set fx (.cont (cq (b1,IJ,fs.getD s 0,some (.int s)) rfl ⟨E,gW,rf,?_,λt=>⟨(cw t).1,λj A hj hA h5=>?_⟩⟩)))
   ·rw[D7,if_pos z]
   ·rcases iJ hj with rfl|hj
    ·cases hs.symm.trans hA;exact absurd z (bG.2 h5)
    ·exact(cw t).2 j A hj hA h5
  ·refine .pass (.iu (.bA (.var rfl) (E _ _ o.1.1) rfl rfl (.av (.var rfl) .bm) (DZ (o.1.ext E) z)) (.bool _) rfl) ?_
   have w8:(vn IJ)[s]?=some (.int (IJ.getD s 0:Nat)):=cR (getD_at (rf.1.symm▸s8))
   have b32:b6<32:=hb▸M7 o.5.2 (jj rf0.2) _
   have tail:∀b2 Ka H2,Ext H H2->H2[W]?=some (.list (vn Ka))->Rf G fs fb s0 n b2 Ka->(b2=false->Ka.getD ru.left 0=ws.getD ru.left 0∧Cw fs fb Ka ru.left ru.right i)->
     cB (.cons (.set (.v 6) (.ite (.idx (.var 1) (.var 7)) (.bin .bor (.var 6) (.idx (.var 2) (.var 7))) (.idx (.var 2) (.var 7)))) .nil) (Lw g N Fa W (some (.bool b2)) (some (.ref a)) (some (.int b6)) (some (.int s))) H2 K:=λb2 Ka H2 E gW rf cw=>by
    have T:=JT.iu (H:=H2) (L:=Lw g N Fa W (some (.bool b2)) (some (.ref a)) (some (.int b6)) (some (.int s))) (e:=.idx (.var 1) (.var 7)) (.idx (.var rfl) (.var rfl) (.nat (E _ _ o.2) (iF.kQ (getD_at (d:=false) (o.3.1.symm▸s8))))) (.bool _) rfl
    have fx:JE (.idx (.var 2) (.var 7)) (Lw g N Fa W (some (.bool b2)) (some (.ref a)) (some (.int b6)) (some (.int s))) H2 (.int (fs.getD s 0:Nat)) H2:=
     .idx (.var rfl) (.var rfl) (.nat (E _ _ o.4) (cR (getD_at (d:=0) (o.5.1.symm▸s8))))
    rw[D7,if_neg (bG.2 z)]at cq
    cases eb:fb.getD s false
    ·rw[eb]at T cq
     exact .set (.ite T fx) (.nil (cq (b2,Ka,fs.getD s 0,some (.int s)) rfl ⟨E,gW,rf,rfl,cw⟩))
    ·rw[eb]at T cq
     exact .set (.ite T (.bin (.var rfl) fx (.bor _ _ _))) (.nil (cq (b2,Ka,b6|||fs.getD s 0,some (.int s)) rfl ⟨E,gW,rf,by rw[hb];rfl,cw⟩))
   refine .ite (.b9 (.bin (.idx (.var rfl) (.var rfl) (.nat gW w8)) (.var rfl) (.bor _ _ _)) (.idx (.var rfl) (.var rfl) (.nat gW w8)) (.ne (.int _ _))) (λt=>?_) λt=>?_
   ·have t:IJ.getD s 0|||b6≠IJ.getD s 0:=λe=>by rw[e,beq_self_eq_true]at t;exact ff t
    refine .br (.bin (.idx (.var rfl) (.var rfl) (.nat gW w8)) (.var rfl) (.bor _ _ _)) (.var rfl) (.var rfl) (.list gW (dW (by rw[aW,rf.1];exact s8))) (.set .lit (.nil (tail true _ _ (E.set fW) ?_ (rf.grow s8 b32 t) λz=>ff z.symm)))
    rw[dq gW,tB]
   ·have t:IJ.getD s 0|||b6=IJ.getD s 0:=by
     rw[pZ,beq_iff_eq]at t;exact a8.1 t
    refine .nil (tail b1 IJ H1 E gW rf λu=>⟨(cw u).1,λj A hj hA h5=>?_⟩)
    rcases iJ hj with rfl|hj
    ·cases hs.symm.trans hA;rw[(cw u).1,←show b6=bh fs fb (ws.getD ru.left 0) (ru.right.drop (i+1)) from hb];exact t
    ·exact(cw u).2 j A hj hA h5
 ·intro s H1 h
  rw[cX,aW,ez]at h
  refine k s.1 _ _ s.2.1 H1 h.1 h.2.1 (h.2.2.1.more λt=>?_)
  rw[r4,r5];exact(h.2.2.2.2 t).2
theorem si {H:Hp} (hG:cg H g G A)
  (q:∀a fs ws H',JR 15 [.ref g] H (.ref a) H'->H[a]?=none->H'[a]?=some (.list (vn ws))->Ext H H'->G2 G fs->J9 G fs ws->R):R:=by
 refine dc 15 [.ref g] H rfl rfl (L:=[some (.ref g),none,none,none,none,none,none,none]) rfl λQ q'=>?_
 refine oa hG λN fb H1 j fN gN eN nl=>.set (.call (.av (.var rfl) .bm) j) ?_
 refine tD (hG.ext eN) λFa fs H2 j fF gF eF fst=>.set (.call (.av (.var rfl) .bm) j) ?_
 have e2:=eN.trans eF
 refine D5 (n:=8) (λW H3 j fW gW e3=>.set j (.set .lit ?_)) (λH' e=>.bA (.var rfl) ((e2.trans e) _ _ hG.1) rfl rfl .bm (iA (hG.ext (e2.trans e)))) (by decide)
 have o:Fl0 G A g H2 N Fa fb fs:=⟨hG.ext e2,eF _ _ gN,nl,gF,fst⟩
 rw[rep0]at gW
 refine .pO (fun(s:Bool×List Nat×Option V×Option V×Option V)=>Lw g N Fa W (some (.bool s.1)) s.2.2.1 s.2.2.2.1 s.2.2.2.2) (λs H'=>Ext H2 H'∧H'[W]?=some (.list (vn s.2.1))∧Rf G fs fb 0 0 false s.2.1∧(s.1=false->J9 G fs s.2.1))
  (λs=>2*(248-s.2.1.sum)+s.1.toNat) (true,List.replicate 8 0,none,none,none) ⟨e3,gW,⟨rfl,by decide,bw _,ff,λ_ r h=>absurd h (bc r)⟩,λz=>ff z.symm⟩ ?_
 intro s H' K h cq _
 obtain⟨b,ws,x5,x6,x7⟩:=s
 cases b with
 |false=>exact .no (.iu (.var rfl) (.bool _) rfl) (.ret (.var rfl) (q' λj=>q W fs ws H' j (e2.none fW) h.2.1 (e2.trans h.1) fst (h.2.2.2 rfl)))
 |true=>
  have g1:=h.2.2.1
  refine .yes (.iu (.var rfl) (.bool _) rfl) (.set .lit (.sg (λ_ (s:Bool×List Nat×Option V×Option V×Option V)=>Lw g N Fa W (some (.bool s.1)) s.2.2.1 s.2.2.2.1 s.2.2.2.2)
   (λn s H'=>Ext H2 H'∧H'[W]?=some (.list (vn s.2.1))∧Rf G fs fb ws.sum n s.1 s.2.1) (false,ws,x5,x6,x7) (iF.n_ o.1 h.1 rfl) ⟨h.1,h.2.1,⟨g1.1,g1.2,aC _,ff,λ_ r h=>absurd h (bc r)⟩⟩ ?_ ?_ ?_))
  ·intro n s H h;exact h.1 _ _ o.1.2
  ·intro n a s H4 K hx h cq _
   have hn:n<5:=hG.len▸(ah.1 hx).1
   refine o.1.at_ hn λa' x r1 r2 r3 r4 r5=>?_
   cases hx.symm.trans r1
   exact Bj o h.1 fW h.2.1 hn r3 r4 r5 (hG.13.3 _ _ r2) h.2.2 λb' x6 x7 N_ H5 e g rf=>.nil (cq (b',N_,some (.ref a),x6,x7) rfl ⟨e,g,rf⟩)
  ·intro s H4 h
   have rd:=h.2.2
   rw[hG.len]at rd
   refine .nil (cq (_,_,_,_,_) rfl ⟨h.1,h.2.1,rd.z,λe=>?_⟩ (msr rd.s rd.3 rd.4))
   rw[show s.1=false from e]at rd;exact rd.flw nl
end
section
noncomputable def yK (m:Nat) (l:List Nat) (i:Nat):List Nat:=bif (l.getD i 0).testBit m then l.set i (l.getD i 0|||l.getD m 0)else l
noncomputable def G4 (l:List Nat) (m:Nat):List Nat:=(List.range 8).foldl (yK m) l
noncomputable def tr (l:List Nat):List Nat:=(List.range 8).foldl G4 l
theorem G5 {m l i}:(yK m l i).length=l.length:=by
 unfold yK;cases(l.getD i 0).testBit m
 ·rfl
 ·exact aU
theorem d_ {α} (f:α->Nat->α) (x:α) (n:Nat):(List.range (n+1)).foldl f x=f ((List.range n).foldl f x) n:=by
 rw[bK,List.foldl_append];rfl
theorem qr {m l} (n:Nat):((List.range n).foldl (yK m) l).length=l.length:=by
 induction n with
 |zero=>rfl
 |succ n ih=>rw[d_,G5,ih]
theorem oN {l} (n:Nat):((List.range n).foldl G4 l).length=l.length:=by
 induction n with
 |zero=>rfl
 |succ n ih=>rw[d_,G4,qr,ih]
theorem G6 (m:Nat):(((m&&& 1:Nat):Int)==1)=m.testBit 0:=by
 rw[Nat.testBit_zero,Nat.and_one_is_mod]
 rcases Nat.mod_two_eq_zero_or_one m with h|h<;>rw[h]<;>rfl
variable {H:Hp} {R:Prop}
theorem ut {a:Nat} {rs:List Nat} (h:H[a]?=some (.list (vn rs))) (l8:rs.length=8) (q:∀b H',JR 4 [.ref a] H (.ref b) H'->H[b]?=none->H'[b]?=some (.list (vn (tr rs)))->Ext H H'->R):R:=by
 refine dc 4 [.ref a] H rfl rfl (L:=[some (.ref a),none,none,none]) rfl λQ q'=>?_
 refine qn (.var rfl) h (by rw[aW,l8];decide) λb H1 j fb gb eb=>.set j ?_
 refine .tA 8 (λ_ (s:Option V×Option V)=>[some (.ref a),some (.ref b),s.1,s.2]) (λn s H'=>Ext H H'∧H'[b]?=some (.list (vn ((List.range n).foldl G4 rs)))) (none,none) ?_ (by decide) ⟨eb,gb⟩ ?_ ?_
 ·have:=JE.len (L:=[some (.ref a),some (.ref b),none,none]) (a:=.var 1) (.var rfl) (.list gb (by rw[aW,l8];decide))
  rw[aW,l8]at this;exact this
 ·intro n s H2 K hn h cq _
  refine .tA 8 (λ_ (s:Option V)=>[some (.ref a),some (.ref b),some (.int n),s]) (λm s H'=>Ext H H'∧H'[b]?=some (.list (vn ((List.range m).foldl (yK n) ((List.range n).foldl G4 rs))))) s.2 ?_ (by decide) h ?_ ?_
  ·have:=JE.len (L:=[some (.ref a),some (.ref b),some (.int n),s.2]) (a:=.var 1) (.var rfl) (.list h.2 (by rw[aW,oN,l8];decide))
   rw[aW,oN,l8]at this;exact this
  ·intro m s H3 K hm h cq _
   rw[d_]at cq
   have ll:((List.range m).foldl (yK n) ((List.range n).foldl G4 rs)).length=8:=by rw[qr,oN,l8]
   generalize (List.range m).foldl (yK n) ((List.range n).foldl G4 rs)=l at h cq ll
   have gm:=cR (getD_at (d:=0) (ll.symm▸hm:m<l.length))
   have gn:=cR (getD_at (d:=0) (ll.symm▸hn:n<l.length))
   have T:=JT.b9 (H:=H3) (L:=[some (.ref a),some (.ref b),some (.int n),some (.int m)]) (.bin (.bin (.idx (.var (i:=1) rfl) (.var (i:=3) rfl) (.nat h.2 gm)) (.var (i:=2) rfl) (.shr _ _ _)) .lit (.band _ 1 _)) .lit (.eq (.int _ 1))
   rw[G6,mO,qL]at T
   cases e:(l.getD m 0).testBit n
   ·rw[e]at T;rw[yK,e]at cq
    exact .pass T (.nil (cq _ rfl h))
   ·rw[e]at T;rw[yK,e]at cq
    refine .then T (.br (.bin (.idx (.var rfl) (.var rfl) (.nat h.2 gm)) (.idx (.var rfl) (.var rfl) (.nat h.2 gn)) (.bor _ _ _)) (.var rfl) (.var rfl) (.list h.2 (dW (by rw[aW,ll];exact hm))) (.nil (.nil (cq _ rfl ⟨h.1.set fb,?_⟩))))
    rw[dq h.2,tB];rfl
  ·intro s H3 h
   refine .nil (cq (_,s) rfl ?_)
   rw[d_];exact h
 ·intro s H2 h
  exact .ret (.var rfl) (q' λj=>q b H2 j fb h.2 h.1)
end
section
noncomputable def jX (l:List Nat):List Nat:=l.mergeSort λa b=>decide (a≤b)
theorem Kc (l:List Nat):di (FK (l.map Int.ofNat))=vn (jX l):=by
 rw[iE,jX,List.map_mergeSort (s:=λa b=>decide (a≤b))]
 ·rfl
 ·intro a _ b _;exact decide_eq_decide.2 dR.symm
theorem dL {l:List Nat} {x:Nat}:x∈jX l↔x∈l:=List.mem_mergeSort
theorem eg (l:List Nat):(jX l).length=l.length:=ny l
theorem yL (l:List Nat):(jX l).Pairwise (· ≤ ·):=
 (lY (le:=λa b:Nat=>decide (a≤b)) (λ_ _ _ h k=>decide_eq_true (aj (of_decide_eq_true h) (of_decide_eq_true k))) (λa b=>cD.2 ((Nat.le_total a b).imp decide_eq_true decide_eq_true)) l).imp of_decide_eq_true
theorem fQ {l:List Nat} (h:l.Nodup):(jX l).Nodup:=(pc l _).nodup_iff.2 h
theorem Kd {l:List Nat} (h:l.Nodup):(jX l).Pairwise (· < ·):=
 ((yL l).and (fQ h)).imp λq=>iI q.1 q.2
namespace aJ
variable(G:aJ)
noncomputable def af (i:Nat):Option Nat:=(G.right (G.rl i))[G.dt i]?
theorem tE {G:aJ} {i s:Nat} (h:G.af i=some s):G.GU i=s:=by unfold GU;rw[show(G.right (G.rl i))[G.dt i]?=some s from h]
theorem tF {G:aJ} {i:Nat} (h:G.af i=none):G.GU i= -1:=by unfold GU;rw[show(G.right (G.rl i))[G.dt i]?=none from h]
noncomputable def Fy (l:List Nat) (r:Nat):List Nat:=match G.right r with
 |[]=>l
 |s::_=>l.set (G.left r) (l.getD (G.left r) 0|||1<<<s)
noncomputable def xc (n:Nat):List Nat:=(List.range n).foldl G.Fy (List.replicate 8 0)
noncomputable def B9:List Nat:=tr (G.xc 5)
noncomputable def G7 (m i:Nat):Nat:=match G.af i with
 |none=>m
 |some s=>m|||1<<<s|||G.B9.getD s 0
noncomputable def wn (ker:List Nat):Nat:=ker.foldl G.G7 0
noncomputable def xd (ker:List Nat) (s:Nat):List Nat:=((G.gx s).map G.off).filter λi=>!ker.contains i
noncomputable def adds (ker:List Nat):List Nat:=(dA (G.wn ker)).flatMap (G.xd ker)
noncomputable def cls (ker:List Nat):List Nat:=jX ker++jX (G.adds ker)
noncomputable def red (its:List Nat):List Nat:=jX ((its.filter λi=>(G.af i).isNone&&(G.rl i !=0)).map G.rl)
noncomputable def sj (l:List Nat) (i:Nat):List Nat:=match G.af i with
 |none=>l
 |some s=>if s∈l then l else l++[s]
noncomputable def syms (its:List Nat):List Nat:=its.foldl G.sj []
noncomputable def hV (its:List Nat) (s:Nat):List Nat:=(its.filter λi=>G.af i==some s).map (· +1)
noncomputable def Ke (its:List Nat):List (Nat×List Nat):=(jX (G.syms its)).map λs=>(s,jX (G.hV its s))
end aJ
variable {G:aJ} {A:GA} {g:Nat} {R:Prop} {H:Hp}
theorem tG {r:Nat} (hG:cg H g G A) {s:Nat} {w:List Nat} (e:G.right r=s::w):s<8:=iF.lT hG.13 (r:=r) (e▸aQ ..)
theorem xf {l r} (e:G.right r=[]):G.Fy l r=l:=by unfold aJ.Fy;rw[e]
theorem xh {l r s w} (e:G.right r=s::w):G.Fy l r=l.set (G.left r) (l.getD (G.left r) 0|||1<<<s):=by unfold aJ.Fy;rw[e]
theorem G8 {l r}:(G.Fy l r).length=l.length:=by
 cases e:G.right r with
 |nil=>rw[xf e]
 |cons=>rw[xh e];exact aU
theorem mJ (n:Nat):(G.xc n).length=8:=by
 induction n with
 |zero=>rfl
 |succ n ih=>rw[aJ.xc,d_,G8];exact ih
inductive Bk (H:Hp) (c g:Nat) (G:aJ) (T:Nat):Prop
 |mk (inst:H[c]?=some (.inst 3 [(12,.ref g),(38,.ref T)])) (t:H[T]?=some (.list (vn G.B9)))
theorem tH {H':Hp} {c:Nat} (hG:cg H g G A) (fc:H[c]?=none) (e:Ext H H') (hc:H'[c]?=some (.inst 3 []))
  (q:∀T H2,JR 42 [.ref c,.ref g] H' .none H2->Ext H H2->Bk H2 c g G T->R):R:=by
 refine dc 42 [.ref c,.ref g] H' rfl rfl (L:=[some (.ref c),some (.ref g),none,none]) rfl λQ q'=>?_
 refine .setattr (.var rfl) (.var rfl) hc rfl rfl ?_
 have e1:Ext H (H'.set c (.inst 3 (dv 12 (.ref g) []))):=e.set fc
 have Oa:(H'.set c (.inst 3 (dv 12 (.ref g) [])))[c]?=some (.inst 3 [(12,.ref g)]):=dq hc
 generalize H'.set c (.inst 3 (dv 12 (.ref g) []))=H1 at e1 Oa
 refine D5 (n:=8) (λW H3 j fW gW e3=>.set j ?_) (λH' e=>.bA (.var rfl) ((e1.trans e) _ _ hG.1) rfl rfl .bm (iA (hG.ext (e1.trans e)))) (by decide)
 rw[rep0]at gW
 refine .sg (λ_ (s:Option V)=>[some (.ref c),some (.ref g),some (.ref W),s]) (λn s H'=>Ext H1 H'∧H'[W]?=some (.list (vn (G.xc n)))) none (iF.n_ hG (e1.trans e3) rfl) ⟨e3,gW⟩ (λh=>(e1.trans h.1) _ _ hG.2) ?_ ?_
 ·intro n a s H4 K hx h cq _
  have hn:n<5:=hG.len▸(ah.1 hx).1
  refine hG.at_ hn λa' x r1 r2 r3 r4 r5=>?_
  cases hx.symm.trans r1
  have hr:=(e1.trans h.1) _ _ r3
  have l8:=iF.jV hG.13 hn
  have E:G.xc (n+1)=G.Fy (G.xc n) n:=d_ _ _ _
  have ll:=mJ (G:=G) n
  have T:=JT.b9 (H:=H4) (L:=[some (.ref c),some (.ref g),some (.ref W),some (.ref a)]) (a:=.len (.attr (.var 3) 6)) (.len (.attr (.var rfl) hr rfl rfl) (.tup (lM (by rw[aW];exact aj (hG.13.3 _ _ r2) (by decide))))) .lit (.gt _ 0)
  rw[aW,←r5]at T
  cases ew:G.right n with
  |nil=>
   rw[ew]at T;rw[xf ew]at E
   exact .pass T (.nil (cq _ rfl ⟨h.1,E▸h.2⟩))
  |cons y w=>
   rw[ew,decide_eq_true (show(0:Int)<(((y::w).length:Nat):Int) from fK.2 (hE _))]at T;rw[xh ew]at E
   have s8:=tG hG ew
   refine .then T ?_
   have gl:=cR (getD_at (d:=0) (ll.symm▸l8:G.left n<(G.xc n).length))
   rw[r4]at gl
   have r6:(vn x.right)[0]?=some (.int y):=by rw[←r5,ew];rfl
   refine .br (.bin (.idx (.var rfl) (.attr (.var rfl) hr rfl rfl) (.nat h.2 gl)) (.bin .lit (.idx (.attr (.var rfl) hr rfl rfl) .lit (.tup (lM (by rw[aW];exact aj (hG.13.3 _ _ r2) (by decide))) (dW (k:=0) (ah.1 r6).1) r6)) (.shl 1 y _ (by decide) (bH s8 (by decide)))) (.bor _ _ _)) (.var rfl) (.attr (.var rfl) hr rfl rfl) (.list h.2 (dW (by rw[aW,ll,←r4];exact l8)))
    (.nil (.nil (cq _ rfl ⟨h.1.set fW,?_⟩)))
   rw[dq h.2,tB,E,r4]
 ·intro s H4 h
  rw[hG.len]at h
  refine ut h.2 (mJ 5) λT H5 j fT gT eT=>.setattr (.call (.av (.var rfl) .bm) j) (.var rfl) ((h.1.trans eT) _ _ Oa) rfl rfl (.nil (q' λj=>q T _ j ?_ ⟨dq ((h.1.trans eT) _ _ Oa),eK gT ?_⟩))
  ·exact((e1.trans h.1).trans eT).set fc
  ·exact rN gT ((h.1.trans eT) _ _ Oa) λz=>O.noConfusion z
end
section
theorem iG {α β} (f:β->α->β) (a:β) {l:List α} {n:Nat} {x:α} (h:l[n]?=some x):(l.take (n+1)).foldl f a=f ((l.take n).foldl f a) x:=by
 rw[aV,h,List.foldl_append];rfl
theorem Bl {α β} (f:α->List β) {l:List α} {n:Nat} {x:α} (h:l[n]?=some x):(l.take (n+1)).flatMap f=(l.take n).flatMap f++f x:=by
 rw[aV,h,cH];exact congrArg (_++ ·) (aO (f x))
theorem kW {α} (p:α->Bool) {l:List α} {n:Nat} {x:α} (h:l[n]?=some x):(l.take (n+1)).filter p=bif p x then(l.take n).filter p++[x]else(l.take n).filter p:=by
 rw[aV,h,cS]
 cases e:p x
 ·exact(congrArg (_++ ·) (c9 λz=>ff (e.symm.trans z))).trans (aO _)
 ·exact congrArg (_++ ·) (cK e)
theorem qs (l:List Nat) (i:Nat):(l.map Int.ofNat).contains (i:Int)=l.contains i:=by
 rw[m7,cZ,cZ,aA]
 exact⟨λq=>q.elim λj q=>Int.ofNat.inj q.2▸q.1,λh=>⟨i,h,rfl⟩⟩
theorem M8 {H:Hp} {i:Nat} {l:List Nat}:AO H (.int i) (.tup (vn l)) (l.contains i):=by
 rw[←qs,iE];exact .tup
theorem D8 {H:Hp} {l:List Nat}:jK H (.tup (vn l)) (l.map Int.ofNat):=by rw[iE];exact .tup
theorem ints_list {H:Hp} {a:Nat} {l:List Nat} (h:H[a]?=some (.list (vn l))):jK H (.ref a) (l.map Int.ofNat):=by rw[iE]at h;exact .list h
theorem pQ {L:Lc} {H H1:Hp} {e:CE} {v:V} {l:List Nat} {R:Prop} (x:JE e L H v H1) (o:jK H1 v (l.map Int.ofNat)) (z:l.length<64)
  (k:∀a H2,JE (.sorted e) L H (.ref a) H2->H1[a]?=none->H2[a]?=some (.list (vn (jX l)))->Ext H1 H2->R):R:=
 GN x o (by rw[ae];exact z) λa H2 j f g e=>k a H2 j f (by rw[g,Kc]) e
theorem Ai {a b:Nat} (h:a<256) (k:b<256):a|||b<256:=dC (n:=8) h k
theorem D9 {l:List Nat} {i v b:Nat} (z:i<l.length) (h:∀k,l.getD k 0<b) (hv:v<b) (k:Nat):(l.set i v).getD k 0<b:=by
 rw[qq z];by_cases e:k=i
 ·rw[if_pos e];exact hv
 ·rw[if_neg e];exact h k
theorem M9 {l:List Nat} (h:∀k,l.getD k 0<256) (l8:l.length=8):∀k,(tr l).getD k 0<256:=by
 have A:∀m l i,l.length=8->(∀k,l.getD k 0<256)->i<8->∀k,(yK m l i).getD k 0<256:=λm l i e h z k=>by
  unfold yK;cases(l.getD i 0).testBit m
  ·exact h k
  ·exact D9 (e.symm▸z) h (Ai (h _) (h _)) k
 have B:∀m l n,l.length=8->(∀k,l.getD k 0<256)->n≤8->∀k,((List.range n).foldl (yK m) l).getD k 0<256:=λm l n e h=>by
  induction n with
  |zero=>exact λ_=>h
  |succ n ih=>intro z;rw[d_];exact A _ _ _ (by rw[qr,e]) (ih (cv z)) z
 have C:∀n,∀k,((List.range n).foldl G4 l).getD k 0<256:=λn=>by
  induction n with
  |zero=>exact h
  |succ n ih=>rw[d_];exact B _ _ 8 (by rw[oN,l8]) ih (aC _)
 exact C 8
variable {G:aJ} {A:GA} {g c T:Nat} {R:Prop} {H:Hp}
theorem D_ {s:Nat} (h:s<8):1<<<s<256:=by rw[gh];exact oH (a:=2) (by decide) h
theorem Kf (hG:cg H g G A) (n:Nat):n≤5->∀k,(G.xc n).getD k 0<256:=by
 induction n with
 |zero=>
  intro _ k
  rw[aF,aJ.xc]
  show((List.replicate 8 0)[k]?).getD 0<256
  rw[c_];by_cases z:k<8
  ·rw[if_pos z];decide
  ·rw[if_neg z];decide
 |succ n ih=>
  intro z k
  have ih:=ih (cv z)
  rw[aJ.xc,d_]
  cases e:G.right n with
  |nil=>rw[xf e];exact ih k
  |cons s w=>rw[xh e];exact D9 (mJ (G:=G) n▸iF.jV hG.13 z) ih (Ai (ih _) (D_ (tG hG e))) k
theorem Kg (hG:cg H g G A):∀k,G.B9.getD k 0<256:=M9 (Kf hG 5 (aC _)) (mJ 5)
theorem Aj:G.B9.length=8:=by rw[aJ.B9,tr,oN,mJ]
theorem xo (hG:cg H g G A) {i s:Nat} (h:G.af i=some s):s<8:=iF.lT hG.13 (r:=G.rl i) (am h)
theorem Ea {m i} (e:G.af i=none):G.G7 m i=m:=by unfold aJ.G7;rw[e]
theorem Eb {m i s} (e:G.af i=some s):G.G7 m i=m|||1<<<s|||G.B9.getD s 0:=by unfold aJ.G7;rw[e]
theorem xp (hG:cg H g G A) (ker:List Nat):G.wn ker<256:=by
 have:∀(l:List Nat) m,m<256->l.foldl G.G7 m<256:=λl=>by
  induction l with
  |nil=>exact λm h=>h
  |cons i l ih=>
   intro m h
   refine ih _ ?_
   cases e:G.af i with
   |none=>rw[Ea e];exact h
   |some s=>rw[Eb e];exact Ai (Ai h (D_ (xo hG e))) (Kg hG _)
 exact this ker 0 (by decide)
theorem Bm {ker:List Nat} (hG:cg H g G A) (hC:Bk H c g G T) (hk:∀i∈ker,i<G.own.length) (kl:ker.length≤20):JR 32 [.ref c,.tup (vn ker)] H (.int (G.wn ker)) H:=by
 refine dc 32 [.ref c,.tup (vn ker)] H rfl rfl (L:=[some (.ref c),some (.tup (vn ker)),none,none,none]) rfl λQ q=>.set .lit ?_
 refine .jW (λ_ (s:Nat×Option V×Option V)=>[some (.ref c),some (.tup (vn ker)),some (.int s.1),s.2.1,s.2.2]) (λn s H'=>H'=H∧s.1=(ker.take n).foldl G.G7 0) (0,none,none)
  (.pF (.var rfl) .tup (lM (by rw[aW];exact aj kl (by decide)))) ⟨rfl,rfl⟩ (λ_=>trivial) ?_ ?_
 ·intro n i s H1 K hi h cq _
  obtain⟨rfl,h⟩:=h
  dsimp only at cq;rw[iG _ _ hi,←h]at cq
  refine .set (.bA (.attr (.var rfl) hC.1 rfl rfl) hG.1 rfl rfl (.av (.var rfl) .bm) (tx hG (hk i (am hi)))) ?_
  cases e:G.af i with
  |none=>
   rw[aJ.tF e];rw[Ea e]at cq
   exact .pass (.b9 (.var rfl) .lit (.ge _ 0)) (.nil (cq (s.1,some (.int i),some (.int (-1))) rfl ⟨rfl,rfl⟩))
  |some y=>
   rw[aJ.tE e];rw[Eb e]at cq
   have s8:=xo hG e
   have T:=JT.b9 (H:=H1) (L:=[some (.ref c),some (.tup (vn ker)),some (.int s.1),some (.int i),some (.int y)]) (.var (i:=4) rfl) .lit (.ge (y:Int) 0)
   rw[decide_eq_true (aS y)]at T
   exact .then T (.set (.bin (.bin (.var rfl) (.bin .lit (.var rfl) (.shl 1 y _ (by decide) (bH s8 (by decide)))) (.bor _ _ _)) (.idx (.attr (.var rfl) hC.1 rfl rfl) (.var rfl) (.nat hC.2 (cR (getD_at (d:=0) (Aj.symm▸s8))))) (.bor _ _ _)) (.nil (.nil (cq (_,_,_) rfl ⟨rfl,rfl⟩))))
 ·intro s H1 h
  obtain⟨rfl,h⟩:=h
  rw[aN]at h
  refine .ret (.var rfl) (q λj=>?_)
  rw[h]at j;exact j
end
section
noncomputable def eH (S:List Nat) (H H':Hp):Prop:=∀(a:Nat) (o:O),a∉S->H[a]?=some o->H'[a]?=some o
section
variable {S:List Nat} {H0 H H1 H2:Hp} {a b F:Nat} {o p:O}
theorem eH.r:eH S H H:=λ_ _ _ h=>h
theorem eH.trans (x:eH S H H1) (y:eH S H1 H2):eH S H H2:=λ_ _ n h=>y _ _ n (x _ _ n h)
theorem eH.of (e:Ext H H1):eH S H H1:=λ_ _ _ h=>e _ _ h
theorem eH.set (x:eH S H H1) (m:a∈S):eH S H (H1.set a o):=λb p n h=>eK (x b p n h) λe=>n (e▸m)
theorem eH.ext (x:eH S H H1) (e:Ext H0 H) (f:∀a∈S,H0[a]?=none):Ext H0 H1:=λb p h=>x b p (λm=>c7 (f b m) h) (e b p h)
theorem eH.new (x:eH [F] H H1) (f:H0[F]?=none) (e:Ext H0 H):Ext H0 H1:=x.ext e λa m=>ak.1 m▸f
theorem yM (f:H[F]?=none) (h:H[a]?=some o):a∉[F]:=λm=>e_ f h (ak.1 m)
theorem vQ {a b:Nat} (h:a≠b):a∉[b]:=λm=>h (ak.1 m)
theorem tI {x y:Nat} (h:b≠x) (k:b≠y):b∉[x,y]:=λm=>(aH.1 m).elim h λm=>k (ak.1 m)
theorem Ob {P:Nat->Prop} {x y:Nat} (h:P x) (k:P y):∀b∈[x,y],P b:=λb m=>(aH.1 m).elim (λe=>e▸h) λm=>ak.1 m▸k
theorem Bo (f:H[a]?=none) (h:H[F]?=some o):a∉[F]:=λm=>e_ f h (ak.1 m).symm
end
variable {G:aJ} {A:GA} {g c T:Nat} {R:Prop} {H:Hp}
theorem vR {m:Nat} (h:m<256) {i:Nat} (hi:i∈dA m):i<8:=
 mj λk=>absurd (ax (d7 (eO.1 hi)) h) (bG.2 (jw (n:=2) (by decide) k))
theorem tJ {m:Nat} (h:m<256):(dA m).length≤8:=
 aT (n:=8)▸bu (eV.filter _) λi hi=>a_.2 (vR h hi)
theorem qt {α β} {f:α->List β} {k:Nat} (l:List α) (h:∀x∈l,(f x).length≤k):(l.flatMap f).length≤k*l.length:=by
 induction l with
 |nil=>exact bw _
 |cons a l ih=>rw[cx,aq,dT];exact cU (ih λx m=>h x (aL _ m)) (h a aQ)
theorem xq (hG:cg H g G A) (ker:List Nat) (s:Nat):(G.xd ker s).length≤5:=
 aj (bp _ _) (by rw[ae];exact kt hG s)
theorem tK (hG:cg H g G A) (ker:List Nat):(G.adds ker).length≤40:=
 aj (qt _ λs _=>xq hG ker s) (bF 5 (tJ (xp hG ker)))
theorem Bp {r s:Nat} (hG:cg H g G A) (h:r∈G.gx s):r<5:=hG.13.1▸a_.1 (bB.1 h).1
theorem Ec {ker:List Nat} (hG:cg H g G A) (hC:Bk H c g G T) (hk:∀i∈ker,i<G.own.length) (kl:ker.length≤20)
  (q:∀a H',JR 35 [.ref c,.tup (vn ker)] H (.ref a) H'->H[a]?=none->H'[a]?=some (.list (vn (jX (G.adds ker))))->Ext H H'->R):R:=by
 refine dc 35 [.ref c,.tup (vn ker)] H rfl rfl (L:=[some (.ref c),some (.tup (vn ker)),none,none,none,none]) rfl λQ q'=>?_
 refine hS λF H1 j fF gF eF=>.set j ?_
 refine vM (H:=H1) (m:=G.wn ker) (bH (xp hG ker) (by decide)) λB H2 j fB gB eB=>?_
 have e2:=eF.trans eB
 have z40:=tK hG ker
 have nB:B∉[F]:=Bo fB gF
 refine .jW (λ_ (s:Option V×Option V×Option V)=>[some (.ref c),some (.tup (vn ker)),some (.ref F),s.1,s.2.1,s.2.2]) (λn s H'=>eH [F] H2 H'∧H'[F]?=some (.list (vn (((dA (G.wn ker)).take n).flatMap (G.xd ker))))) (none,none,none)
  (.d3 (.call (.av (.bA (.var rfl) (eF _ _ hC.1) rfl rfl (.av (.var rfl) .bm) (Bm (hG.ext eF) ⟨eF _ _ hC.1,eF _ _ hC.2⟩ hk kl)) .bm) j) gB (by rw[aW];exact aj (tJ (xp hG ker)) (by decide)))
  ⟨.r,eB _ _ gF⟩ (λh=>h.1 _ _ nB gB) ?_ ?_
 ·intro n y s H3 K hy h cq _
  have E3:=h.1.new fF e2
  have y8:=vR (xp hG ker) (am hy)
  dsimp only at cq;rw[Bl _ hy]at cq
  have bl:=qt ((dA (G.wn ker)).take n) λs _=>xq hG ker s
  have bl:(((dA (G.wn ker)).take n).flatMap (G.xd ker)).length≤40:=aj bl (show 5*_≤5*8 from bF 5 (aj (bM n _) (tJ (xp hG ker))))
  generalize ((dA (G.wn ker)).take n).flatMap (G.xd ker)=base at h cq bl
  refine rO (hG.ext E3) y8 λC H4 j fC gC eC=>?_
  refine .jW (λ_ (s:Option V×Option V)=>[some (.ref c),some (.tup (vn ker)),some (.ref F),some (.int y),s.1,s.2]) (λm s H'=>eH [F] H4 H'∧H'[F]?=some (.list (vn (base++(((G.gx y).take m).map G.off).filter λi=>!ker.contains i)))) (s.2.1,s.2.2)
   (.d3 (.bA (.attr (.var rfl) (E3 _ _ hC.1) rfl rfl) (E3 _ _ hG.1) rfl rfl (.av (.var rfl) .bm) j) gC (by rw[aW];exact aj (kt hG y) (by decide)))
   ⟨.r,by rw[List.take_zero,iU,dG,aO];exact eC _ _ h.2⟩ (λh2=>h2.1 _ _ (Bo fC h.2) gC) ?_ ?_
  ·intro m r s H5 K hr h2 cq _
   have r5:=Bp hG (am hr)
   have E5:=h2.1.new fF (E3.trans eC)
   refine .set (.bA (.attr (.var rfl) (E5 _ _ hC.1) rfl rfl) (E5 _ _ hG.1) rfl rfl (.av (.var rfl) (.av .lit .bm)) (vO (hG.ext E5) (r:=r) (d:=0) r5)) ?_
   have X:=JT.b9 (H:=H5) (L:=[some (.ref c),some (.tup (vn ker)),some (.ref F),some (.int y),some (.int r),some (.int (G.off r))]) (.var (i:=5) rfl) (.var (i:=1) rfl) (.jJ M8)
   have hm:((G.gx y).map G.off)[m]?=some (G.off r):=by rw[aK,hr];rfl
   dsimp only at cq;rw[iv,kW _ hm]at cq
   rw[iv]at h2
   cases e:ker.contains (G.off r)
   ·rw[e]at X cq
    refine .then X (.expr (.append (.var rfl) (.var rfl) ⟨_,h2.2⟩ h2.2 (sf ?_)) (.nil (.nil (cq (_,_) rfl ⟨h2.1.set (ak.2 rfl),?_⟩))))
    ·rw[aW,aq]
     exact aj (cU bl (aj (bp ..) (aj (bM ..) (aj (aD (ae _)) (kt hG y))))) (by decide)
    ·rw[dq h2.2,vK,bO];rfl
   ·rw[e]at X cq
    exact .pass X (.nil (cq (some (.int r),some (.int (G.off r))) rfl h2))
  ·intro s H5 h2
   rw[aN]at h2
   exact .nil (cq (_,_,_) rfl ⟨h.1.trans ((eH.of eC).trans h2.1),h2.2⟩)
 ·intro s H3 h
  rw[aN]at h
  have E3:=h.1.new fF e2
  exact pQ (.var rfl) (ints_list h.2) (ax z40 (by decide)) λa H4 j f g e=>.ret j (q' λj=>q a H4 j (E3.none f) g (E3.trans e))
theorem Ee {ker:List Nat} (hG:cg H g G A) (hC:Bk H c g G T) (hk:∀i∈ker,i<G.own.length) (kl:ker.length≤20)
  (q:∀a H',JR 36 [.ref c,.tup (vn ker)] H (.ref a) H'->H[a]?=none->H'[a]?=some (.list (vn (G.cls ker)))->Ext H H'->R):R:=by
 refine dc 36 [.ref c,.tup (vn ker)] H rfl rfl (L:=[some (.ref c),some (.tup (vn ker))]) rfl λQ q'=>?_
 refine pQ (H:=H) (L:=[some (.ref c),some (.tup (vn ker))]) (.var (i:=1) rfl) D8 (ax kl (by decide)) λa H1 j f1 g1 e1=>?_
 refine Ec (hG.ext e1) ⟨e1 _ _ hC.1,e1 _ _ hC.2⟩ hk kl λb H2 j2 f2 g2 e2=>?_
 refine MW j (.bA (.var rfl) (e1 _ _ hC.1) rfl rfl (.av (.var rfl) .bm) j2) (e2 _ _ g1) g2 (lM ?_) λd H3 j3 f3 g3 e3=>.ret j3 (q' λj=>q d H3 j ((e1.trans e2).none f3) ?_ ((e1.trans e2).trans e3))
 ·rw[aW,aW,eg,eg];exact aj (cU kl (tK hG ker)) (by decide)
 ·rw[g3,aJ.cls,pP]
end
section
noncomputable def nd {α:Type} (f:α->V) (ks:List (Nat×α)):List (Int×V):=ks.map λp=>((p.1:Int),f p.2)
section
variable {α:Type} {f:α->V} {ks:List (Nat×α)} {y:Nat} {b:α}
theorem tL {κ:Type} [DecidableEq κ] {k:κ} {p:κ×V} {d:List (κ×V)}:eP k (p::d)=bif decide (p.1=k)then some p.2 else eP k d:=by
 unfold eP;rw[List.find?_cons];cases decide (p.1=k)<;>rfl
section
variable {κ:Type} [DecidableEq κ] {k:κ} {d:List (κ×V)} {v:V}
theorem vS (h:∀p∈d,p.1≠k):eP k d=none:=congrArg (Option.map λp:κ×V=>p.2) (dZ.2 λp m z=>h p m (of_decide_eq_true z))
theorem sC (h:∀p∈d,p.1≠k):dput k v d=d++[(k,v)]:=if_neg λz=>(jb.1 z).elim λx q=>h x q.1 (of_decide_eq_true q.2)
end
theorem kX (h:(y,b)∈ks) (n:(ks.map (·.1)).Nodup):eP (y:Int) (nd f ks)=some (f b):=by
 induction ks with
 |nil=>exact absurd h aR
 |cons p l ih=>
  have n:=dg.1 n
  refine tL.trans ?_
  rcases aH.1 h with e|e
  ·rw[←e,decide_eq_true rfl];rfl
  ·rw[decide_eq_false λk=>n.1 (aA.2 ⟨_,e,(a8.1 k).symm⟩)];exact ih e n.2
theorem IK (h:y∉ks.map (·.1)) (x:Int×V) (m:x∈nd f ks):x.1≠y:=λz=>
 (aA.1 m).elim λp q=>h (aA.2 ⟨p,q.1,a8.1 ((congrArg (·.1) q.2).trans z)⟩)
theorem jY (h:y∉ks.map (·.1)):eP (y:Int) (nd f ks)=none:=vS (IK h)
theorem oO (h:y∉ks.map (·.1)) (b:α):dput (y:Int) (f b) (nd f ks)=nd f (ks++[(y,b)]):=by
 rw[sC (IK h),nd,nd,az];rfl
theorem ly:(nd f ks).length=ks.length:=ae _
theorem oP:(nd f ks).map (·.1)=(ks.map (·.1)).map Int.ofNat:=by rw[nd,bJ,bJ];rfl
theorem i_ (h:y∈ks.map (·.1)) (n:(ks.map (·.1)).Nodup):∃b,(y,b)∈ks∧eP (y:Int) (nd f ks)=some (f b):=
 (aA.1 h).elim λp q=>⟨p.2,q.2▸q.1,kX (q.2▸q.1) n⟩
end
variable {G:aJ} {A:GA} {g:Nat} {R:Prop} {H:Hp}
theorem Kh {i:Nat} (h:i<G.own.length):G.off (G.rl i)+(G.dt i+1)=i+1:=by
 rw[←dk,aJ.dt,cY (G.i9 h).2.2.1]
theorem xt {i:Nat} (hG:cg H g G A) (z:i<G.own.length):JR 2 [.ref g,.int i] H (.int (i+1:Nat)) H:=by
 rw[←Kh z]
 exact dc 2 [.ref g,.int i] H rfl rfl (L:=[some (.ref g),some (.int i)]) rfl λQ q=>.ret (.bA (.var rfl) hG.1 rfl rfl (.av (.bA (.var rfl) hG.1 rfl rfl (.av (.var rfl) .bm) (tw hG z))
  (.av (.bin (.bA (.var rfl) hG.1 rfl rfl (.av (.var rfl) .bm) (Bf hG z)) .lit (.add _ _ _)) .bm)) (vO hG (d:=G.dt i+1) (hG.13.1▸(G.i9 z).2.1))) (q id)
theorem xu {I:Nat} {its:List Nat} (hG:cg H g G A) (hI:H[I]?=some (.list (vn its))) (hk:∀i∈its,i<G.own.length) (kl:its.length<64)
  (q:∀a H',JR 1 [.ref g,.ref I] H (.ref a) H'->H[a]?=none->H'[a]?=some (.list (vn (G.red its)))->Ext H H'->R):R:=by
 refine dc 1 [.ref g,.ref I] H rfl rfl (L:=[some (.ref g),some (.ref I),none,none]) rfl λQ q'=>?_
 refine hS λF H1 j fF gF eF=>.set j ?_
 refine .jW (λ_ s=>[some (.ref g),some (.ref I),some (.ref F),s]) (λn s H'=>eH [F] H1 H'∧H'[F]?=some (.list (vn (((its.take n).filter λi=>(G.af i).isNone&&(G.rl i !=0)).map G.rl)))) none
  (.d3 (.var rfl) (eF _ _ hI) (by rw[aW];exact aI (aw kl (by decide)))) ⟨.r,gF⟩ (λh=>h.1 _ _ (yM fF hI) (eF _ _ hI)) ?_ ?_
 ·intro n i s H2 K hi h cq _
  have E:=h.1.new fF eF
  have zi:=hk i (am hi)
  dsimp only at cq;rw[kW _ hi]at cq
  have X:=JE.bA (L:=[some (.ref g),some (.ref I),some (.ref F),some (.int i)]) (.var (i:=0) rfl) (E _ _ hG.1) (m:=0) rfl rfl (.av (.var (i:=3) rfl) .bm) (tx (hG.ext E) zi)
  have Y:=JE.bA (L:=[some (.ref g),some (.ref I),some (.ref F),some (.int i)]) (.var (i:=0) rfl) (E _ _ hG.1) (m:=1) rfl rfl (.av (.var (i:=3) rfl) .bm) (tw (hG.ext E) zi)
  cases e:G.af i with
  |some s=>
   rw[aJ.tE e]at X;rw[e]at cq
   have T:=JT.b9 X .lit (.lt _ 0)
   rw[decide_eq_false (fy.2 (aS s))]at T
   exact .pass (.iD (.af T)) (.nil (cq _ rfl h))
  |none=>
   rw[aJ.tF e]at X;rw[e]at cq
   have T:=JT.b9 X .lit (.lt _ 0)
   by_cases r0:G.rl i=0
   ·rw[r0]at cq Y
    exact .pass (.iD (.at T (.af (.b9 Y .lit (.ne (.int 0 0)))))) (.nil (cq _ rfl h))
   ·have T2:=JT.b9 Y .lit (.ne (.int (G.rl i:Nat) 0))
    have b:(((G.rl i:Nat):Int)==0)=false:=beq_eq_false_iff_ne.2 λe=>r0 (a8.1 e)
    have b2:(G.rl i !=0)=true:=bne_iff_ne.2 r0
    rw[b]at T2;rw[b2]at cq
    refine .then (.iD (.at T (.at T2 .lw))) (.expr (.append (.var rfl) Y ⟨_,h.2⟩ h.2 (sf ?_)) (.nil (.nil (cq _ rfl ⟨h.1.set (ak.2 rfl),?_⟩))))
    ·rw[aW,ae];exact aj (bp ..) (aj (bM ..) (aI (aw kl (by decide))))
    ·rw[dq h.2];show _=some (O.list (vn (List.map G.rl (_++[i]))));rw[az,pP];rfl
 ·intro s H2 h
  rw[aN]at h
  have E:=h.1.new fF eF
  refine pQ (.var rfl) (ints_list h.2) ?_ λa H3 j f g e=>.ret j (q' λj=>q a H3 j (E.none f) g (E.trans e))
  rw[ae];exact ax (bp ..) kl
end
section
namespace aJ
variable {G:aJ}
theorem Bq {its:List Nat} {n i:Nat} (h:its[n]?=some i):G.syms (its.take (n+1))=G.sj (G.syms (its.take n)) i:=iG _ _ h
theorem rn {l:List Nat} {i:Nat} (e:G.af i=none):G.sj l i=l:=by unfold sj;rw[e]
theorem vT {l:List Nat} {i y:Nat} (e:G.af i=some y) (m:y∈l):G.sj l i=l:=by unfold sj;rw[e];exact if_pos m
theorem qu {l:List Nat} {i y:Nat} (e:G.af i=some y) (m:y∉l):G.sj l i=l++[y]:=by unfold sj;rw[e];exact if_neg m
theorem Ef {l:List Nat} {i y:Nat}:y∈G.sj l i↔y∈l∨G.af i=some y:=by
 cases e:G.af i with
 |none=>rw[rn e];exact⟨.inl,λh=>h.elim id (c7 rfl)⟩
 |some s=>
  by_cases m:s∈l
  ·rw[vT e m];exact⟨.inl,λh=>h.elim id λz=>ay z▸m⟩
  ·rw[qu e m,aE,ak,Option.some.injEq,eq_comm]
theorem tM {l:List Nat} {i:Nat} (n:l.Nodup):(G.sj l i).Nodup:=by
 cases e:G.af i with
 |none=>rw[rn e];exact n
 |some s=>
  by_cases m:s∈l
  ·rw[vT e m];exact n
  ·rw[qu e m];exact gQ n m
theorem xw (its:List Nat):∀l:List Nat,(∀y,y∈its.foldl G.sj l↔y∈l∨∃i∈its,G.af i=some y)∧(l.Nodup->(its.foldl G.sj l).Nodup):=by
 induction its with
 |nil=>intro l;exact⟨λy=>by simp,id⟩
 |cons i its ih=>
  intro l
  refine⟨λy=>?_,λn=>(ih _).2 (tM n)⟩
  rw[jE,(ih _).1 y,Ef,or_assoc];simp
theorem oh {its:List Nat} {y:Nat}:y∈G.syms its↔∃i∈its,G.af i=some y:=by
 rw[syms,(xw its []).1 y];simp
theorem fj (its:List Nat):(G.syms its).Nodup:=(xw its []).2 .nil
theorem Br {its:List Nat} {n i:Nat} (h:its[n]?=some i) (s:Nat):G.hV (its.take (n+1)) s=bif G.af i==some s then G.hV (its.take n) s++[i+1]else G.hV (its.take n) s:=by
 rw[hV,kW _ h];cases e:G.af i==some s
 ·rfl
 ·show List.map _ (_++[i])=_;rw[az];rfl
theorem Eg {its:List Nat} {y:Nat} (h:y∉G.syms its):G.hV its y=[]:=by
 rw[hV,dS.2 λi hi e=>h (oh.2 ⟨i,hi,beq_iff_eq.1 e⟩)];rfl
end aJ
inductive Kb (H H':Hp) (F:Nat) (ks:List (Nat×Nat)) (c:Nat->List Nat) (keys:List Nat):Prop
 |mk (e:Ext H H') (d:H'[F]?=some (.bj (nd .ref ks))) (r:∀p∈ks,H'[p.2]?=some (.list (vn (c p.1)))∧H[p.2]?=none) (nd:(ks.map (·.2)).Nodup) (k:ks.map (·.1)=keys)
section
variable {H H' H2:Hp} {F b y:Nat} {ks:List (Nat×Nat)} {c:Nat->List Nat} {keys:List Nat}
theorem Kb.ext (h:Kb H H' F ks c keys) (e:Ext H' H2):Kb H H2 F ks c keys:=⟨h.1.trans e,e _ _ h.2,λp m=>⟨e _ _ (h.3 p m).1,(h.3 p m).2⟩,h.4,h.5⟩
theorem Kb.add (h:Kb H H' F ks c keys) (fF:H[F]?=none) (n:y∉keys) (f:H'[b]?=none) (g:H2[b]?=some (.list [])) (e:Ext H' H2) (cy:c y=[]):
  Kb H (H2.set F (.bj (dput y (.ref b) (Mine.nd .ref ks)))) F (ks++[(y,b)]) c (keys++[y]):=by
 have h2:=h.ext e
 refine⟨h2.1.set fF,by rw[dq h2.2,oO (by rw[h.5];exact n)],λp m=>?_,?_,by rw[az,h.5];rfl⟩
 ·rcases aE.1 m with m|m
  ·exact⟨eK (h2.3 p m).1 (dj (h2.3 p m).1 h2.2 rfl),(h2.3 p m).2⟩
  ·rw[ak.1 m]
   exact⟨by rw[eK g (dj g h2.2 rfl),cy];rfl,h.1.none f⟩
 ·rw[az];exact gQ h.4 λha=>(aA.1 ha).elim λp q=>c7 (q.2▸f) (h.3 p q.1).1
theorem iN {α β:Type} {f:α->β} {ks:List α} {p q:α} (n:(ks.map f).Nodup) (hp:p∈ks) (hq:q∈ks) (e:f p=f q):p=q:=by
 obtain⟨i,hi⟩:=aP hp
 obtain⟨j,hj⟩:=aP hq
 cases(cP (ah.1 (get_map hi)).1 n).1 ((get_map hi).trans ((congrArg some e).trans (get_map hj).symm))
 exact ay (hi.symm.trans hj)
theorem Kb.app {v:Nat} {c':Nat->List Nat} (h:Kb H H' F ks c keys) (kn:keys.Nodup) (m:(y,b)∈ks) (cy:c' y=c y++[v]) (cn:∀s,s≠y->c' s=c s):
  Kb H (H'.set b (.list (vn (c y)++[.int v]))) F ks c' keys:=by
 refine⟨h.1.set (h.3 _ m).2,eK h.2 (rN h.2 (h.3 _ m).1 nofun),λp hp=>⟨?_,(h.3 p hp).2⟩,h.4,h.5⟩
 by_cases e:p.2=b
 ·have:=iN (f:=(·.2)) h.4 hp m e
  subst this;rw[dq (h.3 _ m).1,cy,vK]
 ·rw[eK (h.3 p hp).1 e,cn]
  intro k;exact e (congrArg (·.2) (iN (f:=(·.1)) (h.5▸kn) hp m k))
end
end
section
variable {G:aJ} {A:GA} {g:Nat} {R:Prop} {H:Hp}
noncomputable def Lb (g I F:Nat) (x3 x4 x5:Option V):Lc:=[some (.ref g),some (.ref I),some (.ref F),x3,x4,x5]
theorem Eh (its:List Nat) (s:Nat):(G.hV its s).length≤its.length:=by rw[aJ.hV,ae];exact bp _ _
theorem qv (hG:cg H g G A) (its:List Nat):(G.syms its).length≤8:=by
 have:=bu (aJ.fj (G:=G) its) (l₂:=List.range 8) λy hy=>by
  obtain⟨i,_,e⟩:=aJ.oh.1 hy;exact a_.2 (xo hG e)
 rwa[aT]at this
theorem M_ {H1:Hp} {I F:Nat} {its:List Nat} {Q:Fl->Lc->Hp->Prop} {r:i6} (hG:cg H g G A) (hI:H[I]?=some (.list (vn its))) (hk:∀i∈its,i<G.own.length) (kl:its.length<64) (fF:H[F]?=none) (e1:Ext H H1) (gF:H1[F]?=some (.bj []))
  (k:∀ks x3 x4 H2,Kb H H2 F ks (G.hV its) (G.syms its)->cB r (Lb g I F x3 x4 none) H2 Q):
  cB (.cons ((bo 3).at 1) r) (Lb g I F none none none) H1 Q:=by
 refine .jW (λ_ (s:List (Nat×Nat)×Option V×Option V)=>Lb g I F s.2.1 s.2.2 none) (λn s H'=>Kb H H' F s.1 (G.hV (its.take n)) (G.syms (its.take n))) ([],none,none)
  (.d3 (.var rfl) (e1 _ _ hI) (by rw[aW];exact aI (aw kl (by decide)))) ⟨e1,gF,λp m=>absurd m aR,.nil,rfl⟩ (λh=>h.1 _ _ hI) ?_ ?_
 ·intro n i s H2 K hi h cq _
  obtain⟨ks,x3,x4⟩:=s
  have h:Kb H H2 F ks (G.hV (its.take n)) (G.syms (its.take n)):=h
  have zi:=hk i (am hi)
  have hb:=aJ.Br (G:=G) hi
  dsimp only at cq;rw[aJ.Bq hi]at cq
  refine .set (.bA (.var rfl) (h.1 _ _ hG.1) rfl rfl (.av (.var rfl) .bm) (tx (hG.ext h.1) zi)) ?_
  cases e:G.af i with
  |none=>
   rw[aJ.tF e];rw[aJ.rn e]at cq;rw[e]at hb
   exact .pass (.b9 (.var rfl) .lit (.ge _ 0)) (.nil (cq (ks,some (.int i),some (.int (-1))) rfl ((funext λs=>hb s:G.hV (its.take (n+1))=G.hV (its.take n))▸h)))
  |some y=>
   rw[aJ.tE e];rw[e]at hb
   have T:=JT.b9 (H:=H2) (L:=Lb g I F (some (.int i)) (some (.int y)) none) (.var (i:=4) rfl) .lit (.ge (y:Int) 0)
   rw[decide_eq_true (aS y)]at T
   refine .then T ?_
   have tail:∀ks H3 keys,keys.Nodup->y∈keys->Kb H H3 F ks (G.hV (its.take n)) keys->(∀ks H4,Kb H H4 F ks (G.hV (its.take (n+1))) keys->K .next (Lb g I F (some (.int i)) (some (.int y)) none) H4)->
     cB (.cons (.expr (.append (.idx (.var 2) (.var 4)) (.call 2 (.cons (.var 0) (.cons (.var 3) .nil))))) .nil) (Lb g I F (some (.int i)) (some (.int y)) none) H3 (Nx .nil K):=λks H3 keys nd my h c=>by
    obtain⟨b,m,gd⟩:=i_ (f:=V.ref) (h.5.symm▸my:y∈ks.map (·.1)) (h.5.symm▸nd)
    have gb:=(h.3 _ m).1
    have X:=d6.i (k:=(y:Int)) h.2
    rw[gd]at X
    refine .expr (.append (.idx (.var rfl) (.var rfl) (.dict X)) (.call (.av (.var rfl) (.av (.var rfl) .bm)) (xt (hG.ext h.1) zi)) ⟨_,gb⟩ gb (sf ?_)) (.nil (.nil (c ks _ (h.app nd m ?_ λs z=>?_))))
    ·show(vn (G.hV (its.take n) y)).length≤1000
     rw[aW,aJ.hV,ae];exact aj (bp ..) (aj (bM ..) (aI (aw kl (by decide))))
    ·rw[hb,beq_self_eq_true];rfl
    ·rw[hb,beq_eq_false_iff_ne.2 λe=>z (ay e).symm];rfl
   by_cases my:y∈G.syms (its.take n)
   ·rw[aJ.vT e my]at cq
    obtain⟨b,m,gd⟩:=i_ (f:=V.ref) (h.5.symm▸my:y∈ks.map (·.1)) (h.5.symm▸aJ.fj _)
    have X:=AO.dict (d6.i (k:=(y:Int)) h.2)
    rw[gd]at X
    exact .pass (.b9 (.var rfl) (.var rfl) (.jJ X)) (tail ks H2 _ (aJ.fj _) my h λks H4 h=>cq (ks,_,_) rfl h)
   ·rw[aJ.qu e my]at cq
    have X:=AO.dict (d6.i (k:=(y:Int)) h.2)
    rw[jY (h.5.symm▸my)]at X
    refine .then (.b9 (.var rfl) (.var rfl) (.jJ X)) (hS λb H3 j fb gb eb=>.br j (.var rfl) (.var rfl) (.bj (eb _ _ h.2) (sf ?_)) (.nil (tail _ _ _ ?_ (aB _ (ak.2 rfl)) (h.add fF my fb gb eb (aJ.Eg my)) λks H4 h=>cq (ks,_,_) rfl h)))
    ·have:=congrArg List.length h.5
     rw[ae]at this
     rw[ly,this];exact aj (qv hG _) (by decide)
    ·rw[←aJ.qu e my];exact aJ.tM (aJ.fj _)
 ·intro s H2 h
  rw[aN]at h
  exact k _ _ _ _ h
theorem yN {I:Nat} {its:List Nat} (hG:cg H g G A) (hI:H[I]?=some (.list (vn its))) (hk:∀i∈its,i<G.own.length) (kl:its.length<64)
  (q:∀a H',JR 3 [.ref g,.ref I] H (.ref a) H'->H[a]?=none->H'[a]?=some (.bj (nd (λl=>.tup (vn l)) (G.Ke its)))->Ext H H'->R):R:=by
 refine dc 3 [.ref g,.ref I] H rfl rfl (L:=[some (.ref g),some (.ref I),none,none,none,none]) rfl λQ q'=>?_
 refine lS λF H1 j fF gF eF=>.set j ?_
 refine M_ (F:=F) hG hI hk kl fF eF gF λks x3 x4 H2 h=>?_
 refine lS λW H3 j fW gW eW=>.set j ?_
 have h3:=h.ext eW
 have sl:=qv hG its
 have io:jK H3 (.ref F) ((G.syms its).map Int.ofNat):=by rw[←h.5,←oP (f:=V.ref)];exact .dict h3.2
 refine pQ (L:=Lb g I F x3 x4 (some (.ref W))) (.var (i:=2) rfl) io (ax sl (by decide)) λD H4 j fD gD eD=>?_
 have h4:=h3.ext eD
 have nF:F∉[W]:=yM fW h.2
 refine .jW (λ_ (s:Option V)=>Lb g I F x3 s (some (.ref W))) (λn s H'=>eH [W] H4 H'∧H'[W]?=some (.bj (nd (λl=>.tup (vn l)) (((jX (G.syms its)).take n).map λs=>(s,jX (G.hV its s)))))) x4
  (.d3 j gD (by rw[aW,eg];exact aj sl (by decide))) ⟨.r,eD _ _ gW⟩ (λh=>h.1 _ _ (Bo fD gW) gD) ?_ ?_
 ·intro n y s H5 K hy h5 cq _
  have my:=dL.1 (am hy)
  have nn:=fQ (aJ.fj (G:=G) its)
  obtain⟨b,m,gd⟩:=i_ (f:=V.ref) (h.5.symm▸my:y∈ks.map (·.1)) (h.5.symm▸aJ.fj _)
  have X:=d6.i (k:=(y:Int)) (h5.1 _ _ nF h4.2)
  rw[gd]at X
  have bl:=Eh (G:=G) its y
  refine pQ (.idx (.var rfl) (.var rfl) (.dict X)) (ints_list (h5.1 _ _ (yM fW (h.3 _ m).1) (h4.3 _ m).1)) (ax bl kl) λa H6 j f g e=>.br (.tupleOf j g (lM ?_)) (.var rfl) (.var rfl) (.bj (e _ _ h5.2) (sf ?_)) (.nil (cq _ rfl ⟨(h5.1.trans (.of e)).set (ak.2 rfl),?_⟩))
  ·rw[aW,eg];exact aj bl (aI (aw kl (by decide)))
  ·rw[ly,ae];exact aj (bM _ _) (by rw[eg];exact aj sl (by decide))
  ·rw[dq (e _ _ h5.2)]
   refine congrArg (λd=>some (O.bj d)) ?_
   have:=oO (f:=λl=>V.tup (vn l)) (ks:=((jX (G.syms its)).take n).map λs=>(s,jX (G.hV its s))) (y:=y) (by rw[bJ];exact λm=>gV nn hy (by rw[show((λx:Nat×List Nat=>x.1)∘λs=>(s,jX (G.hV its s)))=id from rfl,gH]at m;exact m)) (jX (G.hV its y))
   rw[aV,hy,az];exact this
 ·intro s H5 h5
  rw[aN]at h5
  exact .ret (.var rfl) (q' λj=>q W H5 j (h.1.none fW) h5.2 (h.1.trans (h5.1.new fW (eW.trans eD))))
end
section
noncomputable def subs:Nat->List (List Nat)
 |0=>[[]]
 |n+1=>subs n++(subs n).map (· ++[n])
theorem Ei (n:Nat):(subs n).length=2^n:=by
 induction n with
 |zero=>rfl
 |succ n ih=>rw[subs,aq,ae,ih,Nat.pow_succ,Nat.mul_two]
theorem Ej (n:Nat):∀l:List Nat,l.Pairwise (· < ·)->(∀x∈l,x<n)->l∈subs n:=by
 induction n with
 |zero=>
  intro l _ h
  cases l with
  |nil=>exact ak.2 rfl
  |cons a l=>exact absurd (h a aQ) (bc _)
 |succ n ih=>
  intro l p h
  refine aE.2 ?_
  by_cases m:n∈l
  ·right
   rcases nH l with rfl|⟨l',x,rfl⟩
   ·exact absurd m aR
   ·rw[fS]at p m h ⊢
    have q:=List.pairwise_append.1 p
    have xl:=ak.2 (Eq.refl x)
    have e:n=x:=(aE.1 m).elim (λm=>absurd (q.2.2 n m x xl) (bG.2 (bE (h x (aB _ xl))))) ak.1
    subst e
    exact aA.2 ⟨l',ih l' q.1 λy hy=>q.2.2 y hy n xl,rfl⟩
  ·exact .inl (ih l p λx hx=>iI (bE (h x hx)) λe=>m (e▸hx))
variable {G:aJ} {A:GA} {g:Nat} {R:Prop} {H:Hp}
theorem Ak (hG:cg H g G A):G.own.length≤18:=by
 have f:∀r:Nat,(G.rules[r]?.map λx:Ru=>x.right.length).getD 0≤3:=λr=>by
  cases e:G.rules[r]? with
  |none=>decide
  |some x=>exact hG.13.3 r x e
 have f0:(G.rules[0]?.map λx:Ru=>x.right.length).getD 0≤2:=by
  have:=hG.13.4
  cases e:G.rules[0]? with
  |none=>decide
  |some x=>rw[e]at this;rw[Option.map_some,(ay this:x.right=_)];decide
 have f3:(G.rules[3]?.map λx:Ru=>x.right.length).getD 0≤2:=by
  cases e:G.rules[3]? with
  |none=>decide
  |some x=>exact hG.13.8 x e
 rw[aJ.own,hG.13.1,show List.range 5=[0,1,2,3,4] from rfl]
 simp only[cx,cV,aq,bZ,List.length_nil]
 exact cU (aM f0) (cU (aM (f 1)) (cU (aM (f 2)) (cU (aM f3) (aM (f 4)))))
inductive Ki (G:aJ) (ker:List Nat):Prop
 |mk (lt:∀i∈ker,i<G.own.length) (st:ker.Pairwise (· < ·))
theorem tN {l:List Nat} (h:l.Pairwise (· < ·)):l.Nodup:=h.imp λh=>cu h
theorem Ki.len {ker:List Nat} (hG:cg H g G A) (h:Ki G ker):ker.length≤20:=by
 have:=bu (tN h.2) (l₂:=List.range G.own.length) λi hi=>a_.2 (h.1 i hi)
 rw[aT]at this;exact aj this (aj (Ak hG) (by decide))
theorem Ek {Kj:List (List Nat)} (hG:cg H g G A) (h:∀k∈Kj,Ki G k) (n:Kj.Nodup):Kj.length≤2^18:=by
 have:=bu n (l₂:=subs 18) λk hk=>Ej 18 k (h k hk).2 λx hx=>aw ((h k hk).1 x hx) (Ak hG)
 rwa[Ei]at this
namespace aJ
theorem kw {ker:List Nat} {s i:Nat}:i∈G.xd ker s↔(∃r,r<G.rules.length∧G.rules[r]?.map (·.left)=some s∧G.off r=i)∧i∉ker:=by
 rw[xd,bB,aA,iP,←Bool.not_eq_true,cZ]
 simp only[gx,bB,a_,beq_iff_eq,and_assoc]
theorem El (f:Nat->Nat) (n:Nat):((List.range n).flatMap λr=>List.replicate (f r+1) r).length=((List.range n).map λx=>f x+1).sum∧
  ∀r d,r<n->d≤f r->((List.range n).flatMap λr=>List.replicate (f r+1) r)[((List.range r).map λx=>f x+1).sum+d]?=some r:=by
 induction n with
 |zero=>exact⟨rfl,λr d h=>absurd h (bc r)⟩
 |succ n ih=>
  refine⟨by rw[jO];simp,λr d hr hd=>?_⟩
  rw[bK,cH]
  rcases ba.1 hr with k|k
  ·have:=ih.2 r d k hd
   rw[aG (ah.1 this).1];exact this
  ·subst k
   rw[aX (by rw[ih.1];exact bx _ _),ih.1,mo]
   simp only[cx,cV,aO,c_]
   exact if_pos (dh hd)
theorem xx {r d:Nat} (hr:r<G.rules.length) (hd:d≤(G.right r).length):G.own[G.off r+d]?=some r:=by
 rw[vN G r (aI hr)]
 refine(El (λr=>(G.rules[r]?.map (·.right.length)).getD 0) G.rules.length).2 r d hr ?_
 unfold right at hd;rw[ao hr]at hd ⊢;exact hd
theorem kY {r d:Nat} (hr:r<G.rules.length) (hd:d≤(G.right r).length):G.rl (G.off r+d)=r:=by
 rw[rl,aF,xx hr hd];rfl
theorem sD {r d:Nat} (hr:r<G.rules.length) (hd:d≤(G.right r).length):G.dt (G.off r+d)=d:=by
 rw[dt,kY hr hd,mo]
theorem sE {r d:Nat} (hr:r<G.rules.length) (hd:d≤(G.right r).length):G.off r+d<G.own.length:=(ah.1 (xx hr hd)).1
theorem qw {i:Nat} (h:i<G.own.length):G.off (G.rl i)+G.dt i=i:=by rw[dt,cY (G.i9 h).2.2.1]
theorem Al {i s:Nat} (h:i<G.own.length) (e:G.af i=some s):i+1<G.own.length∧G.rl (i+1)=G.rl i∧G.dt (i+1)=G.dt i+1:=by
 have z:=(ah.1 e).1
 have r5:=(G.i9 h).2.1
 have eq:i+1=G.off (G.rl i)+(G.dt i+1):=by rw[←dk,qw h]
 rw[eq];exact⟨sE r5 z,kY r5 z,sD r5 z⟩
theorem yO (hG:cg H g G A) {ker:List Nat} (h:∀i∈ker,i<G.own.length):∀i∈G.cls ker,i<G.own.length:=λi hi=>by
 rcases aE.1 hi with m|m
 ·exact h i (dL.1 m)
 ·obtain⟨s,_,m⟩:=jf.1 (dL.1 m)
  obtain⟨⟨r,hr,_,e⟩,_⟩:=kw.1 m
  rw[←e];exact sE (d:=0) hr (bw _)
theorem G9 (hG:cg H g G A) {ker:List Nat} (h:ker.length≤20):(G.cls ker).length<64:=by
 rw[cls,aq,eg,eg];exact ax (cU h (tK hG ker)) (by decide)
theorem yP (ker:List Nat):(G.adds ker).Nodup:=by
 have A:∀s r,r<G.rules.length∧G.rules[r]?.map (·.left)=some s->G.rules[G.rl (G.off r)]?.map (·.left)=some s:=λs r h=>by
  have:=kY (d:=0) h.1 (bw _);rw[qL]at this;rw[this];exact h.2
 rw[adds,de,List.pairwise_flatMap]
 refine⟨λs _=>?_,?_⟩
 ·rw[←de,xd]
  refine eE _ ?_
  have:(List.filter (λr=>G.rules[r]?.map (·.left)==some s) (List.range G.rules.length)).Nodup:=eE _ eV
  rw[gx,lg]
  refine lK ?_ this
  intro a b ha hb ne e
  have za:=a_.1 (bB.1 ha).1
  have zb:=a_.1 (bB.1 hb).1
  have e1:=kY (d:=0) za (bw _)
  have e2:=kY (d:=0) zb (bw _)
  rw[qL]at e1 e2
  exact ne (e1▸e2▸e▸rfl)
 ·have:(dA (G.wn ker)).Nodup:=eE _ eV
  refine List.Pairwise.imp ?_ (de.1 this)
  intro s t ne x hx y hy e
  subst e
  obtain⟨⟨r,h1,h2,e1⟩,_⟩:=kw.1 hx
  obtain⟨⟨q,h3,h4,e2⟩,_⟩:=kw.1 hy
  have a1:=A s r ⟨h1,h2⟩
  have a2:=A t q ⟨h3,h4⟩
  rw[e1]at a1;rw[e2,a1]at a2
  exact ne (ay a2)
theorem uV {ker:List Nat} (h:ker.Nodup):(G.cls ker).Nodup:=by
 rw[cls,f_]
 refine⟨fQ h,fQ (yP ker),?_⟩
 intro a ha b hb e
 subst e
 obtain⟨s,_,m⟩:=jf.1 (dL.1 hb)
 exact(kw.1 m).2 (dL.1 ha)
theorem G_ (hG:cg H g G A) {its:List Nat} (h:∀i∈its,i<G.own.length) (n:its.Nodup) (s:Nat):Ki G (jX (G.hV its s)):=by
 have nd:(G.hV its s).Nodup:=by
  rw[hV,de,lg]
  exact(de.1 (eE _ n)).imp λne e=>ne (hB e)
 refine⟨λi hi=>?_,Kd nd⟩
 obtain⟨j,hj,rfl⟩:=aA.1 (dL.1 hi)
 have:=bB.1 hj
 exact(Al (h j this.1) (beq_iff_eq.1 this.2)).1
end aJ
end
section
structure cT where
 ker:List Nat
 its:List Nat
 red:List Nat
 mv:List (Nat×Nat)
 sym:Int
noncomputable def vI (n:Nat):V:=.int n
noncomputable def lC (S:List cT):List (List Int×V):=S.zipIdx.map λp=>(p.1.ker.map Int.ofNat,vI p.2)
inductive ni (H:Hp) (a q:Nat) (s:cT) (ia ma ra:Nat):Prop
 |mk (inst:H[a]?=some (.inst 0 [(7,.int q),(31,.tup (vn s.ker)),(32,.int s.sym),(33,.ref ia),(34,.ref ma),(14,.ref ra)])) (it:H[ia]?=some (.list (vn s.its))) (mv:H[ma]?=some (.bj (nd vI s.mv))) (rd:H[ra]?=some (.list (vn s.red)))
inductive BS (H0 H:Hp) (LS ND:Nat) (SA MA:List Nat) (S:List cT):Prop
 |mk (e:Ext H0 H) (ls:H[LS]?=some (.list (SA.map .ref))) (nd:H[ND]?=some (.bX (lC S))) (sl:SA.length=S.length) (ml:MA.length=S.length) (st:∀q s a ma,S[q]?=some s->SA[q]?=some a->MA[q]?=some ma->∃ia ra,ni H a q s ia ma ra) (fl:H0[LS]?=none) (fn:H0[ND]?=none) (fs:∀a∈SA,H0[a]?=none) (fm:∀a∈MA,H0[a]?=none) (ns:SA.Nodup) (nm:MA.Nodup)
section
variable {H0 H H':Hp} {LS ND q a ma:Nat} {SA MA:List Nat} {S:List cT} {s:cT} {R:Prop}
theorem ni.ex {T:List Nat} {ia ra:Nat} (h:ni H a q s ia ma ra) (x:eH T H H') (n:∀b o,b∈T->H[b]?=some o->b≠a∧b≠ia∧b≠ma∧b≠ra):ni H' a q s ia ma ra:=
 ⟨x _ _ (λm=>(n _ _ m h.1).1 rfl) h.1,x _ _ (λm=>(n _ _ m h.2).2.1 rfl) h.2,x _ _ (λm=>(n _ _ m h.3).2.2.1 rfl) h.3,x _ _ (λm=>(n _ _ m h.4).2.2.2 rfl) h.4⟩
theorem BS.get (h:BS H0 H LS ND SA MA S) (e:S[q]?=some s) (k:∀a ma ia ra,SA[q]?=some a->MA[q]?=some ma->ni H a q s ia ma ra->R):R:=by
 have z:=(ah.1 e).1
 have e1:=ao (h.4.symm▸z:q<SA.length)
 have e2:=ao (h.5.symm▸z:q<MA.length)
 obtain⟨ia,ra,st⟩:=h.6 _ _ _ _ e e1 e2
 exact k _ _ ia ra e1 e2 st
theorem BS.nls {l:List Nat} {b:Nat} (h:BS H0 H LS ND SA MA S) (e:S[q]?=some s) (k:H[b]?=some (.list (vn l))):LS≠b:=λz=>by
 have z:SA.map V.ref=vn l:=O.list.inj (ay (h.2.symm.trans (z▸k)))
 have a:=ao (h.4.symm▸(ah.1 e).1:q<SA.length)
 have a:=dB a;rw[z]at a
 obtain⟨n,_,c⟩:=DX a;exact V.noConfusion c
theorem BS.upd {s':cT} {ia ra:Nat} (h:BS H0 H LS ND SA MA S) (e:S[q]?=some s) (e1:SA[q]?=some a) (e2:MA[q]?=some ma) (x:eH [a,ma] H H') (st:ni H' a q s' ia ma ra) (ek:s'.ker=s.ker):BS H0 H' LS ND SA MA (S.set q s'):=by
 obtain⟨ia0,ra0,lD⟩:=h.6 _ _ _ _ e e1 e2
 have z:=(ah.1 e).1
 have n2:∀{b:Nat} {o:O},H[b]?=some o->Nat.beq o.ctorIdx 4=false->Nat.beq o.ctorIdx 1=false->b∉[a,ma]:=λk i d m=>
  (aH.1 m).elim (dj k lD.1 i) λm=>dj k lD.3 d (ak.1 m)
 have fa:=h.9 a (am e1)
 have fm:=h.10 ma (am e2)
 refine⟨x.ext h.1 λb m=>?_,x _ _ (n2 h.2 rfl rfl) h.2,?_,h.4.trans aU.symm,h.5.trans aU.symm,λq2 s2 a2 m2 g1 g2 g3=>?_,h.7,h.8,h.9,h.10,h.11,h.12⟩
 ·exact(aH.1 m).elim (λm=>m▸fa) λm=>ak.1 m▸fm
 ·have:lC (S.set q s')=lC S:=by
   apply lh;intro i
   simp only[lC,aK,List.getElem?_zipIdx,iV]
   by_cases c:q=i
   ·subst c;rw[if_pos rfl,if_pos z,e];simp[ek]
   ·rw[if_neg c]
  rw[this];exact x _ _ (n2 h.3 rfl rfl) h.3
 ·by_cases c:q=q2
  ·subst c
   cases e1.symm.trans g2;cases e2.symm.trans g3;cases(aZ z).symm.trans g1
   exact⟨ia,ra,st⟩
  ·rw[a7 c]at g1
   obtain⟨Na,IM,lE⟩:=h.6 _ _ _ _ g1 g2 g3
   refine⟨Na,IM,lE.ex x λb o m k=>?_⟩
   have d1:a≠a2:=λe=>c ((cP (ah.1 e1).1 h.11).1 (e1.trans (e▸g2.symm)))
   have d2:ma≠m2:=λe=>c ((cP (ah.1 e2).1 h.12).1 (e2.trans (e▸g3.symm)))
   rcases aH.1 m with m|m
   ·rw[m];exact⟨d1,dj lD.1 lE.2 rfl,dj lD.1 lE.3 rfl,dj lD.1 lE.4 rfl⟩
   ·rw[ak.1 m];exact⟨dj lD.3 lE.1 rfl,dj lD.3 lE.2 rfl,d2,dj lD.3 lE.4 rfl⟩
end
variable {G:aJ} {A:GA} {g:Nat} {R:Prop} {H:Hp}
theorem uu {H':Hp} {a n:Nat} {ker:List Nat} {sym:Int} (fa:H[a]?=none) (e:Ext H H') (ha:H'[a]?=some (.inst 0 []))
  (q:∀ia ma ra H2,JR 28 [.ref a,.int n,.tup (vn ker),.int sym] H' .none H2->Ext H H2->ni H2 a n ⟨ker,[],[],[],sym⟩ ia ma ra->H[ia]?=none->H[ma]?=none->H[ra]?=none->R):R:=by
 refine dc 28 [.ref a,.int n,.tup (vn ker),.int sym] H' rfl rfl (L:=[some (.ref a),some (.int n),some (.tup (vn ker)),some (.int sym)]) rfl λQ q'=>?_
 refine .setattr (.var rfl) (.var rfl) ha rfl rfl (.setattr (.var rfl) (.var rfl) (dq ha) rfl rfl (.setattr (.var rfl) (.var rfl) (dq (dq ha)) rfl rfl ?_))
 have e1:=((e.set (o:=.inst 0 (dv 7 (.int n) [])) fa).set (o:=.inst 0 (dv 31 (.tup (vn ker)) (dv 7 (.int n) []))) fa).set (o:=.inst 0 (dv 32 (.int sym) (dv 31 (.tup (vn ker)) (dv 7 (.int n) [])))) fa
 have g1:=dq (p:=.inst 0 (dv 32 (.int sym) (dv 31 (.tup (vn ker)) (dv 7 (.int n) [])))) (dq (p:=.inst 0 (dv 31 (.tup (vn ker)) (dv 7 (.int n) []))) (dq (p:=.inst 0 (dv 7 (.int n) [])) ha))
 generalize ((H'.set a _).set a _).set a _=H1 at e1 g1
 refine hS λia H2 j f2 g2 e2=>.setattr j (.var rfl) (e2 _ _ g1) rfl rfl ?_
 have n2:ia≠a:=(e_ f2 g1).symm
 have e3:=(e1.trans e2).set (o:=.inst 0 (dv 33 (.ref ia) (dv 32 (.int sym) (dv 31 (.tup (vn ker)) (dv 7 (.int n) []))))) fa
 have g3:=dq (p:=.inst 0 (dv 33 (.ref ia) (dv 32 (.int sym) (dv 31 (.tup (vn ker)) (dv 7 (.int n) []))))) (e2 _ _ g1)
 have i3:=eK (p:=.inst 0 (dv 33 (.ref ia) (dv 32 (.int sym) (dv 31 (.tup (vn ker)) (dv 7 (.int n) []))))) g2 n2
 generalize H2.set a _=H3 at e3 g3 i3
 refine lS λma H4 j f4 g4 e4=>.setattr j (.var rfl) (e4 _ _ g3) rfl rfl ?_
 have n4:ma≠a:=(e_ f4 g3).symm
 have e5:=(e3.trans e4).set (o:=.inst 0 (dv 34 (.ref ma) (dv 33 (.ref ia) (dv 32 (.int sym) (dv 31 (.tup (vn ker)) (dv 7 (.int n) [])))))) fa
 have g5:=dq (p:=.inst 0 (dv 34 (.ref ma) (dv 33 (.ref ia) (dv 32 (.int sym) (dv 31 (.tup (vn ker)) (dv 7 (.int n) [])))))) (e4 _ _ g3)
 have i5:=eK (p:=.inst 0 (dv 34 (.ref ma) (dv 33 (.ref ia) (dv 32 (.int sym) (dv 31 (.tup (vn ker)) (dv 7 (.int n) [])))))) (e4 _ _ i3) n2
 have m5:=eK (p:=.inst 0 (dv 34 (.ref ma) (dv 33 (.ref ia) (dv 32 (.int sym) (dv 31 (.tup (vn ker)) (dv 7 (.int n) [])))))) g4 n4
 generalize H4.set a _=H5 at e5 g5 i5 m5
 refine hS λra H6 j f6 g6 e6=>.setattr j (.var rfl) (e6 _ _ g5) rfl rfl (.nil (q' λj=>q ia ma ra _ j ((e5.trans e6).set fa) ⟨dq (e6 _ _ g5),eK (e6 _ _ i5) n2,eK (e6 _ _ m5) n4,eK g6 (e_ f6 g5).symm⟩ (e1.none f2) (e3.none f4) (e5.none f6)))
end
section
theorem ofNat_inj {l m:List Nat} (h:l.map Int.ofNat=m.map Int.ofNat):l=m:=by
 have:=congrArg (List.map Int.toNat) h
 rw[bJ,bJ,show Int.toNat∘Int.ofNat=id from rfl,gH,gH]at this;exact this
theorem yQ {H:Hp} {a:Nat} {d:List (List Int×V)} {k:List Nat} (h:H[a]?=some (.bX d)):d6 H a (.tup (vn k)) (eP (k.map Int.ofNat) d):=by rw[iE];exact .t h
section
variable {S:List cT} {ker:List Nat} {q:Nat} {s:cT}
theorem tO {p:List Int×V}:p∈lC S↔∃q s,S[q]?=some s∧p=(s.ker.map Int.ofNat,vI q):=
 ⟨λh=>(aA.1 h).elim λx q=>⟨x.2,x.1,jG.1 q.1,q.2.symm⟩,λh=>h.elim λq h=>h.elim λs h=>aA.2 ⟨(s,q),jG.2 h.1,h.2.symm⟩⟩
theorem Am (h:ker∉S.map (·.ker)) (p:List Int×V) (m:p∈lC S):p.1≠ker.map Int.ofNat:=λe=>
 (tO.1 m).elim λq z=>z.elim λs z=>h (aA.2 ⟨s,am z.1,ofNat_inj ((congrArg Prod.fst z.2).symm.trans e)⟩)
theorem Bt (h:ker∉S.map (·.ker)):eP (ker.map Int.ofNat) (lC S)=none:=vS (Am h)
theorem uW (n:(S.map (·.ker)).Nodup) (h:S[q]?=some s):eP (s.ker.map Int.ofNat) (lC S)=some (vI q):=by
 rw[eP]
 cases e:(lC S).find? λp=>decide (p.1=s.ker.map Int.ofNat)with
 |none=>exact absurd (decide_eq_true rfl) (dZ.1 e _ (tO.2 ⟨q,s,h,rfl⟩))
 |some p=>
  obtain⟨q2,s2,h2,rfl⟩:=tO.1 (dH e)
  have a1:(S.map (·.ker))[q2]?=some s.ker:=(get_map h2).trans (congrArg some (ofNat_inj (of_decide_eq_true (jH (p:=λp:List Int×V=>decide (p.1=s.ker.map Int.ofNat)) e))))
  exact congrArg (λi=>some (vI i)) ((cP (ah.1 a1).1 n).1 (a1.trans (get_map h).symm))
theorem Em {sym:Int} (h:ker∉S.map (·.ker)):dput (ker.map Int.ofNat) (vI S.length) (lC S)=lC (S++[⟨ker,[],[],[],sym⟩]):=by
 rw[sC (Am h),lC,lC,List.zipIdx_append,az,mP];rfl
theorem En:(lC S).length=S.length:=by rw[lC,ae,List.length_zipIdx]
end
noncomputable def vU (S S':List cT) (ker:List Nat) (p:Nat):Prop:=
 (S'=S∧∃s,S[p]?=some s∧s.ker=ker)∨(ker∉S.map (·.ker)∧p=S.length∧∃sym,S'=S++[⟨ker,[],[],[],sym⟩])
noncomputable def BO (g c LS ND:Nat):O:=.inst 2 [(12,.ref g),(43,.ref c),(13,.ref LS),(35,.ref ND)]
section
variable {H0 H H1 H3:Hp} {LS ND b:Nat} {SA MA:List Nat} {S:List cT} {R:Prop}
theorem BS.push {a ia ma ra:Nat} {ker:List Nat} {sym:Int} (h:BS H0 H LS ND SA MA S) (hn:ker∉S.map (·.ker)) (e1:H1=H.set ND (.bX (dput (ker.map Int.ofNat) (vI S.length) (lC S))))
  (fa:H1[a]?=none) (e:Ext H1 H3) (st:ni H3 a S.length ⟨ker,[],[],[],sym⟩ ia ma ra) (fi:H1[ia]?=none) (fm:H1[ma]?=none) (fr:H1[ra]?=none):
  BS H0 (H3.set LS (.list (SA.map .ref++[.ref a]))) LS ND (SA++[a]) (MA++[ma]) (S++[⟨ker,[],[],[],sym⟩])∧eH [LS,ND] H (H3.set LS (.list (SA.map .ref++[.ref a]))):=by
 subst e1
 have nl:=dj h.2 h.3 rfl
 have g1:=e _ _ (eK (p:=.bX (dput (ker.map Int.ofNat) (vI S.length) (lC S))) h.2 nl)
 have x:eH [LS,ND] H (H3.set LS (.list (SA.map .ref++[.ref a]))):=(eH.trans (eH.r.set (aL _ (ak.2 rfl))) (.of e)).set (aQ ..)
 have old:∀{b:Nat},(H.set ND (.bX (dput (ker.map Int.ofNat) (vI S.length) (lC S))))[b]?=none->H[b]?=none:=λ{b} f=>by
  have:¬b<_:=bG.2 (d8.1 f)
  rw[aU]at this;exact bT (dX this)
 have Oc:∀{b:Nat},(H.set ND (.bX (dput (ker.map Int.ofNat) (vI S.length) (lC S))))[b]?=none->b≠LS:=λf e=>c7 f (e▸eK h.2 nl)
 refine⟨⟨x.ext h.1 λb m=>?_,?_,?_,?_,?_,λq s a2 m2 k1 k2 k3=>?_,h.7,h.8,λb m=>?_,λb m=>?_,?_,?_⟩,x⟩
 ·exact(aH.1 m).elim (λm=>m▸h.7) λm=>ak.1 m▸h.8
 ·rw[dq g1,az];rfl
 ·rw[eK (e _ _ (dq h.3)) nl.symm,Em hn]
 ·rw[aq,aq,h.4];rfl
 ·rw[aq,aq,h.5];rfl
 ·rcases a9 q S.length with z|z
  ·rw[aG z]at k1
   rw[aG (h.4.symm▸z)]at k2
   rw[aG (h.5.symm▸z)]at k3
   obtain⟨Na,IM,lE⟩:=h.6 _ _ _ _ k1 k2 k3
   refine⟨Na,IM,lE.ex x λb o m k=>?_⟩
   rcases aH.1 m with m|m
   ·rw[m];exact⟨dj h.2 lE.1 rfl,h.nls k1 lE.2,dj h.2 lE.3 rfl,h.nls k1 lE.4⟩
   ·rw[ak.1 m];exact⟨dj h.3 lE.1 rfl,dj h.3 lE.2 rfl,dj h.3 lE.3 rfl,dj h.3 lE.4 rfl⟩
  ·have:q=S.length:=by
    have:=(ah.1 k1).1
    rw[aq]at this;exact bR (bE this) z
   subst this
   rw[aX z,ez]at k1
   rw[aX (h.4.symm▸z),h.4,ez]at k2
   rw[aX (h.5.symm▸z),h.5,ez]at k3
   cases k1;cases k2;cases k3
   exact⟨ia,ra,eK st.1 (Oc fa),eK st.2 (Oc fi),eK st.3 (Oc fm),eK st.4 (Oc fr)⟩
 ·exact(aE.1 m).elim (h.9 b) λm=>ak.1 m▸h.1.none (old fa)
 ·exact(aE.1 m).elim (h.10 b) λm=>ak.1 m▸h.1.none (old fm)
 ·refine gQ h.11 λhb=>?_
  obtain⟨i,hi⟩:=aP hb
  have z:=(ah.1 hi).1
  obtain⟨_,_,lE⟩:=h.6 _ _ _ _ (ao (h.4▸z)) hi (ao (h.5.symm▸h.4▸z))
  exact c7 (old fa) lE.1
 ·refine gQ h.12 λhb=>?_
  obtain⟨i,hi⟩:=aP hb
  have z:=(ah.1 hi).1
  obtain⟨_,_,lE⟩:=h.6 _ _ _ _ (ao (h.5▸z)) (ao (h.4.symm▸h.5▸z)) hi
  exact c7 (old fm) lE.3
end
end
section
section
variable {H0 H:Hp} {g c LS ND b:Nat} {SA MA:List Nat} {S:List cT} {R:Prop}
theorem uX {ker:List Nat} {sym:Int} (hb:H[b]?=some (BO g c LS ND)) (h:BS H0 H LS ND SA MA S) (kn:(S.map (·.ker)).Nodup) (z:S.length≤2^18)
  (q:∀p Hc Kk S' H',JR 29 [.ref b,.tup (vn ker),.int sym] H (.int (p:Nat)) H'->eH [LS,ND] H H'->BS H0 H' LS ND Hc Kk S'->vU S S' ker p->SA<+:Hc->R):R:=by
 have zS:S.length<SZ:=ax z (by decide)
 refine dc 29 [.ref b,.tup (vn ker),.int sym] H rfl rfl (L:=[some (.ref b),some (.tup (vn ker)),some (.int sym)]) rfl λQ q'=>?_
 have T:=JT.b9 (H:=H) (L:=[some (.ref b),some (.tup (vn ker)),some (.int sym)]) (.var (i:=1) rfl) (.attr (.var (i:=0) rfl) hb (f:=35) rfl rfl) (.jJ (.dict (yQ (k:=ker) h.3)))
 by_cases m:ker∈S.map (·.ker)
 ·obtain⟨s,ms,rfl⟩:=aA.1 m
  obtain⟨p,hp⟩:=aP ms
  have X:=yQ (k:=s.ker) h.3
  rw[uW kn hp]at T X
  exact .pass T (.ret (.idx (.attr (.var rfl) hb rfl rfl) (.var rfl) (.dict X)) (q' λj=>q p SA MA S H j .r h (.inl ⟨rfl,s,hp,rfl⟩) List.prefix_rfl))
 ·rw[Bt m]at T
  have ln:=JE.len (H:=H) (L:=[some (.ref b),some (.tup (vn ker)),some (.int sym)]) (a:=.attr (.var 0) 13) (.attr (.var (i:=0) rfl) hb (f:=13) rfl rfl) (.list h.2 (by rw[ae,h.4];exact aI zS))
  rw[ae,h.4]at ln
  refine .then T (.br ln (.attr (.var rfl) hb rfl rfl) (.var rfl) (by rw[iE];exact .bX h.3 (by rw[En];exact zS)) ?_)
  have nb:b≠ND:=dj hb h.3 rfl
  have hb1:=eK (p:=.bX (dput (ker.map Int.ofNat) (vI S.length) (lC S))) hb nb
  have PJ:=eK (p:=.bX (dput (ker.map Int.ofNat) (vI S.length) (lC S))) h.2 (dj h.2 h.3 rfl)
  have ln:=JE.len (L:=[some (.ref b),some (.tup (vn ker)),some (.int sym)]) (a:=.attr (.var 0) 13) (.attr (.var (i:=0) rfl) hb1 (f:=13) rfl rfl) (.list PJ (by rw[ae,h.4];exact aI zS))
  rw[ae,h.4]at ln
  refine new_ (c:=0) (.av ln (.av (.var (i:=1) rfl) (.av (.var (i:=2) rfl) .bm))) rfl λa H2 fa ga ea nw=>?_
  refine uu (n:=S.length) (ker:=ker) (sym:=sym) fa ea ga λia ma ra H3 j e3 st fi fm fr=>?_
  refine .expr (.append (.attr (.var rfl) hb1 rfl rfl) (nw j) ⟨_,PJ⟩ (e3 _ _ PJ) (by rw[ae,h.4];exact zS)) (.nil ?_)
  obtain⟨bs,x⟩:=h.push m rfl fa e3 st fi fm fr
  have X:=yQ (k:=ker) bs.3
  have n2:((S++[cT.mk ker [] [] [] sym]).map (·.ker)).Nodup:=by
   rw[az];exact gQ kn m
  rw[uW n2 (q:=S.length) (s:=⟨ker,[],[],[],sym⟩) bv]at X
  refine .ret (.idx (.attr (.var rfl) (x _ _ ?_ hb) rfl rfl) (.var rfl) (.dict X)) (q' λj=>q S.length _ _ _ _ j x bs (.inr ⟨m,rfl,sym,rfl⟩) (List.prefix_append ..))
  exact λe=>(aH.1 e).elim (dj hb h.2 rfl) λe=>nb (ak.1 e)
end
end
section
noncomputable def Mb (o:O):Prop:=(∀l,o= .list l->∀x∈l,∃a,x= .ref a)∧∀c fs,o= .inst c fs->c=0
theorem Mb.t {d}:Mb (.bX d):=⟨λ_ e=>O.noConfusion e,λ_ _ e=>O.noConfusion e⟩
theorem Mb.d {d}:Mb (.bj d):=⟨λ_ e=>O.noConfusion e,λ_ _ e=>O.noConfusion e⟩
theorem Mb.f {d}:Mb (.fi d):=⟨λ_ e=>O.noConfusion e,λ_ _ e=>O.noConfusion e⟩
theorem Mb.l {l:List Nat}:Mb (.list (l.map .ref)):=⟨λ_ e x hx=>(aA.1 ((O.list.inj e).symm▸hx)).imp λ_ q=>q.2.symm,λ_ _ e=>O.noConfusion e⟩
theorem Mb.i {fs}:Mb (.inst 0 fs):=⟨λ_ e=>O.noConfusion e,λ_ _ e=>(O.inst.inj e).1.symm⟩
inductive BX (H0 H:Hp) (g:Nat) (G:aJ) (A:GA) (b c T LS ND:Nat) (SA MA:List Nat) (S:List cT):Prop
 |mk (hG:cg H0 g G A) (hb:H[b]?=some (BO g c LS ND)) (hC:Bk H c g G T) (bs:BS H0 H LS ND SA MA S) (ko:∀s∈S,Ki G s.ker) (kn:(S.map (·.ker)).Nodup)
section
variable {H0 H H':Hp} {g b c T LS ND:Nat} {G:aJ} {A:GA} {SA MA:List Nat} {S S':List cT} {R:Prop}
theorem BX.gr (h:BX H0 H g G A b c T LS ND SA MA S):cg H g G A:=h.1.ext h.4.1
theorem BX.z (h:BX H0 H g G A b c T LS ND SA MA S):S.length≤2^18:=by
 have:=Ek h.1 (λk hk=>(aA.1 hk).elim λs q=>q.2▸h.5 s q.1) h.6
 rwa[ae]at this
theorem nMb (hb:H[b]?=some (BO g c LS ND)) (hC:Bk H c g G T) {x:Nat} {o:O} (k:H[x]?=some o) (m:Mb o):b≠x∧c≠x∧T≠x:=by
 refine⟨rN hb k λe=>?_,rN hC.1 k λe=>?_,rN hC.2 k λe=>?_⟩
 ·exact absurd (m.2 _ _ e.symm) (by decide:(2:Nat)≠0)
 ·exact absurd (m.2 _ _ e.symm) (by decide:(3:Nat)≠0)
 ·exact(m.1 _ e.symm _ (am (cR (getD_at (d:=0) (Aj.symm▸by decide:0<G.B9.length))))).elim λa w=>V.noConfusion w
theorem BX.keep (h:BX H0 H g G A b c T LS ND SA MA S) {X:List Nat} (x:eH X H H') (m:∀y∈X,∃o,H[y]?=some o∧Mb o) (bs:BS H0 H' LS ND Hc Kk S') (ko:∀s∈S',Ki G s.ker) (kn:(S'.map (·.ker)).Nodup):
  BX H0 H' g G A b c T LS ND Hc Kk S':=by
 have n:∀y∈X,b≠y∧c≠y∧T≠y:=λy hy=>(m y hy).elim λo q=>nMb h.2 h.3 q.1 q.2
 exact⟨h.1,x _ _ (λm=>(n _ m).1 rfl) h.2,⟨x _ _ (λm=>(n _ m).2.1 rfl) h.3.1,x _ _ (λm=>(n _ m).2.2 rfl) h.3.2⟩,bs,ko,kn⟩
theorem BS.ext (h:BS H0 H LS ND SA MA S) (e:Ext H H'):BS H0 H' LS ND SA MA S:=
 ⟨h.1.trans e,e _ _ h.2,e _ _ h.3,h.4,h.5,λq s a ma k1 k2 k3=>(h.6 q s a ma k1 k2 k3).imp λia q=>q.imp λra st=>⟨e _ _ st.1,e _ _ st.2,e _ _ st.3,e _ _ st.4⟩,h.7,h.8,h.9,h.10,h.11,h.12⟩
theorem BX.ext (h:BX H0 H g G A b c T LS ND SA MA S) (e:Ext H H'):BX H0 H' g G A b c T LS ND SA MA S:=
 ⟨h.1,e _ _ h.2,⟨e _ _ h.3.1,e _ _ h.3.2⟩,h.4.ext e,h.5,h.6⟩
theorem BS.mbl (h:BS H0 H LS ND SA MA S):∀y∈[LS,ND],∃o,H[y]?=some o∧Mb o:=λy m=>
 (aH.1 m).elim (λm=>m▸⟨_,h.2,.l⟩) λm=>ak.1 m▸⟨_,h.3,.t⟩
theorem ni.mbs {a q ia ma ra:Nat} {s:cT} (h:ni H a q s ia ma ra):∀y∈[a,ma],∃o,H[y]?=some o∧Mb o:=λy m=>
 (aH.1 m).elim (λm=>m▸⟨_,h.1,.i⟩) λm=>ak.1 m▸⟨_,h.3,.d⟩
theorem BS.th {D:Nat} {d:List (Int×V)} {o:O} (h:BS H0 H LS ND SA MA S) (k:H[D]?=some (.fi d)) (f:H0[D]?=none):BS H0 (H.set D o) LS ND SA MA S:=by
 have x:eH [D] H (H.set D o):=eH.r.set (ak.2 rfl)
 refine⟨x.new f h.1,eK h.2 (dj h.2 k rfl),eK h.3 (dj h.3 k rfl),h.4,h.5,λq s a ma k1 k2 k3=>?_,h.7,h.8,h.9,h.10,h.11,h.12⟩
 exact(h.6 q s a ma k1 k2 k3).imp λia q=>q.imp λra st=>⟨eK st.1 (dj st.1 k rfl),eK st.2 (dj st.2 k rfl),eK st.3 (dj st.3 k rfl),eK st.4 (dj st.4 k rfl)⟩
theorem Eo {q:Nat} {s s':cT} (e:S[q]?=some s) (k:s'.ker=s.ker):(S.set q s').map (·.ker)=S.map (·.ker):=by
 have z:=(ah.1 e).1
 apply lh;intro i
 rw[aK,aK,iV]
 by_cases c:q=i
 ·rw[←c,if_pos rfl,if_pos z,e];exact congrArg some k
 ·rw[if_neg c]
theorem BX.upd {q a ma ia ra:Nat} {s s':cT} (h:BX H0 H g G A b c T LS ND SA MA S) (e:S[q]?=some s) (e1:SA[q]?=some a) (e2:MA[q]?=some ma) (x:eH [a,ma] H H') (st:ni H' a q s' ia ma ra) (ek:s'.ker=s.ker):
  BX H0 H' g G A b c T LS ND SA MA (S.set q s'):=by
 obtain⟨ia0,ra0,lD⟩:=h.4.6 _ _ _ _ e e1 e2
 refine h.keep x lD.mbs (h.4.upd e e1 e2 x st ek) (λt m=>?_) (by rw[Eo e ek];exact h.6)
 exact(hM m).elim (h.5 t) λm=>m▸ek▸h.5 s (am e)
end
end
section
noncomputable def cT.new (s:cT):Prop:=s.its=[]∧s.red=[]∧s.mv=[]
noncomputable def Ep (G:aJ) (S:List cT) (its:List Nat) (mv:List (Nat×Nat)):Prop:=∀p∈mv,∃s,S[p.2]?=some s∧s.ker=jX (G.hV its p.1)
inductive IO (G:aJ) (S S':List cT) (q:Nat) (s:cT) (n:Nat):Prop
 |mk (len:S.length≤S'.length) (old:∀j<S.length,j≠q->S'[j]?=S[j]?) (new:∀j t,S.length≤j->S'[j]?=some t->t.new) (cur:∃mv,S'[q]?=some ⟨s.ker,G.cls s.ker,G.red (G.cls s.ker),mv,s.sym⟩∧mv.map (·.1)=(jX (G.syms (G.cls s.ker))).take n∧Ep G S' (G.cls s.ker) mv)
section
variable {S S':List cT} {ker:List Nat} {p:Nat}
theorem vU.app (g:vU S S' ker p):∃r,S'=S++r∧∀t∈r,t.new∧t.ker=ker:=by
 rcases g with⟨e,_⟩|⟨_,_,sym,e⟩
 ·exact⟨[],e.trans (aO S).symm,qo⟩
 ·exact⟨_,e,λt m=>ak.1 m▸⟨⟨rfl,rfl,rfl⟩,rfl⟩⟩
theorem vU.at_ (g:vU S S' ker p):∃s,S'[p]?=some s∧s.ker=ker:=by
 rcases g with⟨e,h⟩|⟨_,e2,sym,e⟩
 ·exact e▸h
 ·exact⟨_,by rw[e,e2];exact bv,rfl⟩
theorem vU.kn (g:vU S S' ker p) (h:(S.map (·.ker)).Nodup):(S'.map (·.ker)).Nodup:=by
 rcases g with⟨e,_⟩|⟨nm,_,sym,e⟩
 ·exact e▸h
 ·rw[e,az];exact gQ h nm
end
theorem Ep.grow {G S S' its mv ker p} (h:Ep G S its mv) (g:vU S S' ker p):Ep G S' its mv:=λx m=>
 g.app.elim λr q=>(h x m).imp λs k=>⟨q.1▸(aG (ah.1 k.1).1).trans k.1,k.2⟩
theorem Ep.set {G S its mv q} {s s':cT} (h:Ep G S its mv) (e:S[q]?=some s) (k:s'.ker=s.ker):Ep G (S.set q s') its mv:=λx m=>by
 obtain⟨t,e2,k2⟩:=h x m
 by_cases c:q=x.2
 ·rw[←c]at e2 ⊢;cases e.symm.trans e2
  exact⟨s',aZ (ah.1 e).1,k.trans k2⟩
 ·exact⟨t,(a7 c).trans e2,k2⟩
theorem IO.step {G:aJ} {S S1 S2:List cT} {q n X p:Nat} {s:cT} (h:IO G S S1 q s n) (hq:q<S.length) (g:vU S1 S2 (jX (G.hV (G.cls s.ker) X)) p) (hX:(jX (G.syms (G.cls s.ker)))[n]?=some X) {mv:List (Nat×Nat)}
  (e1:S1[q]?=some ⟨s.ker,G.cls s.ker,G.red (G.cls s.ker),mv,s.sym⟩) (k:mv.map (·.1)=(jX (G.syms (G.cls s.ker))).take n) (t:Ep G S1 (G.cls s.ker) mv):
  IO G S (S2.set q ⟨s.ker,G.cls s.ker,G.red (G.cls s.ker),mv++[(X,p)],s.sym⟩) q s (n+1)∧S2[q]?=some ⟨s.ker,G.cls s.ker,G.red (G.cls s.ker),mv,s.sym⟩:=by
 obtain⟨r,e0,nw⟩:=g.app
 have l12:S1.length≤S2.length:=by rw[e0,aq];exact bx ..
 have st:∀j<S1.length,S2[j]?=S1[j]?:=λj z=>e0▸aG z
 have e2:S2[q]?=some ⟨s.ker,G.cls s.ker,G.red (G.cls s.ker),mv,s.sym⟩:=by rw[st q (ah.1 e1).1,e1]
 refine⟨⟨by rw[aU];exact aj h.1 l12,λj z ne=>?_,λj t z e=>?_,mv++[(X,p)],?_,?_,λx m=>?_⟩,e2⟩
 ·rw[a7 (d4 ne),st j (aw z h.1)];exact h.2 j z ne
 ·rw[a7 λe:q=j=>bG.2 z (e▸hq)]at e
  rcases a9 j S1.length with w|w
  ·rw[st j w]at e;exact h.3 j t z e
  ·rw[e0,aX w]at e;exact(nw t (am e)).1
 ·exact aZ (ah.1 e2).1
 ·rw[az,k,aV,hX];rfl
 ·have t2:Ep G (S2.set q ⟨s.ker,G.cls s.ker,G.red (G.cls s.ker),mv++[(X,p)],s.sym⟩) (G.cls s.ker) mv:=(t.grow g).set e2 rfl
  rcases aE.1 m with m|m
  ·exact t2 x m
  ·rw[ak.1 m]
   refine Ep.set (s':=⟨s.ker,G.cls s.ker,G.red (G.cls s.ker),mv++[(X,p)],s.sym⟩) (mv:=[(X,p)]) (λy hy=>?_) e2 rfl (X,p) (ak.2 rfl)
   rw[ak.1 hy];exact g.at_
section
variable {H0 H:Hp} {g b c T LS ND a ma q:Nat} {G:aJ} {A:GA} {SA MA:List Nat} {S:List cT} {R:Prop}
theorem Bu {s:cT} (h:BX H0 H g G A b c T LS ND SA MA S) (e:S[q]?=some s) (e1:SA[q]?=some a) (sn:s.new)
  (k:∀Hc Kk S' H',JR 39 [.ref b,.ref a] H .none H'->BX H0 H' g G A b c T LS ND Hc Kk S'->IO G S S' q s (jX (G.syms (G.cls s.ker))).length->SA<+:Hc->R):R:=by
 refine dc 39 [.ref b,.ref a] H rfl rfl (L:=[some (.ref b),some (.ref a),none,none]) rfl λQ q'=>?_
 have z:=(ah.1 e).1
 refine h.4.get e λa' ma ia ra Od e2 st=>?_
 cases e1.symm.trans Od
 have hk:=h.5 s (am e)
 have kl:=hk.len h.1
 have cl:=aJ.yO h.1 hk.1
 have cz:=aJ.G9 h.1 kl
 refine Ee h.gr h.3 hk.1 kl λI H1 j fI gI eI=>.setattr (.bA (.attr (.var rfl) h.2 rfl rfl) h.3.1 rfl rfl (.av (.attr (.var rfl) st.1 rfl rfl) .bm) j) (.var rfl) (eI _ _ st.1) rfl rfl ?_
 have h1:=h.ext eI
 have mK:ni (H1.set a (.inst 0 [(7,.int q),(31,.tup (vn s.ker)),(32,.int s.sym),(33,.ref I),(34,.ref ma),(14,.ref ra)])) a q ⟨s.ker,G.cls s.ker,[],[],s.sym⟩ I ma ra:=
  ⟨dq (eI _ _ st.1),eK gI (dj gI (eI _ _ st.1) rfl),sn.2.2▸eK (eI _ _ st.3) (dj st.3 st.1 rfl),sn.2.1▸eK (eI _ _ st.4) (dj st.4 st.1 rfl)⟩
 have h2:=h1.upd e e1 e2 (eH.r.set (aQ ..)) mK rfl
 have q2:(S.set q ⟨s.ker,G.cls s.ker,[],[],s.sym⟩)[q]?=some ⟨s.ker,G.cls s.ker,[],[],s.sym⟩:=aZ z
 refine xu h2.gr mK.2 cl cz λW H3 j fW gW eW=>.setattr (.call (.av (.attr (.var rfl) h2.2 rfl rfl) (.av (.attr (.var rfl) mK.1 rfl rfl) .bm)) j) (.var rfl) (eW _ _ mK.1) rfl rfl ?_
 have h3:=h2.ext eW
 have lE:ni (H3.set a (.inst 0 [(7,.int q),(31,.tup (vn s.ker)),(32,.int s.sym),(33,.ref I),(34,.ref ma),(14,.ref W)])) a q ⟨s.ker,G.cls s.ker,G.red (G.cls s.ker),[],s.sym⟩ I ma W:=
  ⟨dq (eW _ _ mK.1),eK (eW _ _ mK.2) (dj mK.2 mK.1 rfl),eK (eW _ _ mK.3) (dj mK.3 mK.1 rfl),eK gW (dj gW (eW _ _ mK.1) rfl)⟩
 have h4:=h3.upd q2 e1 e2 (eH.r.set (aQ ..)) lE rfl
 rw[List.set_set]at h4
 have q4:(S.set q ⟨s.ker,G.cls s.ker,G.red (G.cls s.ker),[],s.sym⟩)[q]?=some ⟨s.ker,G.cls s.ker,G.red (G.cls s.ker),[],s.sym⟩:=aZ z
 refine yN h4.gr lE.2 cl cz λD H5 j fD gD eD=>.set (.call (.av (.attr (.var rfl) h4.2 rfl rfl) (.av (.attr (.var rfl) lE.1 rfl rfl) .bm)) j) ?_
 have kd:((G.Ke (G.cls s.ker)).map (·.1))=jX (G.syms (G.cls s.ker)):=by
  rw[aJ.Ke,bJ,show((λx:Nat×List Nat=>x.1)∘λt=>(t,jX (G.hV (G.cls s.ker) t)))=id from rfl,gH]
 have sl:=qv h.1 (G.cls s.ker)
 have nn:=fQ (aJ.fj (G:=G) (G.cls s.ker))
 have it:JI (.ex (.var 2)) [some (.ref b),some (.ref a),some (.ref D),none] H5 (vn (jX (G.syms (G.cls s.ker)))) (.bj D (nd (λl=>.tup (vn l)) (G.Ke (G.cls s.ker)))) H5:=by
  rw[iE,←kd,←oP (f:=λl=>V.tup (vn l))]
  exact .pF (.var rfl) (.bj gD) (lM (by rw[di,ae,ae,ly,aJ.Ke,ae,eg];exact aj sl (by decide)))
 have JL:H0[D]?=none:=h4.4.1.none fD
 refine .jW (λ_ (t:Option V×List Nat×List Nat×List cT)=>[some (.ref b),some (.ref a),some (.ref D),t.1]) (λn t H'=>BX H0 H' g G A b c T LS ND t.2.1 t.2.2.1 t.2.2.2∧H'[D]?=some (.fi (nd (λl=>.tup (vn l)) (G.Ke (G.cls s.ker))))∧IO G S t.2.2.2 q s n∧SA<+:t.2.1)
  (none,SA,MA,_) it ⟨h4.ext (eD.set fD),dq gD,⟨by rw[aU];exact aC _,λj w ne=>a7 (d4 ne),λj t w e=>c7 (bT (aU.symm▸w)) e,[],q4,rfl,qo⟩,List.prefix_rfl⟩ (λh=>h.2.1) ?_ ?_
 ·intro n X t H6 K hX h6 cq _
  obtain⟨x3,SA1,MA1,S1⟩:=t
  obtain⟨h6,Oe,ex,eSA⟩:=h6
  have h6:BX H0 H6 g G A b c T LS ND SA1 MA1 S1:=h6
  refine uX (ker:=jX (G.hV (G.cls s.ker) X)) (sym:=X) h6.2 h6.4 h6.6 h6.z λp Of MA2 S2 H7 j x bs gr PK=>?_
  obtain⟨mv,c1,c2,c3⟩:=ex.4
  obtain⟨ex2,e7⟩:=ex.step z gr hX c1 c2 c3
  have h7:BX H0 H7 g G A b c T LS ND Of MA2 S2:=h6.keep x h6.4.mbl bs (λt m=>gr.app.elim λr w=>(aE.1 (w.1▸m)).elim (h6.5 t) λm=>(w.2 t m).2▸aJ.G_ h.1 cl (aJ.uV (tN hk.2)) X) (gr.kn h6.6)
  have eS:SA<+:Of:=eSA.trans PK
  have Od:Of[q]?=some a:=eS.elim λw e=>e▸(aG (h.4.4.symm▸z)).trans e1
  have gD7:=x D _ (λm=>(aH.1 m).elim (dj Oe h6.4.2 rfl) λm=>dj Oe h6.4.3 rfl (ak.1 m)) Oe
  refine h7.4.get e7 λa2 ma2 Na IM k1 k2 Bv=>?_
  cases Od.symm.trans k1
  have X6:=d6.fi (k:=(X:Int)) Oe
  rw[kX (ks:=G.Ke (G.cls s.ker)) (b:=jX (G.hV (G.cls s.ker) X)) (aA.2 ⟨X,am hX,rfl⟩) (by rw[kd];exact nn)]at X6
  have nX:X∉mv.map (·.1):=by rw[c2];exact gV nn hX
  have ml:mv.length≤8:=by rw[←ae (f:=λx:Nat×Nat=>x.1),c2];exact aj (bM _ _) (by rw[eg];exact sl)
  refine .br (.bA (.var rfl) h6.2 rfl rfl (.av (.idx (.var rfl) (.var rfl) (.dict X6)) (.av (.var rfl) .bm)) j) (.attr (.var rfl) Bv.1 rfl rfl) (.var rfl) (.bj Bv.3 (by rw[ly];exact sf (aj ml (by decide)))) (.nil (cq (some (.int X),Of,MA2,_) rfl ⟨?_,?_,ex2,eS⟩))
  ·refine h7.upd e7 Od k2 (eH.r.set (aL _ (ak.2 rfl))) (ia:=Na) (ra:=IM) ⟨eK Bv.1 (dj Bv.1 Bv.3 rfl),eK Bv.2 (dj Bv.2 Bv.3 rfl),?_,eK Bv.4 (dj Bv.4 Bv.3 rfl)⟩ rfl
   rw[dq Bv.3];exact congrArg (λd=>some (O.bj d)) (oO nX p)
  ·exact eK gD7 (dj gD7 Bv.3 rfl)
 ·intro t H6 h6
  refine .nil (q' λj=>k t.2.1 t.2.2.1 t.2.2.2 _ j ?_ h6.2.2.1 h6.2.2.2)
  exact h6.1.keep (eH.r.set (ak.2 rfl)) (λy m=>ak.1 m▸⟨_,h6.2.1,.f⟩) (h6.1.4.th h6.2.1 JL) h6.1.5 h6.1.6
end
end
section
inductive Dn (G:aJ) (S:List cT) (s:cT):Prop
 |mk (its:s.its=G.cls s.ker) (red:s.red=G.red s.its) (mks:s.mv.map (·.1)=jX (G.syms s.its)) (mt:Ep G S s.its s.mv)
inductive Bi (G:aJ) (S:List cT) (n:Nat):Prop
 |mk (z0:∃s,S[0]?=some s∧s.ker=[0]) (le:n≤S.length) (dn:∀q<n,∀s,S[q]?=some s->Dn G S s) (nw:∀q s,n≤q->S[q]?=some s->s.new)
inductive oZ (G:aJ) (S:List cT):Prop
 |mk (z0:∃s,S[0]?=some s∧s.ker=[0]) (dn:∀(q:Nat) s,S[q]?=some s->Dn G S s) (ko:∀s∈S,Ki G s.ker) (kn:(S.map (·.ker)).Nodup) (z:S.length≤2^18)
inductive bN (H:Hp) (u g:Nat) (G:aJ) (A:GA) (LS:Nat) (SA:List Nat) (S:List cT):Prop
 |mk (gr:cg H g G A) (inst:H[u]?=some (.inst 1 [(12,.ref g),(13,.ref LS)])) (ls:H[LS]?=some (.list (SA.map .ref))) (sl:SA.length=S.length) (st:∀(q:Nat) s a,S[q]?=some s->SA[q]?=some a->∃ia ma ra,ni H a q s ia ma ra) (ok:oZ G S)
theorem IO.ker {G:aJ} {S S':List cT} {q n:Nat} {s:cT} (h:IO G S S' q s n) (e:S[q]?=some s) {j:Nat} {t:cT} (k:S[j]?=some t):∃t',S'[j]?=some t'∧t'.ker=t.ker:=by
 by_cases c:j=q
 ·cases c;cases e.symm.trans k;exact h.4.elim λmv q=>⟨_,q.1,rfl⟩
 ·exact⟨t,(h.2 j (ah.1 k).1 c).trans k,rfl⟩
theorem Bi.step {G:aJ} {S S':List cT} {n:Nat} {s:cT} (h:Bi G S n) (e:S[n]?=some s) (x:IO G S S' n s (jX (G.syms (G.cls s.ker))).length):Bi G S' (n+1):=by
 have z:=(ah.1 e).1
 refine⟨?_,aw z x.1,λq hq t k=>?_,λq t hq k=>?_⟩
 ·exact h.1.elim λt q=>(x.ker e q.1).imp λt' w=>⟨w.1,w.2.trans q.2⟩
 ·rcases ba.1 hq with w|w
  ·rw[x.2 q (bH w z) (cu w)]at k
   have d:=h.3 q w t k
   exact⟨d.1,d.2,d.3,λp m=>(d.4 p m).elim λy q=>(x.ker e q.1).imp λy' w=>⟨w.1,w.2.trans q.2⟩⟩
  ·subst w
   obtain⟨mv,c1,c2,c3⟩:=x.4
   cases c1.symm.trans k
   exact⟨rfl,rfl,c2.trans aN,c3⟩
 ·rcases a9 q S.length with w|w
  ·rw[x.2 q w (du hq)]at k;exact h.4 q t (aI hq) k
  ·exact x.3 q t w k
section
variable {H0 H H':Hp} {g b:Nat} {G:aJ} {A:GA} {R:Prop}
theorem sk (hG:cg H g G A) (fb:H[b]?=none) (e:Ext H H') (hb:H'[b]?=some (.inst 2 []))
  (q:∀c T LS ND H2,JR 43 [.ref b,.ref g] H' .none H2->Ext H H2->BX H H2 g G A b c T LS ND [] [] []->R):R:=by
 refine dc 43 [.ref b,.ref g] H' rfl rfl (L:=[some (.ref b),some (.ref g)]) rfl λQ q'=>.setattr (.var rfl) (.var rfl) hb rfl rfl ?_
 have e1:=e.set (o:=.inst 2 [(12,.ref g)]) fb
 have g1:=dq (p:=.inst 2 [(12,.ref g)]) hb
 refine new_ (H:=H'.set b (.inst 2 [(12,.ref g)])) (L:=[some (.ref b),some (.ref g)]) (c:=3) (.av (.var (i:=1) rfl) .bm) rfl λc H2 fc gc ec nw=>?_
 refine tH (hG.ext e1) fc ec gc λT H3 j e3 hC=>.setattr (nw j) (.var rfl) (e3 _ _ g1) rfl rfl ?_
 have e4:=(e1.trans e3).set (o:=.inst 2 [(12,.ref g),(43,.ref c)]) fb
 have g4:=dq (p:=.inst 2 [(12,.ref g),(43,.ref c)]) (e3 _ _ g1)
 have c4:=eK (p:=.inst 2 [(12,.ref g),(43,.ref c)]) hC.1 (J3 hC.1 (e3 _ _ g1) rfl)
 have t4:=eK (p:=.inst 2 [(12,.ref g),(43,.ref c)]) hC.2 (dj hC.2 (e3 _ _ g1) rfl)
 refine hS λLS H5 j f5 g5 e5=>.setattr j (.var rfl) (e5 _ _ g4) rfl rfl ?_
 have nb:=dj g5 (e5 _ _ g4) rfl
 have e6:=(e4.trans e5).set (o:=.inst 2 [(12,.ref g),(43,.ref c),(13,.ref LS)]) fb
 have g6:=dq (p:=.inst 2 [(12,.ref g),(43,.ref c),(13,.ref LS)]) (e5 _ _ g4)
 have l6:=eK (p:=.inst 2 [(12,.ref g),(43,.ref c),(13,.ref LS)]) g5 nb
 have c6:=eK (p:=.inst 2 [(12,.ref g),(43,.ref c),(13,.ref LS)]) (e5 _ _ c4) (J3 hC.1 (e3 _ _ g1) rfl)
 have t6:=eK (p:=.inst 2 [(12,.ref g),(43,.ref c),(13,.ref LS)]) (e5 _ _ t4) (dj hC.2 (e3 _ _ g1) rfl)
 refine lS λND H7 j f7 g7 e7=>.setattr j (.var rfl) (e7 _ _ g6) rfl rfl (.nil (q' λj=>q c T LS ND _ j ((e6.trans e7).set fb) ⟨hG,dq (e7 _ _ g6),⟨eK (e7 _ _ c6) (J3 hC.1 (e3 _ _ g1) rfl),eK (e7 _ _ t6) (dj hC.2 (e3 _ _ g1) rfl)⟩,
  ⟨(e6.trans e7).set fb,eK (e7 _ _ l6) nb,eK g7 (dj g7 (e7 _ _ g6) rfl),rfl,rfl,λ_ _ _ _ e=>c7 dD e,e4.none f5,e6.none f7,qo,qo,.nil,.nil⟩,qo,.nil⟩))
theorem xy {u LS:Nat} (fu:H[u]?=none) (e:Ext H H') (hu:H'[u]?=some (.inst 1 []))
  (q:∀H2,JR 30 [.ref u,.ref g,.ref LS] H' .none H2->Ext H H2->H2[u]?=some (.inst 1 [(12,.ref g),(13,.ref LS)])->R):R:=by
 refine dc 30 [.ref u,.ref g,.ref LS] H' rfl rfl (L:=[some (.ref u),some (.ref g),some (.ref LS)]) rfl λQ q'=>
  .setattr (.var rfl) (.var rfl) hu rfl rfl (.setattr (.var rfl) (.var rfl) (dq hu) rfl rfl (.nil (q' λj=>q _ j ((e.set fu).set fu) (dq (dq hu)))))
theorem Er {c T LS ND:Nat} (h:BX H0 H g G A b c T LS ND [] [] [])
  (k:∀u SA S H',JR 40 [.ref b] H (.ref u) H'->H0[u]?=none->Ext H0 H'->bN H' u g G A LS SA S->R):R:=by
 refine dc 40 [.ref b] H rfl rfl (L:=[some (.ref b),none]) rfl λQ q'=>?_
 refine uX (ker:=[0]) (sym:= -1) h.2 h.4 .nil (bw _) λp SA MA S H1 j x bs gr _=>?_
 obtain⟨_,s,e,_⟩|⟨_,_,sym,rfl⟩:=gr
 ·exact c7 dD e
 have h1:BX H0 H1 g G A b c T LS ND SA MA _:=h.keep x h.4.mbl bs (λs m=>by
  rw[ak.1 m]
  exact⟨λi hi=>by rw[ak.1 hi];exact aJ.sE (G:=G) (r:=0) (d:=0) (h.1.13.1▸by decide) (bw _),mq ..⟩) (mq ..)
 refine .expr (.bA (.var rfl) h.2 rfl rfl (.av (.tup (.av (.bA (.attr (.var rfl) h.2 rfl rfl) h.gr.1 rfl rfl (.av .lit (.av .lit .bm)) (vO h.gr (r:=0) (d:=0) (by decide))) .bm) (ic _ rfl)) (.av .lit .bm)) j) (.set .lit ?_)
 refine .pO (fun(s:Nat×List Nat×List Nat×List cT)=>[some (.ref b),some (.int s.1)]) (λs H'=>BX H0 H' g G A b c T LS ND s.2.1 s.2.2.1 s.2.2.2∧Bi G s.2.2.2 s.1) (λs=>2^18+1-s.1) (0,SA,MA,_) ⟨h1,⟨_,rfl,rfl⟩,bw _,λq h=>absurd h (bc q),λq s _ e=>?_⟩ ?_
 ·rw[ak.1 (am e)];exact⟨rfl,rfl,rfl⟩
 intro s H2 K hh cq _
 obtain⟨n,SA,MA,S⟩:=s
 have h2:BX H0 H2 g G A b c T LS ND SA MA S:=hh.1
 have bi:Bi G S n:=hh.2
 have X:=JT.b9 (H:=H2) (L:=[some (.ref b),some (.int n)]) (a:=.var 1) (b:=.len (.attr (.var 0) 13)) (.var rfl) (.len (.attr (.var rfl) h2.2 rfl rfl) (.list h2.4.2 (by rw[ae,h2.4.4];exact aj h2.z (by decide)))) (.lt _ _)
 rw[ae,h2.4.4]at X
 rcases a9 n S.length with z|z
 ·rw[decide_eq_true (bz.2 z)]at X
  have e:=ao z
  have e1:=ao (h2.4.4.symm▸z:n<SA.length)
  refine .yes X (Bu h2 e e1 (bi.4 n _ (aC _) e) λHc Kk S' H3 j h3 ex _=>.expr (.bA (.var rfl) h2.2 rfl rfl (.av (.idx (.attr (.var rfl) h2.2 rfl rfl) (.var rfl) (.nat h2.4.2 (dB e1))) .bm) j)
   (.set (.bin (.var rfl) .lit (.add _ _ _)) (.nil (cq (n+1,Hc,Kk,S') rfl ⟨h3,bi.step e ex⟩ ?_))))
  exact h_ (dh (aj (aI z) h2.z)) (bW n)
 ·rw[decide_eq_false (λh=>bG.2 z (bz.1 h))]at X
  have en:n=S.length:=bR bi.2 z
  subst en
  refine .no X (new_ (H:=H2) (L:=[some (.ref b),some (.int S.length)]) (c:=1) (.av (.attr (.var (i:=0) rfl) h2.2 (f:=12) rfl rfl) (.av (.attr (.var (i:=0) rfl) h2.2 (f:=13) rfl rfl) .bm)) rfl λu H3 fu gu eu nw=>xy fu eu gu λH4 j e4 hu=>.ret (nw j) (q' λj=>k u SA S H4 j (h2.4.1.none fu) (h2.4.1.trans e4)
   ⟨h2.1.ext (h2.4.1.trans e4),hu,e4 _ _ h2.4.2,h2.4.4,λq s a k1 k2=>?_,bi.1,λq s e=>bi.3 q (ah.1 e).1 s e,h2.5,h2.6,h2.z⟩))
  refine h2.4.get k1 λa' ma ia ra e1 e2 st=>?_
  cases k2.symm.trans e1
  exact⟨ia,ma,ra,e4 _ _ st.1,e4 _ _ st.2,e4 _ _ st.3,e4 _ _ st.4⟩
theorem Es (hG:cg H g G A) (q:∀u LS SA S H',JR 5 [.ref g] H (.ref u) H'->H[u]?=none->Ext H H'->bN H' u g G A LS SA S->R):R:=by
 refine dc 5 [.ref g] H rfl rfl (L:=[some (.ref g)]) rfl λQ q'=>?_
 refine new_ (H:=H) (L:=[some (.ref g)]) (c:=2) (.av (.var (i:=0) rfl) .bm) rfl λb H1 f1 g1 e1 nw=>?_
 refine sk hG f1 e1 g1 λc T LS ND H2 j e2 h=>Er h λu SA S H3 j3 f3 e3 au=>.ret (.bA (nw j) h.2 rfl rfl .bm j3) (q' λj=>q u LS SA S H3 j f3 e3 au)
end
end
section
section
variable {κ:Type} [DecidableEq κ]
variable {k:κ}
theorem Et {d e:List (κ×V)}:eP k (d++e)=(eP k d).or (eP k e):=by unfold eP;rw[List.find?_append];cases List.find? _ d<;>rfl
theorem uY (k j:κ) (v:V) (d:List (κ×V)):eP k (dput j v d)=if j=k then some v else eP k d:=by
 by_cases h:d.any (λp=>decide (p.1=j))=true
 ·rw[dput,if_pos h]
  by_cases e:j=k
  ·rw[if_pos e,←e]
   induction d with
   |nil=>exact ff h
   |cons p l ih=>
    rw[bS,tL]
    by_cases z:p.1=j
    ·rw[if_pos z,decide_eq_true (show(p.1,v).1=j from z)];rfl
    ·rw[if_neg z,decide_eq_false z];exact ih (by rw[List.any_cons,decide_eq_false z]at h;exact h)
  ·rw[if_neg e];clear h
   induction d with
   |nil=>rfl
   |cons p l ih=>
    rw[bS,tL,tL,ih]
    by_cases z:p.1=j
    ·rw[if_pos z,decide_eq_false (show ¬(p.1,v).1=k from z▸e)];rfl
    ·rw[if_neg z]
 ·have n:∀p∈d,p.1≠j:=λp m z=>h (jb.2 ⟨p,m,decide_eq_true z⟩)
  rw[sC n,Et,tL]
  by_cases e:j=k
  ·rw[if_pos e,←e,vS n,decide_eq_true rfl];rfl
  ·rw[if_neg e,decide_eq_false e];exact oD
theorem tP (k:κ) (v:V) (d:List (κ×V)):(dput k v d).length≤d.length+1:=by
 unfold dput;by_cases z:d.any (λp=>decide (p.1=k))=true
 ·rw[if_pos z,ae];exact gG _
 ·rw[if_neg z,aq];exact aC _
end
namespace aJ
variable {G:aJ}
theorem An {its:List Nat} {r:Nat}:r∈G.red its↔∃i∈its,G.af i=none∧G.rl i≠0∧G.rl i=r:=by
 rw[red,dL,aA]
 simp only[bB,md,hN,bne_iff_ne,and_assoc]
end aJ
variable {H:Hp} {u g LS:Nat} {G:aJ} {A:GA} {SA:List Nat} {S:List cT} {R:Prop}
theorem bN.ext {H':Hp} (h:bN H u g G A LS SA S) (e:Ext H H'):bN H' u g G A LS SA S:=
 ⟨h.1.ext e,e _ _ h.2,e _ _ h.3,h.4,λq s a k1 k2=>(h.5 q s a k1 k2).imp λia q=>q.imp λma q=>q.imp λra st=>⟨e _ _ st.1,e _ _ st.2,e _ _ st.3,e _ _ st.4⟩,h.6⟩
theorem bN.at_ {q a:Nat} (h:bN H u g G A LS SA S) (e:SA[q]?=some a) (k:∀s ia ma ra,S[q]?=some s->ni H a q s ia ma ra->R):R:=by
 have z:=(ah.1 e).1
 have e1:=ao (h.4▸z:q<S.length)
 obtain⟨ia,ma,ra,st⟩:=h.5 _ _ _ e1 e
 exact k _ ia ma ra e1 st
theorem bN.get {q:Nat} {s:cT} (h:bN H u g G A LS SA S) (e:S[q]?=some s) (k:∀a ia ma ra,SA[q]?=some a->ni H a q s ia ma ra->R):R:=by
 have z:=(ah.1 e).1
 have e1:=ao (h.4.symm▸z:q<SA.length)
 obtain⟨ia,ma,ra,st⟩:=h.5 _ _ _ e e1
 exact k _ ia ma ra e1 st
theorem oZ.yR {hG:cg H g G A} (h:oZ G S) {q:Nat} {s:cT} (e:S[q]?=some s):∀i∈s.its,i<G.own.length:=by
 rw[(h.2 q s e).1];exact aJ.yO hG (h.3 s (am e)).1
theorem bN.mL (h:bN H u g G A LS SA S) {q:Nat} {s:cT} (e:S[q]?=some s):∀r∈s.red,0<r∧r<5:=λr m=>by
 rw[(h.6.2 q s e).2]at m
 obtain⟨i,hi,_,r0,rfl⟩:=aJ.An.1 m
 have:=(G.i9 (oZ.yR (hG:=h.1) h.6 e i hi)).2.1
 rw[h.1.13.1]at this
 exact⟨dK r0,this⟩
theorem bN.rq (h:bN H u g G A LS SA S) {q:Nat} {s:cT} (e:S[q]?=some s):s.red.Nodup:=by
 rw[(h.6.2 q s e).2,aJ.red]
 refine fQ ?_
 rw[de,lg]
 have hk:=h.6.3 s (am e)
 have n:s.its.Nodup:=by rw[(h.6.2 q s e).1];exact aJ.uV (tN hk.2)
 refine lK ?_ (eE _ n)
 intro a b ha hb ne e2
 have a1:=bB.1 ha
 have b1:=bB.1 hb
 simp only[md,hN]at a1 b1
 have la:=oZ.yR (hG:=h.1) h.6 e a a1.1
 have lb:=oZ.yR (hG:=h.1) h.6 e b b1.1
 have dt:∀i,i<G.own.length->G.af i=none->G.dt i=(G.right (G.rl i)).length:=λi li ai=>
   bR (Nat.sub_le_iff_le_add'.2 (G.i9 li).2.2.2) (d8.1 ai)
 apply ne
 rw[←aJ.qw la,←aJ.qw lb,dt a la a1.2.1,dt b lb b1.2.1,e2]
theorem bN.qx (h:bN H u g G A LS SA S) {q:Nat} {s:cT} (e:S[q]?=some s):s.red.length≤5:=by
 exact aT (n:=5)▸bu (h.rq e) λr m=>a_.2 (h.mL e r m).2
end
section
noncomputable def qy (S:List cT) (m:Nat->Nat->Nat) (n k:Nat) (d:List (List Int×V)):Prop:=
 ∀(q:Nat) (s:cT) (j r:Nat),S[q]?=some s->s.red[j]?=some r->(q<n∨(q=n∧j<k))->eP [(q:Int),(r:Int)] d=some (vI (m q r))
theorem qy.zero {S m}:qy S m 0 0 []:=λq s j r _ _ c=>c.elim (λc=>absurd c (bc _)) λc=>absurd c.2 (bc _)
theorem qy.put {S m n k d} {s:cT} {r:Nat} (h:qy S m n k d) (e:S[n]?=some s) (hr:s.red[k]?=some r) (nd:s.red.Nodup):qy S m n (k+1) (dput [(n:Int),(r:Int)] (vI (m n r)) d):=by
 intro q t j x e1 e2 c
 rw[uY]
 by_cases z:[(n:Int),(r:Int)]=[(q:Int),(x:Int)]
 ·rw[if_pos z]
  have z1:=a8.1 (bC z).1
  have z2:=a8.1 (bC (bC z).2).1
  rw[z1,z2]
 ·rw[if_neg z]
  refine h q t j x e1 e2 ?_
  exact c.imp id λc=>⟨c.1,iI (bE c.2) λe3=>z (by
   cases e.symm.trans (c.1▸e1);cases hr.symm.trans (e3▸e2);rw[c.1])⟩
theorem qy.next {S m n d} {s:cT} (h:qy S m n s.red.length d) (e:S[n]?=some s):qy S m (n+1) 0 d:=by
 intro q t j x e1 e2 c
 refine h q t j x e1 e2 ?_
 refine c.elim (λc=>(ba.1 c).imp id λc=>⟨c,?_⟩) λc=>absurd c.2 (bc _)
 cases e.symm.trans (c▸e1);exact(ah.1 e2).1
inductive Fz (H:Hp) (M:Nat) (S:List cT) (m:Nat->Nat->Nat) (d:List (List Int×V)):Prop
 |mk (at_:H[M]?=some (.bX d)) (get:∀(q:Nat) s r,S[q]?=some s->r∈s.red->eP [(q:Int),(r:Int)] d=some (vI (m q r)))
theorem qy.all {S m d} (h:qy S m S.length 0 d) (q:Nat) (s:cT) (r:Nat) (e:S[q]?=some s) (mr:r∈s.red):eP [(q:Int),(r:Int)] d=some (vI (m q r)):=by
 obtain⟨j,hj⟩:=aP mr
 exact h q s j r e hj (.inl (ah.1 e).1)
variable {H:Hp} {u g LS:Nat} {G:aJ} {A:GA} {SA:List Nat} {S:List cT} {R:Prop}
theorem vV (h:bN H u g G A LS SA S)
  (q:∀M fs ws d H',JR 16 [.ref u] H (.ref M) H'->H[M]?=none->Ext H H'->G2 G fs->J9 G fs ws->Fz H' M S (λ_ r=>ws.getD (G.left r) 0) d->R):R:=by
 refine dc 16 [.ref u] H rfl rfl (L:=[some (.ref u),none,none,none,none]) rfl λQ q'=>?_
 refine si h.1 λW fs ws H1 j fW gW eW f1 f2=>.set (.call (.av (.attr (.var rfl) h.2 rfl rfl) .bm) j) ?_
 refine lS λM H2 j fM gM eM=>.set j ?_
 have h2:=(h.ext eW).ext eM
 have nM:∀{b:Nat} {o:O},H1[b]?=some o->b∉[M]:=λk=>yM fM k
 have gW2:=eM _ _ gW
 refine .sg (λ_ (t:Option V×Option V×List (List Int×V))=>[some (.ref u),some (.ref W),some (.ref M),t.1,t.2.1]) (λn t H'=>eH [M] H2 H'∧H'[M]?=some (.bX t.2.2)∧qy S (λ_ r=>ws.getD (G.left r) 0) n 0 t.2.2∧t.2.2.length≤5*n) (none,none,[])
  (.pF (.attr (.var rfl) h2.2 rfl rfl) (.list h2.3) (by rw[ae,h2.4];exact aj h.6.5 (by decide))) ⟨.r,gM,qy.zero,bw _⟩ (λt=>t.1 _ _ (nM (eW _ _ h.3)) h2.3) ?_ ?_
 ·intro n a t H3 K ha h3 cq _
  obtain⟨x3,x4,d⟩:=t
  obtain⟨x,gM3,mk,dl⟩:=h3
  refine(h.ext eW).at_ ha λs ia ma ra e st=>?_
  have e3:Ext H1 H3:=x.new fM eM
  have zn:n<S.length:=(ah.1 e).1
  have rl:=h.qx e
  refine .jW (λ_ (t:Option V×List (List Int×V))=>[some (.ref u),some (.ref W),some (.ref M),some (.ref a),t.1]) (λk t H'=>eH [M] H3 H'∧H'[M]?=some (.bX t.2)∧qy S (λ_ r=>ws.getD (G.left r) 0) n k t.2∧t.2.length≤5*n+k) (x4,d)
   (.d3 (.attr (.var rfl) (e3 _ _ st.1) rfl rfl) (e3 _ _ st.4) (by rw[aW];exact aj rl (by decide))) ⟨.r,gM3,mk,dl⟩ (λt=>t.1 _ _ (nM st.4) (e3 _ _ st.4)) ?_ ?_
  ·intro k r t H4 K hr h4 cq _
   obtain⟨y4,d⟩:=t
   obtain⟨x4,IP,mk,dl⟩:=h4
   have e4:Ext H1 H4:=(x.trans x4).new fM eM
   have r5:=(h.mL e r (am hr)).2
   have kl:=(ah.1 hr).1
   refine(h.1.ext eW).at_ r5 λar ru r1 r2 r3 r4 _=>?_
   have l8:=iF.jV h.1.13 r5
   have gl:=cR (getD_at (d:=0) (f2.1.symm▸l8:G.left r<ws.length))
   have zz:=h.6.5
   refine .br (.idx (.var rfl) (.attr (.idx (.attr (.attr (.var rfl) (e4 _ _ (eW _ _ h.2)) rfl rfl) (e4 _ _ (eW _ _ h.1.1)) rfl rfl) (.var rfl) (.nat (e4 _ _ (eW _ _ h.1.2)) (dB r1))) (e4 _ _ r3) rfl rfl) (.nat (e4 _ _ gW) (r4▸gl))) (.var rfl)
    (.tup (.av (.attr (.var rfl) (e4 _ _ st.1) rfl rfl) (.av (.var rfl) .bm)) (ic _ rfl)) (.bX (k:=[(n:Int),(r:Int)]) IP (ax dl ?_)) (.nil (cq (some (.int r),_) rfl ⟨x4.set (ak.2 rfl),dq IP,mk.put e hr (h.rq e),aj (tP _ _ _) (aM dl)⟩))
   exact aw (gJ (bF 5 (aj (aI zn) zz)) (aw kl rl)) (by decide)
  ·intro t H4 h4
   exact .nil (cq (some (.ref a),t.1,t.2) rfl ⟨x.trans h4.1,h4.2.1,h4.2.2.1.next e,aj h4.2.2.2 (bP rl _)⟩)
 ·intro t H3 h3
  exact .ret (.var rfl) (q' λj=>q M fs ws t.2.2 H3 j (eW.none fM) (eW.trans (h3.1.new fM eM)) f1 f2 ⟨h3.2.1,qy.all (h.4▸h3.2.2.1)⟩)
end
section
noncomputable def Kl (l:Nat) (f:Option Nat) (rows:List Nat):List Nat:=f.elim rows λs=>rows.set l (rows.getD l 0|||1<<<s)
noncomputable def IQ (f1 f2 f3 f4:Option Nat):List Nat:=Kl 7 f4 (Kl 7 f3 (Kl 6 f2 (Kl 6 f1 (Kl 5 (some 6) (List.replicate 8 0)))))
noncomputable def Nb (rows:List Nat):Bool:=(List.range 8).all λs=>rows.getD s 0|||(tr rows).getD s 0==(tr rows).getD s 0&&
 (List.range 8).all λD=>!((tr rows).getD s 0).testBit D||rows.getD D 0|||(tr rows).getD s 0==(tr rows).getD s 0
theorem Hd:([3,4,7].map some|>.all λf1=>(none::[3,4,6,7].map some).all λf2=>(none::[3,4].map some).all λf3=>(none::[3,4,6,7].map some).all λf4=>Nb (IQ f1 f2 f3 f4))=true:=by decide+kernel
noncomputable def Km (G:aJ) (n s D:Nat):Prop:=∃r w,r<n∧G.left r=s∧G.right r=D::w
noncomputable def Ld (G:aJ) (s D:Nat):Prop:=Km G 5 s D
inductive FB (G:aJ):Nat->Nat->Prop
 |one {s D:Nat} (h:Ld G s D):FB G s D
 |more {s D E:Nat} (h:FB G s D) (k:Ld G D E):FB G s E
theorem FB.trans {G:aJ} {a b c:Nat} (h:FB G a b) (k:FB G b c):FB G a c:=by
 induction k with
 |one k=>exact .more h k
 |more _ k ih=>exact .more ih k
theorem Kn {P:Nat->Nat->Prop} (t:∀a b c,P a b->P b c->P a c) {l:List Nat} (h:∀s D,(l.getD s 0).testBit D=true->P s D) (l8:l.length=8):∀s D,((tr l).getD s 0).testBit D=true->P s D:=by
 have A:∀m l i,l.length=8->i<8->(∀s D,(l.getD s 0).testBit D=true->P s D)->∀s D,((yK m l i).getD s 0).testBit D=true->P s D:=λm l i e z h s D k=>by
  unfold yK at k
  cases c:(l.getD i 0).testBit m
  ·rw[c]at k;exact h s D k
  ·rw[c]at k
   replace k:((l.set i (l.getD i 0|||l.getD m 0)).getD s 0).testBit D=true:=k
   rw[qq (e.symm▸z)]at k;split at k
   ·next es=>
    subst es
    rw[bY,fO]at k
    exact k.elim (h s D) λk=>t s m D (h s m c) (h m D k)
   ·exact h s D k
 have B:∀m l n,l.length=8->(∀s D,(l.getD s 0).testBit D=true->P s D)->n≤8->∀s D,(((List.range n).foldl (yK m) l).getD s 0).testBit D=true->P s D:=λm l n e h=>by
  induction n with
  |zero=>exact λ_=>h
  |succ n ih=>intro z;rw[d_];exact A _ _ _ (by rw[qr,e]) z (ih (cv z))
 have C:∀n,∀s D,(((List.range n).foldl G4 l).getD s 0).testBit D=true->P s D:=λn=>by
  induction n with
  |zero=>exact h
  |succ n ih=>rw[d_];exact B _ _ 8 (by rw[oN,l8]) ih (aC _)
 exact C 8
variable {G:aJ} {A:GA} {g:Nat} {H:Hp}
theorem Ko (l:List Nat) (r:Nat):G.Fy l r=Kl (G.left r) (G.right r).head? l:=by
 cases e:G.right r with
 |nil=>exact xf e
 |cons s w=>exact xh e
theorem vW (o:G.Ok) {r:Nat} (h:r<5):G.left r=if r=0 then 5 else if r<3 then 6 else 7:=by
 have e:=ao (l:=G.rules) (i:=r) (o.1.symm▸h)
 have:=o.2 r _ e
 rw[aJ.left,e];exact this
theorem qz {r:Nat} {x:Ru} (e:G.rules[r]?=some x):G.right r=x.right:=by rw[aJ.right,e];rfl
theorem Kp (o:G.Ok):G.xc 5=IQ (G.right 1).head? (G.right 2).head? (G.right 3).head? (G.right 4).head?:=by
 have r0:(G.right 0).head?=some 6:=by
  have e:=ao (l:=G.rules) (i:=0) (o.1.symm▸by decide)
  rw[qz e,show(G.rules[0]'_).right=[6,0] from ay ((congrArg (Option.map _) e).symm.trans o.4)];rfl
 have A:∀l r k,r<5->(if r=0 then 5 else if r<3 then 6 else 7)=k->G.Fy l r=Kl k (G.right r).head? l:=λl r k z e=>by rw[Ko,vW o z,e]
 refine(A _ 4 7 (by decide) rfl).trans (congrArg _ ((A _ 3 7 (by decide) rfl).trans (congrArg _ ((A _ 2 6 (by decide) rfl).trans (congrArg _ ((A _ 1 6 (by decide) rfl).trans (congrArg _ ((A _ 0 5 (by decide) rfl).trans (by rw[r0])))))))))
theorem Eu {w l:List Nat} (h:∀a∈w,a∈l):w.head?∈none::l.map some:=by
 cases w with
 |nil=>exact .head _
 |cons a w=>exact .tail _ (aA.2 ⟨a,h a (.head _),rfl⟩)
theorem Nc {a b c d s:Nat} (h:s=a∨s=b∨s=c∨s=d):s∈[a,b,c,d]:=aH.2 (h.imp id λh=>aH.2 (h.imp id λh=>aH.2 (h.imp id ak.2)))
theorem Ev (o:G.Ok):Nb (G.xc 5)=true:=by
 have at_:∀r,r<5->∃x,G.rules[r]?=some x∧G.right r=x.right:=λr h=>⟨_,ao (o.1.symm▸h),qz (ao (o.1.symm▸h))⟩
 have any:∀r,0<r->r<5->(G.right r).head?∈none::[3,4,6,7].map some:=λr z h=>(at_ r h).elim λx q=>q.2▸Eu λa m=>Nc (o.5 r x q.1 z a m)
 have h1:(G.right 1).head?∈[3,4,7].map some:=(at_ 1 (by decide)).elim λx q=>(o.6 x q.1).elim λs w=>w.elim λl w=>by
  rw[q.2,w.1]
  have:=o.5 1 x q.1 (by decide) s (w.1▸ .head _)
  exact aA.2 ⟨s,aH.2 (this.imp id λk=>aH.2 (k.imp id λk=>k.elim (λk=>(w.2 k).elim) ak.2)),rfl⟩
 have h3:(G.right 3).head?∈none::[3,4].map some:=(at_ 3 (by decide)).elim λx q=>q.2▸Eu λa m=>aH.2 ((o.7 x q.1 a m).imp id ak.2)
 rw[Kp o]
 exact bt.1 (bt.1 (bt.1 (bt.1 Hd _ h1) _ (any 2 (by decide) (by decide))) _ h3) _ (any 4 (by decide) (by decide))
theorem Ew {a b D:Nat} (e:a|||b=b) (h:a.testBit D=true):b.testBit D=true:=by rw[←e,bY,h];rfl
theorem Nd (o:G.Ok) {s D:Nat} (z:s<8) (h:((G.xc 5).getD s 0).testBit D=true):(G.B9.getD s 0).testBit D=true:=
 Ew (beq_iff_eq.1 (gz.1 (bt.1 (Ev o) s (a_.2 z))).1) h
theorem Nf (o:G.Ok) {s D E:Nat} (z:s<8) (zD:D<8) (h:(G.B9.getD s 0).testBit D=true) (k:((G.xc 5).getD D 0).testBit E=true):(G.B9.getD s 0).testBit E=true:=by
 have:=bt.1 (gz.1 (bt.1 (Ev o) s (a_.2 z))).2 D (a_.2 zD)
 exact((fO ..).mp this).elim (λc=>ff ((iP _|>.mp c).symm.trans h)) λc=>Ew (beq_iff_eq.1 c) k
theorem Ex {n k:Nat}:(List.replicate n 0).getD k 0=0:=by
 rw[aF,c_];by_cases z:k<n
 ·rw[if_pos z];rfl
 ·rw[if_neg z];rfl
theorem Km.succ {n s D:Nat}:Km G (n+1) s D↔Km G n s D∨G.left n=s∧∃w,G.right n=D::w:=
 ⟨λh=>h.elim λr q=>q.elim λw q=>(ba.1 q.1).elim (λk=>.inl ⟨r,w,k,q.2⟩) λk=>.inr (k▸⟨q.2.1,w,q.2.2⟩),
  λh=>h.elim (λh=>h.elim λr q=>q.elim λw q=>⟨r,w,eo q.1,q.2⟩) λh=>h.2.elim λw q=>⟨n,w,bW _,h.1,q⟩⟩
theorem Ao (hG:cg H g G A) (s D n:Nat) (zn:n≤5):((G.xc n).getD s 0).testBit D=true↔Km G n s D:=by
 induction n with
 |zero=>exact⟨λh=>ff ((show(((List.replicate 8 0).getD s 0).testBit D)=false by rw[Ex,je]).symm.trans h),λh=>h.elim λr h=>h.elim λw h=>absurd h.1 (bc _)⟩
 |succ n ih=>
  refine Iff.trans ?_ Km.succ.symm
  rw[show G.xc (n+1)=G.Fy (G.xc n) n from d_ _ _ _,←ih (cv zn)]
  cases c:G.right n with
  |nil=>rw[xf c];exact⟨.inl,λh=>h.elim id λh=>h.2.elim λw q=>absurd q (jg _ _).symm⟩
  |cons a v=>
   rw[xh c,qq (by rw[mJ];exact iF.jV hG.13 zn)]
   by_cases e:s=G.left n
   ·rw[if_pos e,←e,bY,fO,gh,pk,decide_eq_true_eq]
    exact or_congr qJ ⟨λh=>⟨rfl,v,h▸rfl⟩,λh=>h.2.elim λw q=>(bC q).1⟩
   ·rw[if_neg e];exact⟨.inl,λh=>h.elim id λh=>absurd h.1.symm e⟩
theorem Ng (hG:cg H g G A) {s D:Nat} (h:(G.B9.getD s 0).testBit D=true):FB G s D:=
 Kn (P:=FB G) (λ_ _ _ a b=>a.trans b) (λs D h=>.one ((Ao hG s D 5 (aC _)).1 h)) (mJ 5) s D h
theorem Ap {α:Type} {a:α} {l:List α} {p:α->Prop}:(∃x,x∈a::l∧p x)↔p a∨∃x,x∈l∧p x:=
 ⟨λh=>h.elim λx q=>(aH.1 q.1).elim (λe=>.inl (e▸q.2)) λm=>.inr ⟨x,m,q.2⟩,λh=>h.elim (λh=>⟨a,.head _,h⟩) λh=>h.elim λx q=>⟨x,.tail _ q.1,q.2⟩⟩
noncomputable def Wn (G:aJ) (D i:Nat):Prop:=∃s,G.af i=some s∧(D=s∨(G.B9.getD s 0).testBit D=true)
theorem yS (ker:List Nat) (D:Nat):(G.wn ker).testBit D=true↔∃i∈ker,Wn G D i:=by
 have step:∀m i,(G.G7 m i).testBit D=true↔m.testBit D=true∨Wn G D i:=λm i=>by
  unfold Wn
  cases e:G.af i with
  |none=>rw[Ea e];exact⟨.inl,λh=>h.elim id λh=>h.elim λs q=>absurd q.1.symm (o6 s)⟩
  |some s=>
   rw[Eb e,bY,bY,fO,fO,gh,pk,decide_eq_true_eq,or_assoc]
   exact or_congr qJ ⟨λh=>⟨s,rfl,h.imp cr id⟩,λh=>h.elim λs' q=>(ay q.1).symm▸q.2.imp cr id⟩
 have A:∀(l:List Nat) m,(l.foldl G.G7 m).testBit D=true↔m.testBit D=true∨∃i∈l,Wn G D i:=λl=>by
  induction l with
  |nil=>exact λm=>⟨.inl,λh=>h.elim id λh=>h.elim λi q=>absurd q.1 aR⟩
  |cons i l ih=>exact λm=>(ih _).trans ((or_congr (step m i) qJ).trans (or_assoc.trans (or_congr qJ Ap.symm)))
 exact(A ker 0).trans ⟨λh=>h.elim (λh=>ff ((je D).symm.trans h)) id,.inr⟩
inductive yT (G:aJ) (ker:List Nat):Nat->Prop
 |ker {i:Nat} (h:i∈ker):yT G ker i
 |cl {i r:Nat} (h:yT G ker i) (e:G.af i=some (G.left r)) (z:r<5):yT G ker (G.off r)
namespace aJ
theorem rP (o:G.Ok) {r:Nat} (z:r<5):G.off r<G.own.length∧G.rl (G.off r)=r∧G.dt (G.off r)=0:=by
 have z':r<G.rules.length:=o.1▸z
 exact⟨sE (d:=0) z' (bw _),kY (d:=0) z' (bw _),sD (d:=0) z' (bw _)⟩
theorem kZ {ker:List Nat} {i:Nat}:i∈G.cls ker↔i∈ker∨i∈G.adds ker:=by rw[cls,aE,dL,dL]
theorem qA (o:G.Ok) {ker:List Nat} {i:Nat}:i∈G.adds ker↔∃r,r<5∧G.off r=i∧(G.wn ker).testBit (G.left r)=true∧i∉ker:=by
 refine jf.trans ⟨λh=>h.elim λs q=>(kw.1 q.2).1.elim λr w=>?_,λh=>h.elim λr q=>?_⟩
 ·have:G.left r=s:=congrArg (λo:Option Nat=>o.getD 0) w.2.1
  exact⟨r,o.1▸w.1,w.2.2,this.symm▸eO.1 q.1,(kw.1 q.2).2⟩
 ·have z':r<G.rules.length:=o.1▸q.1
  exact⟨G.left r,eO.2 q.2.2.1,kw.2 ⟨⟨r,z',by rw[left,ao z'];rfl,q.2.1⟩,q.2.2.2⟩⟩
theorem af0 {r s:Nat} (h:G.off r<G.own.length∧G.rl (G.off r)=r∧G.dt (G.off r)=0) (e:G.af (G.off r)=some s):∃v,G.right r=s::v:=by
 rw[af,h.2.1,h.2.2]at e
 cases c:G.right r with
 |nil=>rw[c]at e;exact c7 rfl e
 |cons a w=>rw[c]at e;exact⟨w,congrArg (· ::w) (ay e)⟩
theorem Aq (hG:cg H g G A) {ker:List Nat} {i r:Nat} (hi:i∈G.cls ker) (e:G.af i=some (G.left r)) (z:r<5):G.off r∈G.cls ker:=by
 have b:(G.wn ker).testBit (G.left r)=true:=(yS ..).2<|(kZ.1 hi).elim (λm=>⟨i,m,_,e,.inl rfl⟩) λm=>((qA hG.13).1 m).elim λq w=>
  ((yS ker _).1 w.2.2.1).elim λk v=>v.2.elim λs u=>by
   have I:=rP hG.13 w.1
   have row:Km G 5 (G.left q) (G.left r):=(af0 I (w.2.1▸e)).elim λv f=>⟨q,v,w.1,rfl,f⟩
   have row:=(Ao hG _ _ 5 (aC _)).2 row
   have s8:=xo hG u.1
   exact⟨k,v.1,s,u.1,.inr (u.2.elim (λc=>Nd hG.13 s8 (c▸row)) λc=>Nf hG.13 s8 (iF.jV hG.13 w.1) c row)⟩
 by_cases m:G.off r∈ker
 ·exact kZ.2 (.inl m)
 ·exact kZ.2 (.inr ((qA hG.13).2 ⟨r,z,rfl,b,m⟩))
theorem Ar (hG:cg H g G A) {ker:List Nat} {i:Nat} (hi:i∈G.cls ker):yT G ker i:=by
 have step:∀{j s D},yT G ker j->G.af j=some s->Ld G s D->∃j',yT G ker j'∧G.af j'=some D:=λd e l=>l.elim λp l=>l.elim λw l=>
  ⟨G.off p,.cl d (l.2.1▸e) l.1,by rw[af,(rP hG.13 l.1).2.1,(rP hG.13 l.1).2.2,l.2.2];rfl⟩
 have A:∀{s D},FB G s D->∀j,yT G ker j->G.af j=some s->∃j',yT G ker j'∧G.af j'=some D:=λL=>by
  induction L with
  |one h=>exact λj d e=>step d e h
  |more _ h ih=>exact λj d e=>(ih j d e).elim λj q=>step q.1 q.2 h
 exact(kZ.1 hi).elim .ker λm=>((qA hG.13).1 m).elim λq w=>((yS ker _).1 w.2.2.1).elim λk v=>v.2.elim λs u=>w.2.1▸(show yT G ker (G.off q) from
  u.2.elim (λc=>.cl (.ker v.1) (c▸u.1) w.1) λc=>(A (Ng hG c) k (.ker v.1) u.1).elim λj q=>.cl q.1 q.2 w.1)
theorem He (hG:cg H g G A) {ker:List Nat} {i:Nat} (h:yT G ker i):i∈G.cls ker:=by
 induction h with
 |ker m=>exact kZ.2 (.inl m)
 |cl _ e z ih=>exact Aq hG ih e z
theorem As (hG:cg H g G A) {ker:List Nat} {i:Nat} (hi:i∈G.cls ker):i∈ker∨G.dt i=0:=
 (kZ.1 hi).imp id λm=>((qA hG.13).1 m).elim λq w=>(congrArg G.dt w.2.1).symm.trans (rP hG.13 w.1).2.2
end aJ
noncomputable def It (S:List cT) (q i:Nat):Prop:=∃s,S[q]?=some s∧i∈s.its
noncomputable def Mv (S:List cT) (q X p:Nat):Prop:=∃s,S[q]?=some s∧(X,p)∈s.mv
section
variable {S:List cT} {q X p i:Nat}
theorem It.at {s:cT} (k:It S q i) (e:S[q]?=some s):i∈s.its:=k.elim λs' w=>ay (w.1.symm.trans e)▸w.2
theorem It.lt (hG:cg H g G A) (h:oZ G S) (k:It S q i):i<G.own.length:=
 k.elim λs w=>aJ.yO hG (h.3 s (am w.1)).1 i ((h.2 q s w.1).1▸w.2)
theorem It.mv (hG:cg H g G A) (h:oZ G S) (k:It S q i) (e:G.af i=some X):∃p,Mv S q X p:=by
 obtain⟨s,e1,m⟩:=k
 have:X∈s.mv.map (·.1):=by rw[(h.2 q s e1).3];exact dL.2 (aJ.oh.2 ⟨i,m,e⟩)
 obtain⟨⟨_,p⟩,m2,rfl⟩:=aA.1 this
 exact⟨p,s,e1,m2⟩
theorem Mv.ker (h:oZ G S) (k:Mv S q X p):∃s t,S[q]?=some s∧S[p]?=some t∧t.ker=jX (G.hV s.its X):=by
 obtain⟨s,e,m⟩:=k
 obtain⟨t,a,b⟩:=(h.2 q s e).4 _ m
 exact⟨s,t,e,a,b⟩
theorem tQ {its:List Nat}:i∈G.hV its X↔∃j∈its,G.af j=some X∧j+1=i:=by
 rw[aJ.hV,aA]
 simp only[bB,beq_iff_eq,and_assoc]
theorem It.next (h:oZ G S) (k:It S q i) (e:G.af i=some X) (m:Mv S q X p):It S p (i+1):=
 (m.ker h).elim λs w=>w.elim λt w=>⟨t,w.2.1,by rw[(h.2 p t w.2.1).1,aJ.kZ,w.2.2];exact .inl (dL.2 (tQ.2 ⟨i,k.at w.1,e,rfl⟩))⟩
theorem It.prev (hG:cg H g G A) (h:oZ G S) (k:It S p i) (d:G.dt i≠0) (m:Mv S q X p):∃j,It S q j∧j+1=i∧G.af j=some X:=
 (m.ker h).elim λs w=>w.elim λt w=>by
  have mi:=k.at w.2.1
  rw[(h.2 p t w.2.1).1]at mi
  exact(aJ.As hG mi).elim (λc=>(tQ.1 (dL.1 (w.2.2▸c))).elim λj v=>⟨j,⟨s,w.1,v.1⟩,v.2.2,v.2.1⟩) λc=>(d c).elim
theorem It.close (hG:cg H g G A) (h:oZ G S) (k:It S q i) {r:Nat} (e:G.af i=some (G.left r)) (z:r<5):It S q (G.off r):=
 k.elim λs w=>⟨s,w.1,by rw[(h.2 q s w.1).1];exact aJ.Aq hG ((h.2 q s w.1).1▸w.2) e z⟩
theorem Mv.it (h:oZ G S) (k:Mv S q X p):∃i,It S q i∧G.af i=some X:=by
 obtain⟨s,e,m⟩:=k
 have:X∈s.mv.map (·.1):=aA.2 ⟨_,m,rfl⟩
 rw[(h.2 q s e).3]at this
 obtain⟨i,a,b⟩:=aJ.oh.1 (dL.1 this)
 exact⟨i,⟨s,e,a⟩,b⟩
theorem Mv.det (h:oZ G S) {p':Nat} (a:Mv S q X p) (b:Mv S q X p'):p=p':=a.elim λs w=>b.elim λs' w'=>by
 have nd:(s.mv.map (·.1)).Nodup:=by rw[(h.2 q s w.1).3];exact fQ (aJ.fj _)
 exact congrArg (·.2) (iN (f:=(·.1)) nd w.2 (q:=(X,p')) ((ay (w'.1.symm.trans w.1):s'=s)▸w'.2) rfl)
inductive Walk (S:List cT):Nat->List Nat->Nat->Prop
 |nil (q:Nat):Walk S q [] q
 |snoc {q p t:Nat} {w:List Nat} {X:Nat} (h:Walk S q w p) (m:Mv S p X t):Walk S q (w++[X]) t
theorem rt (hG:cg H g G A) {r n:Nat} (z:r<5) (h:n≤(G.right r).length):G.af (G.off r+n)=(G.right r)[n]?:=by
 rw[aJ.af,aJ.kY (hG.13.1▸z) h,aJ.sD (hG.13.1▸z) h]
theorem Bw (hG:cg H g G A) (h:oZ G S) {r:Nat} (z:r<5) (k:It S q (G.off r)):∀n,n≤(G.right r).length->∃p,Walk S q ((G.right r).take n) p∧It S p (G.off r+n):=by
 intro n;induction n with
 |zero=>exact λ_=>⟨q,.nil q,k⟩
 |succ n ih=>
  exact λhn=>(ih (cv hn)).elim λp w=>by
   have e:=ao hn
   have a:=(rt hG z (cv hn)).trans e
   exact(w.2.mv hG h a).elim λt m=>⟨t,by rw[aV,e];exact w.1.snoc m,w.2.next h a m⟩
theorem tR (h:oZ G S) {r:Nat} {s:cT} (e:S[q]?=some s):r∈s.red↔∃i,It S q i∧G.af i=none∧G.rl i≠0∧G.rl i=r:=by
 rw[(h.2 q s e).2,aJ.An]
 exact⟨λh=>h.imp λi w=>⟨⟨s,e,w.1⟩,w.2⟩,λh=>h.imp λi w=>⟨w.1.at e,w.2⟩⟩
end
end
section
variable {G:aJ} {A:GA} {g:Nat} {H:Hp} {S:List cT}
inductive jr (S:List cT):List Nat->Prop
 |base:jr S [0]
 |push {q X p:Nat} {st:List Nat} (h:jr S (q::st)) (m:Mv S q X p):jr S (p::q::st)
theorem jr.E {R:Prop} {p:Nat} {st:List Nat} (k:jr S (p::st)) (h0:p=0->R) (h1:∀q X dw,st=q::dw->jr S (q::dw)->Mv S q X p->R):R:=by
 generalize e:p::st=l at k
 cases k with
 |base=>exact h0 (bC e).1
 |push h m=>exact h1 _ _ _ (bC e).2 h ((bC e).1▸m)
inductive PM (G:aJ) (S:List cT) (r:Nat) (st lE:List Nat):Prop
 |mk (red:∃q lD s,st=q::lD∧S[q]?=some s∧r∈s.red) (res:∃p dw p2,st.drop (G.right r).length=p::dw∧Mv S p (G.left r) p2∧lE=p2::p::dw)
theorem yU (h:oZ G S) {s:cT} (e:S[0]?=some s):s.ker=[0]:=h.1.elim λs' w=>ay (w.1.symm.trans e)▸w.2
theorem It.zero (hG:cg H g G A) (h:oZ G S) {i:Nat} (k:It S 0 i):G.dt i=0:=k.elim λs q=>by
 have m:=q.2
 rw[(h.2 0 s q.1).1,yU h q.1]at m
 exact(aJ.As hG m).elim (λc=>(congrArg G.dt (ak.1 c)).trans (Nat.zero_sub _)) id
theorem Mv.Hf (hG:cg H g G A) (h:oZ G S) {q X p:Nat} (m:Mv S q X p) {t:cT} (e:S[p]?=some t) {i:Nat} (mi:i∈t.ker):G.dt i≠0:=(m.ker h).elim λs w=>w.elim λt' w=>by
 rw[ay (e.symm.trans w.2.1),w.2.2]at mi
 exact(tQ.1 (dL.1 mi)).elim λj v=>v.2.2▸(aJ.Al (It.lt hG h ⟨s,w.1,v.1⟩) v.2.1).2.2▸cM _
theorem Au (hG:cg H g G A) {r r':Nat} (z:r<5) (z':r'<5) (e:G.off r'=G.off r):r'=r:=
 (aJ.rP hG.13 z').2.1.symm.trans ((congrArg G.rl e).trans (aJ.rP hG.13 z).2.1)
theorem jr.cause (hG:cg H g G A) (h:oZ G S) {p:Nat} {st:List Nat} (k:jr S (p::st)) {s:cT} (e:S[p]?=some s) {r:Nat} (z:r<5) (z0:0<r):G.off r∉s.ker:=λm=>
 k.E (λp0=>du z0 (Au hG (by decide) z (ak.1 (yU h (p0▸e)▸m)))) λq X dw _ _ mv=>mv.Hf hG h e m (aJ.rP hG.13 z).2.2
theorem yT.E {ker:List Nat} {x:Nat} {R:Prop} (d:yT G ker x) (h0:x∈ker->R) (h1:∀i r,yT G ker i->G.af i=some (G.left r)->r<5->G.off r=x->R):R:=by
 cases d with
 |ker m=>exact h0 m
 |cl d e z=>exact h1 _ _ d e z rfl
theorem It.call (hG:cg H g G A) (h:oZ G S) {p:Nat} {s:cT} (e:S[p]?=some s) {r:Nat} (z:r<5) (m:It S p (G.off r)) (n:G.off r∉s.ker):∃i,yT G s.ker i∧G.af i=some (G.left r):=
 (aJ.Ar hG ((h.2 p s e).1▸m.at e)).E (λm=>(n m).elim) λi r' d a z' x=>⟨i,d,Au hG z z' x▸a⟩
theorem jr.mv (hG:cg H g G A) (h:oZ G S) {p:Nat} {st:List Nat} (k:jr S (p::st)) {r:Nat} (z:r<5) (z0:0<r) (i:It S p (G.off r)):∃p2,Mv S p (G.left r) p2:=i.elim λs w=>
 (i.call hG h w.1 z (k.cause hG h w.1 z z0)).elim λj v=>It.mv hG h ⟨s,w.1,(h.2 p s w.1).1▸aJ.He hG v.1⟩ v.2
theorem jr.tC (hG:cg H g G A) (h:oZ G S) {q:Nat} {s:cT} (e:S[q]?=some s) {r:Nat} (m:r∈s.red):0<r∧r<5∧It S q (G.off r+(G.right r).length):=((tR h e).1 m).elim λi w=>by
 have il:=w.1.lt hG h
 have v:=G.i9 il
 have d:G.dt i=(G.right (G.rl i)).length:=bR (dx (dT .. ▸v.2.2.2)) (d8.1 w.2.1)
 rw[←w.2.2.2]
 refine⟨dK w.2.2.1,hG.13.1▸v.2.1,?_⟩
 rw[←d,aJ.qw il];exact w.1
theorem IR (hG:cg H g G A) {r n:Nat} (z:r<5) (hn:n+1≤(G.right r).length):G.dt (G.off r+(n+1))≠0:=λe=>cM n ((aJ.sD (hG.13.1▸z) hn).symm.trans e)
theorem It.back (hG:cg H g G A) (h:oZ G S) {q X p r n:Nat} (z:r<5) (hn:n+1≤(G.right r).length) (i:It S p (G.off r+(n+1))) (m:Mv S q X p):It S q (G.off r+n)∧(G.right r)[n]?=some X:=
 (i.prev hG h (IR hG z hn) m).elim λj w=>by
  have e:j=G.off r+n:=hB w.2.1
  exact⟨e▸w.1,(rt hG z (cv hn)).symm.trans (e▸w.2.2)⟩
theorem jr.pop (hG:cg H g G A) (h:oZ G S) {r:Nat} (z:r<5) {R:Prop} (n:Nat):∀q st,jr S (q::st)->It S q (G.off r+n)->n≤(G.right r).length->(∀p dw,(q::st).drop n=p::dw->jr S (p::dw)->Walk S p ((G.right r).take n) q->It S p (G.off r)->R)->R:=by
 induction n with
 |zero=>exact λq st k i _ R=>R q st rfl k (.nil q) i
 |succ n ih=>
  exact λq st k i hn R=>k.E (λe=>(IR hG z hn ((e▸i:It S 0 _).zero hG h)).elim) λq' X mK e k m=>by
   have w:=i.back hG h z hn m
   refine ih q' mK k w.1 (cv hn) λp dw a b c d=>R p dw ((congrArg (List.drop n) e).trans a) b ?_ d
   rw[aV,w.2];exact c.snoc m
theorem jr.red (hG:cg H g G A) (h:oZ G S) {q:Nat} {st:List Nat} (k:jr S (q::st)) {s:cT} (e:S[q]?=some s) {r:Nat} (m:r∈s.red) {R:Prop}
  (f:∀p dw p2,(q::st).drop (G.right r).length=p::dw->jr S (p::dw)->Walk S p (G.right r) q->It S p (G.off r)->Mv S p (G.left r) p2->R):R:=by
 have w:=jr.tC hG h e m
 refine k.pop hG h w.2.1 _ q st w.2.2 (aC _) λp dw a b c d=>(b.mv hG h w.2.1 w.1 d).elim λp2 m2=>f p dw p2 a b ?_ d m2
 rw[aN]at c;exact c
inductive Up (G:aJ) (S:List cT) (p A:Nat) (dw:List Nat):List Nat->List Nat->Prop
 |base {p1:Nat} (m:Mv S p A p1):Up G S p A dw (p1::p::dw) []
 |push {q C t:Nat} {st cs:List Nat} (h:Up G S p A dw (q::st) cs) (m:Mv S q C t) (n:B8 G C) (z:5≤C):Up G S p A dw (t::q::st) (cs++[C])
section
variable {p A' q:Nat} {dw st cs:List Nat}
theorem Up.E {R:Prop} (u:Up G S p A' dw (q::st) cs) (h0:st=p::dw->cs=[]->Mv S p A' q->R)
  (h1:∀q' C mK Nh,st=q'::mK->cs=Nh++[C]->Up G S p A' dw (q'::mK) Nh->Mv S q' C q->B8 G C->5≤C->R):R:=by
 generalize e:q::st=l at u
 cases u with
 |base m=>exact h0 (bC e).2 rfl ((bC e).1▸m)
 |push h m n z=>exact h1 _ _ _ _ (bC e).2 rfl h ((bC e).1▸m) n z
theorem Up.nul (h:Up G S p A' dw st cs):∀C∈cs,5≤C∧B8 G C:=by
 induction h with
 |base=>exact qo
 |push _ _ n z ih=>exact λC hC=>(aE.1 hC).elim (ih C) λk=>ak.1 k▸⟨z,n⟩
theorem Up.Og (h:Up G S p A' dw st cs):∃p1,Mv S p A' p1:=by
 induction h with
 |base m=>exact⟨_,m⟩
 |push _ _ _ _ ih=>exact ih
theorem Up.pop (hG:cg H g G A) (h:oZ G S) {r:Nat} (z:r<5) {R:Prop} (n:Nat):∀q st cs,Up G S p A' dw (q::st) cs->It S q (G.off r+n)->n≤(G.right r).length->
  (∀q2 lE yV,yV.length+n=cs.length->(∀C∈(G.right r).take n,B8 G C)->(q::st).drop n=q2::lE->Up G S p A' dw (q2::lE) yV->It S q2 (G.off r)->R)->
  (∀m,n=m+(cs.length+1)->(G.right r).take n=(G.right r).take m++A'::cs->It S p (G.off r+m)->(q::st).drop n=(p::dw).drop m->R)->R:=by
 induction n with
 |zero=>exact λq st cs k i _ k1 _=>k1 q st cs rfl qo rfl k i
 |succ n ih=>
  refine λq st cs k i hn k1 k2=>k.E (λe ec m=>?_) λq' C mK Nh e ec u m nC zC=>?_
  ·have w:=i.back hG h z hn m
   exact k2 n (by rw[ec];rfl) (by rw[ec,aV,w.2];rfl) w.1 (congrArg (List.drop n) e)
  ·have w:=i.back hG h z hn m
   have t:(G.right r).take (n+1)=(G.right r).take n++[C]:=by rw[aV,w.2];rfl
   have l:cs.length=Nh.length+1:=by rw[ec,aq];rfl
   refine ih q' mK Nh u w.1 (cv hn) (λq2 lE yV a b c d f=>k1 q2 lE yV (l▸congrArg (· +1) a) (λX hX=>(aE.1 (t▸hX)).elim (b X) λk=>ak.1 k▸nC) ((congrArg (List.drop n) e).trans c) d f)
    λm a b c d=>k2 m (l▸congrArg (· +1) a) ?_ c ((congrArg (List.drop n) e).trans d)
   rw[t,b,ec,bO];rfl
end
inductive Ey (G:aJ) (S:List cT) (F:Nat->Nat->Nat->Prop):Prop
 |mk (sh:∀p A dw q lD cs t x,5≤A->jr S (p::dw)->Up G S p A dw (q::lD) cs->Mv S q t x->t<5->F p A t) (inc:∀p' r a A b p t,0<r->r<5->It S p' (G.off r)->G.right r=a++A::b->5≤A->(∀C∈b,5≤C∧B8 G C)->Walk S p' a p->(∃p2,Mv S p' (G.left r) p2)->F p' (G.left r) t->F p A t)
theorem Ez (o:G.Ok) {r:Nat} (z:r<5):5≤G.left r:=vW o z▸(by decide:∀r<5,5≤if r=0 then 5 else if r<3 then 6 else 7) r z
inductive IS (G:aJ) (S:List cT) (e:List Nat):List Nat->Prop
 |nil:IS G S e e
 |cons {r:Nat} {st lE:List Nat} (h:PM G S r st lE) (k:IS G S e lE):IS G S e st
theorem Bx (hG:cg H g G A) (h:oZ G S) {F:Nat->Nat->Nat->Prop} (f:Ey G S F) {t:Nat} (zt:t<5) {q0 x:Nat} {Oh st:List Nat} (mv:Mv S q0 t x) (c:IS G S (q0::Oh) st):
  ∀p A' dw cs,5≤A'->jr S (p::dw)->Up G S p A' dw st cs->F p A' t:=by
 induction c with
 |nil=>exact λp A' dw cs z5 k u=>f.1 p A' dw _ _ cs t x z5 k u mv zt
 | @cons r st lE r0 _ ih=>
  refine λp A' dw cs z5 k u=>r0.1.elim λq a=>a.elim λlD a=>a.elim λs a=>r0.2.elim λp' b=>b.elim λKq b=>b.elim λp2 b=>?_
  have w:=jr.tC hG h a.2.1 a.2.2
  have n5:=Ez hG.13 w.2.1
  have e1:=(congrArg (List.drop _) a.1.symm).trans b.1
  refine(a.1▸u:Up G S p A' dw (q::lD) cs).pop hG h w.2.1 _ q lD cs w.2.2 (aC _) (λq2 lE yV _ c2 c3 c4 _=>?_) λm em c2 c3 c4=>?_
  ·have e:=bC (e1.symm.trans c3)
   rw[aN]at c2
   exact ih p A' dw (yV++[G.left r]) z5 k (b.2.2▸ .push (e.1▸e.2▸c4) b.2.1 (.mk _ w.2.1 c2) n5)
  ·rw[aN]at c2
   refine k.pop hG h w.2.1 m p dw c3 (em▸bx ..) λy st3 f1 f2 f3 f4=>?_
   have e:=bC (f1.symm.trans (c4.symm.trans e1))
   exact f.2 p' r _ A' cs p t w.1 w.2.1 (e.1▸f4) c2 z5 u.nul (e.1▸f3) ⟨_,b.2.1⟩ (ih p' (G.left r) Kq [] n5 (e.1▸e.2▸f2) (b.2.2▸ .base b.2.1))
end
section
variable {G:aJ} {A:GA} {g:Nat} {H:Hp} {S:List cT}
theorem Up.cause (hG:cg H g G A) (h:oZ G S) {p A' q:Nat} {dw lD cs:List Nat} (u:Up G S p A' dw (q::lD) cs) {s:cT} (e:S[q]?=some s):∀i∈s.ker,G.dt i≠0:=λi mi=>
 u.E (λ_ _ m=>m.Hf hG h e mi) λ_ _ _ _ _ _ _ m _ _=>m.Hf hG h e mi
theorem yW {α:Type} {a b:List α} {x:α}:(a++x::b)[a.length]?=some x:=by rw[aX (aC _),ez];rfl
theorem tS {α:Type} {a b:List α} {x:α}:(a++x::b).drop (a.length+1)=b:=by
 rw[List.append_cons,show a.length+1=(a++[x]).length from(aq (bs:=[x])).symm,List.drop_left]
theorem Kr (hG:cg H g G A) (h:oZ G S) {fs ws:List Nat} (f1:G2 G fs) (f2:J9 G fs ws) {p A' t:Nat} {dw:List Nat} (z5:5≤A') (k:jr S (p::dw)) (n:Nat):
  ∀q lD cs s,cs.length≤n->Up G S p A' dw (q::lD) cs->S[q]?=some s->∀i,yT G s.ker i->∀Y,G.af i=some Y->(fs.getD Y 0).testBit t=true->(ws.getD A' 0).testBit t=true:=by
 induction n using Nat.strongRecOn with
 |_ n ihn=>
 intro q lD cs s hn u e i d
 induction d with
 | @cl i r d ei z ih=>
  exact λY eY hY=>ih (G.left r) ei (f1.4 r z 0 Y ((rt hG z (bw _)).symm.trans eY) qo t hY)
 | @ker i mi=>
  intro Y eY hY
  have il:=(h.3 s (am e)).1 i mi
  have w:=G.i9 il
  have rz:G.rl i<5:=hG.13.1▸w.2.1
  have ie:=aJ.qw il
  have it:It S q (G.off (G.rl i)+G.dt i):=by rw[ie];exact⟨s,e,by rw[(h.2 q s e).1];exact aJ.kZ.2 (.inl mi)⟩
  have dl:G.dt i≤(G.right (G.rl i)).length:=dx (dT .. ▸w.2.2.2)
  refine u.pop hG h rz _ q lD cs it dl (λq2 lE yV c1 c2 _ c4 c5=>c5.elim λs2 v=>?_) λm em c2 _ _=>?_
  ·exact(It.call hG h v.1 rz c5 λm=>c4.cause hG h v.1 _ m (aJ.rP hG.13 rz).2.2).elim λj x=>ihn yV.length (aw (aw (Nat.lt_add_of_pos_right (dK (u.cause hG h e i mi))) (aD c1)) hn) q2 lE _ s2 (aC _) c4 v.1 j x.1 (G.left (G.rl i)) x.2 (f1.4 _ rz (G.dt i) Y eY c2 t hY)
  ·have E:G.right (G.rl i)=(G.right (G.rl i)).take m++A'::(cs++(G.right (G.rl i)).drop (G.dt i)):=
    (fV (G.dt i) _).symm.trans ((congrArg (· ++_) c2).trans (bO ..))
   have l:((G.right (G.rl i)).take m).length=m:=mS (aj (aj (bx ..) (aD em.symm)) dl)
   have D:=tS (a:=(G.right (G.rl i)).take m) (b:=cs++(G.right (G.rl i)).drop (G.dt i)) (x:=A')
   rw[←E,l]at D
   refine f2.3 _ rz m A' cs.length Y ?_ z5 ?_ (by rw[D,oy];exact u.nul) t hY
   ·have:=yW (a:=(G.right (G.rl i)).take m) (b:=cs++(G.right (G.rl i)).drop (G.dt i)) (x:=A')
    rw[←E,l]at this;exact this
   ·rw[dI,dJ,dk,←em];exact eY
theorem Hg (hG:cg H g G A) (h:oZ G S) {fs ws:List Nat} (f1:G2 G fs) (f2:J9 G fs ws):Ey G S λ_ A t=>(ws.getD A 0).testBit t=true:=.mk
 (λp A' dw q lD cs t x z5 k u m zt=>(m.it h).elim λi w=>w.1.elim λs v=>
  Kr hG h f1 f2 z5 k cs.length q lD cs s (aC _) u v.1 i (aJ.Ar hG ((h.2 q s v.1).1▸v.2)) t w.2 (f1.3 t zt))
 (λp' r a A' b p t z0 z i e z5 n w _ ht=>f2.4 r z a.length A' (by rw[e];exact yW) z5 (by rw[e,tS];exact n) t ht)
end
section
noncomputable def tV (p:Nat×Nat):V:=.tup [.int p.1,.int p.2]
inductive p9 (S:List cT) (n:Nat) (l:List Nat) (ts:List (Nat×Nat)):Prop
 |mk (snd:∀p∈ts,(p.1<n∨(p.1=n∧p.2∈l))∧5≤p.2∧∃s,S[p.1]?=some s∧p.2∈s.mv.map (·.1)) (cpl:∀(q:Nat) s X,S[q]?=some s->X∈s.mv.map (·.1)->5≤X->(q<n∨(q=n∧X∈l))->(q,X)∈ts) (nd:ts.Nodup) (len:ts.length≤8*n+l.length)
inductive Ix (ts:List (Nat×Nat)) (d:List (List Int×V)):Prop
 |mk (get:∀(i p X:Nat),ts[i]?=some (p,X)->eP [(p:Int),(X:Int)] d=some (vI i)) (len:d.length≤ts.length)
theorem Ix.add {ts d q X} (h:Ix ts d) (n:(q,X)∉ts):Ix (ts++[(q,X)]) (dput [(q:Int),(X:Int)] (vI ts.length) d):=by
 refine⟨λi p Y e=>?_,by rw[aq];exact aj (tP _ _ _) (aM h.2)⟩
 rw[uY]
 rcases a9 i ts.length with z|z
 ·rw[aG z]at e
  rw[if_neg λk=>n ((a8.1 (bC k).1:q=p)▸(a8.1 (bC (bC k).2).1:X=Y)▸am e),h.1 i p Y e]
 ·rw[aX z]at e
  have:=(ah.1 e).1
  have w:i=ts.length:=bR (Nat.le_of_sub_eq_zero (Nat.lt_one_iff.1 this)) z
  cases ak.1 (am e)
  rw[w];exact if_pos rfl
theorem p9.zero {S}:p9 S 0 [] []:=⟨qo,λq s X _ _ _ c=>c.elim (λc=>absurd c (bc q)) λc=>absurd c.2 aR,.nil,aC _⟩
theorem p9.skip {S n l ts X} (h:p9 S n l ts) (z:X<5):p9 S n (l++[X]) ts:=
 ⟨λp m=>⟨(h.1 p m).1.imp id λq=>⟨q.1,aY _ q.2⟩,(h.1 p m).2⟩,λq s Y e m y c=>h.2 q s Y e m y (c.imp id λq=>⟨q.1,(aE.1 q.2).elim id λb=>absurd z (bG.2 ((ak.1 b:Y=X)▸y))⟩),h.3,by rw[aq,←dk];exact aj h.4 (bx _ _)⟩
theorem p9.new {S n l ts X} (h:p9 S n l ts) (m:X∉l):(n,X)∉ts:=λk=>(h.1 _ k).1.elim (dU _) λc=>m c.2
theorem p9.add {S n l ts X} {s:cT} (h:p9 S n l ts) (m:X∉l) (e:S[n]?=some s) (mX:X∈s.mv.map (·.1)) (z:5≤X):p9 S n (l++[X]) (ts++[(n,X)]):=by
 refine⟨λp k=>?_,λq t Y e2 mY y c=>?_,?_,by rw[aq,aq];exact aM h.4⟩
 ·rcases aE.1 k with k|k
  ·exact⟨(h.1 p k).1.imp id λq=>⟨q.1,aY _ q.2⟩,(h.1 p k).2⟩
  ·rw[ak.1 k];exact⟨.inr ⟨rfl,aB _ (ak.2 rfl)⟩,z,s,e,mX⟩
 ·exact c.elim (λc=>aY _ (h.2 q t Y e2 mY y (.inl c))) λc=>(aE.1 c.2).elim (λk=>aY _ (h.2 q t Y e2 mY y (.inr ⟨c.1,k⟩))) λk=>by
   rw[c.1,ak.1 k];exact aB _ (ak.2 rfl)
 ·exact gQ h.3 (h.new m)
theorem p9.next {S n l ts} {s:cT} (h:p9 S n l ts) (e:S[n]?=some s) (k:∀X,X∈s.mv.map (·.1)->X∈l) (z:l.length≤8):p9 S (n+1) [] ts:=
 ⟨λp m=>⟨.inl ((h.1 p m).1.elim (λc=>eo c) λc=>c.1▸bW _),(h.1 p m).2⟩,λq t Y e2 mY y c=>h.2 q t Y e2 mY y (c.elim (λc=>(ba.1 c).imp id λc=>⟨c,by
  cases e.symm.trans (c▸e2);exact k Y mY⟩) λc=>absurd c.2 aR),h.3,aj h.4 (bP z _)⟩
variable {H0 H:Hp} {u g LS:Nat} {G:aJ} {A:GA} {SA:List Nat} {S:List cT} {R:Prop}
theorem bN.oj (h:bN H u g G A LS SA S) {q:Nat} {s:cT} (e:S[q]?=some s):s.mv.length≤8:=by
 have:=congrArg List.length (h.6.2 q s e).3
 rw[ae,eg]at this
 rw[this];exact qv h.1 _
theorem bN.keys_nodup (h:bN H u g G A LS SA S) {q:Nat} {s:cT} (e:S[q]?=some s):(s.mv.map (·.1)).Nodup:=by
 rw[(h.6.2 q s e).3];exact fQ (aJ.fj _)
theorem bN.yX (h:bN H u g G A LS SA S) {q:Nat} {s:cT} (e:S[q]?=some s) {X:Nat} (m:X∈s.mv.map (·.1)):X<8:=by
 rw[(h.6.2 q s e).3]at m
 obtain⟨i,_,k⟩:=aJ.oh.1 (dL.1 m);exact xo h.1 k
theorem IT {L:Lc} {H:Hp} {e:CE} {a:Nat} {mv:List (Nat×Nat)} (x:JE e L H (.ref a) H) (o:H[a]?=some (.bj (nd vI mv))) (z:mv.length<64)
  (k:∀b H2,JE (.sorted e) L H (.ref b) H2->H[b]?=none->H2[b]?=some (.list (vn (jX (mv.map (·.1)))))->Ext H H2->R):R:=
 pQ (l:=mv.map (·.1)) x (by rw[←oP (f:=vI)];exact .dict o) (by rw[ae];exact z) k
theorem vX {la N TL IX:Nat} (h:bN H0 u g G A LS SA S) (e:Ext H0 H) (hl:H[la]?=some (.inst 6 [(53,.ref u),(56,.ref N),(55,.ref TL),(54,.ref IX)])) (gT:H[TL]?=some (.list [])) (gI:H[IX]?=some (.bX [])) (fT:H0[TL]?=none) (fI:H0[IX]?=none)
  (q:∀ts d H',JR 47 [.ref la] H .none H'->eH [TL,IX] H H'->H'[TL]?=some (.list (ts.map tV))->H'[IX]?=some (.bX d)->p9 S S.length [] ts->Ix ts d->R):R:=by
 refine dc 47 [.ref la] H rfl rfl (L:=[some (.ref la),none,none,none]) rfl λQ q'=>.set (.attr (.attr (.var rfl) hl rfl rfl) (e _ _ h.2) rfl rfl) ?_
 have nl:la∉[TL,IX]:=tI (dj hl gT rfl) (dj hl gI rfl)
 have n0:∀{b:Nat} {o:O},H0[b]?=some o->b∉[TL,IX]:=λk=>tI (e_ fT k) (e_ fI k)
 have nTI:=dj gT gI rfl
 have ex:∀{H'},eH [TL,IX] H H'->Ext H0 H':=λx=>x.ext e (Ob fT fI)
 refine .sg (λ_ (t:Option V×Option V×List (Nat×Nat)×List (List Int×V))=>[some (.ref la),some (.ref g),t.1,t.2.1]) (λn t H'=>eH [TL,IX] H H'∧H'[TL]?=some (.list (t.2.2.1.map tV))∧H'[IX]?=some (.bX t.2.2.2)∧p9 S n [] t.2.2.1∧Ix t.2.2.1 t.2.2.2) (none,none,[],[])
  (.pF (.attr (.attr (.var rfl) hl rfl rfl) (e _ _ h.2) rfl rfl) (.list (e _ _ h.3)) (by rw[ae,h.4];exact aj h.6.5 (by decide))) ⟨.r,gT,gI,p9.zero,⟨λ_ _ _ e=>c7 dD e,aC _⟩⟩ (λt=>ex t.1 _ _ h.3) ?_ ?_
 ·intro n a t H1 K ha h1 cq _
  obtain⟨x2,x3,ts,d⟩:=t
  obtain⟨x1,gT1,gI1,tr,ix⟩:=h1
  refine h.at_ ha λs ia ma ra es st=>?_
  have kl:=h.oj es
  have zn:=(ah.1 es).1
  have zz:=h.6.5
  have kd:=fQ (h.keys_nodup es)
  refine IT (L:=[some (.ref la),some (.ref g),some (.ref a),x3]) (.attr (.var (i:=2) rfl) (ex x1 _ _ st.1) (f:=34) rfl rfl) (ex x1 _ _ st.3) (ax kl (by decide)) λW H2 j fW gW eW=>?_
  refine .jW (λ_ (t:Option V×List (Nat×Nat)×List (List Int×V))=>[some (.ref la),some (.ref g),some (.ref a),t.1]) (λk t H'=>eH [TL,IX] H2 H'∧H'[TL]?=some (.list (t.2.1.map tV))∧H'[IX]?=some (.bX t.2.2)∧p9 S n ((jX (s.mv.map (·.1))).take k) t.2.1∧Ix t.2.1 t.2.2) (x3,ts,d)
   (.d3 j gW (by rw[aW,eg,ae];exact aj kl (by decide))) ⟨.r,eW _ _ gT1,eW _ _ gI1,tr,ix⟩ (λt=>t.1 _ _ (tI (e_ fW gT1).symm (e_ fW gI1).symm) gW) ?_ ?_
  ·intro k X t H3 K hX h3 cq _
   obtain⟨y3,ts,d⟩:=t
   obtain⟨x3,PN,PO,tr,ix⟩:=h3
   have tr:p9 S n ((jX (s.mv.map (·.1))).take k) ts:=tr
   have E3:Ext H0 H3:=ex (x1.trans ((eH.of eW).trans x3))
   have nX:=gV kd hX
   have mX:=dL.1 (am hX)
   have X8:=h.yX es mX
   have e1:(jX (s.mv.map (·.1))).take (k+1)=(jX (s.mv.map (·.1))).take k++[X]:=by rw[aV,hX];rfl
   dsimp only at cq;rw[e1]at cq
   rcases a9 X 5 with z|z
   ·exact .pass (.ur (.iu (.bA (.var rfl) (E3 _ _ h.1.1) rfl rfl (.av (.var rfl) .bm) (DY (h.1.ext E3) z)) (.bool _) rfl)) (.nil (cq (some (.int X),ts,d) rfl ⟨x3,PN,PO,tr.skip z,ix⟩))
   ·have PP:=(x1.trans ((eH.of eW).trans x3)) _ _ nl hl
    have tl:ts.length≤2^23+8:=aj tr.4 (aj (cU (bF 8 (aj (aI zn) zz)) (aj (bM ..) (by rw[eg,ae];exact kl))) (by decide))
    have ln:=JE.len (L:=[some (.ref la),some (.ref g),some (.ref a),some (.int X)]) (a:=.attr (.var 0) 55) (.attr (.var rfl) PP rfl rfl) (.list PN (by rw[ae];exact aj tl (by decide)))
    rw[ae]at ln
    refine .then (.ur (.iu (.bA (.var rfl) (E3 _ _ h.1.1) rfl rfl (.av (.var rfl) .bm) (DZ (h.1.ext E3) z)) (.bool _) rfl))
     (.br ln (.attr (.var rfl) PP rfl rfl) (.tup (.av (.attr (.var rfl) (E3 _ _ st.1) rfl rfl) (.av (.var rfl) .bm)) (ic _ rfl)) (.bX (k:=[(n:Int),(X:Int)]) PO (ax (aj ix.2 tl) (by decide))) ?_)
    have EA:=dj hl gI rfl
    have Oi:=eK (p:=.bX (dput [(n:Int),(X:Int)] (.int ts.length) d)) PP EA
    have PQ:=eK (p:=.bX (dput [(n:Int),(X:Int)] (.int ts.length) d)) PN nTI
    refine .expr (.append (.attr (.var rfl) Oi rfl rfl) (.tup (.av (.attr (.var rfl) (eK (E3 _ _ st.1) λe=>n0 st.1 (e▸aL _ (ak.2 rfl))) rfl rfl) (.av (.var rfl) .bm)) (ic _ rfl)) ⟨_,PQ⟩ PQ (by rw[ae];exact ax tl (by decide)))
     (.nil (.nil (cq (some (.int X),ts++[(n,X)],_) rfl ⟨(x3.set (aL _ (ak.2 rfl))).set (aQ ..),?_,eK (dq PO) nTI.symm,tr.add nX es mX z,ix.add (tr.new nX)⟩)))
    rw[dq PQ,az];rfl
  ·intro t H3 h3
   rw[aN]at h3
   exact .nil (cq (some (.ref a),t.1,t.2.1,t.2.2) rfl ⟨x1.trans ((eH.of eW).trans h3.1),h3.2.1,h3.2.2.1,h3.2.2.2.1.next es (λX m=>dL.2 m) (by rw[eg,ae];exact kl),h3.2.2.2.2⟩)
 ·intro t H1 h1
  exact .nil (q' λj=>q t.2.2.1 t.2.2.2 H1 j h1.1 h1.2.1 h1.2.2.1 (h.4▸h1.2.2.2.1) h1.2.2.2.2)
end
section
theorem cB.PR {H H1:Hp} {Q:Ps} {r a:i6} {g:Gd} {it:CI} {k m:Nat} {σ:Type} {l:List (Nat×Nat)} (Lf:Nat->σ->Lc) (P:Nat->σ->Hp->Prop) (s0:σ) (x:JI it (Lf 0 s0) H (l.map tV) g H1) (h0:P 0 s0 (g.fz H1)) (hg:∀{n s H},P n s H->g.ok H)
  (st:∀n (p X:Nat) s H (K:Ps),l[n]?=some (p,X)->P n s H->(∀{f} s' {H'},f.go=true->P (n+1) s' H'->K f (Lf (n+1) s') H')->
   cB a (((Lf n s).set k (some (.int p))).set m (some (.int X))) H K) (he:∀s H,P l.length s H->cB r (Lf l.length s) (g.th H) Q):cB (.cons (.for (.p k m) it a) r) (Lf 0 s0) H Q:=
 .DU Lf P s0 x h0 hg (λn y s H K hy h k1 k2=>(kj hy).elim λp q=>⟨_,_,q.2,st n p.1 p.2 s H K q.1 h k1⟩) λs H h=>by rw[ae]at h ⊢;exact he s H h
variable {H0 H:Hp} {u g LS:Nat} {G:aJ} {A:GA} {SA:List Nat} {S:List cT} {R:Prop}
theorem Av (h:bN H u g G A LS SA S) {q X p:Nat} {s:cT} (e:S[q]?=some s) (m:(X,p)∈s.mv):JR 49 [.ref u,.int q,.int X] H (.int p) H:=by
 refine h.get e λa ia ma ra ea st=>?_
 have D:=d6.i (k:=(X:Int)) st.3
 rw[kX m (h.keys_nodup e)]at D
 exact dc 49 [.ref u,.int q,.int X] H rfl rfl (L:=[some (.ref u),some (.int q),some (.int X)]) rfl λQ q'=>.ret (.bA (.idx (.attr (.var rfl) h.2 rfl rfl) (.var rfl) (.nat h.3 (dB ea))) st.1 rfl rfl (.av (.var rfl) .bm)
  (dc 48 [.ref a,.int X] H rfl rfl (L:=[some (.ref a),some (.int X)]) rfl λQ q'=>.ret (.qP (.attr (.var rfl) st.1 rfl rfl) (.var rfl) .lit (.inl ⟨_,st.3⟩) D) (q' id))) (q' id)
inductive xY (S:List cT) (ts:List (Nat×Nat)) (fb:List Bool) (g:Nat) (l:List Nat) (m:Nat) (row:List Nat):Prop
 |mk (lt:m<32) (rl:∀j∈row,j<ts.length) (d:∀t∈l,t<5->m.testBit t=true) (r:∀Y∈l,5≤Y->fb[Y]?=some true->∃j,ts[j]?=some (g,Y)∧j∈row) (len:row.length≤l.length)
theorem xY.t {S ts fb g l m row X} (h:xY S ts fb g l m row) (z:X<5):xY S ts fb g (l++[X]) (m|||1<<<X) row:=by
 refine⟨dC (n:=5) h.1 (by rw[gh];exact oH (by decide) z),h.2,λt k z=>?_,λY k y=>?_,by rw[aq];exact aj h.5 (bx _ _)⟩
 ·rw[bY]
  rcases aE.1 k with k|k
  ·rw[h.3 t k z];rfl
  ·rw[ak.1 k,gh,Nat.testBit_two_pow_self,fE]
 ·rcases aE.1 k with k|k
  ·exact h.4 Y k y
  ·exact absurd z (bG.2 ((ak.1 k:Y=X)▸y))
theorem xY.n {S ts fb g l m row X} (h:xY S ts fb g l m row) (z:5≤X) (f:fb[X]?≠some true):xY S ts fb g (l++[X]) m row:=
 ⟨h.1,h.2,λt k z'=>(aE.1 k).elim (λk=>h.3 t k z') λk=>absurd z (iK.2 ((ak.1 k:t=X)▸z')),λY k y e=>
  (aE.1 k).elim (λk=>h.4 Y k y e) λk=>absurd ((ak.1 k:Y=X)▸e) f,by rw[aq];exact aj h.5 (bx _ _)⟩
theorem xY.y {S ts fb g l m row X j} (h:xY S ts fb g l m row) (z:5≤X) (e:ts[j]?=some (g,X)):xY S ts fb g (l++[X]) m (row++[j]):=
 ⟨h.1,λi k=>(aE.1 k).elim (h.2 i) λk=>ak.1 k▸(ah.1 e).1,
  λt k z'=>(aE.1 k).elim (λk=>h.3 t k z') λk=>absurd z (iK.2 ((ak.1 k:t=X)▸z')),λY k y f=>
  (aE.1 k).elim (λk=>(h.4 Y k y f).imp λi q=>⟨q.1,aY _ q.2⟩) λk=>ak.1 k▸⟨j,e,aB _ (ak.2 rfl)⟩,by rw[aq,aq];exact aM h.5⟩
theorem p9.goal {n l ts} (h:bN H u g G A LS SA S) (t:p9 S n l ts) {i p X:Nat} (e:ts[i]?=some (p,X)):∃s y t,S[p]?=some s∧(X,y)∈s.mv∧S[y]?=some t:=by
 exact(t.1 _ (am e)).2.2.elim λs q=>(aA.1 q.2).elim λx w=>((h.6.2 p s q.1).4 _ w.1).elim λt v=>⟨s,x.2,t,q.1,(show x.1=X from w.2)▸w.1,v.1⟩
inductive By (S:List cT) (ts:List (Nat×Nat)) (fb:List Bool) (n:Nat) (ms:List Nat) (rows:List (List Nat)):Prop
 |mk (ml:ms.length=n) (rl:rows.length=n) (at_:∀(i p X:Nat) s y t m row,ts[i]?=some (p,X)->ms[i]?=some m->rows[i]?=some row->S[p]?=some s->(X,y)∈s.mv->S[y]?=some t->xY S ts fb y (jX (t.mv.map (·.1))) m row)
noncomputable def gy (H:Hp) (as:List Nat) (rows:List (List Nat)):Prop:=as.length=rows.length∧∀(i b:Nat) row,as[i]?=some b->rows[i]?=some row->H[b]?=some (.list (vn row))
end
section
variable {H0 H:Hp} {u g LS:Nat} {G:aJ} {A:GA} {SA:List Nat} {S:List cT} {R:Prop}
theorem Ks {mv:List (Nat×Nat)} (n:(mv.map (·.1)).Nodup) {X y z:Nat} (a:(X,y)∈mv) (b:(X,z)∈mv):y=z:=congrArg (·.2) (iN (f:=(·.1)) n a b rfl)
theorem By.add {ts fb n ms rows p X y m row} {s t:cT} (h:bN H u g G A LS SA S) (r:By S ts fb n ms rows) (e:ts[n]?=some (p,X)) (e1:S[p]?=some s) (my:(X,y)∈s.mv) (e2:S[y]?=some t) (d:xY S ts fb y (jX (t.mv.map (·.1))) m row):
  By S ts fb (n+1) (ms++[m]) (rows++[row]):=by
 refine⟨by rw[aq,r.1];rfl,by rw[aq,r.2];rfl,λi p' X' s' y' t' m' Kt a1 a2 a3 a4 a5 a6=>?_⟩
 rcases a9 i n with z|z
 ·rw[aG (r.1.symm▸z)]at a2
  rw[aG (r.2.symm▸z)]at a3
  exact r.3 i p' X' s' y' t' m' Kt a1 a2 a3 a4 a5 a6
 ·have w:=(ah.1 a2).1
  rw[aq,r.1]at w
  have w:i=n:=bR (bE w) z
  rw[w]at a1
  rw[w,←r.1,bv]at a2
  rw[w,←r.2,bv]at a3
  cases a2;cases a3
  cases e.symm.trans a1;cases e1.symm.trans a4
  cases Ks (h.keys_nodup e1) my a5
  cases e2.symm.trans a6;exact d
noncomputable def Lr (la g:Nat) (c:Option V×Option V×Option V×Option V×Option V×Option V×Option V):Lc:=[some (.ref la),some (.ref g),c.1,c.2.1,c.2.2.1,c.2.2.2.1,c.2.2.2.2.1,c.2.2.2.2.2.1,c.2.2.2.2.2.2]
noncomputable def Oj (u N TL IX DL RL:Nat):List (Nat×V):=[(53,.ref u),(56,.ref N),(55,.ref TL),(54,.ref IX),(57,.ref DL),(58,.ref RL)]
theorem reads_in {H1:Hp} {la N TL IX DL RL W y:Nat} {ts d fb} {t:cT} {a ia ma ra:Nat} {x2 x3 x8:Option V} {Q:Fl->Lc->Hp->Prop} {r:i6} (h:bN H u g G A LS SA S) (e:Ext H H1) (hl:H[la]?=some (.inst 6 (Oj u N TL IX DL RL))) (gN:H[N]?=some (.list (vP fb))) (fl:fb.length=8)
  (gI:H[IX]?=some (.bX d)) (tr:p9 S S.length [] ts) (ix:Ix ts d) (fW:H[W]?=none) (gW:H1[W]?=some (.list [])) (et:S[y]?=some t) (st:ni H a y t ia ma ra)
  (k:∀m row x8 H2,Ext H H2->H2[W]?=some (.list (vn row))->eH [W] H1 H2->xY S ts fb y (jX (t.mv.map (·.1))) m row->cB r (Lr la g (x2,x3,some (.int y),some (.int m),some (.ref W),some (.ref ma),x8)) H2 Q):
  cB (.cons (((bo 50).at 1).in.at 4) r) (Lr la g (x2,x3,some (.int y),some (.int 0),some (.ref W),some (.ref ma),x8)) H1 Q:=by
 have kl:=h.oj et
 have kd:=fQ (h.keys_nodup et)
 have sl:(jX (t.mv.map (·.1))).length≤8:=by rw[eg,ae];exact kl
 refine IT (L:=Lr la g (x2,x3,some (.int y),some (.int 0),some (.ref W),some (.ref ma),x8)) (.var (i:=7) rfl) (e _ _ st.3) (ax kl (by decide)) λB H2 j fB gB eB=>?_
 refine .jW (λ_ (c:Nat×List Nat×Option V)=>Lr la g (x2,x3,some (.int y),some (.int c.1),some (.ref W),some (.ref ma),c.2.2)) (λk c H'=>eH [W] H2 H'∧H'[W]?=some (.list (vn c.2.1))∧xY S ts fb y ((jX (t.mv.map (·.1))).take k) c.1 c.2.1) (0,[],x8)
  (.d3 j gB (by rw[aW];exact aj sl (by decide))) ⟨.r,eB _ _ gW,⟨show 0<32 by decide,qo,qo,qo,bw _⟩⟩ (λc=>c.1 _ _ (Bo fB gW) gB) ?_ ?_
 ·intro k X c H3 K hX h3 cq _
  obtain⟨m,row,x8⟩:=c
  obtain⟨x,Ni,rd⟩:=h3
  have rd:xY S ts fb y ((jX (t.mv.map (·.1))).take k) m row:=rd
  have E:Ext H H3:=x.new fW (e.trans eB)
  have mX:=dL.1 (am hX)
  have X8:=h.yX et mX
  have e1:(jX (t.mv.map (·.1))).take (k+1)=(jX (t.mv.map (·.1))).take k++[X]:=by rw[aV,hX];rfl
  dsimp only at cq;rw[e1]at cq
  rcases a9 X 5 with z|z
  ·exact .then (.iu (.bA (.var rfl) (E _ _ h.1.1) rfl rfl (.av (.var rfl) .bm) (DY (h.1.ext E) z)) (.bool _) rfl)
    (.set (.bin (.var rfl) (.bin .lit (.var rfl) (.shl 1 X _ (by decide) (bH X8 (by decide)))) (.bor _ _ _)) (.nil (.nil (cq (_,row,some (.int X)) rfl ⟨x,Ni,rd.t z⟩))))
  ·refine .else (.iu (.bA (.var rfl) (E _ _ h.1.1) rfl rfl (.av (.var rfl) .bm) (DZ (h.1.ext E) z)) (.bool _) rfl) ?_
   rcases iF.flag fl X8 with f|f
   ·have mt:(y,X)∈ts:=tr.2 y t X et mX z (.inl (ah.1 et).1)
    obtain⟨i,hi⟩:=aP mt
    have D:=d6.t (k:=[(y:Int),(X:Int)]) (E _ _ gI)
    rw[ix.1 i y X hi]at D
    have rl:(vn row).length<SZ:=by
     rw[aW];exact sf (aj rd.5 (aj (bM ..) (aj sl (by decide))))
    refine .then (.iu (.idx (.attr (.var rfl) (E _ _ hl) rfl rfl) (.var rfl) (.nat (E _ _ gN) (iF.kQ f))) (.bool _) rfl)
     (.expr (.append (.var rfl) (.idx (.attr (.var rfl) (E _ _ hl) rfl rfl) (.tup (.av (.var rfl) (.av (.var rfl) .bm)) (ic _ rfl)) (.dict D)) ⟨_,Ni⟩ Ni rl) (.nil (.nil (.nil (cq (m,row++[i],some (.int X)) rfl ⟨x.set (ak.2 rfl),?_,rd.y z hi⟩)))))
    rw[dq Ni];exact congrArg (λl=>some (O.list l)) vK
   ·exact .pass (.iu (.idx (.attr (.var rfl) (E _ _ hl) rfl rfl) (.var rfl) (.nat (E _ _ gN) (iF.kQ f))) (.bool _) rfl) (.nil (.nil (cq (m,row,some (.int X)) rfl ⟨x,Ni,rd.n z (by rw[f];exact λz=>ff (ay z))⟩)))
 ·intro c H3 h3
  rw[aN]at h3
  exact k c.1 c.2.1 _ H3 (h3.1.new fW (e.trans eB)) h3.2.1 ((eH.of eB).trans h3.1) h3.2.2
theorem gy.ex {T:List Nat} {H H':Hp} {as rows} (h:gy H as rows) (x:eH T H H') (n:∀b∈as,b∉T):gy H' as rows:=⟨h.1,λi b row e1 e2=>x _ _ (n b (am e1)) (h.2 i b row e1 e2)⟩
theorem gy.add {H:Hp} {as rows b row} (h:gy H as rows) (g:H[b]?=some (.list (vn row))):gy H (as++[b]) (rows++[row]):=by
 refine⟨by rw[aq,aq,h.1];rfl,λi c Kt e1 e2=>?_⟩
 rcases a9 i as.length with z|z
 ·rw[aG z]at e1
  rw[aG (h.1▸z)]at e2
  exact h.2 i c Kt e1 e2
 ·rw[aX z]at e1
  rw[aX (h.1▸z)]at e2
  rw[ak.1 (am e1),ak.1 (am e2)];exact g
theorem uv {la N TL IX DL RL:Nat} {ts d fb} (h:bN H u g G A LS SA S) (fl:fb.length=8) (tr:p9 S S.length [] ts) (ix:Ix ts d) {H1:Hp} (e:Ext H H1) (gN:H1[N]?=some (.list (vP fb))) (gT:H1[TL]?=some (.list (ts.map tV))) (gI:H1[IX]?=some (.bX d)) (nN:N∉[DL,RL]) (nT:TL∉[DL,RL]) (hl:H1[la]?=some (.inst 6 (Oj u N TL IX DL RL))) (gD:H1[DL]?=some (.list [])) (gR:H1[RL]?=some (.list [])) (fD:H[DL]?=none) (fR:H[RL]?=none) (ne:DL≠RL)
  (q:∀ms RA rows H',JR 50 [.ref la] H1 .none H'->eH [DL,RL] H1 H'->H'[DL]?=some (.list (vn ms))->H'[RL]?=some (.list (RA.map .ref))->gy H' RA rows->(∀b∈RA,H1[b]?=none)->By S ts fb ts.length ms rows->R):R:=by
 have zz:=h.6.5
 have tl:ts.length≤2^23:=aj tr.4 (aj (bF 8 zz) (by decide))
 refine dc 50 [.ref la] H1 rfl rfl (L:=[some (.ref la),none,none,none,none,none,none,none,none]) rfl λQ q'=>.set (.attr (.attr (.var rfl) hl rfl rfl) (e _ _ h.2) rfl rfl) ?_
 have ex:∀{H'},eH [DL,RL] H1 H'->Ext H H':=λx=>x.ext e (Ob fD fR)
 have EA:la∉[DL,RL]:=tI (dj hl gD rfl) (dj hl gR rfl)
 have nI:IX∉[DL,RL]:=tI (dj gI gD rfl) (dj gI gR rfl)
 refine .PR (λ_ (t:(Option V×Option V×Option V×Option V×Option V×Option V×Option V)×List Nat×List Nat×List (List Nat))=>Lr la g t.1) (λn t H'=>eH [DL,RL] H1 H'∧H'[DL]?=some (.list (vn t.2.1))∧H'[RL]?=some (.list (t.2.2.1.map .ref))∧gy H' t.2.2.1 t.2.2.2∧(∀b∈t.2.2.1,b∉[DL,RL]∧H1[b]?=none)∧By S ts fb n t.2.1 t.2.2.2)
  ((none,none,none,none,none,none,none),[],[],[]) (.pF (.attr (.var rfl) hl rfl rfl) (.list gT) (by rw[ae];exact aj tl (by decide))) ⟨.r,gD,gR,⟨rfl,λ_ _ _ e=>c7 dD e⟩,qo,⟨rfl,rfl,λ_ _ _ _ _ _ _ _ _ e=>c7 dD e⟩⟩ (λt=>t.1 _ _ nT gT) ?_ ?_
 ·intro n p X t H2 K hp h2 cq
  obtain⟨c,ms,RA,rows⟩:=t
  obtain⟨x,Nj,Nk,ra,nb,rd⟩:=h2
  have Nj:H2[DL]?=some (.list (vn ms)):=Nj
  have Nk:H2[RL]?=some (.list (RA.map .ref)):=Nk
  have rd:By S ts fb n ms rows:=rd
  have ra:gy H2 RA rows:=ra
  have E:Ext H H2:=ex x
  have Ol:=x _ _ EA hl
  have nl:=(ah.1 hp).1
  obtain⟨s,y,t,e1,my,e2⟩:=tr.goal h hp
  refine h.get e2 λa ia ma rda ea st=>?_
  refine .set (.bA (.attr (.var rfl) Ol rfl rfl) (E _ _ h.2) rfl rfl (.av (.var rfl) (.av (.var rfl) .bm)) (Av (h.ext E) e1 my)) (.set .lit (hS λW H3 j fW gW eW=>.set j (.set (.attr (.idx (.attr (.attr (.var rfl) (eW _ _ Ol) rfl rfl) (eW _ _ (E _ _ h.2)) rfl rfl) (.var rfl) (.nat (eW _ _ (E _ _ h.3)) (dB ea))) (eW _ _ (E _ _ st.1)) rfl rfl) ?_)))
  refine reads_in (W:=W) (x2:=some (.int p)) (x3:=some (.int X)) (h.ext E) eW Ol (x _ _ nN gN) fl (x _ _ nI gI) tr ix fW gW e2 ⟨E _ _ st.1,E _ _ st.2,E _ _ st.3,E _ _ st.4⟩ λm row x8 H4 E4 gW4 x4 Om=>?_
  have nD:∀{b:Nat} {o:O},H2[b]?=some o->b∉[W]:=λk=>yM fW k
  have nW:W∉[DL,RL]:=tI (e_ fW Nj).symm (e_ fW Nk).symm
  have PS:=x4 _ _ (nD Nj) (eW _ _ Nj)
  have PU:=x4 _ _ (nD Nk) (eW _ _ Nk)
  have x5:eH [DL,RL] H1 (H4.set DL (.list (vn ms++[.int m]))):=λb o nb hb=>eK (x4 _ _ (yM fW (x _ _ nb hb)) (eW _ _ (x _ _ nb hb))) λk=>nb (k▸aQ ..)
  refine .expr (.append (.attr (.var rfl) (E4 _ _ Ol) rfl rfl) (.var rfl) ⟨_,PS⟩ PS (by rw[aW,rd.1];exact aw nl (aj tl (by decide))))
   (.expr (.append (.attr (.var rfl) (x5 _ _ EA hl) rfl rfl) (.var rfl) ⟨_,eK PU ne.symm⟩ (eK PU ne.symm) (by rw[ae,ra.1,rd.2];exact aw nl (aj tl (by decide))))
    (.nil (cq ((_,_,_,_,_,_,_),ms++[m],RA++[W],rows++[row]) rfl ⟨x5.set (aL _ (ak.2 rfl)),?_,?_,?_,λb k=>?_,rd.add h hp e1 my e2 Om⟩)))
  ·rw[eK (dq PS) ne,vK]
  ·rw[dq (eK PU ne.symm),az];rfl
  ·have r4:gy (H4.set DL (.list (vn ms++[.int m]))) RA rows:=(ra.ex (eH.of (S:=[W]) eW|>.trans x4) λb k=>?_).ex (eH.r.set (aQ ..):eH [DL,RL] H4 _) λb k=>(nb b k).1
   ·exact(r4.add (row:=row) (eK gW4 λk=>nW (k▸aQ ..))).ex (eH.r.set (aL _ (ak.2 rfl)):eH [DL,RL] _ _) λb k=>(aE.1 k).elim (λk=>(nb b k).1) λk=>ak.1 k▸nW
   ·obtain⟨i,hi⟩:=aP k
    have z:=(ah.1 hi).1
    exact yM fW (ra.2 i b _ hi (ao (ra.1▸z)))
  ·refine(aE.1 k).elim (nb b) λk=>ak.1 k▸⟨nW,?_⟩
   cases c:H1[W]? with
   |none=>rfl
   |some o=>exact c7 fW (x W o nW c)
 ·intro t H2 h2
  exact .nil (q' λj=>q t.2.1 t.2.2.1 t.2.2.2 H2 j h2.1 h2.2.1 h2.2.2.1 h2.2.2.2.1 (λb m=>(h2.2.2.2.2.1 b m).2) h2.2.2.2.2.2)
end
section
variable {H0 H:Hp} {u g LS:Nat} {G:aJ} {A:GA} {SA:List Nat} {S:List cT} {R:Prop}
theorem EB {n:Nat}:((n+1:Nat):Int)-1=n:=kA n 1
theorem vY {la N:Nat} {fs:List (Nat×V)} {fb:List Bool} {w:List Nat} (hl:H[la]?=some (.inst 6 fs)) (gf:qO 56 fs=some (.ref N)) (gN:H[N]?=some (.list (vP fb))) (fl:fb.length=8) (w8:∀s∈w,s<8) (wl:w.length≤3)
  (q:∀k,JR 51 [.ref la,.tup (vn w)] H (.int (k:Nat)) H->(∀i A,w[i]?=some A->(∀x∈w.drop (i+1),fb[x]?=some true)->k≤i)->R):R:=by
 have zw:(vn w).length≤SZ:=lM (by rw[aW];exact aj wl (by decide))
 refine dc 51 [.ref la,.tup (vn w)] H rfl rfl (L:=[some (.ref la),some (.tup (vn w)),none]) rfl λQ q'=>?_
 have ln:=JE.len (H:=H) (L:=[some (.ref la),some (.tup (vn w)),none]) (a:=.var 1) (.var rfl) (.tup zw)
 rw[aW]at ln
 refine .set ln (.pO (fun(s:Nat)=>[some (.ref la),some (.tup (vn w)),some (.int s)]) (λs H'=>H'=H∧s≤w.length) id w.length ⟨rfl,aC _⟩ ?_)
 intro s H' K h cq _
 obtain⟨rfl,hs⟩:=h
 have fin:(∀i A,w[i]?=some A->(∀x∈w.drop (i+1),fb[x]?=some true)->s-1≤i)->cB (.cons (.ret (.max (.bin .sub (.var 2) (.lit (.int 1))) (.lit (.int 0)))) .nil) [some (.ref la),some (.tup (vn w)),some (.int s)] H' Q:=λhk=>by
  refine .ret (.max (.bin (.var rfl) .lit (.sub _ _ _)) .lit) (q' λj=>q (s-1) ?_ hk)
  have:(if(s:Int)-1<0 then(0:Int)else s-1)=((s-1:Nat):Int):=by
   cases s with
   |zero=>rfl
   |succ n=>rw[EB,if_neg (fy.2 (aS n))];rfl
  rw[←this];exact j
 cases s with
 |zero=>exact .no (.iD (.af (.b9 (.var rfl) .lit (.gt _ 0)))) (fin λi A _ _=>bw i)
 |succ n=>
  have hx:=ao hs
  have x8:=w8 _ (hH hs)
  generalize w[n]=x at hx x8
  have T1:=JT.b9 (H:=H') (L:=[some (.ref la),some (.tup (vn w)),some (.int (n+1:Nat))]) (.var (i:=2) rfl) .lit (.gt ((n+1:Nat):Int) 0)
  rw[decide_eq_true (fK.2 (hE n))]at T1
  have sb:JE (.bin .sub (.var 2) (.lit (.int 1))) [some (.ref la),some (.tup (vn w)),some (.int (n+1:Nat))] H' (.int n) H':=by
   have:=JE.bin (H:=H') (L:=[some (.ref la),some (.tup (vn w)),some (.int (n+1:Nat))]) (.var (i:=2) rfl) (.lit (v:=.int 1)) (.sub ((n+1:Nat):Int) 1 _)
   rw[EB]at this;exact this
  rcases iF.flag fl x8 with f|f
  ·exact .yes (.iD (.at T1 (.at (.iu (.idx (.attr (.var rfl) hl rfl gf) (.idx (.var rfl) sb (.DW (cR hx) zw)) (.nat gN (iF.kQ f))) (.bool _) rfl) .lw))) (.set sb (.nil (cq n rfl ⟨rfl,cv hs⟩ (bW n))))
  ·refine .no (.iD (.at T1 (.af (.iu (.idx (.attr (.var rfl) hl rfl gf) (.idx (.var rfl) sb (.DW (cR hx) zw)) (.nat gN (iF.kQ f))) (.bool _) rfl)))) (fin λi A ei hd=>?_)
   refine dX λc=>?_
   have c:i<n:=c
   have m:x∈w.drop (i+1):=am (i:=n-(i+1)) (by rw[dI,cY c];exact hx)
   exact ff (ay (f.symm.trans (hd x m)))
inductive Row (n:Nat) (l:List Nat):Prop
 |mk (nd:l.Nodup) (lt:∀j∈l,j<n)
theorem Row.len {n l} (h:Row n l):l.length≤n:=by
 exact aT (n:=n)▸bu h.1 λj m=>a_.2 (h.2 j m)
theorem Row.add {n l x} (h:Row n l) (m:x∉l) (z:x<n):Row n (l++[x]):=
 ⟨gQ h.1 m,λj k=>(aE.1 k).elim (h.2 j) λk=>ak.1 k▸z⟩
theorem in_list {H:Hp} {i a:Nat} {l:List Nat} (h:H[a]?=some (.list (vn l))):AO H (.int i) (.ref a) (l.contains i):=by
 rw[←qs];rw[iE]at h;exact .list h
theorem xz {b x n:Nat} {l:List Nat} (h:H[b]?=some (.list (vn l))) (r:Row n l) (xn:x<n) (z:n≤2^23)
  (q:∀l' H',JR 10 [.ref b,.int x] H .none H'->eH [b] H H'->H'[b]?=some (.list (vn l'))->Row n l'->x∈l'->(∀y∈l,y∈l')->R):R:=by
 refine dc 10 [.ref b,.int x] H rfl rfl (L:=[some (.ref b),some (.int x)]) rfl λQ q'=>?_
 have T:=JT.b9 (H:=H) (L:=[some (.ref b),some (.int x)]) (.var (i:=1) rfl) (.var (i:=0) rfl) (.jJ (in_list h))
 by_cases m:x∈l
 ·rw[cZ.2 m]at T
  exact .pass T (.nil (q' λj=>q l H j .r h r m λ_ k=>k))
 ·rw[dN.2 λk=>m (cZ.1 k)]at T
  exact .then T (.expr (.append (.var rfl) (.var rfl) ⟨_,h⟩ h (by rw[aW];exact ax (aj r.len z) (by decide))) (.nil (.nil (q' λj=>q (l++[x]) _ j (eH.r.set (ak.2 rfl)) (by rw[dq h,vK]) (r.add m xn) (aB _ (ak.2 rfl)) λy k=>aY _ k))))
inductive yY (H1 H:Hp) (n:Nat) (B:List Nat) (c:Nat->List Nat):Prop
 |mk (x:eH B H1 H) (g:∀b∈B,H[b]?=some (.list (vn (c b)))∧Row n (c b))
noncomputable def Le (c c':Nat->List Nat):Prop:=∀b,∀x∈c b,x∈c' b
theorem Le.r {c:Nat->List Nat}:Le c c:=λ_ _ h=>h
theorem Le.trans {a b c:Nat->List Nat} (h:Le a b) (k:Le b c):Le a c:=λ_ _ m=>k _ _ (h _ _ m)
theorem yY.once {H1:Hp} {n x b:Nat} {B:List Nat} {c:Nat->List Nat} (h:yY H1 H n B c) (m:b∈B) (xn:x<n) (z:n≤2^23)
  (q:∀c' H',JR 10 [.ref b,.int x] H .none H'->yY H1 H' n B c'->Le c c'->x∈c' b->eH B H H'->R):R:=by
 refine xz (h.2 b m).1 (h.2 b m).2 xn z λl' H' j x' g' r' m' s'=>q (λa=>if a=b then l' else c a) H' j ⟨h.1.trans λa o na ha=>x' a o (λk=>na (ak.1 k▸m)) ha,λa ha=>?_⟩ (λa y hy=>?_) (by rw[if_pos rfl];exact m') λa o na ha=>x' a o (λk=>na (ak.1 k▸m)) ha
 ·by_cases e:a=b
  ·rw[e,if_pos rfl];exact⟨g',r'⟩
  ·rw[if_neg e];exact⟨x' a _ (λk=>e (ak.1 k)) (h.2 a ha).1,(h.2 a ha).2⟩
 ·by_cases e:a=b
  ·show y∈if a=b then l' else c a
   rw[if_pos e];rw[e]at hy;exact s' y hy
  ·show y∈if a=b then l' else c a
   rw[if_neg e];exact hy
end
section
noncomputable def pd {α:Type} (f:α->V) (l:List ((Nat×Nat)×α)):List (List Int×V):=l.map λp=>([(p.1.1:Int),(p.1.2:Int)],f p.2)
section
variable {α:Type} {f:α->V} {l:List ((Nat×Nat)×α)} {k:Nat×Nat} {b:α}
theorem EC {j:Nat×Nat} (e:[(j.1:Int),(j.2:Int)]=[(k.1:Int),(k.2:Int)]):j=k:=
 Prod.ext (a8.1 (bC e).1) (a8.1 (bC (bC e).2).1)
theorem vZ (n:(l.map (·.1)).Nodup) (h:(k,b)∈l):eP [(k.1:Int),(k.2:Int)] (pd f l)=some (f b):=by
 rw[eP]
 cases e:(pd f l).find? λp=>decide (p.1=[(k.1:Int),(k.2:Int)])with
 |none=>exact absurd (decide_eq_true rfl) (dZ.1 e _ (aA.2 ⟨_,h,rfl⟩))
 |some x=>
  obtain⟨y,m,rfl⟩:=aA.1 (dH e)
  rw[show y=(k,b) from iN (f:=(·.1)) n m h (EC (of_decide_eq_true (jH (p:=λp:List Int×V=>decide (p.1=[(k.1:Int),(k.2:Int)])) e)))];rfl
theorem ED (h:k∉l.map (·.1)) (b:α):dput [(k.1:Int),(k.2:Int)] (f b) (pd f l)=pd f (l++[(k,b)]):=by
 rw[sC (d:=pd f l) λx m e=>(aA.1 m).elim λp q=>h (aA.2 ⟨p,q.1,EC ((congrArg Prod.fst q.2).trans e)⟩),pd,pd,az];rfl
theorem yZ:(pd f l).length=l.length:=ae _
end
inductive xZ (S:List cT) (n k:Nat) (l:List ((Nat×Nat)×Nat)):Prop
 |mk (cpl:∀(q:Nat) s (j r:Nat),S[q]?=some s->s.red[j]?=some r->(q<n∨(q=n∧j<k))->∃b,((q,r),b)∈l) (snd:∀p∈l,∃s j,S[p.1.1]?=some s∧s.red[j]?=some p.1.2∧(p.1.1<n∨(p.1.1=n∧j<k))) (nd:(l.map (·.1)).Nodup) (len:l.length≤5*n+k)
theorem xZ.zero {S}:xZ S 0 0 []:=⟨λq s j r _ _ c=>c.elim (λc=>absurd c (bc _)) λc=>absurd c.2 (bc _),qo,.nil,aC _⟩
theorem xZ.new {S n k l r} {s:cT} (h:xZ S n k l) (e:S[n]?=some s) (hr:s.red[k]?=some r) (nd:s.red.Nodup):(n,r)∉l.map (·.1):=λm=>by
 obtain⟨p,mp,ep⟩:=aA.1 m
 obtain⟨s',j,e',r',c⟩:=h.2 p mp
 rw[ep]at e' r' c
 cases e.symm.trans e'
 exact c.elim (dU _) λc=>cu c.2 ((cP (ah.1 r').1 nd).1 (r'.trans hr.symm))
theorem xZ.add {S n k l r b} {s:cT} (h:xZ S n k l) (e:S[n]?=some s) (hr:s.red[k]?=some r) (nd:s.red.Nodup):xZ S n (k+1) (l++[((n,r),b)]):=by
 refine⟨λq t j x e1 e2 c=>?_,λp m=>?_,?_,by rw[aq];exact aM h.4⟩
 ·have o:=λc=>(h.1 q t j x e1 e2 c).imp λb' m=>aY [((n,r),b)] m
  refine c.elim (λc=>o (.inl c)) λc=>(ba.1 c.2).elim (λw=>o (.inr ⟨c.1,w⟩)) λw=>?_
  cases e.symm.trans (c.1▸e1);cases hr.symm.trans (w▸e2)
  exact⟨b,aB _ (ak.2 (by rw[c.1]))⟩
 ·exact(aE.1 m).elim (λm=>(h.2 p m).imp λs' q=>q.imp λj w=>⟨w.1,w.2.1,w.2.2.imp id λc=>⟨c.1,eo c.2⟩⟩) λm=>ak.1 m▸⟨s,k,e,hr,.inr ⟨rfl,bW k⟩⟩
 ·rw[az];exact gQ h.3 (h.new e hr nd)
theorem xZ.next {S n l} {s:cT} (h:xZ S n s.red.length l) (e:S[n]?=some s) (z:s.red.length≤5):xZ S (n+1) 0 l:=
 ⟨λq t j x e1 e2 c=>h.1 q t j x e1 e2 (c.elim (λc=>(ba.1 c).imp id λc=>⟨c,by
  cases e.symm.trans (c▸e1);exact(ah.1 e2).1⟩) λc=>absurd c.2 (bc _)),
 λp m=>(h.2 p m).imp λs' q=>q.imp λj w=>⟨w.1,w.2.1,.inl (w.2.2.elim eo λc=>c.1▸bW _)⟩,h.3,aj h.4 (bP z _)⟩
variable {H0 H:Hp} {u g LS:Nat} {G:aJ} {A:GA} {SA:List Nat} {S:List cT} {R:Prop}
noncomputable def Li (la g:Nat) (x2 x3 x4 x5 x6 x7 x8 x9 gO fJ fX:Option V):Lc:=[some (.ref la),some (.ref g),x2,x3,x4,x5,x6,x7,x8,x9,gO,fJ,fX]
noncomputable def laG (u N TL IX DL RL IL UL LB:Nat):List (Nat×V):=[(53,.ref u),(56,.ref N),(55,.ref TL),(54,.ref IX),(57,.ref DL),(58,.ref RL),(61,.ref IL),(62,.ref UL),(59,.ref LB)]
theorem xA {H1:Hp} {la N TL IX DL RL IL UL LB:Nat} {Q:Fl->Lc->Hp->Prop} {r:i6} (h:bN H0 u g G A LS SA S) (e:Ext H0 H1) (hl:H1[la]?=some (.inst 6 (laG u N TL IX DL RL IL UL LB))) (gL:H1[LB]?=some (.bX [])) (fL:H0[LB]?=none)
  (k:∀x2 x3 l H',eH [LB] H1 H'->H'[LB]?=some (.bX (pd .ref l))->xZ S S.length 0 l->(∀p∈l,H'[p.2]?=some (.list [])∧H1[p.2]?=none)->cB r (Li la g x2 x3 none none none none none none none none none) H' Q):
  cB (.cons ((bo 52).at 1) r) (Li la g none none none none none none none none none none none) H1 Q:=by
 have EA:la∉[LB]:=λm=>dj hl gL rfl (ak.1 m)
 refine .sg (λ_ (t:Option V×Option V×List ((Nat×Nat)×Nat))=>Li la g t.1 t.2.1 none none none none none none none none none) (λn t H'=>eH [LB] H1 H'∧H'[LB]?=some (.bX (pd .ref t.2.2))∧xZ S n 0 t.2.2∧∀p∈t.2.2,H'[p.2]?=some (.list [])∧H1[p.2]?=none) (none,none,[])
  (.pF (.attr (.attr (.var rfl) hl rfl rfl) (e _ _ h.2) rfl rfl) (.list (e _ _ h.3)) (by rw[ae,h.4];exact aj h.6.5 (by decide))) ⟨.r,gL,.zero,qo⟩ (λt=>t.1.new fL e _ _ h.3) ?_ ?_
 ·intro n a t H2 K ha h2 cq _
  obtain⟨x2,x3,l⟩:=t
  obtain⟨x,PV,lk,fr⟩:=h2
  refine h.at_ ha λs ia ma ra es st=>?_
  have E:=x.new fL e
  have rl:=h.qx es
  have zn:=(ah.1 es).1
  have zz:=h.6.5
  refine .jW (λ_ (t:Option V×List ((Nat×Nat)×Nat))=>Li la g (some (.ref a)) t.1 none none none none none none none none none) (λk t H'=>eH [LB] H1 H'∧H'[LB]?=some (.bX (pd .ref t.2))∧xZ S n k t.2∧∀p∈t.2,H'[p.2]?=some (.list [])∧H1[p.2]?=none) (x3,l)
   (.d3 (.attr (.var rfl) (E _ _ st.1) rfl rfl) (E _ _ st.4) (by rw[aW];exact aj rl (by decide))) ⟨x,PV,lk,fr⟩ (λt=>t.1.new fL e _ _ st.4) ?_ ?_
  ·intro k r t H3 K hr h3 cq _
   obtain⟨y3,l⟩:=t
   obtain⟨x,EE,lk,fr⟩:=h3
   have EE:H3[LB]?=some (.bX (pd .ref l)):=EE
   have lk:xZ S n k l:=lk
   have E:=x.new fL e
   have kl:=(ah.1 hr).1
   have nd:=h.rq es
   have ll:=lk.4
   refine hS λb H4 j fb gb eb=>.br j (.attr (.var rfl) (eb _ _ (x _ _ EA hl)) rfl rfl) (.tup (.av (.attr (.var rfl) (eb _ _ (E _ _ st.1)) rfl rfl) (.av (.var rfl) .bm)) (ic _ rfl))
    (.bX (k:=[(n:Int),(r:Int)]) (eb _ _ EE) (by rw[yZ];exact ax ll (aw (gJ (bF 5 (aj (aI zn) zz)) (aw kl rl)) (by decide)))) (.nil (cq (some (.int r),l++[((n,r),b)]) rfl ⟨(x.trans (.of eb)).set (ak.2 rfl),?_,lk.add es hr nd,λp m=>?_⟩))
   ·rw[dq (eb _ _ EE)];exact congrArg (λd=>some (O.bX d)) (ED (f:=V.ref) (k:=(n,r)) (lk.new es hr nd) b)
   ·rcases aE.1 m with m|m
    ·exact⟨eK (eb _ _ (fr p m).1) (dj (fr p m).1 EE rfl),(fr p m).2⟩
    ·rw[ak.1 m]
     refine⟨eK gb (dj gb (eb _ _ EE) rfl),?_⟩
     cases c:H1[b]? with
     |none=>rfl
     |some o=>
      exact c7 fb (x b o (vQ (e_ fb EE).symm) c)
  ·intro t H3 h3
   exact .nil (cq (some (.ref a),t.1,t.2) rfl ⟨h3.1,h3.2.1,h3.2.2.1.next es rl,h3.2.2.2⟩)
 ·intro t H2 h2
  exact k t.1 t.2.1 t.2.2 H2 h2.1 h2.2.1 (h.4▸h2.2.2.1) h2.2.2.2
end
section
structure IU where
 la:Nat
 N:Nat
 TL:Nat
 IX:Nat
 DL:Nat
 RL:Nat
 IL:Nat
 UL:Nat
 LB:Nat
structure x_ where
 fb:List Bool
 ts:List (Nat×Nat)
 d:List (List Int×V)
 IA:List Nat
 UA:List Nat
 l:List ((Nat×Nat)×Nat)
 B:List Nat
noncomputable def IU.fs (a:IU) (u:Nat):List (Nat×V):=laG u a.N a.TL a.IX a.DL a.RL a.IL a.UL a.LB
inductive Fi (H0 H2:Hp) (u g:Nat) (G:aJ) (A:GA) (LS:Nat) (SA:List Nat) (S:List cT) (a:IU) (t:x_):Prop
 |mk (On:bN H0 u g G A LS SA S) (e:Ext H0 H2) (fB:∀b∈t.B,H0[b]?=none) (hl:H2[a.la]?=some (.inst 6 (a.fs u))) (gN:H2[a.N]?=some (.list (vP t.fb))) (fl:t.fb.length=8) (gT:H2[a.TL]?=some (.list (t.ts.map tV))) (gI:H2[a.IX]?=some (.bX t.d)) (Op:H2[a.IL]?=some (.list (t.IA.map .ref))) (Oq:H2[a.UL]?=some (.list (t.UA.map .ref))) (FC:H2[a.LB]?=some (.bX (pd .ref t.l))) (il:t.IA.length=t.ts.length) (ul:t.UA.length=t.ts.length) (kN:a.N∉t.B) (kT:a.TL∉t.B) (kIL:a.IL∉t.B) (kUL:a.UL∉t.B) (kla:a.la∉t.B) (kIX:a.IX∉t.B) (kLB:a.LB∉t.B) (bI:∀b∈t.IA,b∈t.B) (bU:∀b∈t.UA,b∈t.B) (bL:∀p∈t.l,p.2∈t.B) (tr:p9 S S.length [] t.ts) (ix:Ix t.ts t.d) (lk:xZ S S.length 0 t.l)
noncomputable def xB (S:List cT) (t:x_) (c:Nat->List Nat) (x p:Nat) (w:List Nat) (i:Nat):Prop:=
 ∀(X at_ y b:Nat),w[i]?=some X->5≤X->(∀Z∈w.drop (i+1),t.fb[Z]?=some true)->Walk S p (w.take i) at_->t.ts[y]?=some (at_,X)->t.IA[y]?=some b->x∈c b
noncomputable def Os (S:List cT) (t:x_) (c:Nat->List Nat) (x p:Nat) (w:List Nat) (r:Nat):Prop:=∀(e b:Nat),Walk S p w e->((e,r),b)∈t.l->x∈c b
theorem xB.le {S t c c' x p w i} (h:xB S t c x p w i) (k:Le c c'):xB S t c' x p w i:=λX at_ y b a1 a2 a3 a4 a5 a6=>k _ _ (h X at_ y b a1 a2 a3 a4 a5 a6)
theorem Os.le {S t c c' x p w r} (h:Os S t c x p w r) (k:Le c c'):Os S t c' x p w r:=λe b a1 a2=>k _ _ (h e b a1 a2)
theorem Walk.E {S:List cT} {q p:Nat} {w:List Nat} {R:Prop} (a:Walk S q w p) (h0:w=[]->q=p->R) (h1:∀m v X,w=v++[X]->Walk S q v m->Mv S m X p->R):R:=by
 cases a with
 |nil=>exact h0 rfl rfl
 |snoc a m=>exact h1 _ _ _ rfl a m
theorem tT {S:List cT} {G:aJ} (h:oZ G S) {q p:Nat} {w:List Nat} (a:Walk S q w p):∀{p'},Walk S q w p'->p=p':=by
 induction a with
 |nil=>exact λb=>b.E (λ_ e=>e) λ_ _ _ e=>absurd e.symm (iL _ (jg _ _))
 |snoc a m1 ih=>
  exact λb=>b.E (λe=>absurd e (iL _ (jg _ _))) λ_ _ _ e b m2=>by
   have w:=List.append_inj' e rfl
   exact m1.det h (ih (w.1▸b)▸(bC w.2).1▸m2)
section
variable {H0 H2 H:Hp} {u g LS:Nat} {G:aJ} {A:GA} {SA:List Nat} {S:List cT} {a:IU} {t:x_} {R:Prop} {c:Nat->List Nat}
theorem Fi.x (F:Fi H0 H2 u g G A LS SA S a t) (b:yY H2 H t.ts.length t.B c):Ext H0 H:=b.1.ext F.2 F.3
theorem Fi.tl (F:Fi H0 H2 u g G A LS SA S a t):t.ts.length≤2^23:=aj F.24.4 (aj (bF 8 F.1.6.5) (by decide))
theorem Ku (o:G.Ok) {i s:Nat} (h:G.af i=some s):s≠5:=by
 have m:s∈G.right (G.rl i):=am h
 cases e:G.rules[G.rl i]? with
 |none=>rw[aJ.right,e]at m;exact absurd m aR
 |some x=>
  rw[qz e]at m
  refine(pY (G.rl i)).elim (λk=>?_) λk=>(by decide:∀s∈[3,4,6,7],s≠5) s (Nc (o.5 _ x e k s m))
  have e0:G.rules[0]?=some x:=k▸e
  have:=o.4;rw[e0]at this
  exact(by decide:∀s∈[6,0],s≠5) s ((ay this:x.right=[6,0])▸m)
theorem Bz (F:Fi H0 H2 u g G A LS SA S a t) {x p Bs r k:Nat} {x2 fJ fX:Option V} {Q:Fl->Lc->Hp->Prop} {rest:i6} (bg:yY H2 H t.ts.length t.B c) (hx:x<t.ts.length) (z:r<5) (it:It S p (G.off r))
  (hk:∀i X,(G.right r)[i]?=some X->(∀Z∈(G.right r).drop (i+1),t.fb[Z]?=some true)->k≤i) {gO:Option V}
  (q:∀c' H' at_ gO fJ fX,yY H2 H' t.ts.length t.B c'->Le c c'->(∀i,xB S t c' x p (G.right r) i)->Walk S p (G.right r) at_->It S at_ (G.off r+(G.right r).length)->eH t.B H H'->
   cB rest (Li a.la g x2 (some (.int r)) (some (.int x)) (some (.int p)) (some (.int Bs)) (some (.tup (vn (G.right r)))) (some (.int k)) (some (.int at_)) gO fJ fX) H' Q):
  cB (.cons ((((bo 52).at 2).in.at 1).in.at 3) rest)
   (Li a.la g x2 (some (.int r)) (some (.int x)) (some (.int p)) (some (.int Bs)) (some (.tup (vn (G.right r)))) (some (.int k)) (some (.int p)) gO fJ fX) H Q:=by
 have PW:=iF.rj F.1.1.13 r
 have zw:(vn (G.right r)).length≤SZ:=lM (by rw[aW];exact aj PW (by decide))
 refine .tA (G.right r).length (λ_ (s:(Nat->List Nat)×Nat×Option V×Option V×Option V)=>Li a.la g x2 (some (.int r)) (some (.int x)) (some (.int p)) (some (.int Bs)) (some (.tup (vn (G.right r)))) (some (.int k)) (some (.int s.2.1)) s.2.2.1 s.2.2.2.1 s.2.2.2.2)
  (λn s H'=>C6 (yY H2 H' t.ts.length t.B s.1) (Le c s.1) (Walk S p ((G.right r).take n) s.2.1) (It S s.2.1 (G.off r+n)) (eH t.B H H') (∀i<n,xB S t s.1 x p (G.right r) i)) (c,p,gO,fJ,fX)
  ((JE.len (.var rfl) (.tup zw)).to (by rw[aW])) (aj PW (by decide)) ⟨bg,.r,.nil p,it,.r,λ_ h=>absurd h (bc _)⟩ (λn s H3 K hn h3 cq _=>?_) λs H3 h3=>?_
 ·have hX:=ao hn
  generalize (G.right r)[n]=X at hX
  have af:=(rt F.1.1 z (aI hn)).trans hX
  refine(h3.4.mv F.1.1 F.1.6 af).elim λnx mv=>?_
  have mts:5≤X->(s.2.1,X)∈t.ts:=λz5=>mv.elim λsq w=>F.24.2 s.2.1 sq X w.1 (aA.2 ⟨_,w.2,rfl⟩) z5 (.inl (ah.1 w.1).1)
  have tail:∀c2 H4 B_,eH t.B H3 H4->yY H2 H4 t.ts.length t.B c2->Le s.1 c2->xB S t c2 x p (G.right r) n->cB (((((bo 52).at 2).in.at 1).in.at 3).in.tl.tl)
    (Li a.la g x2 (some (.int r)) (some (.int x)) (some (.int p)) (some (.int Bs)) (some (.tup (vn (G.right r)))) (some (.int k)) (some (.int s.2.1)) (some (.int n)) (some (.int X)) B_) H4 K:=λc2 H4 B_ Lp b2 IV i2=>
   .set (.bA (.attr (.var rfl) (b2.1 _ _ F.18 F.4) rfl rfl) ((F.x b2) _ _ F.1.2) rfl rfl (.av (.var rfl) (.av (.var rfl) .bm)) (mv.elim λsq w=>Av (F.1.ext (F.x b2)) w.1 w.2)) (.nil (cq (c2,nx,some (.int n),some (.int X),B_) rfl
    ⟨b2,h3.2.trans IV,by rw[aV,hX];exact h3.3.snoc mv,h3.4.next F.1.6 af mv,h3.5.trans Lp,λi hi=>(ba.1 hi).elim (λw=>(h3.6 i w).le IV) λw=>w▸i2⟩))
  refine .set (.idx (.var rfl) (.var rfl) (.DW (cR hX) zw)) ?_
  rcases a9 n k with zk|zk
  ·exact .pass (.iD (.af (.b9 (.var (i:=10) rfl) (.var (i:=8) rfl) (.geF zk)))) (tail s.1 H3 _ .r h3.1 .r λX' at' y b a1 a2 a3=>absurd zk (bG.2 (hk n X' a1 a3)))
  ·have E3:=F.x h3.1
   rcases a9 X 5 with z5|z5
   ·exact .pass (.iD (.at (.b9 (.var (i:=10) rfl) (.var (i:=8) rfl) (.geT zk)) (.af (.ur (.iu (.bA (.var rfl) (E3 _ _ F.1.1.1) rfl rfl (.av (.var rfl) .bm) (DY (F.1.1.ext E3) z5)) (.bool _) rfl)))))
     (tail s.1 H3 _ .r h3.1 .r λX' at' y b a1 a2=>absurd a2 (iK.2 (ay (hX.symm.trans a1)▸z5)))
   ·obtain⟨y,hy⟩:=aP (mts z5)
    have zy:=(ah.1 hy).1
    have hI:=ao (F.12.symm▸zy:y<t.IA.length)
    have hU:=ao (F.13.symm▸zy:y<t.UA.length)
    refine h3.1.once (F.21 _ (am hI)) hx F.tl λc2 H4 j b2 IV m2 Lp=>?_
    have i2:∀c3,Le c2 c3->xB S t c3 x p (G.right r) n:=λc3 IW X' at' y' b a1 a2 a3 a4 a5 a6=>by
     have e:y'=y:=(cP (ah.1 a5).1 F.24.3).1 (a5.trans (tT F.1.6 h3.3 a4▸ay (hX.symm.trans a1)▸hy.symm))
     exact ay (hI.symm.trans (e▸a6))▸IW _ _ m2
    refine .then (.iD (.at (.b9 (.var (i:=10) rfl) (.var (i:=8) rfl) (.geT zk)) (.at (.ur (.iu (.bA (.var rfl) (E3 _ _ F.1.1.1) rfl rfl (.av (.var rfl) .bm) (DZ (F.1.1.ext E3) z5)) (.bool _) rfl)) .lw)))
     (.set (.idx (.attr (.var rfl) (h3.1.1 _ _ F.18 F.4) rfl rfl) (.tup (.av (.var rfl) (.av (.var rfl) .bm)) (ic _ rfl)) (.dict ((d6.t (k:=[(s.2.1:Int),(X:Int)]) (h3.1.1 _ _ F.19 F.8)).to (F.25.1 y s.2.1 X hy))))
      (.expr (.call (.av (.idx (.attr (.var rfl) (h3.1.1 _ _ F.18 F.4) rfl rfl) (.var rfl) (.nat (h3.1.1 _ _ F.16 F.9) (dB hI))) (.av (.var rfl) .bm)) j) ?_))
    refine .ite (.b9 (.var rfl) .lit (.eq (.int (n:Int) 0))) (λ_=>?_) λ_=>.nil (.nil (tail c2 H4 _ Lp b2 IV (i2 c2 .r)))
    exact b2.once (F.22 _ (am hU)) hx F.tl λc3 H5 j b3 IW _ PX=>.expr (.call (.av (.idx (.attr (.var rfl) (b2.1 _ _ F.18 F.4) rfl rfl) (.var rfl) (.nat (b2.1 _ _ F.17 F.10) (dB hU))) (.av (.var rfl) .bm)) j) (.nil (.nil (tail c3 H5 _ (Lp.trans PX) b3 (IV.trans IW) (i2 c3 IW))))
 ·refine q s.1 H3 s.2.1 _ _ _ h3.1 h3.2 (λi=>?_) (by have:=h3.3;rw[aN]at this;exact this) h3.4 h3.5
  rcases a9 i (G.right r).length with w|w
  ·exact h3.6 i w
  ·exact λX at_ y b a1=>c7 (bT w) a1
end
end
section
variable {H0 H2 H:Hp} {u g LS:Nat} {G:aJ} {A:GA} {SA:List Nat} {S:List cT} {a:IU} {t:x_} {R:Prop} {c:Nat->List Nat}
noncomputable def y0 (G:aJ) (S:List cT) (t:x_) (c:Nat->List Nat) (x p r:Nat):Prop:=(∀i,xB S t c x p (G.right r) i)∧Os S t c x p (G.right r) r
theorem y0.le {x p r:Nat} {c':Nat->List Nat} (h:y0 G S t c x p r) (k:Le c c'):y0 G S t c' x p r:=⟨λi=>(h.1 i).le k,h.2.le k⟩
noncomputable def Kv (G:aJ) (S:List cT) (t:x_) (c:Nat->List Nat) (n:Nat):Prop:=∀x<n,∀p B,t.ts[x]?=some (p,B)->∀r∈G.gx B,y0 G S t c x p r
theorem pR (o:G.Ok) {r s:Nat}:r∈G.gx s↔r<5∧G.left r=s:=by
 rw[aJ.gx,bB,a_,o.1,beq_iff_eq]
 refine and_congr_right λz=>?_
 rw[aJ.left,ao (o.1.symm▸z)]
 exact⟨λh=>ay h,λh=>congrArg some h⟩
theorem It.red (hG:cg H g G A) (h:oZ G S) {r e:Nat} {s:cT} (z0:0<r) (z:r<5) (ee:S[e]?=some s) (m:It S e (G.off r+(G.right r).length)):r∈s.red:=
 have w:G.rl (G.off r+(G.right r).length)=r:=aJ.kY (hG.13.1▸z) (aC _)
 (tR h ee).2 ⟨_,m,(rt hG z (aC _)).trans (bT (aC _)),λk=>du z0 (w.symm.trans k),w⟩
theorem BA (F:Fi H0 H2 u g G A LS SA S a t) {x p Bs:Nat} {x2 x3 x7 x8 x9 gO fJ fX:Option V} {Q:Fl->Lc->Hp->Prop} {rest:i6} (bg:yY H2 H t.ts.length t.B c) (hx:t.ts[x]?=some (p,Bs))
  (q:∀c' H' x3 x7 x8 x9 gO fJ fX,yY H2 H' t.ts.length t.B c'->Le c c'->(∀r∈G.gx Bs,y0 G S t c' x p r)->cB rest (Li a.la g x2 x3 (some (.int x)) (some (.int p)) (some (.int Bs)) x7 x8 x9 gO fJ fX) H' Q):
  cB (.cons (((bo 52).at 2).in.at 1) rest) (Li a.la g x2 x3 (some (.int x)) (some (.int p)) (some (.int Bs)) x7 x8 x9 gO fJ fX) H Q:=by
 have hxl:=(ah.1 hx).1
 refine(show ∃s,S[p]?=some s∧Bs∈s.mv.map (·.1) from(F.24.1 _ (am hx)).2.2).elim λs es=>(aA.1 es.2).elim λmv em=>(Mv.it F.1.6 ⟨s,es.1,em.1⟩).elim λi0 a0=>?_
 have a0':G.af i0=some Bs:=a0.2.trans (congrArg some em.2)
 refine rO (F.1.1.ext (F.x bg)) (F.1.yX es.1 es.2) λW H3 j fW gW eW=>?_
 refine .jW (λ_ (s:(Nat->List Nat)×Option V×Option V×Option V×Option V×Option V×Option V×Option V)=>Li a.la g x2 s.2.1 (some (.int x)) (some (.int p)) (some (.int Bs)) s.2.2.1 s.2.2.2.1 s.2.2.2.2.1 s.2.2.2.2.2.1 s.2.2.2.2.2.2.1 s.2.2.2.2.2.2.2)
  (λn s H'=>C4 (yY H2 H' t.ts.length t.B s.1) (H'[W]?=some (.list (vn (G.gx Bs)))) (Le c s.1) (∀r∈(G.gx Bs).take n,y0 G S t s.1 x p r)) (c,x3,x7,x8,x9,gO,fJ,fX)
  (.d3 (.bA (.var rfl) ((F.x bg) _ _ F.1.1.1) rfl rfl (.av (.var rfl) .bm) j) gW (by rw[aW];exact aj (kt F.1.1 _) (by decide)))
  ⟨⟨bg.1.trans (.of eW),λb m=>⟨eW _ _ (bg.2 b m).1,(bg.2 b m).2⟩⟩,gW,.r,qo⟩ (λh=>h.2) (λn r s4 H4 K hr h4 cq _=>?_) λs H4 h4=>?_
 ·have w:=(pR F.1.1.13).1 (am hr)
  have z0:0<r:=dK λk=>Ku F.1.1.13 a0' (w.2.symm.trans (k▸vW F.1.1.13 (by decide)))
  have E4:=F.x h4.1
  refine F.1.1.at_ w.1 λar ru r1 r2 r3 r4 r5=>vY (h4.1.1 _ _ F.18 F.4) rfl (h4.1.1 _ _ F.14 F.5) F.6 (λs m=>iF.lT F.1.1.13 m) (iF.rj F.1.1.13 r) λk jk hk=>?_
  refine .set (v:=.tup (vn (G.right r))) (.attr (.idx (.attr (.var rfl) (E4 _ _ F.1.1.1) rfl rfl) (.var rfl) (.nat (E4 _ _ F.1.1.2) (dB r1))) (E4 _ _ r3) rfl (r5▸rfl)) (.set (.bA (.var rfl) (h4.1.1 _ _ F.18 F.4) rfl rfl (.av (.var rfl) .bm) jk) (.set (.var rfl) ?_))
  refine Bz (Bs:=Bs) F h4.1 hxl w.1 (a0.1.close F.1.1 F.1.6 (w.2.symm▸a0') w.1) hk λc2 H5 e IH II B_ b2 IV Hh wk ite Lp=>ite.elim λse me=>?_
  refine(aP (It.red F.1.1 F.1.6 z0 w.1 me.1 ite)).elim λj2 hj2=>(F.26.1 e se j2 r me.1 hj2 (.inl (ah.1 me.1).1)).elim λb mb=>?_
  refine b2.once (F.23 _ mb) hxl F.tl λc3 H6 j3 b3 IW m3 PX=>.expr (.call (.av (.idx (.attr (.var rfl) (b2.1 _ _ F.18 F.4) rfl rfl) (.tup (.av (.var rfl) (.av (.var rfl) .bm)) (ic _ rfl)) (.dict ((d6.t (k:=[(e:Int),(r:Int)]) (b2.1 _ _ F.20 F.11)).to (vZ (k:=(e,r)) F.26.3 mb)))) (.av (.var rfl) .bm)) j3)
   (.nil (cq (c3,some (.int r),_,_,_,_,_,_) rfl ⟨b3,(Lp.trans PX) _ _ (λm=>c7 fW (bg.2 _ m).1) h4.2,h4.3.trans (IV.trans IW),λr' m'=>?_⟩))
  rw[aV,hr]at m'
  exact(aE.1 m').elim (λm'=>(h4.4 r' m').le (IV.trans IW)) λm'=>(ak.1 m').symm▸(show y0 G S t c3 x p r from⟨λi=>(Hh i).le IW,λe' b' wk' mb'=>
   (congrArg (·.2) (iN (f:=(·.1)) F.26.3 mb mb' (congrArg (·,r) (tT F.1.6 wk wk'))):b=b')▸m3⟩)
 ·have w:=h4.4
  rw[aN]at w
  exact q s.1 H4 _ _ _ _ _ _ _ h4.1 h4.3 w
end
section
noncomputable def x_.of (fb:List Bool) (ts:List (Nat×Nat)) (d:List (List Int×V)) (IA UA:List Nat) (l:List ((Nat×Nat)×Nat)):x_:=⟨fb,ts,d,IA,UA,l,(IA++UA)++l.map (·.2)⟩
variable {H0 H1:Hp} {u g LS:Nat} {G:aJ} {A:GA} {SA:List Nat} {S:List cT} {R:Prop}
theorem v5 {α:Type} {P:α->Prop} {l m:List α} (h:∀b∈l,P b) (k:∀b∈m,P b):∀b∈l++m,P b:=λb w=>(aE.1 w).elim (h b) (k b)
theorem all_map {α β:Type} {P:β->Prop} {f:α->β} {l:List α} (h:∀b∈l,P (f b)):∀b∈l.map f,P b:=λb w=>(aA.1 w).elim λx q=>q.2▸h x q.1
theorem ry (On:bN H0 u g G A LS SA S) (e:Ext H0 H1) (a:IU) {fb ts d IA UA} (hl:H1[a.la]?=some (.inst 6 (a.fs u))) (gN:H1[a.N]?=some (.list (vP fb))) (fl:fb.length=8) (gT:H1[a.TL]?=some (.list (ts.map tV))) (gI:H1[a.IX]?=some (.bX d))
  (Op:H1[a.IL]?=some (.list (IA.map .ref))) (Oq:H1[a.UL]?=some (.list (UA.map .ref))) (FC:H1[a.LB]?=some (.bX [])) (il:IA.length=ts.length) (ul:UA.length=ts.length) (fLB:H0[a.LB]?=none) (nIX:a.IX≠a.LB)
  (emp:∀b∈IA++UA,H1[b]?=some (.list [])∧H0[b]?=none) (kp:∀x∈[a.N,a.TL,a.IL,a.UL],x∉IA++UA) (tr:p9 S S.length [] ts) (ix:Ix ts d)
  (q:∀l c H2 H',JR 52 [.ref a.la] H1 .none H'->Fi H0 H2 u g G A LS SA S a (.of fb ts d IA UA l)->yY H2 H' ts.length (x_.of fb ts d IA UA l).B c->Kv G S (.of fb ts d IA UA l) c ts.length->eH (a.LB::(IA++UA)) H1 H'->R):R:=by
 refine dc 52 [.ref a.la] H1 rfl rfl (L:=[some (.ref a.la),none,none,none,none,none,none,none,none,none,none,none,none]) rfl λQ q'=>.set (.attr (.attr (.var rfl) hl rfl rfl) (e _ _ On.2) rfl rfl) ?_
 refine xA (la:=a.la) On e hl FC fLB λx2 x3 l H2 x PV lk fr=>?_
 have n1:∀{b:Nat} {o:O},H1[b]?=some o->b≠a.LB->H2[b]?=some o:=λk n=>x _ _ (vQ n) k
 have nB:∀{b:Nat} {o:O},H1[b]?=some o->b∉IA++UA->b∉(x_.of fb ts d IA UA l).B:=λk n m=>(aE.1 m).elim n λm=>(aA.1 m).elim λp q=>c7 (fr p q.1).2 (q.2▸k)
 have nk:∀{b:Nat} {o:O},H1[b]?=some o->Nat.beq o.ctorIdx 0=false->b∉IA++UA:=λk n m=>dj k (emp _ m).1 n rfl
 have F:Fi H0 H2 u g G A LS SA S a (.of fb ts d IA UA l):=
  ⟨On,x.new fLB e,v5 (λb m=>(emp b m).2) (all_map λp m=>e.none (fr p m).2),
  n1 hl (dj hl FC rfl),n1 gN (dj gN FC rfl),fl,n1 gT (dj gT FC rfl),n1 gI nIX,n1 Op (dj Op FC rfl),n1 Oq (dj Oq FC rfl),PV,il,ul,
  nB gN (kp _ (.head _)),nB gT (kp _ (.tail _ (.head _))),nB Op (kp _ (.tail _ (.tail _ (.head _)))),nB Oq (kp _ (.tail _ (.tail _ (.tail _ (.head _))))),nB hl (nk hl rfl),nB gI (nk gI rfl),nB FC (nk FC rfl),
  λb m=>aY _ (aY _ m),λb m=>aY _ (aB _ m),λp m=>aB _ (aA.2 ⟨p,m,rfl⟩),tr,ix,lk⟩
 have bg:yY H2 H2 ts.length (x_.of fb ts d IA UA l).B λ_=>[]:=⟨.r,λb m=>⟨v5 (P:=λb=>H2[b]?=some (.list [])) (λb m=>n1 (emp b m).1 (dj (emp b m).1 FC rfl)) (all_map λp m=>(fr p m).1) b m,.nil,qo⟩⟩
 have tl:=F.tl
 refine .GY ts.length (λ_ (s:(Nat->List Nat)×Option V×Option V×Option V×Option V×Option V×Option V×Option V×Option V×Option V×Option V)=>Li a.la g x2 s.2.1 s.2.2.1 s.2.2.2.1 s.2.2.2.2.1 s.2.2.2.2.2.1 s.2.2.2.2.2.2.1 s.2.2.2.2.2.2.2.1 s.2.2.2.2.2.2.2.2.1 s.2.2.2.2.2.2.2.2.2.1 s.2.2.2.2.2.2.2.2.2.2)
  (λn s H'=>C2 (yY H2 H' ts.length (x_.of fb ts d IA UA l).B s.1) (Kv G S (.of fb ts d IA UA l) s.1 n)) (λ_=>[],x3,none,none,none,none,none,none,none,none,none)
  ((JE.len (.attr (.var rfl) F.4 rfl rfl) (.list F.7 (by rw[ae];exact aj tl (by decide)))).to (by rw[ae];rfl)) (aj tl (by decide)) ⟨bg,λx h=>absurd h (bc _)⟩ (λn s H3 K hn h3 cq _=>?_) λs H3 h3=>?_
 ·have hx:=ao hn
  generalize ts[n]=pB at hx
  refine .J2 (x:=.int pB.1) (y:=.int pB.2) (.idx (.attr (.var rfl) (h3.1.1 _ _ F.18 F.4) rfl rfl) (.var rfl) (.nat (h3.1.1 _ _ F.15 F.7) (get_map hx))) ?_
  exact BA (x2:=x2) F h3.1 hx λc2 H4 y3 y7 y8 y9 IH II B_ b4 le Hh=>.nil (cq (c2,y3,some (.int n),some (.int pB.1),some (.int pB.2),y7,y8,y9,IH,II,B_) rfl ⟨b4,λx hx' p' B' e' r mr=>
   (ba.1 hx').elim (λw=>(h3.2 x w p' B' e' r mr).le le) λw=>by
    have e:pB=(p',B'):=ay (hx.symm.trans (w▸e'))
    rw[e]at Hh;exact w.symm▸Hh r mr⟩)
 ·exact .nil (q' λj=>q l s.1 H2 H3 j F h3.1 h3.2 λb o nb hb=>h3.1.1 b o (nB hb λm=>nb (aL _ m)) (n1 hb λk=>nb (k▸aQ ..)))
end
section
noncomputable def tU (ms:List Nat) (row:List Nat):Nat:=row.foldl (λm x=>m|||ms.getD x 0) 0
theorem BB {ms row:List Nat}:∀m t,(row.foldl (λm x=>m|||ms.getD x 0) m).testBit t=true↔m.testBit t=true∨∃x∈row,(ms.getD x 0).testBit t=true:=by
 induction row with
 |nil=>exact λm t=>⟨.inl,λh=>h.elim id λh=>h.elim λx q=>absurd q.1 aR⟩
 |cons a l ih=>exact λm t=>(ih _ t).trans (by rw[bY,fO,or_assoc,Ap])
theorem BC {ms row:List Nat} {t:Nat}:(tU ms row).testBit t=true↔∃x∈row,(ms.getD x 0).testBit t=true:=(BB 0 t).trans ⟨λh=>h.elim (λh=>ff ((je t).symm.trans h)) id,.inr⟩
theorem EF {ms row:List Nat} (h:∀s∈ms,s<32):tU ms row<32:=by
 have:∀m,m<32->row.foldl (λm x=>m|||ms.getD x 0) m<32:=by
  induction row with
  |nil=>exact λm h=>h
  |cons a l ih=>exact λm z=>ih _ (dC (n:=5) z (jj h))
 exact this 0 (by decide)
noncomputable def jm (ms:List Nat) (c:Nat->List Nat) (l:List ((Nat×Nat)×Nat)):List ((Nat×Nat)×Nat):=l.map λp=>(p.1,tU ms (c p.2))
variable {H1:Hp} {R:Prop}
theorem BD {la LB FM n:Nat} {fs:List (Nat×V)} {l:List ((Nat×Nat)×Nat)} {c:Nat->List Nat} {ms:List Nat} (hl:H1[la]?=some (.inst 6 fs)) (g1:qO 59 fs=some (.ref LB)) (g2:qO 63 fs=some (.ref FM)) (gL:H1[LB]?=some (.bX (pd .ref l))) (gF:H1[FM]?=some (.list (vn ms)))
  (nd:(l.map (·.1)).Nodup) (ll:l.length≤2^23) (rows:∀p∈l,H1[p.2]?=some (.list (vn (c p.2)))∧Row n (c p.2)) (ml:ms.length=n) (nz:n≤2^23)
  (q:∀M H',JR 53 [.ref la] H1 (.ref M) H'->H1[M]?=none->Ext H1 H'->H'[M]?=some (.bX (pd vI (jm ms c l)))->R):R:=by
 refine dc 53 [.ref la] H1 rfl rfl (L:=[some (.ref la),none,none,none,none]) rfl λQ q'=>lS λM H2 j fM gM eM=>.set j ?_
 have PY:∀{b:Nat} {o:O},H1[b]?=some o->Nat.beq o.ctorIdx 2=false->(H2.set LB (.ft (pd .ref l)))[b]?=some o:=λk n=>eK (eM _ _ k) (dj k gL n)
 have EE:(H2.set LB (.ft (pd .ref l)))[LB]?=some (.ft (pd .ref l)):=dq (eM _ _ gL)
 refine .D4 (l:=l) (λp=>.tup (di [(p.1.1:Int),(p.1.2:Int)])) (λ_ (s:Option V×Option V×Option V)=>[some (.ref la),some (.ref M),s.1,s.2.1,s.2.2]) (λk s H'=>C2 (eH [M] (H2.set LB (.ft (pd .ref l))) H') (H'[M]?=some (.bX (pd vI (jm ms c (l.take k)))))) (none,none,none)
  (JI.to (.pF (.attr (.var rfl) (eM _ _ hl) rfl g1) (.bX (eM _ _ gL)) (by rw[ae,yZ];exact aj ll (by decide))) bJ) ⟨.r,eK gM (e_ fM gL).symm⟩ (λh=>h.1 _ _ (yM fM gL) EE) (λk y s H3 K Ot h3 cq _=>?_) λs H3 h3=>?_
 ·have Ou:=rows _ (am Ot)
  have Lq:=h3.1 _ _ (yM fM Ou.1) (PY Ou.1 rfl)
  have Oi:=h3.1 _ _ (yM fM hl) (PY hl rfl)
  refine .set .lit (.jW (λ_ (s:Nat×Option V)=>[some (.ref la),some (.ref M),some (.tup (di [(y.1.1:Int),(y.1.2:Int)])),some (.int s.1),s.2]) (λi s H'=>C2 (H'=H3) (s.1=((c y.2).take i).foldl (λm x=>m|||ms.getD x 0) 0)) (0,s.2.2)
   (.pF (.idx (.attr (.var rfl) Oi rfl g1) (.var rfl) (.dict ((d6.ft (k:=[(y.1.1:Int),(y.1.2:Int)]) (h3.1 _ _ (yM fM gL) EE)).to (vZ (k:=y.1) nd (am Ot))))) (.list Lq) (by rw[aW];exact aj Ou.2.len (aj nz (by decide)))) ⟨rfl,rfl⟩ (λh=>h.1▸Lq) (λi x s H4 K hy h4 cq _=>?_) λs H4 h4=>?_)
  ·have e:=h4.1
   exact .set (.bin (.var rfl) (.idx (.attr (.var rfl) (e▸Oi) rfl g2) (.var rfl) (.nat (e▸h3.1 _ _ (yM fM gF) (PY gF rfl)) (cR (getD_at (d:=0) (ml.symm▸Ou.2.2 x (am hy)))))) (.bor _ _ _)) (.nil (cq (_,some (.int x)) rfl ⟨e,(congrArg (· |||_) h4.2).trans (iG (λm x=>m|||ms.getD x 0) 0 hy).symm⟩))
  ·have IP:=h4.1▸h3.2
   have nk:y.1∉(jm ms c (l.take k)).map (·.1):=by
    rw[jm,bJ,show((λx:(Nat×Nat)×Nat=>x.1)∘λp:(Nat×Nat)×Nat=>(p.1,tU ms (c p.2)))=(·.1) from rfl,iv]
    exact gV nd (get_map Ot)
   refine .br (.var rfl) (.var rfl) (.var rfl) (.bX (k:=[(y.1.1:Int),(y.1.2:Int)]) IP ?_) (.nil (cq (_,_,_) rfl ⟨h4.1▸h3.1.set (ak.2 rfl),(dq IP).trans (congrArg (λd=>some (O.bX d)) ?_)⟩))
   ·rw[yZ,jm,ae];exact ax (bM _ _) (ax ll (by decide))
   ·have e:s.1=tU ms (c y.2):=h4.2.trans (by rw[aN];rfl)
    rw[e,aV,Ot]
    exact(ED (f:=vI) (k:=y.1) nk (tU ms (c y.2))).trans (by rw[jm,jm,az];rfl)
 ·have IP:=h3.2
  rw[aN]at IP
  refine .ret (.var rfl) (q' λj=>q M _ j fM (λb o hb=>?_) (eK IP (e_ fM gL).symm))
  by_cases w:b=LB
  ·rw[w]at hb ⊢;exact(dq (h3.1 _ _ (yM fM gL) EE)).trans (gL.symm.trans hb)
  ·exact eK (h3.1 _ _ (yM fM hb) (eK (eM _ _ hb) w)) w
end
section
namespace Dg
noncomputable def Sb (a b:Nat):Prop:=∀t,a.testBit t=true->b.testBit t=true
theorem Sb.r {a:Nat}:Sb a a:=λ_ h=>h
theorem Sb.trans {a b c:Nat} (h:Sb a b) (k:Sb b c):Sb a c:=λt w=>k t (h t w)
theorem Sb.l {a b:Nat}:Sb a (a|||b):=λt h=>by rw[bY,h];rfl
theorem Sb.rr {a b:Nat}:Sb b (a|||b):=λt h=>by rw[bY,h,fE]
noncomputable def upd (f:Nat->Nat) (x v:Nat):Nat->Nat:=λz=>if z=x then v else f z
theorem tW {f x v}:upd f x v x=v:=if_pos rfl
theorem rQ {f x v z} (h:z≠x):upd f x v z=f z:=if_neg h
theorem mZ {α:Type} {c:Prop} [Decidable c] (P:α->Prop) {a b:α} (h1:c->P a) (h2:¬c->P b):P (if c then a else b):=by
 by_cases z:c
 ·rw[if_pos z];exact h1 z
 ·rw[if_neg z];exact h2 z
theorem rR (P:Nat->Prop) {f:Nat->Nat} {x v z:Nat} (h1:z=x->P v) (h2:z≠x->P (f z)):P (upd f x v z):=mZ P h1 h2
theorem Sb.eq {a b:Nat} (e:a=b):Sb a b:=e▸Sb.r
variable(rel:Nat->List Nat) (n:Nat) (m0:Nat->Nat)
noncomputable def FD (h:Nat->Nat) (x i:Nat) (Q:Nat->Prop):Prop:=∃w,(rel x)[i]?=some w∧h w≠0∧Q w
inductive Ed (r h:Nat->Nat) (P:List Nat) (x i b z y:Nat):Prop
 |mk (v:h y≠0) (d:h y=n+1->Sb (r y) (r z)) (p:∀k,P[k]?=some y->k+1<b∧(h x≤k+1∨FD rel h x i λw=>h w≤k+1))
inductive No (r h:Nat->Nat) (P:List Nat) (x h0 i b:Nat):Prop
 |mk (lt:h0+1<b) (at_:P[h0]?=some x) (il:i≤(rel x).length) (sub:∀k z,h0<k->k+1<b->P[k]?=some z->∀t,(r z).testBit t=true->(r x).testBit t=true∨FD rel h x i λw=>(r w).testBit t=true) (fin:∀k z,h0<k->k+1<b->P[k]?=some z->∀y∈rel z,Ed rel n r h P x i b z y) (own:∀j y,j<i->(rel x)[j]?=some y->Ed rel n r h P x i b x y)
noncomputable def Frs (r h:Nat->Nat) (P:List Nat) (b:Nat) (l:List (Nat×Nat×Nat)):Prop:=
 l.rec (motive:=λ_=>Nat->Prop) (λb=>b=1) (λp fr s b=>C3 (No rel n r h P p.1 p.2.1 p.2.2 b) (s (p.2.1+1)) (∀f0 rest,fr=f0::rest->(rel f0.1)[f0.2.2]?=some p.1)) b
inductive Gl (r h:Nat->Nat) (P:List Nat):Prop
 |mk (m:∀z<n,Sb (m0 z) (r z)) (lt:∀z<n,r z<32) (nd:P.Nodup) (pl:∀z∈P,z<n) (on:∀k z,P[k]?=some z->1≤h z∧h z≤k+1) (off:∀z,z∉P->h z=0∨h z=n+1) (dn:∀z<n,h z=n+1->∀y∈rel z,h y=n+1∧Sb (r y) (r z))
variable {rel n m0} {r h:Nat->Nat} {P:List Nat} {x h0 i b y:Nat} {fr:List (Nat×Nat×Nat)}
theorem FD.imp {h':Nat->Nat} {Q Q':Nat->Prop} (p:FD rel h x i Q) (f:∀w,h w≠0->h' w≠0) (k:∀w,h w≠0->Q w->Q' w):FD rel h' x i Q':=p.elim λw q=>⟨w,q.1,f w q.2.1,k w q.2.1 q.2.2⟩
theorem FD.at {Q:Nat->Prop} (p:FD rel h x i Q) (e:(rel x)[i]?=some y):Q y:=p.elim λw q=>ay (q.1.symm.trans e)▸q.2.2
theorem Gl.len (g:Gl rel n m0 r h P):P.length≤n:=
 aj (bu g.3 (l₂:=List.range n) λz m=>a_.2 (g.4 z m)) (aD aT)
theorem Gl.le (g:Gl rel n m0 r h P) {k z:Nat} (e:P[k]?=some z):h z≤n:=aj (g.5 k z e).2 (aj (ah.1 e).1 g.len)
theorem Gl.inj (g:Gl rel n m0 r h P) {k j z:Nat} (e:P[k]?=some z) (e2:P[j]?=some z):k=j:=(cP (ah.1 e).1 g.3).1 (e.trans e2.symm)
theorem Gl.ne (g:Gl rel n m0 r h P) {k z:Nat} (e:P[k]?=some z):h z≠0:=du (g.5 k z e).1
theorem Gl.di (g:Gl rel n m0 r h P) {z:Nat} (v:h z≠0):h z=n+1∨∃k:Nat,P[k]?=some z:=by
 by_cases m:z∈P
 ·exact .inr (aP m)
 ·exact .inl ((g.6 z m).resolve_left v)
inductive PZ (n:Nat) (r h r' h':Nat->Nat) (x:Nat):Prop
 |mk (er:∀z,z≠x->r' z=r z) (sb:∀z,Sb (r z) (r' z)) (le:∀z,h' z≤h z) (nz:∀z,h z≠0->h' z≠0) (dn:∀z,h' z=n+1->C2 (h z=n+1) (z≠x))
theorem Ed.up {r' h':Nat->Nat} {x0 i0 b z y:Nat} (U:PZ n r h r' h' x) (e:Ed rel n r h P x0 i0 b z y):Ed rel n r' h' P x0 i0 b z y:=
 ⟨U.4 _ e.1,λv=>(Sb.eq (U.1 _ (U.5 _ v).2)).trans ((e.2 (U.5 _ v).1).trans (U.2 _)),λk hk=>⟨(e.3 k hk).1,(e.3 k hk).2.imp (aj (U.3 _)) λq=>q.imp U.4 λw _=>aj (U.3 w)⟩⟩
theorem Frs.mono {r' h':Nat->Nat} (g:Gl rel n m0 r h P) (ex:P[h0]?=some x) (U:PZ n r h r' h' x) {c:Nat} (s:Frs rel n r h P c fr) (hc:c≤h0+1):Frs rel n r' h' P c fr:=by
 induction fr generalizing c with
 |nil=>exact s
 |cons p fr ih=>
  have f:=s.1
  exact⟨⟨f.1,f.2,f.3,λk z k1 k2 k3 t ht=>(f.4 k z k1 k2 k3 t (Sb.eq (U.1 z λe=>cu (fG (aw k2 hc)) (g.inj k3 (e▸ex))) t ht)).imp (U.2 _ t) λq=>q.imp U.4 λw _=>U.2 w t,
   λk z k1 k2 k3 y m=>(f.5 k z k1 k2 k3 y m).up U,λj y a b=>(f.6 j y a b).up U⟩,ih s.2 (aj (aI f.1) hc),s.3⟩
theorem mnl (a b:Nat):C3 ((if a<b then a else b)≤b) ((if a<b then a else b)≤a) (a≠0->b≠0->(if a<b then a else b)≠0):=by
 by_cases c:a<b
 ·rw[if_pos c];exact⟨aI c,aC _,λh _=>h⟩
 ·rw[if_neg c];exact⟨aC _,bG.1 c,λ_ h=>h⟩
theorem BE (g:Gl rel n m0 r h P) (s:Frs rel n r h P (P.length+1) ((x,h0,i)::fr)) (e:(rel x)[i]?=some y) (yn:y<n) (v:h y≠0):
  C2 (Gl rel n m0 (upd r x (r x|||r y)) (upd h x (if h y<h x then h y else h x)) P) (Frs rel n (upd r x (r x|||r y)) (upd h x (if h y<h x then h y else h x)) P (P.length+1) ((x,h0,i+1)::fr)):=by
 have f:=s.1
 have N8:=g.le f.2
 have V:=mnl (h y) (h x)
 generalize (if h y<h x then h y else h x)=v' at V ⊢
 have U:PZ n r h (upd r x (r x|||r y)) (upd h x v') x:=⟨λz k=>rQ k,λz=>rR (Sb (r z)) (λe=>e▸Sb.l) λ_=>Sb.r,λz=>rR (· ≤h z) (λe=>e▸V.1) λ_=>aC _,
  λz w=>rR (· ≠0) (λ_=>V.3 v (g.ne f.2)) λ_=>w,λz=>rR (λu=>u=n+1->C2 (h z=n+1) (z≠x)) (λ_ w=>absurd (w▸V.1:n+1≤h x) (iK.2 (dh N8))) λk w=>⟨w,k⟩⟩
 have yx:Sb (r y) (upd r x (r x|||r y) x):=Sb.rr.trans (Sb.eq tW.symm)
 have le:∀{k:Nat},v'≤k+1->upd h x v' x≤k+1:=λa=>aj (aD tW) a
 have ed:∀{z y':Nat},Ed rel n r h P x i (P.length+1) z y'->Ed rel n (upd r x (r x|||r y)) (upd h x v') P x (i+1) (P.length+1) z y':=λq=>
  ⟨U.4 _ q.1,λw=>(Sb.eq (U.1 _ (U.5 _ w).2)).trans ((q.2 (U.5 _ w).1).trans (U.2 _)),λk hk=>⟨(q.3 k hk).1,.inl (le ((q.3 k hk).2.elim (aj V.1) λp=>aj V.2 (p.at e)))⟩⟩
 refine⟨⟨λz zn=>(g.1 z zn).trans (U.2 z),λz zn=>rR (· <32) (λ_=>dC (n:=5) (g.2 x (g.4 x (am f.2))) (g.2 y yn)) λ_=>g.2 z zn,g.3,g.4,
  λk z hk=>⟨dK (U.4 z (g.ne hk)),aj (U.3 z) (g.5 k z hk).2⟩,λz hz=>have e:upd h x v' z=h z:=rQ λc=>hz (c▸am f.2);(g.6 z hz).imp e.trans e.trans,λz zn w y' m=>?_⟩,
  ⟨f.1,f.2,(ah.1 e).1,λk z k1 k2 k3 t ht=>.inl ((f.4 k z k1 k2 k3 t (Sb.eq (U.1 z λc=>du k1 (g.inj k3 (c▸f.2))) t ht)).elim (U.2 x t) λp=>yx t (p.at e)),λk z k1 k2 k3 y' m=>ed (f.5 k z k1 k2 k3 y' m),λj y' hj ej=>?_⟩,
  Frs.mono g f.2 U s.2 (aC _),s.3⟩
 ·have a:=g.7 z zn (U.5 z w).1 y' m
  have e:y'≠x:=λk=>Nat.not_succ_le_self n (aj (aD (a.1.symm.trans (congrArg h k))) N8)
  exact⟨(rQ e).trans a.1,(Sb.eq (rQ e)).trans (a.2.trans (U.2 z))⟩
 ·refine(ba.1 hj).elim (λc=>ed (f.6 j y' c ej)) λc=>?_
  rw[ay ((c▸ej:(rel x)[i]?=some y').symm.trans e)]
  exact⟨U.4 _ v,λw=>(Sb.eq (U.1 _ (U.5 _ w).2)).trans yx,λk hk=>⟨dY (ah.1 hk).1,.inl (le (aj V.2 (g.5 k _ hk).2))⟩⟩
end Dg
end
section
namespace Dg
variable {rel:Nat->List Nat} {n:Nat} {m0 r h:Nat->Nat} {P:List Nat} {x h0 i b y:Nat} {fr:List (Nat×Nat×Nat)}
theorem y6 {α} {P:List α} {y z:α} {k:Nat} (e:(P++[y])[k]?=some z):P[k]?=some z∨(k=P.length∧z=y):=by
 rcases a9 k P.length with c|c
 ·rw[aG c]at e;exact .inl e
 ·have l:=(ah.1 e).1
  rw[aq]at l
  rw[aX c]at e
  exact .inr ⟨bR (bE l) c,ak.1 (am e)⟩
theorem tX {f:Nat->Nat} {x v z:Nat} (h:f z≠0) (k:v≠0):upd f x v z≠0:=rR (· ≠0) (λ_=>k) λ_=>h
theorem xC {f:Nat->Nat} {x v z:Nat} (e:f x=0) (h:f z≠0):upd f x v z=f z:=rQ λk=>h (k▸e)
theorem Ed.push (v:h y=0) {x0 i0 b z y':Nat} (JX:h x0≠0) (q:Ed rel n r h P x0 i0 b z y'):Ed rel n r (upd h y (P.length+1)) (P++[y]) x0 i0 b z y':=
 ⟨tX q.1 (cM _),λw=>q.2 ((xC v q.1).symm.trans w),λk hk=>(y6 hk).elim (λc=>⟨(q.3 k c).1,(q.3 k c).2.imp (aj (aD (xC v JX))) λw=>w.imp (λw a=>tX a (cM _)) λw a=>aj (aD (xC v a))⟩)
  λc=>absurd (congrArg h c.2|>.trans v) q.1⟩
theorem Frs.push (g:Gl rel n m0 r h P) (v:h y=0) {c:Nat} (s:Frs rel n r h P c fr) (hc:c≤P.length+1):Frs rel n r (upd h y (P.length+1)) (P++[y]) c fr:=by
 induction fr generalizing c with
 |nil=>exact s
 |cons p fr ih=>
  have f:=s.1
  have JX:=g.ne f.2
  have old:∀{k z:Nat},k+1<c->(P++[y])[k]?=some z->P[k]?=some z:=λa e=>(y6 e).resolve_right λw=>cu (fG (aw a hc)) w.1
  exact⟨⟨f.1,(aG (ah.1 f.2).1).trans f.2,f.3,λk z k1 k2 k3 t ht=>(f.4 k z k1 k2 (old k2 k3) t ht).imp id λq=>q.imp (λw a=>tX a (cM _)) λ_ _ q=>q,
   λk z k1 k2 k3 y' m=>(f.5 k z k1 k2 (old k2 k3) y' m).push v JX,λj y' a b=>(f.6 j y' a b).push v JX⟩,ih s.2 (aj (aI f.1) hc),s.3⟩
theorem uZ (g:Gl rel n m0 r h P) (s:Frs rel n r h P (P.length+1) fr) (l:∀f0 rest,fr=f0::rest->(rel f0.1)[f0.2.2]?=some y) (yn:y<n) (v:h y=0):
  C2 (Gl rel n m0 r (upd h y (P.length+1)) (P++[y])) (Frs rel n r (upd h y (P.length+1)) (P++[y]) ((P++[y]).length+1) ((y,P.length,0)::fr)):=by
 have ln:(P++[y]).length=P.length+1:=aq
 have nd:(P++[y]).Nodup:=gQ g.3 λm=>(aP m).elim λk e=>g.ne e v
 have pl:∀z∈P++[y],z<n:=λz m=>(aE.1 m).elim (g.4 z) λm=>ak.1 m▸yn
 have pn:P.length+1≤n:=ln▸aj (bu nd (l₂:=List.range n) λz m=>a_.2 (pl z m)) (aD aT)
 have ab:∀{k:Nat} {R:Prop},P.length<k->k+1<(P++[y]).length+1->R:=λa b=>absurd (bE (aw (fG b) (aD ln))) (iK.2 a)
 refine⟨⟨g.1,g.2,nd,pl,λk z hk=>(y6 hk).elim (λc=>(xC v (g.ne c)).symm▸g.5 k z c) λc=>?_,λz hz=>?_,λz zn w y' m=>?_⟩,
  ⟨ln.symm▸bW _,bv,bw _,λk z k1 k2=>ab k1 k2,λk z k1 k2=>ab k1 k2,λj _ w=>absurd w (bc j)⟩,Frs.push g v s (aC _),l⟩
 ·have e:upd h y (P.length+1) z=k+1:=c.2▸c.1▸tW
  exact⟨aj (hE k) (aD e.symm),aD e⟩
 ·have e:upd h y (P.length+1) z=h z:=rQ λe=>hz (e▸aB _ (.head _))
  exact(g.6 z λm=>hz (aY _ m)).imp e.trans e.trans
 ·have a:=g.7 z zn (rR (λu=>u=n+1->h z=n+1) (λ_ w=>absurd pn (iK.2 (dh (aD (hB w).symm)))) (λ_ w=>w) w) y' m
  exact⟨(xC v (a.1▸cM n)).trans a.1,a.2⟩
theorem y_ {x0 g0 i0:Nat} (s:Frs rel n r h P b ((x,h0,i)::(x0,g0,i0)::fr)) (hi:i=(rel x).length) (g:Gl rel n m0 r h P):Frs rel n r h P b ((x0,g0,i0)::fr):=by
 have f:=s.1
 have f0:=s.2.1
 have P0:∀{Q:Nat->Prop},Q x->FD rel h x0 i0 Q:=λq=>⟨x,s.3 _ _ rfl,g.ne f.2,q⟩
 have Np:∀{Q:Nat->Prop},¬FD rel h x i Q:=λp=>p.elim λw q=>c7 (bT (aD hi.symm)) q.1
 have up:∀{z y:Nat},Ed rel n r h P x i b z y->Ed rel n r h P x0 i0 b z y:=λq=>⟨q.1,q.2,λk hk=>⟨(q.3 k hk).1,.inr (P0 ((q.3 k hk).2.resolve_right Np))⟩⟩
 have wd:∀{z y:Nat},Ed rel n r h P x0 i0 (h0+1) z y->Ed rel n r h P x0 i0 b z y:=λq=>⟨q.1,q.2,λk hk=>⟨bH (q.3 k hk).1 f.1,(q.3 k hk).2⟩⟩
 have tri:∀{k z:Nat} {R:Prop},P[k]?=some z->(k<h0->R)->(z=x->R)->(h0<k->R)->R:=λ{k z R} e a b c=>(Nat.lt_trichotomy k h0).elim a λw=>w.elim (λw=>b (ay (e.symm.trans (w▸f.2)))) c
 exact⟨⟨bH f0.1 f.1,f0.2,f0.3,λk z k1 k2 k3 t ht=>tri k3 (λc=>f0.4 k z k1 (dY c) k3 t ht) (λe=>.inr (P0 (e▸ht))) λc=>.inr (P0 ((f.4 k z c k2 k3 t ht).resolve_right Np)),
  λk z k1 k2 k3 y m=>tri k3 (λc=>wd (f0.5 k z k1 (dY c) k3 y m)) (λe=>(aP m).elim λj hj=>e▸up (f.6 j y (hi▸(ah.1 (e▸hj)).1) (e▸hj))) λc=>up (f.5 k z c k2 k3 y m),
  λj y a c=>wd (f0.6 j y a c)⟩,s.2.2,s.2.3⟩
theorem BF (g:Gl rel n m0 r h P) (s:Frs rel n r h P b [(x,h0,i)]):h x=h0+1:=bR (g.5 _ _ s.1.2).2 (aj (aD s.2) (g.5 _ _ s.1.2).1)
noncomputable def o0 (P:List Nat) (h0 x:Nat) (r:Nat->Nat):Nat->Nat:=λz=>if z∈P.drop h0 then r x else r z
noncomputable def rA (P:List Nat) (h0 n:Nat) (h:Nat->Nat):Nat->Nat:=λz=>if z∈P.drop h0 then n+1 else h z
theorem sB {z k:Nat} (e:P[k]?=some z) (c:h0≤k):z∈P.drop h0:=am (i:=k-h0) (by rw[dI,cY c];exact e)
theorem qB {z:Nat} {R:Prop} (m:z∈P.drop h0) (q:∀k,h0≤k->P[k]?=some z->R):R:=(aP m).elim λk e=>q (h0+k) (bx _ _) (dI.symm.trans e)
theorem iB {α:Type} {P:List α} {z:α} {k h0:Nat} (e:(P.take h0)[k]?=some z):k<h0∧P[k]?=some z:=by
 rw[p7]at e
 by_cases c:k<h0
 ·rw[if_pos c]at e;exact⟨c,e⟩
 ·rw[if_neg c]at e;exact c7 rfl e
section
variable {z:Nat}
theorem pS (m:z∉P.drop h0):o0 P h0 x r z=r z:=if_neg m
theorem pT (m:z∉P.drop h0):rA P h0 n h z=h z:=if_neg m
theorem v6 (v:h z≠0):rA P h0 n h z≠0:=mZ (· ≠0) (λ_=>cM n) λ_=>v
theorem Gl.low (g:Gl rel n m0 r h P) {k:Nat} (c:k<h0) (e:P[k]?=some z):z∉P.drop h0:=λm=>qB m λ_ a b=>iK.2 c (g.inj e b▸a)
end
theorem Frs.cut (g:Gl rel n m0 r h P) (ex:P[h0]?=some x) (hr:h x=h0+1) {c:Nat} (s:Frs rel n r h P c fr) (hc:c≤h0+1)
  (lk:∀f0 rest,fr=f0::rest->∃w,(rel f0.1)[f0.2.2]?=some w∧P[c-1]?=some w):Frs rel n (o0 P h0 x r) (rA P h0 n h) (P.take h0) c fr:=by
 induction fr generalizing c with
 |nil=>exact s
 |cons p fr ih=>
  have f:=s.1
  refine(lk _ _ rfl).elim λw L=>?_
  have g1:p.2.1+1≤h0:=bE (aw f.1 hc)
  have xl:=g.low g1 f.2
  have wd:w∈P.drop h0->w=x:=λm=>qB m λj a b=>ay (L.2.symm.trans (show P[c-1]?=some x from(bR (dx hc) (g.inj b L.2▸a):c-1=h0)▸ex))
  have wl:∀{k:Nat},k+1<c->h w≤k+1->w∉P.drop h0:=λb a m=>bG.2 (aj (aD ((congrArg h (wd m)).trans hr).symm) a) (aw b hc)
  have ed:∀{z y:Nat},z∉P.drop h0->Ed rel n r h P p.1 p.2.2 c z y->Ed rel n (o0 P h0 x r) (rA P h0 n h) (P.take h0) p.1 p.2.2 c z y:=λ{z y} zl q=>by
   refine⟨v6 q.1,λd=>?_,λk hk=>⟨(q.3 k (iB hk).2).1,(q.3 k (iB hk).2).2.imp (aj (aD (pT xl))) λp=>?_⟩⟩
   ·have m:y∉P.drop h0:=λm=>qB m λj a b=>absurd (aw (q.3 j b).1 hc) (bG.2 (aM a))
    exact(Sb.eq (pS m)).trans ((q.2 ((pT m).symm.trans d)).trans (Sb.eq (pS zl).symm))
   ·have a:=p.at L.1
    exact⟨w,L.1,p.elim λw' v=>v6 (ay (v.1.symm.trans L.1)▸v.2.1),aj (aD (pT (wl (q.3 k (iB hk).2).1 a))) a⟩
  refine⟨⟨f.1,p7.trans ((if_pos g1).trans f.2),f.3,λk z k1 k2 k3 t ht=>?_,λk z k1 k2 k3 y m=>ed (g.low (iB k3).1 (iB k3).2) (f.5 k z k1 k2 (iB k3).2 y m),λj y a b=>ed xl (f.6 j y a b)⟩,
   ih s.2 (cQ g1) λf0 rest e=>⟨p.1,s.3 f0 rest e,f.2⟩,s.3⟩
  refine(f.4 k z k1 k2 (iB k3).2 t (Sb.eq (pS (g.low (iB k3).1 (iB k3).2)) t ht)).imp (Sb.eq (pS xl).symm t) λq=>have q3:=q.at L.1;⟨w,L.1,q.elim λw' v=>v6 (ay (v.1.symm.trans L.1)▸v.2.1),?_⟩
  exact mZ (λu:Nat=>u.testBit t=true) (λm=>(congrArg r (wd m):r w=r x)▸q3) λ_=>q3
theorem BG (rl:∀z<n,∀y∈rel z,y<n) (g:Gl rel n m0 r h P) (s:Frs rel n r h P (P.length+1) ((x,h0,i)::fr)) (hi:i=(rel x).length) (hr:h x=h0+1):
  C2 (Gl rel n m0 (o0 P h0 x r) (rA P h0 n h) (P.take h0)) (Frs rel n (o0 P h0 x r) (rA P h0 n h) (P.take h0) ((P.take h0).length+1) fr):=by
 have f:=s.1
 have ex:P[h0]?=some x:=f.2
 have Np:∀{Q:Nat->Prop},¬FD rel h x i Q:=λp=>p.elim λw q=>c7 (bT (aD hi.symm)) q.1
 have at_:∀{z:Nat} {R:Prop},z∈P.drop h0->(z=x->R)->(∀k,h0<k->k+1<P.length+1->P[k]?=some z->R)->R:=λm a b=>qB m λk c e=>
  (iJ c).elim (λw=>a (ay (e.symm.trans (w▸ex)))) λw=>b k w (dY (ah.1 e).1) e
 have sub:∀z∈P.drop h0,Sb (r z) (r x):=λz m=>at_ m (λe=>Sb.eq (congrArg r e)) λk c l e t ht=>(f.4 k z c l e t ht).resolve_right Np
 have edg:∀z∈P.drop h0,∀y∈rel z,Ed rel n r h P x i (P.length+1) z y:=λz m y my=>at_ m (λe=>(aP my).elim λj hj=>e▸f.6 j y (hi▸(ah.1 (e▸hj)).1) (e▸hj)) λk c l e=>f.5 k z c l e y my
 have lt:(P.take h0).length=h0:=mS (aI (ah.1 ex).1)
 refine⟨⟨λz zn=>mZ (Sb (m0 z)) (λm=>(g.1 z zn).trans (sub z m)) λ_=>g.1 z zn,λz zn=>mZ (· <32) (λ_=>g.2 x (g.4 x (am ex))) λ_=>g.2 z zn,g.3.sublist (List.take_sublist _ _),λz m=>g.4 z (oE m),
  λk z e=>(pT (g.low (iB e).1 (iB e).2)).symm▸g.5 k z (iB e).2,λz m=>mZ (λu=>u=0∨u=n+1) (λ_=>.inr rfl) λc=>g.6 z λk=>(aE.1 (show z∈P.take h0++P.drop h0 from(fV h0 P).symm▸k)).elim m c,λz zn w y my=>?_⟩,?_⟩
 ·by_cases m:z∈P.drop h0
  ·have q:=edg z m y my
   have rz:o0 P h0 x r z=r x:=if_pos m
   by_cases c:y∈P.drop h0
   ·exact⟨if_pos c,Sb.eq ((if_pos c).trans rz.symm)⟩
   ·have e:h y=n+1:=(g.di q.1).resolve_right λk=>k.elim λk e=>(q.3 k e).2.elim (λw=>c (sB e (mT (aj (aD hr.symm) w)))) Np
    exact⟨(pT c).trans e,(Sb.eq (pS c)).trans (((q.2 e).trans (sub z m)).trans (Sb.eq rz.symm))⟩
  ·have a:=g.7 z zn ((pT m).symm.trans w) y my
   have c:y∉P.drop h0:=λk=>qB k λj _ e=>absurd (g.le e) (iK.2 (Nat.lt_of_succ_le (aD a.1.symm)))
   exact⟨(pT c).trans a.1,(Sb.eq (pS c)).trans (a.2.trans (Sb.eq (pS m).symm))⟩
 ·rw[lt]
  exact Frs.cut g ex hr s.2 (aC _) λf0 rest e=>⟨x,s.3 f0 rest e,ex⟩
theorem EG (s:Frs rel n r h P (P.length+1) []):P=[]:=lZ.1 (hB s)
end Dg
end
section
inductive Ow (H1 H:Hp) (l:List (Nat×O)):Prop
 |mk (e:Ext H1 H) (g:∀p∈l,H1[p.1]?=none∧H[p.1]?=some p.2) (nd:(l.map (·.1)).Nodup)
section
variable {H1 H H2:Hp} {l:List (Nat×O)} {a:Nat} {o p:O}
theorem Ow.new (h:Ow H1 H l) (f:H[a]?=none) (k:H2[a]?=some o) (e:Ext H H2):Ow H1 H2 ((a,o)::l):=
 ⟨h.1.trans e,λq m=>(aH.1 m).elim (λm=>m▸⟨h.1.none f,k⟩) λm=>⟨(h.2 q m).1,e _ _ (h.2 q m).2⟩,dg.2 ⟨λm=>(aA.1 m).elim λq w=>c7 f (w.2▸(h.2 q w.1).2),h.3⟩⟩
theorem Ow.at_ (h:Ow H1 H l) (k:Nat) (e:l[k]?=some (a,o)):H[a]?=some o:=(h.2 _ (am e)).2
theorem Ow.fr (h:Ow H1 H l) (k:Nat) (e:l[k]?=some (a,o)):H1[a]?=none:=(h.2 _ (am e)).1
theorem Ow.ext (h:Ow H1 H l) (e:Ext H H2):Ow H1 H2 l:=⟨h.1.trans e,λq m=>⟨(h.2 q m).1,e _ _ (h.2 q m).2⟩,h.3⟩
theorem Ow.perm {l':List (Nat×O)} (h:Ow H1 H l) (p:l'.Perm l):Ow H1 H l':=⟨h.1,λq m=>h.2 q (p.mem_iff.1 m),(p.map _).nodup_iff.2 h.3⟩
theorem Ow.sub {l':List (Nat×O)} (h:Ow H1 H l) (p:l'.Sublist l):Ow H1 H l':=⟨h.1,λq m=>h.2 q (p.subset m),h.3.sublist (p.map _)⟩
theorem EH {α:Type} {l:List α} (k:Nat) {x:α}:(l.take k++x::l.drop k).Perm (x::l):=jh.trans (by rw[fV])
theorem xD {α:Type} {l:List α} {k:Nat} {x:α} (e:l[k]?=some x):l.take k++x::l.drop (k+1)=l:=by
 rw[←(ah.1 e).2,←d9,fV]
theorem Ow.ins (A:List (Nat×O)) {B:List (Nat×O)} (h:Ow H1 H (A++B)) (f:H[a]?=none) (g:H2[a]?=some o) (e:Ext H H2):Ow H1 H2 (A++(a,o)::B):=(h.new f g e).perm jh
theorem Ow.nw (k:Nat) (h:Ow H1 H l) (f:H[a]?=none) (g:H2[a]?=some o) (e:Ext H H2):Ow H1 H2 (l.take k++(a,o)::l.drop k):=(h.new f g e).perm (EH k)
theorem Ow.drop (A:List (Nat×O)) {B:List (Nat×O)} (h:Ow H1 H (A++(a,o)::B)):Ow H1 H (A++B):=h.sub ((List.sublist_cons_self ..).append_left A)
theorem Ow.rm (k:Nat) (h:Ow H1 H l) (e:l[k]?=some (a,o)):Ow H1 H (l.take k++l.drop (k+1)):=.drop (a:=a) (o:=o) _ (by rw[xD e];exact h)
theorem Ow.set (A:List (Nat×O)) {B:List (Nat×O)} (h:Ow H1 H (A++(a,o)::B)) (p:O):Ow H1 (H.set a p) (A++(a,p)::B):=by
 have w:Ow H1 H ((a,o)::(A++B)):=h.perm jh.symm
 refine Ow.perm (l:=(a,p)::(A++B)) ⟨w.1.set (w.2 _ (.head _)).1,λq m=>(aH.1 m).elim (λm=>m▸⟨(w.2 _ (.head _)).1,dq (w.2 _ (.head _)).2⟩) λm=>?_,w.3⟩ jh
 exact⟨(w.2 q (.tail _ m)).1,eK (w.2 q (.tail _ m)).2 λe=>(dg.1 w.3).1 (aA.2 ⟨q,m,e⟩)⟩
theorem Ow.up (k:Nat) (h:Ow H1 H l) (e:l[k]?=some (a,o)) (p:O):Ow H1 (H.set a p) (l.take k++(a,p)::l.drop (k+1)):=.set (o:=o) _ (by rw[xD e];exact h) p
end
namespace Dg
noncomputable def tab (n:Nat) (f:Nat->Nat):List Nat:=(List.range n).map f
theorem ja {n f i} (h:i<n):(tab n f)[i]?=some (f i):=get_map (dE h)
theorem oQ {n f}:(tab n f).length=n:=by rw[tab,ae,aT]
theorem zc {n f} {l:List Nat} (h:l.length=n) (k:∀i<n,l[i]?=some (f i)):l=tab n f:=lh λi=>by
 rcases a9 i n with c|c
 ·rw[ja c,k i c]
 ·rw[bT (aj (aD h) c),bT (aj (aD oQ) c)]
theorem Hi {n f i v}:(tab n f).set i v=tab n (upd f i v):=zc (aU.trans oQ) λk c=>by
 by_cases e:i=k
 ·rw[e,aZ (aw c (aD oQ.symm)),tW]
 ·rw[a7 e,rQ (d4 e),ja c]
noncomputable def lO (l:List Nat):O:=.list (vn l)
theorem oR {H:Hp} {a i n v:Nat} {f:Nat->Nat} (g:H[a]?=some (lO (tab n f))) (z:i<n):qX (.ref a) (.int i) (.int (v:Nat)) H (H.set a (lO (tab n (upd f i v)))):=by
 have:=qX.list (x:=.int (v:Nat)) g (dW (by rw[aW,oQ];exact z))
 rw[tB,Hi]at this;exact this
variable {rel:Nat->List Nat} {n:Nat} {m0 r h:Nat->Nat} {P:List Nat} {x h0 i:Nat} {fr:List (Nat×Nat×Nat)} {H1 H:Hp} {RS HS PL:Nat} {B:List (Nat×O)} {Q:Fl->Lc->Hp->Prop} {rest:i6}
noncomputable def wB:i6:=(((bo 11).at 4).in.at 4).in
noncomputable def Ld (c1 c2:Nat) (n RS HS PL FL:Nat) (x7 x9 gO fJ fX:Option V):Lc:=[some (.int n),some (.ref c1),some (.ref c2),some (.ref RS),some (.ref HS),some (.int (n+1:Nat)),some (.ref PL),x7,some (.ref FL),x9,gO,fJ,fX]
theorem Aw {D D':List Nat} {a v:Nat} {f:Nat->Nat} (mem:∀z,z∈D'↔z=v∨z∈D):upd (λz=>if z∈D then a else f z) v a=λz=>if z∈D' then a else f z:=funext λz=>by
 by_cases c:z=v
 ·rw[c,tW,if_pos ((mem v).2 (.inl rfl))]
 ·rw[rQ c];by_cases d:z∈D
  ·rw[if_pos d,if_pos ((mem z).2 (.inr d))]
  ·rw[if_neg d,if_neg λk=>d (((mem z).1 k).resolve_left c)]
theorem Ax {a:Nat} {f:Nat->Nat}:(λz=>if z∈P.drop P.length then a else f z)=f:=funext λz=>if_neg (by rw[hJ];exact aR)
noncomputable def FE (P:List Nat) (m:Nat):Int:=(P[m]?).elim (-1) λv=>v
theorem tY {m v:Nat} (e:P[m]?=some v):FE P m=v:=by rw[FE,e];rfl
noncomputable def D3 (n:Nat) (RS HS PL:Nat) (r h:Nat->Nat) (P:List Nat) (B:List (Nat×O)):List (Nat×O):=(RS,lO (tab n r))::(HS,lO (tab n h))::(PL,lO P)::B
theorem EI {c1 c2 FL:Nat} {x7 x9 fJ fX:Option V} (g:Gl rel n m0 r h P) (ex:P[h0]?=some x) (ow:Ow H1 H (D3 n RS HS PL r h P B)) (nz:n≤2^23)
  (k:∀fX H',Ow H1 H' (D3 n RS HS PL (o0 P h0 x r) (rA P h0 n h) (P.take h0) B)->Q .next (Ld c1 c2 n RS HS PL FL x7 x9 (some (.int x)) fJ fX) H'):
  cB (wB.at 4).in (Ld c1 c2 n RS HS PL FL x7 x9 (some (.int x)) fJ fX) H Q:=by
 have pl:=(ah.1 ex).1
 have rx:∀k,o0 P k x r x=r x:=λk=>mZ (· =r x) (λ_=>rfl) λ_=>rfl
 have w0:Ow H1 H (D3 n RS HS PL (o0 P P.length x r) (rA P P.length n h) (P.take P.length) B):=by rw[show o0 P P.length x r=r from Ax,show rA P P.length n h=h from Ax,aN];exact ow
 have l0: -1=FE P P.length:=by rw[FE,bT (aC _)];rfl
 refine .set (v:=.int (FE P P.length)) ((JE.neg .lit).to (congrArg V.int l0)) (.pO (λm=>Ld c1 c2 n RS HS PL FL x7 x9 (some (.int x)) fJ (some (.int (FE P m))))
  (λm H'=>C3 (Ow H1 H' (D3 n RS HS PL (o0 P m x r) (rA P m n h) (P.take m) B)) (h0≤m) (m≤P.length)) id P.length ⟨w0,aI pl,aC _⟩ λm H' K hh cq _=>?_)
 rcases iJ hh.2 with w|w
 ·exact .no (.b9 (.var (i:=12) rfl) (.var (i:=10) rfl) (cN.to (.ne (.int (FE P m) x)) (by rw[←w,tY ex,beq_self_eq_true];rfl))) (.nil (k _ H' (w▸hh.1)))
 ·have ne:FE P m≠x:=by
   cases c:P[m]? with
   |none=>rw[FE,c];exact λe=>absurd (e▸(by decide:(-1:Int)<0):(x:Int)<0) (fy.2 (aS x))
   |some v=>rw[tY c];exact λe=>du w (g.inj c (a8.1 e▸ex))
  have em:m-1+1=m:=p6 (ax (bw _) w)
  generalize m-1=m' at em
  have z2:m'<P.length:=aw (aw (bW _) (aD em)) hh.3
  have hv:=ao z2
  have mem:∀z,z∈P.drop m'↔z=P[m']∨z∈P.drop m:=λz=>by rw[d9 z2,em,aH]
  generalize P[m']=v at hv mem
  have vn':=g.4 v (am hv)
  have gP:H'[PL]?=some (.list (vn (P.take m')++[.int v])):=(hh.1.at_ 2 rfl).trans (by rw[lO,←em,aV,hv,vK];rfl)
  have o1:=hh.1.up 2 rfl (lO (P.take m'))
  have o2:=o1.up 1 rfl (lO (tab n (rA P m' n h)))
  have q1:=oR (v:=n+1) (o1.at_ 1 rfl) vn'
  have q2:=oR (v:=o0 P m x r x) (o2.at_ 0 rfl) vn'
  rw[show upd (rA P m n h) v (n+1)=rA P m' n h from Aw mem]at q1
  rw[show upd (o0 P m x r) v (o0 P m x r x)=o0 P m' x r from rx m▸Aw mem]at q2
  exact .yes (.b9 (.var (i:=12) rfl) (.var (i:=10) rfl) (cN.to (.ne (.int (FE P m) x)) (by rw[beq_eq_false_iff_ne.2 ne];rfl)))
   (.set ((JE.pop (.var rfl) gP (by rw[aW];exact ax (aj (bM _ _) (aj g.len nz)) (by decide))).to (congrArg V.int (tY hv).symm)) (.br (.var rfl) (.var rfl) ((JE.var rfl).to (congrArg V.int (tY hv))) q1
    (.br (.idx (.var rfl) (.var rfl) (.nat (o2.at_ 0 rfl) (cR (ja (g.4 x (am ex)))))) (.var rfl) ((JE.var rfl).to (congrArg V.int (tY hv))) q2 (.nil (cq m' rfl ⟨o2.up 0 rfl (lO (tab n (o0 P m' x r))),bE (aw w (aD em.symm)),aI z2⟩ (aw (bW _) (aD em)))))))
end Dg
end
section
namespace Dg
abbrev Fm:=Nat×Nat×Nat×Nat
noncomputable def frm (p:Fm):Nat×O:=(p.1,lO [p.2.1,p.2.2.1+1,p.2.2.2])
noncomputable def Kw (fs:List Fm):List V:=fs.foldr (λp l=>l++[V.ref p.1]) []
theorem Ay {fs:List Fm}:(Kw fs).length=fs.length:=by
 induction fs with
 |nil=>rfl
 |cons p fs ih=>exact aq.trans (congrArg (· +1) ih)
noncomputable def DS (RS HS PL FL n:Nat) (r h:Nat->Nat) (P:List Nat) (fs:List Fm):List (Nat×O):=D3 n RS HS PL r h P ((FL,.list (Kw fs))::fs.map frm)
noncomputable def wt (rel:Nat->List Nat) (fs:List Fm):Nat:=(fs.map λp=>(rel p.2.1).length-p.2.2.2+1).sum
noncomputable def Nq (n:Nat) (h:Nat->Nat):Nat:=(List.range n).countP λz=>h z==0
theorem EJ {n:Nat} {h h':Nat->Nat} (k:∀z,h z≠0->h' z≠0):Nq n h'≤Nq n h:=
 nJ λz _ e=>beq_iff_eq.2 (hO λc=>k z c (beq_iff_eq.1 e))
theorem Kx {n:Nat} {h h':Nat->Nat} (k:∀z,h z≠0->h' z≠0) {y:Nat} (yn:y<n) (h0:h y=0) (h1:h' y≠0):Nq n h'<Nq n h:=by
 have km:∀z,(h' z==0)=true->(h z==0)=true:=λz e=>beq_iff_eq.2 (hO λc=>k z c (beq_iff_eq.1 e))
 have key:∀l:List Nat,y∈l->l.countP (λz=>h' z==0)<l.countP λz=>h z==0:=λl=>by
  induction l with
  |nil=>exact λm=>absurd m aR
  |cons a l ih=>
   intro m
   rw[mh,mh]
   refine(aH.1 m).elim (λe=>?_) λm=>Nat.add_lt_add_of_lt_of_le (ih m) (mZ (· ≤_) (λz=>aD (if_pos (km a z)).symm) λ_=>bw _)
   rw[←e,if_pos (beq_iff_eq.2 h0),if_neg λe=>h1 (beq_iff_eq.1 e)]
   exact dh (nJ λz _=>km z)
 exact key _ (a_.2 yn)
inductive pG (H1:Hp) (RL n:Nat) (RA:List Nat) (rel:Nat->List Nat):Prop
 |mk (l:H1[RL]?=some (.list (RA.map .ref))) (row:∀z<n,∃b,RA[z]?=some b∧H1[b]?=some (.list (vn (rel z)))) (lt:∀z<n,∀y∈rel z,y<n) (len:∀z<n,(rel z).length≤2^23) (nz:n≤2^23)
variable {rel:Nat->List Nat} {n:Nat} {m0 r h:Nat->Nat} {P:List Nat} {x h0 i a:Nat} {fs:List Fm} {H1 H:Hp} {RS HS PL FL RL c2:Nat} {RA:List Nat} {Q:Fl->Lc->Hp->Prop} {rest:i6}
theorem Ky {L:Lc} {o e:CE} {k y:Nat} (a:JE o L H (.ref k) H) (b:JE e L H (.int y) H) (g:H[k]?=some (lO P)) (z:P.length<SZ):JE (.append o e) L H .none (H.set k (lO (P++[y]))):=by
 have:=JE.append a b ⟨_,g⟩ g (by rw[aW];exact z)
 rw[vK]at this;exact this
theorem EK {L:Lc} {o:CE} {k:Nat} (a:JE o L H (.ref k) H) (g:H[k]?=some (lO P)) (z:P.length≤SZ):JE (.len o) L H (.int P.length) H:=
 (JE.len a (.list g (by rw[aW];exact z))).to (by rw[aW])
theorem EL {y:Nat} {x7 x9 gO fX:Option V} (R:pG H1 RL n RA rel) (ow:Ow H1 H (DS RS HS PL FL n r h P ((a,x,h0,i)::fs))) (g:Gl rel n m0 r h P) (s:Frs rel n r h P (P.length+1) (((a,x,h0,i)::fs).map (·.2))) (e:(rel x)[i]?=some y) (yn:y<n) (v:h y=0) (fl:fs.length<2^23)
  (q:∀b H',Ow H1 H' (DS RS HS PL FL n r (upd h y (P.length+1)) (P++[y]) ((b,y,P.length,0)::(a,x,h0,i)::fs))->Gl rel n m0 r (upd h y (P.length+1)) (P++[y])->Frs rel n r (upd h y (P.length+1)) (P++[y]) ((P++[y]).length+1) (((b,y,P.length,0)::(a,x,h0,i)::fs).map (·.2))->
   Q .cont (Ld RL c2 n RS HS PL FL x7 x9 gO (some (.int y)) fX) H'):
  cB ((wB.at 2).in.at 1).in (Ld RL c2 n RS HS PL FL x7 x9 gO (some (.int y)) fX) H Q:=by
 have w:=uZ (y:=y) g s (λf0 rest e'=>(bC e').1▸e) yn v
 have z1:P.length+1<SZ:=ax (aM (aj g.len R.5)) (by decide)
 have o1:=ow.up 2 rfl (lO (P++[y]))
 have o2:=o1.up 1 rfl (lO (tab n (upd h y (P.length+1))))
 have ln:∀{H'},H'[PL]?=some (lO (P++[y]))->JE (.len (.var 6)) (Ld RL c2 n RS HS PL FL x7 x9 gO (some (.int y)) fX) H' (.int (P.length+1:Nat)) H':=λk=>
  (EK (.var rfl) k (aj (aD aq) (aI z1))).to (by rw[aq];rfl)
 refine .expr (Ky (.var rfl) (.var rfl) (ow.at_ 2 rfl) (Nat.lt_of_succ_lt z1)) (.br (ln (o1.at_ 2 rfl)) (.var rfl) (.var rfl) (oR (o1.at_ 1 rfl) yn) ?_)
 refine jM (vs:=[.int y,.int (P.length+1:Nat),.int 0]) (.av (.var (i:=11) rfl) (.av (ln (o2.at_ 2 rfl)) (.av .lit .bm))) (ic _ rfl) λb H2 j fb gb eb=>?_
 have gF:(List.set (H.set PL _) HS _)[FL]?=some (.list (Kw ((a,x,h0,i)::fs))):=o2.at_ 3 rfl
 exact .expr (.append (.var rfl) j ⟨_,gF⟩ (eb _ _ gF) (by rw[Ay];exact aw (dY fl) (by decide)))
  (.cont (q b _ ((o2.nw 4 fb gb eb).up 3 rfl (.list (Kw ((b,y,P.length,0)::(a,x,h0,i)::fs)))) w.1 w.2))
end Dg
end
section
namespace Dg
variable {rel:Nat->List Nat} {n:Nat} {m0 r h:Nat->Nat} {P:List Nat} {x h0 i a:Nat} {fs:List Fm} {H1 H:Hp} {RS HS PL FL RL c2:Nat} {RA:List Nat} {Q:Fl->Lc->Hp->Prop} {rest:i6}
theorem EM {y:Nat} {x7 fX:Option V} (ow:Ow H1 H (DS RS HS PL FL n r h P ((a,x,h0,i)::fs))) (g:Gl rel n m0 r h P) (s:Frs rel n r h P (P.length+1) (((a,x,h0,i)::fs).map (·.2))) (e:(rel x)[i]?=some y) (xn:x<n) (yn:y<n) (v:h y≠0)
  (q:∀H',Ow H1 H' (DS RS HS PL FL n (upd r x (r x|||r y)) (upd h x (if h y<h x then h y else h x)) P ((a,x,h0,i+1)::fs))->Gl rel n m0 (upd r x (r x|||r y)) (upd h x (if h y<h x then h y else h x)) P->Frs rel n (upd r x (r x|||r y)) (upd h x (if h y<h x then h y else h x)) P (P.length+1) (((a,x,h0,i+1)::fs).map (·.2))->
   Q .cont (Ld RL c2 n RS HS PL FL x7 (some (.ref a)) (some (.int x)) (some (.int y)) fX) H'):
  cB (wB.at 2).in.tl.tl (Ld RL c2 n RS HS PL FL x7 (some (.ref a)) (some (.int x)) (some (.int y)) fX) H Q:=by
 have w:=BE g s e yn v
 have o1:Ow H1 (H.set a (lO [x,h0+1,i+1])) (DS RS HS PL FL n r h P ((a,x,h0,i+1)::fs)):=ow.up 4 rfl (lO [x,h0+1,i+1])
 have ga:H[a]?=some (lO [x,h0+1,i]):=ow.at_ 4 rfl
 have tail:∀H' h',Ow H1 H' (DS RS HS PL FL n r h' P ((a,x,h0,i+1)::fs))->h'=upd h x (if h y<h x then h y else h x)->
   cB (wB.at 2).in.tl.tl.tl.tl (Ld RL c2 n RS HS PL FL x7 (some (.ref a)) (some (.int x)) (some (.int y)) fX) H' Q:=λH' h' o eh=>
  .br (.bin (.idx (.var rfl) (.var rfl) (.nat (o.at_ 0 rfl) (cR (ja xn)))) (.idx (.var rfl) (.var rfl) (.nat (o.at_ 0 rfl) (cR (ja yn)))) (.bor _ _ _)) (.var rfl) (.var rfl) (oR (o.at_ 0 rfl) xn) (.cont (q _ (eh▸o.up 0 rfl _) w.1 w.2))
 refine .br (.bin (.idx (.var rfl) .lit (.nat (k:=2) ga rfl)) .lit (.add _ _ _)) (.var rfl) .lit (.list (k:=2) ga rfl) ?_
 have T:=λt (c:cN (H.set a (lO [x,h0+1,i+1])) .lt (.int (h y)) (.int (h x)) t)=>JT.b9 (L:=Ld RL c2 n RS HS PL FL x7 (some (.ref a)) (some (.int x)) (some (.int y)) fX) (.idx (.var (i:=4) rfl) (.var (i:=11) rfl) (.nat (o1.at_ 1 rfl) (cR (ja yn)))) (.idx (.var (i:=4) rfl) (.var (i:=10) rfl) (.nat (o1.at_ 1 rfl) (cR (ja xn)))) c
 by_cases c:h y<h x
 ·exact .then (T _ (.ltT c)) (.br (.idx (.var rfl) (.var rfl) (.nat (o1.at_ 1 rfl) (cR (ja yn)))) (.var rfl) (.var rfl) (oR (o1.at_ 1 rfl) xn) (.nil (tail _ _ (o1.up 1 rfl _) (congrArg (upd h x) (if_pos c).symm))))
 ·exact .pass (T _ (.ltF (dX c))) (tail _ h o1 (by rw[if_neg c];exact funext λz=>(rR (· =h z) (λe=>congrArg h e.symm) λ_=>rfl).symm))
theorem Kz {b:Nat} {fr:List (Nat×Nat×Nat)} (s:Frs rel n r h P b ((x,h0,i)::fr)) (hi:i=(rel x).length) (g:Gl rel n m0 r h P) (c:h x≠h0+1):Frs rel n r h P b fr:=by
 cases fr with
 |nil=>exact(c (BF g s)).elim
 |cons p fr=>exact y_ s hi g
theorem Hj {x7 fJ fX:Option V} (R:pG H1 RL n RA rel) (ow:Ow H1 H (DS RS HS PL FL n r h P ((a,x,h0,i)::fs))) (g:Gl rel n m0 r h P) (s:Frs rel n r h P (P.length+1) (((a,x,h0,i)::fs).map (·.2))) (hi:i=(rel x).length) (xn:x<n) (fl:fs.length<2^23)
  (q:∀r' h' P' H' fX,Ow H1 H' (DS RS HS PL FL n r' h' P' fs)->Gl rel n m0 r' h' P'->Frs rel n r' h' P' (P'.length+1) (fs.map (·.2))->(∀z,h z≠0->h' z≠0)->Q .next (Ld RL c2 n RS HS PL FL x7 (some (.ref a)) (some (.int x)) fJ fX) H'):
  cB wB.tl.tl.tl (Ld RL c2 n RS HS PL FL x7 (some (.ref a)) (some (.int x)) fJ fX) H Q:=by
 have o1:=ow.up 3 rfl (.list (Kw fs))
 have o2:Ow H1 (H.set FL (.list (Kw fs))) (DS RS HS PL FL n r h P fs):=o1.rm 4 rfl
 refine .expr (.pop (.var rfl) (ow.at_ 3 rfl) (ax (aD (Ay (fs:=fs))) (aw fl (by decide)))) ?_
 have T:=λt (c:cN (H.set FL (.list (Kw fs))) .eq (.int (h x)) (.int (h0+1:Nat)) t)=>JT.b9 (L:=Ld RL c2 n RS HS PL FL x7 (some (.ref a)) (some (.int x)) fJ fX) (.idx (.var (i:=4) rfl) (.var (i:=10) rfl) (.nat (o2.at_ 1 rfl) (cR (ja xn)))) (.idx (.var (i:=9) rfl) .lit (.nat (k:=1) (o1.at_ 4 rfl) rfl)) c
 by_cases c:h x=h0+1
 ·have w:=BG R.3 g s hi c
  exact .then (T _ (.to (.eq (.int (h x) (h0+1:Nat))) (by rw[c,beq_self_eq_true]))) (EI g s.1.2 o2 R.5 λfX H' o3=>.nil (q _ _ _ H' fX o3 w.1 w.2 λz=>v6))
 ·exact .pass (T _ (.to (.eq (.int (h x) (h0+1:Nat))) (beq_eq_false_iff_ne.2 λk=>c (a8.1 k)))) (.nil (q r h P _ fX o2 g (Kz s hi g c) λ_ v=>v))
end Dg
end
section
namespace Dg
variable {rel:Nat->List Nat} {n:Nat} {m0 r h:Nat->Nat} {P:List Nat} {fs:List Fm} {H1 H:Hp} {RS HS PL FL RL c2:Nat} {RA:List Nat} {Q:Fl->Lc->Hp->Prop} {rest:i6}
theorem Frs.P1 {b:Nat} {fr:List (Nat×Nat×Nat)} (s:Frs rel n r h P b fr):fr.length<b:=by
 induction fr generalizing b with
 |nil=>exact aw Nat.zero_lt_one (aD (show b=1 from s).symm)
 |cons p fr ih=>exact ax (ih s.2) s.1.1
theorem sF {p:Fm}:wt rel (p::fs)=(rel p.2.1).length-p.2.2.2+1+wt rel fs:=by rw[wt,bS,List.sum_cons];rfl
theorem Hk {u u' w l K:Nat} (h:u'<u) (hl:l+1<K):u'*K+(l+1+w)<u*K+w:=
 aw (jP (jv hl w) _) (aj (aD ((dk ..).symm.trans (congrArg (· +w) (Nat.succ_mul ..).symm))) (dM (oI K h) w))
theorem IY {u u' w w' K:Nat} (h:u'≤u) (hw:w'<w):u'*K+w'<u*K+w:=gJ (oI K h) hw
theorem KA (l:List V) (a:V):(!(l++[a]).isEmpty)=true:=by cases l<;>rfl
abbrev Ls:=(Nat->Nat)×(Nat->Nat)×List Nat×List Fm×Option V×Option V×Option V×Option V
noncomputable def mu (rel:Nat->List Nat) (n:Nat) (s:Ls):Nat:=Nq n s.2.1*(2^23+2)+wt rel s.2.2.2.1
inductive LI (rel:Nat->List Nat) (n:Nat) (m0 hq:Nat->Nat) (H1:Hp) (RS HS PL FL:Nat) (s:Ls) (H':Hp):Prop
 |mk (ow:Ow H1 H' (DS RS HS PL FL n s.1 s.2.1 s.2.2.1 s.2.2.2.1)) (g:Gl rel n m0 s.1 s.2.1 s.2.2.1) (fr:Frs rel n s.1 s.2.1 s.2.2.1 (s.2.2.1.length+1) (s.2.2.2.1.map (·.2))) (m:∀z,hq z≠0->s.2.1 z≠0)
theorem EN {x7 x9 gO fJ fX:Option V} {hq:Nat->Nat} {p:Fm} {K:Ps} (R:pG H1 RL n RA rel) (I:LI rel n m0 hq H1 RS HS PL FL (r,h,P,p::fs,x9,gO,fJ,fX) H)
  (k:∀{f} s' {H'},f.go=true->LI rel n m0 hq H1 RS HS PL FL s' H'->mu rel n s'<mu rel n (r,h,P,p::fs,x9,gO,fJ,fX)->K f (Ld RL c2 n RS HS PL FL x7 s'.2.2.2.2.1 s'.2.2.2.2.2.1 s'.2.2.2.2.2.2.1 s'.2.2.2.2.2.2.2) H'):
  cB wB (Ld RL c2 n RS HS PL FL x7 x9 gO fJ fX) H K:=by
 have ow:Ow H1 H (DS RS HS PL FL n r h P (p::fs)):=I.1
 have g:Gl rel n m0 r h P:=I.2
 have s:Frs rel n r h P (P.length+1) ((p::fs).map (·.2)):=I.3
 have f:No rel n r h P p.2.1 p.2.2.1 p.2.2.2 (P.length+1):=s.1
 have ga:=ow.at_ 4 rfl
 have hx:=g.ne f.2
 have xn:=g.4 _ (am f.2)
 have fl:fs.length<2^23:=aw (aw (bW _) (aj (aD (ae (as:=p::fs) (·.2)).symm) (bE s.P1))) (aj g.len R.5)
 refine(R.2 _ xn).elim λb e=>?_
 have rl:=R.4 _ xn
 have gR:=ow.1 _ _ R.1
 have gb:=ow.1 _ _ e.2
 refine .set (.idx (.var rfl) (.neg .lit) (.last (ow.at_ 3 rfl))) (.set (.idx (.var rfl) .lit (.nat (k:=0) ga rfl)) ?_)
 have T:=λt (c:cN H .lt (.int p.2.2.2) (.int (rel p.2.1).length) t)=>JT.b9 (L:=Ld RL c2 n RS HS PL FL x7 (some (.ref p.1)) (some (.int p.2.1)) fJ fX) (.idx (.var (i:=9) rfl) .lit (.nat (k:=2) ga rfl)) (EK (.idx (.var (i:=1) rfl) (.var (i:=10) rfl) (.nat gR (dB e.1))) gb (aj rl (by decide))) c
 rcases a9 p.2.2.2 (rel p.2.1).length with z|z
 ·have ey:=ao z
  generalize (rel p.2.1)[p.2.2.2]=y at ey
  have yn:=R.3 _ xn y (am ey)
  refine .then (T _ (.ltT z)) (.set (.idx (.idx (.var rfl) (.var rfl) (.nat gR (dB e.1))) (.idx (.var rfl) .lit (.nat (k:=2) ga rfl)) (.nat gb (cR ey))) ?_)
  have T2:=λt (c:cN H .eq (.int (h y)) (.int 0) t)=>JT.b9 (L:=Ld RL c2 n RS HS PL FL x7 (some (.ref p.1)) (some (.int p.2.1)) (some (.int y)) fX) (.idx (.var (i:=4) rfl) (.var (i:=11) rfl) (.nat (ow.at_ 1 rfl) (cR (ja yn)))) .lit c
  by_cases c:h y=0
  ·exact .then (T2 _ (.to (.eq (.int (h y:Nat) 0)) (by rw[c];rfl))) (EL R ow g s ey yn c fl λb' H2 o2 g2 s2=>k (r,upd h y (P.length+1),P++[y],(b',y,P.length,0)::p::fs,_,_,_,_) rfl ⟨o2,g2,s2,λz v=>tX (I.4 z v) (cM _)⟩
    (ax (aD (congrArg (_+ ·) sF)) (Hk (Kx (λw v=>tX v (cM _)) yn c λe=>cM _ (tW.symm.trans e)) (dY (dh (R.4 y yn))))))
  ·have nz:∀z,h z≠0->upd h p.2.1 (if h y<h p.2.1 then h y else h p.2.1) z≠0:=λz v=>tX v ((mnl _ _).3 c hx)
   exact .pass (T2 _ (.to (.eq (.int (h y:Nat) 0)) (beq_eq_false_iff_ne.2 λk=>c (a8.1 k)))) (EM ow g s ey xn yn c λH2 o2 g2 s2=>k (_,_,P,(p.1,p.2.1,p.2.2.1,p.2.2.2+1)::fs,_,_,_,_) rfl ⟨o2,g2,s2,λz v=>nz z (I.4 z v)⟩
    (IY (EJ nz) (ax (aD sF) (aw (jv (dY (h_ z (bW _))) _) (aD sF.symm)))))
 ·exact .pass (T _ (.ltF z)) (Hj R ow g s (bR f.3 z) xn fl λr' h' P' H2 B_ o2 g2 s2 mz=>k (r',h',P',fs,some (.ref p.1),some (.int p.2.1),fJ,B_) rfl ⟨o2,g2,s2,λz v=>mz z (I.4 z v)⟩
   (IY (EJ mz) (aw (Nat.lt_add_of_pos_left (hE _)) (aD sF.symm))))
theorem EO {x7 x9 gO fJ fX:Option V} {hq:Nat->Nat} (R:pG H1 RL n RA rel) (I:LI rel n m0 hq H1 RS HS PL FL (r,h,P,fs,x9,gO,fJ,fX) H)
  (q:∀r' h' H' x9 gO fJ fX,LI rel n m0 hq H1 RS HS PL FL (r',h',[],[],x9,gO,fJ,fX) H'->cB rest (Ld RL c2 n RS HS PL FL x7 x9 gO fJ fX) H' Q):
  cB (.cons (((bo 11).at 4).in.at 4) rest) (Ld RL c2 n RS HS PL FL x7 x9 gO fJ fX) H Q:=by
 refine .pO (λs:Ls=>Ld RL c2 n RS HS PL FL x7 s.2.2.2.2.1 s.2.2.2.2.2.1 s.2.2.2.2.2.2.1 s.2.2.2.2.2.2.2) (LI rel n m0 hq H1 RS HS PL FL) (mu rel n) (r,h,P,fs,x9,gO,fJ,fX) I λs H' K I k _=>?_
 cases e:s.2.2.2.1 with
 |nil=>
  have I':=I
  rw[show s=(s.1,s.2.1,s.2.2.1,s.2.2.2.1,s.2.2.2.2) from rfl,e]at I'
  exact .no (.iu (.var rfl) (.list (I'.1.at_ 3 rfl)) rfl) (q _ _ H' _ _ _ _ ((show s.2.2.1=[] from EG I'.3)▸I'))
 |cons p fs=>
  have es:s=(s.1,s.2.1,s.2.2.1,p::fs,s.2.2.2.2):=by rw[←e]
  exact .yes ((JT.iu (.var rfl) (.list ((es▸I:LI rel n m0 hq H1 RS HS PL FL (s.1,s.2.1,s.2.2.1,p::fs,s.2.2.2.2) H').1.at_ 3 rfl)) rfl).to (KA ..)) (EN R (es▸I) λs' _ g i m=>k s' g i (es▸m))
end Dg
end
section
namespace Dg
variable {rel:Nat->List Nat} {n:Nat} {H1:Hp} {RL c2:Nat} {RA:List Nat} {R:Prop}
theorem tab_of {l:List Nat} (h:l.length=n):l=tab n λz=>l.getD z 0:=zc h λ_ c=>getD_at (h.symm▸c)
noncomputable def Lo (c1 c2 n RS HS PL:Nat) (x7 x8 x9 gO fJ fX:Option V):Lc:=[some (.int n),some (.ref c1),some (.ref c2),some (.ref RS),some (.ref HS),some (.int (n+1:Nat)),some (.ref PL),x7,x8,x9,gO,fJ,fX]
theorem tZ {ms:List Nat} (A:pG H1 RL n RA rel) (gM:H1[c2]?=some (.list (vn ms))) (ml:ms.length=n) (Nr:∀s∈ms,s<32)
  (q:∀a r H',JR 11 [.int n,.ref RL,.ref c2] H1 (.ref a) H'->H1[a]?=none->H'[a]?=some (.list (vn (tab n r)))->Ext H1 H'->(∀z<n,Sb (ms.getD z 0) (r z))->(∀z<n,r z<32)->(∀z<n,∀y∈rel z,Sb (r y) (r z))->R):R:=by
 have nS:n≤SZ:=aj A.5 (by decide)
 refine dc 11 [.int n,.ref RL,.ref c2] H1 rfl rfl (L:=[some (.int n),some (.ref RL),some (.ref c2),none,none,none,none,none,none,none,none,none,none]) rfl λQ q'=>?_
 refine qn (.var rfl) gM (by rw[aW,ml];exact nS) λRS H2 j f2 g2 e2=>.set j ?_
 refine jM (L:=[some (.int n),some (.ref RL),some (.ref c2),some (.ref RS),none,none,none,none,none,none,none,none,none]) (vs:=[.int 0]) (H:=H2) (.av (e:=.lit (.int 0)) .lit .bm) (ic _ rfl) λZ H3 jZ fZ gZ eZ=>?_
 refine GP (n:=n) (f:=.var 0) jZ (.var (i:=0) rfl) gZ nS λHS H4 j f4 g4 e4=>.set j (.set (.bin (.var rfl) .lit (.add _ _ _)) (hS λPL H5 j f5 g5 e5=>.set j ?_))
 have zt:List.replicate n (V.int 0)=vn (tab n λ_=>0):=(congrArg vn (zc (l:=List.replicate n 0) bZ λi h=>c_.trans (if_pos h))).symm.trans kD|>.symm
 have o5:Ow H1 H5 (D3 n RS HS PL (λz=>ms.getD z 0) (λ_=>0) [] []):=((((Ow.mk .r qo .nil:Ow H1 H1 []).new f2 (o:=lO (tab n λz=>ms.getD z 0)) (g2.trans (congrArg (λl=>some (O.list (vn l))) (tab_of ml))) e2).ext eZ).nw 1 f4 (o:=lO (tab n λ_=>0)) (g4.trans (congrArg (λl=>some (O.list l)) zt)) e4).nw 2 f5 g5 e5
 refine .GY n (λ_ (s:(Nat->Nat)×(Nat->Nat)×Option V×Option V×Option V×Option V×Option V×Option V)=>Lo RL c2 n RS HS PL s.2.2.1 s.2.2.2.1 s.2.2.2.2.1 s.2.2.2.2.2.1 s.2.2.2.2.2.2.1 s.2.2.2.2.2.2.2)
  (λk s H'=>C3 (Ow H1 H' (D3 n RS HS PL s.1 s.2.1 [] [])) (Gl rel n (λz=>ms.getD z 0) s.1 s.2.1 []) (∀z<k,s.2.1 z≠0)) (_,_,none,none,none,none,none,none) (.var rfl) nS
  ⟨o5,⟨λ_ _=>.r,λz _=>jj Nr,.nil,qo,λ_ _ e=>c7 dD e,λ_ _=>.inl rfl,λz _ w=>absurd w (cM n).symm⟩,λz h=>absurd h (bc z)⟩ (λst s H6 K hn hh cq _=>?_) λs H6 hh=>?_
 ·have T:=λt (c:cN H6 .ne (.int (s.2.1 st)) (.int 0) t)=>JT.b9 (L:=Lo RL c2 n RS HS PL (some (.int st)) s.2.2.2.1 s.2.2.2.2.1 s.2.2.2.2.2.1 s.2.2.2.2.2.2.1 s.2.2.2.2.2.2.2) (.idx (.var (i:=4) rfl) (.var (i:=7) rfl) (.nat (hh.1.at_ 1 rfl) (cR (ja hn)))) .lit c
  by_cases c:s.2.1 st=0
  ·have o1:=hh.1.up 2 rfl (lO [st])
   have o2:=o1.up 1 rfl (lO (tab n (upd s.2.1 st 1)))
   refine .pass (T _ (.to (.ne (.int (s.2.1 st:Nat) 0)) (by rw[c];rfl))) (.expr (.append (.var rfl) (.var rfl) ⟨_,hh.1.at_ 2 rfl⟩ (hh.1.at_ 2 rfl) (by decide)) (.br (.len (.var rfl) (.list (o1.at_ 2 rfl) (ic _ rfl))) (.var rfl) (.var rfl) (oR (v:=1) (o1.at_ 1 rfl) hn) ?_))
   refine jM (L:=Lo RL c2 n RS HS PL (some (.int st)) s.2.2.2.1 s.2.2.2.2.1 s.2.2.2.2.2.1 s.2.2.2.2.2.2.1 s.2.2.2.2.2.2.2) (vs:=[.int st,.int (1:Nat),.int 0]) (.av (.var (i:=7) rfl) (.av (.len (.var (i:=6) rfl) (.list (o2.at_ 2 rfl) (ic _ rfl))) (.av (e:=.lit (.int 0)) .lit .bm))) (ic _ rfl) λb H7 j7 f7 g7 e7=>?_
   refine jM (vs:=[.ref b]) (.av j7 .bm) (ic _ rfl) λFL H8 j8 f8 g8 e8=>.set j8 ?_
   have o8:Ow H1 H8 (DS RS HS PL FL n s.1 (upd s.2.1 st 1) [st] [(b,st,0,0)]):=(o2.nw 3 f7 (o:=lO [st,0+1,0]) g7 e7).nw 3 f8 (o:=.list [.ref b]) g8 e8
   have w:=uZ (fr:=[]) (y:=st) hh.2 rfl (λ_ _ e=>absurd e.symm (jg _ _)) hn c
   exact EO (hq:=upd s.2.1 st 1) (fs:=[(b,st,0,0)]) A ⟨o8,w.1,w.2,λ_ v=>v⟩ λr' h' H9 y9 IH II B_ I=>.nil (cq (r',h',some (.int st),some (.ref FL),y9,IH,II,B_) rfl ⟨I.1.rm 3 rfl,I.2,λz hz=>I.4 z
    ((ba.1 hz).elim (λw=>tX (hh.3 z w) Nat.one_ne_zero) λw=>w▸λe=>Nat.one_ne_zero (tW.symm.trans e))⟩)
  ·exact .then (T _ (.to (.ne (.int (s.2.1 st:Nat) 0)) (congrArg (!·) (beq_eq_false_iff_ne.2 (Int.natCast_ne_zero.2 c))))) (.cont (cq (s.1,s.2.1,some (.int st),s.2.2.2) rfl ⟨hh.1,hh.2,λz hz=>(ba.1 hz).elim (hh.3 z) λw=>w▸c⟩))
 ·exact .ret (.var rfl) (q' λj=>q RS s.1 H6 j (hh.1.fr 0 rfl) (hh.1.at_ 0 rfl) hh.1.1 hh.2.1 hh.2.2 λz hz y m=>(hh.2.7 z hz ((hh.2.6 z aR).resolve_left (hh.3 z hz)) y m).2)
end Dg
end
section
open Dg (pG Sb tab)
theorem Ow.ne {H1 H:Hp} {l:List (Nat×O)} (h:Ow H1 H l) (i j:Nat) {a b:Nat} {o p:O} (ij:Nat.beq i j=false) (ei:l[i]?=some (a,o)) (ej:l[j]?=some (b,p)):a≠b:=λe=>
 Nat.ne_of_beq_eq_false ij ((cP (ah.1 (get_map (f:=(·.1)) ei)).1 h.3).1 ((get_map (f:=(·.1)) ei).trans ((congrArg some e).trans (get_map (f:=(·.1)) ej).symm)))
theorem Ow.val {H1 H H':Hp} {l l':List (Nat×O)} (h:Ow H1 H l) (e:Ext H1 H') (k:l'.map (·.1)=l.map (·.1)) (v:∀p∈l',H'[p.1]?=some p.2):Ow H1 H' l':=
 ⟨e,λp m=>⟨(aA.1 (k▸aA.2 ⟨p,m,rfl⟩:p.1∈l.map (·.1))).elim λq w=>w.2▸(h.2 q w.1).1,v p m⟩,k▸h.3⟩
theorem nj {α:Type} {P:α->Prop} {a:α} {l:List α} (h:P a) (k:∀p∈l,P p):∀p∈a::l,P p:=λp m=>(aH.1 m).elim (λe=>e▸h) (k p)
inductive Hl (G:aJ) (S:List cT) (t:x_) (c:Nat->List Nat) (ms:List Nat) (rows:List (List Nat)) (r1 r2:Nat->Nat):Prop
 |mk (nl:Nl G t.fb) (tr:p9 S S.length [] t.ts) (rd:By S t.ts t.fb t.ts.length ms rows) (inc:Kv G S t c t.ts.length) (il:t.IA.length=t.ts.length) (lk:xZ S S.length 0 t.l) (a1:∀z<t.ts.length,Sb (ms.getD z 0) (r1 z)) (b1:∀z<t.ts.length,∀y∈rows.getD z [],Sb (r1 y) (r1 z)) (a2:∀z<t.ts.length,Sb (r1 z) (r2 z)) (b2:∀z<t.ts.length,∀y∈c (t.IA.getD z 0),Sb (r2 y) (r2 z)) (lt:∀z<t.ts.length,r2 z<32)
noncomputable def laH (u N TL IX DL RL IL UL LB RM FM M:Nat):List (Nat×V):=[(53,.ref u),(56,.ref N),(55,.ref TL),(54,.ref IX),(57,.ref DL),(58,.ref RL),(61,.ref IL),(62,.ref UL),(59,.ref LB),(67,.ref RM),(63,.ref FM),(10,.ref M)]
variable {H H':Hp} {u g LS:Nat} {G:aJ} {A:GA} {SA:List Nat} {S:List cT} {R:Prop}
theorem By.row {z:Nat} {ts fb ms rows} (h:bN H' u g G A LS SA S) (rd:By S ts fb ts.length ms rows) (tr:p9 S S.length [] ts) (hz:z<ts.length):∃y l,C2 (xY S ts fb y l (ms.getD z 0) (rows.getD z [])) (l.length≤8):=
 have e4:=ao hz
 (tr.goal h (p:=ts[z].1) (X:=ts[z].2) e4).elim λs w=>w.elim λy w=>w.elim λt w=>⟨y,_,rd.3 z _ _ s y t _ _ e4 (getD_at (rd.1.symm▸hz)) (getD_at (rd.2.symm▸hz)) w.1 w.2.1 w.2.2,
  aj (aD ((eg _).trans (ae _))) (h.oj w.2.2)⟩
theorem BH {H:Hp} {RL:Nat} {RA:List Nat} {rows ts fb ms} (h:bN H' u g G A LS SA S) (gR:H[RL]?=some (.list (RA.map .ref))) (ra:gy H RA rows) (rd:By S ts fb ts.length ms rows) (tr:p9 S S.length [] ts):pG H RL ts.length RA λz=>rows.getD z []:=
 ⟨gR,λz hz=>⟨_,ao (ra.1.symm▸rd.2.symm▸hz),ra.2 _ _ _ (ao (ra.1.symm▸rd.2.symm▸hz)) (getD_at (rd.2.symm▸hz))⟩,
  λz hz y m=>(rd.row h tr hz).elim λ_ w=>w.elim λ_ w=>w.1.2 y m,λz hz=>(rd.row h tr hz).elim λ_ w=>w.elim λ_ w=>aj w.1.5 (aj w.2 (by decide)),
  aj tr.4 (aj (bF 8 h.6.5) (by decide))⟩
theorem By.Nr {ts fb ms rows} (h:bN H' u g G A LS SA S) (rd:By S ts fb ts.length ms rows) (tr:p9 S S.length [] ts):∀s∈ms,s<32:=λs m=>(aP m).elim λz hz=>
 have zl:=(ah.1 hz).1
 (rd.row h tr (rd.1▸zl)).elim λ_ w=>w.elim λ_ w=>(ay ((getD_at zl).symm.trans hz):ms.getD z 0=s)▸w.1.1
end
section
open Dg (pG Sb tab lO)
variable {H H':Hp} {u g LS:Nat} {G:aJ} {A:GA} {SA:List Nat} {S:List cT} {R:Prop}
theorem gy.ext {H H':Hp} {as rows} (h:gy H as rows) (e:Ext H H'):gy H' as rows:=⟨h.1,λi b row e1 e2=>e _ _ (h.2 i b row e1 e2)⟩
section
variable {L:Lc} {H0 H1 H2:Hp} {Q:Ps} {r:i6} {e:CE} {a c f N:Nat} {fs:List (Nat×V)} {o:O} {B:List (Nat×O)}
theorem cB.attr (w:Ow H0 H1 ((a,.inst c fs)::B)) (j:JE e L H (.ref N) H2) (fN:H1[N]?=none) (gN:H2[N]?=some o) (eN:Ext H1 H2) (s:L[0]?=some (some (.ref a))) (m:pg.xT c f=none) (z:Nat.ble fs.length 100=true)
  (k:∀H3,Ow H0 H3 ((a,.inst c (dv f (.ref N) fs))::(N,o)::B)->eH [a] H1 H3->cB r L H3 Q):cB (.cons (.setattr (.var 0) f e) r) L H Q:=
 .setattr j (.var s) (eN _ _ (w.at_ 0 rfl)) m z (k _ ((w.nw 1 fN gN eN).up 0 rfl _) ((eH.of eN).set (.head _)))
theorem cB.own {v:V} (x:JE e L H v H1) (s:L[0]?=some (some (.ref a))) (w:Ow H0 H1 ((a,.inst c fs)::B)) (m:pg.xT c f=none) (z:Nat.ble fs.length 100=true)
  (k:∀H2,Ow H0 H2 ((a,.inst c (dv f v fs))::B)->eH [a] H1 H2->cB r L H2 Q):cB (.cons (.setattr (.var 0) f e) r) L H Q:=.setattr x (.var s) (w.at_ 0 rfl) m z (k _ (w.set [] _) (eH.r.set (.head _)))
end
noncomputable def l4 (la u N TL IX:Nat) (fb:List Bool) (ts:List (Nat×Nat)) (d:List (List Int×V)):List (Nat×O):=[(la,.inst 6 [(53,.ref u),(56,.ref N),(55,.ref TL),(54,.ref IX)]),(IX,.bX d),(TL,.list (ts.map tV)),(N,.list (vP fb))]
noncomputable def l6 (la u N TL IX DL RL:Nat) (fb:List Bool) (ts:List (Nat×Nat)) (d:List (List Int×V)) (ms RA:List Nat):List (Nat×O):=[(la,.inst 6 (Oj u N TL IX DL RL)),(RL,.list (RA.map .ref)),(DL,.list (vn ms)),(IX,.bX d),(TL,.list (ts.map tV)),(N,.list (vP fb))]
noncomputable def l9 (u:Nat) (a:IU) (fb:List Bool) (ts:List (Nat×Nat)) (d:List (List Int×V)) (ms RA IA UA:List Nat):List (Nat×O):=
 [(a.la,.inst 6 (a.fs u)),(a.LB,.bX []),(a.UL,.list (UA.map .ref)),(a.IL,.list (IA.map .ref)),(a.RL,.list (RA.map .ref)),(a.DL,.list (vn ms)),(a.IX,.bX d),(a.TL,.list (ts.map tV)),(a.N,.list (vP fb))]
noncomputable def L3 (la u:Nat) (x:Option V):Lc:=[some (.ref la),some (.ref u),x]
section
variable {la N TL IX DL RL:Nat} {fb:List Bool} {ts:List (Nat×Nat)} {d:List (List Int×V)} {ms RA:List Nat} {rows:List (List Nat)} {Q:Ps}
theorem Nu (h:bN H u g G A LS SA S) (fa:H[la]?=none) (e:Ext H H') (ha:H'[la]?=some (.inst 6 []))
  (k:∀N TL IX fb ts d H5,Nl G fb->p9 S S.length [] ts->Ix ts d->Ow H H5 (l4 la u N TL IX fb ts d)->cB ((bo 54).dr 5) (L3 la u none) H5 Q):cB (bo 54) (L3 la u none) H' Q:=by
 have w1:Ow H _ [(la,.inst 6 [(53,.ref u)])]:=((Ow.mk .r qo .nil:Ow H H []).new fa ha e).up 0 rfl _
 refine .setattr (.var rfl) (.var rfl) ha rfl rfl (oa (h.1.ext w1.1) λN fb H1 jN fN gN eN nl=>.attr w1 (.call (.av (.attr (.var rfl) (w1.1 _ _ h.2) rfl rfl) .bm) jN) fN gN eN rfl rfl rfl λH2 w2 _=>
  hS λTL H3 jT fT gT eT=>.attr w2 jT fT gT eT rfl rfl rfl λH4 w3 _=>lS λIX H5 jI fI gI eI=>.attr w3 jI fI gI eI rfl rfl rfl λH6 w4 _=>?_)
 refine vX h w4.1 (w4.at_ 0 rfl) (w4.at_ 2 rfl) (w4.at_ 1 rfl) (w4.fr 2 rfl) (w4.fr 1 rfl) λts d H7 j5 x5 gT5 gI5 tr ix=>.expr (.bA (.var rfl) (w4.at_ 0 rfl) rfl rfl .bm j5) (k N TL IX fb ts d H7 nl tr ix ?_)
 exact w4.val (x5.ext w4.1 (Ob (w4.fr 2 rfl) (w4.fr 1 rfl))) rfl (nj (x5 _ _ (tI (w4.ne 0 2 rfl rfl rfl) (w4.ne 0 1 rfl rfl rfl)) (w4.at_ 0 rfl)) (nj gI5 (nj gT5 (nj (x5 _ _ (tI (w4.ne 3 2 rfl rfl rfl) (w4.ne 3 1 rfl rfl rfl)) (w4.at_ 3 rfl)) qo))))
theorem Nv (h:bN H u g G A LS SA S) (nl:Nl G fb) (tr:p9 S S.length [] ts) (ix:Ix ts d) (w:Ow H H' (l4 la u N TL IX fb ts d))
  (k:∀DL RL ms RA rows H8,Ow H H8 (l6 la u N TL IX DL RL fb ts d ms RA)->gy H8 RA rows->(∀b∈RA,b∉[la])->By S ts fb ts.length ms rows->cB ((bo 54).dr 8) (L3 la u none) H8 Q):cB ((bo 54).dr 5) (L3 la u none) H' Q:=by
 refine hS λDL H6 jD fD gD eD=>.attr w jD fD gD eD rfl rfl rfl λH1 w1 _=>hS λRL H7 jR fR gR eR=>.attr w1 jR fR gR eR rfl rfl rfl λH2 w2 _=>?_
 refine uv h nl.1 tr ix w2.1 (w2.at_ 5 rfl) (w2.at_ 4 rfl) (w2.at_ 3 rfl) (tI (w2.ne 5 2 rfl rfl rfl) (w2.ne 5 1 rfl rfl rfl)) (tI (w2.ne 4 2 rfl rfl rfl) (w2.ne 4 1 rfl rfl rfl)) (w2.at_ 0 rfl) (w2.at_ 2 rfl) (w2.at_ 1 rfl) (w2.fr 2 rfl) (w2.fr 1 rfl) (w2.ne 2 1 rfl rfl rfl)
  λms RA rows H8 j8 x8 gD8 gR8 ra raf rd=>.expr (.bA (.var rfl) (w2.at_ 0 rfl) rfl rfl .bm j8) (k DL RL ms RA rows H8 ?_ ra (λb m k=>c7 (raf b m) (ak.1 k▸w2.at_ 0 rfl)) rd)
 have old:∀{b:Nat} {o:O} (i:Nat),Nat.beq i 2=false->Nat.beq i 1=false->(((la,O.inst 6 (Oj u N TL IX DL RL))::(RL,.list [])::(DL,.list [])::(l4 la u N TL IX fb ts d).tail)[i]?)=some (b,o)->H8[b]?=some o:=λi a c e=>x8 _ _ (tI (w2.ne i 2 a e rfl) (w2.ne i 1 c e rfl)) (w2.at_ i e)
 exact w2.val (x8.ext w2.1 (Ob (w2.fr 2 rfl) (w2.fr 1 rfl))) rfl (nj (old 0 rfl rfl rfl) (nj gR8 (nj gD8 (nj (old 3 rfl rfl rfl) (nj (old 4 rfl rfl rfl) (nj (old 5 rfl rfl rfl) qo))))))
theorem Nw (w:Ow H H' (l6 la u N TL IX DL RL fb ts d ms RA)) (ra:gy H' RA rows) (EA:∀b∈RA,b∉[la]) (tz:(ts.map tV).length≤SZ)
  (k:∀IL UL LB IA UA H6,Ow H H6 (l9 u ⟨la,N,TL,IX,DL,RL,IL,UL,LB⟩ fb ts d ms RA IA UA)->gy H6 RA rows->IA.length=ts.length->UA.length=ts.length->(∀b∈IA++UA,H6[b]?=some (.list [])∧H[b]?=none)->(∀{b o},H'[b]?=some o->b∉IA++UA)->IL∉IA++UA->UL∉IA++UA->
   cB ((bo 54).dr 11) (L3 la u none) H6 Q):cB ((bo 54).dr 8) (L3 la u none) H' Q:=by
 refine qp (L:=[]) (w.at_ 4 rfl) tz λIA H1 jA lA _ fA eA=>kh (L:=L3 la u none) (caps:=[]) rfl (.pF (.attr (f:=55) (.var (i:=0) rfl) (w.at_ 0 rfl) rfl rfl) (.list (w.at_ 4 rfl)) tz) rfl jA (by rw[ae,lA];exact tz) λIL H2 jI fI gI eI=>.attr (w.ext eA) jI fI gI eI rfl rfl rfl λH3 w3 x3=>?_
 have fr:∀{b:Nat} {o:O},H'[b]?=some o->∀{c:Nat},c∈IA->c∉[b]:=λe c m k=>c7 (fA _ m).2 (ak.1 k▸e)
 have gA:∀b∈IA,H3[b]?=some (.list []):=λb m=>x3 _ _ (fr (w.at_ 0 rfl) m) (fA b m).1
 have lA':IA.length=ts.length:=lA.trans (ae _)
 refine qp (L:=[]) (w3.at_ 5 rfl) tz λUA H4 jB lB _ fB eB=>kh (L:=L3 la u none) (caps:=[]) rfl (.pF (.attr (f:=55) (.var (i:=0) rfl) (w3.at_ 0 rfl) rfl rfl) (.list (w3.at_ 5 rfl)) tz) rfl jB (by rw[ae,lB];exact tz) λUL H5 jU fU gU eU=>.attr (w3.ext eB) jU fU gU eU rfl rfl rfl λH6 w6 x6=>?_
 have gB:∀b∈UA,H6[b]?=some (.list []):=λb m=>x6 _ _ (λk=>c7 (fB b m).2 (ak.1 k▸w3.at_ 0 rfl)) (fB b m).1
 refine lS (H:=H6) (n:=1) (L:=L3 la u none) λLB H7 jL fL gL eL=>.attr w6 jL fL gL eL rfl rfl rfl λH8 w8 x8=>?_
 have up:∀{b:Nat} {o:O},b∉[la]->H3[b]?=some o->H8[b]?=some o:=λn e=>x8 _ _ n (x6 _ _ n (eB _ _ e))
 have n3:∀{b:Nat} {o:O},H3[b]?=some o->b∉UA:=λe m=>c7 (fB _ m).2 e
 refine k IL UL LB IA UA H8 w8 (((ra.ext eA).ex x3 EA).ex (λ_ _ n e=>up n e) EA) lA' (lB.trans (ae _)) (v5 (λb m=>⟨up (fr (w.at_ 0 rfl) m) (gA b m),w.1.none (fA b m).2⟩) λb m=>⟨x8 _ _ (λk=>c7 (fB b m).2 (ak.1 k▸w3.at_ 0 rfl)) (gB b m),w3.1.none (fB b m).2⟩)
  (λ{b o} e m=>(aE.1 m).elim (λm=>c7 (fA _ m).2 e) λm=>?_) (λm=>(aE.1 m).elim (λm=>c7 fI (fA _ m).1) (n3 (w3.at_ 1 rfl))) λm=>(aE.1 m).elim (λm=>c7 fU (eB _ _ (gA _ m))) λm=>c7 fU (fB _ m).1
 by_cases c:b=la
 ·exact n3 (c▸w3.at_ 0 rfl) m
 ·exact n3 (x3 _ _ (vQ c) (eA _ _ e)) m
end
theorem EP {n:Nat} {r:Nat->Nat} {k:Nat} (l:∀z<n,r z<k):∀s∈tab n r,s<k:=λs m=>(aA.1 m).elim λz w=>w.2▸l z (a_.1 w.1)
theorem Ny {H0 H1:Hp} {a:IU} {t:x_} {c:Nat->List Nat} {ms RA:List Nat} {rows:List (List Nat)} {Q:Ps} (F:Fi H0 H1 u g G A LS SA S a t) (bg:yY H1 H t.ts.length t.B c) (fa:H0[a.la]?=none) (gD:H[a.DL]?=some (.list (vn ms))) (rel:pG H a.RL t.ts.length RA λz=>rows.getD z []) (ml:ms.length=t.ts.length) (Nr:∀s∈ms,s<32)
  (k:∀M H2 (r1 r2:Nat->Nat) RM FM,Ext H0 H2->H2[a.la]?=some (.inst 6 (laH u a.N a.TL a.IX a.DL a.RL a.IL a.UL a.LB RM FM M))->H2[M]?=some (.bX (pd vI (jm (tab t.ts.length r2) c t.l)))->H0[M]?=none->(∀z<t.ts.length,Sb (ms.getD z 0) (r1 z))->(∀z<t.ts.length,∀y∈rows.getD z [],Sb (r1 y) (r1 z))->(∀z<t.ts.length,Sb (r1 z) (r2 z))->(∀z<t.ts.length,∀y∈c (t.IA.getD z 0),Sb (r2 y) (r2 z))->(∀z<t.ts.length,r2 z<32)->Q .next (L3 a.la u (some (.int t.ts.length))) H2):
  cB ((bo 54).dr 12) (L3 a.la u none) H Q:=by
 have hl:=bg.1 _ _ F.18 F.4
 have tl:=F.tl
 have w:Ow H0 H [(a.la,.inst 6 (a.fs u))]:=⟨F.x bg,nj ⟨fa,hl⟩ qo,dg.2 ⟨aR,.nil⟩⟩
 refine .set ((JE.len (.attr (.var rfl) hl rfl rfl) (.list (bg.1 _ _ F.15 F.7) (by rw[ae];exact aj tl (by decide)))).to (by rw[ae])) ?_
 refine Dg.tZ (c2:=a.DL) rel gD ml Nr λRM r1 H2 j2 f2 g2 e2 s1 l1 c1=>?_
 refine .attr w (.call (.av (.var (i:=2) rfl) (.av (.attr (.var (i:=0) rfl) hl (f:=58) rfl rfl) (.av (.attr (.var (i:=0) rfl) hl (f:=57) rfl rfl) .bm))) j2) f2 g2 e2 rfl rfl rfl λH3 w3 x3=>?_
 have I:∀{z:Nat},z<t.ts.length->t.IA[z]?=some (t.IA.getD z 0):=λhz=>getD_at (F.12.symm▸hz)
 have B:=λ{z:Nat} (hz:z<t.ts.length)=>bg.2 _ (F.21 _ (am (I hz)))
 have y3:∀{b:Nat} {o:O},H[b]?=some o->Nat.beq o.ctorIdx 4=false->H3[b]?=some o:=λe n=>x3 _ _ (vQ (dj e hl n)) e
 refine Dg.tZ (rel:=λz=>c (t.IA.getD z 0)) (c2:=RM) (RA:=t.IA) (RL:=a.IL) (n:=t.ts.length) ⟨y3 (bg.1 _ _ F.16 F.9) rfl,λz hz=>⟨_,I hz,y3 (B hz).1 rfl⟩,λz hz=>(B hz).2.2,λz hz=>aj (B hz).2.len tl,tl⟩ (w3.at_ 1 rfl) Dg.oQ (EP l1) λFM r2 H4 j4 f4 g4 e4 s2 l2 c2=>?_
 refine .attr w3 (.call (.av (.var (i:=2) rfl) (.av (.attr (.var (i:=0) rfl) (w3.at_ 0 rfl) (f:=61) rfl rfl) (.av (.attr (.var (i:=0) rfl) (w3.at_ 0 rfl) (f:=67) rfl rfl) .bm))) j4) f4 g4 e4 rfl rfl rfl λH5 w5 x5=>?_
 have y5:∀{b:Nat} {o:O},H[b]?=some o->Nat.beq o.ctorIdx 4=false->H5[b]?=some o:=λe n=>x5 _ _ (vQ (dj e hl n)) (y3 e n)
 refine BD (l:=t.l) (c:=c) (n:=t.ts.length) (ms:=tab t.ts.length r2) (w5.at_ 0 rfl) (LB:=a.LB) (FM:=FM) rfl rfl (y5 (bg.1 _ _ F.20 F.11) rfl) (w5.at_ 1 rfl) F.26.3 (aj F.26.4 (aj (bF 5 F.1.6.5) (by decide))) (λp m=>⟨y5 (bg.2 _ (F.23 p m)).1 rfl,(bg.2 _ (F.23 p m)).2⟩) Dg.oQ tl λM H6 j6 f6 e6 g6=>?_
 exact .attr w5 (.bA (.var rfl) (w5.at_ 0 rfl) rfl rfl .bm j6) f6 g6 e6 rfl rfl rfl λH7 w7 _=>.nil (k M H7 r1 r2 RM FM w7.1 (w7.at_ 0 rfl) (w7.at_ 1 rfl) (w7.fr 1 rfl) s1 c1 (λz hz t ht=>s2 z hz t (by rw[aF,Dg.ja hz];exact ht)) c2 l2)
theorem v7 {la:Nat} (h:bN H u g G A LS SA S) (fa:H[la]?=none) (e:Ext H H') (ha:H'[la]?=some (.inst 6 []))
  (q:∀M H2 t c ms rows r1 r2 N TL IX DL RL IL UL LB RM FM,JR 54 [.ref la,.ref u] H' .none H2->Ext H H2->H2[la]?=some (.inst 6 (laH u N TL IX DL RL IL UL LB RM FM M))->H2[M]?=some (.bX (pd vI (jm (tab t.ts.length r2) c t.l)))->H[M]?=none->Hl G S t c ms rows r1 r2->R):R:=by
 refine dc 54 [.ref la,.ref u] H' rfl rfl (L:=L3 la u none) rfl λQ q'=>Nu h fa e ha λN TL IX fb ts d H1 nl tr ix w1=>Nv h nl tr ix w1 λDL RL ms RA rows H2 w2 IM EA rd=>?_
 refine Nw w2 IM EA (by rw[ae];exact aj tr.4 (aj (bF 8 h.6.5) (by decide))) λIL UL LB IA UA H3 w3 ra3 lI lU emp nf nIL nUL=>?_
 refine ry h w3.1 ⟨la,N,TL,IX,DL,RL,IL,UL,LB⟩ (w3.at_ 0 rfl) (w3.at_ 8 rfl) nl.1 (w3.at_ 7 rfl) (w3.at_ 6 rfl) (w3.at_ 3 rfl) (w3.at_ 2 rfl) (w3.at_ 1 rfl) lI lU (w3.fr 1 rfl) (w3.ne 6 1 rfl rfl rfl) emp (nj (nf (w2.at_ 5 rfl)) (nj (nf (w2.at_ 4 rfl)) (nj nIL (nj nUL qo)))) tr ix λl c H4 H5 j5 F bg inc x5=>?_
 have up:∀{b:Nat} {o o':O},H3[b]?=some o->H2[b]?=some o'->Nat.beq o.ctorIdx 2=false->H5[b]?=some o:=λe e2 n=>x5 _ _ (λm=>(aH.1 m).elim (dj e (w3.at_ 1 rfl) n) (nf e2)) e
 refine .expr (.bA (.var rfl) (w3.at_ 0 rfl) rfl rfl .bm j5) (Ny F bg fa (up (w3.at_ 5 rfl) (w2.at_ 2 rfl) rfl) (BH h (up (w3.at_ 4 rfl) (w2.at_ 1 rfl) rfl) ⟨ra3.1,λi b row e1 e2=>up (ra3.2 i b row e1 e2) (IM.2 i b row e1 e2) rfl⟩ rd tr) rd.1 (rd.Nr h tr)
  λM H6 r1 r2 RM FM e6 g6 gM fM a1 b1 a2 b2 lt=>q' λj=>q M H6 (.of fb ts d IA UA l) c ms rows r1 r2 N TL IX DL RL IL UL LB RM FM j e6 g6 gM fM ⟨nl,tr,rd,inc,F.12,F.26,a1,b1,a2,b2,lt⟩)
end
section
open Dg (pG Sb tab)
variable {H H':Hp} {u g LS:Nat} {G:aJ} {A:GA} {SA:List Nat} {S:List cT} {R:Prop}
inductive nv (G:aJ) (S:List cT) (m:Nat->Nat->Nat):Prop
 |mk (lt:∀(q:Nat) s r,S[q]?=some s->r∈s.red->m q r<32) (fol:∃F,Ey G S F∧∀p r q t p2 s,0<r->r<5->It S p (G.off r)->Walk S p (G.right r) q->Mv S p (G.left r) p2->S[q]?=some s->r∈s.red->F p (G.left r) t->(m q r).testBit t=true)
noncomputable def Ov (d:List (List Int×V)) (q r:Nat):Nat:=match eP [(q:Int),(r:Int)] d with
 |some (.int v)=>v.toNat
 |_=>0
theorem EQ {d:List (List Int×V)} {q r v:Nat} (h:eP [(q:Int),(r:Int)] d=some (vI v)):Ov d q r=v:=by unfold Ov;rw[h];rfl
variable {t:x_} {c:Nat->List Nat} {ms:List Nat} {rows:List (List Nat)} {r1 r2:Nat->Nat}
theorem Hl.idx (l:Hl G S t c ms rows r1 r2) {p X y:Nat} (m:Mv S p X y) (z:5≤X):∃i:Nat,t.ts[i]?=some (p,X):=m.elim λs w=>
 aP (l.2.2 p s X w.1 (aA.2 ⟨_,w.2,rfl⟩) z (.inl (ah.1 w.1).1))
theorem Hl.Om (h:bN H u g G A LS SA S) (l:Hl G S t c ms rows r1 r2) {i p X y:Nat} (e:t.ts[i]?=some (p,X)) (m:Mv S p X y) {s:cT} (es:S[y]?=some s):xY S t.ts t.fb y (jX (s.mv.map (·.1))) (ms.getD i 0) (rows.getD i []):=m.elim λs' w=>
 have z:=(ah.1 e).1
 l.3.3 i p X s' y s _ _ e (getD_at (l.3.1.symm▸z)) (getD_at (l.3.2.symm▸z)) w.1 w.2 es
theorem Hl.up (h:bN H u g G A LS SA S) (l:Hl G S t c ms rows r1 r2) {p A' i:Nat} (z5:5≤A') (e:t.ts[i]?=some (p,A')) {dw st cs:List Nat} (k:Up G S p A' dw st cs):
  ∀q lD,st=q::lD->∃j p' X,C3 (t.ts[j]?=some (p',X)) (Mv S p' X q) (Sb (r1 j) (r1 i)):=by
 induction k with
 |base m=>exact λq lD eq=>⟨i,p,A',e,(bC eq).1▸m,Sb.r⟩
 |push _ m n z ih=>
  exact λq' lD eq=>(ih _ _ rfl).elim λj w=>w.elim λp' w=>w.elim λX w=>(id m).elim λs v=>
   ((l.Om h w.1 w.2 v.1).4 _ (dL.2 (aA.2 ⟨_,v.2,rfl⟩)) z (l.1.nul n)).elim λj2 a=>⟨j2,_,_,a.1,(bC eq).1▸m,(l.8 j (ah.1 w.1).1 j2 a.2).trans w.3⟩
theorem Hl.ok (h:bN H u g G A LS SA S) (l:Hl G S t c ms rows r1 r2):nv G S (Ov (pd vI (jm (tab t.ts.length r2) c t.l))):=by
 have nd:((jm (tab t.ts.length r2) c t.l).map (·.1)).Nodup:=by rw[jm,bJ];exact l.6.3
 have gt:∀q (s:cT) r,S[q]?=some s->r∈s.red->∃b,((q,r),b)∈t.l∧Ov (pd vI (jm (tab t.ts.length r2) c t.l)) q r=tU (tab t.ts.length r2) (c b):=λq s r e m=>(aP m).elim λj hj=>
  (l.6.1 q s j r e hj (.inl (ah.1 e).1)).elim λb mb=>⟨b,mb,EQ (vZ (k:=(q,r)) nd (aA.2 ⟨_,mb,rfl⟩))⟩
 refine⟨λq s r e m=>(gt q s r e m).elim λb w=>w.2▸EF (EP l.11),λp A' x=>∃i,t.ts[i]?=some (p,A')∧(r2 i).testBit x=true,⟨λp A' dw q lD cs x y z5 k u m zx=>?_,λp' r a A' b p x z0 z i e z5 n w mv hF=>?_⟩,λp r q x p2 s z0 z i w mv e m hF=>?_⟩
 ·exact u.Og.elim λp1 m1=>(l.idx m1 z5).elim λi hi=>(l.up h z5 hi u q lD rfl).elim λj v=>v.elim λp' v=>v.elim λX v=>m.elim λs f=>
   ⟨i,hi,l.9 i (ah.1 hi).1 x (v.3 x (l.7 j (ah.1 v.1).1 x ((l.Om h v.1 v.2 f.1).3 x (dL.2 (aA.2 ⟨_,f.2,rfl⟩)) zx)))⟩
 ·have la:a.length≤(G.right r).length:=by rw[e,aq];exact bx _ _
  have ta:(G.right r).take a.length=a:=by rw[e,oy]
  have ea:(G.right r)[a.length]?=some A':=by rw[e];exact yW
  exact hF.elim λj f=>(Bw h.1 h.6 z i a.length la).elim λp3 v=>by
   have ep:p=p3:=tT h.6 w (ta▸v.1)
   exact(v.2.mv h.1 h.6 ((rt h.1 z la).trans ea)).elim λp4 m4=>(l.idx m4 z5).elim λy hy=>by
    have zy:=(ah.1 hy).1
    have mc:=(l.4 j (ah.1 f.1).1 p' (G.left r) f.1 r ((pR h.1.13).2 ⟨z,rfl⟩)).1 a.length A' p3 y _ ea z5 (by rw[e,tS];exact λZ hZ=>l.1.nul (n Z hZ).2) v.1 hy (getD_at (d:=0) (l.5.symm▸zy))
    exact⟨y,ep▸hy,l.10 y zy j mc x f.2⟩
 ·exact hF.elim λj f=>(gt q s r e m).elim λb v=>by
   rw[v.2,BC]
   exact⟨j,(l.4 j (ah.1 f.1).1 p (G.left r) f.1 r ((pR h.1.13).2 ⟨z,rfl⟩)).2 q b w v.1,by rw[aF,Dg.ja (ah.1 f.1).1];exact f.2⟩
theorem KB (h:bN H u g G A LS SA S) {fs ws:List Nat} (f1:G2 G fs) (f2:J9 G fs ws):nv G S λ_ r=>ws.getD (G.left r) 0:=
 ⟨λ_ _ _ _ _=>jj f2.2,_,Hg h.1 h.6 f1 f2,λ_ _ _ _ _ _ _ _ _ _ _ _ _ hF=>hF⟩
theorem uw (h:bN H u g G A LS SA S) (q:∀M m d H',JR 12 [.ref u] H (.ref M) H'->H[M]?=none->Ext H H'->Fz H' M S m d->nv G S m->R):R:=by
 refine dc 12 [.ref u] H rfl rfl (L:=[some (.ref u)]) rfl λQ q'=>new_ (H:=H) (L:=[some (.ref u)]) (c:=6) (.av (.var (i:=0) rfl) .bm) rfl λla H1 fa ga ea nw=>
  v7 h fa ea ga λM H2 t c ms rows r1 r2 N TL IX DL RL IL UL LB RM FM j e2 hl gM fM P2=>.ret (.attr (nw j) hl rfl rfl) (q' λj=>q M _ _ H2 j fM e2 ⟨gM,λq s r e m=>?_⟩ (P2.ok h))
 refine(aP m).elim λj' hj=>(P2.6.1 q s j' r e hj (.inl (ah.1 e).1)).elim λb mb=>?_
 have:=vZ (f:=vI) (l:=jm (tab t.ts.length r2) c t.l) (k:=(q,r)) (by rw[jm,bJ];exact P2.6.3) (aA.2 ⟨_,mb,rfl⟩)
 rw[EQ this];exact this
end
section
variable {H:Hp} {g:Nat} {G:aJ} {A:GA} {R:Prop}
noncomputable def aJ.lvl (G:aJ) (r:Nat):Int:=(G.rules[r]?.map (·.lvl)).getD (-1)
noncomputable def aJ.uU (G:aJ) (k:Int):V:=(eP k G.levels).getD .none
noncomputable def Ox:V->Option (Int×Nat)
 | .tup [.int a,.str b]=>some (a,b)
 |_=>none
noncomputable def Nz (a b:Int) (s:Nat):V:=if b<a then .str 12 else if a<b then .str 13 else if s=0 then .str 12 else if s=1 then .str 13 else if s=2 then .str 14 else .none
noncomputable def zd (own other:V):V:=match Ox own with
 |none=>.none
 |some p=>match Ox other with
  |none=>.none
  |some q=>Nz p.1 q.1 q.2
theorem u0 (o:G.Ok) (k:Int):G.uU k= .none∨∃a b:Nat,G.uU k= .tup [.int a,.str b]:=by
 unfold aJ.uU
 cases e:eP k G.levels with
 |none=>exact .inl rfl
 |some v=>
  right
  rw[eP,bq]at e
  obtain⟨p,hp,rfl⟩:=e
  have m:=dH hp
  obtain⟨a,b,e,_⟩:=o.10 p.1 p.2 m
  exact⟨a,b,e⟩
theorem BI (hG:cg H g G A) {r t:Nat} (z:r<5):JR 17 [.ref g,.int r,.int t] H (zd (G.uU (G.lvl r)) (G.uU t)) H:=by
 refine hG.at_ z λa x r1 r2 r3 r4 r5=>?_
 have el:G.lvl r=x.lvl:=by rw[aJ.lvl,r2];rfl
 rw[el]
 refine dc 17 [.ref g,.int r,.int t] H rfl rfl (L:=[some (.ref g),some (.int r),some (.int t),none,none]) rfl λQ q=>?_
 refine .set (v:=G.uU x.lvl) (.u9 (.attr (.var rfl) hG.1 rfl rfl) (.attr (.idx (.attr (.var rfl) hG.1 rfl rfl) (.var rfl) (.nat hG.2 (dB r1))) r3 rfl rfl) (.inl ⟨_,hG.10⟩) (.i hG.10)) (.set (v:=G.uU t) (.u9 (.attr (.var rfl) hG.1 rfl rfl) (.var rfl) (.inl ⟨_,hG.10⟩) (.i hG.10)) ?_)
 rcases u0 hG.13 x.lvl with e1|⟨a1,b1,e1⟩
 ·rw[e1]at q ⊢
  exact .then (.xX (.ot (.b9 (.var rfl) .lit .is_none))) (.ret .lit (q id))
 rcases u0 hG.13 t with e2|⟨a2,b2,e2⟩
 ·rw[e1,e2]at q ⊢
  exact .then (.xX (.of (.b9 (.var rfl) .lit (.is_tup _)) (.ot (.b9 (.var rfl) .lit .is_none)))) (.ret .lit (q id))
 rw[e1,e2]at q ⊢
 refine .pass (.xX (.of (.b9 (.var rfl) .lit (.is_tup _)) (.of (.b9 (.var rfl) .lit (.is_tup _)) .wZ))) ?_
 have i1:JE (.idx (.var 3) (.lit (.int 0))) [some (.ref g),some (.int r),some (.int t),some (.tup [.int a1,.str b1]),some (.tup [.int a2,.str b2])] H (.int a1) H:=.idx (.var rfl) .lit (.tup (ic _ rfl) rfl rfl)
 have i2:JE (.idx (.var 4) (.lit (.int 0))) [some (.ref g),some (.int r),some (.int t),some (.tup [.int a1,.str b1]),some (.tup [.int a2,.str b2])] H (.int a2) H:=.idx (.var rfl) .lit (.tup (ic _ rfl) rfl rfl)
 have i3:JE (.idx (.var 4) (.lit (.int 1))) [some (.ref g),some (.int r),some (.int t),some (.tup [.int a1,.str b1]),some (.tup [.int a2,.str b2])] H (.str b2) H:=.idx (.var rfl) .lit (.tup (ic _ rfl) rfl rfl)
 have T1:=JT.b9 i1 i2 (.gt _ _)
 have T2:=JT.b9 i1 i2 (.lt _ _)
 have T3:=λs=>JT.b9 i3 (.lit (v:=.str s)) (.eq (.str b2 s))
 have sv:zd (.tup [.int a1,.str b1]) (.tup [.int a2,.str b2])=if(a2:Int)<a1 then .str 12 else if(a1:Int)<a2 then .str 13 else if b2=0 then .str 12 else if b2=1 then .str 13 else if b2=2 then .str 14 else .none:=rfl
 rw[sv]at q
 by_cases c1:(a2:Int)<a1
 ·rw[decide_eq_true c1]at T1;rw[if_pos c1]at q
  exact .then T1 (.ret .lit (q id))
 rw[decide_eq_false c1]at T1;rw[if_neg c1]at q
 refine .pass T1 ?_
 by_cases c2:(a1:Int)<a2
 ·rw[decide_eq_true c2]at T2;rw[if_pos c2]at q
  exact .then T2 (.ret .lit (q id))
 rw[decide_eq_false c2]at T2;rw[if_neg c2]at q
 refine .pass T2 ?_
 by_cases c3:b2=0
 ·have:=T3 0;rw[beq_iff_eq.2 c3]at this;rw[if_pos c3]at q
  exact .then this (.ret .lit (q id))
 have t3:=T3 0;rw[beq_eq_false_iff_ne.2 c3]at t3;rw[if_neg c3]at q
 refine .pass t3 ?_
 by_cases c4:b2=1
 ·have:=T3 1;rw[beq_iff_eq.2 c4]at this;rw[if_pos c4]at q
  exact .then this (.ret .lit (q id))
 have t4:=T3 1;rw[beq_eq_false_iff_ne.2 c4]at t4;rw[if_neg c4]at q
 refine .pass t4 ?_
 by_cases c5:b2=2
 ·have:=T3 2;rw[beq_iff_eq.2 c5]at this;rw[if_pos c5]at q
  exact .then this (.ret .lit (q id))
 have t5:=T3 2;rw[beq_eq_false_iff_ne.2 c5]at t5;rw[if_neg c5]at q
 exact .pass t5 (.ret .lit (q id))
theorem ze (a b:Int) (s:Nat) {x:V} (h:Nz a b s=x):x= .none∨x= .str 12∨x= .str 13∨x= .str 14:=by
 subst h
 have A:∀{c:Prop} [Decidable c] {y z:V},(y= .none∨y= .str 12∨y= .str 13∨y= .str 14)->(z= .none∨z= .str 12∨z= .str 13∨z= .str 14)->((if c then y else z)= .none∨(if c then y else z)= .str 12∨(if c then y else z)= .str 13∨(if c then y else z)= .str 14):=λ{c} _ {y z} h k=>by
  by_cases w:c
  ·rw[if_pos w];exact h
  ·rw[if_neg w];exact k
 exact A (.inr (.inl rfl)) (A (.inr (.inr (.inl rfl))) (A (.inr (.inl rfl)) (A (.inr (.inr (.inl rfl))) (A (.inr (.inr (.inr rfl))) (.inl rfl)))))
theorem t7 (o w:V) {x:V} (h:zd o w=x):x= .none∨x= .str 12∨x= .str 13∨x= .str 14:=by
 unfold zd at h
 cases e:Ox o with
 |none=>rw[e]at h;exact .inl h.symm
 |some p=>
  rw[e]at h
  cases e2:Ox w with
  |none=>rw[e2]at h;exact .inl h.symm
  |some q=>rw[e2]at h;exact ze _ _ _ h
structure jx where
 q:Nat
 t:Nat
 way:Nat
 rules:List Nat
 ch:Int
noncomputable def jx.told (c:jx):V:=.tup [.int c.q,.int c.t,.str c.way,.tup (vn c.rules),.int c.ch]
noncomputable def jx.o (c:jx):O:=.inst 9 [(78,.int c.q),(79,.int c.t),(80,.str c.way),(5,.tup (vn c.rules)),(81,.int c.ch)]
theorem lV {a:Nat} {H':Hp} (c:jx) (fa:H[a]?=none) (e:Ext H H') (ha:H'[a]?=some (.inst 9 []))
  (k:∀H2,JR 58 [.ref a,.int c.q,.int c.t,.str c.way,.tup (vn c.rules),.int c.ch] H' .none H2->Ext H H2->H2[a]?=some c.o->eH [a] H' H2->R):R:=by
 have w0:Ow H H' [(a,.inst 9 [])]:=Ow.new ⟨.r,nofun,.nil⟩ fa ha e
 refine dc 58 [.ref a,.int c.q,.int c.t,.str c.way,.tup (vn c.rules),.int c.ch] H' rfl rfl (L:=[some (.ref a),some (.int c.q),some (.int c.t),some (.str c.way),some (.tup (vn c.rules)),some (.int c.ch)]) rfl λQ q'=>?_
 refine .own (.var rfl) rfl w0 rfl rfl λH1 w1 x1=>.own (.var rfl) rfl w1 rfl rfl λH2 w2 x2=>.own (.var rfl) rfl w2 rfl rfl λH3 w3 x3=>.own (.var rfl) rfl w3 rfl rfl λH4 w4 x4=>.own (.var rfl) rfl w4 rfl rfl λH5 w5 x5=>.nil (q' λj=>k H5 j w5.1 (w5.at_ 0 rfl) (((x1.trans x2).trans (x3.trans x4)).trans x5))
end
section
open Dg (lO)
section
variable {H1 H:Hp} {l:List (Nat×O)} {b:Nat} {o p:O}
theorem Ow.fz (h:Ow H1 H l) (k:H1[b]?=some o) (p:O):Ow (H1.set b p) (H.set b p) l:=by
 have n:∀x∈l,x.1≠b:=λx m e=>by have:=(h.2 x m).1;rw[e,k]at this;cases this
 refine⟨λa q hq=>?_,λx m=>⟨?_,eK (h.2 x m).2 (n x m)⟩,h.3⟩
 ·by_cases e:a=b
  ·subst e;rw[dq k]at hq;cases hq;exact dq (h.1 _ _ k)
  ·rw[a7 (d4 e)]at hq ⊢;exact h.1 _ _ hq
 ·rw[a7 (d4 (n x m))];exact(h.2 x m).1
theorem Ow.th (h:Ow (H1.set b p) H l) (k:H1[b]?=some o):Ow H1 (H.set b o) l:=by
 have hb:=h.1 b p (dq k)
 have n:∀x∈l,x.1≠b:=λx m e=>by have:=(h.2 x m).1;rw[e,dq k]at this;cases this
 refine⟨λa q hq=>?_,λx m=>⟨?_,eK (h.2 x m).2 (n x m)⟩,h.3⟩
 ·by_cases e:a=b
  ·subst e;rw[k]at hq;cases hq;exact dq hb
  ·exact eK (h.1 a q (eK hq e)) e
 ·have:=(h.2 x m).1;rw[a7 (d4 (n x m))]at this;exact this
end
theorem Hm {α:Type} {f:α->V} {ks:List (Nat×α)} {t:Nat}:yb (t:Int) (nd f ks)=nd f (ks.filter λp=>p.1 !=t):=by
 rw[yb,nd,nd,List.filter_map]
 congr 1
 apply List.filter_congr
 intro x _
 show decide ((x.1:Int)≠(t:Int))=(x.1 !=t)
 by_cases e:x.1=t
 ·rw[e];simp
 ·have:(x.1:Int)≠t:=λk=>e (a8.1 k)
  simp[e,this]
noncomputable def qC (l:List (Nat×Nat)):List (Nat×Int):=(l.filter λp=>p.1<5).map λp=>(p.1,if p.1=0 then 1048576 else(p.2:Int))
noncomputable def goN (l:List (Nat×Nat)):List (Nat×Nat):=l.filter λp=>5≤p.1
noncomputable def zg (g q SH GO LK SE:Nat) (bar:Nat):O:=.inst 8 [(12,.ref g),(7,.int q),(75,.ref SH),(21,.ref GO),(76,.ref LK),(77,.int bar),(20,.ref SE)]
noncomputable def BJ (p:Nat×Nat×Nat):Nat×O:=(p.1,lO [p.2.1,p.2.2])
noncomputable def cO (p:Nat×jx):Nat×O:=(p.1,p.2.o)
noncomputable def jC {α:Type} (l:List (Nat×α)):O:=.list ((l.map (·.1)).map .ref)
noncomputable def om (mk SH GO LK SE g q:Nat) (sh:List (Nat×Int)) (go:List (Nat×Nat)) (dQ:List (Nat×Nat×Nat)) (bar:Nat) (ca:List (Nat×jx)):List (Nat×O):=
 [(mk,zg g q SH GO LK SE bar),(SH,.bj (nd .int sh)),(GO,.bj (nd vI go)),(LK,jC dQ),(SE,jC ca)]++(dQ.map BJ++ca.map cO)
variable {H H':Hp} {u g LS:Nat} {G:aJ} {A:GA} {SA:List Nat} {S:List cT} {R:Prop}
theorem Hn {l:List (Nat×Nat)} {X p:Nat}:qC (l++[(X,p)])=if X<5 then qC l++[(X,if X=0 then 1048576 else(p:Int))]else qC l:=by
 rw[qC,cS]
 by_cases c:X<5
 ·have e:([(X,p)]:List (Nat×Nat)).filter (λp=>decide (p.1<5))=[(X,p)]:=by simp[c]
  rw[if_pos c,e,az];rfl
 ·have e:([(X,p)]:List (Nat×Nat)).filter (λp=>decide (p.1<5))=[]:=by simp;omega
  rw[if_neg c,e,aO];rfl
theorem Ho {l:List (Nat×Nat)} {X p:Nat}:goN (l++[(X,p)])=if X<5 then goN l else goN l++[(X,p)]:=by
 rw[goN,cS]
 by_cases c:X<5
 ·have e:([(X,p)]:List (Nat×Nat)).filter (λp=>decide (5≤p.1))=[]:=by simp;omega
  rw[if_pos c,e,aO];rfl
 ·have e:([(X,p)]:List (Nat×Nat)).filter (λp=>decide (5≤p.1))=[(X,p)]:=by simp;omega
  rw[if_neg c,e];rfl
theorem Hq {l:List (Nat×Nat)} {X:Nat} (h:X∈(qC l).map (·.1)):X∈l.map (·.1):=by
 obtain⟨p,m,rfl⟩:=aA.1 h
 obtain⟨q,m2,rfl⟩:=aA.1 m
 exact aA.2 ⟨q,(bB.1 m2).1,rfl⟩
theorem Hr {l:List (Nat×Nat)} {X:Nat} (h:X∈(goN l).map (·.1)):X∈l.map (·.1):=by
 obtain⟨p,m,rfl⟩:=aA.1 h
 exact aA.2 ⟨p,(bB.1 m).1,rfl⟩
theorem xE {H1:Hp} {mk SH GO q a ia ma ra:Nat} {x3 x5:Option V} {s:cT} {fs:List (Nat×V)} {Q:Fl->Lc->Hp->Prop} {r:i6} (h:bN H u g G A LS SA S) (es:S[q]?=some s) (st:ni H a q s ia ma ra)
  (gf1:qO 75 fs=some (.ref SH)) (gf2:qO 21 fs=some (.ref GO)) (ow:Ow H H1 [(mk,.inst 8 fs),(SH,.bj []),(GO,.bj [])])
  (k:∀x4 H2,Ow H H2 [(mk,.inst 8 fs),(SH,.bj (nd .int (qC s.mv))),(GO,.bj (nd vI (goN s.mv)))]->cB r [some (.ref mk),some (.ref g),some (.ref a),x3,x4,x5] H2 Q):
  cB (.cons (.for (.v 4) (.ex (.attr (.var 2) 34)) (.cons (.ite (.cmp .eq (.var 4) (.lit (.int 0))) (.cons (.br (.attr (.var 0) 75) (.var 4) (.lit (.int 1048576))) .nil) (.cons (.ite (.cmp .lt (.var 4) (.attr (.var 1) 29)) (.cons (.br (.attr (.var 0) 75) (.var 4) (.idx (.attr (.var 2) 34) (.var 4))) .nil) (.cons (.br (.attr (.var 0) 21) (.var 4) (.idx (.attr (.var 2) 34) (.var 4))) .nil)) .nil)) .nil)) r)
   [some (.ref mk),some (.ref g),some (.ref a),x3,none,x5] H1 Q:=by
 have kl:=h.oj es
 have kd:=h.keys_nodup es
 have nm:∀{b:Nat} {o:O},H[b]?=some o->(∀d,o≠ .bj d)->∀{H2 l},Ow (H.set ma (.fi (nd vI s.mv))) H2 l->H2[b]?=some o:=λk n _ _ w=>w.1 _ _ (eK k (rN k st.3 (n _)))
 have it:JI (.ex (.attr (.var 2) 34)) [some (.ref mk),some (.ref g),some (.ref a),x3,none,x5] H1 (vn (s.mv.map (·.1))) (.bj ma (nd vI s.mv)) H1:=by
  rw[iE,←oP (f:=vI)]
  exact .pF (.attr (.var rfl) (ow.1 _ _ st.1) rfl rfl) (.bj (ow.1 _ _ st.3)) (lM (by rw[di,ae,ae,ly];omega))
 refine .jW (λ_ (t:Option V)=>[some (.ref mk),some (.ref g),some (.ref a),x3,t,x5]) (λn t H'=>Ow (H.set ma (.fi (nd vI s.mv))) H' [(mk,.inst 8 fs),(SH,.bj (nd .int (qC (s.mv.take n)))),(GO,.bj (nd vI (goN (s.mv.take n))))]) none it (ow.fz st.3 _) (λw=>w.1 _ _ (dq st.3)) ?_ ?_
 ·intro n X t H2 K hX w cq _
  obtain⟨⟨X',p⟩,hp,ex⟩:∃y,s.mv[n]?=some y∧y.1=X:=by
   rw[aK,bq]at hX;exact hX
  have ex:X'=X:=ex
  subst ex
  have tk:s.mv.take (n+1)=s.mv.take n++[(X',p)]:=by rw[aV,hp];rfl
  dsimp only at cq;rw[tk,Hn,Ho]at cq
  have nX:X'∉(s.mv.take n).map (·.1):=by
   have:=gV kd hX;rw[←iv]at this;exact this
  have D:=d6.fi (k:=(X':Int)) (w.1 _ _ (dq st.3))
  rw[kX (am hp) kd]at D
  have mvx:JE (.idx (.attr (.var 2) 34) (.var 4)) [some (.ref mk),some (.ref g),some (.ref a),x3,some (.int X'),x5] H2 (.int p) H2:=.idx (.attr (.var rfl) (nm st.1 nofun w) rfl rfl) (.var rfl) (.dict D)
  have l1:(nd V.int (qC (s.mv.take n))).length<SZ:=by
   have:=bp (λp:Nat×Nat=>decide (p.1<5)) (s.mv.take n)
   have:=bM n s.mv
   rw[ly,qC,ae];exact sf (by omega)
  have l2:(nd vI (goN (s.mv.take n))).length<SZ:=by
   have:=bp (λp:Nat×Nat=>decide (5≤p.1)) (s.mv.take n)
   have:=bM n s.mv
   rw[ly,goN];exact sf (by omega)
  have o1:∀v:Int,Ow (H.set ma (.fi (nd vI s.mv))) (H2.set SH (.bj (dput (X':Int) (.int v) (nd V.int (qC (s.mv.take n)))))) [(mk,.inst 8 fs),(SH,.bj (nd .int (qC (s.mv.take n)++[(X',v)]))),(GO,.bj (nd vI (goN (s.mv.take n))))]:=λv=>by
   rw[oO (f:=V.int) (λm=>nX (Hq m)) v]
   exact w.set [(mk,.inst 8 fs)] _
  have T0:=JT.b9 (H:=H2) (L:=[some (.ref mk),some (.ref g),some (.ref a),x3,some (.int X'),x5]) (.var (i:=4) rfl) .lit (.eq (.int (X':Int) 0))
  by_cases c0:X'=0
  ·have T:((X':Int)==0)=true:=by rw[c0];rfl
   rw[T]at T0
   rw[if_pos (show X'<5 by omega),if_pos (show X'<5 by omega),if_pos c0]at cq
   exact .then T0 (.br .lit (.attr (.var rfl) (w.at_ 0 rfl) rfl gf1) (.var rfl) (.bj (w.at_ 1 rfl) l1) (.nil (.nil (cq (some (.int X')) rfl (o1 1048576)))))
  ·have T:((X':Int)==0)=false:=beq_eq_false_iff_ne.2 λk=>c0 (a8.1 k)
   rw[T]at T0
   refine .else T0 ?_
   have T1:=JT.b9 (H:=H2) (L:=[some (.ref mk),some (.ref g),some (.ref a),x3,some (.int X'),x5]) (.var (i:=4) rfl) (.attr (f:=29) (.var (i:=1) rfl) (nm h.1.1 nofun w) rfl rfl) (.lt (X':Int) 5)
   by_cases c5:X'<5
   ·rw[decide_eq_true (show(X':Int)<5 by omega)]at T1
    rw[if_pos c5,if_pos c5,if_neg c0]at cq
    exact .then T1 (.br mvx (.attr (.var rfl) (w.at_ 0 rfl) rfl gf1) (.var rfl) (.bj (w.at_ 1 rfl) l1) (.nil (.nil (.nil (cq (some (.int X')) rfl (o1 p))))))
   ·rw[decide_eq_false (show ¬(X':Int)<5 by omega)]at T1
    rw[if_neg c5,if_neg c5]at cq
    refine .else T1 (.br mvx (.attr (.var rfl) (w.at_ 0 rfl) rfl gf2) (.var rfl) (.bj (w.at_ 2 rfl) l2) (.nil (.nil (.nil (cq (some (.int X')) rfl ?_)))))
    rw[show dput (X':Int) (V.int p) (nd vI (goN (s.mv.take n)))=nd vI (goN (s.mv.take n)++[(X',p)]) from oO (f:=vI) (λm=>nX (Hr m)) p]
    exact w.set [(mk,.inst 8 fs),(SH,.bj (nd .int (qC (s.mv.take n))))] _
 ·intro t H2 w
  rw[ae,aN]at w
  exact k t _ (w.th st.3)
end
section
open Dg (lO)
variable {H H':Hp} {u g LS:Nat} {G:aJ} {A:GA} {SA:List Nat} {S:List cT} {R:Prop}
theorem oS {α:Type} {l:List (Nat×α)} {b:Nat} {x:α}:O.list ((l.map (·.1)).map .ref++[.ref b])=jC (l++[(b,x)]):=by rw[jC,az,az];rfl
theorem ux {mk q a M:Nat} {s:cT} {m:Nat->Nat->Nat} {d:List (List Int×V)} (h:bN H u g G A LS SA S) (ms:Fz H M S m d) (es:S[q]?=some s) (ea:SA[q]?=some a) (fm:H[mk]?=none) (e:Ext H H') (hm:H'[mk]?=some (.inst 8 []))
  (k:∀SH GO LK SE dQ H2,JR 57 [.ref mk,.ref g,.ref a,.ref M] H' .none H2->Ow H H2 (om mk SH GO LK SE g q (qC s.mv) (goN s.mv) dQ 0 [])->dQ.map (·.2)=s.red.map (λr=>(r,m q r))->R):R:=by
 refine h.get es λa' ia ma ra ea' st=>?_
 cases ea.symm.trans ea'
 have w0:Ow H H' [(mk,.inst 8 [])]:=Ow.new ⟨.r,nofun,.nil⟩ fm hm e
 refine dc 57 [.ref mk,.ref g,.ref a,.ref M] H' rfl rfl (L:=[some (.ref mk),some (.ref g),some (.ref a),some (.ref M),none,none]) rfl λQ q'=>?_
 refine .own (.var rfl) rfl w0 rfl rfl λH1 w1 _=>.own (.attr (.var rfl) (w1.1 _ _ st.1) rfl rfl) rfl w1 rfl rfl λH2 w2 _=>?_
 refine lS (n:=0) (H:=H2) (L:=[some (.ref mk),some (.ref g),some (.ref a),some (.ref M),none,none]) λSH H3 j3 f3 g3 e3=>.own j3 rfl (Ow.ins [(mk,.inst 8 [(12,.ref g),(7,.int q)])] (B:=[]) (o:=.bj []) w2 f3 g3 e3) rfl rfl λH4 w4 _=>?_
 refine lS (n:=0) (H:=H4) (L:=[some (.ref mk),some (.ref g),some (.ref a),some (.ref M),none,none]) λGO H5 j5 f5 g5 e5=>.own j5 rfl (Ow.ins [(mk,.inst 8 [(12,.ref g),(7,.int q),(75,.ref SH)]),(SH,.bj [])] (B:=[]) (o:=.bj []) w4 f5 g5 e5) rfl rfl λH6 w6 _=>?_
 refine xE (x3:=some (.ref M)) (x5:=none) h es st rfl rfl w6 λx4 H7 w7=>?_
 refine hS λLK H8 j8 f8 g8 e8=>.own j8 rfl (Ow.ins [(mk,.inst 8 [(12,.ref g),(7,.int q),(75,.ref SH),(21,.ref GO)]),(SH,.bj (nd .int (qC s.mv))),(GO,.bj (nd vI (goN s.mv)))] (B:=[]) (o:=.list []) w7 f8 g8 e8) rfl rfl λH9 w9 _=>?_
 have rl:=h.qx es
 refine .jW (λ_ (t:List (Nat×Nat×Nat)×Option V)=>[some (.ref mk),some (.ref g),some (.ref a),some (.ref M),x4,t.2])
  (λn t H'=>Ow H H' ([(mk,.inst 8 [(12,.ref g),(7,.int q),(75,.ref SH),(21,.ref GO),(76,.ref LK)]),(SH,.bj (nd .int (qC s.mv))),(GO,.bj (nd vI (goN s.mv))),(LK,jC t.1)]++t.1.map BJ)∧t.1.map (·.2)=(s.red.take n).map λr=>(r,m q r)) ([],none)
  (.d3 (.attr (.var rfl) (w9.1 _ _ st.1) rfl rfl) (w9.1 _ _ st.4) (by rw[aW];omega)) ⟨w9,rfl⟩ (λw=>w.1.1 _ _ st.4) ?_ ?_
 ·intro n r t Az K hr w cq _
  obtain⟨dQ,x5⟩:=t
  obtain⟨w,el⟩:=w
  have w:Ow H Az ([(mk,.inst 8 [(12,.ref g),(7,.int q),(75,.ref SH),(21,.ref GO),(76,.ref LK)]),(SH,.bj (nd .int (qC s.mv))),(GO,.bj (nd vI (goN s.mv))),(LK,jC dQ)]++dQ.map BJ):=w
  have el:dQ.map (·.2)=(s.red.take n).map λr=>(r,m q r):=el
  have D:=d6.t (k:=[(q:Int),(r:Int)]) (w.1 _ _ ms.1)
  rw[ms.2 q s r es (am hr)]at D
  refine jM (L:=[some (.ref mk),some (.ref g),some (.ref a),some (.ref M),x4,some (.int r)]) (vs:=[.int r,.int (m q r)]) (.av (.var (i:=5) rfl) (.av (.qP (.var (i:=3) rfl) (.tup (.av (.attr (f:=7) (.var (i:=2) rfl) (w.1 _ _ st.1) rfl rfl) (.av (.var (i:=5) rfl) .bm)) (ic _ rfl)) (.lit (v:=.int 0)) (.inr ⟨_,w.1 _ _ ms.1⟩) D) .bm)) (ic _ rfl) λb KC P3 f11 Oy NA=>?_
  have ll:dQ.length≤5:=by
   have:=congrArg List.length el
   rw[ae,ae]at this;rw[this];exact aj (bM _ _) rl
  have gL:=w.at_ 3 rfl
  refine .expr (.append (.attr (.var rfl) (w.at_ 0 rfl) rfl rfl) P3 ⟨_,gL⟩ (NA _ _ gL) (by rw[ae,ae];exact sf (by omega))) (.nil (cq (dQ++[(b,r,m q r)],some (.int r)) rfl ⟨?_,?_⟩))
  ·rw[oS (x:=(r,m q r)),az,←bO]
   have o1:=Ow.ins ([(mk,.inst 8 [(12,.ref g),(7,.int q),(75,.ref SH),(21,.ref GO),(76,.ref LK)]),(SH,.bj (nd .int (qC s.mv))),(GO,.bj (nd vI (goN s.mv))),(LK,jC dQ)]++dQ.map BJ) (B:=[]) (o:=lO [r,m q r]) (by rw[aO];exact w) f11 Oy NA
   exact Ow.set [(mk,.inst 8 [(12,.ref g),(7,.int q),(75,.ref SH),(21,.ref GO),(76,.ref LK)]),(SH,.bj (nd .int (qC s.mv))),(GO,.bj (nd vI (goN s.mv)))] (B:=dQ.map BJ++[(b,lO [r,m q r])]) o1 _
  ·rw[aV,hr,az,az,el];rfl
 ·intro t Az w
  obtain⟨w,el⟩:=w
  rw[aN]at el
  refine .own .lit rfl w rfl rfl λKC IZ _=>hS λSE H12 j f gg ee=>.own j rfl (Ow.ins [(mk,.inst 8 [(12,.ref g),(7,.int q),(75,.ref SH),(21,.ref GO),(76,.ref LK),(77,.int 0)]),(SH,.bj (nd .int (qC s.mv))),(GO,.bj (nd vI (goN s.mv))),(LK,jC t.1)] (B:=t.1.map BJ) (o:=.list []) IZ f gg ee) rfl rfl λP4 P5 _=>.nil (q' λj=>k SH GO LK SE t.1 P4 j ?_ el)
  rw[om,iU,aO];exact P5
structure RS where
 sh:List (Nat×Int)
 bar:Nat
 cf:List jx
noncomputable def Oz (sh:List (Nat×Int)) (t:Nat):Int:=((sh.find? λp=>p.1==t).map (·.2)).getD 0
noncomputable def so (w q rule t:Nat) (r:RS×Nat):RS×Nat:=
 (⟨if w=13 then r.1.sh else r.1.sh.filter λp=>p.1 !=t,if w=14 then r.1.bar|||1<<<t else r.1.bar,r.1.cf++[⟨q,t,17,[rule],if w=14 then -1048576 else if w=12 then -(rule:Int)else Oz r.1.sh t⟩]⟩,
  if w=12 then r.2 else r.2-(r.2&&& 1<<<t))
theorem KD {sh:List (Nat×Int)} {t:Nat} {v:Int} (n:(sh.map (·.1)).Nodup) (h:(t,v)∈sh):Oz sh t=v:=by
 unfold Oz
 cases e:sh.find? λp=>p.1==t with
 |none=>have:=dZ.1 e _ h;simp at this
 |some p=>
  have k:=jH e
  have:=iN (f:=(·.1)) n (dH e) h (beq_iff_eq.1 k)
  rw[this];rfl
end
section
open Dg (lO)
variable {H0 H:Hp} {mk SH GO LK SE g q b rule m t w bar:Nat} {sh:List (Nat×Int)} {go:List (Nat×Nat)} {l1 l2:List (Nat×Nat×Nat)} {ca:List (Nat×jx)} {ch:Int} {Q:Fl->Lc->Hp->Prop} {r:i6}
noncomputable def Ca (mk b t w:Nat) (ch:Int):Lc:=[some (.ref mk),some (.ref b),some (.int t),some (.str w),some (.int ch)]
theorem AA {p p':Nat×Nat×Nat} (h:p'.1=p.1):jC (l1++p'::l2)=jC (l1++p::l2):=by
 simp only[jC,az,bS,h]
theorem rB {p:Nat×Nat×Nat}:om mk SH GO LK SE g q sh go (l1++p::l2) bar ca=([(mk,zg g q SH GO LK SE bar),(SH,.bj (nd .int sh)),(GO,.bj (nd vI go)),(LK,jC (l1++p::l2)),(SE,jC ca)]++l1.map BJ)++BJ p::(l2.map BJ++ca.map cO):=by
 rw[om,az,bS,bO,bO];rfl
theorem qD {p:Nat×Nat×Nat} (ow:Ow H0 H (om mk SH GO LK SE g q sh go (l1++p::l2) bar ca)):H[p.1]?=some (lO [p.2.1,p.2.2]):=by
 rw[rB]at ow
 exact(ow.2 _ (aB _ (aQ ..))).2
theorem eH.sub {T T':List Nat} {H H':Hp} (x:eH T H H') (h:∀a∈T,a∈T'):eH T' H H':=λa o n k=>x a o (λm=>n (h a m)) k
theorem Ht (ow:Ow H0 H (om mk SH GO LK SE g q sh go (l1++(b,rule,m)::l2) bar ca)) (t8:t<8)
  (k:∀H',Ow H0 H' (om mk SH GO LK SE g q sh go (l1++(b,rule,if w=12 then m else m-(m&&& 1<<<t))::l2) bar ca)->eH [mk,SH,SE,b] H H'->cB r (Ca mk b t w ch) H' Q):
  cB (.cons (.ite (.cmp .ne (.var 3) (.lit (.str 12))) (.cons (.br (.var 1) (.lit (.int 1)) (.bin .band (.idx (.var 1) (.lit (.int 1))) (.inv (.bin .shl (.lit (.int 1)) (.var 2))))) .nil) .nil) r) (Ca mk b t w ch) H Q:=by
 have T:=JT.b9 (H:=H) (L:=Ca mk b t w ch) (.var (i:=3) rfl) (.lit (v:=.str 12)) (.ne (.str w 12))
 by_cases c:w=12
 ·rw[beq_iff_eq.2 c]at T;rw[if_pos c]at k
  exact .pass T (k H ow .r)
 ·rw[beq_eq_false_iff_ne.2 c]at T;rw[if_neg c]at k
  have gb:H[b]?=some (lO [rule,m]):=qD ow
  rw[rB]at ow
  refine .then T (.br (.bin (.idx (.var rfl) .lit (.nat (k:=1) gb rfl)) (.inv (.bin .lit (.var rfl) (.shl 1 t _ (by decide) (bH t8 (by decide))))) (.LW m (1<<<t) _)) (.var rfl) .lit (.list (k:=1) gb rfl) (.nil (k _ ?_ (eH.r.set (by simp)))))
  have:=ow.set _ (lO [rule,m-(m&&& 1<<<t)])
  rw[rB,AA (l1:=l1) (l2:=l2) (p:=(b,rule,m)) (p':=(b,rule,m-(m&&& 1<<<t))) rfl];exact this
theorem KE {dQ:List (Nat×Nat×Nat)} {v:Int} (ow:Ow H0 H (om mk SH GO LK SE g q sh go dQ bar ca)) (n:(sh.map (·.1)).Nodup) (hv:(t,v)∈sh) (sl:sh.length≤8)
  (k:∀H',Ow H0 H' (om mk SH GO LK SE g q (if w=13 then sh else sh.filter λp=>p.1 !=t) go dQ bar ca)->eH [mk,SH,SE,b] H H'->cB r (Ca mk b t w ch) H' Q):
  cB (.cons (.ite (.cmp .ne (.var 3) (.lit (.str 13))) (.cons (.expr (.u_ (.attr (.var 0) 75) (.var 2))) .nil) .nil) r) (Ca mk b t w ch) H Q:=by
 have T:=JT.b9 (H:=H) (L:=Ca mk b t w ch) (.var (i:=3) rfl) (.lit (v:=.str 13)) (.ne (.str w 13))
 by_cases c:w=13
 ·rw[beq_iff_eq.2 c]at T;rw[if_pos c]at k
  exact .pass T (k H ow .r)
 ·rw[beq_eq_false_iff_ne.2 c]at T;rw[if_neg c]at k
  have gS:=ow.at_ 1 rfl
  refine .then T (.expr (.u_ (.attr (.var rfl) (ow.at_ 0 rfl) rfl rfl) (.var rfl) (.inl ⟨_,gS⟩) gS (by rw[ly];exact lM (by omega)) (kX hv n)) (.nil (k _ ?_ (eH.r.set (by simp)))))
  rw[Hm]
  exact Ow.set [(mk,zg g q SH GO LK SE bar)] ow _
theorem KF {dQ:List (Nat×Nat×Nat)} (ow:Ow H0 H (om mk SH GO LK SE g q sh go dQ bar ca)) (t8:t<8)
  (k:∀H',Ow H0 H' (om mk SH GO LK SE g q sh go dQ (if w=14 then bar|||1<<<t else bar) ca)->eH [mk,SH,SE,b] H H'->cB r (Ca mk b t w (if w=14 then -1048576 else ch)) H' Q):
  cB (.cons (.ite (.cmp .eq (.var 3) (.lit (.str 14))) (.cons (.set (.v 4) (.lit (.int (-1048576)))) (.cons (.setattr (.var 0) 77 (.bin .bor (.attr (.var 0) 77) (.bin .shl (.lit (.int 1)) (.var 2)))) .nil)) .nil) r) (Ca mk b t w ch) H Q:=by
 have T:=JT.b9 (H:=H) (L:=Ca mk b t w ch) (.var (i:=3) rfl) (.lit (v:=.str 14)) (.eq (.str w 14))
 by_cases c:w=14
 ·rw[beq_iff_eq.2 c]at T;rw[if_pos c,if_pos c]at k
  exact .then T (.set .lit (.own (.bin (.attr (.var rfl) (ow.at_ 0 rfl) rfl rfl) (.bin .lit (.var rfl) (.shl 1 t _ (by decide) (bH t8 (by decide)))) (.bor _ _ _)) rfl ow rfl rfl λH2 w2 x2=>.nil (k H2 w2 (x2.sub (by simp)))))
 ·rw[beq_eq_false_iff_ne.2 c]at T;rw[if_neg c,if_neg c]at k
  exact .pass T (k H ow .r)
theorem uy {v:Int} {R:Prop} (ow:Ow H0 H (om mk SH GO LK SE g q sh go (l1++(b,rule,m)::l2) bar ca)) (n:(sh.map (·.1)).Nodup) (hv:(t,v)∈sh) (t8:t<8) (sl:sh.length≤8) (cl:ca.length<1000)
  (k:∀a c H',JR 59 [.ref mk,.ref b,.int t,.str w] H .none H'->(so w q rule t (⟨sh,bar,ca.map (·.2)⟩,m)).1.cf=ca.map (·.2)++[c]->Ow H0 H' (om mk SH GO LK SE g q (so w q rule t (⟨sh,bar,ca.map (·.2)⟩,m)).1.sh go (l1++(b,rule,(so w q rule t (⟨sh,bar,ca.map (·.2)⟩,m)).2)::l2) (so w q rule t (⟨sh,bar,ca.map (·.2)⟩,m)).1.bar (ca++[(a,c)]))->eH [mk,SH,SE,b] H H'->R):R:=by
 refine dc 59 [.ref mk,.ref b,.int t,.str w] H rfl rfl (L:=[some (.ref mk),some (.ref b),some (.int t),some (.str w),none]) rfl λQ q'=>?_
 have D:=d6.i (k:=(t:Int)) (ow.at_ 1 rfl)
 rw[kX hv n]at D
 refine .set (.idx (.attr (.var rfl) (ow.at_ 0 rfl) rfl rfl) (.var rfl) (.dict D)) ?_
 have gb:H[b]?=some (lO [rule,m]):=qD ow
 have T:=JT.b9 (H:=H) (L:=Ca mk b t w v) (.var (i:=3) rfl) (.lit (v:=.str 12)) (.eq (.str w 12))
 have tail:cB (.cons (.ite (.cmp .eq (.var 3) (.lit (.str 14))) (.cons (.set (.v 4) (.lit (.int (-1048576)))) (.cons (.setattr (.var 0) 77 (.bin .bor (.attr (.var 0) 77) (.bin .shl (.lit (.int 1)) (.var 2)))) .nil)) .nil) (.cons (.ite (.cmp .ne (.var 3) (.lit (.str 12))) (.cons (.br (.var 1) (.lit (.int 1)) (.bin .band (.idx (.var 1) (.lit (.int 1))) (.inv (.bin .shl (.lit (.int 1)) (.var 2))))) .nil) .nil) (.cons (.ite (.cmp .ne (.var 3) (.lit (.str 13))) (.cons (.expr (.u_ (.attr (.var 0) 75) (.var 2))) .nil) .nil) (.cons (.expr (.append (.attr (.var 0) 20) (.new 9 (.cons (.attr (.var 0) 7) (.cons (.var 2) (.cons (.lit (.str 17)) (.cons (.tup (.cons (.idx (.var 1) (.lit (.int 0))) .nil)) (.cons (.var 4) .nil)))))))) .nil))))
   (Ca mk b t w (if w=12 then -(rule:Int)else v)) H Q:=by
  refine KF ow t8 λH1 w1 x1=>Ht w1 t8 λH2 w2 x2=>KE w2 n hv sl λH3 w3 x3=>?_
  have Lq:=qD w3
  have gE:=w3.at_ 4 rfl
  refine new_ (H:=H3) (L:=Ca mk b t w (if w=14 then -1048576 else if w=12 then -(rule:Int)else v)) (c:=9) (l:=.cons (.attr (.var 0) 7) (.cons (.var 2) (.cons (.lit (.str 17)) (.cons (.tup (.cons (.idx (.var 1) (.lit (.int 0))) .nil)) (.cons (.var 4) .nil)))))
   (.av (.attr (.var rfl) (w3.at_ 0 rfl) rfl rfl) (.av (.var rfl) (.av .lit (.av (.tup (.av (.idx (.var rfl) .lit (.nat (k:=0) Lq rfl)) .bm) (ic _ rfl)) (.av (.var rfl) .bm))))) rfl λa H4 fa ga ea nw=>?_
  refine lV ⟨q,t,17,[rule],if w=14 then -1048576 else if w=12 then -(rule:Int)else v⟩ fa ea ga λH5 j5 e5 g5 _=>.expr (.append (.attr (.var rfl) (w3.at_ 0 rfl) rfl rfl) (nw j5) ⟨_,gE⟩ (e5 _ _ gE) (by rw[ae,ae];exact sf (by omega))) (.nil (q' λj=>k a ⟨q,t,17,[rule],if w=14 then -1048576 else if w=12 then -(rule:Int)else v⟩ _ j ?_ ?_ ((((x1.trans x2).trans x3).trans (.of e5)).set (by simp))))
  ·show _++[_]=_;rw[show Oz sh t=v from KD n hv]
  ·rw[oS (x:=(⟨q,t,17,[rule],if w=14 then -1048576 else if w=12 then -(rule:Int)else v⟩:jx))]
   have o1:=Ow.ins (om mk SH GO LK SE g q (if w=13 then sh else sh.filter λp=>p.1 !=t) go (l1++(b,rule,if w=12 then m else m-(m&&& 1<<<t))::l2) (if w=14 then bar|||1<<<t else bar) ca) (B:=[]) (by rw[aO];exact w3) fa g5 e5
   have o2:=Ow.set [_,_,_,_] (B:=((l1++(b,rule,if w=12 then m else m-(m&&& 1<<<t))::l2).map BJ++ca.map cO)++[(a,jx.o ⟨q,t,17,[rule],if w=14 then -1048576 else if w=12 then -(rule:Int)else v⟩)]) o1 (jC (ca++[(a,(⟨q,t,17,[rule],if w=14 then -1048576 else if w=12 then -(rule:Int)else v⟩:jx))]))
   rw[om,az (f:=cO),←bO (as:=List.map BJ _)];exact o2
 by_cases c:w=12
 ·rw[beq_iff_eq.2 c]at T;rw[if_pos c]at tail
  exact .then T (.set (.neg (.idx (.var rfl) .lit (.nat (k:=0) gb rfl))) (.nil tail))
 ·rw[beq_eq_false_iff_ne.2 c]at T;rw[if_neg c]at tail
  exact .pass T tail
end
section
open Dg (lO)
noncomputable def strOf:V->Option Nat
 | .str w=>some w
 |_=>none
noncomputable def Hu (G:aJ) (q rule:Nat) (r:RS×Nat) (t:Nat):RS×Nat:=
 if t∈r.1.sh.map (·.1)then(match strOf (zd (G.uU (G.lvl rule)) (G.uU t))with
  |some w=>so w q rule t r
  |none=>r)else r
noncomputable def wm (G:aJ) (q:Nat) (r:RS) (p:Nat×Nat):RS×Nat:=(dA p.2).foldl (Hu G q p.1) (r,p.2)
noncomputable def uz (G:aJ) (q:Nat):RS->List (Nat×Nat)->RS×List (Nat×Nat)
 |r,[]=>(r,[])
 |r,p::l=>((uz G q (wm G q r p).1 l).1,(p.1,(wm G q r p).2)::(uz G q (wm G q r p).1 l).2)
variable {H0 H:Hp} {G:aJ} {A:GA} {mk SH GO LK SE g q b rule m t w bar:Nat} {sh:List (Nat×Int)} {go:List (Nat×Nat)} {l1 l2:List (Nat×Nat×Nat)} {ca:List (Nat×jx)} {Q:Fl->Lc->Hp->Prop} {r:i6}
theorem NB {r:RS×Nat} (n:(r.1.sh.map (·.1)).Nodup):((so w q rule t r).1.sh.map (·.1)).Nodup∧(so w q rule t r).1.sh.length≤r.1.sh.length:=by
 show((if w=13 then r.1.sh else r.1.sh.filter λp=>p.1 !=t).map (·.1)).Nodup∧(if w=13 then r.1.sh else r.1.sh.filter λp=>p.1 !=t).length≤_
 split
 ·exact⟨n,aC _⟩
 ·exact⟨n.sublist (jQ.map _),bp _ _⟩
inductive I2 (r:RS) (k:Nat):Prop
 |mk (nd:(r.sh.map (·.1)).Nodup) (sl:r.sh.length≤8) (cl:r.cf.length≤k)
theorem BK {x3:Option V} {rs:RS} {k0:Nat} (hG:cg H0 g G A) (ow:Ow H0 H (om mk SH GO LK SE g q rs.sh go (l1++(b,rule,m)::l2) rs.bar ca)) (ec:ca.map (·.2)=rs.cf) (rk:I2 rs k0) (kz:k0≤900) (r5:rule<5) (m5:m<32) {x2:Option V}
  (k:∀x2 x3 AB H',Ow H0 H' (om mk SH GO LK SE g q (wm G q rs (rule,m)).1.sh go (l1++(b,rule,(wm G q rs (rule,m)).2)::l2) (wm G q rs (rule,m)).1.bar AB)->AB.map (·.2)=(wm G q rs (rule,m)).1.cf->I2 (wm G q rs (rule,m)).1 (k0+5)->cB r [some (.ref mk),some (.ref b),x2,x3] H' Q):
  cB (.cons (.for (.v 2) (.ex (.call 0 (.cons (.idx (.var 1) (.lit (.int 1))) .nil))) (.cons (.set (.v 3) (.lit .none)) (.cons (.ite (.cmp .isin (.var 2) (.attr (.var 0) 75)) (.cons (.set (.v 3) (.call 17 (.cons (.attr (.var 0) 12) (.cons (.idx (.var 1) (.lit (.int 0))) (.cons (.var 2) .nil))))) .nil) .nil) (.cons (.ite (.cmp .yd (.var 3) (.lit .none)) (.cons (.expr (.bA (.var 0) 82 59 (.cons (.var 1) (.cons (.var 2) (.cons (.var 3) .nil))))) .nil) .nil) .nil)))) r)
   [some (.ref mk),some (.ref b),x2,x3] H Q:=by
 have bl:(dA m).length≤5:=by
  have:(dA m).length≤(List.range 5).length:=bu ((eV).filter _) λi hi=>by
   rw[a_]
   have:=d7 (eO.1 hi)
   exact mj λk=>absurd (ax this m5) (bG.2 (jw (n:=2) (by decide) k))
  rwa[aT]at this
 have gb:=qD ow
 refine vM (H:=H) (m:=m) (bH m5 (by decide)) λB H2 j fB gB eB=>?_
 have nB:B∉[mk,SH,SE,b]:=λk=>by
  simp only[aH,aR,or_false]at k
  rcases k with e|e|e|e
  ·rw[e,ow.at_ 0 rfl]at fB;cases fB
  ·rw[e,ow.at_ 1 rfl]at fB;cases fB
  ·rw[e,ow.at_ 4 rfl]at fB;cases fB
  ·rw[e,gb]at fB;cases fB
 refine .jW (λ_ (s:RS×Nat×List (Nat×jx)×Option V×Option V)=>[some (.ref mk),some (.ref b),s.2.2.2.1,s.2.2.2.2])
  (λn s H'=>Ow H0 H' (om mk SH GO LK SE g q s.1.sh go (l1++(b,rule,s.2.1)::l2) s.1.bar s.2.2.1)∧H'[B]?=some (.list (vn (dA m)))∧s.2.2.1.map (·.2)=s.1.cf∧I2 s.1 (k0+n)∧(s.1,s.2.1)=((dA m).take n).foldl (Hu G q rule) (rs,m)) (rs,m,ca,x2,x3)
  (.d3 (.call (.av (.idx (.var rfl) .lit (.nat (k:=1) gb rfl)) .bm) j) gB (by rw[aW];omega)) ⟨ow.ext eB,gB,ec,rk,rfl⟩ (λh=>h.2.1) ?_ ?_
 ·intro n t s H3 K ht h3 cq _
  obtain⟨sG,m',AB,y2,y3⟩:=s
  obtain⟨ow,P6,ec,rk,ef⟩:=h3
  have ow:Ow H0 H3 (om mk SH GO LK SE g q sG.sh go (l1++(b,rule,m')::l2) sG.bar AB):=ow
  have ec:AB.map (·.2)=sG.cf:=ec
  have rk:I2 sG (k0+n):=rk
  have ef:(sG,m')=((dA m).take n).foldl (Hu G q rule) (rs,m):=ef
  have nl:=(ah.1 ht).1
  have t5:t<8:=vR (bH m5 (by decide)) (am ht)
  dsimp only at cq;rw[iG _ _ ht,←ef]at cq
  have step:∀KG m2 KH H4 x3,Ow H0 H4 (om mk SH GO LK SE g q KG.sh go (l1++(b,rule,m2)::l2) KG.bar KH)->H4[B]?=some (.list (vn (dA m)))->KH.map (·.2)=KG.cf->I2 KG (k0+n+1)->Hu G q rule (sG,m') t=(KG,m2)->K .next [some (.ref mk),some (.ref b),some (.int t),x3] H4:=
   λKG m2 KH H4 x3 a1 a2 a3 a4 a5=>cq (KG,m2,KH,some (.int t),x3) rfl ⟨a1,a2,a3,a4,a5.symm⟩
  refine .set .lit ?_
  have Lq:=qD ow
  have D:=AO.dict (d6.i (k:=(t:Int)) (ow.at_ 1 rfl))
  by_cases c:t∈sG.sh.map (·.1)
  ·obtain⟨v,mv,gd⟩:=i_ (f:=V.int) c rk.1
   rw[gd]at D
   refine .then (.b9 (.var rfl) (.attr (.var rfl) (ow.at_ 0 rfl) rfl rfl) (.isin D)) (.set (.call (.av (.attr (.var rfl) (ow.at_ 0 rfl) rfl rfl) (.av (.idx (.var rfl) .lit (.nat (k:=0) Lq rfl)) (.av (.var rfl) .bm))) (BI (hG.ext ow.1) r5)) (.nil ?_))
   have es:Hu G q rule (sG,m') t=match strOf (zd (G.uU (G.lvl rule)) (G.uU t))with
    |some w=>so w q rule t (sG,m')
    |none=>(sG,m'):=if_pos c
   have ww:∀w,zd (G.uU (G.lvl rule)) (G.uU t)= .str w->cB (.cons (.ite (.cmp .yd (.var 3) (.lit .none)) (.cons (.expr (.bA (.var 0) 82 59 (.cons (.var 1) (.cons (.var 2) (.cons (.var 3) .nil))))) .nil) .nil) .nil) [some (.ref mk),some (.ref b),some (.int t),some (.str w)] H3 K:=λw ew=>by
    have I4:(⟨sG.sh,sG.bar,AB.map (·.2)⟩:RS)=sG:=by rw[ec]
    have cl:=rk.3
    have Ph:AB.length<1000:=by have:=congrArg List.length ec;rw[ae]at this;omega
    refine .then (.b9 (.var rfl) .lit (.Cr w)) (uy (w:=w) ow rk.1 mv t5 rk.2 Ph λa cc H4 j4 e1 o4 x4=>.expr (.bA (.var rfl) (ow.at_ 0 rfl) rfl rfl (.av (.var rfl) (.av (.var rfl) (.av (.var rfl) .bm))) j4) (.nil (.nil (step _ _ _ H4 _ o4 (x4 _ _ nB P6) ?_ ?_ ?_))))
    ·rw[e1,az];rfl
    ·rw[I4]at e1 ⊢
     obtain⟨n1,n2⟩:=NB (w:=w) (q:=q) (rule:=rule) (t:=t) (r:=(sG,m')) rk.1
     exact⟨n1,aj n2 rk.2,by rw[e1,aq,ae];have:=congrArg List.length ec;rw[ae]at this;simp only[List.length_cons,List.length_nil];omega⟩
    ·rw[es,ew,I4];rfl
   rcases t7 (G.uU (G.lvl rule)) (G.uU t) rfl with e|e|e|e
   ·rw[e]at es ⊢
    exact .pass (.b9 (.var rfl) .lit .qW) (.nil (step sG m' AB H3 _ ow P6 ec ⟨rk.1,rk.2,cQ rk.3⟩ es))
   ·rw[e];exact ww 12 e
   ·rw[e];exact ww 13 e
   ·rw[e];exact ww 14 e
  ·rw[jY c]at D
   exact .pass (.b9 (.var rfl) (.attr (.var rfl) (ow.at_ 0 rfl) rfl rfl) (.isin D)) (.pass (.b9 (.var rfl) .lit .qW) (.nil (step sG m' AB H3 _ ow P6 ec ⟨rk.1,rk.2,cQ rk.3⟩ (if_neg c))))
 ·intro s H3 h3
  obtain⟨ow,_,ec,rk,ef⟩:=h3
  rw[aN]at ef
  have e1:wm G q rs (rule,m)=(s.1,s.2.1):=ef.symm
  rw[e1]at k
  exact k _ _ s.2.2.1 H3 ow ec ⟨rk.1,rk.2,aj rk.3 (by omega)⟩
end
section
open Dg (lO)
variable {H0 H:Hp} {G:aJ} {A:GA} {mk SH GO LK SE g q bar:Nat} {sh:List (Nat×Int)} {go:List (Nat×Nat)} {dQ:List (Nat×Nat×Nat)} {ca:List (Nat×jx)} {Q:Fl->Lc->Hp->Prop} {R:Prop}
theorem rC {rs:RS} (hG:cg H0 g G A) (ow:Ow H0 H (om mk SH GO LK SE g q rs.sh go dQ rs.bar ca)) (ec:ca.map (·.2)=rs.cf) (rk:I2 rs 0) (ll:dQ.length≤5) (lm:∀p∈dQ,p.2.1<5∧p.2.2<32)
  (k:∀zh AB H',JR 60 [.ref mk] H .none H'->Ow H0 H' (om mk SH GO LK SE g q (uz G q rs (dQ.map (·.2))).1.sh go zh (uz G q rs (dQ.map (·.2))).1.bar AB)->zh.map (·.2)=(uz G q rs (dQ.map (·.2))).2->AB.map (·.2)=(uz G q rs (dQ.map (·.2))).1.cf->I2 (uz G q rs (dQ.map (·.2))).1 25->R):R:=by
 refine dc 60 [.ref mk] H rfl rfl (L:=[some (.ref mk),none,none,none]) rfl λQ q'=>?_
 refine .sg (λ_ (s:RS×List (Nat×Nat×Nat)×List (Nat×jx)×Option V×Option V×Option V)=>[some (.ref mk),s.2.2.2.1,s.2.2.2.2.1,s.2.2.2.2.2])
  (λn s H'=>Ow H0 H' (om mk SH GO LK SE g q s.1.sh go (s.2.1++dQ.drop n) s.1.bar s.2.2.1)∧jC (s.2.1++dQ.drop n)=jC dQ∧s.2.2.1.map (·.2)=s.1.cf∧I2 s.1 (5*n)∧
   uz G q rs (dQ.map (·.2))=((uz G q s.1 ((dQ.drop n).map (·.2))).1,s.2.1.map (·.2)++(uz G q s.1 ((dQ.drop n).map (·.2))).2)) (rs,[],ca,none,none,none)
  (.pF (.attr (.var rfl) (ow.at_ 0 rfl) rfl rfl) (.list (ow.at_ 3 rfl)) (by rw[ae,ae];exact lM (by omega))) ⟨ow,rfl,ec,rk,rfl⟩ (λh=>by have:=h.1.at_ 3 rfl;rw[h.2.1]at this;exact this) ?_ ?_
 ·intro n b s H3 K hb h3 cq _
  obtain⟨sG,dn,AB,x1,x2,x3⟩:=s
  obtain⟨ow,er,ec,rk,es⟩:=h3
  have er:jC (dn++dQ.drop n)=jC dQ:=er
  have es:uz G q rs (dQ.map (·.2))=((uz G q sG ((dQ.drop n).map (·.2))).1,dn.map (·.2)++(uz G q sG ((dQ.drop n).map (·.2))).2):=es
  have hp:∃p,dQ[n]?=some p∧p.1=b:=by rw[aK,bq]at hb;exact hb
  obtain⟨⟨b',rule,m⟩,hp,eb⟩:=hp
  have eb:b'=b:=eb
  subst eb
  have nl:=(ah.1 hp).1
  have dr:dQ.drop n=(b',rule,m)::dQ.drop (n+1):=by
   have:=ah.1 hp
   rw[←this.2];exact d9 this.1
  obtain⟨r5,m5⟩:=lm _ (am hp)
  have ow:Ow H0 H3 (om mk SH GO LK SE g q sG.sh go (dn++(b',rule,m)::dQ.drop (n+1)) sG.bar AB):=by rw[←dr];exact ow
  rw[dr]at er es
  refine BK hG ow ec rk (by omega) r5 m5 λy2 y3 KH H4 o4 ec4 rk4=>.nil (cq (_,dn++[(b',rule,(wm G q sG (rule,m)).2)],KH,some (.ref b'),y2,y3) rfl ⟨?_,?_,ec4,rk4,?_⟩)
  ·show Ow H0 H4 (om mk SH GO LK SE g q _ go ((dn++[_])++dQ.drop (n+1)) _ KH)
   rw[bO];exact o4
  ·show jC ((dn++[_])++dQ.drop (n+1))=_
   rw[bO,←er];exact AA (l1:=dn) (l2:=dQ.drop (n+1)) (p:=(b',rule,m)) (p':=(b',rule,(wm G q sG (rule,m)).2)) rfl
  ·rw[es]
   show((uz G q (wm G q sG (rule,m)).1 _).1,_)=_
   rw[az,bO];rfl
 ·intro s H3 h3
  obtain⟨ow,er,ec,rk,es⟩:=h3
  rw[ae,hJ,aO]at ow
  rw[ae,hJ,iU]at es
  have es:uz G q rs (dQ.map (·.2))=(s.1,s.2.1.map (·.2)):=by rw[es];show(s.1,_++[])=_;rw[aO]
  rw[es]at k
  exact .nil (q' λj=>k s.2.1 s.2.2.1 H3 j ow rfl ec ⟨rk.1,rk.2,aj rk.3 (by rw[ae];omega)⟩)
noncomputable def Mg (l:List Int) (i:Nat) (v:Int):List Int:=l.set i v
noncomputable def v8 (l:List Int) (p:Nat×Nat):List Int:=(dA p.2).foldl (λl t=>l.set t (-(p.1:Int))) l
noncomputable def v9 (sh:List (Nat×Int)) (lk:List (Nat×Nat)) (bar:Nat):List Int:=
 (dA bar).foldl (λl t=>l.set t (-1048576)) (sh.foldl (λl p=>l.set p.1 p.2) (lk.reverse.foldl v8 (List.replicate 5 0)))
theorem qE {l:List Int} {p:Nat×Nat}:(v8 l p).length=l.length:=by
 have:∀b:List Nat,∀l:List Int,(b.foldl (λl t=>l.set t (-(p.1:Int))) l).length=l.length:=λb=>by
  induction b with
  |nil=>exact λ_=>rfl
  |cons a b ih=>intro l;rw[jE,ih,aU]
 exact this _ l
theorem oq {α:Type} {f:List Int->α->List Int} (h:∀l x,(f l x).length=l.length):∀(b:List α) (l:List Int),(b.foldl f l).length=l.length:=λb=>by
 induction b with
 |nil=>exact λ_=>rfl
 |cons a b ih=>intro l;rw[jE,ih,h]
theorem sA {l:List Int} {k:Nat} {b:Int}:(di l).set k (.int b)=di (l.set k b):=mQ.symm
theorem dP {l:List Int}:(di l).length=l.length:=ae _
theorem kU {l:List Int} {k:Nat} {b:Int} (h:l[k]?=some b):(di l)[k]?=some (.int b):=by rw[di,aK,h];rfl
end
section
open Dg (lO)
variable {H0 H:Hp} {G:aJ} {A:GA} {mk SH GO LK SE g q bar:Nat} {sh:List (Nat×Int)} {go:List (Nat×Nat)} {dQ:List (Nat×Nat×Nat)} {ca:List (Nat×jx)} {Q:Fl->Lc->Hp->Prop} {r:i6} {R:Prop}
theorem ER {m:Nat} (h:m<32) {i:Nat} (hi:i∈dA m):i<5:=by
 have:=d7 (eO.1 hi)
 exact mj λk=>absurd (ax this h) (bG.2 (jw (n:=2) (by decide) k))
theorem BM {m:Nat} (h:m<32):(dA m).length≤5:=by
 have:(dA m).length≤(List.range 5).length:=bu ((eV).filter _) λi hi=>a_.2 (ER h hi)
 rwa[aT]at this
theorem xG {W m:Nat} {v:Int} {l:List Int} {B:List (Nat×O)} {me ve:CE} {x2 x3:Option V} (ow:Ow H0 H ((W,.list (di l))::B)) (l5:l.length=5) (m5:m<32) (xm:JE me [some (.ref mk),some (.ref W),x2,x3] H (.int m) H)
  (xv:∀H' t l',Ow H0 H' ((W,.list (di l'))::B)->JE ve [some (.ref mk),some (.ref W),x2,some (.int (t:Nat))] H' (.int v) H')
  (k:∀x3 H',Ow H0 H' ((W,.list (di ((dA m).foldl (λl t=>l.set t v) l)))::B)->cB r [some (.ref mk),some (.ref W),x2,x3] H' Q):
  cB (.cons (.for (.v 3) (.ex (.call 0 (.cons me .nil))) (.cons (.br (.var 1) (.var 3) ve) .nil)) r) [some (.ref mk),some (.ref W),x2,x3] H Q:=by
 refine vM (H:=H) (m:=m) (bH m5 (by decide)) λC H2 j fC gC eC=>?_
 have nW:C≠W:=λe=>by rw[e,ow.at_ 0 rfl]at fC;cases fC
 refine .jW (λ_ (s:List Int×Option V)=>[some (.ref mk),some (.ref W),x2,s.2]) (λn s H'=>Ow H0 H' ((W,.list (di s.1))::B)∧H'[C]?=some (.list (vn (dA m)))∧s.1=((dA m).take n).foldl (λl t=>l.set t v) l∧s.1.length=5) (l,x3)
  (.d3 (.call (.av xm .bm) j) gC (by rw[aW];have:=BM m5;omega)) ⟨ow.ext eC,gC,rfl,l5⟩ (λh=>h.2.1) ?_ ?_
 ·intro n t s H3 K ht h3 cq _
  obtain⟨l',y3⟩:=s
  obtain⟨ow,gC,el,l5⟩:=h3
  have ow:Ow H0 H3 ((W,.list (di l'))::B):=ow
  have l5:l'.length=5:=l5
  dsimp only at cq;rw[iG _ _ ht,←el]at cq
  refine .br (xv H3 t l' ow) (.var rfl) (.var rfl) (.list (ow.at_ 0 rfl) (dW (by rw[dP,l5];exact ER m5 (am ht)))) (.nil (cq (l'.set t v,some (.int t)) rfl ⟨?_,eK gC nW,rfl,by rw[aU];exact l5⟩))
  rw[sA];exact Ow.set [] ow _
 ·intro s H3 h3
  obtain⟨ow,_,el,_⟩:=h3
  rw[aN]at el
  refine k _ H3 ?_
  rw[←el];exact ow
theorem KJ (hG:cg H0 g G A) (ow:Ow H0 H (om mk SH GO LK SE g q sh go dQ bar ca)) (ll:dQ.length≤5) (lm:∀p∈dQ,p.2.2<32) (sn:(sh.map (·.1)).Nodup) (s5:∀p∈sh,p.1<5) (sl:sh.length≤8) (b5:bar<32)
  (k:∀W H',JR 61 [.ref mk] H (.ref W) H'->Ow H0 H' ((W,.list (di (v9 sh (dQ.map (·.2)) bar)))::om mk SH GO LK SE g q sh go dQ bar ca)->R):R:=by
 refine dc 61 [.ref mk] H rfl rfl (L:=[some (.ref mk),none,none,none]) rfl λQ q'=>?_
 refine D5 (n:=5) (λW H1 j fW gW e1=>.set j ?_) (λH' e=>.attr (.attr (.var rfl) (e _ _ (ow.at_ 0 rfl)) rfl rfl) (e _ _ (ow.1 _ _ hG.1)) rfl rfl) (by decide)
 have w1:=ow.new fW gW e1
 have itr:JI (.rev (.attr (.var 0) 76)) [some (.ref mk),some (.ref W),none,none] H1 ((dQ.map (·.1)).reverse.map .ref) (.list LK ((dQ.map (·.1)).map .ref)) H1:=by
  rw[jc];exact .MQ (.attr (.var rfl) (w1.at_ 1 rfl) rfl rfl) (.list (w1.at_ 4 rfl)) (by rw[cX,ae,ae];exact lM (by omega))
 refine .sg (l:=(dQ.map (·.1)).reverse) (g:=.list LK ((dQ.map (·.1)).map .ref)) (H1:=H1) (λ_ (s:List Int×Option V×Option V)=>[some (.ref mk),some (.ref W),s.2.1,s.2.2])
  (λn s H'=>Ow H0 H' ((W,.list (di s.1))::om mk SH GO LK SE g q sh go dQ bar ca)∧s.1=(((dQ.map (·.2)).reverse).take n).foldl v8 (List.replicate 5 0)∧s.1.length=5) (List.replicate 5 0,none,none)
  itr ⟨w1,rfl,rfl⟩ (λh=>h.1.at_ 4 rfl) ?_ ?_
 ·intro n b s H3 K hb h3 cq _
  obtain⟨l,x2,x3⟩:=s
  obtain⟨ow,el,l5⟩:=h3
  have ow:Ow H0 H3 ((W,.list (di l))::om mk SH GO LK SE g q sh go dQ bar ca):=ow
  rw[←jc,aK,bq]at hb
  obtain⟨⟨b',rule,m⟩,hp,eb⟩:=hb
  have eb:b'=b:=eb
  subst eb
  have mp:(b',rule,m)∈dQ:=jd.1 (am hp)
  have hp2:((dQ.map (·.2)).reverse)[n]?=some (rule,m):=by rw[←jc,aK,hp];rfl
  dsimp only at cq;rw[iG _ _ hp2,←el]at cq
  have gb:∀{H' l'},Ow H0 H' ((W,.list (di l'))::om mk SH GO LK SE g q sh go dQ bar ca)->H'[b']?=some (lO [rule,m]):=λw=>
   (w.2 (b',lO [rule,m]) (aL _ (aB _ (aY _ (aA.2 ⟨_,mp,rfl⟩))))).2
  refine xG (x2:=some (.ref b')) ow l5 (lm _ mp) (.idx (.var rfl) .lit (.nat (k:=1) (gb ow) rfl)) (λH' t l' w=>.neg (.idx (.var rfl) .lit (.nat (k:=0) (gb w) rfl))) λx3 H4 w4=>.nil (cq (v8 l (rule,m),some (.ref b'),x3) rfl ⟨w4,rfl,by rw[qE];exact l5⟩)
 ·intro s H3 h3
  obtain⟨l,x2,x3⟩:=s
  obtain⟨ow,el,l5⟩:=h3
  have ow:Ow H0 H3 ((W,.list (di l))::om mk SH GO LK SE g q sh go dQ bar ca):=ow
  have l5:l.length=5:=l5
  rw[cX,ae,mR (by rw[cX,ae];exact aC _)]at el
  have el:l=(dQ.map (·.2)).reverse.foldl v8 (List.replicate 5 0):=el
  have it:JI (.ex (.attr (.var 0) 75)) [some (.ref mk),some (.ref W),x2,x3] H3 (vn (sh.map (·.1))) (.bj SH (nd .int sh)) H3:=by
   rw[iE,←oP (f:=V.int)]
   exact .pF (.attr (.var rfl) (ow.at_ 1 rfl) rfl rfl) (.bj (ow.at_ 2 rfl)) (lM (by rw[di,ae,ae,ly];omega))
  have oz:=Ow.set [(W,.list (di l)),(mk,zg g q SH GO LK SE bar)] ow (.fi (nd .int sh))
  refine .jW (λ_ (s:List Int×Option V)=>[some (.ref mk),some (.ref W),x2,s.2])
   (λn s H'=>Ow H0 H' ([(W,.list (di s.1)),(mk,zg g q SH GO LK SE bar)]++(SH,.fi (nd .int sh))::([(GO,.bj (nd vI go)),(LK,jC dQ),(SE,jC ca)]++(dQ.map BJ++ca.map cO)))∧s.1=(sh.take n).foldl (λl p=>l.set p.1 p.2) l∧s.1.length=5) (l,x3) it ⟨oz,rfl,l5⟩ (λh=>h.1.at_ 2 rfl) ?_ ?_
  ·intro n t s H4 K ht h4 cq _
   obtain⟨l',y3⟩:=s
   obtain⟨I5,Lu,Lv⟩:=h4
   have I5:Ow H0 H4 ([(W,.list (di l')),(mk,zg g q SH GO LK SE bar)]++(SH,.fi (nd .int sh))::([(GO,.bj (nd vI go)),(LK,jC dQ),(SE,jC ca)]++(dQ.map BJ++ca.map cO))):=I5
   have Lv:l'.length=5:=Lv
   rw[aK,bq]at ht
   obtain⟨⟨t',v⟩,hp,et⟩:=ht
   have et:t'=t:=et
   subst et
   have mp:=am hp
   dsimp only at cq;rw[iG _ _ hp,←Lu]at cq
   have D:=d6.fi (k:=(t':Int)) (I5.at_ 2 rfl)
   rw[kX mp sn]at D
   refine .br (.idx (.attr (.var rfl) (I5.at_ 1 rfl) rfl rfl) (.var rfl) (.dict D)) (.var rfl) (.var rfl) (.list (I5.at_ 0 rfl) (dW (by rw[dP,Lv];exact s5 _ mp))) (.nil (cq (l'.set t' v,some (.int t')) rfl ⟨?_,rfl,by rw[aU];exact Lv⟩))
   rw[sA];exact Ow.set [] I5 _
  ·intro s H4 h4
   obtain⟨l',y3⟩:=s
   obtain⟨I5,Lu,Lv⟩:=h4
   rw[ae,aN]at Lu
   have Lu:l'=sh.foldl (λl p=>l.set p.1 p.2) l:=Lu
   have o5:Ow H0 (H4.set SH (.bj (nd .int sh))) ((W,.list (di l'))::om mk SH GO LK SE g q sh go dQ bar ca):=Ow.set [(W,.list (di l')),(mk,zg g q SH GO LK SE bar)] I5 (.bj (nd .int sh))
   refine xG o5 Lv b5 (.attr (.var rfl) (o5.at_ 1 rfl) rfl rfl) (λH' t l' w=>.lit) λx3 H5 w5=>.ret (.var rfl) (q' λj=>k W H5 j ?_)
   rw[v9,←el,←Lu];exact w5
end
section
open Dg (lO)
noncomputable def t9 (lk:List (Nat×Nat)) (t:Nat):List Nat:=(lk.filter λp=>(p.2&&& 1<<<t) !=0).map (·.1)
noncomputable def P7 (q:Nat) (row:List Int) (sh:List (Nat×Int)) (lk:List (Nat×Nat)) (t:Nat):List jx:=
 (if t9 lk t≠[]∧t∈sh.map (·.1)then [⟨q,t,17,t9 lk t,row.getD t 0⟩]else [])++(t9 lk t).tail.map λo=>⟨q,t,18,[(t9 lk t).headD 0,o],row.getD t 0⟩
noncomputable def cfs (q:Nat) (row:List Int) (sh:List (Nat×Int)) (lk:List (Nat×Nat)):List jx:=(List.range 5).flatMap (P7 q row sh lk)
theorem Hv {l:List (Nat×Nat)} {rule m t:Nat}:t9 (l++[(rule,m)]) t=if m&&& 1<<<t=0 then t9 l t else t9 l t++[rule]:=by
 rw[t9,cS]
 by_cases c:m&&& 1<<<t=0
 ·rw[if_pos c,c9 (p:=λp:Nat×Nat=>(p.2&&& 1<<<t) !=0) λk=>bne_iff_ne.1 k c,dG,aO];rfl
 ·rw[if_neg c,cK (p:=λp:Nat×Nat=>(p.2&&& 1<<<t) !=0) (bne_iff_ne.2 c),dG,az];rfl
theorem v_ (lk:List (Nat×Nat)) (t:Nat):(t9 lk t).length≤lk.length:=by rw[t9,ae];exact bp _ _
noncomputable def cL (F:Nat) (fa:List (Nat×jx)):List (Nat×O):=(F,jC fa)::fa.map cO
variable {H0 H:Hp} {G:aJ} {A:GA} {mk SH GO LK SE g q bar:Nat} {sh:List (Nat×Int)} {go:List (Nat×Nat)} {dQ:List (Nat×Nat×Nat)} {ca:List (Nat×jx)} {Q:Fl->Lc->Hp->Prop} {r:i6} {R:Prop}
theorem KK {H1:Hp} {L:Lc} {t:Nat} (hm:H[mk]?=some (zg g q SH GO LK SE bar)) (hL:H[LK]?=some (jC dQ)) (lk:∀p∈dQ,H[p.1]?=some (lO [p.2.1,p.2.2])) (e:Ext H H1) (ll:dQ.length≤5) (t5:t<5) (x0:L[0]?=some (some (.ref mk))) (x3:L[3]?=some (some (.int t)))
  (k:∀a H2,JE (.comp [3] (.idx (.var 1) (.lit (.int 0))) (.ex (.attr (.var 0) 76)) (.cons (.bin .band (.idx (.var 1) (.lit (.int 1))) (.bin .shl (.lit (.int 1)) (.var 0))) .nil)) L H1 (.ref a) H2->H1[a]?=none->H2[a]?=some (.list (vn (t9 (dQ.map (·.2)) t)))->Ext H1 H2->R):R:=by
 have gL:=e _ _ hL
 have l5:dQ.length≤SZ:=aj ll (by decide)
 have zl:((dQ.map (·.1)).map V.ref).length≤SZ:=by rw[ae,ae];exact l5
 refine rM (elt:=.idx (.var 1) (.lit (.int 0))) (ifs:=.cons (.bin .band (.idx (.var 1) (.lit (.int 1))) (.bin .shl (.lit (.int 1)) (.var 0))) .nil) (L:=[some (.int t)]) (H:=H1) (g:=.list LK ((dQ.map (·.1)).map .ref)) (xs:=(dQ.map (·.1)).map .ref)
  (λn ys H'=>C2 (H'=H1) (ys=vn (t9 ((dQ.take n).map (·.2)) t))) ⟨rfl,rfl⟩ (λh=>h.1▸gL) (λ{n ys H'} h=>?_) zl (λn y ys H' hy h=>?_) λ{ys H'} j h=>?_
 ·rw[h.2,aW]
  exact aj (v_ ..) (by rw[ae];exact ib _ _)
 ·refine(kj hy).elim λb w=>(kj w.1).elim λp v=>?_
  have gb:=e _ _ (lk _ (am v.1))
  have T:=JT.iu (L:=[some (.int t),some (.ref p.1)]) (.bin (.idx (.var (i:=1) rfl) (.lit (v:=.int 1)) (.nat (k:=1) gb rfl)) (.bin .lit (.var (i:=0) rfl) (.shl 1 t _ (by decide) (bH t5 (by decide)))) (.band p.2.2 (1<<<t) _)) (.int _) rfl
  have e2:t9 ((dQ.take (n+1)).map (·.2)) t=if p.2.2&&& 1<<<t=0 then t9 ((dQ.take n).map (·.2)) t else t9 ((dQ.take n).map (·.2)) t++[p.2.1]:=by rw[aV,v.1,az];exact Hv
  rw[w.2,v.2,h.1]
  by_cases c:p.2.2&&& 1<<<t=0
  ·exact .no (.af (T.to (by rw[c];rfl))) ⟨rfl,h.2.trans (congrArg vn (e2.trans (if_pos c)).symm)⟩
  ·exact .yes (.at (T.to (bne_iff_ne.2 λk=>c (a8.1 k))) .lw) gL (.idx (.var rfl) .lit (.nat (k:=0) gb rfl)) ⟨rfl,by rw[h.2,e2,if_neg c,←vK]⟩
 ·have w:=h.2
  rw[ae,ae,aN]at w
  rw[w,h.1]at j
  exact kh (it:=.ex (.attr (.var 0) 76)) (L:=L) (caps:=[3]) (by rw[bS,x3];rfl) (.pF (.attr (.var x0) (e _ _ hm) rfl rfl) (.list gL) zl) rfl j (by rw[aW];exact aj (v_ ..) (by rw[ae];exact l5)) k
theorem ES {H1:Hp} {L:Lc} {F:Nat} {fa:List (Nat×jx)} {args:mw} {fe:CE} (c:jx) (w:Ow H H1 (cL F fa)) (fl:fa.length≤999) (xF:JE fe L H1 (.ref F) H1) (xa:vJ args L H1 [.int c.q,.int c.t,.str c.way,.tup (vn c.rules),.int c.ch] H1)
  (k:∀a H2,Ow H H2 (cL F (fa++[(a,c)]))->eH [F] H1 H2->cB r L H2 Q):cB (.cons (.expr (.append fe (.new 9 args))) r) L H1 Q:=by
 refine new_ xa rfl λa H4 fa' ga ea nw=>lV c fa' ea ga λH5 j5 e5 g5 _=>?_
 have gF:=w.at_ 0 rfl
 refine .expr (.append xF (nw j5) ⟨_,gF⟩ (e5 _ _ gF) (by rw[ae,ae];exact ax fl (by decide))) (k a _ ?_ ((eH.of e5).set (.head _)))
 rw[oS (x:=c),cL,az]
 exact Ow.set [] (B:=fa.map cO++[(a,c.o)]) (Ow.ins ((F,jC fa)::fa.map cO) (B:=[]) (by rw[aO];exact w) fa' g5 e5) (jC (fa++[(a,c)]))
end
section
open Dg (lO)
variable {H0 H:Hp} {G:aJ} {A:GA} {mk SH GO LK SE g q bar W:Nat} {sh:List (Nat×Int)} {go:List (Nat×Nat)} {dQ:List (Nat×Nat×Nat)} {ca:List (Nat×jx)} {row:List Int} {R:Prop}
noncomputable def NC (q t:Nat) (rs:List Nat) (x:Int) (o:Nat):jx:=⟨q,t,18,[rs.headD 0,o],x⟩
noncomputable def Lf (mk W F t C:Nat) (x5 x6:Option V):Lc:=[some (.ref mk),some (.ref W),some (.ref F),some (.int t),some (.ref C),x5,x6]
theorem AC {H4:Hp} {F C t:Nat} {KL:List (Nat×jx)} {rs:List Nat} {x:Int} {x5 x6:Option V} {K:Ps} (hm:H[mk]?=some (zg g q SH GO LK SE bar)) (hW:H[W]?=some (.list (di row))) (gv:row[t]?=some x) (w4:Ow H H4 (cL F KL)) (gC:H4[C]?=some (.list (vn rs))) (NE:C∉[F]) (r5:rs.length≤5) (fl:KL.length≤900)
  (kk:∀BN H5 x5 x6,Ow H H5 (cL F BN)->BN.map (·.2)=KL.map (·.2)++rs.tail.map (NC q t rs x)->BN.length≤KL.length+4->K .next (Lf mk W F t C x5 x6) H5):
  cB ((bo 62).at 1).in.tl.tl (Lf mk W F t C x5 x6) H4 K:=by
 have tl:rs.tail.length≤4:=aj (aD List.length_tail) (dx r5)
 refine J4 (L:=Lf mk W F t C x5 x6) (n:=1) (f:=.lit (.int 1)) (.var (i:=4) rfl) .lit (.list gC) (ic 1 rfl) λD H5 j5 f5 g5 e5=>?_
 have gD:H5[D]?=some (.list (vn rs.tail)):=g5.trans (congrArg (λl=>some (O.list l)) (List.drop_one.trans List.map_tail.symm))
 refine .jW (λ_ (s:List (Nat×jx)×Option V×Option V)=>Lf mk W F t C s.2.1 s.2.2)
  (λn s H'=>C4 (Ow H H' (cL F s.1)) (eH [F] H5 H') (s.1.map (·.2)=KL.map (·.2)++(rs.tail.take n).map (NC q t rs x)) (s.1.length≤KL.length+n)) (KL,x5,x6)
  (.d3 j5 gD (by rw[aW];exact aj tl (by decide))) ⟨w4.ext e5,.r,(aO _).symm,aC _⟩ (λh=>h.2 _ _ (Bo f5 (w4.at_ 0 rfl)) gD) (λn o s H6 K ho h6 cq _=>?_) λs H6 h6=>?_
 ·have nn:=aw (ah.1 ho).1 tl
  have rp:0<rs.length:=aw (ax (bw _) (ah.1 ho).1) (aj (aD List.length_tail) (ky ..))
  have h0:rs[0]?=some (rs.headD 0):=by rw[List.headD_eq_head?_getD,List.head?_eq_getElem?,ao rp];rfl
  exact .set (.tup (.av (.idx (.var rfl) .lit (.nat (k:=0) (h6.2 _ _ NE (e5 _ _ gC)) (cR h0))) (.av (.var rfl) .bm)) (ic _ rfl)) (ES (NC q t rs x o) h6.1 (aj h6.4 (aj (cU fl (aI nn)) (by decide))) (.var rfl)
   (.av (.attr (.var rfl) (h6.1.1 _ _ hm) rfl rfl) (.av (.var rfl) (.av .lit (.av (.var rfl) (.av (.idx (.var rfl) (.var rfl) (.nat (h6.1.1 _ _ hW) (kU gv))) .bm))))) λa H7 w7 x7=>.nil (cq (s.1++[(a,NC q t rs x o)],some (.int o),some (.tup [.int (rs.headD 0:Nat),.int o])) rfl
    ⟨w7,h6.2.trans x7,by rw[az,h6.3,aV,ho,az,bO];rfl,by rw[aq];exact aM h6.4⟩))
 ·have w:=h6.3
  rw[aN]at w
  exact .nil (kk s.1 H6 _ _ h6.1 w (aj h6.4 (bP tl _)))
theorem wb (hG:cg H0 g G A) (ow:Ow H0 H ((W,.list (di row))::om mk SH GO LK SE g q sh go dQ bar ca)) (ll:dQ.length≤5) (r5:row.length=5)
  (k:∀F fa H',JR 62 [.ref mk,.ref W] H (.ref F) H'->H[F]?=none->Ext H H'->Ow H H' (cL F fa)->fa.map (·.2)=cfs q row sh (dQ.map (·.2))->fa.length≤50->R):R:=by
 have hm:=ow.at_ 1 rfl
 have hW:=ow.at_ 0 rfl
 refine dc 62 [.ref mk,.ref W] H rfl rfl (L:=[some (.ref mk),some (.ref W),none,none,none,none,none]) rfl λQ q'=>hS λF H1 j fF gF e1=>.set j ?_
 have w1:Ow H H1 (cL F []):=(Ow.mk .r qo .nil:Ow H H []).new fF gF e1
 refine .tA 5 (λ_ (s:List (Nat×jx)×Option V×Option V×Option V×Option V)=>[some (.ref mk),some (.ref W),some (.ref F),s.2.1,s.2.2.1,s.2.2.2.1,s.2.2.2.2])
  (λn s H'=>C3 (Ow H H' (cL F s.1)) (s.1.map (·.2)=(List.range n).flatMap (P7 q row sh (dQ.map (·.2)))) (s.1.length≤10*n)) ([],none,none,none,none)
  (.attr (.attr (.var rfl) (w1.1 _ _ hm) rfl rfl) (w1.1 _ _ (ow.1 _ _ hG.1)) rfl rfl) (by decide) ⟨w1,rfl,aC _⟩ (λt s H2 K ht h2 cq _=>?_) λs H2 h2=>.ret (.var rfl) (q' λj=>k F s.1 H2 j fF h2.1.1 h2.1 h2.2 h2.3)
 have gv:row[t]?=some (row.getD t 0):=getD_at (r5.symm▸ht)
 refine KK (L:=[some (.ref mk),some (.ref W),some (.ref F),some (.int t),s.2.2.1,s.2.2.2.1,s.2.2.2.2]) (t:=t) hm (ow.at_ 4 rfl) (λp m=>(ow.2 (p.1,lO [p.2.1,p.2.2]) (aL _ (aB _ (aY _ (aA.2 ⟨_,m,rfl⟩))))).2) h2.1.1 ll ht rfl rfl λC H3 j3 f3 g3 e3=>.set j3 ?_
 have w3:=h2.1.ext e3
 have P8:(t9 (dQ.map (·.2)) t).length≤5:=aj (v_ ..) (aj (aD (ae _)) ll)
 have f5:s.1.length≤50:=aj h2.3 (bF 10 (aI ht))
 have NE:C∉[F]:=Bo f3 (h2.1.at_ 0 rfl)
 have fin:∀BN H5 x5 x6 (p:List jx),(if t9 (dQ.map (·.2)) t≠[]∧t∈sh.map (·.1)then [⟨q,t,17,t9 (dQ.map (·.2)) t,row.getD t 0⟩]else [])=p->Ow H H5 (cL F BN)->BN.map (·.2)=s.1.map (·.2)++(p++(t9 (dQ.map (·.2)) t).tail.map (NC q t (t9 (dQ.map (·.2)) t) (row.getD t 0)))->BN.length≤s.1.length+10->
   K .next (Lf mk W F t C x5 x6) H5:=λBN H5 x5 x6 p ep a1 a2 a3=>cq (BN,some (.int t),some (.ref C),x5,x6) rfl ⟨a1,by rw[a2,h2.2,bK,cH,cx,cV,aO,P7,ep];rfl,aj a3 (dM h2.3 10)⟩
 have T1:=JT.iu (H:=H3) (L:=Lf mk W F t C s.2.2.2.1 s.2.2.2.2) (e:=.var 4) (.var (i:=4) rfl) (.list g3) rfl
 have T2:JT (.cmp .isin (.var 3) (.attr (.var 0) 75)) (Lf mk W F t C s.2.2.2.1 s.2.2.2.2) H3 (eP (t:Int) (nd V.int sh)).isSome H3:=.b9 (.var rfl) (.attr (.var rfl) (w3.1 _ _ hm) rfl rfl) (.isin (.dict (d6.i (k:=(t:Int)) (w3.1 _ _ (ow.at_ 2 rfl)))))
 have no:∀x5 x6,¬(t9 (dQ.map (·.2)) t≠[]∧t∈sh.map (·.1))->cB ((bo 62).at 1).in.tl.tl (Lf mk W F t C x5 x6) H3 K:=λx5 x6 c=>AC hm hW gv w3 g3 NE P8 (aj f5 (by decide)) λBN H5 x5 x6 a1 a2 a3=>fin BN H5 x5 x6 [] (if_neg c) a1 a2 (aj a3 (bP (by decide) _))
 by_cases c1:t9 (dQ.map (·.2)) t=[]
 ·exact .pass (.iD (.af (T1.to (by rw[c1];rfl)))) (no _ _ λh=>h.1 c1)
 ·have T1:=T1.to (t':=true) (by rw[iP,List.isEmpty_eq_false_iff];exact λk=>c1 (pq.1 k))
  by_cases c2:t∈sh.map (·.1)
  ·have e2:(eP (t:Int) (nd V.int sh)).isSome=true:=by
    cases e:eP (t:Int) (nd V.int sh)with
    |some _=>rfl
    |none=>exact(aA.1 c2).elim λp w=>absurd (decide_eq_true (congrArg Int.ofNat w.2)) (dZ.1 (Option.map_eq_none_iff.1 e) _ (aA.2 ⟨p,w.1,rfl⟩))
   exact .then (.iD (.at T1 (.at (T2.to e2) .lw))) (ES ⟨q,t,17,t9 (dQ.map (·.2)) t,row.getD t 0⟩ w3 (aj f5 (by decide)) (.var rfl) (.av (.attr (.var rfl) (w3.1 _ _ hm) rfl rfl) (.av (.var rfl) (.av .lit (.av (.tupleOf (.var rfl) g3 (by rw[aW];exact aj P8 (by decide))) (.av (.idx (.var rfl) (.var rfl) (.nat (w3.1 _ _ hW) (kU gv))) .bm)))))
    λa H4 w4 x4=>.nil (AC hm hW gv w4 (x4 _ _ NE g3) NE P8 (by rw[aq];exact aj (aM f5) (by decide)) λBN H5 x5 x6 a1 a2 a3=>fin BN H5 x5 x6 _ (if_pos ⟨c1,c2⟩) a1 (by rw[a2,az,bO];rfl)
     (aj a3 (by rw[aq,dk];exact bP (show 1+4≤10 by decide) _))))
  ·exact .pass (.iD (.at T1 (.af (T2.to (by rw[jY c2];rfl))))) (no _ _ λh=>c2 h.2)
end
section
variable {H:Hp} {row:List Int} {R:Prop}
inductive OA (row:List Int) (best:Nat):Prop
 |mk (z:best=0->0<row.getD 1 0∨∀x∈row,¬(-1048576<x∧x<0)) (p:best≠0->(-(best:Int))∈row∧best<1048576)
theorem bump {cs:List (Nat×Int)} {m:Nat} (n:(cs.map (·.1)).Nodup):∃(w:Int) (yV:List (Nat×Int)),C5 ((eP (m:Int) (nd V.int cs)).getD (.int 0)= .int w) (dput (m:Int) (.int (w+1)) (nd V.int cs)=nd V.int yV) (yV.map (·.1)).Nodup (yV.length≤cs.length+1) (∀k,k∈yV.map (·.1)↔k∈cs.map (·.1)∨k=m):=by
 by_cases mm:m∈cs.map (·.1)
 ·refine(i_ (f:=V.int) mm n).elim λw e=>⟨w,cs.map λp=>if p.1=m then(p.1,w+1)else p,?_⟩
  have keys:(cs.map λp=>if p.1=m then(p.1,w+1)else p).map (·.1)=cs.map (·.1):=by
   rw[bJ];exact cW λp _=>Dg.mZ (λq:Nat×Int=>q.1=p.1) (λ_=>rfl) λ_=>rfl
  refine⟨congrArg (Option.getD · (V.int 0)) e.2,?_,keys.symm▸n,aj (aD (ae _)) (gG _),λk=>keys.symm▸⟨.inl,λh=>h.elim id λh=>h▸mm⟩⟩
  have any:((nd V.int cs).any λp=>decide (p.1=(m:Int)))=true:=(aA.1 mm).elim λp q=>jb.2 ⟨_,aA.2 ⟨p,q.1,rfl⟩,decide_eq_true (congrArg Int.ofNat q.2)⟩
  rw[dput,if_pos any,nd,nd,bJ,bJ]
  refine cW λp _=>?_
  show(if(p.1:Int)=m then((p.1:Int),V.int (w+1))else((p.1:Int),V.int p.2))=((((if p.1=m then(p.1,w+1)else p).1:Nat):Int),V.int (if p.1=m then(p.1,w+1)else p).2)
  by_cases e:p.1=m
  ·rw[if_pos e,if_pos (show(p.1:Int)=m from congrArg Int.ofNat e)]
  ·rw[if_neg e,if_neg λk=>e (a8.1 k)]
 ·refine⟨0,cs++[(m,0+1)],by rw[jY mm];rfl,oO (f:=V.int) mm (0+1),by rw[az];exact gQ n mm,aD aq,λk=>?_⟩
  rw[az,aE];exact or_congr qJ ak
theorem uA {W:Nat} (hW:H[W]?=some (.list (di row))) (r5:row.length=5) (k:∀best H',JR 18 [.ref W] H (.int (best:Nat)) H'->Ext H H'->OA row best->R):R:=by
 refine dc 18 [.ref W] H rfl rfl (L:=[some (.ref W),none,none,none,none]) rfl λQ q'=>?_
 have T:=λb (c:cN H .gt (.int (row.getD 1 0)) (.int 0) b)=>JT.b9 (L:=[some (.ref W),none,none,none,none]) (.idx (.var (i:=0) rfl) (.lit (v:=.int 1)) (.nat (k:=1) hW (kU (getD_at (r5.symm▸by decide))))) .lit c
 by_cases c:0<row.getD 1 0
 ·exact .then (T _ (.to (.gt _ 0) (decide_eq_true c))) (.ret .lit (q' λj=>k 0 H j .r ⟨λ_=>.inl c,λh=>(h rfl).elim⟩))
 refine .pass (T _ (.to (.gt _ 0) (decide_eq_false c))) (lS λC H1 j fC gC e1=>.set j ?_)
 refine .D4 (l:=row) V.int (λ_ (s:List (Nat×Int)×Option V)=>[some (.ref W),some (.ref C),s.2,none,none]) (λn s H'=>C6 (eH [C] H1 H') (H'[C]?=some (.bj (nd .int s.1))) (s.1.map (·.1)).Nodup (s.1.length≤n) (∀m:Nat,m∈s.1.map (·.1)->0<m∧(-(m:Int))∈row∧m<1048576) (∀x∈row.take n, -1048576<x∧x<0->(-x).toNat∈s.1.map (·.1))) ([],none)
  (.pF (.var rfl) (.list (e1 _ _ hW)) (by rw[ae,r5];exact lM (by decide))) ⟨.r,gC,.nil,aC _,λ_ m=>absurd m aR,qo⟩ (λh=>h.1 _ _ (yM fC hW) (e1 _ _ hW)) (λn v s H2 K hv h2 cq _=>?_) λs H2 h2=>?_
 ·have nl:=(ah.1 hv).1
  have tk:∀{x},x∈row.take (n+1)->x∈row.take n∨x=v:=λm=>by rw[aV,hv]at m;exact(aE.1 m).imp id ak.1
  by_cases c: -1048576<v∧v<0
  ·have em:(((-v).toNat:Nat):Int)= -v:=Int.toNat_of_nonneg (iQ (p8 c.2))
   generalize hm:(-v).toNat=m at em
   have key:∀{H3:Hp},JE (.neg (.var 2)) [some (.ref W),some (.ref C),some (.int v),none,none] H3 (.int m) H3:=(JE.neg (.var rfl)).to (congrArg V.int em.symm)
   refine(bump (m:=m) h2.3).elim λw q=>q.elim λyV q=>?_
   refine .then ((JT.DT (o:=.lt) (p:=.lt) (.lit (v:=.int (-1048576))) (.var (i:=2) rfl) (.to (.lt _ v) (decide_eq_true c.1)) (.lit (v:=.int 0)) (.lt v 0)).to (decide_eq_true c.2)) (.br (.bin ((JE.qP (L:=[some (.ref W),some (.ref C),some (.int v),none,none]) (.var (i:=1) rfl) key (.lit (v:=.int 0)) (.inl ⟨_,h2.2⟩) (.i h2.2)).to q.1) .lit (.add _ _ _)) (.var rfl) key
    (.bj h2.2 (by rw[ly];exact ax h2.4 (bH nl (r5.symm▸by decide)))) (.nil (.nil (cq (yV,some (.int v)) rfl ⟨h2.1.set (.head _),by rw[dq h2.2,q.2],q.3,aj q.4 (aM h2.4),λa ha=>?_,λx hx hb=>?_⟩))))
   ·exact((q.5 a).1 ha).elim (h2.5 a) λe=>e▸⟨bz.1 (em▸p8 c.2),by rw[em,k7];exact am hv,bz.1 (em▸Int.neg_lt_of_neg_lt c.1)⟩
   ·exact(q.5 _).2 ((tk hx).imp (λm=>h2.6 x m hb) λe:x=v=>e▸hm)
  ·have G3:K .next [some (.ref W),some (.ref C),some (.int v),none,none] H2:=cq (f:=.next) (s.1,some (.int v)) rfl ⟨h2.1,h2.2,h2.3,cQ h2.4,h2.5,λx hx hb=>(tk hx).elim (λw=>h2.6 x w hb) λe=>(c (e▸hb)).elim⟩
   by_cases c1: -1048576<v
   ·exact .pass ((JT.DT (o:=.lt) (p:=.lt) (.lit (v:=.int (-1048576))) (.var (i:=2) rfl) (.to (.lt _ v) (decide_eq_true c1)) (.lit (v:=.int 0)) (.lt v 0)).to (decide_eq_false λk=>c ⟨c1,k⟩)) (.nil G3)
   ·exact .pass (JT.IB (o:=.lt) (p:=.lt) (.lit (v:=.int (-1048576))) (.var (i:=2) rfl) (.to (.lt _ v) (decide_eq_false c1))) (.nil G3)
 ·have l5:s.1.length≤5:=aj h2.4 (aD r5)
  have cc:=h2.6
  rw[aN]at cc
  refine .set .lit (pQ (l:=s.1.map (·.1)) (L:=[some (.ref W),some (.ref C),s.2,some (.int 0),none]) (.var (i:=1) rfl) (by rw[←oP (f:=V.int)];exact .dict h2.2) (by rw[ae];exact ax l5 (by decide)) λD H3 j3 f3 g3 e3=>?_)
  refine .jW (λ_ (t:Nat×Option V)=>[some (.ref W),some (.ref C),s.2,some (.int t.1),t.2]) (λn t H'=>C3 (H'=H3) (t.1=0∨t.1∈s.1.map (·.1)) (0<n->t.1≠0)) (0,none)
   (.d3 j3 g3 (by rw[aW,eg,ae];exact aj l5 (by decide))) ⟨rfl,.inl rfl,λh=>absurd h (dU 0)⟩ (λh=>h.1▸g3) (λn m t H4 K hm h4 cq _=>?_) λt H4 h4=>?_
  ·have mm:=dL.1 (am hm)
   have T1:=λb (c:cN H4 .eq (.int t.1) (.int 0) b)=>JT.b9 (L:=[some (.ref W),some (.ref C),s.2,some (.int t.1),some (.int m)]) (.var (i:=3) rfl) .lit c
   have take:K .next [some (.ref W),some (.ref C),s.2,some (.int m),some (.int m)] H4:=cq (f:=.next) (m,some (.int m)) rfl ⟨h4.1,.inr mm,λ_=>du (h2.5 m mm).1⟩
   by_cases b0:t.1=0
   ·exact .then (.xX (.ot (T1 _ (.to (.eq (.int (t.1:Nat) 0)) (by rw[b0];rfl))))) (.set (.var rfl) (.nil (.nil take)))
   ·have b1:=T1 _ (.to (.eq (.int (t.1:Nat) 0)) (beq_eq_false_iff_ne.2 λk=>b0 (a8.1 k)))
    have gC4:=h4.1▸e3 _ _ h2.2
    refine(i_ (f:=V.int) mm h2.3).elim λv1 d1=>(i_ (f:=V.int) (h4.2.resolve_left b0) h2.3).elim λv2 d2=>?_
    have T2:=JT.b9 (H:=H4) (L:=[some (.ref W),some (.ref C),s.2,some (.int t.1),some (.int m)]) (.idx (.var (i:=1) rfl) (.var (i:=4) rfl) (.dict ((d6.i (k:=(m:Int)) gC4).to d1.2))) (.idx (.var (i:=1) rfl) (.var (i:=3) rfl) (.dict ((d6.i (k:=(t.1:Int)) gC4).to d2.2))) (.gt v1 v2)
    by_cases c3:v2<v1
    ·exact .then (.xX (.of b1 (.ot (T2.to (decide_eq_true c3))))) (.set (.var rfl) (.nil (.nil take)))
    ·exact .pass (.xX (.of b1 (.of (T2.to (decide_eq_false c3)) .wZ))) (.nil (cq (t.1,some (.int m)) rfl ⟨h4.1,h4.2,λ_=>b0⟩))
  ·refine .ret (.var rfl) (q' λj=>k t.1 H4 j (h4.1▸(h2.1.new fC e1).trans e3) ⟨λb0=>.inr λx hx hr=>h4.3 ?_ b0,λb0=>(h2.5 t.1 (h4.2.resolve_left b0)).2⟩)
   rw[eg];exact List.length_pos_of_mem (cc x hx hr)
theorem zj {W rule:Nat} (hW:H[W]?=some (.list (di row))) (r5:row.length=5) (k:∀a H',JR 19 [.ref W,.int rule] H (.ref a) H'->H[a]?=none->Ext H H'->H'[a]?=some (.list (di (row.map λd=>if d= -(rule:Int)then 0 else d)))->R):R:=by
 have z:(di row).length≤SZ:=by rw[dP,r5];exact lM (by decide)
 refine dc 19 [.ref W,.int rule] H rfl rfl (L:=[some (.ref W),some (.int rule)]) rfl λQ q'=>rM (elt:=.ite (.cmp .eq (.var 1) (.neg (.var 0))) (.lit (.int 0)) (.var 1)) (ifs:=.nil) (L:=[some (.int rule)]) (H:=H) (g:=.list W (di row)) (xs:=di row)
  (λn ys H'=>C2 (H'=H) (ys=di ((row.take n).map λd=>if d= -(rule:Int)then 0 else d))) ⟨rfl,rfl⟩ (λh=>h.1▸hW) (λh=>by rw[h.2,dP,ae];exact ib _ _) z (λn y ys H' hy h=>(kj hy).elim λv w=>?_) λ{ys H'} j h=>?_
 ·have T:=λb (c:cN H .eq (.int v) (.int (-(rule:Int))) b)=>JT.b9 (L:=[some (.int rule),some (.int v)]) (.var (i:=1) rfl) (.neg (.var (i:=0) rfl)) c
  have e2:ys++[.int (if v= -(rule:Int)then 0 else v)]=di ((row.take (n+1)).map λd=>if d= -(rule:Int)then 0 else d):=by
   rw[h.2,aV,w.1,az,di,di,az];rfl
  rw[w.2,h.1]
  by_cases c:v= -(rule:Int)
  ·exact .yes .lw hW (.ite (T _ (.to (.eq (.int v _)) (beq_iff_eq.2 c))) .lit) ⟨rfl,by rw[←e2,if_pos c]⟩
  ·exact .yes .lw hW (.ite (T _ (.to (.eq (.int v _)) (beq_eq_false_iff_ne.2 c))) (.var rfl)) ⟨rfl,by rw[←e2,if_neg c]⟩
 ·have w:=h.2
  rw[dP,aN]at w
  rw[w,h.1]at j
  exact kh (it:=.ex (.var 0)) (L:=[some (.ref W),some (.int rule)]) (caps:=[1]) rfl (.pF (.var rfl) (.list hW) z) rfl j (by rw[dP,ae,r5];exact lM (by decide)) λa H2 j2 f2 g2 e2=>.ret j2 (q' λj=>k a H2 j f2 e2 g2)
end
theorem KM {α:Type} {l:List α} {i:Nat} {v d:α} (z:i<l.length):(l.set i v).getD i d=v:=by rw[aF,aZ z];rfl
theorem KN {α:Type} {l:List α} {i j:Nat} {v d:α} (n:i≠j):(l.set i v).getD j d=l.getD j d:=by rw[aF,a7 n,aF]
theorem KO {α:Type} (k:α->Nat) (v:α->Int) (xs:List α) (l:List Int) {t:Nat} (z:t<l.length):
  C2 (∀x∈xs,k x≠t) ((xs.foldl (λl x=>l.set (k x) (v x)) l).getD t 0=l.getD t 0)∨∃x,C3 (x∈xs) (k x=t) ((xs.foldl (λl x=>l.set (k x) (v x)) l).getD t 0=v x):=by
 induction xs generalizing l with
 |nil=>exact .inl ⟨qo,rfl⟩
 |cons a xs ih=>
  refine(ih (l.set (k a) (v a)) (fH z aU.symm)).elim (λh=>?_) λh=>.inr (h.imp λx q=>⟨.tail _ q.1,q.2,q.3⟩)
  by_cases c:k a=t
  ·exact .inr ⟨a,.head _,c,h.2.trans (c▸KM (c▸z))⟩
  ·exact .inl ⟨nj c h.1,h.2.trans (KN c)⟩
theorem P9 (lk:List (Nat×Nat)) (l:List Int) {t:Nat} (z:t<l.length):
  C2 (∀p∈lk,p.2.testBit t=false) ((lk.foldl v8 l).getD t 0=l.getD t 0)∨∃p,C3 (p∈lk) (p.2.testBit t=true) ((lk.foldl v8 l).getD t 0= -(p.1:Int)):=by
 induction lk generalizing l with
 |nil=>exact .inl ⟨qo,rfl⟩
 |cons a lk ih=>
  exact(ih (v8 l a) (fH z qE.symm)).elim (λh=>(KO (λt:Nat=>t) (λ_=> -(a.1:Int)) (dA a.2) l z).elim (λw=>.inl ⟨nj (dN.2 λb=>w.1 t (eO.2 b) rfl) h.1,h.2.trans w.2⟩)
   λw=>w.elim λx q=>.inr ⟨a,.head _,eO.1 (q.2▸q.1),h.2.trans q.3⟩) λh=>.inr (h.imp λx q=>⟨.tail _ q.1,q.2,q.3⟩)
theorem AD {sh:List (Nat×Int)} {lk:List (Nat×Nat)} {bar t:Nat} (z:t<5) {R:Prop} (k1:bar.testBit t=true->(v9 sh lk bar).getD t 0= -1048576->R) (k2:∀v,(t,v)∈sh->(v9 sh lk bar).getD t 0=v->R)
  (k3:∀p∈lk,p.2.testBit t=true->(v9 sh lk bar).getD t 0= -(p.1:Int)->R) (k4:bar.testBit t≠true->t∉sh.map (·.1)->(∀p∈lk,p.2.testBit t=false)->(v9 sh lk bar).getD t 0=0->R):R:=by
 have L5:∀lk:List (Nat×Nat),(lk.foldl v8 (List.replicate 5 0)).length=5:=λlk=>oq (λ_ _=>qE) ..
 refine(KO (λt:Nat=>t) (λ_=> -1048576) (dA bar) _ (t:=t) (fH z ((oq (λ_ _=>aU) _ _).trans (L5 lk.reverse)).symm)).elim (λh1=>?_) λh=>h.elim λx q=>k1 (eO.1 (q.2▸q.1)) q.3
 refine(KO (λp:Nat×Int=>p.1) (λp=>p.2) sh _ (t:=t) (fH z (L5 lk.reverse).symm)).elim (λh2=>?_) λh=>h.elim λx q=>k2 x.2 (q.2▸q.1) (h1.2.trans q.3)
 exact(P9 lk.reverse (List.replicate 5 0) (t:=t) z).elim (λh3=>k4 (λb=>h1.1 t (eO.2 b) rfl) (λm=>(aA.1 m).elim λp q=>h2.1 p q.1 q.2) (λp hp=>h3.1 p (jd.2 hp))
  (h1.2.trans (h2.2.trans (h3.2.trans (by rw[aF,c_,if_pos z];rfl))))) λh=>h.elim λx q=>k3 x (jd.1 q.1) q.2 (h1.2.trans (h2.2.trans q.3))
theorem Hw:∀m<32,∀t<5,∀i<5,(m-(m&&& 1<<<t)).testBit i=(m.testBit i&&i !=t):=by decide+kernel
theorem Hx:∀m<32,∀t<5,(m|||1<<<t)<32∧∀i<5,(m|||1<<<t).testBit i=(m.testBit i||i==t):=by decide+kernel
noncomputable def xH (t:Nat) (sh:List (Nat×Int)) (bar:Nat) (l:List (Nat×Nat)):Prop:=t∈sh.map (·.1)∨bar.testBit t=true∨∃p,p∈l∧p.2.testBit t=true
theorem xH.imp {t:Nat} {sh OB:List (Nat×Int)} {bar Hy:Nat} {l l':List (Nat×Nat)} (h:xH t sh bar l) (a:t∈sh.map (·.1)->xH t OB Hy l') (b:bar.testBit t=true->xH t OB Hy l') (c:∀p∈l,p.2.testBit t=true->xH t OB Hy l'):xH t OB Hy l':=
 h.elim a λh=>h.elim b λh=>h.elim λp q=>c p q.1 q.2
theorem xH.tl {t:Nat} {sh:List (Nat×Int)} {bar:Nat} {l:List (Nat×Nat)} {p:Nat×Nat} (h:xH t sh bar l):xH t sh bar (p::l):=h.imp .inl (λh=>.inr (.inl h)) λp m b=>.inr (.inr ⟨p,.tail _ m,b⟩)
inductive Cv (t:Nat) (r r':RS) (l l':List (Nat×Nat)):Prop
 |mk (sh:∀p∈r'.sh,p∈r.sh) (b:r.bar<32->r'.bar<32) (k:l'.map (·.1)=l.map (·.1)) (m:(∀p∈l,p.2<32)->∀p∈l',p.2<32) (c:r.bar<32->xH t r.sh r.bar l->xH t r'.sh r'.bar l')
inductive C1 (t:Nat) (r r':RS×Nat):Prop
 |mk (sh:∀p∈r'.1.sh,p∈r.1.sh) (b:r'.1.bar<32) (m:r'.2<32) (c:xH t r.1.sh r.1.bar [(0,r.2)]->xH t r'.1.sh r'.1.bar [(0,r'.2)])
theorem C1.r {t:Nat} {r:RS×Nat} (b:r.1.bar<32) (m:r.2<32):C1 t r r:=⟨λ_ h=>h,b,m,id⟩
noncomputable def OC (t i:Nat) (r r':RS×Nat):Prop:=C2 (C1 t r r') (∀j<5,j≠i->r'.2.testBit j=r.2.testBit j)
theorem ET {q rule t i:Nat} {r:RS×Nat} (b:r.1.bar<32) (m:r.2<32) (t5:t<5) (i5:i<5) (hi:r.2.testBit i=true) (ki:i∈r.1.sh.map (·.1)):
  C3 (OC t i r (so 12 q rule i r)) (OC t i r (so 13 q rule i r)) (OC t i r (so 14 q rule i r)):=by
 have cb:=Hw r.2 m i i5
 have pb:=Hx r.1.bar b i i5
 have keep:t≠i->t∈r.1.sh.map (·.1)->t∈(r.1.sh.filter λp=>p.1 !=i).map (·.1):=λn h=>(aA.1 h).elim λp q=>aA.2 ⟨p,bB.2 ⟨q.1,bne_iff_ne.2 (q.2▸n)⟩,q.2⟩
 have cm:r.2-(r.2&&& 1<<<i)<32:=ax (ky _ _) m
 have cj:∀j<5,j≠i->(r.2-(r.2&&& 1<<<i)).testBit j=r.2.testBit j:=λj z n=>by rw[cb j z,bne_iff_ne.2 n,Bool.and_true]
 have one:∀{x:Nat} {p:Nat×Nat},p∈[(0,x)]->p.2.testBit t=true->x.testBit t=true:=λ{x p} h k=>(congrArg (·.2) (ak.1 h):p.2=x)▸k
 have OD:∀{sh:List (Nat×Int)} {bar x:Nat},x.testBit t=true->xH t sh bar [(0,x)]:=λh=>.inr (.inr ⟨_,.head _,h⟩)
 refine⟨⟨⟨λp h=>(bB.1 h).1,b,m,λh=>?_⟩,λ_ _ _=>rfl⟩,⟨⟨λp h=>h,b,cm,λh=>?_⟩,cj⟩,⟨⟨λp h=>(bB.1 h).1,pb.1,cm,λh=>?_⟩,cj⟩⟩
 ·by_cases e:t=i
  ·exact OD (e▸hi)
  ·exact h.imp (λk=>.inl (keep e k)) (λk=>.inr (.inl k)) λp mp k=>OD (one mp k)
 ·by_cases e:t=i
  ·exact .inl (e▸ki)
  ·exact h.imp .inl (λk=>.inr (.inl k)) λp mp k=>OD ((cj t t5 e).trans (one mp k))
 ·have pt:=pb.2 t t5
  by_cases e:t=i
  ·exact .inr (.inl (pt.trans (by rw[e,beq_self_eq_true,fE])))
  ·exact h.imp (λk=>.inl (keep e k)) (λk=>.inr (.inl (pt.trans (by rw[k,Bool.true_or])))) λp mp k=>OD ((cj t t5 e).trans (one mp k))
theorem KP {G:aJ} {q rule t i:Nat} {r:RS×Nat} (b:r.1.bar<32) (m:r.2<32) (t5:t<5) (i5:i<5) (hi:r.2.testBit i=true):OC t i r (Hu G q rule r i):=by
 unfold Hu
 by_cases c:i∈r.1.sh.map (·.1)
 ·rw[if_pos c]
  rcases t7 (G.uU (G.lvl rule)) (G.uU i) rfl with e|e|e|e<;>rw[e]
  ·exact⟨.r b m,λ_ _ _=>rfl⟩
  ·exact(ET b m t5 i5 hi c).1
  ·exact(ET b m t5 i5 hi c).2
  ·exact(ET b m t5 i5 hi c).3
 ·rw[if_neg c];exact⟨.r b m,λ_ _ _=>rfl⟩
theorem HA {G:aJ} {q rule t:Nat} (t5:t<5) (l:List Nat):∀r:RS×Nat,r.1.bar<32->r.2<32->l.Nodup->(∀i∈l,i<5∧r.2.testBit i=true)->C1 t r (l.foldl (Hu G q rule) r):=by
 induction l with
 |nil=>exact λr b m _ _=>.r b m
 |cons i l ih=>
  intro r b m nd h
  have c:=KP (G:=G) (q:=q) (rule:=rule) b m t5 (h i (.head _)).1 (h i (.head _)).2
  rw[dg]at nd
  have d:=ih _ c.1.2 c.1.3 nd.2 λj hj=>⟨(h j (.tail _ hj)).1,(c.2 j (h j (.tail _ hj)).1 λe=>nd.1 (e▸hj)).trans (h j (.tail _ hj)).2⟩
  exact⟨λp hp=>c.1.1 p (d.1 p hp),d.2,d.3,λhh=>d.4 (c.1.4 hh)⟩
theorem KQ {G:aJ} {q t:Nat} (t5:t<5) (l:List (Nat×Nat)):∀r:RS,r.bar<32->(∀p∈l,p.2<32)->Cv t r (uz G q r l).1 l (uz G q r l).2:=by
 induction l with
 |nil=>exact λr b m=>⟨λ_ h=>h,id,rfl,λh=>h,λ_=>id⟩
 |cons p l ih=>
  intro r b m
  have m5:=m p (.head _)
  have ml:=λp hp=>m p (.tail _ hp)
  have c:C1 t (r,p.2) (wm G q r p):=HA t5 (dA p.2) (r,p.2) b m5 (eV.filter _) λi hi=>⟨ER m5 hi,eO.1 hi⟩
  have d:=ih (wm G q r p).1 c.2 ml
  have up:xH t (wm G q r p).1.sh (wm G q r p).1.bar [(0,(wm G q r p).2)]->xH t (uz G q r (p::l)).1.sh (uz G q r (p::l)).1.bar (uz G q r (p::l)).2:=λh=>
   h.imp (λk=>(d.5 c.2 (.inl k)).tl) (λk=>(d.5 c.2 (.inr (.inl k))).tl) λx mx k=>.inr (.inr ⟨_,.head _,(ak.1 mx▸k:(0,(wm G q r p).2).2.testBit t=true)⟩)
  exact⟨λp hp=>c.1 p (d.1 p hp),λ_=>d.2 c.2,congrArg (p.1:: ·) d.3,λ_=>nj c.3 (d.4 ml),λ_ hh=>
   hh.imp (λk=>up (c.4 (.inl k))) (λk=>up (c.4 (.inr (.inl k)))) λx mx k=>(aH.1 mx).elim (λe=>up (c.4 (.inr (.inr ⟨_,.head _,(e▸k:p.2.testBit t=true)⟩)))) λmx=>(d.5 c.2 (.inr (.inr ⟨x,mx,k⟩))).tl⟩
section
noncomputable def Lx (m:Nat->Nat->Nat) (q:Nat) (s:cT):List (Nat×Nat):=s.red.map λr=>(r,m q r)
noncomputable def wo (G:aJ) (m:Nat->Nat->Nat) (q:Nat) (s:cT):RS×List (Nat×Nat):=uz G q ⟨qC s.mv,0,[]⟩ (Lx m q s)
noncomputable def sH (G:aJ) (m:Nat->Nat->Nat) (q:Nat) (s:cT):List Int:=v9 (wo G m q s).1.sh (wo G m q s).2 (wo G m q s).1.bar
inductive P_ (s:cT) (m:Nat->Nat) (row:List Int):Prop
 |mk (len:row.length=5) (ent:∀t<5,row.getD t 0=0∨row.getD t 0= -1048576∨(∃r∈s.red,row.getD t 0= -(r:Int))∨∃p,(t,p)∈s.mv∧row.getD t 0=if t=0 then 1048576 else(p:Int)) (zero:∀t<5,row.getD t 0=0->(∀p,(t,p)∉s.mv)∧∀r∈s.red,(m r).testBit t=false)
variable {H:Hp} {u g LS:Nat} {G:aJ} {A:GA} {SA:List Nat} {S:List cT} {m:Nat->Nat->Nat} {q:Nat} {s:cT}
theorem sI {l:List (Nat×Nat)} {t:Nat} {v:Int}:(t,v)∈qC l↔t<5∧∃p,(t,p)∈l∧v=if t=0 then 1048576 else(p:Int):=
 aA.trans ⟨λh=>h.elim λx w=>(congrArg (·.1) w.2:x.1=t)▸⟨of_decide_eq_true (bB.1 w.1).2,x.2,(bB.1 w.1).1,(congrArg (·.2) w.2).symm⟩,λh=>h.2.elim λp w=>⟨(t,p),bB.2 ⟨w.1,decide_eq_true h.1⟩,w.2▸rfl⟩⟩
theorem bN.NF (h:bN H u g G A LS SA S) (la:nv G S m) (e:S[q]?=some s):∀p∈Lx m q s,p.2<32:=all_map λr mr=>la.1 q s r e mr
theorem bN.NG (h:bN H u g G A LS SA S) (la:nv G S m) (e:S[q]?=some s) {t:Nat} (z:t<5):Cv t ⟨qC s.mv,0,[]⟩ (wo G m q s).1 (Lx m q s) (wo G m q s).2:=
 KQ z _ _ (Nat.zero_lt_succ _) (h.NF la e)
theorem bN.Og (h:bN H u g G A LS SA S) {X p:Nat} (k:Mv S q X p):0<p∧p<S.length:=(k.ker h.6).elim λs w=>w.elim λt w=>
 ⟨dK λc=>k.Hf h.1 h.6 w.2.1 (yU h.6 (c▸w.2.1)▸ .head _:0∈t.ker) (Nat.zero_sub _),(ah.1 w.2.1).1⟩
theorem kx (sh:List (Nat×Int)) (lk:List (Nat×Nat)) (bar:Nat):(v9 sh lk bar).length=5:=
 (oq (λ_ _=>aU) ..).trans ((oq (λ_ _=>aU) ..).trans (oq (λ_ _=>qE) ..))
theorem bN.rw (h:bN H u g G A LS SA S) (la:nv G S m) (e:S[q]?=some s):P_ s (m q) (sH G m q s):=by
 have rl:∀p∈(wo G m q s).2,p.1∈s.red:=λp hp=>by
  have:=(h.NG la e (t:=0) (by decide)).3▸aA.2 ⟨p,hp,rfl⟩
  rw[Lx,bJ]at this
  exact(aA.1 this).elim λr w=>(show r=p.1 from w.2)▸w.1
 refine⟨kx ..,λt z=>?_,λt z h0=>?_⟩
 ·exact AD z (λ_ e1=>.inr (.inl e1)) (λv mv e1=>(sI.1 ((h.NG la e z).1 _ mv)).2.elim λy w=>.inr (.inr (.inr ⟨y,w.1,e1.trans w.2⟩))) (λp mp _ e1=>.inr (.inr (.inl ⟨p.1,rl p mp,e1⟩))) λ_ _ _ e1=>.inl e1
 ·refine AD (R:=_∧_) z (λ_ e1=>absurd (h0.symm.trans e1) (by decide)) (λv mv e1=>(sI.1 ((h.NG la e z).1 _ mv)).2.elim λy w=>?_) (λp mp _ e1=>?_) λn1 n2 n3 _=>?_
  ·exact absurd (w.2.symm.trans (e1.symm.trans h0)) (Dg.mZ (· ≠0) (λ_=>by decide) λ_ k=>du (h.Og ⟨s,e,w.1⟩).1 (a8.1 k))
  ·exact absurd (a8.1 (m8.1 (e1.symm.trans h0))) (du (h.mL e _ (rl p mp)).1)
  ·have cc:¬xH t (qC s.mv) 0 (Lx m q s):=λhh=>((h.NG la e z).5 (Nat.zero_lt_succ _) hh).elim n2 λk=>k.elim n1 λk=>k.elim λp w=>ff ((n3 p w.1).symm.trans w.2)
   exact⟨λp mp=>cc (.inl (aA.2 ⟨_,sI.2 ⟨z,p,mp,rfl⟩,rfl⟩)),λr mr=>dN.2 λk=>cc (.inr (.inr ⟨(r,m q r),aA.2 ⟨r,mr,rfl⟩,k⟩))⟩
end
section
noncomputable def Ly (S:List cT) (q X:Nat):Option Nat:=((S[q]?.map (·.mv)).getD []).find? (λp=>p.1==X)|>.map (·.2)
noncomputable def FF (G:aJ) (S:List cT) (r:Nat) (st:List Nat):List Nat:=(st.drop (G.right r).length).casesOn [] λp dw=>(Ly S p (G.left r)).getD 0::p::dw
noncomputable def res (G:aJ) (S:List cT) (b:Nat->Int) (n:Nat):List Nat->Option (List Nat×Int):=
 n.rec (λ_=>none) λ_ f st=>if 0≤b (st.headD 0)then some (st,b (st.headD 0))else f (FF G S (-(b (st.headD 0))).toNat st)
noncomputable def Act (S:List cT) (t:Nat) (b:Nat->Int):Prop:=∀(q:Nat) s,S[q]?=some s->b q=0∨(∃x,Mv S q t x∧b q=if t=0 then 1048576 else(x:Int))∨∃r∈s.red,b q= -(r:Int)
variable {H:Hp} {u g LS:Nat} {G:aJ} {A:GA} {SA:List Nat} {S:List cT} {m:Nat->Nat->Nat} {q t:Nat} {s:cT} {a b:Nat->Int}
theorem bN.Ly (h:bN H u g G A LS SA S) {X p:Nat} (k:Mv S q X p):Ly S q X=some p:=k.elim λs w=>by
 rw[Mine.Ly,w.1,Option.map_some,Option.getD_some]
 cases c:s.mv.find? λp=>p.1==X with
 |none=>exact absurd (beq_self_eq_true X) (dZ.1 c _ w.2)
 |some y=>exact congrArg (λy:Nat×Nat=>some y.2) (iN (f:=(·.1)) (h.keys_nodup w.1) (dH c) w.2 (beq_iff_eq.1 (jH (p:=λp:Nat×Nat=>p.1==X) c)))
theorem jr.top {st:List Nat} (k:jr S (q::st)) (h:bN H u g G A LS SA S):∃s,S[q]?=some s:=
 k.E (λe=>h.6.1.imp λs w=>e▸w.1) λ_ _ _ _ _ m=>(m.ker h.6).elim λ_ w=>w.imp λ_ w=>w.2.1
inductive xI (G:aJ) (S:List cT) (r:Nat) (q:Nat) (st:List Nat) (p:Nat) (dw:List Nat) (p2:Nat):Prop
 |mk (d:(q::st).drop (G.right r).length=p::dw) (e:FF G S r (q::st)=p2::p::dw) (k:jr S (p::dw)) (w:Walk S p (G.right r) q) (i:It S p (G.off r)) (m:Mv S p (G.left r) p2) (rd:PM G S r (q::st) (p2::p::dw))
theorem jr.FF (h:bN H u g G A LS SA S) {st:List Nat} (k:jr S (q::st)) (e:S[q]?=some s) {r:Nat} (m:r∈s.red) {R:Prop} (f:∀p dw p2,xI G S r q st p dw p2->R):R:=
 k.red h.1 h.6 e m λp dw p2 d k' w i mv=>f p dw p2 ⟨d,by rw[Mine.FF,d];exact congrArg (λo:Option Nat=>o.getD 0::p::dw) (h.Ly mv),k',w,i,mv,⟨q,st,s,rfl,e,m⟩,p,dw,p2,d,mv,rfl⟩
theorem toNat_neg (r:Nat):(- -(r:Int)).toNat=r:=by rw[k7];rfl
theorem qF {st:List Nat} {n:Nat} (c:0≤b q):res G S b (n+1) (q::st)=some (q::st,b q):=if_pos c
theorem oT {st:List Nat} {n r p p2:Nat} {dw:List Nat} (c:¬0≤b q) (er:b q= -(r:Int)) (ro:xI G S r q st p dw p2):res G S b (n+1) (q::st)=res G S b n (p2::p::dw):=
 (if_neg c:res G S b (n+1) (q::st)=res G S b n (Mine.FF G S (-(b q)).toNat (q::st))).trans (congrArg (res G S b n) ((congrArg (λv:Int=>Mine.FF G S (-v).toNat (q::st)) er).trans (by rw[toNat_neg];exact ro.2)))
theorem Act.neg (hb:Act S t b) (e:S[q]?=some s) (c:¬0≤b q):∃r∈s.red,b q= -(r:Int):=(hb q s e).elim (λw=>(c (qM w.symm)).elim) λw=>w.elim (λw=>w.elim λx w=>(c (by rw[w.2];exact Dg.mZ (0≤ ·) (λ_=>by decide) λ_=>aS x)).elim) id
theorem u2 (h:bN H u g G A LS SA S) (hb:Act S t b) {R:Prop} (n:Nat):∀q st dw v,jr S (q::st)->res G S b n (q::st)=some (dw,v)->
  (∀q' lD,dw=q'::lD->jr S (q'::lD)->v=b q'->0≤v->IS G S dw (q::st)->R)->R:=by
 induction n with
 |zero=>exact λq st dw v _ e=>c7 rfl e
 |succ n ih=>
  intro q st dw v k e f
  by_cases c:0≤b q
  ·have e:=ay ((qF c).symm.trans e)
   have e1:q::st=dw:=congrArg (·.1) e
   have e2:b q=v:=congrArg (·.2) e
   exact f q st e1.symm k e2.symm (e2▸c) (e1▸ .nil)
  ·exact(k.top h).elim λs es=>(hb.neg es c).elim λr w=>k.FF h es w.1 λp mK p2 ro=>ih p2 (p::mK) dw v (ro.3.push ro.6) ((oT c w.2 ro).symm.trans e) λq' lD a b c d ch=>f q' lD a b c d (.cons ro.7 ch)
theorem IS.E {e st:List Nat} {R:Prop} (c:IS G S e st) (h0:st=e->R) (h1:∀r lE,PM G S r st lE->IS G S e lE->R):R:=by
 cases c with
 |nil=>exact h0 rfl
 |cons a b=>exact h1 _ _ a b
theorem EU (h:bN H u g G A LS SA S) (la:nv G S m) (hb:Act S t b) (zt:t<5) {st dw:List Nat} {n:Nat} {v:Int} (k:jr S (q::st)) (es:S[q]?=some s)
  (z1:∀p,(t,p)∉s.mv) (z2:∀r∈s.red,(m q r).testBit t=false) (e:res G S b n (q::st)=some (dw,v)):v=0:=by
 refine u2 h hb n _ _ _ _ k e λq' lD e1 k1 e2 v0 ch=>(k1.top h).elim λs' Mh=>(hb q' s' Mh).elim (λw=>e2.trans w) λw=>w.elim (λw=>w.elim λx mv=>False.elim ?_) λw=>w.elim λr w=>?_
 ·refine ch.E (λa=>mv.1.elim λs2 w=>?_) λr lE r0 c=>r0.1.elim λq1 a=>a.elim λmK a=>a.elim λs1 a=>r0.2.elim λp b=>b.elim λdw b=>b.elim λp2 b=>la.2.elim λF f=>?_
  ·have eq:q=q':=(bC (a.trans e1)).1
   exact z1 x (ay (es.symm.trans (eq▸w.1))▸w.2)
  ·have mr:r∈s.red:=ay (es.symm.trans ((bC a.1).1▸a.2.1))▸a.2.2
   have z:=jr.tC h.1 h.6 es mr
   refine k.red h.1 h.6 es mr λp' Kq p2' d k' w i mv'=>?_
   have eq:=bC (d.symm.trans b.1)
   have hF:=Bx h.1 h.6 f.1 zt mv.1 (e1▸c) p' (G.left r) Kq [] (Ez h.1.13 z.2.1) k' (b.2.2▸eq.1▸eq.2▸ .base (eq.1▸b.2.1))
   exact ff ((z2 r mr).symm.trans (f.2 p' r q t p2' s z.1 z.2.1 i w mv' es mr hF))
 ·exact absurd (h.mL Mh r w.1).1 (bG.2 (dR.1 (kE.1 (e2.trans w.2▸v0))))
theorem HB (h:bN H u g G A LS SA S) (la:nv G S m) (ha:Act S t a) (hb:Act S t b) (zt:t<5) (ab:∀(q:Nat) s,S[q]?=some s->a q≠0->b q=a q)
  (z:∀(q:Nat) s,S[q]?=some s->a q=0->b q≠0->(∀p,(t,p)∉s.mv)∧∀r∈s.red,(m q r).testBit t=false) (n:Nat):∀q st,jr S (q::st)->
  res G S a n (q::st)=res G S b n (q::st)∨(∃dw,res G S a n (q::st)=some (dw,0))∧(res G S b n (q::st)=none∨∃dw,res G S b n (q::st)=some (dw,0)):=by
 induction n with
 |zero=>exact λ_ _ _=>.inl rfl
 |succ n ih=>
  refine λq st k=>(k.top h).elim λs es=>?_
  have z0:∀{b:Nat->Int},b q=0->res G S b (n+1) (q::st)=some (q::st,0):=λe=>(qF (qM e.symm)).trans (by rw[e])
  by_cases c:a q=0
  ·by_cases cb:b q=0
   ·exact .inl ((z0 c).trans (z0 cb).symm)
   ·refine .inr ⟨⟨q::st,z0 c⟩,?_⟩
    cases e:res G S b (n+1) (q::st)with
    |none=>exact .inl rfl
    |some y=>exact .inr ⟨y.1,congrArg (λv=>some (y.1,v)) (EU h la hb zt k es (z q s es c cb).1 (z q s es c cb).2 e)⟩
  ·have e:=ab q s es c
   by_cases c0:0≤a q
   ·exact .inl ((qF c0).trans (e▸(qF (e.symm▸c0)).symm))
   ·exact(ha.neg es c0).elim λr w=>k.FF h es w.1 λp mK p2 ro=>by
     rw[oT c0 w.2 ro,oT (e.symm▸c0) (e.trans w.2) ro];exact ih _ _ (ro.3.push ro.6)
end
section
structure TD where
 rows:List (List Int)
 FG:List (List (Nat×Nat))
 ud:List Nat
 cf:List jx
 st:List jx
noncomputable def TD.at_ (d:TD) (q t:Nat):Int:=(d.rows.getD q []).getD t 0
noncomputable def TD.act (d:TD) (t q:Nat):Int:=if d.at_ q t= -1048576 then 0 else if d.at_ q t=0 then -(d.ud.getD q 0:Nat)else d.at_ q t
structure TA where
 nm:Nat
 lf:Nat
 ln:Nat
 bf:Nat
 df:Nat
 nu:Nat
 rw:Nat
 go:Nat
 cf:Nat
 st:Nat
 ra:List Nat
 ga:List Nat
 ca:List (Nat×jx)
 sa:List (Nat×jx)
noncomputable def Qa (g:Nat) (a:TA):List (Nat×V):=[(47,.ref a.nm),(29,.int 5),(69,.ref a.lf),(70,.ref a.ln),(71,.ref a.bf),(72,.ref a.df),(35,.ref a.nu),(12,.ref g),(73,.ref a.rw),(21,.ref a.go),(19,.ref a.cf),(20,.ref a.st),(74,.str 15)]
inductive TabAt (H:Hp) (T g:Nat) (G:aJ) (N:Nat) (a:TA) (d:TD):Prop
 |mk (inst:H[T]?=some (.inst 7 (Qa g a))) (rw:H[a.rw]?=some (.list (a.ra.map .ref))) (rl:a.ra.length=N) (ro:∀(q b:Nat),a.ra[q]?=some b->H[b]?=some (.list (di (d.rows.getD q [])))) (go:H[a.go]?=some (.list (a.ga.map .ref))) (gl:a.ga.length=N) (gr:∀(q b:Nat),a.ga[q]?=some b->H[b]?=some (.bj (nd vI (d.FG.getD q [])))) (df:H[a.df]?=some (.list (vn d.ud))) (dl:d.ud.length=N) (lf:H[a.lf]?=some (.list (vn ((List.range 5).map G.left)))) (ln:H[a.ln]?=some (.list (vn ((List.range 5).map λr=>(G.right r).length)))) (cf:H[a.cf]?=some (jC a.ca)) (cd:∀p∈a.ca,H[p.1]?=some p.2.o) (ce:a.ca.map (·.2)=d.cf) (st:H[a.st]?=some (jC a.sa)) (sd:∀p∈a.sa,H[p.1]?=some p.2.o) (se:a.sa.map (·.2)=d.st) (r5:∀q<N,(d.rows.getD q []).length=5) (z:N≤2^18)
variable {H H':Hp} {T g N q t r:Nat} {G:aJ} {a:TA} {d:TD}
theorem TabAt.ext (h:TabAt H T g G N a d) (e:Ext H H'):TabAt H' T g G N a d:=
 ⟨e _ _ h.1,e _ _ h.2,h.3,λq b k=>e _ _ (h.4 q b k),e _ _ h.5,h.6,λq b k=>e _ _ (h.7 q b k),e _ _ h.8,h.9,e _ _ h.10,e _ _ h.11,e _ _ h.12,λp m=>e _ _ (h.13 p m),h.14,e _ _ h.15,λp m=>e _ _ (h.16 p m),h.17,h.18,h.19⟩
theorem EV (h:TabAt H T g G N a d):JR 63 [.ref T] H (.int N) H:=by
 refine dc 63 [.ref T] H rfl rfl (L:=[some (.ref T)]) rfl λQ k=>.ret (.len (.attr (.var rfl) h.1 rfl rfl) (.list h.2 ?_)) (k λj=>?_)
 ·rw[ae,h.3];exact aj h.19 (by decide)
 ·rw[ae,h.3]at j;exact j
theorem mN (h:TabAt H T g G N a d) (z:q<N):JR 64 [.ref T,.int q] H (.int (d.ud.getD q 0:Nat)) H:=
 dc 64 [.ref T,.int q] H rfl rfl (L:=[some (.ref T),some (.int q)]) rfl λQ k=>.ret (.idx (.attr (.var rfl) h.1 rfl rfl) (.var rfl) (.nat h.8 (cR (getD_at (h.9.symm▸z))))) (k id)
theorem ou (h:TabAt H T g G N a d) (z:q<N) (t5:t<5):JR 65 [.ref T,.int q,.int t] H (.int (d.at_ q t)) H:=
 have e:=ao (h.3.symm▸z:q<a.ra.length)
 dc 65 [.ref T,.int q,.int t] H rfl rfl (L:=[some (.ref T),some (.int q),some (.int t)]) rfl λQ k=>.ret (.idx (.idx (.attr (.var rfl) h.1 rfl rfl) (.var rfl) (.nat h.2 (dB e))) (.var rfl) (.nat (h.4 _ _ e) (kU (getD_at ((h.18 q z).symm▸t5))))) (k id)
theorem u3 (h:TabAt H T g G N a d) (z:r<5):JR 68 [.ref T,.int r] H (.int (G.right r).length) H:=
 dc 68 [.ref T,.int r] H rfl rfl (L:=[some (.ref T),some (.int r)]) rfl λQ k=>.ret (.idx (.attr (.var rfl) h.1 rfl rfl) (.var rfl) (.nat h.11 (cR (by rw[aK,dE z];rfl)))) (k id)
theorem xJ (h:TabAt H T g G N a d) (z:r<5):JR 70 [.ref T,.int r] H (.int (G.left r)) H:=
 dc 70 [.ref T,.int r] H rfl rfl (L:=[some (.ref T),some (.int r)]) rfl λQ k=>.ret (.idx (.attr (.var rfl) h.1 rfl rfl) (.var rfl) (.nat h.10 (cR (by rw[aK,dE z];rfl)))) (k id)
theorem EW {X p:Nat} (h:TabAt H T g G N a d) (z:q<N) (m:(X,p)∈d.FG.getD q []) (n:((d.FG.getD q []).map (·.1)).Nodup):JR 69 [.ref T,.int q,.int X] H (.int p) H:=by
 have e:=ao (h.6.symm▸z:q<a.ga.length)
 have D:=d6.i (k:=(X:Int)) (h.7 _ _ e)
 rw[kX m n]at D
 exact dc 69 [.ref T,.int q,.int X] H rfl rfl (L:=[some (.ref T),some (.int q),some (.int X)]) rfl λQ k=>.ret (.qP (.idx (.attr (.var rfl) h.1 rfl rfl) (.var rfl) (.nat h.5 (dB e))) (.var rfl) (.neg .lit) (.inl ⟨_,h.7 _ _ e⟩) D) (k id)
theorem u4 (h:TabAt H T g G N a d) (z:q<N) (t5:t<5):JR 67 [.ref T,.int q,.int t] H (.int (d.act t q)) H:=by
 refine dc 67 [.ref T,.int q,.int t] H rfl rfl (L:=[some (.ref T),some (.int q),some (.int t),none]) rfl λQ k=>.set (.bA (.var rfl) h.1 rfl rfl (.av (.var rfl) (.av (.var rfl) .bm)) (ou h z t5)) ?_
 have T1:∀i,JT (.cmp .eq (.var 3) (.lit (.int i))) [some (.ref T),some (.int q),some (.int t),some (.int (d.at_ q t))] H (d.at_ q t==i) H:=λi=>.b9 (.var rfl) .lit (.eq (.int _ i))
 unfold TD.act at k
 by_cases c:d.at_ q t= -1048576
 ·rw[if_pos c]at k
  have:=T1 (-1048576);rw[beq_iff_eq.2 c]at this
  exact .then this (.ret .lit (k id))
 ·rw[if_neg c]at k
  have t1:=T1 (-1048576);rw[beq_eq_false_iff_ne.2 c]at t1
  refine .pass t1 ?_
  by_cases c0:d.at_ q t=0
  ·rw[if_pos c0]at k
   have:=T1 0;rw[beq_iff_eq.2 c0]at this
   exact .then this (.ret (.neg (.bA (.var rfl) h.1 rfl rfl (.av (.var rfl) .bm) (mN h z))) (k id))
  ·rw[if_neg c0]at k
   have:=T1 0;rw[beq_eq_false_iff_ne.2 c0]at this
   exact .pass this (.ret (.var rfl) (k id))
theorem HC {b:Nat} {c:jx} (h:H[b]?=some c.o):JR 71 [.ref b] H c.told H:=
 dc 71 [.ref b] H rfl rfl (L:=[some (.ref b)]) rfl λQ k=>.ret (.tup (.av (.attr (.var rfl) h rfl rfl) (.av (.attr (.var rfl) h rfl rfl) (.av (.attr (.var rfl) h rfl rfl) (.av (.attr (.var rfl) h rfl rfl) (.av (.attr (.var rfl) h rfl rfl) .bm))))) (ic _ rfl)) (k id)
end
section
inductive uB (H:Hp) (T g:Nat) (G:aJ) (S:List cT) (a:TA) (d:TD):Prop
 |mk (tab:TabAt H T g G S.length a d) (FG:∀(q:Nat) s,S[q]?=some s->d.FG.getD q []=goN s.mv) (act:∀t<5,Act S t (d.act t))
theorem uB.ext {H H':Hp} {T g:Nat} {G:aJ} {S:List cT} {a:TA} {d:TD} (h:uB H T g G S a d) (e:Ext H H'):uB H' T g G S a d:=⟨h.1.ext e,h.2,h.3⟩
noncomputable def uC (st:List Nat):List V:=st.foldr (λq l=>l++[.int (q:Nat)]) []
noncomputable def rD (st:List Nat):O:=.list (uC st)
variable {H H':Hp} {u g LS T X q t r:Nat} {G:aJ} {A:GA} {SA:List Nat} {S:List cT} {a:TA} {d:TD} {R:Prop} {st dw:List Nat}
theorem ox (l:List Nat) (x:Nat):vn (l++[x])=vn l++[.int x]:=vK.symm
theorem wc:uC st=vn st.reverse:=by
 induction st with
 |nil=>rfl
 |cons q st ih=>rw[k_,ox,←ih];rfl
theorem oU:(uC st).length=st.length:=by rw[wc,aW,cX]
theorem HD {k:Nat} (z:k≤st.length):(uC st).take (st.length-k)=uC (st.drop k):=by
 rw[wc,wc,vn,vn,←iv,List.take_reverse,l_ z]
theorem jr.sh {S:List cT} (k:jr S st) {P:List Nat->Prop} (f:∀q st,P (q::st)):P st:=by cases k<;>exact f _ _
theorem jr.lt {S:List cT} (k:jr S (q::st)) (h:bN H u g G A LS SA S):q<S.length:=(k.top h).elim λ_ e=>(ah.1 e).1
theorem Act.next {b:Nat->Int} (hb:Act S t b) (k:jr S (q::st)) (h:bN H u g G A LS SA S) (n:Nat) (k0:0≤b q->res G S b (n+1) (q::st)=some (q::st,b q)->R)
  (k1:∀(r:Nat) p dw p2,0<r->r<5->b q= -(r:Int)->xI G S r q st p dw p2->res G S b (n+1) (q::st)=res G S b n (p2::p::dw)->R):R:=by
 by_cases c:0≤b q
 ·exact k0 c (qF c)
 ·exact(k.top h).elim λs es=>(hb.neg es c).elim λr w=>k.FF h es w.1 λp dw p2 ro=>k1 r p dw p2 (h.mL es r w.1).1 (h.mL es r w.1).2 w.2 ro (oT c w.2 ro)
theorem xI.klt {p p2:Nat} (ro:xI G S r q st p dw p2):C2 ((G.right r).length≤st.length) (dw.length≤st.length):=
 have e:(q::st).length-(G.right r).length=dw.length+1:=g_.symm.trans (congrArg List.length ro.1)
 ⟨dX λc=>cM _ (e.symm.trans (nG c)),mT (aj (aD e.symm) (ky ..))⟩
theorem uB.go (h:bN H u g G A LS SA S) {H2:Hp} (hT:uB H2 T g G S a d) {p p2:Nat} (z:r<5) (ro:xI G S r q st p dw p2):JR 69 [.ref T,.int p,.int (G.left r)] H2 (.int p2) H2:=ro.6.elim λs w=>
 EW hT.1 (ah.1 w.1).1 (hT.2 _ _ w.1▸bB.2 ⟨w.2,decide_eq_true (Ez h.1.13 z)⟩) (hT.2 _ _ w.1▸(h.keys_nodup w.1).sublist (jQ.map _))
theorem NH {L:Lc} {e c:CE} {Y p p2:Nat} (gY:H[Y]?=some (rD (q::st))) (ro:xI G S r q st p dw p2) (z:st.length≤1000) (ya:JE e L H (.ref Y) H) (yc:JE c L H (.int (G.right r).length) H)
  (k:JT (.cmp .ge c (.len e)) L H false H->∀Z H3,JE (.sL e (.bin .sub (.len e) c)) L H (.ref Z) H3->H[Z]?=none->H3[Z]?=some (rD (p::dw))->Ext H H3->R):R:=by
 have ln:JE (.len e) L H (.int (q::st).length) H:=(JE.len ya (.list gY (aj (aD oU) (aj (aM z) (by decide))))).to (congrArg (λn:Nat=>V.int n) oU)
 have kl:=cQ ro.klt.1
 refine IC (n:=(q::st).length-(G.right r).length) ya ((JE.bin ln yc (.sub _ _ _)).to (congrArg V.int (lG kl).symm)) (.list gY) (aj (ky ..) (aj (aM z) (by decide))) λZ H3 j f g e=>?_
 rw[HD kl,ro.1]at g
 exact k (.b9 yc ln (.geF (dh ro.klt.1))) Z H3 j f g e
noncomputable def FH (G:aJ) (S:List cT) (b:Nat->Int) (st:List Nat):Bool:=((res G S b 30 st).map λy=>decide (0<y.2)).getD false
inductive DI (H0:Hp) (G:aJ) (S:List cT) (b:Nat->Int) (m n:Nat) (lD:List Nat) (Y q:Nat) (st:List Nat) (H:Hp):Prop
 |mk (e:Ext H0 H) (g:H[Y]?=some (rD (q::st))) (k:jr S (q::st)) (l:st.length≤500+n) (r:∀k,n+k=m->res G S b m lD=res G S b k (q::st))
theorem DI.next {b:Nat->Int} {m n Y Z p p2:Nat} {lD:List Nat} {H0 H H3:Hp} (D:DI H0 G S b m n lD Y q st H) (ro:xI G S r q st p dw p2) (e3:Ext H H3) (f3:H[Z]?=none) (g3:H3[Z]?=some (rD (p::dw))) (e:∀k,res G S b (k+1) (q::st)=res G S b k (p2::p::dw)):
  DI H0 G S b m (n+1) lD Z p2 (p::dw) (H3.set Z (rD (p2::p::dw))):=
 ⟨(D.1.trans e3).set (D.1.none f3),dq g3,ro.3.push ro.6,aM (aj ro.klt.2 D.4),λk ek=>(D.5 (k+1) ((qN n k).symm.trans ek)).trans (e k)⟩
theorem xK (h:bN H u g G A LS SA S) (hT:uB H T g G S a d) (hX:H[X]?=some (rD st)) (k:jr S st) (sl:st.length≤500) (t5:t<5)
  (kk:∀H',JR 24 [.ref T,.ref X,.int t,.int 30] H (.bool (FH G S (d.act t) st)) H'->Ext H H'->R):R:=by
 have mK:∃q mK,st=q::mK:=k.sh (P:=λst=>∃q mK,st=q::mK) λq st=>⟨q,st,rfl⟩
 refine mK.elim λq0 w=>w.elim λmK HE=>dc 24 [.ref T,.ref X,.int t,.int 30] H rfl rfl (L:=[some (.ref T),some (.ref X),some (.int t),some (.int 30),none,none,none,none,none]) rfl λQ q'=>.set (.var rfl) ?_
 refine .tA 30 (λ_ (s:Nat×Nat×List Nat×Option V×Option V×Option V×Option V)=>[some (.ref T),some (.ref X),some (.int t),some (.int 30),some (.ref s.1),s.2.2.2.1,s.2.2.2.2.1,s.2.2.2.2.2.1,s.2.2.2.2.2.2])
  (λn s H'=>DI H G S (d.act t) 30 n st s.1 s.2.1 s.2.2.1 H') (X,q0,mK,none,none,none,none) (.var rfl) (by decide) ⟨.r,HE▸hX,HE▸k,aj (gG _) (aj (aD (congrArg List.length HE.symm)) sl),λk e=>by rw[←e,mP,HE]⟩ (λn s H2 K hn D kn kr=>?_) λs H2 D=>?_
 ·have EX:=hT.ext D.1
  have sz:s.2.2.1.length≤1000:=aj D.4 (aj (bP (aI hn) _) (by decide))
  refine .set (.bA (.var rfl) EX.1.1 rfl rfl (.av (.idx (.var rfl) (.neg .lit) (.last D.2)) (.av (.var rfl) .bm)) (u4 EX.1 (D.3.lt h) t5)) ?_
  have T1:=JT.b9 (H:=H2) (L:=[some (.ref T),some (.ref X),some (.int t),some (.int 30),some (.ref s.1),some (.int n),some (.int (d.act t s.2.1)),s.2.2.2.2.2.1,s.2.2.2.2.2.2]) (.var (i:=6) rfl) .lit (.ge _ 0)
  refine(oF hn).elim λk0 ek=>(hT.3 t t5).next D.3 h k0 (λc e=>?_) λr p dw p2 r0 r5 ec ro _=>?_
  ·exact .then (T1.to (decide_eq_true c)) (.ret (.cmp (.var rfl) .lit (.gt _ _)) (kr (q' λj=>kk H2 (by rw[FH,D.5 (k0+1) ((qN n k0).symm.trans ek),e];exact j) D.1)))
  ·have ng:∀{L:Lc} {H3:Hp},L[6]?=some (some (.int (d.act t s.2.1)))->JE (.neg (.var 6)) L H3 (.int r) H3:=λx=>(JE.neg (.var x)).to (by rw[ec,k7])
   refine .pass (T1.to (decide_eq_false λk=>by rw[ec]at k;exact bG.2 (dR.1 (kE.1 k)) r0)) (.set (.bA (.var rfl) EX.1.1 rfl rfl (.av (ng rfl) .bm) (u3 EX.1 r5)) ?_)
   refine NH (e:=.var 4) (c:=.var 7) D.2 ro sz (.var rfl) (.var rfl) λT2 Z H3 j3 f3 g3 e3=>.pass T2 (.set j3 ?_)
   have HF:=EX.ext e3
   refine .set (.bA (.var rfl) HF.1.1 rfl rfl (.av (.idx (.var rfl) (.neg .lit) (.last g3)) (.av (.bA (.var rfl) HF.1.1 rfl rfl (.av (ng rfl) .bm) (xJ HF.1 r5)) .bm)) (HF.go h r5 ro)) (.pass (.b9 (.var (i:=8) rfl) .lit (.to (.lt p2 0) (decide_eq_false (fy.2 (aS p2)))))
    (.expr (.append (.var rfl) (.var rfl) ⟨_,g3⟩ g3 (ax (aD oU) (ax (aM (aj ro.klt.2 sz)) (by decide)))) (.nil (kn (Z,p2,p::dw,some (.int n),some (.int (d.act t s.2.1)),some (.int (G.right r).length),some (.int p2)) rfl (D.next ro e3 f3 g3 λk=>oT (λk=>by rw[ec]at k;exact bG.2 (dR.1 (kE.1 k)) r0) ec ro)))))
 ·exact .ret .lit (q' λj=>kk H2 (by rw[FH,D.5 0 rfl];exact j) D.1)
end
section
variable {H H':Hp} {u g LS T X q t r:Nat} {G:aJ} {A:GA} {SA:List Nat} {S:List cT} {a:TA} {d:TD} {R:Prop} {st dw:List Nat}
noncomputable def FI (G:aJ) (S:List cT) (d:TD) (st:List Nat) (t:Nat):Bool:=t !=1&&(t !=2&&FH G S (d.act t) st)
theorem rS (h:bN H u g G A LS SA S) (hT:uB H T g G S a d) (hX:H[X]?=some (rD st)) (k:jr S st) (sl:st.length≤500)
  (kk:∀F H',JR 25 [.ref T,.ref X,.int 30] H (.ref F) H'->H[F]?=none->H'[F]?=some (.list (vn ((List.range 5).filter (FI G S d st))))->Ext H H'->R):R:=by
 refine dc 25 [.ref T,.ref X,.int 30] H rfl rfl (L:=[some (.ref T),some (.ref X),some (.int 30),none,none]) rfl λQ q'=>hS λF H1 j fF gF e1=>.set j ?_
 refine .tA 5 (λ_ (x4:Option V)=>[some (.ref T),some (.ref X),some (.int 30),some (.ref F),x4]) (λn x4 H'=>C2 (eH [F] H1 H') (H'[F]?=some (.list (vn ((List.range n).filter (FI G S d st)))))) none
  (.attr (.var rfl) (e1 _ _ hT.1.1) rfl rfl) (by decide) ⟨.r,gF⟩ (λt x4 H2 K t5 h2 cq _=>?_) λx4 H2 h2=>?_
 ·have e2:Ext H H2:=h2.1.new fF e1
  have T1:=λb (c:cN H2 .ne (.int t) (.int 1) b)=>JT.b9 (L:=[some (.ref T),some (.ref X),some (.int 30),some (.ref F),some (.int t)]) (.var (i:=4) rfl) .lit c
  have T2:=λb (c:cN H2 .ne (.int t) (.int 2) b)=>JT.b9 (L:=[some (.ref T),some (.ref X),some (.int 30),some (.ref F),some (.int t)]) (.var (i:=4) rfl) .lit c
  have no:∀{H3},FI G S d st t=false->Ext H2 H3->K .next [some (.ref T),some (.ref X),some (.int 30),some (.ref F),some (.int t)] H3:=λ{H3} c e=>cq (f:=.next) (some (.int t)) rfl ⟨h2.1.trans (.of e),by
   rw[bK,cS,c9 (by rw[c];exact cA),dG,aO];exact e _ _ h2.2⟩
  have ne:∀{i:Nat},t≠i->(!((t:Int)==(i:Int)))=true:=λc=>bne_iff_ne.2 λk=>c (a8.1 k)
  by_cases c1:t=1
  ·exact .pass (.iD (.af (T1 _ (.to (.ne (.int t 1)) (by rw[c1];rfl))))) (.nil (no (by rw[FI,c1];rfl) .r))
  by_cases c2:t=2
  ·exact .pass (.iD (.at (T1 _ (.to (.ne (.int t 1)) (ne c1))) (.af (T2 _ (.to (.ne (.int t 2)) (by rw[c2];rfl)))))) (.nil (no (by rw[FI,c2];rfl) .r))
  have ex:FI G S d st t=FH G S (d.act t) st:=by rw[FI,bne_iff_ne.2 c1,bne_iff_ne.2 c2];rfl
  refine xK (h.ext e2) (hT.ext e2) (e2 _ _ hX) k sl t5 λH3 j3 e3=>?_
  have T3:=JT.iu (L:=[some (.ref T),some (.ref X),some (.int 30),some (.ref F),some (.int t)]) (e:=.call 24 (.cons (.var 0) (.cons (.var 1) (.cons (.var 4) (.cons (.var 2) .nil))))) (.call (.av (.var rfl) (.av (.var rfl) (.av (.var rfl) (.av (.var rfl) .bm)))) j3) (.bool _) rfl
  by_cases w:FH G S (d.act t) st=true
  ·exact .then (.iD (.at (T1 _ (.to (.ne (.int t 1)) (ne c1))) (.at (T2 _ (.to (.ne (.int t 2)) (ne c2))) (.at (T3.to w) .lw)))) (.expr (.append (.var rfl) (.var rfl) ⟨_,e3 _ _ h2.2⟩ (e3 _ _ h2.2) (by rw[aW];exact sf (aj (bp ..) (aj (aD aT) (aj (aI t5) (by decide))))))
    (.nil (.nil (cq (f:=.next) (some (.int t)) rfl ⟨(h2.1.trans (.of e3)).set (.head _),by rw[dq (e3 _ _ h2.2),bK,cS,cK (ex.trans w),dG,ox]⟩))))
  ·exact .pass (.iD (.at (T1 _ (.to (.ne (.int t 1)) (ne c1))) (.at (T2 _ (.to (.ne (.int t 2)) (ne c2))) (.af (T3.to (dN.2 w)))))) (.nil (no (ex.trans (dN.2 w)) e3))
 ·exact .ret (.var rfl) (q' λj=>kk F H2 j fF h2.2 (h2.1.new fF e1))
noncomputable def FJ (H H':Hp) (v:V) (o:Option (List Nat×Int)):Prop:=o.casesOn (v= .str 16) λy=>(y.2=0∧v= .none)∨(0<y.2∧∃c,v= .ref c∧H[c]?=none∧H'[c]?=some (.list (uC y.1++[.int y.2])))
theorem u5 (h:bN H u g G A LS SA S) (hT:uB H T g G S a d) (hX:H[X]?=some (rD st)) (k:jr S st) (sl:st.length≤500) (t5:t<5)
  (kk:∀v H',JR 26 [.ref T,.ref X,.int t] H v H'->Ext H H'->FJ H H' v (res G S (d.act t) 60 st)->R):R:=by
 have mK:∃q mK,st=q::mK:=k.sh (P:=λst=>∃q mK,st=q::mK) λq st=>⟨q,st,rfl⟩
 refine mK.elim λq0 w=>w.elim λmK HE=>dc 26 [.ref T,.ref X,.int t] H rfl rfl (L:=[some (.ref T),some (.ref X),some (.int t),none,none,none]) rfl λQ q'=>qn (.var (i:=1) rfl) hX (aj (aD oU) (aj sl (by decide))) λY0 H1 j1 f1 g1 e1=>.set j1 ?_
 refine .tA 60 (λ_ (s:Nat×Nat×List Nat×Option V×Option V)=>[some (.ref T),some (.ref X),some (.int t),some (.ref s.1),s.2.2.2.1,s.2.2.2.2])
  (λn s H'=>DI H G S (d.act t) 60 n st s.1 s.2.1 s.2.2.1 H') (Y0,q0,mK,none,none) .lit (by decide) ⟨e1,HE▸g1,HE▸k,aj (gG _) (aj (aD (congrArg List.length HE.symm)) sl),λk e=>by rw[←e,mP,HE]⟩ (λn s H2 K hn D kn kr=>?_) λs H2 D=>?_
 ·have EX:=hT.ext D.1
  have sz:s.2.2.1.length≤1000:=aj D.4 (aj (bP (aI hn) _) (by decide))
  refine .set (.bA (.var rfl) EX.1.1 rfl rfl (.av (.idx (.var rfl) (.neg .lit) (.last D.2)) (.av (.var rfl) .bm)) (u4 EX.1 (D.3.lt h) t5)) ?_
  have T1:=λb (c:cN H2 .gt (.int (d.act t s.2.1)) (.int 0) b)=>JT.b9 (L:=[some (.ref T),some (.ref X),some (.int t),some (.ref s.1),some (.int n),some (.int (d.act t s.2.1))]) (.var (i:=5) rfl) .lit c
  have T2:=λb (c:cN H2 .eq (.int (d.act t s.2.1)) (.int 0) b)=>JT.b9 (L:=[some (.ref T),some (.ref X),some (.int t),some (.ref s.1),some (.int n),some (.int (d.act t s.2.1))]) (.var (i:=5) rfl) .lit c
  refine(oF hn).elim λk0 ek=>(hT.3 t t5).next D.3 h k0 (λc e=>?_) λr p dw p2 r0 r5 ec ro _=>?_
  ·have er:=(D.5 (k0+1) ((qN n k0).symm.trans ek)).trans e
   by_cases c0:d.act t s.2.1=0
   ·exact .pass (T1 _ (.to (.gt _ 0) (decide_eq_false λk=>Int.lt_irrefl 0 (c0▸k)))) (.then (.xX (.ot (T2 _ (.to (.eq (.int _ 0)) (beq_iff_eq.2 c0))))) (.ret .lit (kr (q' λj=>kk .none H2 j D.1 (er▸ .inl ⟨c0,rfl⟩)))))
   ·have cp:=Int.lt_iff_le_and_ne.2 ⟨c,d4 c0⟩
    exact .then (T1 _ (.to (.gt _ 0) (decide_eq_true cp))) (jM (L:=[some (.ref T),some (.ref X),some (.int t),some (.ref s.1),some (.int n),some (.int (d.act t s.2.1))]) (.av (.var (i:=5) rfl) .bm) (ic _ rfl) λB H3 j3 f3 g3 e3=>MW (.var (i:=3) rfl) j3 (e3 _ _ D.2) g3 (aj (aM (aj (aD oU) (aM sz))) (by decide))
     λC H4 j4 f4 g4 e4=>.ret j4 (kr (q' λj=>kk (.ref C) H4 j ((D.1.trans e3).trans e4) (er▸ .inr ⟨cp,C,rfl,(D.1.trans e3).none f4,g4⟩))))
  ·have neg:¬0≤d.act t s.2.1:=λk=>by rw[ec]at k;exact bG.2 (dR.1 (kE.1 k)) r0
   have ng:∀{L:Lc} {H3:Hp},L[5]?=some (some (.int (d.act t s.2.1)))->JE (.neg (.var 5)) L H3 (.int r) H3:=λx=>(JE.neg (.var x)).to (by rw[ec,k7])
   refine NH (L:=[some (.ref T),some (.ref X),some (.int t),some (.ref s.1),some (.int n),some (.int (d.act t s.2.1))]) (e:=.var 3) (c:=.bA (.var 0) 27 68 (.cons (.neg (.var 5)) .nil)) D.2 ro sz (.var rfl) (.bA (.var rfl) EX.1.1 rfl rfl (.av (ng rfl) .bm) (u3 EX.1 r5)) λT3 Z H3 j3 f3 g3 e3=>?_
   have HF:=EX.ext e3
   exact .pass (T1 _ (.to (.gt _ 0) (decide_eq_false λk=>neg (iQ k)))) (.pass (.xX (.of (T2 _ (.to (.eq (.int _ 0)) (beq_eq_false_iff_ne.2 λk=>neg (qM k.symm)))) (.of T3 .wZ))) (.set j3
    (.expr (.append (.var rfl) (.bA (.var rfl) HF.1.1 rfl rfl (.av (.idx (.var rfl) (.neg .lit) (.last g3)) (.av (.bA (.var rfl) HF.1.1 rfl rfl (.av (ng rfl) .bm) (xJ HF.1 r5)) .bm)) (HF.go h r5 ro)) ⟨_,g3⟩ g3 (ax (aD oU) (ax (aM (aj ro.klt.2 sz)) (by decide))))
     (.nil (kn (Z,p2,p::dw,some (.int n),some (.int (d.act t s.2.1))) rfl (D.next ro e3 f3 g3 λk=>oT neg ec ro))))))
 ·exact .ret .lit (q' λj=>kk (.str 16) H2 j D.1 (D.5 0 rfl▸rfl))
end
section
variable {H H0 H':Hp} {u g LS T q t r:Nat} {G:aJ} {A:GA} {a:TA} {d:TD} {R:Prop}
theorem pU {L:Lc} {k:Nat} {elt:CE} (f:Nat->Nat) (hG:cg H g G A) (xg:L[k]?=some (some (.ref g))) (hx:∀r b x,r<5->G.rules[r]?=some x->H[b]?=some (B7 r x)->JE elt [some (.ref b)] H (.int (f r)) H)
  (q:∀a H2,JE (.comp [] elt (.ex (.attr (.var k) 5)) .nil) L H (.ref a) H2->H[a]?=none->H2[a]?=some (.list (vn ((List.range 5).map f)))->Ext H H2->R):R:=by
 have zl:(A.rs.map V.ref).length≤SZ:=by rw[ae,hG.len];exact ic _ rfl
 refine rM (elt:=elt) (ifs:=.nil) (L:=[]) (H:=H) (g:=.list A.rl (A.rs.map .ref)) (xs:=A.rs.map .ref) (λn ys H'=>H'=H∧ys=vn ((List.range n).map f)) ⟨rfl,rfl⟩ (λh=>h.1▸hG.2) (λh=>by rw[h.2,aW,ae,aT];exact aC _) zl ?_ ?_
 ·rintro n y ys H' hy ⟨rfl,rfl⟩
  obtain⟨b,hb,rfl⟩:=GQ hy
  have z:n<5:=hG.len▸(ah.1 hb).1
  obtain⟨x,e1,e2⟩:=hG.4 n b hb
  exact .yes .lw hG.2 (hx n b x z e1 e2) ⟨rfl,by rw[bK,az,←ox];rfl⟩
 ·rintro ys H' j ⟨rfl,rfl⟩
  rw[ae,hG.len]at j
  exact kh (it:=.ex (.attr (.var k) 5)) (L:=L) (caps:=[]) rfl (.pF (.attr (.var xg) hG.1 rfl rfl) (.list hG.2) zl) rfl j (by rw[aW,ae,aT];exact ic _ rfl) q
noncomputable def L7 (T nm lf ln bf:Nat) (x:Option V):Lc:=[some (.ref T),some (.ref nm),some (.int 5),some (.ref lf),some (.ref ln),some (.ref bf),x]
theorem t_ {lf ln bf:Nat} {B:List (Nat×O)} (hG:cg H0 g G A) (w:Ow H0 H ((T,.inst 7 [])::B))
  (k:∀DF NU H2,JR 55 [.ref T,.ref A.nm,.int 5,.ref lf,.ref ln,.ref bf] H .none H2->Ow H0 H2 ((T,.inst 7 [(47,.ref A.nm),(29,.int 5),(69,.ref lf),(70,.ref ln),(71,.ref bf),(72,.ref DF),(35,.ref NU)])::(NU,.kJ 5)::(DF,.list [])::B)->R):R:=by
 refine dc 55 [.ref T,.ref A.nm,.int 5,.ref lf,.ref ln,.ref bf] H rfl rfl (L:=L7 T A.nm lf ln bf none) rfl λQ q'=>?_
 refine .own (.var rfl) rfl w rfl rfl λH1 w1 _=>.own (.var rfl) rfl w1 rfl rfl λH2 w2 _=>.own (.var rfl) rfl w2 rfl rfl λH3 w3 _=>.own (.var rfl) rfl w3 rfl rfl λH4 w4 _=>.own (.var rfl) rfl w4 rfl rfl λH5 w5 _=>hS (H:=H5) (L:=L7 T A.nm lf ln bf none) λDF H6 j6 f6 g6 e6=>?_
 refine .own j6 rfl (Ow.ins [_] (B:=B) w5 f6 g6 e6) rfl rfl λH7 w7 _=>lS (n:=2) (H:=H7) (L:=L7 T A.nm lf ln bf none) λNU H8 j8 f8 g8 e8=>.own j8 rfl (Ow.ins [_] (B:=(DF,.list [])::B) w7 f8 g8 e8) rfl rfl λH9 w9 _=>?_
 refine .tA 5 (λ_ (x6:Option V)=>L7 T A.nm lf ln bf x6) (λn x6 H'=>Ow H0 H' ((T,.inst 7 [(47,.ref A.nm),(29,.int 5),(69,.ref lf),(70,.ref ln),(71,.ref bf),(72,.ref DF),(35,.ref NU)])::(NU,.kJ n)::(DF,.list [])::B)) none (.var rfl) (by decide) w9 ?_ ?_
 ·intro n x6 Az K z I6 cq _
  have e:=ao (l:=A.ns) (i:=n) (by rw[hG.12];omega)
  refine .br (.var rfl) (.attr (.var rfl) (I6.at_ 0 rfl) rfl rfl) (.idx (.var rfl) (.var rfl) (.nat (I6.1 _ _ hG.11) (by rw[aK,e];rfl))) (.kJ (I6.at_ 1 rfl) (sf (by omega))) (.nil (cq (some (.int n)) rfl (Ow.set [_] I6 _)))
 ·intro x6 Az I6
  exact .nil (q' λj=>k DF NU Az j I6)
theorem uD {RW GT DF CF ST:Nat} (hG:cg H g G A) (fT:H[T]?=none) (e:Ext H H') (hT:H'[T]?=some (.inst 7 []))
  (k:∀nm lf ln bf nu H2,JR 56 [.ref T,.ref g,.ref RW,.ref GT,.ref DF,.ref CF,.ref ST,.str 15] H' .none H2->Ext H H2->H2[T]?=some (.inst 7 [(47,.ref nm),(29,.int 5),(69,.ref lf),(70,.ref ln),(71,.ref bf),(72,.ref DF),(35,.ref nu),(12,.ref g),(73,.ref RW),(21,.ref GT),(19,.ref CF),(20,.ref ST),(74,.str 15)])->
   H2[lf]?=some (.list (vn ((List.range 5).map G.left)))->H2[ln]?=some (.list (vn ((List.range 5).map λr=>(G.right r).length)))->R):R:=by
 have w0:Ow H H' [(T,.inst 7 [])]:=Ow.new ⟨.r,nofun,.nil⟩ fT hT e
 refine dc 56 [.ref T,.ref g,.ref RW,.ref GT,.ref DF,.ref CF,.ref ST,.str 15] H' rfl rfl (L:=[some (.ref T),some (.ref g),some (.ref RW),some (.ref GT),some (.ref DF),some (.ref CF),some (.ref ST),some (.str 15),none,none,none]) rfl λQ q'=>?_
 refine pU (k:=1) (elt:=.attr (.var 0) 8) G.left (hG.ext w0.1) rfl (λr b x z e1 e2=>?_) λlf H1 j1 f1 g1 e1=>.set j1 ?_
 ·rw[show G.left r=x.left by rw[aJ.left,e1];rfl];exact .attr (.var rfl) e2 rfl rfl
 have w1:=Ow.ins [_] (B:=[]) w0 f1 g1 e1
 refine pU (k:=1) (elt:=.len (.attr (.var 0) 6)) (λr=>(G.right r).length) (hG.ext w1.1) rfl (λr b x z e1 e2=>?_) λln H2 j2 f2 g2 e2=>.set j2 ?_
 ·have:=hG.13.3 r x e1
  have j:=JE.len (L:=[some (.ref b)]) (.attr (f:=6) (.var (i:=0) rfl) e2 rfl rfl) (.tup (l:=vn x.right) (by rw[aW];exact lM (by omega)))
  rw[aW,←qz e1]at j;exact j
 have w2:=Ow.ins [_] (B:=[(lf,.list (vn ((List.range 5).map G.left)))]) w1 f2 g2 e2
 refine pU (k:=1) (elt:=.attr (.var 0) 52) (λ_=>0) (hG.ext w2.1) rfl (λr b x z e1 e2=>.attr (.var rfl) e2 rfl rfl) λbf H3 j3 f3 g3 e3=>.set j3 ?_
 have w3:=w2.ext e3
 have g3:=w3.1 _ _ hG.1
 refine t_ (lf:=lf) (ln:=ln) (bf:=bf) hG w3 λDF' NU H4 j4 w4=>.sup rfl (w3.at_ 0 rfl) (.av (.attr (.var rfl) g3 rfl rfl) (.av (.attr (.var rfl) g3 rfl rfl) (.av (.var rfl) (.av (.var rfl) (.av (.var rfl) .bm))))) j4 ?_
 refine .own (.var rfl) rfl w4 rfl rfl λH5 w5 _=>.own (.var rfl) rfl w5 rfl rfl λH6 w6 _=>.own (.var rfl) rfl w6 rfl rfl λH7 w7 _=>.own (.var rfl) rfl w7 rfl rfl λH8 w8 _=>.own (.var rfl) rfl w8 rfl rfl λH9 w9 _=>.own (.var rfl) rfl w9 rfl rfl λAz I6 _=>.own (.var rfl) rfl I6 rfl rfl λKC IZ _=>?_
 exact .nil (q' λj=>k A.nm lf ln bf NU KC j IZ.1 (IZ.at_ 0 rfl) (IZ.at_ 4 rfl) (IZ.at_ 3 rfl))
end
section
theorem Ow.join {H H1 H2:Hp} {l l':List (Nat×O)} (h:Ow H H1 l) (k:Ow H1 H2 l'):Ow H H2 (l++l'):=by
 refine⟨h.1.trans k.1,λp m=>?_,?_⟩
 ·rcases aE.1 m with m|m
  ·exact⟨(h.2 p m).1,k.1 _ _ (h.2 p m).2⟩
  ·exact⟨h.1.none (k.2 p m).1,(k.2 p m).2⟩
 ·rw[az,f_]
  refine⟨h.3,k.3,λa ha b hb e=>?_⟩
  obtain⟨p,mp,ep⟩:=aA.1 ha
  obtain⟨p',mp',ep'⟩:=aA.1 hb
  have:=(k.2 p' mp').1
  rw[ep',←e,←ep,(h.2 p mp).2]at this;cases this
variable {H:Hp} {u g LS M q ad:Nat} {G:aJ} {A:GA} {SA:List Nat} {S:List cT} {m:Nat->Nat->Nat} {s:cT} {dm:List (List Int×V)} {R:Prop}
noncomputable def OE (G:aJ) (m:Nat->Nat->Nat) (q:Nat) (s:cT):List jx:=cfs q (sH G m q s) (wo G m q s).1.sh (wo G m q s).2
theorem KR (h:bN H u g G A LS SA S) (es:S[q]?=some s):((qC s.mv).map (·.1)).Nodup∧(qC s.mv).length≤8:=by
 have e:(qC s.mv).map (·.1)=(s.mv.filter λp=>decide (p.1<5)).map (·.1):=by rw[qC,bJ];rfl
 refine⟨?_,?_⟩
 ·rw[e];exact(h.keys_nodup es).sublist (jQ.map _)
 ·rw[qC,ae];exact aj (bp _ _) (h.oj es)
noncomputable def stO (g q mk SH GO LK SE W F b:Nat) (row:List Int) (go:List (Nat×Nat)) (fa ca:List (Nat×jx)):List (Nat×O):=
 (F,jC fa)::(SE,jC ca)::(W,.list (di row))::(GO,.bj (nd vI go))::(mk,zg g q SH GO LK SE b)::(fa.map cO++ca.map cO)
theorem zo {L:Lc} {l:mw} (x:vJ l L H [.ref g,.ref ad,.ref M] H) (h:bN H u g G A LS SA S) (ms:Fz H M S m dm) (la:nv G S m) (es:S[q]?=some s) (ea:SA[q]?=some ad)
  (k:∀mk SH GO LK SE b ca W F fa H1 H2 H3 H4 l2,JE (.new 8 l) L H (.ref mk) H1->H1[mk]?=some (zg g q SH GO LK SE 0)->JR 60 [.ref mk] H1 .none H2->H2[mk]?=some (zg g q SH GO LK SE b)->JR 61 [.ref mk] H2 (.ref W) H3->
   H3[mk]?=some (zg g q SH GO LK SE b)->JR 62 [.ref mk,.ref W] H3 (.ref F) H4->H3[F]?=none->Ext H H3->Ext H3 H4->Ow H H4 l2->(∀p∈stO g q mk SH GO LK SE W F b (sH G m q s) (goN s.mv) fa ca,p∈l2)->fa.map (·.2)=OE G m q s->ca.map (·.2)=(wo G m q s).1.cf->fa.length≤50->ca.length≤25->R):R:=by
 refine new_ x rfl λmk H0 fm gm em nw=>ux h ms es ea fm em gm λSH GO LK SE dQ H1 j1 w1 el=>?_
 have ll:dQ.length≤5:=by
  have:=congrArg List.length el
  rw[ae,ae]at this;rw[this];exact h.qx es
 obtain⟨n0,n8⟩:=KR h es
 have pv:=h.NG la es (t:=0) (by decide)
 refine rC (rs:=⟨qC s.mv,0,[]⟩) h.1 w1 rfl ⟨n0,n8,aC _⟩ ll (λp hp=>?_) λzh ca H2 j2 w2 NI Qb rk=>?_
 ·have:p.2∈s.red.map λr=>(r,m q r):=el▸aA.2 ⟨p,hp,rfl⟩
  obtain⟨r,mr,er⟩:=aA.1 this
  rw[←er];exact⟨(h.mL es r mr).2,la.1 q s r es mr⟩
 rw[el]at w2 NI Qb rk
 have l5:zh.length≤5:=by
  have a:=congrArg List.length NI
  have b:=congrArg List.length (pv.3)
  rw[ae]at a
  rw[ae,ae,Lx,ae]at b
  rw[a];exact aj (aD b) (h.qx es)
 refine KJ h.1 w2 l5 (λp hp=>pv.4 (h.NF la es) p.2 (NI▸aA.2 ⟨p,hp,rfl⟩)) rk.1 (λp hp=>?_) rk.2 (pv.2 (by decide:(0:Nat)<32)) λW H3 j3 w3=>?_
 ·obtain⟨a,v⟩:=p;exact(sI.1 (pv.1 _ hp)).1
 have r5:(sH G m q s).length=5:=kx ..
 have er:v9 (wo G m q s).1.sh (zh.map (·.2)) (wo G m q s).1.bar=sH G m q s:=by rw[NI];rfl
 have w3:Ow H H3 ((W,.list (di (sH G m q s)))::om mk SH GO LK SE g q (wo G m q s).1.sh (goN s.mv) zh (wo G m q s).1.bar ca):=by rw[←er];exact w3
 refine wb h.1 w3 l5 r5 λF fa H4 j4 fF e4 w4 ef fl=>k mk SH GO LK SE _ ca W F fa H1 H2 H3 H4 _ (nw j1) (w1.at_ 0 rfl) j2 (w2.at_ 0 rfl) j3 (w3.at_ 1 rfl) j4 fF w3.1 e4 (w3.join w4) (λp hp=>?_) ?_ Qb fl ?_
 ·have OG:∀{x:Nat×O} (i:Nat),(((W,O.list (di (sH G m q s)))::om mk SH GO LK SE g q (wo G m q s).1.sh (goN s.mv) zh (wo G m q s).1.bar ca)++([(F,jC fa)]++fa.map cO))[i]?=some x->x∈_:=λi e=>am e
  rcases aH.1 hp with rfl|hp
  ·exact aB _ (aQ ..)
  rcases aH.1 hp with rfl|hp
  ·exact OG 5 rfl
  rcases aH.1 hp with rfl|hp
  ·exact OG 0 rfl
  rcases aH.1 hp with rfl|hp
  ·exact OG 3 rfl
  rcases aH.1 hp with rfl|hp
  ·exact OG 1 rfl
  rcases aE.1 hp with hp|hp
  ·exact aB _ (aL _ hp)
  ·exact aY _ (aL _ (aB _ (aB _ hp)))
 ·rw[ef,NI];rfl
 ·have:=congrArg List.length Qb
  rw[ae]at this;rw[this];exact rk.3
end
section
variable {H H0:Hp} {u g LS M q ad:Nat} {G:aJ} {A:GA} {SA:List Nat} {S:List cT} {m:Nat->Nat->Nat} {s:cT} {dm:List (List Int×V)} {R:Prop} {wd:Bool}
noncomputable def EY (wd:Bool) (w row:List Int) (best:Nat):Prop:=(wd=false->best=0)∧(wd=true->OA w best)∧row=if best=0 then w else w.map λx=>if x= -(best:Int)then 0 else x
noncomputable def Qc (G:aJ) (m:Nat->Nat->Nat) (S:List cT) (q:Nat):List jx:=match S[q]? with
 |some s=>OE G m q s
 |none=>[]
noncomputable def Qd (G:aJ) (m:Nat->Nat->Nat) (S:List cT) (q:Nat):List jx:=match S[q]? with
 |some s=>(wo G m q s).1.cf
 |none=>[]
structure FS where
 rs:List (Nat×List Int)
 gs:List (Nat×List (Nat×Nat))
 ds:List Nat
 ca:List (Nat×jx)
 sa:List (Nat×jx)
 X:List (Nat×O)
 x9:Option V
 gO:Option V
 fJ:Option V
 fX:Option V
structure FA where
 RW:Nat
 GT:Nat
 DF:Nat
 CF:Nat
 ST:Nat
noncomputable def F5 (a:FA) (f:FS):List (Nat×O):=(a.RW,jC f.rs)::(a.GT,jC f.gs)::(a.DF,.list (vn f.ds))::(a.CF,jC f.ca)::(a.ST,jC f.sa)::f.X
noncomputable def FL (u M:Nat) (wd:Bool) (a:FA) (x9 gO fJ fX:Option V):Lc:=[some (.ref u),some (.ref M),some (.bool wd),some (.str 15),some (.ref a.RW),some (.ref a.GT),some (.ref a.DF),some (.ref a.CF),some (.ref a.ST),x9,gO,fJ,fX]
inductive we (wd:Bool) (G:aJ) (S:List cT) (m:Nat->Nat->Nat) (n:Nat) (f:FS):Prop
 |mk (rl:f.rs.length=n) (gl:f.gs.length=n) (dl:f.ds.length=n) (rm:∀p∈f.rs,(p.1,O.list (di p.2))∈f.X) (gm:∀p∈f.gs,(p.1,O.bj (nd vI p.2))∈f.X) (cm:∀p∈f.ca,cO p∈f.X) (sm:∀p∈f.sa,cO p∈f.X) (at_:∀(q:Nat) s,S[q]?=some s->q<n->EY wd (sH G m q s) ((f.rs.map (·.2)).getD q []) (f.ds.getD q 0)∧(f.gs.map (·.2)).getD q []=goN s.mv) (cf:f.ca.map (·.2)=(List.range n).flatMap (Qc G m S)) (st:f.sa.map (·.2)=(List.range n).flatMap (Qd G m S)) (cl:f.ca.length≤50*n) (sl:f.sa.length≤25*n)
theorem ua {α:Type} {l:List α} {x d:α} {q:Nat} (z:q≤l.length):(l++[x]).getD q d=if q<l.length then l.getD q d else x:=by
 rw[aF,aF]
 split
 ·next h=>rw[aG h]
 ·next h=>rw[aX (dX h),bR z (dX h),ez];rfl
theorem we.step {n:Nat} {f:FS} (h:we wd G S m n f) (es:S[n]?=some s) {W GO:Nat} {row:List Int} {best:Nat} {fa ca:List (Nat×jx)} {Y:List (Nat×O)} {y9 IH II B_:Option V} (r:EY wd (sH G m n s) row best)
  (mW:(W,O.list (di row))∈f.X++Y) (mG:(GO,O.bj (nd vI (goN s.mv)))∈f.X++Y) (mf:∀p∈fa,cO p∈f.X++Y) (mc:∀p∈ca,cO p∈f.X++Y) (ef:fa.map (·.2)=OE G m n s) (ec:ca.map (·.2)=(wo G m n s).1.cf) (fl:fa.length≤50) (cl:ca.length≤25):
  we wd G S m (n+1) ⟨f.rs++[(W,row)],f.gs++[(GO,goN s.mv)],f.ds++[best],f.ca++fa,f.sa++ca,f.X++Y,y9,IH,II,B_⟩:=by
 have up:∀{α:Type} {l l':List α} {F:α->Nat×O},(∀p∈l,F p∈f.X)->(∀p∈l',F p∈f.X++Y)->∀p∈l++l',F p∈f.X++Y:=λa b p hp=>(aE.1 hp).elim (λk=>aY _ (a p k)) (b p)
 have one:∀{α:Type} {x:α} {F:α->Nat×O},F x∈f.X++Y->∀p∈[x],F p∈f.X++Y:=λa p hp=>by rw[ak.1 hp];exact a
 refine⟨by rw[aq,h.1];rfl,by rw[aq,h.2];rfl,by rw[aq,h.3];rfl,up h.4 (one mW),up h.5 (one mG),up h.6 mf,up h.7 mc,λq s' e z=>?_,?_,?_,?_,?_⟩
 ·rw[az,az,bS,iU,bS,iU,ua (l:=f.rs.map (·.2)) (by rw[ae,h.1];omega),ua (l:=f.gs.map (·.2)) (by rw[ae,h.2];omega),ua (l:=f.ds) (by rw[h.3];omega),ae,ae,h.1,h.2,h.3]
  by_cases c:q<n
  ·rw[if_pos c,if_pos c,if_pos c];exact h.8 q s' e c
  ·rw[if_neg c,if_neg c,if_neg c]
   cases(bR (bE z) (dX c):q=n)
   cases es.symm.trans e;exact⟨r,rfl⟩
 ·rw[az,h.9,bK,cH,cx,cV,aO,Qc,es,ef]
 ·rw[az,h.10,bK,cH,cx,cV,aO,Qd,es,ec]
 ·rw[aq];have:=h.11;omega
 ·rw[aq];have:=h.12;omega
theorem AE {α:Type} {l r:List (Nat×α)}:O.list ((l.map (·.1)).map V.ref++(r.map (·.1)).map .ref)=jC (l++r):=by rw[jC,az,az]
theorem xL {n:Nat} {a:FA} {f:FS} {K:Fl->Lc->Hp->Prop} {fa ca:List (Nat×jx)} {Y:List (Nat×O)} {GO W mk SH LK SE b best:Nat} {row:List Int} {x9:Option V} (zn:n<2^18) (i:we wd G S m n f)
  (w:Ow H0 H (F5 a {f with ca:=f.ca++fa,sa:=f.sa++ca,X:=f.X++Y})) (hm:H[mk]?=some (zg g q SH GO LK SE b)) (nm:mk∉[a.RW,a.GT])
  (k:∀H',Ow H0 H' (F5 a {f with rs:=f.rs++[(W,row)],gs:=f.gs++[(GO,goN s.mv)],ds:=f.ds++[best],ca:=f.ca++fa,sa:=f.sa++ca,X:=f.X++Y})->K .next (FL u M wd a x9 (some (.ref mk)) (some (.ref W)) (some (.int best))) H'):
  cB (.cons (.expr (.append (.var 4) (.var 11))) (.cons (.expr (.append (.var 5) (.attr (.var 10) 21))) (.cons (.expr (.append (.var 6) (.var 12))) .nil))) (FL u M wd a x9 (some (.ref mk)) (some (.ref W)) (some (.int best))) H K:=by
 have g0:=w.at_ 0 rfl
 have sz:n<SZ:=bH zn (by decide)
 refine .expr (.append (.var rfl) (.var rfl) ⟨_,g0⟩ g0 (by rw[ae,ae,i.1];exact sz)) ?_
 have w1:=Ow.set [] w (jC (f.rs++[(W,row)]))
 rw[oS (x:=row)]
 have g1:=w1.at_ 1 rfl
 refine .expr (.append (.var rfl) (.attr (.var rfl) (eK hm λe=>nm (e▸aQ ..)) rfl rfl) ⟨_,g1⟩ g1 (by rw[ae,ae,i.2];exact sz)) ?_
 have w2:=Ow.set [_] w1 (jC (f.gs++[(GO,goN s.mv)]))
 rw[oS (x:=goN s.mv)]
 have g2:=w2.at_ 2 rfl
 refine .expr (.append (.var rfl) (.var rfl) ⟨_,g2⟩ g2 (by rw[aW,i.3];exact sz)) (.nil (k _ ?_))
 rw[←ox];exact Ow.set [_,_] w2 _
end
section
variable {H H0:Hp} {u g LS M q ad:Nat} {G:aJ} {A:GA} {SA:List Nat} {S:List cT} {m:Nat->Nat->Nat} {s:cT} {dm:List (List Int×V)} {R:Prop} {wd:Bool}
inductive hK (wd:Bool) (G:aJ) (S:List cT) (m:Nat->Nat->Nat) (d:TD):Prop
 |mk (at_:∀(q:Nat) s,S[q]?=some s->EY wd (sH G m q s) (d.rows.getD q []) (d.ud.getD q 0)∧d.FG.getD q []=goN s.mv) (cf:d.cf=(List.range S.length).flatMap (Qc G m S)) (st:d.st=(List.range S.length).flatMap (Qd G m S)) (cl:d.cf.length≤SZ) (sl:d.st.length≤SZ)
theorem u6 {n b:Nat} {a:FA} {f:FS} {K:Fl->Lc->Hp->Prop} {fa ca:List (Nat×jx)} {l2:List (Nat×O)} {GO W mk SH LK SE F bb best:Nat} (zn:n<2^18) (i:we wd G S m n f) (es:S[n]?=some s)
  (w:Ow H0 H (F5 a {f with ca:=f.ca++fa,sa:=f.sa++ca,X:=f.X++l2})) (sub:∀p∈stO g n mk SH GO LK SE W F bb (sH G m n s) (goN s.mv) fa ca,p∈l2) (nm:mk∉[a.RW,a.GT])
  (ef:fa.map (·.2)=OE G m n s) (ec:ca.map (·.2)=(wo G m n s).1.cf) (fl:fa.length≤50) (cl:ca.length≤25) (db:(wd=false->best=0)∧(wd=true->OA (sH G m n s) best))
  (k:∀(f':FS) H',Ow H0 H' (F5 a f')->we wd G S m (n+1) f'->K .next (FL u M wd a (some (.ref b)) f'.gO f'.fJ f'.fX) H'):
  cB (.cons (.ite (.cmp .ne (.var 12) (.lit (.int 0))) (.cons (.set (.v 11) (.call 19 (.cons (.var 11) (.cons (.var 12) .nil)))) .nil) .nil) (.cons (.expr (.append (.var 4) (.var 11))) (.cons (.expr (.append (.var 5) (.attr (.var 10) 21))) (.cons (.expr (.append (.var 6) (.var 12))) .nil))))
   (FL u M wd a (some (.ref b)) (some (.ref mk)) (some (.ref W)) (some (.int best))) H K:=by
 have T:=JT.b9 (H:=H) (L:=FL u M wd a (some (.ref b)) (some (.ref mk)) (some (.ref W)) (some (.int best))) (.var (i:=12) rfl) .lit (.ne (.int (best:Nat) 0))
 have Ji:(mk,zg g n SH GO LK SE bb)∈l2:=sub _ (am (i:=4) rfl)
 have mG:(GO,O.bj (nd vI (goN s.mv)))∈l2:=sub _ (am (i:=3) rfl)
 have mW:(W,O.list (di (sH G m n s)))∈l2:=sub _ (am (i:=2) rfl)
 have mfa:∀p∈fa,cO p∈l2:=λp hp=>sub _ (aB [_,_,_,_,_] (aY _ (aA.2 ⟨p,hp,rfl⟩)))
 have mca:∀p∈ca,cO p∈l2:=λp hp=>sub _ (aB [_,_,_,_,_] (aB _ (aA.2 ⟨p,hp,rfl⟩)))
 have KS:∀{p} {f':FS},p∈f'.X->p∈F5 a f':=λh=>aB [_,_,_,_,_] h
 by_cases c:best=0
 ·have:(!((best:Int)==0))=false:=by rw[c];rfl
  rw[this]at T
  refine .pass T (xL (row:=sH G m n s) zn i w (w.2 _ (KS (aB _ Ji))).2 nm λH' w'=>k ⟨_,_,_,_,_,_,some (.ref b),some (.ref mk),some (.ref W),some (.int best)⟩ H' w' (i.step es ⟨db.1,db.2,(if_pos c).symm⟩ (aB _ mW) (aB _ mG) (λp hp=>aB _ (mfa p hp)) (λp hp=>aB _ (mca p hp)) ef ec fl cl))
 ·have:(!((best:Int)==0))=true:=bne_iff_ne.2 (by omega:(best:Int)≠0)
  rw[this]at T
  refine zj (rule:=best) (w.2 _ (KS (aB _ mW))).2 (kx ..) λW2 H2 j2 f2 e2 g2=>.then T (.set (.call (.av (.var rfl) (.av (.var rfl) .bm)) j2) (.nil ?_))
  have w2:Ow H0 H2 (F5 a {f with ca:=f.ca++fa,sa:=f.sa++ca,X:=f.X++l2++[(W2,.list (di ((sH G m n s).map λd=>if d= -(best:Int)then 0 else d)))]}):=w.join (Ow.new ⟨.r,nofun,.nil⟩ f2 g2 e2)
  rw[bO]at w2
  refine xL (W:=W2) (row:=(sH G m n s).map λd=>if d= -(best:Int)then 0 else d) zn i w2 (w2.2 _ (KS (aB _ (aY _ Ji)))).2 nm λH' w'=>k ⟨_,_,_,_,_,_,some (.ref b),some (.ref mk),some (.ref W2),some (.int best)⟩ H' w'
   (i.step es ⟨db.1,db.2,(if_neg c).symm⟩ (aB _ (aB _ (ak.2 rfl))) (aB _ (aY _ mG)) (λp hp=>aB _ (aY _ (mfa p hp))) (λp hp=>aB _ (aY _ (mca p hp))) ef ec fl cl)
end
section
variable {H H0:Hp} {u g LS M q ad:Nat} {G:aJ} {A:GA} {SA:List Nat} {S:List cT} {m:Nat->Nat->Nat} {s:cT} {dm:List (List Int×V)} {R:Prop} {wd:Bool}
theorem Fz.ext {H':Hp} (h:Fz H M S m dm) (e:Ext H H'):Fz H' M S m dm:=⟨e _ _ h.1,h.2⟩
theorem BP {n b:Nat} {a:FA} {f:FS} {K:Fl->Lc->Hp->Prop} (h:bN H u g G A LS SA S) (ms:Fz H M S m dm) (la:nv G S m) (eb:SA[n]?=some b) (w:Ow H H0 (F5 a f)) (i:we wd G S m n f)
  (k:∀(f':FS) H',Ow H H' (F5 a f')->we wd G S m (n+1) f'->K .next (FL u M wd a (some (.ref b)) f'.gO f'.fJ f'.fX) H'):
  cB (.cons (.set (.v 10) (.new 8 (.cons (.attr (.var 0) 12) (.cons (.var 9) (.cons (.var 1) .nil))))) (.cons (.expr (.bA (.var 10) 17 60 .nil)) (.cons (.set (.v 11) (.bA (.var 10) 18 61 .nil)) (.cons (.expr (.extend (.var 7) (.bA (.var 10) 19 62 (.cons (.var 11) .nil)))) (.cons (.expr (.extend (.var 8) (.attr (.var 10) 20))) (.cons (.set (.v 12) (.lit (.int 0))) (.cons (.ite (.var 2) (.cons (.set (.v 12) (.call 18 (.cons (.var 11) .nil))) .nil) .nil) (.cons (.ite (.cmp .ne (.var 12) (.lit (.int 0))) (.cons (.set (.v 11) (.call 19 (.cons (.var 11) (.cons (.var 12) .nil)))) .nil) .nil) (.cons (.expr (.append (.var 4) (.var 11))) (.cons (.expr (.append (.var 5) (.attr (.var 10) 21))) (.cons (.expr (.append (.var 6) (.var 12))) .nil)))))))))))
   (FL u M wd a (some (.ref b)) f.gO f.fJ f.fX) H0 K:=by
 have h2:=h.ext w.1
 have zS:n<S.length:=h.4▸(ah.1 eb).1
 have zn:n<2^18:=aw zS h.6.5
 have es:=ao zS
 refine zo (L:=FL u M wd a (some (.ref b)) f.gO f.fJ f.fX) (.av (.attr (.var (i:=0) rfl) h2.2 (f:=12) rfl rfl) (.av (.var (i:=9) rfl) (.av (.var (i:=1) rfl) .bm))) h2 (ms.ext w.1) la es eb
  λmk SH GO LK SE bb ca W F fa H3 H4 H5 H6 l2 j1 g1 j2 g2 j3 g3 j4 fF e5 e6 w2 sub ef ec fl cl=>.set j1 (.expr (.bA (.var rfl) g1 rfl rfl .bm j2) (.set (.bA (.var rfl) g2 rfl rfl .bm j3) ?_))
 have w3:Ow H H6 (F5 a {f with X:=f.X++l2}):=w.join w2
 have mF:=sub _ (am (i:=0) rfl)
 have mE:=sub _ (am (i:=1) rfl)
 have mW:=sub _ (am (i:=2) rfl)
 have mM:=sub _ (am (i:=4) rfl)
 have KS:∀{p} {f':FS},p∈f'.X->p∈F5 a f':=λh=>aB [_,_,_,_,_] h
 have cl1:=i.11
 have Hu:=i.12
 have c2:=w.at_ 3 rfl
 have s2:=w.at_ 4 rfl
 have c5:=e5 _ _ c2
 have c6:=e6 _ _ c5
 refine .expr (.extend (.var rfl) (.bA (.var rfl) g3 rfl rfl (.av (.var rfl) .bm) j4) ⟨_,c5⟩ c6 (w2.2 _ mF).2 (e_ fF c5) (by rw[ae,ae,ae,ae];unfold SZ;omega)) ?_
 rw[AE]
 have w4:=Ow.set [_,_,_] w3 (jC (f.ca++fa))
 have s4:=w4.at_ 4 rfl
 refine .expr (.extend (.var rfl) (.attr (.var rfl) (w4.2 _ (KS (f':={f with ca:=f.ca++fa,X:=f.X++l2}) (aB _ mM))).2 rfl rfl) ⟨_,s4⟩ s4 (w4.2 _ (KS (f':={f with ca:=f.ca++fa,X:=f.X++l2}) (aB _ mE))).2 (e_ (w2.2 _ mE).1 s2) (show((f.sa.map (·.1)).map V.ref).length+((ca.map (·.1)).map V.ref).length<SZ by rw[ae,ae,ae,ae];unfold SZ;omega)) ?_
 rw[AE]
 have w5:Ow H _ (F5 a {f with ca:=f.ca++fa,sa:=f.sa++ca,X:=f.X++l2}):=Ow.set [_,_,_,_] w4 (jC (f.sa++ca))
 have nm:mk∉[a.RW,a.GT]:=λk=>by
  have f0:=(w2.2 _ mM).1
  rcases aH.1 k with e|e
  ·rw[e]at f0;rw[w.at_ 0 rfl]at f0;cases f0
  ·rw[ak.1 e]at f0;rw[w.at_ 1 rfl]at f0;cases f0
 refine .set .lit ?_
 cases wd with
 |false=>exact .pass (.iu (.var rfl) (.bool false) rfl) (u6 (best:=0) zn i es w5 sub nm ef ec fl cl ⟨λ_=>rfl,nofun⟩ k)
 |true=>
  refine .then (.iu (.var rfl) (.bool true) rfl) (uA (w5.2 _ (KS (f':={f with ca:=f.ca++fa,sa:=f.sa++ca,X:=f.X++l2}) (aB _ mW))).2 (kx ..) λbest H9 j9 e9 df=>.set (.call (.av (.var rfl) .bm) j9) (.nil ?_))
  exact u6 zn i es (w5.ext e9) sub nm ef ec fl cl ⟨nofun,λ_=>df⟩ k
noncomputable def F0:FS:=⟨[],[],[],[],[],[],none,none,none,none⟩
theorem AF (h:bN H u g G A LS SA S) (ms:Fz H M S m dm) (la:nv G S m)
  (k:∀T a d H',JR 20 [.ref u,.ref M,.bool wd] H (.ref T) H'->Ext H H'->TabAt H' T g G S.length a d->hK wd G S m d->R):R:=by
 refine dc 20 [.ref u,.ref M,.bool wd] H rfl rfl (L:=[some (.ref u),some (.ref M),some (.bool wd),some (.str 15),none,none,none,none,none,none,none,none,none]) rfl λQ q'=>?_
 refine hS λRW H1 j1 f1 g1 e1=>.set j1 (hS λGT H2 j2 f2 g2 e2=>.set j2 (hS λDF H3 j3 f3 g3 e3=>.set j3 (hS λCF H4 j4 f4 g4 e4=>.set j4 (hS λST H5 j5 f5 g5 e5=>.set j5 ?_))))
 have w1:Ow H H1 [(RW,.list [])]:=Ow.new ⟨.r,nofun,.nil⟩ f1 g1 e1
 have w2:=Ow.ins [_] (B:=[]) w1 f2 g2 e2
 have w3:=Ow.ins [_,_] (B:=[]) w2 f3 g3 e3
 have w4:=Ow.ins [_,_,_] (B:=[]) w3 f4 g4 e4
 have w5:Ow H H5 (F5 ⟨RW,GT,DF,CF,ST⟩ F0):=Ow.ins [_,_,_,_] (B:=[]) w4 f5 g5 e5
 refine .sg (λ_ (f:FS)=>FL u M wd ⟨RW,GT,DF,CF,ST⟩ f.x9 f.gO f.fJ f.fX) (λn f H'=>Ow H H' (F5 ⟨RW,GT,DF,CF,ST⟩ f)∧we wd G S m n f) F0
  (.pF (.attr (.var rfl) (w5.1 _ _ h.2) rfl rfl) (.list (w5.1 _ _ h.3)) (by rw[ae,h.4];exact aj h.6.5 (by decide))) ⟨w5,rfl,rfl,rfl,nofun,nofun,nofun,nofun,λ_ _ _ z=>(bc _ z).elim,rfl,rfl,aC _,aC _⟩ (λw=>w.1.1 _ _ h.3) ?_ ?_
 ·intro n b f H6 K eb w cq _
  exact BP h ms la eb w.1 w.2 λf' H' w' i'=>cq ⟨f'.rs,f'.gs,f'.ds,f'.ca,f'.sa,f'.X,some (.ref b),f'.gO,f'.fJ,f'.fX⟩ rfl ⟨w',i'.1,i'.2,i'.3,i'.4,i'.5,i'.6,i'.7,i'.8,i'.9,i'.10,i'.11,i'.12⟩
 ·intro f H6 w
  obtain⟨w,i⟩:=w
  rw[h.4]at i
  refine new_ (c:=7) (L:=FL u M wd ⟨RW,GT,DF,CF,ST⟩ f.x9 f.gO f.fJ f.fX) (.av (.attr (.var (i:=0) rfl) (w.1 _ _ h.2) (f:=12) rfl rfl) (.av (.var (i:=4) rfl) (.av (.var (i:=5) rfl) (.av (.var (i:=6) rfl) (.av (.var (i:=7) rfl) (.av (.var (i:=8) rfl) (.av (.var (i:=3) rfl) .bm))))))) rfl λT H7 fT gT eT nw=>?_
  refine uD (h.1.ext w.1) fT eT gT λnm lf ln bf nu H8 j8 e8 g8 glf gln=>.ret (nw j8) (q' λj=>k T ⟨nm,lf,ln,bf,DF,nu,RW,GT,CF,ST,f.rs.map (·.1),f.gs.map (·.1),f.ca,f.sa⟩ ⟨f.rs.map (·.2),f.gs.map (·.2),f.ds,f.ca.map (·.2),f.sa.map (·.2)⟩ H8 j (w.1.trans e8) ?_ ⟨λq s e=>i.8 q s e (ah.1 e).1,i.9,i.10,?_,?_⟩)
  rotate_left
  ·show(f.ca.map _).length≤SZ
   have:=i.11
   have:=h.6.5
   rw[ae];unfold SZ;omega
  ·show(f.sa.map _).length≤SZ
   have:=i.12
   have:=h.6.5
   rw[ae];unfold SZ;omega
  have Qe:∀{p},p∈f.X->H8[p.1]?=some p.2:=λm=>e8 _ _ (w.2 _ (aB [_,_,_,_,_] m)).2
  have row:∀{α:Type} {l:List (Nat×α)} {F:α->O} {d:α},(∀p∈l,(p.1,F p.2)∈f.X)->∀(q b:Nat),(l.map (·.1))[q]?=some b->H8[b]?=some (F ((l.map (·.2)).getD q d)):=λhm q b hb=>by
   rw[aK,bq]at hb
   obtain⟨p,hp,rfl⟩:=hb
   rw[aF,aK,hp];exact Qe (hm p (am hp))
  have r5:∀q<S.length,((f.rs.map (·.2)).getD q []).length=5:=λq z=>by
   obtain⟨⟨_,_,e⟩,_⟩:=i.8 q _ (ao z) z
   rw[e];split
   ·exact kx ..
   ·rw[ae];exact kx ..
  exact⟨g8,e8 _ _ (w.at_ 0 rfl),by rw[ae];exact i.1,row (F:=λl=>.list (di l)) i.4,e8 _ _ (w.at_ 1 rfl),by rw[ae];exact i.2,row (F:=λl=>.bj (nd vI l)) i.5,e8 _ _ (w.at_ 2 rfl),i.3,glf,gln,e8 _ _ (w.at_ 3 rfl),λp m=>Qe (i.6 p m),rfl,e8 _ _ (w.at_ 4 rfl),λp m=>Qe (i.7 p m),rfl,r5,h.6.5⟩
end
section
variable {H H0 H':Hp} {u g LS M q t T N:Nat} {G:aJ} {A:GA} {SA:List Nat} {S:List cT} {m:Nat->Nat->Nat} {s:cT} {a a0 a1:TA} {d d0 d1:TD} {R:Prop} {wd:Bool}
theorem lW {L L1:Lc} {caps:List Nat} {elt:CE} {ifs:mw} {it:CI} {gd:Gd} (row:List Int) (p:Int->Bool) (f:Int->Int) (c:L1=caps.map (λi=>(L[i]?).join)) (x:JI it L H (di row) gd H) (ng:gd.Cb=false) (ok:gd.ok H) (rl:row.length≤1000)
  (hp:∀v∈row,JA ifs (L1++[some (.int v)]) H (p v) H) (hf:∀v∈row,p v=true->JE elt (L1++[some (.int v)]) H (.int (f v)) H)
  (q:∀a H2,JE (.comp caps elt it ifs) L H (.ref a) H2->H[a]?=none->H2[a]?=some (.list (di ((row.filter p).map f)))->Ext H H2->R):R:=by
 have zl:(di row).length≤SZ:=by rw[dP];exact lM rl
 refine rM (elt:=elt) (ifs:=ifs) (L:=L1) (H:=H) (g:=gd) (xs:=di row) (λn ys H'=>H'=H∧ys=di (((row.take n).filter p).map f)) ⟨rfl,rfl⟩ (λh=>h.1▸ok) (λ{n ys H'} h=>?_) zl ?_ ?_
 ·rw[h.2,dP,ae]
  exact aj (bp _ _) (ib _ _)
 ·rintro n y ys H' hy ⟨rfl,rfl⟩
  rw[di,aK,bq]at hy
  obtain⟨v,hv,rfl⟩:=hy
  have mv:=am hv
  have T:=hp v mv
  rw[kW p hv]
  cases e:p v with
  |false=>rw[e]at T;exact .no T ⟨rfl,rfl⟩
  |true=>
   rw[e]at T
   refine .yes T ok (hf v mv e) ⟨rfl,?_⟩
   rw[cond_true,az,di,di,az];rfl
 ·rintro ys H' j ⟨rfl,rfl⟩
  rw[dP,aN]at j
  exact kh c x ng j (by rw[dP,ae];exact aj (bp _ _) (lM rl)) q
theorem EZ {l:List Int} (h:l.length=5):((List.range 5).map Int.ofNat).map (λv=>l.getD v.toNat 0)=l:=by
 match l,h with
 |[a,b,c,d,e],_=>rfl
theorem filter_tt (l:List Int):l.filter (λ_=>true)=l:=List.filter_eq_self.2 λ_ _=>rfl
theorem xM {L:Lc} {i j:Nat} (h:TabAt H T g G N a d) (z:q<N) (xi:L[i]?=some (some (.int q))) (xj:L[j]?=some (some (.ref T)))
  (k:∀c H2,JE (.comp [i,j] (.bA (.var 1) 24 65 (.cons (.var 0) (.cons (.var 2) .nil))) (.range (.lit (.int 5))) .nil) L H (.ref c) H2->H[c]?=none->H2[c]?=some (.list (di (d.rows.getD q [])))->Ext H H2->R):R:=by
 refine lW (L:=L) (L1:=[some (.int q),some (.ref T)]) (caps:=[i,j]) (elt:=.bA (.var 1) 24 65 (.cons (.var 0) (.cons (.var 2) .nil))) (ifs:=.nil) (it:=.range (.lit (.int 5))) (gd:=.none) ((List.range 5).map Int.ofNat) (λ_=>true) (λv=>(d.rows.getD q []).getD v.toNat 0)
  (by rw[bS,bS,xi,xj];rfl) (.yH (n:=5) .lit (ic _ rfl)) rfl trivial (by decide) (λv hv=>.lw) (λv hv _=>?_) λc H2 j f g' e=>k c H2 j f ?_ e
 ·obtain⟨n,hn,rfl⟩:=aA.1 hv
  exact .bA (.var rfl) h.1 rfl rfl (.av (.var rfl) (.av (.var rfl) .bm)) (ou h z (a_.1 hn))
 ·rw[g',filter_tt,EZ (h.18 q z)]
noncomputable def cons (d:TD) (q:Nat):Bool:=d.ud.getD q 0 !=0&&(List.range 5).all λt=>d.at_ q t==0
theorem zp (h:TabAt H T g G N a d) (z:q<N):JR 66 [.ref T,.int q] H (.bool (cons d q)) H:=by
 refine dc 66 [.ref T,.int q] H rfl rfl (L:=[some (.ref T),some (.int q),none]) rfl λQ k=>?_
 have T1:=JT.b9 (L:=[some (.ref T),some (.int q),none]) (.bA (m:=23) (.var (i:=0) rfl) h.1 rfl rfl (.av (.var (i:=1) rfl) .bm) (mN h z)) .lit (.eq (.int _ 0))
 by_cases c:d.ud.getD q 0=0
 ·rw[beq_iff_eq.2 (by rw[c];rfl)]at T1
  refine .then T1 (.ret .lit (k λj=>?_))
  rw[cons,c];exact j
 ·rw[beq_eq_false_iff_ne.2 (by omega:((d.ud.getD q 0:Nat):Int)≠0)]at T1
  have e:cons d q=(List.range 5).all λt=>d.at_ q t==0:=by rw[cons,bne_iff_ne.2 c,jn]
  rw[e]at k
  refine .pass T1 (.tA 5 (λ_ (x:Option V)=>[some (.ref T),some (.int q),x]) (λn _ H'=>H'=H∧∀t<n,d.at_ q t=0) none (.attr (.var rfl) h.1 rfl rfl) (by decide) ⟨rfl,nofun⟩ ?_ ?_)
  ·rintro t x H2 K t5 ⟨rfl,h0⟩ kn kr
   have T2:=JT.b9 (L:=[some (.ref T),some (.int q),some (.int t)]) (.bA (m:=24) (.var (i:=0) rfl) h.1 rfl rfl (.av (.var (i:=1) rfl) (.av (.var (i:=2) rfl) .bm)) (ou h z t5)) .lit (.ne (.int _ 0))
   by_cases c2:d.at_ q t=0
   ·rw[beq_iff_eq.2 c2]at T2
    refine .pass T2 (.nil (kn (some (.int t)) rfl ⟨rfl,λi hi=>?_⟩))
    rcases ba.1 hi with w|w
    ·exact h0 i w
    ·rw[w];exact c2
   ·rw[beq_eq_false_iff_ne.2 c2]at T2
    refine .then T2 (.ret .lit (kr (k λj=>?_)))
    have:((List.range 5).all λt=>d.at_ q t==0)=false:=dN.2 λw=>c2 (beq_iff_eq.1 (bt.1 w t (a_.2 t5)))
    rw[this];exact j
  ·rintro x H2 ⟨rfl,h0⟩
   refine .ret .lit (k λj=>?_)
   have:((List.range 5).all λt=>d.at_ q t==0)=true:=bt.2 λt ht=>beq_iff_eq.2 (h0 t (a_.1 ht))
   rw[this];exact j
end
section
variable {H H0 H':Hp} {g q T0 T1 N:Nat} {G:aJ} {a0 a1:TA} {d0 d1:TD} {R:Prop}
inductive Pr (d0 d1:TD) (q:Nat):Prop
 |mk (z:d0.ud.getD q 0=0) (f:OA (d0.rows.getD q []) (d1.ud.getD q 0)) (r:d1.rows.getD q []=if d1.ud.getD q 0=0 then d0.rows.getD q []else(d0.rows.getD q []).map λx=>if x= -(d1.ud.getD q 0:Int)then 0 else x)
noncomputable def xN (b v:Int):Int:=if b≠0∧v= -b then 0 else v
theorem Pr.row (h:Pr d0 d1 q):d1.rows.getD q []=(d0.rows.getD q []).map (xN (d1.ud.getD q 0:Nat)):=by
 rw[h.3]
 split
 ·next e=>
  rw[e]
  exact((cW λv _=>if_neg λk=>k.1 rfl).trans (gH _)).symm
 ·next e=>
  refine cW λv _=>?_
  have:((d1.ud.getD q 0:Nat):Int)≠0:=λk=>e (a8.1 k)
  unfold xN
  by_cases c:v= -((d1.ud.getD q 0:Nat):Int)
  ·rw[if_pos c,if_pos ⟨this,c⟩]
  ·rw[if_neg c,if_neg λk=>c k.2]
theorem E0 {W:Nat} {b:Int} {row:List Int} {L:Lc} (gW:H[W]?=some (.list (di row))) (r5:row.length=5) (x3:L[3]?=some (some (.int b))) (x4:L[4]?=some (some (.ref W)))
  (k:∀c H2,JE (.comp [3] (.ite (.and (.cons (.cmp .ne (.var 0) (.lit (.int 0))) (.cons (.cmp .eq (.var 1) (.neg (.var 0))) .nil))) (.lit (.int 0)) (.var 1)) (.ex (.var 4)) .nil) L H (.ref c) H2->H[c]?=none->H2[c]?=some (.list (di (row.map (xN b))))->Ext H H2->R):R:=by
 refine lW (L:=L) (L1:=[some (.int b)]) (caps:=[3]) (elt:=.ite (.and (.cons (.cmp .ne (.var 0) (.lit (.int 0))) (.cons (.cmp .eq (.var 1) (.neg (.var 0))) .nil))) (.lit (.int 0)) (.var 1)) (ifs:=.nil) (it:=.ex (.var 4)) (gd:=.list W (di row)) row (λ_=>true) (xN b) (by rw[bS,x3];rfl)
  (.pF (.var x4) (.list gW) (by rw[dP,r5];exact ic _ rfl)) rfl gW (by rw[r5];decide) (λv _=>.lw) (λv _ _=>?_) λc H2 j f g' e=>k c H2 j f (by rw[g',filter_tt]) e
 have X1:=JT.b9 (H:=H) (L:=[some (.int b),some (.int v)]) (.var (i:=0) rfl) .lit (.ne (.int b 0))
 have X2:=JT.b9 (H:=H) (L:=[some (.int b),some (.int v)]) (.var (i:=1) rfl) (.neg (.var (i:=0) rfl)) (.eq (.int v (-b)))
 unfold xN
 by_cases c1:b=0
 ·rw[beq_iff_eq.2 c1]at X1;rw[if_neg λk=>k.1 c1]
  exact .ite (.iD (.af X1)) (.var rfl)
 ·rw[beq_eq_false_iff_ne.2 c1]at X1
  by_cases c2:v= -b
  ·rw[beq_iff_eq.2 c2]at X2;rw[if_pos ⟨c1,c2⟩]
   exact .ite (.iD (.at X1 (.at X2 .lw))) .lit
  ·rw[beq_eq_false_iff_ne.2 c2]at X2;rw[if_neg λk=>c2 k.2]
   exact .ite (.iD (.at X1 (.af X2))) (.var rfl)
theorem BQ {W:Nat} {b:Int} {row:List Int} {L:Lc} (gW:H[W]?=some (.list (di row))) (r5:row.length=5) (x3:L[3]?=some (some (.int b))) (x4:L[4]?=some (some (.ref W)))
  (k:∀H2,JE (.cmp .eq (.comp [3] (.var 1) (.ex (.var 4)) (.cons (.cmp .jJ (.var 1) (.tup (.cons (.lit (.int 0)) (.cons (.neg (.var 0)) .nil)))) .nil)) (.list .nil)) L H (.bool ((row.filter λv=>!([0, -b]:List Int).contains v)==[])) H2->Ext H H2->R):R:=by
 refine lW (L:=L) (L1:=[some (.int b)]) (caps:=[3]) (elt:=.var 1) (ifs:=.cons (.cmp .jJ (.var 1) (.tup (.cons (.lit (.int 0)) (.cons (.neg (.var 0)) .nil)))) .nil) (it:=.ex (.var 4)) (gd:=.list W (di row)) row (λv=>!([0, -b]:List Int).contains v) id (by rw[bS,x3];rfl)
  (.pF (.var x4) (.list gW) (by rw[dP,r5];exact ic _ rfl)) rfl gW (by rw[r5];decide) (λv _=>?_) (λv _ _=>.var rfl) λc H2 j f g' e=>hS (H:=H2) (L:=L) λc' H3 j' f' g2 e'=>k H3 ?_ (e.trans e')
 ·have X:=JT.b9 (H:=H) (L:=[some (.int b),some (.int v)]) (.var (i:=1) rfl) (.tup (.av .lit (.av (.neg (.var (i:=0) rfl)) .bm)) (ic _ rfl)) (.jJ (.tup (l:=[0, -b]) (i:=v)))
  cases e: !([0, -b]:List Int).contains v with
  |true=>rw[e]at X;exact .at X .lw
  |false=>rw[e]at X;exact .af X
 ·have:=e' _ _ g'
  rw[gH]at this
  exact .cmp j j' (.eq (.il (r:=[]) this g2))
theorem E1 {W:Nat} {row:List Int} {L:Lc} (gW:H[W]?=some (.list (di row))) (r5:row.length=5) (x4:L[4]?=some (some (.ref W)))
  (k:∀H2,JT (.cmp .ne (.comp [] (.var 0) (.ex (.var 4)) (.cons (.rV .lt .lt (.neg (.lit (.int 100))) (.var 0) (.lit (.int 0))) .nil)) (.list .nil)) L H (!((row.filter λv=>decide (-100<v∧v<0))==[])) H2->Ext H H2->R):R:=by
 refine lW (L:=L) (L1:=[]) (caps:=[]) (elt:=.var 0) (ifs:=.cons (.rV .lt .lt (.neg (.lit (.int 100))) (.var 0) (.lit (.int 0))) .nil) (it:=.ex (.var 4)) (gd:=.list W (di row)) row (λv=>decide (-100<v∧v<0)) id rfl
  (.pF (.var x4) (.list gW) (by rw[dP,r5];exact ic _ rfl)) rfl gW (by rw[r5];decide) (λv _=>?_) (λv _ _=>.var rfl) λc H2 j f g' e=>hS (H:=H2) (L:=L) λc' H3 j' f' g2 e'=>k H3 ?_ (e.trans e')
 ·have l1:=JE.neg (H:=H) (L:=[some (V.int v)]) (.lit (v:=.int 100))
  have c1:=cN.lt (H:=H) (-100) v
  by_cases h1: -100<v
  ·rw[decide_eq_true h1]at c1
   have X:=JT.DT l1 (.var (i:=0) rfl) c1 .lit (.lt v 0)
   by_cases h2:v<0
   ·rw[decide_eq_true h2]at X;rw[decide_eq_true ⟨h1,h2⟩];exact .at X .lw
   ·rw[decide_eq_false h2]at X;rw[decide_eq_false λk=>h2 k.2];exact .af X
  ·rw[decide_eq_false h1]at c1
   rw[decide_eq_false λk=>h1 k.1]
   exact .af (JT.IB l1 (.var rfl) c1)
 ·have:=e' _ _ g'
  rw[gH]at this
  exact .b9 j j' (.ne (.il (r:=[]) this g2))
theorem Qf {l:List Int} (h:l.length=5):((List.range 5).all λt=>l.getD t 0==0)=l.all (· ==0):=by
 match l,h with
 |[a,b,c,d,e],_=>rfl
theorem HG {b:Nat} {row:List Int} (hb:d1.ud.getD q 0=b) (r5:row.length=5) (e:d1.rows.getD q []=row.map (xN b)):cons d1 q=(decide (b≠0)&&(row.filter λv=>!([0, -(b:Int)]:List Int).contains v)==[]):=by
 by_cases c:b=0
 ·rw[cons,hb,c];rfl
 ·have ci:(b:Int)≠0:=λk=>c (a8.1 k)
  rw[cons,hb,bne_iff_ne.2 c,jn,decide_eq_true c,jn]
  unfold TD.at_
  rw[e,Qf (by rw[ae,r5]),m7,bt,beq_iff_eq,dS]
  have key:∀v,xN b v=0↔([0, -(b:Int)]:List Int).contains v=true:=λv=>by
   rw[cZ,aH,ak,xN]
   by_cases k:v= -(b:Int)
   ·rw[if_pos ⟨ci,k⟩];exact⟨λ_=>.inr k,λ_=>rfl⟩
   ·rw[if_neg λh=>k h.2];exact⟨.inl,λh=>h.resolve_right k⟩
  constructor
  ·intro h v hv
   rw[(key v).1 (beq_iff_eq.1 (h _ (aA.2 ⟨v,hv,rfl⟩)))];exact nofun
  ·intro h x hx
   obtain⟨v,hv,rfl⟩:=aA.1 hx
   refine beq_iff_eq.2 ((key v).2 ?_)
   have:=h v hv
   cases w:([0, -(b:Int)]:List Int).contains v with
   |true=>rfl
   |false=>rw[w]at this;exact(this rfl).elim
theorem wf (h0:TabAt H T0 g G N a0 d0) (h1:TabAt H T1 g G N a1 d1) (pr:∀q<N,Pr d0 d1 q) (k:∀H',JR 23 [.ref T0,.ref T1] H (.bool true) H'->Ext H H'->R):R:=by
 refine dc 23 [.ref T0,.ref T1] H rfl rfl (L:=[some (.ref T0),some (.ref T1),none,none,none]) rfl λQ q'=>?_
 refine .GY N (λ_ (s:Option V×Option V×Option V)=>[some (.ref T0),some (.ref T1),s.1,s.2.1,s.2.2]) (λn s H'=>Ext H H') (none,none,none) (.bA (.var rfl) h0.1 rfl rfl .bm (EV h0)) (aj h0.19 (by decide)) .r ?_ ?_
 ·intro q s H2 K z e2 cq _
  have p:=pr q z
  have t1:=h1.ext e2
  generalize hb:d1.ud.getD q 0=b at p
  have db:=mN t1 z
  rw[hb]at db
  refine .set (.bA (.var rfl) t1.1 rfl rfl (.av (.var rfl) .bm) db) (xM (h0.ext e2) z rfl rfl λW H3 j3 f3 g3 e3=>.set j3 ?_)
  have r5:=h0.18 q z
  have pf:=p.2
  have HH:=p.row
  have pz:=p.1
  rw[hb]at pf HH
  have cc:=HG hb r5 HH
  generalize d0.rows.getD q []=row at g3 r5 pf HH cc
  refine xM (i:=2) (j:=1) (L:=[some (.ref T0),some (.ref T1),some (.int q),some (.int b),some (.ref W)]) ((h1.ext e2).ext e3) z rfl rfl λC H4 j4 f4 g4 e4=>E0 (L:=[some (.ref T0),some (.ref T1),some (.int q),some (.int b),some (.ref W)]) (e4 _ _ g3) r5 rfl rfl λD H5 j5 f5 g5 e5=>?_
  rw[HH]at g4
  have X:=JT.b9 j4 j5 (.ne (.il (e5 _ _ g4) g5))
  rw[beq_self_eq_true]at X
  refine .pass X ?_
  have KT:=((e2.trans e3).trans e4).trans e5
  have Y1:=JT.b9 (H:=H5) (L:=[some (.ref T0),some (.ref T1),some (.int q),some (.int b),some (.ref W)]) (.bA (m:=23) (.var (i:=0) rfl) (h0.ext KT).1 rfl rfl (.av (.var (i:=2) rfl) .bm) (mN (h0.ext KT) z)) .lit (.ne (.int _ 0))
  rw[pz]at Y1
  have Qg:=e5 _ _ (e4 _ _ g3)
  have B:=λ{H6}=>JT.b9 (H:=H6) (L:=[some (.ref T0),some (.ref T1),some (.int q),some (.int b),some (.ref W)]) (.var (i:=3) rfl) .lit (.eq (.int (b:Nat) 0))
  have Bn:=JE.cmp (H:=H5) (L:=[some (.ref T0),some (.ref T1),some (.int q),some (.int b),some (.ref W)]) (.var (i:=3) rfl) .lit (.ne (.int (b:Nat) 0))
  have cj:=JE.bA (H:=H5) (L:=[some (.ref T0),some (.ref T1),some (.int q),some (.int b),some (.ref W)]) (m:=25) (.var (i:=1) rfl) (h1.ext KT).1 rfl rfl (.av (.var (i:=2) rfl) .bm) (zp (h1.ext KT) z)
  rw[cc]at cj
  by_cases c:b=0
  ·have b0:((b:Int)==0)=true:=by rw[c];rfl
   rw[b0]at Bn
   rw[decide_eq_false (λk=>k c),Bool.false_and]at cj
   refine .pass (.xX (.of Y1 (.of (.b9 cj (.and (.avf Bn (.bool _))) (.ne (.bool false false))) .wZ))) ?_
   have B:=λ{H6}=>b0▸ @B H6
   have gv:row[1]?=some (row.getD 1 0):=getD_at (r5.symm▸by decide)
   have C:=JT.b9 (H:=H5) (L:=[some (.ref T0),some (.ref T1),some (.int q),some (.int b),some (.ref W)]) (.idx (.var (i:=4) rfl) (.lit (v:=.int 1)) (.nat (k:=1) Qg (kU gv))) .lit (.le _ 0)
   by_cases c1:row.getD 1 0≤0
   ·rw[decide_eq_true c1]at C
    refine E1 (L:=[some (.ref T0),some (.ref T1),some (.int q),some (.int b),some (.ref W)]) Qg r5 rfl λH6 j6 e6=>?_
    have:(row.filter λv=>decide (-100<v∧v<0))=[]:=by
     rw[dS]
     intro v hv k
     have k:=of_decide_eq_true k
     rcases pf.1 c with w|w
     ·omega
     ·exact w v hv ⟨by omega,k.2⟩
    rw[this,beq_self_eq_true]at j6
    exact .pass (.iD (.at B (.at C (.af j6)))) (.nil (cq (some (.int q),some (.int b),some (.ref W)) rfl (KT.trans e6)))
   ·rw[decide_eq_false c1]at C
    exact .pass (.iD (.at B (.af C))) (.nil (cq (some (.int q),some (.int b),some (.ref W)) rfl KT))
  ·have b0:((b:Int)==0)=false:=beq_eq_false_iff_ne.2 (by omega)
   rw[b0]at Bn
   rw[decide_eq_true c,jn]at cj
   refine BQ (b:=(b:Int)) (L:=[some (.ref T0),some (.ref T1),some (.int q),some (.int b),some (.ref W)]) Qg r5 rfl rfl λH6 j6 e6=>?_
   have Y2:=JT.b9 cj (.and (.avt Bn (.bool _) (.av1 j6))) (.ne (.bool _ _))
   rw[beq_self_eq_true]at Y2
   exact .pass (.xX (.of Y1 (.of Y2 .wZ))) (.pass (.iD (.af (b0▸B))) (.nil (cq (some (.int q),some (.int b),some (.ref W)) rfl (KT.trans e6))))
 ·intro s H2 e2
  exact .ret .lit (q' λj=>k H2 j e2)
end
section
variable {H H0:Hp} {u g LS M q t n:Nat} {G:aJ} {A:GA} {SA:List Nat} {S:List cT} {m:Nat->Nat->Nat} {s:cT} {R:Prop} {wd:Bool} {d d0 d1:TD} {st:List Nat}
theorem jr.on {S:List cT} {P:List Nat->Prop} (k:jr S st) (f:∀q st,jr S (q::st)->P (q::st)):P st:=by
 cases k with
 |base=>exact f _ _ .base
 |push h m=>exact f _ _ (.push h m)
theorem EY.lt {w row:List Int} {b:Nat} (h:EY wd w row b) (n:b≠0):(-(b:Int))∈w∧b<1048576:=by
 cases wd with
 |false=>exact(n (h.1 rfl)).elim
 |true=>exact(h.2.1 rfl).2 n
noncomputable def sr (b:Nat) (x:Int):Int:=if x= -1048576 then 0 else if x=0 then -(b:Int)else x
section
variable {b r:Nat} {x:Int}
theorem E2 (h:0<x):sr b x=x:=(if_neg λe:x= -1048576=>absurd (e▸h:(0:Int)< -1048576) (by decide)).trans (if_neg (mU h))
theorem xO (h:0<r) (l:r<1048576):sr b (-(r:Int))= -(r:Int):=(if_neg λe=>cu l (a8.1 (rU.1 e))).trans (if_neg λe=>du h (a8.1 (m8.1 e)))
theorem E6:sr b 0= -(b:Int):=(if_neg (by decide)).trans (if_pos rfl)
theorem E7 (c:b≠0) (l:b<1048576):sr b (if x= -(b:Int)then 0 else x)=sr b x:=by
 by_cases k:x= -(b:Int)
 ·rw[if_pos k,E6,k,xO (dK c) l]
 ·rw[if_neg k]
end
theorem hK.val (fd:hK wd G S m d) (e:S[q]?=some s) (z:t<5):d.act t q=sr (d.ud.getD q 0) ((sH G m q s).getD t 0):=by
 have f:=(fd.1 q s e).1
 have l5:t<(sH G m q s).length:=by rw[sH,kx];exact z
 by_cases c:d.ud.getD q 0=0
 ·exact congrArg (λw:List Int=>sr (d.ud.getD q 0) (w.getD t 0)) (f.2.2.trans (if_pos c))
 ·refine(congrArg (λw:List Int=>sr (d.ud.getD q 0) (w.getD t 0)) (f.2.2.trans (if_neg c))).trans (Eq.trans (congrArg (sr _) ?_) (E7 c (f.lt c).2))
  exact(aF ..).trans (congrArg (Option.getD · 0) (get_map (getD_at (d:=0) l5)))
theorem hK.act (h:bN H u g G A LS SA S) (la:nv G S m) (fd:hK wd G S m d) (z:t<5):Act S t (d.act t):=λq s e=>by
 have rk:=h.rw la e
 have f:=(fd.1 q s e).1
 have pos:∀{t p:Nat},(t,p)∈s.mv->0<if t=0 then 1048576 else(p:Int):=λmp=>Dg.mZ (0< ·) (λ_=>by decide) λ_=>bz.2 (h.Og ⟨s,e,mp⟩).1
 have red:∀b:Nat,b≠0->b<1048576->(-(b:Int))∈sH G m q s->b∈s.red:=λb n lt mb=>(aP mb).elim λi hi=>by
  have ei:(sH G m q s).getD i 0= -(b:Int):=by rw[aF,hi];rfl
  have k:=rk.2 i (rk.1▸(ah.1 hi).1)
  rw[ei]at k
  exact k.elim (λw=>(n (a8.1 (m8.1 w))).elim) λk=>k.elim (λw=>(cu lt (a8.1 (rU.1 w))).elim) λk=>k.elim (λk=>k.elim λr w=>a8.1 (rU.1 w.2)▸w.1)
   λk=>k.elim λp w=>absurd (w.2▸pos w.1) (fy.2 (lL (aS b)))
 rw[fd.val e z]
 refine(rk.2 t z).elim (λw=>?_) λk=>k.elim (λw=>?_) λk=>k.elim (λk=>k.elim λr w=>?_) λk=>k.elim λp w=>?_
 ·rw[w,E6]
  by_cases c:d.ud.getD q 0=0
  ·exact .inl (by rw[c];rfl)
  ·exact .inr (.inr ⟨_,red _ c (f.lt c).2 (f.lt c).1,rfl⟩)
 ·rw[w];exact .inl (if_pos rfl)
 ·rw[w.2,xO (h.mL e r w.1).1 (bH (h.mL e r w.1).2 (by decide))];exact .inr (.inr ⟨r,w.1,rfl⟩)
 ·rw[E2 (w.2▸pos w.1)];exact .inr (.inl ⟨p,⟨s,e,w.1⟩,w.2⟩)
theorem hK.tab (h:bN H u g G A LS SA S) (la:nv G S m) (fd:hK wd G S m d) {H2:Hp} {T:Nat} {a:TA} (ht:TabAt H2 T g G S.length a d):uB H2 T g G S a d:=
 ⟨ht,λq s e=>(fd.1 q s e).2,λt z=>fd.act h la z⟩
theorem hK.pr (f0:hK false G S m d0) (f1:hK true G S m d1):∀q<S.length,Pr d0 d1 q:=λq z=>by
 have a:=(f0.1 q _ (ao z)).1
 have b:=(f1.1 q _ (ao z)).1
 have e0:=a.2.2.trans (if_pos (a.1 rfl))
 exact⟨a.1 rfl,e0▸b.2.1 rfl,e0▸b.2.2⟩
theorem hK.two (h:bN H u g G A LS SA S) (la:nv G S m) (f0:hK false G S m d0) (f1:hK true G S m d1) (z:t<5) (k:jr S st):
  res G S (d0.act t) n st=res G S (d1.act t) n st∨(∃dw,res G S (d0.act t) n st=some (dw,0))∧(res G S (d1.act t) n st=none∨∃dw,res G S (d1.act t) n st=some (dw,0)):=by
 refine k.on (P:=λst=>res G S (d0.act t) n st=res G S (d1.act t) n st∨(∃dw,res G S (d0.act t) n st=some (dw,0))∧(res G S (d1.act t) n st=none∨∃dw,res G S (d1.act t) n st=some (dw,0)))
  (HB h la (f0.act h la z) (f1.act h la z) z (λq s e n0=>?_) (λq s e n0 n1=>?_) n)
 ·have z0:=(f0.1 q s e).1.1 rfl
  rw[f0.val e z,z0,sr]at n0
  rw[f1.val e z,f0.val e z,sr,sr]
  by_cases c:(sH G m q s).getD t 0= -1048576
  ·rw[if_pos c,if_pos c]
  ·rw[if_neg c]at n0 ⊢;rw[if_neg c]
   by_cases c0:(sH G m q s).getD t 0=0
   ·rw[if_pos c0]at n0;exact(n0 rfl).elim
   ·rw[if_neg c0,if_neg c0]
 ·refine(h.rw la e).3 t z (hO λc0=>?_)
  have c:¬(sH G m q s).getD t 0= -1048576:=λc=>n1 ((f1.val e z).trans (if_pos c))
  exact c0 ((if_neg c0).symm.trans ((if_neg c).symm.trans ((f0.val e z).symm.trans n0)))
theorem hK.wt (h:bN H u g G A LS SA S) (la:nv G S m) (f0:hK false G S m d0) (f1:hK true G S m d1) (z:t<5) (k:jr S st):FH G S (d0.act t) st=FH G S (d1.act t) st:=by
 unfold FH
 refine(hK.two (n:=30) h la f0 f1 z k).elim (λe=>by rw[e]) λw=>w.1.elim λs0 e0=>w.2.elim (λe1=>?_) λw=>w.elim λs1 e1=>?_
 ·rw[e0,e1];rfl
 ·rw[e0,e1];rfl
theorem hK.ex (h:bN H u g G A LS SA S) (la:nv G S m) (f0:hK false G S m d0) (f1:hK true G S m d1) (k:jr S st):(List.range 5).filter (FI G S d0 st)=(List.range 5).filter (FI G S d1 st):=
 List.filter_congr λt ht=>by unfold FI;rw[f0.wt h la f1 (a_.1 ht) k]
end
section
variable {H H1:Hp} {sc sy k n many:Nat} {l:List Int} {R:Prop} {L:Lc}
theorem ub {a:Int} {n:Nat} (h:0<n):∃v:Nat,v<n∧a.fmod n=v:=by
 have a0:=Int.fmod_nonneg_of_pos a (fK.2 h)
 have a1:=Int.fmod_lt_of_pos a (fK.2 h)
 exact⟨(a.fmod n).toNat,by omega,by omega⟩
theorem I7 (h:H[sc]?=some (.ro l)) (k9:k<1000) (m0:0<many) (q:∀v H',v<many->JR 6 [.ref sc,.int k,.int many] H (.int (v:Nat)) H'->Ext H H'->R):R:=by
 refine dc 6 [.ref sc,.int k,.int many] H rfl rfl (L:=[some (.ref sc),some (.int k),some (.int many)]) rfl λQ q'=>?_
 have T:=JT.b9 (H:=H) (L:=[some (.ref sc),some (.int k),some (.int many)]) (a:=.var 1) (b:=.len (.var 0)) (.var rfl) (.len (.var rfl) (.ro h)) (.lt _ _)
 have mz:(many:Int)≠0:=by omega
 by_cases c:k<l.length
 ·rw[decide_eq_true (bz.2 c)]at T
  obtain⟨v,lt,e⟩:=ub (a:=l[k]) m0
  refine .then T (.ret (.bin (.intOf (.idx (.var rfl) (.var rfl) (.ro h (dW c) (ao c)))) (.var rfl) (.mod _ _ _ mz)) (q' λj=>q v H lt ?_ .r))
  rw[←e];exact j
 ·rw[decide_eq_false λw=>c (bz.1 w)]at T
  refine .pass T (IC (n:=40) (L:=[some (.ref sc),some (.int k),some (.int many)]) (.var (i:=0) rfl) .lit (.ro h) (ic _ rfl) λa H2 j f g e=>?_)
  obtain⟨v,lt,ev⟩:=ub (a:=((k:Int)*(k+1)).fdiv 2+(l.take 40).sum) m0
  refine .ret (.bin (.bin (.bin (.bin (.var rfl) (.bin (.var rfl) .lit (.add _ _ _)) (.mul _ _ _ (by omega) (by omega))) .lit (.fdiv _ _ _ (by decide) (by decide))) (.sum j g) (.add _ _ _)) (.var rfl) (.mod _ _ _ mz)) (q' λj=>q v H2 lt ?_ e)
  rw[←ev];exact j
theorem rT (x0:L[0]?=some (some (.ref sc))) (h:H[sc]?=some (.ro l)) (k9:k<1000) (m0:0<many) {ke:CE} (xk:JE ke L H (.int k) H) (q:∀v H',v<many->JE (.call 6 (.cons (.var 0) (.cons ke (.cons (.lit (.int many)) .nil)))) L H (.int (v:Nat)) H'->Ext H H'->R):R:=
 I7 h k9 m0 λv H' lt j e=>q v H' lt (.call (.av (.var x0) (.av xk (.av .lit .bm))) j) e
theorem HI {syms:List Nat} (h:H[sc]?=some (.ro l)) (hs:H[sy]?=some (.list (vn syms))) (s0:0<syms.length) (s9:syms.length≤9) (k9:k<100) (n9:n≤9)
  (q:∀r H',JR 21 [.ref sc,.int k,.int n,.ref sy] H (.tup (vn r)) H'->Ext H H'->r.length=n->(∀x∈r,x∈syms)->R):R:=by
 refine dc 21 [.ref sc,.int k,.int n,.ref sy] H rfl rfl (L:=[some (.ref sc),some (.int k),some (.int n),some (.ref sy)]) rfl λQ q'=>?_
 have zl:(di ((List.range n).map Int.ofNat)).length≤SZ:=by rw[dP,ae,aT];exact lM (by omega)
 refine rM (elt:=.idx (.var 0) (.call 6 (.cons (.var 1) (.cons (.bin .add (.var 2) (.var 3)) (.cons (.len (.var 0)) .nil))))) (ifs:=.nil) (L:=[some (.ref sy),some (.ref sc),some (.int k)]) (H:=H) (g:=.none) (xs:=di ((List.range n).map Int.ofNat))
  (λi ys H'=>Ext H H'∧∃r:List Nat,ys=vn r∧r.length=i∧∀x∈r,x∈syms) ⟨.r,[],rfl,rfl,nofun⟩ (λ_=>trivial) ?_ zl ?_ ?_
 ·rintro i ys H' ⟨_,r,rfl,rfl,_⟩;rw[aW];exact aC _
 ·rintro i y ys H' hy ⟨e,r,rfl,rfl,mr⟩
  have hn:r.length<n:=by
   have:=(ah.1 hy).1
   rwa[dP,ae,aT]at this
  have ey:y= .int (r.length:Nat):=by
   rw[di,aK,aK,dE hn]at hy;exact(ay hy).symm
  subst ey
  refine I7 (H:=H') (k:=k+r.length) (many:=syms.length) (e _ _ h) (by omega) s0 λv H2 lt j e2=>?_
  have ln:=JE.len (H:=H') (L:=[some (.ref sy),some (.ref sc),some (.int k)]++[some (.int (r.length:Nat))]) (.var (i:=0) rfl) (.list (e _ _ hs) (by rw[aW];exact lM (by omega)))
  rw[aW]at ln
  exact .yes .lw trivial (.idx (.var rfl) (.call (.av (.var rfl) (.av (.bin (.var rfl) (.var rfl) (.add _ _ _)) (.av ln .bm))) j) (.nat (e2 _ _ (e _ _ hs)) (cR (ao lt)))) ⟨e.trans e2,r++[syms[v]],(ox _ _).symm,aq,λx hx=>by
   rcases aE.1 hx with w|w
   ·exact mr x w
   ·rw[ak.1 w];exact hH lt⟩
 ·rintro ys H' j ⟨e,r,rfl,er,mr⟩
  rw[dP,ae,aT]at er
  refine kh (L:=[some (.ref sc),some (.int k),some (.int n),some (.ref sy)]) (caps:=[3,0,1]) rfl (.yH (.var (i:=2) rfl) (lM (by omega))) rfl j (by rw[aW];exact lM (by omega)) λa H2 j2 f2 g2 e2=>.ret (.tupleOf j2 g2 (by rw[aW];exact lM (by omega))) (q' λj=>q r H2 j (e.trans e2) er mr)
theorem sJ {syms:List Nat} {le:CE} {se:mw} {H2:Hp} (x0:L[0]?=some (some (.ref sc))) (h:H1[sc]?=some (.ro l)) (jl:JE le L H (.int n) H1) (js:vJ se L H1 (vn syms) H1) (s0:0<syms.length) (s9:syms.length≤9) (k9:k<100) (n9:n≤9)
  (q:∀r H',JE (.call 21 (.cons (.var 0) (.cons (.lit (.int k)) (.cons le (.cons (.list se) .nil))))) L H (.tup (vn r)) H'->Ext H1 H'->r.length=n->(∀x∈r,x∈syms)->R):R:=
 jM js (by rw[aW];exact lM (by omega)) λsy H2 j2 f2 g2 e2=>HI (e2 _ _ h) g2 s0 s9 k9 n9 λr H' j e er mr=>q r H' (.call (.av (.var x0) (.av .lit (.av jl (.av j2 .bm)))) j) (e2.trans e) er mr
noncomputable def pV (p:Nat×List Nat):V:=.tup [.int p.1,.tup (vn p.2)]
inductive KU (r1 r2 r3 r4:List Nat):Prop
 |mk (l1:0<r1.length∧r1.length≤3) (l2:r2.length≤3) (l3:r3.length≤2) (l4:r4.length≤3) (m1:∀x∈r1,x∈[7,3,4]) (m2:∀x∈r2,x∈[6,7,3,4]) (m3:∀x∈r3,x∈[3,4]) (m4:∀x∈r4,x∈[6,7,3,4])
theorem ints4 {a b c d:Nat}:vJ (.cons (.lit (.int a)) (.cons (.lit (.int b)) (.cons (.lit (.int c)) (.cons (.lit (.int d)) .nil)))) L H (vn [a,b,c,d]) H:=.av .lit (.av .lit (.av .lit (.av .lit .bm)))
theorem E8 (h:H[sc]?=some (.ro l)) (q:∀P r1 r2 r3 r4 H',JR 22 [.ref sc] H (.ref P) H'->H'[P]?=some (.list ([(6,r1),(6,r2),(7,r3),(7,r4)].map pV))->Ext H H'->KU r1 r2 r3 r4->R):R:=by
 refine dc 22 [.ref sc] H rfl rfl (L:=[some (.ref sc),none]) rfl λQ q'=>?_
 refine rT (H:=H) (k:=5) (many:=3) (L:=[some (.ref sc),none]) rfl h (by decide) (by decide) .lit λv1 H1 lt1 j1 e1=>?_
 refine sJ (H:=H) (H1:=H1) (H2:=H1) (L:=[some (.ref sc),none]) (k:=6) (n:=1+v1) (syms:=[7,3,4]) (se:=.cons (.lit (.int 7)) (.cons (.lit (.int 3)) (.cons (.lit (.int 4)) .nil))) rfl (e1 _ _ h) (.bin .lit j1 (.add 1 v1 _)) (.av .lit (.av .lit (.av .lit .bm))) (by decide) (by decide) (by decide) (by omega) λr1 H2 j2 e2 er1 mr1=>?_
 have HJ:=e1.trans e2
 refine jM (.av (.tup (.av (.lit (v:=.int 6)) (.av j2 .bm)) (ic _ rfl)) .bm) (ic _ rfl) λP H3 j3 f3 g3 e3=>.set j3 ?_
 have LA:=HJ.trans e3
 refine rT (H:=H3) (k:=9) (many:=4) (L:=[some (.ref sc),some (.ref P)]) rfl (LA _ _ h) (by decide) (by decide) .lit λv2 H4 lt2 j4 e4=>?_
 refine sJ (H:=H3) (H1:=H4) (H2:=H4) (L:=[some (.ref sc),some (.ref P)]) (k:=10) (n:=v2) (syms:=[6,7,3,4]) rfl (e4 _ _ (LA _ _ h)) j4 ints4 (by decide) (by decide) (by decide) (by omega) λr2 H5 j5 e5 er2 mr2=>?_
 have fP:=HJ.none f3
 have g5:=e5 _ _ (e4 _ _ g3)
 refine .expr (.append (.var rfl) (.tup (.av .lit (.av j5 .bm)) (ic _ rfl)) ⟨_,g3⟩ g5 (sf (d5 rfl))) ?_
 have e6:=(LA.trans (e4.trans e5)).set (o:=.list ([pV (6,r1)]++[pV (6,r2)])) fP
 have g6:=dq (p:=.list ([pV (6,r1)]++[pV (6,r2)])) g5
 generalize hH6:H5.set P (.list ([pV (6,r1)]++[pV (6,r2)]))=H6 at e6 g6
 rw[show H5.set P (.list ([V.tup [.int 6,.tup (vn r1)]]++[.tup [.int 6,.tup (vn r2)]]))=H6 from hH6]
 refine rT (H:=H6) (k:=2) (many:=3) (L:=[some (.ref sc),some (.ref P)]) rfl (e6 _ _ h) (by decide) (by decide) .lit λv3 H7 lt3 j7 e7=>?_
 refine sJ (H:=H6) (H1:=H7) (H2:=H7) (L:=[some (.ref sc),some (.ref P)]) (k:=3) (n:=v3) (syms:=[3,4]) (se:=.cons (.lit (.int 3)) (.cons (.lit (.int 4)) .nil)) rfl (e7 _ _ (e6 _ _ h)) j7 (.av .lit (.av .lit .bm)) (by decide) (by decide) (by decide) (by omega) λr3 H8 j8 e8 er3 mr3=>?_
 have g8:=e8 _ _ (e7 _ _ g6)
 refine .expr (.append (.var rfl) (.tup (.av .lit (.av j8 .bm)) (ic _ rfl)) ⟨_,g6⟩ g8 (sf (d5 rfl))) ?_
 have e9:=(e6.trans (e7.trans e8)).set (o:=.list (([pV (6,r1)]++[pV (6,r2)])++[pV (7,r3)])) fP
 have g9:=dq (p:=.list (([pV (6,r1)]++[pV (6,r2)])++[pV (7,r3)])) g8
 generalize hH9:H8.set P (.list (([pV (6,r1)]++[pV (6,r2)])++[pV (7,r3)]))=H9 at e9 g9
 rw[show H8.set P (.list (([pV (6,r1)]++[pV (6,r2)])++[V.tup [.int 7,.tup (vn r3)]]))=H9 from hH9]
 refine rT (H:=H9) (k:=13) (many:=4) (L:=[some (.ref sc),some (.ref P)]) rfl (e9 _ _ h) (by decide) (by decide) .lit λv4 Az Qh Qi LD=>?_
 refine sJ (H:=H9) (H1:=Az) (H2:=Az) (L:=[some (.ref sc),some (.ref P)]) (k:=14) (n:=v4) (syms:=[6,7,3,4]) rfl (LD _ _ (e9 _ _ h)) Qi ints4 (by decide) (by decide) (by decide) (by omega) λr4 KC P3 NA er4 mr4=>?_
 have Oy:=NA _ _ (LD _ _ g9)
 refine .expr (.append (.var rfl) (.tup (.av .lit (.av P3 .bm)) (ic _ rfl)) ⟨_,g9⟩ Oy (sf (d5 rfl))) ?_
 have HJ:=(e9.trans (LD.trans NA)).set (o:=.list ((([pV (6,r1)]++[pV (6,r2)])++[pV (7,r3)])++[pV (7,r4)])) fP
 exact .ret (.var rfl) (q' λj=>q P r1 r2 r3 r4 _ j (dq (p:=.list ((([pV (6,r1)]++[pV (6,r2)])++[pV (7,r3)])++[pV (7,r4)])) Oy) HJ ⟨by omega,by omega,by omega,by omega,mr1,mr2,mr3,mr4⟩)
end
section
open Dg (lO)
variable {H H0 H' H1:Hp} {R:Prop} {L:Lc}
theorem Ow.oth {b:Nat} {o:O} {l:List (Nat×O)} (h:Ow H1 H l) (f:H1[b]?=none) (n:∀p∈l,p.1≠b):Ow H1 (H.set b o) l:=⟨h.1.set f,λp m=>⟨(h.2 p m).1,eK (h.2 p m).2 (n p m)⟩,h.3⟩
theorem qG {a n:Nat} {x:Ru} {vs:List V} (hk:(decide (vs.length≤8)&&decide (8≤vs.length+4))=true) (hs:rL.start vs=[some (.ref a),some (.int n),some (.int x.left),some (.tup (vn x.right)),some (.int x.lvl),some .none,some (.int 0),some (.int 0)]) (fa:H[a]?=none) (e:Ext H H') (ha:H'[a]?=some (.inst 5 []))
  (k:∀H2,JR 45 vs H' .none H2->Ow H H2 [(a,B7 n x)]->R):R:=by
 have w0:Ow H H' [(a,.inst 5 [])]:=Ow.new ⟨.r,nofun,.nil⟩ fa ha e
 refine dc 45 vs H' rfl hk hs λQ q'=>?_
 exact .own (.var rfl) rfl w0 rfl rfl λH1 w1 _=>.own (.var rfl) rfl w1 rfl rfl λH2 w2 _=>.own (.var rfl) rfl w2 rfl rfl λH3 w3 _=>.own (.var rfl) rfl w3 rfl rfl λH4 w4 _=>.own (.var rfl) rfl w4 rfl rfl λH5 w5 _=>.own (.var rfl) rfl w5 rfl rfl λH6 w6 _=>.own (.var rfl) rfl w6 rfl rfl λH7 w7 _=>.nil (q' λj=>k H7 j w7)
noncomputable def aJ.uE (G:aJ) (n:Nat):List Nat:=(List.range n).flatMap λr=>List.replicate ((G.rules[r]?.map (·.right.length)).getD 0+1) r
noncomputable def aJ.E9 (G:aJ) (n s:Nat):List Nat:=(List.range n).filter λr=>(G.rules[r]?.map (·.left))==some s
theorem E_ (G:aJ) (n:Nat):(G.uE n).length=((List.range n).map λx=>((G.rules[x]?.map (·.right.length)).getD 0)+1).sum:=by
 rw[aJ.uE,jO];congr 1
 exact cW λr _=>bZ
theorem BR (G:aJ) {n:Nat} {x:Ru} (e:G.rules[n]?=some x):G.uE (n+1)=G.uE n++List.replicate (x.right.length+1) n:=by
 rw[aJ.uE,bK,cH,cx,cV,aO,e];rfl
theorem Fb (G:aJ) {n:Nat} {x:Ru} (e:G.rules[n]?=some x) (s:Nat):G.E9 (n+1) s=if s=x.left then G.E9 n x.left++[n]else G.E9 n s:=by
 rw[aJ.E9,bK,cS]
 by_cases c:s=x.left
 ·rw[if_pos c,cK (by rw[e,c];exact beq_self_eq_true _),dG,c];rfl
 ·rw[if_neg c,c9 (by rw[e];exact λk=>c (ay (beq_iff_eq.1 k)).symm),dG,aO];rfl
noncomputable def gF (nm RL LV BL OF OW:Nat):List (Nat×V):=[(47,.ref nm),(29,.int 5),(5,.ref RL),(15,.ref LV),(48,.none),(49,.int 6),(39,.ref BL),(37,.ref OF),(36,.ref OW)]
theorem BT {gr nm RL LV BL OF OW:Nat} {rs:List (Nat×Ru)} {bs:List Nat} {levels:List (Int×V)} {Q:Fl->Lc->Hp->Prop} {r:i6} {G:aJ} (eG:G.rules=rs.map (·.2)) (r5:rs.length=5) (l8:∀p∈rs,p.2.left<8) (rl:∀p∈rs,p.2.right.length≤3) (NJ:H[RL]?=some (jC rs)) (hr:∀(i:Nat) p,rs[i]?=some p->H[p.1]?=some (B7 i p.2))
  (w:Ow H H1 [(gr,.inst 4 (gF nm RL LV BL OF OW)),(BL,.list (bs.map .ref)),(OF,lO []),(OW,lO [])]) (b8:bs.length=8) (nd:bs.Nodup) (fb:∀b∈bs,H[b]?=none∧b∉[gr,BL,OF,OW]) (rw0:Rows H1 bs λ_=>[])
  (k:∀x7 H',Ow H H' [(gr,.inst 4 (gF nm RL LV BL OF OW)),(BL,.list (bs.map .ref)),(OF,lO G.GR),(OW,lO G.own)]->Rows H' bs G.gx->cB r [some (.ref gr),some (.ref nm),some (.int 5),some (.ref RL),some (.ref LV),some .none,some (.int 6),x7] H' Q):
  cB (.cons (.for (.v 7) (.ex (.attr (.var 0) 5)) (.cons (.expr (.append (.idx (.attr (.var 0) 39) (.attr (.var 7) 8)) (.attr (.var 7) 7))) (.cons (.expr (.append (.attr (.var 0) 37) (.len (.attr (.var 0) 36)))) (.cons (.expr (.extend (.attr (.var 0) 36) (.bin .mul (.list (.cons (.attr (.var 7) 7) .nil)) (.bin .add (.len (.attr (.var 7) 6)) (.lit (.int 1)))))) .nil)))) r)
   [some (.ref gr),some (.ref nm),some (.int 5),some (.ref RL),some (.ref LV),some .none,some (.int 6),none] H1 Q:=by
 have gl:G.rules.length=5:=by rw[eG,ae,r5]
 refine .sg (λ_ (x7:Option V)=>[some (.ref gr),some (.ref nm),some (.int 5),some (.ref RL),some (.ref LV),some .none,some (.int 6),x7])
  (λn _ H'=>Ow H H' [(gr,.inst 4 (gF nm RL LV BL OF OW)),(BL,.list (bs.map .ref)),(OF,lO ((List.range n).map G.off)),(OW,lO (G.uE n))]∧Rows H' bs (G.E9 n)) none
  (.pF (.attr (.var rfl) (w.at_ 0 rfl) rfl rfl) (.list (w.1 _ _ NJ)) (by rw[ae,ae,r5];exact ic _ rfl)) ⟨w,rw0⟩ (λh=>h.1.1 _ _ NJ) ?_ ?_
 ·intro n b x7 H2 K hb h2 cq _
  obtain⟨w2,NK⟩:=h2
  rw[aK,bq]at hb
  obtain⟨⟨b',x⟩,hp,eb⟩:=hb
  have eb:b'=b:=eb
  subst eb
  have mp:=am hp
  have n5:n<5:=r5▸(ah.1 hp).1
  have ex:G.rules[n]?=some x:=by rw[eG,aK,hp];rfl
  have ho:=hr n _ hp
  have l8:x.left<8:=l8 _ mp
  have PW:x.right.length≤3:=rl _ mp
  have ec:=ao (b8.symm▸l8:x.left<bs.length)
  generalize bs[x.left]'(b8.symm▸l8)=c at ec
  obtain⟨fc,nc⟩:=fb c (am ec)
  have gc:=NK _ _ ec
  have bl:(G.E9 n x.left).length≤5:=by
   have:=bp (λr=>(G.rules[r]?.map (·.left))==some x.left) (List.range n)
   rw[aT]at this;exact aj this (aI n5)
  refine .expr (.append (.idx (.attr (.var rfl) (w2.at_ 0 rfl) rfl rfl) (.attr (.var rfl) (w2.1 _ _ ho) rfl rfl) (.nat (w2.at_ 1 rfl) (dB ec))) (.attr (.var rfl) (w2.1 _ _ ho) rfl rfl) ⟨_,gc⟩ gc (by rw[aW];exact sf (by omega))) ?_
  rw[←ox]
  have w3:=w2.oth (o:=.list (vn (G.E9 n x.left++[n]))) fc λp m e=>nc (e▸aA.2 ⟨p,m,rfl⟩)
  have Qj:=NK.set nd ec (G.E9 n x.left++[n])
  rw[show(λt=>if t=x.left then G.E9 n x.left++[n]else G.E9 n t)=G.E9 (n+1) from funext λt=>(Fb G ex t).symm]at Qj
  generalize H2.set c _=H3 at w3 Qj
  have ol:(G.uE n).length≤20:=by
   have:=qt (k:=4) (List.range n) (f:=λr=>List.replicate ((G.rules[r]?.map (·.right.length)).getD 0+1) r) λr hr=>by
    rw[bZ]
    cases e:G.rules[r]? with
    |none=>show 0+1≤4;decide
    |some y=>
     rw[eG]at e
     obtain⟨p,mp,rfl⟩:=aA.1 (am e)
     exact aM (rl p mp)
   rw[aT]at this;exact aj this (by omega)
  have off:G.off n=(G.uE n).length:=by rw[E_,aJ.vN G n (by omega)]
  have ln:=JE.len (H:=H3) (L:=[some (.ref gr),some (.ref nm),some (.int 5),some (.ref RL),some (.ref LV),some .none,some (.int 6),some (.ref b')]) (.attr (f:=36) (.var (i:=0) rfl) (w3.at_ 0 rfl) rfl rfl) (.list (w3.at_ 3 rfl) (by rw[aW];exact lM (by omega)))
  rw[aW,←off]at ln
  have g2:=w3.at_ 2 rfl
  refine .expr (.append (.attr (.var rfl) (w3.at_ 0 rfl) rfl rfl) ln ⟨_,g2⟩ g2 (by rw[aW,ae,aT];exact sf (by omega))) ?_
  rw[←ox,show(List.range n).map G.off++[G.off n]=(List.range (n+1)).map G.off by rw[bK,az];rfl]
  have w4:=Ow.set [_,_] w3 (lO ((List.range (n+1)).map G.off))
  have rw4:=Qj.ne (a:=OF) (o:=lO ((List.range (n+1)).map G.off)) λm=>(fb OF m).2 (by simp)
  change cB _ _ (H3.set OF (lO ((List.range (n+1)).map G.off))) K
  generalize H3.set OF (lO ((List.range (n+1)).map G.off))=H4 at w4 rw4
  have ho4:=w4.1 _ _ ho
  refine jM (L:=[some (.ref gr),some (.ref nm),some (.int 5),some (.ref RL),some (.ref LV),some .none,some (.int 6),some (.ref b')]) (.av (.attr (f:=7) (.var (i:=7) rfl) ho4 rfl rfl) .bm) (ic _ rfl) λB H5 j5 f5 g5 e5=>?_
  have ad:JE (.bin .add (.len (.attr (.var 7) 6)) (.lit (.int 1))) [some (.ref gr),some (.ref nm),some (.int 5),some (.ref RL),some (.ref LV),some .none,some (.int 6),some (.ref b')] H5 (.int ((x.right.length+1:Nat):Int)) H5:=by
   have:=JE.len (H:=H5) (L:=[some (.ref gr),some (.ref nm),some (.int 5),some (.ref RL),some (.ref LV),some .none,some (.int 6),some (.ref b')]) (.attr (f:=6) (.var (i:=7) rfl) (e5 _ _ ho4) rfl rfl) (.tup (l:=vn x.right) (by rw[aW];exact lM (by omega)))
   rw[aW]at this
   exact .bin this .lit (.add _ _ _)
  have Qk:=w4.at_ 3 rfl
  refine GP j5 ad g5 (lM (by omega)) λC H6 j6 f6 g6 e6=>.expr (.extend (.attr (.var rfl) (w4.at_ 0 rfl) rfl rfl) j6 ⟨_,Qk⟩ (e6 _ _ (e5 _ _ Qk)) g6 (e_ f6 (e5 _ _ Qk)) (by rw[aW,bZ];exact sf (by omega))) (.nil (cq (some (.ref b')) rfl ⟨?_,?_⟩))
  ·have eq:O.list (vn (G.uE n)++List.replicate (x.right.length+1) (.int n))=lO (G.uE (n+1)):=by rw[lO,BR G ex,vn,vn,az,kD]
   rw[eq];exact Ow.set [_,_,_] ((w4.ext e5).ext e6) _
  ·exact Rows.ne (λs b e=>e6 _ _ (e5 _ _ (rw4 s b e))) λm=>(fb OW m).2 (by simp)
 ·intro x7 H2 h2
  obtain⟨w2,NK⟩:=h2
  rw[ae,r5]at w2 NK
  refine k x7 H2 ?_ ?_
  ·rw[aJ.GR,aJ.own,gl];exact w2
  ·intro s b e
   have:=NK s b e
   rw[aJ.gx,gl];exact this
end
section
open Dg (lO)
variable {H H0 H' H1:Hp} {R:Prop} {L:Lc}
noncomputable def OH (gr nm RL LV:Nat):Lc:=[some (.ref gr),some (.ref nm),some (.int 5),some (.ref RL),some (.ref LV),some .none,some (.int 6),none]
theorem wg {gr nm RL LV:Nat} {rs:List (Nat×Ru)} {ns:List Nat} {levels:List (Int×V)} (Ql:H[nm]?=some (.list (ns.map .str))) (n8:ns.length=8) (NJ:H[RL]?=some (jC rs)) (hr:∀(i:Nat) p,rs[i]?=some p->H[p.1]?=some (B7 i p.2))
  (gLV:H[LV]?=some (.bj levels)) (ok:(⟨rs.map (·.2),levels⟩:aJ).Ok) (fg:H[gr]?=none) (e:Ext H H') (hg:H'[gr]?=some (.inst 4 []))
  (q:∀A H2,JR 44 [.ref gr,.ref nm,.int 5,.ref RL,.ref LV,.none,.int 6] H' .none H2->Ext H H2->cg H2 gr ⟨rs.map (·.2),levels⟩ A->R):R:=by
 have w0:Ow H H' [(gr,.inst 4 [])]:=Ow.new ⟨.r,nofun,.nil⟩ fg hg e
 have r5:rs.length=5:=by have:=ok.1;rwa[ae]at this
 refine dc 44 [.ref gr,.ref nm,.int 5,.ref RL,.ref LV,.none,.int 6] H' rfl rfl (L:=OH gr nm RL LV) rfl λQ q'=>?_
 refine .own (.var rfl) rfl w0 rfl rfl λH1 w1 _=>.own (.var rfl) rfl w1 rfl rfl λH2 w2 _=>.own (.var rfl) rfl w2 rfl rfl λH3 w3 _=>.own (.var rfl) rfl w3 rfl rfl λH4 w4 _=>.own (.var rfl) rfl w4 rfl rfl λH5 w5 _=>.own (.var rfl) rfl w5 rfl rfl λH6 w6 _=>?_
 have zn:(ns.map V.str).length≤SZ:=by rw[ae,n8];exact ic _ rfl
 refine qp (L:=[]) (w6.1 _ _ Ql) zn λbs H7 j7 l7 nd7 b7 e7=>?_
 have b8:bs.length=8:=by rw[l7,ae,n8]
 refine kh (L:=OH gr nm RL LV) (caps:=[]) rfl (.pF (.attr (f:=47) (.var (i:=0) rfl) (w6.at_ 0 rfl) rfl rfl) (.list (w6.1 _ _ Ql)) zn) rfl j7 (by rw[ae,b8];exact ic _ rfl) λBL H8 j8 f8 g8 e8=>?_
 refine .own j8 rfl (Ow.ins [_] (B:=[]) (w6.ext e7) f8 g8 e8) rfl rfl λH9 w9 x9=>hS (H:=H9) (L:=OH gr nm RL LV) λOF Az Qi f10 g10 LD=>?_
 refine .own Qi rfl (Ow.ins [_,_] (B:=[]) w9 f10 g10 LD) rfl rfl λKC IZ fJ=>hS (H:=KC) (L:=OH gr nm RL LV) λOW H12 j12 f12 g12 HJ=>?_
 refine .own j12 rfl (Ow.ins [_,_,_] (B:=[]) IZ f12 g12 HJ) rfl rfl λP4 P5 x13=>?_
 have ng:∀b∈bs,b≠gr:=λb m k=>by have:=(b7 b m).2;rw[k,w6.at_ 0 rfl]at this;cases this
 have st8:∀b∈bs,H8[b]?=some (.list []):=λb m=>e8 _ _ (b7 b m).1
 have Oh:∀b∈bs,H9[b]?=some (.list []):=λb m=>x9 _ _ (vQ (ng b m)) (st8 b m)
 have Qm:∀b∈bs,Az[b]?=some (.list []):=λb m=>LD _ _ (Oh b m)
 have NL:∀b∈bs,KC[b]?=some (.list []):=λb m=>fJ _ _ (vQ (ng b m)) (Qm b m)
 have Qn:∀b∈bs,P4[b]?=some (.list []):=λb m=>x13 _ _ (vQ (ng b m)) (HJ _ _ (NL b m))
 refine BT (G:=⟨rs.map (·.2),levels⟩) (BL:=BL) (OF:=OF) (OW:=OW) (levels:=levels) rfl r5 (λp m=>?_) (λp m=>?_) NJ hr P5 b8 nd7 (λb m=>⟨w6.1.none (b7 b m).2,λk=>?_⟩) (λs b k=>Qn b (am k)) λx7 H14 Qo Qp=>?_
 ·obtain⟨i,hi⟩:=aP m
  have:=ok.2 i p.2 (by show(rs.map (·.2))[i]?=_;rw[aK,hi];rfl)
  rw[this];split<;>(try split)<;>omega
 ·obtain⟨i,hi⟩:=aP m
  exact ok.3 i p.2 (by show(rs.map (·.2))[i]?=_;rw[aK,hi];rfl)
 ·simp only[aH,aR,or_false]at k
  rcases k with k|k|k|k
  ·exact ng b m k
  ·exact e_ f8 (b7 b m).1 k
  ·exact e_ f10 (Oh b m) k
  ·exact e_ f12 (NL b m) k
 ·have ol:(aJ.own ⟨rs.map (·.2),levels⟩).length≤20:=by
   have:=qt (k:=4) (List.range rs.length) (f:=λr=>List.replicate (((rs.map (·.2))[r]?.map (·.right.length)).getD 0+1) r) λr hr=>by
    rw[bZ]
    cases e:(rs.map (·.2))[r]? with
    |none=>show 0+1≤4;decide
    |some y=>exact aM (ok.3 r y e)
   rw[aT,r5]at this
   rw[aJ.own];show((List.range (rs.map (·.2)).length).flatMap _).length≤20
   rw[ae,r5];exact this
  have ln:=JE.len (H:=H14) (L:=[some (.ref gr),some (.ref nm),some (.int 5),some (.ref RL),some (.ref LV),some .none,some (.int 6),x7]) (.attr (f:=36) (.var (i:=0) rfl) (Qo.at_ 0 rfl) rfl rfl) (.list (Qo.at_ 3 rfl) (by rw[aW];exact lM (by omega)))
  rw[aW]at ln
  refine .own ln rfl Qo rfl rfl λH15 HK x15=>.nil (q' λj=>q ⟨nm,RL,LV,BL,OF,OW,rs.map (λp:Nat×Ru=>p.1),bs,ns⟩ H15 j HK.1 ⟨HK.at_ 0 rfl,HK.1 _ _ NJ,by rw[ae,ae],λi a k=>?_,HK.at_ 1 rfl,b8,λs b k=>x15 _ _ (vQ (ng b (am k))) (Qp s b k),HK.at_ 2 rfl,HK.at_ 3 rfl,HK.1 _ _ gLV,HK.1 _ _ Ql,n8,ok⟩)
  rw[aK,bq]at k
  obtain⟨p,hp,rfl⟩:=k
  exact⟨p.2,by show(rs.map (·.2))[i]?=_;rw[aK,hp];rfl,HK.1 _ _ (hr i p hp)⟩
end
section
variable {H H0 H' H1:Hp} {R:Prop} {L:Lc} {sc:Nat} {sl:List Int} {r1 r2 r3 r4:List Nat}
theorem Fc {κ:Type} [DecidableEq κ] {k:κ} {v:V} {d:List (κ×V)} {p:κ×V} (h:p∈dput k v d):p=(k,v)∨p∈d:=by
 unfold dput at h
 split at h
 ·obtain⟨q,m,e⟩:=aA.1 h
  by_cases c:q.1=k
  ·rw[if_pos c]at e;exact .inl (e▸c▸rfl)
  ·rw[if_neg c]at e;exact .inr (e▸m)
 ·exact(aE.1 h).symm.imp ak.1 id
theorem HL {rules:List Ru} {levels:List (Int×V)} (e:rules.map (λx=>(x.left,x.right))=[(5,[6,0]),(6,r1),(6,r2),(7,r3),(7,r4)]) (pr:KU r1 r2 r3 r4) (lv:∀x∈rules, -1≤x.lvl∧x.lvl<5)
  (uU:∀(k:Int) (v:V),(k,v)∈levels->∃(a:Nat) (b:Nat),v= .tup [.int a,.str b]∧b<4):aJ.Ok ⟨rules,levels⟩:=by
 have at_:∀(r:Nat) (x:Ru),rules[r]?=some x->([(5,[6,0]),(6,r1),(6,r2),(7,r3),(7,r4)]:List (Nat×List Nat))[r]?=some (x.left,x.right):=λr x h=>by rw[←e,aK,h];rfl
 have l5:rules.length=5:=by have:=congrArg List.length e;rwa[ae]at this
 refine⟨l5,λr x h=>?_,λr x h=>?_,?_,λr x h z s m=>?_,λx h=>?_,λx h=>?_,λx h=>?_,λr x h=>lv x (am h),uU⟩
 ·obtain⟨xl,xr,xv⟩:=x
  have:=at_ r _ h
  match r with
  |0|1|2|3|4=>cases this;rfl
  |n+5=>cases this
 ·obtain⟨xl,xr,xv⟩:=x
  have:=at_ r _ h
  match r with
  |0=>cases this;exact(by decide:2≤3)
  |1=>cases this;exact pr.1.2
  |2=>cases this;exact pr.2
  |3=>cases this;exact cQ pr.3
  |4=>cases this;exact pr.4
  |n+5=>cases this
 ·have h0:=ao (l:=rules) (i:=0) (by omega)
  have:=at_ 0 _ h0
  show rules[0]?.map _=_
  rw[h0];exact congrArg some (congrArg Prod.snd (ay this)).symm
 ·obtain⟨xl,xr,xv⟩:=x
  have:=at_ r _ h
  match r with
  |0=>cases z
  |1=>cases this;have:=pr.5 s m;simp only[aH,aR,or_false]at this;omega
  |2=>cases this;have:=pr.6 s m;simp only[aH,aR,or_false]at this;omega
  |3=>cases this;have:=pr.7 s m;simp only[aH,aR,or_false]at this;omega
  |4=>cases this;have:=pr.8 s m;simp only[aH,aR,or_false]at this;omega
  |n+5=>cases this
 ·obtain⟨xl,xr,xv⟩:=x
  cases at_ 1 _ h
  have l1:=pr.1.1
  show ∃s l,xr=s::l∧s≠6
  cases er:xr with
  |nil=>rw[er]at l1;cases l1
  |cons s l=>
   refine⟨s,l,rfl,?_⟩
   have:=pr.5 s (er▸aQ ..)
   simp only[aH,aR,or_false]at this;omega
 ·obtain⟨xl,xr,xv⟩:=x
  cases at_ 3 _ h
  intro s m
  have:=pr.7 s m
  simp only[aH,aR,or_false]at this;exact this
 ·obtain⟨xl,xr,xv⟩:=x
  cases at_ 3 _ h;exact pr.3
theorem Fd {M:Nat} {ms:List Int} (x5:L[5]?=some (some (.ref M))) (gM:H[M]?=some (.list (di ms))) (hm:∀v∈ms, -1≤v∧v<5)
  (q:∀lvl H',JE (.ite (.cmp .ne (.var 5) (.list .nil)) (.idx (.var 5) (.neg (.lit (.int 1)))) (.neg (.lit (.int 1)))) L H (.int lvl) H'->Ext H H'-> -1≤lvl∧lvl<5->R):R:=
 hS (H:=H) (L:=L) λB H2 j2 f2 g2 e2=>by
  have T:=JT.b9 (.var x5) j2 (.ne (.il (r:=[]) (e2 _ _ gM) g2))
  rcases nH ms with rfl|⟨l,v,rfl⟩
  ·exact q (-1) H2 (.ite T (.neg .lit)) e2 (by decide)
  ·have:(!((l.concat v)==[]))=true:=by rw[fS];cases l<;>rfl
   rw[this]at T
   have g:=e2 _ _ gM
   rw[fS,di,az]at g
   exact q v H2 (.ite T (.idx (.var x5) (.neg .lit) (.last g))) e2 (hm v (by rw[fS];exact aB _ (ak.2 rfl)))
structure GS where
 rs:List (Nat×Ru)
 X:List (Nat×O)
 x3:Option V
 x4:Option V
 x5:Option V
inductive HM (ps:List (Nat×List Nat)) (n:Nat) (f:GS):Prop
 |mk (rl:f.rs.length=n+1) (rm:∀(i:Nat) p,f.rs[i]?=some p->(p.1,B7 i p.2)∈f.X) (e:f.rs.map (λp=>(p.2.left,p.2.right))=(5,[6,0])::ps.take n) (lv:∀p∈f.rs, -1≤p.2.lvl∧p.2.lvl<5)
noncomputable def GL (sc P RL:Nat) (x3 x4 x5 x6 x7 x8 x9:Option V):Lc:=[some (.ref sc),some (.ref P),some (.ref RL),x3,x4,x5,x6,x7,x8,x9]
theorem BU {P RL n:Nat} {ps:List (Nat×List Nat)} {f:GS} {p:Nat×List Nat} {K:Fl->Lc->Hp->Prop} (n9:n<4) (hp:ps[n]?=some p) (l9:p.2.length≤9) (w:Ow H H1 ((RL,jC f.rs)::f.X)) (i:HM ps n f)
  (k:∀(f':GS) H',Ow H H' ((RL,jC f'.rs)::f'.X)->HM ps (n+1) f'->K .next (GL sc P RL f'.x3 f'.x4 f'.x5 none none none none) H'):
  cB (.cons (.set (.v 5) (.comp [] (.var 0) (.ex (.var 4)) (.cons (.cmp .lt (.var 0) (.lit (.int 5))) .nil))) (.cons (.expr (.append (.var 2) (.new 5 (.cons (.len (.var 2)) (.cons (.var 3) (.cons (.var 4) (.cons (.ite (.cmp .ne (.var 5) (.list .nil)) (.idx (.var 5) (.neg (.lit (.int 1)))) (.neg (.lit (.int 1)))) .nil))))))) .nil))
   (GL sc P RL (some (.int p.1)) (some (.tup (vn p.2))) f.x5 none none none none) H1 K:=by
 refine lW (L:=GL sc P RL (some (.int p.1)) (some (.tup (vn p.2))) f.x5 none none none none) (L1:=[]) (caps:=[]) (elt:=.var 0) (ifs:=.cons (.cmp .lt (.var 0) (.lit (.int 5))) .nil) (it:=.ex (.var 4)) (gd:=.none) (p.2.map Int.ofNat) (λv=>decide (v<5)) id rfl
  (.pF (.var rfl) (by rw[←iE];exact .tup) (by rw[dP,ae];exact lM (by omega))) rfl trivial (by rw[ae];omega) (λv _=>?_) (λv _ _=>.var rfl) λM H2 j2 f2 g2 e2=>.set j2 ?_
 ·have X:=JT.b9 (H:=H1) (L:=[some (V.int v)]) (.var (i:=0) rfl) .lit (.lt v 5)
  cases c:decide (v<5)with
  |true=>rw[c]at X;exact .at X .lw
  |false=>rw[c]at X;exact .af X
 have w2:=w.ext e2
 have rl:=i.1
 refine Fd (L:=GL sc P RL (some (.int p.1)) (some (.tup (vn p.2))) (some (.ref M)) none none none none) rfl g2 (λv hv=>?_) λlvl H3 j3 e3 lz=>?_
 ·rw[gH]at hv
  obtain⟨a,b⟩:=bB.1 hv
  obtain⟨x,_,rfl⟩:=aA.1 a
  have:=of_decide_eq_true b
  exact⟨by simp only[Int.ofNat_eq_natCast];omega,this⟩
 have w3:=w2.ext e3
 have ln:=JE.len (H:=H2) (L:=GL sc P RL (some (.int p.1)) (some (.tup (vn p.2))) (some (.ref M)) none none none none) (.var (i:=2) rfl) (.list (w2.at_ 0 rfl) (by rw[ae,ae];exact lM (by omega)))
 rw[ae,ae]at ln
 refine new_ (c:=5) (.av ln (.av (.var (i:=3) rfl) (.av (.var (i:=4) rfl) (.av j3 .bm)))) rfl λa H4 fa ga ea nw=>qG (n:=f.rs.length) (x:=⟨p.1,p.2,lvl⟩) (vs:=[.ref a,.int f.rs.length,.int p.1,.tup (vn p.2),.int lvl]) rfl rfl fa ea ga λH5 j5 w5=>?_
 have g0:=w2.at_ 0 rfl
 have w6:=w3.join w5
 refine .expr (.append (.var rfl) (nw j5) ⟨_,g0⟩ (w6.at_ 0 rfl) (by rw[ae,ae];exact sf (by omega))) (.nil ?_)
 rw[oS (x:=(⟨p.1,p.2,lvl⟩:Ru))]
 refine k ⟨f.rs++[(a,⟨p.1,p.2,lvl⟩)],f.X++[(a,B7 f.rs.length ⟨p.1,p.2,lvl⟩)],some (.int p.1),some (.tup (vn p.2)),some (.ref M)⟩ _ (Ow.set [] w6 _) ⟨by rw[aq,rl];rfl,λj x hx=>?_,?_,λx hx=>?_⟩
 ·rcases a9 j f.rs.length with z|z
  ·rw[aG z]at hx
   exact aY _ (i.2 j x hx)
  ·have:j=f.rs.length:=by
    have:=(ah.1 hx).1
    rw[aq]at this;exact bR (bE this) z
   subst this
   rw[aX z,ez]at hx
   cases hx;exact aB _ (ak.2 rfl)
 ·show(f.rs++[_]).map _=_
  rw[az,i.3,aV,hp];rfl
 ·rcases aE.1 hx with z|z
  ·exact i.4 x z
  ·rw[ak.1 z];exact lz
end
section
variable {H H0 H' H1:Hp} {R:Prop} {L:Lc} {sc:Nat} {sl:List Int} {r1 r2 r3 r4:List Nat}
noncomputable def KV (levels:List (Int×V)):Prop:=∀(k:Int) (v:V),(k,v)∈levels->∃(a:Nat) (b:Nat),v= .tup [.int a,.str b]∧b<4
theorem NM {v:Nat} (h:v<4):([.str 0,.str 1,.str 2,.str 3]:List V)[v]?=some (.str v):=by
 match v with
 |0|1|2|3=>rfl
 |n+4=>exact absurd h (by omega)
theorem xP {P RL LV:Nat} {x3 x4 x5:Option V} {B:List (Nat×O)} {Q:Fl->Lc->Hp->Prop} {r:i6} (hs:H[sc]?=some (.ro sl)) (w:Ow H H1 ((LV,.bj [])::B))
  (k:∀x7 x8 lv H',Ow H H' ((LV,.bj lv)::B)->KV lv->cB r (GL sc P RL x3 x4 x5 (some (.ref LV)) x7 x8 none) H' Q):
  cB (.cons (.for (.v 7) (.ex (.tup (.cons (.lit (.int 3)) (.cons (.lit (.int 4)) .nil)))) (.cons (.set (.v 8) (.call 6 (.cons (.var 0) (.cons (.bin .add (.lit (.int 24)) (.var 7)) (.cons (.lit (.int 3)) .nil))))) (.cons (.ite (.cmp .gt (.var 8) (.lit (.int 0))) (.cons (.br (.var 6) (.var 7) (.tup (.cons (.var 8) (.cons (.idx (.tup (.cons (.lit (.str 0)) (.cons (.lit (.str 1)) (.cons (.lit (.str 2)) (.cons (.lit (.str 3)) .nil))))) (.call 6 (.cons (.var 0) (.cons (.bin .add (.lit (.int 28)) (.var 8)) (.cons (.lit (.int 4)) .nil))))) .nil)))) .nil) .nil) .nil))) r)
   (GL sc P RL x3 x4 x5 (some (.ref LV)) none none none) H1 Q:=by
 refine .jW (l:=[3,4]) (g:=.none) (H1:=H1) (λ_ (s:Option V×Option V×List (Int×V))=>GL sc P RL x3 x4 x5 (some (.ref LV)) s.1 s.2.1 none) (λn s H'=>Ow H H' ((LV,.bj s.2.2)::B)∧KV s.2.2∧s.2.2.length≤n) (none,none,[])
  (.pF (.tup (.av .lit (.av .lit .bm)) (ic _ rfl)) .tup (ic _ rfl)) ⟨w,nofun,aC _⟩ (λ_=>trivial) ?_ ?_
 ·intro n y s H2 K hy h2 cq _
  obtain⟨x7,x8,lv⟩:=s
  obtain⟨w2,lo,ll⟩:=h2
  have w2:Ow H H2 ((LV,.bj lv)::B):=w2
  have lo:KV lv:=lo
  have ll:lv.length≤n:=ll
  have n2:n<2:=(ah.1 hy).1
  have y9:y<9:=by
   have:=am hy
   simp only[aH,aR,or_false]at this;omega
  refine rT (H:=H2) (k:=24+y) (many:=3) (L:=GL sc P RL x3 x4 x5 (some (.ref LV)) (some (.int y)) x8 none) rfl (w2.1 _ _ hs) (by omega) (by decide) (ke:=.bin .add (.lit (.int 24)) (.var 7)) (.bin .lit (.var rfl) (.add _ _ _)) λv H3 lt j3 e3=>.set j3 ?_
  have w3:=w2.ext e3
  have T:=JT.b9 (H:=H3) (L:=GL sc P RL x3 x4 x5 (some (.ref LV)) (some (.int y)) (some (.int v)) none) (.var (i:=8) rfl) .lit (.gt _ 0)
  by_cases c:(0:Int)<v
  ·rw[decide_eq_true c]at T
   refine rT (H:=H3) (k:=28+v) (many:=4) (L:=GL sc P RL x3 x4 x5 (some (.ref LV)) (some (.int y)) (some (.int v)) none) rfl (w3.1 _ _ hs) (by omega) (by decide) (ke:=.bin .add (.lit (.int 28)) (.var 8)) (.bin .lit (.var rfl) (.add _ _ _)) λb H4 Qh j4 e4=>?_
   have w4:=w3.ext e4
   refine .then T (.br (.tup (.av (.var rfl) (.av (.idx (.tup (.av .lit (.av .lit (.av .lit (.av .lit .bm)))) (ic _ rfl)) j4 (.DW (NM Qh) (ic _ rfl))) .bm)) (ic _ rfl)) (.var rfl) (.var rfl) (.bj (w4.at_ 0 rfl) (sf (by omega))) (.nil (.nil (cq (some (.int y),some (.int v),dput (y:Int) (.tup [.int v,.str b]) lv) rfl ⟨Ow.set [] w4 _,λk' v' m=>?_,aj (tP ..) (aM ll)⟩))))
   rcases Fc m with e|m
   ·cases e;exact⟨v,b,rfl,Qh⟩
   ·exact lo k' v' m
  ·rw[decide_eq_false c]at T
   exact .pass T (.nil (cq (some (.int y),some (.int v),lv) rfl ⟨w3,lo,cQ ll⟩))
 ·intro s H2 h2
  exact k _ _ _ H2 h2.1 h2.2.1
theorem xQ {P:Nat} (hs:H[sc]?=some (.ro sl)) (hP:H[P]?=some (.list ([(6,r1),(6,r2),(7,r3),(7,r4)].map pV))) (pr:KU r1 r2 r3 r4)
  (q:∀gr G A H',JR 7 [.ref sc,.ref P] H (.ref gr) H'->Ext H H'->cg H' gr G A->R):R:=by
 refine dc 7 [.ref sc,.ref P] H rfl rfl (L:=GL sc P 0 none none none none none none none|>.set 2 none) rfl λQ q'=>?_
 have ev0:vJ (.cons (.lit (.int 0)) (.cons (.lit (.int 5)) (.cons (.tup (.cons (.lit (.int 6)) (.cons (.lit (.int 0)) .nil))) .nil))) (GL sc P 0 none none none none none none none|>.set 2 none) H [.int 0,.int 5,.tup (vn [6,0])] H:=.av .lit (.av .lit (.av (.tup (.av .lit (.av .lit .bm)) (ic _ rfl)) .bm))
 refine new_ (c:=5) ev0 rfl λa0 H1 f1 g1 e1 nw=>qG (n:=0) (x:=⟨5,[6,0], -1⟩) (vs:=[.ref a0,.int 0,.int 5,.tup (vn [6,0])]) rfl rfl f1 e1 g1 λH2 j2 w2=>?_
 refine jM (.av (nw j2) .bm) (ic _ rfl) λRL H3 j3 f3 g3 e3=>.set j3 ?_
 have w3:Ow H H3 ((RL,jC [(a0,(⟨5,[6,0], -1⟩:Ru))])::[(a0,B7 0 ⟨5,[6,0], -1⟩)]):=Ow.new w2 f3 g3 e3
 refine .DU (k:=3) (m:=4) (λ_ (f:GS)=>GL sc P RL f.x3 f.x4 f.x5 none none none none) (λn f H'=>Ow H H' ((RL,jC f.rs)::f.X)∧HM [(6,r1),(6,r2),(7,r3),(7,r4)] n f) ⟨[(a0,⟨5,[6,0], -1⟩)],[(a0,B7 0 ⟨5,[6,0], -1⟩)],none,none,none⟩
  (.pF (.var rfl) (.list (w3.1 _ _ hP)) (ic _ rfl)) ⟨w3,rfl,λi p hp=>?_,rfl,λp hp=>?_⟩ (λh=>h.1.1 _ _ hP) ?_ ?_
 ·cases i with
  |zero=>cases hp;exact ak.2 rfl
  |succ i=>cases hp
 ·rw[ak.1 hp];exact(by decide:(-1:Int)≤ -1∧(-1:Int)<5)
 ·intro n y f H4 K hy h4 cq _
  rw[aK,bq]at hy
  obtain⟨p,hp,rfl⟩:=hy
  have n4:n<4:=(ah.1 hp).1
  refine⟨_,_,rfl,BU n4 hp ?_ h4.1 h4.2 λf' H5 w5 i5=>cq f' rfl ⟨w5,i5⟩⟩
  have l1:=pr.1.2
  have l2:=pr.2
  have l3:=pr.3
  have l4:=pr.4
  match n with
  |0|1|2|3=>cases hp;dsimp only;omega
  |n+4=>cases hp
 ·intro f H4 h4
  obtain⟨w4,i4⟩:=h4
  have i4:HM [(6,r1),(6,r2),(7,r3),(7,r4)] 4 f:=i4
  refine lS (n:=0) (H:=H4) (L:=GL sc P RL f.x3 f.x4 f.x5 none none none none) λLV H5 j5 f5 g5 e5=>.set j5 (xP hs (Ow.new w4 f5 g5 e5) λx7 x8 lv H6 w6 lo=>?_)
  refine jM (H:=H6) (L:=GL sc P RL f.x3 f.x4 f.x5 (some (.ref LV)) x7 x8 none) (vs:=[4,5,6,7,8,9,10,11].map V.str) (.av .lit (.av .lit (.av .lit (.av .lit (.av .lit (.av .lit (.av .lit (.av .lit .bm)))))))) (ic _ rfl) λnm H7 j7 f7 g7 e7=>.set j7 ?_
  have w7:=w6.ext e7
  refine new_ (c:=4) (H:=H7) (L:=GL sc P RL f.x3 f.x4 f.x5 (some (.ref LV)) x7 x8 (some (.ref nm))) (.av (.var (i:=9) rfl) (.av (.lit (v:=.int 5)) (.av (.var (i:=2) rfl) (.av (.var (i:=6) rfl) (.av (.lit (v:=.none)) (.av (.lit (v:=.int 6)) .bm)))))) rfl λgr H8 f8 g8 e8 nw=>?_
  have ok:aJ.Ok ⟨f.rs.map (·.2),lv⟩:=HL (by rw[bJ];exact i4.3) pr (λx hx=>by obtain⟨p,mp,rfl⟩:=aA.1 hx;exact i4.4 p mp) lo
  exact wg (ns:=[4,5,6,7,8,9,10,11]) g7 rfl (w7.at_ 1 rfl) (λi p hp=>(w7.2 _ (aL _ (aL _ (i4.2 i p hp)))).2) (w7.at_ 0 rfl) ok f8 e8 g8 λA H9 j9 e9 hG=>.ret (nw j9) (q' λj=>q gr _ A H9 j (w7.1.trans e9) hG)
end
section
variable {H H0 H' H1:Hp} {u g LS T X q t n:Nat} {G:aJ} {A:GA} {SA:List Nat} {S:List cT} {a a0 a1:TA} {d d0 d1:TD} {R:Prop} {st:List Nat} {L:Lc} {b:Nat->Int}
theorem HN (r:Nat) (st:List Nat):(FF G S r st).length≤st.length+1:=by
 have key:∀l:List Nat,(List.casesOn (motive:=λ_=>List Nat) l [] λp dw=>(Ly S p (G.left r)).getD 0::p::dw).length≤l.length+1:=λl=>by
  cases l with
  |nil=>exact bw _
  |cons=>exact aC _
 exact aj (key _) (aM (aj (aD g_) (ky ..)))
theorem HO (n:Nat):∀st dw v,res G S b n st=some (dw,v)->dw.length≤st.length+n:=by
 induction n with
 |zero=>exact λ_ _ _ e=>c7 rfl e
 |succ n ih=>
  intro st dw v e
  by_cases c:0≤b (st.headD 0)
  ·have e1:some (st,b (st.headD 0))=some (dw,v):=(if_pos c).symm.trans e
   exact aj (aD (congrArg (λy:List Nat×Int=>y.1.length) (ay e1)).symm) (bx ..)
  ·exact aj (ih _ _ _ ((if_neg c).symm.trans e)) (aj (dM (HN ..) n) (aD (dJ ..)))
theorem BV (l:List Nat) (n:Nat):lj (vn l) n=true:=by
 induction l with
 |nil=>rfl
 |cons a l ih=>exact ih
theorem xR (l:List jx):lj (l.map jx.told) 8=true:=by
 induction l with
 |nil=>rfl
 |cons c l ih=>
  show(c.told.plain 8&&lj (l.map jx.told) 8)=true
  rw[ih,Bool.and_true]
  show(lj (vn c.rules) 6&&true)=true
  rw[BV];rfl
theorem u7 {c k:Nat} {ca:List (Nat×jx)} (xk:L[k]?=some (some (.ref c))) (gc:H[c]?=some (jC ca)) (cd:∀p∈ca,H[p.1]?=some p.2.o) (z:ca.length≤SZ)
  (q:∀W H2,JE (.comp [] (.bA (.var 0) 30 71 .nil) (.ex (.var k)) .nil) L H (.ref W) H2->H[W]?=none->H2[W]?=some (.list ((ca.map (·.2)).map jx.told))->Ext H H2->R):R:=by
 have zl:((ca.map (·.1)).map V.ref).length≤SZ:=by rw[ae,ae];exact z
 refine rM (elt:=.bA (.var 0) 30 71 .nil) (ifs:=.nil) (L:=[]) (H:=H) (g:=.list c ((ca.map (·.1)).map .ref)) (xs:=(ca.map (·.1)).map .ref) (λn ys H'=>C2 (H'=H) (ys=((ca.take n).map (·.2)).map jx.told)) ⟨rfl,rfl⟩ (λh=>h.1▸gc) (λh=>by rw[h.2,ae,ae];exact ib _ _) zl (λn y ys H' hy h=>?_) λ{ys H'} j h=>?_
 ·refine(kj hy).elim λb w=>(kj w.1).elim λp v=>?_
  have ho:=h.1▸cd p (am v.1)
  rw[w.2,v.2]
  exact .yes .lw (h.1▸gc) (.bA (.var rfl) ho rfl rfl .bm (HC ho)) ⟨h.1,by rw[h.2,aV,v.1,az,az];rfl⟩
 ·have w:=h.2
  rw[ae,ae,aN]at w
  rw[w,h.1]at j
  exact kh (it:=.ex (.var k)) (L:=L) (caps:=[]) rfl (.pF (.var xk) (.list gc) zl) rfl j (by rw[ae,ae];exact z) q
theorem Fe (h0:TabAt H T g G n a0 d0) (h1:TabAt H X g G n a1 d1) (e:∀q<n,d0.FG.getD q []=d1.FG.getD q []):cN H .ne (.ref a0.go) (.ref a1.go) false:=
 .Ct h0.5 h1.5 ⟨by rw[ae,ae,h0.6,h1.6],λi x y hx hy=>(kj hx).elim λa ha=>(kj hy).elim λb hb=>by
  have key:nd vI (d0.FG.getD i [])=((d0.FG.getD i []).map λp=>((p.1:Int),(p.2:Int))).map λp=>(p.1,V.int p.2):=by rw[bJ];rfl
  have g1:=h0.7 i a ha.1
  have g2:=h1.7 i b hb.1
  rw[←e i (h1.6▸(ah.1 hb.1).1),key]at g2
  rw[key]at g1
  exact⟨a,b,_,ha.2,hb.2,g1,g2⟩⟩
theorem zv (h:bN H u g G A LS SA S) (hT:uB H T g G S a d) (hX:H[X]?=some (rD st)) (k:jr S st) (sl:st.length≤500) (x3:L[3]?=some (some (.ref T))) (x7:L[7]?=some (some (.ref X)))
  (q:∀W l H2,JE (.comp [3,7] (.var 2) (.ex (.tup (.cons (.lit (.int 0)) (.cons (.lit (.int 3)) (.cons (.lit (.int 4)) .nil))))) (.cons (.call 24 (.cons (.var 0) (.cons (.var 1) (.cons (.var 2) (.cons (.lit (.int 30)) .nil))))) .nil)) L H (.ref W) H2->H2[W]?=some (.list (vn l))->Ext H H2->l.length≤3->(∀x∈l,x∈[0,3,4])->R):R:=by
 refine rM (elt:=.var 2) (ifs:=.cons (.call 24 (.cons (.var 0) (.cons (.var 1) (.cons (.var 2) (.cons (.lit (.int 30)) .nil))))) .nil) (L:=[some (.ref T),some (.ref X)]) (H:=H) (g:=.none) (xs:=vn [0,3,4]) (λn ys H'=>C2 (Ext H H') (∃l:List Nat,C3 (ys=vn l) (l.length≤n) (∀x∈l,x∈[0,3,4]))) ⟨.r,[],rfl,aC _,qo⟩ (λ_=>trivial) (λh=>h.2.elim λl w=>by rw[w.1,aW];exact w.2) (ic _ rfl) (λn y ys H' hy h=>h.2.elim λl w=>(DX hy).elim λt ht=>?_) λ{ys H'} j h=>h.2.elim λl w=>?_
 ·have mt:=am ht.1
  have e:=h.1
  have t5:t<5:=(by decide:∀t∈[0,3,4],t<5) t mt
  refine xK (H:=H') (‹bN H u g G A LS SA S›.ext e) (hT.ext e) (e _ _ hX) k sl t5 λH2 j e2=>?_
  have T1:=JT.iu (L:=[some (.ref T),some (.ref X)]++[some (.int t)]) (e:=.call 24 (.cons (.var 0) (.cons (.var 1) (.cons (.var 2) (.cons (.lit (.int 30)) .nil))))) (.call (.av (.var rfl) (.av (.var rfl) (.av (.var rfl) (.av .lit .bm)))) j) (.bool _) rfl
  rw[ht.2]
  by_cases c:FH G S (d.act t) st=true
  ·exact .yes (.at (T1.to c) .lw) trivial (.var rfl) ⟨e.trans e2,l++[t],by rw[w.1];exact(ox _ _).symm,by rw[aq];exact aM w.2,λx hx=>(aE.1 hx).elim (w.3 x) λm=>ak.1 m▸mt⟩
  ·exact .no (.af (T1.to (dN.2 c))) ⟨e.trans e2,l,w.1,cQ w.2,w.3⟩
 ·rw[w.1]at j
  refine kh (L:=L) (caps:=[3,7]) (by rw[bS,bS,x3,x7];rfl) (.pF (.tup (.av .lit (.av .lit (.av .lit .bm))) (ic _ rfl)) .tup (ic _ rfl)) rfl j (by rw[aW];exact aj w.2 (ic 3 rfl)) λW H2 j2 f2 g2 e2=>q W l H2 j2 g2 (h.1.trans e2) w.2 w.3
end
section
variable {H H0 H' H1:Hp} {u g LS M T0 T1 X q t n sc:Nat} {G:aJ} {A:GA} {SA:List Nat} {S:List cT} {a0 a1:TA} {d0 d1:TD} {R:Prop} {st:List Nat} {L:Lc} {sl:List Int} {m:Nat->Nat->Nat}
noncomputable def LL (sc u M T0 T1:Nat) (x5 x6:Option V) (X:Nat) (x8 x9 gO fJ fX:Option V):Lc:=[some (.ref sc),some (.ref u),some (.ref M),some (.ref T0),some (.ref T1),x5,x6,some (.ref X),x8,x9,gO,fJ,fX]
theorem HP {W v:Nat} {l:List Nat} (x9:L[9]?=some (some (.ref W))) (gO:L[10]?=some (some (.int v))) (gW:H[W]?=some (.list (vn l))) (ll:l.length≤3) (ml:∀x∈l,x∈[0,3,4])
  (q:∀C l H2,JE (.ite (.and (.cons (.cmp .gt (.bin .mod (.var 10) (.lit (.int 3))) (.lit (.int 0))) (.cons (.cmp .ne (.var 9) (.list .nil)) .nil))) (.var 9) (.list (.cons (.lit (.int 3)) (.cons (.lit (.int 4)) (.cons (.lit (.int 0)) (.cons (.lit (.int 2)) .nil)))))) L H (.ref C) H2->H2[C]?=some (.list (vn l))->Ext H H2->0<l.length->l.length≤4->(∀x∈l,x<5)->R):R:=by
 have T:=λb (c:cN H .gt (.int ((v:Int).fmod 3)) (.int 0) b)=>JT.b9 (L:=L) (.bin (.var gO) .lit (.mod (v:Int) 3 _ (by decide))) .lit c
 have other:∀{H2},JT (.and (.cons (.cmp .gt (.bin .mod (.var 10) (.lit (.int 3))) (.lit (.int 0))) (.cons (.cmp .ne (.var 9) (.list .nil)) .nil))) L H false H2->Ext H H2->R:=λ{H2} T e=>jM (H:=H2) (L:=L) ints4 (ic _ rfl) λC H3 j f g e3=>q C [3,4,0,2] H3 (.ite T j) g (e.trans e3) (by decide) (by decide) (by decide)
 by_cases c:0<(v:Int).fmod 3
 ·refine hS (H:=H) (L:=L) λB H2 j2 f2 g2 e2=>?_
  have T2:=JT.b9 (.var x9) j2 (.ne (.il (r:=[]) (e2 _ _ (gW.trans (by rw[iE]))) g2))
  by_cases z:l=[]
  ·exact other (.iD (.at (T _ (.to (.gt _ 0) (decide_eq_true c))) (.af (T2.to (by rw[z];rfl))))) e2
  ·exact q W l H2 (.ite (.iD (.at (T _ (.to (.gt _ 0) (decide_eq_true c))) (.at (T2.to (congrArg (!·) (beq_eq_false_iff_ne.2 λk=>z (pq.1 k)))) .lw))) (.var x9)) (e2 _ _ gW) e2 (List.length_pos_iff.2 z) (cQ ll) λy hy=>(by decide:∀t∈[0,3,4],t<5) y (ml y hy)
 ·exact other (.iD (.af (T _ (.to (.gt _ 0) (decide_eq_false c))))) .r
theorem wi {s:List Nat} {w:Int}:uC s++[V.int w]=di (s.reverse.map Int.ofNat++[w]):=by rw[wc,iE,di,di,az];rfl
theorem FJ.z {s:List Nat} {Ha Hb:Hp} {v:V} (p:FJ Ha Hb v (some (s,0))):v= .none:=p.elim (·.2) λk=>(Int.lt_irrefl _ k.1).elim
theorem BW {H2:Hp} {v1 v2:V} {x y:Option (List Nat×Int)} (HJ:Ext H1 H2) (p1:FJ H H1 v1 x) (p2:FJ H1 H2 v2 y) (h:x=y∨(∃s,x=some (s,0))∧(y=none∨∃s,y=some (s,0)))
  (k1:cN H2 .ne v1 v2 false->(v1= .str 16∨v1= .none)->R) (k2:cN H2 .ne v1 v2 false->∀s w c,x=some (s,w)->0<w->v1= .ref c->H2[c]?=some (.list (uC s++[.int w]))->R) (k3:v1= .none->v2= .str 16->R):R:=by
 have nn:v1= .none->v2= .none->R:=λe f=>k1 (by rw[e,f];exact .ne .none) (.inr e)
 refine h.elim (λe=>?_) λw=>w.1.elim λs e=>w.2.elim (λf=>k3 (FJ.z (e▸p1)) (show FJ H1 H2 v2 none from f▸p2)) λw=>w.elim λs2 f=>nn (FJ.z (e▸p1)) (FJ.z (f▸p2))
 have p2:FJ H1 H2 v2 x:=e▸p2
 cases x with
 |none=>exact k1 (by rw[show v1= .str 16 from p1,show v2= .str 16 from p2];exact .ne (.str 16 16)) (.inl p1)
 |some y=>
  exact p1.elim (λw=>nn w.2 (p2.elim (·.2) λk=>(mU k.1 w.1).elim)) λw=>w.2.elim λc w1=>p2.elim (λk=>(mU w.1 k.1).elim) λk=>k.2.elim λc2 w2=>by
   have g1:=HJ _ _ w1.2.2
   exact k2 (by rw[w1.1,w2.1];exact(cN.ne (.il (g1.trans (by rw[wi])) (w2.2.2.trans (by rw[wi])))).to (by rw[beq_self_eq_true];rfl)) y.1 y.2 c rfl w.1 w1.1 g1
theorem HQ {v C X k:Nat} {x5 x6 x9 fX:Option V} {l:List Nat} (gC:H[C]?=some (.list (vn l))) (l0:0<l.length) (l4:l.length≤4)
  (q:∀t∈l,JE (.idx (.var 11) (.bin .mod (.bin .fdiv (.var 10) (.lit (.int 3))) (.len (.var 11)))) (LL sc u M T0 T1 x5 x6 X (some (.int k)) x9 (some (.int v)) (some (.ref C)) fX) H (.int t) H->R):R:=(ub (a:=(v:Int).fdiv 3) l0).elim λy w=>by
 have ln:=(JE.len (H:=H) (L:=LL sc u M T0 T1 x5 x6 X (some (.int k)) x9 (some (.int v)) (some (.ref C)) fX) (.var (i:=11) rfl) (.list gC (by rw[aW];exact aj l4 (by decide)))).to (by rw[aW])
 exact q _ (hH w.1) (.idx (.var rfl) ((JE.bin (.bin (.var rfl) .lit (.fdiv _ _ _ (by decide) (by decide))) ln (.mod _ _ _ λe=>du l0 (a8.1 e))).to (congrArg V.int w.2)) (.nat gC (cR (ao w.1))))
theorem Ff {k:Nat} {x9 gO fJ:Option V} {v2:V} {c:Nat} {w:Int} {s:List Nat} {K:Ps} (h:bN H u g G A LS SA S) (hb:Act S t (d0.act t)) (gc:H1[c]?=some (.list (uC s++[.int w]))) (w0:0<w) (ks:jr S st) (ex:res G S (d0.act t) 60 st=some (s,w))
  (ne:cN H1 .ne (.ref c) v2 false) (kn:∀dw,H1[c]?=some (rD dw)->jr S dw->dw.length≤st.length+61->K .next (LL sc u M T0 T1 (some (.ref c)) (some v2) c (some (.int k)) x9 gO fJ (some (.int t))) H1) (kr:∀L' H',Ext H1 H'->K (.ret (.bool true)) L' H'):
  cB (((bo 27).at 6).in.dr 6) (LL sc u M T0 T1 (some (.ref c)) (some v2) X (some (.int k)) x9 gO fJ (some (.int t))) H1 K:=by
 have T3:=λb (z:cN H1 .eq (.int w) (.int 1048576) b)=>JT.b9 (L:=LL sc u M T0 T1 (some (.ref c)) (some v2) X (some (.int k)) x9 gO fJ (some (.int t))) (.idx (.var (i:=5) rfl) (.neg (.lit (v:=.int 1))) (.last gc)) .lit z
 have T:=λb (z:JO (.cons (.cmp .eq (.idx (.var 5) (.neg (.lit (.int 1)))) (.lit (.int 1048576))) .nil) (LL sc u M T0 T1 (some (.ref c)) (some v2) X (some (.int k)) x9 gO fJ (some (.int t))) H1 b H1)=>
  JT.xX (.of (.b9 (.var (i:=5) rfl) (.lit (v:=.none)) (.Jf c)) (.of (.b9 (.var (i:=5) rfl) (.lit (v:=.str 16)) (.eq (.list_str 16 (gc.trans (by rw[wi]))))) z))
 refine .pass (.iD (.af (.b9 (.var rfl) (.var rfl) ne))) ?_
 by_cases wa:w=1048576
 ·exact .then (T _ (.ot (T3 _ (.to (.eq (.int w 1048576)) (beq_iff_eq.2 wa))))) (.ret .lit (kr _ _ .r))
 ·refine .pass (T _ (.of (T3 _ (.to (.eq (.int w 1048576)) (beq_eq_false_iff_ne.2 wa))) .wZ)) (.set (.var rfl) (.nil (ks.on (P:=λst=>res G S (d0.act t) 60 st=some (s,w)->st.length+61≤_->_) (λq0 lD k0 ex len=>?_) ex (aC _))))
  refine u2 h hb 60 _ _ _ _ k0 ex λq s0 es k2 ew _ _=>(k2.top h).elim λs' e'=>(hb q s' e').elim (λz=>absurd (ew.trans z) (mU w0)) λz=>z.elim (λz=>z.elim λx z=>?_) λz=>z.elim λr z=>?_
  ·have wx:w=(x:Nat):=ew.trans (z.2.trans (if_neg λtz=>wa (ew.trans (z.2.trans (if_pos tz)))))
   exact kn (x::s) (gc.trans (congrArg (λw:Int=>some (O.list (uC s++[.int w]))) wx)) (es▸k2.push z.1) (aj (aM (HO _ _ _ _ ex)) len)
  ·exact absurd (ew.trans z.2▸w0) (fy.2 (lL (aS r)))
theorem Fg {k:Nat} {x5 x6 x9 gO fJ fX:Option V} {K:Fl->Lc->Hp->Prop} (hs:H[sc]?=some (.ro sl)) (h:bN H u g G A LS SA S) (la:nv G S m) (f0:hK false G S m d0) (f1:hK true G S m d1) (h0:TabAt H T0 g G S.length a0 d0) (h1:TabAt H T1 g G S.length a1 d1)
  (k6:k<6) (e:Ext H H1) (gX:H1[X]?=some (rD st)) (ks:jr S st) (sz:st.length≤1+61*k)
  (kn:∀x5 x6 X x9 gO fJ fX st H',Ext H H'->H'[X]?=some (rD st)->jr S st->st.length≤1+61*(k+1)->K .next (LL sc u M T0 T1 x5 x6 X (some (.int k)) x9 gO fJ fX) H') (kr:∀L' H',Ext H H'->K (.ret (.bool true)) L' H'):
  cB ((bo 27).at 6).in (LL sc u M T0 T1 x5 x6 X (some (.int k)) x9 gO fJ fX) H1 K:=by
 have NN:st.length≤500:=aj sz (aj (bP (bF 61 (aI k6)) 1) (by decide))
 have t0:=f0.tab h la h0
 have t1:=f1.tab h la h1
 refine rS (h.ext e) (t0.ext e) gX ks NN λF H2 j2 _ g2 e2=>rS (h.ext (e.trans e2)) (t1.ext (e.trans e2)) (e2 _ _ gX) ks NN λF' H3 j3 _ g3 e3=>?_
 have gg:=e3 _ _ g2
 rw[f0.ex h la f1 ks,iE]at gg
 rw[iE]at g3
 have OI:=(e.trans e2).trans e3
 refine .pass ((JT.b9 (L:=LL sc u M T0 T1 x5 x6 X (some (.int k)) x9 gO fJ fX) (.call (.av (.var (i:=3) rfl) (.av (.var (i:=7) rfl) (.av .lit .bm))) j2) (.call (.av (.var (i:=4) rfl) (.av (.var (i:=7) rfl) (.av .lit .bm))) j3) (.ne (.il gg g3))).to (by rw[beq_self_eq_true];rfl))
  (zv (L:=LL sc u M T0 T1 x5 x6 X (some (.int k)) x9 gO fJ fX) (h.ext OI) (t0.ext OI) (e3 _ _ (e2 _ _ gX)) ks NN rfl rfl λW l H4 j4 g4 e4 ll ml=>.set j4 ?_)
 refine rT (H:=H4) (k:=18+k) (many:=12) (L:=LL sc u M T0 T1 x5 x6 X (some (.int k)) (some (.ref W)) gO fJ fX) rfl ((OI.trans e4) _ _ hs) (bH (jP k6 18) (by decide)) (by decide) (ke:=.bin .add (.lit (.int 18)) (.var 8)) (.bin .lit (.var rfl) (.add _ _ _)) λv H5 lt j5 e5=>.set j5 ?_
 refine HP (L:=LL sc u M T0 T1 x5 x6 X (some (.int k)) (some (.ref W)) (some (.int v)) fJ fX) (H:=H5) (v:=v) rfl rfl (e5 _ _ g4) ll ml λC l2 H6 j6 g6 e6 l0 l4 m5=>.set j6 (HQ g6 l0 l4 λt mt jt=>.set jt ?_)
 have NO:=(OI.trans e4).trans (e5.trans e6)
 have gX6:=e6 _ _ (e5 _ _ (e4 _ _ (e3 _ _ (e2 _ _ gX))))
 have t5:=m5 t mt
 refine u5 (h.ext NO) (t0.ext NO) gX6 ks NN t5 λv1 H7 j7 e7 p1=>u5 (h.ext (NO.trans e7)) (t1.ext (NO.trans e7)) (e7 _ _ gX6) ks NN t5 λv2 H8 j8 e8 p2=>?_
 have NP:=(NO.trans e7).trans e8
 refine .J2 (.tup (.av (.call (.av (.var rfl) (.av (.var rfl) (.av (.var rfl) .bm))) j7) (.av (.call (.av (.var rfl) (.av (.var rfl) (.av (.var rfl) .bm))) j8) .bm)) (ic _ rfl)) ?_
 refine BW e8 p1 p2 (f0.two h la f1 t5 ks) (λne hv=>?_) (λne s w c ex w0 ev gc=>?_) λev ew=>?_
 ·refine .pass (.iD (.af (.b9 (.var rfl) (.var rfl) ne))) (hv.elim (λev=>?_) λev=>?_)
  ·rw[ev];exact .then (.xX (.of (.b9 (.var rfl) .lit (.Jg _)) (.ot (.b9 (.var rfl) .lit (.eq (.str 16 16)))))) (.ret .lit (kr _ _ NP))
  ·rw[ev];exact .then (.xX (.ot (.b9 (.var rfl) .lit .is_none))) (.ret .lit (kr _ _ NP))
 ·rw[ev]at ne ⊢
  exact Ff h (f0.act h la t5) gc w0 ks ex ne (λdw g k' z=>kn _ _ c _ _ _ _ dw H8 NP g k' (aj z (aj (dM sz 61) (aD (dk ..))))) λL' H' e=>kr L' H' (NP.trans e)
 ·rw[ev,ew];exact .pass (.iD (.at (.b9 (.var rfl) (.var rfl) (.ne (.none_str 16))) (.af (.xX (.of (.b9 (.var rfl) .lit .qW) (.of (.b9 (.var rfl) .lit (.ne (.str 16 16))) .wZ)))))) (.then (.xX (.ot (.b9 (.var rfl) .lit .is_none))) (.ret .lit (kr _ _ NP)))
end
section
variable {H H0 H' H1:Hp} {u g LS M T0 T1 X q t n sc:Nat} {G:aJ} {A:GA} {SA:List Nat} {S:List cT} {a0 a1:TA} {d0 d1:TD} {R:Prop} {L:Lc} {sl:List Int} {m:Nat->Nat->Nat}
theorem Fh (x0:L[0]?=some (some (.ref sc))) (x1:L[1]?=some (some (.ref u))) (hs:H[sc]?=some (.ro sl)) (h:bN H u g G A LS SA S)
  (q:∀M m d H2,JE (.ite (.cmp .eq (.call 6 (.cons (.var 0) (.cons (.lit (.int 0)) (.cons (.lit (.int 2)) .nil)))) (.lit (.int 0))) (.call 12 (.cons (.var 1) .nil)) (.call 16 (.cons (.var 1) .nil))) L H (.ref M) H2->Ext H H2->Fz H2 M S m d->nv G S m->R):R:=by
 refine rT (H:=H) (k:=0) (many:=2) x0 hs (by decide) (by decide) .lit λv H1 lt j e=>?_
 have T:=JT.b9 j .lit (.eq (.int (v:Nat) 0))
 by_cases c:v=0
 ·rw[beq_iff_eq.2 (by rw[c];rfl)]at T
  exact uw (h.ext e) λM m d H2 j2 f2 e2 ms la=>q M m d H2 (.ite T (.call (.av (.var x1) .bm) j2)) (e.trans e2) ms la
 ·rw[beq_eq_false_iff_ne.2 (by omega)]at T
  exact vV (h.ext e) λM fs ws d H2 j2 f2 e2 f1 f2 ms=>q M _ d H2 (.ite T (.call (.av (.var x1) .bm) j2)) (e.trans e2) ms (KB h f1 f2)
theorem u8 {c0 c1:Nat} {OJ OK:List (Nat×jx)} {K:Fl->Lc->Hp->Prop} (g0:H[c0]?=some (jC OJ)) (d0:∀p∈OJ,H[p.1]?=some p.2.o) (z0:OJ.length≤SZ) (g1:H[c1]?=some (jC OK)) (d1:∀p∈OK,H[p.1]?=some p.2.o) (z1:OK.length≤SZ) (e:OJ.map (·.2)=OK.map (·.2))
  (x5:L[5]?=some (some (.ref c0))) (x6:L[6]?=some (some (.ref c1))) (k:∀H',Ext H H'->K .next L H'):
  cB (.cons (.ite (.cmp .ne (.comp [] (.bA (.var 0) 30 71 .nil) (.ex (.var 5)) .nil) (.comp [] (.bA (.var 0) 30 71 .nil) (.ex (.var 6)) .nil)) (.cons (.ret (.lit (.bool false))) .nil) .nil) .nil) L H K:=
 u7 x5 g0 d0 z0 λW H2 j2 f2 g2 e2=>u7 (H:=H2) x6 (e2 _ _ g1) (λp m=>e2 _ _ (d1 p m)) z1 λW' H3 j3 f3 g3 e3=>
  .pass (.b9 j2 j3 (.ne (.same (e3 _ _ g2) (e▸g3) (xR _)))) (.nil (k H3 (e2.trans e3)))
theorem KW (hs:H[sc]?=some (.ro sl)) (q:∀H',JR 27 [.ref sc] H (.bool true) H'->R):R:=by
 refine dc 27 [.ref sc] H rfl rfl (L:=[some (.ref sc),none,none,none,none,none,none,none,none,none,none,none,none]) rfl λQ q'=>?_
 refine E8 hs λP r1 r2 r3 r4 H1 j1 gP e1 pr=>xQ (e1 _ _ hs) gP pr λgr G A H2 j2 e2 hG=>Es hG λu LS SA S H3 j3 _ e3 h=>?_
 have LA:=(e1.trans e2).trans e3
 refine .set (.call (.av (.call (.av (.var rfl) (.av (.call (.av (.var rfl) .bm) j1) .bm)) j2) .bm) j3) ?_
 refine Fh (H:=H3) (L:=[some (.ref sc),some (.ref u),none,none,none,none,none,none,none,none,none,none,none]) rfl rfl (LA _ _ hs) h λM m dm H4 j4 e4 ms la=>.set j4 ?_
 have h4:=h.ext e4
 refine AF (wd:=false) h4 ms la λT0 a0 d0 H5 j5 e5 t0 f0=>AF (wd:=true) (h4.ext e5) (ms.ext e5) la λT1 a1 d1 H6 j6 e6 t1 f1=>?_
 refine .J2 (.tup (.av (.call (.av (.var rfl) (.av (.var rfl) (.av .lit .bm))) j5) (.av (.call (.av (.var rfl) (.av (.var rfl) (.av .lit .bm))) j6) .bm)) (ic _ rfl)) ?_
 have h6:=(h4.ext e5).ext e6
 have OL:=t0.ext e6
 have e16:=((LA.trans e4).trans e5).trans e6
 have ce:a0.ca.map (·.2)=a1.ca.map (·.2):=by rw[t0.14,t1.14,f0.2,f1.2]
 have se:a0.sa.map (·.2)=a1.sa.map (·.2):=by rw[t0.17,t1.17,f0.3,f1.3]
 have cz:∀{ca:List (Nat×jx)} {l:List jx},ca.map (·.2)=l->l.length≤SZ->ca.length≤SZ:=λe z=>by rw[←e,ae]at z;exact z
 refine .DU (k:=5) (m:=6) (xs:=[.tup [.ref a0.cf,.ref a1.cf],.tup [.ref a0.st,.ref a1.st]]) (g:=.none) (H1:=H6) (λ_ (s:Option V×Option V)=>[some (.ref sc),some (.ref u),some (.ref M),some (.ref T0),some (.ref T1),s.1,s.2,none,none,none,none,none,none]) (λn s H'=>Ext H6 H') (none,none)
  (.pF (.tup (.av (.tup (.av (.attr (.var rfl) OL.1 rfl rfl) (.av (.attr (.var rfl) t1.1 rfl rfl) .bm)) (ic _ rfl)) (.av (.tup (.av (.attr (.var rfl) OL.1 rfl rfl) (.av (.attr (.var rfl) t1.1 rfl rfl) .bm)) (ic _ rfl)) .bm)) (ic _ rfl)) .tup (ic _ rfl)) .r (λ_=>trivial) ?_ ?_
 ·intro n y s H7 K hy e7 cq _
  have t0:=OL.ext e7
  have t1:=t1.ext e7
  match n with
  |0=>
   cases hy
   exact⟨_,_,rfl,u8 t0.12 t0.13 (cz t0.14 f0.4) t1.12 t1.13 (cz t1.14 f1.4) ce rfl rfl λH8 e8=>cq (some (.ref a0.cf),some (.ref a1.cf)) rfl (e7.trans e8)⟩
  |1=>
   cases hy
   exact⟨_,_,rfl,u8 t0.15 t0.16 (cz t0.17 f0.5) t1.15 t1.16 (cz t1.17 f1.5) se rfl rfl λH8 e8=>cq (some (.ref a0.st),some (.ref a1.st)) rfl (e7.trans e8)⟩
  |n+2=>cases hy
 ·intro s H7 e7
  have OM:=OL.ext e7
  have ON:=t1.ext e7
  have e17:=e16.trans e7
  refine wf OM ON (f0.pr f1) λH8 j8 e8=>?_
  have ge:=Fe OM ON λq z=>by
   rw[(f0.1 q _ (ao z)).2,(f1.1 q _ (ao z)).2]
  refine .pass (.xX (.of (.b9 (.attr (.var rfl) OM.1 rfl rfl) (.attr (.var rfl) ON.1 rfl rfl) ge) (.of (.ur (.iu (.call (.av (.var rfl) (.av (.var rfl) .bm)) j8) (.bool true) rfl)) .wZ))) ?_
  have e18:=e17.trans e8
  refine jM (L:=[some (.ref sc),some (.ref u),some (.ref M),some (.ref T0),some (.ref T1),s.1,s.2,none,none,none,none,none,none]) (H:=H8) (.av (.lit (v:=.int 0)) .bm) (ic _ rfl) λX H9 j9 f9 g9 e9=>.set j9 ?_
  have Qq:=e8.trans e9
  have h9:=(h6.ext e7).ext Qq
  have hs9:=(e18.trans e9) _ _ hs
  have t09:=OM.ext Qq
  have t19:=ON.ext Qq
  refine .tA 6 (λ_ (s:Option V×Option V×Nat×Option V×Option V×Option V×Option V×Option V×List Nat)=>LL sc u M T0 T1 s.1 s.2.1 s.2.2.1 s.2.2.2.1 s.2.2.2.2.1 s.2.2.2.2.2.1 s.2.2.2.2.2.2.1 s.2.2.2.2.2.2.2.1)
   (λn s H'=>Ext H9 H'∧H'[s.2.2.1]?=some (rD s.2.2.2.2.2.2.2.2)∧jr S s.2.2.2.2.2.2.2.2∧s.2.2.2.2.2.2.2.2.length≤1+61*n) (s.1,s.2,X,none,none,none,none,none,[0]) .lit (by decide) ⟨.r,g9,.base,aC _⟩ ?_ ?_
  ·intro n s Az K n6 LE cq kr
   exact Fg hs9 h9 la f0 f1 t09 t19 n6 LE.1 LE.2.1 LE.2.2.1 LE.2.2.2 (λx5 x6 X x9 gO fJ fX st H' e g k z=>cq (x5,x6,X,some (.int n),x9,gO,fJ,fX,st) rfl ⟨e,g,k,z⟩) λL' H' e=>kr (q' λj=>q H' j)
  ·intro s Az _
   exact .ret .lit (q' λj=>q Az j)
end
section
open PySem PySem.W PySem.Calls PyProof.Rows
noncomputable def cG:Nm:=⟨λn=>tb.st[n]?,λn=>tb.at_[n]?,λa=>Be.getD a 0,λf=>vH.getD f 0,10⟩
noncomputable def upTo (n:Nat) (p:Nat->Bool):Bool:=(List.range n).all p
theorem wj {n:Nat} {p:Nat->Bool} (h:upTo n p=true) {i:Nat} (z:i<n):p i=true:=bt.1 h i (a_.2 z)
section
noncomputable def lX (f:FuncData->Bool) (v:Array Value->Bool) (c:ClassData->Bool) (l:Value->Bool) (q:Array Value->Bool):Data->Bool
 | .func fd=>f fd
 | .fields vs=>v vs
 | .cls cd=>c cd
 | .cell (some x)=>l x
 | .seq vs _=>q vs
 |_=>false
theorem rE {P:Data->Prop} {f v c l q}:∀{d},lX f v c l q d=true->(∀x,f x=true->P (.func x))->(∀x,v x=true->P (.fields x))->(∀x,c x=true->P (.cls x))->(∀x,l x=true->P (.cell (some x)))->(∀x e,q x=true->P (.seq x e))->P d:=by
 intro d h f v c l q
 cases d with
 |func=>exact f _ h
 |fields=>exact v _ h
 |cls=>exact c _ h
 |seq=>exact q _ _ h
 |cell o=>
  cases o with
  |none=>exact ff h
  |some x=>exact l _ h
 |_=>exact ff h
noncomputable def z1 {α:Type} (_:α):=false
theorem Z1 {α:Type} {P:α->Prop} x (h:z1 x=true):P x:=ff h
noncomputable def atK (K:Frag) (a:Addr) (p:Obj->Bool):Bool:=ue p (K.lookup a)
theorem BY {K:Frag} {a:Addr} {p:Obj->Bool} {P:Prop} (h:atK K a p=true) (k:∀o,K.lookup a=some o->p o=true->P):P:=by
 unfold atK at h
 cases q:K.lookup a with
 |none=>rw[q]at h;exact ff h
 |some o=>rw[q]at h;exact k o q h
noncomputable def isNs (K:Frag) (x:Str) (v:Option Value):Bool:=nsIn K mainGlobals x==some v
noncomputable def Fj (K:Frag) (a:Nat):Bool:=
 upTo tb.at_.length (λn=>zL K (Be.getD a 0) (tb.at_.getD n Str.empty) (pg.xT a n).isSome&&(pg.xT a n).all λf=>findIn K (.ref (Be.getD a 0)) (tb.at_.getD n Str.empty)==some (some (.ref (vH.getD f 0)))&&(isFn K (.ref (vH.getD f 0))&&keepIn K (.ref (vH.getD f 0))))&&
 ((plainGet K (Be.getD a 0) ""&&(hasDictIn K (Be.getD a 0)&&(plainOver K (Be.getD a 0)&&findIn K (.ref (Be.getD a 0)) "__setattr__"==some (some (.builtin "object.__setattr__")))))&&
 ((isNs K (tb.cn.getD a Str.empty) (some (.ref (Be.getD a 0)))&&(keepIn K (.ref (Be.getD a 0))&&makesIn K (Be.getD a 0)))&&
 (pg.init a).all λf=>findIn K (.ref (Be.getD a 0)) "__init__"==some (some (.ref (vH.getD f 0)))&&typeIn K (.ref (vH.getD f 0))==some (.type "function")))
noncomputable def Qr (i:Int):Value->Bool
 | .int j _=>i==j
 |_=>false
noncomputable def NQ (K:Frag) (p:Str×Int):Bool:=ue (ue (Qr p.2)) (nsIn K mainGlobals p.1)
noncomputable def bis:List Str:=[("len":Str),"sorted","list","tuple","int","sum","max","range","reversed","super"]
noncomputable def Fk (K:Frag):Bool:=tb.gi.all (NQ K)&&(upTo 28 (λf=>isNs K (tb.fn.getD f Str.empty) (some (.ref (vH.getD f 0)))&&keepIn K (.ref (vH.getD f 0)))&&(bis.all (λx=>isNs K x none)&&fnIn K (vH.getD pg.sup 0)))
noncomputable def Qs (n:Nat):Value->Bool
 | .str x _=>tb.st[n]?==some x
 |_=>false
noncomputable def vEq:V->Value->Bool
 | .none=>λv=>v== .none
 | .int i=>Qr i
 | .str n=>Qs n
 |_=>λ_=>false
noncomputable def KY:List V->List Value->Bool
 |[]=>List.isEmpty
 |x::l=>zB λv r=>vEq x v&&KY l r
noncomputable def AG (p:Addr->Bool):Value->Bool
 | .ref t=>p t
 |_=>false
noncomputable def NR (K:Frag) (ds:List V) (v:Value):Bool:=(v== .none&&ds.isEmpty)||AG (λt=>atK K t λo=>o.cls== .type "tuple"&&(o.dict.isNone&&(o.slots.toList.isEmpty&&lX z1 z1 z1 z1 (λvs=>KY ds vs.toList) o.data))) v
noncomputable def Fo (p:Arguments) (ns:List Str):Bool:=p.posonlyargs.isEmpty&&(p.args.map (·.arg)==ns&&(p.vararg.isNone&&(p.kwonlyargs.isEmpty&&(p.kwarg.isNone&&decide ns.Nodup))))
noncomputable def I8 (y:Str):Value->Bool
 | .str x _=>y==x
 |_=>false
noncomputable def Fp (K:Frag) (prog:Program) (scope:Scope) (f s7 cc:Addr) (x0:Str):Bool:=
 atK K f (λo=>lX (λfd=>ue (λar=>ar.arg==x0) (fd.params.posonlyargs++fd.params.args).head?) z1 z1 z1 z1 o.data)&&
 (atK K s7 (λo=>lX z1 (λvs=>ue (I8 prog.main.file) (vs[2]?:Option Value)) z1 z1 z1 o.data)&&
 (atK K cc (λo=>lX z1 z1 z1 (AG λD=>atK K D (λo=>lX z1 z1 (λ_=>true) z1 z1 o.data)&&(mroIn K (Be.getD pg.wp 0) (.ref D)==some true&&ks_superIn K (Be.getD pg.wp 0) D "__init__"==some (some (.ref (vH.getD pg.sup 0))))) z1 o.data)&&
 ((scope.names.lookup ("super":Str)==some .globalImplicit&&(scope.names.lookup ("__class__":Str)==some .free&&scope.names.lookup x0==some .local))&&
 ((prog.main.scope.names.lookup ("super":Str)).isNone&&(nsIn K cStatics "thirdparty.any"==some none&&typeIn K (.ref (vH.getD pg.sup 0))==some (.type "function"))))))
noncomputable def Qt (K:Frag) (prog:Program) (f:Addr) (fd:FuncData) (nm:List Str) (noS:Bool):Bool:=(fd.closure.isEmpty&&noS)||
 w1 (λp=>p.1==("__class__":Str)&&(AG (λs7=>Fp K prog fd.scope f s7 p.2 (nm.getD 0 Str.empty)) fd.code&&(fd.scope.names.all (λx=>x.2 != .cell)&&nm.all λn=>fd.scope.names.lookup n==some .local))) fd.closure
noncomputable def HR (p:List Stmt->Bool):FuncBody->Bool
 | .stmts b=>p b
 |_=>false
noncomputable def zA (K:Frag) (prog:Program) (i:Nat):Bool:=ue (λd=>atK K (vH.getD i 0) λo=>lX (λfd=>HR (λbody=>
  (fd.globals==mainGlobals&&(fd.builtins==builtinsNs&&(codeIn K fd.code fd.qualname&&(!fd.scope.isCoroutine&& !fd.scope.isGenerator))))&&((fd.scope.kind== .function&&((J1.getD i []).length==d.nl&&(decide (d.np≤d.nl)&&(decide (J1.getD i []).Nodup&&
  s6 tb (tb.rk.getD i 0) fd.scope (J1.getD i []) d.body body))))&&(Fo fd.params ((J1.getD i []).take d.np)&&(decide (d.defs.length≤d.np)&&(NR K d.defs fd.defaults&&
  ((J1.getD i []).all (λn=>fd.scope.names.lookup n==some .local||fd.scope.names.lookup n==some .cell)&&Qt K prog (vH.getD i 0) fd (J1.getD i []) d.body.eX)))))) fd.body) z1 z1 z1 z1 o.data) (pg.fn i)
end
theorem Fq {P:Value->Prop} {p:Addr->Bool}:∀{v},AG p v=true->(∀a,p a=true->P (.ref a))->P v:=by
 intro v h k
 cases v with
 |ref a=>exact k a h
 |_=>exact ff h
theorem KZ {P:Value->Prop} {y:Str}:∀{v},I8 y v=true->(∀x t,(y==x)=true->P (.str x t))->P v:=by
 intro v h k
 cases v with
 |str x t=>exact k x t h
 |_=>exact ff h
theorem NS {P:Value->Prop} {i:Int}:∀{v},Qr i v=true->(∀t,P (.int i t))->P v:=by
 intro v h k
 cases v with
 |int j t=>cases cJ h;exact k t
 |_=>exact ff h
theorem Qu:tb.st.Nodup:=by decide+kernel
theorem Qv:tb.at_.Nodup:=by decide+kernel
theorem NT:tb.st.all (λx=>(PyData.str x).canLay0)=true:=by decide+kernel
theorem K0 {a n f:Nat} (h:pg.xT a n=some f):a<10:=by
 rcases a9 a 10 with z|z
 ·exact z
 ·obtain⟨b,rfl⟩:=iz z
  cases(show none=some f from h)
theorem HT {a f:Nat} (h:pg.init a=some f):a<10:=by
 rcases a9 a 10 with z|z
 ·exact z
 ·obtain⟨b,rfl⟩:=iz z
  cases(show none=some f from h)
theorem I9 {f:Nat} {d:Fn} (h:pg.fn f=some d):f<72:=by
 rcases a9 f 72 with z|z
 ·exact z
 ·obtain⟨b,rfl⟩:=iz z
  cases(show none=some d from h)
theorem sK {α:Type} {l:List α} {n:Nat} {x d:α} (h:l[n]?=some x):l.getD n d=x:=by rw[aF,h];rfl
theorem NV {α:Type} {o:Option α} {x:α} {p:α->Bool} (h:o.all p=true) (e:o=some x):p x=true:=by rw[e]at h;exact h
theorem tok {c:Cx} (eG:c.G=cG) (hC:∀a<10,Fj c.K a=true) (hG:Fk c.K=true):nL c tb∧GH c tb:=by
 obtain⟨prog,w,K,hb,q,loose,AI,mg,mb,G,X,T⟩:=c
 cases eG
 have hC:∀a<10,Fj K a=true:=hC
 apply oV (show Fk K=true from hG) λg1 g2 g3 g4=>?_
 have fnA:∀{f:Nat} {x:Str},tb.fn[f]?=some x->isNs K x (some (.ref (vH.getD f 0)))=true∧keepIn K (.ref (vH.getD f 0))=true:=λ{f x} h=>by
  have:=cI (wj g2 (j0 h))
  rwa[sK h]at this
 have clA:∀{a:Nat} {x:Str},tb.cn[a]?=some x->a<10:=λh=>j0 h
 refine⟨⟨λn x h=>h,Qu,λn x h=>bt.1 NT x (am h),λn x h=>h,λn=>rfl,Qv,λa z n x h=>?_,λa z=>oV (cI (cI (hC a z)).2).1 λa b d e=>⟨a,b,d,cJ e⟩,λa n f q x h=>?_,λx i h=>?_,λf x h=>mg_of X T.g (cJ (fnA h).1),λf x h=>(fnA h).2,λa x h=>?_,λx h=>mg_none_of X T.g (cJ (bt.1 g3 x h))⟩,⟨aC _,g4,λa f q=>?_⟩⟩
 ·have:=(cI (wj (cI (hC a z)).1 (j0 h))).1
  rwa[sK h]at this
 ·have:=NV (cI (wj (cI (hC a (K0 q))).1 (j0 h))).2 q
  rw[sK h]at this
  exact i7 this λa1 a2 a3=>⟨cJ a1,a2,a3⟩
 ·have:=bt.1 g1 _ (mem_of_lookup h)
  unfold NQ at this
  revert this
  intro this
  cases e:nsIn K mainGlobals x with
  |none=>rw[show nsIn K mainGlobals (x,i).1=none from e]at this;exact ff this
  |some o=>
   rw[show nsIn K mainGlobals (x,i).1=some o from e]at this
   refine zE (P:=λo=>nsIn K mainGlobals x=some o->∃t,mg x=some (.int i t)) this (λv hv=>NS (P:=λv=>nsIn K mainGlobals x=some (some v)->∃t,mg x=some (.int i t)) hv λt e=>⟨t,mg_of X T.g e⟩) e
 ·have:=(cI (cI (cI (hC a (clA h))).2).2).1
  rw[sK h]at this
  exact i7 this λa1 a2 a3=>⟨mg_of X T.g (cJ a1),a2,a3,clA h⟩
 ·have:=NV (cI (cI (cI (hC a (HT q))).2).2).2 q
  exact⟨cJ (cI this).1,cJ (cI this).2⟩
theorem K1 {c:Cx} (e:c.G=cG) (k:Lk) (H:Hp) (hp:Heap) {v:Value}:∀{x:V},vEq x v=true->VR c k H hp x v
 | .none,h=>cJ h
 | .int i,h=>NS (P:=VR c k H hp (.int i)) h λt=>⟨t,rfl⟩
 | .str n,h=>by
  cases v with
  |str x t=>exact⟨x,t,by rw[e];exact cJ h,rfl⟩
  |_=>exact ff h
 | .bool _,h=>ff h
 | .tup _,h=>ff h
 | .ref _,h=>ff h
theorem xS {c:Cx} (e:c.G=cG) (k:Lk) (H:Hp) (hp:Heap):∀{l:List V} {r:List Value},KY l r=true->eJ c k H hp l r
 |[],_,h=>sP (P:=eJ c k H hp []) h rfl
 |x::l,_,h=>sO (P:=eJ c k H hp (x::l)) h λv r h=>.cons (K1 e k H hp (cI h).1) (xS e k H hp (cI h).2)
theorem uc {α:Type} {l:List α} (h:l.isEmpty=true):l=[]:=List.isEmpty_iff.1 h
theorem AH {α:Type} {o:Option α} (h:o.isNone=true):o=none:=hN.1 h
theorem BZ {p:Arguments} {ns:List Str} (h:Fo p ns=true):yC p ns:=i7 h λh1 h2 h=>oV h λh3 h4 h5 h6=>⟨uc h1,cJ h2,AH h3,uc h4,AH h5,of_decide_eq_true h6⟩
theorem HU {c:Cx} (e:c.G=cG) {ds:List V} {v:Value} (h:NR c.K ds v=true):(v= .none∧ds=[])∨∃t vs n,v= .ref t∧c.hb.get? t=some (ig vs n)∧∀k H hp,eJ c k H hp ds vs:=by
 rcases cD.mp h with h|h
 ·exact .inl ⟨cJ (cI h).1,uc (cI h).2⟩
 ·apply Fq h λt h=>?_
  refine BY h λo q h=>?_
  obtain⟨cl,od,d,sl⟩:=o
  apply oV h λh1 h2 h3 h=>?_
  revert q
  have h:lX _ _ _ _ _ d=true:=h
  apply rE h Z1 Z1 Z1 Z1 λvs n hv=>?_
  intro q
  cases(cJ h1:cl=_)
  cases(AH h2:od=_)
  cases(Array.ext' (uc h3):sl=#[])
  exact .inr ⟨t,vs.toList,n,rfl,c.X _ _ q,λk H hp=>xS e k H hp hv⟩
theorem B0 {c:Cx} (eG:c.G=cG) {scope:Scope} {f s7 cc:Addr} {x0:Str} (h:Fp c.K c.prog scope f s7 cc x0=true):∃D,Di c tb scope f s7 cc D x0:=by
 apply vd h λh1 h2 h3 h4 h5=>?_
 apply i7 h4 λk1 k2 k3=>?_
 apply i7 h5 λk4 k5 k6=>?_
 have f1:∃oc od fd Gr ar,c.K.lookup f=some ⟨oc,od,.func fd,Gr⟩∧(fd.params.posonlyargs++fd.params.args).head?=some ar∧ar.arg=x0:=BY h1 λo q h=>by
  obtain⟨oc,od,d,sl⟩:=o
  revert q
  have h:lX _ _ _ _ _ d=true:=h
  apply rE h (λfd h=>?_) Z1 Z1 Z1 λ_=>Z1
  intro q
  cases e:(fd.params.posonlyargs++fd.params.args).head? with
  |none=>rw[e]at h;exact ff h
  |some ar=>rw[e]at h;exact⟨_,_,_,_,ar,q,e,cJ h⟩
 have f2:∃Lh Lj vs N3 file tf,c.K.lookup s7=some ⟨Lh,Lj,.fields vs,N3⟩∧vs[2]?=some (.str file tf)∧((c.prog.main.file:Str)==file)=true:=BY h2 λo q h=>by
  obtain⟨oc,od,d,sl⟩:=o
  revert q
  have h:lX _ _ _ _ _ d=true:=h
  apply rE h Z1 (λvs h=>?_) Z1 Z1 λ_=>Z1
  intro q
  cases e:(vs[2]?:Option Value)with
  |none=>rw[e]at h;exact ff h
  |some v=>
   rw[e]at h
   revert e
   apply KZ h λx t z=>?_
   exact λe=>⟨_,_,_,_,_,_,q,e,z⟩
 refine BY h3 λo q h=>?_
 obtain⟨oc,od,d,sl⟩:=o
 revert q
 have h:lX _ _ _ _ _ d=true:=h
 apply rE h Z1 Z1 Z1 (λv h=>?_) λ_=>Z1
 apply Fq h λD h=>?_
 intro q
 apply i7 h λa b d=>?_
 refine⟨D,f1,f2,⟨_,_,_,q⟩,BY a λo q h=>?_,by rw[eG];exact cJ b,cJ k1,cJ k2,cJ k3,by rw[AH k4];rfl,cJ k5,by rw[eG];exact cJ d,by rw[eG];exact cJ k6⟩
 obtain⟨oc,od,d,sl⟩:=o
 revert q
 have h:lX _ _ _ _ _ d=true:=h
 apply rE h Z1 Z1 (λcd _=>?_) Z1 λ_=>Z1
 exact λq=>⟨_,_,_,_,q⟩
theorem Qw {c:Cx} (eG:c.G=cG) (hF:∀i<72,zA c.K c.prog i=true):ML c tb:=⟨λf d hf=>by
 have h:=hF f (I9 hf)
 have eF:c.G.fa f=vH.getD f 0:=by rw[eG];rfl
 unfold zA at h
 rw[show pg.fn f=some d from hf]at h
 refine BY h λo q h=>?_
 obtain⟨oc,od,da,Gr⟩:=o
 revert q
 have h:lX _ _ _ _ _ da=true:=h
 apply rE h (λfd h=>?_) Z1 Z1 Z1 λ_=>Z1
 intro q
 cases eb:fd.body with
 |stmts body=>
  rw[eb]at h
  apply i7 h λa b e=>?_
  apply vd a λh1 h2 h3 h4 h5=>?_
  apply vd b λh6 h7 h8 h9 LE=>?_
  apply vd e λh11 h12 h13 h14 h15=>?_
  have rk:tb.rk[f]?=some (tb.rk.getD f 0):=by rw[aF,ao (show f<tb.rk.length from I9 hf)];rfl
  refine⟨fd,body,J1.getD f [],tb.rk.getD f 0,⟨⟨oc,od,Gr,eF▸q⟩,eb,cJ h1,cJ h2,h3,sN h4,sN h5,cJ h6,rk,cJ h7,of_decide_eq_true h8,of_decide_eq_true h9,LE,BZ h11,of_decide_eq_true h12,HU eG h13,λn m=>(cD.mp (bt.1 h14 n m)).imp cJ cJ⟩,?_⟩
  rcases cD.mp h15 with z|z
  ·exact .inl ⟨uc (cI z).1,(cI z).2⟩
  ·cases ec:fd.closure with
   |nil=>rw[ec]at z;exact ff z
   |cons p l=>
    rw[ec]at z
    cases l with
    |cons=>exact ff z
    |nil=>
     apply oV z λy1 y2 y3 y4=>?_
     obtain⟨x,cc⟩:=p
     cases(cJ y1:x=_)
     cases ed:fd.code with
     |ref s7=>
      rw[ed]at y2
      obtain⟨D,sup⟩:=B0 eG y2
      exact .inr ⟨⟨s7,cc,D,ec,ed,eF.symm▸sup⟩,λx m=>bne_iff_ne.mp (bt.1 y3 x m),λn m=>cJ (bt.1 y4 n m)⟩
     |_=>rw[ed]at y2;exact ff y2
 |_=>rw[eb]at h;exact ff h⟩
theorem B1 {c:Cx} {a:Addr} {vs:List Value} {ns:List Int} (ha:c.hb.get? a=some (lN vs 0)) (hI:IntsAre vs ns) (nz:ns.length≤63):dz c ⟨λ_=>a,λ_=>a⟩ [.ro ns] c.hb:=by
 have one:∀{j:Nat} {o:O},([.ro ns]:Hp)[j]?=some o->j=0∧o= .ro ns:=λ{j o} h=>by
  cases j with
  |zero=>exact⟨rfl,(ay h).symm⟩
  |succ j=>exact c7 rfl h
 refine⟨λ_ _ e=>e,λj o h=>?_,λj o a h w _=>?_,λa i j x y h h' _ _=>(one h).1.trans (one h').1.symm⟩
 ·obtain⟨rfl,rfl⟩:=one h
  exact⟨aj nz (by decide),vs,0,ha,hI⟩
 ·rw[(one h).2]at w;exact ff w
theorem final {c:Cx} (eG:c.G=cG) (hC:∀a<10,Fj c.K a=true) (hG:Fk c.K=true) (hF:∀i<72,zA c.K c.prog i=true) {s:Shared} (hs:s.heap=c.hb) {a:Addr} {vs:List Value} {ns:List Int} (ha:c.hb.get? a=some (lN vs 0)) (hI:IntsAre vs ns) (nz:ns.length≤63)
  {R:Result->Shared->Prop} (h:∀s',(∀b o,s.heap.get? b=some o->s'.heap.get? b=some o)->Sm s s'->R (.ok (.ret (.bool true))) s'):codeAny (Md c) callerA (.call (.ref (vH.getD 27 0)) ⟨[.ref a],[]⟩) R s:=by
 obtain⟨t1,t2⟩:=tok eG hC hG
 have t3:=Qw eG hF
 refine KW (H:=[.ro ns]) (sc:=0) (sl:=ns) rfl λH' j=>?_
 have S:wV c tb 27 [.ref 0] [.ro ns] (.bool true) H':=j c ⟨t1,t2,t3⟩
 have eF:c.G.fa 27=vH.getD 27 0:=by rw[eG];rfl
 have sim:=B1 (c:=c) ha hI nz
 rw[←hs]at sim
 rw[←eF]
 refine S (r:=72) ⟨rfl,by decide,by decide+kernel,⟨_,rfl⟩⟩ (by decide+kernel) sim ?_ λk' s' v' T1 R1=>?_
 ·exact .one ⟨hE _,rfl⟩
 ·cases(R1:v'=_)
  exact h s' (λb o e=>T1.1.1 b o (hs▸e)) T1.3
theorem B2 {P:Params} {h:Heap} {a:Addr} {ns:List Int} (W:Well P h (.ref a) (ofPy (.list (ns.map .int)))):∃vs,h.get? a=some (lN vs 0)∧IntsAre vs ns:=by
 rw[ofPy,ofPys_eq]at W
 cases W with
 |list g wa=>
  refine⟨_,g,?_⟩
  clear g
  rename_i vs
  induction ns generalizing vs with
  |nil=>cases wa;exact .nil
  |cons n ns ih=>
   rw[bS,bS,ofPy]at wa
   cases wa with
   |cons w r=>cases w;exact .cons _ _ (ih r)
theorem last {K:Params->Frag} {prog:Program} (hC:∀P,∀a<10,Fj (K P) a=true) (hG:∀P,Fk (K P)=true) (hF:∀P,∀i<72,zA (K P) prog i=true) {w:World} {q:Program} {loose:List Str} {AI:ExcName->Option Value} {mg mb:Str->Option Value} {s₁:Shared} {fa a:Addr} {ns:List Int}
  (KX:(K w.params).In s₁.heap) (T:Top q loose AI mg mb s₁.heap) (Qx:mg "law"=some (.ref fa)) (hg:s₁.gens=#[]) (W:Well w.params s₁.heap (.ref a) (ofPy (.list (ns.map .int)))) (nz:¬((63:Nat):Int)<(ns.length:Nat))
  {cl:ClaimW} {clf:Str->Option Addr} {NW:ExcName->Option Value} {args:List WData} (hr:∀e,cl.raises args e=false) (hp:cl.post args (.bool true) args=true):
  codeAny (model prog w) callerA (.call (.ref fa) ⟨[.ref a],[]⟩) (GoodW cl clf NW args s₁) s₁:=by
 obtain⟨vs,ha,hI⟩:=B2 W
 have tk:=(tok (c:=⟨prog,w,K w.params,s₁.heap,q,loose,AI,mg,mb,cG,KX,T⟩) rfl (hC _) (hG _)).1
 have e:=tk.11 27 "law" (by decide+kernel)
 have efa:fa=vH.getD 27 0:=by
  have:=Qx.symm.trans e
  injection this with this
  injection this
 rw[efa]
 refine final (c:=⟨prog,w,K w.params,s₁.heap,q,loose,AI,mg,mb,cG,KX,T⟩) rfl (hC _) (hG _) (hF _) rfl ha hI (by omega) λs' hk sm=>?_
 refine⟨.inl ⟨_,_,_,rfl,hr,.bool true,hp,λ_=>⟨.nil,nofun⟩⟩,hk,?_,?_⟩
 ·rw[sm]
 ·rw[sm];exact hg
end
namespace hdW
def Z:=trivial
def tw12964962540544417112:=Z
def tw12960432718942371576:=Z
def tw1666914280524644792:=Z
def tw8787145343006072280:=Z
def tw13098686442002538968:=Z
def tw2052456857245037464:=Z
def tw12495676387620894616:=Z
def tw9604436229179133944:=Z
def tw11118971715063688216:=Z
def tw10325837086481430200:=Z
def tw9590106586231149720:=Z
def tw7114202549689104536:=Z
def tw2695445315070211928:=Z
def tw9445884800877705464:=Z
def tw8661518518955982072:=Z
def tw6279561718336228600:=Z
def tw17977043671109199800:=Z
def tw5850403462466171864:=Z
def tw16941631859897501080:=Z
def tw7239228733340496280:=Z
def tw9693645105346657496:=Z
def tw5157458516279831273:=Z
def tw16159788237227735785:=Z
def tw14316779353739241225:=Z
def tw3062216076838362537:=Z
def tw12567607663242311529:=Z
def tw17052798826413794185:=Z
def tw5699065691151320969:=Z
def tw628982354179477385:=Z
def tw12324850224827511817:=Z
def tw10672218781529190057:=Z
def tw1032166356729072745:=Z
def tw3228769509738710825:=Z
def tw1996949004526359337:=Z
def tw10579397178617535721:=Z
def tw2286450077486254345:=Z
def tw16263862776893683625:=Z
def tw13899535589021695337:=Z
def tw8496736925890737641:=Z
def tw10043482544037566953:=Z
def tw8799919005694843369:=Z
def tw13090246361542295145:=Z
def tw13209704283988152969:=Z
def tw4433097866637052553:=Z
def tw2522975281226248906:=Z
def tw14354191721729429290:=Z
def tw10868998049274988490:=Z
def tw22523155777033162:=Z
def tw10173843110968114122:=Z
def tw14192551456063260266:=Z
def tw4971744630537151114:=Z
def tw748011506798500490:=Z
def tw5221760787820472362:=Z
def tw4456439026241323178:=Z
def tw17053610155584938282:=Z
def tw8867091569129181514:=Z
def tw1715985698303221738:=Z
def tw13347600897015079914:=Z
def tw4043218970906108010:=Z
def tw12375191710102164618:=Z
def tw14881895695246822986:=Z
def tw1330333202694822122:=Z
def tw17094364067224483050:=Z
def tw4120181390516950282:=Z
def tw18347208729125776443:=Z
def tw7660716289736599643:=Z
def tw11397471889721145083:=Z
def tw4017804622376795899:=Z
def tw3998003527706596539:=Z
def tw2730532818118650171:=Z
def tw2575982354340977691:=Z
def tw3612829824742858875:=Z
def tw17803620554116384923:=Z
def tw13640418890358323803:=Z
def tw8008846453019005179:=Z
def tw2781338598666973883:=Z
def tw5668320598031562459:=Z
def tw11466321512140365211:=Z
def tw9797669060384986939:=Z
def tw10795725515927508827:=Z
def tw11448903042223757147:=Z
def tw4815568998523991899:=Z
def tw14041981754639225339:=Z
def tw16744464870484134427:=Z
def tw3994182023073763291:=Z
def tw3672923434895149691:=Z
def tw4443971790947084988:=Z
def tw10749040551173493468:=Z
def tw16265398512256070780:=Z
def tw11514987383224798044:=Z
def tw4991801052182938556:=Z
def tw18259156053035554748:=Z
def tw2137144767680772060:=Z
def tw11990474288811849116:=Z
def tw808227149047992828:=Z
def tw11249137132942238236:=Z
def tw2595797436616139292:=Z
def tw5425733301922014396:=Z
def tw13670046377856600252:=Z
def tw15031547768136646300:=Z
def tw3775308578329616028:=Z
def tw16255251301303349916:=Z
def tw5946486699767409436:=Z
def tw15557085698365268444:=Z
def tw11471337201422516092:=Z
def tw339348487811777436:=Z
def tw2442197241973058140:=Z
def tw12289631051978614429:=Z
def tw15085920216920079005:=Z
def tw3153662427085886557:=Z
def tw14660066621466139389:=Z
def tw12108461664281403165:=Z
def tw4079778388715026621:=Z
def tw13082739270337483997:=Z
def tw7028177033578443677:=Z
def tw3828145800240171933:=Z
def tw17957178126407741789:=Z
def tw4574256832542385149:=Z
def tw4210038260513771997:=Z
def tw15159302212043322493:=Z
def tw1725382133559062077:=Z
def tw13667018446015877725:=Z
def tw4106314604002387229:=Z
def tw1601525643713266365:=Z
def tw7371843564750855901:=Z
def tw7748458395757925757:=Z
def tw16418299093333511549:=Z
def tw7666561975801218461:=Z
def tw13266685481759875485:=Z
def tw5274991785414281629:=Z
def tw2153480895558350653:=Z
def tw12385651357271911229:=Z
def tw12506460729921529693:=Z
def tw5379305519781590525:=Z
def tw7053300365979646493:=Z
def tw5085063002608465853:=Z
def tw9593878176873433053:=Z
def tw387689836996811118:=Z
def tw10068014122063949838:=Z
def tw7410322807291871246:=Z
def tw10242846711532271790:=Z
def tw13258797341408281774:=Z
def tw16402841425889282222:=Z
def tw5532908705038774862:=Z
def tw17747183579960491630:=Z
def tw5174026130165485166:=Z
def tw5297816821971083886:=Z
def tw14504345697368432942:=Z
def tw2382032933064372942:=Z
def tw5156854265804763854:=Z
def tw12272745023182484302:=Z
def tw16811707710349043534:=Z
def tw10722963923248651118:=Z
def tw16655578180188337678:=Z
def tw3079450318165409326:=Z
def tw1702490040093505486:=Z
def tw6814753705321190030:=Z
def tw14154249967003101262:=Z
def tw10555943125576014926:=Z
def tw15509009587638137934:=Z
def tw625109738153261166:=Z
def tw12583280087550029934:=Z
def tw14335056459166784398:=Z
def tw15637672658257899854:=Z
def tw583496208835459055:=Z
def tw16861703259546042767:=Z
def tw16764864169353264655:=Z
def tw15460333437816008911:=Z
def tw3851708378531525839:=Z
def tw4251886208736244367:=Z
def tw12326952340262145359:=Z
def tw17819943828644980527:=Z
def tw12406313091513121679:=Z
def tw8401293651276182447:=Z
def tw8401989588825078703:=Z
def tw15980730466403976111:=Z
def tw15045059260213932623:=Z
def tw4511702539459708527:=Z
def tw5802302165088241711:=Z
def tw2501097337726580559:=Z
def tw17449088923782617391:=Z
def tw12004568668496889807:=Z
def tw8670207706838724976:=Z
def tw12993678571615693264:=Z
def tw6419966214725161104:=Z
def tw10120597480521712240:=Z
def tw15437198887662629488:=Z
def tw4479947810982006480:=Z
def tw13798569976607459728:=Z
def tw9830808625242159536:=Z
def tw4447952133914233680:=Z
def tw2414889374201659248:=Z
def tw15603416057009993584:=Z
def tw7843855345212350992:=Z
def tw6954616028040100528:=Z
def tw8983964177619359856:=Z
def tw16043731763824719088:=Z
def tw9891216569394503600:=Z
def tw4738459639322486704:=Z
def tw7608213063110014273:=Z
def tw10167262969407999745:=Z
def tw13119725276298943905:=Z
def tw6310122999822699361:=Z
def tw4482884647935543873:=Z
def tw8320279767635111905:=Z
def tw4133226592996297697:=Z
def tw7207386168086466529:=Z
def tw10227923905727424289:=Z
def tw3741062088125935393:=Z
def tw3910179136491293505:=Z
def tw3264311602089091905:=Z
def tw8464510274998857953:=Z
def tw474452048929428385:=Z
def tw16152928317072392577:=Z
def tw18098639117763847233:=Z
def tw16136441481131174401:=Z
def tw5906002220884785345:=Z
def tw7810486441202012353:=Z
def tw15332525181872407137:=Z
def tw14423362301038635617:=Z
def tw11975378274800153889:=Z
def tw12395071225194413410:=Z
def tw1985349832497105282:=Z
def tw6040431096466493218:=Z
def tw15223464976289986338:=Z
def tw14026339433302200130:=Z
def tw12011195516914710466:=Z
def tw17473880086603833954:=Z
def tw7253716276119985762:=Z
def tw1209968970438730370:=Z
def tw7779240082889469986:=Z
def tw8645997768754743362:=Z
def tw7445932991472847938:=Z
def tw4373510849670575170:=Z
def tw5488272374637527106:=Z
def tw5416973973907947266:=Z
def tw9751918248137941858:=Z
def tw14269665657796664162:=Z
def tw4902182542536602946:=Z
def tw16205664321651449154:=Z
def tw12347435936584395778:=Z
def tw1875950920594229346:=Z
def tw7955715461259231778:=Z
def tw10591099434192578114:=Z
def tw2493474310732371522:=Z
def tw5005323653652229794:=Z
def tw8137886200863959714:=Z
def tw8381973631890848083:=Z
def tw8250682234965305715:=Z
def tw15090879625096086323:=Z
def tw7155756986534398419:=Z
def tw6697186474777600915:=Z
def tw10254102248990031795:=Z
def tw4880961129516867155:=Z
def tw1701705382705646195:=Z
def tw18312438497373720627:=Z
def tw12527314200452341811:=Z
def tw3115781027904971635:=Z
def tw4725826085075621747:=Z
def tw16442460285856184595:=Z
def tw17506443746469284115:=Z
def tw7766522491972047251:=Z
def tw9972154067496580531:=Z
def tw14813654156730858931:=Z
def tw7216233673962258547:=Z
def tw14982537704694719603:=Z
def tw15753253702821129779:=Z
def tw5931064147242563795:=Z
def tw7502880620280777939:=Z
def tw11162739500585227475:=Z
def tw10564061552680607955:=Z
def tw5942936726540690675:=Z
def tw15282227375580905139:=Z
def tw2000926546949392116:=Z
def tw9823993311370480020:=Z
def tw362658204027635124:=Z
def tw814787345597947412:=Z
def tw18446734395139426292:=Z
def tw9250640808709328532:=Z
def tw9155425160000689812:=Z
def tw9459076004430032564:=Z
def tw2963633514639080564:=Z
def tw9927685047493944436:=Z
def tw16099526843136422676:=Z
def tw352292422886160180:=Z
def tw575992166864191284:=Z
def tw6860396233994412852:=Z
def tw4203541969168987348:=Z
def tw12182115093797960596:=Z
def tw5372298485856243636:=Z
def tw8155494797169728532:=Z
def tw3814655875374229524:=Z
def tw7449576341598344788:=Z
def tw2163533576526720276:=Z
def tw6080035619200566613:=Z
def tw170672725973135733:=Z
def tw5918200505540374325:=Z
def tw12725255644996207061:=Z
def tw4762769484079451637:=Z
def tw732816346850430869:=Z
def tw15100472360481518517:=Z
def tw5472005204845852245:=Z
def tw11904896904876324469:=Z
def tw17408999616014166741:=Z
def tw3768170723625315029:=Z
def tw5089724371283695349:=Z
def tw104046891011312821:=Z
def tw13846925444728376149:=Z
def tw11929020364955709269:=Z
def tw13248714970590860149:=Z
def tw16609984678356790549:=Z
def tw3176719883204394261:=Z
def tw161529039802430773:=Z
def tw1636966606959271893:=Z
def tw16629811248760731029:=Z
def tw1064888665650264149:=Z
def tw11259576896736984181:=Z
def tw14797945634314062357:=Z
def tw11314193538124479701:=Z
def tw8306549183162518773:=Z
def tw10534369828696374517:=Z
def tw11486523366304331413:=Z
def tw7987000357212026918:=Z
def tw5307868107774858278:=Z
def tw7798763296574235686:=Z
def tw9426206509474562118:=Z
def tw2502071560424842406:=Z
def tw8165540293347676326:=Z
def tw11478339347584891750:=Z
def tw17534196260466631558:=Z
def tw6504453100036017478:=Z
def tw14449866471087963142:=Z
def tw532692886821515718:=Z
def tw6894090216847098982:=Z
def tw11442091171573823622:=Z
def tw17847471129877993702:=Z
def tw5166435226529391974:=Z
def tw5526831744464097670:=Z
def tw9456623383852557702:=Z
def tw1953401232575793958:=Z
def tw10645242786901293894:=Z
def tw2756822529407893990:=Z
def tw6607332869756620262:=Z
def tw9380396425156436486:=Z
def tw6186595308680926118:=Z
def tw16169695462402151334:=Z
def tw12934823952131418022:=Z
def tw8870333546849147846:=Z
def tw6681542326324447846:=Z
def tw5356915565830611558:=Z
def tw18181262829109061415:=Z
def tw9589249924670044999:=Z
def tw6712071443561515975:=Z
def tw284096654356717927:=Z
def tw3072360852761617799:=Z
def tw3154554614773082599:=Z
def tw3872107174946430599:=Z
def tw15912126751040931111:=Z
def tw8801714573729409319:=Z
def tw6198014076281835271:=Z
def tw10383011943531409831:=Z
def tw9936490160259236711:=Z
def tw7059872919191144295:=Z
def tw10416389091892840295:=Z
def tw10406221510712705575:=Z
def tw17806195624977176583:=Z
def tw9270776631050074184:=Z
def tw7925449232988172040:=Z
def tw9476740652903966472:=Z
def tw11404553449208364808:=Z
def tw14083295253302153096:=Z
def tw18440915934703488008:=Z
def tw10384844456488941576:=Z
def tw9114685328114497672:=Z
def tw14529607127800983688:=Z
def tw10100269293683757640:=Z
def tw6305926149002375752:=Z
def tw12806379465631632968:=Z
def tw2247766603353375976:=Z
def tw11653629669853488360:=Z
def tw1040142551198113000:=Z
def tw5896751909942615720:=Z
def tw6769995777749151400:=Z
def tw5063868822651769224:=Z
def tw9645443906168301352:=Z
def tw214981156702328616:=Z
def tw11190255389985763272:=Z
def tw5138005297824832456:=Z
def tw4668438683312871016:=Z
def tw14536760970811480680:=Z
def tw18104155956650315400:=Z
def tw4193650970506626696:=Z
def tw15417405055513942041:=Z
def tw8377798291708956793:=Z
def tw17285121403510398521:=Z
def tw7147931720046518969:=Z
def tw17735482316423245497:=Z
def tw786106722313463609:=Z
def tw11651303825235045177:=Z
def tw4552112854878383929:=Z
def tw1879116302684283737:=Z
def tw11467412127867100665:=Z
def tw3660741484024715193:=Z
def tw7777543549969453017:=Z
def tw10463428242383415257:=Z
def tw17648397993940324985:=Z
def tw9249892031258236537:=Z
def tw12833072533235899449:=Z
def tw12134100027539811385:=Z
def tw11216105004773203033:=Z
def tw12052004413434242233:=Z
def tw17380280474514797753:=Z
def tw5587657361050482905:=Z
def tw7694260561242930554:=Z
def tw12969248347580048794:=Z
def tw7942472020775417242:=Z
def tw3448454458549078106:=Z
def tw14947653768159531098:=Z
def tw11408444310013300826:=Z
def tw5278038679530937850:=Z
def tw5544082880123455002:=Z
def tw16185349471753339066:=Z
def tw6274619607472988378:=Z
def tw6084355656343625946:=Z
def tw1304571634297444986:=Z
def tw15005526259180226298:=Z
def tw3146636182892793594:=Z
def tw12826496774339676602:=Z
def tw1679603907027166650:=Z
def tw5311944451261198810:=Z
def tw7473407098834061178:=Z
def tw3314818838775468954:=Z
def tw9239232968820147770:=Z
def tw11414149444165790298:=Z
def tw17215868111473153018:=Z
def tw6380550615852901370:=Z
def tw15962830286841692186:=Z
def tw17511142182316291194:=Z
def tw15885996836289122426:=Z
def tw2303254743346602810:=Z
def tw14530908897824889658:=Z
def tw18111319825072203706:=Z
def tw17478345160249411915:=Z
def tw17139827263472337259:=Z
def tw15695255501931892075:=Z
def tw7671368704337592779:=Z
def tw10547919165331234251:=Z
def tw17278498125798140523:=Z
def tw13992987182452521995:=Z
def tw16850228873295511275:=Z
def tw13351699075217618091:=Z
def tw11285667477506315531:=Z
def tw13319283039079421195:=Z
def tw13987289016638721323:=Z
def tw8126489805636424651:=Z
def tw15049271532689980811:=Z
def tw6169455627307229259:=Z
def tw16407161558203050091:=Z
def tw1332194524046935595:=Z
def tw17866181878993310955:=Z
def tw8741480336130682507:=Z
def tw275394131930119819:=Z
def tw4907420169293911756:=Z
def tw13155575451007317740:=Z
def tw515857031764257516:=Z
def tw333430911642983244:=Z
def tw17220186049637857132:=Z
def tw16589994620374535148:=Z
def tw3542288870896584780:=Z
def tw17556061918067476588:=Z
def tw6515570028705819404:=Z
def tw442915369461702412:=Z
def tw16318152809985912012:=Z
def tw1731394317367392492:=Z
def tw5397424791395203308:=Z
def tw17647272951370850668:=Z
def tw5226128811347782668:=Z
def tw468960612258153484:=Z
def tw1189699580394885164:=Z
def tw11884556964567535660:=Z
def tw4985582971841904108:=Z
def tw12326199312432437388:=Z
def tw6864335215283520684:=Z
def tw1072788392278956204:=Z
def tw12416652156477823596:=Z
def tw5208441709147142477:=Z
def tw5978226441213911533:=Z
def tw5968454027519823341:=Z
def tw16109931471436468973:=Z
def tw2504037876315382509:=Z
def tw11419482553972753133:=Z
def tw6013193626778998509:=Z
def tw2402978002100131981:=Z
def tw11634615659786639533:=Z
def tw6414943121099173709:=Z
def tw7926507206445153101:=Z
def tw794061977489150829:=Z
def tw16981706343757187341:=Z
def tw5159964512064248109:=Z
def tw14345815114965710125:=Z
def tw7993746673516600269:=Z
def tw10818365742370955661:=Z
def tw9574894785457707565:=Z
def tw13488270926282922541:=Z
def tw8791725409748803789:=Z
def tw3787068052227613933:=Z
def tw9196063090804089485:=Z
def tw15071605350165500589:=Z
def tw4891317047335956222:=Z
def tw8051919440982716158:=Z
def tw5943528051309855486:=Z
def tw12822784115257814814:=Z
def tw12496235782625352478:=Z
def tw14000706924441205214:=Z
def tw10939052929703364510:=Z
def tw14716142776566858334:=Z
def tw11877956971552328414:=Z
def tw2717078168711904382:=Z
def tw8659424859473344670:=Z
def tw3159834923527201598:=Z
def tw16137668894785265918:=Z
def tw542073655910869246:=Z
def tw14493651948016153886:=Z
def tw5363233698122221854:=Z
def tw14296464795070232958:=Z
def tw14956562985971636734:=Z
def tw5978569989527986718:=Z
def tw7193403375181444286:=Z
def tw6359134471675319934:=Z
def tw8502702271100340862:=Z
def tw2686269304462749407:=Z
def tw1975843930382424799:=Z
def tw996596194369405663:=Z
def tw1876722812133549439:=Z
def tw6149446095357290911:=Z
def tw8257915947887515455:=Z
def tw8452659776828641087:=Z
def tw2201775817593916255:=Z
def tw2346231937921187679:=Z
def tw15013827083658803743:=Z
def tw7618481616129114655:=Z
def tw7515344795915709407:=Z
def tw9692736914215433855:=Z
def tw11287998988899780255:=Z
def tw17980215552360768735:=Z
def tw5993329410992982943:=Z
def tw935764566689489951:=Z
def tw1543894734052247999:=Z
def tw8736165771629948063:=Z
def tw2885553292010714271:=Z
def tw9454353964839007807:=Z
def tw16705944757823758943:=Z
def tw3628936762540437759:=Z
def tw5204414628983110911:=Z
def tw14813737304967188735:=Z
def tw973134457187831071:=Z
def tw6996480329035782431:=Z
def tw4838694567976038079:=Z
def tw8357676308367953599:=Z
def tw8639424754872092000:=Z
def tw14254593381150500192:=Z
def tw4420176553537306368:=Z
def tw8271141442733362976:=Z
def tw12885884582222386624:=Z
def tw2335104208951108032:=Z
def tw4244284854999290304:=Z
def tw15814087533600650720:=Z
def tw1428606604582360544:=Z
def tw16412861992739980864:=Z
def tw13636810749115210336:=Z
def tw13470126969143309920:=Z
def tw10017096876254969440:=Z
def tw17843588153990771712:=Z
def tw9133894161911029760:=Z
def tw13236481767825158176:=Z
def tw7575409891528532704:=Z
def tw7398054088032285856:=Z
def tw17864543756462611296:=Z
def tw14525412660978860288:=Z
def tw17488389686880884000:=Z
def tw18191459285489473472:=Z
def tw18084745831338883456:=Z
def tw2118879827047006624:=Z
def tw8125796361482268768:=Z
def tw17670464391867714752:=Z
def tw2042411524339520704:=Z
def tw260130256668376288:=Z
def tw5731339165115479680:=Z
def tw14269134427211053728:=Z
def tw11508840456046219313:=Z
def tw15590744602782211793:=Z
def tw16825203302179841777:=Z
def tw12142436415076996241:=Z
def tw13131959627124775057:=Z
def tw9998435944785983665:=Z
def tw15929709739289381841:=Z
def tw8058103697605763057:=Z
def tw12890834004163775473:=Z
def tw15116254756733330865:=Z
def tw2139663550845462065:=Z
def tw13216840756270579953:=Z
def tw6339360493496518897:=Z
def tw3297660913091244273:=Z
def tw12023612814833800849:=Z
def tw16752505413366696273:=Z
def tw4049208773049215345:=Z
def tw1621782418340982545:=Z
def tw14657509600739742161:=Z
def tw14126817168210712242:=Z
def tw12728984925794232402:=Z
def tw14177506188696824946:=Z
def tw5934813639457360082:=Z
def tw9448140399615291730:=Z
def tw139870466117444050:=Z
def tw2478508370928628178:=Z
def tw2345304157260175858:=Z
def tw5866720201496522322:=Z
def tw9950818822234840690:=Z
def tw2156647313231597170:=Z
def tw10272542972807179538:=Z
def tw18099318407138668850:=Z
def tw381211027812550354:=Z
def tw9432198389453635282:=Z
def tw6692266557515915090:=Z
def tw8225292695905170962:=Z
def tw9953683724168466418:=Z
def tw8718405768847088626:=Z
def tw8007737810907754130:=Z
def tw12150165336172856978:=Z
def tw13115966779205772675:=Z
def tw14600423376505403427:=Z
def tw2645543016386060323:=Z
def tw15636153353664304611:=Z
def tw14519315784720656867:=Z
def tw15490296140822786563:=Z
def tw9745727651152076291:=Z
def tw12116453589975748771:=Z
def tw3868823566109704387:=Z
def tw11694145468088234595:=Z
def tw11135036502303537795:=Z
def tw12172237019285192323:=Z
def tw3059648637166980739:=Z
def tw8322410202780676387:=Z
def tw4726917775926266307:=Z
def tw2672715358104529923:=Z
def tw10960943668075443203:=Z
def tw9485558112378792611:=Z
def tw17874823800096373411:=Z
def tw973831389219910307:=Z
def tw6030103442694308995:=Z
def tw13871975400284783395:=Z
def tw6715768470773999843:=Z
def tw13653629071145839843:=Z
def tw6220272018535088387:=Z
def tw2450348895463964676:=Z
def tw10300995650712611236:=Z
def tw16304022624377296292:=Z
def tw4943361505122551236:=Z
def tw6985972209527560644:=Z
def tw9555095548629457028:=Z
def tw13514645872834872452:=Z
def tw7783199527645947428:=Z
def tw15196503894438903044:=Z
def tw6693613511044498084:=Z
def tw17984009985231071044:=Z
def tw7287211462081721860:=Z
def tw2874824013413891588:=Z
def tw10622908428309232132:=Z
def tw14297344224075154948:=Z
def tw7358006370226216548:=Z
def tw17227917694701875268:=Z
def tw16189636383717789764:=Z
def tw4000849355284715364:=Z
def tw135253171464192868:=Z
def tw4565599170563464068:=Z
def tw1098518600885485540:=Z
def tw9169555257477052453:=Z
def tw2794433822077115877:=Z
def tw4687048482751345157:=Z
def tw13961873726631213253:=Z
def tw4881743311298512069:=Z
def tw8302467232300909189:=Z
def tw1213651519430964549:=Z
def tw7219387234428435173:=Z
def tw14503919695698557349:=Z
def tw11960787206809449349:=Z
def tw14603832107393219109:=Z
def tw5721947714052648517:=Z
def tw1881824008573372101:=Z
def tw1607534652656200389:=Z
def tw7978457019047416933:=Z
def tw4548200751278126213:=Z
def tw631932933389082853:=Z
def tw8611647547656629509:=Z
def tw10082147743415627013:=Z
def tw6781930420420440325:=Z
def tw7534957637826059525:=Z
def tw17361978791249662885:=Z
def tw7422021047877644197:=Z
def tw16218092081833549157:=Z
def tw6573430801462956918:=Z
def tw13377762330085970806:=Z
def tw12650844478362528342:=Z
def tw3245500495939910230:=Z
def tw5613316658476311126:=Z
def tw9798189148600871926:=Z
def tw11467444796272305142:=Z
def tw11532246080955913206:=Z
def tw4848620248841597622:=Z
def tw17336177162466506454:=Z
def tw49784974519954134:=Z
def tw4391819531531219766:=Z
def tw9312301380541154230:=Z
def tw5132407021884917686:=Z
def tw2287336487180184950:=Z
def tw12961981793723178358:=Z
def tw13521649934015507510:=Z
def tw6636085093869867222:=Z
def tw2286385205392237782:=Z
def tw6609204932559334614:=Z
def tw3102041227769570934:=Z
def tw975189491167695478:=Z
def tw7118317096465780439:=Z
def tw604594412688642007:=Z
def tw6540527725662577271:=Z
def tw7306729664150935607:=Z
def tw6006045697897584695:=Z
def tw1060543551695395927:=Z
def tw17926758568664332023:=Z
def tw17969754046193633015:=Z
def tw16386036057640929463:=Z
def tw10971157835389574007:=Z
def tw9284827062635671447:=Z
def tw11685519841812113303:=Z
def tw16280382211159721879:=Z
def tw1039195195038779383:=Z
def tw14467463959866390967:=Z
def tw16534759707948630455:=Z
def tw18117357777140418679:=Z
def tw5814986705959093399:=Z
def tw13579434447925479575:=Z
def tw15083436324085289111:=Z
def tw17456129123916346519:=Z
def tw3470514463137277495:=Z
def tw3568858488557026871:=Z
def tw6348705404194602583:=Z
def tw7572482854602025787:=Z
end hdW
section
open PySem PySem.W PySem.Calls PyProof.Rows
noncomputable def Qy (K:Frag) (prog:Program) (k:Nat):Bool:=(List.range 12).all λr=>zA K prog (12*k+r)
theorem HV {K:Frag} {prog:Program} (h:∀k<6,Qy K prog k=true):∀i<72,zA K prog i=true:=λi z=>by
 have:=bt.1 (h (i/12) (Nat.div_lt_of_lt_mul z)) (i%12) (a_.2 (Nat.mod_lt _ (by decide)))
 rw[Nat.div_add_mod]at this;exact this
set_option maxHeartbeats 0 in
set_option Elab.async true in
theorem hdW:PySem.Challenge.rw_on0178_01.Holds:=by
 w_on;o_law;k_head;(case hw=>w_witness2)
 intro w s₀ s₁ mg mb G Y fa o pm cd doc dV kV ho hd hcd hD Qx hg args vals as Qz QA hrd hwl hlo
 have KX:=kIn_of Y
 clear hd hcd hD ho
 refine Ground.open G ?_
 intro T B D TE TW
 clear B D TE TW
 wrow_args Qz QA hrd hwl hlo
 refine enter_call ?_
 refine codeAny_mono ?_ (λ_ _ g=>GoodW.toG g)
 have hdC:∀P,∀a<10,Fj (_root_.Mine.hdW.heap_1_39 P) a=true:=λP a z=>by
  match a,z with
  |0,_|1,_|2,_|3,_|4,_|5,_|6,_|7,_|8,_|9,_=>as_aux_lemma=>kernel_rfl
 have hdG:∀P,Fk (_root_.Mine.hdW.heap_1_39 P)=true:=λP=>by as_aux_lemma=>kernel_rfl
 have hdF:∀P,∀i<72,zA (_root_.Mine.hdW.heap_1_39 P) PySem.Challenge.rw_on0178_01.row.prog i=true:=λP=>HV λk z=>by
  match k,z with
  |0,_|1,_|2,_|3,_|4,_|5,_=>as_aux_lemma=>kernel_rfl
 exact last hdC hdG hdF KX T Qx hg (by assumption) (by assumption) (λ_=>rfl) (PySem.W.postW_of (X:=true) (by kernel_rfl) (by first|kernel_rfl|(with_unfolding_all rfl)|trace_state) rfl)
end
end Mine
theorem PySem.Challenge.cw_on0178_01_holds : PySem.Challenge.rw_on0178_01.Holds :=
 Mine.hdW
