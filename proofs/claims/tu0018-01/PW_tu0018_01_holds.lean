import PyProof.Rows.All
import PyProof.TableCode
import Wide.All
import OpenK.AllK
import Wide.FinOn
import KE.BytesMake
import KE.KDictOf
import KE.KIsBytes
import PyProof.CollectStr
import PyProof.AttrMissHeap
import KE.KBytesWalk
import PyProof.Draws
import Lean
import PySem.Challenge.RW_tu0018_01
set_option maxRecDepth 100000
set_option linter.all false
set_option linter.unusedVariables false
set_option Elab.async false
set_option genSizeOf false
set_option genInjectivity false
set_option backward.match.sparseCases false
set_option compiler.extract_closed false
open Lean in
local macro_rules (kind:=Lean.Parser.Tactic.cases)
 |s=>match " nil List.casesOn cons List.casesOn none Option.casesOn some Option.casesOn false Bool.casesOn true Bool.casesOn zero Nat.casesAuxOn succ Nat.casesAuxOn one Nd.casesOn cJ Nd.casesOn skip Nd.casesOn cI Nd.casesOn char At.casesOn kj At.casesOn aG V.casesOn bI V.casesOn ap V.casesOn int V.casesOn bool V.casesOn ref V.casesOn str V.casesOn bytes V.casesOn ".splitOn s!" {s[3][0][2][0][0][0][1][1].getId} " with
  |[_,b]=>return .node .none `Lean.Parser.Tactic.induction #[s[0],s[1],mkNullNode #[s[0],mkIdent (b.splitOn " ").head!.toName],mkNullNode,s[3]]
  |_=>Macro.throwUnsupported
open Lean in
local macro_rules (kind:=«term%[_|_]»)
 |s=>match s[3].isNatLit? with
  |some n=>return (s[1].getSepArgs++Array.replicate n (mkNode `Lean.Parser.Term.hole #[])).foldr (fun x r=>if x.getKind==`Lean.Parser.Term.hole then Syntax.mkApp (mkIdent `Fr.u) #[⟨r⟩] else Syntax.mkApp (mkIdent `Fr.c) #[⟨x⟩,⟨r⟩]) (mkIdent `Fr.e)
  |_=>Macro.throwUnsupported
open Lean in
local macro_rules (kind:=Lean.Parser.Command.declaration)
 |s=>do
  if s[1].getPos?.isNone then Macro.throwUnsupported
  return (if s[0][4].getNumArgs==0&&(s[1].getKind==`Lean.Parser.Command.definition||s[1].getKind==`Lean.Parser.Command.abbrev) then s.setArg 0 (s[0].setArg 4 (mkNullNode #[mkNode `Lean.Parser.Command.noncomputable #[mkAtom "noncomputable"]])) else s).rewriteBottomUp fun
   |.atom _ v=>.atom .none v
   |.ident _ r v p=>.ident .none r v p
   |.node _ k a=>.node .none k a
   |s=>s
namespace Mine.Internal
def WO:=@List.length_append
def WP:=@List.length_map
def WQ:=@PySem.wpAny_bind
def WR:=@Nat.le_trans
def WS:=@List.getElem?_eq_getElem
def WT:=@List.length_drop
def WU:=@List.map_append
def WV:=@PySem.wpAny_pure
def WW:=@List.append_assoc
def WX:=@if_neg
def WY:=@if_pos
def WZ:=@List.mem_singleton
def W0:=@List.length_cons
def W4:=@congrArg
def W5:=@Bool.false_ne_true
def W6:=@List.mem_append
def W7:=@Option.some.inj
def W8:=@Nat.zero_le
def W9:=@Nat.lt_of_le_of_lt
def Xa:=@List.mem_cons
def Xb:=@List.mem_of_mem_drop
def Xc:=@List.mem_cons_of_mem
def Xd:=@PySem.Heap.get?_push_size
def Xe:=@List.append_nil
def Xf:=@List.getElem?_eq_some_iff
def Xg:=@List.length_take
def Xh:=@List.mem_cons_self
def Xi:=@List.length_reverse
def Xj:=@List.mem_map
def Xk:=@List.getElem?_map
def Xl:=@Nat.le_refl
def Xm:=@List.mem_of_mem_take
def Xn:=@List.getElem?_append_right
def Xo:=@List.drop_eq_getElem_cons
def Xp:=@List.drop_eq_nil_of_le
def Xq:=@Nat.le_of_lt
def Xr:=@Nat.lt_succ_self
def Xs:=@List.flatMap_append
def Xu:=@PySem.wpAny_mono
def Xv:=@List.getElem?_drop
def Xw:=@decide_eq_false
def Xx:=@Bool.and_eq_true
def Xy:=@Option.map_eq_some_iff
def Xz:=@decide_eq_true
def XA:=@PySem.wpAny_standAt
def XB:=@List.drop_append_of_le_length
def XC:=@List.take_append_drop
def XD:=@List.map_cons
def XE:=@PySem.wpAny_holding
def XF:=@Nat.lt_or_ge
def XG:=@Int.ofNat_lt
def XH:=@List.size_toArray
def XI:=@List.mem_of_getElem?
def XJ:=@beq_iff_eq
def XK:=@Nat.succ_le_succ
def XM:=@List.cons_append
def XN:=@List.getElem?_eq_none
def XO:=@List.length_nil
def XQ:=@List.zip_cons_cons
def XR:=@List.length_singleton
def XS:=@List.getElem?_append_left
def XT:=@List.mem_flatMap
def XU:=@List.reverse_cons
def XV:=@PySem.wpAny_newObj_type
def XW:=@List.map_map
def XX:=@Bool.or_eq_true
def XY:=@of_decide_eq_true
def XZ:=@Nat.le_succ_of_le
def X0:=@Bool.or_eq_false_iff
def X1:=@Option.isNone_iff_eq_none
def X2:=@Nat.zero_add
def X3:=@Ne.symm
def X4:=@List.take_of_length_le
def X5:=@Nat.add_le_add_left
def X6:=@List.length_filter_le
def X7:=@List.getElem?_reverse
def X8:=@PySem.Heap.lt_size
def X9:=@Int.toNat_natCast
def Yb:=@Nat.min_eq_left
def Yc:=@Nat.not_lt_zero
def Yd:=@List.map_drop
def Ye:=@Int.ofNat_le
def Yh:=@List.getElem_mem
def Yj:=@List.flatMap_cons
def Yk:=@Nat.le_of_ble_eq_true
def Ym:=@List.getElem?_take_of_lt
def Yn:=@Nat.not_lt
def Yo:=@Nat.le_add_right
def Yp:=@List.isEmpty_iff
def Yq:=@List.flatten_cons
def Ys:=@Nat.ne_of_lt
def Yt:=@Nat.sub_le
def Yu:=@List.replicate_succ
def Yv:=@Nat.sub_lt_sub_left
def Yw:=@List.find?_cons
def Yx:=@Int.not_lt
def Yy:=@List.lookup_cons
def Yz:=@List.filter_cons
def YA:=@List.any_cons
def YB:=@List.map_take
def YC:=@List.length_eq_zero_iff
def YD:=@List.mem_filter
def YE:=@Nat.sub_self
def YF:=@Nat.le_succ
def YG:=@Nat.add_assoc
def YH:=@Int.natCast_nonneg
def YI:=@Int.emod_lt_of_pos
def YJ:=@List.nodup_cons
def YK:=@List.nil_append
def YL:=@Bool.and_eq_true_iff
def YM:=@Int.sub_nonpos_of_le
def YN:=@Nat.succ_pos
def YO:=@List.getElem?_of_mem
def YP:=@List.mem_of_mem_tail
def YQ:=@List.map_congr_left
def YR:=@List.take_succ_cons
def YS:=@List.any_eq_true
def YT:=@List.all_eq_true
def YU:=@Nat.min_eq_right
def YV:=@List.map_reverse
def YW:=@List.drop_drop
def YX:=@List.drop_left
def YY:=@PySem.wpAny_of_eq
def YZ:=@List.take_append_of_le_length
def Y0:=@Int.zero_mul
def Y4:=@Int.zero_add
def Y5:=@Int.le_of_lt
def Y6:=@PySem.Heap.get?_push_of_some
def Y7:=@Nat.succ.inj
def Y8:=@Bool.false_eq_true
def Y9:=@Nat.lt_of_lt_of_le
def Za:=@Nat.le_total
def Zb:=@Int.natCast_mul
def Zc:=@Int.emod_nonneg
def Zd:=@List.length_set
def Ze:=@List.mem_append_right
def Zf:=@List.contains_iff_mem
def Zg:=@Int.sub_neg_of_lt
def Zh:=@PySem.getMethod_builtin
def Zi:=@decide_eq_true_eq
def Zj:=@List.length_range
def Zk:=@PySem.Around.under_plainId
def Zl:=@PySem.Heap.size_push
def Zm:=@Nat.beq_refl
def Zn:=@Classical.byContradiction
def Zo:=@List.getLast?_eq_getElem?
def Zp:=@PySem.Heap.SameBut.update
def Zq:=@Int.neg_nonpos_of_nonneg
def Zr:=@PySem.F.slot_list_getattribute
def Zs:=@PySem.eval_Constant
def Zt:=@Int.natCast_add
def Zu:=@PyProof.Rows.slot_tuple_getitem
def Zv:=@PySem.wpAny_pyIter_tuple
def Zw:=@Int.add_sub_cancel
def Zx:=@PySem.wpAny_callSpecial?_slot
def Zy:=@Int.le_refl
def Zz:=@List.getElem?_cons_succ
def ZA:=@Prod.mk.inj
def ZB:=@Classical.em
def ZC:=@Nat.le_of_eq
def ZD:=@List.any_eq_false
def ZE:=@PySem.wpAny_assign_Name
def ZF:=@Nat.add_comm
def ZG:=@List.any_map
def ZH:=@List.take_take
def ZI:=@Nat.eq_of_beq_eq_true
def ZJ:=@Nat.sub_eq_zero_of_le
def ZK:=@PySem.Heap.get?_update_self
def ZL:=@PySem.builtinLookup_eq_fast
def ZM:=@List.getElem?_toArray
def ZN:=@Array.getElem?_toList
def ZO:=@Int.not_le
def ZP:=@Array.eq_empty_of_size_eq_zero
def ZQ:=@List.take_nil
def ZR:=@List.mem_append_left
def ZS:=@Array.toArray_toList
def ZT:=@PySem.F.args_object_init_2
def ZU:=@PySem.lookup_relabel_local
def ZV:=@Int.min_eq_left
def ZW:=@beq_false_of_ne
def ZX:=@PySem.codeAny_builtin
def ZY:=@Bool.or_eq_true_iff
def ZZ:=@List.append_toArray
def Z0:=@List.getElem_of_mem
def Z1:=@List.filterMap_cons
def Z2:=@List.reverse_append
def Z3:=@Nat.add_sub_cancel'
def Z4:=@Int.add_zero
def Z5:=@Int.sub_zero
def Z6:=@PySem.intKind_is
def Z7:=@PySem.wpAny_rule
def Z8:=@PySem.wpAny_seqItems
def Z9:=@List.drop_zero
def aaa:=@PyProof.Rows.Subscript_
def aab:=@List.filter_append
def aac:=@Int.mul_add
def aad:=@Int.one_mul
def aae:=@PySem.wpAny_field
def aaf:=@PySem.sizeLine_eq
def aag:=@PySem.wpAny_Slice
def aah:=@Nat.le_of_succ_le
def aai:=@Nat.lt_irrefl
def aaj:=@Bool.false_or
def aak:=@PySem.plainId_quiet
def aal:=@Int.natCast_zero
def aam:=@Int.max_eq_right
def aan:=@List.take_length
def aao:=@List.mem_reverse
def aap:=@Int.mul_zero
def aaq:=@Nat.ne_of_gt
def aar:=@Nat.lt_trans
end Mine.Internal
namespace Mine.Internal.L
inductive Tm|v (i:Nat)|w (i:Nat)|l (k:Nat)|z (k:Nat)|u (o m:Nat) (a:Tm)|t (o:Nat) (a b:Tm)
@[reducible] def gN : List Nat → Nat → Nat
 |[],_=>0
 |a::_,0=>a
 |_::r,i+1=>gN r i
@[reducible] def gZ : List Int → Nat → Int
 |[],_=>0
 |a::_,0=>a
 |_::r,i+1=>gZ r i
@[reducible] def n2 (a b : Nat) : Nat → Nat
 |0=>a+b
 |1=>a-b
 |2=>min a b
 |_=>max a b
@[reducible] def z2 (a b : Int) : Nat → Int
 |0=>a+b
 |1=>a-b
 |2=>min a b
 |_=>max a b
@[reducible] def n1 (m a : Nat) (b : Int) : Nat → Nat
 |0=>m*a
 |1=>a*m
 |2=>b.toNat
 |_=>b.natAbs
@[reducible] def z1 (m : Int) (a : Nat) (b : Int) : Nat → Int
 |0=>m*b
 |1=>b*m
 |2=> -b
 |_=>a
@[reducible] def Tm.val (vs : List Nat) (ws : List Int) : Tm → Nat × Int
 | .v i=>(gN vs i,0)
 | .w i=>(0,gZ ws i)
 | .l k=>(k,0)
 | .z k=>(0,.ofNat k)
 | .u o m a=>(n1 m (a.val vs ws).1 (a.val vs ws).2 o,z1 (.ofNat m) (a.val vs ws).1 (a.val vs ws).2 o)
 | .t o a b=>(n2 (a.val vs ws).1 (b.val vs ws).1 o,z2 (a.val vs ws).2 (b.val vs ws).2 o)
@[reducible] def Tm.pr (vs : List Nat) (ws : List Int) : Tm → Prop
 | .v _=>False
 | .u _ _ a=> ¬a.pr vs ws
 | .t 0 a b=>(a.val vs ws).1≤(b.val vs ws).1
 | .t 1 a b=>(a.val vs ws).1<(b.val vs ws).1
 | .t 2 a b=>(a.val vs ws).1=(b.val vs ws).1
 | .t 3 a b=>(a.val vs ws).2≤(b.val vs ws).2
 | .t 4 a b=>(a.val vs ws).2<(b.val vs ws).2
 | .t 5 a b=>(a.val vs ws).2=(b.val vs ws).2
 | .t 6 a b=>a.pr vs ws∧b.pr vs ws
 | .t 7 a b=>a.pr vs ws∨b.pr vs ws
 | .t 8 a b=>a.pr vs ws→b.pr vs ws
 | .t _ a b=>a.pr vs ws↔b.pr vs ws
 |_=>True
def Tv (d m K:Nat) (st:List Tm):List Tm:=match d with
 |0=>st
 |1=> .v (K%32)::st
 |2=> .w (K%32)::st
 |3=> .l (m*32+K%32)::st
 |_=> .z (m*32+K%32)::st
def OI:Nat→Nat→Nat→List Tm→List Tm
 |0,_,_,st=>st
 |f+1,K,m,st=>match K with
  |0=>st
  |_=>match Nat.ble (K%32) 5 with
   |true=>match K%32 with
    |5=>OI f (K/32/32) (m*32+K/32%32) st
    |d=>OI f (K/32/32) 0 (Tv d m (K/32) st)
   |false=>match Nat.ble (K%32) 15,st with
    |true,a::st=>OI f (K/32) 0 (.u (K%32-8) m a::st)
    |false,b::a::st=>OI f (K/32) 0 (.t (K%32-16) a b::st)
    |_,_=>[]
@[reducible] def oD (vs : List Nat) (ws : List Int) : Prop → List Tm → Prop
 |g,[]=>g
 |g,h::x=>oD vs ws (h.pr vs ws→g) x
@[reducible] def Ar (K : Nat) (vs : List Nat) (ws : List Int) : Prop := match OI 999 K 0 [] with
 |[]=>True
 |g::h=>oD vs ws (g.pr vs ws) h
abbrev Pn:=Nat×Nat
abbrev dy:=Pn×List Pn
def Pn.i (c:Pn):Int:=c.1-c.2
def xU (k:Nat) (a:Pn) (l:Nat) (b:Pn):Pn:=(Nat.add (Nat.mul k a.1) (Nat.mul l b.1),Nat.add (Nat.mul k a.2) (Nat.mul l b.2))
def Hz (k:Nat) (l:Nat):List Pn→List Pn→List Pn
 |[],b=>b.map fun b=>xU 0 (0,0) l b
 |a::r,[]=>xU k a 0 (0,0)::Hz k l r []
 |a::r,b::s=>xU k a l b::Hz k l r s
def tW (k:Nat) (a:dy) (l:Nat) (b:dy):dy:=(xU k a.1 l b.1,Hz k l a.2 b.2)
def tX (a:dy):dy:=((a.1.2,a.1.1),a.2.map fun c=>(c.2,c.1))
def lead (r:dy):Pn:=match r.2 with
 |[]=>(0,0)
 |c::_=>c
def LB (r:dy):dy:=(r.1,r.2.tail)
def KJ (h:List dy):List dy:=
 (h.filter fun r=>Nat.beq (lead r).1 (lead r).2).map LB++
 (h.filter fun r=>Nat.blt (lead r).2 (lead r).1).flatMap fun p=>(h.filter fun r=>Nat.blt (lead r).1 (lead r).2).map fun n=>LB (tW (Nat.sub (lead n).2 (lead n).1) p (Nat.sub (lead p).1 (lead p).2) n)
def bad (r:dy):Bool:=Nat.blt r.1.2 r.1.1&&r.2.all fun c=>Nat.beq c.1 c.2
def fm:Nat→List dy→Bool
 |0,h=>h.any bad
 |f+1,h=>h.any bad||fm f (KJ h)
def xV:Nat→List Pn
 |0=>[(1,0)]
 |n+1=>(0,0)::xV n
def gP (a b:dy):dy:=tW 1 a 1 (tX b)
def up (a:dy):dy:=((Nat.add a.1.1 1,a.1.2),a.2)
abbrev Lf:=List (dy×List dy)
def Dq (x y:Lf) (f:dy→dy→Lf):Lf:=x.flatMap fun a=>y.flatMap fun b=>(f a.1 b.1).map fun c=>(c.1,c.2++(a.2++b.2))
def SO:dy:=((0,0),[])
def num (k:Nat):Lf:=[(((k,0),[]),[])]
def HA (n:Bool) (o:Nat) (a b:dy):Lf:=match o with
 |0=>[(tW 1 a 1 b,[])]
 |1=>match n with
  |true=>[(gP a b,[gP b a]),(SO,[up (gP a b)])]
  |false=>[(gP a b,[])]
 |2=>[(a,[gP a b]),(b,[up (gP b a)])]
 |_=>[(b,[gP a b]),(a,[up (gP b a)])]
def sj (x:Nat) (a:dy):dy:=tW x a 0 SO
def KL (h:List dy):Nat:=h.foldl (fun n r=>Nat.max n r.2.length) 0
def xW (b:Bool):Nat→List dy
 |0=>[]
 |n+1=>tX ((0,0),xV (bif b then 2*n else n))::xW b n
def un (b:Bool) (h:List dy):Bool:=fm (KL h) (h++xW b (KL h))
def zU (b:Bool) (F:List dy) (x:Lf):Lf:=match Nat.ble x.length 1 with
 |true=>x
 |false=>x.filter fun p=> !un b (F++p.2)
def LC (o:Nat) (m:Nat) (x y:Lf):Lf×Lf:=match o with
 |0=>(x.map fun c=>(sj m c.1,c.2),y.map fun c=>(sj m c.1,c.2))
 |1=>(x.map fun c=>(sj m c.1,c.2),y.map fun c=>(sj m c.1,c.2))
 |2=>(y.flatMap fun c=>[(c.1,tX c.1::c.2),(SO,up c.1::c.2)],y.map fun c=>(tX c.1,c.2))
 |_=>(y.flatMap fun c=>[(c.1,tX c.1::c.2),(tX c.1,up c.1::c.2)],x)
def Tm.Dj (i:Bool) (F:List dy):Tm→Lf×Lf
 | .v k=>([(((0,0),xV (bif i then 2*k else k)),[])],num 0)
 | .w k=>(num 0,match i with
  |true=>[(((0,0),xV (2*k+1)),[])]
  |false=>[])
 | .l k=>(num k,num 0)
 | .z k=>(num 0,num k)
 | .u o m a=>LC o m (a.Dj i F).1 (a.Dj i F).2
 | .t o a b=>(zU i F (Dq (a.Dj i F).1 (b.Dj i F).1 (HA true o)),zU i F (Dq (a.Dj i F).2 (b.Dj i F).2 (HA false o)))
abbrev Df:=List (List dy)
def vr (x y:Df):Df:=x.flatMap fun a=>y.map fun b=>a++b
def aE (p:Bool) (o:Nat) (a b:dy):Df:=match o,p with
 |0,true=>[[gP a b]]
 |0,false=>[[up (gP b a)]]
 |1,true=>[[up (gP a b)]]
 |1,false=>[[gP b a]]
 |_,true=>[[gP a b,gP b a]]
 |_,false=>[[up (gP a b)],[up (gP b a)]]
def LD (p:Bool) (o:Nat) (x y:Lf):Df:=x.flatMap fun a=>y.flatMap fun b=>(aE p o a.1 b.1).map fun r=>r++(a.2++b.2)
def Tw (o:Nat) (p:Bool) (a b:Bool→Df):Df:=match o,p with
 |6,true=>vr (a true) (b true)
 |6,false=>a false++b false
 |7,true=>a true++b true
 |7,false=>vr (a false) (b false)
 |8,true=>a false++b true
 |8,false=>vr (a true) (b false)
 |_,true=>vr (a true) (b true)++vr (a false) (b false)
 |_,false=>vr (a true) (b false)++vr (a false) (b true)
def Tm.OJ (i:Bool) (F:List dy):Tm→Bool→Df
 | .u _ _ a,p=>a.OJ i F (!p)
 | .t o a b,p=>match Nat.ble o 2 with
  |true=>LD p o (a.Dj i F).1 (b.Dj i F).1
  |false=>match Nat.ble o 5 with
   |true=>LD p (o-3) (a.Dj i F).2 (b.Dj i F).2
   |false=>Tw o p (a.OJ i F) (b.OJ i F)
 | .v _,true=>[]
 |_,_=>[[]]
def Tm.lj:Tm→Bool
 | .w _=>true
 | .u _ _ a=>a.lj
 | .t _ a b=>a.lj||b.lj
 |_=>false
def keep (b:Bool) (d:Df):Df:=match Nat.ble d.length 1 with
 |true=>d
 |false=>d.filter fun r=> !un b r
def add (b:Bool) (h:Tm) (p:Bool) (d:Df):Df:=keep b (d.flatMap fun r=>(h.OJ b r p).map (· ++r))
def LF (b:Bool):List Tm→Df→Df
 |[],d=>d
 |h::x,d=>add b h true (LF b x d)
def rC (K:Nat):Bool:=match OI 999 K 0 [] with
 |[]=>true
 |g::hs=>match g.lj||hs.any Tm.lj with
  |b=>(add b g false (LF b hs [[]])).all (un b)
def en (b:Bool) (vs:List Nat) (ws:List Int) (i:Nat):Int:=match b with
 |true=>bif i%2==0 then gN vs (i/2) else gZ ws (i/2)
 |false=>gN vs i
def ev (e:Nat→Int):Nat→List Pn→Int
 |_,[]=>0
 |k,a::r=>a.i*e k+ev e (k+1) r
def dy.ev (e:Nat→Int) (k:Nat) (r:dy):Int:=r.1.i+L.ev e k r.2
def sm (e:Nat→Int) (k:Nat) (h:List dy):Prop:= ∀r∈h,r.ev e k≤0
theorem LG {a b c d:Int}:a+b+(c+d)=a+c+(b+d):=by rw[Int.add_assoc,Int.add_left_comm b c d,←Int.add_assoc]
theorem Tz {a b c d:Int}:a+b-(c+d)=a-c+(b-d):=by rw[Int.sub_eq_add_neg,Int.neg_add,LG];rfl
theorem xX {k l:Nat} {a b:Pn}:(xU k a l b).i=k*a.i+l*b.i:=by show((k*a.1+l*b.1:Nat):Int)-(k*a.2+l*b.2:Nat)=k*(a.1-a.2)+l*(b.1-b.2);rw[Zt,Zt,Zb,Zb,Zb,Zb,Int.mul_sub,Int.mul_sub];exact Tz
theorem LI {e:Nat→Int} {k a r}:ev e k (a::r)=a.i*e k+ev e (k+1) r:=rfl
theorem LJ {e:Nat→Int} {k x y:Nat} {a b:Pn} {r s t:List Pn} (h:ev e (k+1) t=x*ev e (k+1) r+y*ev e (k+1) s):ev e k (xU x a y b::t)=x*ev e k (a::r)+y*ev e k (b::s):=by rw[LI,h,xX,LI,LI,aac,aac,Int.add_mul,Int.mul_assoc,Int.mul_assoc];exact LG
theorem oE {e:Nat→Int} {x y:Nat}: ∀k a b,ev e k (Hz x y a b)=x*ev e k a+y*ev e k b
 |_,[],[]=>rfl
 |k,[],_::s=>(LJ (x:=0) (a:=(0,0)) (r:=[]) ((oE (x:=0) (k+1) [] s).trans rfl)).trans (by show((0:Nat):Int)*_+_=x*0+_;rw[aal,Y0,aap])
 |k,_::r,[]=>(LJ (y:=0) (b:=(0,0)) (s:=[]) ((oE (k+1) r []).trans (by show _=_+((0:Nat):Int)*0;show _+_*0=_;rw[aap];rfl))).trans (by show _+((0:Nat):Int)*_=_+y*0;rw[aal,Y0,aap])
 |k,_::r,_::s=>LJ (oE (k+1) r s)
theorem oF {e:Nat→Int} {k x y:Nat} {a b:dy}:(tW x a y b).ev e k=x*a.ev e k+y*b.ev e k:=by rw[tW,dy.ev,dy.ev,dy.ev,oE,xX,aac,aac];exact LG
theorem KN {a b:Nat}:Pn.i (a,b)= -Pn.i (b,a):=(Int.neg_sub ..).symm
theorem mY {e:Nat→Int} {a:dy} (k):(tX a).ev e k= -a.ev e k:=by
 have: ∀(l:List Pn) k,ev e k (l.map fun c=>(c.2,c.1))= -ev e k l:=fun l=>by
  induction l with
  |nil=>exact fun ξ=>rfl
  |cons c l h=>intro k;rw[List.map,ev,h,ev,KN,Int.neg_mul];exact(Int.neg_add ..).symm
 rw[tX,dy.ev,this,dy.ev,KN];exact(Int.neg_add ..).symm
theorem zV {e:Nat→Int} {k:Nat} {r:dy}:r.ev e k=(lead r).i*e k+(LB r).ev e (k+1):=by
 obtain⟨c,l⟩:=r;cases l with
 |nil=>show _=0*_+_;rw[Y0,Y4];rfl
 |cons a l=>exact Int.add_left_comm ..
theorem Bs {x y:Nat}: ∀{p n:dy},lead (tW x p y n)=xU x (lead p) y (lead n)
 |(_,[]),(_,[])=>rfl
 |(_,[]),(_,_::_)=>rfl
 |(_,_::_),(_,[])=>rfl
 |(_,_::_),(_,_::_)=>rfl
theorem KO {a:Pn} (h:Nat.beq a.1 a.2=true):a.i=0:=by rw[Pn.i,ZI h];exact Int.sub_self _
theorem Wd {p n:Pn} (a:p.2≤p.1) (b:n.1≤n.2):((n.2-n.1:Nat):Int)*p.i+((p.1-p.2:Nat):Int)*n.i=0:=by rw[Int.ofNat_sub a,Int.ofNat_sub b];show(n.2-n.1:Int)*(p.1-p.2)+(p.1-p.2)*(n.1-n.2)=0;rw[Int.mul_comm,←aac];exact(W4 _ (by omega)).trans (aap _)
theorem Dr {e:Nat→Int} {k:Nat} {s:List dy} (h:sm e k s):sm e (k+1) (KJ s):=by
 intro r u;rcases W6.mp u with m1|m1
 ·obtain⟨q,x,rfl⟩:=Xj.mp m1;obtain⟨m,z⟩:=YD.mp x;have:=h q m;rw[zV,KO z,Y0,Y4] at this;exact this
 ·obtain⟨p,x,i⟩:=XT.mp m1;obtain⟨n,v,rfl⟩:=Xj.mp i;obtain⟨m,a⟩:=YD.mp x;obtain⟨j,b⟩:=YD.mp v;have a:=Xq (Yk a);have b:=Xq (Yk b);have w:=Int.mul_nonneg (YH ((lead n).2-(lead n).1)) (Int.neg_nonneg_of_nonpos (h p m));have y:=Int.mul_nonneg (YH ((lead p).1-(lead p).2)) (Int.neg_nonneg_of_nonpos (h n j));rw[Int.mul_neg] at w y;have t:=(zV (e:=e) (k:=k) (r:=tW ((lead n).2-(lead n).1) p ((lead p).1-(lead p).2) n)).symm.trans oF;rw[Bs,xX,Wd a b,Y0,Y4] at t;exact Int.le_trans (Int.le_of_eq t) (by omega)
theorem Ds {e:Nat→Int} {k:Nat} {n:List dy} (h:sm e k n) (b:n.any bad=true):False:=by
 obtain⟨r,m,b⟩:=YS.mp b;have:=h r m;obtain⟨b,w⟩:=YL.mp b;have z: ∀l:List Pn,(∀x∈l,Nat.beq x.1 x.2=true)→ ∀k,ev e k l=0:=fun l=>by
  induction l with
  |nil=>exact fun ξ ξ=>rfl
  |cons x l p=>intro z k;rw[ev,KO (z x (.head _)),p (fun y m=>z y (.tail _ m)),Y0];rfl
 rw[dy.ev,z r.2 (YT.mp w),Z4] at this;exact Nat.not_lt_of_le (Ye.mp (Int.le_of_sub_nonpos this)) (Yk b)
theorem KP {e:Nat→Int}: ∀f {k x},sm e k x→fm f x=true→False
 |0,_,_,h,b=>Ds h b
 |f+1,_,_,h,b=>(ZY.mp b).elim (Ds h) (KP f (Dr h))
def LS (e:Nat→Int) (x:Lf) (a:Int):Prop:= ∃p∈x,sm e 0 p.2∧p.1.ev e 0=a
theorem zW (e:Nat→Int): ∀i k,ev e k (xV i)=e (k+i)
 |0,k=>(W4 (· +0) (aad _)).trans (Z4 _)
 |i+1,k=>by rw[xV,ev,zW e i (k+1),show Pn.i (0,0)=0 from rfl,Y0,Y4,Nat.add_right_comm];rfl
theorem e8 {e:Nat→Int}:sm e 0 []:=nofun
theorem et {e:Nat→Int} {r:dy} {x:List dy} (h:r.ev e 0≤0) (t:sm e 0 x):sm e 0 (r::x):=List.forall_mem_cons.mpr ⟨h,t⟩
theorem gS {e:Nat→Int} {r s:List dy} (h:sm e 0 r) (t:sm e 0 s):sm e 0 (r++s):=fun x m=>(W6.mp m).elim (h x) (t x)
theorem oZ {e:Nat→Int} {r:dy} {a:Int} (h:r.ev e 0=a):LS e [(r,[])] a:=⟨_,.head _,e8,h⟩
theorem mZ {e:Nat→Int} {k:Nat}:LS e (num k) k:=oZ ((Z4 _).trans (Z5 _))
theorem o6 {e:Nat→Int} {k:Nat}:SO.ev e k=0:=rfl
theorem d4 {e:Nat→Int} {a b:dy} {k}:(gP a b).ev e k=a.ev e k-b.ev e k:=by rw[gP,oF,mY,Int.natCast_one,aad,aad];rfl
theorem o7 {e:Nat→Int} {a:dy} {k}:(up a).ev e k=a.ev e k+1:=by
 show((a.1.1+1:Nat):Int)-a.1.2+L.ev e k a.2=a.1.1-a.1.2+L.ev e k a.2+1
 omega
theorem lY {e:Nat→Int} {x:Nat} {a:dy} {k}:(sj x a).ev e k=x*a.ev e k:=by rw[sj,oF,aal,Y0,Z4]
theorem LS.cast {e:Nat→Int} {x:Lf} {a b:Int} (h:LS e x a) (q:a=b):LS e x b:=q▸h
theorem o8 {e:Nat→Int} {x:Lf} {a b:Int} {f:dy→dy} (h:LS e x a) (q: ∀r:dy,r.ev e 0=a→(f r).ev e 0=b):LS e (x.map fun c=>(f c.1,c.2)) b:=
 let⟨p,m,t,u⟩:=h
 ⟨_,Xj.mpr ⟨p,m,rfl⟩,t,q _ u⟩
theorem vu {e:Nat→Int} {x y:Lf} {a b c:Int} (h:LS e x a) (i:LS e y b) {f:dy→dy→Lf} (q: ∀r s:dy,r.ev e 0=a→s.ev e 0=b→LS e (f r s) c):LS e (Dq x y f) c:=
 let⟨p,m,t,u⟩:=h
 let⟨k,n,w,g⟩:=i
 let⟨z,j,l,v⟩:=q _ _ u g
 ⟨_,XT.mpr ⟨p,m,XT.mpr ⟨k,n,Xj.mpr ⟨z,j,rfl⟩⟩⟩,gS l (gS t w),v⟩
theorem oG {e:Nat→Int} {r s q w:dy} {a:Int} (h:(r.ev e 0=a∧q.ev e 0≤0)∨(s.ev e 0=a∧w.ev e 0≤0)):LS e [(r,[q]),(s,[w])] a:=
 h.elim (fun h=>⟨_,.head _,et h.2 e8,h.1⟩) fun h=>⟨_,.tail _ (.head _),et h.2 e8,h.1⟩
theorem Dt {e:Nat→Int} {r s:dy} {a b c:Int} (h:r.ev e 0=a) (i:s.ev e 0=b) (q:a+b=c):LS e [(tW 1 r 1 s,[])] c:=
 oZ (by rwa[oF,h,i,Int.natCast_one,aad,aad])
theorem Du {e:Nat→Int} {r s:dy} {a b c:Int} (h:r.ev e 0=a) (i:s.ev e 0=b) (q:a≤b∧a=c∨b<a∧b=c):LS e [(r,[gP r s]),(s,[up (gP s r)])] c:=
 oG (by rw[d4,o7,d4,h,i];exact q.imp (fun q=>⟨q.2,YM q.1⟩) fun q=>⟨q.2,Zg q.1⟩)
theorem LK {a b:Nat} {P Q:Prop} (h:b<a→P) (k:a≤b→Q):Q∨P:=(XF b a).elim (fun w=> .inr (h w)) fun w=> .inl (k w)
theorem O2 {a b:Int} {P Q:Prop} (h:b<a→P) (k:a≤b→Q):Q∨P:=(Int.lt_or_le b a).elim (fun w=> .inr (h w)) fun w=> .inl (k w)
theorem nz {a b:Nat} (h:a=b):(b:Int)=a:=W4 Int.ofNat h.symm
theorem zX {e:Nat→Int} {o:Nat} {a b:Nat} {c d:Int} {r s u v:dy} (h:r.ev e 0=a) (i:s.ev e 0=b) (j:u.ev e 0=c) (k:v.ev e 0=d):
  LS e (HA true o r s) (n2 a b o)∧LS e (HA false o u v) (z2 c d o):=by
 match o with
 |0=>exact⟨Dt h i (Zt ..).symm,Dt j k rfl⟩
 |1=>exact⟨oG (by rw[d4,d4,o7,d4,h,i,o6];exact LK (fun w=>⟨nz (ZJ (Xq w)),Zg (XG.mpr w)⟩) fun w=>⟨(Int.ofNat_sub w).symm,YM (Ye.mpr w)⟩),oZ (by rw[d4,j,k];rfl)⟩
 |2=>exact⟨Du h i (LK (fun w=>⟨XG.mpr w,nz (YU (Xq w))⟩) fun w=>⟨Ye.mpr w,nz (Yb w)⟩),Du j k (O2 (fun w=>⟨w,(Int.min_eq_right (Y5 w)).symm⟩) fun w=>⟨w,(ZV w).symm⟩)⟩
 |_+3=>exact⟨oG (by rw[d4,o7,d4,h,i];exact LK (fun w=>⟨nz (Nat.max_eq_left (Xq w)),Zg (XG.mpr w)⟩) fun w=>⟨nz (Nat.max_eq_right w),YM (Ye.mpr w)⟩),
   oG (by rw[d4,o7,d4,j,k];exact O2 (fun w=>⟨(Int.max_eq_left (Y5 w)).symm,Zg w⟩) fun w=>⟨(aam w).symm,YM w⟩)⟩
section
variable {vs:List Nat} {ws:List Int} {i:Bool} {F:List dy}
theorem O3 (k:Nat):en i vs ws (bif i then 2*k else k)=gN vs k:=match i with
 |true=>by show(bif 2*k%2==0 then _ else _)=_;rw[Nat.mul_mod_right];exact W4 (fun i=>(gN vs i:Int)) (Nat.mul_div_cancel_left k Nat.two_pos)
 |false=>rfl
theorem TA (k:Nat):en true vs ws (2*k+1)=gZ ws k:=by show(bif (2*k+1)%2==0 then _ else _)=_;rw[Nat.mul_add_mod];exact W4 (gZ ws) (Nat.mul_add_div Nat.two_pos k 1)
theorem Dv {e:Nat→Int} {i:Nat} {a:Int} (h:e i=a):dy.ev e 0 ((0,0),xV i)=a:=by rw[dy.ev,zW,X2,h];exact Y4 a
theorem KQ: ∀n,sm (en i vs ws) 0 (xW i n)
 |0=>e8
 |n+1=>et (by rw[mY,Dv (O3 n)];exact Zq (YH _)) (KQ n)
theorem KR {h:List dy} (t:sm (en i vs ws) 0 h):un i h≠true:=KP _ (gS t (KQ _))
theorem O4 {h:List dy} (t:sm (en i vs ws) 0 h):(!un i h)=true:=by rw[Bool.eq_false_iff.mpr (KR t)];rfl
theorem zY (k:sm (en i vs ws) 0 F) {x:Lf} {a:Int} (h:LS (en i vs ws) x a):LS (en i vs ws) (zU i F x) a:=by
 unfold zU;split
 ·exact h
 ·exact let⟨p,m,t,u⟩:=h;⟨p,YD.mpr ⟨m,O4 (gS k t)⟩,t,u⟩
theorem HB {e:Nat→Int} {x y:Lf} {a m:Nat} {b:Int} (h:LS e x a) (k:LS e y b) (o:Nat):LS e (LC o m x y).1 (n1 m a b o)∧LS e (LC o m x y).2 (z1 (.ofNat m) a b o):=by
 match o with
 |0=>exact⟨(o8 h fun r q=>lY.trans (W4 _ q)).cast (Zb ..).symm,o8 k fun r q=>lY.trans (W4 _ q)⟩
 |1=>exact⟨(o8 h fun r q=>lY.trans (W4 _ q)).cast ((Int.mul_comm ..).trans (Zb ..).symm),(o8 k fun r q=>lY.trans (W4 _ q)).cast (Int.mul_comm ..)⟩
 |o+2=>
  obtain⟨p,l,t,u⟩:=k;have q: ∀{s:dy} {c:Int},(0≤b→b=c)→(b<0→s.ev e 0=c)→LS e (y.flatMap fun c=>[(c.1,tX c.1::c.2),(s,up c.1::c.2)]) c:=fun{s c} q w=>by
   rcases Int.lt_or_le b 0 with z|z
   ·exact⟨_,XT.mpr ⟨p,l,.tail _ (.head _)⟩,et (by rwa[o7,u]) t,w z⟩
   ·exact⟨_,XT.mpr ⟨p,l,.head _⟩,et (by rw[mY,u];exact Zq z) t,u.trans (q z)⟩
  match o with
  |0=>exact⟨q (fun z=>(Int.toNat_of_nonneg z).symm) fun z=>W4 Int.ofNat (Int.toNat_of_nonpos (Y5 z)).symm,o8 ⟨p,l,t,u⟩ fun r q=>(mY 0).trans (W4 _ q)⟩
  |_+1=>
   refine⟨?_,h⟩;rcases Int.lt_or_le b 0 with z|z
   ·exact⟨_,XT.mpr ⟨p,l,.tail _ (.head _)⟩,et (by rwa[o7,u]) t,by rw[mY,u];exact(Int.ofNat_natAbs_of_nonpos (Y5 z)).symm⟩
   ·exact⟨_,XT.mpr ⟨p,l,.head _⟩,et (by rw[mY,u];exact Zq z) t,u.trans (Int.natAbs_of_nonneg z).symm⟩
theorem o9 (x:sm (en i vs ws) 0 F): ∀t:Tm,(i=false→t.lj=false)→LS (en i vs ws) (t.Dj i F).1 (t.val vs ws).1∧LS (en i vs ws) (t.Dj i F).2 (t.val vs ws).2
 | .v k,_=>⟨oZ (Dv (O3 k)),mZ⟩
 | .w k,h=>⟨mZ,match i,h with
  |true,_=>oZ (Dv (TA k))
  |false,h=>nomatch h rfl⟩
 | .l _,_=>⟨mZ,mZ⟩
 | .z _,_=>⟨mZ,mZ⟩
 | .u o _ a,h=>have q:=o9 x a h;HB q.1 q.2 o
 | .t _ a b,h=>
  have q:=o9 x a fun e=>(X0.mp (h e)).1;have r:=o9 x b fun e=>(X0.mp (h e)).2
  ⟨zY x (vu q.1 r.1 fun ξ ξ u v=>(zX (c:=0) (d:=0) u v o6 o6).1),zY x (vu q.2 r.2 fun ξ ξ u v=>(zX (a:=0) (b:=0) o6 o6 u v).2)⟩
def DS (e:Nat→Int) (d:Df):Prop:= ∃c∈d,sm e 0 c
variable {e:Nat→Int}
theorem Dw {x y:Df} (h:DS e x):DS e (x++y):=let⟨c,m,t⟩:=h;⟨c,ZR _ m,t⟩
theorem Dx {x y:Df} (h:DS e y):DS e (x++y):=let⟨c,m,t⟩:=h;⟨c,Ze _ m,t⟩
theorem iD {x y:Df} (h:DS e x) (i:DS e y):DS e (vr x y):=
 let⟨_,m,t⟩:=h
 let⟨_,k,n⟩:=i
 ⟨_,XT.mpr ⟨_,m,Xj.mpr ⟨_,k,rfl⟩⟩,gS t n⟩
theorem of {r:List dy} {d:Df} (h:sm e 0 r):DS e (r::d):=⟨_,.head _,h⟩
theorem TB {r:List dy} {d:Df} (h:DS e d):DS e (r::d):=let⟨c,m,t⟩:=h;⟨c,.tail _ m,t⟩
theorem t1 {r:dy} (h:r.ev e 0≤0):sm e 0 [r]:=et h e8
def sn (o:Nat) (a b:Int):Prop:=match o with
 |0=>a≤b
 |1=>a<b
 |_=>a=b
theorem tY {r s:dy} (h:r.ev e 0≤s.ev e 0):(gP r s).ev e 0≤0:=by rw[d4];exact YM h
theorem tZ {r s:dy} (h:r.ev e 0<s.ev e 0):(up (gP r s)).ev e 0≤0:=by rw[o7,d4];exact Zg h
theorem LL {p:Bool} {o:Nat} {a b:Int} {r s:dy} (h:r.ev e 0=a) (i:s.ev e 0=b) (q:if p then sn o a b else¬sn o a b):DS e (aE p o r s):=by
 subst h i
 match o,p with
 |0,true=>exact of (t1 (tY q))
 |0,false=>exact of (t1 (tZ (ZO.mp q)))
 |1,true=>exact of (t1 (tZ q))
 |1,false=>exact of (t1 (tY (Yx.mp q)))
 |_+2,true=>exact of (et (tY (Int.le_of_eq q)) (t1 (tY (Int.le_of_eq q.symm))))
 |_+2,false=>exact(Int.lt_or_gt_of_ne q).elim (fun l=>of (t1 (tZ l))) fun l=>TB (of (t1 (tZ l)))
theorem km {p:Bool} {o:Nat} {a b:Int} {x y:Lf} (h:LS e x a) (i:LS e y b) (q:if p then sn o a b else¬sn o a b):DS e (LD p o x y):=
 let⟨_,m,t,u⟩:=h
 let⟨_,k,n,r⟩:=i
 let⟨_,s,v⟩:=LL u r q
 ⟨_,XT.mpr ⟨_,m,XT.mpr ⟨_,k,Xj.mpr ⟨_,s,rfl⟩⟩⟩,gS v (gS t n)⟩
def OK (p:Bool) (P:Prop):Prop:=if p then P else¬P
theorem LN {p:Bool} {P Q:Prop} (h:P↔Q) (s:OK p P):OK p Q:=propext h▸s
theorem Dy (P:Prop):OK true P∨OK false P:=ZB P
theorem pd (n:sm (en i vs ws) 0 F): ∀(t:Tm),(i=false→t.lj=false)→ ∀p:Bool,OK p (t.pr vs ws)→DS (en i vs ws) (t.OJ i F p)
 | .v _,_,true,h=>h.elim
 | .v _,_,false,_=>of e8
 | .w _,_,_,_=>of e8
 | .l _,_,_,_=>of e8
 | .z _,_,_,_=>of e8
 | .u _ _ a,w,true,h=>pd n a w false h
 | .u _ _ a,w,false,h=>pd n a w true (Classical.not_not.mp h)
 | .t o a b,w,p,h=>by
  have s:i=false→a.lj=false:=fun e=>(X0.mp (w e)).1;have u:i=false→b.lj=false:=fun e=>(X0.mp (w e)).2;have q:=o9 n a s;have r:=o9 n b u;have k:=pd n a s;have m:=pd n b u
  match o with
  |0=>exact km q.1 r.1 (LN Ye.symm h)
  |1=>exact km q.1 r.1 (LN XG.symm h)
  |2=>exact km q.1 r.1 (LN Int.ofNat_inj.symm h)
  |3=>exact km q.2 r.2 h
  |4=>exact km q.2 r.2 h
  |5=>exact km q.2 r.2 h
  |6=>cases p with
   |true=>exact iD (k true h.1) (m true h.2)
   |false=>exact(Classical.not_and_iff_not_or_not.mp h).elim (fun h=>Dw (k false h)) fun h=>Dx (m false h)
  |7=>cases p with
   |true=>exact Or.elim h (fun h=>Dw (k true h)) fun h=>Dx (m true h)
   |false=>exact iD (k false fun x=>h (.inl x)) (m false fun x=>h (.inr x))
  |8=>cases p with
   |true=>exact(Dy _).elim (fun x=>Dx (m true (h x))) fun x=>Dw (k false x)
   |false=>exact iD (k true (Classical.not_imp.mp h).1) (m false (Classical.not_imp.mp h).2)
  |_+9=>cases p with
   |true=>exact(Dy _).elim (fun x=>Dw (iD (k true x) (m true (Iff.mp h x)))) fun x=>Dx (iD (k false x) (m false fun y=>x (Iff.mpr h y)))
   |false=>exact(Dy (a.pr vs ws)).elim (fun x=>Dw (iD (k true x) (m false fun y=>h ⟨fun ξ=>y,fun ξ=>x⟩))) fun x=>Dx (iD (k false x) (m true (Zn fun y=>h ⟨fun z=>(x z).elim,fun z=>(y z).elim⟩)))
theorem pf {h:Tm} {p:Bool} {d:Df} (w:i=false→h.lj=false) (q:OK p (h.pr vs ws)) (k:DS (en i vs ws) d):DS (en i vs ws) (add i h p d):=by
 obtain⟨r,m,t⟩:=k;obtain⟨c,x,n⟩:=pd t h w p q;have j:=gS n t;have l:c++r∈d.flatMap fun r=>(h.OJ i r p).map (· ++r):=XT.mpr ⟨r,m,Xj.mpr ⟨c,x,rfl⟩⟩;unfold add keep;split
 ·exact⟨_,l,j⟩
 ·exact⟨_,YD.mpr ⟨l,O4 j⟩,j⟩
theorem Dz: ∀(x:List Tm) (G:Prop),(i=false→x.any Tm.lj=false)→(DS (en i vs ws) (LF i x [[]])→G)→oD vs ws G x
 |[],_,_,h=>h (of e8)
 |_::x,_,w,k=>Dz x _ (fun e=>(X0.mp (w e)).2) fun d q=>k (pf (fun e=>(X0.mp (w e)).1) q d)
theorem O5 (K:Nat) (vs:List Nat) (ws:List Int) (h:rC K=true):Ar K vs ws:=by
 unfold Ar;unfold rC at h;split
 ·exact trivial
 ·rename_i g hs e;rw[e] at h;have w:(g.lj||hs.any Tm.lj)=false→g.lj=false∧hs.any Tm.lj=false:=X0.mp;exact Dz hs _ (fun e=>(w e).2) fun d=>Zn fun n=>
   let⟨_,m,t⟩:=pf (p:=false) (fun e=>(w e).1) n d
   KR t (YT.mp h _ m)
end
end Mine.Internal.L
namespace Mine.Internal
theorem ar (K:Nat) (vs:List Nat) (ws:List Int) (h:L.rC K=true:=by kernel_rfl):L.Ar K vs ws:=L.O5 K vs ws h
theorem dN (a k:Nat) (h:0<k:=by decide):k*(a/k)+a%k=a∧a%k<k:=⟨Nat.div_add_mod a k,Nat.mod_lt a h⟩
theorem dZ (a k:Int) (h:0<k:=by decide):k*(a/k)+a%k=a∧0≤a%k∧a%k<k:=⟨Int.mul_ediv_add_emod a k,Zc a (Int.ne_of_gt h),YI a h⟩
theorem bC {a:Nat} (K:Nat) (h:L.rC K=true:=by kernel_rfl):L.Ar K [a] []:=ar K _ _ h
theorem br {a b:Nat} (K:Nat) (h:L.rC K=true:=by kernel_rfl):L.Ar K [a,b] []:=ar K _ _ h
theorem bT {a b c:Nat} (K:Nat) (h:L.rC K=true:=by kernel_rfl):L.Ar K [a,b,c] []:=ar K _ _ h
theorem fH {a b c d:Nat} (K:Nat) (h:L.rC K=true:=by kernel_rfl):L.Ar K [a,b,c,d] []:=ar K _ _ h
theorem xQ {a b c d e:Nat} (K:Nat) (h:L.rC K=true:=by kernel_rfl):L.Ar K [a,b,c,d,e] []:=ar K _ _ h
theorem xY {a b c d e f:Nat} (K:Nat) (h:L.rC K=true:=by kernel_rfl):L.Ar K [a,b,c,d,e,f] []:=ar K _ _ h
theorem VL {a b c d e f g:Nat} (K:Nat) (h:L.rC K=true:=by kernel_rfl):L.Ar K [a,b,c,d,e,f,g] []:=ar K _ _ h
theorem O6 {a b c d e f g i:Nat} (K:Nat) (h:L.rC K=true:=by kernel_rfl):L.Ar K [a,b,c,d,e,f,g,i] []:=ar K _ _ h
theorem We {a b c d e f g i j:Nat} (K:Nat) (h:L.rC K=true:=by kernel_rfl):L.Ar K [a,b,c,d,e,f,g,i,j] []:=ar K _ _ h
theorem cU {a:Int} (K:Nat) (h:L.rC K=true:=by kernel_rfl):L.Ar K [] [a]:=ar K _ _ h
theorem lm {a b:Int} (K:Nat) (h:L.rC K=true:=by kernel_rfl):L.Ar K [] [a,b]:=ar K _ _ h
theorem O7 {a b c:Int} (K:Nat) (h:L.rC K=true:=by kernel_rfl):L.Ar K [] [a,b,c]:=ar K _ _ h
theorem VM {a b c d:Int} (K:Nat) (h:L.rC K=true:=by kernel_rfl):L.Ar K [] [a,b,c,d]:=ar K _ _ h
theorem Wf {a b c d e:Int} (K:Nat) (h:L.rC K=true:=by kernel_rfl):L.Ar K [] [a,b,c,d,e]:=ar K _ _ h
end Mine.Internal
namespace Mine.Internal
open PySem
def aw:true=true:=rfl
def bM {b:Nat} (h:Nat.ble a b=true):a≤b:=Yk h
def aU {p:Prop} [Decidable p] (h:decide p=true):p:=XY h
def dL {α:Type} {a b:α} (h:some a=some b):a=b:=W7 h
@[elab_as_elim] def Hi {α : Sort u} {motive : α → Prop} {a b : α} (h : a = b) (m : motive b) : motive a := h ▸ m
@[elab_as_elim] def Wg {α : Sort u} {motive : α → Prop} {a b : α} (h : a = b) (m : motive a) : motive b := h ▸ m
def dh {p:Prop} (h:false=true):p:=nomatch h
def Hj {p:Prop} (h:true=false):p:=nomatch h
def bH {α:Type} {x:α} {p:Prop} (h:none=some x):p:=nomatch h
def ph {α:Type} {x:α} {p:Prop} (h:some x=none):p:=nomatch h
inductive TY where
 |int|bool|str|bytes|bytearray|list|tuple|dict|range|so
inductive BI where
 |len|iE|abs|max|min|sum
inductive V where
 |none|bool (b:Bool)|int (i:Int)|str (s:Str)|bytes (b:List Nat)
 |aG (vs:List V)|ap (vs:List V)|eR (ks:List Int) (vs:List V)|inst (c:Nat) (ns:List Nat) (vs:List V)
 |ref (a:Nat)|bI (a:Nat)|ty (t:TY)|bi (b:BI)|t7 (lo hi:Int)
inductive Ob where
 |list (xs:List V)|dict (ks:List Int) (vs:List V)|inst (c:Nat) (ns:List Nat) (vs:List V)
inductive Hp where
 |e|c (a:Nat) (o:Ob) (H:Hp)
inductive Fr where
 |e|u (r:Fr)|c (v:V) (r:Fr)
inductive sq where
 |add|sub|mul|fdiv|xZ|O8
inductive Hk where
 |lt|le|gt|ge|eq|ne|is|i6|g8|jr
inductive LM where
 |append|cN|vv
set_option genCtorIdx false in
inductive E where
 |bad|none|tru|fls
 |int (i:Int)|str (s:Str)|bytes (b:List Nat)
 |ae (k:Nat)|af (i:Nat)
 |aS (op:sq) (a b:E)
 |neg (a:E)|not (a:E)
 |ay (isAnd:Bool) (es:List E)
 |aE (a:E) (op:Hk) (b:E)
 |jt (a:E) (op1:Hk) (b:E) (op2:Hk) (c:E)
 |ite (c a b:E)
 |call (f:E) (args:List E)
 |dM (o:E) (name:Nat) (args:List E)
 |bS (o:E) (m:LM) (args:List E)
 |lZ (o:E) (args:List E)
 |ai (o:E) (name:Nat)
 |bp (o i:E)
 |slice (o:E) (lo hi:Option E)
 |OL (o:E)
 |list (es:List E)|tuple (es:List E)|dict0
 |comp (elt:E) (eS:Nat) (it:E) (cond:Option E)
 |Bt (s1:Nat) (it:E) (s2:Nat)
 |mut (e:E)
set_option genCtorIdx false in
inductive It where
 |plain (e:E)|x3 (e:E)|items (e:E)
set_option genCtorIdx false in
inductive T where
 |name (eS:Nat)|ai (o:E) (name:Nat)|bp (o i:E)|aG (slots:List Nat)
set_option genCtorIdx false in
inductive S where
 |expr (e:E)|asg (t:T) (e:E)|iF (eS:Nat) (op:sq) (e:E)|rD (o:E) (name:Nat) (op:sq) (e:E)
 |ret (e:Option E)|bs (c:E) (a b:List S)|t8 (c:E) (b:List S) (js ex:List Nat)|cA (t:T) (it:It) (b:List S) (js ex:List Nat)
 |brk|cont|pass|raise|rB (eS:Nat)|Bu (eS name:Nat)|x4 (js:List Nat)
inductive Fl where
 |next|brk|cont|ret (v:V)
structure Fn where
 np:Nat
 nl:Nat
 dflt:List V
 body:List S
 vv:Option Nat
structure dO where
 globs:List V
 fn:Nat→Option Fn
 cls:Nat→Option (List (Nat×V))
 rB:Nat→Bool
def sr:Nat:=0
def bz:Nat:=1000000
def lk (n:Nat):List Nat→List V→Option V
 |m::h,v::e=>match Nat.beq m n with
  |true=>some v
  |false=>lk n h e
 |_,_=> .none
def iG (a b:Int):Bool:=decide (a=b)
def vw (n:Int):List Int→List V→Option V
 |m::h,v::e=>match iG m n with
  |true=>some v
  |false=>vw n h e
 |_,_=> .none
def vl (n:Nat) (v:V):List Nat→List V→(List Nat→List V→Prop)→Prop
 |m::h,w::e,K=>match Nat.beq m n with
  |true=>K (m::h) (v::e)
  |false=>vl n v h e fun a b=>K (m::a) (w::b)
 |_,_,K=>K [n] [v]
def an (H:Hp) (a:Nat):Option Ob:=match H with
 | .c b o H=>if b=a then some o else an H a
 | .e=> .none
def cz (H:Hp) (a:Nat) (o:Ob):Hp:=match H with
 | .c b p H=>if b=a then .c b o H else .c b p (cz H a o)
 | .e=> .e
def l4 (H:Hp) (a:Nat):Hp:=match H with
 | .c b p H=>if b=a then H else .c b p (l4 H a)
 | .e=> .e
def Hp.Hl (T H:Hp):Hp:=match T with
 | .c b p T=> .c b p (T.Hl H)
 | .e=>H
def Fr.get:Fr→Nat→Option V
 | .e,_=> .none
 | .u r,i=>match i with
  |0=> .none
  |i+1=>r.get i
 | .c v r,i=>match i with
  |0=>some v
  |i+1=>r.get i
def Fr.set:Fr→Nat→V→Fr
 | .e,_,_=> .e
 | .u r,i,v=>match i with
  |0=> .c v r
  |i+1=> .u (r.set i v)
 | .c w r,i,v=>match i with
  |0=> .c v r
  |i+1=> .c w (r.set i v)
def Fr.nK:Fr→Nat→List Nat→Fr
 | .e,_,_=> .e
 | .u r,i,h=>match h with
  |[]=> .u r
  |j::t=>match Nat.beq i j with
   |true=> .u (r.nK (i+1) t)
   |false=> .u (r.nK (i+1) (j::t))
 | .c w r,i,h=>match h with
  |[]=> .c w r
  |j::t=>match Nat.beq i j with
   |true=> .u (r.nK (i+1) t)
   |false=> .c w (r.nK (i+1) (j::t))
def Fr.er (r:Fr) (h:List Nat):Fr:=r.nK 0 h
def TC:Nat→Fr
 |0=> .e
 |n+1=> .u (TC n)
def HC:List V→Nat→Fr
 |v::h,n=> .c v (HC h n)
 |[],n=>TC n
def fg:Nat→Hp→V→V
 |0,_,v=>v
 |n+1,T,v=>
  let f:List V→List V:=match n with
   |0=>fun h=>h
   |_+1=>fun h=>h.map (fg n T)
  match v with
  | .ref a=>match an T a with
   |some o=>match o with
    | .list h=> .ap (f h)
    | .dict x e=> .eR x e
    | .inst c k e=> .inst c k (f e)
   | .none=>v
  | .ap h=> .ap (f h)
  |v=>v
def truthy:V→Option Bool
 | .bool b=>some b
 |_=> .none
def toDs (f:V→Option PyData):List V→Option (List PyData)
 |[]=>some []
 |v::h=>match f v with
  |some d=>match toDs f h with
   |some e=>some (d::e)
   | .none=> .none
  | .none=> .none
def toD:Nat→V→Option PyData
 |0,_=> .none
 |n+1,v=>match v with
  | .none=>some .none
  | .bool b=>some (.bool b)
  | .int i=>some (.int i)
  | .str s=>if PyData.strOk s=true then some (.str s) else .none
  | .aG h=>match toDs (toD n) h with
   |some e=>some (.tuple e)
   | .none=> .none
  | .ap h=>match toDs (toD n) h with
   |some e=>some (.list e)
   | .none=> .none
  |_=> .none
def bW:Nat:=12
def Hm (x y:V):Option Bool:=match toD bW x with
 |some a=>match toD bW y with
  |some b=>some (PyData.eqv a b)
  | .none=> .none
 | .none=> .none
def kq (x y:V):Bool:=match x,y with
 | .ap h,.ap e=>h.length !=e.length
 |_,_=>false
def i7:V→Option (List V)
 | .aG h=>some h
 | .ap h=>some h
 |_=> .none
def g8 (v c:V):Option Bool:=match c with
 | .eR h _=>match v with
  | .int k=>some (h.any fun e=>iG e k)
  |_=> .none
 |c=>match i7 c with
  |some x=>match toDs (toD bW) x with
   |some m=>match toD bW v with
    |some d=>some (m.any fun e=>PyData.eqv e d)
    | .none=> .none
   | .none=> .none
  | .none=> .none
def Bv (f:Int→Int→Bool) (a b:V):Option Bool:=match a with
 | .int x=>match b with
  | .int y=>some (f x y)
  |_=> .none
 |_=> .none
def isNone (a b:V):Option Bool:=match b with
 | .none=>match a with
  | .none=>some true
  |_=>some false
 |_=> .none
def neg (o:Option Bool):Option Bool:=match o with
 |some b=>some (!b)
 | .none=> .none
def lp (h:Hk) (a b:V):Option Bool:=match h with
 | .lt=>Bv (fun x y=>decide (x<y)) a b
 | .le=>Bv (fun x y=>decide (x≤y)) a b
 | .gt=>Bv (fun x y=>decide (y<x)) a b
 | .ge=>Bv (fun x y=>decide (y≤x)) a b
 | .eq=>match kq a b with
  |true=>some false
  |false=>Hm a b
 | .ne=>neg (Hm a b)
 | .is=>isNone a b
 | .i6=>neg (isNone a b)
 | .g8=>g8 a b
 | .jr=>neg (g8 a b)
def de (p:Prop) [Decidable p] (v:V):Option V:=if p then some v else .none
def LO (h:sq) (x y:Int):Option V:=match h with
 | .add=>some (.int (x+y))
 | .sub=>some (.int (x-y))
 | .mul=>de (x.natAbs<2^64∨y.natAbs<2^64) (.int (x*y))
 | .fdiv=>de (0<y∧y.natAbs<2^64) (.int (x/y))
 | .xZ=>de (0<y) (.int (x%y))
 | .O8=>de (0≤y∧y≤1000∧x.natAbs<2^64) (.int (x^y.toNat))
def DA (k:sq) (a b:V):Option V:=match a with
 | .int x=>match b with
  | .int y=>LO k x y
  |_=> .none
 | .aG h=>match k with
  | .add=>match b with
   | .aG e=>de (h.length+e.length≤bz) (.aG (h++e))
   |_=> .none
  |_=> .none
 | .ap h=>match k with
  | .add=>match b with
   | .ap e=>de (h.length+e.length≤bz) (.ap (h++e))
   |_=> .none
  | .mul=>match b with
   | .int y=>de (0≤y∧h.length*y.toNat≤bz∧y<2^63) (.ap (List.replicate y.toNat h).flatten)
   |_=> .none
  |_=> .none
 | .str x=>match k with
  | .add=>match b with
   | .str y=>de (x.length+y.length≤bz) (.str (x++y))
   |_=> .none
  |_=> .none
 |_=> .none
def place (n:Nat) (i:Int):Option Nat:=
 if 0≤i then(if i<n then some i.toNat else .none) else if 0≤i+n then some (i+n).toNat else .none
def fK (o i:V):Option V:=match i with
 | .int k=>match o with
  | .eR e x=>vw k e x
  | .str s=>if s.length≤bz then(place s.length k).bind fun j=>(s.cps[j]?).map fun c=>V.str ⟨#[c]⟩ else .none
  |o=>match i7 o with
   |some h=>(place h.length k).bind fun j=>h[j]?
   | .none=> .none
 |_=> .none
def gQ (n:Nat) (i:Int):Nat:=if i<0 then(i+n).toNat else min i.toNat n
def hX {α:Type} (h:List α) (lo e:Option Int):List α:=
 let a:=(lo.map (gQ h.length)).getD 0
 let b:=(e.map (gQ h.length)).getD h.length
 (h.drop a).take (b-a)
def g9:Option V→Option (Option Int)
 | .none=>some .none
 |some (.int i)=>if i.natAbs<bz then some (some i) else .none
 |some _=> .none
def dz (o:V) (lo e:Option V):Option V:=match g9 lo with
 |some a=>match g9 e with
  |some b=>match o with
   | .aG h=>some (.aG (hX h a b))
   | .ap h=>some (.ap (hX h a b))
   |_=> .none
  | .none=> .none
 | .none=> .none
def O9 (o:V):Option V:=match o with
 | .ap h=>some (.ap h.reverse)
 |_=> .none
def dP (a b:Int):List Int:=(List.range (b-a).toNat).map fun(k:Nat)=>a+Int.ofNat k
def cG (a b:Int):List V:=(dP a b).map V.int
def vy:Option V→Bool
 |some (.bI _)=>true
 |_=>false
def pi (P:dO) (c:Nat) (e:List Nat) (x:List V) (n:Nat):Option V:=match P.cls c with
 |some h=>match lk n e x with
  |some v=>match vy (h.lookup n) with
   |true=> .none
   |false=>some v
  | .none=>match h.lookup n with
   |some (.int i)=>some (.int i)
   |_=> .none
 | .none=> .none
def LP (P:dO) (c:Nat) (e:List Nat) (x:List V) (n:Nat):Option Nat:=match P.cls c with
 |some h=>match lk n e x with
  |some _=> .none
  | .none=>match h.lookup n with
   |some (.bI f)=>some f
   |_=> .none
 | .none=> .none
def KS (v:V) (t:TY):Option Bool:=match t with
 | .int=>match v with
  | .int _=>some true
  |_=> .none
 | .bool=>match v with
  | .int _=>some false
  |_=> .none
 | .str=>match v with
  | .str _=>some true
  |_=> .none
 | .tuple=>match v with
  | .aG _=>some true
  | .ap _=>some false
  |_=> .none
 | .list=>match v with
  | .ap _=>some true
  |_=> .none
 | .bytes=>match v with
  | .bytes _=>some true
  |_=> .none
 |_=> .none
def TY.c:TY→Nat
 | .int=>0| .bool=>1| .str=>2| .bytes=>3| .bytearray=>4| .list=>5| .tuple=>6| .dict=>7| .range=>8| .so=>9
def t9:List V→Option (List Nat)
 |[]=>some []
 |v::r=>match v with
  | .ty t=>match t9 r with
   |some l=>some (t.c::l)
   | .none=> .none
  |_=> .none
def TD:V→Option Bool
 | .aG _=>some true
 | .ap _=>some true
 |_=> .none
def O':V→Option Bool
 | .bytes _=>some true
 |_=> .none
def LQ (v:V) (l:List Nat):Option Bool:=match decide (l=[6,5]) with
 |true=>TD v
 |false=>match decide (l=[3,4,5,6]) with
  |true=>O' v
  |false=> .none
def t' (v:V) (h:List V):Option Bool:=match t9 h with
 |some l=>LQ v l
 | .none=> .none
def eu:List V→Option Int
 |[]=>some 0
 |v::r=>match v with
  | .int i=>match eu r with
   |some j=>some (i+j)
   | .none=> .none
  |_=> .none
def LR (f:Int→Int→Int) (v w:V):Option V:=match v with
 | .int i=>match w with
  | .int j=>some (.int (f i j))
  |_=> .none
 |_=> .none
def hE (b:BI) (args:List V):Option V:=match args with
 |[v]=>match b with
  | .len=>match i7 v with
   |some h=>some (.int h.length)
   | .none=> .none
  | .abs=>match v with
   | .int i=>some (.int (if i<0 then-i else i))
   |_=> .none
  | .sum=>match v with
   | .ap h=>match eu h with
    |some i=>some (.int i)
    | .none=> .none
   |_=> .none
  |_=> .none
 |[v,w]=>match b with
  | .iE=>match w with
   | .ty t=>(KS v t).map .bool
   | .aG e=>(t' v e).map .bool
   |_=> .none
  | .max=>LR (fun i j=>if i<j then j else i) v w
  | .min=>LR (fun i j=>if j<i then j else i) v w
  |_=> .none
 |_=> .none
def ua:V→Option (Int×V)
 | .aG l=>match l with
  |a::l=>match a with
   | .int k=>match l with
    |w::l=>match l with
     |[]=>some (k,w)
     |_::_=> .none
    |[]=> .none
   |_=> .none
  |[]=> .none
 |_=> .none
def DB (p:Option (Int×V)) (q:Option (List Int×List V)):Option (List Int×List V):=match p with
 |some p=>match q with
  |some q=>if p.1∈q.1 then .none else some (p.1::q.1,p.2::q.2)
  | .none=> .none
 | .none=> .none
def dQ:List V→Option (List Int×List V)
 |[]=>some ([],[])
 |v::r=>DB (ua v) (dQ r)
def ju (t:TY) (args:List V):Option V:=match args with
 |[v]=>match t with
  | .range=>match v with
   | .int n=>de (n.natAbs<bz) (.t7 0 n)
   |_=> .none
  | .int=>match v with
   | .bool b=>some (.int (match b with
    |true=>1
    |false=>0))
   |_=> .none
  | .bytes=>match v with
   | .bytes b=>some (.bytes b)
   |_=> .none
  | .tuple=>match v with
   | .bytes b=>de (b.length≤bz) (.aG (b.map fun(n:Nat)=>V.int n))
   |v=>(i7 v).map .aG
  | .list=>(i7 v).map .ap
  | .dict=>match v with
   | .eR h e=>de (h.length<bz) (.eR h e)
   | .ap x=>match dQ x with
    |some (h,e)=>de (h.length<bz) (.eR h e)
    | .none=> .none
   |_=> .none
  |_=> .none
 |[v,w]=>match t with
  | .range=>match v with
   | .int a=>match w with
    | .int n=>de (a.natAbs<bz∧n.natAbs<bz) (.t7 a n)
    |_=> .none
   |_=> .none
  |_=> .none
 |_=> .none
def gU (o:V):Option (List V):=match o with
 | .bytes b=>some (b.map fun(n:Nat)=>V.int n)
 | .t7 a b=>some (cG a b)
 | .eR h _=>some (h.map V.int)
 |o=>i7 o
def ib (n:Nat):List V→List V
 |[]=>[]
 |x::h=> .aG [.int n,x]::ib (n+1) h
def su (o:V):Option (List V):=match o with
 | .ap h=>some (ib 0 h)
 | .aG h=>match h with
  |[]=>some []
  |_=> .none
 |_=> .none
def x5:List Int→List V→List V
 |k::h,v::e=> .aG [.int k,v]::x5 h e
 |_,_=>[]
def m5 (o:V):Option (List V):=match o with
 | .eR h e=>some (x5 h e)
 |_=> .none
def kN (o:V):Option (List V):=match i7 o with
 |some h=>go h
 | .none=> .none
where go:List V→Option (List V)
 |[]=>some []
 |x::h=>match x with
  | .ap e=>(go h).map (e++ ·)
  |_=> .none
def cK:List Nat→List V→Fr→Option Fr
 |[],[],h=>some h
 |i::e,v::x,h=>cK e x (h.set i v)
 |_,_,_=> .none
def m6:TY→String
 | .int=>"int"| .bool=>"bool"| .str=>"str"| .bytes=>"bytes"| .bytearray=>"bytearray"| .list=>"list"| .tuple=>"tuple"| .dict=>"dict"| .range=>"range"| .so=>"enumerate"
def pj:BI→String
 | .len=>"len"| .iE=>"isinstance"| .abs=>"abs"| .max=>"max"| .min=>"min"| .sum=>"sum"
def cV:Nat:=16000000
end Mine.Internal
set_option tactic.hygienic false
open Lean in
local macro_rules (kind:=Lean.Parser.Tactic.injections)
 |s=>do
  let a:=s[1].getArgs
  if a.size==1 then return mkNullNode
  let e:Term:= ⟨a[0]!⟩
  let x:Ident:= ⟨a[1]!⟩
  return mkNullNode #[←`(tactic|letI $x :=Prod.fst $e),s.setArg 1 (mkNullNode (#[(Syntax.mkApp (mkIdent `Prod.snd) #[e]).raw]++a.extract 2 a.size))]
local macro_rules (kind:=Lean.Parser.Tactic.show)
 |s=>`(tactic|refine (?_ : $(⟨s[1]⟩)))
open Lean in
local macro_rules (kind:=Lean.Parser.Tactic.change)
 |s=>if s[2].getNumArgs==0 then return s.setKind `Lean.Parser.Tactic.show else Macro.throwUnsupported
open Lean in
local macro_rules (kind:=Lean.Parser.Tactic.rwSeq)
 |s=>do
  let l:=s[3][0][1][0]
  if s[1][0].getNumArgs>0||l.getNumArgs>1 then Macro.throwUnsupported
  let a:=s[2][1].getArgs
  let e:Term:= ⟨a[0]![1]⟩
  let h:Ident:= ⟨l[0]⟩
  let v:=a[0]![0].getNumArgs==0
  let f:=fun x=>s.setArg 2 (s[2].setArg 1 (mkNullNode x))
  let t ← if l.getNumArgs==0 then `(tactic|refine $(mkIdent (if v then `Hi else `Wg)) $e ?_) else do
    let e ← if v then pure e else `(Eq.symm $e)
    if a.size==1 then `(tactic|replace $h :=$e ▸ $h) else `(tactic|(haveI q:=$e ▸ $h;clear $h;haveI $h :=q;clear q))
  return mkNullNode #[←`(tactic|first|$t:tactic|$(⟨(f #[a[0]!]).setKind `Lean.Parser.Tactic.rewriteSeq⟩):tactic),←if a.size==1 then `(tactic|try with_reducible rfl) else pure ⟨f (a.extract 2 a.size)⟩]
namespace Mine.Internal
open PySem
abbrev bX:=List Expr
abbrev ax:=List Value
abbrev Bw:=List E
abbrev aN:=List V
abbrev aL:=List Nat
abbrev ah:=List Int
abbrev cy:=Fl→Fr→Hp→Prop
abbrev Kt:=aN→Fr→Hp→cy→Prop
abbrev Tr:=(V→Hp→Prop)→Prop
abbrev bG:=Nat→aN→Hp→Tr
def Y1 {α:Type} (o:Option α) (Q:α→Prop):Prop:=match o with
 |some a=>Q a
 |none=>False
structure Y2 (t:Tr) (Q:V→Hp→Prop):Prop where
 go:t Q
def KU {t:Tr}:Y2 t Q=t Q:=propext ⟨fun h=>h.go,fun h=>⟨h⟩⟩
def Y3 (t:cy→Prop) (Q:cy):Prop:=t Q
def zZ (b:Bool) (A B:Prop):Prop:=match b with
 |true=>A
 |false=>B
def Wh (h b:Bool) (A B:Prop):Prop:=match h with
 |true=>zZ b A B
 |false=>zZ b B A
def Yr (o:Option Ob) (K:V→Prop):Prop:=match o with
 |some o=>match o with
  | .list h=>K (.ap h)
  | .dict e x=>K (.eR e x)
  | .inst .. =>False
 | .none=>False
def Yl (o:Option Ob) (K:aN→Prop):Prop:=match o with
 |some o=>match o with
  | .list h=>K h
  |_=>False
 | .none=>False
def Yi (o:Option Ob) (K:Nat→aL→aN→Prop):Prop:=match o with
 |some o=>match o with
  | .inst c h e=>K c h e
  |_=>False
 | .none=>False
def x6 (H:Hp) (v:V) (K:V→Prop):Prop:=match v with
 | .ref a=>Yr (an H a) K
 |v=>K v
def SP (H:Hp) (v:V) (K:Nat→aL→aN→Prop):Prop:=match v with
 | .ref a=>Yi (an H a) K
 | .inst c h e=>K c h e
 |_=>False
def OM (H:Hp) (v:V) (K:Nat→aN→Prop):Prop:=match v with
 | .ref a=>Yl (an H a) (K a)
 |_=>False
def og (k:Kt) (st:aN) (h:Fr) (H:Hp) (Q:cy) (v:V):Prop:=k (v::st) h H Q
def SQ (k:Kt) (st:aN) (h:Fr) (Q:cy) (v:V) (H:Hp):Prop:=k (v::st) h H Q
def VN (k:Kt) (st:aN) (h:Fr) (H:Hp) (Q:cy) (b:Bool):Prop:=k (.bool b::st) h H Q
def Wi (k:Kt) (st:aN) (H:Hp) (Q:cy) (h:Fr):Prop:=k st h H Q
def ON (e x:Kt) (st:aN) (h:Fr) (H:Hp) (Q:cy) (b:Bool):Prop:=zZ b (e st h H Q) (x st h H Q)
def TF (h:Bool) (x k:Kt) (st:aN) (e:Fr) (H:Hp) (Q:cy) (b:Bool):Prop:=Wh h b (x st e H Q) (k (.bool (!h)::st) e H Q)
def vz:Nat→aN→aN→(aN→aN→Prop)→Prop
 |0,h,st,f=>f h st
 |n+1,h,st,f=>match st with
  |v::st=>vz n (v::h) st f
  |[]=>False
def dT (e:aL) (J:Fr→Hp→Prop) (Q:cy):cy:=fun x h H=>match x with
 | .next=>J (h.er e) H
 | .cont=>J (h.er e) H
 | .brk=>Q .next h H
 | .ret v=>Q (.ret v) h H
def i8 (e:aL) (k:Kt) (Q:cy):cy:=fun fl h H=>match fl with
 | .next=>k [] (h.er e) H Q
 |fl=>Q fl h H
def bn:Kt:=fun ξ h H Q=>Q .next h H
def LU:Kt:=fun ξ h H Q=>Q .brk h H
def x7:Kt:=fun st h H Q=>match st with
 |v::_=>Q (.ret v) h H
 |[]=>False
def rE (a b:Kt→Kt) (k:aL) (e:aN) (h:Fr) (H:Hp) (Q:cy):Prop:=
 ∃I:Nat→Fr→Hp→Prop,I 0 h H∧(∀h H,I e.length h H→Q .next h H)∧ ∀i x,e[i]?=some x→ ∀h H,I i h H→a (b bn) [x] h H (dT k (I (i+1)) Q)
def DC (t:Kt→Kt→Kt) (b:Kt→Kt) (e:aL) (h:Fr) (H:Hp) (Q:cy):Prop:=
 ∃I:Nat→Fr→Hp→Prop,(∃n,I n h H)∧ ∀k h H,I k h H→t (b bn) LU [] h H (dT e (fun h H=> ∃j,j<k∧I j h H) Q)
def LV (I:aN→Hp→Prop) (h:aN):cy:=fun e x H=>match e with
 | .ret v=>I (h++[v]) H
 | .next=>I h H
 |_=>False
def nL (c:Kt→Kt→Kt) (e:Kt→Kt) (h:Nat) (m:aN) (n:Fr) (H:Hp) (R:aN→Hp→Prop):Prop:=
 ∃I:Nat→aN→Hp→Prop,I 0 [] H∧(∀k H,I m.length k H→R k H)∧ ∀i x,m[i]?=some x→ ∀k H,I i k H→c (e x7) bn [] (n.set h x) H (LV (I (i+1)) k)
def TG (h:sq) (k:Kt):Kt:=fun st e H Q=>match st with
 |y::x::st=>Y1 (DA h x y) (og k st e H Q)
 |_=>False
def Pa (k:Kt):Kt:=fun st h H Q=>match st with
 | .int i::st=>k (.int (-i)::st) h H Q
 |_=>False
def Pb (k:Kt):Kt:=fun st h H Q=>match st with
 | .bool b::st=>k (.bool (!b)::st) h H Q
 |_=>False
def Pc (h:Hk) (K:Bool→Prop) (x y:V):Prop:=Y1 (lp h x y) K
def Pd (h:Hk) (K:Bool→Prop) (H:Hp) (y x:V):Prop:=x6 H y (Pc h K x)
def LW (h:Hk) (k:Kt):Kt:=fun st e H Q=>match st with
 |y::x::st=>x6 H x (Pd h (VN k st e H Q) H y)
 |_=>False
def TH (h:Hk) (k m:Kt):Kt:=fun st e H Q=>match st with
 |y::x::st=>Y1 (lp h x y) fun r=>zZ r (k (y::st) e H Q) (m (.bool false::st) e H Q)
 |_=>False
def KV (b:BI) (K:V→Prop) (h:aN) (v:V):Prop:=match b with
 | .len=>Y1 (hE .len [v]) K
 |b=>Y1 (hE b h) K
def vA (C:bG) (k:Kt) (h:Fr) (H:Hp) (Q:cy) (vs st:aN):Prop:=match st with
 |f::st=>match f with
  | .bI a=>Y2 (C a vs H) (SQ k st h Q)
  | .ty t=>Y1 (ju t vs) (og k st h H Q)
  | .bi b=>match vs with
   |[v]=>x6 H v (KV b (og k st h H Q) vs)
   |vs=>Y1 (hE b vs) (og k st h H Q)
  |_=>False
 |[]=>False
def Pe (C:bG) (n:Nat) (k:Kt):Kt:=fun st h H Q=>vz n [] st (vA C k h H Q)
def Pf (P:dO) (n:Nat) (k:Kt) (st:aN) (h:Fr) (H:Hp) (Q:cy) (c:Nat) (e:aL) (x:aN):Prop:=Y1 (LP P c e x n) fun f=>k (.bI f::st) h H Q
def LX (P:dO) (n:Nat) (k:Kt):Kt:=fun st h H Q=>match st with
 |x::st=>SP H x (Pf P n k (x::st) h H Q)
 |[]=>False
def TJ (C:bG) (k:Kt) (h:Fr) (H:Hp) (Q:cy) (e st:aN):Prop:=match st with
 |f::x::st=>match f with
  | .bI f=>Y2 (C f (x::e) H) (SQ k st h Q)
  |_=>False
 |_=>False
def TK (C:bG) (n:Nat) (k:Kt):Kt:=fun st h H Q=>vz n [] st (TJ C k h H Q)
def LY (k:Kt):Kt:=fun st h H Q=>match st with
 |x::st=>OM H x fun ξ ξ=>k (x::st) h H Q
 |[]=>False
def VP (A:Prop) (y:V):Prop:=match y with
 | .eR _ _=>A
 |_=>False
def LZ (k:Kt):Kt:=fun st h H Q=>match st with
 |x::st=>x6 H x (VP (k (x::st) h H Q))
 |[]=>False
def HD (k:Kt):Kt:=fun st e H Q=>match st with
 |v::x::st=>OM H x fun a h=>h.length<bz∧k (.none::st) e (cz H a (.list (h++[v]))) Q
 |_=>False
def DD (k:Kt):Kt:=fun st m H Q=>match st with
 |v::x::st=>OM H x fun a h=>Y1 (i7 v) fun e=>h.length+e.length<bz∧k (.none::st) m (cz H a (.list (h++e))) Q
 |_=>False
def HE (k:Kt):Kt:=fun st m H Q=>match st with
 |x::st=>OM H x fun a h=> ∃e v,h=e++[v]∧h.length<bz∧k (v::st) m (cz H a (.list e)) Q
 |_=>False
structure Yg (o:Option V) (d:V) (K:V→Prop):Prop where
 go:K (o.getD d)
def z3 (k:Kt) (st:aN) (h:Fr) (H:Hp) (Q:cy) (e d:V) (y:V):Prop:=match y with
 | .eR x m=>match e with
  | .int i=>Yg (vw i x m) d (og k st h H Q)
  |_=>False
 |_=>False
def KW (k:Kt):Kt:=fun st h H Q=>match st with
 |k'::x::st=>x6 H x (z3 k st h H Q k' .none)
 |_=>False
def KX (k:Kt):Kt:=fun st h H Q=>match st with
 |d::e::x::st=>x6 H x (z3 k st h H Q e d)
 |_=>False
def KY (P:dO) (n:Nat) (K:V→Prop) (c:Nat) (h:aL) (e:aN):Prop:=Y1 (pi P c h e n) K
def Pg (P:dO) (n:Nat) (k:Kt):Kt:=fun st h H Q=>match st with
 |x::st=>SP H x (KY P n (og k st h H Q))
 |[]=>False
def TL (K:V→Prop) (i x:V):Prop:=Y1 (fK x i) K
def TM (k:Kt):Kt:=fun st h H Q=>match st with
 |i::x::st=>x6 H x (TL (og k st h H Q) i)
 |_=>False
def Ph (K:V→Prop) (lo h:Option V) (x:V):Prop:=Y1 (dz x lo h) K
def TN (k:Kt):Kt:=fun st h H Q=>match st with
 |x::st=>x6 H x (Ph (og k st h H Q) .none .none)
 |_=>False
def TO (k:Kt):Kt:=fun st h H Q=>match st with
 |a::x::st=>x6 H x (Ph (og k st h H Q) (some a) .none)
 |_=>False
def TP (k:Kt):Kt:=fun st h H Q=>match st with
 |b::x::st=>x6 H x (Ph (og k st h H Q) .none (some b))
 |_=>False
def TQ (k:Kt):Kt:=fun st h H Q=>match st with
 |b::a::x::st=>x6 H x (Ph (og k st h H Q) (some a) (some b))
 |_=>False
def TR (k:Kt):Kt:=fun st h H Q=>match st with
 |x::st=>Y1 (O9 x) (og k st h H Q)
 |[]=>False
def TS (k:Kt) (h:Fr) (H:Hp) (Q:cy) (e st:aN):Prop:=k (.ap e::st) h H Q
def Pj (n:Nat) (k:Kt):Kt:=fun st h H Q=>vz n [] st (TS k h H Q)
def TU (k:Kt) (h:Fr) (H:Hp) (Q:cy) (e st:aN):Prop:=k (.aG e::st) h H Q
def L0 (n:Nat) (k:Kt):Kt:=fun st h H Q=>vz n [] st (TU k h H Q)
def x8 (h e:Kt):Kt:=fun st x H Q=>match st with
 |v::st=>Y1 (truthy v) (ON h e st x H Q)
 |[]=>False
def Wj (h:Bool) (e k:Kt):Kt:=fun st x H Q=>match st with
 |v::st=>Y1 (truthy v) (TF h e k st x H Q)
 |[]=>False
def Pk (k:Kt) (st:aN) (e:Fr) (Q:cy) (h:aN) (H:Hp):Prop:=h.length≤bz∧k (.ap h::st) e H Q
def Wk (c:Kt→Kt→Kt) (e:Kt→Kt) (h:Nat) (k:Kt) (st:aN) (x:Fr) (H:Hp) (Q:cy) (m:aN):Prop:=nL c e h m x H (Pk k st x Q)
def KZ (c:Kt→Kt→Kt) (e:Kt→Kt) (h:Nat) (k:Kt):Kt:=fun st m H Q=>match st with
 |x::st=>Y1 (gU x) (Wk c e h k st m H Q)
 |[]=>False
def Wl (k:Kt) (st:aN) (h:Fr) (H:Hp) (Q:cy) (e:aN):Prop:=Pk k st h Q e H
def Pl (k:Kt):Kt:=fun st h H Q=>match st with
 |x::st=>Y1 (kN x) (Wl k st h H Q)
 |[]=>False
def TV (k:Kt):Kt:=fun st h H Q=>match st with
 |v::st=>match v with
  | .ap e=> ∀a,an H a= .none→k (.ref a::st) h (.c a (.list e) H) Q
  | .eR x m=> ∀a,an H a= .none→k (.ref a::st) h (.c a (.dict x m) H) Q
  |_=>False
 |[]=>False
mutual
noncomputable def ME (P:dO) (C:bG):E→Kt→Kt
 | .bad,_=>fun ξ ξ ξ ξ=>False
 | .none,k=>fun st h H Q=>k (.none::st) h H Q
 | .tru,k=>fun st h H Q=>k (.bool true::st) h H Q
 | .fls,k=>fun st h H Q=>k (.bool false::st) h H Q
 | .int i,k=>fun st h H Q=>k (.int i::st) h H Q
 | .str s,k=>fun st h H Q=>k (.str s::st) h H Q
 | .bytes b,k=>fun st h H Q=>k (.bytes b::st) h H Q
 | .ae i,k=>fun st h H Q=>Y1 P.globs[i]? (og k st h H Q)
 | .af i,k=>fun st h H Q=>Y1 (h.get i) (og k st h H Q)
 | .aS r a b,k=>ME P C a (ME P C b (TG r k))
 | .neg a,k=>ME P C a (Pa k)
 | .not a,k=>ME P C a (Pb k)
 | .ay x p,k=>Pm P C x p k
 | .aE a r b,k=>ME P C a (ME P C b (LW r k))
 | .jt a t b u c,k=>ME P C a (ME P C b (TH t (ME P C c (LW u k)) k))
 | .ite c a b,k=>MT P C c (ME P C c) (ME P C a k) (ME P C b k)
 | .call f args,k=>ME P C f (DE P C args (Pe C args.length k))
 | .dM o n args,k=>ME P C o (LX P n (DE P C args (TK C args.length k)))
 | .bS o m args,k=>ME P C o (LY (DE P C args (match m with
  | .append=>HD k
  | .cN=>DD k
  | .vv=>HE k)))
 | .lZ o args,k=>ME P C o (LZ (DE P C args (match args with
  |[_]=>KW k
  |_=>KX k)))
 | .ai o n,k=>ME P C o (Pg P n k)
 | .bp o i,k=>ME P C o (ME P C i (TM k))
 | .slice o lo y,k=>ME P C o (match lo,y with
  | .none,.none=>TN k
  |some a,.none=>ME P C a (TO k)
  | .none,some b=>ME P C b (TP k)
  |some a,some b=>ME P C a (ME P C b (TQ k)))
 | .OL o,k=>ME P C o (TR k)
 | .list p,k=>DE P C p (Pj p.length k)
 | .tuple p,k=>DE P C p (L0 p.length k)
 | .dict0,k=>fun st h H Q=>k (.eR [] []::st) h H Q
 | .comp v q w cond,k=>ME P C w (KZ (match cond with
  | .none=>fun z ξ=>z
  |some c=>MT P C c (ME P C c)) (ME P C v) q k)
 | .Bt _ w _,k=>ME P C w (Pl k)
 | .mut e,k=>ME P C e (TV k)
noncomputable def DE (P:dO) (C:bG):Bw→Kt→Kt
 |[],k=>k
 |e::h,k=>ME P C e (DE P C h k)
noncomputable def Pm (P:dO) (C:bG) (h:Bool):Bw→Kt→Kt
 |[],_=>fun ξ ξ ξ ξ=>False
 |e::x,k=>match x with
  |[]=>ME P C e k
  |_::_=>ME P C e (Wj h (Pm P C h x k) k)
noncomputable def MT (P:dO) (C:bG):E→(Kt→Kt)→Kt→Kt→Kt
 | .not a,_,h,e=>MT P C a (ME P C a) e h
 | .ay x m,_,h,e=>SR P C x m h e
 | .ite c a b,_,h,e=>MT P C c (ME P C c) (MT P C a (ME P C a) h e) (MT P C b (ME P C b) h e)
 |_,k,h,e=>k (x8 h e)
noncomputable def SR (P:dO) (C:bG) (h:Bool):Bw→Kt→Kt→Kt
 |[],x,k=>match h with
  |true=>x
  |false=>k
 |e::m,x,k=>match h with
  |true=>MT P C e (ME P C e) (SR P C h m x k) k
  |false=>MT P C e (ME P C e) x (SR P C h m x k)
end
def Aa (i:Nat) (k:Kt):Kt:=fun st h H Q=>match st with
 |v::st=>k st (h.set i v) H Q
 |[]=>False
def rF (n:Nat) (v:V) (a:Nat) (k:Kt) (st:aN) (x:Fr) (H:Hp) (Q:cy) (c:Nat) (h:aL) (e:aN):Prop:=
 h.length<60∧vl n v h e fun h e=>k st x (cz H a (.inst c h e)) Q
def Po (P:dO) (n:Nat) (k:Kt):Kt:=fun st h H Q=>match st with
 |x::v::st=>match x with
  | .ref a=>Yi (an H a) (rF n v a k st h H Q)
  |_=>False
 |_=>False
def Bx (i:Int) (v:V):ah→aN→(ah→aN→Prop)→Prop
 |m::h,w::e,K=>zZ (iG m i) (K (m::h) (v::e)) (Bx i v h e fun a b=>K (m::a) (w::b))
 |_,_,K=>K [i] [v]
def By (a:Nat) (i:Int) (v:V) (k:Kt) (st:aN) (x:Fr) (H:Hp) (Q:cy) (y:V):Prop:=match y with
 | .ap m=>Y1 (place m.length i) fun j=>k st x (cz H a (.list (m.set j v))) Q
 | .eR h e=>h.length<bz∧Bx i v h e fun h e=>k st x (cz H a (.dict h e)) Q
 |_=>False
def K0 (k:Kt):Kt:=fun st h H Q=>match st with
 | .int i:: .ref a::v::st=>Yr (an H a) (By a i v k st h H Q)
 |_=>False
def HF (h:aL) (k:Kt):Kt:=fun st e H Q=>match st with
 | .aG x::st=>Y1 (cK h x e) (Wi k st H Q)
 |_=>False
def MA (P:dO) (C:bG):T→Kt→Kt
 | .name i,k=>Aa i k
 | .ai o n,k=>ME P C o (Po P n k)
 | .bp o i,k=>ME P C o (ME P C i (K0 k))
 | .aG h,k=>HF h k
abbrev Kf:=aN→Kt
def SU (f:Kf) (st:aN) (h:Fr) (H:Hp) (Q:cy) (r:aN):Prop:=f r st h H Q
def Wm (f:Kf):Kt:=fun st h H Q=>match st with
 |x::st=>Y1 (gU x) (SU f st h H Q)
 |[]=>False
def Pp (f:Kf):Kt:=fun st h H Q=>match st with
 |x::st=>Y1 (su x) (SU f st h H Q)
 |[]=>False
def DF (f:Kf):Kt:=fun st h H Q=>match st with
 |x::st=>Y1 (m5 x) (SU f st h H Q)
 |[]=>False
def MI (P:dO) (C:bG):It→Kf→Kt
 | .plain e,f=>ME P C e (Wm f)
 | .x3 e,f=>ME P C e (Pp f)
 | .items e,f=>ME P C e (DF f)
def Pq (a b:Kt→Kt) (h e:aL) (k:Kt):Kf:=fun x st m H Q=>Y3 (rE a b h x (m.er h) H) (i8 e k Q)
def TW (t:Kt→Kt→Kt) (b:Kt→Kt) (h e:aL) (k:Kt):Kt:=fun st x H Q=>Y3 (DC t b h (x.er h) H) (i8 e k Q)
def K1 (k:Kt):Kt:=fun st h H Q=>match st with
 | .none::st=>k st h H Q
 |_=>False
def L1 (i:Nat) (e:sq) (k:Kt):Kt:=fun st h H Q=>match st with
 | .int y:: .int x::st=>match e with
  | .add=>k st (h.set i (.int (x+y))) H Q
  | .sub=>k st (h.set i (.int (x-y))) H Q
  |_=>False
 |_=>False
def Pr (P:dO) (n:Nat) (k:Kt):Kt:=fun st h H Q=>match st with
 |x::st=>SP H x (KY P n (og k (x::st) h H Q))
 |[]=>False
def K2 (P:dO) (n:Nat) (e:sq) (k:Kt):Kt:=fun st h H Q=>match st with
 | .int y:: .int x:: .ref a::st=>match e with
  | .add=>Yi (an H a) (rF n (.int (x+y)) a k st h H Q)
  | .sub=>Yi (an H a) (rF n (.int (x-y)) a k st h H Q)
  |_=>False
 |_=>False
def Bz (i a:Nat) (k:Kt) (st:aN) (h:Fr) (H:Hp) (Q:cy) (v:V):Prop:=k st (h.set i v) (l4 H a) Q
def L3 (i:Nat) (k:Kt):Kt:=fun st h H Q=>match h.get i with
 |some (.ref a)=>Yr (an H a) (Bz i a k st h H Q)
 |_=>False
def DG (a n b c:Nat) (h:aL) (e:aN) (k:Kt) (st:aN) (x:Fr) (H:Hp) (Q:cy) (v:V):Prop:=vl n v h e fun h e=>k st x (cz (l4 H b) a (.inst c h e)) Q
def K3 (a n:Nat) (k:Kt) (st:aN) (x:Fr) (H:Hp) (Q:cy) (c:Nat) (h:aL) (e:aN):Prop:=match lk n h e with
 |some (.ref b)=>Yr (an H b) (DG a n b c h e k st x H Q)
 |_=>False
def DH (i n:Nat) (k:Kt):Kt:=fun st h H Q=>match h.get i with
 |some (.ref a)=>Yi (an H a) (K3 a n k st h H Q)
 |_=>False
mutual
noncomputable def MS (P:dO) (C:bG):S→Kt→Kt
 | .expr e,k=>ME P C e (K1 k)
 | .asg t e,k=>ME P C e (MA P C t k)
 | .iF i m e,k=>ME P C (.af i) (ME P C e (L1 i m k))
 | .rD o n m e,k=>ME P C o (Pr P n (ME P C e (K2 P n m k)))
 | .ret .none,_=>fun ξ h H Q=>Q (.ret .none) h H
 | .ret (some e),_=>ME P C e x7
 | .bs c a b,k=>MT P C c (ME P C c) (MB P C a k) (MB P C b k)
 | .t8 c b x p,k=>TW (MT P C c (ME P C c)) (MB P C b) x p k
 | .cA t q b x p,k=>MI P C q (Pq (MA P C t) (MB P C b) x p k)
 | .brk,_=>LU
 | .cont,_=>fun ξ h H Q=>Q .cont h H
 | .pass,k=>k
 | .raise,_=>fun ξ ξ ξ ξ=>False
 | .rB i,k=>L3 i k
 | .Bu i n,k=>DH i n k
 | .x4 x,k=>fun st h H Q=>k st (h.er x) H Q
noncomputable def MB (P:dO) (C:bG):List S→Kt→Kt
 |[],k=>k
 |s::h,k=>MS P C s (MB P C h k)
end
def WB (P:dO) (C:bG) (b:List S) (h:Fr) (H:Hp) (Q:cy):Prop:=MB P C b bn [] h H Q
def pk (h:Fn) (args:aN):Option Fr:=
 if args.length≤h.np∧h.np≤args.length+h.dflt.length then some (HC (args++h.dflt.drop (h.dflt.length-(h.np-args.length))) (h.nl-h.np)) else .none
def rG (p:Option Nat) (Q:V→Hp→Prop) (v:V) (h:Hp):Prop:=match p with
 | .none=>Q v h
 |some n=> ∃T e:Hp,h=T.Hl e∧Q (fg n T v) e
def cp (p:Option Nat) (H:Hp) (Q:V→Hp→Prop):cy:=fun e ξ h=>match e with
 | .ret v=>rG p Q v h
 | .next=>rG p Q .none h
 |_=>False
def BA (f:Bool) (b:Nat) (H:Hp) (Q:V→Hp→Prop):V→Hp→Prop:=fun v h=>match v with
 | .none=>match f with
  |true=> ∃T:Hp,h=T.Hl H∧Q (fg 2 T (.ref b)) H
  |false=>Q (.ref b) h
 |_=>False
def TX (P:dO) (C:bG) (a:Nat) (args:aN) (H:Hp) (Q:V→Hp→Prop) (o:Option V):Prop:=match o with
 |some (.bI f)=> ∀b,an H b= .none→C f (.ref b::args) (.c b (.inst a [] []) H) (BA (P.rB a) b H Q)
 |_=>False
def VQ (P:dO) (C:bG) (a:Nat) (args:aN) (H:Hp) (Q:V→Hp→Prop) (o:Option (List (Nat×V))):Prop:=match o with
 |some h=>TX P C a args H Q (h.lookup sr)
 | .none=>False
def HG (P:dO) (C:bG):bG:=fun a args H Q=>match P.fn a with
 |some h=>Y1 (pk h args) fun e=>WB P C h.body e H (cp h.vv H Q)
 | .none=>VQ P C a args H Q (P.cls a)
def vm (P:dO):Nat→bG:=Nat.rec (fun ξ ξ ξ ξ=>False) fun ξ C=>HG P C
@[irreducible] def cx (P : dO) (d : Nat) : bG := vm P d
def DI:cx P d=vm P d:=by delta cx;rfl
def VS {α:Type} (n:Nonempty α) (P:α→Prop):α:= @Classical.epsilon α n fun x=> ¬P x
def HH {α:Type} {n:Nonempty α} {P:α→Prop} (h:P (VS n P)) (x:α):P x:=
 Zn fun k=> @Classical.epsilon_spec α (fun x=> ¬P x) ⟨x,k⟩ h
def nV:Nonempty V:=⟨.none⟩
def Ab:Nonempty Hp:=⟨.e⟩
def K4:Nonempty Fr:=⟨.e⟩
def nE:Nonempty E:=⟨.bad⟩
def TZ:Nonempty Ob:=⟨.list []⟩
def VU:Nonempty Fn:=⟨⟨0,0,[],[],none⟩⟩
def nI {α:Type} [Inhabited α]:Nonempty α:=⟨default⟩
@[reducible] def SV : List Type → Type := List.rec Unit fun α ξ r => α × r
@[reducible] def K5 : List Type → Type := List.rec Prop fun α ξ r => α → r
@[reducible] def eU (l : List Type) : K5 l → SV l → Prop := List.rec (motive := fun l => K5 l → SV l → Prop) (fun p ξ => p) (fun ξ ξ r P v => r (P v.1) v.2) l
def eB (l:List Type):K5 l→Prop:=List.rec (motive:=fun l=>K5 l→Prop) (fun p=>p) (fun ξ ξ r P=> ∀⦃x⦄,r (P x)) l
def Wn: ∀(l:List Type),List.rec (motive:=fun ξ=>Prop) True (fun α ξ r=>Nonempty α∧r) l→Nonempty (SV l):=fun l=>List.rec (fun ξ=>⟨()⟩) (fun α ξ r h=>h.1.elim fun a=>(r h.2).elim fun b=>⟨(a,b)⟩) l
def eV (l:List Type) (P:K5 l) (n:List.rec (motive:=fun ξ=>Prop) True (fun α ξ r=>Nonempty α∧r) l):SV l:=VS (Wn l n) (eU l P)
def Pu: ∀(l:List Type) (P:K5 l),(∀v,eU l P v)→eB l P:=fun l=>List.rec (motive:=fun l=> ∀(P:K5 l),(∀v,eU l P v)→eB l P) (fun p h=>h ()) (fun ξ ξ r P h x=>r (P x) fun v=>h (x,v)) l
def eA (l:List Type) {P:K5 l} {n} (h:eU l P (eV l P n)):eB l P:=Pu l P (HH h)
abbrev eT:E:= .ae 0
abbrev kG:E:= .ae 8
abbrev BB:E:= .ae 9
abbrev oh:E:= .ae 14
abbrev ub:E:= .ae 30
abbrev hF:E:= .ae 38
abbrev m7:E:= .ae 43
abbrev aI:E:= .af 0
abbrev cB:E:= .af 1
abbrev c8:E:= .af 2
abbrev ej:E:= .af 3
abbrev fT:E:= .af 4
abbrev iH:E:= .af 5
abbrev iB:E:= .af 6
abbrev oi:E:= .af 7
abbrev jj:E:= .af 8
abbrev vB:E:= .af 9
abbrev kH:E:= .af 10
abbrev pq:E:= .af 11
abbrev uc:E:= .af 12
def kO:Fn:=⟨1,35,[],[.bs (.aE aI .eq (.list [])) [.asg (.name 0) (.list [.int 1283040000000000000062373,.int 245760000000000000049152,.int 1474560000000000000278244323])] [],.asg (.aG [0,1]) (.tuple [.slice aI none (some (.int 4)),.aE (.call eT [.af 0]) .lt (.int 2)]),.asg (.aG [2,3]) (.tuple [.call (.ae 1) [.af 0,.int 1],.call (.ae 2) [.call (.ae 1) [.af 0,.int 0]]]),.asg (.name 4) (.call (.ae 3) [.call (.ae 4) [.comp (.tuple [.call (.ae 5) [.ae 6,.af 29],.ite (.aE (.af 29) .eq (.int 65)) (.int 97) (.ite (.jt (.int 96) .lt (.af 29) .lt (.int 101)) (.af 29) (.int 0))]) 29 (.tuple [.int 97,.int 98,.int 99,.int 100,.int 65,.int 45,.int 46,.int 40,.int 1,.int 2,.int 3]) none]]),.asg (.aG [5,6]) (.tuple [.call (.ae 7) [.af 2,.int 97],.call (.ae 7) [.af 2,.int 98]]),.asg (.name 7) (.list [.tuple [.int 1,.int 1],.tuple [.int 1,.int 1],.tuple [.int 1,.int 1],.tuple [.int 1,.int 1],.tuple [.int 1,.int 1],.tuple [.int 1,.int 1],.tuple [.int 2,.int 1],.tuple [.int 1,.int 2]]),.asg (.name 8) (.aS .add (.tuple [.af 5,.aE (.call kG [.af 2,.int 2]) .eq (.int 0)]) (.bp oi (.call kG [.af 2,.int 8]))),.asg (.name 9) (.aS .add (.tuple [.af 6,.aE (.call kG [.af 2,.int 2]) .eq (.int 0)]) (.bp oi (.call kG [.af 2,.int 8]))),.asg (.name 10) (.bp (.list [.int 1,.int 2,.int 2,.int 2]) (.call kG [.af 2,.ite cB (.int 1) (.int 4)])),.asg (.name 11) (.comp (.call (.ae 10) [.call (.ae 1) [.af 0,.aS .add (.int 2) (.af 30)],.af 3,.ite (.ay false [.af 1,.aE (.af 30) .gt (.int 0)]) (.int 2) (.int 3)]) 30 (.call BB [.af 10]) none),.asg (.aG [12,13]) (.tuple [.call kG [.af 2,.int 10],.call (.ae 11) [.bp pq (.neg (.int 1)),.int 0,.af 4,.tru]]),.asg (.name 14) (.ite (.aE uc .eq (.int 0)) (.list [.call (.ae 12) [.bp ej (.int 0),.int 97]]) (.ite (.aE uc .eq (.int 1)) (.list [.call (.ae 13) [.tru,.int 0]]) (.list []))),.bs (.ay true [.aE (.call kG [.af 2,.int 6]) .eq (.int 0),.aE (.af 13) .i6 .none]) [.expr (.dM iH 1 [.bp (.af 13) (.int 2),.comp (.af 31) 31 (.call BB [.call eT [.bp (.af 13) (.int 2)]]) (some (.aE (.call kG [.af 2,.int 2]) .eq (.int 0)))])] [],.asg (.name 15) (.aS .add (.af 14) (.Bt 32 pq 33)),.asg (.name 16) (.call oh [.af 15]),.asg (.name 17) (.call (.ae 15) [.af 15,.af 8,.af 4]),.asg (.aG [18,19]) (.tuple [.call (.ae 15) [.af 17,.af 8,.af 4],.call (.ae 15) [.af 17,.af 9,.af 4]]),.asg (.aG [20,21,22]) (.tuple [.call (.ae 16) [.af 14],.call (.ae 16) [.af 14],.aE uc .ne (.int 1)]),.cA (.name 23) (.plain pq) [.asg (.name 24) (.ite (.af 22) (.call (.ae 11) [.af 23,.int 0,.af 4,.bp jj (.int 1)]) .none),.asg (.name 25) (.ite (.aE (.af 24) .i6 .none) (.dM iH 2 [.bp (.af 24) (.int 2),.bp jj (.int 2),.bp jj (.int 3)]) (.list [])),.asg (.name 26) (.call (.ae 17) [.af 23,.af 24,.af 25,.af 8,.af 4]),.bs (.aE (.af 26) .is .none) [.ret (some .fls)] [],.asg (.name 20) (.aS .add (.af 20) (.af 26)),.asg (.name 21) (.aS .add (.af 21) (.ite (.aE (.af 25) .ne (.list [])) (.af 26) (.ite (.af 22) (.call (.ae 15) [.af 23,.af 9,.af 4]) (.af 23)))),.cA (.name 27) (.plain (.af 23)) [.asg (.name 22) (.ite (.aE (.ai (.af 27) 3) .eq (.int 12)) (.not (.ai (.af 27) 4)) (.af 22))] [0,1,2,3,6,7,10,11,12,13,14,23,24,25,26,27,28] [27]] [0,1,2,3,6,7,10,11,12,13,14,23,24,25,26,27,28] [4,5,8,9,22,23,24,25,26,27],.asg (.name 28) (.call oh [.af 17]),.bs (.ay false [.aE (.af 28) .ne (.call oh [.af 20]),.aE (.call oh [.af 18]) .ne (.af 28),.aE (.call oh [.af 19]) .ne (.call oh [.af 21])]) [.ret (some .fls)] [],.ret (some (.aE (.comp (.call oh [.af 34]) 34 (.tuple [.call (.ae 18) [.af 17],.call (.ae 18) [.af 19],.af 15]) none) .eq (.aS .mul (.list [.af 16]) (.int 3))))],none⟩
def m8:Fn:=⟨2,4,[],[.asg (.name 2) (.ite (.aE cB .lt (.call eT [.af 0])) (.bp aI cB) (.aS .add (.aS .add (.aS .mul (.int 7919) cB) (.int 20011)) (.aS .mul (.aS .xZ (.call (.ae 19) [.comp (.call (.ae 20) [.af 3]) 3 aI none]) (.int 1000003)) (.int 31)))),.ret (some (.mut (.list [.call (.ae 20) [.af 2],.int 0,.aS .xZ (.aS .add (.aS .mul (.int 2) (.call (.ae 20) [.af 2])) (.call (.ae 21) [.aE c8 .lt (.int 0)])) (.int 1000003)])))],none⟩
def pu:Fn:=⟨2,4,[],[.bs (.aE (.bp aI (.int 0)) .ge (.aS .O8 (.int 10) (.int 18))) [.asg (.name 2) (.aS .xZ (.bp aI (.int 0)) cB),.asg (.bp aI (.int 0)) (.aS .fdiv (.bp aI (.int 0)) cB),.ret (some c8)] [],.x4 [2],.asg (.bp aI (.int 1)) (.aS .add (.bp aI (.int 1)) (.int 1)),.asg (.name 3) (.aS .xZ (.aS .O8 (.aS .add (.aS .add (.bp aI (.int 2)) (.aS .mul (.int 7103) (.bp aI (.int 1)))) (.int 20023)) (.int 5)) (.int 2147483647)),.ret (some (.aS .xZ (.aS .fdiv (.aS .xZ (.aS .mul ej ej) (.int 2147483563)) (.int 16)) cB))],none⟩
def py:Fn:=⟨1,7,[],[.asg (.aG [1,2]) (.tuple [.mut (.list []),.aS .add (.int 1) (.call kG [.af 0,.int 2])]),.cA (.name 3) (.plain (.call BB [.af 2])) [.asg (.name 4) (.call kG [.af 0,.int 11]),.asg (.name 5) (.ite (.aE fT .lt (.int 3)) (.int 128) (.bp (.list [.int 0,.int 1,.int 2,.int 3,.int 5,.int 6,.int 7,.int 11]) (.aS .sub fT (.int 3)))),.asg (.name 6) (.ite (.aE fT .lt (.int 3)) fT (.aS .add (.int 1) (.call kG [.af 0,.int 3]))),.expr (.bS cB .append [.tuple [.ite (.aE ej .eq (.aS .sub c8 (.int 1))) (.int 128) (.int 0),.bp (.list [.int 97,.int 98,.int 99,.int 45,.int 33]) (.call kG [.af 0,.int 5]),.af 5,.af 6]])] [3,4,5,6] [0,2,3,4,5,6],.ret (some cB)],some 1⟩
def fh:Fn:=⟨1,10,[],[.asg (.aG [1,2]) (.tuple [.list [],.mut .dict0]),.cA (.name 3) (.plain (.tuple [.int 97,.int 98,.int 99,.int 45])) [.bs (.aE (.call kG [.af 0,.int 3]) .gt (.int 0)) [.asg (.bp c8 ej) (.call eT [.af 1]),.asg (.name 1) (.aS .add cB (.call (.ae 22) [.af 0]))] []] [3,4,5,6,7,8] [3],.cA (.name 3) (.plain (.tuple [.int 1,.int 2])) [.bs (.aE (.call kG [.af 0,.int 2]) .eq (.int 0)) [.asg (.bp c8 ej) (.call eT [.af 1]),.asg (.name 1) (.aS .add cB (.list [.tuple [.int 128,.bp (.list [.int 97,.int 98,.int 99,.int 45,.int 33]) (.call kG [.af 0,.int 5]),.int 0,.int 3]]))] []] [3,4,5,6,7,8] [3],.bs (.aE (.call kG [.af 0,.int 3]) .eq (.int 0)) [.asg (.name 4) (.call eT [.af 1]),.asg (.name 1) (.aS .add (.aS .add cB (.call (.ae 22) [.af 0])) (.list [.tuple [.int 255,.int 0,.int 0,.af 4]]))] [],.x4 [4],.asg (.name 5) (.mut (.list [])),.cA (.name 3) (.plain (.tuple [.int 97,.int 98,.int 99,.int 100,.int 65,.int 45,.int 46,.int 40,.int 1,.int 2,.int 3])) [.expr (.bS iH .append [.tuple [.af 3,.aS .mul (.int 1000) ej,.int 400,.int 0,.int 0,.ite (.aE ej .g8 c8) (.int 1) (.int 0),.lZ c8 [.af 3,.int 0]]])] [3,4,6,7,8] [2,3],.rB 5,.asg (.name 6) (.mut (.list [.call (.ae 23) [.int 1,.af 5,.tuple [.int 0,.int 4,.int 2,.int 1],.af 1,.tuple [.int 1000,.neg (.int 700),.int 333],.int 33]])),.expr (.bS iB .append [.call (.ae 23) [.int 2,.comp (.tuple [.af 9,.int 700,.int 400,.int 0]) 9 (.tuple [.int 97,.int 98,.int 99,.int 100,.int 45]) none]]),.asg (.name 7) (.bp (.list [.int 45,.int 45,.int 45,.int 45,.int 45,.int 45,.int 45,.int 45,.int 45,.int 46,.int 200,.neg (.int 1)]) (.call kG [.af 0,.int 12])),.rB 6,.cA (.name 8) (.plain iB) [.asg (.ai jj 5) oi] [0,1,2,3,4,5,8] [7,8],.ret (some iB)],some 2⟩
def nM:Fn:=⟨2,10,[],[.asg (.aG [2,3]) (.tuple [.call (.ae 24) [],.mut (.list [.list [.af 1]])]),.expr (.dM c8 6 [.list [.af 1],.list [.int 0,.int 1]]),.cA (.name 4) (.plain (.call BB [.call kG [.af 0,.int 2]])) [.asg (.name 5) (.comp (.aS .add (.int 97) (.call kG [.af 0,.int 4])) 8 (.call BB [.aS .add (.int 1) (.call kG [.af 0,.int 3])]) none),.asg (.name 6) (.call kG [.af 0,.int 4]),.asg (.name 5) (.aS .add (.aS .add (.aS .mul (.list [.int 0]) (.call (.ae 21) [.aE iB .eq (.int 2)])) iH) (.aS .mul (.list [.int 0]) (.call (.ae 21) [.aE iB .eq (.int 3)]))),.asg (.name 7) (.comp (.call kG [.af 0,.int 4]) 9 (.call BB [.aS .add (.call eT [.af 5]) (.int 1)]) none),.bs (.aE iH .jr ej) [.expr (.bS ej .append [.af 5]),.expr (.dM c8 6 [.af 5,.af 7])] []] [1,4,5,6,7] [0,4,5,6,7],.rB 3,.ret (some c8)],none⟩
def kP:Fn:=⟨2,3,[],[.bs (.aE (.call kG [.af 0,.af 1]) .gt (.int 0)) [.ret (some (.list []))] [],.asg (.name 2) (.call kG [.af 0,.int 6]),.bs (.aE c8 .eq (.int 0)) [.ret (some (.list [.call (.ae 25) [.int 50]]))] [],.bs (.aE c8 .eq (.int 1)) [.ret (some (.list [.call (.ae 26) [.int 700,.int 1]]))] [],.bs (.aE c8 .lt (.int 4)) [.ret (some (.list [.call (.ae 13) [.aE c8 .eq (.int 2),.int 0]]))] [],.ret (some (.ite (.aE c8 .eq (.int 4)) (.list [.call (.ae 27) [.bytes [115]]]) (.list [.call (.ae 28) [.list [.call (.ae 26) [.int 77,.int 1]],.list [],.list []]])))],none⟩
def cg:Fn:=⟨3,14,[],[.asg (.name 3) (.mut (.comp (.aS .add (.int 97) (.call kG [.af 0,.int 4])) 13 (.call BB [.aS .add (.int 2) (.call kG [.af 0,.aS .sub c8 (.int 1)])]) none)),.asg (.aG [4,5]) (.tuple [.call kG [.af 0,.int 8],.call kG [.af 0,.int 2]]),.bs (.aE fT .lt (.int 4)) [.asg (.bp ej (.aS .xZ iH (.aS .sub (.call eT [.af 3]) (.int 1)))) (.int 97)] [.bs (.aE fT .lt (.int 7)) [.asg (.name 3) (.mut (.aS .add (.list [.int 98,.int 97]) (.slice ej (some (.int 2)) none)))] []],.bs (.aE (.call kG [.af 0,.int 10]) .eq (.int 0)) [.asg (.bp ej (.int 0)) (.int 65)] [],.rB 3,.asg (.aG [6,7]) (.tuple [.aS .mul (.list [.int 40]) (.call (.ae 21) [.aE (.call kG [.af 0,.int 5]) .eq (.int 0)]),.aS .mul (.list [.int 46]) (.call (.ae 21) [.aE (.call kG [.af 0,.int 4]) .eq (.int 0)])]),.asg (.aG [8,9]) (.tuple [.call kG [.af 0,.int 10],.call kG [.af 0,.int 6]]),.asg (.aG [10,11]) (.tuple [.call (.ae 29) [.af 0,.int 10],.call (.ae 29) [.af 0,.int 6]]),.bs (.aE jj .eq (.int 0)) [.asg (.name 12) (.call ub [.bp cB (.int 1),.af 3])] [.bs (.aE jj .eq (.int 1)) [.asg (.name 12) (.list [.call (.ae 12) [.bp cB (.int 0),.bp ej (.int 0)],.call (.ae 26) [.int 3,.int 0],.call (.ae 31) [.bp cB (.int 0),.int 1,.slice ej (some (.int 1)) none],.call (.ae 26) [.int 2,.int 0]])] [.bs (.aE jj .eq (.int 2)) [.asg (.name 12) (.aS .add (.call ub [.bp cB (.int 0),.slice ej none (some (.int 1)),.tru,.fls]) (.call ub [.bp cB (.int 0),.slice ej (some (.int 1)) none,.fls,.tru]))] [.bs (.aE jj .lt (.int 5)) [.asg (.name 12) (.call ub [.bp cB (.int 0),.af 3,.aE jj .ne (.int 3),.aE jj .ne (.int 4)])] [.asg (.name 12) (.call ub [.bp cB (.int 0),.aS .add (.aS .add iB ej) oi])]]]],.bs (.ay true [.aE vB .eq (.int 0),.ay false [.aE jj .eq (.int 0),.aE jj .gt (.int 4)]]) [.asg (.name 12) (.aS .add uc (.call ub [.bp cB (.int 1),.list [.int 97,.int 100]]))] [],.ret (some (.aS .add (.aS .add (.aS .add (.list [.call (.ae 32) [.call (.ae 33) [.int 4,.int 2,.int 0,.int 1],.int 0]]) kH) uc) pq))],some 1⟩
def nN:Fn:=⟨1,3,[],[.asg (.name 1) (.mut (.list [])),.cA (.name 2) (.plain aI) [.expr (.bS cB .cN [.ite (.aE (.ai c8 3) .eq (.int 0)) (.list [.ai c8 7]) (.ite (.aE (.ai c8 3) .eq (.int 1)) (.call (.ae 16) [.ai c8 8]) (.list []))])] [0,2] [2],.ret (some cB)],some 1⟩
def l5:Fn:=⟨1,2,[],[.ret (some (.ay true [.aE (.ai aI 3) .eq (.int 8),.aE (.comp cB 1 (.ai aI 9) (some (.ay true [.aE (.ai cB 3) .eq (.int 5),.aE (.ai cB 10) .eq (.int 1)]))) .eq (.list [])]))],none⟩
def pz:Fn:=⟨1,3,[],[.asg (.name 1) (.mut (.list [])),.cA (.name 2) (.plain aI) [.expr (.bS cB .cN [.ite (.call (.ae 34) [.af 2]) (.ai c8 11) (.list [.af 2])])] [0,2] [2],.ret (some cB)],some 1⟩
def sw:Fn:=⟨3,3,[],[.ret (some (.call (.ae 35) [.af 0,.bp cB (.int 0),.af 2,.bp cB (.int 1),.bp cB (.int 2),.bp cB (.int 3)]))],none⟩
def ew:Fn:=⟨5,15,[],[.asg (.aG [5,6]) (.tuple [.call (.ae 24) [],.ai (.bp aI (.bp cB (.int 0))) 12]),.expr (.dM iH 1 [.bp cB (.int 2),.list [.af 2]]),.asg (.name 7) (.call (.ae 15) [.af 0,.aS .add (.tuple [.af 5]) (.slice ej (some (.int 1)) none),.af 4]),.asg (.name 8) (.comp (.af 14) 14 (.call BB [.call eT [.af 7]]) (some (.call (.ae 34) [.bp oi (.af 14)]))),.bs (.ay false [.aE (.call eT [.af 8]) .ne (.int 1),.aE (.call oh [.call (.ae 18) [.af 7]]) .ne (.call oh [.af 0])]) [.ret (some .none)] [],.asg (.name 9) (.bp oi (.bp jj (.int 0))),.asg (.name 10) (.ite (.dM iB 13 [.ai iB 5]) (.list [.ai iB 5]) (.list [])),.asg (.aG [11,12]) (.tuple [.call (.ae 36) [.ai vB 9],.call (.ae 36) [.ai vB 14]]),.asg (.name 13) (.aS .sub (.call eT [.af 11]) (.call eT [.af 10])),.bs (.ay false [.aE (.slice pq (some (.af 13)) none) .ne kH,.aE (.aS .add (.slice pq none (some (.af 13))) uc) .ne (.call (.ae 36) [.ai vB 11])]) [.ret (some .none)] [],.bs (.aE (.aS .add (.call eT [.call (.ae 36) [.slice aI none (some (.bp jj (.int 0)))]]) (.af 13)) .ne (.aS .add (.call eT [.call (.ae 36) [.slice aI none (some (.bp cB (.int 0)))]]) c8)) [.ret (some .none)] [],.ret (some (.tuple [.bp jj (.int 0),.af 9]))],some 1⟩
def iJ:Fn:=⟨5,11,[],[.asg (.aG [5,6]) (.tuple [.list [],.int 0]),.cA (.name 7) (.plain c8) [.asg (.name 8) (.call (.ae 37) [.af 0,.af 1,.af 7,.af 3,.af 4]),.bs (.aE jj .is .none) [.ret (some .none)] [],.asg (.aG [9,10]) jj,.bs (.aE vB .ge iB) [.asg (.name 5) (.aS .add (.aS .add iH (.slice aI (some iB) (some vB))) (.list [.af 10])),.asg (.name 6) (.aS .add vB (.call eT [.ai kH 11]))] []] [2,7,8,9,10] [1,3,4,7,8,9,10],.ret (some (.aS .add iH (.slice aI (some iB) none)))],none⟩
def gn:Fn:=⟨6,8,[.aG [.int 0,.int 196608,.int 98304,.int 65536,.int 262144,.int 655360,.int 65536],.aG [],.aG [],.int 256],[.bs (.not (.call hF [.af 0,.int 1,.ae 39])) [.raise] [],.asg (.name 6) (.mut .dict0),.cA (.name 7) (.plain cB) [.bs (.ay false [.not (.jt (.int 4) .le (.call eT [.af 7]) .le (.int 7)),.aE (.bp oi (.int 0)) .g8 iB]) [.raise] [],.asg (.bp iB (.bp oi (.int 0))) (.slice (.aS .add (.call (.ae 40) [.af 7]) (.tuple [.int 0,.int 0,.int 0])) (some (.int 1)) (some (.int 7)))] [1,7] [7],.rB 6,.ret (some (.call (.ae 41) [.af 0,.call (.ae 42) [.af 0],.int 655360,.af 2,.af 6,.af 3,.af 4,.af 5]))],none⟩
def pA:Fn:=⟨9,9,[.aG [],.aG [],.int 256],[.bs (.ay false [.not (.call hF [.af 1,.int 1,.ae 39]),.not (.call m7 [.af 2,.ae 44]),.aE c8 .eq (.str (Str.ofString "")),.not (.call hF [.af 3,.int 1,.ae 45])]) [.raise] [],.bs (.ay false [.not (.call hF [.af 8,.int 0,.ae 46]),.aE (.call eT [.af 4]) .gt (.ae 47)]) [.raise] [],.expr (.call (.ae 48) [.af 4]),.expr (.call (.ae 48) [.af 7]),.expr (.call (.ae 49) [.af 5,.call eT [.af 6]]),.expr (.call (.ae 50) [.af 5]),.expr (.call (.ae 51) [.af 6,.af 7,.af 5,.af 8]),.asg (.ai aI 15) cB,.asg (.ai aI 16) c8,.asg (.ai aI 17) ej,.asg (.ai aI 18) ej,.asg (.ai aI 19) (.int 0),.asg (.ai aI 20) (.call (.ae 16) [.af 4]),.asg (.ai aI 21) (.call (.ae 4) [.af 5]),.asg (.ai aI 22) (.call (.ae 40) [.af 6]),.asg (.ai aI 23) (.call (.ae 40) [.af 7]),.asg (.ai aI 24) jj,.asg (.ai aI 25) (.call (.ae 52) [.af 6]),.asg (.ai aI 5) (.int 45),.asg (.ai aI 26) (.neg (.int 1))],none⟩
def kQ:Fn:=⟨1,2,[],[.cA (.name 1) (.plain aI) [.bs (.not (.call (.ae 53) [.af 1])) [.raise] []] [0,1] [1]],none⟩
def kR:Fn:=⟨2,6,[],[.cA (.aG [2,3]) (.items aI) [.bs (.ay false [.not (.call hF [.af 2,.int 0,.int 255]),.not (.call m7 [.af 3,.ae 40]),.aE (.call eT [.af 3]) .ne (.int 6)]) [.raise] [],.expr (.call (.ae 48) [.slice ej none (some (.int 4))]),.asg (.aG [4,5]) (.tuple [.bp ej (.int 4),.bp ej (.int 5)]),.bs (.not (.call hF [.af 4,.ae 54,.ae 55])) [.raise] [],.bs (.aE fT .eq (.ae 55)) [.raise] [.bs (.ay false [.not (.call hF [.af 5,.int 0,.int 255]),.ay true [.aE fT .eq (.ae 56),.aE iH .ge cB]]) [.raise] []]] [0,2,3,4,5] [1,2,3,4,5]],none⟩
def jv:Fn:=⟨1,4,[],[.cA (.name 1) (.plain aI) [.asg (.aG [2,3]) (.tuple [.af 1,.int 0]),.t8 (.ay true [.aE c8 .g8 aI,.aE (.bp (.bp aI c8) (.int 4)) .eq (.ae 57)]) [.raise,.raise,.bs (.aE ej .gt (.call eT [.af 0])) [.raise] []] [1,3] [2,3]] [1,2,3] [0,1,2,3]],none⟩
def i9:Fn:=⟨4,12,[],[.asg (.name 4) (.call eT [.af 0]),.cA (.aG [5,6]) (.x3 aI) [.bs (.ay false [.not (.call m7 [.af 6,.ae 40]),.aE (.call eT [.af 6]) .ne (.int 4)]) [.raise] [],.cA (.name 7) (.plain iB) [.bs (.not (.call hF [.af 7,.int 0,.int 255])) [.raise] []] [0,7,8,9,10,11] [7],.asg (.aG [8,9,10,11]) iB,.bs (.aE jj .gt (.ae 58)) [.bs (.aE (.aS .add (.aS .mul (.int 256) kH) pq) .ge fT) [.raise] [],.cont] [],.bs (.ay true [.aE vB .ne ej,.aE vB .jr c8]) [.raise] [],.bs (.ay false [.ay true [.aE kH .lt (.ae 59),.aE pq .jr c8],.ay true [.aE kH .ge (.ae 59),.aE (.aS .add (.aS .mul (.int 256) (.aS .sub kH (.ae 59))) pq) .ge (.call eT [.af 1])]]) [.raise] [],.bs (.ay true [.aE jj .lt (.ae 58),.aE (.aS .add (.aS .add iH jj) (.int 1)) .ge fT]) [.raise] []] [0,5,6,7,8,9,10,11] [1,2,3,4,5,6,7,8,9,10,11]],none⟩
def l6:Fn:=⟨1,5,[],[.bs (.aE (.call eT [.af 0]) .eq (.int 0)) [.ret (some (.neg (.int 1)))] [],.asg (.aG [1,2,3,4]) (.bp aI (.neg (.int 1))),.ret (some (.ite (.aE cB .eq (.ae 60)) (.aS .add (.aS .mul (.int 256) ej) fT) (.neg (.int 1))))],none⟩
def nO:Fn:=⟨1,3,[],[.asg (.name 1) (.aS .sub aI (.int 1)),.asg (.name 2) (.bp (.ae 61) (.aS .xZ cB (.int 25))),.t8 (.aE cB .ge (.int 25)) [.asg (.name 1) (.aS .fdiv cB (.int 25)),.asg (.name 2) (.aS .add (.bp (.ae 61) (.aS .xZ cB (.int 25))) c8)] [0] [1],.ret (some (.aS .add (.str (Str.ofString "f")) c8))],none⟩
def pB:Fn:=⟨3,3,[],[.ret (some (.ay true [.call m7 [.af 0,.ae 21],.not (.call m7 [.af 0,.ae 62]),.jt cB .le aI .le c8]))],none⟩
def sA:Fn:=⟨1,1,[],[.ret (some (.call hF [.af 0,.neg (.ae 63),.ae 63]))],none⟩
def pC:Fn:=⟨2,2,[],[.ret (some (.aE cB .g8 (.ai aI 21)))],none⟩
def kS:Fn:=⟨2,3,[],[.bs (.aE cB .eq (.ae 46)) [.ret (some (.ai aI 25))] [],.asg (.name 2) (.lZ (.ai aI 21) [.af 1,.ae 64]),.ret (some (.ite (.aE (.bp c8 (.int 4)) .eq (.ae 56)) (.bp c8 (.int 5)) (.neg (.int 1))))],none⟩
def ic:Fn:=⟨2,2,[],[.asg (.ai aI 27) cB],none⟩
def gq:Fn:=⟨2,2,[],[.ret (some (.lZ (.ai aI 27) [.call (.ae 5) [.ae 6,.af 1]]))],none⟩
def K6:Fn:=⟨2,2,[],[.bs (.not (.jt (.int 0) .le cB .lt (.ae 65))) [.raise] [],.ret (some (.aS .add (.aS .mul aI (.ae 65)) cB))],none⟩
def jw:Fn:=⟨1,1,[],[.asg (.ai aI 28) (.mut .dict0),.asg (.ai aI 29) (.mut .dict0),.asg (.ai aI 30) (.int 1),.asg (.ai aI 31) (.mut .dict0)],none⟩
def fU:Fn:=⟨2,4,[],[.asg (.name 2) (.int 0),.cA (.name 3) (.plain cB) [.asg (.name 2) (.lZ (.ai aI 28) [.aS .add (.aS .mul (.int 256) c8) ej,.neg (.int 1)]),.bs (.aE c8 .lt (.int 0)) [.ret (some (.neg (.int 1)))] []] [1,3] [0,3],.ret (some c8)],none⟩
def ez:Fn:=⟨3,7,[],[.expr (.call (.ae 66) [.af 1,.af 2]),.bs (.aE (.dM aI 32 [.af 1]) .g8 (.ai aI 29)) [.raise] [],.asg (.name 3) (.mut (.call (.ae 16) [.af 2])),.bs (.aE (.bp cB (.int 0)) .eq (.ae 67)) [.asg (.bp ej (.int 0)) (.int 0)] [],.bs (.aE (.bp cB (.neg (.int 1))) .eq (.ae 67)) [.asg (.bp ej (.neg (.int 1))) (.int 0)] [],.asg (.name 4) (.int 0),.cA (.name 5) (.plain cB) [.asg (.name 6) (.aS .add (.aS .mul (.int 256) fT) iH),.bs (.aE iB .jr (.ai aI 28)) [.asg (.bp (.ai aI 28) iB) (.ai aI 30),.rD aI 30 .add (.int 1)] [],.asg (.name 4) (.bp (.ai aI 28) iB)] [1,2,5,6] [5,6],.rB 3,.asg (.bp (.ai aI 29) fT) (.call (.ae 40) [.af 3])],none⟩
def ja:Fn:=⟨2,4,[],[.bs (.ay false [.not (.call m7 [.af 0,.tuple [.ae 40,.ae 16]]),.not (.call m7 [.af 1,.tuple [.ae 40,.ae 16]])]) [.raise] [],.cA (.name 2) (.plain aI) [.bs (.not (.call hF [.af 2,.int 0,.int 255])) [.raise] []] [2,3] [2],.bs (.not (.call (.ae 68) [.call (.ae 69) [.af 0]])) [.raise] [],.bs (.aE (.call eT [.af 0]) .gt (.ae 70)) [.raise] [],.bs (.aE (.call eT [.af 1]) .ne (.aS .add (.call eT [.af 0]) (.int 1))) [.raise] [],.cA (.name 3) (.plain cB) [.bs (.not (.call hF [.af 3,.int 0,.int 9])) [.raise] []] [0,1,2,3] [3]],none⟩
def d5:Fn:=⟨1,3,[],[.asg (.aG [1,2]) (.tuple [.int 0,.call eT [.af 0]]),.bs (.ay true [.aE c8 .gt cB,.aE (.bp aI cB) .eq (.ae 67)]) [.iF 1 .add (.int 1)] [],.bs (.ay true [.aE c8 .gt cB,.aE (.bp aI (.aS .sub c8 (.int 1))) .eq (.ae 67)]) [.iF 2 .sub (.int 1)] [],.ret (some (.call (.ae 16) [.slice aI (some cB) (some c8)]))],none⟩
def sB:Fn:=⟨1,2,[],[.bs (.ay false [.not (.call m7 [.af 0,.tuple [.ae 40,.ae 16]]),.aE (.call eT [.af 0]) .eq (.int 0)]) [.ret (some .fls)] [],.cA (.name 1) (.plain aI) [.bs (.not (.call hF [.af 1,.int 1,.int 255])) [.ret (some .fls)] []] [0,1] [1],.ret (some .tru)],none⟩
def dU:Fn:=⟨3,5,[],[.bs (.ay false [.not (.call m7 [.af 1,.tuple [.ae 40,.ae 16]]),.not (.call m7 [.af 2,.tuple [.ae 40,.ae 16]])]) [.raise] [],.bs (.ay false [.not (.call (.ae 68) [.af 1]),.aE (.call eT [.af 1]) .gt (.ae 70)]) [.raise] [],.cA (.name 3) (.plain c8) [.bs (.not (.call hF [.af 3,.int 0,.call eT [.af 1]])) [.raise] []] [3] [3],.asg (.bp (.ai aI 31) (.call (.ae 71) [.af 1])) (.call (.ae 40) [.comp fT 4 (.call BB [.aS .add (.call eT [.af 1]) (.int 1)]) (some (.aE fT .g8 c8))])],none⟩
def pD:Fn:=⟨1,3,[],[.asg (.name 1) (.int 0),.cA (.name 2) (.plain aI) [.asg (.name 1) (.aS .add (.aS .mul (.int 256) cB) c8)] [0,2] [2],.ret (some cB)],none⟩
def eC:Fn:=⟨2,9,[],[.asg (.name 2) (.aS .add (.aS .add (.list [.ae 67]) (.call (.ae 16) [.af 1])) (.list [.ae 67])),.asg (.name 3) (.mut (.aS .mul (.list [.int 0]) (.aS .add (.call eT [.af 2]) (.int 1)))),.cA (.name 4) (.plain (.call BB [.call eT [.af 2]])) [.asg (.name 5) (.int 0),.cA (.name 6) (.plain (.slice c8 (some fT) none)) [.asg (.name 5) (.lZ (.ai aI 28) [.aS .add (.aS .mul (.int 256) iH) iB,.neg (.int 1)]),.bs (.aE iH .lt (.int 0)) [.brk] [],.asg (.name 7) fT,.cA (.name 8) (.plain (.lZ (.ai aI 29) [.af 5,.tuple []])) [.asg (.bp ej oi) (.call (.ae 72) [.bp ej oi,.af 8]),.iF 7 .add (.int 1)] [1,6,8] [7,8]] [1,6,7,8] [4,5,6,7,8]] [1,4,5,6,7,8] [0,4,5,6,7,8],.ret (some (.slice ej (some (.int 1)) (some (.call eT [.af 2]))))],some 1⟩
def eE:Fn:=⟨4,11,[.int 2,.int 3],[.bs (.not (.call (.ae 68) [.af 1])) [.raise] [],.asg (.name 4) (.call (.ae 16) [.slice cB none (some (.ae 70))]),.asg (.aG [5,6]) (.tuple [.call (.ae 73) [.af 2],.aS .sub (.call eT [.af 4]) (.call (.ae 73) [.af 3])]),.asg (.name 7) (.lZ (.ai aI 31) [.call (.ae 71) [.af 4],.none]),.bs (.aE oi .i6 .none) [.ret (some (.comp vB 9 oi (some (.jt iH .le vB .le iB))))] [],.asg (.name 8) (.dM aI 33 [.af 4]),.ret (some (.comp kH 10 (.call BB [.af 5,.aS .add iB (.int 1)]) (some (.aE (.aS .xZ (.bp jj kH) (.int 2)) .eq (.int 1)))))],none⟩
def l7:Fn:=⟨1,1,[],[.ret (some (.call (.ae 72) [.int 1,.call (.ae 74) [.ae 70,.call (.ae 75) [.af 0]]]))],none⟩
def kT:Fn:=⟨1,1,[],[.bs (.ay false [.not (.call m7 [.af 0,.ae 21]),.call m7 [.af 0,.ae 62]]) [.raise] [],.ret (some aI)],none⟩
def kU:Fn:=⟨2,2,[],[.asg (.ai aI 34) (.call (.ae 76) [.af 1])],none⟩
def jx:Fn:=⟨1,1,[],[.bs (.not (.jt (.neg (.ae 77)) .le (.call (.ae 75) [.af 0]) .le (.ae 77))) [.raise] [],.ret (some aI)],none⟩
def pE:Fn:=⟨3,3,[],[.bs (.not (.call hF [.af 2,.ae 78,.ae 79])) [.raise] [],.asg (.ai aI 35) (.call (.ae 80) [.af 1]),.asg (.ai aI 10) c8],none⟩
def kW:Fn:=⟨1,1,[],[.bs (.not (.jt (.neg (.ae 63)) .le (.call (.ae 75) [.af 0]) .le (.ae 63))) [.raise] [],.ret (some aI)],none⟩
def jy:Fn:=⟨3,3,[],[.asg (.ai aI 4) cB,.asg (.ai aI 35) (.call (.ae 80) [.af 2])],none⟩
def kX:Fn:=⟨2,3,[],[.bs (.not (.call m7 [.af 1,.tuple [.ae 81,.ae 82,.ae 16,.ae 40]])) [.raise] [],.cA (.name 2) (.plain cB) [.bs (.not (.call hF [.af 2,.int 0,.int 255])) [.raise] []] [2] [2],.asg (.ai aI 36) (.call (.ae 81) [.af 1])],none⟩
def pF:Fn:=⟨4,4,[],[.asg (.ai aI 9) (.call (.ae 83) [.af 1]),.asg (.ai aI 14) (.call (.ae 83) [.af 2]),.asg (.ai aI 11) (.call (.ae 83) [.af 3])],none⟩
def kY:Fn:=⟨1,2,[],[.cA (.name 1) (.plain aI) [.bs (.aE (.ai cB 3) .gt (.ae 84)) [.raise] []] [1] [1],.ret (some aI)],none⟩
def pG:Fn:=⟨3,3,[],[.asg (.ai aI 12) cB,.asg (.ai aI 7) (.call (.ae 85) [.af 2])],none⟩
def l8:Fn:=⟨1,1,[],[.bs (.not (.call hF [.af 0,.int 0,.int 255])) [.raise] [],.ret (some aI)],none⟩
def jz:Fn:=⟨6,7,[.bool false,.bool false],[.asg (.ai aI 12) cB,.asg (.ai aI 7) (.call (.ae 85) [.af 2]),.asg (.ai aI 8) (.call (.ae 40) [.comp (.call (.ae 85) [.af 6]) 6 ej none]),.asg (.ai aI 37) fT,.asg (.ai aI 38) iH],none⟩
def pH:Fn:=⟨4,4,[.none],[.bs (.ay true [.not (.call hF [.af 2,.ae 86,.ae 87]),.not (.call hF [.af 2,.ae 88,.aS .add (.ae 88) (.int 99)])]) [.raise] [],.bs (.aE (.aE ej .is .none) .eq (.jt (.ae 89) .le c8 .le (.ae 90))) [.raise] [],.bs (.ay true [.aE ej .i6 .none,.bad]) [.raise] [],.asg (.ai aI 39) cB,.asg (.ai aI 10) c8,.asg (.ai aI 40) ej],none⟩
def pI:Fn:=⟨6,6,[.int 0,.int 0,.int 0,.int 0,.int 0],[.bs (.ay false [.not (.call hF [.af 3,.ae 91,.ae 92]),.not (.call hF [.af 5,.ae 91,.ae 92])]) [.raise] [],.asg (.ai aI 35) (.call (.ae 80) [.af 1]),.asg (.ai aI 41) (.call (.ae 80) [.af 2]),.asg (.ai aI 42) (.ite (.aE c8 .ne (.int 0)) ej (.ae 91)),.asg (.ai aI 43) (.call (.ae 80) [.af 4]),.asg (.ai aI 44) (.ite (.aE fT .ne (.int 0)) iH (.ae 91))],none⟩
def l9:Fn:=⟨1,1,[],[.ret (some (.tuple [.ai aI 35,.ai aI 41,.ai aI 42,.ai aI 43,.ai aI 44]))],none⟩
def vC:Fn:=⟨4,8,[.bool true,.bool true],[.cA (.name 4) (.plain cB) [.bs (.not (.call hF [.af 4,.int 0,.int 255])) [.raise] []] [4,5,6,7] [4],.asg (.name 5) (.mut (.list [])),.asg (.name 6) (.mut (.list [])),.asg (.name 7) c8,.cA (.name 4) (.plain cB) [.bs (.dM aI 13 [.af 4]) [.expr (.bS iB .append [.af 4]),.cont] [],.rB 6,.expr (.bS iH .cN [.call (.ae 93) [.af 0,.af 6,.af 7,.ae 46]]),.asg (.name 6) (.mut (.list [])),.asg (.name 7) .tru] [1,2,4] [4],.rB 6,.expr (.bS iH .cN [.call (.ae 93) [.af 0,.af 6,.af 7,.ite ej (.ai aI 24) (.ae 46)]]),.ret (some iH)],some 1⟩
def eF:Fn:=⟨4,9,[],[.bs (.aE cB .eq (.list [])) [.ret (some (.list []))] [],.asg (.name 4) (.call (.ae 94) [.af 0,.af 1,.ay true [.af 2,.aE (.dM aI 45 [.ae 46]) .ge (.int 0)],.af 3]),.asg (.name 5) (.aS .mul (.ae 95) (.aS .add (.call eT [.af 1]) (.int 1))),.t8 (.ai fT 46) [.asg (.name 6) (.ite (.aE (.ai fT 47) .is .none) (.ae 46) (.bp (.ai fT 47) (.int 0))),.asg (.name 7) (.ite (.aE (.ai fT 48) .eq (.list [])) (.ai fT 49) (.bp (.bp (.ai fT 48) (.neg (.int 1))) (.int 0))),.asg (.name 8) (.call (.ae 96) [.af 0,.af 6,.af 7]),.bs (.aE jj .is .none) [.expr (.call (.ae 97) [.af 4])] [.bs (.aE (.bp jj (.int 0)) .eq (.int 0)) [.expr (.call (.ae 97) [.af 4]),.expr (.bS (.ai fT 50) .append [.call (.ae 26) [.bp jj (.int 1),.ae 78]])] [.bs (.aE iH .eq (.int 0)) [.raise] [.asg (.name 5) (.aS .sub iH (.int 1)),.expr (.call (.ae 98) [.af 4,.aS .sub (.bp jj (.int 0)) (.int 1),.bp jj (.int 1)])]]]] [1,2,3,6,7,8] [0,5,6,7,8],.ret (some (.ai fT 50))],some 1⟩
def lq:Fn:=⟨5,6,[],[.asg (.ai aI 12) cB,.asg (.ai aI 48) (.mut (.comp (.tuple [.af 5,.tuple [.af 5],.fls]) 5 (.OL c8) none)),.asg (.ai aI 47) (.ite ej .none (.bS (.ai aI 48) .vv [])),.asg (.ai aI 49) fT,.asg (.ai aI 50) (.mut (.list [])),.asg (.ai aI 51) .fls,.asg (.ai aI 52) .fls,.asg (.ai aI 46) .tru],none⟩
def f_look:Fn:=⟨3,10,[],[.asg (.name 3) (.dM aI 45 [.af 1]),.bs (.ay false [.aE ej .lt (.int 0),.aE c8 .eq (.ae 46)]) [.ret (some .none)] [],.asg (.name 4) (.ai aI 22),.bs (.ay true [.aE cB .ne (.ae 46),.aE (.bp (.bp fT ej) (.int 0)) .gt (.ae 58)]) [.asg (.name 3) (.aS .add (.aS .mul (.int 256) (.bp (.bp fT ej) (.int 2))) (.bp (.bp fT ej) (.int 3)))] [],.asg (.name 5) .tru,.t8 iH [.asg (.aG [6,7,8,9]) (.bp fT ej),.bs (.ay true [.aE oi .eq c8,.aE iB .le (.ae 58)]) [.bs (.aE jj .ge (.ae 59)) [.ret (some (.tuple [.int 0,.bp (.ai aI 23) (.aS .add (.aS .mul (.int 256) (.aS .sub jj (.ae 59))) vB)]))] [],.ret (some (.tuple [.aS .add (.ite (.aE jj .g8 (.ae 99)) jj (.int 0)) (.int 1),.af 9]))] [],.asg (.name 5) (.aE iB .lt (.ae 58)),.asg (.name 3) (.aS .add (.aS .add ej iB) (.int 1))] [1,6,7,8,9] [0,2,3,4,5,6,7,8,9],.ret (some .none)],none⟩
def Ac:Fn:=⟨1,4,[],[.bs (.aE (.ai aI 47) .is .none) [.ret none] [],.asg (.aG [1,2,3]) (.ai aI 47),.bs ej [.expr (.bS (.ai aI 50) .append [.call (.ae 31) [.ai aI 12,.af 1,.af 2,.ai aI 51,.ay true [.ai aI 52,.aE (.ai aI 48) .eq (.list [])]]]),.asg (.ai aI 51) .fls] [.expr (.bS (.ai aI 50) .append [.call (.ae 12) [.ai aI 12,.af 1]])]],none⟩
def sC:Fn:=⟨1,1,[],[.expr (.call (.ae 100) [.af 0]),.bs (.aE (.ai aI 48) .eq (.list [])) [.asg (.ai aI 46) .fls] [.asg (.ai aI 47) (.bS (.ai aI 48) .vv [])]],none⟩
def ch:Fn:=⟨3,10,[],[.asg (.name 3) (.ai aI 47),.bs (.aE ej .is .none) [.asg (.ai aI 51) .tru] [.bs (.aE (.ai aI 48) .eq (.list [])) [.asg (.ai aI 52) .tru] []],.asg (.aG [4,5]) (.tuple [.aE (.aS .xZ (.aS .fdiv cB (.int 2)) (.int 2)) .eq (.int 1),.aE (.aS .xZ cB (.int 2)) .eq (.int 1)]),.asg (.name 6) (.ite (.ay true [.aE ej .i6 .none,.not fT]) (.bp ej (.int 1)) (.tuple [])),.bs (.ay true [.not iH,.aE (.ai aI 48) .eq (.list [])]) [.asg (.ai aI 49) (.ae 46)] [.bs (.not iH) [.asg (.name 7) (.bS (.ai aI 48) .vv []),.asg (.name 6) (.aS .add iB (.bp oi (.int 1)))] [],.x4 [7]],.x4 [7],.asg (.name 8) (.tuple [.af 2,.af 6,.tru]),.bs fT [.expr (.bS (.ai aI 48) .append [.af 8])] [.asg (.ai aI 47) jj],.cA (.name 9) (.plain (.call BB [.aS .fdiv cB (.int 4)])) [.expr (.call (.ae 97) [.af 0])] [1,2,3,4,5,6,7,8,9] [0,9]],none⟩
def f7:Fn:=⟨6,15,[],[.asg (.name 6) (.mut (.list [])),.asg (.name 7) (.int 0),.asg (.name 8) .tru,.t8 (.aE oi .lt (.call eT [.af 0])) [.asg (.name 9) (.bp aI oi),.expr (.bS iB .append [.af 9]),.iF 7 .add (.int 1),.bs (.aE (.ai vB 3) .eq (.ae 101)) [.asg (.name 8) (.not (.ai vB 4))] [],.asg (.name 10) (.ite (.ay true [.aE (.ai vB 3) .eq (.ae 102),.af 8]) (.call (.ae 11) [.af 0,.aS .sub oi (.int 1),.af 2,.af 3]) .none),.asg (.name 11) (.ite (.aE kH .i6 .none) (.dM cB 2 [.bp kH (.int 2),.af 4,.af 5]) (.list [])),.bs (.aE pq .ne (.list [])) [.asg (.name 12) (.call (.ae 103) [.af 0,.bp kH (.int 0),.bp kH (.int 1)]),.asg (.name 13) (.call (.ae 104) [.af 12,.af 0,.bp kH (.int 0)]),.expr (.bS iB .cN [.slice aI (some oi) (some (.ai uc 53))]),.expr (.bS iB .cN [.dM uc 54 [.comp (.aS .add (.af 13) (.af 14)) 14 pq none]]),.asg (.name 7) (.ai uc 55)] [],.x4 [12,13]] [9,10,11,12,13] [0,1,2,3,4,5,7,8,9,10,11,12,13],.ret (some iB)],some 1⟩
def gr:Fn:=⟨4,10,[],[.asg (.name 4) (.call (.ae 105) [.af 0,.af 1,.af 2,.af 3]),.bs (.ay false [.aE fT .lt (.int 0),.not (.jt (.int 0) .le (.ai (.ai (.bp aI fT) 12) 5) .le (.int 255))]) [.ret (some .none)] [],.asg (.name 5) (.ai (.bp aI fT) 12),.asg (.name 6) (.mut (.list [])),.asg (.name 7) fT,.t8 (.ay true [.aE oi .lt (.call eT [.af 0]),.call (.ae 106) [.bp aI oi,.af 5]]) [.asg (.name 8) (.comp (.dM c8 56 [.af 9]) 9 (.call (.ae 107) [.bp aI oi]) none),.bs (.ay false [.aE (.int 0) .g8 jj,.aE (.aS .add (.call eT [.af 6]) (.call eT [.af 8])) .gt (.ae 108)]) [.brk] [],.expr (.bS iB .cN [.af 8]),.iF 7 .add (.int 1)] [1,3,8] [2,5,8],.rB 6,.ret (some (.ite (.ay true [.aE iB .ne (.list []),.call (.ae 109) [.af 0,.af 7]]) (.tuple [.af 4,.af 7,.af 6]) .none))],none⟩
def jA:Fn:=⟨4,8,[],[.cA (.name 4) (.plain (.call BB [.aS .add cB (.int 1),.call eT [.af 0]])) [.asg (.name 5) (.bp aI fT),.bs (.ay true [.aE (.ai iH 3) .ne (.ae 110),.aE (.ai iH 3) .ne (.ae 111),.aE (.ai iH 3) .ne (.ae 112),.not (.call (.ae 113) [.af 5])]) [.ret (some (.neg (.int 1)))] [],.asg (.name 6) (.call (.ae 107) [.af 5]),.asg (.name 7) (.ite (.aE iB .ne (.tuple [])) (.dM c8 56 [.bp iB (.int 0)]) (.int 0)),.bs (.aE oi .ne (.int 0)) [.ret (some (.ite (.ay false [.aE oi .eq (.bp iB (.int 0)),.af 3]) fT (.neg (.int 1))))] []] [1,4,5,6,7] [0,2,3,4,5,6,7],.ret (some (.neg (.int 1)))],none⟩
def gu:Fn:=⟨2,3,[],[.cA (.name 2) (.plain (.slice aI (some cB) none)) [.bs (.ay true [.aE (.ai c8 3) .ne (.ae 110),.aE (.ai c8 3) .ne (.ae 111),.not (.call (.ae 113) [.af 2])]) [.ret (some (.aE (.ai c8 3) .g8 (.ae 114)))] []] [0,1,2] [2],.ret (some .tru)],none⟩
def pJ:Fn:=⟨1,1,[],[.bs (.aE (.ai aI 3) .eq (.ae 110)) [.ret (some (.tuple [.ai aI 7]))] [],.ret (some (.ite (.aE (.ai aI 3) .eq (.ae 111)) (.ai aI 8) (.tuple [])))],none⟩
def l':Fn:=⟨2,2,[],[.bs (.ay false [.aE (.ai aI 3) .eq (.ae 110),.aE (.ai aI 3) .eq (.ae 111)]) [.ret (some (.aE (.ai (.ai aI 12) 15) .eq (.ai cB 15)))] [],.ret (some (.call (.ae 113) [.af 0]))],none⟩
def jB:Fn:=⟨1,1,[],[.ret (some (.ay true [.aE (.ai aI 3) .eq (.ae 84),.aE (.ai aI 10) .eq (.ae 78)]))],none⟩
def kZ:Fn:=⟨3,4,[],[.ret (some (.call (.ae 19) [.comp (.call eT [.call (.ae 107) [.af 3]]) 3 (.slice cB (some (.ai aI 53)) (some c8)) none]))],none⟩
def e9:Fn:=⟨4,9,[],[.asg (.ai aI 12) (.ai (.bp cB c8) 12),.asg (.aG [4,5]) (.tuple [.af 2,.af 3]),.t8 (.ay true [.aE fT .gt (.int 0),.call (.ae 106) [.bp cB (.aS .sub fT (.int 1)),.ai aI 12]]) [.iF 4 .sub (.int 1)] [2,3,6,7,8] [],.t8 (.ay true [.aE iH .lt (.call eT [.af 1]),.call (.ae 106) [.bp cB iH,.ai aI 12]]) [.iF 5 .add (.int 1)] [2,3,6,7,8] [],.asg (.aG [6,7]) (.call (.ae 115) [.slice cB (some fT) (some iH)]),.asg (.ai aI 53) (.aS .add fT iB),.asg (.ai aI 55) (.aS .sub iH oi),.asg (.ai aI 57) (.mut (.list [])),.cA (.name 8) (.plain (.slice cB (some (.ai aI 53)) (some (.ai aI 55)))) [.expr (.bS (.ai aI 57) .cN [.call (.ae 107) [.af 8]])] [2,3,4,5,6,7,8] [8],.Bu 0 57,.asg (.ai aI 37) .fls,.asg (.ai aI 38) .fls,.expr (.dM aI 58 [.af 1]),.asg (.ai aI 59) (.slice cB (some (.ai aI 53)) (some (.ai aI 55))),.asg (.ai aI 60) (.mut (.list [.int 0])),.cA (.name 8) (.plain (.ai aI 59)) [.expr (.bS (.ai aI 60) .append [.aS .add (.bp (.ai aI 60) (.neg (.int 1))) (.call eT [.call (.ae 107) [.af 8]])])] [1,2,3,4,5,6,7,8] [0,8]],none⟩
def fi:Fn:=⟨2,7,[],[.cA (.aG [2,3]) (.plain (.tuple [.tuple [.tru,.tru],.tuple [.fls,.tru],.tuple [.tru,.fls],.tuple [.fls,.fls]])) [.asg (.name 4) (.call ub [.ai aI 12,.ai aI 57,.af 2,.af 3]),.asg (.aG [5,6]) (.call (.ae 115) [.af 4]),.bs (.aE (.call (.ae 116) [.af 4]) .eq (.call (.ae 116) [.slice cB (some (.aS .sub (.ai aI 53) iH)) (some (.aS .add (.ai aI 55) iB))])) [.asg (.ai aI 37) c8,.asg (.ai aI 38) ej,.rD aI 53 .sub iH,.rD aI 55 .add iB,.ret none] []] [2,3,4,5,6] [0,1,2,3,4,5,6]],none⟩
def eP:Fn:=⟨3,4,[],[.asg (.name 3) (.int 0),.t8 (.ay true [.aE ej .lt (.call eT [.ai aI 59]),.aE ej .lt (.call eT [.af 1]),.aE (.bp (.ai aI 60) (.aS .add ej (.int 1))) .le c8]) [.bs (.aE (.call (.ae 117) [.bp (.ai aI 59) ej]) .ne (.call (.ae 117) [.bp cB ej])) [.brk] [],.iF 3 .add (.int 1)] [] [0,1,2],.ret (some ej)],none⟩
def df:Fn:=⟨4,6,[],[.asg (.name 4) (.int 0),.asg (.name 5) (.aS .sub (.call eT [.ai aI 59]) (.int 1)),.t8 (.ay true [.aE iH .ge ej,.aE fT .lt (.call eT [.af 1]),.aE (.bp (.ai aI 60) iH) .ge c8]) [.bs (.aE (.call (.ae 117) [.bp (.ai aI 59) iH]) .ne (.call (.ae 117) [.bp cB (.aS .sub (.aS .sub (.call eT [.af 1]) (.int 1)) fT)])) [.brk] [],.iF 4 .add (.int 1),.iF 5 .sub (.int 1)] [] [0,1,2,3,5],.ret (some fT)],none⟩
def cH:Fn:=⟨2,11,[],[.asg (.name 2) (.ite (.dM (.ai aI 12) 13 [.ai (.ai aI 12) 5]) (.list [.ai (.ai aI 12) 5]) (.list [])),.asg (.name 3) (.mut (.list [])),.asg (.name 4) (.int 0),.cA (.name 5) (.plain cB) [.asg (.name 6) (.call ub [.ai aI 12,.aS .add (.slice (.ai aI 57) none (some iH)) c8,.ai aI 37,.tru]),.asg (.name 7) (.call ub [.ai aI 12,.slice (.ai aI 57) (some iH) none,.tru,.ai aI 38]),.asg (.name 8) (.dM aI 61 [.af 6,.af 5]),.bs (.aE jj .lt fT) [.cont] [],.asg (.name 9) (.dM aI 62 [.af 7,.af 5,.af 8]),.asg (.name 10) (.aS .sub (.call eT [.ai aI 59]) vB),.expr (.bS ej .cN [.slice (.ai aI 59) (some fT) (some jj)]),.expr (.bS ej .append [.call (.ae 28) [.slice iB (some jj) none,.slice oi none (some (.aS .sub (.call eT [.af 7]) vB)),.slice (.ai aI 59) (some jj) (some kH)]]),.asg (.name 4) kH] [1,5,6,7,8,9,10] [2,5,6,7,8,9,10],.rB 3,.ret (some (.aS .add ej (.slice (.ai aI 59) (some fT) none)))],none⟩
def sD:Fn:=⟨1,1,[],[.bs (.aE (.ai aI 3) .eq (.ae 110)) [.ret (some (.tuple [.ae 110,.ai (.ai aI 12) 15,.ai aI 7]))] [],.bs (.aE (.ai aI 3) .eq (.ae 111)) [.ret (some (.tuple [.ae 111,.ai (.ai aI 12) 15,.ai aI 7,.ai aI 8,.ai aI 37,.ai aI 38]))] [],.bs (.aE (.ai aI 3) .eq (.ae 84)) [.ret (some (.tuple [.ae 84,.ai aI 35,.ai aI 10]))] [],.ret (some (.tuple [.ai aI 3]))],none⟩
def pK:Fn:=⟨1,2,[],[.ret (some (.comp (.call (.ae 117) [.af 1]) 1 aI none))],none⟩
def hG:Fn:=⟨1,3,[],[.asg (.aG [1,2]) (.tuple [.int 0,.int 0]),.t8 (.ay true [.aE cB .lt (.call eT [.af 0]),.aE (.ai (.bp aI cB) 3) .eq (.ae 84)]) [.iF 1 .add (.int 1)] [] [],.t8 (.ay true [.aE c8 .lt (.aS .sub (.call eT [.af 0]) cB),.aE (.ai (.bp aI (.aS .sub (.aS .sub (.call eT [.af 0]) (.int 1)) c8)) 3) .eq (.ae 84)]) [.iF 2 .add (.int 1)] [] [0],.ret (some (.tuple [.af 1,.af 2]))],none⟩
def ig:Fn:=⟨2,3,[.int 0],[.ret (some (.call (.ae 40) [.comp (.call (.ae 118) [.af 2,.af 1]) 2 aI none]))],none⟩
def nP:Fn:=⟨2,4,[.int 0],[.expr (.call (.ae 119) [.af 1]),.asg (.name 2) (.ai aI 3),.bs (.aE c8 .eq (.ae 110)) [.ret (some (.tuple [.ae 110,.ai (.ai aI 12) 15,.ai aI 7]))] [],.bs (.aE c8 .eq (.ae 111)) [.ret (some (.tuple [.ae 111,.ai (.ai aI 12) 15,.ai aI 7,.ai aI 8,.ite (.ai aI 37) (.int 1) (.int 0),.ite (.ai aI 38) (.int 1) (.int 0)]))] [],.bs (.ay false [.aE c8 .eq (.ae 120),.aE c8 .eq (.ae 121)]) [.raise,.raise] [],.x4 [3],.bs (.aE c8 .eq (.ae 122)) [.raise] [],.bs (.aE c8 .eq (.ae 84)) [.ret (some (.tuple [.ae 84,.ai aI 35,.ai aI 10]))] [],.bs (.aE c8 .eq (.ae 102)) [.ret (some (.tuple [.ae 102,.dM (.ai aI 39) 8 [],.ai aI 10,.ite (.aE (.ai aI 40) .is .none) (.tuple []) .bad]))] [],.bs (.aE c8 .eq (.ae 123)) [.ret (some (.tuple [.ae 123,.ai aI 34]))] [],.bs (.aE c8 .eq (.ae 124)) [.raise] [],.bs (.aE c8 .eq (.ae 101)) [.ret (some (.tuple [.ae 101,.ite (.ai aI 4) (.int 1) (.int 0),.ai aI 35]))] [],.ret (some (.call (.ae 125) [.af 0,.af 1]))],none⟩
def ii:Fn:=⟨2,5,[],[.asg (.name 2) (.ai aI 3),.bs (.aE c8 .eq (.ae 126)) [.ret (some (.tuple [.ae 126,.call oh [.ai aI 9,.aS .add cB (.int 1)],.call oh [.ai aI 14,.aS .add cB (.int 1)],.call oh [.ai aI 11,.aS .add cB (.int 1)]]))] [],.bs (.aE c8 .eq (.ae 127)) [.raise] [],.bs (.aE c8 .eq (.ae 128)) [.raise] [],.bs (.aE c8 .eq (.ae 112)) [.ret (some (.call (.ae 129) [.af 0]))] [],.bs (.aE c8 .eq (.ae 130)) [.raise,.raise,.raise] [],.x4 [3,4],.raise],none⟩
def fV:Fn:=⟨1,1,[],[.bs (.aE (.ai aI 10) .eq (.ae 131)) [.raise] [],.bs (.aE (.ai aI 10) .eq (.ae 132)) [.raise] [],.ret (some (.ite (.aE (.ai aI 10) .eq (.ae 133)) .bad (.tuple [.ae 112,.ae 134,.call (.ae 40) [.ai aI 36]])))],none⟩
def k6:Fn:=⟨1,1,[],[.bs (.aE aI .gt (.ae 135)) [.raise] []],none⟩
def Ad:List (Nat×Fn):=[(1070,kO),(991,m8),(998,pu),(1005,py),(1010,fh),(1015,nM),(1022,kP),(1027,cg),(1034,nN),(1039,l5),(1046,pz),(1053,sw),(1058,ew),(1065,iJ),(430,gn),(336,pA),(284,kQ),(298,kR),(305,jv),(312,i9),(319,l6),(420,nO),(125,pB),(277,sA),(343,pC),(378,kS),(870,ic),(877,gq),(856,K6),(933,jw),(940,fU),(947,ez),(905,ja),(898,d5),(891,sB),(959,dU),(912,pD),(973,eC),(979,eE),(919,l7),(132,kT),(562,kU),(139,jx),(519,pE),(146,kW),(604,jy),(625,kX),(583,pF),(464,kY),(478,pG),(457,l8),(498,jz),(541,pH),(203,pI),(210,l9),(726,vC),(718,eF),(683,lq),(671,f_look),(697,Ac),(704,sC),(711,ch),(845,f7),(767,gr),(755,jA),(762,gu),(741,pJ),(748,l'),(734,jB),(840,kZ),(800,e9),(807,fi),(814,eP),(821,df),(828,cH),(774,sD),(779,pK),(786,hG),(663,ig),(657,nP),(651,ii),(644,fV),(639,k6)]
def cW:List (Nat×List (Nat×V)):=[(409,[(0,.bI 336),(13,.bI 343),(35,.bI 350),(45,.bI 378)]),(481,[(0,.bI 478),(3,.int 0)]),(501,[(0,.bI 498),(3,.int 1)]),(522,[(0,.bI 519),(3,.int 5)]),(544,[(0,.bI 541),(3,.int 6)]),(565,[(0,.bI 562),(3,.int 7)]),(586,[(0,.bI 583),(3,.int 8)]),(607,[(0,.bI 604),(3,.int 12)]),(628,[(0,.bI 625),(3,.int 13),(10,.int 0)]),(686,[(0,.bI 683)]),(831,[(0,.bI 800),(54,.bI 828),(58,.bI 807),(61,.bI 814),(62,.bI 821)]),(880,[(0,.bI 870),(56,.bI 877)]),(982,[(0,.bI 933),(1,.bI 959),(2,.bI 979),(6,.bI 947),(32,.bI 940),(33,.bI 973)]),(256,[(0,.bI 203),(8,.bI 210)])]
def lr:List Str:=List.map Str.ofString ["__init__","add_exception","points","kind","is_on","hyphen_char","add","code","parts","pre","sort","middle","font","has","post","number","name","size","design","check","params","chars","program","kerns","boundary","edge_start","skew_char","store","links","numbers","states","exceptions","state_of","gap_numbers","value","width","octets","left","right","glue","leader","stretch","stretch_order","shrink","shrink_order","starts","is_going","now","waiting","edge","found","hit_left","hit_right","first","with_breaks","last","lower","codes","find_edges","nodes","begins","alike_ahead","alike_behind"]
def lu:List Str:=List.map Str.ofString ["len","_law_box","_law_fonts","LowerCodes","dict","key","LOWER_CODES","_law_table","_law_take","range","_law_region","word_stretch","Char","MathEdge","described_list","_law_cut","list","_law_merged","_law_flat","sum","abs","int","_law_rows","font_of_rows","Patterns","Penalty","Kern","Special","Disc","_law_between","run","Ligature","Skip","Glue","_law_is_new","hyphenated","_law_codes","_law_single","is_whole","MOST_FONTS","tuple","Font","font_name","isinstance","str","MOST_SIZE","EDGE_fonts","MOST_PARAMS","check_sizes","check_chars","check_larger","check_program","left_start","is_size","PLAIN_SORT","PIECES_SORT","PROGRAM_SORT","LARGER_SORT","STOP_SKIP","KERN_OP","LEAD","LETTERS","bool","MAX_DIMEN","NO_CHARACTER","REGION","check_pattern","EDGE_hyphen","is_word","inner_letters","LONGEST_hyphen","word_key","max","least_part","min","check_whole","check_number","MAX_NUMBER","FONT_KERN","MU_KERN","check_dimen","bytes","bytearray","check_short","KERN","check_code","PLAIN","NONSCRIPT","NAMED","ALEADERS","XLEADERS","NORMAL","FILLL","word_nodes","Word","STEPS","look","pass_on","put_between","KNOWN_OPS","leave","MATH","GLUE","Stretch","word_offset","first_letter","is_of_font","codes_of","LONGEST_hyphlist","is_followed_well","CHAR","LIGATURE","SPECIAL","is_font_kern","FOLLOWING","outer_kerns","marks_of","mark_of","described","check_depth","HBOX","VBOX","RULE","PENALTY","MARK","described_rest","DISC","INSERT","ADJUST","described_special","UNSET","WRITING","OPENING","CLOSING","FOR_DEVICE","DEEPEST"]
def sE:aN:=[.bi .len,.bI 991,.bI 1010,.bI 880,.ty .dict,.bI 856,.int 14,.bI 1015,.bI 998,.ty .range,.bI 1027,.bI 767,.bI 481,.bI 607,.bI 663,.bI 1053,.ty .list,.bI 1065,.bI 1046,.bi .sum,.bi .abs,.ty .int,.bI 1005,.bI 430,.bI 982,.bI 565,.bI 522,.bI 628,.bI 586,.bI 1022,.bI 726,.bI 501,.bI 544,.bI 256,.bI 1039,.bI 845,.bI 1034,.bI 1058,.bI 125,.int 255,.ty .tuple,.bI 409,.bI 420,.bi .iE,.ty .str,.int 134217727,.int 256,.int 64,.bI 284,.bI 298,.bI 305,.bI 312,.bI 319,.bI 277,.int 0,.int 3,.int 1,.int 2,.int 128,.int 128,.int 255,.str (Str.ofString "abcdefghjklmnopqrstuvwxyz"),.ty .bool,.int 1073741823,.aG [.int 0,.int 0,.int 0,.int 0,.int 0,.int 0],.int 1048576,.bI 905,.int 0,.bI 891,.bI 898,.int 63,.bI 912,.bi .max,.bI 919,.bi .min,.bI 132,.bI 139,.int 2147483647,.int 0,.int 3,.bI 146,.ty .bytes,.ty .bytearray,.bI 464,.int 5,.bI 457,.int 0,.int 5,.int 100,.int 1,.int 3,.int 0,.int 3,.bI 718,.bI 686,.int 20,.bI 671,.bI 704,.bI 711,.aG [.int 0,.int 1,.int 2,.int 3,.int 5,.int 6,.int 7,.int 11],.bI 697,.int 12,.int 6,.bI 831,.bI 840,.bI 755,.bI 748,.bI 741,.int 63,.bI 762,.int 0,.int 1,.int 13,.bI 734,.aG [.int 5,.int 13,.int 6,.int 7,.int 10,.int 11,.int 9],.bI 786,.bI 779,.bI 774,.bI 657,.bI 639,.int 2,.int 3,.int 4,.int 7,.int 9,.bI 651,.int 8,.int 10,.int 11,.bI 644,.int 14,.int 1,.int 2,.int 3,.int 0,.int 60]
def L4:aL:=[481,501,522,544,565,586,607,628,831,880,256]
def ab:dO:=⟨sE,fun a=>Ad.lookup a,fun a=>cW.lookup a,fun a=>L4.contains a⟩
def Pw:ab.fn 1070=some kO:=rfl
def BC:ab.fn 991=some m8:=rfl
def x9:ab.fn 998=some pu:=rfl
def ya:ab.fn 1005=some py:=rfl
def vD:ab.fn 1010=some fh:=rfl
def vE:ab.fn 1015=some nM:=rfl
def rH:ab.fn 1022=some kP:=rfl
def ud:ab.fn 1027=some cg:=rfl
def vF:ab.fn 1034=some nN:=rfl
def ue:ab.fn 1039=some l5:=rfl
def yb:ab.fn 1046=some pz:=rfl
def BD:ab.fn 1053=some sw:=rfl
def uf:ab.fn 1058=some ew:=rfl
def ug:ab.fn 1065=some iJ:=rfl
def pL:ab.fn 430=some gn:=rfl
def yc:ab.fn 336=some pA:=rfl
def rI:ab.fn 284=some kQ:=rfl
def rJ:ab.fn 298=some kR:=rfl
def pM:ab.fn 305=some jv:=rfl
def jb:ab.fn 312=some i9:=rfl
def ma:ab.fn 319=some l6:=rfl
def vG:ab.fn 420=some nO:=rfl
def ye:ab.fn 125=some pB:=rfl
def BE:ab.fn 277=some sA:=rfl
def yf:ab.fn 343=some pC:=rfl
def rK:ab.fn 378=some kS:=rfl
def m':ab.fn 870=some ic:=rfl
def lx:ab.fn 877=some gq:=rfl
def Px:ab.fn 856=some K6:=rfl
def pN:ab.fn 933=some jw:=rfl
def kJ:ab.fn 940=some fU:=rfl
def pO:ab.fn 947=some ez:=rfl
def oj:ab.fn 905=some ja:=rfl
def om:ab.fn 898=some d5:=rfl
def BF:ab.fn 891=some sB:=rfl
def hH:ab.fn 959=some dU:=rfl
def yg:ab.fn 912=some pD:=rfl
def iK:ab.fn 973=some eC:=rfl
def mc:ab.fn 979=some eE:=rfl
def uh:ab.fn 919=some l7:=rfl
def rL:ab.fn 132=some kT:=rfl
def rM:ab.fn 562=some kU:=rfl
def pP:ab.fn 139=some jx:=rfl
def yh:ab.fn 519=some pE:=rfl
def rN:ab.fn 146=some kW:=rfl
def pQ:ab.fn 604=some jy:=rfl
def rO:ab.fn 625=some kX:=rfl
def yi:ab.fn 583=some pF:=rfl
def rP:ab.fn 464=some kY:=rfl
def yj:ab.fn 478=some pG:=rfl
def ui:ab.fn 457=some l8:=rfl
def jC:ab.fn 498=some jz:=rfl
def yk:ab.fn 541=some pH:=rfl
def yl:ab.fn 203=some pI:=rfl
def uj:ab.fn 210=some l9:=rfl
def Py:ab.fn 726=some vC:=rfl
def uk:ab.fn 718=some eF:=rfl
def ym:ab.fn 683=some lq:=rfl
def L5:ab.fn 671=some f_look:=rfl
def HI:ab.fn 697=some Ac:=rfl
def BG:ab.fn 704=some sC:=rfl
def rQ:ab.fn 711=some ch:=rfl
def ul:ab.fn 845=some f7:=rfl
def pR:ab.fn 767=some gr:=rfl
def pS:ab.fn 755=some jA:=rfl
def ly:ab.fn 762=some gu:=rfl
def yn:ab.fn 741=some pJ:=rfl
def um:ab.fn 748=some l':=rfl
def pT:ab.fn 734=some jB:=rfl
def rR:ab.fn 840=some kZ:=rfl
def rS:ab.fn 800=some e9:=rfl
def jD:ab.fn 807=some fi:=rfl
def jk:ab.fn 814=some eP:=rfl
def iL:ab.fn 821=some df:=rfl
def jl:ab.fn 828=some cH:=rfl
def BH:ab.fn 774=some sD:=rfl
def yo:ab.fn 779=some pK:=rfl
def rT:ab.fn 786=some hG:=rfl
def ij:ab.fn 663=some ig:=rfl
def jE:ab.fn 657=some nP:=rfl
def ik:ab.fn 651=some ii:=rfl
def kK:ab.fn 644=some fV:=rfl
def rU:ab.fn 639=some k6:=rfl
def DJ:ab.cls 409=cW.lookup 409∧ab.fn 409=none:=⟨rfl,rfl⟩
def DK:ab.cls 481=cW.lookup 481∧ab.fn 481=none:=⟨rfl,rfl⟩
def iM:ab.cls 501=cW.lookup 501∧ab.fn 501=none:=⟨rfl,rfl⟩
def DL:ab.cls 522=cW.lookup 522∧ab.fn 522=none:=⟨rfl,rfl⟩
def DM:ab.cls 544=cW.lookup 544∧ab.fn 544=none:=⟨rfl,rfl⟩
def sF:ab.cls 565=cW.lookup 565∧ab.fn 565=none:=⟨rfl,rfl⟩
def DN:ab.cls 586=cW.lookup 586∧ab.fn 586=none:=⟨rfl,rfl⟩
def pU:ab.cls 607=cW.lookup 607∧ab.fn 607=none:=⟨rfl,rfl⟩
def sG:ab.cls 628=cW.lookup 628∧ab.fn 628=none:=⟨rfl,rfl⟩
def DO:ab.cls 686=cW.lookup 686∧ab.fn 686=none:=⟨rfl,rfl⟩
def sH:ab.cls 831=cW.lookup 831∧ab.fn 831=none:=⟨rfl,rfl⟩
def md:ab.cls 880=cW.lookup 880∧ab.fn 880=none:=⟨rfl,rfl⟩
def pV:ab.cls 982=cW.lookup 982∧ab.fn 982=none:=⟨rfl,rfl⟩
def DP:ab.cls 256=cW.lookup 256∧ab.fn 256=none:=⟨rfl,rfl⟩
def oS (s:String):Option Str:=some (Str.ofString s)
def uo:List (Nat×List (Option Str)):=[(1070,[oS "script",oS "is_tiny",oS "source",oS "fonts",oS "lower",oS "one",oS "other",oS "sides",oS "first",oS "second",oS "many",oS "regions",oS "way",oS "last",oS "lead",oS "items",oS "before",oS "found",oS "again",oS "both",oS "due",oS "later",oS "is_text",oS "region",oS "word",oS "points",oS "cut",oS "node",oS "once",none,none,none,none,none,none]),(991,[oS "script",oS "k",oS "cell",none]),(998,[oS "box",oS "many",oS "digit",oS "mixed"]),(1005,[oS "box",oS "found",oS "many",oS "k",oS "way",oS "op",oS "rest"]),(1010,[oS "box",oS "program",oS "begins",oS "code",oS "edge",oS "rows",oS "fonts",oS "hyphen",oS "font",none]),(1015,[oS "box",oS "first",oS "table",oS "seen",oS "k",oS "letters",oS "way",oS "numbers",none,none]),(1022,[oS "box",oS "many",oS "way"]),(1027,[oS "box",oS "fonts",oS "most",oS "codes",oS "plant",oS "spot",oS "ahead",oS "behind",oS "way",oS "beside",oS "front",oS "back",oS "nodes",none]),(1034,[oS "nodes",oS "found",oS "node"]),(1039,[oS "node",none]),(1046,[oS "nodes",oS "found",oS "node"]),(1053,[oS "items",oS "way",oS "lower"]),(1058,[oS "region",oS "word",oS "point",oS "way",oS "lower",oS "table",oS "font",oS "cut",oS "sites",oS "node",oS "hyphen",oS "text",oS "rest",oS "many",none]),(1065,[oS "region",oS "word",oS "points",oS "way",oS "lower",oS "found",oS "done",oS "point",oS "single",oS "spot",oS "node"]),(430,[oS "number",oS "rows",oS "params",oS "program",oS "kerns",oS "boundary",oS "chars",oS "row"]),(336,[oS "self",oS "number",oS "name",oS "size",oS "params",oS "chars",oS "program",oS "kerns",oS "boundary"]),(284,[oS "sizes",oS "size"]),(298,[oS "chars",oS "many",oS "code",oS "row",oS "sort",oS "rest"]),(305,[oS "chars",oS "code",oS "far",oS "turns"]),(312,[oS "program",oS "kerns",oS "chars",oS "boundary",oS "many",oS "place",oS "row",oS "octet",oS "skip",oS "following",oS "op",oS "rest"]),(319,[oS "program",oS "skip",oS "following",oS "op",oS "rest"]),(420,[oS "number",oS "left",oS "found"]),(125,[oS "value",oS "low",oS "high"]),(277,[oS "value"]),(343,[oS "self",oS "code"]),(378,[oS "self",oS "code",oS "row"]),(870,[oS "self",oS "store"]),(877,[oS "self",oS "code"]),(856,[oS "region",oS "index"]),(933,[oS "self"]),(940,[oS "self",oS "letters",oS "state",oS "letter"]),(947,[oS "self",oS "letters",oS "digits",oS "row",oS "state",oS "letter",oS "spot"]),(905,[oS "letters",oS "digits",oS "letter",oS "digit"]),(898,[oS "letters",oS "begin",oS "end"]),(891,[oS "letters",oS "letter"]),(959,[oS "self",oS "letters",oS "places",oS "place",none]),(912,[oS "letters",oS "found",oS "letter"]),(973,[oS "self",oS "letters",oS "marks",oS "found",oS "begin",oS "state",oS "letter",oS "spot",oS "digit"]),(979,[oS "self",oS "letters",oS "left",oS "right",oS "word",oS "first",oS "last",oS "kept",oS "numbers",none,none]),(919,[oS "value"]),(132,[oS "value"]),(562,[oS "self",oS "value"]),(139,[oS "value"]),(519,[oS "self",oS "width",oS "sort"]),(146,[oS "value"]),(604,[oS "self",oS "is_on",oS "width"]),(625,[oS "self",oS "octets",oS "octet"]),(583,[oS "self",oS "pre",oS "post",oS "middle"]),(464,[oS "items",oS "node"]),(478,[oS "self",oS "font",oS "code"]),(457,[oS "code"]),(498,[oS "self",oS "font",oS "code",oS "parts",oS "left",oS "right",none]),(541,[oS "self",oS "glue",oS "sort",oS "leader"]),(203,[oS "self",oS "width",oS "stretch",oS "stretch_order",oS "shrink",oS "shrink_order"]),(210,[oS "self"]),(726,[oS "font",oS "codes",oS "left_edge",oS "right_edge",oS "code",oS "found",oS "piece",oS "has_left"]),(718,[oS "font",oS "codes",oS "left_edge",oS "edge",oS "word",oS "steps",oS "left",oS "right",oS "told"]),(683,[oS "self",oS "font",oS "codes",oS "has_left",oS "edge",none]),(671,[oS "font",oS "left",oS "right",oS "place",oS "program",oS "going",oS "skip",oS "following",oS "op",oS "rest"]),(697,[oS "word",oS "code",oS "parts",oS "is_made"]),(704,[oS "word"]),(711,[oS "word",oS "op",oS "code",oS "now",oS "keeps_left",oS "keeps_right",oS "parts",oS "taken",oS "made",oS "turn"]),(845,[oS "items",oS "patterns",oS "lower",oS "upper_too",oS "left",oS "right",oS "found",oS "place",oS "is_text",oS "node",oS "word",oS "points",oS "stretch",oS "offset",none]),(767,[oS "items",oS "place",oS "lower",oS "upper_too",oS "begin",oS "font",oS "letters",oS "end",oS "more",none]),(755,[oS "items",oS "place",oS "lower",oS "upper_too",oS "spot",oS "node",oS "codes",oS "letter"]),(762,[oS "items",oS "end",oS "node"]),(741,[oS "node"]),(748,[oS "node",oS "font"]),(734,[oS "node"]),(840,[oS "stretch",oS "items",oS "begin",none]),(800,[oS "self",oS "items",oS "begin",oS "end",oS "first",oS "last",oS "lead",oS "trail",oS "node"]),(807,[oS "self",oS "items",oS "left",oS "right",oS "nodes",oS "lead",oS "trail"]),(814,[oS "self",oS "head",oS "place",oS "count"]),(821,[oS "self",oS "tail",oS "place",oS "begin",oS "count",oS "spot"]),(828,[oS "self",oS "places",oS "hyphen",oS "found",oS "done",oS "place",oS "head",oS "tail",oS "begin",oS "behind",oS "end"]),(774,[oS "node"]),(779,[oS "nodes",none]),(786,[oS "nodes",oS "lead",oS "trail"]),(663,[oS "items",oS "depth",none]),(657,[oS "node",oS "depth",oS "kind",oS "sizes"]),(651,[oS "node",oS "depth",oS "kind",oS "sums",oS "sizes"]),(644,[oS "node"]),(639,[oS "depth"])]
end Mine.Internal
namespace Mine.Internal
open PySem PySem.W PyProof.Rows PySem.Calls PySem.SeqAt
set_option backward.match.sparseCases true
set_option tactic.hygienic true
def HJ (h:SharedT→Thread→Option (SharedT×Thread)) (e:Thread→Bool) (n:Nat):SharedT→Thread→Option SharedT:=
 Nat.rec (fun ξ ξ=>none) (fun ξ x s t=>match through t with
  |true=>some s
  |false=>match e t with
   |false=>none
   |true=>match h s t with
    |some r=>x r.1 r.2
    |none=>none) n
theorem Ae: ∀{n:Nat} {s k:SharedT} {t:Thread},HJ (stepT (denote m) p w) (stepOk e x) n s t=some k→topRun m p w e x n s.abs t=some k.abs
 |0,_,_,_,h=>nomatch h
 |n+1,s,k,t,h=>by
  replace h:(match through t with
   |true=>some s
   |false=>match stepOk e x t with
    |false=>none
    |true=>match stepT (denote m) p w s t with
     |some r=>HJ (stepT (denote m) p w) (stepOk e x) n r.1 r.2
     |none=>none)=some k:=h
  unfold topRun;cases u:through t with
  |true=>rw[u] at h;cases h;rfl
  |false=>
   rw[u] at h;cases v:stepOk e x t with
   |false=>rw[v] at h;cases h
   |true=>
    rw[v] at h;cases q:stepT (denote m) p w s t with
    |none=>rw[q] at h;cases h
    |some r=>rw[q] at h;rw[stepT_spec q];exact Ae h
def K7 (P:Params):BT:=((boot_heap P).objs.toList.foldl (fun(r:BT×Nat) o=>(r.1.ins r.2 o,r.2+1)) (.nil,0)).1
def jF (P:Params) (os:OsState):SharedT:=⟨K7 P,(boot_heap P).objs.size,(boot_heap P).life,#[],boot_drawn,boot_toks,os⟩
def BJ (P:Params):(K7 P).list (boot_heap P).objs.size=(boot_heap P).objs.toList:=by kernel_rfl
def DQ (P:Params) (os:OsState):(jF P os).abs=⟨boot_heap P,#[],boot_drawn,boot_toks,os⟩:=by unfold SharedT.abs jF absHeap;dsimp only;rw[BJ]
abbrev pw:Program:=PySem.Challenge.pw_tu0018_01
abbrev jG (w:World):SharedT→Thread→Option SharedT:=HJ (Fast.tw10156331382660048174 (Fast.tw11892475500146522536 Fast.tw14364793385576792824) pw w) (Fast.tw6613529449190102663 11 (some (.ref 6))) 20000
def DR:jG w=HJ (stepT (denote treeTable) pw w) (stepOk 11 (some (.ref 6))) 20000:=by unfold jG;rw[←Fast.te10156331382660048174,←Fast.te11892475500146522536,←Fast.te14364793385576792824,←Fast.te6613529449190102663]
set_option tactic.hygienic false
abbrev Gt:=Nat→Option Obj
def Hn (g:Gt) (a:Addr) (name:Str):Option Value:=match g a with
 |some o=>(match o.data with| .dict h _=>Fast.tw16335722595253787840 h name|_=>none)
 |none=>none
def yp (h:Heap):Hn h.get?=h.nsMap:=by rw[Fast.te8920871248978507458];rfl
def OO (g:Gt) (a:Addr):Bool:=match g a with
 |some o=>(match o.data with| .dict h _=>h.all (fun e=>match e.key with| .str _ _=>true|_=>false)|_=>false)
 |none=>false
def T3 (h:Heap):OO h.get?=h.isNs:=rfl
mutual
noncomputable def SW (g:Gt):V→Value→Bool
 | .none,x=>match x with| .none=>true|_=>false
 | .bool b,x=>match x with| .bool c=>b==c|_=>false
 | .int i,x=>match x with| .int j _=>i==j|_=>false
 | .str s,x=>match x with| .str t _=>s==t|_=>false
 | .aG h,x=>match x with
  | .ref a=>match g a with
   |some o=>match o with
    |⟨c,e,k,sl⟩=>match k with
     | .seq m n=>c== .type "tuple"&&e.isNone&&sl.size==0&&n==0&&decide (h.length≤cV)&&BK g h m.toList
     |_=>false
   |none=>false
  |_=>false
 | .bI a,x=>match x with| .ref b=>a==b|_=>false
 | .ty t,x=>match x with| .type n=>n==m6 t|_=>false
 | .bi t,x=>match x with| .builtin n=>n==pj t|_=>false
 |_,_=>false
noncomputable def BK (g:Gt):aN→ax→Bool
 |[],l=>l.isEmpty
 |v::h,l=>match l with
  |x::e=>SW g v x&&BK g h e
  |[]=>false
end
def me:List (Option Str)→Bool
 |[]=>true
 |o::r=>(match o with
  |some x=> !r.contains (some x)
  |none=>true)&&me r
def yq (g:Gt) (h:Value) (q:Str):Bool:=match h with
 | .ref c=>match g c with
  |some o=>match o.data with
   | .fields e=>match e.toList with
    |_::y::_=>match y with
     | .str x _=>x==q
     |_=>false
    |_=>false
   |_=>false
  |none=>false
 |_=>false
def yr (g:Gt) (h:aN) (d:Value):Bool:=match d with
 | .none=>h.isEmpty
 | .ref T=>match g T with
  |some o=>match o with
   |⟨c,e,x,sl⟩=>match x with
    | .seq k n=>c== .type "tuple"&&e.isNone&&sl.size==0&&BK g h k.toList
    |_=>false
  |none=>false
 |_=>false
def Af (K:Frag) (c:Nat) (x:Str) (o:Option V):Bool:= !copiedNames.contains x&&takerIn K c x==some none&&(match o with
 |none=>findIn K (.ref c) x==some none
 |some (.bI f)=>findIn K (.ref c) x==some (some (.ref f))&&isFn K (.ref f)&&keepIn K (.ref f)
 |some (.int i)=>match findIn K (.ref c) x with
  |some (some (.int j _))=>i==j
  |_=>false
 |_=>false)
def pW (K:Frag) (c:Nat) (h:List (Nat×V)):List Str→Nat→Bool
 |[],_=>true
 |x::r,n=>Af K c x (h.lookup n)&&pW K c h r (n+1)
def uq (K:Frag) (h:List Str) (c:Nat) (e:List (Nat×V)):Bool:=
 hasDictIn K c&&findIn K (.ref c) "__getattribute__"==some (some (.builtin "object.__getattribute__"))&&findIn K (.ref c) "__getattr__"==some none&&findIn K (.ref c) "__setattr__"==some (some (.builtin "object.__setattr__"))&&
  plainOver K c&&makesIn K c&&pW K c e h 0
def ur (g:Gt) (K:Frag) (x:Str) (v:V):Bool:=(match Hn g mainGlobals x with
  |some y=>SW g v y
  |none=>match Hn g builtinsNs x with
   |some y=>SW g v y
   |none=>false)&&(match v with
  | .bI a=>keepIn K (.ref a)
  |_=>true)
def mf (g:Gt) (K:Frag):List Str→aN→Bool
 |x::h,v::e=>ur g K x v&&mf g K h e
 |_,_=>true
def T4 (g:Gt) (l:aL):Frag:=l.filterMap fun a=>(g a).map fun o=>(a,o)
def T5 (g:Gt) (l:aL):aL:=l.filterMap fun c=>(g c).bind fun o=>match o.data with
 | .cls h=>some h.ns
 |_=>none
def BL (g:Gt):Frag:=T4 g (Ad.map (·.1)++cW.map (·.1)++T5 g (cW.map (·.1))++cW.flatMap fun p=>p.2.filterMap fun q=>match q.2 with
 | .bI f=>some f
 |_=>none)
def DT (g:Gt):Bool:=OO g cStatics&&(Hn g cStatics "sys.recursionlimit").isNone
abbrev BM:Str:=Str.ofString "law"
def qv:Program:={pw with main:={pw.main with body:=pw.main.body.drop (pw.main.body.length-1)}}
def lo:List Str:=pw.boundNames.filter fun n=> !(n==BM)
abbrev yt:String:="special-get-raises"
abbrev vH:List Str:=importedModules pw.main.body
abbrev VV (P:Params) (s:Shared):Bool:=staticsOk vH (boot_heap P) s.heap&&namesBound pw s.heap&&gensDone s&&laidKept (boot_heap P) s.heap
def ut (g:Gt):Bool:=cW.all (fun p=>uq (BL g) lr p.1 p.2)&&mf g (BL g) lu sE&&
  (g sysModules).isSome&&decide lr.Nodup&&OO g mainGlobals&&OO g builtinsNs&&DT g&&((Hn g mainGlobals (Str.ofString "enumerate")).isNone&&Hn g builtinsNs (Str.ofString "enumerate")==some (.type "enumerate"))&&Hn g mainGlobals BM==some (.ref 1070)
def gT (r:SharedT):Gt:=fun a=>match(if a<r.n then some ((r.tree.get a).getD default) else none) with
 |some ⟨_,_,.freed,_⟩=>none
 |o=>o
def Pz (r:SharedT):gT r=r.abs.heap.get?:=funext fun a=>by
 show _=(absHeap r.tree r.n r.life).get? a;unfold gT Heap.get?;rw[absHeap_at];generalize (if a<r.n then some ((r.tree.get a).getD default) else none)=o;cases o with
 |none=>rfl
 |some o=>obtain⟨c,d,h,sl⟩:=o;cases h<;>rfl
def DU (P:Params) (o:Option SharedT):Bool:=match o with
 |some r=>(staticsOk vH (boot_heap P) r.abs.heap&&(gensDone r.abs&&laidKept (boot_heap P) r.abs.heap))&&ut (gT r)
 |none=>false
def HK (P:Params):((boot_heap P).isNs mainGlobals,(boot_heap P).objs.size,(boot_heap P).nsMap mainGlobals "__annotations__")=(true,11,some (.ref 6)):=by kernel_rfl
def L6 (w:World) (os:OsState):DU w.params (jG (w.withFollow yt false) (jF w.params os) (topStub pw))=true:=by kernel_rfl
def L7 (w:World) (os:OsState):DU w.params (jG (w.withFollow yt true) (jF w.params os) (topStub pw))=true:=by kernel_rfl
def L8 (w:World) (os:OsState):(jG (w.withFollow yt false) (jF w.params os) (topStub pw)).map (fun r=>(namesBound pw r.abs.heap,Fast.tw4187177175401517315 qv lo vH (fun ξ=>true) true r.abs))=some (true,openGood qv lo):=by kernel_rfl
def L9 (w:World) (os:OsState):(jG (w.withFollow yt true) (jF w.params os) (topStub pw)).map (fun r=>(namesBound pw r.abs.heap,Fast.tw4187177175401517315 qv lo vH (fun ξ=>true) true r.abs))=some (true,openGood qv lo):=by kernel_rfl
def L':opening pw=plainProg pw.main.scope.names:=by kernel_rfl
def Mc (s:Shared):fenceModules? pw s=some s:=by kernel_rfl
end Mine.Internal
namespace Mine.Internal
open PySem PySem.W PyProof.Rows PySem.Calls PySem.SeqAt
section
abbrev dA (e:ax) (n:Nat):Obj:={cls:= .type "tuple",dict:=none,data:= .seq e.toArray n,slots:= #[]}
abbrev b5 (e:ax) (n:Nat):Obj:={cls:= .type "list",dict:=none,data:= .seq e.toArray n,slots:= #[]}
abbrev eW (c d:Nat):Obj:={cls:= .ref c,dict:=some d,data:= .plain,slots:= #[]}
abbrev yu (lo e:Int) (t u v:Tok):Obj:={cls:= .type "range",dict:=none,data:= .fields #[.int lo t,.int e u,.int 1 v],slots:= #[]}
structure Cx where
 prog:Program
 w:World
 hb:Heap
 K:Frag
 mg:Str→Option Value
 mb:Str→Option Value
 P:dO
 fj:List Str
 globs:List Str
variable {X:Cx}
def DV:Nat→aL→ax→Option Value
 |n,m::e,y::x=>match Nat.beq m n with
  |true=>some y
  |false=>DV n e x
 |_,_,_=>none
structure T6 (X:Cx) (ns:aL) (ys:ax) (es:List DictEntry):Prop where
 eX: ∀n x,X.fj[n]?=some x→getL x es=some (DV n ns ys)
 len:es.length≤ns.length∧ns.length≤60∧ys.length=ns.length
 key: ∀e∈es,∃x t,e.key= .str x t
abbrev Ow:=Nat→Option Nat
abbrev nw:Ow:=fun ξ=>none
inductive d8 (i:Int):Value→Prop
 |mk (t:Tok):d8 i (.int i t)
inductive uu (s:Str):Value→Prop
 |mk (t:Tok):uu s (.str s t)
inductive rV (b:aL):Value→Prop
 |mk (oD:Array UInt8) (t:Tok) (e:oD.toList.map UInt8.toNat=b) (z:b.length≤cV):rV b (.bytes oD t)
inductive bh (P:Nat→Prop):Value→Prop
 |mk (a:Nat) (p:P a):bh P (.ref a)
inductive di {α:Type} (P:α→Prop) (Q:List α→Prop):List α→Prop
 |mk (y:α) (ys:List α) (a:P y) (b:Q ys):di P Q (y::ys)
variable (X:Cx) (h:Heap) (ow:Ow)
inductive f8 (n:Nat) (P:ax→Prop) (a:Nat):Prop
 |mk (i:ax) (o:ow a=none) (g:h.get? a=some (dA i 0)) (z:n≤cV) (r:P i)
inductive dj (n:Nat) (P:ax→Prop) (a:Nat):Prop
 |mk (m:Nat) (i:ax) (o:ow a=none) (g:h.get? a=some (b5 i m)) (z:n≤cV) (r:P i)
inductive il (ks:ah) (n:Nat) (P:ax→Prop) (a:Nat):Prop
 |mk (kvs:List (Int×Value)) (e:Nat) (o:ow a=none) (sy:a≠sysModules) (g:h.DictAt (intKind X.prog X.w) a kvs e) (m:kvs.map (·.1)=ks) (z:n≤cV) (r:P (kvs.map (·.2)))
inductive jH (c:Nat) (ns:aL) (P:ax→Prop) (a:Nat):Prop
 |mk (d:Nat) (es:List DictEntry) (n:Nat) (ys:ax) (o:ow a=none) (o2:ow d=none) (g:h.get? a=some (eW c d)) (g2:h.get? d=some (dictOf es n)) (z:T6 X ns ys es) (r:P ys)
inductive HL (lo hi:Int) (a:Nat):Prop
 |mk (t u v:Tok) (o:ow a=none) (b:lo.natAbs<bz∧hi.natAbs<bz) (g:h.get? a=some (yu lo hi t u v))
mutual
noncomputable def VR:V→Value→Prop
 | .none,x=>x= .none
 | .bool b,x=>x= .bool b
 | .int i,x=>d8 i x
 | .str s,x=>uu s x
 | .bytes b,x=>rV b x
 | .aG e,x=>bh (f8 h ow e.length (bZ e)) x
 | .ap e,x=>bh (dj h ow e.length (bZ e)) x
 | .eR k e,x=>bh (il X h ow k e.length (bZ e)) x
 | .inst c m e,x=>bh (jH X h ow c m (bZ e)) x
 | .ref a,x=>x= .ref a
 | .bI a,x=>x= .ref a
 | .ty t,x=>x= .type (m6 t)
 | .bi b,x=>x= .builtin (pj b)
 | .t7 lo p,x=>bh (HL h ow lo p) x
noncomputable def bZ:aN→ax→Prop
 |[],e=>e=[]
 |v::x,e=>di (VR v) (bZ x) e
end
def VT:V→Value→Prop
 | .aG e,x=>bh (f8 h nw e.length (bZ X h ow e)) x
 | .ap e,x=>bh (dj h nw e.length (bZ X h ow e)) x
 | .eR k e,x=>bh (il X h nw k e.length (bZ X h ow e)) x
 | .inst c m e,x=>bh (jH X h nw c m (bZ X h ow e)) x
 |v,x=>VR X h ow v x
def OA:Ob→Nat→Prop
 | .list e=>dj h nw e.length (bZ X h ow e)
 | .dict x e=>il X h nw x e.length (bZ X h ow e)
 | .inst c k e=>jH X h nw c k (bZ X h ow e)
variable {X h ow} {B:Heap} {A:Ow} {P C:ax→Prop} {a n:Nat}
def bh.Wo {P:Nat→Prop} (r:bh P (.ref a)):P a:=match r with|⟨_,p⟩=>p
def bh.imp {P C:Nat→Prop} (q: ∀a,P a→C a) (r:bh P x):bh C x:=bh.casesOn r fun a p=>⟨a,q a p⟩
def f8.imp (k: ∀a o,h.get? a=some o→ow a=none→B.get? a=some o∧A a=none) (q: ∀{e},P e→C e) (a:Nat) (r:f8 h ow n P a):f8 B A n C a:=
 f8.casesOn r fun i o g z r=>⟨i,(k _ _ g o).2,(k _ _ g o).1,z,q r⟩
def dj.imp (k: ∀a o,h.get? a=some o→ow a=none→B.get? a=some o∧A a=none) (q: ∀{e},P e→C e) (a:Nat) (r:dj h ow n P a):dj B A n C a:=
 dj.casesOn r fun m i o g z r=>⟨m,i,(k _ _ g o).2,(k _ _ g o).1,z,q r⟩
def il.imp (k: ∀a o,h.get? a=some o→ow a=none→B.get? a=some o∧A a=none) (q: ∀{p},P p→C p) (a:Nat) (r:il X h ow s n P a):il X B A s n C a:=
 il.casesOn r fun x e o t g m z r=>⟨x,e,g.elim fun ξ g=>g.elim fun ξ g=>(k _ _ g.1 o).2,t,g.at' fun ξ q=>(k _ _ q o).1,m,z,q r⟩
def jH.imp (k: ∀a o,h.get? a=some o→ow a=none→B.get? a=some o∧A a=none) (q: ∀{e},P e→C e) (a:Nat) (r:jH X h ow c p P a):jH X B A c p C a:=
 jH.casesOn r fun d s n t o x g m z r=>⟨d,s,n,t,(k _ _ g o).2,(k _ _ m x).2,(k _ _ g o).1,(k _ _ m x).1,z,q r⟩
def VR.vt (r:VR X h ow v x):VT X h ow v x:=by
 cases v with
 |aG k=>exact bh.imp (f8.imp (fun ξ ξ e ξ=>⟨e,rfl⟩) id) r
 |ap k=>exact bh.imp (dj.imp (fun ξ ξ e ξ=>⟨e,rfl⟩) id) r
 |eR m k=>exact bh.imp (il.imp (fun ξ ξ e ξ=>⟨e,rfl⟩) id) r
 |inst c p k=>exact bh.imp (jH.imp (fun ξ ξ e ξ=>⟨e,rfl⟩) id) r
 |_=>exact r
def Ob.val:Ob→V
 | .list x=> .ap x
 | .dict k e=> .eR k e
 | .inst c m e=> .inst c m e
def Dk:Hp→Prop
 | .e=>True
 | .c a _ H=>an H a=none∧Dk H
structure Cf where
 ow:Ow
 s:Shared
 H:Hp
def PA:Nonempty Shared:=⟨{}⟩
def xR:Nonempty Around:=⟨{}⟩
def Wp:Nonempty World:=⟨fun ξ ξ=>0,{strHash:=fun ξ=>0,shareClass:=fun ξ=>0,mergeTok:=id,idOf:=fun ξ=>0,idOfShared:=fun ξ ξ=>0,followText:=fun ξ=>false,idOfImm:=fun ξ=>0}⟩
def vn:Nonempty Cx:=Wp.elim fun w=>⟨⟨default,w,default,[],fun ξ=>none,fun ξ=>none,⟨[],fun ξ=>none,fun ξ=>none,fun ξ=>false⟩,[],[]⟩⟩
def yw:Nonempty Cf:=⟨⟨fun ξ=>none,{},.e⟩⟩
abbrev dC (X:Cx) (c:Cf):=VR X c.s.heap c.ow
abbrev dk (X:Cx) (c:Cf):=bZ X c.s.heap c.ow
def Ob.T7 (X:Cx):Ob→Prop
 | .inst c _ _=>(X.P.cls c).isSome=true
 |_=>True
structure OR (X:Cx) (h:Heap) (ow:Ow) (a:Nat) (o:Ob):Prop where
 own:ow a=some a
 eX:OA X h ow o a
 K8: ∀c d,h.get? a=some (eW c d)→ow d=some a
 cl:o.T7 X
structure HR (X:Cx) (c:Cf):Prop where
 im: ∀b o,X.hb.get? b=some o→c.s.heap.get? b=some o∧c.ow b=none
 vI: ∀a o,an c.H a=some o→OR X c.s.heap c.ow a o
 live: ∀a r,c.ow a=some r→(∃o,c.s.heap.get? a=some o)∧ ∃o,c.s.heap.get? r=some o
 nd:Dk c.H
structure Go (X:Cx) (W:Nat→Prop) (c c':Cf):Prop where
 vJ: ∀a o,c.s.heap.get? a=some o→(∀r,c.ow a=some r→ ¬W r∧an c.H r=none)→c'.s.heap.get? a=some o∧c'.ow a=c.ow a
 alive: ∀a o,c.s.heap.get? a=some o→ ∃o',c'.s.heap.get? a=some o'
 new: ∀r o,an c'.H r=some o→(∃o,an c.H r=some o)∨c.s.heap.get? r=none
 gens:c'.s.gens=c.s.gens
 os:c'.s.os=c.s.os
 hr:HR X c'
abbrev cS:Nat→Prop:=fun ξ=>False
def Go.refl (h:HR X c):Go X W c c:=⟨fun a o e ξ=>⟨e,rfl⟩,fun a o e=>⟨o,e⟩,fun r o e=> .inl ⟨o,e⟩,rfl,rfl,h⟩
def Go.trans (u:HR X c) (x:Go X W c s) (y:Go X W s v):Go X W c v:=by
 refine⟨fun a o e n=>?_,fun a o e=>?_,fun r o e=>?_,y.gens.trans x.gens,y.os.trans x.os,y.hr⟩
 ·obtain⟨w,t⟩:=x.vJ a o e n;obtain⟨g,i⟩:=y.vJ a o w fun r p=>by
   rw[t] at p;refine⟨(n r p).1,?_⟩;cases q:an s.H r with
   |none=>rfl
   |some o=>
    rcases x.new r o q with⟨k,z⟩|z
    ·rw[(n r p).2] at z;exact bH z
    ·obtain⟨_,k,m⟩:=u.live a r p;rw[z] at m;exact bH m
  exact⟨g,i.trans t⟩
 ·obtain⟨k,j⟩:=x.alive a o e;exact y.alive a k j
 ·rcases y.new r o e with⟨k,q⟩|q
  ·exact x.new r k q
  ·refine .inr ?_;cases z:c.s.heap.get? r with
   |none=>rfl
   |some o=>obtain⟨k,m⟩:=x.alive r o z;rw[q] at m;exact bH m
def Go.fM {W W':Nat→Prop} (m:HR X c) (x:Go X W c p) (h: ∀r o,c.s.heap.get? r=some o→W r→W' r):Go X W' c p:=
 ⟨fun a o e n=>x.vJ a o e fun r k=>⟨fun w=>(n r k).1 (let⟨_,o,z⟩:=m.live a r k;h r o z w),(n r k).2⟩,x.alive,x.new,x.gens,x.os,x.hr⟩
mutual
theorem VR.keep (k: ∀a o,h.get? a=some o→ow a=none→B.get? a=some o∧A a=none): ∀{v:V} {x:Value},VR X h ow v x→VR X B A v x
 | .none,_,e=>e
 | .bool _,_,e=>e
 | .int _,_,e=>e
 | .str _,_,e=>e
 | .bytes _,_,e=>e
 | .aG _,_,r=>bh.imp (f8.imp k (bZ.keep k)) r
 | .ap _,_,r=>bh.imp (dj.imp k (bZ.keep k)) r
 | .eR _ _,_,r=>bh.imp (il.imp k (bZ.keep k)) r
 | .inst _ _ _,_,r=>bh.imp (jH.imp k (bZ.keep k)) r
 | .ref _,_,e=>e
 | .bI _,_,e=>e
 | .ty _,_,e=>e
 | .bi _,_,e=>e
 | .t7 _ _,_,r=>bh.imp (fun ξ r=>HL.casesOn r fun t u v o b g=>⟨t,u,v,(k _ _ g o).2,b,(k _ _ g o).1⟩) r
theorem bZ.keep (k: ∀a o,h.get? a=some o→ow a=none→B.get? a=some o∧A a=none): ∀{x:aN} {m:ax},bZ X h ow x m→bZ X B A x m
 |[],_,e=>e
 |_::_,_,r=>di.casesOn r fun y p a b=>⟨y,p,VR.keep k a,bZ.keep k b⟩
end
theorem Go.k {W:Nat→Prop} {c k:Cf} (g:Go X W c k): ∀a o,c.s.heap.get? a=some o→c.ow a=none→k.s.heap.get? a=some o∧k.ow a=none:=fun a o e n=>by
 obtain⟨x,y⟩:=g.vJ a o e fun r q=>by rw[n] at q;exact bH q
 exact⟨x,y.trans n⟩
def VR.go (g:Go X W c e) (r:dC X c v x):dC X e v x:=r.keep g.k
def bZ.go (g:Go X W c e) (r:dk X c v x):dk X e v x:=r.keep g.k
def OA.keep (k: ∀a o,h.get? a=some o→ow a=none→B.get? a=some o∧A a=none) {a:Nat} (x: ∀o,h.get? a=some o→B.get? a=some o) (q: ∀c d,h.get? a=some (eW c d)→ ∀o,h.get? d=some o→B.get? d=some o) (r:OA X h ow o a):OA X B A o a:=by
 induction o using Ob.casesOn with
 |list y=>exact dj.casesOn r fun m i o g z r=>⟨m,i,rfl,x _ g,z,r.keep k⟩
 |dict j s=>exact il.casesOn r fun p e o t g m z r=>⟨p,e,rfl,t,g.at' fun o=>x o,m,z,r.keep k⟩
 |inst c l s=>exact jH.casesOn r fun d u n v o b g w z r=>⟨d,u,n,v,rfl,rfl,x _ g,q _ _ g _ w,z,r.keep k⟩
@[elab_as_elim] def bZ.gV {motive : ax → Prop} (r : bZ X h ow [] e) (q : motive []) : motive e := Eq.symm r ▸ q
def bZ.length (r:bZ X h ow e x):e.length=x.length:=by
 induction e generalizing x with
 |nil=>exact bZ.gV r rfl
 |cons v e k=>exact di.casesOn r fun y m ξ b=>W4 (· +1) (k b)
def bZ.get: ∀{i:Nat} {k:aN} {m:ax},bZ X h ow k m→k[i]?=some v→ ∃x,m[i]?=some x∧VR X h ow v x:=by
 intro i k;induction k generalizing i with
 |nil=>exact fun ξ e=>nomatch e
 |cons w k p=>
  intro m r q;cases i with
  |zero=>obtain rfl:=dL q;exact di.casesOn r fun y ξ a ξ=>⟨y,rfl,a⟩
  |succ i=>exact di.casesOn r fun ξ ξ ξ b=>haveI z:=p b q;z
def bZ.append (r:bZ X h ow x e) (c:bZ X h ow m k):bZ X h ow (x++m) (e++k):=by
 induction x generalizing e with
 |nil=>exact bZ.gV r c
 |cons v x p=>obtain⟨y,e,a,b⟩:=r;exact⟨y,e++k,a,p b⟩
def bZ.take (n:Nat) (r:bZ X h ow e x):bZ X h ow (e.take n) (x.take n):=by
 induction e generalizing x n with
 |nil=>exact bZ.gV r (by rw[ZQ,ZQ];rfl)
 |cons v e k=>cases n with
  |zero=>exact rfl
  |succ n=>exact di.casesOn r fun y ξ a b=>⟨y,_,a,k n b⟩
def bZ.drop (n:Nat) (r:bZ X h ow e x):bZ X h ow (e.drop n) (x.drop n):=by
 induction e generalizing x n with
 |nil=>exact bZ.gV r (by rw[List.drop_nil,List.drop_nil];rfl)
 |cons v e k=>cases n with
  |zero=>exact r
  |succ n=>exact di.casesOn r fun ξ ξ ξ b=>k n b
def bZ.set (q:VR X h ow v x) (r:bZ X h ow e k):bZ X h ow (e.set i v) (k.set i x):=by
 induction e generalizing k i with
 |nil=>exact bZ.gV r rfl
 |cons w e m=>cases i with
  |zero=>exact di.casesOn r fun ξ p ξ b=>⟨x,p,q,b⟩
  |succ i=>exact di.casesOn r fun y ξ a b=>⟨y,_,a,m b⟩
def bZ.nil:bZ X h ow [] []:=rfl
def bZ.cons (a:VR X h ow v x) (b:bZ X h ow k e):bZ X h ow (v::k) (x::e):=⟨x,e,a,b⟩
def bZ.one (a:VR X h ow v x):bZ X h ow [v] [x]:= .cons a .nil
def bZ.reverse (r:bZ X h ow e x):bZ X h ow e.reverse x.reverse:=by
 induction e generalizing x with
 |nil=>exact bZ.gV r rfl
 |cons v e k=>exact di.casesOn r fun y m a b=>by rw[XU,XU];exact(k b).append (bZ.one a)
end
theorem mh: ∀{H:Hp},an H a=some o→an (cz H a x) b=if a=b then some x else an H b
 | .e,h=>nomatch h
 | .c z p H,h=>by
  have m: ∀(H:Hp) (z:Nat) (p:Ob) (b:Nat),an (.c z p H) b=if z=b then some p else an H b:=fun ξ ξ ξ ξ=>rfl
  show an (if z=a then .c z x H else .c z p (cz H a x)) b=_;rw[m] at h⊢;by_cases e:z=a
  ·subst e;rw[WY rfl,m];by_cases k:z=b
   ·rw[WY k,WY k]
   ·rw[WX k,WX k,WX k]
  ·rw[WX e] at h;rw[WX e,m,mh h];by_cases k:z=b
   ·rw[WY k,WY k,WX (fun q=>e (k.trans q.symm))]
   ·rw[WX k,WX k]
theorem DW: ∀{H:Hp},an H a=some o→Dk H→Dk (cz H a x)
 | .e,h,_=>nomatch h
 | .c z p H,h,n=>by
  show Dk (if z=a then .c z x H else .c z p (cz H a x));by_cases e:z=a
  ·rwa[WY e]
  ·rw[WX e];have k:an H a=some o:=(WX e).symm.trans h;exact⟨by rw[mh k,WX (fun q=>e q.symm)];exact n.1,DW k n.2⟩
theorem mi: ∀{H:Hp},Dk H→an (l4 H a) b=if a=b then none else an H b
 | .e,_=>by split<;>rfl
 | .c z p H,n=>by
  have h: ∀(H:Hp) (z:Nat) (p:Ob) (b:Nat),an (.c z p H) b=if z=b then some p else an H b:=fun ξ ξ ξ ξ=>rfl
  show an (if z=a then H else .c z p (l4 H a)) b=_;rw[h];by_cases e:z=a
  ·subst e;rw[WY rfl];by_cases k:z=b
   ·subst k;rw[WY rfl];exact n.1
   ·rw[WX k,WX k]
  ·rw[WX e,h,mi n.2];by_cases k:z=b
   ·rw[WY k,WY k,WX (fun q=>e (k.trans q.symm))]
   ·rw[WX k,WX k]
theorem DX: ∀{H:Hp},Dk H→Dk (l4 H a)
 | .e,_=>trivial
 | .c z p H,n=>by
  show Dk (if z=a then H else .c z p (l4 H a));by_cases e:z=a
  ·rw[WY e];exact n.2
  ·rw[WX e];exact⟨by rw[mi n.2];split;rfl;exact n.1,DX n.2⟩
def aK (h:Heap) (o:Obj): ∀a x,h.get? a=some x→(h.push o).get? a=some x:=fun ξ ξ e=>Y6 _ e
def aX (h:Heap):h.get? h.objs.size=none:=by
 cases e:h.get? h.objs.size with
 |none=>rfl
 |some o=>exact absurd (X8 e) (aai _)
def HR.al (R:HR X c) (h:an c.H a=some o): ∃o,c.s.heap.get? a=some o:=(R.live a a (R.vI a o h).own).1
def HR.fresh (R:HR X c) (h:c.s.heap.get? a=none):an c.H a=none∧c.ow a=none∧X.hb.get? a=none:=by
 refine⟨?_,?_,?_⟩
 ·cases q:an c.H a with
  |none=>rfl
  |some o=>obtain⟨o,e⟩:=R.al q;rw[h] at e;exact bH e
 ·cases q:c.ow a with
  |none=>rfl
  |some r=>obtain⟨⟨o,e⟩,_⟩:=R.live a r q;rw[h] at e;exact bH e
 ·cases q:X.hb.get? a with
  |none=>rfl
  |some o=>haveI:=(R.im a o q).1;rw[h] at this;exact bH this
def OA.Wq (r:OA X h k o a): ∃e,h.get? a=some e:=by
 induction o using Ob.casesOn with
 |list m=>exact dj.casesOn r fun ξ ξ ξ g ξ ξ=>⟨_,g⟩
 |dict n x=>exact il.casesOn r fun ξ ξ ξ ξ g ξ ξ ξ=>g.elim fun ξ g=>g.elim fun ξ g=>⟨_,g.1⟩
 |inst p q x=>exact jH.casesOn r fun ξ ξ ξ ξ ξ ξ g ξ ξ ξ=>⟨_,g⟩
def OA.K8 (r:OA X h n o a) (e:h.get? a=some (eW c d)): ∃x,h.get? d=some x:=by
 induction o using Ob.casesOn with
 |list p=>exact dj.casesOn r fun ξ ξ ξ g ξ ξ=>nomatch g.symm.trans e
 |dict q k=>exact il.casesOn r fun ξ ξ ξ ξ g ξ ξ ξ=>g.elim fun o g=>g.elim fun ξ g=>absurd (W4 Obj.data (W7 (g.1.symm.trans e))) (by rw[g.2.2.1];exact nofun)
 |inst s t k=>exact jH.casesOn r fun ξ ξ ξ ξ ξ ξ g m ξ ξ=>(W7 (W4 Obj.dict (W7 (g.symm.trans e))))▸⟨_,m⟩
def OR.keep {q m:Ow} (r:OR X h q a o) (k: ∀b x,h.get? b=some x→q b=none∨q b=some a→t.get? b=some x∧m b=q b):OR X t m a o:=by have u: ∀x,h.get? a=some x→t.get? a=some x:=fun x e=>(k a x e (.inr r.own)).1;obtain⟨v,s⟩:=r.eX.Wq;refine⟨(k a v s (.inr r.own)).2.trans r.own,r.eX.keep (fun b x e n=>have z:=k b x e (.inl n);⟨z.1,z.2.trans n⟩) u fun p d e x w=>(k d x w (.inr (r.K8 p d e))).1,fun p d e=>?_,r.cl⟩;replace e:h.get? a=some (eW p d):=s.trans ((u _ s).symm.trans e);obtain⟨y,g⟩:=r.eX.K8 e;exact(k _ _ g (.inr (r.K8 p d e))).2.trans (r.K8 p d e)
def Go.uv (R:HR X c) (k: ∀a o,c.s.heap.get? a=some o→h.heap.get? a=some o) (m:h.gens=c.s.gens) (n:h.os=c.s.os):Go X W c ⟨c.ow,h,c.H⟩:=
 ⟨fun a o e ξ=>⟨k a o e,rfl⟩,fun a o e=>⟨o,k a o e⟩,fun r o e=> .inl ⟨o,e⟩,m,n,⟨fun b o e=>⟨k _ _ (R.im b o e).1,(R.im b o e).2⟩,fun a o e=>(R.vI a o e).keep fun b p e ξ=>⟨k b p e,rfl⟩,
  fun a r e=>let⟨⟨o,x⟩,q,y⟩:=R.live a r e;⟨⟨o,k _ _ x⟩,q,k _ _ y⟩,R.nd⟩⟩
def Go.keeps (R:HR X c) (k: ∀a o,c.s.heap.get? a=some o→h.get? a=some o):Go X W c ⟨c.ow,{c.s with heap:=h,toks:=t},c.H⟩:=Go.uv R k rfl rfl
def Go.pX (R:HR X c):Go X W c ⟨c.ow,{c.s with toks:=t},c.H⟩:=Go.keeps R fun ξ ξ e=>e
def Go.vl (R:HR X c) (m:an c.H a=some g) (k: ∀b h,c.s.heap.get? b=some h→c.ow b≠some a→h'.get? b=some h) (p: ∀b,c.ow b=some a→ ∃h,h'.get? b=some h) (s:OR X h' c.ow a o):
  Go X W c ⟨c.ow,{c.s with heap:=h',toks:=t},cz c.H a o⟩:=by
 have alive: ∀b h,c.s.heap.get? b=some h→ ∃u,h'.get? b=some u:=fun b h e=>by
  by_cases q:c.ow b=some a
  ·exact p b q
  ·exact⟨h,k b h e q⟩
 refine⟨fun b h e n=>⟨k b h e fun q=>?_,rfl⟩,alive,fun r h e=>?_,rfl,rfl,⟨fun b h e=>?_,fun b h e=>?_,fun b r e=>?_,DW m R.nd⟩⟩
 ·haveI:=(n a q).2;rw[m] at this;exact ph this
 ·change an (cz c.H a o) r=some h at e;rw[mh m] at e;split at e
  ·rename_i q;subst q;exact .inl ⟨_,m⟩
  ·exact .inl ⟨_,e⟩
 ·obtain⟨x,y⟩:=R.im b h e;exact⟨k b h x (by rw[y];exact fun q=>nomatch q),y⟩
 ·change an (cz c.H a o) b=some h at e;rw[mh m] at e;split at e
  ·rename_i q;subst q;obtain rfl:=dL e;exact s
  ·rename_i q
   exact(R.vI b h e).keep fun z v w on=>⟨k z v w (by rcases on with on|on<;>rw[on];exact fun q=>nomatch q;exact fun z=>q (W7 z).symm),rfl⟩
 ·obtain⟨⟨i,x⟩,j,y⟩:=R.live b r e;exact⟨alive _ _ x,alive _ _ y⟩
def Go.T8 (R:HR X c) {m:Ow} (k: ∀b h,c.s.heap.get? b=some h→h'.get? b=some h∧m b=c.ow b) (n:c.s.heap.get? a=none)
  (nw: ∀b r,c.s.heap.get? b=none→m b=some r→r=a∧ ∃h,h'.get? b=some h) (s:OR X h' m a o) (u: ∃h,h'.get? a=some h):Go X W c ⟨m,{c.s with heap:=h',toks:=t},.c a o c.H⟩:=by
 have v:=R.fresh n;have p: ∀b,an (.c a o c.H) b=if a=b then some o else an c.H b:=fun ξ=>rfl
 refine⟨fun b h e ξ=>k b h e,fun b h e=>⟨h,(k b h e).1⟩,fun r h e=>?_,rfl,rfl,⟨fun b h e=>?_,fun b h e=>?_,fun b r e=>?_,⟨v.1,R.nd⟩⟩⟩
 ·change an (.c a o c.H) r=some h at e;rw[p] at e;split at e
  ·rename_i q;subst q;exact .inr n
  ·exact .inl ⟨_,e⟩
 ·obtain⟨x,y⟩:=R.im b h e;exact⟨(k _ _ x).1,(k _ _ x).2.trans y⟩
 ·change an (.c a o c.H) b=some h at e;rw[p] at e;split at e
  ·rename_i q;subst q;obtain rfl:=dL e;exact s
  ·exact(R.vI b h e).keep fun z w g ξ=>k z w g
 ·change m b=some r at e;cases q:c.s.heap.get? b with
  |none=>obtain⟨rfl,y⟩:=nw b r q e;exact⟨y,u⟩
  |some h=>rw[(k b h q).2] at e;obtain⟨⟨i,x⟩,j,y⟩:=R.live b r e;exact⟨⟨_,(k _ _ x).1⟩,_,(k _ _ y).1⟩
def BN (T:Hp) (h:Ow):Ow:=fun b=>match h b with
 |some r=>match an T r with
  |some _=>none
  |none=>some r
 |none=>none
def io {T:Hp} {e:Ow} (h:e b=none):BN T e b=none:=by unfold BN;rw[h]
def yx {T:Hp} {e:Ow} (h:e b=some r) (k:an T r=some o):BN T e b=none:=by unfold BN;rw[h];show(match an T r with|some _=>none|none=>some r)=_;rw[k]
def oH {T:Hp} {e:Ow} (h:e b=some r) (k:an T r=none):BN T e b=some r:=by unfold BN;rw[h];show(match an T r with|some _=>none|none=>some r)=_;rw[k]
def DY {T:Hp} {e:Ow} (h:BN T e b=some r):e b=some r∧an T r=none:=by
 cases q:e b with
 |none=>rw[io q] at h;exact bH h
 |some z=>
  cases k:an T z with
  |none=>rw[oH q k] at h;obtain rfl:=dL h;exact⟨rfl,k⟩
  |some o=>rw[yx q k] at h;exact bH h
def Go.yy (R:HR X c) {T:Hp} (t: ∀a o,an T a=some o→an c.H a=some o) (p: ∀a o,an H' a=some o→an c.H a=some o∧an T a=none) (u:Dk H'):Go X W c ⟨BN T c.ow,c.s,H'⟩:=by
 haveI x: ∀b,(c.ow b=none∨ ∃r,c.ow b=some r∧an T r=none)→BN T c.ow b=c.ow b:=fun b h=>by
  rcases h with h|⟨r,h,k⟩
  ·rw[io h,h]
  ·rw[oH h k,h]
 refine⟨fun a o e n=>⟨e,?_⟩,fun a o e=>⟨o,e⟩,fun r o e=> .inl ⟨o,(p r o e).1⟩,rfl,rfl,⟨fun b o e=>⟨(R.im b o e).1,io (R.im b o e).2⟩,fun a o e=>?_,fun a r e=>R.live a r (DY e).1,u⟩⟩
 ·cases q:c.ow a with
  |none=>exact io q
  |some r=>
   haveI:=(n r q).2;cases k:an T r with
   |none=>exact oH q k
   |some s=>rw[t r s k] at this;exact ph this
 ·obtain⟨v,w⟩:=p a o e;exact(R.vI a o v).keep fun b s y m=>⟨y,x b (m.imp id fun q=>⟨a,q,w⟩)⟩
def uw (R:HR X c) {T:Hp} (t: ∀a o,an T a=some o→an c.H a=some o) {a:Nat} (h:an T a=some o):VR X c.s.heap (BN T c.ow) o.val (.ref a):=by
 have r:=R.vI a o (t a o h);have k: ∀b x,c.s.heap.get? b=some x→c.ow b=none→c.s.heap.get? b=some x∧BN T c.ow b=none:=fun b x e n=>⟨e,io n⟩;have p:=yx r.own h;haveI q:=r.eX;haveI u:=r.K8;induction o using Ob.casesOn with
 |list A=>exact dj.casesOn q fun n i ξ g z r=>⟨a,n,i,p,g,z,r.keep k⟩
 |dict B v=>exact il.casesOn q fun s n ξ w g m z r=>⟨a,s,n,p,w,g,m,z,r.keep k⟩
 |inst y C v=>exact jH.casesOn q fun d j n l ξ ξ g f z r=>⟨a,d,j,n,l,p,yx (u y d g) h,g,f,z,r.keep k⟩
def OP (n:Nat) (T:Hp) (h:aN):aN:=match n with
 |0=>h
 |m+1=>h.map (fg (m+1) T)
def DZ {T:Hp}:fg (n+1) T (.ap h)= .ap (OP n T h):=by induction n using Nat.casesAuxOn<;>rfl
theorem D0 {T:Hp}:fg (n+1) T (.ref a)=match an T a with
  |some o=>(match o with
   | .list e=> .ap (OP n T e)
   | .dict x h=> .eR x h
   | .inst c k h=> .inst c k (OP n T h))
  |none=> .ref a:=by induction n using Nat.casesAuxOn<;>rfl
def HM {T:Hp}:(OP n T h).length=h.length:=by
 cases n with
 |zero=>rfl
 |succ n=>exact WP _
def D1 {f:V→V} (q: ∀{v x},VR X h e v x→VR X h e (f v) x) (r:bZ X h e k m):bZ X h e (k.map f) m:=by
 induction k generalizing m with
 |nil=>exact r
 |cons v k n=>exact di.casesOn r fun y p a b=>⟨y,p,q a,n b⟩
def HN {T:Hp} (t: ∀a o,an T a=some o→VR X h k o.val (.ref a)) (r:VR X h k v x):VR X h k (fg n T v) x:=by
 induction n generalizing v x with
 |zero=>exact r
 |succ n u=>
  have s: ∀{e:aN} {p:ax},bZ X h k e p→bZ X h k (OP n T e) p:=by
   cases n with
   |zero=>exact fun r=>r
   |succ n=>exact fun r=>D1 (fun r=>u r) r
  have ap: ∀{e:aN} {x:Value},VR X h k (.ap e) x→VR X h k (.ap (OP n T e)) x:=bh.imp fun a r=>dj.casesOn r fun m i o g z r=>⟨m,i,o,g,WR (ZC HM) z,s r⟩;cases v with
  |ap e=>rw[DZ];exact ap r
  |ref a=>
   rw[show x=_ from r,D0];cases q:an T a with
   |none=>exact rfl
   |some o=>
    haveI:=t a o q;induction o using Ob.casesOn with
    |list p=>exact ap this
    |dict b e=>exact this
    |inst c f e=>exact bh.imp (fun a r=>jH.casesOn r fun d w m y o j g l z r=>⟨d,w,m,y,o,j,g,l,z,s r⟩) this
  |_=>exact r
theorem pY {T:Hp}:an (T.Hl H) a=match an T a with
  |some o=>some o
  |none=>an H a:=by
 induction T with
 |e=>rfl
 |c b o T h=>
  show(if b=a then some o else an (T.Hl H) a)=match(if b=a then some o else an T a) with
   |some o=>some o
   |none=>an H a
  by_cases q:b=a
  ·rw[WY q,WY q]
  ·rwa[WX q,WX q]
def Md {T:Hp} (h:Dk (T.Hl H)):Dk H∧ ∀a o,an H a=some o→an T a=none:=by
 induction T with
 |e=>exact⟨h,fun ξ ξ ξ=>rfl⟩
 |c b o T m=>
  obtain⟨n,x⟩:=m h.2;refine⟨n,fun a k e=>?_⟩;show(if b=a then some o else an T a)=none;by_cases q:b=a
  ·subst q;haveI:=h.1;rw[pY,x b k e] at this;rw[show an H b=none from this] at e;exact bH e
  ·rw[WX q];exact x a k e
def Go.vv (R:HR X c) {T:Hp} (e:c.H=T.Hl p) (r:dC X c v x):Go X W c ⟨BN T c.ow,c.s,p⟩∧VR X c.s.heap (BN T c.ow) (fg n T v) x:=by
 haveI k:=R.nd;rw[e] at k;have n2:=Md k;have m: ∀a o,an T a=some o→an c.H a=some o:=fun a o h=>by rw[e,pY,h]
 refine⟨Go.yy R m (fun a o h=>⟨by rw[e,pY,n2.2 a o h];exact h,n2.2 a o h⟩) n2.1,HN (fun a o h=>uw R m h) ?_⟩;exact r.keep fun b s q n=>⟨q,io n⟩
section
variable {X:Cx} {A:Around} {c:Cf} {W:Nat→Prop}
abbrev bw:Value→Shared→Prop:=fun ξ ξ=>False
abbrev M (X:Cx):Model:=model X.prog X.w
structure TE where
 scope:Scope
 slots:List (Option Str)
def Me:Nonempty TE:=⟨⟨default,[]⟩⟩
def TE.kind (te:TE) (x:Str):Option NameKind:=te.scope.names.lookup x
def TE.eG (te:TE) (i:Nat) (x:Str):Bool:=te.slots[i]?==some (some x)&&(te.kind x==some .local||te.kind x==some .cell)&&(x !=("__debug__":Str))
def oI (te:TE) (env:Env) (m:Str→Option Value) (h:Heap) (x:Str) (y:Value):Prop:=
 (te.kind x=some .local∧m x=some y)∨(te.kind x=some .cell∧ ∃c,env.cells.lookup x=some c∧h.IsCell c (some y))
structure cL (X:Cx) (te:TE) (env:Env) (ρ:Nat) (fr:Fr) (c:Cf):Prop where
 scope:env.scope=te.scope
 kind:te.scope.kind= .function
 ae:env.globals=mainGlobals
 Ho:env.builtins=builtinsNs
 ns: ∃m,c.s.heap.Ns env.locals m∧ ∀(i:Nat) (x:Str) (v:V),te.slots[i]?=some (some x)→fr.get i=some v→ ∃y,oI te env m c.s.heap x y∧dC X c v y
 D2: ∀x z,env.cells.lookup x=some z→(∃v,c.s.heap.IsCell z v)∧z≠env.locals∧c.ow z=some ρ
 na: ∀x x' z,env.cells.lookup x=some z→env.cells.lookup x'=some z→x=x'
 eG: ∀(i:Nat) (x:Str),te.slots[i]?=some (some x)→te.kind x=some .cell→ ∃z,env.cells.lookup x=some z
 inj: ∀(i j:Nat) (x:Str),te.slots[i]?=some (some x)→te.slots[j]?=some (some x)→i=j
 own:c.ow env.locals=some env.locals∧an c.H env.locals=none
 pZ:an c.H ρ=none∧ ∃o,c.s.heap.get? ρ=some o
variable {te:TE} {env:Env} {fr:Fr} {ρ:Nat}
def cL.kindOf (F:cL X te env ρ fr c) (x:Str):env.kindOf x=te.kind x:=by unfold Env.kindOf TE.kind;rw[F.scope]
def dW {h:Heap} {m} (n:h.Ns a m): ∃o,h.get? a=some o:=let⟨o,_,_,e,_⟩:=n;⟨o,e⟩
def Go.un (g:Go X W c x) (k:an c.H r=none) (m: ¬W r) (e:c.s.heap.get? a=some o) (h:c.ow a=some r):x.s.heap.get? a=some o∧x.ow a=c.ow a:=
 g.vJ a o e fun n q=>by rw[h] at q;obtain rfl:=dL q;exact⟨m,k⟩
def Go.p8 (g:Go X W c h) (e:c.s.heap.get? r=some o) (x:an c.H r=none):an h.H r=none:=by
 cases q:an h.H r with
 |none=>rfl
 |some m=>
  rcases g.new _ _ q with⟨k,z⟩|z
  ·rw[x] at z;exact bH z
  ·rw[e] at z;exact ph z
def cL.mv (F:cL X te env ρ fr c) (u: ∀a o,c.s.heap.get? a=some o→(c.ow a=some env.locals∨c.ow a=some ρ)→h.s.heap.get? a=some o∧h.ow a=c.ow a)
  (t: ∀a o,c.s.heap.get? a=some o→c.ow a=none→h.s.heap.get? a=some o∧h.ow a=none) (w:an h.H env.locals=none) (g:an h.H ρ=none) (j: ∃o,h.s.heap.get? ρ=some o):cL X te env ρ fr h:=by
 obtain⟨m,n,l⟩:=F.ns;obtain⟨o,k⟩:=dW n;refine⟨F.scope,F.kind,F.ae,F.Ho,⟨m,n.at' fun o e=>(u _ _ e (.inl F.own.1)).1,fun i x v b p=>?_⟩,fun x z e=>?_,F.na,F.eG,F.inj,⟨(u _ _ k (.inl F.own.1)).2.trans F.own.1,w⟩,⟨g,j⟩⟩
 ·obtain⟨y,d,r⟩:=l i x v b p;exact⟨y,d.imp id fun⟨q,z,e,o,k,hd⟩=>⟨q,z,e,o,(u _ _ k (.inr (F.D2 x z e).2.2)).1,hd⟩,r.keep t⟩
 ·obtain⟨⟨v,o,k,hd⟩,p,s⟩:=F.D2 x z e;exact⟨⟨v,o,(u _ _ k (.inr s)).1,hd⟩,p,(u _ _ k (.inr s)).2.trans s⟩
def cL.go (F:cL X te env ρ fr c) (g:Go X W c q) (r: ¬W env.locals) (k: ¬W ρ):cL X te env ρ fr q:=by obtain⟨m,n,-⟩:=F.ns;obtain⟨o,s⟩:=dW n;obtain⟨p,t,x⟩:=F.pZ;exact F.mv (fun a o e h=>h.elim (g.un F.own.2 r e) (g.un p k e)) g.k (g.p8 s F.own.2) (g.p8 x p) (g.alive _ _ x)
def sI {Q:Value→Shared→Prop} {E:Value→Shared→Prop} (F:cL X te env ρ fr c) (k:te.eG i x=true) (s:fr.get i=some v) (h: ∀y,dC X c v y→Q y c.s):wpAny (M X) A (loadName env x) Q E c.s:=by
 unfold TE.eG at k;simp only[Xx,XJ,XX] at k;obtain⟨⟨t,-⟩,-⟩:=k;obtain⟨m,n,u⟩:=F.ns;obtain⟨y,w,r⟩:=u i x v t s;have p:env.scope.kind= .function:=by rw[F.scope];exact F.kind
 rcases w with⟨q,e⟩|⟨q,z,e,g⟩
 ·exact wpAny_loadName_local p ((F.kindOf x).trans q) n e (h y r)
 ·exact wpAny_loadName_cell p ((F.kindOf x).trans q) e g (h y r)
def BO {Q:Value→Shared→Prop} {E:Value→Shared→Prop} (F:cL X te env ρ fr c) (e:te.eG i x=true) (k:fr.get i=some v) (h: ∀y,dC X c v y→Q y c.s):wpAny (M X) A (eval (.Name x m) env) Q E c.s:=by refine wpAny_Name (sI F e k h) ?_;unfold TE.eG at e;simp only[Xx,bne_iff_ne] at e;simpa using e.2
theorem oJ: ∀{fr:Fr} {i j:Nat},(fr.set i v).get j=some w→(i=j∧v=w)∨(i≠j∧fr.get j=some w)
 | .e,_,_,h=>nomatch h
 | .u r,0,0,h=> .inl ⟨rfl,W7 h⟩
 | .u r,0,j+1,h=> .inr ⟨nofun,h⟩
 | .u r,i+1,0,h=>nomatch h
 | .u r,i+1,j+1,h=>(oJ (fr:=r) h).imp (fun q=>⟨W4 _ q.1,q.2⟩) fun q=>⟨fun e=>q.1 (Y7 e),q.2⟩
 | .c u r,0,0,h=> .inl ⟨rfl,W7 h⟩
 | .c u r,0,j+1,h=> .inr ⟨nofun,h⟩
 | .c u r,i+1,0,h=> .inr ⟨nofun,h⟩
 | .c u r,i+1,j+1,h=>(oJ (fr:=r) h).imp (fun q=>⟨W4 _ q.1,q.2⟩) fun q=>⟨fun e=>q.1 (Y7 e),q.2⟩
theorem oK: ∀{fr:Fr} {i j:Nat} {e:aL},(fr.nK i e).get j=some w→fr.get j=some w
 | .e,_,_,_,h=>nomatch h
 | .u r,i,j,[],h=>h
 | .u r,i,j,k::t,h=>by
  change Fr.get (match Nat.beq i k with|true=> .u (r.nK (i+1) t)|false=> .u (r.nK (i+1) (k::t))) j=some w at h;induction q:Nat.beq i k using Bool.casesOn<;>rw[q] at h<;>cases j with
  |zero=>exact bH h
  |succ j=>exact oK (fr:=r) h
 | .c u r,i,j,[],h=>h
 | .c u r,i,j,k::t,h=>by
  change Fr.get (match Nat.beq i k with|true=> .u (r.nK (i+1) t)|false=> .c u (r.nK (i+1) (k::t))) j=some w at h;induction q:Nat.beq i k using Bool.casesOn<;>rw[q] at h<;>cases j with
  |zero=>first|exact h|exact bH h
  |succ j=>exact oK (fr:=r) h
def cL.sub (F:cL X te env ρ fr c) (h: ∀j w,e.get j=some w→fr.get j=some w):cL X te env ρ e c:=
 ⟨F.scope,F.kind,F.ae,F.Ho,let⟨m,n,k⟩:=F.ns;⟨m,n,fun i x v p q=>k i x v p (h i v q)⟩,F.D2,F.na,F.eG,F.inj,F.own,F.pZ⟩
def cL.er (F:cL X te env ρ fr c):cL X te env ρ (fr.er e) c:=F.sub fun ξ ξ h=>oK h
def Go.own (R:HR X c) (s:an c.H m=none) (k: ∀b h,c.s.heap.get? b=some h→c.ow b≠some m→p.get? b=some h) (u: ∀b,c.ow b=some m→ ∃h,p.get? b=some h):
  Go X (fun r=>r=m) c ⟨c.ow,{c.s with heap:=p,toks:=t},c.H⟩:=by
 have alive: ∀b h,c.s.heap.get? b=some h→ ∃v,p.get? b=some v:=fun b h e=>by
  by_cases q:c.ow b=some m
  ·exact u b q
  ·exact⟨h,k b h e q⟩
 refine⟨fun b h e n=>⟨k b h e fun q=>(n m q).1 rfl,rfl⟩,alive,fun r h e=> .inl ⟨h,e⟩,rfl,rfl,⟨fun b h e=>?_,fun b h e=>?_,fun b r e=>?_,R.nd⟩⟩
 ·obtain⟨x,y⟩:=R.im b h e;exact⟨k b h x (by rw[y];exact fun q=>nomatch q),y⟩
 ·refine(R.vI b h e).keep fun z w g on=>⟨k z w g ?_,rfl⟩;rcases on with on|on<;>rw[on]
  ·exact fun q=>nomatch q
  ·intro q;obtain rfl:=dL q;rw[s] at e;exact bH e
 ·obtain⟨⟨i,x⟩,j,y⟩:=R.live b r e;exact⟨alive _ _ x,alive _ _ y⟩
@[reducible] def HO (X : Cx) (A : Around) (c : Cf) (te : TE) (env : Env) (fr : Fr) (ρ i : Nat) (x : Str) (v : V) (y : Value) (Q : Unit → Shared → Prop) (E : Value → Shared → Prop) : Prop := ∀ (R : HR X c) (F : cL X te env ρ fr c) (m : te.eG i x = true) (k : te.kind x = some .cell → ρ = env.locals) (n : dC X c v y) (h : ∀ e, Go X (fun r => r = env.locals) c e → e.H = c.H → e.ow = c.ow → cL X te env ρ (fr.set i v) e → Q () e.s), wpAny (M X) A (storeName env x y) Q E c.s
abbrev Mf:List Type:=[Cx,Around,Cf,TE,Env,Fr,Nat,Nat,Str,V,Value,Unit→Shared→Prop,Value→Shared→Prop]
def PB:=eV Mf HO ⟨vn,xR,yw,Me,nI,K4,nI,nI,nI,nV,nI,nI,nI,trivial⟩
def T9:eU Mf HO PB:=by
 injections PB X A c te env fr ρ i x v y Q E;change HO X A c te env fr ρ i x v y Q E;intro R F N O rv h;unfold TE.eG at N;simp only[Xx,XJ,XX] at N;obtain⟨⟨U,hk⟩,-⟩:=N;have kd:env.scope.kind= .function:=by rw[F.scope];exact F.kind
 obtain⟨m,n,hs⟩:=F.ns;have D: ∀{z:Nat} {u:Heap} {t:Nat} {G},c.ow z=some env.locals→(∃I,u.get? z=some I)→Heap.SameBut z c.s.heap u→u.Ns env.locals G→(∀k s,env.cells.lookup k=some s→ ∃v,u.IsCell s v)→(∃l,oI te env G u x l∧l=y)→
   (∀k l,k≠x→oI te env m c.s.heap k l→oI te env G u k l)→Q () {c.s with heap:=u,toks:=t}:=fun{z u t G} oz az a J C hy d=>by
  have g:Go X (fun r=>r=env.locals) c ⟨c.ow,{c.s with heap:=u,toks:=t},c.H⟩:=by
   refine Go.own R F.own.2 (fun b I e q=>(a.2 _ fun w=>q (by rwa[w])).trans e) fun b q=>?_;by_cases w:b=z
   ·rwa[w]
   ·obtain⟨⟨I,e⟩,_⟩:=R.live b _ q;exact⟨I,(a.2 _ w).trans e⟩
  refine h _ g rfl rfl ⟨F.scope,F.kind,F.ae,F.Ho,⟨G,J,fun j k w L Y=>?_⟩,fun k s e=>⟨C k s e,(F.D2 k s e).2⟩,F.na,F.eG,F.inj,F.own,⟨F.pZ.1,let⟨_,d⟩:=F.pZ.2;g.alive _ _ d⟩⟩;rcases oJ Y with⟨rfl,rfl⟩|⟨q,Y⟩
  ·haveI ha:k=x:=by rw[U] at L;cases(L);rfl
   subst ha;obtain⟨l,f,rfl⟩:=hy;exact⟨_,f,rv.go g⟩
  ·obtain⟨l,f,r⟩:=hs j k w L Y;exact⟨l,d k l (fun e=>q (F.inj i j x U (e▸L))) f,r.go g⟩
 rcases hk with hk|hk
 ·refine wpAny_storeName_local ((F.kindOf x).trans hk) n (fun u J a=>D F.own.1 (dW J) a J (fun k s e=>?_) ⟨y,.inl ⟨hk,by simp⟩,rfl⟩ fun k l eo f=>?_) (by rw[kd];rfl)
  ·obtain⟨⟨v,o,d,hd⟩,h2,h3⟩:=F.D2 k s e;exact⟨v,o,(a.2 _ h2).trans d,hd⟩
  ·exact f.imp (fun q=>⟨q.1,by simp[eo,q.2]⟩) fun⟨q,s,e,o,d,hd⟩=>⟨q,s,e,o,(a.2 _ (F.D2 k s e).2.1).trans d,hd⟩
 ·obtain⟨z,C⟩:=F.eG i x U hk;obtain⟨⟨he,B⟩,hb,H⟩:=F.D2 x z C;rw[O hk] at H;refine wpAny_storeName_cell kd ((F.kindOf x).trans hk) C B fun u p a=>D (t:=c.s.toks) H (let⟨o,e,_⟩:=p;⟨o,e⟩) a (n.at' fun o e=>(a.2 _ (X3 hb)).trans e) (fun k s e=>?_) ⟨y,.inr ⟨hk,z,C,p⟩,rfl⟩ fun k l eo f=>?_
  ·by_cases q:s=z
   ·subst q;exact⟨_,p⟩
   ·obtain⟨⟨v,o,d,hd⟩,h2,h3⟩:=F.D2 k s e;exact⟨v,o,(a.2 _ q).trans d,hd⟩
  ·exact f.imp id fun⟨q,s,e,o,d,hd⟩=>⟨q,s,e,o,(a.2 _ fun w=>eo (F.na k x z (w▸e) C)).trans d,hd⟩
def Uf:Prop:= ∀⦃X A c te env fr ρ i x v y Q E⦄,HO X A c te env fr ρ i x v y Q E
def gv:Uf:=eA Mf T9
end
section
variable {c:Cf} {W:Nat→Prop}
structure fW (X:Cx) (c:Cf) (a:Nat) (o:Ob):Prop where
 r:OR X c.s.heap c.ow a o
 p8:an c.H a=none
def D3 (h:Ow) (e:Nat→Prop) (r:Nat):Ow:=fun b=> @ite _ (e b) (Classical.propDecidable _) (some r) (h b)
def jI {e:Nat→Prop} (h:e b):D3 x e r b=some r:=WY h
def oL {e:Ow} {x:Nat→Prop} (h: ¬x b):D3 e x r b=e b:=WX h
abbrev lz (h:Ow) (a:Nat):Ow:=D3 h (fun b=>b=a) a
def iN:lz h a a=some a:=jI rfl
def sJ {h:Heap} {a:Nat} (e:h.get? b=some o) (k:h.get? a=none):b≠a:=fun q=>by rw[q,k] at e;exact bH e
def Go.ux (R:HR X c) {wr:Nat→Prop} (k: ∀b h,c.s.heap.get? b=some h→s'.heap.get? b=some h) (s:s'.gens=c.s.gens) (t:s'.os=c.s.os) (m:wr r) (u: ∀a,wr a→c.s.heap.get? a=none) (p: ∀a,wr a→ ∃o,s'.heap.get? a=some o):Go X W c ⟨D3 c.ow wr r,s',c.H⟩:=by
 have n: ∀b h,c.s.heap.get? b=some h→s'.heap.get? b=some h∧D3 c.ow wr r b=c.ow b:=fun b h e=>⟨k b h e,oL fun w=>by rw[u b w] at e;exact bH e⟩;refine⟨fun b h e ξ=>n b h e,fun b h e=>⟨h,k b h e⟩,fun r h e=> .inl ⟨h,e⟩,s,t,⟨fun b h e=>?_,fun b h e=>(R.vI b h e).keep fun z v g ξ=>n z v g,fun b q e=>?_,R.nd⟩⟩
 ·obtain⟨x,y⟩:=R.im b h e;exact⟨k _ _ x,(n _ _ x).2.trans y⟩
 ·change D3 c.ow wr r b=some q at e;rcases ZB (wr b) with w|w
  ·rw[jI w] at e;obtain rfl:=dL e;exact⟨p b w,p _ m⟩
  ·rw[oL w] at e;obtain⟨⟨i,x⟩,j,y⟩:=R.live b q e;exact⟨⟨_,k _ _ x⟩,_,k _ _ y⟩
def Go.alloc (R:HR X c) (k: ∀b h,c.s.heap.get? b=some h→s'.heap.get? b=some h) (x:s'.gens=c.s.gens) (m:s'.os=c.s.os) (n:c.s.heap.get? a=none) (p: ∃o,s'.heap.get? a=some o):Go X W c ⟨lz c.ow a,s',c.H⟩:=
 Go.ux R k x m rfl (fun b e=>e▸n) fun b e=>e▸p
def Go.list (R:HR X c) (k: ∀b x,c.s.heap.get? b=some x→s'.heap.get? b=some x) (q:s'.gens=c.s.gens) (s:s'.os=c.s.os) (m:c.s.heap.get? a=none) (g:s'.heap.get? a=some (b5 h n)) (z:p.length≤cV) (r:dk X c p h):
  Go X W c ⟨lz c.ow a,s',c.H⟩∧fW X ⟨lz c.ow a,s',c.H⟩ a (.list p):=
 have G:=Go.alloc (W:=W) R k q s m ⟨_,g⟩
 ⟨G,⟨⟨iN,⟨n,h,rfl,g,z,r.go G⟩,(fun t d e=>nomatch g.symm.trans e),trivial⟩,(R.fresh m).1⟩⟩
def Go.dict (R:HR X c) (k: ∀b x,c.s.heap.get? b=some x→s'.heap.get? b=some x) (p:s'.gens=c.s.gens) (q:s'.os=c.s.os) (m:c.s.heap.get? a=none) (s:a≠sysModules) (g:s'.heap.DictAt (intKind X.prog X.w) a h n) (t:h.map (·.1)=ks) (z:vs.length≤cV) (r:dk X c vs (h.map (·.2))):
  Go X W c ⟨lz c.ow a,s',c.H⟩∧fW X ⟨lz c.ow a,s',c.H⟩ a (.dict ks vs):=by
 have G:=Go.alloc (W:=W) R k p q m (g.elim fun ξ g=>g.elim fun ξ g=>⟨_,g.1⟩);exact⟨G,⟨⟨iN,⟨h,n,rfl,s,g,t,z,r.go G⟩,(fun u d e=>g.elim fun o g=>g.elim fun ξ g=>absurd (W4 Obj.data (W7 (g.1.symm.trans e))) (by rw[g.2.2.1];exact nofun)),trivial⟩,(R.fresh m).1⟩⟩
structure Tu (c:Cf) (r a:Nat):Prop where
 own:c.ow a=some r
 p8:an c.H r=none
 al: ∃o,c.s.heap.get? a=some o
def Tu.un (t:Tu c r a) (g:Go X W c x) (h: ¬W r) (e:c.s.heap.get? a=some o):x.s.heap.get? a=some o:=(g.un t.p8 h e t.own).1
def Tu.go (R:HR X c) (t:Tu c r a) (g:Go X W c x) (h: ¬W r):Tu x r a:=
 let⟨o,e⟩:=t.al
 let u:=g.un t.p8 h e t.own
 let⟨_,k⟩:=(R.live a r t.own).2
 ⟨u.2.trans t.own,g.p8 k t.p8,⟨o,u.1⟩⟩
def Tu.sL {wr:Nat→Prop} (u:Tu c q a) (x: ∀b,wr b→ ∃o,e.get? b=some o) (k: ∀b o,¬wr b→c.s.heap.get? b=some o→e.get? b=some o):Tu ⟨c.ow,{c.s with heap:=e,toks:=t},c.H⟩ q a:=
 ⟨u.own,u.p8,(ZB (wr a)).elim (x a) fun w=>let⟨o,h⟩:=u.al;⟨o,k _ o w h⟩⟩
def Go.sL (R:HR X c) {wr:Nat→Prop} (m: ∀a,wr a→Tu c r a) (h:wr r) (s: ∀b,wr b→ ∃o,p.get? b=some o) (k: ∀b o,¬wr b→c.s.heap.get? b=some o→p.get? b=some o):
  Go X (fun q=>q=r) c ⟨c.ow,{c.s with heap:=p,toks:=t},c.H⟩:=
 Go.own R (m r h).p8 (fun b u e n=>k b u (fun w=>n (m b w).own) e) fun b e=>(ZB (wr b)).elim (s b) fun w=>let⟨⟨o,x⟩,_⟩:=R.live b r e;⟨o,k b o w x⟩
def Go.last {wr:Nat→Prop} (R:HR X c) (g:Go X W c h) (d: ∀a,wr a→c.s.heap.get? a=none) (i: ∀a,wr a→Tu h r a) (j:wr r) (k: ∀b o,¬wr b→h.s.heap.get? b=some o→G.get? b=some o):
  ∃p,Go X W c ⟨p,{h.s with heap:=G,toks:=t},h.H⟩∧(∀b,h.ow b=none→p b=none)∧ ∀b q,h.ow b=some q→ ¬wr q→p b=some q:=by
 have u:=g.hr
 let m:Nat→Prop:=fun b=> ∃a,h.ow b=some a∧wr a
 haveI H: ∀{b},m b→(@ite (Option Nat) (m b) (Classical.propDecidable _) none (h.ow b))=none:=fun e=>WY e;have s: ∀{b},¬m b→(@ite (Option Nat) (m b) (Classical.propDecidable _) none (h.ow b))=h.ow b:=fun e=>WX e;have v: ∀{b},¬m b→ ¬wr b:=fun n w=>n ⟨r,(i _ w).own,j⟩;have l: ∀{b},h.ow b=none→ ¬m b:=fun e ⟨a,q,_⟩=>by rw[e] at q;exact bH q
 refine⟨fun b=> @ite _ (m b) (Classical.propDecidable _) none (h.ow b),⟨fun b o e n=>?_,fun b o e=>?_,g.new,g.gens,g.os,⟨fun b o e=>?_,fun b o e=>?_,fun b q e=>?_,u.nd⟩⟩,fun b e=>(s (l e)).trans e,fun b q e n=>(s fun⟨a,f,w⟩=>by rw[e] at f;obtain rfl:=dL f;exact n w).trans e⟩
 ·obtain⟨x,y⟩:=g.vJ b o e n;have n1: ¬m b:=fun⟨a,q,w⟩=>by rw[y] at q;obtain⟨_,o,z⟩:=R.live b a q;rw[d a w] at z;exact bH z
  exact⟨k b o (v n1) x,(s n1).trans y⟩
 ·obtain⟨A,x⟩:=g.alive b o e;exact⟨A,k b A (fun w=>by rw[d b w] at e;exact bH e) x⟩
 ·obtain⟨x,y⟩:=u.im b o e;exact⟨k b o (v (l y)) x,(s (l y)).trans y⟩
 ·have B:=u.vI b o e;refine B.keep fun z I J on=>?_;have n1: ¬m z:=fun⟨a,q,w⟩=>by
   rcases on with on|on<;>rw[on] at q<;>(first|exact bH q|obtain rfl:=dL q);haveI:=(i b w).own;rw[B.own] at this;obtain rfl:=dL this;rw[(i _ w).p8] at e;exact bH e
  exact⟨k z I (v n1) J,s n1⟩
 ·change @ite _ (m b) (Classical.propDecidable _) none (h.ow b)=some q at e;rcases ZB (m b) with n1|n1
  ·rw[H n1] at e;exact bH e
  ·rw[s n1] at e;obtain⟨⟨C,x⟩,D,y⟩:=u.live b q e;exact⟨⟨C,k b C (v n1) x⟩,D,k q D (fun w=>n1 ⟨q,e,w⟩) y⟩
def cL.last {x:Ow} {wr:Nat→Prop} (F:cL X z p ρ g c) (u: ∀a,wr a→Tu c r a) (s:wr r) (v: ¬wr p.locals) (m: ¬wr ρ) (k: ∀b o,¬wr b→c.s.heap.get? b=some o→i.get? b=some o)
  (j: ∀b,c.ow b=none→x b=none) (y: ∀b q,c.ow b=some q→ ¬wr q→x b=some q):cL X z p ρ g ⟨x,{c.s with heap:=i,toks:=t},c.H⟩:=by
 have nw: ∀{a q},c.ow a=some q→ ¬wr q→ ¬wr a:=fun e n w=>by rw[(u _ w).own] at e;obtain rfl:=dL e;exact n s
 refine F.mv (fun a o e h=>?_) (fun a o e n=>⟨k a o (fun w=>by rw[(u a w).own] at n;exact ph n) e,j a n⟩) F.own.2 F.pZ.1 (let⟨o,e⟩:=F.pZ.2;⟨o,k _ o m e⟩);rcases h with h|h
 ·exact⟨k a o (nw h v) e,(y a _ h v).trans h.symm⟩
 ·exact⟨k a o (nw h m) e,(y a _ h m).trans h.symm⟩
def fW.Mg (R:HR X c) (l:fW X c a o) (W:Nat→Prop) (x:Cf) (n:HR X x) (g:Go X W x c) (m:x.s.heap.get? a=none):Go X W x ⟨c.ow,c.s,.c a o c.H⟩:=by
 have k: ∀b,an (.c a o c.H) b=if a=b then some o else an c.H b:=fun ξ=>rfl
 refine⟨g.vJ,g.alive,fun r h e=>?_,g.gens,g.os,⟨R.im,fun b h e=>?_,R.live,⟨l.p8,R.nd⟩⟩⟩
 ·change an (.c a o c.H) r=some h at e;rw[k] at e;split at e
  ·rename_i q;subst q;exact .inr m
  ·exact g.new r h e
 ·change an (.c a o c.H) b=some h at e;rw[k] at e;split at e
  ·rename_i q;subst q;obtain rfl:=dL e;exact l.r
  ·exact R.vI b h e
def fW.PD (l:fW X c a o) (p:HR X k) (g:Go X W k c) (t:k.s.heap.get? a=none): ∃x,Go X W k ⟨x,c.s,c.H⟩∧VR X c.s.heap x o.val (.ref a)∧ ∀b q,c.ow b=some q→q≠a→x b=some q:=by
 have m:=l.Mg g.hr W k p g t;haveI u:an (.c a o .e) a=some o:=WY rfl;have r: ∀b h,an (.c a o .e) b=some h→an (.c a o c.H) b=some h:=fun b h e=>by
  change(if a=b then some o else none)=some h at e;show(if a=b then some o else an c.H b)=some h;split at e
  ·rename_i q;rwa[WY q]
  ·exact bH e
 haveI v: ∀b h,an c.H b=some h→an (.c a o c.H) b=some h∧an (.c a o .e) b=none:=fun b h e=>by
  have s:a≠b:=fun q=>by rw[←q,l.p8] at e;exact bH e
  exact⟨(WX s).trans e,WX s⟩
 exact⟨_,m.trans p (Go.yy m.hr (T:= .c a o .e) (H':=c.H) r v g.hr.nd),uw m.hr (T:= .c a o .e) r u,fun b q e n=>oH e (WX (X3 n))⟩
@[elab_as_elim] def PE {f : List PyData → PyData} {motive : PyData → Prop} (e : (match o with | some h => some (f h) | none => none) = some d) (q : ∀ a, o = some a → motive (f a)) : motive d := by
 cases o with
 |none=>exact bH e
 |some a=>exact W7 e▸q a rfl
@[elab_as_elim] def Ug {motive : List PyData → Prop} (e : (match o with | some h => some (d :: h) | none => none) = some l) (q : ∀ a, o = some a → motive (d :: a)) : motive l := by
 cases o with
 |none=>exact bH e
 |some a=>exact W7 e▸q a rfl
inductive Rd (h:Heap) (n:Nat) (x:Value) (d:PyData):Prop
 |mk (as:List Addr) (r:Reads h x d as) (c:d.canLay0=true) (q:d.depth≤n)
inductive OQ (h:Heap) (n:Nat) (x:ax) (d:List PyData):Prop
 |mk (as:List Addr) (r:ReadsAll h x d as) (c:PyData.canLayAll0 d=true) (q:PyData.depthAll d≤n)
def toDs_rd {f:V→Option PyData} (q: ∀{v x d},VR X h t v x→f v=some d→Rd h n x d) (r:bZ X h t p s) (e:toDs f p=some m):OQ h n s m:=by
 induction p generalizing s m with
 |nil=>exact bZ.gV r (W7 e▸⟨_,.nil,rfl,W8 _⟩)
 |cons v p u=>
  change(match f v with|some d=>(match toDs f p with|some m=>some (d::m)|none=>none)|none=>none)=some m at e;cases k:f v with
  |none=>rw[k] at e;exact bH e
  |some d=>
   rw[k] at e;exact Ug e fun m w=>di.casesOn r fun y l a b=>Rd.casesOn (q a k) fun ξ a z g=>OQ.casesOn (u b w) fun ξ b i j=>⟨_,.cons a b,by simp only[PyData.canLayAll0,z,i,Bool.and_true],Nat.max_le.mpr ⟨g,j⟩⟩
def toD_reads (n:Nat) (r:VT X h j v x) (e:toD n v=some d):Rd h n x d:=by
 induction n generalizing v x d with
 |zero=>exact bH e
 |succ n s=>
  induction v using V.casesOn with
  |none=>exact W7 e▸(show x=_ from r)▸⟨_,.none,rfl,W8 _⟩
  |bool b=>exact W7 e▸(show x=_ from r)▸⟨_,.bool _,rfl,W8 _⟩
  |int i=>exact W7 e▸d8.casesOn r fun t=>⟨_,.int _ _,rfl,W8 _⟩
  |str i=>
   change(if PyData.strOk i=true then some (PyData.str i) else none)=some d at e;split at e
   ·rename_i q;exact W7 e▸uu.casesOn r fun t=>⟨_,.str _ _,q,W8 _⟩
   ·exact bH e
  |aG u=>exact PE (f:=PyData.tuple) (motive:=Rd h (n+1) x) e fun w m=>bh.casesOn r fun a r=>f8.casesOn r fun k ξ g ξ p=>OQ.casesOn (toDs_rd (fun r=>s r.vt) p m) fun y z c q=>⟨_,.tuple g rfl rfl (by simpa using z),c,XK q⟩
  |ap u=>exact PE (f:=PyData.list) (motive:=Rd h (n+1) x) e fun w m=>bh.casesOn r fun a r=>dj.casesOn r fun ξ k ξ g ξ p=>OQ.casesOn (toDs_rd (fun r=>s r.vt) p m) fun y z c q=>⟨_,.list g rfl rfl (by simpa using z),c,XK q⟩
  |_=>exact bH e
def toDs_reads (k:bZ X h q m x) (e:toDs (toD n) m=some p):OQ h n x p:=toDs_rd (fun r=>toD_reads n r.vt) k e
end
section
variable {c:Cf} {d:Nat}
structure gW (d:Nat) (A:Around):Prop where
 hh:A.handled=none
 dp:A.depth+4*d+10≤990
 un:A.units+30*d+200≤9900
def gW.Uh (a:gW d A):A.units+64<cLine:=by haveI:=a.un;unfold cLine;exact(br 0x22c1d4a92c00311401830752a4b040cc5823c508401) this
def gW.Wr (a:gW d A):A.units<cLine:=by haveI:=a.un;unfold cLine;exact(br 0x1160ea549401830752a4b040cc5823c508401) this
def fq:Hk→CmpOp
 | .lt=> .Lt| .le=> .LtE| .gt=> .Gt| .ge=> .GtE| .eq=> .Eq| .ne=> .NotEq| .is=> .Is| .i6=> .IsNot| .g8=> .In| .jr=> .NotIn
def V.isNone:V→Bool
 | .none=>true
 |_=>false
def bh.ne (r:bh P x):(x== .none)=false:=bh.casesOn r fun ξ ξ=>rfl
def VT.vK (r:VT X h e v x):(x== .none)=v.isNone:=by
 induction v using V.casesOn with
 |none=>rw[show x=_ from r];rfl
 |bool b=>rw[show x=_ from r];rfl
 |bI b=>rw[show x=_ from r];rfl
 |ref b=>rw[show x=_ from r];rfl
 |ty b=>rw[show x=_ from r];rfl
 |bi b=>rw[show x=_ from r];rfl
 |int i=>exact d8.casesOn r fun ξ=>rfl
 |str i=>exact uu.casesOn r fun ξ=>rfl
 |bytes b=>exact rV.casesOn r fun ξ ξ ξ ξ=>rfl
 |_=>exact bh.ne r
theorem jJ {K:Type} [DecidableEq K] (k:K): ∀x:List (K×Value),(valueAt x k).isSome=(x.map (·.1)).any (fun e=>decide (e=k))
 |[]=>rfl
 |(a,v)::r=>by
  haveI m:=jJ k r;unfold valueAt at m⊢;simp only[Yw,XD,YA];by_cases h:a=k
  ·simp[h]
  ·simp only[h,decide_false,aaj];simpa using m
def iO (h:Heap) (d:PyData) (y:Value):Bool:= @decide (∃e x,Reads h y e x∧e.canLay0=true∧PyData.eqv e d=true) (Classical.propDecidable _)
def sM {d:PyData} (r:Reads h y e k) (c:e.canLay0=true):iO h d y=PyData.eqv e d:=by
 unfold iO;cases q:PyData.eqv e d with
 |true=>exact @Xz _ (Classical.propDecidable _) ⟨e,k,r,c,q⟩
 |false=>refine @Xw _ (Classical.propDecidable _) ?_;rintro⟨n,x,p,s,m⟩;rw[Reads.unique n e y x k s p r,q] at m;exact dh m
def uy {d:PyData} (c:PyData.canLayAll0 (d::h)=true):d.canLay0=true∧PyData.canLayAll0 h=true:=YL.mp c
def D4 {d:PyData} (r:ReadsAll h k m n) (c:PyData.canLayAll0 m=true):k.any (iO h d)=m.any fun e=>PyData.eqv e d:=by
 induction k generalizing m n with
 |nil=>cases(r);rfl
 |cons x k p=>cases r with
  |cons a b=>rw[YA,YA,sM a (uy c).1,p b (uy c).2]
inductive VW (h:Heap) (y:Value):Prop
 |mk (d:PyData) (as:List Addr) (r:Reads h y d as) (c:d.canLay0=true)
def uz (r:ReadsAll h k n p) (c:PyData.canLayAll0 n=true) (m:y∈k):VW h y:=by
 induction k generalizing n p with
 |nil=>cases(m)
 |cons x k q=>cases r with
  |cons a b=>exact(Xa.mp m).elim (fun e=>e▸⟨_,_,a,(uy c).1⟩) fun m=>q b (uy c).2 m
def dD {α:Type} {o:Option α} {K:α→Prop} (h:Y1 o K): ∃a,o=some a∧K a:=by
 cases o with
 |none=>exact h.elim
 |some a=>exact⟨a,rfl,h⟩
theorem gW.PF (e:gW d A) (h:n≤bW):A.units+min n m<cLine:=W9 (X5 (WR (Nat.min_le_left _ _) (WR h (by exact bM aw))) _) e.Uh
def gW.PG (e:gW d A) (h:n≤bW):A.units+1+min m n<cLine:=by haveI:=e.un;haveI:=WR (Nat.min_le_right m n) h;show _<9900;unfold bW at this;lia
variable {K:Bool→Prop}
inductive Ui (K:Bool→Prop) (a:V) (xs:aN):Prop
 |mk (ds:List PyData) (d:PyData) (e1:toDs (toD bW) xs=some ds) (e2:toD bW a=some d) (k:K (ds.any fun e=>PyData.eqv e d))
def D5 (k:Y1 (g8 a (.ap x)) K):Ui K a x:=by
 change Y1 (match toDs (toD bW) x with|some n=>(match toD bW a with|some d=>some (n.any fun e=>PyData.eqv e d)|none=>none)|none=>none) K at k;cases h:toDs (toD bW) x with
 |none=>rw[h] at k;exact k.elim
 |some n=>cases m:toD bW a with
  |none=>rw[h,m] at k;exact k.elim
  |some p=>rw[h,m] at k;exact⟨_,_,h,m,k⟩
inductive Mh (A:Around) (s:Shared) (x:Value) (xs:Array Value) (d:PyData) (r:Bool):Prop
 |mk (q:xs.any (iO s.heap d)=r) (e: ∀z,z∈xs→EqAt A.in1 s z x (iO s.heap d z))
def D6 (q:gW d A) (r:bZ X c.s.heap c.ow s h) (t:toDs (toD bW) s=some u) (v:VT X c.s.heap c.ow a x) (w:toD bW a=some k):
  Mh A c.s x h.toArray k (u.any fun e=>PyData.eqv e k):=
 OQ.casesOn (toDs_reads r t) fun l z1 m ξ=>Rd.casesOn (toD_reads _ v w) fun b z2 y g=>
  ⟨List.any_toArray.trans (D4 z1 m),fun z i=>VW.casesOn (uz z1 m (List.mem_toArray.mp i)) fun j f n p=>
   Hi (sM n p) (eqAt_reads j k A.in1 c.s z x _ _ n z2 p y (q.PG g))⟩
def vL (k:Y1 (g8 a b) K) (v:VT X c.s.heap c.ow a x) (w:VT X c.s.heap c.ow b y) (B:gW d A) {Q:Value→Shared→Prop} (neg:Bool) (h: ∀r t,K r→Q (.bool (if neg then !r else r)) {c.s with toks:=t}):
  wpAny (M X) A (compareOp (if neg then .NotIn else .In) x y) Q bw c.s:=by
 induction b using V.casesOn with
 |eR D L=>
  cases a with
  |int i=>
   exact d8.casesOn v fun t=>bh.casesOn w fun z r=>il.casesOn r fun j N ξ G g H ξ ξ=>by
    have C:(valueAt j i).isSome=D.any fun e=>iG e i:=by rw[jJ,H];rfl
    have n:(z==sysModules)=false:=ZW G;haveI q:=h _ (c.s.toks+1) k;induction neg using Bool.casesOn
    ·exact wpAny_in_of (k:=i) (Z6 X.prog X.w i t) n g.dictOf.mapOf (by rwa[C])
    ·exact wpAny_notIn_of (k:=i) (Z6 X.prog X.w i t) n g.dictOf.mapOf (by rwa[C])
  |_=>exact k.elim
 |aG I=>
  exact Ui.casesOn (D5 k) fun J s l f k=>bh.casesOn w fun p r=>f8.casesOn r fun m ξ g z o=>Mh.casesOn (D6 B o l v f) fun u E=>by
   haveI q:=h _ c.s.toks k;induction neg using Bool.casesOn
   ·exact in_tupleAt (iO c.s.heap s) ⟨_,g,rfl,_,rfl⟩ E (by rwa[u])
   ·exact notIn_tupleAt (iO c.s.heap s) ⟨_,g,rfl,_,rfl⟩ E (by rwa[u])
 |ap I=>
  exact Ui.casesOn (D5 k) fun J s l f k=>bh.casesOn w fun p r=>dj.casesOn r fun ξ m ξ g z o=>Mh.casesOn (D6 B o l v f) fun u E=>by
   haveI q:=h _ c.s.toks k;induction neg using Bool.casesOn
   ·exact in_listAt (iO c.s.heap s) ⟨_,g,rfl,_,rfl⟩ E (by rwa[u])
   ·exact notIn_listAt (iO c.s.heap s) ⟨_,g,rfl,_,rfl⟩ E (by rwa[u])
 |_=>exact k.elim
inductive SX (K:Bool→Prop) (a b:V):Prop
 |mk (da db:PyData) (ea:toD bW a=some da) (eb:toD bW b=some db) (k:K (PyData.eqv da db))
def D7 (k:Y1 (Hm a b) K):SX K a b:=by
 unfold Hm at k;cases h:toD bW a with
 |none=>rw[h] at k;exact k.elim
 |some x=>cases e:toD bW b with
  |none=>rw[h,e] at k;exact k.elim
  |some m=>rw[h,e] at k;exact⟨_,_,h,e,k⟩
def yz (k:Y1 (neg o) K):Y1 o fun r=>K (!r):=by
 cases o with
 |none=>exact k.elim
 |some q=>exact k
inductive SY (K:Bool→Prop) (a:V):V→Prop
 |mk (k:K a.isNone):SY K a .none
def D8 (k:Y1 (isNone a b) K):SY K a b:=by
 induction b using V.casesOn with
 |none=>exact⟨by induction a using V.casesOn<;>exact k⟩
 |_=>exact k.elim
inductive Mi (f:Int→Int→Bool) (K:Bool→Prop):V→V→Prop
 |mk (i j:Int) (k:K (f i j)):Mi f K (.int i) (.int j)
def HP (k:Y1 (Bv f a b) K):Mi f K a b:=by
 cases a with
 |int i=>cases b with
  |int j=>exact⟨i,j,k⟩
  |_=>exact k.elim
 |_=>exact k.elim
@[elab_as_elim] def oM {f : Int → Int → Bool} {motive : Value → Value → Prop} (k : Y1 (Bv f a b) K) (e : VT X h m a x) (n : VT X h m b y) (q : ∀ i j t u, K (f i j) → motive (.int i t) (.int j u)) : motive x y := by
 induction HP k using Mi.casesOn with
 |mk i j k=>exact d8.casesOn e fun t=>d8.casesOn n fun u=>q i j t u k
inductive HQ:V→V→Prop
 |mk (xs ys:aN) (q:(xs.length !=ys.length)=true):HQ (.ap xs) (.ap ys)
def HS (q:kq a b=true):HQ a b:=by
 cases a with
 |ap h=>cases b with
  |ap e=>exact⟨_,_,q⟩
  |_=>exact dh q
 |_=>exact dh q
def PH (k:Y1 (lp .eq a b) K):(HQ a b∧K false)∨SX K a b:=by
 change Y1 (match kq a b with|true=>some false|false=>Hm a b) K at k;cases q:kq a b with
 |true=>rw[q] at k;exact .inl ⟨HS q,k⟩
 |false=>rw[q] at k;exact .inr (D7 k)
def Ag {Q:Value→Shared→Prop} (k:Y1 (lp f a b) K) (e:VT X c.s.heap c.ow a x) (m:VT X c.s.heap c.ow b y) (n:gW d A) (h: ∀r t,K r→Q (.bool r) {c.s with toks:=t}):
  wpAny (M X) A (compareOp (fq f) x y) Q bw c.s:=by
 induction f using Hk.casesOn with
 |lt=>exact oM k e m fun i j t u k=>wpAny_lt_int (h _ c.s.toks k)
 |le=>exact oM k e m fun i j t u k=>PyProof.Rows.le_int (h _ c.s.toks k)
 |gt=>exact oM k e m fun i j t u k=>PyProof.Rows.gt_int (h _ c.s.toks k)
 |ge=>exact oM k e m fun i j t u k=>PyProof.Rows.ge_int (h _ c.s.toks k)
 |eq=>
  rcases PH k with⟨q,s⟩|q
  ·induction q using HQ.casesOn with
   |mk G H q=>exact bh.casesOn e fun p e=>dj.casesOn e fun ξ I ξ o ξ B=>bh.casesOn m fun J m=>dj.casesOn m fun ξ L ξ C ξ D=>eq_list_lengthsAt ⟨_,o,rfl,_,rfl⟩ ⟨_,C,rfl,_,rfl⟩ (by rwa[XH,XH,←B.length,←D.length]) n.Wr (h _ c.s.toks s)
  ·exact SX.casesOn q fun ξ ξ v w k=>Rd.casesOn (toD_reads _ e v) fun ξ z1 z g=>Rd.casesOn (toD_reads _ m w) fun ξ z2 l ξ=>compareEq_reads z1 z2 z l (n.PF g) (h _ c.s.toks k)
 |ne=>exact SX.casesOn (D7 (yz k)) fun ξ ξ v w k=>Rd.casesOn (toD_reads _ e v) fun ξ z1 z g=>Rd.casesOn (toD_reads _ m w) fun ξ z2 l ξ=>compareNe_reads z1 z2 z l (n.PF g) (h _ c.s.toks k)
 |is=>induction D8 k using SY.casesOn with
  |mk s=>rw[show y=_ from m];exact is_none_gen (by rw[e.vK];exact h _ c.s.toks s)
 |i6=>induction D8 (yz k) using SY.casesOn with
  |mk s=>rw[show y=_ from m];exact isnot_none_gen (by rw[e.vK];exact h _ c.s.toks s)
 |g8=>exact vL k e m n false h
 |jr=>exact vL (yz k) e m n true fun r t k=>h (!r) t k
def nQ:sq→Operator
 | .add=> .Add| .sub=> .Sub| .mul=> .Mult| .fdiv=> .FloorDiv| .xZ=> .Mod| .O8=> .Pow
def BP {b:Int} (h:0<b):a.fdiv b=a/b:=Int.fdiv_eq_ediv_of_nonneg _ ((cU 668571944355844) h)
def BQ {b:Int} (h:0<b):a.fmod b=a%b:=Int.fmod_eq_emod_of_nonneg _ (by lia)
def p9 (h:a.natAbs<2^64): ¬(Builtin.Int.intBits a>shortFactorBits):=by
 unfold Builtin.Int.intBits shortFactorBits;split
 ·lia
 ·haveI:=(Nat.log2_lt (by rename_i q;simpa using q)).mpr h;exact(bC 0x11180460080622c40311401) this
def PI (h:a.natAbs<2^64∨b.natAbs<2^64):IntMulOk a b:=by
 unfold IntMulOk;rcases h with h|h
 ·haveI:=p9 h;simp[this]
 ·haveI:=p9 h;simp[this]
theorem D9 (h:b.natAbs<2^64):Builtin.divisionGoesByPylong a b=false:=by
 unfold Builtin.divisionGoesByPylong;dsimp only;haveI:(if(b==0)=true then 0 else b.natAbs.log2/30+1)≤300:=by
  split
  ·exact W8 _
  ·haveI:=(Nat.log2_lt (by rename_i q;simpa using q)).mpr h;exact(bT 0x20c1a4b008c21b47c3106400c041478a10c40311401) this (dN _ 30)
 rw[Xw (by exact(bC 0x22200b0692c18349401) this),Bool.false_and]
theorem eI {α:Type} (e:List α): ∀(n:Nat) (h:Array α),List.foldl (fun x k=>x++k) h (List.replicate n e.toArray)=(h.toList++(List.replicate n e).flatten).toArray
 |0,h=>by simp
 |n+1,h=>by rw[Yu,List.foldl_cons,eI e n];simp[Yu]
theorem bZ.replicate (r:bZ X h e x k): ∀n,bZ X h e (List.replicate n x).flatten (List.replicate n k).flatten
 |0=>rfl
 |n+1=>by rw[Yu,Yu,Yq,Yq];exact r.append (bZ.replicate r n)
theorem dX {α:Type} (h:List α): ∀n,(List.replicate n h).flatten.length=h.length*n
 |0=>by simp
 |n+1=>by rw[Yu,Yq,WO,dX h n,Nat.mul_succ];exact(br 0x4a000843008401)
def bN [Decidable p] {K:V→Prop} (k:Y1 (de p v) K):p∧K v:=by
 unfold de at k;split at k
 ·exact⟨by assumption,k⟩
 ·exact k.elim
end
section
variable {c:Cf} {K:V→Prop} {Q:Value→Shared→Prop}
abbrev PV (X:Cx) (c:Cf) (K:V→Prop) (Q:Value→Shared→Prop):Prop:= ∀h v z,Go X cS c h→h.H=c.H→dC X h v z→K v→Q z h.s
abbrev PL (X:Cx) (c:Cf) (K:V→Prop) (Q:Value→Shared→Prop):Prop:= ∀h a o,Go X cS c h→h.H=c.H→c.s.heap.get? a=none→fW X h a o→K o.val→Q (.ref a) h.s
def PV.here (R:HR X c) (q:PV X c K Q) (r:dC X c v z) (k:K v):Q z c.s:=q c v z (Go.refl R) rfl r k
def PV.pX (R:HR X c) (q:PV X c K Q) (r:dC X c v z) (k:K v):Q z {c.s with toks:=t}:=q ⟨c.ow,{c.s with toks:=t},c.H⟩ v z (Go.pX R) rfl r k
def PV.keeps (R:HR X c) (q:PV X c K Q) (e: ∀a o,c.s.heap.get? a=some o→h.get? a=some o) (r:VR X h c.ow v z) (k:K v):Q z {c.s with heap:=h,toks:=t}:=q ⟨c.ow,{c.s with heap:=h,toks:=t},c.H⟩ v z (Go.keeps R e) rfl r k
def bZ.kp (k: ∀a o,h.get? a=some o→x.get? a=some o) (r:bZ X h m p q):bZ X x m p q:=r.keep fun a o e n=>⟨k a o e,n⟩
def PV.uv (R:HR X c) (q:PV X c K Q) (e: ∀a o,c.s.heap.get? a=some o→h.heap.get? a=some o) (x:h.gens=c.s.gens) (m:h.os=c.s.os) (r:VR X h.heap c.ow v z) (k:K v):Q z h:=q ⟨c.ow,h,c.H⟩ v z (Go.uv R e x m) rfl r k
def PV.aG (R:HR X c) (q:PV X c K Q) (r:dk X c h e) (z:h.length≤cV) (k:K (.aG h)):Q (.ref c.s.heap.objs.size) {c.s with heap:=c.s.heap.push (dA e 0),toks:=t}:=
 q.keeps (v:= .aG h) R (aK _ _) ⟨_,e,(R.fresh (aX _)).2.1,Xd _ rfl,z,r.kp (aK _ _)⟩ k
def PL.list (R:HR X c) (q:PL X c K Q) (r:dk X c h e) (z:h.length≤cV) (k:K (.ap h)):Q (.ref c.s.heap.objs.size) {c.s with heap:=c.s.heap.push (b5 e n),toks:=t}:=by have:=Go.list (W:=cS) (s':={c.s with heap:=c.s.heap.push (b5 e n),toks:=t}) R (aK c.s.heap (b5 e n)) rfl rfl (aX _) (Xd _ rfl) z r;exact q _ _ (.list h) this.1 rfl (aX _) this.2 k
def V.ld:V→Bool
 | .ap _=>true
 | .eR _ _=>true
 |_=>false
inductive yA (K:V→Prop):sq→V→V→Prop
 |int (op:sq) (i j:Int) (k:Y1 (LO op i j) K):yA K op (.int i) (.int j)
 |aG (xs ys:aN) (k:xs.length+ys.length≤bz∧K (.aG (xs++ys))):yA K .add (.aG xs) (.aG ys)
 |str (x y:Str) (k:x.length+y.length≤bz∧K (.str (x++y))):yA K .add (.str x) (.str y)
 |ap (xs ys:aN) (k:xs.length+ys.length≤bz∧K (.ap (xs++ys))):yA K .add (.ap xs) (.ap ys)
 |VX (xs:aN) (y:Int) (k:(0≤y∧xs.length*y.toNat≤bz∧y<2^63)∧K (.ap (List.replicate y.toNat xs).flatten)):yA K .mul (.ap xs) (.int y)
def HT (k:Y1 (DA h a b) K):yA K h a b:=by
 cases a with
 |int i=>cases b with
  |int j=>exact .int _ _ _ k
  |_=>exact k.elim
 |aG x=>induction h using sq.casesOn with
  |add=>cases b with
   |aG e=>exact .aG _ _ (bN k)
   |_=>exact k.elim
  |_=>exact k.elim
 |str x=>induction h using sq.casesOn with
  |add=>cases b with
   |str e=>exact .str _ _ (bN k)
   |_=>exact k.elim
  |_=>exact k.elim
 |ap x=>induction h using sq.casesOn with
  |add=>cases b with
   |ap e=>exact .ap _ _ (bN k)
   |_=>exact k.elim
  |mul=>cases b with
   |int e=>exact .VX _ _ (bN k)
   |_=>exact k.elim
  |_=>exact k.elim
 |_=>exact k.elim
def HU {i:Int} (k:Y1 (LO h i j) K) (R:HR X c) (q: ∀{i t},K (.int i)→Q (.int i t) {c.s with toks:=c.s.toks+1}):wpAny (M X) A (binaryOp (nQ h) (.int i t) (.int j u)) Q bw c.s:=by
 induction h using sq.casesOn with
 |add=>exact wpAny_add_int (q k)
 |sub=>exact sub_int' (q k)
 |mul=>exact PyProof.Rows.mul_int (q (bN k).2) (PI (bN k).1)
 |fdiv=>have g:=(bN k).1;refine PyProof.Rows.floordiv_int (Int.ne_of_gt g.1) ?_ (.inl (D9 g.2));rw[BP g.1];exact q (bN k).2
 |xZ=>have g:=(bN k).1;refine mod_int' (Int.ne_of_gt g) ?_;rw[BQ g];exact q (bN k).2
 |O8=>have g:=(bN k).1;exact PyProof.Rows.pow_int_small g.1 ((lm 0x4c0491605f1402b5a20180a0280a0280a0280a0280a0280b02ac229a09f2805300804) g) g.2.2 (q (bN k).2)
def Mj {S:PySem.Spec} (x:c.s.heap.get? p=some (dA n 0)) (k:c.s.heap.get? e=some (dA q 0)) (m:Meets (Builtin.«tuple.__add__» ⟨[.ref p,.ref e],[]⟩) S) (h:S A (wants Q bw) c.s):wpAny (M X) A (binaryOp .Add (.ref p) (.ref e)) Q bw c.s:=
 concat_meets ⟨_,x,rfl⟩ ⟨_,k,rfl⟩ noFill_tuple_add seq_tuple_add PySem.F.slot_tuple_add PySem.F.entry_tuple_add (PySem.F.args_tuple_add_2 _ _) m h
def bZ.Ah (r:bZ X h x e []):e=[]:=YC.mp r.length
def D' (g:a+b≤bz):a+b≤cV:=WR g (bM aw)
def uA (e:bZ X h x k m) (n:bZ X h x p q) (g:k.length+p.length≤bz):m.toArray.size+q.toArray.size≤sizeLine:=by rw[XH,XH,←e.length,←n.length];exact WR g (bM aw)
def HV (R:HR X c) (s:dC X c (.aG m) x) (t:dC X c (.aG u) y) (k:m.length+u.length≤bz∧K (.aG (m++u))) (q:PV X c K Q):wpAny (M X) A (binaryOp .Add x y) Q bw c.s:=by
 obtain⟨p,v,z,h,z1,n⟩:=id s;obtain⟨g,w,i,e,z2,r⟩:=id t;cases v with
 |nil=>
  cases(n).Ah
  exact Mj h e (tuple_addW0 _ _ _ _ 0 0 none none #[] #[] rfl) ⟨h,e,q.here R t k.2⟩
 |cons j v=>cases w with
  |nil=>
   cases(r).Ah
   exact Mj h e (tuple_addW1 _ _ _ _ 0 0 none none #[] #[] (by simp) rfl) ⟨h,e,q.here R s (Xe m▸k.2)⟩
  |cons l w=>
   exact Mj h e (tuple_addW2 _ _ _ _ 0 0 none none #[] #[] (by simp) (by simp) (uA n r k.1)) ⟨h,e,by
    rw[ZZ]
    exact q.aG R (n.append r) (by rw[WO];exact D' k.1) k.2⟩
def HW (R:HR X c) (u:dC X c (.ap h) x) (v:dC X c (.ap e) y) (k:h.length+e.length≤bz∧K (.ap (h++e))) (q:PL X c K Q):wpAny (M X) A (binaryOp .Add x y) Q bw c.s:=
 bh.casesOn u fun p r=>dj.casesOn r fun n1 g ξ w ξ m=>bh.casesOn v fun i r=>dj.casesOn r fun n2 j ξ z ξ s=>P.add_list w z (by
  rw[ZZ]
  exact q.list R (m.append s) (by rw[WO];exact D' k.1) k.2 (t:=c.s.toks) (n:=0)) (uA m s k.1)
theorem Ea {h:ax} {n:Nat}:List.foldl (fun e k=>e++k) #[] (List.replicate (if h.toArray.isEmpty=true then 0 else n) h.toArray)=((List.replicate n h).flatten).toArray:=by
 rw[eI];cases h with
 |nil=>simp
 |cons x h=>simp
def HX (R:HR X c) (z:dC X c (.ap m) x) (i:dC X c (.int h) y) (k:(0≤h∧m.length*h.toNat≤bz∧h<2^63)∧K (.ap (List.replicate h.toNat m).flatten)) (q:PL X c K Q):wpAny (M X) A (binaryOp .Mult x y) Q bw c.s:=
 bh.casesOn z fun p r=>dj.casesOn r fun n1 s ξ e z1 v=>d8.casesOn i fun u=>by
  obtain⟨g,k⟩:=k;have w:=v.length;haveI l:bz=1000000:=rfl;haveI a:(if s.toArray.isEmpty=true then 0 else h.toNat)=0∨(if s.toArray.isEmpty=true then 0 else h.toNat)=h.toNat:=by split<;>simp
  refine wpAny_binaryOp_repeat_ref (T:="list") (U:="int") (aU aw) ⟨_,e,rfl⟩ (fun j=>typeIs_int j h u) noFill_list_mul F.fills_int_mul F.slot_int_rmul repeat_list F.slot_int_index.lookup
   (call_meets F.slot_int_rmul (typeIs_int c.s h u) F.entry_int_rmul (F.args_int_rmul_2 _ _) (int___rmul___int_list h u _ _ _)
    ⟨e,rfl,⟨_,e,rfl⟩,call_meets F.slot_list_mul ⟨_,e,rfl⟩ F.entry_list_mul (F.args_list_mul_2 _ _)
     (AutoListH.list___mul___list_int_3 _ _ _ h u (by simp[Builtin.List.listFitsIndex];exact(ar 0x5a80200a0280a0280a0280a0280a0280a82805300940200a0280a0280a0280a0280a0280a82dad401005014050140501405014050140541402800722c0be2803300804 [_] [_]) g) (by rw[XH,←w];exact(ar 0x22200fc7f2fcbf2fcbf2fcbf2fcbf2fcbf2dad401005014050140501405014050140541402800722c0be2803300804 [_] [_]) g) (by rw[XH,←w];simp[Builtin.List.listTooLong,sizeLine];exact(ar 0x80060280a02c0a00dad401005014050140501405014050140541402800722c0be2803300804 [_] [_]) g)) ⟨e,?_⟩⟩)
  rw[Ea];haveI:=q.list R (v.replicate h.toNat) (by rw[dX];unfold cV;exact(ar 0x800602a4a82bca00dad401005014050140501405014050140541402800722c0be2803300804 [_] [_]) g) k (t:=c.s.toks) (n:=0);simpa using this
def HY (k:Y1 (DA r a b) K) (R:HR X c) (e:dC X c a x) (m:dC X c b y) (q:PV X c (fun v=>K v∧v.ld=false) Q) (n:PL X c K Q):wpAny (M X) A (binaryOp (nQ r) x y) Q bw c.s:=by
 induction HT k using yA.casesOn with
 |int _ i j h=>exact d8.casesOn e fun t=>d8.casesOn m fun u=>HU h R fun k=>q.pX R (v:= .int _) ⟨_⟩ ⟨k,rfl⟩
 |aG p s h=>exact HV R e m ⟨h.1,h.2,rfl⟩ q
 |str z g h=>exact uu.casesOn e fun t=>uu.casesOn m fun u=>PyProof.Rows.add_str (fun w l=>q.pX R (v:= .str _) ⟨w⟩ ⟨h.2,rfl⟩) (WR h.1 (bM aw))
 |ap p s h=>exact HW R e m h n
 |VX p y h=>exact HX R e m h n
end
section
open Builtin.Slice
variable {c:Cf} {K:V→Prop} {Q:Value→Shared→Prop}
def eJ {n:Nat} (h:place n k=some j):seqIndex? k n=some j∧j<n∧ -(n:Int)≤k∧k<n:=by
 unfold place at h;by_cases x:0≤k
 ·rw[WY x] at h;by_cases e:k<n
  ·rw[WY e] at h;exact W7 h▸⟨seqIndex_of x e,by lia,by lia,e⟩
  ·rw[WX e] at h;exact bH h
 ·rw[WX x] at h;by_cases e:0≤k+n
  ·rw[WY e] at h;exact W7 h▸⟨seqIndex_neg (ZO.mp x) (by lia),by lia,by lia,by lia⟩
  ·rw[WX e] at h;exact bH h
def bK {h:Heap} (g:h.get? a=some (b5 e n)):h.IsList a e.toArray:=⟨_,g,rfl,n,rfl⟩
def ft (g:h.get? a=some (dA e n)):IsTup h a e.toArray:=⟨_,g,rfl,n,rfl⟩
def rW {E:Value→Shared→Prop} (g:s.heap.get? l=some (b5 e n)) (z:e.length≤cV)
  (m:place e.length k=some j) (r:e[j]?=some x) (h:Q x s):wpAny (M X) A (getItem (.ref l) (.int k t)) Q E s:=by
 obtain⟨-,v,q,u⟩:=eJ m;unfold cV at z;by_cases p:0≤k
 ·refine wpAny_getItem_list (bK g) p ((ar 0xa0080280a0280a0280a0280a0280a02a0a0151600805000c054950579401 [_] [_]) z u) ?_ h;haveI:j=k.toNat:=by unfold place at m;rw[WY p,WY u] at m;obtain rfl:=dL m;rfl
  rw[←this];simpa using r
 ·refine wpAny_getItem_list_neg (bK g) ((cU 0x50040091300804) p) (by simpa using q) ((ar 0x260128040140501405014050140501405015059804a5803000c054950579401 [_] [_]) z q) ?_ h;haveI:j=(k+e.length).toNat:=by unfold place at m;rw[WX p,WY ((ar 0x9c1600804024c0252c01 [_] [_]) q)] at m;obtain rfl:=dL m;rfl
  simp only[XH];rw[←this];simpa using r
inductive Hq (X:Cx) (h:Heap) (ow:Ow):Option V→Option Value→Prop
 |none:Hq X h ow none none
 |some (v:V) (x:Value) (r:VR X h ow v x):Hq X h ow (some v) (some x)
def qa (r:bZ X h p m (x.map (·.2))):Hq X h p (vw k (x.map (·.1)) m) (valueAt x k):=by
 induction x generalizing m with
 |nil=>exact .none
 |cons e x n=>cases m with
  |nil=>cases(r)
  |cons v m=>
   obtain⟨_,_,s,t⟩:=r;haveI n:=n t
   show Hq X h p (match iG e.1 k with|true=>some v|false=>vw k (x.map (·.1)) m) (valueAt (e::x) k);unfold valueAt at n⊢;rw[Yw];unfold iG;by_cases q:e.1=k
   ·rw[Xz q];exact .some _ _ s
   ·rwa[Xw q]
def qb: ∃h,subscripted slice false o i=operate h (getItem o i):=by
 induction slice using Expr.casesOn with
 |Slice l u s p=>induction s using Option.casesOn<;>exact⟨_,rfl⟩
 |_=>exact⟨_,rfl⟩
inductive GI (X:Cx) (A:Around) (s:Shared) (o i:Value) (Q:Value→Shared→Prop):Prop
 |mk (T id:String) (hT:s.TypeIs o T) (hl:typeLookup (.type T) "__getitem__"=pure (some (.builtin id))) (hg:wpAny (M X) A (getItem o i) Q bw s)
def Eb (g:GI X A s o i Q):wpAny (M X) A (subscriptTail e h o i) Q bw s:=
 (qb (slice:=h)).elim fun ξ x=>GI.casesOn g fun ξ ξ k m n=>tail_any k m n x
inductive PJ (K:V→Prop) (xs:aN) (n:Int):Prop
 |mk (j:Nat) (v:V) (hj:place xs.length n=some j) (hx:xs[j]?=some v) (k:K v)
def Mk (k:Y1 ((place h.length n).bind fun j=>h[j]?) K):PJ K h n:=by
 cases e:(place h.length n).bind fun j=>h[j]? with
 |none=>rw[e] at k;exact k.elim
 |some v=>rw[e] at k;exact(Option.bind_eq_some_iff.mp e).elim fun j q=>⟨j,v,q.1,q.2,k⟩
inductive Uj (X:Cx) (h:Heap) (ow:Ow) (K:V→Prop) (items:ax) (n:Int):Prop
 |mk (j:Nat) (v:V) (y:Value) (hj:place items.length n=some j) (hy:items[j]?=some y) (r:VR X h ow v y) (k:K v)
def Ec (x:bZ X h p m e) (k:Y1 ((place m.length n).bind fun j=>m[j]?) K):Uj X h p K e n:=
 PJ.casesOn (Mk k) fun j v r s k=>(x.get s).elim fun y q=>⟨j,v,y,x.length▸r,q.1,q.2,k⟩
inductive PK (K:V→Prop) (st:Str) (n:Int):Prop
 |mk (hl:st.length≤bz) (j:Nat) (c:Nat) (hj:place st.length n=some j) (hc:st.cps[j]?=some c) (k:K (.str ⟨#[c]⟩))
def Ml {st:Str} (k:Y1 (fK (.str st) (.int n)) K):PK K st n:=by
 change Y1 (if st.length≤bz then(place st.length n).bind fun j=>(st.cps[j]?).map fun c=>V.str ⟨#[c]⟩ else none) K at k;by_cases h:st.length≤bz
 ·rw[WY h] at k;cases e:(place st.length n).bind fun j=>(st.cps[j]?).map fun c=>V.str ⟨#[c]⟩ with
  |none=>rw[e] at k;exact k.elim
  |some v=>rw[e] at k;obtain⟨j,x,m⟩:=Option.bind_eq_some_iff.mp e;obtain⟨p,q,rfl⟩:=Xy.mp m;exact⟨h,j,p,x,q,k⟩
 ·rw[WX h] at k;exact k.elim
def HZ (k:Y1 (fK o i) K) (R:HR X c) (s:VT X c.s.heap c.ow o x) (J:dC X c i y) (q:PV X c K Q):wpAny (M X) A (subscriptTail w l x y) Q bw c.s:=by
 refine Eb ?_;cases i with
 |int n=>
  exact d8.casesOn J fun t=>by
   cases o with
   |aG L=>
    exact bh.casesOn s fun a r=>f8.casesOn r fun h ξ g z e=>Uj.casesOn (Ec e k) fun j v y p b d k=>by rw[e.length] at z;unfold cV at z;obtain⟨f,N,B,C⟩:=eJ p;exact⟨_,_,(ft g).typeIs,Zu.lookup,getItem_tuple (ft g) ((ar 0x260128040140501405014050140501405015059804a5803000c054950579401 [_] [_]) z B) ((ar 0xa0080280a0280a0280a0280a0280a02a0a0151600805000c054950579401 [_] [_]) z C) (by simpa using f) (by simpa using b) (q.here R d k)⟩
   |ap L=>
    exact bh.casesOn s fun a r=>dj.casesOn r fun m h ξ g z e=>Uj.casesOn (Ec e k) fun j v y p b d k=>⟨_,_,(bK g).typeIs,slot_list_getitem.lookup,rW g (e.length▸z) p b (q.here R d k)⟩
   |str st=>
    exact PK.casesOn (Ml k) fun D j cc p hc k=>uu.casesOn s fun u=>by
     obtain⟨f,N,B,C⟩:=eJ p;unfold bz at D;haveI O:(decide (n< -(2^63:Int))||decide (n≥2^63))=false:=by rw[X0];exact⟨Xw ((ar 0x8a280401405014050140501405014050150500a60129600c00391605f1401 [_] [_]) D B),Xw ((ar 0x226010080280a0280a0280a0280a0280a02a0b4580201400391605f1401 [_] [_]) D C)⟩
     exact⟨_,_,typeIs_str c.s st u,F.slot_str_getitem.lookup,PySem.P.getItem_str O (by rwa[f]) (q.pX R (v:= .str _) ⟨_⟩ k)⟩
   |eR H I=>
    exact bh.casesOn s fun a r=>il.casesOn r fun G e' ξ sy g U z e=>by
     haveI:=qa (k:=n) e;rw[U] at this;generalize Y:valueAt G n=vx at this;change Y1 (vw n H I) K at k;generalize vw n H I=lv at this k;induction this using Hq.casesOn with
     |none=>exact k.elim
     |some v x rx=>exact⟨_,_,g.dictOf.mapOf.typeIs,slot_dict_getitem.lookup,wpAny_getItem_of (k:=n) (Z6 X.prog X.w n t) g.dictOf.mapOf Y (q.pX R rx k)⟩
   |_=>exact k.elim
 |_=>exact k.elim
def PM (x:Int):(max 0 x).toNat=x.toNat:=by
 rcases Int.le_total 0 x with q|q
 ·rw[aam q]
 ·rw[Int.max_eq_left q,Int.toNat_of_nonpos q];rfl
def H1 (x:Int) (n:Nat) (h:0≤x):min x.toNat n=(min x (n:Int)).toNat:=by
 rcases Int.le_total x n with q|q
 ·rw[ZV q,Yb (Int.toNat_le.mpr q)]
 ·rw[Int.min_eq_right q,YU ((Int.le_toNat h).mpr q)];rfl
def Ed (n:Nat) (i:Int) (h:i<0):i+n≤n:=by haveI:=Int.add_le_add_right (Y5 h) n;rwa[Y4] at this
def vM (n:Nat) (i:Int):gQ n i=clipAt n i:=by
 unfold gQ clipAt;by_cases h:i<0
 ·rw[WY h,WY h,PM,ZV (Ed n i h)]
 ·rw[WX h,WX h,PM];exact H1 i n (Yx.mp h)
def qc {α:Type} (h:List α) (lo e:Option Int):hX h lo e=(h.drop (lo.elim 0 (clipAt h.length))).take (e.elim h.length (clipAt h.length)-lo.elim 0 (clipAt h.length)):=by unfold hX;induction lo using Option.casesOn<;>induction e using Option.casesOn<;>simp[vM]
def bZ.hX (r:bZ X h x k m) (lo e:Option Int):bZ X h x (hX k lo e) (hX m lo e):=by rw[qc,qc,r.length];exact(r.drop _).take _
def uB {α:Type} (h:List α) (lo e:Option Int):(hX h lo e).length≤h.length:=by rw[qc,Xg,WT];exact(bT 0x2020ca210883108401)
theorem mj {E:Value→Shared→Prop} {sl:Nat} {lo:Option Int} {Q:Int×Int×Nat→Shared→Prop} (j:s.heap.IsSliceOf sl y z .none) (l:IsPart y lo) (d:IsPart z m)
  (h:Q (((lo.elim 0 (clipAt n):Nat):Int),1,(m.elim n (clipAt n)-lo.elim 0 (clipAt n))) s):wpAny (M X) A (sliceApplied (.ref sl) (pure (n:Int))) Q E s:=by
 obtain⟨os,u,f,w⟩:=id j;have r: ∀{v:Value} {k:Option Int} {Q:Option Int→Shared→Prop},IsPart v k→Q k s→wpAny (M X) A (slicePartIndex v) Q E s:=fun p q=>by
  induction p using IsPart.casesOn with
  |none=>exact slicePart_none q
  |int i t=>exact slicePart_int q
 unfold sliceApplied sliceFields;refine WQ (WQ (aae u w (x:=y) rfl (WQ (aae u w (x:=z) rfl (WQ (aae u w (x:= .none) rfl (WV ?_)))))));refine WQ (slicePart_none ?_);show wpAny _ _ (if((1:Int)==0)=true then _ else _) _ _ s;rw[WX (by exact aU aw)];refine WQ (r l (WQ (r d (WQ (WV ?_)))));have g: ∀v:Int,(if v<0 then max (v+(n:Int)) 0 else min v (n:Int))=((clipAt n v:Nat):Int):=fun v=>by
  rw[clipAt_cast];by_cases h:v<0
  ·rw[WY h,WY h,ZV (Ed n v h)];exact Int.max_comm ..
  ·rw[WX h,WX h];exact(aam (Int.le_min.mpr ⟨Yx.mp h,YH n⟩)).symm
 haveI e:sliceAdjust lo m 1 (n:Int)=(((lo.elim 0 (clipAt n):Nat):Int),((m.elim n (clipAt n):Nat):Int)):=
  Prod.ext (match lo with
   |none=>rfl
   |some v=>g v) (match m with
   |none=>rfl
   |some v=>g v)
 show wpAny _ _ (match sliceAdjust lo m 1 (n:Int) with|(lo,m)=>pure (lo,(1:Int),slicePlaces lo m 1)) _ _ s;rw[e];haveI o: ∀a b:Nat,slicePlaces (a:Int) (b:Int) 1=b-a:=fun a b=>by
  show(if(a:Int)<b then((b:Int)-a-1)/1+1 else 0:Int).toNat=b-a;rw[Int.ediv_one];by_cases h:(a:Int)<b
  ·rw[WY h,Int.sub_add_cancel];exact Int.toNat_sub b a
  ·rw[WX h];exact(ZJ (Ye.mp (Yx.mp h))).symm
 show wpAny _ _ (pure (((lo.elim 0 (clipAt n):Nat):Int),(1:Int),slicePlaces ((lo.elim 0 (clipAt n):Nat):Int) ((m.elim n (clipAt n):Nat):Int) 1)) _ _ s;rw[o];exact WV h
def BR (h:Array Value) (a m:Nat):((List.range m).filterMap fun(k:Nat)=>h[((a:Int)+(k:Int)*1).toNat]?).toArray=((h.toList.drop a).take m).toArray:=by
 haveI e:(fun(k:Nat)=>h[((a:Int)+(k:Int)*1).toNat]?)=fun k=>h[a+k]?:=by
  funext k;haveI:((a:Int)+(k:Int)*1).toNat=a+k:=by rw[Int.mul_one];exact X9 (a+k)
  rw[this]
 rw[e];haveI:=pick_run h a m;rw[List.filterMap_map] at this;haveI n:((fun x=>h[x]?)∘fun x=>a+x)=fun k=>h[a+k]?:=rfl;rw[n] at this;rw[this]
@[reducible] def H2 (X : Cx) (A : Around) (Q : Value → Shared → Prop) (s : Shared) (E : Value → Shared → Prop) (t sl n : Nat) (items : ax) (x k : Value) (lo e : Option Int) : Prop := ∀ (g : s.heap.get? t = some (dA items n)) (p : s.heap.IsSliceOf sl x k .none) (q : IsPart x lo) (r : IsPart k e) (h0 : hX items lo e = items → Q (.ref t) s) (h : Q (.ref s.heap.objs.size) { s with heap := s.heap.push (dA (hX items lo e) 0) }) (m : items.length ≤ sizeLine), wpAny (M X) A (getItem (.ref t) (.ref sl)) Q E s
abbrev H3:List Type:=[Cx,Around,Value→Shared→Prop,Shared,Value→Shared→Prop,Nat,Nat,Nat,ax,Value,Value,Option Int,Option Int]
def PN:=eV H3 H2 ⟨vn,xR,nI,PA,nI,nI,nI,nI,nI,nI,nI,nI,nI,trivial⟩
theorem Uk:eU H3 H2 PN:=by
 injections PN X A Q s E t sl n e j l lo r;change H2 X A Q s E t sl n e j l lo r;intro g i b d p h u;have k:=ft g;obtain⟨os,v,w,f⟩:=id i;haveI y:s.TypeIs (.ref sl) "slice":=⟨os,v,w⟩;unfold getItem
 try with_reducible refine XE ?_
 first|refine WQ (WV ?_)|skip
 refine WQ (wpAny_sequenceKey k.typeIs (aU aw) ?_)
 refine WQ (Zx (name:=Str.ofString "__getitem__") k.typeIs Zu
  (wpAny_call_entry Zu k.typeIs entry_tuple_getitem ?_ (args_tuple_getitem _ _)))
 show wpAny _ _ (Builtin.Tuple.tupleItemsOf (.ref t)>>=_) _ _ s;refine WQ (tupleItemsOf_ k ?_);refine WQ (wpAny_typeOf y ?_);rw[WY (by exact aU aw)];refine WQ (mj (n:=e.toArray.size) i b d ?_);generalize o:lo.elim 0 (clipAt e.toArray.size)=a;generalize B:r.elim e.toArray.size (clipAt e.toArray.size)-a=m;have C:hX e lo r=(e.drop a).take m:=by rw[qc,←B,←o];simp
 rw[C] at h p;show wpAny _ _ (if((a:Int)==0&&(1:Int)==1&&m==e.toArray.size)=true then _ else _) _ _ s;by_cases q:((a:Int)==0&&(1:Int)==1&&m==e.toArray.size)=true
 ·rw[WY q];simp only[Xx,XJ,XH] at q;obtain⟨⟨D,-⟩,G⟩:=q;haveI z:a=0:=by exact(bC 0x4803006a022c01) D
  subst z G;haveI p:=p (by simp);refine WQ (m:=Builtin.Tuple.tupleIsExact (.ref t)) (WQ (wpAny_typeOf k.typeIs (WV ?_)));rw[WY (by exact aU aw)];exact WQ (Z7 (WV ⟨_,rfl,WV p⟩))
 ·rw[WX q,BR];haveI x:sizeOk (.seq ((e.drop a).take m).toArray):=by
   show((e.drop a).take m).toArray.size≤sizeLine;rw[XH,Xg,WT];exact(bT 0x80060280a02c0b2888200843000c050140581401) u
  first
   |exact WQ (m:=Builtin.Tuple.tupleExact _) (XV (WV ⟨_,rfl,WV h⟩) x)
   |exact WQ (m:=Builtin.Tuple.tupleExact _) (XV (WQ (WV (WV ⟨_,rfl,WV h⟩))) x)
   |exact WQ (WQ (m:=Builtin.Tuple.tupleExact _) (XV (WV (WV ⟨_,rfl,WV h⟩)) x))
   |exact WQ (WQ (m:=Builtin.Tuple.tupleExact _) (XV (WV ⟨_,rfl,WV h⟩) x))
def lA:eB H3 H2:=eA H3 Uk
end
section
open Builtin.Slice
variable {K:V→Prop}
def VO (X:Cx) (c:Cf) (o:Option V) (x:Value):Prop:=match o with
 |none=>x= .none
 |some v=>dC X c v x
def VO.go (g:Go X W c h) (r:VO X c o x):VO X h o x:=by
 cases o with
 |none=>exact r
 |some v=>exact VR.go g r
def gX (e:g9 o=some k) (r:VO X c o x):IsPart x k:=by
 cases o with
 |none=>exact W7 e▸(show x=_ from r)▸ .none
 |some v=>
  cases v with
  |int i=>
   change(if i.natAbs<bz then some (some i) else none)=some k at e;split at e
   ·exact W7 e▸d8.casesOn r fun t=> .int _ _
   ·exact bH e
  |_=>exact bH e
inductive H4 (K:V→Prop) (a b:Option V):V→Prop
 |aG (xs:aN) (ka kb:Option Int) (ea:g9 a=some ka) (eb:g9 b=some kb) (k:K (.aG (hX xs ka kb))):H4 K a b (.aG xs)
 |ap (xs:aN) (ka kb:Option Int) (ea:g9 a=some ka) (eb:g9 b=some kb) (k:K (.ap (hX xs ka kb))):H4 K a b (.ap xs)
def Mm (k:Y1 (dz o a b) K):H4 K a b o:=by
 unfold dz at k;cases h:g9 a with
 |none=>rw[h] at k;exact k.elim
 |some m=>cases e:g9 b with
  |none=>rw[h,e] at k;exact k.elim
  |some n=>
   rw[h,e] at k;cases o with
   |aG x=>exact .aG _ _ _ h e k
   |ap x=>exact .ap _ _ _ h e k
   |_=>exact k.elim
def qd:cV≤sizeLine:=by rw[aaf];exact bM aw
def bZ.sz (r:bZ X h k e x) (z:e.length≤cV):x.toArray.size≤sizeLine:=by rw[XH,←r.length];exact WR z qd
def BS {sl:Nat} (k:Y1 (dz o a b) K) (R:HR X c) (G:VT X c.s.heap c.ow o x) (B:c.s.heap.IsSliceOf sl l u .none) (C:VO X c a l) (D:VO X c b u) (H: ∀s,o= .aG s→dC X c o x) (q:PV X c K Q) (I:PL X c K Q):
  wpAny (M X) A (subscriptTail i j x (.ref sl)) Q bw c.s:=by
 refine Eb ?_;induction Mm k using H4.casesOn with
 |aG s m p d f y=>
  exact bh.casesOn (show bh (f8 c.s.heap c.ow s.length (dk X c s)) x from H s rfl) fun t r=>f8.casesOn r fun e J g z w=>
   ⟨_,_,(ft g).typeIs,Zu.lookup,lA g B (gX d C) (gX f D) (fun h=>q.here R (v:= .aG (hX s m p)) ⟨t,e,J,g,WR (uB _ _ _) z,h▸w.hX m p⟩ y)
    (q.aG R (w.hX m p) (WR (uB _ _ _) z) y) (w.sz z)⟩
 |ap s m p d f y=>
  exact bh.casesOn G fun t r=>dj.casesOn r fun n e ξ g z w=>
   ⟨_,_,(bK g).typeIs,slot_list_getitem.lookup,wpAny_getItem_list_slice (bK g) B (gX d C) (gX f D) .none nofun (by
    rw[slicePick_plain];haveI L:((e.toArray.toList.drop (m.elim 0 (clipAt e.toArray.size))).take (p.elim e.toArray.size (clipAt e.toArray.size)-m.elim 0 (clipAt e.toArray.size)))=hX e m p:=(qc e m p).symm;rw[L]
    exact I.list R (w.hX m p) (WR (uB _ _ _) z) y (t:=c.s.toks)) (w.sz z)⟩
def H5 {sl:Nat} (k:Y1 (O9 o) K) (R:HR X c) (s:VT X c.s.heap c.ow o x) (u:c.s.heap.IsSliceOf sl .none .none (.int (-1) t)) (v:PL X c K Q):wpAny (M X) A (subscriptTail h e x (.ref sl)) Q bw c.s:=by
 refine Eb ?_;cases o with
 |ap w=>
  exact bh.casesOn s fun p r=>dj.casesOn r fun n m ξ g z q=>
   ⟨_,_,(bK g).typeIs,slot_list_getitem.lookup,wpAny_getItem_list_slice (bK g) u .none .none (.int (-1) t) nofun (by
    rw[krv_pick]
    exact v.list R q.reverse (by rwa[Xi]) k (t:=c.s.toks)) (q.sz z)⟩
 |_=>exact k.elim
end
section
variable {X:Cx} {A:Around} {c:Cf} {K:V→Prop} {eX:List (Nat×V)}
inductive vN (X:Cx) (c:Nat) (x:Str):Option V→Prop
 |none (h:findIn X.K (.ref c) x=some none):vN X c x none
 |bI (f:Nat) (h:findIn X.K (.ref c) x=some (some (.ref f))) (fn:isFn X.K (.ref f)=true) (kp:keepIn X.K (.ref f)=true):vN X c x (some (.bI f))
 |int (i:Int) (t:Tok) (h:findIn X.K (.ref c) x=some (some (.int i t))):vN X c x (some (.int i))
structure uC (X:Cx) (c:Nat) (x:Str) (o:Option V):Prop where
 Mn:copiedNames.contains x=false
 PO:takerIn X.K c x=some none
 val:vN X c x o
structure Ee (X:Cx) (c:Nat) (eX:List (Nat×V)):Prop where
 hasDict:hasDictIn X.K c=true
 ga:findIn X.K (.ref c) "__getattribute__"=some (some (.builtin "object.__getattribute__"))
 Ul:findIn X.K (.ref c) "__getattr__"=some none
 sa:findIn X.K (.ref c) "__setattr__"=some (some (.builtin "object.__setattr__"))
 Ef:plainOver X.K c=true
 ai: ∀n x,X.fj[n]?=some x→uC X c x (eX.lookup n)
structure Sys (X:Cx):Prop where
 sys: ∃o,X.hb.get? sysModules=some o
 kin:X.K.In X.hb
 nodup:X.fj.Nodup
 cls: ∀c eX,X.P.cls c=some eX→Ee X c eX
def HR.kin (S:Sys X) (R:HR X c):X.K.In c.s.heap:=fun a o e=>(R.im a o (S.kin a o e)).1
def HR.Eg (S:Sys X) (R:HR X c) (h:c.s.heap.get? a=none):a≠sysModules:=fun e=>by obtain⟨o,x⟩:=S.sys;haveI:=(R.im _ _ x).1;rw[←e,h] at this;exact bH this
def sN {K:Frag}:specialIn K (.int i t) "__get__"=some none:=by unfold specialIn;rw[show typeIn K (.int i t)=some (.type "int") from rfl];exact(by kernel_rfl:fastLookup "int" (Str.ofString "__get__")=some none)
def Eh (r:bZ X h k e x):Hq X h k (lk n ns e) (DV n ns x):=by
 induction ns generalizing e x with
 |nil=>exact .none
 |cons m ns p=>cases e with
  |nil=>exact bZ.gV r .none
  |cons v e=>
   obtain⟨y,x,a,b⟩:=r
   show Hq X h k (match Nat.beq m n with|true=>some v|false=>lk n ns e) (match Nat.beq m n with|true=>some y|false=>DV n ns x);cases Nat.beq m n with
   |true=>exact .some _ _ a
   |false=>exact p b
def bh.handed (r:bh P y):handedIn y=true:=bh.casesOn r fun ξ ξ=>rfl
def handed (r:VR X h e v y):handedIn y=true:=by
 induction v using V.casesOn with
 |bi b=>rw[show y=_ from r];induction b using BI.casesOn<;>decide+kernel
 |none=>rw[show y=_ from r];rfl
 |bool b=>rw[show y=_ from r];rfl
 |ref b=>rw[show y=_ from r];rfl
 |bI b=>rw[show y=_ from r];rfl
 |ty b=>rw[show y=_ from r];rfl
 |int i=>exact d8.casesOn r fun ξ=>rfl
 |str i=>exact uu.casesOn r fun ξ=>rfl
 |bytes b=>exact rV.casesOn r fun ξ ξ ξ ξ=>rfl
 |_=>exact bh.handed r
inductive PP (P:dO) (c:Nat) (ns:aL) (vs:aN) (n:Nat) (K:V→Prop):Prop
 |own (eX:List (Nat×V)) (w:V) (hc:P.cls c=some eX) (hl:lk n ns vs=some w) (hno:vy (eX.lookup n)=false) (k:K w)
 |cls (eX:List (Nat×V)) (i:Int) (hc:P.cls c=some eX) (hl:lk n ns vs=none) (ha:eX.lookup n=some (.int i)) (k:K (.int i))
def H6 (k:Y1 (pi P p q r n) K):PP P p q r n K:=by
 unfold pi at k;cases x:P.cls p with
 |none=>rw[x] at k;exact k.elim
 |some eX=>
  rw[x] at k;cases m:lk n q r with
  |some w=>
   rw[m] at k
   change Y1 (match vy (eX.lookup n) with|true=>none|false=>some w) K at k;cases h:vy (eX.lookup n) with
   |true=>exact False.elim (by rw[h] at k;exact k)
   |false=>exact .own eX w x m h (by rw[h] at k;exact k)
  |none=>
   rw[m] at k
   change Y1 (match eX.lookup n with|some (.int i)=>some (V.int i)|_=>none) K at k;cases e:eX.lookup n with
   |none=>exact False.elim (by rw[e] at k;exact k)
   |some z=>
    rw[e] at k;cases z with
    |int i=>exact .cls eX i x m e k
    |_=>exact k.elim
def Ei (r:Hq X h e (some v) o): ∃x,o=some x∧VR X h e v x:=match r with| .some _ x r=>⟨x,rfl,r⟩
def vO (r:Hq X h e none o):o=none:=match r with| .none=>rfl
def Ej {c:Nat} (v:vN X c x o) (h:vy o=false): ∃e,findIn X.K (.ref c) x=some e∧PySem.W.noGet X.K e=true:=by
 induction v using vN.casesOn with
 |none k=>exact⟨_,k,rfl⟩
 |bI f=>exact Hj h
 |int i t k=>exact⟨_,k,show(specialIn X.K _ "__get__"==some none)=true by rw[sN];rfl⟩
def Mo {c:Nat} (v:vN X c x (some (.int i))): ∃t,findIn X.K (.ref c) x=some (some (.int i t)):=match v with| .int _ t h=>⟨t,h⟩
def vP (S:Sys X) (e:X.fj[n]?=some x) (k:Y1 (pi X.P h m f n) K) (R:HR X c) (o:VT X c.s.heap c.ow (.inst h m f) y) (q:PV X c K Q):
  wpAny (M X) A (PySem.getAttr y x j) Q bw c.s:=
 bh.casesOn o fun a r=>jH.casesOn r fun B D G ys ξ ξ g H F J=>by
  have I:InstAt c.s.heap a (eW h B) h (some (dictOf D G)):=⟨g,rfl,rfl,H⟩;have Fn:=F.eX n x e;have L:=Eh (n:=n) (ns:=m) J;induction H6 k using PP.casesOn with
  |own eX w p s u k=>have C:=S.cls h eX p;rw[s] at L;obtain⟨y,N,l⟩:=Ei L;obtain⟨b,O,U⟩:=Ej (C.ai n x e).val u;exact get_value (R.kin S) I C.ga (findObj_own C.hasDict O U (Fn.trans (W4 _ N))) (handed l) (q.pX R l k)
  |cls eX i p s z k=>have C:=S.cls h eX p;rw[s] at L;have T:=C.ai n x e;haveI d:=T.val;rw[z] at d;obtain⟨t,Y⟩:=Mo d;exact get_value (R.kin S) I C.ga (findObj_cls C.hasDict Y sN rfl T.Mn (Fn.trans (W4 _ (vO L)))) rfl (q.pX R (v:= .int i) ⟨t⟩ k)
theorem sO: ∀{k:List DictEntry},(∀e∈k,∃x t,e.key= .str x t)→ ∀e∈putL name hsh (.str name t) v k,∃x t,e.key= .str x t
 |[],_,e,m=>by simp only[putL,WZ] at m;subst m;exact⟨_,_,rfl⟩
 |a::k,h,e,m=>by
  unfold putL at m;split at m
  ·rcases Xa.mp m with rfl|m
   ·exact h a (.head _)
   ·exact h e (.tail _ m)
  ·rcases Xa.mp m with rfl|m
   ·exact h _ (.head _)
   ·exact sO (fun e n=>h e (.tail _ n)) e m
def kt {y:Str}:(Value.str x t).isStr y=true↔x=y:=by show(x==y)=true↔_;exact XJ
theorem jK: ∀{e:List DictEntry},(putL name x (.str name t) v e).find? (·.key.isStr name)=some ⟨((e.find? (·.key.isStr name)).map (·.hash)).getD x,((e.find? (·.key.isStr name)).map (·.key)).getD (.str name t),v⟩
 |[]=>by haveI:(Value.str name t).isStr name=true:=kt.mpr rfl;simp[putL,Yw,this]
 |a::e=>by
  unfold putL;cases h:a.key.isStr name with
  |true=>simp[Yw,h]
  |false=>simp only[Y8,if_false,Yw,h];exact jK
set_option tactic.hygienic true in
theorem ml (e:x≠name): ∀{k:List DictEntry},((putL name m (.str name t) v k).find? (·.key.isStr x)).map (·.val)=(k.find? (·.key.isStr x)).map (·.val)
 |[]=>by
  haveI:(Value.str name t).isStr x=false:=by
   cases q:(Value.str name t).isStr x with
   |false=>rfl
   |true=>exact absurd (kt.mp q).symm e
  simp[putL,Yw,this]
 |a::k=>by
  unfold putL;cases h:a.key.isStr name with
  |true=>
   simp only[if_true,Yw];cases q:a.key.isStr x with
   |false=>rfl
   |true=>
    exfalso;induction n:a.key using Value.casesOn<;>rw[n] at h q<;>first|(exact dh h;done)|skip
    rename_i y u;exact e ((kt.mp q).symm.trans (kt.mp h))
  |false=>
   simp only[Y8,if_false,Yw];cases q:a.key.isStr x with
   |false=>exact ml e
   |true=>rfl
def Ek {x:Str} (r: ∀e∈k,∃x t,e.key= .str x t) (s: ∀e∈n,∃x t,e.key= .str x t) (h:(n.find? (·.key.isStr x)).map (·.val)=(k.find? (·.key.isStr x)).map (·.val)):getL x n=getL x k:=by
 have p: ∀{k:List DictEntry},(∀e∈k,∃x t,e.key= .str x t)→getL x k=some ((k.find? (·.key.isStr x)).map (·.val)):=fun{k} r=>by
  haveI u:k.any (·.refKey)=false:=by rw[ZD];intro e m q;obtain⟨x,t,v⟩:=r e m;unfold DictEntry.refKey at q;rw[v] at q;exact dh q
  unfold getL;split
  ·rename_i e;rw[e];rfl
  ·rename_i e;rw[e,u];rfl
 rw[p r,p s,h]
theorem jL: ∀{es:List DictEntry},(putL name hsh (.str name t) v es).length=if es.any (·.key.isStr name) then es.length else es.length+1
 |[]=>rfl
 |a::es=>by
  unfold putL;cases h:a.key.isStr name with
  |true=>simp[h]
  |false=>simp only[Y8,if_false,W0,jL (es:=es),YA,h,aaj];split<;>rfl
theorem vQ {α:Type} {p:α→Bool}: ∀l:List α,l.any p=(l.find? p).isSome
 |[]=>rfl
 |a::l=>by rw[YA,Yw,vQ l];induction p a using Bool.casesOn<;>rfl
def sP {α:Type} {l:List α} (h:l.Nodup) {j:Nat} (x:i<l.length) (k:j<l.length) (e:l[i]=l[j]):i=j:=by
 have h:=List.pairwise_iff_getElem.mp h;rcases Nat.lt_trichotomy i j with q|q|q
 ·exact absurd e (h i j x k q)
 ·exact q
 ·exact absurd e.symm (h j i k x q)
@[reducible] def H7 (X : Cx) (A : Around) (eX : List (Nat × V)) (p c n : Nat) (x : Str) (r : Tok) (z : Value) (m : List DictEntry) (k : Nat) (s : Shared) (R : Result → Shared → Prop) : Prop := ∀ (u : X.K.In s.heap) (C : Ee X c eX) (T : takerIn X.K c x = some none) (g : s.heap.get? p = some (eW c n)) (v : s.heap.get? n = some (dictOf m k)) (w : ∀ e ∈ m, ∃ x t, e.key = .str x t) (y : m.length ≤ 100) (h : ∀ q, q.get? n = some (dictOf (putL x (PyData.keyHash X.w.params x) (.str x s.toks) z m) (putN x m k)) → Heap.SameBut n s.heap q → R (.ok (.ret .none)) { s with heap := q, toks := s.toks + 1 }), codeAny (M X) A (.call (.builtin "object.__setattr__") ⟨[.ref p, .str x r, z], []⟩) R s
abbrev Mq:List Type:=[Cx,Around,List (Nat×V),Nat,Nat,Nat,Str,Tok,Value,List DictEntry,Nat,Shared,Result→Shared→Prop]
def PQ:=eV Mq H7 ⟨vn,xR,nI,nI,nI,nI,nI,nI,nI,nI,nI,PA,nI,trivial⟩
def Um:eU Mq H7 PQ:=by
 injections PQ X A eX p c u x o z n k s R;change H7 X A eX p c u x o z n k s R;intro w C T g i B L h;haveI I:InstAt s.heap p (eW c u) c (some (dictOf n k)):=⟨g,rfl,rfl,i⟩;refine osa_open w I C.Ef T fun b=>?_;obtain⟨N,j,l⟩:=any_some C.hasDict;refine WQ (WV (WQ (WQ (wpAny_loadPart g (WQ ((looks_clsIn w j).here ?_))))));rw[l];refine WV (a:=some u) (WQ (WV (WQ ?_)));unfold nsSet;refine WQ (WQ (wpAny_askSetting (WV (WQ (wpAny_mkText (WQ (wpAny_loadPart i ?_)))))));dsimp only;haveI D:n.any (·.refKey)=false:=by rw[ZD];intro e m q;obtain⟨x,t,G⟩:=B e m;unfold DictEntry.refKey at q;rw[G] at q;exact dh q
 haveI d:(!n.toArray.any (·.key.isStr x)&&n.toArray.any (·.refKey))=false:=by
  haveI H:n.toArray.any (·.refKey)=n.any (·.refKey):=by rw[←Array.any_toList]
  rw[H,D,Bool.and_false]
 rw[aRefKeyMayBeTheName_at,d];refine wpAny_updatePart i ?_;have f:Obj.putName x (PyData.keyHash X.w.params x) (.str x s.toks) z (dictOf n k)=dictOf (putL x (PyData.keyHash X.w.params x) (.str x s.toks) z n) (putN x n k):=putName_dict ..;haveI r:=jL (name:=x) (hsh:=PyData.keyHash X.w.params x) (t:=s.toks) (v:=z) (es:=n);have y:(s.heap.update u (Obj.putName x (PyData.keyHash X.w.params x) (.str x s.toks) z)).get? u=some (dictOf (putL x (PyData.keyHash X.w.params x) (.str x s.toks) z n) (putN x n k)):=by rw[ZK _ i (by rw[f];rfl),f]
 refine WQ (wpAny_lookBehind y (pastItsLine_dict (by rw[XH,r,aaf];split<;>lia)) ?_);exact WV (h _ y (Zp ..))
def Un:Prop:= ∀⦃X A eX p c h x e z m k s R⦄,H7 X A eX p c h x e z m k s R
def BU:Un:=eA Mq Um
def yB (h:m≠n):Nat.beq m n=false:=by
 cases q:Nat.beq m n with
 |false=>rfl
 |true=>exact absurd (ZI q) h
def sQ:DV k (m::h) (z::e)=match Nat.beq m k with|true=>some z|false=>DV k h e:=rfl
inductive Ms (X:Cx) (h:Heap) (ow:Ow) (n:Nat) (y:Value) (ns:aL) (ys:ax) (K:aL→aN→Prop):Prop
 |mk (ns':aL) (vs':aN) (ys':ax) (k:K ns' vs') (r:bZ X h ow vs' ys') (eX: ∀m,DV m ns' ys'=if n=m then some y else DV m ns ys) (len:ys'.length=ns'.length) (le:ns.length≤ns'.length) (new:DV n ns ys=none→ns'.length=ns.length+1) (up:ns'.length≤ns.length+1)
def H8 (l:VR X h d v y) {K:aL→aN→Prop} (r:bZ X h d s t) (u:t.length=x.length) (p:vl n v x s K):Ms X h d n y x t K:=by
 induction x generalizing s t K with
 |nil=>
  cases YC.mp u
  refine⟨[n],[v],[y],p,.one l,fun m=>?_,rfl,W8 _,fun ξ=>rfl,Xl _⟩
  show(match Nat.beq n m with|true=>some y|false=>none)=_;by_cases q:n=m
  ·rw[←q,Zm,WY rfl]
  ·rw[WX q,yB q];rfl
 |cons m x o=>cases s with
  |nil=>cases t with
   |nil=>cases(u)
   |cons _ _=>cases(r)
  |cons w s=>
   obtain⟨z,t,B,f⟩:=r
   change(match Nat.beq m n with|true=>K (m::x) (v::s)|false=>vl n v x s fun a b=>K (m::a) (w::b)) at p;replace u:t.length=x.length:=Y7 u;cases q:Nat.beq m n with
   |true=>
    rw[q] at p;refine⟨m::x,v::s,y::t,p,.cons l f,fun k=>?_,W4 _ u,Xl _,fun h=>?_,YF _⟩
    ·rw[sQ,sQ,←ZI q];by_cases e:m=k
     ·rw[←e,Zm,WY rfl]
     ·rw[WX e,yB e]
    ·rw[sQ,q] at h;exact ph h
   |false=>
    rw[q] at p;exact Ms.casesOn (o f u p) fun g i j C D G H I J L=>
     ⟨m::g,w::i,z::j,C,.cons B D,fun k=>by
      rw[sQ,sQ,G];by_cases e:m=k
      ·rw[←e,Zm];exact(WX fun e=>Nat.ne_of_beq_eq_false q e.symm).symm
      ·rw[yB e],W4 _ H,XK I,fun h=>W4 _ (J (by rw[sQ,q] at h;exact h)),XK L⟩
end
section
variable {X:Cx} {A:Around} {c:Cf}
def uE {K:Nat→aL→aN→Prop} (h:Yi o K): ∃e x k,o=some (.inst e x k)∧K e x k:=by
 cases o with
 |none=>exact h.elim
 |some o=>induction o using Ob.casesOn with
  |inst e x k=>exact⟨e,x,k,rfl,h⟩
  |_=>exact h.elim
def BV (h:getL x k=some (some y)):(k.find? (·.key.isStr x)).isSome=true:=by
 unfold getL at h;cases e:k.find? (·.key.isStr x) with
 |some _=>rfl
 |none=>rw[e] at h;dsimp only at h;split at h<;>(first|exact bH h|cases(h))
@[reducible] def H9 (X : Cx) (A : Around) (c : Cf) (a n : Nat) (x : Str) (v : V) (z : Value) (k : Kt) (st : aN) (m : Fr) (Qp : cy) (Q : Unit → Shared → Prop) : Prop := ∀ (S : Sys X) (p : X.fj[n]? = some x) (h : Yi (an c.H a) (rF n v a k st m c.H Qp)) (R : HR X c) (r : dC X c v z) (q : ∀ e, Go X cS c e → e.ow = c.ow → k st m e.H Qp → Q () e.s), wpAny (M X) A (PySem.setAttr (.ref a) x z) Q bw c.s
abbrev Mt:List Type:=[Cx,Around,Cf,Nat,Nat,Str,V,Value,Kt,aN,Fr,cy,Unit→Shared→Prop]
def PR:=eV Mt H9 ⟨vn,xR,yw,nI,nI,nI,nV,nI,nI,nI,K4,nI,nI,trivial⟩
def Uo:eU Mt H9 PR:=by
 injections PR X A c a n x v z k st fr Qp Q;change H9 X A c a n x v z k st fr Qp Q;intro S B h R rv q;obtain⟨i,ns,vs,e,j,p⟩:=uE h;have O:=R.vI a _ e;obtain⟨G,hc⟩:=Option.isSome_iff_exists.mp O.cl;have C:=S.cls i G hc;have T:=C.ai n x B;refine jH.casesOn O.eX fun l D kk ys ξ ξ g H F rs=>?_;have od:=O.K8 i l g;have Fl:=F.len;haveI I:InstAt c.s.heap a (eW i l) i (some (dictOf D kk)):=⟨g,rfl,rfl,H⟩
 refine set_plain (R.kin S) I C.sa (BU (s:={c.s with toks:=c.s.toks+1}) (R.kin S) C T.PO g H F.key ((bT 0x20418ca00dad208441870612843008401) Fl) fun J d L=>?_);have gp:J.get? a=some (eW i l):=(L.2 _ fun e=>nomatch (e▸g).symm.trans H).trans g;have kp: ∀b r,c.s.heap.get? b=some r→c.ow b≠some a→J.get? b=some r:=fun b r e n=>(L.2 _ fun w=>n ((W4 c.ow w).trans od)).trans e;refine Ms.casesOn (H8 rv rs Fl.2.2 p) fun f N U p1 p2 p3 p4 p5 p6 p7=>?_;have o:=sO (name:=x) (hsh:=PyData.keyHash X.w.params x) (t:=c.s.toks+1) (v:=z) F.key;have ln:(putL x (PyData.keyHash X.w.params x) (.str x (c.s.toks+1)) z D).length≤f.length:=by
  rw[jL,vQ D];cases q:D.find? (·.key.isStr x) with
  |some w=>exact WR Fl.1 p5
  |none=>
   haveI:DV n ns ys=none:=by
    cases w:DV n ns ys with
    |none=>rfl
    |some y=>exact nomatch q▸BV ((F.eX n x B).trans (W4 _ w))
   rw[p6 this];exact XK Fl.1
 haveI ro:OR X J c.ow a (.inst i f N):=by
  refine⟨O.own,⟨l,_,_,U,rfl,rfl,gp,d,⟨fun m xm Y=>?_,⟨ln,by exact(br 0x21c184a10c201180210c78309401) j p7,p4⟩,o⟩,p2.keep fun b r e n=>⟨kp b r e (by rw[n];exact nofun),n⟩⟩,fun c2 d2 e=>?_,O.cl⟩
  ·rw[p3];by_cases u:n=m
   ·subst u;cases B.symm.trans Y
    rw[WY rfl];unfold getL;rw[jK]
   ·haveI ha:xm≠x:=fun q=>u (by
     subst q;obtain⟨l1,e1⟩:=Xf.mp Y;obtain⟨l2,e2⟩:=Xf.mp B
     exact(sP S.nodup l1 l2 (e1.trans e2.symm)).symm)
    rw[WX u,Ek F.key o (ml ha)];exact F.eX m xm Y
  ·exact W7 (W4 Obj.dict (W7 (gp.symm.trans e)))▸od
 refine q _ (Go.vl R e kp (fun b r=>?_) ro (t:=c.s.toks+1+1)) rfl p1;by_cases w:b=l
 ·exact⟨_,w▸d⟩
 ·exact(R.live b a r).1.elim fun o1 x1=>⟨o1,(L.2 _ w).trans x1⟩
def Up:Prop:= ∀⦃X A c a n x v z k st h Qp Q⦄,H9 X A c a n x v z k st h Qp Q
def vR:Up:=eA Mt Uo
end
section
variable {X:Cx} {c:Cf}
theorem mn {k:Int} {t:Tok} {n:Nat} {B:Bool} (h: -(n:Int)≤k∧k<n) (z:n≤cV):Builtin.List.listFitsIndex k=true:=by
 unfold cV at z;by_cases e:0≤k
 ·exact fitsIndex_of e (by exact(ar 0xa0080280a0280a0280a0280a0280a02a0a01400301525415e5006d45802014c0252c01 [_] [_]) h z)
 ·exact fitsIndex_neg (by exact(cU 0x50040091300804) e) (by exact(ar 0x1300940200a0280a0280a0280a0280a0280a82c00301525415e5006d45802014c0252c01 [_] [_]) h z)
theorem rX {l n j:Nat} {k:Int} {Q:Unit→Shared→Prop} {E:Value→Shared→Prop} (g:s.heap.get? l=some (b5 e n)) (z:e.length≤cV)
  (b:place e.length k=some j) (h: ∀m,m.get? l=some (b5 (e.set j v) n)→Heap.SameBut l s.heap m→Q () {s with heap:=m}):wpAny (M X) A (setItem (.ref l) (.int k t) v) Q E s:=by
 obtain⟨x,G,d,w⟩:=eJ b;have p:=bK g;have hd:(b5 e n).data= .seq e.toArray n:=rfl;haveI o: ∀H:Option Value→Shared→Prop,True:=fun ξ=>trivial;unfold setItem
 try with_reducible refine XE ?_
 first|refine WQ (WV ?_)|skip
 refine WQ (wpAny_sequenceKey p.typeIs (aU aw) ?_)
 refine WQ (Zx (name:=Str.ofString "__setitem__") p.typeIs slot_list_setitem
  (wpAny_call_entry slot_list_setitem p.typeIs entry_list_setitem ?_ (args_list_setitem _ _ _)))
 show wpAny _ _ (Builtin.List.listSubscript? (.int k t)>>=_) _ _ s;refine WQ (wpAny_listSubscript_int (mn (t:=t) (B:=true) ⟨d,w⟩ z) ?_);refine WQ (Xu (Q:=fun r q=>r=some (j,e[j])∧q=s) (E:=fun ξ ξ=>False) ?_ (fun r q C=>?_) fun ξ ξ f=>f.elim)
 ·have y:e.toArray[j]?=some e[j]:=by simp
  by_cases u:0≤k
  ·obtain⟨i,rfl⟩:=Int.eq_ofNat_of_zero_le u;obtain rfl:i=j:=by rw[seqIndex_of u w] at x;simpa using x
   exact WQ (wpAny_seqItemAt g hd (WV ⟨W4 (Option.map _) y,rfl⟩))
  ·induction k using Int.casesOn with
   |ofNat n=>exact absurd (YH n) u
   |negSucc i=>refine WQ ?_;show wpAny _ _ (seqItems? (.ref l)>>=_) _ _ s;refine WQ (Z8 g hd (WV (WV ⟨?_,rfl⟩)));rw[XH,x];exact W4 (Option.map _) y
 ·obtain⟨rfl,rfl⟩:=C;show wpAny _ _ (setSeqItemAt l j v>>=_) _ _ _;haveI D:(q.heap.update l (Obj.mapSeq fun a=>a.setIfInBounds j v)).get? l=some (b5 (e.set j v) n):=by
   rw[ZK _ g (by rfl)];simp[Obj.mapSeq]
  exact WQ (wpAny_setSeqItemAt g hd (WV ⟨.none,rfl,WV (h _ D (Zp ..))⟩))
def yC {f:Array Value→Array Value} (g:h.get? l=some (b5 e n)):
  ∃x,(h.update l (Obj.mapSeq f)).get? l=some (b5 (f e.toArray).toList x)∧Heap.SameBut l h (h.update l (Obj.mapSeq f)):=by
 haveI k:=ZK (Obj.mapSeq f) g (by rfl);haveI m:Obj.mapSeq f (b5 e n)=b5 (f e.toArray).toList (if(f e.toArray).size==e.toArray.size then n else n+1):=by simp only[Obj.mapSeq,ZS]
 exact⟨_,k.trans (by rw[m]),Zp ..⟩
theorem Go.Ia (R:HR X c) {a:Nat} {u x:aN} (e:an c.H a=some (.list u)) {m:Heap} {t q:Nat} {h:ax} (p:m.get? a=some (b5 h q)) (r:Heap.SameBut a c.s.heap m) (v:dk X c x h) (z:x.length≤cV):
  Go X cS c ⟨c.ow,{c.s with heap:=m,toks:=t},cz c.H a (.list x)⟩:=by
 have O:=R.vI a _ e;have s: ∀b k,c.s.heap.get? b=some k→c.ow b≠some a→m.get? b=some k:=fun b k e n=>(r.2 _ fun w=>n (by rw[w];exact O.own)).trans e;refine Go.vl R e s (fun b k=>?_) ⟨O.own,⟨q,h,rfl,p,z,v.keep fun b k e n=>⟨s b k e (by rw[n];exact nofun),n⟩⟩,(fun i j e=>nomatch p.symm.trans e),trivial⟩;by_cases w:b=a
 ·exact⟨_,w▸p⟩
 ·exact(R.live b a k).1.elim fun y g=>⟨y,(r.2 _ w).trans g⟩
inductive El (X:Cx) (c:Cf) (xs:aN) (a:Nat):Prop
 |mk (n:Nat) (items:ax) (g:c.s.heap.get? a=some (b5 items n)) (z:xs.length≤cV) (r:dk X c xs items)
def uF (R:HR X c) (e:an c.H a=some (.list x)):El X c x a:=dj.casesOn (R.vI a _ e).eX fun n h ξ g z k=>⟨n,h,g,z,k⟩
def Ib (i:Int) (x:Value):List (Int×Value)→List (Int×Value)
 |[]=>[(i,x)]
 |e::r=>if e.1=i then(e.1,x)::r else e::Ib i x r
def PS:Ib i x (e::r)=(if e.1=i then(e.1,x)::r else e::Ib i x r):=rfl
def yD (h:(k.map (·.1)).Nodup):stored k i x=Ib i x k:=by
 induction k with
 |nil=>rfl
 |cons e r p=>
  rw[XD,YJ] at h;haveI p:=p h.2;unfold stored at p⊢;rw[PS];rw[YA];by_cases q:e.1=i
  ·rw[Xz q,Bool.true_or,WY rfl,WY q,XD,WY q];haveI:r.map (fun n=>if n.1=i then(n.1,x) else n)=r:=by
    conv=>rhs;rw[←List.map_id r]
    exact YQ fun n m=>WX fun w=>h.1 (Xj.mpr ⟨n,m,w.trans q.symm⟩)
   rw[this]
  ·rw[Xw q,aaj,WX q,XD,WX q,←p];split<;>rfl
inductive Mu (X:Cx) (h:Heap) (ow:Ow) (i:Int) (x:Value) (kvs:List (Int×Value)) (n:Nat) (K:ah→aN→Prop):Prop
 |mk (vs:aN) (k:K ((Ib i x kvs).map (·.1)) vs) (r:bZ X h ow vs ((Ib i x kvs).map (·.2))) (z:vs.length≤n+1)
def Ic (t:VR X h y v x) {K:ah→aN→Prop} (r:bZ X h y n (m.map (·.2))) (p:Bx i v (m.map (·.1)) n K):Mu X h y i x m n.length K:=by
 induction m generalizing n K with
 |nil=>
  cases YC.mp r.length
  exact⟨[v],p,.one t,Xl _⟩
 |cons e m g=>cases n with
  |nil=>cases(r)
  |cons w n=>
   obtain⟨_,_,j,z⟩:=r;change zZ (iG e.1 i) (K (e.1::m.map (·.1)) (v::n)) (Bx i v (m.map (·.1)) n fun k b=>K (e.1::k) (w::b)) at p;have u:Ib i x (e::m)=if e.1=i then(e.1,x)::m else e::Ib i x m:=rfl
   unfold iG at p;by_cases q:e.1=i
   ·rw[Xz q] at p;rw[WY q] at u;exact⟨v::n,by rw[u];exact p,by rw[u];exact .cons t z,YF _⟩
   ·rw[Xw q] at p;rw[WX q] at u;exact Mu.casesOn (g z p) fun s l a d=>⟨w::s,by rw[u];exact l,by rw[u];exact .cons j a,XK d⟩
def Em {K:Nat→Prop} (k:Y1 (place n i) K): ∃j,place n i=some j∧K j:=dD k
def En {k:Kt} {st:aN} {Q:Unit→Shared→Prop} (h:Yr (an c.H a) (By a i v k st B c.H C)) (R:HR X c) (L:dC X c v z)
  (q: ∀d,Go X cS c d→d.ow=c.ow→k st B d.H C→Q () d.s):wpAny (M X) A (setItem (.ref a) (.int i t) z) Q bw c.s:=by
 cases e:an c.H a with
 |none=>rw[e] at h;exact h.elim
 |some o=>
  rw[e] at h;induction o using Ob.casesOn with
  |inst cl ns l=>exact h.elim
  |list N=>
   obtain⟨j,hj,h⟩:=Em (h:Y1 (place N.length i) fun j=>k st B (cz c.H a (.list (N.set j v))) C);exact El.casesOn (uF R e) fun n D g G u=>rX g (u.length▸G) (u.length▸hj) fun H p f=>q _ (Go.Ia R e (t:=c.s.toks) p f (u.set L) (by rw[Zd];exact G)) rfl h
  |dict y l=>
   obtain⟨x,h⟩:=(h:y.length<bz∧Bx i v y l fun y l=>k st B (cz c.H a (.dict y l)) C);have O:=R.vI a _ e;refine il.casesOn O.eX fun s e' ξ sy g U G u=>?_;have r:s.length=y.length:=by rw[←U,WP]
   rw[←U] at h;refine Mu.casesOn (Ic L u h) fun I k1 k2 k3=>?_;haveI nd:(s.map (·.1)).Nodup:=g.elim fun ξ g=>g.elim fun ξ g=>g.2.2.2.2.2;haveI J:l.length=y.length:=by rw[u.length,WP,r]
   refine wpAny_setItem_pairs (Z6 X.prog X.w i t) g.dictOf (fun H p f=>?_) (by rw[aaf,r];unfold bz at x;exact(bC 0x80060280a02c0a00c40391605f1401) x);rw[yD nd] at p;obtain⟨ep,p⟩:=p.dictAt;have Y: ∀b m,c.s.heap.get? b=some m→c.ow b≠some a→H.get? b=some m:=fun b m e n=>(f.2 _ fun w=>n ((W4 c.ow w).trans O.own)).trans e;haveI ga: ∃m,H.get? a=some m:=p.elim fun ξ g=>g.elim fun ξ g=>⟨_,g.1⟩;refine q _ (Go.vl (o:= .dict ((Ib i z s).map (·.1)) I) R e Y (fun b m=>?_) ⟨O.own,⟨_,_,rfl,sy,p,rfl,by unfold cV;unfold bz at x;exact(bT 0x1000c054950579421900220c201188210c40391605f1401) x k3 J,k2.keep fun b m e n=>⟨Y b m e (by rw[n];exact nofun),n⟩⟩,fun cl dd e=>?_,trivial⟩ (t:=c.s.toks+1)) rfl k1
   ·by_cases w:b=a
    ·exact w▸ga
    ·exact(R.live b a m).1.elim fun o1 x1=>⟨o1,(f.2 _ w).trans x1⟩
   ·exact p.elim fun ξ g=>g.elim fun ξ g=>absurd (W4 Obj.data (W7 (g.1.symm.trans e))) (by rw[g.2.2.1];exact nofun)
end
section
variable {c:Cf} {k:Kt} {st:aN} {Q:Value→Shared→Prop}
def Ai {K:aN→Prop} (h:Yl o K): ∃e,o=some (.list e)∧K e:=by
 cases o with
 |none=>exact h.elim
 |some o=>induction o using Ob.casesOn with
  |list e=>exact⟨e,rfl,h⟩
  |_=>exact h.elim
inductive S0 (X:Cx) (c:Cf) (a:Nat) (K:aN→Prop):Prop
 |mk (xs:aN) (e:an c.H a=some (.list xs)) (k:K xs) (n:Nat) (items:ax) (g:c.s.heap.get? a=some (b5 items n)) (z:xs.length≤cV) (r:dk X c xs items)
def Eo (R:HR X c) {K:aN→Prop} (h:Yl (an c.H a) K):S0 X c a K:=
 let⟨m,e,k⟩:=Ai h
 El.casesOn (uF R e) fun n x g z r=>⟨m,e,k,n,x,g,z,r⟩
def bZ.line (r:bZ X h m e x) (z:e.length+n<bz):x.toArray.size≤sizeLine:=by rw[XH,←r.length];exact WR (Yo _ n) (WR (Xq z) (bM aw))
def Mv (h:a+b<bz):a+b≤cV:=WR (Xq h) (bM aw)
abbrev VY (X:Cx) (A:Around) (c:Cf) (x:Sem Value) (k:Kt) (st:aN) (e:Fr) (m:cy):Prop:=
 ∀R:Value→Shared→Prop,(∀h y v,Go X cS c h→dC X h v y→k (v::st) e h.H m→R y h.s)→wpAny (M X) A x R bw c.s
def yE (R:HR X c) (b:VY X A c x (HD k) (.ref a::st) u w) (q: ∀r,Go X cS c r→k (.none::st) u r.H w→Q .none r.s):
  wpAny (M X) A (callWith d (.builtin "list.append") [.ref a] [(false,x)] []) Q bw c.s:=
 P.append_list (b _ fun i y v s o h=>S0.casesOn (Eo (K:=fun p=>p.length<bz∧k (.none::st) u (cz i.H a (.list (p++[v]))) w) s.hr h) fun p e h n m g z j=>⟨m.toArray,n,j.line (n:=0) h.1,g,by
  obtain⟨C,l,B⟩:=yC (f:=fun p=>p.push y) g;simp only[List.push_toArray] at l
  exact q _ (Go.trans R s (Go.Ia s.hr e (t:=i.s.toks) l B (j.append (.one o)) (by rw[WO];exact WR h.1 (bM aw)))) h.2⟩)
def Ie (R:HR X c) (h:HE k (.ref a::st) b c.H d) (q: ∀m y v,Go X cS c m→dC X m v y→k (v::st) b m.H d→Q y m.s):
  wpAny (M X) A (callWith o (.builtin "list.pop") [.ref a] [] []) Q bw c.s:=by
 refine S0.casesOn (Eo R (h:Yl (an c.H a) _)) fun s e h n x g z p=>?_;obtain⟨r,v,rfl,B,h⟩:=h;obtain⟨y,C,D⟩:=p.get (i:=r.length) (by rw[Xn (Xl _),YE];rfl);have u:r.length+1=x.length:=(WO ..).symm.trans p.length;refine P.pop_list (y:=y) g (by simpa [←u] using C) ?_ (p.line (n:=0) B);obtain⟨I,w,G⟩:=yC (f:=fun s=>s.eraseIdxIfInBounds (x.toArray.size-1)) g;haveI H:(x.toArray.eraseIdxIfInBounds (x.toArray.size-1)).toList=x.take r.length:=by rw[List.eraseIdxIfInBounds_toArray];simp only[XH];rw[List.eraseIdx_length_sub_one,List.dropLast_eq_take,←u];rfl
 rw[H] at w;haveI j:=p.take r.length;rw[List.take_left] at j;have l:=Go.Ia R e (t:=c.s.toks) w G j (by rw[WO] at z;exact Xq z);exact q _ _ _ l (D.go l) h
inductive PT (X:Cx) (c:Cf) (ys:aN) (y:Value):Prop
 |aG (p:Nat) (it:ax) (e:y= .ref p) (g:c.s.heap.get? p=some (dA it 0)) (r:dk X c ys it)
 |ap (p n:Nat) (it:ax) (e:y= .ref p) (g:c.s.heap.get? p=some (b5 it n)) (r:dk X c ys it)
inductive PU (X:Cx) (c:Cf) (y:Value) (K:aN→Prop):Prop
 |mk (ys:aN) (r:PT X c ys y) (k:K ys)
def Mw {K:aN→Prop} (x:dC X c v y) (k:Y1 (i7 v) K):PU X c y K:=by
 cases v with
 |aG h=>exact bh.casesOn x fun p r=>f8.casesOn r fun e ξ g ξ r=>⟨h,.aG p e rfl g r,k⟩
 |ap h=>exact bh.casesOn x fun p r=>dj.casesOn r fun n e ξ g ξ r=>⟨h,.ap p n e rfl g r,k⟩
 |_=>exact k.elim
def yF (R:HR X c) (J:VY X A c x (DD k) (.ref a::st) G H) (q: ∀d,Go X cS c d→k (.none::st) G d.H H→Q .none d.s):
  wpAny (M X) A (callWith L (.builtin "list.extend") [.ref a] [(false,x)] []) Q bw c.s:=by
 refine seqMethod1_meets F.slot_list_extend F.entry_list_extend (J _ fun w y v o N h=>S0.casesOn (Eo (K:=fun j=>Y1 (i7 v) fun i=>j.length+i.length<bz∧k (.none::st) G (cz w.H a (.list (j++i))) H) o.hr h) fun j e h n r g z b=>PU.casesOn (Mw N h) fun i O h=>?_)
 have l: ∀{m:ax},dk X w i m→Q .none {w.s with heap:=w.s.heap.update a (Obj.mapSeq fun x=>x++m.toArray)}:=fun{m} s=>by obtain⟨Y,I,U⟩:=yC (f:=fun j=>j++m.toArray) g;simp only[ZZ] at I;exact q _ (Go.trans R o (Go.Ia o.hr e (t:=w.s.toks) I U (b.append s) (by rw[WO];exact Mv h.1))) h.2
 have B: ∀{m:ax},dk X w i m→r.toArray.size+m.toArray.size≤sizeLine:=fun s=>uA b s (Xq h.1);have u: ∀{m:ax},dk X w i m→ ¬(!r.toArray.isEmpty&&Builtin.List.listTooLong (r.toArray.size+m.toArray.size))=true:=fun{m} s=>by haveI:Builtin.List.listTooLong (r.toArray.size+m.toArray.size)=false:=Xw (Yn.mpr (B s));rw[this,Bool.and_false];exact W5
 induction O using PT.casesOn with
 |aG p C e D s=>subst e;exact⟨⟨_,g,rfl⟩,F.args_list_extend_2 _ _,_,AutoSeq1.list_extend_list_tuple_0 a r.toArray n p C.toArray 0 (u s) (b.line h.1) (XZ (B s)),g,D,l s⟩
 |ap p n2 C e D s=>subst e;exact⟨⟨_,g,rfl⟩,F.args_list_extend_2 _ _,_,AutoSeq1.list_extend_list_list_0 a r.toArray n p C.toArray n2 (u s) (b.line h.1) (XZ (B s)),g,D,l s⟩
inductive vS (X:Cx) (c:Cf) (K:V→Prop) (x:Value):Prop
 |mk (w:V) (k:K w) (t:VT X c.s.heap c.ow w x) (ht: ∀xs,w= .aG xs→dC X c w x)
def iP {K:V→Prop} (h:x6 c.H v K) (R:HR X c) (r:dC X c v x):vS X c K x:=by
 cases v with
 |ref a=>
  rw[show x=_ from r];have h:Yr (an c.H a) K:=h;cases e:an c.H a with
  |none=>rw[e] at h;exact h.elim
  |some o=>
   rw[e] at h;haveI O:=(R.vI a o e).eX;induction o using Ob.casesOn with
   |list n=>exact⟨.ap n,h,⟨a,O⟩,fun ξ q=>nomatch q⟩
   |dict p m=>exact⟨.eR p m,h,⟨a,O⟩,fun ξ q=>nomatch q⟩
   |inst s t m=>exact h.elim
 |_=>exact⟨_,h,r.vt,fun ξ ξ=>r⟩
inductive Ig (X:Cx) (c:Cf) (K:Nat→aL→aN→Prop) (x:Value):Prop
 |mk (cl:Nat) (ns:aL) (vs:aN) (k:K cl ns vs) (t:VT X c.s.heap c.ow (.inst cl ns vs) x)
def uG {K:Nat→aL→aN→Prop} (h:SP c.H v K) (R:HR X c) (r:dC X c v x):Ig X c K x:=by
 cases v with
 |ref a=>rw[show x=_ from r];obtain⟨m,n,p,e,h⟩:=uE (h:Yi (an c.H a) K);exact⟨m,n,p,h,a,(R.vI a _ e).eX⟩
 |inst m n p=>exact⟨m,n,p,h,r.vt⟩
 |_=>exact h.elim
def Ih (r:bZ X h m n (e.map (·.2))) (p:VR X h m q x):VR X h m ((vw i (e.map (·.1)) n).getD q) ((valueAt e i).getD x):=by
 haveI:=qa (k:=i) r;generalize vw i (e.map (·.1)) n=a at this;generalize valueAt e i=b at this;induction this using Hq.casesOn with
 |none=>exact p
 |some v x r=>exact r
inductive Er (k:Kt) (st:aN) (fr:Fr) (H:Hp) (Qp:cy) (dv:V):V→V→Prop
 |mk (ks:ah) (vs:aN) (i:Int) (h:k ((vw i ks vs).getD dv::st) fr H Qp):Er k st fr H Qp dv (.int i) (.eR ks vs)
def Es (h:z3 k st x c.H m e n y):Er k st x c.H m n e y:=by
 induction y using V.casesOn with
 |eR p q=>
  cases e with
  |int i=>exact⟨p,q,i,h.go⟩
  |_=>exact h.elim
 |_=>exact h.elim
end
section
open AutoSeq1 (wpAny_loadPart')
section
variable {X:Cx} {A:Around} {s:Shared}
def qe:typeLookup (.type "bytes") "__bytes__"=pure (some (.builtin "bytes.__bytes__")):=by rw[typeLookup_type,ZL];kernel_rfl
def uH {α:Type} {M:Model} {Q:α→Shared→Prop} {E:Value→Shared→Prop} {t e:Sem α} (h:b=false) (q:wpAny M A e Q E s):wpAny M A (if b=true then t else e) Q E s:=by rwa[h]
def yG (x:Value): ∃(h e k P:Sem Fin) (L:List (Option Value)→Sem Fin) (G:Option Value→Sem Fin),
  Builtin.«bytes.__new__» ⟨[.type "bytes",x],[]⟩=(isType (.type "bytes")>>=fun b=>if(!b)=true then h else isSubtype (.type "bytes") (.type "bytes")>>=fun b=>if(!b)=true then e else
   Builtin.Bytes.bindOptional "bytes.__new__" "bytes" ["source","encoding","errors"] [x] []>>=L)∧
  L [some x,none,none]=(Builtin.Bytes.checkCodecArg "bytes.__new__" "bytes" "encoding" none>>=fun ξ=>Builtin.Bytes.checkCodecArg "bytes.__new__" "bytes" "errors" none>>=fun ξ=>specialOf x "__bytes__">>=G)∧
  G (some (.builtin "bytes.__bytes__"))=(rule "bytes.__new__.of-bytes">>=fun ξ=>typeOf x>>=fun t=>if(t== .type "bytes")=true then P else k)∧P=ret x:=by
 exact⟨_,_,_,_,_,_,rfl,rfl,rfl,rfl⟩
theorem qf {E:Value→Shared→Prop} {Q:Value→Shared→Prop} (h:Q (.bytes b t) s):
  codeAny (model e w) A (.call (.builtin "bytes.__new__") ⟨[.type "bytes",.bytes b t],[]⟩) (wants Q E) s:=by
 refine codeAny_call_builtin F.bm_plain F.bm_entry (YY (F.bm_newCall _) ?_);obtain⟨q,r,u,P,L,G,k,m,n,p⟩:=yG (.bytes b t);rw[k];haveI x:s.TypeIs (.bytes b t) "bytes":=rfl;refine WQ (WV (uH rfl (WQ (YY F.bm_sub (uH rfl (WQ (YY (F.bm_bind (.bytes b t)) ?_)))))));rw[m];refine WQ (WV (WQ (WV (WQ (wpAny_specialOf (T:="bytes") x qe ?_)))));rw[n];refine WQ (Z7 (WQ (wpAny_typeOf (T:="bytes") x ?_)));rw[WY (by exact aU aw),p];exact WV h
def oq {E:Value→Shared→Prop} {Q:Value→Shared→Prop} (h:Q (.bytes b t) s):wpAny (model m w) A (call (.type "bytes") [.bytes b t]) Q E s:=by refine callType_codes (Q₁:=fun k e=>e.TypeIs k "bytes"∧Q k e) F.bm_called (F.bm_typeCall _) F.entry_object_init (qf ⟨rfl,h⟩) fun k e x=>?_;exact⟨x.1,ZT k _,object_init_meets F.bm_called.init.lookup F.bm_called.made (aU aw) m w A.in1 _ e ⟨x.1,rfl,x.2⟩⟩
def BW:typeLookup (.type "bytes") "__len__"=pure (some (.builtin "bytes.__len__")):=by rw[typeLookup_type,ZL];kernel_rfl
theorem rY {E:Value→Shared→Prop} {Q:ax→Shared→Prop} (d:A.handled=none) (x:Array UInt8) (t:Tok)
  (f: ∀k r,(∀b o,s.heap.get? b=some o→k.heap.get? b=some o)→k.gens=s.gens→k.drawn=s.drawn→k.os=s.os→ItemsOf (fun i v=> ∃c u,x[i]?=some c∧v= .int (c.toNat:Int) u) r x.size→Q r.toList k) (hn:x.size≤sizeLine):
  wpAny (model m w) A (collect (.bytes x t)) Q E s:=by
 unfold collect;refine WQ (wpAny_runValue (ZX F.entry_proto_collect ?_));rw[Zk F.plain_proto_collect _];show wpAny _ A.in1 (newList []>>=fun l=>again (.builtin "list.__iadd__" ⟨[l,.bytes x t],[]⟩)) _ _ s;refine WQ (XV ?_);refine WV ⟨aak F.plain_list_iadd _,ZX F.entry_list_iadd ?_⟩;rw[Zk F.plain_list_iadd _];show wpAny _ A.in1 (Builtin.List.listExtendWith (.ref s.heap.objs.size) (.bytes x t) (.ref s.heap.objs.size)) _ _ _;unfold Builtin.List.listExtendWith;refine WQ (wpAny_typeOf (T:="bytes") (v:= .bytes x t) rfl ?_);haveI B:Builtin.List.listSameRef (.ref s.heap.objs.size) (.bytes x t)=false:=rfl;haveI C:(Value.type "bytes"==Value.type "list")=false:=by exact aU aw
 haveI D:(Value.type "bytes"==Value.type "tuple")=false:=by exact aU aw
 simp only[B,C,D,Bool.or_false,Y8,if_false];refine WQ (KBw.pyIter_bytes ?_);refine WQ (XE ?_);unfold Builtin.List.listLengthHint;refine WQ (wpAny_specialOf (T:="bytes") (v:= .bytes x t) rfl BW ?_)
 wp_delta
 refine WQ (wpAny_isInstance (T:="bytes") (v:= .bytes x t) (b:=true) rfl (by rw[isSubtype_type];kernel_rfl) ?_);show wpAny _ A.in1 (typeOf (Value.bytes x t)>>=_) _ _ _;refine WQ (wpAny_typeOf (T:="bytes") (v:= .bytes x t) rfl ?_);refine WV ?_;rw[WX (by exact aU aw)];generalize g:s.heap.push {cls:= .type "list",data:= .seq ([]:ax).toArray}=H;have n:H.objs.size=s.heap.objs.size+1:=by rw[←g,Zl]
 haveI j:s.heap.objs.size∉[H.objs.size]:=fun q=>by rw[WZ.mp q] at n;exact absurd n (Ys (Xr _))
 haveI W:=KBw.walks (prog:=m) (w:=w) (A:=A.in1) d H.objs.size x t;haveI G:(H.push {cls:= .type "bytes_iterator",data:= .fields #[.bytes x t,.int 0 0]}).get? s.heap.objs.size=some {cls:= .type "list",data:= .seq ([]:ax).toArray}:=Y6 _ (g▸Xd _ rfl);refine WV ⟨aak F.plain_extend_loop _,codeAny_extend_loopS W.toS hn _ j _ x.size 0 _ _ _ rfl (W8 _) ⟨_,Xd _ rfl,rfl,rfl⟩ G (ItemsOf.nil _) fun k y L q a z=>?_⟩;show wpAny _ A (load s.heap.objs.size>>=_) _ _ k;refine WQ (wpAny_load a ?_);refine WV (f k y (fun b I e=>q.heap b I (fun J=>?_) (Y6 _ (g▸Y6 _ e))) q.gens q.drawn q.os z);have p:=X8 e;rcases Xa.mp J with h|h
 ·exact absurd p (h▸aai _)
 ·rw[WZ.mp h,n] at p;exact absurd p (Yn.mpr (YF _))
def jm (x:Array UInt8) (t:Tok) (n:x.size≤sizeLine):
  Meets (Builtin.«tuple.__new__» ⟨[.type "tuple",.bytes x t],[]⟩)
   (fun A R s=>A.handled=none∧ ∀(m:Shared) (k:Array Value),(∀b o,s.heap.get? b=some o→m.heap.get? b=some o)→m.gens=s.gens→m.drawn=s.drawn→m.os=s.os→ItemsOf (fun i v=> ∃c u,x[i]?=some c∧v= .int (c.toNat:Int) u) k x.size→
    R (.ok (.ret (.ref m.heap.objs.size))) {m with heap:=m.heap.push {cls:= .type "tuple",data:= .seq k}}):=
 .of_wp fun r w A R s h=>by
  obtain⟨j,g,d,l,os⟩:=s;obtain⟨a,h⟩:=h;haveI y:=sub_tuple_self;haveI p:=init_tuple_lookup;haveI f:=madeHere_tuple;haveI B:Shared.TypeIs ⟨j,g,d,l,os⟩ (.bytes x t) "bytes":=rfl;haveI q:A.in1.handled=none:=a
  wp_walk using wpAny_typeOf B,rY q x t (hn:=n)
  intro m k C D G H z;show wpAny _ _ (Builtin.Tuple.tupleExact k.toList.toArray>>=fun v=>ret v) _ _ _;unfold Builtin.Tuple.tupleExact;refine WQ (XV ?_ (by show k.toList.toArray.size≤sizeLine;simpa [z.1] using n));refine WV ⟨_,rfl,?_⟩;haveI e:k.toList.toArray=k:=by simp
  rw[e];exact h m k C D G H z
def nb {E:Value→Shared→Prop} {Q:Value→Shared→Prop} (q:A.handled=none) (m:x.size≤sizeLine)
  (h: ∀(e:Shared) (k:Array Value),(∀b o,s.heap.get? b=some o→e.heap.get? b=some o)→e.gens=s.gens→e.drawn=s.drawn→e.os=s.os→ItemsOf (fun i v=> ∃c u,x[i]?=some c∧v= .int (c.toNat:Int) u) k x.size→
    Q (.ref e.heap.objs.size) {e with heap:=e.heap.push {cls:= .type "tuple",data:= .seq k}}):wpAny (model p w) A (call (.type "tuple") [.bytes x t]) Q E s:=
 callType_new F.called_tuple (aU aw) (F.typeCall_tuple_1 _) (F.newCall_tuple_1 _) (fun n=>ZT n _) F.entry_tuple_new
  (jm x t m) ⟨q,fun e k r y z g j=>⟨⟨_,Xd _ rfl,rfl⟩,h e k r y z g j⟩⟩
def BX:typeLookup (.type "list") "keys"=pure none:=by rw[typeLookup_type,ZL];kernel_rfl
def jc:entryFor table "dict.update.loop"=some Builtin.«dict.update.loop»:=entryFor_of_tree (by kernel_rfl)
def d6:plainId "dict.update.loop"=true:=by decide+kernel
section
local macro_rules | `(tactic| show $t:term) => `(tactic| change $t at ⊢)
set_option maxHeartbeats 1000000 in
theorem Ii {Q:Option Value→Shared→Prop} {E:Value→Shared→Prop} (g:s.heap.get? p=some (b5 x n)) (u:A.handled=none)
  (h: ∀q r,(∀b o,s.heap.get? b=some o→q.get? b=some o)→Q none {s with heap:=q,toks:=r}):wpAny (model X.prog X.w) A (getAttr? (.ref p) "keys") Q E s:=by
 obtain⟨v,w,d,r,os⟩:=s;haveI t: ∀k,(⟨v,w,d,k,os⟩:Shared).TypeIs (.ref p) "list":=fun ξ=>⟨_,g,rfl⟩;have y:=sub_AttributeError;haveI z:=Zr.lookup;haveI i:=Zr.bind (.ref p);haveI j:=am_list_getattr_none;unfold getAttr? getAttrBy? getAttrBy
 repeat (any_goals (first|assumption|exact t _|((with_reducible show wpAny _ _ (call (Value.builtin "list.__getattribute__") _ _) _ _ _);refine call_meets Zr (t _) am_entry_list_getattribute (F.args_list_getattribute_2 _ _) (meets_getattribute_miss_list p x.toArray n #[] "keys" _ BX (by decide+kernel) (by size_fits)) ⟨g,u,fun q k e m=>?_⟩)|wp_step))
 obtain⟨l,a,f⟩:=m.there;show wpAny _ _ (getattributeRaised _ _ _ _ _ _ _) _ _ _;unfold getattributeRaised
 repeat (any_goals (first|assumption|wp_step))
 exact h _ _ m.keeps
end
end
variable {X:Cx} {A:Around} {c:Cf}
inductive Et (vs:aN):V→ah→aN→Prop
 |mk (k:Int) (w:V) (ks:ah) (ws:aN) (q:dQ vs=some (ks,ws)) (hn:k∉ks):Et vs (.aG [.int k,w]) (k::ks) (w::ws)
def Ij (e:ua v=some p):v= .aG [.int p.1,p.2]:=by
 cases v with
 |aG l=>cases l with
  |nil=>exact bH e
  |cons a l=>cases a with
   |int k=>cases l with
    |nil=>exact bH e
    |cons w l=>cases l with
     |nil=>obtain rfl:=dL e;rfl
     |cons _ _=>exact bH e
   |_=>exact bH e
 |_=>exact bH e
def yH (e:dQ (v::x)=some (m,n)):Et x v m n:=by
 change DB (ua v) (dQ x)=_ at e;cases h:ua v with
 |none=>rw[h] at e;exact bH e
 |some p=>cases q:dQ x with
  |none=>rw[h,q] at e;exact bH e
  |some r=>
   rw[h,q] at e;change(if p.1∈r.1 then none else some (p.1::r.1,p.2::r.2))=some (m,n) at e;rw[Ij h];by_cases k:p.1∈r.1
   ·rw[WY k] at e;exact bH e
   ·rw[WX k] at e;cases(e);exact⟨p.1,p.2,r.1,r.2,q,k⟩
inductive Mx (X:Cx) (h:Heap) (ow:Ow) (k:Int) (w:V):Value→Prop
 |mk (a:Nat) (u:Tok) (y:Value) (g:h.get? a=some (dA [.int k u,y] 0)) (r:VR X h ow w y):Mx X h ow k w (.ref a)
def My (r:VR X h m (.aG [.int k,w]) x):Mx X h m k w x:=
 bh.casesOn r fun a r=>f8.casesOn r fun n ξ g ξ p=>by obtain⟨y,_,q,t,_,e,v⟩:=p;subst v;obtain⟨u⟩:=q;exact⟨a,u,t,g,e⟩
def dict_keeps {h x:Heap} (d:h.DictOf (intKind X.prog X.w) D e) (k: ∀o,h.get? D=some o→x.get? D=some o):x.DictOf (intKind X.prog X.w) D e:=
 d.elim fun o d=>d.elim fun m d=>d.elim fun n d=>⟨o,m,n,k _ d.1,d.2⟩
@[reducible] def Ik (X : Cx) (A : Around) (h0 : Heap) (ow : Ow) (p I D n : Nat) (items : ax) (R : Result → Shared → Prop) : Prop := ∀ (y : A.handled = none) (v : I ≠ D) (z : h0.get? I = none) (j : h0.get? D = none) (g : h0.get? p = some (b5 items n)) (l : items.length ≤ sizeLine) (vs : aN) (i : Nat) (s : Shared) (r : ah) (x : ah) (u : aN) (m : aN) (e : List (Int × Value)) (t : Tok) (a : items.length = i + vs.length) (d : dQ vs = some (r, u)) (f : bZ X h0 ow vs (items.drop i)) (B : ∀ b o, h0.get? b = some o → s.heap.get? b = some o) (w : s.heap.IsListIter I p i) (hd : s.heap.DictOf (intKind X.prog X.w) D e) (C : e.map (·.1) = x) (G : bZ X h0 ow m (e.map (·.2))) (H : e.length ≤ i) (J : ∀ k ∈ r, k ∉ x) (L : ∀ q h, (∀ b o, h0.get? b = some o → q.heap.get? b = some o) → q.gens = s.gens → q.os = s.os → q.heap.DictOf (intKind X.prog X.w) D h →
    h.map (·.1)=x++r→bZ X h0 ow (m++u) (h.map (·.2))→R (.ok (.ret .none)) q),codeAny (M X) A (.builtin "dict.update.loop" ⟨[.ref D,.ref I,.int i t,.none],[]⟩) R s
abbrev Mz:List Type:=[Cx,Around,Heap,Ow,Nat,Nat,Nat,Nat,ax,Result→Shared→Prop]
def PW:=eV Mz Ik ⟨vn,xR,⟨{}⟩,nI,nI,nI,nI,nI,nI,nI,trivial⟩
theorem Uq:eU Mz Ik PW:=by
 injections PW X A h0 ow p I D n items R;change Ik X A h0 ow p I D n items R;intro hh y Q fD g U vs i s ks j ws l h t O hp d f B hd h1 h2 h3 hn hR;induction vs generalizing i s ks j ws l h t with
 |nil=>
  cases(hp)
  refine ZX jc ?_;rw[Zk d6 _];show wpAny _ A.in1 (pyNext (.ref I)>>=_) _ _ s;refine WQ (wpAny_pyNext_list_end hh B (bK (f _ _ g)) (by rw[ZM];exact XN (ZC O)) fun h' C=>?_)
  exact WQ (WV (WV (hR {s with heap:=h'} h (fun b o e=>C b o (sJ e Q) (f b o e)) rfl rfl (dict_keeps hd (C _ · y.symm)) (by rwa[Xe]) (by rwa[Xe]))))
 |cons v vs ih=>
  rw[W0] at O;have Y:i<items.length:=by exact(bT 0x880210ca1008c4108401) O
  rw[Xo Y] at d;induction yH hp using Et.casesOn with
  |mk k w ha hc hq hk=>
  generalize ey:items[i]=y0 at d;obtain⟨_,_,ry,d⟩:=d;induction My ry using Mx.casesOn with
  |mk a u y2 ga he=>
  refine ZX jc ?_;rw[Zk d6 _];show wpAny _ A.in1 (pyNext (.ref I)>>=_) _ _ s;refine WQ (wpAny_pyNext_list_item B (bK (f _ _ g)) (x:= .ref a) (by rw[ZM,WS Y,ey]) fun r G hf=>?_);have k1: ∀b o,b≠I→s.heap.get? b=some o→r.get? b=some o:=fun b o hb e=>(hf.2 _ hb).trans e;have H:r.get? a=some (dA [.int k u,y2] 0):=k1 _ _ (sJ ga Q) (f _ _ ga);refine WQ (XE (WQ (wpAny_tryCatch ?_)));unfold Builtin.Dict.pairItems
  refine WQ (wpAny_typeOf (T:="tuple") (s:={s with heap:=r}) ⟨_,H,rfl⟩ ?_);rw[WY (by exact aU aw)]
  refine WQ (Z8 (s:={s with heap:=r}) H rfl (WV ?_));refine XE ?_
  refine wpAny_dictSet_pairs (s:={s with heap:=r}) (Z6 X.prog X.w k u) (dict_keeps hd (k1 _ · y.symm)) (fun hg J L=>?_) (by exact(bT 0x80060280a02c0a10c401106020843000c050140581401) U h3 Y);haveI nk:k∉h.map (·.1):=by rw[h1];exact hn k (.head _)
  haveI hj:stored h k y2=h++[(k,y2)]:=by unfold stored;exact WX fun q=>(YS.mp q).elim fun e m=>nk (Xj.mpr ⟨e,m.1,XY m.2⟩)
  rw[hj] at J
  exact WV ⟨aak d6 _,ih (i+1) {s with heap:=hg,toks:=s.toks+1} ha (j++[k]) hc (l++[w]) _ _ (by exact(bT 0x25010601184200ca1008c4108401) O) hq d (fun b o e=>(L.2 _ (sJ e fD)).trans (k1 b o (sJ e Q) (f b o e)))
   (G.elim fun o q=>⟨o,(L.2 _ y).trans q.1,q.2⟩) J (by rw[WU,h1];rfl) (by rw[WU];exact h2.append (.one he)) (by rw[WO];exact XK h3)
   (fun z mz U=>(W6.mp U).elim (hn z (.tail _ mz)) fun m=>hk (WZ.mp m▸mz)) fun s' N q1 q2 q3 q4 q5 q6=>hR s' N q1 q2 q3 q4 (by rw[q5,WW];rfl) (by rw (config:={}) [WW] at q6;exact q6)⟩
def Ur:Prop:= ∀⦃X A h0 ow p I D n items R⦄,Ik X A h0 ow p I D n items R
def BY:Ur:=eA Mz Uq
@[reducible] def Il (X : Cx) (A : Around) (c : Cf) (Q : Value → Shared → Prop) (p n : Nat) (items : ax) (vs k : aN) (m : ah) (E : Value → Shared → Prop) : Prop := ∀ (q : A.handled = none) (g : c.s.heap.get? p = some (b5 items n)) (r : dk X c vs items) (t : items.length ≤ sizeLine) (u : dQ vs = some (m, k)) (h : ∀ x e, (∀ b o, c.s.heap.get? b = some o → x.heap.get? b = some o) → x.gens = c.s.gens → x.os = c.s.os → x.heap.DictOf (intKind X.prog X.w) c.s.heap.objs.size e → e.map (·.1) = m → dk X c k (e.map (·.2)) → Q (.ref c.s.heap.objs.size) x), wpAny (M X) A (call (.type "dict") [.ref p]) Q E c.s
abbrev Im:List Type:=[Cx,Around,Cf,Value→Shared→Prop,Nat,Nat,ax,aN,aN,ah,Value→Shared→Prop]
def PX:=eV Im Il ⟨vn,xR,yw,nI,nI,nI,nI,nI,nI,nI,nI,trivial⟩
theorem Us:eU Im Il PX:=by
 injections PX X A c Q p n x j l a E;change Il X A c Q p n x j l a E;intro d g N O U h
 refine callType_codes (Q₁:=fun w u=>w= .ref c.s.heap.objs.size∧u={c.s with heap:=c.s.heap.push {cls:= .type "dict",data:= .dict #[]}}) F.kt_called_dict (F.kt_typeCall_dict_1 _) F.entry_dict_init (kt_code_dict_new _ ⟨rfl,rfl⟩) ?_;rintro w u ⟨rfl,rfl⟩;have t:(c.s.heap.push {cls:= .type "dict",data:= .dict #[]}).DictOf (intKind X.prog X.w) c.s.heap.objs.size []:=Heap.DictOf.new c.s.heap;have z:(c.s.heap.push {cls:= .type "dict",data:= .dict #[]}).get? p=some (b5 x n):=aK _ _ _ _ g;refine⟨t.typeIs,F.args_dict_init_2 _ _,?_⟩;unfold Builtin.«dict.__init__»;refine WQ ?_;unfold Builtin.Dict.selfAndRest;refine WQ (wpAny_notOrdered_dict t.typeIs ?_);show wpAny _ _ (pure (c.s.heap.objs.size,[Value.ref p])) _ _ _;refine WV ?_;show wpAny _ _ (Builtin.Dict.updateFrom "dict.__init__" c.s.heap.objs.size (.ref p) [] .none) _ _ _;unfold Builtin.Dict.updateFrom
 refine WQ (wpAny_typeOf (T:="list") (s:={c.s with heap:=c.s.heap.push {cls:= .type "dict",data:= .dict #[]}}) ⟨_,z,rfl⟩ ?_);rw[WY (by exact aU aw)]
 refine WQ (Ii (s:={c.s with heap:=c.s.heap.push {cls:= .type "dict",data:= .dict #[]}}) z d fun v B k=>?_);rw[WY (show(none:Option Value).isNone=true from rfl)]
 refine WQ (Z7 (WQ (wpAny_pyIter_list (s:={c.s with heap:=v,toks:=B}) (bK (k _ _ z)) ?_)));generalize C:v.objs.size=I;have G:c.s.heap.objs.size<I:=by obtain⟨o,H,J,i,r⟩:=t;rw[←C];exact X8 (k _ _ i)
 have L: ∀b o,v.get? b=some o→(v.push {cls:= .type "list_iterator",data:= .fields #[.ref p,.int 0 0]}).get? b=some o:=aK _ _;haveI Y: ∀b o,c.s.heap.get? b=some o→(v.push {cls:= .type "list_iterator",data:= .fields #[.ref p,.int 0 0]}).get? b=some o:=fun b o e=>L _ _ (k b o (aK _ _ b o e));haveI fI:c.s.heap.get? I=none:=by
  cases q:c.s.heap.get? I with
  |none=>rfl
  |some o=>exact absurd (X8 q) (Yn.mpr (Xq G))
 refine WV ⟨aak d6 _,BY (X:=X) (A:=A.in1) (h0:=c.s.heap) (ow:=c.ow) (p:=p) (I:=I) (D:=c.s.heap.objs.size) (n:=n) (items:=x) d (aaq G) fI (aX _) g O
  j 0 {c.s with heap:=v.push {cls:= .type "list_iterator",data:= .fields #[.ref p,.int 0 0]},toks:=B} a [] l [] [] 0 (by rw[N.length,X2]) U
  (by rwa[Z9]) Y ⟨_,by rw[←C];exact Xd _ rfl,rfl,rfl⟩ (let⟨o,H,J,i,r⟩:=t;⟨o,H,J,L _ _ (k _ _ i),r⟩) rfl rfl (W8 _) (fun ξ ξ m=>nomatch m)
  (fun s' y q1 q2 q3 q4 q5 q6=>⟨rfl,h s' y q1 q2 q3 q4 q5 q6⟩)⟩
def ot:eB Im Il:=eA Im Us
end
section
variable {c:Cf} {K:V→Prop} {Q:Value→Shared→Prop}
def hI {T:String} (eo:(Value.type "bytes"==Value.type T)=false) (x:typeOf (.type T)=pure (.type "type")) (e:isSubtype (.type "bytes") (.type T)=pure false):
  Answers (fun s=>s.TypeIs (.bytes b u) "bytes") (.bytes b u) (.type T) false:=
 fun ξ ξ ξ ξ ξ ξ s k=>by obtain⟨h,g,d,t,os⟩:=s;exact isinstance_nested_false_bytes eo x e (k.2 (t+1))
def Io {K:Bool→Prop} (k:Y1 (KS v t) K) (e:VT X c.s.heap c.ow v x) (h: ∀r t,K r→Q (.bool r) {c.s with toks:=t}):wpAny (M X) A (call (.builtin "isinstance") [x,.type (m6 t)]) Q bw c.s:=by
 induction t using TY.casesOn with
 |int=>
  cases v with
  |int i=>exact d8.casesOn e fun t=>IsiPair.int_int (h _ c.s.toks k)
  |_=>exact k.elim
 |bool=>
  cases v with
  |int i=>exact d8.casesOn e fun t=>IsiPair.int_bool (h _ _ k)
  |_=>exact k.elim
 |str=>
  cases v with
  |str i=>exact uu.casesOn e fun t=>IsiPair.str_str (h _ c.s.toks k)
  |_=>exact k.elim
 |bytes=>
  cases v with
  |bytes b=>exact rV.casesOn e fun a t ξ ξ=>call_isinstance (isinstance_true (Tx:="bytes") F.isi_meta_bytes F.sub_bytes_bytes) ⟨rfl,h _ c.s.toks k⟩
  |_=>exact k.elim
 |tuple=>
  cases v with
  |aG m=>exact bh.casesOn e fun a r=>f8.casesOn r fun p ξ g ξ ξ=>IsiPair.tuple_tuple g rfl (h _ c.s.toks k)
  |ap m=>exact bh.casesOn e fun a r=>dj.casesOn r fun n p ξ g ξ ξ=>IsiPair.list_tuple g rfl (h _ _ k)
  |_=>exact k.elim
 |list=>
  cases v with
  |ap m=>exact bh.casesOn e fun a r=>dj.casesOn r fun n p ξ g ξ ξ=>IsiPair.list_list g rfl (h _ c.s.toks k)
  |_=>exact k.elim
 |_=>exact k.elim
def Ws:Nat→String
 |0=>"int"|1=>"bool"|2=>"str"|3=>"bytes"|4=>"bytearray"|5=>"list"|6=>"tuple"|7=>"dict"|8=>"range"|_=>"enumerate"
def nc (r:bZ X h p x k) (e:t9 x=some l):k=l.map fun n=> .type (Ws n):=by
 induction x generalizing k l with
 |nil=>exact W7 e▸r
 |cons v x m=>induction v using V.casesOn with
  |ty t=>
   obtain⟨y,s,a,b⟩:=r
   change(match t9 x with|some l=>some (t.c::l)|none=>none)=some l at e;cases q:t9 x with
   |none=>rw[q] at e;exact bH e
   |some u=>rw[q] at e;rw[←W7 e,m b q,show y=_ from a];induction t using TY.casesOn<;>rfl
  |_=>exact bH e
inductive Eu (K:Bool→Prop) (ts:aN):V→Prop
 |aG (vs:aN) (e:t9 ts=some [6,5]) (k:K true):Eu K ts (.aG vs)
 |ap (vs:aN) (e:t9 ts=some [6,5]) (k:K true):Eu K ts (.ap vs)
 |OS (b:aL) (e:t9 ts=some [3,4,5,6]) (k:K true):Eu K ts (.bytes b)
def Ip {K:Bool→Prop} (k:Y1 (t' v h) K):Eu K h v:=by
 unfold t' at k;cases e:t9 h with
 |none=>rw[e] at k;exact k.elim
 |some l=>
  rw[e] at k;by_cases q:l=[6,5]
  ·subst q;cases v with
   |aG x=>exact .aG _ e k
   |ap x=>exact .ap _ e k
   |_=>exact k.elim
  ·change Y1 (LQ v l) K at k;unfold LQ at k;rw[Xw q] at k;by_cases q:l=[3,4,5,6]
   ·subst q;cases v with
    |bytes x=>exact .OS _ e k
    |_=>exact k.elim
   ·change Y1 (match decide (l=[3,4,5,6]) with|true=>O' v|false=>none) K at k;rw[Xw q] at k;exact k.elim
def Ev {K:Bool→Prop} (k:Y1 (t' v i) K) (p:VT X c.s.heap c.ow v x) (j:dC X c (.aG i) y) (h: ∀r t,K r→Q (.bool r) {c.s with toks:=t}):wpAny (M X) A (call (.builtin "isinstance") [x,y]) Q bw c.s:=
 bh.casesOn j fun a r=>f8.casesOn r fun f ξ g ξ q=>by
  induction Ip k using Eu.casesOn with
  |aG l e m=>
   cases nc q e
   exact bh.casesOn p fun d r=>f8.casesOn r fun s ξ u ξ ξ=>IsiPair.tupleOfB (Tx:="tuple") (.cons (.of_true F.isi_meta_tuple F.sub_tuple_tuple) (.cons (.of_false_tuple (by decide+kernel) F.isi_meta_list F.sub_tuple_list) .nil)) ⟨_,u,rfl⟩ g rfl fun z=>h _ _ m
  |ap l e m=>
   cases nc q e
   exact bh.casesOn p fun d r=>dj.casesOn r fun n s ξ u ξ ξ=>IsiPair.tupleOfB (Tx:="list") (.cons (.of_false_list (by decide+kernel) F.isi_meta_tuple F.sub_list_tuple) (.cons (.of_true F.isi_meta_list F.sub_list_list) .nil)) ⟨_,u,rfl⟩ g rfl fun z=>h _ _ m
  |OS b e m=>
   cases nc q e
   exact rV.casesOn p fun a t ξ ξ=>
    IsiPair.tupleOfB (Tx:="bytes") (.cons (.of_true F.isi_meta_bytes F.sub_bytes_bytes) (.cons (hI (by decide+kernel) F.isi_meta_bytearray F.sub_bytes_bytearray)
     (.cons (hI (by decide+kernel) F.isi_meta_list F.sub_bytes_list) (.cons (hI (by decide+kernel) F.isi_meta_tuple F.sub_bytes_tuple) .nil)))) rfl g rfl fun z=>h _ _ m
inductive MC (xs:ax) (i:Int):Prop
 |mk (ns:ah) (h:IntsAre xs ns) (e:ns.sum=i)
def bZ.ints (r:bZ X h w e m) (q:eu e=some i):MC m i:=by
 induction e generalizing m i with
 |nil=>exact bZ.gV r ⟨[],.nil,W7 q⟩
 |cons v e n=>cases v with
  |int k=>
   obtain⟨y,z,a,b⟩:=r
   change(match eu e with|some j=>some (k+j)|none=>none)=some i at q;cases x:eu e with
   |none=>rw[x] at q;exact bH q
   |some j=>rw[x] at q;exact MC.casesOn (n b x) fun p s u=>d8.casesOn a fun t=>⟨k::p,.cons _ _ s,by rw[List.sum_cons,u];exact W7 q⟩
  |_=>exact bH q
def Ew {α β:Type} {f:α→β} {o:Option α} {K:β→Prop} (k:Y1 (o.map f) K):Y1 o fun a=>K (f a):=by
 cases o with
 |none=>exact k.elim
 |some a=>exact k
def bZ.PY (r:bZ X h k e x) (z:e.length≤cV):(x.toArray.size:Int)<2^63:=by rw[XH,←r.length];exact Int.lt_of_le_of_lt (Ye.mpr z) (aU aw)
def PV.len (R:HR X c) (q:PV X c K Q) (e:dk X c x h) (k:K (.int x.length)):Q (.int (h.toArray.size:Int) t) {c.s with toks:=u}:=
 q.pX R (v:= .int (h.toArray.size:Int)) ⟨_⟩ (by rw[XH,←e.length];exact k)
def Iq (k:Y1 (hE .len [v]) K) (R:HR X c) (e:VT X c.s.heap c.ow v x) (q:PV X c K Q):wpAny (M X) A (call (.builtin "len") [x]) Q bw c.s:=by
 cases v with
 |aG m=>exact bh.casesOn e fun a r=>f8.casesOn r fun p ξ g z h=>PyProof.Rows.len_tuple (ft g) (h.PY z) (q.len R h k)
 |ap m=>exact bh.casesOn e fun a r=>dj.casesOn r fun n p ξ g z h=>call_len_list (bK g) (h.PY z) (q.len R h k)
 |_=>exact k.elim
def Ir (k:Y1 (hE .sum [.ap m]) K) (R:HR X c) (w:dC X c (.ap m) x) (y:gW d A) (q:PV X c K Q):wpAny (M X) A (call (.builtin "sum") [x]) Q bw c.s:=by
 change Y1 (match eu m with|some i=>some (V.int i)|none=>none) K at k;cases p:eu m with
 |none=>rw[p] at k;exact k.elim
 |some i=>
  rw[p] at k;exact bh.casesOn w fun a r=>dj.casesOn r fun n h ξ g b z=>MC.casesOn (z.ints p) fun f s j=>by
   obtain⟨t,e⟩:=s.allInts.items;haveI u:=bK g;rw[e] at u;refine sum_intListG y.hh u fun o B C l=>q.keeps R (v:= .int i) l ?_ k;haveI:preSum (numAt t) t.size=i:=by rw[preSum_eq,X4 (by simp),←nums_intItems,←e];show(numsOf h).sum=_;rw[s.numsOf,j]
   rw[this];exact⟨_⟩
def Iu (e:b≠ .len) (k:Y1 (hE b [v]) K) (R:HR X c) (h:dC X c v x) (m:gW d A) (q:PV X c K Q):wpAny (M X) A (call (.builtin (pj b)) [x]) Q bw c.s:=by
 induction b using BI.casesOn with
 |len=>exact absurd rfl e
 |abs=>
  cases v with
  |int i=>exact d8.casesOn h fun t=>PyProof.Rows.call_abs_int fun u n=>q.pX R (v:= .int _) ⟨_⟩ k
  |_=>exact k.elim
 |sum=>
  cases v with
  |ap p=>exact Ir k R h m q
  |_=>exact k.elim
 |_=>exact k.elim
inductive Iv (f:Int→Int→Int) (K:V→Prop):V→V→Prop
 |mk (i j:Int) (k:K (.int (f i j))):Iv f K (.int i) (.int j)
def Aj (k:Y1 (LR f v w) K):Iv f K v w:=by
 cases v with
 |int i=>cases w with
  |int j=>exact⟨i,j,k⟩
  |_=>exact k.elim
 |_=>exact k.elim
def K9 [Decidable p]:VR X h e (.int (if p then i else j)) (if p then .int i t else .int j u):=by
 by_cases q:p
 ·rw[WY q,WY q];exact⟨_⟩
 ·rw[WX q,WX q];exact⟨_⟩
def Iw (k:Y1 (hE b [v,w]) K) (R:HR X c) (h:dC X c v x) (e:dC X c w y) (p:gW d A) (q:PV X c K Q):wpAny (M X) A (call (.builtin (pj b)) [x,y]) Q bw c.s:=by
 have s: ∀r t,K (.bool r)→Q (.bool r) {c.s with toks:=t}:=fun r t k=>q.pX R (v:= .bool r) rfl k;induction b using BI.casesOn with
 |iE=>
  induction w using V.casesOn with
  |ty t=>rw[show y=_ from e];exact Io (Ew k) h.vt s
  |aG l=>exact Ev (Ew k) h.vt e s
  |_=>exact k.elim
 |max=>induction Aj k using Iv.casesOn with
  |mk i j m=>exact d8.casesOn h fun t=>d8.casesOn e fun u=>max_two_ints p.hh fun z g n=>q.keeps R (v:= .int (if i<j then j else i)) n K9 m
 |min=>induction Aj k using Iv.casesOn with
  |mk i j m=>exact d8.casesOn h fun t=>d8.casesOn e fun u=>min_two_ints p.hh fun z g n=>q.keeps R (v:= .int (if j<i then j else i)) n K9 m
 |_=>exact k.elim
def vT {oD:Array UInt8} (r:ItemsOf (fun i v=> ∃c u,oD[i]?=some c∧v= .int (c.toNat:Int) u) m oD.size):bZ X h t ((oD.toList.map UInt8.toNat).map fun(n:Nat)=>V.int n) m.toList:=by
 obtain⟨g,r⟩:=r;haveI gen: ∀(k:aN) (e:ax),k.length=e.length→(∀(i:Nat) v x,k[i]?=some v→e[i]?=some x→VR X h t v x)→bZ X h t k e:=by
  intro k;induction k with
  |nil=>intro e p _;cases e with
   |nil=>rfl
   |cons=>simp at p
  |cons v k j=>intro e p z;cases e with
   |nil=>simp at p
   |cons x e=>exact⟨x,e,z 0 v x rfl rfl,j e (by simpa using p) fun i w y q s=>z (i+1) w y (by simpa using q) (by simpa using s)⟩
 refine gen _ _ (by simp[g]) fun i v x q s=>?_;have l:m[i]?=some x:=by simpa using s
 obtain⟨c,u,a,rfl⟩:=r i x l;rw[Xk,Xk,ZN,a] at q;obtain rfl:=dL q;exact⟨u⟩
end
section
variable {K:V→Prop} {Q:Value→Shared→Prop}
def vU (R:HR X c) (p:PL X c K Q) {T:String} (q:T="list"∨T="tuple") (r:c.s.heap.get? s=some o) (t:o.cls= .type T) (hd:o.data= .seq h.toArray n) (x:dk X c e h) (m:e.length≤cV) (k:K (.ap e)):
  wpAny (M X) A (call (.type "list") [.ref s]) Q bw c.s:=
 call_list_seq _ q r t hd (fun u y v w=>
  have:=Go.list (W:=cS) (s':={c.s with heap:=u}) R v rfl rfl (aX _) w m x
  p _ _ (.list e) this.1 rfl (aX _) this.2 k) (x.sz m)
def Ak (k:Y1 (ju .list [v]) K) (R:HR X c) (r:dC X c v x) (m:PL X c K Q):wpAny (M X) A (call (.type "list") [x]) Q bw c.s:=by
 cases v with
 |aG p=>exact bh.casesOn r fun a r=>f8.casesOn r fun q ξ g h e=>vU R m (.inr rfl) g rfl rfl e h k
 |ap p=>exact bh.casesOn r fun a r=>dj.casesOn r fun n q ξ g h e=>vU R m (.inl rfl) g rfl rfl e h k
 |_=>exact k.elim
def PV.t7 (R:HR X c) (q:PV X c K Q) (g:a.natAbs<bz∧b.natAbs<bz) (k:K (.t7 a b)):Q (.ref c.s.heap.objs.size) {c.s with heap:=c.s.heap.push (yu a b t u v),toks:=z}:=
 q.keeps R (v:= .t7 a b) (aK _ _) ⟨_,_,_,_,(R.fresh (aX _)).2.1,g,Xd _ rfl⟩ k
def fresh_at (R:HR X c) {h:Heap} (e: ∀b o,c.s.heap.get? b=some o→h.get? b=some o):c.ow h.objs.size=none:=
 (R.fresh (by
  cases z:c.s.heap.get? h.objs.size with
  |none=>rfl
  |some o=>exact nomatch (aX h).symm.trans (e _ _ z))).2.1
def BZ (g:b.length≤bz) (k:K (.aG (b.map fun(n:Nat)=>V.int n))) (R:HR X c) (r:dC X c (.bytes b) x) (s:gW d A) (q:PV X c K Q):wpAny (M X) A (call (.type "tuple") [x]) Q bw c.s:=
 rV.casesOn r fun oD t e ξ=>by
  subst e;have h:oD.size≤cV:=by rw[WP,Array.length_toList] at g;exact WR g (bM aw)
  refine nb s.hh (WR h qd) fun u m p w i y z=>?_;exact q.uv R (v:= .aG ((oD.toList.map UInt8.toNat).map fun(n:Nat)=>V.int n)) (fun b o e=>aK _ _ _ _ (p b o e)) w y ⟨u.heap.objs.size,m.toList,fresh_at R p,by rw[Xd _ rfl],by simpa using h,vT z⟩ k
def Ey (S:Sys X) (q:h.length<bz) (k:K (.eR h m)) (R:HR X c) (r:dC X c (.eR h m) x) (s:PL X c K Q):wpAny (M X) A (call (.type "dict") [x]) Q bw c.s:=
 bh.casesOn r fun a r=>il.casesOn r fun t l ξ u g n v w=>by
  refine kt_call_dict (ZW u) g.dictOf (by rw[←WP (f:=(·.1)),n];exact WR (Xq q) (bM aw)) fun p y z=>?_;haveI i: ∀a o,c.s.heap.get? a=some o→p.get? a=some o:=fun a o e=>(z.2 _ (Ys (X8 e))).trans (aK _ _ a o e);obtain⟨b,j⟩:=y.dictAt
  have:=Go.dict (W:=cS) (s':={c.s with heap:=p}) R i rfl rfl (aX _) (R.Eg S (aX _)) j n v w;exact s _ _ (.dict h m) this.1 rfl (aX _) this.2 k
inductive Ez (K:V→Prop) (xs:aN):Prop
 |mk (ks:ah) (vs:aN) (e:dQ xs=some (ks,vs)) (hl:ks.length<bz) (k:K (.eR ks vs))
def EA (k:Y1 (ju .dict [.ap h]) K):Ez K h:=by
 change Y1 (match dQ h with|some (x,m)=>de (x.length<bz) (V.eR x m)|none=>none) K at k;cases e:dQ h with
 |none=>rw[e] at k;exact k.elim
 |some p=>rw[e] at k;have k:Y1 (de (p.1.length<bz) (V.eR p.1 p.2)) K:=k;exact⟨p.1,p.2,e,(bN k).1,(bN k).2⟩
def B0 (S:Sys X) (k:Y1 (ju .dict [.ap w]) K) (R:HR X c) (r:dC X c (.ap w) x) (y:gW d A) (z:PL X c K Q):wpAny (M X) A (call (.type "dict") [x]) Q bw c.s:=
 Ez.casesOn (EA k) fun m p i j k=>bh.casesOn r fun a r=>dj.casesOn r fun n e ξ g l q=>by
  refine ot y.hh g q (by rw[←q.length];exact WR l qd) i fun s t b f o B u v=>?_;obtain⟨D,C⟩:=B.dictAt;haveI h:p.length=m.length:=by rw[v.length,←u,WP,WP]
  have:=Go.dict (W:=cS) (s':=s) R b f o (aX _) (R.Eg S (aX _)) C u (h▸WR (Xq j) (bM aw)) v;exact z _ _ (.dict m p) this.1 rfl (aX _) this.2 k
def Ix (S:Sys X) (k:Y1 (ju t [v]) K) (R:HR X c) (r:dC X c v x) (w:gW d A) (q:PV X c K Q) (h:PL X c K Q):wpAny (M X) A (call (.type (m6 t)) [x]) Q bw c.s:=by
 induction t using TY.casesOn with
 |range=>
  cases v with
  |int n=>exact d8.casesOn r fun t=>call_range_1 (q.t7 R ⟨by exact bM aw,(bN k).1⟩ (bN k).2)
  |_=>exact k.elim
 |int=>
  cases v with
  |bool b=>
   rw[show x=_ from r];cases b with
   |true=>exact call_int_bool (q.pX R (v:= .int 1) ⟨_⟩ k)
   |false=>exact call_int_bool (q.pX R (v:= .int 0) ⟨_⟩ k)
  |_=>exact k.elim
 |bytes=>
  cases v with
  |bytes b=>exact rV.casesOn r fun oD t e z=>oq (q.here R (v:= .bytes b) ⟨oD,t,e,z⟩ k)
  |_=>exact k.elim
 |tuple=>
  cases v with
  |bytes b=>exact BZ (bN k).1 (bN k).2 R r w q
  |aG m=>obtain⟨a,p,o,g,s,u⟩:=id r;exact call_tuple_same ⟨_,g,rfl,0,rfl⟩ (q.here R r k)
  |ap m=>
   exact bh.casesOn r fun a r=>dj.casesOn r fun n p ξ g s u=>call_tuple_list (bK g) (fun y i=>
    have j: ∀b o,c.s.heap.get? b=some o→(y.push (dA p 0)).get? b=some o:=fun b o e=>aK _ _ _ _ (i b o e)
    q.keeps R (v:= .aG m) (t:=c.s.toks) j ⟨y.objs.size,p,fresh_at R i,Xd _ rfl,s,u.kp j⟩ k) (u.sz s)
  |_=>exact k.elim
 |list=>exact Ak k R r h
 |dict=>
  induction v using V.casesOn with
  |eR l m=>exact Ey S (bN k).1 (bN k).2 R r h
  |ap f=>exact B0 S k R r w h
  |_=>exact k.elim
 |_=>exact k.elim
def Iy (k:Y1 (ju t [v,w]) K) (R:HR X c) (r:dC X c v x) (h:dC X c w y) (q:PV X c K Q):wpAny (M X) A (call (.type (m6 t)) [x,y]) Q bw c.s:=by
 induction t using TY.casesOn with
 |range=>
  cases v with
  |int a=>
   cases w with
   |int b=>exact d8.casesOn r fun t=>d8.casesOn h fun u=>call_range_2 (q.t7 R (bN k).1 (bN k).2)
   |_=>exact k.elim
  |_=>exact k.elim
 |_=>exact k.elim
end
section
structure Nm where
 fj:List Str
 globs:List Str
 P:dO
def Cx.nm (X:Cx):Nm:=⟨X.fj,X.globs,X.P⟩
def ip (h o:Scope):Scope:=relabel h {scope:=o,locals:=0,globals:=0,cells:=[]}
def vV (e:Scope) (h:Env):relabel e h=ip e h.scope:=rfl
def cO (te:TE) (e:Scope) (h:Nat) (x:Str):TE:=
 {scope:=ip e te.scope,slots:=(te.slots.zipIdx).map fun(o,j)=>if j=h then some x else match o with
   |some y=>if(ip e te.scope).names.lookup y==some .cell then some y else none
   |none=>none}
structure Pt where
 t:Nat
 p:Pos
 ks:bX:=[]
 s:Str:=default
 c:Const:=default
 k:Nat:=0
 o:Operator:=default
 u:UnaryOp:=default
 b:BoolOp:=default
 os:List CmpOp:=[]
 kw:List Keyword:=[]
 oo:List (Option Expr):=[]
 g:List Comprehension:=[]
 sc:Scope:=default
def aF (x:Expr):Pt:=match x with
 | .Constant c k p=>{t:=0,p,c,k}
 | .Name s p=>{t:=1,p,s}
 | .BinOp l o r p=>{t:=2,p,o,ks:=[l,r]}
 | .UnaryOp u a p=>{t:=3,p,u,ks:=[a]}
 | .BoolOp b ks p=>{t:=4,p,b,ks}
 | .Compare l os rs p=>{t:=5,p,os,ks:=l::rs}
 | .IfExp c a b p=>{t:=6,p,ks:=[c,a,b]}
 | .Call g l kw p=>{t:=7,p,kw,ks:=g::l}
 | .Attribute o s p=>{t:=8,p,s,ks:=[o]}
 | .Subscript a b p=>{t:=9,p,ks:=[a,b]}
 | .Slice l u s p=>{t:=10,p,oo:=[l,u,s]}
 | .List ks p=>{t:=11,p,ks}
 | .Tuple ks k p=>{t:=12,p,ks,k}
 | .Dict oo ks p=>{t:=13,p,oo,ks}
 | .ListComp e g sc p=>{t:=14,p,g,sc,ks:=[e]}
 |_=>{t:=15,p:=default}
abbrev hd {α:Type} [Inhabited α] (l:List α):α:=l.headD default
def VZ (t:Nat) (w:Pt) (x:Expr):Expr:=match t with
 |0=> .Constant w.c w.k w.p
 |1=> .Name w.s w.p
 |2=> .BinOp (hd w.ks) w.o (hd w.ks.tail) w.p
 |3=> .UnaryOp w.u (hd w.ks) w.p
 |4=> .BoolOp w.b w.ks w.p
 |5=> .Compare (hd w.ks) w.os w.ks.tail w.p
 |6=> .IfExp (hd w.ks) (hd w.ks.tail) (hd w.ks.tail.tail) w.p
 |7=> .Call (hd w.ks) w.ks.tail w.kw w.p
 |8=> .Attribute (hd w.ks) w.s w.p
 |9=> .Subscript (hd w.ks) (hd w.ks.tail) w.p
 |10=> .Slice (hd w.oo) (hd w.oo.tail) (hd w.oo.tail.tail) w.p
 |11=> .List w.ks w.p
 |12=> .Tuple w.ks w.k w.p
 |13=> .Dict w.oo w.ks w.p
 |14=> .ListComp (hd w.ks) w.g w.sc w.p
 |_=>x
def hK (x:Expr):x=VZ (aF x).t (aF x) x:=by induction x using Expr.casesOn<;>rfl
def ak {a b:Bool} (h:(a&&b)=true):a=true∧b=true:=YL.mp h
def hZ {α:Type} [BEq α] [LawfulBEq α] {a b:α} (h:(a==b)=true):a=b:=XJ.mp h
def yI {a:Bool} (h:(!a)=true):a=false:=by induction a using Bool.casesOn<;>first|rfl|exact dh h
@[elab_as_elim] def sh {motive : Expr → Prop} (h : ((aF x).t == t) = true) (k : motive (VZ t (aF x) x)) : motive x := by
 have e:=hK x;rw[hZ h] at e;exact e▸k
@[elab_as_elim] def Hr {α : Type} [BEq α] [LawfulBEq α] {a b : α} {motive : α → Prop} (h : (a == b) = true) (k : motive b) : motive a := (hZ h).symm ▸ k
@[elab_as_elim] def nR {α : Type} {l : List α} {motive : List α → Prop} (h : l.isEmpty = true) (k : motive []) : motive l := (Yp.mp h).symm ▸ k
@[elab_as_elim] def EB {α : Type} {l : Option α} {motive : Option α → Prop} (h : l.isNone = true) (k : motive none) : motive l := (X1.mp h).symm ▸ k
@[elab_as_elim] def Al {α : Type} [Inhabited α] {l : List α} {motive : List α → Prop} (h : (l.length == 1) = true) (k : motive [hd l]) : motive l := by
 cases l with
 |nil=>exact dh h
 |cons a r=>cases r with
  |nil=>exact k
  |cons _ _=>exact dh h
@[elab_as_elim] def K' {α : Type} [Inhabited α] {l : List α} {motive : List α → Prop} (h : (l.length == 2) = true) (k : motive [hd l, hd l.tail]) : motive l := by
 cases l with
 |nil=>exact dh h
 |cons a r=>cases r with
  |nil=>exact dh h
  |cons b r=>cases r with
   |nil=>exact k
   |cons _ _=>exact dh h
abbrev Ck:=Expr→Bool
abbrev La:=bX→Bool
def vW (h:Const) (w:Pt):Bool:=w.t==0&&w.c==h
def fX (f:Str→Bool) (w:Pt):Bool:=w.t==1&&f w.s
def PZ (h:Operator) (ca C:Ck) (w:Pt):Bool:=w.t==2&&(w.o==h&&(ca (hd w.ks)&&C (hd w.ks.tail)))
def Iz (h:UnaryOp) (ca:Ck) (w:Pt):Bool:=w.t==3&&(w.u==h&&ca (hd w.ks))
def Lb (h:BoolOp) (ca:La) (w:Pt):Bool:=w.t==4&&(w.b==h&&ca w.ks)
def MD (h:List CmpOp) (ca:Ck) (C:La) (w:Pt):Bool:=w.t==5&&(w.os==h&&(ca (hd w.ks)&&C w.ks.tail))
def P0 (D ca C:Ck) (w:Pt):Bool:=w.t==6&&(D (hd w.ks)&&(ca (hd w.ks.tail)&&C (hd w.ks.tail.tail)))
def Am (h:Ck) (A:La) (w:Pt):Bool:=w.t==7&&(w.kw.isEmpty&&(h (hd w.ks)&&A w.ks.tail))
def sR (f:Str→Pos→Bool) (h:Ck) (w:Pt):Bool:=w.t==8&&(f w.s w.p&&h (hd w.ks))
def B1 (ca C:Ck) (w:Pt):Bool:=w.t==9&&(ca (hd w.ks)&&C (hd w.ks.tail))
def MF (A h e:Option Expr→Bool) (w:Pt):Bool:=w.t==10&&(A (hd w.oo)&&(h (hd w.oo.tail)&&e (hd w.oo.tail.tail)))
def P1 (ca:La) (w:Pt):Bool:=w.t==11&&ca w.ks
def vX (ca:La) (w:Pt):Bool:=w.t==12&&ca w.ks
def P2 (w:Pt):Bool:=w.t==13&&(w.oo.isEmpty&&w.ks.isEmpty)
def B2 (q:Str→Bool) (h:Ck) (A:La) (w:Pt):Bool:=Am (fun g=>sR (fun n p=>q n&&p.endLine==w.p.line) h (aF g)) (fun l=>A l&&decide (l.length<30)) w
variable {x:Expr} {ca C D:Ck} {A:La} {motive:Expr→Prop}
@[elab_as_elim] def sS (h : vW e (aF x) = true) (k : ∀ k p, motive (.Constant e k p)) : motive x :=
 sh (ak h).1 (Hr (motive:=fun c=>motive (.Constant c _ _)) (ak h).2 (k _ _))
@[elab_as_elim] def gw {f : Str → Bool} (h : fX f (aF x) = true) (k : ∀ n p, f n = true → motive (.Name n p)) : motive x :=
 sh (ak h).1 (k _ _ (ak h).2)
@[elab_as_elim] def P4 (h : PZ m ca C (aF x) = true) (k : ∀ l r p, ca l = true → C r = true → motive (.BinOp l m r p)) : motive x :=
 let e:=ak (ak h).2
 sh (ak h).1 (Hr (motive:=fun o=>motive (.BinOp _ o _ _)) e.1 (k _ _ _ (ak e.2).1 (ak e.2).2))
@[elab_as_elim] def An (h : Iz o0 ca (aF x) = true) (k : ∀ l p, ca l = true → motive (.UnaryOp o0 l p)) : motive x :=
 let e:=ak (ak h).2
 sh (ak h).1 (Hr (motive:=fun o=>motive (.UnaryOp o _ _)) e.1 (k _ _ e.2))
@[elab_as_elim] def EC (h : Lb m A (aF x) = true) (k : ∀ l p, A l = true → motive (.BoolOp m l p)) : motive x :=
 let e:=ak (ak h).2
 sh (ak h).1 (Hr (motive:=fun o=>motive (.BoolOp o _ _)) e.1 (k _ _ e.2))
@[elab_as_elim] def Lc {os : List CmpOp} (h : MD os ca A (aF x) = true) (k : ∀ l m p, ca l = true → A m = true → motive (.Compare l os m p)) : motive x :=
 let e:=ak (ak h).2
 sh (ak h).1 (Hr (motive:=fun o=>motive (.Compare _ o _ _)) e.1 (k _ _ _ (ak e.2).1 (ak e.2).2))
@[elab_as_elim] def P5 (h : P0 D ca C (aF x) = true) (k : ∀ l r q p, D l = true → ca r = true → C q = true → motive (.IfExp l r q p)) : motive x :=
 let e:=ak (ak h).2
 sh (ak h).1 (k _ _ _ _ e.1 (ak e.2).1 (ak e.2).2)
@[elab_as_elim] def ED (h : Am ca A (aF x) = true) (k : ∀ g l p, ca g = true → A l = true → motive (.Call g l [] p)) : motive x :=
 let e:=ak (ak h).2
 sh (ak h).1 (nR (motive:=fun o=>motive (.Call _ _ o _)) e.1 (k _ _ _ (ak e.2).1 (ak e.2).2))
@[elab_as_elim] def uJ {f : Str → Pos → Bool} (h : sR f ca (aF x) = true) (k : ∀ o n p, f n p = true → ca o = true → motive (.Attribute o n p)) : motive x :=
 sh (ak h).1 (k _ _ _ (ak (ak h).2).1 (ak (ak h).2).2)
@[elab_as_elim] def Ao (h : B1 ca C (aF x) = true) (k : ∀ l r p, ca l = true → C r = true → motive (.Subscript l r p)) : motive x :=
 sh (ak h).1 (k _ _ _ (ak (ak h).2).1 (ak (ak h).2).2)
@[elab_as_elim] def Ld {A m n : Option Expr → Bool} (h : MF A m n (aF x) = true) (k : ∀ l u s p, A l = true → m u = true → n s = true → motive (.Slice l u s p)) : motive x :=
 let e:=ak (ak h).2
 sh (ak h).1 (k _ _ _ _ e.1 (ak e.2).1 (ak e.2).2)
@[elab_as_elim] def P6 (h : P1 A (aF x) = true) (k : ∀ l p, A l = true → motive (.List l p)) : motive x := sh (ak h).1 (k _ _ (ak h).2)
@[elab_as_elim] def vY (h : vX A (aF x) = true) (k : ∀ l n p, A l = true → motive (.Tuple l n p)) : motive x := sh (ak h).1 (k _ _ _ (ak h).2)
@[elab_as_elim] def P7 (h : P2 (aF x) = true) (k : ∀ p, motive (.Dict [] [] p)) : motive x :=
 sh (ak h).1 (nR (motive:=fun o=>motive (.Dict o _ _)) (ak (ak h).2).1 (nR (motive:=fun o=>motive (.Dict _ o _)) (ak (ak h).2).2 (k _)))
@[elab_as_elim] def Le {q : Str → Bool} (h : B2 q ca A (aF x) = true) (k : ∀ o n e l p, A l = true → l.length < 30 → q n = true → ca o = true → (e.endLine == p.line) = true → motive (.Call (.Attribute o n e) l [] p)) : motive x :=
 let m:=ak (ak h).2
 sh (ak h).1 (nR (motive:=fun s=>motive (.Call _ _ s _)) m.1 (uJ (motive:=fun g=>motive (.Call g _ [] _)) (ak m.2).1 fun o n e r t=>k o n e _ _ (ak (ak m.2).2).1 (XY (ak (ak m.2).2).2) (ak r).1 t (ak r).2))
def b9:bX→Bool
 |[]=>true
 | .Starred _ _::_=>false
 |_::r=>b9 r
def jM (x:Expr):Bool:= !((aF x).t==7)&& !((aF x).t==15)
def fu (te:TE) (sc:Scope) (h:Nat) (x:Str):Bool:=
 decide (h<te.slots.length)&&sc.kind== .function&&sc.names.all (fun p=>p.2 != .cell)&&sc.names.all (fun p=>p.2 != .local||sc.names.lookup p.1==some .local)&&
  (sc.names.lookup x==some .local)&&(x !=("__debug__":Str))&&sc.names.all (fun p=>p.2 != .free||(te.kind p.1==some .cell&&te.slots.any (fun o=>o==some p.1)))&&x !=(".0":Str)
def gY (sc:Scope) (x y:Str):Bool:=
 sc.kind== .function&&sc.names.all (fun p=>p.2 != .cell&&p.2 != .free)&&sc.names.all (fun p=>p.2 != .local||sc.names.lookup p.1==some .local)&&
  (sc.names.lookup x==some .local)&&(sc.names.lookup y==some .local)&&(x !=("__debug__":Str))&&(y !=("__debug__":Str))
def yJ (x:Expr):Bool:= !((aF x).t==15)
def P8 (f:Str→Str→Scope→Bool) (k:Ck) (e:Expr) (m:Scope) (g h:Comprehension):Bool:=
 fX (fun z=>fX (fun x=>fX (fun y=>fX (fun v=>f x y m&&(z==y&&v==x)) (aF h.iter)) (aF h.target)) (aF g.target)) (aF e)&&(g.ifs.isEmpty&&(h.ifs.isEmpty&&(g.is_async==0&&(h.is_async==0&&(yJ g.iter&&k g.iter)))))
def P9 (f:Str→Str→Scope→Bool) (h:Ck) (w:Pt):Bool:=w.t==14&&(w.g.length==2&&P8 f h (hd w.ks) w.sc (hd w.g) (hd w.g.tail))
def MG (P:dO):E→Bool
 | .list _=>true
 | .dict0=>true
 | .comp .. =>true
 | .aS _ _ _=>true
 | .call f l=>match f with
  | .ae g=>match P.globs[g]? with
   |some (.ty .list)=>l.length==1
   |_=>false
  |_=>false
 |_=>false
def P' (s:Option Expr):Bool:=match s with
 |some m=>Iz .USub (fun k=>vW (.int 1) (aF k)) (aF m)
 |none=>false
def Lg (P:dO):E→Bool
 | .ae g=>match P.globs[g]? with
  |some (.ty _)=>true
  |some (.bi _)=>true
  |some (.bI _)=>true
  |_=>false
 |_=>false
def S1:LM→Nat
 | .vv=>0
 |_=>1
def S2:LM→String
 | .append=>"append"| .cN=>"extend"| .vv=>"pop"
def Qa (x:Expr):Bool:=let t:=(aF x).t;!(t==3||t==4||t==5||t==6)
def Dl:E→Expr→Bool
 | .bad,_=>true
 | .not _,_=>true
 | .ay ..,_=>true
 | .aE ..,_=>true
 | .jt ..,_=>true
 | .ite ..,_=>false
 |_,x=>Qa x
def MH:Bw→bX→Bool
 |e::B,x::h=>Dl e x&&MH B h
 |_,_=>true
def MJ (b:aL) (w:Pt):Bool:=w.t==0&&(w.c== .bytes (b.map UInt8.ofNat)&&((b.map UInt8.ofNat).map UInt8.toNat==b&&decide (b.length≤cV)))
def Qb (te:TE) (h:Nat) (e:Ck) (k:TE→Ck) (D:TE→La) (w:Pt):Bool:=w.t==14&&(w.g.length==1&&((hd w.g).is_async==0&&((yJ (hd w.g).iter&&e (hd w.g).iter)&&
 fX (fun n=>fu te w.sc h n&&(k (cO te w.sc h n) (hd w.ks)&&D (cO te w.sc h n) (hd w.g).ifs)) (aF (hd w.g).target))))
mutual
noncomputable def aW (N:Nm) (te:TE):E→Expr→Bool
 | .bad,_=>true
 | .none,x=>vW .none (aF x)
 | .tru,x=>vW (.bool true) (aF x)
 | .fls,x=>vW (.bool false) (aF x)
 | .int i,x=>vW (.int i) (aF x)
 | .str s,x=>vW (.str s) (aF x)
 | .bytes b,x=>MJ b (aF x)
 | .ae k,x=>fX (fun n=>N.globs[k]?==some n&&te.kind n==some .globalImplicit&&n !=("__debug__":Str)) (aF x)
 | .af i,x=>fX (fun n=>te.eG i n) (aF x)
 | .aS w a b,x=>PZ (nQ w) (fun y=>aW N te a y) (fun y=>aW N te b y) (aF x)
 | .neg a,x=>Iz .USub (fun y=>aW N te a y) (aF x)
 | .not a,x=>Iz .Not (fun y=>aW N te a y&&Dl a y) (aF x)
 | .ay p B,x=>Lb (if p then .And else .Or) (fun l=>dm N te B l&&MH B l) (aF x)
 | .aE a w b,x=>MD [fq w] (fun y=>aW N te a y) (fun h=>h.length==1&&(aW N te b (hd h)&& !behindInMarks (fq w) (hd h))) (aF x)
 | .jt a q b r c,x=>MD [fq q,fq r] (fun y=>aW N te a y) (fun h=>h.length==2&&(aW N te b (hd h)&&(aW N te c (hd h.tail)&& !lastMarks [fq q,fq r] [hd h,hd h.tail]))) (aF x)
 | .ite c a b,x=>P0 (fun y=>aW N te c y&&Dl c y) (fun y=>aW N te a y) (fun y=>aW N te b y) (aF x)
 | .call f args,x=>Am (fun y=>fX (fun ξ=>true) (aF y)&&aW N te f y&&Lg N.P f) (fun l=>dm N te args l&&b9 l) (aF x)
 | .dM o n args,x=>B2 (fun s=>N.fj[n]?==some s) (fun y=>jM y&&aW N te o y) (fun l=>dm N te args l&&b9 l) (aF x)
 | .bS o m args,x=>B2 (fun s=>args.length==S1 m&&s==Str.ofString (S2 m)) (fun y=>jM y&&aW N te o y) (fun l=>dm N te args l&&b9 l) (aF x)
 | .lZ o args,x=>B2 (fun s=>(args.length==1||args.length==2)&&s==Str.ofString "get") (fun y=>jM y&&aW N te o y) (fun l=>dm N te args l&&b9 l) (aF x)
 | .ai o n,x=>sR (fun s ξ=>N.fj[n]?==some s) (fun y=>jM y&&aW N te o y) (aF x)
 | .bp o i,x=>B1 (fun y=>aW N te o y) (fun y=>aW N te i y) (aF x)
 | .slice o lo j,x=>B1 (fun y=>aW N te o y) (fun y=>MF (fun l=>B3 N te lo l) (fun u=>B3 N te j u) (fun s=>s.isNone) (aF y)) (aF x)
 | .OL o,x=>B1 (fun y=>aW N te o y) (fun y=>MF (fun l=>l.isNone) (fun u=>u.isNone) P' (aF y)) (aF x)
 | .list B,x=>P1 (fun l=>dm N te B l&&b9 l&&decide (l.length≤1000)) (aF x)
 | .tuple B,x=>vX (fun l=>dm N te B l&&b9 l&&decide (l.length≤1000)) (aF x)
 | .dict0,x=>P2 (aF x)
 | .comp z v g cond,x=>Qb te v (fun y=>aW N te g y) (fun t y=>aW N t z y) (fun t l=>Qc N t cond l) (aF x)
 | .Bt _ g _,x=>P9 (fun n y d=>gY d n y) (fun y=>aW N te g y) (aF x)
 | .mut e,x=>MG N.P e&&aW N te e x
noncomputable def dm (N:Nm) (te:TE):Bw→bX→Bool
 |[],l=>l.isEmpty
 |e::B,l=>match l with|x::r=>aW N te e x&&dm N te B r|[]=>false
noncomputable def B3 (N:Nm) (te:TE):Option E→Option Expr→Bool
 |none,o=>o.isNone
 |some e,o=>match o with|some x=>aW N te e x|none=>false
noncomputable def Qc (N:Nm) (te:TE):Option E→bX→Bool
 |none,l=>l.isEmpty
 |some e,l=>l.length==1&&(aW N te e (hd l)&&Dl e (hd l))
end
variable {N:Nm} {te:TE} {a b c f o i:E} {B args:Bw}
@[elab_as_elim] def Ap {i : Nat} (h : aW N te (.ae i) x = true) (k : ∀ n p, N.globs[i]? = some n → te.kind n = some .globalImplicit → (n == ("__debug__" : Str)) = false → motive (.Name n p)) : motive x :=
 gw h fun n p h=>k n p (hZ (ak (ak h).1).1) (hZ (ak (ak h).1).2) (yI (ak h).2)
@[elab_as_elim] def EE {i : aL} (h : aW N te (.bytes i) x = true) (k : ∀ (l : List UInt8) k p, l.map UInt8.toNat = i → i.length ≤ cV → motive (.Constant (.bytes l) k p)) : motive x :=
 let e:=ak (ak h).2
 sh (ak h).1 (Hr (motive:=fun c=>motive (.Constant c _ _)) e.1 (k _ _ _ (hZ (ak e.2).1) (XY (ak e.2).2)))
@[elab_as_elim] def EF (h : aW N te (.aE a m b) x = true) (k : ∀ l r p, aW N te a l = true → aW N te b r = true → behindInMarks (fq m) r = false → motive (.Compare l [fq m] [r] p)) : motive x :=
 Lc h fun l q p n e=>Al (ak e).1 (k _ _ _ n (ak (ak e).2).1 (yI (ak (ak e).2).2))
@[elab_as_elim] def Aq (h : aW N te (.jt a e b m c) x = true) (k : ∀ l r q p, aW N te a l = true → aW N te b r = true → aW N te c q = true → lastMarks [fq e, fq m] [r, q] = false → motive (.Compare l [fq e, fq m] [r, q] p)) : motive x :=
 Lc h fun l u p t s=>let n:=ak (ak s).2;K' (ak s).1 (k _ _ _ _ t n.1 (ak n.2).1 (yI (ak n.2).2))
@[elab_as_elim] def EG {lo : Option E} (h : aW N te (.slice o lo m) x = true) (k : ∀ e l u n p, aW N te o e = true → B3 N te lo l = true → B3 N te m u = true → motive (.Subscript e (.Slice l u none n) p)) : motive x :=
 Ao h fun e r p t v=>Ld v fun l u s q w y z=>EB z (k _ _ _ _ _ t w y)
@[elab_as_elim] def IA {m : Option Expr → Prop} (h : P' s = true) (g : ∀ k p q, m (some (.UnaryOp .USub (.Constant (.int 1) k p) q))) : m s := by
 cases s with
 |none=>exact dh h
 |some s=>exact An (motive:=fun s=>m (some s)) (o0:= .USub) (ca:=fun k=>vW (.int 1) (aF k)) h fun l q h=>sS h fun k p=>g k p q
@[elab_as_elim] def MK (h : aW N te (.OL o) x = true) (g : ∀ m k p q n e, aW N te o m = true → motive (.Subscript m (.Slice none none (some (.UnaryOp .USub (.Constant (.int 1) k p) q)) n) e)) : motive x :=
 Ao h fun m r e t v=>Ld v fun l u s n w y z=>EB w (EB y (IA z fun k p q=>g m k p q n e t))
inductive Lh (N:Nm) (te:TE):Option E→bX→Prop
 |none:Lh N te none []
 |some (c:E) (c':Expr) (h1:aW N te c c'=true) (h2:Dl c c'=true):Lh N te (some c) [c']
def Qd {cond:Option E} (h:Qc N te cond e=true):Lh N te cond e:=by
 cases cond with
 |none=>cases Yp.mp h;exact .none
 |some c=>exact Al (ak h).1 (.some c _ (ak (ak h).2).1 (ak (ak h).2).2)
def EH {m:Comprehension→Prop} {f:Str→Bool} (h:fX f (aF g.target)=true) (e:(g.is_async==0)=true) (k: ∀n p,f n=true→m ⟨.Name n p,g.iter,g.ifs,0⟩):m g:=by
 induction g using Comprehension.casesOn with
 |mk t i f a=>exact gw (motive:=fun t=>m ⟨t,i,f,a⟩) h fun n p h=>Hr (motive:=fun a=>m ⟨.Name n p,i,f,a⟩) e (k n p h)
@[elab_as_elim] def uK {cond : Option E} (h : aW N te (.comp u e j cond) x = true) (k : ∀ q n np r s t p, fu te t e n = true → yJ r = true → aW N te j r = true → aW N (cO te t e n) u q = true →
  Lh N (cO te t e n) cond s→motive (.ListComp q [⟨.Name n np,r,s,0⟩] t p)):motive x:=
 let y:=ak (ak h).2
 let z:=ak y.2
 let v:=ak z.2
 sh (ak h).1 (Al (motive:=fun g=>motive (.ListComp _ g _ _)) y.1 (EH (m:=fun g=>motive (.ListComp _ [g] _ _)) v.2 z.1
  fun n p w=>k _ n p _ _ _ _ (ak w).1 (ak v.1).1 (ak v.1).2 (ak (ak w).2).1 (Qd (ak (ak w).2).2)))
@[elab_as_elim] theorem IB {J L : Nat} {w : E} (h : aW N te (.Bt J w L) x = true) (k : ∀ n y q j p r s t O, gY j n y = true → yJ q = true → aW N te w q = true →
  motive (.ListComp (.Name y p) [⟨.Name n r,q,[],0⟩,⟨.Name y s,.Name n t,[],0⟩] j O)):motive x:=
 let l:=ak (ak h).2
 let d:=ak l.2
 let G:=ak d.2
 let H:=ak G.2
 let I:=ak H.2
 let u:=ak I.2
 sh (ak h).1 (K' (motive:=fun g=>motive (.ListComp _ g _ _)) l.1 (gw (motive:=fun a=>motive (.ListComp a _ _ _)) d.1 fun z p e=>EH (m:=fun g=>motive (.ListComp (.Name z p) [g,_] _ _)) e I.1 fun n r e=>
  EH (m:=fun g=>motive (.ListComp (.Name z p) [_,g] _ _)) e u.1 fun y s e=>gw (motive:=fun a=>motive (.ListComp (.Name z p) [_,⟨_,a,_,_⟩] _ _)) e fun v t e=>
  nR (motive:=fun a=>motive (.ListComp (.Name z p) [⟨_,_,a,_⟩,_] _ _)) G.1 (nR (motive:=fun a=>motive (.ListComp (.Name z p) [_,⟨_,_,a,_⟩] _ _)) H.1
  (Hr (motive:=fun z=>motive (.ListComp (.Name z _) _ _ _)) (ak (ak e).2).1 (Hr (motive:=fun v=>motive (.ListComp _ [_,⟨_,.Name v _,_,_⟩] _ _)) (ak (ak e).2).2
  (k n y _ _ p r s t _ (ak e).1 (ak u.2).1 (ak u.2).2))))))
def yK (h:aW N te (.mut a) x=true):MG N.P a=true∧aW N te a x=true:=ak h
def f9 (h:dm N te [] l=true):l=[]:=Yp.mp h
def eK (h:dm N te (a::B) l=true):di (fun x=>aW N te a x=true) (fun r=>dm N te B r=true) l:=by
 cases l with
 |nil=>exact dh h
 |cons x r=>exact⟨x,r,(ak h).1,(ak h).2⟩
def IC (h:dm N te B l=true):B.length=l.length:=by
 induction B generalizing l with
 |nil=>rw[f9 h];rfl
 |cons a B e=>exact di.casesOn (eK h) fun x r ξ k=>W4 (· +1) (e k)
end
section
variable {A:Around} {c:Cf} {st:aN} {fr:Fr} {Qp:cy} {k:Kt} {R:Value→Shared→Prop} {te:TE} {env:Env} {ρ:Nat}
structure ia (X:Cx) (d:Nat) (te:TE) (A:Around) (env:Env) (ρ:Nat) (fr:Fr) (c:Cf):Prop where
 a:gW d A
 r:HR X c
 f:cL X te env ρ fr c
def ia.go (I:ia X d te A env ρ fr c) (g:Go X cS c h):ia X d te A env ρ fr h:=⟨I.a,g.hr,I.f.go g id id⟩
abbrev Nx (X:Cx) (c:Cf) (k:Kt) (st:aN) (fr:Fr) (Qp:cy) (R:Value→Shared→Prop):Prop:= ∀h v y,Go X cS c h→dC X h v y→k (v::st) fr h.H Qp→R y h.s
abbrev Ut (X:Cx) (c:Cf) (k:Kt) (st:aN) (fr:Fr) (Qp:cy) (R:Value→Shared→Prop):Prop:= ∀h v y,Go X cS c h→dC X h v y→v.ld=false→k (v::st) fr h.H Qp→R y h.s
abbrev Nl (X:Cx) (c:Cf) (k:Kt) (st:aN) (fr:Fr) (Qp:cy) (R:Value→Shared→Prop):Prop:= ∀h a o,Go X cS c h→c.s.heap.get? a=none→fW X h a o→k (o.val::st) fr h.H Qp→R (.ref a) h.s
def nf (g:Go X W c x) (h:x.s.heap.get? a=none):c.s.heap.get? a=none:=by
 cases z:c.s.heap.get? a with
 |none=>rfl
 |some o=>obtain⟨m,e⟩:=g.alive a o z;rw[h] at e;exact bH e
def Nx.pre (h:HR X c) (g:Go X cS c e) (n:Nx X c k st fr Qp R):Nx X e k st fr Qp R:=fun x v y m r q=>n x v y (Go.trans h g m) r q
def Nx.nl (x:HR X c) (n:Nx X c k st fr Qp R):Nl X c k st fr Qp R:=fun e a o g f l q=>by obtain⟨h,m,r,-⟩:=l.PD x g f;exact n ⟨h,e.s,e.H⟩ _ _ m r q
def Nx.pv (x:HR X c) (g:Go X cS c h) (n:Nx X c k st fr Qp R):PV X h (og k st fr h.H Qp) R:=fun m v y p e r q=>n m v y (Go.trans x g p) r (by rwa[e])
def Ut.pv (x:HR X c) (g:Go X cS c h) (n:Ut X c k st fr Qp R):PV X h (fun v=>og k st fr h.H Qp v∧v.ld=false) R:=fun m v y p e r q=>n m v y (Go.trans x g p) r q.2 (by rw[e];exact q.1)
def Nl.pl (x:HR X c) (g:Go X cS c h) (n:Nl X c k st fr Qp R):PL X h (og k st fr h.H Qp) R:=fun m a o p e f l q=>n m a o (Go.trans x g p) (nf g f) l (by rwa[e])
def Nx.pl (h:HR X c) (g:Go X cS c e) (n:Nx X c k st fr Qp R):PL X e (og k st fr e.H Qp) R:=(n.nl h).pl h g
set_option backward.match.sparseCases true in
def ML (Q:Value→Shared→Prop):Result→Shared→Prop:=fun r h=>match r with
 | .ok (.ret v)=>Q v h
 | .ok _=>False
 | .error e=>bw e h
abbrev gR (X:Cx) (C:bG) (d:Nat):Prop:= ∀⦃a:Nat⦄ ⦃vs:aN⦄ ⦃xs:ax⦄ ⦃A:Around⦄ ⦃c:Cf⦄ ⦃Q:V→Hp→Prop⦄ ⦃R:Value→Shared→Prop⦄,gW d A→HR X c→dk X c vs xs→C a vs c.H Q→
 (∀h v y,Go X cS c h→dC X h v y→Q v h.H→R y h.s)→codeAny (M X) A (.call (.ref a) ⟨xs,[]⟩) (ML R) c.s
abbrev SE (X:Cx) (C:bG) (d:Nat) (e:E):Prop:= ∀⦃te:TE⦄ ⦃x:Expr⦄ ⦃A:Around⦄ ⦃env:Env⦄ ⦃ρ:Nat⦄ ⦃fr:Fr⦄ ⦃c:Cf⦄ ⦃st:aN⦄ ⦃k:Kt⦄ ⦃Qp:cy⦄ ⦃R:Value→Shared→Prop⦄,aW X.nm te e x=true→ia X d te A env ρ fr c→ME X.P C e k st fr c.H Qp→
 Nx X c k st fr Qp R→wpAny (M X) A (eval x env) R bw c.s
abbrev SF (X:Cx) (C:bG) (d:Nat) (e:E):Prop:= ∀⦃te:TE⦄ ⦃x:Expr⦄ ⦃A:Around⦄ ⦃env:Env⦄ ⦃ρ:Nat⦄ ⦃fr:Fr⦄ ⦃c:Cf⦄ ⦃st:aN⦄ ⦃k:Kt⦄ ⦃Qp:cy⦄ ⦃R:Value→Shared→Prop⦄,aW X.nm te e x=true→ia X d te A env ρ fr c→ME X.P C e k st fr c.H Qp→
 Ut X c k st fr Qp R→Nl X c k st fr Qp R→wpAny (M X) A (eval x env) R bw c.s
abbrev ST (X:Cx) (C:bG) (d:Nat) (e:E):Prop:= ∀⦃te:TE⦄ ⦃x:Expr⦄ ⦃A:Around⦄ ⦃env:Env⦄ ⦃ρ:Nat⦄ ⦃fr:Fr⦄ ⦃c:Cf⦄ ⦃st:aN⦄ ⦃m n:Kt⦄ ⦃Qp:cy⦄ ⦃R:Bool→Shared→Prop⦄,aW X.nm te e x=true→Dl e x=true→ia X d te A env ρ fr c→MT X.P C e (ME X.P C e) m n st fr c.H Qp→
 (∀h,Go X cS c h→m st fr h.H Qp→R true h.s)→(∀h,Go X cS c h→n st fr h.H Qp→R false h.s)→wpAny (M X) A (isTrue x env (eval x env)) R bw c.s
abbrev Dm (X:Cx) (C:bG) (d:Nat) (e:Bw):Prop:= ∀⦃te:TE⦄ ⦃l:bX⦄ ⦃A:Around⦄ ⦃env:Env⦄ ⦃ρ:Nat⦄ ⦃fr:Fr⦄ ⦃c:Cf⦄ ⦃st:aN⦄ ⦃k:Kt⦄ ⦃Qp:cy⦄ ⦃R:ax→Shared→Prop⦄ ⦃pos:Pos⦄,dm X.nm te e l=true→b9 l=true→ia X d te A env ρ fr c→DE X.P C e k st fr c.H Qp→
 (∀h vs x,Go X cS c h→dk X h vs x→vs.length=e.length→k (vs.reverse++st) fr h.H Qp→R x h.s)→wpAny (M X) A (spliced (backTo pos (starEach l env))) R bw c.s
abbrev Qe (X:Cx) (C:bG) (d:Nat) (h:Bw):Prop:= ∀⦃q:Bool⦄ ⦃te:TE⦄ ⦃l:bX⦄ ⦃pos:Pos⦄ ⦃A:Around⦄ ⦃env:Env⦄ ⦃ρ:Nat⦄ ⦃fr:Fr⦄ ⦃c:Cf⦄ ⦃st:aN⦄ ⦃k:Kt⦄ ⦃Qp:cy⦄ ⦃R:Value→Shared→Prop⦄,dm X.nm te h l=true→ia X d te A env ρ fr c→Pm X.P C q h k st fr c.H Qp→
 Nx X c k st fr Qp R→wpAny (M X) A (eval (.BoolOp (if q then .And else .Or) l pos) env) R bw c.s
abbrev Qf (X:Cx) (C:bG) (d:Nat) (x:Bw):Prop:= ∀⦃q:Bool⦄ ⦃te:TE⦄ ⦃l:bX⦄ ⦃pos:Pos⦄ ⦃h:Sem Value⦄ ⦃A:Around⦄ ⦃env:Env⦄ ⦃ρ:Nat⦄ ⦃fr:Fr⦄ ⦃c:Cf⦄ ⦃st:aN⦄ ⦃m n:Kt⦄ ⦃Qp:cy⦄ ⦃R:Bool→Shared→Prop⦄,dm X.nm te x l=true→MH x l=true→ia X d te A env ρ fr c→SR X.P C q x m n st fr c.H Qp→
 (∀e,Go X cS c e→m st fr e.H Qp→R true e.s)→(∀e,Go X cS c e→n st fr e.H Qp→R false e.s)→wpAny (M X) A (isTrue (.BoolOp (if q then .And else .Or) l pos) env h) R bw c.s
def Li (h:SF X C d e):SE X C d e:=fun z1 z2 u w z i j l a x p s I m n=>h s I m (fun t v y g r ξ q=>n t v y g r q) (n.nl I.r)
def B4 (h:Qa x=true):isTrue x env w=(do let v←w;standAt x.pos;holding [v] (PySem.truthy v)):=by induction x using Expr.casesOn<;>first|rfl|exact dh h
@[elab_as_elim] def EI {K : Bool → Prop} {motive : Value → Prop} (m : Y1 (truthy v) K) (r : VR X h e v y) (q : ∀ b, K b → motive (.bool b)) : motive y := by
 cases v with
 |bool b=>exact(show y=_ from r)▸q b m
 |_=>exact m.elim
def uL {h e:Kt} {R:Bool→Shared→Prop} (m:x8 h e (v::st) fr c.H Qp) (r:dC X c v y) (x:h st fr c.H Qp→R true c.s) (n:e st fr c.H Qp→R false c.s):wpAny (M X) A (PySem.truthy y) R bw c.s:=
 EI (K:=ON h e st fr c.H Qp) m r fun b k ξ ξ ξ=>match b,k with
  |true,k=>x k
  |false,k=>n k
def qg {Q:Bool→Shared→Prop} (h:Q b s):wpAny (M X) A (PySem.truthy (.bool b)) Q bw s:=fun ξ ξ ξ=>h
def EJ (r:SE X C d e) (s: ∀w h n,MT X.P C e w h n=w (x8 h n)) (t: ∀x,Dl e x=Qa x):ST X C d e:=fun te x A env ρ fr c st h n Qp R u z I m g i=>by rw[s] at m;exact isTrue_plain (r u I m fun p v y q j l=>uL l j (g p q) (i p q)) (B4 ((t x).symm.trans z))
def Qg (q:SE X C d a) (s:SE X C d b):SF X C d (.aS B a b):=fun z1 z2 D G H J L N O t u v I m n w=>P4 v fun l r p z g=>wpAny_BinOp (q z I m fun Q x U e i j=>s g (I.go e) j fun Y y yv h f o=>HY o h.hr (i.go h) f (n.pv I.r (Go.trans I.r e h)) (w.pl I.r (Go.trans I.r e h)))
@[elab_as_elim] def Qh {motive : Value → Prop} (m : Pa k (v :: st) fr H Qp) (r : VR X h e v y) (q : ∀ i t, k (.int (-i) :: st) fr H Qp → motive (.int i t)) : motive y := by
 cases v with
 |int i=>exact d8.casesOn r fun t=>q i t m
 |_=>exact m.elim
def Qi (e:SE X C d a):SE X C d (.neg a):=fun z1 z2 z g j b f o B q r s I m n=>An s fun l p u=>UnaryOp_ (e u I m fun D x G h w y=>Qh y w fun i t m=>PyProof.Rows.neg_int ((n.pv I.r h).pX h.hr (v:= .int (-i)) ⟨_⟩ m))
@[elab_as_elim] def Qj {motive : Value → Prop} (m : Pb k (v :: st) fr H Qp) (r : VR X h e v y) (q : ∀ b, k (.bool (!b) :: st) fr H Qp → motive (.bool b)) : motive y := by
 cases v with
 |bool b=>exact(show y=_ from r)▸q b m
 |_=>exact m.elim
def Qk (h:SE X C d a):SE X C d (.not a):=fun z1 z2 w y z g i j f e q r I m n=>An r fun l p s=>UnaryOp_ (h (ak s).1 I m fun o x B t u v=>Qj v u fun b m=>not_of fun ξ ξ ξ=>n _ (.bool (!b)) _ t rfl m)
def Qm (e:ST X C d a):ST X C d (.not a):=fun z1 z2 u v w y z g i x n q r j I m s t=>An r fun l p h=>isTrue_not (e (ak h).1 (ak h).2 I m t s)
def xS: ∀(e:Value) (s:Shared),bw e s→bw e s:=fun ξ ξ f=>f
def vZ (m:LW e k (y::x::st) fr c.H Qp) (p:gW d A) (h:HR X c) (q:dC X c x s) (u:dC X c y v) (n: ∀r t,VN k st fr c.H Qp r→R (.bool r) {c.s with toks:=t}):wpAny (M X) A (compareOp (fq e) s v) R bw c.s:=by exact vS.casesOn (iP m h q) fun z m t1 ξ=>vS.casesOn (iP m h u) fun g m w ξ=>Ag m t1 w p n
def sT {a b:E} (w:SE X C d a) (z:SE X C d b) (g:aW X.nm te a l=true) (i:aW X.nm te b r=true) (I:ia X d te A env ρ fr c) (m:ME X.P C (.aE a j b) k st fr c.H Qp)
  (n: ∀s r,Go X cS c s→k (.bool r::st) fr s.H Qp→R (.bool r) s.s):wpAny (M X) A (eval l env) (fun a h=>wpAny (M X) A (eval r env) (fun b e=>wpAny (M X) A (compareOp (fq j) a b) R bw e) bw h) bw c.s:=
 w g I m fun G x H v f o=>z i (I.go v) o fun u y J p B D=>vZ D I.a p.hr (f.go p) B fun r t q=>n ⟨u.ow,{u.s with toks:=t},u.H⟩ r (Go.trans I.r (Go.trans I.r v p) (Go.pX p.hr)) q
def Qn (h:SE X C d a) (e:SE X C d b):SE X C d (.aE a z b):=fun z1 z2 i j f o B D G x s t I m n=>EF t fun l r p u v w=>wpAny_Compare1 (sT h e u v I m fun y r g q=>n y (.bool r) _ g rfl q) w
def Qo (n:SE X C d a) (s:SE X C d b):ST X C d (.aE a H b):=fun te x A env ρ fr c st t u Qp R w J I m y z=>
 EF w fun l r p i j f=>by
 rw[isTrue_Compare1,markedBehindIn_of_false f];haveI h:=sT (k:=x8 t u) (R:=fun v o=>wpAny (M X) A (PySem.truthy v) R bw o) n s i j I m fun e r g q=>uL (v:= .bool r) q rfl (y e g) (z e g);exact WQ (Xu h (fun a L B=>WQ (XE (Xu B (fun b N D=>WQ (XA (WQ (wpAny_operating (Xu D (fun c O G=>XE G) xS))))) xS))) xS)
def sU {a b:E} (L:SE X C d a) (N:SE X C d b) (O:SE X C d e) (Q:aW X.nm te a l=true) (U:aW X.nm te b r=true) (Y:aW X.nm te e q=true) (I:ia X d te A env ρ fr c) (m:ME X.P C (.jt a j b f e) k st fr c.H Qp)
  {Qs Ql:Value→Shared→Prop} (ns: ∀n,Go X cS c n→k (.bool false::st) fr n.H Qp→Qs (.bool false) n.s) (nl: ∀n r,Go X cS c n→k (.bool r::st) fr n.H Qp→Ql (.bool r) n.s):
  wpAny (M X) A (eval l env) (fun a u=>wpAny (M X) A (eval r env) (fun b v=>wpAny (M X) A (compareOp (fq j) a b) (fun c w=>wpAny (M X) A (PySem.truthy c) (fun t h=>
   if t then wpAny (M X) A (eval q env) (fun z g=>wpAny (M X) A (compareOp (fq f) b z) Ql bw g) bw h else Qs c h) bw w) bw v) bw u) bw c.s:=
 L Q I m fun c1 x xv G r1 m1=>N U (I.go G) m1 fun p y yv o H m2=>by
  haveI B:=Go.trans I.r G o;refine Ag m2 (r1.go o).vt H.vt I.a fun r t q=>?_
  have J:Go X cS p ⟨p.ow,{p.s with toks:=t},p.H⟩:=Go.pX o.hr;have s:=Go.trans I.r B J;cases r with
  |false=>exact fun ξ ξ ξ=>ns _ s q
  |true=>
   refine qg (O Y (I.go s) (c:=⟨p.ow,{p.s with toks:=t},p.H⟩) q fun D z zv i r4 m4=>?_)
   exact vZ m4 I.a i.hr ((H.go J).go i) r4 fun r t q=>nl ⟨D.ow,{D.s with toks:=t},D.H⟩ r (Go.trans I.r (Go.trans I.r s i) (Go.pX i.hr)) q
def MM (u:SE X C d a) (v:SE X C d b) (w:SE X C d e):SE X C d (.jt a y b z e):=fun te x A env ρ fr c st k Qp R i I m n=>
 Aq i fun l r q p j f o B=>by
 refine Compare_chain (Xu (sU (Qs:=R) (Ql:=R) u v w j f o I m (fun h g q=>n h (.bool false) _ g rfl q) fun h r g q=>n h (.bool r) _ g rfl q) (fun N O D=>chain_link (Xu D (fun Q U G=>Xu G (fun c Y H=>Xu H (fun t s4 s=>?_) xS) xS) xS)) xS) B;cases t with
 |false=>exact s
 |true=>exact chain_last s
def MN (w:SE X C d a) (y:SE X C d b) (z:SE X C d e):ST X C d (.jt a i b j e):=fun te x A env ρ fr c st f o Qp R B U I m D s=>
 Aq B fun l r q p G H J L=>by
 refine isTrue_chain (Xu (sU (k:=x8 f o) (Qs:=fun ξ n=>R false n) (Ql:=fun v n=>wpAny (M X) A (PySem.truthy v) R bw n) w y z G H J I m (fun h g q=>s h g q) fun h r g q=>uL (v:= .bool r) q rfl (D h g) (s h g))
  (fun av s1 N=>test_link (Xu N (fun bv s2 O=>Xu O (fun c s3 Q=>Xu Q (fun t s4 u=>?_) xS) xS) xS)) xS) L
 cases t with
 |false=>exact u
 |true=>exact test_last u
def Qq {c:E} (x:ST X C d c) (s:SE X C d a) (t:SE X C d b):SE X C d (.ite c a b):=fun z1 z2 j f o B D G H u v w I m n=>P5 w fun l r q p e y z=>IfExp_ (x (ak e).1 (ak e).2 I m (fun i g h=>s y (I.go g) h (n.pre I.r g)) fun i g h=>t z (I.go g) h (n.pre I.r g))
def MO:Qe X C d []:=fun z1 z2 p q r s t u v h e x n ξ ξ m ξ=>m.elim
def ID (w:SE X C d a) (i:Qe X C d j):Qe X C d (a::j):=fun q te l f A env ρ fr c st k Qp R o I m n=>
 di.casesOn (eK o) fun x r z s=>by
 cases j with
 |nil=>exact(f9 s).symm▸BoolOp_one (w z I m n)
 |cons b e=>
  exact di.casesOn (eK s) fun y B D G=>by
   have s:dm X.nm te (b::e) (y::B)=true:=YL.mpr ⟨D,G⟩;cases q with
   |true=>
    exact BoolOp_and (w z I m fun u v y p g h=>EI (K:=TF true (Pm X.P C true (b::e) k) k st fr u.H Qp) h g fun t h=>match t,h with
     |true,h=>qg (i (q:=true) s (I.go p) h (n.pre I.r p))
     |false,h=>fun ξ ξ ξ=>n u (.bool false) _ p rfl h)
   |false=>
    exact BoolOp_or (w z I m fun u v y p g h=>EI (K:=TF false (Pm X.P C false (b::e) k) k st fr u.H Qp) h g fun t h=>match t,h with
     |false,h=>qg (i (q:=false) s (I.go p) h (n.pre I.r p))
     |true,h=>fun ξ ξ ξ=>n u (.bool true) _ p rfl h)
def MP:Qf X C d []:=fun q te l e h A env ρ fr c st r s Qp R x t I m n p=>by
 cases f9 x
 induction q using Bool.casesOn
 ·exact isTrue_or_nil (p c (Go.refl I.r) m)
 ·exact isTrue_and_nil (n c (Go.refl I.r) m)
def IE (v:ST X C d a) (w:Qf X C d i):Qf X C d (a::i):=fun q te l j p A env ρ fr c st o B Qp R b n I m s t=>by
 obtain⟨x,r,y,z⟩:=eK b;cases q with
 |true=>exact isTrue_and (v y (ak n).1 I m (fun f h u=>w (q:=true) z (ak n).2 (I.go h) u (fun e g q=>s e (Go.trans I.r h g) q) fun e g q=>t e (Go.trans I.r h g) q) t)
 |false=>exact isTrue_or (v y (ak n).1 I m s fun f h u=>w (q:=false) z (ak n).2 (I.go h) u (fun e g q=>s e (Go.trans I.r h g) q) fun e g q=>t e (Go.trans I.r h g) q)
def EK (h:Qe X C d e):SE X C d (.ay q e):=fun z1 z2 u v w y z g i x r s I m n=>EC s fun l p t=>h (ak t).1 I m n
def EL (e:Qf X C d x):ST X C d (.ay q x):=fun z1 z2 w y z g i j a n r s t b I m u v=>EC t fun l p h=>e (ak h).1 (ak h).2 I m u v
end
section
variable {C:bG} {d:Nat} {st:aN} {k:Kt} {R:Value→Shared→Prop}
inductive Uu (X:Cx) (x:Str) (v:V):Prop
 |ae (y:Value) (h:X.mg x=some y) (r:VR X X.hb (fun ξ=>none) v y)
 |Ho (y:Value) (h1:X.mg x=none) (h2:X.mb x=some y) (r:VR X X.hb (fun ξ=>none) v y)
structure Glo (X:Cx):Prop extends Sys X where
 mg:X.hb.Ns mainGlobals X.mg
 mb:X.hb.Ns builtinsNs X.mb
 globs: ∀(k:Nat) (x:Str) (v:V),X.globs[k]?=some x→X.P.globs[k]?=some v→Uu X x v
 gobj: ∀(k a:Nat),X.P.globs[k]?=some (.bI a)→keepIn X.K (.ref a)=true
 enm:X.mg (Str.ofString "enumerate")=none∧X.mb (Str.ofString "enumerate")=some (.type "enumerate")
def HR.As (h:HR X c) (r:VR X X.hb (fun ξ=>none) v y):dC X c v y:=r.keep fun a o e ξ=>h.im a o e
def HR.EM (h:HR X c) (r:bZ X X.hb (fun ξ=>none) v y):dk X c v y:=r.keep fun a o e ξ=>h.im a o e
def sV (S:Glo X) {k:Nat} (I:ia X d p A m ρ i c) (q:X.globs[k]?=some x) (s:X.P.globs[k]?=some v) (t:p.kind x=some .globalImplicit) (hd:(x==("__debug__":Str))=false)
  (h: ∀y,dC X c v y→R y c.s):wpAny (M X) A (eval (.Name x u) m) R bw c.s:=by
 have F:=I.f;refine Name_function_global (F.scope.symm▸F.kind) ((F.kindOf x).trans t) ?_ hd;have n:c.s.heap.Ns m.globals X.mg:=by rw[F.ae];exact S.mg.at' fun o e=>(I.r.im _ o e).1
 induction S.globs k x v q s using Uu.casesOn with
 |ae y w r=>exact loadGlobal_global n w (h y (I.r.As r))
 |Ho y z g r=>exact loadGlobal_builtin n z (by rw[F.Ho];exact S.mb.at' fun o e=>(I.r.im _ o e).1) g (h y (I.r.As r))
def MQ (S:Glo X):SE X C d (.ae i):=fun z1 z2 z g j l a b c h e s I m n=>Ap s fun x p t u w=>(dD m).elim fun v q=>sV S I t q.1 u w fun y r=>n _ v y (Go.refl I.r) r q.2
def Qr:SE X C d (.af i):=fun z1 z2 u w z g j l a h e s I m n=>gw s fun x p t=>(dD m).elim fun v q=>BO I.f t q.1 fun y r=>n _ v y (Go.refl I.r) r q.2
def MR:SE X C d .none:=fun z1 z2 q r s t u v w h e x I m n=>sS x fun k p=>Hi (Zs ..) (WV (n _ .none _ (Go.refl I.r) rfl m))
def Qt:SE X C d .tru:=fun z1 z2 q r s t u v w h e x I m n=>sS x fun k p=>Hi (Zs ..) (WV (n _ (.bool true) _ (Go.refl I.r) rfl m))
def Qu:SE X C d .fls:=fun z1 z2 q r s t u v w h e x I m n=>sS x fun k p=>Hi (Zs ..) (WV (n _ (.bool false) _ (Go.refl I.r) rfl m))
def Qv:SE X C d (.int i):=fun z1 z2 q r s t u w y h e x I m n=>sS x fun k p=>Hi (Zs ..) (wpAny_mkInt ((n.pv I.r (Go.refl I.r)).pX I.r (v:= .int i) ⟨_⟩ m))
def Qw:SE X C d (.str i):=fun z1 z2 q r s t u w y h e x I m n=>sS x fun k p=>Hi (Zs ..) (wpAny_mkText ((n.pv I.r (Go.refl I.r)).pX I.r (v:= .str i) ⟨_⟩ m))
def IF:SE X C d (.bytes b):=fun z1 z2 r s t u w y g h x q I m n=>EE q fun l k p e z=>PySem.W.Constant_bytes ((n.pv I.r (Go.refl I.r)).pX I.r (v:= .bytes b) ⟨_,_,by simpa using e,z⟩ m)
def Qx:SE X C d .bad:=fun z1 z2 x n p q r s t h e ξ ξ m ξ=>m.elim
def dR (x:Env) (h:b9 (e::r)=true):starEach (e::r) x=(false,eval e x)::starEach r x∧b9 r=true:=by
 induction e using Expr.casesOn with
 |Starred=>exact dh h
 |_=>exact⟨rfl,h⟩
def v1 (h:b9 x=true):(backTo pos (starEach x env)).any (·.1)=false:=by
 induction x with
 |nil=>rfl
 |cons e r m=>rw[(dR env h).1];exact m (dR env h).2
def EN:Dm X C d []:=fun z1 z2 q r s t u v w h e x p ξ I m n=>by
 cases f9 p
 exact spliced_nil (n _ [] [] (Go.refl I.r) rfl rfl m)
def IG (s:SE X C d a) (t:Dm X C d u):Dm X C d (a::u):=fun H l A h ρ J c st k L R w z e I m n=>by obtain⟨x,r,g,i⟩:=eK z;rw[(dR h e).1];exact spliced_cons (s g I m fun N v y p j b=>t i (dR h e).2 (I.go p) b fun f o B q D G O=>n f (v::o) (y::B) (Go.trans I.r p q) (.cons (j.go q) D) (W4 (· +1) G) (by rwa[XU,WW]))
def EO {f:aN→aN→Prop}:vz e.length h (e++st) f=f (e.reverse++h) st:=by
 induction e generalizing h with
 |nil=>rfl
 |cons w e x=>show vz e.length (w::h) (e++st) f=_;rw[x,XU,WW];rfl
def oN {f:aN→aN→Prop} (x:e.length=n) (h:vz n [] (e.reverse++st) f):f e st:=by rw[←x,←Xi,EO,List.reverse_reverse,Xe] at h;exact h
inductive B5 (X:Cx):Value→Prop
 |ty (T:String):B5 X (.type T)
 |bi (i:String):B5 X (.builtin i)
 |bI (a:Nat) (h:keepIn X.K (.ref a)=true):B5 X (.ref a)
def IH (p:x.any (·.1)=false) {P:Shared→Prop}
  (h:wpAny (M X) A (spliced x) (fun n e=>P e∧wpAny (M X) A (call f (first++n)) R bw e) bw s):wpAny (M X) A (evalArgs f true x []) (fun a e=>P e∧wpAny (M X) A (call f (first++a.pos) a.kw) R bw e) bw s:=by
 cases x with
 |nil=>unfold evalArgs;show wpAny (M X) A (spliced []>>=_) _ bw s;exact WQ (Xu h (fun n e m=>XE (WQ (WV (WQ (WV (WV m)))))) xS)
 |cons t r=>
  obtain⟨b,t⟩:=t;cases b with
  |false=>exact evalArgs_plain h
  |true=>exact Hj p
def ku (S:Sys X) (q:b9 args=true) (p:B5 X f)
  (h:wpAny (M X) A (spliced (backTo e (starEach args m))) (fun r x=>X.K.In x.heap∧wpAny (M X) A (call f (first++r)) R bw x) bw s):wpAny (M X) A (callWith e f first (backTo e (starEach args m)) []) R bw s:=by
 have n:=v1 (env:=m) (pos:=e) q;haveI ev:=IH (P:=fun s=>X.K.In s.heap) n h;induction p using B5.casesOn with
 |ty T=>exact PyProof.Rows.callWith_type n (Xu ev (fun ξ ξ h=>h.2) xS)
 |bi i=>exact PySem.Calls.callWith_builtin n (Xu ev (fun ξ ξ h=>h.2) xS)
 |bI a p=>exact callWith_of (P:=fun h=>X.K.In h) (by simp[n]) (keeps_K p) ev
def v3 (h:gR X C d) (m:Y2 (C a e c.H) (SQ k st x p)) (q:gW d A) (s:HR X c) (r:dk X c e t) (n:Nx X c k st x p R):wpAny (M X) A (call (.ref a) t) R bw c.s:=
 wpAny_call (h q s r m.go n)
def MU (m:vA C k u c.H g h (.bi b::st)) (s:gW d A) (e:HR X c) (r:dk X c h x) (n:PV X c (og k st u c.H g) R):wpAny (M X) A (call (.builtin (pj b)) x) R bw c.s:=by
 cases h with
 |nil=>exact m.elim
 |cons v h=>
  exact di.casesOn r fun y x p r=>by
   cases h with
   |nil=>
    exact bZ.gV r (vS.casesOn (iP m e p) fun w m t ξ=>by
     by_cases q:b= .len
     ·subst q;exact Iq m e t n
     ·refine Iu q (show Y1 (hE b [v]) _ from ?_) e p s n
      induction b using BI.casesOn<;>first|exact m|exact(q rfl).elim)
   |cons w h=>
    exact di.casesOn r fun z x i r=>by
     cases h with
     |nil=>exact bZ.gV r (Iw m e p i s n)
     |cons _ _=>exact m.elim
def MV (S:Sys X) (m:vA C k x c.H p h (.ty t::st)) (u:gW d A) (q:HR X c) (r:dk X c h e) (n:PV X c (og k st x c.H p) R) (g:PL X c (og k st x c.H p) R):wpAny (M X) A (call (.type (m6 t)) e) R bw c.s:=by
 cases h with
 |nil=>exact m.elim
 |cons v h=>
  exact di.casesOn r fun y e s r=>by
   cases h with
   |nil=>exact bZ.gV r (Ix S m q s u n g)
   |cons w h=>
    exact di.casesOn r fun z e i r=>by
     cases h with
     |nil=>exact bZ.gV r (Iy m q s i n)
     |cons _ _=>exact m.elim
def B6 (S:Sys X) (q:gR X C d) (m:vA C k s c.H u v (f::st)) (e:gW d A) (h:HR X c) (x:dC X c f g) (r:dk X c v w) (n:Nx X c k st s u R):wpAny (M X) A (call g w) R bw c.s:=by
 have p:=Go.refl (W:=cS) h;cases f with
 |bI a=>rw[show g=_ from x];exact v3 q m e h r n
 |bi b=>rw[show g=_ from x];exact MU m e h r (n.pv h p)
 |ty t=>rw[show g=_ from x];exact MV S m e h r (n.pv h p) (n.pl h p)
 |_=>exact m.elim
def sW (h:fX (fun ξ=>true) (aF f)=true):eval (.Call f args [] e) x=(do callWith e (←eval f x) [] (backTo e (starEach args x)) []):=
 gw h fun n p ξ=>rfl
inductive B7:V→Prop
 |ty (t:TY):B7 (.ty t)
 |bi (b:BI):B7 (.bi b)
 |bI (a:Nat):B7 (.bI a)
inductive MW (P:dO):E→Prop
 |mk (g:Nat) (v:V) (e:P.globs[g]?=some v) (k:B7 v):MW P (.ae g)
def MX (h:Lg P f=true):MW P f:=by
 induction f using E.casesOn with
 |ae g=>
  change(match P.globs[g]? with|some (.ty _)=>true|some (.bi _)=>true|some (.bI _)=>true|_=>false)=true at h;cases e:P.globs[g]? with
  |none=>rw[e] at h;exact dh h
  |some v=>
   rw[e] at h;induction v using V.casesOn with
   |ty t=>exact⟨g,_,e,.ty t⟩
   |bi t=>exact⟨g,_,e,.bi t⟩
   |bI t=>exact⟨g,_,e,.bI t⟩
   |_=>exact dh h
 |_=>exact dh h
theorem II (S:Glo X) {i:Nat} (k:B7 v) (e:X.P.globs[i]?=some v) (r:VR X h x v y):B5 X y:=by
 induction k using B7.casesOn with
 |ty t=>exact(show y=_ from r)▸ .ty _
 |bi t=>exact(show y=_ from r)▸ .bi _
 |bI a=>exact(show y=_ from r)▸ .bI _ (S.gobj i a e)
def Uv:E→Nat
 | .ae g=>g
 |_=>0
def sX (S:Glo X) (o:Dm X C d args) (B:aW X.nm D (.call f args) x=true) (I:ia X d D A h ρ z c) (m:ME X.P C (.call f args) k st z c.H G)
  (q: ∀n v y s t,X.P.globs[Uv f]?=some v→Go X cS c n→dC X n v y→dk X n s t→vA C k z n.H G s (v::st)→wpAny (M X) A (call y t) R bw n.s):wpAny (M X) A (eval x h) R bw c.s:=
 ED B fun g l p H u=>by
  have j:=ak H;haveI a:=ak j.1;induction MX j.2 using MW.casesOn with
  |mk i v e J=>
  rw[sW a.1];exact Ap (motive:=fun g=>wpAny (M X) A (do callWith p (←eval g h) [] (backTo p (starEach l h)) []) R bw c.s) a.2 fun x p' L N O=>(dD (show Y1 X.P.globs[i]? _ from m)).elim fun Q b=>by
   cases(show some v=some Q from e.symm.trans b.1)
   exact WQ (sV S I L e N O fun y r=>ku S.toSys (ak u).2 (II S J e r) (o (ak u).1 (ak u).2 I b.2 fun U s t w Y hl m1=>⟨w.hr.kin S.toSys,q U v y s t e w (r.go w) Y (oN hl m1)⟩))
def EP (S:Glo X) (h:gR X C d) (e:Dm X C d args):SE X C d (.call f args):=fun z1 z2 t u w z i j l x p q I m n=>sX S e q I m fun a v y b c ξ g r s m=>B6 S.toSys h m I.a g.hr r s (n.pre I.r g)
inductive Uw (P:dO):E→Prop
 |mk (i:Nat) (e:P.globs[i]?=some (.ty .list)):Uw P (.ae i)
def MY (h:MG P (.call f args)=true):Uw P f:=by
 induction f using E.casesOn with
 |ae i=>
  change(match P.globs[i]? with|some (.ty .list)=>args.length==1|_=>false)=true at h;cases e:P.globs[i]? with
  |none=>rw[e] at h;exact dh h
  |some v=>
   rw[e] at h;induction v using V.casesOn with
   |ty t=>induction t using TY.casesOn with
    |list=>exact⟨i,e⟩
    |_=>exact dh h
   |_=>exact dh h
 |_=>exact dh h
def MZ (S:Glo X) (q:Dm X C d args) (s:MG X.P (.call f args)=true):SF X C d (.call f args):=fun o x A t ρ B c st k D R u I m n z=>
 sX S q u I m fun G v y h j e g r p m=>by
  haveI l:v= .ty .list:=by
   induction MY s using Uw.casesOn with
   |mk i a=>exact W7 (e.symm.trans a)
  subst l;rw[show y=_ from r];cases h with
  |nil=>exact m.elim
  |cons v h=>
   exact di.casesOn p fun y j b p=>by
    cases h with
    |nil=>exact bZ.gV p (Ak m g.hr b (z.pl I.r g))
    |cons w h=>induction h using List.casesOn<;>exact m.elim
end
section
variable {X:Cx} {d:Nat} {st:aN} {k:Kt}
def sY (e:jM o=true):attributeBase o name h (eval o h)=eval o h:=by induction o using Expr.casesOn<;>first|rfl|exact dh e
def M0 (S:Sys X) (l:SE X C d o):SE X C d (.ai o n):=fun G x A h ρ H c st k J R a I m b=>
 uJ a fun s name p f j=>by
  show wpAny (M X) A (do
   let u←attributeBase s name h (eval s h)
   standAt p.atName
   let r←holding [u] (PySem.getAttr u name true)
   letTemporaryGo s u r
   pure r) R bw c.s
  rw[sY (ak j).1]
  exact WQ (l (ak j).2 I m fun L v y w B i=>WQ (XA (WQ (XE (Ig.casesOn (uG i w.hr B) fun N O Q i t=>
   vP S (hZ f) i w.hr t fun D v z g e r q=>WQ (wpAny_letTemporaryGo (WV (b.pv I.r w D v z g e r q))))))))
def B8 (p:jM o=true) (q:b9 args=true) (r:args.length<30) (s:(x.endLine==e.line)=true):
  eval (.Call (.Attribute o name x) args [] e) h=(do
   let m←eval o h
   standAt x.atName
   let(f,first)←holding [m] (getMethod m name (do return (←importBound o h).getD true))
   callWith e f first (backTo e (starEach args h)) []):=by
 haveI n:methodCallForm (args.length+([]:List Keyword).length) (backTo e (starEach args h)) (backToKw e (keywordEach [] h))=true:=by show(List.all _ _&&true&&decide (args.length+0+0<30))=true;rw[←List.not_any_eq_all_not,v1 (env:=h) (pos:=e) q];exact Xz r
 show(do
  let m←attributeBase o name h (eval o h)
  standAt x.atName
  methodCall o name x e h m (args.length+([]:List Keyword).length) (backTo e (starEach args h)) (backToKw e (keywordEach [] h)))=_
 rw[sY p];congr 1;funext m;congr 1;funext _;unfold methodCall methodCallPos calleeOf;rw[n,s]
 rfl
def oO {q:Str→Bool} (g:B2 q (fun y=>jM y&&aW X.nm s o y) (fun l=>dm X.nm s args l&&b9 l) (aF x)=true) (i:SE X C d o) (I:ia X d s A p ρ u c) (m:ME X.P C o k st u c.H j)
  (h: ∀name e l a n v y,q name=true→dm X.nm s args l=true→b9 l=true→Go X cS c n→dC X n v y→k (v::st) u n.H j→wpAny (M X) A (getMethod y name a) (fun r b=>wpAny (M X) A (callWith e r.1 r.2 (backTo e (starEach l p)) []) R bw b) bw n.s):wpAny (M X) A (eval x p) R bw c.s:=by
 exact Le g fun L name w l e t f B z D=>Hi (B8 (ak z).1 (ak t).2 f D)
  (WQ (i (ak z).2 I m fun n v y G H J=>WQ (XA (WQ (XE (h name e l _ n v y B (ak t).1 (ak t).2 G H J))))))
inductive Qy (P:dO) (c n:Nat) (ns:aL) (vs:aN) (f:Nat):Prop
 |mk (eX:List (Nat×V)) (hc:P.cls c=some eX) (hl:lk n ns vs=none) (hf:eX.lookup n=some (.bI f))
def M1 (e:LP P c q r n=some f):Qy P c n q r f:=by
 unfold LP at e;cases x:P.cls c with
 |none=>rw[x] at e;exact bH e
 |some h=>
  rw[x] at e;cases m:lk n q r with
  |some _=>rw[m] at e;exact bH e
  |none=>
   rw[m] at e
   change(match h.lookup n with|some (.bI f)=>some f|_=>none)=some f at e;cases p:h.lookup n with
   |none=>rw[p] at e;exact bH e
   |some z=>
    rw[p] at e;cases z with
    |bI g=>exact⟨h,x,m,p.trans (W4 (fun f=>some (V.bI f)) (W7 e))⟩
    |_=>exact bH e
def EQ (v:vN X c x (some (.bI f))):findIn X.K (.ref c) x=some (some (.ref f))∧isFn X.K (.ref f)=true∧keepIn X.K (.ref f)=true:=match v with| .bI _ h e m=>⟨h,e,m⟩
def M2 (S:Sys X) (H:gR X C d) (J:SE X C d o) (N:Dm X C d args):SE X C d (.dM o n args):=fun te x A O ρ fr c st k Qp R Q I m U=>
 oO (q:=fun s=>X.fj[n]?==some s) Q J I m fun name Y l pl c1 v y hq h1 i p j h=>Ig.casesOn (uG h p.hr j) fun u b vs h t=>(dD h).elim fun f h=>Qy.casesOn (M1 h.1) fun w hc z hf=>by
  have B:=hZ hq;have K:=S.cls u w hc;have T:=(K.ai n name B).val;rw[hf] at T;have T:=EQ T;obtain⟨a,r⟩:=t;exact jH.casesOn r fun dd D G ys ξ ξ g e F rs=>by
   haveI In:InstAt c1.s.heap a (eW u dd) u (some (dictOf D G)):=⟨g,rfl,rfl,e⟩;haveI L:=Eh (n:=n) (ns:=b) rs;rw[z] at L;refine method_fn (p.hr.kin S) In K.ga K.Ul T.1 (XJ.mp T.2.1) ?_ ?_
   ·show(lookIn name (dictOf D G)).map _=_;rw[lookIn_dict,F.eX n name B,vO L];rfl
   ·exact ku S i (.bI f T.2.2) (N h1 i (I.go p) h.2 fun c2 ws zs e r2 z m2=>⟨e.hr.kin S,v3 H (oN z m2) I.a e.hr (.cons (j.go e) r2) (U.pre I.r (Go.trans I.r p e))⟩)
inductive Qz (H:Hp) (K:Nat→aN→Prop):V→Prop
 |mk (a:Nat) (xs:aN) (e:an H a=some (.list xs)) (k:K a xs):Qz H K (.ref a)
def M3 {K:Nat→aN→Prop} (h:OM H v K):Qz H K v:=by
 cases v with
 |ref a=>exact(Ai h).elim fun e q=>⟨a,e,q.1,q.2⟩
 |_=>exact h.elim
inductive Au (X:Cx) (C:bG) (d:Nat) (te:TE):Bw→bX→Prop
 |mk (w:E) (x:Expr) (h:aW X.nm te w x=true) (k:b9 [x]=true):Au X C d te [w] [x]
def Lj (e:args.length=1) (h:dm X.nm m args l=true) (n:b9 l=true):Au X C d m args l:=by
 cases args with
 |nil=>cases(e)
 |cons w p=>
  cases p with
  |cons _ _=>cases(e)
  |nil=>
   obtain⟨x,r,q,s⟩:=eK h;cases f9 s
   exact⟨w,x,q,n⟩
def QA (h:b9 [x]=true):backTo m (starEach [x] e)=backTo m [(false,eval x e)]:=by rw[(dR e h).1];rfl
def no_dict {h:Heap} (g:h.get? a=some (b5 x n)): ∀m,Value.ref a= .ref m→ ∃o,h.get? m=some o∧o.dict=none:=fun m e=>Value.ref.inj e▸⟨_,g,rfl⟩
def ER {l:bX} (c:S1 b=1) (I:ia X d f A q ρ u p) (e:an p.H a=some (.list H)) (z:SE X C d w) (i:aW X.nm f w x=true) (o:b9 [x]=true) (m:DE X.P C [w] (match b with| .append=>HD k|_=>DD k) (.ref a::st) u p.H B) (j:Nx X p k st u B R):
  wpAny (M X) A (getMethod (.ref a) (Str.ofString (S2 b)) J) (fun r D=>wpAny (M X) A (callWith s r.1 r.2 (backTo s (starEach [x] q)) []) R bw D) bw p.s:=
 El.casesOn (uF I.r e) fun n t g ξ ξ=>by
  rw[QA o];induction b using LM.casesOn with
  |append=>exact Zh ⟨_,g,rfl⟩ F.plainAttrs_list F.slot_list_append F.type_list_append (no_dict g) (yE I.r (fun G n=>z i I m fun h v y=>n h y v) fun h g m=>j h .none _ g rfl m)
  |cN=>exact Zh ⟨_,g,rfl⟩ F.plainAttrs_list F.slot_list_extend F.type_list_extend (no_dict g) (yF I.r (fun G n=>z i I m fun h v y=>n h y v) fun h g m=>j h .none _ g rfl m)
  |vv=>cases(c)
def M4 (I:ia X d i A q ρ p h) (e:an h.H a=some (.list j)) (m:HE k (.ref a::st) p h.H s) (t:Nx X h k st p s R):
  wpAny (M X) A (getMethod (.ref a) (Str.ofString "pop") l) (fun r u=>wpAny (M X) A (callWith w r.1 r.2 [] []) R bw u) bw h.s:=
 El.casesOn (uF I.r e) fun n x g ξ ξ=>Zh ⟨_,g,rfl⟩ F.plainAttrs_list F.slot_list_pop F.type_list_pop (no_dict g) (Ie I.r m fun z y v=>t z v y)
def M5 (I:ia X d i A n ρ y h) (e:an h.H a=some (.list f)) (z: ∀a∈args,SE X C d a) (p:args.length=S1 b) (q:dm X.nm i args l=true) (g:b9 l=true) (m:DE X.P C args (match b with| .append=>HD k| .cN=>DD k| .vv=>HE k) (.ref a::st) y h.H j) (s:Nx X h k st y j R):
  wpAny (M X) A (getMethod (.ref a) (Str.ofString (S2 b)) o) (fun r c=>wpAny (M X) A (callWith t r.1 r.2 (backTo t (starEach l n)) []) R bw c) bw h.s:=by
 induction b using LM.casesOn with
 |vv=>
  cases YC.mp p
  cases f9 q
  exact M4 I e m s
 |append=>induction Lj (C:=C) (d:=d) p q g using Au.casesOn with
  |mk w x u v=>exact ER (b:= .append) (l:=[]) rfl I e (z w (.head _)) u v m s
 |cN=>induction Lj (C:=C) (d:=d) p q g using Au.casesOn with
  |mk w x u v=>exact ER (b:= .cN) (l:=[]) rfl I e (z w (.head _)) u v m s
def IJ (p:SE X C d o) (r: ∀a∈args,SE X C d a):SE X C d (.bS o b args):=fun D x A t ρ G c st k H R u I m w=>
 oO (q:=fun s=>args.length==S1 b&&s==Str.ofString (S2 b)) u p I m fun name z l J L v y h g i n j f=>by
  rw[hZ (ak h).2];cases M3 f with
  |mk a N e B=>
  rw[show y=_ from j];exact M5 (I.go n) e r (hZ (ak h).1) g i (by induction b using LM.casesOn<;>exact B) (w.pre I.r n)
inductive Ux (Z:Prop):V→Prop
 |mk (ks:ah) (vs:aN) (z:Z):Ux Z (.eR ks vs)
def M6 (h:VP Z y):Ux Z y:=by
 induction y using V.casesOn with
 |eR e x=>exact⟨e,x,h⟩
 |_=>exact h.elim
inductive ES (X:Cx) (c:Cf) (R:Value→Shared→Prop) (a:Nat) (z zd:Value):Prop
 |mk (i:Int) (f:Int→Option Value) (h1:(intKind X.prog X.w).is i z=true) (h2:c.s.heap.MapOf (intKind X.prog X.w) a f) (h3:R ((f i).getD zd) {c.s with toks:=c.s.toks+1})
def v' (x:HR X h) (e:x6 h.H v (z3 k st m h.H n p dv)) (r:dC X h v (.ref a)) (s:dC X h p z) (u:dC X h dv y) (q:PV X h (og k st m h.H n) R):ES X h R a z y:=
 vS.casesOn (iP e x r) fun w e t ξ=>by
  induction Es e using Er.casesOn with
  |mk f o i A=>
  exact d8.casesOn s fun j=>il.casesOn (bh.Wo t) fun l B ξ C g b D c=>⟨i,_,Z6 X.prog X.w i j,g.dictOf.mapOf,q.pX x (Ih c u) (by rwa[b])⟩
inductive sZ (X:Cx) (te:TE):Bw→bX→Prop
 |one (w:E) (x:Expr) (h:aW X.nm te w x=true) (k:b9 [x]=true):sZ X te [w] [x]
 |V0 (w z:E) (x y:Expr) (h:aW X.nm te w x=true) (h':aW X.nm te z y=true) (k:b9 [x,y]=true):sZ X te [w,z] [x,y]
def QB (e:(args.length==1||args.length==2)=true) (p:dm X.nm q args l=true) (h:b9 l=true):sZ X q args l:=by
 cases args with
 |nil=>exact dh e
 |cons w s=>
  obtain⟨x,r,m,n⟩:=eK p;cases s with
  |nil=>cases f9 n;exact .one w x m h
  |cons z t=>
   obtain⟨y,r,u,v⟩:=eK n;cases t with
   |nil=>cases f9 v;exact .V0 w z x y m u h
   |cons _ _=>exact dh e
def ET (I:ia X d O A h ρ G n) (H:a≠sysModules) (J:n.s.heap.MapOf (intKind X.prog X.w) a (valueAt Q)) (L:dC X n v (.ref a)) (s: ∀a∈args,SE X C d a) (D:sZ X O args l) (m:DE X.P C args (match args with|[_]=>KW k|_=>KX k) (v::st) G n.H U) (N:Nx X n k st G U R):
  wpAny (M X) A (getMethod (.ref a) (Str.ofString "get") pl) (fun r Y=>wpAny (M X) A (callWith t r.1 r.2 (backTo t (starEach l h)) []) R bw Y) bw n.s:=by
 refine Zh J.typeIs F.plainAttrs_dict F.slot_dict_get F.type_dict_get J.noDict ?_;induction D using sZ.casesOn with
 |one u x g p=>rw[(dR h p).1];exact wpAny_dict_get1 (knd:=intKind X.prog X.w) (ZW H) (s u (.head _) g I m fun c2 kv z e o B=>ES.casesOn (v' (dv:= .none) e.hr B (L.go e) o rfl (N.pv I.r e)) fun i f a b c=>⟨i,f,a,b,c⟩)
 |V0 u w x y g h5 p=>rw[(dR h p).1,(dR h (dR h p).2).1];exact wpAny_dict_get2 (knd:=intKind X.prog X.w) (ZW H) (s u (.head _) g I m fun c2 kv z e o B=>s w (.tail _ (.head _)) h5 (I.go e) B fun c3 dv zd q r3 m3=>ES.casesOn (v' q.hr m3 ((L.go e).go q) (o.go q) r3 (N.pv I.r (Go.trans I.r e q))) fun i f a b c=>⟨i,f,a,b,c⟩)
def M7 (r:SE X C d o) (u: ∀a∈args,SE X C d a):SE X C d (.lZ o args):=fun L x A z ρ N c st k O R i I m j=>
 oO (q:=fun s=>(args.length==1||args.length==2)&&s==Str.ofString "get") i r I m fun name b l Q U v y n f B h p e=>vS.casesOn (iP e h.hr p) fun w e t ξ=>by
  rw[hZ (ak n).2];have D:=QB (ak n).1 f B;induction M6 e using Ux.casesOn with
  |mk Y vs G=>
  obtain⟨a,H,ep,_,J,g,_,_,_⟩:=id t;exact ET (I.go h) J g.dictOf.mapOf p u D (by induction D using sZ.casesOn<;>exact G) (j.pre I.r h)
def QC (s:SE X C d o) (u:SE X C d i):SE X C d (.bp o i):=fun z1 z2 A B D G H J L v z g I m n=>Ao g fun l r p j a=>aaa (s j I m fun N x O q b c=>u a (I.go q) c fun Q y U h f e=>vS.casesOn (iP e h.hr (b.go h)) fun w e t ξ=>HZ e h.hr t f (n.pv I.r (Go.trans I.r q h)))
def uM {lo:Option V} (h:HR X c) (r:dC X c x e) (p:VO X c lo l) (q:VO X c hi u) (m:x6 c.H x (Ph (og k st s c.H v) lo hi)) (n:Nx X c k st s v R):
  wpAny (M X) A (subscriptTail z i e (.ref c.s.heap.objs.size)) R bw {c.s with heap:=c.s.heap.push {cls:= .type "slice",data:= .fields #[l,u,.none]}}:=by
 have g:Go X cS c ⟨c.ow,{c.s with heap:=c.s.heap.push {cls:= .type "slice",data:= .fields #[l,u,.none]}},c.H⟩:=Go.keeps h (aK _ _)
 exact vS.casesOn (iP (c:=⟨c.ow,{c.s with heap:=c.s.heap.push {cls:= .type "slice",data:= .fields #[l,u,.none]}},c.H⟩) m g.hr (r.go g)) fun w m t y=>BS m g.hr t ⟨_,Xd _ rfl,rfl,rfl⟩ (p.go g) (q.go g) y (n.pv h g) (n.pl h g)
inductive QO (N:Nm) (te:TE):Option E→Option Expr→Prop
 |none:QO N te none none
 |some (e:E) (x:Expr) (h:aW N te e x=true):QO N te (some e) (some x)
def EU (h:B3 N m e x=true):QO N m e x:=by
 cases e with
 |none=>cases x with
  |none=>exact .none
  |some _=>exact dh h
 |some e=>cases x with
  |none=>exact dh h
  |some x=>exact .some e x h
def IK {lo:Option E} (i:SE X C d o) (D: ∀e,lo=some e→SE X C d e) (G: ∀e,v=some e→SE X C d e):SE X C d (.slice o lo v):=fun z1 z2 Y z4 z5 z6 z7 z8 z9 L N O I m n=>
 EG O fun o' l u sp p j c t=>by
  induction EU c using QO.casesOn with
  |none=>
   induction EU t using QO.casesOn with
   |none=>exact aaa (i j I m fun A x B h r s=>aag (WV (WV (WV (uM (lo:=none) (hi:=none) h.hr r rfl rfl s (n.pre I.r h))))))
   |some b u t=>exact aaa (i j I m fun A x B h r s=>aag (WV (G b rfl t (I.go h) s fun H y J q w g=>WV (uM (lo:=none) (hi:=some y) q.hr (r.go q) rfl w g (n.pre I.r (Go.trans I.r h q))))))
  |some a l c=>
   induction EU t using QO.casesOn with
   |none=>exact aaa (i j I m fun A x B h r s=>aag (D a rfl c (I.go h) s fun H y J q w g=>WV (WV (uM (lo:=some y) (hi:=none) q.hr (r.go q) w rfl g (n.pre I.r (Go.trans I.r h q))))))
   |some b u t=>exact aaa (i j I m fun A x B h r s=>aag (D a rfl c (I.go h) s fun H y J q w g=>G b rfl t ((I.go h).go q) g fun c3 z zv f Q U=>WV (uM (lo:=some y) (hi:=some z) f.hr ((r.go q).go f) (w.go f) Q U (n.pre I.r (Go.trans I.r (Go.trans I.r h q) f)))))
def QD (r:SE X C d o):SE X C d (.OL o):=fun z1 z2 i j l a b f A s t u I m n=>
 MK u fun B k p q D v w=>aaa (r w I m fun h x G e y z=>aag (WV (WV (UnaryOp_ (Hi (Zs ..) (wpAny_mkInt (PyProof.Rows.neg_int (by
  have g:Go X cS h ⟨h.ow,{h.s with heap:=h.s.heap.push {cls:= .type "slice",data:= .fields #[.none,.none,.int (-1) (h.s.toks+1)]},toks:=h.s.toks+1+1},h.H⟩:=Go.keeps e.hr (aK _ _)
  exact H5 (c:=⟨h.ow,{h.s with heap:=h.s.heap.push {cls:= .type "slice",data:= .fields #[.none,.none,.int (-1) (h.s.toks+1)]},toks:=h.s.toks+1+1},h.H⟩) z g.hr (y.go g).vt ⟨_,Xd _ rfl,rfl,rfl⟩ (n.pl I.r (Go.trans I.r e g))))))))))
def EV {e:aN} (h:(dm X.nm n x l&&b9 l&&decide (l.length≤1000))=true) (m:e.length=x.length):e.length≤1000:=by rw[m,IC (ak (ak h).1).1];exact XY (ak h).2
def f_list (s:Dm X C d t):SF X C d (.list t):=fun z1 z2 g i j a b c f u v w I m n y=>
 P6 w fun l p h=>List_ (s (ak (ak h).1).1 (ak (ak h).1).2 I m fun o A B e x q z=>
  have r:=WR (EV h q) (show 1000≤cV by exact bM aw)
  XV ((y.pl I.r e).list e.hr x r (oN q z)) (x.sz r))
def IL (s:Dm X C d t):SE X C d (.tuple t):=fun z1 z2 z g i j a b c u v w I m n=>
 vY w fun l ξ p h=>Tuple_ (s (ak (ak h).1).1 (ak (ak h).1).2 I m fun f o A e x q y=>
  have r:=WR (EV h q) (show 1000≤cV by exact bM aw)
  XV ((n.pv I.r e).aG e.hr x r (oN q y)) (x.sz r))
def IM (S:Sys X):SF X C d .dict0:=fun w x A r ρ y c st k z R s I m n t=>by
 refine P7 s fun p=>?_;have h:=aX c.s.heap;haveI u:(c.s.heap.push {cls:= .type "dict",data:= .dict #[]}).DictAt (intKind X.prog X.w) c.s.heap.objs.size [] 0:=
  ⟨_,_,Xd _ rfl,⟨rfl,rfl,rfl⟩,rfl,fun e v=>by simp at v,.nil,by simp⟩
 have q:=Go.dict (W:=cS) (s':={c.s with heap:=c.s.heap.push {cls:= .type "dict",data:= .dict #[]}}) (ks:=[]) (vs:=[]) I.r (aK _ _) rfl rfl h (I.r.Eg S h) u rfl (W8 _) rfl;exact wpAny_Dict_empty (t _ _ (.dict [] []) q.1 h q.2 m)
def QE (s:MG X.P e=true→SF X C d e):SE X C d (.mut e):=fun D x A t ρ G c st k H R u I m n=>by
 obtain⟨w,z⟩:=yK u;refine s w z I m (fun h v y g r i q=>?_) fun h a o g f l q=>?_
 ·induction v using V.casesOn<;>first|exact q.elim|exact Hj i
 ·haveI p:=l.Mg g.hr cS c I.r g f;induction o using Ob.casesOn with
  |list j=>exact n ⟨h.ow,h.s,.c a (.list j) h.H⟩ (.ref a) (.ref a) p rfl (q a l.p8)
  |dict b B=>exact n ⟨h.ow,h.s,.c a (.dict b B) h.H⟩ (.ref a) (.ref a) p rfl (q a l.p8)
  |inst _ _ _=>exact q.elim
end
section
variable {X:Cx} {c:Cf} {d I:Nat} {St:Nat→Heap→Prop}
abbrev Kp (c h:Cf):Prop:= ∀a o,c.s.heap.get? a=some o→c.ow a=none→h.s.heap.get? a=some o∧h.ow a=none
def QF (T:String):Bool:= !(["enumerate","zip","dict_itemiterator","dict_reverseitemiterator","odict_iterator","itertools.zip_longest","itertools.pairwise"].contains T)
inductive Av (h:Heap) (I:Nat):Prop
 |mk (o:Obj) (T:String) (vs:Array Value) (a:h.get? I=some o) (b:o.cls= .type T) (c:o.data= .fields vs) (d:QF T=true)
structure uN (X:Cx) (A:Around) (c0:Cf) (I:Nat) (xs:aN) (St:Nat→Heap→Prop):Prop where
 cl: ∀{i h},St i h→Av h I
 frame: ∀{i h h'},St i h→(∀o,h.get? I=some o→h'.get? I=some o)→St i h'
 item: ∀{i v} {c':Cf} {Q} {E:Value→Shared→Prop},xs[i]?=some v→St i c'.s.heap→Kp c0 c'→c'.ow I≠none→
  (∀y h' tk,VR X h' c'.ow v y→St (i+1) h'→(∀b o,b≠I→c'.s.heap.get? b=some o→h'.get? b=some o)→Q (some y) {c'.s with heap:=h',toks:=tk})→wpAny (M X) A (pyNext (.ref I)) Q E c'.s
 self: ∀{i s Q} {E:Value→Shared→Prop},St i s.heap→Q (.ref I) s→wpAny (M X) A (pyIter (.ref I)) Q E s
 done: ∀{c':Cf} {Q} {E:Value→Shared→Prop},St xs.length c'.s.heap→Kp c0 c'→
  (∀h' tk,(∀b o,b≠I→c'.s.heap.get? b=some o→h'.get? b=some o)→Q none {c'.s with heap:=h',toks:=tk})→wpAny (M X) A (pyNext (.ref I)) Q E c'.s
def uN.alive (W:uN X A x I k St) (e:St i h): ∃o,h.get? I=some o:=Av.casesOn (W.cl e) fun o ξ ξ a ξ ξ ξ=>⟨o,a⟩
structure Uy (X:Cx) (A:Around) (c0:Cf) (I:Nat) (wr:Nat→Prop) (EW:Expr) (xs:aN) (St:Nat→Heap→Prop):Prop where
 alive: ∀{i h a},St i h→wr a→ ∃o,h.get? a=some o
 frame: ∀{i h h'},St i h→(∀a o,wr a→h.get? a=some o→h'.get? a=some o)→St i h'
 item: ∀{i v} {c':Cf} {Q:Option Value→Shared→Prop} {E:Value→Shared→Prop},xs[i]?=some v→St i c'.s.heap→Kp c0 c'→HR X c'→(∀a,wr a→c'.ow a≠none)→
  (∀y h' tk,(∀{Q':Unit→Shared→Prop} {E':Value→Shared→Prop},(∀h'',VR X h'' c'.ow v y→St (i+1) h''→(∀b o,¬wr b→c'.s.heap.get? b=some o→h''.get? b=some o)→Q' () {c'.s with heap:=h'',toks:=tk})→
   wpAny (M X) A (letOwnedTupleGo EW (.ref I) y) Q' E' {c'.s with heap:=h',toks:=tk})→Q (some y) {c'.s with heap:=h',toks:=tk})→wpAny (M X) A (pyNext (.ref I)) Q E c'.s
 done: ∀{c':Cf} {Q:Option Value→Shared→Prop} {E:Value→Shared→Prop},St xs.length c'.s.heap→Kp c0 c'→
  (∀h' tk,(∀b o,¬wr b→c'.s.heap.get? b=some o→h'.get? b=some o)→Q none {c'.s with heap:=h',toks:=tk})→wpAny (M X) A (pyNext (.ref I)) Q E c'.s
set_option backward.match.sparseCases true in
theorem EX (W:uN X A u I w St) {Q:Unit→Shared→Prop} {E:Value→Shared→Prop} (m:St i s.heap) (h:Q () s):wpAny (M X) A (letOwnedTupleGo x (.ref I) v) Q E s:=by
 obtain⟨o,T,k,p,q,hd,t⟩:=W.cl m
 have e: ∀r:Value,wpAny (M X) A (do
   let(.ref r,.ref a):=((Value.ref I),r)|return
   let o←load r
   match o.cls,o.data with
   | .type n,.fields k=>
    if ["enumerate","zip","dict_itemiterator","dict_reverseitemiterator","odict_iterator","itertools.zip_longest","itertools.pairwise"].contains n&&k[0]?==some (rawInt a) then
     rule "for.unpacks-the-owned-tuple"
     updateField r 0 .none
   |_,_=>pure ():Sem Unit) Q E s:=fun r=>by
  induction r using Value.casesOn with
  |ref a=>refine WQ (wpAny_load p ?_);rw[q,hd];dsimp only;rw[show List.contains _ T=false from yI t,Bool.false_and];exact WV h
  |_=>exact WV h
 unfold letOwnedTupleGo;induction x using Expr.casesOn with
 |Tuple=>exact e v
 |List=>exact e v
 |_=>exact WV h
def uN.gen (W:uN X A r I s St):Uy X A r I (fun a=>a=I) t s St where
 alive:=fun h e=>e▸W.alive h
 frame:=fun h k=>W.frame h fun o e=>k I o rfl e
 item:=fun u h m g v n=>W.item u h m (v I rfl) fun y p w z x k=>n y p w fun q=>EX W x (q p z x k)
 done:=fun h m n=>W.done h m n
inductive iq (X:Cx) (A:Around) (c:Cf) (xs:aN):Value→Shared→Prop
 |mk (I:Nat) (St:Nat→Heap→Prop) (h':Heap) (t:Tok) (fr:c.s.heap.get? I=none) (kp: ∀b o,c.s.heap.get? b=some o→h'.get? b=some o) (W:uN X A c I xs St) (h0:St 0 h'):iq X A c xs (.ref I) {c.s with heap:=h',toks:=t}
theorem uO {i:Nat} (r:bZ X h k m n) (e:m[i]?=some v): ∃x,n.toArray[i]?=some x∧VR X h k v x:=
 (r.get e).elim fun x q=>⟨x,(ZM ..).trans q.1,q.2⟩
def VR.V1 (x:h.ow I≠none) (k: ∀b o,b≠I→h.s.heap.get? b=some o→m.get? b=some o) (r:dC X h v y):VR X m h.ow v y:=
 r.keep fun a o e n=>⟨k a o (fun q=>x (q▸n)) e,n⟩
theorem wa {a b:Int} {i:Nat} (h:(cG a b)[i]?=some v):v= .int (a+i):=by
 unfold cG dP at h;rw[XW,Xk] at h;obtain⟨k,e,rfl⟩:=Xy.mp h;rw[List.getElem?_range] at e
 ·obtain rfl:=dL e;rfl
 ·by_cases q:i<(b-a).toNat
  ·exact q
  ·rw[XN (by simpa using Nat.le_of_not_lt q)] at e;exact bH e
theorem EY {lo:Int} (G:gW d A) (b:lo.natAbs<bz∧x.natAbs<bz) (g:c.s.heap.get? a=some (yu lo x t u v)):wpAny (M X) A (pyIter (.ref a)) (iq X A c (cG lo x)) bw c.s:=by
 unfold bz at b;have f:Builtin.Range.rangeSize lo x 1=((x-lo).toNat:Int):=by unfold Builtin.Range.rangeSize;rw[WY (by exact aU aw),Int.ediv_one];split<;>omega
 haveI n:Builtin.Range.small lo x 1=true:=by
  have k: ∀i:Int,-(2^63)≤i→i<2^63→Builtin.Range.rangeFitsLong i=true:=fun i H J=>by unfold Builtin.Range.rangeFitsLong;rw[Xx];exact⟨Xz H,Xz J⟩
  unfold Builtin.Range.small;rw (config:={}) [f,k lo (by exact(lm 0x4c0250080280a0280a0280a0280a0280a02a0b6880722c0be2ac22880722c0be2ac02) b) (by exact(lm 0x280200a0280a0280a0280a0280a0280a828056880722c0be2ac22880722c0be2ac02) b),k x (by exact(lm 0x4c2250080280a0280a0280a0280a0280a02a0b6880722c0be2ac22880722c0be2ac02) b) (by exact(lm 0x280200a0280a0280a0280a0280a0280a828456880722c0be2ac22880722c0be2ac02) b),k 1 (by exact(ar 0x26122804014050140501405014050140501505 [] [])) (by exact(ar 0x1401005014050140501405014050140541424 [] [])),k _ (by exact(lm 0x4d6a8844012804014050140501405014050140501505)) (by exact(lm 0x50040140501405014050140501405015055aa2010456880722c0be2ac22880722c0be2ac02) b),WY (by exact aU aw),k (x+(1-1)) (by exact(lm 0x2700102250080280a0280a0280a0280a0280a02a0b6880722c0be2ac22880722c0be2ac02) b) (by exact(lm 0x140100501405014050140501405014054160020456880722c0be2ac22880722c0be2ac02) b),Bool.or_true]
  rfl
 have W:=Walks.range (prog:=X.prog) (w:=X.w) (A:=A) G.hh c.s.heap.objs.size lo 1 (x-lo).toNat;have C:(cG lo x).length=(x-lo).toNat:=by simp[cG,dP]
 refine wpAny_pyIter_range g n (.mk (t:=c.s.toks) _ (fun i h=>IsRangeIter h c.s.heap.objs.size (lo+(i:Nat)*1) (((x-lo).toNat:Int)-(i:Nat)) 1) _ (aX _) (aK _ _) ?_ ?_)
 ·refine⟨fun st=>⟨_,_,_,st,rfl,rfl,by exact aU aw⟩,fun st L=>L _ st,fun{i v p Q E} D st m O r=>?_,fun st q=>wpAny_pyIter_rangeiter st q,fun{p Q E} st m r=>?_⟩
  ·refine W.item i p.s Q E (by rw[←C];exact(Xf.mp D).1) st fun y s z N j m=>r y s z ?_ j fun b o l e=>m b o (by simpa using l) e;obtain⟨t,rfl⟩:=N;rw[wa D,Int.mul_one];exact⟨t⟩
  ·rw[C] at st;exact W.done p.s Q E st fun s z m=>r s z fun b o l e=>m b o (by simpa using l) e
 ·show Heap.get? _ _=_;rw[Xd _ rfl,f];simp[rawInt]
def yL {oD:Array UInt8} (B:gW d A):wpAny (M X) A (pyIter (.bytes oD t)) (iq X A c ((oD.toList.map UInt8.toNat).map fun(n:Nat)=>V.int n)) bw c.s:=by
 have W:=KBw.walks (prog:=X.prog) (w:=X.w) (A:=A) B.hh c.s.heap.objs.size oD t;have f:((oD.toList.map UInt8.toNat).map fun(n:Nat)=>V.int n).length=oD.size:=by simp
 refine KBw.pyIter_bytes (.mk (t:=c.s.toks) _ (fun i h=>KBw.IsBytesIter h c.s.heap.objs.size oD t i) _ (aX _) (aK _ _) ?_ ⟨_,Xd _ rfl,rfl,rfl⟩);refine⟨fun st=>let⟨o,a,b,c⟩:=st;⟨o,_,_,a,b,c,by exact aU aw⟩,fun st C=>let⟨o,e,r⟩:=st;⟨o,C o e,r⟩,fun{i v k Q E} m st x H p=>?_,fun st q=>KBw.pyIter_self st q,fun{k Q E} st x p=>?_⟩
 ·refine W.item i k.s Q E (by rw[←f];exact(Xf.mp m).1) st fun y s z D g x=>p y s z ?_ g fun b o j e=>x b o (by simpa using j) e;obtain⟨c,u,G,rfl⟩:=D;rw[Xk,Xk,ZN,G] at m;obtain rfl:=dL m;exact⟨u⟩
 ·rw[f] at st;exact W.done k.s Q E st fun s z x=>p s z fun b o j e=>x b o (by simpa using j) e
theorem EZ {a:Nat} (l:gW d A) (z:c.ow a=none) (g:c.s.heap.get? a=some (dA x 0)) (j:dk X c f x):wpAny (M X) A (pyIter (.ref a)) (iq X A c f) bw c.s:=by
 refine Zv ⟨_,g,rfl,0,rfl⟩ (.mk (t:=c.s.toks) _ (fun i h=>h.IsTupleIter c.s.heap.objs.size a i) _ (aX _) (aK _ _) ?_ ⟨_,Xd _ rfl,rfl,rfl⟩);refine⟨fun st=>let⟨o,a,b,c⟩:=st;⟨o,_,_,a,b,c,by exact aU aw⟩,fun st B=>st.at B,fun{i v m Q E} C st n D r=>?_,fun st q=>wpAny_pyIter_tupleiter st q,fun{m Q E} st n r=>?_⟩
 ·obtain⟨y,G,H⟩:=uO (j.keep n) C;refine wpAny_pyNext_tuple_item st ⟨_,(n _ _ g z).1,rfl,0,rfl⟩ G fun p s J=>?_;have k: ∀b o,b≠c.s.heap.objs.size→m.s.heap.get? b=some o→p.get? b=some o:=fun b o u e=>(J.2 _ u).trans e;exact r y p m.s.toks (VR.V1 D k H) s k
 ·exact wpAny_pyNext_tuple_end l.hh st ⟨_,(n _ _ g z).1,rfl,0,rfl⟩ (by rw[j.length];simp) fun p w=>r p m.s.toks fun b o u e=>w b o u e
theorem E0 {a n:Nat} (f:gW d A) (j:c.ow a=none) (g:c.s.heap.get? a=some (b5 x n)) (l:dk X c B x):wpAny (M X) A (pyIter (.ref a)) (iq X A c B) bw c.s:=by
 refine wpAny_pyIter_list (bK g) (.mk (t:=c.s.toks) _ (fun i h=>h.IsListIter c.s.heap.objs.size a i) _ (aX _) (aK _ _) ?_ ⟨_,Xd _ rfl,rfl,rfl⟩);refine⟨fun st=>let⟨o,a,b,c⟩:=st;⟨o,_,_,a,b,c,by exact aU aw⟩,fun st C=>st.at C,fun{i v m Q E} D st p G s=>?_,fun st q=>wpAny_pyIter_listiter st q,fun{m Q E} st p s=>?_⟩
 ·obtain⟨y,H,J⟩:=uO (l.keep p) D;refine wpAny_pyNext_list_item st (bK (p _ _ g j).1) H fun r u L=>?_;have k: ∀b o,b≠c.s.heap.objs.size→m.s.heap.get? b=some o→r.get? b=some o:=fun b o w e=>(L.2 _ w).trans e;exact s y r m.s.toks (VR.V1 G k J) u k
 ·exact wpAny_pyNext_list_end f.hh st (bK (p _ _ g j).1) (by rw[l.length];simp) fun r z=>s r m.s.toks fun b o w e=>z b o w e
def Kp.dict (k:Kp c m) (n:c.ow a=none) (g:c.s.heap.DictAt (intKind X.prog X.w) a x e):m.s.heap.DictAt (intKind X.prog X.w) a x e:=g.at' fun o h=>(k _ _ h n).1
def E1 (D:gW d A) (B:c.ow a=none) (G:a≠sysModules) (g:c.s.heap.DictAt (intKind X.prog X.w) a x e):wpAny (M X) A (pyIter (.ref a)) (iq X A c ((x.map (·.1)).map V.int)) bw c.s:=by
 haveI H:((x.map (·.1)).map V.int).length=x.length:=by simp
 refine wpAny_pyIter_dict (by simpa using G) g (.mk (t:=c.s.toks) _ (fun i h=>h.IsKeyIter c.s.heap.objs.size a i x.length e) _ (aX _) (aK _ _) ?_ ⟨_,Xd _ rfl,rfl,rfl⟩);refine⟨fun st=>let⟨o,a,b,c⟩:=st;⟨o,_,_,a,b,c,by exact aU aw⟩,fun st J=>st.at J,fun{i v n Q E} C st p U r=>?_,fun st q=>wpAny_pyIter_keyiter st q,fun{n Q E} st p r=>?_⟩
 ·rw[Xk,Xk] at C;obtain⟨k,s,rfl⟩:=Xy.mp C;obtain⟨⟨L,w⟩,u,y⟩:=Xy.mp s;obtain rfl:L=k:=y;refine wpAny_pyNext_dict_item st (p.dict B g) u fun N z m j O=>?_;obtain⟨t,rfl⟩:=Value.isInt_shape m;exact r _ z n.s.toks ⟨t⟩ j fun b o l e=>(O.2 _ l).trans e
 ·rw[H] at st;exact wpAny_pyNext_dict_end D.hh st (p.dict B g) (by simp) fun z f=>r z n.s.toks fun b o l e=>f b o l e
inductive wb (xs:aN):V→Prop
 |OS (b:aL) (e:xs=b.map fun(n:Nat)=>V.int n):wb xs (.bytes b)
 |t7 (lo hi:Int) (e:xs=cG lo hi):wb xs (.t7 lo hi)
 |eR (ks:ah) (vs:aN) (e:xs=ks.map V.int):wb xs (.eR ks vs)
 |aG:wb xs (.aG xs)
 |ap:wb xs (.ap xs)
def E2 (e:gU v=some x):wb x v:=by
 cases v with
 |bytes b=>exact .OS _ (W7 e).symm
 |t7 lo k=>exact .t7 _ _ (W7 e).symm
 |eR m h=>exact .eR _ _ (W7 e).symm
 |aG h=>exact W7 e▸ .aG
 |ap h=>exact W7 e▸ .ap
 |_=>exact bH e
def mq (k:gW d A) (e:gU v=some s) (r:dC X c v x):wpAny (M X) A (pyIter x) (iq X A c s) bw c.s:=by
 induction E2 e using wb.casesOn with
 |OS b m=>subst m;exact rV.casesOn r fun oD t e ξ=>e▸yL k
 |t7 lo z m=>subst m;exact bh.casesOn r fun a r=>HL.casesOn r fun t u v ξ b g=>EY k b g
 |eR i j m=>subst m;exact bh.casesOn r fun a r=>il.casesOn r fun w l p y g e ξ ξ=>e▸E1 k p y g
 |aG=>exact bh.casesOn r fun a r=>f8.casesOn r fun h p g ξ q=>EZ k p g q
 |ap=>exact bh.casesOn r fun a r=>dj.casesOn r fun n h p g ξ q=>E0 k p g q
def E3 (e:gU v=some s) (r:dC X c v x):s.length≤cV:=by
 induction E2 e using wb.casesOn with
 |OS b m=>subst m;exact rV.casesOn r fun oD t ξ h=>by rwa[WP]
 |t7 lo y m=>subst m;exact bh.casesOn r fun a r=>HL.casesOn r fun t u v ξ b g=>by unfold bz at b;unfold cV;simp[cG,dP];exact(lm 0x1301005495057962010456880722c0be2ac22880722c0be2ac02) b
 |eR i j m=>subst m;exact bh.casesOn r fun a r=>il.casesOn r fun w l q f g e z p=>by rw[p.length,WP] at z;rwa[WP,←e,WP]
 |aG=>exact bh.casesOn r fun a r=>f8.casesOn r fun k q g z p=>z
 |ap=>exact bh.casesOn r fun a r=>dj.casesOn r fun n k q g z p=>z
end
theorem lB: ∀(m:List (Str×NameKind)) (x:List (Str×Addr)) (f:Str×NameKind→List (Str×Addr)→Sem (ForInStep (List (Str×Addr)))),
  (∀name k v,f (name,k) v=if(k== .free)=true then(do let c←cellOf env name;pure (.yield ((name,c)::v))) else pure (.yield v))→
  (∀p∈m,p.2= .free→ ∃c,env.cells.lookup p.1=some c)→(∀p∈x,env.cells.lookup p.1=some p.2)→
  ∃s:List (Str×Addr),forIn m x f=pure s∧(∀p∈s,env.cells.lookup p.1=some p.2)∧(∀p∈x,p∈s)∧ ∀p∈m,p.2= .free→ ∃c,(p.1,c)∈s
 |[],x,f,n,_,t=>⟨x,List.forIn_nil ..,t,fun ξ h=>h,fun p hp=>nomatch hp⟩
 |(name,k)::r,x,f,n,w,t=>by
  rw[List.forIn_cons,n];by_cases q:(k== .free)=true
  ·rw[WY q];obtain⟨c,i⟩:=w (name,k) (.head _) (by simpa using q);haveI y:cellOf env name=pure c:=by unfold cellOf;rw[i]
   obtain⟨s,e,z,u,g⟩:=lB r ((name,c)::x) f n (fun p hp=>w p (.tail _ hp)) (fun p hp=>by
    rcases Xa.mp hp with rfl|hp
    ·exact i
    ·exact t p hp)
   refine⟨s,?_,z,fun p hp=>u p (.tail _ hp),fun p hp n=>?_⟩
   ·rw[y];show(pure c>>=_)>>=_=_;rwa[pure_bind,pure_bind]
   ·rcases Xa.mp hp with rfl|hp
    ·exact⟨c,u _ (.head _)⟩
    ·exact g p hp n
  ·rw[WX q];obtain⟨s,e,z,u,g⟩:=lB r x f n (fun p hp=>w p (.tail _ hp)) t;refine⟨s,?_,z,u,fun p hp n=>?_⟩
   ·rwa[pure_bind]
   ·rcases Xa.mp hp with rfl|hp
    ·exact absurd (by simpa using n) q
    ·exact g p hp n
theorem fb {α:Type}: ∀{l:List (Str×α)} {x:Str} {c:α},(x,c)∈l→ ∃m,l.lookup x=some m
 |(y,k)::r,x,c,h=>by
  rw[Yy];split
  ·exact⟨_,rfl⟩
  ·rename_i e;rcases Xa.mp h with h|h
   ·cases(h);simp at e
   ·exact fb h
def k7 (h: ∀p∈sc.names,p.2= .free→ ∃c,env.cells.lookup p.1=some c):
  ∃x:List (Str×Addr),closureFor sc env=pure x∧(∀p∈x,env.cells.lookup p.1=some p.2)∧ ∀p∈sc.names,p.2= .free→ ∃c,x.lookup p.1=some c:=by
 obtain⟨x,e,n,v,q⟩:=lB (env:=env) sc.names [] (fun p r=>match p with
   |(name,k)=>if(k==NameKind.free)=true then(do let c←cellOf env name;pure (ForInStep.yield ((name,c)::r))) else pure (ForInStep.yield r)) (fun ξ ξ ξ=>rfl) h (fun p m=>nomatch m)
 refine⟨x,?_,n,fun p m s=>let⟨c,t⟩:=q p m s;fb t⟩;unfold closureFor;show(forIn sc.names [] _>>=fun u=>pure u)=_;rw[e,pure_bind]
theorem iQ: ∀{x:List (Str×NameKind)} {y:Str},(∀p∈x,p.2≠ .cell)→
  (x.map fun(n,k)=>if(k==NameKind.free&&o.kind== .function&&Env.kindOf {scope:=o,locals:=0,globals:=0,cells:=[]} n==some .cell) then(n,NameKind.cell) else(n,k)).lookup y=some .cell→
  (y,NameKind.free)∈x∧o.names.lookup y=some .cell
 |[],_,_,h=>nomatch h
 |(n,k)::r,y,m,h=>by
  rw[XD] at h;by_cases q:(k==NameKind.free&&o.kind== .function&&Env.kindOf {scope:=o,locals:=0,globals:=0,cells:=[]} n==some .cell)=true
  ·simp only[q,if_true] at h;simp only[Xx,XJ] at q;obtain⟨⟨rfl,-⟩,t⟩:=q;rw[Yy] at h;split at h
   ·rename_i e;rw[XJ.mp e];exact⟨.head _,t⟩
   ·obtain⟨a,b⟩:=iQ (o:=o) (fun p s=>m p (.tail _ s)) h;exact⟨.tail _ a,b⟩
  ·simp only[q] at h;rw[Yy] at h;split at h
   ·obtain rfl:=dL h;exact absurd rfl (m _ (.head _))
   ·obtain⟨a,b⟩:=iQ (o:=o) (fun p s=>m p (.tail _ s)) h;exact⟨.tail _ a,b⟩
structure qh (te:TE) (sc:Scope) (eS:Nat) (x:Str):Prop where
 eS:eS<te.slots.length
 kind:sc.kind= .function
 uP: ∀p∈sc.names,p.2≠ .cell
 af: ∀p∈sc.names,p.2= .local→sc.names.lookup p.1=some .local
 Wt:sc.names.lookup x=some .local
 Wu:(x !=("__debug__":Str))=true
 free: ∀p∈sc.names,p.2= .free→te.kind p.1=some .cell∧ ∃i:Nat,te.slots[i]?=some (some p.1)
def B9 (h:fu r s k x=true):qh r s k x:=by unfold fu at h;simp only[Xx,Zi,XJ,YT,bne_iff_ne,XX] at h;obtain⟨⟨⟨⟨⟨⟨⟨t,u⟩,v⟩,w⟩,y⟩,z⟩,q⟩,a⟩:=h;refine⟨t,u,v,fun p m e=>(w p m).resolve_left fun n=>n e,y,by simpa using z,fun p m e=>⟨((q p m).resolve_left fun n=>n e).1,?_⟩⟩;haveI:=((q p m).resolve_left fun n=>n e).2;obtain⟨o,g,j⟩:=YS.mp this;obtain⟨i,l,rfl⟩:=Z0 g;exact⟨i,by rw[WS l,XJ.mp j]⟩
def iR (h:(cO m n k x).slots[i]?=some (some y)):
  (i=k∧y=x)∨(i≠k∧m.slots[i]?=some (some y)∧(ip n m.scope).names.lookup y=some .cell):=by
 unfold cO at h;dsimp only at h;rw[Xk,List.getElem?_zipIdx] at h;obtain⟨p,r,e⟩:=Xy.mp h;obtain⟨o,s,rfl⟩:=Xy.mp r;dsimp only at e;rw[X2] at e;by_cases q:i=k
 ·rw[WY q] at e;obtain rfl:=dL e;exact .inl ⟨q,rfl⟩
 ·rw[WX q] at e;cases o with
  |none=>exact bH e
  |some z=>
   dsimp only at e;split at e
   ·rename_i t;obtain rfl:=dL e;exact .inr ⟨q,s,by simpa using t⟩
   ·exact bH e
def g0 (K:qh e k h x):(cO e k h x).kind x=some .local:=ZU K.Wt
def E4 (K:qh k m e x):(cO k m e x).eG e x=true:=by
 haveI h:(cO k m e x).slots[e]?=some (some x):=by unfold cO;dsimp only;rw[Xk,List.getElem?_zipIdx,WS K.eS];simp
 unfold TE.eG;rw[h,g0 K,K.Wu,beq_self_eq_true];rfl
theorem E5: ∀{h:Fr} {n:Nat},h.nK n []=h
 | .e,_=>rfl
 | .u _,_=>rfl
 | .c _ _,_=>rfl
theorem yM: ∀{fr:Fr} {k i:Nat},(fr.nK k [k+i]).set i v=fr.set i v
 | .e,_,_=>rfl
 | .u r,k,i=>by
  show Fr.set (match Nat.beq k (k+i) with|true=> .u (r.nK (k+1) [])|false=> .u (r.nK (k+1) [k+i])) i v=_;cases i with
  |zero=>rw[show Nat.beq k (k+0)=true from Zm k];show Fr.c v (r.nK (k+1) [])=_;rw[E5];rfl
  |succ i=>rw[show Nat.beq k (k+(i+1))=false from yB (br 0x44a1008c2100401)];show Fr.u ((r.nK (k+1) [k+(i+1)]).set i v)=Fr.u (r.set i v);rw[show k+(i+1)=(k+1)+i by exact(br 0x128043008c018402308401),yM]
 | .c w r,k,i=>by
  show Fr.set (match Nat.beq k (k+i) with|true=> .u (r.nK (k+1) [])|false=> .c w (r.nK (k+1) [k+i])) i v=_;cases i with
  |zero=>rw[show Nat.beq k (k+0)=true from Zm k];show Fr.c v (r.nK (k+1) [])=_;rw[E5];rfl
  |succ i=>rw[show Nat.beq k (k+(i+1))=false from yB (br 0x44a1008c2100401)];show Fr.c w ((r.nK (k+1) [k+(i+1)]).set i v)=Fr.c w (r.set i v);rw[show k+(i+1)=(k+1)+i by exact(br 0x128043008c018402308401),yM]
def M8: ∀{x:Fr} {k i:Nat},(x.nK k [k+i]).get j=some w→j≠i∧x.get j=some w:=fun{x k i} h=>by
 refine⟨?_,oK h⟩;rintro rfl;haveI: ∀{x:Fr} {k i:Nat},(x.nK k [k+i]).get i=none:=fun{x}=>by
  induction x with
  |e=>exact rfl
  |u r m=>
   intro k i
   show Fr.get (match Nat.beq k (k+i) with|true=> .u (r.nK (k+1) [])|false=> .u (r.nK (k+1) [k+i])) i=_;cases i with
   |zero=>rw[show Nat.beq k (k+0)=true from Zm k];rfl
   |succ i=>rw[show Nat.beq k (k+(i+1))=false from yB (br 0x44a1008c2100401),show k+(i+1)=(k+1)+i by exact(br 0x128043008c018402308401)];exact m
  |c w r m=>
   intro k i
   show Fr.get (match Nat.beq k (k+i) with|true=> .u (r.nK (k+1) [])|false=> .c w (r.nK (k+1) [k+i])) i=_;cases i with
   |zero=>rw[show Nat.beq k (k+0)=true from Zm k];rfl
   |succ i=>rw[show Nat.beq k (k+(i+1))=false from yB (br 0x44a1008c2100401),show k+(i+1)=(k+1)+i by exact(br 0x128043008c018402308401)];exact m
 rw[this] at h;exact bH h
theorem oP: ∀{h:Fr} {i:Nat},(h.set i v).set i w=h.set i w
 | .e,_=>rfl
 | .u r,0=>rfl
 | .u r,i+1=>W4 Fr.u oP
 | .c _ r,0=>rfl
 | .c _ r,i+1=>W4 (Fr.c _) oP
@[reducible] def IN (X : Cx) (c k : Cf) (r : Fr) (n : TE) (env : Env) (ρ : Nat) (h : Env) (sc : Scope) (e : Nat) (x : Str) (q : List (Str × Addr)) (m : Str → Option Value) : Prop := ∀ (K : qh n sc e x) (F : cL X n env ρ r c) (g : Go X cS c k) (t : ∀ p ∈ q, env.cells.lookup p.1 = some p.2) (u : ∀ p ∈ sc.names, p.2 = .free → ∃ c, q.lookup p.1 = some c) (v : h.scope = relabel sc env) (w : c.s.heap.get? h.locals = none) (y : h.globals = env.globals) (z : h.cells = q) (i : h.builtins = env.builtins) (ns : k.s.heap.Ns h.locals m) (s : k.ow h.locals = some h.locals ∧ an k.H h.locals = none), cL X (cO n sc e x) h ρ (r.er [e]) k
abbrev IP:List Type:=[Cx,Cf,Cf,Fr,TE,Env,Nat,Env,Scope,Nat,Str,List (Str×Addr),Str→Option Value]
def QG:=eV IP IN ⟨vn,yw,yw,K4,Me,nI,nI,nI,nI,nI,nI,nI,nI,trivial⟩
def Uz:eU IP IN QG:=by
 injections QG X c Y J l t ρ d f h x L m;change IN X c Y J l t ρ d f h x L m;intro K F g h1 h2 es el eg D eb ns N;have A:(cO l f h x).scope=relabel f t:=by rw[vV,F.scope];rfl
 have p: ∀{y:Str},(ip f l.scope).names.lookup y=some .cell→l.kind y=some .cell∧ ∃c,L.lookup y=some c:=fun{y} e=>by obtain⟨a,b⟩:=iQ K.uP e;exact⟨b,h2 _ a rfl⟩
 have n: ∀{y:Str} {c:Addr},L.lookup y=some c→t.cells.lookup y=some c:=fun e=>h1 _ (mem_of_lookup e);have O:=F.go g id id;have get: ∀{i:Nat} {v:V},(J.er [h]).get i=some v→i≠h∧J.get i=some v:=fun e=>M8 (k:=0) (by rwa[X2]);have u:=g0 K;unfold TE.kind cO at u;dsimp only at u;refine⟨es.trans A.symm,?_,eg.trans F.ae,eb.trans F.Ho,⟨m,ns,fun i y v B s=>?_⟩,fun y z e=>?_,fun y y' z e e'=>?_,fun i y B s=>?_,fun i j y B s=>?_,N,O.pZ⟩
 ·show(ip f l.scope).kind=_;exact K.kind
 ·obtain⟨q,s⟩:=get s;rcases iR B with⟨rfl,rfl⟩|⟨q,G,w⟩
  ·exact absurd rfl q
  ·obtain⟨m0,n0,hs⟩:=O.ns;obtain⟨z,sv,r⟩:=hs i y v G s;obtain⟨hk,z',H⟩:=p w;rcases sv with⟨q1,_⟩|⟨_,Y,C,o,I,hd⟩
   ·rw[hk] at q1;cases(q1)
   ·rw[n H] at C;obtain rfl:=dL C;exact⟨z,.inr ⟨w,z',by rw[D];exact H,o,I,hd⟩,r⟩
 ·rw[D] at e;obtain⟨⟨v,o,I,hd⟩,h2,h3⟩:=F.D2 y z (n e);obtain⟨h4,h5,h6⟩:=O.D2 y z (n e);refine⟨h4,?_,h6⟩;intro q;rw[q,el] at I;exact bH I
 ·rw[D] at e e';exact F.na y y' z (n e) (n e')
 ·rcases iR B with⟨rfl,rfl⟩|⟨q,G,w⟩
  ·rw[g0 K] at s;cases(s)
  ·obtain⟨_,c,H⟩:=p w;exact⟨c,by rw[D];exact H⟩
 ·rcases iR B with⟨rfl,rfl⟩|⟨q,G,w⟩<;>rcases iR s with⟨rfl,q2⟩|⟨q',Q,U⟩
  ·rfl
  ·rw[U] at u;cases(u)
  ·subst q2;rw[w] at u;cases(u)
  ·exact F.inj i j y G Q
def M9:eB IP IN:=eA IP Uz
section
variable {X:Cx} {C:bG} {d:Nat} {A:Around} {c:Cf} {st:aN} {fr:Fr} {te:TE} {cenv:Env} {ρ eS I D:Nat} {x:Str} {sc:Scope}
variable {xs:aN} {St:Nat→Heap→Prop} {J:Nat→aN→Hp→Prop} {cond:Option E} {G:bX} {N:E} {B:Expr}
def B' {α:Type} {t:Sem α} {Q:α→Shared→Prop} {E:Value→Shared→Prop} (h:wpAny (M X) A t Q bw s):wpAny (M X) A t Q E s:=Xu h (fun ξ ξ q=>q) fun ξ ξ f=>f.elim
abbrev W3 (I D L:Nat):Nat→Prop:=fun r=>r=I∨r=D∨r=L
def E6 (P:dO) (C:bG) (cond:Option E):Kt→Kt→Kt:=match cond with
 | .none=>fun h ξ=>h
 |some c=>MT P C c (ME P C c)
structure M' (X:Cx) (te:TE) (cenv:Env) (ρ eS:Nat) (fr:Fr) (c:Cf) (I D:Nat) (St:Nat→Heap→Prop) (J:Nat→aN→Hp→Prop) (i:Nat) (ci:Cf):Prop where
 g:Go X (W3 I D cenv.locals) c ci
 F: ∃fr',cL X te cenv ρ fr' ci∧ ∀v,fr'.set eS v=fr.set eS v
 L: ∃us ys,J i us ci.H∧us.length≤i∧ci.s.heap.PlainList D ys∧dk X ci us ys.toList
 tI:Tu ci I I
 tD:Tu ci D D
 st:St i ci.s.heap
def E7 (t: ∀e,cond=some e→ST X C d e) (u:Lh X.nm te cond G) {n p:Kt} {R:Bool→Shared→Prop} (I:ia X d te A k ρ fr c) (m:E6 X.P C cond n p st fr c.H q)
  (s: ∀h,Go X cS c h→n st fr h.H q→R true h.s) (v: ∀h,Go X cS c h→p st fr h.H q→R false h.s):
  wpAny (M X) A (forIn G true fun c r=>if r=true then do let w←isTrue c k (eval c k);pure (ForInStep.yield w) else pure (ForInStep.yield r)) R bw c.s:=by
 induction u using Lh.casesOn with
 |none=>exact WV (s c (Go.refl I.r) m)
 |some e g y z=>exact wpAny_tests_one (t e rfl y z I m s v)
@[reducible] def IQ (X : Cx) (C : bG) (d : Nat) (A : Around) (c : Cf) (fr : Fr) (te : TE) (cenv : Env) (ρ eS I D : Nat) (x : Str) (sc : Scope) (xs : aN) (St : Nat → Heap → Prop) (J : Nat → aN → Hp → Prop) (cond : Option E) (G : bX) (N : E) (B it' : Expr) (px : Pos) (sc' : Scope) (pos : Pos) (RR : Result → Shared → Prop) : Prop := ∀ {c3 : Cf} (s : gW d A) (K : qh te sc eS x) (t : SE X C d N) (u : ∀ e, cond = some e → ST X C d e) (v : aW X.nm (cO te sc eS x) N B = true) (k : Lh X.nm (cO te sc eS x) cond G) (step : ∀ i x, xs[i]? = some x → ∀ vs H, J i vs H → E6 X.P C cond (ME X.P C N x7) bn [] (fr.set eS x) H (LV (J (i + 1)) vs)) (w : xs.length ≤ cV) (W : uN X A c I xs St) (y : HR X c) (z : c.s.heap.get? I = none) (g : c.s.heap.get? D = none) (l : c.s.heap.get? cenv.locals = none) (n : I ≠ D) (p : I ≠ cenv.locals) (q : D ≠ cenv.locals) (nI : I ≠ ρ) (a : D ≠ ρ) (r : ∀ h vs, Go X (W3 I D cenv.locals) c h → fW X h D (.list vs) → J xs.length vs h.H → Tu h cenv.locals cenv.locals → (∃ m, h.s.heap.Ns cenv.locals m) → RR (.ok .next) h.s) (j : M' X (cO te sc eS x) cenv ρ eS fr c I D St J 0 c3), codeAny (M X) A (.compLoop (.ListComp B [⟨.Name x px, it', G, 0⟩] sc' pos) 0 (.ref I) (.ref D) cenv) RR c3.s
abbrev Na:List Type:=[Cx,bG,Nat,Around,Cf,Fr,TE,Env,Nat,Nat,Nat,Nat,Str,Scope,aN,Nat→Heap→Prop,Nat→aN→Hp→Prop,Option E,bX,E,Expr,Expr,Pos,Scope,Pos,Result→Shared→Prop]
def QH:=eV Na IQ ⟨vn,nI,nI,xR,yw,K4,Me,nI,nI,nI,nI,nI,nI,nI,nI,nI,nI,nI,nI,nE,nI,nI,nI,nI,nI,nI,trivial⟩
def UA:eU Na IQ QH:=by
 injections QH X C d A c fr te cenv ρ eS I D x sc xs St J cond G N B it' px sc' pos RR;change IQ X C d A c fr te cenv ρ eS I D x sc xs St J cond G N B it' px sc' pos RR;intro c3 hA K he hc ck h3 step hz W hr fI fD fL r s hj nI nD h4 j;refine codeAny_compLoop_tests (fun n s'=> ∃i h,n=xs.length-i∧i≤xs.length∧s'=h.s∧M' X (cO te sc eS x) cenv ρ eS fr c I D St J i h) ?_ xs.length ⟨0,c3,rfl,W8 _,rfl,j⟩;clear j c3;rintro n s' ⟨i,h,rfl,hi,rfl,j⟩;obtain⟨g,⟨h9,F,h6⟩,⟨U,Y,hJ,hk,hq,hv⟩,tI,tD,hs⟩:=j;have hl:=g.hr;have ha:U.length≤cV:=by exact(bT 0x800602a4a82bca20c021106000843000c054950579401) hz hi hk
 by_cases u:i<xs.length
 ·have hn:xs[i]?=some xs[i]:=WS u;generalize xs[i]=v at hn;refine W.item hn hs g.k (by rw[tI.own];exact nofun) fun y h1 tk ry hf f=>?_;have ho: ∀b,b=I→ ∃o,h1.get? b=some o:=fun b e=>e▸W.alive hf;have g1:=Go.sL hl (wr:=fun b=>b=I) (fun a e=>e▸tI) rfl (t:=tk) ho f;haveI F1:=F.go g1 (fun e=>s e.symm) (fun e=>nI e.symm);have uI:=tI.sL (t:=tk) ho f;have uD:=tD.sL (t:=tk) ho f;haveI ht:h1.PlainList D Y:=let⟨L,e⟩:=hq;⟨L,f _ _ (X3 r) e⟩
  refine ZE (gv (c:=⟨h.ow,{h.s with heap:=h1,toks:=tk},h.H⟩) g1.hr F1 (E4 K) (fun e=>by rw[g0 K] at e;cases(e)) ry fun c2 k eH eO F2=>?_);rw[h6 v] at F2;have O:=uI.go g1.hr k s;have Q:=uD.go g1.hr k hj;have hg:c2.s.heap.PlainList D Y:=let⟨L,e⟩:=ht;⟨L,uD.un k hj e⟩;have hu:St (i+1) c2.s.heap:=W.frame hf fun o e=>uI.un k s e;have hw:Go X (W3 I D cenv.locals) c c2:=Go.trans hr g (Go.trans hl (g1.fM hl fun ξ ξ ξ e=> .inl e) (k.fM g1.hr fun ξ ξ ξ e=> .inr (.inr e)));have v2:=(hv.go g1).go k;haveI skip: ∀l,Go X cS c2 l→J (i+1) U l.H→ ∃m,m<xs.length-i∧ ∃i' h,m=xs.length-i'∧i'≤xs.length∧l.s=h.s∧M' X (cO te sc eS x) cenv ρ eS fr c I D St J i' h:=fun l H q=>
   ⟨xs.length-(i+1),by exact(br 0x462008431804600843108401) u,i+1,l,rfl,u,rfl,Go.trans hr hw (H.fM k.hr fun ξ ξ ξ e=>e.elim),⟨_,F2.go H id id,fun w=>oP⟩,⟨U,Y,q,by exact XZ hk,let⟨L,e⟩:=hg;⟨L,Q.un H id e⟩,v2.go H⟩,O.go k.hr H id,Q.go k.hr H id,
    W.frame hu fun o e=>O.un H id e⟩
  refine B' (E7 hc h3 ⟨hA,k.hr,F2⟩ (step i v hn U c2.H (by rw[eH];exact hJ)) (fun c3 g3 m3=>?_) fun c3 g3 m3=>by rw[WX W5];exact skip c3 g3 m3);rw[WY rfl];refine B' (he ck ⟨hA,g3.hr,F2.go g3 id id⟩ m3 fun l w z H r4 m4=>?_);have p:=Go.trans k.hr g3 H;have hx:=Q.go k.hr p id;haveI h7:=O.go k.hr p id;haveI hy:l.s.heap.PlainList D Y:=let⟨L,e⟩:=hg;⟨L,Q.un p id e⟩;haveI hm:cV≤sizeLine:=by rw[aaf];unfold cV;exact bM aw
  haveI h8:Y.size≤sizeLine:=by rw[←show U.length=Y.size from hv.length];exact WR ha hm
  refine wpAny_list_append_plain (hsz:=h8) hy fun h5 hh sb=>?_;have k5: ∀b o,b≠D→l.s.heap.get? b=some o→h5.get? b=some o:=fun b o hb e=>(sb.2 _ hb).trans e;have hp: ∀b,b=D→ ∃o,h5.get? b=some o:=fun b q=>let⟨L,e⟩:=hh;⟨_,q▸e⟩;have g5:=Go.sL H.hr (wr:=fun b=>b=D) (fun a e=>e▸hx) rfl (t:=l.s.toks) hp k5
  refine⟨xs.length-(i+1),by exact(br 0x462008431804600843108401) u,i+1,⟨l.ow,{l.s with heap:=h5,toks:=l.s.toks},l.H⟩,rfl,u,rfl,Go.trans hr hw (Go.trans k.hr (p.fM k.hr fun ξ ξ ξ e=>e.elim) (g5.fM H.hr fun ξ ξ ξ e=> .inr (.inl e))),
   ⟨_,(F2.go p id id).go g5 (fun e=>hj e.symm) (fun e=>nD e.symm),fun w=>oP⟩,⟨U++[w],Y.push z,m4,by rw[WO];show U.length+1≤_;exact(br 0x84023086011803008401) hk,hh,?_⟩,h7.sL hp k5,hx.sL hp k5,W.frame (W.frame hu fun o e=>O.un p id e) fun o e=>k5 _ o r e⟩
  rw[Array.toList_push];exact(((v2.go p).append (.one r4))).go g5
 ·haveI h0:i=xs.length:=by exact(br 0x904200a2210803008401) hi u
  subst h0;refine W.done hs g.k fun h' tk f=>?_;obtain⟨m,n,-⟩:=F.ns;haveI tL:Tu h cenv.locals cenv.locals:=⟨F.own.1,F.own.2,dW n⟩;obtain⟨h2,g',o1,o2⟩:=Go.last hr g (t:=tk) (wr:=fun b=>b=I) (fun a e=>e▸fI) (fun a e=>e▸tI) rfl f
  have al: ∀{b q},Tu h q b→q≠I→b≠I→Tu ⟨h2,{h.s with heap:=h',toks:=tk},h.H⟩ q b:=fun t n n'=>⟨o2 _ _ t.own n,t.p8,let⟨o,e⟩:=t.al;⟨o,f _ o n' e⟩⟩;obtain⟨L,e⟩:=hq
  refine h4 ⟨h2,{h.s with heap:=h',toks:=tk},h.H⟩ U g' ⟨⟨(al tD (X3 r) (X3 r)).own,⟨L,Y.toList,rfl,(f _ _ (X3 r) e).trans (by rw[ZS]),ha,hv.keep fun a o e n=>⟨f a o (fun q=>by rw[q,tI.own] at n;exact ph n) e,o1 a n⟩⟩,fun cl dd e'=>?_,trivial⟩,tD.p8⟩ hJ (al tL (X3 s) (X3 s)) ⟨m,n.at' fun o e=>f _ o (X3 s) e⟩;replace e':h'.get? D=some (eW cl dd):=e';rw[f _ _ (X3 r) e] at e';cases(e')
def UB:Prop:= ∀⦃X C d A c fr te cenv ρ eS I D x sc xs St J cond G N B it' px sc' pos RR⦄,IQ X C d A c fr te cenv ρ eS I D x sc xs St J cond G N B it' px sc' pos RR
def Ca:UB:=eA Na UA
end
section
variable {X:Cx} {C:bG} {d:Nat} {A:Around} {c O:Cf} {st:aN} {N:Fr} {Qp:cy} {k:Kt} {R:Value→Shared→Prop} {U:TE} {env:Env} {ρ B:Nat}
variable {cond:Option E} {H:bX} {G Q:E} {D it':Expr} {x:Str} {px pos:Pos} {sc:Scope}
def IS {N:Fr}:(N.er [i]).set i v=N.set i v:=by haveI:=yM (fr:=N) (k:=0) (i:=i) (v:=v);rw[X2] at this;exact this
def yN {x:Expr} (h:yJ x=true) (env:Env) (v:Value):foldedSetIterable x env v=pure v:=by induction x using Expr.casesOn<;>first|rfl|exact dh h
def fW.last {h:Ow} (l:fW X c a (.list s)) (p:a≠L) (u:Tu c L L) (k: ∀b o,b≠L→c.s.heap.get? b=some o→v.get? b=some o) (w: ∀b,c.ow b=none→h b=none) (y: ∀b q,c.ow b=some q→ ¬q=L→h b=some q):
  fW X ⟨h,{c.s with heap:=v,toks:=t},c.H⟩ a (.list s):=by
 obtain⟨⟨i,r,I,-⟩,j⟩:=l;exact dj.casesOn r fun n m ξ g z f=>⟨⟨y a a i p,⟨n,m,rfl,k a _ p g,z,f.keep fun b o e n=>⟨k b o (fun q=>by rw[q,u.own] at n;exact ph n) e,w b n⟩⟩,(fun J Y e=>nomatch (k a _ p g).symm.trans e),trivial⟩,j⟩
@[reducible] def IT (X : Cx) (C : bG) (d : Nat) (A : Around) (c : Cf) (st : aN) (N : Fr) (Qp : cy) (k : Kt) (R : Value → Shared → Prop) (U : TE) (env : Env) (ρ B : Nat) (H : bX) (G Q : E) (D it' : Expr) (x : Str) (px pos : Pos) (sc : Scope) : Prop := ∀ {cond : Option E} {use : Option (Value → Sem Unit)} (p : SE X C d Q) (q : SE X C d G) (r : ∀ e, cond = some e → ST X C d e) (s : fu U sc B x = true) (h0 : yJ it' = true) (t : aW X.nm U Q it' = true) (v : aW X.nm (cO U sc B x) G D = true) (w : Lh X.nm (cO U sc B x) cond H) (I : ia X d U A env ρ N c) (m : ME X.P C (.comp G B Q cond) k st N c.H Qp) (y : match use with
   |none=>Nl X c k st N Qp R
   |some u=> ∀O a L vs,Go X cS c O→c.s.heap.get? a=none→fW X O a (.list vs)→k (.ap vs::st) N O.H Qp→c.s.heap.get? L=none→Tu O L L→(∃m,O.s.heap.Ns L m)→a≠L→
    wpAny (M X) A (u (.ref a)) (fun ξ h=> ∃m,h.heap.Ns L m∧ ∀n,Heap.SameBut L h.heap n→R .none {h with heap:=n}) bw O.s),wpAny (M X) A (comprehension (.ListComp D [⟨.Name x px,it',H,0⟩] sc pos) sc env (firstIterPos [⟨.Name x px,it',H,0⟩] pos) (newList []) false (eval it' env) use) R bw c.s
abbrev Nb:List Type:=[Cx,bG,Nat,Around,Cf,aN,Fr,cy,Kt,Value→Shared→Prop,TE,Env,Nat,Nat,bX,E,E,Expr,Expr,Str,Pos,Pos,Scope]
def QI:=eV Nb IT ⟨vn,nI,nI,xR,yw,nI,K4,nI,nI,nI,Me,nI,nI,nI,nI,nE,nE,nI,nI,nI,nI,nI,nI,trivial⟩
def UC:eU Nb IT QI:=by
 injections QI X C d A c st N Qp k R U env ρ B H G Q D it' x px pos sc;change IT X C d A c st N Qp k R U env ρ B H G Q D it' x px pos sc;intro cond use hi he hc h1 h0 h2 h3 h4 I m hq;have K:=B9 h1;replace m:ME X.P C Q (KZ (E6 X.P C cond) (ME X.P C G) B k) st N c.H Qp:=by induction cond using Option.casesOn<;>exact m
 obtain⟨cl,z,c2,c3⟩:=k7 (env:=env) (sc:=sc) fun p hp hf=>by obtain⟨k,i,hi⟩:=K.free p hp hf;exact I.f.eG i p.1 hi k
 refine wpAny_comprehension_free (use:=use) rfl (fun v=>yN h0 env v) z K.kind K.af (hi h2 I m fun z v y g1 r1 m1=>?_);clear m;obtain⟨xs,e,J,j0,jn,js⟩:=dD m1;have R1:=g1.hr;refine B' (Xu (mq I.a e r1) (fun Q s2 h=>iq.casesOn h fun p St q t1 fI k1 W g=>?_) xS);refine XV ?_;generalize L:q.push {cls:= .type "list",dict:=none,data:= .seq ([]:ax).toArray}=s;have hD:s.get? q.objs.size=some (b5 [] 0):=by rw[←L];exact Xd _ rfl
 have k2: ∀b o,q.get? b=some o→s.get? b=some o:=fun b o e=>L▸aK _ _ b o e;haveI ho:s.objs.size=q.objs.size+1:=by rw[←L,Zl]
 clear L;refine wpAny_newFunctionEnv K.uP (fun y hy=>nomatch hy) (fun Y hh hj=>?_) K.kind;dsimp only at hh hj⊢;have k3: ∀b o,s.get? b=some o→Y.get? b=some o:=fun b o e=>(hj.2 _ (Ys (X8 e))).trans (aK _ _ b o e);clear hj;have fD:=aX q;have fL:=aX s;have iI:p<q.objs.size:=by obtain⟨o,e⟩:=W.alive g;exact X8 e
 have gI:Go X cS z ⟨lz z.ow p,{z.s with heap:=q,toks:=t1},z.H⟩:=Go.alloc R1 k1 rfl rfl fI (W.alive g)
 have gD:Go X cS ⟨lz z.ow p,{z.s with heap:=q,toks:=t1},z.H⟩ ⟨lz (lz z.ow p) q.objs.size,{z.s with heap:=s,toks:=t1},z.H⟩:=Go.alloc (s':={z.s with heap:=s,toks:=t1}) gI.hr k2 rfl rfl fD ⟨_,hD⟩
 have gL:Go X cS ⟨lz (lz z.ow p) q.objs.size,{z.s with heap:=s,toks:=t1},z.H⟩ ⟨lz (lz (lz z.ow p) q.objs.size) s.objs.size,{z.s with heap:=Y,toks:=t1+0},z.H⟩:=Go.alloc (s':={z.s with heap:=Y,toks:=t1+0}) gD.hr k3 rfl rfl fL (dW hh);have tI:Tu _ p p:=Tu.go gD.hr (Tu.go gI.hr ⟨iN,(R1.fresh fI).1,W.alive g⟩ gD id) gL id;have tD:Tu _ q.objs.size q.objs.size:=Tu.go gD.hr ⟨iN,(gI.hr.fresh fD).1,⟨_,hD⟩⟩ gL id;have j:=nf gI fD;have f:=nf gI (nf gD fL);have hl:=Go.trans R1 gI (Go.trans gI.hr gD gL);have F1:=I.f.go g1 id id;obtain⟨-,hs,hn⟩:=F1.pZ;have ha:q.objs.size<s.objs.size:=by rw[ho];exact Xr _
 have hk:q.objs.size≠s.objs.size:=Ys ha
 have F3:cL X (cO U sc B x) {newEnv sc s.objs.size env.globals cl env.qual none .none (some env) builtinsNs with scope:=relabel sc env} ρ (N.er [B]) _:=
  M9 K F1 hl c2 c3 rfl f rfl rfl rfl hh ⟨iN,(gD.hr.fresh fL).1⟩
 have hb:=Ca (RR:=compPost (M X) A bw use R (.ref q.objs.size) s.objs.size) (px:=px) (it':=it') (sc':=sc) (pos:=pos) I.a K he hc h3 h4 js (E3 e r1) W R1 fI j f (Ys iI) (Ys (aar iI ha)) hk (sJ hn fI).symm (sJ hn j).symm
  (fun O vs g' l j' tL hg=>?_)
  (c3:=⟨lz (lz (lz z.ow p) q.objs.size) s.objs.size,{z.s with heap:=Y,toks:=t1+0},z.H⟩)
  ⟨hl.fM R1 fun ξ ξ ξ e=>e.elim,⟨_,F3,fun v=>IS⟩,⟨[],#[],j0,W8 _,⟨0,k3 _ _ hD⟩,rfl⟩,tI,tD,W.frame g fun o e=>k3 _ o (k2 _ o e)⟩
 ·exact codeAny_compStart_list hb (W.self (W.frame g fun o e=>k3 _ o (k2 _ o e)) hb)
 ·obtain⟨hz,m2⟩:=jn vs O.H j'
  have gc:Go X cS c O:=Go.trans I.r g1 (g'.fM R1 fun r o e w=>by
   rcases w with rfl|rfl|rfl
   ·rw[fI] at e;exact bH e
   ·rw[j] at e;exact bH e
   ·cases f.symm.trans e)
  cases use with
  |some u=>exact hq O _ _ vs gc (nf g1 j) l m2 (nf g1 f) tL hg hk
  |none=>
   obtain⟨mm,hm⟩:=hg;refine⟨mm,hm,fun h' sb=>?_⟩;have kk: ∀b o,b≠s.objs.size→O.s.heap.get? b=some o→h'.get? b=some o:=fun b o n e=>(sb.2 b n).trans e;obtain⟨hr,g2,o1,o2⟩:=Go.last I.r gc (t:=O.s.toks) (wr:=fun b=>b=s.objs.size) (fun a e=>e▸nf g1 f) (fun a e=>e▸tL) rfl kk
   exact hq ⟨hr,{O.s with heap:=h',toks:=O.s.toks},O.H⟩ _ (.list vs) g2 (nf g1 j) (l.last hk tL kk o1 o2) m2
def UD:Prop:= ∀⦃X C d A c st N Qp k R U env ρ B H G Q D it' x px pos sc⦄,IT X C d A c st N Qp k R U env ρ B H G Q D it' x px pos sc
def wc:UD:=eA Nb UC
def Nc (h:SE X C d Q) (q:SE X C d G) (r: ∀e,cond=some e→ST X C d e):SF X C d (.comp G B Q cond):=fun z1 z2 j l a b f o J s t u I m n v=>uK u fun D x np it' H sc p w y z g i=>Hi (eval_ListComp ..) (wc h q r w y z g i I m (use:=none) v)
end
section
variable {X:Cx} {C:bG} {d:Nat} {A:Around} {c B G:Cf} {st:aN} {R:Value→Shared→Prop} {env:Env} {W:Nat→Prop}
variable {t0 i0 t1 i1:Expr} {sc:Scope} {pos:Pos} {RR:Result→Shared→Prop} {s:Shared}
abbrev fE (h t0 i0 t1 i1:Expr) (sc:Scope) (pos:Pos):Expr:= .ListComp h [⟨t0,i0,[],0⟩,⟨t1,i1,[],0⟩] sc pos
def E8 (p:codeAny (M X) A (.compLoop (fE e t0 i0 t1 i1 sc pos) 1 n k env) RR s)
  (h:wpAny (M X) A (pyIter n) (fun m q=>codeAny (M X) A (.compLoop (fE e t0 i0 t1 i1 sc pos) 1 m k env) RR q) bw s):codeAny (M X) A (.compStart (fE e t0 i0 t1 i1 sc pos) 1 n k env) RR s:=by
 refine codeAny_of_tree ?_;show wpAny _ _ ((compStart (fE e t0 i0 t1 i1 sc pos) 1 n k env).onRaise (fun x=>do noteFrame x env;standAt theWindowsPlace)) _ _ s;refine wpAny_notedAt ?_;unfold compStart;show wpAny _ _ (ask>>=_) _ _ s;refine WQ (wpAny_askSetting (wpAny_ite ?_));split
 ·first
   |exact WQ (WV (WV (And.intro rfl p)))
   |exact WV (And.intro rfl p)
 ·refine WQ (Z7 ?_);show wpAny _ _ (standAt i1.pos>>=_) _ _ s;exact WQ (XA (WQ (Xu h (fun m q r=>WV (And.intro rfl r)) fun ξ ξ f=>f.elim)))
def E9:compTurn (fE h t0 i0 t1 i1 sc pos) 0 k e env=(standAt i0.pos>>=fun ξ=>pyNext k>>=fun r=>match r with
   |none=>pure (.done .next)
   |some v=>letOwnedTupleGo t0 k v>>=fun ξ=>assign t0 env v>>=fun ξ=>
    (eval i1 env>>=fun x=>standAt i1.pos>>=fun ξ=>foldedSetIterable i1 env x>>=fun x=>holding [x] (pyIter x)>>=fun y=>runOwn (.compStart (fE h t0 i0 t1 i1 sc pos) 1 y e env) env>>=fun ξ=>
     again (.compLoop (fE h t0 i0 t1 i1 sc pos) 0 k e env))):=by rfl
def Fa:compTurn (fE h t0 i0 t1 i1 sc pos) 1 k e env=(standAt i1.pos>>=fun ξ=>pyNext k>>=fun r=>match r with
   |none=>pure (.done .next)
   |some v=>letOwnedTupleGo t1 k v>>=fun ξ=>assign t1 env v>>=fun ξ=>
    (eval h env>>=fun x=>call (.builtin "list.append") [e,x]>>=fun ξ=>pure ())>>=fun ξ=>
     again (.compLoop (fE h t0 i0 t1 i1 sc pos) 1 k e env)):=by rfl
@[reducible] def IU (X : Cx) (A : Around) (env : Env) (k t0 i0 t1 i1 : Expr) (sc : Scope) (pos : Pos) (z p : Value) (RR : Result → Shared → Prop) (s : Shared) : Prop := ∀ (I : Nat → Shared → Prop) (g : ∀ n s, I n s → wpAny (M X) A (pyNext z) (fun r e => match r with
   |none=>RR (.ok .next) e
   |some v=>wpAny (M X) A (assign t0 env v) (fun ξ q=>wpAny (M X) A (eval i1 env) (fun x t=>wpAny (M X) A (pyIter x) (fun y u=>codeAny (M X) A (.compStart (fE k t0 i0 t1 i1 sc pos) 1 y p env) (fun r w=>match r with
    | .ok _=> ∃m,m<n∧I m w
    | .error _=>False) u) bw t) bw q) bw e) bw s) (n:Nat) (h:I n s) (i: ∀v,letOwnedTupleGo t0 z v=pure ()) (j: ∀v,foldedSetIterable i1 env v=pure v),codeAny (M X) A (.compLoop (fE k t0 i0 t1 i1 sc pos) 0 z p env) RR s
abbrev IV:List Type:=[Cx,Around,Env,Expr,Expr,Expr,Expr,Expr,Scope,Pos,Value,Value,Result→Shared→Prop,Shared]
def QJ:=eV IV IU ⟨vn,xR,nI,nI,nI,nI,nI,nI,nI,nI,nI,nI,nI,PA,trivial⟩
def UE:eU IV IU QJ:=by
 injections QJ X A env q t0 i0 t1 i1 sc pos i t RR s;change IU X A env q t0 i0 t1 i1 sc pos i t RR s;intro I u n h D H;refine codeAny_loop rfl I (fun n s J=>?_) n h;show wpAny _ A ((compTurn (fE q t0 i0 t1 i1 sc pos) 0 i t env).onRaise (fun x=>do noteFrame x env;theTreesLotGoes x)) _ _ s;refine wpAny_noted (B' ?_);rw[E9];refine WQ (XA (WQ (Xu (u n s J) (fun r j k=>?_) fun ξ ξ p=>p)));cases r with
 |none=>exact WV k
 |some v=>
  refine WQ (YY (D v) (WQ (Xu k (fun ξ l w=>WQ (Xu w (fun x a z=>WQ (XA (WQ (YY (H x) (WQ (XE (Xu z (fun y b g=>?_) fun ξ ξ p=>p))))))) fun ξ ξ p=>p)) fun ξ ξ p=>p)));refine WQ (wpAny_runOwn (codeAny_mono g fun r o m=>?_));induction r using Except.casesOn with
  |ok f=>exact WV ⟨rfl,m⟩
  |error e=>exact m.elim
def Fb:eB IV IU:=eA IV UE
def Fc (I:Nat→Shared→Prop) (w: ∀n s,I n s→wpAny (M X) A (pyNext l) (fun r e=>match r with
   |none=>RR (.ok .next) e
   |some v=>wpAny (M X) A (assign t1 env v) (fun ξ k=>wpAny (M X) A (eval y env) (fun x p=>wpAny (M X) A (call (.builtin "list.append") [z,x]) (fun ξ q=> ∃m,m<n∧I m q) bw p) bw k) bw e) bw s)
  (n:Nat) (h:I n s) (a: ∀v,letOwnedTupleGo t1 l v=pure ()):codeAny (M X) A (.compLoop (fE y t0 i0 t1 i1 sc pos) 1 l z env) RR s:=by
 refine codeAny_loop rfl I (fun n s b=>?_) n h;show wpAny _ A ((compTurn (fE y t0 i0 t1 i1 sc pos) 1 l z env).onRaise (fun x=>do noteFrame x env;theTreesLotGoes x)) _ _ s;refine wpAny_noted (B' ?_);rw[Fa];refine WQ (XA (WQ (Xu (w n s b) (fun r e t=>?_) fun ξ ξ u=>u)));cases r with
 |none=>exact WV t
 |some v=>exact WQ (YY (a v) (WQ (Xu t (fun ξ k g=>WQ (WQ (Xu g (fun x p i=>WQ (Xu i (fun ξ q j=>WV (WV ⟨rfl,j⟩)) fun ξ ξ u=>u)) fun ξ ξ u=>u))) fun ξ ξ u=>u)))
structure QK (sc:Scope) (x y:Str):Prop where
 kind:sc.kind= .function
 uP: ∀p∈sc.names,p.2≠ .cell
 Nf: ∀p∈sc.names,p.2≠ .free
 af: ∀p∈sc.names,p.2= .local→sc.names.lookup p.1=some .local
 x1:sc.names.lookup x=some .local
 y1:sc.names.lookup y=some .local
 xd:(x !=("__debug__":Str))=true
 yd:(y !=("__debug__":Str))=true
def IW (h:gY sc x y=true):QK sc x y:=by unfold gY at h;simp only[Xx,XJ,YT,bne_iff_ne,XX] at h;obtain⟨⟨⟨⟨⟨⟨q,m⟩,r⟩,t⟩,u⟩,v⟩,w⟩:=h;exact⟨q,fun p k=>(m p k).1,fun p k=>(m p k).2,fun p k e=>(r p k).resolve_left fun n=>n e,t,u,by simpa using v,by simpa using w⟩
structure Aw (X:Cx) (L D:Nat) (H:Hp) (us:aN) (c:Cf):Prop where
 h:c.H=H
 tD:Tu c D D
 tL:Tu c L L
 ns: ∃m,c.s.heap.Ns L m
 pl: ∃ys,c.s.heap.PlainList D ys∧dk X c us ys.toList
def Aw.go (f:Aw X L D H p c) (h:HR X c) (g:Go X W c G) (e:G.H=c.H) (x: ¬W L) (k: ¬W D):Aw X L D H p G:=
 ⟨e.trans f.h,f.tD.go h g k,f.tL.go h g x,let⟨m,n⟩:=f.ns;⟨m,n.at' fun o e=>f.tL.un g x e⟩,let⟨q,⟨t,e⟩,r⟩:=f.pl;⟨q,⟨t,f.tD.un g k e⟩,r.go g⟩⟩
def we {R:Unit→Shared→Prop} (y:env.scope.kind= .function) (z:env.kindOf x=some .local) (i:HR X c) (j:D≠env.locals) (f:Aw X env.locals D H l c)
  (n: ∀G,Go X (fun r=>r=env.locals) c G→Aw X env.locals D H l G→(∃m,G.s.heap.Ns env.locals m∧m x=some v)→R () G.s):wpAny (M X) A (assign (.Name x p) env v) R bw c.s:=by
 obtain⟨m,I⟩:=f.ns;refine ZE (wpAny_storeName_local z I (fun k u J=>?_) (by rw[y];rfl));have h: ∀b o,¬b=env.locals→c.s.heap.get? b=some o→k.get? b=some o:=fun b o q e=>(J.2 b q).trans e;have w: ∀b,b=env.locals→ ∃o,k.get? b=some o:=fun b e=>e▸dW u;have g:=Go.sL i (wr:=fun b=>b=env.locals) (r:=env.locals) (fun a e=>e▸f.tL) rfl (t:=c.s.toks+1) w h;obtain⟨L,⟨N,e⟩,r⟩:=f.pl
 exact n ⟨c.ow,{c.s with heap:=k,toks:=c.s.toks+1},c.H⟩ g ⟨f.h,f.tD.sL w h,f.tL.sL w h,⟨_,u⟩,L,⟨N,h _ _ j e⟩,r.go g⟩ ⟨_,u,by simp⟩
def Ax (e:env.scope.kind= .function) (k:env.kindOf x=some .local) (hd:(x !=("__debug__":Str))=true) (h: ∃m,s.heap.Ns env.locals m∧m x=some v) (q:R v s):wpAny (M X) A (eval (.Name x p) env) R bw s:=by obtain⟨m,n,r⟩:=h;exact wpAny_Name (wpAny_loadName_local e k n r q) (by simpa using hd)
@[reducible] def IX (X : Cx) (d : Nat) (A : Around) (c B : Cf) (env : Env) (t0 i0 i1 : Expr) (sc : Scope) (pos : Pos) (RR : Result → Shared → Prop) (y : Str) (p0 p1 : Pos) (D I : Nat) (H : Hp) (h e : aN) (St : Nat → Heap → Prop) : Prop := ∀ (p : gW d A) (q : env.scope.kind = .function) (t : env.kindOf y = some .local) (u : (y != ("__debug__" : Str)) = true) (W : uN X A c I e St) (v : HR X c) (w : c.s.heap.get? I = none) (z : D ≠ env.locals) (x : ∃ o, c.s.heap.get? D = some o) (k : ∃ o, c.s.heap.get? env.locals = some o) (g : h.length + e.length ≤ bz) (i : Go X cS c B) (j : Aw X env.locals D H h B) (m : Tu B I I) (st : St 0 B.s.heap) (n : ∀ G, Go X (fun r => r = D ∨ r = env.locals) c G → Aw X env.locals D H (h ++ e) G → RR (.ok .next) G.s), codeAny (M X) A (.compLoop (fE (.Name y p0) t0 i0 (.Name y p1) i1 sc pos) 1 (.ref I) (.ref D) env) RR B.s
abbrev Ng:List Type:=[Cx,Nat,Around,Cf,Cf,Env,Expr,Expr,Expr,Scope,Pos,Result→Shared→Prop,Str,Pos,Pos,Nat,Nat,Hp,aN,aN,Nat→Heap→Prop]
def QL:=eV Ng IX ⟨vn,nI,xR,yw,yw,nI,nI,nI,nI,nI,nI,nI,nI,nI,nI,nI,nI,Ab,nI,nI,nI,trivial⟩
def UF:eU Ng IX QL:=by
 injections QL X d A c B env t0 i0 i1 sc pos RR y p0 p1 D I H us x St;change IX X d A c B env t0 i0 i1 sc pos RR y p0 p1 D I H us x St;intro hA kd hy yd W hc fI ne hk ho hz g1 f1 hp st hq;have p:D≠I:=fun q=>by obtain⟨o,e⟩:=hk;rw[q,fI] at e;exact bH e
 have m:env.locals≠I:=fun q=>by obtain⟨o,e⟩:=ho;rw[q,fI] at e;exact bH e
 haveI hm:bz≤sizeLine:=by rw[aaf];unfold bz;exact bM aw
 refine Fc (fun n s'=> ∃j h,n=x.length-j∧j≤x.length∧s'=h.s∧Go X (fun r=>r=D∨r=env.locals) c h∧Aw X env.locals D H (us++x.take j) h∧Tu h I I∧St j h.s.heap) ?_ x.length ⟨0,B,rfl,W8 _,rfl,g1.fM hc fun ξ ξ ξ e=>e.elim,by rw[List.take_zero,Xe];exact f1,hp,st⟩ fun v=>rfl;rintro n s' ⟨j,h,rfl,hj,rfl,g,f,tI,ha⟩;by_cases u:j<x.length
 ·have hv:x[j]?=some x[j]:=WS u;haveI he:x.take (j+1)=x.take j++[x[j]]:=by rw[List.take_add_one,hv];rfl
  generalize x[j]=v at hv he;refine W.item hv ha g.k (by rw[tI.own];exact nofun) fun z h1 i rz J L=>?_;have hf: ∀b,b=I→ ∃o,h1.get? b=some o:=fun b e=>e▸W.alive J;have O:=Go.sL g.hr (wr:=fun b=>b=I) (fun a e=>e▸tI) rfl (t:=i) hf L
  haveI fa:Aw X env.locals D H (us++x.take j) ⟨h.ow,{h.s with heap:=h1,toks:=i},h.H⟩:=f.go g.hr O rfl m p;have ta:=tI.sL (t:=i) hf L
  refine we (c:=⟨h.ow,{h.s with heap:=h1,toks:=i},h.H⟩) kd hy O.hr ne fa fun k Q U m2=>?_;refine Ax kd hy yd m2 ?_;obtain⟨ys,hr,rs⟩:=U.pl;haveI hl:(us++x.take j).length=ys.size:=rs.length;haveI hs:ys.size≤sizeLine:=by refine WR ?_ hm;rw[←hl,WO,Xg];exact(bT 0x400391605f161208441006001c8b02f8b008401) hz
  refine wpAny_list_append_plain (hsz:=hs) hr fun h5 N sb=>?_;have Y: ∀b o,b≠D→k.s.heap.get? b=some o→h5.get? b=some o:=fun b o hb e=>(sb.2 _ hb).trans e;have l: ∀b,b=D→ ∃o,h5.get? b=some o:=fun b q=>let⟨kk,e⟩:=N;⟨_,q▸e⟩;have g5:=Go.sL Q.hr (wr:=fun b=>b=D) (fun a e=>e▸U.tD) rfl (t:=k.s.toks) l Y;haveI t2:=ta.go O.hr Q (X3 m);obtain⟨mm,n2⟩:=U.ns
  haveI hg:Go X (fun r=>r=D∨r=env.locals) c ⟨k.ow,{k.s with heap:=h5,toks:=k.s.toks},k.H⟩:=by
   haveI ht:Go X (fun r=>r=I∨r=D∨r=env.locals) c ⟨k.ow,{k.s with heap:=h5,toks:=k.s.toks},k.H⟩:=
    Go.trans hc (g.fM hc fun ξ ξ ξ e=> .inr e) (Go.trans g.hr (O.fM g.hr fun ξ ξ ξ e=> .inl e) (Go.trans O.hr (Q.fM O.hr fun ξ ξ ξ e=> .inr (.inr e)) (g5.fM Q.hr fun ξ ξ ξ e=> .inr (.inl e))))
   exact ht.fM hc fun r o e w=>w.elim (fun q=>by rw[q,fI] at e;exact bH e) id
  refine⟨x.length-(j+1),by exact(br 0x462008431804600843108401) u,j+1,⟨k.ow,{k.s with heap:=h5,toks:=k.s.toks},k.H⟩,rfl,u,rfl,hg,⟨U.h,U.tD.sL l Y,U.tL.sL l Y,⟨mm,n2.at' fun o e=>Y _ o (X3 ne) e⟩,ys.push z,N,?_⟩,t2.sL l Y,W.frame (W.frame J fun o e=>ta.un Q (X3 m) e) fun o e=>Y _ o (X3 p) e⟩;rw[he,←WW,Array.toList_push]
  exact(rs.append (.one (VR.go Q (c:=⟨h.ow,{h.s with heap:=h1,toks:=i},h.H⟩) rz))).go g5
 ·haveI hh:j=x.length:=by exact(br 0x904200a2210803008401) hj u
  subst hh;rw[aan] at f;refine W.done ha g.k fun h' i L=>?_;obtain⟨hi,g',o1,o2⟩:=Go.last hc g (t:=i) (wr:=fun b=>b=I) (fun a e=>e▸fI) (fun a e=>e▸tI) rfl L
  have al: ∀{b},Tu h b b→b≠I→Tu ⟨hi,{h.s with heap:=h',toks:=i},h.H⟩ b b:=fun t n=>⟨o2 _ _ t.own n,t.p8,let⟨o,e⟩:=t.al;⟨o,L _ o n e⟩⟩;obtain⟨mm,hn⟩:=f.ns;obtain⟨ys,⟨k0,e⟩,rs⟩:=f.pl
  exact hq ⟨hi,{h.s with heap:=h',toks:=i},h.H⟩ g' ⟨f.h,al f.tD p,al f.tL m,⟨mm,hn.at' fun o e=>L _ o m e⟩,ys,⟨k0,L _ _ p e⟩,rs.keep fun a o e n=>⟨L a o (fun q=>by rw[q,tI.own] at n;exact ph n) e,o1 a n⟩⟩
def UG:Prop:= ∀⦃X d A c B env t0 i0 i1 sc pos RR y p0 p1 D I H h e St⦄,IX X d A c B env t0 i0 i1 sc pos RR y p0 p1 D I H h e St
def QM:UG:=eA Ng UF
def Cb (h:kN.go (x::n)=some p): ∃k m,x= .ap k∧kN.go n=some m∧p=k++m:=by
 cases x with
 |ap k=>obtain⟨m,e,rfl⟩:=Xy.mp (show(kN.go n).map (k++ ·)=some p from h);exact⟨k,m,rfl,e,rfl⟩
 |_=>exact bH h
@[reducible] def IY (X : Cx) (d : Nat) (A : Around) (c B : Cf) (env : Env) (i0 : Expr) (sc : Scope) (pos : Pos) (RR : Result → Shared → Prop) (x y : Str) (p0 p1 p2 p4 : Pos) (D I : Nat) (H : Hp) (h xs : aN) (St : Nat → Heap → Prop) : Prop := ∀ (p : gW d A) (q : env.scope.kind = .function) (r : env.kindOf x = some .local) (t : (x != ("__debug__" : Str)) = true) (u : env.kindOf y = some .local) (v : (y != ("__debug__" : Str)) = true) (W : uN X A c I xs St) (w : HR X c) (z : c.s.heap.get? I = none) (g : D ≠ env.locals) (i : c.s.heap.get? D = none) (j : c.s.heap.get? env.locals = none) (e : D ≠ I) (k : env.locals ≠ I) (l : kN.go xs = some h) (a : h.length ≤ bz) (b : Go X cS c B) (f : Aw X env.locals D H [] B) (m : Tu B I I) (st : St 0 B.s.heap) (n : ∀ G, Go X cS c G → Aw X env.locals D H h G → RR (.ok .next) G.s), codeAny (M X) A (.compLoop (fE (.Name y p0) (.Name x p2) i0 (.Name y p1) (.Name x p4) sc pos) 0 (.ref I) (.ref D) env) RR B.s
abbrev Nh:List Type:=[Cx,Nat,Around,Cf,Cf,Env,Expr,Scope,Pos,Result→Shared→Prop,Str,Str,Pos,Pos,Pos,Pos,Nat,Nat,Hp,aN,aN,Nat→Heap→Prop]
def QN:=eV Nh IY ⟨vn,nI,xR,yw,yw,nI,nI,nI,nI,nI,nI,nI,nI,nI,nI,nI,nI,nI,Ab,nI,nI,nI,trivial⟩
def UH:eU Nh IY QN:=by
 injections QN X d A c B env i0 sc pos RR x y p0 p1 p2 p4 D I H us u St;change IY X d A c B env i0 sc pos RR x y p0 p1 p2 p4 D I H us u St;intro hA kd hx xd hy yd W hc fI ne fD fL l i hu hz g1 f1 hl st hm;have dn: ∀{G:Cf} {W:Nat→Prop},Go X W c G→(∀r,W r→c.s.heap.get? r=none)→Go X cS c G:=fun g h=>g.fM hc fun r o e w=>by rw[h r w] at e;exact bH e
 refine Fb (fun n s'=> ∃j k ds,n=u.length-j∧j≤u.length∧s'=k.s∧Go X cS c k∧Aw X env.locals D H ds k∧Tu k I I∧St j k.s.heap∧ ∃vs,kN.go (u.drop j)=some vs∧us=ds++vs) ?_ u.length ⟨0,B,[],rfl,W8 _,rfl,g1,f1,hl,st,us,hu,rfl⟩ (fun v=>rfl) fun v=>rfl;rintro n s' ⟨j,k,ds,rfl,hj,rfl,g,f,tI,hb,vs,J,Q⟩;by_cases L:j<u.length
 ·haveI hv:u[j]?=some u[j]:=WS L;rw[Xo L] at J;generalize u[j]=v at hv J;obtain⟨ws,ho,rfl,he,rfl⟩:=Cb J;refine W.item hv hb g.k (by rw[tI.own];exact nofun) fun z h1 U rz ha k1=>?_;have hf: ∀b,b=I→ ∃o,h1.get? b=some o:=fun b e=>e▸W.alive ha;have ga:=Go.sL g.hr (wr:=fun b=>b=I) (fun a e=>e▸tI) rfl (t:=U) hf k1
  have fa:Aw X env.locals D H ds ⟨k.ow,{k.s with heap:=h1,toks:=U},k.H⟩:=f.go g.hr ga rfl i l;have ta:=tI.sL (t:=U) hf k1
  refine we (c:=⟨k.ow,{k.s with heap:=h1,toks:=U},k.H⟩) kd hx ga.hr ne fa fun c2 O f2 m2=>?_;refine Ax kd hx xd m2 ?_;have t2:=ta.go ga.hr O (X3 i)
  haveI r2:dC X c2 (.ap ws) z:=VR.go O (c:=⟨k.ow,{k.s with heap:=h1,toks:=U},k.H⟩) rz;haveI hp:St (j+1) c2.s.heap:=W.frame ha fun o e=>ta.un O (X3 i) e;haveI hq:Go X cS c c2:=dn (Go.trans hc (g.fM hc fun ξ ξ ξ e=>e.elim) (Go.trans g.hr (ga.fM g.hr (W':=fun r=>r=I∨r=env.locals) fun ξ ξ ξ e=> .inl e) (O.fM ga.hr fun ξ ξ ξ e=> .inr e))) fun r w=>by rcases w with rfl|rfl;exact fI;exact fL
  refine Xu (mq hA (v:= .ap ws) rfl r2) (fun it s3 h=>iq.casesOn h fun p hr hg t1 fp k3 W2 Y=>?_) fun ξ ξ f=>f.elim
  have g3:Go X cS c2 ⟨lz c2.ow p,{c2.s with heap:=hg,toks:=t1},c2.H⟩:=Go.alloc (s':={c2.s with heap:=hg,toks:=t1}) O.hr k3 rfl rfl fp (W2.alive Y);have f3:=f2.go O.hr g3 rfl id id
  have N:=QM (RR:=fun r hh=>match r with
    | .ok _=> ∃m,m<u.length-j∧ ∃j k ds,m=u.length-j∧j≤u.length∧hh=k.s∧Go X cS c k∧Aw X env.locals D H ds k∧Tu k I I∧St j k.s.heap∧ ∃vs,kN.go (u.drop j)=some vs∧us=ds++vs
    | .error _=>False) (p0:=p0) (p1:=p1) (t0:= .Name x p2) (i0:=i0) (i1:= .Name x p4) (sc:=sc) (pos:=pos) hA kd hy yd W2 O.hr fp ne f2.tD.al f2.tL.al (by rw[Q] at hz;simp only[WO] at hz;exact(bT 0x400391605f16010803000e45817c58404108401) hz) g3 f3 ⟨iN,(O.hr.fresh fp).1,W2.alive Y⟩ Y fun c5 g5 f5=>?_
  ·exact E8 N (W2.self Y N)
  ·refine⟨u.length-(j+1),by exact(br 0x462008431804600843108401) L,j+1,c5,ds++ws,rfl,L,rfl,dn (Go.trans hc (hq.fM hc fun ξ ξ ξ e=>e.elim) (g5.fM O.hr fun ξ ξ ξ e=>e)) fun r w=>?_,f5,t2.go O.hr g5 ?_,W.frame hp fun o e=>t2.un g5 ?_ e,ho,he,?_⟩
   ·rcases w with rfl|rfl;exact fD;exact fL
   ·exact fun w=>w.elim (fun q=>l q.symm) fun q=>i q.symm
   ·exact fun w=>w.elim (fun q=>l q.symm) fun q=>i q.symm
   ·exact Q.trans (WW ..).symm
 ·haveI hi:j=u.length:=by exact(br 0x904200a2210803008401) hj L
  subst hi;rw[List.drop_length] at J;obtain rfl:=dL J;rw[Xe] at Q;subst Q;refine W.done hb g.k fun h' U k1=>?_;obtain⟨hk,g',o1,o2⟩:=Go.last hc g (t:=U) (wr:=fun b=>b=I) (fun a e=>e▸fI) (fun a e=>e▸tI) rfl k1
  have al: ∀{b},Tu k b b→b≠I→Tu ⟨hk,{k.s with heap:=h',toks:=U},k.H⟩ b b:=fun t n=>⟨o2 _ _ t.own n,t.p8,let⟨o,e⟩:=t.al;⟨o,k1 _ o n e⟩⟩;obtain⟨mm,hn⟩:=f.ns;obtain⟨ys,⟨k0,e⟩,rs⟩:=f.pl
  exact hm ⟨hk,{k.s with heap:=h',toks:=U},k.H⟩ g' ⟨f.h,al f.tD l,al f.tL i,⟨mm,hn.at' fun o e=>k1 _ o i e⟩,ys,⟨k0,k1 _ _ l e⟩,rs.keep fun a o e n=>⟨k1 a o (fun q=>by rw[q,tI.own] at n;exact ph n) e,o1 a n⟩⟩
def UI:Prop:= ∀⦃X d A c B env i0 sc pos RR x y p0 p1 p2 p4 D I H h xs St⦄,IY X d A c B env i0 sc pos RR x y p0 p1 p2 p4 D I H h xs St
def Ni:UI:=eA Nh UH
theorem Nj {s1 s2:Nat} {ie:E} (hi:SE X C d ie):SE X C d (.Bt s1 ie s2):=fun te z A env ρ fr c st k Qp R ck I m n=>by
 refine IB ck fun x y he sc p1 p2 p3 p4 p5 h1 h0 h2=>?_;have K:=IW h1;rw[eval_ListComp];obtain⟨cl,e1,c2,c3⟩:=k7 (env:=env) (sc:=sc) fun p hp hf=>(K.Nf p hp hf).elim;refine wpAny_comprehension_free (use:=none) rfl (fun v=>yN h0 env v) e1 K.kind K.af (hi h2 I m fun B v z g1 r1 m1=>?_);obtain⟨us,e,hz,m1⟩:=dD m1;obtain⟨L,ei,hg⟩: ∃L,gU v=some L∧kN.go L=some us:=by
  cases v with
  |aG L=>exact⟨L,rfl,e⟩
  |ap L=>exact⟨L,rfl,e⟩
  |_=>exact bH e
 have R1:=g1.hr;refine B' (Xu (mq I.a ei r1) (fun it s2 h=>iq.casesOn h fun p St q t1 fI k1 W u=>?_) xS);refine XV ?_;generalize w:q.push {cls:= .type "list",dict:=none,data:= .seq ([]:ax).toArray}=r;have hD:r.get? q.objs.size=some (b5 [] 0):=by rw[←w];exact Xd _ rfl
 have k2: ∀b o,q.get? b=some o→r.get? b=some o:=fun b o e=>w▸aK _ _ b o e;haveI hh:r.objs.size=q.objs.size+1:=by rw[←w,Zl]
 clear w;refine wpAny_newFunctionEnv K.uP (fun y hy=>nomatch hy) (fun g i N=>?_) K.kind;dsimp only at i N⊢;have k3: ∀b o,r.get? b=some o→g.get? b=some o:=fun b o e=>(N.2 _ (Ys (X8 e))).trans (aK _ _ b o e);clear N;have fD:=aX q;have fL:=aX r;have iI:p<q.objs.size:=by obtain⟨o,e⟩:=W.alive u;exact X8 e
 have O:Go X cS B ⟨lz B.ow p,{B.s with heap:=q,toks:=t1},B.H⟩:=Go.alloc R1 k1 rfl rfl fI (W.alive u)
 have Q:Go X cS ⟨lz B.ow p,{B.s with heap:=q,toks:=t1},B.H⟩ ⟨lz (lz B.ow p) q.objs.size,{B.s with heap:=r,toks:=t1},B.H⟩:=Go.alloc (s':={B.s with heap:=r,toks:=t1}) O.hr k2 rfl rfl fD ⟨_,hD⟩
 have gL:Go X cS ⟨lz (lz B.ow p) q.objs.size,{B.s with heap:=r,toks:=t1},B.H⟩ ⟨lz (lz (lz B.ow p) q.objs.size) r.objs.size,{B.s with heap:=g,toks:=t1+0},B.H⟩:=Go.alloc (s':={B.s with heap:=g,toks:=t1+0}) Q.hr k3 rfl rfl fL (dW i);haveI tI:Tu _ p p:=Tu.go Q.hr (Tu.go O.hr ⟨iN,(R1.fresh fI).1,W.alive u⟩ Q id) gL id;haveI tD:Tu _ q.objs.size q.objs.size:=Tu.go Q.hr ⟨iN,(O.hr.fresh fD).1,⟨_,hD⟩⟩ gL id
 haveI tL:Tu ⟨lz (lz (lz B.ow p) q.objs.size) r.objs.size,{B.s with heap:=g,toks:=t1+0},B.H⟩ r.objs.size r.objs.size:=⟨iN,(Q.hr.fresh fL).1,dW i⟩;have U:=nf O fD;have Y:=nf O (nf Q fL);have j:q.objs.size<r.objs.size:=by rw[hh];exact Xr _
 have ha:q.objs.size≠r.objs.size:=Ys j
 have J:=Ni (RR:=compPost (M X) A bw none R (.ref q.objs.size) r.objs.size) (env:={newEnv sc r.objs.size env.globals cl env.qual none .none (some env) builtinsNs with scope:=relabel sc env}) (D:=q.objs.size) (H:=B.H) (p0:=p1) (p1:=p3) (p2:=p2) (p4:=p4) (i0:=he) (sc:=sc) (pos:=p5)
  I.a K.kind (ZU K.x1) K.xd (ZU K.y1) K.yd W R1 fI ha U Y (aaq iI) (aaq (aar iI j)) hg hz (Go.trans R1 O (Go.trans O.hr Q gL))
  ⟨rfl,tD,tL,⟨_,i⟩,#[],⟨0,k3 _ _ hD⟩,rfl⟩ tI (W.frame u fun o e=>k3 _ o (k2 _ o e)) fun G g' f=>?_
 ·exact codeAny_compStart_list J (W.self (W.frame u fun o e=>k3 _ o (k2 _ o e)) J)
 ·haveI gc:Go X cS c G:=Go.trans I.r g1 g';obtain⟨eH,hb,hc,⟨mm,hm⟩,ys,⟨k0,eD⟩,rs⟩:=f;refine⟨mm,hm,fun h' sb=>?_⟩;have kk: ∀b o,b≠r.objs.size→G.s.heap.get? b=some o→h'.get? b=some o:=fun b o n e=>(sb.2 b n).trans e;obtain⟨hj,g2,o1,o2⟩:=Go.last I.r gc (t:=G.s.toks) (wr:=fun b=>b=r.objs.size) (fun a e=>e▸nf g1 Y) (fun a e=>e▸hc) rfl kk;haveI l:fW X G q.objs.size (.list us):=⟨⟨hb.own,⟨k0,ys.toList,rfl,eD.trans (by rw[ZS]),WR hz (bM aw),rs⟩,(fun cl d e=>nomatch eD.symm.trans e),trivial⟩,hb.p8⟩
  exact(n.nl I.r) ⟨hj,{G.s with heap:=h',toks:=G.s.toks},G.H⟩ _ (.list us) g2 (nf g1 U) (l.last ha hc kk o1 o2) (by rwa[eH])
end
section
variable {d:Nat}
structure Sn (X:Cx) (C:bG) (d:Nat) (e:E):Prop where
 se:SE X C d e
 st:ST X C d e
 sf:MG X.P e=true→SF X C d e
def Sn.pl (h:SE X C d e) (n:MG X.P e=false) (p: ∀w k m,MT X.P C e w k m=w (x8 k m)) (r: ∀x,Dl e x=Qa x):Sn X C d e:=⟨h,EJ h p r,fun q=>by rw[n] at q;exact dh q⟩
def Sn.fr (h:SF X C d e) (n: ∀w k m,MT X.P C e w k m=w (x8 k m)) (p: ∀x,Dl e x=Qa x):Sn X C d e:=⟨Li h,EJ (Li h) n p,fun ξ=>h⟩
structure Wv (X:Cx) (C:bG) (d:Nat) (l:Bw):Prop where
 es:Dm X C d l
 bl:Qe X C d l
 tl:Qf X C d l
 all: ∀a∈l,SE X C d a
structure Ww (X:Cx) (C:bG) (d:Nat) (o:Option E):Prop where
 se: ∀e,o=some e→SE X C d e
 st: ∀e,o=some e→ST X C d e
def all_cons (e:SE X C d a) (x: ∀b∈k,SE X C d b): ∀b∈a::k,SE X C d b:=fun b h=>by
 rcases Xa.mp h with rfl|h
 ·exact e
 ·exact x b h
def Nk (S:Glo X) (e:gR X C d) (h:Dm X C d args):Sn X C d (.call f args):=⟨EP S e h,EJ (EP S e h) (fun ξ ξ ξ=>rfl) fun ξ=>rfl,MZ S h⟩
def QP (h:SE X C d a) (e:SE X C d b):Sn X C d (.aS x a b):= .fr (Qg h e) (fun ξ ξ ξ=>rfl) fun ξ=>rfl
def QQ:ST X C d .bad:=fun z1 z2 k n p q r s t h e x ξ ξ ξ m ξ ξ=>m.elim
def Nn:ST X C d (.ite c a b):=fun z1 z2 m n p q r s t e x k ξ h=>nomatch h
mutual
theorem snd (S:Glo X) (h:gR X C d): ∀e:E,Sn X C d e
 | .bad=>⟨Qx,QQ,nofun⟩
 | .none=> .pl MR rfl (fun ξ ξ ξ=>rfl) fun ξ=>rfl
 | .tru=> .pl Qt rfl (fun ξ ξ ξ=>rfl) fun ξ=>rfl
 | .fls=> .pl Qu rfl (fun ξ ξ ξ=>rfl) fun ξ=>rfl
 | .int i=> .pl Qv rfl (fun ξ ξ ξ=>rfl) fun ξ=>rfl
 | .str i=> .pl Qw rfl (fun ξ ξ ξ=>rfl) fun ξ=>rfl
 | .bytes i=> .pl IF rfl (fun ξ ξ ξ=>rfl) fun ξ=>rfl
 | .ae k=> .pl (MQ S) rfl (fun ξ ξ ξ=>rfl) fun ξ=>rfl
 | .af i=> .pl Qr rfl (fun ξ ξ ξ=>rfl) fun ξ=>rfl
 | .aS t a b=>QP (snd S h a).se (snd S h b).se
 | .neg a=> .pl (Qi (snd S h a).se) rfl (fun ξ ξ ξ=>rfl) fun ξ=>rfl
 | .not a=>⟨Qk (snd S h a).se,Qm (snd S h a).st,nofun⟩
 | .ay q x=>⟨EK (ir S h x).bl,EL (ir S h x).tl,nofun⟩
 | .aE a t b=>⟨Qn (snd S h a).se (snd S h b).se,Qo (snd S h a).se (snd S h b).se,nofun⟩
 | .jt a u b v c=>⟨MM (snd S h a).se (snd S h b).se (snd S h c).se,MN (snd S h a).se (snd S h b).se (snd S h c).se,nofun⟩
 | .ite c a b=>⟨Qq (snd S h c).st (snd S h a).se (snd S h b).se,Nn,nofun⟩
 | .call f args=>Nk S h (ir S h args).es
 | .dM o n args=> .pl (M2 S.toSys h (snd S h o).se (ir S h args).es) rfl (fun ξ ξ ξ=>rfl) fun ξ=>rfl
 | .bS o m args=> .pl (IJ (snd S h o).se (ir S h args).all) rfl (fun ξ ξ ξ=>rfl) fun ξ=>rfl
 | .lZ o args=> .pl (M7 (snd S h o).se (ir S h args).all) rfl (fun ξ ξ ξ=>rfl) fun ξ=>rfl
 | .ai o n=> .pl (M0 S.toSys (snd S h o).se) rfl (fun ξ ξ ξ=>rfl) fun ξ=>rfl
 | .bp o i=> .pl (QC (snd S h o).se (snd S h i).se) rfl (fun ξ ξ ξ=>rfl) fun ξ=>rfl
 | .slice o lo w=> .pl (IK (snd S h o).se (IZ S h lo).se (IZ S h w).se) rfl (fun ξ ξ ξ=>rfl) fun ξ=>rfl
 | .OL o=> .pl (QD (snd S h o).se) rfl (fun ξ ξ ξ=>rfl) fun ξ=>rfl
 | .list x=> .fr (f_list (ir S h x).es) (fun ξ ξ ξ=>rfl) fun ξ=>rfl
 | .tuple x=> .pl (IL (ir S h x).es) rfl (fun ξ ξ ξ=>rfl) fun ξ=>rfl
 | .dict0=> .fr (IM S.toSys) (fun ξ ξ ξ=>rfl) fun ξ=>rfl
 | .comp p s r cond=> .fr (Nc (snd S h r).se (snd S h p).se (IZ S h cond).st) (fun ξ ξ ξ=>rfl) fun ξ=>rfl
 | .Bt y r z=> .pl (Nj (snd S h r).se) rfl (fun ξ ξ ξ=>rfl) fun ξ=>rfl
 | .mut e=> .pl (QE (snd S h e).sf) rfl (fun ξ ξ ξ=>rfl) fun ξ=>rfl
theorem ir (S:Glo X) (e:gR X C d): ∀x:Bw,Wv X C d x
 |[]=>⟨EN,MO,MP,fun a h=>(nomatch h)⟩
 |a::x=>⟨IG (snd S e a).se (ir S e x).es,ID (snd S e a).se (ir S e x).bl,IE (snd S e a).st (ir S e x).tl,all_cons (snd S e a).se (ir S e x).all⟩
theorem IZ (S:Glo X) (x:gR X C d): ∀o:Option E,Ww X C d o
 |none=>⟨fun ξ h=>(nomatch h),fun ξ h=>(nomatch h)⟩
 |some a=>⟨fun e h=>(by cases(h);exact(snd S x a).se),fun e h=>(by cases(h);exact(snd S x a).st)⟩
end
end
section
variable {B:Fr} {k:Kt} {te:TE} {env:Env} {v:V} {y:Value} {R:Unit→Shared→Prop}
abbrev WL (env:Env):Nat→Prop:=fun r=>r=env.locals
abbrev Ny (X:Cx) (te:TE) (env:Env) (c:Cf) (k:Kt) (e:cy) (R:Shared→Prop):Prop:= ∀h B,Go X (WL env) c h→cL X te env env.locals B h→k [] B h.H e→R h.s
def Go.gx (h:HR X c) (g:Go X cS c x):Go X (WL env) c x:=g.fM h fun ξ ξ ξ e=>e.elim
def cC (te:TE):aL→bX→Bool
 |[],l=>l.isEmpty
 |i::h,l=>match l with
  |t::e=>fX (fun x=>te.eG i x) (aF t)&&cC te h e
  |[]=>false
def kx (x:Expr):Bool:= !((aF x).t==14)&& !((aF x).t==15)
def mr (x:Expr):Bool:= !((aF x).t==10)&& !((aF x).t==15)
def uQ (x:Expr):Bool:=match(aF x).t==12 with
 |true=>(aF x).ks.all (foldedForSure 8)|| !((aF x).ks.all (constantsAlone 8))
 |false=>true
def yO:aL→Bool
 |[]=>true
 |a::l=> !l.contains a&&yO l
def QR (N:Nm) (te:TE) (t:T) (x v:Expr):Bool:=match t with
 | .name i=>fX (fun n=>te.eG i n) (aF x)
 | .ai o n=>sR (fun s ξ=>N.fj[n]?==some s) (fun y=>aW N te o y) (aF x)
 | .bp o i=>B1 (fun y=>aW N te o y) (fun y=>aW N te i y&&mr y) (aF x)
 | .aG h=>vX (fun e=>cC te h e&&yO h&&uQ v&&kx v) (aF x)
def hM (h:cC te (i::m) e=true): ∃x p r,e= .Name x p::r∧te.eG i x=true∧cC te m r=true:=by
 cases e with
 |nil=>exact dh h
 |cons t e=>exact gw (motive:=fun t=> ∃x p r,t::e= .Name x p::r∧te.eG i x=true∧cC te m r=true) (ak h).1 fun x p n=>⟨x,p,e,rfl,n,(ak h).2⟩
def iS (h:cC te [] e=true):e=[]:=Yp.mp h
theorem iu: ∀{m:aL} {e:bX},cC te m e=true→(assignEach e env).length=m.length∧(assignEach e env).findIdx? (·.1)=none
 |[],e,h=>by rw[iS h];exact⟨rfl,rfl⟩
 |i::m,e,h=>by obtain⟨x,p,r,rfl,q,n⟩:=hM h;obtain⟨a,b⟩:=iu n;haveI:assignEach (.Name x p::r) env=(false,assign (.Name x p) env)::assignEach r env:=rfl;rw[this];refine⟨by rw[W0,W0,a],?_⟩;rw[List.findIdx?_cons];simp[b]
def wg (h:cC te t w=true) (g:dk X c q s) (I:ia X d te A env env.locals z c) (e:cK t q z=some B)
  (n: ∀m,Go X (WL env) c m→m.H=c.H→cL X te env env.locals B m→R () m.s):wpAny (M X) A (assignInOrder ((assignEach w env).map (·.2)) s) R bw c.s:=by
 induction t generalizing w q s z c with
 |nil=>
  cases iS h
  cases q with
  |nil=>obtain rfl:=dL e;exact WV (n c (Go.refl I.r) rfl I.f)
  |cons a l=>exact bH e
 |cons i t j=>cases q with
  |nil=>exact bH e
  |cons v q=>
   obtain⟨x,p,r,rfl,b,f⟩:=hM h;exact di.casesOn g fun y s o C=>by show wpAny (M X) A (holding s (assign (.Name x p) env y)>>=fun ξ=>assignInOrder ((assignEach r env).map (·.2)) s) _ _ c.s;exact WQ (XE (ZE (gv I.r I.f b (fun ξ=>rfl) o fun N u D ξ G=>j f (C.go u) ⟨I.a,u.hr,G⟩ e fun m H J L=>n m (Go.trans I.r u H) (J.trans D) L)))
def wh (h: ∀i x,(i,x)∈s.zip m→te.eG i x=true) (t:s.length=m.length) (g:dk X c q r) (I:ia X d te A env env.locals w c) (e:cK s q w=some B)
  (n: ∀p,Go X (WL env) c p→p.H=c.H→cL X te env env.locals B p→R () p.s):wpAny (M X) A (assignInOrder (m.map fun n=>bindName env n) r) R bw c.s:=by
 induction s generalizing m q r w c with
 |nil=>cases m with
  |cons a l=>cases(t)
  |nil=>cases q with
   |nil=>obtain rfl:=dL e;exact WV (n c (Go.refl I.r) rfl I.f)
   |cons a l=>exact bH e
 |cons i s b=>cases q with
  |nil=>exact bH e
  |cons v q=>cases m with
   |nil=>cases(t)
   |cons x m=>
    exact di.casesOn g fun y r f o=>by show wpAny (M X) A (holding r (bindName env x y)>>=fun ξ=>assignInOrder (m.map fun n=>bindName env n) r) _ _ c.s;exact WQ (XE (wpAny_bindName (gv I.r I.f (h i x (.head _)) (fun ξ=>rfl) f fun N u C ξ D=>b (fun j z G=>h j z (.tail _ G)) (Y7 t) (o.go u) ⟨I.a,u.hr,D⟩ e fun p H J L=>n p (Go.trans I.r u H) (J.trans C) L)))
theorem ng: ∀{x:Fr} {i j:Nat},i≠j→(x.set i v).set j w=(x.set j w).set i v
 | .e,_,_,_=>rfl
 | .u r,0,0,h=>absurd rfl h
 | .u r,0,j+1,h=>rfl
 | .u r,i+1,0,h=>rfl
 | .u r,i+1,j+1,h=>W4 Fr.u (ng fun e=>h (W4 _ e))
 | .c u r,0,0,h=>absurd rfl h
 | .c u r,0,j+1,h=>rfl
 | .c u r,i+1,0,h=>rfl
 | .c u r,i+1,j+1,h=>W4 (Fr.c u) (ng fun e=>h (W4 _ e))
theorem k8: ∀{n:aL} {p:aN} {x:Fr} {i:Nat} {v:V},i∉n→cK n p (x.set i v)=(cK n p x).map fun f=>f.set i v
 |[],[],x,i,v,_=>rfl
 |[],_::_,x,i,v,_=>rfl
 |_::_,[],x,i,v,_=>rfl
 |j::n,w::p,x,i,v,h=>by show cK n p ((x.set i v).set j w)=_;haveI eo:i≠j:=fun e=>h (e▸ .head _);rw[ng eo];exact k8 fun m=>h (.tail _ m)
theorem k9: ∀{is:aL} {vs:aN} {e:Fr} {i:Nat} {v:V},is.length=vs.length→cK (is++[i]) (vs++[v]) e=(cK is vs e).map fun f=>f.set i v
 |[],[],e,i,v,_=>rfl
 |[],_::_,e,i,v,h=>nomatch h
 |_::_,[],e,i,v,h=>nomatch h
 |j::is,w::vs,e,i,v,h=>k9 (is:=is) (vs:=vs) (Y7 h)
theorem gb: ∀{is:aL} {vs:aN} {e B:Fr},cK is vs e=some B→is.length=vs.length
 |[],[],_,_,_=>rfl
 |[],_::_,_,_,h=>nomatch h
 |_::_,[],_,_,h=>nomatch h
 |j::is,w::vs,e,B,h=>W4 (· +1) (gb (is:=is) (vs:=vs) h)
def Cc (h:yO (i::e)=true):i∉e∧yO e=true:=by obtain⟨x,n⟩:=ak h;exact⟨fun m=>(by rw[Zf.mpr m] at x;exact dh x),n⟩
theorem ms: ∀{e:aL} {x:aN} {m B:Fr},yO e=true→cK e x m=some B→cK e.reverse x.reverse m=some B
 |[],[],_,_,_,h=>h
 |[],_::_,_,_,_,h=>nomatch h
 |_::_,[],_,_,_,h=>nomatch h
 |i::e,v::x,m,B,n,h=>by
  obtain⟨p,q⟩:=Cc n;change cK e x (m.set i v)=some B at h;haveI r:=gb h;rw[k8 p] at h;obtain⟨f,s,rfl⟩:=Xy.mp h;rw[XU,XU,k9 (by simpa using r),ms q s]
  rfl
theorem mu {env:Env} {line:Nat} {f:Expr→Option Str} (u: ∀id s,f (.Name id s)=if(env.kindOf id==some NameKind.local&&s.line==line)=true then some id else none): ∀{t:aL} {n:bX},cC te t n=true→
  (n.filterMap f).length≤n.length∧((n.filterMap f).length=n.length→t.length=(n.filterMap f).length∧ ∀i x,(i,x)∈t.zip (n.filterMap f)→te.eG i x=true)
 |[],n,h=>by rw[iS h];exact⟨Xl _,fun ξ=>⟨rfl,fun i x m=>nomatch m⟩⟩
 |i::t,n,h=>by
  obtain⟨x,p,r,rfl,w,g⟩:=hM h;obtain⟨a,b⟩:=mu u g;rw[Z1,u];by_cases q:(env.kindOf x==some NameKind.local&&p.line==line)=true
  ·rw[WY q];simp only[W0];refine⟨by exact(br 0x84023086011803008401) a,fun e=>?_⟩;obtain⟨c,d⟩:=b ((br 0x904200ca011843008c01) e);refine⟨by lia,fun j z m=>?_⟩;rw[XQ] at m;rcases Xa.mp m with e|m
   ·cases(e);exact w
   ·exact d j z m
  ·rw[WX q];refine⟨WR a (YF _),fun e=>?_⟩;simp only[W0] at e
   lia
def Cd {k:Nat} {v:Expr}:(∃h k p,v= .Tuple h k p)∨swappedStores [.Tuple ts k p] v env=pure none:=by induction v using Expr.casesOn<;>first|exact .inr rfl|exact .inl ⟨_,_,_,rfl⟩
@[reducible] def I0 (te : TE) (env : Env) (h : aL) (e : bX) (k : Nat) (p : Pos) : Prop := ∀ {v : Expr} (m : cC te h e = true) (n : uQ v = true), swappedStores [.Tuple e k p] v env = pure none ∨ ∃ ns : List Str, swappedStores [.Tuple e k p] v env = pure (some ns) ∧ h.length = ns.length ∧ ∀ i x, (i, x) ∈ h.zip ns → te.eG i x = true
abbrev No:List Type:=[TE,Env,aL,bX,Nat,Pos]
def QS:=eV No I0 ⟨Me,nI,nI,nI,nI,nI,trivial⟩
set_option backward.match.sparseCases true in
theorem UJ:eU No I0 QS:=by
 injections QS te env s ts k p;change I0 te env s ts k p;intro v t m;rcases Cd (ts:=ts) (k:=k) (p:=p) (v:=v) (env:=env) with⟨vs,u,w,rfl⟩|h
 ·haveI z:=mu (te:=te) (env:=env) (line:=(ts.head?.map (·.pos.line)).getD 0) (f:=fun
   | .Name id x=>if env.kindOf id==some .local&&x.line==(ts.head?.map (·.pos.line)).getD 0 then some id else none
   |_=>none) (fun ξ ξ=>rfl) t
  haveI m:(vs.all (foldedForSure 8)|| !(vs.all (constantsAlone 8)))=true:=m
  haveI e:swappedStores [.Tuple ts k p] (.Tuple vs u w) env=(if(!(ts.length==2||ts.length==3)||vs.length !=ts.length||env.blockKind != .function)=true then pure none else
   if(vs.any fun| .Starred .. =>true|_=>false)=true then pure none else
   if((ts.filterMap fun
   | .Name id x=>if env.kindOf id==some .local&&x.line==(ts.head?.map (·.pos.line)).getD 0 then some id else none
   |_=>none).length !=ts.length||(ts.filterMap fun
   | .Name id x=>if env.kindOf id==some .local&&x.line==(ts.head?.map (·.pos.line)).getD 0 then some id else none
   |_=>none).eraseDups.length !=(ts.filterMap fun
   | .Name id x=>if env.kindOf id==some .local&&x.line==(ts.head?.map (·.pos.line)).getD 0 then some id else none
   |_=>none).length)=true then pure none else
   if vs.all (foldedForSure 8)=true then pure none else
   if vs.all (constantsAlone 8)=true then(do unsupported "assign.tuple-of-constant-expressions:order-of-the-stores";pure (some (ts.filterMap fun
   | .Name id x=>if env.kindOf id==some .local&&x.line==(ts.head?.map (·.pos.line)).getD 0 then some id else none
   |_=>none))) else pure (some (ts.filterMap fun
   | .Name id x=>if env.kindOf id==some .local&&x.line==(ts.head?.map (·.pos.line)).getD 0 then some id else none
   |_=>none))):=rfl
  rw[e];split
  ·exact .inl rfl
  ·split
   ·exact .inl rfl
   ·split
    ·exact .inl rfl
    ·rename_i r;split
     ·exact .inl rfl
     ·rename_i n;rw[WX fun q=>by rw[q] at m;simp only[Bool.not_eq_true] at n;rw[n] at m;exact dh m];simp only[XX,bne_iff_ne,not_or,Decidable.not_not] at r;obtain⟨a,b⟩:=z.2 r.1;exact .inr ⟨_,rfl,a,b⟩
 ·exact .inl h
def UK:Prop:= ∀⦃te env h e k p⦄,I0 te env h e k p
def yP:UK:=eA No UJ
def yQ (h:te.eG i n=true) (I:ia X d te A env env.locals e c) (r:dC X c v y) (m:Aa i k [v] e c.H Qp) (x:Ny X te env c k Qp (R ())):wpAny (M X) A (assign (.Name n p) env y) R bw c.s:=
 ZE (gv I.r I.f h (fun ξ=>rfl) r fun q g s u t=>x q _ g t (by rwa[s]))
def Np (S:Sys X) (z:SE X C d o) (g:X.fj[n]?=some name) (i:aW X.nm te o s=true) (I:ia X d te A env env.locals t c) (r:dC X c v y) (m:MA X.P C (.ai o n) k [v] t c.H j) (l:Ny X te env c k j (R ())):
  wpAny (M X) A (assign (.Attribute s name p) env y) R bw c.s:=by
 show wpAny (M X) A (do
  let e←holding [y] (eval s env)
  standAt p.atName
  holding [y,e] (PySem.setAttr e name y)
  release [y,e] []) R bw c.s
 refine WQ (XE (z i I m fun G x b h f u=>WQ (XA (WQ (XE ?_)))));cases x with
 |ref a=>rw[show b=_ from f];exact vR S g u h.hr (r.go h) fun D w H q=>wpAny_release' (l D t (Go.gx I.r (Go.trans I.r h w)) (I.f.go (Go.trans I.r h w) id id) q)
 |_=>exact u.elim
def yR {v:Value} (m:mr i=true):assign (.Subscript o i e) env v=(do
  let h←holding [v] (eval o env)
  let x←holding [v,h] (eval i env)
  standAt e
  holding [v,h,x] (setItem h x v)
  release [v,h,x] []):=by
 induction i using Expr.casesOn<;>first|rfl|exact dh m
def Cg {st:aN} (m:K0 k (i::x::v::st) h H e): ∃n a,i= .int n∧x= .ref a∧Yr (an H a) (By a n v k st h H e):=by
 cases i with
 |int n=>cases x with
  |ref a=>exact⟨n,a,rfl,rfl,m⟩
  |_=>exact m.elim
 |_=>exact m.elim
def QT (l:SE X C d o) (b:SE X C d i) (f:aW X.nm te o D=true) (G:aW X.nm te i s=true) (I:ia X d te A env env.locals u c) (r:dC X c v y) (m:MA X.P C (.bp o i) k [v] u c.H H) (J:Ny X te env c k H (R ())):
  mr s=true→wpAny (M X) A (assign (.Subscript D s p) env y) R bw c.s:=fun L=>by
 rw[yR L];refine WQ (XE (l f I m fun c1 x N w O Q=>WQ (XE (b G (I.go w) Q fun c2 z zv g U e=>WQ (XA (WQ (XE ?_)))))));obtain⟨n,a,rfl,rfl,e⟩:=Cg e;rw[show N=_ from O];refine d8.casesOn U fun t=>?_;have h:=Go.trans I.r w g;exact En e g.hr (r.go h) fun Y j eO q=>wpAny_release' (J Y u (Go.gx I.r (Go.trans I.r h j)) (I.f.go (Go.trans I.r h j) id id) q)
def wi (m:HF x k [v] n H p): ∃h B,v= .aG h∧cK x h n=some B∧k [] B H p:=by
 cases v with
 |aG h=>obtain⟨B,e,m⟩:=dD m;exact⟨h,B,rfl,e,m⟩
 |_=>exact m.elim
def Lk (n:cC te u q=true) (I:ia X d te A env env.locals w c) (r:dC X c v y) (m:HF u k [v] w c.H i) (j:Ny X te env c k i (R ())):
  wpAny (M X) A (assign (.Tuple q L p) env y) R bw c.s:=by
 obtain⟨N,B,rfl,e,m⟩:=wi m;refine bh.casesOn r fun a r=>f8.casesOn r fun h O g z s=>?_;obtain⟨l,f⟩:=iu (env:=env) n;show wpAny (M X) A (standAt p>>=fun ξ=>unpack (.ref a) (assignEach q env)) _ _ c.s;refine WQ (XA ?_);refine unpack_tuple I.a.hh (ft g) (by rw[l,gb e,s.length];simp) f fun t C=>?_
 have x:Go X cS c ⟨c.ow,{c.s with heap:=t,toks:=c.s.toks},c.H⟩:=Go.keeps I.r fun b o e=>C b o (Ys (X8 e)) e
 exact wg (c:=⟨c.ow,{c.s with heap:=t,toks:=c.s.toks},c.H⟩) n (s.go x) (I.go x) e fun D G H J=>j D B (Go.trans I.r (Go.gx I.r x) G) J (by rwa[H])
end
section
open AutoSeq1 (wpAny_loadPart')
variable {X:Cx} {A:Around} {c:Cf} {d:Nat} {elts:bX} {k:Nat} {pt:Pos}
inductive nS (X:Cx) (A:Around) (EW:Expr) (c:Cf) (xs:aN):Value→Shared→Prop
 |mk (I:Nat) (wr:Nat→Prop) (St:Nat→Heap→Prop) (h':Heap) (t:Tok) (wI:wr I) (fr: ∀a,wr a→c.s.heap.get? a=none) (kp: ∀b o,c.s.heap.get? b=some o→h'.get? b=some o) (W:Uy X A c I wr EW xs St) (h0:St 0 h'):nS X A EW c xs (.ref I) {c.s with heap:=h',toks:=t}
def iq.gen (h:iq X A c e x m):nS X A n c e x m:=
 iq.casesOn h fun I St p t f k W st=> .mk I (fun a=>a=I) St p t rfl (fun ξ w=>w▸f) k W.gen st
theorem mw: ∀{xs:aN} {n i:Nat} {v:V},(ib n xs)[i]?=some v→ ∃w,xs[i]?=some w∧v= .aG [.int (n+i:Nat),w]
 |[],_,_,_,h=>nomatch h
 |x::xs,n,0,v,h=>⟨x,rfl,(W7 h).symm⟩
 |x::xs,n,i+1,v,h=>by obtain⟨w,e,m⟩:=mw (xs:=xs) (n:=n+1) (i:=i) h;exact⟨w,e,by rw[m,YG,ZF 1]⟩
theorem jd: ∀{xs:aN} {n:Nat},(ib n xs).length=xs.length
 |[],_=>rfl
 |_::xs,n=>W4 (· +1) (jd (xs:=xs))
theorem wj: ∀{ks:ah} {vs:aN} {i:Nat} {v:V},(x5 ks vs)[i]?=some v→ ∃k w,ks[i]?=some k∧vs[i]?=some w∧v= .aG [.int k,w]
 |[],_,_,_,h=>nomatch h
 |_::_,[],_,_,h=>nomatch h
 |k::ks,w::vs,0,v,h=>⟨k,w,rfl,rfl,(W7 h).symm⟩
 |k::ks,w::vs,i+1,v,h=>wj (ks:=ks) (vs:=vs) (i:=i) h
theorem wk: ∀{e:ah} {x:aN},e.length=x.length→(x5 e x).length=e.length
 |[],_,_=>rfl
 |_::_,[],h=>nomatch h
 |k::e,w::x,h=>W4 (· +1) (wk (Y7 h))
def VR.QU {e:Ow} (o:e a=none) (g:h.get? a=some {cls:= .type "tuple",data:= .seq #[u,v]}) (m:VR X h e x u) (n:VR X h e y v):VR X h e (.aG [x,y]) (.ref a):=
 ⟨a,[u,v],o,g,(by show 2≤cV;exact bM aw),u,[v],m,v,[],n,rfl⟩
def I1 (h:Heap):h.get? (h.objs.size+1)=none:=by
 cases q:h.get? (h.objs.size+1) with
 |none=>rfl
 |some o=>exact absurd (X8 q) (Yn.mpr (YF _))
theorem Ch {a n:Nat} (hA:gW d A) (N:c.ow a=none) (g:c.s.heap.get? a=some (b5 p n)) (O:dk X c xs p):
  wpAny (M X) A (call (.type "enumerate") [.ref a]) (fun e s1=>wpAny (M X) A (pyIter e) (nS X A (.Tuple elts k pt) c (ib 0 xs)) bw s1) bw c.s:=by
 refine call_enumerate_1 g fun h1 U G ξ hk=>?_
 refine wpAny_pyIter_enum U (.mk (t:=c.s.toks) (c.s.heap.objs.size+1) (fun a=>a=c.s.heap.objs.size+1∨a=c.s.heap.objs.size) (fun i h=>(∃m,IsEnum h (c.s.heap.objs.size+1) c.s.heap.objs.size i m)∧h.IsListIter c.s.heap.objs.size a i) h1 (.inl rfl)
  (fun a w=>by rcases w with rfl|rfl;exact I1 _;exact aX _) hk ?_ ⟨⟨_,U⟩,G⟩)
 have eo:c.s.heap.objs.size+1≠c.s.heap.objs.size:=Nat.succ_ne_self _;refine⟨fun{i h a} st w=>?_,fun st Y=>⟨let⟨m,e⟩:=st.1;⟨m,Y _ _ (.inl rfl) e⟩,let⟨o,e,r⟩:=st.2;⟨o,Y _ _ (.inr rfl) e,r⟩⟩,fun{i v u Q E} hv st D hr ho H=>?_,fun{u Q E} st D H=>?_⟩
 ·obtain⟨⟨m,z⟩,o',e2,hc,hd⟩:=st;rcases w with rfl|rfl
  ·exact⟨_,z⟩
  ·exact⟨_,e2⟩
 ·obtain⟨w,hw,rfl⟩:=mw hv;obtain⟨⟨m,z⟩,x⟩:=st;obtain⟨y,hy,ry⟩:=uO (O.keep D) hw;refine wpAny_pyNext_enum_item z x (bK (D _ _ g N).1) hy eo fun h2 l f B ha I=>H _ h2 (u.s.toks+1) fun{Q' E'} q'=>?_
  refine wpAny_letOwnedTupleGo_enum (s:={u.s with heap:=h2,toks:=u.s.toks+1}) l fun h3 J j=>?_;haveI L:u.s.heap.objs.size≠c.s.heap.objs.size+1:=fun q=>aai _ (q▸X8 z);have k3: ∀b o,¬(b=c.s.heap.objs.size+1∨b=c.s.heap.objs.size)→u.s.heap.get? b=some o→h3.get? b=some o:=fun b o C e=>(j.2 _ fun q=>C (.inl q)).trans (I b o (fun q=>C (.inl q)) (fun q=>C (.inr q)) e);refine q' h3 (VR.QU (hr.fresh (aX _)).2.1 ((j.2 _ L).trans B) (by rw[X2];exact⟨_⟩) (ry.keep fun b o e n=>⟨k3 b o (fun w=>ho b w n) e,n⟩)) ⟨⟨_,by simpa using J⟩,let⟨o,e,r⟩:=f;⟨o,(j.2 _ eo.symm).trans e,r⟩⟩ k3
 ·obtain⟨⟨m,z⟩,x⟩:=st;rw[jd] at z x;refine wpAny_pyNext_enum_end hA.hh z x (bK (D _ _ g N).1) (by rw[O.length];simp) fun h' hx=>H h' u.s.toks fun b o C e=>hx b o (fun q=>C (.inr q)) e
@[reducible] def I2 (X : Cx) (A : Around) (c : Cf) (d : Nat) (elts : bX) (k : Nat) (pt : Pos) (a x : Nat) (h : List (Int × Value)) (vs : aN) : Prop := ∀ (n : gW d A) (ow : c.ow a = none) (p : a ≠ sysModules) (g : c.s.heap.DictAt (intKind X.prog X.w) a h x) (q : dk X c vs (h.map (·.2))), wpAny (M X) A (call (.builtin "dict.items") [.ref a]) (fun e m => wpAny (M X) A (pyIter e) (nS X A (.Tuple elts k pt) c (x5 (h.map (·.1)) vs)) bw m) bw c.s
abbrev Nq:List Type:=[Cx,Around,Cf,Nat,bX,Nat,Pos,Nat,Nat,List (Int×Value),aN]
def QV:=eV Nq I2 ⟨vn,xR,yw,nI,nI,nI,nI,nI,nI,nI,nI,trivial⟩
def UL:eU Nq I2 QV:=by
 injections QV X A c d elts k pt a I x vs;change I2 X A c d elts k pt a I x vs;intro hA ow sy g rs;haveI hl:(x5 (x.map (·.1)) vs).length=x.length:=by rw[wk (by rw[rs.length,WP,WP]),WP]
 refine call_meetsIn F.slot_dict_items g.dictOf.mapOf.typeIs F.entry_dict_items (F.args_dict_items_1 _) (meets_dict_items (intKind X.prog X.w) a (by simpa using sy)) ⟨⟨x,g.dictOf⟩,?_⟩;have J: ∀b o,c.s.heap.get? b=some o→(c.s.heap.push {cls:= .type "dict_items",data:= .fields #[.ref a]}).get? b=some o:=aK _ _
 refine wpAny_pyIter_items (s:={c.s with heap:=c.s.heap.push {cls:= .type "dict_items",data:= .fields #[.ref a]}}) ⟨_,Xd _ rfl,rfl,rfl⟩ (g.at' fun o=>J _ o) ?_;generalize L:c.s.heap.push {cls:= .type "dict_items",data:= .fields #[.ref a]}=m at J⊢;haveI N:m.objs.size=c.s.heap.objs.size+1:=by rw[←L,Zl]
 haveI O: ∀b o,c.s.heap.get? b=some o→(m.push {cls:= .type "dict_itemiterator",data:= .fields #[.none,.bool false,.ref a,.int 0 0,.int x.length 0,.int I 0,.none,.none]}).get? b=some o:=fun b o e=>aK _ _ b o (J b o e);refine .mk (t:=c.s.toks) m.objs.size (fun a=>a=m.objs.size) (fun i h=> ∃r u,IsItemIter h m.objs.size a i x.length I r u) _ rfl (fun a w=>by rw[show a=_ from w,N];exact I1 _) O ?_ ⟨_,_,Xd _ rfl⟩;refine⟨fun{i h b} st w=>?_,fun st O=>let⟨r,u,e⟩:=st;⟨r,u,O _ _ rfl e⟩,fun{i v z Q E} hv st G hr ho U=>?_,fun{z Q E} st G U=>?_⟩
 ·obtain⟨r,u,p⟩:=st;rw[show b=_ from w];exact⟨_,p⟩
 ·obtain⟨r,u,p⟩:=st;obtain⟨kk,ww,j,Y,rfl⟩:=wj hv;rw[Xk] at j;obtain⟨⟨k',w⟩,l,ha⟩:=Xy.mp j;obtain rfl:k'=kk:=ha;obtain⟨y,hy,ry⟩:=(rs.keep G).get Y;obtain rfl:w=y:=by rw[Xk,l] at hy;exact W7 hy
  refine wpAny_pyNext_items_item p (G.dict ow g) l fun hf h2 f B C hg hb=>U _ h2 z.s.toks fun{Q' E'} q'=>?_
  refine wpAny_letOwnedTupleGo_items (s:={z.s with heap:=h2}) B fun h3 hc D=>?_;haveI he:z.s.heap.objs.size≠m.objs.size:=fun q=>aai _ (q▸X8 p);have k3: ∀b o,¬b=m.objs.size→z.s.heap.get? b=some o→h3.get? b=some o:=fun b o H e=>(D.2 _ H).trans (hb b o H e);obtain⟨t,rfl⟩:=Value.isInt_shape f;exact q' h3 (VR.QU (hr.fresh (aX _)).2.1 ((D.2 _ he).trans C) ⟨_⟩ (ry.keep fun b o e n=>⟨k3 b o (fun w=>ho b w n) e,n⟩)) ⟨_,_,hc⟩ k3
 ·obtain⟨r,u,p⟩:=st;rw[hl] at p;exact wpAny_pyNext_items_end hA.hh p (G.dict ow g) (by rw[XN (Xl _)]) fun h' hx=>U h' z.s.toks fun b o H e=>hx b o H e
def UM:Prop:= ∀⦃X A c d elts k pt a e h vs⦄,I2 X A c d elts k pt a e h vs
def yS:UM:=eA Nq UL
@[reducible] def I3 (X : Cx) (A : Around) (h t : Addr) (i : Nat) (items : Array Value) (s : Shared) (Q E : Value → Shared → Prop) : Prop := ∀ (n : A.handled = none) (m : s.heap.IsTupleIter h t i) (p : s.heap.IsTuple t items) (q : items[i]? = none) (r : ∀ x e, Heap.ExtBut h s.heap x → (∃ o, x.get? e = some o ∧ o.cls = .type "StopIteration") → E (.ref e) { s with heap := x }), wpAny (M X) A (Builtin.SmallTypes.nextOf (.ref h)) Q E s
abbrev Nr:List Type:=[Cx,Around,Addr,Addr,Nat,Array Value,Shared,Value→Shared→Prop,Value→Shared→Prop]
def QW:=eV Nr I3 ⟨vn,xR,nI,nI,nI,nI,PA,nI,nI,trivial⟩
def UN:eU Nr I3 QW:=by
 injections QW X A n t i h s Q E;change I3 X A n t i h s Q E;intro u e v w y;obtain⟨o,p,z,hd⟩:=id e;obtain⟨g,q,_,j,r⟩:=v;unfold Builtin.SmallTypes.nextOf
 refine WQ (Zx (name:=Str.ofString "__next__") e.typeIs F.slot_tuple_iterator_next
  (wpAny_call_entry F.slot_tuple_iterator_next e.typeIs F.entry_tuple_iterator_next ?_ (F.args_tuple_iterator_next_1 _)))
 show wpAny _ _ (field (.ref n) 0>>=_) _ _ s;refine WQ (aae p hd (x:= .ref t) rfl ?_);show wpAny _ _ (if(Value.ref t==Value.none)=true then _ else _) _ _ s;rw[WX (show¬((Value.ref t==Value.none)=true) from W5)];show wpAny _ _ (field (.ref n) 1>>=_) _ _ s;refine WQ (aae p hd (x:= .int i 0) rfl ?_);show wpAny _ _ (seqItems? (.ref t)>>=_) _ _ s;refine WQ (Z8 q r ?_);simp only[X9,w];refine WQ (Z7 (WQ (wpAny_setField p hd (by simp) ?_)));show wpAny _ _ (newExc (.type "StopIteration") []>>=_) _ _ _;refine WQ ?_;simp only[newExc,newTuple];refine WQ (XV ?_ (by size_fits));refine WQ (m:=firstArgMember _ _) (YY (a:=Value.none) (by first|rfl|(simp only[firstArgMember];rfl)) ?_);refine XV ?_ (by size_fits);simp only[raiseNew];refine WQ (wpAny_handled ?_)
 first|rw[show A.in1.handled=none from u]|rw[u]
 refine WQ (WV (wpAny_throw ?_));exact y _ _ (((Zp ..).extBut.push _).push _) ⟨_,Xd _ rfl,rfl⟩
def UO:Prop:= ∀⦃X A h t i items s Q E⦄,I3 X A h t i items s Q E
def nh:UO:=eA Nr UN
def wm (n:A.handled=none) (x t:Addr):Draws X.prog X.w A x [x,t] 0 (fun ξ ξ=>False) (fun i h=>h.IsTupleIter x t 0∧h.get? t=some (dA [] 0)) where
 live:=fun ξ ξ st=>let⟨o,p,_⟩:=st.1;⟨o,p⟩
 frame:=fun ξ ξ ξ st m=>⟨let⟨o,e,r⟩:=st.1;⟨o,m x (by simp) o e,r⟩,m t (by simp) _ st.2⟩
 item:=fun i s Q E q=>absurd q (Yc _)
 done:=fun s Q E st u=>nh (X:=X) n st.1 (ft st.2) (by simp) u
set_option tactic.hygienic true in
theorem qi:Meets (Builtin.«enumerate.__new__» ⟨[.type "enumerate",.ref a],[]⟩) (fun ξ R s=>s.heap.get? a=some (dA [] 0)∧
   R (.ok (.ret (.ref (s.heap.push {cls:= .type "tuple_iterator",data:= .fields #[.ref a,.int 0 0]}).objs.size)))
    {s with heap:=(s.heap.push {cls:= .type "tuple_iterator",data:= .fields #[.ref a,.int 0 0]}).push {cls:= .type "enumerate",data:= .fields #[.none,.bool false,.ref s.heap.objs.size,rawInt 0,.none,.none]}}):=
 .of_wp fun m w A R s h=>by
  obtain⟨p,g,d,q,os⟩:=s;obtain⟨e,h⟩:=h;haveI n:=sub_enumerate;have x:Heap.IsTuple (Shared.heap ⟨p,g,d,q,os⟩) a #[]:=ft e
  wp_walk using wpAny_loadPart' e
  refine wpAny_stack_any fun st=>WV ?_;split
  ·rename_i c _ _ _ _ _;induction(c==Value.type "enumerate") using Bool.casesOn
   ·wp_walk using wpAny_loadPart' e,Zv x
    exact⟨_,rfl,h⟩
   ·wp_walk using wpAny_loadPart' e,Zv x
    exact⟨_,rfl,h⟩
  ·wp_walk using wpAny_loadPart' e,Zv x
   exact⟨_,rfl,h⟩
def yT (f:gW d A) (B:c.ow a=none) (g:c.s.heap.get? a=some (dA [] 0)):
  wpAny (M X) A (call (.type "enumerate") [.ref a]) (fun e C=>wpAny (M X) A (pyIter e) (nS X A (.Tuple elts k pt) c []) bw C) bw c.s:=by
 refine callType_new F.called_enumerate (aU aw) (F.typeCall_enumerate_1 _) (F.newCall_enumerate_1 _) (fun p=>ZT p _) F.entry_enumerate_new qi ⟨g,?_⟩;have z:(c.s.heap.push {cls:= .type "tuple_iterator",data:= .fields #[.ref a,.int 0 0]}).objs.size=c.s.heap.objs.size+1:=Zl ..;show _∧_;rw[z];generalize m:(c.s.heap.push {cls:= .type "tuple_iterator",data:= .fields #[.ref a,.int 0 0]}).push {cls:= .type "enumerate",data:= .fields #[.none,.bool false,.ref c.s.heap.objs.size,rawInt 0,.none,.none]}=n;have s:IsEnum n (c.s.heap.objs.size+1) c.s.heap.objs.size 0 .none:=by rw[←m,←z];exact Xd _ rfl
 haveI D: ∀b o,c.s.heap.get? b=some o→n.get? b=some o:=fun b o e=>m▸aK _ _ _ _ (aK _ _ b o e);haveI u:n.IsTupleIter c.s.heap.objs.size a 0:=⟨_,m▸aK _ _ _ _ (Xd _ rfl),rfl,rfl⟩
 refine⟨⟨_,s,rfl⟩,wpAny_pyIter_enum s (.mk (t:=c.s.toks) (c.s.heap.objs.size+1) (fun a=>a=c.s.heap.objs.size+1∨a=c.s.heap.objs.size) (fun i h=>(∃j x,IsEnum h (c.s.heap.objs.size+1) c.s.heap.objs.size j x)∧h.IsTupleIter c.s.heap.objs.size a 0) n (.inl rfl)
  (fun a w=>by rcases w with rfl|rfl;exact I1 _;exact aX _) D ?_ ⟨⟨_,_,s⟩,u⟩)⟩
 refine⟨fun{i h a} st w=>?_,fun st l=>⟨let⟨j,x,e⟩:=st.1;⟨j,x,l _ _ (.inl rfl) e⟩,let⟨o,e,r⟩:=st.2;⟨o,l _ _ (.inr rfl) e,r⟩⟩,fun G=>(nomatch G),fun{H Q E} st I J=>?_⟩
 ·obtain⟨⟨j,x,v⟩,⟨Y,L,hc,hd⟩⟩:=st;rcases w with rfl|rfl
  ·exact⟨_,v⟩
  ·exact⟨_,L⟩
 ·obtain⟨⟨j,x,v⟩,y⟩:=st;exact wpAny_pyNext_enum_endD (wm (X:=X) (A:=A.in1) f.hh c.s.heap.objs.size a) v ⟨y,(I _ _ g B).1⟩ fun N O=>J N H.s.toks fun b o U e=>O b o (fun q=>U (.inr q)) e
end
section
variable {A:Around} {c c1:Cf} {B:Fr} {Qp:cy} {k:Kt} {te:TE} {env:Env} {R:Flow→Shared→Prop} {e:E}
def QX (te:TE) (t:T) (x:Expr):Bool:=match t with
 | .name i=>fX (fun n=>te.eG i n) (aF x)
 | .aG h=>vX (fun m=>cC te h m) (aF x)
 |_=>false
def wn (N:Nm) (te:TE) (h:It) (t x:Expr):Bool:=match h with
 | .plain e=>yJ x&&aW N te e x
 | .x3 e=>vX (fun ξ=>true) (aF t)&&Am (fun g=>fX (fun n=>n==Str.ofString "enumerate"&&te.kind n==some .globalImplicit) (aF g)) (fun l=>dm N te [e] l&&b9 l) (aF x)
 | .items e=>vX (fun ξ=>true) (aF t)&&B2 (fun s=>s==Str.ofString "items") (fun y=>jM y&&aW N te e y) (fun l=>dm N te [] l&&b9 l) (aF x)
def yU:E→Bool
 | .comp .. =>true
 |_=>false
def Ll:E→Bool
 | .mut e=>yU e
 |_=>false
def Fd (t:T) (e:E) (v:Expr):Bool:=match t with
 | .name _=>yU e||Ll e||kx v
 |_=>true
def s5:S→Bool
 | .rB _=>true
 | .Bu _ _=>true
 | .x4 _=>true
 |_=>false
structure Hs where
 t:Nat
 p:Pos
 ks:bX:=[]
 o:Operator:=default
 v:Option Expr:=none
 a:List Stmt:=[]
 b:List Stmt:=[]
def cn (x:Stmt):Hs:=match x with
 | .Expr v p=>{t:=0,p,ks:=[v]}
 | .Assign ts v p=>{t:=1,p,ks:=v::ts}
 | .AugAssign t o v p=>{t:=2,p,o,ks:=[t,v]}
 | .Return v p=>{t:=3,p,v}
 | .If c a b p=>{t:=4,p,ks:=[c],a,b}
 | .While c a b p=>{t:=5,p,ks:=[c],a,b}
 | .For t i a b p=>{t:=6,p,ks:=[t,i],a,b}
 | .Break p=>{t:=7,p}
 | .Continue p=>{t:=8,p}
 | .Pass p=>{t:=9,p}
 |_=>{t:=10,p:=default}
def V2 (t:Nat) (w:Hs) (x:Stmt):Stmt:=match t with
 |0=> .Expr (hd w.ks) w.p
 |1=> .Assign w.ks.tail (hd w.ks) w.p
 |2=> .AugAssign (hd w.ks) w.o (hd w.ks.tail) w.p
 |3=> .Return w.v w.p
 |4=> .If (hd w.ks) w.a w.b w.p
 |5=> .While (hd w.ks) w.a w.b w.p
 |6=> .For (hd w.ks) (hd w.ks.tail) w.a w.b w.p
 |7=> .Break w.p
 |8=> .Continue w.p
 |9=> .Pass w.p
 |_=>x
def QY (x:Stmt):x=V2 (cn x).t (cn x) x:=by induction x using Stmt.casesOn<;>rfl
@[elab_as_elim] def Ht {motive : Stmt → Prop} (h : ((cn x).t == t) = true) (k : motive (V2 t (cn x) x)) : motive x := by
 have e:=QY x;rw[hZ h] at e;exact e▸k
@[irreducible] def UP (f : Ck) (w : Hs) : Bool := w.t == 0 && f (hd w.ks)
@[irreducible] def I4 (f : Expr → Expr → Bool) (w : Hs) : Bool := w.t == 1 && (w.ks.tail.length == 1 && f (hd w.ks.tail) (hd w.ks))
@[irreducible] def I5 (h : Operator) (O m : Ck) (w : Hs) : Bool := w.t == 2 && (w.o == h && (O (hd w.ks) && m (hd w.ks.tail)))
@[irreducible] def Nt (f : Option Expr → Bool) (w : Hs) : Bool := w.t == 3 && f w.v
@[irreducible] def UQ (G : Ck) (J D : List Stmt → Bool) (w : Hs) : Bool := w.t == 4 && (G (hd w.ks) && (J w.a && D w.b))
@[irreducible] def Nu (G : Ck) (D : List Stmt → Bool) (w : Hs) : Bool := w.t == 5 && (w.b.isEmpty && (G (hd w.ks) && D w.a))
@[irreducible] def Nv (D : List Stmt → Bool) (O : Expr → Expr → Bool) (w : Hs) : Bool := w.t == 6 && (w.b.isEmpty && (D w.a && O (hd w.ks) (hd w.ks.tail)))
def Nw (h:Nat) (w:Hs):Bool:=w.t==h
section
variable {x:Stmt} {J D G:Ck} {H O:List Stmt→Bool} {motive:Stmt→Prop}
@[elab_as_elim] def UR (h : UP J (cn x) = true) (k : ∀ v p, J v = true → motive (.Expr v p)) : motive x := by
 delta UP at h;exact Ht (ak h).1 (k _ _ (ak h).2)
@[elab_as_elim] def QZ {f : Expr → Expr → Bool} (h : I4 f (cn x) = true) (k : ∀ t v p, f t v = true → motive (.Assign [t] v p)) : motive x := by
 delta I4 at h;exact Ht (ak h).1 (Al (motive:=fun l=>motive (.Assign l _ _)) (ak (ak h).2).1 (k _ _ _ (ak (ak h).2).2))
@[elab_as_elim] def Lm (h : I5 n J D (cn x) = true) (k : ∀ t v p, J t = true → D v = true → motive (.AugAssign t n v p)) : motive x := by
 delta I5 at h;have m:=ak (ak h).2;exact Ht (ak h).1 (Hr (motive:=fun o=>motive (.AugAssign _ o _ _)) m.1 (k _ _ _ (ak m.2).1 (ak m.2).2))
@[elab_as_elim] def Q0 {f : Option Expr → Bool} (h : Nt f (cn x) = true) (k : ∀ v p, f v = true → motive (.Return v p)) : motive x := by
 delta Nt at h;exact Ht (ak h).1 (k _ _ (ak h).2)
@[elab_as_elim] def Q1 (h : UQ G H O (cn x) = true) (k : ∀ c s t p, G c = true → H s = true → O t = true → motive (.If c s t p)) : motive x := by
 delta UQ at h;have m:=ak (ak h).2;exact Ht (ak h).1 (k _ _ _ _ m.1 (ak m.2).1 (ak m.2).2)
@[elab_as_elim] def Q3 (h : Nu G H (cn x) = true) (k : ∀ c s p, G c = true → H s = true → motive (.While c s [] p)) : motive x := by
 delta Nu at h;have m:=ak (ak h).2;exact Ht (ak h).1 (nR (motive:=fun o=>motive (.While _ _ o _)) m.1 (k _ _ _ (ak m.2).1 (ak m.2).2))
@[elab_as_elim] def Q4 {f : Expr → Expr → Bool} (h : Nv H f (cn x) = true) (k : ∀ t i s p, H s = true → f t i = true → motive (.For t i s [] p)) : motive x := by
 delta Nv at h;have m:=ak (ak h).2;exact Ht (ak h).1 (nR (motive:=fun o=>motive (.For _ _ _ o _)) m.1 (k _ _ _ _ (ak m.2).1 (ak m.2).2))
end
mutual
noncomputable def Nz (N:Nm) (te:TE):S→Stmt→Bool
 | .raise,_=>true
 | .expr e,x=>UP (fun v=>aW N te e v&&kx v) (cn x)
 | .asg t e,x=>I4 (fun h v=>QR N te t h v&&(Fd t e v&&aW N te e v)) (cn x)
 | .iF i m e,x=>I5 (nQ m) (fun t=>fX (fun n=>te.eG i n) (aF t)) (fun v=>aW N te e v) (cn x)
 | .rD o n m e,x=>I5 (nQ m) (fun t=>sR (fun s ξ=>N.fj[n]?==some s) (fun y=>aW N te o y) (aF t)) (fun v=>aW N te e v) (cn x)
 | .ret e,x=>Nt (fun v=>B3 N te e v) (cn x)
 | .bs c a b,x=>UQ (fun y=>aW N te c y&&Dl c y) (fun l=>lC N te a l) (fun l=>lC N te b l) (cn x)
 | .t8 c b _ _,x=>Nu (fun y=>aW N te c y&&Dl c y) (fun l=>lC N te b l) (cn x)
 | .cA t p b _ _,x=>Nv (fun l=>lC N te b l) (fun h q=>QX te t h&&wn N te p h q) (cn x)
 | .brk,x=>Nw 7 (cn x)
 | .cont,x=>Nw 8 (cn x)
 | .pass,x=>Nw 9 (cn x)
 | .rB _,_=>false
 | .Bu _ _,_=>false
 | .x4 _,_=>false
noncomputable def lC (N:Nm) (te:TE):List S→List Stmt→Bool
 |[],l=>l.isEmpty
 |s::h,l=>match s5 s with
  |true=>lC N te h l
  |false=>match l with
   |x::r=>Nz N te s x&&lC N te h r
   |[]=>false
end
structure Ex (X:Cx) (te:TE) (env:Env) (c:Cf) (Qp:cy) (R:Flow→Shared→Prop):Prop where
 brk: ∀c' fr',Go X (WL env) c c'→cL X te env env.locals fr' c'→Qp .brk fr' c'.H→R .brk c'.s
 cont: ∀c' fr',Go X (WL env) c c'→cL X te env env.locals fr' c'→Qp .cont fr' c'.H→R .cont c'.s
 ret: ∀c' fr' v y,Go X (WL env) c c'→cL X te env env.locals fr' c'→dC X c' v y→Qp (.ret v) fr' c'.H→R (.ret y) c'.s
def Ny.pre {R:Shared→Prop} (p:HR X c) (g:Go X (WL env) c c1) (n:Ny X te env c k Qp R):Ny X te env c1 k Qp R:=fun q h r F m=>n q h (Go.trans p g r) F m
def Ex.pre (s:HR X c) (g:Go X (WL env) c c1) (n:Ex X te env c Qp R):Ex X te env c1 Qp R:=
 ⟨fun p h q F m=>n.brk p h (Go.trans s g q) F m,fun p h q F m=>n.cont p h (Go.trans s g q) F m,fun p h v y q F r m=>n.ret p h v y (Go.trans s g q) F r m⟩
abbrev SS (X:Cx) (C:bG) (d:Nat) (s:S):Prop:= ∀⦃te:TE⦄ ⦃x:Stmt⦄ ⦃A:Around⦄ ⦃env:Env⦄ ⦃B:Fr⦄ ⦃c:Cf⦄ ⦃k:Kt⦄ ⦃Qp:cy⦄ ⦃R:Flow→Shared→Prop⦄,Nz X.nm te s x=true→ia X d te A env env.locals B c→MS X.P C s k [] B c.H Qp→
 Ny X te env c k Qp (R .next)→Ex X te env c Qp R→wpAny (M X) A (exec x env) R bw c.s
abbrev SB (X:Cx) (C:bG) (d:Nat) (b:List S):Prop:= ∀⦃te:TE⦄ ⦃x:List Stmt⦄ ⦃A:Around⦄ ⦃env:Env⦄ ⦃B:Fr⦄ ⦃c:Cf⦄ ⦃k:Kt⦄ ⦃Qp:cy⦄ ⦃R:Flow→Shared→Prop⦄,lC X.nm te b x=true→ia X d te A env env.locals B c→MB X.P C b k [] B c.H Qp→
 Ny X te env c k Qp (R .next)→Ex X te env c Qp R→wpAny (M X) A (execs x env) R bw c.s
def gd {line:Nat} (h:kx v=true):swapsWith v t line env=pure false:=by induction v using Expr.casesOn<;>first|rfl|exact dh h
def qj {line:Nat}:swapsWith v (some (.Attribute o n p)) line env=pure false∧swappedStores [.Attribute o n p] v env=pure none:=by induction v using Expr.casesOn<;>exact⟨rfl,rfl⟩
def s6 {line:Nat}:swapsWith v (some (.Subscript o i p)) line env=pure false∧swappedStores [.Subscript o i p] v env=pure none:=by induction v using Expr.casesOn<;>exact⟨rfl,rfl⟩
def yV:swappedStores [.Name n p] v env=pure none:=by induction v using Expr.casesOn<;>rfl
def nT (m:swapsWith v (some t) h.line env=pure false):exec (.Assign [t] v h) env=(do
  standAt h
  let x←eval v env
  assignStores env x (←swappedStores [t] v env) ((assignEach [t] env).map (·.2))):=by
 haveI e:exec (.Assign [t] v h) env=(do
  standAt h
  if←swapsWith v (some t) h.line env then do
   evalThenUse v env fun v=>assignAll v ((assignEach [t] env).map (·.2))
   pure .next
  else do
   let x←eval v env
   assignStores env x (←swappedStores [t] v env) ((assignEach [t] env).map (·.2))):=rfl
 rw[e,m];rfl
def ky {n:Kt} (p:SE X C d e) (q:aW X.nm te e v=true) (I:ia X d te A env env.locals B c) (m:ME X.P C e n [] B c.H Qp) (r:swapsWith v (some t) h.line env=pure false) (s:swappedStores [t] v env=pure none) (u:assignEach [t] env=[(false,assign t env)])
  (z: ∀c1 w y,Go X cS c c1→dC X c1 w y→n [w] B c1.H Qp→wpAny (M X) A (assign t env y) (fun ξ g=>R .next g) bw c1.s):wpAny (M X) A (exec (.Assign [t] v h) env) R bw c.s:=by
 rw[nT r,s,u];refine WQ (XA (WQ (p q I m fun c1 w y i j l=>WQ (WV ?_))));show wpAny (M X) A (assign t env y>>=fun ξ=>(pure Flow.next:Sem Flow)) _ _ c1.s;exact WQ (Xu (z c1 w y i j l) (fun ξ b a=>WV a) fun ξ ξ f=>f.elim)
def Ay (N:te.eG i n=true) (I:ia X d te A env env.locals B c) (g:Go X cS c c1) (r:dC X c1 v (.ref a)) (m:Aa i k [v] B c1.H Qp) (z:c.s.heap.get? L=none) (j:Tu c1 L L) (w: ∃m,c1.s.heap.Ns L m) (Q:Ny X te env c k Qp (R .next)):
  wpAny (M X) A (assign (.Name n p) env (.ref a)) (fun ξ h=> ∃m,h.heap.Ns L m∧ ∀s,Heap.SameBut L h.heap s→R .next {h with heap:=s}) bw c1.s:=by
 have u:L≠env.locals:=fun q=>by obtain⟨_,o,e⟩:=I.f.pZ;rw[←q,z] at e;exact bH e
 refine yQ (k:=k) (Qp:=Qp) N (I.go g) r m fun l U y Y m2=>?_;obtain⟨mm,w⟩:=w;have f:=j.go g.hr y u;refine⟨mm,w.at' fun o e=>j.un y u e,fun s sb=>?_⟩;have C: ∀b o,¬b=L→l.s.heap.get? b=some o→s.get? b=some o:=fun b o n e=>(sb.2 b n).trans e;obtain⟨ha,g3,o1,o2⟩:=Go.last I.r (Go.trans I.r (Go.gx I.r g) y) (t:=l.s.toks) (wr:=fun b=>b=L) (fun a e=>e▸z) (fun a e=>e▸f) rfl C;exact Q _ _ g3 (Y.last (wr:=fun b=>b=L) (fun a e=>e▸f) rfl (fun q=>u q.symm) (fun q=>u q.symm) C o1 o2) m2
def I6 (h:HR X c) (g:Go X cS c c1) (l:fW X c1 a o) (f:c.s.heap.get? a=none):Go X cS c ⟨c1.ow,c1.s,.c a o c1.H⟩:=l.Mg g.hr cS c h g f
theorem Az {α β:Type}: ∀{l:List α} {m:List β},l.length=m.length→l.reverse.zip m.reverse=(l.zip m).reverse
 |[],[],_=>rfl
 |[],_::_,h=>nomatch h
 |_::_,[],h=>nomatch h
 |a::l,b::m,h=>by
  have n:l.length=m.length:=Y7 h;rw[XU,XU,List.zip_append (by simpa using n),Az n];show _=((a,b)::l.zip m).reverse;rw[XU]
  rfl
inductive uR:E→Prop
 |mk (a:E) (b:Nat) (i:E) (o:Option E):uR (.comp a b i o)
def s7 (h:yU e=true):uR e:=by
 induction e using E.casesOn with
 |comp a b i o=>exact⟨a,b,i,o⟩
 |_=>exact dh h
inductive AA:E→Prop
 |mk (a:E) (b:Nat) (i:E) (o:Option E):AA (.mut (.comp a b i o))
def Fe (h:Ll e=true):AA e:=by
 induction e using E.casesOn with
 |«mut» e=>exact uR.casesOn (s7 h) AA.mk
 |_=>exact dh h
end
section
variable {X:Cx} {C:bG} {d:Nat} {A:Around} {c:Cf} {G:Fr} {H:cy} {k:Kt} {D:TE} {B:Env} {R:Flow→Shared→Prop} {e:E}
def s8 (S:Glo X) (i:gR X C d) {cond:Option E} {b:Kt} (U:aW X.nm D (.comp t u o cond) (.ListComp g j v y)=true) (I:ia X d D A B B.locals G c)
  (m:ME X.P C (.comp t u o cond) b [] G c.H H) (Y:swapsWith (.ListComp g j v y) (some (.Name n p)) l.line B=pure true)
  (q: ∀s a L J,Go X cS c s→c.s.heap.get? a=none→fW X s a (.list J)→b [.ap J] G s.H H→c.s.heap.get? L=none→Tu s L L→(∃m,s.s.heap.Ns L m)→a≠L→
    wpAny (M X) A (assign (.Name n p) B (.ref a)) (fun ξ h=> ∃m,h.heap.Ns L m∧ ∀N,Heap.SameBut L h.heap N→R .next {h with heap:=N}) bw s.s):
  wpAny (M X) A (exec (.Assign [.Name n p] (.ListComp g j v y) l) B) R bw c.s:=by
 rw[exec_Assign_Name_used _ _ _ _ Y];refine uK (motive:=fun w=>w= .ListComp g j v y→_) U (fun O x np r z ha p' h1 h0 h2 h3 h4 e1=>?_) rfl;cases(e1)
 refine WQ (XA (WQ ?_));show wpAny (M X) A (do let _←comprehension (.ListComp g [⟨.Name x np,r,z,0⟩] v y) v B (firstIterPos [⟨.Name x np,r,z,0⟩] y) (newList []) false (eval r B) (some (assign (.Name n p) B))) _ _ c.s;exact WQ (Xu (wc (R:=fun ξ Q=>R .next Q) (px:=np) (snd S i o).se (snd S i t).se (fun e ξ=>(snd S i e).st) h1 h0 h2 h3 h4 I m (use:=some (assign (.Name n p) B)) q) (fun ξ Q q=>WV (WV q)) fun ξ ξ f=>f.elim)
def Ff (S:Glo X) (U:gR X C d) (Y:D.eG i n=true) (ho:Fd (.name i) e v=true) (j:aW X.nm D e v=true) (I:ia X d D A B B.locals G c) (m:ME X.P C e (Aa i k) [] G c.H H)
  (nx:Ny X D B c k H (R .next)):wpAny (M X) A (exec (.Assign [.Name n p] v q) B) R bw c.s:=by
 have plain:swapsWith v (some (.Name n p)) q.line B=pure false→wpAny (M X) A (exec (.Assign [.Name n p] v q) B) R bw c.s:=fun b=>ky (snd S U e).se j I m b yV rfl fun c1 w y g r m=>yQ Y (I.go g) r m (nx.pre I.r (Go.gx I.r g))
 have s: ∀{ha it:E} {f:Nat} {cond:Option E},aW X.nm D (.comp ha f it cond) v=true→(∀N gs J O,v= .ListComp N gs J O→swapsWith v (some (.Name n p)) q.line B=pure true→wpAny (M X) A (exec (.Assign [.Name n p] v q) B) R bw c.s)→wpAny (M X) A (exec (.Assign [.Name n p] v q) B) R bw c.s:=fun ck h=>by
  refine uK (motive:=fun w=>v=w→_) ck (fun N x np he hf J O ξ ξ ξ ξ ξ t=>?_) rfl;cases Q:(B.blockKind== .function&&B.kindOf n==some .local&&p.line==v.pos.line&& !(J.names.any fun(m,k)=>m==n&&(k== .local||k== .cell))) with
  |false=>exact plain (by rw[t] at Q⊢;show pure (_&&_&&_&&_)=_;rw[←Q])
  |true=>exact h _ _ _ _ t (by rw[t] at Q⊢;show pure (_&&_&&_&&_)=_;rw[←Q])
 rcases ZY.mp ho with ho|ho
 ·rcases ZY.mp ho with ho|ho
  ·induction s7 ho using uR.casesOn;refine s j fun N gs J O t b=>?_;subst t;refine s8 S U j I m b fun z a L vs g fa l m1 fL u hm ne=>?_;obtain⟨hc,g',r,o⟩:=l.PD I.r g fa;exact Ay (c1:=⟨hc,z.s,z.H⟩) Y I g' r m1 fL ⟨o L L u.own (X3 ne),u.p8,u.al⟩ hm nx
  ·induction Fe ho using AA.casesOn;refine s (yK j).2 fun N gs J O t b=>?_;subst t;refine s8 S U (yK j).2 I m b fun z a L vs g fa l m1 fL u hm ne=>?_;exact Ay (c1:=⟨z.ow,z.s,.c a (.list vs) z.H⟩) (v:= .ref a) Y I (I6 I.r g l fa) rfl (m1 a l.p8) fL ⟨u.own,(WX ne).trans u.p8,u.al⟩ hm nx
 ·exact plain (gd ho)
theorem I7 (S:Glo X) (Q:gR X C d) {j:aL} {U:bX} {Y:Nat} {p f:Pos} {v:Expr} (c1:cC D j U=true) (c2:yO j=true) (c3:uQ v=true) (c4:kx v=true) (h2:aW X.nm D e v=true) (I:ia X d D A B B.locals G c) (m:ME X.P C e (HF j k) [] G c.H H)
  (nx:Ny X D B c k H (R .next)):wpAny (M X) A (exec (.Assign [.Tuple U Y p] v f) B) R bw c.s:=by
 rcases yP (env:=B) (k:=Y) (p:=p) c1 c3 with t|⟨l,t,J,L⟩
 ·exact ky (snd S Q e).se h2 I m (gd c4) t rfl fun hb w y g r m=>Lk c1 (I.go g) r m (nx.pre I.r (Go.gx I.r g))
 ·rw[nT (gd c4),t];refine WQ (XA (WQ ((snd S Q e).se h2 I m fun q w y g r m=>WQ (WV ?_))));obtain⟨vs,N,rfl,cz,m⟩:=wi m;refine bh.casesOn r fun a r=>f8.casesOn r fun h ow gg z rs=>?_;show wpAny (M X) A (rule "assign.swapped-stores">>=fun ξ=>unpackItems (.ref a) l.length none>>=fun h=>assignInOrder (l.reverse.map fun n=>bindName B n) h.reverse>>=fun ξ=>(pure Flow.next:Sem Flow)) _ _ q.s;haveI u:l.length=h.toArray.size:=by rw[←J,gb cz,rs.length];simp
  rw[u];refine WQ (Z7 (WQ (wpAny_unpackItems_tuple I.a.hh ⟨_,gg,rfl,0,rfl⟩ fun h' he=>?_)))
  have O:Go X cS q ⟨q.ow,{q.s with heap:=h',toks:=q.s.toks},q.H⟩:=Go.keeps g.hr fun b o e=>he b o (Ys (X8 e)) e
  haveI hz: ∀i x,(i,x)∈j.reverse.zip l.reverse→D.eG i x=true:=fun i x m=>L i x (by
   rw[Az J] at m
   exact aao.mp m)
  exact WQ (wh (R:=fun ξ s=>wpAny (M X) A (pure Flow.next) R bw s) (c:=⟨q.ow,{q.s with heap:=h',toks:=q.s.toks},q.H⟩) hz (by simpa using J) (rs.reverse.go O) ((I.go g).go O) (ms c2 cz) fun c' g' e' F'=>
   WV (nx c' N (Go.trans I.r (Go.gx I.r (Go.trans I.r g O)) g') F' (by rwa[e'])))
theorem Q5 (S:Glo X) (u:gR X C d) {t:T}:SS X C d (.asg t e):=fun D x A B G c k H R J I m j Q=>by
 refine QZ (show I4 (fun z v=>QR X.nm D t z v&&(Fd t e v&&aW X.nm D e v)) (cn x)=true from J) fun z v L h=>?_;have l:=(ak (ak h).2).2;induction t using T.casesOn with
 |name i=>exact gw (ak h).1 fun n p q=>Ff S u q (ak (ak h).2).1 l I m j
 |ai o n=>exact uJ (show sR (fun s ξ=>X.fj[n]?==some s) (fun y=>aW X.nm D o y) (aF z)=true from(ak h).1) fun N name p a q=>ky (snd S u e).se l I m qj.1 (qj (line:=0)).2 rfl fun O w y g r m=>Np S.toSys (snd S u o).se (hZ a) q (I.go g) r m (j.pre I.r (Go.gx I.r g))
 |bp o i=>exact Ao (show B1 (fun y=>aW X.nm D o y) (fun y=>aW X.nm D i y&&mr y) (aF z)=true from(ak h).1) fun N U p a q=>ky (snd S u e).se l I m s6.1 (s6 (line:=0)).2 rfl fun O w y g r m=>QT (snd S u o).se (snd S u i).se a (ak q).1 (I.go g) r m (j.pre I.r (Go.gx I.r g)) (ak q).2
 |aG b=>exact vY (show vX (fun f=>cC D b f&&yO b&&uQ v&&kx v) (aF z)=true from(ak h).1) fun f Y p q=>I7 S u (ak (ak (ak q).1).1).1 (ak (ak (ak q).1).1).2 (ak (ak q).1).2 (ak q).2 l I m j
end
section
variable {k:Kt}
def Ln {R:Shared→Prop} (I:ia X d p A h h.locals x c) (g:Go X cS c e) (n:Ny X p h c k q R) (m:k [] x e.H q):R e.s:=n e x (Go.gx I.r g) (I.f.go g id id) m
def NA (q:SE X C d e):SS X C d (.expr e):=fun t x A n u c k z R h I m s i=>by
 refine UR h fun v p h=>?_;refine wpAny_Expr (q (ak h).1 I m fun j w y g r m=>?_) ?_ (gd (ak h).2)
 ·induction w using V.casesOn with
  |none=>rw[show y=_ from r];exact Ln I g s m
  |_=>exact m.elim
 ·unfold interactive;rw[show n.scope.kind= .function by rw[I.f.scope];exact I.f.kind];rfl
inductive Ci:sq→Int→Int→Int→Prop
 |add (x y:Int):Ci .add x y (x+y)
 |sub (x y:Int):Ci .sub x y (x-y)
def Fg {Q:Value→Shared→Prop} {E:Value→Shared→Prop} (h:Ci m x y r) (e: ∀k n,Q (.int r k) {s with toks:=n}):wpAny (M X) A (inplaceOp (nQ m) (.int x t) (.int y u)) Q E s:=by
 induction h using Ci.casesOn with
 |add=>exact PySem.P.iadd_int (e _ _)
 |sub=>exact PySem.P.isub_int (e _ _)
inductive Q6 (op:sq) (K:Int→Prop):V→V→Prop
 |mk (x y r:Int) (h:Ci op x y r) (k:K r):Q6 op K (.int y) (.int x)
def Fh {st:aN} (m:L1 i h k (w::v::st) e H n):Q6 h (fun r=>k st (e.set i (.int r)) H n) w v:=by
 cases w with
 |int y=>cases v with
  |int x=>induction h using sq.casesOn with
   |add=>exact⟨x,y,_,.add x y,m⟩
   |sub=>exact⟨x,y,_,.sub x y,m⟩
   |_=>exact m.elim
  |_=>exact m.elim
 |_=>exact m.elim
set_option maxHeartbeats 4000000 in
theorem NB (B:SE X C d e):SS X C d (.iF i D e):=fun te x A G f c k H R J I m L ex=>by
 refine Lm J fun t v N j O=>gw j fun n p j=>?_;obtain⟨v0,Q,m⟩:=dD (show Y1 (f.get i) (og (ME X.P C e (L1 i D k)) [] f c.H H) from m);rw[exec_AugAssign_Name];refine WQ (XA (WQ (sI I.f j Q fun y U=>?_)));refine WQ (XE (B O I m fun h w z g r m=>?_));obtain⟨a,b,q,Y,m9⟩:=Fh m;refine d8.casesOn U fun t=>d8.casesOn r fun u=>?_;refine WQ (XA (WQ ?_));refine wpAny_operating (Fg (s:=h.s) (t:=t) (u:=u) Y fun kk o=>?_)
 have l:Go X cS c ⟨h.ow,{h.s with toks:=o},h.H⟩:=Go.trans I.r g (Go.pX g.hr)
 exact WQ (XA (WQ (wpAny_bindName (gv (c:=⟨h.ow,{h.s with toks:=o},h.H⟩) l.hr (I.f.go l id id) j (fun ξ=>rfl) (v:= .int q) ⟨_⟩ fun c2 g2 eH eO F2=>
  WV (L c2 _ (Go.trans I.r (Go.gx I.r l) g2) F2 (by rwa[eH]))))))
inductive Lp (op:sq) (K:Int→Nat→Prop):V→V→V→Prop
 |mk (x y r:Int) (a:Nat) (h:Ci op x y r) (k:K r a):Lp op K (.int y) (.int x) (.ref a)
def Cj {st:aN} (m:K2 P n h k (w::v::o::st) e H p):Lp h (fun r a=>Yi (an H a) (rF n (.int r) a k st e H p)) w v o:=by
 cases w with
 |int y=>cases v with
  |int x=>cases o with
   |ref a=>induction h using sq.casesOn with
    |add=>exact⟨x,y,_,a,.add x y,m⟩
    |sub=>exact⟨x,y,_,a,.sub x y,m⟩
    |_=>exact m.elim
   |_=>exact m.elim
  |_=>exact m.elim
 |_=>exact m.elim
def NC (S:Sys X) (Q:SE X C d o) (U:SE X C d e):SS X C d (.rD o n H e):=fun te x A p fr c k Qp R Y I m nx ex=>by
 refine Lm Y fun t v r f h2=>uJ f fun J name B b f=>?_;have b:X.fj[n]?=some name:=hZ b
 haveI ee:exec (.AugAssign (.Attribute J name B) (nQ H) v r) p=(do
   standAt r
   let g←eval J p
   let s←holding [g] do
    standAt B.atName
    let h←PySem.getAttr g name true
    let v←holding [h] (eval v p)
    standAt r
    operate [h,v] (inplaceOp (nQ H) h v)
   standAt B.atName
   holding [s,g] (PySem.setAttr g name s)
   release [s,g] []
   pure .next):=rfl
 rw[ee];refine WQ (XA (WQ (Q f I m fun c1 g y D L m=>?_)));refine Ig.casesOn (uG m D.hr L) fun cl ns vs m t=>?_;refine WQ (XE (WQ (XA (WQ (vP S b m D.hr t fun c2 h z g2 eH r2 m=>?_)))));have j:=Go.trans I.r D g2;refine WQ (XE (U h2 (I.go j) (by rwa[eH]) fun i w zz N r3 m=>?_));obtain⟨x0,y0,q,a,hq,m9⟩:=Cj m;refine d8.casesOn r2 fun t=>d8.casesOn r3 fun u=>?_;refine WQ (XA ?_);refine wpAny_operating (Fg hq fun kk O=>?_);haveI G:=Go.trans I.r j N
 have l:Go X cS c ⟨i.ow,{i.s with toks:=O},i.H⟩:=Go.trans I.r G (Go.pX N.hr);subst L
 refine WQ (XA (WQ (XE (vR (c:=⟨i.ow,{i.s with toks:=O},i.H⟩) S b m9 l.hr (v:= .int q) ⟨_⟩ fun c5 g5 eO m=>?_))));exact WQ (wpAny_release' (WV (Ln I (Go.trans I.r l g5) nx m)))
def Q7 (s: ∀e,o=some e→SE X C d e):SS X C d (.ret o):=fun z x A t n c k i R h I m j q=>by
 refine Q0 h fun v p h=>?_;cases o with
 |none=>
  cases v with
  |some v=>exact dh h
  |none=>rw[exec_Return_none];exact WQ (XA (WV (q.ret c n .none .none (Go.refl I.r) I.f rfl m)))
 |some e=>
  cases v with
  |none=>exact dh h
  |some v=>exact wpAny_Return_some (s e rfl h I m fun u w y g r m=>q.ret u n w y (Go.gx I.r g) (I.f.go g id id) r m)
def US (q:ST X C d b) (r:SB X C d s) (u:SB X C d t):SS X C d (.bs b s t):=fun j x A v l c k a R w I m h e=>by refine Q1 w fun f o B p n y z=>?_;rw[exec_If];exact WQ (XA (WQ (q (ak n).1 (ak n).2 I m (fun i g m=>r y (I.go g) m (h.pre I.r (Go.gx I.r g)) (e.pre I.r (Go.gx I.r g))) fun i g m=>u z (I.go g) m (h.pre I.r (Go.gx I.r g)) (e.pre I.r (Go.gx I.r g)))))
def AB {K:V→Prop} (h:Yr o K): ∃e,o=some e∧K e.val:=by
 cases o with
 |none=>exact h.elim
 |some o=>induction o using Ob.casesOn with
  |inst=>exact h.elim
  |_=>exact⟨_,rfl,h⟩
def cL.as (F:cL X z h ρ q c) (e:q.get i=some (.ref a)) (r:dC X c v (.ref a)):cL X z h ρ (q.set i v) c:=
 ⟨F.scope,F.kind,F.ae,F.Ho,let⟨m,n,s⟩:=F.ns;⟨m,n,fun j x w t p=>by
  rcases oJ p with⟨rfl,rfl⟩|⟨_,p⟩
  ·obtain⟨y,u,g⟩:=s i x _ t e;rw[show y=_ from g] at u;exact⟨_,u,r⟩
  ·exact s j x w t p⟩,F.D2,F.na,F.eG,F.inj,F.own,F.pZ⟩
def Go.Q8 (m:HR X c) (e:an c.H a=some o): ∃h,Go X cS c ⟨h,c.s,l4 c.H a⟩∧VR X c.s.heap h o.val (.ref a):=by
 haveI p:an (.c a o .e) a=some o:=WY rfl;have n: ∀b x,an (.c a o .e) b=some x→an c.H b=some x:=fun b x q=>by
  change(if a=b then some o else none)=some x at q;split at q
  ·rename_i w;obtain rfl:=dL q;rwa[←w]
  ·exact bH q
 refine⟨_,Go.yy m (T:= .c a o .e) n (fun b x q=>?_) (DX m.nd),uw m n p⟩;rw[mi m.nd] at q;split at q
 ·exact bH q
 ·rename_i w;exact⟨q,WX w⟩
theorem Fi (j: ∀y,VR X h i w y→VR X h i v y): ∀{t:aL} {x:aN} {g:ax} {K:aL→aN→Prop},bZ X h i x g→lk n t x=some w→vl n v t x K→ ∃s,K t s∧bZ X h i s g
 |[],x,g,K,r,e,p=>by induction x using List.casesOn<;>exact bH e
 |m::t,[],g,K,r,e,p=>nomatch e
 |m::t,u::x,_,K,⟨z,g,l,c⟩,e,p=>by
  change(match Nat.beq m n with|true=>K (m::t) (v::x)|false=>vl n v t x fun a b=>K (m::a) (u::b)) at p
  change(match Nat.beq m n with|true=>some u|false=>lk n t x)=some w at e;cases q:Nat.beq m n with
  |true=>rw[q] at p e;obtain rfl:=dL e;exact⟨_,p,.cons (j z l) c⟩
  |false=>rw[q] at p e;obtain⟨s,d,f⟩:=Fi j c e p;exact⟨u::s,d,.cons l f⟩
@[reducible] def I8 (X : Cx) (C : bG) (d : Nat) (A : Around) (c : Cf) (x : Fr) (Qp : cy) (k : Kt) (n : TE) (env : Env) : Prop := ∀ {s : S} (p : s5 s = true) (I : ia X d n A env env.locals x c) (m : MS X.P C s k [] x c.H Qp), ∃ e h, Go X (WL env) c e ∧ e.s = c.s ∧ cL X n env env.locals h e ∧ k [] h e.H Qp
abbrev I9:List Type:=[Cx,bG,Nat,Around,Cf,Fr,cy,Kt,TE,Env]
def Q9:=eV I9 I8 ⟨vn,nI,nI,xR,yw,K4,nI,nI,Me,nI,trivial⟩
def UT:eU I9 I8 Q9:=by
 injections Q9 X C d A c h p k J z;change I8 X C d A c h p k J z;intro s L I m;induction s using S.casesOn with
 |x4 js=>exact⟨c,_,Go.refl I.r,rfl,I.f.er,m⟩
 |rB i=>
  change L3 i k [] h c.H p at m;unfold L3 at m;cases e:h.get i with
  |none=>rw[e] at m;exact m.elim
  |some v=>
   rw[e] at m;cases v with
   |ref a=>obtain⟨o,j,m⟩:=AB m;obtain⟨x,g,r⟩:=Go.Q8 I.r j;exact⟨⟨x,c.s,l4 c.H a⟩,_,Go.gx I.r g,rfl,(I.f.go g id id).as e r,m⟩
   |_=>exact m.elim
 |Bu i n=>
  change DH i n k [] h c.H p at m;unfold DH at m;cases e:h.get i with
  |none=>rw[e] at m;exact m.elim
  |some v=>
   rw[e] at m;cases v with
   |ref a=>
    obtain⟨l,u,f,N,m⟩:=uE m;unfold K3 at m;cases B:lk n u f with
    |none=>rw[B] at m;exact m.elim
    |some w=>
     rw[B] at m;cases w with
     |ref b=>
      change Yr (an c.H b) (DG a n b l u f k [] h c.H p) at m;haveI Q:b≠a:=fun q=>by rw[q,N] at m;exact m.elim
      obtain⟨o,j,m⟩:=AB m;obtain⟨x,g,r⟩:=Go.Q8 I.r j;have hd:an (l4 c.H b) a=some (.inst l u f):=by rwa[mi I.r.nd,WX Q]
      have O:=g.hr.vI a _ hd;obtain⟨U,Y,n',ys,o1,o2,g1,g2,fl,rs⟩:=O.eX;obtain⟨D,m9,G⟩:=Fi (fun y ry=>by rwa[show y=_ from ry]) rs B m;have H:=Go.vl (W:=cS) g.hr hd (h':=c.s.heap) (t:=c.s.toks) (fun ξ ξ e ξ=>e) (o:= .inst l u D) (fun b q=>(g.hr.live b a q).1) ⟨O.own,⟨U,Y,n',ys,o1,o2,g1,g2,fl,G⟩,O.K8,O.cl⟩;exact⟨_,h,Go.gx I.r (Go.trans I.r g H),rfl,I.f.go (Go.trans I.r g H) id id,m9⟩
     |_=>exact m.elim
   |_=>exact m.elim
 |_=>exact dh L
def ND:eB I9 I8:=eA I9 UT
end
section
variable {X:Cx} {C:bG} {d:Nat} {A:Around} {c c1:Cf} {fr:Fr} {Qp:cy} {k:Kt} {B:TE} {env:Env} {R:Flow→Shared→Prop} {e:E}
def Cm {b:E} {E:Value→Shared→Prop} (U:ST X C d b) (Y:SB X C d a) (h1:aW X.nm B b L=true) (h2:Dl b L=true) (h3:lC X.nm B a o=true) (I:ia X d B A env env.locals fr c)
  (m:MS X.P C (.t8 b a D N) k [] fr c.H Qp) (nx:Ny X B env c k Qp (R .next)) (ec:Ex X B env c Qp R):
  codeAny (M X) A (.whileLoop L o [] env) (fun r i=>match r with| .ok f=>R f i| .error e=>E e i) c.s:=by
 obtain⟨J,⟨n,O⟩,G⟩:=(show DC (MT X.P C b (ME X.P C b)) (MB X.P C a) D (fr.er D) c.H (i8 N k Qp) from m);have l: ∀{p x},Go X (WL env) c p→cL X B env env.locals x p→i8 N k Qp .next x p.H→R .next p.s:=fun g F m=>nx _ _ g F.er m;refine codeAny_whileLoop (fun n i=> ∃q s,i=s.s∧Go X (WL env) c s∧cL X B env env.locals q s∧J n q s.H) ?_ n ⟨_,c,rfl,Go.refl I.r,I.f.er,O⟩;clear O n;rintro n i ⟨q,s,rfl,g,F,j⟩;refine B' (U h1 h2 ⟨I.a,g.hr,F⟩ (G n q s.H j) (fun c1 z H=>?_) fun c1 z H=>?_)
 ·rw[WY rfl];have w:=Go.trans I.r g (Go.gx g.hr z);have Q: ∀{p x},Go X (WL env) c1 p→cL X B env env.locals x p→(∃j,j<n∧J j (x.er D) p.H)→ ∃m,m<n∧ ∃q s,p.s=s.s∧Go X (WL env) c s∧cL X B env env.locals q s∧J m q s.H:=fun{p x} t u ⟨j,lt,h⟩=>
   ⟨j,lt,_,p,rfl,Go.trans I.r w t,u.er,h⟩
  exact B' (Y (R:=fun f s3=>match f with
   | .next=>_
   | .cont=>_
   | .brk=>_
   | .ret v=>_) h3 ⟨I.a,z.hr,F.go z id id⟩ H (fun p x t u m=>Q t u m) ⟨fun p x t u m=>l (Go.trans I.r w t) u m,fun p x t u m=>Q t u m,fun p x v y t u r m=>ec.ret p x v y (Go.trans I.r w t) u r m⟩)
 ·rw[WX W5];exact wpAny_execs_nil (l (Go.trans I.r g (Go.gx g.hr z)) (F.go z id id) H)
def Cn (S:Glo X) {Q:Value→Shared→Prop} (I:ia X d B A env env.locals fr c) (m:B.kind x=some .globalImplicit) (n:x=Str.ofString "enumerate") (h:Q (.type "enumerate") c.s):wpAny (M X) A (eval (.Name x p) env) Q bw c.s:=by
 have F:=I.f;haveI q:env.scope.kind= .function:=by rw[F.scope];exact F.kind
 haveI r:c.s.heap.Ns env.globals X.mg:=by rw[F.ae];exact S.mg.at' fun o e=>(I.r.im _ o e).1
 haveI s:c.s.heap.Ns env.builtins X.mb:=by rw[F.Ho];exact S.mb.at' fun o e=>(I.r.im _ o e).1
 subst n;exact Name_function_global q ((F.kindOf _).trans m) (loadGlobal_builtin r S.enm.1 s S.enm.2 h) (by decide+kernel)
inductive Ra (X:Cx) (A:Around) (EW:Expr) (c:Cf) (f:Kf) (fr:Fr) (Qp:cy) (it:Value) (s:Shared):Prop
 |mk (c1:Cf) (xs:aN) (g:Go X cS c c1) (m:f xs [] fr c1.H Qp) (h:nS X A EW c1 xs it s)
abbrev S3 (X:Cx) (A:Around) (h:Expr) (c:Cf) (f:Kf) (fr:Fr) (Qp:cy):Value→Shared→Prop:=fun y x=>wpAny (M X) A (pyIter y) (Ra X A h c f fr Qp) bw x
@[elab_as_elim] def AC {motive : Expr → Expr → Prop} (h : wn N B (.x3 e) t x = true) (g : ∀ m k u n p a q, n = Str.ofString "enumerate" → B.kind n = some .globalImplicit → dm N B [e] [a] = true → b9 [a] = true → motive (.Tuple m k u) (.Call (.Name n p) [a] [] q)) : motive t x :=
 vY (motive:=fun t=>motive t x) (ak h).1 fun m k u ξ=>ED (motive:=motive _) (ak h).2 fun ξ l q s v=>gw (motive:=fun g=>motive _ (.Call g _ _ _)) s fun n p s=>by
  induction eK (ak v).1 using di.casesOn with
  |mk a r y w=>
   cases f9 w
   exact g m k u n p a q (hZ (ak s).1) (hZ (ak s).2) (ak v).1 (ak v).2
def I' (S:Glo X) (O:Dm X C d [e]) (Q:wn X.nm B (.x3 e) i x=true) (I:ia X d B A env env.locals fr c) (m:MI X.P C (.x3 e) f [] fr c.H Qp):wpAny (M X) A (eval x env) (S3 X A i c f fr Qp) bw c.s:=by
 refine AC Q fun s k o n p a U Y h2 h3 D=>?_;rw[sW rfl];refine WQ (Cn S I h2 Y ?_);refine ku S.toSys D (.ty _) (O h3 D I m fun c1 j ys G r1 H w=>⟨G.hr.kin S.toSys,?_⟩);cases j with
 |nil=>cases(H)
 |cons v j=>
  cases j with
  |cons _ _=>cases(H)
  |nil=>
   obtain⟨y,ys,J,r2⟩:=r1;subst r2;obtain⟨xs,z,w⟩:=dD (show Y1 (su v) _ from w);have u: ∀{y:Value} {L:aN},f L [] fr c1.H Qp→wpAny (M X) A (call (.type "enumerate") [y]) (fun e s1=>wpAny (M X) A (pyIter e) (nS X A (.Tuple s k o) c1 L) bw s1) bw c1.s→wpAny (M X) A (call (.type "enumerate") ([]++[y])) (S3 X A (.Tuple s k o) c f fr Qp) bw c1.s:=fun m h=>Xu h (fun ξ ξ q=>Xu q (fun ξ ξ q=>⟨c1,_,G,m,q⟩) fun ξ ξ f=>f.elim) fun ξ ξ f=>f.elim
   cases v with
   |ap N=>obtain rfl:=dL z;exact bh.casesOn J fun a r=>dj.casesOn r fun n t l g ξ b=>u w (Ch I.a l g b)
   |aG N=>
    cases N with
    |nil=>obtain rfl:=dL z;obtain⟨a,r⟩:=J;obtain⟨t,l,g,_,b⟩:=r;subst b;exact u w (yT I.a l g)
    |cons _ _=>exact bH z
   |_=>exact bH z
theorem Fj (S:Glo X) (Q:SE X C d e) {n x:Expr} {f:Kf} (z:wn X.nm B (.items e) n x=true) (I:ia X d B A env env.locals fr c) (m:MI X.P C (.items e) f [] fr c.H Qp):(∀v,foldedSetIterable x env v=pure v)∧wpAny (M X) A (eval x env) (S3 X A n c f fr Qp) bw c.s:=by
 have i:=(ak z).2;refine vY (ak z).1 fun h k j ξ=>?_
 ·refine⟨Le i fun o' name b l p ξ ξ ξ ξ ξ=>fun ξ=>rfl,oO i Q I m fun name p l pl c1 v y U Y o D G H=>?_⟩;obtain⟨xs,r,-⟩:=dD (show Y1 (m5 v) _ from H);obtain rfl:=hZ U;induction v using V.casesOn with
  |eR J L=>
   obtain⟨a,s⟩:=id G;obtain⟨t,ep,ha,N,g,_,_,_⟩:=s;refine Zh g.dictOf.mapOf.typeIs F.plainAttrs_dict F.slot_dict_items F.type_dict_items g.dictOf.mapOf.noDict ?_;refine ku S.toSys o (.bi _) (EN (C:=C) Y o (I.go D) (k:=DF f) (st:=[.eR J L]) (Qp:=Qp) H fun O us zs u r2 hl w=>⟨u.hr.kin S.toSys,?_⟩);cases us with
   |cons _ _=>cases(hl)
   |nil=>subst r2;obtain⟨xs,r,w⟩:=dD (show Y1 (m5 (.eR J L)) (SU f [] fr O.H Qp) from w);obtain rfl:=dL r;obtain⟨_,s⟩:=G.go u;obtain⟨t,ep,ow,N,g,ek,_,rs⟩:=s;subst ek;exact Xu (yS (elts:=h) (k:=k) (pt:=j) I.a ow N g rs) (fun ξ ξ q=>Xu q (fun ξ ξ q=>⟨O,_,Go.trans I.r D u,w,q⟩) fun ξ ξ f=>f.elim) fun ξ ξ f=>f.elim
  |_=>exact bH r
def NE (S:Glo X) (s:gR X C d) (h:wn X.nm B z t x=true) (I:ia X d B A env env.locals fr c) (m:MI X.P C z f [] fr c.H Qp):(∀v,foldedSetIterable x env v=pure v)∧wpAny (M X) A (eval x env) (S3 X A t c f fr Qp) bw c.s:=by
 induction z using It.casesOn with
 |plain e=>obtain⟨u,h⟩:=ak h;refine⟨yN u env,(snd S s e).se h I m fun c1 v y g r w=>?_⟩;obtain⟨j,l,w⟩:=dD (show Y1 (gU v) _ from w);exact Xu (mq I.a l r) (fun ξ ξ q=>⟨c1,j,g,w,q.gen⟩) fun ξ ξ f=>f.elim
 |x3 e=>exact⟨AC h fun i k o n p a b ξ ξ ξ ξ=>fun ξ=>rfl,I' S (ir S s [e]).es h I m⟩
 |items e=>exact Fj S (snd S s e).se h I m
@[reducible] def Ja (X : Cx) (C : bG) (d : Nat) (A : Around) (c : Cf) (fr : Fr) (Qp : cy) (k : Kt) (B : TE) (env : Env) (R : Flow → Shared → Prop) (n : List S) (u w : aL) (x : List Stmt) (E : Value → Shared → Prop) (h : Expr) (t : Nat) (p : Heap) (xs : aN) (St : Nat → Heap → Prop) (q : Nat → Prop) (i0 : Nat) (asg : Kt → Kt) : Prop := ∀ (g : ∀ {c : Cf} {fr : Fr} {k : Kt} {Qp : cy} {v : V} {y : Value} {R : Unit → Shared → Prop}, ia X d B A env env.locals fr c → dC X c v y → asg k [v] fr c.H Qp → Ny X B env c k Qp (R ()) → wpAny (M X) A (assign h env y) R bw c.s) (i : SB X C d n) (j : lC X.nm B n x = true) (W : Uy X A c i0 q h xs St) (l : ∀ a, q a → c.s.heap.get? a = none) (D : q i0) (I : ia X d B A env env.locals fr c) (G : ∀ b o, c.s.heap.get? b = some o → p.get? b = some o) (z : St 0 p) (m : Pq asg (MB X.P C n) u w k xs [] fr c.H Qp) (H : Ny X B env c k Qp (R .next)) (J : Ex X B env c Qp R), codeAny (M X) A (.forLoop h (.ref i0) x [] env) (fun r s => match r with | .ok f => R f s | .error e => E e s) { c.s with heap := p, toks := t }
abbrev NF:List Type:=[Cx,bG,Nat,Around,Cf,Fr,cy,Kt,TE,Env,Flow→Shared→Prop,List S,aL,aL,List Stmt,Value→Shared→Prop,Expr,Nat,Heap,aN,Nat→Heap→Prop,Nat→Prop,Nat,Kt→Kt]
def Rb:=eV NF Ja ⟨vn,nI,nI,xR,yw,K4,nI,nI,Me,nI,nI,nI,nI,nI,nI,nI,nI,nI,⟨{}⟩,nI,nI,nI,nI,nI,trivial⟩
def UU:eU NF Ja Rb:=by
 injections Rb X C d A c fr Qp k B env R ss js ex hg E hh t h' u St Y l asg;change Ja X C d A c fr Qp k B env R ss js ex hg E hh t h' u St Y l asg;intro hA hs h3 W fI O I kI D m nx ec;obtain⟨J,j0,jn,step⟩:=(show rE asg (MB X.P C ss) js u (fr.er js) c.H (i8 ex k Qp) from m);obtain⟨_,ol,el⟩:=I.f.pZ;have nw: ¬Y env.locals:=fun w=>by rw[fI _ w] at el;exact bH el
 have nI: ¬env.locals=l:=fun q=>nw (q▸O);have G: ¬l=env.locals:=fun q=>nI q.symm;have U: ∀{c'},Go X (fun r=>r=l∨r=env.locals) c c'→Go X (WL env) c c':=fun g=>g.fM I.r fun r o e w=>w.elim (fun q=>by rw[q,fI _ O] at e;exact bH e) id;refine codeAny_forLoop_any (fun n s'=> ∃i x h,n=u.length+1-i∧i≤u.length∧s'=h.s∧Go X (fun r=>r=l∨r=env.locals) c h∧cL X B env env.locals x h∧(∀a,Y a→Tu h l a)∧St i h.s.heap∧J i x h.H) ?_ (u.length+1)
  ⟨0,fr.er js,⟨D3 c.ow Y l,{c.s with heap:=h',toks:=t},c.H⟩,rfl,W8 _,rfl,?_,?_,fun a w=>⟨jI w,(I.r.fresh (fI _ O)).1,W.alive D w⟩,D,j0⟩
 ·rintro n s' ⟨i,x,h,rfl,hi,rfl,g,F,tu,ha,j⟩;by_cases H:i<u.length
  ·have hv:u[i]?=some u[i]:=WS H;generalize u[i]=v at hv;refine W.item hv ha g.k g.hr (fun a w=>by rw[(tu a w).own];exact nofun) fun y h0 tk hj=>hj fun h1 ry Q k1=>?_;have hb: ∀b,Y b→ ∃o,h1.get? b=some o:=fun b w=>W.alive Q w;have g1:=Go.sL g.hr (t:=tk) tu O hb k1;have hc:=fun a w=>(tu a w).sL (t:=tk) hb k1
   refine B' (hA (c:=⟨h.ow,{h.s with heap:=h1,toks:=tk},h.H⟩) ⟨I.a,g1.hr,F.go g1 nI nI⟩ ry (step i v hv x h.H j) fun c2 hn g2 F2 m2=>?_);have he:=fun a w=>(hc a w).go g1.hr g2 G;haveI hk:=W.frame Q (fun a o w e=>(hc a w).un g2 G e);haveI hl:=Go.trans I.r g (Go.trans g.hr (g1.fM g.hr fun ξ ξ ξ e=> .inl e) (g2.fM g1.hr fun ξ ξ ξ e=> .inr e));have up: ∀{s},Go X (WL env) c2 s→Go X (fun r=>r=l∨r=env.locals) c s:=fun z=>Go.trans I.r hl (z.fM g2.hr fun ξ ξ ξ e=> .inr e);have go: ∀{s p},Go X (WL env) c2 s→cL X B env env.locals p s→J (i+1) (p.er js) s.H→ ∃m,m<u.length+1-i∧ ∃i x h,m=u.length+1-i∧i≤u.length∧s.s=h.s∧Go X (fun r=>r=l∨r=env.locals) c h∧cL X B env env.locals x h∧(∀a,Y a→Tu h l a)∧St i h.s.heap∧J i x h.H:=fun{s p} z L N=>⟨u.length+1-(i+1),by exact(br 0x118803008c218c023006011843108401) H,i+1,_,s,rfl,H,rfl,up z,L.er,fun a w=>(he a w).go g2.hr z G,W.frame hk (fun a o w e=>(he a w).un z G e),N⟩
   exact B' (hs (R:=fun f s3=>match f with
    | .next=>_
    | .cont=>_
    | .brk=>_
    | .ret v=>_) h3 ⟨I.a,g2.hr,F2⟩ m2 (fun s p z L N=>go z L N) ⟨fun s p z L N=>nx s _ (U (up z)) L.er N,fun s p z L N=>go z L N,fun s p v y z L r N=>ec.ret s p v y (U (up z)) L r N⟩)
  ·haveI hf:i=u.length:=by exact(br 0x904200a2210803008401) hi H
   subst hf;refine W.done ha g.k fun h2 tk k1=>wpAny_execs_nil ?_;obtain⟨hm,g',o1,o2⟩:=Go.last I.r g (t:=tk) fI tu O k1
   exact nx ⟨hm,{h.s with heap:=h2,toks:=tk},h.H⟩ _ (U g') (F.last tu O nw nw k1 o1 o2).er (jn x h.H j)
 ·exact Go.ux (s':={c.s with heap:=h',toks:=t}) I.r kI rfl rfl O fI fun a w=>W.alive D w
 ·exact(I.f.go (Go.ux (W:=cS) (s':={c.s with heap:=h',toks:=t}) I.r kI rfl rfl O fI fun a w=>W.alive D w) id id).er
def UV:Prop:= ∀⦃X C d A c fr Qp k B env R m n p h E x t q xs St r i0 asg⦄,Ja X C d A c fr Qp k B env R m n p h E x t q xs St r i0 asg
def Jb:UV:=eA NF UU
def Rc (n:ST X C d b) (q:SB X C d r):SS X C d (.t8 b r w y):=fun B x A env fr c k Qp R s I m t u=>by refine Q3 s fun z g p h v=>?_;exact wpAny_While (Cm n q (ak h).1 (ak h).2 v I m t u)
theorem Re (Z:Glo X) (j:gR X C d) {t:T} {l:It} {w:List S} {a b:aL} (o:SB X C d w):SS X C d (.cA t l w a b):=fun B x A env fr c k Qp R D I m s G=>by
 refine Q4 D fun H x' s' p J h=>?_;obtain⟨z1,z2⟩:=NE Z j (ak h).2 I m;refine wpAny_For (B' (Xu z2 (fun y s1 q=>B' (Xu q (fun L s2 q=>?_) fun ξ ξ f=>f.elim)) fun ξ ξ f=>f.elim)) z1;refine Ra.casesOn q fun c1 xs g N q=>nS.casesOn q fun i0 wr St h' tk O Q U W u=>?_;refine Jb (asg:=MA X.P C t) ?_ o J W Q O (I.go g) U u N (s.pre I.r (Go.gx I.r g)) (G.pre I.r (Go.gx I.r g));intro c fr k Qp v y R I r m s;induction t using T.casesOn with
 |name i=>exact gw (ak h).1 fun n p h=>yQ h I r m s
 |aG is=>exact vY (show vX (fun z=>cC B is z) (aF H)=true from(ak h).1) fun z kk p h=>Lk h I r m s
 |_=>exact dh (ak h).1
def Rf:SS X C d .brk:=fun B x A env fr c k Qp R h I m p n=>by refine Ht (motive:=fun x=>wpAny (M X) A (exec x env) R bw c.s) h (show wpAny (M X) A (exec (.Break (cn x).p) env) R bw c.s from ?_);exact WQ (m:=standAt _) (XA (WV (n.brk c fr (Go.refl I.r) I.f m)))
def NG:SS X C d .cont:=fun B x A env fr c k Qp R h I m p n=>by refine Ht (motive:=fun x=>wpAny (M X) A (exec x env) R bw c.s) h (show wpAny (M X) A (exec (.Continue (cn x).p) env) R bw c.s from ?_);exact WQ (m:=standAt _) (XA (WV (n.cont c fr (Go.refl I.r) I.f m)))
def NH:SS X C d .pass:=fun B x A env fr c k Qp R h I m n p=>by refine Ht (motive:=fun x=>wpAny (M X) A (exec x env) R bw c.s) h (show wpAny (M X) A (exec (.Pass (cn x).p) env) R bw c.s from ?_);exact WQ (m:=standAt _) (XA (WV (n c fr (Go.refl I.r) I.f m)))
def Jc:SS X C d .raise:=fun z1 z2 h x n p q r s t I m u v=>m.elim
def NI:SB X C d []:=fun B x A env fr c k Qp R h I m n p=>by
 cases x with
 |nil=>exact wpAny_execs_nil (n c fr (Go.refl I.r) I.f m)
 |cons a l=>exact dh h
theorem Co:lC N B (s::h) x=match s5 s with
 |true=>lC N B h x
 |false=>match x with
  |x::r=>Nz N B s x&&lC N B h r
  |[]=>false:=rfl
def Jd (z:s5 s=false→SS X C d s) (u:SB X C d i):SB X C d (s::i):=fun B x A env fr c k Qp R p I m w q=>by
 rw[Co] at p;cases t:s5 s with
 |true=>rw[t] at p;obtain⟨n,h,g,e,F,m⟩:=ND t I m;rw[←e];exact u p ⟨I.a,g.hr,F⟩ m (w.pre I.r g) (q.pre I.r g)
 |false=>
  rw[t] at p;cases x with
  |nil=>exact dh p
  |cons x r=>obtain⟨j,l⟩:=ak p;exact wpAny_execs_cons (z t j I m (fun n h g F m=>u l ⟨I.a,g.hr,F⟩ m (w.pre I.r g) (q.pre I.r g)) ⟨fun n h g F m=>q.brk n h g F m,fun n h g F m=>q.cont n h g F m,fun n h v y g F r m=>q.ret n h v y g F r m⟩)
mutual
theorem UW (Z:Glo X) (x:gR X C d): ∀s:S,s5 s=false→SS X C d s
 | .expr e,_=>NA (snd Z x e).se
 | .asg t e,_=>Q5 Z x
 | .iF i m e,_=>NB (snd Z x e).se
 | .rD o n m e,_=>NC Z.toSys (snd Z x o).se (snd Z x e).se
 | .ret o,_=>Q7 (IZ Z x o).se
 | .bs b s t,_=>US (snd Z x b).st (Cp Z x s) (Cp Z x t)
 | .t8 b s p q,_=>Rc (snd Z x b).st (Cp Z x s)
 | .cA t r s p q,_=>Re Z x (Cp Z x s)
 | .brk,_=>Rf
 | .cont,_=>NG
 | .pass,_=>NH
 | .raise,_=>Jc
 | .rB _,h=>nomatch h
 | .Bu _ _,h=>nomatch h
 | .x4 _,h=>nomatch h
theorem Cp (Z:Glo X) (x:gR X C d): ∀h:List S,SB X C d h
 |[]=>NI
 |s::h=>Jd (UW Z x s) (Cp Z x h)
end
end
section
variable {s:Shared}
theorem iT {α:Type}: ∀{k:List Str} {p:List α} {i:Nat} {x:Str} {v:α},k.Nodup→k[i]?=some x→p[i]?=some v→(k.zip p).lookup x=some v
 |[],_,_,_,_,_,h,_=>by simp at h
 |_::_,[],_,_,_,_,_,h=>by simp at h
 |n::k,w::p,0,x,v,r,e,m=>by simp at e m;subst e m;simp[Yy]
 |n::k,w::p,i+1,x,v,r,e,m=>by
  simp at e m;haveI eo:(x==n)=false:=by
   cases q:x==n with
   |false=>rfl
   |true=>rw[XJ] at q;subst q;haveI:=(YJ.mp r).1;exact absurd (XI e) this
  rw[XQ,Yy,eo];exact iT (YJ.mp r).2 e m
theorem je {α:Type}: ∀{e:List Str} {k:List α} {x:Str},(∀i,e[i]?=some x→k.length≤i)→(e.zip k).lookup x=none
 |[],_,_,_=>rfl
 |_::_,[],_,_=>rfl
 |n::e,w::k,x,h=>by
  haveI eo:(x==n)=false:=by
   cases q:x==n with
   |false=>rfl
   |true=>rw[XJ] at q;subst q;haveI:=h 0 rfl;simp at this
  rw[XQ,Yy,eo];exact je fun i m=>by haveI:=h (i+1) (by simpa using m);simpa using this
theorem wo {α β:Type}: ∀{e:List α} {x:List β} {d:β} (h:x.length<e.length),e.zip x++[(e[x.length],d)]=e.zip (x++[d])
 |[],x,d,h=>by simp at h
 |n::e,[],d,h=>by simp
 |n::e,v::x,d,h=>by simp only[XQ,XM,W0,List.getElem_cons_succ];rw[wo]
theorem ni (m:List Str) (t:m.Nodup) (f:Str×Value→List (Str×Value)→Sem (ForInStep (List (Str×Value)))) (v: ∀name d x,f (name,d) x=if(x.lookup name).isNone=true then pure (.yield (x++[(name,d)])) else pure (.yield x)):
  ∀(n:ax) (k:Nat) (h:ax),k+n.length=m.length→k≤h.length→h.length≤m.length→
   forIn ((m.drop k).zip n) (m.zip h) f=(pure (m.zip (h++n.drop (h.length-k))):Sem (List (Str×Value)))
 |[],k,h,p,w,y=>by
  simp at p;haveI:h.length=m.length:=by exact(bT 0x904220c021106020803208401) p w y
  simp
 |dv::n,k,h,p,w,y=>by
  simp only[W0] at p;have u:k<m.length:=by exact(bT 0x888200c8418402308401) p
  rw[Xo u,XQ,List.forIn_cons,v];by_cases q:k<h.length
  ·have z:(m.zip h).lookup m[k]=some h[k]:=iT t (WS u) (WS q);rw[z];simp only[Option.isNone_some,Y8,if_false,pure_bind];rw[ni m t f v n (k+1) h ((bT 0x2420c021804600c8418402308401) p) (by assumption) y];haveI e:(dv::n).drop (h.length-k)=n.drop (h.length-(k+1)):=by
    rw[show h.length-k=(h.length-(k+1))+1 by exact(br 0x25008e3008c01086200843108401) q,List.drop_succ_cons]
   rw[e]
  ·have r:k=h.length:=by exact(br 0x904200a2210803008401) w q
   have z:(m.zip h).lookup m[k]=none:=je fun i j=>by haveI g:=(Xf.mp j);obtain⟨l,a⟩:=g;haveI:=sP t l u a;exact(bT 0x808210c8011051108401) q this
   rw[z];simp only[Option.isNone_none,if_true,pure_bind];have b:m.zip h++[(m[k],dv)]=m.zip (h++[dv]):=by subst r;exact wo u
   rw[b,ni m t f v n (k+1) (h++[dv]) ((bT 0x2420c021804600c8418402308401) p) (by simp;assumption) (by simp;exact(fH 0x101060118c2888c200c8418402308401) p q)];subst r;simp
structure yW (p:Arguments) (ns:List Str):Prop where
 po:p.posonlyargs=[]
 ar:p.args.map (·.arg)=ns
 va:p.vararg=none
 ko:p.kwonlyargs=[]
 kw:p.kwarg=none
theorem rZ {x:List Str} {r:ax} (v:x.Nodup) (y:x.length=r.length):(x.filterMap fun n=>((x.zip r).lookup n).map (n,·))=x.zip r:=by
 haveI: ∀(q:List Str) (p:ax) (k:Nat),q.length=p.length→(∀(i:Nat) m,q[i]?=some m→x[k+i]?=some m)→(∀(i:Nat) w,p[i]?=some w→r[k+i]?=some w)→(q.filterMap fun n=>((x.zip r).lookup n).map (n,·))=q.zip p:=by
  intro q;induction q with
  |nil=>intro p k h _ _;rfl
  |cons m q z=>
   intro p k h t u;cases p with
   |nil=>simp at h
   |cons w p=>haveI e:=iT v (t 0 m rfl) (u 0 w rfl);rw[Z1,e];simp only[Option.map_some,XQ];rw[z p (k+1) (by simpa using h) (fun i m g=>by haveI:=t (i+1) m (by simpa using g);rwa[show k+1+i=k+(i+1) by exact(br 0x1284023084018043008c01)]) (fun i w j=>by haveI:=u (i+1) w (by simpa using j);rwa[show k+1+i=k+(i+1) by exact(br 0x1284023084018043008c01)])]
 exact this x r 0 y (fun i m h=>by simpa using h) (fun i w h=>by simpa using h)
abbrev Lq (n:Nat) (o:Option (Array Value)):ax:=(o.getD #[]).toList.drop ((o.getD #[]).toList.length-n)
def Cq (e:ax) (u:yW k.params x): ∃(t1 v:Option (Array Value)→Sem (List (Str×Value))) (f:Str×Value→List (Str×Value)→Sem (ForInStep (List (Str×Value)))),
  (∀name d h,f (name,d) h=if(h.lookup name).isNone=true then pure (.yield (h++[(name,d)])) else pure (.yield h))∧
  bindArgs k ⟨e,[]⟩=(seqItems? k.defaults>>=fun o=>if(decide (e.length>x.length)&&true)=true then t1 o else
   if(!((x.take (x.length-(Lq x.length o).length)).filter fun n=>(List.lookup n (x.zip e)).isNone).isEmpty)=true then v o else
   forIn ((x.drop (x.length-(Lq x.length o).length)).zip (Lq x.length o)) (x.zip e) f>>=fun h=>pure ((x++[]).filterMap fun n=>(h.lookup n).map (n,·))):=by
 induction k using FuncData.casesOn with|mk l a w b c A B C y doc D G H I J=>
 induction w using Arguments.casesOn with|mk z ar g i L j N=>
 obtain⟨m,p,q,r,t⟩:=u;change z=[] at m;change ar.map (·.arg)=x at p;change g=none at q;change i=[] at r;change j=none at t;subst m;subst q;subst r;subst t;subst p;exact⟨_,_,_,fun ξ ξ ξ=>rfl,rfl⟩
@[reducible] def Je (s : Shared) (fd : FuncData) (ns : List Str) (vals : ax) : Prop := ∀ {ds : ax} (e : yW fd.params ns) (x : ns.Nodup) (hd : (fd.defaults = .none ∧ ds = []) ∨ (∃ T n, fd.defaults = .ref T ∧ s.heap.get? T = some (dA ds n))) (h : ds.length ≤ ns.length) (k : vals.length ≤ ns.length) (m : ns.length ≤ vals.length + ds.length), BindsTo s fd ⟨vals, []⟩ (ns.zip (vals ++ ds.drop (vals.length - (ns.length - ds.length))))
abbrev NJ:List Type:=[Shared,FuncData,List Str,ax]
def Rg:=eV NJ Je ⟨PA,nI,nI,nI,trivial⟩
def UX:eU NJ Je Rg:=by
 injections Rg s fd ns vals;change Je s fd ns vals;intro ds z t hd k r u;intro M A E Q q;obtain⟨t1,j,f,a,e⟩:=Cq vals z;rw[e]
 have w: ∀{o:Option (Array Value)},(o.getD #[]).toList=ds→wpAny M A (if(decide (vals.length>ns.length)&&true)=true then t1 o else
   if(!((ns.take (ns.length-(Lq ns.length o).length)).filter fun n=>(List.lookup n (ns.zip vals)).isNone).isEmpty)=true then j o else
   forIn ((ns.drop (ns.length-(Lq ns.length o).length)).zip (Lq ns.length o)) (ns.zip vals) f>>=fun m=>pure ((ns++[]).filterMap fun n=>(m.lookup n).map (n,·))) Q E s:=fun{o} h=>by
  haveI v:Lq ns.length o=ds:=by unfold Lq;rw[h,ZJ k];rfl
  rw[v,Xe];haveI b:((ns.take (ns.length-ds.length)).filter fun n=>(List.lookup n (ns.zip vals)).isNone)=[]:=by
   rw[List.filter_eq_nil_iff];intro x c;obtain⟨i,y,rfl⟩:=Z0 c;rw[Xg] at y;rw[List.getElem_take];have p:i<vals.length:=by exact(fH 0x884230c6400c441004618404108401) u y
   rw[iT t (WS (Y9 p r)) (WS p)];exact nofun
  refine uH (W4 (· &&true) (Xw (Yn.mpr r))) (uH (W4 (fun(l:List Str)=> !l.isEmpty) b) ?_);refine WQ (YY (ni ns t f a ds (ns.length-ds.length) vals (Nat.sub_add_cancel k) (Nat.sub_le_of_le_add u) r) ?_);exact YY (W4 pure (rZ t (by rw[WO,WT];exact(bT 0x4a118c40108441004410861000441086010883008401) k r u))) q
 rcases hd with⟨h,rfl⟩|⟨T,n,h,g⟩
 ·rw[h];exact WQ (WV (w rfl))
 ·rw[h];exact WQ (Z8 g rfl (w rfl))
def UY:Prop:= ∀⦃s fd ns vals⦄,Je s fd ns vals
def yX:UY:=eA NJ UX
theorem fc: ∀{e:List (Str×NameKind)} {n:Nat} {acc:List (Str×Addr)} {x:Str},((∃c,(x,c)∈acc)∨(x,NameKind.cell)∈e)→ ∃c,(x,c)∈cellsFrom n e acc
 |[],n,acc,x,h=>by
  rcases h with h|h
  ·exact h
  ·cases(h)
 |(y,k)::r,n,acc,x,h=>by
  unfold cellsFrom;split
  ·rename_i m;refine fc ?_;rcases h with⟨c,h⟩|h
   ·exact .inl ⟨c,.tail _ h⟩
   ·rcases Xa.mp h with h|h
    ·cases(h);exact .inl ⟨n,.head _⟩
    ·exact .inr h
  ·rename_i m;refine fc ?_;rcases h with h|h
   ·exact .inl h
   ·rcases Xa.mp h with h|h
    ·cases(h);exact absurd rfl m
    ·exact .inr h
theorem s9 {t:Str→Option NameKind}: ∀{e:List Str} {k:ax} {m:Str→Option Value} {i:Nat} {x:Str} {v:Value},e.Nodup→e[i]?=some x→k[i]?=some v→t x=some .local→bindL t (e.zip k) m x=some v
 |[],_,_,_,_,_,_,h,_,_=>by simp at h
 |_::_,[],_,_,_,_,_,_,h,_=>by simp at h
 |n::e,w::k,m,0,x,v,u,p,r,y=>by
  simp at p r;subst p r;rw[XQ];unfold bindL;rw[WY y];haveI: ∀{e:List Str} {k:ax} {m:Str→Option Value},n∉e→bindL t (e.zip k) m n=m n:=by
   intro e;induction e with
   |nil=>intro k m _;rfl
   |cons a e g=>
    intro k m z;cases k with
    |nil=>rfl
    |cons b k=>
     rw[XQ];unfold bindL;rw[g fun q=>z (.tail _ q)];split
     ·haveI:n≠a:=fun q=>z (q▸ .head _);simp[this]
     ·rfl
  rw[this (YJ.mp u).1];simp
 |n::e,w::k,m,i+1,x,v,u,p,r,y=>by rw[XQ];unfold bindL;exact s9 (YJ.mp u).2 (by simpa using p) (by simpa using r) y
theorem tb {t:Str→Option NameKind}: ∀{e:List Str} {k:ax} {m:Str→Option Value} {i:Nat} {x:Str} {v:Value},e.Nodup→e[i]?=some x→k[i]?=some v→t x≠some .local→bindC t (e.zip k) m x=some v
 |[],_,_,_,_,_,_,h,_,_=>by simp at h
 |_::_,[],_,_,_,_,_,_,h,_=>by simp at h
 |n::e,w::k,m,0,x,v,u,p,r,y=>by
  simp at p r;subst p r;rw[XQ];unfold bindC;rw[WX y];haveI: ∀{e:List Str} {k:ax} {m:Str→Option Value},n∉e→bindC t (e.zip k) m n=m n:=by
   intro e;induction e with
   |nil=>intro k m _;rfl
   |cons a e g=>
    intro k m z;cases k with
    |nil=>rfl
    |cons b k=>
     rw[XQ];unfold bindC;rw[g fun q=>z (.tail _ q)];split
     ·rfl
     ·haveI:n≠a:=fun q=>z (q▸ .head _);simp[this]
  rw[this (YJ.mp u).1];simp
 |n::e,w::k,m,i+1,x,v,u,p,r,y=>by rw[XQ];unfold bindC;exact tb (YJ.mp u).2 (by simpa using p) (by simpa using r) y
end
section
variable {te:TE} {Q:V→Hp→Prop} {R:Value→Shared→Prop}
structure NK (X:Cx) (a:Nat) (fn:Fn) (te:TE) (fd:FuncData) (bd:List Stmt) (ns:List Str):Prop where
 bI: ∃o,X.hb.get? a=some o∧o.data= .func fd
 code:X.hb.CodeRec fd.code fd.qualname
 body:fd.body= .stmts bd
 closure:fd.closure=[]
 globals:fd.globals=mainGlobals
 builtins:fd.builtins=builtinsNs
 scope:te.scope=fd.scope
 kind:fd.scope.kind= .function
 UZ:fd.scope.isCoroutine=false
 Rh:fd.scope.isGenerator=false
 Wx:yW fd.params ns
 nodup:ns.Nodup
 np:fn.np=ns.length
 Lr: ∀(i:Nat) (x:Str),ns[i]?=some x→te.slots[i]?=some (some x)
 inj: ∀(i j:Nat) (x:Str),te.slots[i]?=some (some x)→te.slots[j]?=some (some x)→i=j
 Fk: ∀(i:Nat) (x:Str),te.slots[i]?=some (some x)→te.kind x=some .local∨(te.kind x=some .cell∧(x,NameKind.cell)∈fd.scope.names)
 dflt: ∃ds,((fd.defaults= .none∧ds=[])∨(∃T n,fd.defaults= .ref T∧X.hb.get? T=some (dA ds n)))∧bZ X X.hb (fun ξ=>none) fn.dflt ds
 U0:fn.dflt.length≤fn.np
 rC:lC X.nm te fn.body bd=true
structure mx (X:Cx):Prop extends Glo X where
 fns: ∀a fn,X.P.fn a=some fn→ ∃te fd body ns,NK X a fn te fd body ns
 nolim:X.hb.NoLimit
 init:X.fj[0]?=some (Str.ofString "__init__")
 made: ∀a eX,X.P.cls a=some eX→makesIn X.K a=true
def gW.deeper (a:gW (d+1) A):gW d (A.deeper h):=⟨a.hh,by haveI:=a.dp;show A.depth+1+4*d+10≤990;exact(br 0x21e1f8b050e0821421804600c3c3f160a1c1042c02308401) this,by haveI:=a.un;show A.units+3+30*d+200≤9900;exact(br 0x20c1d4a92c10331608f142180c600c183a9525820662c11e2c02308401) this⟩
theorem AD: ∀{n i:Nat},¬(TC n).get i=some v
 |0,i=>fun h=>nomatch h
 |n+1,0=>fun h=>nomatch h
 |n+1,i+1=>AD (n:=n)
theorem wq: ∀{vs:aN} {i:Nat},(HC vs n).get i=some v→vs[i]?=some v
 |[],i,h=>(AD h).elim
 |w::vs,0,h=>h
 |w::vs,i+1,h=>wq (vs:=vs) h
def S4 (h:Env) (a:Nat):Prop:=a=h.locals∨ ∃x,h.cells.lookup x=some a
def AE (q:HR X c) (g:Go X cS c h) (r:dC X h v y) (m:rG p Q v h.H) (n: ∀x v y,Go X cS c x→dC X x v y→Q v x.H→R y x.s):R y h.s:=by
 cases p with
 |none=>exact n h v y g r m
 |some k=>obtain⟨T,s,e,m⟩:=m;obtain⟨t,u⟩:=Go.vv (W:=cS) g.hr e (n:=k) r;exact n ⟨_,h.s,s⟩ _ _ (Go.trans q g t) u m
@[reducible] def Jf (X : Cx) (A : Around) (c : Cf) (d : Nat) (Q : V → Hp → Prop) (R : Value → Shared → Prop) (x : Fn) (vs : aN) (xs : ax) : Prop := ∀ {a : Nat} (Z : mx X) (k : gR X (vm X.P d) d) (m : X.P.fn a = some x) (p : gW (d + 1) A) (q : HR X c) (r : dk X c vs xs) (e : vm X.P (d + 1) a vs c.H Q) (n : ∀ h v y, Go X cS c h → dC X h v y → Q v h.H → R y h.s), codeAny (M X) A (.call (.ref a) ⟨xs, []⟩) (ML R) c.s
abbrev Jg:List Type:=[Cx,Around,Cf,Nat,V→Hp→Prop,Value→Shared→Prop,Fn,aN,ax]
def Ri:=eV Jg Jf ⟨vn,xR,yw,nI,nI,nI,VU,nI,nI,trivial⟩
def U1:eU Jg Jf Ri:=by
 injections Ri X A c d Q R C vs xs;change Jf X A c d Q R C vs xs;intro a Z hC hf hA D rv e n;obtain⟨te,G,hs,H,K⟩:=Z.fns a C hf;change HG X.P (vm X.P d) a vs c.H Q at e;delta HG at e;rw[hf] at e;obtain⟨fr,ef,m⟩:=dD e;unfold pk at ef;split at ef
 ·rename_i p;obtain⟨O,hk,rd⟩:=K.dflt;have I:C.dflt.length=O.length:=rd.length;have L:=rv.length;have u:=K.np;have U:=K.U0;obtain⟨o,ho,ha⟩:=K.bI;have kb: ∀b o,X.hb.get? b=some o→c.s.heap.get? b=some o:=fun b o e=>(D.im b o e).1;refine codeAny_call_function (by have:=hA.dp;show A.depth<1000;exact(br 0x2281fca00c3c3f160a1c1042c02308401) this) (kb _ _ ho) ha K.UZ K.Rh K.body (K.code.keeps kb) ?_;have hb:=yX (s:=c.s) (fd:=G) (ns:=H) (vals:=xs) (ds:=O) K.Wx K.nodup
   (hk.imp id fun⟨T,n,h1,h2⟩=>⟨T,n,h1,kb _ _ h2⟩) ((fH 0x80c210c041006430883208401) I u U) ((xQ 0x1020461910210c861006d0808200843008401) p L u) ((xY 0x1080c240943228421910200c861106d0808200843008401) p I L u)
  refine hb _ _ _ _ ?_;rw[K.closure];have hg:C.dflt.length-(C.np-vs.length)=xs.length-(H.length-O.length):=by exact(xY 0x4a31184a12063100421106010883228421910200c861106d0808200843008401) p I L u U
  rw[hg] at ef;obtain rfl:=dL ef;generalize Y:vs++C.dflt.drop (xs.length-(H.length-O.length))=args at m;generalize j:xs++O.drop (xs.length-(H.length-O.length))=g;have ra:dk X c args g:=by rw[←Y,←j];exact rv.append ((D.EM rd).drop _)
  have hl:g.length=H.length:=by rw[←j,WO,WT];exact(xY 0x48a184631184a120461206010883228421910200c861106d0808200843008401) p I L u U
  have kn: ∀{x:Str},x∈H→te.kind x=some .local∨(te.kind x=some .cell∧(x,NameKind.cell)∈G.scope.names):=fun{x} N=>by obtain⟨i,hi,rfl⟩:=Z0 N;exact K.Fk i _ (K.Lr i _ (WS hi))
  have l: ∀x,te.kind x=G.scope.names.lookup x:=fun x=>by unfold TE.kind;rw[K.scope]
  refine wpAny_newFunctionEnv_cells K.kind (fun x N=>?_) fun h he s' J=>?_
  ·have N:=(List.of_mem_zip N).1;rcases kn N with q|⟨q,m⟩
   ·exact .inl ((l _).symm.trans q)
   ·refine .inr ⟨(l _).symm.trans q,?_⟩;obtain⟨z,hz⟩:=fc (n:=c.s.heap.objs.size+1) (acc:=[]) (.inr m);obtain⟨z',t⟩:=fb hz;rw[t];rfl
  ·have hL:h.locals=c.s.heap.objs.size:=by rw[he];rfl
   have hn:h.cells=cellsFrom (c.s.heap.objs.size+1) G.scope.names []:=by rw[he];rfl
   have hh:h.scope=G.scope:=by rw[he];rfl
   have hp:h.globals=G.globals:=by rw[he];rfl
   have hq:h.builtins=G.builtins:=by rw[he];rfl
   clear he;have fresh:c.s.heap.get? h.locals=none:=by rw[hL];exact aX _
   have f: ∀{x z},h.cells.lookup x=some z→c.s.heap.get? z=none∧z≠h.locals:=fun{x z} q=>by
    have:=J.above x z (mem_of_lookup q);refine⟨?_,aaq this⟩;cases w:c.s.heap.get? z with
    |none=>rfl
    |some o=>rw[hL] at this;exact absurd (X8 w) (Yn.mpr (Xq this))
   obtain⟨h',tk,rfl⟩:=J.toInCall.same;have kk:=J.toInCall.keep;have hj:h.kindOf=fun x=>te.kind x:=by funext x;unfold Env.kindOf;rw[hh,l]
   have B: ∀{x:Str},(x,NameKind.cell)∈G.scope.names→ ∃z,h.cells.lookup x=some z:=fun{x} m=>by obtain⟨z,hz⟩:=fc (n:=c.s.heap.objs.size+1) (acc:=[]) (.inr m);obtain⟨z',t⟩:=fb hz;exact⟨z',hn▸t⟩
   have g1:Go X cS c ⟨D3 c.ow (S4 h) h.locals,{c.s with heap:=h',toks:=tk},c.H⟩:=
    Go.ux (wr:=S4 h) (s':={c.s with heap:=h',toks:=tk}) D kk rfl rfl (.inl rfl) (fun a w=>by rcases w with rfl|⟨x,w⟩;exact fresh;exact(f w).1) fun a w=>by
     rcases w with rfl|⟨x,w⟩
     ·exact dW J.toInCall.ns
     ·obtain⟨o,e,_⟩:=J.cell x a w;exact⟨o,e⟩
   have al:=dW J.toInCall.ns;have oo:=(D.fresh fresh).1
   have F1:cL X te h h.locals (HC args (C.nl-C.np)) ⟨D3 c.ow (S4 h) h.locals,{c.s with heap:=h',toks:=tk},c.H⟩:=by
    refine⟨hh.trans K.scope.symm,by rw[K.scope];exact K.kind,hp.trans K.globals,hq.trans K.builtins,⟨_,J.toInCall.ns,fun i x v h1 h2=>?_⟩,fun x z q=>⟨⟨_,J.cell x z q⟩,(f q).2,jI (.inr ⟨x,q⟩)⟩,
     fun x x' z q q'=>name_of_addr J.apart (mem_of_lookup q) (mem_of_lookup q'),fun i x h1 h2=>?_,K.inj,⟨jI (.inl rfl),oo⟩,⟨oo,al⟩⟩
    ·obtain⟨y,hy,ry⟩:=ra.get (wq h2);have hi:i<H.length:=by rw[←hl];exact(Xf.mp hy).1
     have N:H[i]?=some x:=by rw[WS hi];have:=K.Lr i _ (WS hi);rw[h1] at this;cases(this);rfl
     refine⟨y,?_,ry.go g1⟩;rcases K.Fk i x h1 with q|⟨q,m⟩
     ·exact .inl ⟨q,s9 K.nodup N hy (by rwa[hj])⟩
     ·obtain⟨z',t⟩:=B m;have:=J.cell x z' t;rw (config:={}) [tb K.nodup N hy (by rw (config:={}) [hj];simp[q])] at this;exact .inr ⟨q,z',t,this⟩
    ·rcases K.Fk i x h1 with q|⟨q,m⟩
     ·rw[h2] at q;cases(q)
     ·exact B m
   refine⟨Z.nolim.keeps fun b o e=>kk b o (kb b o e),codeAny_func ?_⟩
   have ret: ∀{c2},Go X (WL h) ⟨D3 c.ow (S4 h) h.locals,{c.s with heap:=h',toks:=tk},c.H⟩ c2→Go X cS c c2:=fun g2=>(Go.trans D (Go.gx D g1) g2).fM D fun r o e q=>by rw[q,fresh] at e;exact bH e
   refine B' (Cp Z.toGlo hC C.body (k:=bn) (Qp:=cp C.vv c.H Q) K.rC ⟨hA.deeper,g1.hr,F1⟩ m (fun c2 hr g2 F2 m2=>?_) ⟨fun ξ ξ ξ ξ m=>m.elim,fun ξ ξ ξ ξ m=>m.elim,fun c2 hr v y g2 F2 r m2=>?_⟩)
   ·exact AE (v:= .none) D (ret g2) rfl m2 n
   ·exact AE D (ret g2) r m2 n
 ·exact bH ef
def NL:eB Jg Jf:=eA Jg U1
def Fm (a:gW (d+1) A):gW d (A.under (.builtin "type.__call__" ⟨.ref C::h,[]⟩)):=by
 haveI e:(Code.builtin "type.__call__" ⟨.ref C::h,[]⟩).weight=1:=rfl;haveI x:(Code.builtin "type.__call__" ⟨.ref C::h,[]⟩).cUnits=1:=rfl;refine⟨a.hh,?_,?_⟩
 ·haveI:=a.dp;show A.depth+_+4*d+10≤990;rw[e];exact(br 0x21e1f8b050e0821421804600c3c3f160a1c1042c02308401) this
 ·haveI:=a.un;show A.units+_+30*d+200≤9900;rw[x];exact(br 0x20c1d4a92c10331608f1421804600c183a9525820662c11e2c02308401) this
def Jh (Z:mx X) (Y:gR X (vm X.P d) d) (D:X.P.cls a=some p) (G:p.lookup sr=some (.bI f)) (hA:gW (d+1) A) (i:HR X c) (rv:dk X c vs xs)
  (m: ∀b,an c.H b= .none→vm X.P d f (.ref b::vs) (.c b (.inst a [] []) c.H) (BA (X.P.rB a) b c.H Q)) (n: ∀B v y,Go X cS c B→dC X B v y→Q v B.H→R y B.s):codeAny (M X) A (.call (.ref a) ⟨xs,[]⟩) (ML R) c.s:=by
 haveI u:=i.kin Z.toSys;haveI T:=((Z.cls a p D).ai 0 _ Z.init).val;haveI G:p.lookup 0=some (.bI f):=G;rw[G] at T;obtain⟨T1,T2,-⟩:=EQ T;obtain⟨I,⟨h,g,J,t,os⟩,H⟩:=c;haveI hn:=aX h;refine make_core (makes_of u (Z.made a p D)) (looks_findIn u T1) (fun self=>bind_fn u self (XJ.mp T2)) (.inl rfl) ?_;haveI k: ∀b o,h.get? b=some o→((h.push emptyDict).push (instObj a h.objs.size)).get? b=some o:=fun b o e=>aK _ _ _ _ (aK _ _ b o e);haveI sz:(h.push emptyDict).objs.size=h.objs.size+1:=Zl ..;have j:((h.push emptyDict).push (instObj a h.objs.size)).get? (h.objs.size+1)=some (eW a h.objs.size):=by rw[←sz];exact Xd _ rfl
 have l:((h.push emptyDict).push (instObj a h.objs.size)).get? h.objs.size=some (dictOf [] 0):=aK _ _ _ _ (Xd _ rfl);generalize (h.push emptyDict).push (instObj a h.objs.size)=O at k j l;have n1:=I1 h;haveI n2:=(i.fresh n1).1
 let L:Nat→Prop:=fun b=>b=h.objs.size+1∨b=h.objs.size
 haveI fw: ∀{b},L b→h.get? b=none:=fun w=>by rcases w with rfl|rfl;exact n1;exact hn
 have N:Go X cS ⟨I,⟨h,g,J,t,os⟩,H⟩ ⟨D3 I L (h.objs.size+1),⟨O,g,J,t,os⟩,.c (h.objs.size+1) (.inst a [] []) H⟩:=by
  refine Go.T8 (c:=⟨I,⟨h,g,J,t,os⟩,H⟩) i (t:=t) (h':=O) (fun b o e=>⟨k b o e,oL fun w=>by rw[fw w] at e;exact bH e⟩) n1 (fun b r e q=>?_) ⟨jI (.inl rfl),⟨h.objs.size,[],0,[],rfl,rfl,j,l,⟨fun n x hx=>rfl,⟨Xl _,W8 _,rfl⟩,fun e he=>(nomatch he)⟩,rfl⟩,fun cl d e=>?_,?_⟩ ⟨_,j⟩
  ·rcases ZB (L b) with w|w
   ·rw[jI w] at q;obtain rfl:=dL q;refine⟨rfl,?_⟩;rcases w with rfl|rfl
    ·exact⟨_,j⟩
    ·exact⟨_,l⟩
   ·rw[oL w] at q;obtain⟨⟨o,z⟩,_⟩:=i.live b r q;rw[show h.get? b=none from e] at z;exact bH z
  ·rw[j] at e;cases(e);exact jI (.inr rfl)
  ·show(X.P.cls a).isSome=true;rw[D];rfl
 refine codeAny_mono (Y (Fm hA) N.hr (vs:= .ref (h.objs.size+1)::vs) (.cons rfl (rv.go N)) (m _ n2) (R:=fun y U=>y= .none∧R (.ref (h.objs.size+1)) U) fun C v y l r s=>?_) fun r U q=>?_
 ·have g:=Go.trans i N l;induction v using V.casesOn with
  |none=>
   refine⟨r,?_⟩;replace s:match X.P.rB a with
    |true=> ∃T:Hp,C.H=T.Hl H∧Q (fg 2 T (.ref (h.objs.size+1))) H
    |false=>Q (.ref (h.objs.size+1)) C.H:=s
   cases q:X.P.rB a with
   |true=>rw[q] at s;obtain⟨T,e,s⟩:=s;obtain⟨g3,r3⟩:=Go.vv (W:=cS) g.hr e (n:=2) (v:= .ref (h.objs.size+1)) (x:= .ref (h.objs.size+1)) rfl;exact n ⟨_,C.s,H⟩ _ _ (Go.trans i g g3) r3 s
   |false=>rw[q] at s;exact n C (.ref (h.objs.size+1)) _ g rfl s
  |_=>exact s.elim
 ·induction r using Except.casesOn with
  |error e=>exact q.elim
  |ok f=>
   induction f using Flow.casesOn with
   |ret v=>obtain⟨rfl,q⟩:=q;exact⟨rfl,q⟩
   |_=>exact q.elim
def Fo:gR X (vm X.P 0) 0:=fun a h e A c Q R ξ ξ ξ m ξ=>m.elim
def Fp (Z:mx X) (m:gR X (vm X.P d) d):gR X (vm X.P (d+1)) (d+1):=fun a p u A c Q R q r s e n=>by
 cases t:X.P.fn a with
 |some v=>exact NL Z m t q r s e n
 |none=>
  change HG X.P (vm X.P d) a p c.H Q at e;delta HG at e;rw[t] at e;cases x:X.P.cls a with
  |none=>rw[x] at e;exact e.elim
  |some h=>
   rw[x] at e;change TX X.P (vm X.P d) a p c.H Q (h.lookup sr) at e;cases k:h.lookup sr with
   |none=>rw[k] at e;exact e.elim
   |some w=>
    rw[k] at e;cases w with
    |bI f=>exact Jh Z m x k q r s e n
    |_=>exact e.elim
theorem AF (Z:mx X): ∀d,gR X (vm X.P d) d
 |0=>Fo
 |d+1=>Fp Z (AF Z d)
end
end Mine.Internal
namespace Mine.Internal
open PySem PySem.W PyProof.Rows PySem.Calls PySem.SeqAt
set_option backward.match.sparseCases true
set_option tactic.hygienic true
def my (g:Gt) (N:Nm) (k:Fn) (h:List (Option Str)) (e:FuncData):Bool:=match e.body with
 | .stmts m=>e.closure.isEmpty&&e.globals==mainGlobals&&e.builtins==builtinsNs&&e.scope.kind== .function&& !e.scope.isCoroutine&& !e.scope.isGenerator&&yq g e.code e.qualname&&
   (e.params.posonlyargs.isEmpty&&e.params.vararg.isNone&&e.params.kwonlyargs.isEmpty&&e.params.kwarg.isNone)&&k.np==e.params.args.length&&h.take k.np==(e.params.args.map fun a=>some a.arg)&&me h&&
   h.all (fun o=>match o with
    |some x=>match e.scope.names.lookup x with
     |some .local=>true
     |some .cell=>e.scope.names.contains (x,.cell)
     |_=>false
    |none=>true)&&yr g k.dflt e.defaults&&decide (k.dflt.length≤k.np)&&lC N ⟨e.scope,h⟩ k.body m
 |_=>false
def AG (g:Gt) (N:Nm) (a:Nat) (e:Fn) (h:List (Option Str)):Bool:=match g a with
 |some o=>match o.data with
  | .func x=>my g N e h x
  |_=>false
 |none=>false
def Fq:Nm:=⟨lr,lu,ab⟩
def Ft (g:Gt):Bool:=Ad.all (fun p=>AG g Fq p.1 p.2 ((uo.lookup p.1).getD []))
def Fu (o:Option SharedT):Bool:=match o with
 |some r=>Ft (gT r)
 |none=>false
def NM (w:World) (os:OsState):Fu (jG (w.withFollow yt false) (jF w.params os) (topStub pw))=true:=by kernel_rfl
def NN (w:World) (os:OsState):Fu (jG (w.withFollow yt true) (jF w.params os) (topStub pw))=true:=by kernel_rfl
set_option tactic.hygienic false
end Mine.Internal
namespace Mine.Internal
open PySem
variable {Q:V→Hp→Prop}
section
variable {H:Hp}
def bj {α:Type} {o:Option α} {Q:α→Prop} {a:α} (h:o=some a) (q:Q a):Y1 o Q:=by subst h;exact q
def wt (h:b=true) (a:A):zZ b A B:=by subst h;exact a
def iv (h:b=false) (a:B):zZ b A B:=by subst h;exact a
def gy (h:b=true→A) (k:b=false→B):zZ b A B:=by induction b using Bool.casesOn;exact k rfl;exact h rfl
def bV [d:Decidable p] (h:p→A) (k: ¬p→B):zZ (decide p) A B:=
 gy (fun q=>h (XY q)) fun q=>k (of_decide_eq_false q)
def jf [d:Decidable p] (h:p) (a:A):zZ (decide p) A B:=wt (Xz h) a
def gz [d:Decidable p] (h: ¬p) (a:B):zZ (decide p) A B:=iv (Xw h) a
def gf:PyData.eqv (.int a) (.int b)=decide (a=b):=by rw[PyData.eqv];rfl
def NO (h:a=b):PyData.eqv (.int a) (.int b)=true:=gf.trans (Xz h)
def Fv (h:a≠b):PyData.eqv (.int a) (.int b)=false:=gf.trans (Xw h)
def bQ (h:a=b→A) (k:a≠b→B):zZ (PyData.eqv (.int a) (.int b)) A B:=by rw[gf];exact bV h k
def qk (h:a≠b→A) (k:a=b→B):zZ (!PyData.eqv (.int a) (.int b)) A B:=by rw[gf];exact gy (fun q=>h (by simpa using q)) fun q=>k (by simpa using q)
def au [Decidable p] {Q:V→Prop} (h:p) (q:Q v):Y1 (de p v) Q:=bj (WY h) q
def ao (x:P.fn a=some e) (k:pk e args=some fr) (h:WB P (cx P d) e.body fr H (cp e.vv H Q)):Y2 (cx P (d+1) a args H) Q:=by rw[DI] at h⊢;rw[KU];change HG P (vm P d) a args H Q;delta HG;rw[x];change Y1 (pk e args) fun fr=>WB P (vm P d) e.body fr H (cp e.vv H Q);rwa[k]
def cD (x:P.fn a=none) (k:P.cls a=some e) (m:e.lookup sr=some (.bI f))
  (h: ∀b,an H b=none→Y2 (cx P d f (.ref b::args) (.c b (.inst a [] []) H)) (BA (P.rB a) b H Q)):Y2 (cx P (d+1) a args H) Q:=by
 rw[DI] at h⊢;rw[KU];change HG P (vm P d) a args H Q;delta HG;rw[x];change VQ P (vm P d) a args H Q (P.cls a);rw[k];change TX P (vm P d) a args H Q (e.lookup sr);rw[m];exact fun b n=>(h b n).go
def ba:an (.c a o H) a=some o:=WY rfl
def aD (h:a≠b):an (.c a o H) b=an H b:=WX h
def b7:cz (.c a o H) a p= .c a p H:=WY rfl
def b8 (h:a≠b):cz (.c a o H) b p= .c a o (cz H b p):=WX h
def oQ:l4 (.c a o H) a=H:=WY rfl
def eo {b:Nat} (h:an H a=none) (k:an H b=some o):a≠b:=fun e=>by rw[e,k] at h;exact ph h
def mA (h:an H a=none) (k:an H b=some p):an (.c a o H) b=some p:=(aD (eo h k)).trans k
def cb (h:an (.c a o H) b=none):a≠b∧an H b=none:=by
 by_cases e:a=b
 ·subst e;rw[ba] at h;exact ph h
 ·rw[aD e] at h;exact⟨e,h⟩
def ql {K:V→Prop} (h:an H a=some (.list e)) (q:K (.ap e)):Yr (an H a) K:=by rwa[h]
def hN {K:V→Prop} (h:an H a=some (.dict e x)) (q:K (.eR e x)):Yr (an H a) K:=by rwa[h]
def Fw {K:aN→Prop} (h:an H a=some (.list e)) (q:K e):Yl (an H a) K:=by rwa[h]
def cf {K:Nat→aL→aN→Prop} (h:an H a=some (.inst c e x)) (q:K c e x):Yi (an H a) K:=by rwa[h]
def r5 {K:V→Prop} (q:K (.ap h)):Yr (an (.c a (.list h) H) a) K:=ql ba q
def Fx {K:V→Prop} (q:K (.eR h e)):Yr (an (.c a (.dict h e) H) a) K:=hN ba q
def dE {K:aN→Prop} (q:K h):Yl (an (.c a (.list h) H) a) K:=Fw ba q
def ou {K:Nat→aL→aN→Prop} (q:K c h e):Yi (an (.c a (.inst c h e) H) a) K:=cf ba q
def aP {h:aL} {k:Kt} {st:aN} {Q:cy} (x:Nat.blt h.length 60=true) (q:vl n v h e fun h e=>k st m (.c a (.inst c h e) H) Q):
  Yi (an (.c a (.inst c h e) H) a) (rF n v a k st m (.c a (.inst c h e) H) Q):=
 ou ⟨Yk x,by simp only[b7];exact q⟩
def fN {k:Kt} {st:aN} {Q:cy} (e:xs.length<bz) (q:k (.none::st) x (.c a (.list (xs++[v])) H) Q):
  Yl (an (.c a (.list xs) H) a) (fun h=>h.length<bz∧k (.none::st) x (cz (.c a (.list xs) H) a (.list (h++[v]))) Q):=dE ⟨e,by rw[b7];exact q⟩
def gA {k:Kt} {st:aN} {Q:cy} (x:i7 v=some h) (m:xs.length+h.length<bz) (q:k (.none::st) n (.c a (.list (xs++h)) H) Q):
  Yl (an (.c a (.list xs) H) a) (fun e=>Y1 (i7 v) fun h=>e.length+h.length<bz∧k (.none::st) n (cz (.c a (.list xs) H) a (.list (e++h))) Q):=dE (bj x ⟨m,by rw[b7];exact q⟩)
def iU {k:Kt} {st:aN} {Q:cy} (q:k st (e.set i (.ap h)) H Q):Yr (an (.c a (.list h) H) a) (Bz i a k st e (.c a (.list h) H) Q):=r5 (by unfold Bz;rwa[oQ])
def wu {K:V→Prop} (e:o=h) (q:K (h.getD x)):Yg o x K:=⟨by subst e;exact q⟩
def cq (h:j<n):place n (j:Int)=some j:=by unfold place;rw[WY (YH j),WY ((br 0xa2c215803108401) h)];rfl
def fY {Q:V→Prop} (e:place h.length k=some j) (x:h[j]?=some v) (q:Q v):Y1 (fK (.ap h) (.int k)) Q:=by show Y1 ((place h.length k).bind _) Q;rw[e];show Y1 h[j]? Q;rwa[x]
def wx {Q:V→Prop} (e:place h.length k=some j) (x:h[j]?=some v) (q:Q v):Y1 (fK (.aG h) (.int k)) Q:=by show Y1 ((place h.length k).bind _) Q;rw[e];show Y1 h[j]? Q;rwa[x]
inductive Lo {σ:Type} (F:σ→Fr) (G:σ→Hp) (J:σ→Prop):Fr→Hp→Prop where
 |mk (t:σ) (h:J t):Lo F G J (F t) (G t)
def AH {α:Type} {f:α→V} {k:List α} {v:V} (h:(k.map f)[i]?=some v): ∃x,k.drop i=x::k.drop (i+1)∧f x=v:=by rw[Xk] at h;obtain⟨x,m,e⟩:=Xy.mp h;obtain⟨n,p⟩:=Xf.mp m;exact⟨x,by rw[←p];exact Xo n,e⟩
def bL {σ α:Type} {a b:Kt→Kt} {Q:cy} (f:α→V) (F:σ→Fr) (G:σ→Hp) (I:List α→σ→Prop) (m: ∀s,I [] s→Q .next (F s) (G s))
  (step: ∀x k s,I (x::k) s→a (b bn) [f x] (F s) (G s) (dT n (Lo F G (I k)) Q)) (k:List α) (s:σ) (h:I k s):Y3 (rE a b n (k.map f) (F s) (G s)) Q:=
 ⟨fun i=>Lo F G (I (k.drop i)),.mk s h,fun p H ⟨t,h⟩=>m t (by rw[WP,List.drop_length] at h;exact h),fun i v e p H ⟨t,h⟩=>by
  obtain⟨x,q,r⟩:=AH e;subst r;rw[q] at h
  exact step x _ t h⟩
def ce {σ:Type} {t:Kt→Kt→Kt} {b:Kt→Kt} {Q:cy} (F:σ→Fr) (G:σ→Hp) (I:σ→Prop) (m:σ→Nat)
  (step: ∀s,I s→t (b bn) LU [] (F s) (G s) (dT k (Lo F G fun u=>m u<m s∧I u) Q)) (s:σ) (h:I s):Y3 (DC t b k (F s) (G s)) Q:=
 ⟨fun n=>Lo F G fun u=>m u=n∧I u,⟨_,.mk s ⟨rfl,h⟩⟩,fun n x H ⟨u,e,h⟩=>by
  subst e;haveI:=step u h;haveI z:(Lo F G fun v=>m v<m u∧I v)=fun x H=> ∃j,j<m u∧Lo F G (fun v=>m v=j∧I v) x H:=
   funext fun x=>funext fun H=>propext ⟨fun h=>(by induction h using Lo.casesOn with|mk v h=>exact⟨_,h.1,.mk v ⟨rfl,h.2⟩⟩),fun⟨j,a,h⟩=>(by induction h using Lo.casesOn with|mk v h=>exact .mk v ⟨h.1▸a,h.2⟩)⟩
  rw[z] at this;exact this⟩
def gj {α:Type} {c:Kt→Kt→Kt} {e:Kt→Kt} {R:aN→Hp→Prop} (f:α→V) (g:α→V) (p:α→Bool) (k:List α)
  (step: ∀a,a∈k→ ∀Q:cy,(∀n,(p a=true→Q (.ret (g a)) n H)∧(p a=false→Q .next n H))→c (e x7) bn [] (n.set m (f a)) H Q) (w:R ((k.filter p).map g) H):nL c e m (k.map f) n H R:=
 ⟨fun i q r=>r=H∧q=((k.take i).filter p).map g,⟨rfl,rfl⟩,fun q r h=>(by rwa[h.1,h.2,WP,aan]),fun i v u q r h=>by
  obtain⟨rfl,rfl⟩:=h;obtain⟨x,s,rfl⟩:=AH u;have t:k.take (i+1)=k.take i++[x]:=by haveI:k.take (i+1)=k.take i++(k.drop i).take 1:=List.take_add;rw[this,s];rfl
  refine step x (Xb (i:=i) (by rw[s];exact .head _)) _ fun ξ=>⟨fun h=>⟨rfl,?_⟩,fun h=>⟨rfl,?_⟩⟩
  ·rw[t,aab,Yz,WY h,WU];rfl
  ·rw[t,aab,Yz,WX (by rw[h];exact W5),List.filter_nil,Xe]⟩
def cX {α:Type} {e:Kt→Kt} {R:aN→Hp→Prop} (f:α→V) (g:α→V) (k:List α)
  (step: ∀a,a∈k→ ∀Q:cy,(∀h,Q (.ret (g a)) h H)→e x7 [] (h.set x (f a)) H Q) (p:R (k.map g) H):nL (fun n ξ=>n) e x (k.map f) h H R:=
 gj f g (fun ξ=>true) k (fun a m Q q=>step a m Q fun h=>(q h).1 rfl) (by rwa[List.filter_eq_self.mpr fun ξ ξ=>rfl])
def fe {α:Type} {a b:Kt→Kt} {Q:cy} (f:α→V) (e:List α) (q:Q .next k H) (step: ∀x,x∈e→ ∀R:Fr→Hp→Prop,R k H→a (b bn) [f x] k H (dT n R Q)):Y3 (rE a b n (e.map f) k H) Q:=
 bL (σ:=Unit) f (fun ξ=>k) (fun ξ=>H) (fun r ξ=> ∀x∈r,x∈e) (fun ξ ξ=>q) (fun x r s h=>step x (h x (.head _)) _ (.mk s fun y m=>h y (.tail _ m))) e () fun ξ m=>m
def dY:(dP a b).length=(b-a).toNat:=by unfold dP;rw[WP,Zj]
def td (h:a<b):dP a b=a::dP (a+1) b:=by
 unfold dP;haveI:(b-a).toNat=(b-(a+1)).toNat+1:=by exact(lm 0x94023546012004112a201045408802) h
 rw[this,List.range_succ_eq_map,XD,XW];congr 1
 ·exact Z4 a
 ·refine YQ fun k ξ=>?_;show a+((k+1:Nat):Int)=a+1+(k:Int);exact(ar 0x560b00601200505c02300402 [_] [_])
def Fy (h:b≤a):dP a b=[]:=by unfold dP;rw[show(b-a).toNat=0 by exact(lm 0x2401aa211005308802) h];rfl
def jN (h:dP a b=x::r):a<b∧x=a∧r=dP (a+1) b:=by
 by_cases q:a<b
 ·rw[td q] at h;injection h with e k;exact⟨q,e.symm,k.symm⟩
 ·rw[Fy (Yx.mp q)] at h;cases(h)
def wy {b:Int} (h:x∈dP a b):a≤x∧x<b:=by obtain⟨k,e,rfl⟩:=Xj.mp h;rw[List.mem_range] at e;show a≤a+(k:Int)∧a+(k:Int)<b;exact(ar 0xb500282c0108a7058021104515442200801 [_] [_,_]) e
def qm {a:Int} (h:dP a b=[]):b≤a:=Yx.mp fun q=>by rw[td q] at h;cases(h)
end
section
inductive At where
 |char (f:Bool) (c:Int)
 |kj (f:Bool) (c:Int) (ps:ah) (l r:Bool)
 |cJ (w s:Int)
 |Fz (v:Int)
 |lD (on:Bool) (w:Int)
 |spec (b:aL)
inductive Nd where
 |one (a:At)
 |skip
 |cI (pre post mid:List At)
def At.kind:At→Int
 | .char .. =>0| .kj .. =>1| .cJ .. =>5| .Fz _=>7| .lD .. =>12| .spec _=>13
def Nd.kind:Nd→Int
 | .one a=>a.kind| .skip=>6| .cI .. =>8
def At.codes:At→ah
 | .char _ c=>[c]| .kj _ _ h _ _=>h|_=>[]
def Nd.codes:Nd→ah
 | .one a=>a.codes|_=>[]
def num (f:Bool):Int:=if f then 2 else 1
def aq (h:ah):aN:=h.map V.int
structure FD where
 cs:List (Int×(Int×Int×Int))
 eY:List (Int×Int×Int×Int)
 ks:ah
 bound:Int
 edge:Int
 hy:Int
 num:Int
 nm:V
 ps:V
def V3:Nonempty FD:=⟨⟨[],[],[],0,0,0,0,.none,.none⟩⟩
abbrev Fs:=Bool→FD
def Hu:Nonempty Fs:=⟨fun ξ=>⟨[],[],[],0,0,0,0,.none,.none⟩⟩
def V4 (h:List (Int×(Int×Int×Int))):aN:=h.map fun e=> .aG [.int e.2.1,.int 400,.int 0,.int 0,.int e.2.2.1,.int e.2.2.2]
def bY (h:List (Int×Int×Int×Int)):aN:=h.map fun r=> .aG [.int r.1,.int r.2.1,.int r.2.2.1,.int r.2.2.2]
def aJ (F:FD):V:= .inst 409 [15,16,17,18,19,20,21,22,23,24,25,5,26]
 [.int F.num,F.nm,.int 655360,.int 655360,.int 0,F.ps,.eR (F.cs.map (·.1)) (V4 F.cs),.aG (bY F.eY),.aG (aq F.ks),.int F.bound,.int F.edge,.int F.hy,.int (-1)]
variable {fd:Fs}
def At.cls:At→Nat
 | .char .. =>481| .kj .. =>501| .cJ .. =>522| .Fz _=>565| .lD .. =>607| .spec _=>628
def At.ns:At→aL
 | .char .. =>[12,7]| .kj .. =>[12,7,8,37,38]| .cJ .. =>[35,10]| .Fz _=>[34]| .lD .. =>[4,35]| .spec _=>[36]
def At.vs (fd:Fs):At→aN
 | .char f c=>[aJ (fd f),.int c]
 | .kj f c h l r=>[aJ (fd f),.int c,.aG (aq h),.bool l,.bool r]
 | .cJ w s=>[.int w,.int s]
 | .Fz v=>[.int v]
 | .lD e w=>[.bool e,.int w]
 | .spec b=>[.bytes b]
def jO (fd:Fs) (a:At):V:= .inst a.cls a.ns (a.vs fd)
def gh (fd:Fs) (h:List At):V:= .ap (h.map (jO fd))
def wz:V:= .inst 256 [35,41,42,43,44] [.int 4,.int 2,.int 0,.int 1,.int 0]
def Nd.cls:Nd→Nat
 | .one a=>a.cls| .skip=>544| .cI .. =>586
def Nd.ns:Nd→aL
 | .one a=>a.ns| .skip=>[39,10,40]| .cI .. =>[9,14,11]
def Nd.vs (fd:Fs):Nd→aN
 | .one a=>a.vs fd| .skip=>[wz,.int 0,.none]| .cI a b c=>[gh fd a,gh fd b,gh fd c]
def bU (fd:Fs) (a:Nd):V:= .inst a.cls a.ns (a.vs fd)
def aB (fd:Fs) (h:List Nd):V:= .ap (h.map (bU fd))
def wA {lo:Int} (q:Q (.bool (decide (lo≤x)&&decide (x≤e))) H):Y2 (cx ab (d+1) 125 [.int x,.int lo,.int e] H) Q:=by
 refine ao (fr:= %[.int x,.int lo,.int e|0]) ye rfl (bV (fun h=>?_) fun h=>?_)
 ·rw[Xz h] at q;exact q
 ·rw[Xw h] at q;exact q
def aV {lo:Int} (h:lo≤x∧x≤e) (q:Q (.bool true) H):Y2 (cx ab (d+1) 125 [.int x,.int lo,.int e] H) Q:=
 wA (by rwa[Xz h.1,Xz h.2])
def d0 (h:0≤x∧x≤255) (q:Q (.int x) H):Y2 (cx ab (d+2) 457 [.int x] H) Q:=
 ao (fr:=(.c (.int x) .e)) ui rfl (aV h q)
def gB (q:Q (.int x) H):Y2 (cx ab (d+1) 132 [.int x] H) Q:=ao (fr:=(.c (.int x) .e)) rL rfl q
def dH (h: -1073741823≤x∧x≤1073741823) (q:Q (.int x) H):Y2 (cx ab (d+2) 146 [.int x] H) Q:=
 ao (fr:=(.c (.int x) .e)) rN rfl (gB (jf h.1 (jf h.2 q)))
def ov (h: -2147483647≤x∧x≤2147483647) (q:Q (.int x) H):Y2 (cx ab (d+2) 139 [.int x] H) Q:=
 ao (fr:=(.c (.int x) .e)) pP rfl (gB (jf h.1 (jf h.2 q)))
def FA (h:0≤x∧x<1048576) (q:Q (.int (r*1048576+x)) H):Y2 (cx ab (d+1) 856 [.int r,.int x] H) Q:=
 ao (fr:= %[.int r,.int x|0]) Px rfl (jf h.1 (jf h.2 (au (.inr (bM aw)) q)))
def jP {Q:V→Hp→Prop} (x:h.map (fg 1 (.c b (.inst c e h) .e))=k) (q:Q (.inst c e k) H): ∃T:Hp,Hp.c b (.inst c e h) H=T.Hl H∧Q (fg 2 T (.ref b)) H:=
 ⟨.c b (.inst c e h) .e,rfl,by
  haveI:fg 2 (.c b (.inst c e h) .e) (.ref b)= .inst c e (h.map (fg 1 (.c b (.inst c e h) .e))):=by show(match(if b=b then some (Ob.inst c e h) else none) with|some o=>_|none=>_:V)=_;rw[WY rfl]
  rw[this,x];exact q⟩
def jQ (h: -1073741823≤w∧w≤1073741823) (e:0≤s∧s≤3) (q:Q (jO fd (.cJ w s)) H):Y2 (cx ab (d+4) 522 [.int w,.int s] H) Q:=by refine cD DL.2 DL.1 rfl fun b x=>?_;exact ao (fr:= %[(_),.int w,.int s|0]) yh rfl (aV e (dH h (aP rfl (aP rfl (jP rfl q)))))
def qn (h:0≤c∧c≤255) (q:Q (jO fd (.char f c)) H):Y2 (cx ab (d+4) 481 [aJ (fd f),.int c] H) Q:=by refine cD DK.2 DK.1 rfl fun b e=>?_;exact ao (fr:= %[(_),aJ (fd f),.int c|0]) yj rfl (aP rfl (d0 h (aP rfl (jP rfl q))))
def Ji (h: -2147483647≤w∧w≤2147483647) (q:Q (jO fd (.Fz w)) H):Y2 (cx ab (d+4) 565 [.int w] H) Q:=by refine cD sF.2 sF.1 rfl fun b e=>?_;exact ao (fr:= %[(_),.int w|0]) rM rfl (ov h (aP rfl (jP rfl q)))
def wB (e: -1073741823≤w∧w≤1073741823) (q:Q (jO fd (.lD h w)) H):Y2 (cx ab (d+4) 607 [.bool h,.int w] H) Q:=by refine cD pU.2 pU.1 rfl fun b x=>?_;exact ao (fr:= %[(_),.bool h,.int w|0]) pQ rfl (aP rfl (dH e (aP rfl (jP rfl q))))
def Jj (fd:Fs) (h:Nd):pi ab h.cls h.ns (h.vs fd) 3=some (.int h.kind):=by
 cases h with
 |one a=>induction a using At.casesOn<;>rfl
 |_=>rfl
def gi {nd:Nd} {R:V→Prop} (q:R (.int nd.kind)):Y1 (pi ab nd.cls nd.ns (nd.vs fd) 3) R:=bj (Jj fd nd) q
def fv (q:Q (.aG (aq h.codes)) H):Y2 (cx ab (d+1) 741 [bU fd h] H) Q:=by
 refine ao (fr:=(.c (bU fd h) .e)) yn rfl ?_;cases h with
 |one a=>induction a using At.casesOn<;>exact q
 |_=>exact q
def Nd.fk:Nd→Bool
 | .one (.cJ _ s)=>s==0
 |_=>false
def b0 (q:Q (.bool h.fk) H):Y2 (cx ab (d+1) 734 [bU fd h] H) Q:=by
 refine ao (fr:=(.c (bU fd h) .e)) pT rfl ?_;cases h with
 |one a=>induction a using At.casesOn<;>exact q
 |_=>exact q
def FD.eG (F:FD) (c:Int):Bool:=F.cs.any fun e=>decide (e.1=c)
def yY (q:Q (.bool (F.eG c)) H):Y2 (cx ab (d+1) 343 [aJ F,.int c] H) Q:=by
 refine ao (fr:= %[aJ F,.int c|0]) yf rfl ?_;haveI e:((F.cs.map (·.1)).any fun e=>iG e c)=F.eG c:=by unfold FD.eG;rw[ZG];rfl
 exact(W4 (fun b=>Q (.bool b) H) e).mpr q
def c9 {α:Type} (k:Int):List (Int×α)→Option α
 |[]=>none
 |e::r=>if e.1=k then some e.2 else c9 k r
def AI {α:Type} {e:Int×α} {r:List (Int×α)}:c9 k (e::r)=(if e.1=k then some e.2 else c9 k r):=rfl
theorem kz {α:Type} (g:Int×α→V) (h:α→V) (m: ∀e,g e=h e.2) (k:Int): ∀x:List (Int×α),vw k (x.map (·.1)) (x.map g)=(c9 k x).map h
 |[]=>rfl
 |e::r=>by
  show(match iG e.1 k with|true=>some (g e)|false=>vw k (r.map Prod.fst) (r.map g))=_;rw[AI];unfold iG;by_cases q:e.1=k
  ·rw[WY q,Xz q,m];rfl
  ·rw[WX q,Xw q];exact kz g h m k r
def FD.ct (F:FD) (c:Int):Int:=if c=256 then F.edge else match c9 c F.cs with
 |some r=>if r.2.1=1 then r.2.2 else-1
 |none=> -1
def tf (q:Q (.int (F.ct c)) H):Y2 (cx ab (d+1) 378 [aJ F,.int c] H) Q:=by
 refine ao (fr:= %[aJ F,.int c|1]) rK rfl ?_;unfold FD.ct at q;refine bQ (fun h=>?_) fun h=>?_
 ·rw[WY h] at q;exact q
 ·rw[WX h] at q;haveI e:=kz (fun e:Int×Int×Int×Int=> .aG [.int e.2.1,.int 400,.int 0,.int 0,.int e.2.2.1,.int e.2.2.2]) (fun r:Int×Int×Int=> .aG [.int r.1,.int 400,.int 0,.int 0,.int r.2.1,.int r.2.2]) (fun ξ=>rfl) c F.cs;refine wu e ?_;clear e;generalize c9 c F.cs=o at q⊢;cases o with
  |none=>exact q
  |some r=>
   refine bQ (fun h=>?_) fun h=>?_
   ·haveI q:Q (.int (if r.2.1=1 then r.2.2 else-1)) H:=q;rw[WY h] at q;exact q
   ·haveI q:Q (.int (if r.2.1=1 then r.2.2 else-1)) H:=q;rw[WX h] at q;exact q
end
abbrev am:=List Nd
section
variable {A:Fs}
def Nd.Wy:Nd→aN
 | .one (.char f c)=>[.int 0,.int (num f),.int c]
 | .one (.kj f c h l r)=>[.int 1,.int (num f),.int c,.aG (aq h),.bool l,.bool r]
 | .one (.cJ w s)=>[.int 5,.int w,.int s]
 |n=>[.int n.kind]
def Nd.mk (n:Nd):V:= .aG n.Wy
def At.des:At→V
 | .char f c=> .aG [.int 0,.int (num f),.int c]
 | .kj f c h l r=> .aG [.int 1,.int (num f),.int c,.aG (aq h),.int (if l then 1 else 0),.int (if r then 1 else 0)]
 | .cJ w s=> .aG [.int 5,.int w,.int s]
 | .Fz v=> .aG [.int 7,.int v]
 | .lD e w=> .aG [.int 12,.int (if e then 1 else 0),.int w]
 | .spec b=> .aG [.int 13,.int 0,.aG (b.map fun(n:Nat)=>V.int n)]
def Nd.des:Nd→V
 | .one a=>a.des
 | .skip=> .aG [.int 6,.aG [.int 4,.int 2,.int 0,.int 1,.int 0],.int 0,.aG []]
 | .cI a b c=> .aG [.int 8,.aG (a.map At.des),.aG (b.map At.des),.aG (c.map At.des)]
def d3 (A:Fs):Prop:= ∀f,(A f).num=num f
def AJ {R:Int→Prop} (h:d3 A) (q:R (num f)):R (A f).num:=by rwa[h f]
def gC (e:d3 A) (q:Q h.mk H):Y2 (cx ab (d+1) 774 [bU A h] H) Q:=by
 refine ao (fr:=(.c (bU A h) .e)) BH rfl ?_;cases h with
 |one a=>
  cases a with
  |char f c=>exact AJ (R:=fun n=>Q (.aG [.int 0,.int n,.int c]) H) e q
  |kj f c k x y=>exact AJ (R:=fun n=>Q (.aG [.int 1,.int n,.int c,.aG (aq k),.bool x,.bool y]) H) e q
  |_=>exact q
 |_=>exact q
def Nd.nU (f:Bool):Nd→Bool
 | .one (.char g _)=>num g==num f
 | .one (.kj g _ _ _ _)=>num g==num f
 |n=>n.fk
def hO (k:d3 A) (q:Q (.bool (e.nU f)) H):Y2 (cx ab (d+2) 748 [bU A e,aJ (A f)] H) Q:=by
 refine ao (fr:= %[bU A e,aJ (A f)|0]) um rfl ?_;have h: ∀g,Q (.bool (num g==num f)) H→Q (.bool (PyData.eqv (.int (A g).num) (.int (A f).num))) H:=fun g q=>by rwa[k,k,gf]
 cases e with
 |one a=>
  cases a with
  |char g c=>exact h g q
  |kj g c n x y=>exact h g q
  |_=>exact b0 q
 |_=>exact b0 q
def gE (h:x≤60) (q:Q .none H):Y2 (cx ab (d+1) 639 [.int x] H) Q:=
 ao (fr:=(.c (.int x) .e)) rU rfl (gz (Yx.mpr h) q)
def FC:At→Prop
 | .spec b=>b.length≤1000
 |_=>True
def FE (h:d3 A) (k:FC a) (m:n≤60) (q:Q a.des H):Y2 (cx ab (d+3) 657 [jO A a,.int n] H) Q:=by
 refine ao (fr:= %[jO A a,.int n|2]) jE rfl (gE m ?_);cases a with
 |char f c=>exact AJ (R:=fun n=>Q (.aG [.int 0,.int n,.int c]) H) h q
 |kj f c p x y=>haveI q:=AJ (R:=fun n=>Q (.aG [.int 1,.int n,.int c,.aG (aq p),.int (if x then 1 else 0),.int (if y then 1 else 0)]) H) h q;induction x using Bool.casesOn<;>induction y using Bool.casesOn<;>exact q
 |lD r w=>induction r using Bool.casesOn<;>exact q
 |spec b=>exact ao (fr:= %[jO A (.spec b),.int n|3]) ik rfl (ao (fr:=(.c (jO A (.spec b)) .e)) kK rfl (au (WR k (bM aw)) q))
 |_=>exact q
def Cr {α:Type} {f:α→V} {g:α→V} {e:List α} (x:e.length≤1000000) (h: ∀a∈e,∀Q:V→Hp→Prop,Q (g a) H→Y2 (cx ab d 657 [f a,.int n] H) Q) (q:Q (.aG (e.map g)) H):
  Y2 (cx ab (d+1) 663 [.ap (e.map f),.int n] H) Q:=by
 refine ao (fr:= %[.ap (e.map f),.int n|1]) ij rfl ?_;refine cX f g e (fun a m r k=>h a m _ (k _)) ⟨by rw[WP];exact x,q⟩
def AK (h:List At):Prop:=(∀x∈h,FC x)∧h.length≤1000
def qo (x:d3 A) (h:AK e) (k:n≤60) (q:Q (.aG (e.map At.des)) H):Y2 (cx ab (d+4) 663 [gh A e,.int n] H) Q:=
 Cr (WR h.2 (bM aw)) (fun a m r p=>FE x (h.1 a m) k p) q
def dc:Nd→Prop
 | .one a=>FC a
 | .skip=>True
 | .cI a b c=>AK a∧AK b∧AK c
def NP (h:d3 A) (e:dc a) (q:Q a.des H):Y2 (cx ab (d+6) 657 [bU A a,.int 0] H) Q:=by
 cases a with
 |one a=>exact FE (n:=0) h e (aU aw) q
 |skip=>exact ao (fr:= %[bU A .skip,.int 0|2]) jE rfl (gE (aU aw) (ao (fr:=(.c wz .e)) uj rfl q))
 |cI a b c=>refine ao (fr:= %[bU A (.cI a b c),.int 0|2]) jE rfl (gE (aU aw) ?_);exact ao (fr:= %[bU A (.cI a b c),.int 0|3]) ik rfl (qo h e.1 (aU aw) (qo h e.2.1 (aU aw) (qo h e.2.2 (aU aw) q)))
def qp (e:d3 A) (x: ∀a∈h,dc a) (k:h.length≤1000000) (q:Q (.aG (h.map Nd.des)) H):Y2 (cx ab (d+7) 663 [aB A h] H) Q:=by refine ao (fr:= %[aB A h,.int 0|1]) ij rfl ?_;exact cX (bU A) Nd.des h (fun a m r n=>NP e (x a m) (n _)) ⟨by rw[WP];exact k,q⟩
end
section
variable {d:Nat}
abbrev S5:=Int×Int×Int×Int
def iw (o:Int):Bool:=o==0||o==1||o==2||o==3||o==5||o==6||o==7||o==11
def FF (h:Nat) (r:S5):Prop:=(r.2.2.1=128∧0≤r.2.2.2∧r.2.2.2<h)∨(iw r.2.2.1=true∧1≤r.2.2.2∧r.2.2.2≤3)
def nW (h:Nat):List S5→Prop
 |[]=>False
 |r::t=>FF h r∧(r.1=128∨(r.1=0∧nW h t))
def dq (h:ah) (x:Int):List S5→Option (Int×Int)
 |[]=>none
 |r::t=>if r.2.1=x then(if r.2.2.1=128 then some (0,h.getD r.2.2.2.toNat 0) else some (r.2.2.1+1,r.2.2.2)) else if r.1=0 then dq h x t else none
def yZ:dq h x (r::t)=(if r.2.1=x then(if r.2.2.1=128 then some (0,h.getD r.2.2.2.toNat 0) else some (r.2.2.1+1,r.2.2.2)) else if r.1=0 then dq h x t else none):=rfl
def FD.dI (F:FD) (l r:Int):Option (Int×Int):=if F.ct l<0∨r=256 then none else dq F.ks r (F.eY.drop (F.ct l).toNat)
def qq:Option (Int×Int)→V
 |none=> .none
 |some (a,b)=> .aG [.int a,.int b]
def FG (h:iw o=true):o≤11:=by unfold iw at h;simp only[XX,XJ] at h;rcases h with((((((rfl|rfl)|rfl)|rfl)|rfl)|rfl)|rfl)|rfl<;>exact aU aw
def Cs (h:iw o=true):(List.any [PyData.int 0,.int 1,.int 2,.int 3,.int 5,.int 6,.int 7,.int 11] fun e=>PyData.eqv e (.int o))=true:=by unfold iw at h;simp only[XX,XJ] at h;rcases h with((((((rfl|rfl)|rfl)|rfl)|rfl)|rfl)|rfl)|rfl<;>rfl
def oR (h:j<e.length):(aq e)[j]?=some (.int (e.getD j 0)):=by unfold aq;rw[Xk,WS h,List.getD_eq_getElem?_getD,WS h];rfl
theorem y3 {p:Nat} {t:List S5} (e:h.drop p=x::t):place (bY h).length p=some p∧(bY h)[p]?=some (.aG [.int x.1,.int x.2.1,.int x.2.2.1,.int x.2.2.2])∧h.drop (p+1)=t:=by
 have k:p<h.length:=by
  rcases XF p h.length with q|q
  ·exact q
  ·rw[Xp q] at e;cases(e)
 rw[Xo k] at e
 injection e with m n
 exact⟨cq (by unfold bY;rwa[WP]),by unfold bY;rw[Xk,WS k,m];rfl,n⟩
def Rj (F:FD) (r:Int) (s:Nat×Bool):Fr:= %[aJ F,_,.int r,.int s.1,.aG (bY F.eY),.bool s.2|4]
def U2 (F:FD) (r:Int) (H:Hp) (Q:V→Hp→Prop) (s:Nat×Bool):Prop:=match s.2 with
 |true=>nW F.ks.length (F.eY.drop s.1)∧Q (qq (dq F.ks r (F.eY.drop s.1))) H
 |false=>Q .none H
def V5 (F:FD) (s:Nat×Bool):Nat:=match s.2 with
 |true=>(F.eY.drop s.1).length+1
 |false=>0
theorem FH {r:Int} {p:Nat} {J:Fr→Hp→Prop} (e:F.eY.drop p=x::t) (w:FF F.ks.length x) (s:0≤x.1∧x.1≤128)
  (q:x.2.1=r→Q (qq (if x.2.2.1=128 then some (0,F.ks.getD x.2.2.2.toNat 0) else some (x.2.2.1+1,x.2.2.2))) H)
  (n:x.2.1≠r→J (Rj F r (((p:Int)+x.1+1).toNat,decide (x.1<128))) H):
  WB ab (cx ab d) [.asg (.aG [6,7,8,9]) (.bp (.af 4) (.af 3)),
   .bs (.ay true [.aE (.af 7) .eq (.af 2),.aE (.af 6) .le (.ae 58)]) [.bs (.aE (.af 8) .ge (.ae 59)) [.ret (some (.tuple [.int 0,.bp (.ai (.af 0) 23) (.aS .add (.aS .mul (.int 256) (.aS .sub (.af 8) (.ae 59))) (.af 9))]))] [],.ret (some (.tuple [.aS .add (.ite (.aE (.af 8) .g8 (.ae 99)) (.af 8) (.int 0)) (.int 1),.af 9]))] [],
   .asg (.name 5) (.aE (.af 6) .lt (.ae 58)),.asg (.name 3) (.aS .add (.aS .add (.af 3) (.af 6)) (.int 1))]
   (Rj F r (p,true)) H (dT [1,6,7,8,9] J (i8 [0,2,3,4,5,6,7,8,9] (MB ab (cx ab d) [.ret (some .none)] bn) (cp none H Q))):=by
 obtain⟨y,z,-⟩:=y3 e;refine wx y z ?_;refine bQ (fun h=>?_) fun h=>?_
 ·refine jf s.2 ?_;have q:=q h;rcases w with⟨k,m,u⟩|⟨v,-⟩
  ·rw[WY k] at q;refine jf (by rw[k];exact Zy _) ?_;refine wx (j:=x.2.2.2.toNat) ?_ (oR (by exact(ar 0x1100540151600805300804 [_] [_]) m u)) q;rw[k,show(256*(128-128)+x.2.2.2:Int)=(x.2.2.2.toNat:Int) by exact(cU 0x556a00a001009300804) m];exact cq (by unfold aq;rw[WP];exact(ar 0x1100540151600805300804 [_] [_]) m u)
  ·have:=FG v;rw[WX (by exact(cU 0x8a80842805359002) this)] at q;refine gz (by exact(cU 0x898040210b359002) this) ?_;exact wt (Cs v) q
 ·haveI n:=n h;haveI e:(p:Int)+x.1+1=(((p:Int)+x.1+1).toNat:Int):=by exact(ar 0x2ab540248004b006012400258036980842805300804 [_] [_]) s
  unfold Rj at n;rw[←e] at n;exact n
theorem y4 {r:Int} {p:Nat} (u:nW F.ks.length (F.eY.drop p)) (q:Q (qq (dq F.ks r (F.eY.drop p))) H):WB ab (cx ab d) (f_look.body.drop 5) (Rj F r (p,true)) H (cp none H Q):=by
 refine ce (Rj F r) (fun ξ=>H) (U2 F r H Q) (V5 F) (fun s v=>?_) (p,true) ⟨u,q⟩;obtain⟨p,g⟩:=s;cases g with
 |false=>exact v
 |true=>
  change nW F.ks.length (F.eY.drop p)∧Q (qq (dq F.ks r (F.eY.drop p))) H at v;obtain⟨n,k⟩:=v;cases e:F.eY.drop p with
  |nil=>rw[e] at n;exact n.elim
  |cons x t=>
   rw[e] at n k;obtain⟨y,m⟩:=n;change Q (qq (if x.2.1=r then(if x.2.2.1=128 then some (0,F.ks.getD x.2.2.2.toNat 0) else some (x.2.2.1+1,x.2.2.2)) else if x.1=0 then dq F.ks r t else none)) H at k;refine FH e y (by lia) (fun h=>by rw[WY h] at k;exact k) fun h=> .mk _ ?_;rw[WX h] at k;rcases m with m|⟨m,u⟩
   ·rw[m] at k⊢;exact⟨by unfold V5;rw[e];exact YN _,k⟩
   ·rw[WY m] at k;rw[m,show((p:Int)+0+1).toNat=p+1 by exact(bC 0x94023005500920022c01)];have w:=(y3 e).2.2;exact⟨by show(F.eY.drop (p+1)).length+1<(F.eY.drop p).length+1;rw[w,e];exact Xr _,by show nW _ (F.eY.drop (p+1))∧Q (qq (dq F.ks r (F.eY.drop (p+1)))) H;rw[w];exact⟨u,k⟩⟩
theorem Jk {l r:Int} (h:0≤F.ct l→nW F.ks.length (F.eY.drop (F.ct l).toNat)) (q:Q (qq (F.dI l r)) H):
  Y2 (cx ab (d+2) 671 [aJ F,.int l,.int r] H) Q:=by
 refine ao (fr:= %[aJ F,.int l,.int r|7]) L5 rfl ?_;refine tf ?_;unfold FD.dI at q;refine bV (fun m=>?_) fun m=>?_
 ·rw[WY (.inl m)] at q;exact q
 refine bQ (fun n=>?_) fun n=>?_
 ·rw[WY (.inr n)] at q;exact q
 rw[WX (by rintro(a|a);exact m a;exact n a)] at q;have h:=h (Yx.mp m);haveI e:F.ct l=((F.ct l).toNat:Int):=by exact(cU 0x155a8020091401002) m
 generalize (F.ct l).toNat=p at h q e;rw[e];have k:=y4 (d:=d+1) h q;cases e:F.eY.drop p with
 |nil=>rw[e] at h;exact h.elim
 |cons x t=>obtain⟨s,u,-⟩:=y3 e;refine qk (fun v=>?_) fun v=>k;refine wx s u ?_;rw[e] at h;exact gz (by haveI:=h.2;lia) k
end
section
variable {fd:Fs}
def jR:lp .eq (.ap h) (.ap [])=some h.isEmpty:=by induction h using List.casesOn<;>rfl
abbrev xT:=Int×ah×Bool
def vo (i:xT):V:= .aG [.int i.1,.aG (aq i.2.1),.bool i.2.2]
def Ct:Option xT→V
 |none=> .none
 |some i=>vo i
structure fO where
 wait:List xT
 now:Option xT
 edge:Int
 found:List At
 hl:Bool
 hr:Bool
 going:Bool
abbrev OT:aL:=[12,48,47,49,50,51,52,46]
abbrev wH (w h e:Nat) (x k m:aN) (H:Hp):Hp:= .c e (.list x) (.c h (.list k) (.c w (.inst 686 OT m) H))
structure AL where
 w:Nat
 lw:Nat
 lf:Nat
 fw:lf≠lw
 ff:lf≠w
 ww:lw≠w
def Rk:Nonempty AL:=⟨⟨0,1,2,by exact aU aw,by exact aU aw,by exact aU aw⟩⟩
def WH (fd:Fs) (f:Bool) (a:AL) (st:fO) (H:Hp):Hp:=
 wH a.w a.lw a.lf (st.found.map (jO fd)) (st.wait.reverse.map vo) [aJ (fd f),.ref a.lw,Ct st.now,.int st.edge,.ref a.lf,.bool st.hl,.bool st.hr,.bool st.going] H
variable {a:AL}
def Rl:an (wH a.w a.lw a.lf e x h H) a.w=some (.inst 686 OT h):=(aD a.ff).trans ((aD a.ww).trans ba)
def FI:an (wH a.w a.lw a.lf e h x H) a.lw=some (.list h):=(aD a.fw).trans ba
def Rm:cz (wH a.w a.lw a.lf e x k H) a.w (.inst 686 OT h)=wH a.w a.lw a.lf e x h H:=by rw[b8 a.ff,b8 a.ww,b7]
def FJ:cz (wH a.w a.lw a.lf e k x H) a.lw (.list h)=wH a.w a.lw a.lf e h x H:=by rw[b8 a.fw,b7]
def fP {K:Nat→aL→aN→Prop} (q:K 686 OT h):Yi (an (wH a.w a.lw a.lf e x h H) a.w) K:=cf Rl q
def tg {K:V→Prop} (q:K (.ap h)):Yr (an (wH a.w a.lw a.lf e h x H) a.lw) K:=ql FI q
def FK {K:aN→Prop} (q:K h):Yl (an (wH a.w a.lw a.lf e h x H) a.lw) K:=Fw FI q
def qr {k:Kt} {st:aN} {Q:cy} (p: ∀K,vl n v OT e K=K OT h) (q:k st r (wH a.w a.lw a.lf x m h H) Q):
  Yi (an (wH a.w a.lw a.lf x m e H) a.w) (rF n v a.w k st r (wH a.w a.lw a.lf x m e H) Q):=
 fP ⟨by exact bM aw,by rw[p,Rm];exact q⟩
def cY (f:Bool) (st:fO):fO:=match st.now with
 |none=>st
 |some i=>match i.2.2 with
  |true=>{st with found:=st.found++[.kj f i.1 i.2.1 st.hl (st.hr&&st.wait.isEmpty)],hl:=false}
  |false=>{st with found:=st.found++[.char f i.1]}
def bt (f:Bool) (st:fO):fO:=match(cY f st).wait with
 |[]=>{cY f st with going:=false}
 |x::t=>{cY f st with wait:=t,now:=some x}
def U3 (i:xT):Prop:=(0≤i.1∧i.1≤255)∧(∀p∈i.2.1,0≤p∧p≤255)∧i.2.1.length≤1000
structure Hv (st:fO):Prop where
 now: ∀i,st.now=some i→U3 i
 wait:st.wait.length≤1000
 found:st.found.length≤10000
def Jl (h:0≤c∧c≤255) (x: ∀p∈e,0≤p∧p≤255) (k:e.length≤1000) (n:gU u=some (aq e)) (q:Q (jO fd (.kj f c e l r)) H):
  Y2 (cx ab (d+4) 501 [aJ (fd f),.int c,u,.bool l,.bool r] H) Q:=by
 refine cD iM.2 iM.1 rfl fun b t=>?_;refine ao (fr:= %[(_),aJ (fd f),.int c,u,.bool l,.bool r|1]) jC rfl (aP rfl (d0 h (aP rfl (bj n (cX V.int V.int e (fun p m w s=>d0 (x p m) (s _)) ⟨?_,?_⟩)))))
 ·rw[WP];exact WR k (bM aw)
 ·exact aP rfl (aP rfl (aP rfl (jP rfl q)))
@[reducible] def Jm (d : Nat) (H : Hp) (Q : V → Hp → Prop) (fd : Fs) (a : AL) (f : Bool) : Prop := ∀ {st : fO} (h : Hv st) (q : Q .none (WH fd f a (cY f st) H)), Y2 (cx ab (d+5) 697 [.ref a.w] (WH fd f a st H)) Q
abbrev Jn:List Type:=[Nat,Hp,V→Hp→Prop,Fs,AL,Bool]
def Ro:=eV Jn Jm ⟨nI,Ab,nI,Hu,Rk,nI,trivial⟩
def U4:eU Jn Jm Ro:=by
 injections Ro d H Q fd a f;change Jm d H Q fd a f;intro st b q;refine ao (fr:= %[.ref a.w|3]) HI rfl ?_;obtain⟨n,u,s,k,l,r,p⟩:=st;have t:(k.map (jO fd)).length<bz:=by rw[WP];exact W9 b.found (bM aw)
 haveI y: ∀{x},Q .none (WH fd f a ⟨n,u,s,k++[x],l,r,p⟩ H)→Q .none (wH a.w a.lw a.lf (k.map (jO fd)++[jO fd x]) (n.reverse.map vo) [aJ (fd f),.ref a.lw,Ct u,.int s,.ref a.lf,.bool l,.bool r,.bool p] H):=fun{x} q=>by
  haveI e:k.map (jO fd)++[jO fd x]=(k++[x]).map (jO fd):=by rw[WU];rfl
  rwa[e]
 refine fP ?_;cases u with
 |none=>exact q
 |some i=>
  obtain⟨o,C,D⟩:=b.now _ rfl;obtain⟨c,w,m⟩:=i;refine fP ?_;cases m with
  |true=>
   refine fP (dE ?_);refine fP (fP ?_);refine fP ?_;have z: ∀g,g=(r&&n.isEmpty)→Y2 (cx ab (d+4) 501 [aJ (fd f),.int c,.aG (aq w),.bool l,.bool g] (WH fd f a ⟨n,some (c,w,true),s,k,l,r,p⟩ H)) fun v A=>
     OM A (.ref a.lf) fun x B=>B.length<bz∧K1 (MB ab (cx ab (d+4)) [.asg (.ai (.af 0) 51) .fls] bn) [.none] %[.ref a.w,.int c,.aG (aq w),.bool true|0] (cz A x (.list (B++[v]))) (cp none (WH fd f a ⟨n,some (c,w,true),s,k,l,r,p⟩ H) Q):=fun g j=>by
    refine Jl o C D rfl (fN t ?_);refine qr (fun ξ=>rfl) ?_;haveI e:k.map (jO fd)++[jO fd (At.kj f c w l g)]=(k++[At.kj f c w l g]).map (jO fd):=by rw[WU];rfl
    rwa[e,j]
   refine gy (fun(h:r=true)=>?_) fun(h:r=false)=>z false (by rw[h];rfl);refine fP (tg ?_);refine bj jR ?_;exact z _ (by rw[h];induction n using List.casesOn<;>simp)
  |false=>refine fP (dE ?_);refine fP (qn o ?_);exact fN t (y q)
def FL:eB Jn Jm:=eA Jn U4
end
section
variable {a:AL} {st:fO}
def jS:(cY f st).wait=st.wait:=by
 obtain⟨k,h,n,e,l,r,x⟩:=st;cases h with
 |none=>rfl
 |some i=>obtain⟨c,p,m⟩:=i;induction m using Bool.casesOn<;>rfl
def pop_list:(x::t).reverse.map vo=t.reverse.map vo++[vo x]:=by rw[XU,WU];rfl
def FM {k:Kt} {Q:cy} {a:AL} (p:t.length≤1000) (q:k (vo x::r) s (wH a.w a.lw a.lf h (t.reverse.map vo) e H) Q):
  Yl (an (wH a.w a.lw a.lf h ((x::t).reverse.map vo) e H) a.lw) fun m=> ∃n v,m=n++[v]∧m.length<bz∧k (v::r) s (cz (wH a.w a.lw a.lf h ((x::t).reverse.map vo) e H) a.lw (.list n)) Q:=
 FK ⟨_,_,pop_list,by rw[WP,Xi];exact W9 (XK p) (bM aw),by rw[FJ];exact q⟩
def NQ {k:Kt} {Q:cy} {a:AL} (n:t.length≤1000) (q:k (.none::p) r (wH a.w a.lw a.lf h ((x::t).reverse.map vo) e H) Q):
  Yl (an (wH a.w a.lw a.lf h (t.reverse.map vo) e H) a.lw) fun m=>m.length<bz∧k (.none::p) r (cz (wH a.w a.lw a.lf h (t.reverse.map vo) e H) a.lw (.list (m++[vo x]))) Q:=
 FK ⟨by rw[WP,Xi];exact W9 n (bM aw),by rw[FJ,←pop_list];exact q⟩
def uS (n:Hv st) (q:Q .none (WH u f a (bt f st) H)):Y2 (cx ab (d+6) 704 [.ref a.w] (WH u f a st H)) Q:=by
 refine ao (fr:=(.c (.ref a.w) .e)) BG rfl (FL n ?_);unfold bt at q;haveI e:=n.wait;rw[←jS (f:=f)] at e;generalize cY f st=s at q e⊢;obtain⟨h,v,p,k,l,r,m⟩:=s;refine fP (tg ?_);refine bj jR ?_;cases h with
 |nil=>exact qr (fun ξ=>rfl) q
 |cons x t=>refine iv (by simp) (fP ?_);refine FK (FM (aah e) ?_);exact qr (fun ξ=>rfl) q
def iter {α:Type} (g:α→α):Nat→α→α
 |0,a=>a
 |n+1,a=>iter g n (g a)
theorem ti {α:Type} {g:α→α}: ∀(m:Nat) (s:α),iter g (m+1) s=g (iter g m s)
 |0,_=>rfl
 |m+1,s=>ti m (g s)
def AM (r:0≤h∧h≤11) (t:m.get 1=some (.int h)) (u:m.er [1,2,3,4,5,6,7,8,9]= %[.ref a.w|9]) (v: ∀k,k<(h/4).toNat→Hv (iter (bt f) k st)) (q:Q .none (WH n f a (iter (bt f) (h/4).toNat st) H)):
  WB ab (cx ab (d+6)) (ch.body.drop 8) m (WH n f a st H) (cp none H Q):=by
 refine bj t ?_;refine au (by unfold bz;exact(O7 0x2201c8b02f8ab08ad6a108214c42012a014042410a115a6b2005300804) r (dZ _ 4)) ((W4 (fun m=>Y3 (rE _ _ _ (cG 0 (h/4)) m _) _) u).mpr ?_);refine bL V.int (fun ξ=> %[.ref a.w|9]) (fun s=>WH n f a (iter (bt f) s st) H) (fun p s=>p.length+s=(h/4).toNat) (fun s e=>?_) (fun x p s e=>?_) _ 0 (by rw[dY,Z5];rfl)
 ·rw[XO,X2] at e;rwa[e]
 ·rw[W0] at e;refine uS (v s ((ar 0x11500410dad42102298440254428044821402928028043008c01 [_,_] [_,_,_]) e (dZ _ 4))) ?_;rw[←ti (g:=bt f)];exact .mk (s+1) ((ar 0x494014201184200dad42102298440254428044821402928028043008c01 [_,_] [_,_,_]) e (dZ _ 4))
def r6 (e:Bool) (c:Int) (h:ah) (st:fO):fO:=match e with
 |true=>{st with wait:=(c,h,true)::st.wait}
 |false=>{st with now:=some (c,h,true)}
def FN (p:0≤h∧h≤11) {nw:V} (v:st.wait.length≤999) (s: ∀k,k<(h/4).toNat→Hv (iter (bt f) k (r6 e c ps st)))
  (q:Q .none (WH w f a (iter (bt f) (h/4).toNat (r6 e c ps st)) H)):
  WB ab (cx ab (d+6)) (ch.body.drop 6) %[.ref a.w,.int h,.int c,nw,.bool e,z,.aG (aq ps)|3] (WH w f a st H) (cp none H Q):=by
 obtain⟨t,y,u,m,l,r,n⟩:=st;cases e with
 |true=>refine fP (FK ?_);exact NQ (x:=(c,ps,true)) (XZ v) (AM p rfl rfl s q)
 |false=>exact qr (fun ξ=>rfl) (AM p rfl rfl s q)
def mB (e:Bool) (h:ah) (st:fO):fO×ah:=match e with
 |true=>(st,h)
 |false=>match st.wait with
  |[]=>({st with edge:=256},h)
  |x::t=>({st with wait:=t},h++x.2.1)
def Rp (w:0≤u∧u≤11) {nw:V} (v:st.wait.length≤999) (y:ps.length≤1000) (z: ∀i∈st.wait,i.2.1.length≤1000)
  (g: ∀k,k<(u/4).toNat→Hv (iter (bt f) k (r6 kl c (mB kr ps st).2 (mB kr ps st).1))) (q:Q .none (WH fd f a (iter (bt f) (u/4).toNat (r6 kl c (mB kr ps st).2 (mB kr ps st).1)) H)):
  WB ab (cx ab (d+6)) (ch.body.drop 4) %[.ref a.w,.int u,.int c,nw,.bool kl,.bool kr,.aG (aq ps)|3] (WH fd f a st H) (cp none H Q):=by
 cases kr with
 |true=>exact FN w v g q
 |false=>
  obtain⟨n,p,s,h,l,r,m⟩:=st;refine fP (tg ?_);refine bj jR ?_;cases n with
  |nil=>exact qr (fun ξ=>rfl) (FN (st:=⟨[],p,256,h,l,r,m⟩) w v g q)
  |cons x t=>refine iv (by simp) (fP ?_);refine FK (FM (XZ (aah v)) ?_);refine au (by haveI:=z x (Xh ..);unfold aq;rw[WP,WP];exact WR (Nat.add_le_add y this) (bM aw)) ?_;haveI e:aq ps++aq x.2.1=aq (ps++x.2.1):=WU.symm;rw[e];exact FN (st:=⟨t,p,s,h,l,r,m⟩) (ps:=ps++x.2.1) w (aah v) g q
def lE (st:fO):fO:=match st.now with
 |none=>{st with hl:=true}
 |some _=>match st.wait with
  |[]=>{st with hr:=true}
  |_::_=>st
def kL (h:Bool) (st:fO):ah:=match st.now with
 |some i=>match h with
  |true=>[]
  |false=>i.2.1
 |none=>[]
def jo (h c:Int) (st:fO):fO:=
 let b:=mB (h%2==1) (kL (h/2%2==1) st) (lE st)
 r6 (h/2%2==1) c b.2 b.1
def wC (f:Bool) (h c:Int) (st:fO):fO:=iter (bt f) (h/4).toNat (jo h c st)
def NR (b:0≤h∧h≤11) (C:st.wait.length≤999) (o: ∀i,st.now=some i→i.2.1.length≤1000) (A: ∀i∈st.wait,i.2.1.length≤1000) (y: ∀k,k<(h/4).toNat→Hv (iter (bt f) k (jo h c st)))
  (q:Q .none (WH p f a (wC f h c st) H)):Y2 (cx ab (d+7) 711 [.ref a.w,.int h,.int c] (WH p f a st H)) Q:=by
 refine ao (fr:= %[.ref a.w,.int h,.int c|7]) rQ rfl ?_;haveI m:WB ab (cx ab (d+6)) (ch.body.drop 2) %[.ref a.w,.int h,.int c,Ct st.now|6] (WH p f a (lE st) H) (cp none (WH p f a st H) Q):=by
  show WB ab (cx ab (d+6)) (ch.body.drop 3) %[.ref a.w,.int h,.int c,Ct st.now,.bool (PyData.eqv (.int (h/2%2)) (.int 1)),.bool (PyData.eqv (.int (h%2)) (.int 1))|4] _ _;rw[gf,gf];have z:(lE st).wait=st.wait:=by unfold lE;cases st.now with
   |none=>rfl
   |some _=>induction e:st.wait using List.casesOn<;>first|exact e|rfl
  have n:=Rp (Q:=Q) (nw:=Ct st.now) (H:=H) (fd:=p) (f:=f) (a:=a) (d:=d) (st:=lE st) b (kl:=h/2%2==1) (kr:=h%2==1) (ps:=kL (h/2%2==1) st) (c:=c) (by rwa[z]) (by
   unfold kL;cases e:st.now with
   |none=>exact W8 _
   |some i=>
    show(match(h/2%2==1) with|true=>[]|false=>i.2.1:ah).length≤1000;induction(h/2%2==1) using Bool.casesOn
    ·exact o i e
    ·exact W8 _) (by rwa[z]) y q
  clear q y;unfold kL at n;have n:WB ab (cx ab (d+6)) (ch.body.drop 4) _ _ (cp none H Q):=n;change WB ab (cx ab (d+6)) (ch.body.drop 3) %[(_),(_),(_),(_),.bool (h/2%2==1),.bool (h%2==1)|4] _ (cp none H Q);generalize (h/2%2==1)=g at n⊢;generalize (h%2==1)=B at n⊢;cases e:st.now with
  |none=>rw[e] at n;exact n
  |some i=>rw[e] at n;induction g using Bool.casesOn<;>exact n
 obtain⟨s,u,j,v,l,r,w⟩:=st;refine fP ?_;cases u with
 |none=>exact qr (fun ξ=>rfl) m
 |some i=>
  refine fP (tg ?_);refine bj jR ?_;cases s with
  |nil=>exact qr (fun ξ=>rfl) m
  |cons x t=>exact iv (by simp) m
end
section
variable {d:Nat} {H:Hp} {fd:Fs} {f:Bool}
def qs {a:Nat} {e:aL} {k:Kt} {st:aN} {Q:cy} (h:b≠a) (m:Nat.blt e.length 60=true) (q:vl n v e x fun e x=>k st p (.c b o (.c a (.inst c e x) H)) Q):
  Yi (an (.c b o (.c a (.inst c e x) H)) a) (rF n v a k st p (.c b o (.c a (.inst c e x) H)) Q):=
 cf ((aD h).trans ba) ⟨Yk m,by simp only[b8 h,b7];exact q⟩
def tj {a:Nat} {e:aL} {k:Kt} {st:aN} {Q:cy} (p:m≠a) (h:b≠a) (s:Nat.blt e.length 60=true) (q:vl n v e x fun e x=>k st t (.c m r (.c b o (.c a (.inst c e x) H))) Q):
  Yi (an (.c m r (.c b o (.c a (.inst c e x) H))) a) (rF n v a k st t (.c m r (.c b o (.c a (.inst c e x) H))) Q):=
 cf ((aD p).trans ((aD h).trans ba)) ⟨Yk s,by simp only[b8 p,b8 h,b7];exact q⟩
def cZ (c:Int):xT:=(c,[c],false)
def tm (h:ah) (x:Bool) (e:Int):fO:=match x with
 |true=>⟨h.map cZ,none,e,[],false,false,true⟩
 |false=>⟨(h.map cZ).tail,(h.map cZ).head?,e,[],false,false,true⟩
def tn {a:Nat} (h:b≠a) (q: ∀x:AL,x.w=a→Q (.ref a) (WH fd f x ⟨wait,now,e,[],false,false,true⟩ H)):
  WB ab (cx ab d) (lq.body.drop 3) %[.ref a,r,.ap (aq codes),.bool m,.int e|1]
   (.c b (.list (wait.reverse.map vo)) (.c a (.inst 686 [12,48,47] [aJ (fd f),.ref b,Ct now]) H)) (cp none H (BA false a H Q)):=by
 refine qs h rfl fun c p=>?_;have n:=cb p;have k:=cb n.2;refine tj k.1.symm h rfl (tj k.1.symm h rfl (tj k.1.symm h rfl (tj k.1.symm h rfl ?_)));exact q ⟨a,b,c,n.1.symm,k.1.symm,h⟩ rfl
def FO (v:h≠[]) (u:h.length≤900) (q: ∀a:AL,Q (.ref a.w) (WH fd f a (tm h e k) H)):
  Y2 (cx ab (d+2) 686 [aJ (fd f),.ap (aq h),.bool e,.int k] H) Q:=by
 refine cD DO.2 DO.1 rfl fun a i=>?_;refine ao (fr:= %[(_),aJ (fd f),.ap (aq h),.bool e,.int k|1]) ym rfl (aP rfl ?_);have p:(aq h).reverse=h.reverse.map V.int:=by unfold aq;rw[YV]
 refine(W4 (fun l=>nL (fun w ξ=>w) _ _ l _ _ _) p).mpr ?_;refine cX V.int (fun c=>vo (cZ c)) h.reverse (fun c m o y=>y _) ⟨by rw[WP,Xi];exact WR u (bM aw),fun b z=>?_⟩;have n:=(cb z).1.symm;have g:h.reverse.map (fun c=>vo (cZ c))=(h.map cZ).reverse.map vo:=by rw[←YV,XW];rfl
 rw[g];refine qs n rfl ?_;cases e with
 |true=>refine qs n rfl ?_;exact tn (wait:=h.map cZ) (now:=none) n fun x p=>by subst p;exact q x
 |false=>
  cases h with
  |nil=>exact absurd rfl v
  |cons c t=>refine cf ((aD n).trans ba) (dE ?_);refine dE ⟨_,_,pop_list (x:=cZ c) (t:=t.map cZ),by rw[WP,Xi,WP];exact W9 u (bM aw),?_⟩;rw[b7];refine qs n rfl ?_;exact tn (wait:=t.map cZ) (now:=some (cZ c)) (codes:=c::t) n fun x p=>by subst p;exact q x
structure hP (F:FD):Prop where
 U5: ∀c,0≤F.ct c→nW F.ks.length (F.eY.drop (F.ct c).toNat)
 ks: ∀x∈F.ks,-1073741823≤x∧x≤1073741823
def gF (st:fO):Int:=match st.now with
 |none=>256
 |some i=>i.1
def d7 (st:fO):Int:=match st.wait with
 |[]=>st.edge
 |x::_=>x.1
def lc (f:Bool) (x:Int) (st:fO):fO:={bt f st with found:=(bt f st).found++[.cJ x 0]}
def jg (F:FD) (f:Bool) (st:fO) (h:Nat):Option (fO×Nat):=match F.dI (gF st) (d7 st) with
 |none=>some (bt f st,h)
 |some (k,x)=>if k=0 then some (lc f x st,h) else match h with
  |0=>none
  |s+1=>some (wC f (k-1) x st,s)
structure FP (F:FD) (f:Bool) (st:fO):Prop where
 ok:Hv st
 room:st.wait.length≤999
 U6:(bt f st).found.length≤10000
 cJ: ∀x,F.dI (gF st) (d7 st)=some (0,x)→ -1073741823≤x∧x≤1073741823
 vl: ∀k x,F.dI (gF st) (d7 st)=some (k,x)→k≠0→(1≤k∧k≤12)∧(∀i∈st.wait,i.2.1.length≤1000)∧ ∀j,j<((k-1)/4).toNat→Hv (iter (bt f) j (jo (k-1) x st))
def g6 (F:FD) (f:Bool):Nat→fO→Nat→List At→Prop
 |0,_,_,_=>False
 |n+1,st,h,e=>if st.going then FP F f st∧ ∃x k,jg F f st h=some (x,k)∧g6 F f n x k e else e=st.found
theorem y5 {α:Type} {h:List α} {x:α}:place (h++[x]).length (-1)=some h.length:=by unfold place;rw[WO,XR,WX (by exact aU aw),WY (by exact(bC 0x1382e011802a09004))];congr 1;exact(bC 0x2400aa0b804600a824)
def wD {Q:V→Prop} (q:Q x):Y1 (fK (.ap (h++[x])) (.int (-1))) Q:=
 fY y5 (by rw[Xn (Xl _),YE];rfl) q
def U7 (fd:Fs) (f:Bool) (a:AL) (s:Nat×fO×Nat):Fr:= %[aJ (fd f),_,_,_,.ref a.w,.int s.2.2|3]
variable {a:AL}
def Jo {st:fO} {m:Kt} (e:fr.get 4=some (.ref a.w)) (r:m (.int (gF st)::q) fr (WH fd f a st H) s):
  ME ab (cx ab d) (.ite (.aE (.ai (.af 4) 47) .is .none) (.ae 46) (.bp (.ai (.af 4) 47) (.int 0))) m q fr (WH fd f a st H) s:=by
 refine bj (o:=fr.get 4) e (fP ?_);obtain⟨n,h,p,x,l,t,k⟩:=st;cases h with
 |none=>exact r
 |some i=>exact bj (o:=fr.get 4) e (fP r)
def FQ {st:fO} {n:Kt} (e:fr.get 4=some (.ref a.w)) (r:n (.int (d7 st)::q) fr (WH fd f a st H) s):
  ME ab (cx ab d) (.ite (.aE (.ai (.af 4) 48) .eq (.list [])) (.ai (.af 4) 49) (.bp (.bp (.ai (.af 4) 48) (.neg (.int 1))) (.int 0))) n q fr (WH fd f a st H) s:=by
 refine bj (o:=fr.get 4) e (fP ?_);refine tg (bj jR ?_);obtain⟨h,u,p,k,l,v,m⟩:=st;cases h with
 |nil=>exact bj (o:=fr.get 4) e (fP r)
 |cons x t=>refine iv (by simp) (bj (o:=fr.get 4) e ?_);refine fP (tg ?_);rw[pop_list];exact wD r
def Wz (fd:Fs) (f:Bool) (h:List At) (s:Nat×fO×Nat):Prop:=g6 (fd f) f s.1 s.2.1 s.2.2 h
@[reducible] def Jp (d : Nat) (H : Hp) (Q : V → Hp → Prop) (fd : Fs) (f : Bool) (a : AL) (e : List At) : Prop := ∀ (k : hP (fd f)) (q : ∀ x, x.found = e → Q (.ref a.lf) (WH fd f a x H)) (m : Nat) (st : fO) (h : Nat) (n : g6 (fd f) f m st h e), WB ab (cx ab (d+8)) (eF.body.drop 3) (U7 fd f a (m, st, h)) (WH fd f a st H) (cp none H Q)
abbrev NS:List Type:=[Nat,Hp,V→Hp→Prop,Fs,Bool,AL,List At]
def Rq:=eV NS Jp ⟨nI,Ab,nI,Hu,nI,Rk,nI,trivial⟩
def U8:eU NS Jp Rq:=by
 injections Rq d H Q fd f a u;change Jp d H Q fd f a u;intro b q m st h n;refine ce (U7 fd f a) (fun s=>WH fd f a s.2.1 H) (Wz fd f u) (fun s=>s.1) (fun s n=>?_) (m,st,h) n;obtain⟨k,st,h⟩:=s;refine fP ?_;cases k with
 |zero=>exact n.elim
 |succ k=>
  change(if st.going then FP (fd f) f st∧ ∃v w,jg (fd f) f st h=some (v,w)∧g6 (fd f) f k v w u else u=st.found) at n;refine gy (fun l=>?_) fun l=>?_
  ·rw[WY l] at n;obtain⟨y,v,w,r,n⟩:=n;refine Jo (fr:=U7 fd f a (k+1,st,h)) rfl (FQ (fr:= %[aJ (fd f),_,_,_,.ref a.w,.int h,.int (gF st)|2]) rfl ?_);refine Jk (b.U5 _) ?_;unfold jg at r;cases j:(fd f).dI (gF st) (d7 st) with
   |none=>
    rw[j] at r;cases(r)
    exact uS y.ok (.mk (k,bt f st,h) ⟨Xr k,n⟩)
   |some p=>
    obtain⟨z,x⟩:=p;rw[j] at r;by_cases g:z=0
    ·subst g;cases(r)
     refine uS y.ok (fP ?_);refine dE (jQ (fd:=fd) (y.cJ x j) (aU aw) ?_);refine fN (by rw[WP];exact W9 y.U6 (bM aw)) ?_;haveI e:(bt f st).found.map (jO fd)++[jO fd (At.cJ x 0)]=(lc f x st).found.map (jO fd):=by unfold lc;rw[WU];rfl
     rw[e];exact .mk (k,lc f x st,h) ⟨Xr k,n⟩
    ·refine bQ (fun e=>absurd e g) fun ξ=>?_;cases h with
     |zero=>change(if z=0 then _ else none)=_ at r;rw[WX g] at r;exact bH r
     |succ t=>
      change(if z=0 then _ else some (wC f (z-1) x st,t))=_ at r;rw[WX g] at r;cases(r)
      obtain⟨o,A,B⟩:=y.vl z x j g;haveI e:((w+1:Nat):Int)-1=(w:Nat):=by exact(bC 0x15580310917008c01)
      refine NR ((cU 0xb4d648848014e212004025a6c2005300824) o) y.room (fun i e=>(y.ok.now i e).2.2) A B ?_;show Lo _ _ _ %[(_),_,_,_,(_),.int (((w+1:Nat):Int)-1)|3] _;rw[e];exact .mk (k,wC f (z-1) x st,w) ⟨Xr k,n⟩
  ·rw[WX (by rw[l];exact W5)] at n;exact fP (q st n.symm)
def U9:Prop:= ∀⦃d H Q fd f a h⦄,Jp d H Q fd f a h
def y6:U9:=eA NS U8
def lF (F:FD) (f:Bool) (h:ah) (e:Bool) (x:Int) (k:List At):Prop:=
 (h=[]∧k=[])∨(h≠[]∧ ∃m,m<10000∧g6 F f m (tm h (e&&decide (0≤F.ct 256)) x) (20*(h.length+1)) k)
def hQ (y:hP (fd f)) (z:h.length≤900) (g:lF (fd f) f h x k r) (q:Q (gh fd r) H):
  Y2 (cx ab (d+9) 718 [aJ (fd f),.ap (aq h),.bool x,.int k] H) Q:=by
 refine ao (fr:= %[aJ (fd f),.ap (aq h),.bool x,.int k|5]) uk rfl (bj jR ?_);rcases g with⟨rfl,rfl⟩|⟨u,m,l,i⟩
 ·exact⟨.e,H,rfl,q⟩
 ·refine iv (by induction h using List.casesOn with|nil=>exact absurd rfl u|cons a t=>rfl) ?_;haveI n:Y2 (cx ab (d+8) 686 [aJ (fd f),.ap (aq h),.bool (x&&decide (0≤(fd f).ct 256)),.int k] H) fun v s=>
    WB ab (cx ab (d+8)) (eF.body.drop 2) %[aJ (fd f),.ap (aq h),.bool x,.int k,v|4] s (cp (some 1) H Q):=by
   refine FO u z fun a=>?_;show WB ab (cx ab (d+8)) (eF.body.drop 3) %[(_),(_),(_),(_),(_),.int (20*(((aq h).length:Nat)+1:Int))|3] _ _;haveI e:(20*(((aq h).length:Nat)+1:Int))=((20*(h.length+1):Nat):Int):=by unfold aq;rw[WP];exact(bC 0x5568a160118028a160122c01)
   rw[e];refine y6 (Q:=fun v s=> ∃T w:Hp,s=T.Hl w∧Q (fg 1 T v) w) y (fun p e=>⟨WH fd f a p .e,H,rfl,?_⟩) m _ (20*(h.length+1)) i;haveI:fg 1 (WH fd f a p .e) (.ref a.lf)=gh fd p.found:=by show(match an _ a.lf with|some o=>_|none=>_:V)=_;unfold WH;rw[ba];rfl
   rwa[this,e]
  cases x with
  |false=>exact n
  |true=>exact tf n
end
section
variable {A:Fs}
def kM (F:FD) (f r:Bool):ah→Bool→ah→List At→Prop
 |piece,e,[],h=>lF F f piece e (if r then F.bound else 256) h
 |piece,e,c::x,h=>if F.eG c then kM F f r (piece++[c]) e x h else∃a b,lF F f piece e 256 a∧kM F f r [] true x b∧h=a++b
def NT:kM F f r h x (c::k) e=(if F.eG c then kM F f r (h++[c]) x k e else∃a b,lF F f h x 256 a∧kM F f r [] true k b∧e=a++b):=rfl
abbrev U':=Nat×Bool×ah×List At
def S6 (A:Fs) (f r:Bool) (h:Nat) (s:U'):Fr:= %[aJ (A f),_,_,.bool r,_,.ref h,.ref s.1,.bool s.2.1|0]
def S7 (A:Fs) (h:Nat) (H:Hp) (s:U'):Hp:= .c s.1 (.list (aq s.2.2.1)) (.c h (.list (s.2.2.2.map (jO A))) H)
def S8 (A:Fs) (f r:Bool) (e:List At) (x:ah) (s:U'):Prop:=s.2.2.1.length+x.length≤900∧ ∃h,kM (A f) f r s.2.2.1 s.2.1 x h∧e=s.2.2.2++h
def y7 {k:Kt} {st:aN} (h:(e++x).length≤900000) (q:k (.none::st) m (.c a (.list ((e++x).map (jO A))) H) n):
  DD k (gh A x:: .ref a::st) m (.c a (.list (e.map (jO A))) H) n:=
 gA rfl (by rw[WP,WP,←WO];exact W9 h (bM aw)) (by rwa[←WU])
def AN {T:Hp}:fg 1 (.c a (.list h) T) (.ref a)= .ap h:=by show(match an _ a with|some o=>_|none=>_:V)=_;rw[ba]
def qt (q:Q (.ap h) H):rG (some 1) Q (.ref a) (.c a (.list h) H):=⟨.c a (.list h) .e,H,rfl,by rw[AN];exact q⟩
def Jq (m:hP (A f)) (e:x.length≤900000) (q:Q (gh A x) H) (h:S8 A f r x [] s):
  MB ab (cx ab (d+9)) (vC.body.drop 5) bn [] (S6 A f r u s) (S7 A u H s) (cp (some 1) H Q):=by
 obtain⟨w,y,k,v⟩:=s;obtain⟨n,p,t,rfl⟩:=h;refine iU (dE ?_);cases r with
 |false=>exact hQ m n t (y7 e (qt q))
 |true=>exact hQ m n t (y7 e (qt q))
def FR (i:hP (A f)) (k:m.length≤900000) (h:S8 A f r m (c::u) s):
  MA ab (cx ab (d+9)) (.name 4) (MB ab (cx ab (d+9)) [.bs (.dM (.af 0) 13 [.af 4]) [.expr (.bS (.af 6) .append [.af 4]),.cont] [],.rB 6,.expr (.bS (.af 5) .cN [.call (.ae 93) [.af 0,.af 6,.af 7,.ae 46]]),.asg (.name 6) (.mut (.list [])),.asg (.name 7) .tru] bn) [.int c] (S6 A f r v s) (S7 A v H s)
   (dT [1,2,4] (Lo (S6 A f r v) (S7 A v H) (S8 A f r m u)) R):=by
 obtain⟨j,l,x,n⟩:=s;obtain⟨p,q,t,rfl⟩:=h;refine yY ?_;rw[NT] at t;change x.length+(u.length+1)≤900 at p;refine gy (fun w=>?_) fun w=>?_
 ·rw[w,WY rfl] at t;refine dE ?_;refine fN (xs:=x.map V.int) (by rw[WP];exact W9 (WR (Yo ..) p) (bM aw)) ?_;haveI e:x.map V.int++[.int c]=aq (x++[c]):=by unfold aq;rw[WU];rfl
  rw[e];exact .mk (j,l,x++[c],n) ⟨by show(x++[c]).length+u.length≤900;rw[WO,XR];exact(br 0x2041f0b0086011803020f858402308401) p,q,t,rfl⟩
 ·rw[w] at t;obtain⟨a,b,y,z,rfl⟩:=t;refine iU (dE ?_);refine hQ i (WR (Yo ..) p) y (y7 ?_ fun g B=> .mk (g,true,[],n++a) ⟨?_,b,z,by rw[WW]⟩)
  ·rw[←WW,WO] at k;exact(br 0x1000fa571765006001f4ae2ecb008401) k
  ·show([]:ah).length+u.length≤900;rw[XO];exact(br 0x4083e16010807020f858402308401) p
def AO (n:hP (A f)) (t:e.length≤900) (k: ∀c∈e,0≤c∧c≤255) (x:res.length≤900000) (u:kM (A f) f r [] l e res) (q:Q (gh A res) H):
  {args:aN}→pk vC args=some %[aJ (A f),.ap (aq e),.bool l,.bool r|4]→Y2 (cx ab (d+10) 726 args H) Q:=by
 intro args v;refine ao Py v (fe V.int e ?_ fun c m R h=>aV (k c m) h);intro p y w z;exact bL V.int (S6 A f r p) (S7 A p H) (S8 A f r res) (fun s h=>Jq n x q h) (fun c g s h=>FR n x h) e (w,l,[],[]) ⟨by show 0+e.length≤900;exact(bC 0x1020f85800201c083e1401) t,res,u,rfl⟩
def NU (m:hP (A f)) (n:h.length≤900) (k: ∀c∈h,0≤c∧c≤255) (e:x.length≤900000) (p:kM (A f) f r [] l h x) (q:Q (gh A x) H):
  Y2 (cx ab (d+10) 726 [aJ (A f),.ap (aq h),.bool l,.bool r] H) Q:=AO m n k e p q rfl
end
section
variable {fd:Fs}
def iC (c:Int):Bool:=c==97||c==98||c==99||c==100||c==65||c==45||c==46||c==40
def cE (c:Int):Int:=if c=65 then 97 else if 96<c∧c<101 then c else 0
def gk (h:iC c=true):40≤c∧c≤100:=by unfold iC at h;simp only[XX,XJ] at h;exact(cU 0x2d32106500a60120812dea8204a015eae204a015ead204a015ea1208a015ea420ca015ea320ca015ea220ca01542419402) h
structure jT (lo:V):Prop where
 is: ∃ks vs,lo= .inst 880 [27] [.eR ks vs]∧ ∀c,iC c=true→vw (14*1048576+c) ks vs=some (.int (cE c))
def wE {lo:V} (h:jT lo) (e:iC c=true) (q:Q (.int (cE c)) H):Y2 (cx ab (d+2) 877 [lo,.int c] H) Q:=by obtain⟨k,m,rfl,x⟩:=h.is;refine ao (fr:= %[(_),.int c|0]) lx rfl ?_;exact FA (by haveI:=gk e;exact(cU 0x2d40100501405094029804025a6420ca014c0241025) this) (wu (x c e) q)
def aA {fd:ah}:(aq fd).length=fd.length:=WP _
def lG (x:h≠[]) (k: ∀c∈h,1≤c∧c≤255) (q:Q (.bool true) H):Y2 (cx ab (d+2) 891 [.ap (aq h)] H) Q:=by
 refine ao (fr:= %[.ap (aq h)|1]) BF rfl (bQ (fun e=>?_) fun ξ=>?_)
 ·rw[aA] at e;cases h with
  |nil=>exact absurd rfl x
  |cons a r=>exact absurd e (by rw[W0];exact(bC 304569401773057))
 ·exact fe V.int h q fun c m R r=>aV (k c m) r
def mC (h:ah):Int:=h.foldl (fun a c=>256*a+c) 0
def nX (q:Q (.int (mC e)) H):Y2 (cx ab (d+1) 912 [.ap (aq e)] H) Q:=by refine ao (fr:= %[.ap (aq e)|2]) yg rfl (bL V.int (fun a=> %[_,.int a|1]) (fun ξ=>H) (fun r a=>r.foldl (fun a c=>256*a+c) a=mC e) (fun a h=>?_) (fun c r a h=> .mk (256*a+c) h) e 0 rfl);rw[←h] at q;exact q
def wF (q:Q (.int (max 1 (min 63 x))) H):Y2 (cx ab (d+2) 919 [.int x] H) Q:=by
 refine ao (fr:=(.c (.int x) .e)) uh rfl (gB ?_);haveI:(if 1<(if x<63 then x else 63) then(if x<63 then x else 63) else 1:Int)=max 1 (min 63 x):=by rw[Int.min_comm,Int.min_def,Int.max_def];split<;>split<;>split<;>(try split)<;>omega
 rw[←this] at q;exact q
structure cF where
 links:List (Int×Int)
 nums:List (Int×ah)
 states:Int
 exc:List (Int×ah)
def NV:Nonempty cF:=⟨⟨[],[],0,[]⟩⟩
structure dg where
 t:Nat
 a:Nat
 b:Nat
 c:Nat
 S9:a≠t
 S':b≠t
 Tg:b≠a
 Th:c≠t
 Ti:c≠a
 Tj:c≠b
def qu:Nonempty dg:=⟨⟨0,1,2,3,by exact aU aw,by exact aU aw,by exact aU aw,by exact aU aw,by exact aU aw,by exact aU aw⟩⟩
def jU (l:List (Int×ah)):Ob:= .dict (l.map (·.1)) (l.map fun e=> .aG (aq e.2))
def lh (x:dg) (T:cF):Ob:= .inst 982 [28,29,30,31] [.ref x.a,.ref x.b,.int T.states,.ref x.c]
structure hU (H:Hp) (x:dg) (T:cF):Prop where
 tt:an H x.t=some (lh x T)
 aa:an H x.a=some (.dict (T.links.map (·.1)) (T.links.map fun e=> .int e.2))
 bb:an H x.b=some (jU T.nums)
 cc:an H x.c=some (jU T.exc)
def hU.cons {T:cF} (h:hU H x T) (k:an H a=none):hU (.c a o H) x T:=⟨mA k h.tt,mA k h.aa,mA k h.bb,mA k h.cc⟩
def nj:ah→Nat→ah→ah
 |fd,_,[]=>fd
 |fd,s,x::r=>nj (fd.set s (if fd.getD s 0<x then x else fd.getD s 0)) (s+1) r
def NW {fd:ah}:nj fd s (x::r)=(nj (fd.set s (if fd.getD s 0<x then x else fd.getD s 0)) (s+1) r):=rfl
def cF.walk (T:cF) (b:Nat):Int→ah→ah→ah
 |_,[],fd=>fd
 |s,l::h,fd=>match c9 (256*s+l) T.links with
  |none=>fd
  |some t=>T.walk b t h (nj fd b ((c9 t T.nums).getD []))
def y8 {T:cF} {fd:ah}:T.walk b s (l::h) fd=(match c9 (256*s+l) T.links with
  |none=>fd
  |some t=>T.walk b t h (nj fd b ((c9 t T.nums).getD []))):=rfl
structure Trie (T:cF) (dp:Int→Nat):Prop where
 zero:dp 0=0
 FS: ∀s l t,0≤s→0≤l→l<256→c9 (256*s+l) T.links=some t→0<t∧dp t=dp s+1
 row: ∀t row,c9 t T.nums=some row→row.length≤dp t+1
def mD {fd:ah}:(aq fd).set k (.int x)=aq (fd.set k x):=by unfold aq;rw[List.map_set]
theorem qw: ∀{r:ah} {fd:ah} {s:Nat},(nj fd s r).length=fd.length
 |[],_,_=>rfl
 |x::r,fd,s=>by rw[NW];rw[qw,Zd]
theorem qx {T:cF}: ∀{h:ah} {s:Int} {fd:ah},(T.walk b s h fd).length=fd.length
 |[],_,_=>rfl
 |l::h,s,fd=>by
  rw[y8];cases c9 (256*s+l) T.links with
  |none=>rfl
  |some t=>exact qx.trans qw
def mE {k:Kt} {st:aN} (e:place h.length i=some j) (q:k st x (.c a (.list (h.set j v)) H) m):
  Yr (an (.c a (.list h) H) a) (By a i v k st x (.c a (.list h) H) m):=r5 (bj e (by rwa[b7]))
abbrev WA:=Nat×ah
def Va (x:dg) (w h:ah) (e b:Nat) (s:Int) (k:Nat):Fr:= %[.ref x.t,_,.ap (aq h),.ref e,.int b,.int s,_,.int k|1]
def Hw (h:Nat) (H:Hp) (fd:ah):Hp:= .c h (.list (aq fd)) H
def Cu {fd:ah} {K:Kt} (h:fr.get 3=some (.ref e)) (x:fr.get 7=some (.int k)) (n:fr.get 8=some (.int c)) (p:k<fd.length) (q:K [] fr (Hw e H (fd.set k (if fd.getD k 0<c then c else fd.getD k 0))) r):
  MS ab (cx ab d) (.asg (.bp (.af 3) (.af 7)) (.call (.ae 72) [.bp (.af 3) (.af 7),.af 8])) K [] fr (Hw e H fd) r:=by
 have m:place (aq fd).length (k:Int)=some k:=cq (by rwa[aA]);refine bj (o:=fr.get 3) h (bj (o:=fr.get 7) x ?_);refine r5 (fY m (oR p) ?_);refine bj (o:=fr.get 8) n (bj (o:=fr.get 3) h ?_);refine bj (o:=fr.get 7) x (mE m ?_);rwa[mD]
abbrev Rr:List S:=[.asg (.bp (.af 3) (.af 7)) (.call (.ae 72) [.bp (.af 3) (.af 7),.af 8]),.iF 7 .add (.int 1)]
def qy {R:cy} {fd:ah} (p:k+row.length≤fd.length) (q: ∀k,R .next (Va x w e m b s k) (Hw m H (nj fd b row))) (u:k=b):
  Y3 (rE (MA ab (cx ab d) (.name 8)) (MB ab (cx ab d) Rr) [1,6,8] (aq row) (Va x w e m b s k) (Hw m H fd)) R:=by
 subst u;refine bL V.int (fun t:WA=>Va x w e m k s t.1) (fun t=>Hw m H t.2) (fun r t=>t.1+r.length≤t.2.length∧nj t.2 t.1 r=nj fd k row) (fun t h=>?_) (fun c r t h=>?_) row (k,fd) ⟨p,rfl⟩
 ·rw[←h.2] at q;exact q _
 ·have n:=h.1;rw[W0] at n;refine Cu (fr:= %[.ref x.t,_,.ap (aq e),.ref m,.int k,.int s,_,.int t.1,.int c|0]) rfl rfl rfl (Y9 (Nat.lt_add_of_pos_right (YN _)) n) (Lo.mk (t.1+1,_) ⟨?_,h.2⟩);show t.1+1+r.length≤(t.2.set _ _).length;rw[Zd];exact(bT 0x2020c021804600c0418402308401) n
def AP (l:List (Int×ah)):vw k (l.map (·.1)) (l.map fun e=>V.aG (aq e.2))=(c9 k l).map fun r=> .aG (aq r):=kz (fun e:Int×ah=> .aG (aq e.2)) (fun r=> .aG (aq r)) (fun ξ=>rfl) k l
def mF (l:List (Int×Int)):vw k (l.map (·.1)) (l.map fun e=>V.int e.2)=(c9 k l).map V.int:=kz (fun e:Int×Int=> .int e.2) V.int (fun ξ=>rfl) k l
abbrev Vb:List S:=[.asg (.name 5) (.lZ (.ai (.af 0) 28) [.aS .add (.aS .mul (.int 256) (.af 5)) (.af 6),.neg (.int 1)]),.bs (.aE (.af 5) .lt (.int 0)) [.brk] [],.asg (.name 7) (.af 4),.cA (.name 8) (.plain (.lZ (.ai (.af 0) 29) [.af 5,.tuple []])) Rr [1,6,8] [7,8]]
structure Tk (T:cF) (dp:Int→Nat) (marks:ah) (b:Nat) (goal:ah) (r:ah) (t:Int×ah):Prop where
 len:t.2.length=marks.length+1
 pos:0≤t.1
 WC:b+dp t.1+r.length=marks.length
 ok: ∀c∈r,0≤c∧c<256
 eq:T.walk b t.1 r t.2=goal
def Vc (x:dg) (h:ah) (e b:Nat) (s:Int):Fr:= %[.ref x.t,_,.ap (aq h),.ref e,.int b,.int s|3]
def y9 {T:cF} (a:Trie T g) (D:hU H x T) {R:cy} (G:an H i=none) {w:ah} (h:Tk T g n b u (c::r) t)
  (q: ∀s,R .next %[.ref x.t,_,.ap (aq n),.ref i,.int b,.int s,.int c|2] (Hw i H u)):
  MA ab (cx ab d) (.name 6) (MB ab (cx ab d) Vb bn) [.int c] (Vc x n i b t.1) (Hw i H t.2) (dT [1,6,7,8] (Lo (fun t=>Vc x n i b t.1) (fun t=>Hw i H t.2) (Tk T g n b u r)) R):=by
 obtain⟨s,fd⟩:=t;have v:=D.cons (o:= .list (aq fd)) G;have f:=h.ok c (.head _);have hd:=h.WC;rw[W0] at hd;refine cf v.tt (hN v.aa ?_);refine hN v.aa (wu (mF T.links) ?_)
 have e:(match c9 (256*s+c) T.links with|none=>fd|some t=>T.walk b t r (nj fd b ((c9 t T.nums).getD [])))=u:=h.eq;cases j:c9 (256*s+c) T.links with
 |none=>rw[j] at e;rw[←e] at q;exact q _
 |some z=>
  rw[j] at e;change T.walk b z r (nj fd b ((c9 z T.nums).getD []))=u at e;obtain⟨A,B⟩:=a.FS s c z h.pos f.1 f.2 j;refine gz (Yx.mpr (Y5 A)) (cf v.tt ?_);refine hN v.bb (hN v.bb ?_);refine wu (AP T.nums) ?_;have C: ∀(p:ah),(c9 z T.nums).getD []=p→Tk T g n b u r (z,nj fd b p):=fun p I=>⟨by show(nj _ _ _).length=_;rw[qw];exact h.len,Y5 A,by show b+g z+_=_;replace hd:b+g s+(r.length+1)=n.length:=hd;exact(xQ 0x12206030c001106440c20118c30084419402308401) B hd,fun c m=>h.ok c (.tail _ m),by rw[←I];exact e⟩;haveI y:=h.len;change fd.length=n.length+1 at y;haveI J:=a.row z;change b+g s+(r.length+1)=n.length at hd;cases l:c9 z T.nums with
  |none=>exact qy (row:=[]) (fd:=fd) (w:=w) (by show b+0≤_;exact(xQ 0x2000c003106410c20119030184419402308401) y hd) (fun k=> .mk (z,_) (C [] (by rw[l];rfl))) rfl
  |some p=>exact qy (row:=p) (fd:=fd) (w:=w) (by haveI:=J p l;exact(VL 0x2020c0c12061008c01306430c201194300848194023184419402308401) B y hd this) (fun k=> .mk (z,_) (C p (by rw[l];rfl))) rfl
end
section
variable {d:Nat} {H:Hp} {fd:Fs}
def cF.za (T:cF) (h:ah) (b:Nat):Nat→ah→ah
 |0,fd=>fd
 |n+1,fd=>T.za h (b+1) n (T.walk b 0 (h.drop b) fd)
theorem wG {T:cF}: ∀{n b:Nat} {fd:ah},(T.za h b n fd).length=fd.length
 |0,_,_=>rfl
 |n+1,b,fd=>(wG (n:=n)).trans qx
def cF.wJ (T:cF) (w:ah):ah:=((T.za (0::w++[0]) 0 (w.length+2) (List.replicate (w.length+3) 0)).drop 1).take (w.length+1)
def cF.bm (T:cF) (w:ah) (l r:Int):ah:=
 let first:=max 1 (min 63 l)
 let h:=w.length-max 1 (min 63 r)
 match c9 (mC w) T.exc with
 |some e=>e.filter fun p=>decide (first≤p)&&decide (p≤h)
 |none=>(dP first (h+1)).filter fun p=>(T.wJ w).getD p.toNat 0%2==1
def mG {a:Nat} (h:a≤n):gQ n (a:Int)=a:=by unfold gQ;rw[WX (bC 9261165569),X9];exact Yb h
def Jr {α:Type} {h:List α} (x:a≤b) (e:b≤h.length):hX h (some (a:Int)) (some (b:Int))=(h.drop a).take (b-a):=by show(h.drop (gQ h.length (a:Int))).take (gQ h.length (b:Int)-gQ h.length (a:Int))=_;rw[mG (WR x e),mG e]
def wK {α:Type} {h:List α} (e:a≤h.length):hX h (some (a:Int)) none=h.drop a:=by show(h.drop (gQ h.length (a:Int))).take (h.length-gQ h.length (a:Int))=_;rw[mG e,X4 (by rw[WT];exact Xl _)]
def NX {α:Type} {h:List α} (e:b≤h.length):hX h none (some (b:Int))=h.take b:=by show(h.drop 0).take (gQ h.length (b:Int)-0)=_;rw[mG e];rfl
def AQ {α:Type} {e:List α} (h:e.length≤b):hX e none (some (b:Int))=e:=by show(e.drop 0).take (gQ e.length (b:Int)-0)=_;unfold gQ;rw[WX (bC 9261165569),X9,YU h];exact aan
theorem iV {k:Nat} (h:k<1000000):(k:Int).natAbs<bz:=h
theorem iW {a:Nat} (h:a<1000000):g9 (some (.int (a:Int)))=some (some (a:Int)):=WY (iV h)
theorem AR {xs:aN} {a:Nat} {K:V→Prop} (h:a<1000000) (ha:a≤xs.length) (q:K (.ap (xs.drop a))):Y1 (dz (.ap xs) (some (.int a)) .none) K:=by unfold dz;rw[iW h];show K (.ap (hX xs (some (a:Int)) none));rwa[wK ha]
theorem FT {xs:aN} {a b:Nat} {K:V→Prop} (h:b<1000000) (ha:a≤b) (hb:b≤xs.length) (q:K (.ap ((xs.drop a).take (b-a)))):Y1 (dz (.ap xs) (some (.int a)) (some (.int b))) K:=by unfold dz;rw[iW (W9 ha h),iW h];show K (.ap (hX xs (some (a:Int)) (some (b:Int))));rwa[Jr ha hb]
structure V6 (T:cF) (w:ah) (r:ah) (t:Nat×ah):Prop where
 xs:r=dP t.1 ((w.length+2:Nat):Int)
 le:t.1≤w.length+2
 len:t.2.length=w.length+3
 eq:T.za (0::w++[0]) t.1 (w.length+2-t.1) t.2=T.za (0::w++[0]) 0 (w.length+2) (List.replicate (w.length+3) 0)
@[reducible] def Js (d : Nat) (H : Hp) (Q : V → Hp → Prop) (T : cF) (h : Int → Nat) (x : dg) (w : ah) : Prop := ∀ (e : Trie T h) (k : hU H x T) (m : ∀ c ∈ w, 0 ≤ c ∧ c < 256) (n : w.length ≤ 1000) (q : Q (.ap (aq (T.wJ w))) H), Y2 (cx ab (d+1) 973 [.ref x.t, .ap (aq w)] H) Q
abbrev Jt:List Type:=[Nat,Hp,V→Hp→Prop,cF,Int→Nat,dg,ah]
def Rt:=eV Jt Js ⟨nI,Ab,nI,NV,nI,qu,nI,trivial⟩
theorem Vd:eU Jt Js Rt:=by
 injections Rt d H Q T g x w;change Js d H Q T g x w;intro l o A v q;refine ao (fr:= %[.ref x.t,.ap (aq w)|7]) iK rfl ?_;have u:(0::w++[0]).length=w.length+2:=by rw[WO,W0,XR]
 haveI i: ∀c∈0::w++[0],0≤c∧c<256:=by
  intro c B;rcases W6.mp B with h|h
  ·rcases Xa.mp h with rfl|h
   ·exact aU aw
   ·exact A c h
  ·rw[WZ.mp h];exact aU aw
 refine au (by show 1+(aq w).length≤_;rw[aA];exact WR (X5 v 1) (bM aw)) ?_;refine au (by rw[WO,aA];exact WR (Nat.add_le_add_right (X5 v 1) 1) (bM aw)) ?_;haveI C:[V.int 0]++aq w++[V.int 0]=aq (0::w++[0]):=by unfold aq;rw[WU];rfl
 rw[C];have y:((aq (0::w++[0])).length:Int)=((w.length+2:Nat):Int):=by rw[aA,u]
 haveI D:(List.replicate (((aq (0::w++[0])).length:Int)+1).toNat [V.int 0]).flatten=aq (List.replicate (w.length+3) 0):=by
  rw[y,show(((w.length+2:Nat):Int)+1).toNat=w.length+3 by exact(bC 0x94063005500917010c01)];unfold aq;rw[List.map_replicate];generalize w.length+3=n;induction n with
  |zero=>rfl
  |succ n G=>rw[Yu,Yq,G,Yu];rfl
 refine au (by rw[y];unfold bz;refine⟨by exact(bC 0x9c0245c04300404),?_,by exact(bC 0x50040140501405014050140501405015058048b808600c103f9401) v⟩;show 1*_≤_;exact(bC 0x1000e45817c5404aa8048b808600c103f9401) v) ?_;rw[D];intro z I;refine au (by rw[y];exact iV (by exact(bC 0x1100e45817c5808600c103f9401) v)) ?_;rw[y];refine bL V.int (fun t:Nat×ah=> %[.ref x.t,_,.ap (aq (0::w++[0])),.ref z|5]) (fun t=>Hw z H t.2) (V6 T w) (fun t h=>?_) (fun b r t h=>?_) (dP 0 ((w.length+2:Nat):Int)) (0,List.replicate (w.length+3) 0) ⟨rfl,W8 _,List.length_replicate,rfl⟩
 ·obtain⟨b,fd⟩:=t;haveI J:b=w.length+2:=by haveI:=qm h.xs.symm;haveI:=h.le;replace this:b≤w.length+2:=this;lia
  subst J;haveI e:=h.eq;change T.za (0::w++[0]) (w.length+2) (w.length+2-(w.length+2)) fd=_ at e;rw[YE] at e;change fd=_ at e;refine r5 ?_;rw[y];refine FT (a:=1) (by exact(bC 0x1100e45817c5808600c103f9401) v) (by exact(bC 567005938723)) (by rw[aA,h.len];exact YF _) ?_;haveI L:((aq fd).drop 1).take (w.length+2-1)=aq (T.wJ w):=by unfold cF.wJ aq;rw[←e,YB,Yd];rfl
  rw[L];exact⟨.c z (.list (aq fd)) .e,H,rfl,q⟩
 ·obtain⟨k,fd⟩:=t;obtain⟨p,rfl,N⟩:=jN h.xs.symm;change(k:Int)<((w.length+2:Nat):Int) at p;refine AR (a:=k) (by exact(br 0x880722c0be284345c043005610c103f9401) v p) (by rw[aA,u];exact(br 0x21010c210068b808610ac01) p) ?_;haveI O:(aq (0::w++[0])).drop k=aq ((0::w++[0]).drop k):=by unfold aq;rw[Yd]
  rw[O]
  have f:V6 T w r (k+1,T.walk k 0 ((0::w++[0]).drop k) fd):=⟨N,by show k+1≤_;exact(br 0x10808610c0230068b808610ac01) p,by show(T.walk _ _ _ _).length=_;rw[qx];exact h.len,by
   haveI e:=h.eq;change T.za (0::w++[0]) k (w.length+2-k) fd=_ at e;rw[show w.length+2-k=w.length+2-(k+1)+1 by exact(br 0x1280471804600c043086200c0430868b808610ac01) p] at e
   exact e⟩
  refine bL V.int (fun t=>Vc x (0::w++[0]) z k t.1) (fun t=>Hw z H t.2) (Tk T g (0::w++[0]) k (T.walk k 0 ((0::w++[0]).drop k) fd)) (fun t j=>?_) (fun c r t j=>?_) _ (0,fd) ⟨by show fd.length=_;rw[h.len,u],Zy _,by show k+g 0+_=_;rw[l.zero,WT,u];exact(br 0x25010c2184401808610c0030068b808610ac01) p,fun c m=>i c (Xb m),rfl⟩
  ·haveI e:=j.eq;change t.2=_ at e;rw[e];exact .mk (k+1,_) f
  ·exact y9 (w:=w) l o I j fun s=> .mk (k+1,_) f
def qz:eB Jt Js:=eA Jt Vd
def wL {T:cF}:(T.wJ w).length=w.length+1:=by unfold cF.wJ;rw[Xg,WT,wG,List.length_replicate];exact(bC 0x940230065108e031803008c01)
def iX {e:ah} (h:e.length≤n) (k:n≤bz):((e.filter p).map V.int).length≤bz:=by rw[WP];exact WR (X6 _ _) (WR h k)
def tp {T:cF} (o:Trie T C) (u:hU H x T) (f: ∀c∈w,1≤c∧c≤255) (i:w≠[]) (j:w.length≤63) (a: ∀k r,c9 k T.exc=some r→r.length≤1000) (q:Q (.ap (aq (T.bm w l r))) H):
  Y2 (cx ab (d+3) 979 [.ref x.t,.ap (aq w),.int l,.int r] H) Q:=by
 refine ao (fr:= %[.ref x.t,.ap (aq w),.int l,.int r|7]) mc rfl (lG i f ?_);show WB ab (cx ab (d+2)) (eE.body.drop 2) %[.ref x.t,.ap (aq w),.int l,.int r,.ap (hX (aq w) none (some ((63:Nat):Int)))|6] H (cp none H Q);rw[AQ (by rwa[aA])];refine wF (wF ?_);refine cf u.tt (hN u.cc ?_);refine nX (hN u.cc ?_);refine wu (AP T.exc) ?_;unfold cF.bm at q;have y:1≤max 1 (min 63 l)∧max 1 (min 63 l)≤63:=by exact(cU 0x169fc812ce4017c81284939c802f902509024)
 have g:(w.length:Int)-max 1 (min 63 r)+1≤w.length∧ -63≤(w.length:Int)-max 1 (min 63 r)+1:=by exact(ar 0x169c0248ce4017c812848b0055f204b358030092339005f204a122c01 [_] [_])
 haveI A:((aq w).length:Int)=w.length:=by rw[aA]
 rw[A];generalize max 1 (min 63 l)=first at q y⊢
 generalize (w.length:Int)-max 1 (min 63 r)=e at q g⊢;cases b:c9 (mC w) T.exc with
 |some t=>
  rw[b] at q;refine gj V.int V.int (fun p=>decide (first≤p)&&decide (p≤e)) t (fun z m B s=>?_) ⟨iX (a _ _ b) (bM aw),q⟩;have s:=s %[.ref x.t,.ap (aq w),.int l,.int r,.ap (aq w),.int first,.int e,.aG (aq t),_,.int z|1];refine bV (fun h=>?_) fun h=>?_
  ·refine bV (fun k=>s.1 ?_) fun k=>s.2 ?_
   ·rw[Xz h,Xz k];rfl
   ·rw[Xz h,Xw k];rfl
  ·exact s.2 (by rw[Xw h];rfl)
 |none=>
  rw[b] at q;refine cf u.tt ?_;refine qz o u (fun c h=>by haveI:=f c h;exact(cU 0x2d40110500a60100969fc872805300824) this) ((bC 0x2081fca00c3e309401) j) ?_;refine au ⟨by unfold bz;exact(cU 0x1100e45817c5580569fc812805300824) y,by unfold bz;exact(ar 0x440391605f157009002b4e012004af90259ac0180480143e309401 [_] [_]) j g⟩ ?_;refine gj V.int V.int (fun p=>(T.wJ w).getD p.toNat 0%2==1) _ (fun z v B s=>?_) ⟨iX (n:=200) (by rw[dY];exact(ar 0x41033155100a01204569c0240895f204b35803009022b4fe40940298041243e309401 [_] [_,_]) j y g) (bM aw),q⟩;have v:=wy v;obtain⟨z,rfl⟩: ∃n:Nat,z=n:=⟨z.toNat,by exact(O7 0x2ab5044115a900904208a61100569fc812805300824) y v⟩;replace v:z<w.length+1:=by exact(ar 0x118046008436a4024009610cd61084569c0240095f204b35803009002 [_,_] [_,_]) g v
  refine fY (cq (by rwa[aA,wL])) (oR (by rwa[wL])) ?_;have s:=s %[.ref x.t,.ap (aq w),.int l,.int r,.ap (aq w),.int first,.int e,.none,.ap (aq (T.wJ w)),_,.int z|0];refine bQ (fun h=>s.1 ?_) fun h=>s.2 ?_
  ·rwa[XJ]
  ·exact beq_eq_false_iff_ne.mpr h
def d9 (x:dg) (T:cF) (H:Hp):Hp:= .c x.c (jU T.exc) (.c x.b (jU T.nums) (.c x.a (.dict (T.links.map (·.1)) (T.links.map fun e=> .int e.2)) (.c x.t (lh x T) H)))
def iY:cF:=⟨[],[],1,[]⟩
def AS (x:dg) (H:Hp):Prop:=an H x.t=none∧an H x.a=none∧an H x.b=none∧an H x.c=none
def qA {T:cF}:hU (d9 x T H) x T:=
 ⟨(aD x.Th).trans ((aD x.S').trans ((aD x.S9).trans ba)),(aD x.Ti).trans ((aD x.Tg).trans ba),(aD x.Tj).trans ba,ba⟩
def mH (q: ∀x:dg,AS x H→Q (.ref x.t) (d9 x iY H)):Y2 (cx ab (d+2) 982 [] H) Q:=by refine cD pV.2 pV.1 rfl fun t r=>?_;refine ao (fr:=(.c (.ref t) .e)) pN rfl ?_;intro a e;have e:=cb e;refine qs e.1.symm rfl fun b n=>?_;have n:=cb n;have h:=cb n.2;refine tj h.1.symm e.1.symm rfl (tj h.1.symm e.1.symm rfl fun c p=>?_);have p:=cb p;have m:=cb p.2;have k:=cb m.2;refine cf ((aD k.1.symm).trans ((aD h.1.symm).trans ((aD e.1.symm).trans ba))) ⟨by exact bM aw,?_⟩;haveI:=q ⟨t,a,b,c,e.1.symm,h.1.symm,n.1.symm,k.1.symm,m.1.symm,p.1.symm⟩ ⟨r,e.2,h.2,k.2⟩;simp only[b8 k.1.symm,b8 h.1.symm,b8 e.1.symm,b7];exact this
def nn (n:Nat):ah:=(List.range n).map fun(k:Nat)=>(k:Int)
theorem wM {n:Nat}:dP 0 (n:Int)=nn n:=by unfold dP nn;rw[show((n:Int)-0).toNat=n by exact(bC 633364365323265)];exact YQ fun k ξ=>Y4 _
def AT (h:ah):List PyData:=h.map PyData.int
theorem toDs_ints: ∀{xs:ah},toDs (toD (n+1)) (aq xs)=some (AT xs)
 |[]=>rfl
 |x::r=>by
  haveI:=toDs_ints (n:=n) (xs:=r)
  show(match toDs (toD (n+1)) (aq r) with|some h=>some (PyData.int x::h)|none=>none)=_;rw[this];rfl
def tq:g8 (.int x) (.ap (aq h))=some (h.any fun e=>decide (e=x)):=by show(match toDs (toD (11+1)) (aq h) with|some k=>some (k.any fun e=>PyData.eqv e (.int x))|none=>none)=_;rw[toDs_ints];unfold AT;show some (List.any _ _)=_;rw[ZG];congr 2
theorem ix {x:dg} {T:cF} (s:hU H x T) (v:T.exc=[]) {w ps:ah} (y: ∀c∈w,1≤c∧c≤255) (h:w≠[]) (k:w.length≤63) (g: ∀p∈ps,0≤p∧p≤w.length)
  (q:Q .none (cz H x.c (jU [(mC w,(nn (w.length+1)).filter fun p=>ps.any fun e=>decide (e=p))]))):Y2 (cx ab (d+3) 959 [.ref x.t,.ap (aq w),.ap (aq ps)] H) Q:=by
 refine ao (fr:= %[.ref x.t,.ap (aq w),.ap (aq ps)|2]) hH rfl ?_;refine lG h y ?_;refine gz (by rw[aA];exact(bC 0x451600fc812c3e309401) k) ?_;refine fe V.int ps ?_ fun c m R r=>aV (by rw[aA];exact g c m) r;have t:((aq w).length:Int)+1=((w.length+1:Nat):Int):=by rw[aA];rfl
 refine au (by rw[t];exact iV (by exact(bC 0x1100e45817c5804600c3e309401) k)) ?_;rw[t];show nL _ _ _ ((dP 0 ((w.length+1:Nat):Int)).map V.int) _ _ _;rw[wM];refine gj V.int V.int (fun p=>ps.any fun e=>decide (e=p)) _ (fun z m j u=>?_) ⟨iX (n:=64) (by unfold nn;rw[WP,Zj];exact(bC 0x1000c45804600c3e309401) k) (bM aw),?_⟩
 ·refine bj tq ?_;exact gy (u _).1 (u _).2
 ·refine cf s.tt ?_;refine nX ?_;refine hN s.cc ?_;rw[v];exact⟨by exact bM aw,q⟩
end
section
variable {d:Nat} {A:Fs} {f:Bool}
def Nd.pass (nd:Nd):Bool:=nd.kind==0||nd.kind==1||nd.fk
def fQ:Nd→Bool
 | .one (.spec _)=>true
 |_=>false
def bR (up:Bool):Nat→am→Option Nat
 |_,[]=>none
 |i,h::t=>if h.pass||fQ h then(match h.codes with
   |[]=>bR up (i+1) t
   |c::_=>if cE c=0 then bR up (i+1) t else if cE c=c∨up=true then some i else none) else none
def fy {up:Bool}:bR up i (h::t)=(if h.pass||fQ h then(match h.codes with
   |[]=>bR up (i+1) t
   |c::_=>if cE c=0 then bR up (i+1) t else if cE c=c∨up=true then some i else none) else none):=rfl
def FU:Option Nat→Int
 |none=> -1
 |some i=>i
def uT (h:Nd):Bool:=match h with
 | .one (.char ..)=>false| .one (.kj ..)=>false| .one (.cJ ..)=>true| .one (.Fz _)=>true| .one (.lD ..)=>false| .one (.spec _)=>true| .skip=>true| .cI .. =>false
def cP:am→Bool
 |[]=>true
 |nd::t=>if nd.pass then cP t else uT nd
def toD_ints:toD 12 (.aG (aq h))=some (.tuple (AT h)):=by show(match toDs (toD (10+1)) (aq h) with|some e=>some (PyData.tuple e)|none=>none)=_;rw[toDs_ints]
def zb:lp .ne (.aG (aq h)) (.aG [])=some (!h.isEmpty):=by show neg (match toD 12 (.aG (aq h)) with|some a=>(match toD 12 (.aG []) with|some b=>some (PyData.eqv a b)|none=>none)|none=>none)=_;rw[toD_ints];induction h using List.casesOn<;>rfl
def qB:lp .ne (.ap (aq cs)) (.ap [])=some (!cs.isEmpty):=by
 have e:toD 12 (.ap (aq cs))=some (.list (AT cs)):=by show(match toDs (toD (10+1)) (aq cs) with|some h=>some (PyData.list h)|none=>none)=_;rw[toDs_ints]
 show neg (match toD 12 (.ap (aq cs)) with|some a=>(match toD 12 (.ap []) with|some b=>some (PyData.eqv a b)|none=>none)|none=>none)=_;rw[e];induction cs using List.casesOn<;>rfl
def wN (q:ON h e x k H m (!b)):ON e h x k H m b:=by induction b using Bool.casesOn<;>exact q
def zc (q:ON e m n %[a,_,c,p,g,bU A h|2] H r (!(h.pass||fQ h))):
  MT ab (cx ab (d+1)) (.ay true [.aE (.ai (.af 5) 3) .ne (.ae 110),.aE (.ai (.af 5) 3) .ne (.ae 111),.aE (.ai (.af 5) 3) .ne (.ae 112),.not (.call (.ae 113) [.af 5])]) (fun k=>k) e m n %[a,_,c,p,g,bU A h|2] H r:=by
 cases h with
 |one a=>cases a with
  |char f c=>exact q
  |kj f c u x y=>exact q
  |spec b=>exact q
  |cJ w t=>
   refine b0 ?_;haveI s:(!(Nd.pass (.one (.cJ w t))||fQ (.one (.cJ w t))))= !(t==0):=by show(!((false||false||(t==0))||false))=_;simp
   rw[s] at q;exact wN q
  |_=>exact b0 q
 |_=>exact b0 q
def ze (q:ON e m n %[_,_,bU A h|0] H p (!h.pass)):
  MT ab (cx ab (d+1)) (.ay true [.aE (.ai (.af 2) 3) .ne (.ae 110),.aE (.ai (.af 2) 3) .ne (.ae 111),.not (.call (.ae 113) [.af 2])]) (fun k=>k) e m n %[_,_,bU A h|0] H p:=by
 cases h with
 |one a=>cases a with
  |char f c=>exact q
  |kj f c r x y=>exact q
  |cJ w t=>exact b0 (wN (b:=t==0) q)
  |_=>exact b0 q
 |_=>exact b0 q
theorem zf:place (n+1) 0=some 0:=by unfold place;rw[WY (by exact aU aw),WY (by exact(bC 22385406247940))];rfl
def Cv {α:Type} {k:List α} {x:α} {t:List α} (h:k.drop i=x::t):i<k.length∧k[i]?=some x∧k.drop (i+1)=t:=by
 have e:i<k.length:=by
  rcases XF i k.length with q|q
  ·exact q
  ·rw[Xp q] at h;cases(h)
 rw[Xo e] at h
 injection h with m n
 exact⟨e,by rw[WS e,m],n⟩
def cr {h:am}:(h.map (bU A)).length=h.length:=WP _
theorem dJ {i:Nat} {K:V→Prop} (h:e[i]?=some x) (q:K (bU A x)):Y1 (fK (aB A e) (.int i)) K:=
 fY (cq (by rw[cr];exact(Xf.mp h).1)) (by rw[Xk,h];rfl) q
abbrev Ve (A:Fs) (lo:V) (up:Bool) (h:am):Fr:= %[aB A h,_,lo,.bool up|4]
def WD (up:Bool) (h:am) (Q:V→Hp→Prop) (H:Hp) (r:ah) (i:Nat):Prop:=r=dP i h.length∧i≤h.length∧Q (.int (FU (bR up i (h.drop i)))) H
abbrev WE:List S:=[.asg (.name 5) (.bp (.af 0) (.af 4)),.bs (.ay true [.aE (.ai (.af 5) 3) .ne (.ae 110),.aE (.ai (.af 5) 3) .ne (.ae 111),.aE (.ai (.af 5) 3) .ne (.ae 112),.not (.call (.ae 113) [.af 5])]) [.ret (some (.neg (.int 1)))] [],.asg (.name 6) (.call (.ae 107) [.af 5]),.asg (.name 7) (.ite (.aE (.af 6) .ne (.tuple [])) (.dM (.af 2) 56 [.bp (.af 6) (.int 0)]) (.int 0)),.bs (.aE (.af 7) .ne (.int 0)) [.ret (some (.ite (.ay false [.aE (.af 7) .eq (.bp (.af 6) (.int 0)),.af 3]) (.af 4) (.neg (.int 1))))] []]
theorem wO {lo:V} (p:jT lo) (s: ∀c∈h.codes,iC c=true) {up:Bool} {i:Nat} {J:Fr→Hp→Prop} (k:u[i]?=some h) (q:Q (.int (FU (bR up i (h::t)))) H)
  (v:Q (.int (FU (bR up (i+1) t))) H→J (Ve A lo up u) H):
  MA ab (cx ab (d+2)) (.name 4) (MB ab (cx ab (d+2)) WE bn) [.int i] (Ve A lo up u) H (dT [1,4,5,6,7] J (i8 [0,2,3,4,5,6,7] (MB ab (cx ab (d+2)) [.ret (some (.neg (.int 1)))] bn) (cp none H Q))):=by
 refine dJ k ?_;refine zc ?_;rw[fy] at q;cases w:(h.pass||fQ h) with
 |false=>rw[w] at q;exact q
 |true=>
  rw[w,WY rfl] at q;refine fv ?_;refine bj zb ?_;cases x:h.codes with
  |nil=>rw[x] at q;exact v q
  |cons c r=>
   rw[x] at q s;change Q (.int (FU (if cE c=0 then bR up (i+1) t else if cE c=c∨up=true then some i else none))) H at q;obtain⟨z,g,e,_⟩:=p.is;subst e;have y:place (aq (c::r)).length 0=some 0:=zf;refine wx y rfl ?_;refine wE p (s c (.head _)) ?_;refine qk (fun m=>?_) fun m=>?_
   ·rw[WX m] at q;refine wx y rfl ?_;refine bQ (fun n=>?_) fun n=>?_
    ·rw[WY (.inl n)] at q;exact q
    ·cases up with
     |true=>rw[WY (.inr rfl)] at q;exact q
     |false=>rw[WX (by rintro(a|a);exact n a;exact dh a)] at q;exact q
   ·rw[WY m] at q;exact v q
theorem ox {lo:V} (u:jT lo) (v: ∀a∈m,∀c∈a.codes,iC c=true) (n:m.length<100000) {p:Nat} (s:p<m.length) {up:Bool} (q:Q (.int (FU (bR up (p+1) (m.drop (p+1))))) H):
  Y2 (cx ab (d+3) 755 [aB A m,.int p,lo,.bool up] H) Q:=by
 refine ao (fr:= %[aB A m,.int p,lo,.bool up|4]) pS rfl ?_;have t:((m.map (bU A)).length:Int)=m.length:=by rw[cr]
 refine au (by rw[t];exact⟨by unfold bz;exact(br 0x880722c0be2ae0122c21880210c403a942519401) n s,iV (by exact(bC 0x2201c8b02f8a00c403a942519401) n)⟩) ?_;rw[t];refine bL V.int (fun ξ=>Ve A lo up m) (fun ξ=>H) (WD up m Q H) (fun i h=>?_) (fun x r i h=>?_) (dP ((p+1:Nat):Int) m.length) (p+1) ⟨rfl,s,q⟩
 ·haveI q:=h.2.2;rw[Xp (Ye.mp (qm h.1.symm))] at q;exact q
 ·obtain⟨k,rfl,e⟩:=jN h.1.symm;have k:i<m.length:=XG.mp k;haveI q:=h.2.2;rw[Xo k] at q;exact wO u (v _ (Yh k)) (WS k) q fun q=> .mk (i+1) ⟨e,k,q⟩
theorem Cw {p:Nat} (e:p≤k.length) (m:k.length<100000) (q:Q (.bool (cP (k.drop p))) H):Y2 (cx ab (d+2) 762 [aB A k,.int p] H) Q:=by
 refine ao (fr:= %[aB A k,.int p|1]) ly rfl ?_;refine AR (by exact(br 0x440391605f140188075284a32843008401) e m) (by rwa[cr]) ?_;show Y3 (rE _ _ _ ((k.map (bU A)).drop p) _ _) _;rw[←Yd];generalize k.drop p=l at q⊢;refine bL (σ:=Unit) (bU A) (fun ξ=>(.u (.u (.u .e)))) (fun ξ=>H) (fun r ξ=>Q (.bool (cP r)) H) (fun ξ h=>h) (fun n r ξ h=>?_) l () q;refine ze ?_;change Q (.bool (if n.pass=true then cP r else uT n)) H at h;cases e:n.pass with
 |true=>rw[e,WY rfl] at h;exact .mk () h
 |false=>
  rw[e,WX W5] at h;cases n with
  |one a=>cases a with
   |char f c=>exact Hj e
   |kj f c t x y=>exact Hj e
   |_=>exact h
  |_=>exact h
def Nd.gl:Nd→Option Bool
 | .one (.char f _)=>some f
 | .one (.kj f _ _ _ _)=>some f
 |_=>none
def aO (f:Bool):am→ah→Nat×ah
 |[],h=>(0,h)
 |nd::t,h=>if nd.nU f=true∧ ¬(((nd.codes.map cE).any fun e=>decide (e=0))=true∨63<h.length+nd.codes.length) then((aO f t (h++nd.codes.map cE)).1+1,(aO f t (h++nd.codes.map cE)).2) else(0,h)
def kA:aO f (h::t) x=(if h.nU f=true∧ ¬(((h.codes.map cE).any fun e=>decide (e=0))=true∨63<x.length+h.codes.length) then((aO f t (x++h.codes.map cE)).1+1,(aO f t (x++h.codes.map cE)).2) else(0,x)):=rfl
def co (A:Fs) (up:Bool) (p:Nat) (h:am):Option (Nat×Nat×ah):=match bR up (p+1) (h.drop (p+1)) with
 |none=>none
 |some b=>match h[b]?.bind Nd.gl with
  |none=>none
  |some f=>if 0≤(A f).hy∧(A f).hy≤255 then
    (if(aO f (h.drop b) []).2=[]∨cP (h.drop (b+(aO f (h.drop b) []).1))=false then none else some (b,b+(aO f (h.drop b) []).1,(aO f (h.drop b) []).2)) else none
def nY:Option (Nat×Nat×ah)→V
 |none=> .none
 |some (b,e,h)=> .aG [.int b,.int e,.ap (aq h)]
set_option tactic.hygienic true in
theorem fz {up:Bool}: ∀{l:am} {i b:Nat},bR up i l=some b→ ∃k nd f,b=i+k∧l[k]?=some nd∧nd.gl=some f
 |[],_,_,h=>by exact bH h
 |nd::t,i,b,h=>by
  rw[fy] at h;split at h
  ·have x:bR up (i+1) t=some b→ ∃k n f,b=i+k∧(nd::t)[k]?=some n∧n.gl=some f:=fun h=>by
    obtain⟨k,n,f,e,p,q⟩:=fz h;exact⟨k+1,n,f,by exact(bT 0x25080462084200ca020c02308401) e,p,q⟩
   split at h
   ·exact x h
   ·rename_i c r m;split at h
    ·exact x h
    ·split at h
     ·obtain rfl:=dL h;haveI: ∃f,nd.gl=some f:=by
       cases nd with
       |one a=>induction a using At.casesOn<;>first|exact⟨_,rfl⟩|cases(m)
       |_=>cases(m)
      obtain⟨f,s⟩:=this;exact⟨0,nd,f,rfl,rfl,s⟩
     ·exact bH h
  ·exact bH h
def oT {h:Nd} {R:V→Prop} (e:h.gl=some f) (q:R (aJ (A f))):Y1 (pi ab h.cls h.ns (h.vs A) 12) R:=by
 cases h with
 |one a=>induction a using At.casesOn<;>first|(obtain rfl:=dL e;exact q)|exact bH e
 |_=>exact bH e
theorem qC: ∀(l:am) (h:ah),(aO f l h).1≤l.length
 |[],_=>Xl _
 |a::t,h=>by
  rw[kA];split
  ·exact XK (qC t _)
  ·exact W8 _
def FV (h:am):Prop:= ∀a∈h,(∀c∈a.codes,iC c=true)∧a.codes.length≤1000
def V7 (A:Fs) (f:Bool) (lo:V) (h:am) (b e:Nat) (s:Nat×ah):Fr:= %[aB A h,_,lo,_,.int b,aJ (A f),.ref e,.int s.1|2]
def Tl (h:Nat) (H:Hp) (s:Nat×ah):Hp:= .c h (.list (aq s.2)) H
structure Vf (f:Bool) (as:am) (tk:Nat×ah) (s:Nat×ah):Prop where
 le:s.1≤as.length
 fJ:s.2.length≤63
 e1:s.1+(aO f (as.drop s.1) s.2).1=tk.1
 e2:(aO f (as.drop s.1) s.2).2=tk.2
def Vf.stop {e:Nat×ah} (h:Vf f n e s) (k:aO f (n.drop s.1) s.2=(0,s.2)):s=e:=by haveI x:=h.e1;haveI m:=h.e2;rw[k] at x m;exact Prod.ext x m
def Ju (h:x.nU f=true∧ ¬(((x.codes.map cE).any fun e=>decide (e=0))=true∨63<k.length+x.codes.length)):aO f (x::t) k=((aO f t (k++x.codes.map cE)).1+1,(aO f t (k++x.codes.map cE)).2):=WY h
def uU (h: ¬(x.nU f=true∧ ¬(((x.codes.map cE).any fun e=>decide (e=0))=true∨63<k.length+x.codes.length))):aO f (x::t) k=(0,k):=WX h
theorem Cy {lo:V} (J:d3 A) (D:jT lo) (L:FV n) {l:Kt} {b t:Nat} (N:b≤n.length) (w:y=(b+(aO f (n.drop b) []).1,(aO f (n.drop b) []).2))
  (q:l [] %[aB A n,_,_,_,.int b,_,.ref t,.int y.1|2] (Tl t H y) G):
  MS ab (cx ab (d+3)) (gr.body[5]?.getD .pass) l [] (V7 A f lo n b t (b,[])) (Tl t H (b,[])) G:=by
 refine ce (V7 A f lo n b t) (Tl t H) (Vf f n y) (fun s=>n.length-s.1) (fun s h=>?_) (b,[]) ⟨N,W8 _,by rw[w],by rw[w]⟩;haveI stop:aO f (n.drop s.1) s.2=(0,s.2)→l [] %[aB A n,_,_,_,.int b,_,.ref t,.int s.1|2] (Tl t H s) G:=fun k=>by rwa[h.stop k]
 obtain⟨e,p⟩:=s;haveI he:=h.le;haveI a:=h.fJ;change p.length≤63 at a;refine bV (fun x=>?_) fun x=>?_
 ·replace x:e<n.length:=by rw[cr] at x;exact XG.mp x
  have hd:=Xo x;have v:=WS x;obtain⟨z,g⟩:=L _ (Yh x);haveI i:=h.e1;haveI j:=h.e2;change e+(aO f (n.drop e) p).1=y.1 at i;change(aO f (n.drop e) p).2=y.2 at j;change aO f (n.drop e) p=(0,p)→_ at stop;clear h;rw[hd] at i j stop;generalize n[e]=r at v z g i j stop;refine dJ v ?_;refine hO J ?_;cases I:r.nU f with
  |false=>exact stop (uU (by rw[I];exact fun h=>W5 h.1))
  |true=>
   refine dJ v ?_;refine fv ?_;haveI O:r.codes.map (fun c=>V.int (cE c))=aq (r.codes.map cE):=by unfold aq;rw[XW];rfl
   refine cX V.int (fun c=>V.int (cE c)) r.codes (fun c m Q2 U=>?_) ⟨by rw[WP];exact WR g (bM aw),?_⟩
   ·obtain⟨ks,vs,e,_⟩:=D.is;subst e;exact wE D (z c m) (U _)
   rw[O];refine bj tq ?_;refine gy (fun o=>stop (uU fun h=>h.2 (.inl o))) fun o=>?_;refine r5 ?_;refine bV (fun u=>?_) fun u=>?_
   ·rw[aA,aA,WP] at u;exact stop (uU fun h=>h.2 (.inr (XG.mp u)))
   ·rw[aA,aA,WP] at u;replace u:p.length+r.codes.length≤63:=Yn.mp fun k=>u (XG.mpr k);have B:r.nU f=true∧ ¬(((r.codes.map cE).any fun e=>decide (e=0))=true∨63<p.length+r.codes.length):=⟨I,fun h=>h.elim (fun h=>by rw[o] at h;exact dh h) fun h=>Yn.mpr u h⟩;rw[Ju B] at i j;refine dE ?_;haveI C:(p++r.codes.map cE).length≤63:=by rwa[WO,WP]
    refine gA (xs:=aq p) rfl (by rw[aA,aA,WP];exact W9 u (bM aw)) ?_;haveI Y:aq p++aq (r.codes.map cE)=aq (p++r.codes.map cE):=WU.symm;rw[Y];exact .mk (e+1,p++r.codes.map cE) ⟨Yv x (Xr e),x,C,by rw[←i,YG,ZF 1],j⟩
 ·refine stop ?_;rw[cr] at x;show aO f (n.drop e) p=(0,p);rw[Xp (Yn.mp fun k=>x (XG.mpr k))];rfl
theorem fR {lo:V} (o:d3 A) (j:jT lo) (l:FV m) (n:m.length<100000) {p:Nat} (B:p<m.length) {up:Bool} (q:Q (nY (co A up p m)) H):Y2 (cx ab (d+4) 767 [aB A m,.int p,lo,.bool up] H) Q:=by
 refine ao (fr:= %[aB A m,.int p,lo,.bool up|6]) pR rfl ?_;refine ox j (fun a h=>(l a h).1) n B ?_;unfold co at q;cases y:bR up (p+1) (m.drop (p+1)) with
 |none=>rw[y] at q;exact q
 |some b=>
  rw[y] at q;obtain⟨k,C,f,e,t,z⟩:=fz y;rw[Xv,←e] at t;have u:b<m.length:=(Xf.mp t).1
  change Q (nY (match m[b]?.bind Nd.gl with|none=>none|some f=>if 0≤(A f).hy∧(A f).hy≤255 then(if(aO f (m.drop b) []).2=[]∨cP (m.drop (b+(aO f (m.drop b) []).1))=false then none else some (b,b+(aO f (m.drop b) []).1,(aO f (m.drop b) []).2)) else none)) H at q;rw[t] at q
  change Q (nY (match C.gl with|none=>none|some f=>if 0≤(A f).hy∧(A f).hy≤255 then(if(aO f (m.drop b) []).2=[]∨cP (m.drop (b+(aO f (m.drop b) []).1))=false then none else some (b,b+(aO f (m.drop b) []).1,(aO f (m.drop b) []).2)) else none)) H at q;rw[z] at q;change Q (nY (if 0≤(A f).hy∧(A f).hy≤255 then(if(aO f (m.drop b) []).2=[]∨cP (m.drop (b+(aO f (m.drop b) []).1))=false then none else some (b,b+(aO f (m.drop b) []).1,(aO f (m.drop b) []).2)) else none)) H at q;refine dJ t ?_;refine oT z ?_;refine bV (fun g=>?_) fun g=>by rw[WX fun h=>g h.1] at q;exact q
  refine bV (fun i=>?_) fun i=>by rw[WX fun h=>i h.2] at q;exact q
  rw[WY ⟨g,i⟩] at q;refine dJ t ?_;refine oT z fun I D=>?_;refine Cy o j l (Xq u) rfl ?_;refine iU ?_;refine bj qB ?_;haveI v:b+(aO f (m.drop b) []).1≤m.length:=by haveI:=qC (f:=f) (m.drop b) [];rw[WT] at this;exact(bT 0x100860208030880210883108401) u this
  generalize aO f (m.drop b) []=c at q v⊢;cases s:c.2 with
  |nil=>rw[WY (.inl s)] at q;exact q
  |cons x r=>
   refine Cw v n ?_;cases w:cP (m.drop (b+c.1)) with
   |false=>rw[WY (.inr w)] at q;exact q
   |true=>rw[WX (by rw[s,w];rintro(h|h)<;>(first|exact Hj h|cases(h))),s] at q;exact q
end
section
variable {d:Nat} {f:Bool}
def aC:am→Nat
 |[]=>0
 |nd::t=>if nd.kind=5 then aC t+1 else 0
def oU:aC (h::t)=(if h.kind=5 then aC t+1 else 0):=rfl
def aQ (l:am):Nat:=aC (l.drop (aC l)).reverse
theorem jV: ∀l:am,aC l≤l.length
 |[]=>Xl _
 |nd::t=>by
  rw[oU];split
  ·exact XK (jV t)
  ·exact W8 _
def iy (l:am):aC l+aQ l≤l.length:=by haveI:=jV (l.drop (aC l)).reverse;rw[Xi,WT] at this;haveI:=jV l;unfold aQ;grind
theorem mI {a b:Nat} (h:b≤a):(a:Int)-b=((a-b:Nat):Int):=by grind
def tv:aC (h::t)=if h.kind=5 then aC t+1 else 0:=rfl
theorem tw {i:Nat} (v:i=aC m) (q:Q (.aG [.int (aC m),.int (aQ m)]) H):WB ab (cx ab d) (hG.body.drop 2) %[aB p m,.int i,.int 0|0] H (cp none H Q):=by
 have r:i≤m.length:=v▸jV m;refine ce (fun t:Nat=> %[aB p m,.int i,.int t|0]) (fun ξ=>H) (fun t=>i+t≤m.length∧t+aC ((m.drop i).reverse.drop t)=aQ m) (fun t=>m.length-i-t) (fun t h=>?_) 0 ⟨r,by rw[v];exact X2 _⟩;have s:t=aQ m→Q (.aG [.int i,.int t]) H:=fun e=>by rwa[v,e]
 have y:((m.map (bU p)).length:Int)-i=((m.length-i:Nat):Int):=by rw[cr];exact mI r
 refine bV (fun x=>?_) fun x=>?_
 ·change(t:Int)<((m.map (bU p)).length:Int)-i at x;rw[y] at x;replace x:t<m.length-i:=XG.mp x;have u:t<(m.drop i).reverse.length:=by rwa[Xi,WT]
  haveI hd:=Xo u;haveI z:m[m.length-1-t]?=some (m.drop i).reverse[t]:=by rw[←WS u,X7 (by rwa[WT]),WT,Xv];congr 1;exact(bT 0x4a11006211c441084418803108c218c44108401) x
  have n:=h.2;rw[hd,tv] at n;generalize (m.drop i).reverse[t]=j at z n;haveI g:((m.map (bU p)).length:Int)-1-t=((m.length-1-t:Nat):Int):=by rw[cr];exact(bT 0xaae200c4230862b0062122c218c44108401) x
  refine(W4 (fun k:Int=>Y1 (fK (aB p m) (.int k)) _) g).mpr (dJ z ?_);refine gi ?_;refine bQ (fun w=>?_) fun w=>?_
  ·rw[WY w] at n;exact .mk (t+1) ⟨by exact(bT 0x8c401888210c60118031104218c44108401) x,by exact(bT 0x402184023004418c44108401) x,by exact(bT 0x2420c021804600c8418402308401) n⟩
  ·rw[WX w] at n;exact s n
 ·change¬(t:Int)<((m.map (bU p)).length:Int)-i at x;rw[y] at x;have n:=h.2;rw[Xp (by rw[Xi,WT];exact Yn.mp fun k=>x (XG.mpr k))] at n;exact s n
theorem jW (q:Q (.aG [.int (aC x),.int (aQ x)]) H):Y2 (cx ab (d+1) 786 [aB p x] H) Q:=by
 refine ao (fr:= %[aB p x|2]) rT rfl ?_;refine ce (fun i:Nat=> %[aB p x,.int i,.int 0|0]) (fun ξ=>H) (fun i=>i+aC (x.drop i)=aC x) (fun i=>x.length-i) (fun i h=>?_) 0 (X2 _);refine bV (fun e=>?_) fun e=>?_
 ·replace e:i<x.length:=by rw[cr] at e;exact XG.mp e
  haveI m:=WS e;rw[Xo e,tv] at h;generalize x[i]=s at m h;refine dJ m ?_;refine gi ?_;refine bQ (fun n=>?_) fun n=>?_
  ·rw[WY n] at h;exact .mk (i+1) ⟨by exact(br 0x462008431804600843108401) e,by exact(bT 0x2420c021804600c8418402308401) h⟩
  ·rw[WX n] at h;exact tw h q
 ·rw[cr] at e;rw[Xp (Yn.mp fun k=>e (XG.mpr k))] at h;exact tw h q
def Nd.FW:Nd→PyData
 | .one (.char f c)=> .tuple [.int 0,.int (num f),.int c]
 | .one (.kj f c h l r)=> .tuple [.int 1,.int (num f),.int c,.tuple (AT h),.bool l,.bool r]
 | .one (.cJ w s)=> .tuple [.int 5,.int w,.int s]
 |n=> .tuple [.int n.kind]
def toD_tup:toD (n+2) (.aG (aq h))=some (.tuple (AT h)):=by show(match toDs (toD (n+1)) (aq h) with|some e=>some (PyData.tuple e)|none=>none)=_;rw[toDs_ints]
theorem zg: ∀{h:Nd},toD (n+3) h.mk=some h.FW
 | .one (.char ..)=>rfl
 | .one (.kj f c e l r)=>by
  show(match toDs (toD (n+2)) [V.int 1,.int (num f),.int c,.aG (aq e),.bool l,.bool r] with|some x=>some (PyData.tuple x)|none=>none)=_;simp only[toDs,toD_tup]
  rfl
 | .one (.cJ ..)=>rfl
 | .one (.Fz _)=>rfl
 | .one (.lD ..)=>rfl
 | .one (.spec _)=>rfl
 | .skip=>rfl
 | .cI .. =>rfl
theorem AU: ∀{h:am},toDs (toD (n+3)) (h.map Nd.mk)=some (h.map Nd.FW)
 |[]=>rfl
 |a::h=>by show(match toD (n+3) a.mk with|some d=>(match toDs (toD (n+3)) (h.map Nd.mk) with|some e=>some (d::e)|none=>none)|none=>none)=_;rw[zg,AU];rfl
def jX (h e:am):Bool:=PyData.eqvAll (h.map Nd.FW) (e.map Nd.FW)
def r7 (a b:Nd):Bool:=PyData.eqv a.FW b.FW
def FX:lp .eq (.ap (h.map Nd.mk)) (.ap (e.map Nd.mk))=some (jX h e):=by
 have t: ∀{h:am},toD 12 (.ap (h.map Nd.mk))=some (.list (h.map Nd.FW)):=fun{h}=>by show(match toDs (toD (8+3)) (h.map Nd.mk) with|some k=>some (PyData.list k)|none=>none)=_;rw[AU]
 show(match(h.map Nd.mk).length !=(e.map Nd.mk).length with|true=>some false|false=>Hm (.ap (h.map Nd.mk)) (.ap (e.map Nd.mk)))=_;cases x:(h.map Nd.mk).length !=(e.map Nd.mk).length with
 |true=>rw[WP,WP] at x;refine W4 some (PySem.SeqAt.eqvAll_other_length ?_).symm;rw[WP,WP];simpa using x
 |false=>show(match toD 12 (.ap (h.map Nd.mk)) with|some a=>(match toD 12 (.ap (e.map Nd.mk)) with|some b=>some (PyData.eqv a b)|none=>none)|none=>none)=_;rw[t,t];show some (PyData.eqv _ _)=_;rw[PyData.eqv];rfl
def AV:lp .ne a.mk b.mk=some (!r7 a b):=by show neg (match toD 12 a.mk with|some x=>(match toD 12 b.mk with|some y=>some (PyData.eqv x y)|none=>none)|none=>none)=_;rw[zg (n:=9),zg (n:=9)];rfl
def nZ (x:d3 e) (k:h.length≤1000000) (q:Q (.ap (h.map Nd.mk)) H):Y2 (cx ab (d+2) 779 [aB e h] H) Q:=by refine ao (fr:= %[aB e h|1]) yo rfl ?_;exact cX (bU e) Nd.mk h (fun a m r n=>gC x (n _)) ⟨by rw[WP];exact k,q⟩
end
section
variable {fd:Fs} {f:Bool}
theorem NY {α:Type} {x:List α} {a b:Nat}:hX x (some (a:Int)) (some (b:Int))=(x.drop a).take (b-a):=by
 have e: ∀c:Nat,gQ x.length (c:Int)=min c x.length:=fun c=>by unfold gQ;rw[WX (by exact(bC 9261165569)),X9]
 show(x.drop (gQ x.length (a:Int))).take (gQ x.length (b:Int)-gQ x.length (a:Int))=_;rw[e a,e b];rcases Za a x.length with h|h
 ·rw[Yb h];rcases Za b x.length with h2|h2
  ·rw[Yb h2]
  ·rw[YU h2,X4 (by rw[WT];exact Xl _),X4 (by rw[WT];exact(bT 0x84441086220803008401) h2)]
 ·rw[YU h,Xp (Xl _),Xp h,ZQ,ZQ]
def sl {α:Type} (h:List α) (a b:Nat):List α:=(h.drop a).take (b-a)
def NZ:sl (h.map (bU fd)) a b=(sl h a b).map (bU fd):=by unfold sl;rw[←Yd,←YB]
def qD {α:Type} {h:List α}:(sl h a b).length≤h.length:=by unfold sl;rw[Xg,WT];exact(bT 0x2020ca210883108401)
theorem mJ {as:am} {a b:Nat} {K:V→Prop} (ha:a<1000000) (hb:b<1000000) (q:K (aB fd (sl as a b))):Y1 (dz (aB fd as) (some (.int a)) (some (.int b))) K:=by unfold dz;rw[iW ha,iW hb];show K (.ap (hX (as.map (bU fd)) (some (a:Int)) (some (b:Int))));rw[NY];show K (.ap (sl (as.map (bU fd)) a b));rwa[NZ]
def iZ (f:Bool):am→Nat
 |[]=>0
 |nd::t=>if nd.nU f then iZ f t+1 else 0
def nq:iZ f (h::t)=(if h.nU f then iZ f t+1 else 0):=rfl
abbrev Rn:=Bool→Bool→Bool→ah→List At
structure lH (fd:Fs) (rn:Rn) (cok:Bool→ah→Prop):Prop where
 run: ∀f l r codes,cok f codes→kM (fd f) f r [] l codes (rn f l r codes)
 fJ: ∀f l r codes,cok f codes→(rn f l r codes).length≤900
 Vg: ∀f codes,cok f codes→codes.length≤900∧ ∀c∈codes,0≤c∧c≤255
 Cz: ∀f,hP (fd f)
 num:d3 fd
variable {cok:Bool→ah→Prop}
def aT (e:Rn) (f:Bool) (h:ah) (p:Bool×Bool):am:=(e f p.1 p.2 h).map Nd.one
def kB:gh fd as=aB fd (as.map Nd.one):=by unfold gh aB;rw[XW];rfl
def zh (e:lH fd k cok) (x:cok f h) (q:Q (aB fd (aT k f h p)) H):Y2 (cx ab (d+10) 726 [aJ (fd f),.ap (aq h),.bool p.1,.bool p.2] H) Q:=
 NU (e.Cz f) (e.Vg f h x).1 (e.Vg f h x).2 (WR (e.fJ f _ _ h x) (bM aw)) (e.run f _ _ h x) (by rwa[kB])
def tx (e:lH fd x cok) (k:cok f h):(aT x f h p).length≤900:=by unfold aT;rw[WP];exact e.fJ f _ _ h k
def cQ (x:Rn) (f:Bool) (k:am) (h:ah) (first e:Nat):List (Bool×Bool)→Nat×Nat×Bool×Bool
 |[]=>(first,e,false,false)
 |p::t=>if jX (aT x f h p) (sl k (first-aC (aT x f h p)) (e+aQ (aT x f h p)))=true then(first-aC (aT x f h p),e+aQ (aT x f h p),p.1,p.2)
  else cQ x f k h first e t
def jY:cQ x f k h first e (p::t)=(if jX (aT x f h p) (sl k (first-aC (aT x f h p)) (e+aQ (aT x f h p)))=true then(first-aC (aT x f h p),e+aQ (aT x f h p),p.1,p.2)
  else cQ x f k h first e t):=rfl
def Ls (fd:Fs) (f:Bool) (w:Nat) (h:ah) (H:Hp) (g:Nat×Nat×Bool×Bool):Hp:=
 .c w (.inst 831 [12,53,55,57,37,38] [aJ (fd f),.int g.1,.int g.2.1,.ap (aq h),.bool g.2.2.1,.bool g.2.2.2]) H
def d':List (Bool×Bool):=[(true,true),(false,true),(true,false),(false,false)]
def WF (x:Rn) (f:Bool) (k:am) (h:ah) (first e:Nat) (m:List (Bool×Bool)) (_:Unit):Prop:=(∀p∈m,aC (aT x f h p)≤first)∧cQ x f k h first e m=cQ x f k h first e d'
def zi (u:lH fd x cok) (m:r.length<10000) (s:first≤r.length∧e≤r.length) (z:cok f h) (g:aC (aT x f h p)≤first)
  (q:jX (aT x f h p) (sl r (first-aC (aT x f h p)) (e+aQ (aT x f h p)))=true→Q .none (Ls fd f w h H (first-aC (aT x f h p),e+aQ (aT x f h p),p.1,p.2)))
  (n:jX (aT x f h p) (sl r (first-aC (aT x f h p)) (e+aQ (aT x f h p)))=false→J %[.ref w,aB fd r|5] (Ls fd f w h H (first,e,false,false))):
  MA ab (cx ab (d+10)) (.aG [2,3]) (MB ab (cx ab (d+10)) [.asg (.name 4) (.call (.ae 30) [.ai (.af 0) 12,.ai (.af 0) 57,.af 2,.af 3]),.asg (.aG [5,6]) (.call (.ae 115) [.af 4]),.bs (.aE (.call (.ae 116) [.af 4]) .eq (.call (.ae 116) [.slice (.af 1) (some (.aS .sub (.ai (.af 0) 53) (.af 5))) (some (.aS .add (.ai (.af 0) 55) (.af 6)))])) [.asg (.ai (.af 0) 37) (.af 2),.asg (.ai (.af 0) 38) (.af 3),.rD (.af 0) 53 .sub (.af 5),.rD (.af 0) 55 .add (.af 6),.ret none] []] bn) [.aG [.bool p.1,.bool p.2]]
   %[.ref w,aB fd r|5] (Ls fd f w h H (first,e,false,false)) (dT [2,3,4,5,6] J (i8 [0,1,2,3,4,5,6] bn (cp none H Q))):=by
 refine ou (ou ?_);refine zh u z (jW ?_);have t:=tx u (p:=p) z;refine nZ u.num (WR t (bM aw)) (ou ?_);refine ou ?_;haveI y:=iy (aT x f h p);generalize aC (aT x f h p)=ld at q n g y⊢;generalize aQ (aT x f h p)=v at q n y⊢;have i:(first:Int)-ld=((first-ld:Nat):Int):=mI g;haveI j:(e:Int)+v=((e+v:Nat):Int):=rfl;refine(W4 (fun k:Int=>Y1 (dz (aB fd r) (some (.int k)) (some (.int ((e:Int)+v)))) _) i).mpr (mJ (b:=e+v) ((fH 0x2201c8b02f8b118421b4001106000843180f0549401) m s) ((xY 0x1100e45817c5814220c061814240c083e1461b4001106000843180f0549401) m s t y) ?_);refine nZ u.num (WR qD ((bC 0x800722c0be2803180f0549401) m)) (bj FX ?_);refine gy (fun l=>?_) n;haveI q:=q l;unfold Ls at q;dsimp only at q;rw[←i,←j] at q;refine aP rfl (aP rfl ?_);refine ou (aP rfl ?_);exact ou (aP rfl q)
def r8 (y:lH fd n cok) (s:r.length<10000) (t:first≤r.length∧k≤r.length) (z:cok f x) (u: ∀p∈d',aC (aT n f x p)≤first)
  (q:Q .none (Ls fd f w x H (cQ n f r x first k d'))):Y2 (cx ab (d+11) 807 [.ref w,aB fd r] (Ls fd f w x H (first,k,false,false))) Q:=by
 refine ao (fr:= %[.ref w,aB fd r|5]) jD rfl (bL (fun p:Bool×Bool=> .aG [.bool p.1,.bool p.2]) (fun ξ=> %[.ref w,aB fd r|5]) (fun ξ=>Ls fd f w x H (first,k,false,false)) (WF n f r x first k) (fun ξ h=>?_) (fun p g ξ h=>?_) d' () ⟨u,rfl⟩)
 ·rw[←h.2] at q;exact q
 ·have e:=h.2
  replace e:(if jX (aT n f x p) (sl r (first-aC (aT n f x p)) (k+aQ (aT n f x p)))=true then(first-aC (aT n f x p),k+aQ (aT n f x p),p.1,p.2)
   else cQ n f r x first k g)=cQ n f r x first k d':=e
  refine zi y s t z (h.1 p (.head _)) (fun v=>?_) fun v=> .mk () ⟨fun p m=>h.1 p (.tail _ m),?_⟩
  ·rw[WY v] at e;rw[←e] at q;exact q
  ·rw[WX (by rw[v];exact W5)] at e;exact e
end
section
variable {d:Nat}
theorem uV: ∀l:am,iZ f l≤l.length
 |[]=>Xl _
 |nd::t=>by
  rw[nq];split
  ·exact XK (uV t)
  ·exact W8 _
def aH (f:Bool) (h:am) (b:Nat):Nat:=b-iZ f (h.take b).reverse
def aZ (f:Bool) (h:am) (e:Nat):Nat:=e+iZ f (h.drop e)
structure SD where
 first:Nat
 last:Nat
 codes:ah
 l:Bool
 r:Bool
def V8:Nonempty SD:=⟨⟨0,0,[],false,false⟩⟩
def aM (f:Bool) (h:am) (b e:Nat):Nat:=aH f h b+aC (sl h (aH f h b) (aZ f h e))
def bc (f:Bool) (h:am) (b e:Nat):Nat:=aZ f h e-aQ (sl h (aH f h b) (aZ f h e))
def bq (f:Bool) (h:am) (b e:Nat):ah:=(sl h (aM f h b e) (bc f h b e)).flatMap Nd.codes
def aj (x:Rn) (f:Bool) (h:am) (b e:Nat):SD:=
 let g:=cQ x f h (bq f h b e) (aM f h b e) (bc f h b e) d'
 ⟨g.1,g.2.1,bq f h b e,g.2.2.1,g.2.2.2⟩
def dB:Int→am→ah
 |a,[]=>[a]
 |a,h::t=>a::dB (a+h.codes.length) t
def jp (e:Fs) (f:Bool) (x:am) (h:SD):V:= .inst 831 [12,53,55,57,37,38,59,60]
 [aJ (e f),.int h.first,.int h.last,.ap (aq h.codes),.bool h.l,.bool h.r,aB e (sl x h.first h.last),.ap (aq (dB 0 (sl x h.first h.last)))]
def FY {α:Type} {e:List α} (h:i<e.length):(e.take (i+1)).reverse=e[i]::(e.take i).reverse:=by rw[List.take_succ_eq_append_getElem h,Z2];rfl
def CA (h:Fs) (w:Nat) (x:am) (i e:Nat):Fr:= %[.ref w,aB h x,_,_,.int i,.int e|3]
def CB (h:Fs) (f:Bool) (w:Nat) (H:Hp):Hp:= .c w (.inst 831 [12] [aJ (h f)]) H
def wP (e:i<h.length):aH f h (i+1)=if h[i].nU f then aH f h i else i+1:=by
 unfold aH;rw[FY e];show i+1-(if h[i].nU f then iZ f (h.take i).reverse+1 else 0)=_;split
 ·exact Nat.succ_sub_succ ..
 ·rfl
theorem zj (u:d3 m) {w:Nat} {b e:Nat} (v:b≤x.length) {r:Kt} (q:r [] (CA m w x (aH f x b) e) (CB m f w H) y):
  Y3 (DC (MT ab (cx ab (d+3)) (.ay true [.aE (.af 4) .gt (.int 0),.call (.ae 106) [.bp (.af 1) (.aS .sub (.af 4) (.int 1)),.ai (.af 0) 12]]) (fun k=>k)) (MB ab (cx ab (d+3)) [.iF 4 .sub (.int 1)]) [2,3,6,7,8] (CA m w x b e) (CB m f w H)) (i8 [] r y):=by
 refine ce (fun i=>CA m w x i e) (fun ξ=>CB m f w H) (fun i=>i≤x.length∧aH f x i=aH f x b) (fun i=>i) (fun i h=>?_) b ⟨v,rfl⟩;obtain⟨z,h⟩:=h;cases i with
 |zero=>haveI:aH f x 0=0:=Nat.zero_sub _;rw[this] at h;rw[←h] at q;exact q
 |succ i=>
  have n:i<x.length:=z;have s:((i+1:Nat):Int)-1=(i:Int):=Zw i 1;haveI p:=WS n;rw[wP n] at h;generalize x[i]=g at p h;refine jf (XG.mpr (YN i)) ?_;refine(W4 (fun k:Int=>Y1 (fK (aB m x) (.int k)) _) s).mpr (dJ p ?_);refine ou ?_;refine hO u ?_;cases t:g.nU f with
  |true=>rw[t,WY rfl] at h;show Lo _ _ _ %[(_),(_),_,_,.int (((i+1:Nat):Int)-1),(_)|3] _;rw[s];exact .mk i ⟨Xr i,Xq n,h⟩
  |false=>rw[t,WX W5] at h;rw[←h] at q;exact q
theorem CC (u:d3 n) {w:Nat} {b e:Nat} (v:e≤m.length) {r:Kt} (q:r [] (CA n w m b (aZ f m e)) (CB n f w H) y):
  Y3 (DC (MT ab (cx ab (d+3)) (.ay true [.aE (.af 5) .lt (.call (.ae 0) [.af 1]),.call (.ae 106) [.bp (.af 1) (.af 5),.ai (.af 0) 12]]) (fun k=>k)) (MB ab (cx ab (d+3)) [.iF 5 .add (.int 1)]) [2,3,6,7,8] (CA n w m b e) (CB n f w H)) (i8 [] r y):=by
 refine ce (fun i=>CA n w m b i) (fun ξ=>CB n f w H) (fun i=>i≤m.length∧i+iZ f (m.drop i)=aZ f m e) (fun i=>m.length-i) (fun i h=>?_) e ⟨v,rfl⟩;obtain⟨z,h⟩:=h;refine bV (fun x=>?_) fun x=>?_
 ·replace x:i<m.length:=by rw[cr] at x;exact XG.mp x
  haveI p:=WS x;rw[Xo x] at h;generalize m[i]=s at p h;change i+(if s.nU f then iZ f (m.drop (i+1))+1 else 0)=aZ f m e at h;refine dJ p ?_;refine ou ?_;refine hO u ?_;cases t:s.nU f with
  |true=>rw[t,WY rfl] at h;exact .mk (i+1) ⟨Yv x (Xr i),x,by rw[←h,YG,ZF 1]⟩
  |false=>rw[t,WX W5] at h;rw[←h] at q;exact q
 ·rw[cr] at x;rw[Xp (Yn.mp fun k=>x (XG.mpr k))] at h;change i=aZ f m e at h;rw[←h] at q;exact q
def Tn (e:Fs) (f:Bool) (w h:Nat) (a b:Int) (H:Hp) (x:ah):Hp:= .c h (.list (aq x)) (.c w (.inst 831 [12,53,55,57] [aJ (e f),.int a,.int b,.ref h]) H)
def zk {l:am} (eo:n≠w) (e:(l.flatMap Nd.codes).length≤900) {R:cy} (q:R .next %[.ref w,aB k s|7] (Tn k f w n a b H (l.flatMap Nd.codes))):
  Y3 (rE (MA ab (cx ab (d+1)) (.name 8)) (MB ab (cx ab (d+1)) [.expr (.bS (.ai (.af 0) 57) .cN [.call (.ae 107) [.af 8]])]) [2,3,4,5,6,7,8] (l.map (bU k)) %[.ref w,aB k s|7] (Tn k f w n a b H [])) R:=by
 refine bL (bU k) (fun ξ=> %[.ref w,aB k s|7]) (Tn k f w n a b H) (fun r x=>x++r.flatMap Nd.codes=l.flatMap Nd.codes) (fun x h=>?_) (fun m r x h=>?_) l [] rfl
 ·rw[List.flatMap_nil,Xe] at h;rwa[h]
 ·rw[Yj] at h;haveI p:x.length+m.codes.length≤900:=by
   rw[←h,WO,WO] at e;exact WR (X5 (Yo ..) _) e
  refine cf ((aD eo).trans ba) (dE ?_);refine fv ?_;refine gA (xs:=aq x) rfl (by rw[aA,aA];exact W9 p (bM aw)) ?_;haveI t:aq x++aq m.codes=aq (x++m.codes):=WU.symm;rw[t];exact .mk (x++m.codes) (by rwa[WW])
def Vh (e:Fs) (f:Bool) (x:am) (h:SD) (b:V):Ob:= .inst 831 [12,53,55,57,37,38,59,60] [aJ (e f),.int h.first,.int h.last,.ap (aq h.codes),.bool h.l,.bool h.r,aB e (sl x h.first h.last),b]
def Jv (e:Fs) (f:Bool) (x:am) (k:SD) (w h:Nat) (H:Hp) (m:ah):Hp:= .c h (.list (aq m)) (.c w (Vh e f x k (.ref h)) H)
def wQ (eo:m≠w) (n:l.length≤10000) {R:cy} (q:R .next %[.ref w|8] (Jv k f as sd w m H (dB 0 l))):
  Y3 (rE (MA ab (cx ab (d+1)) (.name 8)) (MB ab (cx ab (d+1)) [.expr (.bS (.ai (.af 0) 60) .append [.aS .add (.bp (.ai (.af 0) 60) (.neg (.int 1))) (.call (.ae 0) [.call (.ae 107) [.af 8]])])]) [1,2,3,4,5,6,7,8] (l.map (bU k)) %[.ref w|8] (Jv k f as sd w m H [0])) R:=by
 refine bL (bU k) (fun ξ=> %[.ref w|8]) (fun s:ah×Int=>Jv k f as sd w m H (s.1++[s.2])) (fun r s=>s.1++dB s.2 r=dB 0 l∧s.1.length+r.length=l.length) (fun s h=>?_) (fun p r s h=>?_) l ([],0) ⟨rfl,X2 _⟩
 ·haveI e:s.1++[s.2]=dB 0 l:=h.1;rwa[e]
 ·obtain⟨x,a⟩:=s;have t:x.length+(r.length+1)=l.length:=h.2;have u:an (Jv k f as sd w m H (x++[a])) w=some (Vh k f as sd (.ref m)):=(aD eo).trans ba;haveI z:aq (x++[a])=aq x++[.int a]:=WU;refine cf u (dE ?_);refine cf u (r5 ?_);rw[z];refine wD (fv ?_);refine fN (xs:=aq (x++[a])) (by rw[aA,WO];exact W9 (WR (X5 (Nat.le_add_left 1 _) _) (WR (ZC t) n)) (bM aw)) ?_;haveI g:aq (x++[a])++[V.int (a+((aq p.codes).length:Nat))]=aq ((x++[a])++[a+p.codes.length]):=by rw[aA];exact(WU (f:=V.int) (l₁:=x++[a]) (l₂:=[a+(p.codes.length:Int)])).symm
  rw[g];exact .mk (x++[a],a+p.codes.length) ⟨by rw[WW];exact h.1,by rw[WO,XR,YG,ZF 1];exact t⟩
end
section
variable {d:Nat} {A:Fs} {B:Bool→ah→Prop}
def CD (x:b≤h.length):aM f h b e≤h.length:=by
 haveI k:=jV (sl h (aH f h b) (aZ f h e));haveI m:(sl h (aH f h b) (aZ f h e)).length≤h.length-aH f h b:=by unfold sl;rw[Xg,WT];exact Nat.min_le_right _ _
 haveI n:aH f h b≤h.length:=WR (Yt _ _) x;exact WR (X5 (WR k m) _) (ZC (Z3 n))
def wR (x:e≤h.length):aZ f h e≤h.length:=by haveI:=uV (f:=f) (h.drop e);rw[WT] at this;exact WR (X5 this _) (ZC (Z3 x))
theorem wS (k:lH A m B) (q:B f h) (e:a≤n) (x:b≤n): ∀r,(cQ m f as h a b r).1≤n∧(cQ m f as h a b r).2.1≤n+900
 |[]=>⟨e,WR x (Yo ..)⟩
 |p::t=>by
  rw[jY];split
  ·exact⟨WR (Yt ..) e,Nat.add_le_add x (WR (WR (Nat.le_add_left ..) (iy _)) (tx k q))⟩
  ·exact wS k q e x t
def Jw (x:sd.first<1000000∧sd.last<1000000) (k:h.length≤10000) (q:Q (jp A f h sd) H):
  MB ab (cx ab (d+2)) (e9.body.drop 13) bn [] %[.ref w,aB A h|7] (Ls A f w sd.codes H (sd.first,sd.last,sd.l,sd.r)) (cp none H (BA true w H Q)):=by
 refine ou (ou ?_);refine mJ x.1 x.2 (aP rfl fun e m=>?_);have eo:=(cb m).1.symm;refine qs eo rfl (cf ((aD eo).trans ba) ?_);refine wQ (as:=h) (sd:=sd) eo (WR qD k) ⟨Jv A f h sd w e .e (dB 0 (sl h sd.first sd.last)),rfl,?_⟩;haveI:fg 2 (Jv A f h sd w e .e (dB 0 (sl h sd.first sd.last))) (.ref w)=jp A f h sd:=by show(match an (Jv A f h sd w e .e (dB 0 (sl h sd.first sd.last))) w with|some o=>_|none=>_:V)=_;haveI n:an (Jv A f h sd w e .e (dB 0 (sl h sd.first sd.last))) w=some (Vh A f h sd (.ref e)):=(aD eo).trans ba;rw[n];show V.inst 831 _ [_,_,_,_,_,_,_,fg 1 _ (.ref e)]=_;haveI p:fg 1 (Jv A f h sd w e .e (dB 0 (sl h sd.first sd.last))) (.ref e)= .ap (aq (dB 0 (sl h sd.first sd.last))):=AN;rw[p];rfl
 rwa[this]
def Jx (m:lH A n B) (x:h.length<10000) (i:b≤h.length) (j:e≤h.length) (r:B f (bq f h b e)) (s: ∀p∈d',aC (aT n f (bq f h b e) p)≤aM f h b e)
  (q:Q (jp A f h (aj n f h b e)) H):
  MB ab (cx ab (d+11)) (e9.body.drop 7) bn [] %[.ref w,aB A h,_,_,.int (aH f h b),.int (aZ f h e),.int (aC (sl h (aH f h b) (aZ f h e))),.int (aQ (sl h (aH f h b) (aZ f h e)))|1] (.c w (.inst 831 [12,53,55] [aJ (A f),.int (aM f h b e),.int (bc f h b e)]) H) (cp none H (BA true w H Q)):=by
 have t:=CD (f:=f) (e:=e) i;have u:bc f h b e≤h.length:=WR (Yt ..) (wR j);intro l v;have eo:=(cb v).1.symm;have y: ∀{z:aN} {g:aL} {o:Ob},an (.c l o (.c w (.inst 831 g z) H)) w=some (.inst 831 g z):=(aD eo).trans ba;refine qs eo rfl (cf y ?_);refine cf y (mJ ((br 0x1100e45817c5086000843180f0549401) x t) ((br 0x1100e45817c5086000843180f0549401) x u) ?_);refine zk eo (m.Vg f _ r).1 (cf y ?_);refine r5 ?_;unfold DG Tn;simp only[oQ,b7];refine aP rfl (aP rfl ?_);refine ou (r8 m x ⟨t,u⟩ r s ?_);have k:=wS m (as:=h) r t u d';exact Jw (sd:=aj n f h b e) ⟨W9 k.1 ((bC 0x880722c0be2803180f0549401) x),W9 k.2 ((bC 0x1100e45817c58107c2803180f0549401) x)⟩ (Xq x) q
theorem qE (m:lH A y B) {b e:Nat} (z:h[b]?=some g) (n:g.gl=some f) (r:e≤h.length) (x:h.length<10000) (i:B f (bq f h b e)) (s: ∀p∈d',aC (aT y f (bq f h b e) p)≤aM f h b e)
  (q:Q (jp A f h (aj y f h b e)) H):Y2 (cx ab (d+13) 831 [aB A h,.int b,.int e] H) Q:=by
 have k:=(Xf.mp z).1;refine cD sH.2 sH.1 rfl fun w a=>?_;refine ao (fr:= %[.ref w,aB A h,.int b,.int e|5]) rS rfl ?_;refine dJ z ?_;refine oT n ?_;refine aP rfl ?_;refine zj m.num (Xq k) ?_;refine CC m.num r ?_;haveI t:=wR (f:=f) r;haveI u:aH f h b≤h.length:=WR (Yt ..) (Xq k);refine mJ (by exact(br 0x1100e45817c5086000843180f0549401) x u) (by exact(br 0x1100e45817c5086000843180f0549401) x t) ?_;refine jW ?_;haveI j:=iy (sl h (aH f h b) (aZ f h e));haveI v:(sl h (aH f h b) (aZ f h e)).length≤aZ f h e:=by unfold sl;exact WR (List.length_take_le _ _) (Yt ..)
 haveI l:((aZ f h e:Nat):Int)-(aQ (sl h (aH f h b) (aZ f h e)):Nat)=((bc f h b e:Nat):Int):=mI (WR (WR (Nat.le_add_left ..) j) v);refine aP rfl ?_;refine aP rfl ?_;rw[l];exact Jx m x (Xq k) r i s q
end
section
variable {d:Nat}
def cT (place:Int):Int→am→am→Nat
 |a,e::t,h::x=>if a+e.codes.length≤place∧r7 e h=true then cT place (a+e.codes.length) t x+1 else 0
 |_,[],_=>0
 |_,_::_,[]=>0
def Jy {place:Int}:cT place a (e::t) (h::x)=(if a+e.codes.length≤place∧r7 e h=true then cT place (a+e.codes.length) t x+1 else 0):=rfl
def CE {place:Int}:cT place a l []=0:=by induction l using List.casesOn<;>rfl
theorem CF: ∀{a:Int} {l:am},(dB a l)[0]?=some a
 |_,[]=>rfl
 |_,_::_=>rfl
theorem qF: ∀{a:Int} {l:am},(dB a l).length=l.length+1
 |_,[]=>rfl
 |a,h::t=>W4 (· +1) qF
structure WG (place:Int) (ns hs:am) (n i:Nat):Prop where
 ex: ∃a,(dB 0 ns).drop i=dB a (ns.drop i)∧i+cT place a (ns.drop i) (hs.drop i)=n
theorem zl {e:am} {i:Nat} (h:(i:Int)<((e.map (bU x)).length:Nat)):i<e.length:=by rw[cr] at h;exact XG.mp h
def uW {e:am} {i:Nat} (h: ¬(i:Int)<((e.map (bU x)).length:Nat)):e.length≤i:=by rw[cr] at h;exact Yn.mp fun k=>h (XG.mpr k)
theorem FZ (b:d3 t) (y:m=sl z s.first s.last) {place:Int} (q:Q (.int (cT place 0 m n)) H):Y2 (cx ab (d+2) 814 [jp t f z s,aB t n,.int place] H) Q:=by
 refine ao (fr:= %[jp t f z s,aB t n,.int place|1]) jk rfl ?_;unfold jp;rw[←y];refine ce (fun i:Nat=> %[.inst 831 [12,53,55,57,37,38,59,60] [aJ (t f),.int s.first,.int s.last,.ap (aq s.codes),.bool s.l,.bool s.r,aB t m,.ap (aq (dB 0 m))],aB t n,.int place,.int i|0]) (fun ξ=>H) (WG place m n (cT place 0 m n)) (fun i=>m.length-i) (fun i h=>?_) 0 ⟨0,rfl,X2 _⟩;obtain⟨a,u,r⟩:=h.ex;have stop:cT place a (m.drop i) (n.drop i)=0→Q (.int i) H:=fun h=>by rw[h,Nat.add_zero] at r;rwa[r]
 refine bV (fun k=>?_) fun k=>stop (by rw[Xp (uW k)];rfl);have k:=zl k;refine bV (fun e=>?_) fun e=>stop (by rw[Xp (as:=n) (uW e)];exact CE);have e:=zl e;haveI w:=WS k;haveI c:=WS e;rw[Xo k] at u r stop;rw[Xo e] at r stop;generalize m[i]=p at w u r stop;generalize n[i]=x at c r stop;have o:(dB 0 m).drop (i+1)=dB (a+p.codes.length) (m.drop (i+1)):=by haveI:=W4 (List.drop 1) u;rw[YW] at this;exact this
 haveI g:(dB 0 m)[i+1]?=some (a+p.codes.length):=by
  haveI:((dB 0 m).drop (i+1))[0]?=some (a+p.codes.length):=by rw[o];exact CF
  rw[Xv] at this;exact this
 refine fY (j:=i+1) (v:= .int (a+p.codes.length)) (cq (by rw[aA,qF];exact Nat.succ_lt_succ k)) (by unfold aq;rw[Xk,g];rfl) ?_;change i+(if a+p.codes.length≤place∧r7 p x=true then cT place (a+p.codes.length) (m.drop (i+1)) (n.drop (i+1))+1 else 0)=cT place 0 m n at r;replace stop: ¬(a+p.codes.length≤place∧r7 p x=true)→Q (.int i) H:=fun h=>stop (WX h);refine bV (fun l=>?_) fun l=>stop fun h=>l h.1;refine dJ w ?_;refine gC b ?_;refine dJ c ?_;refine gC b ?_;refine bj AV ?_;cases A:r7 p x with
 |false=>exact stop fun h=>by rw[A] at h;cases h.2
 |true=>rw[WY ⟨l,A⟩] at r;exact .mk (i+1) ⟨Yv k (Xr i),_,o,by rw[←r,YG,ZF 1]⟩
def b6 (place:Int) (b:Nat) (h:ah):am→am→Nat
 |nd::t,x::e=>if b≤t.length∧place≤h.getD t.length 0∧r7 nd x=true then b6 place b h t e+1 else 0
 |[],_=>0
 |_::_,[]=>0
def F0 {place:Int}:b6 place b h (e::t) (x::k)=(if b≤t.length∧place≤h.getD t.length 0∧r7 e x=true then b6 place b h t k+1 else 0):=rfl
def zm {place:Int}:b6 place b h l []=0:=by induction l using List.casesOn<;>rfl
theorem F4 {i:Nat} {k:Int} {K:V→Prop} (h:e.reverse[i]?=some m) (n:k=(e.length:Int)-1-i) (q:K (bU p m)):Y1 (fK (aB p e) (.int k)) K:=by
 have x:i<e.length:=by haveI:=(Xf.mp h).1;rw[Xi] at this;exact this
 rw[X7 x] at h;rw[n,show(e.length:Int)-1-i=((e.length-1-i:Nat):Int) by exact(br 0x155c401884610c5600c4245843108401) x];exact dJ h q
@[reducible] def Jz (d : Nat) (H : Hp) (Q : V → Hp → Prop) (fd : Fs) (f : Bool) (e x : am) (h : SD) (ns : am) (place : Int) (b : Nat) : Prop := ∀ (m : d3 fd) (k : ns = sl e h.first h.last) (q : Q (.int (b6 place b (dB 0 ns) ns.reverse x.reverse)) H), Y2 (cx ab (d+2) 821 [jp fd f e h, aB fd x, .int place, .int b] H) Q
abbrev JA:List Type:=[Nat,Hp,V→Hp→Prop,Fs,Bool,am,am,SD,am,Int,Nat]
def Ru:=eV JA Jz ⟨nI,Ab,nI,Hu,nI,nI,nI,V8,nI,nI,nI,trivial⟩
theorem Vi:eU JA Jz Ru:=by
 injections Ru d H Q s f y m u e place b;change Jz d H Q s f y m u e place b;intro o z q;refine ao (fr:= %[jp s f y u,aB s m,.int place,.int b|2]) iL rfl ?_;unfold jp;rw[←z];show WB ab (cx ab (d+1)) (df.body.drop 2) %[(_),(_),(_),(_),.int ((0:Nat):Int),.int (((e.map (bU s)).length:Nat)-1)|0] H _;rw[cr,show(e.length:Int)-1=(e.length:Int)-1-(0:Nat) from(Z5 _).symm];refine ce (fun i:Nat=> %[.inst 831 [12,53,55,57,37,38,59,60] [aJ (s f),.int u.first,.int u.last,.ap (aq u.codes),.bool u.l,.bool u.r,aB s e,.ap (aq (dB 0 e))],aB s m,.int place,.int b,.int i,.int ((e.length:Int)-1-i)|0]) (fun ξ=>H)
  (fun i=>i+b6 place b (dB 0 e) (e.reverse.drop i) (m.reverse.drop i)=b6 place b (dB 0 e) e.reverse m.reverse) (fun i=>e.length-i) (fun i p=>?_) 0 (X2 _)
 have stop:b6 place b (dB 0 e) (e.reverse.drop i) (m.reverse.drop i)=0→Q (.int i) H:=fun h=>by rw[h,Nat.add_zero] at p;rwa[p]
 cases hd:e.reverse.drop i with
 |nil=>
  haveI D:e.length≤i:=by haveI:=List.drop_eq_nil_iff.mp hd;rw[Xi] at this;exact this
  exact gz (by exact(bT 0x44e2b0862122c015883008401) D) (stop (by rw[hd];rfl))
 |cons g t=>
  obtain⟨v,l,A⟩:=Cv hd;rw[Xi] at v;have w:t.length=e.length-(i+1):=by rw[←A,WT,Xi]
  have a:(e.length:Int)-1-i=(t.length:Int):=by rw[w];exact(br 0x155c601180210c5600c4245843108401) v
  rw[hd] at p stop
  refine bV (fun n=>?_) fun n=>stop (by
   cases m.reverse.drop i with
   |nil=>rfl
   |cons x r=>exact WX fun h=>n (by rw[a];exact Ye.mpr h.1))
  rw[a] at n;refine bV (fun k=>?_) fun k=>stop (by rw[Xp (as:=m.reverse) (by rw[Xi];exact uW k)];exact zm);have k:i<m.reverse.length:=by rw[Xi];exact zl k
  haveI B:=WS k;rw[Xo k] at p stop;generalize m.reverse[i]=x at B p stop;change i+(if b≤t.length∧place≤(dB 0 e).getD t.length 0∧r7 g x=true then b6 place b (dB 0 e) t (m.reverse.drop (i+1))+1 else 0)=b6 place b (dB 0 e) e.reverse m.reverse at p;replace stop: ¬(b≤t.length∧place≤(dB 0 e).getD t.length 0∧r7 g x=true)→Q (.int i) H:=fun h=>stop (WX h);have G:t.length<(dB 0 e).length:=by rw[qF,w];exact Nat.lt_succ_of_le (Yt ..)
  refine fY (j:=t.length) (by rw[a];exact cq (by rwa[aA])) (oR G) ?_;refine bV (fun c=>?_) fun c=>stop fun h=>c h.2.1;refine F4 l rfl ?_;refine gC o ?_;refine F4 B (by rw[cr]) ?_;refine gC o ?_;refine bj AV ?_;cases C:r7 g x with
  |false=>exact stop fun h=>by rw[C] at h;cases h.2.2
  |true=>rw[WY ⟨Ye.mp n,c,C⟩,←A] at p;show Lo _ _ _ %[(_),(_),(_),(_),.int ((i:Int)+1),.int ((e.length:Int)-1-i-1)|0] _;rw[show(e.length:Int)-1-i-1=(e.length:Int)-1-(i+1:Nat) by exact(br 0x562b804610c424580310922b0862122c01)];exact .mk (i+1) ⟨Yv v (Xr i),by rw[←p,YG,ZF 1]⟩
def CG:eB JA Jz:=eA JA Vi
def gG (k: ∀a∈e,a.kind≤5) (q:Q (gh x e) H):Y2 (cx ab (d+1) 464 [gh x e] H) Q:=by refine ao (fr:= %[gh x e|1]) rP rfl (fe (jO x) e q fun a m R h=>?_);exact gi (nd:= .one a) (gz (Yx.mpr (k a m)) h)
def wT (h: ∀x∈a,x.kind≤5) (e: ∀x∈b,x.kind≤5) (k: ∀x∈c,x.kind≤5) (q:Q (bU fd (.cI a b c)) H):Y2 (cx ab (d+3) 586 [gh fd a,gh fd b,gh fd c] H) Q:=by refine cD DN.2 DN.1 rfl fun w m=>?_;exact ao (fr:= %[(_),gh fd a,gh fd b,gh fd c|0]) yi rfl (gG h (aP rfl (gG e (aP rfl (gG k (aP rfl (jP rfl q)))))))
end
theorem uX {α:Type} {e:List α} {b:Nat}:hX e none (some (b:Int))=e.take b:=by
 rcases Za b e.length with h|h
 ·exact NX h
 ·rw[AQ h,X4 h]
theorem nr {α:Type} {e:List α} {a:Nat}:hX e (some (a:Int)) none=e.drop a:=by
 rcases Za a e.length with h|h
 ·exact wK h
 ·show(e.drop (gQ e.length (a:Int))).take (e.length-gQ e.length (a:Int))=_;unfold gQ;rw[WX (by exact(bC 9261165569)),X9,YU h,Xp (Xl _),ZQ,Xp h]
theorem jZ {α:Type} {g:α→V} {xs:List α} {a:Nat} {K:V→Prop} (h:a<1000000) (q:K (.ap ((xs.drop a).map g))):Y1 (dz (.ap (xs.map g)) (some (.int a)) .none) K:=by unfold dz;rw[iW h];show K (.ap (hX (xs.map g) (some (a:Int)) none));rwa[nr,←Yd]
theorem qG {α:Type} {g:α→V} {xs:List α} {b:Nat} {K:V→Prop} (h:b<1000000) (q:K (.ap ((xs.take b).map g))):Y1 (dz (.ap (xs.map g)) .none (some (.int b))) K:=by unfold dz;rw[iW h];show K (.ap (hX (xs.map g) none (some (b:Int))));rwa[uX,←YB]
def zn {α β:Type} {g:α→β} {h:List α}:(sl h a b).map g=sl (h.map g) a b:=by unfold sl;rw[YB,Yd]
def JB {e:List At} {K:V→Prop} (h:a<1000000) (q:K (gh x (e.drop a))):Y1 (dz (aB x (e.map Nd.one)) (some (.int a)) .none) K:=by rw[←kB];exact jZ h q
def Rv {e:List At} {K:V→Prop} (h:b<1000000) (q:K (gh x (e.take b))):Y1 (dz (aB x (e.map Nd.one)) .none (some (.int b))) K:=by rw[←kB];exact qG h q
def tz (F:FD):ah:=if F.eG F.hy then [F.hy] else []
def fZ (e:Rn) (x:Fs) (f:Bool) (h:SD) (p:Nat):List At:=e f h.l true (h.codes.take p++tz (x f))
def dF (e:Rn) (f:Bool) (h:SD) (p:Nat):List At:=e f true h.r (h.codes.drop p)
def dG (e:Rn) (x:Fs) (f:Bool) (k:SD) (h:List At) (p:Nat):Nat:=cT p 0 (h.map Nd.one) ((fZ e x f k p).map Nd.one)
def jh (e:Rn) (k:Fs) (f:Bool) (x:SD) (h:List At) (p:Nat):Nat:=b6 p (dG e k f x h p) (dB 0 (h.map Nd.one)) (h.map Nd.one).reverse ((dF e f x p).map Nd.one).reverse
def oy (e:Rn) (k:Fs) (f:Bool) (x:SD) (h:List At) (p:Nat):Nd:=
 .cI ((fZ e k f x p).drop (dG e k f x h p)) ((dF e f x p).take ((dF e f x p).length-jh e k f x h p)) (sl h (dG e k f x h p) (h.length-jh e k f x h p))
def bu (e:Rn) (x:Fs) (f:Bool) (k:SD) (h:List At):aL→Nat→am
 |[],m=>(h.drop m).map Nd.one
 |p::n,m=>if dG e x f k h p<m then bu e x f k h n m else
   (sl h m (dG e x f k h p)).map Nd.one++oy e x f k h p::bu e x f k h n (h.length-jh e x f k h p)
def wU:bu e x f k h (p::n) m=(if dG e x f k h p<m then bu e x f k h n m else
   (sl h m (dG e x f k h p)).map Nd.one++oy e x f k h p::bu e x f k h n (h.length-jh e x f k h p)):=rfl
theorem qH {place:Int}: ∀{ns hs:am} {a:Int},cT place a ns hs≤ns.length∧cT place a ns hs≤hs.length
 |[],_,_=>⟨W8 _,W8 _⟩
 |nd::t,[],_=>⟨W8 _,W8 _⟩
 |nd::t,x::h,a=>by
  have:=qH (place:=place) (ns:=t) (hs:=h) (a:=a+nd.codes.length);rw[Jy];split
  ·exact⟨XK this.1,XK this.2⟩
  ·exact⟨W8 _,W8 _⟩
theorem kC {place:Int}: ∀{ns hs:am},b6 place b bg ns hs≤ns.length-b∧b6 place b bg ns hs≤hs.length
 |[],_=>⟨W8 _,W8 _⟩
 |nd::t,[]=>⟨W8 _,W8 _⟩
 |nd::t,x::e=>by
  have:=kC (place:=place) (b:=b) (bg:=bg) (ns:=t) (hs:=e);rw[F0];split
  ·rename_i h;exact⟨by rw[W0,Nat.succ_sub h.1];exact XK this.1,XK this.2⟩
  ·exact⟨W8 _,W8 _⟩
structure F5 (rn:Rn) (cok:Bool→ah→Prop) (fd:Fs) (f:Bool) (sd:SD) (nat:List At):Prop where
 h: ∀p,cok f (sd.codes.take p++tz (fd f))
 t: ∀p,cok f (sd.codes.drop p)
 kr: ∀f l r codes,cok f codes→ ∀a∈rn f l r codes,a.kind≤5
 kn: ∀a∈nat,a.kind≤5
 fJ:nat.length≤1000
 Rx:sd.codes.length≤1000
structure OU (rn:Rn) (fd:Fs) (f:Bool) (sd:SD) (nat:List At) (n:Nat) (goal:am) (ps:aL) (s:Nat×am):Prop where
 pc: ∀p∈ps,p≤1000
 dn:s.1≤nat.length
 fJ:s.2.length+1001*ps.length≤n
 eq:s.2++bu rn fd f sd nat ps s.1=goal
def Ry (h:Fs) (f:Bool) (e:am) (x:SD) (k:Nat) (s:Nat×am):Fr:= %[jp h f e x,_,.ap (aq (tz (h f))),.ref k,.int s.1|6]
def OV (h:Fs) (e:Nat) (H:Hp) (s:Nat×am):Hp:= .c e (.list (s.2.map (bU h))) H
@[reducible] def JC (d : Nat) (H : Hp) (fd : Fs) (f : Bool) (k : Rn) (q : Bool → ah → Prop) (t : am) (x : SD) (e : List At) (n : Nat) (m : am) (p : Nat) (ps : aL) (r : Nat) (R : cy) : Prop := ∀ {s : Nat × am} (w : lH fd k q) (y : F5 k q fd f x e) (z : sl t x.first x.last = e.map Nd.one) (h : OU k fd f x e n m (p :: ps) s) (u : n ≤ 900000) (v : ¬ dG k fd f x e p < s.1), WB ab (cx ab (d+11)) [.asg (.name 9) (.dM (.af 0) 62 [.af 7, .af 5, .af 8]), .asg (.name 10) (.aS .sub (.call (.ae 0) [.ai (.af 0) 59]) (.af 9)), .expr (.bS (.af 3) .cN [.slice (.ai (.af 0) 59) (some (.af 4)) (some (.af 8))]), .expr (.bS (.af 3) .append [.call (.ae 28) [.slice (.af 6) (some (.af 8)) none, .slice (.af 7) none (some (.aS .sub (.call (.ae 0) [.af 7]) (.af 9))), .slice (.ai (.af 0) 59) (some (.af 8)) (some (.af 10))]]), .asg (.name 4) (.af 10)]
   %[jp fd f t x,_,.ap (aq (tz (fd f))),.ref r,.int s.1,.int p,aB fd ((fZ k fd f x p).map Nd.one),aB fd ((dF k f x p).map Nd.one),.int (dG k fd f x e p)|2] (OV fd r H s) (dT [1,5,6,7,8,9,10] (Lo (Ry fd f t x r) (OV fd r H) (OU k fd f x e n m ps)) R)
abbrev JD:List Type:=[Nat,Hp,Fs,Bool,Rn,Bool→ah→Prop,am,SD,List At,Nat,am,Nat,aL,Nat,cy]
def Rz:=eV JD JC ⟨nI,Ab,Hu,nI,nI,nI,nI,V8,nI,nI,nI,nI,nI,nI,nI,trivial⟩
theorem Vj:eU JD JC Rz:=by
 injections Rz d H u f v I z t r n j p D lf R;change JC d H u f v I z t r n j p D lf R;intro s hR l G h B J;obtain⟨i,w⟩:=s;haveI e:=h.eq;change w++(if dG v u f t r p<i then bu v u f t r D i else(sl r i (dG v u f t r p)).map Nd.one++oy v u f t r p::bu v u f t r D (r.length-jh v u f t r p))=j at e;rw[WX J] at e;refine CG hR.num G.symm ?_;haveI C:=qH (place:=(p:Int)) (ns:=r.map Nd.one) (hs:=(fZ v u f t p).map Nd.one) (a:=0);have c:=kC (place:=(p:Int)) (b:=dG v u f t r p) (bg:=dB 0 (r.map Nd.one)) (ns:=(r.map Nd.one).reverse) (hs:=((dF v f t p).map Nd.one).reverse);rw[WP,WP] at C;rw[Xi,Xi,WP,WP] at c;haveI N:(dF v f t p).length≤900:=hR.fJ f true t.r _ (l.t p);have y:=l.fJ;haveI O:(sl z t.first t.last).length=r.length:=by rw[G,WP]
 haveI e1:((((sl z t.first t.last).map (bU u)).length:Nat):Int)-(jh v u f t r p:Nat)=((r.length-jh v u f t r p:Nat):Int):=by rw[cr,O];exact mI (WR c.1 (Yt ..))
 have o:dG v u f t r p<1000000:=W9 (WR C.1 y) (bM aw);haveI U:i<1000000:=W9 (WR h.dn y) (bM aw);show WB ab (cx ab (d+11)) _ %[(_),_,(_),(_),(_),(_),(_),(_),(_),.int (jh v u f t r p),.int ((((sl z t.first t.last).map (bU u)).length:Nat)-(jh v u f t r p:Nat))|0] _ _;rw[e1];refine dE ?_;refine mJ (as:=sl z t.first t.last) U o ?_;haveI L:sl (sl z t.first t.last) i (dG v u f t r p)=(sl r i (dG v u f t r p)).map Nd.one:=by rw[G,zn]
 rw[L];haveI g:=h.fJ;rw[W0] at g;change w.length+1001*(D.length+1)≤n at g;have A:(sl r i (dG v u f t r p)).length≤1000:=WR qD y;refine gA (xs:=w.map (bU u)) rfl (by rw[WP,WP,WP];unfold bz;exact(fH 0x880722c0be2c061086081fca30c00182125f9601188210c003e95c5d9401) B g A) ?_;refine dE ?_;refine JB o ?_;haveI e2:((((dF v f t p).map Nd.one).map (bU u)).length:Nat)-(jh v u f t r p:Nat)=(((dF v f t p).length-jh v u f t r p:Nat):Int):=by rw[cr,WP];exact mI c.2
 refine(W4 (fun k:Int=>Y1 (dz (aB u ((dF v f t p).map Nd.one)) .none (some (.int k))) _) e2).mpr (Rv (W9 (WR (Yt ..) N) (bM aw)) ?_);refine mJ (as:=sl z t.first t.last) o (W9 (WR (Yt ..) y) (bM aw)) ?_;haveI Y:sl (sl z t.first t.last) (dG v u f t r p) (r.length-jh v u f t r p)=(sl r (dG v u f t r p) (r.length-jh v u f t r p)).map Nd.one:=by rw[G,zn]
 rw[Y,←kB (as:=sl r (dG v u f t r p) (r.length-jh v u f t r p))];refine wT (fun x m=>l.kr f t.l true _ (l.h p) x (Xb m)) (fun x m=>l.kr f true t.r _ (l.t p) x (Xm m)) (fun x m=>l.kn x (Xb (Xm m))) ?_;refine fN (by rw[WO,WP,WP,WP];unfold bz;exact(fH 0x880722c0be2c061086081fca30c00182125f9601188210c003e95c5d9401) B g A) ?_;haveI ea:w.map (bU u)++((sl r i (dG v u f t r p)).map Nd.one).map (bU u)++[bU u (oy v u f t r p)]=(w++((sl r i (dG v u f t r p)).map Nd.one++[oy v u f t r p])).map (bU u):=by rw[WU,WU,WW];rfl
 show Lo _ _ _ %[(_),_,(_),(_),(_)|6] (.c lf (.list (_++[bU u (oy v u f t r p)])) H);rw[ea]
 exact .mk (r.length-jh v u f t r p,w++((sl r i (dG v u f t r p)).map Nd.one++[oy v u f t r p])) ⟨fun q m=>h.pc q (.tail _ m),Yt ..,
  by show(w++(_++[_])).length+_≤_;rw[WO,WO,WP,XR];exact(fH 0x2020c1092fca10c20118c200c103f946180830424bf2c02308401) g A,by rw[WW,WW];exact e⟩
def CH:eB JD JC:=eA JD Vj
def F6 (h:aL):V:= .ap (h.map fun(p:Nat)=>V.int p)
def AW:(tz F).length≤1:=by unfold tz;split<;>simp
def zo (i:lH t u l) (j:F5 u l t f r x) (o:sl A r.first r.last=x.map Nd.one) (h:OU u t f r x n v (p::a) s) (b:n≤900000):
  MA ab (cx ab (d+11)) (.name 5) (MB ab (cx ab (d+11)) (.asg (.name 6) (.call (.ae 30) [.ai (.af 0) 12,.aS .add (.slice (.ai (.af 0) 57) none (some (.af 5))) (.af 2),.ai (.af 0) 37,.tru]):: .asg (.name 7) (.call (.ae 30) [.ai (.af 0) 12,.slice (.ai (.af 0) 57) (some (.af 5)) none,.tru,.ai (.af 0) 38]):: .asg (.name 8) (.dM (.af 0) 61 [.af 6,.af 5]):: .bs (.aE (.af 8) .lt (.af 4)) [.cont] []::
   [.asg (.name 9) (.dM (.af 0) 62 [.af 7,.af 5,.af 8]),.asg (.name 10) (.aS .sub (.call (.ae 0) [.ai (.af 0) 59]) (.af 9)),.expr (.bS (.af 3) .cN [.slice (.ai (.af 0) 59) (some (.af 4)) (some (.af 8))]),.expr (.bS (.af 3) .append [.call (.ae 28) [.slice (.af 6) (some (.af 8)) none,.slice (.af 7) none (some (.aS .sub (.call (.ae 0) [.af 7]) (.af 9))),.slice (.ai (.af 0) 59) (some (.af 8)) (some (.af 10))]]),.asg (.name 4) (.af 10)]) bn)
   [.int p] (Ry t f A r c s) (OV t c H s) (dT [1,5,6,7,8,9,10] (Lo (Ry t f A r c) (OV t c H) (OU u t f r x n v a)) R):=by
 have B:=h.pc p (.head _);have y:p<1000000:=W9 B (bM aw);haveI I:=j.Rx;refine qG (xs:=r.codes) y ?_;refine au (by rw[aA,WP,Xg];haveI:=AW (F:=t f);unfold bz;exact(bT 0x1000e45817c58043210401804610c103f9401) B this) ?_;haveI G:(r.codes.take p).map V.int++aq (tz (t f))=aq (r.codes.take p++tz (t f)):=WU.symm;rw[G];refine zh i (p:=(r.l,true)) (j.h p) (jZ (xs:=r.codes) y ?_);refine zh i (p:=(true,r.r)) (j.t p) (FZ i.num o.symm ?_);refine bV (fun w=>?_) fun w=>CH i j o h b fun k=>w (XG.mpr k);haveI e:=h.eq;obtain⟨z,g⟩:=s;change g++(if dG u t f r x p<z then bu u t f r x a z else(sl x z (dG u t f r x p)).map Nd.one++oy u t f r x p::bu u t f r x a (x.length-jh u t f r x p))=v at e;rw[WY (show dG u t f r x p<z from XG.mp w)] at e;haveI C:=h.fJ;rw[W0] at C;exact .mk (z,g) ⟨fun q m=>h.pc q (.tail _ m),h.dn,WR (X5 (Nat.mul_le_mul_left _ (YF _)) _) C,e⟩
def zp (m:k.length≤1000) (u:sl v p.first p.last=k.map Nd.one) (h:OU z r f p k n x [] s) (t:n≤900000) (q:Q (aB r x) H):
  MB ab (cx ab (d+11)) (cH.body.drop 4) bn [] ((Ry r f v p w s).er [2,5,6,7,8,9,10]) (OV r w H s) (cp none H Q):=by
 refine iU (jZ (xs:=sl v p.first p.last) (W9 (WR h.dn m) (bM aw)) ?_);haveI y:=h.fJ;refine au (by rw[WP,WP,u,WT,WP];unfold bz;exact(fH 0x400391605f161118401106010c003106001f4ae2eca10c103f9401) m t y) ?_;rw[←WU,u];haveI e:=h.eq;change s.2++(k.drop s.1).map Nd.one=x at e;rw[Yd] at e;rwa[e]
def qI (i:lH x t v) (y:F5 t v x f k m) (z:sl u k.first k.last=m.map Nd.one) (r:n.length≤100) (w: ∀p∈n,p≤1000) (q:Q (aB x (bu t x f k m n 0)) H):
  Y2 (cx ab (d+12) 828 [jp x f u k,F6 n] H) Q:=by
 refine ao (fr:= %[jp x f u k,F6 n|9]) jl rfl (yY ?_);have e:WB ab (cx ab (d+11)) (cH.body.drop 1) %[jp x f u k,F6 n,.ap (aq (tz (x f)))|8] H (cp none H Q):=by intro g j;refine bL (fun(p:Nat)=>V.int p) (Ry x f u k g) (OV x g H) (OU t x f k m (1001*n.length) (bu t x f k m n 0)) (fun s h=>zp y.fJ z h ((bC 0x4003e95c5d95092fca00c08319401) r) q) (fun p l s h=>zo i y z h ((bC 0x4003e95c5d95092fca00c08319401) r)) n (0,[]) ⟨w,W8 _,by show 0+_≤_;exact(bC 0x208497e500608497e500403),rfl⟩
 unfold tz at e;refine gy (fun h=>?_) fun h=>?_
 ·rw[WY h] at e;exact e
 ·rw[WX (by rw[h];exact W5)] at e;exact e
theorem zq: ∀h:ah,eu (aq h)=some h.sum
 |[]=>rfl
 |a::r=>by show(match eu (aq r) with|some j=>some (a+j)|none=>none)=_;rw[zq r];rfl
def qJ (s:k.first<100000) (t:b<100000) (n:x.length<100000) (q:Q (.int (((sl x k.first b).flatMap Nd.codes).length:Nat)) H):Y2 (cx ab (d+2) 840 [jp p f x k,aB p x,.int b] H) Q:=by
 refine ao (fr:= %[jp p f x k,aB p x,.int b|1]) rR rfl (mJ (aar s (bM aw)) (aar t (bM aw)) ?_);refine cX (bU p) (fun h=> .int ((aq h.codes).length:Nat)) (sl x k.first b) (fun h m g u=>fv (u _)) ⟨by rw[WP];exact WR qD (WR (Xq n) (bM aw)),?_⟩;haveI e:(sl x k.first b).map (fun h:Nd=>V.int ((aq h.codes).length:Nat))=aq ((sl x k.first b).map fun h=>((h.codes.length:Nat):Int)):=by unfold aq;rw[XW];exact YQ fun h ξ=>by show V.int _=V.int _;rw[WP]
 haveI v: ∀l:am,(l.map fun h=>((h.codes.length:Nat):Int)).sum=((l.flatMap Nd.codes).length:Nat):=fun l=>by
  induction l with
  |nil=>rfl
  |cons a r w=>rw[XD,List.sum_cons,w,Yj,WO];rfl
 rw[e];haveI y:hE .sum [.ap (aq ((sl x k.first b).map fun h=>((h.codes.length:Nat):Int)))]=some (.int (((sl x k.first b).flatMap Nd.codes).length:Nat)):=by show(match eu (aq ((sl x k.first b).map fun h=>((h.codes.length:Nat):Int))) with|some i=>some (V.int i)|none=>none)=_;rw[zq,v]
 exact bj y q
def zr (h:cE c≠0):97≤cE c∧cE c≤100:=by
 unfold cE at h⊢;split at h<;>rename_i e
 ·rw[WY e];exact aU aw
 ·rw[WX e];split at h<;>rename_i x
  ·rw[WY x];exact(cU 0x2d32106500a60104832da8520ca01500201065) x
  ·exact absurd rfl h
theorem wV: ∀{l:am} {ls:ah},ls.length≤63→(∀c∈ls,97≤c∧c≤100)→(aO f l ls).2.length≤63∧ ∀c∈(aO f l ls).2,97≤c∧c≤100
 |[],ls,m,k=>⟨m,k⟩
 |nd::t,ls,m,k=>by
  rw[kA];split
  ·rename_i h;have n:=h.2;refine wV (l:=t) (ls:=ls++nd.codes.map cE) ?_ fun c hc=>?_
   ·rw[WO,WP];exact Yn.mp fun q=>n (.inr q)
   ·rcases W6.mp hc with hc|hc
    ·exact k c hc
    ·obtain⟨x,p,rfl⟩:=Xj.mp hc;refine zr fun e=>n (.inl ?_);rw[YS];exact⟨cE x,Xj.mpr ⟨x,p,rfl⟩,Xz e⟩
  ·exact⟨m,k⟩
structure N0 (fd:Fs) (up:Bool) (p:Nat) (as:am) (b e:Nat) (ls:ah) (nd:Nd) (f:Bool):Prop where
 eX:as[b]?=some nd
 gl:nd.gl=some f
 pb:p<b
 be:b≤e
 le:e≤as.length
 ne:ls≠[]
 fJ:ls.length≤63
 low: ∀c∈ls,97≤c∧c≤100
 first:bR up (p+1) (as.drop (p+1))=some b
 hy:0≤(fd f).hy∧(fd f).hy≤255
 eq:e=b+(aO f (as.drop b) []).1
 WI:ls=(aO f (as.drop b) []).2
 WN:cP (as.drop e)=true
def c6 {up:Bool} (h:co n up p x=some (b,e,r)): ∃s f,N0 n up p x b e r s f:=by
 unfold co at h;cases t:bR up (p+1) (x.drop (p+1)) with
 |none=>rw[t] at h;exact bH h
 |some m=>
  rw[t] at h;obtain⟨k,s,f,z,u,g⟩:=fz t;rw[Xv,←z] at u
  change(match x[m]?.bind Nd.gl with|none=>none|some f=>if 0≤(n f).hy∧(n f).hy≤255 then(if(aO f (x.drop m) []).2=[]∨cP (x.drop (m+(aO f (x.drop m) []).1))=false then none else some (m,m+(aO f (x.drop m) []).1,(aO f (x.drop m) []).2)) else none)=some (b,e,r) at h;rw[u] at h
  change(match s.gl with|none=>none|some f=>if 0≤(n f).hy∧(n f).hy≤255 then(if(aO f (x.drop m) []).2=[]∨cP (x.drop (m+(aO f (x.drop m) []).1))=false then none else some (m,m+(aO f (x.drop m) []).1,(aO f (x.drop m) []).2)) else none)=some (b,e,r) at h;rw[g] at h;change(if 0≤(n f).hy∧(n f).hy≤255 then(if(aO f (x.drop m) []).2=[]∨cP (x.drop (m+(aO f (x.drop m) []).1))=false then none else some (m,m+(aO f (x.drop m) []).1,(aO f (x.drop m) []).2)) else none)=some (b,e,r) at h;by_cases w:0≤(n f).hy∧(n f).hy≤255
  ·rw[WY w] at h;by_cases v:(aO f (x.drop m) []).2=[]∨cP (x.drop (m+(aO f (x.drop m) []).1))=false
   ·rw[WY v] at h;exact bH h
   ·rw[WX v] at h;cases(h)
    have i:=wV (f:=f) (l:=x.drop b) (ls:=[]) (W8 _) (fun c a=>nomatch a);haveI y:b<x.length:=(Xf.mp u).1;haveI j:=qC (f:=f) (x.drop b) [];rw[WT] at j
    exact⟨s,f,u,g,by rw[z];exact Yo ..,Yo ..,WR (X5 j _) (ZC (Z3 (Xq y))),fun q=>v (.inl q),i.1,i.2,t,w,rfl,rfl,by
     cases q:cP (x.drop (b+(aO f (x.drop b) []).1)) with
     |true=>rfl
     |false=>exact absurd (.inr q) v⟩
  ·rw[WX w] at h;exact bH h
def mK {T:cF} (h:p∈T.bm w l r):max 1 (min 63 l)≤p∧p≤w.length-max 1 (min 63 r):=by
 unfold cF.bm at h;cases e:c9 (mC w) T.exc with
 |some x=>rw[e] at h;rw[YD,Xx,Zi,Zi] at h;exact h.2
 |none=>rw[e] at h;have:=wy (YD.mp h).1;exact⟨this.1,Int.le_of_lt_add_one this.2⟩
def RA {T:cF} (h:p∈T.bm w l r) (k:w.length≤63):0≤p∧p≤63:=by
 have:=mK h
 lia
section
variable {d:Nat} {H:Hp} {fd:Fs} {f:Bool} {rn:Rn} {cok:Bool→ah→Prop}
def zt:Nd→At
 | .one a=>a
 |_=> .Fz 0
structure kD where
 T:cF
 up:Bool
 l:Int
 r:Int
def N1:Nonempty kD:=⟨⟨⟨[],[],0,[]⟩,false,0,0⟩⟩
def bJ (e:Nd) (h:Bool):Bool:=match e with
 | .one (.lD x _)=> !x
 |_=>h
def i2:Nd→Bool
 | .skip=>true
 |_=>false
def cj (fd:Fs) (W:kD) (x:am) (p:Nat) (m:Nd) (h:Bool):Option (Bool×Nat×Nat×ah):=
 if i2 m=true∧h=true then match co fd W.up p x with
  |none=>none
  |some (b,e,k)=>if W.T.bm k W.l W.r=[] then none else(x[b]?.bind Nd.gl).map fun f=>(f,b,e,W.T.bm k W.l W.r)
 else none
def cu (h:am) (first b:Nat):Nat:=((sl h first b).flatMap Nd.codes).length
def bA (e:am) (h:SD):List At:=(sl e h.first h.last).map zt
def brk (rn:Rn) (fd:Fs) (h:am) (f:Bool) (b e:Nat) (x:ah):am:=
 bu rn fd f (aj rn f h b e) (bA h (aj rn f h b e)) (x.map fun q=>cu h (aj rn f h b e).first b+q.toNat) 0
def cR (rn:Rn) (fd:Fs) (W:kD) (h:am):Nat→Nat→Bool→am
 |0,_,_=>[]
 |n+1,p,x=>match h[p]? with
  |none=>[]
  |some k=>match cj fd W h p k (bJ k x) with
   |none=>k::cR rn fd W h n (p+1) (bJ k x)
   |some (f,b,e,m)=>k::(sl h (p+1) (aj rn f h b e).first++(brk rn fd h f b e m++cR rn fd W h n (aj rn f h b e).last (bJ k x)))
def F7:cR rn fd W h (n+1) p x=(match h[p]? with
  |none=>[]
  |some k=>match cj fd W h p k (bJ k x) with
   |none=>k::cR rn fd W h n (p+1) (bJ k x)
   |some (f,b,e,m)=>k::(sl h (p+1) (aj rn f h b e).first++(brk rn fd h f b e m++cR rn fd W h n (aj rn f h b e).last (bJ k x)))):=rfl
theorem qK: ∀{l:am},(∀x∈l,x= .one (zt x))→l=l.map (Nd.one∘zt)
 |[],_=>rfl
 |a::r,h=>by rw[XD,←qK fun x m=>h x (.tail _ m)];exact W4 (· ::r) (h a (.head _))
structure F8 (rn:Rn) (cok:Bool→ah→Prop) (fd:Fs) (as:am) (p:Nat) (f:Bool) (b e:Nat):Prop where
 ck:cok f (bq f as b e)
 ld: ∀q∈d',aC (aT rn f (bq f as b e) q)≤aM f as b e
 one: ∀x∈sl as (aj rn f as b e).first (aj rn f as b e).last,x= .one (zt x)
 bk:F5 rn cok fd f (aj rn f as b e) (bA as (aj rn f as b e))
 go:p+1≤(aj rn f as b e).last
 WJ:(aj rn f as b e).last≤as.length
 fst:(aj rn f as b e).first≤as.length
 fJ:cu as (aj rn f as b e).first b≤900
structure tA (rn:Rn) (cok:Bool→ah→Prop) (fd:Fs) (W:kD) (as:am):Prop where
 hX: ∀p nd txt f b e ps,as[p]?=some nd→cj fd W as p nd txt=some (f,b,e,ps)→F8 rn cok fd as p f b e
 codes:FV as
 len:as.length<10000
structure F9 (rn:Rn) (fd:Fs) (W:kD) (as:am):Prop where
 WK: ∀w,w.length≤63→(W.T.bm w W.l W.r).length≤100
 PY:(cR rn fd W as (as.length+1) 0 true).length≤100000
def CI (p:Nat×Nat×ah):V:= .aG [.int p.1,.int p.2.1,.ap (aq p.2.2)]
def RB (fd:Fs) (W:kD) (h:am) (e:Nat) (lo:V) (x:Nat) (s:Nat×Bool×am):Fr:= %[aB fd h,.ref e,lo,.bool W.up,.int W.l,.int W.r,.ref x,.int s.1,.bool s.2.1|6]
def wW (fd:Fs) (e:Nat) (H:Hp) (h:am):Hp:= .c e (.list (h.map (bU fd))) H
theorem Ga {o:Nat} {e:ah} (h: ∀q∈e,0≤q):V.ap (e.map fun q=>V.int ((o:Int)+q))=F6 (e.map fun q=>o+q.toNat):=by unfold F6;rw[XW];refine W4 V.ap (YQ fun q m=>?_);haveI:=h q m;show V.int _=V.int ((o+q.toNat:Nat):Int);rw[Zt,Int.toNat_of_nonneg this]
theorem JE (l:lH fd rn cok) {W:kD} {a v:Nat} {lo:V} {h n:am} {p b e:Nat} {nd:Nd} (k:h.length<10000) (o:h[b]?=some nd) (g:nd.gl=some f) (B:e≤h.length) (u:F8 rn cok fd h p f b e) (C:p<h.length)
  {r A:ah} (i:r.length≤100) (w: ∀q∈r,0≤q∧q≤63) {y:Bool} (s:n.length+(sl h (p+1) (aj rn f h b e).first).length+(brk rn fd h f b e r).length≤100000) {x:V} {j:Kt} {R:cy}
  (q:j [] %[aB fd h,.ref a,lo,.bool W.up,.int W.l,.int W.r,.ref v,.int (aj rn f h b e).last,.bool y,x,CI (b,e,A),.ap (aq r),jp fd f h (aj rn f h b e),.int (cu h (aj rn f h b e).first b)|1] (wW fd v H (n++(sl h (p+1) (aj rn f h b e).first++brk rn fd h f b e r))) R):
  MB ab (cx ab (d+14)) [.asg (.name 12) (.call (.ae 103) [.af 0,.bp (.af 10) (.int 0),.bp (.af 10) (.int 1)]),.asg (.name 13) (.call (.ae 104) [.af 12,.af 0,.bp (.af 10) (.int 0)]),.expr (.bS (.af 6) .cN [.slice (.af 0) (some (.af 7)) (some (.ai (.af 12) 53))]),.expr (.bS (.af 6) .cN [.dM (.af 12) 54 [.comp (.aS .add (.af 13) (.af 14)) 14 (.af 11) none]]),.asg (.name 7) (.ai (.af 12) 55)] j []
   %[aB fd h,.ref a,lo,.bool W.up,.int W.l,.int W.r,.ref v,.int (p+1:Nat),.bool y,x,CI (b,e,A),.ap (aq r)|3] (wW fd v H n) R:=by
 haveI z:=(Xf.mp o).1;have t:=u.fst;refine qE (b:=b) (e:=e) l o g B k u.ck u.ld ?_;refine qJ (W9 t (by exact(bC 0x88075284a32803180f0549401) k)) (by exact(br 0x1100ea509465086200843180f0549401) k z) (by exact(bC 0x88075284a32803180f0549401) k) ?_;refine dE ?_;refine mJ (by exact(br 0x880722c0be2c023086200843180f0549401) k C) (by exact(br 0x1100e45817c5086000843180f0549401) k t) ?_;refine gA (xs:=n.map (bU fd)) rfl (by rw[WP,WP];unfold bz;exact(bT 0x440391605f16010803000ea5094658083008401) s) ?_;refine dE ?_;refine cX V.int (fun q=>V.int (((cu h (aj rn f h b e).first b:Nat):Int)+q)) r (fun q m O G=>G _) ⟨by rw[WP];exact WR i (bM aw),?_⟩;rw[Ga fun q m=>(w q m).1];haveI I:sl h (aj rn f h b e).first (aj rn f h b e).last=(bA h (aj rn f h b e)).map Nd.one:=by unfold bA;rw[XW];exact qK u.one
 refine qI l u.bk I (by rwa[WP]) (fun q J=>?_) ?_
 ·obtain⟨c,L,rfl⟩:=Xj.mp J;haveI:=w c L;haveI:=u.fJ;lia
 refine gA (xs:=n.map (bU fd)++(sl h (p+1) (aj rn f h b e).first).map (bU fd)) rfl (by rw[WO,WP,WP,WP];exact W9 s (bM aw)) ?_;haveI N:n.map (bU fd)++(sl h (p+1) (aj rn f h b e).first).map (bU fd)++(brk rn fd h f b e r).map (bU fd)=(n++(sl h (p+1) (aj rn f h b e).first++brk rn fd h f b e r)).map (bU fd):=by rw[WU,WU,WW]
 show j [] _ (.c v (.list (n.map (bU fd)++(sl h (p+1) (aj rn f h b e).first).map (bU fd)++(brk rn fd h f b e r).map (bU fd))) H) R;rwa[N]
def tB:e.kind=6↔i2 e=true:=by
 cases e with
 |one a=>induction a using At.casesOn<;>exact⟨fun h=>(nomatch h),fun h=>(nomatch h)⟩
 |skip=>exact⟨fun ξ=>rfl,fun ξ=>rfl⟩
 |cI a b c=>exact⟨fun h=>(nomatch h),fun h=>(nomatch h)⟩
theorem JF {lo:V} {x:dg} {W:kD} {I:Int→Nat} (L:d3 fd) (N:jT lo) (O:Trie W.T I) (a: ∀k r,c9 k W.T.exc=some r→r.length≤1000) {q s:am} (U:FV q) (i:q.length<10000) {v:Nat} (j:hU (wW fd v H s) x W.T)
  {z:Nd} {p:Nat} {n:Bool} {J:Fr→Hp→Prop} {R:cy} (Y:p<q.length) {u:List S}
  (G:cj fd W q p z n=none→J (RB fd W q x.t lo v (p+1,n,[])) (wW fd v H s))
  (o: ∀f b e t,cj fd W q p z n=some (f,b,e,W.T.bm t W.l W.r)→co fd W.up p q=some (b,e,t)→
   MB ab (cx ab (d+14)) u (MB ab (cx ab (d+14)) [.x4 [12,13]] bn) [] %[aB fd q,.ref x.t,lo,.bool W.up,.int W.l,.int W.r,.ref v,.int (p+1:Nat),.bool n,bU fd z,CI (b,e,t),.ap (aq (W.T.bm t W.l W.r))|3] (wW fd v H s) (dT [9,10,11,12,13] J R)):
  MB ab (cx ab (d+14)) [.asg (.name 10) (.ite (.ay true [.aE (.ai (.af 9) 3) .eq (.ae 102),.af 8]) (.call (.ae 11) [.af 0,.aS .sub (.af 7) (.int 1),.af 2,.af 3]) .none),.asg (.name 11) (.ite (.aE (.af 10) .i6 .none) (.dM (.af 1) 2 [.bp (.af 10) (.int 2),.af 4,.af 5]) (.list [])),.bs (.aE (.af 11) .ne (.list [])) u [],.x4 [12,13]] bn []
   %[aB fd q,.ref x.t,lo,.bool W.up,.int W.l,.int W.r,.ref v,.int (p+1:Nat),.bool n,bU fd z|5] (wW fd v H s) (dT [9,10,11,12,13] J R):=by
 have A:cj fd W q p z n=none→ ∀c (B:ah),B=[]→MB ab (cx ab (d+14)) [.bs (.aE (.af 11) .ne (.list [])) u [],.x4 [12,13]] bn []
   %[aB fd q,.ref x.t,lo,.bool W.up,.int W.l,.int W.r,.ref v,.int (p+1:Nat),.bool n,bU fd z,c,.ap (aq B)|3] (wW fd v H s) (dT [9,10,11,12,13] J R):=fun h c B hx=>by
  refine bj qB ?_;subst hx;exact G h
 refine gi ?_;refine bQ (fun h=>?_) fun h=>A (WX fun k=>h (tB.mpr k.1)) _ _ rfl;refine gy (fun C=>?_) fun C=>A (WX fun k=>W5 (C.symm.trans k.2)) _ _ rfl;haveI ep:((p+1:Nat):Int)-1=(p:Int):=Zw (p:Int) 1;show Y2 (cx ab (d+14) 767 [aB fd q,.int (((p+1:Nat):Int)-1),lo,.bool W.up] (wW fd v H s)) _;rw[ep];refine fR L N U (by exact(bC 0x88075284a32803180f0549401) i) Y ?_;have y:cj fd W q p z n=match co fd W.up p q with
  |none=>none
  |some (b,e,t)=>if W.T.bm t W.l W.r=[] then none else(q[b]?.bind Nd.gl).map fun f=>(f,b,e,W.T.bm t W.l W.r):=WY ⟨tB.mp h,C⟩
 cases l:co fd W.up p q with
 |none=>rw[l] at y;exact A y _ _ rfl
 |some r=>
  obtain⟨b,e,t⟩:=r;rw[l] at y;obtain⟨D,f,w⟩:=c6 l;change cj fd W q p z n=if W.T.bm t W.l W.r=[] then none else(q[b]?.bind Nd.gl).map fun f=>(f,b,e,W.T.bm t W.l W.r) at y
  refine cf j.tt ?_;refine tp O j (fun c m=>by haveI:=w.low c m;exact(cU 0xb4fe4394029804125a6420ca014c0209065) this) w.ne w.fJ a ?_;refine bj qB ?_;haveI o:=o f b e t;cases g:W.T.bm t W.l W.r with
  |nil=>rw[WY g] at y;exact G y
  |cons x0 r0=>rw[WX (by rw[g];exact List.cons_ne_nil _ _),w.eX] at y;change cj fd W q p z n=D.gl.map fun f=>(f,b,e,W.T.bm t W.l W.r) at y;rw[w.gl] at y;haveI:=o y l;rw[g] at this;exact this
structure RC (rn:Rn) (fd:Fs) (W:kD) (as:am) (s:Nat×Bool×am):Prop where
 le:s.1≤as.length
 eq: ∃m,as.length-s.1<m∧s.2.2++cR rn fd W as m s.1 s.2.1=cR rn fd W as (as.length+1) 0 true
def N2 (h:RC rn fd W x s) (k: ¬s.1<x.length):s.2.2=cR rn fd W x (x.length+1) 0 true:=by
 obtain⟨m,n,e⟩:=h.eq;cases m with
 |zero=>cases(n)
 |succ m=>rw[F7] at e;rw[XN (Yn.mp k)] at e;exact(Xe _).symm.trans e
def JG {n:am} (t:x[p]?=some q) (e:r++cR rn fd W x (m+1) p k=n):
  (cj fd W x p q (bJ q k)=none→(r++[q])++cR rn fd W x m (p+1) (bJ q k)=n)∧ ∀f b e s,cj fd W x p q (bJ q k)=some (f,b,e,s)→
   (r++[q]++(sl x (p+1) (aj rn f x b e).first++brk rn fd x f b e s))++cR rn fd W x m (aj rn f x b e).last (bJ q k)=n:=by
 rw[F7] at e;rw[t] at e
 replace e:r++(match cj fd W x p q (bJ q k) with
   |none=>q::cR rn fd W x m (p+1) (bJ q k)
   |some (f,b,e,s)=>q::(sl x (p+1) (aj rn f x b e).first++(brk rn fd x f b e s++cR rn fd W x m (aj rn f x b e).last (bJ q k))))=n:=e
 refine⟨fun h=>?_,fun f b u s h=>?_⟩
 ·rw[h] at e;rwa[WW]
 ·rw[h] at e;rwa[WW,WW,WW]
def Gb (h:cj fd W k p v q=some (f,b,e,n)) (r:co fd W.up p k=some (b,e,m)) (s:k[b]?=some x) (t:x.gl=some u):u=f:=by
 unfold cj at h;split at h
 ·rw[r] at h;change(if W.T.bm m W.l W.r=[] then none else(k[b]?.bind Nd.gl).map fun f=>(f,b,e,W.T.bm m W.l W.r))=some (f,b,e,n) at h;split at h
  ·exact bH h
  ·rw[s] at h;change(x.gl.map fun f=>(f,b,e,W.T.bm m W.l W.r))=some (f,b,e,n) at h;rw[t] at h
   injection h with h
   injection h
 ·exact bH h
@[reducible] def JH (d : Nat) (H : Hp) (fd : Fs) (rn : Rn) (cok : Bool → ah → Prop) (lo : V) (x : dg) (W : kD) (n : Int → Nat) (e : am) (m : Nat) (R : cy) : Prop := ∀ {s : Nat × Bool × am} (v : lH fd rn cok) (w : jT lo) (y : Trie W.T n) (p : ∀ k r, c9 k W.T.exc = some r → r.length ≤ 1000) (z : tA rn cok fd W e) (g : F9 rn fd W e) (i : an H m = none) (q : hU H x W.T) (h : RC rn fd W e s) (t : s.1 < e.length), MB ab (cx ab (d+14)) (match f7.body with
   |[_,_,_,.t8 _ b _ _,_]=>b
   |_=>[]) bn [] (RB fd W e x.t lo m s) (wW fd m H s.2.2) (dT [9,10,11,12,13] (Lo (RB fd W e x.t lo m) (fun s=>wW fd m H s.2.2) fun u=>e.length-u.1<e.length-s.1∧RC rn fd W e u) R)
abbrev JI:List Type:=[Nat,Hp,Fs,Rn,Bool→ah→Prop,V,dg,kD,Int→Nat,am,Nat,cy]
def RD:=eV JI JH ⟨nI,Ab,Hu,nI,nI,nV,qu,N1,nI,nI,nI,nI,trivial⟩
theorem Vk:eU JI JH RD:=by
 injections RD d H fd rn cok lo x W dp k o R;change JH d H fd rn cok lo x W dp k o R;intro s Y hL hT I C J hf L h r;obtain⟨p,t,v⟩:=s;change p<k.length at r;have z:=WS r;obtain⟨m,D,e⟩:=h.eq;change k.length-p<m at D;change v++cR rn fd W k m p t=cR rn fd W k (k.length+1) 0 true at e;haveI i:=J.PY;cases m with
 |zero=>cases(D)
 |succ m=>
  have g:=JG z e;rw[←e,WO] at i;generalize k[p]=n at z g;refine dJ z ?_;refine dE ?_;refine fN (xs:=v.map (bU fd)) (by rw[WP];exact W9 (WR (Yo ..) i) (bM aw)) ?_;have ea:v.map (bU fd)++[bU fd n]=(v++[n]).map (bU fd):=(WU (l₂:=[n])).symm;rw[ea]
  have j:MB ab (cx ab (d+14)) ((match f7.body with
   |[_,_,_,.t8 _ b _ _,_]=>b
   |_=>[]).drop 4) bn [] %[aB fd k,.ref x.t,lo,.bool W.up,.int W.l,.int W.r,.ref o,.int (p+1:Nat),.bool (bJ n t),bU fd n|5] (wW fd o H (v++[n])) (dT [9,10,11,12,13] (Lo (RB fd W k x.t lo o) (fun s=>wW fd o H s.2.2) fun u=>k.length-u.1<k.length-p∧RC rn fd W k u) R):=by
   refine JF Y.num hL hT I C.codes C.len (L.cons hf) r (fun y=>?_) fun f b e N y A=>?_
   ·exact .mk (p+1,bJ n t,v++[n]) ⟨Yv r (Xr p),r,m,Y9 (Yv r (Xr p)) (Nat.le_of_lt_succ D),g.1 y⟩
   ·obtain⟨O,l,w⟩:=c6 A;haveI c:=C.hX p n (bJ n t) f b e _ z y;obtain rfl:=Gb y A w.eX w.gl;have g:=g.2 _ _ _ _ y;haveI B:((v++[n]++(sl k (p+1) (aj rn l k b e).first++brk rn fd k l b e (W.T.bm N W.l W.r)))++cR rn fd W k m (aj rn l k b e).last (bJ n t)).length≤100000:=by rw[g];exact J.PY
    simp only[WO] at B;haveI U:=c.go;refine JE (p:=p) (nd:=O) Y C.len w.eX w.gl w.le c r (J.WK N w.fJ) (fun q hq=>?_) (by rw[WO];exact(fH 0x1000ea509465808300861008c03006001d4a128cb018610104218402300c01) B) ?_
    ·exact RA hq w.fJ
    ·have h1:k.length-(aj rn l k b e).last<k.length-p:=Yv r U;exact .mk ((aj rn l k b e).last,bJ n t,v++[n]++(sl k (p+1) (aj rn l k b e).first++brk rn fd k l b e (W.T.bm N W.l W.r))) ⟨h1,c.WJ,m,Y9 h1 (Nat.le_of_lt_succ D),g⟩
  refine gi ?_;refine bQ (fun G=>?_) fun G=>?_
  ·cases n with
   |one a=>induction a using At.casesOn with
    |lD on w=>exact j
    |_=>nomatch G
   |_=>nomatch G
  ·haveI:bJ n t=t:=by
    cases n with
    |one a=>induction a using At.casesOn with
     |lD on w=>exact absurd rfl G
     |_=>rfl
    |_=>rfl
   rw[this] at j;exact j
def JJ:eB JI JH:=eA JI Vk
def r9 (v:lH fd rn cok) {lo:V} (w:jT lo) (y:Trie W.T j) (p: ∀k r,c9 k W.T.exc=some r→r.length≤1000) (z:tA rn cok fd W m) (g:F9 rn fd W m) (t:hU H x W.T) (q:Q (aB fd (cR rn fd W m (m.length+1) 0 true)) H):
  Y2 (cx ab (d+15) 845 [aB fd m,.ref x.t,lo,.bool W.up,.int W.l,.int W.r] H) Q:=by
 refine ao (fr:= %[aB fd m,.ref x.t,lo,.bool W.up,.int W.l,.int W.r|9]) ul rfl fun u i=>?_;refine ce (RB fd W m x.t lo u) (fun s=>wW fd u H s.2.2) (RC rn fd W m) (fun s=>m.length-s.1) (fun s h=>?_) (0,true,[]) ⟨W8 _,m.length+1,by exact Xr _,rfl⟩;refine bV (fun n=>?_) fun n=>?_
 ·exact JJ v w y p z g i t h (by rw[cr] at n;exact XG.mp n)
 ·haveI e:=N2 h (fun k=>n (by rw[cr];exact XG.mpr k));refine qt ?_;rwa[e]
end
def JK (x:At):Bool:=match x with| .cJ _ s=>s !=1|_=>true
def eQ:Nd→Bool
 | .cI a _ _=>a.all JK
 |_=>false
def gH (h:Nd):am:=if eQ h then(match h with| .cI _ _ c=>c.map Nd.one|_=>[]) else [h]
def cv (l:am):am:=l.flatMap gH
theorem wX {α:Type} {p:α→Bool}: ∀l:List α,(l.filter fun x=> !p x).isEmpty=l.all p
 |[]=>rfl
 |a::r=>by
  rw[Yz,List.all_cons];cases p a with
  |true=>exact wX r
  |false=>rfl
def tC (u:dc r) (q:Q (.bool (eQ r)) H):Y2 (cx ab (d+1) 1039 [bU n r] H) Q:=by
 refine ao (fr:= %[bU n r|1]) ue rfl (gi ?_);refine bQ (fun h=>?_) fun h=>?_
 ·cases r with
  |cI a b c=>
   refine gj (jO n) (jO n) (fun x=> !JK x) a (fun x m z p=>?_) ⟨by rw[WP];exact WR (X6 _ _) (WR u.1.2 (bM aw)),?_⟩
   ·haveI p:=p %[bU n (.cI a b c),jO n x|0];have v: ∀k s:Int,(!JK (.cJ k s))=decide (s=1):=fun k s=>by
     show(!(s !=1))=_;unfold bne;rw[Bool.not_not];rfl
    induction x using At.casesOn with
    |cJ w t=>rw[v] at p;refine bQ (fun e=>p.1 (Xz e)) fun e=>p.2 (Xw e)
    |_=>exact p.2 rfl
   ·refine bj jR ?_;haveI e:((a.filter fun x=> !JK x).map (jO n)).isEmpty=eQ (.cI a b c):=by
     rw[List.isEmpty_map];exact wX a
    rwa[e]
  |one a=>induction a using At.casesOn<;>exact nomatch h
  |skip=>exact nomatch h
 ·cases r with
  |cI a b c=>exact absurd rfl h
  |_=>exact q
def uY (y: ∀a∈n,dc a) (g:(cv n).length≤100000) (q:Q (aB x (cv n)) H):Y2 (cx ab (d+2) 1046 [aB x n] H) Q:=by
 refine ao (fr:= %[aB x n|2]) yb rfl fun p f=>?_;refine bL (bU x) (fun ξ=> %[_,.ref p|1]) (fun s=>wW x p H s) (fun r s=>(∀a∈r,dc a)∧s++cv r=cv n) (fun s h=>?_) (fun k r s h=>?_) n [] ⟨y,rfl⟩
 ·haveI e:=h.2;change s++[]=cv n at e;rw[Xe] at e;refine qt ?_;rwa[e]
 ·obtain⟨i,e⟩:=h;change s++(gH k++cv r)=cv n at e;have u:(s++(gH k++cv r)).length≤100000:=by rwa[e]
  rw[WO,WO] at u;have t:Lo (fun ξ=> %[_,.ref p|1]) (fun s=>wW x p H s) (fun s=>(∀a∈r,dc a)∧s++cv r=cv n) %[_,.ref p|1] (wW x p H (s++gH k)):= .mk (s++gH k) ⟨fun a m=>i a (.tail _ m),by rw[WW];exact e⟩;unfold wW at t;rw[WU] at t;refine dE (tC (i k (.head _)) ?_);have v:(s.map (bU x)).length+((gH k).map (bU x)).length<bz:=by rw[WP,WP];unfold bz;exact(bT 0x440391605f16010803000ea5094658404108401) u
  cases w:eQ k with
  |false=>
   have z:gH k=[k]:=by unfold gH;rw[w];rfl
   rw[z] at t v;exact gA (xs:=s.map (bU x)) rfl v t
  |true=>
   cases k with
   |one a=>exact dh w
   |skip=>exact dh w
   |cI a b c=>
    have z:gH (.cI a b c)=c.map Nd.one:=by unfold gH;rw[w];rfl
    rw[z,XW] at t v;exact gA (xs:=s.map (bU x)) rfl v t
def i3 (u:(as.flatMap Nd.codes).length≤100000) (q:Q (.ap (aq (as.flatMap Nd.codes))) H):Y2 (cx ab (d+1) 1034 [aB v as] H) Q:=by
 refine ao (fr:= %[aB v as|2]) vF rfl fun x z=>?_;refine bL (bU v) (fun ξ=> %[_,.ref x|1]) (fun s=> .c x (.list (aq s)) H) (fun r s=>s++r.flatMap Nd.codes=as.flatMap Nd.codes) (fun s h=>?_) (fun e r s h=>?_) as [] rfl
 ·change s++[]=as.flatMap Nd.codes at h;rw[Xe] at h;refine qt ?_;rwa[h]
 ·rw[Yj] at h;have m:(s++(e.codes++r.flatMap Nd.codes)).length≤100000:=by rwa[h]
  rw[WO,WO] at m;have n:Lo (fun ξ=> %[_,.ref x|1]) (fun s=> .c x (.list (aq s)) H) (fun s=>s++r.flatMap Nd.codes=as.flatMap Nd.codes) %[_,.ref x|1] (.c x (.list (aq s++aq e.codes)) H):=by have:aq s++aq e.codes=aq (s++e.codes):=WU.symm;rw[this];exact .mk (s++e.codes) (by rwa[WW])
  have p:(aq s).length+(aq e.codes).length<bz:=by rw[aA,aA];unfold bz;exact(bT 0x440391605f16010803000ea5094658404108401) m
  refine dE (gi ?_);refine bQ (fun k=>?_) fun k=>?_
  ·cases e with
   |one a=>induction a using At.casesOn<;>first|exact gA (xs:=aq s) rfl p n|exact(nomatch k)
   |_=>exact nomatch k
  refine gi (bQ (fun t=>?_) fun t=>?_)
  ·cases e with
   |one a=>induction a using At.casesOn<;>first|exact gA (xs:=aq s) rfl p n|exact(nomatch t)
   |_=>exact nomatch t
  ·have:e.codes=[]:=by
    cases e with
    |one a=>induction a using At.casesOn<;>first|exact absurd rfl k|exact absurd rfl t|rfl
    |_=>rfl
   rw[this] at n p;exact gA (xs:=aq s) rfl p n
def mL (B:am):Prop:=B=[]∨ ∃r,B= .skip::r
theorem qL {up:Bool} (h:mL B): ∀{t:am} {i:Nat},bR up i (t++B)=bR up i t
 |[],i=>by
  rcases h with rfl|⟨r,rfl⟩
  ·rfl
  ·rfl
 |nd::t,i=>by rw[XM];rw[fy,fy];rw[qL h (t:=t) (i:=i+1)]
theorem tE {up:Bool}: ∀{t:am} {i:Nat},bR up (k+i) t=(bR up i t).map (k+ ·)
 |[],i=>rfl
 |nd::t,i=>by
  have h:=tE (up:=up) (k:=k) (t:=t) (i:=i+1);rw[fy,fy];split
  ·cases nd.codes with
   |nil=>exact h
   |cons c r=>
    show(if cE c=0 then _ else if _ then _ else _)=Option.map _ (if cE c=0 then _ else if _ then _ else _);split
    ·exact h
    ·split<;>rfl
  ·rfl
theorem tF (h:mL B): ∀{t:am} {e:ah},aO f (t++B) e=aO f t e
 |[],e=>by
  rcases h with rfl|⟨r,rfl⟩
  ·rfl
  ·show(if _ then _ else _)=_;rw[WX (by rintro⟨a,_⟩;exact dh a)];rfl
 |nd::t,e=>by rw[XM];rw[kA,kA];rw[tF h (t:=t)]
theorem qM (h:mL B): ∀{t:am},cP (t++B)=cP t
 |[]=>by rcases h with rfl|⟨r,rfl⟩<;>rfl
 |nd::t=>by rw[XM];unfold cP;rw[qM h (t:=t)]
def OW (k:Nat) (r:Nat×Nat×ah):Nat×Nat×ah:=(k+r.1,k+r.2.1,r.2.2)
def fA {α:Type} {A L:List α}:(A++L).drop (A.length+k)=L.drop k:=by rw[←YW,YX]
def mM {α:Type} {A L:List α}:(A++L)[A.length+k]?=L[k]?:=by rw[Xn (br 566970287105)];congr 1;exact(br 0x48218803008401)
theorem CJ {up:Bool} (h:mL B) (r:0<P.length):co s up A.length (A++(P++B))=(co s up 0 P).map (OW A.length):=by
 haveI u:(A++(P++B)).drop (A.length+1)=P.drop 1++B:=by rw[fA,XB r]
 unfold co;rw[u,qL h,tE,X2];cases v:bR up 1 (P.drop 1) with
 |none=>rfl
 |some b=>
  obtain⟨k,m,g,rfl,x,w⟩:=fz v;rw[Xv] at x;have e:1+k<P.length:=by
   rcases XF (1+k) P.length with q|q
   ·exact q
   ·rw[XN q] at x;exact bH x
  show(match(A++(P++B))[A.length+(1+k)]?.bind Nd.gl with|none=>none|some f=>_)=Option.map (OW A.length) (match P[1+k]?.bind Nd.gl with|none=>none|some f=>_);rw[mM,XS e,x]
  show(match m.gl with|none=>none|some f=>_)=Option.map (OW A.length) (match m.gl with|none=>none|some f=>_);rw[w];show(if _ then _ else none)=Option.map (OW A.length) (if _ then _ else none);haveI y:(A++(P++B)).drop (A.length+(1+k))=P.drop (1+k)++B:=by rw[fA,XB (Xq e)]
  rw[y,tF h];haveI cnt: ∀(l:am) (n:ah),(aO g l n).1≤l.length:=fun l=>by
   induction l with
   |nil=>exact fun ξ=>Xl _
   |cons a t z=>
    intro n;rw[kA];split
    ·exact XK (z _)
    ·exact W8 _
  haveI p:=cnt (P.drop (1+k)) [];rw[WT] at p;haveI i:(A++(P++B)).drop (A.length+(1+k)+(aO g (P.drop (1+k)) []).1)=P.drop (1+k+(aO g (P.drop (1+k)) []).1)++B:=by rw[YG,fA,XB (by exact(bT 0x2010c041800211c23000423084418843000423) e p)]
  rw[i,qM h];split
  ·split
   ·rfl
   ·show some _=some (OW A.length _);unfold OW;show some _=some (_,_,_);congr 2;congr 1;exact YG ..
  ·rfl
def wY (h:mL B) (s:0<P.length):cj m W (A++(P++B)) A.length .skip x=(cj m W P 0 .skip x).map fun r=>(r.1,A.length+r.2.1,A.length+r.2.2.1,r.2.2.2):=by
 unfold cj;rw[CJ h s];split
 ·cases t:co m W.up 0 P with
  |none=>rfl
  |some r=>
   obtain⟨b,e,n⟩:=r;obtain⟨u,g,p,v,w,y,z,_⟩:=c6 t;haveI k:b<P.length:=by
    rcases XF b P.length with q|q
    ·exact q
    ·rw[XN q] at p;exact bH p
   show(if W.T.bm n W.l W.r=[] then none else Option.map _ ((A++(P++B))[A.length+b]?.bind Nd.gl))=Option.map _ (if W.T.bm n W.l W.r=[] then none else Option.map _ (P[b]?.bind Nd.gl));rw[mM,XS k];split
   ·rfl
   ·rw[Option.map_map];rfl
 ·rfl
section
theorem mN: ∀{l m:am},(∃x∈l,x.nU f=false)→iZ f (l++m)=iZ f l∧iZ f l<l.length
 |[],_,⟨x,h,_⟩=>nomatch h
 |a::t,m,⟨x,h,e⟩=>by
  rw[XM];rw[nq,nq];cases k:a.nU f with
  |false=>exact⟨rfl,YN _⟩
  |true=>
   haveI: ∃x∈t,x.nU f=false:=by
    rcases Xa.mp h with rfl|h
    ·rw[k] at e;exact Hj e
    ·exact⟨x,h,e⟩
   obtain⟨n,p⟩:=mN (m:=m) this;rw[WY rfl,WY rfl,n];exact⟨rfl,Nat.succ_lt_succ p⟩
theorem nt (h:mL B): ∀{l:am},iZ f (l++B)=iZ f l
 |[]=>by rcases h with rfl|⟨r,rfl⟩<;>rfl
 |a::t=>by rw[XM];rw[nq,nq];rw[nt h (l:=t)]
theorem qN: ∀{l:am} {i:Nat},i<iZ f l→ ∃x,l[i]?=some x∧x.nU f=true
 |[],i,h=>absurd h (Yc _)
 |a::t,i,h=>by
  rw[nq] at h;split at h
  ·rename_i e;cases i with
   |zero=>exact⟨a,rfl,e⟩
   |succ i=>exact qN (l:=t) ((br 0x884200c6011843008c01) h)
  ·exact absurd h (Yc _)
def kE {α:Type} {xs:List α} {a:Nat} (h:b≤xs.length):(sl xs a b).length=b-a:=by unfold sl;rw[Xg,WT];exact(bT 0x2511040194441086220803008401) h
def lI {α:Type} {e:List α} (h:i<b-a):(sl e a b)[i]?=e[a+i]?:=by unfold sl;rw[Ym h,Xv]
def eZ (h:y≤P.length):sl (A++(P++B)) (A.length+x) (A.length+y)=sl P x y:=by
 unfold sl;rw[fA,show A.length+y-(A.length+x)=y-x by exact(bT 0x12888210c6020803008401)];rcases Za x P.length with hx|hx
 ·rw[XB hx,YZ (by rw[WT];exact(bT 0x84441086220803008401) h)]
 ·rw[show y-x=0 by exact(bT 0x2401c441006020843008401) h hx];rfl
theorem gm: ∀{l:am} {i:Nat},i<aC l→ ∃x,l[i]?=some x∧x.kind=5
 |[],i,h=>absurd h (Yc _)
 |a::t,i,h=>by
  rw[oU] at h;split at h
  ·rename_i e;cases i with
   |zero=>exact⟨a,rfl,e⟩
   |succ i=>exact gm (l:=t) (by lia)
  ·exact absurd h (Yc _)
theorem qO: ∀{l:am},aC l<l.length→ ∃x,l[aC l]?=some x∧x.kind≠5
 |[],h=>absurd h (Yc _)
 |a::t,h=>by
  unfold aC at h⊢;split
  ·rename_i e;rw[WY e] at h;exact qO (l:=t) (by rw[W0] at h;lia)
  ·rename_i e;exact⟨a,rfl,e⟩
def wZ {i:Nat} (h:l[i]?=some x) (k:x.kind≠5):aC l≤i:=by
 rcases XF i (aC l) with q|q
 ·obtain⟨y,e,m⟩:=gm q;rw[h] at e;obtain rfl:=dL e;exact absurd m k
 ·exact q
theorem j3: ∀{l m:am},l.map Nd.kind=m.map Nd.kind→aC l=aC m
 |[],[],_=>rfl
 |[],_::_,h=>by cases(h)
 |_::_,[],h=>by cases(h)
 |a::t,b::r,h=>by
  injection h with e x
  rw[oU,oU];rw[e,j3 x]
def uZ (h:l.map Nd.kind=m.map Nd.kind):aQ l=aQ m:=by unfold aQ;rw[j3 h];refine j3 ?_;rw[YV,YV,Yd,Yd,h]
def w' (a:Nd): ∃r,a.FW= .tuple (.int a.kind::r):=by
 cases a with
 |one a=>induction a using At.casesOn<;>exact⟨_,rfl⟩
 |_=>exact⟨_,rfl⟩
def j4 {b:Nd} (h:r7 a b=true):a.kind=b.kind:=by obtain⟨r,e⟩:=w' a;obtain⟨s,x⟩:=w' b;unfold r7 at h;rw[e,x,PyData.eqv,PyData.eqvAll,Xx,gf] at h;exact XY h.1
theorem lJ: ∀{l m:am},jX l m=true→l.map Nd.kind=m.map Nd.kind
 |[],[],_=>rfl
 |[],_::_,h=>by exact dh h
 |_::_,[],h=>by exact dh h
 |a::t,b::r,h=>by unfold jX at h;rw[XD,XD,PyData.eqvAll,Xx] at h;rw[XD,XD,lJ h.2,j4 h.1]
theorem CK {l:List At} {m:am} (h:(l.map Nd.one).map Nd.kind=m.map Nd.kind) (k: ∀a∈l,a.kind≤5): ∀x∈m,x.kind≤5:=by intro x n;haveI:x.kind∈m.map Nd.kind:=Xj.mpr ⟨x,n,rfl⟩;rw[←h,XW] at this;obtain⟨a,p,e⟩:=Xj.mp this;rw[←e];exact k a p
def e6 {x:Nd} (h:x.pass=true):x.kind≤5:=by
 unfold Nd.pass at h;simp only[XX,XJ] at h;rcases h with(h|h)|h
 ·lia
 ·lia
 ·cases x with
  |one a=>induction a using At.casesOn<;>first|exact(aU aw:(5:Int)≤5)|exact dh h
  |_=>exact dh h
def Gc {b:Nd} (h:r7 a b=true) (e:a.pass=true):b.pass=true:=by
 haveI k:=j4 h;cases a with
 |one x=>cases x with
  |char g c=>haveI:b.kind=0:=k.symm;unfold Nd.pass;rw[this];rfl
  |kj g c q l r=>haveI:b.kind=1:=k.symm;unfold Nd.pass;rw[this];rfl
  |cJ w s=>
   haveI n:b.kind=5:=k.symm;cases b with
   |one y=>induction y using At.casesOn with
    |cJ t p=>have m:(s==0)=true:=e;have m:=XJ.mp m;subst m;unfold r7 Nd.FW at h;simp only[PyData.eqv,PyData.eqvAll,Xx,XJ] at h;haveI:p=0:=h.2.2.1.symm;subst this;rfl
    |_=>cases(n)
   |_=>cases(n)
  |_=>exact dh e
 |_=>exact dh e
theorem qP: ∀{l m:am},jX l m=true→l.length=m.length∧ ∀(i:Nat) (x y:Nd),l[i]?=some x→m[i]?=some y→r7 x y=true
 |[],[],_=>⟨rfl,fun ξ ξ ξ h=>nomatch h⟩
 |[],_::_,h=>by exact dh h
 |_::_,[],h=>by exact dh h
 |a::t,b::r,h=>by
  unfold jX at h;rw[XD,XD,PyData.eqvAll,Xx] at h;have e:=qP (l:=t) (m:=r) h.2;refine⟨W4 (· +1) e.1,fun i x y k n=>?_⟩;cases i with
  |zero=>obtain rfl:=dL k;obtain rfl:=dL n;exact h.1
  |succ i=>exact e.2 i x y k n
def CL (h:jX l m=true) (n: ∀x∈l,x.pass=true): ∀y∈m,y.pass=true:=by
 intro y p;obtain⟨i,k⟩:=YO p;have g:=qP h;have e:i<l.length:=by
  rw[g.1];rcases XF i m.length with q|q
  ·exact q
  ·rw[XN q] at k;exact bH k
 exact Gc (g.2 i _ _ (WS e) k) (n _ (Yh e))
structure PC (rn:Rn) (cok:Bool→ah→Prop) (f:Bool) (P:am) (b e:Nat):Prop where
 p0:P[0]?=some .skip
 nd: ∃nd,P[b]?=some nd∧nd.gl=some f
 ok:1≤b∧b<e∧e≤P.length
 wd: ∀i,b≤i→i<e→ ∃x,P[i]?=some x∧x.nU f=true
 kr: ∀f l r codes,cok f codes→ ∀a∈rn f l r codes,(Nd.one a).pass=true
 ck:cok f (bq f P b e)
 ld: ∀p∈d',aC (aT rn f (bq f P b e) p)≤1
variable {P:am} {b:Nat}
def PC.blt (h:PC m k f P b e):b<P.length:=by
 obtain⟨n,x,_⟩:=h.nd;rcases XF b P.length with q|q
 ·exact q
 ·rw[XN q] at x;exact bH x
def PC.pre (h:PC m k f P b e): ∃x∈(P.take b).reverse,x.nU f=false:=by refine⟨.skip,aao.mpr (XI (i:=0) ?_),rfl⟩;rw[Ym (by haveI:=h.ok;exact(bT 0x22008076b4041086210803000423) this)];exact h.p0
def PC.f0 (h:PC k x f P b e):1≤aH f P b∧aH f P b≤b:=by haveI:=(mN (m:=[]) h.pre).2;rw[Xi,Xg] at this;haveI:=h.blt;unfold aH;grind
def PC.l0 (h:PC k x f P b e):e≤aZ f P e∧aZ f P e≤P.length:=by haveI:=uV (f:=f) (P.drop e);rw[WT] at this;haveI:=h.ok;unfold aZ;grind
def Gd {e:Nd} (h:e.gl=some f):e.kind≠5:=by
 cases e with
 |one a=>induction a using At.casesOn<;>first|(exact bH h;done)|(intro q;cases(q))
 |_=>exact bH h
@[reducible] def JL (f : Bool) (m : Rn) (k : Bool → ah → Prop) (P : am) (b e : Nat) : Prop := ∀ (h : PC m k f P b e), aM f P b e ≤ b ∧ b < bc f P b e ∧ bc f P b e ≤ aZ f P e ∧ aH f P b ≤ aM f P b e ∧ ∃ x, P[bc f P b e - 1]? = some x ∧ x.kind ≠ 5
abbrev JM:List Type:=[Bool,Rn,Bool→ah→Prop,am,Nat,Nat]
def RE:=eV JM JL ⟨nI,nI,nI,nI,nI,nI,trivial⟩
def Vl:eU JM JL RE:=by
 injections RE f j s P b e;change JL f j s P b e;intro h;obtain⟨y,d,l⟩:=h.nd;have z:=Gd l;have m:=h.ok;have p:=h.f0;have n:=h.l0;have k:=kE (xs:=P) (a:=aH f P b) n.2;have g:(sl P (aH f P b) (aZ f P e))[b-aH f P b]?=some y:=by rwa[lI ((xQ 0x2311848188c200da020903020421b40011860308476b4041086210803000423) m p n),show aH f P b+(b-aH f P b)=b by exact(br 0x2410c220084200da010803000423) p]
 have q:=wZ g z;haveI c:((sl P (aH f P b) (aZ f P e)).drop (aC (sl P (aH f P b) (aZ f P e)))).reverse[aZ f P e-1-b]?=some y:=by rw[X7 (by rw[WT,k];exact(xY 0x8c4a188c240c401884640c223080250da020903020421b40011860308476b4041086210803000423) m p n q),WT,k,Xv,←g];congr 1;exact(xY 0x12894200c2310062118c3108e240c4a118481844a100481b40411860308436b4041086210803000423) m n q
 have r:aQ (sl P (aH f P b) (aZ f P e))≤aZ f P e-1-b:=wZ c z;have i:aM f P b e=aH f P b+aC (sl P (aH f P b) (aZ f P e)):=rfl;have t:bc f P b e=aZ f P e-aQ (sl P (aH f P b) (aZ f P e)):=rfl;refine⟨by exact(fH 0x804230ca02080230c220084220da010803000423) p q i,by exact(xY 0x894200ca2408c250c2200c42318481b40411860308436b4041086210803000423) m n r t,by exact(bT 0x10084019444108401) t,by exact(bT 0x10004219404108401) i,?_⟩;haveI u:aC ((sl P (aH f P b) (aZ f P e)).drop (aC (sl P (aH f P b) (aZ f P e)))).reverse<((sl P (aH f P b) (aZ f P e)).drop (aC (sl P (aH f P b) (aZ f P e)))).reverse.length:=by rw[Xi,WT,k];haveI:aQ (sl P (aH f P b) (aZ f P e))=aC ((sl P (aH f P b) (aZ f P e)).drop (aC (sl P (aH f P b) (aZ f P e)))).reverse:=rfl;exact(O6 0x23128623090270c8e13061100621190260c223080250da020903020421b40011860308476b4041086210803000423) m p n q r this
 obtain⟨x,v,w⟩:=qO u;change _[aQ (sl P (aH f P b) (aZ f P e))]?=_ at v;rw[X7 (by rw[WT,k];exact(VL 0x1189431184813061100621190260c223080250da020903020421b40011860308476b4041086210803000423) m p n q r),WT,k,Xv,lI (by grind)] at v;refine⟨x,?_,w⟩;rw[←v];congr 1;exact(O6 0x94211306211c4a188c24094230c42338651304813861100621190260c223080250da020903020421b40011860308476b4041086210803000423) m p n q r t
def PC.mid:eB JM JL:=eA JM Vl
theorem Ef {m:am} {a h:Nat} (u: ∃x,P[h-1]?=some x∧x.kind≠5) (g:1≤h) (i:a<h) (e:P.length<h+aQ m):jX m (P.drop a)=false:=by
 cases v:jX m (P.drop a) with
 |false=>rfl
 |true=>
  exfalso;haveI w:=uZ (lJ v);rw[w] at e;have n:=iy (P.drop a);rw[WT] at n;obtain⟨x,p,r⟩:=u;have k:h-1<P.length:=by
   rcases XF (h-1) P.length with q|q
   ·exact q
   ·rw[XN q] at p;exact bH p
  haveI z:P.length-h<aQ (P.drop a):=by exact(bT 0x88831084018803108c218c04108401) e k
  obtain⟨y,s,t⟩:=gm (l:=((P.drop a).drop (aC (P.drop a))).reverse) z;rw[X7 (by rw[WT,WT];exact(xQ 0x1188c3120401884200c401884610c22408030104618c04108401) e n k),WT,WT,Xv,Xv] at s;rw[show a+(aC (P.drop a)+(P.length-a-aC (P.drop a)-1-(P.length-h)))=h-1 by exact(xQ 0x94423086108c421006211c4618902008c240c401884610c22408030104618c04108401) e n k,p] at s;obtain rfl:=dL s;exact r t
theorem JN {e:List At} {m:am} (x: ∀a∈e,a.kind≤5) (h: .skip∈m):jX (e.map Nd.one) m=false:=by
 cases k:jX (e.map Nd.one) m with
 |false=>rfl
 |true=>haveI:=CK (lJ k) x _ h;exact absurd this (aU aw)
end
def Ge {x:Nd} (h:x.nU f=true):x.pass=true:=by
 cases x with
 |one a=>cases a with
  |char g c=>rfl
  |kj g c e l r=>rfl
  |cJ w s=>exact h
  |_=>exact dh h
 |_=>exact dh h
theorem xa {x:Nd} (h:x.kind≤5):x= .one (zt x):=by
 cases x with
 |one a=>rfl
 |skip=>exact absurd h (aU aw)
 |cI a b c=>exact absurd h (by exact aU aw: ¬(8:Int)≤5)
def PC.all (h:PC u p f P b e): ∀i,aH f P b≤i→i<aZ f P e→ ∃x,P[i]?=some x∧x.nU f=true:=by
 intro i r s;haveI v:=h.f0;have t:=h.blt;rcases XF i b with q|q
 ·haveI:b-1-i<iZ f (P.take b).reverse:=by
   haveI n:aH f P b=b-iZ f (P.take b).reverse:=rfl;exact(fH 0x11186210c4231065118441006220843008401) r q n
  obtain⟨x,m,k⟩:=qN this;rw[X7 (by rw[Xg];exact(bT 0x8c821006220c423006200883108401) t q),Xg,Ym (by grind),show min b P.length-1-(b-1-i)=i by grind] at m;exact⟨x,m,k⟩
 ·rcases XF i e with q2|q2
  ·exact h.wd i q q2
  ·haveI:i-e<iZ f (P.drop e):=by
    haveI n:aZ f P e=e+iZ f (P.drop e):=rfl;exact(fH 0x2230c4410065018441086000883108401) s q2 n
   obtain⟨x,m,k⟩:=qN this;rw[Xv,show e+(i-e)=i by exact(br 0x90430880210803008401) q2] at m;exact⟨x,m,k⟩
def lK {α:Type} {m:List α} {x:α} (h:x∈sl m a b): ∃i,a≤i∧i<b∧m[i]?=some x:=by
 obtain⟨j,e⟩:=YO h;have k:j<b-a:=by
  rcases XF j (b-a) with q|q
  ·exact q
  ·unfold sl at e;rw[List.getElem?_take,WX ((bT 0x88c421004418083108401) q)] at e;exact bH e
 rw[lI k] at e;exact⟨a+j,by exact(br 566970287105),by exact(bT 0x88430004418c44108401) k,e⟩
def zu {α:Type} {e:List α} {x:α} (h:e[i]?=some x) (k:a≤i) (m:i<b):x∈sl e a b:=by refine XI (i:=i-a) ?_;rwa[lI ((bT 0x11880220c401086220843008401) k m),show a+(i-a)=i by exact(br 0x90430880210803008401) k]
def WM (k:Nat) (r:Nat×Nat×Bool×Bool):Nat×Nat×Bool×Bool:=(k+r.1,k+r.2.1,r.2.2.1,r.2.2.2)
theorem tG (h:PC n z f P b e) (w:mL B): ∀{ps:List (Bool×Bool)},(∀p∈ps,p∈d')→
  cQ n f (A++(P++B)) (bq f P b e) (A.length+aM f P b e) (A.length+bc f P b e) ps=WM A.length (cQ n f P (bq f P b e) (aM f P b e) (bc f P b e) ps)
 |[],_=>rfl
 |p::ps,y=>by
  have g:=tG h (A:=A) w (ps:=ps) fun q m=>y q (Xc _ m);have m:=h.mid;haveI o:=h.f0;haveI j:=h.blt;haveI ld:=h.ld p (y p (Xh ..));rw[jY,jY];rw[g];generalize t:aT n f (bq f P b e) p=k at ld⊢;haveI u: ∀a∈n f p.1 p.2 (bq f P b e),a.kind≤5:=fun a m=>e6 (x:= .one a) (h.kr f p.1 p.2 _ h.ck a m);have s:k=(n f p.1 p.2 (bq f P b e)).map Nd.one:=t.symm;haveI l:A.length+aM f P b e-aC k=A.length+(aM f P b e-aC k):=by lia
  haveI c:A.length+bc f P b e+aQ k=A.length+(bc f P b e+aQ k):=by lia
  rw[l,c];haveI v:jX k (sl (A++(P++B)) (A.length+(aM f P b e-aC k)) (A.length+(bc f P b e+aQ k)))=jX k (sl P (aM f P b e-aC k) (bc f P b e+aQ k)):=by
   rcases XF P.length (bc f P b e+aQ k) with ho|ho
   ·haveI d:sl P (aM f P b e-aC k) (bc f P b e+aQ k)=P.drop (aM f P b e-aC k):=by
     unfold sl;rw[X4 (by rw[WT];omega)]
    rcases w with rfl|⟨r,rfl⟩
    ·rw[Xe];haveI:sl (A++P) (A.length+(aM f P b e-aC k)) (A.length+(bc f P b e+aQ k))=sl P (aM f P b e-aC k) (bc f P b e+aQ k):=by
      unfold sl;rw[fA,show A.length+(bc f P b e+aQ k)-(A.length+(aM f P b e-aC k))=bc f P b e+aQ k-(aM f P b e-aC k) by lia]
     rw[this]
    ·rw[d,Ef m.2.2.2.2 (by grind) ((fH 0x2220c461006220843008401) m.1 m.2.1) ho,s];refine JN u ?_;rw[←s];refine zu (i:=A.length+P.length) ?_ ((xQ 0x840411861120401186220843008401) m.1 j) ((fH 0x2308082108c30004618c04108401) ho);rw[mM,Xn (Xl _),YE];rfl
   ·rw[eZ ho]
  rw[v];split<;>rfl
theorem qQ (h:PC n l f P b e): ∀{ps:List (Bool×Bool)},(∀p∈ps,p∈d')→
  1≤(cQ n f P (bq f P b e) (aM f P b e) (bc f P b e) ps).1∧(cQ n f P (bq f P b e) (aM f P b e) (bc f P b e) ps).1≤aM f P b e∧
  bc f P b e≤(cQ n f P (bq f P b e) (aM f P b e) (bc f P b e) ps).2.1∧(cQ n f P (bq f P b e) (aM f P b e) (bc f P b e) ps).2.1≤P.length∧
  ∀x∈sl P (cQ n f P (bq f P b e) (aM f P b e) (bc f P b e) ps).1 (cQ n f P (bq f P b e) (aM f P b e) (bc f P b e) ps).2.1,x.pass=true
 |[],_=>by have m:=h.mid;haveI c:=h.f0;haveI d:=h.l0;refine⟨by show 1≤aM f P b e;lia,Xl _,Xl _,by show bc f P b e≤_;lia,fun x s=>?_⟩;obtain⟨i,o,A,B⟩:=lK s;change aM f P b e≤i at o;change i<bc f P b e at A;obtain⟨y,g,t⟩:=h.all i (by lia) (by lia);rw[B] at g;obtain rfl:=dL g;exact Ge t
 |p::ps,j=>by
  have C:=qQ h (ps:=ps) fun q m=>j q (Xc _ m);have m:=h.mid;haveI c:=h.f0;haveI d:=h.l0;have ld:=h.ld p (j p (Xh ..));rw[jY];generalize u:aT n f (bq f P b e) p=k at ld⊢;haveI D: ∀a∈n f p.1 p.2 (bq f P b e),a.kind≤5:=fun a m=>e6 (x:= .one a) (h.kr f p.1 p.2 _ h.ck a m);haveI v:k=(n f p.1 p.2 (bq f P b e)).map Nd.one:=u.symm;split
  ·rename_i w;haveI z:bc f P b e+aQ k≤P.length:=by
    rcases XF P.length (bc f P b e+aQ k) with ho|ho
    ·haveI G:sl P (aM f P b e-aC k) (bc f P b e+aQ k)=P.drop (aM f P b e-aC k):=by
      unfold sl;rw[X4 (by rw[WT];lia)]
     rw[G,Ef m.2.2.2.2 (by omega) (by omega) ho] at w;exact dh w
    ·exact ho
   have r: ∀x∈sl P (aM f P b e-aC k) (bc f P b e+aQ k),x.pass=true:=CL w (by
    rw[v];intro x s;obtain⟨a,H,rfl⟩:=Xj.mp s
    exact h.kr f p.1 p.2 _ h.ck a H)
   refine⟨?_,by show aM f P b e-aC k≤_;grind,by show _≤bc f P b e+aQ k;exact(br 566970287105),z,r⟩;show 1≤aM f P b e-aC k;rcases Nat.eq_zero_or_pos (aM f P b e-aC k) with q|q
   ·exfalso;haveI:=r .skip (zu h.p0 ((br 0x80071084019007108401) q) ((bT 0x11808210807108401) m.2.1));exact dh this
   ·exact q
  ·exact C
def qR (h:PC x t f P b e) (k:mL B):
  aj x f (A++(P++B)) (A.length+b) (A.length+e)=⟨A.length+(aj x f P b e).first,A.length+(aj x f P b e).last,(aj x f P b e).codes,(aj x f P b e).l,(aj x f P b e).r⟩:=by
 have u:=h.blt;have v:=h.ok;have n:aH f (A++(P++B)) (A.length+b)=A.length+aH f P b:=by
  haveI:((A++(P++B)).take (A.length+b)).reverse=(P.take b).reverse++A.reverse:=by rw[List.take_length_add_append,YZ (Xq u),Z2]
  unfold aH;rw[this];have c:=mN (m:=A.reverse) h.pre;rw[c.1];haveI w:=c.2;rw[Xi,Xg] at w
  grind
 have q:aZ f (A++(P++B)) (A.length+e)=A.length+aZ f P e:=by unfold aZ;rw[fA,XB v.2.2,nt k];exact(bT 0x1284041084018083008401)
 have r:aM f (A++(P++B)) (A.length+b) (A.length+e)=A.length+aM f P b e:=by unfold aM;rw[n,q,eZ h.l0.2];exact(bT 0x1284041084018083008401)
 have m:=h.mid;haveI z:=h.l0;have s:bc f (A++(P++B)) (A.length+b) (A.length+e)=A.length+bc f P b e:=by haveI:bc f P b e=aZ f P e-aQ (sl P (aH f P b) (aZ f P e)):=rfl;unfold bc;rw[n,q,eZ h.l0.2];lia
 haveI y:bq f (A++(P++B)) (A.length+b) (A.length+e)=bq f P b e:=by unfold bq;rw[r,s,eZ (by lia)]
 unfold aj;rw[r,s,y,tG h k fun p m=>m]
 rfl
section
variable {fd:Fs} {f:Bool} {rn:Rn} {P:am} {b e:Nat} {W:kD}
theorem nu: ∀{l:am} {ls:ah} {i:Nat},i<(aO f l ls).1→ ∃x,l[i]?=some x∧x.nU f=true
 |[],ls,i,h=>absurd h (Yc _)
 |a::t,ls,i,h=>by
  rw[kA] at h;split at h
  ·rename_i k;cases i with
   |zero=>exact⟨a,rfl,k.1⟩
   |succ i=>exact nu (l:=t) (Nat.lt_of_succ_lt_succ h)
  ·exact absurd h (Yc _)
theorem lL {up:Bool}: ∀{l:am} {i b:Nat},bR up i l=some b→ ∀j,i+j<b→ ∃x,l[j]?=some x∧(x.pass||fQ x)=true
 |[],_,_,h,_,_=>by exact bH h
 |nd::t,i,b,h,j,m=>by
  rw[fy] at h;split at h
  ·rename_i n;cases j with
   |zero=>exact⟨nd,rfl,n⟩
   |succ j=>
    have k:bR up (i+1) t=some b→ ∃x,(nd::t)[j+1]?=some x∧(x.pass||fQ x)=true:=fun h=>lL (l:=t) h j ((bT 0x2220c021804600c4418402308401) m);split at h
    ·exact k h
    ·split at h
     ·exact k h
     ·split at h
      ·obtain rfl:=dL h;lia
      ·exact bH h
  ·exact bH h
def PC.sp (h:PC rn k f P b e):1≤(aj rn f P b e).first∧(aj rn f P b e).first≤aM f P b e∧bc f P b e≤(aj rn f P b e).last∧(aj rn f P b e).last≤P.length∧ ∀x∈sl P (aj rn f P b e).first (aj rn f P b e).last,x.pass=true:=
 qQ h fun p m=>m
def bO (h:Bool) (l:am):Bool:=l.foldl (fun t x=>bJ x t) h
def Gf:Nd→Bool
 | .one (.lD ..)=>true
 |_=>false
theorem j5: ∀{l:am} {k:Bool},(∀x∈l,Gf x=false)→bO k l=k
 |[],_,_=>rfl
 |a::t,k,h=>by
  haveI n:=h a (Xh ..);haveI:bJ a k=k:=by
   cases a with
   |one a=>induction a using At.casesOn<;>first|rfl|exact Hj n
   |_=>rfl
  show bO (bJ a k) t=k;rw[this,j5 fun x m=>h x (Xc _ m)]
def mO:bO h (l++m)=bO (bO h l) m:=List.foldl_append ..
structure Piece (P:am):Prop where
 p0:P[0]?=some .skip
 ns: ∀i x,P[i+1]?=some x→i2 x=false
structure AX (rn:Rn) (cok:Bool→ah→Prop) (fd:Fs) (W:kD) (P:am):Prop extends Piece P where
 hX: ∀f b e ps,cj fd W P 0 .skip true=some (f,b,e,ps)→PC rn cok f P b e
def iz (h:cj fd W P 0 .skip m=some (f,b,e,p)):m=true∧ ∃x,co fd W.up 0 P=some (b,e,x)∧p=W.T.bm x W.l W.r∧p≠[]∧ ∃k,P[b]?=some k∧k.gl=some f:=by
 unfold cj at h;split at h
 ·rename_i t;cases n:co fd W.up 0 P with
  |none=>rw[n] at h;exact bH h
  |some r=>
   obtain⟨u,w,x⟩:=r;obtain⟨k,g,q,s,_⟩:=c6 n;rw[n] at h;change(if W.T.bm x W.l W.r=[] then none else Option.map _ (P[u]?.bind Nd.gl))=_ at h;rw[q] at h;change(if W.T.bm x W.l W.r=[] then none else Option.map _ k.gl)=_ at h;rw[s] at h;split at h
   ·exact bH h
   ·rename_i v;cases(h)
    exact⟨t.2,x,rfl,rfl,v,k,q,s⟩
 ·exact bH h
def PC.Gg (h:PC rn v f P b e) (p: ∃s,co fd W.up 0 P=some (b,e,s)): ∀x∈P.take (aj rn f P b e).last,Gf x=false:=by
 obtain⟨s,p⟩:=p;obtain⟨l,g,c,d,o,A,B,C,D,G,w,_⟩:=c6 p;have t:=h.sp;haveI m:=h.mid;intro x z;obtain⟨i,k⟩:=YO z;have n:i<(aj rn f P b e).last:=by
  rcases XF i (aj rn f P b e).last with q|q
  ·exact q
  ·rw[List.getElem?_take,WX ((br 9605369064096769) q)] at k;exact bH k
 rw[Ym n] at k;rcases XF i b with q|q
 ·cases i with
  |zero=>rw[h.p0] at k;obtain rfl:=dL k;rfl
  |succ i=>
   obtain⟨y,u,r⟩:=lL w i ((br 0x88430004238843008c01) q);rw[Xv,show 0+1+i=i+1 by exact(bC 0x4a011803000423),k] at u;obtain rfl:=dL u;cases x with
   |one a=>induction a using At.casesOn<;>first|rfl|exact dh r
   |_=>rfl
 ·haveI j:=e6 (t.2.2.2.2 x (zu k (WR t.2.1 (WR m.1 q)) n));cases x with
  |one a=>induction a using At.casesOn<;>first|rfl|exact absurd j (aU aw: ¬(12:Int)≤5)
  |_=>rfl
theorem nv {as:am}: ∀{t A R:am} {n:Nat} {txt:Bool},(∀x∈t,i2 x=false)→as=A++(t++R)→t.length≤n→
  cR rn fd W as n A.length txt=t++cR rn fd W as (n-t.length) (A.length+t.length) (bO txt t)
 |[],A,R,n,txt,_,_,_=>rfl
 |a::t,A,R,0,txt,_,_,p=>absurd p (Nat.not_succ_le_zero _)
 |a::t,A,R,n+1,txt,h,e,p=>by
  haveI u:=h a (Xh ..);haveI v:as[A.length]?=some a:=by rw[e,Xn (Xl _),YE];rfl
  haveI w:cj fd W as A.length a (bJ a txt)=none:=by unfold cj;rw[WX (by rw[u];rintro⟨q,_⟩;exact dh q)]
  haveI s:=nv (as:=as) (t:=t) (A:=A++[a]) (R:=R) (n:=n) (txt:=bJ a txt) (fun x m=>h x (Xc _ m)) (by rw[e,WW];rfl) (Nat.le_of_succ_le_succ p);rw[WO,XR] at s
  show(match as[A.length]? with
   |none=>[]
   |some k=>match cj fd W as A.length k (bJ k txt) with
    |none=>k::cR rn fd W as n (A.length+1) (bJ k txt)
    |some (f,b,e,r)=>k::(sl as (A.length+1) (aj rn f as b e).first++(brk rn fd as f b e r++cR rn fd W as n (aj rn f as b e).last (bJ k txt))))=_
  rw[v]
  show(match cj fd W as A.length a (bJ a txt) with
    |none=>a::cR rn fd W as n (A.length+1) (bJ a txt)
    |some (f,b,e,r)=>a::(sl as (A.length+1) (aj rn f as b e).first++(brk rn fd as f b e r++cR rn fd W as n (aj rn f as b e).last (bJ a txt))))=_
  rw[w];show a::cR rn fd W as n (A.length+1) (bJ a txt)=_;rw[s,W0,show A.length+1+t.length=A.length+(t.length+1) by exact(br 0x1284023084018043008c01),show n+1-(t.length+1)=n-t.length by exact(br 0x12884200c6011843008c01)]
  rfl
theorem tH {x y x' y':Nat} {c:ah} {l r:Bool} {nat:List At}: ∀{ps:aL} {dn:Nat},bu rn fd f ⟨x,y,c,l,r⟩ nat ps dn=bu rn fd f ⟨x',y',c,l,r⟩ nat ps dn
 |[],_=>rfl
 |p::ps,dn=>by have h:=fun dn=>tH (x:=x) (y:=y) (x':=x') (y':=y') (c:=c) (l:=l) (r:=r) (nat:=nat) (ps:=ps) (dn:=dn);haveI k:dG rn fd f ⟨x,y,c,l,r⟩ nat p=dG rn fd f ⟨x',y',c,l,r⟩ nat p:=rfl;haveI m:jh rn fd f ⟨x,y,c,l,r⟩ nat p=jh rn fd f ⟨x',y',c,l,r⟩ nat p:=rfl;haveI n:oy rn fd f ⟨x,y,c,l,r⟩ nat p=oy rn fd f ⟨x',y',c,l,r⟩ nat p:=rfl;rw[wU,wU];rw[k,m,n,h,h]
def JO (h:PC rn k f P b e) (m:mL B):brk rn fd (A++(P++B)) f (A.length+b) (A.length+e) x=brk rn fd P f b e x:=by
 haveI n:=h.sp;haveI en:bA (A++(P++B)) ⟨A.length+(aj rn f P b e).first,A.length+(aj rn f P b e).last,(aj rn f P b e).codes,(aj rn f P b e).l,(aj rn f P b e).r⟩=bA P (aj rn f P b e):=by show(sl _ (A.length+_) (A.length+_)).map zt=_;rw[eZ n.2.2.2.1];rfl
 haveI p:cu (A++(P++B)) (A.length+(aj rn f P b e).first) (A.length+b)=cu P (aj rn f P b e).first b:=by unfold cu;rw[eZ (Xq h.blt)]
 unfold brk;rw[qR h m,en];show bu _ _ _ _ _ (x.map fun q=>cu _ (A.length+(aj rn f P b e).first) (A.length+b)+q.toNat) 0=_;rw[p];exact tH
def aR (rn:Rn) (fd:Fs) (W:kD) (h:Bool) (P:am):am:=match cj fd W P 0 .skip h with
 |none=>P
 |some (f,b,e,x)=>P.take (aj rn f P b e).first++(brk rn fd P f b e x++P.drop (aj rn f P b e).last)
def u0 (rn:Rn) (fd:Fs) (W:kD):Bool→List am→am
 |_,[]=>[]
 |txt,P::h=>aR rn fd W txt P++u0 rn fd W (bO txt P) h
theorem tJ {x:List am} (h: ∀P∈x,Piece P):mL x.flatten:=by
 cases x with
 |nil=>exact .inl rfl
 |cons P x=>
  haveI:=(h P (Xh ..)).p0;cases P with
  |nil=>exact bH this
  |cons a r=>obtain rfl:=dL this;exact .inr ⟨_,rfl⟩
theorem qS: ∀{Ps:List am} {A:am} {n:Nat} {txt:Bool},(∀P∈Ps,AX rn cok fd W P)→Ps.flatten.length≤n→
  cR rn fd W (A++Ps.flatten) (n+1) A.length txt=u0 rn fd W txt Ps
 |[],A,n,txt,_,_=>by show(match(A++[])[A.length]? with|none=>[]|some u=>_)=_;rw[Xe,XN (Xl _)];rfl
 |P::Ps,A,n,txt,h,z=>by
  have y:=h P (Xh ..);have d:mL Ps.flatten:=tJ fun Q m=>(h Q (Xc _ m)).toPiece;have g:0<P.length:=by
   haveI:=y.p0;cases P with
   |nil=>exact bH this
   |cons a r=>exact YN _
  rw[Yq] at z⊢;rw[WO] at z;have J:(A++(P++Ps.flatten))[A.length]?=some .skip:=by rw[Xn (Xl _),YE,XS g];exact y.p0
  have C: ∀{j m:Nat} {l:Bool},1≤j→j≤P.length→Ps.flatten.length+(P.length-j)+1≤m→bO l (P.drop j)=bO txt P→cR rn fd W (A++(P++Ps.flatten)) m (A.length+j) l=P.drop j++u0 rn fd W (bO txt P) Ps:=fun{j m l} L D o N=>by
   haveI B:A++(P++Ps.flatten)=(A++P.take j)++(P.drop j++Ps.flatten):=by rw[WW,←WW (P.take j),XC]
   have c:(A++P.take j).length=A.length+j:=by rw[WO,Xg];exact(bT 0x4a0008830904200883008401) D
   haveI G:=nv (rn:=rn) (fd:=fd) (W:=W) (as:=A++(P++Ps.flatten)) (t:=P.drop j) (A:=A++P.take j) (R:=Ps.flatten) (n:=m) (txt:=l) (fun x O=>by
    obtain⟨i,H⟩:=YO O;rw[Xv,show j+i=(j+i-1)+1 by exact(br 0x25008e211c021006010803000423) L] at H
    exact y.ns _ x H) B (by rw[WT];exact(fH 0x2030c441086030c0238444108401) o)
   rw[c,WT,N] at G;rw[G];congr 1;haveI U:=qS (Ps:=Ps) (A:=A++P) (n:=m-(P.length-j)-1) (txt:=bO txt P) (fun Q Y=>h Q (Xc _ Y)) ((fH 0x844238c44108461006030c0238444108401) o);rw[WW,WO,show m-(P.length-j)-1+1=m-(P.length-j) by exact(fH 0x128c441084618047108e3110421186030c0238444108401) o] at U;rwa[show A.length+j+(P.length-j)=A.length+P.length by exact(bT 0x2500844184401086000883008401) D]
  show(match(A++(P++Ps.flatten))[A.length]? with
   |none=>[]
   |some u=>match cj fd W (A++(P++Ps.flatten)) A.length u (bJ u txt) with
    |none=>u::cR rn fd W (A++(P++Ps.flatten)) n (A.length+1) (bJ u txt)
    |some (f,b,e,s)=>u::(sl (A++(P++Ps.flatten)) (A.length+1) (aj rn f (A++(P++Ps.flatten)) b e).first++(brk rn fd (A++(P++Ps.flatten)) f b e s++cR rn fd W (A++(P++Ps.flatten)) n (aj rn f (A++(P++Ps.flatten)) b e).last (bJ u txt))))=_
  rw[J]
  show(match cj fd W (A++(P++Ps.flatten)) A.length .skip txt with
    |none=> .skip::cR rn fd W (A++(P++Ps.flatten)) n (A.length+1) txt
    |some (f,b,e,s)=> .skip::(sl (A++(P++Ps.flatten)) (A.length+1) (aj rn f (A++(P++Ps.flatten)) b e).first++(brk rn fd (A++(P++Ps.flatten)) f b e s++cR rn fd W (A++(P++Ps.flatten)) n (aj rn f (A++(P++Ps.flatten)) b e).last txt)))=aR rn fd W txt P++u0 rn fd W (bO txt P) Ps
  rw[wY d g];have p:P= .skip::P.drop 1:=by
   haveI:=y.p0;cases P with
   |nil=>exact bH this
   |cons a r=>obtain rfl:=dL this;rfl
  unfold aR;cases I:cj fd W P 0 .skip txt with
  |none=>show .skip::cR rn fd W (A++(P++Ps.flatten)) n (A.length+1) txt=P++_;rw[C (Xl 1) g ((bT 0x4041804708846008431004038083008401) z g) (by rw[show bO txt P=bO txt (.skip::P.drop 1) from W4 _ p];rfl)];exact W4 (· ++u0 rn fd W (bO txt P) Ps) p.symm
  |some r=>
   obtain⟨f,b,e,s⟩:=r;obtain⟨rfl,ls,hw,ha,_⟩:=iz I;have v:=y.hX f b e s I;have w:=v.sp;show .skip::(sl (A++(P++Ps.flatten)) (A.length+1) (aj rn f (A++(P++Ps.flatten)) (A.length+b) (A.length+e)).first++(brk rn fd (A++(P++Ps.flatten)) f (A.length+b) (A.length+e) s++cR rn fd W (A++(P++Ps.flatten)) n (aj rn f (A++(P++Ps.flatten)) (A.length+b) (A.length+e)).last true))=
    (P.take (aj rn f P b e).first++(brk rn fd P f b e s++P.drop (aj rn f P b e).last))++u0 rn fd W (bO true P) Ps
   rw[JO v d,qR v d];have m:=v.mid;haveI hb:=v.blt;haveI B:(aj rn f P b e).first≤P.length:=WR w.2.1 ((bT 0x4041006220843008401) m.1 hb)
   have c:1≤(aj rn f P b e).last:=WR ((br 564085017052161) m.2.1:1≤bc f P b e) w.2.2.1;haveI e3:(aj rn f P b e).last≤P.length:=w.2.2.2.1;show .skip::(sl (A++(P++Ps.flatten)) (A.length+1) (A.length+(aj rn f P b e).first)++(brk rn fd P f b e s++cR rn fd W (A++(P++Ps.flatten)) n (A.length+(aj rn f P b e).last) true))=_
   rw[eZ B,C c e3 ((fH 0x8083008e11184010860308470004618083008401) z w.2.2.2.1 c) (by
    haveI:bO true P=bO true (P.take (aj rn f P b e).last++P.drop (aj rn f P b e).last):=by rw[XC]
    rw[this,mO,j5 (v.Gg (W:=W) (fd:=fd) ⟨ls,hw⟩)])]
   haveI e4:P.take (aj rn f P b e).first= .skip::sl P 1 (aj rn f P b e).first:=by
    haveI q:1≤(aj rn f P b e).first:=w.1
    obtain⟨k,hk⟩: ∃k,(aj rn f P b e).first=k+1:=⟨(aj rn f P b e).first-1,by exact(bC 0x94023884600803000423) w.1⟩
    rw[hk];haveI:P.take (k+1)=(.skip::P.drop 1:am).take (k+1):=W4 _ p;rw[this];rfl
   rw[e4];simp only[XM,WW]
end
section
variable {P:am} {W:kD}
def N3 (x:Nd):Prop:=match x.codes with
 |[]=>True
 |c::_=>cE c=0
set_option tactic.hygienic true in
theorem n3 {up:Bool}: ∀{l:am} {i b:Nat},bR up i l=some b→ ∀j,i+j<b→ ∃x,l[j]?=some x∧(x.pass||fQ x)=true∧N3 x
 |[],_,_,h,_,_=>by exact bH h
 |nd::t,i,b,h,j,k=>by
  rw[fy] at h;split at h
  ·rename_i n;have e: ∀{j},i+(j+1)<b→bR up (i+1) t=some b→ ∃x,(nd::t)[j+1]?=some x∧(x.pass||fQ x)=true∧N3 x:=fun{j} k h=>n3 (l:=t) h j ((bT 0x2220c021804600c4418402308401) k);split at h
   ·rename_i m;cases j with
    |zero=>exact⟨nd,rfl,n,by unfold N3;rw[m];trivial⟩
    |succ j=>exact e k h
   ·rename_i c r m;split at h
    ·rename_i p;cases j with
     |zero=>exact⟨nd,rfl,n,by unfold N3;rw[m];exact p⟩
     |succ j=>exact e k h
    ·split at h
     ·obtain rfl:=dL h;lia
     ·exact bH h
  ·exact bH h
def xb {up:Bool}:bR up i (a::t)=if(a.pass||fQ a)=true then(match a.codes with
   |[]=>bR up (i+1) t
   |c::_=>if cE c=0 then bR up (i+1) t else if cE c=c∨up=true then some i else none) else none:=rfl
theorem n4 {up:Bool}: ∀{l:am} {i:Nat},(∀x∈l,(x.pass||fQ x)=true∧N3 x)→bR up i (l++X)=bR up (i+l.length) X
 |[],i,_=>rfl
 |a::t,i,h=>by
  obtain⟨k,e⟩:=h a (Xh ..);haveI n:=n4 (up:=up) (X:=X) (l:=t) (i:=i+1) fun x m=>h x (Xc _ m);rw[XM,xb,WY k,n,W0,show i+1+t.length=i+(t.length+1) by exact(br 0x1284023084018043008c01)];unfold N3 at e;cases p:a.codes with
  |nil=>rfl
  |cons c r=>rw[p] at e;haveI e:cE c=0:=e;show(if cE c=0 then _ else _)=_;rw[WY e]
theorem qT: ∀{l:am},(∀x∈l,x.pass=true)→cP (l++X)=cP X
 |[],_=>rfl
 |a::t,h=>by rw[XM];show(if a.pass=true then cP (t++X) else uT a)=_;rw[WY (h a (Xh ..)),qT fun x m=>h x (Xc _ m)]
def Vm {up:Bool} (a: ∀x∈e,(x.pass||fQ x)=true∧N3 x) (c: ∀x∈h,x.pass=true):co A up 0 (.skip::(e++(h++ .cI x y z::r)))=none:=by
 unfold co
 show(match bR up 1 (e++(h++ .cI x y z::r)) with|none=>none|some b=>_)=none;rw[n4 a];cases t:bR up (1+e.length) (h++ .cI x y z::r) with
 |none=>rfl
 |some b=>
  obtain⟨k,u,g,rfl,p,v⟩:=fz t;have hd:(h++ .cI x y z::r)[h.length]?=some (.cI x y z):=by rw[Xn (Xl _),YE];rfl
  have i:k<h.length:=by
   rcases Nat.lt_trichotomy k h.length with q|q|q
   ·exact q
   ·subst q;rw[hd] at p;obtain rfl:=dL p;exact bH v
   ·obtain⟨w,n,s⟩:=lL t h.length ((bT 0x2300860208470006020847108401) q);rw[hd] at n;obtain rfl:=dL n;exact dh s
  haveI d:(.skip::(e++(h++ .cI x y z::r)):am)[1+e.length+k]?=some u:=by rw[show 1+e.length+k=(e.length+k)+1 by exact(br 0x1280470084018043000423),Zz,mM,p]
  have l: ∀j,(.skip::(e++(h++ .cI x y z::r)):am).drop (1+e.length+j)=(h++ .cI x y z::r).drop j:=fun j=>by rw[show 1+e.length+j=(e.length+j)+1 by exact(br 0x1280470084018043000423),List.drop_succ_cons,fA]
  show(match(.skip::(e++(h++ .cI x y z::r)):am)[1+e.length+k]?.bind Nd.gl with|none=>none|some f=>_)=none;rw[d]
  show(match u.gl with|none=>none|some f=>_)=none;rw[v];show(if _ then(if _ then none else _) else none)=none;split
  ·rw[WY];refine .inr ?_;rw[l,YG (1+e.length),l];haveI o:(aO g ((h++ .cI x y z::r).drop k) []).1≤h.length-k:=by
    rcases XF (h.length-k) (aO g ((h++ .cI x y z::r).drop k) []).1 with q|q
    ·obtain⟨w,n,s⟩:=nu q;rw[Xv,show k+(h.length-k)=h.length by exact(br 0x90430880210803108401) i,hd] at n;obtain rfl:=dL n;exact dh s
    ·exact q
   rw[XB ((bT 0x100860208030880210883108401) i o),qT fun x m=>c x (Xb m)]
   rfl
  ·rfl
def mP:bu e x f k h (p::m) 0=(h.take (dG e x f k h p)).map Nd.one++oy e x f k h p::bu e x f k h m (h.length-jh e x f k h p):=by show(if dG e x f k h p<0 then _ else _)=_;rw[WX (Yc _)];rfl
def dr (h:PC k n f P b e):(bA P (aj k f P b e)).map Nd.one=sl P (aj k f P b e).first (aj k f P b e).last:=by unfold bA;rw[XW];exact(qK fun x m=>xa (e6 (h.sp.2.2.2.2 x m))).symm
def CM (D:Piece P) (h:PC n G f P b e) (z: ∃o,co t W.up 0 P=some (b,e,o)) (j:v≠[]):
  cj t H (P.take (aj n f P b e).first++(brk n t P f b e v++P.drop (aj n f P b e).last)) 0 .skip I=none:=by
 obtain⟨o,z⟩:=z;obtain⟨Y,g,w1,w2,w3,w4,w5,w6,w7,w8,J,_⟩:=c6 z;have A:=h.sp;have m:=h.mid;haveI u:P= .skip::P.drop 1:=by
  haveI:=D.p0;cases P with
  |nil=>exact bH this
  |cons a r=>obtain rfl:=dL this;rfl
 haveI L:P.take (aj n f P b e).first= .skip::sl P 1 (aj n f P b e).first:=by
  obtain⟨k,N⟩: ∃k,(aj n f P b e).first=k+1:=⟨(aj n f P b e).first-1,by exact(bC 0x94023884600803000423) A.1⟩
  rw[N];haveI:P.take (k+1)=(.skip::P.drop 1:am).take (k+1):=W4 _ u;rw[this];rfl
 cases v with
 |nil=>exact absurd rfl j
 |cons p v=>
  haveI l: ∃(q:Nat) (s:am),brk n t P f b e (p::v)=((bA P (aj n f P b e)).take (dG n t f (aj n f P b e) (bA P (aj n f P b e)) q)).map Nd.one++oy n t f (aj n f P b e) (bA P (aj n f P b e)) q::s:=
   ⟨_,_,by unfold brk;rw[XD];exact mP⟩
  obtain⟨q,s,l⟩:=l;rw[L,l];haveI B:co t H.up 0 (.skip::(sl P 1 (aj n f P b e).first++(((bA P (aj n f P b e)).take (dG n t f (aj n f P b e) (bA P (aj n f P b e)) q)).map Nd.one++oy n t f (aj n f P b e) (bA P (aj n f P b e)) q::(s++P.drop (aj n f P b e).last))))=none:=by
   refine Vm (fun x w=>?_) fun x w=>?_
   ·obtain⟨i,O,h2,U⟩:=lK w;obtain⟨y,C,c,d⟩:=n3 J (i-1) (by grind);rw[Xv,show 0+1+(i-1)=i by exact(bC 0x90030884600847000423) O,U] at C;obtain rfl:=dL C;exact⟨c,d⟩
   ·rw[YB,dr h] at w;exact A.2.2.2.2 x (Xm w)
  unfold cj;split
  ·simp only[XM,WW] at B⊢;rw[B]
  ·rfl
theorem qU: ∀{l:List At},cv (l.map Nd.one)=l.map Nd.one
 |[]=>rfl
 |a::t=>W4 (Nd.one a:: ·) qU
def e7:cv (l++m)=cv l++cv m:=Xs
theorem j6: ∀{l:am},(∀x∈l,eQ x=false)→cv l=l
 |[],_=>rfl
 |a::t,h=>by show gH a++cv t=_;unfold gH;rw[h a (Xh ..),j6 fun x m=>h x (Xc _ m)];rfl
theorem xc {l:List At} (h: ∀a∈l,(Nd.one a).pass=true):l.all (fun x=>match x with| .cJ _ s=>s !=1|_=>true)=true:=by
 rw[YT];intro a e;haveI:=h a e;induction a using At.casesOn with
 |cJ w s=>have k:(s==0)=true:=this;haveI:=XJ.mp k;subst this;rfl
 |_=>rfl
def qV:dG rn fd f sd nat p≤nat.length-jh rn fd f sd nat p∧dG rn fd f sd nat p≤nat.length∧jh rn fd f sd nat p≤nat.length:=by
 haveI h:=(qH (place:=(p:Int)) (ns:=nat.map Nd.one) (hs:=(fZ rn fd f sd p).map Nd.one) (a:=0)).1;rw[WP] at h;change dG rn fd f sd nat p≤_ at h;haveI e:=(kC (place:=(p:Int)) (b:=dG rn fd f sd nat p) (bg:=dB 0 (nat.map Nd.one)) (ns:=(nat.map Nd.one).reverse) (hs:=((dF rn f sd p).map Nd.one).reverse)).1;rw[Xi,WP] at e;change jh rn fd f sd nat p≤_ at e
 grind
def xe {α:Type} {xs:List α} (h:a≤b):sl xs a b++xs.drop b=xs.drop a:=by
 unfold sl;haveI:xs.drop b=(xs.drop a).drop (b-a):=by rw[YW,show a+(b-a)=b by grind]
 rw[this,XC]
theorem j7 (q: ∀p,∀a∈fZ e x f k p,(Nd.one a).pass=true): ∀{n:aL} {m:Nat},cv (bu e x f k h n m)=(h.drop m).map Nd.one
 |[],m=>qU
 |p::n,m=>by
  show cv (if dG e x f k h p<m then bu e x f k h n m else(sl h m (dG e x f k h p)).map Nd.one++oy e x f k h p::bu e x f k h n (h.length-jh e x f k h p))=_;split
  ·exact j7 q
  ·rename_i t;haveI r:=qV (rn:=e) (fd:=x) (f:=f) (sd:=k) (nat:=h) (p:=p);rw[e7,qU];show _++(gH (oy e x f k h p)++cv (bu e x f k h n _))=_;rw[j7 q];haveI:gH (oy e x f k h p)=(sl h (dG e x f k h p) (h.length-jh e x f k h p)).map Nd.one:=by
    unfold gH;rw[WY]
    ·rfl
    ·exact xc fun a s=>q p a (Xb s)
   rw[this,←WU,xe r.1,←WU,xe (by lia)]
def qW (h:PC k r f P b e) (q: ∀x∈P,eQ x=false) (s: ∀p,∀a∈fZ k t f (aj k f P b e) p,(Nd.one a).pass=true):
  cv (P.take (aj k f P b e).first++(brk k t P f b e ps++P.drop (aj k f P b e).last))=P:=by
 haveI u:=h.sp;haveI m:=h.mid;rw[e7,e7,j6 fun x n=>q x (Xm n),j6 (l:=P.drop _) fun x n=>q x (Xb n)];unfold brk;rw[j7 s,Z9,dr h,xe (by lia),XC]
def mg (h:Rn) (x:Fs) (P:am) (f:Bool) (b e:Nat):aL→Nat→am
 |[],k=>P.drop k
 |p::m,k=>
  if k≤(aj h f P b e).first+dG h x f (aj h f P b e) (bA P (aj h f P b e)) p then
   sl P k ((aj h f P b e).first+dG h x f (aj h f P b e) (bA P (aj h f P b e)) p)++oy h x f (aj h f P b e) (bA P (aj h f P b e)) p::
    mg h x P f b e m ((aj h f P b e).first+((bA P (aj h f P b e)).length-jh h x f (aj h f P b e) (bA P (aj h f P b e)) p))
  else mg h x P f b e m k
def Gh (h:PC x n f P b e):P.drop ((aj x f P b e).first+k)=((bA P (aj x f P b e)).drop k).map Nd.one++P.drop (max (aj x f P b e).last ((aj x f P b e).first+k)):=by
 haveI p:=h.sp;haveI m:=h.mid;rw[Yd,dr h];unfold sl;rcases Za (aj x f P b e).last ((aj x f P b e).first+k) with q|q
 ·haveI:((P.drop (aj x f P b e).first).take ((aj x f P b e).last-(aj x f P b e).first)).drop k=[]:=Xp (by rw[Xg];omega);rw[Nat.max_eq_right q,this];rfl
 ·rw[Nat.max_eq_left q,List.drop_take,YW];exact(xe (xs:=P) (a:=(aj x f P b e).first+k) (b:=(aj x f P b e).last) q).symm.trans (by unfold sl;congr 2;lia)
end
section
variable {fd:Fs}
def fB (h:PC x k f P b e):(bA P (aj x f P b e)).length=(aj x f P b e).last-(aj x f P b e).first:=by unfold bA;rw[WP,kE h.sp.2.2.2.1]
def Gi (h:PC k n f P b e) (m:y≤(bA P (aj k f P b e)).length):(sl (bA P (aj k f P b e)) x y).map Nd.one=sl P ((aj k f P b e).first+x) ((aj k f P b e).first+y):=by rw[fB h] at m;rw[zn,dr h];unfold sl;rw[List.drop_take,YW,ZH];congr 1;exact(fH 0x25180c220c001106511862208431184018444108401) m
theorem zw (h:PC x s f P b e): ∀{n:aL} {k:Nat},k≤(bA P (aj x f P b e)).length→
  mg x fd P f b e n ((aj x f P b e).first+k)=bu x fd f (aj x f P b e) (bA P (aj x f P b e)) n k++P.drop (aj x f P b e).last
 |[],k,hd=>by have m:=h.mid;have r:=h.sp;show P.drop _=(List.drop k _).map Nd.one++_;rw[fB h] at hd;rw[Gh h,Nat.max_eq_left (by exact(xY 0x8043000441804250c0611062509030204618444108401) hd m.1 m.2.1 r.2.1 r.2.2.1)]
 |p::n,k,hd=>by
  haveI t:=qV (rn:=x) (fd:=fd) (f:=f) (sd:=aj x f P b e) (nat:=bA P (aj x f P b e)) (p:=p)
  show(if(aj x f P b e).first+k≤(aj x f P b e).first+dG x fd f (aj x f P b e) (bA P (aj x f P b e)) p then
   sl P ((aj x f P b e).first+k) ((aj x f P b e).first+dG x fd f (aj x f P b e) (bA P (aj x f P b e)) p)++oy x fd f (aj x f P b e) (bA P (aj x f P b e)) p::
    mg x fd P f b e n ((aj x f P b e).first+((bA P (aj x f P b e)).length-jh x fd f (aj x f P b e) (bA P (aj x f P b e)) p))
  else mg x fd P f b e n ((aj x f P b e).first+k))=(if dG x fd f (aj x f P b e) (bA P (aj x f P b e)) p<k then bu x fd f (aj x f P b e) (bA P (aj x f P b e)) n k else
   (sl (bA P (aj x f P b e)) k (dG x fd f (aj x f P b e) (bA P (aj x f P b e)) p)).map Nd.one++oy x fd f (aj x f P b e) (bA P (aj x f P b e)) p::bu x fd f (aj x f P b e) (bA P (aj x f P b e)) n ((bA P (aj x f P b e)).length-jh x fd f (aj x f P b e) (bA P (aj x f P b e)) p))++_
  by_cases q:dG x fd f (aj x f P b e) (bA P (aj x f P b e)) p<k
  ·rw[WY q,WX (by exact(bT 0x884001106010883108401) q),zw h hd]
  ·rw[WX q,WY (by exact(bT 0x10800220c0211051108401) q),zw h (Yt _ _),Gi h t.2.1];simp only[WW,XM]
theorem AY (h:PC x q f P b e) (n:k≠[]):
  mg x fd P f b e k 0=P.take (aj x f P b e).first++(bu x fd f (aj x f P b e) (bA P (aj x f P b e)) k 0++P.drop (aj x f P b e).last):=by
 cases k with
 |nil=>exact absurd rfl n
 |cons p k=>
  haveI r:=qV (rn:=x) (fd:=fd) (f:=f) (sd:=aj x f P b e) (nat:=bA P (aj x f P b e)) (p:=p);haveI t:=fB h;haveI v:=h.sp;haveI m:=h.mid;show(if 0≤_ then _ else _)=_;rw[WY (W8 _),zw h (Yt _ _),mP];haveI:sl P 0 ((aj x f P b e).first+dG x fd f (aj x f P b e) (bA P (aj x f P b e)) p)=P.take (aj x f P b e).first++((bA P (aj x f P b e)).take (dG x fd f (aj x f P b e) (bA P (aj x f P b e)) p)).map Nd.one:=by rw[YB,dr h];unfold sl;rw[Z9,Nat.sub_zero,ZH,Yb (by exact(xQ 0x84481184019448118421b5a0108830084018444108401) r t),←List.take_add]
  rw[this];simp only[WW,XM]
def tK (h:r7 x y=true) (n:x.pass=true):x.codes=y.codes:=by
 haveI e:=j4 h;haveI u: ∀{m k:ah},PyData.eqvAll (AT m) (AT k)=true→m=k:=fun{m}=>by
  induction m with
  |nil=>intro k h;induction k using List.casesOn<;>first|rfl|exact dh h
  |cons a r p=>
   intro k h;cases k with
   |nil=>exact dh h
   |cons c t=>unfold AT at h p;rw[XD,XD,PyData.eqvAll,Xx,gf] at h;rw[XY h.1,p h.2]
 cases x with
 |one a=>cases a with
  |char g c=>
   cases y with
   |one z=>cases z with
    |char v q=>unfold r7 Nd.FW at h;simp only[PyData.eqv,PyData.eqvAll,Xx,XJ] at h;show [c]=[q];rw[h.2.2.1]
    |_=>cases(e)
   |_=>cases(e)
  |kj g c j l r=>
   cases y with
   |one z=>cases z with
    |kj v q i b d=>unfold r7 Nd.FW at h;rw[PyData.eqv,PyData.eqvAll,Xx,PyData.eqvAll,Xx,PyData.eqvAll,Xx,PyData.eqvAll,Xx,PyData.eqv] at h;exact u h.2.2.2.1
    |_=>cases(e)
   |_=>cases(e)
  |cJ w s=>
   cases y with
   |one z=>induction z using At.casesOn<;>first|rfl|cases(e)
   |_=>cases(e)
  |_=>exact dh n
 |_=>exact dh n
def dt (l:List At):ah:=l.flatMap At.codes
def kF:(l.map Nd.one).flatMap Nd.codes=dt l:=by unfold dt;rw[List.flatMap_map];rfl
def eL:dt (l++m)=dt l++dt m:=Xs
theorem n5 {place:Int}: ∀{ns hs:List At} {a:Int},(∀x∈hs,(Nd.one x).pass=true)→(∀x∈ns,(Nd.one x).pass=true)→a≤place→
  dt (ns.take (cT place a (ns.map Nd.one) (hs.map Nd.one)))=dt (hs.take (cT place a (ns.map Nd.one) (hs.map Nd.one)))∧a+(dt (ns.take (cT place a (ns.map Nd.one) (hs.map Nd.one)))).length≤place
 |[],hs,a,_,_,h=>⟨by show dt (List.take 0 _)=dt (hs.take 0);rfl,by show a+((dt (List.take 0 [])).length:Int)≤_;simpa [dt] using h⟩
 |n::ns,[],a,_,_,h=>⟨rfl,by show a+((dt (List.take 0 _)).length:Int)≤_;simpa [dt] using h⟩
 |n::ns,x::hs,a,t,p,h=>by
  haveI e:cT place a ((n::ns).map Nd.one) ((x::hs).map Nd.one)=if a+(Nd.one n).codes.length≤place∧r7 (.one n) (.one x)=true then cT place (a+(Nd.one n).codes.length) (ns.map Nd.one) (hs.map Nd.one)+1 else 0:=rfl
  rw[e];split
  ·rename_i q;have k:=n5 (place:=place) (ns:=ns) (hs:=hs) (a:=a+(Nd.one n).codes.length) (fun y m=>t y (Xc _ m)) (fun y m=>p y (Xc _ m)) q.1;rw[YR,YR];have r:n.codes=x.codes:=tK q.2 (p n (Xh ..));have s: ∀(y:At) (l:List At),dt (y::l)=y.codes++dt l:=fun y l=>rfl;rw[s,s,k.1,r];refine⟨rfl,?_⟩;rw[WO,←k.1];haveI:((Nd.one n).codes.length:Int)=(x.codes.length:Int):=by rw[←r];rfl
   haveI:=k.2
   lia
  ·exact⟨rfl,by show a+((dt (List.take 0 _)).length:Int)≤_;simpa [dt] using h⟩
theorem mQ {place:Int}: ∀{rns rhs:List At},(∀x∈rns,(Nd.one x).pass=true)→
  dt (rns.take (b6 place b bg (rns.map Nd.one) (rhs.map Nd.one))).reverse=dt (rhs.take (b6 place b bg (rns.map Nd.one) (rhs.map Nd.one))).reverse
 |[],rhs,_=>rfl
 |n::h,[],_=>rfl
 |n::h,x::k,p=>by
  haveI e:b6 place b bg ((n::h).map Nd.one) ((x::k).map Nd.one)=if b≤(h.map Nd.one).length∧place≤bg.getD (h.map Nd.one).length 0∧r7 (.one n) (.one x)=true then b6 place b bg (h.map Nd.one) (k.map Nd.one)+1 else 0:=rfl
  rw[e];split
  ·rename_i r;haveI s:=mQ (place:=place) (b:=b) (bg:=bg) (rns:=h) (rhs:=k) (fun y m=>p y (Xc _ m));haveI t:n.codes=x.codes:=tK r.2.2 (p n (Xh ..));rw[YR,YR,XU,XU,eL,eL,s];have q: ∀(y:At),dt [y]=y.codes:=fun y=>Xe _;rw[q,q,t]
  ·rfl
structure Lu (rn:Rn) (fd:Fs) (f:Bool) (sd:SD) (nat:List At) (p:Nat):Prop where
 eq:dt nat=sd.codes
 np: ∀x∈nat,(Nd.one x).pass=true
 hp: ∀x∈fZ rn fd f sd p,(Nd.one x).pass=true
 hc:dt (fZ rn fd f sd p)=sd.codes.take p++tz (fd f)
 tc:dt (dF rn f sd p)=sd.codes.drop p
 le:p≤sd.codes.length
def RF (h:Lu q fd f n e p):
  (dt (e.take (dG q fd f n e p))).length≤p∧
  dt ((fZ q fd f n p).drop (dG q fd f n e p))=(n.codes.take p).drop (dt (e.take (dG q fd f n e p))).length++tz (fd f)∧
  (n.codes.take p).drop (dt (e.take (dG q fd f n e p))).length++dt ((dF q f n p).take ((dF q f n p).length-jh q fd f n e p))=dt (sl e (dG q fd f n e p) (e.length-jh q fd f n e p)):=by
 haveI A:=n5 (place:=(p:Int)) (ns:=e) (hs:=fZ q fd f n p) (a:=0) h.hp h.np (bC 649069572);change dt (e.take (dG q fd f n e p))=dt ((fZ q fd f n p).take (dG q fd f n e p))∧(0:Int)+(dt (e.take (dG q fd f n e p))).length≤p at A;haveI B:=mQ (place:=(p:Int)) (b:=dG q fd f n e p) (bg:=dB 0 (e.map Nd.one)) (rns:=e.reverse) (rhs:=(dF q f n p).reverse) (fun x m=>h.np x (aao.mp m));haveI eB:b6 (p:Int) (dG q fd f n e p) (dB 0 (e.map Nd.one)) (e.reverse.map Nd.one) ((dF q f n p).reverse.map Nd.one)=jh q fd f n e p:=by rw[YV,YV];rfl
 rw[eB] at B;have u:=qV (rn:=q) (fd:=fd) (f:=f) (sd:=n) (nat:=e) (p:=p);haveI v:=(kC (place:=(p:Int)) (b:=dG q fd f n e p) (bg:=dB 0 (e.map Nd.one)) (ns:=(e.map Nd.one).reverse) (hs:=((dF q f n p).map Nd.one).reverse)).2;rw[Xi,WP] at v;change jh q fd f n e p≤_ at v;have w: ∀(l:List At) (k:Nat),k≤l.length→(l.reverse.take k).reverse=l.drop (l.length-k):=fun l k G=>by rw[List.take_reverse,List.reverse_reverse]
 rw[w e _ u.2.2,w (dF q f n p) _ v] at B;generalize dG q fd f n e p=r at A B u⊢;generalize jh q fd f n e p=s at B u v⊢;have C:(dt (e.take r)).length≤p:=by exact(br 0x40210066b0860b00404) A.2
 haveI y:dt e=dt (e.take r)++(dt (sl e r (e.length-s))++dt (e.drop (e.length-s))):=by rw[←eL,xe u.1,←eL,XC]
 haveI z:dt (fZ q fd f n p)=dt (e.take r)++dt ((fZ q fd f n p).drop r):=by rw[A.1,←eL,XC]
 haveI g:dt (dF q f n p)=dt ((dF q f n p).take ((dF q f n p).length-s))++dt (e.drop (e.length-s)):=by rw[B,←eL,XC]
 rw[h.eq] at y;rw[h.hc] at z;rw[h.tc] at g;have t:(n.codes.take p).length=p:=by rw[Xg];exact Yb h.le
 refine⟨C,?_,?_⟩
 ·haveI:=W4 (List.drop (dt (e.take r)).length) z;rw[YX,XB (by rwa[t])] at this;exact this.symm
 ·haveI D:n.codes=(n.codes.take p)++(dt ((dF q f n p).take ((dF q f n p).length-s))++dt (e.drop (e.length-s))):=by
   rw[←g,XC]
  haveI i:=W4 (List.drop (dt (e.take r)).length) (D.symm.trans y);rw[YX,XB (by rwa[t]),←WW] at i;exact List.append_cancel_right i
end
def xf {x:Nd} (h:x.kind=5):x.codes=[]:=by
 cases x with
 |one a=>induction a using At.casesOn<;>first|rfl|cases(h)
 |_=>rfl
theorem qX {l:am} (h: ∀x∈l,x.kind=5):l.flatMap Nd.codes=[]:=by
 induction l with
 |nil=>rfl
 |cons a t e=>rw[Yj,xf (h a (Xh ..)),e fun x m=>h x (Xc _ m)];rfl
theorem eM {α:Type} {xs:List α} (h:a≤b) (x:b≤c):sl xs a c=sl xs a b++sl xs b c:=by
 haveI e:sl xs a b=(sl xs a c).take (b-a):=by unfold sl;rw[ZH,Yb (by exact(bT 0x84441086220803008401) x)]
 haveI k:sl xs b c=(sl xs a c).drop (b-a):=by unfold sl;rw[List.drop_take,YW,show a+(b-a)=b by exact(br 0x90430880210803008401) h,show c-a-(b-a)=c-b by exact(bT 0x251084418c401086200883008401) h]
 rw[e,k,XC]
theorem j8 (h:PC u o f P b e): ∀{ps:List (Bool×Bool)},(∀p∈ps,p∈d')→
  (sl P (cQ u f P (bq f P b e) (aM f P b e) (bc f P b e) ps).1 (cQ u f P (bq f P b e) (aM f P b e) (bc f P b e) ps).2.1).flatMap Nd.codes=bq f P b e
 |[],_=>rfl
 |p::ps,c=>by
  haveI A:=j8 h (ps:=ps) fun q m=>c q (Xc _ m);have m:=h.mid;haveI ld:=h.ld p (c p (Xh ..));haveI G:=h.f0;haveI H:=h.l0;rw[jY];generalize B:aT u f (bq f P b e) p=k at ld⊢;split
  ·rename_i v;haveI w:bc f P b e+aQ k≤P.length:=by
    rcases XF P.length (bc f P b e+aQ k) with ho|ho
    ·haveI C:sl P (aM f P b e-aC k) (bc f P b e+aQ k)=P.drop (aM f P b e-aC k):=by
      unfold sl;rw[X4 (by rw[WT];exact(xQ 0x8462408c30104218c481184018c04108401) ho)]
     rw (config:={}) [C,Ef m.2.2.2.2 (by exact(br 564085017052161) m.2.1) (by exact(fH 0x2220c461006220843008401) m.1 m.2.1) ho] at v;exact dh v
    ·exact ho
   have g:=qP v;have d:=g.1;rw[kE w] at d;show(sl P (aM f P b e-aC k) (bc f P b e+aQ k)).flatMap Nd.codes=_;rw[eM (b:=aM f P b e) (by exact(br 549807227905)) (by exact(fH 0x21018441006220843008401) m.1 m.2.1),eM (a:=aM f P b e) (b:=bc f P b e) (by exact(bT 0x4041006220843008401) m.1 m.2.1) (by exact(br 566970287105)),Xs,Xs];haveI z1:(sl P (aM f P b e-aC k) (aM f P b e)).flatMap Nd.codes=[]:=qX fun x z=>by obtain⟨i,r,s,j⟩:=lK z;obtain⟨y,t,n⟩:=gm (l:=k) (i:=i-(aM f P b e-aC k)) (by exact(bT 0x884318842008831004418083108401) r s);haveI:=j4 (g.2 _ y x t (by rw[lI (by grind),show aM f P b e-aC k+(i-(aM f P b e-aC k))=i by exact(bT 0x12106118842008831084018083108401) r];exact j));rw[←this];exact n
   haveI z2:(sl P (bc f P b e) (bc f P b e+aQ k)).flatMap Nd.codes=[]:=qX fun x z=>by
    obtain⟨i,r,s,j⟩:=lK z;haveI D:=iy k
    obtain⟨y,t,n⟩:=gm (l:=(k.drop (aC k)).reverse) (i:=bc f P b e+aQ k-1-i) (by
     haveI:aQ k=aC (k.drop (aC k)).reverse:=rfl
     exact(fH 0x88c31086211c0410064308831808200843008401) r s this)
    rw[X7 (by rw[WT];grind),WT,Xv] at t;haveI:=j4 (g.2 _ y x t (by rw[lI (by grind)];rw[←j];congr 1;exact(xY 0x48a184231286211c041086211c48100481890230c001808240c602084250c0a108651890230c04108401) d r s D));rw[←this];exact n
   rw[z1,z2,Xe];rfl
  ·exact A
def zx (h:PC x k f P b e):dt (bA P (aj x f P b e))=(aj x f P b e).codes:=by rw[←kF,dr h];exact j8 h fun p m=>m
theorem ny: ∀{l:am} {h:ah},(aO f l h).2.length=h.length+((l.take (aO f l h).1).flatMap Nd.codes).length
 |[],h=>rfl
 |nd::t,h=>by
  haveI e:aO f (nd::t) h=if nd.nU f=true∧ ¬(((nd.codes.map cE).any fun e=>decide (e=0))=true∨63<h.length+nd.codes.length) then((aO f t (h++nd.codes.map cE)).1+1,(aO f t (h++nd.codes.map cE)).2) else(0,h):=rfl
  rw[e];split
  ·haveI x:(aO f t (h++nd.codes.map cE)).2.length=_:=ny;show(aO f t (h++nd.codes.map cE)).2.length=_;rw[x,WO,WP,YR,Yj,WO];lia
  ·rfl
@[reducible] def JP (fd : Fs) (f : Bool) (x : Rn) (k : Bool → ah → Prop) (P : am) (b e : Nat) (m : ah) (up : Bool) (q : Int) : Prop := ∀ (h : PC x k f P b e) (n : co fd up 0 P = some (b, e, m)) (p : 1 ≤ q) (r : q ≤ m.length), cu P (aj x f P b e).first b + q.toNat ≤ (aj x f P b e).codes.length ∧
  ((P.take b).flatMap Nd.codes).length=((P.take (aj x f P b e).first).flatMap Nd.codes).length+cu P (aj x f P b e).first b
abbrev JQ:List Type:=[Fs,Bool,Rn,Bool→ah→Prop,am,Nat,Nat,ah,Bool,Int]
def RG:=eV JQ JP ⟨Hu,nI,nI,nI,nI,nI,nI,nI,nI,nI,trivial⟩
theorem Vn:eU JQ JP RG:=by
 injections RG I f k w P b e A up q;change JP I f k w P b e A up q;intro h J t s;obtain⟨nd,g,L,N,w3,O,w5,w6,w7,w8,w9,U,z,j,Y⟩:=c6 J;have n:=h.sp;have m:=h.mid;obtain⟨ha,B,C⟩:=h.nd;rw[L] at B;obtain rfl:=dL B;rw[N] at C;cases(C);haveI d:(aO f (P.drop b) []).2.length=_:=ny;rw[←j] at d;haveI e1:(P.drop b).take (aO f (P.drop b) []).1=sl P b e:=by unfold sl;rw[z];congr 1;exact(br 0x4a210c00108401)
 rw[e1] at d;have u:=h.l0;haveI D:=j8 h (ps:=d') fun p m=>m;change(sl P (aj k f P b e).first (aj k f P b e).last).flatMap Nd.codes=(aj k f P b e).codes at D;haveI el:e≤(aj k f P b e).last∨ ∀x∈sl P (aj k f P b e).last e,x.kind=5:=by
  rcases Za e (aj k f P b e).last with q|q
  ·exact .inl q
  ·refine .inr fun x hx=>?_;obtain⟨i,t,s,h3⟩:=lK hx;have r:=kE (xs:=P) (a:=aH f P b) u.2;haveI e2:bc f P b e=aZ f P e-aQ (sl P (aH f P b) (aZ f P e)):=rfl
   obtain⟨y,G,o⟩:=gm (l:=((sl P (aH f P b) (aZ f P e)).drop (aC (sl P (aH f P b) (aZ f P e)))).reverse) (i:=aZ f P e-1-i) (by
    haveI:aQ (sl P (aH f P b) (aZ f P e))=aC ((sl P (aH f P b) (aZ f P e)).drop (aC (sl P (aH f P b) (aZ f P e)))).reverse:=rfl
    exact(O6 0x2270c4a1884630c8e13065130461006220943028421b4081186030883008401) n.2.2.1 u t s e2 this)
   have H:aM f P b e=aH f P b+aC (sl P (aH f P b) (aZ f P e)):=rfl;rw[X7 (by rw[WT,r];exact(ar 0x118a431404a189c3108ca19412140441890270c0e1086d0304a1814240c401186030883008401 [_,_,_,_,_,_,_,_,_,_] []) n.2.2.1 m.1 m.2.1 u t s H),WT,r,Xv,lI (by grind)] at G;haveI:P[i]?=some y:=by rw[←G];congr 1;exact(ar 0x1284231386211943108e290c50128521404e19412140441890270c0e1086d0304a1814240c401186030883008401 [_,_,_,_,_,_,_,_,_,_] []) n.2.2.1 m.1 m.2.1 u t s H
   rw[h3] at this;obtain rfl:=dL this;exact o
 constructor
 ·rw[←D];unfold cu;have v:q.toNat≤((sl P b e).flatMap Nd.codes).length:=by
   haveI:A.length=((sl P b e).flatMap Nd.codes).length:=by simpa using d
   exact(ar 0x1008540148210066b00402 [_,_] [_]) s this
  rcases el with el|el
  ·rw[eM (a:=(aj k f P b e).first) (b:=b) (c:=(aj k f P b e).last) (by exact(bT 0x4041006020843008401) n.2.1 m.1) (by exact(bT 0x4041006020843008401) O el),eM (a:=b) (b:=e) (c:=(aj k f P b e).last) (by assumption) el,Xs,Xs,WO,WO];exact(ar 0x10840410042182802086000a802 [_,_,_] [_]) v
  ·rcases Za e (aj k f P b e).last with q'|q'
   ·rw[eM (a:=(aj k f P b e).first) (b:=b) (c:=(aj k f P b e).last) (by exact(bT 0x4041006020843008401) n.2.1 m.1) (by exact(bT 0x4021106200883008401) n.2.2.1 m.2.1),eM (a:=b) (b:=e) (c:=(aj k f P b e).last) (by assumption) q',Xs,Xs,WO,WO];exact(ar 0x10840410042182802086000a802 [_,_,_] [_]) v
   ·rw[eM (a:=(aj k f P b e).first) (b:=b) (c:=(aj k f P b e).last) (by exact(bT 0x4041006020843008401) n.2.1 m.1) (by exact(bT 0x4021106200883008401) n.2.2.1 m.2.1),Xs,WO];haveI:(sl P b e).flatMap Nd.codes=(sl P b (aj k f P b e).last).flatMap Nd.codes:=by
     rw[eM (a:=b) (b:=(aj k f P b e).last) (c:=e) (by exact(bT 0x4021106200883008401) n.2.2.1 m.2.1) q',Xs,qX el,Xe]
    rw[this] at v;exact(ar 0x2100042182802086000a802 [_,_] [_]) v
 ·haveI:P.take b=P.take (aj k f P b e).first++sl P (aj k f P b e).first b:=by
   haveI:=eM (xs:=P) (a:=0) (b:=(aj k f P b e).first) (c:=b) (W8 _) (by exact(bT 0x4041006020843008401) n.2.1 m.1);unfold sl at this⊢;simpa using this
  rw[this,Xs,WO];rfl
def Gj:eB JQ JP:=eA JQ Vn
section
variable {st:fO}
structure j9 (F:FD):Prop where
 rt: ∀l r p,F.dI l r=some p→r=97∨r=98∨r=99∨r=45∨r=33
 kn: ∀l r x,F.dI l r=some (0,x)→ -1073741823≤x∧x≤1073741823
 lg: ∀l r k x,F.dI l r=some (k,x)→k≠0→iw (k-1)=true∧1≤x∧x≤3
 l3: ∀l r k x,1≤l→l≤3→F.dI l r=some (k,x)→k=1
def li (i:xT):Prop:=i.2.2=false∧iC i.1=true∧i.2.1=[i.1]
def Gk (i:xT):Prop:=i.2.2=true∧1≤i.1∧i.1≤3
def np:Option xT→ah
 |none=>[]
 |some i=>i.2.1
def Dn (w:List xT):ah:=w.flatMap fun i=>i.2.1
def mR:Option xT→Nat
 |some i=>if i.2.2 then 0 else 2
 |none=>2
def dS:List xT→Bool
 |i::_=>i.2.2
 |[]=>false
def nA (e:Int):Nat:=if e=256 then 0 else 1
def n6 (st:fO):Nat:=if dS st.wait then 4*(st.wait.length-1+nA st.edge)+1 else 4*(st.wait.length+nA st.edge)+mR st.now
structure u3 (cs:ah) (l:List At):Prop where
 cd:dt l=cs
 ld:aC (l.map Nd.one)≤1
 ps: ∀a∈l,(Nd.one a).pass=true
structure jq (cs:ah) (st:fO):Prop where
 go:st.going=true
 cd:dt st.found++(np st.now++Dn st.wait)=cs
 tl: ∀i∈st.wait.tail,li i
 hd: ∀i∈st.wait,li i∨Gk i
 nw: ∀i,st.now=some i→li i∨Gk i
 n0:st.now=none→st.found=[]
 ld:aC (st.found.map Nd.one)≤1
 ps: ∀a∈st.found,(Nd.one a).pass=true
theorem lM (h:x.kind≠5): ∀{l:am} {r:am},aC (l++x::r)=aC l
 |[],r=>WX h
 |a::t,r=>by rw[XM];show(if a.kind=5 then aC (t++x::r)+1 else 0)=_;rw[lM h];rfl
def fS (f:Bool) (st:fO):List At:=match st.now with
 |none=>[]
 |some (c,h,true)=>[.kj f c h st.hl (st.hr&&st.wait.isEmpty)]
 |some (c,h,false)=>[.char f c]
def n7:(cY f st).found=st.found++fS f st∧(cY f st).edge=st.edge∧(cY f st).going=st.going∧(cY f st).now=st.now:=by
 obtain⟨k,h,n,e,l,r,x⟩:=st;cases h with
 |none=>exact⟨(Xe _).symm,rfl,rfl,rfl⟩
 |some i=>obtain⟨c,p,m⟩:=i;induction m using Bool.casesOn<;>exact⟨rfl,rfl,rfl,rfl⟩
def lN (h:jq k st):dt (fS f st)=np st.now∧(∀a∈fS f st,(Nd.one a).pass=true∧(Nd.one a).kind≠5)∧(fS f st).length≤1∧(st.now≠none→fS f st≠[]):=by
 haveI nw:=h.nw;unfold fS;cases e:st.now with
 |none=>exact⟨rfl,fun a m=>(nomatch m),W8 _,fun q=>absurd rfl q⟩
 |some i=>
  obtain⟨c,x,m⟩:=i;cases m with
  |true=>exact⟨Xe _,fun a m=>by rw[WZ] at m;subst m;exact⟨rfl,fun q=>by cases(q)⟩,Xl _,fun ξ q=>by cases(q)⟩
  |false=>
   rcases nw _ e with o|o
   ·haveI:x=[c]:=o.2.2;subst this;exact⟨rfl,fun a m=>by rw[WZ] at m;subst m;exact⟨rfl,fun q=>by cases(q)⟩,Xl _,fun ξ q=>by cases(q)⟩
   ·cases o.1
def qY (h:jq p st):aC ((st.found++fS f st).map Nd.one)≤1∧(∀w s,aC ((st.found++fS f st++[At.cJ w s]).map Nd.one)≤1):=by
 have s:=lN (f:=f) h;haveI k:=h.n0;have e:=h.ld;cases m:fS f st with
 |nil=>
  rw[Xe];refine⟨e,fun w t=>?_⟩;haveI:st.now=none:=by
   cases q:st.now with
   |none=>rfl
   |some i=>exact absurd m (s.2.2.2 (by rw[q];nofun))
  rw[k this];exact Xl 1
 |cons x r=>have n:=(s.2.1 x (by rw[m];exact Xh ..)).2;rw[WU,XD];refine⟨by rw[lM n];exact e,fun w t=>?_⟩;rwa[WU,WU,XD,WW,XM,lM n]
def Gl (h:st.wait=[]):bt f st={cY f st with going:=false}:=by unfold bt;rw[jS,h]
def CN (h:st.wait=x::t):bt f st={cY f st with wait:=t,now:=some x}:=by unfold bt;rw[jS,h]
def fC:Dn (x::t)=x.2.1++Dn t:=Yj ..
def qZ (h:jq x st) (k:st.wait=[]):(bt f st).going=false∧u3 x (bt f st).found∧(bt f st).found.length≤st.found.length+1∧(∀w,u3 x ((bt f st).found++[At.cJ w 0])):=by
 have s:=lN (f:=f) h;have l:=qY (f:=f) h;have e:=h.cd;rw[k] at e;have e:dt st.found++(np st.now++[])=x:=e;rw[Xe,←s.1,←eL] at e;rw[Gl k];show _∧u3 x (cY f st).found∧(cY f st).found.length≤_∧_;rw[n7.1];have n: ∀a∈st.found++fS f st,(Nd.one a).pass=true:=fun a m=>(W6.mp m).elim (h.ps a) fun m=>(s.2.1 a m).1;refine⟨rfl,⟨e,l.1,n⟩,by rw[WO];haveI:=s.2.2.1;exact(br 0x84023086000843008c01) s.2.2.1,fun w=>⟨?_,?_,?_⟩⟩
 ·rw[eL,e];exact Xe _
 ·exact l.2 w 0
 ·intro a m;rcases W6.mp m with m|m
  ·exact n a m
  ·rw[WZ] at m;subst m;rfl
def oV (h:jq u st) (v:st.wait=x::t):jq u (bt f st)∧n6 (bt f st)<n6 st∧(bt f st).found.length≤st.found.length+1∧(bt f st).wait=t∧(bt f st).now=some x∧
  (∀w,jq u (lc f w st)∧n6 (lc f w st)<n6 st∧(lc f w st).found.length≤st.found.length+2):=by
 have s:=lN (f:=f) h;have l:=qY (f:=f) h;have n:=n7 (f:=f) (st:=st);have j:=h.cd;rw[v,fC,←s.1,←WW,←eL] at j;haveI b:=h.hd x (by rw[v];exact Xh ..);have y: ∀i∈t,li i:=fun i m=>h.tl i (by rwa[v]);haveI o: ∀a∈st.found++fS f st,(Nd.one a).pass=true:=fun a m=>(W6.mp m).elim (h.ps a) fun m=>(s.2.1 a m).1;haveI c:dS t=false:=by
  cases t with
  |nil=>rfl
  |cons i r=>exact(y i (Xh ..)).1
 have p:=CN (f:=f) v;have g:n6 (bt f st)<n6 st:=by
  rw[p];unfold n6;show(if dS t then _ else 4*(t.length+nA (cY f st).edge)+mR (some x))<_;rw[c,n.2.1,v];show(if false=true then _ else _)<(if x.2.2=true then 4*((x::t).length-1+nA st.edge)+1 else 4*((x::t).length+nA st.edge)+mR st.now);rw[WX W5,W0];haveI d:mR (some x)=if x.2.2=true then 0 else 2:=rfl
  rw[d];cases A:x.2.2 with
  |true=>rw[WY rfl,WY rfl];exact Xr _
  |false=>rw[WX W5,WX W5];exact(bT 0x230105042c021804600c043410b008401)
 have z:(bt f st).found=st.found++fS f st:=by rw[p];exact n.1
 have k:jq u (bt f st):=by
  rw[p];refine⟨n.2.2.1.trans h.go,?_,fun i m=>y i (YP m),fun i m=> .inl (y i m),fun i e=>by obtain rfl:=dL e;exact b,nofun,?_,?_⟩
  ·show dt (cY f st).found++(x.2.1++Dn t)=u;rwa[n.1]
  ·show aC ((cY f st).found.map Nd.one)≤1;rw[n.1];exact l.1
  ·show∀a∈(cY f st).found,_;rwa[n.1]
 refine⟨k,g,by rw[z,WO];haveI:=s.2.2.1;exact(br 0x84023086000843008c01) s.2.2.1,by rw[p],by rw[p],fun w=>⟨⟨k.go,?_,k.tl,k.hd,k.nw,fun q=>?_,?_,?_⟩,g,?_⟩⟩
 ·show dt ((bt f st).found++[At.cJ w 0])++_=u;rw[eL];haveI:dt [At.cJ w 0]=[]:=rfl;rw[this,Xe];exact k.cd
 ·haveI q:(bt f st).now=none:=q;rw[p] at q;exact ph q
 ·show aC (((bt f st).found++[At.cJ w 0]).map Nd.one)≤1;rw[z];exact l.2 w 0
 ·show∀a∈(bt f st).found++[At.cJ w 0],_;intro a m;rcases W6.mp m with m|m
  ·exact k.ps a m
  ·rw[WZ] at m;subst m;rfl
 ·show((bt f st).found++[At.cJ w 0]).length≤_;rw[WO,z,WO,XR];haveI:=s.2.2.1;exact(br 0x42021843008e000843008c01) s.2.2.1
end
section
variable {st:fO}
def CO (h:jq I st) (c:1≤x∧x≤3) (a:dS st.wait=false) (f:st.wait=[]→nA st.edge=1) (O:mR st.now=0→b=0) (hk:iw b=true):
  jq I (jo b x st)∧n6 (jo b x st)<n6 st∧(jo b x st).found=st.found∧(4≤b→(b/2%2==1)=true→(jo b x st).wait≠[]):=by
 obtain⟨n,u,p,k,z,g,s⟩:=st;have d:=h.cd;have J:n6 ⟨n,u,p,k,z,g,s⟩=4*(n.length+nA p)+mR u:=by unfold n6;show(if dS n=true then _ else _)=_;rw[show dS n=false from a,WX W5]
 have v: ∀i∈n,li i:=fun i m=>by
  cases n with
  |nil=>cases(m)
  |cons y t=>
   rcases Xa.mp m with rfl|m
   ·rcases h.hd i (Xh ..) with o|o
    ·exact o
    ·haveI:=o.1;change i.2.2=false at a;rw[a] at this;exact dh this
   ·exact h.tl i m
 have A:mR u=0∨mR u=2:=by
  unfold mR;cases u with
  |none=>exact .inr rfl
  |some i=>show(if i.2.2=true then 0 else 2)=0∨(if i.2.2=true then 0 else 2)=2;split<;>simp
 have B: ∀{w:List xT},(∀i∈w,li i)→dS w=false:=fun{w} q=>by
  cases w with
  |nil=>rfl
  |cons i r=>exact(q i (Xh ..)).1
 haveI C: ∀j l:Bool,(mR u=0→j=false∧l=false)→(j=false→l=false→True)→
   jq I (r6 j x (mB l (kL j ⟨n,u,p,k,z,g,s⟩) (lE ⟨n,u,p,k,z,g,s⟩)).2 (mB l (kL j ⟨n,u,p,k,z,g,s⟩) (lE ⟨n,u,p,k,z,g,s⟩)).1)∧
   n6 (r6 j x (mB l (kL j ⟨n,u,p,k,z,g,s⟩) (lE ⟨n,u,p,k,z,g,s⟩)).2 (mB l (kL j ⟨n,u,p,k,z,g,s⟩) (lE ⟨n,u,p,k,z,g,s⟩)).1)<n6 ⟨n,u,p,k,z,g,s⟩∧
   (r6 j x (mB l (kL j ⟨n,u,p,k,z,g,s⟩) (lE ⟨n,u,p,k,z,g,s⟩)).2 (mB l (kL j ⟨n,u,p,k,z,g,s⟩) (lE ⟨n,u,p,k,z,g,s⟩)).1).found=k∧
   (j=true→(r6 j x (mB l (kL j ⟨n,u,p,k,z,g,s⟩) (lE ⟨n,u,p,k,z,g,s⟩)).2 (mB l (kL j ⟨n,u,p,k,z,g,s⟩) (lE ⟨n,u,p,k,z,g,s⟩)).1).wait≠[]):=by
  intro j l D _;obtain⟨G,H,eA⟩: ∃G H,lE ⟨n,u,p,k,z,g,s⟩=⟨n,u,p,k,G,H,s⟩:=by
   cases u with
   |none=>exact⟨_,_,rfl⟩
   |some i=>induction n using List.casesOn<;>exact⟨_,_,rfl⟩
  rw[J,eA];cases j with
  |true=>
   have n2:mR u=2:=by
    rcases A with q|q
    ·exact absurd (D q).1 (aU aw)
    ·exact q
   have L:kL true ⟨n,u,p,k,z,g,s⟩=[]:=by unfold kL;induction u using Option.casesOn<;>rfl
   rw[L];cases l with
   |true=>
    refine⟨⟨h.go,d,v,fun i m=>?_,h.nw,h.n0,h.ld,h.ps⟩,?_,rfl,fun ξ q=>by cases(q)⟩
    ·rcases Xa.mp m with rfl|m
     ·exact .inr ⟨rfl,c⟩
     ·exact .inl (v i m)
    ·show 4*((n.length+1)-1+nA p)+1<_;exact(bT 0x230005042c041086011a0858083108e011843210c01) n2
   |false=>
    cases n with
    |nil=>
     haveI U:nA p=1:=f rfl;refine⟨⟨h.go,d,fun i m=>(nomatch m),fun i m=>?_,h.nw,h.n0,h.ld,h.ps⟩,?_,rfl,fun ξ q=>by cases(q)⟩
     ·rcases Xa.mp m with rfl|m
      ·exact .inr ⟨rfl,c⟩
      ·cases(m)
     ·show 4*(1-1+nA 256)+1<4*(0+nA p)+_;haveI:nA 256=0:=rfl;exact(br 0x46000a085804201847210c01) n2
    |cons y t=>
     refine⟨⟨h.go,?_,fun i m=>v i (Xc _ m),fun i m=>?_,h.nw,h.n0,h.ld,h.ps⟩,?_,rfl,fun ξ q=>by cases(q)⟩
     ·show dt k++(np u++Dn ((x,[]++y.2.1,true)::t))=I;rw[fC,YK,←d,fC]
     ·rcases Xa.mp m with rfl|m
      ·exact .inr ⟨rfl,c⟩
      ·exact .inl (v i (Xc _ m))
     ·show 4*((t.length+1)-1+nA p)+1<4*((t.length+1)+nA p)+_;exact(bT 0x8c041410b0086011803008d042c0218847008c01)
  |false=>
   have L:kL false ⟨n,u,p,k,z,g,s⟩=np u:=by unfold kL np;induction u using Option.casesOn<;>rfl
   rw[L];haveI Y: ∀q:some ((x,(np u),true):xT)=none,k=[]:=fun q=>by exact ph q
   cases l with
   |true=>
    have n2:mR u=2:=by
     rcases A with q|q
     ·exact absurd (D q).2 (aU aw)
     ·exact q
    refine⟨⟨h.go,d,fun i m=>v i (YP m),fun i m=> .inl (v i m),(fun i e=>by obtain rfl:=dL e;exact .inr ⟨rfl,c⟩),(fun q=>by exact ph q),h.ld,h.ps⟩,?_,rfl,fun q=>by exact dh q⟩;unfold n6;show(if dS n=true then _ else 4*(n.length+nA p)+0)<_;rw[B v,WX W5];lia
   |false=>
    cases n with
    |nil=>
     haveI U:nA p=1:=f rfl;refine⟨⟨h.go,d,fun i m=>(nomatch m),fun i m=>(nomatch m),(fun i e=>by obtain rfl:=dL e;exact .inr ⟨rfl,c⟩),(fun q=>by exact ph q),h.ld,h.ps⟩,?_,rfl,fun q=>by exact dh q⟩;show 4*(0+nA 256)+0<4*(0+nA p)+_;haveI:nA 256=0:=rfl
     lia
    |cons y t=>
     have N: ∀i∈t,li i:=fun i m=>v i (Xc _ m);refine⟨⟨h.go,?_,fun i m=>N i (YP m),fun i m=> .inl (N i m),(fun i e=>by obtain rfl:=dL e;exact .inr ⟨rfl,c⟩),(fun q=>by exact ph q),h.ld,h.ps⟩,?_,rfl,fun q=>by exact dh q⟩
     ·show dt k++((np u++y.2.1)++Dn t)=I;rw[←d,fC,WW]
     ·unfold n6;show(if dS t=true then _ else 4*(t.length+nA p)+0)<4*((t.length+1)+nA p)+_;rw[B N,WX W5];exact(bT 0x230105042c021804600c003410b008401)
 have m:=C (b/2%2==1) (b%2==1) (fun q=>by rw[O q];exact⟨rfl,rfl⟩) fun ξ ξ=>trivial;exact⟨m.1,m.2.1,m.2.2.1,fun ξ q=>m.2.2.2 q⟩
end
section
variable {st:fO}
theorem AZ: ∀{w:List xT},(∀i∈w,li i)→w.length≤(Dn w).length
 |[],_=>Xl _
 |a::t,h=>by haveI e:=h a (Xh ..);haveI x:=AZ (w:=t) fun i m=>h i (Xc _ m);rw[fC,WO,e.2.2,W0];show t.length+1≤1+_;exact(br 0x8402108e011803008401) x
def xg (h:jq k st):st.wait.length≤k.length+1:=by
 haveI e:=W4 List.length h.cd;rw[WO,WO] at e;cases x:st.wait with
 |nil=>exact W8 _
 |cons a t=>haveI:=AZ (w:=t) fun i m=>h.tl i (by rwa[x]);rw[x,fC,WO] at e;rw[W0];exact(xY 0x21008c81804650c061286440c2101844108401) e this
structure JR (cs:ah):Prop where
 len:cs.length≤60
 t7: ∀c∈cs,0≤c∧c≤255
def JS (h:li i∨Gk i):0≤i.1∧i.1≤255:=by
 rcases h with o|o
 ·haveI:=gk o.2.1;exact(cU 0xb4fe4394029804025a6420ca014c0241025) this
 ·haveI:=o.2;exact(cU 0xb4fe4394029804025a632005300824) this
def Vo (n:JR q) (h:jq q st) (r:st.found.length≤9000):Hv st∧ ∀i∈st.wait,i.2.1.length≤1000:=by
 have k:=n.len;haveI sub: ∀p,p∈np st.now++Dn st.wait→p∈q:=fun p m=>by rw[←h.cd];exact Ze _ m
 have x:=W4 List.length h.cd;rw[WO,WO] at x;refine⟨⟨fun i e=>⟨JS (h.nw i e),fun p m=>n.t7 p (sub p (ZR _ (by rwa[e]))),?_⟩,by haveI:=xg h;exact(br 0x2081fca10c201180210c38309401) k this,by exact(bC 0x2101e0a92803040f2541401) r⟩,fun i m=>?_⟩
 ·haveI:(np st.now).length=i.2.1.length:=by rw[e];rfl
  exact(xQ 0x2081fca40c881106400c203088210c38309401) k x this
 ·haveI: ∀{w:List xT},i∈w→i.2.1.length≤(Dn w).length:=fun{w}=>by
   induction w with
   |nil=>exact fun m=>nomatch m
   |cons a t s=>
    intro m;rw[fC,WO];rcases Xa.mp m with rfl|m
    ·exact(br 566970287105)
    ·haveI:=s m;lia
  haveI:=this m;exact(xQ 0x2081fca40c061206400c203088210c38309401) k x this
def CP (e:ah) (w n:Nat) (h:fO):Prop:=(jq e h∧n6 h<w∧h.found.length≤n+2)∨(h.going=false∧u3 e h.found∧h.found.length≤n+2)
def q0 (h:jq k st):CP k (n6 st) st.found.length (bt f st):=by
 cases e:st.wait with
 |nil=>have p:=qZ (f:=f) h e;exact .inr ⟨p.1,p.2.1,by exact(br 0x84043084018402308401) p.2.2.1⟩
 |cons x t=>have p:=oV (f:=f) h e;exact .inl ⟨p.1,p.2.1,by exact(br 0x84043084018402308401) p.2.2.1⟩
def N4 (h:iw o=true):(o/4).toNat=0∨(o/4).toNat=1∨((o/4).toNat=2∧o=11):=by
 unfold iw at h;simp only[XX,XJ] at h;rcases h with((((((h|h)|h)|h)|h)|h)|h)|h<;>subst h
 ·exact .inl rfl
 ·exact .inl rfl
 ·exact .inl rfl
 ·exact .inl rfl
 ·exact .inr (.inl rfl)
 ·exact .inr (.inl rfl)
 ·exact .inr (.inl rfl)
 ·exact .inr (.inr ⟨rfl,rfl⟩)
def xh (L:N≤800) (O:j9 F) (U:JR c) (M:Nat) (st:fO) (m:Nat) (h:jq c st) (hw:n6 st≤M) (hs:M≤m) (C:st.found.length+2*M≤N)
  (ih: ∀n v,jq c n∧n6 n<M∧n.found.length≤st.found.length+2∧M≤v+1→ ∃s,g6 F f (M+1) n v s∧u3 c s∧s.length≤N+2):
  ∃s,g6 F f (M+2) st m s∧u3 c s∧s.length≤N+2:=by
 have Y:=Vo U h ((bT 0x4103c9505086000c102288210c003c9401) L C);have wl:=xg h;have cl:=U.len;have pl:(bt f st).found.length≤10000:=by
  have pn:st.found.length+2≤10000:=by exact(bT 0x2101e0a92c043086000c102288210c003c9401) L C
  rcases q0 (f:=f) h with p|p
  ·exact WR p.2.2 pn
  ·exact WR p.2.2 pn
 have on:FP F f st→ ∀n v,jg F f st m=some (n,v)→M≤v+1→CP c (n6 st) st.found.length n→ ∃s,g6 F f (M+2) st m s∧u3 c s∧s.length≤N+2:=by
  intro ok n v es A g;have D: ∀s,g6 F f (M+1) n v s→g6 F f (M+2) st m s:=fun s r=>by show(if st.going=true then FP F f st∧ ∃n v,jg F f st m=some (n,v)∧g6 F f (M+1) n v s else s=st.found);rw[WY h.go];exact⟨ok,n,v,es,r⟩
  rcases g with g|g
  ·obtain⟨s,r1,r2⟩:=ih n v ⟨g.1,Y9 g.2.1 hw,g.2.2,A⟩;exact⟨s,D s r1,r2⟩
  ·refine⟨n.found,D _ ?_,g.2.1,by exact(fH 0x4202188230c202180230c0418204508401) C g.2.2⟩;show(if n.going=true then _ else n.found=n.found);rw[g.1,WX W5]
 have sK: ∀x,F.dI (gF st) (d7 st)=some (0,x)→ -1073741823≤x∧x≤1073741823:=fun x e=>O.kn _ _ _ e;cases d:F.dI (gF st) (d7 st) with
 |none=>exact on ⟨Y.1,by exact(br 0x2071fca00c383094218402308401) wl cl,pl,sK,fun k x e=>by rw[d] at e;exact bH e⟩ (bt f st) m (by unfold jg;rw[d]) (XZ (by assumption)) (q0 h)
 |some p=>
  obtain⟨k,x⟩:=p;by_cases h0:k=0
  ·subst h0;refine on ⟨Y.1,by exact(br 0x2071fca00c383094218402308401) wl cl,pl,sK,fun k x e q=>by rw[d] at e;cases(e);exact absurd rfl q⟩ (lc f x st) m (by unfold jg;rw[d];rfl) (XZ (by assumption)) ?_;cases b:st.wait with
   |nil=>have p:=qZ (f:=f) h b;exact .inr ⟨p.1,p.2.2.2 x,by show((bt f st).found++[At.cJ x 0]).length≤_;rw[WO,XR];exact(br 0x42021843008c018402308401) p.2.2.1⟩
   |cons y t=>have p:=(oV (f:=f) h b).2.2.2.2.2 x;exact .inl p
  ·have lg:=O.lg _ _ _ _ d h0;have rt:=O.rt _ _ _ d;haveI G:dS st.wait=false:=by
    cases b:st.wait with
    |nil=>rfl
    |cons y t=>
     rcases h.hd y (by rw[b];exact Xh ..) with o|o
     ·exact o.1
     ·have e:d7 st=y.1:=by unfold d7;rw[b]
      rw[e] at rt;haveI o2:=o.2;exact((cU 0x6d3190029804125ef7bd42409402ab481280551906500aa220ca01542419402) rt o2:False).elim
   haveI ha:st.wait=[]→nA st.edge=1:=fun q=>by
    have e:d7 st=st.edge:=by unfold d7;rw[q]
    rw[e] at rt;unfold nA;rw[WX ((cU 0x22a0220a015ef7bd42409402ab481280551906500aa220ca01542419402) rt)]
   haveI hm:mR st.now=0→k-1=0:=fun q=>by
    cases hn:st.now with
    |none=>rw[hn] at q;cases(q)
    |some i=>
     rw[hn] at q;rcases h.nw i hn with o|o
     ·haveI:mR (some i)=if i.2.2=true then 0 else 2:=rfl
      rw[this,o.1] at q;cases(q)
     ·have e:gF st=i.1:=by unfold gF;rw[hn]
      rw[e] at d;haveI:=O.l3 _ _ _ _ o.2.1 o.2.2 d;exact(cU 0x15012212005509002) this
   have w:=CO h lg.2 G ha hm lg.1;haveI kb:1≤k∧k≤12:=by haveI:=lg.1;unfold iw at this;simp only[XX,XJ] at this;exact(cU 0x2d3610029804125eab2442400af53922120057a989109002bd4a48848015ea32442400af51122120057a849109002a809109002) this
   have w1:=Vo U w.1 (by rw[w.2.2.1];exact(bT 0x4103c9505086000c102288210c003c9401) L C);haveI hb:m≠0:=by exact(fH 0x8900620c401186020843008401) hw hs w.2.1
   obtain⟨v,A⟩: ∃v,m=v+1:=⟨m-1,by exact(bC 0x128047108c010051200c01) hb⟩;haveI es:jg F f st m=some (wC f (k-1) x st,v):=by unfold jg;rw[d,A];show(if k=0 then _ else _)=_;rw[WX h0]
   have l:(∀j,j<((k-1)/4).toNat→Hv (iter (bt f) j (jo (k-1) x st)))∧CP c (n6 st) st.found.length (wC f (k-1) x st):=by
    unfold wC;haveI he:((k-1)/4).toNat=0∨((k-1)/4).toNat=1∨(((k-1)/4).toNat=2∧(jo (k-1) x st).wait≠[]):=
     (N4 lg.1).imp id (Or.imp id fun⟨a,q⟩=>⟨a,w.2.2.2 ((cU 0x9c42400884aac9109002) q) (by rw[q];rfl)⟩)
    haveI H: ∀{n},CP c (n6 (jo (k-1) x st)) (jo (k-1) x st).found.length n→CP c (n6 st) st.found.length n:=fun{n} g=>by
     rw[w.2.2.1] at g;rcases g with g|g
     ·exact .inl ⟨g.1,by haveI:=w.2.1;exact(xQ 0x884220da1010c81186200883108401) w.2.1 g.2,g.2.2⟩
     ·exact .inr g
    rcases he with e|e|⟨e,eo⟩
    ·rw[e];exact⟨fun j I=>absurd I (Yc _),.inl ⟨w.1,w.2.1,by show(jo (k-1) x st).found.length≤_;rw[w.2.2.1];exact(bC 567005938689)⟩⟩
    ·rw[e];refine⟨fun j I=>?_,H (q0 w.1)⟩;haveI:j=0:=by exact(bC 633421828230145) I
     subst this;exact w1.1
    ·rw[e];obtain⟨y,t,hg⟩: ∃y t,(jo (k-1) x st).wait=y::t:=by
      cases q:(jo (k-1) x st).wait with
      |nil=>exact absurd q eo
      |cons y t=>exact⟨y,t,rfl⟩
     have B:=oV (f:=f) w.1 hg;haveI w2:=Vo U B.1 (by haveI:=B.2.2.1;rw[w.2.2.1] at this;exact(fH 0x4103c95051861008c21186000c102288210c003c9401) L C this);refine⟨fun j I=>?_,?_⟩
     ·haveI:j=0∨j=1:=by exact(bC 0xbc823006401803110c01) I
      rcases this with rfl|rfl
      ·exact w1.1
      ·exact w2.1
     ·show CP c (n6 st) st.found.length (bt f (bt f (jo (k-1) x st)));have fl:=B.2.2.1;rw[w.2.2.1] at fl;haveI hh:=B.2.1;haveI hi:=w.2.1;cases J:(bt f (jo (k-1) x st)).wait with
      |nil=>have p:=qZ (f:=f) B.1 J;exact .inr ⟨p.1,p.2.1,by exact(bT 0x840430844184023004418402308401) fl p.2.2.1⟩
      |cons z u=>have p:=oV (f:=f) B.1 J;exact .inl ⟨p.1,by exact(fH 0x884230c441186200883108401) w.2.1 B.2.1 p.2.1,by exact(bT 0x840430844184023004418402308401) fl p.2.2.1⟩
   refine on ⟨Y.1,by exact(br 0x2071fca00c383094218402308401) wl cl,pl,sK,fun k' x' e q=>?_⟩ _ v es ((bT 0x108046208032804620843008401) hs A) l.2;rw[d] at e;cases(e);exact⟨kb,Y.2,l.1⟩
def Gm (r:N≤800) (s:j9 F) (t:JR u): ∀(M:Nat) (st:fO) (e:Nat),jq u st→n6 st≤M→M≤e→st.found.length+2*M≤N→ ∃x,g6 F f (M+2) st e x∧u3 u x∧x.length≤N+2:=by
 intro M;induction M with
 |zero=>intro st e h n p q;exact xh r s t 0 st e h n p q fun m v k=>absurd k.2 (by lia)
 |succ M w=>intro st e h n p q;exact xh r s t (M+1) st e h n p q fun m v k=>w m v k.1 (by lia) (by lia) (by lia)
end
section
variable {f:Bool}
def CQ (v:k≠[]) (n: ∀c∈k,iC c=true):jq k (tm k hasl edge)∧n6 (tm k hasl edge)≤4*(k.length+1)+2∧(tm k hasl edge).found=[]:=by
 have s: ∀(l:ah),(∀c∈l,iC c=true)→ ∀i∈l.map cZ,li i:=fun l h i m=>by obtain⟨c,n,rfl⟩:=Xj.mp m;exact⟨rfl,h c n,rfl⟩
 have t: ∀(l:ah),Dn (l.map cZ)=l:=fun l=>by
  induction l with
  |nil=>rfl
  |cons a r w=>rw[XD,fC,w];rfl
 have p: ∀(l:ah),dS (l.map cZ)=false:=fun l=>by induction l using List.casesOn<;>rfl
 have y:nA edge≤1:=by unfold nA;split<;>omega
 cases hasl with
 |true=>
  refine⟨⟨rfl,?_,fun i m=>s k n i (YP m),fun i m=> .inl (s k n i m),fun i e=>(nomatch e),fun ξ=>rfl,W8 _,fun a m=>(nomatch m)⟩,?_,rfl⟩
  ·show []++([]++Dn (k.map cZ))=k;rw[t];rfl
  ·show(if dS (k.map cZ)=true then _ else 4*((k.map cZ).length+nA edge)+2)≤_;rw[p,WX W5,WP];lia
 |false=>
  cases k with
  |nil=>exact absurd rfl v
  |cons c r=>
   have u: ∀x∈r,iC x=true:=fun x m=>n x (Xc _ m);refine⟨⟨rfl,?_,fun i m=>s r u i (YP m),fun i m=> .inl (s r u i m),fun i e=>?_,(fun q=>by exact ph q),W8 _,fun a m=>(nomatch m)⟩,?_,rfl⟩
   ·show []++([c]++Dn (r.map cZ))=c::r;rw[t];rfl
   ·obtain rfl:=dL e;exact .inl ⟨rfl,n c (Xh ..),rfl⟩
   ·show(if dS (r.map cZ)=true then _ else 4*((r.map cZ).length+nA edge)+2)≤4*((c::r).length+1)+2;rw[p,WX W5,WP,W0];exact(br 0x42021a0858047008c2180868216000843008c01) y
def Vp (e:h.length≤60) (x: ∀c∈h,iC c=true):JR h:=⟨e,fun c m=>by haveI:=gk (x c m);exact(cU 0xb4fe4394029804025a6420ca014c0241025) this⟩
def A0 (n:j9 F) (x:codes.length≤60) (k: ∀c∈codes,iC c=true): ∃h,lF F f codes hasl edge h∧u3 codes h∧h.length≤8*codes.length+14:=by
 by_cases e:codes=[]
 ·subst e;exact⟨[],.inl ⟨rfl,rfl⟩,⟨rfl,W8 _,fun a m=>nomatch m⟩,W8 _⟩
 ·have w:=CQ (hasl:=hasl&&decide (0≤F.ct 256)) (edge:=edge) e k;obtain⟨h,p,q,r⟩:=Gm (N:=8*codes.length+12) (by lia) (f:=f) n (Vp x k) (4*(codes.length+1)+2) _ (20*(codes.length+1)) w.1 w.2.1 (bC 0x82285804600c043410b008c01) (by rw[w.2.2,XO];lia);exact⟨h,.inr ⟨e,_,by exact(bC 0x8c0782a4b010e021a085804600c38309401) x,p⟩,q,r⟩
theorem oW (y:j9 F): ∀{codes piece:ah} {hl:Bool},(∀c∈piece++codes,iC c=true)→(piece++codes).length≤60→
  ∃q,kM F f r piece hl codes q∧dt q=piece++codes.filter (fun c=>F.eG c)∧(∀a∈q,(Nd.one a).pass=true)∧q.length≤8*(piece.length+codes.length)+14*(codes.length+1)∧((∀c∈codes,F.eG c=true)→aC (q.map Nd.one)≤1∧q.length≤8*(piece.length+codes.length)+14)
 |[],piece,hl,s,n=>by rw[Xe] at s n;obtain⟨q,w,d,l⟩:=A0 (F:=F) (f:=f) (hasl:=hl) (edge:=if r then F.bound else 256) y n s;exact⟨q,w,by rw[d.cd,List.filter_nil,Xe],d.ps,by rw[XO];assumption,fun ξ=>⟨d.ld,l⟩⟩
 |c::z,piece,hl,s,n=>by
  cases v:F.eG c with
  |true=>
   obtain⟨q,w,e,p,l,k⟩:=oW y (r:=r) (codes:=z) (piece:=piece++[c]) (hl:=hl) (by rwa[WW]) (by rwa[WW]);have j:(piece++[c]).length+z.length=piece.length+(c::z).length:=by rw[WO,XR,W0];lia
   rw[j] at l k;refine⟨q,?_,?_,p,by rw[W0] at l⊢;exact(bT 0x10821c58047008c41420b080462084200c20871601188284161008c4108401) l,fun h=>k fun x m=>h x (Xc _ m)⟩
   ·show(if F.eG c=true then _ else _);rwa[WY v]
   ·rw[e,Yz,WY v,WW];rfl
  |false=>
   obtain⟨a,o,g,A⟩:=A0 (F:=F) (f:=f) (codes:=piece) (hasl:=hl) (edge:=256) y (by rw[WO] at n;exact(br 0x8706128030e0c258402308401) n) fun x m=>s x (ZR _ m);obtain⟨b,B,C,D,i,_⟩:=oW y (r:=r) (codes:=z) (piece:=[]) (hl:=true) (fun x m=>s x (Ze _ (Xc _ m))) (by rw[WO,W0] at n;rw[YK];exact(br 0x8706128430e0c258402308401) n);refine⟨a++b,?_,?_,fun x m=>(W6.mp m).elim (g.ps x) (D x),by rw[XO] at i;rw[WO,W0];exact(fH 0x8410e2c023804630a1058402318421808200c2087160118c2841603080620c20e1a10508401) A i,fun h=>?_⟩
   ·show(if F.eG c=true then _ else _);rw[WX (by rw[v];exact W5)];exact⟨a,b,o,B,rfl⟩
   ·rw[eL,g.cd,C,Yz,WX (by rw[v];exact W5)];rfl
   ·haveI:=h c (Xh ..);rw[v] at this;exact dh this
def hV (e:Fs) (f:Bool) (h:ah):Prop:=h.length≤30∧ ∀c∈h,iC c=true∧(e f).eG c=true
def aY (x:Fs):Rn:=fun f l r h=>Classical.epsilon fun e=>kM (x f) f r [] l h e∧dt e=h∧(∀a∈e,(Nd.one a).pass=true)∧aC (e.map Nd.one)≤1∧e.length≤802
def cw {q:Fs} (u: ∀f,j9 (q f)) (h:hV q f x):
  kM (q f) f r [] l x (aY q f l r x)∧dt (aY q f l r x)=x∧(∀a∈aY q f l r x,(Nd.one a).pass=true)∧aC ((aY q f l r x).map Nd.one)≤1∧(aY q f l r x).length≤802:=by
 obtain⟨n,w,e,p,_,k⟩:=oW (f:=f) (u f) (r:=r) (codes:=x) (piece:=[]) (hl:=l) (fun c m=>(h.2 c m).1) (by haveI:=h.1;rw[YK];lia);have t:=k fun c m=>(h.2 c m).2;haveI v:x.filter (fun c=>(q f).eG c)=x:=List.filter_eq_self.mpr fun c m=>(h.2 c m).2;rw[v] at e;exact Classical.epsilon_spec (p:=fun n=>kM (q f) f r [] l x n∧dt n=x∧(∀a∈n,(Nd.one a).pass=true)∧aC (n.map Nd.one)≤1∧n.length≤802) ⟨n,w,e,p,t.1,WR t.2 (by haveI:=h.1;rw[XO];exact(bC 0x1010f25838684160008070f0c01) this)⟩
def zy {x:Fs} (k: ∀f,j9 (x f)) (n: ∀f,hP (x f)) (p:d3 x):lH x (aY x) (hV x):=
 ⟨fun f l r e h=>(cw k h).1,fun f l r e h=>WR (cw k h).2.2.2.2 (bM aw),fun f e h=>⟨WR h.1 (bM aw),fun c m=>by haveI:=gk (h.2 c m).1;exact(cU 0xb4fe4394029804025a6420ca014c0241025) this⟩,n,p⟩
end
section
variable {fd:Fs} {f:Bool}
structure dK (fd:Fs):Prop where
 dI: ∀f,j9 (fd f)
 Cz: ∀f,hP (fd f)
 num:d3 fd
 hy: ∀f,(fd f).eG (fd f).hy=true→iC (fd f).hy=true
structure bP (fd:Fs) (P:am):Prop extends Piece P where
 codes: ∀x∈P,∀c∈x.codes,iC c=true∧ ∀f,x.gl=some f→(fd f).eG c=true
 fJ:(P.flatMap Nd.codes).length≤20
 len:P.length≤900
 new: ∀x∈P,eQ x=false
def JT {x:Nd} (h:x.nU f=true) (e:c∈x.codes):x.gl=some f:=by
 have k: ∀{g:Bool},(num g==num f)=true→g=f:=fun{g} q=>by induction g using Bool.casesOn<;>induction f using Bool.casesOn<;>first|rfl|(exact absurd q (aU aw))
 cases x with
 |one a=>cases a with
  |char g c=>exact W4 some (k h)
  |kj g c m l r=>exact W4 some (k h)
  |_=>cases(e)
 |_=>cases(e)
def mS: ∀{a n:Nat},((sl l a n).flatMap Nd.codes).length≤(l.flatMap Nd.codes).length:=fun{a n}=>by
 haveI e:l=l.take a++(sl l a n++(l.drop a).drop (n-a)):=by unfold sl;rw[XC,XC]
 haveI:=W4 (fun l=>(List.flatMap Nd.codes l).length) e;simp only[Xs,WO] at this;exact(fH 0x800220ca101844108401) this
def xi (B:dK fd) (R:bP fd P) (h:cj fd W P 0 .skip true=some (f,b,e,ps)):PC (aY fd) (hV fd) f P b e:=by
 obtain⟨_,Y,hw,hb,eo,C,w,z⟩:=iz h;obtain⟨he,g,D,G,H,v4,I,v6,v7,v8,v9,hf,n,j,hg⟩:=c6 hw;rw[w] at D;obtain rfl:=dL D;rw[z] at G;obtain rfl:=dL G;have s:b<e:=by
  rcases XF b e with q|q
  ·exact q
  ·exfalso;haveI c0:(aO f (P.drop b) []).1=0:=by exact(bT 0x24018830084019404108401) n q
   haveI J:(aO f (P.drop b) []).2.length=_:=ny;rw[c0,←j] at J;exact v6 (YC.mp J)
 have L: ∀i,b≤i→i<e→ ∃x,P[i]?=some x∧x.nU f=true:=fun i u d=>by obtain⟨x,v,o⟩:=nu (f:=f) (l:=P.drop b) (ls:=[]) (i:=i-b) ((fH 0x2220c4211862008c30184219404108401) n u d);rw[Xv,show b+(i-b)=i by exact(br 0x90430880210803008401) u] at v;exact⟨x,v,o⟩
 have k:PC (fun ξ ξ ξ ξ=>[]) (fun ξ ξ=>True) f P b e:=⟨R.p0,⟨C,w,z⟩,⟨H,s,I⟩,L,fun ξ ξ ξ ξ ξ a m=>(nomatch m),trivial,fun p m=>W8 _⟩;have m:=k.mid;have N:hV fd f (bq f P b e):=by refine⟨WR (WR mS R.fJ) (bM aw),fun c hc=>?_⟩;obtain⟨x,v,t⟩:=XT.mp hc;obtain⟨i,u,d,O⟩:=lK v;obtain⟨y,U,o⟩:=k.all i ((bT 0x4041006020843008401) m.2.2.2.1 u) ((bT 0x4421106200883008401) m.2.2.1 d);rw[O] at U;obtain rfl:=dL U;have:=R.codes x (XI O) c t;exact⟨this.1,this.2 f (JT o t)⟩
 exact⟨R.p0,⟨C,w,z⟩,⟨H,s,I⟩,L,fun f l r A q a ha=>(cw B.dI q).2.2.1 a ha,N,fun p ξ=>(cw B.dI N).2.2.2.1⟩
theorem zA (h:PC w p f P b e) (q:mL B):bq f (A++(P++B)) (A.length+b) (A.length+e)=bq f P b e∧aM f (A++(P++B)) (A.length+b) (A.length+e)=A.length+aM f P b e:=by
 have r:=h.blt;haveI s:=h.ok;have x:aH f (A++(P++B)) (A.length+b)=A.length+aH f P b:=by
  haveI:((A++(P++B)).take (A.length+b)).reverse=(P.take b).reverse++A.reverse:=by rw[List.take_length_add_append,YZ (Xq r),Z2]
  unfold aH;rw[this];have c:=mN (m:=A.reverse) h.pre;rw[c.1];haveI t:=c.2;rw[Xi,Xg] at t
  grind
 have k:aZ f (A++(P++B)) (A.length+e)=A.length+aZ f P e:=by unfold aZ;rw[fA,XB s.2.2,nt q];lia
 have n:aM f (A++(P++B)) (A.length+b) (A.length+e)=A.length+aM f P b e:=by unfold aM;rw[x,k,eZ h.l0.2];exact(bT 0x1284041084018083008401)
 have m:=h.mid;haveI u:=h.l0;haveI v:bc f (A++(P++B)) (A.length+b) (A.length+e)=A.length+bc f P b e:=by haveI:bc f P b e=aZ f P e-aQ (sl P (aH f P b) (aZ f P e)):=rfl;unfold bc;rw[x,k,eZ h.l0.2];exact(xQ 0x25088c2209031186020903288c220843108401) m.2.1 this
 refine⟨?_,n⟩;unfold bq;rw[n,v,eZ (by exact(fH 0x1018401b4061086010883008401) m.2.2.1 u)]
def N5 (x:dK fd) (h:c∈tz (fd f)):iC c=true∧(fd f).eG c=true:=by
 unfold tz at h;split at h
 ·rename_i e;rw[WZ] at h;subst h;exact⟨x.hy f e,e⟩
 ·cases(h)
def tM (u:dK fd) (R:bP fd P) (h:PC (aY fd) (hV fd) f P b e):F5 (aY fd) (hV fd) fd f (aj (aY fd) f P b e) (bA P (aj (aY fd) f P b e)):=by
 have v:=h.ck;have k:(bq f P b e).length≤20:=WR mS R.fJ;haveI n:(tz (fd f)).length≤1:=by unfold tz;split<;>simp
 have w:=h.sp;refine⟨fun p=>⟨?_,fun c m=>?_⟩,fun p=>⟨?_,fun c m=>v.2 c (Xb m)⟩,fun f l r s q a t=>e6 (x:= .one a) ((cw u.dI q).2.2.1 a t),fun a t=>?_,?_,by show(bq f P b e).length≤_;exact(bC 0x8207f28030a0c01) k⟩
 ·show((bq f P b e).take p++tz (fd f)).length≤30;rw[WO,Xg];exact(bT 0x10f0e010c8011060118430a0c01) k n
 ·rcases W6.mp m with m|m
  ·exact v.2 c (Xm m)
  ·exact N5 u m
 ·show((bq f P b e).drop p).length≤30;rw[WT];exact(br 0x10f0e2108030a0c01) k
 ·haveI:Nd.one a∈(bA P (aj (aY fd) f P b e)).map Nd.one:=Xj.mpr ⟨a,t,rfl⟩;rw[dr h] at this;exact e6 (x:= .one a) (w.2.2.2.2 _ this)
 ·rw[fB h];haveI:=R.len;exact(bT 0x2081fcb1104018107c2843008401) w.2.2.2.1 this
def Gn (t:dK fd) (R:bP fd P) (h:PC (aY fd) (hV fd) f P b e) (s:mL B):F8 (aY fd) (hV fd) fd (A++(P++B)) A.length f (A.length+b) (A.length+e):=by
 have r:=zA h (A:=A) s;have k:=qR h (A:=A) s;have n:=h.sp;have m:=h.mid;haveI u:=h.blt;haveI en:bA (A++(P++B)) ⟨A.length+(aj (aY fd) f P b e).first,A.length+(aj (aY fd) f P b e).last,(aj (aY fd) f P b e).codes,(aj (aY fd) f P b e).l,(aj (aY fd) f P b e).r⟩=bA P (aj (aY fd) f P b e):=by show(sl _ (A.length+_) (A.length+_)).map zt=_;rw[eZ n.2.2.2.1];rfl
 have p:=tM t R h;refine⟨by rw[r.1];exact h.ck,fun q v=>by rw[r.1,r.2];haveI:=h.ld q v;haveI:=h.f0;lia,?_,?_,by rw[k];show A.length+1≤A.length+_;exact(fH 0x10804230c023186200883008401) n.2.2.1 m.2.1,?_,?_,?_⟩
 ·rw[k];show∀x∈sl _ (A.length+_) (A.length+_),_;rw[eZ n.2.2.2.1];exact fun x w=>xa (e6 (n.2.2.2.2 x w))
 ·rw[k,en];exact⟨p.h,p.t,p.kr,p.kn,p.fJ,p.Rx⟩
 ·rw[k];show A.length+_≤_;rw[WO,WO];exact(fH 0x421018421106000883008401) n.2.2.2.1
 ·rw[k];show A.length+_≤_;rw[WO,WO];exact(O6 0x4210384813060009831104a1814210c081186030883008401) n.2.1 n.2.2.1 n.2.2.2.1 m.1 m.2.1
 ·rw[k];show cu _ (A.length+_) (A.length+b)≤900;unfold cu;rw[eZ (Xq u)];exact WR (WR mS R.fJ) (bM aw)
end
section
variable {fd:Fs} {P:am} {W:kD}
def u4 (l:am):Prop:= ∀a∈l,(∀c∈a.codes,iC c=true)∧a.codes.length≤1000
structure RH (fd:Fs) (P:am):Prop extends Piece P where
 no: ∀W txt,cj fd W P 0 .skip txt=none
 codes:u4 P
def eN (fd:Fs) (P:am):Prop:=bP fd P∨RH fd P
theorem r' {l:am} {x:Nd} (h:x∈l):x.codes.length≤(l.flatMap Nd.codes).length:=by
 induction l with
 |nil=>cases(h)
 |cons a t e=>
  rw[Yj,WO];rcases Xa.mp h with rfl|h
  ·exact(br 566970287105)
  ·haveI:=e h;lia
def eN.piece (h:eN fd P):Piece P:=h.elim (·.toPiece) (·.toPiece)
def eN.codes (h:eN fd P):u4 P:=h.elim (fun R a m=>⟨fun c e=>(R.codes a m c e).1,WR (r' m) (WR R.fJ (bM aw))⟩) (·.codes)
def eN.U6 (k:dK fd) (h:eN fd P):AX (aY fd) (hV fd) fd W P:=⟨h.piece,fun f b e m x=>by
 rcases h with R|D
 ·exact xi k R x
 ·rw[D.no] at x;exact bH x⟩
theorem q7: ∀{Ps:List am} {A:am} {p:Nat} {e:Nd},(∀P∈Ps,Piece P)→(A++Ps.flatten)[p]?=some e→i2 e=true→A.length≤p→
  ∃x P B,A++Ps.flatten=x++(P++B)∧x.length=p∧mL B∧P∈Ps
 |[],A,p,e,_,h,_,k=>by rw[List.flatten_nil,Xe,XN k] at h;exact bH h
 |P::Ps,A,p,e,n,h,r,k=>by
  haveI s:=n P (Xh ..);rw[Yq] at h⊢;rcases Nat.eq_or_lt_of_le k with q|q
  ·exact⟨A,P,Ps.flatten,rfl,q,tJ fun Q m=>n Q (Xc _ m),Xh ..⟩
  ·rcases XF p (A.length+P.length) with q2|q2
   ·rw[Xn (by assumption),XS (by exact(bT 0x111062008431808200843008401) k q2),show p-A.length=(p-A.length-1)+1 by exact(br 0x25008e211c401086200843108401) q] at h;haveI:=s.ns _ _ h;rw[r] at this;exact Hj this
   ·rw[←WW] at h⊢;obtain⟨x,Q,B,t,u,v,w⟩:=q7 (Ps:=Ps) (A:=A++P) (fun Q m=>n Q (Xc _ m)) h r (by rw[WO];assumption);exact⟨x,Q,B,t,u,v,Xc _ w⟩
structure zB (l:am):Prop where
 ns: ∀x∈l,i2 x=false
 codes:u4 l
theorem q8 (z:dK fd) {lead:am} (g:zB lead) {t:List am} (h: ∀P∈t,eN fd P) (k:(lead++t.flatten).length<10000):tA (aY fd) (hV fd) fd W (lead++t.flatten):=by
 refine⟨fun p s c f b e O u n=>?_,fun a d=>?_,k⟩
 ·have v:i2 s=true:=by
   unfold cj at n;split at n
   ·rename_i q;exact q.1
   ·exact bH n
  have o:lead.length≤p:=by
   rcases XF p lead.length with q|q
   ·rw[XS q] at u;haveI:=g.ns s (XI u);rw[v] at this;exact Hj this
   ·exact q
  obtain⟨A,P,B,i,C,j,l⟩:=q7 (fun Q m=>(h Q m).piece) u v o;haveI w:s= .skip:=by induction s using Nd.casesOn<;>first|rfl|exact dh v
  subst w;haveI G:=(h P l).piece.p0;haveI y:0<P.length:=by
   cases P with
   |nil=>exact bH G
   |cons a r=>exact YN _
  subst C;rw[i,wY j y] at n;obtain⟨⟨U,Y,e',H⟩,x,I⟩:=Xy.mp n;cases(I)
  haveI J:=(iz x).1;subst J;rw[i];rcases h P l with R|D
  ·exact Gn z R (xi z R x) j
  ·rw[D.no] at x;exact bH x
 ·rcases W6.mp d with m|m
  ·exact g.codes a m
  ·obtain⟨P,L,N⟩:=List.mem_flatten.mp m;exact(h P L).codes a N
def kc (k:dK fd) {lead:am} (r:zB lead) (h: ∀P∈e,eN fd P):
  cR (aY fd) fd W (lead++e.flatten) ((lead++e.flatten).length+1) 0 true=lead++u0 (aY fd) fd W (bO true lead) e:=by
 haveI p:=nv (rn:=aY fd) (fd:=fd) (W:=W) (as:=lead++e.flatten) (t:=lead) (A:=[]) (R:=e.flatten) (n:=(lead++e.flatten).length+1) (txt:=true) r.ns rfl (by rw[WO];exact(br 0x42011c02100401));haveI q:=qS (rn:=aY fd) (cok:=hV fd) (fd:=fd) (W:=W) (Ps:=e) (A:=lead) (n:=e.flatten.length) (txt:=bO true lead) (fun P m=>(h P m).U6 k) (Xl _);rw[XO,WO,X2,show lead.length+e.flatten.length+1-lead.length=e.flatten.length+1 by exact(br 0x12804610c4018047008401)] at p;rw[WO,p,q]
def lO (h:Rn) (fd:Fs) (W:kD):Bool→List am→List am
 |_,[]=>[]
 |txt,P::e=>aR h fd W txt P::lO h fd W (bO txt P) e
theorem xj: ∀{e:List am} {h:Bool},u0 x fd W h e=(lO x fd W h e).flatten
 |[],_=>rfl
 |P::e,h=>by show aR x fd W h P++u0 x fd W (bO h P) e=_;rw[xj];rfl
def gJ (h:cj fd W P 0 .skip e=none):aR x fd W e P=P:=by unfold aR;rw[h]
def i4 (h:cj fd W P 0 .skip x=some (f,b,e,m)):aR k fd W x P=P.take (aj k f P b e).first++(brk k fd P f b e m++P.drop (aj k f P b e).last):=by unfold aR;rw[h]
theorem i5: ∀{q:aL} {k:Nat},∀x∈bu m fd f n e q k,(∃a∈e,x= .one a)∨ ∃u v w,x= .cI u v w
 |[],k,x,h=>by obtain⟨a,r,rfl⟩:=Xj.mp h;exact .inl ⟨a,Xb r,rfl⟩
 |p::q,k,x,h=>by
  change x∈(if dG m fd f n e p<k then bu m fd f n e q k else(sl e k (dG m fd f n e p)).map Nd.one++oy m fd f n e p::bu m fd f n e q (e.length-jh m fd f n e p)) at h;split at h
  ·exact i5 x h
  ·rcases W6.mp h with h|h
   ·obtain⟨a,r,rfl⟩:=Xj.mp h;exact .inl ⟨a,Xb (Xm r),rfl⟩
   ·rcases Xa.mp h with rfl|h
    ·exact .inr ⟨_,_,_,rfl⟩
    ·exact i5 x h
theorem Gp (o:dK fd) (R:bP fd P) (h:cj fd W P 0 .skip true=some (f,b,e,A)):
  RH fd (aR (aY fd) fd W true P)∧(∀t,bO t (aR (aY fd) fd W true P)=bO t P)∧cv (aR (aY fd) fd W true P)=P:=by
 obtain⟨_,D,G,I,eo,_⟩:=iz h;have z:=xi o R h;have y:=z.sp;have m:=z.mid;have J:=tM o R z;rw[i4 h];have g: ∀x∈brk (aY fd) fd P f b e A,(∃a,x= .one a∧x∈P∧x.pass=true)∨ ∃u v w,x= .cI u v w:=fun x s=>by
  rcases i5 x s with⟨a,j,rfl⟩|q
  ·have:Nd.one a∈(bA P (aj (aY fd) f P b e)).map Nd.one:=Xj.mpr ⟨a,j,rfl⟩;rw[dr z] at this;refine .inl ⟨a,rfl,?_,y.2.2.2.2 _ this⟩;obtain⟨i,_,_,L⟩:=lK this;exact XI L
  ·exact .inr q
 have n:=(eN.codes (.inl R:eN fd P));have N:(P.take (aj (aY fd) f P b e).first++(brk (aY fd) fd P f b e A++P.drop (aj (aY fd) f P b e).last))[0]?=some .skip:=by rw[XS (by rw[Xg];have:=z.blt;exact(xQ 0x8c86100403884240c061106020843000423) y.1 y.2.2.1 y.2.2.2.1 m.2.1),Ym (by exact(bC 598168802690083) y.1)];exact R.p0
 haveI B:P= .skip::P.drop 1:=by
  have:=R.p0;cases P with
  |nil=>exact bH this
  |cons a r=>obtain rfl:=dL this;rfl
 have l: ∀x∈P.drop 1,i2 x=false:=fun x s=>by obtain⟨i,d⟩:=YO s;rw[Xv,show 1+i=i+1 by exact(bC 0x4a011803000423)] at d;exact R.ns i x d
 refine⟨⟨⟨N,fun i x d=>?_⟩,fun W' O=>CM R.toPiece z ⟨D,G⟩ eo,fun a j=>?_⟩,fun t=>?_,qW z R.new fun p a j=>(cw o.dI (J.h p)).2.2.1 a j⟩
 ·haveI U:P.take (aj (aY fd) f P b e).first= .skip::sl P 1 (aj (aY fd) f P b e).first:=by
   obtain⟨k,Y⟩: ∃k,(aj (aY fd) f P b e).first=k+1:=⟨(aj (aY fd) f P b e).first-1,by exact(bC 0x94023884600803000423) y.1⟩
   rw[Y];have:P.take (k+1)=(.skip::P.drop 1:am).take (k+1):=W4 _ B;rw[this];rfl
  rw[U,XM,Zz] at d;have s:=XI d;rcases W6.mp s with q|q
  ·unfold sl at q;exact l x (Xm q)
  ·rcases W6.mp q with q|q
   ·rcases g x q with⟨a,rfl,_⟩|⟨u,v,w,rfl⟩<;>rfl
   ·have:P.drop (aj (aY fd) f P b e).last=(P.drop 1).drop ((aj (aY fd) f P b e).last-1):=by rw[YW];congr 1;exact(bT 0x128442308423086200883008401) y.2.2.1 m.2.1
    rw[this] at q;exact l x (Xb q)
 ·rcases W6.mp j with q|q
  ·exact n a (Xm q)
  ·rcases W6.mp q with q|q
   ·rcases g a q with⟨_,_,C,_⟩|⟨u,v,w,rfl⟩
    ·exact n a C
    ·exact⟨fun c hc=>(nomatch hc),W8 _⟩
   ·exact n a (Xb q)
 ·have H:=z.Gg (W:=W) (fd:=fd) ⟨D,G⟩
  haveI t1:bO t (P.take (aj (aY fd) f P b e).first)=t:=j5 fun x s=>H x (by
   have:P.take (aj (aY fd) f P b e).first=(P.take (aj (aY fd) f P b e).last).take (aj (aY fd) f P b e).first:=by rw[ZH,Yb (by exact(xQ 0x1018401888240c081086030883008401) y.2.1 y.2.2.1 m.1 m.2.1)]
   rw[this] at s;exact Xm s)
  haveI t2:bO t (brk (aY fd) fd P f b e A)=t:=j5 fun x s=>by
   rcases g x s with⟨a,rfl,_,C⟩|⟨u,v,w,rfl⟩
   ·induction a using At.casesOn<;>first|rfl|exact dh C
   ·rfl
  haveI t3:bO t P=bO t (P.take (aj (aY fd) f P b e).last++P.drop (aj (aY fd) f P b e).last):=by rw[XC]
  rw[mO,mO,t1,t2,t3,mO,j5 H]
def A1 (h:cj fd W P 0 .skip e=some r):e=true:=(iz h).1
def nB (n:dK fd) (R:bP fd P) (h:Bool):eN fd (aR (aY fd) fd W h P)∧(∀m,bO m (aR (aY fd) fd W h P)=bO m P)∧cv (aR (aY fd) fd W h P)=P∧
  ∀x:kD,aR (aY fd) fd x h (aR (aY fd) fd W h P)=if(cj fd W P 0 .skip h).isSome then aR (aY fd) fd W h P else aR (aY fd) fd x h P:=by
 cases k:cj fd W P 0 .skip h with
 |none=>rw[gJ k];exact⟨.inl R,fun ξ=>rfl,j6 R.new,fun ξ=>rfl⟩
 |some r=>obtain⟨f,b,e,p⟩:=r;haveI:=A1 k;subst this;have d:=Gp n R k;exact⟨.inr d.1,d.2.1,d.2.2,fun x=>gJ (d.1.no x true)⟩
theorem A2 (k:dK fd) {W W':kD}: ∀{Rs:List am} {txt:Bool},(∀P∈Rs,bP fd P)→
  (∀Q∈lO (aY fd) fd W txt Rs,eN fd Q)∧lO (aY fd) fd W txt (lO (aY fd) fd W txt Rs)=lO (aY fd) fd W txt Rs∧cv (lO (aY fd) fd W txt Rs).flatten=Rs.flatten∧
  cv (lO (aY fd) fd W' txt (lO (aY fd) fd W txt Rs)).flatten=Rs.flatten∧(lO (aY fd) fd W txt Rs).length=Rs.length
 |[],txt,_=>⟨fun Q m=>(nomatch m),rfl,rfl,rfl,rfl⟩
 |P::Rs,txt,h=>by
  have n:=h P (Xh ..);have x:=A2 k (W:=W) (W':=W') (Rs:=Rs) (txt:=bO txt P) fun Q m=>h Q (Xc _ m);have e:=nB (W:=W) k n txt;haveI r:=nB (W:=W') k n txt;have p: ∀W',lO (aY fd) fd W' txt (lO (aY fd) fd W txt (P::Rs))=aR (aY fd) fd W' txt (aR (aY fd) fd W txt P)::lO (aY fd) fd W' (bO txt P) (lO (aY fd) fd W (bO txt P) Rs):=fun W'=>by show _::lO _ fd W' (bO txt (aR (aY fd) fd W txt P)) _=_;rw[e.2.1]
  refine⟨fun Q m=>(Xa.mp m).elim (fun q=>q▸e.1) (x.1 Q),?_,?_,?_,W4 (· +1) x.2.2.2.2⟩
  ·rw[p,x.2.1,e.2.2.2 W];split<;>rfl
  ·show cv (aR (aY fd) fd W txt P++_)=P++_;rw[e7,e.2.2.1,x.2.2.1]
  ·rw[p];show cv (_++_)=P++_;rw[e7,x.2.2.2.1,e.2.2.2 W'];split
   ·rw[e.2.2.1]
   ·rw[r.2.2.1]
end
section
variable {C:Fs} {b e:Nat}
theorem nC {q:Nat→Bool}: ∀{n a:Nat},a<n→q a=true→(∀k,k<n→k≠a→q k=false)→(List.range n).filter q=[a]
 |0,a,h,_,_=>absurd h (Yc _)
 |n+1,a,h,m,x=>by
  rw[List.range_succ,aab];by_cases e:a=n
  ·subst e;haveI:(List.range a).filter q=[]:=List.filter_eq_nil_iff.mpr fun k p=>by
    rw[List.mem_range] at p;rw[x k (XZ (by assumption)) (Ys (by assumption))];exact W5
   rw[this,Yz,WY m];rfl
  ·rw[nC (n:=n) (a:=a) ((br 0x442100512084018c02308401) h e) m fun k p r=>x k (XZ (by assumption)) r,Yz,WX (by rw[x n (Xr _) (fun q=>e q.symm)];exact W5)];rfl
def tN (l:am) (k:Int):Bool:=eQ (l[k.toNat]?.getD .skip)
def CR (h: ∀a∈A,eQ a=false) (p:eQ x=true) (m: ∀a∈B,eQ a=false):(nn (A++x::B).length).filter (tN (A++x::B))=[(A.length:Int)]:=by
 unfold nn;rw[List.filter_map];haveI:(List.range (A++x::B).length).filter (tN (A++x::B)∘fun(k:Nat)=>(k:Int))=[A.length]:=by
  refine nC (by rw[WO,W0];exact(br 0x461008c2100401)) ?_ fun k r s=>?_
  ·show eQ ((A++x::B)[((A.length:Nat):Int).toNat]?.getD .skip)=true;rwa[X9,Xn (Xl _),YE]
  ·show eQ ((A++x::B)[((k:Nat):Int).toNat]?.getD .skip)=false;rw[X9];rcases XF k A.length with q|q
   ·rw[XS q,WS q];exact h _ (Yh q)
   ·rw[Xn q,show k-A.length=(k-A.length-1)+1 by lia,Zz];cases n:B[k-A.length-1]? with
    |none=>rfl
    |some y=>exact m y (XI n)
 rw[this];rfl
def bB (C:Fs) (f:Bool) (R:am) (b e p:Nat):Nat:=dG (aY C) C f (aj (aY C) f R b e) (bA R (aj (aY C) f R b e)) p
def bE (C:Fs) (f:Bool) (R:am) (b e p:Nat):Nat:=(bA R (aj (aY C) f R b e)).length-jh (aY C) C f (aj (aY C) f R b e) (bA R (aj (aY C) f R b e)) p
def bD (C:Fs) (f:Bool) (R:am) (b e p:Nat):Nd:=oy (aY C) C f (aj (aY C) f R b e) (bA R (aj (aY C) f R b e)) p
def bF (C:Fs) (f:Bool) (R:am) (b e:Nat):Nat:=(aj (aY C) f R b e).first
def A3 (h:PC (aY C) (hV C) f R b e):
  R.take (aj (aY C) f R b e).first++(bu (aY C) C f (aj (aY C) f R b e) (bA R (aj (aY C) f R b e)) [p] 0++R.drop (aj (aY C) f R b e).last)=R.take (bF C f R b e+bB C f R b e p)++bD C f R b e p::R.drop (bF C f R b e+bE C f R b e p):=by
 rw[←AY h (by nofun)];show(if 0≤_ then _ else _)=_;rw[WY (W8 _)];show sl R 0 _++_=_;unfold sl;rw[Z9,Nat.sub_zero];rfl
def Gq (x:PC (aY C) (hV C) f R b e):bB C f R b e p≤bE C f R b e p∧bF C f R b e+bE C f R b e p≤R.length∧1≤bF C f R b e∧bF C f R b e≤b:=by
 haveI k:=qV (rn:=aY C) (fd:=C) (f:=f) (sd:=aj (aY C) f R b e) (nat:=bA R (aj (aY C) f R b e)) (p:=p);haveI q:=fB x;have h:=x.sp;have m:=x.mid;refine⟨k.1,?_,h.1,?_⟩
 ·show(aj (aY C) f R b e).first+((bA R (aj (aY C) f R b e)).length-_)≤_
  exact(O6 0x8143089c2008831204c1818230c0a10860109030184419444108401) q h.2.1 h.2.2.1 h.2.2.2.1 m.1 m.2.1
 ·show(aj (aY C) f R b e).first≤b
  exact(bT 0x4041006020843008401) h.2.1 m.1
def Gr (h:dK C) (x:bP C R) (k:PC (aY C) (hV C) f R b e):eQ (bD C f R b e p)=true:=by haveI m:=tM h x k;exact xc fun a n=>(cw h.dI (m.h p)).2.2.1 a (Xb n)
set_option maxHeartbeats 1000000 in
theorem tO (n:dK C) (y:bP C R) (k:PC (aY C) (hV C) f R b e) {up:Bool} (i:co C up 0 R=some (b,e,j)) {q:Int} (a:1≤q) (c:q≤j.length):
  ∃pre post mid:List At,bD C f R b e (cu R (bF C f R b e) b+q.toNat)= .cI pre post mid∧ ∃text:ah,dt pre=text++tz (C f)∧text++dt post=dt mid∧
   mid.map Nd.one=sl R (bF C f R b e+bB C f R b e (cu R (bF C f R b e) b+q.toNat)) (bF C f R b e+bE C f R b e (cu R (bF C f R b e) b+q.toNat))∧
   ((R.take (bF C f R b e+bB C f R b e (cu R (bF C f R b e) b+q.toNat))).flatMap Nd.codes).length+text.length=((R.take b).flatMap Nd.codes).length+q.toNat∧
   mid.length=bE C f R b e (cu R (bF C f R b e) b+q.toNat)-bB C f R b e (cu R (bF C f R b e) b+q.toNat)∧dc (bD C f R b e (cu R (bF C f R b e) b+q.toNat)):=by
 have r:=tM n y k;have t:cu R (bF C f R b e) b+q.toNat≤(aj (aY C) f R b e).codes.length∧((R.take b).flatMap Nd.codes).length=((R.take (bF C f R b e)).flatMap Nd.codes).length+cu R (bF C f R b e) b:=Gj k i a c;haveI d:=zx k;have z:=k.sp;haveI o:=qV (rn:=aY C) (fd:=C) (f:=f) (sd:=aj (aY C) f R b e) (nat:=bA R (aj (aY C) f R b e)) (p:=cu R (bF C f R b e) b+q.toNat);have u:Lu (aY C) C f (aj (aY C) f R b e) (bA R (aj (aY C) f R b e)) (cu R (bF C f R b e) b+q.toNat):=by refine⟨d,fun x v=>?_,fun x v=>(cw n.dI (r.h _)).2.2.1 x v,(cw n.dI (r.h _)).2.1,(cw n.dI (r.t _)).2.1,t.1⟩;haveI:Nd.one x∈(bA R (aj (aY C) f R b e)).map Nd.one:=Xj.mpr ⟨x,v,rfl⟩;rw[dr k] at this;exact z.2.2.2.2 _ this
 have s:=RF u;have g:=fB k;refine⟨_,_,_,rfl,_,s.2.1,s.2.2,?_,?_,?_,?_⟩
 ·exact Gi k (Yt _ _)
 ·haveI B:R.take (bF C f R b e+bB C f R b e (cu R (bF C f R b e) b+q.toNat))=R.take (bF C f R b e)++((bA R (aj (aY C) f R b e)).take (bB C f R b e (cu R (bF C f R b e) b+q.toNat))).map Nd.one:=by
   rw[YB,dr k];unfold sl;rw[ZH,Yb (by show dG _ _ _ _ _ _≤_;exact(xQ 0x84481184019448118421b5a0108830084018444108401) o g)];exact List.take_add
  rw[B,Xs,WO,kF,WT,Xg,Yb t.1,t.2];haveI:=s.1;show((R.take (bF C f R b e)).flatMap Nd.codes).length+(dt ((bA R (aj (aY C) f R b e)).take (dG (aY C) C f (aj (aY C) f R b e) (bA R (aj (aY C) f R b e)) (cu R (bF C f R b e) b+q.toNat)))).length+(cu R (bF C f R b e) b+q.toNat-_)=((R.take (bF C f R b e)).flatMap Nd.codes).length+cu R (bF C f R b e) b+q.toNat;exact(ar 0x2505005008441844018280208600088308280208401 [_,_,_] [_]) s.1
 ·exact kE (Yt _ _)
 ·haveI D:(fZ (aY C) C f (aj (aY C) f R b e) (cu R (bF C f R b e) b+q.toNat)).length≤802:=(cw n.dI (r.h _)).2.2.2.2;haveI G:(dF (aY C) f (aj (aY C) f R b e) (cu R (bF C f R b e) b+q.toNat)).length≤802:=(cw n.dI (r.t _)).2.2.2.2;have w: ∀{l:List At},(∀x∈l,(Nd.one x).pass=true)→ ∀x∈l,FC x:=fun h x m=>by
   haveI:=h x m;induction x using At.casesOn<;>first|trivial|cases this
  refine⟨⟨w fun x m=>u.hp x (Xb m),?_⟩,⟨w fun x m=>(cw n.dI (r.t _)).2.2.1 x (Xm m),?_⟩,⟨w fun x m=>u.np x (Xb (Xm m)),?_⟩⟩
  ·rw[WT];exact(br 0x1040fe5884200c043c9401) D
  ·rw[Xg];exact(br 0x8207f2c801884200c043c9401) G
  ·show(sl _ _ _).length≤1000;rw[kE (Yt _ _)];haveI:=y.len;exact(xY 0x1040fe589431204418107c2843288c200883008401) z.2.2.2.1 g this
end
section
variable {d:Nat} {A:Fs} {f:Bool} {R:am} {b e:Nat}
def u5 (n:Nat) (v:V):Prop:= ∃d,toD n v=some d∧d.canLay0=true
theorem N6: ∀{p:aN},(∀v∈p,u5 n v)→ ∃k,toDs (toD n) p=some k∧PyData.canLayAll0 k=true
 |[],_=>⟨[],rfl,rfl⟩
 |v::r,h=>by
  obtain⟨x,s,t⟩:=h v (.head _);obtain⟨q,u,w⟩:=N6 fun v m=>h v (.tail _ m);refine⟨x::q,?_,?_⟩
  ·show(match toD n v with|some d=>(match toDs (toD n) r with|some k=>some (d::k)|none=>none)|none=>none)=_;rw[s,u]
  ·show(x.canLay0&&PyData.canLayAll0 q)=true;rw[t,w];rfl
def fF:u5 (n+1) (.int i):=⟨.int i,rfl,rfl⟩
def g7 (h: ∀v∈m,u5 n v):u5 (n+1) (.aG m):=by
 obtain⟨x,e,k⟩:=N6 h;refine⟨.tuple x,?_,k⟩
 show(match toDs (toD n) m with|some x=>some (PyData.tuple x)|none=>none)=_;rw[e]
def Lv (h: ∀v∈m,u5 n v):u5 (n+1) (.ap m):=by
 obtain⟨x,e,k⟩:=N6 h;refine⟨.list x,?_,k⟩
 show(match toDs (toD n) m with|some x=>some (PyData.list x)|none=>none)=_;rw[e]
def tP {α:Type} {g:α→V} {l:List α} (h: ∀a,u5 n (g a)): ∀v∈l.map g,u5 n v:=fun v m=>by obtain⟨a,_,rfl⟩:=Xj.mp m;exact h a
def zC: ∀v∈aq xs,u5 (n+1) v:=tP fun ξ=>fF
def dw (h:u5 n v) (k: ∀v∈r,u5 n v): ∀w∈v::r,u5 n w:=fun w m=>by
 cases m with
 |head=>exact h
 |tail _ m=>exact k w m
def n8: ∀v∈([]:aN),u5 n v:=fun v m=>nomatch m
def u6 (a:At):u5 (n+3) a.des:=by
 cases a with
 |kj f c h l r=>exact g7 (dw fF (dw fF (dw fF (dw (g7 zC) (dw fF (dw fF n8))))))
 |spec b=>exact g7 (dw fF (dw fF (dw (g7 (tP fun ξ=>fF)) n8)))
 |Fz v=>exact g7 (dw fF (dw fF n8))
 |_=>exact g7 (dw fF (dw fF (dw fF n8)))
def N7 (a:Nd):u5 (n+5) a.des:=by
 cases a with
 |one a=>exact u6 a
 |skip=>exact g7 (dw fF (dw (g7 (zC (xs:=[4,2,0,1,0]))) (dw fF (dw (g7 n8) n8))))
 |cI a b c=>exact g7 (dw fF (dw (g7 (tP u6)) (dw (g7 (tP u6)) (dw (g7 (tP u6)) n8))))
def oA (l:am):V:= .aG (l.map Nd.des)
def oX:u5 (n+6) (oA l):=g7 (tP N7)
def q9 (h:u5 12 v):Hm v v=some true:=by
 obtain⟨x,e,k⟩:=h
 show(match toD 12 v with|some a=>(match toD 12 v with|some b=>some (PyData.eqv a b)|none=>none)|none=>none)=_;rw[e];show some (PyData.eqv x x)=_;rw[PySem.SeqAt.eqv_refl _ k]
def u7:lp .ne (oA l) (oA l)=some false:=by show neg (Hm (oA l) (oA l))=_;rw[q9 (oX (n:=6))];rfl
def N8 (h:u5 12 (.ap x)):lp .ne (.ap x) (.ap x)=some false:=by show neg (Hm (.ap x) (.ap x))=_;rw[q9 h];rfl
def N9 (h:u5 12 (.ap vs)):lp .eq (.ap vs) (.ap vs)=some true:=by show(match(vs.length !=vs.length) with|true=>some false|false=>Hm (.ap vs) (.ap vs):Option Bool)=_;rw[bne_self_eq_false,q9 h]
def A4:lp .ne (.ap (aq h)) (.ap (aq h))=some false:=N8 (Lv zC)
def lP (x:dg) (W:kD):V:= .aG [.ref x.t,.bool W.up,.int W.l,.int W.r]
set_option tactic.hygienic true in
theorem lQ (y:lH A s t) {lo:V} (z:jT lo) (g:Trie W.T a) (n: ∀k r,c9 k W.T.exc=some r→r.length≤100) (i:tA s t A W m) (p:(cR s A W m (m.length+1) 0 true).length≤100000) (u:hU H x W.T)
  (q:Q (aB A (cR s A W m (m.length+1) 0 true)) H):Y2 (cx ab (d+16) 1053 [aB A m,lP x W,lo] H) Q:=by
 refine ao (fr:= %[aB A m,lP x W,lo|0]) BD rfl (r9 y z g (fun k r h=>WR (n k r h) (bM aw)) i ⟨fun w j=>?_,p⟩ u q);unfold cF.bm;split
 ·rename_i v l;exact WR (X6 _ _) (n _ _ l)
 ·refine WR (X6 _ _) ?_;rw[dY];exact(ar 0x1020c655467208be409424804919c802f9025091600c3e309401 [_] [_,_]) j
def rb (h x:ah):ah:=(nn (h.length+1)).filter fun p=>x.any fun e=>decide (e=p)
def lR (h:ah) (q:Int):cF:=⟨[],[],1,[(mC h,rb h [q])]⟩
def A5 (x:0≤q) (m:q≤h.length):rb h [q]=[q]:=by
 obtain⟨k,rfl⟩:=Int.eq_ofNat_of_zero_le x;unfold rb nn;haveI e:(List.range (h.length+1)).filter ((fun p=>[(k:Int)].any fun e=>decide (e=p))∘fun(k:Nat)=>(k:Int))=[k]:=by
  refine nC (Nat.lt_succ_of_le (Ye.mp m)) ?_ fun j ξ n=>?_
  ·show(decide ((k:Int)=(k:Int))||false)=true;rw[Bool.or_false];exact Xz rfl
  ·show(decide ((k:Int)=(j:Int))||false)=false;rw[Bool.or_false];exact Xw fun e=>n (Int.ofNat.inj e).symm
 rw[List.filter_map,e];rfl
def JU:c9 (mC h) (lR h q).exc=some (rb h [q]):=WY rfl
theorem xk {q l r:Int} (h:max 1 (min 63 l)≤q∧q≤x.length-max 1 (min 63 r)):(lR x q).bm x l r=[q]:=by unfold cF.bm;rw[JU,A5 (by exact(ar 0x9844025a719c842f9025091600845308a7200be409424 [_] [_,_,_]) h) (by exact(ar 0x135802115a719c842f9025091600845308a7200be409424 [_] [_,_,_]) h)];show List.filter _ [q]=_;rw[Yz,WY (by rwa[Xx,Zi,Zi])];rfl
def CS:Trie (lR k q) fun ξ=>0:=⟨rfl,(fun s l t ξ ξ ξ h=>by exact bH h),(fun t x h=>by exact bH h)⟩
theorem JV (n:dK A) (p:bP A R) (s:PC (aY A) (hV A) f R b e) {k:ah} {up:Bool} (y:co A up 0 R=some (b,e,k)) {q l r:Int} (z:max 1 (min 63 l)≤q∧q≤k.length-max 1 (min 63 r)):
  cR (aY A) A ⟨lR k q,up,l,r⟩ R (R.length+1) 0 true=R.take (bF A f R b e+bB A f R b e (cu R (bF A f R b e) b+q.toNat))++bD A f R b e (cu R (bF A f R b e) b+q.toNat)::R.drop (bF A f R b e+bE A f R b e (cu R (bF A f R b e) b+q.toNat))∧
  tA (aY A) (hV A) A ⟨lR k q,up,l,r⟩ R:=by
 have t:([]:am)++[R].flatten=R:=by simp
 have u: ∀P∈[R],eN A P:=fun P m=>by rw[WZ] at m;subst m;exact .inl p
 have h:zB []:=⟨fun x m=>(nomatch m),fun x m=>(nomatch m)⟩;haveI v:=kc (W:=⟨lR k q,up,l,r⟩) n h u;haveI w:=q8 (W:=⟨lR k q,up,l,r⟩) n h u (by rw[t];exact W9 p.len (bM aw));rw[t] at v w;refine⟨?_,w⟩;obtain⟨g,i,j⟩:=s.nd;haveI a:cj A ⟨lR k q,up,l,r⟩ R 0 .skip true=some (f,b,e,[q]):=by
  unfold cj;rw[WY ⟨rfl,rfl⟩]
  show(match co A up 0 R with|none=>none|some (b,e,c)=>_)=_;rw[y];show(if(lR k q).bm k l r=[] then none else Option.map _ (R[b]?.bind Nd.gl))=_;rw[xk z,WX (by nofun),i];show Option.map _ g.gl=_;rw[j];rfl
 rw[v];show aR (aY A) A ⟨lR k q,up,l,r⟩ true R++[]=_;rw[Xe,i4 a];exact A3 s
end
section
variable {d:Nat} {H:Hp} {b e:Nat}
def Gs {n:Nat} (h:x∈nn n): ∃k:Nat,x=(k:Int)∧k<n:=by unfold nn at h;obtain⟨k,m,rfl⟩:=Xj.mp h;exact⟨k,rfl,List.mem_range.mp m⟩
def RI (h:Fs) (f:Bool) (R C:am) (b e:Nat) (x:ah) (q:Int) (k lo m:V) (r:Fr):Fr:= .c (aB h R) (.c (CI (b,e,x)) (.c (.int q) (.c k (.c lo (.c m (.c (aJ (h f)) (.c (aB h C) r)))))))
theorem Gu (w:d3 t) {h:Nat} {q:Int} {lo:V} (y: ∀x∈C,dc x) (g: ∀x∈R,dc x) (u:C.length≤10000) (p:R.length≤10000) (c:(nn C.length).filter (tN C)=[(h:Int)]) (i:cv C=R)
  (k:MB ab (cx ab (d+17)) r bn [] (RI t f R C b e ls q o lo A %[.ap (aq [(h:Int)])|6]) H B):
  MB ab (cx ab (d+17)) (.asg (.name 8) (.comp (.af 14) 14 (.call (.ae 9) [.call (.ae 0) [.af 7]]) (some (.call (.ae 34) [.bp (.af 7) (.af 14)]))):: .bs (.ay false [.aE (.call (.ae 0) [.af 8]) .ne (.int 1),.aE (.call (.ae 14) [.call (.ae 18) [.af 7]]) .ne (.call (.ae 14) [.af 0])]) [.ret (some .none)] []::r) bn []
   (RI t f R C b e ls q o lo A (.u (.u (.u (.u (.u (.u (.u .e)))))))) H B:=by
 have l:(((C.map (bU t)).length:Nat):Int)=(C.length:Nat):=by rw[cr]
 refine au (by rw[l];exact iV (W9 u (bM aw))) ?_;rw[l];show nL _ _ _ ((dP 0 ((C.length:Nat):Int)).map V.int) _ _ _;rw[wM];refine gj V.int V.int (tN C) _ (fun z m G v=>?_) ⟨iX (n:=10000) (by unfold nn;rwa[WP,Zj]) (bM aw),?_⟩
 ·obtain⟨j,rfl,a⟩:=Gs m;have s:=WS a;haveI D:=y _ (Yh a);haveI en:tN C (j:Int)=eQ C[j]:=by unfold tN;rw[X9,s];rfl
  rw[en] at v;refine dJ s ?_;refine tC D ?_;exact gy (v _).1 (v _).2
 ·rw[c];refine uY y (by rw[i];exact WR p (bM aw)) ?_;rw[i];refine qp w g (WR p (bM aw)) ?_;refine qp w g (WR p (bM aw)) ?_;refine bj u7 ?_;exact k
def ke (h:(dt as).length≤100000) (q:Q (.ap (aq (dt as))) H):Y2 (cx ab (d+1) 1034 [gh x as] H) Q:=by rw[kB];exact i3 (by rwa[kF]) (by rwa[kF])
def JW:(((aq (x++y)).length:Nat):Int)-(((aq y).length:Nat):Int)=(x.length:Nat):=by rw[aA,aA,WO,Zt,Zw]
theorem Gv {h:Nat} {q:Int} {lo:V} {u:cy} {text:ah} (t1:dt pre=text++m) (i:text++dt post=dt mid) (j:(dt mid).length≤20) (a:m.length≤1)
  (c:o= .ap (aq [(h:Int)])) (A:B=bU p (.cI pre post mid)) (v:w= .ap (aq m)) (D:(R.flatMap Nd.codes).length≤20) (y:h<1000000) (G:b<1000000) (r:((R.take h).flatMap Nd.codes).length+text.length=((R.take b).flatMap Nd.codes).length+q.toNat) (I:0≤q)
  (k: ∀J,u (.ret (.aG [.int h,bU p (.cI pre post mid)])) J H):
  MB ab (cx ab (d+17)) (ew.body.drop 7) bn [] (RI p f R C b e L q N lo O %[o,B,w|4]) H u:=by
 subst c A v;have x:=j;rw[←i,WO] at x;refine ke (as:=pre) (by rw[t1,WO];exact(bT 0x4003a94251960008430a0e020843008c01) a x) ?_;refine ke (as:=post) (by exact(br 0x4003a9425194218507008401) x) ?_;rw[t1];show MB ab (cx ab (d+17)) (ew.body.drop 9) bn [] (RI p f R C b e L q N lo O %[.ap (aq [(h:Int)]),bU p (.cI pre post mid),.ap (aq m),.ap (aq (text++m)),.ap (aq (dt post)),.int ((((aq (text++m)).length:Nat):Int)-(((aq m).length:Nat):Int))|1]) H u;rw[JW];have s:text.length<1000000:=by exact(br 0x440391605f14018507008401) x
 refine jZ (g:=V.int) (xs:=text++m) s ?_;rw[YX];refine bj A4 ?_;refine qG (g:=V.int) (xs:=text++m) s ?_;rw[List.take_left];refine au (by rw[WP,aA];exact WR x (bM aw)) ?_;refine ke (as:=mid) (WR j (bM aw)) ?_;haveI U:text.map V.int++aq (dt post)=aq (dt mid):=by rw[←i];exact WU.symm
 rw[U];refine bj A4 ?_;have l: ∀n,((R.take n).flatMap Nd.codes).length≤20:=fun n=>by
  refine WR ?_ D
  conv=>rhs;rw[←XC n R,Xs,WO]
  exact Yo ..
 refine qG (g:=bU p) (xs:=R) y ?_;refine i3 (as:=R.take h) (WR (l _) (bM aw)) ?_;refine qG (g:=bU p) (xs:=R) G ?_;refine i3 (as:=R.take b) (WR (l _) (bM aw)) ?_;refine qk (fun eo=>absurd ?_ eo) fun ξ=>?_
 ·rw[aA,aA];exact(ar 0x560012c4182c215803300804941401083008401 [_,_,_] [_]) r I
 ·exact k _
theorem xl {x:dg} {w:ah} {q:Int} (n: ∀c∈w,1≤c∧c≤255) (h:w≠[]) (r:w.length≤63) (s:0≤q∧q≤w.length) (k:Q .none (d9 x (lR w q) H)):Y2 (cx ab (d+3) 959 [.ref x.t,.ap (aq w),.ap [.int q]] (d9 x iY H)) Q:=by refine ix (w:=w) (ps:=[q]) qA rfl n h r (fun p m=>by rw[WZ] at m;subst m;exact s) ?_;haveI t:cz (d9 x iY H) x.c (jU [(mC w,rb w [q])])=d9 x (lR w q) H:=b7;exact t▸k
@[reducible] def JX (d : Nat) (H : Hp) (Q : V → Hp → Prop) (fd : Fs) (f : Bool) (R : am) (b e : Nat) (lo : V) (h : ah) (up : Bool) (q l r : Int) (m : V) : Prop := ∀ (p : dK fd) (s : jT lo) (t : bP fd R) (n : ∀ x ∈ R, dc x) (u : co fd up 0 R = some (b, e, h)) (v : PC (aY fd) (hV fd) f R b e) (w : max 1 (min 63 l) ≤ q ∧ q ≤ h.length - max 1 (min 63 r)) (k : Q (.aG [.int ((bF fd f R b e + bB fd f R b e (cu R (bF fd f R b e) b + q.toNat) : Nat) : Int), bU fd (bD fd f R b e (cu R (bF fd f R b e) b + q.toNat))]) H), Y2 (cx ab (d+18) 1058 [aB fd R, CI (b, e, h), .int q, .aG [m, .bool up, .int l, .int r], lo] H) Q
abbrev JY:List Type:=[Nat,Hp,V→Hp→Prop,Fs,Bool,am,Nat,Nat,V,ah,Bool,Int,Int,Int,V]
def RJ:=eV JY JX ⟨nI,Ab,nI,Hu,nI,nI,nI,nI,nV,nI,nI,nI,nI,nI,nV,trivial⟩
theorem Vq:eU JY JX RJ:=by
 injections RJ d H Q n f R b e lo v up q l r O;change JX d H Q n f R b e lo v up q l r O;intro g hL z j U i hq k;refine ao (fr:= %[aB n R,CI (b,e,v),.int q,.aG [O,.bool up,.int l,.int r],lo|10]) uf rfl ?_;obtain⟨hf,f',w⟩:=c6 U;obtain⟨nd,k1,k2⟩:=i.nd;haveI Y:=i.blt;have u:1≤q∧q≤v.length:=by exact(ar 0x5a6b004229844125a719c842f9025091600845308a7200be409424 [_] [_,_,_]) hq
 obtain⟨pre,post,mid,ed,text,t1,t2,t3,t4,t5,t6⟩:=tO g z i U u.1 u.2;haveI ol:=Gq i (p:=cu R (bF n f R b e) b+q.toNat);haveI J:=Gr g z i (p:=cu R (bF n f R b e) b+q.toNat);have ho:=JV g z i U hq;have y:=z.len;haveI fl:cv (R.take (bF n f R b e+bB n f R b e (cu R (bF n f R b e) b+q.toNat))++bD n f R b e (cu R (bF n f R b e) b+q.toNat)::R.drop (bF n f R b e+bE n f R b e (cu R (bF n f R b e) b+q.toNat)))=R:=by rw[←A3 i];exact qW (ps:=[q]) i z.new fun p a ha=>(cw g.dI ((tM g z i).h p)).2.2.1 a ha
 refine mH fun x hx=>?_;refine dJ k1 ?_;refine oT k2 ?_;refine cf qA.tt ?_;refine xl (w:=v) (fun c m=>by haveI:=w.low c m;exact(cU 0xb4fe4394029804125a6420ca014c0209065) this) w.ne w.fJ (by exact(ar 0xb4d600805300804b4d600805300824 [_] [_]) u) ?_;generalize cu R (bF n f R b e) b+q.toNat=p at*;generalize o:bF n f R b e+bB n f R b e p=s at*;have L:s≤R.length:=by exact(xY 0x4061286450c001106d6b40811060208470186010883008401) ol o
 refine lQ (W:=⟨lR v q,up,l,r⟩) (zy g.dI g.Cz g.num) hL CS (fun k r h=>?_) ho.2 ?_ qA ?_
 ·have h:(if mC v=k then some (rb v [q]) else none)=some r:=h;split at h
  ·obtain rfl:=dL h;rw[A5 (by exact(ar 0x1300804b4d600805300824 [_] [_]) u) u.2];exact(by exact bM aw:1≤100)
  ·exact bH h
 ·rw[ho.1,WO,W0,Xg,WT];exact(fH 0x1000ea509465840238c06110401900210c083e1401) y
 ·rw[ho.1];have D:(R.take s).length=s:=List.length_take_of_le L;haveI t:=CR (A:=R.take s) (B:=R.drop (bF n f R b e+bE n f R b e p)) (fun a m=>z.new a (Xm m)) J (fun a m=>z.new a (Xb m));rw[D] at t;haveI an:(R.take s++bD n f R b e p::R.drop (bF n f R b e+bE n f R b e p))[s]?=some (bD n f R b e p):=by rw[Xn (by rw[D];exact Xl _),D,YE];rfl
  haveI N: ∀x∈R.take s++bD n f R b e p::R.drop (bF n f R b e+bE n f R b e p),dc x:=fun x m=>by
   rcases W6.mp m with m|m
   ·exact j x (Xm m)
   ·rcases Xa.mp m with rfl|m
    ·exact t6
    ·exact j x (Xb m)
  haveI hb:(R.take s++bD n f R b e p::R.drop (bF n f R b e+bE n f R b e p)).length≤10000:=by rw[WO,W0,Xg,WT];exact(fH 0x4203c1525840238c06110401900210c083e1401) y
  generalize R.take s++bD n f R b e p::R.drop (bF n f R b e+bE n f R b e p)=C at*;refine Gu (b:=b) (e:=e) (ls:=v) (q:=q) g.num N j hb (by exact(bC 0x840782a4a00c083e1401) y) t fl ?_;haveI cm:(dt mid).length≤20:=by rw[←kF,t3];exact WR mS z.fJ
  haveI hc:=AW (F:=n f);rw[ed] at an k;refine dJ an ?_;refine yY ?_;have G: ∀I,I= .ap (aq (tz (n f)))→MB ab (cx ab (d+17)) (ew.body.drop 7) bn [] (RI n f R C b e v q (.aG [O,.bool up,.int l,.int r]) lo (.ref x.t) %[.ap (aq [(s:Int)]),bU n (.cI pre post mid),I|4]) (d9 x (lR v q) H) (cp (some 1) H Q):=fun I he=>Gv t1 t2 cm hc rfl rfl he z.fJ (by exact(br 0x440391605f1421800210c083e1401) y L) (by exact(br 0x440391605f14018107c2843108401) Y y) t4 (by exact(ar 0x1300804b4d600805300824 [_] [_]) u) fun fr=>⟨d9 x (lR v q) .e,H,rfl,k⟩
  unfold tz at G;refine gy (fun h=>?_) fun h=>?_
  ·exact G _ (by rw[WY h];rfl)
  ·exact G _ (by rw[WX (by rw[h];exact W5)];rfl)
def CT:eB JY JX:=eA JY Vq
end
structure u8 (fd:Fs) (R:am) (up:Bool) (l r:Int) (f:Bool) (b e:Nat) (ls ps:ah):Prop where
 ws:co fd up 0 R=some (b,e,ls)
 pt: ∀q∈ps,max 1 (min 63 l)≤q∧q≤ls.length-max 1 (min 63 r)
 pc:PC (aY fd) (hV fd) f R b e
def Hx (h:Fs) (f:Bool) (R:am) (b e:Nat) (x:ah) (k:Nat):am:=mg (aY h) h R f b e (x.map fun q=>cu R (bF h f R b e) b+q.toNat) k
def Vr (h:Fs) (R:am) (e x lo:V) (s:Nat×am):Fr:= %[aB h R,e,_,x,lo,aB h s.2,.int s.1|4]
structure Vs (fd:Fs) (f:Bool) (R:am) (b e:Nat) (ps ps':ah) (s:Nat×am):Prop where
 dn:s.1≤R.length
 fJ:s.2.length+1000*ps'.length≤1000*ps.length
 sub: ∀q∈ps',q∈ps
 eq:s.2++Hx fd f R b e ps' s.1=Hx fd f R b e ps 0
@[reducible] def JZ (d : Nat) (H : Hp) (fd : Fs) (f : Bool) (R : am) (b e : Nat) (lo : V) (up : Bool) (l r : Int) (n : V) (m ps k : ah) (q : Int) (p : cy) : Prop := ∀ {s : Nat × am} (v : dK fd) (y : jT lo) (z : bP fd R) (t : ∀ x ∈ R, dc x) (u : ps.length ≤ 100) (w : u8 fd R up l r f b e m ps) (h : Vs fd f R b e ps (q :: k) s), MA ab (cx ab (d+18)) (.name 7) (MB ab (cx ab (d+18)) (match iJ.body with
   |[_,.cA _ _ b _ _,_]=>b
   |_=>[]) bn) [.int q] (Vr fd R (CI (b,e,m)) (.aG [n,.bool up,.int l,.int r]) lo s) H
   (dT [2,7,8,9,10] (Lo (Vr fd R (CI (b,e,m)) (.aG [n,.bool up,.int l,.int r]) lo) (fun ξ=>H) (Vs fd f R b e ps k)) p)
abbrev J0:List Type:=[Nat,Hp,Fs,Bool,am,Nat,Nat,V,Bool,Int,Int,V,ah,ah,ah,Int,cy]
def RK:=eV J0 JZ ⟨nI,Ab,Hu,nI,nI,nI,nI,nV,nI,nI,nI,nV,nI,nI,nI,nI,nI,trivial⟩
theorem Vt:eU J0 JZ RK:=by
 injections RK d H n f R b e lo up l r L N C y q Y;change JZ d H n f R b e lo up l r L N C y q Y;intro s O hL D G B w h;obtain⟨v,u⟩:=s;have I:=w.pt q (h.sub q (.head _));have j:=D.len;have J:=Gq w.pc (p:=cu R (bF n f R b e) b+q.toNat);obtain⟨pre,post,mid,U,text,t1,t2,t3,t4,t5,t6⟩:=tO O D w.pc w.ws (q:=q) (by exact(ar 0x9844125a719c842f9025091600845308a7200be409424 [_] [_,_,_]) I) (by exact(ar 0x135802115a719c842f9025091600845308a7200be409424 [_] [_,_,_]) I);have o:=h.eq
 replace o:u++(if v≤bF n f R b e+bB n f R b e (cu R (bF n f R b e) b+q.toNat) then
      sl R v (bF n f R b e+bB n f R b e (cu R (bF n f R b e) b+q.toNat))++bD n f R b e (cu R (bF n f R b e) b+q.toNat)::
       Hx n f R b e y (bF n f R b e+bE n f R b e (cu R (bF n f R b e) b+q.toNat))
      else Hx n f R b e y v)=Hx n f R b e C 0:=o
 haveI A:=h.fJ;rw[W0] at A;change u.length+1000*(y.length+1)≤1000*C.length at A;have i: ∀q∈y,q∈C:=fun x m=>h.sub x (.tail _ m);haveI a:=h.dn;change v≤R.length at a;clear h;refine CT O hL D G w.ws w.pc I ?_;generalize cu R (bF n f R b e) b+q.toNat=p at*;generalize z:bF n f R b e+bB n f R b e p=t at*;refine bV (fun g=>?_) fun g=>?_
 ·replace g:v≤t:=Ye.mp g;rw[WY g] at o;refine mJ (by exact(br 0x440391605f1421800210c083e1401) j a) (by exact(xY 0x880722c0be294322860108c36b5a0408c30184238003010461808210c083e1401) j J z) ?_;have c:(sl R v t).length≤900:=WR qD j;refine au (by show(u.map (bU n)).length+((sl R v t).map (bU n)).length≤bz;rw[WP,WP];unfold bz;exact(fH 0x1000e45817c580c210c083e146182105f940182105f9601188210c08319401) B A c) ?_;refine au (by show(u.map (bU n)++(sl R v t).map (bU n)).length+1≤bz;rw[WO,WP,WP];unfold bz;exact(fH 0x800722c0be2c02380c210c083e146182105f940182105f9601188210c08319401) B A c) ?_;rw[U];haveI ea:u.map (bU n)++(sl R v t).map (bU n)++[bU n (.cI pre post mid)]=(u++(sl R v t++[bD n f R b e p])).map (bU n):=by
   rw[U,WU,WU,WW];rfl
  haveI ei:((t:Nat):Int)+(((mid.map (jO n)).length:Nat):Int)=((bF n f R b e+bE n f R b e p:Nat):Int):=by rw[WP,t5];exact(xY 0x55700844182e200842b286450c001106d6b40811060208470186010883008401) J z
  show Lo _ _ _ %[aB n R,CI (b,e,N),_,.aG [L,.bool up,.int l,.int r],lo,.ap (u.map (bU n)++(sl R v t).map (bU n)++[bU n (.cI pre post mid)]),.int (((t:Nat):Int)+(((mid.map (jO n)).length:Nat):Int))|4] H;rw[ea,ei];exact .mk (bF n f R b e+bE n f R b e p,u++(sl R v t++[bD n f R b e p])) ⟨J.2.1,by show(u++(_++[_])).length+_≤_;rw[WO,WO,XR];exact(fH 0x82105f944182105f942184023184018107c28c30420bf28830420bf2c02308401) A c,i,by rw[WW,WW];exact o⟩
 ·rw[WX fun k=>g (Ye.mpr k)] at o;exact .mk (v,u) ⟨a,by show u.length+_≤_;exact(bT 0x41082fca20c1082fca108030420bf28830420bf2c02308401) A,i,o⟩
def J1:eB J0 JZ:=eA J0 Vt
def tQ (a:dK n) {lo:V} (c:jT lo) (i:bP n R) (u: ∀x∈R,dc x) {up:Bool} (p:ps.length≤100) (o:ps=[]∨ ∃v,y=CI (b,e,v)∧u8 n R up l r f b e v ps) (k:Q (aB n (Hx n f R b e ps 0)) H):
  Y2 (cx ab (d+19) 1065 [aB n R,y,.ap (aq ps),.aG [j,.bool up,.int l,.int r],lo] H) Q:=by
 refine ao (fr:= %[aB n R,y,.ap (aq ps),.aG [j,.bool up,.int l,.int r],lo|6]) ug rfl ?_;refine bL V.int (Vr n R y (.aG [j,.bool up,.int l,.int r]) lo) (fun ξ=>H) (Vs n f R b e ps) (fun s h=>?_) (fun q A s h=>?_) ps (0,[]) ⟨W8 _,by show 0+_≤_;exact(bC 0x208417e500608417e500403),fun q m=>m,rfl⟩
 ·have t:=i.len;haveI z:=h.dn;haveI B:=h.fJ;refine jZ (g:=bU n) (xs:=R) ((br 0x440391605f1421800210c083e1401) t z) ?_;refine au (by rw[WP,WP,WT];unfold bz;exact(fH 0x800722c0be2c223084220c1082fca00c003106041f0a10c08319401) p t B) ?_;haveI e:s.2.map (bU n)++(R.drop s.1).map (bU n)=(Hx n f R b e ps 0).map (bU n):=by rw[←WU,←h.eq];rfl
  rw[e];exact k
 ·rcases o with rfl|⟨v,rfl,w⟩
  ·exact nomatch h.sub q (.head _)
  ·exact J1 a c i u p w h
def Lw (x y z:Int):Ob:= .list [.int x,.int y,.int z]
def gK (n:Nat) (o:Ob):Prop:= ∃x y z:Int,o=Lw x y z∧0≤x∧0≤y∧y≤n∧0≤z∧z<2000000
def gK.le (h:gK n o) (k:n≤m):gK m o:=let⟨x,y,z,e,a,b,c,r⟩:=h;⟨x,y,z,e,a,b,Int.le_trans c (Ye.mpr k),r⟩
structure dx (b:Nat) (X:Ob→Hp):Prop where
 get: ∀o,an (X o) b=some o
 set: ∀o o',cz (X o) b o'=X o'
 RL: ∀c o o',c≠b→an (X o) c=an (X o') c
def dx.new:dx b (fun o=> .c b o H):=⟨fun ξ=>ba,fun ξ ξ=>b7,fun c o e h=>by rw[aD h.symm,aD h.symm]⟩
def dx.ne {b:Nat} {X:Ob→Hp} (h:dx b X) (k:an (X o) a=none):a≠b:=fun e=>by rw[e,h.get] at k;exact ph k
def dx.cons {X:Ob→Hp} (h:dx b X) (k:an (X o) a=none):dx b (fun o=> .c a l (X o)):=
 ⟨fun o=>(aD (h.ne k)).trans (h.get o),fun o x=>(b8 (h.ne k)).trans (W4 _ (h.set o x)),fun c o x m=>by
  by_cases e:a=c
  ·subst e;rw[ba,ba]
  ·rw[aD e,aD e,h.RL c o x m]⟩
def dx.lS {X:Ob→Hp} (h:dx b X) (k:an (X o) a=none):an (X o') a=none:=(h.RL a o' o (h.ne k)).trans k
def a5 {X:Ob→Hp} (s:dx b X) (h:gK n o) (k:0<many∧many<1000) (a:n<1000000) (q: ∀(r:Int) v,0≤r→r<many→gK (n+1) v→Q (.int r) (X v)):Y2 (cx ab (d+1) 998 [.ref b,.int many] (X o)) Q:=by
 obtain⟨x,y,z,c,i,t,m,u,p⟩:=h;subst c;refine ao (fr:= %[.ref b,.int many|2]) x9 rfl ?_;have g:=s.get;refine ql (g _) (bV (fun j=>?_) fun ξ=>?_)
 ·refine ql (g _) (au k.1 ?_);refine ql (g _) (au ⟨k.1,by exact(cU 0x440301405014050140501405014050160558056a209f2805400804) k⟩ ?_);refine ql (g _) ((W4 (Q (.int (x%many))) (s.set _ (Lw (x/many) y z))).mpr ?_);exact q _ _ (Zc _ ((cU 0x22a020056a209f2805400804) k)) (YI _ k.1) ⟨_,_,_,rfl,Int.ediv_nonneg i ((cU 0x26010096a209f2805400804) k),t,by exact(ar 0x4d7008c0100a6b00402 [_] [_]) m,u,p⟩
 ·refine ql (g _) (ql (g _) ?_);have e:cz (X (Lw x y z)) b (Lw x (y+1) z)=X (Lw x (y+1) z):=s.set _ _;have l:an (cz (X (Lw x y z)) b (Lw x (y+1) z)) b=some (Lw x (y+1) z):=by rw[e];exact g _
  refine ql l (ql l ?_);refine au ⟨by exact aU aw,by exact aU aw,by exact(ar 0x220180a0280a0280a0280a0280a0280b02ae17244b32c11f2f4a62c02400822a0084284bd284a114c220126b00402980402440391605f1401 [_] [_,_]) a t m u p⟩ ?_;generalize (z+7103*(y+1)+20023)^Int.toNat 5=w;haveI A:0≤w%2147483647:=Zc _ (aU aw);haveI B:w%2147483647<2147483647:=YI _ (aU aw);refine au (.inl ((O7 0x1100c0501405014050140501405014058156015ad4f93e5f97e5f97e509402980402544280048f97e5f97e5f97e509422) (dZ _ 2147483647))) (au k.1 ?_);exact(W4 (Q (.int _)) e).mpr (q _ _ (Zc _ ((cU 0x22a020056a209f2805400804) k)) (YI _ k.1) ⟨_,_,_,rfl,i,by exact(cU 0x13804801009300804) t,by exact(ar 0x26b804600c02400a6b00402 [_] [_]) m,u,p⟩)
section
variable {d:Nat}
def zD (i:Int):0≤(if i<0 then-i else i):=by split<;>lia
def A6 (q: ∀b o,an H b=none→gK 0 o→Q (.ref b) (.c b o H)):
  MB ab (cx ab d) (m8.body.drop 1) bn [] (.c e (.c x (.c (.int v) (.u .e)))) H (cp none H Q):=by
 intro b h;exact q b _ h ⟨_,_,_,rfl,zD v,Zy _,Zy _,Zc _ (aU aw),Int.lt_trans (YI _ (aU aw)) (aU aw)⟩
theorem rc {i:Nat} (n:k.length≤1000) (q: ∀b o,an H b=none→gK 0 o→Q (.ref b) (.c b o H)):Y2 (cx ab (d+1) 991 [.ap (aq k),.int i] H) Q:=by
 refine ao (fr:= %[.ap (aq k),.int i|2]) BC rfl ?_;refine bV (fun h=>?_) fun h=>?_
 ·rw[aA] at h;have p:i<k.length:=XG.mp h;refine fY (v:= .int k[i]) (cq (by rwa[aA])) (by unfold aq;rw[Xk,WS p];rfl) ?_;exact A6 q
 ·refine cX V.int (fun x=>V.int (if x<0 then-x else x)) k (fun x m u r=>r _) ⟨by rw[WP];exact WR n (bM aw),?_⟩;haveI e:k.map (fun x=>V.int (if x<0 then-x else x))=aq (k.map fun x=>if x<0 then-x else x):=by unfold aq;rw[XW];rfl
  haveI s:hE .sum [.ap (k.map fun x=>V.int (if x<0 then-x else x))]=some (.int (k.map fun x=>if x<0 then-x else x).sum):=by
   rw[e]
   show(match eu (aq (k.map fun x=>if x<0 then-x else x)) with|some i=>some (V.int i)|none=>none)=_;rw[zq]
  refine bj s ?_;refine au (.inr (bM aw)) ?_;exact A6 q
end
section
variable {fd:Fs}
def xn (q:Q (jO fd (.spec [115])) H):Y2 (cx ab (d+3) 628 [.bytes [115]] H) Q:=by
 refine cD sG.2 sG.1 rfl fun b h=>?_;refine ao (fr:= %[(_),.bytes [115]|1]) rO rfl (fe (fun n:Nat=>V.int n) [115] ?_ fun x m R r=>?_)
 ·exact aP rfl (jP rfl q)
 ·rw[WZ] at m;subst m;exact aV (aU aw) r
def Gw (q:Q wz H):Y2 (cx ab (d+4) 256 [.int 4,.int 2,.int 0,.int 1] H) Q:=by refine cD DP.2 DP.1 rfl fun b h=>?_;refine ao (fr:= %[(_),.int 4,.int 2,.int 0,.int 1,.int 0|0]) yl rfl (aV (aU aw) (aV (aU aw) ?_));refine dH (aU aw) (aP rfl ?_);refine dH (aU aw) (aP rfl ?_);refine aP rfl (dH (aU aw) (aP rfl ?_));exact aP rfl (jP rfl q)
def Gx (q:Q (bU fd .skip) H):Y2 (cx ab (d+3) 544 [wz,.int 0] H) Q:=by refine cD DM.2 DM.1 rfl fun b h=>?_;refine ao (fr:= %[(_),wz,.int 0,.none|0]) yk rfl (aV (aU aw) ?_);exact aP rfl (aP rfl (aP rfl (jP rfl q)))
def CU (h: ∀T,fg 1 T v=v) (q:Q (.inst 880 [27] [v]) H):Y2 (cx ab (d+2) 880 [v] H) Q:=by refine cD md.2 md.1 rfl fun b e=>?_;refine ao (fr:= %[(_),v|0]) m' rfl ?_;exact aP rfl (jP (by show [fg 1 _ v]=_;rw[h]) q)
def eh (l:am):Prop:=l=[]∨ ∃x,l=[x]∧(x= .one (.Fz 50)∨x= .one (.cJ 700 1)∨(∃h,x= .one (.lD h 0))∨x= .one (.spec [115])∨x= .cI [.cJ 77 1] [] [])
def re {X:Ob→Hp} (p:dx b X) (h:gK n o) (u:0<many∧many<1000) (v:n+1<1000000)
  (q: ∀(l:am) s,eh l→gK (n+2) s→Q (aB fd l) (X s)):Y2 (cx ab (d+5) 1022 [.ref b,.int many] (X o)) Q:=by
 refine ao (fr:= %[.ref b,.int many|1]) rH rfl (a5 p h u (Xq (by assumption)) fun r z g i t=>?_);refine bV (fun ξ=>?_) fun ξ=>?_
 ·exact q [] _ (.inl rfl) (t.le (YF _))
 refine a5 p t (aU aw) v fun w j f A k=>?_;refine bQ (fun e=>?_) fun ξ=>?_
 ·exact Ji (fd:=fd) (aU aw) (q _ _ (.inr ⟨_,rfl,.inl rfl⟩) k)
 refine bQ (fun e=>?_) fun ξ=>?_
 ·exact jQ (fd:=fd) (aU aw) (aU aw) (q _ _ (.inr ⟨_,rfl,.inr (.inl rfl)⟩) k)
 refine bV (fun e=>?_) fun ξ=>?_
 ·exact wB (fd:=fd) (aU aw) (q _ _ (.inr ⟨_,rfl,.inr (.inr (.inl ⟨_,rfl⟩))⟩) k)
 refine bQ (fun e=>?_) fun ξ=>?_
 ·exact xn (fd:=fd) (q _ _ (.inr ⟨_,rfl,.inr (.inr (.inr (.inl rfl)))⟩) k)
 refine jQ (fd:=fd) (aU aw) (aU aw) (wT (fd:=fd) (a:=[.cJ 77 1]) (b:=[]) (c:=[]) (fun x m=>?_) (fun ξ m=>nomatch m) (fun ξ m=>nomatch m) ?_)
 ·rw[WZ] at m;subst m;exact(aU aw:(5:Int)≤5)
 ·exact q _ _ (.inr ⟨_,rfl,.inr (.inr (.inr (.inr rfl)))⟩) k
end
abbrev Rw:=Int×Int×Int×Int
def vp (x:Rw):V:= .aG [.int x.1,.int x.2.1,.int x.2.2.1,.int x.2.2.2]
structure rf (x:Rw):Prop where
 s:x.1=0∨x.1=128
 n:x.2.1∈[97,98,99,45,(33:Int)]
 o:(x.2.2.1=128∧0≤x.2.2.2∧x.2.2.2<3)∨(x.2.2.1∈[0,1,2,3,5,6,7,(11:Int)]∧1≤x.2.2.2∧x.2.2.2≤3)
structure kf (rs:List Rw):Prop where
 ne:rs≠[]
 len:rs.length≤2
 ok: ∀x∈rs,rf x
 last: ∀x,rs.getLast?=some x→x.1=128
def gM {R:V→Prop} (h:0≤k∧k<xs.length) (q: ∀x∈xs,R (.int x)):Y1 (fK (.ap (aq xs)) (.int k)) R:=by
 have e:k.toNat<xs.length:=by exact(ar 0x2200a802b51600805300804 [_] [_]) h
 refine fY (j:=k.toNat) (v:= .int xs[k.toNat]) ?_ ?_ (q _ (Yh e))
 ·rw[aA];unfold place;rw[WY h.1,WY h.2]
 ·unfold aq;rw[Xk,WS e];rfl
abbrev Vu:=aN×Ob
def V9 (b a:Nat) (h:Int) (s:Vu):Fr:= %[.ref b,.ref a,.int h|4]
def V' (a:Nat) (X:Ob→Hp) (s:Vu):Hp:= .c a (.list s.1) (X s.2)
structure RM (n:Nat) (many:Int) (xs:ah) (s:Vu) (rs:List Rw):Prop where
 v:s.1=rs.map vp
 x:xs=dP rs.length many
 l:rs.length≤many
 ok: ∀x∈rs,rf x
 last:rs.length=many→ ∀x,rs.getLast?=some x→x.1=128
 o:gK (n+1+4*rs.length) s.2
def Gy (h:RM n k (x::z) (w,o) q) (g:rf (s,c,p,r)) (i:x=k-1→s=128) (j:gK (n+1+4*q.length+4) l):
  RM n k z (w++[.aG [.int s,.int c,.int p,.int r]],l) (q++[(s,c,p,r)]):=by
 obtain⟨d,a,b⟩:=jN h.x.symm;have t:(q++[(s,c,p,r)]).length=q.length+1:=WO;haveI v:=h.v;refine⟨?_,?_,by rw[t];assumption,fun y m=>?_,fun e y u=>?_,j.le (by rw[t];exact Xl _)⟩
 ·show w++_=_;rw[WU,show w=q.map vp from v];rfl
 ·rw[t,b];rfl
 ·rcases W6.mp m with m|m
  ·exact h.ok y m
  ·rw[WZ] at m;subst m;exact g
 ·rw[List.getLast?_concat] at u;injection u with u;subst u
  exact i (by rw[t] at e;exact(ar 0x562120440154225c023006ab00402 [_] [_,_]) a e)
def xo {X:Ob→Hp} (C:dx b X) (D:an (X o) a=none) (h:RM n m (x::i) (u,o) v) (w:m≤2) (G:n+10<1000000)
  (H:(p=128∧0≤r∧r<3)∨(p∈[0,1,2,3,5,6,7,(11:Int)]∧1≤r∧r≤3)) (I:gK (n+1+4*v.length+2) J):
  MS ab (cx ab (d+1)) (.expr (.bS (.af 1) .append [.tuple [.ite (.aE (.af 3) .eq (.aS .sub (.af 2) (.int 1))) (.int 128) (.int 0),.bp (.list [.int 97,.int 98,.int 99,.int 45,.int 33]) (.call (.ae 8) [.af 0,.int 5]),.af 5,.af 6]])) bn []
   %[.ref b,.ref a,.int m,.int x,.int y,.int p,.int r|0] (.c a (.list u) (X J)) (dT [3,4,5,6] (Lo (V9 b a m) (V' a X) fun s=> ∃v,RM n m i s v) L):=by
 haveI k:=h.x;haveI N:=h.l;have g:=(jN k.symm).1;have t:u.length=v.length:=by haveI:=h.v;rw[show u=v.map vp from this,WP]
 refine dE (bQ (fun e=>?_) fun e=>?_)
 ·refine a5 (C.cons (l:= .list u) D) I (aU aw) ((ar 0x880722c0be2c043820850860118034009610c40391605f160a1803311002 [_,_] [_]) w G g) fun z j f z1 A=>?_;refine gM (xs:=[97,98,99,45,33]) ⟨f,z1⟩ fun c B=>?_;exact fN (by unfold bz;exact(ar 0x440391605f1421900210d0025803311002 [_,_] [_]) w g t) (.mk (_,j) ⟨_,Gy h ⟨.inr rfl,B,H⟩ (fun ξ=>rfl) (A.le (YF _))⟩)
 ·refine a5 (C.cons (l:= .list u) D) I (aU aw) ((ar 0x880722c0be2c043820850860118034009610c40391605f160a1803311002 [_,_] [_]) w G g) fun z j f z1 A=>?_;refine gM (xs:=[97,98,99,45,33]) ⟨f,z1⟩ fun c B=>?_;exact fN (by unfold bz;exact(ar 0x440391605f1421900210d0025803311002 [_,_] [_]) w g t) (.mk (_,j) ⟨_,Gy h ⟨.inl rfl,B,H⟩ (fun q=>absurd q e) (A.le (YF _))⟩)
def A7 {X:Ob→Hp} (z:dx b X) (h:gK n o) (g:n+10<1000000) (q: ∀(k:List Rw) f,kf k→gK (n+9) f→Q (.ap (k.map vp)) (X f)):Y2 (cx ab (d+2) 1005 [.ref b] (X o)) Q:=by
 refine ao (fr:= %[.ref b|6]) ya rfl ?_;intro a D;refine a5 (z.cons (l:= .list []) D) h (aU aw) ((bC 0x1100e45817c5006201c8b02f8b050c01) g) fun w I A u J=>?_;refine au (by unfold bz;exact(cU 0x1100e45817c55c002092822005300804) A u) ?_;refine bL V.int (V9 b a (1+w)) (V' a X) (fun B s=> ∃k,RM n (1+w) B s k) (fun s ⟨k,h⟩=>?_) (fun x B s ⟨k,h⟩=>?_) (dP 0 (1+w)) ([],I) ⟨[],rfl,rfl,(by show(0:Int)≤1+w;exact(cU 0x13800412009300804) A),(fun ξ m=>nomatch m),(fun ξ ξ m=>nomatch m),J.le (Xr _)⟩
 ·have e:=qm h.x.symm;have C:=h.l;obtain⟨j,c⟩:=s;haveI v:j=k.map vp:=h.v;subst v;refine⟨.c a (.list (k.map vp)) .e,X c,rfl,?_⟩;have:fg 1 (.c a (.list (k.map vp)) .e) (.ref a)= .ap (k.map vp):=by
   show(match(if a=a then some (Ob.list (k.map vp)) else none) with|some o=>_|none=>_:V)=_;rw[WY rfl]
  rw[this];exact q k c ⟨fun e=>(by subst e;have:1+w≤0:=e;exact False.elim ((cU 0x33012001049300804) A this)),by exact(ar 0x404300670008245803411002 [_] [_]) u C,h.ok,h.last ((ar 0x56001048b0067000824580335803000824 [_] [_]) e C)⟩ (h.o.le ((ar 0x420918430410a00c02308670008245803411002 [_,_] [_]) u C))
 ·obtain⟨j,c⟩:=s;have G:=(jN h.x.symm).1;have t:=z.lS (o':=c) D;refine a5 (z.cons (l:= .list j) t) h.o (aU aw) ((ar 0x880722c0be2c1042843008c01a4002091610d04400a201c8b02f8b050c01 [_,_] [_]) g u G) fun y o3 L N H=>?_;refine bV (fun i=>?_) fun i=>?_
  ·refine bV (fun ξ=>?_) fun e=>absurd i e;exact xo z t h ((cU 0x13112001049411002) u) g (.inl ⟨rfl,L,i⟩) (H.le (YF _))
  ·refine gM (xs:=[0,1,2,3,5,6,7,11]) ⟨by exact(cU 0x271190020111419002) i,by show y-3<(8:Int);exact(cU 0x14412232005459002) N⟩ fun p O=>?_;refine bV (fun e=>absurd e i) fun ξ=>?_;refine a5 (z.cons (l:= .list j) t) H (aU aw) ((ar 0x440391605f16011c1042843008c01a4002091610d04400a201c8b02f8b050c01 [_,_] [_]) g u G) fun r o4 U Y h4=>?_;exact xo z t h ((cU 0x13112001049411002) u) g (.inr ⟨O,by exact(cU 0x13800412049300804) U,by exact(cU 0x13192001049419002) Y⟩) h4
def mT {α:Type} {a b:Kt→Kt} {Q:cy} {f:α→V} {as:List α} (e:h=as.map f) (q:Q .next fr H) (step: ∀x,x∈as→ ∀R:Fr→Hp→Prop,R fr H→a (b bn) [f x] fr H (dT k R Q)):Y3 (rE a b k h fr H) Q:=by subst e;exact fe f as q step
def zE (h: -1073741823≤x∧x≤1073741823) (q:Q (.bool true) H):Y2 (cx ab (d+2) 277 [.int x] H) Q:=
 ao (fr:=(.c (.int x) .e)) BE rfl (aV h q)
def gO (h: ∀x∈xs,-1073741823≤x∧x≤1073741823) (q:Q .none H):Y2 (cx ab (d+3) 284 [.aG (aq xs)] H) Q:=
 ao (fr:= %[.aG (aq xs)|1]) rI rfl (fe V.int xs q fun x m R r=>zE (h x m) r)
def u9 (q: ∀s:Str,PyData.strOk s=true→PyData.eqv (.str s) (.str (Str.ofString ""))=false→Q (.str s) H):Y2 (cx ab (d+1) 420 [.int (num f)] H) Q:=by
 refine ao (fr:= %[.int (num f)|2]) vG rfl ?_;cases f with
 |true=>exact ce (σ:=Unit) (fun ξ=> %[_,.int 1,.str ⟨#[98]⟩|0]) (fun ξ=>H) (fun ξ=>True) (fun ξ=>0) (fun ξ ξ=>q _ (by decide+kernel) (by decide+kernel)) () trivial
 |false=>exact ce (σ:=Unit) (fun ξ=> %[_,.int 0,.str ⟨#[97]⟩|0]) (fun ξ=>H) (fun ξ=>True) (fun ξ=>0) (fun ξ ξ=>q _ (by decide+kernel) (by decide+kernel)) () trivial
abbrev Ce:=Int×(Int×Int×Int)
def xp (e:Ce):V:= .aG [.int e.2.1,.int 400,.int 0,.int 0,.int e.2.2.1,.int e.2.2.2]
structure N' (many:Nat) (e:Ce):Prop where
 c:0≤e.1∧e.1≤255
 w: -1073741823≤e.2.1∧e.2.1≤1073741823
 s:e.2.2.1=0∨e.2.2.1=1
 r:0≤e.2.2.2∧e.2.2.2≤255
 m:e.2.2.1=1→e.2.2.2<many
theorem Gz: ∀h:List Ce,x5 (h.map (·.1)) (h.map xp)=h.map fun e=> .aG [.int e.1,xp e]
 |[]=>rfl
 |e::r=>W4 (_:: ·) (Gz r)
def zF (h:List Ce):V:= .eR (h.map (·.1)) (h.map xp)
def rh (h: ∀e∈p,N' n e) (q:Q .none H):Y2 (cx ab (d+4) 298 [zF p,.int n] H) Q:=by
 refine ao (fr:= %[zF p,.int n|4]) rJ rfl (mT (f:=fun e=> .aG [.int e.1,xp e]) (Gz p) q fun e m R r=>?_);have k:=h e m;refine aV k.c (gO (xs:=[e.2.1,400,0,0]) (fun x m=>?_) ?_)
 ·rcases Xa.mp m with rfl|m
  ·exact k.w
  ·exact(aU aw: ∀x∈[400,0,(0:Int)],-1073741823≤x∧x≤1073741823) x m
 refine aV (by rcases k.s with e|e<;>rw[e]<;>exact aU aw) (bQ (fun s=>?_) fun ξ=>?_)
 ·rcases k.s with e|e<;>rw[e] at s<;>cases(s)
 refine aV k.r (bQ (fun t=>?_) fun ξ=>?_)
 ·exact gz (ZO.mpr (k.m t)) r
 ·exact r
theorem mU {α:Type}: ∀{l:List (Int×α)},(l.any fun e=>decide (e.1=k))=true→ ∃r,c9 k l=some r∧(k,r)∈l
 |[],h=>nomatch h
 |e::l,h=>by
  rw[AI];by_cases q:e.1=k
  ·subst q;rw[WY rfl];exact⟨_,rfl,.head _⟩
  ·rw[WX q];rw[YA,Xw q,aaj] at h;obtain⟨r,a,b⟩:=mU h;exact⟨r,a,.tail _ b⟩
def u' {h:List Ce}:((h.map (·.1)).any fun e=>iG e c)=h.any fun e=>decide (e.1=c):=by rw[ZG];rfl
theorem oB (h: ∀e∈n,N' p e) (q:Q .none H):Y2 (cx ab (d+1) 305 [zF n] H) Q:=by
 refine ao (fr:= %[zF n|3]) pM rfl ?_;haveI e:(n.map (·.1)).map V.int=n.map fun e=>V.int e.1:=by rw[XW];rfl
 refine mT e q fun e m R r=>?_;refine ce (σ:=Unit) (fun ξ=> %[zF n,_,.int e.1|1]) (fun ξ=>H) (fun ξ=>True) (fun ξ=>0) (fun ξ ξ=>?_) () trivial;have s:((n.map (·.1)).any fun k=>iG k e.1)=true:=u'.trans (YS.mpr ⟨e,m,Xz rfl⟩);obtain⟨x,u,v⟩:=mU (u'.symm.trans s);refine wt s ?_;haveI t:=kz xp (fun r:Int×Int×Int=> .aG [.int r.1,.int 400,.int 0,.int 0,.int r.2.1,.int r.2.2]) (fun ξ=>rfl) e.1 n;rw[u] at t;refine bj (o:=vw e.1 (n.map (·.1)) (n.map xp)) t ?_;refine bQ (fun w=>?_) fun ξ=>r;rcases(h _ v).s with k|k<;>rw[show x.2.1=2 from w] at k<;>cases(k)
def GA (h:List Ce) (c:Int):Bool:=h.any fun e=>decide (e.1=c)
structure Oa (ks:ah) (cs:List Ce) (bound:Int) (many:Nat) (p:Nat) (r:Rw):Prop where
 o:(0≤r.1∧r.1≤255)∧(0≤r.2.1∧r.2.1≤255)∧(0≤r.2.2.1∧r.2.2.1≤255)∧(0≤r.2.2.2∧r.2.2.2≤255)
 lead:128<r.1→256*r.2.2.1+r.2.2.2<many
 nx:r.1≤128→r.2.1=bound∨GA cs r.2.1=true
 kj:r.1≤128→r.2.2.1<128→GA cs r.2.2.2=true
 cJ:r.1≤128→128≤r.2.2.1→256*(r.2.2.1-128)+r.2.2.2<ks.length
 go:r.1<128→p+r.1+1<many
def To {α:Type} (n:Nat):List α→List (Nat×α)
 |[]=>[]
 |x::r=>(n,x)::To (n+1) r
theorem A8 {α:Type} {x:α}: ∀{n:Nat} {l:List α},(k,x)∈To n l→n≤k∧l[k-n]?=some x
 |_,[],h=>nomatch h
 |n,y::r,h=>by
  rcases Xa.mp h with h|h
  ·cases(h);exact⟨Xl _,by rw[YE];rfl⟩
  ·obtain⟨a,b⟩:=A8 h;exact⟨by exact Xq (by assumption),by rw[show k-n=k-(n+1)+1 by exact(br 0x12804718046008431004218043008c01) a];exact b⟩
theorem xq {α:Type} {g:α→V}: ∀{n:Nat} {l:List α},ib n (l.map g)=(To n l).map fun p=> .aG [.int p.1,g p.2]
 |_,[]=>rfl
 |n,x::r=>W4 (_:: ·) xq
def GB {b:Bool} (h:GA x c=b):((x.map (·.1)).any fun e=>iG e c)=b:=u'.trans h
@[reducible] def J2 (d : Nat) (H : Hp) (Q : V → Hp → Prop) (e : List Rw) (x : ah) (k : List Ce) (bound : Int) : Prop := ∀ (h : ∀ p r, e[p]? = some r → Oa x k bound e.length p r) (q : Q .none H), Y2 (cx ab (d+2) 312 [.ap (bY e), .aG (aq x), zF k, .int bound] H) Q
abbrev J3:List Type:=[Nat,Hp,V→Hp→Prop,List Rw,ah,List Ce,Int]
def RN:=eV J3 J2 ⟨nI,Ab,nI,nI,nI,nI,nI,trivial⟩
def Vv:eU J3 J2 RN:=by
 injections RN d H Q e t u bound;change J2 d H Q e t u bound;intro h q;refine ao (fr:= %[.ap (bY e),.aG (aq t),zF u,.int bound|8]) jb rfl ?_;have a:(bY e).length=e.length:=WP ..;refine mT (fr:= %[_,.aG (aq t),zF u,.int bound,.int (bY e).length|7]) (f:=fun p:Nat×Rw=> .aG [.int p.1,vp p.2]) (as:=To 0 e) xq ?_ fun⟨p,r⟩ m R j=>?_
 ·exact q
 haveI k:=h p r (A8 m).2;obtain⟨v,w,y,z⟩:=r;refine mT (fr:= %[_,.aG (aq t),zF u,.int bound,.int (bY e).length,.int p,vp (v,w,y,z)|5]) (f:=V.int) (as:=[v,w,y,z]) rfl ?_ fun x m R r=>?_
 ·refine bV (fun s=>?_) fun s=>?_
  ·have:=k.lead s;exact gz (by rw[a];exact ZO.mpr this) j
  have s:=Yx.mp s
  have n:MB ab (cx ab (d+1)) [
    .bs (.ay false [.ay true [.aE (.af 10) .lt (.ae 59),.aE (.af 11) .jr (.af 2)],.ay true [.aE (.af 10) .ge (.ae 59),.aE (.aS .add (.aS .mul (.int 256) (.aS .sub (.af 10) (.ae 59))) (.af 11)) .ge (.call (.ae 0) [.af 1])]]) [.raise] [],
    .bs (.ay true [.aE (.af 8) .lt (.ae 58),.aE (.aS .add (.aS .add (.af 5) (.af 8)) (.int 1)) .ge (.af 4)]) [.raise] []] bn []
    %[_,.aG (aq t),zF u,.int bound,.int (bY e).length,.int p,vp (v,w,y,z),_,.int v,.int w,.int y,.int z|0] H (dT [0,5,6,7,8,9,10,11] R (i8 [1,2,3,4,5,6,7,8,9,10,11] bn (cp none H Q))):=by
   have g:MB ab (cx ab (d+1)) [
    .bs (.ay true [.aE (.af 8) .lt (.ae 58),.aE (.aS .add (.aS .add (.af 5) (.af 8)) (.int 1)) .ge (.af 4)]) [.raise] []] bn []
    %[_,.aG (aq t),zF u,.int bound,.int (bY e).length,.int p,vp (v,w,y,z),_,.int v,.int w,.int y,.int z|0] H (dT [0,5,6,7,8,9,10,11] R (i8 [1,2,3,4,5,6,7,8,9,10,11] bn (cp none H Q))):=by
    refine bV (fun b=>?_) fun b=>j;have:=k.go b;exact gz (by rw[a];exact ZO.mpr this) j
   refine bV (fun i=>?_) fun i=>?_
   ·exact iv (by rw[GB (k.kj s i)];rfl) (gz (ZO.mpr i) g)
   ·refine jf (Yx.mp i) ?_;have:=k.cJ s (Yx.mp i);exact gz (by rw[aA];exact ZO.mpr this) g
  refine qk (fun o=>?_) fun ξ=>n;exact iv (by rw[GB ((k.nx s).resolve_left o)];rfl) n
 ·have:=k.o;rcases Xa.mp m with rfl|m
  ·exact aV this.1 r
  rcases Xa.mp m with rfl|m
  ·exact aV this.2.1 r
  rcases Xa.mp m with rfl|m
  ·exact aV this.2.2.1 r
  rw[WZ] at m;subst m;exact aV this.2.2.2 r
def nF:eB J3 J2:=eA J3 Vv
def mV (h:List Rw):Int:=match h.getLast? with
 |none=> -1
 |some r=>if r.1=255 then 256*r.2.2.1+r.2.2.2 else-1
theorem sg (q:Q (.int (mV h)) H):Y2 (cx ab (d+1) 319 [.ap (bY h)] H) Q:=by
 refine ao (fr:= %[.ap (bY h)|4]) ma rfl ?_;have x:(bY h).length=h.length:=WP ..;unfold mV at q;refine bQ (fun e=>?_) fun e=>?_
 ·rw[x] at e;haveI:h=[]:=List.eq_nil_of_length_eq_zero (by exact(bC 0x4803006a022c01) e);subst this;exact q
 ·rw[x] at e;have k:h.length-1<h.length:=by exact(bC 0x4401884600a2a022c01) e
  have m:h[h.length-1]?=some h[h.length-1]:=WS k;rw[Zo,m] at q;change Q (.int (if(h[h.length-1]).1=255 then 256*(h[h.length-1]).2.2.1+(h[h.length-1]).2.2.2 else-1)) H at q;haveI n:(bY h)[h.length-1]?=some (vp h[h.length-1]):=by unfold bY;rw[Xk,m];rfl
  generalize h[h.length-1]=r at q n;refine fY (j:=h.length-1) ?_ n ?_
  ·rw[x];unfold place;rw[WX (by exact aU aw),WY (by exact(bC 0x1382c0150480222a022c01) e),show((-1:Int)+(h.length:Int)).toNat=h.length-1 by exact(bC 0x25108c01541600a824)]
  refine bQ (fun e=>?_) fun e=>?_
  ·rw[WY e] at q;exact q
  ·rw[WX e] at q;exact q
section
variable {d:Nat} {H:Hp}
def a' (F:FD):Ob:= .inst 409 [15,16,17,18,19,20,21,22,23,24,25,5,26]
 [.int F.num,F.nm,.int 655360,.int 655360,.int 0,F.ps,.eR (F.cs.map (·.1)) (V4 F.cs),.aG (bY F.eY),.aG (aq F.ks),.int F.bound,.int F.edge,.int F.hy,.int (-1)]
structure zG where
 ps:ah
 cs:List Ce
 rs:List Rw
 ks:ah
 bound:Int
structure zG.Ok (A:zG):Prop where
 ps: ∀x∈A.ps,-1073741823≤x∧x≤1073741823
 pl:A.ps.length≤64
 ks: ∀x∈A.ks,-1073741823≤x∧x≤1073741823
 bo:0≤A.bound∧A.bound≤256
 cs: ∀e∈A.cs,N' A.rs.length e
 cl:A.cs.length≤256
def zG.F (A:zG) (n:Int) (s:Str):FD:=⟨A.cs,A.rs,A.ks,A.bound,mV A.rs,45,n,.str s,.ap (aq A.ps)⟩
structure Tp (v:V) (A:zG):Prop where
 len: ∀H (R:V→Prop),R (.int A.rs.length)→x6 H v (KV .len R [v])
 rC: ∀d H Q,Q .none H→Y2 (cx ab (d+2) 312 [v,.aG (aq A.ks),zF A.cs,.int A.bound] H) Q
 Vw: ∀d H Q,Q (.int (mV A.rs)) H→Y2 (cx ab (d+1) 319 [v] H) Q
 aG:ju .tuple [v]=some (.aG (bY A.rs))
def Oc (e: ∀p r,A.rs[p]?=some r→Oa A.ks A.cs A.bound A.rs.length p r):Tp (.ap (bY A.rs)) A:=
 ⟨fun H R h=>by rw[←show(bY A.rs).length=A.rs.length from WP ..] at h;exact h,fun ξ ξ ξ q=>nF e q,fun ξ ξ ξ q=>sg q,rfl⟩
def Od (e:A.rs=[]):Tp (.aG []) A:=
 ⟨fun H R h=>(by rw[e] at h;exact h),fun d H Q q=>ao (fr:= %[.aG [],.aG (aq A.ks),zF A.cs,.int A.bound|8]) jb rfl (fe (fun _:Unit=> .none) [] q fun ξ m=>nomatch m),fun d H Q q=>ao (fr:= %[.aG []|4]) ma rfl (by rw[e] at q;exact q),by rw[e];rfl⟩
def GC (x:Tp v A) (h:A.Ok) (k:1≤n∧n≤255) (m:PyData.strOk s=true) (p:PyData.eqv (.str s) (.str (Str.ofString ""))=false) (q: ∀b,an H b=none→Q (.ref b) (.c b (a' (A.F n s)) H)):
  Y2 (cx ab (d+6) 409 [.int n,.str s,.int 655360,.aG (aq A.ps),zF A.cs,v,.aG (aq A.ks),.int A.bound] H) Q:=by
 refine cD DJ.2 DJ.1 rfl fun b r=>?_;refine ao (fr:= %[(_),.int n,.str s,.int 655360,.aG (aq A.ps),zF A.cs,v,.aG (aq A.ks),.int A.bound|0]) yc rfl ?_;haveI e:lp .eq (.str s) (.str (Str.ofString ""))=some false:=by
  haveI t:toD bW (.str s)=some (.str s):=WY m;haveI u:toD bW (.str (Str.ofString ""))=some (.str (Str.ofString "")):=WY (by decide+kernel)
  show(match toD bW (.str s) with|some a=>(match toD bW (.str (Str.ofString "")) with|some b=>some (PyData.eqv a b)|none=>none)|none=>none:Option Bool)=_;rw[t,u,←p]
 refine aV k (bj e ?_);refine aV (aU aw) (aV h.bo ?_);refine gz (by rw[aA];haveI:=h.pl;exact(bC 0x45160080822c00311401) this) (gO h.ps ?_);refine gO h.ks (x.len _ _ ?_);refine rh h.cs (oB h.cs ?_);refine x.rC _ _ _ (aP rfl (aP rfl (aP rfl (aP rfl (aP rfl (aP rfl ?_))))));refine au (by rw[WP];haveI:=h.cl;unfold bz;exact(bC 0x2201c8b02f8a00c00341401) this) (aP rfl ?_);refine bj x.aG (aP rfl (aP rfl (aP rfl ?_)));refine x.Vw _ _ _ (aP rfl (aP rfl (aP rfl ?_)));exact q b r
theorem kg: ∀{e:ah} {x:aN} {K:ah→aN→Prop},(∀k∈e,k≠i)→e.length=x.length→K (e++[i]) (x++[v])→Bx i v e x K
 |[],[],_,_,_,q=>q
 |k::e,w::x,K,h,n,q=>gz (h k (.head _)) (kg (fun k m=>h k (.tail _ m)) (Y7 n) q)
def J4 {k:Kt} {st:aN} {Q:cy} (q:k st (x.set i (.eR h e)) H Q):Yr (an (.c a (.dict h e) H) a) (Bz i a k st x (.c a (.dict h e) H) Q):=Fx (by unfold Bz;rwa[oQ])
def GD (h:Bool) (e:Ce):V:=match h with
 |true=> .aG [.int e.1,.int e.2.1,.int 400,.int 0,.int 0,.int e.2.2.1,.int e.2.2.2]
 |false=> .aG [.int e.1,.int e.2.1,.int 400,.int 0]
def ji (c:Tp v A) (z:A.Ok) (hd:(A.cs.map (·.1)).Nodup) (n:lg=false→ ∀e∈A.cs,e.2.2.1=0∧e.2.2.2=0) (q: ∀b s,an H b=none→Q (.ref b) (.c b (a' (A.F (num f) s)) H)):
  {args:aN}→pk gn args=some %[.int (num f),.ap (A.cs.map (GD lg)),.aG (aq A.ps),v,.aG (aq A.ks),.int A.bound|2]→Y2 (cx ab (d+7) 430 args H) Q:=by
 intro args o;refine ao pL o ?_;have g:1≤num f∧num f≤255:=by induction f using Bool.casesOn<;>exact aU aw
 refine aV g fun a I=>?_;refine bL (GD lg) (fun ξ=> %[.int (num f),_,.aG (aq A.ps),v,.aG (aq A.ks),.int A.bound,.ref a|1]) (fun s:List Ce=> .c a (.dict (s.map (·.1)) (s.map xp)) H) (fun r s=>s++r=A.cs) (fun s h=>?_) (fun e r s h=>?_) A.cs [] rfl
 ·change s++[]=A.cs at h;rw[Xe] at h;subst h;refine J4 (u9 fun B n1 n2=>?_);exact GC c z g n1 n2 fun b C=>q b B C
 ·change s++e::r=A.cs at h;have i:e∈A.cs:=by rw[←h];exact Ze _ (.head _)
  have eo: ∀k∈s.map (·.1),k≠e.1:=fun k m=>by rw[←h,WU] at hd;exact(List.nodup_append.mp hd).2.2 k m e.1 (.head _)
  have x:((s.map (·.1)).any fun k=>iG k e.1)=false:=by rw[ZD];exact fun k m=>by unfold iG;rw[Xw (eo k m)];exact W5
  haveI j:=z.cl;haveI t:s.length<bz:=by rw[←h,WO] at j;unfold bz;exact(br 0x880722c0be2803000d058402308401) j
  have l:Lo (fun ξ=> %[.int (num f),_,.aG (aq A.ps),v,.aG (aq A.ks),.int A.bound,.ref a|1]) (fun s:List Ce=> .c a (.dict (s.map (·.1)) (s.map xp)) H) (fun s=>s++r=A.cs) %[.int (num f),_,.aG (aq A.ps),v,.aG (aq A.ks),.int A.bound,.ref a|1] (.c a (.dict (s.map (·.1)++[e.1]) (s.map xp++[xp e])) H):=by haveI:=Lo.mk (F:=fun ξ=> %[.int (num f),_,.aG (aq A.ps),v,.aG (aq A.ks),.int A.bound,.ref a|1]) (G:=fun s:List Ce=> .c a (.dict (s.map (·.1)) (s.map xp)) H) (J:=fun s=>s++r=A.cs) (s++[e]) (by rwa[WW]);rw[WU,WU] at this;exact this
  have p: ∀w,w=xp e→ ∀(k:Kt) st u y,k st u (.c a (.dict (s.map (·.1)++[e.1]) (s.map xp++[xp e])) H) y→Yr (an (.c a (.dict (s.map (·.1)) (s.map xp)) H) a) (By a e.1 w k st u (.c a (.dict (s.map (·.1)) (s.map xp)) H) y):=fun w D k st u y L=>by subst D;refine Fx ⟨by rw[WP];exact t,kg eo (by rw[WP,WP]) ?_⟩;rwa[b7]
  cases lg with
  |true=>refine Fx (iv x ?_);exact p _ rfl _ _ _ _ l
  |false=>refine Fx (iv x ?_);refine p _ ?_ _ _ _ _ l;unfold xp;rw[(n rfl e i).1,(n rfl e i).2];rfl
end
def Do:List Rw→Prop
 |[]=>False
 |r::t=>rf r∧(r.1=128∨(r.1=0∧Do t))
theorem vb: ∀{l:List Rw},Do l→Do (l++m)
 |[],h=>h.elim
 |_::_,⟨a,b⟩=>⟨a,b.imp_right fun k=>⟨k.1,vb k.2⟩⟩
def Oe (h:rf r):FF 3 r:=by
 rcases h.o with⟨a,b,c⟩|⟨a,b,c⟩
 ·exact .inl ⟨a,b,c⟩
 ·refine .inr ⟨?_,b,c⟩;generalize r.2.2.1=o at a;exact(aU aw: ∀o∈[0,1,2,3,5,6,7,(11:Int)],iw o=true) o a
theorem xr: ∀{l:List Rw},Do l→nW 3 l
 |[],h=>h.elim
 |_::_,⟨a,b⟩=>⟨Oe a,b.imp_right fun k=>⟨k.1,xr k.2⟩⟩
theorem xu: ∀{l:List Rw},Do l→dq m x l=some p→ ∃r,rf r∧r.2.1=x∧p=if r.2.2.1=128 then(0,m.getD r.2.2.2.toNat 0) else(r.2.2.1+1,r.2.2.2)
 |[],h,_=>h.elim
 |r::t,⟨a,b⟩,e=>by
  rw[yZ] at e;by_cases h:r.2.1=x
  ·rw[WY h] at e;refine⟨r,a,h,?_⟩;by_cases k:r.2.2.1=128
   ·rw[WY k] at e⊢;exact(W7 e).symm
   ·rw[WX k] at e⊢;exact(W7 e).symm
  ·rw[WX h] at e;rcases b with b|b
   ·rw[WX (by rw[b];exact aU aw)] at e;exact bH e
   ·rw[WY b.1] at e;exact xu b.2 e
def xw (h:kf n):Do n:=by
 obtain⟨p,m,k,x⟩:=h
 match n,p,m,k,x with
 |[a],_,_,k,x=>exact⟨k a (.head _),.inl (x a rfl)⟩
 |[a,b],_,_,k,x=>exact⟨k a (.head _),(k a (.head _)).s.symm.imp_right fun e=>⟨e,k b (.tail _ (.head _)),.inl (x b rfl)⟩⟩
 |_::_::_::_,_,l,_,_=>exact absurd l (by simp only[W0];exact(bC 0x22021c0238047008c01))
structure Dp (rs:List Rw) (bg:List (Int×Int)):Prop where
 ok: ∀p r,rs[p]?=some r→rf r∧(r.1=0→p+1<rs.length)
 RO: ∀e∈bg,e.1≠3∧ ∃p:Nat,e.2=p∧Do (rs.drop p)∧((e.1=1∨e.1=2)→ ∃x t,rs.drop p=(128,x,0,3)::t)
def GF {e:List Rw} (h:Do (e.drop p)):p<e.length:=by
 rcases XF p e.length with q|q
 ·exact q
 ·rw[Xp q] at h;exact h.elim
def xx {α:Type} {e x:List α} {r:α} (h:(e++x)[p]?=some r):(e[p]?=some r)∨(e.length≤p∧x[p-e.length]?=some r):=by
 rcases XF p e.length with q|q
 ·rw[XS q] at h;exact .inl h
 ·rw[Xn q] at h;exact .inr ⟨q,h⟩
def A9 (h:kf x) (e:x[p]?=some r):rf r∧(r.1=0→p+1<x.length):=by
 obtain⟨k,m⟩:=Xf.mp e;refine⟨h.ok r (by rw[←m];exact Yh k),fun z=>Nat.lt_of_not_le fun q=>?_⟩;haveI:x.getLast?=some r:=by rwa[Zo,show x.length-1=p by exact(br 0x120062118430804600843108401) k q]
 rw[h.last r this] at z;exact absurd z (aU aw)
def Dp.eY (h:Dp x q) (m:kf n): ∀p r,(x++n)[p]?=some r→rf r∧(r.1=0→p+1<(x++n).length):=fun p r e=>by
 rw[WO];rcases xx e with e|⟨k,e⟩
 ·exact⟨(h.ok p r e).1,fun z=>by haveI:=(h.ok p r e).2 z;exact(bT 0x46020843008c018843008c01) this⟩
 ·exact⟨(A9 m e).1,fun z=>by haveI:=(A9 m e).2 z;exact(bT 0x23010421804600c4418047108401) this⟩
def Dp.Wa (h:Dp n q): ∀e∈q,e.1≠3∧ ∃p:Nat,e.2=p∧Do ((n++r).drop p)∧((e.1=1∨e.1=2)→ ∃x t,(n++r).drop p=(128,x,0,3)::t):=fun e m=>by obtain⟨a,p,b,c,d⟩:=h.RO e m;refine⟨a,p,b,?_⟩;rw[XB (Xq (GF c))];exact⟨vb c,fun k=>(by obtain⟨x,t,z⟩:=d k;exact⟨x,_,by rw[z];rfl⟩)⟩
def Dp.add (h:Dp n r) (p:kf q) (s:c≠3) (t:(c=1∨c=2)→ ∃x,q=[(128,x,0,3)]):Dp (n++q) (r++[(c,(n.length:Int))]):=
 ⟨h.eY p,fun e m=>by
  rcases W6.mp m with m|m
  ·exact h.Wa e m
  ·rw[WZ] at m;subst m;refine⟨s,n.length,rfl,?_⟩;rw[YX]
   exact⟨xw p,fun k=>(by obtain⟨x,z⟩:=t k;exact⟨x,[],z⟩)⟩⟩
structure xy (rs:List Rw) (bg:List (Int×Int)):Prop where
 ok: ∀p r,rs[p]?=some r→(rf r∧(r.1=0→p+1<rs.length))∨ ∃e:Nat,r=(255,0,0,(e:Int))∧e<rs.length
 RO: ∀e∈bg,e.1≠3∧ ∃p:Nat,e.2=p∧Do (rs.drop p)∧((e.1=1∨e.1=2)→ ∃x t,rs.drop p=(128,x,0,3)::t)
 Vw:mV rs= -1∨ ∃p:Nat,mV rs=p∧Do (rs.drop p)
 len:rs.length≤20
def Dp.GG (h:Dp x m) (n:x.length≤20):xy x m:=by
 refine⟨fun p r e=> .inl (h.ok p r e),h.RO,.inl ?_,n⟩;unfold mV;cases e:x.getLast? with
 |none=>rfl
 |some r=>rw[Zo] at e;refine WX fun z=>?_;rcases(h.ok _ r e).1.s with k|k<;>rw[k] at z<;>exact absurd z (aU aw)
def Dp.edge (h:Dp x s) (n:kf t) (u:x.length≤17):xy (x++t++[(255,0,0,(x.length:Int))]) s:=by
 haveI v:=n.len;refine⟨fun p r e=>?_,fun e m=>(by rw[WW];exact h.Wa e m),.inr ⟨x.length,?_,?_⟩,by simp only[WO,W0,XO];exact(br 0x10a0e011c021006021843088c01) u v⟩
 ·rcases xx e with e|⟨k,e⟩
  ·exact .inl ⟨(h.eY n p r e).1,fun z=>by rw[WO];exact Nat.lt_add_right _ ((h.eY n p r e).2 z)⟩
  ·obtain⟨w,q⟩:=Xf.mp e;exact .inr ⟨x.length,by rw[List.getElem_singleton] at q;exact q.symm,by simp only[WO,W0,XO];exact(br 0x46011c02100401)⟩
 ·unfold mV;rw[List.getLast?_concat];show(if(255:Int)=255 then 256*0+(x.length:Int) else-1)=_;rw[WY rfl];exact(bC 750968063919108)
 ·rw[WW,YX];exact vb (xw n)
def cM:ah:=[97,98,99,100,65,45,46,40,1,2,3]
def vq (h:List (Int×Int)) (c:Int):Ce:=(c,1000*c,if(h.any fun e=>decide (e.1=c)) then 1 else 0,(c9 c h).getD 0)
def xz (h:List Rw) (e:List (Int×Int)):zG:=⟨[0,4,2,1],cM.map (vq e),h,[1000,-700,333],33⟩
def si:zG:=⟨[0,196608,98304,65536,262144,655360,65536],[97,98,99,100,(45:Int)].map fun c=>(c,700,0,0),[],[],256⟩
def A' {α:Type} {l:List (Int×α)} (h:(l.any fun e=>decide (e.1=k))=false):c9 k l=none:=by
 induction l with
 |nil=>rfl
 |cons e r x=>rw[YA,X0] at h;rw[AI];rw[WX (of_decide_eq_false h.1)];exact x h.2
structure ri (F:FD) (c:Int):Prop where
 ks:F.ks=[1000,-700,333]
 st: ∃p:Nat,F.ct c=p∧Do (F.eY.drop p)∧((1≤c∧c≤3)→ ∃x t,F.eY.drop p=(128,x,0,3)::t)
def Ba (h: ∀c,0≤F.ct c→ri F c) (e:F.dI l r=some p):ri F l∧dq F.ks r (F.eY.drop (F.ct l).toNat)=some p:=by
 unfold FD.dI at e;by_cases q:F.ct l<0∨r=256
 ·rw[WY q] at e;exact bH e
 ·rw[WX q] at e;exact⟨h l (Yx.mp fun k=>q (.inl k)),e⟩
def zH (h: ∀c,0≤F.ct c→ri F c) (e:F.dI l r=some p): ∃x,rf x∧x.2.1=r∧p=if x.2.2.1=128 then(0,[1000,-700,(333:Int)].getD x.2.2.2.toNat 0) else(x.2.2.1+1,x.2.2.2):=by obtain⟨s,e⟩:=Ba h e;obtain⟨k,a,b,_⟩:=s.st;rw[a,s.ks] at e;exact xu b e
def RP (n:Nat): -1073741823≤[1000,-700,(333:Int)].getD n 0∧[1000,-700,(333:Int)].getD n 0≤1073741823:=
 match n with
 |0=>by exact aU aw
 |1=>by exact aU aw
 |2=>by exact aU aw
 |n+3=>⟨by show-1073741823≤(0:Int);exact aU aw,by show(0:Int)≤1073741823;exact aU aw⟩
def mW (h:o∈[0,1,2,3,5,6,7,(11:Int)]):iw o=true∧0≤o∧o<12:=(aU aw: ∀o∈[0,1,2,3,5,6,7,(11:Int)],iw o=true∧0≤o∧o<12) o h
theorem tR (h: ∀c,0≤F.ct c→ri F c):j9 F:=by
 refine⟨fun l r p e=>?_,fun l r x e=>?_,fun l r k x e m=>?_,fun l r k x n u e=>?_⟩
 ·obtain⟨w,a,b,_⟩:=zH h e;haveI:=a.n;rw[b] at this;exact(by exact aU aw: ∀c∈[97,98,99,45,(33:Int)],c=97∨c=98∨c=99∨c=45∨c=33) r this
 ·obtain⟨w,a,b,c⟩:=zH h e;by_cases k:w.2.2.1=128
  ·rw[WY k] at c;rw[(ZA c).2];exact RP _
  ·rw[WX k] at c;rcases a.o with⟨o,_⟩|⟨o,_⟩
   ·exact absurd o k
   ·haveI:=(mW o).2;haveI:=(ZA c).1;lia
 ·obtain⟨w,a,b,c⟩:=zH h e;by_cases q:w.2.2.1=128
  ·rw[WY q] at c;exact absurd (ZA c).1 m
  ·rw[WX q] at c;obtain⟨v,z⟩:=ZA c;rcases a.o with⟨o,_⟩|⟨o,g,i⟩
   ·exact absurd o q
   ·rw[v,z,Zw];exact⟨(mW o).1,g,i⟩
 ·obtain⟨s,e⟩:=Ba h e;obtain⟨p,a,b,c⟩:=s.st;obtain⟨y,t,d⟩:=c ⟨n,u⟩;rw[a,X9,d] at e;change(if y=r then some (0+1,(3:Int)) else if(128:Int)=0 then dq F.ks r t else none)=some (k,x) at e;split at e
  ·cases(e);rfl
  ·rw[WX (by exact aU aw)] at e;exact bH e
def tS (h: ∀c,0≤F.ct c→ri F c) (k: ∀x∈F.ks,-1073741823≤x∧x≤1073741823):hP F:=by refine⟨fun c e=>?_,k⟩;obtain⟨p,a,b,_⟩:=(h c e).st;rw[a,(h c e).ks];exact xr b
theorem vc {α:Type} {g:Int→α}: ∀{l:ah},c9 c (l.map fun c=>(c,g c))=if c∈l then some (g c) else none
 |[]=>rfl
 |x::r=>by
  show(if x=c then some (g x) else c9 c (r.map fun c=>(c,g c)))=_;rw[vc];by_cases e:x=c
  ·subst e;rw[WY rfl,WY (.head _)]
  ·rw[WX e];by_cases m:c∈r
   ·rw[WY m,WY (.tail _ m)]
   ·rw[WX m,WX (fun k=>by cases k with|head=>exact e rfl|tail _ k=>exact m k)]
def J5 (e:List Rw) (x:List (Int×Int)) (s:Str) (h:Int):FD:={(xz e x).F 1 s with hy:=h}
def OX (s:Str) (h:Int):FD:={si.F 2 s with hy:=h}
theorem GH (h:xy t x) (c:Int) (n:0≤(J5 t x s u).ct c):ri (J5 t x s u) c:=by
 refine⟨rfl,?_⟩;have e:(J5 t x s u).ct c=if c=256 then mV t else match(c9 c (cM.map (vq x))) with|some r=>if r.2.1=1 then r.2.2 else-1|none=> -1:=rfl
 rw[e] at n⊢;by_cases q:c=256
 ·rw[WY q] at n⊢;rcases h.Vw with k|⟨p,a,b⟩
  ·rw[k] at n;exact absurd n (aU aw)
  ·exact⟨p,a,b,fun z=>by lia⟩
 ·rw[WX q] at n⊢;have z:c9 c (cM.map (vq x))=if c∈cM then some (vq x c).2 else none:=vc (g:=fun c=>(vq x c).2)
  rw[z] at n⊢;by_cases m:c∈cM
  ·rw[WY m] at n⊢;change 0≤(if(if(x.any fun e=>decide (e.1=c)) then(1:Int) else 0)=1 then(c9 c x).getD 0 else-1) at n;show∃p:Nat,(if(if(x.any fun e=>decide (e.1=c)) then(1:Int) else 0)=1 then(c9 c x).getD 0 else-1)=_∧_;by_cases k:(x.any fun e=>decide (e.1=c))=true
   ·rw[WY k,WY rfl];obtain⟨v,w,y⟩:=mU k;rw[w];obtain⟨a,p,b,d,e⟩:=h.RO _ y;exact⟨p,b,d,fun z=>e (by replace a:c≠3:=a;show c=1∨c=2;exact(cU 0xbd44400aa120048a8c8015a632005300824) z a)⟩
   ·rw[WX k,WX (by exact aU aw)] at n;exact absurd n (aU aw)
  ·rw[WX m] at n;exact absurd n (aU aw)
def GJ (c:Int) (h:0≤(OX s k).ct c):ri (OX s k) c:=by
 haveI e:(OX s k).ct c=if c=256 then-1 else match(c9 c ([97,98,99,100,(45:Int)].map fun c=>(c,((700:Int),(0:Int),(0:Int))))) with|some r=>if r.2.1=1 then r.2.2 else-1|none=> -1:=rfl
 rw[e] at h;split at h
 ·exact absurd h (aU aw)
 ·rw[vc (g:=fun ξ=>((700:Int),(0:Int),(0:Int)))] at h;split at h
  ·rename_i x;split at x
   ·obtain rfl:=dL x;exact absurd h (aU aw)
   ·exact bH x
  ·exact absurd h (aU aw)
def RQ (e:List Rw) (x:List (Int×Int)) (s t:Str) (h:Int):Fs:=fun f=>match f with
 |false=>J5 e x s h
 |true=>OX t h
def OY (h:Int):Prop:=h=45∨h=46∨h=200∨h= -1
def Bb:(J5 m k s h).eG c=cM.any fun x=>decide (x=c):=by show((cM.map (vq k)).any fun e=>decide (e.1=c))=_;rw (config:={}) [ZG];rfl
def Of (p:xy k n) (q:OY h):dK (RQ k n s t h):=by
 refine⟨fun f=>?_,fun f=>?_,fun f=>?_,fun f=>?_⟩
 ·cases f with
  |false=>exact tR (GH p)
  |true=>exact tR GJ
 ·cases f with
  |false=>exact tS (GH p) (by show∀x∈[1000,-700,(333:Int)],_;exact aU aw)
  |true=>exact tS GJ (fun ξ m=>nomatch m)
 ·induction f using Bool.casesOn<;>rfl
 ·cases f with
  |false=>show(J5 k n s h).eG h=true→iC h=true;rw[Bb];rcases q with rfl|rfl|rfl|rfl<;>exact aU aw
  |true=>show(si.cs.any fun e=>decide (e.1=h))=true→iC h=true;rcases q with rfl|rfl|rfl|rfl<;>exact aU aw
def J6:si.Ok:=by refine⟨by exact aU aw,by exact bM aw,fun ξ m=>(nomatch m),by exact aU aw,fun e m=>?_,by exact bM aw⟩;obtain⟨c,h,rfl⟩:=Xj.mp m;exact⟨(aU aw: ∀c∈[97,98,99,100,(45:Int)],0≤c∧c≤255) c h,by show(-1073741823:Int)≤700∧(700:Int)≤1073741823;exact aU aw,.inl rfl,by show(0:Int)≤0∧(0:Int)≤255;exact aU aw,fun e=>absurd e (by show¬(0:Int)=1;exact aU aw)⟩
def xA (m:c∈cM):0≤c∧c≤255:=(aU aw: ∀c∈cM,0≤c∧c≤255) c m
def Lx (m:c∈cM):GA (cM.map (vq h)) c=true:=by unfold GA;rw[ZG,YS];exact⟨c,m,Xz rfl⟩
def Bc (h:xy t s):(xz t s).Ok∧ ∀p r,t[p]?=some r→Oa [1000,-700,333] (cM.map (vq s)) 33 t.length p r:=by
 have g:=h.len;refine⟨⟨by show∀x∈[0,4,2,(1:Int)],_;exact aU aw,by show 4≤64;exact bM aw,by show∀x∈[1000,-700,(333:Int)],_;exact aU aw,by show(0:Int)≤33∧(33:Int)≤256;exact aU aw,fun e m=>?_,by show(cM.map (vq s)).length≤256;rw[WP];exact bM aw⟩,fun p r e=>?_⟩
 ·obtain⟨c,j,rfl⟩:=Xj.mp m;have r:=xA j;have w:(c9 c s).getD 0=0∧(s.any fun e=>decide (e.1=c))=false∨ ∃p:Nat,(c9 c s).getD 0=p∧p<t.length:=by
   cases k:(s.any fun e=>decide (e.1=c)) with
   |false=>exact .inl ⟨by rw[A' k];rfl,rfl⟩
   |true=>obtain⟨v,l,f⟩:=mU k;obtain⟨a,p,b,d,e⟩:=h.RO _ f;exact .inr ⟨p,by rw[l];exact b,GF d⟩
  refine⟨r,by show-1073741823≤1000*c∧1000*c≤1073741823;exact(cU 0x5a7f27cbf2fcbf2fca8417e500a68417e50095f27cbf2fcbf2fcb69fc872805300804) r,?_,?_,?_⟩
  ·show(if(s.any fun e=>decide (e.1=c)) then(1:Int) else 0)=0∨(if(s.any fun e=>decide (e.1=c)) then(1:Int) else 0)=1;split
   ·exact .inr rfl
   ·exact .inl rfl
  ·show 0≤(c9 c s).getD 0∧(c9 c s).getD 0≤255;rcases w with⟨w,_⟩|⟨p,w,q⟩<;>rw[w]
   ·exact aU aw
   ·exact(br 0x169fc872ac219ac210122008430a0c01) g q
  ·show(if(s.any fun e=>decide (e.1=c)) then(1:Int) else 0)=1→(c9 c s).getD 0<(t.length:Int);rcases w with⟨_,w⟩|⟨p,w,q⟩
   ·rw[w];exact fun z=>absurd z (aU aw)
   ·rw[w];exact fun ξ=>XG.mpr q
 ·rcases h.ok p r e with⟨a,b⟩|⟨q,rfl,b⟩
  ·haveI n:=a.n;have n2:=(aU aw: ∀c∈[97,98,99,45,(33:Int)],(0≤c∧c≤255)∧(c=33∨c∈cM)) _ n;have i:0≤r.1∧r.1≤128:=by rcases a.s with e|e<;>rw[e]<;>exact aU aw
   have u:(0≤r.2.2.1∧r.2.2.1≤128)∧0≤r.2.2.2∧r.2.2.2≤3:=by
    rcases a.o with⟨x,y,z⟩|⟨x,y,z⟩
    ·exact(lm 0x2d698c8114c22012d30108500a601009419022984402540421402) x y z
    ·haveI:=(mW x).2;exact(lm 0x2d698c8014c02012d30108508a6110096a308114c22012632005300824) y z this
   refine⟨⟨by exact(cU 0x2d3f90e500a6010096980842805300804) i,n2.1,by exact(lm 0x2d3f90e500a6010096b4c6408a6110096980842805300804) u,by exact(lm 0x2d3f90e508a6110096b4c6408a6110096980842805300804) u⟩,fun z=>by exact False.elim ((cU 0x1a0040210b6980842805300804) i z),fun ξ=>n2.2.imp_right Lx,fun ξ z=>?_,fun ξ z=>?_,fun z=>?_⟩
   ·rcases a.o with⟨x,_⟩|⟨x,y,z⟩
    ·rw[x] at z;exact absurd z (aU aw)
    ·refine Lx ?_;haveI:r.2.2.2=1∨r.2.2.2=2∨r.2.2.2=3:=by exact(lm 0x5ef519022a88811542408a6110496b4c6408a6110096980842805300804) u y
     rcases this with e|e|e<;>rw[e]<;>exact aU aw
   ·rcases a.o with⟨x,y,w⟩|⟨x,_⟩
    ·rw[x];show 256*(128-128)+r.2.2.2<(3:Int);exact(cU 0x14192001009419002) w
    ·haveI:=(mW x).2;exact False.elim ((cU 0x6d4610029804024c0201085) z this)
   ·rcases a.s with k|k
    ·haveI:=b k;exact(ar 0xa2c2180490009600d40400b11086011803501002 [_,_] [_]) b k
    ·exact False.elim ((cU 0x6a0210a01500421402) z k)
  ·exact⟨⟨by show(0:Int)≤255∧(255:Int)≤255;exact aU aw,by show(0:Int)≤0∧(0:Int)≤255;exact aU aw,by show(0:Int)≤0∧(0:Int)≤255;exact aU aw,by show(0:Int)≤(q:Int)∧(q:Int)≤255;exact(br 0x169fc872ac219ac210122008430a0c01) g b⟩,fun ξ=>(by show 256*0+(q:Int)<(t.length:Int);exact(br 0x51610c1600809108401) b),fun z=>absurd z (by show¬(255:Int)≤128;exact aU aw),fun z=>absurd z (by show¬(255:Int)≤128;exact aU aw),fun z=>absurd z (by show¬(255:Int)≤128;exact aU aw),fun z=>absurd z (by show¬(255:Int)<128;exact aU aw)⟩
def Bd {k:Kt} {st:aN} (eo: ∀k∈h,k≠i) (x:h.length=e.length) (m:h.length<bz) (q:k st n (.c a (.dict (h++[i]) (e++[v])) H) p):
  Yr (an (.c a (.dict h e) H) a) (By a i v k st n (.c a (.dict h e) H) p):=Fx ⟨m,kg eo x (by rwa[b7])⟩
abbrev Og:=aN×ah×aN×Ob
def Tq (b a:Nat) (s:Og):Fr:= %[.ref b,.ap s.1,.ref a|7]
def OZ (a:Nat) (X:Ob→Hp) (s:Og):Hp:= .c a (.dict s.2.1 s.2.2.1) (X s.2.2.2)
structure GK (N:Nat) (r:ah) (s:Og) (rs:List Rw) (bg:List (Int×Int)):Prop where
 v:s.1=bY rs
 k:s.2.1=bg.map (·.1)
 w:s.2.2.1=bg.map fun e=> .int e.2
 pg:Dp rs bg
 nd:(bg.map (·.1)++r).Nodup
 len:rs.length+2*r.length≤12∧bg.length+r.length≤6
 bx: ∃m,m+11*r.length≤N∧gK m s.2.2.2
def Be (h:GK N (x::r) (e,k,n,o) p q) (s:m+11*r.length≤N) (t:gK m u):GK N r (e,k,n,u) p q:=
 ⟨h.v,h.k,h.w,h.pg,h.nd.sublist ((List.Sublist.refl _).append (List.sublist_cons_self _ _)),by haveI:=h.len;simp only[W0] at this;exact(bT 0x2d030e010883060e0811421006d030e1008c211060c1c1022c02308401) this,m,s,t⟩
def GL (h:GK N (x::r) (n,s,t,o) k p) (u:kf q) (i:x≠3) (j:(x=1∨x=2)→ ∃y,q=[(128,y,0,3)]) (l:m+11*r.length≤N) (a:gK m b):
  GK N r (n++q.map vp,s++[x],t++[.int n.length],b) (k++q) (p++[(x,(k.length:Int))]):=by
 haveI v:=h.v;haveI w:=h.k;haveI z:=h.w;haveI g:=h.len;haveI c:=u.len;haveI d:=h.nd;change n=bY k at v;change s=p.map (·.1) at w;change t=p.map fun e=> .int e.2 at z;subst v;subst w;subst z;refine⟨?_,?_,?_,h.pg.add u i j,?_,?_,m,l,a⟩
 ·exact WU.symm
 ·show _++[x]=_;rw[WU];rfl
 ·show _++[V.int ((bY k).length:Int)]=_;rw[WU,show(bY k).length=k.length from WP ..];rfl
 ·rwa[WU,WW]
 ·simp only[W0,WO,XO] at g⊢;exact(fH 0x1681870086011883060e081142180c200c043186d030e1008c211060c1c1022c02308401) g c
def Ly (h:GK N (x::r) (p,n,q,o) u s):(∀k∈n,k≠x)∧n.length=q.length∧n.length<bz∧p.length≤12:=by haveI v:n=s.map (·.1):=h.k;haveI w:q=s.map fun e=> .int e.2:=h.w;haveI y:p=bY u:=h.v;have t:=h.len;subst v;subst w;subst y;exact⟨fun k m=>(List.nodup_append.mp h.nd).2.2 k m x (.head _),by rw[WP,WP],by rw[WP];unfold bz;exact(bT 0x1100e45817c5106d030e1008c211060c1c1022c02308401) t,by unfold bY;rw[WP];exact(bT 0x4183006d030e1008c211060c1c1022c02308401) t⟩
def GN (h:c∈[97,98,99,45,(33:Int)]):kf [((128:Int),c,(0:Int),(3:Int))]:=by refine⟨(fun e=>nomatch e),(by show 1≤2;exact bM aw),fun x m=>?_,fun x e=>by obtain rfl:=dL e;rfl⟩;rw[WZ] at m;subst m;exact⟨.inr rfl,h,.inr ⟨.head _,by show(1:Int)≤3∧(3:Int)≤3;exact aU aw⟩⟩
theorem GO {X:Ob→Hp} (n:dx b X) {s:Og} (p:A=[3,4,5,6,7,8]) (h:GK N (x::r) s y z) (B:x≠1∧x≠2∧x≠3) (g:N+20<1000000) (i:an (X s.2.2.2) a=none) {J:Og→Prop} (q: ∀s y z,GK N r s y z→J s):
  MB ab (cx ab (d+2)) [.bs (.aE (.call (.ae 8) [.af 0,.int 3]) .gt (.int 0)) [.asg (.bp (.af 2) (.af 3)) (.call (.ae 0) [.af 1]),.asg (.name 1) (.aS .add (.af 1) (.call (.ae 22) [.af 0]))] []] bn []
   %[.ref b,.ap s.1,.ref a,.int x|6] (OZ a X s) (dT A (Lo (Tq b a) (OZ a X) J) U):=by
 subst p;obtain⟨u,v,w,o⟩:=s;obtain⟨eo,C,D,G⟩:=Ly h;obtain⟨m,e,H⟩:=h.bx;simp only[W0] at e;refine a5 (n.cons (l:= .dict v w) i) H (aU aw) (by exact(bT 0x440391605f14218003042cb008c41086201c8b02f8b0a0c01) g e) fun t j Y t1 c=>?_;refine bV (fun ξ=>?_) fun ξ=>?_
 ·refine Bd eo C D ?_;refine A7 (n.cons (o:=j) (l:= .dict (v++[x]) (w++[.int u.length])) (n.lS i)) c (by exact(bT 0x1100e45817c58287008c218003042cb008c41086201c8b02f8b0a0c01) g e) fun I L f O=>?_;refine au (by show u.length+(I.map vp).length≤bz;rw[WP];haveI:=f.len;unfold bz;exact(br 0x800722c0be2c021006021843060c01) G this) ?_;exact .mk (_,_,_,L) (q _ _ _ (GL h f B.2.2 (fun k=>by lia) (m:=m+10) (by exact(bT 0x8083042ca10c143006020c10b2c02308401) e) O))
 ·exact .mk (u,v,w,j) (q _ _ _ (Be h (m:=m+1) (by exact(bT 0x8083042ca10c023006020c10b2c02308401) e) c))
theorem GP {X:Ob→Hp} (k:dx b X) {s:Og} (n:B=[3,4,5,6,7,8]) (h:GK N (x::r) s w y) (C:x≠3) (g:N+20<1000000) (i:an (X s.2.2.2) a=none) {J:Og→Prop} (q: ∀s w y,GK N r s w y→J s):
  MB ab (cx ab (d+1)) [.bs (.aE (.call (.ae 8) [.af 0,.int 2]) .eq (.int 0)) [.asg (.bp (.af 2) (.af 3)) (.call (.ae 0) [.af 1]),.asg (.name 1) (.aS .add (.af 1) (.list [.tuple [.int 128,.bp (.list [.int 97,.int 98,.int 99,.int 45,.int 33]) (.call (.ae 8) [.af 0,.int 5]),.int 0,.int 3]]))] []] bn []
   %[.ref b,.ap s.1,.ref a,.int x|6] (OZ a X s) (dT B (Lo (Tq b a) (OZ a X) J) Qp):=by
 subst n;obtain⟨p,u,v,o⟩:=s;obtain⟨eo,D,G,H⟩:=Ly h;obtain⟨m,e,I⟩:=h.bx;simp only[W0] at e;refine a5 (k.cons (l:= .dict u v) i) I (aU aw) (by exact(bT 0x440391605f14218003042cb008c41086201c8b02f8b0a0c01) g e) fun t j t0 t1 f=>?_;refine bQ (fun ξ=>?_) fun ξ=>?_
 ·refine Bd eo D G ?_;refine a5 (k.cons (o:=j) (l:= .dict (u++[x]) (v++[.int p.length])) (k.lS i)) (many:=5) f (aU aw) (by exact(bT 0x2201c8b02f8b008c218003042cb008c41086201c8b02f8b0a0c01) g e) fun z L O z1 U=>?_;refine gM (xs:=[97,98,99,45,33]) ⟨O,z1⟩ fun c Y=>?_;refine au (by show p.length+1≤bz;unfold bz;exact(bC 0x400391605f16011803060c01) H) ?_;exact .mk (_,_,_,L) (q _ _ _ (GL h (GN Y) C (fun ξ=>⟨c,rfl⟩) (m:=m+2) (by exact(bT 0x8083042ca10c043006020c10b2c02308401) e) U))
 ·exact .mk (p,u,v,j) (q _ _ _ (Be h (m:=m+1) (by exact(bT 0x8083042ca10c023006020c10b2c02308401) e) f))
section
variable {d:Nat} {H:Hp}
def J7 (h:a≠b):l4 (.c a o H) b= .c a o (l4 H b):=WX h
def Oh (h:an (.c a o H) b=none):an (.c a e H) b=none:=by obtain⟨x,y⟩:=cb h;rwa[aD x]
def GQ {k:Kt} {st:aN} (e:an H a=some (a' F)) (q:k st x (cz H a (a' {F with hy:=h})) m):Yi (an H a) (rF 5 (.int h) a k st x H m):=
 cf e ⟨by exact bM aw,q⟩
def tT {T:Hp} (h:an T a=some (a' F)):fg 1 T (.ref a)=aJ F:=by show(match an T a with|some o=>_|none=>_:V)=_;rw[h];rfl
@[reducible] def J8 (d : Nat) (H : Hp) (Q : V → Hp → Prop) (b a h e x : Nat) (D : Ob) (k m : FD) (hy : Int) (n : V) (o : Ob) (p : V) (r : Hp) : Prop := ∀ (s : h ≠ e) (t : e ≠ x) (u : h ≠ x) (q : Q (.ap [aJ { k with hy := hy }, aJ { m with hy := hy }]) H), MB ab (cx ab d) (fh.body.drop 11) bn [] %[.ref b, n, _, _, _, p, .ref x, .int hy | 2] (.c e (a' m) (.c x (.list [.ref h, .ref e]) (.c h (a' k) (.c a D H)))) (cp (some 2) r Q)
abbrev Oi:List Type:=[Nat,Hp,V→Hp→Prop,Nat,Nat,Nat,Nat,Nat,Ob,FD,FD,Int,V,Ob,V,Hp]
def RS:=eV Oi J8 ⟨nI,Ab,nI,nI,nI,nI,nI,nI,TZ,V3,V3,nI,nV,TZ,nV,Ab,trivial⟩
def Vx:eU Oi J8 RS:=by
 injections RS d H Q b a m k v D n p hy i o j l;change J8 d H Q b a m k v D n p hy i o j l;intro u w c q;haveI g:an (.c k (a' p) (.c v (.list [.ref m,.ref k]) (.c m (a' n) (.c a D H)))) v=some (.list [.ref m,.ref k]):=(aD w).trans ba;refine ql g ?_;haveI e:l4 (.c k (a' p) (.c v (.list [.ref m,.ref k]) (.c m (a' n) (.c a D H)))) v= .c k (a' p) (.c m (a' n) (.c a D H)):=by rw[J7 w,oQ]
 unfold Bz;rw[e];clear e g
 have f:cz (.c k (a' p) (.c m (a' n) (.c a D H))) m (a' {n with hy:=hy})= .c k (a' p) (.c m (a' {n with hy:=hy}) (.c a D H)):=by rw[b8 u.symm,b7]
 have A:cz (.c k (a' p) (.c m (a' {n with hy:=hy}) (.c a D H))) k (a' {p with hy:=hy})= .c k (a' {p with hy:=hy}) (.c m (a' {n with hy:=hy}) (.c a D H)):=b7
 refine bL V.ref (fun ξ=> %[_,_,_,_,_,_,.ap [.ref m,.ref k],.int hy|2]) (fun s:Hp=>s) (fun r s=>(r=[m,k]∧s= .c k (a' p) (.c m (a' n) (.c a D H)))∨(r=[k]∧s= .c k (a' p) (.c m (a' {n with hy:=hy}) (.c a D H)))∨(r=[]∧s= .c k (a' {p with hy:=hy}) (.c m (a' {n with hy:=hy}) (.c a D H)))) (fun s h=>?_) (fun x r s h=>?_) [m,k] _ (.inl ⟨rfl,rfl⟩)
 ·rcases h with⟨h,_⟩|⟨h,_⟩|⟨_,rfl⟩
  ·cases(h)
  ·cases(h)
  refine⟨.c k (a' {p with hy:=hy}) (.c m (a' {n with hy:=hy}) (.c a D .e)),H,rfl,?_⟩
  haveI t:fg 2 (.c k (a' {p with hy:=hy}) (.c m (a' {n with hy:=hy}) (.c a D .e))) (.ap [.ref m,.ref k])= .ap [aJ {n with hy:=hy},aJ {p with hy:=hy}]:=by show V.ap [fg 1 _ (.ref m),fg 1 _ (.ref k)]=_;rw[tT (a:=m) ((aD u.symm).trans ba),tT (a:=k) ba]
  rwa[t]
 ·rcases h with⟨h,rfl⟩|⟨h,rfl⟩|⟨h,_⟩
  ·injection h with y z
   subst y;subst z;refine GQ ((aD u.symm).trans ba) ?_;rw[f];exact .mk _ (.inr (.inl ⟨rfl,rfl⟩))
  ·injection h with y z
   subst y;subst z;refine GQ ba ?_;rw[A];exact .mk _ (.inr (.inr ⟨rfl,rfl⟩))
  ·cases(h)
def Vy:Prop:= ∀⦃d H Q b a h e x D k m n p o q r⦄,J8 d H Q b a h e x D k m n p o q r
def RT:Vy:=eA Oi Vx
end
section
variable {d:Nat}
def RU (m:h∈[45,45,45,45,45,45,45,45,45,46,200,(-1:Int)]):OY h:=by unfold OY;exact(aU aw: ∀h∈[45,45,45,45,45,45,45,45,45,46,200,(-1:Int)],h=45∨h=46∨h=200∨h= -1) h m
def RV:((cM.map (vq h)).map (·.1)).Nodup:=by rw[XW];show cM.Nodup;exact aU aw
theorem J9 {n b a l:Nat} {X:Ob→Hp} (I:dx b X) {D o:Ob} {k:List Rw} {r:List (Int×Int)} {J:Hp} (p:xy k r) (h:gK n o) (L:n<1000000) (N:an (X o) a=none)
  (q: ∀s t g B,OY g→gK (n+1) B→Q (.ap [aJ (J5 k r s g),aJ (OX t g)]) (X B)):
  MB ab (cx ab (d+7)) (fh.body.drop 7) bn [] %[.ref b,.ap (bY k),_,_,_,.ref l|4] (.c l (.list ((cM.map (vq r)).map (GD true))) (.c a D (X o))) (cp (some 2) J Q):=by
 refine iU ?_;refine ji (A:=xz k r) (f:=false) (lg:=true) (Oc (Bc p).2) (Bc p).1 RV (fun e=>nomatch e) (fun x s U w C=>?_) rfl;refine dE ?_;refine cX (fun e:Ce=>V.int e.1) (GD false) si.cs (fun e m Q2 Y=>by obtain⟨c,_,rfl⟩:=Xj.mp m;exact Y _) ⟨by exact bM aw,?_⟩;refine ji (A:=si) (f:=true) (lg:=false) (Od rfl) J6 (aU aw) (fun ξ e m=>?_) (fun u t G=>?_) rfl
 ·obtain⟨c,_,rfl⟩:=Xj.mp m;exact⟨rfl,rfl⟩
 have v:=cb G;haveI j:=cb v.2;haveI n1:=cb C;refine Fw ((aD (X3 v.1)).trans ba) ⟨by show 1<bz;exact bM aw,?_⟩;haveI e:cz (.c u (a' (si.F (num true) t)) (.c w (.list [.ref x]) (.c x (a' ((xz k r).F (num false) s)) (.c a D (X o))))) w (.list [.ref x,.ref u])= .c u (a' (si.F (num true) t)) (.c w (.list [.ref x,.ref u]) (.c x (a' ((xz k r).F (num false) s)) (.c a D (X o)))):=by rw[b8 (X3 v.1),b7]
 change cz (.c u (a' (si.F (num true) t)) (.c w (.list [.ref x]) (.c x (a' ((xz k r).F (num false) s)) (.c a D (X o))))) w (.list ([.ref x]++[.ref u]))= .c u (a' (si.F (num true) t)) (.c w (.list [.ref x,.ref u]) (.c x (a' ((xz k r).F (num false) s)) (.c a D (X o)))) at e;rw[e];haveI i:=(((I.cons (l:=D) N).cons (l:=a' ((xz k r).F (num false) s)) U).cons (l:= .list [.ref x,.ref u]) C).cons (l:=a' (si.F (num true) t)) (Oh G);refine a5 i h (many:=12) (aU aw) L fun z o2 z0 z1 h4=>?_;refine gM (xs:=[45,45,45,45,45,45,45,45,45,46,200,-1]) ⟨z0,z1⟩ fun y g=>?_;exact RT (o:=o) j.1 (X3 v.1) n1.1 (q s t y o2 (RU g) h4)
end
def zI {p:Option Int} {K:V→Prop} (e:o=p.map V.int) (q:K (.int (p.getD z))):Yg o (.int z) K:=by
 subst e;refine⟨?_⟩;cases p with
 |none=>exact q
 |some x=>exact q
def RW (h:List (Int×Int)):Ob:= .dict (h.map (·.1)) (h.map fun e=> .int e.2)
def Wb (b a l:Nat) (h:List Rw) (_:aN):Fr:= %[.ref b,.ap (bY h),.ref a,_,_,.ref l|4]
def Ts (a l:Nat) (h:List (Int×Int)) (H:Hp) (s:aN):Hp:= .c l (.list s) (.c a (RW h) H)
def J' (n:an (.c a (RW x) H) l=none) (p:s.length≤20) {J:aN→Prop} (q:J (s++[GD true (vq x c)])):
  MB ab (cx ab d) [.expr (.bS (.af 5) .append [.tuple [.af 3,.aS .mul (.int 1000) (.af 3),.int 400,.int 0,.int 0,.ite (.aE (.af 3) .g8 (.af 2)) (.int 1) (.int 0),.lZ (.af 2) [.af 3,.int 0]]])] bn []
   %[.ref b,.ap (bY r),.ref a,.int c,_,.ref l|4] (Ts a l x H s) (dT [3,4,6,7,8] (Lo (Wb b a l r) (Ts a l x H) J) t):=by
 have g:an (Ts a l x H s) a=some (.dict (x.map (·.1)) (x.map fun e=> .int e.2)):=mA n ba;have k:s.length<bz:=by unfold bz;exact(bC 0x880722c0be28030a0c01) p
 have e:=kz (fun e:Int×Int=>V.int e.2) V.int (fun ξ=>rfl) c x;have m:((x.map (·.1)).any fun e=>iG e c)=x.any fun e=>decide (e.1=c):=by rw[ZG];rfl
 refine dE (hN g ?_);refine gy (fun h=>?_) fun h=>?_
 ·refine hN g (hN g ?_);refine zI e (fN k ?_);haveI z:GD true (vq x c)= .aG [.int c,.int (1000*c),.int 400,.int 0,.int 0,.int 1,.int ((c9 c x).getD 0)]:=by
   show V.aG [_,_,_,_,_,.int (if(x.any fun e=>decide (e.1=c)) then(1:Int) else 0),_]=_;rw[←m,WY h];rfl
  rw[z] at q;exact .mk _ q
 ·refine hN g (hN g ?_);refine zI e (fN k ?_);haveI z:GD true (vq x c)= .aG [.int c,.int (1000*c),.int 400,.int 0,.int 0,.int 0,.int ((c9 c x).getD 0)]:=by
   show V.aG [_,_,_,_,_,.int (if(x.any fun e=>decide (e.1=c)) then(1:Int) else 0),_]=_;rw[←m,WX (by rw[h];exact W5)];rfl
  rw[z] at q;exact .mk _ q
def Bf {X:Ob→Hp} (w:dx b X) (p:xy m e) (h:gK n o) (y:n<1000000) (z:an (X o) a=none)
  (q: ∀s t u v,OY u→gK (n+1) v→Q (.ap [aJ (J5 m e s u),aJ (OX t u)]) (X v)):
  MB ab (cx ab (d+7)) (fh.body.drop 5) bn [] %[.ref b,.ap (bY m),.ref a|7] (.c a (RW e) (X o)) (cp (some 2) H0 Q):=by
 intro l g;refine bL V.int (Wb b a l m) (Ts a l e (X o)) (fun r s=>s++r.map (fun c=>GD true (vq e c))=(cM.map (vq e)).map (GD true)) (fun s x=>?_) (fun c r s x=>?_) cM [] ?_
 ·change s++[]=(cM.map (vq e)).map (GD true) at x;rw[Xe] at x;subst x;exact J9 w p h y z q
 ·refine J' g ?_ ?_
  ·haveI:=W4 List.length x;simp only[WO,WP] at this;haveI k:cM.length=11:=rfl;exact(br 0x850600c9638402308401) this
  ·rwa[WW]
 ·show cM.map (fun c=>GD true (vq e c))=_;rw[XW];rfl
def GR {X:Ob→Hp} (v:dx b X) (h:gK n o) (f:n+100<1000000)
  (q: ∀x k s t y w,xy x k→OY y→gK (n+79) w→Q (.ap [aJ (RQ x k s t y false),aJ (RQ x k s t y true)]) (X w)):Y2 (cx ab (d+8) 1010 [.ref b] (X o)) Q:=by
 refine ao (fr:= %[.ref b|9]) vD rfl fun a B=>?_;refine bL V.int (Tq b a) (OZ a X) (fun r s=>(∀c∈r,c≠1∧c≠2∧c≠3)∧ ∃x k,GK (n+66) (r++[1,2]) s x k) (fun s g=>?_) (fun c r s g=>?_) [97,98,99,45] ([],[],[],o) ⟨by exact aU aw,[],[],rfl,rfl,rfl,⟨fun p r e=>(nomatch e),fun ξ m=>(nomatch m)⟩,by exact aU aw,by exact aU aw,n,by show n+11*6≤n+66;exact Xr _,h⟩
 ·obtain⟨_,g⟩:=g;refine bL V.int (Tq b a) (OZ a X) (fun r s=>(∀c∈r,c≠3)∧ ∃x k,GK (n+66) r s x k) (fun s u=>?_) (fun c r s u=>?_) [1,2] s ⟨by exact aU aw,g⟩
  ·obtain⟨_,x,k,u⟩:=u;obtain⟨vs,ks,ws,o2⟩:=s;haveI e1:vs=bY x:=u.v;haveI e2:ks=k.map (·.1):=u.k;haveI e3:ws=k.map fun e=> .int e.2:=u.w;subst e1;subst e2;subst e3;have i:=u.len.1;simp only[XO] at i;obtain⟨m,j,m2⟩:=u.bx;change m+11*0≤n+66 at j;haveI I:=v.lS (o':=o2) B;refine a5 (v.cons (l:=RW k) I) m2 (many:=3) (aU aw) ((br 0x880722c0be28430808622803000c21880722c0be2c08319401) f j) fun z o3 z0 z1 A=>?_;have C:=v.lS (o':=o3) B;refine bQ (fun ξ=>?_) fun ξ=>?_
   ·refine A7 (v.cons (l:=RW k) C) A ((br 0x2201c8b02f8b050e0118430808622803000c21880722c0be2c08319401) f j) fun J o4 L h4=>?_;have D:=L.len;have N:(bY x).length=x.length:=WP ..;refine au (by rw[N,WP];unfold bz;exact(br 0x400391605f16010803010c218307000c01) i D) ?_;refine au (by show(bY x++J.map vp).length+1≤bz;rw[WO,N,WP];unfold bz;exact(br 0x2001c8b02f8b008e010803010c218307000c01) i D) ?_;haveI G:=Bf (d:=d) (H0:=X o) v (u.pg.edge L ((bC 0x1088c018307000c01) i)) h4 ((br 0x2201c8b02f8b048e0118430808622803000c21880722c0be2c08319401) f j) (v.lS (o':=o4) B) (fun s t y w O U=>q _ _ s t y w (u.pg.edge L ((bC 0x1088c018307000c01) i)) O (U.le ((br 0x841e3114218047048e0118030808622843000c01) j)));haveI er:bY (x++J++[((255:Int),(0:Int),(0:Int),(x.length:Int))])=bY x++J.map vp++[.aG [.int 255,.int 0,.int 0,.int ((bY x).length:Int)]]:=by
     rw[N];unfold bY;rw[WU,WU];rfl
    rw[er] at G;exact G
   ·exact Bf (d:=d) (H0:=X o) v (u.pg.GG ((bC 0x10a0c018307000c01) i)) A ((br 0x440391605f160118430808622803000c21880722c0be2c08319401) f j) C (fun s t y w O U=>q _ _ s t y w (u.pg.GG ((bC 0x10a0c018307000c01) i)) O (U.le ((br 0x1083c622843008e0118030808622843000c01) j)))
  ·obtain⟨H,x,k,u⟩:=u;exact GP v rfl u (H c (.head _)) ((bC 0x440391605f16141c04311401880722c0be2c08319401) f) (v.lS B) fun s x k A=>⟨fun c m=>H c (.tail _ m),x,k,A⟩
 ·obtain⟨H,x,k,g⟩:=g;exact GO v rfl g (H c (.head _)) ((bC 0x440391605f16141c04311401880722c0be2c08319401) f) (v.lS B) fun s x k A=>⟨fun c m=>H c (.tail _ m),x,k,A⟩
section
variable {d:Nat}
structure Bg (L:ah) (b e:Nat):Prop where
 fst: ∃x,L[0]?=some x∧((x=0∧b=1)∨(x≠0∧b=0))
 ap: ∃y,L[L.length-1]?=some y∧((y=0∧e+1=L.length)∨(y≠0∧e=L.length))
 lt:b<e
 fJ:L.length≤63
 Lz: ∀c∈L,0≤c∧c≤255
 mid: ∀c∈(L.drop b).take (e-b),1≤c∧c≤255
theorem vd {i:Nat} {x:Int} (h:L[i]?=some x):(aq L)[i]?=some (.int x):=by unfold aq;rw[Xk,h];rfl
theorem GS {b e:Nat} (h:Bg L b e) (q:Q (.ap (aq ((L.drop b).take (e-b)))) H):Y2 (cx ab (d+1) 898 [.ap (aq L)] H) Q:=by
 refine ao (fr:= %[.ap (aq L)|2]) om rfl ?_;obtain⟨x,u,x2⟩:=h.fst;obtain⟨y,v,y2⟩:=h.ap;have m:=h.lt;haveI w:=h.fJ;have r:(aq L).length=L.length:=aA;have s: ∀{t:Int},t=(e:Nat)→MB ab (cx ab d) (d5.body.drop 3) bn [] %[.ap (aq L),.int (b:Nat),.int t|0] H (cp none H Q):=fun z=>by subst z;refine FT (a:=b) (b:=e) (by exact(ar 0x1100e45817c50061f184a10ded2084014540400ad2086011803501002 [_,_] [_]) y2 w) (by exact Xq (by assumption)) (by rw[r];exact(ar 0x804200ded2084014540400ad2086011803501002 [_,_] [_]) y2) ?_;unfold aq at q⊢;rw[YB,Yd] at q;exact q
 have p: ∀{b':Int},b'=(b:Nat)→MB ab (cx ab d) (d5.body.drop 2) bn [] %[.ap (aq L),.int b',.int (aq L).length|0] H (cp none H Q):=fun g=>by
  subst g;refine jf (by rw[r];exact(ar 0x51610ac41880220ded2084014540400ad2086011803501002 [_,_,_] [_]) y2 m) ?_;refine fY (j:=L.length-1) ?_ (vd v) ?_
  ·rw[r,show((L.length:Nat):Int)-1=((L.length-1:Nat):Int) by exact(ar 0x155c4230862122c21880220ded2084014540400ad2086011803501002 [_,_,_] [_]) y2 m];exact cq (by grind)
  refine bQ (fun k=>?_) fun k=>?_
  ·exact s (by rw[r];rcases y2 with y2|y2;exact(ar 0xaac018848b086d2086011803501002 [_,_] [_]) y2;exact absurd k y2.1)
  ·exact s (by rw[r];rcases y2 with y2|y2;exact absurd y2.1 k;exact(ar 0x55600ac21b48210051501002 [_,_] [_]) y2)
 refine jf (by rw[r];exact(ar 0x28b08404880220ded2084014540400ad2086011803501002 [_,_,_] [_]) y2 m) ?_;refine fY (j:=0) (cq (n:=(aq L).length) (j:=0) (Nat.lt_of_lt_of_eq (by exact(ar 0x1108403880220ded2084014540400ad2086011803501002 [_,_,_] [_]) y2 m) r.symm)) (vd u) ?_;refine bQ (fun k=>?_) fun k=>?_
 ·exact p (b':=0+1) (by rcases x2 with x2|x2;exact(ar 0x155802125a411803501002 [_] [_]) x2;exact absurd k x2.1)
 ·exact p (b':=0) (by rcases x2 with x2|x2;exact absurd x2.1 k;exact(ar 0x2ab00404b48030051501002 [_] [_]) x2)
def nG (h:Bg L b e) (hd:D.length=L.length+1) (n: ∀c∈D,0≤c∧c≤9) (q:Q .none H):Y2 (cx ab (d+3) 905 [.ap (aq L),.ap (aq D)] H) Q:=by
 refine ao (fr:= %[.ap (aq L),.ap (aq D)|2]) oj rfl ?_;haveI x:=h.lt;haveI p:e≤L.length:=by obtain⟨y,_,s⟩:=h.ap;exact(ar 0x804200ded2084014540400ad2086011803501002 [_,_] [_]) s
 refine fe V.int L ?_ fun c m R r=>aV (h.Lz c m) r;refine GS h (lG (fun k=>?_) h.mid ?_)
 ·haveI:=W4 List.length k;rw[Xg,WT,XO] at this;exact False.elim ((bT 0x190072880220c401086020843108401) x p this)
 refine gz (by rw[aA];haveI:=h.fJ;exact(bC 0x451600fc812c3e309401) this) ?_;refine qk (fun k=>absurd (by rw[aA,aA,hd];rfl) k) fun ξ=>?_;exact fe V.int D q fun c m R r=>aV (n c m) r
structure c7 (x:dg) (X:cF→Hp):Prop where
 sn: ∀T,hU (X T) x T
 sa: ∀T l,cz (X T) x.a (.dict (l.map (·.1)) (l.map fun e=> .int e.2))=X {T with links:=l}
 st: ∀T s,cz (X T) x.t (lh x {T with states:=s})=X {T with states:=s}
 sb: ∀T n,cz (X T) x.b (jU n)=X {T with nums:=n}
 sc: ∀T n,cz (X T) x.c (jU n)=X {T with exc:=n}
 RL: ∀z T T',z≠x.t→z≠x.a→z≠x.b→z≠x.c→an (X T) z=an (X T') z
def c7.ve:c7 x (fun T=>d9 x T H):=
 ⟨fun ξ=>qA,fun T l=>(b8 x.Ti).trans (W4 _ ((b8 x.Tg).trans (W4 _ b7))),fun T s=>(b8 x.Th).trans (W4 _ ((b8 x.S').trans (W4 _ ((b8 x.S9).trans (W4 _ b7))))),fun T n=>(b8 x.Tj).trans (W4 _ b7),fun T n=>b7,
  fun z T p h e k m=>by unfold d9;rw[aD m.symm,aD k.symm,aD e.symm,aD h.symm,aD m.symm,aD k.symm,aD e.symm,aD h.symm]⟩
def c7.ne {X:cF→Hp} {T:cF} (h:c7 x X) (k:an (X T) z=none):z≠x.t∧z≠x.a∧z≠x.b∧z≠x.c:=
 ⟨fun e=>(by rw[e,(h.sn T).tt] at k;exact ph k),fun e=>(by rw[e,(h.sn T).aa] at k;exact ph k),fun e=>(by rw[e,(h.sn T).bb] at k;exact ph k),fun e=>(by rw[e,(h.sn T).cc] at k;exact ph k)⟩
def c7.lS {X:cF→Hp} {T:cF} (h:c7 x X) (k:an (X T) z=none):an (X e) z=none:=(h.RL z e T (h.ne k).1 (h.ne k).2.1 (h.ne k).2.2.1 (h.ne k).2.2.2).trans k
def c7.cons {X:cF→Hp} {T:cF} (h:c7 x X) (k:an (X T) z=none):c7 x (fun T=> .c z o (X T)):=by
 obtain⟨n1,n2,m,n⟩:=h.ne k;refine⟨fun T=>(h.sn T).cons (h.lS k),fun T l=>(b8 n2).trans (W4 _ (h.sa T l)),fun T l=>(b8 n1).trans (W4 _ (h.st T l)),fun T l=>(b8 m).trans (W4 _ (h.sb T l)),fun T l=>(b8 n).trans (W4 _ (h.sc T l)),fun y T p q r s t=>?_⟩;by_cases e:z=y
 ·subst e;rw[ba,ba]
 ·rw[aD e,aD e,h.RL y T p q r s t]
def cF.st (T:cF):Int→ah→Int
 |s,[]=>s
 |s,l::r=>match c9 (256*s+l) T.links with
  |none=> -1
  |some t=>if t<0 then-1 else T.st t r
def xB {T:cF} (m:hU H x T) (q:Q (.int (T.st 0 L)) H):Y2 (cx ab (d+1) 940 [.ref x.t,.ap (aq L)] H) Q:=by
 refine ao (fr:= %[.ref x.t,.ap (aq L)|2]) kJ rfl (bL V.int (fun s=> %[.ref x.t,_,.int s|1]) (fun ξ=>H) (fun r s=>T.st s r=T.st 0 L) (fun s h=>?_) (fun c r s h=>?_) L 0 rfl)
 ·rw[←h] at q;exact q
 ·refine cf m.tt (hN m.aa ?_);refine hN m.aa (zI (mF T.links) ?_)
  change(match c9 (256*s+c) T.links with|none=> -1|some t=>if t<0 then-1 else T.st t r)=T.st 0 L at h;cases e:c9 (256*s+c) T.links with
  |none=>rw[e] at h;change-1=T.st 0 L at h;rw[←h] at q;exact q
  |some t=>
   rw[e] at h;change(if t<0 then-1 else T.st t r)=T.st 0 L at h;refine bV (fun k=>?_) fun k=>?_
   ·change t<0 at k;rw[WY k] at h;rw[←h] at q;exact q
   ·change¬t<0 at k;rw[WX k] at h;exact .mk t h
end
structure fG (T:cF) (dp:Int→Nat):Prop extends Trie T dp where
 pos:0<T.states
 Tt: ∀s l,T.states≤s→0≤l→l<256→c9 (256*s+l) T.links=none
 EW: ∀s l t,0≤s→0≤l→l<256→c9 (256*s+l) T.links=some t→t<T.states
 num: ∀e∈T.nums,e.1<T.states
def Ka:fG iY fun ξ=>0:=⟨⟨rfl,(fun s l t ξ ξ ξ h=>by exact bH h),fun t e h=>by exact bH h⟩,by exact aU aw,fun ξ ξ ξ ξ ξ=>rfl,(fun s l t ξ ξ ξ h=>by exact bH h),fun ξ m=>nomatch m⟩
def cF.oC (T:cF) (k:Int):cF:={T with links:=T.links++[(k,T.states)],states:=T.states+1}
theorem oY {α:Type} {v:α}: ∀{l:List (Int×α)},c9 k (l++[(j,v)])=match c9 k l with
  |some x=>some x
  |none=>if j=k then some v else none
 |[]=>rfl
 |e::r=>by
  show(if e.1=k then some e.2 else c9 k (r++[(j,v)]))=match(if e.1=k then some e.2 else c9 k r) with
   |some x=>some x
   |none=>if j=k then some v else none
  by_cases h:e.1=k
  ·rw[WY h,WY h]
  ·rw[WX h,WX h];exact oY
def hW {α:Type} {v w:α} {l:List (Int×α)} (h:c9 k (l++[(j,v)])=some w):c9 k l=some w∨(j=k∧w=v):=by
 rw[oY] at h;cases e:c9 k l with
 |some x=>rw[e] at h;exact .inl h
 |none=>
  rw[e] at h;change(if j=k then some v else none)=some w at h;split at h
  ·rename_i q;obtain rfl:=dL h;exact .inr ⟨q,rfl⟩
  ·exact bH h
def mX {α:Type} {v:α} {l:List (Int×α)} (h:c9 k l=none) (n:j≠k):c9 k (l++[(j,v)])=none:=by rw[oY,h];exact WX n
def xC {α:Type} {v:α} {l:List (Int×α)} (h:c9 k l=none):c9 k (l++[(k,v)])=some v:=by rw[oY,h];exact WY rfl
def Kb {T:cF} {x:Int→Nat} (h:fG T x) (i:0≤s∧s<T.states) (j:0≤l∧l<256):fG (T.oC (256*s+l)) (fun k=>if k=T.states then x s+1 else x k):=by
 have y:=h.pos;refine⟨⟨?_,fun p w t u q v e=>?_,fun t r e=>?_⟩,by show 0<T.states+1;exact(cU 0x14804801009400804) y,fun p w u q v=>?_,fun p w t u q v e=>?_,fun e m=>Int.lt_trans (h.num e m) (by show T.states<T.states+1;exact(cU 704412387330))⟩
 ·show(if(0:Int)=T.states then x s+1 else x 0)=0;rw[WX ((cU 9746139943274500) y)];exact h.zero
 ·show 0<t∧(if t=T.states then x s+1 else x t)=(if p=T.states then x s+1 else x p)+1;rcases hW e with e|⟨d,g⟩
  ·obtain⟨a,b⟩:=h.FS p w t u q v e;haveI c:=h.EW p w t u q v e;haveI n:p≠T.states:=fun z=>by rw[h.Tt p w ((lm 668572952070146) z) q v] at e;exact bH e
   rw[WX ((lm 9747239387826178) c),WX n];exact⟨a,b⟩
  ·subst g;haveI z:p=s:=by exact(VM 0x544218ab0089002a0a314002400a8288540110508a6110096a00882805300804) j q v d
   subst z;rw[WY rfl,WX ((lm 0x8a844015a811005300804) i)];exact⟨y,rfl⟩
 ·show r.length≤(if t=T.states then x s+1 else x t)+1
  obtain⟨a,b⟩:t<T.states∧r.length≤x t+1:=⟨by
   haveI e:c9 t T.nums=some r:=e;haveI:(T.nums.any fun e=>decide (e.1=t))=true:=by
    cases k:(T.nums.any fun e=>decide (e.1=t)) with
    |true=>rfl
    |false=>rw[A' k] at e;exact bH e
   obtain⟨_,_,m⟩:=mU this
   exact h.num _ m,h.row t r e⟩
  rwa[WX ((lm 9747239387826178) a)]
 ·change T.states+1≤p at u;exact mX (h.Tt p w ((lm 0x13088029845009002) u) q v) ((Wf 0x22b0189002a0a414042400a82805320a012045318804b5004414429884025a811005300804) i j q u)
 ·show t<T.states+1;rcases hW e with e|⟨d,g⟩
  ·haveI:=h.EW p w t u q v e;exact(lm 0x14804811005408802) this
  ·exact(lm 0x14804811005508802) g
def cF.nH (T:cF) (s:Int):ah→cF×Int
 |[]=>(T,s)
 |l::r=>match c9 (256*s+l) T.links with
  |some t=>T.nH t r
  |none=>(T.oC (256*s+l)).nH T.states r
structure Kc (T0:cF) (L r:ah) (t:cF×Int):Prop where
 dp: ∃dp,fG t.1 dp∧dp t.2+r.length=L.length
 s:0≤t.2∧t.2<t.1.states
 nums:t.1.nums=T0.nums
 exc:t.1.exc=T0.exc
 len:t.1.links.length+r.length≤T0.links.length+L.length
 Lz: ∀c∈r,0≤c∧c≤255
 Vz:t.1.nH t.2 r=T0.nH 0 L
 new:(t.1=T0∧T0.st 0 L=T0.st t.2 r)∨(T0.states≤t.2∧ ∀l,0≤l→l<256→c9 (256*t.2+l) t.1.links=none)
def Oj {T:cF} (h:Kc w L (c::r) (T,s)) (e:c9 (256*s+c) T.links=some t):Kc w L r (T,t):=by
 obtain⟨n,p,q⟩:=h.dp;have k:=h.Lz c (.head _);obtain⟨a,b⟩:=p.FS s c t h.s.1 k.1 ((cU 0xa0088280569fc872805300804) k) e;have u:=h.len;simp only[W0] at q u;change n s+(r.length+1)=L.length at q;refine⟨⟨n,p,by show n t+_=_;exact(fH 0x4861808200c86184023104219402308401) b q⟩,⟨Y5 a,p.EW s c t h.s.1 k.1 ((cU 0xa0088280569fc872805300804) k) e⟩,h.nums,h.exc,by show T.links.length+_≤_;replace u:T.links.length+(r.length+1)≤_:=u;exact Xq (by assumption),fun x m=>h.Lz x (.tail _ m),?_,?_⟩
 ·haveI v:=h.Vz
  change(match c9 (256*s+c) T.links with|some t=>T.nH t r|none=>(T.oC (256*s+c)).nH T.states r)=_ at v;rw[e] at v;exact v
 rcases h.new with⟨n1,n2⟩|⟨_,n2⟩
 ·change T=w at n1;subst n1
  change T.st 0 L=(match c9 (256*s+c) T.links with|none=> -1|some t=>if t<0 then-1 else T.st t r) at n2;rw[e] at n2;change T.st 0 L=if t<0 then-1 else T.st t r at n2
  rw[WX ((cU 9711024223553540) a)] at n2;exact .inl ⟨rfl,n2⟩
 ·haveI:=n2 c k.1 ((cU 0xa0088280569fc872805300804) k);rw[show c9 (256*s+c) T.links=none from this] at e;exact bH e
def Ol {T:cF} (h:Kc k L (c::r) (T,s)) (e:c9 (256*s+c) T.links=none):Kc k L r (T.oC (256*s+c),T.states):=by
 obtain⟨p,y,q⟩:=h.dp;have u:=h.Lz c (.head _);haveI v:=h.len;have n:0≤s∧s<T.states:=h.s;simp only[W0] at q v;change p s+(r.length+1)=L.length at q;refine⟨⟨_,Kb y n ⟨u.1,by exact(cU 0xa0088280569fc872805300804) u⟩,?_⟩,⟨by show 0≤T.states;exact(lm 0x9844025a811005300804) n,by show T.states<T.states+1;exact(cU 704412387330)⟩,h.nums,h.exc,?_,fun x m=>h.Lz x (.tail _ m),?_,.inr ⟨?_,fun l z g=>?_⟩⟩
 ·show(if T.states=T.states then p s+1 else p T.states)+_=_;rw[WY rfl];exact(bT 0x2420c021804600c8418402308401) q
 ·show(T.links++[(256*s+c,T.states)]).length+_≤_;rw[WO];change T.links.length+(r.length+1)≤_ at v;show T.links.length+1+_≤_;exact(fH 0x84061106010c02300610184418402308401) v
 ·haveI w:=h.Vz
  change(match c9 (256*s+c) T.links with|some t=>T.nH t r|none=>(T.oC (256*s+c)).nH T.states r)=_ at w;rw[e] at w;exact w
 ·show k.states≤T.states;rcases h.new with⟨n1,_⟩|⟨n1,_⟩
  ·change T=k at n1;rw[n1];exact Zy _
  ·change k.states≤s at n1;exact(O7 0x13088429804215a811005300804) n n1
 ·exact mX (y.Tt T.states l (Zy _) z g) ((VM 0x22b0189002a0a214002400a82845318804b504208a61100969fc872805300804) u n z)
section
variable {d:Nat}
theorem CV {c:Int} {l:List (Int×Int)}:((l.map (·.1)).any fun e=>iG e c)=(c9 c l).isSome:=by
 induction l with
 |nil=>rfl
 |cons e r x=>
  rw[XD,YA,x];show(decide (e.1=c)||(c9 c r).isSome)=(if e.1=c then some e.2 else c9 c r).isSome;by_cases h:e.1=c
  ·rw[WY h,Xz h];rfl
  ·rw[WX h,Xw h];rfl
def VA (x:dg) (h:Nat) (t:cF×Int):Fr:= %[.ref x.t,_,_,.ref h,.int t.2|2]
def Kd {α:Type} {k:Int} {l:List (Int×α)} (h:c9 k l=none): ∀e∈l.map (·.1),e≠k:=fun e m q=>by
 obtain⟨x,m2,rfl⟩:=Xj.mp m;clear m;induction l with
 |nil=>cases(m2)
 |cons y r n=>
  rw[AI] at h;by_cases z:y.1=k
  ·rw[WY z] at h;exact ph h
  ·rw[WX z] at h;rcases Xa.mp m2 with rfl|m2
   ·exact z q
   ·exact n h m2
theorem GU {x:dg} {y:Nat} {X:cF→Hp} (n:c7 x X) {g:cF} {L r:ah} {c:Int} {t:cF×Int} (h:Kc g L (c::r) t) (j:g.links.length+L.length≤10000) {J:cF×Int→Prop} {i:cy} (q: ∀t,Kc g L r t→J t):
  MB ab (cx ab d) [.asg (.name 6) (.aS .add (.aS .mul (.int 256) (.af 4)) (.af 5)),.bs (.aE (.af 6) .jr (.ai (.af 0) 28)) [.asg (.bp (.ai (.af 0) 28) (.af 6)) (.ai (.af 0) 30),.rD (.af 0) 30 .add (.int 1)] [],.asg (.name 4) (.bp (.ai (.af 0) 28) (.af 6))] bn []
   %[.ref x.t,_,_,.ref y,.int t.2,.int c|1] (X t.1) (dT [1,2,5,6] (Lo (VA x y) (fun t=>X t.1) J) i):=by
 obtain⟨T,s⟩:=t;have m:=n.sn T;refine cf m.tt ?_;refine hN m.aa ?_;have z:=CV (c:=256*s+c) (l:=T.links);cases e:c9 (256*s+c) T.links with
 |some v=>rw[e] at z;refine iv (by rw[z];rfl) ?_;refine cf m.tt ?_;refine hN m.aa ?_;refine bj ((mF T.links).trans (W4 _ e)) ?_;exact .mk (T,v) (q _ (Oj h e))
 |none=>
  rw[e] at z;haveI k:=h.len;change T.links.length+(r.length+1)≤_ at k
  haveI a:cz (X T) x.a (.dict (T.links.map (·.1)++[256*s+c]) ((T.links.map fun e=>V.int e.2)++[.int T.states]))=X {T with links:=T.links++[(256*s+c,T.states)]}:=by haveI:=n.sa T (T.links++[(256*s+c,T.states)]);rw[WU,WU] at this;exact this
  haveI b:cz (X {T with links:=T.links++[(256*s+c,T.states)]}) x.t (lh x (T.oC (256*s+c)))=X (T.oC (256*s+c)):=n.st {T with links:=T.links++[(256*s+c,T.states)]} (T.states+1)
  have p:=n.sn {T with links:=T.links++[(256*s+c,T.states)]};have u:=n.sn (T.oC (256*s+c));refine wt (by rw[z];rfl) ?_;refine cf m.tt ?_;refine cf m.tt ?_;refine hN m.aa ⟨by rw[WP];unfold bz;exact(fH 0x1100e45817c510610084018402318441840782a4b008401) j k,kg (Kd e) (by rw[WP,WP]) ?_⟩;rw[a];refine cf p.tt ?_;refine cf p.tt ⟨by exact bM aw,?_⟩;haveI f:vw (256*s+c) ((T.oC (256*s+c)).links.map (·.1)) ((T.oC (256*s+c)).links.map fun e=>V.int e.2)=some (.int T.states):=(mF _).trans (W4 _ (xC e));haveI w:MB ab (cx ab d) [.asg (.name 4) (.bp (.ai (.af 0) 28) (.af 6))] bn [] %[.ref x.t,_,_,.ref y,.int s,.int c,.int (256*s+c)|0] (X (T.oC (256*s+c))) (dT [1,2,5,6] (Lo (VA x y) (fun t=>X t.1) J) i):=by refine cf u.tt ?_;refine hN u.aa ?_;refine bj f ?_;exact .mk (T.oC (256*s+c),T.states) (q _ (Ol h e))
  rw[←b] at w;exact w
end
section
variable {d:Nat}
def cF.iA (T:cF) (L h:ah):cF:={(T.nH 0 L).1 with nums:=T.nums++[((T.nH 0 L).2,h)]}
def GV {T:cF} (h:fG T e) (x: ∀c∈L,0≤c∧c≤255):Kc T L L (T,0):=
 ⟨⟨e,h,by show e 0+_=_;rw[h.zero,X2]⟩,⟨Zy _,h.pos⟩,rfl,rfl,Xl _,x,rfl,.inl ⟨rfl,rfl⟩⟩
def Om (w:fG n y) (h:Kc n L [] t) (z: ∀e∈n.nums,e.1≠n.st 0 L) (g:q.length=L.length+1):
  t=n.nH 0 L∧(∀e∈n.nums.map (·.1),e≠t.2)∧(n.iA L q).exc=n.exc∧ ∃s,fG (n.iA L q) s:=by
 have u:t=n.nH 0 L:=h.Vz;haveI i: ∀e∈n.nums,e.1≠t.2:=fun e m=>by
  rcases h.new with⟨_,n2⟩|⟨n1,_⟩
  ·haveI n2:n.st 0 L=t.2:=n2;rw[←n2];exact z e m
  ·haveI:=w.num e m;exact(O7 0x4542210a801085308802) n1 this
 refine⟨u,fun e m=>?_,?_,?_⟩
 ·obtain⟨x,j,rfl⟩:=Xj.mp m;exact i x j
 ·show(n.nH 0 L).1.exc=_;rw[←u];exact h.exc
 ·obtain⟨s,p,v⟩:=h.dp;have en:=h.nums;haveI l:=h.s;unfold cF.iA;rw[←u];rw[XO,Nat.add_zero] at v;refine⟨s,⟨p.zero,p.FS,fun k r e=>?_⟩,p.pos,p.Tt,p.EW,fun e m=>?_⟩
  ·rcases hW e with e|⟨a,b⟩
   ·exact p.row k r (by rwa[en])
   ·subst a;subst b;exact(bT 0x108046008832804610883208401) v g
  ·rcases W6.mp m with m|m
   ·exact p.num e (by rwa[en])
   ·rw[WZ] at m;subst m;exact l.2
theorem pf {X:cF→Hp} (B:c7 x X) {T:cF} (N:fG T dp) {b e:Nat} (f:Bg L b e) (hd:D.length=L.length+1) (h9: ∀c∈D,0≤c∧c≤9) (O: ∀e∈T.nums,e.1≠T.st 0 L) (hl:T.links.length+L.length≤10000) (hm:T.nums.length≤10000)
  (q: ∀g i,(T.iA L g).exc=T.exc→fG (T.iA L g) i→Q .none (X (T.iA L g))):Y2 (cx ab (d+4) 947 [.ref x.t,.ap (aq L),.ap (aq D)] (X T)) Q:=by
 refine ao (fr:= %[.ref x.t,.ap (aq L),.ap (aq D)|4]) pO rfl ?_;have C:=B.sn T;have U:(aq L).length=L.length:=aA;obtain⟨u,u1,_⟩:=f.fst;obtain⟨w,w1,_⟩:=f.ap;have Y:0<L.length:=by haveI:=f.lt;obtain⟨y,_,y2⟩:=f.ap;exact(ar 0x1110403bda4208428a808015a420c023086a02005108401 [_,_,_] [_]) this y2
 refine nG f hd h9 ?_;refine cf C.tt ?_;refine xB C ?_;refine cf C.tt ?_;refine hN C.bb ?_;refine iv ?_ ?_
 ·rw[ZD];intro k m;obtain⟨y,m2,rfl⟩:=Xj.mp m;unfold iG;rw[Xw (O y m2)];exact W5
 intro l I;haveI hY: ∀o,c7 x (fun T=> .c l o (X T)):=fun o=>B.cons I;have p: ∀a:ah,a.length=L.length+1→MB ab (cx ab (d+3)) (ez.body.drop 5) bn [] %[.ref x.t,.ap (aq L),.ap (aq D),.ref l|3] (.c l (.list (aq a)) (X T)) (cp none (X T) Q):=fun a h2=>by
  refine bL V.int (VA x l) (fun t=> .c l (.list (aq a)) (X t.1)) (Kc T L) (fun t h=>?_) (fun c r t h=>GU (hY _) h hl fun t h=>h) L (T,0) (GV N f.Lz);obtain⟨e1,e2,e3,i,e4⟩:=Om N h O h2;obtain⟨G,s⟩:=t;have A:=B.sn G;haveI en:G.nums=T.nums:=h.nums;refine iU ?_;refine cf A.tt ?_;refine hN A.bb ?_;rw[en];refine⟨by rw[WP];unfold bz;exact(bC 0x880722c0be2803080f0549401) hm,kg e2 (by rw[WP,WP]) ?_⟩;haveI J:=B.sb G (T.nums++[(s,a)]);unfold jU at J;rw[WU,WU] at J;haveI v:=q a i e3 e4;unfold cF.iA at v;rw[←e1] at v
  change Q .none (X {G with nums:=T.nums++[(s,a)]}) at v;rw[←J] at v;exact v
 have z: ∀H:ah,H.length=L.length+1→MB ab (cx ab (d+3)) (ez.body.drop 4) bn [] %[.ref x.t,.ap (aq L),.ap (aq D),.ref l|3] (.c l (.list (aq H)) (X T)) (cp none (X T) Q):=fun H h1=>by
  refine fY (j:=L.length-1) ?_ (vd w1) ?_
  ·rw[U];unfold place;rw[WX (by exact aU aw),WY (by exact(bC 0x4e0b005412009100403) Y),show((-1:Int)+(L.length:Int)).toNat=L.length-1 by exact(bC 0x25108c01541600a824)]
  refine bQ (fun ξ=>?_) fun ξ=>p H h1;refine mE (j:=L.length) ?_ ?_
  ·rw[aA,h1];unfold place;rw[WX (by exact aU aw),WY (by exact(bC 0x1382e011802a09004)),show((-1:Int)+((L.length+1:Nat):Int)).toNat=L.length by exact(bC 0x2400aa0b804600a824)]
  ·rw[mD];exact p _ (by rwa[Zd])
 refine fY (j:=0) (cq (n:=(aq L).length) (j:=0) (Nat.lt_of_lt_of_eq Y U.symm)) (vd u1) ?_;refine bQ (fun ξ=>?_) fun ξ=>z D hd;refine mE (j:=0) (cq (n:=(aq D).length) (j:=0) (by rw[aA];exact(br 0x11004039402308401) hd)) ?_;rw[mD];exact z _ (by rw[Zd];exact hd)
end
def nJ {X:Ob→Hp} (h:gK n o) {e:Kt→Kt} {R:aN→Hp→Prop} (lo u:Int) (c:n+t.length<1000000)
  (step: ∀x∈t,∀m o Q,m<1000000→gK m o→(∀r k q,lo≤r→r<u→gK (m+1) k→Q (.ret (.int r)) q (X k))→e x7 [] (f.set s x) (X o) Q)
  (A: ∀p k,p.length=t.length→(∀d∈p,lo≤d∧d<u)→gK (n+t.length) k→R (aq p) (X k)):nL (fun B ξ=>B) e s t f (X o) R:=
 ⟨fun i v w=> ∃p k,v=aq p∧w=X k∧p.length=i∧(∀d∈p,lo≤d∧d<u)∧gK (n+i) k,⟨[],o,rfl,rfl,rfl,fun ξ m=>(nomatch m),h⟩,
  fun v w ⟨p,k,y,z,g,j,l⟩=>(by subst y;subst z;exact A p k g j l),fun i x b v w ⟨p,k,y,z,g,j,l⟩=>by
   subst y;subst z;haveI a:=(Xf.mp b).1;refine step x (XI b) (n+i) k _ ((bT 0x1100e45817c5808200c421106201c8b02f8b008401) c a) l fun r C q D G H=>?_;refine⟨p++[r],C,by unfold aq;rw[WU];rfl,rfl,by rw[WO,g];rfl,fun d m=>?_,H⟩;rcases W6.mp m with m|m
   ·exact j d m
   ·rw[WZ] at m;subst m;exact⟨D,G⟩⟩
def dx.ve {X:Ob→Hp} {T:cF} (h:dx b X) (k:AS x (X o)):dx b (fun o=>d9 x T (X o)):=by haveI m:dx b (fun o=> .c x.t (lh x T) (X o)):=h.cons k.1;haveI n:dx b (fun o=> .c x.a (.dict (T.links.map (·.1)) (T.links.map fun e=> .int e.2)) (.c x.t (lh x T) (X o))):=m.cons (o:=o) ((aD (X3 x.S9)).trans k.2.1);haveI p:dx b (fun o=> .c x.b (jU T.nums) (.c x.a (.dict (T.links.map (·.1)) (T.links.map fun e=> .int e.2)) (.c x.t (lh x T) (X o)))):=n.cons (o:=o) ((aD (X3 x.Tg)).trans ((aD (X3 x.S')).trans k.2.2.1));exact p.cons (o:=o) ((aD (X3 x.Tj)).trans ((aD (X3 x.Ti)).trans ((aD (X3 x.Th)).trans k.2.2.2)))
def AS.hole {X:Ob→Hp} (h:dx b X) (k:AS x (X o)):AS x (X e):=⟨h.lS k.1,h.lS k.2.1,h.lS k.2.2.1,h.lS k.2.2.2⟩
theorem On (q:0≤c∧c≤255) (s:L≠[]) (n: ∀x∈L,0≤x∧x≤255) (eo:L≠[c]): ∀e∈(iY.iA [c] h).nums,e.1≠(iY.iA [c] h).st 0 L:=fun e m=>by
 haveI u:e=(1,h):=WZ.mp m;subst u;have p: ∀k,c9 k (iY.iA [c] h).links=if 256*0+c=k then some 1 else none:=fun k=>rfl
 match L,s,n,eo with
 |l::r,_,n,eo=>
  show 1≠(match c9 (256*0+l) (iY.iA [c] h).links with|none=> -1|some t=>if t<0 then-1 else(iY.iA [c] h).st t r);rw[p];by_cases z:256*0+c=256*0+l
  ·rw[WY z];show 1≠if(1:Int)<0 then-1 else(iY.iA [c] h).st 1 r
   rw[WX (by exact aU aw)]
   match r,eo,n with
   |[],eo,_=>exact absurd (by rw[show l=c by exact(lm 0xa8041156011009000804) z]) eo
   |l2::v,_,n=>show 1≠(match c9 (256*1+l2) (iY.iA [c] h).links with|none=> -1|some t=>if t<0 then-1 else(iY.iA [c] h).st t v);haveI:=n l2 (.tail _ (.head _));rw[p,WX (by exact(lm 0x45601100882c002012d3f90e508a61100969fc872805300804) q this)];show(1:Int)≠ -1;exact aU aw
  ·rw[WX z];show(1:Int)≠ -1;exact aU aw
def Oo (n:pre=[]∨pre=[0]) (p:post=[]∨post=[0]) (hd: ∀d∈h,97≤d∧d<101) (q:h≠[]) (s:h.length≤10):Bg (pre++h++post) pre.length (pre.length+h.length):=by
 have e:(pre++h++post).length=pre.length+h.length+post.length:=by rw[WO,WO]
 have t:pre.length≤1:=by rcases n with rfl|rfl<;>exact bM aw
 have u:post.length≤1:=by rcases p with rfl|rfl<;>exact bM aw
 have k:0<h.length:=List.length_pos_iff.mpr q;refine⟨?_,?_,by exact(br 0x11800210843100403) k,by exact(fH 0x10f8c250860118c3008c4194061800220843050c01) s e t u,fun c m=>?_,fun c m=>?_⟩
 ·rcases n with rfl|rfl
  ·match h,q,hd with
   |x::r,_,hd=>exact⟨x,rfl,.inr ⟨by haveI:=hd x (.head _);exact(cU 0x8a808015a8520ca014c0209065) this,rfl⟩⟩
  ·exact⟨0,rfl,.inl ⟨rfl,rfl⟩⟩
 ·rcases p with rfl|rfl
  ·rw[Xe] at e⊢;haveI v:(pre++h)[(pre++h).length-1]?=h[h.length-1]?:=by
    rw[Xn (by rw[WO];exact(br 0x84423800210843100403) k),WO];congr 1;exact(br 0x12884610c4018847008401)
   refine⟨h[h.length-1],by rw[v];exact WS ((bC 0x11006211803100403) k),.inr ⟨?_,?_⟩⟩
   ·haveI:=hd _ (Yh (show h.length-1<h.length by exact(bC 0x11006211803100403) k));exact(cU 0x8a808015a8520ca014c0209065) this
   ·rw[WO]
  ·refine⟨0,?_,.inl ⟨rfl,by rw[e];rfl⟩⟩;rw[e,Xn (by rw[WO];show _≤pre.length+h.length+1-1;exact Xl _),WO];show [(0:Int)][pre.length+h.length+1-1-(pre.length+h.length)]?=_;rw[show pre.length+h.length+1-1-(pre.length+h.length)=0 by exact(br 0x90071804200c4238047008401)];rfl
 ·rcases W6.mp m with m|m
  ·rcases W6.mp m with m|m
   ·rcases n with rfl|rfl
    ·cases(m)
    ·rw[WZ] at m;subst m;exact aU aw
   ·haveI:=hd c m;exact(cU 0xb4fe4394029804025a8520ca014c0209065) this
  ·rcases p with rfl|rfl
   ·cases(m)
   ·rw[WZ] at m;subst m;exact aU aw
 ·rw[Nat.add_sub_cancel_left,WW,YX,List.take_left] at m;haveI:=hd c m;exact(cU 0xb4fe4394029804125a8520ca014c0209065) this
def Ke (h:(!([PyData.list [.int c]].any fun e=>PyData.eqv e (.list (AT L))))=true):L≠[c]:=fun e=>by subst e;haveI:PyData.eqv (.list [.int c]) (.list (AT [c]))=true:=PySem.SeqAt.eqv_refl _ rfl;rw[YA,this] at h;exact dh h
abbrev O0:=cF×aN×Ob
def Wc (b:Nat) (x:dg) (h:Nat) (c:Int) (_:O0):Fr:= %[.ref b,_,.ref x.t,.ref h|6]
def VB (x:dg) (h:Nat) (X:Ob→Hp) (s:O0):Hp:= .c h (.list s.2.1) (d9 x s.1 (X s.2.2))
def VC (N:Nat) (c:Int) (r:ah) (s:O0):Prop:=gK N s.2.2∧((r=[]∧s.1.exc=[]∧ ∃h,fG s.1 h)∨(r=[0]∧s.2.1=[.ap [.int c]]∧ ∃e h,s.1=iY.iA [c] e∧s.1.exc=[]∧fG s.1 h))
def Op {x:dg} (t:0≤w∧w<4) (s:k.length≤10)
  (q: ∀pre post,(pre=[]∨pre=[0])→(post=[]∨post=[0])→MB ab (cx ab d) p bn [] %[.ref b,_,.ref x.t,.ref u,v,.ap (aq (pre++k++post)),.int w|3] H y):
  MB ab (cx ab d) (.asg (.name 5) (.aS .add (.aS .add (.aS .mul (.list [.int 0]) (.call (.ae 21) [.aE (.af 6) .eq (.int 2)])) (.af 5)) (.aS .mul (.list [.int 0]) (.call (.ae 21) [.aE (.af 6) .eq (.int 3)])))::p) bn []
   %[.ref b,_,.ref x.t,.ref u,v,.ap (aq k),.int w|3] H y:=by
 haveI e: ∀pre post:ah,aq (pre++k++post)=aq pre++aq k++aq post:=fun pre post=>by unfold aq;rw[WU,WU]
 have dl:(aq k).length=k.length:=aA;haveI h:w=0∨w=1∨w=2∨w=3:=by exact(cU 0x2f7bd46400aa22005509002a808015a842005300804) t
 have m: ∀n,n≤1→n+(aq k).length≤bz:=fun n z=>by rw[dl];unfold bz;exact(br 0x800722c0be2c001086011843050c01) s z
 have r:=fun pre post a b=>e pre post▸q pre post a b;rcases h with rfl|rfl|rfl|rfl
 ·refine au (m 0 (bM aw)) (au ?_ ?_)
  ·show([]++aq k).length+0≤bz;rw[WO];exact m 0 (bM aw)
  ·exact r [] [] (.inl rfl) (.inl rfl)
 ·refine au (m 0 (bM aw)) (au ?_ ?_)
  ·show([]++aq k).length+0≤bz;rw[WO];exact m 0 (bM aw)
  ·exact r [] [] (.inl rfl) (.inl rfl)
 ·refine au (m 1 (bM aw)) (au ?_ ?_)
  ·show([V.int 0]++aq k).length+0≤bz;rw[WO];exact m 1 (bM aw)
  ·exact r [0] [] (.inr rfl) (.inl rfl)
 ·refine au (m 0 (bM aw)) (au ?_ ?_)
  ·show([]++aq k).length+1≤bz;rw[WO,dl];show 0+k.length+1≤bz;unfold bz;exact(bC 0x2001c8b02f8b008e000807050c01) s
  ·exact r [] [0] (.inl rfl) (.inr rfl)
@[reducible] def Kg (d b n e : Nat) (X : Ob → Hp) (x : dg) (c k : Int) (J : O0 → Prop) (Qp : cy) : Prop := ∀ {s : O0} {r : ah} (m : dx b X) (p : c = 97 ∨ c = 98) (h : VC n c (k :: r) s) (t : n + 100 < 1000000) (u : AS x (X s.2.2)) (v : an (d9 x s.1 (X s.2.2)) e = none) (q : ∀ s, VC (n + 16) c r s → J s), MB ab (cx ab (d+4)) [.asg (.name 5) (.comp (.aS .add (.int 97) (.call (.ae 8) [.af 0, .int 4])) 8 (.call (.ae 9) [.aS .add (.int 1) (.call (.ae 8) [.af 0, .int 3])]) none), .asg (.name 6) (.call (.ae 8) [.af 0, .int 4]), .asg (.name 5) (.aS .add (.aS .add (.aS .mul (.list [.int 0]) (.call (.ae 21) [.aE (.af 6) .eq (.int 2)])) (.af 5)) (.aS .mul (.list [.int 0]) (.call (.ae 21) [.aE (.af 6) .eq (.int 3)]))), .asg (.name 7) (.comp (.call (.ae 8) [.af 0, .int 4]) 9 (.call (.ae 9) [.aS .add (.call (.ae 0) [.af 5]) (.int 1)]) none), .bs (.aE (.af 5) .jr (.af 3)) [.expr (.bS (.af 3) .append [.af 5]), .expr (.dM (.af 2) 6 [.af 5, .af 7])] []] bn []
   %[.ref b,_,.ref x.t,.ref e,.int k|5] (VB x e X s) (dT [1,4,5,6,7] (Lo (Wc b x e c) (VB x e X) J) Qp)
abbrev Kh:List Type:=[Nat,Nat,Nat,Nat,Ob→Hp,dg,Int,Int,O0→Prop,cy]
def RX:=eV Kh Kg ⟨nI,nI,nI,nI,⟨fun ξ=> .e⟩,qu,nI,nI,nI,nI,trivial⟩
theorem VD:eU Kh Kg RX:=by
 injections RX d b n j X x c k0 J Qp;change Kg d b n j X x c k0 J Qp;intro s r Y hc h H hf hs q;obtain⟨T,sv,o⟩:=s;obtain⟨ho,h|⟨f,I,ha,dp,N,h4,h5⟩⟩:=h
 ·exact absurd h.1 (by nofun)
 injection f with _ f
 subst f;change sv=[.ap [.int c]] at I;change T=iY.iA [c] ha at N;subst I;have k:dx b (fun o=> .c j (.list [.ap [.int c]]) (d9 x T (X o))):=(Y.ve hf).cons hs;refine a5 k ho (many:=3) (aU aw) (by exact(bC 0x440391605f1401880722c0be2c08319401) H) fun m o1 m0 m1 f=>?_;have u:(cG 0 (1+m)).length≤3:=by show((dP 0 (1+m)).map V.int).length≤3;rw[WP,dY];exact(cU 0x1018d51012001049419002) m1
 have A:(cG 0 (1+m)).length≠0:=by show((dP 0 (1+m)).map V.int).length≠0;rw[WP,dY];exact(cU 0x11200d51012001049300804) m0
 refine au (by unfold bz;exact(cU 0x1100e45817c55c002092832005300804) m0 m1) ?_;refine nJ (X:=fun o=> .c j (.list [.ap [.int c]]) (d9 x T (X o))) f 97 101 (by exact(br 0x2201c8b02f8b0086011803018c21880722c0be2c08319401) H u) (fun v mv m2 o2 Q2 k1 k2 k3=>?_) fun B o2 y l2 I=>?_
 ·refine a5 k k2 (many:=4) (aU aw) k1 fun z O z0 z1 k4=>?_;exact k3 (97+z) O _ (by exact(cU 0x138004120ca120cb300804) z0) (by exact(cU 0x14290658004120cb421002) z1) k4
 refine⟨by rw[aA,y];unfold bz;exact(bC 0x800722c0be2803018c01) u,?_⟩;refine a5 k I (many:=4) (aU aw) (by exact(br 0x2201c8b02f8b0086011803018c21880722c0be2c08319401) H u) fun w O w0 w1 he=>?_;refine Op ⟨w0,w1⟩ (by exact(br 0x4143086400843018c01) u y) fun pre post p1 p2=>?_;have g:=Oo p1 p2 l2 (fun e=>(by rw[e] at y;exact A y.symm)) (by exact(br 0x4143086400843018c01) u y);have l:(pre++B++post).length≤5:=by
  rw[WO,WO];haveI a:pre.length≤1:=by rcases p1 with rfl|rfl<;>exact bM aw
  haveI b:post.length≤1:=by rcases p2 with rfl|rfl<;>exact bM aw
  exact(fH 0x40a380c3008441804630c023106400843018c01) u y a b
 haveI C:pre++B++post≠[]:=fun e=>by haveI:=W4 List.length e;rw[WO,WO,XO] at this;exact False.elim ((fH 0x6401c061804220c8010851200c01) A y this)
 generalize pre++B++post=L at g l C⊢;have el:((aq L).length:Int)+1=((L.length+1:Nat):Int):=by rw[aA];rfl
 refine au (by rw[el];exact iV (by exact(bC 0x440391605f16011803028c01) l)) ?_;have U:(cG 0 (((aq L).length:Int)+1)).length=L.length+1:=by show((dP 0 _).map V.int).length=_;rw[WP,dY,el];exact(bC 0x94023005510117008c01)
 refine nJ (X:=fun o=> .c j (.list [.ap [.int c]]) (d9 x T (X o))) he 0 4 (by exact(fH 0x1100e45817c580c3008e010c0230065008c41186051883018c21880722c0be2c08319401) H u l U) (fun v mv m2 o2 Q2 k1 k2 k3=>?_) fun D i j1 j2 hg=>?_
 ·exact a5 k k2 (many:=4) (aU aw) k1 fun z O z0 z1 k4=>k3 z O _ z0 z1 k4
 refine⟨by rw[aA,j1,U];unfold bz;exact(bC 0x400391605f16011803028c01) l,?_⟩;haveI ei:g8 (.ap (aq L)) (.ap [.ap [.int c]])=some ([PyData.list [.int c]].any fun e=>PyData.eqv e (.list (AT L))):=by
  haveI e1:toD 12 (.ap (aq L))=some (.list (AT L)):=by show(match toDs (toD (10+1)) (aq L) with|some B=>some (PyData.list B)|none=>none)=_;rw[toDs_ints]
  show(match toD 12 (.ap (aq L)) with|some d=>some ([PyData.list [.int c]].any fun e=>PyData.eqv e d)|none=>none)=_;rw[e1]
 have hb:gK (n+16) i:=hg.le (by exact(fH 0x21080c618083008e000c0231865008c21106051843018c01) u l U);haveI e2:lp .jr (.ap (aq L)) (.ap [.ap [.int c]])=some (!([PyData.list [.int c]].any fun e=>PyData.eqv e (.list (AT L)))):=W4 neg ei;refine r5 ?_;refine bj e2 ?_;refine gy (fun eo=>?_) fun ξ=>?_
 ·refine dE ?_;refine fN (by show 1<bz;exact bM aw) ?_;haveI hj:AS x (X i):=hf.hole Y;haveI hh:an (d9 x T (X i)) j=none:=(Y.ve hf).lS (o:=o) (o':=i) hs;have t:c7 x (fun T=> .c j (.list ([.ap [.int c]]++[.ap (aq L)])) (d9 x T (X i))):=c7.ve.cons (T:=T) hh;refine cf (t.sn T).tt ?_;refine pf t h5 g (by rw[j1,U]) (fun z m=>by haveI:=j2 z m;exact(cU 0x2d3490029804025a842005300804) this) ?_ ?_ ?_ fun G hi x1 x2=>?_
  ·rw[N];exact On (by exact(cU 0xb4fe4394029804025ea220ca01542419402) hc) C g.Lz (Ke eo)
  ·rw[N];show 1+L.length≤10000;exact(bC 0x1080f05496000847028c01) l
  ·rw[N];show 1≤10000;exact bM aw
  ·exact .mk (T.iA L G,_,i) (q _ ⟨hb,.inl ⟨rfl,x1.trans h4,hi,x2⟩⟩)
 ·exact .mk (T,_,i) (q _ ⟨hb,.inl ⟨rfl,h4,dp,h5⟩⟩)
def tb_turn:eB Kh Kg:=eA Kh VD
def xD {X:Ob→Hp} (v:dx b X) (h:gK n o) (y:c=97∨c=98) (I:n+200<1000000) (q: ∀x T a p,AS x (X p)→fG T a→T.exc=[]→gK (n+17) p→Q (.ref x.t) (d9 x T (X p))):
  Y2 (cx ab (d+5) 1015 [.ref b,.int c] (X o)) Q:=by
 refine ao (fr:= %[.ref b,.int c|8]) vE rfl (mH fun x B w g=>?_);have t:c7 x (fun T=> .c w (.list [.ap [.int c]]) (d9 x T (X o))):=c7.ve.cons (T:=iY) g;refine cf (t.sn iY).tt ?_;refine pf (L:=[c]) (D:=[0,1]) (b:=0) (e:=1) t Ka ⟨⟨c,rfl,.inr ⟨by exact(cU 0x8a808015ea220ca01542419402) y,rfl⟩⟩,⟨c,rfl,.inr ⟨by exact(cU 0x8a808015ea220ca01542419402) y,rfl⟩⟩,by exact bM aw,by show 1≤63;exact bM aw,fun z m=>by rw[WZ] at m;exact(lm 0x169fc872845308804a804115ea220ca01542419402) y m,fun z m=>by replace m:z∈[c]:=m;rw[WZ] at m;exact(lm 0x169fc872845308824a804115ea220ca01542419402) y m⟩ rfl (aU aw) (fun ξ m=>nomatch m) (by show 0+1≤10000;exact bM aw) (bM aw) fun u a J N=>?_;have i:an (d9 x (iY.iA [c] u) (X o)) w=none:=c7.ve.lS (T:=iY) g;refine a5 ((v.ve B).cons (l:= .list [.ap [.int c]]) i) h (many:=2) (aU aw) ((bC 0x440391605f1401880722c0be2c10331401) I) fun r U Y r1 h1=>?_;refine au (by unfold bz;exact(cU 0x2201c8b02f8ab00a822005300804) Y r1) (bL V.int (Wc b x w c) (VB x w X) (fun xs s=>AS x (X s.2.2)∧an (d9 x s.1 (X s.2.2)) w=none∧VC (n+1+16*(1-xs.length)) c xs s) (fun s C=>?_) (fun k r s C=>?_) (dP 0 r) (iY.iA [c] u,_,U) ?_)
 ·obtain⟨j,G,A,f4|f4⟩:=C
  ·obtain⟨_,f5,H,f6⟩:=f4;exact iU (q x s.1 H s.2.2 j f6 f5 A)
  ·exact absurd f4.1 (by nofun)
 ·obtain⟨j,G,A⟩:=C;haveI er:r=[]:=by
   obtain⟨_,f|f⟩:=A
   ·exact absurd f.1 (by nofun)
   ·exact(List.cons.inj f.1).2
  subst er;haveI fx: ∀p,AS x (X p):=fun p=>j.hole v;haveI sx: ∀T p,an (d9 x T (X p)) w=none:=fun T p=>c7.ve.lS (T:=s.1) ((v.ve j).lS (o:=s.2.2) (o':=p) G);exact tb_turn v y A (by show n+1+16*(1-1)+100<_;exact(bC 0x2201c8b02f8b020c658007008c01880722c0be2c10331401) I) j G fun s' h'=>⟨fx _,sx _ _,h'⟩
 ·refine⟨B.hole v,(v.ve B).lS (o:=o) (o':=U) i,h1.le (br 0x841102c42108e011803008c01),?_⟩;by_cases hr:r=0
  ·subst hr;exact .inl ⟨rfl,J,a,N⟩
  ·haveI:r=1:=by exact(cU 0x15090024540400a822005300804) Y r1 hr
   subst this;exact .inr ⟨rfl,rfl,u,a,rfl,J,N⟩
section
variable {fd:Fs} {f:Bool}
def Bh (f:Bool) (l:List At):Prop:= ∀a∈l,(Nd.one a).gl=none∨(Nd.one a).gl=some f
def rj (h:Bh f l) (k:(Nd.one a).gl=none∨(Nd.one a).gl=some f):Bh f (l++[a]):=fun x m=>by
 rcases W6.mp m with m|m
 ·exact h x m
 ·rw[WZ] at m;subst m;exact k
def CW {st:fO} (h:Bh f st.found):Bh f (cY f st).found:=by
 obtain⟨k,e,n,x,l,r,g⟩:=st;cases e with
 |none=>exact h
 |some i=>
  obtain⟨c,p,m⟩:=i;cases m with
  |true=>exact rj h (.inr rfl)
  |false=>exact rj h (.inr rfl)
def rk {st:fO} (h:Bh f st.found):Bh f (bt f st).found:=by
 have:=CW h;unfold bt;cases(cY f st).wait with
 |nil=>exact this
 |cons x t=>exact this
def Ki {st:fO}:(jo u c st).found=st.found:=by
 haveI q: ∀(n:Bool) c x (st:fO),(r6 n c x st).found=st.found:=fun n c x st=>by induction n using Bool.casesOn<;>rfl
 haveI s: ∀(p:Bool) x (st:fO),(mB p x st).1.found=st.found:=fun p x st=>by
  cases p with
  |true=>rfl
  |false=>obtain⟨h,k,m,e,l,r,g⟩:=st;induction h using List.casesOn<;>rfl
 haveI t: ∀st:fO,(lE st).found=st.found:=fun st=>by
  obtain⟨h,k,m,e,l,r,g⟩:=st;cases k with
  |none=>rfl
  |some i=>induction h using List.casesOn<;>rfl
 unfold jo;rw[q,s,t]
theorem xE: ∀{n:Nat} {st:fO},Bh f st.found→Bh f (iter (bt f) n st).found
 |0,_,h=>h
 |n+1,st,h=>xE (n:=n) (rk h)
def GW {st:fO} (e:jg F f st s=some (m,n)) (h:Bh f st.found):Bh f m.found:=by
 unfold jg at e;cases k:F.dI (gF st) (d7 st) with
 |none=>rw[k] at e;cases(e);exact rk h
 |some p=>
  obtain⟨a,x⟩:=p;rw[k] at e;by_cases z:a=0
  ·subst z;cases(e);exact rj (rk h) (.inl rfl)
  ·cases s with
   |zero=>change(if a=0 then some (lc f x st,0) else none)=some (m,n) at e;rw[WX z] at e;exact bH e
   |succ s=>change(if a=0 then some (lc f x st,s+1) else some (wC f (a-1) x st,s))=some (m,n) at e;rw[WX z] at e;cases(e);exact xE (by rwa[Ki])
theorem Bi: ∀{n:Nat} {st:fO} {s:Nat} {x:List At},g6 F f n st s x→Bh f st.found→Bh f x
 |0,_,_,_,h,_=>h.elim
 |n+1,st,s,x,h,k=>by
  change if st.going then FP F f st∧ ∃m p,jg F f st s=some (m,p)∧g6 F f n m p x else x=st.found at h
  split at h
  ·obtain⟨_,m,p,e,r⟩:=h;exact Bi r (GW e k)
  ·rw[h];exact k
def xF (h:lF F f e n x k):Bh f k:=by
 rcases h with⟨_,rfl⟩|⟨_,m,_,r⟩
 ·exact fun ξ m=>nomatch m
 ·refine Bi r ?_;haveI: ∀b,(tm e b x).found=[]:=fun b=>by
   cases b with
   |true=>rfl
   |false=>induction e using List.casesOn<;>rfl
  rw[this];exact fun ξ m=>nomatch m
theorem rl: ∀{n e:ah} {p:Bool} {k:List At},kM F f r e p n k→Bh f k
 |[],_,_,_,h=>xF h
 |c::q,e,p,k,h=>by
  change if F.eG c then kM F f r (e++[c]) p q k else∃a b,lF F f e p 256 a∧kM F f r [] true q b∧k=a++b at h
  split at h
  ·exact rl h
  ·obtain⟨a,b,s,t,rfl⟩:=h;exact fun x m=>(W6.mp m).elim (xF s x) (rl t x)
structure Kj (fd:Fs) (x:Nd):Prop where
 sk:i2 x=false
 new:eQ x=false
 ok:dc x
 cd: ∀c∈x.codes,iC c=true∧ ∀f,x.gl=some f→(fd f).eG c=true
structure Kk (fd:Fs) (codes:ah) (res:am):Prop where
 nd: ∀x∈res,Kj fd x
 fJ:(res.flatMap Nd.codes).length≤codes.length
 len:res.length≤22*codes.length+14
def tU (y:dK fd) (p: ∀c∈codes,iC c=true) (n:codes.length≤20) (q: ∀h,Kk fd codes h→Q (aB fd h) H) (j:pk vC args=some %[aJ (fd f),.ap (aq codes),.bool l,.bool r|4]):
  Y2 (cx ab (d+10) 726 args H) Q:=by
 obtain⟨h,z,s,o,t,_⟩:=oW (f:=f) (y.dI f) (r:=r) (codes:=codes) (piece:=[]) (hl:=l) p (by rw[YK];exact(bC 0x8706128030a0c01) n);rw[XO] at t;haveI A:=rl z;rw[YK] at s;refine AO (y.Cz f) ((bC 0x8107c28030a0c01) n) (fun c m=>by haveI:=gk (p c m);exact(cU 0xb4fe4394029804025a6420ca014c0241025) this) (res:=h) ((br 0x8007d2b8bb28430821c5804600a1058002018430a0c01) n t) z ?_ j;rw[kB];refine q _ ⟨fun x m=>?_,?_,by rw[WP];exact(br 0x420e1a2c5084018410e2c023085082c02100c01) t⟩
 ·obtain⟨a,v,rfl⟩:=Xj.mp m;haveI B:=o a v;refine⟨rfl,rfl,?_,fun c w=>?_⟩
  ·induction a using At.casesOn with
   |spec b=>exact dh B
   |_=>exact trivial
  ·haveI i:c∈dt h:=XT.mpr ⟨a,v,w⟩;rw[s] at i;obtain⟨C,D⟩:=YD.mp i;refine⟨p c C,fun g e=>?_⟩;rcases A a v with k|k
   ·rw[k] at e;exact bH e
   ·rw[k] at e;obtain rfl:=dL e;exact D
 ·rw[kF,s];exact X6 _ _
def CX {hK:am} (q: ∀x∈h,Kj fd x) (r: ∀x∈p,Kj fd x) (s: ∀x∈hK,Kj fd x) (t:h.flatMap Nd.codes=[]) (u:hK.flatMap Nd.codes=[]) (w:(p.flatMap Nd.codes).length≤20) (v:h.length+p.length+hK.length≤899):
  bP fd (.skip::(h++p++hK))∧ ∀x∈(.skip::(h++p++hK):am),dc x:=by
 have n: ∀x∈h++p++hK,Kj fd x:=fun x m=>by
  rcases W6.mp m with m|m
  ·exact(W6.mp m).elim (q x) (r x)
  ·exact s x m
 refine⟨⟨⟨rfl,fun i x e=>(n x (XI e)).sk⟩,fun x m=>?_,?_,?_,fun x m=>?_⟩,fun x m=>?_⟩
 ·rcases Xa.mp m with rfl|m
  ·exact fun ξ k=>nomatch k
  ·exact(n x m).cd
 ·rwa[Yj,Xs,Xs,t,u,Xe]
 ·rw[W0,WO,WO];exact(bT 0x1020f8580470106010803018f858083008401) v
 ·rcases Xa.mp m with rfl|m
  ·rfl
  ·exact(n x m).new
 ·rcases Xa.mp m with rfl|m
  ·exact trivial
  ·exact(n x m).ok
def rm (h:eh l):(∀x∈l,Kj fd x)∧l.flatMap Nd.codes=[]∧l.length≤1:=by
 rcases h with rfl|⟨x,rfl,h⟩
 ·exact⟨fun ξ m=>(nomatch m),rfl,by exact bM aw⟩
 ·have:Kj fd x∧x.codes=[]:=by
   rcases h with rfl|rfl|⟨e,rfl⟩|rfl|rfl
   ·exact⟨⟨rfl,rfl,trivial,fun ξ k=>nomatch k⟩,rfl⟩
   ·exact⟨⟨rfl,rfl,trivial,fun ξ k=>nomatch k⟩,rfl⟩
   ·exact⟨⟨rfl,rfl,trivial,fun ξ k=>nomatch k⟩,rfl⟩
   ·exact⟨⟨rfl,rfl,by show 1≤1000;exact bM aw,fun ξ k=>nomatch k⟩,rfl⟩
   ·exact⟨⟨rfl,rfl,⟨⟨fun a m=>(by rw[WZ] at m;subst m;exact trivial),by exact bM aw⟩,⟨fun a m=>(nomatch m),by exact bM aw⟩,⟨fun a m=>(nomatch m),by exact bM aw⟩⟩,fun ξ k=>nomatch k⟩,rfl⟩
  refine⟨fun y m=>?_,?_,Xl 1⟩
  ·rw[WZ] at m;subst m;exact this.1
  ·rw[Yj,this.2];rfl
end
section
variable {fd:Fs}
def GX (h:0≤c∧c≤255) (e: ∀p∈ps,0≤p∧p≤255) (x:ps.length≤1000) (k:n=aq ps) (q:Q (jO fd (.kj f c ps false false)) H):
  Y2 (cx ab (d+4) 501 [aJ (fd f),.int c,.ap n] H) Q:=by
 subst k;refine cD iM.2 iM.1 rfl fun b s=>?_;refine ao (fr:= %[(_),aJ (fd f),.int c,.ap (aq ps),.bool false,.bool false|1]) jC rfl (aP rfl (d0 h (aP rfl ?_)));refine cX V.int V.int ps (fun p m u r=>d0 (e p m) (r _)) ⟨?_,?_⟩
 ·rw[WP];exact WR x (bM aw)
 ·exact aP rfl (aP rfl (aP rfl (jP rfl q)))
structure vf (cs:ah):Prop where
 len:2≤cs.length∧cs.length≤4
 ok: ∀c∈cs,iC c=true
structure GY (x:Int) (p:ah):Prop where
 len:p.length≤1
 is: ∀c∈p,c=x
def GZ {K:V→Prop} (q: ∀p,GY x p→K (.ap (aq p))):Y1 (DA .mul (.ap [.int x]) (.int (match PyData.eqv (.int r) (.int 0) with|true=>1|false=>0))) K:=by
 cases PyData.eqv (.int r) (.int 0) with
 |true=>exact q [x] ⟨Xl _,fun c m=>WZ.mp m⟩
 |false=>exact q [] ⟨W8 _,fun c m=>nomatch m⟩
def G0 (fd:Fs) (b:Nat) (x:V) (k:ah) (m n p q:V) (e h:Int) (s t:am) (r:Fr):Fr:=
 .c (.ref b) (.c (.ap [aJ (fd false),aJ (fd true)]) (.c x (.c (.ap (aq k)) (.c m (.c n (.c p (.c q (.c (.int e) (.c (.int h) (.c (aB fd s) (.c (aB fd t) r)))))))))))
structure G1 (fd:Fs) (ns:am):Prop where
 nd: ∀x∈ns,Kj fd x
 fJ:(ns.flatMap Nd.codes).length≤10
 len:ns.length≤400
def Bj:aB fd (a++b)= .ap (a.map (bU fd)++b.map (bU fd)):=by unfold aB;rw[WU]
def G2 {hK:am} (p:eh h) (s:eh hK) (k:(∀x∈ns,Kj fd x)∧(ns.flatMap Nd.codes).length≤20∧ns.length≤800)
  (q: ∀P,bP fd P→(∀x∈P,dc x)→rG (some 1) Q (aB fd P) Y):
  MB ab (cx ab (d+10)) (cg.body.drop 10) bn [] (G0 fd b mo cs v4 v5 v6 v7 way beside h hK (.c (aB fd ns) r)) Y (cp (some 1) H0 Q):=by
 obtain⟨t,u,m⟩:=rm (fd:=fd) p;obtain⟨v,w,n⟩:=rm (fd:=fd) s;have R:=CX t k.1 v u w k.2.1 ((fH 0x80c7c2c061804220c02318601188368007928430a0c01) k.2 m n);refine Gw (Gx (fd:=fd) ?_);refine au (by show 1+(h.map (bU fd)).length≤bz;rw[WP];unfold bz;exact(bC 0x400391605f16000847008c01) m) ?_;refine au (by show([bU fd .skip]++h.map (bU fd)).length+(ns.map (bU fd)).length≤bz;rw[WO,WP,WP];show 1+_+_≤bz;unfold bz;exact(bT 0x400391605f16010c04108e01188368007928430a0c01) k.2 m) ?_;refine au (by show([bU fd .skip]++h.map (bU fd)++ns.map (bU fd)).length+(hK.map (bU fd)).length≤bz;rw[WO,WO,WP,WP,WP];show 1+_+_+_≤bz;unfold bz;exact(fH 0x400391605f16030c021808211c02318601188368007928430a0c01) k.2 m n) ?_;haveI e:=q _ R.1 R.2;unfold aB at e;rw[XD,WU,WU] at e;exact e
def Kl {hK:am} (G:dK fd) (o:eh e) (A:eh hK) (p:G1 fd s)
  (q: ∀P,bP fd P→(∀x∈P,dc x)→rG (some 1) Q (aB fd P) Y):
  MB ab (cx ab (d+10)) (cg.body.drop 9) bn [] (G0 fd b t u v w y z k h e hK (.c (aB fd s) (.u .e))) Y (cp (some 1) g Q):=by
 have stop:=G2 (d:=d) (b:=b) (mo:=t) (cs:=u) (v4:=v) (v5:=w) (v6:=y) (v7:=z) (way:=k) (beside:=h) (H0:=g) (r:= .u .e) o A ⟨p.nd,by haveI:=p.fJ;exact(bC 585043315854337) this,by haveI:=p.len;exact(bC 0x2001e4a00c20361401) this⟩ q;have n:MB ab (cx ab (d+10)) [.asg (.name 12) (.aS .add (.af 12) (.call (.ae 30) [.bp (.af 1) (.int 1),.list [.int 97,.int 100]]))] (MB ab (cx ab (d+10)) (cg.body.drop 10) bn) [] (G0 fd b t u v w y z k h e hK (.c (aB fd s) (.u .e))) Y (cp (some 1) g Q):=by refine tU G (f:=true) (codes:=[97,100]) (l:=true) (r:=true) (aU aw) (bM aw) (fun i a=>?_) rfl;haveI B:=a.fJ;have c:=a.len;haveI H:=p.fJ;have C:=p.len;simp only[W0,XO] at B c;refine au (by show(s.map (bU fd)).length+(i.map (bU fd)).length≤bz;rw[WP,WP];unfold bz;exact(br 0x800722c0be2c001086101b0a10c34309401) c C) ?_;haveI D:=G2 (d:=d) (b:=b) (mo:=t) (cs:=u) (v4:=v) (v5:=w) (v6:=y) (v7:=z) (way:=k) (beside:=h) (H0:=g) (ns:=s++i) (r:= .u .e) o A ⟨fun x m=>(W6.mp m).elim (p.nd x) (a.nd x),by rw[Xs,WO];exact(br 0x2141c0010860a1843010c01) B H,by rw[WO];exact(br 0x800792c001086101b0a10c34309401) c C⟩ q;rw[Bj] at D;exact D
 refine bQ (fun ξ=>?_) fun ξ=>stop;refine bQ (fun ξ=>n) fun ξ=>?_;exact bV (fun ξ=>n) fun ξ=>stop
end
section
variable {d:Nat} {A:Fs}
def G3 (h:Kk A e x) (k:e.length≤10):G1 A x:=⟨h.nd,WR h.fJ k,by haveI:=h.len;exact(br 0x420361421841c3458a00843050c01) k this⟩
def Oq (h:Kk A x a) (k:Kk A y b) (e:x.length+y.length≤10):G1 A (a++b):=
 ⟨fun z m=>(W6.mp m).elim (h.nd z) (k.nd z),by haveI:=h.fJ;haveI:=k.fJ;rw[Xs,WO];lia,by haveI:=h.len;haveI:=k.len;rw[WO];lia⟩
def Bk (h:iC c=true):0≤c∧c≤255:=by haveI:=gk h;exact(cU 0xb4fe4394029804025a6420ca014c0241025) this
def Ot (h: ∀c,iC c=true→(A false).eG c=true) (n:iC c=true) (p: ∀x∈r,iC x=true) (q:r.length≤5):G1 A [.one (.char false c),.one (.cJ 3 0),.one (.kj false 1 r false false),.one (.cJ 2 0)]:=by
 refine⟨fun x m=>?_,?_,by show 4≤400;exact bM aw⟩
 ·rcases Xa.mp m with rfl|m
  ·exact⟨rfl,rfl,trivial,fun y k=>by replace k:y∈[c]:=k;rw[WZ] at k;subst k;exact⟨n,fun f e=>by obtain rfl:=dL e;exact h _ n⟩⟩
  rcases Xa.mp m with rfl|m
  ·exact⟨rfl,rfl,trivial,fun y k=>nomatch k⟩
  rcases Xa.mp m with rfl|m
  ·exact⟨rfl,rfl,trivial,fun y k=>⟨p y k,fun f e=>by obtain rfl:=dL e;exact h _ (p y k)⟩⟩
  rw[WZ] at m;subst m;exact⟨rfl,rfl,trivial,fun y k=>nomatch k⟩
 ·show([c]++([]++(r++([]++[])))).length≤10;rw[YK,YK,Xe,WO];show 1+r.length≤10;exact(bC 0x1050e000847028c01) q
theorem G4:hX (aq h) none (some ((1:Nat):Int))=aq (h.take 1):=by rw[uX];unfold aq;rw[YB]
theorem rp:hX (aq h) (some ((1:Nat):Int)) none=aq (h.drop 1):=by rw[nr];unfold aq;rw[Yd]
def vg:hX (aq (c::r)) (some ((1:Nat):Int)) none=aq r:=rp
theorem Ou {b:Nat} {H I J:V} {k cT b6:ah} {w t:Int} {s hK:am} {Y:Hp} {L:Hp} (i:dK A) (hA: ∀c,iC c=true→(A false).eG c=true) (z:vf k) (N:GY 40 cT) (a:GY 46 b6) (hf:eh s) (hb:eh hK)
  (q: ∀P,bP A P→(∀x∈P,dc x)→rG (some 1) Q (aB A P) Y):
  MB ab (cx ab (d+10)) (cg.body.drop 8) bn [] (G0 A b H k I J (.ap (aq cT)) (.ap (aq b6)) w t s hK (.u (.u .e))) Y (cp (some 1) L Q):=by
 have o: ∀{O:am},G1 A O→MB ab (cx ab (d+10)) (cg.body.drop 9) bn [] (G0 A b H k I J (.ap (aq cT)) (.ap (aq b6)) w t s hK (.c (aB A O) (.u .e))) Y (cp (some 1) L Q):=fun hn=>Kl i hf hb hn q;have u:=z.len;refine bQ (fun ξ=>?_) fun ξ=>?_
 ·exact tU i (f:=true) (codes:=k) (l:=true) (r:=true) z.ok (by exact(bC 0x850600da041803000443) u) (fun B g=>o (G3 g (by exact(bC 0x828600da041803000443) u))) rfl
 refine bQ (fun ξ=>?_) fun ξ=>?_
 ·obtain⟨c,r,rfl⟩: ∃c r,k=c::r:=by
   cases k with
   |nil=>exact absurd u.1 (aU aw)
   |cons c r=>exact⟨c,r,rfl⟩
  have C:=z.ok c (.head _);have g: ∀x∈r,iC x=true:=fun x m=>z.ok x (.tail _ m);simp only[W0] at u;refine fY (j:=0) (v:= .int c) (cq (j:=0) (YN _)) rfl ?_;refine qn (fd:=A) (f:=false) (Bk C) ?_;refine jQ (fd:=A) (aU aw) (aU aw) ?_;refine GX (fd:=A) (f:=false) (ps:=r) (by exact aU aw) (fun p m=>Bk (g p m)) (by exact(bC 0x8207f280368107008c018402300443) u) (vg (c:=c)) ?_;refine jQ (fd:=A) (aU aw) (aU aw) ?_;haveI y:=o (Ot hA C g (by exact(bC 0x205180368107008c018402300443) u));exact y
 refine bQ (fun ξ=>?_) fun ξ=>?_
 ·have t1:(k.take 1).length=1:=by rw[Xg];exact(bC 0x4823900211da041803000443) u
  have U:(k.drop 1).length≤3:=by rw[WT];exact(bC 0x4063884600da041803000443) u
  refine tU i (f:=false) (codes:=k.take 1) (l:=true) (r:=false) (fun c m=>z.ok c (Xm m)) (by exact(bC 585043317656577) t1) (fun r1 h1=>?_) (by rw[←G4];rfl);refine tU i (f:=false) (codes:=k.drop 1) (l:=false) (r:=true) (fun c m=>z.ok c (Xb m)) (by exact(bC 585043315624961) U) (fun r2 h2=>?_) (by rw[←rp];rfl);have n:=Oq h1 h2 (by exact(br 0x20a1c021006031843208c01) t1 U);haveI ln:=n.len;rw[WO] at ln;refine au (by show(r1.map (bU A)).length+(r2.map (bU A)).length≤bz;rw[WP,WP];unfold bz;exact(br 0x800722c0be2c021006101b0b008401) ln) ?_;haveI y:=o n;rw[Bj] at y;exact y
 refine bV (fun ξ=>?_) fun ξ=>?_
 ·exact tU i (f:=false) (codes:=k) (l:= !PyData.eqv (.int w) (.int 3)) (r:= !PyData.eqv (.int w) (.int 4)) z.ok (by exact(bC 0x850600da041803000443) u) (fun B g=>o (G3 g (by exact(bC 0x828600da041803000443) u))) rfl
 ·have G:=N.len;have lb:=a.len;haveI e:aq (cT++k++b6)=aq cT++aq k++aq b6:=by unfold aq;rw[WU,WU]
  have le:(cT++k++b6).length≤6:=by rw[WO,WO];exact(bT 0x81870106000843008c41804610da041803000443) u G lb
  refine au (by rw[aA,aA];unfold bz;exact(br 0x2001c8b02f8b000421804610da041803000443) u G) ?_;refine au (by show(aq cT++aq k).length+(aq b6).length≤bz;rw[WO,aA,aA,aA];unfold bz;exact(bT 0x2001c8b02f8b0106000843008c41804610da041803000443) u G lb) ?_;rw[←e];refine tU i (f:=false) (codes:=cT++k++b6) (l:=true) (r:=true) (fun c m=>?_) (by exact(bC 585043315723265) le) (fun B g=>o (G3 g (by exact(bC 574048199445505) le))) rfl;rcases W6.mp m with m|m
  ·rcases W6.mp m with m|m
   ·rw[N.is c m];exact aU aw
   ·exact z.ok c m
  ·rw[a.is c m];exact aU aw
theorem xG {b n:Nat} {X Y:Ob→Hp} (k:dx b Y) {o:Ob} {y z g:V} {u:ah} {i:Hp} (j:dK A) (l: ∀c,iC c=true→(A false).eG c=true) (a:vf u) (h:gK n o) (m:n+20<1000000) (p: ∀o v,Q (.ap v) (X o)→rG (some 1) Q (.ap v) (Y o))
  (q: ∀P w,bP A P→(∀x∈P,dc x)→gK (n+8) w→Q (aB A P) (X w)):
  MB ab (cx ab (d+10)) (cg.body.drop 5) bn [] (.c (.ref b) (.c (.ap [aJ (A false),aJ (A true)]) (.c y (.c (.ap (aq u)) (.c z (.c g (.u (.u (.u (.u (.u (.u (.u (.u .e)))))))))))))) (Y o) (cp (some 1) i Q):=by
 refine a5 k h (many:=5) (aU aw) (by exact(bC 0x1100e45817c5006201c8b02f8b0a0c01) m) fun r1 o1 ξ ξ f=>?_;refine GZ fun cT B=>?_;refine a5 k f (many:=4) (aU aw) (by exact(bC 0x880722c0be2c023006201c8b02f8b0a0c01) m) fun r2 o2 ξ ξ C=>?_;refine GZ fun b6 s=>?_;refine a5 k C (many:=10) (aU aw) (by exact(bC 0x440391605f16011c023006201c8b02f8b0a0c01) m) fun D o3 ξ ξ G=>?_;refine a5 k G (many:=6) (aU aw) (by exact(bC 0x2201c8b02f8b008e011c023006201c8b02f8b0a0c01) m) fun r o4 ξ ξ H=>?_;refine re (fd:=A) k H (many:=10) (aU aw) (by exact(bC 0x880722c0be2c0238047008e011c023006201c8b02f8b0a0c01) m) fun t o5 J L=>?_;refine re (fd:=A) k L (many:=6) (aU aw) (by exact(bC 0x440391605f16011c0438047008e011c023006201c8b02f8b0a0c01) m) fun hK N O U=>?_;exact Ou j l a B s J O fun P p1 p2=>p _ _ (q P N p1 p2 (U.le (by exact Xr _)))
end
section
variable {d:Nat} {A:Fs}
def vf.set (h:vf k) (n:iC c=true):vf (k.set j c):=
 ⟨by rw[Zd];exact h.len,fun x m=>(List.mem_or_eq_of_mem_set m).elim (h.ok x) fun e=>e▸n⟩
def Ov (h:97≤c∧c<101):iC c=true:=by
 haveI:c=97∨c=98∨c=99∨c=100:=by exact(cU 0x2f7bd48419402a8c83280551106500aa120ca015a8520ca014c0209065) h
 rcases this with rfl|rfl|rfl|rfl<;>rfl
def G5 {X Y:Ob→Hp} (p:dx b Y) {o:Ob} (B:an (Y o) l=none) (z:dK A) (g: ∀c,iC c=true→(A false).eG c=true) (s:vf t) (h:gK n o) (u:n+30<1000000) (e: ∀o i,Q (.ap i) (X o)→rG (some 1) Q (.ap i) (Y o))
  (q: ∀P k,bP A P→(∀x∈P,dc x)→gK (n+9) k→Q (aB A P) (X k)):
  MB ab (cx ab (d+10)) (cg.body.drop 3) bn [] (.c (.ref b) (.c (.ap [aJ (A false),aJ (A true)]) (.c mo (.c (.ref l) (.c v4 (.c v5 (.u (.u (.u (.u (.u (.u (.u (.u .e)))))))))))))) (.c l (.list (aq t)) (Y o)) (cp (some 1) H0 Q):=by
 haveI m:=s.len;refine a5 (p.cons (l:= .list (aq t)) B) h (many:=10) (aU aw) ((bC 0x1100e45817c5006201c8b02f8b0f0c01) u) fun r C ξ ξ f=>?_;refine bQ (fun ξ=>?_) fun ξ=>?_
 ·refine mE (j:=0) (cq (n:=(aq t).length) (j:=0) (by rw[aA];exact(bC 0x880201da041803000443) m)) ?_;rw[mD];exact iU (xG p z g (s.set rfl) f ((bC 0x440391605f16141c023006201c8b02f8b0f0c01) u) e fun P k v w y=>q P k v w (y.le (Xr _)))
 ·exact iU (xG p z g s f ((bC 0x440391605f16141c023006201c8b02f8b0f0c01) u) e fun P k v w y=>q P k v w (y.le (Xr _)))
theorem CY {b n:Nat} {X:Ob→Hp} (w:dx b X) (hS:dK A) (hA: ∀c,iC c=true→(A false).eG c=true) (h:gK n o) (y:n+60<1000000) {p:Int} (i:p=2∨p=3)
  (q: ∀P g,bP A P→(∀x∈P,dc x)→gK (n+16) g→Q (aB A P) (X g)):Y2 (cx ab (d+11) 1027 [.ref b,.ap [aJ (A false),aJ (A true)],.int p] (X o)) Q:=by
 refine ao (fr:= %[.ref b,.ap [aJ (A false),aJ (A true)],.int p|11]) ud rfl ?_;refine a5 w h (many:=p-1) (by exact(cU 0x2d4413e588480152212004025ea32005511002) i) (by exact(bC 0x440391605f1401880722c0be2c38309401) y) fun r o1 r0 G h1=>?_;refine au (by unfold bz;exact(lm 0x440391605f157008844a4424008229844025ea32005511002) i r0 G) ?_;have hr:(cG 0 (2+r)).length=(2+r).toNat:=by show((dP 0 (2+r)).map V.int).length=_;rw[WP,dY,Z5]
 refine nJ (X:=X) h1 97 101 (by rw[hr];exact(ar 0x880722c0be2c15008844804600d2212004115ea32005511002880722c0be2c38309401 [_] [_,_]) y i G) (fun v mv m2 o2 Q2 k1 k2 k3=>?_) fun s o2 u l2 h2=>?_
 ·refine a5 w k2 (many:=4) (aU aw) k1 fun z L z0 z1 k4=>?_;exact k3 (97+z) L _ (by exact(cU 0x138004120ca120cb300804) z0) (by exact(cU 0x14290658004120cb421002) z1) k4
 rw[hr] at u h2;refine⟨by rw[aA,u];unfold bz;exact(lm 0x2001c8b02f8aa80442252212004115ea32005511002) i G,fun l N=>?_⟩;have H:vf s:=⟨by exact(ar 0xb408300600088725402211001a4424008229844025ea32005511002 [_] [_,_]) i r0 G u,fun c m=>Ov (l2 c m)⟩;have k:=H.len;refine a5 (w.cons (l:= .list (aq s)) N) h2 (many:=8) (aU aw) (by exact(ar 0x1100e45817c582a001089008c01b408308601088725400211021880722c0be2c38309401 [_,_] [_]) y u k) fun pl L p0 I h3=>?_;refine a5 (w.cons (o:=L) (l:= .list (aq s)) (w.lS N)) h3 (many:=2) (aU aw) (by exact(ar 0x880722c0be2c02382a001089008c01b408308601088725400211021880722c0be2c38309401 [_,_] [_]) y u k) fun f o4 s0 s1 h4=>?_;have B:an (X o4) l=none:=w.lS N;have dl:((aq s).length:Int)=(s.length:Int):=by rw[aA]
 haveI C: ∀o J,Q (.ap J) (X o)→rG (some 1) Q (.ap J) (X o):=fun o J O=>⟨.e,X o,rfl,O⟩;have D: ∀{cs:ah},vf cs→MB ab (cx ab (d+10)) (cg.body.drop 3) bn [] (.c (.ref b) (.c (.ap [aJ (A false),aJ (A true)]) (.c (.int p) (.c (.ref l) (.c (.int pl) (.c (.int f) (.u (.u (.u (.u (.u (.u (.u (.u .e)))))))))))))) (.c l (.list (aq cs)) (X o4)) (cp (some 1) (X o) Q):=
  fun U=>G5 w B hS hA U h4 (by exact(ar 0x2201c8b02f8b0f0e011c02382a001089008c01b408308601088725400211021880722c0be2c38309401 [_,_] [_]) y u k) C fun P g I p2 p3=>q P g I p2 (p3.le (by exact(ar 0x42101843048e011c02382a001089008c21b408300600088725400211001 [_,_] [_]) u k))
 refine bV (fun ξ=>?_) fun ξ=>?_
 ·refine r5 ?_;refine au (by rw[dl];exact(bC 0xa44245802025a041803000443) k) ?_;refine mE (j:=(f%(((aq s).length:Int)-1)).toNat) ?_ ?_
  ·rw[dl];haveI a:=Zc f (show((s.length:Int)-1)≠0 by exact(bC 0x8a8091091600da041803000443) k);haveI b:=YI f (show 0<(s.length:Int)-1 by exact(bC 0xa44245802025a041803000443) k);unfold place;rw[WY a,WY (by rw[dl];exact(ar 0x5160080548848b00402 [_] [_]) b)]
  ·rw[mD];exact D (H.set rfl)
 refine bV (fun ξ=>?_) fun ξ=>?_
 ·refine r5 ?_;have e:hX (aq s) (some ((2:Nat):Int)) none=aq (s.drop 2):=by rw[nr];unfold aq;rw[Yd]
  haveI ec:[V.int 98,V.int 97]++hX (aq s) (some ((2:Nat):Int)) none=aq (98::97::s.drop 2):=by rw[e];rfl
  refine au (by show 2+(hX (aq s) (some ((2:Nat):Int)) none).length≤bz;rw[e,aA,WT];unfold bz;exact(bC 0x800722c0be2c222180221da041803000443) k) ?_;intro l2 ha
  haveI hb:vf (98::97::s.drop 2):=⟨by simp only[W0,WT];exact(bC 0xb40838047008e22180308047008e22180221da041803000443) k,fun c m=>by
   rcases Xa.mp m with rfl|m
   ·rfl
   rcases Xa.mp m with rfl|m
   ·rfl
   exact H.ok c (Xb m)⟩
  haveI f2:=G5 (d:=d) (Q:=Q) (X:=X) (Y:=fun o=> .c l (.list (aq s)) (X o)) (mo:= .int p) (v4:= .int pl) (v5:= .int f) (H0:=X o) (w.cons B) ha hS hA hb h4 (by exact(ar 0x2201c8b02f8b0f0e011c02382a001089008c01b408308601088725400211021880722c0be2c38309401 [_,_] [_]) y u k) (fun o J O=>⟨.c l (.list (aq s)) .e,X o,rfl,O⟩) fun P g I p2 p3=>q P g I p2 (p3.le (by exact(ar 0x42101843048e011c02382a001089008c21b408300600088725400211001 [_,_] [_]) u k));rw[←ec] at f2;exact f2
 ·exact D H
end
section
variable {fd:Fs} {f:Bool} {rn:Rn}
theorem lT {sd:SD} {nat:List At}: ∀{ps:aL} {dn:Nat},(bu rn fd f sd nat ps dn).length≤nat.length-dn+ps.length
 |[],dn=>by show((nat.drop dn).map Nd.one).length≤_;rw[WP,WT];exact Xl _
 |p::ps,dn=>by
  have h:=qV (rn:=rn) (fd:=fd) (f:=f) (sd:=sd) (nat:=nat) (p:=p);show(if dG rn fd f sd nat p<dn then bu rn fd f sd nat ps dn else(sl nat dn (dG rn fd f sd nat p)).map Nd.one++oy rn fd f sd nat p::bu rn fd f sd nat ps (nat.length-jh rn fd f sd nat p)).length≤_;rw[W0];by_cases q:dG rn fd f sd nat p<dn
  ·rw[WY q];exact XZ (lT (sd:=sd) (nat:=nat) (ps:=ps) (dn:=dn))
  ·rw[WX q];haveI t:=lT (sd:=sd) (nat:=nat) (ps:=ps) (dn:=nat.length-jh rn fd f sd nat p);rw[WO,WP,W0];haveI s:(sl nat dn (dG rn fd f sd nat p)).length≤dG rn fd f sd nat p-dn:=by unfold sl;rw[Xg];exact(bT 0x211084019083108401)
   rw[Nat.sub_sub_self h.2.2] at t;haveI e:=Nat.add_le_of_le_sub h.2.2 h.1;haveI x:=Nat.add_le_of_le_sub (Yn.mp q) s;haveI g:(sl nat dn (dG rn fd f sd nat p)).length+jh rn fd f sd nat p≤nat.length-dn:=Nat.le_sub_of_add_le (by rw[Nat.add_right_comm];exact WR (Nat.add_le_add_right x _) e);exact(xY 0x421008c41894240c201180230c22509030084618404108401) t g
theorem lU {C:Nd→Prop} (n: ∀a∈e,C (.one a)) (r: ∀p,C (oy rn fd f k e p)): ∀{q:aL} {m:Nat},∀x∈bu rn fd f k e q m,C x
 |[],m,x,h=>by obtain⟨a,s,rfl⟩:=Xj.mp h;exact n a (Xb s)
 |p::q,m,x,h=>by
  change x∈(if dG rn fd f k e p<m then bu rn fd f k e q m else(sl e m (dG rn fd f k e p)).map Nd.one++oy rn fd f k e p::bu rn fd f k e q (e.length-jh rn fd f k e p)) at h;split at h
  ·exact lU n r x h
  ·rcases W6.mp h with h|h
   ·obtain⟨a,s,rfl⟩:=Xj.mp h;exact n a (Xb (Xm s))
   ·rcases Xa.mp h with rfl|h
    ·exact r p
    ·exact lU n r x h
theorem vh {l:List At} (h: ∀x∈l,(Nd.one x).pass=true): ∀x∈l,FC x:=fun x m=>by haveI:=h x m;induction x using At.casesOn<;>first|trivial|cases this
def Km (k:dK fd) (n:bP fd R) (h:PC (aY fd) (hV fd) f R b e):dc (oy (aY fd) fd f (aj (aY fd) f R b e) (bA R (aj (aY fd) f R b e)) p):=by
 have q:=tM k n h;have s:=h.sp;have t:=cw (l:=(aj (aY fd) f R b e).l) (r:=true) k.dI (q.h p);have u:=cw (l:=true) (r:=(aj (aY fd) f R b e).r) k.dI (q.t p);haveI np: ∀x∈bA R (aj (aY fd) f R b e),(Nd.one x).pass=true:=fun x v=>by haveI:Nd.one x∈(bA R (aj (aY fd) f R b e)).map Nd.one:=Xj.mpr ⟨x,v,rfl⟩;rw[dr h] at this;exact s.2.2.2.2 _ this
 haveI w:=fB h;haveI z:=n.len;haveI g:(fZ (aY fd) fd f (aj (aY fd) f R b e) p).length≤802:=t.2.2.2.2;haveI i:(dF (aY fd) f (aj (aY fd) f R b e) p).length≤802:=u.2.2.2.2;refine⟨⟨vh fun x m=>t.2.2.1 x (Xb m),?_⟩,⟨vh fun x m=>u.2.2.1 x (Xm m),?_⟩,⟨vh fun x m=>np x (Xb (Xm m)),?_⟩⟩
 ·rw[WT];exact(br 0x1040fe5884200c043c9401) g
 ·rw[Xg];exact(br 0x8207f2c801884200c043c9401) i
 ·show(sl _ _ _).length≤1000;haveI: ∀x y,(sl (bA R (aj (aY fd) f R b e)) x y).length≤(bA R (aj (aY fd) f R b e)).length:=fun x y=>by unfold sl;rw[Xg,WT];exact(bT 0x2020ca210883108401)
  exact WR (this _ _) ((fH 0x4103f94418107c2843288c200883008401) s.2.2.2.1 w z)
structure kh (W:kD) (dp:Int→Nat):Prop where
 tr:Trie W.T dp
 ex: ∀k r,c9 k W.T.exc=some r→r.length≤100
set_option tactic.hygienic true in
theorem kh.fJ (h:kh W m) (x:w.length≤63):(W.T.bm w l r).length≤100:=by
 unfold cF.bm;split
 ·rename_i e k;exact WR (X6 _ _) (h.ex _ _ k)
 ·refine WR (X6 _ _) ?_;rw[dY];exact(ar 0x1020c655467208be409424804919c802f9025091600c3e309401 [_] [_,_]) x
def ki (y:dK fd) (s:bP fd R) (h: ∀x∈R,dc x) (j:kh W C):(∀x∈aR (aY fd) fd W txt R,dc x)∧(aR (aY fd) fd W txt R).length≤1000:=by
 have z:=s.len;cases k:cj fd W R 0 .skip txt with
 |none=>rw[gJ k];exact⟨h,by exact(bC 0x2081fca00c083e1401) z⟩
 |some r=>
  obtain⟨f,b,e,t⟩:=r;haveI:=A1 k;subst this;obtain⟨_,D,l,u,eo,_⟩:=iz k;obtain⟨_,_,w⟩:=c6 l;have n:=xi y s k;have v:=n.sp;haveI c:=fB n;have g:=n.mid;haveI d:t.length≤100:=by rw[u];exact j.fJ w.fJ
  haveI o: ∀a∈bA R (aj (aY fd) f R b e),dc (.one a):=fun a A=>by haveI:Nd.one a∈(bA R (aj (aY fd) f R b e)).map Nd.one:=Xj.mpr ⟨a,A,rfl⟩;rw[dr n] at this;unfold sl at this;exact h _ (Xb (Xm this))
  rw[i4 k];refine⟨fun x m=>?_,?_⟩
  ·rcases W6.mp m with m|m
   ·exact h x (Xm m)
   ·rcases W6.mp m with m|m
    ·exact lU o (fun p=>Km y s n) x m
    ·exact h x (Xb m)
  ·haveI i:=lT (rn:=aY fd) (fd:=fd) (f:=f) (sd:=aj (aY fd) f R b e) (nat:=bA R (aj (aY fd) f R b e)) (ps:=t.map fun q=>cu R (aj (aY fd) f R b e).first b+q.toNat) (dn:=0);rw[WP] at i;rw[WO,WO,Xg,WT];show _+((bu _ _ _ _ _ _ _).length+_)≤_;exact(We 0x1040fe584224080280c8010861038620194280c083194e188c260c0c11065108481286000903020461808210c083e1401) z v.2.1 v.2.2.1 v.2.2.2.1 c g.1 g.2.1 d i
def rq (h:e=false∨co fd W.up 0 R=none):cj fd W R 0 .skip e=none:=by
 unfold cj;split
 ·rename_i q;rcases h with h|h
  ·rw[h] at q;exact absurd q.2 W5
  ·rw[h]
 ·rfl
def xH (h:co fd W.up 0 R=some (b,e,x)):cj fd W R 0 .skip true=if W.T.bm x W.l W.r=[] then none else(R[b]?.bind Nd.gl).map fun f=>(f,b,e,W.T.bm x W.l W.r):=by unfold cj;rw[WY ⟨rfl,rfl⟩,h]
def G6 (r:dK fd) (s:bP fd R) (h:co fd W.up 0 R=some (b,e,x)) (eo:W.T.bm x W.l W.r≠[]):
  ∃f,u8 fd R W.up W.l W.r f b e x (W.T.bm x W.l W.r)∧Hx fd f R b e (W.T.bm x W.l W.r) 0=aR (aY fd) fd W true R∧(cj fd W R 0 .skip true).isSome=true:=by
 obtain⟨t,f,w⟩:=c6 h;have n:cj fd W R 0 .skip true=some (f,b,e,W.T.bm x W.l W.r):=by rw[xH h,WX eo,w.eX];show Option.map _ t.gl=_;rw[w.gl];rfl
 have p:=xi r s n;refine⟨f,⟨h,fun q m=>mK m,p⟩,?_,by rw[n];rfl⟩;rw[i4 n];exact AY p fun k=>eo (List.map_eq_nil_iff.mp k)
end
section
variable {fd:Fs} {W W1 W2:kD}
def Hy (fd:Fs) (W1 W2:kD):Bool→List am→List am
 |_,[]=>[]
 |txt,P::h=>(if(cj fd W1 P 0 .skip txt).isSome then aR (aY fd) fd W1 txt P else aR (aY fd) fd W2 txt P)::Hy fd W1 W2 (bO txt P) h
theorem zJ (e:dK fd): ∀{Rs:List am} {txt:Bool},(∀P∈Rs,bP fd P)→lO (aY fd) fd W2 txt (lO (aY fd) fd W1 txt Rs)=Hy fd W1 W2 txt Rs
 |[],_,_=>rfl
 |P::Rs,txt,h=>by have x:=nB (W:=W1) e (h P (.head _)) txt;haveI k:=zJ e (Rs:=Rs) (txt:=bO txt P) fun Q m=>h Q (.tail _ m);show aR _ fd W2 txt (aR _ fd W1 txt P)::lO _ fd W2 (bO txt (aR _ fd W1 txt P)) _=(if _ then _ else _)::Hy fd W1 W2 (bO txt P) Rs;rw[x.2.1,k,x.2.2.2 W2]
structure Kn (fd:Fs) (lead:am) (Rs:List am):Prop where
 fs:dK fd
 ld:zB lead
 lo: ∀x∈lead,dc x∧eQ x=false
 ll:lead.length≤1
 rg: ∀P∈Rs,bP fd P∧ ∀x∈P,dc x
 fJ:Rs.length≤2
theorem Bl: ∀{e:List am} {h:Bool},(lO x fd W h e).length=e.length
 |[],_=>rfl
 |P::e,h=>W4 (· +1) Bl
theorem Bm {Rs:List am} {C:am→Prop} (h: ∀P e,P∈Rs→C (aR (aY fd) fd W e P)): ∀{x:List am} {e:Bool},(∀P∈x,P∈Rs)→ ∀Q∈lO (aY fd) fd W e x,C Q
 |[],_,_,_,m=>nomatch m
 |P::x,e,k,Q,m=>by
  rcases Xa.mp m with rfl|m
  ·exact h P e (k P (.head _))
  ·exact Bm h (fun P m=>k P (.tail _ m)) Q m
theorem Bn {Rs:List am} {C:am→Prop} (h: ∀P W x,(W=W1∨W=W2)→P∈Rs→C (aR (aY fd) fd W x P)): ∀{k:List am} {x:Bool},(∀P∈k,P∈Rs)→ ∀Q∈Hy fd W1 W2 x k,C Q
 |[],_,_,_,m=>nomatch m
 |P::k,x,n,Q,m=>by
  rcases Xa.mp m with e|m
  ·subst e;split
   ·exact h P W1 x (.inl rfl) (n P (.head _))
   ·exact h P W2 x (.inr rfl) (n P (.head _))
  ·exact Bn h (fun P m=>n P (.tail _ m)) Q m
theorem Bo: ∀{e:List am} {h:Bool},(Hy fd W1 W2 h e).length=e.length
 |[],_=>rfl
 |P::e,h=>W4 (· +1) Bo
theorem rr: ∀{Qs:List am},(∀Q∈Qs,Q.length≤n)→Qs.flatten.length≤n*Qs.length
 |[],_=>W8 _
 |Q::Qs,h=>by haveI a:=h Q (.head _);haveI b:=rr (Qs:=Qs) fun Q m=>h Q (.tail _ m);rw[Yq,WO,W0,Nat.mul_succ];exact(fH 0x10804230c041006030883008401) a b
theorem Ko {lead:am} {h:List am} (e: ∀x∈lead,dc x) (k: ∀Q∈h,∀x∈Q,dc x): ∀x∈lead++h.flatten,dc x:=fun x m=>by
 rcases W6.mp m with m|m
 ·exact e x m
 ·obtain⟨Q,a,b⟩:=List.mem_flatten.mp m;exact k Q a x b
structure xI (l:am):Prop where
 nd: ∀x∈l,dc x
 len:l.length≤2001
theorem G7 {lead:am} {h:List am} (k: ∀x∈lead,dc x) (n:lead.length≤1) (e: ∀Q∈h,(∀x∈Q,dc x)∧Q.length≤1000) (p:h.length≤2):xI (lead++h.flatten):=
 ⟨Ko k fun Q m=>(e Q m).1,by
  haveI:=rr fun Q m=>(e Q m).2
  rw[WO];exact(bT 0x8447e284b01040182105f9421106021843008c01) n p this⟩
theorem CZ {lead:am} {e:List am} (h:Kn fd lead e) {n p:Int→Nat} (k:kh W1 n) (q:kh W2 p) {txt:Bool}:
  xI (lead++e.flatten)∧xI (lead++(lO (aY fd) fd W1 txt e).flatten)∧xI (lead++(Hy fd W1 W2 txt e).flatten):=by
 have lo:=fun x m=>(h.lo x m).1;refine⟨G7 lo h.ll (fun Q m=>⟨(h.rg Q m).2,WR (h.rg Q m).1.len (bM aw)⟩) h.fJ,G7 lo h.ll (Bm (Rs:=e) (fun P txt m=>ki h.fs (h.rg P m).1 (h.rg P m).2 k) fun ξ m=>m) (by rw[Bl];exact h.fJ),G7 lo h.ll (Bn (Rs:=e) (fun P W txt r m=>?_) fun ξ m=>m) (by rw[Bo];exact h.fJ)⟩;rcases r with rfl|rfl
 ·exact ki h.fs (h.rg P m).1 (h.rg P m).2 k
 ·exact ki h.fs (h.rg P m).1 (h.rg P m).2 q
def G8 {lead:am} (h:Kn fd lead e):
  cR (aY fd) fd W1 (lead++e.flatten) ((lead++e.flatten).length+1) 0 true=lead++(lO (aY fd) fd W1 (bO true lead) e).flatten∧
  cR (aY fd) fd W1 (lead++(lO (aY fd) fd W1 (bO true lead) e).flatten) ((lead++(lO (aY fd) fd W1 (bO true lead) e).flatten).length+1) 0 true=lead++(lO (aY fd) fd W1 (bO true lead) e).flatten∧
  cR (aY fd) fd W2 (lead++(lO (aY fd) fd W1 (bO true lead) e).flatten) ((lead++(lO (aY fd) fd W1 (bO true lead) e).flatten).length+1) 0 true=lead++(Hy fd W1 W2 (bO true lead) e).flatten∧
  cv (lead++(lO (aY fd) fd W1 (bO true lead) e).flatten)=lead++e.flatten∧cv (lead++(Hy fd W1 W2 (bO true lead) e).flatten)=lead++e.flatten∧
  ∀Q∈lO (aY fd) fd W1 (bO true lead) e,eN fd Q:=by
 have k:=fun P m=>(h.rg P m).1;have a:=A2 h.fs (W:=W1) (W':=W2) (Rs:=e) (txt:=bO true lead) k;haveI t: ∀P∈e,eN fd P:=fun P m=> .inl (k P m);have q:cv lead=lead:=j6 fun x m=>(h.lo x m).2;haveI r:=kc h.fs (W:=W1) h.ld t;haveI n:=kc h.fs (W:=W1) h.ld a.1;haveI p:=kc h.fs (W:=W2) h.ld a.1;rw[xj] at r n p;rw[a.2.1] at n;rw[zJ h.fs k] at p;refine⟨r,n,p,by rw[e7,q,a.2.2.1],?_,a.1⟩;haveI:=a.2.2.2.1;rw[zJ h.fs k] at this;rw[e7,q,this]
theorem xJ (k:dK fd) {P:am} (h:bP fd P):cR (aY fd) fd W P (P.length+1) 0 true=aR (aY fd) fd W true P∧tA (aY fd) (hV fd) fd W P:=by
 have n:([]:am)++[P].flatten=P:=by simp
 have p: ∀Q∈[P],eN fd Q:=fun Q m=>by rw[WZ] at m;subst m;exact .inl h
 have e:zB []:=⟨fun x m=>(nomatch m),fun x m=>(nomatch m)⟩;haveI q:=kc (W:=W) k e p;haveI r:=q8 (W:=W) k e p (by rw[n];exact W9 h.len (bM aw));rw[n] at q r;refine⟨?_,r⟩;rw[q];show aR (aY fd) fd W true P++[]=_;rw[Xe]
end
section
variable {f:Bool} {lo:V}
def Ox (k:Fs) (lo:V) (m n:dg) (p q:kD) (s t u v w:V) (e h:am) (x:Bool) (r:Fr):Fr:=
 .u (.u (.u (.u (.c lo (.c (.ref m.t) (.u (.u (.c (lP m p) (.c (lP n q) (.u (.u (.u (.u (.u (.c s (.c t (.c u (.c v (.c w (.c (aB k e) (.c (aB k h) (.c (.bool x) r))))))))))))))))))))))
abbrev O1:=am×am×Bool
def LA (h:Fs) (lo:V) (e x:dg) (k m:kD) (n p q r t:V) (s:O1):Fr:=Ox h lo e x k m n p q r t s.1 s.2.1 s.2.2 (.u (.u (.u (.u (.u (.u (.u (.u (.u (.u (.u (.u .e))))))))))))
structure VE (fd:Fs) (W1 W2:kD) (Rs:List am) (D L:am) (r:List am) (s:O1):Prop where
 du:s.1++(lO (aY fd) fd W1 s.2.2 r).flatten=D
 la:s.2.1++(Hy fd W1 W2 s.2.2 r).flatten=L
 sub: ∀P∈r,P∈Rs
def Kq (h:VE e x k n D L (P::r) s):
  VE e x k n D L r (s.1++aR (aY e) e x s.2.2 P,s.2.1++(if(cj e x P 0 .skip s.2.2).isSome then aR (aY e) e x s.2.2 P else aR (aY e) e k s.2.2 P),bO s.2.2 P):=
 ⟨by rw[WW];exact h.du,by rw[WW];exact h.la,fun Q m=>h.sub Q (.tail _ m)⟩
def Kr {J:O1→Prop} (p:u=[0,1,2,3,6,7,10,11,12,13,14,23,24,25,26,27,28]) (q:J (n,x,bO m P)):
  MB ab (cx ab d) [.cA (.name 27) (.plain (.af 23)) [.asg (.name 22) (.ite (.aE (.ai (.af 27) 3) .eq (.int 12)) (.not (.ai (.af 27) 4)) (.af 22))] [0,1,2,3,6,7,10,11,12,13,14,23,24,25,26,27,28] [27]] bn []
   (Ox fd lo x1 x2 W1 W2 it bf fo ag bo n x m (.c (aB fd P) (.c v24 (.c v25 (.c v26 (.u (.u (.u (.u (.u (.u (.u (.u .e))))))))))))) H (dT u (Lo (LA fd lo x1 x2 W1 W2 it bf fo ag bo) (fun ξ=>H) J) Qp):=by
 subst p;refine bL (bU fd) (fun t=>LA fd lo x1 x2 W1 W2 it bf fo ag bo (n,x,t)) (fun ξ=>H) (fun r t=>bO t r=bO m P) (fun t h=>?_) (fun s r t h=>?_) P m rfl
 ·change t=bO m P at h;subst h;exact .mk (n,x,bO m P) q
 ·have e: ∀b,b=bJ s t→Lo (fun t=>LA fd lo x1 x2 W1 W2 it bf fo ag bo (n,x,t)) (fun ξ=>H) (fun t=>bO t r=bO m P) (LA fd lo x1 x2 W1 W2 it bf fo ag bo (n,x,b)) H:=fun b v=> .mk b (by rwa[v]);refine gi (bQ (fun k=>?_) fun k=>?_)
  ·cases s with
   |one a=>induction a using At.casesOn<;>first|(exact e _ rfl)|(exact nomatch k)
   |_=>exact nomatch k
  ·refine e t ?_;cases s with
   |one a=>induction a using At.casesOn<;>first|rfl|exact absurd rfl k
   |_=>rfl
@[reducible] def Ks (d : Nat) (H : Hp) (fd : Fs) (m p : kD) (lo : V) (s r : dg) (t u v w y : V) (i j : Int → Nat) (P n k : am) (J : O1 → Prop) (Qp : cy) (z : aL) : Prop := ∀ {h : Bool} {wv : V} {ps : ah} (A : dK fd) (B : jT lo) (C : kh p j) (l : hU H r p.T) (D : bP fd P) (a : ∀ x ∈ P, dc x) (c : ps.length ≤ 100) (G : n.length ≤ 3000 ∧ k.length ≤ 3000) (I : kh m i) (L : (ps = [] ∧ cj fd m P 0 .skip h = none) ∨ ∃ f b e g, wv = CI (b, e, g) ∧ h = true ∧ u8 fd P m.up m.l m.r f b e g ps ∧ ps ≠ [] ∧ Hx fd f P b e ps 0 = aR (aY fd) fd m true P ∧ (cj fd m P 0 .skip true).isSome = true) (o : z = [0, 1, 2, 3, 6, 7, 10, 11, 12, 13, 14, 23, 24, 25, 26, 27, 28]) (q : J (n ++ aR (aY fd) fd m h P, k ++ (if (cj fd m P 0 .skip h).isSome then aR (aY fd) fd m h P else aR (aY fd) fd p h P), bO h P)), MB ab (cx ab (d+19)) [.asg (.name 26) (.call (.ae 17) [.af 23, .af 24, .af 25, .af 8, .af 4]), .bs (.aE (.af 26) .is .none) [.ret (some .fls)] [], .asg (.name 20) (.aS .add (.af 20) (.af 26)), .asg (.name 21) (.aS .add (.af 21) (.ite (.aE (.af 25) .ne (.list [])) (.af 26) (.ite (.af 22) (.call (.ae 15) [.af 23, .af 9, .af 4]) (.af 23)))), .cA (.name 27) (.plain (.af 23)) [.asg (.name 22) (.ite (.aE (.ai (.af 27) 3) .eq (.int 12)) (.not (.ai (.af 27) 4)) (.af 22))] [0, 1, 2, 3, 6, 7, 10, 11, 12, 13, 14, 23, 24, 25, 26, 27, 28] [27]] bn []
   (Ox fd lo s r m p t u v w y n k h (.c (aB fd P) (.c wv (.c (.ap (aq ps)) (.u (.u (.u (.u (.u (.u (.u (.u (.u .e))))))))))))) H (dT z (Lo (LA fd lo s r m p t u v w y) (fun ξ=>H) J) Qp)
abbrev Ku:List Type:=[Nat,Hp,Fs,kD,kD,V,dg,dg,V,V,V,V,V,Int→Nat,Int→Nat,am,am,am,O1→Prop,cy,aL]
def RY:=eV Ku Ks ⟨nI,Ab,Hu,N1,N1,nV,qu,qu,nV,nV,nV,nV,nV,nI,nI,nI,nI,nI,nI,nI,nI,trivial⟩
def VF:eU Ku Ks RY:=by
 injections RY d H x n p lo y z g i l c o d1 d2 P m h J I js;change Ks d H x n p lo y z g i l c o d1 d2 P m h J I js;intro k wv ps w O U Y B u D hl w1 hw ha q;have go: ∀{L C:am},J (m++C,h++L,bO k P)→L.length≤1000→C.length≤1000→Y1 (DA .add (aB x h) (aB x L)) fun v=>MB ab (cx ab (d+19)) [.cA (.name 27) (.plain (.af 23)) [.asg (.name 22) (.ite (.aE (.ai (.af 27) 3) .eq (.int 12)) (.not (.ai (.af 27) 4)) (.af 22))] [0,1,2,3,6,7,10,11,12,13,14,23,24,25,26,27,28] [27]] bn []
   ((Ox x lo y z n p g i l c o (m++C) h k (.c (aB x P) (.c wv (.c (.ap (aq ps)) (.c (aB x C) (.u (.u (.u (.u (.u (.u (.u (.u .e))))))))))))).set 21 v) H (dT js (Lo (LA x lo y z n p g i l c o) (fun ξ=>H) J) I):=fun{L C} j l1 l2=>by
  haveI t:=Kr (fd:=x) (d:=d+19) (H:=H) (W1:=n) (W2:=p) (lo:=lo) (x1:=y) (x2:=z) (it:=g) (bf:=i) (fo:=l) (ag:=c) (bo:=o) (v24:=wv) (v25:= .ap (aq ps)) (v26:=aB x C) (Qp:=I) ha j;refine au (by rw[WP,WP];unfold bz;exact(bT 0x800722c0be2c041086081fca20da181f4a228430c0fa511401) hl l1) ?_;rwa[←WU]
 have ca: ∀{C:am},C.length≤1000→m.map (bU x)++C.map (bU x)=(m++C).map (bU x):=fun ξ=>WU.symm;have G:=ki (txt:=k) w B u w1;rcases hw with⟨A,N⟩|⟨f,b,e,ls,rfl,rfl,hw,eo,hm,N⟩
 ·have pe:aR (aY x) x n k P=P:=gJ N;rw[pe,N] at q;change J (m++P,h++aR (aY x) x p k P,bO k P) at q;have s:=B.len;haveI em:Hx x false P 0 0 ps 0=P:=by rw[A];rfl
  refine tQ (f:=false) (b:=0) (e:=0) (ps:=ps) w O B u D (.inl A) ?_;rw[em];show MB ab _ _ bn [] (Ox x lo y z n p g i l c o m h k (.c (aB x P) (.c wv (.c (.ap (aq ps)) (.c (aB x P) (.u (.u (.u (.u (.u (.u (.u (.u .e))))))))))))) H _;refine au (by rw[WP,WP];unfold bz;exact(bT 0x800722c0be2c041006041f0a20da181f4a228430c0fa511401) hl s) ?_;rw[ca (WR s (bM aw))];refine bj (qB (cs:=ps)) ?_;refine iv (by rw[A];rfl) ?_;cases k with
  |true=>have pa:=xJ (W:=p) w B;have p2:=ki (txt:=true) w B u U;refine lQ (W:=p) (zy w.dI w.Cz w.num) O U.tr U.ex pa.2 (by rw[pa.1];exact WR p2.2 (bM aw)) Y ?_;rw[pa.1];exact go q p2.2 ((bC 0x2081fca00c083e1401) s)
  |false=>haveI p0:aR (aY x) x p false P=P:=gJ (rq (.inl rfl));rw[p0] at q;exact go q ((bC 0x2081fca00c083e1401) s) ((bC 0x2081fca00c083e1401) s)
 ·rw[N] at q;change J (m++aR (aY x) x n true P,h++aR (aY x) x n true P,bO true P) at q;refine tQ w O B u D (.inr ⟨ls,rfl,hw⟩) ?_;rw[hm];generalize aR (aY x) x n true P=C at q G;show MB ab _ _ bn [] (Ox x lo y z n p g i l c o m h true (.c (aB x P) (.c (CI (b,e,ls)) (.c (.ap (aq ps)) (.c (aB x C) (.u (.u (.u (.u (.u (.u (.u (.u .e))))))))))))) H _;refine au (by rw[WP,WP];unfold bz;exact(bT 0x800722c0be2c041006081fca20da181f4a228430c0fa511401) hl G.2) ?_;rw[ca G.2]
  refine bj (qB (cs:=ps)) (wt (by induction ps using List.casesOn with|nil=>exact absurd rfl eo|cons a r=>rfl) ?_);exact go q G.2 G.2
def vi:eB Ku Ks:=eA Ku VF
end
section
variable {d:Nat} {H:Hp} {fd:Fs} {A C:kD} {lo:V} {D G:dg} {M I N L O:V}
def xK (h:bP fd P):FV P:=eN.codes (.inl h:eN fd P)
theorem Kv (i:dK fd) (B:jT lo) {d1 d2:Int→Nat} (g:kh A d1) (w2:kh C d2) (j:hU H D A.T) (t:hU H G C.T) {P u n:am} {s:Bool} (v:bP fd P) (y: ∀x∈P,dc x)
  (hl:u.length≤3000∧n.length≤3000) {J:O1→Prop} {Qp:cy} {js:aL} (z:js=[0,1,2,3,6,7,10,11,12,13,14,23,24,25,26,27,28])
  (q:J (u++aR (aY fd) fd A s P,n++(if(cj fd A P 0 .skip s).isSome then aR (aY fd) fd A s P else aR (aY fd) fd C s P),bO s P)):
  MB ab (cx ab (d+19)) [.asg (.name 24) (.ite (.af 22) (.call (.ae 11) [.af 23,.int 0,.af 4,.bp (.af 8) (.int 1)]) .none),.asg (.name 25) (.ite (.aE (.af 24) .i6 .none) (.dM (.af 5) 2 [.bp (.af 24) (.int 2),.bp (.af 8) (.int 2),.bp (.af 8) (.int 3)]) (.list [])),
   .asg (.name 26) (.call (.ae 17) [.af 23,.af 24,.af 25,.af 8,.af 4]),.bs (.aE (.af 26) .is .none) [.ret (some .fls)] [],.asg (.name 20) (.aS .add (.af 20) (.af 26)),.asg (.name 21) (.aS .add (.af 21) (.ite (.aE (.af 25) .ne (.list [])) (.af 26) (.ite (.af 22) (.call (.ae 15) [.af 23,.af 9,.af 4]) (.af 23)))),.cA (.name 27) (.plain (.af 23)) [.asg (.name 22) (.ite (.aE (.ai (.af 27) 3) .eq (.int 12)) (.not (.ai (.af 27) 4)) (.af 22))] [0,1,2,3,6,7,10,11,12,13,14,23,24,25,26,27,28] [27]] bn []
   (Ox fd lo D G A C M I N L O u n s (.c (aB fd P) (.u (.u (.u (.u (.u (.u (.u (.u (.u (.u (.u .e))))))))))))) H (dT js (Lo (LA fd lo D G A C M I N L O) (fun ξ=>H) J) Qp):=by
 haveI p0:0<P.length:=by
  haveI:=v.p0;cases P with
  |nil=>exact bH this
  |cons a r=>exact YN _
 cases s with
 |false=>exact vi (ps:=[]) (wv:= .none) i B w2 t v y (bM aw) hl g (.inl ⟨rfl,rq (.inl rfl)⟩) z q
 |true=>
  refine fR i.num B (xK v) (W9 v.len (bM aw)) (p:=0) p0 ?_;cases U:co fd A.up 0 P with
  |none=>exact vi (ps:=[]) (wv:= .none) i B w2 t v y (bM aw) hl g (.inl ⟨rfl,rq (.inr U)⟩) z q
  |some r=>
   obtain⟨b,e,o⟩:=r;obtain⟨_,_,Y⟩:=c6 U;refine cf j.tt ?_;refine tp (w:=o) (l:=A.l) (r:=A.r) g.tr j (fun c m=>by haveI:=Y.low c m;exact(cU 0xb4fe4394029804125a6420ca014c0209065) this) Y.ne Y.fJ (fun k r h=>WR (g.ex k r h) (bM aw)) ?_;refine vi (ps:=A.T.bm o A.l A.r) (wv:=CI (b,e,o)) i B w2 t v y (g.fJ Y.fJ) hl g ?_ z q;by_cases hp:A.T.bm o A.l A.r=[]
   ·exact .inl ⟨hp,by rw[xH U,WY hp]⟩
   ·obtain⟨f,m1,m2,m3⟩:=G6 i v U hp;exact .inr ⟨f,b,e,o,rfl,rfl,m1,hp,m2,m3⟩
theorem Bp: ∀{Rs:List am},kN.go (Rs.map (aB fd))=some (Rs.flatten.map (bU fd))
 |[]=>rfl
 |P::Rs=>by show(kN.go (Rs.map (aB fd))).map (P.map (bU fd)++ ·)=_;rw[Bp,Yq,WU];rfl
theorem G9 {lo:V} {x:dg} {W:kD} {s:Int→Nat} (p:dK fd) (t:jT lo) (w:kh W s) (r:hU H x W.T) {lead:am} (u:zB lead) {m:List am} (h: ∀P∈m,eN fd P) (n:(lead++m.flatten).length≤2001) {k:am}
  (e:cR (aY fd) fd W (lead++m.flatten) ((lead++m.flatten).length+1) 0 true=k) (v:k.length≤2001) (q:Q (aB fd k) H):Y2 (cx ab (d+16) 1053 [aB fd (lead++m.flatten),lP x W,lo] H) Q:=by
 subst e;exact lQ (zy p.dI p.Cz p.num) t w.tr w.ex (q8 p u h (W9 n (bM aw))) (WR v (bM aw)) r q
def zK (e:d3 fd) (h:xI l) (q:Q (oA l) H):Y2 (cx ab (d+7) 663 [aB fd l] H) Q:=qp e h.nd (WR h.len (bM aw)) q
def Oy (k:d3 fd) (r:xI h) (p:xI F) (s:xI B) (u:cv F=h) (v:cv B=h) (w:t=F) (y:x=B) (q:Q (.bool true) H):
  MB ab (cx ab (d+19)) (kO.body.drop 19) bn [] (.u (.u (.u (.u (.u (.u (.u (.u (.u (.u (.u (.u (.u (.u (.u (.c (aB fd h) (.c (oA h) (.c (aB fd F) (.c (aB fd F) (.c (aB fd B) (.c (aB fd t) (.c (aB fd x) (.u (.u (.u (.u (.u (.u (.u (.u (.u (.u (.u (.u (.u .e))))))))))))))))))))))))))))))))))) H (cp none H Q):=by
 subst w;subst y;refine zK k p (zK k p ?_);refine bj u7 (zK k p ?_);refine bj u7 (zK k s ?_);refine zK k s (bj u7 ?_);refine uY p.nd (by rw[u];exact WR r.len (bM aw)) ?_;rw[u];refine uY s.nd (by rw[v];exact WR r.len (bM aw)) ?_;rw[v];refine cX (aB fd) oA [h,h,h] (fun l m g z=>?_) ⟨by show 3≤bz;exact bM aw,?_⟩
 ·haveI:l=h:=by
   rcases Xa.mp m with e|m
   ·exact e
   rcases Xa.mp m with e|m
   ·exact e
   exact WZ.mp m
  subst this;exact zK k r (z _)
 ·exact bj (N9 (vs:=[oA h,oA h,oA h]) (Lv (n:=11) (dw (oX (n:=5)) (dw (oX (n:=5)) (dw (oX (n:=5)) n8))))) q
end
section
variable {d:Nat} {H:Hp} {A:Fs} {W1 W2:kD} {lo:V} {C G:dg}
theorem Oz {lead:am} {k:List am} (h:Kn A lead k) (g:jT lo) {j l:Int→Nat} (i:kh W1 j) (a:kh W2 l) (t:hU H C W1.T) (y:hU H G W2.T) {u:Int} (p:(!PyData.eqv (.int u) (.int 1))=bO true lead) {O U Y a3 a6 a7 b c:V} (q:Q (.bool true) H):
  MB ab (cx ab (d+19)) (kO.body.drop 13) bn [] %[O,U,Y,a3,lo,.ref C.t,a6,a7,lP C W1,lP G W2,b,.ap (k.map (aB A)),.int u,c,aB A lead|20] H (cp none H Q):=by
 have x:=CZ h i a (txt:=bO true lead);have v:=G8 (W1:=W1) (W2:=W2) h;haveI ha:=h.ll;have f:=x.1.len;rw[WO] at f;refine bj (Bp (fd:=A) (Rs:=k)) ⟨by rw[WP];unfold bz;exact(br 0x400391605f14218447e284b008401) f,?_⟩;refine au (by rw[WP,WP];unfold bz;exact(br 0x2001c8b02f8b0084018447e284b008401) f) ?_;rw[←WU];refine zK h.fs.num x.1 ?_;refine G9 h.fs g i t h.ld (fun P m=> .inl (h.rg P m).1) x.1.len v.1 x.2.1.len ?_;refine G9 h.fs g i t h.ld v.2.2.2.2.2 x.2.1.len v.2.1 x.2.1.len ?_;refine G9 h.fs g a y h.ld v.2.2.2.2.2 x.2.1.len v.2.2.1 x.2.2.len ?_;generalize hD:lead++(lO (aY A) A W1 (bO true lead) k).flatten=D at*;generalize hB:lead++(Hy A W1 W2 (bO true lead) k).flatten=B at*;refine bL (aB A) (LA A lo C G W1 W2 (aB A (lead++k.flatten)) (oA (lead++k.flatten)) (aB A D) (aB A D) (aB A B)) (fun ξ=>H) (VE A W1 W2 k D B) (fun s w=>?_) (fun P r s w=>?_) k (lead,lead,!PyData.eqv (.int u) (.int 1)) ⟨by rw[p];exact hD,by rw[p];exact hB,fun ξ m=>m⟩
 ·obtain⟨n,e,z⟩:=s;haveI o:=w.du;haveI I:=w.la;change n++[]=D at o;change e++[]=B at I;rw[Xe] at o I;exact Oy h.fs.num x.1 x.2.1 x.2.2 v.2.2.2.1 v.2.2.2.2.1 o I q
 ·obtain⟨n,e,z⟩:=s;haveI J:=W4 List.length w.du;haveI L:=W4 List.length w.la;rw[WO] at J L;change n.length+_=D.length at J;change e.length+_=B.length at L;haveI j:=x.2.1.len;haveI l:=x.2.2.len;have N:=h.rg P (w.sub P (.head _));exact Kv h.fs g i a t y N.1 N.2 ⟨by show n.length≤3000;exact(bT 0x2181f4a22803088fc5094419083008401) J j,by show e.length≤3000;exact(bT 0x2181f4a22803088fc5094419083008401) L l⟩ rfl (Kq w)
end
section
variable {d:Nat} {fd:Fs} {x1 x2:dg}
structure LH (b:Nat) (x1 x2:dg) (T2:cF) (Z:cF→Ob→Hp):Prop where
 ho: ∀T,dx b (Z T)
 th: ∀o,c7 x1 (fun T=>Z T o)
 r2: ∀T o,hU (Z T o) x2 T2
def LH.lS {Z:cF→Ob→Hp} {T:cF} (h:LH b x1 x2 x Z) (k:an (Z T o) a=none):an (Z e o') a=none:=
 (h.ho e).lS (o:=o) ((h.th o).lS (T:=T) k)
def LH.cons {Z:cF→Ob→Hp} {T:cF} (h:LH b x1 x2 m Z) (k:an (Z T o) a=none):LH b x1 x2 m (fun T o=> .c a l (Z T o)):=
 ⟨fun e=>(h.ho e).cons (o:=o) (h.lS k),fun x=>(h.th x).cons (T:=T) (h.lS k),fun e x=>(h.r2 e x).cons (h.lS k)⟩
def LH.new {X:Ob→Hp} (n:dx b X) (p:AS x1 (X o)) (q:AS x2 (d9 x1 h (X o))):LH b x1 x2 T2 (fun T o=>d9 x2 T2 (d9 x1 T (X o))):=by
 have g: ∀T x,AS x2 (d9 x1 T (X x)):=fun T x=>by have m:AS x2 (d9 x1 h (X x)):=q.hole (n.ve p);exact⟨c7.ve.lS (T:=h) m.1,c7.ve.lS (T:=h) m.2.1,c7.ve.lS (T:=h) m.2.2.1,c7.ve.lS (T:=h) m.2.2.2⟩
 refine⟨fun T=>(n.ve p).ve (g T o),fun x=>?_,fun T x=>qA⟩;have k:=g h x;haveI r:c7 x1 (fun T=> .c x2.t (lh x2 T2) (d9 x1 T (X x))):=c7.ve.cons (T:=h) k.1;haveI s:c7 x1 (fun T=> .c x2.a (.dict (T2.links.map (·.1)) (T2.links.map fun e=> .int e.2)) (.c x2.t (lh x2 T2) (d9 x1 T (X x)))):=r.cons (T:=h) ((aD (X3 x2.S9)).trans k.2.1);haveI t:c7 x1 (fun T=> .c x2.b (jU T2.nums) (.c x2.a (.dict (T2.links.map (·.1)) (T2.links.map fun e=> .int e.2)) (.c x2.t (lh x2 T2) (d9 x1 T (X x))))):=s.cons (T:=h) ((aD (X3 x2.Tg)).trans ((aD (X3 x2.S')).trans k.2.2.1));exact t.cons (T:=h) ((aD (X3 x2.Tj)).trans ((aD (X3 x2.Ti)).trans ((aD (X3 x2.Th)).trans k.2.2.2)))
def C0 (c:Int):V:= .aG [.int (14*1048576+c),.int (cE c)]
def xL:ah:=cM.map fun c=>14*1048576+c
def xM:aN:=cM.map fun c=>V.int (cE c)
def zL:V:= .inst 880 [27] [.eR xL xM]
def C':dQ (cM.map C0)=some (xL,xM):=rfl
def G':jT zL:=⟨xL,xM,rfl,fun c h=>by
 unfold iC at h;simp only[XX,XJ] at h;rcases h with((((((rfl|rfl)|rfl)|rfl)|rfl)|rfl)|rfl)|rfl<;>rfl⟩
def Ha (q:Q zL H):Y2 (cx ab (d+2) 880 [.eR xL xM] H) Q:=CU (fun ξ=>rfl) q
theorem Bq {α:Type} {g:α→V} {xs:List α} {k:Int} {R:V→Prop} (h:0≤k∧k<xs.length) (q: ∀x∈xs,R (g x)):Y1 (fK (.ap (xs.map g)) (.int k)) R:=by
 have e:k.toNat<xs.length:=by exact(ar 0x2200a802b51600805300804 [_] [_]) h
 refine fY (j:=k.toNat) (v:=g xs[k.toNat]) ?_ ?_ (q _ (Yh e))
 ·rw[WP];unfold place;rw[WY h.1,WY h.2]
 ·rw[Xk,WS e];rfl
theorem Br {n:Int} {i:Nat} (h:(cG 0 n)[i]?=some v):v= .int (i:Int)∧(i:Int)<n:=by unfold cG dP at h;rw[XW,Xk] at h;obtain⟨k,p,e⟩:=Xy.mp h;obtain⟨x,m⟩:=Xf.mp p;rw[List.getElem_range] at m;rw[Zj] at x;subst m;refine⟨?_,by exact(ar 0x5002580315440400801 [_] [_]) x⟩;rw[←e];show V.int (0+(i:Int))=_;rw[Y4]
theorem xN {k:Int} {i:Nat} (h:k=(i:Int)) (e:x.length≤1000) (q: ∀b o,an H b=none→gK 0 o→Q (.ref b) (.c b o H)):Y2 (cx ab (d+1) 991 [.ap (aq x),.int k] H) Q:=by subst h;exact rc e q
@[reducible] def Kw (d : Nat) (fd : Fs) (x1 x2 : dg) (b : Nat) (T1 m : cF) (Z : cF → Ob → Hp) (o : Ob) (sc : ah) (h : Int) (k : Fr) (R : aN → Hp → Prop) : Prop := ∀ {tiny : Bool} (w : LH b x1 x2 m Z) (y : dK fd) (z : ∀ c, iC c = true → (fd false).eG c = true) (s : sc.length ≤ 4) (g : h = 1 ∨ h = 2) (h0 : k.get 0 = some (.ap (aq sc))) (t : ∀ v, ∃ n r, k.set 30 v = .c (.ap (aq sc)) (.c (.bool tiny) (.c n (.c (.ap [aJ (fd false), aJ (fd true)]) r))) ∧ (Fr.c (.ap (aq sc)) (.c (.bool tiny) (.c n (.c (.ap [aJ (fd false), aJ (fd true)]) r)))).get 30 = some v) (q : ∀ e p, e.length ≤ 2 → e ≠ [] → (∀ P ∈ e, bP fd P ∧ ∀ x ∈ P, dc x) → LH b x1 x2 m p → R (e.map (aB fd)) (p T1 o)), nL (fun u ξ => u) (ME ab (cx ab (d+19)) (.call (.ae 10) [.call (.ae 1) [.af 0, .aS .add (.int 2) (.af 30)], .af 3, .ite (.ay false [.af 1, .aE (.af 30) .gt (.int 0)]) (.int 2) (.int 3)])) 30 (cG 0 h) k (Z T1 o) R
abbrev OB:List Type:=[Nat,Fs,dg,dg,Nat,cF,cF,cF→Ob→Hp,Ob,ah,Int,Fr,aN→Hp→Prop]
def RZ:=eV OB Kw ⟨nI,Hu,qu,qu,nI,NV,NV,⟨fun ξ ξ=> .e⟩,TZ,nI,nI,K4,nI,trivial⟩
theorem VG:eU OB Kw RZ:=by
 injections RZ d fd x1 x2 b T1 c Z o N h O R;change Kw d fd x1 x2 b T1 c Z o N h O R;intro tiny U Y hA f J h0 A q;haveI v:(cG 0 h).length=h.toNat:=by show((dP 0 h).map V.int).length=_;rw[WP,dY,Z5]
 refine⟨fun i w y=> ∃(n:List am) (p:cF→Ob→Hp),w=n.map (aB fd)∧y=p T1 o∧n.length=i∧(∀P∈n,bP fd P∧ ∀x∈P,dc x)∧LH b x1 x2 c p,⟨[],Z,rfl,rfl,rfl,fun ξ m=>(nomatch m),U⟩,fun w y ⟨n,p,B,C,t,D,G⟩=>?_,fun i x hx w y ⟨n,p,B,C,t,D,G⟩=>?_⟩
 ·subst B;subst C;rw[v] at t;exact q n p (by exact(ar 0x20218032500400dea22005509002 [_] [_]) J t) (fun z=>by rw[z] at t;haveI:0=h.toNat:=t;exact False.elim ((cU 0x32500401dea22005509002) J this)) D G
 ·subst B;subst C;obtain⟨rfl,hi⟩:=Br hx;obtain⟨a2,r,ef,L⟩:=A (.int (i:Int));rw[ef];have s: ∀{g:Fr} {u:Nat} {a:Ob} {e:Int},(e=2∨e=3)→an (p T1 o) u=none→gK 0 a→Y2 (cx ab (d+19) 1027 [.ref u,.ap [aJ (fd false),aJ (fd true)],.int e] (.c u a (p T1 o))) (SQ x7 [] g (LV (fun w y=> ∃(n:List am) (p:cF→Ob→Hp),w=n.map (aB fd)∧y=p T1 o∧n.length=i+1∧(∀P∈n,bP fd P∧ ∀x∈P,dc x)∧LH b x1 x2 c p) (n.map (aB fd)))):=fun{g u a e} I j l=>by
   refine CY (dx.new (H:=p T1 o)) Y hA l (bM aw) I fun P o' p1 p2 ξ=>?_;refine⟨n++[P],fun T o=> .c u o' (p T o),by rw[WU];rfl,rfl,by rw[WO,t];rfl,fun S m=>?_,G.cons j⟩;rcases W6.mp m with m|m
   ·exact D S m
   ·rw[WZ] at m;subst m;exact⟨p1,p2⟩
  refine bj (o:=Fr.get _ 30) L ?_;refine xN (k:=2+(i:Int)) (i:=2+i) (by exact(bC 0x155c00110e0b00444)) (by exact(bC 0x8207f2803020c01) f) fun u a j l=>?_;cases tiny with
  |true=>exact s (.inl rfl) j l
  |false=>refine bj (o:=Fr.get _ 30) L ?_;exact bV (fun ξ=>s (.inl rfl) j l) fun ξ=>s (.inr rfl) j l
def VH:Prop:= ∀⦃d fd x1 x2 b T1 e Z o sc h x R⦄,Kw d fd x1 x2 b T1 e Z o sc h x R
def zM:VH:=eA OB VG
end
section
variable {d:Nat} {B:Fs} {A C:dg}
def Hb {T:cF} (h:fG T x) (e:T.exc=[]) {up:Bool}:kh ⟨T,up,l,r⟩ x:=⟨h.toTrie,fun k r q=>by
 rw[show(kD.mk T up l _).T.exc=[] from e] at q;exact bH q⟩
def OC {T:cF} (h:fG T e) (x:w.length≤63) {up:Bool}:kh ⟨{T with exc:=[(mC w,rb w m)]},up,l,r⟩ e:=
 ⟨⟨h.zero,h.FS,h.row⟩,fun k r q=>by
  change(if mC w=k then some (rb w m) else none)=some r at q;split at q
  ·obtain rfl:=dL q;unfold rb nn;refine WR (X6 _ _) ?_;rw[WP,Zj];exact(bC 0x1020c65804600c3e309401) x
  ·exact bH q⟩
theorem OD {b n:Nat} {e T2:cF} {Z:cF→Ob→Hp} (v:LH b A C T2 Z) {dp:Int→Nat} (hT:fG e dp) (he:e.exc=[]) {o:Ob} (h:gK n o) (hn:n+100<1000000) {P:am} {a0 a1 a3 a4 a6 a7 a8 a9 y z g j:V} {u:List S} {Qp:cy}
  (q: ∀T t,(∀up l r,kh ⟨T,up,l,r⟩ dp)→MB ab (cx ab (d+19)) u bn [] %[a0,a1,.ref b,a3,a4,.ref A.t,a6,a7,a8,a9,y,z,g,nY (co B true 0 P),j|20] (Z T t) Qp):
  MB ab (cx ab (d+19)) (.bs (.ay true [.aE (.call (.ae 8) [.af 2,.int 6]) .eq (.int 0),.aE (.af 13) .i6 .none]) [.expr (.dM (.af 5) 1 [.bp (.af 13) (.int 2),.comp (.af 31) 31 (.call (.ae 9) [.call (.ae 0) [.bp (.af 13) (.int 2)]]) (some (.aE (.call (.ae 8) [.af 2,.int 2]) .eq (.int 0)))])] []::u) bn []
   %[a0,a1,.ref b,a3,a4,.ref A.t,a6,a7,a8,a9,y,z,g,nY (co B true 0 P),j|20] (Z e o) Qp:=by
 refine a5 (v.ho e) h (many:=6) (aU aw) (by exact(bC 0x440391605f1401880722c0be2c08319401) hn) fun r L ξ ξ h1=>?_;have stop:=q e L fun up l r=>Hb hT he;refine bQ (fun ξ=>?_) fun ξ=>stop;cases N:co B true 0 P with
 |none=>rw[N] at stop;exact stop
 |some w=>
  rw[N] at q;obtain⟨b',e',p⟩:=w;obtain⟨_,_,O⟩:=c6 N;have f:=O.fJ;refine cf ((v.th L).sn e).tt ?_;have D:((aq p).length:Int)=((p.length:Nat):Int):=by rw[aA]
  refine au (by rw[D];exact iV (by exact(bC 0x2201c8b02f8a00c3e309401) f)) ?_;haveI hr:(cG 0 ((aq p).length:Int)).length=p.length:=by show((dP 0 _).map V.int).length=_;rw[WP,dY,D];exact(bC 633364365323265)
  refine⟨fun i U Y=> ∃s t,U=aq s∧Y=Z e t∧s.length≤i∧(∀k∈s,0≤k∧k≤p.length)∧gK (n+1+i) t,⟨[],L,rfl,rfl,Xl _,fun ξ m=>(nomatch m),h1⟩,fun U Y ⟨s,t,e1,e2,H,I,e5⟩=>?_,fun i x hx U Y ⟨s,t,e1,e2,H,I,e5⟩=>?_⟩
  ·subst e1;subst e2;rw[hr] at H;refine⟨by rw[aA];unfold bz;exact(br 0x400391605f1421800210c3e309401) f H,?_⟩;refine ix (w:=p) (ps:=s) ((v.th t).sn e) he (fun c m=>by haveI:=O.low c m;exact(cU 0xb4fe4394029804125a6420ca014c0209065) this) O.ne f I ?_;haveI es:=(v.th t).sc e [(mC p,rb p s)]
   haveI G:=q {e with exc:=[(mC p,rb p s)]} t fun up l r=>OC hT f;rw[←es] at G;exact G
  ·subst e1;subst e2;obtain⟨rfl,J⟩:=Br hx;haveI ha:i<p.length:=by rw[D] at J;exact(br 0x884200d1610ac01) J
   refine a5 (v.ho e) e5 (many:=2) (aU aw) (by exact(fH 0x2201c8b02f8b018601180345882b186ab085620c3e309421880722c0be2c08319401) hn f D J) fun r o2 ξ ξ h2=>?_;refine bQ (fun ξ=>?_) fun ξ=>?_
   ·refine⟨s++[(i:Int)],o2,by unfold aq;rw[WU];rfl,rfl,by rw[WO];show _+1≤_;exact(br 0x84023086011803008401) H,fun k m=>?_,h2⟩;rcases W6.mp m with m|m
    ·exact I k m
    ·rw[WZ] at m;subst m;exact(bT 0xb4d610ac419ac410128b005620d5610ac01) D J
   ·exact⟨s,o2,rfl,rfl,by exact XZ (by assumption),I,h2⟩
end
section
variable {d:Nat} {H D:Hp} {A:Fs} {B C:dg}
theorem R0 {b n:Nat} {m p:cF} {Z:cF→Ob→Hp} (r:LH b B C p Z) {g i:Int→Nat} (j:fG m g) (l:m.exc=[]) {up1 e:Bool} {w y s t:Int} (a:kh ⟨p,e,s,t⟩ i) {o:Ob} (h:gK n o) (c:n+100<1000000) {P:am} {lead:am} {z:List am} (f:Kn A lead z) {x:Int}
  (k:(!PyData.eqv (.int x) (.int 1))=bO true lead) {G I J L N u:V} (q: ∀D,Q (.bool true) D):
  MB ab (cx ab (d+19)) (kO.body.drop 12) bn [] %[G,I,.ref b,J,zL,.ref B.t,L,N,lP B ⟨m,up1,w,y⟩,lP C ⟨p,e,s,t⟩,u,.ap (z.map (aB A)),.int x,nY (co A true 0 P),aB A lead|20] (Z m o) (cp none H Q):=by
 refine OD r j l h c fun T v O=>?_;exact Oz (H:=Z T v) (W1:=⟨T,up1,w,y⟩) (W2:=⟨p,e,s,t⟩) f G' (O _ _ _) a ((r.th v).sn T) (r.r2 T v) k (q _)
theorem R2 {Z:cF→Ob→Hp} (I:LH b B C g Z) (hT:fG t d1) (he:t.exc=[]) {up1:Bool} (w2:kh ⟨g,w,J,L⟩ d2) (h:gK n o) (N:n+200<1000000) (O:dK A) (hl:k.length≤2) (eo:k≠[]) (U: ∀P∈k,bP A P∧ ∀x∈P,dc x) (q: ∀D,Q (.bool true) D):
  MB ab (cx ab (d+19)) (kO.body.drop 10) bn [] %[a0,i,.ref b,.ap [aJ (A false),aJ (A true)],zL,.ref B.t,a6,a7,lP B ⟨t,up1,l1,r1⟩,lP C ⟨g,w,J,L⟩,l,.ap (k.map (aB A))|23] (Z t o) (cp none H Q):=by
 have s:0<k.length:=List.length_pos_iff.mpr eo;refine a5 (I.ho t) h (many:=10) (aU aw) (by exact(bC 0x440391605f1401880722c0be2c10331401) N) fun y o1 ξ ξ h1=>?_;have hg:k[k.length-1]?=some k[k.length-1]:=WS (by exact(bC 0x11006211803100403) s);have z:=U _ (Yh (show k.length-1<k.length by exact(bC 0x11006211803100403) s));generalize k[k.length-1]=P at hg z;haveI p0:0<P.length:=by
  haveI:=z.1.p0;cases P with
  |nil=>exact bH this
  |cons a r=>exact YN _
 refine fY (j:=k.length-1) (v:=aB A P) ?_ (by rw[Xk,hg];rfl) ?_
 ·rw[WP];unfold place;rw[WX (by exact aU aw),WY (by exact(bC 0x4e0b005412009100403) s),show((-1:Int)+(k.length:Int)).toNat=k.length-1 by exact(bC 0x25108c01541600a824)]
 refine fR O.num G' (xK z.1) (W9 z.1.len (bM aw)) (p:=0) p0 ?_;have G: ∀{lead:am},zB lead→(∀x∈lead,dc x∧eQ x=false)→lead.length≤1→(!PyData.eqv (.int y) (.int 1))=bO true lead→MB ab (cx ab (d+19)) (kO.body.drop 12) bn [] %[a0,i,.ref b,.ap [aJ (A false),aJ (A true)],zL,.ref B.t,a6,a7,lP B ⟨t,up1,l1,r1⟩,lP C ⟨g,w,J,L⟩,l,.ap (k.map (aB A)),.int y,nY (co A true 0 P),aB A lead|20] (Z t o1) (cp none H Q):=
  fun i a2 a3 a4=>R0 I hT he w2 h1 (by exact(bC 0x440391605f160418cb008c01880722c0be2c10331401) N) ⟨O,i,a2,a3,U,hl⟩ a4 q
 refine bQ (fun e=>?_) fun e0=>?_
 ·subst e;refine qn (fd:=A) (f:=false) (aU aw) ?_;refine G (lead:=[.one (.char false 97)]) ⟨fun x m=>?_,fun x m=>?_⟩ (fun x m=>?_) (bM aw) ?_
  ·rw[WZ] at m;subst m;rfl
  ·rw[WZ] at m;subst m;exact⟨fun c u=>(by replace u:c∈[(97:Int)]:=u;rw[WZ] at u;subst u;rfl),by show 1≤1000;exact bM aw⟩
  ·rw[WZ] at m;subst m;exact⟨trivial,rfl⟩
  ·rw[Fv (by exact aU aw)];rfl
 refine bQ (fun e=>?_) fun e1=>?_
 ·subst e;refine wB (fd:=A) (aU aw) ?_;refine G (lead:=[.one (.lD true 0)]) ⟨fun x m=>?_,fun x m=>?_⟩ (fun x m=>?_) (bM aw) ?_
  ·rw[WZ] at m;subst m;rfl
  ·rw[WZ] at m;subst m;exact⟨fun c u=>(nomatch u),by show 0≤1000;exact bM aw⟩
  ·rw[WZ] at m;subst m;exact⟨trivial,rfl⟩
  ·rw[NO rfl];rfl
 ·refine G (lead:=[]) ⟨fun x m=>(nomatch m),fun x m=>(nomatch m)⟩ (fun x m=>(nomatch m)) (bM aw) ?_;rw[Fv e1];rfl
def zN:List (Int×Int):=[(1,1),(1,1),(1,1),(1,1),(1,1),(1,1),(2,1),(1,2)]
def VI (p:Int×Int):V:= .aG [.int p.1,.int p.2]
end
section
variable {d:Nat} {A:Fs}
def Kx: ∀c,iC c=true→(RQ rs bg s t hy false).eG c=true:=fun c h=>by show(J5 rs bg s hy).eG c=true;rw[Bb];unfold iC at h;simp only[XX,XJ] at h;rcases h with((((((rfl|rfl)|rfl)|rfl)|rfl)|rfl)|rfl)|rfl<;>rfl
theorem VJ {b:Nat} {X:Ob→Hp} (w:dx b X) (h:gK 0 o) (a:dK A) (O: ∀c,iC c=true→(A false).eG c=true) (ev:v=aq f) (y:f.length≤4) (q: ∀U,Q (.bool true) U):
  MB ab (cx ab (d+19)) (kO.body.drop 4) bn [] %[.ap v,.bool x,.ref b,.ap [aJ (A false),aJ (A true)],zL|30] (X o) (cp none H0 Q):=by
 subst ev;refine xD w h (.inl rfl) (bM aw) fun B n d1 Y z t1 e1 h2=>?_;refine xD (w.ve z) h2 (.inr rfl) (bM aw) fun C i d2 D G t2 e2 h3=>?_;have p:=LH.new (T2:=i) w (o:=D) (z.hole w) G;clear z G;refine a5 (p.ho n) h3 (many:=2) (aU aw) (bM aw) fun u1 o1 ξ ξ t=>?_;refine a5 (p.ho n) t (many:=8) (aU aw) (by exact(ar 0x1100e45817c518c25 [] [])) fun s1 Y b1 b2 k2=>?_;refine Bq (g:=VI) (xs:=zN) ⟨b1,b2⟩ fun H ξ=>?_;refine a5 (p.ho n) k2 (many:=2) (aU aw) (by exact(ar 0x1100e45817c520c25 [] [])) fun u2 D ξ ξ k3=>?_;refine a5 (p.ho n) k3 (many:=8) (aU aw) (by exact(ar 0x1100e45817c528c25 [] [])) fun s2 o4 b3 b4 I=>?_;refine Bq (g:=VI) (xs:=zN) ⟨b3,b4⟩ fun J ξ=>?_;haveI L: ∀e r,(e=1∨e=2)→gK 39 r→MB ab (cx ab (d+19)) (kO.body.drop 9) bn [] %[.ap (aq f),.bool x,.ref b,.ap [aJ (A false),aJ (A true)],zL,.ref B.t,.ref C.t,.ap (zN.map VI),lP B ⟨n,PyData.eqv (.int u1) (.int 0),H.1,H.2⟩,lP C ⟨i,PyData.eqv (.int u2) (.int 0),J.1,J.2⟩,.int e|24] _ (cp none H0 Q):=fun e r s u=>by refine au (by unfold bz;exact(cU 0x440391605f156015ea22005509002) s) ?_;refine zM (o:=r) (T1:=n) p a O y s (tiny:=x) rfl (fun v=>⟨_,_,rfl,rfl⟩) fun Rs Z' N g2 g3 g4=>?_;refine⟨by rw[WP];unfold bz;exact(bC 0x800722c0be2803010c01) N,?_⟩;exact R2 g4 t1 e1 (Hb t2 e2) u (by exact(ar 0x1100e45817c578ce5 [] [])) a N g2 g3 q
 cases x with
 |true=>refine a5 (p.ho n) I (many:=1) (aU aw) (by exact(ar 0x1100e45817c530c25 [] [])) fun k r l t u=>?_;refine gM (xs:=[1,2,2,2]) ⟨l,by show k<4;exact(cU 708223015358466) t⟩ fun m s=>?_;exact L m r ((by exact aU aw: ∀m∈[1,2,2,(2:Int)],m=1∨m=2) m s) u
 |false=>refine a5 (p.ho n) I (many:=4) (aU aw) (by exact(ar 0x1100e45817c530c25 [] [])) fun k r l t u=>?_;refine gM (xs:=[1,2,2,2]) ⟨l,t⟩ fun m s=>?_;exact L m r ((by exact aU aw: ∀m∈[1,2,2,(2:Int)],m=1∨m=2) m s) u
theorem n9 {i:Nat} (e:v=aq h) (x:h.length≤1000) (q: ∀b o,an H b=none→gK 0 o→Q (.ref b) (.c b o H)):Y2 (cx ab (d+1) 991 [.ap v,.int i] H) Q:=by subst e;exact rc x q
theorem R3 (q: ∀B,Q (.bool true) B):
  MB ab (cx ab (d+19)) (kO.body.drop 1) bn [] %[.ap (aq s0)|34] H (cp none H Q):=by
 have e:hX (aq s0) none (some ((4:Nat):Int))=aq (s0.take 4):=by rw[uX];unfold aq;rw[YB]
 have p:(s0.take 4).length≤4:=by rw[Xg];exact(bC 554170320003)
 refine n9 (i:=1) e (by exact(bC 0x8207f2803020c01) p) fun b o Y h=>?_;refine n9 (i:=0) e (by exact(bC 0x8207f2803020c01) p) fun C o0 u D=>?_;refine GR (dx.new (H:= .c b o H)) D (bM aw) fun v w s t y G I J h1=>?_;haveI j:=Of (s:=s) (t:=t) I J;haveI l:=Kx (rs:=v) (bg:=w) (s:=s) (t:=t) (hy:=y);generalize RQ v w s t y=A at j l⊢;haveI L:dx b (fun o=> .c C G (.c b o H)):=(dx.new (b:=b) (H:=H)).cons (o:=o) u;refine cX V.int C0 cM (fun c m Q2 n=>?_) ⟨by exact bM aw,?_⟩
 ·haveI N:=xA m;refine FA (r:=14) (x:=c) (by exact(cU 0xb5004014050142500a60100969fc872805300804) N) ?_;have n:=fun O=>n O;unfold C0 cE at n;refine bQ (fun e=>?_) fun e=>?_
  ·rw[WY e] at n;exact n _
  ·rw[WX e] at n;refine bV (fun z=>?_) fun z=>?_
   ·refine bV (fun g=>?_) fun g=>?_
    ·rw[WY ⟨z,g⟩] at n;exact n _
    ·rw[WX fun k=>g k.2] at n;exact n _
   ·rw[WX fun k=>z k.1] at n;exact n _
 haveI a:ju .dict [.ap (cM.map C0)]=some (.eR xL xM):=by show(match dQ (cM.map C0) with|some (f,U)=>de (f.length<bz) (V.eR f U)|none=>none)=_;rw[C'];exact WY (by exact bM aw)
 generalize cM.map C0=ps at a⊢;refine bj a ?_;refine Ha ?_;exact VJ (d:=d) (H0:=H) (Q:=Q) L h j l e p q
end
def OE (q: ∀h,Q (.bool true) h):Y2 (cx ab (d+20) 1070 [.ap (aq xs)] H) Q:=by refine ao (fr:= %[.ap (aq xs)|34]) Pw rfl (bj jR ?_);refine gy (fun ξ=>?_) fun ξ=>R3 q;exact R3 (s0:=[1283040000000000000062373,245760000000000000049152,1474560000000000000278244323]) q
end Mine.Internal
namespace Mine.Internal
open PySem PySem.W PyProof.Rows PySem.Calls PySem.SeqAt
set_option backward.match.sparseCases true
section
def vj (g:Gt):Bool:=
 Ad.all (fun p=>AG g Fq p.1 p.2 ((uo.lookup p.1).getD []))&&cW.all (fun p=>uq (BL g) lr p.1 p.2)&&mf g (BL g) lu sE&&
  (g sysModules).isSome&&decide lr.Nodup&&OO g mainGlobals&&OO g builtinsNs&&DT g&&((Hn g mainGlobals (Str.ofString "enumerate")).isNone&&Hn g builtinsNs (Str.ofString "enumerate")==some (.type "enumerate"))
variable {X:Cx} {h:Heap}
def zO (w:World) (h:Heap):Cx:=⟨pw,w,h,BL h.get?,h.nsMap mainGlobals,h.nsMap builtinsNs,ab,lr,lu⟩
mutual
theorem zP: ∀{v:V} {x:Value},SW X.hb.get? v x=true→VR X X.hb (fun ξ=>none) v x
 | .none,x,e=>by induction x using Value.casesOn<;>first|rfl|cases e
 | .bool b,x,e=>by induction x using Value.casesOn<;>first|exact W4 Value.bool (hZ e).symm|cases e
 | .int b,x,e=>by induction x using Value.casesOn<;>first|(cases hZ e;exact⟨_⟩)|cases e
 | .str b,x,e=>by induction x using Value.casesOn<;>first|(cases hZ e;exact⟨_⟩)|cases e
 | .aG p,x,e=>by
  induction x using Value.casesOn with
  |ref a=>
   replace e:(match X.hb.get? a with
    |some o=>match o with
     |⟨c,q,k,sl⟩=>match k with
      | .seq m n=>c== .type "tuple"&&q.isNone&&sl.size==0&&n==0&&decide (p.length≤cV)&&BK X.hb.get? p m.toList
      |_=>false
    |none=>false)=true:=e
   cases g:X.hb.get? a with
   |none=>rw[g] at e;cases e
   |some o=>
    rw[g] at e;obtain⟨c,q,k,sl⟩:=o;induction k using Data.casesOn with
    |seq m n=>obtain⟨e,r⟩:=ak e;obtain⟨e,s⟩:=ak e;obtain⟨e,t⟩:=ak e;obtain⟨e,u⟩:=ak e;obtain⟨w,y⟩:=ak e;obtain rfl:=hZ w;obtain rfl:=hZ t;obtain rfl:=X1.mp y;obtain rfl:=ZP (hZ u);exact⟨a,m.toList,rfl,g,XY s,vk r⟩
    |_=>cases e
  |_=>cases e
 | .bI b,x,e=>by induction x using Value.casesOn<;>first|exact W4 Value.ref (hZ e).symm|cases e
 | .ty b,x,e=>by induction x using Value.casesOn<;>first|exact W4 Value.type (hZ e)|cases e
 | .bi b,x,e=>by induction x using Value.casesOn<;>first|exact W4 Value.builtin (hZ e)|cases e
 | .bytes _,_,e=>nomatch e
 | .ap _,_,e=>nomatch e
 | .eR _ _,_,e=>nomatch e
 | .inst _ _ _,_,e=>nomatch e
 | .ref _,_,e=>nomatch e
 | .t7 _ _,_,e=>nomatch e
theorem vk: ∀{m:aN} {k:ax},BK X.hb.get? m k=true→bZ X X.hb (fun ξ=>none) m k
 |[],k,e=>Yp.mp e
 |v::m,[],e=>nomatch e
 |v::m,x::k,e=>⟨x,k,zP (ak e).1,vk (ak e).2⟩
end
theorem oa: ∀{l:List (Option Str)},me l=true→ ∀{i j:Nat} {x:Str},l[i]?=some (some x)→l[j]?=some (some x)→i=j
 |[],_,i,_,_,h,_=>nomatch h
 |o::r,e,0,0,x,k,m=>rfl
 |o::r,e,0,j+1,x,k,m=>by
  cases k
  haveI:(!r.contains (some x))=true:=(ak e).1;rw[Zf.mpr (XI (show r[j]?=_ from m))] at this;cases this
 |o::r,e,i+1,0,x,k,m=>by
  cases m
  haveI:(!r.contains (some x))=true:=(ak e).1;rw[Zf.mpr (XI (show r[i]?=_ from k))] at this;cases this
 |o::r,e,i+1,j+1,x,k,m=>W4 _ (oa (ak e).2 k m)
def Db (e:yq h.get? n q=true):h.CodeRec n q:=by
 induction n using Value.casesOn with
 |ref c=>
  replace e:(match h.get? c with
   |some o=>match o.data with
    | .fields k=>match k.toList with
     |_::y::_=>match y with
      | .str x _=>x==q
      |_=>false
     |_=>false
    |_=>false
   |none=>false)=true:=e
  cases g:h.get? c with
  |none=>rw[g] at e;cases e
  |some o=>
   rw[g] at e
   replace e:(match o.data with
    | .fields k=>match k.toList with
     |_::y::_=>match y with
      | .str x _=>x==q
      |_=>false
     |_=>false
    |_=>false)=true:=e
   induction hd:o.data using Data.casesOn with
   |fields k=>
    rw[hd] at e
    replace e:(match k.toList with
     |_::y::_=>match y with
      | .str x _=>x==q
      |_=>false
     |_=>false)=true:=e
    cases m:k.toList with
    |nil=>rw[m] at e;cases e
    |cons z l=>
     rw[m] at e;cases l with
     |nil=>cases e
     |cons y l=>
      induction y using Value.casesOn with
      |str x t=>refine⟨c,o,k,t,rfl,g,hd,?_⟩;rw[←ZN,m,←hZ e];rfl
      |_=>cases e
   |_=>rw[hd] at e;cases e
 |_=>cases e
def Dc (e:yr X.hb.get? p d=true): ∃x,((d= .none∧x=[])∨(∃T n,d= .ref T∧X.hb.get? T=some (dA x n)))∧bZ X X.hb (fun ξ=>none) p x:=by
 induction d using Value.casesOn with
 |none=>exact⟨[],.inl ⟨rfl,rfl⟩,by rw[Yp.mp e];rfl⟩
 |ref T=>
  replace e:(match X.hb.get? T with
   |some o=>match o with
    |⟨c,q,k,sl⟩=>match k with
     | .seq m n=>c== .type "tuple"&&q.isNone&&sl.size==0&&BK X.hb.get? p m.toList
     |_=>false
   |none=>false)=true:=e
  cases g:X.hb.get? T with
  |none=>rw[g] at e;cases e
  |some o=>
   rw[g] at e;obtain⟨c,q,k,sl⟩:=o;induction k using Data.casesOn with
   |seq m n=>obtain⟨e,r⟩:=ak e;obtain⟨e,s⟩:=ak e;obtain⟨t,u⟩:=ak e;obtain rfl:=hZ t;obtain rfl:=X1.mp u;obtain rfl:=ZP (hZ s);exact⟨m.toList,.inr ⟨T,n,rfl,g⟩,vk r⟩
   |_=>cases e
 |_=>cases e
def ru {k:List Str} {sl:List (Option Str)} (e:sl.take k.length=k.map some) {i:Nat} {x:Str} (h:k[i]?=some x):sl[i]?=some (some x):=by
 haveI m:=(Xf.mp h).1;haveI:(sl.take k.length)[i]?=some (some x):=by rw[e,Xk,h];rfl
 rwa[Ym m] at this
@[reducible] def Ky (X : Cx) (a : Nat) (x : Fn) (sl : List (Option Str)) (fd : FuncData) : Prop := ∀ {o : Obj} (g : X.hb.get? a = some o) (hd : o.data = .func fd) (e : my X.hb.get? X.nm x sl fd = true), ∃ k fd m ns, NK X a x k fd m ns
abbrev Kz:List Type:=[Cx,Nat,Fn,List (Option Str),FuncData]
def R4:=eV Kz Ky ⟨vn,nI,VU,nI,nI,trivial⟩
def VK:eU Kz Ky R4:=by
 injections R4 X a m sl k;change Ky X a m sl k;intro o g hd e
 replace e:(match k.body with
  | .stmts r=>k.closure.isEmpty&&k.globals==mainGlobals&&k.builtins==builtinsNs&&k.scope.kind== .function&& !k.scope.isCoroutine&& !k.scope.isGenerator&&yq X.hb.get? k.code k.qualname&&
   (k.params.posonlyargs.isEmpty&&k.params.vararg.isNone&&k.params.kwonlyargs.isEmpty&&k.params.kwarg.isNone)&&m.np==k.params.args.length&&sl.take m.np==(k.params.args.map fun a=>some a.arg)&&me sl&&
   sl.all (fun o=>match o with
    |some x=>match k.scope.names.lookup x with
     |some .local=>true
     |some .cell=>k.scope.names.contains (x,.cell)
     |_=>false
    |none=>true)&&yr X.hb.get? m.dflt k.defaults&&decide (m.dflt.length≤m.np)&&lC X.nm ⟨k.scope,sl⟩ m.body r
  |_=>false)=true:=e
 induction s:k.body using FuncBody.casesOn with
 |stmts r=>
  rw[s] at e;obtain⟨e,t⟩:=ak e;obtain⟨e,u⟩:=ak e;obtain⟨e,v⟩:=ak e;obtain⟨e,w⟩:=ak e;obtain⟨e,y⟩:=ak e;obtain⟨e,z⟩:=ak e;obtain⟨e,c⟩:=ak e;obtain⟨e,d⟩:=ak e;obtain⟨e,f⟩:=ak e;obtain⟨e,A⟩:=ak e;obtain⟨e,B⟩:=ak e;obtain⟨e,C⟩:=ak e;obtain⟨e,D⟩:=ak e;obtain⟨G,H⟩:=ak e;obtain⟨e,I⟩:=ak d;obtain⟨e,J⟩:=ak e;obtain⟨L,N⟩:=ak e;have np:m.np=(k.params.args.map (·.arg)).length:=(hZ c).trans (WP _).symm;have l:sl.take (k.params.args.map (·.arg)).length=(k.params.args.map (·.arg)).map some:=by rw[←np,hZ z,XW];rfl
  have n:=fun(i j:Nat) (x:Str) (p:sl[i]?=some (some x)) (b:sl[j]?=some (some x))=>oa y p b
  refine⟨⟨k.scope,sl⟩,k,r,k.params.args.map (·.arg),⟨o,g,hd⟩,Db f,s,Yp.mp G,hZ H,hZ D,rfl,hZ C,yI B,yI A,⟨Yp.mp L,rfl,X1.mp N,Yp.mp J,X1.mp I⟩,?_,np,
   fun i x h=>ru l h,n,fun i x h=>?_,Dc v,XY u,t⟩
  ·refine List.pairwise_iff_getElem.mpr fun i j O Q U e=>?_;haveI p:=ru l (WS O);haveI b:=ru l (WS Q);rw[e] at p;exact Ys U (n _ _ _ p b)
  ·have:=YT.mp w _ (XI h)
   replace this:(match k.scope.names.lookup x with
    |some .local=>true
    |some .cell=>k.scope.names.contains (x,.cell)
    |_=>false)=true:=this
   show k.scope.names.lookup x=_∨k.scope.names.lookup x=_∧_;cases q:k.scope.names.lookup x with
   |none=>rw[q] at this;cases this
   |some Y=>
    rw[q] at this;induction Y using NameKind.casesOn with
    |«local»=>exact .inl rfl
    |cell=>exact .inr ⟨rfl,Zf.mp this⟩
    |_=>cases this
 |_=>rw[s] at e;cases e
def Dd:eB Kz Ky:=eA Kz VK
def Hc {sl:List (Option Str)} (e:AG X.hb.get? X.nm a k sl=true): ∃m x n p,NK X a k m x n p:=by
 replace e:(match X.hb.get? a with
  |some o=>match o.data with
   | .func x=>my X.hb.get? X.nm k sl x
   |_=>false
  |none=>false)=true:=e
 cases g:X.hb.get? a with
 |none=>rw[g] at e;cases e
 |some o=>
  rw[g] at e
  replace e:(match o.data with
   | .func x=>my X.hb.get? X.nm k sl x
   |_=>false)=true:=e
  induction hd:o.data using Data.casesOn with
  |func x=>rw[hd] at e;exact Dd g hd e
  |_=>rw[hd] at e;cases e
def zQ (e:Af X.K c x o=true):uC X c x o:=by
 obtain⟨e,k⟩:=ak e;obtain⟨m,n⟩:=ak e;refine⟨yI m,hZ n,?_⟩;cases o with
 |none=>exact .none (hZ k)
 |some v=>
  cases v with
  |bI f=>obtain⟨e,p⟩:=ak k;obtain⟨s,u⟩:=ak e;exact .bI f (hZ s) u p
  |int i=>
   replace k:(match findIn X.K (.ref c) x with
    |some (some (.int j _))=>i==j
    |_=>false)=true:=k
   cases q:findIn X.K (.ref c) x with
   |none=>rw[q] at k;cases k
   |some r=>
    cases r with
    |none=>rw[q] at k;cases k
    |some v=>
     rw[q] at k;induction v using Value.casesOn with
     |int j t=>exact .int i t (q.trans (by rw[hZ k]))
     |_=>cases k
  |_=>cases k
theorem oc: ∀{l:List Str} {k:Nat},pW X.K c m l k=true→ ∀{n:Nat} {x:Str},l[n]?=some x→uC X c x (m.lookup (k+n))
 |[],_,_,_,_,h=>nomatch h
 |y::r,k,e,0,x,h=>by cases h;exact zQ (ak e).1
 |y::r,k,e,n+1,x,h=>by haveI:=oc (ak e).2 (n:=n) h;rwa[show k+1+n=k+(n+1) by lia] at this
def De (e:uq X.K X.fj c k=true):Ee X c k∧makesIn X.K c=true:=by obtain⟨e,m⟩:=ak e;obtain⟨e,p⟩:=ak e;obtain⟨e,q⟩:=ak e;obtain⟨e,r⟩:=ak e;obtain⟨e,s⟩:=ak e;obtain⟨t,u⟩:=ak e;exact⟨⟨t,hZ u,hZ s,hZ r,q,fun n x h=>by haveI:=oc m h;rwa[X2] at this⟩,p⟩
def zR (m:X.mg=X.hb.nsMap mainGlobals) (r:X.mb=X.hb.nsMap builtinsNs) (e:ur X.hb.get? X.K x v=true):Uu X x v∧ ∀a,v= .bI a→keepIn X.K (.ref a)=true:=by
 obtain⟨k,n⟩:=ak e;refine⟨?_,fun a q=>by rw[q] at n;exact n⟩;rw[yp] at k;cases q:X.hb.nsMap mainGlobals x with
 |some y=>rw[q] at k;exact .ae y (by rwa[m]) (zP k)
 |none=>
  rw[q] at k;cases p:X.hb.nsMap builtinsNs x with
  |some y=>rw[p] at k;exact .Ho y (by rwa[m]) (by rwa[r]) (zP k)
  |none=>rw[p] at k;cases k
theorem oe: ∀{m:List Str} {n:aN},mf X.hb.get? X.K m n=true→ ∀{k:Nat} {x:Str} {v:V},m[k]?=some x→n[k]?=some v→ur X.hb.get? X.K x v=true
 |[],_,_,_,_,_,h,_=>nomatch h
 |_::_,[],_,_,_,_,_,h=>nomatch h
 |y::m,w::n,e,0,x,v,p,q=>by cases p;cases q;exact(ak e).1
 |y::m,w::n,e,k+1,x,v,p,q=>oe (ak e).2 p q
theorem zS: ∀{l:aL},(T4 h.get? l).In h
 |[],_,_,e=>nomatch e
 |b::l,a,o,e=>by
  unfold T4 at e;rw[Z1] at e;cases g:h.get? b with
  |none=>rw[g] at e;exact zS (l:=l) a o e
  |some x=>
   rw[g] at e;dsimp only[Option.map_some] at e;rw[Yy] at e;cases q:a==b with
   |true=>rw[q] at e;cases e;rwa[XJ.mp q]
   |false=>rw[q] at e;exact zS (l:=l) a o e
theorem lV {α:Type} {p:Nat×α→Bool}: ∀{l:List (Nat×α)} {a:Nat} {x:α},l.all p=true→l.lookup a=some x→p (a,x)=true
 |[],_,_,_,h=>nomatch h
 |(b,y)::l,a,x,e,h=>by
  rw[List.all_cons] at e;rw[Yy] at h;cases q:a==b with
  |true=>rw[q] at h;cases h;rw[XJ.mp q];exact(ak e).1
  |false=>rw[q] at h;exact lV (ak e).2 h
def KA {k:Nat} {v:V} (h:sE[k]?=some v): ∃x,lu[k]?=some x:=by
 have e:sE.length=lu.length:=by kernel_rfl
 exact⟨_,WS (e▸(Xf.mp h).1)⟩
def zT (e:vj h.get?=true):mx (zO w h):=by obtain⟨e,t⟩:=ak e;obtain⟨e,n⟩:=ak e;obtain⟨e,z⟩:=ak e;obtain⟨e,g⟩:=ak e;obtain⟨e,i⟩:=ak e;obtain⟨e,j⟩:=ak e;obtain⟨e,l⟩:=ak e;obtain⟨b,d⟩:=ak e;have u:=fun c m (q:ab.cls c=some m)=>De (X:=zO w h) (lV (p:=fun p=>uq (BL h.get?) lr p.1 p.2) d q);have y:=fun k x v (r:lu[k]?=some x) (s:sE[k]?=some v)=>zR (X:=zO w h) rfl rfl (oe (X:=zO w h) l r s);unfold DT at n;rw[yp] at n t;obtain⟨f,o⟩:=ak n;obtain⟨n1,n2⟩:=ak t;exact{sys:=Option.isSome_iff_exists.mp j,kin:=zS,nodup:=XY i,cls:=fun c m q=>(u c m q).1,mg:= .of_isNs g,mb:= .of_isNs z,globs:=fun k x v r s=>(y k x v r s).1,gobj:=fun k a q=>let⟨x,A⟩:=KA q;(y k x _ A q).2 a rfl,enm:=⟨X1.mp n1,hZ n2⟩,fns:=fun a B q=>Hc (X:=zO w h) (lV (p:=fun p=>AG h.get? Fq p.1 p.2 ((uo.lookup p.1).getD [])) b q),nolim:=⟨_,.of_isNs f,X1.mp o⟩,init:=rfl,made:=fun c m q=>(u c m q).2}
end
set_option tactic.hygienic true
def xt (s:Shared):Bool:=vj s.heap.get?&&Hn s.heap.get? mainGlobals BM==some (.ref 1070)
def R5 (x:Ft s.heap.get?=true) (h:ut s.heap.get?=true):xt s=true:=by unfold ut at h;unfold xt vj;simp only[Xx] at h⊢;obtain⟨⟨⟨⟨⟨⟨⟨⟨a,b⟩,c⟩,d⟩,e⟩,f⟩,g⟩,i⟩,j⟩:=h;exact⟨⟨⟨⟨⟨⟨⟨⟨⟨x,a⟩,b⟩,c⟩,d⟩,e⟩,f⟩,g⟩,i⟩,j⟩
def lW (h:a=true) (k:b=true):(a&&b)=true:=by rw[h,k];rfl
def R6 {w:World} {os:OsState} (h:Fu (jG e (jF w.params os) (topStub pw))=true) (q:DU w.params (jG e (jF w.params os) (topStub pw))=true) (u:(jG e (jF w.params os) (topStub pw)).map (fun r=>(namesBound pw r.abs.heap,Fast.tw4187177175401517315 qv lo vH (fun ξ=>true) true r.abs))=some (true,openGood qv lo)):
  (topFrom treeTable pw e 20000 ⟨boot_heap w.params,#[],boot_drawn,boot_toks,os⟩).map (fun s=>(openSeen qv lo vH xt true s,()))=some (openGood qv lo,()):=by
 rw[←Fast.te4187177175401517315] at u;obtain⟨r,m,l⟩:=Xy.mp u;obtain⟨v,y⟩:=ZA l;rw[m] at h q;obtain⟨n,k⟩:=ak (show((staticsOk vH (boot_heap w.params) r.abs.heap&&(gensDone r.abs&&laidKept (boot_heap w.params) r.abs.heap))&&ut (gT r))=true from q);obtain⟨n,p⟩:=ak n;obtain⟨p,g⟩:=ak p;have i:VV w.params r.abs=true:=lW (lW (lW n v) p) g;replace h:Ft (gT r)=true:=h;rw[Pz] at h k;have k:=R5 h k;have j:openSeen qv lo vH xt true r.abs=openGood qv lo:=by rw[←y];unfold openSeen;rw[k]
 rw[DR] at m;have t:=Ae m;rw[DQ] at t;obtain⟨z1,z⟩:=ZA (HK w.params);obtain⟨z2,a⟩:=ZA z;unfold topFrom;dsimp only;rw[z1,z2,a];change Option.map _ ((topRun treeTable pw e 11 (some (.ref 6)) 20000 ⟨boot_heap w.params,#[],boot_drawn,boot_toks,os⟩ (topStub pw)).bind _)=_ at⊢;rw[t]
 change Option.map _ (match VV w.params r.abs with|true=>some r.abs|false=>none)=_ at⊢;rw[i];exact W4 (fun x=>some (x,())) j
def left:LeftO pw qv lo xt (fun ξ=>()) (fun ξ=>()) 20000:=LeftO.of_split yt fun w=>by
 obtain⟨⟨h,x,d,k,os⟩,e,m⟩:=Xy.mp (boot_open (p:=pw) (N:=20000) L' rfl Mc w);obtain⟨rfl,rfl,rfl,rfl⟩:h=boot_heap w.params∧x= #[]∧d=boot_drawn∧k=boot_toks:=by simpa using m
 rw[e];change some (_,_)=some _ at⊢;rw (config:={}) [R6 (NM w os) (L6 w os) (L8 w os),R6 (NN w os) (L7 w os) (L9 w os)]
set_option tactic.hygienic false
abbrev lX:OpenLaw:=PySem.Challenge.rw_tu0018_01
def xO:DefRec:=((defOf qv BM).get (by kernel_rfl)).1
def R7 (mg:Str→Option Value) (h:Heap):Prop:= ∃e:Heap,vj e.get?=true∧(∀b o,e.get? b=some o→h.get? b=some o)∧mg BM=some (.ref 1070)
def R8 (s:Shared) (e:xt s=true):R7 (s.heap.nsMap mainGlobals) s.heap:=by obtain⟨x,h⟩:=YL.mp e;rw[yp] at h;exact⟨s.heap,x,fun ξ ξ e=>e,hZ h⟩
theorem tV: ∀{x:ah} {e:ax} {k:List Addr},ReadsAllW R u h e (x.map WData.int) k→bZ X h w (aq x) e
 |[],e,k,r=>(readsAllW_nil_inv r).1
 |n::x,e,k,r=>by obtain⟨v,e,m,p,rfl,-,q,s⟩:=readsAllW_cons_inv r;obtain⟨t,rfl,-⟩:=readsW_int_inv q;exact⟨_,_,⟨t⟩,tV s⟩
theorem rA: ∀h:ah,ofPys (h.map PyData.int)=h.map WData.int
 |[]=>rfl
 |n::h=>W4 (WData.int n:: ·) (rA h)
def KC (k: ∀b o,h.get? b=some o→s.heap.get? b=some o):HR (zO w h) ⟨fun ξ=>none,s,.e⟩:=
 ⟨fun b o e=>⟨k b o e,rfl⟩,fun a o e=>(nomatch e),fun a r e=>(nomatch e),trivial⟩
def Dg:gW 20 callerA:=⟨rfl,by decide,by decide⟩
def OF:lX.row.pre= .and (.not (.lt (.lit (.int 63)) (.len (.arg 0)))) (.lit (.bool true)):=by kernel_rfl
def OG {h:ah} (p:WTm.holds lX.row.records lX.row.pre {args:=[WData.list (h.map WData.int)]}=true):h.length≤63:=by
 rw[OF] at p;have p:=(holds_andW p).1;unfold WTm.holds at p;simp[WTm.value] at p;by_cases q:(63:Int)<(h.length:Int)
 ·have:less? (.int 63) (.int (h.length:Int))=some true:=W4 some (Xz q);rw[this] at p;cases p
 ·lia
def KD:lX.row.claim.post [WData.list (List.map WData.int h)] (WData.bool true) [WData.list (List.map WData.int h)]=true:=by kernel_rfl
def Hd:WalkX qv lo R7 (fun _:Shared=>()) (fun ξ=>()) lX.row.toRowW xO [] fun f i=>PySem.call f i:=by
 intro w k x mg mb G Y a o pm cd doc dV kV h1 h2 h3 h4 h5 m args O as L p U j hb ha;obtain⟨h0,hc,hk,hl⟩:=G.X;obtain rfl:a=1070:=by rw[show mg BM=some (.ref a) from h5] at hl;cases hl;rfl
 have S:=zT (w:=w) hc;obtain⟨p1,p2⟩:=pre_splitW p;obtain⟨d,r,rfl,B,C⟩:=hasAllW_cons p1;obtain rfl:=hasAllW_nil C;obtain⟨ds,rfl,D⟩:=hasW_list B;obtain⟨t,rfl⟩:=items_int D;obtain⟨v,i,u,he,rfl,rfl,r1,r2⟩:=readsAllW_cons_inv j;obtain⟨rfl,rfl⟩:=readsAllW_nil_inv r2;cases r1 with
 | @list l ob its n _ u g1 g2 g3 g4=>
  have L2:Laid lX.row.toRowW.records w k x [ofPy (PyData.list (t.map PyData.int))] [.ref l] (l::u++[]):=by show Laid _ _ _ _ [WData.list (ofPys (t.map PyData.int))] _ _;rwa[rA]
  have g:=PySem.W.X.script_obj L2 (a:=l) (its:=its) ⟨ob,g1,g2,n,g3⟩;have I:=OG p2;have hr:=KC (w:=w) (s:=x) hk;have keep: ∀{J},Go (zO w h0) cS ⟨fun ξ=>none,x,.e⟩ J→ ∀b o,x.heap.get? b=some o→J.s.heap.get? b=some o:=fun g b o e=>(g.vJ b o e fun r q=>(nomatch q)).1
  refine Xu (wpAny_call (AF S 20 (A:=callerA) (c:=⟨fun ξ=>none,x,.e⟩) (vs:=[.ap (aq t)]) (xs:=[.ref l]) (Q:=fun v ξ=>v= .bool true)
   (R:=fun y z=>y= .bool true∧(∀b o,x.heap.get? b=some o→z.heap.get? b=some o)∧z.gens=x.gens∧z.os=x.os) Dg hr ⟨_,_,⟨l,0,its.toList,rfl,g,?_,tV g4⟩,rfl⟩ ?_ fun J v y N r e=>?_)) (fun v z q=>?_) fun ξ ξ f=>f.elim
  ·show(t.map V.int).length≤cV;rw[WP];exact WR I (by unfold cV;decide)
  ·have:=(OE (d:=0) (xs:=t) (H:= .e) (Q:=fun v ξ=>v= .bool true) fun ξ=>rfl).go;rw[DI] at this;exact this
  ·subst e;exact⟨r,keep N,N.gens,N.os⟩
  ·obtain⟨rfl,B,C,D⟩:=q;exact⟨.inl ⟨.bool true,.bool true,[],rfl,fun hf=>rfl,.bool true,KD,fun ξ=>⟨.nil,fun a h=>(nomatch h)⟩⟩,.of_keep B,D,.of_eq (C.trans m)⟩
def KG:defOf qv lX.row.name=some (xO,[]):=by kernel_rfl
def KH:lX.row.prog.theDef lX.row.name=some (xO.params,xO.body,xO.scope):=by kernel_rfl
def OH:kwWritten? xO.params.kwonlyargs xO.params.kw_defaults=some []:=by kernel_rfl
def R9:(sreFenced pw.main&&((moduleNames pw.main.body).isEmpty||lookedIntoSs (moduleNames pw.main.body) pw.main.body))=true:=by kernel_rfl
def R':namesResolve pw=true:=by kernel_rfl
def SA:pw.boundNames.all (fun n=> !worldNames.contains n)=true:=by kernel_rfl
def SG:noRoadLSs {strict:= !(importedModules pw.main.body).all cThrough.contains,foot:=none,bare:=(["vars","dir","locals"]:List Str).filter (readsOut pw pw.main.body)} pw.main.body=true:=by kernel_rfl
def SH:namesMeet pw pw.main.body (fun ξ n=>attrL n)=true:=by kernel_rfl
def SI:looksOpen pw=true:=by unfold looksOpen;exact lW (lW (lW (lW R9 R') SA) SG) SH
def xP:lX.row.wellSaid=true:=by
 unfold OpenRow.wellSaid OpenRow.partSaid;rw[show looksOpen lX.row.prog=true from SI]
 kernel_rfl
def SJ:noRoadLSs {strict:=true,foot:=some lX.bound',writes:=lX.writes,may:=lX.may} lX.footing=true:=by kernel_rfl
def SK:lX.bound'.all (fun n=> !builtinNamed n||lX.about==[n]|| !lX.reads n)=true:=by kernel_rfl
def SM:namesMeet lX.prog lX.above (fun ξ n=> !lX.own.contains n)=true:=by kernel_rfl
def He:lX.wellSaid=true:=by
 unfold OpenLaw.wellSaid;rw (config:={}) [xP,SJ,SK,SM]
 kernel_rfl
def KI:(chainsOk qv&&opensWell lX.row.prog&&(frees lX.row.toRowW&&lX.row.within.isEmpty))=true:=by kernel_rfl
def SN:lX.row.prog.main.body.all (fun ξ=>true)=true:=by kernel_rfl
def Hf:lX.row.prog.bare:=⟨rfl,rfl,rfl,rfl,rfl,by decide+kernel⟩
def Hg:lX.row.toRowW.promised:=RowW.promised_of_found (by kernel_rfl)
def Dh (mg:Str→Option Value) (h m:Heap) (x:R7 mg h) (k: ∀b o,h.get? b=some o→m.get? b=some o):R7 mg m:=let⟨n,a,b,c⟩:=x;⟨n,a,fun x o e=>k x o (b x o e),c⟩
def Hh (s:Shared) (_:xt s=true):RecFacts lX.row.toRowW.records s.heap:=recFacts_nil rfl
def Di:lX.row.Holds:=holds_openX (r:=lX.row) (q:=qv) (loose:=lo) (Xt:=xt) (XP:=R7) (Yf:=fun ξ=>()) (Ya:=fun ξ=>()) (d:=xO) (kwd:=[]) (N:=20000) left R8 Dh KG KH OH Hh rfl xP KI Hf Hg Hd
end Mine.Internal
theorem PySem.Challenge.cw_tu0018_01_holds : PySem.Challenge.rw_tu0018_01.Holds :=
 ⟨Mine.Internal.He,Mine.Internal.Di⟩
