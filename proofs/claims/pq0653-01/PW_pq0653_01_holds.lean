import PyProof.Rows.All
import Wide.Tac
import Wide.Line
import Open.FastLooks
import Open.FastRun
import Open.FastT9
import Open.Line
import Open.Head
import PyProof.Ends
import PyProof.CompFree
import PyProof.WalksMore
import PyProof.CompMap
import PyProof.EnumMake
import KE.BytesMulAny
import KE.KxBytes
import PyProof.Rows.TupAdd
import PyProof.Rows.SeqMore
import PyProof.AutoIntOpsIf
import PyProof.Raises
import PyProof.RulesTry
import PyProof.EnumStmt
import PyProof.ZipIter
import PyProof.DictWalks
import PyProof.RangeFor
import KE.KBytesWalk
import ObjForm.Fk.ObjNew
import PyProof.Cells
import PyProof.TupleIter
import PyProof.DictStraight
import PyProof.DictDisplay
import KE.KLam
import PyProof.RaisesMany
import PyProof.Rows.TupAssign
import PyProof.RulesAssignMore
import PyProof.AssignAttr
import PyProof.InstStoreFacts
import PyProof.LetGo
import PyProof.ListTruth
import PyProof.EqKinds
import PyProof.NeKinds
import PyProof.DictRoads
import PyProof.ExcInit
import PyProof.ExcFactsAll.Exception
import ObjForm.Fk.InstStore
import ObjForm.Fk.InstLoad
import KE.BytesMake
import KE.KDictSum
import PyProof.Conv_int_bool
import PyProof.Rows.RuleN_abs
import PyProof.Rows.SortShell
import PyProof.Rows.SortWalk
import PyProof.TupleOfSeq
import Wide.BytesRules
import KE.KBytesCut
import PyProof.MeetsDict
import PyProof.StrCalls2
import PyProof.SliceSyntax
import PyProof.ListNew
import PySem.Challenge.RW_pq0653_01
open Option.some renaming inj->U7
open PySem.Str renaming ofString->U8
open Nat renaming beq->U9,le_trans->Va,lt_of_lt_of_le->Vf,le_of_eq->Vg,le_of_ble_eq_true->Vi,ble->Vk,le_refl->Vm,not_lt_zero->Vq,succ_pos->Vx,ne_of_lt->Vy,le_succ->VA,zero_add->VC,beq_refl->VD,succ->VE,lt_succ_self->VH,succ_le_succ->VM,lt_succ_of_lt->VN,add_le_add_left->VO,lt_of_succ_lt_succ->VP,zero_le->VQ,succ_ne_zero->VU,lt_of_le_of_ne->VW,le_of_lt_succ->VZ,add_comm->V0,ne_of_gt->V4,blt->V8,add_le_add_right->Wa,le_add_right->Wd,div->We,add_le_add->Wj,lt_irrefl->Wr,mod->Ww,lt_succ_of_le->WC,mod_eq_of_lt->WI,lt_of_not_le->WJ,le_of_not_lt->WK,add_sub_cancel_left->WL,sub_le->WP,zero_lt_two->WQ,eq_of_beq_eq_true->WS,mul->WX,add_assoc->W4,lt_of_le_of_lt->W7,sub->Xf
open PySem.Heap renaming get?_push_of_some->Vb,get?_push_size->Vj,SameBut->Vn,get?_none_of_le->Vo,get?_update_self->Vp,lt_size->VB,get?_update_other->V3,size_push->V9,ExtBut->Wi,get?_push_ne->Xd,get?_push_at->Xe
open List renaming mem_cons_self->Vc,mem_cons_of_mem->Vd,not_mem_nil->Vh,replicate->Vr,length_map->Vs,contains_cons->Vu,lookup_cons->Vv,length_append->Vw,size_toArray->Vz,forIn_cons->VK,length_drop->VS,cons_ne_nil->VT,range->VV,take_append_drop->VX,eq_nil_of_length_eq_zero->V1,append_nil->V5,getElem?_eq_none->V6,mem_append_right->Wl,length_cons->Wm,map_cons->Wn,any_cons->Wo,reverse_reverse->Ws,mem_map_of_mem->Wu,filterMap_cons->Wv,getElem?_eq_getElem->WE,map_map->WO,nodup_nil->WV,forIn_nil->WW,map_congr_left->WY,take_nil->WZ,drop_nil->W0,zip_cons_cons->W5,reverse_cons->Xa,getElem?_map->Xb,any_eq_false->Xc
open Bool renaming false_ne_true->Ve,false_eq_true->Wz,and_eq_true->WH
open Int renaming le_trans->Vl,toNat_natCast->Vt,natCast_nonneg->VF,lt_of_le_of_lt->VG,le_of_lt->Wf,toNat_of_nonneg->Wg,lt_of_lt_of_le->Wh,mul_le_mul_of_nonneg_right->Wp,le_refl->Wt,mul_comm->Wx,add_sub_cancel->WA,eq_ofNat_of_zero_le->WM,le_antisymm->WR,add_le_add_left->W1,ne_of_gt->Xg
open Array renaming toList_append->VI,length_toList->VJ,getElem?_eq_none->V2,toList->Wb,getElem?_eq_getElem->Wc,getElem?_toList->Wk,size->WN,toArray_toList->WU,ext'->W3,toList_push->W8,eq_empty_of_size_eq_zero->Xh
open PySem.Obj renaming data_mapFields->VL,isFreed_of_fields->V7,cls_mapFields->WB,mapFields->WG,mapSeq->W6
open List.cons renaming inj->VY
open Nat.succ renaming inj->Wq
open Prod renaming fst->Wy
open PySem.Data.fields renaming inj->W2
open Option renaming bind_some->W9
set_option Elab.async false
set_option tactic.hygienic false
set_option bootstrap.genMatcherCode false
set_option genSizeOf false
set_option genInjectivity false
set_option linter.all false
set_option compiler.extract_closed false
set_option maxRecDepth 1000000
set_option maxHeartbeats 0
open PySem PyProof.Rows PySem.W
namespace Mine.Tactic
theorem e02{A B:Prop}{G:Prop}(h:A/\B)(f:A->B->G):G:=f h.1 h.2
theorem e11{α:Sort _}{A:α->Prop}{G:Prop}(h:∃x,A x)(f:∀x,A x->G):G:=h.elim λx h=>f x h
theorem e03{A B C:Prop}{G:Prop}(h:A/\B/\C)(f:A->B->C->G):G:=f h.1 h.2.1 h.2.2
theorem e12{α:Sort _}{A B:α->Prop}{G:Prop}(h:∃x,A x/\B x)(f:∀x,A x->B x->G):G:=h.elim λx h=>f x h.1 h.2
theorem e21{α β:Sort _}{A:α->β->Prop}{G:Prop}(h:∃x y,A x y)(f:∀x y,A x y->G):G:=h.elim λx h=>h.elim λy h=>f x y h
theorem e04{A B C D:Prop}{G:Prop}(h:A/\B/\C/\D)(f:A->B->C->D->G):G:=f h.1 h.2.1 h.2.2.1 h.2.2.2
theorem e13{α:Sort _}{A B C:α->Prop}{G:Prop}(h:∃x,A x/\B x/\C x)(f:∀x,A x->B x->C x->G):G:=h.elim λx h=>f x h.1 h.2.1 h.2.2
theorem e22{α β:Sort _}{A B:α->β->Prop}{G:Prop}(h:∃x y,A x y/\B x y)(f:∀x y,A x y->B x y->G):G:=h.elim λx h=>h.elim λy h=>f x y h.1 h.2
theorem e31{α β γ:Sort _}{A:α->β->γ->Prop}{G:Prop}(h:∃x y z,A x y z)(f:∀x y z,A x y z->G):G:=h.elim λx h=>h.elim λy h=>h.elim λz h=>f x y z h
theorem e05{A B C D E:Prop}{G:Prop}(h:A/\B/\C/\D/\E)(f:A->B->C->D->E->G):G:=f h.1 h.2.1 h.2.2.1 h.2.2.2.1 h.2.2.2.2
theorem e14{α:Sort _}{A B C D:α->Prop}{G:Prop}(h:∃x,A x/\B x/\C x/\D x)(f:∀x,A x->B x->C x->D x->G):G:=h.elim λx h=>f x h.1 h.2.1 h.2.2.1 h.2.2.2
theorem e23{α β:Sort _}{A B C:α->β->Prop}{G:Prop}(h:∃x y,A x y/\B x y/\C x y)(f:∀x y,A x y->B x y->C x y->G):G:=h.elim λx h=>h.elim λy h=>f x y h.1 h.2.1 h.2.2
theorem e32{α β γ:Sort _}{A B:α->β->γ->Prop}{G:Prop}(h:∃x y z,A x y z/\B x y z)(f:∀x y z,A x y z->B x y z->G):G:=h.elim λx h=>h.elim λy h=>h.elim λz h=>f x y z h.1 h.2
theorem e15{α:Sort _}{A B C D E:α->Prop}{G:Prop}(h:∃x,A x/\B x/\C x/\D x/\E x)(f:∀x,A x->B x->C x->D x->E x->G):G:=h.elim λx h=>f x h.1 h.2.1 h.2.2.1 h.2.2.2.1 h.2.2.2.2
theorem e24{α β:Sort _}{A B C D:α->β->Prop}{G:Prop}(h:∃x y,A x y/\B x y/\C x y/\D x y)(f:∀x y,A x y->B x y->C x y->D x y->G):G:=h.elim λx h=>h.elim λy h=>f x y h.1 h.2.1 h.2.2.1 h.2.2.2
theorem e33{α β γ:Sort _}{A B C:α->β->γ->Prop}{G:Prop}(h:∃x y z,A x y z/\B x y z/\C x y z)(f:∀x y z,A x y z->B x y z->C x y z->G):G:=h.elim λx h=>h.elim λy h=>h.elim λz h=>f x y z h.1 h.2.1 h.2.2
theorem e42{α β γ δ:Sort _}{A B:α->β->γ->δ->Prop}{G:Prop}(h:∃x y z u,A x y z u/\B x y z u)(f:∀x y z u,A x y z u->B x y z u->G):G:=h.elim λx h=>h.elim λy h=>h.elim λz h=>h.elim λu h=>f x y z u h.1 h.2
theorem e51{α β γ δ ε:Sort _}{A:α->β->γ->δ->ε->Prop}{G:Prop}(h:∃x y z u v,A x y z u v)(f:∀x y z u v,A x y z u v->G):G:=h.elim λx h=>h.elim λy h=>h.elim λz h=>h.elim λu h=>h.elim λv h=>f x y z u v h
theorem e16{α:Sort _}{A B C D E F:α->Prop}{G:Prop}(h:∃x,A x/\B x/\C x/\D x/\E x/\F x)(f:∀x,A x->B x->C x->D x->E x->F x->G):G:=h.elim λx h=>f x h.1 h.2.1 h.2.2.1 h.2.2.2.1 h.2.2.2.2.1 h.2.2.2.2.2
theorem e25{α β:Sort _}{A B C D E:α->β->Prop}{G:Prop}(h:∃x y,A x y/\B x y/\C x y/\D x y/\E x y)(f:∀x y,A x y->B x y->C x y->D x y->E x y->G):G:=h.elim λx h=>h.elim λy h=>f x y h.1 h.2.1 h.2.2.1 h.2.2.2.1 h.2.2.2.2
theorem e43{α β γ δ:Sort _}{A B C:α->β->γ->δ->Prop}{G:Prop}(h:∃x y z u,A x y z u/\B x y z u/\C x y z u)(f:∀x y z u,A x y z u->B x y z u->C x y z u->G):G:=h.elim λx h=>h.elim λy h=>h.elim λz h=>h.elim λu h=>f x y z u h.1 h.2.1 h.2.2
theorem e17{α:Sort _}{A B C D E F H:α->Prop}{G:Prop}(h:∃x,A x/\B x/\C x/\D x/\E x/\F x/\H x)(f:∀x,A x->B x->C x->D x->E x->F x->H x->G):G:=h.elim λx h=>f x h.1 h.2.1 h.2.2.1 h.2.2.2.1 h.2.2.2.2.1 h.2.2.2.2.2.1 h.2.2.2.2.2.2
theorem e26{α β:Sort _}{A B C D E F:α->β->Prop}{G:Prop}(h:∃x y,A x y/\B x y/\C x y/\D x y/\E x y/\F x y)(f:∀x y,A x y->B x y->C x y->D x y->E x y->F x y->G):G:=h.elim λx h=>h.elim λy h=>f x y h.1 h.2.1 h.2.2.1 h.2.2.2.1 h.2.2.2.2.1 h.2.2.2.2.2
theorem e35{α β γ:Sort _}{A B C D E:α->β->γ->Prop}{G:Prop}(h:∃x y z,A x y z/\B x y z/\C x y z/\D x y z/\E x y z)(f:∀x y z,A x y z->B x y z->C x y z->D x y z->E x y z->G):G:=h.elim λx h=>h.elim λy h=>h.elim λz h=>f x y z h.1 h.2.1 h.2.2.1 h.2.2.2.1 h.2.2.2.2
theorem e44{α β γ δ:Sort _}{A B C D:α->β->γ->δ->Prop}{G:Prop}(h:∃x y z u,A x y z u/\B x y z u/\C x y z u/\D x y z u)(f:∀x y z u,A x y z u->B x y z u->C x y z u->D x y z u->G):G:=h.elim λx h=>h.elim λy h=>h.elim λz h=>h.elim λu h=>f x y z u h.1 h.2.1 h.2.2.1 h.2.2.2
theorem ft{G:Prop}(h:false=true):G:=Bool.noConfusion h
theorem tf{G:Prop}(h:true=false):G:=Bool.noConfusion h
theorem nn{α:Type _}{G:Prop}{x:α}(h:none=some x):G:=(Option.some_ne_none x h.symm).elim
theorem nn'{α:Type _}{G:Prop}{x:α}(h:some x=none):G:=(Option.some_ne_none x h).elim
theorem se{α:Sort _}{x y:α}(h:x=y):x=y:=h
theorem si{α:Type _}{x y:α}(h:some x=some y):y=x:=(U7 h).symm
@[elab_as_elim] theorem rwl{α:Sort _}{P:α->Prop}{a b:α}(e:a=b)(h:P b):P a:=e▸h
@[elab_as_elim] theorem rwr{α:Sort _}{P:α->Prop}{a b:α}(e:b=a)(h:P b):P a:=e▸h
section
open Lean
def Yu(l:List Syntax):Syntax:=.node .none `null l.toArray
def Yo(k:String)(l:List Syntax):Syntax:=.node .none ("Lean.Parser.T"++k).toName l.toArray
def Yt(k:String)(a:Syntax):Syntax:=Yo k [Yu [],a]
def Ye(f:String)(l:List Syntax):Syntax:=Yo "erm.app" [mkIdent (`Mine.Tactic++.mkSimple f),Yu l]
def Yp(a b:Syntax):Syntax:=Yt "actic.first" (Yu [Yu [a,a],Yu [b,b]])
def Yz:Syntax:=mkIdent `z9
def Yc(h:Syntax):Syntax:=Yt "actic.clear" (Yu [h])
def Yy(t:Syntax):Syntax:=Yu [Yt "actic.tacticRepeat_" (Yo "actic.tacticSeq" [Yo "actic.tacticSeq1Indented" [Yu [Yu [Yt "actic.renameI" (Yu [.node .none `Lean.binderIdent #[Yz]]),Yc Yz]]]]),t]
def Yx(t:Syntax)(f:String)(a:Syntax):Syntax:=Yp (Yt "actic.exact" (Ye f [t])) a
def Yw(t:Syntax)(f:String)(a:Syntax):Syntax:=Yp (Yy (Yu [Yo "actic.tacticHave__" [Yz,Yt "erm.letConfig" Yz,Yo "erm.letDecl" [Yo "erm.letIdDecl" [Yo "erm.letId" [Yz],Yu [],Yu [],Yz,Ye f [t]]]],Yc t,Yt "actic.subst" (Yu [Yz])])) a
def Yg(s:Syntax)(i:Nat):Syntax:=s.getArg i
def Yk(s:Syntax)(k:String):Bool:=s.getKind.toString.endsWith k
def Ys(s:Syntax)(i:Nat)(t:Syntax):Syntax:=s.setArg i t
def Yn(s:Syntax)(i:Nat):Nat:=(s.getArg i).getNumArgs
def Yv(s:Syntax):Bool:=
  let t:=Yg (Yg (Yg s 1) 0) 1
  !(Yk (Yg s 0) "ident")&&Yn s 1==1&&Yn s 2+Yn s 3+Yn (Yg (Yg s 1) 0) 0==0&&(Yk t "ident"||Yk t "app"&&Yk (Yg t 0) "ident")
def Yq(s:Syntax):Syntax:=
  let t:=Yg (Yg (Yg s 1) 0) 1
  let c:=Ys s 0 Yz
  if Yk t "ident" then Yx t "ft" (Yx t "nn" (Yx t "nn'" (Yx t "tf" (Yw t "si" (Yw t "se" c))))) else
  Yy c
def Yr(s:Syntax):Syntax:=
  let l:=Yg s 2
  let r:=Yg (Yg l 1) 0
  let e:=Yg r 1
  let w:=(Ys s 2 (Ys l 1 (Yu [r]))).setKind `Lean.Parser.Tactic.rewriteSeq
  Yu [if e.isIdent&&e.getId.isAtomic&&e.getId.toString.length>8||(e.find? (Yk · "syntheticHole")).isSome then w
    else Yp (Yt "actic.refine" (Ye (if Yn r 0 !=0 then"rwr" else"rwl") [e,Yo "erm.syntheticHole" [Yu [],Yu []]])) w,
   if Yn l 1>2 then Ys s 2 (Ys l 1 (Yu ((Yg l 1).getArgs.toList.drop 2))) else Yt "actic.tacticTry_" (Yt "actic.withReducible" (Yo "actic.tacticRfl" [Yz]))]
end
local macro_rules (kind := Lean.Parser.Tactic.cases)
  | s => if Yv s then pure (Yq s) else Lean.Macro.throwUnsupported
local macro_rules (kind := Lean.Parser.Tactic.rwSeq)
  | s => if Yn (Yg s 1) 0 + Yn s 3 == 0 then pure (Yr s) else Lean.Macro.throwUnsupported
noncomputable def sC:List Nat->Nat->Nat
 |[],a=>a
 |c::r,a=>match V8 c 256 with
  |true=>sC r (Nat.add (WX a 256) c)
  |false=>0
noncomputable def cd(s:Str):Nat:=sC s.cps.toList 1
inductive AI where
 |c (n:Int)
 |s (k:Nat) (lo hi:Int)
 |u (lo hi:Option Int)
 |st (l:List Int)
 |pb (d:Nat)
inductive V where
 |none
 |bool (b:Bool)
 |int (a:AI)
 |str (s:Nat)
 |strU (n:Nat)
 |bytes (l:List AI)
 |tup (l:List V)
 |wr (k:Nat)
 |ref (k:Nat)
 |fn (a:Nat)
 |cls (a:Nat)
 |bi (x:Nat)
 |tok (k:Nat)
inductive O where
 |ns (m:List (Nat×V))
 |cell (v:Option V)
 |list (l:List V)
 |inst (cls:Nat) (m:List (Nat×V))
 |dict (l:List (Nat×V))
 |barr (l:List AI)
 |lsU (lo hi:Nat)
 |exc (cls:Nat) (m:List (Nat×V)) (new:Bool)
 |dead
 |nsU
 |lam (x:Nat) (body:Expr) (sc:List (Nat×NameKind)) (cells:List (Nat×Nat))
noncomputable def cR{α:Type}(o:Option α)(K:α->Bool):Bool:=Option.rec false K o
noncomputable def gd(b k:Bool):Bool:=match b with
 |true=>k
 |false=>false
noncomputable def dj(a b:Bool):Bool:=match a with
 |true=>true
 |false=>b
noncomputable def dE:V->Option AI
 |.int a=>some a
 |_=>none
noncomputable def iq:V->Option Bool
 |.bool b=>some b
 |_=>none
noncomputable def fj:V->Option Nat
 |.str k=>some k
 |_=>none
noncomputable def dk:V->Option (List AI)
 |.bytes l=>some l
 |_=>none
noncomputable def eg:V->Option (List V)
 |.tup l=>some l
 |_=>none
noncomputable def fk:V->Option Nat
 |.ref k=>some k
 |_=>none
noncomputable def oL:O->Option (List V)
 |.list l=>some l
 |_=>none
noncomputable def oD:O->Option (List (Nat×V))
 |.dict l=>some l
 |_=>none
noncomputable def oB:O->Option (List AI)
 |.barr l=>some l
 |_=>none
noncomputable def oS:O->Option (Nat×Nat)
 |.list l=>some (l.length,l.length)
 |.lsU a b=>some (a,b)
 |_=>none
noncomputable def oN:O->Option (List (Nat×V))
 |.ns m=>some m
 |_=>none
noncomputable def oC:O->Option (Option V)
 |.cell v=>some v
 |_=>none
noncomputable def oI:O->Option (Nat×List (Nat×V))
 |.inst c m=>some (c,m)
 |_=>none
noncomputable def oX:O->Option (Nat×List (Nat×V))
 |.exc c m _=>some (c,m)
 |_=>none
noncomputable def oE:O->Option (Nat×List (Nat×V)×Bool)
 |.exc c m b=>some (c,m,b)
 |_=>none
noncomputable def oU:O->Option (Nat×Nat)
 |.lsU a b=>some (a,b)
 |_=>none
structure MR where
 x:Nat
 body:Expr
 sc:List (Nat×NameKind)
 cells:List (Nat×Nat)
noncomputable def oF:O->Option MR
 |.lam x body sc cells=>some ⟨x,body,sc,cells⟩
 |_=>none
noncomputable def iU:V->Option Nat
 |.tok k=>some k
 |_=>none
noncomputable def dp{α β:Type}(o:Option α)(f:α->Option β):Option β:=Option.rec none f o
noncomputable def dq{α β:Type}(o:Option α)(d:β)(f:α->β):β:=Option.rec d f o
noncomputable def ei(v:V):Bool:=match v with
 |.none=>true
 |_=>false
noncomputable def db{α:Type}(b:Bool)(x y:α):α:=Bool.rec y x b
noncomputable def gO{α:Type}(b:Bool)(o:Option α):Option α:=match b with
 |true=>o
 |false=>none
noncomputable def sD{α:Type}(a b:Option α):Option α:=Option.rec b some a
noncomputable def gf(o:Option O):Option (List V):=dp o oL
noncomputable def nu(o:Option O):Option (List (Nat×V)):=dp o oD
noncomputable def AY(o:Option O):Option (List AI):=dp o oB
noncomputable def H0(o:Option O):Option (Nat×Nat):=dp o oS
noncomputable def dT{α:Type}(l:List α):Bool:=match l with
 |[]=>true
 |_::_=>false
noncomputable def nv{α:Type}(l:List α):Option (α×List α):=match l with
 |[]=>none
 |x::r=>some (x,r)
noncomputable def gq{α:Type}(l:List α):Option α:=dp (nv l) λp=>gO (dT p.2) (some p.1)
noncomputable def dF{α:Type}(l:List α)(K:α->Bool):Bool:=List.rec true (λv Y ih=>gd (K v) ih) l
noncomputable def lA{α:Type}(f:α->Bool)(l:List α):Bool:=List.rec false (λx Y ih=>dj (f x) ih) l
noncomputable def fm{α β:Type}(F:α->β->Bool)(l:List α):List β->Bool:=List.rec dT (λx Y ih l=>cR (nv l) λp=>gd (F x p.1) (ih p.2)) l
noncomputable def xe{α:Type}(F:Nat->α->Bool)(l:List α):Nat->Bool:=List.rec (λY=>true) (λx Y ih i=>gd (F i x) (ih (VE i))) l
noncomputable def Fv(l:List V)(k:Bool):Bool:=match l with
 |[]=>k
 |_::_=>false
noncomputable def iu(l:List V)(K:V->Bool):Bool:=match l with
 |[]=>false
 |v::r=>Fv r (K v)
noncomputable def AZ(l:List V)(K:V->V->Bool):Bool:=match l with
 |[]=>false
 |v::r=>iu r (K v)
inductive TR where
 |e
 |n (v:Option O) (l r:TR)
noncomputable def TR.get(t:TR):Nat->Option O:=
 TR.rec (motive:=λY=>Nat->Option O) (λY=>none) (λv Y Y il ir i=>Bool.rec (Bool.rec (ir (Xf (We i 2) 1)) (il (We i 2)) (U9 (Ww i 2) 1)) v (U9 i 0)) t
noncomputable def TR.setE(o:O)(f:Nat):Nat->TR:=
 Nat.rec (motive:=λY=>Nat->TR) (λY=>.e) (λY ih i=>Bool.rec (Bool.rec (.n none .e (ih (Xf (We i 2) 1))) (.n none (ih (We i 2)) .e) (U9 (Ww i 2) 1)) (.n (some o) .e .e) (U9 i 0)) f
noncomputable def TR.set(o:O)(f:Nat)(t:TR):Nat->TR:=
 TR.rec (motive:=λY=>Nat->TR) (TR.setE o f) (λv l r il ir i=>Bool.rec (Bool.rec (.n v l (ir (Xf (We i 2) 1))) (.n v (il (We i 2)) r) (U9 (Ww i 2) 1)) (.n (some o) l r) (U9 i 0)) t
structure H where
 a:List (Nat×O)
 k:Nat
 t:TR
 length:Nat
noncomputable def pF(d:Option O)(i:Nat)(l:List (Nat×O)):Option O:=
 List.rec d (λp Y ih=>Prod.rec (λj o=>Bool.rec ih (some o) (U9 j i)) p) l
noncomputable def A0(t:TR)(l:List (Nat×O)):TR:=
 List.rec t (λp Y ih=>Prod.rec (λj o=>TR.set o (VE j) ih j) p) l
noncomputable def H.get(h:H)(i:Nat):Option O:=H.rec (λa Y t Y=>pF (t.get i) i a) h
noncomputable def kj(i:Nat)(o:O)(a:List (Nat×O))(k:Nat)(t:TR)(n:Nat):H:=
 Bool.rec ⟨[(i,o)],1,A0 t a,n⟩ ⟨(i,o)::a,VE k,t,n⟩ (Vk k 12)
noncomputable def H.set(h:H)(i:Nat)(o:O):H:=H.rec (λa k t n=>
 List.rec (kj i o a k t n) (λp r Y=>Prod.rec (λj Y=>Bool.rec (kj i o a k t n) ⟨(i,o)::r,k,t,n⟩ (U9 j i)) p) a) h
noncomputable def H.push(h:H)(o:O):H:=H.rec (λa k t n=>kj n o a k t (VE n)) h
noncomputable def H.nil:H:=⟨[],0,.e,0⟩
noncomputable def fC{α:Type}(l:List α):Nat->Option α:=
 List.rec (λY=>none) (λx Y ih i=>Nat.rec (some x) (λj Y=>ih j) i) l
noncomputable def A1{α:Type}:List α->Nat->α->List α
 |[],_,_=>[]
 |_::r,0,y=>y::r
 |x::r,n+1,y=>x::A1 r n y
noncomputable def eJ{α:Type}(l:List (Nat×α))(x:Nat):Option α:=
 List.rec none (λp Y ih=>Prod.rec (λk v=>Bool.rec ih (some v) (U9 k x)) p) l
noncomputable def ny{α:Type}(l:List (Nat×α))(x:Nat)(v:α):List (Nat×α):=
 List.rec [(x,v)] (λp r ih=>Prod.rec (λk Y=>Bool.rec (p::ih) ((k,v)::r) (U9 k x)) p) l
inductive BT(α:Type) where
 |nil
 |node (l:BT α) (k:Nat) (v:α) (r:BT α)
noncomputable def BT.get{α:Type}(t:BT α)(x:Nat):Option α:=
 BT.rec none (λY k v Y il ir=>Bool.rec (Bool.rec ir il (Vk (VE x) k)) (some v) (U9 x k)) t
noncomputable def mJ(a b:Int):Int:=if a≤b then a else b
noncomputable def lB(a b:Int):Int:=if a≤b then b else a
noncomputable def uP:List Int->Option Int
 |[]=>none
 |x::r=>match uP r with|some y=>some (mJ x y)|none=>some x
noncomputable def uQ:List Int->Option Int
 |[]=>none
 |x::r=>match uQ r with|some y=>some (lB x y)|none=>some x
noncomputable def AI.lo:AI->Option Int
 |.c n=>some n|.s _ l _=>some l|.u l _=>l|.st l=>uP l|.pb _=>some 0
noncomputable def AI.hi:AI->Option Int
 |.c n=>some n|.s _ _ h=>some h|.u _ h=>h|.st l=>uQ l|.pb d=>some (1000000+(d:Int))
noncomputable def AI.cst:AI->Option Int
 |.c n=>some n|_=>none
noncomputable def A2(lo hi:Option Int):AI:=match lo with
 |none=>.u lo hi
 |some a=>(match hi with|none=>.u lo hi|some b=>if a=b then .c a else .u lo hi)
noncomputable def o1(f:Int->Int)(a:Option Int):Option Int:=match a with
 |some a=>some (f a)
 |none=>none
noncomputable def o2(f:Int->Int->Int)(a b:Option Int):Option Int:=match a with
 |some a=>(match b with|some b=>some (f a b)|none=>none)
 |none=>none
noncomputable def mK(o:Option Int)(f:Int->Option AI):Option AI:=match o with
 |some x=>f x
 |none=>none
noncomputable def mr(b:Bool)(k:Option AI):Option AI:=match b with
 |true=>k
 |false=>none
noncomputable def AI.addG(a b:AI):AI:=A2 (o2 (· +·) a.lo b.lo) (o2 (· +·) a.hi b.hi)
noncomputable def AI.add(a b:AI):AI:=match a with
 |.pb d=>(match b with|.c n=>if n=1 then .pb (VE d) else AI.addG a b|_=>AI.addG a b)
 |_=>AI.addG a b
noncomputable def AI.sub(a b:AI):AI:=A2 (o2 (·- ·) a.lo b.hi) (o2 (·- ·) a.hi b.lo)
noncomputable def AI.neg(a:AI):AI:=A2 (o1 (- ·) a.hi) (o1 (- ·) a.lo)
noncomputable def AI.mulB(a b:AI):Option AI:=mK a.lo λal=>mK a.hi λah=>mK b.lo λbl=>mK b.hi λbh=>
 some (A2 (some (mJ (mJ (al * bl) (al * bh)) (mJ (ah * bl) (ah * bh)))) (some (lB (lB (al * bl) (al * bh)) (lB (ah * bl) (ah * bh)))))
noncomputable def AI.mulP(a b:AI):Option AI:=mK a.lo λal=>mK b.lo λbl=>mr (decide (0≤al)) (mr (decide (0≤bl)) (some (.u (some 0) none)))
noncomputable def AI.mul(a b:AI):Option AI:=sD (a.mulB b) (a.mulP b)
noncomputable def AI.div(a b:AI):Option AI:=mK b.cst λb=>mr (decide (0<b)) (some (A2 (o1 (·/ b) a.lo) (o1 (·/ b) a.hi)))
noncomputable def RY(a:AI)(b:Int):Bool:=match a.lo with
 |some l=>(match a.hi with|some h=>decide (0≤l)&&decide (h<b)|none=>false)
 |none=>false
noncomputable def Jo(a:AI)(b:Int):AI:=match a.cst with
 |some x=>.c (x % b)
 |none=>(match RY a b with|true=>A2 a.lo a.hi|false=>.u (some 0) (some (b - 1)))
noncomputable def AI.mod(a b:AI):Option AI:=mK b.cst λb=>mr (decide (0<b)) (some (Jo a b))
noncomputable def AI.pow(a b:AI):Option AI:=mK b.cst λb=>mK a.lo λl=>mK a.hi λh=>
 mr (decide (0≤b)) (mr (decide (b≤1000)) (mr (decide (2≤l)) (some (A2 (some (l ^ b.toNat)) (some (h ^ b.toNat))))))
noncomputable def AS(a b:Option Int):Bool:=match a with
 |some a=>(match b with|some b=>decide (a≤b)|none=>false)
 |none=>false
noncomputable def ltZ(a b:Option Int):Bool:=match a with
 |some a=>(match b with|some b=>decide (a<b)|none=>false)
 |none=>false
noncomputable def AI.abs(a:AI):AI:=match AS (some 0) a.lo with
 |true=>a
 |false=>(match AS a.hi (some 0) with
  |true=>A2 (o1 (- ·) a.hi) (o1 (- ·) a.lo)
  |false=>.u (some 0) (o2 lB (o1 (- ·) a.lo) a.hi))
noncomputable def My(a b:AI):List Bool:=match ltZ a.hi b.lo with
 |true=>[true]
 |false=>(match AS b.hi a.lo with|true=>[false]|false=>[true,false])
noncomputable def uR(x:Int)(l:List Int):Bool:=lA (λy=>decide (x=y)) l
noncomputable def A3(a b:AI):Bool:=match a with
 |.s j _ _=>(match b with|.s k _ _=>U9 j k|_=>false)
 |_=>false
noncomputable def Jp(x:Int)(b:AI):List Bool:=match b with
 |.st l=>(match uR x l with|true=>[true,false]|false=>[false])
 |_=>[true,false]
noncomputable def MS(d:List Bool)(a b:AI):List Bool:=match A3 a b with
 |true=>[true]
 |false=>(match ltZ a.hi b.lo||ltZ b.hi a.lo with|true=>[false]|false=>d)
noncomputable def Mz(a b:AI):List Bool:=match a.cst with
 |some x=>(match b.cst with|some y=>[decide (x=y)]|none=>MS (Jp x b) a b)
 |none=>(match b.cst with|some y=>MS (Jp y a) a b|none=>MS [true,false] a b)
noncomputable def qL(l:List Bool)(K:Bool->Bool):Bool:=match l with
 |[]=>false
 |[b]=>K b
 |_=>K true&&K false
inductive f9 where
 |nx
 |rt (v:V)
structure Fr where
 ks:List (Nat×NameKind)
 ns:Nat
 cells:List (Nat×Nat)
 lam:Bool
inductive It where
 |vals (l:List V)
 |lst (v:V) (i:Nat)
 |enum (v:V) (i:Nat)
 |zip (a b:V) (i:Nat)
structure gt where
 params:List Nat
 dfl:List V
 body:List Stmt
 ks:List (Nat×NameKind)
 lam:Bool
structure gb where
 init:Nat
 meths:List (Nat×Nat)
 exc:Bool
 mro:List Nat
 atts:List Nat
structure dV where
 ex:Option (Nat×List (Nat×V))
 objs:List O
 v:V
 ups:List (Nat×O)
noncomputable def sE:Nat:=388610526637668
noncomputable def sF:Nat:=393042999996004
noncomputable def H1:Nat:=24145776
noncomputable def H2:Nat:=23553396
noncomputable def xf:Nat:=1595319019892
noncomputable def A4:Nat:=6080653678
noncomputable def xi:Nat:=1552335267192
noncomputable def H3:Nat:=23159411
noncomputable def H4:Nat:=23881070
noncomputable def H5:Nat:=23945592
noncomputable def H6:Nat:=23947630
noncomputable def xj:Nat:=1522456094067
noncomputable def xk:Nat:=1599698136165
noncomputable def A5:Nat:=6113817460
noncomputable def qM:Nat:=1590772524901
noncomputable def jc:Nat:=6593447022513235260517
noncomputable def A6:Nat:=24799600
noncomputable def H7:Nat:=23686772
noncomputable def sG:Nat:=408397475505508
noncomputable def ms:Nat:=6538899133538275320185
noncomputable def j4:Nat:=6298296692
noncomputable def nA:Nat:=90484
noncomputable def iv:Nat:=1
structure i9 where
 G:BT V
 F:BT gt
 C:BT gb
 W:BT O
 quiet:Bool
 toks:Nat->List V
 P:Nat->List V->H->Option (List dV)
 words:Nat->Option (List Nat) -- split at blanks of a text of the table
 lzy:Nat->Nat->Bool -- calls whose arguments are not told apart first
 egr:Nat->Bool -- classes that are told apart when read out of a tuple
structure Ev where
 ev:Fr->Expr->H->(V->H->Bool)->(Nat->H->Bool)->Bool
 tr:Fr->Expr->H->(Bool->H->Bool)->(Nat->H->Bool)->Bool
 cl:V->List V->H->(V->H->Bool)->(Nat->H->Bool)->Bool
 asg:Fr->Expr->V->H->(H->Bool)->(Nat->H->Bool)->Bool
 ex:Fr->List Stmt->H->(f9->H->Bool)->(Nat->H->Bool)->Bool
 wh:Fr->Expr->List Stmt->H->(f9->H->Bool)->(Nat->H->Bool)->Bool
 fo:Fr->Expr->It->List Stmt->H->(f9->H->Bool)->(Nat->H->Bool)->Bool
 co:Fr->Expr->Expr->List Expr->It->Nat->H->(H->Bool)->(Nat->H->Bool)->Bool
section
variable(C:i9)
noncomputable def dX(v:V)(h:H):Option O:=match v with
 |.wr k=>C.W.get k
 |.ref k=>h.get k
 |_=>none
noncomputable def items(v:V)(h:H):Option (List V):=sD (eg v) (sD (dp (dk v) λl=>some (l.map V.int)) (gf (dX C v h)))
noncomputable def Up(p:Nat×Nat)(K:Bool->Bool):Bool:=dj (gd (Vk 1 p.1) (K true)) (gd (U9 p.2 0) (K false))
noncomputable def lC(v:V)(h:H)(K:Bool->Bool):Bool:=dj (cR (iq v) K) (dj (cR (H0 (dX C v h)) λp=>Up p K) (gd (ei v) (K false)))
noncomputable def qN(l:List V):Option (List AI):=List.rec (some []) (λv Y ih=>dp (dE v) λa=>dp ih λl=>some (a::l)) l
noncomputable def uS(a:AI):Bool:=cR a.lo λl=>cR a.hi λh=>gd (decide (0≤l)) (decide (h≤255))
noncomputable def yV:List Bool->Bool
 |[]=>false
 |true::_=>true
 |false::r=>yV r
noncomputable def uU:List Bool->Bool
 |[]=>false
 |false::_=>true
 |true::r=>uU r
noncomputable def Jq(l:List Bool):List Bool:=match yV l with
 |true=>(match uU l with|true=>[true,false]|false=>[true])
 |false=>(match uU l with|true=>[false]|false=>[])
noncomputable def Jr(f:Bool->Bool->Bool)(a b:List Bool):List Bool:=Jq (a.flatMap λx=>b.map (f x))
noncomputable def Jt(a:List Bool)(k:Unit->List Bool):List Bool:=match yV a with
 |false=>a
 |true=>(match uU a with|false=>k ()|true=>Jr and a (k ()))
noncomputable def Ju:List AI->List AI->List Bool
 |[],[]=>[true]
 |a::r,b::r'=>Jt (Mz a b) λY=>Ju r r'
 |[],_::_=>[false]
 |_::_,[]=>[false]
noncomputable def Jv(x y:List AI):List Bool:=match U9 x.length y.length with
 |true=>Ju x y
 |false=>[false]
noncomputable def RZ(a b:V)(K:Bool->Bool):Bool:=
 dj (cR (fj b) λy=>dj (cR (fj a) λx=>K (U9 x y)) (dj (cR (dk a) λY=>K false) (cR (eg a) λY=>K false)))
 (dj (cR (dE a) λx=>cR (dE b) λy=>qL (Mz x y) K)
 (dj (cR (dk a) λx=>cR (dk b) λy=>qL (Jv x y) K)
 (cR (iq b) λy=>dj (cR (iq a) λx=>K (x==y)) (gd (ei a) (K false)))))
noncomputable def Jw(l:List V):List V->(Bool->Bool)->Bool:=List.rec (λl' K=>K (dT l')) (λa Y ih l' K=>dq (nv l') (K false) λp=>RZ a p.1 λx=>ih p.2 λy=>K (x&&y)) l
noncomputable def Jx(a b:V):Option (List V×List V):=dp (eg a) λx=>dp (eg b) λy=>some (x,y)
noncomputable def TB(a b:V)(K:Bool->Bool):Bool:=dq (Jx a b) (RZ a b K) λp=>Jw p.1 p.2 K
noncomputable def Ry(x:Nat×Nat)(K:Bool->Bool):Bool:=match Vk 1 x.1 with
 |true=>K false
 |false=>(match U9 x.2 0 with|true=>K true|false=>K true&&K false)
noncomputable def TF(x y:Nat×Nat)(K:Bool->Bool):Bool:=dj (gd (U9 y.2 0) (Ry x K)) (gd (U9 x.2 0) (Ry y K))
noncomputable def qO(v:V):Option Nat:=match v with
 |.strU n=>some n
 |_=>none
noncomputable def R1(a b:V)(h:H)(K:Bool->Bool):Bool:=dj (TB a b K) (dj (cR (H0 (dX C a h)) λx=>cR (H0 (dX C b h)) λy=>TF x y K) (cR (qO a) λY=>cR (fj b) λk=>gd (U9 k iv) (K false)))
noncomputable def jO(k:Nat):List (Nat×V)->Bool
 |[]=>false
 |(x,_)::r=>match U9 x k with|true=>true|false=>jO k r
noncomputable def R3(k:Nat)(l:List V):Option Bool:=List.rec (some false) (λb Y ih=>dp (fj b) λj=>dp ih λy=>some (dj (U9 j k) y)) l
noncomputable def TG(a b:List Bool):List Bool:=Jr or a b
noncomputable def R4(a:AI)(l:List AI):List Bool:=List.rec [false] (λx Y ih=>TG (Mz x a) ih) l
noncomputable def Jy(l:List Bool):Option Bool:=match l with
 |[]=>none
 |b::r=>(match r with|[]=>some b|_::_=>none)
noncomputable def uV(b:Bool)(l:List AI)(ns:List Int):Bool:=List.rec true (λx Y ih=>cR (Jy (R4 (.c x) l)) λc=>gd (b==c) ih) ns
noncomputable def qf:AI->Option (List Int)
 |.st l=>some l
 |_=>none
noncomputable def MU(a:AI)(bs:List AI)(K:Bool->Bool):Bool:=dj (cR (qf a) λns=>dj (gd (uV true bs ns) (K true)) (gd (uV false bs ns) (K false))) (qL (R4 a bs) K)
noncomputable def R5(a b:V)(h:H)(K:Bool->Bool):Bool:=
 dj (cR (fj a) λk=>dj (cR (eg b) λl=>cR (R3 k l) K) (dj (cR (nu (dX C b h)) λl=>K (jO k l)) (cR (gf (dX C b h)) λl=>cR (R3 k l) K)))
 (cR (dE a) λx=>cR (dk b) λbs=>gd (uS x) (MU x bs K))
noncomputable def xl(v:V):Bool:=match v with
 |.none=>false
 |.tok _=>false
 |.bi _=>false
 |_=>true
noncomputable def R6(a b:V)(K:Bool->Bool):Bool:=gd (ei b) (dj (gd (ei a) (K true)) (gd (xl a) (K false)))
noncomputable def A7(a b:V)(f:AI->AI->Bool):Bool:=cR (dE a) λx=>cR (dE b) λy=>f x y
noncomputable def Fw(op:CmpOp)(a b:V)(h:H)(K:Bool->Bool):Bool:=match op with
 |.Eq=>R1 C a b h K
 |.NotEq=>R1 C a b h λk=>K (!k)
 |.Is=>R6 a b K
 |.IsNot=>R6 a b λk=>K (!k)
 |.In=>R5 C a b h K
 |.NotIn=>R5 C a b h λk=>K (!k)
 |.Lt=>A7 a b λx y=>qL (My x y) K
 |.Gt=>A7 a b λx y=>qL (My y x) K
 |.GtE=>A7 a b λx y=>qL (My x y) λk=>K (!k)
 |.LtE=>A7 a b λx y=>qL (My y x) λk=>K (!k)
noncomputable def R7{α:Type}(l:List α):Nat->List α
 |0=>[]
 |n+1=>l++R7 l n
noncomputable def uW:V->Option Nat
 |.str _=>some 1000|.strU n=>some n|_=>none
noncomputable def kl:V->Bool
 |.str k=>!(U9 k iv)|.strU _=>true|_=>false
noncomputable def MV(a b:V)(h:H)(K:V->H->Bool):Bool:=cR (uW a) λm=>cR (uW b) λn=>
 gd (Vk (m+n) 100000) (gd (dj (kl a) (kl b)) (K (.strU (m+n)) h))
noncomputable def R8:Int:=9223372036854775808
noncomputable def nB(a:AI):Bool:=cR a.lo λl=>cR a.hi λh=>gd (decide (-R8<l)) (decide (h<R8))
noncomputable def A8(op:Operator)(x y:AI)(h:H)(K:V->H->Bool):Bool:=match op with
 |.Add=>K (.int (x.add y)) h
 |.Sub=>K (.int (x.sub y)) h
 |.Mult=>gd (dj (nB x) (nB y)) (cR (x.mul y) λz=>K (.int z) h)
 |.FloorDiv=>gd (nB y) (cR (x.div y) λz=>K (.int z) h)
 |.Mod=>cR (x.mod y) λz=>K (.int z) h
 |.Pow=>gd (nB x) (cR (x.pow y) λz=>K (.int z) h)
 |_=>false
noncomputable def H8(op:Operator):Bool:=match op with
 |.Add=>true
 |_=>false
noncomputable def H9(op:Operator):Bool:=match op with
 |.Mult=>true
 |_=>false
noncomputable def Ia(x y:List AI)(h:H)(K:V->H->Bool):Bool:=gd (Vk (x.length+y.length) 10000) (K (.bytes (x++y)) h)
noncomputable def Ib(x y:List V)(h:H)(K:V->H->Bool):Bool:=gd (Vk (x.length+y.length) 10000) (K (.tup (x++y)) h)
noncomputable def Ic(x:List AI)(i:AI)(h:H)(K:V->H->Bool):Bool:=cR i.cst λn=>
 gd (Vk (WX x.length n.toNat) 10000) (gd (Vk 1 x.length) (gd (Vk x.length 16) (gd (Vk n.natAbs 1000000) (K (.bytes (R7 x n.toNat)) h))))
noncomputable def Fx(o p:Option O)(K:O->Bool):Bool:=dj (cR (gf o) λx=>cR (gf p) λy=>gd (Vk (x.length+y.length) 10000) (K (.list (x++y))))
 (cR (H0 o) λx=>cR (H0 p) λy=>gd (Vk (x.2+y.2) 10000) (K (.lsU (x.1+y.1) (x.2+y.2))))
noncomputable def MW(a b:V)(h:H)(K:V->H->Bool):Bool:=Fx (dX C a h) (dX C b h) λo=>K (.ref h.length) (h.push o)
noncomputable def Id(op:Operator)(a b:V)(h:H)(K:V->H->Bool):Bool:=
 dj (cR (dE a) λx=>cR (dE b) λy=>A8 op x y h K)
 (dj (gd (H8 op) (dj (cR (dk a) λx=>cR (dk b) λy=>Ia x y h K)
  (dj (cR (eg a) λx=>cR (eg b) λy=>Ib x y h K)
  (dj (MV a b h K) (MW C a b h K)))))
 (gd (H9 op) (cR (dk a) λx=>cR (dE b) λi=>Ic x i h K)))
noncomputable def Ie(op:UnaryOp):Bool:=match op with
 |.USub=>true
 |_=>false
noncomputable def Ig(op:UnaryOp):Bool:=match op with
 |.Not=>true
 |_=>false
noncomputable def Jz(op:UnaryOp)(a:V)(h:H)(K:V->H->Bool):Bool:=
 dj (gd (Ie op) (cR (dE a) λx=>K (.int x.neg) h)) (gd (Ig op) (lC C a h λb=>K (.bool (!b)) h))
noncomputable def JA(n:Nat)(i:Int):Option Nat:=seqIndex? i n
noncomputable def fp:AI->Option Int
 |.c n=>some n
 |_=>none
noncomputable def nC:AI->Option (Nat×Int×Int)
 |.s k l u=>some (k,l,u)
 |_=>none
noncomputable def Rz:AI->Option (Option Int×Option Int)
 |.u l u=>some (l,u)
 |_=>none
noncomputable def A9:AI->Option Nat
 |.pb d=>some d
 |_=>none
noncomputable def fG{α β:Type}[DecidableEq β](w:α->Option β)(a b:α):Bool:=cR (w a) λx=>cR (w b) λy=>decide (x=y)
noncomputable def nD(a b:AI):Bool:=dj (fG fp a b) (dj (fG nC a b) (dj (fG Rz a b) (dj (fG qf a b) (fG A9 a b))))
noncomputable def gX(a b:V):Bool:=dj (cR (dE a) λx=>cR (dE b) λy=>nD x y) (dj (gd (ei a) (ei b)) (dj (fG iq a b) (fG fj a b)))
noncomputable def nE(l:List V):List V:=List.rec [] (λv r ih=>db (cR (nv r) λp=>gX v p.1) ih (v::ih)) l
noncomputable def Bb(lo:Int)(n:Nat):List Int:=Nat.rec (λY=>[]) (λY ih lo=>lo::ih (lo+1)) n lo
noncomputable def qP(l:List V)(is:List Int):Option (List V):=List.rec (some []) (λi Y ih=>dp (JA l.length i) λj=>dp (fC l j) λv=>dp ih λvs=>some (v::vs)) is
noncomputable def Bc(as:List AI):Option (List Int):=List.rec (some []) (λa Y ih=>dp (fp a) λn=>dp ih λl=>some (n::l)) as
noncomputable def Bd(i:AI):Option (List Int):=sD (dp i.cst λn=>some [n]) (dp i.lo λa=>dp i.hi λb=>gO (decide (b - a<20)) (some (Bb a (b - a+1).toNat)))
noncomputable def JB(l:List V)(i:AI)(K:V->Bool):Bool:=gd (Vk l.length 10000) (cR (Bd i) λis=>cR (qP l is) λvs=>dF (nE vs) K)
noncomputable def MX(l:List Int):Bool:=List.rec true (λx Y ih=>gd (decide (0≤x)) ih) l
noncomputable def Ih(as:List AI):Option AI:=dp (nv as) λp=>sD (gO (dT p.2) (some p.1)) (dp (Bc as) λns=>some (.st ns))
noncomputable def MY(l:List AI)(i:AI)(K:V->Bool):Bool:=
 cR (Bd i) λis=>gd (MX is) (cR (qP (l.map V.int) is) λvs=>cR (qN vs) λas=>cR (Ih as) λa=>K (.int a))
noncomputable def Ii(o i:V)(h:H)(K:V->Bool):Bool:=
 dj (cR (dE i) λa=>dj (cR (eg o) λl=>JB l a K) (dj (cR (dk o) λl=>gd (Vk l.length 10000) (MY l a K)) (cR (gf (dX C o h)) λl=>JB l a K)))
  (cR (fj i) λk=>cR (nu (dX C o h)) λl=>cR (eJ l k) K)
noncomputable def Be(F:V->Option (List V))(l:List V):Option (List V):=List.rec (some []) (λv Y ih=>dp (F v) λx=>dp ih λy=>some (x++y)) l
noncomputable def xm(T:Nat->List V)(n f:Nat):V->Option (List V):=Nat.rec (λY=>none) (λY ih v=>
 sD (dp (eg v) λl=>gO (Vk l.length 10000) (dp (fC l n) λx=>some [x])) (dp (iU v) λk=>Be ih (T k))) f
noncomputable def MA(K:V->Bool)(f:Nat):V->Bool:=Nat.rec K (λY ih v=>dq (dp (iU v) λk=>gO (C.egr k) (some k)) (K v) λk=>dF (C.toks k) ih) f
noncomputable def JC(o i:V)(h:H)(K:V->Bool):Bool:=
 dj (cR (iU o) λY=>cR (dE i) λa=>cR a.cst λn=>gd (decide (0≤n)) (cR (xm C.toks n.toNat 5 o) λvs=>dF (nE vs) (MA C K 3))) (Ii C o i h (MA C K 3))
noncomputable def sH(n d:Nat)(v:V):Option Nat:=sD (gO (ei v) (some d)) (dp (dp (dE v) fp) λi=>some (clipAt n i))
noncomputable def MZ{α:Type}(l:List α)(a b:Nat):List α:=(l.drop a).take (b - a)
noncomputable def qQ{α:Type}(l:List α)(lo hi st:V):Option (List α):=gO (ei st) (dp (sH l.length 0 lo) λa=>dp (sH l.length l.length hi) λb=>some (MZ l a b))
noncomputable def Fy{α:Type}(l:List α)(lo hi st:V):Option (List α):=sD (qQ l lo hi st) (gO (ei lo) (gO (ei hi) (dp (dp (dE st) fp) λn=>gO (decide (n= -1)) (some l.reverse))))
noncomputable def Ij(o lo hi st:V)(h:H)(K:V->H->Bool):Bool:=dj (cR (dk o) λl=>gd (Vk l.length 10000) (cR (qQ l lo hi st) λx=>K (.bytes x) h))
 (dj (cR (gf (dX C o h)) λl=>cR (Fy l lo hi st) λx=>K (.ref h.length) (h.push (.list x))) (cR (AY (dX C o h)) λl=>cR (qQ l lo hi st) λx=>K (.ref h.length) (h.push (.barr x))))
noncomputable def fH(fr:Fr)(x:Nat):Option NameKind:=match U9 x 0 with|true=>none|false=>eJ fr.ks x
noncomputable def Bf(fr:Fr)(x:Nat)(h:H)(K:V->Bool):Bool:=cR (eJ fr.cells x) λc=>cR (dp (h.get c) oC) λo=>cR o K
noncomputable def sI(fr:Fr)(x:Nat)(h:H)(K:V->Bool):Bool:=cR (fH fr x) λk=>match k with
 |.local=>cR (dp (h.get fr.ns) oN) λm=>cR (eJ m x) K
 |.cell=>Bf fr x h K
 |.free=>Bf fr x h K
 |.globalImplicit=>cR (C.G.get x) K
 |_=>false
noncomputable def gu(fr:Fr)(x:Nat)(v:V)(h:H)(K:H->Bool):Bool:=cR (fH fr x) λk=>match k with
 |.local=>cR (dp (h.get fr.ns) oN) λm=>K (h.set fr.ns (.ns (ny m x v)))
 |.cell=>cR (eJ fr.cells x) λc=>cR (dp (h.get c) oC) λY=>K (h.set c (.cell (some v)))
 |_=>false
noncomputable def mM(v:V)(h:H):Option It:=sD (dp (eg v) λl=>some (.vals l)) (sD (dp (dk v) λl=>some (.vals (l.map V.int)))
 (sD (dp (gf (dX C v h)) λY=>some (.lst v 0)) (dp (nu (dX C v h)) λd=>gO (dT d) (some (.vals [])))))
inductive Nx where
 |stop
 |more (v:V) (it:It)
noncomputable def next(it:It)(h:H):Option Nx:=match it with
 |.vals l=>some (dq (nv l) .stop λp=>.more p.1 (.vals p.2))
 |.lst v i=>dp (gf (dX C v h)) λl=>some (dq (fC l i) .stop λx=>.more x (.lst v (VE i)))
 |.enum v i=>dp (items C v h) λl=>some (dq (fC l i) .stop λx=>.more (.tup [.int (.c i),x]) (.enum v (VE i)))
 |.zip a b i=>dp (items C a h) λl=>dp (items C b h) λl'=>some (dq (fC l i) .stop λx=>dq (fC l' i) .stop λy=>.more (.tup [x,y]) (.zip a b (VE i)))
noncomputable def Bg(n:Int):Option (List V):=gO (decide (-100000<n)) (gO (decide (n<100000)) (some ((Bb 0 n.toNat).map λi=>.int (.c i))))
noncomputable def JD(a b:AI):Option AI:=match ltZ b.hi a.lo with
 |true=>some a
 |false=>(match AS a.hi b.lo with|true=>some b|false=>some (A2 (o2 lB a.lo b.lo) (o2 lB a.hi b.hi)))
noncomputable def JE(a b:AI):Option AI:=match ltZ a.hi b.lo with
 |true=>some a
 |false=>(match AS b.hi a.lo with|true=>some b|false=>some (A2 (o2 mJ a.lo b.lo) (o2 mJ a.hi b.hi)))
noncomputable def kn(n:Nat)(h:H)(K:V->H->Bool):Bool:=gd (Vk n 10000) (K (.int (.c n)) h)
noncomputable def km(l:List AI):Bool:=match l with
 |[]=>true
 |a::r=>uS a&&km r
noncomputable def iw(b:Bool):Bool:=match C.quiet with
 |true=>false
 |false=>b
abbrev BF:Type:=List V->H->(V->H->Bool)->Bool
noncomputable def M1:BF:=λargs h K=>iu args λv=>cR (dE v) λa=>K (.int a.abs) h
noncomputable def M2:BF:=λargs h K=>iu args λv=>dj (cR (eg v) λl=>kn l.length h K) (dj (cR (dk v) λl=>kn l.length h K)
 (dj (cR (gf (dX C v h)) λl=>kn l.length h K) (dj (cR (AY (dX C v h)) λl=>kn l.length h K) (cR (nu (dX C v h)) λl=>kn l.length h K))))
noncomputable def M3:BF:=λargs h K=>AZ args λv w=>cR (dE v) λa=>cR (dE w) λb=>iw C (cR (JD a b) λm=>K (.int m) h)
noncomputable def M4:BF:=λargs h K=>AZ args λv w=>cR (dE v) λa=>cR (dE w) λb=>iw C (cR (JE a b) λm=>K (.int m) h)
noncomputable def TH(b:Bool):Int:=if b then 1 else 0
noncomputable def M5:BF:=λargs h K=>iu args λv=>dj (cR (dE v) λa=>K (.int a) h) (cR (iq v) λb=>K (.int (.c (TH b))) h)
noncomputable def Bh:BF:=λargs h K=>iu args λv=>dj (cR (dk v) λl=>K (.bytes l) h) (dj (cR (AY (dX C v h)) λl=>K (.bytes l) h)
 (cR (gf (dX C v h)) λl=>iw C (cR (qN l) λas=>gd (km as) (K (.bytes as) h))))
noncomputable def Ik:BF:=λargs h K=>iu args λv=>cR (dk v) λl=>gd (Vk l.length 10000) (K (.ref h.length) (h.push (.barr l)))
noncomputable def Bj:BF:=λargs h K=>iu args λv=>dj (cR (eg v) λl=>K (.tup l) h) (cR (gf (dX C v h)) λl=>K (.tup l) h)
noncomputable def Il:BF:=λargs h K=>iu args λv=>cR (gf (dX C v h)) λl=>K (.ref h.length) (h.push (.list l))
noncomputable def ix:List Nat->List V
 |[]=>[]
 |k::r=>.str k::ix r
noncomputable def xn:BF:=λargs h K=>iu args λv=>cR (nu (dX C v h)) λd=>gd (Vk d.length 1) (iw C (K (.ref h.length) (h.push (.list (ix (d.map (·.1)))))))
noncomputable def M6:List (Nat×BF):=[(H4,M2 C),(xj,Bh C),(H3,M1),(H5,M3 C),(H6,M4 C),(H7,M5),(ms,Ik),(xk,Bj C),(A5,Il C),(sG,xn C)]
noncomputable def Bk(x:Nat)(l:List (Nat×BF)):Option BF:=List.rec none (λp Y ih=>Bool.rec ih (some p.2) (U9 p.1 x)) l
noncomputable def builtin(x:Nat)(args:List V)(h:H)(K:V->H->Bool):Bool:=cR (Bk x (M6 C)) λf=>f args h K
noncomputable def Bl:List V->Option (List AI)
 |[]=>some []
 |v::r=>dp (dk v) λl=>dp (Bl r) λx=>some (l++x)
noncomputable def sJ(bs:List AI)(n:Int):Nat->Option Nat:=List.rec (λY=>none) (λb Y ih i=>dp (Jy (Mz (.c n) b)) λc=>Bool.rec (ih (VE i)) (some i) c) bs
noncomputable def JF(bs:List AI):List Int->Option (List Int)
 |[]=>some []
 |n::r=>dp (sJ bs n 0) λi=>dp (JF bs r) λl=>some ((i:Int)::l)
noncomputable def M7(l:List V)(K:V->List V->Bool):Bool:=match l with
 |[]=>false
 |v::r=>K v r
noncomputable def M8(args:List V)(K:Nat->V->Bool):Bool:=match args with
 |[]=>false
 |k::r=>cR (fj k) λk=>(match r with|[]=>K k .none|d::r=>Fv r (K k d))
noncomputable def Im(v:V):BF:=λargs h K=>cR (dk v) λl=>gd (U9 l.length 0) (iu args λw=>cR (gf (dX C w h)) λxs=>cR (Bl xs) λb=>gd (Vk b.length 10000) (K (.bytes b) h))
noncomputable def Bm(v:V):BF:=λargs h K=>cR (dk v) λl=>iu args λw=>cR (dE w) λa=>dj (cR (qf a) λns=>cR (JF l ns) λis=>K (.int (.st is)) h) (cR a.cst λn=>cR (sJ l n 0) λi=>K (.int (.c i)) h)
noncomputable def Bn(v:V):BF:=λargs h K=>cR (fj v) λk=>iu args λw=>cR (fj w) λb=>gd (U9 b 288) (cR (C.words k) λws=>K (.ref h.length) (h.push (.list (ix ws))))
noncomputable def xo(v:V):BF:=λargs h K=>iu args λw=>cR (fk v) λk=>dj (cR (gf (h.get k)) λl=>gd (Vk l.length 9999) (K .none (h.set k (.list (l++[w])))))
 (cR (H0 (h.get k)) λp=>gd (Vk p.2 9999) (K .none (h.set k (.lsU (p.1+1) (p.2+1)))))
noncomputable def xp(v:V):BF:=λargs h K=>iu args λw=>cR (fk v) λk=>Fx (h.get k) (dX C w h) λq=>K .none (h.set k q)
noncomputable def M9(v:V):BF:=λargs h K=>Fv args (cR (fk v) λk=>cR (gf (h.get k)) λl=>M7 l.reverse λx r=>K x (h.set k (.list r.reverse)))
noncomputable def Na(v:V):BF:=λargs h K=>cR (nu (dX C v h)) λl=>M8 args λk d=>K ((eJ l k).getD d) h
structure MT where
 x:Nat
 t:V->H->Bool
 f:V->BF
noncomputable def uX(v:V)(_:H):Bool:=(dk v).isSome
noncomputable def Nb(v:V)(_:H):Bool:=(fj v).isSome
noncomputable def xq(v:V)(h:H):Bool:=(H0 (dX C v h)).isSome
noncomputable def Io(v:V)(h:H):Bool:=(nu (dX C v h)).isSome
noncomputable def FA:List MT:=[⟨sE,xq C,xo⟩,⟨sF,xq C,xp C⟩,⟨H1,xq C,M9⟩,⟨H2,Io C,Na C⟩,⟨A4,uX,Im C⟩,⟨xi,uX,Bm⟩,⟨xf,Nb,Bn C⟩]
noncomputable def sK(v:V)(m:Nat)(h:H)(l:List MT):Option (V->BF):=List.rec none (λe Y ih=>Bool.rec ih (some e.f) (gd (U9 e.x m) (e.t v h))) l
noncomputable def nF(x:Nat)(l:List Nat):Bool:=List.rec false (λy Y ih=>dj (U9 x y) ih) l
noncomputable def yW(x:Nat)(l:List Nat):Bool:=gd (!(U9 x 0)) (nF x l)
noncomputable def qg(b:Bool)(c x:Nat)(m:List (Nat×V)):Option V:=dp (C.C.get c) λci=>gO (yW x ci.atts) (gO (ci.exc==b) (gO (dj (!b) (U9 ci.init 0)) (eJ m x)))
noncomputable def JG(v:V)(x:Nat)(h:H)(K:V->Bool):Bool:=dj (cR (dp (dX C v h) oI) λp=>cR (qg C false p.1 x p.2) K) (cR (dp (dX C v h) oX) λp=>cR (qg C true p.1 x p.2) K)
noncomputable def JH(c x:Nat):Option Nat:=dp (C.C.get c) λci=>gO (!ci.exc) (gO (!(U9 x 0)) (eJ ci.meths x))
noncomputable def JJ(v:V)(x:Nat)(h:H):Option Nat:=dp (dp (dX C v h) oI) λp=>gO (eJ p.2 x).isNone (JH C p.1 x)
noncomputable def gh(k:NameKind):Bool:=match k with
 |.cell=>true
 |_=>false
noncomputable def lD(ks:List (Nat×NameKind))(h:H)(cs:List (Nat×Nat)):H×List (Nat×Nat):=List.rec (λh cs=>(h,cs)) (λp Y ih h cs=>db (gh p.2) (ih (h.push (.cell none)) ((p.1,h.length)::cs)) (ih h cs)) ks h cs
noncomputable def ez(b:Bool)(ks:List (Nat×NameKind))(free:List (Nat×Nat))(h:H):Fr×H:=Prod.rec (λh' cs=>(⟨ks,h.length,cs,b⟩,h')) (lD ks (h.push (.ns [])) free)
noncomputable def iy(k:NameKind):Bool:=match k with
 |.free=>true
 |_=>false
noncomputable def gi(k:NameKind):Bool:=match k with
 |.local=>true
 |_=>false
noncomputable def jd(p:NameKind->Bool)(o:Option NameKind):Bool:=dq o false p
noncomputable def yX(fr:Fr)(l:List (Nat×NameKind)):List (Nat×NameKind):=List.rec [] (λp Y ih=>(p.1,db (iy p.2) (db (jd gh (fH fr p.1)) .cell .free) p.2)::ih) l
noncomputable def ko(fr:Fr)(x:Nat):Bool:=gd (dj (jd gh (fH fr x)) (jd iy (fH fr x))) (eJ fr.cells x).isSome
noncomputable def j5(fr:Fr)(l:List (Nat×NameKind)):Bool:=List.rec true (λp Y ih=>gd (db (iy p.2) (ko fr p.1) true) ih) l
noncomputable def Bo(sc:List (Nat×NameKind))(l:List (Nat×NameKind)):Bool:=List.rec true (λp Y ih=>gd (db (gi p.2) (gd (!(U9 p.1 0)) (jd gi (eJ sc p.1))) true) ih) l
noncomputable def Bp(fr:Fr)(sc:List (Nat×NameKind))(h:H):Fr×H:=Prod.rec (λfr' h'=>(⟨yX fr sc,fr'.ns,fr'.cells,false⟩,h')) (ez false sc fr.cells h)
noncomputable def d7(fr:Fr)(h:H)(K:H->Bool)(xs:List Nat)(vs:List V):Bool:=List.rec (λh vs=>gd (dT vs) (K h)) (λx Y ih h vs=>cR (nv vs) λp=>gu fr x p.1 h λh'=>ih h' p.2) xs h vs
noncomputable def fu(ps:List Nat)(dfl args:List V):Option (List V):=
 match Vk args.length ps.length,Vk ps.length (args.length+dfl.length) with
 |true,true=>some (args++dfl.drop (args.length+dfl.length - ps.length))
 |_,_=>none
noncomputable def mt(K:V->H->Bool):f9->H->Bool
 |.rt v,h=>K v h
 |.nx,h=>K .none h
noncomputable def gY(e:Expr):Option Str:=match e with
 |.Name x _=>some x
 |_=>none
noncomputable def mu(e:Expr):Option (List Expr):=match e with
 |.Tuple es _ _=>some es
 |_=>none
noncomputable def Bq:V->Option Nat
 |.cls c=>some c
 |_=>none
noncomputable def FC:NameKind->Bool
 |.globalImplicit=>true
 |_=>false
noncomputable def Iq:NameKind->Bool
 |.local=>true
 |_=>false
noncomputable def xr:ExceptHandler->Option (Expr×Option Str×List Stmt)
 |.ExceptHandler ty nm hb _=>dp ty λt=>some (t,nm,hb)
noncomputable def Br(d c:Nat):Option Bool:=dp (C.C.get d) λci=>dp (C.C.get c) λcj=>gO ci.exc (gO (U9 ci.init 0) (gO cj.exc (some (nF c ci.mro))))
noncomputable def nG(d:Nat)(l:List Nat):Option Bool:=List.rec (some false) (λc Y ih=>dp (Br C d c) λa=>dp ih λb=>some (a||b)) l
noncomputable def m8(fr:Fr)(e:Expr):Option Nat:=dp (gY e) λx=>dp (fH fr (cd x)) λk=>gO (FC k) (dp (C.G.get (cd x)) Bq)
noncomputable def nH(fr:Fr)(es:List Expr):Option (List Nat):=List.rec (some []) (λe Y ih=>dp (m8 C fr e) λc=>dp ih λl=>some (c::l)) es
noncomputable def Bs(fr:Fr)(e:Expr):Option (List Nat):=sD (dp (mu e) λes=>gO (Vk es.length 100) (nH C fr es)) (dp (m8 C fr e) λc=>some [c])
noncomputable def xt(h:H)(k:Nat)(l:List Nat):Option Bool:=dp (dp (h.get k) oX) λp=>nG C p.1 l
noncomputable def iz(h:H)(l:List (Nat×O)):H:=List.rec (λh=>h) (λp Y ih h=>ih (h.set p.1 p.2)) l h
noncomputable def eN(h:H)(l:List O):H:=List.rec (λh=>h) (λo Y ih h=>ih (h.push o)) l h
noncomputable def sL(h:H)(o:dV):H:=eN (iz h o.ups) o.objs
noncomputable def xu(o:dV)(h:H)(K:V->H->Bool)(X:Nat->H->Bool):Bool:=dq o.ex (K o.v h) λp=>X h.length (h.push (.exc p.1 p.2 false))
noncomputable def JK(l:List dV)(h:H)(K:V->H->Bool)(X:Nat->H->Bool):Bool:=dF l λo=>xu o (sL h o) K X
noncomputable def FE:Ev:=⟨λY Y Y Y Y=>false,λY Y Y Y Y=>false,λY Y Y Y Y=>false,λY Y Y Y Y Y=>false,λY Y Y Y Y=>false,λY Y Y Y Y Y=>false,λY Y Y Y Y Y Y=>false,λY Y Y Y Y Y Y Y Y=>false⟩
noncomputable def Bt(e:Expr):Bool:=match e with
 |.Starred .. =>true
 |_=>false
noncomputable def eS(l:List Expr):Bool:=List.rec true (λe Y ih=>gd (!(Bt e)) ih) l
variable(r:Ev)
noncomputable def AT(fr:Fr)(es:List Expr):H->(List V->H->Bool)->(Nat->H->Bool)->Bool:=List.rec (λh K Y=>K [] h) (λe Y ih h K X=>r.ev fr e h (λv h=>ih h (λvs h=>K (v::vs) h) X) X) es
noncomputable def Ir(fr:Fr)(e:Expr)(h:H)(K:It->H->Bool)(X:Nat->H->Bool):Bool:=
 r.ev fr e h (λv h=>cR (mM C v h) λit=>K it h) X
noncomputable def Bu(K:It->H->Bool)(vs:List V)(h:H):Bool:=iu vs λv=>cR (dE v) λa=>cR a.cst λn=>cR (Bg n) λl=>K (.vals l) h
noncomputable def Bv(K:It->H->Bool)(vs:List V)(h:H):Bool:=iu vs λv=>dj (cR (dk v) λY=>K (.enum v 0) h) (cR (gf (dX C v h)) λY=>K (.enum v 0) h)
noncomputable def Bw(K:It->H->Bool)(vs:List V)(h:H):Bool:=AZ vs λa b=>cR (gf (dX C b h)) λY=>dj (cR (eg a) λY=>K (.zip a b 0) h) (cR (gf (dX C a h)) λY=>K (.zip a b 0) h)
noncomputable def Bx(x:Nat):Option ((It->H->Bool)->List V->H->Bool):=db (U9 x qM) (some Bu) (db (U9 x jc) (some (Bv C)) (db (U9 x A6) (some (Bw C)) none))
noncomputable def JL(fr:Fr)(x:Nat):Bool:=cR (fH fr x) λk=>match k with
 |.globalImplicit=>cR (C.G.get x) λv=>(match v with|.bi b=>U9 b x|_=>false)
 |_=>false
noncomputable def Iu(e:Expr):Option (Str×List Expr):=match e with
 |.Call f args kw _=>gO (dT kw) (dp (gY f) λx=>some (x,args))
 |_=>none
noncomputable def JM(fr:Fr)(e:Expr)(h:H)(K:It->H->Bool)(X:Nat->H->Bool):Bool:=dq (dp (Iu e) λp=>dp (Bx C (cd p.1)) λF=>gO (JL C fr (cd p.1)) (some (F,p.2))) (Ir C r fr e h K X)
 λp=>gd (eS p.2) (AT r fr p.2 h (p.1 K) X)
noncomputable def nI(fr:Fr)(e:Expr)(h:H)(K:It->H->Bool)(X:Nat->H->Bool):Bool:=iw C (JM C r fr e h K X)
noncomputable def TJ(ks:List V):List V->Option (List (Nat×V)):=List.rec (λvs=>gO (dT vs) (some [])) (λk Y ih vs=>dp (nv vs) λp=>dp (fj k) λk=>dp (ih p.2) λd=>gO (!(jO k d)) (some ((k,p.1)::d))) ks
noncomputable def Nc(n:Nat)(b:Bool):Bool:=gd (Vk n 10000) b
noncomputable def JN(s:Str)(h:H)(K:V->H->Bool):Bool:=gd (!(U9 (cd s) 0)) (gd (Vk s.cps.toList.length 1000) (K (.str (cd s)) h))
noncomputable def By(c:Const)(h:H)(K:V->H->Bool):Bool:=match c with
 |.none=>K .none h
 |.bool b=>K (.bool b) h
 |.int i=>K (.int (.c i)) h
 |.str s=>JN s h K
 |.bytes l=>K (.bytes (l.map λb=>.c b.toNat)) h
 |_=>false
noncomputable def Bz(op:BoolOp)(b:Bool):Bool:=match op with
 |.And=>!b
 |.Or=>b
noncomputable def R9(fr:Fr)(op:BoolOp)(es:List Expr):H->(V->H->Bool)->(Nat->H->Bool)->Bool:=List.rec (λY Y Y=>false)
 (λe es ih h K X=>db (dT es) (r.ev fr e h K X) (r.ev fr e h (λv h=>lC C v h λb=>db (Bz op b) (K v h) (ih h K X)) X)) es
noncomputable def MB(fr:Fr)(op:BoolOp)(es:List Expr):H->(Bool->H->Bool)->(Nat->H->Bool)->Bool:=List.rec (λh K Y=>K (Bz op false) h)
 (λe Y ih h K X=>r.tr fr e h (λb h=>db (Bz op b) (K b h) (ih h K X)) X) es
noncomputable def JO(fr:Fr)(v:V)(op:CmpOp)(e:Expr)(h:H)(K:Bool->H->Bool)(X:Nat->H->Bool):Bool:=r.ev fr e h (λw h=>Fw C op v w h λb=>K b h) X
noncomputable def Sa(next:Bool)(K:Bool->H->Bool)(h:H)(b:Bool):Bool:=match b with
 |true=>next
 |false=>K false h
noncomputable def BA(fr:Fr)(v:V)(ops:List CmpOp)(es:List Expr)(h:H)(K:Bool->H->Bool)(X:Nat->H->Bool):Bool:=
 cR (nv ops) λo=>cR (nv es) λe=>gd (dT o.2) (gd (dT e.2) (JO C r fr v o.1 e.1 h K X))
noncomputable def TL(fr:Fr)(v:V)(ops:List CmpOp)(es:List Expr)(h:H)(K:Bool->H->Bool)(X:Nat->H->Bool):Bool:=
 dj (gd (dT ops.tail) (BA C r fr v ops es h K X)) (cR (nv ops) λo=>cR (nv es) λe=>gd (!(dT o.2)) (r.ev fr e.1 h (λw h=>Fw C o.1 v w h (Sa (BA C r fr w o.2 e.2 h K X) K h)) X))
noncomputable def uY(fr:Fr)(op:Operator)(a b:Expr)(h:H)(K:V->H->Bool)(X:Nat->H->Bool):Bool:=
 r.ev fr a h (λva h=>r.ev fr b h (λvb h=>Id C op va vb h K) X) X
noncomputable def Iv(fr:Fr)(l:Expr)(ops:List CmpOp)(rs:List Expr)(h:H)(K:V->H->Bool)(X:Nat->H->Bool):Bool:=
 r.ev fr l h (λv h=>BA C r fr v ops rs h (λb h=>K (.bool b) h) X) X
noncomputable def TM(fr:Fr)(a b:Expr)(K:V->H->Bool)(X:Nat->H->Bool)(c:Bool)(h:H):Bool:=match c with
 |true=>r.ev fr a h K X
 |false=>r.ev fr b h K X
noncomputable def xv(fr:Fr)(ks:List (Option Expr)):List Expr->H->(List V->List V->H->Bool)->(Nat->H->Bool)->Bool:=List.rec (λvs h K Y=>gd (dT vs) (K [] [] h))
 (λk Y ih vs h K X=>cR k λk=>cR (nv vs) λp=>r.ev fr k h (λa h=>r.ev fr p.1 h (λb h=>ih p.2 h (λas bs h=>K (a::as) (b::bs) h) X) X) X) ks
noncomputable def uZ(fr:Fr)(ks:List (Option Expr))(vs:List Expr)(h:H)(K:V->H->Bool)(X:Nat->H->Bool):Bool:=gd (Vk ks.length 15)
 (gd (fm (λ(k:Option Expr) (Y:Expr)=>k.isSome) ks vs) (xv r fr ks vs h (λks vs h=>cR (TJ ks vs) λd=>K (.ref h.length) (h.push (.dict d))) X))
noncomputable def yY(fr:Fr)(e:Option Expr)(h:H)(K:V->H->Bool)(X:Nat->H->Bool):Bool:=match e with
 |none=>K .none h
 |some e=>r.ev fr e h K X
noncomputable def qS(fr:Fr)(e:Expr)(lo hi st:Option Expr)(h:H)(K:V->H->Bool)(X:Nat->H->Bool):Bool:=
 r.ev fr e h (λo h=>yY r fr lo h (λlo h=>yY r fr hi h (λhi h=>yY r fr st h (λst h=>Ij C o lo hi st h K) X) X) X) X
noncomputable def u0(fr:Fr)(e i:Expr)(h:H)(K:V->H->Bool)(X:Nat->H->Bool):Bool:=
 r.ev fr e h (λo h=>r.ev fr i h (λi h=>JC C o i h λv=>K v h) X) X
noncomputable def qT(fr:Fr)(e i:Expr)(h:H)(K:V->H->Bool)(X:Nat->H->Bool):Bool:=match i with
 |.Slice lo hi st _=>qS C r fr e lo hi st h K X
 |i=>u0 C r fr e i h K X
noncomputable def dG(l:List (Str×NameKind)):List (Nat×NameKind):=match l with
 |[]=>[]
 |(s,k)::r=>(cd s,k)::dG r
noncomputable def qU(x:Nat)(l:List (Str×NameKind)):Bool:=List.rec true (λp Y ih=>gd (!(U9 x (cd p.1))) ih) l
noncomputable def Iw:Nat:=6481680626494154694495
noncomputable def Ix:Nat:=6481680900276877746015
noncomputable def xx:Nat:=27838606313909185553563072618335
noncomputable def xy(k:ScopeKind):Bool:=match k with
 |.function=>true
 |_=>false
noncomputable def u4(sc:Scope):Bool:=gd (xy sc.kind) (gd (!sc.isCoroutine) (gd (!sc.isGenerator) (gd (qU Iw sc.names) (gd (qU Ix sc.names) (qU xx sc.names)))))
noncomputable def iA(ns:Nat)(K:H->Bool)(h:H):Bool:=cR (dp (h.get ns) oN) λY=>K (h.set ns .dead)
noncomputable def u5(fr:Fr)(elt tgt:Expr)(ifs:List Expr)(sc:List (Nat×NameKind))(K:V->H->Bool)(X:Nat->H->Bool)(i:It)(h:H):Bool:=
 Prod.rec (λfr' h'=>r.co fr' elt tgt ifs i h.length h' (iA fr'.ns (K (.ref h.length))) (λk=>iA fr'.ns (X k))) (Bp fr sc (h.push (.list [])))
noncomputable def Nd(gens:List Comprehension):Option (Expr×Expr×List Expr):=dp (nv gens) λp=>gO (dT p.2) (gO (decide (p.1.is_async=0)) (some (p.1.target,p.1.iter,p.1.ifs)))
noncomputable def kq(fr:Fr)(elt:Expr)(gens:List Comprehension)(sc:Scope)(h:H)(K:V->H->Bool)(X:Nat->H->Bool):Bool:=cR (Nd gens) λp=>
 gd (j5 fr (dG sc.names)) (gd (Bo (dG sc.names) (dG sc.names)) (gd (u4 sc) (nI C r fr p.2.1 h (u5 r fr elt p.1 p.2.2 (dG sc.names) K X) X)))
noncomputable def Nf(a:Arg)(r:List Arg):Option Str:=match a.annotation with
 |some _=>none
 |none=>(match r with|[]=>some a.arg|_::_=>none)
noncomputable def Ng(ar:Arguments):Option Str:=match ar.posonlyargs.isEmpty&&(ar.vararg.isNone&&(ar.kwonlyargs.isEmpty&&(ar.kw_defaults.isEmpty&&(ar.kwarg.isNone&&ar.defaults.isEmpty)))) with
 |true=>(match ar.args with|[]=>none|a::r=>Nf a r)
 |false=>none
noncomputable def u6(fr:Fr)(ar:Arguments)(body:Expr)(sc:Scope)(h:H)(K:V->H->Bool):Bool:=cR (Ng ar) λx=>
 gd fr.lam (gd (!(U9 (cd x) 0)) (gd (j5 fr (dG sc.names)) (gd (u4 sc) (K (.ref h.length) (h.push (.lam (cd x) body (dG sc.names) fr.cells))))))
noncomputable def u7(f:V)(h:H):Bool:=match f with
 |.bi _=>true
 |.fn i=>(C.F.get i).isSome
 |.cls i=>(C.C.get i).isSome
 |.ref k=>(dp (h.get k) oF).isSome
 |_=>false
noncomputable def u8(f:V)(h:H)(b:Bool):Bool:=gd (u7 C f h) b
noncomputable def FG(fr:Fr)(m:Nat)(args:List Expr)(K:V->H->Bool)(X:Nat->H->Bool)(v:V)(h:H):Bool:=
 dq (JJ C v m h) (cR (sK v m h (FA C)) λf=>AT r fr args h (λvs h=>iw C (f v vs h K)) X) λf=>AT r fr args h (λvs h=>u8 C (.fn f) h (r.cl (.fn f) (v::vs) h K X)) X
noncomputable def qV(fr:Fr)(f:Expr)(args:List Expr)(h:H)(K:V->H->Bool)(X:Nat->H->Bool):Bool:=
 r.ev fr f h (λf h=>AT r fr args h (λvs h=>u8 C f h (r.cl f vs h K X)) X) X
noncomputable def BB(fr:Fr)(o:Expr)(m:Str)(ap p:Pos)(args:List Expr)(h:H)(K:V->H->Bool)(X:Nat->H->Bool):Bool:=
 gd (U9 ap.endLine p.line) (gd (Vk args.length 20) (r.ev fr o h (FG C r fr (cd m) args K X) X))
noncomputable def Iy(fr:Fr)(f:Expr)(args:List Expr)(p:Pos)(h:H)(K:V->H->Bool)(X:Nat->H->Bool):Bool:=match f with
 |.Attribute o m ap=>BB C r fr o m ap p args h K X
 |f=>qV C r fr f args h K X
noncomputable def BC(fr:Fr)(f:Expr)(args:List Expr)(kw:List Keyword)(p:Pos)(h:H)(K:V->H->Bool)(X:Nat->H->Bool):Bool:=gd (dT kw) (gd (eS args) (Iy C r fr f args p h K X))
noncomputable def BD(fr:Fr)(e:Expr)(h:H)(K:V->H->Bool)(X:Nat->H->Bool):Bool:=match e with
 |.Constant c _ _=>By c h K
 |.Name x _=>sI C fr (cd x) h λv=>K v h
 |.BinOp a op b _=>uY C r fr op a b h K X
 |.UnaryOp op a _=>r.ev fr a h (λva h=>Jz C op va h K) X
 |.BoolOp op es _=>R9 C r fr op es h K X
 |.Compare l ops rs _=>Iv C r fr l ops rs h K X
 |.IfExp t a b _=>r.tr fr t h (TM r fr a b K X) X
 |.Tuple es _ _=>AT r fr es h (λvs h=>Nc vs.length (K (.tup vs) h)) X
 |.List es _=>AT r fr es h (λvs h=>Nc vs.length (K (.ref h.length) (h.push (.list vs)))) X
 |.Dict ks vs _=>uZ r fr ks vs h K X
 |.Attribute e a _=>r.ev fr e h (λv h=>JG C v (cd a) h λw=>K w h) X
 |.Subscript e i _=>qT C r fr e i h K X
 |.ListComp elt gens sc _=>kq C r fr elt gens sc h K X
 |.Lambda ar body sc _=>u6 fr ar body sc h K
 |.Call f args kw p=>BC C r fr f args kw p h K X
 |_=>false
noncomputable def Uq(fr:Fr)(a b:Expr)(K:Bool->H->Bool)(X:Nat->H->Bool)(c:Bool)(h:H):Bool:=match c with
 |true=>r.tr fr a h K X
 |false=>r.tr fr b h K X
noncomputable def Nh(fr:Fr)(op:UnaryOp)(a:Expr)(e:Expr)(h:H)(K:Bool->H->Bool)(X:Nat->H->Bool):Bool:=match op with
 |.Not=>r.tr fr a h (λb h=>K (!b) h) X
 |_=>r.ev fr e h (λv h=>lC C v h λb=>K b h) X
noncomputable def BE(fr:Fr)(e:Expr)(h:H)(K:Bool->H->Bool)(X:Nat->H->Bool):Bool:=match e with
 |.UnaryOp op a _=>Nh C r fr op a e h K X
 |.BoolOp op es _=>MB r fr op es h K X
 |.IfExp t a b _=>r.tr fr t h (Uq r fr a b K X) X
 |.Compare l ops rs _=>r.ev fr l h (λv h=>TL C r fr v ops rs h K X) X
 |e=>r.ev fr e h (λv h=>lC C v h λb=>K b h) X
noncomputable def FH(fi:gt)(vs:List V)(K:V->H->Bool)(X:Nat->H->Bool)(x:Fr×H):Bool:=Prod.rec (λfr h=>d7 fr h (λh=>r.ex fr fi.body h (mt K) X) fi.params vs) x
noncomputable def u9(a:Nat)(args:List V)(h:H)(K:V->H->Bool)(X:Nat->H->Bool):Bool:=
 cR (C.F.get a) λfi=>cR (fu fi.params fi.dfl args) λvs=>FH r fi vs K X (ez fi.lam fi.ks [] h)
noncomputable def vc(l:List V):Option (List V×Nat×List V):=List.rec none (λv r ih=>dq (iU v) (dp ih λx=>some (v::x.1,x.2)) λk=>some ([],k,r)) l
noncomputable def JQ(a:Nat)(args:List V)(h:H)(K:V->H->Bool)(X:Nat->H->Bool):Bool:=
 dq (vc args) (u9 C r a args h K X) λx=>db (C.lzy a x.2.1) (u9 C r a args h K X) (dF (C.toks x.2.1) λv=>r.cl (.fn a) (x.1++v::x.2.2) h K X)
noncomputable def Ni(a:Nat)(args:List V)(h:H)(K:V->H->Bool)(X:Nat->H->Bool):Bool:=dq (C.P a args h) (JQ C r a args h K X) λouts=>JK outs h K X
noncomputable def BG(c:Nat)(w a:V)(h:H)(K:V->H->Bool):Bool:=K (.ref h.length) (h.push (.exc c [(j4,w),(nA,a)] true))
noncomputable def Ur:V:=.tup [.int (.c 0),.int (.c 0)]
noncomputable def BH(c:Nat)(args:List V)(h:H)(K:V->H->Bool):Bool:=dj (iu args λw=>BG c w Ur h K) (AZ args λw a=>BG c w a h K)
noncomputable def JR(K:V->H->Bool)(o:V)(v:V)(h:H):Bool:=gd (ei v) (K o h)
noncomputable def BI(c:Nat)(args:List V)(h:H)(K:V->H->Bool)(X:Nat->H->Bool):Bool:=cR (C.C.get c) λci=>
 dj (gd ci.exc (gd (U9 ci.init 0) (BH c args h K))) (gd (!ci.exc) (r.cl (.fn ci.init) (.ref h.length::args) (h.push (.inst c [])) (JR K (.ref h.length)) X))
noncomputable def Nj(x:Nat)(v:V)(body:Expr)(K:V->H->Bool)(X:Nat->H->Bool)(y:Fr×H):Bool:=Prod.rec (λfr h=>d7 fr h (λh=>r.ev fr body h K X) [x] [v]) y
noncomputable def vd(k:Nat)(args:List V)(h:H)(K:V->H->Bool)(X:Nat->H->Bool):Bool:=cR (dp (h.get k) oF) λl=>iu args λv=>Nj r l.x v l.body K X (ez false l.sc l.cells h)
noncomputable def BJ(f:V)(args:List V)(h:H)(K:V->H->Bool)(X:Nat->H->Bool):Bool:=match f with
 |.bi x=>builtin C x args h K
 |.fn a=>iw C (Ni C r a args h K X)
 |.cls c=>iw C (BI C r c args h K X)
 |.ref k=>iw C (vd r k args h K X)
 |_=>false
noncomputable def BK(a:Nat)(v:V)(K:H->Bool)(o:V)(h:H):Bool:=cR (fk o) λk=>cR (dp (h.get k) oI) λp=>cR (C.C.get p.1) λci=>
 gd (yW a ci.atts) (gd (!ci.exc) (gd (Vk p.2.length 100) (K (h.set k (.inst p.1 (ny p.2 a v))))))
noncomputable def JS(b l:List AI)(i j:Nat):List AI:=b.take i++l++b.drop j
noncomputable def qW(v:V)(K:H->Bool)(o lo hi:V)(h:H):Bool:=cR (fk o) λk=>cR (dk v) λl=>cR (AY (h.get k)) λb=>cR (sH b.length 0 lo) λi=>cR (sH b.length b.length hi) λj=>
 gd (Vk i j) (gd (U9 l.length (Xf j i)) (gd (Vk (JS b l i j).length 10000) (gd (Vk l.length 10000) (K (h.set k (.barr (JS b l i j)))))))
noncomputable def ve(v:V)(K:H->Bool)(o i:V)(h:H):Bool:=cR (fk o) λk=>match i with
 |.int a=>cR a.cst λn=>cR (gf (h.get k)) λl=>gd (decide (0≤n)) (cR (JA l.length n) λj=>K (h.set k (.list (A1 l j v))))
 |.str x=>cR (nu (h.get k)) λl=>gd (Vk l.length 999) (K (h.set k (.dict (ny l x v))))
 |_=>false
noncomputable def qX(fr:Fr)(o:Expr)(lo hi st:Option Expr)(v:V)(h:H)(K:H->Bool)(X:Nat->H->Bool):Bool:=match st with
 |none=>r.ev fr o h (λo h=>yY r fr lo h (λlo h=>yY r fr hi h (λhi h=>qW v K o lo hi h) X) X) X
 |some _=>false
noncomputable def xz(fr:Fr)(o i:Expr)(v:V)(h:H)(K:H->Bool)(X:Nat->H->Bool):Bool:=match i with
 |.Slice lo hi st _=>qX r fr o lo hi st v h K X
 |i=>r.ev fr o h (λo h=>r.ev fr i h (λi h=>ve v K o i h) X) X
noncomputable def JT(fr:Fr)(ts:List Expr):List V->H->(H->Bool)->(Nat->H->Bool)->Bool:=List.rec (λvs h K Y=>gd (dT vs) (K h)) (λt Y ih vs h K X=>cR (nv vs) λp=>r.asg fr t p.1 h (λh=>ih p.2 h K X) X) ts
noncomputable def xA(fr:Fr)(es:List Expr)(v:V)(h:H)(K:H->Bool)(X:Nat->H->Bool):Bool:=cR (eg v) λvs=>gd (U9 es.length vs.length) (gd (eS es) (JT r fr es vs h K X))
noncomputable def xB(fr:Fr)(t:Expr)(v:V)(h:H)(K:H->Bool)(X:Nat->H->Bool):Bool:=match t with
 |.Name x _=>gu fr (cd x) v h K
 |.Tuple es _ _=>iw C (xA r fr es v h K X)
 |.Attribute o a _=>r.ev fr o h (BK C (cd a) v K) X
 |.Subscript o i _=>xz r fr o i v h K X
 |_=>false
noncomputable def qh(fr:Fr)(ss:List Stmt)(K:f9->H->Bool)(X:Nat->H->Bool)(f:f9)(h:H):Bool:=match f with
 |.nx=>r.ex fr ss h K X
 |.rt v=>K (.rt v) h
noncomputable def Us(fr:Fr)(a b:List Stmt)(K:f9->H->Bool)(X:Nat->H->Bool)(c:Bool)(h:H):Bool:=match c with
 |true=>r.ex fr a h K X
 |false=>r.ex fr b h K X
noncomputable def Nk(ts:List Expr):Bool:=dq (nv ts) true λp=>dq (gY p.1) true λY=>!(U9 p.2.length 2)
noncomputable def TN(t:Expr):Bool:=match t with
 |.List .. =>false
 |.Starred .. =>false
 |_=>true
noncomputable def RA(e:Expr):Bool:=match e with
 |.SetComp .. =>false
 |.DictComp .. =>false
 |_=>true
noncomputable def vf(t e:Expr):Bool:=gd (TN t) (gd (RA e) (dq (mu e) true λvs=>dq (mu t) true λts=>gd (dj (!(vs.all (constantsAlone 8))) (vs.all (foldedForSure 8))) (Nk ts)))
noncomputable def qY(e:Expr):Bool:=match e with
 |.ListComp .. =>true
 |_=>false
noncomputable def BL(fr:Fr)(ts:List Expr)(e:Expr)(h:H)(K:H->Bool)(X:Nat->H->Bool):Bool:=cR (nv ts) λp=>gd (dT p.2) (gd (vf p.1 e) (r.ev fr e h (λv h=>r.asg fr p.1 v h K X) X))
noncomputable def Nl(c:Nat):Bool:=cR (C.C.get c) λci=>gd ci.exc (U9 ci.init 0)
noncomputable def FI(X:Nat->H->Bool)(v:V)(h:H):Bool:=cR (fk v) λk=>cR (dp (h.get k) oE) λp=>gd p.2.2 (gd (Nl C p.1) (X k (h.set k (.exc p.1 p.2.1 false))))
noncomputable def Nm(fr:Fr)(t:Expr)(b:List Stmt)(K:f9->H->Bool)(X:Nat->H->Bool)(f:f9)(h:H):Bool:=match f with
 |.nx=>r.wh fr t b h K X
 |.rt v=>K (.rt v) h
noncomputable def Sb(fr:Fr)(t:Expr)(b:List Stmt)(K:f9->H->Bool)(X:Nat->H->Bool)(c:Bool)(h:H):Bool:=match c with
 |true=>r.ex fr b h (Nm r fr t b K X) X
 |false=>K .nx h
noncomputable def BM(fr:Fr)(t:Expr)(b:List Stmt)(h:H)(K:f9->H->Bool)(X:Nat->H->Bool):Bool:=iw C (r.tr fr t h (Sb r fr t b K X) X)
noncomputable def xC(fr:Fr)(x:Nat)(h:H)(K:H->Bool):Bool:=cR (fH fr x) λk=>gd (Iq k) (cR (dp (h.get fr.ns) oN) λY=>K (h.set fr.ns .nsU))
noncomputable def vg(fr:Fr)(x:Nat)(hb:List Stmt)(k:Nat)(K:f9->H->Bool)(X:Nat->H->Bool)(h:H):Bool:=
 gu fr x (.ref k) h λh=>r.ex fr hb h (λf h=>xC fr x h λh=>K f h) X
noncomputable def BN(fr:Fr)(nm:Option Str)(hb:List Stmt)(k:Nat)(K:f9->H->Bool)(X:Nat->H->Bool)(cs:List Nat)(h:H):Bool:=cR (xt C h k cs) λb=>gd b
 (dq nm (r.ex fr hb h (λf h=>K f (h.set k .dead)) X) λx=>vg r fr (cd x) hb k (λf h=>K f (h.set k .dead)) X h)
noncomputable def vh(q:Ev)(fr:Fr)(b:List Stmt)(hs:List ExceptHandler)(o f:List Stmt)(h:H)(K:f9->H->Bool)(X:Nat->H->Bool):Bool:=gd (dT o) (gd (dT f) (cR (gq hs) λe=>cR (xr e) λp=>
 iw C (r.ex fr b h K λk h=>cR (Bs C fr p.1) λcs=>BN C q fr p.2.1 p.2.2 k K (λY Y=>false) cs h)))
noncomputable def JU(fr:Fr)(e:Option Expr)(h:H)(K:f9->H->Bool)(X:Nat->H->Bool):Bool:=match e with
 |some e=>r.ev fr e h (λv h=>K (.rt v) h) X
 |none=>false
noncomputable def vj(fr:Fr)(e c:Option Expr)(h:H)(X:Nat->H->Bool):Bool:=dq c (cR e λe=>iw C (r.ev fr e h (FI C X) X)) λY=>false
noncomputable def vk(fr:Fr)(t it:Expr)(b o:List Stmt)(h:H)(K:f9->H->Bool)(X:Nat->H->Bool):Bool:=gd (dT o) (nI C r fr it h (λi h=>r.fo fr t i b h K X) X)
noncomputable def Nn(fr:Fr)(t:Expr)(b o:List Stmt)(h:H)(K:f9->H->Bool)(X:Nat->H->Bool):Bool:=match o with
 |[]=>r.wh fr t b h K X
 |_=>false
noncomputable def FJ(q:Ev)(fr:Fr)(s:Stmt)(ss:List Stmt)(h:H)(K:f9->H->Bool)(X:Nat->H->Bool):Bool:=match s with
 |.Assign ts e _=>BL r fr ts e h (λh=>r.ex fr ss h K X) X
 |.If t a b _=>r.tr fr t h (Us r fr a b (qh r fr ss K X) X) X
 |.For t it b o _=>vk C r fr t it b o h (qh r fr ss K X) X
 |.While t b o _=>Nn r fr t b o h (qh r fr ss K X) X
 |.Return e _=>JU r fr e h K X
 |.Raise e c _=>vj C r fr e c h X
 |.Try b hs o f _=>vh C r q fr b hs o f h (qh r fr ss K X) X
 |.Expr e _=>gd (!(qY e)) (gd (RA e) (r.ev fr e h (λY h=>r.ex fr ss h K X) X))
 |_=>false
noncomputable def BO(q:Ev)(fr:Fr)(ss:List Stmt)(h:H)(K:f9->H->Bool)(X:Nat->H->Bool):Bool:=match ss with
 |[]=>K .nx h
 |s::ss=>FJ C r q fr s ss h K X
noncomputable def nJ:Expr->Bool
 |.Tuple .. =>true
 |_=>false
noncomputable def sM(it:It)(t:Expr):Bool:=match it with
 |.enum .. =>nJ t
 |.zip .. =>nJ t
 |_=>true
noncomputable def Iz(fr:Fr)(t:Expr)(it:It)(b:List Stmt)(K:f9->H->Bool)(X:Nat->H->Bool)(f:f9)(h:H):Bool:=match f with
 |.nx=>r.fo fr t it b h K X
 |.rt v=>K (.rt v) h
noncomputable def Sc(fr:Fr)(t:Expr)(b:List Stmt)(h:H)(K:f9->H->Bool)(X:Nat->H->Bool)(x:Nx):Bool:=match x with
 |.stop=>K .nx h
 |.more v it=>r.asg fr t v h (λh=>r.ex fr b h (Iz r fr t it b K X) X) X
noncomputable def BP(fr:Fr)(t:Expr)(it:It)(b:List Stmt)(h:H)(K:f9->H->Bool)(X:Nat->H->Bool):Bool:=gd (sM it t) (cR (next C it h) (Sc r fr t b h K X))
noncomputable def qZ(acc:Nat)(w:V)(h:H)(K:H->Bool):Bool:=cR (gf (h.get acc)) λl=>gd (Vk l.length 9999) (K (h.set acc (.list (l++[w]))))
noncomputable def No(fr:Fr)(elt t:Expr)(ifs:List Expr)(it:It)(acc:Nat)(K:H->Bool)(X:Nat->H->Bool)(c:Bool)(h:H):Bool:=
 db c (r.ev fr elt h (λw h=>qZ acc w h λh=>r.co fr elt t ifs it acc h K X) X) (r.co fr elt t ifs it acc h K X)
noncomputable def Sd(fr:Fr)(elt t:Expr)(ifs:List Expr)(acc:Nat)(h:H)(K:H->Bool)(X:Nat->H->Bool)(x:Nx):Bool:=match x with
 |.stop=>K h
 |.more v it=>r.asg fr t v h (λh=>MB r fr .And ifs h (No r fr elt t ifs it acc K X) X) X
noncomputable def BQ(fr:Fr)(elt t:Expr)(ifs:List Expr)(it:It)(acc:Nat)(h:H)(K:H->Bool)(X:Nat->H->Bool):Bool:=gd (sM it t) (cR (next C it h) (Sd r fr elt t ifs acc h K X))
noncomputable def MC(q:Ev):Ev:=⟨BD C r,BE C r,BJ C r,xB C r,BO C r q,BM C r,λfr t it b h K X=>iw C (BP C r fr t it b h K X),λfr e t ifs it a h K X=>iw C (BQ C r fr e t ifs it a h K X)⟩
end
noncomputable def je:List Arg->List Nat
 |[]=>[]
 |⟨x,_,_⟩::r=>cd x::je r
noncomputable def Ut:gt:=⟨[],[],[],[],false⟩
noncomputable def vm:List Stmt->Bool
 |[.Return (some (.Call _ [_,.Lambda ..] [] _)) _]=>true
 |_=>false
noncomputable def pG(s:Stmt)(dfl:List V):gt:=match s with
 |.FunctionDef _ a b _ _ _ sc _ _ _=>⟨je a.args,dfl,b,dG sc.names,vm b⟩
 |_=>Ut
noncomputable def Np(s:Stmt)(j:Nat):Stmt:=match s with
 |.ClassDef _ _ _ b _ _ _ _ _ _ _=>(fC b j).getD (.Pass default)
 |_=>.Pass default
noncomputable def iB(C:i9):i9:=⟨C.G,C.F,C.C,C.W,true,C.toks,C.P,C.words,C.lzy,C.egr⟩
noncomputable def TP(C:i9)(n:Nat):Ev:=Nat.rec FE (λY r=>MC (iB C) r FE) n
noncomputable def mO(C:i9)(n:Nat):Ev:=Nat.rec FE (λk r=>MC C r (TP C k)) n
noncomputable def jG(x:Nat):Value:=
 if x=H3 then .builtin "abs" else if x=H4 then .builtin "len" else if x=H5 then .builtin "max" else if x=H6 then .builtin "min" else if x=sG then .builtin "sorted"
 else if x=xj then .type "bytes" else if x=xk then .type "tuple" else if x=A5 then .type "list" else if x=qM then .type "range" else if x=jc then .type "enumerate"
 else if x=A6 then .type "zip" else if x=H7 then .type "int" else if x=ms then .type "bytearray" else .none
noncomputable def TQ(i:Nat):Stmt:=(fC PySem.Challenge.pw_pq0653_01.main.body i).getD (.Pass default)
noncomputable def gN(i:Nat):Stmt:=match V8 i 1000 with
 |true=>TQ i
 |false=>Np (TQ (Xf (We i 1000) 1)) (Ww i 1000)
noncomputable def FK{α β:Type}(f:Nat->α->β)(t:BT α):BT β:=BT.rec .nil (λY k v Y a b=>.node a k (f k v) b) t
noncomputable def FD:BT (List V):=(.node (.node (.node (.node (.node (.node (.node (.node .nil 13 [] .nil) 14 [] .nil) 15 [] (.node .nil 16 [] .nil)) 17 [] (.node (.node (.node .nil 18 [] .nil) 19 [] .nil) 20 [] (.node .nil 21 [] .nil))) 26 [] (.node (.node (.node (.node .nil 27 [(.int (.c 0))] .nil) 28 [] .nil) 29 [] (.node .nil 30 [] .nil)) 31 [] (.node (.node .nil 32 [] .nil) 33 [] (.node .nil 34 [(.int (.c 30))] .nil)))) 35 [] (.node (.node (.node (.node (.node .nil 36 [] .nil) 37 [] .nil) 38 [] (.node .nil 39 [] .nil)) 41 [] (.node (.node .nil 46 [] .nil) 47 [] (.node .nil 48 [] .nil))) 49 [] (.node (.node (.node (.node .nil 50 [] .nil) 51 [] .nil) 53 [] (.node .nil 54 [] .nil)) 55 [(.bool false)] (.node (.node .nil 56 [] .nil) 57 [] (.node .nil 61 [] .nil))))) 62 [] (.node (.node (.node (.node (.node (.node .nil 63 [] .nil) 64 [] .nil) 65 [] (.node .nil 66 [] .nil)) 67 [(.bool false)] (.node (.node .nil 72 [] .nil) 73 [] (.node .nil 74 [] .nil))) 75 [] (.node (.node (.node (.node .nil 76 [] .nil) 77 [] .nil) 78 [] (.node .nil 79 [] .nil)) 80 [] (.node (.node .nil 81 [] .nil) 91 [] (.node .nil 92 [] .nil)))) 93 [] (.node (.node (.node (.node (.node .nil 94 [] .nil) 95 [] .nil) 96 [] (.node .nil 97 [] .nil)) 98 [] (.node (.node .nil 99 [] .nil) 100 [] (.node .nil 101 [] .nil))) 102 [] (.node (.node (.node (.node .nil 103 [] .nil) 104 [] .nil) 109 [] (.node .nil 110 [] .nil)) 111 [(.bool false)] (.node (.node .nil 112 [] .nil) 113 [] (.node .nil 114 [] .nil)))))) 115 [] (.node (.node (.node (.node (.node (.node (.node .nil 116 [] .nil) 117 [] .nil) 118 [] (.node .nil 119 [] .nil)) 120 [] (.node (.node (.node .nil 121 [] .nil) 123 [] .nil) 124 [] (.node .nil 125 [] .nil))) 126 [] (.node (.node (.node (.node .nil 127 [] .nil) 131 [] .nil) 132 [] (.node .nil 133 [] .nil)) 134 [] (.node (.node .nil 135 [] .nil) 136 [] (.node .nil 137 [] .nil)))) 138 [] (.node (.node (.node (.node (.node .nil 139 [] .nil) 140 [] .nil) 141 [] (.node .nil 142 [] .nil)) 143 [] (.node (.node .nil 144 [] .nil) 145 [] (.node .nil 146 [] .nil))) 150 [] (.node (.node (.node (.node .nil 151 [] .nil) 152 [] .nil) 153 [] (.node .nil 154 [] .nil)) 157 [] (.node (.node .nil 158 [] .nil) 159 [] (.node .nil 162 [] .nil))))) 163 [] (.node (.node (.node (.node (.node (.node .nil 164 [] .nil) 165 [] .nil) 166 [] (.node .nil 167 [] .nil)) 168 [] (.node (.node .nil 169 [] .nil) 170 [] (.node .nil 171 [] .nil))) 173 [] (.node (.node (.node (.node .nil 174 [] .nil) 175 [(.int (.c 0))] .nil) 176 [] (.node .nil 177 [] .nil)) 178 [] (.node (.node .nil 179 [(.tup []),(.tup []),.none] .nil) 180 [] (.node .nil 181 [] .nil)))) 182 [] (.node (.node (.node (.node (.node .nil 183 [] .nil) 184 [] .nil) 3000 [(.tup [(.int (.c 0)),(.int (.c 0))])] (.node .nil 11000 [.none,(.tup []),(.tup [])] .nil)) 12000 [] (.node (.node .nil 12001 [] .nil) 12002 [] (.node .nil 12003 [] .nil))) 13000 [] (.node (.node (.node (.node .nil 53000 [] .nil) 53001 [] .nil) 53002 [] (.node .nil 53003 [] .nil)) 72000 [.none,(.str 100321036237300089),(.str 26837620234872516199),(.bool false),(.bool false),(.bool false)] (.node (.node .nil 72002 [] .nil) 149000 [(.bool false)] (.node .nil 162000 [] .nil)))))))
noncomputable def FT:BT gt:=FK (λi d=>pG (gN i) d) FD
noncomputable def CT:BT gb:=(.node (.node (.node (.node .nil 2 ⟨3000,[],true,[2],[6298296692,90484]⟩ .nil) 3 ⟨0,[],true,[3,2],[6298296692,90484]⟩ (.node .nil 4 ⟨0,[],true,[4,2],[6298296692,90484]⟩ .nil)) 5 ⟨0,[],true,[5,2],[6298296692,90484]⟩ (.node (.node .nil 6 ⟨0,[],true,[6,2],[6298296692,90484]⟩ .nil) 10 ⟨11000,[],false,[10],[23883639,6046705512,6574350343960628129383,6096779635,101733844070720883]⟩ .nil)) 11 ⟨12000,[(23159908,12001),(1526583357044,12002),(100042782570407283,12003)],false,[11],[1565070353772,6146846053,114017890487881576109679409268,1603958564709,6231254894,436967053782273994518525029,403947637797491,6832601383258565797235,1607952266597,111863565603395232715042809188,28637072756522928292057112212079,1678495644609696360263283,6097036403,405038810099316,104257266138310003,5945520997,403960572896628,6231259749,1595184083045]⟩ (.node (.node (.node .nil 12 ⟨13000,[],false,[12],[105675653485522535,102572814491543397,1539367003507,1595302638707,6231259749,101733844070720883]⟩ .nil) 52 ⟨53000,[(26766423588604310387,53001),(394077870060133,53002),(1582366286693,53003)],false,[52],[100883934735394163,436967053421976128758314597,6013152364,6147111028,1539468258916,436967052632172793105575527,26045265946226423150,6231715700]⟩ .nil) 71 ⟨72000,[(1753942326271747681248101,72002)],false,[71],[25607876935081226873,6231259749,103698667306054245,1603958564709,6231254894,436967053782273994518525029,111863565603395232715042809188,28637072756522928292057112212079,391878846018675,1595100195941,6667588100942841406820]⟩ (.node (.node .nil 148 ⟨149000,[],false,[148],[6146846053,5979075681,1539367003507,1739941820890875373446515,1706902551032123882037612]⟩ .nil) 161 ⟨162000,[],false,[161],[103708614232007021,1595184344166,6214874995,6870217698016752531315,401757371855481,101733844070720883,1565136939891,101438118374958451,1735181843433596808095859,26476773734033289079,1595302638707]⟩ .nil)))
noncomputable def GT:BT V:=(.node (.node (.node (.node (.node (.node (.node (.node .nil 23159411 (.bi 23159411) .nil) 23686772 (.bi 23686772) .nil) 23880055 (.fn 184) (.node (.node .nil 23881070 (.bi 23881070) .nil) 23945592 (.bi 23945592) .nil)) 23947630 (.bi 23947630) (.node (.node (.node .nil 24799600 (.bi 24799600) .nil) 5442204769 (.cls 12) .nil) 5527332205 (.cls 11) (.node (.node .nil 5642147155 (.int (.c 43)) .nil) 6013154419 (.fn 39) .nil))) 6096777332 (.fn 28) (.node (.node (.node (.node .nil 6113817460 (.bi 6113817460) .nil) 6181123443 (.fn 30) .nil) 1401389860164 (.str 19147565) (.node (.node .nil 1427564488050 (.cls 52) .nil) 1457745129573 (.cls 71) .nil)) 1475043552356 (.cls 161) (.node (.node (.node .nil 1509536394348 (.fn 0) .nil) 1522456094067 (.bi 1522456094067) .nil) 1569431909747 (.fn 31) (.node .nil 1569533093220 (.fn 118) .nil)))) 1582418060658 (.fn 35) (.node (.node (.node (.node (.node .nil 1590772524901 (.bi 1590772524901) .nil) 1599496611187 (.fn 32) .nil) 1599698136165 (.bi 1599698136165) (.node (.node .nil 358755603334482 (.str 358755603334482) .nil) 368763265708659 (.cls 10) .nil)) 392956917081444 (.fn 55) (.node (.node (.node .nil 394077953353060 (.fn 121) .nil) 405085769393523 (.fn 41) .nil) 408397475505508 (.bi 408397475505508) (.node (.node .nil 411635780248932 (.fn 151) .nil) 94106432534041171 (.tup [(.str 103148954189982051),(.str 392956917081444)]) .nil))) 94701414977266029 (.cls 148) (.node (.node (.node (.node .nil 99479866741515620 (.fn 111) .nil) 99484294936356196 (.fn 158) .nil) 100316569353937260 (.fn 27) (.node (.node .nil 100883955940552550 (.fn 123) .nil) 101740445568036710 (.fn 131) .nil)) 102860920796968047 (.fn 171) (.node (.node (.node .nil 103126963956182886 (.fn 141) .nil) 103131336167155044 (.fn 33) .nil) 103689935636098918 (.fn 165) (.node .nil 103705333094312312 (.fn 157) .nil))))) 104257219128878195 (.fn 13) (.node (.node (.node (.node (.node (.node .nil 104268265867407206 (.fn 17) .nil) 104550840355744110 (.fn 166) .nil) 104555251036873576 (.fn 127) (.node (.node .nil 104820259359254894 (.fn 115) .nil) 23728995043860825412 (.str 5405421356) .nil)) 24374974600589168199 (.int (.c 66)) (.node (.node (.node .nil 24388520605656640628 (.cls 5) .nil) 25322721970127660398 (.fn 173) .nil) 25322721970127791462 (.fn 181) (.node (.node .nil 25607870312342320741 (.fn 110) .nil) 25900027100451008358 (.fn 109) .nil))) 26043880574679278948 (.fn 57) (.node (.node (.node (.node .nil 26045265967919887728 (.fn 20) .nil) 26045265976441988472 (.fn 162) .nil) 26045266036471589989 (.fn 37) (.node (.node .nil 26476218527905705573 (.fn 125) .nil) 26622307318045699700 (.fn 34) .nil)) 26689848079763268964 (.fn 159) (.node (.node (.node .nil 26689862347410138468 (.fn 112) .nil) 26692672699431350118 (.fn 47) .nil) 26833986395969056626 (.fn 116) (.node .nil 26908560772458045812 (.fn 36) .nil)))) 26908560772458047854 (.fn 102) (.node (.node (.node (.node (.node .nil 26908574984388830564 (.fn 152) .nil) 26976964642112824676 (.fn 53) .nil) 27050993673148787054 (.fn 170) (.node (.node .nil 27050993673148788582 (.fn 38) .nil) 27052967330930714990 (.fn 169) .nil)) 5983767424555782859892 (.cls 3) (.node (.node (.node .nil 6261046739661636332660 (.cls 6) .nil) 6278184337077023556932 (.tup [(.str 299),(.str 301),(.str 298),(.str 303),(.str 76330)]) .nil) 6482616824352480584055 (.fn 174) (.node (.node .nil 6482616824352613689700 (.fn 175) .nil) 6482616824352647245157 (.fn 179) .nil))) 6482616824352748825700 (.fn 183) (.node (.node (.node (.node .nil 6519513382379581697395 (.fn 15) .nil) 6538899133538275320185 (.bi 6538899133538275320185) .nil) 6593447022513235260517 (.bi 6593447022513235260517) (.node (.node .nil 6611529546818790584166 (.fn 62) .nil) 6611531498370393990509 (.fn 126) .nil)) 6647849927702964237683 (.fn 65) (.node (.node (.node .nil 6647849927737407534195 (.fn 73) .nil) 6740370207211731775334 (.fn 163) .nil) 6759969858440444995950 (.fn 103) (.node .nil 6759969858440444997478 (.fn 168) .nil)))))) 6851337211999081035892 (.fn 50) (.node (.node (.node (.node (.node (.node (.node .nil 1517397557942959822096707 (.str 1412581125833631304002090) .nil) 1527250141151531749436532 (.cls 4) .nil) 1555102338337196950506821 (.str 1706810676484562934132069) (.node (.node .nil 1555102338337197034920517 (.int (.c 4)) .nil) 1574011336106416635594066 (.int (.c 99)) .nil)) 1659549907034316584676452 (.fn 177) (.node (.node (.node .nil 1678606756018852200805491 (.fn 104) .nil) 1682960188165617989545076 (.fn 150) .nil) 1706902552447212275788131 (.fn 72) (.node (.node .nil 1716090257639713391866995 (.fn 91) .nil) 1730552283760753918766962 (.fn 117) .nil))) 1734943114114376957063026 (.fn 96) (.node (.node (.node (.node .nil 1735181844561687197215086 (.fn 167) .nil) 1739628591314727115648870 (.fn 119) .nil) 1739830133318840406860915 (.fn 21) (.node (.node .nil 1749146096540496817845363 (.fn 135) .nil) 1758592132446283811090533 (.fn 76) .nil)) 1763479438761833377656420 (.fn 74) (.node (.node (.node .nil 1763479438783810808802404 (.fn 63) .nil) 401842183251720892276961138 (.cls 2) .nil) 402946902043242645457945939 (.int (.c 30)) (.node .nil 404155863813127254779577413 (.int (.c 48)) .nil)))) 406507270567571370577515859 (.int (.c 12)) (.node (.node (.node (.node (.node .nil 424844776200775175757784434 (.fn 176) .nil) 424844776200776198077641843 (.fn 178) .nil) 424844776200780647681385317 (.fn 182) (.node (.node .nil 427291034098460457190974835 (.fn 142) .nil) 429628882641275720799580006 (.fn 138) .nil)) 430837808170409247348319603 (.fn 56) (.node (.node (.node .nil 432060699546057561579288692 (.fn 54) .nil) 433293200380316345354841970 (.fn 92) .nil) 434544775071659844140363877 (.fn 75) (.node (.node .nil 436943533180103108310691941 (.fn 80) .nil) 436943809879598368140130420 (.fn 51) .nil))) 436967053351052217090531700 (.fn 64) (.node (.node (.node (.node .nil 436971886395175897267991667 (.fn 134) .nil) 436971886400797786002187634 (.fn 14) .nil) 441784290859408566499701875 (.fn 146) (.node (.node .nil 445344882481379894721541235 (.fn 133) .nil) 99746359922862428224068611687 (.bytes [.c 32]) .nil)) 101915186845266528387558102099 (.int (.c 9)) (.node (.node (.node .nil 103147129773906335479095584115 (.int (.c 45)) .nil) 103154406923067299215004812627 (.int (.c 120)) .nil) 104065861265298270854908368211 (.int (.c 13)) (.node .nil 104065861265298270867842746702 (.int (.c 15)) .nil))))) 104079244601358712199235913043 (.bytes [.c 123,.c 65,.c 66,.c 67,.c 68,.c 69,.c 70,.c 71,.c 72,.c 73]) (.node (.node (.node (.node (.node (.node .nil 109685151945711710353190646899 (.fn 101) .nil) 110009172362600674136326237812 (.fn 26) .nil) 110923059297360962437938245236 (.fn 78) (.node (.node .nil 110923059297360984410939287908 (.fn 49) .nil) 110923082741807828903068331109 (.fn 143) .nil)) 110923111206641229787100968051 (.fn 153) (.node (.node (.node .nil 110923111206641236431281417061 (.fn 66) .nil) 111864802918604211243692944996 (.fn 16) .nil) 113096778460012552339675311205 (.fn 144) (.node (.node .nil 113389296008496169000482729572 (.fn 18) .nil) 113413474468544768876027670629 (.fn 79) .nil))) 113701231926594197475779896691 (.fn 61) (.node (.node (.node (.node .nil 114008218914147093755934110835 (.fn 100) .nil) 115263126286650395050587090021 (.fn 145) .nil) 115571388500135805331633169509 (.fn 29) (.node (.node .nil 25535068140252779361411472649831 (.str 288) .nil) 26405665222120008607033103369555 (.bytes [.c 125,.c 74,.c 75,.c 76,.c 77,.c 78,.c 79,.c 80,.c 81,.c 82]) .nil)) 26486758690857107824365074343283 (.int (.c 48)) (.node (.node (.node .nil 28079398898102197843772674765939 (.fn 95) .nil) 28237861338482919289285564265587 (.fn 99) .nil) 28396309182012326392999257990514 (.fn 120) (.node .nil 28397241212150283623936373122926 (.fn 46) .nil)))) 28637072789616600814092820770149 (.fn 132) (.node (.node (.node (.node (.node .nil 28870426881353579447833874229096 (.fn 124) .nil) 29033849463947460817939703034995 (.fn 140) .nil) 29111520605489851432154951676005 (.fn 137) (.node (.node .nil 29186104042021655994875001533555 (.fn 94) .nil) 29426269259513397665461014196837 (.fn 98) .nil)) 29503015487876341062071395642980 (.fn 19) (.node (.node (.node .nil 29745052146202580512140398262388 (.fn 114) .nil) 7127712576792156721769140049244276 (.fn 180) .nil) 7228892502651627338050460321150067 (.fn 93) (.node .nil 7330697601453894040666471769535097 (.fn 154) .nil))) 7331090646264386721814329298611815 (.fn 48) (.node (.node (.node (.node .nil 7351059231947669997258193086080371 (.fn 97) .nil) 7432665462770550401172970569560165 (.fn 77) .nil) 7452549275005401966617344248411251 (.fn 136) (.node (.node .nil 7574089598240422855139707544760421 (.fn 81) .nil) 1730521675996857439498917148325670503 (.int (.c 45)) .nil)) 1912963460071342991221196862110659699 (.fn 164) (.node (.node (.node .nil 444374071696386922790060582162299186791 (.int (.c 48)) .nil) 487107163768130762960485857212593628516 (.fn 67) .nil) 499002757228111948858823950165356801894 (.fn 113) (.node .nil 122995291186544215680009224903718332362340 (.fn 139) .nil)))))))
noncomputable def nK(k:Nat):Option (List Nat):=match U9 k 1412581125833631304002090 with|true=>some [299,301,298,303,76330]|false=>none
noncomputable def Uu:BT Nat:=(.node (.node (.node (.node (.node (.node (.node (.node .nil 0 21 .nil) 2 47 .nil) 3 60 (.node (.node .nil 4 72 .nil) 5 84 .nil)) 6 96 (.node (.node (.node .nil 10 125 .nil) 11 172 .nil) 12 198 (.node .nil 13 209 .nil))) 14 216 (.node (.node (.node (.node .nil 15 223 .nil) 16 230 .nil) 17 237 (.node .nil 18 242 .nil)) 19 247 (.node (.node (.node .nil 20 252 .nil) 21 257 .nil) 26 264 (.node .nil 27 272 .nil)))) 28 279 (.node (.node (.node (.node (.node .nil 29 286 .nil) 30 293 .nil) 31 300 (.node (.node .nil 32 307 .nil) 33 314 .nil)) 34 322 (.node (.node (.node .nil 35 329 .nil) 36 336 .nil) 37 343 (.node .nil 38 350 .nil))) 39 357 (.node (.node (.node (.node .nil 41 364 .nil) 46 371 .nil) 47 378 (.node .nil 48 385 .nil)) 49 392 (.node (.node (.node .nil 50 399 .nil) 51 406 .nil) 52 444 (.node .nil 53 453 .nil))))) 54 460 (.node (.node (.node (.node (.node (.node .nil 55 466 .nil) 56 471 .nil) 57 478 (.node (.node .nil 61 485 .nil) 62 492 .nil)) 63 499 (.node (.node (.node .nil 64 504 .nil) 65 509 .nil) 66 516 (.node .nil 67 524 .nil))) 71 556 (.node (.node (.node (.node .nil 72 567 .nil) 73 574 .nil) 74 581 (.node .nil 75 588 .nil)) 76 595 (.node (.node (.node .nil 77 602 .nil) 78 609 .nil) 79 616 (.node .nil 80 623 .nil)))) 81 630 (.node (.node (.node (.node (.node .nil 91 637 .nil) 92 644 .nil) 93 649 (.node .nil 94 654 .nil)) 95 661 (.node (.node (.node .nil 96 668 .nil) 97 675 .nil) 98 682 (.node .nil 99 687 .nil))) 100 694 (.node (.node (.node (.node .nil 101 701 .nil) 102 708 .nil) 103 715 (.node .nil 104 722 .nil)) 109 730 (.node (.node (.node .nil 110 737 .nil) 111 745 .nil) 112 752 (.node .nil 113 759 .nil)))))) 114 766 (.node (.node (.node (.node (.node (.node (.node .nil 115 773 .nil) 116 780 .nil) 117 787 (.node (.node .nil 118 794 .nil) 119 801 .nil)) 120 808 (.node (.node (.node .nil 121 815 .nil) 123 820 .nil) 124 827 (.node .nil 125 834 .nil))) 126 839 (.node (.node (.node (.node .nil 127 846 .nil) 131 853 .nil) 132 860 (.node .nil 133 867 .nil)) 134 874 (.node (.node (.node .nil 135 881 .nil) 136 888 .nil) 137 895 (.node .nil 138 902 .nil)))) 139 909 (.node (.node (.node (.node (.node .nil 140 916 .nil) 141 923 .nil) 142 928 (.node .nil 143 935 .nil)) 144 942 (.node (.node (.node .nil 145 949 .nil) 146 956 .nil) 148 981 (.node .nil 150 992 .nil))) 151 999 (.node (.node (.node (.node .nil 152 1006 .nil) 153 1011 .nil) 154 1018 (.node .nil 157 1026 .nil)) 158 1033 (.node (.node (.node .nil 159 1040 .nil) 161 1057 .nil) 162 1068 (.node .nil 163 1075 .nil))))) 164 1082 (.node (.node (.node (.node (.node (.node .nil 165 1089 .nil) 166 1094 .nil) 167 1101 (.node (.node .nil 168 1108 .nil) 169 1115 .nil)) 170 1122 (.node (.node (.node .nil 171 1129 .nil) 173 1136 .nil) 174 1143 (.node .nil 175 1151 .nil))) 176 1158 (.node (.node (.node (.node .nil 177 1165 .nil) 178 1170 .nil) 179 1180 (.node .nil 180 1187 .nil)) 181 1192 (.node (.node (.node .nil 182 1199 .nil) 183 1206 .nil) 184 1213 (.node .nil 3000 37 .nil)))) 3001 44 (.node (.node (.node (.node (.node .nil 11000 115 .nil) 11001 122 .nil) 12000 143 (.node .nil 12001 150 .nil)) 12002 157 (.node (.node (.node .nil 12003 164 .nil) 12004 169 .nil) 13000 190 (.node .nil 13001 195 .nil))) 53000 420 (.node (.node (.node (.node .nil 53001 427 .nil) 53002 434 .nil) 53003 441 (.node .nil 72000 539 .nil)) 72001 546 (.node (.node (.node .nil 72002 553 .nil) 149000 971 .nil) 149001 978 (.node .nil 162000 1054 .nil)))))))
noncomputable def sN(i:Nat):Nat:=dq (Uu.get i) 0 λk=>k
noncomputable def j6{α:Type}(f:Nat->α->Bool)(t:BT α):Bool:=BT.rec true (λY k v Y a b=>gd a (gd (f k v) b)) t
noncomputable def pH(t:String)(v:Value):Bool:=match v with
 |.type s=>decide (s=t)
 |_=>false
noncomputable def nL(a:Addr)(v:Value):Bool:=match v with
 |.ref b=>U9 b a
 |_=>false
noncomputable def FM(v:Value):Option Addr:=match v with
 |.ref b=>some b
 |_=>none
noncomputable def yZ(v:Value):Option Str:=match v with
 |.str s _=>some s
 |_=>none
noncomputable def RB(o:Obj):Option FuncData:=match o.data with
 |.func f=>some f
 |_=>none
noncomputable def Se(o:Obj):Option (Array Value):=match o.data with
 |.fields vs=>some vs
 |_=>none
noncomputable def TS(o:Obj):Option (Array Value):=match o.data with
 |.seq vs _=>some vs
 |_=>none
noncomputable def TU(o:Obj):Option ClassData:=match o.data with
 |.cls c=>some c
 |_=>none
noncomputable def JV(k:Nat):Str:=⟨(Nat.rec (motive:=λY=>Nat->List Nat->List Nat) (λY acc=>acc) (λY ih k acc=>Bool.rec (ih (We k 256) (Ww k 256::acc)) acc (Vk k 1)) 60 k []).toArray⟩
noncomputable def FN(k:Nat):Bool:=U9 (cd (JV k)) k
noncomputable def vn:Str:=U8 ".<locals>."
noncomputable def BS:Str:=U8 "<lambda>"
section
variable(h:Addr->Option Obj)
noncomputable def BU(v:Value)(q:Str):Bool:=cR (FM v) λc=>cR (h c) λo=>cR (Se o) λvs=>cR (dp vs[1]? yZ) λq'=>decide (q'=q)
noncomputable def BV(v:Value):Option (List Value):=dp (FM v) λt=>dp (h t) λo=>dp (TS o) λxs=>gO (pH "tuple" o.cls) (some xs.toList)
noncomputable def Uv(v:Value):Option (List UInt8):=match v with
 |.bytes b _=>some b.toList
 |_=>none
noncomputable def RC(v:Value):Option Int:=match v with
 |.int n _=>some n
 |_=>none
noncomputable def IA(v:Value):Bool:=match v with
 |.none=>true
 |_=>false
noncomputable def JW(v:Value):Option Bool:=match v with
 |.bool b=>some b
 |_=>none
noncomputable def Sf(v:V):Option Nat:=match v with
 |.fn a=>some a
 |_=>none
noncomputable def BW(ad:Nat->Nat)(n:Nat):V->Value->Bool:=Nat.rec (λY Y=>false) (λY ih a v=>
 dj (gd (ei a) (IA v)) (dj (cR (iq a) λb=>cR (JW v) λc=>b==c)
 (dj (cR (dp (dE a) fp) λn=>cR (RC v) λm=>decide (m=n))
 (dj (cR (fj a) λk=>cR (yZ v) λs=>gd (U9 (cd s) k) (gd (!(U9 k 0)) (Vk s.length 1000)))
 (dj (cR (eg a) λl=>cR (BV h v) λvs=>fm ih l vs)
 (dj (cR (sD (Sf a) (Bq a)) λi=>nL (ad i) v)
 (cR (dk a) λl=>cR (Uv v) λbs=>fm (λa (b:UInt8)=>cR (fp a) λn=>decide ((b.toNat:Int)=n)) l bs))))))) n
end
noncomputable def y5(s:Stmt):Option (Arguments×List Stmt×Scope):=match s with
 |.FunctionDef _ a b _ _ _ sc _ _ _=>some (a,b,sc)
 |_=>none
noncomputable def IB(b:FuncBody):Option (List Stmt):=match b with
 |.stmts b=>some b
 |_=>none
abbrev jQ:=Nat×List V
section
variable(h:Addr->Option Obj)(ad:Nat->Nat)(lc:Addr)(lq:Str)
noncomputable def IC(l:List V)(v:Value):Bool:=db (dT l) (IA v) (BW h ad 5 (.tup l) v)
noncomputable def Sg(f:FuncData):Bool:=cR (IB f.body) λb=>dj (!(vm b)) (gd (decide ((f.qualname++vn)++BS=lq)) (nL lc f.code))
noncomputable def Sh(d:List V)(o:Obj)(f:FuncData):Bool:=gd (pH "function" o.cls) (gd (IC h ad d f.defaults) (gd (BU h f.code f.qualname) (gd (U9 f.globals mainGlobals) (gd f.closure.isEmpty (gd (U9 f.builtins 0) (Sg lc lq f))))))
noncomputable def vp(x:jQ):Option (Bool×Arguments×FuncBody×Scope):=dp (h (ad x.1)) λo=>dp (RB o) λf=>some (Sh h ad lc lq x.2 o f,f.params,f.body,f.scope)
end
noncomputable def BX(x:jQ):Option (Bool×Arguments×FuncBody×Scope):=dp (y5 (gN x.1)) λp=>some (true,p.1,.stmts p.2.1,p.2.2)
noncomputable def m9(sc:Scope)(n:Str):Bool:=match sc.names.lookup n with
 |some .free=>false
 |_=>true
noncomputable def ID(l:List Str):Bool:=List.rec true (λx r ih=>gd (!(r.contains x)) ih) l
noncomputable def BY(a:Arguments):Bool:=gd a.posonlyargs.isEmpty (gd a.vararg.isNone (gd a.kwonlyargs.isEmpty (gd a.kw_defaults.isEmpty a.kwarg.isNone)))
noncomputable def Uw(sc:Scope):Bool:=gd (xy sc.kind) (gd (!sc.isCoroutine) (gd (!sc.isGenerator) (gd (m9 sc "__class__") (gd (sc.names.lookup ("__debug__":Str)).isNone (m9 sc "__classdict__")))))
noncomputable def Nq(x:jQ):Bool:=cR (y5 (gN x.1)) λp=>gd (BY p.1) (gd (ID (p.1.args.map (·.arg))) (gd (Vk x.2.length p.1.args.length) (Uw p.2.2)))
noncomputable def Si(v:V):Option Nat:=match v with
 |.bi b=>some b
 |_=>none
noncomputable def JX(t:String)(v:Value):Bool:=match v with
 |.builtin s=>decide (s=t)
 |_=>false
noncomputable def Sj(v:Value):Option String:=match v with
 |.type s=>some s
 |_=>none
noncomputable def Sk(v:Value):Option String:=match v with
 |.builtin s=>some s
 |_=>none
noncomputable def BZ(v w:Value):Bool:=dj (cR (Sj w) λs=>pH s v) (cR (Sk w) λs=>JX s v)
section
variable(h:Heap)(ad:Nat->Nat)
noncomputable def Ux(o:Obj):Option (Array DictEntry):=match o.data with
 |.dict es _=>some es
 |_=>none
noncomputable def B0(k:Nat)(l:List DictEntry):Option Value:=List.rec none (λe Y ih=>dq (yZ e.key) ih λs=>db (U9 (cd s) k) (some e.val) ih) l
noncomputable def JY(a:Addr)(k:Nat):Option Value:=dp (h.get? a) λo=>dp (Ux o) λes=>B0 k es.toList
noncomputable def Nr(k:Nat)(a:V):Bool:=dq (Si a) (cR (JY h mainGlobals k) λv=>BW h.get? ad 6 a v) λb=>gd (JY h mainGlobals k).isNone (cR (JY h 0 k) λv=>BZ v (jG b))
noncomputable def tG:Bool:=gd (h.isNs mainGlobals) (gd (h.isNs 0) (j6 (Nr h ad) GT))
noncomputable def Uy(id:String)(l:List (Option Value)):Bool:=gd (U9 l.length 6) (cR (dp (fC l 4) λo=>o) λv=>JX id v)
noncomputable def Nt(a:Addr)(id:String):Option ClassData:=dp (h.get? a) λo=>dp (TU o) λc=>gO (pH "type" o.cls) (gO (cR (nv c.mro) λp=>nL a p.1) (gO (!c.hasDel) (gO c.hasDict (gO (Uy id o.slots.toList) (some c)))))
noncomputable def JZ(a:Addr):Bool:=cR (h.get? a) λo=>gd (pH "function" o.cls) (RB o).isSome
noncomputable def B1(x:Str):Bool:=match fastLookup "object" x with
 |some none=>true
 |_=>false
noncomputable def Uz(m:Str->Option Value):Bool:=gd (m "__setattr__").isNone (gd (m "__getattribute__").isNone (m "__getattr__").isNone)
noncomputable def B2(l:List String)(vs:List Value):Bool:=fm pH l vs
noncomputable def tC(ci:Nat)(inf:gb):Bool:=cR (Nt h (ad ci) "object.__new__") λc=>gd (B2 ["object"] c.mro.tail) (gd (!c.abstract) (gd (h.isNs c.ns) (gd (Uz (h.nsMap c.ns)) (gd (cR (h.nsMap c.ns "__init__") (nL (ad inf.init))) (gd (JZ h (ad inf.init))
 (gd (dF inf.atts λk=>(JY h c.ns k).isNone) (dF inf.meths λp=>gd (cR (JY h c.ns p.1) (nL (ad p.2))) (JZ h (ad p.2)))))))))
noncomputable def tO(inf:gb):Bool:=gd (dF inf.atts λk=>gd (FN k) (B1 (JV k))) (dF inf.meths λp=>gd (FN p.1) (fastLookup "object" (JV p.1)).isSome)
end
section
variable(h:Heap)(ad:Nat->Nat)
noncomputable def iC(rs:List Addr)(ts:List String)(vs:List Value):Bool:=gd (fm nL rs (vs.take rs.length)) (B2 ts (vs.drop rs.length))
noncomputable def MD:List String:=["Exception","BaseException","object"]
noncomputable def B3(m:Str->Option Value):Bool:=gd (m (U8 "__setattr__")).isNone (gd (m (U8 "what")).isNone (gd (m (U8 "at")).isNone (gd (m (U8 "__getattribute__")).isNone (m (U8 "__getattr__")).isNone)))
noncomputable def tL:Bool:=cR (Nt h (ad 2) "Exception.__new__") λc=>gd (iC [] MD c.mro.tail) (gd (h.isNs c.ns) (gd (cR (h.nsMap c.ns (U8 "__init__")) (nL (ad 3000))) (B3 (h.nsMap c.ns))))
noncomputable def tX(i:Nat)(inf:gb):Bool:=cR (Nt h (ad i) "Exception.__new__") λc=>gd (dj (!(U9 inf.init 0)) (gd (iC [ad 2] MD c.mro.tail) (gd (h.isNs c.ns) (gd (h.nsMap c.ns (U8 "__init__")).isNone (B3 (h.nsMap c.ns))))))
 (gd (dj (iC [] MD c.mro.tail) (iC [ad 2] MD c.mro.tail)) (dF inf.atts λk=>dj (U9 k j4) (U9 k nA)))
noncomputable def tS(d c:Nat)(di:gb):Bool:=dj (!(U9 di.init 0)) (nF (ad c) [ad d,ad 2]==nF c di.mro)
noncomputable def Nu(lc P:Addr):Bool:=cR (h.get? lc) λo=>cR (Se o) λvs=>gd (pH "code" o.cls) (gd (cR vs[11]? (nL P)) (gd (yZ (vs.getD 18 .none)).isSome (gd (RC (vs.getD 7 .none)).isSome (gd (JW (vs.getD 9 .none)).isSome (gd (RC (vs.getD 10 .none)).isSome (!(U9 lc P)))))))
noncomputable def FO(o:Obj):Bool:=match o.data with
 |.plain=>true
 |_=>false
noncomputable def TV(P:Addr):Bool:=cR (dp (h.nsMap mainGlobals "__builtins__") FM) λb=>gd (!(U9 b builtinsNs)) (gd (!(U9 b mainGlobals)) (gd (!(U9 b P)) (cR (h.get? b) λo=>gd (pH "module" o.cls) (gd (cR o.dict λd=>U9 d builtinsNs) (FO o)))))
noncomputable def Nv:Bool:=gd (h.isNs cStatics) (h.nsMap cStatics "sys.recursionlimit").isNone
noncomputable def tE:Bool:=gd (tL h ad) (gd (j6 (λi inf=>dj (!inf.exc) (gd (tX h ad i inf) (j6 (λc ci=>dj (!ci.exc) (tS ad i c inf)) CT))) CT)
 (gd (h.nsMap mainGlobals (U8 "Exception")).isNone (cR (h.nsMap 0 (U8 "Exception")) (pH "Exception"))))
end
noncomputable def ME:V:=.tup [.int (.c 0),.int (.c 0)]
noncomputable def sO:List jQ:=BT.rec [] (λY k v Y a b=>a++(k,v)::b) FD
noncomputable def vq:Str:=U8 "worth_in.<locals>.<lambda>"
noncomputable def FQ(h:Heap)(ad:Nat->Nat)(lc P:Addr):Bool:=gd (tG h ad) (gd (j6 (λci inf=>dj inf.exc (tC h ad ci inf)) CT) (gd (tE h ad) (gd (Nu h lc P) (gd (TV h P) (Nv h)))))
noncomputable def Sl(h:Addr->Option Obj)(ad:Nat->Nat)(lc:Addr)(lq:Str):List (Option (Bool×Arguments×FuncBody×Scope)):=List.rec [] (λx Y ih=>vp h ad lc lq x::ih) sO
noncomputable def Sm:List (Option (Bool×Arguments×FuncBody×Scope)):=List.rec [] (λx Y ih=>BX x::ih) sO
abbrev y6:=Option (Bool×Arguments×FuncBody×Scope)
section
variable{β:Type}
noncomputable def UA(a:Arguments)(K:Arguments->β):β:=match a with
 |⟨a1,a2,a3,a4,a5,a6,a7⟩=>K ⟨a1,a2,a3,a4,a5,a6,a7⟩
noncomputable def UB(a:Scope)(K:Scope->β):β:=match a with
 |⟨a1,a2,a3,a4,a5⟩=>K ⟨a1,a2,a3,a4,a5⟩
noncomputable def Sn(a:FuncBody)(K:FuncBody->β):β:=match a with
 |.stmts l=>K (.stmts l)
 |.expr e=>K (.expr e)
noncomputable def TW(o:y6)(K:y6->β):β:=match o with
 |none=>K none
 |some p=>UA p.2.1 λa=>UB p.2.2.2 λs=>Sn p.2.2.1 λf=>Bool.rec (K (some (false,a,f,s))) (K (some (true,a,f,s))) p.1
end
noncomputable def RD(f:jQ->y6)(l:List jQ):(List y6->List y6)->List y6:=List.rec (λK=>K []) (λx Y ih K=>TW (f x) λy=>ih λr=>K (y::r)) l
noncomputable def So(h:Addr->Option Obj)(ad:Nat->Nat)(lc:Addr)(lq:Str):List y6:=RD (vp h ad lc lq) sO λr=>r
noncomputable def Sp:List y6:=RD BX sO λr=>r
noncomputable def y8(b:Bool):Bool:=Bool.rec false true b
noncomputable def FS:Nat:=1412581125833631304002090
noncomputable def J0(f:Nat):List Obj->List (List Obj):=Nat.rec (λY=>[]) (λY ih l=>l.take 32::ih (l.drop 32)) f
noncomputable def UC(x:Option Obj):Option Obj:=match x with
 |some ⟨_,_,.freed,_⟩=>none
 |o=>o
noncomputable def xD(h:Heap)(a:Addr):Option Obj:=UC (dp (fC (J0 h.objs.size h.objs.toList) (We a 32)) λl=>fC l (Ww a 32))
noncomputable def Sr(h:Heap):Bool:=gd (h.get? sysModules).isSome (cR (h.nsMap mainGlobals (U8 "law")) (nL (sN 184)))
noncomputable def Yf(s:Shared):Bool×List (Option (Bool×Arguments×FuncBody×Scope))×Option Obj×Bool:=(y8 (FQ s.heap sN 1114 1110),So (xD s.heap) sN 1114 vq,s.heap.get? 1110,y8 (Sr s.heap))
noncomputable def Ya(_:World):Bool×List (Option (Bool×Arguments×FuncBody×Scope))×Option Obj×Bool:=(true,Sp,some (tabObj #[]),true)
abbrev PG:Program:=PySem.Challenge.pw_pq0653_01
abbrev RG:OpenLaw:=PySem.Challenge.rw_pq0653_01
noncomputable def B4(MC:SharedT->Thread->Option (SharedT×Thread))(ok:Thread->Bool):Nat->SharedT->Thread->Option SharedT
 |0,_,_=>none
 |n+1,s,t=>match through t with
  |true=>some s
  |false=>match ok t with
   |false=>none
   |true=>match MC s t with
    |some (s',t')=>B4 MC ok n s' t'
    |none=>none
theorem qi{p:Program}{w:World}{bA:Nat}{ann:Option Value}:∀{n:Nat} {s s':SharedT} {t:Thread},
  B4 (stepT (denote treeTable) p w) (stepOk bA ann) n s t=some s'->topRun treeTable p w bA ann n s.abs t=some s'.abs
 |0,_,_,_,h=>by cases h
 |n+1,s,s',t,h=>by
  unfold B4 at h
  unfold topRun
  cases ht:through t with
  |true=>rw[ht] at h;cases h;rfl
  |false=>
   rw[ht] at h
   cases hk:stepOk bA ann t with
   |false=>rw[hk] at h;cases h
   |true=>
    rw[hk] at h
    cases hs:stepT (denote treeTable) p w s t with
    |none=>rw[hs] at h;cases h
    |some r=>obtain⟨aj,bj⟩:=r;rw[hs] at h;rw[stepT_spec hs];exact qi h
noncomputable def B5:List Obj->Nat->PySem.W.BT->PySem.W.BT
 |[],_,t=>t
 |o::r,i,t=>B5 r (i+1) (t.ins i o)
noncomputable def S0(w:World)(os:OsState):SharedT:=⟨B5 (boot_heap w.params).objs.toList 0 .nil,11,(boot_heap w.params).life,#[],boot_drawn,boot_toks,os⟩
theorem J1(w:World)(os:OsState):(S0 w os).abs=⟨boot_heap w.params,Array.mk [],boot_drawn,boot_toks,os⟩:=by kernel_rfl
noncomputable def qG:Program:={PG with main:={PG.main with body:=PG.main.body.drop 184}}
noncomputable def loose:List Str:=((PG.main.body.take 184).flatMap bindsAtTop).filter λn=>!(n==("__name__":Str))
noncomputable def Xt(s:Shared):Bool:=xlAt qG [] s&&recOk (RowW.records RG.row.toRowW) s
theorem B6:@stepT=PySem.W.Fast.tw10156331382660048174:=PySem.W.Fast.te10156331382660048174
theorem J2:denote=PySem.W.Fast.tw11892475500146522536:=PySem.W.Fast.te11892475500146522536
theorem J3:treeTable=PySem.W.Fast.tw14364793385576792824:=PySem.W.Fast.te14364793385576792824
theorem Nw:stepOk=PySem.W.Fast.tw6613529449190102663:=PySem.W.Fast.te6613529449190102663
theorem FU:@openSeen=PySem.W.Fast.tw4187177175401517315:=PySem.W.Fast.te4187177175401517315
noncomputable def J4(w:World)(os:OsState):Option SharedT:=
 B4 (PySem.W.Fast.tw10156331382660048174 (PySem.W.Fast.tw11892475500146522536 PySem.W.Fast.tw14364793385576792824) PG w) (PySem.W.Fast.tw6613529449190102663 11 (some (.ref 6))) 8000 (S0 w os) (topStub PG)
noncomputable def Ny(w:World)(S:SharedT):Bool:=
 staticsOk (importedModules PG.main.body) (boot_heap w.params) S.abs.heap&&namesBound PG S.abs.heap&&gensDone S.abs&&laidKept (boot_heap w.params) S.abs.heap
theorem eF{a b:Bool}(h:a=true)(k:b=true):(a&&b)=true:=by
 rw[h,k];rfl
theorem w1:PySem.W.Fast.tw17960256430627541270 (PySem.W.Fast.tw2368527892694137696 RG)=true:=by kernel_rfl
theorem UD:PySem.W.Fast.tw17119622794617984870 RG.prog RG.above (λY n=>!PySem.W.Fast.tw3471404346716756564 (PySem.W.Fast.tw10792542408131684335 RG) n)=true:=by kernel_rfl
theorem B7:RG.wellSaid=true:=by
 have h:PySem.W.Fast.tw9446332074065402090 RG=true:=by
  refine(eF (eF (eF (eF (eF (eF (eF (eF (eF (eF (eF (eF (eF (eF (eF (eF (eF (eF w1 ?_) ?_) ?_) ?_) ?_) ?_) ?_) ?_) ?_) ?_) ?_) ?_) ?_) ?_) ?_) ?_) UD) ?_)
  all_goals kernel_rfl
 exact(congrFun PySem.W.Fast.te9446332074065402090 RG).trans h
theorem Ss:∀(w:World) (os:OsState),(J4 w os).map (λS=>Yf S.abs)=some (Ya w):=by
 intro w os
 kernel_rfl
theorem Su:∀(w:World) (os:OsState),(J4 w os).map (λS=>(Ny w S,PySem.W.Fast.tw4187177175401517315 qG loose (importedModules PG.main.body) Xt true S.abs))=some (true,openGood qG loose):=by
 intro w os
 kernel_rfl
theorem FV{w:World}{os:OsState}{S:SharedT}(h:J4 w os=some S):topRun treeTable PG w 11 (some (.ref 6)) 8000 ⟨boot_heap w.params,Array.mk [],boot_drawn,boot_toks,os⟩ (topStub PG)=some S.abs:=by
 have:B4 (stepT (denote treeTable) PG w) (stepOk 11 (some (.ref 6))) 8000 (S0 w os) (topStub PG)=some S:=by
  rw[B6,J2,J3,Nw];exact h
 have:=qi this
 rw[J1] at this
 exact this
theorem y9(w:World):∃os,fencedOpening treeTable PG w 8000=some ⟨boot_heap w.params,Array.mk [],boot_drawn,boot_toks,os⟩:=by
 have h:=boot_open (p:=PG) (N:=8000) (by kernel_rfl) (by decide) (λs=>by kernel_rfl) w
 refine e12 (Option.map_eq_some_iff.mp h) λs hs hv=>?_
 obtain⟨hp,g,d,t,os⟩:=s
 simp only[Prod.mk.injEq] at hv
 refine e04 hv λzq1 zq2 zq3 zq4=>?_;clear hv
 cases zq1
 cases zq2
 cases zq3
 cases zq4
 exact⟨os,hs⟩
noncomputable def B8:Option Value->Bool
 |some (.ref a)=>U9 a 6
 |_=>false
theorem FW{x:Option Value}(h:B8 x=true):x=some (.ref 6):=by
 unfold B8 at h
 split at h
 .rw[WS h]
 .cases h
theorem FX{p:Program}{w:World}{N n:Nat}{ann:Option Value}{s₀ S:Shared}(h0:fencedOpening treeTable p w N=some s₀)(h1:(s₀.heap.isNs mainGlobals&&s₀.gens.size==0)=true)
  (e2:s₀.heap.objs.size=n) (e3:s₀.heap.nsMap mainGlobals "__annotations__"=ann) (h2:topRun treeTable p w n ann N s₀ (topStub p)=some S)
  (h3:(staticsOk (importedModules p.main.body) s₀.heap S.heap&&namesBound p S.heap&&gensDone S&&laidKept s₀.heap S.heap)=true):openEnds treeTable p w N=some S:=by
 subst e2 e3
 unfold openEnds
 rw[h0,W9]
 unfold topFrom
 rw[h1]
 dsimp only
 rw[h2,W9]
 rw[h3]
noncomputable def Nz(w:World)(os:OsState):Shared:=⟨boot_heap w.params,Array.mk [],boot_drawn,boot_toks,os⟩
theorem FY(w:World)(os:OsState):((Nz w os).heap.isNs mainGlobals&&(Nz w os).gens.size==0)=true:=by kernel_rfl
theorem FZ(w:World)(os:OsState):(Nz w os).heap.objs.size=11:=by kernel_rfl
theorem B9(w:World)(os:OsState):(Nz w os).heap.nsMap mainGlobals "__annotations__"=some (.ref 6):=FW (by kernel_rfl)
theorem jf:LeftO PG qG loose Xt Yf Ya 8000:=λw=>by
 refine e11 (y9 w) λos ho=>?_
 refine e12 (Option.map_eq_some_iff.mp (Su w os)) λS hS he=>?_
 have he1:=congrArg Wy he
 have he2:=congrArg Prod.snd he
 have he3:Yf S.abs=Ya w:=by
  have q:=Ss w os
  rw[hS] at q
  exact U7 q
 have key:openEnds treeTable PG w 8000=some S.abs:=FX (s₀:=Nz w os) ho (FY w os) (FZ w os) (B9 w os) (FV hS) he1
 rw[key,FU,Option.map_some]
 exact congrArg some (Prod.ext he2 he3)
theorem Ca:RG.row.toRowW.promised:=by w_witness2
theorem NA:(chainsOk qG&&opensWell PG&&(frees RG.row.toRowW&&RG.row.toRowW.within.isEmpty))=true:=by kernel_rfl
noncomputable def q7:DefRec:=match PG.main.body.drop 184 with
 |.FunctionDef n a b _ _ _ sc _ _ pos::_=>⟨n,a,b,sc,pos⟩
 |_=>⟨"",default,[],default,default⟩
theorem J5:defOf qG RG.row.toRowW.name=some (q7,[]):=by kernel_rfl
theorem J6:PG.theDef RG.row.toRowW.name=some (q7.params,q7.body,q7.scope):=by kernel_rfl
theorem ej{a b:Nat}(h:U9 a b=false):a≠b:=λe=>by subst e;simp at h
theorem dg{a b:Nat}(h:a≠b):U9 a b=false:=by
 cases e:U9 a b with
 |false=>rfl
 |true=>exact absurd (WS e) h
theorem cX{a b:Nat}(h:U9 a b=true):a=b:=WS h
theorem xE{α:Type}{p q:Prop}[Decidable p][Decidable q](h:p↔q){a b:α}:(if p then a else b)=if q then a else b:=by
 by_cases hp:p
 .rw[if_pos hp,if_pos (h.mp hp)]
 .rw[if_neg hp,if_neg λx=>hp (h.mpr x)]
inductive St:Nat->Option (Bool×Nat)->Prop
 |z:St 0 none
 |o (k:Nat):St (2 * k+1) (some (true,k))
 |e (k:Nat):St (2 * k+2) (some (false,k))
theorem xF(i:Nat):∃x,St i x:=by
 have h:=Nat.div_add_mod i 2
 rcases Nat.mod_two_eq_zero_or_one i with e|e
 .rw[e] at h
  cases hk:i / 2 with
  |zero=>rw[hk] at h;subst h;exact⟨_,St.z⟩
  |succ k=>rw[hk] at h;subst h;exact⟨_,St.e k⟩
 .rw[e] at h;exact⟨some (true,i / 2),by have:=St.o (i / 2);rwa [h] at this⟩
theorem J7(k:Nat):We (2 * k+1) 2=k/\U9 (Ww (2 * k+1) 2) 1=true:=by
 have h1:(2 * k+1) / 2=k:=by rw[V0,Nat.add_mul_div_left 1 k (WQ)];exact VC k
 have h2:(2 * k+1) % 2=1:=by rw[V0];exact Nat.add_mul_mod_self_left 1 2 k
 exact⟨h1,by show U9 ((2 * k+1) % 2) 1=true;rw[h2];rfl⟩
theorem J8(k:Nat):Xf (We (2 * k+2) 2) 1=k/\U9 (Ww (2 * k+2) 2) 1=false:=by
 have h1:(2 * k+2) / 2=k+1:=by rw[V0,Nat.add_mul_div_left 2 k (WQ)];exact V0 1 k
 have h2:(2 * k+2) % 2=0:=by rw[V0,Nat.add_mul_mod_self_left 2 2 k]
 exact⟨by show(2 * k+2) / 2 - 1=k;rw[h1];rfl,by show U9 ((2 * k+2) % 2) 1=false;rw[h2];rfl⟩
noncomputable def Cb{α:Type}(x:Option (Bool×Nat))(a:α)(l r:Nat->α):α:=match x with
 |none=>a
 |some (true,k)=>l k
 |some (false,k)=>r k
theorem sP{α:Type}{i:Nat}{x:Option (Bool×Nat)}(s:St i x)(a:α)(l r:Nat->α):(Bool.rec (Bool.rec (r (Xf (We i 2) 1)) (l (We i 2)) (U9 (Ww i 2) 1)) a (U9 i 0):α)=Cb x a l r:=by
 cases s with
 |z=>rfl
 |o k=>obtain⟨h1,h2⟩:=J7 k;rw[h2,h1];rfl
 |e k=>obtain⟨h1,h2⟩:=J8 k;rw[h2,h1];rfl
theorem xG{i k f:Nat}{b:Bool}(s:St i (some (b,k)))(h:i<f+1):k<f:=by
 have hk:k<i:=by
  cases s with
  |o=>exact WC (Nat.le_mul_of_pos_left k WQ)
  |e=>exact WC (Nat.le_succ_of_le (Nat.le_mul_of_pos_left k WQ))
 exact Vf hk (VZ h)
theorem Cc{i j:Nat}{x y:Option (Bool×Nat)}(s:St i x)(t:St j y):x=y↔i=j:=by
 constructor
 .rintro rfl
  cases s<;>cases t<;>rfl
 .rintro rfl
  have e:=(sP s (none:Option (Bool×Nat)) (λk=>some (true,k)) λk=>some (false,k)).symm.trans (sP t (none:Option (Bool×Nat)) (λk=>some (true,k)) λk=>some (false,k))
  have id_:∀x:Option (Bool×Nat),Cb x none (λk=>some (true,k)) (λk=>some (false,k))=x:=λx=>by
   match x with
   |none=>rfl
   |some (true,_)=>rfl
   |some (false,_)=>rfl
  rw[id_,id_] at e;exact e
theorem xH{x y:Option (Bool×Nat)}{o:Option O}{a:Option O}{l r:Nat->Option O}:Cb y (Cb x o (λY=>a) λY=>a) (λj=>Cb x (l j) (λk=>if k=j then o else l j) λY=>l j) (λj=>Cb x (r j) (λY=>r j) λk=>if k=j then o else r j)=if x=y then o else Cb y a l r:=by
 match x,y with
 |none,none=>rw[if_pos rfl];rfl
 |none,some (true,_)=>rw[if_neg (λe=>by cases e)];rfl
 |none,some (false,_)=>rw[if_neg (λe=>by cases e)];rfl
 |some (true,_),none=>rw[if_neg (λe=>by cases e)];rfl
 |some (false,_),none=>rw[if_neg (λe=>by cases e)];rfl
 |some (true,_),some (false,_)=>rw[if_neg (λe=>by cases e)];rfl
 |some (false,_),some (true,_)=>rw[if_neg (λe=>by cases e)];rfl
 |some (true,k),some (true,j)=>
  by_cases q:k=j
  .rw[if_pos (congrArg (λk=>some (true,k)) q)];exact if_pos q
  .rw[if_neg (λe=>q (by cases e;rfl))];exact if_neg q
 |some (false,k),some (false,j)=>
  by_cases q:k=j
  .rw[if_pos (congrArg (λk=>some (false,k)) q)];exact if_pos q
  .rw[if_neg (λe=>q (by cases e;rfl))];exact if_neg q
theorem TR.get_n{v:Option O}{l r:TR}{i:Nat}{x:Option (Bool×Nat)}(s:St i x):TR.get (.n v l r) i=Cb x v l.get r.get:=sP s v l.get r.get
theorem TR.getE(o:O):∀(f i j:Nat),i<f->(TR.setE o f i).get j=if i=j then some o else none
 |0,_,_,h=>absurd h (Vq _)
 |f+1,i,j,h=>by
  refine e11 (xF i) λx sx=>?_
  refine e11 (xF j) λy sy=>?_
  have e:TR.setE o (f+1) i=Cb x (.n (some o) .e .e) (λk=>.n none (TR.setE o f k) .e) λk=>.n none .e (TR.setE o f k):=sP (α:=TR) sx (.n (some o) .e .e) (λk=>.n none (TR.setE o f k) .e) λk=>.n none .e (TR.setE o f k)
  have z:=xH (x:=x) (y:=y) (o:=some o) (a:=none) (l:=λY=>none) (r:=λY=>none)
  have n0:Cb y (none:Option O) (λY=>none) (λY=>none)=none:=by
   match y with
   |none=>rfl
   |some (true,_)=>rfl
   |some (false,_)=>rfl
  rw[n0] at z
  rw[e,<-xE (Cc sx sy),<-z]
  match x,sx with
  |none,_=>exact TR.get_n sy
  |some (true,k),sx=>exact(TR.get_n sy).trans (by rw[show(TR.setE o f k).get=λj=>if k=j then some o else none from funext λj=>TR.getE o f k j (xG sx h)];rfl)
  |some (false,k),sx=>exact(TR.get_n sy).trans (by rw[show(TR.setE o f k).get=λj=>if k=j then some o else none from funext λj=>TR.getE o f k j (xG sx h)];rfl)
theorem TR.get_set(o:O):∀(f:Nat) (t:TR) (i j:Nat),i<f->(TR.set o f t i).get j=if i=j then some o else t.get j
 |f,.e,i,j,h=>TR.getE o f i j h
 |f,.n v l r,i,j,h=>by
  refine e11 (xF i) λx sx=>?_
  refine e11 (xF j) λy sy=>?_
  have e:TR.set o f (.n v l r) i=Cb x (.n (some o) l r) (λk=>.n v (TR.set o f l k) r) λk=>.n v l (TR.set o f r k):=sP (α:=TR) sx (.n (some o) l r) (λk=>.n v (TR.set o f l k) r) λk=>.n v l (TR.set o f r k)
  rw[e,TR.get_n sy,<-xE (Cc sx sy),<-xH (x:=x) (y:=y)]
  match x,sx with
  |none,_=>exact TR.get_n sy
  |some (true,k),sx=>exact(TR.get_n sy).trans (by rw[show(TR.set o f l k).get=λj=>if k=j then some o else l.get j from funext λj=>TR.get_set o f l k j (xG sx (VN h))];rfl)
  |some (false,k),sx=>exact(TR.get_n sy).trans (by rw[show(TR.set o f r k).get=λj=>if k=j then some o else r.get j from funext λj=>TR.get_set o f r k j (xG sx (VN h))];rfl)
theorem aget_cons(d:Option O)(i j:Nat)(o:O)(l:List (Nat×O)):pF d i ((j,o)::l)=if j=i then some o else pF d i l:=by
 refine(?_:(Bool.rec (pF d i l) (some o) (U9 j i):Option O)=_)
 by_cases h:j=i
 .subst h;rw[show U9 j j=true from VD j];simp
 .rw[dg h];simp[h]
theorem flush_get(t:TR)(j:Nat):∀l:List (Nat×O),(A0 t l).get j=pF (t.get j) j l
 |[]=>rfl
 |(i,o)::l=>by
  rw[aget_cons,<-flush_get t j l]
  exact TR.get_set o _ _ i j (VH _)
theorem H.get_mk(a:List (Nat×O))(k:Nat)(t:TR)(n i:Nat):H.get ⟨a,k,t,n⟩ i=pF (t.get i) i a:=rfl
theorem lE(i j:Nat)(o:O)(a:List (Nat×O))(k:Nat)(t:TR)(n:Nat):(kj i o a k t n).get j=if i=j then some o else pF (t.get j) j a:=by
 unfold kj
 cases Vk k 12 with
 |true=>show pF (t.get j) j ((i,o)::a)=_;rw[aget_cons]
 |false=>show pF ((A0 t a).get j) j [(i,o)]=_;rw[aget_cons,flush_get];rfl
theorem iD(i:Nat)(o:O)(a:List (Nat×O))(k:Nat)(t:TR)(n:Nat):(kj i o a k t n).length=n:=by
 unfold kj;cases Vk k 12<;>rfl
theorem H.get_set(h:H)(i j:Nat)(o:O):(h.set i o).get j=if i=j then some o else h.get j:=by
 obtain⟨a,k,t,n⟩:=h
 cases a with
 |nil=>exact lE i j o [] k t n
 |cons p r=>
  obtain⟨q,x⟩:=p
  refine(?_:H.get (Bool.rec (kj i o ((q,x)::r) k t n) ⟨(i,o)::r,k,t,n⟩ (U9 q i)) j=_)
  cases h:U9 q i with
  |false=>exact lE i j o _ k t n
  |true=>
   have:=cX h;subst this
   refine(?_:pF (t.get j) j ((q,o)::r)=_)
   rw[aget_cons,H.get_mk,aget_cons]
   by_cases e:q=j<;>simp[e]
theorem H.get_push(h:H)(j:Nat)(o:O):(h.push o).get j=if h.length=j then some o else h.get j:=by
 obtain⟨a,k,t,n⟩:=h
 exact lE n j o a k t (n+1)
@[simp] theorem H.length_set(h:H)(i:Nat)(o:O):(h.set i o).length=h.length:=by
 obtain⟨a,k,t,n⟩:=h
 cases a with
 |nil=>exact iD i o [] k t n
 |cons p r=>
  obtain⟨q,x⟩:=p
  refine(?_:H.length (Bool.rec (kj i o ((q,x)::r) k t n) ⟨(i,o)::r,k,t,n⟩ (U9 q i))=_)
  cases U9 q i with
  |false=>exact iD i o _ k t n
  |true=>rfl
@[simp] theorem H.length_push(h:H)(o:O):(h.push o).length=h.length+1:=by
 obtain⟨a,k,t,n⟩:=h
 exact iD n o a k t (n+1)
theorem F0{α:Type}(x:Nat):eJ ([]:List (Nat×α)) x=none:=rfl
theorem dY{α:Type}(k:Nat)(v:α)(r:List (Nat×α))(x:Nat):eJ ((k,v)::r) x=match U9 k x with|true=>some v|false=>eJ r x:=by
 refine(?_:(Bool.rec (eJ r x) (some v) (U9 k x):Option α)=_)
 cases U9 k x<;>rfl
theorem jg{α:Type}(k:Nat)(w:α)(r:List (Nat×α))(x:Nat)(v:α):ny ((k,w)::r) x v=match U9 k x with|true=>(k,v)::r|false=>(k,w)::ny r x v:=by
 refine(?_:(Bool.rec ((k,w)::ny r x v) ((k,v)::r) (U9 k x):List (Nat×α))=_)
 cases U9 k x<;>rfl
theorem Cd{a a' c c':Nat}(b1:c<256)(b2:c'<256)(e:a * 256+c=a' * 256+c'):a=a'/\c=c':=by
 have:c=c':=by
  have:=congrArg (·% 256) e
  rwa [Nat.mul_add_mod_self_right,Nat.mul_add_mod_self_right,WI b1,WI b2] at this
 subst this
 exact⟨Nat.eq_of_mul_eq_mul_right (by decide) (Nat.add_right_cancel e),rfl⟩
theorem F1:∀(l l':List Nat) (a a':Nat),sC l a≠0->sC l a=sC l' a'->l.length=l'.length->l=l'/\a=a':=by
 intro l
 induction l with
 |nil=>intro l' a a' h e hl;cases l' with|nil=>exact⟨rfl,e⟩|cons=>simp at hl
 |cons c r ih=>
  intro l' a a' h e hl
  cases l' with
  |nil=>simp at hl
  |cons c' r'=>
   unfold sC at h e
   cases hc:V8 c 256 with
   |false=>rw[hc] at h;exact absurd rfl h
   |true=>
    rw[hc] at h e
    cases hc':V8 c' 256 with
    |false=>rw[hc'] at e;exact absurd e h
    |true=>
     rw[hc'] at e
     refine e02 (ih r' _ _ h e (by simpa using hl)) λe1 e2=>?_
     have b1:c<256:=Vi hc
     have b2:c'<256:=Vi hc'
     have e2:a * 256+c=a' * 256+c':=e2
     have:a=a'/\c=c':=Cd b1 b2 e2
     exact⟨by rw[e1,this.2],this.1⟩
theorem vr:∀(l:List Nat) (a:Nat),sC l a≠0->a * 256 ^ l.length≤sC l a/\sC l a<(a+1) * 256 ^ l.length
 |[],a,_=>by simp[sC]
 |c::r,a,h=>by
  unfold sC at h⊢
  cases hc:V8 c 256 with
  |false=>rw[hc] at h;exact absurd rfl h
  |true=>
   rw[hc] at h
   have b1:c<256:=Vi hc
   refine e02 (vr r _ h) λx y=>?_
   simp only[Wm]
   have hx:(a * 256+c) * 256 ^ r.length≤sC r (Nat.add (WX a 256) c):=x
   have hy:sC r (Nat.add (WX a 256) c)<(a * 256+c+1) * 256 ^ r.length:=y
   constructor
   .refine Va ?_ hx
    rw[Nat.pow_succ,Nat.mul_comm (256 ^ r.length),<-Nat.mul_assoc]
    exact Nat.mul_le_mul_right _ (Wd _ _)
   .refine Vf hy ?_
    rw[Nat.pow_succ,Nat.mul_comm (256 ^ r.length),<-Nat.mul_assoc]
    exact Nat.mul_le_mul_right _ (by omega)
theorem F2{l l':List Nat}(h:sC l 1≠0)(e:sC l 1=sC l' 1):l.length=l'.length:=by
 refine e02 (vr l 1 h) λx y=>?_
 refine e02 (vr l' 1 (e▸h)) λx' y'=>?_
 rw[<-e] at x' y'
 have two:∀n:Nat,(1+1) * 256 ^ n≤1 * 256 ^ (n+1):=λn=>by
  rw[Nat.pow_succ,Nat.one_mul,Nat.mul_comm];exact Nat.mul_le_mul_left _ (by decide)
 rcases Nat.lt_trichotomy l.length l'.length with q|q|q
 .have:=Nat.pow_le_pow_right (n:=256) (by decide) q
  have:=two l.length
  omega
 .exact q
 .have:=Nat.pow_le_pow_right (n:=256) (by decide) q
  have:=two l'.length
  omega
theorem en{a b:Str}(h:cd a≠0)(e:cd a=cd b):a=b:=by
 have hl:=F2 h e
 have:=(F1 _ _ _ _ h e hl).1
 obtain⟨⟨x⟩⟩:=a;obtain⟨⟨y⟩⟩:=b
 exact congrArg (λl=>(⟨⟨l⟩⟩:Str)) this
section
def dN(σ:Nat->Int):AI->Int->Prop
 |.c m,n=>n=m
 |.s k lo hi,n=>n=σ k/\lo≤n/\n≤hi
 |.u lo hi,n=>(∀l,lo=some l->l≤n)/\(∀h,hi=some h->n≤h)
 |.st l,n=>n∈l
 |.pb d,n=>0≤n/\n≤σ 999+d/\σ 999≤1000000
variable{σ:Nat->Int}
def Lb(o:Option Int)(n:Int):Prop:=∀l,o=some l->l≤n
def Ub(o:Option Int)(n:Int):Prop:=∀h,o=some h->n≤h
theorem fQ{x n:Int}(h:x≤n):Lb (some x) n:=λY e=>U7 e▸h
theorem iE{x n:Int}(h:n≤x):Ub (some x) n:=λY e=>U7 e▸h
theorem kr(a b:Int):mJ a b≤a:=Int.min_le_left a b
theorem kt(a b:Int):mJ a b≤b:=Int.min_le_right a b
theorem jh(a b:Int):a≤lB a b:=Int.le_max_left a b
theorem ji(a b:Int):b≤lB a b:=Int.le_max_right a b
theorem xI:∀{l:List Int} {n:Int},n∈l->Lb (uP l) n
 |x::r,n,hn,y,h=>by
  have ih:=λq:n∈r=>xI q
  unfold uP at h
  cases hb:uP r with
  |none=>
   rw[hb] at h ih;cases h
   cases hn with
   |head=>exact Wt _
   |tail _ hn=>cases r with
    |nil=>cases hn
    |cons z r=>unfold uP at hb;revert hb;cases uP r<;>exact λq=>nomatch q
  |some z=>
   rw[hb] at h ih;cases h
   cases hn with
   |head=>exact kr _ _
   |tail _ hn=>exact Vl (kt _ _) (ih hn z rfl)
theorem xJ:∀{l:List Int} {n:Int},n∈l->Ub (uQ l) n
 |x::r,n,hn,y,h=>by
  have ih:=λq:n∈r=>xJ q
  unfold uQ at h
  cases hb:uQ r with
  |none=>
   rw[hb] at h ih;cases h
   cases hn with
   |head=>exact Wt _
   |tail _ hn=>cases r with
    |nil=>cases hn
    |cons z r=>unfold uQ at hb;revert hb;cases uQ r<;>exact λq=>nomatch q
  |some z=>
   rw[hb] at h ih;cases h
   cases hn with
   |head=>exact jh _ _
   |tail _ hn=>exact Vl (ih hn z rfl) (ji _ _)
theorem dN.lb{a:AI}{n:Int}(h:dN σ a n):Lb a.lo n:=by
 cases a with
 |c m=>exact fQ (Int.le_of_eq h.symm)
 |s k lo hi=>exact fQ h.2.1
 |u lo hi=>exact h.1
 |st L=>exact xI h
 |pb d=>exact fQ h.1
theorem dN.ub{a:AI}{n:Int}(h:dN σ a n):Ub a.hi n:=by
 cases a with
 |c m=>exact iE (Int.le_of_eq h)
 |s k lo hi=>exact iE h.2.2
 |u lo hi=>exact h.2
 |st L=>exact xJ h
 |pb d=>exact iE (Vl h.2.1 (Int.add_le_add_right h.2.2 _))
theorem dN.lo{a:AI}{n l:Int}(h:dN σ a n)(e:a.lo=some l):l≤n:=h.lb l e
theorem dN.hi{a:AI}{n l:Int}(h:dN σ a n)(e:a.hi=some l):n≤l:=h.ub l e
theorem dN.cst{a:AI}{n x:Int}(h:dN σ a n)(e:a.cst=some x):n=x:=by
 cases a with
 |c m=>cases e;exact h
 |_=>cases e
theorem gv{lo hi:Option Int}{n:Int}(h1:Lb lo n)(h2:Ub hi n):dN σ (A2 lo hi) n:=by
 cases lo with
 |none=>exact⟨h1,h2⟩
 |some a=>
  cases hi with
  |none=>exact⟨h1,h2⟩
  |some b=>
   refine(?_:dN σ (if a=b then .c a else .u (some a) (some b)) n)
   by_cases e:a=b
   .rw[if_pos e];exact WR (e▸h2 b rfl) (h1 a rfl)
   .rw[if_neg e];exact⟨h1,h2⟩
theorem qj{f:Int->Int->Int}{p q:Option Int}{k:Int}(h:∀x y,p=some x->q=some y->f x y≤k):Lb (o2 f p q) k:=λl e=>by
 cases p with
 |none=>cases e
 |some x=>cases q with
  |none=>cases e
  |some y=>cases e;exact h x y rfl rfl
theorem mv{f:Int->Int->Int}{p q:Option Int}{k:Int}(h:∀x y,p=some x->q=some y->k≤f x y):Ub (o2 f p q) k:=λl e=>by
 cases p with
 |none=>cases e
 |some x=>cases q with
  |none=>cases e
  |some y=>cases e;exact h x y rfl rfl
theorem IE{f:Int->Int}{p:Option Int}{k:Int}(h:∀x,p=some x->f x≤k):Lb (o1 f p) k:=λl e=>by
 cases p with
 |none=>cases e
 |some x=>cases e;exact h x rfl
theorem IG{f:Int->Int}{p:Option Int}{k:Int}(h:∀x,p=some x->k≤f x):Ub (o1 f p) k:=λl e=>by
 cases p with
 |none=>cases e
 |some x=>cases e;exact h x rfl
theorem fw{C:Prop}{o:Option Int}{f:Int->Option AI}{z:AI}(h:mK o f=some z)(k:∀x,o=some x->f x=some z->C):C:=by
 cases o with
 |none=>cases h
 |some x=>exact k x rfl h
theorem gw{C:Prop}{b:Bool}{q:Option AI}{z:AI}(h:mr b q=some z)(k:b=true->q=some z->C):C:=by
 cases b with
 |false=>cases h
 |true=>exact k rfl h
theorem vt{p q:Option Int}{C:Prop}(h:AS p q=true)(k:∀x y,p=some x->q=some y->x≤y->C):C:=by
 cases p with
 |none=>cases h
 |some x=>cases q with
  |none=>cases h
  |some y=>exact k x y rfl rfl (of_decide_eq_true h)
theorem Ka{p q:Option Int}{C:Prop}(h:ltZ p q=true)(k:∀x y,p=some x->q=some y->x<y->C):C:=by
 cases p with
 |none=>cases h
 |some x=>cases q with
  |none=>cases h
  |some y=>exact k x y rfl rfl (of_decide_eq_true h)
theorem nM{a b:AI}{m n:Int}(ha:dN σ a m)(hb:dN σ b n)(h:ltZ a.hi b.lo=true):m<n:=Ka h λY Y e1 e2 q=>VG (ha.hi e1) (Wh q (hb.lo e2))
theorem vv{a b:AI}{m n:Int}(ha:dN σ a m)(hb:dN σ b n)(h:AS a.hi b.lo=true):m≤n:=vt h λY Y e1 e2 q=>Vl (ha.hi e1) (Vl q (hb.lo e2))
theorem dN.addG{a b:AI}{m n:Int}(ha:dN σ a m)(hb:dN σ b n):dN σ (a.addG b) (m+n):=
 gv (qj λY Y e1 e2=>Int.add_le_add (ha.lo e1) (hb.lo e2)) (mv λY Y e1 e2=>Int.add_le_add (ha.hi e1) (hb.hi e2))
theorem dN.add{a b:AI}{m n:Int}(ha:dN σ a m)(hb:dN σ b n):dN σ (a.add b) (m+n):=by
 cases a with
 |pb d=>
  cases b with
  |c k=>
   refine(?_:dN σ (if k=1 then .pb (VE d) else AI.addG (.pb d) (.c k)) (m+n))
   by_cases e:k=1
   .rw[if_pos e]
    have h2:n=k:=hb
    subst h2 e
    exact⟨Int.add_nonneg ha.1 (by decide),by rw[Nat.succ_eq_add_one,Int.natCast_add,<-Int.add_assoc];exact Int.add_le_add_right ha.2.1 1,ha.2.2⟩
   .rw[if_neg e];exact ha.addG hb
  |_=>exact ha.addG hb
 |_=>exact ha.addG hb
theorem dN.sub{a b:AI}{m n:Int}(ha:dN σ a m)(hb:dN σ b n):dN σ (a.sub b) (m - n):=
 gv (qj λY Y e1 e2=>Int.sub_le_sub (ha.lo e1) (hb.hi e2)) (mv λY Y e1 e2=>Int.sub_le_sub (ha.hi e1) (hb.lo e2))
theorem dN.neg{a:AI}{m:Int}(ha:dN σ a m):dN σ a.neg (-m):=
 gv (IE λY e=>Int.neg_le_neg (ha.hi e)) (IG λY e=>Int.neg_le_neg (ha.lo e))
theorem Ce{x y z c:Int}(h1:x≤y)(h2:y≤z):mJ (x * c) (z * c)≤y * c:=by
 rcases Int.le_total 0 c with h|h
 .exact Vl (kr _ _) (Wp h1 h)
 .exact Vl (kt _ _) (Int.mul_le_mul_of_nonpos_right h2 h)
theorem Cg{x y z c:Int}(h1:x≤y)(h2:y≤z):y * c≤lB (x * c) (z * c):=by
 rcases Int.le_total 0 c with h|h
 .exact Vl (Wp h2 h) (ji _ _)
 .exact Vl (Int.mul_le_mul_of_nonpos_right h1 h) (jh _ _)
theorem xK{x y z c:Int}(h1:x≤y)(h2:y≤z):mJ (c * x) (c * z)≤c * y:=by
 rw[Wx c x,Wx c z,Wx c y];exact Ce h1 h2
theorem xL{x y z c:Int}(h1:x≤y)(h2:y≤z):c * y≤lB (c * x) (c * z):=by
 rw[Wx c x,Wx c z,Wx c y];exact Cg h1 h2
theorem zA{a b a' b':Int}(h1:a≤a')(h2:b≤b'):mJ a b≤mJ a' b':=Int.le_min.mpr ⟨Vl (kr _ _) h1,Vl (kt _ _) h2⟩
theorem zB{a b a' b':Int}(h1:a≤a')(h2:b≤b'):lB a b≤lB a' b':=Int.max_le.mpr ⟨Vl h1 (jh _ _),Vl h2 (ji _ _)⟩
theorem dN.mulB{a b z:AI}{m n:Int}(ha:dN σ a m)(hb:dN σ b n)(e:a.mulB b=some z):dN σ z (m * n):=
 fw e λY e1 e=>fw e λY e2 e=>fw e λY e3 e=>fw e λY e4 e=>U7 e▸gv
  (fQ (Vl (zA (xK (hb.lo e3) (hb.hi e4)) (xK (hb.lo e3) (hb.hi e4))) (Ce (ha.lo e1) (ha.hi e2))))
  (iE (Vl (Cg (ha.lo e1) (ha.hi e2)) (zB (xL (hb.lo e3) (hb.hi e4)) (xL (hb.lo e3) (hb.hi e4)))))
theorem dN.div{a b z:AI}{m n:Int}(ha:dN σ a m)(hb:dN σ b n)(e:a.div b=some z):dN σ z (m / n)/\0<n:=
 fw e λx e1 e=>gw e λh e=>by
  have h:=of_decide_eq_true h
  cases e
  rw[hb.cst e1]
  exact⟨gv (IE λY e=>Int.ediv_le_ediv h (ha.lo e)) (IG λY e=>Int.ediv_le_ediv h (ha.hi e)),h⟩
theorem F3{a:AI}{m n:Int}(ha:dN σ a m)(h:0<n):dN σ (Jo a n) (m % n):=by
 unfold Jo
 cases e:a.cst with
 |some x=>rw[ha.cst e];exact rfl
 |none=>
  cases hb:RY a n with
  |false=>exact⟨fQ (Int.emod_nonneg m (Xg h)),iE (Int.le_sub_one_of_lt (Int.emod_lt_of_pos m h))⟩
  |true=>
   unfold RY at hb
   cases e1:a.lo with
   |none=>rw[e1] at hb;cases hb
   |some l=>
    rw[e1] at hb
    cases e2:a.hi with
    |none=>rw[e2] at hb;cases hb
    |some u=>
     rw[e2] at hb
     refine e02 (Bool.and_eq_true_iff.mp hb) λh1 h2=>?_
     rw[Int.emod_eq_of_lt (Vl (of_decide_eq_true h1) (ha.lo e1)) (VG (ha.hi e2) (of_decide_eq_true h2))]
     exact gv (fQ (ha.lo e1)) (iE (ha.hi e2))
theorem dN.mod{a b z:AI}{m n:Int}(ha:dN σ a m)(hb:dN σ b n)(e:a.mod b=some z):dN σ z (m % n)/\0<n:=
 fw e λx e1 e=>gw e λh e=>by
  have h:=of_decide_eq_true h
  cases e
  rw[hb.cst e1]
  exact⟨F3 ha h,h⟩
theorem q8{a b:Int}(h0:0≤a)(h:a≤b):∀k:Nat,a ^ k≤b ^ k/\0≤a ^ k
 |0=>by rw[Int.pow_zero,Int.pow_zero];exact⟨Wt _,by decide⟩
 |k+1=>by
  refine e02 (q8 h0 h k) λx y=>?_
  rw[Int.pow_succ,Int.pow_succ]
  exact⟨Vl (Wp x h0) (Int.mul_le_mul_of_nonneg_left h (Vl y x)),Int.mul_nonneg y h0⟩
theorem dN.pow{a b z:AI}{m n:Int}(ha:dN σ a m)(hb:dN σ b n)(e:a.pow b=some z):dN σ z (m ^ n.toNat)/\(0≤n/\n≤1000)/\2≤m:=
 fw e λx e1 e=>fw e λl e2 e=>fw e λh e3 e=>gw e λh0 e=>gw e λh1 e=>gw e λh2 e=>by
  have h2:=of_decide_eq_true h2
  have hm:=Vl h2 (ha.lo e2)
  have hl:0≤l:=Vl (by decide) h2
  rw[hb.cst e1]
  cases e
  exact⟨gv (fQ (q8 hl (ha.lo e2) _).1) (iE (q8 (Vl (by decide) hm) (ha.hi e3) _).1),⟨of_decide_eq_true h0,of_decide_eq_true h1⟩,hm⟩
theorem dN.abs{a:AI}{m:Int}(ha:dN σ a m):dN σ a.abs (if 0≤m then m else -m):=by
 unfold AI.abs
 cases e1:AS (some 0) a.lo with
 |true=>exact vt e1 λY Y q e h=>by cases q;rw[if_pos (Vl h (ha.lo e))];exact ha
 |false=>
  cases e2:AS a.hi (some 0) with
  |true=>
   refine vt e2 λY Y e q h=>?_
   cases q
   have hm:=Vl (ha.hi e) h
   have:(if 0≤m then m else -m)= -m:=by
    by_cases q:0≤m
    .rw[if_pos q,WR hm q];rfl
    .exact if_neg q
   rw[this];exact ha.neg
  |false=>
   by_cases q:0≤m
   .rw[if_pos q];exact⟨fQ q,mv λY Y Y e=>Vl (ha.hi e) (ji _ _)⟩
   .rw[if_neg q]
    refine⟨fQ (Int.neg_nonneg_of_nonpos (Wf (Int.not_le.mp q))),mv λY Y e Y=>?_⟩
    cases e3:a.lo with
    |none=>rw[e3] at e;cases e
    |some l=>rw[e3] at e;cases e;exact Vl (Int.neg_le_neg (ha.lo e3)) (jh _ _)
theorem nb(x:Bool):x∈[true,false]:=by cases x<;>first|exact Vc|exact Vd _ Vc
theorem q9{a b:AI}{m n:Int}(ha:dN σ a m)(hb:dN σ b n):decide (m<n)∈My a b:=by
 unfold My
 cases e1:ltZ a.hi b.lo with
 |true=>exact List.mem_singleton.mpr (decide_eq_true (nM ha hb e1))
 |false=>
  cases e2:AS b.hi a.lo with
  |true=>exact List.mem_singleton.mpr (decide_eq_false (Int.not_lt.mpr (vv hb ha e2)))
  |false=>exact nb _
theorem F4{α:Type}{f:α->Bool}{l:List α}{x:α}(hx:x∈l)(h:f x=true):lA f l=true:=by
 induction l with
 |nil=>exact absurd hx Vh
 |cons a r ih=>
  refine(?_:dj (f a) (lA f r)=true)
  cases hx with
  |head=>rw[h];rfl
  |tail _ hx=>
   cases f a with
   |true=>rfl
   |false=>exact ih hx
theorem Ch{x:Int}{l:List Int}(h:x∈l):uR x l=true:=F4 h (decide_eq_true rfl)
theorem xM{x:Int}{b:AI}{n:Int}(hb:dN σ b n):decide (x=n)∈Jp x b:=by
 cases b with
 |st l=>
  refine(?_:_∈(match uR x l with|true=>[true,false]|false=>[false]))
  cases e:uR x l with
  |true=>exact nb _
  |false=>exact List.mem_singleton.mpr (decide_eq_false λq=>by rw[q,Ch hb] at e;cases e)
 |_=>exact nb _
theorem Ci{a b:AI}{m n:Int}(ha:dN σ a m)(hb:dN σ b n)(h:A3 a b=true):m=n:=by
 cases a with
 |s j l u=>cases b with
  |s k l' u'=>have h:=cX h;subst h;exact ha.1.trans hb.1.symm
  |_=>cases h
 |_=>cases h
theorem vy{a b:AI}{m n:Int}{d:List Bool}(ha:dN σ a m)(hb:dN σ b n)(hd:decide (m=n)∈d):decide (m=n)∈MS d a b:=by
 unfold MS
 cases e1:A3 a b with
 |true=>exact List.mem_singleton.mpr (decide_eq_true (Ci ha hb e1))
 |false=>
  cases e2:(ltZ a.hi b.lo||ltZ b.hi a.lo) with
  |true=>
   refine List.mem_singleton.mpr (decide_eq_false ?_)
   rcases Bool.or_eq_true_iff.mp e2 with e|e
   .exact Int.ne_of_lt (nM ha hb e)
   .exact Xg (nM hb ha e)
  |false=>exact hd
theorem rb{a b:AI}{m n:Int}(ha:dN σ a m)(hb:dN σ b n):decide (m=n)∈Mz a b:=by
 unfold Mz
 cases e1:a.cst with
 |some x=>
  cases e2:b.cst with
  |some y=>rw[ha.cst e1,hb.cst e2];exact List.mem_singleton.mpr rfl
  |none=>exact vy ha hb (ha.cst e1▸xM hb)
 |none=>
  cases e2:b.cst with
  |some y=>exact vy ha hb (by rw[hb.cst e2,show decide (m=y)=decide (y=m) from decide_eq_decide.mpr ⟨Eq.symm,Eq.symm⟩];exact xM ha)
  |none=>exact vy ha hb (nb _)
theorem iF{l:List Bool}{K:Bool->Bool}{b:Bool}(h:qL l K=true)(hb:b∈l):K b=true:=by
 unfold qL at h
 split at h
 .cases hb
 .rw[List.mem_singleton.mp hb];exact h
 .simp only[WH] at h;cases b
  .exact h.2
  .exact h.1
theorem cT{C:Prop}{b k:Bool}(h:gd b k=true)(f:b=true->k=true->C):C:=by
 cases b with
 |true=>exact f rfl h
 |false=>cases h
theorem iV{a b c:Bool}{C:Prop}(h:gd a (gd b c)=true)(f:a=true->b=true->c=true->C):C:=cT h λh1 h=>cT h λh2 h3=>f h1 h2 h3
theorem Fi{a b c d:Bool}{C:Prop}(h:gd a (gd b (gd c d))=true)(f:a=true->b=true->c=true->d=true->C):C:=cT h λh1 h=>iV h λh2 h3 h4=>f h1 h2 h3 h4
theorem F5{a b c d e:Bool}{C:Prop}(h:gd a (gd b (gd c (gd d e)))=true)(f:a=true->b=true->c=true->d=true->e=true->C):C:=cT h λh1 h=>Fi h λh2 h3 h4 h5=>f h1 h2 h3 h4 h5
theorem RE{a b c d e i:Bool}{C:Prop}(h:gd a (gd b (gd c (gd d (gd e i))))=true)(f:a=true->b=true->c=true->d=true->e=true->i=true->C):C:=cT h λh1 h=>F5 h λh2 h3 h4 h5 h6=>f h1 h2 h3 h4 h5 h6
theorem MF{a b c d e i j:Bool}{C:Prop}(h:gd a (gd b (gd c (gd d (gd e (gd i j)))))=true)(f:a=true->b=true->c=true->d=true->e=true->i=true->j=true->C):C:=cT h λh1 h=>RE h λh2 h3 h4 h5 h6 h7=>f h1 h2 h3 h4 h5 h6 h7
theorem re{C:Prop}(f:∀G:Prop,(C->G)->G):C:=f C id
theorem II{b k:Bool}(h:gd b k=true):b=true/\k=true:=cT h λx y=>⟨x,y⟩
theorem Cj{n:Nat}{b:Bool}(h:Nc n b=true):n≤10000/\b=true:=cT h λe h=>⟨Vi e,h⟩
theorem eK{C:Prop}{a b:Bool}(h:dj a b=true)(f:a=true->C)(k:b=true->C):C:=by
 cases a with
 |true=>exact f rfl
 |false=>exact k h
theorem Ck{C:Prop}{a b d:Bool}(h:dj a (dj b d)=true)(f0:a=true->C)(f1:b=true->C)(f2:d=true->C):C:=eK h f0 λh=>eK h f1 f2
theorem RH{C:Prop}{a b d e:Bool}(h:dj a (dj b (dj d e))=true)(f0:a=true->C)(f1:b=true->C)(f2:d=true->C)(f3:e=true->C):C:=eK h f0 λh=>Ck h f1 f2 f3
theorem MG{C:Prop}{a b d e i:Bool}(h:dj a (dj b (dj d (dj e i)))=true)(f0:a=true->C)(f1:b=true->C)(f2:d=true->C)(f3:e=true->C)(f4:i=true->C):C:=eK h f0 λh=>RH h f1 f2 f3 f4
theorem Sv{C:Prop}{a b d e i j:Bool}(h:dj a (dj b (dj d (dj e (dj i j))))=true)(f0:a=true->C)(f1:b=true->C)(f2:d=true->C)(f3:e=true->C)(f4:i=true->C)(f5:j=true->C):C:=eK h f0 λh=>MG h f1 f2 f3 f4 f5
theorem UE{C:Prop}{a b d e i j p:Bool}(h:dj a (dj b (dj d (dj e (dj i (dj j p)))))=true)(f0:a=true->C)(f1:b=true->C)(f2:d=true->C)(f3:e=true->C)(f4:i=true->C)(f5:j=true->C)(f6:p=true->C):C:=eK h f0 λh=>Sv h f1 f2 f3 f4 f5 f6
theorem F6{α β:Type}{o:Option α}{d:β}{f:α->β}{P:β->Prop}(h1:∀x,o=some x->P (f x))(h2:o=none->P d):P (dq o d f):=by
 cases o with
 |some x=>exact h1 x rfl
 |none=>exact h2 rfl
theorem fJ{α:Type}{C:Prop}{o:Option α}{d:Bool}{f:α->Bool}(h:dq o d f=true)(h1:∀x,o=some x->f x=true->C)(h2:o=none->d=true->C):C:=by
 cases o with
 |some x=>exact h1 x rfl h
 |none=>exact h2 rfl h
theorem Cl{C:Prop}{b x y:Bool}(h:db b x y=true)(h1:b=true->x=true->C)(h2:b=false->y=true->C):C:=by
 cases b with
 |true=>exact h1 rfl h
 |false=>exact h2 rfl h
theorem eT{C:Prop}{D:i9}{b:Bool}(h:iw D b=true)(f:D.quiet=false->b=true->C):C:=
 Bool.rec (motive:=λq=>D.quiet=q->(match q with|true=>false|false=>b)=true->C) (λe h=>f e h) (λY h=>ft h) D.quiet rfl h
theorem cW{C:Prop}{α β:Type}{o:Option α}{f:α->Option β}{y:β}(h:dp o f=some y)(k:∀x,o=some x->f x=some y->C):C:=by
 cases o with
 |some x=>exact k x rfl h
 |none=>exact nn h
theorem dJ{C:Prop}{α:Type}{b:Bool}{o:Option α}{y:α}(h:gO b o=some y)(k:b=true->o=some y->C):C:=by
 cases b with
 |true=>exact k rfl h
 |false=>exact nn h
theorem fK{C:Prop}{α:Type}{a b:Option α}{y:α}(h:sD a b=some y)(f:a=some y->C)(k:b=some y->C):C:=by
 cases a with
 |some x=>exact f h
 |none=>exact k h
theorem dN.mul{σ:Nat->Int}{a b z:AI}{m n:Int}(ha:dN σ a m)(hb:dN σ b n)(e:a.mul b=some z):dN σ z (m * n):=
 fK e (λe=>ha.mulB hb e) λe=>fw e λY e1 e=>fw e λY e2 e=>gw e λh1 e=>gw e λh2 e=>U7 e▸⟨fQ (Int.mul_nonneg (Vl (of_decide_eq_true h1) (ha.lo e1)) (Vl (of_decide_eq_true h2) (hb.lo e2))),λY q=>nn q⟩
theorem dO{b:Bool}(h:(!b)=true):b=false:=by
 cases b with
 |false=>rfl
 |true=>exact ft h
theorem cP{α:Type}{C:Prop}{o:Option α}{K:α->Bool}(h:cR o K=true)(f:∀x,o=some x->K x=true->C):C:=by
 cases o with
 |some x=>exact f x rfl h
 |none=>cases h
theorem xN{α:Type}{o:Option α}{K:α->Bool}(h:cR o K=true):∃x,o=some x/\K x=true:=by
 cases o with
 |some x=>exact⟨x,rfl,h⟩
 |none=>cases h
theorem c9{α:Type}{K:α->Bool}{l:List α}{v:α}(h:dF l K=true)(hv:v∈l):K v=true:=by
 induction l with
 |nil=>exact absurd hv Vh
 |cons a r ih=>
  exact cT h λh1 h2=>by
   cases hv with
   |head=>exact h1
   |tail _ hv=>exact ih h2 hv
theorem iG{C:Prop}{α:Type}{f:α->Bool}{l:List α}(h:lA f l=true)(k:∀x,x∈l->f x=true->C):C:=by
 induction l with
 |nil=>exact ft h
 |cons a r ih=>exact eK h (k a Vc) λh=>ih h λx hx=>k x (Vd _ hx)
@[elab_as_elim] theorem dH{α β:Type}{F:α->β->Bool}{P:List α->List β->Prop}{l:List α}{l':List β}(h:fm F l l'=true)(nil:P [] [])(cons:∀x r y r',F x y=true->P r r'->P (x::r) (y::r')):P l l':=by
 induction l generalizing l' with
 |nil=>
  cases l' with
  |nil=>exact nil
  |cons=>exact ft h
 |cons x r ih=>
  cases l' with
  |nil=>exact ft h
  |cons y r'=>exact cT h λh1 h2=>cons x r y r' h1 (ih h2)
theorem fS{α β:Type}{F:α->β->Bool}{l:List α}{l':List β}(h:fm F l l'=true):l'.length=l.length:=dH h rfl λY Y Y Y Y e=>congrArg (· +1) e
theorem ku{α:Type}{F:Nat->α->Bool}{l:List α}{p:α}:∀{i j:Nat},xe F l i=true->l[j]? =some p->F (i+j) p=true:=by
 induction l with
 |nil=>exact λY e=>nn e
 |cons x r ih=>
  intro i j h e
  exact cT h λh1 h2=>by
   cases j with
   |zero=>cases e;exact h1
   |succ j=>exact(show i+(j+1)=VE i+j from(Nat.succ_add i j).symm)▸ih h2 e
theorem jA{α:Type}{l:List α}{x:α}(h:gq l=some x):l=[x]:=
 cW h λp e h=>dJ h λh1 h2=>by
  cases l with
  |nil=>exact nn e
  |cons y r=>
   cases e;cases h2
   cases r with
   |nil=>rfl
   |cons=>exact ft h1
theorem F7{a b z:AI}{m n:Int}(ha:dN σ a m)(hb:dN σ b n)(e:JD a b=some z):dN σ z (if m<n then n else m):=by
 unfold JD at e
 cases e1:ltZ b.hi a.lo with
 |true=>rw[e1] at e;cases e;rw[if_neg (Int.not_lt.mpr (Wf (nM hb ha e1)))];exact ha
 |false=>
  rw[e1] at e
  cases e2:AS a.hi b.lo with
  |true=>
   rw[e2] at e;cases e
   by_cases q:m<n
   .rw[if_pos q];exact hb
   .rw[if_neg q,WR (vv ha hb e2) (Int.not_lt.mp q)];exact hb
  |false=>
   rw[e2] at e;cases e
   by_cases q:m<n
   .rw[if_pos q];exact gv (qj λY Y e1 e2=>Int.max_le.mpr ⟨Vl (ha.lo e1) (Wf q),hb.lo e2⟩) (mv λY Y Y e2=>Vl (hb.hi e2) (ji _ _))
   .rw[if_neg q];exact gv (qj λY Y e1 e2=>Int.max_le.mpr ⟨ha.lo e1,Vl (hb.lo e2) (Int.not_lt.mp q)⟩) (mv λY Y e1 Y=>Vl (ha.hi e1) (jh _ _))
theorem F8{a b z:AI}{m n:Int}(ha:dN σ a m)(hb:dN σ b n)(e:JE a b=some z):dN σ z (if n<m then n else m):=by
 unfold JE at e
 cases e1:ltZ a.hi b.lo with
 |true=>rw[e1] at e;cases e;rw[if_neg (Int.not_lt.mpr (Wf (nM ha hb e1)))];exact ha
 |false=>
  rw[e1] at e
  cases e2:AS b.hi a.lo with
  |true=>
   rw[e2] at e;cases e
   by_cases q:n<m
   .rw[if_pos q];exact hb
   .rw[if_neg q,WR (Int.not_lt.mp q) (vv hb ha e2)];exact hb
  |false=>
   rw[e2] at e;cases e
   by_cases q:n<m
   .rw[if_pos q];exact gv (qj λY Y Y e2=>Vl (kt _ _) (hb.lo e2)) (mv λY Y e1 e2=>Int.le_min.mpr ⟨Vl (Wf q) (ha.hi e1),hb.hi e2⟩)
   .rw[if_neg q];exact gv (qj λY Y e1 Y=>Vl (kr _ _) (ha.lo e1)) (mv λY Y e1 e2=>Int.le_min.mpr ⟨ha.hi e1,Vl (Int.not_lt.mp q) (hb.hi e2)⟩)
theorem nO{α:Type}{p:Bool}{a j:α}(h:(if p then some a else none)=some j):p=true/\a=j:=by
 cases p with
 |true=>exact⟨rfl,U7 h⟩
 |false=>cases h
inductive NB(n:Nat):Int->Nat->Prop
 |up (j:Nat) (h:j<n):NB n (j:Int) j
 |down (i:Int) (j:Nat) (h:j<n) (e:i+n=j) (hi:i<0):NB n i j
theorem rg{n:Nat}{i:Int}{j:Nat}(h:JA n i=some j):NB n i j:=by
 unfold JA seqIndex? at h
 by_cases hn:i<0
 .rw[if_pos hn] at h
  refine e02 (nO h) λhb zq5=>?_
  cases zq5
  refine e02 (Bool.and_eq_true_iff.mp hb) λh1 h2=>?_
  have h1:=of_decide_eq_true h1
  exact .down i _ ((Int.toNat_lt h1).mpr (of_decide_eq_true h2)) (Wg h1).symm hn
 .rw[if_neg hn] at h
  refine e02 (nO h) λhb zq6=>?_
  cases zq6
  refine e02 (Bool.and_eq_true_iff.mp hb) λh1 h2=>?_
  have h1:=of_decide_eq_true h1
  have:=NB.up (n:=n) i.toNat ((Int.toNat_lt h1).mpr (of_decide_eq_true h2))
  rwa [Wg h1] at this
theorem Cm{n j:Nat}(h:j<n):seqIndex? (j:Int) n=some j:=by
 unfold seqIndex?
 rw[if_neg (Int.not_lt.mpr (VF j))]
 exact(if_pos (Bool.and_eq_true_iff.mpr ⟨decide_eq_true (VF j),decide_eq_true (Int.ofNat_lt.mpr h)⟩)).trans (congrArg some (Vt j))
theorem Cn{n j:Nat}{i:Int}(h:j<n)(e:i+n=j)(hi:i<0):seqIndex? i n=some j:=by
 unfold seqIndex?
 rw[if_pos hi,e]
 exact(if_pos (Bool.and_eq_true_iff.mpr ⟨decide_eq_true (VF j),decide_eq_true (Int.ofNat_lt.mpr h)⟩)).trans (congrArg some (Vt j))
theorem gx{a:V}{k:Nat}(h:fk a=some k):a=.ref k:=by
 cases a with
 |ref k=>cases h;rfl
 |_=>cases h
theorem F9{o:Option O}{l:List V}(h:gf o=some l):o=some (.list l):=by
 cases o with
 |none=>cases h
 |some o=>cases o with
  |list l=>cases h;rfl
  |_=>cases h
theorem Ga{o:Option O}{l:List (Nat×V)}(h:nu o=some l):o=some (.dict l):=by
 cases o with
 |none=>cases h
 |some o=>cases o with
  |dict l=>cases h;rfl
  |_=>cases h
theorem qk{t:Expr}(h:nJ t=true):∃es k p,t=.Tuple es k p:=by
 cases t<;>first|exact⟨_,_,_,rfl⟩|cases h
noncomputable def Co:Expr->Bool
 |.Slice .. =>true
 |_=>false
theorem Kb{i:Expr}(h:Co i=true):∃lo hi st p,i=.Slice lo hi st p:=by
 cases i<;>first|exact⟨_,_,_,_,rfl⟩|cases h
end
section
section
variable{α:Type}{M:Model}{A:Around}{E:Value->Shared->Prop}{s:Shared}{Q:α->Shared->Prop}
theorem eH{c:Prop}[Decidable c]{a b:Sem α}(h:¬c)(hb:wpAny M A b Q E s):wpAny M A (if c then a else b) Q E s:=by rw[if_neg h];exact hb
theorem jR{c:Prop}[Decidable c]{a b:Sem α}(h:c)(hb:wpAny M A a Q E s):wpAny M A (if c then a else b) Q E s:=by rw[if_pos h];exact hb
end
structure Cf where
 n:Nat
 ρ:Nat->Addr
 δ:Nat->Addr
 T:Addr->List Value->Prop
 N:Nat->Prop
 D:Addr->Obj->Prop
structure dz(c c':Cf):Prop where
 n:c.n≤c'.n
 ρ:∀k,k<c.n->c'.ρ k=c.ρ k
 δ:∀k,k<c.n->c'.δ k=c.δ k
 T:∀a vs,c.T a vs->c'.T a vs
 N:∀k,c.N k->c'.N k
 D:∀a o,c.D a o->c'.D a o
 M:∀k,k<c.n->c'.N k->c.N k
structure Gb where
 C:i9
 σ:Nat->Int
 w:Nat->Addr
 fa:Nat->Addr
 ca:Nat->Addr
 B:Heap
 R:Addr->Obj->Prop
 S:Addr->Obj->Prop
 M0:Option Addr
 lc:Addr
 P:Addr
 lq:Str
 dl:Nat
 ul:Nat
 s0:Shared
 T0:Addr->List Value->Prop
 wd:World
 pr:Program
 TK:Nat->Cf->Value->Prop
 tkh:∀{c:Cf} {k:Nat} {v:Value},TK k c v->handedOut v=pure v
 tkx:∀{c c':Cf} {k:Nat} {v:Value},(∀a vs,c.T a vs->c'.T a vs)->TK k c v->TK k c' v
theorem dz.refl(c:Cf):dz c c:=⟨Vm _,λY Y=>rfl,λY Y=>rfl,λY Y h=>h,λY h=>h,λY Y h=>h,λY Y h=>h⟩
theorem dz.trans{a b c:Cf}(x:dz a b)(y:dz b c):dz a c:=
 ⟨Va x.n y.n,λk h=>(y.ρ k (Vf h x.n)).trans (x.ρ k h),λk h=>(y.δ k (Vf h x.n)).trans (x.δ k h),λa vs h=>y.T a vs (x.T a vs h),λk h=>y.N k (x.N k h),λa o h=>y.D a o (x.D a o h),λk h q=>x.M k h (y.M k (Vf h x.n) q)⟩
def BR(σ:Nat->Int):List AI->List UInt8->Prop
 |[],bs=>bs=[]
 |a::r,bs=>∃b t,bs=b::t/\dN σ a (b.toNat:Int)/\BR σ r t
mutual
def VR(g:Gb)(c:Cf):V->Value->Prop
 |.none,v=>v=.none
 |.bool b,v=>v=.bool b
 |.int a,v=>∃n t,v=.int n t/\dN g.σ a n
 |.str k,v=>∃s t,v=.str s t/\cd s=k/\k≠0/\s.length≤1000
 |.strU n,v=>∃s t,v=.str s t/\s.length≠0/\s.length≤n/\n≤100000
 |.bytes l,v=>∃b t,v=.bytes b t/\BR g.σ l b.toList
 |.tup l,v=>∃a vs,v=.ref a/\c.T a vs/\da g c l vs
 |.wr k,v=>v=.ref (g.w k)
 |.ref k,v=>k<c.n/\v=.ref (c.ρ k)
 |.fn i,v=>v=.ref (g.fa i)
 |.cls i,v=>v=.ref (g.ca i)
 |.bi x,v=>v=jG x
 |.tok k,v=>g.TK k c v
def da(g:Gb)(c:Cf):List V->List Value->Prop
 |[],vs=>vs=[]
 |a::r,vs=>∃x xs,vs=x::xs/\VR g c a x/\da g c r xs
end
variable{g:Gb}{c c':Cf}
theorem IJ{P:V->Prop}(atom:∀a,eg a=none->P a)(tup:∀l,(∀a,a∈l->P a)->P (.tup l))(a:V):P a:=
 V.rec (motive_1:=P) (motive_2:=λl=>∀a,a∈l->P a) (atom _ rfl) (λY=>atom _ rfl) (λY=>atom _ rfl) (λY=>atom _ rfl) (λY=>atom _ rfl) (λY=>atom _ rfl) (λl ih=>tup l ih) (λY=>atom _ rfl) (λY=>atom _ rfl) (λY=>atom _ rfl) (λY=>atom _ rfl) (λY=>atom _ rfl) (λY=>atom _ rfl)
  (λY h=>absurd h Vh) (λx r h1 h2 a h=>(List.mem_cons.mp h).elim (λe=>e▸h1) (h2 a)) a
theorem da.cons{a:V}{r:List V}{x:Value}{xs:List Value}(h1:VR g c a x)(h2:da g c r xs):da g c (a::r) (x::xs):=⟨x,xs,rfl,h1,h2⟩
theorem da.map{g g':Gb}{l:List V}:∀{vs:List Value},(∀a,a∈l->∀v,VR g c a v->VR g' c' a v)->da g c l vs->da g' c' l vs:=by
 induction l with
 |nil=>exact λY x=>x
 |cons a r ih=>
  intro vs h x
  refine e23 x λy ys h1 h2 h3=>?_;clear x
  exact⟨y,ys,h1,h a Vc _ h2,ih (λb hb=>h b (Vd _ hb)) h3⟩
def Gc:Type:={F:Nat->Cf->Value->Prop // (∀{c k v},F k c v->handedOut v=pure v)/\∀{c c':Cf} {k v},(∀a vs,c.T a vs->c'.T a vs)->F k c v->F k c' v}
noncomputable def Gb.tk(g:Gb)(F:Gc):Gb:={g with TK:=F.1,tkh:=λ{_ _ _} h=>F.2.1 h,tkx:=λ{_ _ _ _} e h=>F.2.2 e h}
noncomputable def Gb.own(g:Gb):Gc:=⟨g.TK,λh=>g.tkh h,λe h=>g.tkx e h⟩
theorem vz{F F':Gc}(hT:∀a vs,c.T a vs->c'.T a vs)(hK:∀k v,F.1 k c v->F'.1 k c' v)(S:V->Prop)(hR:∀k,S (.ref k)->k<c.n->k<c'.n/\c'.ρ k=c.ρ k)(hS:∀l a,S (.tup l)->a∈l->S a)(a:V):S a->∀v,VR (g.tk F) c a v->VR (g.tk F') c' a v:=
 IJ (P:=λa=>S a->∀v,VR (g.tk F) c a v->VR (g.tk F') c' a v) (λa e s v h=>by
  cases a with
  |tup=>exact nn' e
  |ref k=>
   refine e02 h λh1 h2=>?_;clear h
   exact⟨(hR k s h1).1,h2.trans (congrArg Value.ref (hR k s h1).2.symm)⟩
  |tok k=>exact hK k v h
  |_=>exact h) (λl ih s v h=>by
  refine e23 h λx vs h1 h2 h3=>?_;clear h
  exact⟨x,vs,h1,hT _ _ h2,h3.map λa ha=>ih a ha (hS l a s ha)⟩) a
theorem VR.ext(e:dz c c'){a:V}{v:Value}(h:VR g c a v):VR g c' a v:=
 vz (g:=g) (F:=g.own) (F':=g.own) e.T (λY Y h=>g.tkx e.T h) (λY=>True) (λk Y h=>⟨Vf h e.n,e.ρ k h⟩) (λY Y Y Y=>trivial) a trivial v h
theorem da.ext(e:dz c c'){a:List V}{v:List Value}(h:da g c a v):da g c' a v:=h.map λY Y Y h=>h.ext e
theorem da.length{l:List V}:∀{vs:List Value},da g c l vs->vs.length=l.length:=by
 induction l with
 |nil=>exact λh=>congrArg List.length h
 |cons a r ih=>
  intro vs h
  refine e23 h λx xs h1 Y h3=>?_;clear h
  exact h1▸congrArg (· +1) (ih h3)
theorem da.nil:da g c [] []:=rfl
theorem xO{C:Prop}{a:V}{vs:List Value}(hv:da g c [a] vs)(k:∀v,vs=[v]->VR g c a v->C):C:=by
 refine e23 hv λx xs e h1 h2=>?_;clear hv
 exact k x (e.trans (congrArg (x::·) h2)) h1
theorem sQ{C:Prop}{a b:V}{vs:List Value}(hv:da g c [a,b] vs)(k:∀v w,vs=[v,w]->VR g c a v->VR g c b w->C):C:=by
 refine e23 hv λx xs e0 h1 h2=>?_;clear hv
 exact xO h2 λw e hw=>k x w (e0.trans (congrArg (x::·) e)) h1 hw
theorem da.append{l l':List V}{vs vs':List Value}(h:da g c l vs)(h':da g c l' vs'):da g c (l++l') (vs++vs'):=by
 induction l generalizing vs with
 |nil=>exact(show vs=[] from h)▸h'
 |cons a r ih=>
  refine e23 h λx xs e h2 h3=>?_;clear h
  exact e▸da.cons h2 (ih h3)
theorem da.nth{v:V}{l:List V}:∀{vs:List Value} {i:Nat},da g c l vs->fC l i=some v->∃x,vs[i]? =some x/\VR g c v x:=by
 induction l with
 |nil=>exact λY e=>nn e
 |cons a r ih=>
  intro vs i h e
  refine e23 h λx xs e0 h2 h3=>?_;clear h
  subst e0
  cases i with
  |zero=>exact⟨x,rfl,U7 e▸h2⟩
  |succ i=>exact ih (i:=i) h3 e
theorem nP{α:Type}{l:List α}:∀{i:Nat},fC l i=none->l.length≤i:=by
 induction l with
 |nil=>exact λY=>VQ _
 |cons a r ih=>
  intro i e
  cases i with
  |zero=>exact nn' e
  |succ i=>exact VM (ih e)
def NR(g:Gb)(c:Cf)(m:List (Nat×V))(mm:Str->Option Value):Prop:=
 ∀x,cd x≠0->match eJ m (cd x) with|some a=>∃v,mm x=some v/\VR g c a v|none=>mm x=none
theorem NR.ext{m:List (Nat×V)}{mm:Str->Option Value}(e:dz c c')(h:NR g c m mm):NR g c' m mm:=λx hx=>by
 have:=h x hx
 cases ha:eJ m (cd x) with
 |none=>rw[ha] at this;exact this
 |some a=>rw[ha] at this;obtain⟨v,h1,h2⟩:=this;exact⟨v,h1,h2.ext e⟩
theorem NR.get{m:List (Nat×V)}{mm:Str->Option Value}{x:Str}{a:V}(h:NR g c m mm)(hx:cd x≠0)(e:eJ m (cd x)=some a):∃v,mm x=some v/\VR g c a v:=by
 have:=h x hx;rw[e] at this;exact this
theorem ky{α:Type}(k:Nat)(v:α)(x:Nat)(m:List (Nat×α)):eJ (ny m k v) x=if x=k then some v else eJ m x:=by
 have c1:∀(r:List (Nat×α)),eJ ((k,v)::r) x=if x=k then some v else eJ r x:=λr=>by
  rw[dY]
  by_cases e:x=k
  .rw[if_pos e,e,VD]
  .rw[if_neg e,dg (Ne.symm e)]
 induction m with
 |nil=>exact c1 []
 |cons p r ih=>
  obtain⟨k',w⟩:=p
  rw[jg]
  cases h:U9 k' k with
  |true=>
   have e0:=cX h
   subst e0
   refine(c1 r).trans ?_
   by_cases e:x=k'
   .rw[if_pos e,if_pos e]
   .rw[if_neg e,if_neg e,dY,dg (Ne.symm e)]
  |false=>
   refine(?_:eJ ((k',w)::ny r k v) x=_)
   rw[dY,dY,ih]
   cases h2:U9 k' x with
   |false=>rfl
   |true=>exact(if_neg λe=>ej h ((cX h2).trans e)).symm
theorem NR.put{m:List (Nat×V)}{mm:Str->Option Value}{x:Str}{a:V}{v:Value}(h:NR g c m mm)(hx:cd x≠0)(hv:VR g c a v):
  NR g c (ny m (cd x) a) (λy=>if y=x then some v else mm y):=λy hy=>by
 rw[ky]
 by_cases e:y=x
 .subst e;rw[if_pos rfl];exact⟨v,if_pos rfl,hv⟩
 .have:cd y≠cd x:=λq=>e (en hy q)
  rw[if_neg this]
  have:=h y hy
  cases ha:eJ m (cd y) with
  |none=>rw[ha] at this;show(if y=x then some v else mm y)=none;rw[if_neg e];exact this
  |some a=>rw[ha] at this;obtain⟨w,h1,h2⟩:=this;exact⟨w,(if_neg e).trans h1,h2⟩
theorem NR.nil:NR g c [] (λY=>none):=λY Y=>rfl
def RI(g:Gb)(c:Cf):Option V->Option Value->Prop
 |none,v=>v=none
 |some a,v=>∃x,v=some x/\VR g c a x
def PR(g:Gb)(c:Cf):List (Nat×V)->List (Str×Value)->Prop
 |[],es=>es=[]
 |(k,a)::r,es=>∃s v t,es=(s,v)::t/\cd s=k/\k≠0/\s.length≤1000/\VR g c a v/\PR g c r t
def Kc(x:Nat)(ar:Arguments):Prop:=∃n an p,ar=⟨[],[⟨n,an,p⟩],none,[],[],none,[]⟩/\cd n=x
def CR(c:Cf)(cells:List (Str×Addr))(cs:List (Nat×Nat))(D:Str->Prop):Prop:=∀x i,cd x≠0->D x->eJ cs (cd x)=some i->i<c.n/\cells.lookup x=some (c.ρ i)
def nQ(q:Str)(c:Cf)(cv:Value):Prop:=∃c' oc vs t,cv=.ref c'/\c.D c' oc/\oc.data=.fields vs/\vs[1]? =some (.str q t)
theorem nQ.ext{q:Str}{cv:Value}(e:dz c c')(h:nQ q c cv):nQ q c' cv:=by
 refine e43 h λa b d t h1 h2 h3=>?_;clear h
 exact⟨a,b,d,t,h1,e.D _ _ h2,h3⟩
structure Sw(fd:FuncData)(x:Nat)(body:Expr)(sc:List (Nat×NameKind)):Prop where
 par:Kc x fd.params
 body:fd.body=.expr body
 names:dG fd.scope.names=sc
 kind:fd.scope.kind=.function
 co:fd.scope.isCoroutine=false
 gen:fd.scope.isGenerator=false
 glob:fd.globals=mainGlobals
 bi:fd.builtins=0
 dfl:fd.defaults=.none
 kdf:fd.kwdefaults=.none
 nocls:fd.scope.names.lookup ("__class__":Str)≠some .free
 nodbg:fd.scope.names.lookup ("__debug__":Str)=none
 nocd:fd.scope.names.lookup ("__classdict__":Str)≠some .free
def xP(q:Str)(c:Cf)(fd:FuncData)(x:Nat)(body:Expr)(sc:List (Nat×NameKind))(cells:List (Nat×Nat)):Prop:=
 Sw fd x body sc/\CR c fd.closure cells (λx=>fd.scope.names.lookup x=some .free)/\nQ fd.qualname c fd.code
def i0(h:Heap)(a:Addr)(vs:Array Value):Prop:=∃n,h.get? a=some {cls:=.type "list",dict:=none,data:=.seq vs n,slots:=#[]}
theorem i0.isList{h:Heap}{a:Addr}{vs:Array Value}(x:i0 h a vs):h.IsList a vs:=let⟨n,e⟩:=x;⟨_,e,rfl,n,rfl⟩
instance {h:Heap} {a:Addr} {vs:Array Value}:Coe (i0 h a vs) (h.IsList a vs):=⟨i0.isList⟩
theorem i0.noDict{h:Heap}{a:Addr}{vs:Array Value}(x:i0 h a vs):∃o,h.get? a=some o/\o.dict=none:=let⟨_,e⟩:=x;⟨_,e,rfl⟩
def OR(g:Gb)(c:Cf)(o:O)(a d:Addr)(h:Heap):Prop:=match o with
 |.ns m=>∃mm,h.Ns a mm/\NR g c m mm
 |.cell v=>∃vo,h.IsCell a vo/\RI g c v vo
 |.list l=>∃vs,i0 h a vs/\da g c l vs.toList/\l.length≤10000
 |.inst ci m=>∃mm ns,h.InstFk a (g.ca ci) mm/\(∀o,h.get? a=some o->o.dict=some d)/\NR g c m mm/\Within mm ns/\ns.length≤m.length
 |.dict l=>∃kvs,h.DictOf (strKind g.pr g.wd) a kvs/\(a==sysModules)=false/\PR g c l kvs/\l.length≤1000
 |.barr l=>∃o b,h.get? a=some o/\o.cls=.type "bytearray"/\o.data=.bytearray b 0/\BR g.σ l b.toList/\l.length≤10000
 |.lsU lo hi=>∃vs,i0 h a vs/\lo≤vs.size/\vs.size≤hi/\hi≤10000
 |.exc ci m b=>∃o vs mm,h.get? a=some o/\o.cls=.ref (g.ca ci)/\o.dict=some d/\o.data=.fields vs/\h.Ns d mm/\NR g c m mm/\(b=true->∃t,vs=#[.ref t,.none,.none,.none,.bool false,.none])
 |.dead=>True
 |.nsU=>∃mm,h.Ns a mm
 |.lam x body sc cells=>∃o fd,h.get? a=some o/\o.cls=.type "function"/\o.data=.func fd/\xP g.lq c fd x body sc cells
theorem RI.ext(e:dz c c'){a:Option V}{v:Option Value}(h:RI g c a v):RI g c' a v:=by
 cases a with
 |none=>exact h
 |some a=>
  refine e12 h λx h1 h2=>?_;clear h
  exact⟨x,h1,h2.ext e⟩
theorem PR.ext(e:dz c c'){l:List (Nat×V)}:∀{es:List (Str×Value)},PR g c l es->PR g c' l es:=by
 induction l with
 |nil=>exact λh=>h
 |cons p r ih=>
  intro es h
  obtain⟨x,v,t,h1,h2,h3,h4,h5,h6⟩:=h
  exact⟨x,v,t,h1,h2,h3,h4,h5.ext e,ih h6⟩
theorem PR.length{l:List (Nat×V)}:∀{es:List (Str×Value)},PR g c l es->es.length=l.length:=by
 induction l with
 |nil=>exact λh=>congrArg List.length h
 |cons p r ih=>
  intro es h
  obtain⟨x,v,t,h1,_,_,_,_,h6⟩:=h
  exact h1▸congrArg (· +1) (ih h6)
theorem CR.ext{cells cs D}(h:CR c cells cs D)(e:dz c c'):CR c' cells cs D:=λx i hx hd hi=>let⟨h1,h2⟩:=h x i hx hd hi;⟨Vf h1 e.n,h2.trans (congrArg some (e.ρ i h1).symm)⟩
theorem xP.ext(e:dz c c'){q:Str}{fd:FuncData}{x body sc cells}(h:xP q c fd x body sc cells):xP q c' fd x body sc cells:=⟨h.1,h.2.1.ext e,h.2.2.ext e⟩
theorem OR.ext(e:dz c c'){o:O}{a d:Addr}{h:Heap}(x:OR g c o a d h):OR g c' o a d h:=by
 cases o with
 |ns m=>obtain⟨mm,h1,h2⟩:=x;exact⟨mm,h1,h2.ext e⟩
 |cell v=>obtain⟨vo,h1,h2⟩:=x;exact⟨vo,h1,h2.ext e⟩
 |list l=>obtain⟨vs,h1,h2,h3⟩:=x;exact⟨vs,h1,h2.ext e,h3⟩
 |inst ci m=>obtain⟨mm,ns,h1,h2,h3,h4⟩:=x;exact⟨mm,ns,h1,h2,h3.ext e,h4⟩
 |dict l=>obtain⟨kvs,h1,h2,h3,h4⟩:=x;exact⟨kvs,h1,h2,h3.ext e,h4⟩
 |barr l=>exact x
 |lsU lo hi=>exact x
 |exc ci m b=>obtain⟨o,vs,mm,h1,h2,h3,h4,h5,h6,h7⟩:=x;exact⟨o,vs,mm,h1,h2,h3,h4,h5,h6.ext e,h7⟩
 |dead=>exact x
 |nsU=>exact x
 |lam=>obtain⟨o,fd,h1,h2,h3,h4⟩:=x;exact⟨o,fd,h1,h2,h3,h4.ext e⟩
theorem OR.at{o:O}{a d:Addr}{h h':Heap}(x:OR g c o a d h)(ka:∀ob,h.get? a=some ob->h'.get? a=some ob)(kd:∀ob,h.get? d=some ob->h'.get? d=some ob):OR g c o a d h':=by
 cases o with
 |ns m=>obtain⟨mm,h1,h2⟩:=x;exact⟨mm,h1.at ka,h2⟩
 |cell v=>obtain⟨vo,⟨o,e,r⟩,h2⟩:=x;exact⟨vo,⟨o,ka _ e,r⟩,h2⟩
 |list l=>obtain⟨vs,⟨n,e⟩,h2⟩:=x;exact⟨vs,⟨n,ka _ e⟩,h2⟩
 |inst ci m=>
  refine e23 x λmm ns zq7 h2 h3=>?_;clear x
  refine e14 zq7 λo e hc hn hd=>?_
  have hd2:=h2 o e
  refine⟨mm,ns,⟨o,ka _ e,hc,hn,?_⟩,λo' e'=>?_,h3⟩
  .rcases hd with⟨q,_⟩|⟨d',q1,q2,q3,⟨o3,e3,r3⟩⟩
   .rw[hd2] at q;cases q
   .rw[hd2] at q1;obtain rfl:=U7 q1
    exact .inr ⟨d,hd2,q2,q3.at kd,⟨o3,kd _ e3,r3⟩⟩
  .rw[ka _ e] at e';cases e';exact hd2
 |dict l=>obtain⟨kvs,⟨o,es,ep,h1,r⟩,q⟩:=x;exact⟨kvs,⟨o,es,ep,ka _ h1,r⟩,q⟩
 |barr l=>obtain⟨o,b,h1,r⟩:=x;exact⟨o,b,ka _ h1,r⟩
 |lsU lo hi=>obtain⟨vs,⟨n,e⟩,h2⟩:=x;exact⟨vs,⟨n,ka _ e⟩,h2⟩
 |exc ci m b=>obtain⟨o,vs,mm,h1,h2,h3,h4,h5,h6⟩:=x;exact⟨o,vs,mm,ka _ h1,h2,h3,h4,h5.at kd,h6⟩
 |dead=>trivial
 |nsU=>obtain⟨mm,h1⟩:=x;exact⟨mm,h1.at ka⟩
 |lam=>obtain⟨o,fd,h1,r⟩:=x;exact⟨o,fd,ka _ h1,r⟩
noncomputable def O.isNs:O->Bool
 |.ns _=>true
 |.nsU=>true
 |_=>false
structure Al(g:Gb)(c:Cf)(a:Addr):Prop where
 R:∀o,¬g.R a o
 B:g.B.get? a=none
 T:∀vs,¬c.T a vs
 D:∀o,¬c.D a o
def kA(g:Gb)(c:Cf)(h:Heap):Prop:=∃ps,h.get? g.P=some (PySem.W.tabObj ps)/\TriplesOk ps.toList/\∀pos cv,codeAmong pos ps.toList=some cv->nQ g.lq c cv
structure cV(g:Gb)(c:Cf)(h:H)(s:Shared):Prop where
 len:c.n=h.length
 obj:∀k o,h.get k=some o->k<c.n/\OR g c o (c.ρ k) (c.δ k) s.heap
 pres:∀k,k<c.n->(∃o,s.heap.get? (c.ρ k)=some o)/\∃o,s.heap.get? (c.δ k)=some o
 tup:∀a vs,c.T a vs->s.heap.IsTuple a vs.toArray
 dat:∀a o,c.D a o->s.heap.get? a=some o
 rest:∀a o,g.R a o->s.heap.get? a=some o
 fra:∀a o,g.S a o->∃sl,s.heap.get? a=some {o with slots:=sl}
 base:g.B.StaysIn s.heap
 inj:∀j k,j<c.n->k<c.n->j≠k->c.ρ j≠c.ρ k/\c.ρ j≠c.δ k/\c.δ j≠c.δ k
 off:∀k,k<c.n->∀a,(a=c.ρ k\/a=c.δ k)->Al g c a/\(∀o,¬g.S a o)/\a≠g.P
 offS:∀a o,g.S a o->Al g c a/\a≠g.P
 sam:s.gens=g.s0.gens/\s.drawn=g.s0.drawn/\s.os=g.s0.os
 t0:∀a vs,g.T0 a vs->c.T a vs
 m0:∀a,g.M0=some a->0<c.n/\c.ρ 0=a
 ns:∀k,c.N k->∃o,h.get k=some o/\o.isNs=true
 tab:kA g c s.heap
 offP:Al g c g.P
 sm:∃o,g.B.get? sysModules=some o
 rT:(∀a vs o,c.T a vs->¬g.R a o)/\∀a ob o,c.D a ob->¬g.R a o
theorem kA.keep{h h':Heap}(x:kA g c h)(k:∀o,h.get? g.P=some o->h'.get? g.P=some o):kA g c h':=let⟨ps,h1,r⟩:=x;⟨ps,k _ h1,r⟩
theorem kA.ext{h:Heap}(e:dz c c')(x:kA g c h):kA g c' h:=let⟨ps,h1,h2,r⟩:=x;⟨ps,h1,h2,λp cv q=>(r p cv q).ext e⟩
theorem cV.keep{h:H}{s s':Shared}(I:cV g c h s)(k:∀b o,s.heap.get? b=some o->s'.heap.get? b=some o)(sam:s'.gens=s.gens/\s'.drawn=s.drawn/\s'.os=s.os):cV g c h s' where
 len:=I.len
 obj i o e:=let⟨h1,h2⟩:=I.obj i o e;⟨h1,h2.at (λob=>k _ ob) (λob=>k _ ob)⟩
 pres i hi:=let⟨⟨o,h1⟩,⟨o',h2⟩⟩:=I.pres i hi;⟨⟨o,k _ _ h1⟩,⟨o',k _ _ h2⟩⟩
 tup a vs e:=let⟨o,h1,r⟩:=I.tup a vs e;⟨o,k _ _ h1,r⟩
 dat a o e:=k _ _ (I.dat a o e)
 rest a o e:=k _ _ (I.rest a o e)
 fra a o e:=let⟨sl,h1⟩:=I.fra a o e;⟨sl,k _ _ h1⟩
 base b o e:=k _ _ (I.base b o e)
 inj:=I.inj
 off:=I.off
 offS:=I.offS
 sam:=⟨sam.1.trans I.sam.1,sam.2.1.trans I.sam.2.1,sam.2.2.trans I.sam.2.2⟩
 t0:=I.t0
 m0:=I.m0
 ns:=I.ns
 tab:=I.tab.keep (k _)
 offP:=I.offP
 sm:=I.sm
 rT:=I.rT
theorem cV.tok{h:H}{s:Shared}(I:cV g c h s)(t:Nat):cV g c h {s with toks:=t}:=I.keep (λY Y e=>e) ⟨rfl,rfl,rfl⟩
theorem cV.alloc{h:H}{s:Shared}(I:cV g c h s)(o:Obj):cV g c h {s with heap:=s.heap.push o}:=I.keep (λY Y e=>Vb o e) ⟨rfl,rfl,rfl⟩
theorem cV.set{h:H}{s s':Shared}{k:Nat}{o o':O}(I:cV g c h s)(e:h.get k=some o)
  (oth:∀b ob,b≠c.ρ k->b≠c.δ k->s.heap.get? b=some ob->s'.heap.get? b=some ob) (new:OR g c o' (c.ρ k) (c.δ k) s'.heap)
  (pa:∃ob,s'.heap.get? (c.ρ k)=some ob) (pd:∃ob,s'.heap.get? (c.δ k)=some ob) (sam:s'.gens=s.gens/\s'.drawn=s.drawn/\s'.os=s.os) (kind:c.N k->o.isNs=true->o'.isNs=true):cV g c (h.set k o') s':=by
 have hk:=(I.obj k o e).1
 have far:∀j,j<c.n->j≠k->(c.ρ j≠c.ρ k/\c.ρ j≠c.δ k)/\(c.δ j≠c.ρ k/\c.δ j≠c.δ k):=λj hj hn=>by
  refine e03 (I.inj j k hj hk hn) λx1 x2 x3=>?_
  refine e03 (I.inj k j hk hj (Ne.symm hn)) λY y2 Y=>?_
  exact⟨⟨x1,x2⟩,⟨Ne.symm y2,x3⟩⟩
 have al:∀a ob,s.heap.get? a=some ob->(¬(Al g c a/\(∀o,¬g.S a o)/\a≠g.P))->s'.heap.get? a=some ob:=λa ob h1 h2=>oth a ob (λq=>h2 (I.off k hk a (.inl q))) (λq=>h2 (I.off k hk a (.inr q))) h1
 refine⟨I.len.trans (H.length_set ..).symm,λi ob hi=>?_,λi hi=>?_,λa vs ht=>?_,λa ob hd=>al _ _ (I.dat a ob hd) λq=>q.1.D _ hd,λa ob hr=>al _ _ (I.rest a ob hr) λq=>q.1.R _ hr,λa ob hr=>?_,λb ob hb=>al _ _ (I.base b ob hb) (λq=>by(rw[q.1.B] at hb;cases hb)),I.inj,I.off,I.offS,⟨sam.1.trans I.sam.1,sam.2.1.trans I.sam.2.1,sam.2.2.trans I.sam.2.2⟩,I.t0,I.m0,λi hi=>?_,I.tab.keep λo e=>al _ _ e λq=>q.2.2 rfl,I.offP,I.sm,I.rT⟩
 .rw[H.get_set] at hi
  by_cases q:k=i
  .subst q;rw[if_pos rfl] at hi;cases hi;exact⟨hk,new⟩
  .rw[if_neg q] at hi
   refine e02 (I.obj i ob hi) λh1 h2=>?_
   refine e02 (far i h1 (Ne.symm q)) λf1 f2=>?_
   exact⟨h1,h2.at (λx=>oth _ x f1.1 f1.2) (λx=>oth _ x f2.1 f2.2)⟩
 .by_cases q:i=k
  .subst q;exact⟨pa,pd⟩
  .refine e02 (far i hi q) λf1 f2=>?_
   refine e02 (I.pres i hi) λzq8 zq9=>?_
   refine e11 zq8 λx h1=>?_
   refine e11 zq9 λy h2=>?_
   exact⟨⟨x,oth _ x f1.1 f1.2 h1⟩,⟨y,oth _ y f2.1 f2.2 h2⟩⟩
 .refine e12 (I.tup a vs ht) λx h1 r=>?_
  exact⟨x,al _ _ h1 λq=>q.1.T _ ht,r⟩
 .refine e11 (I.fra a ob hr) λsl h1=>?_
  exact⟨sl,al _ _ h1 λq=>q.2.1 _ hr⟩
 .refine e12 (I.ns i hi) λob h1 h2=>?_
  rw[H.get_set]
  by_cases q:k=i
  .subst q;rw[e] at h1;cases h1;exact⟨o',if_pos rfl,kind hi h2⟩
  .exact⟨ob,(if_neg q).trans h1,h2⟩
theorem cV.setAt{h:H}{s:Shared}{k tk:Nat}{o o':O}{h':Heap}{ob:Obj}(I:cV g c h s)(e:h.get k=some o)(ho:h'.get? (c.ρ k)=some ob)(hs':Vn (c.ρ k) s.heap h')(new:OR g c o' (c.ρ k) (c.δ k) h')(hn:o.isNs=false):
  cV g c (h.set k o') {s with heap:=h',toks:=tk}:=by
 refine I.set (s':={s with heap:=h',toks:=tk}) e (λb ob hb Y e=>(hs'.2 b hb).trans e) new ⟨_,ho⟩ ?_ ⟨rfl,rfl,rfl⟩ (λY q=>absurd (hn.symm.trans q) Ve)
 refine e11 ((I.pres _ (I.obj _ _ e).1).2) λod hod=>?_
 by_cases q:c.δ k=c.ρ k
 .exact⟨_,q▸ho⟩
 .exact⟨od,(hs'.2 _ q).trans hod⟩
theorem cV.setN{h:H}{s:Shared}{k tk:Nat}{m m':List (Nat×V)}{h':Heap}{ob:Obj}(I:cV g c h s)(e:h.get k=some (.ns m))(ho:h'.get? (c.ρ k)=some ob)(hs':Vn (c.ρ k) s.heap h')(new:OR g c (.ns m') (c.ρ k) (c.δ k) h'):
  cV g c (h.set k (.ns m')) {s with heap:=h',toks:=tk}:=by
 refine I.set (s':={s with heap:=h',toks:=tk}) e (λb ob hb Y e=>(hs'.2 b hb).trans e) new ⟨_,ho⟩ ?_ ⟨rfl,rfl,rfl⟩ (λY Y=>rfl)
 refine e11 ((I.pres _ (I.obj _ _ e).1).2) λod hod=>?_
 by_cases q:c.δ k=c.ρ k
 .exact⟨_,q▸ho⟩
 .exact⟨od,(hs'.2 _ q).trans hod⟩
theorem cV.same{h h':H}{s:Shared}(I:cV g c h s)(e:∀k,h'.get k=h.get k)(l:h'.length=h.length):cV g c h' s:=
 {I with len:=I.len.trans l.symm,obj:=λk o q=>I.obj k o ((e k).symm.trans q),ns:=λk hk=>let⟨o,h1,h2⟩:=I.ns k hk;⟨o,(e k).trans h1,h2⟩}
theorem cV.touch{h:H}{s s':Shared}{k:Nat}{o:O}(I:cV g c h s)(e:h.get k=some o)
  (oth:∀b ob,b≠c.ρ k->b≠c.δ k->s.heap.get? b=some ob->s'.heap.get? b=some ob) (new:OR g c o (c.ρ k) (c.δ k) s'.heap)
  (pa:∃ob,s'.heap.get? (c.ρ k)=some ob) (pd:∃ob,s'.heap.get? (c.δ k)=some ob) (sam:s'.gens=s.gens/\s'.drawn=s.drawn/\s'.os=s.os):cV g c h s':=
 (I.set e oth new pa pd sam λY q=>q).same (λj=>by
  rw[H.get_set]
  by_cases q:k=j
  .subst q;rw[if_pos rfl,e]
  .rw[if_neg q]) (H.length_set ..).symm
structure gZ(g:Gb)(c:Cf)(a:Addr):Prop where
 al:Al g c a
 S:∀o,¬g.S a o
 ne:∀k,k<c.n->a≠c.ρ k/\a≠c.δ k
 P:a≠g.P
theorem cV.free{h:H}{s:Shared}{a:Addr}(I:cV g c h s)(na:s.heap.get? a=none):gZ g c a where
 al:=by
  refine⟨λo q=>?_,?_,λvs q=>?_,λo q=>?_⟩
  .rw[I.rest a o q] at na;cases na
  .cases hB:g.B.get? a with
   |none=>rfl
   |some ob=>rw[I.base a ob hB] at na;cases na
  .obtain⟨x,e,_⟩:=I.tup a vs q;rw[e] at na;cases na
  .rw[I.dat a o q] at na;cases na
 S o q:=by obtain⟨sl,e⟩:=I.fra a o q;rw[e] at na;cases na
 ne k hk:=by
  refine e02 (I.pres k hk) λzq10 zq11=>?_
  refine e11 zq10 λx h1=>?_
  refine e11 zq11 λy h2=>?_
  refine⟨λq=>?_,λq=>?_⟩
  .rw[q,h1] at na;cases na
  .rw[q,h2] at na;cases na
 P q:=by obtain⟨ps,e,_⟩:=I.tab;rw[q,e] at na;cases na
theorem cV.wild{h:H}{s s':Shared}(I:cV g c h s)(D:Addr->Prop)(hD:∀a,D a->gZ g c a)(oth:∀b ob,¬D b->s.heap.get? b=some ob->s'.heap.get? b=some ob)(sam:s'.gens=s.gens/\s'.drawn=s.drawn/\s'.os=s.os):cV g c h s' where
 len:=I.len
 obj i o e:=let⟨h1,h2⟩:=I.obj i o e;⟨h1,h2.at (λob=>oth _ ob λq=>((hD _ q).ne i h1).1 rfl) (λob=>oth _ ob λq=>((hD _ q).ne i h1).2 rfl)⟩
 pres i hi:=let⟨⟨o,h1⟩,⟨o',h2⟩⟩:=I.pres i hi;⟨⟨o,oth _ _ (λq=>((hD _ q).ne i hi).1 rfl) h1⟩,⟨o',oth _ _ (λq=>((hD _ q).ne i hi).2 rfl) h2⟩⟩
 tup a vs e:=let⟨o,h1,r⟩:=I.tup a vs e;⟨o,oth _ _ (λq=>(hD _ q).al.T _ e) h1,r⟩
 dat a o e:=oth _ _ (λq=>(hD _ q).al.D _ e) (I.dat a o e)
 rest a o e:=oth _ _ (λq=>(hD _ q).al.R _ e) (I.rest a o e)
 fra a o e:=let⟨sl,h1⟩:=I.fra a o e;⟨sl,oth _ _ (λq=>(hD _ q).S _ e) h1⟩
 base b o e:=oth _ _ (λq=>by have:=(hD _ q).al.B;rw[this] at e;cases e) (I.base b o e)
 inj:=I.inj
 off:=I.off
 offS:=I.offS
 sam:=⟨sam.1.trans I.sam.1,sam.2.1.trans I.sam.2.1,sam.2.2.trans I.sam.2.2⟩
 t0:=I.t0
 m0:=I.m0
 ns:=I.ns
 tab:=I.tab.keep λo e=>oth _ _ (λq=>(hD _ q).P rfl) e
 offP:=I.offP
 sm:=I.sm
 rT:=I.rT
noncomputable def Cf.add(c:Cf)(a d:Addr)(b:Bool):Cf:=⟨c.n+1,λk=>if k=c.n then a else c.ρ k,λk=>if k=c.n then d else c.δ k,c.T,λk=>c.N k\/(b=true/\k=c.n),c.D⟩
theorem dz.add(c:Cf)(a d:Addr)(b:Bool):dz c (c.add a d b):=
 ⟨VA _,λk h=>if_neg (Vy h),λk h=>if_neg (Vy h),λY Y h=>h,λY h=>.inl h,λY Y h=>h,λY h q=>q.elim id λq=>absurd q.2 (Vy h)⟩
theorem Al.add{c:Cf}{a b d:Addr}{q:Bool}(x:Al g c a):Al g (c.add b d q) a:=⟨x.R,x.B,x.T,x.D⟩
theorem cV.pushF{h:H}{s s':Shared}{o:O}{a d:Addr}(I:cV g c h s)(k:∀b o,s.heap.get? b=some o->s'.heap.get? b=some o)
  (fa:gZ g c a) (fd:gZ g c d) (new:OR g c o a d s'.heap) (pa:∃ob,s'.heap.get? a=some ob) (pd:∃ob,s'.heap.get? d=some ob)
  (sam:s'.gens=s.gens/\s'.drawn=s.drawn/\s'.os=s.os) {fl:Bool} (hfl:fl=true->o.isNs=true):cV g (c.add a d fl) (h.push o) s':=by
 have I':=I.keep k sam
 have ext:=dz.add c a d fl
 have fresh:∀j,j<c.n->c.ρ j≠a/\c.ρ j≠d/\c.δ j≠a/\c.δ j≠d:=λj hj=>⟨Ne.symm (fa.ne j hj).1,Ne.symm (fd.ne j hj).1,Ne.symm (fa.ne j hj).2,Ne.symm (fd.ne j hj).2⟩
 have ra:(c.add a d fl).ρ c.n=a:=if_pos rfl
 have rd:(c.add a d fl).δ c.n=d:=if_pos rfl
 refine⟨(congrArg (· +1) I.len).trans (H.length_push ..).symm,λi ob hi=>?_,λi hi=>?_,I'.tup,I'.dat,I'.rest,I'.fra,I'.base,λi j hi hj hn=>?_,λi hi b hb=>?_,λb o hb=>let⟨x,y⟩:=I.offS b o hb;⟨x.add,y⟩,I'.sam,I'.t0,λx hx=>?_,λi hi=>?_,I'.tab.ext ext,I.offP.add,I.sm,I.rT⟩
 .rw[H.get_push] at hi
  by_cases q:h.length=i
  .rw[if_pos q] at hi;cases hi
   have:i=c.n:=by rw[I.len];exact q.symm
   subst this
   rw[ra,rd]
   exact⟨VH _,new.ext ext⟩
  .rw[if_neg q] at hi
   refine e02 (I'.obj i ob hi) λh1 h2=>?_
   rw[ext.ρ i h1,ext.δ i h1]
   exact⟨VN h1,h2.ext ext⟩
 .by_cases q:i=c.n
  .subst q;rw[ra,rd];exact⟨pa,pd⟩
  .have:i<c.n:=VW (VZ hi) q
   rw[ext.ρ i this,ext.δ i this];exact I'.pres i this
 .by_cases q:i=c.n
  .subst q
   have hj':j<c.n:=VW (VZ hj) (Ne.symm hn)
   rw[ra,rd,ext.ρ j hj',ext.δ j hj']
   refine e04 (fresh j hj') λf1 f2 f3 f4=>?_
   exact⟨Ne.symm f1,Ne.symm f3,Ne.symm f4⟩
  .have hi':i<c.n:=VW (VZ hi) q
   rw[ext.ρ i hi',ext.δ i hi']
   refine e04 (fresh i hi') λf1 f2 f3 f4=>?_
   by_cases q2:j=c.n
   .subst q2;rw[ra,rd];exact⟨f1,f2,f4⟩
   .have hj':j<c.n:=VW (VZ hj) q2
    rw[ext.ρ j hj',ext.δ j hj'];exact I.inj i j hi' hj' hn
 .by_cases q:i=c.n
  .subst q;rw[ra,rd] at hb
   rcases hb with rfl|rfl
   .exact⟨fa.al.add,fa.S,fa.P⟩
   .exact⟨fd.al.add,fd.S,fd.P⟩
  .have hi':i<c.n:=VW (VZ hi) q
   rw[ext.ρ i hi',ext.δ i hi'] at hb
   refine e02 (I.off i hi' b hb) λx y=>?_
   exact⟨x.add,y⟩
 .refine e02 (I.m0 x hx) λh1 h2=>?_
  exact⟨VN h1,(ext.ρ 0 h1).trans h2⟩
 .rw[H.get_push]
  rcases hi with hi|⟨h1,rfl⟩
  .refine e12 (I.ns i hi) λob h1 h2=>?_
   have:=(I.obj i ob h1).1
   rw[I.len] at this
   exact⟨ob,(if_neg (V4 this)).trans h1,h2⟩
  .exact⟨o,if_pos I.len.symm,hfl h1⟩
theorem cV.push{h:H}{s s':Shared}{o:O}{a d:Addr}(I:cV g c h s)(k:∀b o,s.heap.get? b=some o->s'.heap.get? b=some o)
  (na:s.heap.get? a=none) (nd:s.heap.get? d=none) (new:OR g c o a d s'.heap) (pa:∃ob,s'.heap.get? a=some ob) (pd:∃ob,s'.heap.get? d=some ob)
  (sam:s'.gens=s.gens/\s'.drawn=s.drawn/\s'.os=s.os) {fl:Bool} (hfl:fl=true->o.isNs=true):cV g (c.add a d fl) (h.push o) s':=I.pushF k (I.free na) (I.free nd) new pa pd sam hfl
structure Kd(g:Gb)(c:Cf)(h:H)(o:O)(ob:Obj)(s:Shared)(fl:Bool)(c':Cf):Prop where
 e:dz c c'
 i:cV g c' (h.push o) {s with heap:=s.heap.push ob}
 l:h.length<c'.n
 r:c'.ρ h.length=s.heap.objs.size
 n:c'.N h.length↔fl=true
 v:VR g c' (.ref h.length) (.ref s.heap.objs.size)
theorem cV.push1(fl:Bool){o:O}{ob:Obj}{h:H}{s:Shared}(I:cV g c h s)(nf:ob.isFreed=false)(new:∀h',h'.get? s.heap.objs.size=some ob->OR g c o s.heap.objs.size s.heap.objs.size h')(hfl:fl=true->o.isNs=true):
  ∃c',Kd g c h o ob s fl c':=
 have na:s.heap.get? s.heap.objs.size=none:=Vo (Vm _)
 have ga:(s.heap.push ob).get? s.heap.objs.size=some ob:=Vj _ nf
 have l1:h.length<c.n+1:=I.len▸VH _
 have l2:(c.add s.heap.objs.size s.heap.objs.size fl).ρ h.length=s.heap.objs.size:=if_pos I.len.symm
 ⟨_,dz.add ..,I.push (s':={s with heap:=s.heap.push ob}) (λY Y e=>Vb _ e) na na (new _ ga) ⟨_,ga⟩ ⟨_,ga⟩ ⟨rfl,rfl,rfl⟩ hfl,l1,l2,
  ⟨λq=>q.elim (λq=>let⟨o,e,_⟩:=I.ns _ q;absurd (I.len▸(I.obj _ o e).1) (Wr _)) λq=>q.1,λq=>.inr ⟨q,I.len.symm⟩⟩,l1,congrArg Value.ref l2.symm⟩
noncomputable def Cf.tupAt(c:Cf)(a:Addr)(vs:List Value):Cf:=⟨c.n,c.ρ,c.δ,λb ws=>c.T b ws\/(b=a/\ws=vs),c.N,c.D⟩
theorem dz.tupAt(c:Cf)(a:Addr)(vs:List Value):dz c (c.tupAt a vs):=⟨Vm _,λY Y=>rfl,λY Y=>rfl,λY Y h=>.inl h,λY h=>h,λY Y h=>h,λY Y h=>h⟩
theorem cV.addTup{h:H}{s:Shared}{a:Addr}{vs:List Value}(I:cV g c h s)(fa:gZ g c a)(new:s.heap.IsTuple a vs.toArray):cV g (c.tupAt a vs) h s:=by
 have al:∀b,b≠a->Al g c b->Al g (c.tupAt a vs) b:=λb hb x=>⟨x.R,x.B,λws q=>q.elim (x.T ws) λq=>hb q.1,x.D⟩
 refine⟨I.len,λi ob hi=>let⟨h1,h2⟩:=I.obj i ob hi;⟨h1,h2.ext (dz.tupAt c a vs)⟩,I.pres,λb ws ht=>?_,I.dat,I.rest,I.fra,I.base,I.inj,λi hi b hb=>?_,λb o hb=>let⟨x,y⟩:=I.offS b o hb;⟨al b (λq=>fa.S o (q▸hb)) x,y⟩,I.sam,λa vs h=>.inl (I.t0 a vs h),I.m0,I.ns,I.tab.ext (dz.tupAt c a vs),al _ (Ne.symm fa.P) I.offP,I.sm,⟨λb ws o q=>q.elim (λq=>I.rT.1 b ws o q) λq=>q.1▸fa.al.R o,I.rT.2⟩⟩
 .rcases ht with ht|⟨rfl,rfl⟩
  .exact I.tup b ws ht
  .exact new
 .refine e02 (I.off i hi b hb) λx1 x2=>?_
  exact⟨al b (λq=>hb.elim (λr=>(fa.ne i hi).1 (q.symm.trans r)) λr=>(fa.ne i hi).2 (q.symm.trans r)) x1,x2⟩
theorem cV.newTup{h:H}{s s':Shared}{a:Addr}{vs:List Value}(I:cV g c h s)(k:∀b o,s.heap.get? b=some o->s'.heap.get? b=some o)
  (na:s.heap.get? a=none) (new:s'.heap.IsTuple a vs.toArray) (sam:s'.gens=s.gens/\s'.drawn=s.drawn/\s'.os=s.os):cV g (c.tupAt a vs) h s':=(I.keep k sam).addTup (I.free na) new
noncomputable def Cf.datAt(c:Cf)(a:Addr)(o:Obj):Cf:=⟨c.n,c.ρ,c.δ,c.T,c.N,λb ob=>c.D b ob\/(b=a/\ob=o)⟩
theorem dz.datAt(c:Cf)(a:Addr)(o:Obj):dz c (c.datAt a o):=⟨Vm _,λY Y=>rfl,λY Y=>rfl,λY Y h=>h,λY h=>h,λY Y h=>.inl h,λY Y h=>h⟩
theorem cV.slots{h:H}{s:Shared}{S:List Addr}{h':Heap}(I:cV g c h s)(hs:Heap.SlotsOnly S s.heap h')(hS:∀b,b∈S->(∃k,c.N k/\b=c.ρ k)\/∃o,g.S b o):cV g c h {s with heap:=h'}:=by
 refine e03 hs λh1 h2 h3=>?_;clear hs
 have nk:∀k,c.N k->k<c.n/\((∃m,h.get k=some (.ns m))\/h.get k=some .nsU):=λk hk=>by
  refine e12 (I.ns k hk) λo e q=>?_
  cases o<;>first|(cases q;done)|exact⟨(I.obj k _ e).1,.inl ⟨_,e⟩⟩|exact⟨(I.obj k _ e).1,.inr e⟩
 have al:∀a,(¬∃k,k<c.n/\a=c.ρ k)->(∀o,¬g.S a o)->∀ob,s.heap.get? a=some ob->h'.get? a=some ob:=λa x y ob e=>by
  rw[h2 a λq=>?_];exact e
  rcases hS a q with⟨k,hk,rfl⟩|⟨o,ho⟩
  .exact x ⟨k,(nk k hk).1,rfl⟩
  .exact y o ho
 have al2:∀a ob,s.heap.get? a=some ob->(¬(Al g c a/\a≠g.P))->h'.get? a=some ob:=λa ob e x=>al a (λ⟨k,hk,q⟩=>x (let z:=I.off k hk a (.inl q);⟨z.1,z.2.2⟩)) (λo ho=>x (I.offS a o ho)) ob e
 refine {I with obj:=λi o e=>?_,pres:=λi hi=>?_,tup:=λa vs e=>?_,dat:=λa o e=>al2 _ _ (I.dat a o e) λq=>q.1.D _ e,rest:=λa o e=>al2 _ _ (I.rest a o e) λq=>q.1.R _ e,fra:=λa o e=>?_,base:=λa o e=>al2 _ _ (I.base a o e) λq=>?_,tab:=I.tab.keep λo e=>al2 _ _ e λq=>q.2 rfl}
 .refine e02 (I.obj i o e) λhi hr=>?_
  refine⟨hi,?_⟩
  by_cases q:c.ρ i∈S
  .rcases hS _ q with⟨k,hk,e2⟩|⟨ob,ho⟩
   .have:i=k:=Classical.byContradiction λn=>(I.inj i k hi (nk k hk).1 n).1 e2
    subst this
    obtain⟨_,⟨m,e3⟩|e3⟩:=nk i hk
    .rw[e] at e3;cases e3
     refine e12 hr λmm zq12 h5=>?_;clear hr
     refine e32 zq12 λo es ep e4 r=>?_
     refine e11 (h3 _ _ e4) λsl e5=>?_
     exact⟨mm,⟨_,es,ep,e5,r⟩,h5⟩
    .rw[e] at e3;cases e3
     refine e42 hr λmm o es ep e4 r=>?_;clear hr
     refine e11 (h3 _ _ e4) λsl e5=>?_
     exact⟨mm,_,es,ep,e5,r⟩
   .exact absurd ho ((I.off i hi _ (.inl rfl)).2.1 ob)
  .by_cases q2:c.δ i∈S
   .rcases hS _ q2 with⟨k,hk,e2⟩|⟨ob,ho⟩
    .have:i=k:=Classical.byContradiction λn=>(I.inj k i (nk k hk).1 hi (Ne.symm n)).2.1 e2.symm
     subst this
     obtain⟨_,⟨m,e3⟩|e3⟩:=nk i hk
     .rw[e] at e3;cases e3
      refine e12 hr λmm zq13 h5=>?_;clear hr
      refine e32 zq13 λo es ep e4 r=>?_
      refine e11 (h3 _ _ e4) λsl e5=>?_
      exact⟨mm,⟨_,es,ep,e5,r⟩,h5⟩
     .rw[e] at e3;cases e3
      refine e42 hr λmm o es ep e4 r=>?_;clear hr
      refine e11 (h3 _ _ e4) λsl e5=>?_
      exact⟨mm,_,es,ep,e5,r⟩
    .exact absurd ho ((I.off i hi _ (.inr rfl)).2.1 ob)
   .exact hr.at (λob x=>by rw[h2 _ q];exact x) (λob x=>by rw[h2 _ q2];exact x)
 .refine e02 (I.pres i hi) λzq14 zq15=>?_
  refine e11 zq14 λx e1=>?_
  refine e11 zq15 λy e2=>?_
  refine e11 (h3 _ _ e1) λY e3=>?_
  refine e11 (h3 _ _ e2) λY e4=>?_
  exact⟨⟨_,e3⟩,⟨_,e4⟩⟩
 .refine e12 (I.tup a vs e) λx e1 r=>?_
  exact⟨x,al2 _ _ e1 λq=>q.1.T _ e,r⟩
 .refine e11 (I.fra a o e) λsl e1=>?_
  refine e11 (h3 _ _ e1) λsl' e2=>?_
  exact⟨sl',e2⟩
 .rw[q.1.B] at e;cases e
end
section
noncomputable abbrev Gb.M(g:Gb):Model:=model g.pr g.wd
def FL(g:Gb)(c:Cf):List Env->Prop
 |[]=>True
 |e::l=>e.scope.kind≠.module/\(∃L,e.frame=some L/\((∃k,k<c.n/\c.N k/\L=c.ρ k)\/∃o,g.S L o/\∀vs,o.data≠.fields vs))/\FL g c l
structure dy(g:Gb)(c:Cf)(n:Nat)(A:Around):Prop where
 hh:g.C.quiet=false->A.handled=none
 dep':A.depth+n≤g.dl
 un':A.units+16 * n+64≤g.ul
 lid:g.dl≤990/\g.ul≤cLine
 fr:∃l,A.frames=some l/\FL g c l
theorem dy.dep{g:Gb}{c:Cf}{n:Nat}{A:Around}(x:dy g c n A):A.depth+n≤990:=Va x.dep' x.lid.1
theorem dy.un{g:Gb}{c:Cf}{n:Nat}{A:Around}(x:dy g c n A):A.units+16 * n+64≤cLine:=Va x.un' x.lid.2
structure FR(g:Gb)(c:Cf)(A:Around)(fr:Fr)(env:Env):Prop where
 kind:env.scope.kind=.function
 names:dG env.scope.names=fr.ks
 ins:fr.ns<c.n
 loc:env.locals=c.ρ fr.ns
 cells:∀x i,cd x≠0->(env.kindOf x=some .cell\/env.kindOf x=some .free)->eJ fr.cells (cd x)=some i->i<c.n/\env.cells.lookup x=some (c.ρ i)
 glob:env.globals=mainGlobals
 bi:env.builtins=0
 cls:env.kindOf "__class__"≠some .free
 inter:interactive env=false
 dbg:env.kindOf "__debug__"=none
 cdict:env.kindOf "__classdict__"≠some .free
 lk:∃e0 l,A.frames=some (e0::l)/\env.frame=e0.frame
 lam:fr.lam=true->env.code=.ref g.lc/\env.qual++"<lambda>"=g.lq
inductive i4(g:Gb)(c:Cf)(e:Addr)(m:Value)(s:Shared):Prop
 |mk (oe:Obj) (vs:Array Value) (T:Addr) (ot:Obj) (tvs:Array Value) (x1:s.heap.get? e=some oe) (x2:oe.data=.fields vs) (x3:1<vs.size) (x4:vs[1]? =some (.ref T))
  (t1:s.heap.get? T=some ot) (t2:ot.data=.fields tvs) (t3:3<tvs.size) (t4:tvs[3]? =some m) (t5:gZ g c T)
inductive vA(g:Gb)(c:Cf)(A:Around)(e:Addr)(s:Shared):Prop
 |new (oe:Obj) (vs:Array Value) (x1:s.heap.get? e=some oe) (x2:oe.data=.fields vs) (x3:1<vs.size) (x4:vs[1]? =some .none)
 |tb (m:Value) (d:i4 g c e m s) (w:m=.none\/∃e0 l L,A.frames=some (e0::l)/\e0.frame=some L/\m=rawInt L)
theorem i4.imp{g g':Gb}{c c':Cf}{e:Addr}{m:Value}{s:Shared}(x:i4 g c e m s)(f:∀T,gZ g c T->gZ g' c' T):i4 g' c' e m s:=
 x.rec λoe vs T ot tvs x1 x2 x3 x4 t1 t2 t3 t4 t5=>.mk oe vs T ot tvs x1 x2 x3 x4 t1 t2 t3 t4 (f T t5)
theorem vA.imp{g g':Gb}{c c':Cf}{A A':Around}{e:Addr}{s:Shared}(x:vA g c A e s)(f:∀T,gZ g c T->gZ g' c' T)(hA:A'.frames=A.frames):vA g' c' A' e s:=
 x.rec (λoe vs x1 x2 x3 x4=>.new oe vs x1 x2 x3 x4) λm d w=>.tb m (d.imp f) (by rw[hA];exact w)
inductive QV(g:Gb)(c:Cf)(K:V->H->Bool)(v:Value)(s:Shared):Prop
 |mk (a:V) (c':Cf) (h:H) (e:dz c c') (i:cV g c' h s) (r:VR g c' a v) (k:K a h=true)
inductive QB(g:Gb)(c:Cf)(K:Bool->H->Bool)(b:Bool)(s:Shared):Prop
 |mk (c':Cf) (h:H) (e:dz c c') (i:cV g c' h s) (k:K b h=true)
inductive QL(g:Gb)(c:Cf)(K:List V->H->Bool)(vs:List Value)(s:Shared):Prop
 |mk (l:List V) (c':Cf) (h:H) (e:dz c c') (i:cV g c' h s) (r:da g c' l vs) (k:K l h=true)
inductive QU(g:Gb)(c:Cf)(K:H->Bool)(u:Unit)(s:Shared):Prop
 |mk (c':Cf) (h:H) (e:dz c c') (i:cV g c' h s) (k:K h=true)
def QF(g:Gb)(c:Cf)(K:f9->H->Bool)(f:Flow)(s:Shared):Prop:=match f with
 |.next=>QU g c (K .nx) () s
 |.ret v=>QV g c (λa=>K (.rt a)) v s
 |_=>False
inductive EX(g:Gb)(c:Cf)(A:Around)(X:Nat->H->Bool)(e:Value)(s:Shared):Prop
 |mk (k:Nat) (c':Cf) (h:H) (x:dz c c') (i:cV g c' h s) (o:∃ci m,h.get k=some (.exc ci m false)) (v:e=.ref (c'.ρ k)) (f:vA g c' A (c'.ρ k) s) (t:X k h=true)
variable{g:Gb}{c c':Cf}
theorem QV.elim{P:Prop}{K:V->H->Bool}{v:Value}{s:Shared}(q:QV g c K v s)(f:∀a c' h,dz c c'->cV g c' h s->VR g c' a v->K a h=true->P):P:=let⟨a,c',h,x1,x2,x3,x4⟩:=q;f a c' h x1 x2 x3 x4
theorem QB.elim{P:Prop}{K:Bool->H->Bool}{v:Bool}{s:Shared}(q:QB g c K v s)(f:∀c' h,dz c c'->cV g c' h s->K v h=true->P):P:=let⟨c',h,x1,x2,x3⟩:=q;f c' h x1 x2 x3
theorem QL.elim{P:Prop}{K:List V->H->Bool}{v:List Value}{s:Shared}(q:QL g c K v s)(f:∀a c' h,dz c c'->cV g c' h s->da g c' a v->K a h=true->P):P:=let⟨a,c',h,x1,x2,x3,x4⟩:=q;f a c' h x1 x2 x3 x4
theorem QU.elim{P:Prop}{K:H->Bool}{v:Unit}{s:Shared}(q:QU g c K v s)(f:∀c' h,dz c c'->cV g c' h s->K h=true->P):P:=let⟨c',h,x1,x2,x3⟩:=q;f c' h x1 x2 x3
theorem QV.mono(e:dz c c'){K:V->H->Bool}{v:Value}{s:Shared}(q:QV g c' K v s):QV g c K v s:=q.elim λa c2 h e2 i r k=>⟨a,c2,h,e.trans e2,i,r,k⟩
theorem QB.mono(e:dz c c'){K:Bool->H->Bool}{v:Bool}{s:Shared}(q:QB g c' K v s):QB g c K v s:=q.elim λc2 h e2 i k=>⟨c2,h,e.trans e2,i,k⟩
theorem QU.mono(e:dz c c'){K:H->Bool}{v:Unit}{s:Shared}(q:QU g c' K v s):QU g c K v s:=q.elim λc2 h e2 i k=>⟨c2,h,e.trans e2,i,k⟩
theorem QF.mono(e:dz c c'){K:f9->H->Bool}{v:Flow}{s:Shared}(q:QF g c' K v s):QF g c K v s:=by
 cases v with
 |next=>exact QU.mono e q
 |ret v=>exact QV.mono e q
 |brk=>exact q
 |cont=>exact q
theorem EX.mono(e:dz c c'){A:Around}{X:Nat->H->Bool}{v:Value}{s:Shared}(q:EX g c' A X v s):EX g c A X v s:=q.rec λk c2 h e2 i o v f t=>⟨k,c2,h,e.trans e2,i,o,v,f,t⟩
theorem FL.ext(e:dz c c'):∀{l:List Env},FL g c l->FL g c' l
 |[],_=>trivial
 |_::_,⟨h0,⟨L,h1,h2⟩,h3⟩=>⟨h0,⟨L,h1,h2.imp (λ⟨k,b,a,d⟩=>⟨k,Vf b e.n,e.N k a,d.trans (e.ρ k b).symm⟩) id⟩,FL.ext e h3⟩
theorem cV.nlt{h:H}{s:Shared}(I:cV g c h s):∀k,c.N k->k<c.n:=λk hk=>let⟨o,h1,_⟩:=I.ns k hk;(I.obj k o h1).1
theorem dy.up{n:Nat}{A:Around}(x:dy g c n A)(e:dz c c'):dy g c' n A:=
 ⟨x.hh,x.dep',x.un',x.lid,let⟨l,h1,h2⟩:=x.fr;⟨l,h1,h2.ext e⟩⟩
theorem dy.ext{n:Nat}{A:Around}{h:H}{s:Shared}(x:dy g c n A)(_:cV g c h s)(e:dz c c'):dy g c' n A:=x.up e
theorem dy.less{m n:Nat}{A:Around}(x:dy g c n A)(h:m≤n):dy g c m A:=⟨x.hh,Va (VO h _) x.dep',Va (Wa (VO (Nat.mul_le_mul_left 16 h) _) _) x.un',x.lid,x.fr⟩
theorem dy.deep{n:Nat}{A:Around}(x:dy g c (n+1) A):A.depth<1000:=W7 (Va (Wd _ _) x.dep) (by decide)
theorem dy.step{n:Nat}{A B:Around}(oa:dy g c (n+1) A)(hd:B.depth≤A.depth+1)(hu:B.units≤A.units+16)(hh:B.handled=A.handled)(hf:∃l,B.frames=some l/\FL g c l):dy g c n B where
 hh q:=hh.trans (oa.hh q)
 dep':=Va (Wa hd n) (by rw[W4,V0 1 n];exact oa.dep')
 un':=Va (Wa (Wa hu _) _) (by rw[W4 A.units,V0 16,<-Nat.mul_succ];exact oa.un')
 lid:=oa.lid
 fr:=hf
theorem FR.ext{A:Around}{fr:Fr}{env:Env}(x:FR g c A fr env)(e:dz c c'):FR g c' A fr env:=
 ⟨x.kind,x.names,Vf x.ins e.n,x.loc.trans (e.ρ _ x.ins).symm,λy i hy hd hi=>let⟨h1,h2⟩:=x.cells y i hy hd hi;⟨Vf h1 e.n,h2.trans (by rw[e.ρ i h1])⟩,x.glob,x.bi,x.cls,x.inter,x.dbg,x.cdict,x.lk,x.lam⟩
inductive dS(g:Gb)(c:Cf)(A:Around)(env:Env)(X:Nat->H->Bool)(e:Value)(s:Shared):Prop
 |mk (k:Nat) (c':Cf) (h:H) (L:Addr) (x:dz c c') (i:cV g c' h s) (o:∃ci m,h.get k=some (.exc ci m false)) (v:e=.ref (c'.ρ k)) (f:env.frame=some L) (d:i4 g c' (c'.ρ k) (rawInt L) s) (t:X k h=true)
theorem dS.mono(e:dz c c'){A:Around}{env:Env}{X:Nat->H->Bool}{v:Value}{s:Shared}(q:dS g c' A env X v s):dS g c A env X v s:=q.rec λk c2 h L e2 i o v f d t=>⟨k,c2,h,L,e.trans e2,i,o,v,f,d,t⟩
theorem dS.env{A:Around}{env env':Env}{X:Nat->H->Bool}{v:Value}{s:Shared}(q:dS g c A env X v s)(h:env.frame=env'.frame):dS g c A env' X v s:=q.rec λk c2 h' L e2 i o v f d t=>⟨k,c2,h',L,e2,i,o,v,h.symm.trans f,d,t⟩
def QW(g:Gb)(c:Cf)(A:Around)(env:Env)(X:Nat->H->Bool)(K:f9->H->Bool)(q:Result)(s:Shared):Prop:=match q with
 |.ok f=>QF g c K f s
 |.error e=>dS g c A env X e s
theorem QW.mono(e:dz c c'){A:Around}{env:Env}{X:Nat->H->Bool}{K:f9->H->Bool}{q:Result}{s:Shared}(x:QW g c' A env X K q s):QW g c A env X K q s:=by
 cases q with
 |ok f=>exact QF.mono e x
 |error v=>exact dS.mono e x
def IK(g:Gb)(c:Cf)(A:Around)(env:Env)(X:Nat->H->Bool)(K:H->Bool)(q:Result)(s:Shared):Prop:=match q with
 |.ok f=>f=.next/\QU g c K () s
 |.error e=>dS g c A env X e s
theorem IK.mono(e:dz c c'){A:Around}{env:Env}{X:Nat->H->Bool}{K:H->Bool}{q:Result}{s:Shared}(x:IK g c' A env X K q s):IK g c A env X K q s:=by
 cases q with
 |ok f=>exact⟨x.1,QU.mono e x.2⟩
 |error v=>exact dS.mono e x
inductive SI where
 |list (l:Addr)
 |tup (t:Addr)
 |byt (b:Array UInt8) (t:Tok)
def S1(h:Heap)(it:Addr)(i:Nat):SI->Prop
 |.list l=>h.IsListIter it l i
 |.tup t=>h.IsTupleIter it t i
 |.byt b t=>KBw.IsBytesIter h it b t i
noncomputable def gP:V->Bool
 |.wr _=>true
 |.ref _=>true
 |_=>false
inductive SV(g:Gb)(c:Cf):V->SI->Prop
 |list (v:V) (l:Addr) (hp:gP v=true) (hv:VR g c v (.ref l)):SV g c v (.list l)
 |tup (l:List V) (vs:List Value) (t:Addr) (hT:c.T t vs) (hr:da g c l vs):SV g c (.tup l) (.tup t)
 |byt (l:List AI) (b:Array UInt8) (t:Tok) (hr:BR g.σ l b.toList):SV g c (.bytes l) (.byt b t)
inductive IL(g:Gb)(c:Cf)(h:Heap)(a:Addr)(l:List V):Prop
 |tup (t:Addr) (vs:List Value) (i:Nat) (h1:h.IsTupleIter a t i) (h2:c.T t vs) (h3:da g c l (vs.drop i))
 |byt (b:Array UInt8) (t:Tok) (i:Nat) (als:List AI) (h1:KBw.IsBytesIter h a b t i) (e:l=als.map V.int) (h3:BR g.σ als (b.toList.drop i))
 |rng (x jf:Int) (h1:IsRangeIter h a x jf 1) (h2:0≤jf) (e:l=(Bb x jf.toNat).map λi=>.int (.c i))
structure sR(g:Gb)(c:Cf)(h:Heap)(v w:V)(i:Nat)(z TI TO i1 i2:Addr):Prop where
 ne:TI≠z/\TO≠z/\i1≠z/\i2≠z/\TI≠TO/\TI≠i1/\TI≠i2/\TO≠i1/\TO≠i2/\i1≠i2
 zip:IsZip h z TI TO .none
 ti:IsPair h TI (.ref i1) (.ref i2)
 to:∃x y,IsPair h TO x y
 s1:∃si,SV g c v si/\S1 h i1 i si
 s2:∃si,SV g c w si/\S1 h i2 i si
inductive uM(g:Gb)(c:Cf)(h:Heap):It->Value->List Addr->Prop
 |vals (l:List V) (a:Addr) (x:IL g c h a l):uM g c h (.vals l) (.ref a) [a]
 |lst (v:V) (i:Nat) (a l:Addr) (hp:gP v=true) (hv:VR g c v (.ref l)) (h1:h.IsListIter a l i):uM g c h (.lst v i) (.ref a) [a]
 |enum (v:V) (i:Nat) (e it:Addr) (si:SI) (old:Value) (ne:e≠it) (hv:SV g c v si) (he:IsEnum h e it i old) (h1:S1 h it i si):uM g c h (.enum v i) (.ref e) [e,it]
 |zip (v w:V) (i:Nat) (z TI TO i1 i2:Addr) (k:sR g c h v w i z TI TO i1 i2):uM g c h (.zip v w i) (.ref z) [z,TI,TO,i1,i2]
inductive pB(g:Gb)(c:Cf)(h:Heap):It->Value->Prop
 |mk (it:It) (itv:Value) (L:List Addr) (hL:∀b,b∈L->gZ g c b) (hS:uM g c h it itv L):pB g c h it itv
 |emp (a d:Addr) (ep:Nat) (fa:gZ g c a) (hD:h.DictAt (strKind g.pr g.wd) d [] ep) (hK:h.IsKeyIter a d 0 0 ep) (hd:(d==sysModules)=false):pB g c h (.vals []) (.ref a)
def nR(es:List Expr)(xs:List Str):Prop:=es.map gY=xs.map some
theorem g8{e:Expr}{rest:List Expr}{env:Env}(h:∀x p,e≠.Starred x p):starEach (e::rest) env=(false,eval e env)::starEach rest env:=by
 cases e<;>first|rfl|exact absurd rfl (h _ _)
structure XD where
 nm:Str
 q:Str
 N:Addr
 bs:List Value
 mro:List Value
 dic:Bool
 sn:List Str
 sub:List Value
 ab:Bool
 col:Option Bool
 dd:Option Addr
 k0:Option Value
 k1:Option Value
 k2:Option Value
 k3:Option Value
 k5:Option Value
 newId:String
end
section
variable{g:Gb}{c c':Cf}
section
variable{A:Around}{E:Value->Shared->Prop}{h:H}{s:Shared}{k ci:Nat}{mm:List (Nat×V)}
theorem nS(I:cV g c h s)(e:h.get k=some (.exc ci mm false)):k<c.n/\c.δ k≠c.ρ k:=by
 obtain⟨hk,o,vs,m',h1,_,_,h4,⟨o2,es,ep,h5,h6,_⟩,_⟩:=I.obj k _ e
 refine⟨hk,λq=>?_⟩
 rw[q,h1] at h5;cases h5;rw[h4] at h6;cases h6
theorem Gd{oe:Obj}{vs:Array Value}{v:Value}{Q:Unit->Shared->Prop}(I:cV g c h s)(e:h.get k=some (.exc ci mm false))(h1:s.heap.get? (c.ρ k)=some oe)(h2:oe.data=.fields vs)(h3:1<vs.size)
  (hQ:∀h' oe',cV g c h {s with heap:=h'}->h'.get? (c.ρ k)=some oe'->oe'.data=.fields (vs.setIfInBounds 1 v)->(∀b o,b≠c.ρ k->s.heap.get? b=some o->h'.get? b=some o)->Q () {s with heap:=h'}):
  wpAny g.M A (setField (.ref (c.ρ k)) 1 v) Q E s:=by
 have⟨hk,hd⟩:=nS I e
 refine wpAny_setField h1 h2 h3 ?_
 have hdat:=VL h2 (·.setIfInBounds 1 v)
 have hself:=Vp (WG (·.setIfInBounds 1 v)) h1 (V7 hdat)
 have oth:∀b o,b≠c.ρ k->s.heap.get? b=some o->(s.heap.update (c.ρ k) (WG (·.setIfInBounds 1 v))).get? b=some o:=λb o hb hx=>by rw[V3 _ _ (Ne.symm hb)];exact hx
 refine hQ _ _ ?_ hself hdat oth
 obtain⟨_,o,vs0,m',f1,f2,f3,f4,⟨o2,es,ep,f5,f6⟩,f7,_⟩:=I.obj k _ e
 rw[h1] at f1;cases f1
 have odict:∀(x:Obj) f,(WG f x).dict=x.dict:=λx f=>by obtain⟨_,_,dt,_⟩:=x;cases dt<;>rfl
 refine I.touch e (λb ob hb Y hx=>oth b ob hb hx) ⟨_,_,m',hself,(WB ..).trans f2,(odict ..).trans f3,hdat,⟨o2,es,ep,oth _ _ hd f5,f6⟩,f7,λq=>by cases q⟩ ⟨_,hself⟩ ⟨_,oth _ _ hd f5⟩ ⟨rfl,rfl,rfl⟩
theorem xQ{oe:Obj}{vs:Array Value}{T:Addr}{ot:Obj}{tvs:Array Value}{v:Value}{Q:Unit->Shared->Prop}(I:cV g c h s)(e:h.get k=some (.exc ci mm false))(h1:s.heap.get? (c.ρ k)=some oe)
  (h2:oe.data=.fields vs) (h3:1<vs.size) (h4:vs[1]? =some (.ref T)) (t1:s.heap.get? T=some ot) (t2:ot.data=.fields tvs) (t3:3<tvs.size) (hT:gZ g c T)
  (hQ:∀h',cV g c h {s with heap:=h'}->h'.get? (c.ρ k)=some oe->i4 g c (c.ρ k) v {s with heap:=h'}->Q () {s with heap:=h'}):
  wpAny g.M A (setField (.ref T) 3 v) Q E s:=by
 have⟨hk,hd⟩:=nS I e
 refine wpAny_setField t1 t2 t3 ?_
 have hdat:=VL t2 (·.setIfInBounds 3 v)
 have hself:=Vp (WG (·.setIfInBounds 3 v)) t1 (V7 hdat)
 have oth:∀b o,¬b=T->s.heap.get? b=some o->(s.heap.update T (WG (·.setIfInBounds 3 v))).get? b=some o:=λb o hb hx=>by rw[V3 _ _ (Ne.symm hb)];exact hx
 have he:=oth _ _ (Ne.symm (hT.ne k hk).1) h1
 refine hQ _ (I.wild (λb=>b=T) (λa q=>q▸hT) oth ⟨rfl,rfl,rfl⟩) he ⟨_,_,T,_,_,he,h2,h3,h4,hself,hdat,by simpa using t3,by simp[t3],hT⟩
theorem ql(I:cV g c h s):∀{l:List Env},FL g c l->s.heap.FunFrames g.B l/\∀b,b∈l.filterMap (·.frame)->(∃k,c.N k/\b=c.ρ k)\/∃o,g.S b o
 |[],_=>⟨trivial,λb hb=>by simp at hb⟩
 |e::l,⟨h0,⟨L,h1,h2⟩,h3⟩=>by
  refine e02 (ql I h3) λr1 r2=>?_
  refine⟨⟨h0,⟨L,?_⟩,r1⟩,λb hb=>?_⟩
  .rcases h2 with⟨k,hlt0,hk,rfl⟩|⟨o,hs,hn⟩
   .refine e12 (I.ns k hk) λo e1 e2=>?_
    cases o<;>first|(cases e2;done)|skip
    .obtain⟨hlt,mm,⟨ob,es,ep,e3,e4,_⟩,_⟩:=I.obj k _ e1
     exact⟨ob,h1,(I.off k hlt _ (.inl rfl)).1.B,e3,λvs q=>by rw[e4] at q;cases q⟩
    .obtain⟨hlt,mm,ob,es,ep,e3,e4,_⟩:=I.obj k _ e1
     exact⟨ob,h1,(I.off k hlt _ (.inl rfl)).1.B,e3,λvs q=>by rw[e4] at q;cases q⟩
   .refine e11 (I.fra L o hs) λsl e3=>?_
    exact⟨_,h1,(I.offS L o hs).1.B,e3,hn⟩
  .rw[Wv,h1] at hb
   rcases List.mem_cons.mp hb with rfl|hb
   .rcases h2 with⟨k,_,x⟩|⟨o,hs,_⟩
    .exact .inl ⟨k,x⟩
    .exact .inr ⟨o,hs⟩
   .exact r2 b hb
theorem vB{n:Nat}{fr:Fr}{env:Env}{L:Addr}{Q:Value->Shared->Prop}(oa:dy g c n A)(f:FR g c A fr env)(hf:env.frame=some L)(I:cV g c h s)
  (hQ:∀h',cV g c h {s with heap:=h'}->(∀b o,s.heap.get? b=some o->∃sl,h'.get? b=some {o with slots:=sl})->Q (.ref L) {s with heap:=h'}):wpAny g.M A (PySem.frameOf env) Q E s:=by
 refine e22 f.lk λe0 l h1 h2=>?_
 refine e12 oa.fr λl' h3 h4=>?_
 have:l'=e0::l:=U7 (h3.symm.trans h1)
 subst this
 refine e02 (ql I h4) λr1 r2=>?_
 unfold PySem.frameOf
 refine wpAny_bind (wpAny_frameEnvs h1 ?_)
 have hdw:((e0::l).dropWhile λx=>x.frame !=env.frame)=e0::l:=by simp[List.dropWhile,h2]
 rw[hdw]
 unfold frameObject
 refine wpAny_bind (wpAny_bind (wpAny_readyFrames_fun r1 λae aI=>wpAny_pure ?_))
 rw[<-h2,hf]
 exact wpAny_pure (hQ ae (I.slots aI r2) aI.2.2)
theorem lF{n:Nat}{fr:Fr}{env:Env}{Q:Unit->Shared->Prop}(oa:dy g c n A)(f:FR g c A fr env)(I:cV g c h s)(e:h.get k=some (.exc ci mm false))(fl:vA g c A (c.ρ k) s)
  (hQ:∀L s',env.frame=some L->cV g c h s'->i4 g c (c.ρ k) (rawInt L) s'->Q () s'):wpAny g.M A (noteFrame (.ref (c.ρ k)) env) Q E s:=by
 refine e22 f.lk λe0 l l1 l2=>?_
 refine e12 oa.fr λl' l3 l4=>?_
 have:l'=e0::l:=U7 (l3.symm.trans l1)
 subst this
 refine e03 l4 λY zq16 Y=>?_;clear l4
 refine e12 zq16 λL hL Y=>?_
 have hf:env.frame=some L:=l2.trans hL
 unfold noteFrame
 simp only[hf]
 have entry:∀(head:Value) (b:Bool) (aa:Shared) (oe:Obj) (vs:Array Value),1<vs.size->cV g c h aa->aa.heap.get? (c.ρ k)=some oe->oe.data=.fields vs->
   wpAny g.M A (do let a<-PySem.frameOf env;let pl<-entryPlaceOf L b;let t<-EntryCells.newEntry head a .none (rawInt L) .none pl;setField (.ref (c.ρ k)) 1 t) Q E aa:=λhead b aa oe vs x3 af y1 y2=>by
  refine wpAny_bind (vB oa f hf af λaq am up=>?_)
  refine wpAny_bind (wpAny_entryPlaceOf λpl hpl=>?_)
  unfold EntryCells.newEntry newFields
  refine wpAny_bind (wpAny_newObj_type ?_ (hpl.sizeOk5 _ _ _ _ _))
  refine e11 (up _ _ y1) λsl y3=>?_
  have az:=am.alloc {cls:=.type "traceback",dict:=none,data:=.fields ([head,.ref L,.none,rawInt L,.none]++(if pl.isEmpty then Vr 6 Value.none else pl)).toArray}
  have na:aq.get? aq.objs.size=none:=Vo (Vm _)
  have bS:=am.free na
  have y4:=Vb {cls:=.type "traceback",dict:=none,data:=.fields ([head,.ref L,.none,rawInt L,.none]++(if pl.isEmpty then Vr 6 Value.none else pl)).toArray} y3
  refine Gd az e y4 y2 x3 λax oe' aF z1 z2 z3=>?_
  have hT:aq.objs.size≠c.ρ k:=(bS.ne k (nS am e).1).1
  have zT:=z3 _ _ hT (Vj aq rfl)
  exact hQ L _ hf aF ⟨_,_,aq.objs.size,_,_,z1,z2,by simpa using x3,by simp[x3],zT,rfl,by simp,by simp,bS⟩
 rcases fl with⟨oe,vs,x1,x2,x3,x4⟩|⟨m,⟨oe,vs,T,ot,tvs,x1,x2,x3,x4,t1,t2,t3,t4,t6⟩,t5⟩
 .refine wpAny_bind (wpAny_field x1 x2 x4 ?_)
  refine eH (by decide) ?_
  exact entry .none _ s oe vs x3 I x1 x2
 .refine wpAny_bind (wpAny_field x1 x2 x4 ?_)
  refine jR (show(Value.ref T !=Value.none)=true from by simp) ?_
  refine wpAny_bind (wpAny_field t1 t2 t4 ?_)
  by_cases hm:m=rawInt L
  .subst hm
   refine jR (by simp) ?_
   exact wpAny_pure (hQ L s hf I ⟨_,_,T,_,_,x1,x2,x3,x4,t1,t2,t3,t4,t6⟩)
  .refine eH (by simpa using hm) ?_
   refine wpAny_bind (xQ I e x1 x2 x3 x4 t1 t2 t3 t6 λae af y1 y2=>?_)
   exact entry (.ref T) _ _ oe vs x3 af y1 x2
theorem hO{m:Value}{o:Option Addr}{Q:Unit->Shared->Prop}(I:cV g c h s)(e:h.get k=some (.exc ci mm false))(fl:i4 g c (c.ρ k) m s)
  (hQ:∀s',cV g c h s'->i4 g c (c.ρ k) (o.elim .none λf=>rawInt f) s'->Q () s'):wpAny g.M A (setFlight (.ref (c.ρ k)) o) Q E s:=by
 obtain⟨oe,vs,T,ot,tvs,x1,x2,x3,x4,t1,t2,t3,t4,t5⟩:=fl
 unfold setFlight
 refine wpAny_bind (wpAny_field x1 x2 x4 ?_)
 refine jR (show(Value.ref T !=Value.none)=true from by simp) ?_
 exact xQ I e x1 x2 x3 x4 t1 t2 t3 t5 λae af y1 y2=>hQ _ af y2
theorem i4.fly{e:Addr}(x:i4 g c e .none s):vA g c A e s:=.tb _ x (.inl rfl)
theorem i4.flyL{e L:Addr}{fr:Fr}{env:Env}(f:FR g c A fr env)(hf:env.frame=some L)(x:i4 g c e (rawInt L) s):vA g c A e s:=
 let⟨e0,l,l1,l2⟩:=f.lk;.tb _ x (.inr ⟨e0,l,L,l1,l2.symm.trans hf,rfl⟩)
end
section
variable{n:Nat}{A:Around}{fr:Fr}{env:Env}{X:Nat->H->Bool}{v:Value}{s:Shared}{E:Value->Shared->Prop}
theorem sS(oa:dy g c n (A.deeper env))(f:FR g c (A.deeper env) fr env)(hx:EX g c (A.deeper env) X v s):wpAny g.M (A.deeper env) (leaving env v) (λY s'=>EX g c A X v s') E s:=by
 obtain⟨k,ag,ae,ac,af,⟨ci,mm,he⟩,rfl,fl,hX⟩:=hx
 unfold leaving
 refine wpAny_bind (lF (oa.up ac) (f.ext ac) af he fl λL aj hL am hh=>?_)
 exact hO (o:=none) am he hh λav az hh=>⟨k,ag,ae,ac,az,⟨ci,mm,he⟩,rfl,hh.fly,hX⟩
theorem Ge{k ci:Nat}{mm:List (Nat×V)}{h:H}{L:Addr}(f:FR g c A fr env)(hf:env.frame=some L)(I:cV g c h s)(he:h.get k=some (.exc ci mm false))(hh:i4 g c (c.ρ k) (rawInt L) s)(hX:X k h=true):cameBackBy g.M A env (EX g c A X) (.ref (c.ρ k)) s:=by
 unfold cameBackBy
 obtain⟨oe,vs,T,ot,tvs,x1,x2,x3,x4,r⟩:=id hh
 refine wpAny_bind (wpAny_field x1 x2 x4 ?_)
 refine eH (by simp) ?_
 rw[hf]
 exact hO (o:=some L) I he hh λav az hh=>⟨k,c,h,.refl c,az,⟨ci,mm,he⟩,rfl,hh.flyL f hf,hX⟩
theorem xR(oa:dy g c n A)(f:FR g c A fr env)(hx:EX g c A X v s):notedBy g.M A env (λe s'=>dS g c A env X e s') v s:=by
 obtain⟨k,ag,ae,ac,af,⟨ci,mm,he⟩,rfl,fl,hX⟩:=hx
 exact lF (oa.up ac) (f.ext ac) af he fl λL aj hL am hh=>⟨k,ag,ae,L,ac,am,⟨ci,mm,he⟩,rfl,hL,hh,hX⟩
theorem dS.back(f:FR g c A fr env)(hx:dS g c A env X v s):cameBackBy g.M A env (EX g c A X) v s:=by
 obtain⟨k,ag,ae,L,ac,af,⟨ci,mm,he⟩,rfl,hL,hh,hX⟩:=hx
 exact wpAny_mono (Ge (f.ext ac) hL af he hh hX) (λY Y=>EX.mono ac) λY Y=>EX.mono ac
end
end
section
variable{g:Gb}{c c':Cf}
noncomputable def cz(g:Gb):Cf:=⟨0,λY=>0,λY=>0,g.T0,λY=>False,λY Y=>False⟩
theorem cV.cz{h:H}{s:Shared}(I:cV g c h s):dz (cz g) c:=⟨VQ _,λY h=>absurd h (Vq _),λY h=>absurd h (Vq _),I.t0,λY h=>h.elim,λY Y h=>h.elim,λY h=>absurd h (Vq _)⟩
noncomputable def Gf(g:Gb):Prop:=∃mg mb,g.B.Ns mainGlobals mg/\g.B.Ns 0 mb/\∀x a,cd x≠0->g.C.G.get (cd x)=some a->(∃b,a=.bi b/\mg x=none/\mb x=some (jG b))\/(∃v,mg x=some v/\VR g (cz g) a v)
structure GF(g:Gb):Prop where
 glob:Gf g
noncomputable def Ke(g:Gb):Prop:=∀{c:Cf} {h:H} {s:Shared} {k:Nat} {o:O},cV g c h s->g.C.W.get k=some o->∃d,OR g c o (g.w k) d s.heap
structure SW(g:Gb):Prop where
 obj:Ke g
theorem lG{x:Str}(hx:cd x≠0):∀l:List (Str×NameKind),eJ (dG l) (cd x)=l.lookup x
 |[]=>rfl
 |(y,k)::r=>by
  unfold dG;rw[dY]
  rw[Vv]
  by_cases e:x=y
  .subst e
   have:U9 (cd x) (cd x)=true:=VD _
   rw[this,beq_self_eq_true]
  .have h1:U9 (cd y) (cd x)=false:=dg λq=>e (en hx q.symm)
   have h2:(x==y)=false:=by simpa using e
   rw[h1,h2];exact lG hx r
theorem eU{fr:Fr}{env:Env}{x:Str}{k:NameKind}(f:FR g c A fr env)(h:fH fr (cd x)=some k):cd x≠0/\env.kindOf x=some k:=by
 unfold fH at h
 cases hz:U9 (cd x) 0 with
 |true=>rw[hz] at h;cases h
 |false=>
  rw[hz] at h
  have hx:=ej hz
  refine⟨hx,?_⟩
  rw[<-f.names] at h
  have h:eJ (dG env.scope.names) (cd x)=some k:=h
  rw[lG hx] at h
  exact h
section
variable{A:Around}{s:Shared}{E:Value->Shared->Prop}
theorem mw{o:O}{m:List (Nat×V)}(h:oN o=some m):o=.ns m:=by
 cases o with
 |ns y=>exact congrArg O.ns (U7 h)
 |_=>exact nn h
theorem xS{o:O}{m:Option V}(h:oC o=some m):o=.cell m:=by
 cases o with
 |cell y=>exact congrArg O.cell (U7 h)
 |_=>exact nn h
theorem IM{C:Prop}{h:H}{k:Nat}{K:List (Nat×V)->Bool}(I:cV g c h s)(hk:cR (dp (h.get k) oN) K=true)(f:∀m,h.get k=some (.ns m)->k<c.n->OR g c (.ns m) (c.ρ k) (c.δ k) s.heap->K m=true->C):C:=
 cP hk λm e hk=>cW e λo e1 e2=>f m (e1.trans (congrArg some (mw e2))) (I.obj _ _ e1).1 (mw e2▸(I.obj _ _ e1).2) hk
theorem xT{C:Prop}{h:H}{k:Nat}{K:Option V->Bool}(I:cV g c h s)(hk:cR (dp (h.get k) oC) K=true)(f:∀v,h.get k=some (.cell v)->k<c.n->OR g c (.cell v) (c.ρ k) (c.δ k) s.heap->K v=true->C):C:=
 cP hk λm e hk=>cW e λo e1 e2=>f m (e1.trans (congrArg some (xS e2))) (I.obj _ _ e1).1 (xS e2▸(I.obj _ _ e1).2) hk
theorem sT{C:Prop}{fr:Fr}{env:Env}{x:Str}{h:H}{K:V->Bool}(f:FR g c A fr env)(I:cV g c h s)(hx:cd x≠0)(ke:env.kindOf x=some .cell\/env.kindOf x=some .free)(hk:Bf fr (cd x) h K=true)
  (q:∀i v a,env.cells.lookup x=some (c.ρ i)->s.heap.IsCell (c.ρ i) (some v)->VR g c a v->K a=true->C):C:=
 cP hk λi hi hk=>xT I hk λo Y Y ho hk=>cP hk λa e hk=>by
  subst e
  obtain⟨vo,hc,v,rfl,hv⟩:=ho
  exact q i v a (f.cells x i hx ke hi).2 hc hv hk
theorem sU(G:GF g){fr:Fr}{env:Env}{x:Str}{h:H}{K:V->Bool}{Q:Value->Shared->Prop}(f:FR g c A fr env)(I:cV g c h s)(hk:sI g.C fr (cd x) h K=true)
  (hq:∀a v,VR g c a v->K a=true->Q v s):wpAny g.M A (loadName env x) Q E s:=
 cP hk λk k1 hk=>by
  refine e02 (eU f k1) λhx ke=>?_
  cases k with
  |«local»=>
   exact IM I hk λm Y Y ho hk=>cP hk λa ha hK=>by
    refine e12 ho λmm hns hnr=>?_;clear ho
    refine e12 (hnr.get hx ha) λv hv hvr=>?_
    exact wpAny_loadName_local f.kind ke (f.loc▸hns) hv (hq a v hvr hK)
  |cell=>exact sT f I hx (.inl ke) hk λi v a h2 hc hv hk=>wpAny_loadName_cell f.kind ke h2 hc (hq a v hv hk)
  |free=>exact sT f I hx (.inr ke) hk λi v a h2 hc hv hk=>wpAny_loadName_free f.kind ke h2 hc (hq a v hv hk) (by
    cases hq:(x==("__classdict__":Str)) with
    |false=>rfl
    |true=>cases eq_of_beq hq;exact absurd ke f.cdict)
  |globalImplicit=>
   exact cP hk λa ha hK=>by
    refine e23 G.glob λmg mb hg hb hall=>?_
    rw[loadName_read f.kind ke]
    rcases hall x a hx ha with⟨b,rfl,hmiss,hbv⟩|⟨v,hv,hvr⟩
    .exact Calls.loadGlobal_builtin (f.glob▸hg.keeps I.base) hmiss (f.bi▸hb.keeps I.base) hbv (hq _ _ (show VR g c (.bi b) _ from rfl) hK)
    .exact Calls.loadGlobal_global (f.glob▸hg.keeps I.base) hv (hq a v (hvr.ext I.cz) hK)
  |_=>exact ft hk
theorem sV{fr:Fr}{env:Env}{x:Str}{h:H}{K:V->Bool}(f:FR g c A fr env)(hk:sI g.C fr (cd x) h K=true):(x==("__debug__":Str))=false:=by
 cases hq:(x==("__debug__":Str)) with
 |false=>rfl
 |true=>cases eq_of_beq hq;exact cP hk λk k1 Y=>nn (f.dbg.symm.trans (eU f k1).2)
theorem Name_ok(G:GF g){fr:Fr}{env:Env}{x:Str}{p:Pos}{h:H}{K:V->H->Bool}{X:Nat->H->Bool}(f:FR g c A fr env)(I:cV g c h s)
  (hk:(sI g.C fr (cd x) h λv=>K v h)=true):wpAny g.M A (eval (.Name x p) env) (QV g c K) (EX g c A X) s:=by
 rw[eval_Name _ _ _ (sV f hk)]
 exact wpAny_bind (wpAny_standAt (sU G f I hk λa v hv hK=>⟨a,c,h,.refl c,I,hv,hK⟩))
theorem Cp(l:List UInt8):BR g.σ (l.map λb=>AI.c b.toNat) l:=List.rec rfl (λb r ih=>⟨b,r,rfl,rfl,ih⟩) l
theorem Const_ok{env:Env}{k:Nat}{p:Pos}{q:Const}{h:H}{K:V->H->Bool}{X:Nat->H->Bool}(I:cV g c h s)(hk:By q h K=true):
  wpAny g.M A (eval (.Constant q k p) env) (QV g c K) (EX g c A X) s:=by
 cases q with
 |none=>exact wpAny_Constant_none ⟨.none,c,h,.refl c,I,rfl,hk⟩
 |bool b=>exact wpAny_Constant_bool ⟨.bool b,c,h,.refl c,I,rfl,hk⟩
 |int i=>
  refine(?_:wpAny g.M A (mkInt i) _ _ s)
  exact wpAny_mkInt' (d:=s.drawn) ⟨.int (.c i),c,h,.refl c,I.tok _,⟨i,_,rfl,rfl⟩,hk⟩
 |str x=>exact iV hk λh1 h2 hk=>wpAny_Constant_str ⟨.str (cd x),c,h,.refl c,I.tok _,⟨x,_,rfl,rfl,ej (dO h1),Va (Vg (VJ (xs:=x.cps)).symm) (Vi h2)⟩,hk⟩
 |bytes l=>exact Constant_bytes ⟨.bytes _,c,h,.refl c,I.tok _,⟨_,_,rfl,Cp l⟩,hk⟩
 |_=>exact ft hk
end
end
section
variable{g:Gb}{c c':Cf}
section
variable{C:Prop}{P:Value->Prop}{PL:List Value->Prop}
theorem eA{a:V}{x:AI}(h:dE a=some x):a=.int x:=by
 cases a with
 |int y=>exact congrArg V.int (U7 h)
 |_=>exact nn h
theorem jB{a:V}{x:Bool}(h:iq a=some x):a=.bool x:=by
 cases a with
 |bool y=>exact congrArg V.bool (U7 h)
 |_=>exact nn h
theorem gy{a:V}{x:Nat}(h:fj a=some x):a=.str x:=by
 cases a with
 |str y=>exact congrArg V.str (U7 h)
 |_=>exact nn h
theorem d6{a:V}{x:List AI}(h:dk a=some x):a=.bytes x:=by
 cases a with
 |bytes y=>exact congrArg V.bytes (U7 h)
 |_=>exact nn h
theorem eB{a:V}{x:List V}(h:eg a=some x):a=.tup x:=by
 cases a with
 |tup y=>exact congrArg V.tup (U7 h)
 |_=>exact nn h
theorem hU{a:V}{x:Nat}(h:iU a=some x):a=.tok x:=by
 cases a with
 |tok b=>exact congrArg V.tok (U7 h)
 |_=>exact nn h
theorem gz{o:O}{x:List V}(h:oL o=some x):o=.list x:=by
 cases o with
 |list y=>exact congrArg O.list (U7 h)
 |_=>exact nn h
theorem sW{o:O}{x:List (Nat×V)}(h:oD o=some x):o=.dict x:=by
 cases o with
 |dict y=>exact congrArg O.dict (U7 h)
 |_=>exact nn h
theorem kC{o:O}{x:List AI}(h:oB o=some x):o=.barr x:=by
 cases o with
 |barr y=>exact congrArg O.barr (U7 h)
 |_=>exact nn h
theorem IN{o:O}{l:MR}(h:oF o=some l):o=.lam l.x l.body l.sc l.cells:=by
 cases o with
 |lam x b sc cs=>cases h;rfl
 |_=>exact nn h
@[elab_as_elim] theorem kI{a:V}{v:Value}{K:AI->Bool}(h:cR (dE a) K=true)(hv:VR g c a v)(f:∀x n t,dN g.σ x n->K x=true->P (.int n t)):P v:=
 cP h λx e hk=>by
  cases eA e
  refine e22 hv λn t zq17 hx=>?_;clear hv
  cases zq17
  exact f x n t hx hk
@[elab_as_elim] theorem RJ{a:V}{v:Value}{K:Bool->Bool}(h:cR (iq a) K=true)(hv:VR g c a v)(f:∀b,K b=true->P (.bool b)):P v:=
 cP h λx e hk=>by
  cases jB e
  cases (show v=.bool x from hv)
  exact f x hk
@[elab_as_elim] theorem kS{a:V}{v:Value}{K:Nat->Bool}(h:cR (fj a) K=true)(hv:VR g c a v)(f:∀x t,cd x≠0->x.length≤1000->K (cd x)=true->P (.str x t)):P v:=
 cP h λx e hk=>by
  cases gy e
  refine e24 hv λy t zq18 zq19 h1 h2=>?_;clear hv
  cases zq18
  cases zq19
  exact f y t h1 h2 hk
@[elab_as_elim] theorem kB{a:V}{v:Value}{K:List AI->Bool}(h:cR (dk a) K=true)(hv:VR g c a v)(f:∀l b t,BR g.σ l b.toList->K l=true->P (.bytes b t)):P v:=
 cP h λx e hk=>by
  cases d6 e
  refine e22 hv λb t zq20 hx=>?_;clear hv
  cases zq20
  exact f x b t hx hk
@[elab_as_elim] theorem kT{a:V}{v:Value}{K:List V->Bool}(h:cR (eg a) K=true)(hv:VR g c a v)(f:∀l x vs,c.T x vs->da g c l vs->K l=true->P (.ref x)):P v:=
 cP h λx e hk=>by
  cases eB e
  refine e23 hv λy vs zq21 h1 h2=>?_;clear hv
  cases zq21
  exact f x y vs h1 h2 hk
@[elab_as_elim] theorem kR{a:V}{v:Value}{K:Nat->Bool}(h:cR (fk a) K=true)(hv:VR g c a v)(f:∀k,k<c.n->K k=true->P (.ref (c.ρ k))):P v:=
 cP h λx e hk=>by
  cases gx e
  refine e02 hv λh1 zq22=>?_;clear hv
  cases zq22
  exact f x h1 hk
@[elab_as_elim] theorem a0{l:List V}{vs:List Value}{k:Bool}(h:Fv l k=true)(hl:da g c l vs)(f:k=true->PL []):PL vs:=by
 cases l with
 |nil=>cases (show vs=[] from hl);exact f h
 |cons x r=>exact ft h
@[elab_as_elim] theorem a1{l:List V}{vs:List Value}{K:V->Bool}(h:iu l K=true)(hl:da g c l vs)(f:∀a v,VR g c a v->K a=true->PL [v]):PL vs:=by
 cases l with
 |nil=>exact ft h
 |cons x r=>
  refine e23 hl λv ws zq23 h1 h2=>?_;clear hl
  cases zq23
  exact a0 (PL:=λws=>PL (v::ws)) h h2 λhk=>f x v h1 hk
@[elab_as_elim] theorem a2{l:List V}{vs:List Value}{K:V->V->Bool}(h:AZ l K=true)(hl:da g c l vs)(f:∀a v b w,VR g c a v->VR g c b w->K a b=true->PL [v,w]):PL vs:=by
 cases l with
 |nil=>exact ft h
 |cons x r=>
  refine e23 hl λv ws zq24 h1 h2=>?_;clear hl
  cases zq24
  exact a1 (PL:=λws=>PL (v::ws)) h h2 λb w hb hk=>f x v b w h1 hb hk
theorem Gg{α:Type}{l:List α}(h:U9 l.length 0=true):l=[]:=V1 (cX h)
section
variable{h:H}{s:Shared}
theorem et{l:List V}{vs:Array Value}(h:da g c l vs.toList):vs.size=l.length:=(VJ (xs:=vs)).symm.trans h.length
theorem iH{a:V}{o:O}{D:i9}(e:dX D a h=some o):gP a=true:=by
 cases a with
 |wr k=>rfl
 |ref k=>rfl
 |_=>exact nn e
theorem nT{a:V}{v:Value}{o:O}(W:SW g)(I:cV g c h s)(hv:VR g c a v)(e:dX g.C a h=some o):∃x d,v=.ref x/\OR g c o x d s.heap:=by
 cases a with
 |wr k=>exact(W.obj I e).elim λd h1=>⟨_,d,hv,h1⟩
 |ref k=>exact⟨_,_,(show k<c.n/\v=.ref (c.ρ k) from hv).2,(I.obj _ _ e).2⟩
 |_=>exact nn e
@[elab_as_elim] theorem Gh{α:Type}{w:O->Option α}{a:V}{v:Value}{y:α}(W:SW g)(I:cV g c h s)(e:dp (dX g.C a h) w=some y)(hv:VR g c a v)(f:∀o x d,w o=some y->OR g c o x d s.heap->P (.ref x)):P v:=
 cW e λo e1 e2=>by
  refine e22 (nT W I hv e1) λx d zq25 h1=>?_
  cases zq25
  exact f o x d e2 h1
@[elab_as_elim] theorem kO{α:Type}{w:O->Option α}{a:V}{v:Value}{K:α->Bool}(W:SW g)(I:cV g c h s)(hk:cR (dp (dX g.C a h) w) K=true)(hv:VR g c a v)(f:∀o y x d,w o=some y->OR g c o x d s.heap->K y=true->P (.ref x)):P v:=
 cP hk λy e hk=>Gh W I e hv λo x d e2 h1=>f o y x d e2 h1 hk
@[elab_as_elim] theorem kL{a:V}{v:Value}{K:List V->Bool}(W:SW g)(I:cV g c h s)(hk:cR (gf (dX g.C a h)) K=true)(hv:VR g c a v)(f:∀l x ws,i0 s.heap x ws->da g c l ws.toList->l.length≤10000->K l=true->P (.ref x)):P v:=
 kO W I hk hv λo l x d e h1 hk=>by
  cases gz e
  refine e13 h1 λws h1 h2 h3=>?_
  exact f l x ws h1 h2 h3 hk
@[elab_as_elim] theorem kD{a:V}{v:Value}{K:List (Nat×V)->Bool}(W:SW g)(I:cV g c h s)(hk:cR (nu (dX g.C a h)) K=true)(hv:VR g c a v)(f:∀l x kvs,s.heap.DictOf (strKind g.pr g.wd) x kvs->(x==sysModules)=false->PR g c l kvs->l.length≤1000->K l=true->P (.ref x)):P v:=
 kO W I hk hv λo l x d e h1 hk=>by
  cases sW e
  refine e14 h1 λkvs h1 h2 h3 h4=>?_
  exact f l x kvs h1 h2 h3 h4 hk
@[elab_as_elim] theorem Sx{a:V}{v:Value}{K:List AI->Bool}(W:SW g)(I:cV g c h s)(hk:cR (AY (dX g.C a h)) K=true)(hv:VR g c a v)(f:∀l x o b,s.heap.get? x=some o->o.cls=.type "bytearray"->o.data=.bytearray b 0->BR g.σ l b.toList->l.length≤10000->K l=true->P (.ref x)):P v:=
 kO W I hk hv λo l x d e h1 hk=>by
  cases kC e
  refine e25 h1 λo b h1 h2 h3 h4 h5=>?_
  exact f l x o b h1 h2 h3 h4 h5 hk
theorem nU{o:O}{n:Nat×Nat}{x d:Addr}{hp:Heap}(e:oS o=some n)(h:OR g c o x d hp)(f:∀ws,i0 hp x ws->n.1≤ws.size->ws.size≤n.2->n.2≤10000->o.isNs=false->C):C:=by
 cases o with
 |list l=>
  cases e
  refine e13 h λws h1 h2 h3=>?_;clear h
  have z:=et h2
  exact f ws h1 (Vg z.symm) (Vg z) h3 rfl
 |lsU lo hi=>
  cases e
  refine e14 h λws h1 h2 h3 h4=>?_;clear h
  exact f ws h1 h2 h3 h4 rfl
 |_=>exact nn e
@[elab_as_elim] theorem kU{a:V}{v:Value}{K:Nat×Nat->Bool}(W:SW g)(I:cV g c h s)(hk:cR (H0 (dX g.C a h)) K=true)(hv:VR g c a v)(f:∀n x ws,i0 s.heap x ws->n.1≤ws.size->ws.size≤n.2->n.2≤10000->K n=true->P (.ref x)):P v:=
 kO W I hk hv λo n x d e h1 hk=>nU e h1 λws h1 h2 h3 h4 Y=>f n x ws h1 h2 h3 h4 hk
theorem MH{α:Type}{w:O->Option α}{k:Nat}{K:α->Bool}(I:cV g c h s)(hk:cR (dp (h.get k) w) K=true)(f:∀o y,h.get k=some o->w o=some y->OR g c o (c.ρ k) (c.δ k) s.heap->K y=true->C):C:=
 cP hk λy e hk=>cW e λo e1 e2=>f o y e1 e2 (I.obj _ _ e1).2 hk
theorem Gi{k:Nat}{K:List V->Bool}(I:cV g c h s)(hk:cR (gf (h.get k)) K=true)(f:∀l ws,h.get k=some (.list l)->i0 s.heap (c.ρ k) ws->da g c l ws.toList->l.length≤10000->K l=true->C):C:=
 MH I hk λo l e e1 h1 hk=>by
  cases gz e1
  refine e13 h1 λws h1 h2 h3=>?_
  exact f l ws e h1 h2 h3 hk
end
theorem Kg{a:AI}{v:Value}(h:VR g c (.int a) v):∃n t,v=.int n t/\dN g.σ a n:=h
theorem eD{a:AI}{n:Int}{t:Tok}(h:dN g.σ a n):VR g c (.int a) (.int n t):=⟨n,t,rfl,h⟩
theorem jj{l:List AI}{b:Array UInt8}{t:Tok}(h:BR g.σ l b.toList):VR g c (.bytes l) (.bytes b t):=⟨b,t,rfl,h⟩
theorem gn{l:List V}{a:Addr}{vs:List Value}(h:c.T a vs)(r:da g c l vs):VR g c (.tup l) (.ref a):=⟨a,vs,rfl,h,r⟩
theorem nV{b:Bool}:VR g c (.bool b) (.bool b):=rfl
theorem iI:VR g c .none .none:=rfl
theorem Kh{x:Str}{t:Tok}(h:cd x≠0)(h1:x.length≤1000):VR g c (.str (cd x)) (.str x t):=⟨x,t,rfl,rfl,h,h1⟩
theorem rh{k:Nat}{x:Addr}(h:k<c.n)(e:x=c.ρ k):VR g c (.ref k) (.ref x):=⟨h,congrArg Value.ref e⟩
section
variable{K:V->H->Bool}{a:V}{v:Value}{s:Shared}{h:H}
theorem QV.at(I:cV g c h s)(r:VR g c a v)(k:K a h=true):QV g c K v s:=⟨a,c,h,.refl c,I,r,k⟩
theorem QV.ti{b:AI}{n:Int}{t tk:Nat}(I:cV g c h s)(r:dN g.σ b n)(k:K (.int b) h=true):QV g c K (.int n t) {s with toks:=tk}:=.at (I.tok _) (eD r) k
theorem QV.tb{l:List AI}{b:Array UInt8}{t tk:Nat}(I:cV g c h s)(r:BR g.σ l b.toList)(k:K (.bytes l) h=true):QV g c K (.bytes b t) {s with toks:=tk}:=.at (I.tok _) (jj r) k
end
theorem BR.len{σ:Nat->Int}:∀{l:List AI} {b:List UInt8},BR σ l b->b.length=l.length
 |[],_,h=>by cases h;rfl
 |_::r,_,h=>by obtain⟨b,t,rfl,_,h2⟩:=h;exact congrArg (· +1) (BR.len h2)
theorem xU(l:List AI):∀i,fC (l.map V.int) i=(fC l i).map V.int:=List.rec (λY=>rfl) (λY Y ih i=>Nat.rec rfl (λi Y=>ih i) i) l
theorem BR.size{σ:Nat->Int}{l:List AI}{b:Array UInt8}(h:BR σ l b.toList):b.size=l.length:=(VJ (xs:=b)).symm.trans h.len
theorem lH{σ:Nat->Int}{a:AI}{n:Int}(h:dN σ a n)(e:uS a=true):0≤n/\n<256:=
 cP e λY e1 e=>cP e λY e2 e=>cT e λh1 h2=>⟨Vl (of_decide_eq_true h1) (h.lo e1),VG (Vl (h.hi e2) (of_decide_eq_true h2)) (by decide)⟩
theorem eP{a b:Nat}(h:Vk a b=true):a≤b:=Vi h
theorem dC{n:Nat}(h:n≤100000):n≤sizeLine:=Va h (by rw[sizeLine_eq];decide)
end
end
section
variable{g:Gb}{c c':Cf}
theorem BR.length{σ:Nat->Int}{l:List AI}{b:List UInt8}(h:BR σ l b):b.length=l.length:=h.len
theorem BR.append{σ:Nat->Int}:∀{l l':List AI} {b b':List UInt8},BR σ l b->BR σ l' b'->BR σ (l++l') (b++b')
 |[],_,_,_,h,h'=>by cases h;exact h'
 |_::r,_,_,_,h,h'=>by obtain⟨b,t,rfl,h1,h2⟩:=h;exact⟨b,_,rfl,h1,BR.append h2 h'⟩
theorem BR.rep{σ:Nat->Int}{l:List AI}{b:List UInt8}(h:BR σ l b):∀n,BR σ (R7 l n) (Vr n b).flatten
 |0=>rfl
 |n+1=>by rw[List.replicate_succ,List.flatten_cons];exact h.append (BR.rep h n)
theorem jC{σ:Nat->Int}{a:AI}{n:Int}(h:dN σ a n)(e:nB a=true):Builtin.Int.intBits n≤64/\n.natAbs.log2<64:=
 cP e λY e1 e=>cP e λY e2 e=>cT e λh1 h2=>by
  have h1:=Wh (of_decide_eq_true h1) (h.lo e1)
  have h2:=VG (h.hi e2) (of_decide_eq_true h2)
  by_cases h0:n=0
  .subst h0;decide
  .have q:n.natAbs.log2<64:=(Nat.log2_lt (Int.natAbs_ne_zero.mpr h0)).mpr (by unfold R8 at h1 h2;omega)
   have e:Builtin.Int.intBits n=n.natAbs.log2+1:=if_neg (by simpa using h0)
   exact⟨e▸q,q⟩
section
variable{A:Around}{s:Shared}{E:Value->Shared->Prop}
theorem zC{op:Operator}{x y:AI}{m n:Int}{t u:Tok}{h:H}{K:V->H->Bool}(I:cV g c h s)(hx:dN g.σ x m)(hy:dN g.σ y n)
  (hk:A8 op x y h K=true):wpAny g.M A (binaryOp op (.int m t) (.int n u)) (QV g c K) E s:=by
 cases op with
 |Add=>exact add_int (.ti I (hx.add hy) hk)
 |Sub=>exact PySem.P.sub_int (.ti I (hx.sub hy) hk)
 |Mult=>exact cT hk λhs hk=>cP hk λz hz hk=>PySem.P.mul_int (.ti I (hx.mul hy hz) hk) (eK hs (λq=>.of_left (jC hx q).1) λq=>.of_right (jC hy q).1)
 |FloorDiv=>
  refine cT hk λhs hk=>cP hk λz hz hk=>?_
  have h2:=(hx.div hy hz).2
  refine floordiv_int (Xg h2) ?_ (.inl (PyProof.noPylong_of_log2 (Nat.lt_trans (jC hy hs).2 (by decide))))
  rw[Int.fdiv_eq_ediv_of_nonneg _ (Wf h2)]
  exact .ti I (hx.div hy hz).1 hk
 |Mod=>
  refine cP hk λz hz hk=>?_
  have h2:=(hx.mod hy hz).2
  refine mod_int' (Xg h2) ?_
  rw[Int.fmod_eq_emod_of_nonneg _ (Wf h2)]
  exact .ti I (hx.mod hy hz).1 hk
 |Pow=>
  refine cT hk λhs hk=>cP hk λz hz hk=>?_
  refine e03 (hx.pow hy hz) λh1 h2 h3=>?_
  have hb:=(jC hx hs).1
  by_cases h0:n=0
  .subst h0;exact AutoIntOps.pow_0 h2.1 rfl (.ti I ((Int.pow_zero m).symm▸h1) hk)
  .refine AutoIntOps.pow_4 h2.1 (by simpa using h0) (λq=>?_) (λq=>?_) (λq=>?_) (.ti I h1 hk)
   .rcases Bool.or_eq_true_iff.mp q with q|q<;>exact absurd (eq_of_beq q▸h3) (by decide)
   .exact absurd (eq_of_beq q▸h3) (by decide)
   .have q:=of_decide_eq_true q
    rw[bitsLine_eq] at q
    exact absurd q (Int.not_lt.mpr (Vl (Int.mul_le_mul (Int.ofNat_le.mpr hb) h2.2 h2.1 (by decide)) (by decide)))
 |_=>exact ft hk
inductive vC(g:Gb)(c:Cf):O->List Value->Prop
 |list (l:List V) (vs:List Value) (h:da g c l vs) (b:l.length≤10000):vC g c (.list l) vs
 |sz (lo hi:Nat) (vs:List Value) (h1:lo≤vs.length) (h2:vs.length≤hi) (b:hi≤10000):vC g c (.lsU lo hi) vs
theorem vC.or{o:O}{vs:List Value}{a d:Addr}{h:Heap}{n:Nat}(x:vC g c o vs)(ha:h.get? a=some {cls:=.type "list",dict:=none,data:=.seq vs.toArray n,slots:=#[]}):OR g c o a d h:=
 vC.casesOn x (λY vs h1 h2 e=>⟨vs.toArray,e,h1,h2⟩) (λY Y vs h1 h2 h3 e=>⟨vs.toArray,e,h1,h2,h3⟩) (show i0 h a vs.toArray from⟨n,ha⟩)
theorem IO{o:O}{vs:List Value}{h:H}(I:cV g c h s)(x:vC g c o vs):
  ∃c',dz c c'/\cV g c' (h.push o) {s with heap:=s.heap.push {cls:=.type "list",data:=.seq vs.toArray}}/\VR g c' (.ref h.length) (.ref s.heap.objs.size):=
 (I.push1 false (o:=o) (ob:={cls:=.type "list",data:=.seq vs.toArray}) rfl (λY ga=>x.or ga) ft).elim λc' y=>⟨c',y.e,y.i,y.v⟩
theorem xV{a b:V}{v w:Value}{h:H}{K:O->Bool}{P:Value->Value->Prop}(W:SW g)(I:cV g c h s)(hv:VR g c a v)(hw:VR g c b w)(hk:Fx (dX g.C a h) (dX g.C b h) K=true)
  (f:∀p vs q ws o,i0 s.heap p vs->i0 s.heap q ws->vs.size+ws.size≤10000->vC g c o (vs.toList++ws.toList)->K o=true->P (.ref p) (.ref q)):P v w:=
 eK hk (λhk=>kL (P:=λv=>P v w) W I hk hv λx p vs h1 h2 Y hk=>kL (P:=λw=>P (.ref p) w) W I hk hw λy q ws h3 h4 Y hk=>cT hk λhc hk=>
   f p vs q ws _ h1 h3 (by rw[et h2,et h4];exact eP hc) (.list _ _ (h2.append h4) (by rw[Vw];exact eP hc)) hk)
  λhk=>kU (P:=λv=>P v w) W I hk hv λx p vs h1 h2 h3 Y hk=>kU (P:=λw=>P (.ref p) w) W I hk hw λy q ws h4 h5 h6 Y hk=>cT hk λhc hk=>
   have hz:=Wj h3 h6
   have e:(vs.toList++ws.toList).length=vs.size+ws.size:=by rw[Vw,VJ,VJ]
   f p vs q ws _ h1 h4 (Va hz (eP hc)) (.sz _ _ _ (e▸Wj h2 h5) (e▸hz) (eP hc)) hk
theorem kE{l:List V}{vs:List Value}{h:H}(I:cV g c h s)(hv:da g c l vs)(hl:l.length≤10000):
  ∃c',dz c c'/\cV g c' (h.push (.list l)) {s with heap:=s.heap.push {cls:=.type "list",data:=.seq vs.toArray}}/\VR g c' (.ref h.length) (.ref s.heap.objs.size):=IO I (.list _ _ hv hl)
theorem xW{l:List V}{vs:List Value}{h:H}(I:cV g c h s)(hv:da g c l vs):
  ∃c',dz c c'/\cV g c' h {s with heap:=s.heap.push {cls:=.type "tuple",data:=.seq vs.toArray}}/\VR g c' (.tup l) (.ref s.heap.objs.size):=
 have ga:(s.heap.push {cls:=.type "tuple",data:=.seq vs.toArray}).get? s.heap.objs.size=some {cls:=.type "tuple",data:=.seq vs.toArray}:=Vj _ rfl
 ⟨c.tupAt s.heap.objs.size vs,dz.tupAt ..,I.newTup (λY Y e=>Vb _ e) (Vo (Vm _)) ⟨_,ga,rfl,_,rfl⟩ ⟨rfl,rfl,rfl⟩,gn (.inr ⟨rfl,rfl⟩) (hv.ext (dz.tupAt ..))⟩
theorem zD{x y:Addr}{vs ws:Array Value}{Q:Value->Shared->Prop}(hl:i0 s.heap x vs)(hb:i0 s.heap y ws)(hsz:vs.size+ws.size≤10000)
  (h:Q (.ref s.heap.objs.size) {s with heap:=s.heap.push {cls:=.type "list",data:=.seq (vs.toList++ws.toList).toArray}}):wpAny g.M A (binaryOp .Add (.ref x) (.ref y)) Q E s:=by
 refine e11 hl λn ho=>?_;clear hl
 refine e11 hb λn2 ho2=>?_;clear hb
 have e:(vs.toList++ws.toList).toArray=vs++ws:=W3 Array.toList_append.symm
 exact concat_meets ⟨_,ho,rfl⟩ ⟨_,ho2,rfl⟩ noFill_list_add seq_list_add PySem.F.slot_list_add PySem.F.entry_list_add (PySem.F.args_list_add_2 _ _) (list_addW x y vs ws n n2 none none #[] #[] (dC (Va hsz (by decide)))) ⟨ho,ho2,e▸h⟩
theorem Cq{x y:Addr}{vs ws:Array Value}{Q:Value->Shared->Prop}(hl:s.heap.IsTuple x vs)(hb:s.heap.IsTuple y ws)(hsz:vs.size+ws.size≤sizeLine)
  (h0:vs=#[]->Q (.ref y) s) (h1:vs≠#[]->ws=#[]->Q (.ref x) s)
  (h:Q (.ref s.heap.objs.size) {s with heap:=s.heap.push {cls:=.type "tuple",data:=.seq (vs++ws)}}):wpAny g.M A (binaryOp .Add (.ref x) (.ref y)) Q E s:=by
 obtain⟨⟨cls,dd,data,sl⟩,ho,hc,n,hd⟩:=hl
 obtain⟨⟨cls2,dd2,data2,sl2⟩,ho2,hc2,n2,hd2⟩:=hb
 cases hc;cases hd;cases hc2;cases hd2
 by_cases hv:vs=#[]
 .exact concat_meets ⟨_,ho,rfl⟩ ⟨_,ho2,rfl⟩ noFill_tuple_add seq_tuple_add PySem.F.slot_tuple_add PySem.F.entry_tuple_add (PySem.F.args_tuple_add_2 _ _)
   (tuple_addW0 x y vs ws n n2 dd dd2 sl sl2 (by simp[hv])) ⟨ho,ho2,h0 hv⟩
 .by_cases hw:ws=#[]
  .exact concat_meets ⟨_,ho,rfl⟩ ⟨_,ho2,rfl⟩ noFill_tuple_add seq_tuple_add PySem.F.slot_tuple_add PySem.F.entry_tuple_add (PySem.F.args_tuple_add_2 _ _)
    (tuple_addW1 x y vs ws n n2 dd dd2 sl sl2 (by simpa using hv) (by simp[hw])) ⟨ho,ho2,h1 hv hw⟩
  .exact concat_meets ⟨_,ho,rfl⟩ ⟨_,ho2,rfl⟩ noFill_tuple_add seq_tuple_add PySem.F.slot_tuple_add PySem.F.entry_tuple_add (PySem.F.args_tuple_add_2 _ _)
    (tuple_addW2 x y vs ws n n2 dd dd2 sl sl2 (by simpa using hv) (by simpa using hw) hsz) ⟨ho,ho2,h⟩
theorem Cr{x:Str}(h:x.length=0):cd x=iv:=by
 have e:x.cps.toList=[]:=V1 ((VJ (xs:=x.cps)).trans h)
 exact congrArg (sC · 1) e
@[elab_as_elim] theorem TX{P:Value->Prop}{a:V}{v:Value}{K:Nat->Bool}(h:VR g c a v)(hk:cR (uW a) K=true)(f:∀n x t,x.length≤n->(kl a=true->x.length≠0)->K n=true->P (.str x t)):P v:=by
 cases a with
 |str k=>
  refine e24 h λx t zq26 h1 h2 h3=>?_;clear h
  cases zq26
  exact f 1000 x t h3 (λhn h0=>by rw[show kl (.str k)= !(U9 k iv) from rfl,<-h1,Cr h0] at hn;exact ft hn) hk
 |strU n=>
  refine e24 h λx t zq27 h1 h2 h3=>?_;clear h
  cases zq27
  exact f n x t h2 (λY=>h1) hk
 |_=>exact ft hk
theorem Cs{op:Operator}(h:H8 op=true):op=.Add:=by
 cases op with
 |Add=>rfl
 |_=>exact ft h
theorem Ct{op:Operator}(h:H9 op=true):op=.Mult:=by
 cases op with
 |Mult=>rfl
 |_=>exact ft h
theorem Cu{x y:List AI}{p q:Array UInt8}{t u:Tok}{h:H}{K:V->H->Bool}(I:cV g c h s)(hx:BR g.σ x p.toList)(hy:BR g.σ y q.toList)(hk:Ia x y h K=true):
  wpAny g.M A (binaryOp .Add (.bytes p t) (.bytes q u)) (QV g c K) E s:=
 cT hk λhc hk=>KBy.add_bytes (by rw[hx.size,hy.size];exact Va (eP hc) (by decide)) λt' k=>.tb I (by rw[VI];exact hx.append hy) hk
theorem Cv{x y:List V}{p q:Addr}{vs ws:List Value}{h:H}{K:V->H->Bool}(I:cV g c h s)(hx1:c.T p vs)(hx2:da g c x vs)(hy1:c.T q ws)(hy2:da g c y ws)(hk:Ib x y h K=true):
  wpAny g.M A (binaryOp .Add (.ref p) (.ref q)) (QV g c K) E s:=
 cT hk λhc hk=>by
  have app:=hx2.append hy2
  have hl:vs.toArray.size+ws.toArray.size≤sizeLine:=dC (Va (by rw[Vz,Vz,hx2.length,hy2.length];exact eP hc) (by decide))
  refine Cq (I.tup _ _ hx1) (I.tup _ _ hy1) hl (λq=>?_) (λY q=>?_) ?_
  .cases vs with
   |nil=>exact .at I (gn hy1 app) hk
   |cons _ _=>exact absurd (congrArg WN q) (VU _)
  .cases ws with
   |nil=>exact .at I (gn hx1 (by rwa [V5] at app)) hk
   |cons _ _=>exact absurd (congrArg WN q) (VU _)
  .refine e13 (xW I app) λc' e I' r=>?_
   rw[<-List.append_toArray] at I'
   exact⟨_,c',_,e,I',r,hk⟩
theorem Gj{a b:V}{v w:Value}{h:H}{K:V->H->Bool}(I:cV g c h s)(hv:VR g c a v)(hw:VR g c b w)(hk:MV a b h K=true):wpAny g.M A (binaryOp .Add v w) (QV g c K) E s:=
 TX hv hk λm x t hx hxn hk=>TX hw hk λn y u hy hyn hk=>iV hk λhc hne hk=>by
  have hb:=Va (Wj hx hy) (eP hc)
  refine add_str (λt' tk=>.at (a:=.strU (m+n)) (I.tok _) ⟨_,_,rfl,?_,?_,eP hc⟩ hk) (dC hb)
  .rw[strLen_append]
   exact λq=>eK hne (λz=>hxn z (Nat.eq_zero_of_add_eq_zero_right q)) λz=>hyn z (Nat.eq_zero_of_add_eq_zero_left q)
  .rw[strLen_append];exact Wj hx hy
theorem Cw{x:List AI}{i:AI}{p:Array UInt8}{n:Int}{t u:Tok}{h:H}{K:V->H->Bool}(I:cV g c h s)(hx:BR g.σ x p.toList)(hi:dN g.σ i n)(hk:Ic x i h K=true):
  wpAny g.M A (binaryOp .Mult (.bytes p t) (.int n u)) (QV g c K) E s:=
 cP hk λm e1 hk=>F5 hk λc1 c2 c3 c4 hk=>by
  cases hi.cst e1
  have c4:=eP c4
  have l1:=hx.length
  have ne:p.toList≠[]:=λq=>by rw[q] at l1;rw[<-l1] at c2;exact ft c2
  have b1:∀{z:Int},z.natAbs≤1000000->-1048576≤z/\z≤1048576:=λh=>by omega
  exact bytes_mul_any (b:=p.toList) ne (b1 c4).1 (b1 c4).2 (l1▸eP c3) λt' k=>.tb I (hx.rep n.toNat) hk
theorem binop_ok(W:SW g){op:Operator}{a b:V}{v w:Value}{h:H}{K:V->H->Bool}(I:cV g c h s)(hv:VR g c a v)(hw:VR g c b w)
  (hk:Id g.C op a b h K=true):wpAny g.M A (binaryOp op v w) (QV g c K) E s:=
 Ck hk (λhk=>kI hk hv λx m t hx hk=>kI hk hw λy n u hy hk=>zC I hx hy hk) (λhk=>cT hk λe hk=>Cs e▸
   RH hk (λhk=>kB hk hv λx p t hx hk=>kB hk hw λy q u hy hk=>Cu I hx hy hk) (λhk=>kT hk hv λx p vs hx1 hx2 hk=>kT hk hw λy q ws hy1 hy2 hk=>Cv I hx1 hx2 hy1 hy2 hk) (λhk=>Gj I hv hw hk) (λhk=>xV (P:=λv w=>wpAny g.M A (binaryOp .Add v w) (QV g c K) E s) W I hv hw hk λp vs q ws o h1 h2 hs hn hK=>(IO I hn).elim λc' y=>zD h1 h2 hs ⟨_,c',_,y.1,y.2.1,y.2.2,hK⟩)) (λhk=>cT hk λe hk=>Ct e▸kB hk hv λx p t hx hk=>kI hk hw λi n u hi hk=>Cw I hx hi hk)
end
end
section
variable{g:Gb}{c c':Cf}
def lI(h:Heap)(i:Nat)(P:Value->Prop):SI->Prop
 |.list l=>∃xs x,h.IsList l xs/\xs[i]? =some x/\P x
 |.tup t=>∃xs x,h.IsTuple t xs/\xs[i]? =some x/\P x
 |.byt b _=>∃y,b[i]? =some y/\∀u,P (.int (y.toNat:Int) u)
def Gk(h:Heap)(i:Nat):SI->Prop
 |.list l=>∃xs,h.IsList l xs/\xs[i]? =none
 |.tup t=>∃xs,h.IsTuple t xs/\xs[i]? =none
 |.byt b _=>b[i]? =none
noncomputable def TY:SI->String
 |.list _=>"list_iterator"
 |.tup _=>"tuple_iterator"
 |.byt _ _=>"bytes_iterator"
noncomputable def Sy:SI->String
 |.list _=>"list_iterator.__next__"
 |.tup _=>"tuple_iterator.__next__"
 |.byt _ _=>"bytes_iterator.__next__"
theorem nc:∀si,Slot (TY si) "__next__" (Sy si)
 |.list _=>slot_listiter_next
 |.tup _=>F.slot_tuple_iterator_next
 |.byt _ _=>KBw.slot_next
theorem S1.typeIs{s:Shared}{it:Addr}{i:Nat}:∀{si:SI},S1 s.heap it i si->s.TypeIs (.ref it) (TY si)
 |.list _,h=>Heap.IsListIter.typeIs h
 |.tup _,h=>Heap.IsTupleIter.typeIs h
 |.byt _ _,h=>KBw.iter_typeIs h
theorem S1.at{h h':Heap}{it:Addr}{i:Nat}(k:∀o,h.get? it=some o->h'.get? it=some o):∀{si:SI},S1 h it i si->S1 h' it i si
 |.list _,x=>let⟨o,e,r⟩:=x;⟨o,k _ e,r⟩
 |.tup _,x=>let⟨o,e,r⟩:=x;⟨o,k _ e,r⟩
 |.byt _ _,x=>let⟨o,e,r⟩:=x;⟨o,k _ e,r⟩
section
variable{A:Around}{E:Value->Shared->Prop}{s:Shared}{it:Addr}{i:Nat}
theorem ri{h:Heap}{g0 d t os}{Q:Fin->Shared->Prop}(hh:A.handled=none)(hE:∀h' e,(∀b o,h.get? b=some o->h'.get? b=some o)->(∃o,h'.get? e=some o/\o.cls=.type "StopIteration")->E (.ref e) ⟨h',g0,d,t,os⟩)(k:Value->Sem Fin)
  (hk:∀v,k v=(raiseNew v)):wpAny g.M A (newExc (.type "StopIteration") []>>=k) Q E ⟨h,g0,d,t,os⟩:=by
 refine wpAny_bind ?_
 simp only[newExc,newTuple]
 refine wpAny_bind (wpAny_newObj_type ?_ (by size_fits))
 refine wpAny_bind (m:=firstArgMember _ _) (wpAny_of_eq (a:=Value.none) (by first|rfl|(simp only[firstArgMember];rfl)) ?_)
 refine wpAny_newObj_type ?_ (by size_fits)
 rw[hk]
 exact wpAny_raiseNew_none hh (hE _ _ (λb o e=>Vb _ (Vb _ e)) ⟨_,Vj _ rfl,rfl⟩)
theorem mx{P:Value->Prop}{Q:Value->Shared->Prop}:∀{si:SI},S1 s.heap it i si->lI s.heap i P si->(∀x h' tk,P x->S1 h' it (i+1) si->Vn it s.heap h'->Q x {s with heap:=h',toks:=tk})->
  wpAny g.M A (call (.builtin (Sy si)) [.ref it]) Q E s
 |.list l,hit,hx,hQ=>by
  refine e13 (id hit) λo ho hc hd=>?_
  refine e23 hx λxs x zq28 hx hp=>?_
  obtain⟨ol,hol,_,nl,xr⟩:=zq28
  refine(?_:wpAny g.M A (call (.builtin "list_iterator.__next__") [.ref it]) Q E s)
  refine wpAny_call_entry slot_listiter_next (S1.typeIs hit) entry_listiter_next ?_ (args_listiter_next _)
  refine(?_:wpAny _ _ (field (.ref it) 0>>=_) _ _ s)
  refine wpAny_bind (wpAny_field ho hd (x:=.ref l) rfl ?_)
  refine(?_:wpAny _ _ (if(Value.ref l==Value.none)=true then _ else _) _ _ s)
  refine eH (show¬((Value.ref l==Value.none)=true) from Ve) ?_
  refine(?_:wpAny _ _ (field (.ref it) 1>>=_) _ _ s)
  refine wpAny_bind (wpAny_field ho hd (x:=.int i 0) rfl ?_)
  refine wpAny_bind (wpAny_seqItems hol xr ?_)
  simp only[Vt,hx]
  refine wpAny_bind (wpAny_setField ho hd (by simp) (wpAny_pure ⟨x,rfl,hQ x _ s.toks hp ⟨_,Vp _ ho (V7 (VL hd _)),(WB ..).trans hc,?_⟩ (Heap.SameBut.update ..)⟩))
  rw[VL hd];simp[rawInt]
 |.tup l,hit,hx,hQ=>by
  refine e13 (id hit) λo ho hc hd=>?_
  refine e23 hx λxs x zq29 hx hp=>?_
  obtain⟨ol,hol,_,nl,xr⟩:=zq29
  refine(?_:wpAny g.M A (call (.builtin "tuple_iterator.__next__") [.ref it]) Q E s)
  refine wpAny_call_entry F.slot_tuple_iterator_next (S1.typeIs hit) F.entry_tuple_iterator_next ?_ (F.args_tuple_iterator_next_1 _)
  refine(?_:wpAny _ _ (field (.ref it) 0>>=_) _ _ s)
  refine wpAny_bind (wpAny_field ho hd (x:=.ref l) rfl ?_)
  refine(?_:wpAny _ _ (if(Value.ref l==Value.none)=true then _ else _) _ _ s)
  refine eH (show¬((Value.ref l==Value.none)=true) from Ve) ?_
  refine(?_:wpAny _ _ (field (.ref it) 1>>=_) _ _ s)
  refine wpAny_bind (wpAny_field ho hd (x:=.int i 0) rfl ?_)
  refine wpAny_bind (wpAny_seqItems hol xr ?_)
  simp only[Vt,hx]
  refine wpAny_bind (wpAny_setField ho hd (by simp) (wpAny_pure ⟨x,rfl,hQ x _ s.toks hp ⟨_,Vp _ ho (V7 (VL hd _)),(WB ..).trans hc,?_⟩ (Heap.SameBut.update ..)⟩))
  rw[VL hd];simp[rawInt]
 |.byt b t,hit,hx,hQ=>by
  refine e13 (id hit) λo ho hc hd=>?_
  refine e12 hx λy hx hp=>?_
  refine(?_:wpAny g.M A (call (.builtin "bytes_iterator.__next__") [.ref it]) Q E s)
  refine wpAny_call_entry KBw.slot_next (S1.typeIs hit) KBw.entry_next ?_ (KBw.args_next _)
  refine(?_:wpAny _ _ (field (.ref it) 0>>=_) _ _ s)
  refine wpAny_bind (wpAny_field ho hd (x:=.bytes b t) rfl ?_)
  refine(?_:wpAny _ _ (if(Value.bytes b t==Value.none)=true then _ else _) _ _ s)
  refine eH (show¬((Value.bytes b t==Value.none)=true) from Ve) ?_
  refine(?_:wpAny _ _ (field (.ref it) 1>>=_) _ _ s)
  refine wpAny_bind (wpAny_field ho hd (x:=.int i 0) rfl ?_)
  refine wpAny_bind (wpAny_of_eq (a:=b) rfl ?_)
  simp only[Vt,hx]
  refine wpAny_bind (wpAny_setField ho hd (by simp) (wpAny_bind (wpAny_mkInt (wpAny_pure ⟨_,rfl,hQ _ _ (s.toks+1) (hp _) ⟨_,Vp _ ho (V7 (VL hd _)),(WB ..).trans hc,?_⟩ (Heap.SameBut.update ..)⟩))))
  rw[VL hd];simp[rawInt]
theorem nW{Q:Value->Shared->Prop}(hh:A.handled=none):∀{si:SI},S1 s.heap it i si->Gk s.heap i si->
  (∀h' e,Wi it s.heap h'->(∃o,h'.get? e=some o/\o.cls=.type "StopIteration")->E (.ref e) {s with heap:=h'})->
  wpAny g.M A (call (.builtin (Sy si)) [.ref it]) Q E s
 |.list l,hit,hx,hE=>by
  refine e13 (id hit) λo ho hc hd=>?_
  refine e12 hx λxs zq30 hx=>?_
  obtain⟨ol,hol,_,nl,xr⟩:=zq30
  refine(?_:wpAny g.M A (call (.builtin "list_iterator.__next__") [.ref it]) Q E s)
  refine wpAny_call_entry slot_listiter_next (S1.typeIs hit) entry_listiter_next ?_ (args_listiter_next _)
  refine(?_:wpAny _ _ (field (.ref it) 0>>=_) _ _ s)
  refine wpAny_bind (wpAny_field ho hd (x:=.ref l) rfl ?_)
  refine(?_:wpAny _ _ (if(Value.ref l==Value.none)=true then _ else _) _ _ s)
  refine eH (show¬((Value.ref l==Value.none)=true) from Ve) ?_
  refine(?_:wpAny _ _ (field (.ref it) 1>>=_) _ _ s)
  refine wpAny_bind (wpAny_field ho hd (x:=.int i 0) rfl ?_)
  refine wpAny_bind (wpAny_seqItems hol xr ?_)
  simp only[Vt,hx]
  refine wpAny_bind (wpAny_rule (wpAny_bind (wpAny_setField ho hd (by simp) ?_)))
  exact ri (A:=A.in1) hh (λh' e k he=>hE h' e (λb o hb hx=>k _ _ ((Heap.SameBut.update ..).extBut b o hb hx)) he) _ λY=>rfl
 |.tup l,hit,hx,hE=>by
  refine e13 (id hit) λo ho hc hd=>?_
  refine e12 hx λxs zq31 hx=>?_
  obtain⟨ol,hol,_,nl,xr⟩:=zq31
  refine(?_:wpAny g.M A (call (.builtin "tuple_iterator.__next__") [.ref it]) Q E s)
  refine wpAny_call_entry F.slot_tuple_iterator_next (S1.typeIs hit) F.entry_tuple_iterator_next ?_ (F.args_tuple_iterator_next_1 _)
  refine(?_:wpAny _ _ (field (.ref it) 0>>=_) _ _ s)
  refine wpAny_bind (wpAny_field ho hd (x:=.ref l) rfl ?_)
  refine(?_:wpAny _ _ (if(Value.ref l==Value.none)=true then _ else _) _ _ s)
  refine eH (show¬((Value.ref l==Value.none)=true) from Ve) ?_
  refine(?_:wpAny _ _ (field (.ref it) 1>>=_) _ _ s)
  refine wpAny_bind (wpAny_field ho hd (x:=.int i 0) rfl ?_)
  refine wpAny_bind (wpAny_seqItems hol xr ?_)
  simp only[Vt,hx]
  refine wpAny_bind (wpAny_rule (wpAny_bind (wpAny_setField ho hd (by simp) ?_)))
  exact ri (A:=A.in1) hh (λh' e k he=>hE h' e (λb o hb hx=>k _ _ ((Heap.SameBut.update ..).extBut b o hb hx)) he) _ λY=>rfl
 |.byt b t,hit,hx,hE=>by
  refine e13 (id hit) λo ho hc hd=>?_
  have hx:b[i]? =none:=hx
  refine(?_:wpAny g.M A (call (.builtin "bytes_iterator.__next__") [.ref it]) Q E s)
  refine wpAny_call_entry KBw.slot_next (S1.typeIs hit) KBw.entry_next ?_ (KBw.args_next _)
  refine(?_:wpAny _ _ (field (.ref it) 0>>=_) _ _ s)
  refine wpAny_bind (wpAny_field ho hd (x:=.bytes b t) rfl ?_)
  refine(?_:wpAny _ _ (if(Value.bytes b t==Value.none)=true then _ else _) _ _ s)
  refine eH (show¬((Value.bytes b t==Value.none)=true) from Ve) ?_
  refine(?_:wpAny _ _ (field (.ref it) 1>>=_) _ _ s)
  refine wpAny_bind (wpAny_field ho hd (x:=.int i 0) rfl ?_)
  refine wpAny_bind (wpAny_of_eq (a:=b) rfl ?_)
  simp only[Vt,hx]
  refine wpAny_bind (wpAny_rule (wpAny_bind (wpAny_setField ho hd (by simp) ?_)))
  exact ri (A:=A.in1) hh (λh' e k he=>hE h' e (λb o hb hx=>k _ _ ((Heap.SameBut.update ..).extBut b o hb hx)) he) _ λY=>rfl
theorem gQ{P:Value->Prop}{Q:Value->Shared->Prop}{si:SI}(hit:S1 s.heap it i si)(hx:lI s.heap i P si)(hQ:∀x h' tk,P x->S1 h' it (i+1) si->Vn it s.heap h'->Q x {s with heap:=h',toks:=tk}):
  wpAny g.M A (Builtin.SmallTypes.nextOf (.ref it)) Q E s:=by
 unfold Builtin.SmallTypes.nextOf
 exact wpAny_bind (wpAny_callSpecial?_slot (name:=U8 "__next__") (S1.typeIs hit) (nc si) (mx hit hx λx h' tk p a b=>wpAny_pure (hQ x h' tk p a b)))
theorem j7{Q:Value->Shared->Prop}(hh:A.handled=none){si:SI}(hit:S1 s.heap it i si)(hx:Gk s.heap i si)
  (hE:∀h' e,Wi it s.heap h'->(∃o,h'.get? e=some o/\o.cls=.type "StopIteration")->E (.ref e) {s with heap:=h'}):wpAny g.M A (Builtin.SmallTypes.nextOf (.ref it)) Q E s:=by
 unfold Builtin.SmallTypes.nextOf
 exact wpAny_bind (wpAny_callSpecial?_slot (name:=U8 "__next__") (S1.typeIs hit) (nc si) (nW hh hit hx hE))
theorem jk{P:Value->Prop}{Q:Option Value->Shared->Prop}{si:SI}(hit:S1 s.heap it i si)(hx:lI s.heap i P si)(hQ:∀x h' tk,P x->S1 h' it (i+1) si->Vn it s.heap h'->Q (some x) {s with heap:=h',toks:=tk}):
  wpAny g.M A (pyNext (.ref it)) Q E s:=by
 unfold pyNext
 exact wpAny_bind (wpAny_attempt (wpAny_callSpecial?_slot (name:=U8 "__next__") (S1.typeIs hit) (nc si) (mx hit hx λx h' tk p a b=>wpAny_pure (hQ x h' tk p a b))))
theorem j8{Q:Option Value->Shared->Prop}(hh:A.handled=none){si:SI}(hit:S1 s.heap it i si)(hx:Gk s.heap i si)(hQ:∀h',Wi it s.heap h'->Q none {s with heap:=h'}):wpAny g.M A (pyNext (.ref it)) Q E s:=by
 unfold pyNext
 refine wpAny_bind (wpAny_attempt (wpAny_callSpecial?_slot (name:=U8 "__next__") (S1.typeIs hit) (nc si) (nW hh hit hx λh' e k he=>?_)))
 refine e12 he λo ho hc=>?_;clear he
 refine wpAny_bind (wpAny_isInstance (T:="StopIteration") (b:=true) ⟨o,ho,hc⟩ isSubtype_stop ?_)
 exact wpAny_pure (hQ _ k)
end
end
section
variable{g:Gb}{c c':Cf}
section
variable{A:Around}{E:Value->Shared->Prop}{s:Shared}
theorem pI{e it:Addr}{i:Nat}{si:SI}{P:Value->Prop}{old:Value}{Q:Value->Shared->Prop}(he:IsEnum s.heap e it i old)(hit:S1 s.heap it i si)(hx:lI s.heap i P si)(hne:e≠it)
  (hQ:∀x h' tk tk',P x->IsEnumOut h' e it ((i:Int)+1) x s.heap.objs.size->S1 h' it (i+1) si->h'.get? s.heap.objs.size=some {cls:=.type "tuple",data:=.seq #[.int i tk,x]}->
   (∀b o,b≠e->b≠it->s.heap.get? b=some o->h'.get? b=some o)->Q (.ref s.heap.objs.size) {s with heap:=h',toks:=tk'}):
  wpAny g.M A (Builtin.«enumerate.__next__» ⟨[.ref e],[]⟩) (λfin s'=>∃v,fin=.done (.ret v)/\Q v s') E s:=by
 obtain⟨hp,gg,d,tk,os⟩:=s
 refine(?_:wpAny _ _ (field (.ref e) 2>>=_) _ _ _)
 refine wpAny_bind (wpAny_field he rfl (x:=.ref it) rfl ?_)
 refine wpAny_bind (gQ hit hx λx ae aM hp1 cg aI=>?_)
 have aI:Vn it hp ae:=aI
 have bB:IsEnum ae e it i old:=(aI.2 e hne).trans he
 refine(?_:wpAny _ _ (field (.ref e) 3>>=_) _ _ ⟨ae,gg,d,aM,os⟩)
 refine wpAny_bind (wpAny_field bB rfl (x:=rawInt i) rfl ?_)
 refine(?_:wpAny _ _ (field (.ref e) 4>>=_) _ _ ⟨ae,gg,d,aM,os⟩)
 refine wpAny_bind (wpAny_field bB rfl (x:=.none) rfl ?_)
 refine(?_:wpAny _ _ (mkInt i>>=_) _ _ ⟨ae,gg,d,aM,os⟩)
 refine wpAny_bind (wpAny_mkInt ?_)
 refine(?_:wpAny _ _ (setField (.ref e) 3 (rawInt ((i:Int)+1))>>=_) _ _ ⟨ae,gg,d,aM+1,os⟩)
 refine wpAny_bind (wpAny_setField_rec bB (by simp) λaq aU aE=>?_)
 have aE:Vn e ae aq:=aE
 have aU:IsEnum aq e it ((i:Int)+1) old:=aU
 refine(?_:wpAny _ _ (setField (.ref e) 4 .none>>=_) _ _ ⟨aq,gg,d,aM+1,os⟩)
 refine wpAny_bind (wpAny_setField_rec aU (by simp) λaw bC aK=>?_)
 have aK:Vn e aq aw:=aK
 have bC:IsEnum aw e it ((i:Int)+1) old:=bC
 refine(?_:wpAny _ _ (newTuple [.int i aM,x]>>=_) _ _ ⟨aw,gg,d,aM+1,os⟩)
 refine wpAny_bind (wpAny_newTuple ?_)
 obtain⟨ax,aY⟩:∃ax,aw.push {cls:=.type "tuple",data:=.seq #[.int i aM,x]}=ax:=⟨_,rfl⟩
 have bD:IsEnum ax e it ((i:Int)+1) old:=by rw[<-aY];exact Vb _ bC
 have hsz:aw.objs.size=hp.objs.size:=by rw[aK.1,aE.1,aI.1]
 have hel:hp.objs.size≠e:=V4 (VB he)
 have ch:ax.get? hp.objs.size=some {cls:=.type "tuple",data:=.seq #[.int i aM,x]}:=by rw[<-aY,<-hsz];exact Vj _ rfl
 have ck:∀b o,b≠e->b≠it->hp.get? b=some o->ax.get? b=some o:=λb o hbe hbi hb=>by
  rw[<-aY];exact Vb _ (aK.extBut b o hbe (aE.extBut b o hbe (aI.extBut b o hbi hb)))
 have cn:S1 ax it (i+1) si:=cg.at λo ho=>by
  rw[<-aY];exact Vb _ (aK.extBut _ _ (Ne.symm hne) (aE.extBut _ _ (Ne.symm hne) ho))
 refine(?_:wpAny _ _ (Builtin.SmallTypes.ownedTupleIsFree (.ref e)>>=_) _ _ ⟨aw.push _,gg,d,aM+1,os⟩)
 have cq:aw.push {cls:=.type "tuple",data:=.seq [.int i aM,x].toArray}=ax:=aY
 rw[hsz,cq]
 refine wpAny_bind ?_
 unfold Builtin.SmallTypes.ownedTupleIsFree
 refine wpAny_bind (wpAny_field bD rfl (x:=.none) rfl (wpAny_pure ?_))
 refine jR rfl ?_
 refine wpAny_bind (wpAny_rule ?_)
 refine wpAny_bind (wpAny_field bD rfl (x:=old) rfl ?_)
 refine wpAny_bind (wpAny_setField_rec bD (by simp) λaG bE aN=>?_)
 have aN:Vn e ax aG:=aN
 have bE:IsEnum aG e it ((i:Int)+1) x:=bE
 refine(?_:wpAny _ _ (Builtin.SmallTypes.ownedTupleHandOut (.ref e) (.ref hp.objs.size)>>=_) _ _ ⟨aG,gg,d,aM+1,os⟩)
 refine wpAny_bind ?_
 unfold Builtin.SmallTypes.ownedTupleHandOut
 refine wpAny_bind (wpAny_setField_rec bE (by simp) λbn bF bG=>?_)
 have bG:Vn e aG bn:=bG
 have bF:IsEnumOut bn e it ((i:Int)+1) x hp.objs.size:=bF
 refine wpAny_setField_rec bF (by simp) λbe bH bf=>?_
 have bf:Vn e bn be:=bf
 have bH:IsEnumOut be e it ((i:Int)+1) x hp.objs.size:=bH
 have up:∀b o,b≠e->ax.get? b=some o->be.get? b=some o:=λb o hb e=>bf.extBut b o hb (bG.extBut b o hb (aN.extBut b o hb e))
 exact wpAny_bind (wpAny_letGo (wpAny_pure ⟨_,rfl,hQ x be aM (aM+1) hp1 bH (cn.at λo ho=>up _ o (Ne.symm hne) ho) (up _ _ hel ch) λb o hbe hbi hb=>up b o hbe (ck b o hbe hbi hb)⟩))
theorem zE{e it:Addr}{i:Nat}{si:SI}{P:Value->Prop}{old:Value}{Q:Option Value->Shared->Prop}(he:IsEnum s.heap e it i old)(hit:S1 s.heap it i si)(hx:lI s.heap i P si)(hne:e≠it)
  (hQ:∀x h' tk tk',P x->IsEnumOut h' e it ((i:Int)+1) x s.heap.objs.size->S1 h' it (i+1) si->h'.get? s.heap.objs.size=some {cls:=.type "tuple",data:=.seq #[.int i tk,x]}->
   (∀b o,b≠e->b≠it->s.heap.get? b=some o->h'.get? b=some o)->Q (some (.ref s.heap.objs.size)) {s with heap:=h',toks:=tk'}):wpAny g.M A (pyNext (.ref e)) Q E s:=by
 have hT:s.TypeIs (.ref e) "enumerate":=⟨_,he,rfl⟩
 unfold pyNext
 exact wpAny_bind (wpAny_attempt (wpAny_callSpecial?_slot (name:=U8 "__next__") hT F.slot_enumerate_next
  (wpAny_call_entry F.slot_enumerate_next hT F.entry_enumerate_next
   (pI he hit hx hne λx h' tk tk' a b c d k=>wpAny_pure (hQ x h' tk tk' a b c d k)) (F.args_enumerate_next_1 _))))
theorem Cx{e it:Addr}{i:Nat}{si:SI}{old:Value}{Q:Option Value->Shared->Prop}(hh:A.handled=none)(he:IsEnum s.heap e it i old)(hit:S1 s.heap it i si)(hx:Gk s.heap i si)
  (hQ:∀h',Wi it s.heap h'->Q none {s with heap:=h'}):wpAny g.M A (pyNext (.ref e)) Q E s:=by
 have hT:s.TypeIs (.ref e) "enumerate":=⟨_,he,rfl⟩
 unfold pyNext
 refine wpAny_bind (wpAny_attempt (wpAny_callSpecial?_slot (name:=U8 "__next__") hT F.slot_enumerate_next
  (wpAny_call_entry F.slot_enumerate_next hT F.entry_enumerate_next ?_ (F.args_enumerate_next_1 _))))
 refine(?_:wpAny _ _ (field (.ref e) 2>>=_) _ _ _)
 refine wpAny_bind (wpAny_field he rfl (x:=.ref it) rfl ?_)
 refine wpAny_bind (j7 (A:=A.in1) hh hit hx λh' x he' hx'=>?_)
 refine e12 hx' λo ho hc=>?_;clear hx'
 refine wpAny_bind (wpAny_isInstance (T:="StopIteration") (b:=true) ⟨o,ho,hc⟩ isSubtype_stop ?_)
 exact wpAny_pure (hQ _ he')
theorem rj{z TI TO i1 i2:Addr}{k:Nat}{s1 s2:SI}{P1 P2:Value->Prop}{a b:Value}{Q:Value->Shared->Prop}
  (D:TI≠z/\TO≠z/\i1≠z/\i2≠z/\TI≠TO/\TI≠i1/\TI≠i2/\TO≠i1/\TO≠i2/\i1≠i2)
  (hz:IsZip s.heap z TI TO .none) (hTI:IsPair s.heap TI (.ref i1) (.ref i2)) (hTO:IsPair s.heap TO a b) (h1:S1 s.heap i1 k s1) (h2:S1 s.heap i2 k s2)
  (hx:lI s.heap k P1 s1) (hy:∀h',(∀b o,b≠z->b≠TO->b≠i1->s.heap.get? b=some o->h'.get? b=some o)->lI h' k P2 s2)
  (hx':∀h',(∀b o,b≠z->s.heap.get? b=some o->h'.get? b=some o)->lI h' k P1 s1)
  (hQ:∀x y h' tk,P1 x->P2 y->IsZip h' z TI TO (rawInt s.heap.objs.size)->IsPair h' TO x y->S1 h' i1 (k+1) s1->S1 h' i2 (k+1) s2->IsPair h' s.heap.objs.size x y->
   (∀c o,c≠z->c≠TO->c≠i1->c≠i2->s.heap.get? c=some o->h'.get? c=some o)->Q (.ref s.heap.objs.size) {s with heap:=h',toks:=tk}):
  wpAny g.M A (Builtin.«zip.__next__» ⟨[.ref z],[]⟩) (λfin s'=>∃v,fin=.done (.ret v)/\Q v s') E s:=by
 obtain⟨TIz,TOz,i1z,i2z,TITO,TIi1,TIi2,TOi1,TOi2,i12⟩:=D
 obtain⟨hp,gg,d,tk,os⟩:=s
 refine(?_:wpAny _ _ (field (.ref z) 2>>=_) _ _ _)
 refine wpAny_bind (wpAny_field hz rfl (x:=.bool false) rfl ?_)
 refine(?_:wpAny _ _ (field (.ref z) 3>>=_) _ _ _)
 refine wpAny_bind (wpAny_field hz rfl (x:=.ref TI) rfl ?_)
 refine wpAny_bind (wpAny_seqItems hTI rfl ?_)
 refine(?_:wpAny _ _ (Builtin.SmallTypes.ownedTupleIsFree (.ref z)>>=_) _ _ _)
 refine wpAny_bind ?_
 unfold Builtin.SmallTypes.ownedTupleIsFree
 refine wpAny_bind (wpAny_field hz rfl (x:=.none) rfl (wpAny_pure ?_))
 refine jR rfl ?_
 refine wpAny_bind (wpAny_rule ?_)
 refine wpAny_bind (wpAny_field hz rfl (x:=.ref TO) rfl ?_)
 refine wpAny_bind (wpAny_setField_rec hz (by simp) λae aV aI=>?_)
 have aV:IsZip ae z TI TO .ellipsis:=aV
 have aI:Vn z hp ae:=aI
 refine wpAny_bind ?_
 simp only[List.zipIdx_cons,List.zipIdx_nil,VK,WW]
 refine wpAny_bind (wpAny_bind (wpAny_onRaise ?_))
 refine(?_:wpAny _ _ (Builtin.SmallTypes.nextOf (.ref i1)>>=_) _ _ _)
 refine wpAny_bind (gQ (s:=⟨ae,gg,d,tk,os⟩) (h1.at λo ho=>aI.extBut _ _ i1z ho) (hx' ae λb o hb e=>aI.extBut _ _ hb e) λx aq bj hpx bT aE=>wpAny_pure ?_)
 have aE:Vn i1 ae aq:=aE
 have bo:IsPair aq TO a b:=aE.extBut _ _ TOi1 (aI.extBut _ _ TOz hTO)
 refine wpAny_bind (wpAny_seqItems bo rfl ?_)
 refine wpAny_bind (wpAny_updateSeq_pair bo λaw bq aK=>?_)
 have bq:IsPair aw TO x b:=bq
 have aK:Vn TO aq aw:=aK
 refine wpAny_bind (wpAny_letGo (wpAny_pure ?_))
 refine wpAny_bind (wpAny_bind (wpAny_onRaise ?_))
 refine(?_:wpAny _ _ (Builtin.SmallTypes.nextOf (.ref i2)>>=_) _ _ _)
 have aZ:∀b o,b≠z->b≠TO->b≠i1->hp.get? b=some o->aw.get? b=some o:=λb o b1 b2 b3 e=>aK.extBut _ _ b2 (aE.extBut _ _ b3 (aI.extBut _ _ b1 e))
 refine wpAny_bind (gQ (s:=⟨aw,gg,d,bj,os⟩) (h2.at λo ho=>aZ _ o i2z (Ne.symm TOi2) (Ne.symm i12) ho) (hy aw aZ) λy ax cr hpy ct aP=>wpAny_pure ?_)
 have aP:Vn i2 aw ax:=aP
 have bU:IsPair ax TO x b:=aP.extBut _ _ TOi2 bq
 refine wpAny_bind (wpAny_seqItems bU rfl ?_)
 refine wpAny_bind (wpAny_updateSeq_pair bU λaG br aN=>?_)
 have br:IsPair aG TO x y:=br
 have aN:Vn TO ax aG:=aN
 refine wpAny_bind (wpAny_letGo (wpAny_pure (wpAny_pure ?_)))
 refine wpAny_bind (wpAny_seqItems br rfl ?_)
 refine wpAny_bind (wpAny_newTuple ?_)
 have hsz:aG.objs.size=hp.objs.size:=by rw[aN.1,aP.1,aK.1,aE.1,aI.1]
 have bV:IsZip aG z TI TO .ellipsis:=aN.extBut _ _ TOz.symm (aP.extBut _ _ i2z.symm (aK.extBut _ _ TOz.symm (aE.extBut _ _ i1z.symm aV)))
 have cw:∀c o,c≠z->c≠TO->c≠i1->c≠i2->hp.get? c=some o->aG.get? c=some o:=λc o c1 c2 c3 c4 e=>aN.extBut _ _ c2 (aP.extBut _ _ c4 (aZ c o c1 c2 c3 e))
 have cy:S1 aG i1 (k+1) s1:=bT.at λo ho=>aN.extBut _ _ (Ne.symm TOi1) (aP.extBut _ _ i12 (aK.extBut _ _ (Ne.symm TOi1) ho))
 have cA:S1 aG i2 (k+1) s2:=ct.at λo ho=>aN.extBut _ _ (Ne.symm TOi2) ho
 have hzlt:hp.objs.size≠z:=by rw[<-hsz];exact V4 (VB bV)
 refine(?_:wpAny _ _ (Builtin.SmallTypes.ownedTupleHandOut (.ref z) (.ref aG.objs.size)>>=_) _ _ _)
 refine wpAny_bind ?_
 unfold Builtin.SmallTypes.ownedTupleHandOut
 have cB:IsZip (aG.push {cls:=.type "tuple",data:=.seq #[x,y]}) z TI TO .ellipsis:=Vb _ bV
 refine wpAny_bind (wpAny_setField_rec cB (by simp) λbe bI bf=>?_)
 have bI:IsZip be z TI TO (rawInt aG.objs.size):=bI
 refine wpAny_setField_rec bI (by simp) λbt bu bW=>?_
 have bu:IsZip bt z TI TO (rawInt aG.objs.size):=bu
 have up:∀c o,c≠z->aG.get? c=some o->bt.get? c=some o:=λc o c1 e=>bW.extBut _ _ c1 (bf.extBut _ _ c1 (Vb _ e))
 have bX:IsPair bt aG.objs.size x y:=bW.extBut _ _ (hsz▸hzlt) (bf.extBut _ _ (hsz▸hzlt) (Vj _ rfl))
 rw[hsz] at bu bX
 refine wpAny_pure ⟨_,rfl,?_⟩
 refine(?_:Q (.ref aG.objs.size) _)
 rw[hsz]
 exact hQ x y bt cr hpx hpy bu (up _ _ TOz br) (cy.at λo e=>up _ o i1z e) (cA.at λo e=>up _ o i2z e) bX λc o c1 c2 c3 c4 e=>up c o c1 (cw c o c1 c2 c3 c4 e)
theorem sX{z TI TO i1 i2:Addr}{k:Nat}{s1 s2:SI}{P1:Value->Prop}{a b:Value}{Q:Fin->Shared->Prop}(hh:A.handled=none)
  (D:TI≠z/\TO≠z/\i1≠z/\i2≠z/\TI≠TO/\TI≠i1/\TI≠i2/\TO≠i1/\TO≠i2/\i1≠i2)
  (hz:IsZip s.heap z TI TO .none) (hTI:IsPair s.heap TI (.ref i1) (.ref i2)) (hTO:IsPair s.heap TO a b) (h1:S1 s.heap i1 k s1) (h2:S1 s.heap i2 k s2)
  (hend:∀h',(∀b o,b≠z->s.heap.get? b=some o->h'.get? b=some o)->Gk h' k s1\/(lI h' k P1 s1/\∀h'',(∀b o,b≠z->b≠TO->b≠i1->s.heap.get? b=some o->h''.get? b=some o)->Gk h'' k s2))
  (hE:∀h' e tk,(∀c o,c≠z->c≠TO->c≠i1->c≠i2->s.heap.get? c=some o->h'.get? c=some o)->(∃o,h'.get? e=some o/\o.cls=.type "StopIteration")->E (.ref e) {s with heap:=h',toks:=tk}):
  wpAny g.M A (Builtin.«zip.__next__» ⟨[.ref z],[]⟩) Q E s:=by
 obtain⟨TIz,TOz,i1z,i2z,TITO,TIi1,TIi2,TOi1,TOi2,i12⟩:=D
 obtain⟨hp,gg,d,tk,os⟩:=s
 refine(?_:wpAny _ _ (field (.ref z) 2>>=_) _ _ _)
 refine wpAny_bind (wpAny_field hz rfl (x:=.bool false) rfl ?_)
 refine(?_:wpAny _ _ (field (.ref z) 3>>=_) _ _ _)
 refine wpAny_bind (wpAny_field hz rfl (x:=.ref TI) rfl ?_)
 refine wpAny_bind (wpAny_seqItems hTI rfl ?_)
 refine(?_:wpAny _ _ (Builtin.SmallTypes.ownedTupleIsFree (.ref z)>>=_) _ _ _)
 refine wpAny_bind ?_
 unfold Builtin.SmallTypes.ownedTupleIsFree
 refine wpAny_bind (wpAny_field hz rfl (x:=.none) rfl (wpAny_pure ?_))
 refine jR rfl ?_
 refine wpAny_bind (wpAny_rule ?_)
 refine wpAny_bind (wpAny_field hz rfl (x:=.ref TO) rfl ?_)
 refine wpAny_bind (wpAny_setField_rec hz (by simp) λae aV aI=>?_)
 have aV:IsZip ae z TI TO .ellipsis:=aV
 have aI:Vn z hp ae:=aI
 refine wpAny_bind ?_
 simp only[List.zipIdx_cons,List.zipIdx_nil,VK,WW]
 refine wpAny_bind (wpAny_bind (wpAny_onRaise ?_))
 refine(?_:wpAny _ _ (Builtin.SmallTypes.nextOf (.ref i1)>>=_) _ _ _)
 have bY:S1 ae i1 k s1:=h1.at λo ho=>aI.extBut _ _ i1z ho
 rcases hend ae λb o hb e=>aI.extBut _ _ hb e with hn|⟨hx,hn⟩
 .refine wpAny_bind (j7 (s:=⟨ae,gg,d,tk,os⟩) hh bY hn λaq e aE he=>?_)
  refine e12 he λoe hoe hce=>?_;clear he
  have aE:Wi i1 ae aq:=aE
  have bv:IsZip aq z TI TO .ellipsis:=aE _ _ i1z.symm aV
  have hoe:aq.get? e=some oe:=hoe
  have hez:e≠z:=λx=>by subst x;rw[bv] at hoe;cases hoe;simp at hce
  refine wpAny_setField_rec bv (by simp) λaw Y aK=>hE aw e tk (λc o c1 Y c3 Y x=>aK.extBut _ _ c1 (aE _ _ c3 (aI.extBut _ _ c1 x))) ⟨oe,aK.extBut _ _ hez hoe,hce⟩
 .refine wpAny_bind (gQ (s:=⟨ae,gg,d,tk,os⟩) bY hx λx aq bj hpx bT aE=>wpAny_pure ?_)
  have aE:Vn i1 ae aq:=aE
  have bo:IsPair aq TO a b:=aE.extBut _ _ TOi1 (aI.extBut _ _ TOz hTO)
  refine wpAny_bind (wpAny_seqItems bo rfl ?_)
  refine wpAny_bind (wpAny_updateSeq_pair bo λaw bq aK=>?_)
  have aK:Vn TO aq aw:=aK
  refine wpAny_bind (wpAny_letGo (wpAny_pure ?_))
  refine wpAny_bind (wpAny_bind (wpAny_onRaise ?_))
  refine(?_:wpAny _ _ (Builtin.SmallTypes.nextOf (.ref i2)>>=_) _ _ _)
  have aZ:∀b o,b≠z->b≠TO->b≠i1->hp.get? b=some o->aw.get? b=some o:=λb o b1 b2 b3 e=>aK.extBut _ _ b2 (aE.extBut _ _ b3 (aI.extBut _ _ b1 e))
  refine wpAny_bind (j7 (s:=⟨aw,gg,d,bj,os⟩) hh (h2.at λo ho=>aZ _ o i2z (Ne.symm TOi2) (Ne.symm i12) ho) (hn aw aZ) λax e aP he=>?_)
  refine e12 he λoe hoe hce=>?_;clear he
  have aP:Wi i2 aw ax:=aP
  have bZ:IsZip ax z TI TO .ellipsis:=aP _ _ i2z.symm (aK.extBut _ _ TOz.symm (aE.extBut _ _ i1z.symm aV))
  have hoe:ax.get? e=some oe:=hoe
  have hez:e≠z:=λx=>by subst x;rw[bZ] at hoe;cases hoe;simp at hce
  refine wpAny_setField_rec bZ (by simp) λaG Y aN=>hE aG e bj (λc o c1 c2 c3 c4 x=>aN.extBut _ _ c1 (aP _ _ c4 (aZ c o c1 c2 c3 x))) ⟨oe,aN.extBut _ _ hez hoe,hce⟩
end
end
section
variable{g:Gb}{c c':Cf}
section
variable{A:Around}{E:Value->Shared->Prop}{s:Shared}
theorem Cy{z TI TO i1 i2:Addr}{k:Nat}{s1 s2:SI}{P1 P2:Value->Prop}{a b:Value}{Q:Option Value->Shared->Prop}
  (D:TI≠z/\TO≠z/\i1≠z/\i2≠z/\TI≠TO/\TI≠i1/\TI≠i2/\TO≠i1/\TO≠i2/\i1≠i2)
  (hz:IsZip s.heap z TI TO .none) (hTI:IsPair s.heap TI (.ref i1) (.ref i2)) (hTO:IsPair s.heap TO a b) (h1:S1 s.heap i1 k s1) (h2:S1 s.heap i2 k s2)
  (hy:∀h',(∀b o,b≠z->b≠TO->b≠i1->s.heap.get? b=some o->h'.get? b=some o)->lI h' k P2 s2)
  (hx':∀h',(∀b o,b≠z->s.heap.get? b=some o->h'.get? b=some o)->lI h' k P1 s1)
  (hQ:∀x y h' tk,P1 x->P2 y->IsZip h' z TI TO (rawInt s.heap.objs.size)->IsPair h' TO x y->S1 h' i1 (k+1) s1->S1 h' i2 (k+1) s2->IsPair h' s.heap.objs.size x y->
   (∀c o,c≠z->c≠TO->c≠i1->c≠i2->s.heap.get? c=some o->h'.get? c=some o)->Q (some (.ref s.heap.objs.size)) {s with heap:=h',toks:=tk}):
  wpAny g.M A (pyNext (.ref z)) Q E s:=by
 have hT:s.TypeIs (.ref z) "zip":=⟨_,hz,rfl⟩
 unfold pyNext
 exact wpAny_bind (wpAny_attempt (wpAny_callSpecial?_slot (name:=U8 "__next__") hT F.slot_zip_next
  (wpAny_call_entry F.slot_zip_next hT F.entry_zip_next
   (rj D hz hTI hTO h1 h2 (hx' _ λY Y Y e=>e) hy hx' λx y h' tk a1 a2 a3 a4 a5 a6 a7 a8=>wpAny_pure (hQ x y h' tk a1 a2 a3 a4 a5 a6 a7 a8)) (F.args_zip_next_1 _))))
theorem xX{z TI TO i1 i2:Addr}{k:Nat}{s1 s2:SI}{P1:Value->Prop}{a b:Value}{Q:Option Value->Shared->Prop}(hh:A.handled=none)
  (D:TI≠z/\TO≠z/\i1≠z/\i2≠z/\TI≠TO/\TI≠i1/\TI≠i2/\TO≠i1/\TO≠i2/\i1≠i2)
  (hz:IsZip s.heap z TI TO .none) (hTI:IsPair s.heap TI (.ref i1) (.ref i2)) (hTO:IsPair s.heap TO a b) (h1:S1 s.heap i1 k s1) (h2:S1 s.heap i2 k s2)
  (hend:∀h',(∀b o,b≠z->s.heap.get? b=some o->h'.get? b=some o)->Gk h' k s1\/(lI h' k P1 s1/\∀h'',(∀b o,b≠z->b≠TO->b≠i1->s.heap.get? b=some o->h''.get? b=some o)->Gk h'' k s2))
  (hQ:∀h' tk,(∀c o,c≠z->c≠TO->c≠i1->c≠i2->s.heap.get? c=some o->h'.get? c=some o)->Q none {s with heap:=h',toks:=tk}):wpAny g.M A (pyNext (.ref z)) Q E s:=by
 have hT:s.TypeIs (.ref z) "zip":=⟨_,hz,rfl⟩
 unfold pyNext
 refine wpAny_bind (wpAny_attempt (wpAny_callSpecial?_slot (name:=U8 "__next__") hT F.slot_zip_next
  (wpAny_call_entry F.slot_zip_next hT F.entry_zip_next (sX (A:=A.in1) hh D hz hTI hTO h1 h2 hend λh' e tk hk he=>?_) (F.args_zip_next_1 _))))
 refine e12 he λo ho hc=>?_;clear he
 refine wpAny_bind (wpAny_isInstance (T:="StopIteration") (b:=true) ⟨o,ho,hc⟩ isSubtype_stop ?_)
 exact wpAny_pure (hQ _ _ hk)
theorem gR{t:Expr}{r:Addr}{v:Value}{o:Obj}{T:String}{Q:Unit->Shared->Prop}(ho:s.heap.get? r=some o)(hT:o.cls=.type T)
  (hn:(["enumerate","zip","dict_itemiterator","dict_reverseitemiterator","odict_iterator","itertools.zip_longest","itertools.pairwise"].contains T)=false) (h:Q () s):wpAny g.M A (letOwnedTupleGo t (.ref r) v) Q E s:=by
 have go:∀a,v=.ref a->wpAny g.M A (do
   let o<-load r
   match o.cls,o.data with
   |.type n,.fields vs=>
    if["enumerate","zip","dict_itemiterator","dict_reverseitemiterator","odict_iterator","itertools.zip_longest","itertools.pairwise"].contains n&&vs[0]? ==some (rawInt a) then
     rule "for.unpacks-the-owned-tuple"
     updateField r 0 .none
   |_,_=>pure ():Sem Unit) Q E s:=λa Y=>by
  refine wpAny_bind (wpAny_load ho ?_)
  rw[hT]
  cases o.data with
  |fields vs=>
   simp only
   rw[hn,if_neg (by simp)]
   exact wpAny_pure h
  |_=>exact wpAny_pure h
 unfold letOwnedTupleGo
 cases t with
 |Tuple _ _ _=>
  cases v with
  |ref a=>exact go _ rfl
  |_=>exact wpAny_pure h
 |List _ _=>
  cases v with
  |ref a=>exact go _ rfl
  |_=>exact wpAny_pure h
 |_=>exact wpAny_pure h
theorem BR.nth{σ:Nat->Int}{l:List AI}:∀{b:List UInt8} {i:Nat} {a:AI},BR σ l b->fC l i=some a->∃y,b[i]? =some y/\dN σ a (y.toNat:Int):=by
 induction l with
 |nil=>exact λY e=>nn e
 |cons x r ih=>
  intro b i a hb e
  refine e23 hb λy t zq32 h1 h2=>?_;clear hb
  cases zq32
  cases i with
  |zero=>cases e;exact⟨y,rfl,h1⟩
  |succ i=>exact(ih h2 e:∃z,t[i]? =some z/\_)
structure NC(g:Gb)(c:Cf)(h:Heap)(l:List V)(i:Nat)(si:SI):Prop where
 p:∀a,fC l i=some a->lI h i (VR g c a) si
 n:fC l i=none->Gk h i si
theorem xY{h:H}{a:Addr}{l:List V}{vs:Array Value}{i:Nat}(h1:s.heap.IsList a vs)(h2:da g c l vs.toList):NC g c s.heap l i (.list a) where
 p _ ha:=(h2.nth ha).elim λy q=>⟨vs,y,h1,Array.getElem?_toList.symm.trans q.1,q.2⟩
 n hn:=⟨vs,h1,V2 (Va (Vg (et h2)) (nP hn))⟩
theorem vD(W:SW g){h:H}{v:V}{si:SI}{l:List V}{i:Nat}(I:cV g c h s)(hs:SV g c v si)(hl:items g.C v h=some l):NC g c s.heap l i si:=by
 cases hs with
 |list v a hp hv=>
  refine fK hl (λe=>?_) λhl=>fK hl (λe=>cW e λY e Y=>?_) λhl=>?_
  .cases eB e;exact ft hp
  .cases d6 e;exact ft hp
  .refine e12 (cW hl λo e1 e2=>⟨o,e1,gz e2⟩) λo e1 e2=>?_
   subst e2
   obtain⟨x,_,hx,vs,h1,h2,_⟩:=nT W I hv e1
   cases hx
   exact xY (h:=h) h1.isList h2
 |tup l' vs t hT hr=>
  cases hl
  exact⟨λa ha=>(hr.nth ha).elim λy q=>⟨_,y,I.tup _ _ hT,List.getElem?_toArray.trans q.1,q.2⟩,λhn=>⟨_,I.tup _ _ hT,V2 (Va (Vg hr.length) (nP hn))⟩⟩
 |byt l' b t hr=>
  cases hl
  refine⟨λa ha=>?_,λhn=>V2 (Va (Vg (hr.size.trans (Vs (f:=V.int) (as:=l')).symm)) (nP hn))⟩
  rw[xU] at ha
  refine e12 (Option.map_eq_some_iff.mp ha) λx hx zq33=>?_
  cases zq33
  exact(hr.nth hx).elim λy q=>⟨y,Array.getElem?_toList.symm.trans q.1,λu=>eD q.2⟩
theorem lJ{v:V}{si:SI}(e:dz c c')(h:SV g c v si):SV g c' v si:=by
 cases h with
 |list v l hp hv=>exact .list v l hp (hv.ext e)
 |tup l vs t hT hr=>exact .tup l vs t (e.T _ _ hT) (hr.ext e)
 |byt l b t hr=>exact .byt l b t hr
inductive QM(g:Gb)(c:Cf)(h:H)(it:It)(itv:Value)(v:V)(x:Value)(s:Shared):Prop
 |mk (c':Cf) (L:List Addr) (e:dz c c') (i:cV g c' h s) (r:VR g c' v x) (hL:∀b,b∈L->gZ g c' b) (hS:uM g c' s.heap it itv L)
def ND(g:Gb)(c:Cf)(h:H)(itv:Value)(t:Expr)(A:Around)(E:Value->Shared->Prop)(v:V)(it':It)(x:Value)(aa:Shared):Prop:=
 wpAny g.M A (letOwnedTupleGo t itv x) (λY aj=>QM g c h it' itv v x aj) E aa
theorem iJ{a b:Addr}{vs:List Value}(f:gZ g c b)(hb:b≠a):gZ g (c.tupAt a vs) b:=⟨⟨f.al.R,f.al.B,λws q=>q.elim (f.al.T ws) λq=>hb q.1,f.al.D⟩,f.S,f.ne,f.P⟩
inductive nX(g:Gb)(c:Cf)(h:H)(A:Around)(E:Value->Shared->Prop)(itv:Value)(t:Expr):Nx->Option Value->Shared->Prop
 |stop (s:Shared) (i:cV g c h s):nX g c h A E itv t .stop none s
 |more (v:V) (it':It) (x:Value) (s:Shared) (m:∀E',ND g c h itv t A E' v it' x s):nX g c h A E itv t (.more v it') (some x) s
section
variable{h:H}{t:Expr}{Q:Option Value->Shared->Prop}{nx:Nx}
theorem jU{a:Addr}{h':Heap}{tk:Nat}(I:cV g c h s)(fa:gZ g c a)(hk:Wi a s.heap h'):cV g c h {s with heap:=h',toks:=tk}:=I.wild (λb=>b=a) (λb q=>q▸fa) (λb o hb e=>hk b o hb e) ⟨rfl,rfl,rfl⟩
theorem xZ{α:Type}{l:List α}{i:Nat}{x:α}{xs:List α}(e:l.drop i=x::xs):l[i]? =some x/\l.drop (i+1)=xs:=⟨by rw[<-List.head?_drop,e];rfl,by rw[<-List.tail_drop,e];rfl⟩
theorem zF{l:List V}{a:Addr}(hh:A.handled=none)(I:cV g c h s)(fa:gZ g c a)(hS:IL g c s.heap a l)(hq:∀ov s',nX g c h A E (.ref a) t (dq (nv l) .stop λp=>.more p.1 (.vals p.2)) ov s'->Q ov s'):wpAny g.M A (pyNext (.ref a)) Q E s:=by
 have fe:∀b,b∈[a]->gZ g c b:=λb hb=>List.mem_singleton.mp hb▸fa
 cases hS with
 |tup tt vs i h1 h2 h3=>
  cases l with
  |nil=>exact j8 (si:=.tup tt) hh h1 ⟨_,I.tup _ _ h2,V2 (List.drop_eq_nil_iff.mp (show vs.drop i=[] from h3))⟩ λh' hk=>hq _ _ (.stop _ (jU I fa hk))
  |cons v r=>
   refine e23 h3 λx xs e hx hxs=>?_;clear h3
   refine e02 (xZ e) λhi hd=>?_
   refine jk (si:=.tup tt) (P:=λy=>y=x) h1 ⟨_,x,I.tup _ _ h2,List.getElem?_toArray.trans hi,rfl⟩ λy h' tk hy h1' hs=>hq _ _ (.more _ _ _ _ λY=>?_)
   subst hy
   refine e13 (id h1') λo ho hc Y=>?_
   exact gR ho hc (by decide) ⟨c,[a],.refl c,jU I fa hs.extBut,hx,fe,.vals _ _ (.tup tt vs (i+1) h1' h2 (hd▸hxs))⟩
 |byt b tb i als h1 e h3=>
  subst e
  cases als with
  |nil=>exact j8 (si:=.byt b tb) hh h1 (V2 (List.drop_eq_nil_iff.mp (show b.toList.drop i=[] from h3))) λh' hk=>hq _ _ (.stop _ (jU I fa hk))
  |cons v r=>
   refine e23 h3 λy ys e hx hxs=>?_;clear h3
   refine e02 (xZ e) λhi hd=>?_
   refine jk (si:=.byt b tb) (P:=λz=>∃u,z=.int (y.toNat:Int) u) h1 ⟨y,Array.getElem?_toList.symm.trans hi,λu=>⟨u,rfl⟩⟩ λz h' tk hz h1' hs=>hq _ _ (.more _ _ _ _ λY=>?_)
   refine e11 hz λu zq34=>?_;clear hz
   cases zq34
   refine e13 (id h1') λo ho hc Y=>?_
   exact gR ho hc (by decide) ⟨c,[a],.refl c,jU I fa hs.extBut,eD hx,fe,.vals _ _ (.byt b tb (i+1) r h1' rfl (hd▸hxs))⟩
 |rng x jf h1 h2 e=>
  subst e
  refine e11 (WM h2) λm zq35=>?_
  cases zq35
  cases m with
  |zero=>exact wpAny_pyNext_range_end hh h1 (Wt _) λh' hk=>hq _ _ (.stop _ (jU I fa hk))
  |succ m=>
   refine wpAny_pyNext_range_item h1 (Int.ofNat_lt.mpr (Vx m)) λh' h1' hs=>hq _ _ (.more _ _ _ _ λY=>?_)
   have e:((m+1:Nat):Int) - 1=m:=WA (m:Int) 1
   exact gR h1' rfl (by decide) ⟨c,[a],.refl c,jU I fa hs.extBut,eD rfl,fe,.vals _ _ (.rng (x+1) m (e▸h1') (VF m) rfl)⟩
theorem Cz(W:SW g){v:V}{i:Nat}{a l0:Addr}(hh:A.handled=none)(I:cV g c h s)(fa:gZ g c a)(hp:gP v=true)(hv:VR g c v (.ref l0))(h1:s.heap.IsListIter a l0 i)(hn:next g.C (.lst v i) h=some nx)(hq:∀ov s',nX g c h A E (.ref a) t nx ov s'->Q ov s'):wpAny g.M A (pyNext (.ref a)) Q E s:=
 cW hn λl e hn=>by
  refine e12 (cW e λo e1 e2=>⟨o,e1,gz e2⟩) λo e1 e2=>?_
  subst e2
  obtain⟨x,_,hx,vs,w1,w2,_⟩:=nT W I hv e1
  cases hx
  have p:=xY (h:=h) (i:=i) w1.isList w2
  cases hn
  cases ex:fC l i with
  |some x=>
   rw[ex] at hq
   refine jk (si:=.list l0) h1 (p.p x ex) λy h' tk hy h1' hs=>hq _ _ (.more _ _ _ _ λY=>?_)
   refine e13 (id h1') λo ho hc Y=>?_
   exact gR ho hc (by decide) ⟨c,[a],.refl c,jU I fa hs.extBut,hy,λb hb=>List.mem_singleton.mp hb▸fa,.lst _ _ a l0 hp hv h1'⟩
  |none=>
   rw[ex] at hq
   exact j8 (si:=.list l0) hh h1 (p.n ex) λh' hk=>hq _ _ (.stop _ (jU I fa hk))
theorem S1.has{hp:Heap}{it:Addr}{i:Nat}{si:SI}(x:S1 hp it i si):∃o,hp.get? it=some o:=by
 cases si<;>(obtain⟨o,ho,_⟩:=x;exact⟨o,ho⟩)
theorem x6{a b:V}{x y:Value}{ad:Addr}(h1:VR g c a x)(h2:VR g c b y):VR g (c.tupAt ad [x,y]) (.tup [a,b]) (.ref ad):=gn (.inr ⟨rfl,rfl⟩) (.cons (h1.ext (dz.tupAt ..)) (.cons (h2.ext (dz.tupAt ..)) .nil))
theorem j9{hp:Heap}{b:Addr}(h:∃o,hp.get? b=some o):b≠hp.objs.size:=h.elim λY e=>Vy (VB e)
theorem zG(W:SW g){v:V}{i:Nat}{e b:Addr}{si:SI}{old:Value}(hh:A.handled=none)(I:cV g c h s)(fe:gZ g c e)(fb:gZ g c b)(ht:nJ t=true)(hne:e≠b)(hv:SV g c v si)(he:IsEnum s.heap e b i old)(h1:S1 s.heap b i si)
  (hn:next g.C (.enum v i) h=some nx) (hq:∀ov s',nX g c h A E (.ref e) t nx ov s'->Q ov s'):wpAny g.M A (pyNext (.ref e)) Q E s:=
 cW hn λl hl hn=>by
  have p:=vD W (i:=i) (si:=si) I hv hl
  refine e31 (qk ht) λes ek ep zq36=>?_
  cases zq36
  cases hn
  cases ex:fC l i with
  |none=>
   rw[ex] at hq
   exact Cx hh he h1 (p.n ex) λh' hk=>hq _ _ (.stop _ (jU I fb hk))
  |some x=>
   rw[ex] at hq
   refine zE he h1 (p.p x ex) hne λy h' tk tk' hy he' h1' hT hk=>hq _ _ (.more _ _ _ _ λY=>wpAny_letOwnedTupleGo_enum he' λaq aU aE=>?_)
   have fs:=I.free (Vo (Vm s.heap.objs.size))
   have ne1:=j9 ⟨_,he⟩
   have I1:cV g c h {s with heap:=aq,toks:=tk'}:=I.wild (λx=>x=e\/x=b) (λx q=>q.elim (λq=>q▸fe) λq=>q▸fb)
    (λx o hx ho=>aE.extBut x o (λq=>hx (.inl q)) (hk x o (λq=>hx (.inl q)) (λq=>hx (.inr q)) ho)) ⟨rfl,rfl,rfl⟩
   exact⟨c.tupAt s.heap.objs.size [.int i tk,y],[e,b],dz.tupAt ..,I1.addTup fs ⟨_,aE.extBut _ _ (Ne.symm ne1) hT,rfl,_,rfl⟩,x6 (eD rfl) hy,
    List.forall_mem_cons.mpr ⟨iJ fe ne1,List.forall_mem_cons.mpr ⟨iJ fb (j9 h1.has),nofun⟩⟩,.enum _ _ e b si y hne (lJ (dz.tupAt ..) hv) aU (h1'.at λo ho=>aE.extBut _ _ (Ne.symm hne) ho)⟩
theorem CA(W:SW g){v w:V}{i:Nat}{z TI TO i1 i2:Addr}(hh:A.handled=none)(I:cV g c h s)(hL:∀b,b∈[z,TI,TO,i1,i2]->gZ g c b)(ht:nJ t=true)(kz:sR g c s.heap v w i z TI TO i1 i2)
  (hn:next g.C (.zip v w i) h=some nx) (hq:∀ov s',nX g c h A E (.ref z) t nx ov s'->Q ov s'):wpAny g.M A (pyNext (.ref z)) Q E s:=
 cW hn λl hl hn=>cW hn λl' hl' hn=>by
  obtain⟨D,hz,hti,⟨ta,tb,hto⟩,⟨s1,hv,h1⟩,⟨s2,hw,h2⟩⟩:=kz
  refine e02 (List.forall_mem_cons.mp hL) λfz fL=>?_
  refine e02 (List.forall_mem_cons.mp fL) λY fL=>?_
  refine e02 (List.forall_mem_cons.mp fL) λfTO fL=>?_
  refine e02 (List.forall_mem_cons.mp fL) λf1 fL=>?_
  refine e02 (List.forall_mem_cons.mp fL) λf2 Y=>?_
  refine e31 (qk ht) λes ek ep zq37=>?_
  cases zq37
  cases hn
  have far:∀h',(∀b o,b≠z->b≠TO->b≠i1->s.heap.get? b=some o->h'.get? b=some o)->cV g c h {s with heap:=h'}:=λh' hk=>
   I.wild (λx=>x=z\/x=TO\/x=i1) (λx q=>q.elim (λq=>q▸fz) λq=>q.elim (λq=>q▸fTO) λq=>q▸f1) (λx o hx ho=>hk x o (λq=>hx (.inl q)) (λq=>hx (.inr (.inl q))) (λq=>hx (.inr (.inr q))) ho) ⟨rfl,rfl,rfl⟩
  have p:=λh' hk=>vD W (i:=i) (si:=s1) (far h' hk) hv hl
  have q:=λh' hk=>vD W (i:=i) (si:=s2) (far h' hk) hw hl'
  have wk:∀{h':Heap},(∀b o,b≠z->s.heap.get? b=some o->h'.get? b=some o)->∀b o,b≠z->b≠TO->b≠i1->s.heap.get? b=some o->h'.get? b=some o:=λk b o b1 Y Y e=>k b o b1 e
  have fin:∀(h':Heap) (tk:Tok),(∀x o,x≠z->x≠TO->x≠i1->x≠i2->s.heap.get? x=some o->h'.get? x=some o)->cV g c h {s with heap:=h',toks:=tk}:=λh' tk hk=>
   I.wild (λx=>x=z\/x=TO\/x=i1\/x=i2) (λx q=>q.elim (λq=>q▸fz) λq=>q.elim (λq=>q▸fTO) λq=>q.elim (λq=>q▸f1) λq=>q▸f2)
    (λx o hx ho=>hk x o (λq=>hx (.inl q)) (λq=>hx (.inr (.inl q))) (λq=>hx (.inr (.inr (.inl q)))) (λq=>hx (.inr (.inr (.inr q)))) ho) ⟨rfl,rfl,rfl⟩
  cases ex:fC l i with
  |none=>
   rw[ex] at hq
   exact xX (P1:=λY=>True) hh D hz hti hto h1 h2 (λh' hk=>.inl ((p h' (wk hk)).n ex)) λh' tk hk=>hq _ _ (.stop _ (fin h' tk hk))
  |some x=>
   rw[ex] at hq
   cases ey:fC l' i with
   |none=>
    rw[ey] at hq
    exact xX (P1:=VR g c x) hh D hz hti hto h1 h2 (λh' hk=>.inr ⟨(p h' (wk hk)).p x ex,λh'' hk'=>(q h'' hk').n ey⟩) λh' tk hk=>hq _ _ (.stop _ (fin h' tk hk))
   |some y=>
    rw[ey] at hq
    refine Cy (P1:=VR g c x) (P2:=VR g c y) D hz hti hto h1 h2 (λh' hk=>(q h' hk).p y ey) (λh' hk=>(p h' (wk hk)).p x ex) λx' y' h' tk hx' hy' hz' hto' h1' h2' hT hk=>hq _ _ (.more _ _ _ _ λY=>wpAny_letOwnedTupleGo_zip hz' λaq bv aE=>?_)
    have fs:=I.free (Vo (Vm s.heap.objs.size))
    have nz:=j9 ⟨_,hz⟩
    have I1:=fin aq tk λx o x1 x2 x3 x4 e=>aE.extBut x o x1 (hk x o x1 x2 x3 x4 e)
    have up:=λ{b:Addr} (hb:b≠z) o (e:h'.get? b=some o)=>aE.extBut b o hb e
    exact⟨c.tupAt s.heap.objs.size [x',y'],[z,TI,TO,i1,i2],dz.tupAt ..,I1.addTup fs ⟨_,aE.extBut _ _ (Ne.symm nz) hT,rfl,_,rfl⟩,x6 hx' hy',
     List.forall_mem_cons.mpr ⟨iJ fz nz,List.forall_mem_cons.mpr ⟨iJ (hL _ (Vd _ Vc)) (j9 ⟨_,hti⟩),List.forall_mem_cons.mpr ⟨iJ fTO (j9 ⟨_,hto⟩),List.forall_mem_cons.mpr ⟨iJ f1 (j9 h1.has),List.forall_mem_cons.mpr ⟨iJ f2 (j9 h2.has),nofun⟩⟩⟩⟩⟩,
     .zip _ _ _ z TI TO i1 i2 ⟨D,bv,up D.1 _ (hk _ _ D.1 D.2.2.2.2.1 D.2.2.2.2.2.1 D.2.2.2.2.2.2.1 hti),⟨x',y',up D.2.1 _ hto'⟩,⟨s1,lJ (dz.tupAt ..) hv,h1'.at (up D.2.2.1)⟩,⟨s2,lJ (dz.tupAt ..) hw,h2'.at (up D.2.2.2.1)⟩⟩⟩
theorem next_ok(W:SW g){it:It}{itv:Value}(hh:A.handled=none)(I:cV g c h s)(hit:pB g c s.heap it itv)(ht:sM it t=true)(hn:next g.C it h=some nx)(hq:∀ov s',nX g c h A E itv t nx ov s'->Q ov s'):wpAny g.M A (pyNext itv) Q E s:=by
 cases hit with
 |emp a d ep fa hD hK hd=>
  cases hn
  exact wpAny_pyNext_dict_end hh hK hD rfl λh' hk=>hq _ _ (.stop _ (jU I fa hk))
 |mk _ _ L hL hS=>
  cases hS with
  |vals l a hS=>cases hn;exact zF hh I (hL a Vc) hS hq
  |lst v i a l0 hp hv h1=>exact Cz W hh I (hL a Vc) hp hv h1 hn hq
  |enum v i e b si old hne hv he h1=>exact zG W hh I (hL e Vc) (hL b (Vd _ Vc)) ht hne hv he h1 hn hq
  |zip v w i z TI TO i1 i2 kz=>exact CA W hh I hL ht kz hn hq
end
end
end
section
open PySem.SeqAt
variable{g:Gb}{c c':Cf}
section
variable{A:Around}{s:Shared}
noncomputable def IP:Value->Bool
 |.float _ _=>false
 |_=>true
theorem x7{v w:Value}{k:Bool}(h:RcAt A s v w k)(hf:IP v=true)(hs:v=w->k=true):EqAt A s v w k:=λprog wd E Q hq=>
 wpAny_holding<|wpAny_ite_split (λhab=>wpAny_bind (wpAny_rule (wpAny_pure (by rw[hs (eq_of_beq hab)] at hq;exact hq)))) λY=>by
  cases v with
  |float _ _=>exact ft hf
  |_=>exact wpAny_bind (h prog wd E _ (wpAny_truthy_bool hq))
theorem RcAt.bytes_bytes(a:Array UInt8)(t:Tok)(b:Array UInt8)(u:Tok):RcAt A s (.bytes a t) (.bytes b u) (a.toList==b.toList):=λY Y Y Y h=>eq_bytes h
theorem RcNeAt.bytes_bytes(a:Array UInt8)(t:Tok)(b:Array UInt8)(u:Tok):RcNeAt A s (.bytes a t) (.bytes b u) (!(a.toList==b.toList)):=λY Y Y Y h=>ne_bytes h
theorem eE:isSubtype (.type "str") (.type "bytes")=pure false:=by rw[isSubtype_type];kernel_rfl
theorem kF:Slot "str" (cmpInfo .NotEq).2.2 "str.__ne__":=F.slot_str_ne
theorem nY(a:Array UInt8)(t:Tok)(b:Str)(u:Tok):Gives (Builtin.«bytes.__eq__» ⟨[.bytes a t,.str b u],[]⟩) (.val .notImplemented):=by
 refine .of_wp λM A E s Q hq=>?_
 refine(?_:wpAny M A (isInstance (.str b u) (.type "bytes")>>=λr=>_) _ E s)
 refine wpAny_bind ?_
 refine wpAny_isInstance (typeIs_str s b u) eE ?_
 refine wpAny_bind (wpAny_isInstance (typeIs_str s b u) eE ?_)
 exact wpAny_bind (wpAny_rule (wpAny_pure ⟨_,rfl,hq⟩))
theorem nZ(a:Array UInt8)(t:Tok)(b:Str)(u:Tok):Gives (Builtin.«bytes.__ne__» ⟨[.bytes a t,.str b u],[]⟩) (.val .notImplemented):=by
 refine .of_wp λM A E s Q hq=>?_
 refine(?_:wpAny M A (isInstance (.str b u) (.type "bytes")>>=λr=>_) _ E s)
 refine wpAny_bind ?_
 refine wpAny_isInstance (typeIs_str s b u) eE ?_
 refine wpAny_bind (wpAny_isInstance (typeIs_str s b u) eE ?_)
 exact wpAny_bind (wpAny_rule (wpAny_pure ⟨_,rfl,hq⟩))
theorem og(b:Str)(u:Tok)(a:Array UInt8)(t:Tok):Gives (Builtin.«str.__eq__» ⟨[.str b u,.bytes a t],[]⟩) (.val .notImplemented):=.of_wp λM A E s Q h=>by obtain⟨hp,g,d,tk,os⟩:=s;wp_walk;exact⟨_,rfl,h⟩
theorem oh(b:Str)(u:Tok)(a:Array UInt8)(t:Tok):Gives (Builtin.«str.__ne__» ⟨[.str b u,.bytes a t],[]⟩) (.val .notImplemented):=.of_wp λM A E s Q h=>by obtain⟨hp,g,d,tk,os⟩:=s;wp_walk;exact⟨_,rfl,h⟩
theorem RcAt.bytes_str(a:Array UInt8)(t:Tok)(b:Str)(u:Tok):RcAt A s (.bytes a t) (.str b u) false:=λY Y Y Y h=>
 rc_eq_decline_or (k:=false) (typeIs_bytes s a t) (typeIs_str s b u) (by decide) eE FB.slot_bytes_eq F.slot_str_eq_refl
  (λY hq=>call_gives FB.slot_bytes_eq (typeIs_bytes s a t) FB.entry_bytes_eq (FB.args_bytes_eq_2 _ _) (nY a t b u) hq)
  (λY hq=>call_gives F.slot_str_eq_refl (typeIs_str s b u) F.entry_str_eq (F.args_str_eq_2 _ _) (og b u a t) hq)
  (λY hq=>wpAny_of_eq (rfl:isSame (.bytes a t) (.str b u)=pure false) hq) (.inl rfl) h
theorem RcNeAt.bytes_str(a:Array UInt8)(t:Tok)(b:Str)(u:Tok):RcNeAt A s (.bytes a t) (.str b u) true:=λY Y Y Y h=>
 rc_ne_decline_or (k:=false) (typeIs_bytes s a t) (typeIs_str s b u) (by decide) eE FB.slot_bytes_ne kF
  (λY hq=>call_gives FB.slot_bytes_ne (typeIs_bytes s a t) FB.entry_bytes_ne (FB.args_bytes_ne_2 _ _) (nZ a t b u) hq)
  (λY hq=>call_gives kF (typeIs_str s b u) F.entry_str_ne (F.args_str_ne_2 _ _) (oh b u a t) hq)
  (λY hq=>wpAny_of_eq (rfl:isSame (.bytes a t) (.str b u)=pure false) hq) (.inl rfl) h
theorem rk:∀{l:List Bool},true∈l->yV l=true
 |true::_,_=>rfl
 |false::r,h=>by cases h with|tail _ h=>exact rk (l:=r) h
theorem rl:∀{l:List Bool},false∈l->uU l=true
 |false::_,_=>rfl
 |true::r,h=>by cases h with|tail _ h=>exact rl (l:=r) h
theorem CB{l:List Bool}{x:Bool}(h:x∈l):x∈Jq l:=by
 unfold Jq
 cases x with
 |true=>rw[rk h];cases uU l<;>exact Vc
 |false=>rw[rl h];cases yV l<;>first|exact Vc|exact Vd _ Vc
theorem x8{f:Bool->Bool->Bool}{a b:List Bool}{x y:Bool}(hx:x∈a)(hy:y∈b):f x y∈Jr f a b:=CB (List.mem_flatMap.mpr ⟨x,hx,List.mem_map.mpr ⟨y,hy,rfl⟩⟩)
theorem Gl{a:List Bool}{k:Unit->List Bool}{x y:Bool}(hx:x∈a)(hy:y∈k ()):(x&&y)∈Jt a k:=by
 unfold Jt
 cases hT:yV a with
 |false=>
  cases x with
  |true=>rw[rk hx] at hT;cases hT
  |false=>exact hx
 |true=>
  cases hF:uU a with
  |false=>
   cases x with
   |true=>exact hy
   |false=>rw[rl hx] at hF;cases hF
  |true=>exact x8 hx hy
theorem CC{x y:UInt8}{t u:List UInt8}:decide (x::t=y::u)=(decide ((x.toNat:Int)=(y.toNat:Int))&&decide (t=u)):=
 (decide_eq_decide.mpr ⟨λq=>by cases q;exact⟨rfl,rfl⟩,λq=>by rw[UInt8.toNat_inj.mp (Int.ofNat.inj q.1),q.2]⟩).trans (Bool.decide_and ..)
theorem Gm{σ:Nat->Int}:∀{l l':List AI} {b b':List UInt8},BR σ l b->BR σ l' b'->decide (b=b')∈Ju l l':=by
 intro l
 induction l with
 |nil=>
  intro l' b b' h h'
  cases (show b=[] from h)
  cases l' with
  |nil=>cases (show b'=[] from h');exact Vc
  |cons _ _=>obtain⟨x,t,rfl,_⟩:=h';exact Vc
 |cons a r ih=>
  intro l' b b' h h'
  refine e23 h λx t zq38 h1 h2=>?_;clear h
  cases zq38
  cases l' with
  |nil=>cases (show b'=[] from h');exact Vc
  |cons _ _=>obtain⟨y,u,rfl,h3,h4⟩:=h';rw[CC];exact Gl (rb h1 h3) (ih h2 h4)
theorem Gn{σ:Nat->Int}{l l':List AI}{b b':List UInt8}(h:BR σ l b)(h':BR σ l' b'):decide (b=b')∈Jv l l':=by
 unfold Jv
 cases hl:U9 l.length l'.length with
 |true=>exact Gm h h'
 |false=>exact List.mem_singleton.mpr (decide_eq_false λq=>ej hl (by rw[<-h.length,<-h'.length,q]))
theorem CD(p q:List UInt8):decide (p=q)=(p==q):=by
 cases h:p==q with
 |true=>exact decide_eq_true (eq_of_beq h)
 |false=>exact decide_eq_false (ne_of_beq_false h)
theorem CE(m n:Int):decide (m=n)=(m==n):=by
 cases h:m==n with
 |true=>exact decide_eq_true (eq_of_beq h)
 |false=>exact decide_eq_false (ne_of_beq_false h)
theorem CG{x y:Str}(h:cd x≠0):U9 (cd x) (cd y)=(x==y):=by
 cases q:x==y with
 |true=>rw[eq_of_beq q];exact VD _
 |false=>exact dg λe=>ne_of_beq_false q (en h e)
structure TZ(A:Around)(s:Shared)(v w:Value)(k:Bool):Prop where
 rc:RcAt A s v w k
 ne:RcNeAt A s v w (!k)
 eq:EqAt A s v w k
theorem Ki{K:Bool->Bool}{v w:Value}{k:Bool}(hk:K k=true)(h:RcAt A s v w k)(h':RcNeAt A s v w (!k))(hf:IP v=true)(hs:v=w->k=true):∃k,K k=true/\TZ A s v w k:=⟨k,hk,h,h',x7 h hf hs⟩
theorem gB{a:V}(h:ei a=true):a=.none:=by
 cases a with
 |none=>rfl
 |_=>exact ft h
theorem CH{a b:V}{v w:Value}{h:H}{K:Bool->Bool}(I:cV g c h s)(hv:VR g c a v)(hw:VR g c b w)(hk:RZ a b K=true)(hu:A.units<cLine):∃k,K k=true/\TZ A s v w k:=
 RH hk (λhk=>kS hk hw λy u y1 y2 hk=>Ck hk (λhk=>kS hk hv λx t x1 x2 hk=>Ki (CG x1▸hk) (RcAt.str_str _ _ _ _) (RcNeAt.str_str _ _ _ _) rfl λe=>by cases e;exact beq_self_eq_true _) (λhk=>kB hk hv λx b t hx hk=>Ki hk (RcAt.bytes_str _ _ _ _) (RcNeAt.bytes_str _ _ _ _) rfl nofun) (λhk=>kT hk hv λl x vs hx Y hk=>Ki hk (RcAt.tuple_str _ _ (I.tup _ _ hx) hu) (RcNeAt.tuple_str _ _ (I.tup _ _ hx) hu) rfl nofun)) (λhk=>kI hk hv λx m t hx hk=>kI hk hw λy n u hy hk=>Ki (k:=m==n) (iF hk (CE m n▸rb hx hy)) (RcAt.int_int _ _ _ _) (RcNeAt.int_int _ _ _ _) rfl λe=>by cases e;exact beq_self_eq_true _) (λhk=>kB hk hv λx p t hx hk=>kB hk hw λy q u hy hk=>Ki (iF hk (CD _ _▸Gn hx hy)) (RcAt.bytes_bytes _ _ _ _) (RcNeAt.bytes_bytes _ _ _ _) rfl λe=>by cases e;exact beq_self_eq_true _) (λhk=>RJ hk hw λy hk=>eK hk (λhk=>RJ hk hv λx hk=>Ki hk (RcAt.bool_bool _ _) (RcNeAt.bool_bool _ _) rfl λe=>by cases e;exact beq_self_eq_true _) λhk=>cT hk λe hk=>by
  cases gB e
  cases (show v=.none from hv)
  exact Ki hk (RcAt.none_bool _) (RcNeAt.none_bool _) rfl nofun)
end
end
section
variable{g:Gb}{c c':Cf}
section
variable{A:Around}{E:Value->Shared->Prop}{h:H}{s:Shared}
theorem keyIn_asc(k:Nat):∀l:List (Nat×V),jO k l=(eJ l k).isSome
 |[]=>rfl
 |(x,v)::r=>by
  unfold jO;rw[dY]
  cases U9 x k with
  |true=>rfl
  |false=>exact keyIn_asc k r
theorem PR.at{x:Str}(hx:cd x≠0):∀{l:List (Nat×V)} {es:List (Str×Value)},PR g c l es->(∀a,eJ l (cd x)=some a->∃v,valueAt es x=some v/\VR g c a v)/\(eJ l (cd x)=none->valueAt es x=none)
 |[],_,h=>by cases h;exact⟨λa e=>by(cases e),λY=>rfl⟩
 |(k,b)::r,_,h=>by
  obtain⟨y,v,t,rfl,h2,h3,h4,h5,h6⟩:=h
  refine e02 (PR.at hx h6) λi1 i2=>?_
  rw[dY]
  by_cases q:y=x
  .subst q
   have:U9 k (cd y)=true:=by rw[h2];exact VD _
   rw[this]
   exact⟨λa e=>by(cases e;exact⟨v,by simp[valueAt],h5⟩),λe=>by(cases e)⟩
  .have:U9 k (cd x)=false:=dg λe=>q (en (by rw[h2];exact h3) (h2.trans e))
   rw[this]
   have e:valueAt ((y,v)::t) x=valueAt t x:=by simp[valueAt,List.find?_cons,q]
   rw[e]
   exact⟨i1,i2⟩
theorem PR.isSome{x:Str}(hx:cd x≠0){l:List (Nat×V)}{es:List (Str×Value)}(h:PR g c l es):(valueAt es x).isSome=jO (cd x) l:=by
 rw[keyIn_asc]
 refine e02 (h.at hx) λh1 h2=>?_
 cases e:eJ l (cd x) with
 |none=>rw[h2 e];rfl
 |some a=>obtain⟨v,e2,_⟩:=h1 a e;rw[e2];rfl
theorem oj{x:Str}{t:Tok}:(strKind g.pr g.wd).is x (.str x t)=true:=by show Value.isStrOf x (.str x t)=true;simp[Value.isStrOf]
theorem Go{Q:Value->Shared->Prop}{l:List (Nat×V)}{x:Str}{t:Tok}{a d:Addr}(h:OR g c (.dict l) a d s.heap)(hx:cd x≠0)(hq:∀k,Q (.bool (jO (cd x) l)) {s with toks:=k}):wpAny g.M A (compareOp .In (.str x t) (.ref a)) Q E s:=by
 refine e14 h λkvs h1 h2 h3 h4=>?_;clear h
 refine wpAny_in_of oj h2 h1.mapOf ?_
 rw[h3.isSome hx];exact hq _
theorem vE{Q:Value->Shared->Prop}{l:List (Nat×V)}{x:Str}{t:Tok}{a d:Addr}(h:OR g c (.dict l) a d s.heap)(hx:cd x≠0)(hq:∀k,Q (.bool (!(jO (cd x) l))) {s with toks:=k}):wpAny g.M A (compareOp .NotIn (.str x t) (.ref a)) Q E s:=by
 refine e14 h λkvs h1 h2 h3 h4=>?_;clear h
 refine wpAny_notIn_of oj h2 h1.mapOf ?_
 rw[h3.isSome hx];exact hq _
theorem sY{y x:Str}{w v:Value}{t:List (Str×Value)}(hn:(((y,w)::t).map (·.1)).Nodup):stored ((y,w)::t) x v=if y=x then(y,v)::t else(y,w)::stored t x v:=by
 have hn:y∉t.map (·.1)/\(t.map (·.1)).Nodup:=by simpa using hn
 unfold stored
 by_cases q:y=x
 .subst q
  have ht:t.map (λkv=>if kv.1=y then(kv.1,v) else kv)=t:=by
   conv=>rhs;rw[<-List.map_id t]
   refine WY λkv hkv=>?_
   rw[if_neg]
   .rfl
   .rintro rfl
    exact hn.1 (Wu hkv)
  simp[ht]
 .simp only[Wo,q,decide_false,Bool.false_or,if_false,Wn]
  split<;>rfl
theorem PR.stored{x:Str}{a:V}{v:Value}(hx:cd x≠0)(hl:x.length≤1000)(hv:VR g c a v):∀{l:List (Nat×V)} {es:List (Str×Value)},PR g c l es->(es.map (·.1)).Nodup->PR g c (ny l (cd x) a) (PySem.stored es x v)
 |[],_,h,_=>by cases h;exact⟨x,v,[],rfl,rfl,hx,hl,hv,rfl⟩
 |(k,b)::r,_,h,hn=>by
  obtain⟨y,w,t,rfl,h2,h3,h4,h5,h6⟩:=h
  rw[sY hn,jg]
  by_cases q:y=x
  .subst q
   have:U9 k (cd y)=true:=by rw[h2];exact VD _
   rw[this,if_pos rfl]
   exact⟨y,v,t,rfl,h2,h3,h4,hv,h6⟩
  .have:U9 k (cd x)=false:=dg λe=>q (en (by rw[h2];exact h3) (h2.trans e))
   rw[this,if_neg q]
   exact⟨y,w,_,rfl,h2,h3,h4,h5,PR.stored hx hl hv h6 (by simpa using (List.nodup_cons.mp hn).2)⟩
theorem da.set{x:V}{v:Value}(hv:VR g c x v):∀{l:List V} {vs:List Value} {j:Nat},da g c l vs->da g c (A1 l j x) (vs.set j v)
 |[],vs,j,h=>(h:vs=[])▸da.nil
 |a::r,vs,0,h=>by obtain⟨y,ys,rfl,h1,h2⟩:=h;exact da.cons hv h2
 |a::r,vs,j+1,h=>by obtain⟨y,ys,rfl,h1,h2⟩:=h;exact da.cons h1 (da.set hv h2)
theorem sZ{α:Type}{x:α}:∀{l:List α} {j:Nat},(A1 l j x).length=l.length
 |[],j=>by cases j<;>rfl
 |_::_,0=>rfl
 |_::r,j+1=>by show(A1 r j x).length+1=_;rw[sZ];rfl
theorem x9{α:Type}{k:Nat}{v:α}:∀{m:List (Nat×α)},(ny m k v).length≤m.length+1
 |[]=>Vm _
 |(k',w)::r=>by
  rw[jg]
  split
  .exact VA _
  .exact VM x9
theorem zH{l:Addr}{items:Array Value}{k:Int}{t:Tok}{v:Value}{Q:Unit->Shared->Prop}{E:Value->Shared->Prop}{A:Around}{s:Shared}(hl:i0 s.heap l items)
  (h0:0≤k) (hfit:k<2 ^ 63) (hn:k<items.size)
  (hQ:∀h',i0 h' l (items.setIfInBounds k.toNat v)->Vn l s.heap h'->Q () {s with heap:=h'}):
  wpAny g.M A (setItem (.ref l) (.int k t) v) Q E s:=by
 refine e11 (id hl) λne ho=>?_
 have hT:=hl.isList.typeIs
 unfold setItem
 refine wpAny_holding ?_
 refine wpAny_bind (wpAny_sequenceKey hT (by decide) ?_)
 refine wpAny_bind (wpAny_callSpecial?_slot (name:=U8 "__setitem__") hT slot_list_setitem
  (wpAny_call_entry slot_list_setitem hT entry_list_setitem ?_ (args_list_setitem _ _ _)))
 refine(?_:wpAny _ _ (Builtin.List.listSubscript? (.int k t)>>=_) _ _ s)
 refine wpAny_bind (wpAny_listSubscript_int (fitsIndex_of h0 hfit) ?_)
 clear hfit
 refine e11 (WM h0) λj zq39=>?_
 cases zq39
 have hj:j<items.size:=by omega
 have hx':items[j]? =some items[j]:=Wc hj
 refine(?_:wpAny _ _ ((seqItemAt l j>>=λr=>pure (r.map (j,·)))>>=_) _ _ s)
 refine wpAny_bind (wpAny_bind (wpAny_seqItemAt ho rfl (wpAny_pure ?_)))
 rw[hx']
 refine(?_:wpAny _ _ (setSeqItemAt l j v>>=_) _ _ s)
 have hfin:i0 (s.heap.update l (W6 (·.setIfInBounds j v))) l (items.setIfInBounds j v):=⟨_,Vp _ ho rfl⟩
 refine wpAny_bind (wpAny_setSeqItemAt ho rfl ?_)
 first
  |exact wpAny_bind (wpAny_pure (wpAny_pure ⟨.none,rfl,wpAny_pure (hQ _ hfin (Heap.SameBut.update ..))⟩))
  |exact wpAny_pure ⟨.none,rfl,wpAny_pure (hQ _ hfin (Heap.SameBut.update ..))⟩
theorem Gp{k:Nat}{v:Value}(h:VR g c (.ref k) v):v=.ref (c.ρ k):=And.right h
theorem setI_ok{a o i:V}{v vo vi:Value}{K:H->Bool}(I:cV g c h s)(hv:VR g c a v)(ho:VR g c o vo)(hi:VR g c i vi)(hk:ve a K o i h=true):wpAny g.M A (setItem vo vi v) (QU g c K) E s:=
 cP hk λk e hk=>by
  cases Gp (gx e▸ho)
  cases i with
  |int x=>
   refine e22 (Kg hi) λn t zq40 hn=>?_
   cases zq40
   refine cP hk λm e1 hk=>cP hk λl hl hk=>cT hk λh0 hk=>cP hk λj hj hK=>?_
   have hl:=F9 hl
   cases hn.cst e1
   obtain⟨_,vs,h1,h2,h3⟩:=I.obj _ _ hl
   have hsz:=et h2
   cases rg hj with
   |down _ _ _ _ hn=>exact absurd (of_decide_eq_true h0) (Int.not_le.mpr hn)
   |up _ ht=>
    refine zH h1 (VF _) (Wh (Int.ofNat_lt.mpr (Vf ht h3)) (by decide)) (Int.ofNat_lt.mpr (hsz.symm▸ht)) λh' i' hs'=>⟨c,_,.refl c,?_,hK⟩
    refine e11 (id i') λY hob=>?_
    exact I.setAt hl hob hs' ⟨_,i',by rw[Vt,Array.toList_setIfInBounds];exact h2.set hv,by rw[sZ];exact h3⟩ rfl
  |str x=>
   refine cP (show(cR (nu (h.get k)) λl=>gd (Vk l.length 999) (K (h.set k (.dict (ny l x a)))))=true from hk) λl hl hk=>cT hk λhc hk=>?_
   refine e24 hi λy t zq41 hy hy0 hyl=>?_;clear hi
   cases zq41
   have hc:=Vi hc
   have hl:=Ga hl
   obtain⟨_,kvs,h1,h2,h3,h4⟩:=I.obj _ _ hl
   obtain⟨o0,es0,ep0,_,_,_,_,_,hnd⟩:=id h1
   refine wpAny_setItem_pairs oj h1 (λh' i' hs'=>⟨c,_,.refl c,?_,hk⟩) (by rw[h3.length,sizeLine_eq];exact Va hc (by decide))
   refine e32 (id i') λob Y Y hob Y=>?_
   subst hy
   exact I.setAt hl hob hs' ⟨_,i',h2,h3.stored hy0 hyl hv hnd,Va x9 (VM hc)⟩ rfl
  |_=>cases hk
end
end
section
variable{g:Gb}{c c':Cf}
section
variable{A:Around}{E:Value->Shared->Prop}{h:H}{s:Shared}
theorem zI{n:Int}(h0:0≤n)(h1:n<256)(x:UInt8):(n.toNat.toUInt8==x)=decide ((x.toNat:Int)=n):=by
 refine e11 (WM h0) λk zq42=>?_
 cases zq42
 have hk:k<256:=by omega
 rw[Vt,Bool.eq_iff_iff,beq_iff_eq,decide_eq_true_eq]
 constructor
 .rintro rfl
  refine(?_:((UInt8.ofNat k).toNat:Int)=_)
  rw[UInt8.toNat_ofNat',WI hk]
 .intro h
  have h:x.toNat=k:=by omega
  subst h
  refine(?_:UInt8.ofNat x.toNat=x)
  exact UInt8.ofNat_toNat
theorem s4{Q:Bool->Shared->Prop}{n:Int}{t u:Tok}{b:Array UInt8}(h0:0≤n)(h1:n<256)(hq:Q (b.toList.any λx=>decide ((x.toNat:Int)=n)) s):wpAny g.M A (Builtin.Bytes.containsIn "bytes.__contains__" (.bytes b u) (.int n t)) Q E s:=by
 unfold Builtin.Bytes.containsIn
 refine wpAny_bind (wpAny_attempt (wpAny_pure (wpAny_bind (wpAny_of_eq KBy.buffer_eq ?_))))
 refine(?_:wpAny g.M A (if(decide (n<0)||decide (n≥256))=true then _ else _) _ _ s)
 have:(decide (n<0)||decide (n≥256))=false:=by simp;omega
 rw[this]
 refine eH Ve ?_
 refine wpAny_pure ?_
 have e:b.contains n.toNat.toUInt8=b.toList.any λx=>decide ((x.toNat:Int)=n):=by
  obtain⟨l⟩:=b
  simp only[List.contains_toArray,List.contains_eq_any_beq]
  congr 1
  funext x
  exact zI h0 h1 x
 rw[e];exact hq
theorem jl{Q:Bool->Shared->Prop}{n:Int}{t u:Tok}{b:Array UInt8}(h0:0≤n)(h1:n<256)(hq:∀k,Q (b.toList.any λx=>decide ((x.toNat:Int)=n)) {s with toks:=k}):wpAny g.M A (contains (.bytes b u) (.int n t)) Q E s:=by
 have hT:s.TypeIs (.bytes b u) "bytes":=rfl
 unfold contains
 try with_reducible refine wpAny_holding ?_
 refine wpAny_bind (wpAny_specialOf hT FB.slot_bytes_contains.lookup ?_)
 refine(?_:wpAny _ _ (if(some (Value.builtin "bytes.__contains__")==some Value.none)=true then _ else _) _ E s)
 refine eH (by rw[beq_builtin_none];exact Ve) ?_
 refine wpAny_bind (wpAny_callSpecialUnlessNone?_slot (name:=U8 "__contains__") hT FB.slot_bytes_contains
  (wpAny_call_entry FB.slot_bytes_contains hT FB.entry_bytes_contains ?_ (FB.args_bytes_contains_2 _ _)))
 refine(?_:wpAny _ _ (Builtin.Bytes.containsIn "bytes.__contains__" (.bytes b u) (.int n t)>>=_) _ _ s)
 refine wpAny_bind (s4 h0 h1 ?_)
 exact wpAny_pure ⟨_,rfl,wpAny_truthy_bool (hq s.toks)⟩
theorem CI{Q:Value->Shared->Prop}{n:Int}{t u:Tok}{b:Array UInt8}(h0:0≤n)(h1:n<256)(hq:∀k,Q (.bool (b.toList.any λx=>decide ((x.toNat:Int)=n))) {s with toks:=k}):wpAny g.M A (compareOp .In (.int n t) (.bytes b u)) Q E s:=by
 refine(?_:wpAny _ _ (do return .bool (<-contains (.bytes b u) (.int n t))) Q E s)
 exact wpAny_bind (jl h0 h1 λk=>wpAny_pure (hq k))
theorem s5{Q:Value->Shared->Prop}{n:Int}{t u:Tok}{b:Array UInt8}(h0:0≤n)(h1:n<256)(hq:∀k,Q (.bool (!(b.toList.any λx=>decide ((x.toNat:Int)=n)))) {s with toks:=k}):wpAny g.M A (compareOp .NotIn (.int n t) (.bytes b u)) Q E s:=by
 refine(?_:wpAny _ _ (do return .bool (!(<-contains (.bytes b u) (.int n t)))) Q E s)
 exact wpAny_bind (jl h0 h1 λk=>wpAny_pure (hq k))
end
end
section
open PySem.SeqAt
variable{g:Gb}{c c':Cf}
section
variable{A:Around}{s:Shared}{E:Value->Shared->Prop}
theorem Kj{a b:List Bool}{x y:Bool}(hx:x∈a)(hy:y∈b):(x||y)∈TG a b:=x8 hx hy
structure IQ(A:Around)(s:Shared)(vs ws:List Value)(k:Bool)(e:Nat->Bool):Prop where
 all:∀j (h1:j<vs.length) (h2:j<ws.length),EqAt A s vs[j] ws[j] (e j)
 k:((VV (min vs.length ws.length)).all e&&vs.length==ws.length)=k
theorem IQ.nil1{ws:List Value}{k:Bool}(h:(0==ws.length)=k):IQ A s [] ws k λY=>true:=⟨λY h=>absurd h (Vq _),by rw[List.length_nil,Nat.zero_min];exact h⟩
theorem IQ.nil2{x:Value}{xs:List Value}:IQ A s (x::xs) [] false λY=>true:=⟨λY Y h=>absurd h (Vq _),Bool.and_false _⟩
theorem IQ.cons{x y:Value}{xs ys:List Value}{k k':Bool}{e:Nat->Bool}(h:EqAt A s x y k)(r:IQ A s xs ys k' e):IQ A s (x::xs) (y::ys) (k&&k') (λj=>Nat.rec k (λj Y=>e j) j) where
 all:=λj=>Nat.rec (λY Y=>h) (λj Y h1 h2=>r.all j (VP h1) (VP h2)) j
 k:=by
  rw[<-r.k,Wm,Wm,Nat.succ_min_succ,List.range_succ_eq_map,List.all_cons,List.all_map,Bool.and_assoc]
  have:(xs.length+1==ys.length+1)=(xs.length==ys.length):=by
   cases q:xs.length==ys.length with
   |true=>exact beq_iff_eq.mpr (congrArg (· +1) (eq_of_beq q))
   |false=>exact beq_eq_false_iff_ne.mpr λe=>ne_of_beq_false q (Wq e)
  rw[this];rfl
theorem Gq{h:H}(I:cV g c h s)(hu:A.units<cLine){l:List V}:∀{l':List V} {vs ws:List Value} {K:Bool->Bool},da g c l vs->da g c l' ws->Jw l l' K=true->∃k e,K k=true/\IQ A s vs ws k e:=by
 induction l with
 |nil=>
  intro l' vs ws K h1 h2 hk
  cases (show vs=[] from h1)
  refine⟨_,_,hk,.nil1 ?_⟩
  cases l' with
  |nil=>cases (show ws=[] from h2);rfl
  |cons _ _=>obtain⟨y,ys,rfl,_⟩:=h2;rfl
 |cons a r ih=>
  intro l' vs ws K h1 h2 hk
  refine e23 h1 λx xs zq43 hx hxs=>?_;clear h1
  cases zq43
  cases l' with
  |nil=>cases (show ws=[] from h2);exact⟨_,_,hk,.nil2⟩
  |cons b r'=>
   refine e23 h2 λy ys zq44 hy hys=>?_;clear h2
   cases zq44
   exact(CH (K:=λx=>Jw r r' λy=>K (x&&y)) I hx hy hk hu).elim λk q=>(ih hxs hys q.1).elim λk' z=>z.elim λe z=>⟨_,_,z.1,.cons q.2.eq z.2⟩
def NE(A:Around)(s:Shared)(v w:Value)(k:Bool):Prop:=RcAt A s v w k/\RcNeAt A s v w (!k)
theorem s6{x y:Addr}{vs ws:Array Value}(hu:A.units<cLine)(h1:s.heap.IsList x vs)(h2:s.heap.IsList y ws)(z:vs.size=0\/ws.size=0):NE A s (.ref x) (.ref y) (decide (vs.size=ws.size)):=by
 by_cases e:vs.size=ws.size
 .have z1:vs.size=0:=z.elim id λq=>e.trans q
  have no:∀j,¬j<vs.size:=λj q=>absurd (z1▸q) (Vq j)
  have r:=RcAt.lists (A:=A) (e:=λY=>true) h1 h2 e hu λj q=>absurd q (no j)
  have r':=RcNeAt.lists (A:=A) (e:=λY=>true) h1 h2 e hu λj q=>absurd q (no j)
  rw[z1] at r r'
  rw[decide_eq_true e]
  exact⟨r,r'⟩
 .rw[decide_eq_false e]
  exact⟨RcAt.lists_lengths h1 h2 (bne_iff_ne.mpr e) hu,RcNeAt.lists_lengths h1 h2 (bne_iff_ne.mpr e) hu⟩
theorem CJ{x:Nat×Nat}{n:Nat}{K:Bool->Bool}(h1:x.1≤n)(h2:n≤x.2)(hk:Ry x K=true):K (decide (n=0))=true:=by
 unfold Ry at hk
 cases e:Vk 1 x.1 with
 |true=>rw[e] at hk;rw[decide_eq_false (V4 (Va (eP e) h1))];exact hk
 |false=>
  rw[e] at hk
  cases e2:U9 x.2 0 with
  |true=>rw[e2] at hk;rw[decide_eq_true (Nat.le_zero.mp (cX e2▸h2))];exact hk
  |false=>
   rw[e2] at hk
   cases decide (n=0) with
   |true=>exact(Bool.and_eq_true_iff.mp hk).1
   |false=>exact(Bool.and_eq_true_iff.mp hk).2
theorem Gr{a b:Nat}:decide (a=b)=decide (b=a):=decide_eq_decide.mpr ⟨Eq.symm,Eq.symm⟩
theorem lK{a:V}{n:Nat}(h:qO a=some n):a=.strU n:=by
 cases a with
 |strU m=>exact congrArg V.strU (U7 h)
 |_=>exact nn h
theorem Kk{x:Str}(h:cd x≠0)(e:U9 (cd x) iv=true):x.length=0:=by
 rw[en h (show cd x=cd (⟨#[]⟩:Str) from(cX e))];rfl
theorem Kl{a b:V}{v w:Value}{h:H}{K:Bool->Bool}(I:cV g c h s)(hv:VR g c a v)(hw:VR g c b w)(hk:TB a b K=true)(hu:A.units+1<cLine):∃k,K k=true/\NE A s v w k:=by
 have hu0:A.units<cLine:=Nat.lt_of_succ_lt hu
 revert hk
 refine F6 (P:=λq=>q=true->∃k,K k=true/\NE A s v w k) (λp e hk=>?_) λY hk=>(CH I hv hw hk hu0).elim λk q=>⟨k,q.1,q.2.rc,q.2.ne⟩
 exact cW e λl e1 e=>cW e λl' e2 e=>by
  cases e
  cases eB e1
  cases eB e2
  refine e23 hv λx vs zq45 x1 x2=>?_;clear hv
  cases zq45
  refine e23 hw λy ws zq46 y1 y2=>?_;clear hw
  cases zq46
  refine e22 (Gq (A:=A.in1) I hu x2 y2 hk) λk e hK r=>?_
  cases r.k
  exact⟨_,hK,RcAt.tuples (A:=A) (e:=e) (I.tup _ _ x1) (I.tup _ _ y1) hu0 (λj h1 h2=>r.all j h1 h2),RcNeAt.tuples (A:=A) (e:=e) (I.tup _ _ x1) (I.tup _ _ y1) hu0 (λj h1 h2=>r.all j h1 h2)⟩
theorem Km{x y:Nat×Nat}{p q:Addr}{vs ws:Array Value}{K:Bool->Bool}(hu:A.units<cLine)(hk:TF x y K=true)(h1:i0 s.heap p vs)(h2:i0 s.heap q ws)(x1:x.1≤vs.size)(x2:vs.size≤x.2)(y1:y.1≤ws.size)(y2:ws.size≤y.2):
  ∃k,K k=true/\NE A s (.ref p) (.ref q) k:=
 eK hk (λhk=>cT hk λz hk=>
   have z:ws.size=0:=Nat.le_zero.mp (cX z▸y2)
   ⟨_,z▸CJ x1 x2 hk,s6 hu h1.isList h2.isList (.inr z)⟩) λhk=>cT hk λz hk=>
   have z:vs.size=0:=Nat.le_zero.mp (cX z▸x2)
   ⟨_,(Gr.trans (by rw[z]:decide (ws.size=vs.size)=decide (ws.size=0)))▸CJ y1 y2 hk,s6 hu h1.isList h2.isList (.inl z)⟩
theorem CK(W:SW g){a b:V}{v w:Value}{h:H}{K:Bool->Bool}(I:cV g c h s)(hv:VR g c a v)(hw:VR g c b w)(hk:R1 g.C a b h K=true)(hu:A.units+1<cLine):∃k,K k=true/\NE A s v w k:=
 Ck hk (λhk=>Kl I hv hw hk hu) (λhk=>kU W I hk hv λx p vs h1 x1 x2 Y hk=>kU W I hk hw λy q ws h2 y1 y2 Y hk=>Km (Nat.lt_of_succ_lt hu) hk h1 h2 x1 x2 y1 y2) (λhk=>cP hk λn e hk=>kS hk hw λy u h1 Y hk=>cT hk λq hk9=>by
   cases lK e
   refine e23 hv λx t zq47 h2 Y=>?_;clear hv
   cases zq47
   have:(x==y)=false:=beq_eq_false_iff_ne.mpr λe=>h2 (e▸Kk h1 q)
   exact⟨_,this▸hk9,RcAt.str_str _ _ _ _,RcNeAt.str_str _ _ _ _⟩)
noncomputable def ya(x:Str)(v:Value):Bool:=match v with
 |.str y _=>y==x
 |_=>false
theorem CM{x:Str}{t:Tok}(hx:cd x≠0){l:List V}:∀{vs:List Value} {k:Bool},da g c l vs->R3 (cd x) l=some k->(∀y,y∈vs->EqAt A s y (.str x t) (ya x y))/\(vs.any (ya x))=k:=by
 induction l with
 |nil=>intro vs k h e;cases (show vs=[] from h);exact⟨λy h=>absurd h Vh,U7 e⟩
 |cons b r ih=>
  intro vs k h e
  refine e23 h λy ys zq48 hy hys=>?_;clear h
  cases zq48
  exact cW e λj e1 e=>cW e λz e2 e3=>by
   cases gy e1
   refine e24 hy λy u zq49 zq50 y1 Y=>?_;clear hy
   cases zq49
   cases zq50
   cases e3
   refine e02 (ih hys e2) λh1 h2=>?_
   refine⟨λq hq=>?_,?_⟩
   .cases hq with
    |head=>exact x7 (RcAt.str_str _ _ _ _) rfl λe=>by cases e;exact beq_self_eq_true _
    |tail _ hq=>exact h1 q hq
   .rw[Wo,h2,CG y1]
    refine(?_:((y==x)||z)=dj (y==x) z)
    cases y==x with
    |true=>rfl
    |false=>rfl
theorem CN{σ:Nat->Int}{a:AI}{n:Int}(ha:dN σ a n){l:List AI}:∀{b:List UInt8},BR σ l b->(b.any λx=>decide ((x.toNat:Int)=n))∈R4 a l:=by
 induction l with
 |nil=>intro b h;cases (show b=[] from h);exact Vc
 |cons x r ih=>
  intro b h
  refine e23 h λy t zq51 h1 h2=>?_;clear h
  cases zq51
  rw[Wo]
  exact Kj (rb h1 ha) (ih h2)
theorem yb{l:List Bool}{k b:Bool}(h:Jy l=some k)(hb:b∈l):b=k:=by
 cases l with
 |nil=>exact nn h
 |cons x r=>
  cases r with
  |nil=>exact(List.mem_singleton.mp hb).trans (U7 h)
  |cons _ _=>exact nn h
theorem qm{σ:Nat->Int}{l:List AI}{b:List UInt8}{k:Bool}(hb:BR σ l b){ns:List Int}:∀{n:Int},uV k l ns=true->n∈ns->(b.any λx=>decide ((x.toNat:Int)=n))=k:=by
 induction ns with
 |nil=>intro n Y h;exact absurd h Vh
 |cons x r ih=>
  intro n h hn
  exact cP h λq e h=>cT h λe2 h=>by
   cases hn with
   |head=>exact(yb e (CN (show dN σ (.c x) x from rfl) hb)).trans (eq_of_beq e2).symm
   |tail _ hn=>exact ih h hn
theorem jm{a:AI}{l:List Int}(h:qf a=some l):a=.st l:=by
 cases a with
 |st m=>exact congrArg AI.st (U7 h)
 |_=>exact nn h
theorem yc{σ:Nat->Int}{a:AI}{n:Int}{l:List AI}{b:List UInt8}{K:Bool->Bool}(ha:dN σ a n)(hb:BR σ l b)(hk:MU a l K=true):K (b.any λx=>decide ((x.toNat:Int)=n))=true:=
 eK hk (λhk=>cP hk λns e hk=>by
  cases jm e
  exact eK hk (λhk=>cT hk λq hk=>by rw[qm hb q ha];exact hk) λhk=>cT hk λq hk=>by rw[qm hb q ha];exact hk) λhk=>iF hk (CN ha hb)
theorem vF{a:V}{v:Value}(hv:VR g c a v)(h:xl a=true):v≠.none:=by
 rintro rfl
 cases a with
 |none=>exact ft h
 |tok _=>exact ft h
 |bi _=>exact ft h
 |bool b=>exact Value.noConfusion (show Value.none=.bool b from hv)
 |int a=>obtain⟨_,_,q,_⟩:=hv;exact Value.noConfusion q
 |str a=>obtain⟨_,_,q,_⟩:=hv;exact Value.noConfusion q
 |strU a=>obtain⟨_,_,q,_⟩:=hv;exact Value.noConfusion q
 |bytes a=>obtain⟨_,_,q,_⟩:=hv;exact Value.noConfusion q
 |tup a=>obtain⟨_,_,q,_⟩:=hv;exact Value.noConfusion q
 |ref k=>exact Value.noConfusion (show k<c.n/\Value.none=.ref (c.ρ k) from hv).2
 |wr k=>exact Value.noConfusion (show Value.none=.ref (g.w k) from hv)
 |fn k=>exact Value.noConfusion (show Value.none=.ref (g.fa k) from hv)
 |cls k=>exact Value.noConfusion (show Value.none=.ref (g.ca k) from hv)
theorem CO{a b:V}{v w:Value}{K:Bool->Bool}(hv:VR g c a v)(hw:VR g c b w)(hk:R6 a b K=true):w=.none/\K (v==.none)=true:=
 cT hk λe hk=>by
  cases gB e
  refine⟨hw,eK hk (λhk=>cT hk λe hk=>?_) λhk=>cT hk λe hk=>?_⟩
  .cases gB e;cases (show v=.none from hv);exact hk
  .rw[beq_eq_false_iff_ne.mpr (vF hv e)];exact hk
theorem CQ(m n:Int):(!decide (m<n))=decide (n≤m):=by
 by_cases q:m<n
 .rw[decide_eq_true q,decide_eq_false (Int.not_le.mpr q)];rfl
 .rw[decide_eq_false q,decide_eq_true (Int.not_lt.mp q)];rfl
structure UF(g:Gb)(c:Cf)(h:H)(A:Around)(E:Value->Shared->Prop)(s:Shared)(K:Bool->Bool)(v w:Value):Prop where
 i:∀Q:Value->Shared->Prop,(∀k s',K k=true->cV g c h s'->Q (.bool k) s')->wpAny g.M A (compareOp .In v w) Q E s
 n:∀Q:Value->Shared->Prop,(∀k s',K k=true->cV g c h s'->Q (.bool (!k)) s')->wpAny g.M A (compareOp .NotIn v w) Q E s
theorem IR(W:SW g){a b:V}{v w:Value}{h:H}{K:Bool->Bool}(I:cV g c h s)(hv:VR g c a v)(hw:VR g c b w)(hk:R5 g.C a b h K=true):UF g c h A E s K v w:=
 eK hk (λhk=>kS hk hv λx t x1 Y hk=>
   Ck hk (λhk=>kT hk hw λl y ws y1 y2 hk=>cP hk λk e hk=>by
    refine e02 (CM (A:=A.in1) (s:=s) (t:=t) x1 y2 e) λhe hm=>?_
    have hs:(ws.toArray.any (ya x))=k:=List.any_toArray.trans hm
    exact⟨λQ hq=>in_tupleAt _ (I.tup _ _ y1) (λy hy=>he y (List.mem_toArray.mp hy)) (hq _ s (hs▸hk) I),λQ hq=>notIn_tupleAt _ (I.tup _ _ y1) (λy hy=>he y (List.mem_toArray.mp hy)) (hq _ s (hs▸hk) I)⟩) (λhk=>kD W I hk hw λl y kvs h1 h2 h3 h4 hk=>⟨λQ hq=>Go (d:=y) ⟨kvs,h1,h2,h3,h4⟩ x1 λk=>hq _ _ hk (I.tok k),λQ hq=>vE (d:=y) ⟨kvs,h1,h2,h3,h4⟩ x1 λk=>hq _ _ hk (I.tok k)⟩) (λhk=>kL W I hk hw λl y ws y1 y2 Y hk=>cP hk λk e hk=>by
    refine e02 (CM (A:=A.in1) (s:=s) (t:=t) x1 y2 e) λhe hm=>?_
    have hs:(ws.any (ya x))=k:=Array.any_toList.symm.trans hm
    exact⟨λQ hq=>in_listAt _ y1 (λy hy=>he y hy.val) (hq _ s (hs▸hk) I),λQ hq=>notIn_listAt _ y1 (λy hy=>he y hy.val) (hq _ s (hs▸hk) I)⟩))
  λhk=>kI hk hv λx n t hx hk=>kB hk hw λbs y u hy hk=>cT hk λhb hk=>
   have hb:=lH hx hb
   ⟨λQ hq=>CI hb.1 hb.2 λk=>hq _ _ (yc hx hy hk) (I.tok k),λQ hq=>s5 hb.1 hb.2 λk=>hq _ _ (yc hx hy hk) (I.tok k)⟩
theorem ng{a b:V}{v w:Value}{F:AI->AI->Bool}{P:Value->Value->Prop}(hv:VR g c a v)(hw:VR g c b w)(hk:A7 a b F=true)(f:∀x y m n t u,dN g.σ x m->dN g.σ y n->F x y=true->P (.int m t) (.int n u)):P v w:=
 kI (P:=λv=>P v w) hk hv λx m t hx hk=>kI (P:=λw=>P _ w) hk hw λy n u hy hk=>f x y m n t u hx hy hk
theorem Ko(W:SW g){op:CmpOp}{a b:V}{v w:Value}{h:H}{K:Bool->Bool}{Q:Value->Shared->Prop}(I:cV g c h s)(hv:VR g c a v)(hw:VR g c b w)(hk:Fw g.C op a b h K=true)(hu:A.units+1<cLine)
  (hq:∀k s',K k=true->cV g c h s'->Q (.bool k) s'):wpAny g.M A (compareOp op v w) Q E s:=by
 cases op with
 |Eq=>exact(CK W I hv hw hk hu).elim λk r=>r.2.1 _ _ _ _ (hq k s r.1 I)
 |NotEq=>exact(CK W I hv hw hk hu).elim λk r=>r.2.2 _ _ _ _ (hq _ s r.1 I)
 |Is=>obtain⟨rfl,h2⟩:=CO hv hw hk;exact is_none (hq _ s h2 I)
 |IsNot=>obtain⟨rfl,h2⟩:=CO (K:=λk=>K (!k)) hv hw hk;exact isNot_none (hq _ s h2 I)
 |In=>exact(IR W I hv hw hk).i Q hq
 |NotIn=>exact(IR W I hv hw hk).n Q λk s' hk I'=>hq _ s' hk I'
 |Lt=>exact ng (P:=λv w=>wpAny g.M A (compareOp .Lt v w) Q E s) hv hw hk λx y m n t u hx hy hk=>PySem.P.lt_int (hq _ s (iF hk (q9 hx hy)) I)
 |Gt=>exact ng (P:=λv w=>wpAny g.M A (compareOp .Gt v w) Q E s) hv hw hk λx y m n t u hx hy hk=>PySem.P.gt_int (hq _ s (iF hk (q9 hy hx)) I)
 |GtE=>exact ng (P:=λv w=>wpAny g.M A (compareOp .GtE v w) Q E s) hv hw hk λx y m n t u hx hy hk=>PySem.P.ge_int (hq _ s (CQ m n▸iF (K:=λk=>K (!k)) hk (q9 hx hy)) I)
 |LtE=>exact ng (P:=λv w=>wpAny g.M A (compareOp .LtE v w) Q E s) hv hw hk λx y m n t u hx hy hk=>PySem.P.le_int (hq _ s (CQ n m▸iF (K:=λk=>K (!k)) hk (q9 hy hx)) I)
end
end
section
open PySem.SeqAt
variable{g:Gb}{c c':Cf}
section
variable{A:Around}{s:Shared}{E:Value->Shared->Prop}
theorem truthy_ok(W:SW g){a:V}{v:Value}{h:H}{K:Bool->Bool}{Q:Bool->Shared->Prop}(I:cV g c h s)(hv:VR g c a v)(hk:lC g.C a h K=true)
  (hq:∀k s',K k=true->cV g c h s'->Q k s'):wpAny g.M A (PySem.truthy v) Q E s:=
 Ck hk (λhk=>RJ hk hv λb hk=>wpAny_truthy_bool (hq b s hk I)) (λhk=>kU W I hk hv λn x ws h1 h2 h3 h4 hk=>by
   refine wpAny_truthy_list h1.isList (VG (Int.ofNat_le.mpr (Va h3 h4)) (by decide)) (hq _ _ (eK hk (λhk=>cT hk λe hk=>?_) λhk=>cT hk λe hk=>?_) (I.tok _))
   .rw[show ws.isEmpty=false from decide_eq_false (V4 (Vf (eP e) h2))];exact hk
   .rw[show ws.isEmpty=true from decide_eq_true (Nat.le_zero.mp (cX e▸h3))];exact hk) (λhk=>cT hk λe hk=>by
  cases gB e
  cases (show v=.none from hv)
  exact truthy_none (hq _ s hk I))
theorem CS{op:UnaryOp}(h:Ie op=true):op=.USub:=by
 cases op with
 |USub=>rfl
 |_=>exact ft h
theorem CU{op:UnaryOp}(h:Ig op=true):op=.Not:=by
 cases op with
 |Not=>rfl
 |_=>exact ft h
theorem unop_ok(W:SW g){op:UnaryOp}{a:V}{v:Value}{h:H}{K:V->H->Bool}(I:cV g c h s)(hv:VR g c a v)(hk:Jz g.C op a h K=true):
  wpAny g.M A (unaryOp op v) (QV g c K) E s:=
 eK hk (λhk=>cT hk λe hk=>CS e▸kI hk hv λx n t hx hk=>PySem.P.neg_int (.ti I hx.neg hk)) λhk=>cT hk λe hk=>CU e▸
  not_value (truthy_ok W I hv hk λk s' hk I'=>.at (a:=.bool (!k)) I' nV hk)
end
section
variable{n:Nat}{r:Ev}{A:Around}{fr:Fr}{env:Env}{X:Nat->H->Bool}
end
end
section
open PySem.SeqAt
variable{g:Gb}{c c':Cf}
inductive Kp(g:Gb)(ci:Nat)(inf:gb):Prop
 |mk (x:XD) (mN:Str->Option Value) (c:g.B.get? (g.ca ci)=some (excClassObj x.nm x.q (g.ca ci) x.N x.bs [.type "object"] true x.sn x.sub false x.col x.dd x.k0 x.k1 x.k2 x.k3 x.k5 x.newId)) (n:g.B.Ns x.N mN)
  (ga:mN "__getattribute__"=none) (gr:mN "__getattr__"=none) (sa:mN "__setattr__"=none) (ini:mN "__init__"=some (.ref (g.fa inf.init))/\∃o,g.B.get? (g.fa inf.init)=some o/\o.cls=.type "function") (nw:ObjNewFacts x.newId)
  (at_:∀x,yW (cd x) inf.atts=true->cd x≠0->mN x=none/\typeLookup (.type "object") x=pure none)
  (me:∀x f,eJ inf.meths (cd x)=some f->cd x≠0->mN x=some (.ref (g.fa f))/\(∃y,typeLookup (.type "object") x=pure y)/\∃o fd,g.B.get? (g.fa f)=some o/\o.cls=.type "function"/\o.data=.func fd)
structure CF(g:Gb):Prop where
 cls:∀{ci:Nat} {inf:gb},g.C.C.get ci=some inf->inf.exc=false->Kp g ci inf
section
variable{n:Nat}{r:Ev}{A:Around}{fr:Fr}{env:Env}{X:Nat->H->Bool}{h:H}{s:Shared}
theorem hV{α:Type}{P:α->Prop}{q:Prop}[Decidable q]{a b:α}(h1:P a)(h2:P b):P (if q then a else b):=by by_cases h:q<;>simp[h,h1,h2]
theorem on{P:Value->Prop}{x:Nat}(h:P (.builtin "abs")/\P (.builtin "len")/\P (.builtin "max")/\P (.builtin "min")/\P (.builtin "sorted")/\P (.type "bytes")/\P (.type "tuple")/\P (.type "list")/\P (.type "range")/\P (.type "enumerate")/\P (.type "zip")/\P (.type "int")/\P (.type "bytearray")/\P .none):P (jG x):=by
 obtain⟨h1,h2,h3,h4,h5,h6,h7,h8,h9,h10,h11,h12,h13,h14⟩:=h
 unfold jG
 exact hV h1 (hV h2 (hV h3 (hV h4 (hV h5 (hV h6 (hV h7 (hV h8 (hV h9 (hV h10 (hV h11 (hV h12 (hV h13 h14))))))))))))
theorem vG{a:V}{v:Value}(hv:VR g c a v):handedOut v=pure v:=by
 cases a with
 |int _=>obtain⟨_,_,rfl,_⟩:=hv;rfl
 |str _=>obtain⟨_,_,rfl,_⟩:=hv;rfl
 |strU _=>obtain⟨_,_,rfl,_⟩:=hv;rfl
 |bytes _=>obtain⟨_,_,rfl,_⟩:=hv;rfl
 |tup _=>obtain⟨_,_,rfl,_⟩:=hv;rfl
 |ref _=>obtain⟨_,rfl⟩:=hv;rfl
 |bi _=>cases (show v=jG _ from hv);exact on (P:=λv=>handedOut v=pure v) ⟨rfl,rfl,rfl,rfl,rfl,rfl,rfl,rfl,rfl,rfl,rfl,rfl,rfl,rfl⟩
 |tok _=>exact g.tkh hv
 |none=>cases (show v=.none from hv);rfl
 |bool b=>cases (show v=.bool b from hv);rfl
 |wr k=>cases (show v=.ref (g.w k) from hv);rfl
 |fn k=>cases (show v=.ref (g.fa k) from hv);rfl
 |cls k=>cases (show v=.ref (g.ca k) from hv);rfl
theorem kG{C:Prop}{x:Nat}{l:List Nat}(h:yW x l=true)(f:x≠0->nF x l=true->C):C:=cT h λe h=>f (ej (dO e)) h
theorem s7{C:Prop}{b:Bool}{ci x:Nat}{m:List (Nat×V)}{w:V}(h:qg g.C b ci x m=some w)(f:∀inf,g.C.C.get ci=some inf->yW x inf.atts=true->inf.exc=b->(b=true->inf.init=0)->eJ m x=some w->C):C:=
 cW h λinf e h=>dJ h λh1 h=>dJ h λh2 h=>dJ h λh3 h=>f inf e h1 (eq_of_beq h2) (λq=>by subst q;exact cX h3) h
theorem kH{o:O}{p:Nat×List (Nat×V)}(h:oI o=some p):o=.inst p.1 p.2:=by
 cases o with
 |inst c m=>cases h;rfl
 |_=>exact nn h
theorem s8{o:O}{p:Nat×List (Nat×V)×Bool}(h:oE o=some p):o=.exc p.1 p.2.1 p.2.2:=by
 cases o with
 |exc c m b=>exact congrArg (λp:Nat×List (Nat×V)×Bool=>O.exc p.1 p.2.1 p.2.2) (U7 h)
 |_=>exact nn h
theorem NF{o:O}{p:Nat×List (Nat×V)}(h:oX o=some p):∃b,o=.exc p.1 p.2 b:=by
 cases o with
 |exc c m b=>cases h;exact⟨b,rfl⟩
 |_=>exact nn h
inductive CV(g:Gb)(c:Cf)(s:Shared)(ci:Nat)(m:List (Nat×V))(y:Addr):Prop
 |mk (d:Addr) (mm:Str->Option Value) (h1:s.heap.InstFk y (g.ca ci) mm) (h3:NR g c m mm)
@[elab_as_elim] theorem IS{P:Value->Prop}{a:V}{v:Value}{p:Nat×List (Nat×V)}(W:SW g)(I:cV g c h s)(e:dp (dX g.C a h) oI=some p)(hv:VR g c a v)(f:∀y,CV g c s p.1 p.2 y->P (.ref y)):P v:=
 Gh W I e hv λo y d e ho=>by
  cases kH e
  refine e24 ho λmm ns h1 h2 h3 Y=>?_;clear ho
  exact f y ⟨d,mm,h1,h3⟩
theorem vH(CL:CF g){ci:Nat}{m:List (Nat×V)}{b:V}{y:Addr}{x:Str}{Q:Value->Shared->Prop}{E:Value->Shared->Prop}(I:cV g c h s)(O:CV g c s ci m y)(hn:qg g.C false ci (cd x) m=some b)
  (hq:∀w,VR g c b w->Q w {s with toks:=s.toks+1}):wpAny g.M A (getAttr (.ref y) x true) Q E s:=
 s7 hn λinf hi hm hex Y ha=>kG hm λhx Y=>by
  obtain⟨d,mm,h1,h3⟩:=O
  obtain⟨xd,mN,hC,hN,g1,g2,g3,g4,g5,g6,g7⟩:=CL.cls hi hex
  refine e02 (g6 x hm hx) λf1 f2=>?_
  refine e12 (h3.get hx ha) λw hw hvr=>?_
  obtain⟨hp,gg,dr,tk,os⟩:=s
  exact load_attrFk (I.base _ _ hC) (hN.keeps I.base) g1 f1 f2 h1 hw (vG hvr) (hq w hvr)
end
end
section
open PySem.SeqAt
variable{g:Gb}{c c':Cf}
section
variable{n:Nat}{r:Ev}{A:Around}{fr:Fr}{env:Env}{X:Nat->H->Bool}{h:H}{s:Shared}{E:Value->Shared->Prop}
theorem nh{k:Nat}{h':Heap}{ob:Obj}(I:cV g c h s)(hk:k<c.n)(ho:h'.get? (c.ρ k)=some ob)(hs:Vn (c.ρ k) s.heap h'):∃ob,h'.get? (c.δ k)=some ob:=by
 refine e11 ((I.pres _ hk).2) λod hod=>?_
 by_cases q:c.δ k=c.ρ k
 .exact⟨_,q▸ho⟩
 .exact⟨od,(hs.2 _ q).trans hod⟩
theorem lL{B:Around}{x:Str}{a:V}{v:Value}{K:H->Bool}(f:FR g c B fr env)(I:cV g c h s)(hv:VR g c a v)(hk:gu fr (cd x) a h K=true):
  wpAny g.M A (storeName env x v) (QU g c K) E s:=
 cP hk λk k1 hk=>by
  refine e02 (eU f k1) λhx ke=>?_
  cases k with
  |«local»=>
   exact IM I hk λm hm hlt ho hk=>by
    refine e12 ho λmm hns hnr=>?_;clear ho
    refine wpAny_storeName_local ke (f.loc▸hns) (λh' hn' hs=>⟨c,_,.refl c,?_,hk⟩) (show(env.scope.kind==.class||(env.scope.kind==.module&&_))=false by rw[f.kind];rfl)
    rw[f.loc] at hn' hs
    refine e32 (id hn') λob es ep ho r=>?_
    exact I.set (s':={s with heap:=h',toks:=s.toks+1}) hm (λb ob hb Y e=>(hs.2 b hb).trans e) ⟨_,hn',hnr.put hx hv⟩ ⟨_,ho⟩ (nh I hlt ho hs) ⟨rfl,rfl,rfl⟩ (λY Y=>rfl)
  |cell=>
   exact cP hk λi hi hk=>xT I hk λa0 hm hlt ho hk=>by
    refine e12 ho λvo hc hv0=>?_;clear ho
    refine wpAny_storeName_cell f.kind ke (f.cells x i hx (.inl ke) hi).2 hc (λh' hc' hs=>⟨c,_,.refl c,?_,hk⟩)
    refine e12 (id hc') λob ho hd=>?_
    exact I.set (s':={s with heap:=h'}) hm (λb ob hb Y e=>(hs.2 b hb).trans e) ⟨some v,hc',v,rfl,hv⟩ ⟨_,ho⟩ (nh I hlt ho hs) ⟨rfl,rfl,rfl⟩ λY q=>ft q
  |_=>exact ft hk
theorem gj{x:Nat}{xs:List Nat}{v:V}{vs:List V}{K:H->Bool}(hk:d7 fr h K (x::xs) (v::vs)=true):gu fr x v h (λh'=>d7 fr h' K xs vs)=true:=hk
theorem hY:∀{ts:List Expr},(∀t∈ts,∀x p,t≠.Starred x p)->assignEach ts env=ts.map λt=>(false,assign t env)
 |[],_=>rfl
 |t::ts,h=>by
  rw[Wn,<-hY λt ht=>h t (Vd _ ht)]
  have:=h t Vc
  cases t<;>first|rfl|exact absurd rfl (this _ _)
theorem zJ{e:Expr}(h:Bt e=false)(x:Expr)(p:Pos):e≠.Starred x p:=λq=>by subst q;exact tf h
theorem fM{ts:List Expr}(h:eS ts=true):∀t∈ts,∀x p,t≠.Starred x p:=by
 induction ts with
 |nil=>exact λt ht=>absurd ht Vh
 |cons e r ih=>
  exact cT h λh1 h2 t ht x p=>by
   cases ht with
   |head=>exact zJ (dO h1) x p
   |tail _ ht=>exact ih h2 t ht x p
theorem jV:∀(ts:List Expr),(ts.map λt=>(false,assign t env)).findIdx? (·.1)=none
 |[]=>rfl
 |t::ts=>by rw[Wn,List.findIdx?_cons,jV ts];rfl
theorem kJ{C:i9}{b:Bool}(h:iw C b=true):C.quiet=false/\b=true:=eT h .intro
theorem kK{α:Type}{k:Nat}{v:α}:∀{m:List (Nat×α)},eJ m k=none->(ny m k v).length=m.length+1
 |[],_=>rfl
 |(k',w)::r,h=>by
  rw[dY] at h
  rw[jg]
  cases e:U9 k' k with
  |true=>rw[e] at h;cases h
  |false=>rw[e] at h;exact congrArg (· +1) (kK h)
theorem kM{α:Type}{k:Nat}{v b:α}:∀{m:List (Nat×α)},eJ m k=some b->(ny m k v).length=m.length
 |(k',w)::r,h=>by
  rw[dY] at h
  rw[jg]
  cases e:U9 k' k with
  |true=>rfl
  |false=>rw[e] at h;exact congrArg (· +1) (kM h)
theorem vI{m:List (Nat×V)}{mm:Str->Option Value}{ns:List Str}{x:Str}{a:V}{v:Value}(h3:NR g c m mm)(hx:cd x≠0)(h4:Within mm ns)(h5:ns.length≤m.length):
  ∃ns',Within (λy=>if y=x then some v else mm y) ns'/\ns'.length≤(ny m (cd x) a).length:=by
 cases ha:eJ m (cd x) with
 |none=>exact⟨x::ns,Within.cons x v h4,kK (v:=a) ha▸VM h5⟩
 |some b=>
  refine⟨ns,λy hy=>?_,kM (v:=a) ha▸h5⟩
  by_cases q:y=x
  .subst q;exact(h3.get hx ha).elim λw hw=>h4 y (λe=>nn (e.symm.trans hw.1))
  .exact h4 y (λe=>hy ((if_neg q).trans e))
theorem setAtt_ok(CL:CF g){x:Str}{a o:V}{v w:Value}{K:H->Bool}(I:cV g c h s)(hv:VR g c a v)(hw:VR g c o w)(hk:BK g.C (cd x) a K o h=true):
  wpAny g.M A (setAttr w x v) (QU g c K) E s:=
 kR (P:=λw=>wpAny g.M A (setAttr w x v) (QU g c K) E s) hk hw λk hlt hk=>MH I hk λo p hm e1 ho hk=>cP hk λinf hi hk=>Fi hk λhc hex hlen hk=>kG hc λhx Y=>by
  cases kH e1
  obtain⟨xd,mN,hC,hN,g1,g2,g3,g4,g5,g6,g7⟩:=CL.cls hi (dO hex)
  refine e02 (g6 x hc hx) λf1 f2=>?_
  refine e25 ho λmm ns h1 h2 h3 h4 h5=>?_;clear ho
  have hne:c.ρ k≠g.ca p.1:=λe=>nn ((I.off k hlt _ (.inl rfl)).1.B.symm.trans (e▸hC))
  obtain⟨hp,gg,dr,tk,os⟩:=s
  refine store_attrFk F.store_object (I.base _ _ hC) (hN.keeps I.base) g3 f1 f2 hne h1 (λh' tk' I' hkeep hsame=>?_) h4 (dC (Va h5 (Va (eP hlen) (by decide))))
  refine e11 ((I.pres k hlt).1) λay bJ=>?_
  have b6:=h2 ay bJ
  refine e15 (hsame ay bJ) λaJ bK hcl hdt Y hdi=>?_
  have hd1:=hdi _ b6
  refine e12 (vI (v:=v) (a:=a) h3 hx h4 h5) λns' hw1 hw2=>?_
  refine⟨c,_,.refl c,I.set (o':=.inst p.1 (ny p.2 (cd x) a)) (s':=⟨h',gg,dr,tk',os⟩) hm (λb ob hb1 hb2 e=>hkeep b ob hb1 (λo2 dx e2 e3=>?_) e) ⟨_,ns',I',λo' ho'=>?_,h3.put hx hv,hw1,hw2⟩ ⟨_,bK⟩ ?_ ⟨rfl,rfl,rfl⟩ λY q=>ft q,hk⟩
  .cases (U7 (e2.symm.trans bJ));cases (U7 (b6.symm.trans e3));exact hb2
  .cases (U7 (ho'.symm.trans bK));exact hd1
  .refine e14 I' λoi hoi Y Y hdd=>?_;clear I'
   cases (U7 (hoi.symm.trans bK))
   rcases hdd with⟨q,_⟩|⟨d',q1,q2,⟨od,es,ep,e2,_⟩,_⟩
   .exact nn (q.symm.trans hd1)
   .cases (U7 (hd1.symm.trans q1));exact⟨od,e2⟩
end
end
section
open PySem.SeqAt
variable{g:Gb}{c c':Cf}
section
variable{n:Nat}{r:Ev}{A:Around}{fr:Fr}{env:Env}{X:Nat->H->Bool}{h:H}{s:Shared}{E:Value->Shared->Prop}
structure kc(env:Env)(ts:List Expr)(names:List Str):Prop where
 two:names.length=2
 nms:nR ts names
 loc:∀x,x∈names->env.kindOf x=some .local
 dup:names.eraseDups.length=names.length
theorem jD{e:Expr}{x:Str}(h:gY e=some x):∃p,e=.Name x p:=by
 cases e with
 |Name y p=>cases h;exact⟨p,rfl⟩
 |_=>exact nn h
theorem CW{q:Str->Pos->Bool}{F:Expr->Option Str}(hF:∀e x,F e=some x->gY e=some x/\∃p,q x p=true){ts:List Expr}:(ts.filterMap F).length=ts.length->nR ts (ts.filterMap F)/\∀x,x∈ts.filterMap F->∃p,q x p=true:=by
 induction ts with
 |nil=>exact λY=>⟨rfl,λx hx=>absurd hx Vh⟩
 |cons t ts ih=>
  intro hl
  cases e:F t with
  |none=>rw[List.filterMap_cons_none e] at hl;exact absurd hl (Vy (WC (List.length_filterMap_le ..)))
  |some x=>
   rw[List.filterMap_cons_some e] at hl⊢
   refine e02 (ih (Wq hl)) λh1 h2=>?_
   refine⟨by show gY t::ts.map gY=some x::_;rw[(hF t x e).1,h1],λy hy=>?_⟩
   cases hy with
   |head=>exact(hF t x e).2
   |tail _ hy=>exact h2 y hy
theorem oo{e:Expr}{es:List Expr}(h:mu e=some es):∃k p,e=.Tuple es k p:=by
 cases e with
 |Tuple es k p=>cases h;exact⟨k,p,rfl⟩
 |_=>exact nn h
theorem Sz{t e:Expr}(h:mu t=none)(ho:TN t=true):swappedStores [t] e env=pure none:=by
 cases t with
 |Tuple=>exact nn' h
 |List=>exact ft ho
 |_=>rfl
theorem SA{ts:List Expr}{k:Nat}{p:Pos}{e:Expr}(h:mu e=none):swappedStores [.Tuple ts k p] e env=pure none:=by
 cases e with
 |Tuple=>exact nn' h
 |_=>rfl
theorem Gs{ts:List Expr}{names:List Str}(h:Nk ts=true)(hl:ts.length=2\/ts.length=3)(hn:nR ts names):ts.length=2:=
 hl.elim id λhl=>by
  cases ts with
  |nil=>exact absurd hl (VU 2).symm
  |cons t r=>
   cases names with
   |nil=>exact absurd hn (VT _ _)
   |cons y ys=>
    have h:dq (gY t) true (λY=>!(U9 r.length 2))=true:=h
    rw[(VY hn).1] at h
    exact absurd (Wq hl) (ej (dO h))
theorem yd{α:Type}{P:α->Prop}{q:Prop}[Decidable q]{a b:α}(h1:q->P a)(h2:¬q->P b):P (if q then a else b):=by
 by_cases h:q
 .rw[if_pos h];exact h1 h
 .rw[if_neg h];exact h2 h
theorem SB{a b c d:Nat}(h:¬(a !=b||c !=d)=true):a=b/\c=d:=by
 simpa using h
theorem SC{x y z w:Bool}(h:¬(!(x||y)||z||w)=true):x=true\/y=true:=by
 cases x<;>cases y<;>simp_all
theorem CX{ts vs:List Expr}{k k':Nat}{p p':Pos}(h:dj (!(vs.all (constantsAlone 8))) (vs.all (foldedForSure 8))=true)(hfew:Nk ts=true):
  swappedStores [.Tuple ts k p] (.Tuple vs k' p') env=pure none\/∃names,swappedStores [.Tuple ts k p] (.Tuple vs k' p') env=pure (some names)/\kc env ts names:=by
 refine yd (P:=λt=>t=pure none\/∃names,t=pure (some names)/\kc env ts names) (λY=>.inl rfl) λq1=>?_
 refine yd (P:=λt=>t=pure none\/∃names,t=pure (some names)/\kc env ts names) (λY=>.inl rfl) λY=>?_
 refine yd (P:=λt=>t=pure none\/∃names,t=pure (some names)/\kc env ts names) (λY=>.inl rfl) λq3=>?_
 refine yd (P:=λt=>t=pure none\/∃names,t=pure (some names)/\kc env ts names) (λY=>.inl rfl) λhf=>?_
 rw[eK h dO λh=>absurd h hf]
 have q3:=SB q3
 obtain⟨n1,n2⟩:=CW (q:=λid pos=>env.kindOf id==some .local&&pos.line==_) (λe x hx=>by
  cases e with
  |Name y py=>
   refine e02 (nO hx) λhc e=>?_
   exact⟨congrArg some e,py,e▸hc⟩
  |_=>exact nn hx) q3.1
 exact .inr ⟨_,rfl,q3.1.trans (Gs hfew ((SC q1).imp eq_of_beq eq_of_beq) n1),n1,λx hx=>(n2 x hx).elim λpx hpx=>eq_of_beq (Bool.and_eq_true_iff.mp hpx).1,q3.2⟩
theorem pJ{t e:Expr}(h:vf t e=true):swappedStores [t] e env=pure none\/∃ts k p names,t=.Tuple ts k p/\swappedStores [t] e env=pure (some names)/\kc env ts names:=
 iV h λht Y h=>by
  cases e1:mu t with
  |none=>exact .inl (Sz e1 ht)
  |some ts=>
   refine e21 (oo e1) λk p zq52=>?_
   cases zq52
   cases e2:mu e with
   |none=>exact .inl (SA e2)
   |some vs=>
    refine e21 (oo e2) λk' p' zq53=>?_
    cases zq53
    exact cT h λh hf=>(CX h hf).imp id λq=>q.elim λnames q=>⟨ts,k,p,names,rfl,q⟩
theorem CY(targets:List Expr)(value:Expr)(pos:Pos):exec (.Assign targets value pos) env=(do
  standAt pos
  if<-swapsWithSole targets value pos.line env then do
   evalThenUse value env λv=>assignAll v ((assignEach targets env).map (·.2))
   pure .next
  else do
   let v<-eval value env
   assignStores env v (<-swappedStores targets value env) ((assignEach targets env).map (·.2))):=rfl
theorem NR.asc{m m':List (Nat×V)}{mm:Str->Option Value}(h:NR g c m mm)(e:∀k,eJ m' k=eJ m k):NR g c m' mm:=λx hx=>by rw[e];exact h x hx
theorem stores_ok{nl:Addr}(hl:env.locals=nl)(hk:env.scope.kind=.function){Q:Unit->Shared->Prop}:∀{l:List (Str×Value)} {s:Shared} {mm:Str->Option Value},(∀x,x∈l->env.kindOf x.1=some .local)->s.heap.Ns nl mm->
  (∀h' tk,h'.Ns nl (l.foldl (λmm x=>λy=>if y=x.1 then some x.2 else mm y) mm)->Vn nl s.heap h'->Q () {s with heap:=h',toks:=tk})->
  wpAny g.M A (assignInOrder (l.map λx=>bindName env x.1) (l.map (·.2))) Q E s
 |[],s,mm,_,hn,hq=>wpAny_pure (hq s.heap s.toks hn (.refl ..))
 |(x,v)::l,s,mm,hx,hn,hq=>by
  show wpAny g.M A (do holding (l.map (·.2)) (bindName env x v);assignInOrder (l.map λx=>bindName env x.1) (l.map (·.2))) _ _ s
  refine wpAny_bind (wpAny_holding (wpAny_bindName (wpAny_storeName_local (hx (x,v) Vc) (hl▸hn) (λh' hn' hs=>?_) ?_)))
  .rw[hl] at hn' hs
   exact stores_ok hl hk (l:=l) (s:={s with heap:=h',toks:=s.toks+1}) (λy hy=>hx y (Vd _ hy)) hn' λh'' tk a b=>hq h'' tk a (hs.trans b)
  .refine(?_:(env.scope.kind==.class||(env.scope.kind==.module&&_))=false)
   rw[hk];rfl
theorem iK{C:Prop}{x:Str}{v:V}{K:H->Bool}(f:FR g c A fr env)(ke:env.kindOf x=some .local)(hk:gu fr (cd x) v h K=true)(q:∀m,cd x≠0->h.get fr.ns=some (.ns m)->K (h.set fr.ns (.ns (ny m (cd x) v)))=true->C):C:=
 cP hk λk k1 hk=>by
  refine e02 (eU f k1) λhx k2=>?_
  cases U7 (ke.symm.trans k2)
  exact cP hk λm e hk=>cW e λo e1 e2=>q m hx (e1.trans (congrArg some (mw e2))) hk
theorem SD{x y:Str}(h:[x,y].eraseDups.length=[x,y].length):x≠y:=by
 rintro rfl
 simp[List.eraseDups_cons] at h
end
end
section
open PySem.SeqAt
variable{g:Gb}{c c':Cf}
section
variable{n:Nat}{r q:Ev}{A:Around}{fr:Fr}{env:Env}{X:Nat->H->Bool}{h:H}{s:Shared}
theorem ye{t e:Expr}{line:Nat}(h:RA e=true)(hc:qY e=false):swapsWithSole [t] e line env=pure false:=by
 cases e with
 |ListComp=>exact tf hc
 |SetComp=>exact ft h
 |DictComp=>exact ft h
 |_=>rfl
theorem zK{t e:Expr}(hs:vf t e=true)(v:Value):assignAll v ((assignEach [t] env).map (·.2))=assign t env v:=cT hs λh Y=>by
 cases t with
 |Starred=>exact ft h
 |_=>rfl
theorem Gu{e:Expr}{line:Nat}(h:RA e=true)(hc:qY e=false):swapsWith e none line env=pure false:=by
 cases e with
 |ListComp=>exact tf hc
 |SetComp=>exact ft h
 |DictComp=>exact ft h
 |_=>rfl
theorem yf{K:H->Bool}{K':f9->H->Bool}{fl:Flow}{aa:Shared}(hK:∀h,K h=true->K' .nx h=true)(x:QF g c (λf h=>match f with|.nx=>K h|_=>false) fl aa):QF g c K' fl aa:=by
 cases fl with
 |next=>obtain⟨ao,aq,ak,am,hk⟩:=x;exact⟨ao,aq,ak,am,hK _ hk⟩
 |ret v=>obtain⟨a,ao,aq,ak,am,_,hk⟩:=x;cases hk
 |brk=>exact x
 |cont=>exact x
end
end
section
open PySem.SeqAt
variable{g:Gb}{c c':Cf}
theorem CZ{h:H}{s:Shared}(I:cV g c h s):∃c',Kd g c h (.cell none) {cls:=.type "cell",data:=.cell none} s false c':=
 I.push1 false rfl (λh' ga=>⟨none,⟨_,ga,rfl⟩,rfl⟩) ft
theorem Kq{h:H}{s:Shared}{cl:Value}(fl:Bool)(I:cV g c h s):∃c',Kd g c h (.ns []) {cls:=cl,data:=.dict #[]} s fl c':=
 I.push1 fl rfl (λh' ga=>⟨_,⟨_,_,_,ga,rfl,λY q=>absurd q (Array.not_mem_empty _),λY=>rfl⟩,NR.nil⟩) λY=>rfl
section
variable{A:Around}{E:Value->Shared->Prop}
theorem vJ{k:NameKind}(h:(k==.cell)=false):gh k=false:=by
 cases k with
 |cell=>exact tf h
 |_=>rfl
theorem CR.cons{cells:List (Str×Addr)}{cs:List (Nat×Nat)}{D:Str->Prop}{name:Str}{i:Nat}{a:Addr}(h:CR c cells cs D)(hi:i<c.n)(e:c.ρ i=a):CR c ((name,a)::cells) ((cd name,i)::cs) (λx=>D x\/x=name):=λx j hx hd hj=>by
 rw[dY] at hj
 by_cases q:x=name
 .subst q
  rw[VD] at hj
  cases hj
  exact⟨hi,by rw[Vv,beq_self_eq_true,e]⟩
 .rw[dg λe=>q (en hx e.symm)] at hj
  rw[Vv,beq_eq_false_iff_ne.mpr q]
  exact h x j hx (hd.resolve_right q) hj
theorem CR.imp{cells:List (Str×Addr)}{cs:List (Nat×Nat)}{D D':Str->Prop}(h:CR c cells cs D)(k:∀x,D' x->D x):CR c cells cs D':=λx i hx hd=>h x i hx (k x hd)
theorem s9(f:Str×NameKind->List (Str×Addr)->Sem (ForInStep (List (Str×Addr))))
  (hf:∀name kind cells,f (name,kind) cells=if kind==.cell then(do let a<-alloc {cls:=.type "cell",data:=.cell none};pure (.yield ((name,a)::cells))) else pure (.yield cells))
  (names:List (Str×NameKind)):∀(cells:List (Str×Addr)) (cs:List (Nat×Nat)) (c:Cf) (h:H) (s:Shared) (D:Str->Prop) (Q:List (Str×Addr)->Shared->Prop),cV g c h s->CR c cells cs D->
   (∀c' h' cells' cs' s',dz c c'->cV g c' h' s'->CR c' cells' cs' (λx=>D x\/(x,NameKind.cell)∈names)->lD (dG names) h cs=(h',cs')->(∀b o,s.heap.get? b=some o->s'.heap.get? b=some o)->Q cells' s')->wpAny g.M A (forIn names cells f) Q E s:=by
 induction names with
 |nil=>exact λcells cs c h s D Q I hc hq=>wpAny_pure (hq c h cells cs s (.refl c) I (hc.imp λx hd=>hd.resolve_right Vh) rfl λY Y e=>e)
 |cons p r ih=>
  obtain⟨name,kind⟩:=p
  intro cells cs c h s D Q I hc hq
  rw[VK,hf]
  cases hk:kind==.cell with
  |true=>
   cases eq_of_beq hk
   refine e11 (CZ I) λag N=>?_
   refine wpAny_bind (wpAny_bind (wpAny_alloc (wpAny_pure (ih _ _ ag _ _ _ Q N.i ((hc.ext N.e).cons N.l N.r) λc' h' cells' cs' s' e' I' hc' hp kp=>hq c' h' cells' cs' s' (N.e.trans e') I' (hc'.imp λx hd=>?_) hp λb o e=>kp b o (Vb _ e)))))
   exact hd.elim (λq=>.inl (.inl q)) λq=>(List.mem_cons.mp q).elim (λq=>.inl (.inr (congrArg Wy q))) .inr
  |false=>
   refine wpAny_bind (wpAny_pure (ih cells cs c h s D Q I hc λc' h' cells' cs' s' e' I' hc' hp kp=>hq c' h' cells' cs' s' e' I' (hc'.imp λx hd=>hd.imp id λq=>(List.mem_cons.mp q).resolve_left λq=>?_) ?_ kp))
   .cases q;exact tf ((beq_self_eq_true _).symm.trans hk)
   .refine(?_:db (gh kind) _ _=_)
    rw[vJ hk];exact hp
theorem vK{B:Around}{fr:Fr}{env:Env}(f:Str×Value->PUnit->Sem (ForInStep PUnit))(hf:∀n v u,f (n,v) u=(do storeName env n v;pure (.yield ⟨⟩))){binds:List (Str×Value)}:
  ∀{vs:List V} {c:Cf} {h:H} {s:Shared} {K:H->Bool},FR g c B fr env->cV g c h s->da g c vs (binds.map (·.2))->d7 fr h K (binds.map λx=>cd x.1) vs=true->
   wpAny g.M A (forIn binds ⟨⟩ f) (λY s'=>QU g c K () s') E s:=by
 induction binds with
 |nil=>
  intro vs c h s K fr' I hv hk
  exact cT hk λY hk=>wpAny_pure ⟨c,h,.refl c,I,hk⟩
 |cons p r ih=>
  obtain⟨n,v⟩:=p
  intro vs c h s K fr' I hv hk
  cases vs with
  |nil=>exact ft hk
  |cons a as=>
   refine e23 hv λx xs q h1 h2=>?_;clear hv
   cases q
   rw[VK,hf]
   exact wpAny_bind (wpAny_bind (wpAny_mono (lL fr' I h1 (gj hk)) (λY aa qq=>qq.elim λag ae ac af hK=>wpAny_pure (wpAny_mono (ih (fr'.ext ac) af (h2.ext ac) hK) (λY Y=>QU.mono ac) λY Y x=>x)) λY Y x=>x))
end
end
section
open PySem.SeqAt
variable{g:Gb}{c c':Cf}
noncomputable def zL(g:Gb)(i:Nat)(fi:gt)(fd:FuncData)(o:Obj):Prop:=∀{c:Cf} {h:H} {s:Shared} {args full:List V} {vs:List Value},cV g c h s->da g c args vs->fu fi.params fi.dfl args=some full->
  ∃binds:List (Str×Value),BindsTo s fd ⟨vs,[]⟩ binds/\binds.map (λx=>cd x.1)=fi.params/\da g c full (binds.map (·.2))
structure NG(g:Gb)(i:Nat)(fi:gt)(fd:FuncData)(o:Obj):Prop where
 at_:g.B.get? (g.fa i)=some o
 cls:o.cls=.type "function"
 data:o.data=.func fd
 body:fd.body=.stmts fi.body
 names:dG fd.scope.names=fi.ks
 kind:fd.scope.kind=.function
 co:fd.scope.isCoroutine=false
 gen:fd.scope.isGenerator=false
 glob:fd.globals=mainGlobals
 clo:fd.closure=[]
 bi:fd.builtins=0
 code:g.B.CodeRec fd.code fd.qualname
 nocls:fd.scope.names.lookup ("__class__":Str)≠some .free
 lam:fi.lam=true->fd.code=.ref g.lc/\(fd.qualname++".<locals>.")++"<lambda>"=g.lq
 nodbg:fd.scope.names.lookup ("__debug__":Str)=none
 nocd:fd.scope.names.lookup ("__classdict__":Str)≠some .free
 bind:zL g i fi fd o
structure FF(g:Gb):Prop where
 fn:∀{i:Nat} {fi:gt},g.C.F.get i=some fi->∃fd o,NG g i fi fd o
 lim:g.B.NoLimit
section
variable{n:Nat}{r:Ev}{A:Around}{X:Nat->H->Bool}{h:H}{s:Shared}
noncomputable def my(scope:Scope)(locals:Addr)(cells:List (Str×Addr))(qual:Str)(func:Option Addr)(code:Value)(around:Option Env):Env:=match around with
 |some outer=>{scope,locals,globals:=mainGlobals,cells,qual,func,code:=outer.code,frame:=outer.frame,builtins:=outer.builtins}
 |none=>{scope,locals,globals:=mainGlobals,cells,qual,func,code,frame:=some locals,builtins:=0}
structure vL(g:Gb)(c:Cf)(h:H)(scope:Scope)(lm:Bool)(qual:Str)(func:Option Addr)(code:Value)(around:Option Env)(kp:Prop)(fr:Fr)(env:Env)(c':Cf)(h':H)(s':Shared):Prop where
 e:dz c c'
 i:cV g c' h' s'
 f:∀A',(∃e0 l,A'.frames=some (e0::l)/\env.frame=e0.frame)->FR g c' A' fr env
 ns:fr.ns=h.length
 lm:fr.lam=lm
 ks:fr.ks=dG scope.names
 env:∃cells,env=my scope (c'.ρ fr.ns) cells qual func code around
 N:c'.N fr.ns↔around=none
 kp:kp
theorem frame_ok{E:Value->Shared->Prop}{scope:Scope}{binds:List (Str×Value)}{qual:Str}{func:Option Addr}{code:Value}{vs:List V}{around:Option Env}{clo:List (Str×Addr)}{cs0:List (Nat×Nat)}{lm:Bool}{K:Fr->H->Bool}{Q:Env->Shared->Prop}
  (hk:scope.kind=.function) (h1:scope.names.lookup ("__class__":Str)≠some .free) (h2:scope.names.lookup ("__debug__":Str)=none) (h3:scope.names.lookup ("__classdict__":Str)≠some .free)
  (hb0:∀o,around=some o->o.builtins=0) (hlm:lm=true->∀L cells,(my scope L cells qual func code around).code=.ref g.lc/\qual++"<lambda>"=g.lq) (hc0:CR c clo cs0 λx=>scope.names.lookup x=some .free)
  (I:cV g c h s) (hv:da g c vs (binds.map (·.2))) (hb:Prod.rec (motive:=λY=>Bool) (λfr h'=>d7 fr h' (K fr) (binds.map λx=>cd x.1) vs) (ez lm (dG scope.names) cs0 h)=true)
  (hQ:∀fr env c' h' s',vL g c h scope lm qual func code around (binds=[]->∀b o,s.heap.get? b=some o->s'.heap.get? b=some o) fr env c' h' s'->K fr h'=true->Q env s'):
  wpAny g.M A (newFunctionEnv scope mainGlobals clo binds qual func code around 0) Q E s:=by
 simp only[newFunctionEnv]
 refine wpAny_bind (wpAny_alloc ?_)
 refine e11 (Kq (cl:=.type (if around.isSome=true then"dict" else"frame")) (!around.isSome) I) λag N=>?_
 refine wpAny_bind (s9 _ (λname kind cells=>by cases hkc:kind==NameKind.cell<;>simp[hkc]) scope.names clo cs0 ag _ _ (λx=>scope.names.lookup x=some .free) _ N.i (hc0.ext N.e) λao aq cells cs aj ak am hc hp kp=>?_)
 have nN:around=none↔(!around.isSome)=true:=by
  cases around with
  |none=>exact⟨λY=>rfl,λY=>rfl⟩
  |some o=>exact⟨λq=>nn' q,λq=>ft q⟩
 have nn:ao.N h.length↔around=none:=⟨λq=>nN.mpr (N.n.mp (ak.M _ N.l q)),λq=>ak.N _ (N.n.mpr (nN.mp q))⟩
 have hb:Prod.rec (motive:=λY=>Bool) (λfr h'=>d7 fr h' (K fr) (binds.map λx=>cd x.1) vs) (Prod.rec (motive:=λY=>Fr×H) (λh' cs=>(⟨dG scope.names,h.length,cs,lm⟩,h')) (lD (dG scope.names) (h.push (.ns [])) cs0))=true:=hb
 rw[hp] at hb
 have l2:=Vf N.l ak.n
 have r2:ao.ρ h.length=s.heap.objs.size:=(ak.ρ _ N.l).trans N.r
 have hfr:∀A',(∃e0 l,A'.frames=some (e0::l)/\(my scope s.heap.objs.size cells qual func code around).frame=e0.frame)->
   FR g ao A' ⟨dG scope.names,h.length,cs,lm⟩ (my scope s.heap.objs.size cells qual func code around):=λA' hl=>by
  have hlm:=λq=>hlm q s.heap.objs.size cells
  have hbi:(my scope s.heap.objs.size cells qual func code around).builtins=0:=by
   cases around with
   |none=>rfl
   |some o=>exact hb0 o rfl
  have hin:∀env:Env,env.scope=scope->interactive env=false:=λenv e=>by
   refine(?_:(env.scope.kind==.module&&_)=false)
   rw[e,hk];rfl
  cases around<;>exact⟨hk,rfl,l2,r2.symm,λx i hx hd hi=>hc x i hx (hd.elim (λq=>.inr (mem_of_lookup q)) .inl) hi,rfl,hbi,h1,hin _ rfl,h2,h3,hl,hlm⟩
 have fin:∀env,env=my scope s.heap.objs.size cells qual func code around->wpAny g.M A (do (forIn binds PUnit.unit λx Y=>(do storeName env x.1 x.2;pure (ForInStep.yield PUnit.unit)));pure env) Q E aj:=λenv he=>by
  subst he
  have done:∀aA aw av,dz ao aA->cV g aA aw av->(binds=[]->∀b o,s.heap.get? b=some o->av.heap.get? b=some o)->K ⟨dG scope.names,h.length,cs,lm⟩ aw=true->Q (my scope s.heap.objs.size cells qual func code around) av:=λaA aw av au az hk hK=>
   hQ _ _ aA aw av ⟨N.e.trans (ak.trans au),az,λA' hl=>(hfr A' hl).ext au,rfl,rfl,rfl,⟨cells,by rw[au.ρ _ l2,r2]⟩,⟨λq=>nn.mp (au.M _ l2 q),λq=>au.N _ (nn.mpr q)⟩,hk⟩ hK
  cases binds with
  |nil=>
   cases vs with
   |cons _ _=>exact ft hb
   |nil=>exact wpAny_bind (wpAny_pure (wpAny_pure (done ao aq aj (.refl _) am (λY b o e=>kp b o (Vb _ e)) hb)))
  |cons p binds=>
   exact wpAny_bind (wpAny_mono (vK _ (λY Y Y=>rfl) (hfr {A with frames:=some [my scope s.heap.objs.size cells qual func code around]} ⟨_,_,rfl,rfl⟩) am (hv.ext (N.e.trans ak)) hb) (λY av qq=>qq.elim λaA aw au az hK=>wpAny_pure (done aA aw av au az (λq=>absurd q (VT _ _)) hK)) λY Y x=>x)
 cases around<;>exact fin _ rfl
theorem vL.within{n:Nat}{scope:Scope}{lm:Bool}{qual:Str}{func:Option Addr}{code:Value}{kp:Prop}{fr:Fr}{env:Env}{h':H}{s':Shared}(x:vL g c h scope lm qual func code none kp fr env c' h' s')(oa:dy g c (n+1) A):
  FR g c' (A.deeper env) fr env/\c'.N fr.ns/\∀ao,dz c ao->fr.ns<ao.n->ao.N fr.ns->env.locals=ao.ρ fr.ns->dy g ao n (A.deeper env):=by
 refine e12 oa.fr λl hl hfl=>?_
 have hf:env.frame=some env.locals:=x.env.elim λcells e=>by rw[e];rfl
 have hfs:(A.deeper env).frames=some (env::l):=by show A.frames.map (env::·)=some (env::l);rw[hl];rfl
 have f:=x.f (A.deeper env) ⟨env,l,hfs,rfl⟩
 exact⟨f,x.N.mpr rfl,λao ak h1 h2 h3=>(oa.up ak).step (Vm _) (VO (by decide:3≤16) _) rfl ⟨env::l,hfs,by rw[f.kind];exact nofun,⟨env.locals,hf,.inl ⟨fr.ns,h1,h2,h3⟩⟩,hfl.ext ak⟩⟩
end
end
section
open PySem.SeqAt
variable{g:Gb}{c c':Cf}
def fx(g:Gb)(f:Value)(s:Shared):Prop:=∀(A:Around) (E:Value->Shared->Prop) (Q:Keeper->Shared->Prop),(∀k,Q k s)->wpAny g.M A (keeperOf f) Q E s
section
variable{A:Around}{E:Value->Shared->Prop}{s:Shared}
theorem d8{id:String}:fx g (.builtin id) s:=λY Y Y h=>by unfold keeperOf;exact wpAny_pure (h _)
theorem dR{id:String}:fx g (.type id) s:=λY Y Y h=>by unfold keeperOf;exact wpAny_pure (h _)
theorem td:fx g .none s:=λY Y Y h=>by unfold keeperOf;exact wpAny_pure (h _)
theorem lM{a:Addr}{o:Obj}{fd:FuncData}(ho:s.heap.get? a=some o)(hd:o.data=.func fd):fx g (.ref a) s:=λY Y Y h=>by
 unfold keeperOf
 refine wpAny_bind (wpAny_load ho ?_)
 rw[hd];exact wpAny_pure (h _)
theorem gp:∀{es:List Expr} {env:Env} {pos:Pos},(∀e∈es,∀x p,e≠.Starred x p)->(backTo pos (starEach es env)).any (·.1)=false
 |[],_,_,_=>rfl
 |e::r,env,pos,h=>by
  rw[g8 (h e Vc)]
  exact gp (es:=r) (env:=env) (pos:=pos) λe he=>h e (Vd _ he)
end
end
section
open AutoSeq1 (wpAny_loadPart')
variable{g:Gb}{c c':Cf}
theorem tg(b:Array UInt8)(t:Tok):
  Meets (Builtin.«enumerate.__new__» ⟨[.type "enumerate",.bytes b t],[]⟩) (λY R s=>
   R (.ok (.ret (.ref (s.heap.push {cls:=.type "bytes_iterator",data:=.fields #[.bytes b t,.int 0 0]}).objs.size)))
    {s with heap:=(s.heap.push {cls:=.type "bytes_iterator",data:=.fields #[.bytes b t,.int 0 0]}).push {cls:=.type "enumerate",data:=.fields #[.none,.bool false,.ref s.heap.objs.size,rawInt 0,.none,.none]}}):=
 .of_wp λprog w A R s h=>by
  obtain⟨hp,gg,d,tk,os⟩:=s
  have hsub:=sub_enumerate
  wp_walk
  have all:∀{α:Type} {a:α} {M:Model} {A:Around} {Q:α->Shared->Prop} {E:Value->Shared->Prop} {s:Shared},(∀a,Q a s)->PySem.wpAny M A (pure a) Q E s:=λh=>PySem.wpAny_pure (h _)
  refine wpAny_stack_any λst=>all λb=>?_
  cases b
  .wp_walk using KBw.pyIter_bytes
   exact⟨_,rfl,h⟩
  .wp_walk using KBw.pyIter_bytes
   exact⟨_,rfl,h⟩
section
variable{A:Around}{E:Value->Shared->Prop}{s:Shared}
theorem vM{b:Array UInt8}{t:Tok}{Q:Value->Shared->Prop}
  (h:∀h',IsEnum h' (s.heap.objs.size+1) s.heap.objs.size 0 .none->KBw.IsBytesIter h' s.heap.objs.size b t 0->(∀x o,s.heap.get? x=some o->h'.get? x=some o)->Q (.ref (s.heap.objs.size+1)) {s with heap:=h'}):
  wpAny g.M A (call (.type "enumerate") [.bytes b t]) Q E s:=by
 refine callType_new F.called_enumerate (by decide) (F.typeCall_enumerate_1 _) (F.newCall_enumerate_1 _) (λobj=>F.args_object_init_2 obj _) F.entry_enumerate_new (tg b t) ?_
 have hz:(s.heap.push {cls:=.type "bytes_iterator",data:=.fields #[.bytes b t,.int 0 0]}).objs.size=s.heap.objs.size+1:=V9 ..
 refine(?_:_/\_)
 rw[hz]
 have he:IsEnum ((s.heap.push {cls:=.type "bytes_iterator",data:=.fields #[.bytes b t,.int 0 0]}).push
   {cls:=.type "enumerate",data:=.fields #[.none,.bool false,.ref s.heap.objs.size,rawInt 0,.none,.none]}) (s.heap.objs.size+1) s.heap.objs.size 0 .none:=by
  have:=Vj (s.heap.push {cls:=.type "bytes_iterator",data:=.fields #[.bytes b t,.int 0 0]})
   (o:={cls:=.type "enumerate",data:=.fields #[.none,.bool false,.ref s.heap.objs.size,rawInt 0,.none,.none]}) rfl
  rw[hz] at this;exact this
 exact⟨⟨_,he,rfl⟩,h _ he ⟨_,Vb _ (Vj _ rfl),rfl,rfl⟩ λx o e=>Vb _ (Vb _ e)⟩
end
noncomputable abbrev RK(h:Heap)(l1:Addr):Heap:=h.push {cls:=.type "tuple_iterator",data:=.fields #[.ref l1,.int 0 0]}
noncomputable abbrev RL(h:Heap)(l1 l2:Addr):Heap:=(RK h l1).push {cls:=.type "list_iterator",data:=.fields #[.ref l2,.int 0 0]}
noncomputable abbrev RM(h:Heap)(l1 l2:Addr):Heap:=(RL h l1 l2).push {cls:=.type "tuple",data:=.seq #[.ref h.objs.size,.ref (RK h l1).objs.size]}
noncomputable abbrev RN(h:Heap)(l1 l2:Addr):Heap:=(RM h l1 l2).push {cls:=.type "tuple",data:=.seq #[.none,.none]}
noncomputable abbrev MI(h:Heap)(l1 l2:Addr):Heap:=(RN h l1 l2).push {cls:=.type "zip",data:=.fields #[.none,.bool false,.bool false,.ref (RL h l1 l2).objs.size,.ref (RM h l1 l2).objs.size]}
theorem vN(l1 l2:Addr)(xs ys:Array Value):
  Meets (Builtin.«zip.__new__» ⟨[.type "zip",.ref l1,.ref l2],[]⟩) (λY R s=>s.heap.IsTuple l1 xs/\s.heap.IsList l2 ys/\
   R (.ok (.ret (.ref (RN s.heap l1 l2).objs.size))) {s with heap:=MI s.heap l1 l2}):=
 .of_wp λprog w A R s h=>by
  obtain⟨hp,gg,d,tk,os⟩:=s;obtain⟨hl1,hl2,h⟩:=h
  have hsub:=sub_zip
  have hL1:Heap.IsTuple (Shared.heap ⟨hp,gg,d,tk,os⟩) l1 xs:=hl1
  have hL2:Heap.IsList (Shared.heap ⟨hp.push {cls:=.type "tuple_iterator",data:=.fields #[.ref l1,.int 0 0]},gg,d,tk,os⟩) l2 ys:=Heap.IsList.push hl2 _
  wp_walk using wpAny_pyIter_tuple hL1,wpAny_pyIter_list hL2
  exact⟨_,rfl,h⟩
section
variable{A:Around}{E:Value->Shared->Prop}{s:Shared}
theorem zM{l1 l2:Addr}{xs ys:Array Value}{Q:Value->Shared->Prop}(hl1:s.heap.IsTuple l1 xs)(hl2:s.heap.IsList l2 ys)
  (h:∀h',IsZip h' (s.heap.objs.size+4) (s.heap.objs.size+2) (s.heap.objs.size+3) .none->IsPair h' (s.heap.objs.size+2) (.ref s.heap.objs.size) (.ref (s.heap.objs.size+1))->
   IsPair h' (s.heap.objs.size+3) .none .none->h'.IsTupleIter s.heap.objs.size l1 0->h'.IsListIter (s.heap.objs.size+1) l2 0->
   (∀c o,s.heap.get? c=some o->h'.get? c=some o)->Q (.ref (s.heap.objs.size+4)) {s with heap:=h'}):
  wpAny g.M A (call (.type "zip") [.ref l1,.ref l2]) Q E s:=by
 refine callType_new F.called_zip (by decide) (F.typeCall_zip_2 _ _) (F.newCall_zip_2 _ _) (λobj=>F.args_object_init_3 obj _ _) F.entry_zip_new
  (vN l1 l2 xs ys) ⟨hl1,hl2,?_⟩
 have z1:(RK s.heap l1).objs.size=s.heap.objs.size+1:=V9 ..
 have z2:(RL s.heap l1 l2).objs.size=s.heap.objs.size+2:=by rw[V9,z1]
 have z3:(RM s.heap l1 l2).objs.size=s.heap.objs.size+3:=by rw[V9,z2]
 have z4:(RN s.heap l1 l2).objs.size=s.heap.objs.size+4:=by rw[V9,z3]
 have g5:(MI s.heap l1 l2).get? (RN s.heap l1 l2).objs.size=some _:=Vj _ rfl
 have g4:(MI s.heap l1 l2).get? (RM s.heap l1 l2).objs.size=some _:=Vb _ (Vj _ rfl)
 have g3:(MI s.heap l1 l2).get? (RL s.heap l1 l2).objs.size=some _:=Vb _ (Vb _ (Vj _ rfl))
 have g2:(MI s.heap l1 l2).get? (RK s.heap l1).objs.size=some _:=Vb _ (Vb _ (Vb _ (Vj _ rfl)))
 have g1:(MI s.heap l1 l2).get? s.heap.objs.size=some _:=Vb _ (Vb _ (Vb _ (Vb _ (Vj _ rfl))))
 refine(?_:_/\_)
 rw[z2,z3,z4] at g5
 rw[z1,z2] at g3
 rw[z3] at g4
 rw[z1] at g2
 rw[z4]
 exact⟨⟨_,g5,rfl⟩,h _ g5 g3 g4 ⟨_,g1,rfl,rfl⟩ ⟨_,g2,rfl,rfl⟩ λc o x=>
  Vb _ (Vb _ (Vb _ (Vb _ (Vb _ x))))⟩
inductive QI(g:Gb)(c:Cf)(K:It->H->Bool)(itv:Value)(s:Shared):Prop
 |mk (it:It) (c':Cf) (h:H) (e:dz c c') (i:cV g c' h s) (r:pB g c' s.heap it itv) (k:K it h=true)
theorem QI.mono(e:dz c c'){K:It->H->Bool}{v:Value}{s:Shared}(q:QI g c' K v s):QI g c K v s:=q.rec λa c2 h e2 i r k=>⟨a,c2,h,e.trans e2,i,r,k⟩
theorem Gv(W:SW g){a:V}{v:Value}{h:H}{it:It}{K:It->H->Bool}(I:cV g c h s)(hv:VR g c a v)(hi:mM g.C a h=some it)(hK:K it h=true):wpAny g.M A (pyIter v) (QI g c K) E s:=by
 have fa:=I.free (Vo (Vm s.heap.objs.size))
 have zK:∀b,b∈[s.heap.objs.size]->gZ g c b:=λb hb=>List.mem_singleton.mp hb▸fa
 refine fK hi (λe=>cW e λl e e2=>?_) λhi=>fK hi (λe=>cW e λl e e2=>?_) λhi=>fK hi (λe=>cW e λl e e2=>?_) λe=>cW e λl e e2=>dJ e2 λh0 e2=>?_
 .cases eB e
  refine e23 hv λt vs zq54 hT hr=>?_;clear hv
  cases zq54
  exact wpAny_pyIter_tuple (I.tup _ _ hT) ⟨.vals _,c,h,.refl c,I.alloc _,.mk _ _ _ zK (.vals _ _ (.tup t vs 0 ⟨_,Vj _ rfl,rfl,rfl⟩ hT hr)),U7 e2▸hK⟩
 .cases d6 e
  refine e22 hv λb t zq55 hr=>?_;clear hv
  cases zq55
  exact KBw.pyIter_bytes ⟨.vals _,c,h,.refl c,I.alloc _,.mk _ _ _ zK (.vals _ _ (.byt b t 0 _ ⟨_,Vj _ rfl,rfl,rfl⟩ rfl hr)),U7 e2▸hK⟩
 .have hp:gP a=true:=cW e λo e Y=>iH e
  refine Gh (P:=λv=>VR g c a v->wpAny g.M A (pyIter v) (QI g c K) E s) W I e hv (λo x d e ho hv=>?_) hv
  cases gz e
  refine e13 ho λvs h1 h2 Y=>?_;clear ho
  exact wpAny_pyIter_list h1.isList ⟨.lst a 0,c,h,.refl c,I.alloc _,.mk _ _ _ zK (.lst a 0 _ x hp hv ⟨_,Vj _ rfl,rfl,rfl⟩),U7 e2▸hK⟩
 .refine Gh (P:=λv=>wpAny g.M A (pyIter v) (QI g c K) E s) W I e hv λo x d e ho=>?_
  cases sW e
  refine e14 ho λkvs h1 h2 h3 Y=>?_;clear ho
  cases l with
  |cons _ _=>exact ft h0
  |nil=>
   cases (show kvs=[] from h3)
   refine e11 h1.dictAt λep hD=>?_
   exact wpAny_pyIter_dict h2 hD ⟨.vals [],c,h,.refl c,I.alloc _,.emp _ x ep fa (hD.push _) ⟨_,Vj _ rfl,rfl,rfl⟩ h2,U7 e2▸hK⟩
end
section
variable{n:Nat}{r:Ev}{A:Around}{fr:Fr}{env:Env}{X:Nat->H->Bool}{h:H}{s:Shared}
theorem yg{e:Expr}(h:∀es k p,e≠.Set es k p)(x:Value):foldedSetIterable e env x=pure x:=by
 cases e with
 |Set=>exact absurd rfl (h _ _ _)
 |_=>rfl
theorem UG(m:Nat):m+2≠m+4/\m+3≠m+4/\m≠m+4/\m+1≠m+4/\m+2≠m+3/\m+2≠m/\m+2≠m+1/\m+3≠m/\m+3≠m+1/\m≠m+1:=
 have k:∀{i j:Nat},i≠j->m+i≠m+j:=λh e=>h (Nat.add_left_cancel e)
 ⟨k (by decide),k (by decide),k (i:=0) (by decide),k (by decide),k (by decide),k (j:=0) (by decide),k (by decide),k (j:=0) (by decide),k (by decide),k (i:=0) (by decide)⟩
end
end
section
noncomputable def Gb.alt(g:Gb)(C:i9)(R S:Addr->Obj->Prop)(M0:Option Addr)(s0:Shared)(T0:Addr->List Value->Prop)(dl ul:Nat):Gb:=
 {g with C:=C,R:=R,S:=S,M0:=M0,s0:=s0,T0:=T0,dl:=dl,ul:=ul}
section
variable{g:Gb}{C:i9}{R S:Addr->Obj->Prop}{M0:Option Addr}{s0:Shared}{T0:Addr->List Value->Prop}{dl ul:Nat}{c c':Cf}
set_option smartUnfolding false in
theorem iL:VR (g.alt C R S M0 s0 T0 dl ul)=VR g:=rfl
set_option smartUnfolding false in
theorem yh:da (g.alt C R S M0 s0 T0 dl ul)=da g:=rfl
set_option smartUnfolding false in
theorem oq:OR (g.alt C R S M0 s0 T0 dl ul)=OR g:=rfl
def FP(g:Gb)(c:Cf)(L:Addr):Prop:=(∃k,k<c.n/\c.N k/\L=c.ρ k)\/∃o,g.S L o/\∀vs,o.data≠.fields vs
theorem FL.imp{g g':Gb}(h:∀L,FP g c L->FP g' c' L):∀{l:List Env},FL g c l->FL g' c' l
 |[],_=>trivial
 |_::_,⟨h0,⟨L,h1,h2⟩,h3⟩=>⟨h0,⟨L,h1,h L h2⟩,FL.imp h h3⟩
theorem FR.alt{A:Around}{fr:Fr}{env:Env}(x:FR g c A fr env):FR (g.alt C R S M0 s0 T0 dl ul) c A fr env:=
 ⟨x.kind,x.names,x.ins,x.loc,x.cells,x.glob,x.bi,x.cls,x.inter,x.dbg,x.cdict,x.lk,x.lam⟩
end
variable{g:Gb}{c c':Cf}
noncomputable def Gb.wR(g:Gb)(R:Addr->Obj->Prop):Gb:=g.alt g.C R g.S g.M0 g.s0 g.T0 g.dl g.ul
noncomputable def Gb.pin(g:Gb)(L:List Addr)(hp:Heap):Gb:=g.wR λa o=>g.R a o\/(a∈L/\hp.get? a=some o)
theorem gZ.unpin{L:List Addr}{hp:Heap}{a:Addr}(x:gZ (g.pin L hp) c a):gZ g c a:=⟨⟨λo q=>x.al.R o (.inl q),x.al.B,x.al.T,x.al.D⟩,x.S,x.ne,x.P⟩
theorem cV.pin{h:H}{s:Shared}{L:List Addr}(I:cV g c h s)(hL:∀b,b∈L->gZ g c b):cV (g.pin L s.heap) c h s:=by
 have al:∀a,Al g c a->a∉L->Al (g.pin L s.heap) c a:=λa x n=>⟨λo q=>q.elim (x.R o) λq=>n q.1,x.B,x.T,x.D⟩
 refine⟨I.len,λk o e=>?_,I.pres,I.tup,I.dat,λa o q=>q.elim (I.rest a o) λq=>q.2,I.fra,I.base,I.inj,λk hk a ha=>?_,λa o ho=>?_,I.sam,I.t0,I.m0,I.ns,I.tab,?_,I.sm,⟨λa vs o q r=>?_,λa ob o q r=>?_⟩⟩
 .refine e02 (I.obj k o e) λh1 h2=>?_
  exact⟨h1,by(show OR (g.alt ..) c o _ _ _);rw[oq];exact h2⟩
 .refine e02 (I.off k hk a ha) λh1 h2=>?_
  exact⟨al a h1 λq=>ha.elim ((hL a q).ne k hk).1 ((hL a q).ne k hk).2,h2⟩
 .refine e02 (I.offS a o ho) λh1 h2=>?_
  exact⟨al a h1 λq=>(hL a q).S o ho,h2⟩
 .exact al _ I.offP λq=>(hL _ q).P rfl
 .exact r.elim (I.rT.1 a vs o q) λr=>(hL a r.1).al.T vs q
 .exact r.elim (I.rT.2 a ob o q) λr=>(hL a r.1).al.D ob q
theorem cV.unpin{h:H}{s:Shared}{L:List Addr}{hp:Heap}(I:cV (g.pin L hp) c h s):cV g c h s:=by
 have al:∀a,Al (g.pin L hp) c a->Al g c a:=λa x=>⟨λo q=>x.R o (.inl q),x.B,x.T,x.D⟩
 refine⟨I.len,λk o e=>?_,I.pres,I.tup,I.dat,λa o q=>I.rest a o (.inl q),I.fra,I.base,I.inj,λk hk a ha=>let⟨h1,h2⟩:=I.off k hk a ha;⟨al a h1,h2⟩,λa o ho=>let⟨h1,h2⟩:=I.offS a o ho;⟨al a h1,h2⟩,I.sam,I.t0,I.m0,I.ns,I.tab,al _ I.offP,I.sm,⟨λa vs o q r=>I.rT.1 a vs o q (.inl r),λa ob o q r=>I.rT.2 a ob o q (.inl r)⟩⟩
 refine e02 (I.obj k o e) λh1 h2=>?_
 have h2:OR (g.alt ..) c o _ _ _:=h2
 rw[oq] at h2
 exact⟨h1,h2⟩
theorem cV.pinned{h:H}{s:Shared}{L:List Addr}{hp:Heap}{b:Addr}{o:Obj}(I:cV (g.pin L hp) c h s)(hb:b∈L)(e:hp.get? b=some o):s.heap.get? b=some o:=I.rest b o (.inr ⟨hb,e⟩)
theorem cV.pinFre{c0:Cf}{h:H}{s:Shared}{L:List Addr}{hp:Heap}{b:Addr}{o:Obj}(I:cV (g.pin L hp) c h s)(hb:b∈L)(e:hp.get? b=some o)(f:gZ g c0 b):gZ g c b:=
 ⟨⟨f.al.R,f.al.B,λvs q=>I.rT.1 b vs o q (.inr ⟨hb,e⟩),λob q=>I.rT.2 b ob o q (.inr ⟨hb,e⟩)⟩,f.S,λk hk=>⟨λq=>(I.off k hk b (.inl q)).1.R o (.inr ⟨hb,e⟩),λq=>(I.off k hk b (.inr q)).1.R o (.inr ⟨hb,e⟩)⟩,f.P⟩
theorem dy.pin{n:Nat}{A:Around}{L:List Addr}{hp:Heap}(x:dy g c n A):dy (g.pin L hp) c n A:=⟨x.hh,x.dep',x.un',x.lid,let⟨l,h1,h2⟩:=x.fr;⟨l,h1,FL.imp (g:=g) (g':=g.pin L hp) (c:=c) (c':=c) (λY q=>q) h2⟩⟩
theorem FR.pin{A:Around}{fr:Fr}{env:Env}{L:List Addr}{hp:Heap}(x:FR g c A fr env):FR (g.pin L hp) c A fr env:=x.alt
theorem VR.pin{L:List Addr}{hp:Heap}{a:V}{v:Value}:VR (g.pin L hp) c a v↔VR g c a v:=Iff.of_eq (congrFun (congrFun (congrFun iL c) a) v)
theorem da.pin{L:List Addr}{hp:Heap}{a:List V}{v:List Value}:da (g.pin L hp) c a v↔da g c a v:=Iff.of_eq (congrFun (congrFun (congrFun yh c) a) v)
theorem vA.unpin{A:Around}{L:List Addr}{hp:Heap}{e:Addr}{s:Shared}(x:vA (g.pin L hp) c A e s):vA g c A e s:=by
 exact x.imp (λT y=>y.unpin) rfl
theorem EX.unpin{A:Around}{X:Nat->H->Bool}{L:List Addr}{hp:Heap}{v:Value}{s:Shared}(x:EX (g.pin L hp) c A X v s):EX g c A X v s:=x.rec λk c' h e1 I h1 h2 h3 h4=>⟨k,c',h,e1,I.unpin,h1,h2,h3.unpin,h4⟩
end
section
open PySem.SeqAt
variable{g:Gb}{c c':Cf}
section
variable{n:Nat}{r:Ev}{A:Around}{fr:Fr}{env:Env}{X:Nat->H->Bool}{h:H}{s:Shared}
theorem qn{C:i9}{f:V}{b:Bool}(hk:u8 C f h b=true):u7 C f h=true/\b=true:=cT hk .intro
end
end
section
open PySem.SeqAt
variable{g:Gb}{c c':Cf}
section
variable{n:Nat}{r:Ev}{A:Around}{fr:Fr}{env:Env}{X:Nat->H->Bool}{h:H}{s:Shared}
theorem zN(C:Addr)(rest:List Value):(Code.builtin "type.__call__" ⟨.ref C::rest,[]⟩).weight=1:=by rfl
theorem C0(C:Addr)(rest:List Value):(Code.builtin "type.__call__" ⟨.ref C::rest,[]⟩).cUnits≤3:=Vi rfl
theorem yi(C:Addr)(rest:List Value):(Code.builtin "type.__call__" ⟨.ref C::rest,[]⟩).envs=[]:=by rfl
theorem dy.type{C:Addr}{rest:List Value}(oa:dy g c (n+1) A):dy g c n (A.under (.builtin "type.__call__" ⟨.ref C::rest,[]⟩)):=
 oa.step (VO (Vg (zN C rest)) _) (VO (Va (C0 C rest) (by decide)) _) rfl (oa.fr.elim λl h=>⟨l,(congrArg (pushEnvs · A.frames) (yi C rest)).trans h.1,h.2⟩)
theorem EX.frames{A A':Around}(h:A'.frames=A.frames){e:Value}(x:EX g c A X e s):EX g c A' X e s:=by
 obtain⟨k,c',h',e1,I,hk,he,hf,hx⟩:=x
 refine⟨k,c',h',e1,I,hk,he,?_,hx⟩
 exact hf.imp (λY y=>y) h
theorem C1{ci:Nat}{x dx:Addr}{h':Heap}{g0:Array GenState}{d:Drawn}{t:Tok}{os:OsState}{hp:Heap}(I:cV g c h ⟨hp,g0,d,t,os⟩)(M:Heap.MadeObjFk hp h' x dx (g.ca ci)):
  ∃c',dz c c'/\cV g c' (h.push (.inst ci [])) ⟨h',g0,d,t,os⟩/\VR g c' (.ref h.length) (.ref x):=by
 refine e14 (id M.inst) λo ho hc hn hd=>?_
 have hdx:=M.dict o ho
 have gd:∃ob,h'.get? dx=some ob:=by
  rcases hd with⟨q,_⟩|⟨d',q,_,⟨od,es,ep,e,_⟩,_⟩
  .rw[hdx] at q;cases q
  .rw[hdx] at q;cases q;exact⟨od,e⟩
 exact⟨c.add x dx false,dz.add ..,I.push (o:=.inst ci []) (s':=⟨h',g0,d,t,os⟩) M.keeps M.newX M.newD ⟨_,[],M.inst,M.dict,NR.nil,Within.nil,Vm _⟩ ⟨_,ho⟩ gd ⟨rfl,rfl,rfl⟩ ft,rh (I.len▸VH _) (if_pos I.len.symm).symm⟩
end
end
section
open PySem.SeqAt
variable{g:Gb}{c c':Cf}
section
variable{n:Nat}{r:Ev}{A:Around}{fr:Fr}{env:Env}{X:Nat->H->Bool}{h:H}{s:Shared}
end
end
section
variable{g:Gb}{c c':Cf}
theorem sR.at{h h':Heap}{v w:V}{i:Nat}{z TI TO i1 i2:Addr}(x:sR g c h v w i z TI TO i1 i2)(k:∀b,b∈[z,TI,TO,i1,i2]->∀o,h.get? b=some o->h'.get? b=some o):sR g c h' v w i z TI TO i1 i2:=by
 obtain⟨D,hz,hti,⟨ta,tb,hto⟩,⟨s1,hv,x1⟩,⟨s2,hw,x2⟩⟩:=x
 exact⟨D,k z (by simp) _ hz,k TI (by simp) _ hti,⟨ta,tb,k TO (by simp) _ hto⟩,⟨s1,hv,x1.at (k i1 (by simp))⟩,⟨s2,hw,x2.at (k i2 (by simp))⟩⟩
theorem IL.at{h h':Heap}{a:Addr}{l:List V}(x:IL g c h a l)(k:∀o,h.get? a=some o->h'.get? a=some o):IL g c h' a l:=by
 cases x with
 |tup t vs i h1 h2 h3=>obtain⟨o,h1,r⟩:=h1;exact .tup t vs i ⟨o,k _ h1,r⟩ h2 h3
 |byt b t i als h1 e h3=>obtain⟨o,h1,r⟩:=h1;exact .byt b t i als ⟨o,k _ h1,r⟩ e h3
 |rng x jf h1 h2 e=>exact .rng x jf (k _ h1) h2 e
theorem uM.at{h h':Heap}{itv:Value}{L:List Addr}{it:It}(x:uM g c h it itv L)(k:∀b,b∈L->∀o,h.get? b=some o->h'.get? b=some o):uM g c h' it itv L:=by
 cases x with
 |vals l a x=>exact .vals l a (x.at (k a Vc))
 |lst v i a l hp hv h1=>obtain⟨o,h1,r⟩:=h1;exact .lst v i a l hp hv ⟨o,k a Vc _ h1,r⟩
 |enum v i e b si old ne hv he h1=>exact .enum v i e b si old ne hv (k e Vc _ he) (h1.at (k b (Vd _ Vc)))
 |zip v w i z TI TO i1 i2 x=>exact .zip v w i z TI TO i1 i2 (x.at k)
theorem S1.there{h:Heap}{it:Addr}{i:Nat}:∀{si:SI},S1 h it i si->∃o,h.get? it=some o
 |.list _,⟨o,e,_⟩=>⟨o,e⟩
 |.tup _,⟨o,e,_⟩=>⟨o,e⟩
 |.byt _ _,⟨o,e,_⟩=>⟨o,e⟩
theorem uM.there{h:Heap}{itv:Value}{L:List Addr}{it:It}(x:uM g c h it itv L)(b:Addr)(hb:b∈L):∃o,h.get? b=some o:=by
 cases x with
 |vals l a x=>
  rw[List.mem_singleton.mp hb]
  cases x with
  |tup t vs i h1 h2 h3=>obtain⟨o,h1,r⟩:=h1;exact⟨_,h1⟩
  |byt b t i als h1 e h3=>obtain⟨o,h1,r⟩:=h1;exact⟨_,h1⟩
  |rng x jf h1 h2 e=>exact⟨_,h1⟩
 |lst v i a l hp hv h1=>obtain⟨o,h1,r⟩:=h1;rw[List.mem_singleton.mp hb];exact⟨_,h1⟩
 |enum v i e it si old ne hv he h1=>
  rcases List.mem_cons.mp hb with rfl|hb
  .exact⟨_,he⟩
  .rw[List.mem_singleton.mp hb];exact h1.there
 |zip v w i z TI TO i1 i2 x=>
  obtain⟨D,hz,hti,⟨ta,tb,hto⟩,⟨s1,hv,x1⟩,⟨s2,hw,x2⟩⟩:=x
  rcases List.mem_cons.mp hb with rfl|hb
  .exact⟨_,hz⟩
  rcases List.mem_cons.mp hb with rfl|hb
  .exact⟨_,hti⟩
  rcases List.mem_cons.mp hb with rfl|hb
  .exact⟨_,hto⟩
  rcases List.mem_cons.mp hb with rfl|hb
  .exact x1.there
  .rw[List.mem_singleton.mp hb];exact x2.there
theorem IL.ext{h:Heap}{a:Addr}{l:List V}(e:dz c c')(x:IL g c h a l):IL g c' h a l:=by
 cases x with
 |tup t vs i h1 h2 h3=>exact .tup t vs i h1 (e.T _ _ h2) (h3.ext e)
 |byt b t i als h1 e h3=>exact .byt b t i als h1 e h3
 |rng x jf h1 h2 e=>exact .rng x jf h1 h2 e
theorem uM.ext{h:Heap}{itv:Value}{L:List Addr}(e:dz c c'){it:It}(x:uM g c h it itv L):uM g c' h it itv L:=by
 cases x with
 |vals l a x=>exact .vals l a (x.ext e)
 |lst v i a l hp hv h1=>exact .lst v i a l hp (hv.ext e) h1
 |enum v i e1 b si old ne hv he h1=>exact .enum v i e1 b si old ne (lJ e hv) he h1
 |zip v w i z TI TO i1 i2 x=>
  obtain⟨D,hz,hti,hto,⟨s1,hv,x1⟩,⟨s2,hw,x2⟩⟩:=x
  exact .zip v w i z TI TO i1 i2 ⟨D,hz,hti,hto,⟨s1,lJ e hv,x1⟩,⟨s2,lJ e hw,x2⟩⟩
theorem uM.back{h:H}{hp:Heap}{s:Shared}{it:It}{itv:Value}{L:List Addr}(e:dz c c')(hL:∀b,b∈L->gZ g c b)(x:uM g c hp it itv L)(I:cV (g.pin L hp) c' h s):pB g c' s.heap it itv:=
 .mk _ _ L (λb hb=>let⟨_,ho⟩:=x.there b hb;I.pinFre hb ho (hL b hb)) ((x.ext e).at λY hb Y ho=>I.pinned hb ho)
end
section
variable{g:Gb}{c c':Cf}
section
variable{n:Nat}{r:Ev}{A:Around}{fr:Fr}{env:Env}{X:Nat->H->Bool}{h:H}{s:Shared}{E:Value->Shared->Prop}
theorem ou{l:Addr}{items:Array Value}{x:Value}{Q:Value->Shared->Prop}(hl:i0 s.heap l items)
  (hQ:∀h',i0 h' l (items.push x)->Vn l s.heap h'->Q .none {s with heap:=h'}) (hsz:items.size≤sizeLine):
  wpAny g.M A (call (.builtin "list.append") [.ref l,x]) Q E s:=by
 refine e11 (id hl) λn ho=>?_
 refine wpAny_call_entry slot_list_append hl.isList.typeIs entry_list_append ?_ (args_list_append _ _)
 refine(?_:wpAny _ _ (updateSeq l (·.push x)>>=λY=>ret .none) _ _ s)
 refine wpAny_bind ?_
 refine wpAny_updateSeq ho rfl (wpAny_pure ⟨.none,rfl,hQ _ ⟨_,Vp _ ho rfl⟩ (Heap.SameBut.update ..)⟩) hsz (by rw[Array.size_push];omega)
theorem cV.setL{k:Nat}{o o':O}{h':Heap}{vs:Array Value}(I:cV g c h s)(e:h.get k=some o)(i':i0 h' (c.ρ k) vs)(hs':Vn (c.ρ k) s.heap h')(hn:o.isNs=false)(new:OR g c o' (c.ρ k) (c.δ k) h'):cV g c (h.set k o') {s with heap:=h'}:=
 let⟨_,ho⟩:=i';I.setAt e ho hs' new hn
theorem list_push{acc:Nat}{w:V}{x:Value}{K:H->Bool}(I:cV g c h s)(hx:VR g c w x)(hk:qZ acc w h K=true):wpAny g.M A (call (.builtin "list.append") [.ref (c.ρ acc),x]) (λY s'=>QU g c K () s') E s:=
 Gi I hk λl ws e h1 h2 h3 hk=>cT hk λhc hk=>
  ou h1 (λh' i' hs'=>⟨c,_,.refl c,I.setL (o':=.list (l++[w])) e i' hs' rfl ⟨_,i',by rw[W8];exact h2.append (.cons hx .nil),by rw[Vw];exact VM (eP hc)⟩,hk⟩) (dC (Va (Vg (et h2)) (Va h3 (by decide))))
end
end
section
variable{g:Gb}{c c':Cf}
section
variable{n:Nat}{r:Ev}{A:Around}{fr:Fr}{env:Env}{X:Nat->H->Bool}{h:H}{s:Shared}{E:Value->Shared->Prop}
theorem iter_self{it:It}{itv:Value}{Q:Value->Shared->Prop}(hit:pB g c s.heap it itv)(h:Q itv s):wpAny g.M A (pyIter itv) Q E s:=by
 cases hit with
 |emp a d ep fa hD hK hd=>exact wpAny_pyIter_keyiter hK h
 |mk _ _ L hL hS=>
  cases hS with
  |vals l a x=>
   cases x with
   |tup t vs i h1=>exact wpAny_pyIter_tupleiter h1 h
   |byt b t i als h1=>exact KBw.pyIter_self h1 h
   |rng x jf h1=>exact wpAny_pyIter_rangeiter h1 h
  |lst v i a l hp hv h1=>exact wpAny_pyIter_listiter h1 h
  |enum v i e it si old ne hv he=>exact wpAny_pyIter_enum he h
  |zip v w i z TI TO i1 i2 x=>exact wpAny_pyIter_zip x.zip h
theorem hZ{C:Prop}{p:NameKind->Bool}{o:Option NameKind}(h:jd p o=true)(f:∀k,o=some k->p k=true->C):C:=fJ h f λY q=>ft q
theorem ow{k:NameKind}(h:gh k=true):k=.cell:=by
 cases k with
 |cell=>rfl
 |_=>exact ft h
theorem lN{k:NameKind}(h:iy k=true):k=.free:=by
 cases k with
 |free=>rfl
 |_=>exact ft h
theorem vO{C:Prop}{x:Str}(f:FR g c A fr env)(h:ko fr (cd x)=true)(q:cd x≠0->env.kindOf x=some .cell\/env.kindOf x=some .free->∀i,eJ fr.cells (cd x)=some i->C):C:=
 cT h λh1 h2=>(Option.isSome_iff_exists.mp h2).elim λi e=>eK h1 (λh=>hZ h λk k1 hk=>q (eU f k1).1 (.inl (ow hk▸(eU f k1).2)) i e) λh=>hZ h λk k1 hk=>q (eU f k1).1 (.inr (lN hk▸(eU f k1).2)) i e
def T2(c:Cf)(fr:Fr)(cs:List (Str×Addr)):Prop:=∀p,p∈cs->cd p.1≠0->∀i,eJ fr.cells (cd p.1)=some i->i<c.n/\p.2=c.ρ i
theorem Gw(f:FR g c A fr env){names:List (Str×NameKind)}:∀{cs:List (Str×Addr)},j5 fr (dG names)=true->T2 c fr cs->
  ∃cl,(forIn names cs λx cs=>(do if x.2==.free then(do let a<-cellOf env x.1;pure (.yield ((x.1,a)::cs))) else pure (.yield cs):Sem (ForInStep (List (Str×Addr)))))=pure cl/\
   T2 c fr cl/\(∀x,(x∈cs.map (·.1)\/(x,NameKind.free)∈names)->x∈cl.map (·.1)):=by
 induction names with
 |nil=>exact λ{cs} Y h=>⟨cs,WW,h,λx hx=>hx.resolve_right Vh⟩
 |cons p r ih=>
  obtain⟨x,k⟩:=p
  intro cs hf h
  refine cT (show gd (db (iy k) (ko fr (cd x)) true) (j5 fr (dG r))=true from hf) λh1 h2=>?_
  rw[VK]
  cases e:iy k with
  |true=>
   cases lN e
   exact vO f h1 λhx hk i hi=>by
    refine e02 (f.cells x i hx hk hi) λl1 l2=>?_
    obtain⟨cl,e1,e2,e3⟩:=ih (cs:=(x,c.ρ i)::cs) h2 λp hp hz j hj=>(List.mem_cons.mp hp).elim (λq=>by subst q;cases hi.symm.trans hj;exact⟨l1,rfl⟩) λhp=>h p hp hz j hj
    refine⟨cl,?_,e2,λy hy=>e3 y (hy.elim (λhy=>.inl (Vd _ hy)) λhy=>(List.mem_cons.mp hy).elim (λq=>.inl (List.mem_cons.mpr (.inl (congrArg Wy q)))) .inr)⟩
    rw[if_pos (by rfl),show cellOf env x=pure (c.ρ i) by unfold cellOf;rw[l2],pure_bind,pure_bind];exact e1
  |false=>
   have nk:k≠.free:=λq=>by subst q;exact tf e
   refine e13 (ih (cs:=cs) h2 h) λcl e1 e2 e3=>?_
   refine⟨cl,?_,e2,λy hy=>e3 y (hy.imp id λhy=>(List.mem_cons.mp hy).resolve_left λq=>nk (congrArg Prod.snd q).symm)⟩
   rw[if_neg (λq=>nk (eq_of_beq q)),pure_bind];exact e1
theorem oy{α:Type}{x:Str}:∀{l:List (Str×α)},x∈l.map (·.1)->∃a,l.lookup x=some a/\(x,a)∈l
 |(y,a)::r,h=>by
  by_cases e:x=y
  .subst e;exact⟨a,by rw[Vv,beq_self_eq_true],Vc⟩
  .have hb:(x==y)=false:=by simpa using e
   refine e12 (oy (l:=r) ((List.mem_cons.mp h).resolve_left e)) λb h1 h2=>?_
   exact⟨b,by rw[Vv,hb];exact h1,Vd _ h2⟩
theorem oz(f:FR g c A fr env){scope:Scope}(hf:j5 fr (dG scope.names)=true):∃cl,closureFor scope env=pure cl/\CR c cl fr.cells λx=>scope.names.lookup x=some .free:=by
 refine e13 (Gw (cs:=[]) f hf λp hp=>absurd hp Vh) λcl e1 e2 e3=>?_
 refine⟨cl,?_,λx i hx hd hi=>?_⟩
 .unfold closureFor
  refine Eq.trans ?_ (congrArg (λm:Sem (List (Str×Addr))=>m>>=λr=>pure r) e1)
  rfl
 .refine e12 (oy (e3 x (.inr (mem_of_lookup hd)))) λa h1 h2=>?_
  refine e02 (e2 (x,a) h2 hx i hi) λh3 h4=>?_
  exact⟨h3,h1.trans (congrArg some h4)⟩
end
end
section
variable{g:Gb}{c c':Cf}
section
variable{n:Nat}{r:Ev}{A:Around}{fr:Fr}{env:Env}{X:Nat->H->Bool}{h:H}{s:Shared}{E:Value->Shared->Prop}
theorem pB.hold{hp:Heap}{it:It}{itv:Value}(hit:pB g c hp it itv):∃L,(∀b,b∈L->gZ g c b)/\∀c' h' s',dz c c'->cV (g.pin L hp) c' h' s'->(∀b o,hp.get? b=some o->s'.heap.get? b=some o)->pB g c' s'.heap it itv:=by
 cases hit with
 |mk _ _ L hL hS=>exact⟨L,hL,λc' h' s' e I k=>.mk _ _ L (λb hb=>let⟨o,ho⟩:=hS.there b hb;I.pinFre hb ho (hL b hb)) ((hS.ext e).at λb Y o ho=>k b o ho)⟩
 |emp a d ep fa hD hK hd=>
  refine e22 hD λo es h1 r=>?_;clear hD
  refine e12 hK λo2 h2 r2=>?_;clear hK
  exact⟨[a],λb hb=>List.mem_singleton.mp hb▸fa,λc' h' s' e I k=>.emp a d ep (I.pinFre (List.mem_singleton.mpr rfl) h2 fa) ⟨o,es,k _ _ h1,r⟩ ⟨o2,k _ _ h2,r2⟩ hd⟩
theorem lO{x:Str}{k:Nat}(e:cd x=k){l:List (Str×NameKind)}(h:qU k l=true):l.lookup x=none:=by
 induction l with
 |nil=>rfl
 |cons p r ih=>
  exact cT h λh1 h2=>by
   rw[Vv,beq_eq_false_iff_ne.mpr λq=>ej (dO h1) (e.symm.trans (congrArg cd q))];exact ih h2
theorem Kr:cd "__class__"=Iw:=by with_unfolding_all rfl
theorem Ks:cd "__debug__"=Ix:=by with_unfolding_all rfl
theorem C2:cd "__classdict__"=xx:=by with_unfolding_all rfl
structure Kt(sc:Scope):Prop where
 k:sc.kind=.function
 co:sc.isCoroutine=false
 ge:sc.isGenerator=false
 cls:sc.names.lookup ("__class__":Str)=none
 dbg:sc.names.lookup ("__debug__":Str)=none
 cdi:sc.names.lookup ("__classdict__":Str)=none
theorem C3{k:ScopeKind}(h:xy k=true):k=.function:=by
 cases k with
 |function=>rfl
 |_=>exact ft h
theorem qo{sc:Scope}(h:u4 sc=true):Kt sc:=RE h λh1 h2 h3 h4 h5 h6=>⟨C3 h1,dO h2,dO h3,lO Kr h4,lO Ks h5,lO C2 h6⟩
theorem vP{k:NameKind}(h:gi k=true):k=.local:=by
 cases k with
 |«local»=>rfl
 |_=>exact ft h
theorem C4{sc l:List (Str×NameKind)}(h:Bo (dG sc) (dG l)=true):∀x,x∈l->x.2=.local->sc.lookup x.1=some .local:=by
 induction l with
 |nil=>exact λx hx=>absurd hx Vh
 |cons p r ih=>
  refine cT (show gd (db (gi p.2) (gd (!(U9 (cd p.1) 0)) (jd gi (eJ (dG sc) (cd p.1)))) true) (Bo (dG sc) (dG r))=true from h) λh1 h2 x hx hl=>?_
  cases hx with
  |head=>
   rw[hl] at h1
   exact cT h1 λh0 h1=>hZ h1 λk k1 hk=>by rw[lG (ej (dO h0))] at k1;rw[k1,vP hk]
  |tail _ hx=>exact ih h2 x hx hl
noncomputable def lP(env:Env)(p:Str×NameKind):Str×NameKind:=match p with
 |(n,k)=>if(k==.free&&env.scope.kind==.function&&env.kindOf n==some .cell) then(n,.cell) else(n,k)
theorem C5{env:Env}(p:Str×NameKind):(lP env p).1=p.1:=by
 show(if _ then(p.1,NameKind.cell) else(p.1,p.2)).1=p.1
 split<;>rfl
theorem Ku{env:Env}(p:Str×NameKind):(lP env p).2=p.2\/((lP env p).2=.cell/\p.2=.free):=by
 refine(?_:(if(p.2==.free&&env.scope.kind==.function&&env.kindOf p.1==some .cell)=true then(p.1,NameKind.cell) else(p.1,p.2)).2=p.2\/_)
 cases hc:(p.2==.free&&env.scope.kind==.function&&env.kindOf p.1==some .cell) with
 |true=>exact .inr ⟨congrArg Prod.snd (if_pos hc),eq_of_beq (Bool.and_eq_true_iff.mp (Bool.and_eq_true_iff.mp hc).1).1⟩
 |false=>exact .inl rfl
theorem SE(f:FR g c A fr env){x:Str}{k:NameKind}(h:db (iy k) (ko fr (cd x)) true=true):(lP env (x,k)).2=db (iy k) (db (jd gh (fH fr (cd x))) .cell .free) k:=by
 have hkf:(env.scope.kind==.function)=true:=by rw[f.kind];rfl
 cases k with
 |free=>
  exact cT h λh1 Y=>by
   refine(?_:(if(true&&env.scope.kind==.function&&env.kindOf x==some .cell)=true then(x,NameKind.cell) else(x,.free)).2=db (jd gh (fH fr (cd x))) .cell .free)
   refine eK h1 (λh=>hZ h λk k1 hk=>?_) λh=>hZ h λk k1 hk=>?_
   .rw[k1,(eU f k1).2,hkf,ow hk];rfl
   .rw[k1,(eU f k1).2,hkf,lN hk];rfl
 |_=>rfl
theorem zO(f:FR g c A fr env){l:List (Str×NameKind)}(h:j5 fr (dG l)=true):dG (l.map (lP env))=yX fr (dG l):=by
 induction l with
 |nil=>rfl
 |cons p r ih=>
  refine cT (show gd (db (iy p.2) (ko fr (cd p.1)) true) (j5 fr (dG r))=true from h) λh1 h2=>?_
  refine(?_:(cd (lP env p).1,(lP env p).2)::dG (r.map (lP env))=(cd p.1,_)::yX fr (dG r))
  rw[C5,ih h2,SE f (k:=p.2) h1]
theorem iM{env:Env}{x:Str}{k:NameKind}{l:List (Str×NameKind)}(h:(l.map (lP env)).lookup x=some k):l.lookup x=some k\/(k=.cell/\l.lookup x=some .free):=by
 induction l with
 |nil=>exact nn h
 |cons p r ih=>
  have h:(lP env p::r.map (lP env)).lookup x=some k:=h
  rw[Vv,C5] at h
  rw[Vv]
  cases hx:x==p.1 with
  |true=>
   rw[hx] at h
   exact(Ku p).imp (λe=>(congrArg some e.symm).trans h) λe=>⟨(U7 h).symm.trans e.1,congrArg some e.2⟩
  |false=>rw[hx] at h;exact ih h
theorem iO{env:Env}{x:Str}{l:List (Str×NameKind)}(h:l.lookup x=none):(l.map (lP env)).lookup x=none:=by
 cases e:(l.map (lP env)).lookup x with
 |none=>rfl
 |some k=>exact(iM e).elim (λq=>nn (h.symm.trans q)) λq=>nn (h.symm.trans q.2)
end
end
section
variable{g:Gb}{c c':Cf}
section
variable{n:Nat}{r:Ev}{A:Around}{fr:Fr}{env:Env}{X:Nat->H->Bool}{h:H}{s:Shared}{E:Value->Shared->Prop}
theorem lQ{C:Prop}{ns:Nat}{K:H->Bool}(hk:iA ns K h=true)(q:∀m,h.get ns=some (.ns m)->K (h.set ns .dead)=true->C):C:=cP hk λm e hk=>cW e λo e1 e2=>q m (e1.trans (congrArg some (mw e2))) hk
theorem cV.let_go{ns:Nat}{m:List (Nat×V)}{h':Heap}{m':Str->Option Value}(I:cV g c h s)(e:h.get ns=some (.ns m))(hN:¬c.N ns)(hn:h'.Ns (c.ρ ns) m')(hs:Vn (c.ρ ns) s.heap h'):cV g c (h.set ns .dead) {s with heap:=h'}:=by
 refine e32 (id hn) λo es ep ho Y=>?_
 exact I.set (s':={s with heap:=h'}) e (λb ob hb Y x=>(hs.2 b hb).trans x) trivial ⟨_,ho⟩ (nh I (I.obj _ _ e).1 ho hs) ⟨rfl,rfl,rfl⟩ (λq=>absurd q hN)
theorem cV.nsAt{ns:Nat}{m:List (Nat×V)}(I:cV g c h s)(e:h.get ns=some (.ns m)):∃mm,s.heap.Ns (c.ρ ns) mm:=by
 obtain⟨_,mm,h1,_⟩:=I.obj _ _ e;exact⟨mm,h1⟩
theorem C6{cenv:Env}{ns:Nat}{v:Value}{Q:Value->Shared->Prop}(f:FR g c A fr env)(hns:ns<c.n)(hN:¬c.N ns)(hl:cenv.locals=c.ρ ns)(hf:cenv.frame=env.frame)(hx:dS g c A cenv (λk=>iA ns (X k)) v s):
  ∃m,s.heap.Ns cenv.locals m/\∀h' m',h'.Ns cenv.locals m'->Vn cenv.locals s.heap h'->wpAny g.M A (PySem.passOn "comprehension.variables-let-go" v cenv:Sem Value) Q (EX g c A X) {s with heap:=h'}:=by
 obtain⟨k,ag,ae,L,ac,af,⟨ci,mm,he⟩,rfl,hL,hh,hX⟩:=hx
 refine lQ hX λm hm hX=>?_
 have hl:cenv.locals=ag.ρ ns:=hl.trans (ac.ρ _ hns).symm
 rw[hl]
 refine e11 (af.nsAt hm) λmm' hns'=>?_
 refine⟨mm',hns',λh' m' hn' hs'=>?_⟩
 have am:=af.let_go hm (λq=>hN (ac.M _ hns q)) hn' hs'
 have hne:ns≠k:=λq=>O.noConfusion (U7 (he.symm.trans (q▸hm)))
 have aU:(ae.set ns .dead).get k=some (.exc ci mm false):=by rw[H.get_set,if_neg hne];exact he
 obtain⟨oe,vs,T,ot,tvs,x1,x2,x3,x4,t1,t2,t3,t4,t5⟩:=hh
 have hns1:=(af.obj _ _ hm).1
 have y1:=(hs'.2 _ (af.inj k ns (af.obj _ _ he).1 hns1 (Ne.symm hne)).1).trans x1
 have cC:i4 g ag (ag.ρ k) (rawInt L) {s with heap:=h'}:=⟨oe,vs,T,ot,tvs,y1,x2,x3,x4,(hs'.2 _ (t5.ne ns hns1).1).trans t1,t2,t3,t4,t5⟩
 refine wpAny_bind (wpAny_field y1 x2 x4 (eH (by simp) ?_))
 rw[hL]
 exact wpAny_bind (hO (o:=some L) am aU cC λav az hh=>wpAny_throw ⟨k,ag,_,ac,az,⟨ci,mm,aU⟩,rfl,hh.flyL (f.ext ac) (hf.symm.trans hL),hX⟩)
end
end
section
open PySem.Builtin
open PySem.Builtin.ObjectAttr
noncomputable def eb:List Value:=[.type "Exception",.type "BaseException",.type "object"]
theorem Kv:mroOf (.type "Exception")=pure eb:=by rw[mroOf_type];kernel_rfl
inductive mB(h:Heap)(C:Addr)(l:List Value)(m:Str->Option Value):Prop
 |mk (x:XD) (c:h.get? C=some (excClassObj x.nm x.q C x.N x.bs l true x.sn x.sub x.ab x.col x.dd x.k0 x.k1 x.k2 x.k3 x.k5 "Exception.__new__")) (n:h.Ns x.N m)
structure eQ(h:Heap)(C Lg:Addr)(mN mL:Str->Option Value):Prop where
 cls:mB h C (.ref Lg::eb) mN
 base:mB h Lg eb mL
theorem mB.keeps{h h':Heap}{C:Addr}{l:List Value}{m:Str->Option Value}(x:mB h C l m)(k:∀b o,h.get? b=some o->h'.get? b=some o):mB h' C l m:=by
 obtain⟨x,h1,o,es,ep,e,r⟩:=x
 exact⟨x,k _ _ h1,o,es,ep,k _ _ e,r⟩
theorem eQ.keeps{h h':Heap}{C Lg:Addr}{mN mL:Str->Option Value}(x:eQ h C Lg mN mL)(k:∀b o,h.get? b=some o->h'.get? b=some o):eQ h' C Lg mN mL:=⟨x.cls.keeps k,x.base.keeps k⟩
section
variable{M:Model}{A:Around}{E:Value->Shared->Prop}{h:Heap}{g:Array GenState}{d:Drawn}{t:Nat}{os:OsState}{C Lg:Addr}{mN mL:Str->Option Value}
theorem jE(x:eQ h C Lg mN mL){name:Str}{y:Option Value}{Q:Option Value->Shared->Prop}(hB:typeLookup (.type "Exception") name=pure y)
  (hq:Q (match mN name with|some v=>some v|none=>match mL name with|some v=>some v|none=>y) ⟨h,g,d,t,os⟩):wpAny M A (typeLookup (.ref C) name) Q E ⟨h,g,d,t,os⟩:=by
 obtain⟨xd,h1,h2⟩:=x.cls
 obtain⟨xd',h3,h4⟩:=x.base
 have hrest:lookupAlong eb name=pure y:=by rw[typeLookup_eq,Kv] at hB;exact hB
 rw[typeLookup_eq]
 refine wpAny_bind (wpAny_mroOf_exc h1 ?_)
 rw[lookupAlong_cons]
 refine wpAny_bind (wpAny_classOwn_exc h1 h2 ?_)
 cases hv:mN name with
 |some v=>rw[hv] at hq;exact wpAny_pure hq
 |none=>
  rw[hv] at hq
  dsimp only
  rw[lookupAlong_cons]
  refine wpAny_bind (wpAny_classOwn_exc h3 h4 ?_)
  cases hw:mL name with
  |some v=>rw[hw] at hq;exact wpAny_pure hq
  |none=>rw[hw] at hq;dsimp only;rw[hrest];exact wpAny_pure hq
theorem SG(x:eQ h C Lg mN mL){base:Value}{Q:Bool->Shared->Prop}(hq:Q ((Value.ref C::.ref Lg::eb).contains base) ⟨h,g,d,t,os⟩):wpAny M A (isSubtype (.ref C) base) Q E ⟨h,g,d,t,os⟩:=by
 obtain⟨xd,h1,h2⟩:=x.cls
 exact wpAny_isSubtype_exc h1 hq
end
theorem new_split:splitId "Exception.__new__"=some ("Exception","__new__"):=by decide+kernel
theorem C7:builtinKind "Exception.__new__"=some .builtinFn:=by decide+kernel
theorem Gx:Manifest.signature? "Exception.__new__"=some ⟨.any,"Exception","Exception",.cls,[⟨"args",.varPos,false⟩,⟨"kwargs",.varKw,false⟩]⟩:=by kernel_rfl
theorem zP:Manifest.canonical "Exception.__new__"=Manifest.canonical "BaseException.__new__":=by decide+kernel
theorem rm{C Lg:Addr}:(Value.ref C::.ref Lg::eb).contains (.type "Exception")=true:=by
 rw[Vu,Vu];simp[eb]
theorem th{C Lg:Addr}:(Value.ref C::.ref Lg::eb).contains (.type "BaseException")=true:=by
 rw[Vu,Vu];simp[eb]
theorem C8{C Lg:Addr}:(Value.ref C::.ref Lg::eb).contains (.type "AttributeError")=false:=by
 rw[Vu,Vu];simp[eb]
theorem C9{C Lg:Addr}:(Value.ref C::.ref Lg::eb).contains (.type "NameError")=false:=by
 rw[Vu,Vu];simp[eb]
theorem vQ{α:Type}{M:Model}{A:Around}{E:Value->Shared->Prop}{s:Shared}{Q:α->Shared->Prop}{t u:Sem α}(e:t=u)(h:wpAny M A u Q E s):wpAny M A t Q E s:=e▸h
theorem mC{M:Model}{A:Around}{E:Value->Shared->Prop}{s:Shared}{Q:Unit->Shared->Prop}{id owner name:String}{self:Value}{rest:List Value}(hk:builtinKind id=some .slot)(hs:splitId id=some (owner,name))
  (hi:∀{Q:Bool->Shared->Prop},Q true s->wpAny M A (isInstance self (.type owner)) Q E s) (ht:wpAny M A (match Manifest.signature? id with|some sig=>Bind.checkArgs id sig ⟨self::rest,[]⟩|none=>pure ()) Q E s):
  wpAny M A (checkBuiltinCall id ⟨self::rest,[]⟩) Q E s:=by
 delta checkBuiltinCall
 rw[hk,hs]
 refine wpAny_bind (hi ?_)
 show wpAny M A (ite _ _ _) Q E s
 rw[if_neg (by decide)]
 generalize Manifest.signature? id=sg at ht⊢
 cases sg<;>exact ht
theorem oA{M:Model}{A:Around}{E:Value->Shared->Prop}{s:Shared}{Q:Unit->Shared->Prop}{id owner name:String}{self:Value}{rest:List Value}(hk:builtinKind id=some .slot)(hs:splitId id=some (owner,name))
  (hi:∀{Q:Bool->Shared->Prop},Q true s->wpAny M A (isInstance self (.type owner)) Q E s) (ha:argsOk id ⟨self::rest,[]⟩) (hq:Q () s):
  wpAny M A (checkBuiltinCall id ⟨self::rest,[]⟩) Q E s:=by
 refine mC hk hs hi ?_
 unfold argsOk at ha
 generalize Manifest.signature? id=sg at ha⊢
 cases sg with
 |none=>exact wpAny_pure hq
 |some sg=>exact vQ ha (wpAny_pure hq)
section
variable{prog:Program}{w:World}{A:Around}{E:Value->Shared->Prop}{R:Result->Shared->Prop}{h:Heap}{g:Array GenState}{d:Drawn}{t:Nat}{os:OsState}{C Lg:Addr}{mN mL:Str->Option Value}
theorem vR(x:eQ h C Lg mN mL){M:Model}{rest:List Value}{Q:Unit->Shared->Prop}(hq:Q () ⟨h,g,d,t,os⟩):wpAny M A (checkBuiltinCall "Exception.__new__" ⟨.ref C::rest,[]⟩) Q E ⟨h,g,d,t,os⟩:=by
 obtain⟨xd,hC,hn⟩:=x.cls
 have hcont:=rm (C:=C) (Lg:=Lg)
 have hstar:=F.excCall_Exception.noStar
 delta checkBuiltinCall
 rw[C7,new_split,Gx]
 dsimp only
 repeat(first|refine wpAny_loadPart_at hC ?_|(refine wpAny_isSubtype_exc hC ?_;rw[hcont])|refine wpAny_staticBase_exc hC ?_|refine wpAny_madeBy_exc hC ?_|simp only[bne_self_eq_false,Wz,if_false]|wp_step)
 exact hq
theorem zQ(x:eQ h C Lg mN mL){rest:List Value}
  (hq:R (.ok (.ret (.ref (h.objs.size+1)))) ⟨(h.push {cls:=.type "tuple",data:=.seq rest.toArray}).push
   {cls:=.ref C,data:=.fields #[.ref h.objs.size,.none,.none,.none,.bool false,.none]},g,d,t,os⟩) (hrest:rest.length≤sizeLine):
  codeAny (model prog w) A (.builtin "Exception.__new__" ⟨.ref C::rest,[]⟩) R ⟨h,g,d,t,os⟩:=by
 obtain⟨xd,hC,hn⟩:=x.cls
 have hends:=F.excCall_Exception.ends
 have hcB:=rm (C:=C) (Lg:=Lg)
 have hcA:=C8 (C:=C) (Lg:=Lg)
 have hcN:=C9 (C:=C) (Lg:=Lg)
 refine codeAny_builtinAt F.excCall_Exception.entry ?_
 unfold Builtin.«BaseException.__new__»
 refine PySem.wpAt_bind ?_
 refine(?_:PySem.wpAt _ _ _ (stack>>=_) _ _ _)
 refine PySem.wpAt_bind (PySem.wpAt_stack λp below=>PySem.wpAt_of_wpAny ?_)
 wp_walk
 refine PySem.wpAt_of_wpAny ?_
 rw[F.excCall_Exception.owner]
 repeat(first|with_reducible refine wpAny_madeHere_exc zP hC ?_|with_reducible refine wpAny_loadPart_at hC ?_|(with_reducible refine wpAny_isSubtype_exc hC ?_;first|rw[hcB]|rw[hcA]|rw[hcN])|wp_step)
 refine(?_:R _ _)
 rw[V9]
 exact hq
theorem vS(x:eQ h C Lg mN mL){rest:List Value}{fI:Addr}{oI:Obj}{Q:Fin->Shared->Prop}
  (h0:mN "__init__"=none) (hi:mL "__init__"=some (.ref fI)) (hfI:h.get? fI=some oI) (hfc:oI.cls=.type "function")
  (hq:∀h' e,Heap.MadeExcOf h h' e (.ref C) rest->
   wpAny (model prog w) A (call (.ref fI) (.ref e::rest)) (λr s'=>r=.none/\Q (.done (.ret (.ref e))) s') E ⟨h',g,d,t,os⟩) (hrest:rest.length≤sizeLine):
  wpAny (model prog w) A (Builtin.«type.__call__» ⟨.ref C::rest,[]⟩) Q E ⟨h,g,d,t,os⟩:=by
 obtain⟨xd,hC,hn⟩:=id x.cls
 repeat(first|with_reducible refine wpAny_loadPart_at hC ?_|with_reducible refine wpAny_madeBy_exc hC ?_|wp_step)
 refine codeAny_call_builtin_code (Code.quiet_builtin _ F.excCall_Exception.quiet) (vR x ?_)
 refine zQ x ?_ hrest
 refine(?_:wpAny _ _ _ _ _ _)
 have up:∀b o,h.get? b=some o->((h.push {cls:=.type "tuple",data:=.seq rest.toArray}).push {cls:=.ref C,data:=.fields #[.ref h.objs.size,.none,.none,.none,.bool false,.none]}).get? b=some o:=λb o hb=>Vb _ (Vb _ hb)
 have cD:=x.keeps up
 have bw:=up _ _ hC
 have bL:=up _ _ hfI
 have hget:((h.push {cls:=.type "tuple",data:=.seq rest.toArray}).push
   {cls:=.ref C,data:=.fields #[.ref h.objs.size,.none,.none,.none,.bool false,.none]}).get? (h.objs.size+1)=some
   {cls:=.ref C,data:=.fields #[.ref h.objs.size,.none,.none,.none,.bool false,.none]}:=by heap_get
 have hcC:(Value.ref C::.ref Lg::eb).contains (.ref C)=true:=by simp
 unfold isInstance
 repeat(first|with_reducible refine wpAny_loadPart_at hget ?_|(with_reducible refine wpAny_isSubtype_exc bw ?_;rw[hcC])|wp_step)
 refine(?_:wpAny _ _ (typeLookup (.ref C) _) _ _ _)
 refine jE cD F.excCall_Exception.init.lookup ?_
 rw[h0]
 dsimp only
 rw[hi]
 refine wpAny_holding (wpAny_bind ?_)
 unfold bindSpecial
 refine wpAny_bind (wpAny_typeOf (T:="function") ⟨_,bL,hfc⟩ ?_)
 refine jR (by decide) ?_
 refine wpAny_pure (wpAny_bind (wpAny_mono (hq _ (h.objs.size+1) ⟨up,Vo (VA _),h.objs.size,hget,Vo (Vm _),?_⟩) (λr s' hr=>?_) λY Y x=>x))
 .exact Vb _ (Xe rfl rfl)
 .refine e02 hr λzq56 hQ=>?_;clear hr
  cases zq56
  wp_walk
  exact hQ
theorem NH(x:eQ h C Lg mN mL){rest:List Value}{fI:Addr}{oI:Obj}{Q:Value->Shared->Prop}
  (h0:mN "__init__"=none) (hi:mL "__init__"=some (.ref fI)) (hfI:h.get? fI=some oI) (hfc:oI.cls=.type "function")
  (hq:∀h' e,Heap.MadeExcOf h h' e (.ref C) rest->
   wpAny (model prog w) (A.under (.builtin "type.__call__" ⟨.ref C::rest,[]⟩)) (call (.ref fI) (.ref e::rest)) (λr s'=>r=.none/\Q (.ref e) s') E ⟨h',g,d,t,os⟩) (hrest:rest.length≤sizeLine):
  wpAny (model prog w) A (call (.ref C) rest) Q E ⟨h,g,d,t,os⟩:=by
 obtain⟨xd,hC,hn⟩:=id x.cls
 have f1:=tc_lookup
 have f2:=tc_bind (.ref C)
 have hT:(⟨h,g,d,t,os⟩:Shared).TypeIs (.ref C) "type":=⟨_,hC,rfl⟩
 refine wpAny_call (codeAny_of_tree ?_)
 refine(?_:wpAny _ _ (callAny (.ref C) _) _ _ _)
 repeat(any_goals(first|assumption|with_reducible refine wpAny_loadPart_at hC ?_|wp_step))
 refine⟨rfl,?_⟩
 refine codeAny_call_builtin_at (Code.quiet_builtin _ (by decide+kernel)) entry_typeCall (wpAny_check_type_call_sub hC (vS x h0 hi hfI hfc (λh' e hm=>?_) hrest))
 exact hq h' e hm
theorem vT{C Lg:Addr}:(Value.ref C::.ref Lg::eb).contains (.type "object")=true:=by
 rw[Vu,Vu];simp[eb]
theorem Da(X:eQ h C Lg mN mL){M:Model}{x:Addr}{o:Obj}{T:Value}(hx:h.get? x=some o)(hc:o.cls=.ref C)(hT:(Value.ref C::.ref Lg::eb).contains T=true){Q:Bool->Shared->Prop}(hq:Q true ⟨h,g,d,t,os⟩):wpAny M A (isInstance (.ref x) T) Q E ⟨h,g,d,t,os⟩:=by
 obtain⟨xd,hC,hn⟩:=X.cls
 unfold isInstance
 repeat(first|(with_reducible refine wpAny_loadPart_at hx ?_;rw[hc])|(with_reducible refine wpAny_isSubtype_exc hC ?_;rw[hT])|wp_step)
 exact hq
theorem zR(X:eQ h C Lg mN mL){M:Model}{x:Addr}{o:Obj}{nameV v:Value}{Q:Unit->Shared->Prop}(hx:h.get? x=some o)(hc:o.cls=.ref C)(hq:Q () ⟨h,g,d,t,os⟩):
  wpAny M A (checkBuiltinCall "object.__setattr__" ⟨[.ref x,nameV,v],[]⟩) Q E ⟨h,g,d,t,os⟩:=
 oA (self:=.ref x) (rest:=[nameV,v]) (id:="object.__setattr__") (owner:="object") (name:="__setattr__") F.store_Exception.kind F.store_Exception.split (λhq=>Da X hx hc vT hq) (F.store_Exception.args (.ref x) nameV v) hq
theorem rn(X:eQ h C Lg mN mL){x:Addr}{mA:Str->Option Value}{name:Str}{v:Value}{tk:Tok}{Q:Fin->Shared->Prop}{ns:List Str}(hna:mN name=none)(hnl:mL name=none)
  (hB:typeLookup (.type "Exception") name=pure none) (hxC:x≠C) (I:h.InstFk x C mA)
  (hq:∀h' tk',h'.InstFk x C (λy=>if y=name then some v else mA y)->
   (∀b o,b≠x->(∀ay dx,h.get? x=some ay->ay.dict=some dx->b≠dx)->h.get? b=some o->h'.get? b=some o)->
   (∀ay,h.get? x=some ay->∃aJ,h'.get? x=some aJ/\aJ.cls=ay.cls/\aJ.data=ay.data/\aJ.slots=ay.slots/\(∀dx,ay.dict=some dx->aJ.dict=some dx)/\(ay.dict=none->aJ.dict=some h.objs.size))->Q (.done (.ret .none)) ⟨h',g,d,tk',os⟩) (hw:Within mA ns) (hsz:ns.length≤1000):
  wpAny (model prog w) A (Builtin.«object.__setattr__» ⟨[.ref x,.str name tk,v],[]⟩) Q E ⟨h,g,d,t,os⟩:=by
 obtain⟨xd,hC,hn⟩:=id X.cls
 refine e14 I λo hx hc hnc hd=>?_;clear I
 have hpass:=F.store_Exception.passes (.ref x)
 unfold Builtin.«object.__setattr__»
 repeat(first|rw[refuse_eq]|(rw[refuseLoop_ref,refuseLoop_ref,show eb=[.type "Exception",.type "BaseException",.type "object"] from rfl,hpass])|(with_reducible refine wpAny_loadPart_at hx ?_;rw[hc])|with_reducible refine wpAny_mroOf_exc hC ?_|(with_reducible refine jE X hB ?_;rw[hna];dsimp only;rw[hnl])|wp_step)
 rcases hd with⟨hdn,hmA⟩|⟨dx,hdx,hne,hns,hed⟩
 .
  rw[hdn,if_neg (by simp[typeHasDict])]
  split
  .rename_i hcd
   cases hcd
  split
  .rename_i c hcd
   exact absurd hcd (hnc c)
  .have b7:(h.push {cls:=.type "dict",data:=.dict #[]}).get? x=some o:=Vb _ hx
   have hxs:x≠h.objs.size:=Vy (VB hx)
   refine wpAny_bind (wpAny_alloc' ?_)
   refine wpAny_bind (wpAny_update' b7 ?_)
   refine wpAny_pure ?_
   have hgd:((h.push {cls:=.type "dict",data:=.dict #[]}).update x λo=>{cls:=o.cls,dict:=some h.objs.size,data:=o.data,slots:=o.slots}).get? h.objs.size
     =some {cls:=.type "dict",data:=.dict #[]}:=
    (Heap.get?_update_ne _ _ _ _ hxs.symm).trans (Xe rfl rfl)
   have hnd:((h.push {cls:=.type "dict",data:=.dict #[]}).update x λo=>{cls:=o.cls,dict:=some h.objs.size,data:=o.data,slots:=o.slots}).Ns h.objs.size (λY=>none):=
    ⟨_,#[],_,hgd,rfl,λe he=>absurd he (by simp),λY=>rfl⟩
   refine(?_:wpAny _ _ (storeInDict h.objs.size (.str name tk) name v) _ _ _)
   unfold storeInDict newKeyGuard
   refine wpAny_bind (wpAny_pure (wpAny_bind (wpAny_nsSet1EFk (Heap.Ns1.of_empty hnd) λh' hn' hs hkeepD=>?_)))
   refine e33 (hn'.count (Within.cons name v Within.nil)) λoD esD epD hoD hdD hcD=>?_
   refine wpAny_bind (wpAny_lookBehind hoD (by rw[hdD];exact pastItsLine_dict (Va hcD (by rw[Wm,List.length_nil,sizeLine_eq];omega))) ?_)
   wp_walk
   have hx':h'.get? x=some {cls:=o.cls,dict:=some h.objs.size,data:=o.data,slots:=o.slots}:=?_
   refine hq h' _ ⟨{cls:=o.cls,dict:=some h.objs.size,data:=o.data,slots:=o.slots},hx',hc,hnc,.inr ⟨h.objs.size,rfl,hxs.symm,?_,(let⟨od',e',c',d'⟩:=hkeepD _ hgd;⟨od',e',c',d'⟩)⟩⟩ (λb ob hbx Y hb=>?_)
    (λay aW=>by obtain rfl:o=ay:=U7 (hx.symm.trans aW);exact⟨_,hx',rfl,rfl,rfl,(λdx e=>by rw[hdn] at e;cases e),λY=>rfl⟩)
   .refine e35 hn' λo' es ep e1 e2 e3 eu e4=>?_;clear hn'
    exact⟨o',es,ep,e1,e2,e3,eu,λy=>by rw[e4 y];by_cases hy:y=name<;>simp[hy,hmA]⟩
   .exact(hs.2 b (Vy (VB hb))).trans ((Heap.get?_update_ne _ _ _ _ hbx).trans (Vb _ hb))
   .refine(hs.2 x hxs).trans (Vp _ b7 ?_)
    have hfr:=(Heap.get?_some_iff.mp hx).2
    obtain⟨oc,od,odt,osl⟩:=o
    cases odt<;>first|rfl|exact hfr
 .
  rw[hdx]
  refine wpAny_pure ?_
  refine(?_:wpAny _ _ (storeInDict dx (.str name tk) name v) _ _ _)
  unfold storeInDict newKeyGuard
  refine wpAny_bind (wpAny_pure (wpAny_bind (wpAny_nsSet1EFk hns λh' hn' hs hkeepD=>?_)))
  refine e33 (hn'.count (Within.cons name v hw)) λoD esD epD hoD hdD hcD=>?_
  refine wpAny_bind (wpAny_lookBehind hoD (by rw[hdD];exact pastItsLine_dict (Va hcD (by rw[Wm,sizeLine_eq];omega))) ?_)
  wp_walk
  refine hq h' _ ⟨o,(hs.2 x hne.symm).trans hx,hc,hnc,.inr ⟨dx,hdx,hne,hn',(let⟨od,e,c,dd⟩:=hed;let⟨od',e',c',d'⟩:=hkeepD od e;⟨od',e',c'.trans c,d'.trans dd⟩)⟩⟩ (λb ob Y hbd hb=>?_)
   (λay aW=>⟨ay,(hs.2 x hne.symm).trans aW,rfl,rfl,rfl,λY e=>e,λe=>by obtain rfl:o=ay:=U7 (hx.symm.trans aW);rw[hdx] at e;cases e⟩)
  exact(hs.2 b (hbd o dx hx hdx)).trans hb
theorem Kw(X:eQ h C Lg mN mL){x:Addr}{mA:Str->Option Value}{name:Str}{v:Value}{Q:Unit->Shared->Prop}{ns:List Str}(hsN:mN "__setattr__"=none)(hsL:mL "__setattr__"=none)(hna:mN name=none)(hnl:mL name=none)
  (hB:typeLookup (.type "Exception") name=pure none) (hxC:x≠C) (I:h.InstFk x C mA)
  (hq:∀h' tk',h'.InstFk x C (λy=>if y=name then some v else mA y)->
   (∀b o,b≠x->(∀ay dx,h.get? x=some ay->ay.dict=some dx->b≠dx)->h.get? b=some o->h'.get? b=some o)->
   (∀ay,h.get? x=some ay->∃aJ,h'.get? x=some aJ/\aJ.cls=ay.cls/\aJ.data=ay.data/\aJ.slots=ay.slots/\(∀dx,ay.dict=some dx->aJ.dict=some dx)/\(ay.dict=none->aJ.dict=some h.objs.size))->Q () ⟨h',g,d,tk',os⟩) (hw:Within mA ns) (hsz:ns.length≤1000):
  wpAny (model prog w) A (setAttr (.ref x) name v) Q E ⟨h,g,d,t,os⟩:=by
 refine e13 (id I) λo hx hc Y=>?_
 have SF:=F.store_Exception
 have f3:=SF.slot.bind (.ref x)
 unfold setAttr callSpecial? specialOf
 repeat(any_goals(first|assumption|(with_reducible refine wpAny_loadPart_at hx ?_;rw[hc])|(with_reducible refine jE X SF.slot.lookup ?_;rw[hsN];dsimp only;rw[hsL])|wp_step))
 refine codeAny_call_builtin SF.slot.plain SF.entry (zR X hx hc (rn X hna hnl hB hxC I (λh' tk' I' hk hsame=>?_) hw hsz))
 repeat(any_goals(first|assumption|wp_step))
 exact hq h' tk' I' hk hsame
theorem zS:typeLookup (.type "Exception") "__getattribute__"=pure (some (.builtin "BaseException.__getattribute__")):=by rw[typeLookup_type,builtinLookup_eq_fast];kernel_rfl
theorem oG:typeLookup (.type "Exception") "__getattr__"=pure none:=by rw[typeLookup_type,builtinLookup_eq_fast];kernel_rfl
theorem mD:Slot "Exception" "__getattribute__" "BaseException.__getattribute__":=
 .of (owner:="BaseException") (n:="__getattribute__") (by rw[typeLookup_type,builtinLookup_eq_fast];kernel_rfl) (by decide+kernel) (by decide+kernel) (by decide+kernel)
  (by first|exact .inl (by decide+kernel)|exact .inr (by decide+kernel)) (by rw[isSubtype_type];kernel_rfl)
theorem tj:builtinKind "BaseException.__getattribute__"=some .slot:=by decide+kernel
theorem ro:splitId "BaseException.__getattribute__"=some ("BaseException","__getattribute__"):=by decide+kernel
theorem tm(a b:Value):argsOk "BaseException.__getattribute__" ⟨[a,b],[]⟩:=by unfold argsOk;kernel_rfl
theorem rq:entryFor table "BaseException.__getattribute__"=some Builtin.«object.__getattribute__»:=
 entryFor_alias (id':="object.__getattribute__") (by rw[fastTable_eq_tree];kernel_rfl) (by first|rfl|decide+kernel) (by decide+kernel) (by rw[fastTable_eq_tree];kernel_rfl)
theorem zU(X:eQ h C Lg mN mL){M:Model}{x:Addr}{o:Obj}{nameV:Value}{Q:Unit->Shared->Prop}(hx:h.get? x=some o)(hc:o.cls=.ref C)(hq:Q () ⟨h,g,d,t,os⟩):
  wpAny M A (checkBuiltinCall "BaseException.__getattribute__" ⟨[.ref x,nameV],[]⟩) Q E ⟨h,g,d,t,os⟩:=
 oA (self:=.ref x) (rest:=[nameV]) (id:="BaseException.__getattribute__") (owner:="BaseException") (name:="__getattribute__") tj ro (λhq=>Da X hx hc th hq) (tm (.ref x) nameV) hq
theorem Gy{M:Model}{A:Around}{E:Value->Shared->Prop}{α:Type}{s:Shared}{D:Data}{Q:α->Shared->Prop}{a:ClassData->Sem α}{b:Sem α}(hn:∀c,D≠.cls c)(hb:wpAny M A b Q E s):wpAny M A (match D with|.cls c=>a c|_=>b) Q E s:=by
 cases D with
 |cls c=>exact absurd rfl (hn c)
 |_=>exact hb
theorem zV(X:eQ h C Lg mN mL){x dx:Addr}{o:Obj}{mA:Str->Option Value}{name:Str}{v:Value}{tk:Tok}{Q:Fin->Shared->Prop}(hna:mN name=none)(hnl:mL name=none)
  (hB:typeLookup (.type "Exception") name=pure none) (hx:h.get? x=some o) (hc:o.cls=.ref C) (hnc:∀c,o.data≠.cls c) (hdx:o.dict=some dx) (hns:h.Ns dx mA) (hv:mA name=some v) (hq:Q (.done (.ret v)) ⟨h,g,d,t,os⟩):
  wpAny (model prog w) A (Builtin.«object.__getattribute__» ⟨[.ref x,.str name tk],[]⟩) Q E ⟨h,g,d,t,os⟩:=by
 obtain⟨xd,hC,hn⟩:=id X.cls
 unfold Builtin.«object.__getattribute__»
 repeat(first|(with_reducible refine wpAny_loadPart_at hx ?_;rw[hc])|(with_reducible refine jE X hB ?_;rw[hna];dsimp only;rw[hnl])|wp_step)
 refine Gy hnc ?_
 unfold instanceDict
 repeat(first|(with_reducible refine wpAny_loadPart_at hx ?_;rw[hc])|with_reducible refine wpAny_loadPart_at hC ?_|wp_step)
 rw[hdx]
 repeat(first|(with_reducible refine wpAny_nsGet hns ?_;rw[hv])|wp_step)
 exact hq
theorem NI(X:eQ h C Lg mN mL){x:Addr}{mA:Str->Option Value}{name:Str}{v:Value}{expr:Bool}{Q:Value->Shared->Prop}(hgN:mN "__getattribute__"=none)(hgL:mL "__getattribute__"=none)(haN:mN "__getattr__"=none)(haL:mL "__getattr__"=none)(hna:mN name=none)(hnl:mL name=none)
  (hB:typeLookup (.type "Exception") name=pure none) {dx:Addr} {o:Obj} (hx:h.get? x=some o) (hc:o.cls=.ref C) (hnc:∀c,o.data≠.cls c) (hdx:o.dict=some dx) (hns:h.Ns dx mA) (hv:mA name=some v) (hh:handedOut v=pure v) (hq:Q v ⟨h,g,d,t+1,os⟩):
  wpAny (model prog w) A (getAttr (.ref x) name expr) Q E ⟨h,g,d,t,os⟩:=by
 unfold getAttr getAttrBy
 repeat(first|(with_reducible refine wpAny_loadPart_at hx ?_;rw[hc])|(with_reducible refine jE X zS ?_;rw[hgN];dsimp only;rw[hgL])|wp_step)
 refine jE X oG ?_
 rw[haN];dsimp only;rw[haL]
 refine wpAny_bind (wpAny_attempt (wpAny_holding ?_))
 have hcg:callGetattribute (.ref x) (.str name t) (.builtin "BaseException.__getattribute__") expr=boundAndCalled (.builtin "BaseException.__getattribute__") (.ref x) (.str name t):=by
  unfold callGetattribute
  rw[show onTheHeap (.builtin "BaseException.__getattribute__")=false from rfl,Bool.and_false];rfl
 rw[hcg]
 unfold boundAndCalled
 rw[mD.bind]
 refine wpAny_bind (wpAny_pure ?_)
 refine wpAny_call (codeAny_call_builtin mD.plain rq (zU X hx hc (zV X hna hnl hB hx hc hnc hdx hns hv ?_)))
 refine(?_:wpAny _ _ (handedOut v) _ _ _)
 rw[hh]
 exact wpAny_pure hq
end
end
def tn(body:List Stmt):Prop:=∃p1 p2 p3 p4 p5 p6 p7 p8 p9 p10 p11 p12 p13 p14,
 body=[.Expr (.Call (.Attribute (.Name (U8 "Exception") p1) (U8 "__init__") p2) [.Name (U8 "self") p3,.Name (U8 "what") p4] [] p5) p6,
  .Assign [.Attribute (.Name (U8 "self") p7) (U8 "what") p8] (.Name (U8 "what") p9) p10,
  .Assign [.Attribute (.Name (U8 "self") p11) (U8 "at") p12] (.Name (U8 "at") p13) p14]/\p2.endLine=p5.line
theorem Kx(h:Heap):Frag.In [] h:=λa o e=>by cases e
theorem vU:findCls [] (.type "Exception") (.type "type") (U8 "__init__")=some (.val (.builtin "Exception.__init__")):=by kernel_rfl
section
variable{prog:Program}{w:World}{A:Around}{E:Value->Shared->Prop}{s:Shared}
theorem tu{pl:Sem Bool}{Q:Value×List Value->Shared->Prop}(h:Q (.builtin "Exception.__init__",[]) {s with toks:=s.toks+1}):
  wpAny (model prog w) A (getMethod (.type "Exception") (U8 "__init__") pl) Q E s:=by
 have X:=Kx s.heap
 have hstub:opaqueClassAbove (.type "Exception")=pure none:=by unfold opaqueClassAbove;dsimp only;rw[show Manifest.isStub "Exception"=false by decide+kernel];rfl
 have ht:typeOf (.type "Exception")=pure (.type "type"):=by first|rfl|kernel_rfl
 have L0:Looks (model prog w) s.heap (typeOf (.type "Exception")) (.type "type"):=Looks.of_pure ht
 have hg:findIn [] (.type "type") "__getattribute__"=some (some (.builtin "type.__getattribute__")):=type_tga
 unfold getMethod specialOf
 refine wpAny_bind (wpAny_bind (L0.here ((looks_findIn X hg).here ?_)))
 dsimp only
 refine jR canon_tga ?_
 refine wpAny_bind (wpAny_mono (Q:=λv=>Q (v,[])) (E:=E) ?_ (λY Y z=>wpAny_pure z) λY Y z=>z)
 have LO:Looks (model prog w) s.heap (opaqueClassAbove (.type "Exception")) none:=Looks.of_pure hstub
 refine cls_open X LO L0 hg (looks_hook X (r:=none) (by rfl)) (by show subIn [] _ _=_;rfl) vU ?_
 refine wpAny_pure ?_
 refine(?_:wpAny _ _ (handedOut _) _ _ _)
 rw[handedOut_of (by kernel_rfl)]
 exact wpAny_pure h
end
section
variable{prog:Program}{w:World}{A:Around}{E:Value->Shared->Prop}{h:Heap}{g:Array GenState}{d:Drawn}{t:Nat}{os:OsState}{C Lg:Addr}{mN mL:Str->Option Value}
theorem tv(X:eQ h C Lg mN mL){M:Model}{e:Addr}{oe:Obj}{rest:List Value}{Q:Unit->Shared->Prop}(he:h.get? e=some oe)(hcls:oe.cls=.ref C)(hq:Q () ⟨h,g,d,t,os⟩):
  wpAny M A (checkBuiltinCall "Exception.__init__" ⟨.ref e::rest,[]⟩) Q E ⟨h,g,d,t,os⟩:=by
 obtain⟨xd,hC,hn⟩:=id X.cls
 have F:=F.excCall_Exception
 have hshort:=F.noStar
 refine mC (self:=.ref e) (rest:=rest) (id:="Exception.__init__") (owner:="Exception") (name:="__init__") F.initKind F.initSplit (λhq=>Da X he hcls rm hq) ?_
 rw[F.initRow]
 dsimp only
 repeat(first|(with_reducible refine wpAny_loadPart_at he ?_;rw[hcls])|with_reducible refine wpAny_loadPart_at hC ?_|wp_step)
 refine wpAny_onRaise ?_
 rw[show∀(a b:String) (n:Nat),Bind.check ⟨.positional,"*","Exception",.self,[⟨"args",.varPos,false⟩]⟩ a b n (List.map (λx=>x.fst) ({pos:=Value.ref e::rest}:Args).kw)=pure () from
  λa b n=>check_star_args _ _ _ _ _ _]
 exact wpAny_pure hq
theorem zW(X:eQ h C Lg mN mL){e t0:Addr}{rest:List Value}{Q:Value->Shared->Prop}(he:h.get? e=some {cls:=.ref C,data:=.fields #[.ref t0,.none,.none,.none,.bool false,.none]})
  (hsz:rest.length≤100) (hq:∀h' t1,h'.get? e=some {cls:=.ref C,data:=.fields #[.ref t1,.none,.none,.none,.bool false,.none]}->(∀b o,b≠e->h.get? b=some o->h'.get? b=some o)->Q .none ⟨h',g,d,t,os⟩):
  wpAny (model prog w) A (call (.builtin "Exception.__init__") (.ref e::rest)) Q E ⟨h,g,d,t,os⟩:=by
 refine wpAny_call (codeAny_call_builtin F.excCall_Exception.init.plain F.excCall_Exception.initEntry (tv X he rfl ?_))
 unfold Builtin.«BaseException.__init__»
 dsimp only
 refine wpAny_bind ?_
 unfold newTuple
 refine wpAny_newObj_type ?_ (by show rest.toArray.size≤sizeLine;rw[sizeLine_eq];simp;omega)
 have he1:(h.push {cls:=.type "tuple",data:=.seq rest.toArray}).get? e=some {cls:=.ref C,data:=.fields #[.ref t0,.none,.none,.none,.bool false,.none]}:=Vb _ he
 refine wpAny_bind ?_
 unfold Builtin.BaseException.bexcPut
 refine wpAny_bind (wpAny_field he1 rfl rfl ?_)
 refine wpAny_bind (wpAny_setField he1 rfl (by simp) ?_)
 refine wpAny_letGo ?_
 refine wpAny_pure ?_
 refine hq _ h.objs.size ((Vp _ he1 rfl).trans rfl) λb o hb e1=>?_
 rw[V3 _ _ (Ne.symm hb)]
 exact Vb _ e1
end
theorem eQ.but{h h':Heap}{C Lg e:Addr}{mN mL:Str->Option Value}{oe:Obj}{vs:Array Value}(x:eQ h C Lg mN mL)(he:h.get? e=some oe)(hd:oe.data=.fields vs)(k:∀b o,b≠e->h.get? b=some o->h'.get? b=some o):eQ h' C Lg mN mL:=by
 have nf:∀b o,h.get? b=some o->(∀vs,o.data≠.fields vs)->h'.get? b=some o:=λb o q n=>k b o (λe=>by subst e;rw[he] at q;cases q;exact n _ hd) q
 have zK:∀{C l m},mB h C l m->mB h' C l m:=λx=>by
  obtain⟨xd,h1,o,es,ep,e1,e2,r⟩:=x
  exact⟨xd,nf _ _ h1 (λvs q=>by cases q),o,es,ep,nf _ _ e1 (λvs q=>by rw[e2] at q;cases q),e2,r⟩
 exact⟨zK x.cls,zK x.base⟩
theorem qr:typeLookup (.type "Exception") (U8 "what")=pure none:=by rw[typeLookup_type,builtinLookup_eq_fast];kernel_rfl
theorem yj:typeLookup (.type "Exception") (U8 "at")=pure none:=by rw[typeLookup_type,builtinLookup_eq_fast];kernel_rfl
structure oH(h:Heap)(fI:Addr)(fd:FuncData)(bd:List Stmt):Prop where
 at_:∃o,h.get? fI=some o/\o.cls=.type "function"/\o.data=.func fd
 body:fd.body=.stmts bd
 text:tn bd
 kind:fd.scope.kind=.function
 co:fd.scope.isCoroutine=false
 gen:fd.scope.isGenerator=false
 glob:fd.globals=mainGlobals
 bi:fd.builtins=0
 code:h.CodeRec fd.code fd.qualname
 nocell:∀x∈fd.scope.names,x.2≠.cell
 self:fd.scope.names.lookup (U8 "self")=some .local
 what:fd.scope.names.lookup (U8 "what")=some .local
 at1:fd.scope.names.lookup (U8 "at")=some .local
 exc:fd.scope.names.lookup (U8 "Exception")=some .globalImplicit
 lim:h.NoLimit
 globs:∃mg mb,h.Ns mainGlobals mg/\h.Ns 0 mb/\mg (U8 "Exception")=none/\mb (U8 "Exception")=some (.type "Exception")
section
variable{prog:Program}{w:World}{A:Around}{E:Value->Shared->Prop}{g:Array GenState}{d:Drawn}{t:Nat}{os:OsState}{C Lg:Addr}{mN mL:Str->Option Value}
theorem Db{h:Heap}{fI e t0 L:Addr}{fd:FuncData}{m:Str->Option Value}{mg mb:Str->Option Value}{v:Value}{p1 p2 p3 p4 p5 p6:Pos}{Q:Flow->Shared->Prop}(X:eQ h C Lg mN mL)
  (he:h.get? e=some {cls:=.ref C,data:=.fields #[.ref t0,.none,.none,.none,.bool false,.none]}) (kind:fd.scope.kind=.function) (glob:fd.globals=mainGlobals) (bi:fd.builtins=0) (exc:fd.scope.names.lookup (U8 "Exception")=some .globalImplicit)
  (hg:h.Ns mainGlobals mg) (hb:h.Ns 0 mb) (e1:mg (U8 "Exception")=none) (e2:mb (U8 "Exception")=some (.type "Exception")) (hline:p2.endLine=p5.line)
  (hL:h.Ns L m) (k1:fd.scope.names.lookup (U8 "self")=some .local) (k2:fd.scope.names.lookup (U8 "what")=some .local) (m1:m (U8 "self")=some (.ref e)) (m2:m (U8 "what")=some v)
  (hq:∀h' t1 t',h'.get? e=some {cls:=.ref C,data:=.fields #[.ref t1,.none,.none,.none,.bool false,.none]}->(∀b o,b≠e->h.get? b=some o->h'.get? b=some o)->Q .next ⟨h',g,d,t',os⟩):
  wpAny (model prog w) A (exec (.Expr (.Call (.Attribute (.Name (U8 "Exception") p1) (U8 "__init__") p2) [.Name (U8 "self") p3,.Name (U8 "what") p4] [] p5) p6) (callEnv fd L fI)) Q E ⟨h,g,d,t,os⟩:=by
 refine wpAny_Expr_any ?_ (by unfold interactive;show(fd.scope.kind==.module&&_)=false;rw[kind];rfl) (by rfl)
 rw[arm_eval_Call]
 refine wpAny_bind ?_
 refine(?_:wpAny _ _ (eval (.Name (U8 "Exception") p1) (callEnv fd L fI)) _ _ _)
 rw[eval_Name _ _ _ (by decide+kernel)]
 refine wpAny_bind (wpAny_standAt ?_)
 rw[PyProof.Rows.loadName_read (env:=callEnv fd L fI) (show(callEnv fd L fI).scope.kind=.function from kind) (show(callEnv fd L fI).kindOf (U8 "Exception")=some .globalImplicit from exc)]
 refine Calls.loadGlobal_builtin (by rw[show(callEnv fd L fI).globals=mainGlobals from glob];exact hg) e1 (by rw[show(callEnv fd L fI).builtins=0 from bi];exact hb) e2 ?_
 refine wpAny_bind (wpAny_standAt ?_)
 unfold methodCall
 have Nk:methodCallForm ([Expr.Name (U8 "self") p3,.Name (U8 "what") p4].length+([]:List Keyword).length) (backTo p5 (starEach [Expr.Name (U8 "self") p3,.Name (U8 "what") p4] (callEnv fd L fI))) (backToKw p5 (keywordEach [] (callEnv fd L fI)))=true:=by rfl
 rw[Nk]
 unfold calleeOf methodCallPos
 rw[if_pos rfl]
 refine wpAny_bind (wpAny_holding (tu ?_))
 have hl:(!true||p2.endLine==p5.line)=true:=by rw[hline];exact beq_self_eq_true _
 dsimp only
 rw[if_pos hl]
 refine wpAny_bind (wpAny_pure ?_)
 refine Calls.callWith_builtin rfl ?_
 refine Calls.evalArgs_plain ?_
 refine wpAny_items_cons (ldc kind k1 hL m1 ?_ (by decide+kernel)) rfl
 refine wpAny_items_cons (ldc kind k2 hL m2 ?_ (by decide+kernel)) rfl
 refine wpAny_items_nil ?_
 exact zW X he (show 1≤100 by decide) λh1 t1 q1 k1=>hq h1 t1 _ q1 k1
theorem qs{h:Heap}{fI e L:Addr}{fd:FuncData}{m mA:Str->Option Value}{nm:Str}{v:Value}{ns:List Str}{p1 p2 p3 p4:Pos}{Q:Flow->Shared->Prop}(X:eQ h C Lg mN mL)(kind:fd.scope.kind=.function)
  (hL:h.Ns L m) (k1:fd.scope.names.lookup (U8 "self")=some .local) (k2:fd.scope.names.lookup nm=some .local) (m1:m (U8 "self")=some (.ref e)) (m2:m nm=some v) (hnd:(nm==("__debug__":Str))=false)
  (hsN:mN "__setattr__"=none) (hsL:mL "__setattr__"=none) (w1:mN nm=none) (w2:mL nm=none) (dX:typeLookup (.type "Exception") nm=pure none) (eC:e≠C) (I:h.InstFk e C mA) (hw:Within mA ns) (hsz:ns.length≤1000)
  (hq:∀h' tk',h'.InstFk e C (λy=>if y=nm then some v else mA y)->
   (∀b o,b≠e->(∀ay dx,h.get? e=some ay->ay.dict=some dx->b≠dx)->h.get? b=some o->h'.get? b=some o)->
   (∀ay,h.get? e=some ay->∃aJ,h'.get? e=some aJ/\aJ.cls=ay.cls/\aJ.data=ay.data/\aJ.slots=ay.slots/\(∀dx,ay.dict=some dx->aJ.dict=some dx)/\(ay.dict=none->aJ.dict=some h.objs.size))->Q .next ⟨h',g,d,tk',os⟩):
  wpAny (model prog w) A (exec (.Assign [.Attribute (.Name (U8 "self") p1) nm p2] (.Name nm p3) p4) (callEnv fd L fI)) Q E ⟨h,g,d,t,os⟩:=by
 refine wpAny_Assign_stores ?_ (by rfl) (by rfl)
 refine ldc kind k2 hL m2 ?_ hnd
 refine(?_:wpAny _ _ (assign (.Attribute (.Name (U8 "self") p1) nm p2) (callEnv fd L fI) v) _ _ _)
 rw[arm_assign_Attribute]
 refine wpAny_bind (wpAny_holding (ldc kind k1 hL m1 ?_ (by decide+kernel)))
 exact wpAny_bind (wpAny_standAt (wpAny_bind (wpAny_holding (Kw X hsN hsL w1 w2 dX eC I (λh2 tk2 I2 k2 s2=>wpAny_release (hq h2 tk2 I2 k2 s2)) hw hsz))))
theorem Ns.at_{h h':Heap}{a:Addr}{m:Str->Option Value}(x:h.Ns a m)(k:∀o,h.get? a=some o->h'.get? a=some o):h'.Ns a m:=by
 obtain⟨oL,es,ep,q1,q2⟩:=x
 exact⟨oL,es,ep,k _ q1,q2⟩
theorem zX{h:Heap}{fI e t0:Addr}{fd:FuncData}{body:List Stmt}{v a:Value}{args:List Value}{Q:Value->Shared->Prop}(X:eQ h C Lg mN mL)(IF:oH h fI fd body)
  (he:h.get? e=some {cls:=.ref C,data:=.fields #[.ref t0,.none,.none,.none,.bool false,.none]})
  (hbind:BindsTo ⟨h,g,d,t,os⟩ fd ⟨args,[]⟩ [(U8 "self",.ref e),(U8 "what",v),(U8 "at",a)]) (hroom:A.depth<recursionLimit)
  (hsN:mN "__setattr__"=none) (hsL:mL "__setattr__"=none) (w1:mN (U8 "what")=none) (w2:mL (U8 "what")=none) (a1:mN (U8 "at")=none) (a2:mL (U8 "at")=none)
  (hq:∀h' t',(∀b o,b≠e->h.get? b=some o->h'.get? b=some o)->(∃t1 dx m,h'.get? e=some {cls:=.ref C,dict:=some dx,data:=.fields #[.ref t1,.none,.none,.none,.bool false,.none]}/\h.get? dx=none/\dx≠e/\h'.Ns dx m/\∀y,m y=if y=U8 "at" then some a else if y=U8 "what" then some v else none)->Q .none ⟨h',g,d,t',os⟩):
  wpAny (model prog w) A (call (.ref fI) args) Q E ⟨h,g,d,t,os⟩:=by
 refine e13 IF.at_ λo ho hoc hod=>?_
 obtain⟨p1,p2,p3,p4,p5,p6,p7,p8,p9,p10,p11,p12,p13,p14,hb,hline⟩:=IF.text
 subst hb
 refine wpAny_call (codeAny_call_def hroom ho hod IF.lim IF.code IF.body hbind IF.nocell (λx hx=>?_) (λaW hns bg=>?_) IF.co IF.gen IF.kind)
 .rcases List.mem_cons.mp hx with rfl|hx
  .exact IF.self
  rcases List.mem_cons.mp hx with rfl|hx
  .exact IF.what
  rcases List.mem_cons.mp hx with rfl|hx
  .exact IF.at1
  .cases hx
 refine e24 IF.globs λmg mb hg hbn e1 e2=>?_
 have b8:=bg _ _ he
 have b9:=X.keeps bg
 have hLe:h.objs.size≠e:=V4 (VB he)
 have eC:e≠C:=λq=>by
  obtain⟨xd,hC,hn⟩:=X.cls
  rw[<-q,he] at hC;cases hC
 refine wpAny_execs_cons (Db b9 b8 IF.kind IF.glob IF.bi IF.exc (hg.keeps bg) (hbn.keeps bg) e1 e2 hline hns IF.self IF.what (by rfl) (by rfl) λh1 t1 t' q1 k1=>?_)
 have X1:eQ h1 C Lg mN mL:=b9.but b8 rfl k1
 have hL1:=Ns.at_ hns λo q=>k1 _ o hLe q
 refine wpAny_execs_cons (qs (ns:=[]) X1 IF.kind hL1 IF.self IF.what (by rfl) (by rfl) (by decide+kernel) hsN hsL w1 w2 qr eC (mA:=λY=>none) ⟨_,q1,rfl,(λc q=>Data.noConfusion q),.inl ⟨rfl,λY=>rfl⟩⟩ Within.nil (VQ _) λh2 tk2 I2 k2 s2=>?_)
 refine e16 (s2 _ q1) λo2 g2 c2 d2 sl2 Y n2=>?_
 have n2:=n2 rfl
 have k2:∀b o,b≠e->h1.get? b=some o->h2.get? b=some o:=λb o hb q=>k2 b o hb (λay dx q3 q4=>by rw[q1] at q3;cases q3;cases q4) q
 have X2:eQ h2 C Lg mN mL:=X1.but q1 rfl k2
 refine wpAny_execs_cons (qs (ns:=[U8 "what"]) X2 IF.kind (Ns.at_ hL1 λo q=>k2 _ o hLe q) IF.self IF.at1 (by rfl) (by rfl) (by decide+kernel) hsN hsL a1 a2 yj eC I2 (Within.cons _ _ Within.nil) (by decide) λh3 tk3 I3 k3 s3=>wpAny_execs_nil ?_)
 refine e16 (s3 _ g2) λo3 g3 c3 d3 sl3 n3 Y=>?_
 have n3:=n3 _ n2
 have up:∀b o,b≠e->h.get? b=some o->h3.get? b=some o:=λb o hb q=>
  have q:=k1 b o hb (bg b o q)
  k3 b o hb (λay dx r1 r2=>by
   rw[g2] at r1;cases r1
   rw[n2] at r2;cases r2
   exact Vy (VB q)) (k2 b o hb q)
 refine e14 I3 λo3' g3' Y Y hd3=>?_;clear I3
 rw[g3] at g3';obtain rfl:=U7 g3'
 rcases hd3 with⟨q,_⟩|⟨dx,r1,r2,r3,_⟩
 .rw[n3] at q;cases q
 rw[n3] at r1;obtain rfl:=U7 r1
 refine hq h3 tk3 up ⟨t1,h1.objs.size,_,?_,?_,r2,r3.ns,λy=>rfl⟩
 .rw[g3]
  obtain⟨x1,x2,x3,x4⟩:=o3
  dsimp only at c3 d3 sl3 n3
  rw[c3,c2,d3,d2,sl3,sl2,n3]
 .cases q:h.get? h1.objs.size with
  |none=>rfl
  |some ob=>
   have:=k1 _ _ (Ne.symm (Vy (VB q1))) (bg _ _ q)
   exact absurd (VB this) (Wr _)
end
section
variable{g:Gb}{c c':Cf}
section
variable{A:Around}{E:Value->Shared->Prop}{h:H}{s:Shared}
theorem tw{k:Nat}:∀{lo n:Int},lo≤n->n<lo+k->n∈Bb lo k:=by
 induction k with
 |zero=>exact λ{lo n} h1 h2=>absurd h1 (Int.not_le.mpr (by rwa [Int.natCast_zero,Int.add_zero] at h2))
 |succ k ih=>
  intro lo n h1 h2
  by_cases e:n=lo
  .subst e;exact Vc
  .exact Vd _ (ih (Int.add_one_le_of_lt (Int.lt_iff_le_and_ne.mpr ⟨h1,Ne.symm e⟩)) (by rwa [Int.natCast_add,Int.add_comm (k:Int),<-Int.add_assoc] at h2))
theorem oJ{l:List V}{i:Int}{is:List Int}:∀{vs:List V},qP l is=some vs->i∈is->∃j v,JA l.length i=some j/\fC l j=some v/\v∈vs:=by
 induction is with
 |nil=>exact λY hi=>absurd hi Vh
 |cons a r ih=>
  exact λh hi=>cW h λj e1 h=>cW h λv e2 h=>cW h λvs e3 h=>by
   cases h
   cases hi with
   |head=>exact⟨j,v,e1,e2,Vc⟩
   |tail _ hi=>exact(ih e3 hi).elim λj q=>q.elim λv q=>⟨j,v,q.1,q.2.1,Vd _ q.2.2⟩
theorem eZ{α β:Type}[DecidableEq β]{w:α->Option β}{a b:α}(mk:β->α)(hm:∀a x,w a=some x->a=mk x)(h:fG w a b=true):a=b:=
 cP h λY e1 h=>cP h λY e2 h=>(hm _ _ e1).trans ((congrArg mk (of_decide_eq_true h)).trans (hm _ _ e2).symm)
theorem d9(a:AI)(x:Int)(h:fp a=some x):a=.c x:=by
 cases a with
 |c n=>exact congrArg AI.c (U7 h)
 |_=>exact nn h
theorem oK(a:AI)(x:Nat×Int×Int)(h:nC a=some x):a=.s x.1 x.2.1 x.2.2:=by
 cases a with
 |s k l u=>exact congrArg (λx:Nat×Int×Int=>AI.s x.1 x.2.1 x.2.2) (U7 h)
 |_=>exact nn h
theorem vV(a:AI)(x:Option Int×Option Int)(h:Rz a=some x):a=.u x.1 x.2:=by
 cases a with
 |u l u=>exact congrArg (λx:Option Int×Option Int=>AI.u x.1 x.2) (U7 h)
 |_=>exact nn h
theorem rr(a:AI)(x:Nat)(h:A9 a=some x):a=.pb x:=by
 cases a with
 |pb d=>exact congrArg AI.pb (U7 h)
 |_=>exact nn h
theorem lR{a b:AI}(h:nD a b=true):a=b:=
 eK h (eZ AI.c d9) λh=>eK h (eZ _ oK) λh=>eK h (eZ _ vV) λh=>eK h (eZ AI.st λY Y=>jm) (eZ _ rr)
theorem ia{a:V}(h:ei a=true):a=.none:=by
 cases a with
 |none=>rfl
 |_=>exact ft h
theorem lS{a b:V}(h:gX a b=true):a=b:=
 eK h (λh=>cP h λx e1 h=>cP h λy e2 h=>(eA e1).trans ((congrArg V.int (lR h)).trans (eA e2).symm)) λh=>
  eK h (λh=>cT h λh1 h2=>(ia h1).trans (ia h2).symm) λh=>eK h (eZ V.bool λY Y=>jB) (eZ V.str λY Y=>gy)
theorem qt{l:List V}{v:V}(h:v∈l):v∈nE l:=by
 induction l with
 |nil=>exact h
 |cons a r ih=>
  refine(?_:v∈db (cR (nv r) λp=>gX a p.1) (nE r) (a::nE r))
  cases e:cR (nv r) λp=>gX a p.1 with
  |false=>cases h with
   |head=>exact Vc
   |tail _ h=>exact Vd _ (ih h)
  |true=>cases h with
   |tail _ h=>exact ih h
   |head=>cases r with
    |nil=>exact ft e
    |cons b r=>exact ih (lS (show gX v b=true from e)▸Vc)
theorem qu{σ:Nat->Int}{i:AI}{n:Int}{is:List Int}(hi:dN σ i n)(h:Bd i=some is):n∈is:=
 fK h (λh=>cW h λx e h=>si h▸List.mem_singleton.mpr (hi.cst e)) λh=>cW h λa e1 h=>cW h λb e2 h=>dJ h λY h=>si h▸
  tw (hi.lo e1) (VG (hi.hi e2) (Wh (show b<a+(b - a+1) by omega) (W1 (Int.self_le_toNat _) a)))
theorem ru{σ:Nat->Int}{l:List V}{i:AI}{n:Int}{K:V->Bool}(hi:dN σ i n)(hk:JB l i K=true):l.length≤10000/\∃j v,NB l.length n j/\fC l j=some v/\K v=true:=
 cT hk λhl hk=>⟨eP hl,cP hk λis e1 hk=>cP hk λvs e2 hk=>(oJ e2 (qu hi e1)).elim λj q=>q.elim λv q=>⟨j,v,rg q.1,q.2.1,c9 hk (qt q.2.2)⟩⟩
theorem Ky{σ:Nat->Int}{l:List AI}:∀{b:List UInt8} {j:Nat} {a:AI},BR σ l b->fC l j=some a->∃y,b[j]? =some y/\dN σ a (y.toNat:Int):=by
 induction l with
 |nil=>exact λY e=>nn e
 |cons x r ih=>
  intro b j a hb e
  refine e23 hb λy t zq57 h1 h2=>?_;clear hb
  cases zq57
  cases j with
  |zero=>exact⟨y,rfl,si e▸h1⟩
  |succ j=>exact ih (b:=t) h2 e
theorem vW{v:V}{vs:List V}:∀{as:List AI},qN vs=some as->v∈vs->∃a,v=.int a/\a∈as:=by
 induction vs with
 |nil=>exact λY h=>absurd h Vh
 |cons w r ih=>
  exact λh hv=>cW h λa e1 h=>cW h λl e2 h=>by
   cases h
   cases hv with
   |head=>exact⟨a,eA e1,Vc⟩
   |tail _ hv=>exact(ih e2 hv).elim λb q=>⟨b,q.1,Vd _ q.2⟩
theorem vX{a:AI}{as:List AI}:∀{ns:List Int},Bc as=some ns->a∈as->∃n,a=.c n/\n∈ns:=by
 induction as with
 |nil=>exact λY h=>absurd h Vh
 |cons w r ih=>
  exact λh hv=>cW h λn e1 h=>cW h λl e2 h=>by
   cases h
   cases hv with
   |head=>exact⟨n,d9 _ _ e1,Vc⟩
   |tail _ hv=>exact(ih e2 hv).elim λb q=>⟨b,q.1,Vd _ q.2⟩
theorem fN{α:Type}{l:List α}(h:dT l=true):l=[]:=by
 cases l with
 |nil=>rfl
 |cons=>exact ft h
theorem Dc{σ:Nat->Int}{as:List AI}{a z:AI}{m:Int}(h:Ih as=some z)(ha:a∈as)(r:dN σ a m):dN σ z m:=
 cW h λp e h=>fK h (λh=>dJ h λe2 h'=>by
  cases as with
  |nil=>exact nn e
  |cons x t=>
   cases e;cases h';cases fN e2
   rw[List.mem_singleton.mp ha] at r;exact r) λh=>cW h λns e h=>by
  cases h
  refine e12 (vX e ha) λn zq58 hn=>?_
  cases zq58
  cases (show m=n from r)
  exact hn
theorem Gz{x:Int}{l:List Int}:MX l=true->x∈l->0≤x:=by
 induction l with
 |nil=>exact λY h=>absurd h Vh
 |cons y r ih=>
  exact λh hx=>cT h λh1 h=>by
   cases hx with
   |head=>exact of_decide_eq_true h1
   |tail _ hx=>exact ih h hx
theorem GA{σ:Nat->Int}{l:List AI}{b:List UInt8}{i:AI}{n:Int}{K:V->Bool}(hb:BR σ l b)(hi:dN σ i n)(hk:MY l i K=true):0≤n/\n<b.length/\∃a,dN σ a ((b.getD n.toNat 0).toNat:Int)/\K (.int a)=true:=
 cP hk λis e1 hk=>cT hk λh0 hk=>cP hk λvs e2 hk=>cP hk λas e3 hk=>cP hk λa e4 hK=>by
  have hm:=qu hi e1
  refine e23 (oJ e2 hm) λj v q1 q2 q3=>?_
  refine e12 (vW e3 q3) λx zq59 hx=>?_
  cases zq59
  have h0:=Gz h0 hm
  rw[Vs,<-hb.len] at q1
  rw[xU] at q2
  refine e12 (Option.map_eq_some_iff.mp q2) λy hy hyy=>?_
  cases hyy
  refine e12 (Ky hb hy) λz hz hr=>?_
  cases rg q1 with
  |down _ _ _ _ hn=>exact absurd h0 (Int.not_le.mpr hn)
  |up _ ht=>exact⟨h0,Int.ofNat_lt.mpr ht,a,by rw[Vt,List.getD_eq_getElem?_getD,hz];exact Dc e4 hx hr,hK⟩
noncomputable def pK(e i:Expr)(p:Pos)(v w:Value):Sem Value:=do standAt p;let r<-subscripted i (<-getitemInPython v) v w;letTemporaryGo e v r;pure r
theorem rx{e i:Expr}{p:Pos}{v w:Value}{T id:String}{Q:Value->Shared->Prop}(hs:∀lo hi st p,i≠.Slice lo hi st p)(hl:typeLookup (.type T) "__getitem__"=pure (some (.builtin id)))(hT:s.TypeIs v T)(hg:wpAny g.M A (getItem v w) Q E s):
  wpAny g.M A (pK e i p v w) Q E s:=by
 have hsub:subscripted i false v w=operate [v,w] (getItem v w):=by
  cases i with
  |Slice=>exact absurd rfl (hs _ _ _ _)
  |_=>rfl
 show wpAny g.M A (do standAt p;let r<-subscripted i (<-getitemInPython v) v w;letTemporaryGo e v r;pure r) Q E s
 rw[getitemInPython_of_ne hT.not_modules]
 refine wpAny_bind (wpAny_standAt (wpAny_bind (wpAny_bind (wpAny_specialOf hT hl (wpAny_pure (wpAny_bind ?_))))))
 refine(?_:wpAny g.M A (subscripted i false v w) (λr av=>wpAny g.M A (letTemporaryGo e v r>>=λY=>pure r) Q E av) E s)
 rw[hsub]
 exact wpAny_operating (wpAny_mono hg (λr av aw=>wpAny_bind (wpAny_letTemporaryGo (wpAny_pure aw))) λY Y x=>x)
theorem Dd(W:SW g){e i:Expr}{p:Pos}{a b:V}{v w:Value}{K:V->H->Bool}(I:cV g c h s)(hv:VR g c a v)(hw:VR g c b w)(hk:(Ii g.C a b h λv=>K v h)=true)(hs:∀lo hi st p,i≠.Slice lo hi st p):
  wpAny g.M A (pK e i p v w) (QV g c K) E s:=
 eK hk (λhk=>kI (P:=λw=>wpAny g.M A (pK e i p v w) (QV g c K) E s) hk hw λai n u hn hk=>eK hk
  (λhk=>kT (P:=λv=>wpAny g.M A (pK e i p v _) (QV g c K) E s) hk hv λl x vs hT hr hk=>(ru hn hk).2.elim λj q=>q.elim λy q=>(hr.nth q.2.1).elim λz hz=>
   rx hs PyProof.Rows.slot_tuple_getitem.lookup (I.tup _ _ hT).typeIs (by
    have h2:=q.1
    have hz':vs.toArray[j]? =some z:=by rw[List.getElem?_toArray];exact hz.1
    have hQ:QV g c K z s:=.at I hz.2 q.2.2
    have hl:=Va (Vg hr.length) (ru hn hk).1
    rw[<-hr.length] at h2
    cases h2 with
    |up _ hj=>exact getItem_tuple (I.tup _ _ hT) (by omega) (by omega) (by rw[Vz];exact Cm hj) hz' hQ
    |down _ _ hj e hi=>exact getItem_tuple (I.tup _ _ hT) (by omega) (by omega) (by rw[Vz];exact Cn hj e hi) hz' hQ)) λhk=>eK hk
  (λhk=>kB (P:=λv=>wpAny g.M A (pK e i p v _) (QV g c K) E s) hk hv λl b t hb hk=>cT hk λhl hk=>by
   obtain⟨h1,h2,x,h3,hK⟩:=GA hb hn hk
   have:=getItem_bytes (prog:=g.pr) (w:=g.wd) (A:=A) (E:=E) (s:=s) (t:=t) (u:=u) (l:=b.toList) (i:=n) (Q:=QV g c K) (Va (Va (Vg hb.len) (eP hl)) (by decide)) h1 h2 (.ti I h3 hK)
   rw[WU] at this
   exact rx hs FB.slot_bytes_getitem.lookup rfl this) λhk=>kL (P:=λv=>wpAny g.M A (pK e i p v _) (QV g c K) E s) W I hk hv λl x ws h1 h2 hl hk=>
   (ru hn hk).2.elim λj q=>q.elim λy q=>(h2.nth q.2.1).elim λz hz=>rx hs slot_list_getitem.lookup h1.isList.typeIs (by
    have hi:=q.1
    have hz':ws[j]? =some z:=(Wk).symm.trans hz.1
    have hQ:QV g c K z s:=.at I hz.2 q.2.2
    have hl:=Va (Vg (et h2)) hl
    rw[<-et h2] at hi
    cases hi with
    |up _ hj=>exact wpAny_getItem_list h1.isList (VF _) (by omega) (by rw[Vt];exact hz') hQ
    |down _ _ hj e hi=>exact wpAny_getItem_list_neg h1.isList hi (by omega) (by omega) (by rw[e,Vt];exact hz') hQ)) λhk=>
 kS (P:=λw=>wpAny g.M A (pK e i p v w) (QV g c K) E s) hk hw λx t h0 Y hk=>kD (P:=λv=>wpAny g.M A (pK e i p v _) (QV g c K) E s) W I hk hv λl y kvs h1 h2 h3 Y hk=>
  cP hk λz hz hK=>((h3.at h0).1 z hz).elim λu q=>rx hs slot_dict_getitem.lookup h1.mapOf.typeIs (wpAny_getItem_of oj h1.mapOf q.1 (.at (I.tok _) q.2 hK))
end
end
section
variable{g:Gb}{c c':Cf}
theorem fW:Slot "bytearray" "__getitem__" "bytearray.__getitem__":=
 .of (owner:="bytearray") (n:="__getitem__") (by rw[typeLookup_type,builtinLookup_eq_fast];kernel_rfl) (by decide+kernel) (by decide+kernel) (by decide+kernel)
  (by first|exact .inl (by decide+kernel)|exact .inr (by decide+kernel)) (by rw[isSubtype_type];kernel_rfl)
theorem lT:entryFor table "bytearray.__getitem__"=some Builtin.«bytearray.__getitem__»:=entryFor_of_tree (by kernel_rfl)
theorem mP(a b:Value):argsOk "bytearray.__getitem__" ⟨[a,b],[]⟩:=by unfold argsOk;kernel_rfl
section
variable{A:Around}{E:Value->Shared->Prop}{h:H}{s:Shared}
noncomputable def tz(v:Value):Sem Value:=do
 if v==.none then return .none
 if(<-specialOf v "__index__").isNone then
  rule "bytes.slice.part-no-index";raiseError "TypeError" "slice indices must be integers or None or have an __index__ method"
 return rawInt (<-asIndex v)
theorem sliceParts_eq(v:Value):Builtin.Bytes.sliceParts v=(do
  let step<-tz (<-field v 2)
  if step==rawInt 0 then rule "bytes.slice.step-zero";raiseError "ValueError" "slice step cannot be zero"
  let start<-tz (<-field v 0)
  let stop<-tz (<-field v 1)
  return (start,stop,step)):=rfl
theorem oM{v:Value}{k:Option Int}{Q:Value->Shared->Prop}(hv:IsPart v k)(h:Q (rawPart k) s):wpAny g.M A (tz v) Q E s:=by
 cases hv with
 |none=>exact wpAny_pure h
 |int i t=>
  unfold tz
  refine eH (show¬((Value.int i t==Value.none)=true) from Ve) ?_
  refine wpAny_bind (wpAny_specialOf (T:="int") (typeIs_int s i t) int_index ?_)
  refine eH Ve ?_
  exact wpAny_bind (wpAny_of_eq (a:=i) rfl (wpAny_pure h))
theorem oO{a:Addr}{l u:Value}{lo hi:Option Int}{Q:Value×Value×Value->Shared->Prop}(hs:s.heap.IsSliceOf a l u .none)(hl:IsPart l lo)(hu:IsPart u hi)(h:Q (rawPart lo,rawPart hi,rawPart none) s):wpAny g.M A (Builtin.Bytes.sliceParts (.ref a)) Q E s:=by
 refine e13 hs λo ho hc hd=>?_;clear hs
 rw[sliceParts_eq]
 refine wpAny_bind (wpAny_field (x:=.none) ho hd rfl (wpAny_bind (oM .none ?_)))
 refine eH (show¬((rawPart none==rawInt 0)=true) from Ve) ?_
 refine wpAny_bind (wpAny_field (x:=l) ho hd rfl (wpAny_bind (oM hl ?_)))
 exact wpAny_bind (wpAny_field (x:=u) ho hd rfl (wpAny_bind (oM hu (wpAny_pure h))))
theorem tD{a:Addr}{l u st:Value}{Q:Option Int->Shared->Prop}(hs:s.heap.IsSliceOf a l u st)(h:Q none s):wpAny g.M A (Builtin.Bytes.subscript? (.ref a)) Q E s:=by
 refine e13 hs λo ho hc hd=>?_;clear hs
 unfold Builtin.Bytes.subscript?
 exact wpAny_bind (wpAny_specialOf (T:="slice") ⟨o,ho,hc⟩ slice_no_index (wpAny_pure h))
theorem gC{x:Addr}{o:Obj}{b:Array UInt8}{n:Nat}{Q:Array UInt8->Shared->Prop}(ho:s.heap.get? x=some o)(hd:o.data=.bytearray b n)(h:Q b s):wpAny g.M A (Builtin.Bytes.payload (.ref x)) Q E s:=by
 unfold Builtin.Bytes.payload Builtin.Bytes.payload?
 refine wpAny_bind (wpAny_bind (wpAny_load ho ?_))
 rw[hd]
 exact wpAny_pure (wpAny_pure h)
theorem De{x a:Addr}{o:Obj}{b:Array UInt8}{n:Nat}{l u:Value}{lo hi:Option Int}{Q:Value->Shared->Prop}(ho:s.heap.get? x=some o)(hc:o.cls=.type "bytearray")(hd:o.data=.bytearray b n)(hs:s.heap.IsSliceOf a l u .none)(hl:IsPart l lo)(hu:IsPart u hi)(hsz:b.size≤10000)
  (h:Q (.ref s.heap.objs.size) {s with heap:=s.heap.push {cls:=.type "bytearray",data:=.bytearray (KBy.picked b lo hi)}}):wpAny g.M A (getItem (.ref x) (.ref a)) Q E s:=by
 have hT:s.TypeIs (.ref x) "bytearray":=⟨o,ho,hc⟩
 refine wpAny_getItem_slot hT (by decide) fW (wpAny_call_entry fW hT lT ?_ (mP _ _))
 refine(?_:wpAny _ _ (Builtin.Bytes.subscript? (.ref a)>>=λr=>_) _ _ s)
 refine wpAny_bind (tD hs ?_)
 refine e13 (id hs) λos hos hcs hds=>?_
 refine wpAny_bind (wpAny_typeOf (T:="slice") ⟨os,hos,hcs⟩ ?_)
 refine eH (by decide) ?_
 refine wpAny_bind (oO hs hl hu (wpAny_bind (gC ho hd (wpAny_bind ?_))))
 refine wpAny_of_eq (sliceIndices_raw lo hi none b.size (λe=>nomatch e)) ?_
 refine wpAny_bind ?_
 unfold Builtin.Bytes.newBytearray
 refine wpAny_newObj_type (wpAny_pure ⟨_,rfl,h⟩) ?_
 exact dC (Va (KBc.size_picked_le b lo hi) (Va hsz (by decide)))
theorem ni{v:V}{x:Value}(h:ei v=true)(hv:VR g c v x):x=.none:=by
 have hv:VR g c .none x:=ia h▸hv
 exact hv
theorem kN{n d a:Nat}{v:V}{x:Value}(hv:VR g c v x)(hb:sH n d v=some a):∃o,IsPart x o/\a=o.elim d (clipAt n):=
 fK hb (λhb=>dJ hb λh1 hb=>⟨none,ni h1 hv▸.none,(U7 hb).symm⟩) λhb=>cW hb λi e1 hb=>cW e1 λy e2 e3=>by
  have hv:VR g c (.int (.c i)) x:=d9 _ _ e3▸eA e2▸hv
  refine e22 hv λm t hx hm=>?_;clear hv
  have hm:m=i:=hm
  exact⟨some i,hx▸hm▸.int m t,(U7 hb).symm⟩
theorem da.take{l:List V}:∀{vs:List Value} (n:Nat),da g c l vs->da g c (l.take n) (vs.take n):=by
 induction l with
 |nil=>
  intro vs n h
  cases (show vs=[] from h)
  rw[WZ,WZ]
  exact da.nil
 |cons a l ih=>
  intro vs n h
  cases n with
  |zero=>exact da.nil
  |succ n=>
   refine e23 h λx xs e h1 h2=>?_;clear h
   exact e▸da.cons h1 (ih n h2)
theorem da.drop{l:List V}:∀{vs:List Value} (n:Nat),da g c l vs->da g c (l.drop n) (vs.drop n):=by
 induction l with
 |nil=>
  intro vs n h
  cases (show vs=[] from h)
  rw[W0,W0]
  exact da.nil
 |cons a l ih=>
  intro vs n h
  cases n with
  |zero=>exact h
  |succ n=>
   refine e23 h λx xs e h1 h2=>?_;clear h
   exact e▸ih n h2
theorem da.reverse{l:List V}:∀{vs:List Value},da g c l vs->da g c l.reverse vs.reverse:=by
 induction l with
 |nil=>
  intro vs h
  cases (show vs=[] from h)
  exact da.nil
 |cons a l ih=>
  intro vs h
  refine e23 h λx xs e h1 h2=>?_;clear h
  rw[e,Xa,Xa]
  exact(ih h2).append (da.cons h1 da.nil)
theorem BR.take{σ:Nat->Int}{l:List AI}:∀{b:List UInt8} (n:Nat),BR σ l b->BR σ (l.take n) (b.take n):=by
 induction l with
 |nil=>
  intro b n h
  cases (show b=[] from h)
  rw[WZ,WZ]
  exact rfl
 |cons a l ih=>
  intro b n h
  cases n with
  |zero=>exact rfl
  |succ n=>
   refine e23 h λx xs e h1 h2=>?_;clear h
   exact e▸⟨x,_,rfl,h1,ih n h2⟩
theorem BR.drop{σ:Nat->Int}{l:List AI}:∀{b:List UInt8} (n:Nat),BR σ l b->BR σ (l.drop n) (b.drop n):=by
 induction l with
 |nil=>
  intro b n h
  cases (show b=[] from h)
  rw[W0,W0]
  exact rfl
 |cons a l ih=>
  intro b n h
  cases n with
  |zero=>exact h
  |succ n=>
   refine e23 h λx xs e h1 h2=>?_;clear h
   exact e▸ih n h2
inductive UH{α:Type}(l x:List α)(vl vu vs:Value):Prop
 |mk (e:vs=.none) (p q:Option Int) (hp:IsPart vl p) (hq:IsPart vu q) (hx:x=MZ l (p.elim 0 (clipAt l.length)) (q.elim l.length (clipAt l.length)))
theorem lU{α:Type}{l x:List α}{lo hi st:V}{vl vu vs:Value}(h1:VR g c lo vl)(h2:VR g c hi vu)(h3:VR g c st vs)(hx:qQ l lo hi st=some x):UH l x vl vu vs:=
 dJ hx λe hx=>cW hx λa ea hx=>cW hx λb eb hx=>(kN h1 ea).elim λp hp=>(kN h2 eb).elim λq hq=>
  ⟨ni e h3,p,q,hp.1,hq.1,(U7 hx).symm.trans (by rw[hp.2,hq.2])⟩
theorem yk{α:Type}(l:List α)(a b:Nat):(MZ l a b).length≤l.length:=Va (List.length_take_le' ..) (Va (Vg VS) (WP ..))
theorem GB{z i:Nat}(h:i<z):((z:Int) - 1+ -1 * (i:Int)).toNat=z - 1 - i:=by
 obtain⟨d,rfl⟩:=Nat.le.dest h
 rw[show i+1+d - 1 - i=d from by rw[Nat.add_right_comm,Nat.add_sub_cancel,WL]]
 rw[Int.neg_mul,Int.one_mul,<-Int.sub_eq_add_neg,show((i.succ+d:Nat):Int)=(d:Int)+i+1 from by show Int.ofNat _=Int.ofNat _;rw[Nat.succ_add,V0 i d],WA,WA]
 rfl
theorem Df(items:Array Value):slicePick items none none (some (-1))=items.toList.reverse.toArray:=by
 have e:sliceBounds none none (some (-1)) items.size=((items.size:Int) - 1,-1,-1):=by simp[sliceBounds]
 unfold slicePick
 rw[e]
 congr 1
 unfold sliceRange
 simp only[show¬((-1:Int)>0) by decide,if_false]
 by_cases h0:items.size=0
 .have:items=#[]:=Xh h0
  subst this;rfl
 .rw[if_pos (Int.sub_lt_sub_right (Int.natCast_pos.mpr (Nat.pos_of_ne_zero h0)) 1)]
  have e2:(((items.size:Int) - 1 - -1 - -1 - 1) / -(-1)).toNat=items.size:=by
   rw[Int.neg_neg,Int.ediv_one,Int.sub_neg,Int.sub_neg,Int.sub_add_cancel,WA];rfl
  rw[e2]
  have hm:(VV items.size).map (λk:Nat=>((items.size:Int) - 1+ -1 * (k:Int)).toNat)=(VV items.size).reverse:=by
   apply List.ext_getElem
   .simp
   .intro i h1 h2
    rw[Vs,List.length_range] at h1
    rw[List.getElem_map,List.getElem_range,List.getElem_reverse,List.getElem_range,List.length_range]
    exact GB h1
  rw[hm,List.filterMap_reverse]
  have:=pick_run items 0 items.size
  simp only[VC,List.map_id',List.drop_zero] at this
  rw[this,List.take_of_length_le (by simp)]
theorem Dg(W:SW g){o lo hi st:V}{v vl vu vs:Value}{a:Addr}{K:V->H->Bool}(I:cV g c h s)(hv:VR g c o v)(h1:VR g c lo vl)(h2:VR g c hi vu)(h3:VR g c st vs)(hs:s.heap.IsSliceOf a vl vu vs)(hk:Ij g.C o lo hi st h K=true):
  (∃T id,typeLookup (.type T) "__getitem__"=pure (some (.builtin id))/\s.TypeIs v T)/\wpAny g.M A (getItem v (.ref a)) (QV g c K) E s:=
 Ck hk (λhk=>kB (P:=λv=>(∃T id,typeLookup (.type T) "__getitem__"=pure (some (.builtin id))/\s.TypeIs v T)/\wpAny g.M A (getItem v (.ref a)) (QV g c K) E s) hk hv λl b t hb hk=>cT hk λhl hk=>cP hk λx hx hk=>by
  obtain⟨e,p,q,p1,p2,ex⟩:=lU h1 h2 h3 hx
  subst e
  refine⟨⟨"bytes",_,FB.slot_bytes_getitem.lookup,typeIs_bytes _ _ _⟩,getItem_meets (typeIs_bytes _ _ _) (by decide) FB.slot_bytes_getitem FB.entry_bytes_getitem (FB.args_bytes_getitem_2 _ _) (KBc.meets_slice2 b t _ p1 p2) ⟨hs,dC (Va (KBc.size_picked_le b p q) (Va (Vg hb.size) (Va (eP hl) (by decide)))),λt' k=>.tb I ?_ hk⟩⟩
  rw[KBc.picked_eq,ex,hb.size]
  exact(hb.drop _).take _) (λhk=>kL (P:=λv=>(∃T id,typeLookup (.type T) "__getitem__"=pure (some (.builtin id))/\s.TypeIs v T)/\wpAny g.M A (getItem v (.ref a)) (QV g c K) E s) W I hk hv λl y ws w1 w2 w3 hk=>cP hk λx hx hk=>by
  refine⟨⟨"list",_,list_getitem_lookup,w1.isList.typeIs⟩,?_⟩
  have fin:∀(lo' hi' st':Option Int),IsPart vl lo'->IsPart vu hi'->IsPart vs st'->st'≠some 0->da g c x (slicePick ws lo' hi' st').toList->x.length≤10000->wpAny g.M A (getItem (.ref y) (.ref a)) (QV g c K) E s:=λlo' hi' st' q1 q2 q3 q4 hr hlen=>by
   refine wpAny_getItem_list_slice w1.isList hs q1 q2 q3 q4 ?_ (dC (Va (Vg (et w2)) (Va w3 (by decide))))
   refine e13 (kE I hr hlen) λc' e I' r=>?_
   rw[WU] at I'
   exact⟨_,c',_,e,I',r,hk⟩
  refine fK hx (λhx=>?_) λhx=>dJ hx λn1 hx=>dJ hx λn2 hx=>cW hx λn hn hx=>cW hn λy0 hy hc=>dJ hx λhm hx=>?_
  .obtain⟨e,p,q,p1,p2,ex⟩:=lU h1 h2 h3 hx
   refine fin p q none p1 p2 (e▸.none) (λq=>nn q) ?_ (ex▸Va (yk ..) w3)
   rw[slicePick_plain,ex,et w2]
   exact(w2.drop _).take _
  .have h3:VR g c (.int (.c n)) vs:=d9 _ _ hc▸eA hy▸h3
   refine e22 h3 λm t hvs hmn=>?_;clear h3
   have hmn:m=n:=hmn
   refine fin none none (some (-1)) (ni n1 h1▸.none) (ni n2 h2▸.none) (hvs▸(hmn.trans (of_decide_eq_true hm))▸.int m t) (by decide) ?_ (U7 hx▸Va (Vg List.length_reverse) w3)
   rw[Df]
   exact U7 hx▸w2.reverse) (λhk=>Sx (P:=λv=>(∃T id,typeLookup (.type T) "__getitem__"=pure (some (.builtin id))/\s.TypeIs v T)/\wpAny g.M A (getItem v (.ref a)) (QV g c K) E s) W I hk hv λl y ob b w1 w2 w3 w4 w5 hk=>cP hk λx hx hk=>by
  obtain⟨e,p,q,p1,p2,ex⟩:=lU h1 h2 h3 hx
  subst e
  refine⟨⟨"bytearray",_,fW.lookup,ob,w1,w2⟩,De w1 w2 w3 hs p1 p2 (Va (Vg w4.size) w5) ?_⟩
  obtain⟨c',N⟩:=I.push1 false (o:=.barr x) (ob:={cls:=.type "bytearray",data:=.bytearray (KBy.picked b p q)}) rfl (λh' ga=>⟨_,_,ga,rfl,rfl,by
   rw[KBc.picked_eq,ex,w4.size]
   exact(w4.drop _).take _,ex▸Va (yk ..) w5⟩) ft
  exact⟨_,c',_,N.e,N.i,N.v,hk⟩)
end
end
section
variable{g:Gb}{c c':Cf}
section
variable{A:Around}{E:Value->Shared->Prop}{h:H}{s:Shared}{n:Nat}
def Fj(g:Gb)(f:BF)(v:Value):Prop:=∀{c:Cf} {A:Around} {E:Value->Shared->Prop} {h:H} {s:Shared} {n:Nat} {args:List V} {vs:List Value} {K:V->H->Bool},dy g c n A->cV g c h s->f args h K=true->da g c args vs->wpAny g.M A (call v vs) (QV g c K) E s
theorem NJ:Fj g M1 (.builtin "abs"):=λoa I hk hv=>a1 hk hv λv x hx hk=>kI hk hx λa m t ha hk=>
 call_abs_int λu tk=>by
  have e:(if m<0 then -m else m)=if 0≤m then m else -m:=by
   by_cases q:m<0
   .rw[if_pos q,if_neg (Int.not_le.mpr q)]
   .rw[if_neg q,if_pos (Int.not_lt.mp q)]
  rw[e];exact .ti I ha.abs hk
theorem mE:Slot "bytearray" "__len__" "bytearray.__len__":=
 .of (owner:="bytearray") (n:="__len__") (by rw[typeLookup_type,builtinLookup_eq_fast];kernel_rfl) (by decide+kernel) (by decide+kernel) (by decide+kernel)
  (by first|exact .inl (by decide+kernel)|exact .inr (by decide+kernel)) (by rw[isSubtype_type];kernel_rfl)
theorem ry:entryFor table "bytearray.__len__"=some Builtin.«bytearray.__len__»:=entryFor_of_tree (by kernel_rfl)
theorem tF(a:Value):argsOk "bytearray.__len__" ⟨[a],[]⟩:=by unfold argsOk;kernel_rfl
theorem Kz{x:Addr}{o:Obj}{b:Array UInt8}{m:Nat}{Q:Value->Shared->Prop}(ho:s.heap.get? x=some o)(hc:o.cls=.type "bytearray")(hd:o.data=.bytearray b m)(hn:b.size≤100000)
  (h:Q (.int b.size (s.toks+1)) {s with toks:=s.toks+1+1}):wpAny g.M A (call (.builtin "len") [.ref x]) Q E s:=by
 have hT:s.TypeIs (.ref x) "bytearray":=⟨o,ho,hc⟩
 refine Calls.call_function_entry kind_len plain_len entry_len (args_len1 _) ?_
 refine wpAny_bind (m:=PySem.oneArg "len" _) (wpAny_pure ?_)
 refine wpAny_bind (m:=callSpecial? (.ref x) (U8 "__len__")) (wpAny_callSpecial?_slot (name:=U8 "__len__") hT mE (wpAny_call_entry mE hT ry
  ?_ (tF _)))
 refine wpAny_bind (wpAny_of_eq (a:=(.ref x,[])) rfl ?_)
 refine wpAny_bind (gC ho hd ?_)
 refine wpAny_bind (wpAny_mkInt (wpAny_pure ⟨_,rfl,?_⟩))
 refine wpAny_bind (wpAny_holding (wpAny_pure ?_))
 refine wpAny_bind (wpAny_letGo ?_)
 refine eH (Int.not_lt.mpr (VF b.size)) (eH (Int.not_le.mpr (VG (Int.ofNat_le.mpr hn) (by decide))) ?_)
 exact wpAny_bind (wpAny_mkInt (wpAny_pure ⟨_,rfl,h⟩))
theorem jW{b:Array UInt8}{t:Tok}{Q:Array UInt8->Shared->Prop}(h:Q b s):wpAny g.M A (Builtin.Bytes.payload (.bytes b t)) Q E s:=wpAny_of_eq (a:=b) rfl h
theorem tH{m k:Nat}{tk t:Nat}{K:V->H->Bool}(I:cV g c h s)(e:m=k)(hk:kn k h K=true):QV g c K (.int m t) {s with toks:=tk}:=
 cT hk λY hk=>.ti I (show dN g.σ (.c (k:Int)) (m:Int) from congrArg _ e) hk
theorem oP{k m:Nat}{K:V->H->Bool}(e:m=k)(hk:kn k h K=true):m≤10000:=cT hk λh Y=>e▸eP h
theorem Dh{m:Nat}(h:m≤10000):(m:Int)<2 ^ 63:=VG (Int.ofNat_le.mpr h) (by decide)
theorem NK(W:SW g):Fj g (M2 g.C) (.builtin "len"):=λoa I hk hv=>a1 hk hv λv x hx hk=>
 MG hk (λhk=>kT hk hx λl a vs ht hr hk=>
  have e:vs.toArray.size=l.length:=hr.length
  len_tuple (I.tup _ _ ht) (Dh (oP e hk)) (tH I e hk)) (λhk=>kB hk hx λl b t hb hk=>len_bytes (Va (oP hb.size hk) (by decide)) (tH I hb.size hk)) (λhk=>kL W I hk hx λl a ws w1 w2 Y hk=>Calls.call_len_list w1.isList (Dh (oP (et w2) hk)) (tH I (et w2) hk)) (λhk=>Sx W I hk hx λl a o b w1 w2 w3 w4 Y hk=>Kz w1 w2 w3 (Va (oP w4.size hk) (by decide)) (tH I w4.size hk)) (λhk=>kD W I hk hx λl a kvs w1 w2 w3 Y hk=>call_len_dict w2 w1 (Dh (oP w3.length hk)) (tH I w3.length hk))
theorem yl{p:Prop}[Decidable p]{x y:Int}{t u:Tok}:(if p then Value.int x t else Value.int y u)=.int (if p then x else y) (if p then t else u):=by
 by_cases q:p
 .rw[if_pos q,if_pos q,if_pos q]
 .rw[if_neg q,if_neg q,if_neg q]
theorem NL:Fj g (M3 g.C) (.builtin "max"):=λ{c A E h s n args vs K} oa I hk hv=>a2 hk hv λv x w y hx hy hk=>kI (P:=λx=>wpAny _ _ (call _ [x,y]) _ _ _) hk hx λa m t ha hk=>kI (P:=λy=>wpAny _ _ (call _ [_,y]) _ _ _) hk hy λb n u hb hk=>
 eT hk λhq hk=>cP hk λz hz hk=>max_two_ints (oa.hh hq) λh' tk hk'=>by
  rw[yl];exact⟨.int z,_,_,.refl _,I.keep (s':={s with heap:=h',toks:=tk}) hk' ⟨rfl,rfl,rfl⟩,eD (F7 ha hb hz),hk⟩
theorem NM:Fj g (M4 g.C) (.builtin "min"):=λ{c A E h s n args vs K} oa I hk hv=>a2 hk hv λv x w y hx hy hk=>kI (P:=λx=>wpAny _ _ (call _ [x,y]) _ _ _) hk hx λa m t ha hk=>kI (P:=λy=>wpAny _ _ (call _ [_,y]) _ _ _) hk hy λb n u hb hk=>
 eT hk λhq hk=>cP hk λz hz hk=>min_two_ints (oa.hh hq) λh' tk hk'=>by
  rw[yl];exact⟨.int z,_,_,.refl _,I.keep (s':={s with heap:=h',toks:=tk}) hk' ⟨rfl,rfl,rfl⟩,eD (F8 ha hb hz),hk⟩
theorem NN:Fj g M5 (.type "int"):=λoa I hk hv=>a1 hk hv λv x hx hk=>
 eK hk (λhk=>kI hk hx λa m t ha hk=>call_int_int (.at I (eD ha) hk)) λhk=>RJ hk hx λb hk=>call_int_bool (.ti I (show dN g.σ (.c (TH b)) (if b then 1 else 0) from rfl) hk)
theorem ym{hp hp':Heap}(k:∀b o,hp.get? b=some o->hp'.get? b=some o):hp.get? hp'.objs.size=none:=by
 cases q:hp.get? hp'.objs.size with
 |none=>rfl
 |some o=>exact absurd (VB (k _ _ q)) (Wr _)
theorem GC(W:SW g):Fj g (Bj g.C) (.type "tuple"):=λ{c A E h s n args vs K} oa I hk hv=>a1 hk hv λv x hx hk=>
 eK hk (λhk=>kT hk hx λl a vs ht hr hk=>call_tuple_same (I.tup _ _ ht) (.at I (gn ht hr) hk)) λhk=>
 kL W I hk hx λl a ws w1 w2 w3 hk=>call_tuple_list w1.isList (λh' k=>
   ⟨.tup l,_,_,dz.tupAt ..,I.newTup (s':={s with heap:=h'.push {cls:=.type "tuple",data:=.seq ws}}) (λb o q=>Vb _ (k b o q)) (ym k) ⟨_,Vj _ rfl,rfl,0,rfl⟩ ⟨rfl,rfl,rfl⟩,gn (.inr ⟨rfl,rfl⟩) (w2.ext (dz.tupAt ..)),hk⟩)
  (dC (Va (Vg (et w2)) (Va w3 (by decide))))
theorem cV.pushW{o:O}{a:Addr}{s':Shared}(I:cV g c h s)(k:∀b o,s.heap.get? b=some o->s'.heap.get? b=some o)(na:s.heap.get? a=none)(new:OR g c o a a s'.heap)(pa:∃ob,s'.heap.get? a=some ob)(sam:s'.gens=s.gens/\s'.drawn=s.drawn/\s'.os=s.os):
  ∃c',dz c c'/\cV g c' (h.push o) s'/\VR g c' (.ref h.length) (.ref a):=
 have l1:h.length<c.n+1:=I.len▸VH _
 ⟨c.add a a false,dz.add ..,I.push k na na new pa pa sam ft,l1,congrArg Value.ref (if_pos I.len.symm).symm⟩
theorem KA(W:SW g):Fj g (Il g.C) (.type "list"):=λ{c A E h s n args vs K} oa I hk hv=>a1 hk hv λv x hx hk=>kL W I hk hx λl a ws w1 w2 w3 hk=>
 w1.elim λnn ho=>call_list_seq a (.inl rfl) ho rfl rfl (λh' c' k hD=>
   (I.pushW (o:=.list l) (s':={s with heap:=h'}) k (Vo (Vm _)) ⟨ws,⟨_,hD⟩,w2,w3⟩ ⟨_,hD⟩ ⟨rfl,rfl,rfl⟩).elim λc' y=>⟨_,c',_,y.1,y.2.1,y.2.2,hk⟩)
  (dC (Va (Vg (et w2)) (Va w3 (by decide))))
theorem lV:typeLookup (.type "bytes") "__bytes__"=pure (some (.builtin "bytes.__bytes__")):=by rw[typeLookup_type,builtinLookup_eq_fast];kernel_rfl
theorem pL:typeLookup (.type "bytearray") "__bytes__"=pure none:=by rw[typeLookup_type,builtinLookup_eq_fast];kernel_rfl
theorem pM:typeLookup (.type "bytearray") "__index__"=pure none:=by rw[typeLookup_type,builtinLookup_eq_fast];kernel_rfl
theorem gD:typeLookup (.type "bytearray") "__buffer__"=pure (some (.builtin "bytearray.__buffer__")):=by rw[typeLookup_type,builtinLookup_eq_fast];kernel_rfl
theorem lW:typeLookup (.type "bytearray") "__release_buffer__"=pure (some (.builtin "bytearray.__release_buffer__")):=by rw[typeLookup_type,builtinLookup_eq_fast];kernel_rfl
theorem GD:isSubtype (.type "bytearray") (.type "bytearray")=pure true:=by rw[isSubtype_type];kernel_rfl
theorem oQ{M:Model}{A:Around}{E:Value->Shared->Prop}{s:Shared}{a:Value}{name:String}{id:String}{Q:Bool->Shared->Prop}(hT:s.TypeIs a "bytearray")(hl:typeLookup (.type "bytearray") (name:Str)=pure (some (.builtin id)))(h1:id.endsWith ("."++name)=true)(h2:id.dropRight (name.length+1)="bytearray")(h:Q true s):wpAny M A (Builtin.Bytes.slotIsOwn a name) Q E s:=by
 refine wpAny_bind (wpAny_specialOf hT hl ?_)
 dsimp only
 rw[h1,h2]
 exact wpAny_isInstance hT GD h
theorem vY{M:Model}{A:Around}{E:Value->Shared->Prop}{s:Shared}{a:Value}{Q:Bool->Shared->Prop}(hT:s.TypeIs a "bytearray")(h:Q false s):wpAny M A (Builtin.Bytes.ownRelease a) Q E s:=by
 unfold Builtin.Bytes.ownRelease
 exact wpAny_bind (oQ hT lW (by decide+kernel) (by decide+kernel) (wpAny_pure h))
theorem ba_buffer{A:Around}{E:Value->Shared->Prop}{s:Shared}{id:String}{x:Addr}{o:Obj}{b:Array UInt8}{n:Nat}{Q:Option (Array UInt8)->Shared->Prop}(ho:s.heap.get? x=some o)(hc:o.cls=.type "bytearray")(hd:o.data=.bytearray b n)(h:Q (some b) s):wpAny g.M A (Builtin.Bytes.buffer? id (.ref x) (full:=true)) Q E s:=by
 have hT:s.TypeIs (.ref x) "bytearray":=⟨o,ho,hc⟩
 unfold Builtin.Bytes.buffer?
 refine wpAny_bind (wpAny_specialOf hT gD ?_)
 refine wpAny_bind (oQ hT gD (by decide+kernel) (by decide+kernel) ?_)
 refine eH Ve ?_
 refine wpAny_bind (wpAny_specialOf hT gD ?_)
 refine wpAny_bind (vY hT ?_)
 refine eH Ve ?_
 exact wpAny_bind (gC ho hd (wpAny_pure h))
theorem qv{x:Value}{Q:Value->Shared->Prop}(hb:wpAny g.M A.in1.in1 (Builtin.«bytes.__new__» ⟨[.type "bytes",x],[]⟩) (λfin s'=>∃v,fin=.done (.ret v)/\s'.TypeIs v "bytes"/\Q v s') E s):wpAny g.M A (call (.type "bytes") [x]) Q E s:=by
 refine callType_codes (Q₁:=λobj aa=>aa.TypeIs obj "bytes"/\Q obj aa) F.bm_called (F.bm_typeCall _) F.entry_object_init ?_ λobj aa ae=>?_
 .refine codeAny_of_tree ?_
  show wpAny _ _ (do checkBuiltinCall "bytes.__new__" ⟨[.type "bytes",x],[]⟩;again (.builtin "bytes.__new__" ⟨[.type "bytes",x],[]⟩)) _ _ s
  refine wpAny_bind (wpAny_of_eq (F.bm_newCall _) (wpAny_pure ⟨plainId_quiet F.bm_plain _,codeAny_builtin F.bm_entry ?_⟩))
  rw[Around.under_plainId F.bm_plain _]
  refine wpAny_mono hb (λfin s' ⟨v,e,q⟩=>?_) λY Y e=>e
  subst e
  exact q
 .exact⟨ae.1,F.args_object_init_2 obj _,object_init_meets F.bm_called.init.lookup F.bm_called.made (by decide) _ _ A.in1 _ aa ⟨ae.1,rfl,ae.2⟩⟩
theorem vZ{b:Array UInt8}{t:Tok}{Q:Value->Shared->Prop}(h:Q (.bytes b t) s):wpAny g.M A (call (.type "bytes") [.bytes b t]) Q E s:=
 qv<|wpAny_bind<|wpAny_of_eq (a:=true) rfl<|bm_if_false rfl<|wpAny_bind<|wpAny_of_eq F.bm_sub<|bm_if_false rfl<|wpAny_bind<|wpAny_of_eq (F.bm_bind _)<|
  wpAny_bind<|wpAny_of_eq (a:=()) rfl<|wpAny_bind<|wpAny_of_eq (a:=()) rfl<|bm_if_false rfl<|wpAny_bind<|wpAny_specialOf (T:="bytes") (typeIs_bytes _ _ _) lV<|
  wpAny_bind<|wpAny_rule<|wpAny_bind<|wpAny_typeOf (typeIs_bytes _ _ _)<|wpAny_pure ⟨_,rfl,typeIs_bytes _ _ _,h⟩
theorem Di{x:Addr}{o:Obj}{b:Array UInt8}{n:Nat}{Q:Value->Shared->Prop}(ho:s.heap.get? x=some o)(hc:o.cls=.type "bytearray")(hd:o.data=.bytearray b n)(hsz:b.size≤sizeLine)(h:Q (.bytes b s.toks) {s with toks:=s.toks+1}):wpAny g.M A (call (.type "bytes") [.ref x]) Q E s:=by
 have hT:s.TypeIs (.ref x) "bytearray":=⟨o,ho,hc⟩
 refine qv<|wpAny_bind<|wpAny_of_eq (a:=true) rfl<|bm_if_false rfl<|wpAny_bind<|wpAny_of_eq F.bm_sub<|bm_if_false rfl<|wpAny_bind<|wpAny_of_eq (F.bm_bind _)<|
  wpAny_bind<|wpAny_of_eq (a:=()) rfl<|wpAny_bind<|wpAny_of_eq (a:=()) rfl<|bm_if_false rfl<|wpAny_bind<|wpAny_specialOf hT pL<|wpAny_bind<|wpAny_bind<|wpAny_bind<|wpAny_load ho ?_
 rw[hd]
 exact wpAny_pure<|wpAny_pure<|bm_if_false rfl<|wpAny_bind<|wpAny_specialOf hT pM<|bm_if_true rfl<|wpAny_bind<|ba_buffer ho hc hd<|wpAny_bind<|wpAny_rule<|wpAny_bind<|wpAny_mkBytes (wpAny_pure ⟨_,rfl,typeIs_bytes _ _ _,h⟩) hsz
structure NO(g:Gb)(as:List AI)(vs:List Value)(ns:List Int):Prop where
 i:IntsAre vs ns
 r:km as=true->∀n∈ns,0≤n/\n<256
 b:km as=true->BR g.σ as (byteArr ns).toList
theorem Dj{m:Int}(h:0≤m/\m<256):((m.toNat.toUInt8).toNat:Int)=m:=by
 rw[UInt8.toNat_ofNat',WI ((Int.toNat_lt h.1).mpr h.2)];exact Wg h.1
theorem zY:∀{l:List V} {as:List AI} {vs:List Value},qN l=some as->da g c l vs->∃ns:List Int,NO g as vs ns:=by
 intro l
 induction l with
 |nil=>intro as vs e hv;cases e;cases (show vs=[] from hv);exact⟨[],.nil,λY Y q=>(nomatch q),λY=>rfl⟩
 |cons v r ih=>
  intro as vs e hv
  refine e23 hv λx xs zq60 h1 h2=>?_;clear hv
  cases zq60
  exact cW e λa e1 e=>cW e λl el e3=>(ih el h2).elim λns q=>by
   cases eA e1
   cases e3
   refine e22 h1 λm t zq61 ha=>?_;clear h1
   cases zq61
   refine⟨m::ns,.cons m t q.i,λhb n hn=>?_,λhb=>?_⟩
   .cases hn with
    |head=>exact lH ha (Bool.and_eq_true_iff.mp hb).1
    |tail _ hn=>exact q.r (Bool.and_eq_true_iff.mp hb).2 n hn
   .exact⟨m.toNat.toUInt8,_,rfl,(Dj (lH ha (Bool.and_eq_true_iff.mp hb).1)).symm▸ha,q.b (Bool.and_eq_true_iff.mp hb).2⟩
theorem GE(W:SW g):Fj g (Bh g.C) (.type "bytes"):=λ{c A E h s n args vs K} oa I hk hv=>a1 hk hv λv x hx hk=>
 Ck hk (λhk=>kB hk hx λl b t hb hk=>vZ (.at I (jj hb) hk)) (λhk=>Sx W I hk hx λl a o b w1 w2 w3 w4 w5 hk=>Di w1 w2 w3 (dC (Va (Vg w4.size) (Va w5 (by decide)))) (.tb I w4 hk)) (λhk=>kL W I hk hx λl a ws w1 w2 w3 hk=>eT hk λhq hk=>cP hk λas ha hk=>cT hk λhb hk=>(zY ha w2).elim λns q=>
  call_bytes_ints (vs:=ws.toList) w1.isList q.i (q.r hb) (dC (Va (Vg w2.length) (Va w3 (by decide)))) (oa.hh hq) λh' t k hk'=>
   .at (I.keep (s':={s with heap:=h',toks:=k}) hk' ⟨rfl,rfl,rfl⟩) (jj (q.b hb)) hk)
theorem Dk{a:Addr}{vs:List Value}{n:Nat}{P:Fin->Shared->Prop}(ho:s.heap.get? a=some (seqObj "list" vs.toArray n))(h2:vs.length<2)
  (h:P (.done (.ret .none)) {s with heap:=sortedHeap s.heap a vs vs.toArray}):wpAny g.M A (Builtin.«list.sort» ⟨[.ref a],[]⟩) P E s:=by
 rw[list_sort_plain]
 have ha:a<s.heap.objs.size:=VB ho
 have hsz:vs.toArray.size=vs.length:=by simp
 refine wpAny_bind (listItems_at ho rfl ?_)
 refine wpAny_bind (listUpdate_at ho rfl ?_ (by rw[hsz,sizeLine_eq];omega) (VQ _))
 obtain⟨e1,ho1⟩:∃e1,(s.heap.update a (W6 λY=>#[])).get? a=some (seqObj "list" #[] e1):=⟨_,get?_update_seq ho (λY=>#[])⟩
 refine wpAny_bind (seqEpoch_at ho1 rfl ?_)
 refine wpAny_bind (wpAny_newTuple ?_ (by rw[sizeLine_eq];simp;omega))
 refine wpAny_bind (wpAny_newList ?_)
 refine wpAny_holding ?_
 have ho6:(((s.heap.update a (W6 λY=>#[])).push (seqObj "tuple" vs.toArray 0)).push (seqObj "list" #[] 0)).get? a=some (seqObj "list" #[] e1):=by
  rw[Xd _ _ _ (by rw[size_push',Heap.size_update];exact Vy (VN ha)),Xd _ _ _ (by rw[Heap.size_update];exact Vy ha)]
  exact ho1
 refine(?_:wpAny _ A _ P E {s with heap:=((s.heap.update a (W6 λY=>#[])).push (seqObj "tuple" vs.toArray 0)).push (seqObj "list" #[] 0)})
 dsimp only
 have h3:vs.toArray.size<2:=by rw[hsz];exact h2
 rw[if_pos h3,if_pos h3]
 refine wpAny_bind (wpAny_pure ?_)
 rw[StateT.run_pure]
 refine wpAny_bind (wpAny_pure ?_)
 dsimp only
 refine wpAny_bind (seqEpoch_at ho6 rfl ?_)
 have e5:(arrOf (SortSt.mk' general' (vs.toArray.zip vs.toArray) #[] 7 none)).map (·.2)=vs.toArray:=by
  refine(?_:(vs.toArray.zip vs.toArray).map (·.2)=vs.toArray)
  rw[Array.map_snd_zip (Vm _)]
 refine wpAny_bind (listUpdate_at ho6 rfl ?_ (VQ _) (by show((arrOf (SortSt.mk' general' (vs.toArray.zip vs.toArray) #[] 7 none)).map (·.2)).size≤_;rw[e5,hsz,sizeLine_eq];omega))
 simp only[bne_self_eq_false,Wz,if_false]
 refine wpAny_pure ?_
 rw[e5]
 exact h
theorem Dl{l:List (Nat×V)}{kvs:List (Str×Value)}{acc:List Value}(h:PR g c l kvs)(h2:l.length≤1)(hl:acc.length=kvs.length)(ha:∀(i:Nat) (x:Value),acc[i]? =some x->∃k v,kvs[i]? =some (k,v)/\Value.isStrOf k x=true):da g c (ix (l.map (·.1))) acc:=by
 cases l with
 |nil=>cases (show kvs=[] from h);exact V1 hl
 |cons p r=>
  cases r with
  |nil=>
   obtain⟨sx,vx,tl,q1,q2,q3,q4,q5,q6⟩:=h
   cases (show tl=[] from q6);cases q1
   obtain⟨y,rfl⟩:∃y,acc=[y]:=List.length_eq_one_iff.mp hl
   refine e22 (ha 0 y rfl) λk' x' p1 p2=>?_
   cases p1
   refine e11 (Value.isStrOf_shape p2) λt zq62=>?_
   cases zq62
   exact .cons ⟨sx,t,rfl,q2,q3,q4⟩ .nil
  |cons _ _=>exact absurd h2 (Nat.not_le_of_lt (Nat.succ_lt_succ (Vx _)))
theorem strsOf_len:∀l:List Nat,(ix l).length=l.length:=λl=>List.rec rfl (λY Y ih=>congrArg (· +1) ih) l
theorem Dm(W:SW g):Fj g (xn g.C) (.builtin "sorted"):=λ{c A E h s n args vs K} oa I hk hv=>a1 hk hv λv x hx hk=>kD W I hk hx λl x kvs w1 w2 w3 w4 hk=>cT hk λhc hk=>eT hk λhq hk=>by
 have hc:=eP hc
 have hl:=w3.length
 refine e11 w1.dictAt λep hat=>?_
 refine Calls.call_function_entry kind_sorted plain_sorted entry_sorted (args_sorted1 _) ?_
 refine wpAny_bind (m:=checkCount "sorted" 1 1 _) (wpAny_pure ?_)
 refine wpAny_bind (kdu_collect (A:=A.in1) (kdl_dict (knd:=PySem.strKind g.pr g.wd) (kvs:=kvs) (ep:=ep) w2) (oa.hh hq) hat (dC (hl▸Va hc (by decide))) λh' tk acc hk' hacc=>?_)
 have hal:acc.toList.length=kvs.length:=hacc.1
 have hlen:acc.toList.length≤1:=hal▸hl▸hc
 refine wpAny_bind (wpAny_newList ?_ (dC (Va hlen (by decide))))
 have hoL:(h'.push (seqObj "list" acc.toList.toArray 0)).get? h'.objs.size=some (seqObj "list" acc.toList.toArray 0):=Vj _ rfl
 refine wpAny_bind (wpAny_holding (wpAny_call_entry slot_list_sort (s:={s with heap:=h'.push (seqObj "list" acc.toList.toArray 0),toks:=tk}) ⟨_,hoL,rfl⟩ entry_list_sort (Dk hoL (WC hlen) ⟨_,rfl,?_⟩) (args_list_sort _)))
 refine wpAny_pure ⟨_,rfl,?_⟩
 refine e11 (sortedHeap_at (out:=acc.toList.toArray) hoL) λe2 g2=>?_
 have hlt:∀b o,s.heap.get? b=some o->b<h'.objs.size:=λb o q=>VB (hk' b o q)
 have kk:∀b o,s.heap.get? b=some o->(sortedHeap (h'.push (seqObj "list" acc.toList.toArray 0)) h'.objs.size acc.toList acc.toList.toArray).get? b=some o:=λb o q=>
  (sortedHeap_old (Vy (hlt b o q)) (by rw[size_push'];exact VN (hlt b o q))).trans ((Xd _ _ _ (Vy (hlt b o q))).trans (hk' b o q))
 exact(I.pushW (o:=.list (ix (l.map (·.1)))) (s':={s with heap:=sortedHeap (h'.push (seqObj "list" acc.toList.toArray 0)) h'.objs.size acc.toList acc.toList.toArray,toks:=tk}) kk (ym hk')
  ⟨acc.toList.toArray,⟨_,g2⟩,Dl w3 hc hal (λi x q=>hacc.2 i x (Array.getElem?_toList.symm.trans q)),by rw[strsOf_len,Vs];exact Va hc (by decide)⟩ ⟨_,g2⟩ ⟨rfl,rfl,rfl⟩).elim
  λc' y=>⟨_,c',_,y.1,y.2.1,y.2.2,hk⟩
end
end
def v0(m:Str->Option Value):Prop:=m (U8 "__setattr__")=none/\m (U8 "what")=none/\m (U8 "at")=none/\m (U8 "__getattribute__")=none/\m (U8 "__getattr__")=none
structure UI(g:Gb)(Lg fI:Addr)(fd:FuncData)(bd:List Stmt)(mL:Str->Option Value)(dv:Value):Prop where
 fn:oH g.B fI fd bd
 ini:mL (U8 "__init__")=some (.ref fI)
 noL:v0 mL
 bind2:∀{s:Shared} {e w:Value},g.B.StaysIn s.heap->BindsTo s fd ⟨[e,w],[]⟩ [(U8 "self",e),(U8 "what",w),(U8 "at",dv)]
 bind3:∀{s:Shared} {e w a:Value},g.B.StaysIn s.heap->BindsTo s fd ⟨[e,w,a],[]⟩ [(U8 "self",e),(U8 "what",w),(U8 "at",a)]
 dflt:VR g (cz g) (.tup [.int (.c 0),.int (.c 0)]) dv
 cls:∀{i:Nat} {inf:gb},g.C.C.get i=some inf->inf.exc=true->inf.init=0->∃mN,eQ g.B (g.ca i) Lg mN mL/\mN (U8 "__init__")=none/\v0 mN
 any:∀{i:Nat} {inf:gb},g.C.C.get i=some inf->inf.exc=true->∃x:XD,g.B.get? (g.ca i)=some (excClassObj x.nm x.q (g.ca i) x.N x.bs x.mro x.dic x.sn x.sub x.ab x.col x.dd x.k0 x.k1 x.k2 x.k3 x.k5 x.newId)/\x.mro.contains (.type "BaseException")=true
 atts:∀{i:Nat} {inf:gb} {x:Str},g.C.C.get i=some inf->inf.exc=true->yW (cd x) inf.atts=true->x=U8 "what"\/x=U8 "at"
 sub:∀{d c:Nat} {di ci:gb},g.C.C.get d=some di->g.C.C.get c=some ci->di.exc=true->di.init=0->ci.exc=true->(Value.ref (g.ca d)::.ref Lg::eb).contains (.ref (g.ca c))=nF c di.mro
def EF(g:Gb):Prop:=∃Lg fI fd bd mL dv,UI g Lg fI fd bd mL dv
theorem oH.keeps{h h':Heap}{fI:Addr}{fd:FuncData}{bd:List Stmt}(x:oH h fI fd bd)(k:h.StaysIn h'):oH h' fI fd bd where
 at_:=let⟨o,h1,r⟩:=x.at_;⟨o,k _ _ h1,r⟩
 body:=x.body
 text:=x.text
 kind:=x.kind
 co:=x.co
 gen:=x.gen
 glob:=x.glob
 bi:=x.bi
 code:=x.code.keeps k
 nocell:=x.nocell
 self:=x.self
 what:=x.what
 at1:=x.at1
 exc:=x.exc
 lim:=x.lim.keeps k
 globs:=let⟨mg,mb,h1,h2,r⟩:=x.globs;⟨mg,mb,h1.keeps k,h2.keeps k,r⟩
theorem rz:cd (U8 "what")=j4:=by decide+kernel
theorem Dn:cd (U8 "at")=nA:=by decide+kernel
theorem KB{g:Gb}{c:Cf}{w a:V}{v u:Value}{m:Str->Option Value}(hm:∀y,m y=if y=U8 "at" then some u else if y=U8 "what" then some v else none)(h1:VR g c w v)(h2:VR g c a u):NR g c [(j4,w),(nA,a)] m:=λx hx=>by
 rw[dY,dY,F0]
 by_cases e1:x=U8 "what"
 .subst e1
  have:U9 j4 (cd (U8 "what"))=true:=by rw[rz];exact VD _
  rw[this]
  exact⟨v,by rw[hm,if_neg (by decide),if_pos rfl],h1⟩
 .have n1:U9 j4 (cd x)=false:=dg λq=>e1 (en hx (q.symm.trans rz.symm))
  rw[n1]
  by_cases e2:x=U8 "at"
  .subst e2
   have:U9 nA (cd (U8 "at"))=true:=by rw[Dn];exact VD _
   rw[this]
   exact⟨u,by rw[hm,if_pos rfl],h2⟩
  .have n2:U9 nA (cd x)=false:=dg λq=>e2 (en hx (q.symm.trans Dn.symm))
   rw[n2]
   refine(?_:m x=none)
   rw[hm,if_neg e2,if_neg e1]
section
variable{g:Gb}{c c':Cf}{A:Around}{E:Value->Shared->Prop}{h:H}{s:Shared}{n:Nat}
theorem v4(T:EF g){i:Nat}{inf:gb}{args:List V}{vs:List Value}{K:V->H->Bool}(oa:dy g c (n+1) A)(I:cV g c h s)(hk:BH i args h K=true)(hv:da g c args vs)(hi:g.C.C.get i=some inf)(hx:inf.exc=true)(h0:inf.init=0):
  wpAny g.M A (call (.ref (g.ca i)) vs) (QV g c K) E s:=by
 obtain⟨Lg,fI,fd,bd,mL,dv,T⟩:=T
 refine e17 (T.cls hi hx h0) λmN X x0 xs xw xa Y Y=>?_
 refine e05 T.noL λls lw la Y Y=>?_
 refine e13 T.fn.at_ λoI o1 o2 Y=>?_
 have go:∀{w a:V} {v u:Value} {rest:List Value},rest.length≤2->VR g c w v->VR g c a u->BG i w a h K=true->
   (∀{s':Shared} {e:Addr},g.B.StaysIn s'.heap->BindsTo s' fd ⟨.ref e::rest,[]⟩ [(U8 "self",.ref e),(U8 "what",v),(U8 "at",u)])->wpAny g.M A (call (.ref (g.ca i)) rest) (QV g c K) E s:=λ{w a v u rest} hl h1 h2 hk hb=>by
  have k0:=I.base
  have hI:=I
  obtain⟨hp,gg,dr,tk,os⟩:=s
  refine NH (X.keeps k0) x0 T.ini (k0 _ _ o1) o2 (λh' e M=>?_) (dC (Va hl (by decide)))
  refine e13 M.there λt0 m1 m2 m3=>?_
  have k1:g.B.StaysIn h':=λb o q=>M.keeps _ _ (k0 b o q)
  refine zX (X.keeps k1) (T.fn.keeps k1) m1 (hb k1) (W7 (Va (Wd _ n) (oa.type (C:=g.ca i) (rest:=rest)).dep) (by decide)) xs ls xw lw xa la λhp2 tk2 k2 ⟨t1,dx,m,q1,q2,q3,q4,q5⟩=>⟨rfl,?_⟩
  have up:∀b o,hp.get? b=some o->hp2.get? b=some o:=λb o q=>k2 b o (λe=>nn ((e▸M.new).symm.trans q)) (M.keeps _ _ q)
  have nd:hp.get? dx=none:=by
   cases q:hp.get? dx with
   |none=>rfl
   |some o=>exact nn (q2.symm.trans (M.keeps _ _ q))
  refine e32 (id q4) λod es ep q4' q4r=>?_
  have I2:=hI.push (s':=⟨hp2,gg,dr,tk2,os⟩) (o:=.exc i [(j4,w),(nA,a)] true) (a:=e) (d:=dx) (fl:=false) up M.new nd ⟨_,_,m,q1,rfl,rfl,rfl,q4,KB q5 h1 h2,λY=>⟨t1,rfl⟩⟩ ⟨_,q1⟩ ⟨_,q4'⟩ ⟨rfl,rfl,rfl⟩ ft
  exact⟨.ref h.length,_,_,dz.add ..,I2,rh (hI.len▸VH _) (if_pos hI.len.symm).symm,hk⟩
 exact eK hk (λhk=>a1 hk hv λw v h1 hk=>go (rest:=[v]) (Vi rfl) h1 (T.dflt.ext I.cz) hk λk=>T.bind2 k) λhk=>a2 hk hv λw v a u h1 h2 hk=>go (rest:=[v,u]) (Vi rfl) h1 h2 hk λk=>T.bind3 k
theorem v5(T:EF g)(CL:CF g){i:Nat}{inf:gb}(I:cV g c h s)(hi:g.C.C.get i=some inf):fx g (.ref (g.ca i)) s:=by
 cases hx:inf.exc with
 |true=>
  obtain⟨Lg,fI,fd,bd,mL,dv,T⟩:=T
  refine e12 (T.any hi hx) λxd hC Y=>?_
  have hC:=I.base _ _ hC
  obtain⟨hp,gg,dr,tk,os⟩:=s
  exact λA E Q hq=>wpAny_keeperOf_exc hC (hq _)
 |false=>
  obtain⟨xd,mN,hC,hN,g1,g2,g3,g4,g5,g6,g7⟩:=CL.cls hi hx
  have hC:=I.base _ _ hC
  obtain⟨hp,gg,dr,tk,os⟩:=s
  exact λA E Q hq=>wpAny_keeperOf_exc hC (hq _)
theorem zZ(T:EF g){x:Str}{ci:Nat}{m:List (Nat×V)}{bb:Bool}{b:V}{y d:Addr}{K:V->H->Bool}(I:cV g c h s)(ho:OR g c (.exc ci m bb) y d s.heap)(ha:qg g.C true ci (cd x) m=some b)(hk:K b h=true):
  wpAny g.M A (getAttr (.ref y) x true) (QV g c K) E s:=
 s7 ha λinf hi hm hx h0 ha=>kG hm λhxne Y=>by
  obtain⟨Lg,fI,fd,bd,mL,dv,T⟩:=T
  refine e17 (T.cls hi hx (h0 rfl)) λmN X x0 xs xw xa xg xh=>?_
  refine e05 T.noL λls lw la lg lh=>?_
  obtain⟨o,vs,mm,o1,o2,o3,o4,o5,o6,_⟩:=ho
  refine e12 (o6.get hxne ha) λu hu hur=>?_
  have nm:x=U8 "what"\/x=U8 "at":=T.atts hi hx hm
  have k0:=I.base
  obtain⟨hp,gg,dr,tk,os⟩:=s
  refine NI (X.keeps k0) xg lg xh lh (by rcases nm with rfl|rfl<;>assumption) (by rcases nm with rfl|rfl<;>assumption) (by rcases nm with rfl|rfl;exact qr;exact yj) o1 o2 (λq e=>Data.noConfusion (o4.symm.trans e)) o3 o5 hu (vG hur) ?_
  exact⟨b,c,h,.refl c,I.tok _,hur,hk⟩
end
section
variable{M:Model}{A:Around}{E:Value->Shared->Prop}{env:Env}{C Lg:Addr}{mN mL:Str->Option Value}
theorem v6{s:Shared}{x:Addr}{o:Obj}{t0:Addr}{Q:Flow->Shared->Prop}(X:eQ s.heap C Lg mN mL)(hx:s.heap.get? x=some o)(hcls:o.cls=.ref C)(hd:o.data=.fields #[.ref t0,.none,.none,.none,.bool false,.none])
  (hh:A.handled=none) (hE:E (.ref x) s):wpAny M A (raiseStmt env (some (pure (.ref x))) none) Q E s:=by
 obtain⟨xd,hC,hn⟩:=X.cls
 have hcB:=th (C:=C) (Lg:=Lg)
 obtain⟨oc,od,odt,osl⟩:=o
 dsimp only at hcls hd
 subst hcls hd
 unfold raiseStmt
 obtain⟨hp,g,d,tk,os⟩:=s
 repeat(first|with_reducible refine wpAny_loadPart_at hx ?_|with_reducible refine wpAny_loadPart_at hC ?_|(with_reducible refine wpAny_isSubtype_exc hC ?_;rw[hcB])|wp_step)
 exact wpAny_raiseNew_none hh hE
def pN(h:Heap)(D:Addr):Prop:=∃x:XD,h.get? D=some (excClassObj x.nm x.q D x.N x.bs x.mro x.dic x.sn x.sub x.ab x.col x.dd x.k0 x.k1 x.k2 x.k3 x.k5 x.newId)/\x.mro.contains (.type "BaseException")=true
theorem Aa{s:Shared}{x D:Addr}{o:Obj}{b:Bool}{Q:Bool->Shared->Prop}(X:eQ s.heap C Lg mN mL)(hx:s.heap.get? x=some o)(hcls:o.cls=.ref C)
  (hD:pN s.heap D)
  (hb:(Value.ref C::.ref Lg::eb).contains (.ref D)=b) (hq:Q b s):wpAny M A (excMatches (.ref x) (.ref D)) Q E s:=by
 obtain⟨xd,hC,hn⟩:=X.cls
 refine e12 hD λxd' hD hbm=>?_
 have hDB:(Value.ref D::xd'.mro).contains (.type "BaseException")=true:=by rw[Vu,hbm,Bool.or_true]
 have f:=tc_notTuple
 obtain⟨hp,g,d,tk,os⟩:=s
 unfold excMatches
 repeat(first|(with_reducible refine wpAny_loadPart_at hx ?_;rw[hcls])|with_reducible refine wpAny_loadPart_at hD ?_|(with_reducible refine wpAny_isSubtype_exc hD ?_;rw[hDB])|(with_reducible refine wpAny_isSubtype_exc hC ?_;rw[hb])|wp_step)
 cases b<;>(wp_walk;exact hq)
theorem v7{s:Shared}{D:Addr}{Q:Bool->Shared->Prop}(hD:pN s.heap D)(hq:Q true s):wpAny M A (isExcClass (.ref D)) Q E s:=by
 refine e12 hD λxd' hD hbm=>?_
 have hDB:(Value.ref D::xd'.mro).contains (.type "BaseException")=true:=by rw[Vu,hbm,Bool.or_true]
 obtain⟨hp,g,d,tk,os⟩:=s
 unfold isExcClass
 repeat(first|with_reducible refine wpAny_loadPart_at hD ?_|(with_reducible refine wpAny_isSubtype_exc hD ?_;rw[hDB])|wp_step)
 exact hq
theorem Ab{s:Shared}{x T:Addr}{o:Obj}{ds:List Addr}{b:Bool}{Q:Bool->Shared->Prop}(X:eQ s.heap C Lg mN mL)(hx:s.heap.get? x=some o)(hcls:o.cls=.ref C)
  (hT:s.heap.IsTuple T (ds.map Value.ref).toArray) (hD:∀D∈ds,pN s.heap D) (hb:(ds.any λD=>(Value.ref C::.ref Lg::eb).contains (.ref D))=b) (hq:Q b s):wpAny M A (excMatches (.ref x) (.ref T)) Q E s:=by
 have hTT:=hT.typeIs
 obtain⟨ot,ht,hct,nt,hdt⟩:=hT
 unfold excMatches
 refine wpAny_bind (wpAny_isInstance hTT sub_tuple_self ?_)
 refine jR rfl ?_
 refine wpAny_bind (wpAny_bind (wpAny_load ht ?_))
 rw[hdt]
 refine wpAny_pure (wpAny_bind (wpAny_pure ?_))
 simp only[Option.getD_some]
 refine wpAny_bind ?_
 refine wpAny_forIn_list _ (λrest Y s'=>s'=s/\∀v∈rest,∃D,v=.ref D/\pN s.heap D) _ (λv rest b aa ⟨e,h1⟩=>?_) (λb aa ⟨e,_⟩=>?_) _ _ ⟨rfl,λv hv=>?_⟩
 .have hv:v∈ds.map Value.ref:=by simpa using hv
  refine e12 (List.mem_map.mp hv) λD hd zq63=>?_
  cases zq63
  exact⟨D,rfl,hD D hd⟩
 .subst e
  refine e12 (h1 v Vc) λD zq64 hE=>?_
  cases zq64
  refine wpAny_bind (v7 hE ?_)
  refine eH (by decide) ?_
  exact wpAny_pure ⟨rfl,λv hv=>h1 v (Vd _ hv)⟩
 .subst e
  refine wpAny_bind (wpAny_typeOf_ref hx ?_)
  rw[hcls]
  refine wpAny_bind ?_
  have key:∀(l:List Addr),wpAny M A (forIn (l.map Value.ref) ((none:Option Bool),()) λc Y=>do
    let r<-isSubtype (.ref C) c
    if r=true then pure (ForInStep.done (some true,())) else pure (ForInStep.yield (none,())))
    (λst s'=>s'=aa/\st.1=if(l.any λD=>(Value.ref C::.ref Lg::eb).contains (.ref D)) then some true else none) E aa:=λl=>by
   induction l with
   |nil=>rw[List.map_nil,WW];exact wpAny_pure ⟨rfl,rfl⟩
   |cons D l ih=>
    rw[Wn,VK]
    have Xs:=X
    obtain⟨hp,g,d,tk,os⟩:=aa
    refine wpAny_bind (wpAny_bind (SG Xs ?_))
    cases hc:(Value.ref C::.ref Lg::eb).contains (.ref D) with
    |true=>exact wpAny_pure (wpAny_pure ⟨rfl,by simp only[Wo,hc,Bool.true_or,if_true]⟩)
    |false=>
     refine wpAny_pure ?_
     simp only[Wo,hc,Bool.false_or]
     exact ih
  have:=key ds
  refine wpAny_mono this (λst s' x=>?_) λY Y e=>e
  refine e02 x λe1 e2=>?_;clear x
  subst e1
  subst hb
  rw[e2]
  cases hb:ds.any λD=>(Value.ref C::.ref Lg::eb).contains (.ref D) with
  |true=>rw[hb] at hq;exact wpAny_pure hq
  |false=>rw[hb] at hq;exact wpAny_pure hq
end
section
variable{g:Gb}{c c':Cf}
theorem mF:PlainAttrs "bytes":=
 ⟨⟨"bytes.__getattribute__",by rw[typeLookup_type,builtinLookup_eq_fast];kernel_rfl,by decide+kernel⟩,by rw[typeLookup_type,builtinLookup_eq_fast];kernel_rfl⟩
theorem iW:Slot "bytes" "join" "bytes.join":=
 .of (owner:="bytes") (n:="join") (by rw[typeLookup_type,builtinLookup_eq_fast];kernel_rfl) (by decide+kernel) (by decide+kernel) (by decide+kernel)
  (by first|exact .inl (by decide+kernel)|exact .inr (by decide+kernel)) (by rw[isSubtype_type];kernel_rfl)
theorem ib:Slot "bytes" "index" "bytes.index":=
 .of (owner:="bytes") (n:="index") (by rw[typeLookup_type,builtinLookup_eq_fast];kernel_rfl) (by decide+kernel) (by decide+kernel) (by decide+kernel)
  (by first|exact .inl (by decide+kernel)|exact .inr (by decide+kernel)) (by rw[isSubtype_type];kernel_rfl)
theorem mQ:typeOf (.builtin "bytes.join")=pure (.type "method_descriptor"):=by show builtinType _=_;rw[builtinType_eq_fast];kernel_rfl
theorem lX:typeOf (.builtin "bytes.index")=pure (.type "method_descriptor"):=by show builtinType _=_;rw[builtinType_eq_fast];kernel_rfl
theorem lY:entryFor table "bytes.join"=some Builtin.«bytes.join»:=entryFor_of_tree (by kernel_rfl)
theorem kP:entryFor table "bytes.index"=some Builtin.«bytes.index»:=entryFor_of_tree (by kernel_rfl)
theorem mR(a b:Value):argsOk "bytes.join" ⟨[a,b],[]⟩:=by unfold argsOk;kernel_rfl
theorem lZ(a b:Value):argsOk "bytes.index" ⟨[a,b],[]⟩:=by unfold argsOk;kernel_rfl
section
variable{A:Around}{E:Value->Shared->Prop}{h:H}{s:Shared}{n:Nat}
theorem iX:typeLookup (.type "int") "__buffer__"=pure none:=by rw[typeLookup_type,builtinLookup_eq_fast];kernel_rfl
theorem Do{b:Array UInt8}{k:Nat}(hk:k<b.size):b.extract k (k+1)=#[b[k]]:=by
 apply Array.ext
 .simp;omega
 .intro i h1 h2
  cases (show i=0 by simp at h2;exact h2)
  simp
theorem GG{b:Array UInt8}{x:UInt8}{j:Nat}(h1:b[j]? =some x)(h2:∀k,k<j->b[k]?≠some x):Builtin.Bytes.find? b #[x] 0 b.size=some j:=by
 have hj:j<b.size:=(Array.getElem?_eq_some_iff.mp h1).1
 have e:((VV (b.size+1 - (0+(#[x]:Array UInt8).size))).map (· +0))=VV b.size:=List.map_id'' (λY=>rfl) _
 have ex:∀k,k<b.size->((b.extract k (k+(#[x]:Array UInt8).size)==#[x])=true↔b[k]? =some x):=λk hk=>by
  have:b.extract k (k+(#[x]:Array UInt8).size)=#[b[k]]:=Do hk
  rw[this,Wc hk]
  exact⟨λq=>congrArg some (VY (congrArg Wb (eq_of_beq q))).1,λq=>by rw[U7 q];exact beq_self_eq_true _⟩
 refine(congrArg (List.find? _) e).trans (List.find?_range_eq_some.mpr ⟨(ex j hj).mpr h1,List.mem_range.mpr hj,λk hk=>?_⟩)
 rw[Bool.not_eq_true',Bool.eq_false_iff]
 exact λq=>h2 k hk ((ex k (Nat.lt_trans hk hj)).mp q)
theorem Dp{b:Array UInt8}{t u:Tok}{i:Int}{j:Nat}{Q:Value->Shared->Prop}(hi:0≤i/\i<256)(h1:b[j]? =some i.toNat.toUInt8)(h2:∀k,k<j->b[k]?≠some i.toNat.toUInt8)(h:Q (.int j s.toks) {s with toks:=s.toks+1}):
  wpAny g.M A (call (.builtin "bytes.index") [.bytes b t,.int i u]) Q E s:=by
 have hb:wpAny g.M A.in1 (Builtin.«bytes.index» ⟨[.bytes b t,.int i u],[]⟩) (λfin s'=>∃v,fin=.done (.ret v)/\Q v s') E s:=by
  unfold Builtin.«bytes.index» Builtin.Bytes.searchM
  refine wpAny_bind ?_
  unfold Builtin.Bytes.searchArgs
  refine wpAny_bind (wpAny_of_eq (a:=(.bytes b t,[.int i u])) rfl ?_)
  refine wpAny_bind (wpAny_of_eq (a:=none) rfl ?_)
  refine wpAny_bind (wpAny_of_eq (a:=none) rfl ?_)
  refine wpAny_bind ?_
  unfold Builtin.Bytes.buffer?
  refine wpAny_bind (wpAny_specialOf (typeIs_int _ _ _) iX ?_)
  refine wpAny_bind (wpAny_specialOf (typeIs_int _ _ _) iX ?_)
  refine wpAny_pure ?_
  refine wpAny_bind (wpAny_specialOf (typeIs_int _ _ _) int_index ?_)
  refine bm_if_false rfl ?_
  refine wpAny_bind (wpAny_of_eq (a:=i) rfl ?_)
  refine bm_if_false (by simp only[ge_iff_le,Bool.or_eq_false_iff,decide_eq_false_iff_not];omega) ?_
  refine wpAny_bind (wpAny_pure ?_)
  refine wpAny_bind (jW ?_)
  have hsz:0<b.size:=by
   obtain⟨q,_⟩:=Array.getElem?_eq_some_iff.mp h1;omega
  have e1:Builtin.Bytes.window b.size none none=(0,(b.size:Int)):=by
   unfold Builtin.Bytes.window
   simp only[Option.getD_none,Int.lt_irrefl,if_false]
   congr 1
   rw[if_neg (by omega)];omega
  rw[e1]
  refine wpAny_pure ?_
  have e2:(if(b.size:Int) - 0<((#[i.toNat.toUInt8]:Array UInt8).size:Int) then none else some ((0:Int).toNat,(b.size:Int).toNat))=some (0,b.size):=by
   rw[if_neg (by simp;omega)];rfl
  dsimp only
  rw[e2]
  simp only[W9,Wz,if_false]
  rw[GG h1 h2]
  exact wpAny_bind (wpAny_mkInt (wpAny_pure ⟨_,rfl,h⟩))
 exact wpAny_call_entry ib (typeIs_bytes _ _ _) kP hb (lZ _ _)
theorem Ac{M:Model}{A:Around}{E:Value->Shared->Prop}{s:Shared}{β:Type}{n:Nat}{f:Nat->β->Sem (ForInStep β)}(inv:Nat->β->Prop){b:β}{Q:β->Shared->Prop}(h:inv 0 b)
  (turn:∀i b,i<n->inv i b->wpAny M A (f i b) (λr s'=>s'=s/\∃b',r=.yield b'/\inv (i+1) b') E s) (fin:∀b,inv n b->Q b s):wpAny M A (forIn (List.range' 0 n 1) b f) Q E s:=by
 have go:∀m i b,i+m=n->inv i b->wpAny M A (forIn (List.range' i m 1) b f) Q E s:=λm=>by
  induction m with
  |zero=>intro i b e h;cases e;exact wpAny_pure (fin b h)
  |succ m ih=>
   intro i b e h
   rw[List.range'_succ,VK]
   refine wpAny_bind (wpAny_mono (turn i b (e▸Nat.lt_add_of_pos_right (Vx m)) h) (λr s' q=>?_) λY Y x=>x)
   obtain⟨rfl,b',rfl,h'⟩:=q
   exact ih (i+1) b' ((Nat.succ_add i m).trans e) h'
 exact go n 0 b (VC n) h
theorem Dq{id:String}{b:Array UInt8}{t:Tok}:Builtin.Bytes.takeBufferQuiet? id (.bytes b t) 0=pure (some (b,none)):=by
 unfold Builtin.Bytes.takeBufferQuiet? Builtin.Bytes.takeBuffer?
 rw[KBy.special_eq KBy.look_buffer,KBy.own_buffer]
 have:(0==Builtin.Bytes.fullReadOnly)=false:=by decide
 rw[this,KBy.buffer_eq]
 rfl
theorem joined_eq(l:List (Array UInt8)):Builtin.Bytes.joined #[] l=(l.map Wb).flatten.toArray:=by
 have:∀(l:List (Array UInt8)) (n:Nat) (a:Array UInt8),(l.zipIdx n).foldl (λout (x:Array UInt8×Nat)=>(if x.2>0 then out++#[] else out)++x.1) a=a++(l.map Wb).flatten.toArray:=λl=>by
  induction l with
  |nil=>intro n a;exact(Array.append_empty).symm
  |cons y l ih=>
   intro n a
   have e:(if n>0 then a++#[] else a)=a:=by split<;>first|exact Array.append_empty|rfl
   rw[List.zipIdx_cons,List.foldl_cons,ih,e]
   apply W3
   rw[VI,VI,VI,List.append_assoc];rfl
 exact(this l 0 #[]).trans Array.empty_append
structure T3(p:Value×Option Value):Prop where
 b:∃b t,p.1=.bytes b t
 n:p.2=none
theorem GH{M:Model}{A:Around}{E:Value->Shared->Prop}{s:Shared}{Q:Unit->Shared->Prop}{taken:List (Value×Option Value)}{keep:List Value}(ht:∀p∈taken,T3 p)(h:Q () s):wpAny M A (Builtin.Bytes.joinLetGo taken keep) Q E s:=by
 induction taken with
 |nil=>exact wpAny_pure h
 |cons p rest ih=>
  obtain⟨x,w⟩:=p
  cases (ht (x,w) Vc).n
  exact wpAny_bind (wpAny_letGo (ih λp hp=>ht p (Vd _ hp)))
theorem GI{vs:Array Value}(f:Value->Sem Fin)(k:Array Value->Sem Fin)(h:vs.size≠1):Builtin.Bytes.joinM.match_1 (λY=>Sem Fin) vs f k=k vs:=by
 obtain⟨l⟩:=vs
 cases l with
 |nil=>rfl
 |cons _ l=>cases l with
  |nil=>exact absurd rfl h
  |cons _ _=>rfl
structure JI(bs:List (Array UInt8))(i:Nat)(st:Array (Array UInt8)×List (Value×Option Value)):Prop where
 p:st.1.toList=bs.take i
 t:∀p∈st.2,T3 p
theorem sum_sizes:∀(l:List (Array UInt8)) (a:Nat),l.foldl (λx y=>x+y.size) a=a+(l.map WN).sum:=λl=>by
 induction l with
 |nil=>intro a;rfl
 |cons y l ih=>intro a;rw[List.foldl_cons,ih,Wn,List.sum_cons,W4]
theorem qw(bs:List (Array UInt8)):(bs.map Wb).flatten.toArray.size=(bs.map WN).sum:=by
 rw[Vz,List.length_flatten,WO];rfl
structure JP(vs:List Value)(bs:List (Array UInt8)):Prop where
 l:vs.length=bs.length
 at_:∀(k:Nat) x,vs[k]? =some x->∃b t,x=.bytes b t/\bs[k]? =some b
theorem JP.get{vs:Array Value}{bs:List (Array UInt8)}(h:JP vs.toList bs){k:Nat}(hk:k<vs.size):∃b t,vs.getD k .none=.bytes b t/\bs[k]? =some b:=by
 rw[Array.getD_eq_getD_getElem?,Wc hk]
 exact h.at_ k _ (Array.getElem?_toList.trans (Wc hk))
theorem Dr{b:Array UInt8}{bs:List (Array UInt8)}(hl:1=bs.length)(e:bs[0]? =some b):(bs.map Wb).flatten.toArray=b:=by
 cases bs with
 |nil=>exact absurd hl (VU 0)
 |cons x r=>cases r with
  |nil=>cases e;exact W3 (V5 _)
  |cons _ _=>exact absurd (Wq hl) (VU _).symm
theorem GJ{x:Addr}{t:Tok}{vs:Array Value}{bs:List (Array UInt8)}{Q:Value->Shared->Prop}(hl:i0 s.heap x vs)(hv:JP vs.toList bs)(hsz:(bs.map WN).sum≤10000)
  (h:∀t' k,Q (.bytes (bs.map Wb).flatten.toArray t') {s with toks:=k}):
  wpAny g.M A (call (.builtin "bytes.join") [.bytes #[] t,.ref x]) Q E s:=by
 refine e11 (id hl) λnn ho=>?_
 have hlen:vs.size=bs.length:=Array.length_toList.symm.trans hv.l
 refine wpAny_call_entry iW (typeIs_bytes _ _ _) lY ?_ (mR _ _)
 refine wpAny_bind (wpAny_of_eq (a:=(.bytes #[] t,.ref x)) rfl ?_)
 refine bm_if_true rfl (wpAny_bind (wpAny_bind (wpAny_typeOf hl.isList.typeIs (bm_if_true (by decide) (wpAny_pure (wpAny_bind (wpAny_seqItems ho rfl ?_)))))))
 refine bm_if_true rfl ?_
 by_cases h1:vs.size=1
 .refine e22 (hv.get (k:=0) (h1▸Nat.one_pos)) λb t' e1 e2=>?_
  obtain⟨y,rfl⟩:∃y,vs=#[y]:=Array.size_eq_one_iff.mp h1
  cases (show y=.bytes b t' from e1)
  refine wpAny_bind (wpAny_typeOf (typeIs_bytes _ _ _) (bm_if_true (by decide) (wpAny_bind (wpAny_rule (wpAny_pure ⟨.bytes b t',rfl,?_⟩)))))
  rw[<-Dr hlen e2]
  exact h t' s.toks
 .rw[GI _ _ h1]
  refine wpAny_bind (Q:=λfin s'=>∃v,fin=Fin.done (Flow.ret v)/\Q v s') ?_
  rw[Std.Legacy.Range.forIn_eq_forIn_range',show Std.Legacy.Range.size [0:vs.size]=vs.size by simp[Std.Legacy.Range.size]]
  refine Ac (JI bs) ?_ (λi st hi J=>?_) λst J=>?_
  .exact⟨rfl,λp hp=>absurd hp Vh⟩
  .refine e22 (hv.get hi) λb t' q1 q2=>?_
   refine wpAny_bind (wpAny_seqItems ho rfl ?_)
   refine bm_if_false ?_ ?_
   .rw[show(Builtin.Bytes.Kind.bytes==Builtin.Bytes.Kind.bytearray)=false from rfl,Bool.false_or,Xc]
    intro p hp
    refine e21 ((J.t p hp).b) λb t e=>?_
    rw[e];exact Ve
   rw[q1]
   refine wpAny_bind (wpAny_holding (wpAny_of_eq Dq (wpAny_bind (wpAny_seqItems ho rfl ?_))))
   refine bm_if_false (bne_self_eq_false _) (wpAny_pure ⟨rfl,_,rfl,?_,λp hp=>?_⟩)
   .rw[W8,J.p,List.take_add_one,q2];rfl
   .exact(List.mem_append.mp hp).elim (J.t p) λhp=>List.mem_singleton.mp hp▸⟨⟨_,_,rfl⟩,rfl⟩
  .have hst:st.1.toList=bs:=J.p.trans (hlen▸List.take_length)
   refine wpAny_bind (jW (bm_if_false (KBy.tooLong_not ?_) ?_))
   .rw[<-Array.foldl_toList,hst,sum_sizes,show(#[]:Array UInt8).size * _=0 from Nat.zero_mul _,VC]
    exact Va hsz (by decide)
   rw[hst,joined_eq]
   exact wpAny_bind (wpAny_mkBytes (wpAny_bind (wpAny_holding (wpAny_point (wpAny_bind (GH J.t (wpAny_pure ⟨_,rfl,h _ _⟩)))))) (qw bs▸dC (Va hsz (by decide))))
def tJ(g:Gb)(f:V->BF)(id:String):Prop:=∀{c:Cf} {A:Around} {E:Value->Shared->Prop} {h:H} {s:Shared} {a:V} {v:Value} {args:List V} {vs:List Value} {K:V->H->Bool},
 cV g c h s->VR g c a v->f a args h K=true->da g c args vs->wpAny g.M A (call (.builtin id) (v::vs)) (QV g c K) E s
theorem Ds:tJ g xo "list.append":=λ{c A E h s a v args vs K} I hv hk hl=>a1 (PL:=λvs=>wpAny g.M A (call (.builtin "list.append") (v::vs)) (QV g c K) E s) hk hl λw x hx hk=>
 kR (P:=λv=>wpAny g.M A (call (.builtin "list.append") [v,x]) (QV g c K) E s) hk hv λk Y hk=>eK hk (λhk=>Gi I hk λl ws e h1 h2 h3 hk=>cT hk λhc hk=>
   ou h1 (λh' i' hs'=>⟨.none,c,_,.refl c,I.setL (o':=.list (l++[w])) e i' hs' rfl ⟨_,i',by rw[W8];exact h2.append (.cons hx .nil),by rw[Vw];exact VM (eP hc)⟩,iI,hk⟩) (dC (Va (Vg (et h2)) (Va h3 (by decide))))) λhk=>
  MH I hk λo p e e1 h1 hk=>nU e1 h1 λws h1 h2 h3 h4 hn=>cT hk λhc hk=>
   ou h1 (λh' i' hs'=>⟨.none,c,_,.refl c,I.setL (o':=.lsU (p.1+1) (p.2+1)) e i' hs' hn ⟨_,i',by rw[Array.size_push];exact VM h2,by rw[Array.size_push];exact VM h3,VM (eP hc)⟩,iI,hk⟩) (dC (Va h3 (Va h4 (by decide))))
theorem Dt{l b:Addr}{items items2:Array Value}{Q:Value->Shared->Prop}(hl:i0 s.heap l items)(hb:i0 s.heap b items2)(hsz:items.size+items2.size≤10000)
  (hQ:∀h',i0 h' l (items++items2)->Vn l s.heap h'->Q .none {s with heap:=h'}):wpAny g.M A (call (.builtin "list.extend") [.ref l,.ref b]) Q E s:=by
 refine e11 (id hl) λn ho=>?_
 refine e11 hb λn2 ho2=>?_;clear hb
 have hz:=dC (Va hsz (by decide))
 have hc0:¬(!items.isEmpty&&Builtin.List.listTooLong (items.size+items2.size))=true:=λq=>absurd (of_decide_eq_true (Bool.and_eq_true_iff.mp q).2) (Nat.not_lt.mpr hz)
 exact call_meets PySem.F.slot_list_extend hl.isList.typeIs PySem.F.entry_list_extend (PySem.F.args_list_extend_2 _ _) (AutoSeq1.list_extend_list_list_0 l items n b items2 n2 hc0 (Va (Wd _ _) hz) (Nat.le_succ_of_le hz)) ⟨ho,ho2,hQ _ ⟨_,Vp _ ho rfl⟩ (Heap.SameBut.update ..)⟩
theorem KC{k:Nat}{o:Option O}{K:O->Bool}(I:cV g c h s)(hk:Fx (h.get k) o K=true):∃ob,h.get k=some ob/\ob.isNs=false:=
 eK hk (λhk=>Gi I hk λl Y e Y Y Y Y=>⟨_,e,rfl⟩) λhk=>MH I hk λo p e e1 h1 Y=>nU e1 h1 λY Y Y Y Y hn=>⟨o,e,hn⟩
theorem Du(W:SW g):tJ g (xp g.C) "list.extend":=λ{c A E h s a v args vs K} I hv hk hl=>a1 (PL:=λvs=>wpAny g.M A (call (.builtin "list.extend") (v::vs)) (QV g c K) E s) hk hl λw y hy hk=>
 cP hk λk e hk9=>by
  cases gx e
  refine e12 (KC I hk9) λob e hn=>?_
  refine xV (a:=.ref k) (P:=λv' y=>v'=v->wpAny g.M A (call (.builtin "list.extend") [v,y]) (QV g c K) E s) W I hv hy hk9 (λp xs q ys o h1 h2 h3 h4 hK e2=>?_) rfl
  have e3:v=.ref (c.ρ k):=hv.2
  subst e2
  cases e3
  exact Dt h1 h2 h3 λh' i' hs'=>⟨.none,c,_,.refl c,I.setL (o':=o) e i' hs' hn (i'.elim λnn hg=>h4.or (n:=nn) (by rw[hg,<-VI])),iI,hK⟩
theorem da.snoc{l:List V}{w:V}:∀{vs:List Value},da g c (l++[w]) vs->∃xs y,vs=xs++[y]/\da g c l xs/\VR g c w y:=by
 induction l with
 |nil=>
  intro vs h
  refine e23 h λy ys zq65 h1 h2=>?_;clear h
  cases zq65
  cases (show ys=[] from h2)
  exact⟨[],y,rfl,.nil,h1⟩
 |cons a l ih=>
  intro vs h
  refine e23 h λx xs zq66 h1 h2=>?_;clear h
  cases zq66
  refine e23 (ih h2) λys y zq67 h3 h4=>?_
  cases zq67
  exact⟨x::ys,y,rfl,.cons h1 h3,h4⟩
theorem GK{C:Prop}{l:List V}{F:V->List V->Bool}(h:M7 l.reverse F=true)(f:∀w r,l=r++[w]->F w r.reverse=true->C):C:=by
 cases e:l.reverse with
 |nil=>rw[e] at h;exact ft h
 |cons w r=>
  rw[e] at h
  refine f w r.reverse ?_ (by rw[Ws];exact h)
  rw[<-Ws l,e,Xa]
theorem NP{x:Addr}{xs:List Value}{y:Value}{Q:Value->Shared->Prop}(hl:i0 s.heap x ⟨xs++[y]⟩)(hz:xs.length+1≤sizeLine)
  (hQ:∀h',i0 h' x ⟨xs⟩->Vn x s.heap h'->Q y {s with heap:=h'}):wpAny g.M A (call (.builtin "list.pop") [.ref x]) Q E s:=by
 refine e11 (id hl) λnn ho=>?_
 have e0:(⟨xs++[y]⟩:Array Value).size - 1=xs.length:=by rw[Vz,Vw];rfl
 have hy:(⟨xs++[y]⟩:Array Value)[(⟨xs++[y]⟩:Array Value).size - 1]? =some y:=by
  rw[e0,List.getElem?_toArray,List.getElem?_append_right (Vm _),Nat.sub_self];rfl
 have he:(⟨xs++[y]⟩:Array Value).eraseIdxIfInBounds ((⟨xs++[y]⟩:Array Value).size - 1)=⟨xs⟩:=by
  rw[e0]
  have hlt:xs.length<(⟨xs++[y]⟩:Array Value).size:=by rw[Vz,Vw];exact VH _
  refine(dif_pos hlt).trans (W3 ?_)
  rw[Array.toList_eraseIdx,List.eraseIdx_append_of_length_le (Vm _),Nat.sub_self]
  exact V5 xs
 have e1:_=some ({cls:=.type "list",dict:=none,data:=.seq ((⟨xs++[y]⟩:Array Value).eraseIdxIfInBounds ((⟨xs++[y]⟩:Array Value).size - 1)) _,slots:=#[]}:Obj):=Vp (W6 λl=>l.eraseIdxIfInBounds ((⟨xs++[y]⟩:Array Value).size - 1)) ho rfl
 rw[he] at e1
 have i':i0 _ x ⟨xs⟩:=⟨_,e1⟩
 exact call_meets PySem.F.slot_list_pop hl.isList.typeIs PySem.F.entry_list_pop (PySem.F.args_list_pop_1 _) (MeetsSeq.list_pop_last x ⟨xs++[y]⟩ nn y hy (by rw[Vz,Vw];exact hz)) ⟨ho,hQ _ i' (Heap.SameBut.update ..)⟩
theorem NQ:tJ g M9 "list.pop":=λ{c A E h s a v args vs K} I hv hk hl=>a0 (PL:=λvs=>wpAny g.M A (call (.builtin "list.pop") (v::vs)) (QV g c K) E s) hk hl λhk=>
 kR (P:=λv=>wpAny g.M A (call (.builtin "list.pop") [v]) (QV g c K) E s) hk hv λk Y hk=>Gi I hk λl ws e h1 h2 h3 hk=>GK hk λw r el hk9=>by
  cases el
  refine e23 h2.snoc λxs y e1 r1 r2=>?_
  obtain⟨ws⟩:=ws
  cases (show ws=xs++[y] from e1)
  have hz:xs.length+1≤10000:=by rw[r1.length];exact(Vw (as:=r) (bs:=[w])).symm.trans rfl▸h3
  exact NP h1 (dC (Va hz (by decide))) λh' i' hs'=>⟨w,c,_,.refl c,I.setL (o':=.list r.reverse.reverse) e i' hs' rfl ⟨_,i',(Ws r).symm▸r1,by rw[Ws,<-r1.length];exact Nat.le_of_succ_le hz⟩,r2,hk9⟩
theorem GL{args:List V}{vs:List Value}{F:Nat->V->Bool}{P:List Value->Prop}(h:M8 args F=true)(hl:da g c args vs)
  (f:∀(x:Str) t d,cd x≠0->F (cd x) d=true->(d=.none->P [.str x t])/\∀dv,VR g c d dv->P [.str x t,dv]):P vs:=by
 cases args with
 |nil=>exact ft h
 |cons k r=>
  refine e23 hl λy ys zq68 h1 h2=>?_;clear hl
  cases zq68
  refine kS (P:=λy=>P (y::ys)) h h1 λx t x1 Y hk=>?_
  cases r with
  |nil=>cases (show ys=[] from h2);exact(f x t .none x1 hk).1 rfl
  |cons d r=>
   refine e23 h2 λz zs zq69 h3 h4=>?_;clear h2
   cases zq69
   exact a0 (PL:=λzs=>P (.str x t::z::zs)) hk h4 λhk=>(f x t d x1 hk).2 z h3
theorem yo{l:List (Nat×V)}{kvs:List (Str×Value)}{x:Str}{d:V}{dv:Value}(w3:PR g c l kvs)(hx:cd x≠0)(hd:VR g c d dv):VR g c ((eJ l (cd x)).getD d) ((valueAt kvs x).getD dv):=by
 refine e02 (w3.at hx) λi1 i2=>?_
 cases e:eJ l (cd x) with
 |none=>rw[i2 e];exact hd
 |some a=>obtain⟨u,e2,hu⟩:=i1 a e;rw[e2];exact hu
theorem NS(W:SW g):tJ g (Na g.C) "dict.get":=λ{c A E h s a v args vs K} I hv hk hl=>kD (P:=λv=>wpAny g.M A (call (.builtin "dict.get") (v::vs)) (QV g c K) E s) W I hk hv λl x kvs w1 w2 w3 w4 hk=>
 GL (P:=λvs=>wpAny g.M A (call (.builtin "dict.get") (.ref x::vs)) (QV g c K) E s) hk hl λy t d hy hk=>
  ⟨λe=>call_meetsIn PySem.F.slot_dict_get w1.typeIs PySem.F.entry_dict_get (PySem.F.args_dict_get_2 _ _) (meets_dict_get (PySem.strKind g.pr g.wd) x oj w2) ⟨_,w1.mapOf,.at (I.tok _) (yo w3 hy (e▸iI)) hk⟩,
   λdv hd=>call_meetsIn PySem.F.slot_dict_get w1.typeIs PySem.F.entry_dict_get (PySem.F.args_dict_get_3 _ _ _) (meets_dict_get_default (PySem.strKind g.pr g.wd) x oj w2 dv) ⟨_,w1.mapOf,.at (I.tok _) (yo w3 hy hd) hk⟩⟩
structure SH(b:List UInt8)(m:Int)(j:Nat):Prop where
 at_:∃x,b[j]? =some x/\(x.toNat:Int)=m
 no:∀q,q<j->∀y,b[q]? =some y->(y.toNat:Int)≠m
theorem Dv{σ:Nat->Int}{m:Int}{bs:List AI}:∀{b:List UInt8} {k i:Nat},BR σ bs b->sJ bs m k=some i->∃j,i=k+j/\SH b m j:=by
 induction bs with
 |nil=>intro b k i Y e;exact nn e
 |cons a r ih=>
  intro b k i h e
  refine e23 h λx t zq70 hx hr=>?_;clear h
  cases zq70
  exact cW e λq e1 e=>by
   have hm:=yb e1 (rb (show dN σ (.c m) m from rfl) hx)
   cases q with
   |true=>cases e;exact⟨0,rfl,⟨x,rfl,(of_decide_eq_true hm).symm⟩,λq hq=>absurd hq (Vq _)⟩
   |false=>
    refine e12 (ih hr e) λj zq71 h=>?_
    cases zq71
    refine⟨j+1,Nat.succ_add_eq_add_succ k j,h.at_,λq hq y hy=>?_⟩
    cases q with
    |zero=>cases hy;exact Ne.symm (of_decide_eq_false hm)
    |succ q=>exact h.no q (VP hq) y hy
theorem GM{bs:List AI}{ns:List Int}:∀{is:List Int} {m:Int},JF bs ns=some is->m∈ns->∃i:Nat,sJ bs m 0=some i/\(i:Int)∈is:=by
 induction ns with
 |nil=>intro is m Y h;exact absurd h Vh
 |cons x r ih=>
  intro is m e h
  exact cW e λi e1 e=>cW e λl e2 e3=>by
   cases e3
   cases h with
   |head=>exact⟨i,e1,Vc⟩
   |tail _ h=>exact(ih e2 h).elim λj q=>⟨j,q.1,Vd _ q.2⟩
theorem tK{l:List AI}{b:Array UInt8}{t u:Tok}{m:Int}{i:Nat}{z:AI}{K:V->H->Bool}(I:cV g c h s)(hb:BR g.σ l b.toList)(e:sJ l m 0=some i)(hz:dN g.σ z (i:Int))(hk:K (.int z) h=true):
  wpAny g.M A (call (.builtin "bytes.index") [.bytes b t,.int m u]) (QV g c K) E s:=by
 refine e12 (Dv hb e) λj e2 h=>?_
 cases (e2.trans (VC j))
 refine e12 h.at_ λx h1 h2=>?_
 have ex:m.toNat.toUInt8=x:=by rw[<-h2];exact UInt8.ofNat_toNat
 refine Dp (j:=i) ⟨h2▸VF _,h2▸Int.ofNat_lt.mpr x.toNat_lt⟩ ?_ (λq hq e=>?_) (.ti I hz hk)
 .rw[ex,<-Wk];exact h1
 .rw[ex,<-Wk] at e
  exact h.no q hq x e h2
theorem GN:tJ g Bm "bytes.index":=λ{c A E h s a v args vs K} I hv hk hl=>kB (P:=λv=>wpAny g.M A (call (.builtin "bytes.index") (v::vs)) (QV g c K) E s) hk hv λl b t hb hk=>
 a1 (PL:=λvs=>wpAny g.M A (call (.builtin "bytes.index") (.bytes b t::vs)) (QV g c K) E s) hk hl λw y hy hk=>kI (P:=λy=>wpAny g.M A (call (.builtin "bytes.index") [.bytes b t,y]) (QV g c K) E s) hk hy λz m u hz hk=>
  eK hk (λhk=>cP hk λns e hk=>cP hk λis e1 hk=>(GM e1 (jm e▸hz:dN g.σ (.st ns) m)).elim λi q=>tK I hb q.1 (show dN g.σ (.st is) _ from q.2) hk) λhk=>
   cP hk λn e hk=>cP hk λi e1 hk=>tK I hb (hz.cst e▸e1) (show dN g.σ (.c i) _ from rfl) hk
theorem Dw{l:List V}:∀{vs:List Value} {bs:List AI},da g c l vs->Bl l=some bs->∃xs:List (Array UInt8),JP vs xs/\BR g.σ bs (xs.map Wb).flatten:=by
 induction l with
 |nil=>intro vs bs h e;cases e;cases (show vs=[] from h);exact⟨[],⟨rfl,λY Y q=>nomatch q⟩,rfl⟩
 |cons v r ih=>
  intro vs bs h e
  refine e23 h λx xs zq72 h1 h2=>?_;clear h
  cases zq72
  exact cW e λl e1 e=>cW e λy e2 e3=>by
   cases d6 e1
   cases e3
   refine e22 h1 λb t zq73 hb=>?_;clear h1
   cases zq73
   refine e12 (ih h2 e2) λys q1 q2=>?_
   refine⟨b::ys,⟨congrArg (· +1) q1.l,λk z hz=>?_⟩,hb.append q2⟩
   cases k with
   |zero=>cases hz;exact⟨b,t,rfl,rfl⟩
   |succ k=>exact q1.at_ k z hz
theorem KD(W:SW g):tJ g (Im g.C) "bytes.join":=λ{c A E h s a v args vs K} I hv hk hl=>kB (P:=λv=>wpAny g.M A (call (.builtin "bytes.join") (v::vs)) (QV g c K) E s) hk hv λl b t hb hk=>cT hk λhn hk=>
 a1 (PL:=λvs=>wpAny g.M A (call (.builtin "bytes.join") (.bytes b t::vs)) (QV g c K) E s) hk hl λw y hy hk=>kL (P:=λy=>wpAny g.M A (call (.builtin "bytes.join") [.bytes b t,y]) (QV g c K) E s) W I hk hy λxs x ws w1 w2 w3 hk=>
  cP hk λbs e1 hk=>cT hk λhc hk9=>(Dw w2 e1).elim λys q=>by
   cases Gg hn
   cases Array.toList_eq_nil_iff.mp (show b.toList=[] from hb)
   have hz:(ys.map WN).sum=bs.length:=(qw ys).symm.trans (BR.size (b:=(ys.map Wb).flatten.toArray) q.2)
   exact GJ w1 q.1 (hz▸eP hc) λt' k=>.tb I q.2 hk9
end
open PySem.Spec PySem.Builtin PySem.Builtin.Str
theorem Dx{g:Gb}{A:Around}{E:Value->Shared->Prop}{s:Shared}{x y:PySem.Str}{t u:Tok}{Q:Value->Shared->Prop}(hy:(y.length==0)=false)(hsz:x.length≤1000)
  (h:∀l k,l.map (·.1)=Txt.split x y->Q (.ref s.heap.objs.size) {s with heap:=s.heap.push {cls:=.type "list",data:=.seq (strValues l).toArray},toks:=k}):
  wpAny g.M A (call (.builtin "str.split") [.str x t,.str y u]) Q E s:=by
 have hn:(partsBetween x (occurrences x y 0 x.length (x.length+1)) y.length).length≤sizeLine:=by
  have e1:=StrLaws.occ_length_le x y 0 x.length (x.length+1)
  rw[length_partsBetween,sizeLine_eq];omega
 cases h1:(decide (x.length<y.length)||decide (PySem.Builtin.Str.strKind x<PySem.Builtin.Str.strKind y))
 .cases hf:(occurrences x y 0 x.length (x.length+1)).isEmpty
  .refine call_meets F.slot_str_split (typeIs_str _ _ _) F.entry_str_split (F.args_str_split_2 _ _) (meets_str_split_sep x y t u h1 hy hf (by rw[sizeLine_eq];omega) hn) ?_
   refine(?_:wants Q E _ {s with toks:=_,heap:=s.heap.push {cls:=.type "list",data:=.seq (strsFrom s.toks (partsBetween x (occurrences x y 0 x.length (x.length+1)) y.length)).toArray}})
   rw[strsFrom_eq]
   exact h (numbered s.toks _) _ ((numbered_texts _ _).trans ((if_neg (ne_true_of_eq_false h1)).trans (if_neg (ne_true_of_eq_false hf))).symm)
  .exact call_meets F.slot_str_split (typeIs_str _ _ _) F.entry_str_split (F.args_str_split_2 _ _) (meets_str_split_not_found x y t u h1 hy hf)
    (h [(x,t)] s.toks ((if_neg (ne_true_of_eq_false h1)).trans (if_pos hf)).symm)
 .exact call_meets F.slot_str_split (typeIs_str _ _ _) F.entry_str_split (F.args_str_split_2 _ _) (meets_str_split_cannot_occur x y t u h1)
   (h [(x,t)] s.toks (if_pos h1).symm)
variable{g:Gb}{c c':Cf}
section
variable{A:Around}{E:Value->Shared->Prop}{h:H}{s:Shared}{n:Nat}
def WD(g:Gb):Prop:=∀{x:Str} {ws:List Nat},cd x≠0->g.C.words (cd x)=some ws->(Txt.split x (U8 " ")).map cd=ws/\(∀y∈Txt.split x (U8 " "),cd y≠0/\y.length≤1000)/\ws.length≤10000
theorem qx:∀{l:List (Str×Tok)} {ws:List Nat},l.map (λp=>cd p.1)=ws->(∀p∈l,cd p.1≠0/\p.1.length≤1000)->da g c (ix ws) (strValues l)
 |[],_,e,_=>e▸da.nil
 |p::l,_,e,h=>e▸da.cons (Kh (h p Vc).1 (h p Vc).2) (qx rfl λq hq=>h q (Vd _ hq))
theorem Dy(D:WD g){x z:Str}{t u:Tok}{ws:List Nat}{K:V->H->Bool}(I:cV g c h s)(x1:cd x≠0)(x2:x.length≤1000)(z1:cd z≠0)(hz:U9 (cd z) 288=true)(e:g.C.words (cd x)=some ws)(hk:K (.ref h.length) (h.push (.list (ix ws)))=true):
  wpAny g.M A (call (.builtin "str.split") [.str x t,.str z u]) (QV g c K) E s:=by
 cases en z1 (show cd z=cd (U8 " ") from cX hz)
 refine e03 (D x1 e) λq1 q2 q3=>?_
 refine Dx (by decide) x2 λl k' hl=>?_
 have e2:l.map (λp=>cd p.1)=ws:=by rw[<-q1,<-hl,WO];rfl
 have r:=qx (g:=g) (c:=c) e2 λp hp=>q2 p.1 (by rw[<-hl];exact Wu hp)
 obtain⟨c',e',I',r⟩:=kE (l:=ix ws) (vs:=strValues l) I r (by rw[strsOf_len];exact q3)
 exact⟨_,c',_,e',I'.tok k',r,hk⟩
theorem GO(D:WD g):tJ g (Bn g.C) "str.split":=λ{c A E h s a v args vs K} I hv hk hl=>kS (P:=λv=>wpAny g.M A (call (.builtin "str.split") (v::vs)) (QV g c K) E s) hk hv λx t x1 x2 hk=>
 a1 (PL:=λvs=>wpAny g.M A (call (.builtin "str.split") (.str x t::vs)) (QV g c K) E s) hk hl λw y hy hk=>kS (P:=λy=>wpAny g.M A (call (.builtin "str.split") [.str x t,y]) (QV g c K) E s) hk hy λz u z1 Y hk=>
  cT hk λhz hk=>cP hk λws e hk=>Dy D I x1 x2 z1 hz e hk
end
end
section
set_option tactic.hygienic true
variable{g:Gb}{c c':Cf}
structure LF(g:Gb):Prop where
 hd:CodeHd g.B g.lc g.P
 glob:∃mg,g.B.Ns mainGlobals mg/\g.B.BuiltinsAt mg g.P
 ne:mainGlobals≠g.P
theorem pO{pos q:Pos}{cv v:Value}(l:List Value)(h:TriplesOk l)(e:codeAmong pos (l++[rawInt q.line,rawInt q.col,cv])=some v):codeAmong pos l=some v\/v=cv:=by
 fun_induction TriplesOk l with
 |case1=>
  simp only[List.nil_append,rawInt,codeAmong] at e
  split at e
  .cases e;exact .inr rfl
  .cases e
 |case2 a t b u x rest ih=>
  simp only[List.cons_append,codeAmong] at e⊢
  split at e
  .rename_i hc;rw[if_pos hc];exact .inl e
  .rename_i hc;rw[if_neg hc];exact ih h e
 |case3 l h1 h2=>exact h.elim
section
variable{h:H}{s:Shared}
theorem cV.tabDat{h':Heap}{a:Addr}{o:Obj}(I:cV g c h s)(k:∀b o,b≠g.P->s.heap.get? b=some o->h'.get? b=some o)(fa:gZ g c a)(ha:h'.get? a=some o)(T:kA g (c.datAt a o) h')(t:Nat):cV g (c.datAt a o) h {s with heap:=h',toks:=t}:=by
 have al:∀b,b≠a->Al g c b->Al g (c.datAt a o) b:=λb hb x=>⟨x.R,x.B,x.T,λob q=>q.elim (x.D ob) λq=>hb q.1⟩
 refine⟨I.len,λi ob hi=>?_,λi hi=>?_,λb vs e=>?_,λb ob hd=>?_,λb ob e=>k _ _ (λq=>I.offP.R ob (q▸e)) (I.rest b ob e),λb ob e=>?_,λb ob e=>k _ _ (λq=>by have:=I.offP.B;rw[q,this] at e;cases e) (I.base b ob e),I.inj,λi hi b hb=>?_,λb ob hb=>let⟨x,y⟩:=I.offS b ob hb;⟨al b (λq=>fa.S ob (q▸hb)) x,y⟩,I.sam,I.t0,I.m0,I.ns,T,al _ (Ne.symm fa.P) I.offP,I.sm,⟨I.rT.1,λb ob ob' q=>q.elim (λq=>I.rT.2 b ob ob' q) λq=>q.1▸fa.al.R ob'⟩⟩
 .refine e02 (I.obj i ob hi) λh1 h2=>?_
  exact⟨h1,(h2.at (λob=>k _ ob (I.off i h1 _ (.inl rfl)).2.2) (λob=>k _ ob (I.off i h1 _ (.inr rfl)).2.2)).ext (dz.datAt c a o)⟩
 .refine e02 (I.pres i hi) λzq74 zq75=>?_
  refine e11 zq74 λo h1=>?_
  refine e11 zq75 λo' h2=>?_
  exact⟨⟨o,k _ _ (I.off i hi _ (.inl rfl)).2.2 h1⟩,⟨o',k _ _ (I.off i hi _ (.inr rfl)).2.2 h2⟩⟩
 .refine e12 (I.tup b vs e) λo h1 r=>?_
  exact⟨o,k _ _ (λq=>I.offP.T vs (q▸e)) h1,r⟩
 .rcases hd with hd|⟨rfl,rfl⟩
  .exact k _ _ (λq=>I.offP.D ob (q▸hd)) (I.dat b ob hd)
  .exact ha
 .refine e11 (I.fra b ob e) λsl h1=>?_
  exact⟨sl,k _ _ (I.offS b ob e).2 h1⟩
 .refine e02 (I.off i hi b hb) λx1 x2=>?_
  exact⟨al b (λq=>hb.elim (λr=>(fa.ne i hi).1 (q.symm.trans r)) λr=>(fa.ne i hi).2 (q.symm.trans r)) x1,x2⟩
theorem GP{as:List Arg}{x:Str}(h:(match as with|[]=>none|a::r=>Nf a r)=some x):∃an,as=[⟨x,none,an⟩]:=by
 cases as with
 |nil=>cases h
 |cons a r=>
  obtain⟨y,an,p⟩:=a
  cases an with
  |some _=>cases h
  |none=>cases r with
   |nil=>exact⟨p,by rw[<-U7 (show some y=some x from h)]⟩
   |cons _ _=>cases h
theorem GQ{b:Bool}{o:Option Str}{x:Str}(h:(match b with|true=>o|false=>none)=some x):b=true/\o=some x:=by
 cases b with
 |true=>exact⟨rfl,h⟩
 |false=>cases h
theorem NT{ar:Arguments}{a:List Arg}{b:List Arg}{c:Option Arg}{d:List Arg}{e:List (Option Expr)}{f:Option Arg}{g:List Expr}(h1:ar.posonlyargs=a)(h2:ar.args=b)(h3:ar.vararg=c)(h4:ar.kwonlyargs=d)(h5:ar.kw_defaults=e)(h6:ar.kwarg=f)(h7:ar.defaults=g):ar=⟨a,b,c,d,e,f,g⟩:=by
 subst h1 h2 h3 h4 h5 h6 h7;cases ar with|mk=>rfl
theorem GR{ar:Arguments}{x:Str}(h:Ng ar=some x):∃an,ar=⟨[],[⟨x,none,an⟩],none,[],[],none,[]⟩:=by
 refine e02 (GQ h) λhb h=>?_
 refine e11 (GP h) λan h0=>?_
 refine e02 (Bool.and_eq_true_iff.mp hb) λh1 hb=>?_
 refine e02 (Bool.and_eq_true_iff.mp hb) λh2 hb=>?_
 refine e02 (Bool.and_eq_true_iff.mp hb) λh3 hb=>?_
 refine e02 (Bool.and_eq_true_iff.mp hb) λh4 hb=>?_
 refine e02 (Bool.and_eq_true_iff.mp hb) λh5 h6=>?_
 exact⟨an,NT (List.isEmpty_iff.mp h1) h0 (Option.isNone_iff_eq_none.mp h2) (List.isEmpty_iff.mp h3) (List.isEmpty_iff.mp h4) (Option.isNone_iff_eq_none.mp h5) (List.isEmpty_iff.mp h6)⟩
theorem KE(LFg:LF g){A:Around}{E:Value->Shared->Prop}{fr:Fr}{env:Env}{ar:Arguments}{b:Expr}{sc:Scope}{p:Pos}{K:V->H->Bool}(f:FR g c A fr env)(I:cV g c h s)(hk:u6 fr ar b sc h K=true):
  wpAny g.M A (eval (.Lambda ar b sc p) env) (QV g c K) E s:=by
 refine cP hk λx ex hk=>F5 hk λhl hx hfree hsc hK=>?_
 refine e11 (GR ex) λan zq76=>?_
 cases zq76
 .·have hsc:=qo hsc
   refine e12 (oz f hfree) λcl hcl hcr=>?_
   refine e02 (f.lam hl) λhcode hq=>?_
   refine e12 LFg.glob λmg hg hb=>?_
   refine e13 I.tab λps hP ht hps=>?_
   have st:=I.base
   have hb':s.heap.BuiltinsAt mg g.P:=by
    refine e26 hb λbm o b1 b2 b3 b4 b5 r=>?_;clear hb
    exact⟨bm,o,b1,b2,b3,b4,st _ _ b5,r⟩
   refine kla_eval rfl ?_
   have fin:∀{ag:Cf} {h':Heap} {tk:Nat} {cv ctv:Value},dz c ag->cV g ag h {s with heap:=h',toks:=tk}->(∃c' oc vs t,cv=.ref c'/\ag.D c' oc/\oc.data=.fields vs/\vs[1]? =some (.str g.lq t))->
     QV g c K (.ref h'.objs.size) {s with heap:=h'.push {cls:=.type "function",data:=.func (kla_fn "<lambda>" (env.qual++"<lambda>") ⟨[],[⟨x,none,an⟩],none,[],[],none,[]⟩ b sc cl ((mg "__name__").getD .none) cv ctv)},toks:=tk}:=λ{ag h' tk cv ctv} ac af hcv=>by
    obtain⟨ao,N⟩:=af.push1 false (o:=.lam (cd x) b (dG sc.names) fr.cells) (ob:={cls:=.type "function",data:=.func (kla_fn "<lambda>" (env.qual++"<lambda>") ⟨[],[⟨x,none,an⟩],none,[],[],none,[]⟩ b sc cl ((mg "__name__").getD .none) cv ctv)}) rfl
     (λh'' ga=>⟨_,_,ga,rfl,rfl,⟨⟨x,none,an,rfl,rfl⟩,rfl,rfl,hsc.k,hsc.co,hsc.ge,rfl,rfl,rfl,rfl,λq=>nn (hsc.cls.symm.trans q),hsc.dbg,λq=>nn (hsc.cdi.symm.trans q)⟩,hcr.ext ac,by
      refine e44 hcv λc' oc vs t q1 q2 q3 q4=>?_;clear hcv
      exact⟨c',oc,vs,t,q1,q2,q3,by rw[q4];exact congrArg (λz=>some (Value.str z t)) hq.symm⟩⟩) ft
    exact⟨_,ao,_,ac.trans N.e,N.i,N.v,hK⟩
   cases hca:codeAmong p ps.toList with
   |some cv=>
    refine kla_makeFunctionHit hcl f.glob (hg.keeps st) hcode (LFg.hd.keeps st) hP ht hca hb' λctv h' tk k' Y=>?_
    have af:=I.keep (s':={s with heap:=h',toks:=tk}) k' ⟨rfl,rfl,rfl⟩
    exact fin (.refl c) af (hps p cv hca)
   |none=>
    refine kla_makeFunction hcl f.glob (hg.keeps st) hcode (LFg.hd.keeps st) hP ht hca LFg.ne hb' λc' ctv h' tk hx hge hlt hrec htab=>?_
    refine e44 hrec λc'' oc vs t q1 q2 q3 q4=>?_;clear hrec
    cases q1
    have fa:gZ g c c':=I.free (Vo hge)
    have T1:kA g (c.datAt c' oc) h':=by
     refine⟨ps++#[rawInt p.line,rawInt p.col,.ref c'],htab,?_,λpos cv e=>?_⟩
     .rw[VI];exact TriplesOk_snoc _ _ _ _ ht
     .rw[VI] at e
      rcases pO ps.toList ht e with e|rfl
      .refine e43 (hps pos cv e) λa1 a2 a3 a4 a5 a6 a7=>?_
       exact⟨a1,a2,a3,a4,a5,.inl a6,a7⟩
      .exact⟨c',oc,vs,t,rfl,.inr ⟨rfl,rfl⟩,q3,by rw[q4];exact congrArg (λz=>some (Value.str z t)) hq⟩
    have af:=I.tabDat (λb o hb e=>hx b o hb e) fa q2 T1 tk
    exact fin (dz.datAt c c' oc) af ⟨c',oc,vs,t,rfl,.inr ⟨rfl,rfl⟩,q3,by rw[q4];exact congrArg (λz=>some (Value.str z t)) hq⟩
end
end
noncomputable def jH:List (Str×Value)->List (Str×Value)->List (Str×Value)
 |r,[]=>r
 |r,(n,d)::xs=>jH (if(r.lookup n).isNone=true then r++[(n,d)] else r) xs
theorem Dz{f:Str×Value->List (Str×Value)->Sem (ForInStep (List (Str×Value)))}(hf:∀n d r,f (n,d) r=if(r.lookup n).isNone=true then pure (.yield (r++[(n,d)])) else pure (.yield r)):
  ∀(xs r:List (Str×Value)),forIn xs r f=pure (jH r xs)
 |[],r=>rfl
 |(n,d)::xs,r=>by
  rw[VK,hf]
  unfold jH
  split
  .rw[pure_bind];exact Dz hf xs _
  .rw[pure_bind];exact Dz hf xs _
theorem yp:∀{xs r:List (Str×Value)},(∀p∈xs,(r.lookup p.1).isNone=false)->jH r xs=r
 |[],_,_=>rfl
 |(n,d)::xs,r,h=>by
  unfold jH
  rw[if_neg (by rw[h (n,d) Vc];decide)]
  exact yp λp hp=>h p (Vd _ hp)
theorem yq:∀{xs r:List (Str×Value)},(∀p∈xs,r.lookup p.1=none)->(xs.map (·.1)).Nodup->jH r xs=r++xs
 |[],r,_,_=>by simp[jH]
 |(n,d)::xs,r,h,hn=>by
  unfold jH
  rw[if_pos (by rw[h (n,d) Vc];rfl)]
  refine e02 (List.nodup_cons.mp hn) λh1 h2=>?_
  rw[yq (λp hp=>?_) h2]
  .simp
  .rw[List.lookup_append,h p (Vd _ hp),Option.none_or]
   have:p.1≠n:=λe=>h1 (List.mem_map.mpr ⟨p,hp,e⟩)
   have:(p.1==n)=false:=by simpa using this
   rw[Vv,this];rfl
theorem ext_append:∀{xs ys r:List (Str×Value)},jH r (xs++ys)=jH (jH r xs) ys
 |[],_,_=>rfl
 |(n,d)::xs,ys,r=>by
  refine(?_:jH _ (xs++ys)=_)
  rw[ext_append];rfl
theorem oR:∀{names:List Str} {ws:List Value} {n:Str},n∈names->names.length≤ws.length->((names.zip ws).lookup n).isNone=false
 |a::l,w::t,n,h,hl=>by
  rw[W5,Vv]
  split
  .rfl
  .rename_i q
   rcases List.mem_cons.mp h with rfl|h
   .simp at q
   .exact oR h (by simpa using hl)
 |_::_,[],_,_,hl=>by simp at hl
theorem yr:∀{names:List Str} {ws:List Value} {n:Str},n∉names->(names.zip ws).lookup n=none
 |[],_,_,_=>rfl
 |_::_,[],_,_=>rfl
 |a::l,w::t,n,h=>by
  rw[W5,Vv]
  have h:=not_or.mp (λq=>h (List.mem_cons.mpr q))
  have:(n==a)=false:=by simpa using h.1
  rw[this]
  exact yr h.2
theorem tM{α β:Type}{f g:α->Option β}:∀{l:List α},(∀a∈l,f a=g a)->l.filterMap f=l.filterMap g
 |[],_=>rfl
 |a::l,h=>by rw[Wv,Wv,h a Vc,tM λb hb=>h b (Vd _ hb)]
theorem DA:∀{names:List Str} {ws:List Value},names.Nodup->names.length=ws.length->(names.filterMap λn=>((names.zip ws).lookup n).map λx=>(n,x))=names.zip ws
 |[],_,_,_=>rfl
 |_::_,[],_,hl=>by simp at hl
 |a::l,w::t,hn,hl=>by
  refine e02 (List.nodup_cons.mp hn) λh1 h2=>?_
  rw[Wv,W5,Vv,beq_self_eq_true]
  simp only[Option.map_some]
  congr 1
  refine Eq.trans ?_ (DA h2 (by simpa using hl))
  refine tM λn hm=>?_
  rw[Vv]
  have:(n==a)=false:=by
   have:n≠a:=λe=>h1 (e▸hm)
   simpa using this
  rw[this]
theorem tN{names:List Str}{vs x:List Value}(hv:(names.take vs.length).length=vs.length):names.zip (vs++x)=(names.take vs.length).zip vs++(names.drop vs.length).zip x:=by
 have q:=List.zip_append (l₁:=names.take vs.length) (r₁:=names.drop vs.length) (l₂:=vs) (r₂:=x) hv
 rw[VX] at q
 exact q
theorem tP{names:List Str}{vs:List Value}(hv:(names.take vs.length).length=vs.length):names.zip vs=(names.take vs.length).zip vs:=by
 have q:=tN (x:=[]) hv
 rw[V5,List.zip_nil_right,V5] at q
 exact q
theorem KF{names:List Str}{vs dl:List Value}{k j:Nat}(hn:names.Nodup)(h1:names.length=k+dl.length)(h2:vs.length=k+j)(h3:j≤dl.length):jH (names.zip vs) ((names.drop k).zip dl)=names.zip (vs++dl.drop j):=by
 have hv:(names.take vs.length).length=vs.length:=List.length_take_of_le (by rw[h1,h2];exact VO h3 k)
 have e1:names.drop k=(names.drop k).take j++names.drop vs.length:=by
  rw[h2,<-List.drop_drop]
  exact(VX ..).symm
 have e5:(names.drop k).take j=(names.take vs.length).drop k:=by rw[h2,List.drop_take,WL]
 have e3:(names.drop k).zip dl=((names.drop k).take j).zip (dl.take j)++(names.drop vs.length).zip (dl.drop j):=by
  have l1:((names.drop k).take j).length=(dl.take j).length:=by rw[List.length_take,List.length_take,VS,h1,WL]
  have q:=List.zip_append (l₁:=(names.drop k).take j) (r₁:=names.drop vs.length) (l₂:=dl.take j) (r₂:=dl.drop j) l1
  rw[<-e1,VX] at q
  exact q
 have e4:=tP hv
 have nd:(names.take vs.length++names.drop vs.length).Nodup:=by rw[VX];exact hn
 have o1:jH (names.zip vs) (((names.drop k).take j).zip (dl.take j))=names.zip vs:=yp λp hp=>by
  have q:=(List.of_mem_zip hp).1
  rw[e5] at q
  rw[e4]
  exact oR (List.mem_of_mem_drop q) (Vg hv)
 have n1:(List.map (·.1) ((names.drop vs.length).zip (dl.drop j))).Nodup:=by
  rw[List.map_fst_zip (by rw[VS,VS,h1,h2,Nat.add_sub_add_left];exact Vm _)]
  exact(List.nodup_append.mp nd).2.1
 have n2:∀p∈(names.drop vs.length).zip (dl.drop j),(names.zip vs).lookup p.1=none:=λp hp=>by
  rw[e4]
  exact yr λq=>(List.nodup_append.mp nd).2.2 _ q _ (List.of_mem_zip hp).1 rfl
 rw[e3,ext_append,o1,yq n2 n1,tN hv,e4]
theorem GS{names:List Str}{vs dl:List Value}(hn:names.Nodup)(h1:vs.length≤names.length)(h2:names.length≤vs.length+dl.length)(h3:dl.length≤names.length):
  jH (names.zip vs) ((names.drop (names.length - dl.length)).zip dl)=names.zip (vs++dl.drop (vs.length+dl.length - names.length)):=by
 have e:=(Nat.sub_add_cancel h3).symm
 refine KF hn e ?_ (Nat.sub_le_of_le_add (by rw[V0];exact VO h1 _))
 generalize names.length - dl.length=k at e
 rw[e] at h2⊢
 rw[Nat.add_sub_add_right]
 exact(Nat.add_sub_cancel' (Nat.le_of_add_le_add_right h2)).symm
section
variable{α:Type}{M:Model}{A:Around}{E:Value->Shared->Prop}{s:Shared}{Q:α->Shared->Prop}
theorem yt{t:Sem α}{a:α}(e:t=pure a)(h:Q a s):PySem.wpAny M A t Q E s:=e▸PySem.wpAny_pure h
end
section
variable{names:List Str}{vs dl:List Value}
theorem IT(h3:dl.length≤names.length):dl.drop (dl.length - names.length)=dl:=by rw[Nat.sub_eq_zero_of_le h3];rfl
theorem DB{a b n:Nat}(h1:a≤n)(h2:n≤a+b):n=a+(b - (a+b - n)):=by
 obtain⟨d,rfl⟩:=Nat.le.dest h1
 rw[Nat.add_sub_add_left,Nat.sub_sub_self (Nat.le_of_add_le_add_left h2)]
theorem KG(hn:names.Nodup)(h1:vs.length≤names.length)(h2:names.length≤vs.length+dl.length)(h3:dl.length≤names.length):
  (names.filterMap λn=>((jH (names.zip vs) ((names.drop (names.length - (dl.drop (dl.length - names.length)).length)).zip (dl.drop (dl.length - names.length)))).lookup n).map λy=>(n,y))=names.zip (vs++dl.drop (vs.length+dl.length - names.length)):=by
 rw[IT h3,GS hn h1 h2 h3]
 exact DA hn (by rw[Vw,VS];exact DB h1 h2)
theorem GU(h1:vs.length≤names.length)(h2:names.length≤vs.length+dl.length)(h3:dl.length≤names.length):((names.take (names.length - (dl.drop (dl.length - names.length)).length)).filter λn=>((names.zip vs).lookup n).isNone)=[]:=by
 have hv:(names.take vs.length).length=vs.length:=List.length_take_of_le h1
 rw[IT h3,List.filter_eq_nil_iff]
 intro n hm
 rw[tP hv,oR (n:=n) (List.take_subset_take_left _ (Nat.sub_le_of_le_add h2) hm) (Vg hv)]
 decide
end
theorem iP{s:Shared}{fd:FuncData}{args:List Arg}{de:List Expr}{vs dl:List Value}(hp:fd.params=⟨[],args,none,[],[],none,de⟩)
  (hd:(fd.defaults=.none/\dl=[])\/∃t o n items,fd.defaults=.ref t/\s.heap.get? t=some o/\o.data=.seq items n/\items.toList=dl)
  (hn:(args.map (·.arg)).Nodup) (h1:vs.length≤args.length) (h2:args.length≤vs.length+dl.length) (h3:dl.length≤args.length):
  BindsTo s fd ⟨vs,[]⟩ ((args.map (·.arg)).zip (vs++dl.drop (vs.length+dl.length - args.length))):=by
 have hlen:(args.map (·.arg)).length=args.length:=Vs ..
 rw[<-hlen] at h1 h2 h3⊢
 have fin2:=KG hn h1 h2 h3
 have miss3:¬((!((((args.map (·.arg)).take ((args.map (·.arg)).length - (dl.drop (dl.length - (args.map (·.arg)).length)).length)).filter λn=>(((args.map (·.arg)).zip vs).lookup n).isNone).isEmpty))=true):=by rw[GU h1 h2 h3];decide
 have hg2:¬((decide (vs.length>(args.map (·.arg)).length)&&true)=true):=by simpa using h1
 have body:∀xs:Option (Array Value),(xs.getD #[]).toList=dl->∀(M:Model) (A:Around) (E:Value->Shared->Prop) (Q:List (Str×Value)->Shared->Prop),Q ((args.map (·.arg)).zip (vs++dl.drop (vs.length+dl.length - (args.map (·.arg)).length))) s->PySem.wpAny M A (seqItems? fd.defaults) (λx s'=>x=xs/\s'=s) E s->PySem.wpAny M A (bindArgs fd ⟨vs,[]⟩) Q E s:=λxs hxs M A E Q hq hs=>by
  subst hxs
  cases fd
  cases hp
  refine PySem.wpAny_bind (PySem.wpAny_pure ?_)
  refine PySem.wpAny_bind (PySem.wpAny_mono hs (λx s' q=>?_) λY Y q=>q)
  refine e02 q λzq77 zq78=>?_;clear q
  cases zq77
  cases zq78
  refine eH hg2 (eH miss3 ?_)
  refine PySem.wpAny_bind (yt (Dz (λn d r=>rfl) _ _) (PySem.wpAny_bind (PySem.wpAny_pure (eH Ve ?_))))
  rw[List.map_nil,V5]
  exact yt (congrArg pure fin2) hq
 intro M A E Q hq
 rcases hd with⟨q1,q2⟩|⟨t,o,n,items,q1,q2,q3,q4⟩
 .subst q2
  refine body none rfl M A E Q hq ?_
  rw[q1]
  show PySem.wpAny M A (do notAStandIn Value.none;pure none) _ _ _
  exact PySem.wpAny_bind (PySem.wpAny_pure (PySem.wpAny_pure ⟨rfl,rfl⟩))
 .refine body (some items) q4 M A E Q hq ?_
  rw[q1]
  exact wpAny_seqItems q2 q3 ⟨rfl,rfl⟩
section
open PySem.SeqAt
open Sem (wp)
noncomputable def gE(self:Value):Code×Pos->Bool
 |(.builtin "bytearray.__contains__" ⟨v::_,_⟩,_)|(.builtin "bytearray.__mod__" ⟨v::_,_⟩,_)
 |(.builtin "bytearray.__rmod__" ⟨_::v::_,_⟩,_)|(.builtin "_struct.pack_into.held" ⟨v::_,_⟩,_)=>Builtin.Bytes.sameRef v self
 |(.builtin "bytearray.find.held" ⟨_::_::held,_⟩,_)=>held.any (Builtin.Bytes.sameRef self)
 |(.builtin id ⟨v::_,_⟩,_)=>Builtin.Bytes.sameRef v self&&Builtin.Bytes.decodersThatHold.contains id
 |_=>false
theorem exported_eq(self:Value):Builtin.Bytes.exported self=(do return (<-stack).any (gE self)):=rfl
def pP(c:Code):Prop:=∀self p,gE self (c,p)=false
structure KH(Γ:Ctx):Prop where
 code:pP Γ.code
 below:∀x∈Γ.below,pP x.1
def cQ{α:Type}(M:Model)(A:Around)(t:Sem α)(Q:α->Shared->Prop)(E:Value->Shared->Prop)(s:Shared):Prop:=
 ∀Γ p,Γ.In A->KH Γ->wp M Γ t (λa Y s'=>Q a s') (λe Y s'=>E e s') p s
def c6(M:Model)(A:Around)(c:Code)(R:Result->Shared->Prop)(s:Shared):Prop:=
 ∀Γ p,Γ.code=c->Γ.Below A->(∀x∈Γ.below,pP x.1)->wpCode M Γ R p s
section
variable{α β:Type}{M:Model}{A:Around}{E:Value->Shared->Prop}{s:Shared}{env:Env}
theorem P{t:Sem α}{Q:α->Shared->Prop}(h:PySem.wpAny M A t Q E s):cQ M A t Q E s:=λΓ p hΓ Y=>h Γ p hΓ
theorem wpAny_pure{a:α}{Q:α->Shared->Prop}(h:Q a s):cQ M A (pure a) Q E s:=λY Y Y Y=>h
theorem cO{t:Sem α}{Q Q':α->Shared->Prop}{E':Value->Shared->Prop}(h:cQ M A t Q E s)(hQ:∀a s,Q a s->Q' a s)(hE:∀e s,E e s->E' e s):cQ M A t Q' E' s:=
 λΓ p hΓ hc=>Sem.wp_mono M Γ t (λa Y s=>hQ a s) (λe Y s=>hE e s) p s (h Γ p hΓ hc)
theorem wpAny_bind{m:Sem α}{f:α->Sem β}{Q:β->Shared->Prop}(h:cQ M A m (λa s'=>cQ M A (f a) Q E s') E s):cQ M A (m>>=f) Q E s:=λΓ p hΓ hc=>by
 rw[Sem.wp_bind']
 exact Sem.wp_mono M Γ m (λa p' s' h'=>h' Γ p' hΓ hc) (λY Y Y h'=>h') p s (h Γ p hΓ hc)
theorem dU{m:Sem α}{k:Value->Sem Unit}{Q:α->Shared->Prop}(h:cQ M A m Q (λe s'=>cQ M A (k e) (λY s''=>E e s'') E s') s):cQ M A (m.onRaise k) Q E s:=λΓ p hΓ hc=>by
 rw[Sem.wp_onRaise]
 exact Sem.wp_mono M Γ m (λY Y Y h'=>h') (λe p' s' h'=>h' Γ p' hΓ hc) p s (h Γ p hΓ hc)
theorem g9{m:Sem α}{Q:Except Value α->Shared->Prop}(h:cQ M A m (λa=>Q (.ok a)) (λe=>Q (.error e)) s):cQ M A m.attempt Q E s:=λΓ p hΓ hc=>by
 rw[Sem.wp_attempt];exact h Γ p hΓ hc
theorem cS{vs:List Value}{m:Sem α}{Q:α->Shared->Prop}(h:cQ M A m Q E s):cQ M A (holding vs m) Q E s:=λΓ p hΓ hc=>by
 rw[Sem.wp_holding];exact h Γ p hΓ hc
theorem d4{vs:List Value}{m:Sem Value}{Q:Value->Shared->Prop}(h:cQ M A m Q E s):cQ M A (operate vs m) Q E s:=λΓ p hΓ hc=>by
 rw[Sem.wp_operate];exact h Γ p hΓ hc
theorem kQ{c:Prop}[Decidable c]{a b:Sem α}{Q:α->Shared->Prop}(h:c)(hb:cQ M A a Q E s):cQ M A (if c then a else b) Q E s:=by rw[if_pos h];exact hb
theorem fE{c:Prop}[Decidable c]{a b:Sem α}{Q:α->Shared->Prop}(h:¬c)(hb:cQ M A b Q E s):cQ M A (if c then a else b) Q E s:=by rw[if_neg h];exact hb
theorem wpAny_of_eq{t:Sem α}{a:α}{Q:α->Shared->Prop}(he:t=pure a)(h:Q a s):cQ M A t Q E s:=by rw[he];exact wpAny_pure h
theorem cU{pos:Pos}{Q:Unit->Shared->Prop}(h:Q () s):cQ M A (standAt pos) Q E s:=λY Y Y Y=>h
theorem wpAny_rule{tag:String}{Q:Unit->Shared->Prop}(h:Q () s):cQ M A (rule tag) Q E s:=λY Y Y Y=>h
theorem jo{Q:Unit->Shared->Prop}(h:Q () s):cQ M A point Q E s:=λY Y Y Y=>h
theorem fR{vs keep:List Value}{Q:Unit->Shared->Prop}(h:Q () s):cQ M A (release vs keep) Q E s:=P (PySem.wpAny_release h)
theorem v8{vs:List Value}{m:Sem α}{Q:α->Shared->Prop}(h:cQ M A m Q E s):cQ M A (Sem.keep vs m) Q E s:=λΓ p hΓ hc=>by
 have:=h Γ p hΓ hc
 first|exact this|(rw[Sem.wp_keep];exact this)|(unfold Sem.keep;simpa using this)
theorem pQ{c:Prop}[Decidable c]{pos:Pos}{k:PUnit->Sem α}{Q:α->Shared->Prop}(h:cQ M A (k ()) Q E s):cQ M A (if c then(standAt pos>>=k) else k ()) Q E s:=by
 split
 .exact wpAny_bind (cU h)
 .exact h
theorem KH.down{Γ:Ctx}(h:KH Γ)(c:Code)(hd:Option Value)(p:Pos):∀x∈(Γ.enter c hd p).below,pP x.1:=λx hx=>by
 rcases List.mem_cons.mp (show x∈(Γ.code,p)::Γ.below from hx) with rfl|hx
 .exact h.code
 .exact h.below x hx
theorem dB{c:Code}{R R':Result->Shared->Prop}(h:c6 M A c R s)(hR:∀r s,R r s->R' r s):c6 M A c R' s:=λΓ p hc hΓ hb=>wpCode_mono hR (h Γ p hc hΓ hb)
theorem qy{c:Code}{h:Option Value}{Q:Flow->Shared->Prop}(hc:c6 M (A.mark h) c (λr s'=>match r with|.ok f=>Q f s'|.error e=>E e s') s)(hnb:h≠some byPass):
  cQ M A (run c h) Q E s:=λΓ p hΓ hcalm=>by rw[Sem.wp_run];exact hc _ p rfl (hΓ.enter c h p hnb) (hcalm.down c h p)
theorem oT{c:Code}{Q:Value->Shared->Prop}(hc:c6 M A c (λr s'=>match r with|.ok (.ret v)=>Q v s'|.ok _=>False|.error e=>E e s') s):
  cQ M A (runValue c) Q E s:=λΓ p hΓ hcalm=>by rw[Sem.wp_runValue];exact hc _ p rfl (hΓ.enter c none p (by intro x;cases x)) (hcalm.down c none p)
theorem fO{f:Value}{pos:List Value}{kw:List (Str×Value)}{Q:Value->Shared->Prop}(hc:c6 M A (.call f ⟨pos,kw⟩) (λr s'=>match r with|.ok (.ret v)=>Q v s'|.ok _=>False|.error e=>E e s') s):
  cQ M A (call f pos kw) Q E s:=oT hc
theorem c8{c:Code}{R:Result->Shared->Prop}(hc0:pP c)(h:cQ M (A.under c) (M.den c) (λfin s'=>match fin with|.done f=>R (.ok f) s'|.again c'=>c'.quiet=true/\c6 M A c' R s') (λe s'=>R (.error e) s') s):
  c6 M A c R s:=λΓ p hc hΓ hb=>by
 rw[wpCode_iff_wp,hc]
 refine Sem.wp_mono M Γ _ (λfin p' s' h'=>?_) (λY Y Y h'=>h') p s (h Γ p (hc▸hΓ.in) ⟨hc▸hc0,hb⟩)
 cases fin with
 |done f=>exact h'
 |again c'=>exact⟨h'.1,h'.2 (Γ.goto c') p' rfl (hΓ.goto c') hb⟩
theorem gk{c:Code}{h:Option Value}{Q:Flow->Shared->Prop}(hc:c6 M (A.mark h) c (λr s'=>match r with|.ok f=>Q f s'|.error e=>cameBackBy M A env E e s') s)(hnb:h≠some byPass):
  cQ M A (runOwn c env h) Q E s:=by
 unfold runOwn
 refine dU (qy (dB hc λr s' x=>?_) hnb)
 cases r with
 |ok f=>exact x
 |error e=>exact P x
theorem gS{m:Sem α}{Q:α->Shared->Prop}(h:cQ M A m Q (notedBy M A env E) s):cQ M A (m.onRaise λx=>do noteFrame x env;theTreesLotGoes x) Q E s:=
 dU (cO h (λY Y q=>q) λY Y hx=>wpAny_bind (cO (P hx) (λY Y e=>P (wpAny_theTreesLotGoes e)) λY Y e=>e))
theorem pR{m:Sem α}{pos:Pos}{Q:α->Shared->Prop}(h:cQ M A m Q (notedBy M A env E) s):cQ M A (m.onRaise λx=>do noteFrame x env;standAt pos) Q E s:=
 dU (cO h (λY Y q=>q) λY Y hx=>wpAny_bind (cO (P hx) (λY Y e=>cU e) λY Y e=>e))
theorem jp{id:String}{args:Args}(hn:Builtin.Bytes.decodersThatHold.contains id=false)(h0:∀self p kw,gE self (.builtin id ⟨[],kw⟩,p)=false)
  (h1:∀self p kw v r,gE self (.builtin id ⟨v::r,kw⟩,p)=(Builtin.Bytes.sameRef v self&&Builtin.Bytes.decodersThatHold.contains id)):pP (.builtin id args):=λself p=>
 match args with
 |⟨[],kw⟩=>h0 self p kw
 |⟨v::r,kw⟩=>(h1 self p kw v r).trans ((congrArg _ hn).trans (Bool.and_false _))
theorem eV{Q:Flow->Shared->Prop}(h:Q .next s):cQ M A (execs [] env) Q E s:=P (PySem.wpAny_execs_nil h)
theorem l8{st:Stmt}{rest:List Stmt}{Q:Flow->Shared->Prop}(h:cQ M A (exec st env) (λf s'=>match f with|.next=>cQ M A (execs rest env) Q E s'|f=>Q f s') E s):cQ M A (execs (st::rest) env) Q E s:=λΓ p hΓ hc=>by
 rw[execs_cons,Sem.wp_bind']
 refine Sem.wp_mono M Γ _ (λf p' s' h'=>?_) (λY Y Y h'=>h') _ _ (h Γ p hΓ hc)
 cases f<;>first|exact h' Γ p' hΓ hc|exact h'
theorem DC{test:Expr}{body orelse:List Stmt}{pos:Pos}{Q:Flow->Shared->Prop}(h:cQ M A (PySem.isTrue test env (eval test env)) (λb aj=>if b then cQ M A (execs body env) Q E aj else cQ M A (execs orelse env) Q E aj) E s):
  cQ M A (exec (.If test body orelse pos) env) Q E s:=λΓ p hΓ hc=>by
 simp only[exec_If,Sem.wp_bind',Sem.wp_cmd_standAt]
 refine Sem.wp_mono M Γ _ (λb cE aj aq=>?_) (λY Y Y h'=>h') _ _ (h Γ _ hΓ hc)
 cases b<;>exact aq Γ cE hΓ hc
theorem tQ{test:Expr}{body orelse:List Stmt}{pos:Pos}{Q:Flow->Shared->Prop}(h:c6 M A (.whileLoop test body orelse env) (λr s'=>match r with|.ok f=>Q f s'|.error e=>cameBackBy M A env E e s') s):
  cQ M A (exec (.While test body orelse pos) env) Q E s:=by
 rw[exec_While];exact wpAny_bind (cU (gk h nn))
theorem l9{target mM:Expr}{body orelse:List Stmt}{pos:Pos}{Q:Flow->Shared->Prop}
  (h:cQ M A (eval mM env) (λx aa=>cQ M A (pyIter x) (λit aj=>c6 M A (.forLoop target it body orelse env) (λr s'=>match r with|.ok f=>Q f s'|.error e=>cameBackBy M A env E e s') aj) E aa) E s)
  (hs:∀x,foldedSetIterable mM env x=pure x):cQ M A (exec (.For target mM body orelse pos) env) Q E s:=by
 rw[exec_For]
 refine wpAny_bind (cU (wpAny_bind (cO h (λx aa ae=>wpAny_bind (wpAny_of_eq (hs x) (wpAny_bind (cU (wpAny_bind (cS (cO ae (λit aj aq=>gk aq nn) λY Y e=>e))))))) λY Y e=>e)))
theorem kV{e:Expr}{pos:Pos}{Q:Flow->Shared->Prop}(h:cQ M A (eval e env) (λv=>Q (.ret v)) E s):cQ M A (exec (.Return (some e) pos) env) Q E s:=λΓ p hΓ hc=>by
 simp only[exec_Return_some,Sem.wp_bind',Sem.wp_cmd_standAt,Sem.wp_pure'];exact h Γ _ hΓ hc
theorem gT{x:Str}{pos:Pos}{v:Value}{Q:Unit->Shared->Prop}(h:PySem.wpAny M A (storeName env x v) Q E s):cQ M A (assign (.Name x pos) env v) Q E s:=P (PySem.wpAny_assign_Name h)
theorem gc{targets:List Expr}{value:Expr}{pos:Pos}{Q:Flow->Shared->Prop}(h:cQ M A (eval value env) (λv aa=>cQ M A (assignAll v ((assignEach targets env).map (·.2))) (λY=>Q .next) E aa) E s)
  (hs:swapsWithSole targets value pos.line env=pure false) (hw:swappedStores targets value env=pure none):cQ M A (exec (.Assign targets value pos) env) Q E s:=by
 rw[PyProof.Rows.exec_Assign,hs]
 refine wpAny_bind (cU (wpAny_bind (wpAny_pure ?_)))
 rw[if_neg (by decide),hw]
 refine wpAny_bind (cO h (λv aa ae=>wpAny_bind (wpAny_pure ?_)) λY Y x=>x)
 show cQ M A (do assignAll v ((assignEach targets env).map (·.2));pure .next) Q E aa
 exact wpAny_bind (cO ae (λY Y x=>wpAny_pure x) λY Y x=>x)
theorem jq{elts:List Expr}{k:Nat}{tpos pos:Pos}{value:Expr}{names:List Str}{Q:Flow->Shared->Prop}
  (h:cQ M A (eval value env) (λv aa=>cQ M A (unpackItems v names.length none) (λitems aj=>cQ M A (assignInOrder (names.reverse.map λn=>bindName env n) items.reverse) (λY=>Q .next) E aj) E aa) E s)
  (hs:swapsWithSole [.Tuple elts k tpos] value pos.line env=pure false) (hw:swappedStores [.Tuple elts k tpos] value env=pure (some names)):cQ M A (exec (.Assign [.Tuple elts k tpos] value pos) env) Q E s:=by
 rw[PyProof.Rows.exec_Assign,hs]
 refine wpAny_bind (cU (wpAny_bind (wpAny_pure ?_)))
 rw[if_neg (by decide),hw]
 refine wpAny_bind (cO h (λv aa ae=>wpAny_bind (wpAny_pure ?_)) λY Y x=>x)
 show cQ M A (do rule "assign.swapped-stores";let items<-unpackItems v names.length none;assignInOrder (names.reverse.map λn=>bindName env n) items.reverse;pure .next) Q E aa
 exact wpAny_bind (wpAny_rule (wpAny_bind (cO ae (λitems aj aq=>wpAny_bind (cO aq (λY Y x=>wpAny_pure x) λY Y x=>x)) λY Y x=>x)))
theorem mS{pos:Pos}{Q:List Value->Shared->Prop}(h:Q [] s):cQ M A (spliced (backTo pos (starEach [] env))) Q E s:=P (PySem.wpAny_items_nil h)
theorem ma{pos:Pos}{e:Expr}{rest:List Expr}{Q:List Value->Shared->Prop}(h:cQ M A (eval e env) (λv aa=>cQ M A (spliced (backTo pos (starEach rest env))) (λvs aj=>Q (v::vs) aj) E aa) E s)
  (he:starEach (e::rest) env=(false,eval e env)::starEach rest env):cQ M A (spliced (backTo pos (starEach (e::rest) env))) Q E s:=by
 rw[he]
 show cQ M A (do
  let v<-eval e env
  let here<-(pure [v]:Sem (List Value))
  return here++(<-holding here (spliced (backTo pos (starEach rest env))))) Q E s
 exact wpAny_bind (cO h (λv aa ae=>wpAny_bind (wpAny_pure (wpAny_bind (cS (cO ae (λvs aj aq=>wpAny_pure aq) λY Y x=>x))))) λY Y x=>x)
theorem pS{op:UnaryOp}{x:Expr}{pos:Pos}{Q:Value->Shared->Prop}(h:cQ M A (eval x env) (λv aa=>cQ M A (unaryOp op v) Q E aa) E s):cQ M A (eval (.UnaryOp op x pos) env) Q E s:=by
 rw[arm_eval_UnaryOp]
 exact wpAny_bind (cO h (λv aa ae=>wpAny_bind (cU (cS ae))) λY Y x=>x)
theorem tT{test body orelse:Expr}{pos:Pos}{Q:Value->Shared->Prop}(h:cQ M A (PySem.isTrue test env (eval test env)) (λb aa=>if b then cQ M A (eval body env) Q E aa else cQ M A (eval orelse env) Q E aa) E s):
  cQ M A (eval (.IfExp test body orelse pos) env) Q E s:=by
 rw[arm_eval_IfExp]
 refine wpAny_bind (cO h (λb aa ae=>?_) λY Y x=>x)
 cases b<;>exact ae
theorem mc{x:Expr}{pos:Pos}{whole:Sem Value}{Q:Bool->Shared->Prop}(h:cQ M A (PySem.isTrue x env (eval x env)) (λb aa=>Q (!b) aa) E s):cQ M A (PySem.isTrue (.UnaryOp .Not x pos) env whole) Q E s:=by
 rw[arm_isTrue_UnaryOp]
 exact wpAny_bind (cO h (λb aa ae=>wpAny_pure ae) λY Y x=>x)
theorem kf{e:Expr}{whole:Sem Value}{Q:Bool->Shared->Prop}(h:cQ M A whole (λv aa=>cQ M A (PySem.truthy v) Q E aa) E s)(he:PySem.isTrue e env whole=(do let v<-whole;standAt e.pos;holding [v] (PySem.truthy v))):
  cQ M A (PySem.isTrue e env whole) Q E s:=by
 rw[he]
 exact wpAny_bind (cO h (λv aa ae=>wpAny_bind (cU (cS ae))) λY Y x=>x)
theorem jI{op:BoolOp}{values:List Expr}{pos:Pos}{whole:Sem Value}{Q:Bool->Shared->Prop}(h:cQ M A (allTrue op values env) Q E s):cQ M A (PySem.isTrue (.BoolOp op values pos) env whole) Q E s:=by rw[arm_isTrue_BoolOp];exact h
theorem iQ{x:Expr}{rest:List Expr}{Q:Bool->Shared->Prop}(h:cQ M A (PySem.isTrue x env (eval x env)) (λb aa=>if b then cQ M A (allTrue .And rest env) Q E aa else Q false aa) E s):cQ M A (allTrue .And (x::rest) env) Q E s:=by
 refine(?_:cQ M A (do match BoolOp.And,<-PySem.isTrue x env (eval x env) with|.And,false=>pure false|.Or,true=>pure true|_,_=>allTrue .And rest env) Q E s)
 refine wpAny_bind (cO h (λb aa ae=>?_) λY Y x=>x)
 cases b
 .exact wpAny_pure ae
 .exact ae
theorem i5{x:Expr}{rest:List Expr}{Q:Bool->Shared->Prop}(h:cQ M A (PySem.isTrue x env (eval x env)) (λb aa=>if b then Q true aa else cQ M A (allTrue .Or rest env) Q E aa) E s):cQ M A (allTrue .Or (x::rest) env) Q E s:=by
 refine(?_:cQ M A (do match BoolOp.Or,<-PySem.isTrue x env (eval x env) with|.And,false=>pure false|.Or,true=>pure true|_,_=>allTrue .Or rest env) Q E s)
 refine wpAny_bind (cO h (λb aa ae=>?_) λY Y x=>x)
 cases b
 .exact ae
 .exact wpAny_pure ae
theorem tU{elts:List Expr}{k:Nat}{pos:Pos}{Q:Value->Shared->Prop}
  (h:cQ M A (spliced (backTo pos (starEach elts env))) (λvs aa=>vs.length≤sizeLine/\Q (.ref aa.heap.objs.size) {aa with heap:=aa.heap.push {cls:=.type "tuple",data:=.seq vs.toArray}}) E s):cQ M A (eval (.Tuple elts k pos) env) Q E s:=by
 rw[arm_eval_Tuple]
 exact wpAny_bind (cU (wpAny_bind (cO h (λvs aa ae=>P (wpAny_newObj_type ae.2 (by show vs.toArray.size≤sizeLine;rw[Vz];exact ae.1))) λY Y x=>x)))
theorem wa{elts:List Expr}{pos:Pos}{Q:Value->Shared->Prop}
  (h:cQ M A (spliced (backTo pos (starEach elts env))) (λvs aa=>vs.length≤sizeLine/\Q (.ref aa.heap.objs.size) {aa with heap:=aa.heap.push {cls:=.type "list",data:=.seq vs.toArray}}) E s):cQ M A (eval (.List elts pos) env) Q E s:=by
 rw[arm_eval_List]
 exact wpAny_bind (cU (wpAny_bind (cO h (λvs aa ae=>P (wpAny_newObj_type ae.2 (by show vs.toArray.size≤sizeLine;rw[Vz];exact ae.1))) λY Y x=>x)))
end
section
variable{prog:Program}{w:World}{A:Around}{E:Value->Shared->Prop}{s:Shared}{env:Env}{R:Result->Shared->Prop}
theorem oV{e:Expr}{pos:Pos}{Q:Flow->Shared->Prop}(h:cQ (model prog w) A (eval e env) (λY=>Q .next) E s)(hi:interactive env=false)(hs:swapsWith e none pos.line env=pure false):cQ (model prog w) A (exec (.Expr e pos) env) Q E s:=by
 rw[exec_Expr env e pos hi hs]
 exact wpAny_bind (cU (wpAny_bind (cO h (λv s' h'=>P (wpAny_dropValue h')) λY Y x=>x)))
theorem rA{body:List Stmt}(h:cQ (model prog w) (A.deeper env) (execs body env) (λf s'=>R (.ok (.ret (match f with|.ret v=>v|_=>.none))) s') (λe s'=>PySem.wpAny (model prog w) (A.deeper env) (leaving env e) (λY s''=>R (.error e) s'') (λe' s''=>R (.error e') s'') s') s):
  c6 (model prog w) A (.func body env) R s:=by
 refine c8 (λY Y=>rfl) ?_
 show cQ _ (A.deeper env) (do point;match<-(execs body env).onRaise (leaving env) with|.ret v=>ret v|_=>ret .none) _ _ s
 refine wpAny_bind (jo (wpAny_bind (dU (cO h (λf s' h'=>?_) λY Y h'=>P h'))))
 cases f<;>exact wpAny_pure h'
theorem yw{a:Addr}{args:Args}{o:Obj}{fd:FuncData}{cd:Env->Code}(hroom:A.depth<recursionLimit)(ho:s.heap.get? a=some o)(hd':o.data=.func fd)(hco:fd.scope.isCoroutine=false)(hgen:fd.scope.isGenerator=false)
  (hb:∀env,(match fd.body with|.stmts b=>Code.func b env|.expr e=>.expr e env)=cd env/\(cd env).quiet=true) (hcd:s.heap.CodeRec fd.code fd.qualname)
  (h:PySem.wpAny (model prog w) A.in1 (bindArgs fd args) (λbinds aa=>PySem.wpAny (model prog w) A.in1 (newFunctionEnv fd.scope fd.globals fd.closure binds (fd.qualname++".<locals>.") (some a) fd.code none fd.builtins)
    (λenv aj=>aj.heap.NoLimit/\c6 (model prog w) A (cd env) R aj) (λe s'=>R (.error e) s') aa) (λe s'=>R (.error e) s') s):
  c6 (model prog w) A (.call (.ref a) args) R s:=by
 refine c8 (λY Y=>rfl) ?_
 refine(?_:cQ _ A.in1 (load a>>=λo=>_) _ _ s)
 refine wpAny_bind (P (wpAny_load ho ?_))
 rw[hd']
 refine e44 hcd λc oc vs tq hc hoc hdc hq=>?_;clear hcd
 refine(?_:cQ _ A.in1 (callFunction a fd args) _ _ s)
 delta callFunction
 rw[hc] at h⊢
 rw[hgen,hco]
 refine wpAny_bind (m:=field (.ref c) 1) (P (wpAny_field hoc hdc hq (wpAny_bind (wpAny_pure ?_))))
 have fin:∀{x y:Code} {t:Shared},x=y/\y.quiet=true->c6 (model prog w) A y R t->x.quiet=true/\c6 (model prog w) A x R t:=λe h=>⟨e.1▸e.2,e.1▸h⟩
 exact wpAny_bind (cO (P h) (λbinds aa ae=>wpAny_bind (cO (P ae) (λenv aj aq=>wpAny_bind (P (wpAny_enterFrame aq.1 hroom (wpAny_pure (fin (hb env) aq.2))))) λY Y h'=>h')) λY Y h'=>h')
theorem i6{a:Addr}{args:Args}{o:Obj}{fd:FuncData}{body:List Stmt}(hroom:A.depth<recursionLimit)(ho:s.heap.get? a=some o)(hd':o.data=.func fd)(hco:fd.scope.isCoroutine=false)(hgen:fd.scope.isGenerator=false)
  (hbody:fd.body=.stmts body) (hcd:s.heap.CodeRec fd.code fd.qualname)
  (h:PySem.wpAny (model prog w) A.in1 (bindArgs fd args) (λbinds aa=>PySem.wpAny (model prog w) A.in1 (newFunctionEnv fd.scope fd.globals fd.closure binds (fd.qualname++".<locals>.") (some a) fd.code none fd.builtins)
    (λenv aj=>aj.heap.NoLimit/\c6 (model prog w) A (.func body env) R aj) (λe s'=>R (.error e) s') aa) (λe s'=>R (.error e) s') s):
  c6 (model prog w) A (.call (.ref a) args) R s:=
 yw (cd:=λenv=>.func body env) hroom ho hd' hco hgen (λenv=>⟨by rw[hbody],rfl⟩) hcd h
theorem kg{elts:List Expr}{x1:Nat}{pos:Pos}{t:Addr}{items:Array Value}{Q:Unit->Shared->Prop}(hh:A.handled=none)(ht:s.heap.IsTuple t items)(hn:(assignEach elts env).length=items.size)(hstar:(assignEach elts env).findIdx? (·.1)=none)
  (h:∀h',Wi s.heap.objs.size s.heap h'->cQ (model prog w) A (assignInOrder ((assignEach elts env).map (·.2)) items.toList) Q E {s with heap:=h'}):cQ (model prog w) A (assign (.Tuple elts x1 pos) env (.ref t)) Q E s:=by
 rw[arm_assign_Tuple]
 refine wpAny_bind (cU ?_)
 unfold unpack
 rw[hn,hstar]
 exact wpAny_bind (cS (P (unpackItems_tuple hh ht h)))
theorem iR{elt target mM:Expr}{ifs:List Expr}{rest:List Comprehension}{scope:Scope}{pos:Pos}{it acc:Value}
  (h0:c6 (model prog w) A (.compLoop (.ListComp elt (⟨target,mM,ifs,0⟩::rest) scope pos) 0 it acc env) R s)
  (h:cQ (model prog w) A (pyIter it) (λit' s'=>c6 (model prog w) A (.compLoop (.ListComp elt (⟨target,mM,ifs,0⟩::rest) scope pos) 0 it' acc env) R s') (notedBy (model prog w) A env λx s'=>R (.error x) s') s):
  c6 (model prog w) A (.compStart (.ListComp elt (⟨target,mM,ifs,0⟩::rest) scope pos) 0 it acc env) R s:=by
 refine c8 (λY Y=>rfl) ?_
 show cQ _ _ ((compStart (.ListComp elt (⟨target,mM,ifs,0⟩::rest) scope pos) 0 it acc env).onRaise (λx=>do noteFrame x env;standAt theWindowsPlace)) _ _ s
 refine pR ?_
 unfold compStart
 refine(?_:cQ _ _ (ask>>=_) _ _ s)
 refine wpAny_bind (P (wpAny_askSetting ?_))
 split
 .exact wpAny_pure ⟨rfl,h0⟩
 .refine wpAny_bind (wpAny_rule ?_)
  refine(?_:cQ _ _ (standAt mM.pos>>=_) _ _ s)
  exact wpAny_bind (cU (wpAny_bind (cO h (λit' s' h'=>wpAny_pure ⟨rfl,h'⟩) λY Y x=>x)))
theorem iY{prog:Program}{w:World}{A:Around}{s:Shared}{R:Result->Shared->Prop}{id:String}{args:Args}{b:Builtin}(hc:pP (.builtin id args))(hb:entryFor table id=some b)
  (h:cQ (model prog w) (A.under (.builtin id args)) (b args) (λfin s'=>match fin with|.done f=>R (.ok f) s'|.again c'=>c'.quiet=true/\c6 (model prog w) A c' R s') (λe s'=>R (.error e) s') s):c6 (model prog w) A (.builtin id args) R s:=by
 refine c8 hc ?_
 refine(?_:cQ _ _ (match entryFor table id with|some b=>b args|none=>unsupported ((withoutEnding? id "#data").getD id)) _ _ s)
 rw[hb];exact h
theorem ec{prog:Program}{w:World}{A:Around}{s:Shared}{R:Result->Shared->Prop}{id:String}{args:Args}{b:Builtin}(hc:pP (.builtin id args))(hq:(Code.builtin id args).quiet=true)(hb:entryFor table id=some b)
  (h:PySem.wpAny (model prog w) A.in1 (checkBuiltinCall id args) (λY aa=>cQ (model prog w) (A.under (.builtin id args)) (b args)
   (λfin s'=>match fin with|.done f=>R (.ok f) s'|.again c'=>c'.quiet=true/\c6 (model prog w) A c' R s') (λe s'=>R (.error e) s') aa) (λe s'=>R (.error e) s') s):c6 (model prog w) A (.call (.builtin id) args) R s:=by
 refine c8 (λY Y=>rfl) ?_
 show cQ _ A.in1 (do checkBuiltinCall id args;again (.builtin id args)) _ _ s
 exact wpAny_bind (P (PySem.wpAny_mono h (λY aa ae=>wpAny_pure ⟨hq,iY hc hb ae⟩) λY Y h'=>h'))
end
end
section
open PySem.SeqAt
section
variable{prog:Program}{w:World}{A:Around}{E:Value->Shared->Prop}{h:Heap}{g:Array GenState}{d:Drawn}{t:Nat}{os:OsState}
variable{nm q:Str}{C N:Addr}{bs:List Value}{sn:List Str}{sub:List Value}{col:Option Bool}{dd:Option Addr}{k0 k1 k2 k3 k5:Option Value}{newId:String}
theorem GV(F:ObjNewFacts newId){mN:Str->Option Value}{rest:List Value}{fI:Addr}{oI:Obj}{Q:Fin->Shared->Prop}
  (hC:h.get? C=some (excClassObj nm q C N bs [.type "object"] true sn sub false col dd k0 k1 k2 k3 k5 newId)) (hn:h.Ns N mN) (hi:mN "__init__"=some (.ref fI))
  (hfI:h.get? fI=some oI) (hfc:oI.cls=.type "function")
  (hq:∀h' x dx,Heap.MadeObjFk h h' x dx C->
   cQ (model prog w) A (call (.ref fI) (.ref x::rest)) (λr s'=>r=.none/\Q (.done (.ret (.ref x))) s') E ⟨h',g,d,t,os⟩):
  cQ (model prog w) A (Builtin.«type.__call__» ⟨.ref C::rest,[]⟩) Q E ⟨h,g,d,t,os⟩:=by
 refine(?_:cQ _ _ (mroOf (.ref C)>>=_) _ _ _)
 refine wpAny_bind (P ?_)
 have step1:∀{Q:List Value->Shared->Prop},Q (Value.ref C::[.type "object"]) ⟨h,g,d,t,os⟩->PySem.wpAny (model prog w) A (mroOf (.ref C)) Q E ⟨h,g,d,t,os⟩:=λhq=>by
  repeat(first|with_reducible refine wpAny_loadPart_at hC ?_|with_reducible refine wpAny_madeBy_exc hC ?_|wp_step)
  exact hq
 refine step1 ?_
 refine fE Ve ?_
 refine wpAny_bind (P (wpAny_madeBy_exc hC ?_))
 refine wpAny_bind (wpAny_pure (wpAny_bind (cS (P (PySem.wpAny_call (codeAny_call_builtin_code (Code.quiet_builtin _ F.quiet) (wpAny_check_obj_new F hC (codeAny_obj_new F hC hn hi ?_))))))))
 refine(?_:cQ _ _ _ _ _ _)
 have hmro:mroOf (.type "object")=pure [.type "object"]:=by kernel_rfl
 have hlk:typeLookup (.type "object") "__init__"=pure (some (.builtin "object.__init__")):=by rw[typeLookup_type,builtinLookup_eq_fast];kernel_rfl
 have bw:=Vb {cls:=.ref C,dict:=some h.objs.size,data:=.plain} (Vb {cls:=.type "dict",data:=.dict #[]} hC)
 have bL:=Vb {cls:=.ref C,dict:=some h.objs.size,data:=.plain} (Vb {cls:=.type "dict",data:=.dict #[]} hfI)
 have cF:((h.push {cls:=.type "dict",data:=.dict #[]}).push {cls:=.ref C,dict:=some h.objs.size,data:=.plain}).Ns N mN:=
  let⟨o,es,ep,e,r⟩:=hn;⟨o,es,ep,Vb _ (Vb _ e),r⟩
 have hget:((h.push {cls:=.type "dict",data:=.dict #[]}).push {cls:=.ref C,dict:=some h.objs.size,data:=.plain}).get? (h.objs.size+1)=some {cls:=.ref C,dict:=some h.objs.size,data:=.plain}:=by heap_get
 have hgd:((h.push {cls:=.type "dict",data:=.dict #[]}).push {cls:=.ref C,dict:=some h.objs.size,data:=.plain}).get? h.objs.size=some {cls:=.type "dict",data:=.dict #[]}:=
  Vb _ (Xe rfl rfl)
 have hcC:(Value.ref C::[Value.type "object"]).contains (.ref C)=true:=by simp
 have step2:∀{Q:Bool->Shared->Prop},Q true ⟨(h.push {cls:=.type "dict",data:=.dict #[]}).push {cls:=.ref C,dict:=some h.objs.size,data:=.plain},g,d,t,os⟩->
   PySem.wpAny (model prog w) A (isInstance (.ref (h.objs.size+1)) (.ref C)) Q E ⟨(h.push {cls:=.type "dict",data:=.dict #[]}).push {cls:=.ref C,dict:=some h.objs.size,data:=.plain},g,d,t,os⟩:=λhq=>by
  unfold isInstance
  repeat(first|with_reducible refine wpAny_loadPart_at hget ?_|(with_reducible refine wpAny_isSubtype_exc bw ?_;rw[hcC])|wp_step)
  exact hq
 refine wpAny_bind (P (step2 ?_))
 refine fE Ve ?_
 refine wpAny_bind (cS ?_)
 have step3:∀{hp:Heap} {x:Addr} {ob:Obj} {Q:Option Value->Shared->Prop},hp.get? x=some ob->ob.cls=.ref C->hp.get? C=some (excClassObj nm q C N bs [.type "object"] true sn sub false col dd k0 k1 k2 k3 k5 newId)->hp.Ns N mN->Q (some (.ref fI)) ⟨hp,g,d,t,os⟩->
   PySem.wpAny (model prog w) A (specialOf (.ref x) "__init__") Q E ⟨hp,g,d,t,os⟩:=λ{hp x ob Q} h1 h2 h3 h4 hq=>by
  unfold specialOf
  refine PySem.wpAny_bind (wpAny_typeOf_ref (s:=⟨hp,g,d,t,os⟩) h1 ?_)
  rw[h2]
  refine wpAny_typeLookup_exc h3 h4 hmro hlk ?_
  rw[hi]
  exact hq
 unfold callSpecial?
 refine wpAny_bind (P (step3 hget rfl bw cF (cS ?_)))
 have step4:∀{Q:Value×List Value->Shared->Prop},Q (.ref fI,[.ref (h.objs.size+1)]) ⟨(h.push {cls:=.type "dict",data:=.dict #[]}).push {cls:=.ref C,dict:=some h.objs.size,data:=.plain},g,d,t,os⟩->
   PySem.wpAny (model prog w) A (bindSpecial (.ref fI) (.ref (h.objs.size+1))) Q E ⟨(h.push {cls:=.type "dict",data:=.dict #[]}).push {cls:=.ref C,dict:=some h.objs.size,data:=.plain},g,d,t,os⟩:=λhq=>by
  unfold bindSpecial
  refine PySem.wpAny_bind (wpAny_typeOf (T:="function") ⟨_,bL,hfc⟩ ?_)
  refine jR (by decide) ?_
  exact PySem.wpAny_pure hq
 refine wpAny_bind (P (step4 ?_))
 refine wpAny_bind (cO (hq _ (h.objs.size+1) h.objs.size ⟨λb o hb=>Vb _ (Vb _ hb),Vo (VA _),Vo (Vm _),
  ⟨_,hget,rfl,λc=>by simp,.inr ⟨h.objs.size,rfl,Vy (VH _),Heap.Ns1.of_empty ⟨_,#[],_,hgd,rfl,λe he=>absurd he (by simp),λY=>rfl⟩,⟨_,hgd,rfl,rfl⟩⟩⟩,
  λo ho=>by obtain rfl:=U7 (hget.symm.trans ho);rfl,by simp only[V9];omega⟩) (λr s' hr=>?_) λY Y x=>x)
 refine e02 hr λzq79 hQ=>?_;clear hr
 cases zq79
 exact wpAny_pure (wpAny_pure hQ)
theorem KI{rest:List Value}{Q:Fin->Shared->Prop}(hC:h.get? C=some (excClassObj nm q C N bs [.type "object"] true sn sub false col dd k0 k1 k2 k3 k5 newId))(hq:Q (.again (.call (.builtin "type.__call__") ⟨.ref C::rest,[]⟩)) ⟨h,g,d,t,os⟩):
  PySem.wpAny (model prog w) A (callAny (.ref C) ⟨rest,[]⟩) Q E ⟨h,g,d,t,os⟩:=by
 have f1:=tc_lookup
 have f2:=tc_bind (.ref C)
 have hT:(⟨h,g,d,t,os⟩:Shared).TypeIs (.ref C) "type":=⟨_,hC,rfl⟩
 repeat(any_goals(first|assumption|with_reducible refine wpAny_loadPart_at hC ?_|wp_step))
theorem i7(F:ObjNewFacts newId){mN:Str->Option Value}{rest:List Value}{fI:Addr}{oI:Obj}{Q:Value->Shared->Prop}
  (hC:h.get? C=some (excClassObj nm q C N bs [.type "object"] true sn sub false col dd k0 k1 k2 k3 k5 newId)) (hn:h.Ns N mN) (hi:mN "__init__"=some (.ref fI))
  (hfI:h.get? fI=some oI) (hfc:oI.cls=.type "function")
  (hq:∀h' x dx,Heap.MadeObjFk h h' x dx C->cQ (model prog w) (A.under (.builtin "type.__call__" ⟨.ref C::rest,[]⟩)) (call (.ref fI) (.ref x::rest)) (λr s'=>r=.none/\Q (.ref x) s') E ⟨h',g,d,t,os⟩):
  cQ (model prog w) A (call (.ref C) rest) Q E ⟨h,g,d,t,os⟩:=by
 refine fO (c8 (λY Y=>rfl) ?_)
 refine(?_:cQ _ _ (callAny (.ref C) _) _ _ _)
 exact P (KI hC ⟨rfl,ec (jp (by decide+kernel) (λY Y Y=>rfl) (λY Y Y Y Y=>rfl)) (Code.quiet_builtin _ (by decide+kernel)) entry_typeCall (wpAny_check_type_call_sub hC (GV F hC hn hi hfI hfc hq))⟩)
end
end
section
variable{g:Gb}{c c':Cf}
noncomputable def KJ(g:Gb)(n:Nat)(r:Ev):Prop:=∀{A:Around} {fr:Fr} {env:Env} {e:Expr} {c:Cf} {h:H} {s:Shared} {K:V->H->Bool} {X:Nat->H->Bool},dy g c n A->FR g c A fr env->cV g c h s->r.ev fr e h K X=true->
  cQ g.M A (eval e env) (QV g c K) (EX g c A X) s
noncomputable def KL(g:Gb)(n:Nat)(r:Ev):Prop:=∀{A:Around} {fr:Fr} {env:Env} {e:Expr} {c:Cf} {h:H} {s:Shared} {K:Bool->H->Bool} {X:Nat->H->Bool},dy g c n A->FR g c A fr env->cV g c h s->r.tr fr e h K X=true->
  cQ g.M A (isTrue e env (eval e env)) (QB g c K) (EX g c A X) s
noncomputable def KM(g:Gb)(n:Nat)(r:Ev):Prop:=∀{A:Around} {f:V} {args:List V} {fv:Value} {vs:List Value} {c:Cf} {h:H} {s:Shared} {K:V->H->Bool} {X:Nat->H->Bool},dy g c n A->cV g c h s->VR g c f fv->da g c args vs->r.cl f args h K X=true->
  cQ g.M A (call fv vs) (QV g c K) (EX g c A X) s
noncomputable def GW(g:Gb)(n:Nat)(r:Ev):Prop:=∀{A:Around} {fr:Fr} {env:Env} {t:Expr} {a:V} {v:Value} {c:Cf} {h:H} {s:Shared} {K:H->Bool} {X:Nat->H->Bool},dy g c n A->FR g c A fr env->cV g c h s->VR g c a v->r.asg fr t a h K X=true->
  cQ g.M A (assign t env v) (QU g c K) (EX g c A X) s
noncomputable def KN(g:Gb)(n:Nat)(r:Ev):Prop:=∀{A:Around} {fr:Fr} {env:Env} {ss:List Stmt} {c:Cf} {h:H} {s:Shared} {K:f9->H->Bool} {X:Nat->H->Bool},dy g c n A->FR g c A fr env->cV g c h s->r.ex fr ss h K X=true->
  cQ g.M A (execs ss env) (QF g c K) (EX g c A X) s
noncomputable def KO(g:Gb)(n:Nat)(r:Ev):Prop:=∀{A:Around} {fr:Fr} {env:Env} {t:Expr} {b:List Stmt} {c:Cf} {h:H} {s:Shared} {K:f9->H->Bool} {X:Nat->H->Bool},dy g c n A->FR g c A fr env->cV g c h s->r.wh fr t b h K X=true->
  c6 g.M A (.whileLoop t b [] env) (QW g c A env X K) s
noncomputable def KP(g:Gb)(n:Nat)(r:Ev):Prop:=∀{A:Around} {fr:Fr} {env:Env} {t:Expr} {it:It} {itv:Value} {b:List Stmt} {c:Cf} {h:H} {s:Shared} {K:f9->H->Bool} {X:Nat->H->Bool},dy g c n A->FR g c A fr env->cV g c h s->pB g c s.heap it itv->r.fo fr t it b h K X=true->
  c6 g.M A (.forLoop t itv b [] env) (QW g c A env X K) s
noncomputable def KQ(g:Gb)(n:Nat)(r:Ev):Prop:=∀{A:Around} {fr:Fr} {env:Env} {elt t ite:Expr} {ifs:List Expr} {sc:Scope} {p:Pos} {it:It} {itv:Value} {acc:Nat} {c:Cf} {h:H} {s:Shared} {K:H->Bool} {X:Nat->H->Bool},dy g c n A->FR g c A fr env->cV g c h s->pB g c s.heap it itv->acc<c.n->
  r.co fr elt t ifs it acc h K X=true->
  c6 g.M A (.compLoop (.ListComp elt [⟨t,ite,ifs,0⟩] sc p) 0 itv (.ref (c.ρ acc)) env) (IK g c A env X K) s
noncomputable def KR(g:Gb)(n:Nat)(r:Ev):Prop:=∀{A:Around} {fr:Fr} {env:Env} {elt:Expr} {gs:List Comprehension} {sc:Scope} {p px:Pos} {x:Str} {c:Cf} {h:H} {s:Shared} {K:V->H->Bool} {K':H->Bool} {X:Nat->H->Bool},dy g c n A->FR g c A fr env->cV g c h s->env.kindOf x=some .local->
  r.ev fr (.ListComp elt gs sc p) h K X=true->(∀v h,K v h=true->gu fr (cd x) v h K'=true)->
  cQ g.M A (evalThenUse (.ListComp elt gs sc p) env (assign (.Name x px) env)) (QU g c K') (EX g c A X) s
noncomputable def KS(g:Gb)(n:Nat)(r:Ev):Prop:=∀{fr:Fr} {x:Str} {p:Pos} {a:V} {h:H} {K:H->Bool} {X:Nat->H->Bool},r.asg fr (.Name x p) a h K X=true->gu fr (cd x) a h K=true
noncomputable def KT(g:Gb)(n:Nat)(r:Ev):Prop:=∀{fr:Fr} {es:List Expr} {xs:List Str} {k:Nat} {p:Pos} {a:V} {h:H} {K:H->Bool} {X:Nat->H->Bool},nR es xs->r.asg fr (.Tuple es k p) a h K X=true->g.C.quiet=false/\∃vs,a=.tup vs/\d7 fr h K (xs.map cd) vs=true
noncomputable def GX(g:Gb)(n:Nat)(r:Ev):Prop:=∀{fr:Fr} {es:List Expr} {k:Nat} {p:Pos} {h:H} {K:V->H->Bool} {X:Nat->H->Bool},r.ev fr (.Set es k p) h K X=false
noncomputable def DD(g:Gb)(n:Nat)(r:Ev):Prop:=∀{fr:Fr} {e:Expr} {p:Pos} {h:H} {K:V->H->Bool} {X:Nat->H->Bool},r.ev fr (.Starred e p) h K X=false
structure eO(g:Gb)(n:Nat)(r:Ev):Prop where
 ev:KJ g n r
 tr:KL g n r
 cl:KM g n r
 asg:GW g n r
 ex:KN g n r
 wh:KO g n r
 fo:KP g n r
 co:KQ g n r
 cu:KR g n r
 nm:KS g n r
 tp:KT g n r
 set:GX g n r
 star:DD g n r
section
variable{A:Around}{s:Shared}{α β:Type}{E:Value->Shared->Prop}
theorem du{m:Sem α}{Q Q':α->Shared->Prop}(e:dz c c'){X:Nat->H->Bool}(h:cQ g.M A m Q' (EX g c' A X) s)(hq:∀a s',Q' a s'->Q a s'):cQ g.M A m Q (EX g c A X) s:=
 cO h hq λY Y=>EX.mono e
end
theorem DE{r:Ev}{n:Nat}(S:eO g n r){fr:Fr}{e:Expr}{h:H}{K:V->H->Bool}{X:Nat->H->Bool}(he:r.ev fr e h K X=true):∀x p,e≠.Starred x p:=λx p q=>by
 subst q;rw[S.star] at he;cases he
theorem mf{n:Nat}{r:Ev}(S:eO g n r){A:Around}{fr:Fr}{env:Env}{pos:Pos}{X:Nat->H->Bool}{es:List Expr}:∀{c:Cf} {h:H} {s:Shared} {K:List V->H->Bool},dy g c n A->FR g c A fr env->cV g c h s->AT r fr es h K X=true->
  cQ g.M A (spliced (backTo pos (starEach es env))) (QL g c K) (EX g c A X) s:=by
 induction es with
 |nil=>exact λoa f I hk=>mS ⟨[],_,_,.refl _,I,da.nil,hk⟩
 |cons e es ih=>exact λoa f I hk=>ma (cO (S.ev oa f I hk) (λv aa qq=>qq.elim λa ag ae ac af va bM=>
                 cO (ih (oa.ext I ac) (f.ext ac) af bM) (λvs aj qq=>qq.elim λl ao aq ak am vl bO=>⟨a::l,ao,aq,ac.trans ak,am,da.cons (va.ext ak) vl,bO⟩) λY Y=>EX.mono ac) λY Y x=>x) (g8 (DE S hk))
end
def ic(g:Gb)(n:Nat)(r:Ev):Prop:=∀R,(∀a o,g.R a o->R a o)->eO (g.wR R) n r
section
open PySem.SeqAt
variable{g:Gb}{c c':Cf}
theorem DF{n:Nat}{r:Ev}(S:eO g n r){fr:Fr}{e:Expr}{h:H}{K:V->H->Bool}{X:Nat->H->Bool}(he:r.ev fr e h K X=true)(op:CmpOp)(t:Sem Value):markedBehindIn op e t=t:=by
 apply markedBehindIn_of_false
 cases e<;>first|rfl|(rw[S.set] at he;cases he)
section
variable{n:Nat}{r:Ev}{A:Around}{fr:Fr}{env:Env}{X:Nat->H->Bool}
theorem DG{A:Around}(oa:dy g c n A):A.units+1<cLine:=Vf (Vf (Nat.add_lt_add_left (by decide:1<64) _) (Wa (Wd _ _) _)) oa.un
theorem wb(W:SW g)(S:eO g n r){α:Type}{op:CmpOp}{a:V}{v:Value}{e:Expr}{c:Cf}{h:H}{s:Shared}{KK:V->H->Bool->Bool}{k:Value->Sem Value->Sem α}{Q:α->Shared->Prop}
  (oa:dy g c n A) (f:FR g c A fr env) (I:cV g c h s) (hv:VR g c a v) (hk:r.ev fr e h (λw h=>Fw g.C op a w h (KK w h)) X=true)
  (hq:∀w vw ag ae aa,dz c ag->VR g ag w vw->(∀{Q':Value->Shared->Prop},(∀b aj,cV g ag ae aj->KK w ae b=true->Q' (.bool b) aj)->cQ g.M A (compareOp op v vw) Q' (EX g c A X) aa)->cQ g.M A (k vw (compareOp op v vw)) Q (EX g c A X) aa):
  cQ g.M A (do let b<-holding [v] (eval e env);k b (compareOp op v b)) Q (EX g c A X) s:=
 wpAny_bind (cS (cO (S.ev oa f I hk) (λvw aa qq=>qq.elim λw ag ae ac af hw hK=>hq w vw ag ae aa ac hw λhq'=>P (Ko W af (hv.ext ac) hw hK (DG oa) λb aj hb am=>hq' b aj am hb)) λY Y x=>x))
theorem rB{C:Prop}{a:V}{ops:List CmpOp}{es:List Expr}{h:H}{K:Bool->H->Bool}(hk:BA g.C r fr a ops es h K X=true)(f:∀op e,ops=[op]->es=[e]->JO g.C r fr a op e h K X=true->C):C:=by
 cases ops with
 |nil=>exact ft hk
 |cons op ops=>
  cases es with
  |nil=>exact ft hk
  |cons e es=>
   cases ops with
   |cons _ _=>exact ft hk
   |nil=>cases es with
    |cons _ _=>exact ft hk
    |nil=>exact f op e rfl rfl hk
theorem IU(S:eO g n r){op:CmpOp}{e:Expr}{h:H}{K:V->H->Bool}(hk:r.ev fr e h K X=true):markedEach [op] [e] (evalEach [e] env)=[eval e env]:=congrArg (λt=>[t]) (DF S hk op (eval e env))
theorem tV(W:SW g)(S:eO g n r){pos:Pos}{op:CmpOp}{e:Expr}{a:V}{v:Value}{c:Cf}{h:H}{s:Shared}{K:Bool->H->Bool}(oa:dy g c n A)(f:FR g c A fr env)(I:cV g c h s)(hv:VR g c a v)(hk:JO g.C r fr a op e h K X=true):
  cQ g.M A (testChain pos v [op] (markedEach [op] [e] (evalEach [e] env))) (QB g c K) (EX g c A X) s:=by
 rw[IU S hk]
 exact wb (k:=λrv t=>do standAt pos;let x<-operate [v,rv] t;holding [x] (PySem.truthy x)) W S oa f I hv hk λw vw ag ae aa ac hw hc=>wpAny_bind (cU (wpAny_bind (d4 (hc λb aj am hK=>cS (P (wpAny_truthy_bool ⟨ag,ae,ac,am,hK⟩))))))
theorem rC(W:SW g)(S:eO g n r){pos:Pos}{ops:List CmpOp}{es:List Expr}{a:V}{v:Value}{c:Cf}{h:H}{s:Shared}{K:Bool->H->Bool}(oa:dy g c n A)(f:FR g c A fr env)(I:cV g c h s)(hv:VR g c a v)(hk:TL g.C r fr a ops es h K X=true):
  cQ g.M A (testChain pos v ops (markedEach ops es (evalEach es env))) (QB g c K) (EX g c A X) s:=
 eK hk (λhk=>cT hk λY hk=>rB hk λop e e1 e2 hk=>by cases e1;cases e2;exact tV W S oa f I hv hk) λhk=>by
  cases ops with
  |nil=>exact ft hk
  |cons op ops=>
   cases es with
   |nil=>exact ft hk
   |cons e es=>
    cases ops with
    |nil=>exact ft hk
    |cons op2 ops=>
     refine wb (e:=e) (k:=λrv t=>do standAt pos;let x<-holding [v,rv] t;release [v,rv] [x];if<-holding [x,rv] (PySem.truthy x) then testChain pos rv (op2::ops) (markedEach (op2::ops) es (evalEach es env)) else pure false) W S oa f I hv hk λw vw ag ae aa ac hw hc=>
      wpAny_bind (cU (wpAny_bind (cS (hc λb aj am hK=>wpAny_bind (fR (wpAny_bind (cS (P (wpAny_truthy_bool ?_)))))))))
     cases b with
     |false=>exact wpAny_pure ⟨ag,ae,ac,am,hK⟩
     |true=>exact rB hK λop e e3 e4 hK=>by cases e3;cases e4;exact du ac (tV W S (oa.ext I ac) (f.ext ac) am hw hK) λY Y=>QB.mono ac
theorem mT(W:SW g)(S:eO g n r){pos:Pos}{ops:List CmpOp}{es:List Expr}{a:V}{v:Value}{c:Cf}{h:H}{s:Shared}{K:V->H->Bool}(oa:dy g c n A)(f:FR g c A fr env)(I:cV g c h s)(hv:VR g c a v)(hk:BA g.C r fr a ops es h (λb h=>K (.bool b) h) X=true):
  cQ g.M A (compareChain pos v ops (markedEach ops es (evalEach es env))) (QV g c K) (EX g c A X) s:=
 rB hk λop e e1 e2 hk=>by
  cases e1;cases e2
  rw[IU S hk]
  exact wb (k:=λrv t=>do standAt pos;operate [v,rv] t) W S oa f I hv hk λw vw ag ae aa ac hw hc=>wpAny_bind (cU (d4 (hc λb aj am hK=>⟨_,ag,ae,ac,am,nV,hK⟩)))
theorem KU(W:SW g)(S:eO g n r){op:BoolOp}{pos:Pos}{es:List Expr}:∀{c:Cf} {h:H} {s:Shared} {K:V->H->Bool},dy g c n A->FR g c A fr env->cV g c h s->R9 g.C r fr op es h K X=true->
  cQ g.M A (boolOp pos op (evalEach es env)) (QV g c K) (EX g c A X) s:=by
 induction es with
 |nil=>exact λY Y Y hk=>ft hk
 |cons e es ih=>
  exact λ{c h s K} oa f I hk=>Cl hk (λhe hk=>by
   cases es with
   |nil=>exact S.ev oa f I hk
   |cons _ _=>
    exact ft he) λhe hk=>by
    cases es with
    |nil=>exact tf he
    |cons e' es=>
     refine wpAny_bind (cO (S.ev oa f I hk) (λv aa qq=>qq.elim λa ag ae ac af hv hK=>wpAny_bind (cU (wpAny_bind (cS (P (truthy_ok W af hv hK λb aj hK am=>?_)))))) λY Y x=>x)
     have rest:R9 g.C r fr op (e'::es) ae K X=true->cQ g.M A (boolOp pos op (evalEach (e'::es) env)) (QV g c K) (EX g c A X) aj:=λhk=>du ac (ih (oa.ext I ac) (f.ext ac) am hk) λY Y=>QV.mono ac
     cases op<;>cases b<;>first|exact rest hK|exact wpAny_pure ⟨a,ag,ae,ac,am,hv,hK⟩
theorem KV(S:eO g n r){op:BoolOp}{es:List Expr}:∀{c:Cf} {h:H} {s:Shared} {K:Bool->H->Bool},dy g c n A->FR g c A fr env->cV g c h s->MB r fr op es h K X=true->
  cQ g.M A (allTrue op es env) (QB g c K) (EX g c A X) s:=by
 induction es with
 |nil=>exact λ{c h s K} Y Y I hk=>by cases op<;>exact wpAny_pure ⟨c,h,.refl c,I,hk⟩
 |cons e es ih=>
  exact λ{c h s K} oa f I hk=>by
   have go:cQ g.M A (isTrue e env (eval e env)) (λb aa=>match op,b with|.And,true|.Or,false=>cQ g.M A (allTrue op es env) (QB g c K) (EX g c A X) aa|_,_=>QB g c K b aa) (EX g c A X) s:=
    cO (S.tr oa f I hk) (λb aa qq=>qq.elim λag ae ac af hK=>by
     have rest:MB r fr op es ae K X=true->cQ g.M A (allTrue op es env) (QB g c K) (EX g c A X) aa:=λhk=>du ac (ih (oa.ext I ac) (f.ext ac) af hk) λY Y=>QB.mono ac
     cases op<;>cases b<;>first|exact rest hK|exact⟨ag,ae,ac,af,hK⟩) λY Y x=>x
   cases op with
   |And=>exact iQ (cO go (λb aa q=>by cases b<;>exact q) λY Y x=>x)
   |Or=>exact i5 (cO go (λb aa q=>by cases b<;>exact q) λY Y x=>x)
end
end
section
open PySem.SeqAt
variable{g:Gb}{c c':Cf}
section
variable{n:Nat}{r:Ev}{A:Around}{fr:Fr}{env:Env}{X:Nat->H->Bool}{h:H}{s:Shared}
theorem DH(W:SW g)(S:eO g n r){op:Operator}{a b:Expr}{p:Pos}{K:V->H->Bool}(oa:dy g c n A)(f:FR g c A fr env)(I:cV g c h s)(hk:uY g.C r fr op a b h K X=true):
  cQ g.M A (eval (.BinOp a op b p) env) (QV g c K) (EX g c A X) s:=by
 rw[eval_BinOp]
 unfold uY at hk
 refine wpAny_bind (cO (S.ev oa f I hk) (λv aa qq=>qq.elim λva ag ae ac af hv hK=>?_) λY Y x=>x)
 refine wpAny_bind (cS (cO (S.ev (oa.ext I ac) (f.ext ac) af hK) (λw aj qq=>qq.elim λvb ao aq ak am hw hK=>?_) λY Y=>EX.mono ac))
 exact wpAny_bind (cU (d4 (cO (P<|binop_ok W am (hv.ext ak) hw hK) (λY Y=>QV.mono (ac.trans ak)) λY Y x=>x)))
theorem wc(W:SW g)(S:eO g n r){op:UnaryOp}{a:Expr}{p:Pos}{K:V->H->Bool}(oa:dy g c n A)(f:FR g c A fr env)(I:cV g c h s)(hk:r.ev fr a h (λva h=>Jz g.C op va h K) X=true):
  cQ g.M A (eval (.UnaryOp op a p) env) (QV g c K) (EX g c A X) s:=
 pS (cO (S.ev oa f I hk) (λY Y qq=>qq.elim λY Y Y ac af hv hK=>cO (P<|unop_ok W af hv hK) (λY Y=>QV.mono ac) λY Y x=>x) λY Y x=>x)
theorem DI(S:eO g n r){t a b:Expr}{p:Pos}{K:V->H->Bool}(oa:dy g c n A)(f:FR g c A fr env)(I:cV g c h s)(hk:r.tr fr t h (TM r fr a b K X) X=true):
  cQ g.M A (eval (.IfExp t a b p) env) (QV g c K) (EX g c A X) s:=
 tT (cO (S.tr oa f I hk) (λk aa qq=>qq.elim λag ae ac af hK=>by
  cases k with
  |true=>exact du ac (S.ev (oa.ext I ac) (f.ext ac) af hK) λY Y=>QV.mono ac
  |false=>exact du ac (S.ev (oa.ext I ac) (f.ext ac) af hK) λY Y=>QV.mono ac) λY Y x=>x)
theorem we(W:SW g)(S:eO g n r){l:Expr}{ops:List CmpOp}{es:List Expr}{p:Pos}{K:V->H->Bool}(oa:dy g c n A)(f:FR g c A fr env)(I:cV g c h s)(hk:Iv g.C r fr l ops es h K X=true):
  cQ g.M A (eval (.Compare l ops es p) env) (QV g c K) (EX g c A X) s:=by
 rw[arm_eval_Compare]
 exact wpAny_bind (cO (S.ev oa f I hk) (λv aa qq=>qq.elim λva ag ae ac af hv hK=>du ac (mT W S (oa.ext I ac) (f.ext ac) af hv hK) λY Y=>QV.mono ac) λY Y x=>x)
theorem DJ(S:eO g n r){es:List Expr}{k:Nat}{p:Pos}{K:V->H->Bool}(oa:dy g c n A)(f:FR g c A fr env)(I:cV g c h s)(hk:AT r fr es h (λvs h=>Nc vs.length (K (.tup vs) h)) X=true):
  cQ g.M A (eval (.Tuple es k p) env) (QV g c K) (EX g c A X) s:=
 tU (cO (mf S oa f I hk) (λvs aa qq=>qq.elim λl ag ae ac af hv hK=>by
  refine e02 (Cj hK) λhl hK=>?_
  refine e13 (xW af hv) λao ak am r₂=>?_
  exact⟨dC (Va (Vg hv.length) (Va hl (by decide))),_,ao,ae,ac.trans ak,am,r₂,hK⟩) λY Y x=>x)
theorem GY(S:eO g n r){es:List Expr}{p:Pos}{K:V->H->Bool}(oa:dy g c n A)(f:FR g c A fr env)(I:cV g c h s)(hk:AT r fr es h (λvs h=>Nc vs.length (K (.ref h.length) (h.push (.list vs)))) X=true):
  cQ g.M A (eval (.List es p) env) (QV g c K) (EX g c A X) s:=
 wa (cO (mf S oa f I hk) (λvs aa qq=>qq.elim λl ag ae ac af hv hK=>by
  refine e02 (Cj hK) λhl hK=>?_
  refine e13 (kE af hv hl) λao ak am r₂=>?_
  exact⟨dC (Va (Vg hv.length) (Va hl (by decide))),_,ao,_,ac.trans ak,am,r₂,hK⟩) λY Y x=>x)
theorem gU{o:Expr}{attr:Str}{whole:Sem Value}{Q:Value->Shared->Prop}{E:Value->Shared->Prop}(hc:env.kindOf "__class__"≠some .free)(hw:cQ g.M A whole Q E s):cQ g.M A (attributeBase o attr env whole) Q E s:=by
 unfold attributeBase
 cases o with
 |Call f a k p=>
  cases f with
  |Name id q=>
   cases a with
   |nil=>
    cases k with
    |nil=>exact kQ (by rw[bne_iff_ne.mpr hc,Bool.or_true]) hw
    |cons _ _=>exact hw
   |cons _ _=>exact hw
  |_=>exact hw
 |_=>exact hw
end
end
section
open PySem.SeqAt
variable{g:Gb}{c c':Cf}
section
variable{n:Nat}{r:Ev}{A:Around}{fr:Fr}{env:Env}{X:Nat->H->Bool}{h:H}{s:Shared}{E:Value->Shared->Prop}
theorem GZ(S:eO g n r){ts:List Expr}:∀{as:List V} {vs:List Value} {c:Cf} {h:H} {s:Shared} {K:H->Bool},dy g c n A->FR g c A fr env->cV g c h s->da g c as vs->JT r fr ts as h K X=true->
  cQ g.M A (assignInOrder (ts.map λt=>assign t env) vs) (QU g c K) (EX g c A X) s:=by
 induction ts with
 |nil=>
  exact λ{as vs c h s K} oa f I hv hk=>cT hk λe hk=>by
   cases as with
   |nil=>cases (show vs=[] from hv);exact wpAny_pure ⟨c,h,.refl c,I,hk⟩
   |cons _ _=>exact ft e
 |cons t ts ih=>
  exact λ{as vs c h s K} oa f I hv hk=>by
   cases as with
   |nil=>exact ft hk
   |cons a as=>
    refine e23 hv λx xs zq80 h1 h2=>?_;clear hv
    cases zq80
    exact wpAny_bind (cS (cO (S.asg oa f I h1 hk) (λY aa qq=>qq.elim λag ae ac af hK=>du ac (ih (oa.ext I ac) (f.ext ac) af (h2.ext ac) hK) λY Y=>QU.mono ac) λY Y x=>x))
theorem Ad(S:eO g n r){es:List Expr}{k:Nat}{p:Pos}{a:V}{v:Value}{K:H->Bool}(hq:g.C.quiet=false)(oa:dy g c n A)(f:FR g c A fr env)(I:cV g c h s)(hv:VR g c a v)(hk:xA r fr es a h K X=true):
  cQ g.M A (assign (.Tuple es k p) env v) (QU g c K) (EX g c A X) s:=
 kT (P:=λv=>cQ g.M A (assign (.Tuple es k p) env v) (QU g c K) (EX g c A X) s) hk hv λvs x ws h1 h2 hk=>iV hk λhl hs hk=>by
  have hp:=hY (env:=env) (fM hs)
  refine kg (oa.hh hq) (I.tup _ _ h1) (by rw[hp,Vs,Vz,h2.length];exact cX hl) (by rw[hp];exact jV es) λh' he=>?_
  rw[hp,WO]
  exact GZ S oa f (I.keep (s':={s with heap:=h'}) (λb o e=>he b o (Vy (VB e)) e) ⟨rfl,rfl,rfl⟩) h2 hk
end
end
section
open PySem.SeqAt
variable{g:Gb}{c c':Cf}
section
variable{n:Nat}{r:Ev}{A:Around}{fr:Fr}{env:Env}{X:Nat->H->Bool}{h:H}{s:Shared}{E:Value->Shared->Prop}
noncomputable abbrev RO(K:H->Bool)(f:f9)(h:H):Bool:=match f with|.nx=>K h|_=>false
theorem IV{K:H->Bool}{u:Unit}{aa:Shared}(q:QU g c K u aa):QF g c (RO K) .next aa:=q.elim λag ae ac af hK=>⟨ag,ae,ac,af,hK⟩
theorem wf(S:eO g n r){t:Expr}{p:Pos}{elt:Expr}{gs:List Comprehension}{sc:Scope}{ep:Pos}{K:H->Bool}(oa:dy g c n A)(f:FR g c A fr env)(I:cV g c h s)
  (ht:∀v,assignAll v ((assignEach [t] env).map (·.2))=assign t env v)
  (hk:r.ev fr (.ListComp elt gs sc ep) h (λv h=>r.asg fr t v h K X) X=true):cQ g.M A (exec (.Assign [t] (.ListComp elt gs sc ep) p) env) (QF g c (RO K)) (EX g c A X) s:=by
 have plain:swappedStores [t] (.ListComp elt gs sc ep) env=pure none->swapsWithSole [t] (.ListComp elt gs sc ep) p.line env=pure false->cQ g.M A (exec (.Assign [t] (.ListComp elt gs sc ep) p) env) (QF g c (RO K)) (EX g c A X) s:=λhw hs=>
  gc (cO (S.ev oa f I hk) (λv aa qq=>qq.elim λa ag ae ac af hv hK=>by
   rw[ht]
   exact du ac (S.asg (oa.up ac) (f.ext ac) af hv hK) λY aj q=>IV (QU.mono ac q)) λY Y x=>x) hs hw
 cases hn:gY t with
 |some x=>
  obtain⟨px,rfl⟩:=jD hn
  obtain⟨b,hs,hb⟩:∃b,swapsWithSole [.Name x px] (.ListComp elt gs sc ep) p.line env=pure b/\(b=true->env.kindOf x=some .local):=⟨_,rfl,λq=>by
   simp only[WH,beq_iff_eq] at q
   exact q.1.1.2⟩
  cases b with
  |false=>exact plain rfl hs
  |true=>
   rw[CY,hs]
   refine wpAny_bind (cU (wpAny_bind (wpAny_pure (kQ rfl ?_))))
   rw[show(λv=>assignAll v ((assignEach [.Name x px] env).map (·.2)))=assign (.Name x px) env from funext ht]
   exact wpAny_bind (cO (S.cu oa f I (hb rfl) hk λv h q=>S.nm q) (λY aa q=>wpAny_pure (IV q)) λY Y x=>x)
 |none=>cases t<;>first|exact nn' hn|exact plain rfl rfl
theorem SJ{α:Type}{l:List α}(h:l.length=2):∃x y,l=[x,y]:=match l,h with|[x,y],_=>⟨x,y,rfl⟩
theorem G1(S:eO g n r){ts:List Expr}{k:Nat}{tp p:Pos}{e:Expr}{names:List Str}{K:H->Bool}(oa:dy g c n A)(f:FR g c A fr env)(I:cV g c h s)(hne:swapsWithSole [.Tuple ts k tp] e p.line env=pure false)(hsw:kc env ts names)
  (hw:swappedStores [.Tuple ts k tp] e env=pure (some names)) (hk:r.ev fr e h (λv h=>r.asg fr (.Tuple ts k tp) v h K X) X=true):
  cQ g.M A (exec (.Assign [.Tuple ts k tp] e p) env) (QF g c (RO K)) (EX g c A X) s:=by
 obtain⟨x,y,rfl⟩:=SJ hsw.two
 refine jq (cO (S.ev oa f I hk) (λv aa qq=>qq.elim λa ag ae ac af hv hK=>?_) λY Y x=>x) hne hw
 obtain⟨hq,vs,rfl,hB⟩:=S.tp hsw.nms hK
 obtain⟨t,ws,rfl,hT,hr⟩:=hv
 have aH:=f.ext ac
 have lx:=hsw.loc x Vc
 have ly:=hsw.loc y (Vd _ Vc)
 cases vs with
 |nil=>exact ft hB
 |cons a vs=>
  cases vs with
  |nil=>exact iK aH lx (gj hB) λm Y Y hB=>ft hB
  |cons b vs=>
   refine iK aH lx (gj hB) λm hx hm hB=>iK aH ly (gj hB) λm' hy hm' hB=>cT hB λhn hK'=>?_
   rw[H.get_set,if_pos rfl] at hm'
   cases hm'
   obtain⟨v,_,rfl,hv1,hr⟩:=hr
   obtain⟨w,us,rfl,hv2,hr⟩:=hr
   cases vs with
   |cons _ _=>exact ft hn
   |nil=>
    cases (show us=[] from hr)
    obtain⟨hlt,mm,hns,hnr⟩:=af.obj _ _ hm
    refine P<|unpackItems_tuple (items:=[v,w].toArray) (oa.hh hq) (af.tup _ _ hT) λhp he=>?_
    have kp:∀b o,aa.heap.get? b=some o->hp.get? b=some o:=λb o e=>he b o (Vy (VB e)) e
    have am:cV g ag ae {aa with heap:=hp}:=af.keep kp ⟨rfl,rfl,rfl⟩
    have cG:hp.Ns (ag.ρ fr.ns) mm:=by
     obtain⟨o,es,ep,a1,a2⟩:=id hns
     exact⟨o,es,ep,kp _ _ a1,a2⟩
    have dc:cd x≠cd y:=λq=>SD hsw.dup (en hx q)
    have hN:NR g ag (ny (ny m (cd x) a) (cd y) b) ([(y,w),(x,v)].foldl (λmm x=>λy=>if y=x.1 then some x.2 else mm y) mm):=by
     refine NR.asc ((hnr.put hy hv2).put hx hv1) λk=>?_
     rw[ky,ky,ky,ky]
     by_cases q1:k=cd x
     .subst q1;rw[if_neg dc,if_pos rfl,if_pos rfl]
     .rw[if_neg q1,if_neg q1]
    refine P<|stores_ok (l:=[(y,w),(x,v)]) (nl:=ag.ρ fr.ns) aH.loc aH.kind (λp hp=>?_) cG λhp' tk hn' hs'=>?_
    .cases hp with
     |head=>exact ly
     |tail _ hp=>exact List.mem_singleton.mp hp▸lx
    .obtain⟨ob,es,ep,ho,_⟩:=id hn'
     refine⟨ag,_,ac,?_,hK'⟩
     have az:cV g ag (ae.set fr.ns (.ns (ny (ny m (cd x) a) (cd y) b))) {aa with heap:=hp',toks:=tk}:=am.setN hm ho hs' ⟨_,hn',hN⟩
     exact az.same (λj=>by
      rw[H.get_set,H.get_set,H.get_set]
      by_cases q:fr.ns=j
      .rw[if_pos q,if_pos q]
      .rw[if_neg q,if_neg q,if_neg q]) (by rw[H.length_set,H.length_set,H.length_set])
end
end
section
open PySem.SeqAt
variable{g:Gb}{c c':Cf}
noncomputable def wg(g:Gb):Prop:=∀{n:Nat} {r:Ev} {A:Around} {fr:Fr} {env:Env} {X:Nat->H->Bool} {c:Cf} {h:H} {s:Shared} {o:Expr} {lo hi st:Option Expr} {p p':Pos} {a:V} {v:Value} {K:H->Bool},eO g n r->dy g c n A->FR g c A fr env->cV g c h s->VR g c a v->
  qX r fr o lo hi st a h K X=true->cQ g.M A (assign (.Subscript o (.Slice lo hi st p') p) env v) (QU g c K) (EX g c A X) s
noncomputable def wj(g:Gb):Prop:=∀{n:Nat} {r:Ev} {A:Around} {fr:Fr} {env:Env} {X:Nat->H->Bool} {c:Cf} {h:H} {s:Shared} {t it:Expr} {b o:List Stmt} {p:Pos} {K:f9->H->Bool},ic g n r->dy g c n A->FR g c A fr env->cV g c h s->vk g.C r fr t it b o h K X=true->
  cQ g.M A (exec (.For t it b o p) env) (QF g c K) (EX g c A X) s
noncomputable def tW(g:Gb):Prop:=∀{n:Nat} {r:Ev} {A:Around} {fr:Fr} {env:Env} {X:Nat->H->Bool} {c:Cf} {h:H} {s:Shared} {e cs:Option Expr} {p:Pos},eO g n r->dy g c n A->FR g c A fr env->cV g c h s->vj g.C r fr e cs h X=true->
  cQ g.M A (exec (.Raise e cs p) env) (λY Y=>False) (EX g c A X) s
noncomputable def wl(g:Gb):Prop:=∀{n:Nat} {r q:Ev} {A:Around} {fr:Fr} {env:Env} {X:Nat->H->Bool} {c:Cf} {h:H} {s:Shared} {b o fi:List Stmt} {hs:List ExceptHandler} {p:Pos} {K:f9->H->Bool},eO g n r->eO {g with C:=iB g.C} n q->dy g c n A->FR g c A fr env->cV g c h s->vh g.C r q fr b hs o fi h K X=true->
  cQ g.M A (exec (.Try b hs o fi p) env) (QF g c K) (EX g c A X) s
structure yx(g:Gb):Prop where
 setS:wg g
 for_:wj g
 raise:tW g
 try_:wl g
section
variable{n:Nat}{r q:Ev}{A:Around}{fr:Fr}{env:Env}{X:Nat->H->Bool}{h:H}{s:Shared}
theorem Ae(T:yx g)(S:eO g n r){o i:Expr}{p:Pos}{a:V}{v:Value}{K:H->Bool}(oa:dy g c n A)(f:FR g c A fr env)(I:cV g c h s)(hv:VR g c a v)(hk:xz r fr o i a h K X=true):
  cQ g.M A (assign (.Subscript o i p) env v) (QU g c K) (EX g c A X) s:=by
 have go:(r.ev fr o h (λo h=>r.ev fr i h (ve a K o) X) X)=true->cQ g.M A (assign (.Subscript o i p) env v) (QU g c K) (EX g c A X) s:=λhk=>by
   rw[arm_assign_Subscript]
   refine wpAny_bind (cS (cO (S.ev oa f I hk) (λw aa qq=>qq.elim λo ag ae ac af hw hK=>?_) λY Y x=>x))
   refine wpAny_bind (cS (cO (S.ev (oa.ext I ac) (f.ext ac) af hK) (λwi aj qq=>qq.elim λi ao aq ak am hwi hK=>?_) λY Y=>EX.mono ac))
   have hu:=oa.un
   refine wpAny_bind (cU (wpAny_bind (cS (cO (P<|setI_ok am ((hv.ext ac).ext ak) (hw.ext ak) hwi hK) (λY av q=>?_) λY Y x=>x))))
   exact fR (QU.mono (ac.trans ak) q)
 cases i with
 |Slice lo hi st p=>exact T.setS S oa f I hv hk
 |_=>exact go hk
theorem KW(CL:CF g)(T:yx g)(S:eO g n r){t:Expr}{a:V}{v:Value}{K:H->Bool}(oa:dy g c n A)(f:FR g c A fr env)(I:cV g c h s)(hv:VR g c a v)(hk:xB g.C r fr t a h K X=true):
  cQ g.M A (assign t env v) (QU g c K) (EX g c A X) s:=by
 cases t with
 |Name x p=>exact gT (lL f I hv hk)
 |Tuple es k p=>
  refine e02 (kJ hk) λhq hk=>?_
  exact Ad S hq oa f I hv hk
 |Attribute o a p=>
  rw[arm_assign_Attribute]
  refine wpAny_bind (cS (cO (S.ev oa f I hk) (λw aa qq=>qq.elim λo ag ae ac af hw hK=>?_) λY Y x=>x))
  refine wpAny_bind (cU (wpAny_bind (cS (cO (P<|setAtt_ok CL af (hv.ext ac) hw hK) (λY aj q=>?_) λY Y x=>x))))
  exact fR (QU.mono ac q)
 |Subscript o i p=>exact Ae T S oa f I hv hk
 |_=>exact ft hk
theorem ie{st:Stmt}{ss:List Stmt}{Q Q':Flow->Shared->Prop}{E:Value->Shared->Prop}(h:cQ g.M A (exec st env) Q' E s)(hn:∀aa,Q' .next aa->cQ g.M A (execs ss env) Q E aa)(ho:∀fl aa,fl≠.next->Q' fl aa->Q fl aa):
  cQ g.M A (execs (st::ss) env) Q E s:=by
 refine l8 (cO h (λfl aa x=>?_) λY Y x=>x)
 cases fl with
 |next=>exact hn aa x
 |ret v=>exact ho _ aa nofun x
 |brk=>exact ho _ aa nofun x
 |cont=>exact ho _ aa nofun x
theorem ig(S:eO g n r){st:Stmt}{ss:List Stmt}{K:f9->H->Bool}(oa:dy g c n A)(f:FR g c A fr env)(I:cV g c h s)(hw:cQ g.M A (exec st env) (QF g c (qh r fr ss K X)) (EX g c A X) s):
  cQ g.M A (execs (st::ss) env) (QF g c K) (EX g c A X) s:=
 ie hw (λaa ⟨ao,aq,ak,am,hK⟩=>du ak (S.ex (oa.ext I ak) (f.ext ak) am hK) λY Y=>QF.mono ak) λfl aa hne x=>by
  cases fl with
  |next=>exact absurd rfl hne
  |ret v=>exact x
  |brk=>exact x
  |cont=>exact x
theorem DK(S:eO g n r){ts:List Expr}{e:Expr}{p:Pos}{ss:List Stmt}{K:f9->H->Bool}(oa:dy g c n A)(f:FR g c A fr env)(I:cV g c h s)(hk:BL r fr ts e h (λh=>r.ex fr ss h K X) X=true):
  cQ g.M A (execs (.Assign ts e p::ss) env) (QF g c K) (EX g c A X) s:=by
 cases ts with
 |nil=>exact ft hk
 |cons t ts=>
  cases ts with
  |cons _ _=>exact ft hk
  |nil=>
   refine cT hk λhs hk=>iV hs λY hoe Y=>ig S oa f I ?_
   cases hc:qY e with
   |true=>cases e<;>first|exact ft hc|exact cO (wf S oa f I (zK hs) hk) (λY Y=>yf λY x=>x) λY Y x=>x
   |false=>
    rcases pJ (env:=env) hs with hw|⟨ts,k,tp,names,rfl,hw,hsw⟩
    .refine gc (cO (S.ev oa f I hk) (λv aa qq=>qq.elim λa ag ae ac af hv hK=>?_) λY Y x=>x) (ye hoe hc) hw
     rw[zK hs]
     exact du ac (S.asg (oa.ext I ac) (f.ext ac) af hv hK) λY aj qq=>qq.elim λao aq ak am hK=>⟨ao,aq,ac.trans ak,am,hK⟩
    .exact cO (G1 S oa f I (ye hoe hc) hsw hw hk) (λY Y=>yf λY x=>x) λY Y x=>x
theorem NU(T:yx g)(SP:ic g n r)(S:eO g n r)(Sq:eO {g with C:=iB g.C} n q){ss:List Stmt}{K:f9->H->Bool}(oa:dy g c n A)(f:FR g c A fr env)(I:cV g c h s)(hk:BO g.C r q fr ss h K X=true):
  cQ g.M A (execs ss env) (QF g c K) (EX g c A X) s:=by
 cases ss with
 |nil=>exact eV ⟨c,h,.refl c,I,hk⟩
 |cons st ss=>
  cases st with
  |Assign ts e p=>exact DK S oa f I hk
  |If t a b p=>
   refine ig S oa f I (DC (cO (S.tr oa f I hk) (λb aa qq=>qq.elim λag ae ac af hK=>?_) λY Y x=>x))
   cases b with
   |true=>exact du ac (S.ex (oa.ext I ac) (f.ext ac) af hK) λY Y=>QF.mono ac
   |false=>exact du ac (S.ex (oa.ext I ac) (f.ext ac) af hK) λY Y=>QF.mono ac
  |For t it b o p=>exact ig S oa f I (T.for_ SP oa f I hk)
  |While t b o p=>
   cases o with
   |nil=>exact ig S oa f I (tQ (dB (S.wh oa f I hk) λq s' x=>by cases q with|ok _=>exact x|error _=>exact dS.back f x))
   |cons _ _=>exact ft hk
  |Return e p=>
   cases e with
   |some e=>exact ie (kV (Q:=λfl aa=>fl≠.next/\QF g c K fl aa) (cO (S.ev oa f I hk) (λv aa qq=>qq.elim λa ag ae ac af hv hK=>⟨nofun,a,ag,ae,ac,af,hv,hK⟩) λY Y x=>x)) (λY x=>absurd rfl x.1) λY Y Y x=>x.2
   |none=>exact ft hk
  |Raise e cz p=>exact ie (T.raise S oa f I hk) (λY x=>x.elim) λY Y Y x=>x.elim
  |Try b hs o fb p=>exact ig S oa f I (T.try_ S Sq oa f I hk)
  |Expr e p=>exact iV hk λhc ho hk=>ig S oa f I (oV (Q:=QF g c (qh r fr ss K X)) (cO (S.ev oa f I hk) (λv aa qq=>qq.elim λa ag ae ac af hv hK=>⟨ag,ae,ac,af,hK⟩) λY Y x=>x) f.inter (Gu ho (dO hc)))
  |_=>exact ft hk
end
end
section
open PySem.SeqAt
variable{g:Gb}{c c':Cf}
section
variable{n:Nat}{r:Ev}{A:Around}{X:Nat->H->Bool}{h:H}{s:Shared}
theorem kW(F:FF g){i:Nat}{args:List V}{vs:List Value}{Kf:gt->Fr->H->Bool}{Q:Value->Shared->Prop}{E:Value->Shared->Prop}(oa:dy g c (n+1) A)(I:cV g c h s)(hv:da g c args vs)
  (hk:cR (g.C.F.get i) (λfi=>cR (fu fi.params fi.dfl args) λfull=>Prod.rec (motive:=λY=>Bool) (λfr h=>d7 fr h (Kf fi fr) fi.params full) (ez fi.lam fi.ks [] h))=true)
  (hb:∀fi fr env ag ae aa,g.C.F.get i=some fi->fr.ns=h.length->fr.ks=fi.ks->dz c ag->FR g ag (A.deeper env) fr env->ag.N fr.ns->(∀ao,dz c ao->fr.ns<ao.n->ao.N fr.ns->env.locals=ao.ρ fr.ns->dy g ao n (A.deeper env))->cV g ag ae aa->Kf fi fr ae=true->
   cQ g.M (A.deeper env) (execs fi.body env) (λfl aj=>Q (match fl with|.ret v=>v|_=>.none) aj) (λe aj=>PySem.wpAny g.M (A.deeper env) (leaving env e) (λY av=>E e av) (λe' av=>E e' av) aj) aa):
  cQ g.M A (call (.ref (g.fa i)) vs) Q E s:=
 cP hk λfi hfi hk=>cP hk λfull hfull hk=>by
  refine e21 (F.fn hfi) λfd o O=>?_
  refine e13 (O.bind I hv hfull) λbinds hb1 hb2 hb3=>?_
  refine fO (i6 (oa.deep) (I.base _ _ O.at_) O.data O.co O.gen O.body (O.code.keeps I.base) (hb1 _ _ _ _ ?_))
  rw[O.glob,O.clo,O.bi]
  rw[<-hb2,<-O.names] at hk
  refine frame_ok (cs0:=[]) (K:=Kf fi) (lm:=fi.lam) O.kind O.nocls O.nodbg O.nocd (λY q=>nn q) (λq Y Y=>O.lam q) (λx i Y Y q=>nn (show none=some i from q)) I hb3 hk λfr env ag ae aa Z hK=>⟨F.lim.keeps Z.i.base,rA ?_⟩
  refine e03 (Z.within oa) λf hN hoa=>?_
  exact hb fi fr env ag ae aa hfi Z.ns (Z.ks.trans O.names) Z.e f hN hoa Z.i hK
theorem tY(F:FF g)(S:eO g n r){i:Nat}{args:List V}{vs:List Value}{K:V->H->Bool}(oa:dy g c (n+1) A)(I:cV g c h s)(hv:da g c args vs)(hk:u9 g.C r i args h K X=true):
  cQ g.M A (call (.ref (g.fa i)) vs) (QV g c K) (EX g c A X) s:=
 kW F (Kf:=λfi fr h=>r.ex fr fi.body h (mt K) X) oa I hv hk λfi fr env ag ae aa Y Y Y ac f hN hoa af hK=>by
  have bp:=hoa ag ac f.ins hN f.loc
  refine cO (S.ex bp f af hK) (λfl aj x=>?_) λe aj x=>PySem.wpAny_mono (sS bp f x) (λY Y y=>EX.mono ac y) λY Y y=>y
  cases fl with
  |next=>exact QU.elim x λao aq ak am hK=>⟨.none,ao,aq,ac.trans ak,am,iI,hK⟩
  |ret v=>exact QV.mono ac x
  |brk=>exact x.elim
  |cont=>exact x.elim
end
end
section
open PySem.SeqAt
variable{g:Gb}{c c':Cf}
section
variable{A:Around}{E:Value->Shared->Prop}{s:Shared}
theorem rD{f:Value}{args:List (Bool×Sem Value)}{Q:Args->Shared->Prop}(hplain:args.any (·.1)=false)(h:cQ g.M A (spliced args) (λvs s'=>Q ⟨vs,[]⟩ s') E s):cQ g.M A (evalArgs f true args []) Q E s:=by
 cases args with
 |nil=>
  unfold evalArgs
  refine(?_:cQ g.M A (spliced []>>=_) Q E s)
  refine wpAny_bind (cO h (λvs s' h'=>?_) λY Y x=>x)
  refine cS ?_
  exact wpAny_bind (wpAny_pure (wpAny_bind (wpAny_pure (wpAny_pure h'))))
 |cons x r=>
  obtain⟨st,x⟩:=x
  cases st with
  |true=>cases hplain
  |false=>
   unfold evalArgs
   refine(?_:cQ g.M A (spliced ((false,x)::r)>>=_) Q E s)
   refine wpAny_bind (cO h (λvs s' h'=>?_) λY Y x=>x)
   refine cS ?_
   exact wpAny_bind (wpAny_pure (wpAny_bind (wpAny_pure (wpAny_pure h'))))
theorem callWith_any{pos:Pos}{f:Value}{first:List Value}{args:List (Bool×Sem Value)}{Q:Value->Shared->Prop}(hplain:args.any (·.1)=false)
  (h:cQ g.M A (spliced args) (λvs aa=>fx g f aa/\cQ g.M A (call f (first++vs)) Q E aa) E s):cQ g.M A (callWith pos f first args []) Q E s:=by
 refine(?_:cQ g.M A (holding (f::first) (evalArgs f true args [])>>=λa=>_) Q E s)
 refine wpAny_bind (cS (cO (rD hplain (Q:=λx aa=>x.kw=[]/\fx g f aa/\cQ g.M A (call f (first++x.pos)) Q E aa) (cO h (λvs aa x=>⟨rfl,x⟩) λY Y x=>x)) (λx aa ae=>?_) λY Y x=>x))
 obtain⟨vs,kw⟩:=x
 refine e03 ae λhk h1 h2=>?_;clear ae
 have hk:kw=[]:=hk
 subst hk
 refine wpAny_bind (cU ?_)
 have tail:∀{t:Sem Value},cQ g.M A t Q E aa->cQ g.M A (t>>=λr=>holding [r] point>>=λY=>pure r) Q E aa:=
  λht=>wpAny_bind (cO ht (λr aj hr=>wpAny_bind (cS (jo (wpAny_pure hr)))) λY Y x=>x)
 have two:∀{b:Prop} [Decidable b] {v:Value},cQ g.M A (if b then call f (first++vs) []>>=λr=>holding [r] point>>=λY=>pure r else callMarked v f (first++vs) []>>=λr=>holding [r] point>>=λY=>pure r) Q E aa:=
  λ{b _ v}=>by by_cases e:b;exact kQ e (tail h2);exact fE e (tail (v8 h2))
 rw[hplain]
 refine wpAny_bind (P (h1 A E _ λk=>?_))
 cases k
 .exact two
 .exact two
 .exact tail h2
 .exact tail (d4 h2)
end
end
section
open PySem.SeqAt
variable{g:Gb}{c c':Cf}
noncomputable def pT(g:Gb):Prop:=∀{n:Nat} {A:Around} {E:Value->Shared->Prop} {x:Nat} {args:List V} {vs:List Value} {c:Cf} {h:H} {s:Shared} {K:V->H->Bool},dy g c n A->cV g c h s->da g c args vs->builtin g.C x args h K=true->
  cQ g.M A (call (jG x) vs) (QV g c K) E s
noncomputable def wm(g:Gb):Prop:=∀{n:Nat} {r:Ev} {A:Around} {fr:Fr} {env:Env} {X:Nat->H->Bool} {o:Expr} {name:Str} {ap p:Pos} {args:List Expr} {a:V} {v:Value} {c:Cf} {h:H} {s:Shared} {K:V->H->Bool} {m:V->BF},eO g n r->dy g c n A->FR g c A fr env->cV g c h s->VR g c a v->
  eS args=true->args.length≤20->sK a (cd name) h (FA g.C)=some m->ap.endLine=p.line->AT r fr args h (λvs h=>iw g.C (m a vs h K)) X=true->
  cQ g.M A (methodCall o name ap p env v (args.length+([]:List Keyword).length) (backTo p (starEach args env)) (backToKw p (keywordEach [] env))) (QV g c K) (EX g c A X) s
noncomputable def wn(g:Gb):Prop:=∀{n:Nat} {A:Around} {i:Nat} {args:List V} {vs:List Value} {c:Cf} {h:H} {s:Shared} {outs:List dV} {K:V->H->Bool} {X:Nat->H->Bool},dy g c (n+1) A->cV g c h s->da g c args vs->g.C.quiet=false->g.C.P i args h=some outs->JK outs h K X=true->
  cQ g.M A (call (.ref (g.fa i)) vs) (QV g c K) (EX g c A X) s
noncomputable def Af(g:Gb):Prop:=∀{n:Nat} {A:Around} {E:Value->Shared->Prop} {i:Nat} {inf:gb} {args:List V} {vs:List Value} {c:Cf} {h:H} {s:Shared} {K:V->H->Bool},dy g c (n+1) A->cV g c h s->da g c args vs->g.C.C.get i=some inf->inf.exc=true->inf.init=0->BH i args h K=true->
  cQ g.M A (call (.ref (g.ca i)) vs) (QV g c K) E s
noncomputable def Ag(g:Gb):Prop:=∀{n:Nat} {r:Ev} {A:Around} {k:Nat} {args:List V} {vs:List Value} {c:Cf} {h:H} {s:Shared} {K:V->H->Bool} {X:Nat->H->Bool},eO g n r->dy g c (n+1) A->cV g c h s->da g c args vs->g.C.quiet=false->vd r k args h K X=true->
  cQ g.M A (call (.ref (c.ρ k)) vs) (QV g c K) (EX g c A X) s
noncomputable def pU(g:Gb):Prop:=∀{k:Nat} {c:Cf} {h:H} {s:Shared} {x:Nat} {b:Expr} {sc:List (Nat×NameKind)} {cs:List (Nat×Nat)},cV g c h s->h.get k=some (.lam x b sc cs)->fx g (.ref (c.ρ k)) s
noncomputable def pV(g:Gb):Prop:=∀{i:Nat} {inf:gb} {c:Cf} {h:H} {s:Shared},cV g c h s->g.C.C.get i=some inf->fx g (.ref (g.ca i)) s
structure mG(g:Gb):Prop where
 builtin:pT g
 meth:wm g
 tok:∀{c:Cf} {k:Nat} {v:Value},g.TK k c v->∃a,a∈g.C.toks k/\VR g c a v
 prim:wn g
 exc:Af g
 lam:Ag g
 keepCls:pV g
 keepLam:pU g
section
variable{n:Nat}{r:Ev}{A:Around}{fr:Fr}{env:Env}{X:Nat->H->Bool}{h:H}{s:Shared}
theorem Ah(F:FF g)(T:mG g){f:V}{v:Value}(I:cV g c h s)(hv:VR g c f v)(hk:u7 g.C f h=true):fx g v s:=by
 cases f with
 |bi x=>cases (show v=jG x from hv);exact on (P:=λv=>fx g v s) ⟨d8,d8,d8,d8,d8,dR,dR,dR,dR,dR,dR,dR,dR,td⟩
 |fn i=>
  cases (show v=.ref (g.fa i) from hv)
  refine e11 (Option.isSome_iff_exists.mp hk) λfi hfi=>?_
  refine e21 (F.fn hfi) λfd o O=>?_
  exact lM (I.base _ _ O.at_) O.data
 |cls i=>
  cases (show v=.ref (g.ca i) from hv)
  exact(Option.isSome_iff_exists.mp hk).elim λinf hi=>T.keepCls I hi
 |ref k=>
  cases (show k<c.n/\v=.ref (c.ρ k) from hv).2
  exact(Option.isSome_iff_exists.mp hk).elim λl e=>cW e λo e1 e2=>T.keepLam I (e1.trans (congrArg some (IN e2)))
 |_=>exact ft hk
theorem DL(F:FF g)(T:mG g)(S:eO g n r){f:Expr}{args:List Expr}{p:Pos}{K:V->H->Bool}(oa:dy g c n A)(fe:FR g c A fr env)(I:cV g c h s)(hs:eS args=true)(hk:qV g.C r fr f args h K X=true)
  (harm:eval (.Call f args [] p) env=(do callWith p (<-eval f env) [] (backTo p (starEach args env)) (backToKw p (keywordEach [] env)))):
  cQ g.M A (eval (.Call f args [] p) env) (QV g c K) (EX g c A X) s:=by
 rw[harm]
 unfold qV at hk
 refine wpAny_bind (cO (S.ev oa fe I hk) (λv aa qq=>qq.elim λa ag ae ac af hv hK=>?_) λY Y x=>x)
 refine callWith_any (gp (fM hs)) (cO (mf S (oa.ext I ac) (fe.ext ac) af hK) (λvs aj qq=>qq.elim λl ao aq ak am hl hK=>?_) λY Y=>EX.mono ac)
 refine e02 (qn hK) λhc hK=>?_
 exact⟨Ah F T am (hv.ext ak) hc,du (ac.trans ak) (S.cl ((oa.ext I ac).ext af ak) am (hv.ext ak) hl hK) λY Y=>QV.mono (ac.trans ak)⟩
theorem Ai{args:List Expr}{p:Pos}{env:Env}(hs:eS args=true)(hlen:args.length≤20):methodCallForm (args.length+([]:List Keyword).length) (backTo p (starEach args env)) (backToKw p (keywordEach [] env))=true:=by
 have h1:=gp (env:=env) (pos:=p) (fM hs)
 have h2:(backTo p (starEach args env)).all (λx=>!x.1)=true:=by
  rw[List.all_eq_true];intro x hx;rw[Xc] at h1;rw[Bool.eq_false_iff.mpr (h1 x hx)];rfl
 unfold methodCallForm
 rw[h2]
 have e:backToKw p (keywordEach [] env)=[]:=rfl
 rw[e]
 exact decide_eq_true (p:=args.length+0+0<30) (W7 hlen (by decide))
theorem qz{o:Expr}{m:Str}{ap p:Pos}{args:List Expr}{v:Value}{Q E}(hs:eS args=true)(hlen:args.length≤20)(hline:ap.endLine=p.line)
  (hg:∀pl,cQ g.M A (getMethod v m pl) (λx aa=>cQ g.M A (callWith p x.1 x.2 (backTo p (starEach args env)) (backToKw p (keywordEach [] env))) Q E aa) E s):
  cQ g.M A (methodCall o m ap p env v (args.length+([]:List Keyword).length) (backTo p (starEach args env)) (backToKw p (keywordEach [] env))) Q E s:=by
 unfold methodCall
 rw[Ai hs hlen]
 unfold calleeOf methodCallPos
 refine wpAny_bind (cS (cO (hg _) (λx aa hx=>?_) λY Y x=>x))
 rw[if_pos (show(!true||ap.endLine==p.line)=true by rw[hline];exact beq_self_eq_true _)]
 exact wpAny_bind (wpAny_pure hx)
theorem DM(W:SW g)(CL:CF g)(F:FF g)(T:mG g)(S:eO g n r){o:Expr}{m:Str}{ap p:Pos}{args:List Expr}{K:V->H->Bool}(oa:dy g c n A)(fe:FR g c A fr env)(I:cV g c h s)(hs:eS args=true)(hk:BB g.C r fr o m ap p args h K X=true):
  cQ g.M A (eval (.Call (.Attribute o m ap) args [] p) env) (QV g c K) (EX g c A X) s:=by
 rw[arm_eval_Call]
 refine iV hk λhline hlen hk=>wpAny_bind (gU fe.cls (cO (S.ev oa fe I hk) (λv aa qq=>qq.elim λa ag ae ac af hv hK=>wpAny_bind (cU ?_)) λY Y x=>x))
 refine fJ hK (λfi hm hK=>cW hm λq hq hm=>dJ hm λhno hm=>cW hm λinf hi hm=>dJ hm λhex hm=>dJ hm λhx hm=>?_) λY hK=>cP hK λf hf hK=>du ac (T.meth S (oa.ext I ac) (fe.ext ac) af hv hs (eP hlen) hf (cX hline) hK) λY Y=>QV.mono ac
 have hx:=ej (dO hx)
 refine(IS (P:=λv=>VR g ag a v->cQ g.M A (methodCall o m ap p env v _ _ _) _ _ aa) W af hq hv λy O hv9=>?_) hv
 obtain⟨d,mA,h1,h3⟩:=O
 obtain⟨xd,mN,hC,hN,g1,g2,g3,g4,g5,g6,g7⟩:=CL.cls hi (dO hex)
 obtain⟨f1,⟨y0,f2⟩,ob,fd,o1,o2,o3⟩:=g7 m fi hm hx
 have hsh:mA m=none:=by have:=h3 m hx;rw[Option.isNone_iff_eq_none.mp hno] at this;exact this
 obtain⟨hp1,gg,dr,tk,os⟩:=aa
 refine qz hs (eP hlen) (cX hline) (λY=>P<|method_ofFk (af.base _ _ hC) (hN.keeps af.base) g1 g2 f1 (af.base _ _ o1) o2 f2 h1 hsh ?_)
 refine callWith_any (gp (fM hs)) (cO (mf S (oa.ext I ac) (fe.ext ac) af hK) (λvs aj qq=>qq.elim λl ao aq ak am hl hK=>?_) λY Y=>EX.mono ac)
 refine e02 (qn hK) λhc hK=>?_
 exact⟨lM (am.base _ _ o1) o3,du (ac.trans ak) (S.cl ((oa.ext I ac).ext af ak) am (show VR g ao (.fn fi) _ from rfl) (da.cons (hv9.ext ak) hl) hK) λY Y=>QV.mono (ac.trans ak)⟩
end
end
section
open PySem.SeqAt
variable{g:Gb}{c c':Cf}
section
variable{n:Nat}{r:Ev}{A:Around}{fr:Fr}{env:Env}{X:Nat->H->Bool}{h:H}{s:Shared}
theorem KX(CL:CF g)(F:FF g)(T:mG g)(S:eO g n r){i:Nat}{args:List V}{vs:List Value}{K:V->H->Bool}(oa:dy g c (n+1) A)(I:cV g c h s)(hv:da g c args vs)(hk:BI g.C r i args h K X=true):
  cQ g.M A (call (.ref (g.ca i)) vs) (QV g c K) (EX g c A X) s:=
 cP hk λinf hi hk=>eK hk (λhk=>iV hk λhx h0 hk=>T.exc oa I hv hi hx (cX h0) hk) λhk=>cT hk λhx hk=>by
  obtain⟨xd,mN,hC,hN,g1,g2,g3,⟨g4,ob,o1,o2⟩,g5,g6,g7⟩:=CL.cls hi (dO hx)
  obtain⟨hp,gg,dr,tk,os⟩:=s
  refine i7 g5 (I.base _ _ hC) (hN.keeps I.base) g4 (I.base _ _ o1) o2 λh' x dx M=>?_
  refine e13 (C1 I M) λag ac af hx1=>?_
  exact cO (S.cl (oa.type.ext I ac) af (show VR g ag (.fn inf.init) _ from rfl) (da.cons hx1 (hv.ext ac)) hk) (λv aj qq=>qq.elim λa ao aq ak am hva hK=>cT hK λe hK=>
    ⟨(gB e▸hva:VR g ao .none v),_,ao,aq,ac.trans ak,am,hx1.ext ak,hK⟩) λY Y x=>EX.mono ac (EX.frames (A:=A.under (.builtin "type.__call__" ⟨.ref (g.ca i)::vs,[]⟩)) (A':=A) (congrArg (pushEnvs · A.frames) (yi (g.ca i) vs)).symm x)
theorem G2(T:mG g){args:List V}:∀{K:List V->Bool} {x:List V×Nat×List V} {vs:List Value},vc args=some x->da g c args vs->dF (g.C.toks x.2.1) (λv=>K (x.1++v::x.2.2))=true->∃l,da g c l vs/\K l=true:=by
 induction args with
 |nil=>exact λe=>nn e
 |cons a r ih=>
  intro K x vs e hv hk
  refine e23 hv λy ys zq81 h1 h2=>?_;clear hv
  cases zq81
  have e:dq (iU a) (dp (vc r) λx=>some (a::x.1,x.2)) (λk=>some ([],k,r))=some x:=e
  cases q:iU a with
  |some k=>
   rw[q] at e
   cases e
   cases hU q
   refine e12 (T.tok h1) λv m1 m2=>?_
   have hk:=c9 hk m1
   exact⟨v::r,.cons m2 h2,hk⟩
  |none=>
   rw[q] at e
   exact cW e λz e1 e2=>by
    cases e2
    refine e12 (ih (K:=λl=>K (a::l)) e1 h2 hk) λl m1 m2=>?_
    exact⟨a::l,.cons h1 m1,m2⟩
theorem NV(CL:CF g)(F:FF g)(T:mG g)(S:eO g n r){f:V}{fv:Value}{args:List V}{vs:List Value}{K:V->H->Bool}(oa:dy g c (n+1) A)(I:cV g c h s)(hf:VR g c f fv)(hv:da g c args vs)(hk:BJ g.C r f args h K X=true):
  cQ g.M A (call fv vs) (QV g c K) (EX g c A X) s:=by
 cases f with
 |bi x=>cases (show fv=jG x from hf);exact T.builtin oa I hv hk
 |fn i=>
  cases (show fv=.ref (g.fa i) from hf)
  exact eT hk λhq hk=>fJ hk (λouts e hk=>T.prim oa I hv hq e hk) λY hk=>fJ hk (λx e hk=>Cl hk (λY hk=>tY F S oa I hv hk) λY hk=>
   (G2 T (K:=λl=>r.cl (V.fn i) l h K X) e hv hk).elim λl q=>S.cl (oa.less (VA n)) I hf q.1 q.2) λY hk=>tY F S oa I hv hk
 |cls i=>
  cases (show fv=.ref (g.ca i) from hf)
  exact eT hk λY hk=>KX CL F T S oa I hv hk
 |ref k=>
  cases (show k<c.n/\fv=.ref (c.ρ k) from hf).2
  exact eT hk λhq hk=>T.lam S oa I hv hq hk
 |_=>exact ft hk
end
end
section
open PySem.SeqAt
variable{g:Gb}{c c':Cf}
noncomputable def wo(g:Gb):Prop:=∀{n:Nat} {r:Ev} {A:Around} {fr:Fr} {env:Env} {X:Nat->H->Bool} {ks:List (Option Expr)} {vs:List Expr} {p:Pos} {c:Cf} {h:H} {s:Shared} {K:V->H->Bool},ic g n r->dy g c n A->FR g c A fr env->cV g c h s->uZ r fr ks vs h K X=true->
  cQ g.M A (eval (.Dict ks vs p) env) (QV g c K) (EX g c A X) s
noncomputable def rE(g:Gb):Prop:=∀{A:Around} {E:Value->Shared->Prop} {x:Str} {ci:Nat} {m:List (Nat×V)} {bb:Bool} {b:V} {y d:Addr} {c:Cf} {h:H} {s:Shared} {K:V->H->Bool},cV g c h s->OR g c (.exc ci m bb) y d s.heap->qg g.C true ci (cd x) m=some b->K b h=true->
  cQ g.M A (getAttr (.ref y) x true) (QV g c K) E s
noncomputable def Aj(g:Gb):Prop:=∀{n:Nat} {A:Around} {E:Value->Shared->Prop} {e i:Expr} {p:Pos} {a b:V} {v w:Value} {c:Cf} {h:H} {s:Shared} {K:V->H->Bool},dy g c n A->cV g c h s->VR g c a v->VR g c b w->(JC g.C a b h λv=>K v h)=true->(∀lo hi st p,i≠.Slice lo hi st p)->
  cQ g.M A (do standAt p;let r<-subscripted i (<-getitemInPython v) v w;letTemporaryGo e v r;pure r) (QV g c K) E s
noncomputable def Ak(g:Gb):Prop:=∀{n:Nat} {r:Ev} {A:Around} {fr:Fr} {env:Env} {X:Nat->H->Bool} {e:Expr} {lo hi st:Option Expr} {p p':Pos} {c:Cf} {h:H} {s:Shared} {K:V->H->Bool},eO g n r->dy g c n A->FR g c A fr env->cV g c h s->qS g.C r fr e lo hi st h K X=true->
  cQ g.M A (eval (.Subscript e (.Slice lo hi st p') p) env) (QV g c K) (EX g c A X) s
noncomputable def wq(g:Gb):Prop:=∀{n:Nat} {r:Ev} {A:Around} {fr:Fr} {env:Env} {X:Nat->H->Bool} {elt:Expr} {gs:List Comprehension} {sc:Scope} {p:Pos} {c:Cf} {h:H} {s:Shared} {K:V->H->Bool},ic g n r->dy g c n A->FR g c A fr env->cV g c h s->kq g.C r fr elt gs sc h K X=true->
  cQ g.M A (eval (.ListComp elt gs sc p) env) (QV g c K) (EX g c A X) s
noncomputable def Am(g:Gb):Prop:=∀{A:Around} {E:Value->Shared->Prop} {fr:Fr} {env:Env} {ar:Arguments} {b:Expr} {sc:Scope} {p:Pos} {c:Cf} {h:H} {s:Shared} {K:V->H->Bool},FR g c A fr env->cV g c h s->u6 fr ar b sc h K=true->
  cQ g.M A (eval (.Lambda ar b sc p) env) (QV g c K) E s
structure tZ(g:Gb):Prop where
 dict:wo g
 attExc:rE g
 sub:Aj g
 slc:Ak g
 comp:wq g
 lam:Am g
section
variable{n:Nat}{r:Ev}{A:Around}{fr:Fr}{env:Env}{X:Nat->H->Bool}{h:H}{s:Shared}
theorem KY(W:SW g)(CL:CF g)(T:tZ g){E:Value->Shared->Prop}{a:V}{v:Value}{x:Str}{K:V->H->Bool}(I:cV g c h s)(hv:VR g c a v)(hk:JG g.C a (cd x) h (λw=>K w h)=true):cQ g.M A (getAttr v x true) (QV g c K) E s:=
 eK hk (λhk=>cP hk λp e0 hk=>IS (P:=λv=>cQ g.M A (getAttr v x true) (QV g c K) E s) W I e0 hv λy O=>cP hk λb e hk=>P (vH CL I O e λw hw=>⟨b,c,h,.refl c,I.tok _,hw,hk⟩)) λhk=>
  kO (P:=λv=>cQ g.M A (getAttr v x true) (QV g c K) E s) W I hk hv λo p y d e ho hk=>cP hk λb e2 hk=>by
   refine e11 (NF e) λbb zq82=>?_
   cases zq82
   exact T.attExc I ho e2 hk
theorem rF(W:SW g)(CL:CF g)(T:tZ g)(S:eO g n r){e:Expr}{a:Str}{p:Pos}{K:V->H->Bool}(oa:dy g c n A)(f:FR g c A fr env)(I:cV g c h s)(hk:r.ev fr e h (λv h=>JG g.C v (cd a) h λw=>K w h) X=true):
  cQ g.M A (eval (.Attribute e a p) env) (QV g c K) (EX g c A X) s:=by
 rw[arm_eval_Attribute]
 exact wpAny_bind (gU f.cls (cO (S.ev oa f I hk) (λv aa qq=>qq.elim λva ag ae ac af hv hK=>wpAny_bind (cU (wpAny_bind (cS
  (cO (KY W CL T af hv hK) (λw aj q=>wpAny_bind (P<|wpAny_letTemporaryGo (wpAny_pure (QV.mono ac q)))) λY Y x=>x))))) λY Y x=>x))
theorem G3{C:i9}{r:Ev}{fr:Fr}{e i:Expr}{h:H}{K:V->H->Bool}{X:Nat->H->Bool}(hi:Co i=false):qT C r fr e i h K X=u0 C r fr e i h K X:=by
 cases i<;>first|rfl|cases hi
theorem KZ(T:tZ g)(S:eO g n r){e i:Expr}{p:Pos}{K:V->H->Bool}(oa:dy g c n A)(f:FR g c A fr env)(I:cV g c h s)(hk:qT g.C r fr e i h K X=true):
  cQ g.M A (eval (.Subscript e i p) env) (QV g c K) (EX g c A X) s:=by
 have go:(∀lo hi st p,i≠.Slice lo hi st p)->u0 g.C r fr e i h K X=true->cQ g.M A (eval (.Subscript e i p) env) (QV g c K) (EX g c A X) s:=λhns hk=>by
  rw[arm_eval_Subscript]
  refine wpAny_bind (cO (S.ev oa f I hk) (λv aa qq=>qq.elim λva ag ae ac af hv hK=>?_) λY Y x=>x)
  refine wpAny_bind (cS (cO (S.ev (oa.ext I ac) (f.ext ac) af hK) (λw aj qq=>qq.elim λvb ao aq ak am hw hK=>?_) λY Y=>EX.mono ac))
  exact cO (T.sub ((oa.ext I ac).ext af ak) am (hv.ext ak) hw hK hns) (λY Y=>QV.mono (ac.trans ak)) λY Y x=>x
 cases hi:Co i with
 |true=>obtain⟨lo,hi,st,p,rfl⟩:=Kb hi;exact T.slc S oa f I hk
 |false=>exact go (λlo hi' st p q=>by rw[q] at hi;cases hi) (G3 hi▸hk)
theorem NW(G:GF g)(W:SW g)(CL:CF g)(F:FF g)(TC:mG g)(T:tZ g)(SP:ic g n r)(S:eO g n r){e:Expr}{K:V->H->Bool}(oa:dy g c n A)(f:FR g c A fr env)(I:cV g c h s)(hk:BD g.C r fr e h K X=true):
  cQ g.M A (eval e env) (QV g c K) (EX g c A X) s:=by
 cases e with
 |Constant v k p=>exact P<|Const_ok I hk
 |Name x p=>exact P<|Name_ok G f I hk
 |BinOp a op b p=>exact DH W S oa f I hk
 |UnaryOp op a p=>exact wc W S oa f I hk
 |BoolOp op es p=>rw[arm_eval_BoolOp];exact KU W S oa f I hk
 |Compare l ops rs p=>exact we W S oa f I hk
 |IfExp t a b p=>exact DI S oa f I hk
 |Tuple es k p=>exact DJ S oa f I hk
 |List es p=>exact GY S oa f I hk
 |Dict ks vs p=>exact T.dict SP oa f I hk
 |Attribute e a p=>exact rF W CL T S oa f I hk
 |Subscript e i p=>exact KZ T S oa f I hk
 |ListComp elt gens sc p=>exact T.comp SP oa f I hk
 |Lambda ar b sc p=>exact T.lam f I hk
 |Call fe args kw p=>
  cases kw with
  |nil=>
   refine cT (show gd (dT ([]:List Keyword)) (gd (eS args) (Iy g.C r fr fe args p h K X))=true from hk) λY hk=>cT hk λhs hk=>?_
   cases fe with
   |Attribute o m ap=>exact DM W CL F TC S oa f I hs hk
   |_=>exact DL F TC S oa f I hs hk rfl
  |cons k r=>exact ft hk
 |_=>exact ft hk
theorem NX(W:SW g)(S:eO g n r){e:Expr}{K:Bool->H->Bool}(oa:dy g c n A)(f:FR g c A fr env)(I:cV g c h s)(hk:BE g.C r fr e h K X=true):
  cQ g.M A (isTrue e env (eval e env)) (QB g c K) (EX g c A X) s:=by
 have plain:(r.ev fr e h (λv h=>lC g.C v h λb=>K b h) X=true)->(isTrue e env (eval e env)=(do let v<-eval e env;standAt e.pos;holding [v] (PySem.truthy v)))->cQ g.M A (isTrue e env (eval e env)) (QB g c K) (EX g c A X) s:=λhk he=>
  kf (cO (S.ev oa f I hk) (λv aa qq=>qq.elim λva ag ae ac af hv hK=>P<|truthy_ok W af hv hK λb aj hb am=>⟨ag,ae,ac,am,hb⟩) λY Y x=>x) he
 cases e with
 |UnaryOp op a p=>
  cases op with
  |Not=>exact mc (cO (S.tr oa f I hk) (λb aa qq=>qq.elim λag ae ac af hK=>⟨ag,ae,ac,af,hK⟩) λY Y x=>x)
  |_=>exact plain hk rfl
 |BoolOp op es p=>exact jI (KV S oa f I hk)
 |IfExp t a b p=>
  rw[arm_isTrue_IfExp]
  refine wpAny_bind (cO (S.tr oa f I hk) (λk aa qq=>qq.elim λag ae ac af hK=>?_) λY Y x=>x)
  cases k with
  |true=>exact du ac (S.tr (oa.ext I ac) (f.ext ac) af hK) λY Y=>QB.mono ac
  |false=>exact du ac (S.tr (oa.ext I ac) (f.ext ac) af hK) λY Y=>QB.mono ac
 |Compare l ops rs p=>
  rw[arm_isTrue_Compare]
  exact wpAny_bind (cO (S.ev oa f I hk) (λv aa qq=>qq.elim λva ag ae ac af hv hK=>du ac (rC W S (oa.ext I ac) (f.ext ac) af hv hK) λY Y=>QB.mono ac) λY Y x=>x)
 |_=>exact plain hk rfl
end
end
section
variable{g:Gb}{c c':Cf}
section
variable{n:Nat}{r:Ev}{A:Around}{fr:Fr}{env:Env}{X:Nat->H->Bool}{h:H}{s:Shared}
abbrev DN(g:Gb)(c:Cf)(A:Around)(X:Nat->H->Bool)(K:It->H->Bool)(x:Value)(s:Shared):Prop:=cQ g.M A (pyIter x) (QI g c K) (EX g c A X) s
theorem DO(W:SW g)(S:eO g n r){e:Expr}{K:It->H->Bool}(oa:dy g c n A)(f:FR g c A fr env)(I:cV g c h s)(hk:Ir g.C r fr e h K X=true):cQ g.M A (eval e env) (DN g c A X K) (EX g c A X) s:=
 cO (S.ev oa f I hk) (λv aa qq=>qq.elim λa ag ae ac af hv hK=>cP hK λit hi hK=>cO (P (Gv W af hv hi hK)) (λY Y=>QI.mono ac) λY Y x=>x) λY Y x=>x
def NY(g:Gb)(F:(It->H->Bool)->List V->H->Bool)(v:Value):Prop:=∀{c ag:Cf} {A:Around} {X:Nat->H->Bool} {ae:H} {aa:Shared} {l:List V} {vs:List Value} {K:It->H->Bool},dz c ag->cV g ag ae aa->da g ag l vs->F K l ae=true->
 cQ g.M A (call v vs) (DN g c A X K) (EX g c A X) aa
theorem G4{C:Prop}(G:GF g){x:Str}{A:Around}(f:FR g c A fr env)(hb:JL g.C fr (cd x)=true)(q:(∀{K:V->Bool},K (.bi (cd x))=true->sI g.C fr (cd x) h K=true)->C):C:=
 cP hb λk k1 hb=>by
  cases k with
  |globalImplicit=>
   exact cP hb λv hg hb=>by
    cases v with
    |bi b=>
     exact q λ{K} hK=>by
      cases cX hb
      refine(?_:cR (fH fr (cd x)) _=true)
      rw[k1]
      refine(?_:cR (g.C.G.get (cd x)) K=true)
      rw[hg];exact hK
    |_=>exact ft hb
  |_=>exact ft hb
noncomputable def NZ(a:V)(x:Nat):Bool:=match a with
 |.bi b=>U9 b x
 |_=>false
theorem K0(G:GF g)(S:eO g n r){x:Str}{p pos:Pos}{args:List Expr}{F:(It->H->Bool)->List V->H->Bool}{K:It->H->Bool}(oa:dy g c n A)(f:FR g c A fr env)(I:cV g c h s)(hs:eS args=true)(hb:JL g.C fr (cd x)=true)
  (hkeep:∀s',fx g (jG (cd x)) s') (hk:AT r fr args h (F K) X=true) (hF:NY g F (jG (cd x))):cQ g.M A (eval (.Call (.Name x p) args [] pos) env) (DN g c A X K) (EX g c A X) s:=by
 rw[show eval (.Call (.Name x p) args [] pos) env=(do callWith pos (<-eval (.Name x p) env) [] (backTo pos (starEach args env)) (backToKw pos (keywordEach [] env))) from rfl]
 refine G4 (h:=h) G f hb λhl=>?_
 rw[eval_Name _ _ _ (sV f (hl (K:=λY=>true) rfl))]
 refine wpAny_bind (wpAny_bind (cU (P (sU G f I (K:=λa=>NZ a (cd x)) (hl (VD _)) λa v hv ha=>?_))))
 cases a with
 |bi b=>
  cases cX ha
  cases (show v=jG (cd x) from hv)
  exact callWith_any (gp (fM hs)) (cO (mf S oa f I hk) (λvs aj qq=>qq.elim λl ao aq ak am hl hK=>⟨hkeep _,hF ak am hl hK⟩) λY Y x=>x)
 |_=>exact ft ha
theorem DP{m:Int}{vl:List V}{t:Tok}{K:It->H->Bool}{ag:Cf}{ae:H}{aa:Shared}(ac:dz c ag)(af:cV g ag ae aa)(hr:Bg m=some vl)(hK:K (.vals vl) ae=true):cQ g.M A (call (.type "range") [.int m t]) (DN g c A X K) (EX g c A X) aa:=
 dJ hr λr1 hr=>dJ hr λr2 hr=>by
  cases hr
  have r1:=of_decide_eq_true r1
  have r2:=of_decide_eq_true r2
  refine P<|call_range_1 ?_
  have am:cV g ag ae {aa with heap:=aa.heap.push {cls:=.type "range",data:=.fields #[.int 0 aa.toks,.int m t,.int 1 (aa.toks+1)]},toks:=aa.toks+1+1}:=(af.alloc _).tok _
  have e:(if(0:Int)<m then m - 0 else 0)=(m.toNat:Int):=by
   by_cases q:0<m
   .rw[if_pos q,Int.sub_zero,Wg (Wf q)]
   .rw[if_neg q,Int.toNat_of_nonpos (Int.not_lt.mp q)];rfl
  refine P<|wpAny_pyIter_range (IsRange.new ..) (small_one (by decide) (by decide) (by omega) (by omega)) ⟨.vals _,ag,ae,ac,am.alloc _,.mk _ _ [_] (λb hb=>List.mem_singleton.mp hb▸am.free (Vo (Vm _))) (.vals _ _ (.rng 0 _ (Vj _ rfl) ?_ ?_)),hK⟩
  .rw[rangeSize_one,e];exact VF _
  .rw[rangeSize_one,e,Vt]
theorem DQ:NY g Bu (.type "range"):=λ{c ag A X ae aa l vs K} ac af hv hK=>a1 hK hv λa v h1 hK=>kI (P:=λv=>cQ g.M A (call (.type "range") [v]) (DN g c A X K) (EX g c A X) aa) hK h1 λb m t hb hK=>cP hK λk e hK=>cP hK λvl hr hK=>DP ac af (hb.cst e▸hr) hK
theorem wu{c:Cf}{h:H}{s:Shared}(I:cV g c h s)(k:Nat):gZ g c (s.heap.objs.size+k):=I.free (Vo (Wd _ _))
theorem G5(W:SW g):NY g (Bv g.C) (.type "enumerate"):=λ{c ag A X ae aa l vs K} ac af hv hK=>a1 hK hv λa v h1 hK=>by
 have fin:∀{si h'},K (.enum a 0) ae=true->SV g ag a si->IsEnum h' (aa.heap.objs.size+1) aa.heap.objs.size 0 .none->S1 h' aa.heap.objs.size 0 si->(∀x o,aa.heap.get? x=some o->h'.get? x=some o)->
   DN g c A X K (.ref (aa.heap.objs.size+1)) {aa with heap:=h'}:=λ{si h'} hK hsv he h1 hk=>
  P (wpAny_pyIter_enum he ⟨.enum a 0,ag,ae,ac,af.keep hk ⟨rfl,rfl,rfl⟩,.mk _ _ [aa.heap.objs.size+1,aa.heap.objs.size] (List.forall_mem_cons.mpr ⟨wu af 1,List.forall_mem_cons.mpr ⟨wu af 0,nofun⟩⟩) (.enum a 0 _ _ si .none (Nat.succ_ne_self _) hsv he h1),hK⟩)
 refine eK hK (λhK=>cP hK λl e hK=>?_) λhK=>cP hK λl e hK=>?_
 .cases d6 e
  refine e22 h1 λb t zq83 hr=>?_;clear h1
  cases zq83
  exact P (vM λh' he hb hk=>fin hK (.byt _ b t hr) he hb hk)
 .have hp:gP a=true:=cW e λo e Y=>iH e
  refine Gh (P:=λv=>VR g ag a v->cQ g.M A (call (.type "enumerate") [v]) (DN g c A X K) (EX g c A X) aa) W af e h1 (λo x d e ho h1=>?_) h1
  cases gz e
  refine e12 ho λxs hl1 Y=>?_;clear ho
  exact P (call_enumerate_list hl1.isList λh' he hi Y hk=>fin hK (.list a x hp h1) he hi hk)
theorem K1(W:SW g):NY g (Bw g.C) (.type "zip"):=λ{c ag A X ae aa l vs K} ac af hv hK=>a2 hK hv λa v b w h1 h2 hK=>cP hK λl e hK=>by
 have hp2:gP b=true:=cW e λo e Y=>iH e
 refine Gh (P:=λw=>VR g ag b w->cQ g.M A (call (.type "zip") [v,w]) (DN g c A X K) (EX g c A X) aa) W af e h2 (λo x2 d e ho h2=>?_) h2
 cases gz e
 refine e12 ho λys hl2 Y=>?_;clear ho
 have v2:SV g ag b (.list x2):=.list b x2 hp2 h2
 have fin:∀{s1 h'},K (.zip a b 0) ae=true->SV g ag a s1->IsZip h' (aa.heap.objs.size+4) (aa.heap.objs.size+2) (aa.heap.objs.size+3) .none->IsPair h' (aa.heap.objs.size+2) (.ref aa.heap.objs.size) (.ref (aa.heap.objs.size+1))->
   IsPair h' (aa.heap.objs.size+3) .none .none->S1 h' aa.heap.objs.size 0 s1->S1 h' (aa.heap.objs.size+1) 0 (.list x2)->(∀x o,aa.heap.get? x=some o->h'.get? x=some o)->
   DN g c A X K (.ref (aa.heap.objs.size+4)) {aa with heap:=h'}:=λ{s1 h'} hK v1 z1 z2 z3 z4 z5 hk=>
  P (wpAny_pyIter_zip z1 ⟨.zip a b 0,ag,ae,ac,af.keep hk ⟨rfl,rfl,rfl⟩,.mk _ _ [aa.heap.objs.size+4,aa.heap.objs.size+2,aa.heap.objs.size+3,aa.heap.objs.size,aa.heap.objs.size+1]
   (List.forall_mem_cons.mpr ⟨wu af 4,List.forall_mem_cons.mpr ⟨wu af 2,List.forall_mem_cons.mpr ⟨wu af 3,List.forall_mem_cons.mpr ⟨wu af 0,List.forall_mem_cons.mpr ⟨wu af 1,nofun⟩⟩⟩⟩⟩)
   (.zip a b 0 _ _ _ _ _ ⟨UG _,z1,z2,⟨_,_,z3⟩,⟨s1,v1,z4⟩,⟨_,v2,z5⟩⟩),hK⟩)
 refine eK hK (λhK=>cP hK λl e hK=>?_) λhK=>cP hK λl e hK=>?_
 .cases eB e
  refine e23 h1 λt ts zq84 hT hr=>?_;clear h1
  cases zq84
  exact P (zM (af.tup _ _ hT) hl2.isList λh' z1 z2 z3 z4 z5 hk=>fin hK (.tup _ ts t hT hr) z1 z2 z3 z4 z5 hk)
 .have hp:gP a=true:=cW e λo e Y=>iH e
  refine Gh (P:=λv=>VR g ag a v->cQ g.M A (call (.type "zip") [v,.ref x2]) (DN g c A X K) (EX g c A X) aa) W af e h1 (λo x d e ho h1=>?_) h1
  cases gz e
  refine e12 ho λxs hl1 Y=>?_;clear ho
  exact P (call_zip_2 hl1.isList hl2.isList λh' z1 z2 z3 z4 z5 Y hk=>fin hK (.list a x hp h1) z1 z2 z3 z4 z5 hk)
theorem DR(W:SW g){x:Nat}{F:(It->H->Bool)->List V->H->Bool}(h:Bx g.C x=some F):(∀s',fx g (jG x) s')/\NY g F (jG x):=by
 unfold Bx at h
 cases e1:U9 x qM with
 |true=>rw[e1] at h;cases h;cases cX e1;exact⟨λY=>dR,DQ⟩
 |false=>
  rw[e1] at h
  cases e2:U9 x jc with
  |true=>rw[e2] at h;cases h;cases cX e2;exact⟨λY=>dR,G5 W⟩
  |false=>
   rw[e2] at h
   cases e3:U9 x A6 with
   |true=>rw[e3] at h;cases h;cases cX e3;exact⟨λY=>dR,K1 W⟩
   |false=>rw[e3] at h;exact nn h
theorem DS{e:Expr}{p:Str×List Expr}(h:Iu e=some p):∃q pos,e=.Call (.Name p.1 q) p.2 [] pos:=by
 cases e with
 |Call f args kw pos=>
  exact dJ h λh0 h=>cW h λx e h=>by
   cases kw with
   |cons _ _=>exact ft h0
   |nil=>obtain⟨q,rfl⟩:=jD e;cases h;exact⟨q,pos,rfl⟩
 |_=>exact nn h
theorem kX(G:GF g)(W:SW g)(S:eO g n r){e:Expr}{K:It->H->Bool}(oa:dy g c n A)(f:FR g c A fr env)(I:cV g c h s)(hk:nI g.C r fr e h K X=true):
  A.handled=none/\(∀x,foldedSetIterable e env x=pure x)/\cQ g.M A (eval e env) (DN g c A X K) (EX g c A X) s:=
 eT hk λhq hk=>⟨oa.hh hq,fJ hk (λp e hk=>cW e λq e1 e=>cW e λF e2 e=>dJ e λhb e=>cT hk λhs hk9=>by
   cases e
   refine e21 (DS e1) λqp pos zq85=>?_
   cases zq85
   refine e02 (DR W e2) λk1 k2=>?_
   exact⟨yg nofun,K0 G S oa f I hs hb k1 hk9 k2⟩) λY hk=>⟨yg λes k p q=>by
   subst q
   have hk:r.ev fr (.Set es k p) h _ X=true:=hk
   rw[S.set] at hk;exact ft hk,DO W S oa f I hk⟩⟩
end
end
section
variable{g:Gb}{c c':Cf}
section
variable{n:Nat}{r:Ev}{A:Around}{fr:Fr}{env:Env}{X:Nat->H->Bool}{h:H}{s:Shared}
theorem ic.pin(S:ic g n r)(L:List Addr)(hp:Heap):eO (g.pin L hp) n r:=S _ λY Y q=>.inl q
theorem ic.self(S:ic g n r):eO g n r:=S g.R λY Y q=>q
theorem js(oa:dy g c n A)(f:FR g c A fr env)(ac:dz c c'){e:Value}{s':Shared}(x:EX g c' A X e s'):notedBy g.M A env (λe s'=>dS g c A env X e s') e s':=
 PySem.wpAny_mono (xR (oa.up ac) (f.ext ac) x) (λY Y y=>dS.mono ac y) λY Y y=>dS.mono ac y
theorem wv(W:SW g){t:Expr}{it:It}{itv:Value}{b:List Stmt}{nx:Nx}{R:Result->Shared->Prop}(hq:A.handled=none)(I:cV g c h s)(hit:pB g c s.heap it itv)(ht:sM it t=true)(hn:next g.C it h=some nx)
  (hs:nx=.stop->∀s',cV g c h s'->R (.ok .next) s')
  (hm:∀v it',nx=.more v it'->∀x ao L aj,dz c ao->cV (g.pin L aj.heap) ao h aj->VR (g.pin L aj.heap) ao v x->(∀aC ax aB,dz ao aC->cV (g.pin L aj.heap) aC ax aB->pB g aC aB.heap it' itv)->
   cQ g.M A (assign t env x) (λY av=>cQ g.M A (execs b env) (λfl aB=>match fl with
    |.next=>c6 g.M A (.forLoop t itv b [] env) R aB
    |.ret v=>R (.ok (.ret v)) aB
    |_=>False) (notedBy g.M A env λe s'=>R (.error e) s') av) (notedBy g.M A env λe s'=>R (.error e) s') aj):
  c6 g.M A (.forLoop t itv b [] env) R s:=by
 refine c8 (λY Y=>rfl) ?_
 show cQ g.M A ((forTurn t itv b [] env).onRaise (λx=>do noteFrame x env;theTreesLotGoes x)) _ _ s
 refine gS ?_
 simp only[forTurn]
 refine wpAny_bind (cU (wpAny_bind (dU (P<|next_ok W (t:=t) hq I hit ht hn λov aa nr=>?_))))
 cases nr with
 |stop _ af=>
  refine wpAny_pure ⟨rfl,c8 (λY Y=>rfl) ?_⟩
  show cQ g.M A ((do
   let f<-(execs [] env)
   pure (Fin.done f)).onRaise (λx=>do noteFrame x env;theTreesLotGoes x)) _ _ aa
  exact gS (wpAny_bind (eV (wpAny_pure (hs rfl aa af))))
 |more v it' x _ hm'=>
  refine wpAny_bind (cO (P (hm' _)) (λY aj qq=>?_) λY Y x=>x)
  obtain⟨ao,L,ak,am,hv,hL,hS⟩:=qq
  refine wpAny_bind (cO (hm v it' rfl x ao L aj ak (am.pin hL) (VR.pin.mpr hv) λaC ax aB e aF=>hS.back e hL aF) (λY av q=>wpAny_bind (cO q (λfl aB x=>?_) λY Y x=>x)) λY Y x=>x)
  cases fl with
  |next=>exact wpAny_pure ⟨rfl,x⟩
  |ret v=>exact wpAny_pure x
  |brk=>exact x.elim
  |cont=>exact x.elim
theorem N0(W:SW g)(S:ic g n r){t:Expr}{it:It}{itv:Value}{b:List Stmt}{K:f9->H->Bool}(hq:A.handled=none)(oa:dy g c n A)(f:FR g c A fr env)(I:cV g c h s)(hit:pB g c s.heap it itv)(hk:BP g.C r fr t it b h K X=true):
  c6 g.M A (.forLoop t itv b [] env) (QW g c A env X K) s:=
 cT hk λht hk=>cP hk λnx hn hk=>wv W hq I hit ht hn (λe aa af=>by
  subst e
  exact⟨c,h,.refl c,af,hk⟩) λv it' e x ao L aj ak am hv hb=>by
  subst e
  have hk:r.asg fr t v h (λh=>r.ex fr b h (Iz r fr t it' b K X) X) X=true:=hk
  refine cO ((S.pin L aj.heap).asg (oa.up ak).pin (f.ext ak).pin am hv hk) (λY av qq=>qq.elim λaA aw au az hK=>?_) λe s' x=>js oa f ak x.unpin
  refine cO ((S.pin L aj.heap).ex ((oa.up ak).pin.up au) ((f.ext ak).pin.ext au) az hK) (λfl aB x=>?_) λe s' x=>js oa f (ak.trans au) x.unpin
  cases fl with
  |next=>exact QU.elim x λaC ax aD aF hK=>
          have ee:=ak.trans (au.trans aD)
          dB (S.self.fo (oa.up ee) (f.ext ee) aF.unpin (hb aC ax aB (au.trans aD) aF) hK) λY Y y=>QW.mono ee y
  |ret v=>exact QV.elim x λa aC ax aD aF hv hK=>⟨a,aC,ax,ak.trans (au.trans aD),aF.unpin,VR.pin.mp hv,hK⟩
  |brk=>exact x.elim
  |cont=>exact x.elim
end
end
section
variable{g:Gb}{c c':Cf}
section
variable{n:Nat}{r:Ev}{A:Around}{fr:Fr}{env:Env}{X:Nat->H->Bool}{h:H}{s:Shared}{E:Value->Shared->Prop}
theorem G6{Q:Bool->Shared->Prop}(ifs:List Expr)(h:Q false s):cQ g.M A (forIn ifs false λc r=>if r=true then do let ok<-isTrue c env (eval c env);pure (ForInStep.yield ok) else pure (ForInStep.yield r)) Q E s:=by
 induction ifs with
 |nil=>exact wpAny_pure h
 |cons _ ifs ih=>rw[VK];exact wpAny_bind (wpAny_pure ih)
theorem K2(S:eO g n r){ifs:List Expr}:∀{c:Cf} {h:H} {s:Shared} {K:Bool->H->Bool},dy g c n A->FR g c A fr env->cV g c h s->MB r fr .And ifs h K X=true->
  cQ g.M A (forIn ifs true λc r=>if r=true then do let ok<-isTrue c env (eval c env);pure (ForInStep.yield ok) else pure (ForInStep.yield r)) (QB g c K) (EX g c A X) s:=by
 induction ifs with
 |nil=>exact λ{c h s K} oa f I hk=>wpAny_pure ⟨c,h,.refl c,I,hk⟩
 |cons e es ih=>
  intro c h s K oa f I hk
  rw[VK]
  refine wpAny_bind (kQ rfl (wpAny_bind (cO (S.tr oa f I hk) (λb aa qq=>qq.elim λag ae ac af hK=>wpAny_pure ?_) λY Y x=>x)))
  cases b with
  |true=>exact du ac (ih (oa.up ac) (f.ext ac) af hK) λY Y=>QB.mono ac
  |false=>exact G6 es ⟨ag,ae,ac,af,hK⟩
theorem N1(W:SW g)(S:ic g n r){elt t ite:Expr}{ifs:List Expr}{sc:Scope}{p:Pos}{it:It}{itv:Value}{acc:Nat}{K:H->Bool}(hq:A.handled=none)(oa:dy g c n A)(f:FR g c A fr env)(I:cV g c h s)(hit:pB g c s.heap it itv)(ha:acc<c.n)
  (hk:BQ g.C r fr elt t ifs it acc h K X=true):
  c6 g.M A (.compLoop (.ListComp elt [⟨t,ite,ifs,0⟩] sc p) 0 itv (.ref (c.ρ acc)) env) (IK g c A env X K) s:=
 cT hk λht hk=>cP hk λnx hn hk=>by
  refine c8 (λY Y=>rfl) ?_
  show cQ g.M A ((compTurn (.ListComp elt [⟨t,ite,ifs,0⟩] sc p) 0 itv (.ref (c.ρ acc)) env).onRaise (λx=>do noteFrame x env;theTreesLotGoes x)) _ _ s
  refine gS ?_
  rw[compTurn_list]
  refine wpAny_bind (cU (wpAny_bind (P<|next_ok W (t:=t) hq I hit ht hn λov aa nr=>?_)))
  cases nr with
  |stop _ af=>exact wpAny_pure (show IK g c A env X K (.ok .next) aa from⟨rfl,c,h,.refl c,af,hk⟩)
  |more v it' x _ hm=>
   have hk:r.asg fr t v h (λh=>MB r fr .And ifs h (No r fr elt t ifs it' acc K X) X) X=true:=hk
   refine wpAny_bind (cO (P (hm _)) (λY aj qq=>?_) λY Y x=>x)
   obtain⟨ao,L,ak,am,hv,hL,hS⟩:=qq
   have S':=S.pin L aj.heap
   have fin:∀aC ax aB,dz ao aC->cV (g.pin L aj.heap) aC ax aB->r.co fr elt t ifs it' acc ax K X=true->
     c6 g.M A (.compLoop (.ListComp elt [⟨t,ite,ifs,0⟩] sc p) 0 itv (.ref (c.ρ acc)) env) (IK g c A env X K) aB:=λaC ax aB aD aF hK=>by
    have ee:=ak.trans aD
    have:=S.self.co (elt:=elt) (t:=t) (ite:=ite) (ifs:=ifs) (sc:=sc) (p:=p) (oa.up ee) (f.ext ee) aF.unpin (hS.back aD hL aF) (Vf ha ee.n) hK
    rw[ee.ρ _ ha] at this
    exact dB this λY Y y=>IK.mono ee y
   refine wpAny_bind (cO (S'.asg (oa.up ak).pin (f.ext ak).pin (am.pin hL) (VR.pin.mpr hv) hk) (λY av qq=>qq.elim λaA aw au az hK=>?_) λe s' x=>js oa f ak x.unpin)
   refine wpAny_bind (cO (K2 S' ((oa.up ak).pin.up au) ((f.ext ak).pin.ext au) az hK) (λok aB qq=>qq.elim λaC ax aD aF hK=>?_) λe s' x=>js oa f (ak.trans au) x.unpin)
   have e24:=au.trans aD
   cases ok with
   |false=>exact fE Ve (wpAny_pure ⟨rfl,fin aC ax aB e24 aF hK⟩)
   |true=>
    have hK:r.ev fr elt ax (λw h=>qZ acc w h λh=>r.co fr elt t ifs it' acc h K X) X=true:=hK
    refine kQ rfl (wpAny_bind (wpAny_bind (cO (S'.ev ((oa.up ak).pin.up e24) ((f.ext ak).pin.ext e24) aF hK) (λw aR qq=>qq.elim λa bP aG aS aO hw hK=>?_) λe s' x=>js oa f (ak.trans e24) x.unpin)))
    have er:=((ak.trans e24).trans aS).ρ acc ha
    rw[<-er]
    refine wpAny_bind (cO (P<|list_push (g:=g.pin L aj.heap) aO hw hK) (λY aX qq=>qq.elim λcH bn aT a9 hK=>wpAny_pure (wpAny_pure ?_)) λY Y x=>x)
    rw[er]
    exact⟨rfl,fin cH bn aX (e24.trans (aS.trans aT)) a9 hK⟩
end
end
section
variable{g:Gb}{c c':Cf}
section
variable{n:Nat}{r:Ev}{A:Around}{fr:Fr}{env:Env}{X:Nat->H->Bool}{h:H}{s:Shared}{E:Value->Shared->Prop}
def CP(g:Gb)(A:Around)(E:Value->Shared->Prop)(use:Option (Value->Sem Unit))(Q:Value->Shared->Prop)(acc:Value)(cenv:Env)(r:Result)(s':Shared):Prop:=
 match r,use with
 |.ok _,none=>∃m,s'.heap.Ns cenv.locals m/\∀h' m',h'.Ns cenv.locals m'->Vn cenv.locals s'.heap h'->Q acc {s' with heap:=h'}
 |.ok _,some u=>cQ g.M A (u acc) (λY s''=>∃m,s''.heap.Ns cenv.locals m/\∀h' m',h'.Ns cenv.locals m'->Vn cenv.locals s''.heap h'->Q .none {s'' with heap:=h'}) E s'
 |.error x,_=>∃m,s'.heap.Ns cenv.locals m/\∀h' m',h'.Ns cenv.locals m'->Vn cenv.locals s'.heap h'->cQ g.M A (passOn "comprehension.variables-let-go" x cenv:Sem Value) Q E {s' with heap:=h'}
theorem An{e:Expr}{scope:Scope}{pos:Pos}{newAcc first:Sem Value}{gg:Comprehension}{gs:List Comprehension}{cl:List (Str×Addr)}{use:Option (Value->Sem Unit)}{Q:Value->Shared->Prop}
  (hcl:clausesOf e=gg::gs) (hs:∀x,foldedSetIterable gg.iter env x=pure x) (hclos:closureFor scope env=pure cl) (hkind:scope.kind=.function) (hnames:∀x∈scope.names,x.2=.local->scope.names.lookup x.1=some .local)
  (h:cQ g.M A first (λx aa=>cQ g.M A (pyIter x) (λit aj=>cQ g.M A newAcc (λacc av=>cQ g.M A (newFunctionEnv scope env.globals cl [] env.qual none .none (some env)) (λcenv aB=>
    c6 g.M A (.compStart e 0 it acc {cenv with scope:=relabel scope env}) (CP g A E use Q acc {cenv with scope:=relabel scope env}) aB) E av) E aj) E aa) E s):
  cQ g.M A (comprehension e scope env pos newAcc false first use) Q E s:=by
 unfold comprehension
 rw[hclos,hcl]
 refine wpAny_bind (cO h (λx aa ae=>wpAny_bind (cU (wpAny_bind (wpAny_of_eq (hs x) (wpAny_bind (cS (cO ae (λit aj aq=>
  pQ (wpAny_bind (cO aq (λacc av aw=>wpAny_bind (wpAny_pure (wpAny_bind (cO aw (λcenv aB ax=>?_) λY Y x=>x)))) λY Y x=>x)))
   λY Y x=>x))))))) λY Y x=>x)
 dsimp only
 have loc:∀x,x∈scope.names->x.2=.local->Env.kindOf {cenv with scope:=relabel scope env} x.1=some .local:=λx hx hl=>lookup_relabel_local (hnames x hx hl)
 refine cS (wpAny_bind (g9 (cS (qy (dB ax λr s' hr=>?_) nn))))
 have inN:∀{p:Str×NameKind->Bool} {x},x∈(scope.names.filter p).reverse->x∈scope.names:=λhx=>(List.mem_filter.mp (List.mem_reverse.mp hx)).1
 cases r with
 |ok f=>
  cases use with
  |none=>
   refine e12 hr λm hn hr=>?_
   exact wpAny_bind (cS (P<|wpAny_comp_letGo (cenv:={cenv with scope:=relabel scope env}) hkind _ s' m (λx hx hl=>loc x (inN hx) hl) hn λh' m' hn' hs'=>wpAny_pure (hr h' m' hn' hs')))
  |some u=>
   refine wpAny_bind (wpAny_rule (wpAny_bind (cS (cO hr (λY s'' hr'=>?_) λY Y x=>x))))
   refine e12 hr' λm hn hr'=>?_
   exact wpAny_bind (P<|wpAny_comp_letGo (cenv:={cenv with scope:=relabel scope env}) hkind _ s'' m (λx hx hl=>loc x ((List.mem_append.mp hx).elim (λq=>inN (List.mem_of_mem_drop q)) λq=>inN (List.mem_of_mem_take q)) hl) hn λh' m' hn' hs'=>wpAny_pure (hr' h' m' hn' hs'))
 |error x=>
  have hr:∃m,s'.heap.Ns cenv.locals m/\∀h' m',h'.Ns cenv.locals m'->Vn cenv.locals s'.heap h'->cQ g.M A (passOn "comprehension.variables-let-go" x {cenv with scope:=relabel scope env}:Sem Value) Q E {s' with heap:=h'}:=by cases use<;>exact hr
  refine e12 hr λm hn hr=>?_
  exact wpAny_bind (cS (P<|wpAny_comp_letGo (cenv:={cenv with scope:=relabel scope env}) hkind _ s' m (λx hx hl=>loc x (inN hx) hl) hn λh' m' hn' hs'=>hr h' m' hn' hs'))
end
end
section
variable{g:Gb}{c c':Cf}
section
variable{n:Nat}{r:Ev}{A:Around}{fr:Fr}{env:Env}{X:Nat->H->Bool}{h:H}{s:Shared}{E:Value->Shared->Prop}
theorem G7{gens:List Comprehension}{p:Expr×Expr×List Expr}(h:Nd gens=some p):gens=[⟨p.1,p.2.1,p.2.2,0⟩]:=by
 cases gens with
 |nil=>exact nn h
 |cons q r=>
  exact dJ h λh1 h=>dJ h λh2 h=>by
   cases r with
   |cons _ _=>exact ft h1
   |nil=>
    obtain⟨a,b,c,d⟩:=q
    cases (show d=0 from of_decide_eq_true h2)
    cases h
    rfl
theorem Ao{elt tgt:Expr}{ifs:List Expr}{sc:List (Nat×NameKind)}{K:V->H->Bool}{i:It}:u5 r fr elt tgt ifs sc K X i h=Prod.rec (motive:=λY=>Bool) (λfr' h'=>d7 fr' h' (λh'=>r.co ⟨yX fr sc,fr'.ns,fr'.cells,false⟩ elt tgt ifs i h.length h' (iA fr'.ns (K (.ref h.length))) (λk=>iA fr'.ns (X k))) [] []) (ez false sc fr.cells (h.push (.list []))):=by
 unfold u5 Bp
 cases ez false sc fr.cells (h.push (.list [])) with
 |mk a b=>rfl
theorem qA(G:GF g)(W:SW g)(S:ic g n r){elt:Expr}{gs:List Comprehension}{sc:Scope}{p:Pos}{use:Option (Value->Sem Unit)}{K:V->H->Bool}{Q:Value->Shared->Prop}(oa:dy g c n A)(f:FR g c A fr env)(I:cV g c h s)(hk:kq g.C r fr elt gs sc h K X=true)
  (hq:∀ns acc cenv ag ae aa,dz c ag->cV g ag ae aa->fr.ns≠ns->acc<ag.n->iA ns (K (.ref acc)) ae=true->¬ag.N ns->cenv.locals=ag.ρ ns->CP g A (EX g c A X) use Q (.ref (ag.ρ acc)) cenv (.ok .next) aa):
  cQ g.M A (comprehension (.ListComp elt gs sc p) sc env (firstIterPos gs p) (newList []) (firstAsync gs) (firstIter gs env) use) Q (EX g c A X) s:=by
 refine cP hk λp1 e0 hk=>Fi hk λhfree hloc hsc hk9=>?_
 obtain⟨tgt,it,ifs⟩:=p1
 have hsc:=qo hsc
 cases G7 e0
 refine e12 (oz f hfree) λcl hcl hCR=>?_
 refine e03 (kX G W S.self oa f I hk9) λhh hs hw=>?_
 refine An (gg:=⟨tgt,it,ifs,0⟩) (gs:=[]) rfl hs hcl hsc.k (C4 hloc) (cO hw (λx aa ae=>cO ae (λitv aj ⟨i,ag,ae,ac,af,hit,hK⟩=>?_) λY Y x=>x) λY Y x=>x)
 refine e12 hit.hold λL hL hold=>?_
 refine P<|wpAny_newList ?_
 refine e13 (kE (g:=g.pin L aj.heap) (l:=[]) (af.pin hL) da.nil (VQ _)) λao ak am hacc=>?_
 rw[f.glob]
 have ha1:ae.length<ao.n:=hacc.1
 have ha2:ao.ρ ae.length=aj.heap.objs.size:=(Value.ref.inj hacc.2).symm
 refine P<|frame_ok (g:=g.pin L aj.heap) (h:=ae.push (.list [])) (lm:=false) (around:=some env) (cs0:=fr.cells) (vs:=[]) (binds:=[])
  (K:=λfr' h'=>r.co ⟨yX fr (dG sc.names),fr'.ns,fr'.cells,false⟩ elt tgt ifs i ae.length h' (iA fr'.ns (K (.ref ae.length))) (λk=>iA fr'.ns (X k)))
  hsc.k (λq=>nn (hsc.cls.symm.trans q)) hsc.dbg (λq=>nn (hsc.cdi.symm.trans q)) (λo q=>by cases q;exact f.bi) (λq=>ft q) ((hCR.ext ac).ext ak) am da.nil ?_ λfr' env' aA aw av Z hK=>?_
 .exact Ao.symm.trans hK
 .have au:=Z.e
  have az:=Z.i
  refine e11 Z.env λcells hen=>?_
  have ee:dz c aA:=ac.trans (ak.trans au)
  have aQ:=Z.f A (f.lk.elim λe0 q=>q.elim λl q=>⟨e0,l,q.1,by rw[hen];exact q.2⟩)
  have hloc3:env'.locals=aA.ρ fr'.ns:=aQ.loc
  have hfrm:env'.frame=env.frame:=by rw[hen];rfl
  have hscp:env'.scope=sc:=by rw[hen];rfl
  have fc:FR g aA A ⟨yX fr (dG sc.names),fr'.ns,fr'.cells,false⟩ {env' with scope:=relabel sc env}:=by
   refine⟨hsc.k,zO f hfree,aQ.ins,aQ.loc,λx j hx hd hj=>aQ.cells x j hx ?_ hj,aQ.glob,aQ.bi,λq=>nn ((iO hsc.cls).symm.trans q),show(sc.kind==.module&&_)=false by rw[hsc.k];rfl,iO hsc.dbg,λq=>nn ((iO hsc.cdi).symm.trans q),aQ.lk,λq=>ft q⟩
   refine(?_:env'.scope.names.lookup x=some .cell\/env'.scope.names.lookup x=some .free)
   rw[hscp]
   exact hd.elim (λhd=>(iM hd).imp id λq=>q.2) λhd=>(iM hd).elim .inr λq=>NameKind.noConfusion q.1
  have hNn:¬aA.N fr'.ns:=λq=>nn' (Z.N.mp q)
  have keep:∀b o,aj.heap.get? b=some o->av.heap.get? b=some o:=λb o q=>Z.kp rfl b o (Vb _ q)
  have cb:=hold aA aw av (ak.trans au) az keep
  have ha3:ae.length<aA.n:=Vf ha1 au.n
  have hnsne:fr.ns≠fr'.ns:=Z.ns▸(H.length_push .. ▸Vy (VN (af.len▸Vf f.ins ac.n)))
  have hacc3:(Value.ref aj.heap.objs.size)=.ref (aA.ρ ae.length):=by rw[au.ρ _ ha1,ha2]
  have go:c6 g.M A (.compLoop (.ListComp elt [⟨tgt,it,ifs,0⟩] sc p) 0 itv (.ref aj.heap.objs.size) {env' with scope:=relabel sc env}) (CP g A (EX g c A X) use Q (.ref aj.heap.objs.size) {env' with scope:=relabel sc env}) av:=by
   rw[hacc3]
   refine dB (S.self.co (oa.up ee) fc az.unpin cb ha3 hK) λq s' y=>?_
   cases q with
   |ok fl=>
    obtain⟨rfl,aC,ax,aD,aF,hK⟩:=y
    rw[<-aD.ρ _ ha3]
    exact hq _ _ _ aC ax s' (ee.trans aD) aF hnsne (Vf ha3 aD.n) hK (λq=>hNn (aD.M _ aQ.ins q)) (hloc3.trans (aD.ρ _ aQ.ins).symm)
   |error e=>
    have:=C6 (Q:=Q) (f.ext ee) aQ.ins hNn hloc3 hfrm (dS.env y rfl)
    refine e12 this λm h1 h2=>?_;clear this
    have hh:∃m,s'.heap.Ns env'.locals m/\∀h' m',h'.Ns env'.locals m'->Vn env'.locals s'.heap h'->cQ g.M A (PySem.passOn "comprehension.variables-let-go" e {env' with scope:=relabel sc env}:Sem Value) Q (EX g c A X) {s' with heap:=h'}:=
     ⟨m,h1,λh' m' a b=>cO (P (h2 h' m' a b)) (λY Y x=>x) λY Y x=>EX.mono ee x⟩
    cases use<;>exact hh
  exact iR go (P<|iter_self cb go)
theorem G8(G:GF g)(W:SW g)(S:ic g n r){elt:Expr}{gs:List Comprehension}{sc:Scope}{p:Pos}{K:V->H->Bool}(oa:dy g c n A)(f:FR g c A fr env)(I:cV g c h s)(hk:kq g.C r fr elt gs sc h K X=true):
  cQ g.M A (eval (.ListComp elt gs sc p) env) (QV g c K) (EX g c A X) s:=by
 rw[eval_ListComp]
 refine qA G W S oa f I hk λns acc cenv ag ae aa ac af hne ha hK hN hl=>lQ hK λm hm hK=>?_
 refine(?_:∃m,_)
 rw[hl]
 exact(af.nsAt hm).elim λmm hns=>⟨mm,hns,λh' m' a b=>⟨.ref acc,ag,_,ac,af.let_go hm hN a b,rh ha rfl,hK⟩⟩
theorem ww(G:GF g)(W:SW g)(S:ic g n r){elt:Expr}{gs:List Comprehension}{sc:Scope}{p px:Pos}{x:Str}{K:V->H->Bool}{K':H->Bool}(oa:dy g c n A)(f:FR g c A fr env)(I:cV g c h s)(hx:env.kindOf x=some .local)
  (hk:kq g.C r fr elt gs sc h K X=true) (hK':∀v h,K v h=true->gu fr (cd x) v h K'=true):
  cQ g.M A (evalThenUse (.ListComp elt gs sc p) env (assign (.Name x px) env)) (QU g c K') (EX g c A X) s:=by
 have e:evalThenUse (.ListComp elt gs sc p) env (assign (.Name x px) env)=(do let _<-comprehension (.ListComp elt gs sc p) sc env (firstIterPos gs p) (newList []) (firstAsync gs) (firstIter gs env) (some (assign (.Name x px) env))):=rfl
 rw[e]
 refine wpAny_bind (qA (Q:=λY s'=>cQ g.M A (pure ()) (QU g c K') (EX g c A X) s') G W S oa f I hk λns acc cenv ag ae aa ac af hne ha hK hN hl=>?_)
 refine lQ hK λm hm hK=>iK (f.ext ac) hx (hK' _ _ hK) λm0 hx0 hm0 hK=>?_
 refine(?_:cQ g.M A (assign (.Name x px) env (.ref (ag.ρ acc))) _ _ aa)
 have aH:=f.ext ac
 rw[H.get_set,if_neg (Ne.symm hne)] at hm0
 obtain⟨hlt,mm,hns,hnr⟩:=af.obj _ _ hm0
 refine gT (wpAny_storeName_local hx (aH.loc▸hns) (λh' hn' hs=>?_) (show(env.scope.kind==.class||(env.scope.kind==.module&&_))=false by rw[f.kind];rfl))
 rw[aH.loc] at hn' hs
 refine e32 (id hn') λob es ep ho r=>?_
 have am:cV g ag (ae.set fr.ns (.ns (ny m0 (cd x) (.ref acc)))) {aa with heap:=h',toks:=aa.toks+1}:=
  af.set (s':={aa with heap:=h',toks:=aa.toks+1}) hm0 (λb ob hb Y e=>(hs.2 b hb).trans e) ⟨_,hn',hnr.put hx0 (rh ha rfl)⟩ ⟨_,ho⟩ (nh af hlt ho hs) ⟨rfl,rfl,rfl⟩ (λY Y=>rfl)
 have hm2:(ae.set fr.ns (.ns (ny m0 (cd x) (.ref acc)))).get ns=some (.ns m):=by rw[H.get_set,if_neg hne];exact hm
 refine e11 (am.nsAt hm2) λmm2 hns2=>?_
 rw[hl]
 refine⟨mm2,hns2,λh'' m'' a b=>wpAny_pure ⟨ag,_,ac,(am.let_go hm2 hN a b).same (λj=>?_) (by rw[H.length_set,H.length_set,H.length_set,H.length_set]),hK⟩⟩
 rw[H.get_set,H.get_set,H.get_set,H.get_set]
 by_cases q1:fr.ns=j
 .subst q1;rw[if_pos rfl,if_neg (Ne.symm hne),if_pos rfl]
 .rw[if_neg q1,if_neg q1]
theorem K3(G:GF g)(W:SW g)(S:ic g n r){t it:Expr}{b o:List Stmt}{p:Pos}{K:f9->H->Bool}(oa:dy g c n A)(f:FR g c A fr env)(I:cV g c h s)(hk:vk g.C r fr t it b o h K X=true):
  cQ g.M A (exec (.For t it b o p) env) (QF g c K) (EX g c A X) s:=
 cT hk λho hk=>by
  cases o with
  |cons _ _=>exact ft ho
  |nil=>
   refine e03 (kX G W S.self oa f I hk) λhh hs hw=>?_
   refine l9 (cO hw (λx aa ae=>cO ae (λitv aj ⟨i,ag,ae,ac,af,hit,hK⟩=>dB (S.self.fo (oa.up ac) (f.ext ac) af hit hK) λq s' y=>?_) λY Y x=>x) λY Y x=>x) hs
   cases q with
   |ok fl=>exact QF.mono ac y
   |error e=>exact PySem.wpAny_mono (dS.back (f.ext ac) y) (λY Y x=>EX.mono ac x) λY Y x=>EX.mono ac x
end
end
section
variable{g:Gb}{c c':Cf}
section
variable{n:Nat}{r:Ev}{A:Around}{fr:Fr}{env:Env}{X:Nat->H->Bool}{h:H}{s:Shared}{E:Value->Shared->Prop}
noncomputable def MJ(pos:Pos)(env:Env)(ks:List (Option Expr)):List Expr->List (Sem Value×Sem Value):=List.rec (λY=>[])
 (λk Y ih vs=>dq k [] λk=>dq (nv vs) [] λp=>(eval k env,do let x<-eval p.1 env;standAt pos;pure x)::ih p.2) ks
theorem K4{pos:Pos}{ks:List (Option Expr)}{vs:List Expr}(h:fm (λ(k:Option Expr) (Y:Expr)=>k.isSome) ks vs=true):(evalEachOpt ks env).zip ((evalEach vs env).map λv=>do let x<-v;standAt pos;pure x)=(MJ pos env ks vs).map (λp=>(some p.1,p.2))/\(MJ pos env ks vs).length=ks.length:=
 dH (P:=λks vs=>(evalEachOpt ks env).zip ((evalEach vs env).map λv=>do let x<-v;standAt pos;pure x)=(MJ pos env ks vs).map (λp=>(some p.1,p.2))/\(MJ pos env ks vs).length=ks.length) h ⟨rfl,rfl⟩ λk ks v vs e ih=>by
  cases k with
  |none=>exact ft e
  |some k=>
   refine⟨?_,congrArg (· +1) ih.2⟩
   refine(?_:_::_=_::_)
   exact congrArg (_::·) ih.1
theorem K5{pos:Pos}(S:eO g n r){ks:List (Option Expr)}:∀{vs:List Expr} {c:Cf} {h:H} {s:Shared} {K:List V->List V->H->Bool},dy g c n A->FR g c A fr env->cV g c h s->xv r fr ks vs h K X=true->
  cQ g.M A (evalPairs (MJ pos env ks vs)) (λps s'=>ps.length=ks.length/\∃as bs c' h',dz c c'/\cV g c' h' s'/\da g c' as (ps.map (·.1))/\da g c' bs (ps.map (·.2))/\K as bs h'=true) (EX g c A X) s:=by
 induction ks with
 |nil=>exact λoa f I hk=>cT hk λY hk=>wpAny_pure ⟨rfl,[],[],_,_,.refl _,I,da.nil,da.nil,hk⟩
 |cons k ks ih=>
  intro vs c h s K oa f I hk
  cases k with
  |none=>exact ft hk
  |some k=>
   cases vs with
   |nil=>exact ft hk
   |cons v vs=>
    show cQ g.M A (evalPairs ((eval k env,do let x<-eval v env;standAt pos;pure x)::MJ pos env ks vs)) _ _ s
    rw[evalPairs]
    refine wpAny_bind (cO (S.ev oa f I hk) (λx aa qq=>qq.elim λa ag ae ac af ha hK=>?_) λY Y x=>x)
    refine wpAny_bind (cS (wpAny_bind (cO (S.ev (oa.up ac) (f.ext ac) af hK) (λy aj qq=>qq.elim λb ao aq ak am hb hK=>?_) λY Y=>EX.mono ac)))
    refine wpAny_bind (cU (wpAny_pure ?_))
    refine wpAny_bind (cS (cO (ih ((oa.up ac).up ak) ((f.ext ac).ext ak) am hK) (λps av q=>?_) λY Y=>EX.mono (ac.trans ak)))
    obtain⟨hl,as,bs,aA,aw,au,az,has,hbs,hK⟩:=q
    exact wpAny_pure ⟨congrArg (· +1) hl,a::as,b::bs,aA,aw,(ac.trans ak).trans au,az,da.cons ((ha.ext ak).ext au) has,da.cons (hb.ext au) hbs,hK⟩
theorem oW:∀{kvs acc:List (Str×Value)},((acc++kvs).map (·.1)).Nodup->merged acc kvs=acc++kvs
 |[],acc,_=>by simp[merged]
 |(k,v)::kvs,acc,hn=>by
  have hk:stored acc k v=acc++[(k,v)]:=by
   unfold stored
   rw[if_neg]
   simp only[List.any_eq_true,decide_eq_true_eq,not_exists,not_and]
   rintro⟨k',v'⟩ hm rfl
   rw[List.map_append,List.nodup_append] at hn
   exact hn.2.2 k' (Wu hm) k' (by simp) rfl
  refine(?_:merged (stored acc k v) kvs=_)
  rw[hk,oW (by simpa using hn)]
  simp
theorem qB{x:Str}(hx:cd x≠0):∀{l:List (Nat×V)} {es:List (Str×Value)},PR g c l es->jO (cd x) l=false->x∉es.map (·.1)
 |[],_,h,_=>by cases h;simp
 |(k,b)::r,_,h,e=>by
  obtain⟨y,w,t,rfl,h2,h3,h4,h5,h6⟩:=h
  unfold jO at e
  rw[Wn,List.mem_cons,not_or]
  by_cases q:y=x
  .subst q;rw[h2,VD] at e;cases e
  .have:U9 k (cd x)=false:=dg λe=>q (en (by rw[h2];exact h3) (h2.trans e))
   rw[this] at e
   exact⟨λz=>q z.symm,qB hx h6 e⟩
theorem K6{as:List V}:∀{bs:List V} {d:List (Nat×V)} {ps:List (Value×Value)},TJ as bs=some d->da g c as (ps.map (·.1))->da g c bs (ps.map (·.2))->
  ∃kvs,Carries (strKind g.pr g.wd) ps kvs/\PR g c d kvs/\(kvs.map (·.1)).Nodup:=by
 induction as with
 |nil=>
  intro bs d ps e ha hb
  cases ps with
  |nil=>exact dJ e λY e=>⟨[],trivial,si e▸rfl,WV⟩
  |cons p ps=>exact absurd (show(_:List Value)=[] from ha) (VT _ _)
 |cons a as ih=>
  intro bs d ps e ha hb
  cases bs with
  |nil=>exact nn e
  |cons b bs=>
   cases ps with
   |nil=>exact absurd ha.length.symm (VU _)
   |cons p ps=>
    refine e23 ha λx xs q1 ha1 ha2=>?_;clear ha
    refine e23 hb λy ys q2 hb1 hb2=>?_;clear hb
    have q1:=VY q1
    have q2:=VY q2
    refine re λY bk=>cW e λk ek e=>cW e λd' hd e=>dJ e λhk e=>bk ?_
    refine e13 (ih hd (q1.2▸ha2) (q2.2▸hb2)) λkvs h1 h2 h3=>?_
    have ha1:VR g c (.str k) x:=gy ek▸ha1
    refine e24 ha1 λz t hz z1 z2 z3=>?_;clear ha1
    refine⟨(z,p.2)::kvs,⟨?_,rfl,h1⟩,si e▸⟨z,p.2,kvs,rfl,z1,z2,z3,(show y=p.2 from q2.1.symm)▸hb1,h2⟩,List.nodup_cons.mpr ⟨qB (z1▸z2) h2 (z1▸dO hk),h3⟩⟩
    rw[show p.1=.str z t from q1.1.trans hz]
    exact oj
theorem K7(S:ic g n r){ks:List (Option Expr)}{vs:List Expr}{p:Pos}{K:V->H->Bool}(oa:dy g c n A)(f:FR g c A fr env)(I:cV g c h s)(hk:uZ r fr ks vs h K X=true):
  cQ g.M A (eval (.Dict ks vs p) env) (QV g c K) (EX g c A X) s:=by
 refine e02 (II hk) λhlen hk=>?_
 refine e02 (II hk) λhall hk=>?_
 have hlen:=eP hlen
 refine e02 (K4 (env:=env) (pos:=p) hall) λhshape hpl=>?_
 have nd:(s.heap.push {cls:=.type "dict",data:=.dict #[]}).DictOf (strKind g.pr g.wd) s.heap.objs.size []:=Heap.DictOf.new _
 have na:s.heap.get? s.heap.objs.size=none:=Vo (Vm _)
 have hsm:(s.heap.objs.size==sysModules)=false:=by
  refine e11 I.sm λo ho=>?_
  have:=I.base _ _ ho
  rw[beq_eq_false_iff_ne]
  intro q
  rw[<-q,na] at this;cases this
 by_cases h0:ks=[]
 .subst h0
  cases vs with
  |cons _ _=>exact ft hall
  |nil=>
  rw[eval_Dict_empty]
  obtain⟨ao,ak,am,_,_,_,cI⟩:=I.push1 false (o:=.dict []) (ob:={cls:=.type "dict",data:=.dict #[]}) rfl (λh' e=>⟨[],by
   refine e32 nd λo es ep w1 w=>?_;clear nd
   rw[Vj _ rfl] at w1;cases w1
   exact⟨_,es,ep,e,w⟩,hsm,rfl,by simp⟩) (λq=>by cases q)
  refine wpAny_bind (cU ?_)
  unfold newDict newObj
  exact P (PySem.wpAny_bind (PySem.wpAny_alloc (PySem.wpAny_pure ⟨_,ao,_,ak,am,cI,hk⟩)))
 .rw[arm_eval_Dict,hshape,dictDisplay_pairs _ (λq=>h0 (List.length_eq_zero_iff.mp (by rw[<-hpl,q];rfl))) (by omega)]
  refine wpAny_bind (cU (wpAny_bind ?_))
  unfold subDict
  refine wpAny_bind (P (PySem.wpAny_alloc ?_))
  have fa:=I.free na
  have I1:=(I.alloc {cls:=.type "dict",data:=.dict #[]})
  have Ip:=I1.pin (L:=[s.heap.objs.size]) (λb hb=>by rw[List.mem_singleton.mp hb];exact fa)
  refine wpAny_bind (cS ?_)
  refine kQ (by omega) ?_
  refine wpAny_bind (cO (K5 (S.pin [s.heap.objs.size] _) oa.pin f.pin Ip hk) (λps aa ⟨hpn,as,bs,ag,ae,ac,af,has,hbs,hK⟩=>?_) λe s' x=>x.unpin)
  refine e12 (xN hK) λd hd hK=>?_
  refine e13 (K6 hd (da.pin.mp has) (da.pin.mp hbs)) λkvs q1 q2 q3=>?_
  obtain⟨ob,hob,hr⟩:∃ob,(s.heap.push {cls:=.type "dict",data:=.dict #[]}).get? s.heap.objs.size=some ob/\ob={cls:=.type "dict",data:=.dict #[]}:=⟨_,Vj _ rfl,rfl⟩
  have hd1:=af.pinned (List.mem_singleton.mpr rfl) hob
  have nd1:aa.heap.DictOf (strKind g.pr g.wd) s.heap.objs.size []:=by
   refine e32 nd λo es ep w1 w=>?_;clear nd
   rw[hob] at w1;cases w1
   exact⟨_,es,ep,hd1,w⟩
  have fa1:gZ g ag s.heap.objs.size:=af.pinFre (List.mem_singleton.mpr rfl) hob fa
  have hmg:merged [] kvs=kvs:=by simpa using oW (acc:=[]) (kvs:=kvs) (by simpa using q3)
  have hkl:=q1.length
  have hl2:=q2.length
  refine cS ?_
  show cQ (model g.pr g.wd) A ((forIn ps PUnit.unit λ(x:Value×Value) (Y:PUnit)=>(do dictSet s.heap.objs.size x.1 x.2;pure (ForInStep.yield PUnit.unit):Sem (ForInStep PUnit)))>>=λY=>pure ()) _ _ _
  refine wpAny_bind (P (wpAny_storeAll (knd:=strKind g.pr g.wd) ps kvs [] aa _ q1 nd1 (by rw[sizeLine_eq,List.length_nil];omega) λh' hm hs=>?_))
  rw[hmg] at hm
  refine wpAny_pure (wpAny_pure (wpAny_pure ?_))
  have I2:cV g ag ae {aa with heap:=h',toks:=aa.toks+ps.length}:=af.unpin.wild (λb=>b=s.heap.objs.size) (λb hb=>hb▸fa1) (λb o hb e=>(hs.2 b hb).trans e) ⟨rfl,rfl,rfl⟩
  refine e32 (id hm) λob2 es2 ep2 w1 w2=>?_
  have I3:=I2.pushF (o:=.dict d) (fl:=false) (λY Y e=>e) fa1 fa1 ⟨kvs,hm,hsm,q2,by omega⟩ ⟨_,w1⟩ ⟨_,w1⟩ ⟨rfl,rfl,rfl⟩ (λq=>by cases q)
  have ex:=dz.add ag s.heap.objs.size s.heap.objs.size false
  refine⟨.ref ae.length,_,_,ac.trans ex,I3,?_,hK⟩
  unfold VR
  have:ae.length=ag.n:=I2.len.symm
  exact⟨by rw[this];exact VH _,by rw[this];exact congrArg Value.ref (if_pos rfl).symm⟩
end
end
theorem rG:Slot "bytearray" "__init__" "bytearray.__init__":=
 .of (owner:="bytearray") (n:="__init__") (by rw[typeLookup_type,builtinLookup_eq_fast];kernel_rfl) (by decide+kernel) (by decide+kernel) (by decide+kernel)
  (by first|exact .inl (by decide+kernel)|exact .inr (by decide+kernel)) (by rw[isSubtype_type];kernel_rfl)
theorem DT:mroOf (.type "bytearray")=pure [.type "bytearray",.type "object"]:=by rw[mroOf_type];kernel_rfl
theorem pW:typeLookup (.type "bytearray") "__new__"=pure (some (.builtin "bytearray.__new__")):=by rw[typeLookup_type,builtinLookup_eq_fast];kernel_rfl
theorem Ap:TypeCalled "bytearray" "bytearray.__new__" "bytearray.__init__":=
 ⟨by decide+kernel,by decide+kernel,⟨_,_,DT⟩,madeBy_type DT pW (by decide+kernel),by decide+kernel,by rw[isSubtype_type];kernel_rfl,rG⟩
theorem ua(a:Value):checkTypeCall "bytearray" ⟨[a],[]⟩=pure ():=by kernel_rfl
theorem wx(a:Value):checkBuiltinCall "bytearray.__new__" ⟨[.type "bytearray",a],[]⟩=pure ():=by kernel_rfl
theorem rH:entryFor table "bytearray.__new__"=some Builtin.«list.__new__»:=
 entryFor_alias (id':="list.__new__") (by kernel_rfl) (by first|rfl|decide+kernel|(unfold String.splitOn;simp+decide [String.splitOnAux])) (by decide+kernel) (by kernel_rfl)
theorem pX:entryFor table "bytearray.__init__"=some Builtin.«bytearray.__init__»:=entryFor_of_tree (by kernel_rfl)
theorem kY:plainId "bytearray.__new__"=true:=by decide+kernel
theorem rI(a b:Value):argsOk "bytearray.__init__" ⟨[a,b],[]⟩:=by unfold argsOk;kernel_rfl
theorem rJ:("bytearray.__new__".splitOn ".__new__").headD ""="bytearray":=by simp+decide [String.splitOn,String.splitOnAux]
theorem DU:isSubtype (.type "bytearray") (.type "bytearray")=pure true:=by rw[isSubtype_type];kernel_rfl
section
variable{prog:Program}{w:World}{A:Around}{E:Value->Shared->Prop}{s:Shared}
theorem uc(a:Value){Q₁:Value->Shared->Prop}(h:Q₁ (.ref s.heap.objs.size) {s with heap:=s.heap.push {cls:=.type "bytearray",data:=.bytearray #[]}}):
  PySem.codeAny (model prog w) A (.call (.builtin "bytearray.__new__") ⟨[.type "bytearray",a],[]⟩) (wants Q₁ E) s:=by
 refine PySem.codeAny_of_tree ?_
 show PySem.wpAny _ A.in1 (do checkBuiltinCall "bytearray.__new__" ⟨[.type "bytearray",a],[]⟩;again (.builtin "bytearray.__new__" ⟨[.type "bytearray",a],[]⟩)) _ _ s
 refine PySem.wpAny_bind (PySem.wpAny_of_eq (wx a) (PySem.wpAny_pure ⟨plainId_quiet kY _,codeAny_builtin_stack rH rfl λp st=>?_⟩))
 rw[Around.under_plainId kY _]
 have hsub:=DU
 have hown:=rJ
 obtain⟨hp,g,d,tk,os⟩:=s
 simp only[hown]
 wp_walk
 exact h
theorem pY{c:Code}{Q₁:Value->Shared->Prop}(h:PySem.codeAny (model prog w) A c (wants Q₁ E) s):PySem.codeAny (model prog w) A c (λr s'=>match r with|.ok (.ret v)=>Q₁ v s'|.ok _=>False|.error e=>E e s') s:=
 PySem.codeAny_mono h λr s' x=>by
  cases r with
  |error e=>exact x
  |ok f=>cases f<;>exact x
theorem kZ{M:Model}{self:Value}{T id:String}{name:Str}{args:List Value}{Q:Option Value->Shared->Prop}(hT:s.TypeIs self T)(hs:Slot T name id)(h:cQ M A (call (.builtin id) (self::args)) (λv s'=>Q (some v) s') E s):cQ M A (callSpecial? self name args) Q E s:=by
 unfold callSpecial?
 refine wpAny_bind (P (PySem.wpAny_specialOf hT hs.lookup ?_))
 refine cS ?_
 rw[hs.bind]
 refine(?_:cQ M A (call (.builtin id) ([self]++args) []>>=λv=>pure (some v)) Q E s)
 exact wpAny_bind (m:=call (.builtin id) ([self]++args)) (f:=λv=>pure (some v)) (cO h (λY Y q=>wpAny_pure q) λY Y e=>e)
theorem pZ{T newId initId:String}{Bi:Builtin}{args:List Value}{Q Q₁:Value->Shared->Prop}(ft:TypeCalled T newId initId)(hci:∀as,pP (.builtin initId as))
  (hct:checkTypeCall T ⟨args,[]⟩=pure ()) (entryI:entryFor table initId=some Bi)
  (hnew:PySem.codeAny (model prog w) A.in1 (.call (.builtin newId) ⟨.type T::args,[]⟩) (wants Q₁ E) s)
  (hnext:∀obj aa,Q₁ obj aa->aa.TypeIs obj T/\argsOk initId ⟨obj::args,[]⟩/\cQ (model prog w) A.in1.in1 (Bi ⟨obj::args,[]⟩) (λfin s'=>fin=.done (.ret .none)/\Q obj s') E aa):
  cQ (model prog w) A (call (.type T) args) Q E s:=by
 refine e21 ft.mro λc tl hmro=>?_
 have hmade:=ft.made
 have hsub:=ft.sub
 refine fO (c8 (λY Y=>rfl) ?_)
 refine(?_:cQ _ _ (callAny (.type T) _) _ _ _)
 refine wpAny_pure ⟨Code.quiet_builtin _ (by decide+kernel),iY (jp (by decide+kernel) (λY Y Y=>rfl) (λY Y Y Y Y=>rfl)) F.entry_type_call ?_⟩
 rw[Around.under_plain (weight_type_call_type T args []) rfl]
 have h1:=ft.notType
 have h2:=ft.canCreate
 unfold Builtin.«type.__call__»
 simp only[h1,h2,hct,hmro,hmade,List.isEmpty_cons,Wz,if_false,pure_bind]
 refine wpAny_bind (cS (cO (Q:=λv s'=>Q₁ v s') (P (PySem.wpAny_call (pY hnew))) (λobj aa hr=>?_) λY Y e=>e))
 refine e03 (hnext _ _ hr) λhT hok hsi=>?_
 refine wpAny_bind (P (PySem.wpAny_isInstance hT hsub ?_))
 refine fE Ve ?_
 refine wpAny_bind (cS (kZ hT ft.init (fO (ec (hci _) (plainId_quiet ft.init.plain _) entryI (ft.init.check _ _ _ _ _ _ _ _ hT hok ?_)))))
 rw[Around.under_plainId ft.init.plain _]
 refine cO hsi (λfin s' ⟨h1,h2⟩=>?_) λY Y e=>e
 subst h1
 exact wpAny_pure h2
theorem qa{M:Model}{self:Value}{Q:Bool->Shared->Prop}(h:Q false s):cQ M A (Builtin.Bytes.exported self) Q E s:=by
 rw[exported_eq]
 intro Γ p hΓ hc
 refine(?_:Sem.wp M Γ (stack>>=λl=>pure (l.any (gE self))) _ _ p s)
 rw[Sem.wp_bind',stack,Sem.wp_stack]
 have e:((Γ.code,p)::Γ.below).any (gE self)=false:=by
  rw[Xc]
  intro x hx
  rcases List.mem_cons.mp hx with rfl|hx
  .rw[hc.code self p];exact Ve
  .have:=hc.below x hx self x.2
   rw[show x=(x.1,x.2) from rfl,this];exact Ve
 refine(?_:Q (((Γ.code,p)::Γ.below).any (gE self)) s)
 rw[e];exact h
theorem mU:typeLookup (.type "bytearray") "__release_buffer__"=pure (some (.builtin "bytearray.__release_buffer__")):=by rw[typeLookup_type,builtinLookup_eq_fast];kernel_rfl
theorem ii:typeLookup (.type "bytes") "__index__"=pure none:=by rw[typeLookup_type,builtinLookup_eq_fast];kernel_rfl
theorem K8{M:Model}{a:Value}{Q:Bool->Shared->Prop}(hT:s.TypeIs a "bytearray")(h:Q false s):PySem.wpAny M A (Builtin.Bytes.ownRelease a) Q E s:=by
 have key:∀x:String,x="bytearray"->∀{Q:Bool->Shared->Prop},Q true s->PySem.wpAny M A (isInstance a (.type x)) Q E s:=λx hx Q q=>by rw[hx];exact PySem.wpAny_isInstance hT DU q
 unfold Builtin.Bytes.ownRelease Builtin.Bytes.slotIsOwn
 refine PySem.wpAny_bind (PySem.wpAny_bind (PySem.wpAny_specialOf hT mU ?_))
 dsimp only
 split
 .rename_i hx
  exact absurd hx (by decide+kernel)
 .exact key _ (by decide+kernel) (PySem.wpAny_pure h)
theorem G9{id:String}{b:Array UInt8}{t:Tok}:Builtin.Bytes.buffer? id (.bytes b t) (full:=true)=pure (some b):=by
 unfold Builtin.Bytes.buffer?
 rw[KBy.special_eq KBy.look_buffer,KBy.own_buffer,KBy.own_release]
 kernel_rfl
theorem oY{M:Model}{a:Addr}{o:Obj}{b:Array UInt8}{n:Nat}{f:Array UInt8->Array UInt8}{Q:Unit->Shared->Prop}(ho:s.heap.get? a=some o)(hd:o.data=.bytearray b n)(hsz:(f b).size≤sizeLine)
  (h:∀hp,hp.get? a=some {o with data:=.bytearray (f b) n}->(∀x,x≠a->hp.get? x=s.heap.get? x)->Q () {s with heap:=hp}):PySem.wpAny M A (Builtin.Bytes.write (.ref a) f) Q E s:=by
 obtain⟨oc,od,odat,os⟩:=o
 dsimp only at hd
 subst hd
 have e:Obj.mapBytearray f ⟨oc,od,.bytearray b n,os⟩=⟨oc,od,.bytearray (f b) n,os⟩:=rfl
 have g1:(s.heap.update a (Obj.mapBytearray f)).get? a=some ⟨oc,od,.bytearray (f b) n,os⟩:=(Vp _ ho rfl).trans (congrArg some e)
 refine(?_:PySem.wpAny M A (load a>>=λr=>_) Q E s)
 refine PySem.wpAny_bind (PySem.wpAny_load ho (PySem.wpAny_bind (PySem.wpAny_update ho (PySem.wpAny_lookBehind g1 ?_ (h _ g1 λx hx=>V3 _ _ (Ne.symm hx))))))
 refine(?_:(if(f b).size>sizeLine then some "bytearray:memory" else none)=none)
 rw[if_neg (Nat.not_lt.mpr hsz)]
theorem Aq{M:Model}{a:Addr}{o:Obj}{b:Array UInt8}{n:Nat}{Q:Nat->Shared->Prop}(ho:s.heap.get? a=some o)(hd:o.data=.bytearray b n)(h:Q n s):PySem.wpAny M A (Builtin.Bytes.exportsOf (.ref a)) Q E s:=by
 refine(?_:PySem.wpAny M A (load a>>=λr=>_) Q E s)
 refine PySem.wpAny_bind (PySem.wpAny_load ho ?_)
 rw[hd]
 exact PySem.wpAny_pure h
theorem Ar(x:Value):Builtin.Bytes.bindOptional "bytearray.__init__" "bytearray" ["source","encoding","errors"] [x] []=pure [some x,none,none]:=by kernel_rfl
theorem Ha{M:Model}{a:Addr}{o:Obj}{b0 b:Array UInt8}{t:Tok}{Q:Fin->Shared->Prop}(ho:s.heap.get? a=some o)(hc:o.cls=.type "bytearray")(hd:o.data=.bytearray b0 0)(hsz:b.size≤sizeLine)
  (h:∀hp,hp.get? a=some {o with data:=.bytearray b 0}->(∀x,x≠a->hp.get? x=s.heap.get? x)->Q (.done (.ret .none)) {s with heap:=hp}):cQ M A (Builtin.«bytearray.__init__» ⟨[.ref a,.bytes b t],[]⟩) Q E s:=by
 have hT:s.TypeIs (.ref a) "bytearray":=⟨o,ho,hc⟩
 refine(?_:cQ M A (Builtin.Bytes.ownRelease (.ref a)>>=λr=>_) Q E s)
 refine wpAny_bind (P (K8 hT ?_))
 refine fE Ve ?_
 refine wpAny_bind (P (PySem.wpAny_of_eq (Ar _) ?_))
 refine wpAny_bind (wpAny_pure (wpAny_bind (wpAny_pure ?_)))
 refine wpAny_bind (wpAny_bind (qa ?_))
 refine wpAny_bind (P (Aq ho hd ?_))
 refine wpAny_pure ?_
 refine fE (by simp) ?_
 refine wpAny_bind (P (oY ho hd (VQ _) λh1 g1 k1=>?_))
 refine wpAny_bind (P (PySem.wpAny_of_eq (a:=none) rfl ?_))
 refine fE Ve ?_
 refine wpAny_bind (wpAny_pure (wpAny_bind (P (PySem.wpAny_specialOf (T:="bytes") (typeIs_bytes _ _ _) ii ?_))))
 refine fE Ve ?_
 refine wpAny_bind (P (PySem.wpAny_of_eq G9 ?_))
 refine wpAny_bind (wpAny_rule (wpAny_bind (P (oY g1 rfl hsz λh2 g2 k2=>wpAny_pure (h _ g2 λx hx=>(k2 x hx).trans (k1 x hx))))))
theorem yy{b:Array UInt8}{t:Tok}{Q:Value->Shared->Prop}(hsz:b.size≤sizeLine)
  (h:∀hp a ob,(∀x o,s.heap.get? x=some o->hp.get? x=some o)->s.heap.get? a=none->hp.get? a=some ob->ob.cls=.type "bytearray"->ob.data=.bytearray b 0->Q (.ref a) {s with heap:=hp}):cQ (model prog w) A (call (.type "bytearray") [.bytes b t]) Q E s:=by
 have na:s.heap.get? s.heap.objs.size=none:=Vo (Vm _)
 refine pZ Ap (λas=>jp (by decide+kernel) (λY Y Y=>rfl) (λY Y Y Y Y=>rfl)) (ua _) pX (uc _ (Q₁:=λobj aa=>obj=.ref s.heap.objs.size/\aa={s with heap:=s.heap.push {cls:=.type "bytearray",data:=.bytearray #[]}}) ⟨rfl,rfl⟩) λobj aa ⟨e1,e2⟩=>?_
 subst e1 e2
 have ga:(s.heap.push {cls:=.type "bytearray",data:=.bytearray #[]}).get? s.heap.objs.size=some {cls:=.type "bytearray",data:=.bytearray #[]}:=Vj _ rfl
 refine⟨⟨_,ga,rfl⟩,rI _ _,Ha ga rfl rfl hsz λhp g1 k1=>⟨rfl,h hp _ _ (λx o q=>?_) na g1 rfl rfl⟩⟩
 have hx:x≠s.heap.objs.size:=λe=>by rw[e,na] at q;cases q
 rw[k1 x hx]
 exact Vb _ q
end
theorem eW:Slot "bytearray" "__setitem__" "bytearray.__setitem__":=
 .of (owner:="bytearray") (n:="__setitem__") (by rw[typeLookup_type,builtinLookup_eq_fast];kernel_rfl) (by decide+kernel) (by decide+kernel) (by decide+kernel)
  (by first|exact .inl (by decide+kernel)|exact .inr (by decide+kernel)) (by rw[isSubtype_type];kernel_rfl)
theorem mh:entryFor table "bytearray.__setitem__"=some Builtin.«bytearray.__setitem__»:=entryFor_of_tree (by kernel_rfl)
theorem mV(a b d:Value):argsOk "bytearray.__setitem__" ⟨[a,b,d],[]⟩:=by unfold argsOk;kernel_rfl
theorem oZ:typeLookup (.type "bytes") "__int__"=pure none:=by rw[typeLookup_type,builtinLookup_eq_fast];kernel_rfl
theorem mi:typeLookup (.type "bytes") "__float__"=pure none:=by rw[typeLookup_type,builtinLookup_eq_fast];kernel_rfl
theorem rK:isSubtype (.type "bytes") (.type "bytearray")=pure false:=by rw[isSubtype_type];kernel_rfl
theorem ld:isSubtype (.type "bytes") (.type "complex")=pure false:=by rw[isSubtype_type];kernel_rfl
theorem DV{M:Model}{A:Around}{E:Value->Shared->Prop}{s:Shared}{a b:Sem Bool}{Q:Bool->Shared->Prop}(ha:cQ M A a (λx s'=>x=false/\s'=s) E s)(hb:cQ M A b Q E s):cQ M A (a<||>b) Q E s:=
 wpAny_bind (cO ha (λx s' ⟨h1,h2⟩=>by subst h1 h2;exact hb) λY Y e=>e)
section
variable{g:Gb}{A:Around}{E:Value->Shared->Prop}{s:Shared}
theorem DW{b v:Array UInt8}{i j:Nat}(hsz:b.size≤10000)(hv:v.size≤10000):(b.extract 0 i++v++b.extract j b.size).size≤sizeLine:=by
 rw[Array.size_append,Array.size_append,Array.size_extract,Array.size_extract,sizeLine_eq]
 have le:∀{i k:Nat},min k b.size - i≤10000:=Va (WP ..) (Va (Nat.min_le_right ..) hsz)
 exact Va (Wj (Wj le hv) le) (by decide)
theorem DX{n:Nat}(h:n≤10000):n≤sizeLine:=by
 rw[sizeLine_eq]
 omega
theorem DY{i j k:Nat}(h:i≤j)(e:k=j - i):((k:Int)!=(j:Int) - i)=false:=by
 rw[bne_eq_false_iff_eq]
 omega
theorem DZ{x a:Addr}{o:Obj}{b v:Array UInt8}{n i j:Nat}{l u:Value}{lo hi:Option Int}{t:Tok}{Q:Fin->Shared->Prop}(ho:s.heap.get? x=some o)(hc:o.cls=.type "bytearray")(hd:o.data=.bytearray b n)
  (hs:s.heap.IsSliceOf a l u .none) (hl:IsPart l lo) (hu:IsPart u hi) (hsz:b.size≤10000) (hv:v.size≤10000) (hi1:i=lo.elim 0 (clipAt b.size)) (hj1:j=hi.elim b.size (clipAt b.size)) (hle:i≤j) (hlen:v.size=j - i)
  (h:∀hp,hp.get? x=some {o with data:=.bytearray (b.extract 0 i++v++b.extract j b.size) n}->(∀y ob,y≠x->s.heap.get? y=some ob->hp.get? y=some ob)->Q (.done (.ret .none)) {s with heap:=hp}):
  cQ g.M A (Builtin.«bytearray.__setitem__» ⟨[.ref x,.ref a,.bytes v t],[]⟩) Q E s:=by
 refine(?_:cQ _ _ (Builtin.Bytes.subscript? (.ref a)>>=λr=>_) _ _ s)
 refine wpAny_bind (P (tD hs ?_))
 refine e13 (id hs) λos hos hcs hds=>?_
 refine wpAny_bind (P (PySem.wpAny_typeOf (T:="slice") ⟨os,hos,hcs⟩ ?_))
 refine fE (by decide) ?_
 refine wpAny_bind (P (oO hs hl hu ?_))
 refine fE Ve ?_
 refine wpAny_bind (P (PySem.wpAny_isInstance (T:="bytes") (typeIs_bytes _ _ _) rK ?_))
 refine kQ rfl ?_
 have no:∀{name:Str} {Q:Bool->Shared->Prop},typeLookup (.type "bytes") name=pure none->Q false s->cQ g.M A (do return (<-specialOf (.bytes v t) name).isSome) Q E s:=λhl hq=>
  wpAny_bind (P (PySem.wpAny_specialOf (T:="bytes") (typeIs_bytes _ _ _) hl (wpAny_pure (a:=(none:Option Value).isSome) hq)))
 refine wpAny_bind (DV (no ii ⟨rfl,rfl⟩) (DV (no oZ ⟨rfl,rfl⟩) (DV (no mi ⟨rfl,rfl⟩) (P (PySem.wpAny_isInstance (T:="bytes") (typeIs_bytes _ _ _) ld ?_)))))
 refine wpAny_bind (P (PySem.wpAny_of_eq (a:=none) rfl ?_))
 refine fE Ve ?_
 refine wpAny_bind (wpAny_rule (wpAny_bind (yy (DX hv) λh1 ba ob k1 na g1 c1 d1=>?_)))
 refine wpAny_bind (cS (P (oO ⟨os,k1 _ _ hos,hcs,hds⟩ hl hu ?_)))
 refine wpAny_bind (P (gC (s:={s with heap:=h1}) g1 d1 ?_))
 refine wpAny_bind (P (gC (s:={s with heap:=h1}) (k1 _ _ ho) hd ?_))
 refine wpAny_bind (P (PySem.wpAny_of_eq (sliceIndices_raw lo hi none b.size (λe=>nomatch e)) ?_))
 rw[sliceBounds_plain,<-hi1,<-hj1]
 have hm:max (i:Int) (j:Int)=(j:Int):=Int.max_eq_right (Int.ofNat_le.mpr hle)
 simp only[hm,beq_self_eq_true,if_true]
 refine wpAny_bind (wpAny_rule (fE (by rw[DY hle hlen];exact Ve) ?_))
 exact wpAny_bind (P (oY (s:={s with heap:=h1}) (k1 _ _ ho) hd (DW hsz hv) λh2 g2 k2=>wpAny_pure (h h2 g2 λy ob hy e=>(k2 y hy).trans (k1 y ob e))))
end
section
variable{g:Gb}{c c':Cf}{A:Around}{E:Value->Shared->Prop}{h:H}{s:Shared}
theorem D0(b v:Array UInt8)(i j:Nat):(b.extract 0 i++v++b.extract j b.size).toList=b.toList.take i++v.toList++b.toList.drop j:=by
 simp only[VI,Array.toList_extract,List.extract_eq_drop_take,List.drop_zero,Nat.sub_zero]
 rw[List.take_of_length_le (l:=List.drop j b.toList) (Vg VS)]
theorem As(W:SW g){o lo hi a:V}{ov vl vu v:Value}{x:Addr}{K:H->Bool}(I:cV g c h s)(hv:VR g c a v)(ho:VR g c o ov)(h1:VR g c lo vl)(h2:VR g c hi vu)(hs:s.heap.IsSliceOf x vl vu .none)(hk:qW a K o lo hi h=true):
  cQ g.M A (setItem ov (.ref x) v) (QU g c K) E s:=
 kR (P:=λov=>cQ g.M A (setItem ov (.ref x) v) (QU g c K) E s) hk ho λk hk1 hk=>kB (P:=λv=>cQ g.M A (setItem (.ref (c.ρ k)) (.ref x) v) (QU g c K) E s) hk hv λl vb t hb hk=>
 cP hk λb eb hk=>cW eb λo el eo=>cP hk λi e1 hk=>cP hk λj e2 hk=>F5 hk λhc1 hc2 hc3 hc4 hk=>by
  cases kC eo
  refine e12 (kN h1 e1) λp p1 hi1=>?_
  refine e12 (kN h2 e2) λq q1 hj1=>?_
  obtain⟨hk1,ob,bb,w1,w2,w3,w4,w5⟩:=I.obj k _ el
  have hsz:bb.size=b.length:=w4.size
  rw[<-hsz] at hi1 hj1
  have hT:s.TypeIs (.ref (c.ρ k)) "bytearray":=⟨ob,w1,w2⟩
  refine(?_:cQ g.M A (setItem _ _ _) _ _ s)
  unfold setItem
  refine cS (wpAny_bind (P (PySem.wpAny_sequenceKey hT (by decide) ?_)))
  refine wpAny_bind (kZ (name:=U8 "__setitem__") hT eW (fO (ec (jp (by decide+kernel) (λY Y Y=>rfl) (λY Y Y Y Y=>rfl)) (plainId_quiet eW.plain _) mh (eW.check _ _ _ _ _ _ _ _ hT (mV _ _ _) ?_))))
  refine Around.under_plainId eW.plain _▸?_
  refine DZ w1 w2 w3 hs p1 q1 (hsz▸w5) (hb.size▸eP hc4) hi1 hj1 (eP hc1) (hb.size.trans (cX hc2)) λhp g1 k1=>wpAny_pure ?_
  refine⟨c,_,.refl c,I.set (o':=.barr (JS b l i j)) el (λb' ob' n1 Y e=>k1 b' ob' n1 e) ⟨_,_,g1,w2,rfl,?_,eP hc3⟩ ⟨_,g1⟩ ?_ ⟨rfl,rfl,rfl⟩ λY q=>ft q,hk⟩
  .rw[D0];exact((w4.take i).append hb).append (w4.drop j)
  .by_cases q:c.δ k=c.ρ k
   .rw[q];exact⟨_,g1⟩
   .obtain⟨_,o2,h2⟩:=I.pres k hk1
    exact⟨_,k1 _ _ q h2⟩
end
section
open PySem.SeqAt
variable{g:Gb}{c c':Cf}
section
variable{n:Nat}{r:Ev}{A:Around}{fr:Fr}{env:Env}{X:Nat->H->Bool}{h:H}{s:Shared}
theorem rL(S:eO g n r){e:Option Expr}{K:V->H->Bool}(oa:dy g c n A)(f:FR g c A fr env)(I:cV g c h s)(hk:yY r fr e h K X=true):
  cQ g.M A (valueOrNone (evalOpt e env)) (QV g c K) (EX g c A X) s:=by
 cases e with
 |none=>exact wpAny_pure (show QV g c K .none s from⟨.none,c,h,.refl c,I,rfl,hk⟩)
 |some _=>exact S.ev oa f I hk
inductive QS(g:Gb)(c:Cf)(K:V->V->V->H->Bool)(i:Value)(s:Shared):Prop
 |mk (a b d:V) (vl vu vs:Value) (x:Addr) (c':Cf) (h:H) (e:dz c c') (I:cV g c' h s) (hi:i=.ref x) (hs:s.heap.IsSliceOf x vl vu vs) (r1:VR g c' a vl) (r2:VR g c' b vu) (r3:VR g c' d vs) (k:K a b d h=true)
theorem ud(S:eO g n r){lo hi st:Option Expr}{p:Pos}{K:V->V->V->H->Bool}(oa:dy g c n A)(f:FR g c A fr env)(I:cV g c h s)
  (hk:yY r fr lo h (λlo h=>yY r fr hi h (λhi h=>yY r fr st h (λst h=>K lo hi st h) X) X) X=true):
  cQ g.M A (eval (.Slice lo hi st p) env) (QS g c K) (EX g c A X) s:=by
 rw[arm_eval_Slice]
 refine wpAny_bind (cO (rL S oa f I hk) (λvl aa qq=>qq.elim λa ag ae ac af r₁ bM=>?_) λY Y x=>x)
 refine wpAny_bind (cS (cO (rL S (oa.ext I ac) (f.ext ac) af bM) (λvu aj qq=>qq.elim λb ao aq ak am r₂ bO=>?_) λY Y=>EX.mono ac))
 have e12:=ac.trans ak
 refine wpAny_bind (cS (cO (rL S (oa.ext I e12) (f.ext e12) am bO) (λvs av qq=>qq.elim λd aA aw au az cJ cK=>?_) λY Y=>EX.mono e12))
 refine P<|PySem.wpAny_newObj_type ?_
 exact⟨a,b,d,vl,vu,vs,_,aA,aw,e12.trans au,az.alloc _,rfl,⟨_,Vj _ rfl,rfl,rfl⟩,(r₁.ext ak).ext au,r₂.ext au,cJ,cK⟩
theorem La(W:SW g)(S:eO g n r){e:Expr}{lo hi st:Option Expr}{p p':Pos}{K:V->H->Bool}(oa:dy g c n A)(f:FR g c A fr env)(I:cV g c h s)(hk:qS g.C r fr e lo hi st h K X=true):
  cQ g.M A (eval (.Subscript e (.Slice lo hi st p') p) env) (QV g c K) (EX g c A X) s:=by
 rw[arm_eval_Subscript]
 unfold qS at hk
 refine wpAny_bind (cO (S.ev oa f I hk) (λv aa qq=>qq.elim λo ag ae ac af hv hK=>?_) λY Y x=>x)
 refine wpAny_bind (cS (cO (ud S (oa.ext I ac) (f.ext ac) af hK) (λi aj qq=>?_) λY Y=>EX.mono ac))
 obtain⟨a,b,d,vl,vu,vs,x,ao,aq,ak,am,hi,hs,r1,r2,r3,k2⟩:=qq
 subst hi
 refine e02 (Dg (A:=A) (E:=EX g c A X) W am (hv.ext ak) r1 r2 r3 hs k2) λzq86 hg=>?_
 refine e22 zq86 λT id hl hT=>?_
 refine wpAny_bind (cU ?_)
 have fin:∀w av,QV g ao K w av->cQ g.M A (do letTemporaryGo e v w;pure w) (QV g c K) (EX g c A X) av:=λw av q=>wpAny_bind (P<|wpAny_letTemporaryGo (wpAny_pure (QV.mono (ac.trans ak) q)))
 rw[getitemInPython_of_ne hT.not_modules]
 refine wpAny_bind (wpAny_bind (P (PySem.wpAny_specialOf hT hl ?_)))
 refine wpAny_pure (wpAny_bind ?_)
 cases st with
 |none=>exact d4 (cO (P hg) fin λY Y x=>x)
 |some st=>exact d4 (cO (P hg) fin λY Y x=>x)
theorem Hb(W:SW g)(S:eO g n r){o:Expr}{lo hi st:Option Expr}{p p':Pos}{a:V}{v:Value}{K:H->Bool}(oa:dy g c n A)(f:FR g c A fr env)(I:cV g c h s)(hv:VR g c a v)(hk:qX r fr o lo hi st a h K X=true):
  cQ g.M A (assign (.Subscript o (.Slice lo hi st p') p) env v) (QU g c K) (EX g c A X) s:=by
 rw[arm_assign_Subscript]
 cases st with
 |none=>
  have hk:r.ev fr o h _ X=true:=hk
  refine wpAny_bind (cS (cO (S.ev oa f I hk) (λw aa qq=>qq.elim λo ag ae ac af hw hK=>?_) λY Y x=>x))
  have hK:yY r fr lo ae (λlo h=>yY r fr hi h (λhi h=>yY r fr none h (λst h=>qW a K o lo hi h) X) X) X=true:=hK
  refine wpAny_bind (cS (cO (ud (K:=λlo hi st h=>qW a K o lo hi h&&(match st with|.none=>true|_=>false)) S (oa.ext I ac) (f.ext ac) af ?_) (λi aj qq=>?_) λY Y=>EX.mono ac))
  .simpa only[yY,Bool.and_true] using hK
  .obtain⟨a',b,d,vl,vu,vs,x,ao,aq,ak,am,hi,hs,r1,r2,r3,k2⟩:=qq
   subst hi
   simp only[WH] at k2
   have hd:d=.none:=by
    cases d<;>first|rfl|(exact absurd k2.2 Ve)
   subst hd
   unfold VR at r3
   subst r3
   refine wpAny_bind (cU (wpAny_bind (cS (cO (As W am ((hv.ext ac).ext ak) (hw.ext ak) r1 r2 hs k2.1) (λY av q=>?_) λY Y x=>x))))
   exact fR (QU.mono (ac.trans ak) q)
 |some _=>exact ft hk
end
end
section
variable{g:Gb}{c c':Cf}
section
variable{A:Around}{E:Value->Shared->Prop}{h:H}{s:Shared}{n:Nat}
def Lc(g:Gb)(f:BF)(v:Value):Prop:=∀{c:Cf} {A:Around} {E:Value->Shared->Prop} {h:H} {s:Shared} {n:Nat} {args:List V} {vs:List Value} {K:V->H->Bool},dy g c n A->cV g c h s->f args h K=true->da g c args vs->cQ g.M A (call v vs) (QV g c K) E s
theorem lf{f:BF}{v:Value}(h:Fj g f v):Lc g f v:=λoa I hk hv=>P (h oa I hk hv)
theorem Ld:Lc g Ik (.type "bytearray"):=λ{c A E h s n args vs K} oa I hk hv=>a1 hk hv λv x hx hk=>kB hk hx λl b t hb hk=>cT hk λhle hk=>
 yy (dC (Va (Vg hb.size) (Va (eP hle) (by decide)))) λhp a ob k na ga hc hd=>
  (I.pushW (o:=.barr l) (s':={s with heap:=hp}) k na ⟨_,_,ga,hc,hd,hb,eP hle⟩ ⟨_,ga⟩ ⟨rfl,rfl,rfl⟩).elim λc' y=>⟨_,c',_,y.1,y.2.1,y.2.2,hk⟩
def Le(P:Nat×BF->Prop):List (Nat×BF)->Prop
 |[]=>True
 |p::r=>P p/\Le P r
theorem ue{P:Nat×BF->Prop}{x:Nat}{f:BF}:∀{l:List (Nat×BF)},Le P l->Bk x l=some f->P (x,f)
 |p::r,h,e=>by
  have e:Bool.rec (motive:=λY=>Option BF) (Bk x r) (some p.2) (U9 p.1 x)=some f:=e
  cases q:U9 p.1 x with
  |true=>rw[q] at e;cases e;exact cX q▸h.1
  |false=>rw[q] at e;exact ue h.2 e
 |[],_,e=>nn e
theorem Hc(W:SW g):Le (λp=>Lc g p.2 (jG p.1)) (M6 g.C):=
 ⟨lf (NK W),lf (GE W),lf NJ,lf NL,lf NM,lf NN,Ld,lf (GC W),lf (KA W),lf (Dm W),trivial⟩
theorem wy(W:SW g){x:Nat}{args:List V}{vs:List Value}{K:V->H->Bool}(oa:dy g c n A)(I:cV g c h s)(hv:da g c args vs)(hk:builtin g.C x args h K=true):cQ g.M A (call (jG x) vs) (QV g c K) E s:=
 cP hk λY e hk=>ue (Hc W) e oa I hk hv
end
end
section
open PySem.SeqAt
variable{g:Gb}{c c':Cf}
section
variable{n:Nat}{r:Ev}{A:Around}{fr:Fr}{env:Env}{X:Nat->H->Bool}{h:H}{s:Shared}
inductive SK(g:Gb)(e:MT):Prop
 |mk (T id:String) (nm:Str) (hx:cd nm=e.x) (h0:cd nm≠0) (slot:Slot T nm id) (ty:typeOf (.builtin id)=pure (.type "method_descriptor")) (pa:PlainAttrs T)
  (is:∀{c:Cf} {h:H} {s:Shared} {a:V} {v:Value},cV g c h s->VR g c a v->e.t a h=true->s.TypeIs v T/\∀x,v=.ref x->∃o,s.heap.get? x=some o/\o.dict=none) (f:tJ g e.f id)
def Lf(P:MT->Prop):List MT->Prop
 |[]=>True
 |p::r=>P p/\Lf P r
theorem uf{P:MT->Prop}{v:V}{m:Nat}{h:H}{f:V->BF}:∀{l:List MT},Lf P l->sK v m h l=some f->∃e,P e/\e.x=m/\e.t v h=true/\e.f=f
 |p::r,a,e=>by
  have e:Bool.rec (motive:=λY=>Option (V->BF)) (sK v m h r) (some p.f) (gd (U9 p.x m) (p.t v h))=some f:=e
  cases q:gd (U9 p.x m) (p.t v h) with
  |true=>rw[q] at e;exact cT q λq1 q2=>⟨p,a.1,cX q1,q2,U7 e⟩
  |false=>rw[q] at e;exact uf a.2 e
 |[],_,e=>nn e
theorem rM(W:SW g){c:Cf}{h:H}{s:Shared}{a:V}{v:Value}(I:cV g c h s)(hv:VR g c a v)(ht:xq g.C a h=true):s.TypeIs v "list"/\∀x,v=.ref x->∃o,s.heap.get? x=some o/\o.dict=none:=
 (Option.isSome_iff_exists.mp ht).elim λn e=>Gh (P:=λv=>s.TypeIs v "list"/\∀x,v=.ref x->∃o,s.heap.get? x=some o/\o.dict=none) W I e hv λo x d e ho=>nU e ho λws h1 Y Y Y Y=>⟨h1.isList.typeIs,λy e=>by cases e;exact h1.noDict⟩
theorem Hd(W:SW g){c:Cf}{h:H}{s:Shared}{a:V}{v:Value}(I:cV g c h s)(hv:VR g c a v)(ht:Io g.C a h=true):s.TypeIs v "dict"/\∀x,v=.ref x->∃o,s.heap.get? x=some o/\o.dict=none:=
 (Option.isSome_iff_exists.mp ht).elim λn e=>Gh (P:=λv=>s.TypeIs v "dict"/\∀x,v=.ref x->∃o,s.heap.get? x=some o/\o.dict=none) W I e hv λo x d e ho=>by
  cases sW e
  refine e12 ho λkvs h1 Y=>?_;clear ho
  exact⟨h1.typeIs,h1.mapOf.noDict⟩
theorem ug{c:Cf}{h:H}{s:Shared}{a:V}{v:Value}(hv:VR g c a v)(ht:uX a h=true):s.TypeIs v "bytes"/\∀x,v=.ref x->∃o,s.heap.get? x=some o/\o.dict=none:=
 (Option.isSome_iff_exists.mp ht).elim λn e=>by
  cases d6 e
  refine e22 hv λb t zq87 Y=>?_;clear hv
  cases zq87
  exact⟨typeIs_bytes _ _ _,nofun⟩
theorem Lh{c:Cf}{h:H}{s:Shared}{a:V}{v:Value}(hv:VR g c a v)(ht:Nb a h=true):s.TypeIs v "str"/\∀x,v=.ref x->∃o,s.heap.get? x=some o/\o.dict=none:=
 (Option.isSome_iff_exists.mp ht).elim λn e=>by
  cases gy e
  refine e22 hv λb t zq88 Y=>?_;clear hv
  cases zq88
  exact⟨typeIs_str _ _ _,nofun⟩
theorem He(W:SW g)(D:WD g):Lf (SK g) (FA g.C):=
 ⟨⟨_,_,U8 "append",(show cd (U8 "append")=sE by decide+kernel),by decide+kernel,F.slot_list_append,F.type_list_append,F.plainAttrs_list,rM W,Ds⟩,
  ⟨_,_,U8 "extend",(show cd (U8 "extend")=sF by decide+kernel),by decide+kernel,F.slot_list_extend,F.type_list_extend,F.plainAttrs_list,rM W,Du W⟩,
  ⟨_,_,U8 "pop",(show cd (U8 "pop")=H1 by decide+kernel),by decide+kernel,F.slot_list_pop,F.type_list_pop,F.plainAttrs_list,rM W,NQ⟩,
  ⟨_,_,U8 "get",(show cd (U8 "get")=H2 by decide+kernel),by decide+kernel,F.slot_dict_get,F.type_dict_get,F.plainAttrs_dict,Hd W,NS W⟩,
  ⟨_,_,U8 "join",(show cd (U8 "join")=A4 by decide+kernel),by decide+kernel,iW,mQ,mF,λ{_ h _ _ _} Y hv ht=>ug (h:=h) hv ht,KD W⟩,
  ⟨_,_,U8 "index",(show cd (U8 "index")=xi by decide+kernel),by decide+kernel,ib,lX,mF,λ{_ h _ _ _} Y hv ht=>ug (h:=h) hv ht,GN⟩,
  ⟨_,_,U8 "split",(show cd (U8 "split")=xf by decide+kernel),by decide+kernel,F.slot_str_split,F.type_str_split,F.plainAttrs_str,λ{_ h _ _ _} Y hv ht=>Lh (h:=h) hv ht,GO D⟩,trivial⟩
theorem Hf(W:SW g)(D:WD g){o:Expr}{name:Str}{ap p:Pos}{args:List Expr}{a:V}{v:Value}{K:V->H->Bool}{m:V->BF}(S:eO g n r)(oa:dy g c n A)(fe:FR g c A fr env)(I:cV g c h s)(hv:VR g c a v)
  (hs:eS args=true) (hlen:args.length≤20) (hr:sK a (cd name) h (FA g.C)=some m) (hline:ap.endLine=p.line) (hk:AT r fr args h (λvs h=>iw g.C (m a vs h K)) X=true):
  cQ g.M A (methodCall o name ap p env v (args.length+([]:List Keyword).length) (backTo p (starEach args env)) (backToKw p (keywordEach [] env))) (QV g c K) (EX g c A X) s:=by
 refine e14 (uf (He W D) hr) λe zq89 e1 e2 zq0=>?_
 obtain⟨T,id,nm,hx,h0,slot,ty,pa,is,f⟩:=zq89
 cases zq0
 cases en h0 (hx.trans e1)
 have hT:=is I hv e2
 exact qz hs hlen hline λY=>P<|getMethod_builtin hT.1 pa slot ty hT.2<|callWith_any (gp (fM hs)) (cO (mf S oa fe I hk) (λvs aj qq=>qq.elim λl ao aq ak am hl hK=>eT hK λY hK=>
  ⟨d8,cO (P (f am (hv.ext ak) hK hl)) (λY Y=>QV.mono ak) λY Y x=>x⟩) λY Y x=>x)
end
end
section
open PySem.SeqAt
variable{g:Gb}{c c':Cf}
theorem raiseStmt_bind{env:Env}{m:Sem Value}:raiseStmt env (some m) none=m>>=λv=>raiseStmt env (some (pure v)) none:=by
 unfold raiseStmt
 simp only[pure_bind]
section
variable{n:Nat}{r q:Ev}{A:Around}{fr:Fr}{env:Env}{X:Nat->H->Bool}{h:H}{s:Shared}
theorem D1(T:EF g)(S:eO g n r){e cs:Option Expr}{p:Pos}(oa:dy g c n A)(f:FR g c A fr env)(I:cV g c h s)(hk:vj g.C r fr e cs h X=true):
  cQ g.M A (exec (.Raise e cs p) env) (λY Y=>False) (EX g c A X) s:=
 fJ hk (λY Y h=>ft h) λhcs hk=>cP hk λe0 he0 hk=>eT hk λhq hk=>by
  obtain⟨Lg,fI,fd,bd,mL,dv,T⟩:=T
  cases hcs;cases he0
  rw[arm_exec_Raise]
  refine wpAny_bind (cU ?_)
  show cQ _ _ (raiseStmt env (some (do let v<-eval e0 env;standAt p;pure v)) none) _ _ _
  rw[raiseStmt_bind]
  refine wpAny_bind (wpAny_bind (cO (S.ev oa f I hk) (λv aa qq=>qq.elim λa ag ae ac af hv hK=>wpAny_bind (cU (wpAny_pure ?_))) λY Y x=>x))
  refine kR (P:=λv=>cQ g.M A (raiseStmt env (some (pure v)) none) (λY Y=>False) (EX g c A X) aa) hK hv λk hlt hK=>MH af hK λob y ho hy hor hK=>iV hK λhb hx hK=>cP hx λinf hi hx=>cT hx λhx h0=>?_
  refine e12 (T.cls hi hx (cX h0)) λmN XX Y=>?_
  have hor:OR g ag (.exc y.1 y.2.1 y.2.2) (ag.ρ k) (ag.δ k) aa.heap:=s8 hy▸hor
  obtain⟨o,vs,mm,o1,o2,o3,o4,o5,o6,o7⟩:=hor
  refine e11 (o7 hb) λt0 ht0=>?_
  subst ht0
  exact P (v6 (XX.keeps af.base) o1 o2 o4 (oa.hh hq) (EX.mono ac ⟨k,ag,_,.refl ag,af.set (s':=aa) (o':=.exc y.1 y.2.1 false) ho (λY Y Y Y e=>e) ⟨o,_,mm,o1,o2,o3,o4,o5,o6,ft⟩ ⟨_,o1⟩ (af.pres _ hlt).2 ⟨rfl,rfl,rfl⟩ (λY q=>by
   rw[s8 hy] at q
   exact ft q),⟨y.1,y.2.1,(H.get_set ..).trans (if_pos rfl)⟩,rfl,.new o _ o1 o4 (by simp) rfl,hK⟩))
end
theorem cV.reC{C':i9}{h:H}{s:Shared}(I:cV g c h s):cV {g with C:=C'} c h s where
 len:=I.len
 obj k o e:=let⟨h1,h2⟩:=I.obj k o e;⟨h1,by
  refine(?_:OR (g.alt C' g.R g.S g.M0 g.s0 g.T0 g.dl g.ul) c o _ _ _)
  rw[oq];exact h2⟩
 pres:=I.pres
 tup:=I.tup
 dat:=I.dat
 rest:=I.rest
 fra:=I.fra
 base:=I.base
 inj:=I.inj
 off k hk a ha:=let⟨x,y⟩:=I.off k hk a ha;⟨⟨x.R,x.B,x.T,x.D⟩,y⟩
 offS a o ho:=let⟨x,y⟩:=I.offS a o ho;⟨⟨x.R,x.B,x.T,x.D⟩,y⟩
 sam:=I.sam
 t0:=I.t0
 m0:=I.m0
 ns:=I.ns
 tab:=I.tab
 offP:=⟨I.offP.R,I.offP.B,I.offP.T,I.offP.D⟩
 sm:=I.sm
 rT:=I.rT
theorem cV.unC{C':i9}{h:H}{s:Shared}(I:cV {g with C:=C'} c h s):cV g c h s:=cV.reC (g:={g with C:=C'}) (C':=g.C) I
theorem D2{C':i9}:VR {g with C:=C'}=VR g:=iL (g:=g) (C:=C') (R:=g.R) (S:=g.S) (M0:=g.M0) (s0:=g.s0) (T0:=g.T0) (dl:=g.dl) (ul:=g.ul)
section
variable{prog:Program}{w:World}{A:Around}{E:Value->Shared->Prop}{s:Shared}{env:Env}{R:Result->Shared->Prop}
theorem At{e:Value}{t:Expr}{pos:Pos}(h:cQ (model prog w) A (eval t env) (λc aa=>cQ (model prog w) A (excMatches e c) (λb aj=>R (.ok (if b then .brk else .next)) aj) (λY Y=>False) aa) (λY Y=>False) s):
  c6 (model prog w) A (.handlers e [.ExceptHandler (some t) none [] pos] env) R s:=by
 refine c8 (λY Y=>rfl) ?_
 show cQ _ A (do return Fin.done (<-(handleWith e env [.ExceptHandler (some t) none [] pos]).onRaise (λx=>do noteFrame x env;theTreesLotGoes x))) _ _ s
 refine wpAny_bind (dU ?_)
 unfold handleWith
 refine wpAny_bind (cU (wpAny_bind (cO h (λc aa ae=>wpAny_bind (cU (wpAny_bind (cO ae (λb aj aq=>wpAny_pure (wpAny_pure ?_)) λY Y x=>x.elim)))) λY Y x=>x.elim)))
 exact aq
theorem wz{e:Value}{body:List Stmt}{pos:Pos}{name:Option Str}
  (h:PySem.wpAny (model prog w) A (setFlight e none) (λY aa=>match name with
   |none=>cQ (model prog w) A (execs body env) (λf aj=>R (.ok f) aj) (λY Y=>False) aa
   |some n=>PySem.wpAny (model prog w) A (storeName env n e) (λY aj=>cQ (model prog w) A (execs body env) (λf av=>R (.ok f) av) (λY Y=>False) aj) (λY Y=>False) aa) (λY Y=>False) s):
  c6 (model prog w) A (.handlers e [.ExceptHandler none name body pos] env) R s:=by
 refine c8 (λY Y=>rfl) ?_
 show cQ _ A (do return Fin.done (<-(handleWith e env [.ExceptHandler none name body pos]).onRaise (λx=>do noteFrame x env;theTreesLotGoes x))) _ _ s
 refine wpAny_bind (dU ?_)
 unfold handleWith
 refine wpAny_bind (cU (wpAny_bind (cO (P h) (λY aa ae=>?_) λY Y x=>x.elim)))
 cases name with
 |none=>exact cO ae (λf aj aq=>wpAny_pure aq) λY Y x=>x.elim
 |some n=>
  refine wpAny_bind (P (wpAny_bindName (PySem.wpAny_mono ae (λY aj aq=>?_) λY Y x=>x.elim)))
  refine wpAny_bind (g9 (cO aq (λf av aw=>wpAny_pure (wpAny_pure aw)) λY Y x=>x.elim))
theorem Au{e:Value}{t:Expr}{name:Option Str}{body:List Stmt}{pos:Pos}{Q:Flow->Shared->Prop}
  (h:c6 (model prog w) (A.mark (some e)) (.handlers e [.ExceptHandler (some t) none [] pos] env) (λr aa=>match r with
   |.ok .brk=>c6 (model prog w) (A.mark (some e)) (.handlers e [.ExceptHandler none name body pos] env) (λr aj=>match r with
     |.ok f=>(match name with
      |none=>Q f aj
      |some n=>PySem.wpAny (model prog w) A (do bindName env n .none;unbindBehindTheSuite env n pos) (λY av=>Q f av) E aj)
     |.error _=>False) aa
   |_=>False) s) (hnb:e≠byPass):
  cQ (model prog w) A (handleBy e env [.ExceptHandler (some t) name body pos]) Q E s:=by
 rw[handleBy]
 have hnb':(some e:Option Value)≠some byPass:=λx=>hnb (U7 x)
 refine wpAny_bind (cS (gk (dB h (λr aa ae=>?_)) hnb'))
 cases r with
 |error x=>exact ae.elim
 |ok f=>
  cases f with
  |brk=>
   refine wpAny_bind (wpAny_pure ?_)
   refine fE Ve ?_
   refine wpAny_bind (cS (gk (dB ae (λr aj aq=>?_)) hnb'))
   cases r with
   |error x=>exact aq.elim
   |ok f=>
    cases name with
    |none=>exact wpAny_pure aq
    |some n=>exact wpAny_bind (cS (cO (P aq) (λY av aw=>wpAny_pure aw) λY Y x=>x))
  |_=>exact ae.elim
theorem D3{body orelse:List Stmt}{aW:ExceptHandler}{pos:Pos}{Q:Flow->Shared->Prop}
  (h:cQ (model prog w) A (execs body env) (λf aa=>match f with|.next=>cQ (model prog w) A (execs orelse env) Q E aa|f=>Q f aa)
   (λe aa=>PySem.wpAny (model prog w) A (noteFrame e env) (λY aj=>PySem.wpAny (model prog w) A (setFlight e none) (λY av=>cQ (model prog w) A (handleBy e env [aW]) Q E av) E aj) E aa) s):
  cQ (model prog w) A (exec (.Try body [aW] orelse [] pos) env) Q E s:=by
 rw[arm_exec_Try]
 refine wpAny_bind (cU ?_)
 unfold tryStmt
 refine kQ (c:=(List.isEmpty ([]:List Stmt))=true) rfl ?_
 refine wpAny_bind (g9 (cO h (λf aa ae=>?_) λe aa ae=>?_))
 .cases f<;>first|exact ae|exact wpAny_pure ae
 .exact wpAny_bind (cO (P ae) (λY Y aq=>fE Ve (wpAny_bind (cO (P aq) (λY Y aw=>fE Ve (fE Ve aw)) λY Y x=>x))) λY Y x=>x)
end
section
variable{n:Nat}{r q:Ev}{A:Around}{fr:Fr}{env:Env}{X:Nat->H->Bool}{h:H}{s:Shared}{E:Value->Shared->Prop}
theorem D4{a:V}{k:Nat}(h:Bq a=some k):a=.cls k:=by
 cases a with
 |cls y=>exact congrArg V.cls (U7 h)
 |_=>exact nn h
theorem Hg{k:NameKind}(h:FC k=true):k=.globalImplicit:=by
 cases k with
 |globalImplicit=>rfl
 |_=>exact ft h
theorem D5{k:NameKind}(h:Iq k=true):k=.local:=by
 cases k with
 |«local»=>rfl
 |_=>exact ft h
theorem o8(G:GF g){B:Around}{e:Expr}{ci:Nat}{Q:Value->Shared->Prop}(f:FR g c A fr env)(st:g.B.StaysIn s.heap)(hk:m8 g.C fr e=some ci)(hq:Q (.ref (g.ca ci)) s):PySem.wpAny g.M B (eval e env) Q E s:=
 cW hk λx hx hk=>cW hk λk hkd hk=>dJ hk λhgi hk=>cW hk λa ha hk=>by
  cases D4 hk;cases Hg hgi
  refine e11 (jD hx) λp hx=>?_
  refine e02 (eU f hkd) λhx0 ke=>?_
  have hd:(x==("__debug__":Str))=false:=by
   cases hq:(x==("__debug__":Str)) with
   |false=>rfl
   |true=>exact nn (f.dbg.symm.trans (eq_of_beq hq▸ke))
  rw[hx,eval_Name _ _ _ hd]
  refine PySem.wpAny_bind (PySem.wpAny_standAt ?_)
  refine e23 G.glob λmg mb hg hb hall=>?_
  rw[loadName_read f.kind ke]
  exact(hall x _ hx0 ha).elim (λ⟨b,e1,_⟩=>V.noConfusion e1) λ⟨v,hv,hvr⟩=>Calls.loadGlobal_global (f.glob▸hg.keeps st) hv ((show v=.ref (g.ca ci) from hvr)▸hq)
theorem rN{e:Expr}{ci:Nat}(hk:m8 g.C fr e=some ci):∀x p,e≠.Starred x p:=λx p q=>by
 subst q
 exact nn hk
theorem uh(G:GF g){B:Around}{pos:Pos}(f:FR g c A fr env)(st:g.B.StaysIn s.heap){es:List Expr}:∀{cs:List Nat} {Q:List Value->Shared->Prop},nH g.C fr es=some cs->Q (cs.map λi=>.ref (g.ca i)) s->PySem.wpAny g.M B (spliced (backTo pos (starEach es env))) Q E s:=by
 induction es with
 |nil=>
  intro cs Q hk hq
  cases hk
  exact PySem.wpAny_items_nil hq
 |cons e es ih=>
  intro cs Q hk hq
  refine cW hk λci e1 hk=>cW hk λl e2 hk2=>?_
  cases hk2
  exact PySem.wpAny_items_cons (o8 G f st e1 (ih e2 hq)) (g8 (rN e1))
theorem rO{es:List Expr}:∀{cs:List Nat},nH g.C fr es=some cs->cs.length=es.length:=by
 induction es with
 |nil=>exact λh=>si h▸rfl
 |cons e es ih=>exact λh=>cW h λY Y h=>cW h λl e2 h=>si h▸congrArg (· +1) (ih e2)
def T4(g:Gb)(cs:List Nat)(v:Value)(h:Heap):Prop:=(∃i,cs=[i]/\v=.ref (g.ca i))\/∃T,v=.ref T/\h.IsTuple T (cs.map λi=>Value.ref (g.ca i)).toArray
theorem D6(G:GF g){B:Around}{e:Expr}{cs:List Nat}{Q:Value->Shared->Prop}(f:FR g c A fr env)(st:g.B.StaysIn s.heap)(hk:Bs g.C fr e=some cs)
  (hq:∀v h',(∀b o,s.heap.get? b=some o->h'.get? b=some o)->T4 g cs v h'->Q v {s with heap:=h'}):PySem.wpAny g.M B (eval e env) Q E s:=
 fK hk (λhk=>cW hk λes he hk=>dJ hk λhl hk=>by
  refine e21 (oo he) λk p he=>?_
  rw[he]
  exact PySem.wpAny_Tuple (uh G f st hk ⟨by rw[Vs,rO hk];exact dC (Va (eP hl) (Vi rfl)),hq _ _ (λb o q=>Vb _ q) (.inr ⟨_,rfl,_,Vj _ rfl,rfl,_,rfl⟩)⟩)) λhk=>cW hk λci e1 hk=>
  o8 G f st e1 (hq _ s.heap (λY Y q=>q) (.inl ⟨_,si hk,rfl⟩))
theorem Av(T:EF g){d:Nat}{cs:List Nat}{b:Bool}(h:nG g.C d cs=some b)(hne:cs≠[]):∃Lg mN mL,eQ g.B (g.ca d) Lg mN mL/\(∀i∈cs,pN g.B (g.ca i))/\(cs.any λi=>(Value.ref (g.ca d)::.ref Lg::eb).contains (.ref (g.ca i)))=b:=by
 obtain⟨Lg,fI,fd,bd,mL,dv,T⟩:=T
 have zK:∀{i:Nat} {a:Bool},Br g.C d i=some a->(∃mN,eQ g.B (g.ca d) Lg mN mL)/\pN g.B (g.ca i)/\(Value.ref (g.ca d)::.ref Lg::eb).contains (.ref (g.ca i))=a:=λ{i a} h=>
  cW h λdi h1 h=>cW h λci h2 h=>dJ h λc1 h=>dJ h λc2 h=>dJ h λc3 h=>(T.cls h1 c1 (cX c2)).elim λmN q=>⟨⟨mN,q.1⟩,T.any h2 c3,(T.sub h1 h2 c1 (cX c2) c3).trans (U7 h)⟩
 have all:∀{b:Bool},nG g.C d cs=some b->(∀i∈cs,pN g.B (g.ca i))/\(cs.any λi=>(Value.ref (g.ca d)::.ref Lg::eb).contains (.ref (g.ca i)))=b:=by
  clear h hne
  induction cs with
  |nil=>exact λh=>⟨λi q=>absurd q Vh,U7 h⟩
  |cons i cs ih=>
   exact λh=>cW h λa e1 h=>cW h λb' e2 h=>by
    refine e02 (ih e2) λi1 i2=>?_
    refine⟨λj hj=>(List.mem_cons.mp hj).elim (λe=>e▸(zK e1).2.1) (i1 j),?_⟩
    rw[Wo,(zK e1).2.2,i2]
    exact U7 h
 refine e02 (all h) λh1 h2=>?_
 cases cs with
 |nil=>exact absurd rfl hne
 |cons i r=>exact cW h λa e1 Y=>(zK e1).1.elim λmN XX=>⟨Lg,mN,mL,XX,h1,h2⟩
theorem pN.keeps{h h':Heap}{D:Addr}(x:pN h D)(k:h.StaysIn h'):pN h' D:=by
 refine e12 x λxd h1 h2=>?_;clear x
 exact⟨xd,k _ _ h1,h2⟩
theorem i4.keep{e:Addr}{m:Value}{s':Shared}(x:i4 g c e m s)(k:∀b o,s.heap.get? b=some o->s'.heap.get? b=some o):i4 g c e m s':=by
 obtain⟨oe,vs,T,ot,tvs,x1,x2,x3,x4,t1,t2,t3,t4,t5⟩:=x
 exact⟨oe,vs,T,ot,tvs,k _ _ x1,x2,x3,x4,k _ _ t1,t2,t3,t4,t5⟩
theorem Li(T:EF g){M:Model}{B:Around}{d:Nat}{cs:List Nat}{b:Bool}{x:Addr}{o:Obj}{v:Value}{Q:Bool->Shared->Prop}(st:g.B.StaysIn s.heap)(hb:nG g.C d cs=some b)(hx:s.heap.get? x=some o)(hc:o.cls=.ref (g.ca d))(hv:T4 g cs v s.heap)(hne:cs≠[])(hq:Q b s):
  PySem.wpAny M B (excMatches (.ref x) v) Q E s:=by
 refine e33 (Av T hb hne) λLg mN mL XX h1 h2=>?_
 rcases hv with⟨i,rfl,rfl⟩|⟨Tu,rfl,ht⟩
 .refine Aa (XX.keeps st) hx hc ((h1 i Vc).keeps st) ?_ hq
  simpa using h2
 .refine Ab (ds:=cs.map g.ca) (b:=b) (XX.keeps st) hx hc (by rw[WO];exact ht) (λD hD=>?_) ?_ hq
  .refine e12 (List.mem_map.mp hD) λi hi zq1=>?_
   cases zq1
   exact(h1 i hi).keeps st
  .rw[List.any_map];exact h2
theorem cV.kill{k:Nat}(I:cV g c h s)(hk:k<c.n)(hN:¬c.N k):cV g c (h.set k .dead) s:=
 {I with
  len:=I.len.trans (H.length_set ..).symm
  obj:=λi o e=>by
   rw[H.get_set] at e
   by_cases q:k=i
   .subst q;rw[if_pos rfl] at e;cases e;exact⟨hk,trivial⟩
   .rw[if_neg q] at e;exact I.obj i o e
  ns:=λi hi=>by
   refine e12 (I.ns i hi) λo h1 h2=>?_
   exact⟨o,by rw[H.get_set,if_neg (by intro q;subst q;exact hN hi)];exact h1,h2⟩}
theorem QF.kill{C':i9}{k:Nat}{K:f9->H->Bool}{fl:Flow}{s:Shared}(hk:k<c.n)(hN:¬c.N k)(x:QF {g with C:=C'} c (λf h=>K f (h.set k .dead)) fl s):QF g c K fl s:=by
 cases fl with
 |next=>
  obtain⟨c',h,e,I,q⟩:=x
  exact⟨c',_,e,I.unC.kill (Vf hk e.n) (λq=>hN (e.M k hk q)),q⟩
 |ret v=>
  obtain⟨a,c',h,e,I,hv,q⟩:=x
  exact⟨a,c',_,e,I.unC.kill (Vf hk e.n) (λq=>hN (e.M k hk q)),by rw[D2] at hv;exact hv,q⟩
 |brk=>exact x
 |cont=>exact x
theorem qC{B:Around}{x:Str}{pos:Pos}{K:H->Bool}(f:FR g c A fr env)(I:cV g c h s)(hk:xC fr (cd x) h K=true):
  PySem.wpAny g.M B (do bindName env x .none;unbindBehindTheSuite env x pos) (QU g c K) E s:=
 cP hk λk k1 hk=>cT hk λk2 hk=>cP hk λm hm hk=>cW hm λo hm e=>by
  cases D5 k2
  rw[mw e] at hm
  refine e02 (eU f k1) λhx ke=>?_
  obtain⟨hlt,mm,hns,hnr⟩:=I.obj _ _ hm
  have hp:(env.scope.kind==.class||(env.scope.kind==.module&&env.locals !=env.globals))=false:=by rw[f.kind];rfl
  refine PySem.wpAny_bind (wpAny_bindName (wpAny_storeName_local ke (f.loc▸hns) (λh1 hn1 hs1=>?_) hp))
  unfold unbindBehindTheSuite
  refine PySem.wpAny_onRaise (wpAny_unbindName_local ke hn1 (v:=.none) (if_pos rfl) hp λh2 u hn2 hs2=>⟨c,_,.refl c,?_,hk⟩)
  rw[f.loc] at hn2 hs1 hs2
  refine e32 (id hn2) λob es ep ho r=>?_
  refine I.set (s':={s with heap:=h2,toks:=s.toks+1}) (o':=.nsU) hm (λb ob hb Y e=>(hs2.2 b hb).trans ((hs1.2 b hb).trans e)) ⟨_,hn2⟩ ⟨_,ho⟩ ?_ ⟨rfl,rfl,rfl⟩ (λY Y=>rfl)
  refine e11 ((I.pres _ hlt).2) λod hod=>?_
  by_cases q:c.δ fr.ns=c.ρ fr.ns
  .exact⟨_,q▸ho⟩
  .exact⟨od,(hs2.2 _ q).trans ((hs1.2 _ q).trans hod)⟩
theorem Lj{e:ExceptHandler}{p:Expr×Option Str×List Stmt}(h:xr e=some p):∃q,e=.ExceptHandler (some p.1) p.2.1 p.2.2 q:=by
 obtain⟨ty,nm,hb,q⟩:=e
 exact cW h λt e h=>⟨q,by rw[e,<-U7 h]⟩
theorem Lk(G:GF g)(T:EF g)(S:eO g n r)(Sq:eO {g with C:=iB g.C} n q){b:List Stmt}{ty:Expr}{nm:Option Str}{hb:List Stmt}{hp p:Pos}{K:f9->H->Bool}(oa:dy g c n A)(f:FR g c A fr env)(I:cV g c h s)(hq:g.C.quiet=false)
  (hk:r.ex fr b h K (λk h=>cR (Bs g.C fr ty) λcs=>BN g.C q fr nm hb k K (λY Y=>false) cs h)=true):
  cQ g.M A (exec (.Try b [.ExceptHandler (some ty) nm hb hp] [] [] p) env) (QF g c K) (EX g c A X) s:=by
 refine D3 (cO (S.ex oa f I hk) (λfl aa x=>?_) λe aa ⟨k,ag,ae,ac,af,⟨ci,m,he⟩,hev,fl,hX⟩=>?_)
 .cases fl with
  |next=>exact eV x
  |ret v=>exact x
  |brk=>exact x
  |cont=>exact x
 .subst hev
  refine e12 (xN hX) λcs hcs hX=>?_
  have aH:=f.ext ac
  refine lF (oa.up ac) aH af he fl λL aj hL am hh=>hO (o:=none) am he hh λav az hh=>cP hX λhit0 hit hX=>cT hX λhb1 hX=>?_
  unfold xt at hit
  rw[he] at hit
  subst hb1
  have hit:nG g.C ci cs=some true:=hit
  .have hne:cs≠[]:=λq=>by subst q;cases hit
   refine Au (At (P (D6 G aH az.base hcs λv h' k' hv=>?_))) (by intro q;cases q)
   have aF:=az.keep (s':={av with heap:=h'}) k' ⟨rfl,rfl,rfl⟩
   obtain⟨_,ox,vs,mm,o1,o2,_⟩:=aF.obj _ _ he
   refine P (Li T (s:={av with heap:=h'}) aF.base hit o1 o2 hv hne ?_)
   simp only[if_true]
   have aY:=hh.keep (s':={av with heap:=h'}) k'
   refine wz (hO (o:=none) aF he aY λaR aO Y=>?_)
   have oaq:dy {g with C:=iB g.C} ag n (A.mark (some (.ref (ag.ρ k)))):=by
    have:=oa.up ac
    exact⟨λq=>(by cases q),this.dep',this.un',this.lid,let⟨l,h1,h2⟩:=this.fr;⟨l,h1,FL.imp (g:=g) (g':={g with C:=iB g.C}) (c:=ag) (c':=ag) (λY q=>q) h2⟩⟩
   have fq:FR {g with C:=iB g.C} ag (A.mark (some (.ref (ag.ρ k)))) fr env:=⟨aH.kind,aH.names,aH.ins,aH.loc,aH.cells,aH.glob,aH.bi,aH.cls,aH.inter,aH.dbg,aH.cdict,aH.lk,aH.lam⟩
   have hlt:=(af.obj _ _ he).1
   have hNk:¬ag.N k:=λq=>by
    refine e12 (af.ns k q) λo q1 q2=>?_
    rw[he] at q1;cases q1;cases q2
   cases nm with
   |none=>
    refine cO (Sq.ex oaq fq aO.reC hX) (λfl aX x=>?_) λe aX x=>?_
    .exact QF.mono ac (QF.kill hlt hNk x)
    .obtain⟨_,_,_,_,_,_,_,_,q⟩:=x
     cases q
   |some x=>
    have hX:vg q fr (cd x) hb k (λf h=>K f (h.set k .dead)) (λY Y=>false) ae=true:=hX
    unfold vg at hX
    have hve:VR {g with C:=iB g.C} ag (.ref k) (.ref (ag.ρ k)):=by unfold VR;exact⟨hlt,rfl⟩
    refine PySem.wpAny_mono (lL (g:={g with C:=iB g.C}) fq aO.reC hve hX) (λY aX qq=>qq.elim λao aq ak a9 hK=>?_) λY Y x=>x
    refine cO (Sq.ex (oaq.ext aO.reC ak) (fq.ext ak) a9 hK) (λfl cM x=>?_) λe aX x=>?_
    .have aL:FR g ao A fr env:=aH.ext ak
     cases fl with
     |next=>
      obtain⟨aA,aw,au,bc,hK⟩:=x
      refine PySem.wpAny_mono (qC (aL.ext au) bc.unC hK) (λY bx qq=>qq.elim λaC ax aD bQ hK=>?_) λY Y x=>x
      have e14:=(ak.trans au).trans aD
      exact⟨aC,_,ac.trans e14,bQ.kill (Vf hlt e14.n) (λq=>hNk (e14.M k hlt q)),hK⟩
     |ret v=>
      obtain⟨a,aA,aw,au,bc,hv,hK⟩:=x
      rw[D2] at hv
      refine PySem.wpAny_mono (qC (aL.ext au) bc.unC hK) (λY bx qq=>qq.elim λaC ax aD bQ hK=>?_) λY Y x=>x
      have e14:=(ak.trans au).trans aD
      exact⟨a,aC,_,ac.trans e14,bQ.kill (Vf hlt e14.n) (λq=>hNk (e14.M k hlt q)),hv.ext aD,hK⟩
     |brk=>exact x.elim
     |cont=>exact x.elim
    .obtain⟨_,_,_,_,_,_,_,_,q⟩:=x
     cases q
theorem Ll(G:GF g)(T:EF g)(S:eO g n r)(Sq:eO {g with C:=iB g.C} n q){b o fi:List Stmt}{hs:List ExceptHandler}{p:Pos}{K:f9->H->Bool}(oa:dy g c n A)(f:FR g c A fr env)(I:cV g c h s)(hk:vh g.C r q fr b hs o fi h K X=true):
  cQ g.M A (exec (.Try b hs o fi p) env) (QF g c K) (EX g c A X) s:=
 iV hk λho hf hk=>cP hk λe he hk=>cP hk λp0 hp hk=>eT hk λhq hk=>(Lj hp).elim λq0 hq0=>by
  rw[fN ho,fN hf,jA he,hq0]
  exact Lk G T S Sq oa f I hq hk
end
end
section
open PySem.SeqAt
variable{g:Gb}{c c':Cf}
section
variable{prog:Program}{w:World}{A:Around}{E:Value->Shared->Prop}{s:Shared}{R:Result->Shared->Prop}
theorem rP{e:Expr}{env:Env}
  (h:cQ (model prog w) (A.deeper env) (eval e env) (λv s'=>R (.ok (.ret v)) s') (λe' s'=>PySem.wpAny (model prog w) (A.deeper env) (leaving env e') (λY s''=>R (.error e') s'') (λe'' s''=>R (.error e'') s'') s') s):
  c6 (model prog w) A (.expr e env) R s:=by
 refine c8 (λY Y=>rfl) ?_
 show cQ _ (A.deeper env) (do point;ret (<-(eval e env).onRaise (leaving env))) _ _ s
 exact wpAny_bind (jo (wpAny_bind (dU (cO h (λv s' h'=>wpAny_pure h') λY Y h'=>P h'))))
theorem jJ{a:Addr}{args:Args}{o:Obj}{fd:FuncData}{body:Expr}(hroom:A.depth<recursionLimit)(ho:s.heap.get? a=some o)(hd':o.data=.func fd)(hco:fd.scope.isCoroutine=false)(hgen:fd.scope.isGenerator=false)
  (hbody:fd.body=.expr body) (hcd:s.heap.CodeRec fd.code fd.qualname)
  (h:PySem.wpAny (model prog w) A.in1 (bindArgs fd args) (λbinds aa=>PySem.wpAny (model prog w) A.in1 (newFunctionEnv fd.scope fd.globals fd.closure binds (fd.qualname++".<locals>.") (some a) fd.code none fd.builtins)
    (λenv aj=>aj.heap.NoLimit/\c6 (model prog w) A (.expr body env) R aj) (λe s'=>R (.error e) s') aa) (λe s'=>R (.error e) s') s):
  c6 (model prog w) A (.call (.ref a) args) R s:=
 yw (cd:=λenv=>.expr body env) hroom ho hd' hco hgen (λenv=>⟨by rw[hbody],rfl⟩) hcd h
theorem D7{fd:FuncData}{n:Str}{an:Option Expr}{p:Pos}{v:Value}{Q:List (Str×Value)->Shared->Prop}(hp:fd.params=⟨[],[⟨n,an,p⟩],none,[],[],none,[]⟩)(hd:fd.defaults=.none)(h:Q [(n,v)] s):PySem.wpAny (model prog w) A (bindArgs fd ⟨[v],[]⟩) Q E s:=
 iP (vs:=[v]) (dl:=[]) hp (.inl ⟨hd,rfl⟩) (List.nodup_cons.mpr ⟨Vh,WV⟩) (Vm 1) (Vm 1) (VQ 1) _ A E Q h
end
section
variable{n:Nat}{r:Ev}{A:Around}{X:Nat->H->Bool}{h:H}{s:Shared}
theorem D8(F:FF g)(S:eO g n r){k:Nat}{args:List V}{vs:List Value}{K:V->H->Bool}(oa:dy g c (n+1) A)(I:cV g c h s)(hv:da g c args vs)(hk:vd r k args h K X=true):
  cQ g.M A (call (.ref (c.ρ k)) vs) (QV g c K) (EX g c A X) s:=
 MH I hk λo l e e1 ho hk=>a1 hk hv λv w hv0 hk=>by
  cases IN e1
  refine e26 ho λo fd ho hcl hfd L hclo hcode=>?_
  refine e32 L.par λm an p hpar hx=>?_
  refine e44 hcode λc' oc fs t q1 q2 q3 q4=>?_;clear hcode
  refine fO (jJ oa.deep ho hfd L.co L.gen L.body ⟨c',oc,fs,t,q1,I.dat _ _ q2,q3,q4⟩ (D7 hpar L.dfl ?_))
  rw[L.glob,L.bi]
  have hk:Prod.rec (motive:=λY=>Bool) (λfr h=>d7 fr h (λh=>r.ev fr l.body h K X) [l.x] [v]) (ez false l.sc l.cells h)=true:=hk
  rw[<-L.names,<-hx] at hk
  refine frame_ok (K:=λfr h=>r.ev fr l.body h K X) (lm:=false) (vs:=[v]) (binds:=[(m,w)]) L.kind L.nocls L.nodbg L.nocd (λY q=>nn q) (λq Y Y=>ft q) hclo I (da.cons hv0 da.nil) hk λfr env ag ae aa Z hK=>⟨F.lim.keeps Z.i.base,rP ?_⟩
  refine e03 (Z.within oa) λf hN hoa=>?_
  have bp:=hoa ag Z.e f.ins hN f.loc
  exact cO (S.ev bp f Z.i hK) (λw aj q=>q.mono Z.e) λe aj q=>PySem.wpAny_mono (sS bp f q) (λY Y y=>EX.mono Z.e y) λY Y y=>y
theorem wA{k:Nat}{x:Nat}{b:Expr}{sc:List (Nat×NameKind)}{cs:List (Nat×Nat)}(I:cV g c h s)(e:h.get k=some (.lam x b sc cs)):fx g (.ref (c.ρ k)) s:=by
 obtain⟨_,o,fd,ho,hcl,hfd,L⟩:=I.obj k _ e
 exact lM ho hfd
end
end
section
open PySem.SeqAt
variable{g:Gb}{c c':Cf}
section
variable{n:Nat}{r:Ev}{A:Around}{fr:Fr}{env:Env}{X:Nat->H->Bool}{h:H}{s:Shared}
theorem N2(S:eO g n r){t:Expr}{b:List Stmt}{K:f9->H->Bool}(oa:dy g c n A)(f:FR g c A fr env)(I:cV g c h s)(hk:BM g.C r fr t b h K X=true):
  c6 g.M A (.whileLoop t b [] env) (λq s'=>match q with|.ok f=>QF g c K f s'|.error e=>dS g c A env X e s') s:=by
 refine e02 (kJ hk) λY hk=>?_
 have nt:∀(ag:Cf) ae aa,dz c ag->cV g ag ae aa->∀e s',EX g ag A X e s'->notedBy g.M A env (λe s'=>dS g c A env X e s') e s':=λag ae aa ac af e s' x=>
  PySem.wpAny_mono (xR (oa.ext I ac) (f.ext ac) x) (λY Y y=>dS.mono ac y) λY Y y=>dS.mono ac y
 refine c8 (λY Y=>rfl) ?_
 show cQ g.M A ((whileTurn t b [] env).onRaise (λx=>do noteFrame x env;theTreesLotGoes x)) _ _ s
 refine gS ?_
 simp only[whileTurn]
 refine wpAny_bind (cO (S.tr oa f I hk) (λbl aa qq=>qq.elim λag ae ac af hK=>?_) λe s' x=>nt c h s (.refl c) I e s' x)
 cases bl with
 |false=>
  refine fE Ve ?_
  exact wpAny_bind (eV (wpAny_pure ⟨ag,ae,ac,af,hK⟩))
 |true=>
  refine kQ rfl ?_
  refine wpAny_bind (cO (S.ex (oa.ext I ac) (f.ext ac) af hK) (λfl aj x=>?_) λe s' x=>nt ag ae aa ac af e s' x)
  cases fl with
  |next=>
   obtain⟨ao,aq,ak,am,hK⟩:=x
   refine wpAny_pure ⟨rfl,dB (S.wh ((oa.ext I ac).ext af ak) ((f.ext ac).ext ak) am hK) λq s' y=>?_⟩
   cases q with
   |ok f=>exact QF.mono (ac.trans ak) y
   |error e=>exact dS.mono (ac.trans ak) y
  |ret v=>
   obtain⟨a,ao,aq,ak,am,hv,hK⟩:=x
   exact wpAny_pure ⟨a,ao,aq,ac.trans ak,am,hv,hK⟩
  |brk=>exact x.elim
  |cont=>exact x.elim
end
def qb(g:Gb):Prop:=∀{n:Nat} {A:Around} {i:Nat} {args:List V} {vs:List Value} {c:Cf} {h:H} {s:Shared} {outs:List dV} {K:V->H->Bool} {X:Nat->H->Bool},dy g c (n+1) A->cV g c h s->da g c args vs->g.C.quiet=false->g.C.P i args h=some outs->JK outs h K X=true->
  cQ g.M A (call (.ref (g.fa i)) vs) (QV g c K) (EX g c A X) s
structure Fk(g:Gb):Prop where
 G:GF g
 W:SW g
 CL:CF g
 F:FF g
 E:EF g
 D:WD g
 L:LF g
 tok:∀{c:Cf} {k:Nat} {v:Value},g.TK k c v->∃a,a∈g.C.toks k/\VR g c a v
 prim:qb g
theorem Aw{F:V->Option (List V)}{l:List V}:∀{vs:List V} {a:V},Be F l=some vs->a∈l->∃ws,F a=some ws/\∀w∈ws,w∈vs:=by
 induction l with
 |nil=>exact λY h=>absurd h Vh
 |cons x l ih=>
  exact λe h=>cW e λy h1 e=>cW e λz h2 e=>by
   cases e
   cases h with
   |head=>exact⟨y,h1,λw hw=>List.mem_append_left _ hw⟩
   |tail _ h=>exact(ih h2 h).elim λws q=>⟨ws,q.1,λw hw=>Wl _ (q.2 w hw)⟩
abbrev D9(g:Gb):Prop:=∀{c:Cf} {k:Nat} {v:Value},g.TK k c v->∃a,a∈g.C.toks k/\VR g c a v
theorem wB(tok:D9 g){n f:Nat}:∀{a:V} {vs:List V} {v:Value},xm g.C.toks n f a=some vs->VR g c a v->∃xs x,VR g c (.tup xs) v/\xs.length≤10000/\fC xs n=some x/\x∈vs:=by
 induction f with
 |zero=>exact λe Y=>nn e
 |succ f ih=>
  exact λe hv=>fK e (λe=>cW e λxs e1 e=>dJ e λh1 e=>cW e λx h2 e=>by
   cases e;cases eB e1
   exact⟨_,x,hv,eP h1,h2,Vc⟩) λe=>cW e λk e1 e=>by
   cases hU e1
   refine e12 (tok hv) λb b1 b2=>?_
   refine e12 (Aw e b1) λws w1 w2=>?_
   refine e24 (ih w1 b2) λxs x q1 q2 q3 q4=>?_
   exact⟨xs,x,q1,q2,q3,w2 x q4⟩
theorem wC{α:Type}:∀{l:List α} {i:Nat} {x:α},fC l i=some x->i<l.length
 |[],_,_,e=>nn e
 |_::l,0,_,_=>Vx _
 |_::l,i+1,_,e=>Nat.succ_lt_succ (wC (l:=l) e)
theorem Lm(tok:D9 g){K:V->Bool}{f:Nat}:∀{a:V} {v:Value},MA g.C K f a=true->VR g c a v->∃b,VR g c b v/\K b=true:=by
 induction f with
 |zero=>exact λhk hv=>⟨_,hv,hk⟩
 |succ f ih=>
  exact λhk hv=>fJ hk (λk e hk2=>cW e λk' e1 e=>dJ e λY e=>by
   cases si e;cases hU e1
   exact(tok hv).elim λb q=>ih (c9 hk2 q.1) q.2) λY hk=>⟨_,hv,hk⟩
theorem IW{a b:Bool}(h:a=true):dj a b=true:=by cases h;rfl
theorem Hh(W:SW g)(tok:D9 g){A:Around}{E:Value->Shared->Prop}{h:H}{s:Shared}{e i:Expr}{p:Pos}{a b:V}{v w:Value}{K:V->H->Bool}(I:cV g c h s)(hv:VR g c a v)(hw:VR g c b w)(hk:(JC g.C a b h λv=>K v h)=true)(hs:∀lo hi st p,i≠.Slice lo hi st p):
  PySem.wpAny g.M A (pK e i p v w) (QV g c K) E s:=by
 refine PySem.wpAny_mono (Q:=QV g c λv h=>MA g.C (λv=>K v h) 3 v) ?_ (λv s' qq=>qq.elim λa c' h' e' I' va hK=>(Lm tok hK va).elim λb q=>⟨b,c',h',e',I',q.1,q.2⟩) λY Y q=>q
 exact eK hk (λhk=>cP hk λk e1 hk=>kI (P:=λw=>PySem.wpAny g.M A (pK e i p v w) _ E s) hk hw λai m u hm hk=>cP hk λn e2 hk=>cT hk λhn hk=>cP hk λvs e3 hk3=>by
  refine e24 (wB tok e3 hv) λxs x m2 q2 q3 q4=>?_
  have hj:=Cm (wC q3)
  rw[Wg (of_decide_eq_true hn)] at hj
  cases hm.cst e2
  refine Dd W I m2 (eD (a:=.c m) rfl) ?_ hs
  refine IW (IW ?_)
  refine(?_:gd (Vk xs.length 10000) (cR (dp (JA xs.length m) λj=>dp (fC xs j) λv=>some [v]) λvs=>dF (nE vs) (MA g.C (λv=>K v h) 3))=true)
  rw[show JA xs.length m=some m.toNat from hj,Nat.ble_eq_true_of_le q2]
  refine(?_:cR (dp (fC xs m.toNat) λv=>some [v]) (λvs=>dF (nE vs) (MA g.C (λv=>K v h) 3))=true)
  rw[q3]
  exact(congrArg (gd · true) (c9 hk3 (qt q4))).trans rfl) λhk=>Dd W I hv hw hk hs
theorem Fk.tc(T:Fk g):mG g:=⟨λoa I hv hk=>wy T.W oa I hv hk,λS oa fe I hv hs hl hr hline hk=>Hf T.W T.D S oa fe I hv hs hl hr hline hk,T.tok,λoa I hv hq hp hk=>T.prim oa I hv hq hp hk,
 λoa I hv hi hx h0 hk=>P (v4 T.E oa I hk hv hi hx h0),λS oa I hv Y hk=>D8 T.F S oa I hv hk,λI hi=>v5 T.E T.CL I hi,λI e=>wA I e⟩
theorem Fk.tx(T:Fk g):tZ g:=⟨λS oa f I hk=>K7 S oa f I hk,λI ho ha hk=>P (zZ T.E I ho ha hk),λY I hv hw hk hs=>P (Hh T.W T.tok I hv hw hk hs),λS oa f I hk=>La T.W S oa f I hk,λS oa f I hk=>G8 T.G T.W S oa f I hk,λf I hk=>P (KE T.L f I hk)⟩
theorem Fk.ts(T:Fk g):yx g:=⟨λS oa f I hv hk=>Hb T.W S oa f I hv hk,λS oa f I hk=>K3 T.G T.W S oa f I hk,λS oa f I hk=>D1 T.E S oa f I hk,λS Sq oa f I hk=>Ll T.G T.E S Sq oa f I hk⟩
noncomputable def Gb.hush(g:Gb):Gb:={g with C:=Mine.Tactic.iB g.C}
def ij(g:Gb):Prop:=∀R,(∀a o,g.R a o->R a o)->Fk (g.wR R)
theorem rQ:eO g n FE where
 ev _ _ _ h:=by cases h
 tr _ _ _ h:=by cases h
 cl _ _ _ _ h:=by cases h
 asg _ _ _ _ h:=by cases h
 ex _ _ _ h:=by cases h
 wh _ _ _ h:=by cases h
 fo _ _ _ _ h:=by cases h
 co _ _ _ _ _ h:=by cases h
 cu _ _ _ _ h:=by cases h
 nm h:=by cases h
 tp _ h:=by cases h
 set:=rfl
 star:=rfl
theorem jF{α:Type}{o:Option α}{K K':α->Bool}(hk:∀a,K a=true->K' a=true)(h:cR o K=true):cR o K'=true:=by
 cases o with
 |none=>exact ft h
 |some a=>exact hk a h
theorem ui{fr:Fr}{x:Nat}{v:V}{h:H}{K K':H->Bool}(hk:∀h',K h'=true->K' h'=true)(e:gu fr x v h K=true):gu fr x v h K'=true:=
 jF (λk e=>by
  cases k with
  |«local»=>exact jF (λY=>hk _) e
  |cell=>exact jF (λY=>jF λY=>hk _) e
  |_=>exact ft e) e
theorem wD{n:Nat}{r:Ev}(S:eO g n r){fr:Fr}{X:Nat->H->Bool}{es:List Expr}:∀{xs:List Str} {vs:List V} {h:H} {K:H->Bool},nR es xs->JT r fr es vs h K X=true->d7 fr h K (xs.map cd) vs=true:=by
 induction es with
 |nil=>
  intro xs vs h K hn hk
  cases xs with
  |cons=>exact absurd hn.symm (VT _ _)
  |nil=>exact hk
 |cons e es ih=>
  intro xs vs h K hn hk
  cases xs with
  |nil=>exact absurd hn (VT _ _)
  |cons x xs=>
   refine e11 (jD (VY hn).1) λp zq2=>?_
   cases zq2
   cases vs with
   |nil=>exact ft hk
   |cons v vs=>exact ui (λh' q=>ih (VY hn).2 q) (S.nm hk)
theorem yz{n:Nat}{r q:Ev}(T:Fk g)(SP:ic g n r)(Sq:eO g.hush n q):eO g (n+1) (MC g.C r q) where
 ev oa f I hk:=NW T.G T.W T.CL T.F T.tc T.tx SP SP.self (oa.less (VA n)) f I hk
 tr oa f I hk:=NX T.W SP.self (oa.less (VA n)) f I hk
 cl oa I hf hv hk:=NV T.CL T.F T.tc SP.self oa I hf hv hk
 asg oa f I hv hk:=KW T.CL T.ts SP.self (oa.less (VA n)) f I hv hk
 ex oa f I hk:=NU T.ts SP SP.self Sq (oa.less (VA n)) f I hk
 wh oa f I hk:=N2 SP.self (oa.less (VA n)) f I hk
 fo oa f I hi hk:=by
  refine e02 (kJ hk) λhq hk=>?_
  exact N0 T.W SP (oa.hh hq) (oa.less (VA n)) f I hi hk
 co oa f I hi ha hk:=by
  refine e02 (kJ hk) λhq hk=>?_
  exact N1 T.W SP (oa.hh hq) (oa.less (VA n)) f I hi ha hk
 cu oa f I hx hk hK:=ww T.G T.W SP (oa.less (VA n)) f I hx hk hK
 nm h:=h
 tp hn h:=by
  refine e02 (kJ h) λhq hk=>?_
  exact cP hk λvs e hk=>iV hk λY Y hk=>⟨hq,vs,eB e,wD SP.self hn hk⟩
 set:=rfl
 star:=rfl
theorem yA(T:ij g.hush):∀n,ic g.hush n (TP g.C n)
 |0=>λY Y=>rQ
 |n+1=>λR hR=>yz (g:=g.hush.wR R) (T R hR) (λR' h'=>yA T n R' λa o q=>h' a o (hR a o q)) rQ
theorem jt(T:ij g)(Tq:ij g.hush):∀n,ic g n (mO g.C n)
 |0=>λY Y=>rQ
 |n+1=>λR hR=>yz (g:=g.wR R) (T R hR) (λR' h'=>jt T Tq n R' λa o q=>h' a o (hR a o q)) (yA Tq n R hR)
end
noncomputable def N3(a b:Option Int):Bool:=dq b true λy=>cR a λx=>decide (y≤x)
noncomputable def N4(a b:Option Int):Bool:=dq b true λy=>cR a λx=>decide (x≤y)
noncomputable def Ea(T:Nat->List V)(k:Nat)(n:Int):Bool:=cR (dp (gq (T (k+1000000))) λv=>dp (dE v) fp) λm=>decide (m=n)
noncomputable def Ln(T:Nat->List V)(x y:AI):Bool:=
 dj (cR (Rz y) λp=>gd (N3 x.lo p.1) (N4 x.hi p.2))
 (dj (cR (qf y) λl=>dj (cR (fp x) λn=>uR n l) (cR (qf x) λl'=>dF l' λn=>uR n l))
 (dj (nD x y)
 (dj (cR (A9 y) λd=>cR (A9 x) λd'=>Vk d' d)
 (dj (cR (fp y) λn=>cR (nC x) λq=>Ea T q.1 n)
 (cR (nC y) λq=>cR (fp x) λn=>gd (Ea T q.1 n) (gd (decide (q.2.1≤n)) (decide (n≤q.2.2))))))))
noncomputable def yB(T:Nat->List V):List AI->List AI->Bool:=fm (Ln T)
noncomputable def IX(T:Nat->List V)(k j:Nat):Bool:=dj (U9 j k) (cR (dp (nv (T k)) λp=>iU p.1) λY=>lA (λa=>cR (iU a) λi=>U9 i j) (T k))
noncomputable def RP(T:Nat->List V)(L:V->V->Bool)(x y:V):Bool:=
 dq (iU y) (L x y) λk=>dq (iU x) (lA (L x) (T k)) λj=>dj (IX T k j) (gd (Vk 300 k) (dF (T j) λa=>lA (L a) (T k)))
noncomputable def uj:V->Option (Nat×Nat)
 |.none=>some (0,0)
 |.bool b=>some (1,db b 1 0)
 |.str x=>some (2,x)
 |.wr x=>some (3,x)
 |.fn x=>some (4,x)
 |.cls x=>some (5,x)
 |.bi x=>some (6,x)
 |_=>none
noncomputable def IY(p:Nat×Nat):V:=db (U9 p.1 0) .none (db (U9 p.1 1) (.bool (U9 p.2 1)) (db (U9 p.1 2) (.str p.2) (db (U9 p.1 3) (.wr p.2) (db (U9 p.1 4) (.fn p.2) (db (U9 p.1 5) (.cls p.2) (.bi p.2))))))
section
variable(T:Nat->List V)(f:Nat->Nat)
noncomputable def SL(n:Nat):V->V->Bool:=Nat.rec (λY Y=>false) (λY ih a b=>
 dj (fG uj a b)
 (dj (cR (dE a) λx=>cR (dE b) λy=>Ln T x y)
 (dj (cR (qO b) λn=>gd (Vk n 100000) (dj (cR (fj a) λx=>gd (!(U9 x iv)) (Vk 1000 n)) (cR (qO a) λm=>Vk m n)))
 (dj (cR (dk a) λx=>cR (dk b) λy=>yB T x y)
 (dj (cR (fk a) λk=>cR (fk b) λk'=>U9 k (f k'))
 (cR (eg a) λl=>cR (eg b) λl'=>fm (RP T ih) l l')))))) n
noncomputable def IZ:V->V->Bool:=RP T (SL T f 12)
noncomputable def qc:List V->List V->Bool:=fm (IZ T f)
noncomputable def MK:List (Nat×V)->List (Nat×V)->Bool:=fm λp q=>gd (U9 p.1 q.1) (IZ T f p.2 q.2)
noncomputable def AU(o o':O):Bool:=
 dj (cR (oL o) λl=>cR (oL o') λl'=>qc T f l l')
 (dj (cR (oI o) λp=>cR (oI o') λq=>gd (U9 p.1 q.1) (MK T f p.2 q.2))
 (dj (cR (oU o') λq=>cR (oS o) λp=>gd (Vk q.1 p.1) (gd (Vk p.2 q.2) (Vk q.2 10000)))
 (dj (cR (oB o) λl=>cR (oB o') λl'=>yB T l l')
 (cR (oE o) λp=>cR (oE o') λq=>gd (U9 p.1 q.1) (gd (p.2.2==q.2.2) (MK T f p.2.1 q.2.1))))))
end
noncomputable def kh(f:Nat->Nat)(n:Nat):V->V:=Nat.rec (λa=>a) (λY ih a=>dq (fk a) (dq (eg a) a λl=>.tup (l.map ih)) λk=>.ref (f k)) n
noncomputable def wE(f:Nat->Nat):V->V:=kh f 12
noncomputable def ju(f:Nat->Nat)(l:List V):List V:=l.map (wE f)
noncomputable def Ax(f:Nat->Nat)(l:List (Nat×V)):List (Nat×V):=l.map λp=>(p.1,wE f p.2)
noncomputable def sw(f:Nat->Nat)(o:O):O:=dq (oL o) (dq (oI o) (dq (oE o) o λp=>.exc p.1 (Ax f p.2.1) p.2.2) λp=>.inst p.1 (Ax f p.2)) λl=>.list (ju f l)
section
variable{g:Gb}{c c':Cf}{σ:Nat->Int}
theorem uk{l:List Int}{n:Int}(h:uR n l=true):n∈l:=iG h λx hx e=>of_decide_eq_true e▸hx
theorem Lo{s:Str}(h:s.length=0):cd s=iv:=by
 have:s.cps.toList=[]:=List.length_eq_zero_iff.mp (by rw[VJ];exact h)
 unfold cd
 rw[this]
 rfl
def Kn(T:Nat->List V)(σ:Nat->Int):Prop:=∀k n,Ea T k n=true->σ k=n
theorem Hi{a b:Option Int}{n:Int}(h:N3 a b=true)(hx:Lb a n):Lb b n:=fJ h (λy e h=>cP h λx e1 h=>λl e'=>by cases e.symm.trans e';exact Vl (of_decide_eq_true h) (hx x e1)) λe Y l e'=>nn (e.symm.trans e')
theorem Hj{a b:Option Int}{n:Int}(h:N4 a b=true)(hx:Ub a n):Ub b n:=fJ h (λy e h=>cP h λx e1 h=>λl e'=>by cases e.symm.trans e';exact Vl (hx x e1) (of_decide_eq_true h)) λe Y l e'=>nn (e.symm.trans e')
theorem yC{T:Nat->List V}(kn:Kn T σ){x y:AI}{n:Int}(h:Ln T x y=true)(hx:dN σ x n):dN σ y n:=
 Sv h (λh=>cP h λp e h=>cT h λh1 h2=>by
  cases vV _ _ e
  exact⟨Hi h1 hx.lb,Hj h2 hx.ub⟩) (λh=>cP h λl e h=>by
  cases jm e
  exact eK h (λh=>cP h λm e h=>by
   cases d9 _ _ e;cases (show n=m from hx)
   exact uk h) λh=>cP h λl' e h9=>by
   cases jm e
   have h8:=c9 h9 hx
   exact uk h8) (λh=>lR h▸hx) (λh=>cP h λd e h=>cP h λd' e' h=>by
  cases rr _ _ e;cases rr _ _ e'
  exact⟨hx.1,Vl hx.2.1 (W1 (Int.ofNat_le.mpr (eP h)) _),hx.2.2⟩) (λh=>cP h λm e h=>cP h λq e' h=>by
  cases d9 _ _ e;cases oK _ _ e'
  exact hx.1.trans (kn _ _ h)) (λh=>cP h λq e h=>cP h λm e' h=>iV h λh1 h2 h3=>by
  cases oK _ _ e;cases d9 _ _ e';cases (show n=m from hx)
  exact⟨(kn _ _ h1).symm,of_decide_eq_true h2,of_decide_eq_true h3⟩)
theorem pc{T:Nat->List V}(kn:Kn T σ){x y:List AI}{bs:List UInt8}(h:yB T x y=true):BR σ x bs->BR σ y bs:=
 dH (P:=λx y=>∀bs,BR σ x bs->BR σ y bs) h (λY h=>h) (λx r y r' h ih bs hx=>by
  refine e23 hx λb t zq3 h1 h2=>?_;clear hx
  cases zq3
  exact⟨b,t,rfl,yC kn h h1,ih _ h2⟩) bs
structure uO(g:Gb)(c c':Cf)(T:Nat->List V)(f f':Nat->Nat):Prop where
 kn:Kn T g.σ
 tt:∀a vs,c.T a vs->c'.T a vs
 ρ:∀k,f k<c.n->f' k<c'.n/\c'.ρ (f' k)=c.ρ (f k)
 tk:∀{k a v},a∈T k->VR g c' a v->g.TK k c' v
 te:∀{k v},g.TK k c v->∃a,a∈T k/\VR g c a v
 sh:∀{n k a},a∈T k->kh f' n a=a
variable{T:Nat->List V}{f f':Nat->Nat}
theorem Lp{n k:Nat}:kh f n (.tok k)=.tok k:=by
 cases n with
 |zero=>rfl
 |succ n=>rfl
theorem Eb(R:uO g c c' T f f'){k j:Nat}{v:Value}(h:IX T k j=true)(hv:g.TK j c' v):g.TK k c' v:=
 eK h (λh=>cX h▸hv) λh=>cP h λY Y h=>iG h λz z1 z2=>cP z2 λi e z2=>by
  cases hU e;cases cX z2
  exact R.tk z1 hv
theorem Ec(R:uO g c c' T f f'){L:V->V->Bool}{n:Nat}(hL:∀{a b:V} {v:Value},L a b=true->VR g c a v->VR g c' (kh f' n b) v){x y:V}{v:Value}(h:RP T L x y=true)(hv:VR g c x v):VR g c' (kh f' n y) v:=
 fJ h (λk e h=>by
  cases hU e
  have go:∀{a:V},VR g c a v->lA (L a) (T k)=true->g.TK k c' v:=λha h=>iG h λz z1 z2=>R.tk z1 (R.sh (n:=n) z1▸hL z2 ha)
  rw[Lp]
  exact fJ h (λj e h9=>by
   cases hU e
   exact eK h9 (λh=>Eb R h (g.tkx R.tt hv)) λh=>cT h λY h8=>(R.te hv).elim λb q=>by
    have h7:=c9 h8 q.1
    exact go q.2 h7) λY h=>go hv h) λY h=>hL h hv
theorem Hk{n:Nat}{a:V}{v:Value}{p:Nat×Nat}(e:uj a=some p)(h:VR g c a v):VR g c' (kh f (n+1) a) v:=by
 cases a with
 |none=>exact h
 |bool=>exact h
 |str=>exact h
 |wr=>exact h
 |fn=>exact h
 |cls=>exact h
 |bi=>exact h
 |_=>exact nn e
theorem pe(a:V)(p:Nat×Nat)(e:uj a=some p):a=IY p:=by
 cases a with
 |none=>cases e;rfl
 |bool b=>cases e;cases b<;>rfl
 |str=>cases e;rfl
 |wr=>cases e;rfl
 |fn=>cases e;rfl
 |cls=>cases e;rfl
 |bi=>cases e;rfl
 |_=>exact nn e
theorem um{L:V->V->Bool}{F:V->V}(hL:∀(a b:V) (v:Value),L a b=true->VR g c a v->VR g c' (F b) v){l l':List V}{vs:List Value}(h:fm L l l'=true):da g c l vs->da g c' (l'.map F) vs:=
 dH (P:=λl l'=>∀vs,da g c l vs->da g c' (l'.map F) vs) h (λY h=>h) (λx r y r' h ih vs hv=>by
  refine e23 hv λv vs zq4 h1 h2=>?_;clear hv
  cases zq4
  exact .cons (hL _ _ _ h h1) (ih _ h2)) vs
theorem Lq(R:uO g c c' T f f'){n:Nat}:∀{a b:V} {v:Value},SL T f n a b=true->VR g c a v->VR g c' (kh f' n b) v:=by
 induction n with
 |zero=>exact λh=>ft h
 |succ n ih=>
  exact λ{a b v} h hv=>Sv h (λh=>by
   cases eZ IY pe h
   exact cP h λp e Y=>Hk e hv) (λh=>kI (P:=λv=>VR g c' (kh f' (n+1) b) v) h hv λx m t hx h=>cP h λy e h=>by
   cases eA e
   exact⟨m,t,rfl,yC R.kn h hx⟩) (λh=>cP h λm e h=>cT h λhm h9=>by
   cases lK e
   exact eK h9 (λh=>kS (P:=λv=>VR g c' (.strU m) v) h hv λx t h0 hl h=>cT h λh1 h2=>⟨x,t,rfl,λe=>ej (dO h1) (Lo e),Va hl (eP h2),eP hm⟩) λh=>cP h λk e h9=>by
    cases lK e
    refine e24 hv λs t h1 h2 h3 h4=>?_;clear hv
    exact⟨s,t,h1,h2,Va h3 (eP h9),eP hm⟩) (λh=>kB (P:=λv=>VR g c' (kh f' (n+1) b) v) h hv λl bs t hx h=>cP h λy e h=>by
   cases d6 e
   exact⟨bs,t,rfl,pc R.kn h hx⟩) (λh=>kR (P:=λv=>VR g c' (kh f' (n+1) b) v) h hv λk hk h=>cP h λk' e h=>by
   cases gx e;cases cX h
   exact⟨(R.ρ k' hk).1,congrArg Value.ref (R.ρ k' hk).2.symm⟩) (λh=>kT (P:=λv=>VR g c' (kh f' (n+1) b) v) h hv λl x vs hT hr h=>cP h λl' e h9=>by
   cases eB e
   exact⟨x,vs,rfl,R.tt _ _ hT,um (L:=RP T (SL T f n)) (F:=kh f' n) (λY Y Y=>Ec R ih) h9 hr⟩)
theorem pf(R:uO g c c' T f f'){a b:V}{v:Value}(h:IZ T f a b=true)(hv:VR g c a v):VR g c' (wE f' b) v:=Ec R (Lq R) h hv
theorem rR(R:uO g c c' T f f'){a b:List V}{vs:List Value}(h:qc T f a b=true)(hv:da g c a vs):da g c' (ju f' b) vs:=um (L:=IZ T f) (F:=wE f') (λY Y Y=>pf R) h hv
theorem Hl{k:Nat}{x:List (Nat×V)}:eJ (Ax f x) k=(eJ x k).map (wE f):=by
 induction x with
 |nil=>rfl
 |cons p x ih=>
  refine(?_:Bool.rec (eJ (Ax f x) k) (some (wE f p.2)) (U9 p.1 k)=Option.map (wE f) (Bool.rec (eJ x k) (some p.2) (U9 p.1 k)))
  cases U9 p.1 k with
  |true=>rfl
  |false=>exact ih
theorem uo{L:V->V->Bool}{x y:List (Nat×V)}(h:fm (λp q=>gd (U9 p.1 q.1) (L p.2 q.2)) x y=true)(k:Nat):(eJ y k=none->eJ x k=none)/\∀b,eJ y k=some b->∃a,eJ x k=some a/\L a b=true:=
 dH (P:=λx y=>(eJ y k=none->eJ x k=none)/\∀b,eJ y k=some b->∃a,eJ x k=some a/\L a b=true) h ⟨λh=>h,λY e=>nn e⟩ λp r q r' h ih=>cT h λh1 h2=>by
  have e1:=cX h1
  obtain⟨i,a⟩:=p
  obtain⟨j,b⟩:=q
  cases e1
  refine(?_:((Bool.rec (eJ r' k) (some b) (U9 i k):Option V)=none->(Bool.rec (eJ r k) (some a) (U9 i k):Option V)=none)/\∀b',(Bool.rec (eJ r' k) (some b) (U9 i k):Option V)=some b'->∃a',(Bool.rec (eJ r k) (some a) (U9 i k):Option V)=some a'/\L a' b'=true)
  cases U9 i k with
  |false=>exact ih
  |true=>exact⟨nn',λb' e=>⟨a,rfl,si e▸h2⟩⟩
theorem Lr{x y:List (Nat×V)}(h:MK T f x y=true)(k:Nat):(eJ y k=none->eJ x k=none)/\∀b,eJ y k=some b->∃a,eJ x k=some a/\IZ T f a b=true:=uo h k
theorem Hm(R:uO g c c' T f f'){x y:List (Nat×V)}{mm:Str->Option Value}(h:MK T f x y=true)(hn:NR g c x mm):NR g c' (Ax f' y) mm:=λz hz=>by
 have h1:=Lr h (cd z)
 have h2:=hn z hz
 rw[Hl]
 cases e:eJ y (cd z) with
 |none=>rw[h1.1 e] at h2;exact h2
 |some b=>
  refine e12 (h1.2 b e) λa q1 q2=>?_
  rw[q1] at h2
  refine e12 h2 λv w1 w2=>?_;clear h2
  exact⟨v,w1,pf R q2 w2⟩
theorem N5{o:O}{p:Nat×Nat}(h:oU o=some p):o=.lsU p.1 p.2:=by
 cases o with
 |lsU a b=>exact congrArg (λp:Nat×Nat=>O.lsU p.1 p.2) (U7 h)
 |_=>exact nn h
theorem jv(R:uO g c c' T f f'){o o':O}{a d:Addr}{h:Heap}(hl:AU T f o o'=true)(x:OR g c o a d h):OR g c' (sw f' o') a d h:=
 MG hl (λhl=>cP hl λl e hl=>cP hl λl' e' h9=>by
  cases gz e;cases gz e'
  refine e13 x λvs h1 h2 h3=>?_;clear x
  exact⟨vs,h1,rR R h9 h2,Va (Vg ((Vs ..).trans (fS h9))) h3⟩) (λhl=>cP hl λl e hl=>cP hl λl' e' hl=>cT hl λh0 h9=>by
  cases kH e;cases kH e'
  refine e25 x λmm ns h1 h2 h3 h4 h5=>?_;clear x
  exact⟨mm,ns,cX h0▸h1,h2,Hm R h9 h3,h4,Va h5 (Vg ((Vs ..).trans (fS h9)).symm)⟩) (λhl=>cP hl λq e hl=>cP hl λp e' hl=>iV hl λq1 q2 q3=>by
  cases N5 e
  exact nU e' x λws w1 w2 w3 Y Y=>⟨ws,w1,Va (eP q1) w2,Va w3 (eP q2),eP q3⟩) (λhl=>cP hl λl e hl=>cP hl λl' e' h9=>by
  cases kC e;cases kC e'
  refine e25 x λob b h1 h2 h3 h4 h5=>?_;clear x
  exact⟨ob,b,h1,h2,h3,pc R.kn h9 h4,Va (Vg (fS h9)) h5⟩) (λhl=>cP hl λl e hl=>cP hl λl' e' hl=>iV hl λh0 hb h9=>by
  cases s8 e;cases s8 e'
  obtain⟨ob,vs,mm,h1,h2,h3,h4,h5,h6,h7⟩:=x
  exact⟨ob,vs,mm,h1,cX h0▸h2,h3,h4,h5,Hm R h9 h6,eq_of_beq hb▸h7⟩)
theorem rS{o o':O}(hl:AU T f o o'=true):o.isNs=false:=
 MG hl (λhl=>cP hl λl e Y=>by
  cases gz e
  rfl) (λhl=>cP hl λl e Y=>by
  cases kH e
  rfl) (λhl=>cP hl λY Y hl=>cP hl λp e Y=>by
  clear hl
  cases o with
  |list=>rfl
  |lsU=>rfl
  |_=>exact nn e) (λhl=>cP hl λl e Y=>by
  cases kC e
  rfl) (λhl=>cP hl λl e Y=>by
  cases s8 e
  rfl)
end
def N6(R:Addr->Obj->Prop)(c:Cf)(m:Nat)(μ:Nat->Nat)(hp:Heap)(a:Addr)(o:Obj):Prop:=R a o\/∃k,(∀j,j<m->μ j≠k)/\k<c.n/\¬c.N k/\(a=c.ρ k\/a=c.δ k)/\hp.get? a=some o
def Ls(S:Addr->Obj->Prop)(c:Cf)(hp:Heap)(a:Addr)(o:Obj):Prop:=S a o\/∃k,k<c.n/\c.N k/\(a=c.ρ k\/a=c.δ k)/\hp.get? a=some o
noncomputable def Cf.low(c:Cf)(m:Nat)(μ:Nat->Nat):Cf:=⟨m,λj=>c.ρ (μ j),λj=>c.δ (μ j),c.T,λY=>False,c.D⟩
noncomputable def Gb.ins(g:Gb)(C:i9)(M:Option Addr)(dl ul:Nat)(c:Cf)(m:Nat)(μ:Nat->Nat)(hp:Heap):Gb:=g.alt C (N6 g.R c m μ hp) (Ls g.S c hp) M g.s0 g.T0 dl ul
section
variable{g:Gb}{c c':Cf}{C:i9}{M:Option Addr}{dl ul m:Nat}{μ:Nat->Nat}{h h' h1:H}{s s':Shared}
theorem rU{hp:Heap}:OR (g.ins C M dl ul c m μ hp)=OR g:=oq
theorem pg{hp:Heap}:VR (g.ins C M dl ul c m μ hp)=VR g:=iL
theorem Hn{hp:Heap}:da (g.ins C M dl ul c m μ hp)=da g:=yh
theorem cV.far(I:cV g c h s):∀j k,j<c.n->k<c.n->j≠k->∀a,(a=c.ρ j\/a=c.δ j)->(a=c.ρ k\/a=c.δ k)->False:=λj k hj hk hn a h1 h2=>by
 refine e03 (I.inj j k hj hk hn) λx1 x2 x3=>?_
 refine e03 (I.inj k j hk hj (Ne.symm hn)) λy1 y2 y3=>?_
 rcases h1 with rfl|rfl<;>rcases h2 with h2|h2
 .exact x1 h2
 .exact x2 h2
 .exact y2 h2.symm
 .exact x3 h2
theorem cV.lows{h0:H}(I:cV g c h s)(hm:∀j,j<m->μ j<c.n)(hi:∀i j,i<m->j<m->i≠j->μ i≠μ j)(hN:∀k,k<m->¬c.N (μ k))(hl:h0.length=m)(ho:∀k o,h0.get k=some o->k<m/\OR g (c.low m μ) o (c.ρ (μ k)) (c.δ (μ k)) s.heap)(hM:∀a,M=some a->0<m/\c.ρ (μ 0)=a):
  cV (g.ins C M dl ul c m μ s.heap) (c.low m μ) h0 s:=by
 have far:=I.far
 have notR:∀a,Al g c a->(∀k,(∀j,j<m->μ j≠k)->k<c.n->¬c.N k->¬(a=c.ρ k\/a=c.δ k))->Al (g.ins C M dl ul c m μ s.heap) (c.low m μ) a:=λa x n=>
  ⟨λo q=>q.elim (x.R o) λ⟨k,q1,q2,q3,q4,_⟩=>n k q1 q2 q3 q4,x.B,x.T,x.D⟩
 refine⟨hl.symm,λk o e=>?_,λk hk=>I.pres _ (hm k hk),I.tup,I.dat,λa o q=>q.elim (I.rest a o) λ⟨k,_,_,_,_,q⟩=>q,λa o q=>q.elim (I.fra a o) λ⟨k,_,_,_,q⟩=>⟨o.slots,q⟩,I.base,
  λj k hj hk hn=>I.inj _ _ (hm j hj) (hm k hk) (hi j k hj hk hn),λk hk a ha=>?_,λa o ho'=>?_,I.sam,I.t0,hM,λk q=>q.elim,I.tab,notR _ I.offP λk Y q2 Y q4=>(I.off k q2 g.P q4).2.2 rfl,I.sm,⟨λa vs o q r=>?_,λa ob o q r=>?_⟩⟩
 .refine e02 (ho k o e) λh2 h3=>?_
  exact⟨h2,by rw[rU];exact h3⟩
 .have hk':=hm k hk
  refine e03 (I.off _ hk' a ha) λx1 x2 x3=>?_
  refine⟨notR a x1 λj q1 q2 Y q4=>far _ j hk' q2 (q1 k hk) a ha q4,λo q=>q.elim (x2 o) λ⟨j,q1,q2,q3,_⟩=>?_,x3⟩
  by_cases e:j=μ k
  .exact hN k hk (e▸q2)
  .exact far j _ q1 hk' e a q3 ha
 .rcases ho' with ho'|⟨j,q1,q2,q3,_⟩
  .refine e02 (I.offS a o ho') λx1 x2=>?_
   exact⟨notR a x1 λk Y q2 Y q4=>(I.off k q2 a q4).2.1 o ho',x2⟩
  .refine e03 (I.off j q1 a q3) λx1 x2 x3=>?_
   exact⟨notR a x1 λk Y w2 w3 w4=>by
    by_cases e:j=k
    .subst e;exact w3 q2
    .exact far j k q1 w2 e a q3 w4,x3⟩
 .rcases r with r|⟨k,_,q2,_,q4,_⟩
  .exact I.rT.1 a vs o q r
  .exact(I.off k q2 a q4).1.T vs q
 .rcases r with r|⟨k,_,q2,_,q4,_⟩
  .exact I.rT.2 a ob o q r
  .exact(I.off k q2 a q4).1.D ob q
noncomputable def Cf.back(c c':Cf):Cf:=⟨c.n,c.ρ,c.δ,c'.T,c.N,c'.D⟩
theorem dz.back(e:dz (c.low m μ) c'):dz c (c.back c'):=⟨Vm _,λY Y=>rfl,λY Y=>rfl,e.T,λY q=>q,e.D,λY Y q=>q⟩
theorem iS{k:Nat}(q:¬∃j,j<m/\μ j=k):∀j,j<m->μ j≠k:=λj hj e=>q ⟨j,hj,e⟩
theorem cV.sep(I:cV g c h s){a:Addr}(hR:∀o,¬N6 g.R c m μ s.heap a o)(hS:∀o,¬Ls g.S c s.heap a o)(hl:∀k,k<m->a≠c.ρ (μ k)/\a≠c.δ (μ k)):
  ∀k,k<c.n->a≠c.ρ k/\a≠c.δ k:=λk hk=>by
 by_cases q:∃j,j<m/\μ j=k
 .refine e12 q λj q zq5=>?_
  cases zq5
  exact hl j q
 .refine e02 (I.pres k hk) λzq6 zq7=>?_
  refine e11 zq6 λo1 p1=>?_
  refine e11 zq7 λo2 p2=>?_
  by_cases hN:c.N k
  .exact⟨λw=>hS o1 (.inr ⟨k,hk,hN,.inl w,w▸p1⟩),λw=>hS o2 (.inr ⟨k,hk,hN,.inr w,w▸p2⟩)⟩
  .exact⟨λw=>hR o1 (.inr ⟨k,iS q,hk,hN,.inl w,w▸p1⟩),λw=>hR o2 (.inr ⟨k,iS q,hk,hN,.inr w,w▸p2⟩)⟩
theorem cV.back(I:cV g c h s)(I':cV (g.ins C M dl ul c m μ s.heap) c' h' s')(e:dz (c.low m μ) c')(hm:∀j,j<m->μ j<c.n)(hl:h1.length=h.length)(hs:∀k,(∀j,j<m->μ j≠k)->h1.get k=h.get k)
  (ho:∀k o,k<m->h1.get (μ k)=some o->OR g (c.back c') o (c.ρ (μ k)) (c.δ (μ k)) s'.heap) (hN:∀k,k<m->¬c.N (μ k)):cV g (c.back c') h1 s':=by
 have ex:dz c (c.back c'):=.back e
 refine⟨I.len.trans hl.symm,λk o q=>?_,λk hk=>?_,I'.tup,I'.dat,λa o q=>I'.rest a o (.inl q),λa o q=>I'.fra a o (.inl q),I'.base,I.inj,λk hk a ha=>?_,λa o q=>?_,I'.sam,I'.t0,I.m0,λk q=>?_,I'.tab,⟨I.offP.R,I.offP.B,I'.offP.T,I'.offP.D⟩,I'.sm,⟨λa vs o q r=>I'.rT.1 a vs o q (.inl r),λa ob o q r=>I'.rT.2 a ob o q (.inl r)⟩⟩
 .by_cases hk:∃j,j<m/\μ j=k
  .refine e12 hk λj hk zq8=>?_
   cases zq8
   exact⟨hm j hk,ho j o hk q⟩
  .rw[hs k (iS hk)] at q
   refine e02 (I.obj k o q) λh2 h3=>?_
   refine⟨h2,?_⟩
   have h3:=h3.ext ex
   by_cases hn:c.N k
   .refine e12 (I.ns k hn) λo' w1 w2=>?_
    rw[q] at w1;obtain rfl:=U7 w1
    have sl:∀ob,s.heap.get? (c.ρ k)=some ob->∃sl,s'.heap.get? (c.ρ k)=some {ob with slots:=sl}:=λob p=>I'.fra _ _ (.inr ⟨k,h2,hn,.inl rfl,p⟩)
    cases o<;>first|(cases w2;done)|skip
    .refine e12 h3 λmm zq9 h5=>?_;clear h3
     refine e32 zq9 λob es ep p r=>?_
     refine e11 (sl _ p) λx p'=>?_
     exact⟨mm,⟨_,es,ep,p',r⟩,h5⟩
    .refine e42 h3 λmm ob es ep p r=>?_;clear h3
     refine e11 (sl _ p) λx p'=>?_
     exact⟨mm,_,es,ep,p',r⟩
   .exact h3.at (λob p=>I'.rest _ _ (.inr ⟨k,iS hk,h2,hn,.inl rfl,p⟩)) (λob p=>I'.rest _ _ (.inr ⟨k,iS hk,h2,hn,.inr rfl,p⟩))
 .by_cases q:∃j,j<m/\μ j=k
  .refine e12 q λj q zq10=>?_
   cases zq10
   have:=I'.pres j (Vf q e.n)
   rw[e.ρ j q,e.δ j q] at this
   exact this
  .refine e02 (I.pres k hk) λzq11 zq12=>?_
   refine e11 zq11 λo1 p1=>?_
   refine e11 zq12 λo2 p2=>?_
   by_cases hn:c.N k
   .refine e11 (I'.fra _ _ (.inr ⟨k,hk,hn,.inl rfl,p1⟩)) λx1 y1=>?_
    refine e11 (I'.fra _ _ (.inr ⟨k,hk,hn,.inr rfl,p2⟩)) λx2 y2=>?_
    exact⟨⟨_,y1⟩,⟨_,y2⟩⟩
   .exact⟨⟨_,I'.rest _ _ (.inr ⟨k,iS q,hk,hn,.inl rfl,p1⟩)⟩,⟨_,I'.rest _ _ (.inr ⟨k,iS q,hk,hn,.inr rfl,p2⟩)⟩⟩
 .refine e03 (I.off k hk a ha) λx1 x2 x3=>?_
  have key:(∀vs,¬c'.T a vs)/\∀o,¬c'.D a o:=by
   by_cases q:∃j,j<m/\μ j=k
   .refine e12 q λj q zq13=>?_
    cases zq13
    have hkc:j<c'.n:=Vf q e.n
    have:=(I'.off j hkc a (by rw[e.ρ j q,e.δ j q];exact ha)).1
    exact⟨this.T,this.D⟩
   .obtain⟨o,p⟩:∃o,s.heap.get? a=some o:=by
     refine e02 (I.pres k hk) λp1 p2=>?_
     rcases ha with rfl|rfl
     .exact p1
     .exact p2
    by_cases hn:c.N k
    .have:=(I'.offS a o (.inr ⟨k,hk,hn,ha,p⟩)).1
     exact⟨this.T,this.D⟩
    .exact⟨λvs w=>I'.rT.1 a vs o w (.inr ⟨k,iS q,hk,hn,ha,p⟩),λob w=>I'.rT.2 a ob o w (.inr ⟨k,iS q,hk,hn,ha,p⟩)⟩
  exact⟨⟨x1.R,x1.B,key.1,key.2⟩,x2,x3⟩
 .refine e02 (I'.offS a o (.inl q)) λx1 x2=>?_
  exact⟨⟨λo w=>x1.R o (.inl w),x1.B,x1.T,x1.D⟩,x2⟩
 .refine e12 (I.ns k q) λo w1 w2=>?_
  exact⟨o,by rw[hs k λj hj w=>hN j hj (w▸q)];exact w1,w2⟩
theorem gZ.back(I:cV g c h s){a:Addr}(al:Al (g.ins C M dl ul c m μ s.heap) c' a)(hS:∀o,¬Ls g.S c s.heap a o)(hP:a≠g.P)(hl:∀k,k<m->a≠c.ρ (μ k)/\a≠c.δ (μ k)):gZ g (c.back c') a:=
 ⟨⟨λo q=>al.R o (.inl q),al.B,al.T,al.D⟩,λo q=>hS o (.inl q),λk hk=>I.sep al.R hS hl k hk,hP⟩
theorem FL.ins(I:cV g c h s){l:List Env}(x:FL g c l):FL (g.ins C M dl ul c m μ s.heap) (c.low m μ) l:=FL.imp (g:=g) (λL q=>by
 rcases q with⟨k,h2,h3,rfl⟩|⟨o,h2,h3⟩
 .refine e12 (I.ns k h3) λo w1 w2=>?_
  have h4:=(I.obj k o w1).2
  cases o<;>first|(cases w2;done)|skip
  .refine e12 h4 λmm zq14 h5=>?_;clear h4
   refine e33 zq14 λob es ep p r Y=>?_
   exact .inr ⟨ob,.inr ⟨k,h2,h3,.inl rfl,p⟩,λvs q=>by rw[r] at q;cases q⟩
  .refine e43 h4 λmm ob es ep p r Y=>?_;clear h4
   exact .inr ⟨ob,.inr ⟨k,h2,h3,.inl rfl,p⟩,λvs q=>by rw[r] at q;cases q⟩
 .exact .inr ⟨o,.inl h2,h3⟩) x
theorem cV.newOb(I:cV g c h s)(I':cV (g.ins C M dl ul c m μ s.heap) c' h' s')(e:dz (c.low m μ) c')(J:cV g (c.back c') h1 s'){r:Nat}{o:O}(hr:r<c'.n)(hmr:m≤r)(ho:OR g (c.back c') o (c'.ρ r) (c'.δ r) s'.heap):
  cV g ((c.back c').add (c'.ρ r) (c'.δ r) false) (h1.push o) s':=by
 have far:∀a,(a=c'.ρ r\/a=c'.δ r)->gZ g (c.back c') a:=λa ha=>by
  refine e03 (I'.off r hr a ha) λx1 x2 x3=>?_
  refine .back I x1 x2 x3 λk hk=>?_
  have hk':k<c'.n:=Vf hk e.n
  have hne:r≠k:=V4 (Vf hk hmr)
  have e1:=e.ρ k hk
  have e2:=e.δ k hk
  refine(?_:a≠(c.low m μ).ρ k/\a≠(c.low m μ).δ k)
  rw[<-e1,<-e2]
  exact⟨λw=>I'.far r k hr hk' hne a ha (.inl w),λw=>I'.far r k hr hk' hne a ha (.inr w)⟩
 refine e02 (I'.pres r hr) λp1 p2=>?_
 exact J.pushF (λY Y q=>q) (far _ (.inl rfl)) (far _ (.inr rfl)) ho p1 p2 ⟨rfl,rfl,rfl⟩ (λq=>by cases q)
end
structure dw where
 args:List V
 src:List Nat
 pre:List O
 outs:List dV
noncomputable def jw(f:Nat->Nat)(l:List O):List O:=l.map (sw f)
noncomputable def li(f:Nat->Nat)(l:List (Nat×O)):List (Nat×O):=l.map λp=>(f p.1,sw f p.2)
noncomputable def jx(f:Nat->Nat)(o:dV):dV:=⟨dp o.ex λp=>some (p.1,Ax f p.2),jw f o.objs,wE f o.v,li f o.ups⟩
noncomputable def wF(f:Nat->Nat)(l:List dV):List dV:=l.map (jx f)
noncomputable def N7(args:List V)(d i:Nat):Nat:=Nat.rec 0 (λi Y=>dq (dp (fC args i) fk) d λk=>k) i
noncomputable def mH(args:List V)(d:Nat)(l:List Nat):List Nat:=l.map (N7 args d)
noncomputable def mW(l:List Nat)(d j:Nat):Nat:=dq (fC l j) d λk=>k
noncomputable def I9(k:Nat)(l:List Nat):Bool:=dF l λj=>!(U9 k j)
noncomputable def Lu(d:Nat)(l:List Nat):Bool:=List.rec true (λk r ih=>gd (V8 k d) (gd (I9 k r) ih)) l
noncomputable def fo(m r k:Nat):Nat:=db (V8 k m) k r
noncomputable def Lv(ups:List (Nat×O))(j:Nat)(p:O):O:=dq (gq ups) p λq=>db (U9 q.1 j) q.2 p
noncomputable def N8(j:Nat)(l:List dV):Bool:=dF l λo=>cR (gq o.ups) λq=>U9 q.1 j
noncomputable def Ed(o o':O):Bool:=dj (cR (oB o) λl=>cR (oB o') λl'=>fm nD l l') (dj (cR (oL o) λl=>cR (oL o') λl'=>fm gX l l') (cR (oI o) λp=>cR (oI o') λq=>gd (U9 p.1 q.1) (fm (λa b=>gd (U9 a.1 b.1) (gX a.2 b.2)) p.2 q.2)))
noncomputable def Lw(T:Nat->List V)(o o':O):Bool:=cR (oB o) λl=>cR (oB o') λl'=>yB T l l'
section
variable(T:Nat->List V)(m:Nat)
noncomputable def Lx(ups:List (Nat×O))(h:H):List O->Nat->Bool:=xe λj p=>cR (h.get j) λx=>AU T (fo m h.length) x (Lv ups j p)
noncomputable def uq(μ:Nat->Nat)(outs:List dV)(h:H):List O->Nat->Bool:=xe λj p=>cR (h.get (μ j)) λx=>gd (AU T μ x p) (dj (N8 j outs) (dj (Ed p x) (Lw T p x)))
noncomputable def ur(ups:List (Nat×O)):Bool:=dj (dT ups) (cR (gq ups) λq=>V8 q.1 m)
noncomputable def N9(n:Nat):V->Option Nat:=Nat.rec (λY=>none) (λY ih v=>sD (dp (fk v) λk=>gO (Vk m k) (some k)) (dp (eg v) λl=>List.rec none (λx Y r=>sD (ih x) r) l)) n
noncomputable def Oa(os:List O)(v a:V)(h:H):Bool:=dj (gd (dT os) (IZ T (fo m h.length) a v))
 (cR (gq os) λob=>cR (N9 m 12 a) λr=>gd (Vk m r) (gd (cR (h.get r) λx=>AU T (fo m h.length) x ob) (IZ T (fo m r) a v)))
noncomputable def Ho(pre:List O)(a:V)(h:H)(o:dV):Bool:=dq o.ex (gd (ur m o.ups) (gd (Lx T m o.ups h pre 0) (Oa T m o.objs o.v a h))) λY=>false
noncomputable def Ob(pre:List O)(k:Nat)(h:H)(o:dV):Bool:=cR o.ex λp=>gd (dT o.objs) (gd (ur m o.ups) (gd (Lx T m o.ups h pre 0) (gd (Vk m k) (cR (h.get k) λy=>AU T (fo m h.length) y (.exc p.1 p.2 false)))))
end
noncomputable def SM(T:Nat->List V)(m:Nat)(pre:List O)(outs:List dV)(a:V)(h:H):Bool:=cR (dE a) λx=>cR x.lo λl=>cR x.hi λu=>
 gd (decide (u - l<2000)) (dF (Bb l (u - l+1).toNat) λn=>lA (Ho T m pre (.int (.c n)) h) outs)
noncomputable def ph(T:Nat->List V)(m:Nat)(pre:List O)(outs:List dV)(a:V)(h:H):Bool:=dj (lA (Ho T m pre a h) outs) (SM T m pre outs a h)
noncomputable def Hp(T:Nat->List V):List O->List O->Bool:=fm (AU T λk=>k)
noncomputable def rV(C:i9)(n i:Nat)(e:dw)(ra:List V)(rp:List O):Bool:=
 gd (qc C.toks (λk=>k) (ju (λk=>k) e.args) ra) (gd (Hp C.toks (jw (λk=>k) e.pre) rp)
 ((mO C n).cl (.fn i) (ju (λk=>k) ra) (eN H.nil (jw (λk=>k) rp)) (ph C.toks e.pre.length e.pre e.outs) (λk h=>lA (Ob C.toks e.pre.length e.pre k h) e.outs)))
noncomputable def ut(T:Nat->List V)(args:List V)(h:H)(e:dw)(μ:List Nat):Bool:=
 gd (U9 μ.length e.pre.length) (gd (Lu h.length μ) (gd (qc T (mW μ h.length) args e.args) (uq T (mW μ h.length) e.outs h e.pre 0)))
noncomputable def SN(o:Option O):Nat:=dq (dp (dp o oI) λp=>dp (fC p.2 1) λq=>dp (dE q.2) fp) 0 Int.toNat
noncomputable def SO(b:Bool)(h:H)(v:V):Nat:=dq (dk v) (dq (dp (uj v) λp=>gO (U9 p.1 3) (some p.2)) (dq (fk v) (dq (gO b (sD (iU v) (fj v))) 0 λk=>k) λk=>SN (h.get k)) λk=>k) List.length
noncomputable def Ja(b:Bool)(h:H)(l:List V):Nat->Nat:=List.rec (λa=>a) (λv Y ih a=>ih (Nat.add (WX a 13) (SO b h v))) l
noncomputable def Ee(T:Nat->List V)(args:List V)(h:H)(es:List dw):Option (List dV):=
 List.rec none (λe Y ih=>Bool.rec ih (some (wF (mW (mH args h.length e.src) h.length) e.outs)) (ut T args h e (mH args h.length e.src))) es
noncomputable def pi(T:Nat->List V)(t:Nat->Nat->List dw)(i:Nat)(args:List V)(h:H):Option (List dV):=Ee T args h (t i (db (U9 i 183) (Ja true h (args.drop 3) 0) (Ja (dj (U9 i 110) (dj (U9 i 166) (U9 i 171))) h args 0)))
section
variable{g:Gb}{c c':Cf}{T:Nat->List V}{m:Nat}{h h':H}{s s':Shared}
variable{f μ:Nat->Nat}
theorem jy{l:List O}:∀{h:H},(eN h l).length=h.length+l.length:=by
 induction l with
 |nil=>exact rfl
 |cons o l ih=>exact ih.trans ((congrArg (· +l.length) (H.length_push ..)).trans ((W4 ..).trans (congrArg (_+·) (V0 ..))))
theorem uu{l:List O}:∀{h:H} {l0:List O},(∀j,h.get j=l0[j]?)->h.length=l0.length->∀j,(eN h l).get j=(l0++l)[j]? :=by
 induction l with
 |nil=>exact λe Y j=>(e j).trans (by rw[V5])
 |cons o l ih=>
  intro h l0 e hl j
  have q:=ih (h:=h.push o) (l0:=l0++[o]) (λj=>by
   rw[H.get_push,hl,e j,List.getElem?_append]
   by_cases q:j<l0.length
   .rw[if_pos q,if_neg (V4 q)]
   .rw[if_neg q]
    by_cases q2:l0.length=j
    .rw[if_pos q2,<-q2,Nat.sub_self];rfl
    .rw[if_neg q2,V6 (Nat.not_lt.mp q)]
     have:0<j - l0.length:=Nat.sub_pos_of_lt (VW (Nat.not_lt.mp q) q2)
     exact(V6 this).symm) ((H.length_push ..).trans ((congrArg (· +1) hl).trans (by rw[Vw];rfl))) j
  exact q.trans (by rw[List.append_assoc];rfl)
theorem uv{l:List O}{j:Nat}:(eN H.nil l).get j=l[j]? :=uu (l0:=[]) (λY=>rfl) rfl j
theorem Hq{α:Type}{l:List α}:∀{i:Nat} {x:α},fC l i=some x->x∈l:=by
 induction l with
 |nil=>exact λe=>nn e
 |cons y l ih=>
  intro i x e
  cases i with
  |zero=>exact si e▸Vc
  |succ i=>exact Vd _ (ih (i:=i) e)
theorem uw{k:Nat}{l:List Nat}{j x:Nat}(h:I9 k l=true)(e:fC l j=some x):k≠x:=by
 have:=c9 h (Hq e)
 exact ej (dO this)
theorem Hr{d:Nat}{l:List Nat}:Lu d l=true->(∀j x,fC l j=some x->x<d)/\∀i j x y,i≠j->fC l i=some x->fC l j=some y->x≠y:=by
 induction l with
 |nil=>exact λY=>⟨λY Y e=>nn e,λY Y Y Y Y e=>nn e⟩
 |cons k l ih=>
  exact λh=>iV h λh1 h2 h=>by
   refine e02 (ih h) λi1 i2=>?_
   refine⟨λj x e=>?_,λi j x y hn e1 e2=>?_⟩
   .cases j with
    |zero=>exact si e▸eP h1
    |succ j=>exact i1 j x e
   .cases i with
    |zero=>
     cases j with
     |zero=>exact absurd rfl hn
     |succ j=>exact si e1▸uw h2 (j:=j) e2
    |succ i=>
     cases j with
     |zero=>exact si e2▸Ne.symm (uw h2 (j:=i) e1)
     |succ j=>exact i2 i j x y (λq=>hn (congrArg (· +1) q)) e1 e2
theorem wG{α:Type}{l:List α}:∀{i:Nat},i<l.length->∃x,fC l i=some x:=by
 induction l with
 |nil=>exact λh=>absurd h (Vq _)
 |cons y l ih=>
  intro i h
  cases i with
  |zero=>exact⟨y,rfl⟩
  |succ i=>exact ih (VP h)
theorem Hs{α β:Type}{F:α->β->Bool}{l:List α}{l':List β}{i:Nat}{x:β}(h:fm F l l'=true)(e:l'[i]? =some x):∃y,l[i]? =some y/\F y x=true:=
 dH (P:=λl l'=>∀i,l'[i]? =some x->∃y,l[i]? =some y/\F y x=true) h (λY e=>nn e) (λy r z r' h ih i e=>by
  cases i with
  |zero=>exact⟨y,rfl,si (show some z=some x from e)▸h⟩
  |succ i=>exact ih i e) i e
theorem qD{a b:V}(h:gX a b=true):wE f a=a:=
 RH h (λh=>cP h λY e Y=>by
  cases eA e
  rfl) (λh=>cT h λe Y=>by
  cases ia e
  rfl) (λh=>cP h λY e Y=>by
  cases jB e
  rfl) (λh=>cP h λY e Y=>by
  cases gy e
  rfl)
theorem Ay{x y:List V}(h:fm gX x y=true):x=y/\ju f x=x:=
 dH (P:=λx y=>x=y/\ju f x=x) h ⟨rfl,rfl⟩ λa x b y h ih=>⟨by rw[lS h,ih.1],by
  refine(?_:wE f a::ju f x=_)
  rw[ih.2,qD h]⟩
theorem Az{x y:List (Nat×V)}(h:fm (λa b=>gd (U9 a.1 b.1) (gX a.2 b.2)) x y=true):x=y/\Ax f x=x:=
 dH (P:=λx y=>x=y/\Ax f x=x) h ⟨rfl,rfl⟩ λa x b y h ih=>cT h λh1 h2=>⟨by rw[show a=b from Prod.ext (cX h1) (lS h2),ih.1],by
  refine(?_:(a.1,wE f a.2)::Ax f x=_)
  rw[ih.2,qD h2]⟩
theorem AA{x y:List AI}(h:fm nD x y=true):x=y:=dH h rfl λa x b y h ih=>by rw[lR h,ih]
theorem AB{x y:O}(h:Ed x y=true):x=y/\sw f x=x:=
 Ck h (λh=>cP h λl e h=>cP h λl' e' h=>by
  have q:=AA h
  cases kC e;cases kC e'
  exact⟨congrArg O.barr q,rfl⟩) (λh=>cP h λl e h=>cP h λl' e' h=>by
  have q:=Ay (f:=f) h
  cases gz e;cases gz e'
  exact⟨congrArg O.list q.1,congrArg O.list q.2⟩) (λh=>cP h λp e h=>cP h λp' e' h=>cT h λh1 h=>by
  have q:=Az (f:=f) h
  rw[kH e,kH e',cX h1]
  exact⟨congrArg (O.inst _) q.1,congrArg (O.inst _) q.2⟩)
end
section
variable{g:Gb}{c c':Cf}{C:i9}{M:Option Addr}{dl ul:Nat}{h h':H}{s s':Shared}{A:Around}{e:dw}
def Ht(g:Gb)(c:Cf)(h:H)(e:dw)(f:Nat->Nat)(v:Value)(s:Shared):Prop:=
 ∃o,o∈e.outs/\o.ex=none/\∃c',dz c c'/\cV g c' (sL h (jx f o)) s/\VR g c' (wE f o.v) v
def Hu(g:Gb)(c:Cf)(A:Around)(h:H)(e:dw)(f:Nat->Nat)(x:Value)(s:Shared):Prop:=
 ∃o,o∈e.outs/\∃ci mm,o.ex=some (ci,mm)/\∃c',dz c c'/\cV g c' ((sL h (jx f o)).push (.exc ci (Ax f mm) false)) s/\
  x=.ref (c'.ρ (sL h (jx f o)).length)/\vA g c' A (c'.ρ (sL h (jx f o)).length) s
theorem Ef{C:Prop}{m:Nat}{ups:List (Nat×O)}(h:ur m ups=true)(f:ups=[]->C)(k:∀i o,ups=[(i,o)]->i<m->C):C:=
 eK h (λh=>f (fN h)) λh=>cP h λp e h=>k p.1 p.2 (jA e) (eP h)
theorem Hv{m:Nat}{μ:Nat->Nat}(hi:∀i j,i<m->j<m->i≠j->μ i≠μ j){ups:List (Nat×O)}{h:H}(hu:ur m ups=true):(iz h (li μ ups)).length=h.length/\(∀k,(∀j,j<m->μ j≠k)->(iz h (li μ ups)).get k=h.get k)/\
  ∀k,k<m->(∃o,ups=[(k,o)]/\(iz h (li μ ups)).get (μ k)=some (sw μ o))\/((∀p,Lv ups k p=p)/\(∀o,ups≠[(k,o)])/\(iz h (li μ ups)).get (μ k)=h.get (μ k)):=
 Ef hu (λe=>by
  subst e
  exact⟨rfl,λY Y=>rfl,λk Y=>.inr ⟨λY=>rfl,λo q=>VT _ _ q.symm,rfl⟩⟩) λi o e hi'=>by
  subst e
  have gs:∀k,(iz h (li μ [(i,o)])).get k=if μ i=k then some (sw μ o) else h.get k:=λk=>H.get_set ..
  refine⟨H.length_set ..,λk hk=>(gs k).trans (if_neg (hk i hi')),λk hk=>?_⟩
  by_cases q:i=k
  .subst q
   exact .inl ⟨o,rfl,(gs _).trans (if_pos rfl)⟩
  .refine .inr ⟨λp=>?_,λo q'=>q (congrArg Wy (VY q').1),(gs _).trans (if_neg (hi i k hi' hk q))⟩
   refine(?_:db (U9 i k) o p=p)
   rw[dg q]
   rfl
structure Mu(c:Cf)(m:Nat)(μ:Nat->Nat):Prop where
 lt:∀j,j<m->μ j<c.n
 inj:∀i j,i<m->j<m->i≠j->μ i≠μ j
 ge:∀j,m≤j->μ j=c.n
theorem rW{l:List Nat}{d j x:Nat}(e:fC l j=some x):mW l d j=x:=by
 unfold mW
 rw[e]
 rfl
theorem Mu.of{l:List Nat}{d:Nat}(hl:l.length=c.n->True)(h1:Lu c.n l=true):Mu c l.length (mW l c.n):=by
 refine e02 (Hr h1) λa b=>?_
 refine⟨λj hj=>?_,λi j hi hj hn=>?_,λj hj=>?_⟩
 .refine e11 (wG hj) λx e=>?_
  exact rW e▸a j x e
 .refine e11 (wG hi) λx e1=>?_
  refine e11 (wG hj) λy e2=>?_
  rw[rW e1,rW e2]
  exact b i j x y hn e1 e2
 .unfold mW
  cases e:fC l j with
  |none=>rfl
  |some x=>exact absurd (wC e) (Nat.not_lt.mpr hj)
theorem Eg{m r k:Nat}(h:k<m):fo m r k=k:=by
 unfold fo
 rw[show V8 k m=true from Nat.ble_eq_true_of_le h]
 rfl
theorem Eh{m r k:Nat}(h:m≤k):fo m r k=r:=by
 unfold fo
 cases q:V8 k m with
 |false=>rfl
 |true=>exact absurd (eP q) (Nat.not_lt.mpr h)
structure gG(g:Gb)(C:i9):Prop where
 i:∀{c':Cf} {k a v},a∈C.toks k->VR g c' a v->g.TK k c' v
 e:∀{c':Cf} {k v},g.TK k c' v->∃a,a∈C.toks k/\VR g c' a v
 s:∀{f n k a},a∈C.toks k->kh f n a=a
 k:Kn C.toks g.σ
theorem gG.ren(K:gG g C){f f':Nat->Nat}(hT:∀a vs,c.T a vs->c'.T a vs)(h:∀k,f k<c.n->f' k<c'.n/\c'.ρ (f' k)=c.ρ (f k)):uO g c c' C.toks f f':=⟨K.k,hT,h,λq w=>K.i q w,λq=>K.e q,λq=>K.s q⟩
theorem pj{μ:Nat->Nat}(I:cV g c h s)(hm:Mu c e.pre.length μ)(hN:∀k,k<e.pre.length->¬c.N (μ k))(hp:uq C.toks μ e.outs h e.pre 0=true)(K:gG g C)
  (I':cV (g.ins C M dl ul c e.pre.length μ s.heap) c' h' s') (ex:dz (c.low e.pre.length μ) c') {o:dV} (ho:o∈e.outs) (hu:ur e.pre.length o.ups=true) (hf:Lx C.toks e.pre.length o.ups h' e.pre 0=true):
  cV g (c.back c') (iz h (li μ o.ups)) s'/\(iz h (li μ o.ups)).length=h.length/\uO g c' (c.back c') C.toks (fo e.pre.length h'.length) μ:=by
 refine e03 (Hv (h:=h) hm.inj hu) λu1 u2 u3=>?_
 have R:uO g c' (c.back c') C.toks (fo e.pre.length h'.length) μ:=K.ren (λY Y q=>q) λk hk=>by
  by_cases q:k<e.pre.length
  .rw[Eg q]
   exact⟨hm.lt k q,(ex.ρ k q).symm⟩
  .rw[Eh (WK q),I'.len] at hk
   exact absurd hk (Wr _)
 refine⟨I.back I' ex hm.lt u1 u2 (λk o' hk q=>?_) hN,u1,R⟩
 have hpk:e.pre[k]? =some e.pre[k]:=WE hk
 have w:=ku hf hpk
 rw[VC] at w
 refine cP w λx w1 w2=>?_
 have v2:=(I'.obj k x w1).2
 rw[rU,ex.ρ k hk,ex.δ k hk] at v2
 have v3:=jv R w2 v2
 clear w w2 v2
 refine(u3 k hk).elim (λ⟨o2,q1,q2⟩=>?_) λ⟨q1,q2,q3⟩=>?_
 .rw[q2] at q
  rw[q1,show Lv [(k,o2)] k e.pre[k]=db (U9 k k) o2 e.pre[k] from rfl,VD] at v3
  exact si q▸v3
 .rw[q3] at q
  rw[q1] at v3
  have z:=ku hp hpk
  rw[VC] at z
  refine cP z λy z1 z=>cT z λY z3=>?_
  cases U7 (q.symm.trans z1)
  refine eK z3 (λz3=>?_) λz3=>eK z3 (λz3=>?_) λz3=>cP z3 λl e1 z3=>cP z3 λl' e2 z3=>?_
  .have z3:=c9 z3 ho
   exact cP z3 λp e z=>absurd (by rw[jA e,<-cX z]) (q2 p.2)
  .refine e02 (AB (f:=μ) z3) λz4 z5=>?_
   rw[z5,z4] at v3
   exact v3
  .rw[kC e1] at v3
   rw[kC e2]
   refine e25 v3 λob b w5 w6 w7 w8 w9=>?_;clear v3
   exact⟨ob,b,w5,w6,w7,pc K.k z3 w8,Va (Vg (fS z3)) w9⟩
theorem Hw{T:Nat->List V}{m:Nat}{pre:List O}{outs:List dV}{a:V}{v:Value}{h:H}(hk:ph T m pre outs a h=true)(hv:VR g c a v):∃a o,VR g c a v/\o∈outs/\Ho T m pre a h o=true:=
 eK hk (λhk=>iG hk λo h1 h2=>⟨a,o,hv,h1,h2⟩) λhk=>kI (P:=λv=>∃a o,VR g c a v/\o∈outs/\Ho T m pre a h o=true) hk hv λx n t hn hk=>cP hk λl hl hk=>cP hk λu hu hk=>cT hk λY hk=>by
  have h1:=hn.lo hl
  have h2:=hn.hi hu
  have q:=c9 hk (tw h1 (VG h2 (Wh (show u<l+(u - l+1) by omega) (W1 (Int.self_le_toNat _) l))))
  exact iG q λo h3 h4=>⟨.int (.c n),o,eD rfl,h3,h4⟩
theorem vA.back{μ:Nat->Nat}(I:cV g c h s)(ex:dz (c.low e.pre.length μ) c'){r:Nat}(hr:r<c'.n){a:Addr}(x:vA (g.ins C M dl ul c e.pre.length μ s.heap) c' A a s'):vA g ((c.back c').add (c'.ρ r) (c'.δ r) false) A a s':=by
 refine x.imp (λT y7=>?_) rfl
 have F:gZ g (c.back c') T:=.back I y7.al y7.S y7.P λk hk=>by
  have:=y7.ne k (Vf hk ex.n)
  rw[ex.ρ k hk,ex.δ k hk] at this
  exact this
 refine⟨F.al.add,F.S,λk hk=>?_,F.P⟩
 by_cases q:k=(c.back c').n
 .subst q
  show T≠(if _ then _ else _)/\T≠(if _ then _ else _)
  rw[if_pos rfl,if_pos rfl]
  exact y7.ne r hr
 .show T≠(if _ then _ else _)/\T≠(if _ then _ else _)
  rw[if_neg q,if_neg q]
  exact F.ne k (VW (VZ hk) q)
theorem rX{ra:List V}{rp:List O}{n i:Nat}{μ:Nat->Nat}{args:List V}{vs:List Value}
  (K:gG g C) (hM:∀a,M=some a->g.M0=some a/\0<e.pre.length/\μ 0=0)
  (hq:C.quiet=false->A.handled=none) (hd:A.depth+n≤dl) (hu:A.units+16 * n+64≤ul) (hl:dl≤990/\ul≤cLine)
  (oa:dy g c 1 A) (I:cV g c h s) (hv:da g c args vs) (hm:Mu c e.pre.length μ) (ha:qc C.toks μ args e.args=true) (hp:uq C.toks μ e.outs h e.pre 0=true)
  (ha2:qc C.toks (λk=>k) (ju (λk=>k) e.args) ra=true) (hp2:Hp C.toks (jw (λk=>k) e.pre) rp=true)
  (hr:dy (g.ins C M dl ul c e.pre.length μ s.heap) (c.low e.pre.length μ) n A->cV (g.ins C M dl ul c e.pre.length μ s.heap) (c.low e.pre.length μ) (eN H.nil (jw (λk=>k) rp)) s->da (g.ins C M dl ul c e.pre.length μ s.heap) (c.low e.pre.length μ) (ju (λk=>k) ra) vs->
   cQ g.M A (call (.ref (g.fa i)) vs) (QV (g.ins C M dl ul c e.pre.length μ s.heap) (c.low e.pre.length μ) (ph C.toks e.pre.length e.pre e.outs)) (EX (g.ins C M dl ul c e.pre.length μ s.heap) (c.low e.pre.length μ) A (λk h=>lA (Ob C.toks e.pre.length e.pre k h) e.outs)) s):
  cQ g.M A (call (.ref (g.fa i)) vs) (Ht g c h e μ) (Hu g c A h e μ) s:=by
 have hat:∀k,k<e.pre.length->∃x,h.get (μ k)=some x/\AU C.toks μ x (e.pre[k]?.getD .dead)=true:=λk hk=>by
  have hpk:e.pre[k]? =some e.pre[k]:=WE hk
  have w:=ku hp hpk
  rw[VC] at w
  exact cP w λx w1 w2=>cT w2 λw2 Y=>⟨x,w1,by rw[hpk];exact w2⟩
 have hN:∀k,k<e.pre.length->¬c.N (μ k):=λk hk q=>by
  refine e12 (hat k hk) λx w1 w2=>?_
  refine e12 (I.ns (μ k) q) λo z1 z2=>?_
  exact tf (z2.symm.trans (U7 (w1.symm.trans z1)▸rS w2))
 have R0:uO g c (c.low e.pre.length μ) C.toks μ (λk=>k):=K.ren (λY Y q=>q) λk hk=>⟨WJ λq=>absurd (hm.ge k q▸hk) (Wr _),rfl⟩
 have Rl:uO g (c.low e.pre.length μ) (c.low e.pre.length μ) C.toks (λk=>k) (λk=>k):=K.ren (λY Y q=>q) λk hk=>⟨hk,rfl⟩
 have hrl:=fS hp2
 rw[show(jw (λk=>k) e.pre).length=e.pre.length from Vs ..] at hrl
 have I0:cV (g.ins C M dl ul c e.pre.length μ s.heap) (c.low e.pre.length μ) (eN H.nil (jw (λk=>k) rp)) s:=by
  refine I.lows hm.lt hm.inj hN (jy.trans ((VC _).trans ((Vs ..).trans hrl))) (λk o q=>?_) λa q=>⟨(hM a q).2.1,(congrArg c.ρ (hM a q).2.2).trans (I.m0 a (hM a q).1).2⟩
  rw[uv,show(jw (λk=>k) rp)[k]? =(rp[k]?).map (sw λk=>k) from Xb ..] at q
  refine e12 (Option.map_eq_some_iff.mp q) λz hz hzo=>?_
  refine e12 (Hs hp2 hz) λy y1 y2=>?_
  rw[show(jw (λk=>k) e.pre)[k]? =(e.pre[k]?).map (sw λk=>k) from Xb ..] at y1
  refine e12 (Option.map_eq_some_iff.mp y1) λp p1 py=>?_
  have hk:k<e.pre.length:=WJ λw=>nn ((V6 w).symm.trans p1)
  refine e12 (hat k hk) λx w1 w2=>?_
  rw[p1] at w2
  exact⟨hk,hzo▸jv Rl y2 (py▸jv R0 w2 (I.obj _ x w1).2)⟩
 have hv0:da (g.ins C M dl ul c e.pre.length μ s.heap) (c.low e.pre.length μ) (ju (λk=>k) ra) vs:=by
  rw[Hn]
  exact rR Rl ha2 (rR R0 ha hv)
 have oa0:dy (g.ins C M dl ul c e.pre.length μ s.heap) (c.low e.pre.length μ) n A:=⟨hq,hd,hu,hl,let⟨l,h1,h2⟩:=oa.fr;⟨l,h1,FL.ins I h2⟩⟩
 refine cO (hr oa0 I0 hv0) (λv s' q=>q.elim λa c' h' ex I' hva hK=>?_) λx s' q=>?_
 .rw[pg] at hva
  refine e23 (Hw hK hva) λa o hva ho hf=>?_
  refine fJ hf (λY Y h=>ft h) λhex hf=>iV hf λf1 f2 f3=>?_
  refine e03 (pj I hm hN hp K I' ex ho f1 f2) λJ hlen R=>?_
  refine⟨o,ho,hex,eK f3 (λf3=>cT f3 λhobs f3=>⟨c.back c',.back ex,?_,pf R f3 hva⟩) λf3=>cP f3 λob hobs f3=>cP f3 λr Y f3=>iV f3 λg1 g2 g3=>cP g2 λx hx g2=>?_⟩
  .refine(?_:cV g _ (eN _ (jw μ o.objs)) s')
   rw[fN hobs]
   exact J
  .refine e02 (I'.obj r x hx) λhr hx2=>?_
   rw[rU] at hx2
   have I2:=I.newOb I' ex J hr (eP g1) (jv R g2 hx2)
   have R2:uO g c' ((c.back c').add (c'.ρ r) (c'.δ r) false) C.toks (fo e.pre.length r) μ:=K.ren (λY Y q=>q) λk hk=>by
    by_cases q:k<e.pre.length
    .rw[Eg q]
     have w1:=hm.lt k q
     exact⟨VN w1,((dz.add (c.back c') (c'.ρ r) (c'.δ r) false).ρ (μ k) w1).trans (ex.ρ k q).symm⟩
    .rw[Eh (WK q),hm.ge k (WK q)]
     exact⟨VH _,if_pos rfl⟩
   refine⟨_,(dz.back ex).trans (dz.add _ _ _ _),?_,pf R2 g3 hva⟩
   refine(?_:cV g _ (eN _ (jw μ o.objs)) s')
   rw[jA hobs]
   exact I2
 .obtain⟨k,c',h',ex,I',hexc,hxe,fl,hK⟩:=q
  refine e21 hexc λci mm hexc=>?_
  refine iG hK λo ho hf=>cP hf λp hex hf=>F5 hf λhobs f1 f2 f3 f4=>?_
  rw[hexc] at f4
  refine e03 (pj I hm hN hp K I' ex ho f1 f2) λJ hlen R=>?_
  refine e02 (I'.obj k _ hexc) λhr hx2=>?_
  rw[rU] at hx2
  have I2:=I.newOb I' ex J hr (eP f3) (jv R (show AU C.toks (fo e.pre.length h'.length) (.exc ci mm false) (.exc p.1 p.2 false)=true from f4) hx2)
  have happ:sL h (jx μ o)=iz h (li μ o.ups):=by
   refine(?_:eN _ (jw μ o.objs)=_)
   rw[fN hobs]
   rfl
  have hlast:((c.back c').add (c'.ρ k) (c'.δ k) false).ρ (sL h (jx μ o)).length=c'.ρ k:=by
   rw[happ,hlen,show h.length=(c.back c').n from I.len.symm]
   exact if_pos rfl
  exact⟨o,ho,p.1,p.2,hex,(c.back c').add (c'.ρ k) (c'.δ k) false,(dz.back ex).trans (dz.add _ _ _ _),happ▸I2,hxe.trans (congrArg Value.ref hlast.symm),by
   rw[hlast]
   exact vA.back I ex hr fl⟩
theorem Ei{ra:List V}{rp:List O}{n i:Nat}{μ:Nat->Nat}{args:List V}{vs:List Value}(F:ij (g.ins C M dl ul c e.pre.length μ s.heap))(Fh:ij (g.ins C M dl ul c e.pre.length μ s.heap).hush)
  (K:gG g C) (hM:∀a,M=some a->g.M0=some a/\0<e.pre.length/\μ 0=0)
  (hq:C.quiet=false->A.handled=none) (hd:A.depth+n≤dl) (hu:A.units+16 * n+64≤ul) (hl:dl≤990/\ul≤cLine)
  (oa:dy g c 1 A) (I:cV g c h s) (hv:da g c args vs) (hm:Mu c e.pre.length μ) (ha:qc C.toks μ args e.args=true) (hp:uq C.toks μ e.outs h e.pre 0=true) (hr:rV C n i e ra rp=true):
  cQ g.M A (call (.ref (g.fa i)) vs) (Ht g c h e μ) (Hu g c A h e μ) s:=
 iV hr λha2 hp2 hr=>rX K hM hq hd hu hl oa I hv hm ha hp ha2 hp2 λoa0 I0 hv0=>(jt F Fh n).self.cl oa0 I0 (show VR _ _ (.fn i) (.ref (g.fa i)) from rfl) hv0 hr
end
def RQ(g:Gb)(i:Nat)(e:dw):Prop:=∀{A:Around} {c:Cf} {h:H} {s:Shared} {args:List V} {vs:List Value},dy g c 1 A->A.handled=none->cV g c h s->da g c args vs->
 ut g.C.toks args h e (mH args h.length e.src)=true->cQ g.M A (call (.ref (g.fa i)) vs) (Ht g c h e (mW (mH args h.length e.src) h.length)) (Hu g c A h e (mW (mH args h.length e.src) h.length)) s
theorem Ej{T:Nat->List V}{args:List V}{h:H}{outs:List dV}{es:List dw}(q:Ee T args h es=some outs):∃e,e∈es/\ut T args h e (mH args h.length e.src)=true/\outs=wF (mW (mH args h.length e.src) h.length) e.outs:=by
 induction es with
 |nil=>exact nn q
 |cons e es ih=>
  have q:(Bool.rec (Ee T args h es) (some (wF (mW (mH args h.length e.src) h.length) e.outs)) (ut T args h e (mH args h.length e.src)):Option (List dV))=some outs:=q
  cases hc:ut T args h e (mH args h.length e.src) with
  |true=>
   rw[hc] at q
   exact⟨e,Vc,hc,si q⟩
  |false=>
   rw[hc] at q
   refine e12 (ih q) λe' h1 h2=>?_
   exact⟨e',Vd _ h1,h2⟩
theorem yD{g:Gb}{t:Nat->Nat->List dw}(hP:g.C.P=pi g.C.toks t)(ht:∀{i k e},e∈t i k->RQ g i e):qb g:=λ{n A i args vs c h s outs K X} oa I hv hq hP' hk=>by
 rw[hP] at hP'
 refine e13 (Ej hP') λe he h1 ho=>?_
 subst ho
 have go:∀{o},o∈e.outs->xu (jx (mW (mH args h.length e.src) h.length) o) (sL h (jx (mW (mH args h.length e.src) h.length) o)) K X=true:=λho=>by
  have:=c9 hk (Wu ho)
  exact this
 refine cO (ht he (oa.less (Nat.le_add_left ..)) (oa.hh hq) I hv h1) (λv s' q=>?_) λx s' q=>?_
 .obtain⟨o,ho,hex,c',ex,I',hv'⟩:=q
  have w:=go ho
  unfold xu at w
  rw[show(jx (mW (mH args h.length e.src) h.length) o).ex=dp o.ex _ from rfl,hex] at w
  exact⟨_,c',_,ex,I',hv',w⟩
 .obtain⟨o,ho,ci,mm,hex,c',ex,I',hx,fl⟩:=q
  have w:=go ho
  unfold xu at w
  rw[show(jx (mW (mH args h.length e.src) h.length) o).ex=dp o.ex _ from rfl,hex] at w
  exact⟨_,c',_,ex,I',⟨ci,Ax (mW (mH args h.length e.src) h.length) mm,(H.get_push ..).trans (if_pos rfl)⟩,hx,fl,w⟩
def ff{α:Type}(P:Nat->α->Prop)(t:BT α):Prop:=BT.rec True (λY k v Y a b=>a/\P k v/\b) t
theorem ff.get{α:Type}{P:Nat->α->Prop}{t:BT α}{k:Nat}{v:α}:ff P t->t.get k=some v->P k v:=by
 induction t with
 |nil=>exact λY e=>nn e
 |node l k' v' r il ir=>
  intro h e
  have e:(Bool.rec (Bool.rec (r.get k) (l.get k) (Vk (VE k) k')) (some v') (U9 k k'):Option α)=some v:=e
  cases q:U9 k k' with
  |true=>
   rw[q] at e
   exact cX q▸si e▸h.2.1
  |false=>
   rw[q] at e
   cases q2:Vk (VE k) k' with
   |true=>rw[q2] at e;exact il h.1 e
   |false=>rw[q2] at e;exact ir h.2.2 e
theorem ef{α:Type}{f:Nat->α->Bool}{t:BT α}(h:j6 f t=true){k:Nat}{v:α}(e:t.get k=some v):f k v=true:=by
 have q:ff (λk v=>f k v=true) t:=by
  clear e
  induction t with
  |nil=>trivial
  |node l k' v' r il ir=>exact iV h λh1 h2 h3=>⟨il h1,h2,ir h3⟩
 exact q.get e
theorem fy{t:String}{v:Value}(h:pH t v=true):v=.type t:=by
 cases v with
 |type s=>exact congrArg Value.type (of_decide_eq_true h)
 |_=>exact ft h
theorem fA{a:Addr}{v:Value}(h:nL a v=true):v=.ref a:=by
 cases v with
 |ref b=>exact congrArg Value.ref (cX h)
 |_=>exact ft h
theorem rY{v:Value}{a:Addr}(h:FM v=some a):v=.ref a:=by
 cases v with
 |ref b=>exact congrArg Value.ref (U7 h)
 |_=>exact nn h
theorem rZ{v:Value}{x:Str}(h:yZ v=some x):∃t,v=.str x t:=by
 cases v with
 |str y t=>exact⟨t,congrArg (Value.str · t) (U7 h)⟩
 |_=>exact nn h
theorem r4{o:Obj}{x:FuncData}(h:RB o=some x):o.data=.func x:=by
 cases o with
 |mk c d a s=>cases a with
  |func f=>exact congrArg Data.func (U7 h)
  |_=>exact nn h
theorem r5{o:Obj}{x:Array Value}(h:Se o=some x):o.data=.fields x:=by
 cases o with
 |mk c d a s=>cases a with
  |fields f=>exact congrArg Data.fields (U7 h)
  |_=>exact nn h
theorem Ly{o:Obj}{x:Array Value}(h:TS o=some x):∃n,o.data=.seq x n:=by
 cases o with
 |mk c d a s=>cases a with
  |seq f n=>exact⟨n,congrArg (Data.seq · n) (U7 h)⟩
  |_=>exact nn h
theorem Lz{o:Obj}{x:ClassData}(h:TU o=some x):o.data=.cls x:=by
 cases o with
 |mk c d a s=>cases a with
  |cls f=>exact congrArg Data.cls (U7 h)
  |_=>exact nn h
theorem Ek{x:Str}(h:cd x≠0)(e:FN (cd x)=true):x=JV (cd x):=en h (cX e).symm
section
variable(h:Addr->Option Obj)
end
section
variable{g:Gb}{hp:Heap}{ad:Nat->Nat}
theorem ux{C:Prop}{v:Value}{l:List Value}(e:BV hp.get? v=some l)(f:∀t o n vs,v=.ref t->hp.get? t=some o->o.cls=.type "tuple"->o.data=.seq vs n->vs.toList=l->C):C:=
 cW e λt e1 e=>cW e λo e2 e=>cW e λxs e3 e=>dJ e λe4 e=>(Ly e3).elim λn h=>f t o n xs (rY e1) e2 (fy e4) h (U7 e)
theorem qE{v:Value}{q:Str}(e:BU hp.get? v q=true):hp.CodeRec v q:=
 cP e λc e1 e=>cP e λo e2 e=>cP e λvs e3 e=>cP e λq' e4 e=>cW e4 λw e5 e6=>(rZ e6).elim λt e7=>⟨c,o,vs,t,rY e1,e2,r5 e3,by rw[e5,e7,of_decide_eq_true e]⟩
structure Ba(g:Gb)(hp:Heap)(ad:Nat->Nat):Prop where
 B:∀a o,hp.get? a=some o->a≠g.P->g.B.get? a=some o
 P:hp.get? g.P=some (tabObj #[])
 T:∀t o n vs,hp.get? t=some o->o.cls=.type "tuple"->o.data=.seq vs n->g.T0 t vs.toList
 f:∀i,g.fa i=ad i
 c:∀i,g.ca i=ad i
theorem Ba.at(b:Ba g hp ad){a:Addr}{o:Obj}(h:hp.get? a=some o)(n:o.data≠.fields #[]):g.B.get? a=some o:=b.B a o h λe=>by
 rw[e,b.P] at h
 exact n (U7 h▸rfl)
theorem yE(b:Ba g hp ad){n:Nat}:∀{a:V} {v:Value},BW hp.get? ad n a v=true->VR g (cz g) a v:=by
 induction n with
 |zero=>exact λe=>ft e
 |succ n ih=>
  exact λ{a v} e=>UE e (λe=>cT e λh1 h2=>by
   cases ia h1
   cases v with
   |none=>rfl
   |_=>exact ft h2) (λe=>cP e λx h1 e=>cP e λy h2 e=>by
   cases jB h1
   cases v with
   |bool z=>exact congrArg Value.bool ((U7 h2).trans (eq_of_beq e).symm)
   |_=>exact nn h2) (λe=>cP e λx h1 e=>cP e λy h2 e=>cW h1 λz h3 h4=>by
   cases eA h3;cases d9 _ _ h4
   cases v with
   |int m t=>exact⟨m,t,rfl,(U7 h2).trans (of_decide_eq_true e)⟩
   |_=>exact nn h2) (λe=>cP e λx h1 e=>cP e λy h2 e=>iV e λh3 h4 h5=>by
   cases gy h1
   refine e11 (rZ h2) λt zq15=>?_
   cases zq15
   exact⟨_,t,rfl,cX h3,ej (dO h4),eP h5⟩) (λe=>cP e λl h1 e=>cP e λvs h2 e9=>ux h2 λt o m ws q1 q2 q3 q4 q5=>by
   cases eB h1
   refine⟨t,vs,q1,q5▸b.T t o m ws q2 q3 q4,?_⟩
   clear h1 h2 q5
   exact dH (P:=λl vs=>da g (cz g) l vs) e9 da.nil λx r y r' h ih2=>da.cons (ih h) ih2) (λe=>cP e λi h1 e8=>fK h1 (λh1=>by
   cases a with
   |fn j=>exact(show v=.ref (ad i) from fA e8).trans (congrArg Value.ref (((b.f j).trans (congrArg ad (U7 h1))).symm))
   |_=>exact nn h1) λh1=>by
   cases a with
   |cls j=>exact(show v=.ref (ad i) from fA e8).trans (congrArg Value.ref (((b.c j).trans (congrArg ad (U7 h1))).symm))
   |_=>exact nn h1) (λe=>cP e λl h1 e=>cP e λbs h2 e9=>by
   cases d6 h1
   cases v with
   |bytes x t=>
    have h2:x.toList=bs:=U7 h2
    subst h2
    exact⟨x,t,rfl,dH (P:=λl bs=>BR g.σ l bs) e9 rfl λy r z r' h ih2=>cP h λn e1 h=>⟨z,r',rfl,d9 _ _ e1▸(show dN g.σ (.c n) (z.toNat:Int) from of_decide_eq_true (p:=(z.toNat:Int)=n) h),ih2⟩⟩
   |_=>exact nn h2)
end
theorem Hx{s:Stmt}{p:Arguments×List Stmt×Scope}{d:List V}(h:y5 s=some p):pG s d=⟨je p.1.args,d,p.2.1,dG p.2.2.names,vm p.2.1⟩:=by
 cases s with
 |FunctionDef=>cases (U7 h);rfl
 |_=>exact nn h
section
variable(h:Addr->Option Obj)(ad:Nat->Nat)(lc:Addr)(lq:Str)
end
theorem El{l:List Str}:ID l=true->l.Nodup:=by
 induction l with
 |nil=>exact λY=>WV
 |cons x r ih=>exact λh=>cT h λh1 h2=>List.nodup_cons.mpr ⟨λq=>tf ((List.contains_iff_mem.mpr q).symm.trans (dO h1)),ih h2⟩
theorem pk{sc:Scope}{n:Str}(h:m9 sc n=true):sc.names.lookup n≠some .free:=λq=>by
 unfold m9 at h
 rw[q] at h
 exact ft h
theorem AC{a:Arguments}(h:BY a=true):a=⟨[],a.args,none,[],[],none,a.defaults⟩:=
 F5 h λh1 h2 h3 h4 h5=>by
  cases a with
  |mk p ar v k kd kw d=>
   cases (show p=[] from List.isEmpty_iff.mp h1)
   cases (show v=none from Option.isNone_iff_eq_none.mp h2)
   cases (show k=[] from List.isEmpty_iff.mp h3)
   cases (show kd=[] from List.isEmpty_iff.mp h4)
   cases (show kw=none from Option.isNone_iff_eq_none.mp h5)
   rfl
theorem Em{b:FuncBody}{l:List Stmt}(h:IB b=some l):b=.stmts l:=by
 cases b with
 |stmts x=>exact congrArg FuncBody.stmts (U7 h)
 |_=>exact nn h
theorem argNames_eq:∀l:List Arg,je l=(l.map (·.arg)).map cd
 |[]=>rfl
 |⟨_,_,_⟩::l=>congrArg (_::·) (argNames_eq l)
theorem Hy{C:Prop}{ps:List Nat}{dfl args full:List V}(h:fu ps dfl args=some full)(f:args.length≤ps.length->ps.length≤args.length+dfl.length->full=args++dfl.drop (args.length+dfl.length - ps.length)->C):C:=by
 unfold fu at h
 cases q1:Vk args.length ps.length with
 |false=>rw[q1] at h;exact nn h
 |true=>
  cases q2:Vk ps.length (args.length+dfl.length) with
  |false=>rw[q1,q2] at h;exact nn h
  |true=>rw[q1,q2] at h;exact f (eP q1) (eP q2) (U7 h).symm
section
variable{g:Gb}{hp:Heap}{ad:Nat->Nat}
theorem En(b:Ba g hp ad){l:List V}{v:Value}(h:IC hp.get? ad l v=true):∃dl,da g (cz g) l dl/\((v=.none/\dl=[])\/∃t o n items,v=.ref t/\g.B.get? t=some o/\o.data=.seq items n/\items.toList=dl):=by
 cases l with
 |nil=>
  cases v with
  |none=>exact⟨[],da.nil,.inl ⟨rfl,rfl⟩⟩
  |_=>exact ft h
 |cons a r=>
  have h:BW hp.get? ad 5 (.tup (a::r)) v=true:=h
  refine eK (show dj (cR (BV hp.get? v) λws=>fm (BW hp.get? ad 4) (a::r) ws) false=true from h) (λh=>cP h λws q h8=>ux q λt' o n xs q1 q2 q3 q4 q5=>?_) λh=>ft h
  exact⟨ws,dH (P:=λl vs=>da g (cz g) l vs) h8 da.nil λx r y r' h ih2=>da.cons (yE b h) ih2,.inr ⟨t',o,n,xs,q1,b.at q2 (by rw[q4];exact nofun),q4,q5⟩⟩
theorem LA{α:Type}{a n:Nat}{dl:List α}(h1:a≤n)(h2:n≤a+dl.length):n=a+(dl.drop (a+dl.length - n)).length:=by
 rw[VS]
 exact DB h1 h2
theorem Hz(b:Ba g hp ad)(hlq:∀q:Str,(q++vn)++BS=g.lq->(q++".<locals>.")++"<lambda>"=g.lq){x:jQ}(hob:vp hp.get? ad g.lc g.lq x=BX x)(st:Nq x=true):∃fd o,NG g x.1 (pG (gN x.1) x.2) fd o:=
 cP st λp hp' st=>MF st λs1 s2 s3 k1 k2 k3 st=>iV st λk4 k5 k6=>by
  rw[Hx hp']
  have hob:vp hp.get? ad g.lc g.lq x=some (true,p.1,.stmts p.2.1,p.2.2):=hob.trans (show dp (y5 (gN x.1)) _=_ by rw[hp'];rfl)
  refine cW hob λo ho hob=>cW hob λfd hd hob=>?_
  have hob:=U7 hob
  have b1:Sh hp.get? ad g.lc g.lq x.2 o fd=true:=congrArg Wy hob
  have b2:fd.params=p.1:=congrArg (λz=>z.2.1) hob
  have b3:fd.body=.stmts p.2.1:=congrArg (λz=>z.2.2.1) hob
  have b4:fd.scope=p.2.2:=congrArg (λz=>z.2.2.2) hob
  refine MF b1 λt1 t2 t3 t4 t5 t6 t7=>?_
  have ed:=r4 hd
  refine e12 (En b t2) λdl d1 d2=>?_
  refine e44 (qE t3) λcc oc vs t e1 e2 e3 e4=>?_
  refine⟨fd,o,by rw[b.f];exact b.at ho (by rw[ed];exact nofun),fy t1,ed,b3,by rw[b4],?_,by rw[b4];exact dO k2,by rw[b4];exact dO k3,cX t4,List.isEmpty_iff.mp t5,cX t6,⟨cc,oc,vs,t,e1,b.at e2 λq=>?_,e3,e4⟩,?_,λq=>?_,?_,?_,λ{c h s args full ws} I hv hfull=>?_⟩
  .rw[b4]
   cases q:p.2.2.kind with
   |function=>rfl
   |_=>rw[q] at k1;exact ft k1
  .rw[e3] at q
   cases W2 q
   exact nn e4
  .rw[b4];exact pk k4
  .refine cP t7 λbd q1 t7=>?_
   cases FuncBody.stmts.inj ((Em q1).symm.trans b3)
   exact eK t7 (λw=>absurd q (by rw[dO w];exact Ve)) λw=>cT w λw1 w2=>⟨fA w2,hlq _ (of_decide_eq_true w1)⟩
  .rw[b4];exact Option.isNone_iff_eq_none.mp k5
  .rw[b4];exact pk k6
  .refine Hy hfull λf1 f2 f3=>?_
   have hl:(je p.1.args).length=p.1.args.length:=by rw[argNames_eq,Vs,Vs]
   have f1:args.length≤p.1.args.length:=hl▸f1
   have f2:p.1.args.length≤args.length+x.2.length:=hl▸f2
   have hvl:=hv.length
   have xr:=d1.length
   have g1:ws.length≤p.1.args.length:=hvl▸f1
   have g2:p.1.args.length≤ws.length+dl.length:=hvl▸xr▸f2
   have g3:(p.1.args.map (·.arg)).length=(ws++dl.drop (ws.length+dl.length - p.1.args.length)).length:=by rw[Vs,Vw];exact LA g1 g2
   refine⟨(p.1.args.map (·.arg)).zip (ws++dl.drop (ws.length+dl.length - p.1.args.length)),iP (de:=p.1.defaults) (b2.trans (AC s1)) ?_ (El s2) g1 g2 (xr▸eP s3),?_,?_⟩
   .exact d2.imp id λ⟨t,o',n,items,e1,e2,e3,e4⟩=>⟨t,o',n,items,e1,I.base _ _ e2,e3,e4⟩
   .refine(?_:List.map (cd∘Wy) _=_)
    rw[<-WO,List.map_fst_zip]
    .exact(argNames_eq _).symm
    .exact Vg g3
   .rw[List.map_snd_zip]
    .rw[f3,hl,hvl,xr]
     exact hv.append ((d1.drop _).ext I.cz)
    .exact Vg g3.symm
end
theorem yF{t:String}{v:Value}(h:JX t v=true):v=.builtin t:=by
 cases v with
 |builtin s=>exact congrArg Value.builtin (of_decide_eq_true h)
 |_=>exact ft h
theorem AD{v w:Value}(h:BZ v w=true):v=w:=
 eK h (λh=>cP h λs e h=>(fy h).trans (by
  cases w with
  |type s=>exact congrArg Value.type (U7 e).symm
  |_=>exact nn e)) λh=>cP h λs e h=>(yF h).trans (by
  cases w with
  |builtin s=>exact congrArg Value.builtin (U7 e).symm
  |_=>exact nn e)
section
variable(h:Heap)(ad:Nat->Nat)
end
section
variable{g:Gb}{hp:Heap}{ad:Nat->Nat}
theorem Ba.ns(b:Ba g hp ad){a:Addr}(h:hp.isNs a=true):g.B.Ns a (hp.nsMap a):=by
 refine e33 (Heap.Ns.of_isNs h) λo es ep h1 h2 r=>?_
 exact⟨o,es,ep,b.at h1 (by rw[h2];exact nofun),h2,r⟩
theorem HA{x:Str}(hx:cd x≠0){l:List DictEntry}:B0 (cd x) l=(l.find? λe=>e.key.isStr x).map (·.val):=by
 induction l with
 |nil=>rfl
 |cons e l ih=>
  rw[List.find?_cons]
  refine(?_:dq (yZ e.key) (B0 (cd x) l) (λs=>db (U9 (cd s) (cd x)) (some e.val) (B0 (cd x) l))=_)
  rw[ih]
  obtain⟨hs,k,v⟩:=e
  cases k with
  |str s t=>
   refine(?_:db (U9 (cd s) (cd x)) (some v) _=_)
   cases q:U9 (cd s) (cd x) with
   |true=>
    have e:x=s:=en hx (cX q).symm
    subst e
    rw[show(Value.str x t).isStr x=true from beq_self_eq_true x]
    rfl
   |false=>
    rw[show(Value.str s t).isStr x=false from beq_eq_false_iff_ne.mpr λe=>by rw[e,VD] at q;exact tf q]
    rfl
  |_=>rfl
theorem r6{a:Addr}{x:Str}(hx:cd x≠0):JY hp a (cd x)=hp.nsMap a x:=by
 unfold JY Heap.nsMap
 cases hp.get? a with
 |none=>rfl
 |some o=>
  obtain⟨c,d,a,s⟩:=o
  cases a with
  |dict es ep=>
   refine(?_:B0 (cd x) es.toList=nsFind es x)
   rw[HA hx]
   unfold nsFind findBy
   rw[<-Array.find?_toList]
  |_=>rfl
theorem GF.of(b:Ba g hp ad)(hG:g.C.G=GT)(h:tG hp ad=true):GF g:=
 iV h λh1 h2 h3=>⟨_,_,b.ns h1,b.ns h2,λx a hx e=>by
  rw[hG] at e
  have q2:=ef h3 e
  unfold Nr at q2
  rw[r6 hx,r6 hx] at q2
  exact fJ q2 (λn e q2=>cT q2 λw1 w2=>cP w2 λv w3 w4=>.inl ⟨n,by
   cases a with
   |bi k=>exact congrArg V.bi (U7 e)
   |_=>exact nn e,Option.isNone_iff_eq_none.mp w1,by rw[w3,AD w4]⟩) λY q2=>cP q2 λv w1 w2=>.inr ⟨v,w1,yE b w2⟩⟩
inductive UJ(g:Gb)(hp:Heap)(a:Addr)(id:String)(c:ClassData):Prop
 |mk (x:XD) (o:g.B.get? a=some (excClassObj x.nm x.q a x.N x.bs x.mro true x.sn x.sub x.ab x.col x.dd x.k0 x.k1 x.k2 x.k3 x.k5 id)) (n:x.N=c.ns) (m:x.mro=c.mro.tail) (b:x.ab=c.abstract) (i:x.newId=id)
theorem qF{α:Type}{l:List α}{n:Nat}(h:l.length=n+1):∃a r,l=a::r/\r.length=n:=by
 cases l with
 |nil=>exact absurd h (VU n).symm
 |cons a r=>exact⟨a,r,rfl,Wq h⟩
theorem UK{α:Type}{l:List α}{y:α}(h:l.length=6)(e:fC l 4=some y):∃a b c d f,l=[a,b,c,d,y,f]:=by
 obtain⟨a,l1,e1,h⟩:=qF h
 obtain⟨b,l2,e2,h⟩:=qF h
 obtain⟨c,l3,e3,h⟩:=qF h
 obtain⟨d,l4,e4,h⟩:=qF h
 obtain⟨z,l5,e5,h⟩:=qF h
 obtain⟨f,l6,e6,h⟩:=qF h
 rw[V1 h] at e6
 rw[e6] at e5
 rw[e5] at e4
 rw[e4] at e3
 rw[e3] at e2
 rw[e2] at e1
 rw[e1] at e
 exact⟨a,b,c,d,f,by rw[e1,show z=y from U7 e]⟩
theorem wH(b:Ba g hp ad){a:Addr}{id:String}{c:ClassData}(h:Nt hp a id=some c):UJ g hp a id c:=
 cW h λo e1 h=>cW h λc' e2 h=>dJ h λt1 h=>dJ h λt2 h=>dJ h λt3 h=>dJ h λt4 h=>dJ h λt5 h=>cT t5 λt5 t6=>cP t6 λv t6 t7=>cW t6 λw t6 t8=>cP t2 λp t2 t9=>by
  cases U7 h
  have t8:w=some v:=t8
  refine e51 (UK (cX t5) t6) λk0 k1 k2 k3 k5 hs=>?_
  have hd:=Lz e2
  have hc:=fy t1
  have hm:c.mro=Value.ref a::c.mro.tail:=by
   cases q:c.mro with
   |nil=>rw[q] at t2;exact nn t2
   |cons y r=>rw[q] at t2;rw[<-fA t9,show p.1=y from congrArg Wy (U7 t2).symm];rfl
  refine⟨⟨c.name,c.qualname,c.ns,c.bases,c.mro.tail,true,c.slotNames,c.subclasses,c.abstract,c.collection,o.dict,k0,k1,k2,k3,k5,id⟩,(b.at e1 (by rw[hd];exact nofun)).trans (congrArg some ?_),rfl,rfl,rfl,rfl⟩
  obtain⟨oc,od,oa,os⟩:=o
  obtain⟨n1,n2,n3,n4,n5,n6,n7,n8,n9,n10,n11⟩:=c
  cases (show oc=_ from hc)
  cases (show oa=_ from hd)
  cases (show n6=true from t4)
  cases (show n11=false from dO t3)
  rw[t8,yF t7] at hs
  cases (show os=#[k0,k1,k2,k3,some (.builtin id),k5] from W3 hs)
  exact congrArg (λm=>(⟨.type "type",od,.cls ⟨n1,n2,m,n4,n5,true,n7,n8,n9,n10,false⟩,#[k0,k1,k2,k3,some (.builtin id),k5]⟩:Obj)) hm
end
section
variable{g:Gb}{hp:Heap}{ad:Nat->Nat}
theorem pm{x:Nat}{l:List Nat}(h:nF x l=true):x∈l:=by
 induction l with
 |nil=>exact ft h
 |cons y r ih=>exact eK h (λh=>cX h▸Vc) λh=>Vd _ (ih h)
theorem Eo{α:Type}{x:Nat}{v:α}{l:List (Nat×α)}(h:eJ l x=some v):(x,v)∈l:=by
 induction l with
 |nil=>exact nn h
 |cons p r ih=>
  have h:(Bool.rec (eJ r x) (some p.2) (U9 p.1 x):Option α)=some v:=h
  cases q:U9 p.1 x with
  |true=>
   rw[q] at h
   exact(show p=(x,v) from Prod.ext (cX q) (U7 h))▸Vc
  |false=>
   rw[q] at h
   exact Vd _ (ih h)
theorem uy{x:Str}(h:B1 x=true):typeLookup (.type "object") x=pure none:=by
 rw[typeLookup_type,builtinLookup_eq_fast]
 unfold B1 at h
 cases q:fastLookup "object" x with
 |none=>rw[q] at h;exact ft h
 |some y=>
  cases y with
  |none=>rfl
  |some z=>rw[q] at h;exact ft h
theorem r7{x:Str}(h:(fastLookup "object" x).isSome=true):∃y,typeLookup (.type "object") x=pure y:=by
 rw[typeLookup_type,builtinLookup_eq_fast]
 cases q:fastLookup "object" x with
 |none=>rw[q] at h;exact ft h
 |some y=>exact⟨y,rfl⟩
theorem uz{l:List String}{vs:List Value}(h:B2 l vs=true):vs=l.map Value.type:=dH (P:=λl vs=>vs=l.map Value.type) h rfl λx r y r' h ih=>by rw[fy h,ih];rfl
theorem yG{C:Prop}(b:Ba g hp ad){a:Addr}(h:JZ hp a=true)(f:∀o fd,g.B.get? a=some o->o.cls=.type "function"->o.data=.func fd->C):C:=
 re λY bk=>cP h λo h1 h=>cT h λh2 h3=>bk<|by
  cases q:RB o with
  |none=>rw[q] at h3;exact ft h3
  |some fd=>exact f o fd (b.at h1 (by rw[r4 q];exact nofun)) (fy h2) (r4 q)
theorem LB:j6 (λY inf=>dj inf.exc (tO inf)) CT=true:=by kernel_rfl
theorem CF.of(b:Ba g hp ad)(hC:g.C.C=CT)(h:j6 (λci inf=>dj inf.exc (tC hp ad ci inf)) CT=true):CF g:=⟨λ{ci inf} e he=>by
 rw[hC] at e
 refine eK (ef LB e) (λq=>by rw[he] at q;exact ft q) λq0=>cT q0 λoa om=>eK (ef h e) (λq=>by rw[he] at q;exact ft q) λq=>re λY bk=>cP q λc h1 q=>MF q λh2 h3 h4 h5 h6 h7 q=>cT q λh8 h9=>iV h5 λn1 n2 n3=>bk ?_
 obtain⟨x,w1,w2,w3,w4,w5⟩:=wH b h1
 refine cP h6 λv v1 v2=>yG b h7 λo fd o1 o2 o3=>⟨x,hp.nsMap c.ns,?_,by rw[w2];exact b.ns h4,Option.isNone_iff_eq_none.mp n2,Option.isNone_iff_eq_none.mp n3,Option.isNone_iff_eq_none.mp n1,⟨by rw[v1,fA v2,b.f],o,by rw[b.f];exact o1,o2⟩,w5▸PySem.F.objNew,λy hy h0=>?_,λy f hy h0=>?_⟩
 .rw[b.c,w1,w3,w4,uz h2,dO h3,w5]
  rfl
 .refine kG hy λY hy=>?_
  have q:=c9 h8 (pm hy)
  rw[r6 h0] at q
  have w:=c9 oa (pm hy)
  refine cT w λq1 q3=>⟨Option.isNone_iff_eq_none.mp q,?_⟩
  rw[Ek h0 q1]
  exact uy q3
 .have q:=c9 h9 (Eo hy)
  have w:=c9 om (Eo hy)
  refine re λY bk=>cT w λq1 q3=>cT q λq2 q4=>cP q2 λv v1 v2=>yG b q4 λo fd o1 o2 o3=>bk ?_
  rw[r6 h0] at v1
  rw[b.f]
  exact⟨by rw[v1,fA v2],by rw[Ek h0 q1];exact r7 q3,o,fd,o1,o2,o3⟩⟩
end
section
variable(h:Heap)(ad:Nat->Nat)
end
section
variable{g:Gb}{hp:Heap}{ad:Nat->Nat}
theorem uA{m:Str->Option Value}(h:B3 m=true):v0 m:=F5 h λh1 h2 h3 h4 h5=>⟨Option.isNone_iff_eq_none.mp h1,Option.isNone_iff_eq_none.mp h2,Option.isNone_iff_eq_none.mp h3,Option.isNone_iff_eq_none.mp h4,Option.isNone_iff_eq_none.mp h5⟩
theorem po{rs:List Addr}{ts:List String}{vs:List Value}(h:iC rs ts vs=true):vs=rs.map Value.ref++ts.map Value.type:=cT h λh1 h2=>by
 have q:∀{rs:List Addr} {vs:List Value},fm nL rs vs=true->vs=rs.map Value.ref:=λh=>dH (P:=λrs vs=>vs=rs.map Value.ref) h rfl λx r y r' h ih=>by rw[fA h,ih];rfl
 rw[<-q h1,<-uz h2,VX]
theorem Ep(b:Ba g hp ad){a:Addr}{c:ClassData}{rs:List Addr}(h:Nt hp a "Exception.__new__"=some c)(hm:iC rs MD c.mro.tail=true)(hn:hp.isNs c.ns=true):mB g.B a (rs.map Value.ref++eb) (hp.nsMap c.ns):=by
 obtain⟨x,w1,w2,w3,w4,w5⟩:=wH b h
 exact⟨x,by rw[w1,w3,po hm];rfl,by rw[w2];exact b.ns hn⟩
theorem LF.of(b:Ba g hp ad)(h1:Nu hp g.lc g.P=true)(h2:TV hp g.P=true)(h3:hp.isNs mainGlobals=true)(h4:mainGlobals≠g.P):LF g:=
 ⟨re λY bk=>cP h1 λo e1 h=>cP h λvs e2 h=>MF h λt1 t2 t3 t4 t5 t6 t7=>cP t2 λv v1 v2=>bk<|by
  have hv:=fA v2
  subst hv
  refine e11 (Option.isSome_iff_exists.mp t3) λst s1=>?_
  refine e11 (rZ s1) λtf s1=>?_
  have iN:∀{v:Value},(RC v).isSome=true->∃n t,v=.int n t:=λ{v} h=>by
   cases v with
   |int n t=>exact⟨n,t,rfl⟩
   |_=>exact ft h
  have bN:∀{v:Value},(JW v).isSome=true->∃c,v=.bool c:=λ{v} h=>by
   cases v with
   |bool c=>exact⟨c,rfl⟩
   |_=>exact ft h
  refine e21 (iN t4) λn1 u1 i1=>?_
  refine e11 (bN t5) λc1 i2=>?_
  refine e21 (iN t6) λn3 u3 i3=>?_
  refine⟨o,vs,st,tf,n1,u1,c1,n3,u3,b.at e1 λq=>?_,fy t1,r5 e2,v1,by rw[Array.getD_eq_getD_getElem?,v1];rfl,s1,i1,i2,i3,ej (dO t7)⟩
  rw[r5 e2] at q
  cases W2 q
  exact nn v1,⟨_,b.ns h3,re λY bk=>cP h2 λm e1 h=>cW e1 λv e1 e2=>Fi h λt1 t2 t3 h=>cP h λo e3 h=>iV h λt4 t5 t6=>cP t5 λd d1 d2=>bk<|by
  have hp':o.data=.plain:=by
   obtain⟨c,d,a,s⟩:=o
   cases a with
   |plain=>rfl
   |_=>exact ft t6
  exact⟨m,o,by rw[e1,rY e2],ej (dO t1),ej (dO t2),ej (dO t3),b.at e3 (by rw[hp'];exact nofun),fy t4,by rw[d1,cX d2],hp'⟩⟩,h4⟩
theorem Lim.of(b:Ba g hp ad)(h:Nv hp=true):g.B.NoLimit:=cT h λh1 h2=>⟨_,b.ns h1,Option.isNone_iff_eq_none.mp h2⟩
end
noncomputable def Er(f:NameKind->Bool)(sc:Scope)(x:String):Bool:=cR (sc.names.lookup (U8 x)) f
noncomputable def UL(sc:Scope):Bool:=gd (xy sc.kind) (gd (!sc.isCoroutine) (gd (!sc.isGenerator) (gd (dF sc.names λp=>!(gh p.2)) (gd (Er gi sc "self") (gd (Er gi sc "what") (gd (Er gi sc "at") (Er FC sc "Exception")))))))
theorem Es:∃(b:List Stmt) (sc:Scope) (p1 p2 p3:Pos) (de:List Expr),y5 (gN 3000)=some (⟨[],[⟨U8 "self",none,p1⟩,⟨U8 "what",none,p2⟩,⟨U8 "at",none,p3⟩],none,[],[],none,de⟩,b,sc)/\tn b/\UL sc=true:=by
 refine⟨_,_,_,_,_,_,rfl,⟨_,_,_,_,_,_,_,_,_,_,_,_,_,_,rfl,rfl⟩,by kernel_rfl⟩
section
variable{g:Gb}{hp:Heap}{ad:Nat->Nat}
theorem nj{f:NameKind->Bool}{k:NameKind}{sc:Scope}{x:String}(h:Er f sc x=true)(hf:∀k',f k'=true->k'=k):sc.names.lookup (U8 x)=some k:=cP h λk' e h=>hf k' h▸e
theorem wI(k:NameKind)(h:gi k=true):k=.local:=by
 cases k with
 |«local»=>rfl
 |_=>exact ft h
theorem Oc(k:NameKind)(h:FC k=true):k=.globalImplicit:=by
 cases k with
 |globalImplicit=>rfl
 |_=>exact ft h
theorem uC{v:Value}{l:List Value}:l.contains v=true↔v∈l:=by simp
theorem EF.of(b:Ba g hp ad)(hC:g.C.C=CT)(hlim:g.B.NoLimit)(h1:hp.isNs mainGlobals=true)(h2:hp.isNs 0=true)(h:tE hp ad=true)(hf:vp hp.get? ad g.lc g.lq (3000,[ME])=BX (3000,[ME])):EF g:=
 Fi h λhL hX hE1 hE2=>cP hL λcL l1 h=>Fi h λl2 l3 l4 l5=>cP l4 λfv l6 l7=>cP hE2 λev hE2 hE3=>by
  obtain⟨bd,sc,p1,p2,p3,de,hast,hbody,hsc⟩:=Es
  have hf:vp hp.get? ad g.lc g.lq (3000,[ME])=some (true,⟨[],[⟨U8 "self",none,p1⟩,⟨U8 "what",none,p2⟩,⟨U8 "at",none,p3⟩],none,[],[],none,de⟩,.stmts bd,sc):=hf.trans (show dp (y5 (gN 3000)) _=_ by rw[hast];rfl)
  refine cW hf λo ho hf=>cW hf λfd hd hf=>?_
  have hf:=U7 hf
  have b1:Sh hp.get? ad g.lc g.lq [ME] o fd=true:=congrArg Wy hf
  have b2:=congrArg (λz=>z.2.1) hf
  have b3:fd.body=.stmts bd:=congrArg (λz=>z.2.2.1) hf
  have b4:fd.scope=sc:=congrArg (λz=>z.2.2.2) hf
  refine MF b1 λt1 t2 t3 t4 t5 t6 Y=>MF hsc λk1 k2 k3 k4 k5 k6 hsc=>cT hsc λk7 k8=>?_
  refine e12 (En b t2) λdl d1 d2=>?_
  refine xO d1 λdv edl hdv=>?_
  subst edl
  have ed:=r4 hd
  refine e44 (qE t3) λcc oc vs t e1 e2 e3 e4=>?_
  have hd2:∀{s:Shared},g.B.StaysIn s.heap->(fd.defaults=.none/\[dv]=[])\/∃t o n items,fd.defaults=.ref t/\s.heap.get? t=some o/\o.data=.seq items n/\items.toList=[dv]:=λk=>d2.imp id λ⟨t,o',n,items,e1,e2,e3,e4⟩=>⟨t,o',n,items,e1,k _ _ e2,e3,e4⟩
  have hnd:([U8 "self",U8 "what",U8 "at"]:List Str).Nodup:=by decide+kernel
  refine⟨ad 2,ad 3000,fd,bd,hp.nsMap cL.ns,dv,⟨⟨o,b.at ho (by rw[ed];exact nofun),fy t1,ed⟩,b3,hbody,?_,by rw[b4];exact dO k2,by rw[b4];exact dO k3,cX t4,cX t6,⟨cc,oc,vs,t,e1,b.at e2 λq=>?_,e3,e4⟩,λx hx q=>?_,by rw[b4];exact nj k5 wI,by rw[b4];exact nj k6 wI,by rw[b4];exact nj k7 wI,by rw[b4];exact nj k8 Oc,hlim,⟨_,_,b.ns h1,b.ns h2,Option.isNone_iff_eq_none.mp hE1,by rw[hE2,fy hE3]⟩⟩,
   by rw[l6,fA l7],uA l5,λ{s e w} k=>iP b2 (hd2 k) hnd (VA 2) (Vm 3) (Vi rfl),λ{s e w a} k=>iP b2 (hd2 k) hnd (Vm 3) (VA 3) (Vi rfl),hdv,λ{i inf} q1 q2 q3=>?_,λ{i inf} q1 q2=>?_,λ{i inf x} q1 q2 q3=>?_,λ{d c di ci} q1 q2 q3 q4 q5=>?_⟩
  .rw[b4]
   cases q:sc.kind with
   |function=>rfl
   |_=>rw[q] at k1;exact ft k1
  .rw[e3] at q
   cases W2 q
   exact nn e4
  .rw[b4] at hx
   have w:=c9 k4 hx
   rw[q] at w
   exact ft w
  .rw[hC] at q1
   refine eK (ef hX q1) (λw=>by rw[q2] at w;exact ft w) λw=>cT w λw Y=>cP w λc c1 w=>cT w λw Y=>eK w (λw=>by rw[q3] at w;exact ft w) λw=>Fi w λw1 w2 w3 w4=>?_
   rw[b.c]
   exact⟨_,⟨Ep b c1 w1 w2,Ep b l1 l2 l3⟩,Option.isNone_iff_eq_none.mp w3,uA w4⟩
  .rw[hC] at q1
   refine eK (ef hX q1) (λw=>by rw[q2] at w;exact ft w) λw=>cT w λw Y=>cP w λc c1 w=>iV w λY w Y=>?_
   obtain⟨x,w1,w2,w3,w4,w5⟩:=wH b c1
   have go:∀{rs:List Addr},iC rs MD c.mro.tail=true->x.mro.contains (.type "BaseException")=true:=λ{rs} q=>uC.mpr (by
    rw[w3,po q]
    exact Wl _ (.tail _ (.head _)))
   exact⟨{x with dic:=true,newId:="Exception.__new__"},by rw[b.c,w1],eK w go go⟩
  .rw[hC] at q1
   refine eK (ef hX q1) (λw=>by rw[q2] at w;exact ft w) λw=>cT w λw Y=>cP w λc c1 w=>iV w λY Y w=>?_
   refine kG q3 λq4 q5=>?_
   have q:=c9 w (pm q5)
   exact eK q (λq=>.inl (en q4 ((cX q).trans rz.symm))) λq=>.inr (en q4 ((cX q).trans Dn.symm))
  .rw[hC] at q1 q2
   refine eK (ef hX q1) (λw=>by rw[q3] at w;exact ft w) λw=>cT w λY w=>eK (ef w q2) (λw=>by rw[q5] at w;exact ft w) λw=>eK w (λw=>by rw[q4] at w;exact ft w) λw=>?_
   rw[b.c,b.c,<-eq_of_beq w]
   refine Bool.eq_iff_iff.mpr (uC.trans ⟨λq=>?_,λq=>?_⟩)
   .refine(List.mem_cons.mp q).elim (λq=>?_) λq=>(List.mem_cons.mp q).elim (λq=>?_) λq=>?_
    .refine(?_:dj (U9 (ad c) (ad d)) _=true)
     rw[Value.ref.inj q,VD];rfl
    .refine(?_:dj (U9 (ad c) (ad d)) (dj (U9 (ad c) (ad 2)) false)=true)
     rw[Value.ref.inj q,VD];cases U9 (ad 2) (ad d)<;>rfl
    .exact absurd q (by unfold eb;simp)
   .refine Ck q (λq=>by rw[cX q];exact .head _) (λq=>by rw[cX q];exact .tail _ (.head _)) (λq=>ft q)
end
section
noncomputable def r8(n:Nat):V->Bool:=Nat.rec (λY=>false) (λY ih a=>dq (fk a) (dq (eg a) true λl=>dF l ih) λY=>false) n
noncomputable def pp:V->Bool:=r8 12
theorem uD{f:Nat->Nat}{n:Nat}:∀{m:Nat} {a:V},r8 n a=true->kh f m a=a:=by
 induction n with
 |zero=>exact λh=>ft h
 |succ n ih=>
  intro m a h
  cases m with
  |zero=>rfl
  |succ m=>
   cases a with
   |ref k=>exact ft h
   |tup l=>
    refine congrArg V.tup ((WY λa ha=>?_).trans (List.map_id l))
    have q:=c9 h ha
    exact ih q
   |_=>rfl
variable{g:Gb}{c c':Cf}{F F':Gc}
theorem yH(h:∀k c v,F.1 k c v->F'.1 k c v){a:V}{v:Value}(x:VR (g.tk F) c a v):VR (g.tk F') c a v:=
 vz (λY Y h=>h) (λk v=>h k c v) (λY=>True) (λY Y h=>⟨h,rfl⟩) (λY Y Y Y=>trivial) a trivial v x
theorem LC(h:∀k c v,F.1 k c v->F'.1 k c v){a:List V}{v:List Value}(x:da (g.tk F) c a v):da (g.tk F') c a v:=x.map λY Y Y x=>yH h x
theorem Et(e:∀a vs,c.T a vs->c'.T a vs){n:Nat}{a:V}{v:Value}(q:r8 n a=true)(x:VR g c a v):VR g c' a v:=
 vz (g:=g) (F:=g.own) (F':=g.own) e (λY Y h=>g.tkx e h) (λa=>∃n,r8 n a=true) (λk h=>h.elim λn h=>by
  cases n with
  |zero=>exact ft h
  |succ n=>exact ft h) (λl a h ha=>h.elim λn h=>by
  cases n with
  |zero=>exact ft h
  |succ n=>
   have q:=c9 h ha
   exact⟨n,q⟩) a ⟨n,q⟩ v x
section
variable(g:Gb)(T:Nat->List V)(hT:∀k a,a∈T k->pp a=true)
noncomputable def SQ(F:Gc):Gc:=⟨λk c v=>∃a,a∈T k/\VR (g.tk F) c a v,λ⟨_,_,h⟩=>vG h,λe ⟨a,h1,h2⟩=>⟨a,h1,Et e (hT _ a h1) h2⟩⟩
noncomputable def Eu:Nat->Gc
 |0=>⟨λY Y Y=>False,λh=>h.elim,λY h=>h⟩
 |n+1=>SQ g T hT (Eu n)
noncomputable def r9:Gc:=⟨λk c v=>∃n,(Eu g T hT n).1 k c v,λ⟨n,h⟩=>(Eu g T hT n).2.1 h,λe ⟨n,h⟩=>⟨n,(Eu g T hT n).2.2 e h⟩⟩
variable{g T hT}
theorem LD{n:Nat}:∀{k:Nat} {c:Cf} {v:Value},(Eu g T hT n).1 k c v->(Eu g T hT (n+1)).1 k c v:=by
 induction n with
 |zero=>exact λh=>h.elim
 |succ n ih=>exact λh=>h.elim λa h=>⟨a,h.1,yH (λY Y Y q=>ih q) h.2⟩
theorem Ew{m n k:Nat}{c:Cf}{v:Value}(h:m≤n)(x:(Eu g T hT m).1 k c v):(Eu g T hT n).1 k c v:=by
 induction h with
 |refl=>exact x
 |step _ ih=>exact LD ih
theorem HB{a:V}:∀{v:Value},VR (g.tk (r9 g T hT)) c a v->∃n,VR (g.tk (Eu g T hT n)) c a v:=
 IJ (P:=λa=>∀{v:Value},VR (g.tk (r9 g T hT)) c a v->∃n,VR (g.tk (Eu g T hT n)) c a v) (λa e v x=>by
  cases a with
  |tup=>exact nn' e
  |tok=>exact x
  |_=>exact⟨0,x⟩) (λl ih v x=>by
  have go:∀{vs:List Value},da (g.tk (r9 g T hT)) c l vs->∃n,da (g.tk (Eu g T hT n)) c l vs:=by
   clear x
   induction l with
   |nil=>exact λx=>⟨0,x⟩
   |cons a r ih2=>
    intro vs x
    refine e23 x λy ys e h1 h2=>?_;clear x
    refine e11 (ih a Vc h1) λm h1=>?_
    refine e11 (ih2 (λb hb=>ih b (Vd _ hb)) h2) λn h2=>?_
    exact⟨max m n,e▸da.cons (yH (λY Y Y q=>Ew (Nat.le_max_left ..) q) h1) (LC (λY Y Y q=>Ew (Nat.le_max_right ..) q) h2)⟩
  refine e23 x λa vs h1 h2 h3=>?_;clear x
  refine e11 (go h3) λn h=>?_
  exact⟨n,a,vs,h1,h2,h⟩) a
theorem Ex{k:Nat}{c:Cf}{v:Value}(h:(r9 g T hT).1 k c v):∃a,a∈T k/\VR (g.tk (r9 g T hT)) c a v:=by
 refine e11 h λn h=>?_
 cases n with
 |zero=>exact h.elim
 |succ n=>
  refine e12 h λa h1 h2=>?_;clear h
  exact⟨a,h1,yH (F':=r9 g T hT) (λY Y Y q=>⟨n,q⟩) h2⟩
theorem Jb{k:Nat}{a:V}{c:Cf}{v:Value}(h1:a∈T k)(h2:VR (g.tk (r9 g T hT)) c a v):(r9 g T hT).1 k c v:=by
 refine e11 (HB h2) λn h=>?_
 exact⟨n+1,a,h1,h⟩
end
end
theorem execs_append(a b:List Stmt)(env:Env):execs (a++b) env=(execs a env>>=λf=>match f with|.next=>execs b env|f=>pure f):=by
 induction a with
 |nil=>rfl
 |cons s a ih=>
  refine(?_:(exec s env>>=λf=>match f with|.next=>execs (a++b) env|f=>pure f)=((exec s env>>=λf=>match f with|.next=>execs a env|f=>pure f)>>=λf=>match f with|.next=>execs b env|f=>pure f))
  rw[bind_assoc]
  refine congrArg _ (funext λf=>?_)
  cases f with
  |next=>exact ih
  |_=>rfl
section
variable{M:Model}{A:Around}{env:Env}{E:Value->Shared->Prop}{s:Shared}
theorem ik{a b:List Stmt}{Q Q':Flow->Shared->Prop}(h:cQ M A (execs a env) Q' E s)(hn:∀aa,Q' .next aa->cQ M A (execs b env) Q E aa)(ho:∀v aa,Q' (.ret v) aa->Q (.ret v) aa)(hx:∀aa,¬Q' .brk aa/\¬Q' .cont aa):cQ M A (execs (a++b) env) Q E s:=by
 rw[execs_append]
 refine wpAny_bind (cO h (λfl aa x=>?_) λY Y x=>x)
 cases fl with
 |next=>exact hn aa x
 |ret v=>exact wpAny_pure (ho v aa x)
 |brk=>exact((hx _).1 x).elim
 |cont=>exact((hx _).2 x).elim
end
noncomputable def Cf.sub(c:Cf)(m:Nat)(μ:Nat->Nat):Cf:=⟨m,λj=>c.ρ (μ j),λj=>c.δ (μ j),c.T,λj=>j<m/\c.N (μ j),c.D⟩
section
variable{g g':Gb}{c c':Cf}{h h0:H}{s:Shared}{m:Nat}{μ:Nat->Nat}
noncomputable def LE(g g':Gb)(c:Cf)(m:Nat)(μ:Nat->Nat)(s:Shared):Prop:=∀a o,g'.R a o->g.R a o\/(s.heap.get? a=some o/\∃k,k<c.n/\(∀j,j<m->μ j≠k)/\(a=c.ρ k\/a=c.δ k))
structure SR(g g':Gb)(c:Cf)(m:Nat)(μ:Nat->Nat)(s:Shared):Prop where
 B:g'.B=g.B
 P:g'.P=g.P
 s0:g'.s0=g.s0
 lq:g'.lq=g.lq
 S:g'.S=g.S
 T0:∀a vs,g'.T0 a vs->c.T a vs
 R:LE g g' c m μ s
 M:∀a,g'.M0=some a->0<m/\c.ρ (μ 0)=a
theorem cV.redo(I:cV g c h s)(r:SR g g' c m μ s)(hm:∀j,j<m->μ j<c.n)(hi:∀i j,i<m->j<m->i≠j->μ i≠μ j)(hl:h0.length=m)
  (ho:∀j o,h0.get j=some o->j<m/\OR g' (c.sub m μ) o (c.ρ (μ j)) (c.δ (μ j)) s.heap) (hn:∀j,j<m->c.N (μ j)->∃o,h0.get j=some o/\o.isNs=true):cV g' (c.sub m μ) h0 s:=by
 have far:=I.far
 have al:∀a,Al g c a->(∀k,k<c.n->(∀j,j<m->μ j≠k)->¬(a=c.ρ k\/a=c.δ k))->Al g' (c.sub m μ) a:=λa x n=>
  ⟨λo q=>(r.R a o q).elim (x.R o) λ⟨_,k,q1,q2,q3⟩=>n k q1 q2 q3,by rw[r.B];exact x.B,x.T,x.D⟩
 refine⟨hl.symm,ho,λk hk=>I.pres _ (hm k hk),I.tup,I.dat,λa o q=>(r.R a o q).elim (I.rest a o) λq=>q.1,λa o q=>I.fra a o (r.S▸q),by rw[r.B];exact I.base,λj k hj hk hn=>I.inj _ _ (hm j hj) (hm k hk) (hi j k hj hk hn),
  λk hk a ha=>?_,λa o q=>?_,by rw[r.s0];exact I.sam,r.T0,r.M,λk q=>hn k q.1 q.2,?_,?_,by rw[r.B];exact I.sm,⟨λa vs o q w=>(r.R a o w).elim (I.rT.1 a vs o q) λ⟨_,k,q1,_,q3⟩=>(I.off k q1 a q3).1.T vs q,λa ob o q w=>(r.R a o w).elim (I.rT.2 a ob o q) λ⟨_,k,q1,_,q3⟩=>(I.off k q1 a q3).1.D ob q⟩⟩
 .refine e03 (I.off _ (hm k hk) a ha) λx1 x2 x3=>?_
  exact⟨al a x1 λj q1 q2 q3=>far _ j (hm k hk) q1 (q2 k hk) a ha q3,by rw[r.S];exact x2,by rw[r.P];exact x3⟩
 .rw[r.S] at q
  refine e02 (I.offS a o q) λx1 x2=>?_
  exact⟨al a x1 λk q1 Y q3=>(I.off k q1 a q3).2.1 o q,by rw[r.P];exact x2⟩
 .refine e13 I.tab λps h1 h2 h3=>?_
  exact⟨ps,by rw[r.P];exact h1,h2,λp cv q=>by rw[r.lq];exact h3 p cv q⟩
 .rw[r.P]
  exact al _ I.offP λk q1 Y q3=>(I.off k q1 g.P q3).2.2 rfl
end
noncomputable def dQ(l:List O):H:=eN H.nil (jw (λk=>k) l)
noncomputable def Ey(o:O):Bool:=match o with
 |.dead=>true
 |_=>false
noncomputable def Jc(o:O):Bool:=match o with
 |.nsU=>true
 |_=>false
section
variable(T:Nat->List V)
noncomputable def LG(f:Nat->Nat)(x p:O):Bool:=dj (AU T f x p) (dj (cR (oN x) λa=>cR (oN p) λb=>MK T f a b) (dj (gd (Ey p) (!x.isNs)) (dj (gd (Jc p) x.isNs) (cR (oC x) λa=>cR (oC p) λb=>cR a λv=>cR b λv'=>IZ T f v v'))))
noncomputable def lj(h:H)(l:List O):Bool:=gd (Vk l.length h.length) (xe (λj p=>cR (h.get j) λx=>LG T (fo l.length h.length) x p) l 0)
end
section
variable{g:Gb}{c c':Cf}{C:i9}{T:Nat->List V}{f f':Nat->Nat}{h h':H}{s s':Shared}{l:List O}
theorem Ez{n:Nat}:∀{a:V},kh (λk=>k) n a=a:=by
 induction n with
 |zero=>exact rfl
 |succ n ih=>
  intro a
  cases a with
  |tup l=>exact congrArg V.tup ((WY λa Y=>ih).trans (List.map_id l))
  |_=>rfl
theorem EA{l:List (Nat×V)}:Ax (λk=>k) l=l:=by
 induction l with
 |nil=>rfl
 |cons p l ih=>
  refine(?_:(p.1,wE (λk=>k) p.2)::Ax (λk=>k) l=_)
  rw[ih,show wE (λk=>k) p.2=p.2 from Ez]
theorem AE{o:O}(h:Ey o=true):o=.dead:=by
 cases o with
 |dead=>rfl
 |_=>exact ft h
theorem EB{o:O}(h:Jc o=true):o=.nsU:=by
 cases o with
 |nsU=>rfl
 |_=>exact ft h
theorem HC{o:O}{a d:Addr}{hp:Heap}(h:o.isNs=true)(w:OR g c o a d hp):∃mm,hp.Ns a mm:=by
 cases o with
 |ns m=>exact w.imp λmm q=>q.1
 |nsU=>exact w
 |_=>exact ft h
theorem yI(R:uO g c c' T f λk=>k){x p:O}{a d:Addr}{hp:Heap}(h:LG T f x p=true)(w:OR g c x a d hp):OR g c' (sw (λk=>k) p) a d hp/\(x.isNs=true->(sw (λk=>k) p).isNs=true):=
 MG h (λh=>⟨jv R h w,λq=>ft ((rS h).symm.trans q)⟩) (λh=>cP h λa e1 h=>cP h λb e2 h=>by
  cases mw e1;cases mw e2
  refine e12 w λmm w1 w2=>?_;clear w
  have w3:=Hm R h w2
  rw[EA] at w3
  exact⟨⟨mm,w1,w3⟩,λY=>rfl⟩) (λh=>cT h λh1 h2=>by
  cases AE h1
  exact⟨trivial,λq=>by rw[q] at h2;exact ft h2⟩) (λh=>cT h λh1 h2=>by
  cases EB h1
  exact⟨HC h2 w,λY=>rfl⟩) (λh=>cP h λa e1 h=>cP h λb e2 h=>cP h λv e3 h=>cP h λv' e4 h=>by
  cases xS e1;cases xS e2;cases e3;cases e4
  obtain⟨vo,w1,y,rfl,w2⟩:=w
  have w3:=pf R h w2
  rw[show wE (λk=>k) v'=v' from Ez] at w3
  exact⟨⟨_,w1,y,rfl,w3⟩,λq=>q⟩)
theorem jz{l:List O}:(dQ l).length=l.length:=jy.trans ((VC _).trans (Vs ..))
theorem fT{l:List O}{j:Nat}:(dQ l).get j=(l[j]?).map (sw λk=>k):=uv.trans (Xb ..)
theorem cV.refit(I:cV g c' h s)(e:dz c c')(hn:∀k,c.N k->k<c.n)(hl:c.n≤l.length)(h0:∀a,g.M0=some a->0<l.length)(K:gG g C)(hf:lj C.toks h l=true):cV g (c'.sub l.length λk=>k) (dQ l) s/\dz c (c'.sub l.length λk=>k):=
 cT hf λh1 h2=>by
  have hlt:∀j,j<l.length->j<c'.n:=λj hj=>Vf hj (Va (eP h1) (Vg I.len.symm))
  have R:uO g c' (c'.sub l.length λk=>k) C.toks (fo l.length h.length) λk=>k:=K.ren (λY Y q=>q) λk hk=>by
   by_cases q:k<l.length
   .exact⟨q,congrArg c'.ρ (Eg q).symm⟩
   .rw[Eh (WK q),I.len] at hk
    exact absurd hk (Wr _)
  have at_:∀{j p},l[j]? =some p->∃x,h.get j=some x/\LG C.toks (fo l.length h.length) x p=true:=λ{j p} hp=>by
   have w:=ku h2 hp
   rw[VC] at w
   exact cP w λx w1 w2=>⟨x,w1,w2⟩
  refine⟨I.redo (g':=g) ⟨rfl,rfl,rfl,rfl,rfl,I.t0,λa o q=>.inl q,λa q=>?_⟩ hlt (λi j Y Y q=>q) jz (λj o q=>?_) λj hj q=>?_,⟨hl,λk hk=>e.ρ k hk,λk hk=>e.δ k hk,e.T,λk hk=>⟨Vf (hn k hk) hl,e.N k hk⟩,e.D,λk hk q=>e.M k hk q.2⟩⟩
  .exact⟨h0 a q,(I.m0 a q).2⟩
  .rw[fT] at q
   refine e12 (Option.map_eq_some_iff.mp q) λp p1 p2=>?_
   refine e12 (at_ p1) λx w1 w2=>?_
   have hj:j<l.length:=WJ λw=>nn ((V6 w).symm.trans p1)
   exact⟨hj,p2▸(yI R w2 (I.obj j x w1).2).1⟩
  .have hp:l[j]? =some l[j]:=WE hj
   refine e12 (at_ hp) λx w1 w2=>?_
   refine e12 (I.ns j q) λo z1 z2=>?_
   cases U7 (w1.symm.trans z1)
   exact⟨_,fT.trans (congrArg (Option.map _) hp),(yI R w2 (I.obj j _ w1).2).2 z2⟩
theorem FR.sub{A:Around}{fr:Fr}{env:Env}{m:Nat}(f:FR g c A fr env)(h:fr.ns<m)(hc:∀x i,eJ fr.cells x=some i->i<m):FR g (c.sub m λk=>k) A fr env:=
 ⟨f.kind,f.names,h,f.loc,λx i hx hd hi=>⟨hc _ _ hi,(f.cells x i hx hd hi).2⟩,f.glob,f.bi,f.cls,f.inter,f.dbg,f.cdict,f.lk,f.lam⟩
end
noncomputable def pC:V:=.str 338
noncomputable def fX:V:=.str 82252
noncomputable def fP:V:=.str 82254
noncomputable def gl:V:=.str 85589
noncomputable def gH:V:=.str 84312
noncomputable def iZ:V:=.str 340
noncomputable def i8:V:=.str 331
noncomputable def fU:V:=.str 341
noncomputable def df:V:=.str 1461753299781
noncomputable def uE:V:=.str 22293833
noncomputable def pq:V:=.str 85583
noncomputable def yv(v:V):dV:=⟨none,[],v,[]⟩
noncomputable def yu(v:V)(o:O):dV:=⟨none,[],v,[(0,o)]⟩
noncomputable def yn(o:O)(v:V):dV:=⟨none,[o],v,[]⟩
noncomputable def ew{α:Type}(k:Nat)(v:α):BT α:=.node .nil k v .nil
noncomputable def sb{α:Type}(l:BT α)(k:Nat)(v:α):BT α:=.node l k v .nil
noncomputable def c7(k r:Nat)(e:List dw):BT (List (Nat×List dw)):=.node .nil k [(r,e)] .nil
noncomputable def dK(l:BT (List (Nat×List dw)))(k r:Nat)(e:List dw):BT (List (Nat×List dw)):=.node l k [(r,e)] .nil
noncomputable def dh(l:BT (List (Nat×List dw)))(k r:Nat)(e:List dw)(b:BT (List (Nat×List dw))):BT (List (Nat×List dw)):=.node l k [(r,e)] b
noncomputable def rf(n:V)(q s:List V)(p:V):V:=.tup [.str 24274278,n,.tup q,.tup s,p]
noncomputable def qR:List V:=[pC]
noncomputable def q2:List V:=[.str 86578]
noncomputable def q3:List V:=[.str 86579]
noncomputable def n1:V:=.tup [.str 402925602104690,.tup [.int (.c 1),.int (.c 0)]]
noncomputable def n2:V:=.tup [.str 402925602104690,.tup [.int (.c 2),.int (.c 0)]]
noncomputable def c0:V:=.tup [rf fP [] [] .none,n1]
noncomputable def c1:V:=.tup [n1,.none]
noncomputable def c2:V:=.tup [n1,n1]
noncomputable def names:V:=.tup [pC,fX,fP,gl,gH,iZ,i8,fU,df,uE,pq]
noncomputable def cp(a:AI):Nat->List AI
 |0=>[]
 |n+1=>a::cp a n
noncomputable def fb(n:Nat):List AI:=cp (.u (some 48) (some 57)) n
noncomputable def ab(n:Nat):List AI:=cp (.u (some 0) (some 255)) n
noncomputable def HD:List AI:=[.s 0 48 57,.s 1 48 57,.s 2 48 57,.s 3 48 57,.s 4 48 57,.s 5 48 57,.s 6 48 57,.s 7 48 57,.s 8 48 57,.s 9 48 57,.s 10 48 57,.s 11 48 57,.s 12 48 57,.s 13 48 57,.s 14 48 57,.s 15 48 57,.s 16 48 57,.s 17 48 57,.s 18 48 57,.s 19 48 57,.s 20 48 57,.s 21 48 57,.s 22 48 57,.s 23 48 57,.s 24 48 57,.s 25 48 57,.s 26 48 57,.s 27 49 50,.s 28 48 57]
noncomputable def SS:O:=.barr HD
noncomputable def mX:O:=.barr (ab 29)
noncomputable def d5(a n:Nat):O:=.barr (MZ HD 0 a++ab n++MZ HD (a+n) 29)
noncomputable def dD(d:Nat):O:=.list [.int (.u (some 0) none),.int (.pb d)]
noncomputable def x4:dV:=⟨some (4,[(6298296692,.strU 100000),(90484,.tup [.int (.c 0),.int (.c 0)])]),[],.none,[]⟩
noncomputable def x5:dV:=⟨some (5,[(6298296692,.strU 100000),(90484,.tup [.int (.c 0),.int (.c 0)])]),[],.none,[]⟩
noncomputable def uT:dV:=⟨none,[],.bool true,[(0,mX)]⟩
noncomputable def uF:dV:=⟨none,[],.bool false,[(0,mX)]⟩
noncomputable def mY(a0 a1 a2 a3 a4 a5 a6 a7 a8:V):O:=.inst 11 [(1565070353772,a0),(6146846053,a1),(114017890487881576109679409268,.none),(1603958564709,.str 1),(6231254894,.str 1),(436967053782273994518525029,.bool false),(403947637797491,a2),(6832601383258565797235,.str 1),(1607952266597,.none),(111863565603395232715042809188,.bool false),(28637072756522928292057112212079,.bool false),(1678495644609696360263283,a3),(6097036403,a4),(405038810099316,a5),(104257266138310003,.none),(5945520997,.str 1),(403960572896628,a6),(6231259749,a7),(1595184083045,a8)]
noncomputable def fY(a0 a1 a2 a3 a4:V):O:=.inst 71 [(25607876935081226873,a0),(6231259749,a1),(103698667306054245,.none),(1603958564709,a2),(6231254894,.str 26837620234872516199),(436967053782273994518525029,.bool false),(111863565603395232715042809188,.bool false),(28637072756522928292057112212079,.bool false),(391878846018675,a3),(1595100195941,.int (.c 0)),(6667588100942841406820,a4)]
noncomputable def z0:O:=.list []
noncomputable def z1:V:=.int (.c 1)
noncomputable def z2:V:=.none
noncomputable def z3:V:=.int (.c 0)
noncomputable def z4:V:=.int (.c 27)
noncomputable def z5:V:=.wr 13
noncomputable def z6:V:=.str 1543813166448
noncomputable def z7:V:=.str 100321036237300089
noncomputable def z8:V:=.bool false
noncomputable def z9:V:=.str 1668995716643950454663523
noncomputable def za:V:=.int (.c 3)
noncomputable def zb:V:=.int (.c 5)
noncomputable def zc:V:=.wr 15
noncomputable def zd:V:=.str 109379303285981332258604345699
noncomputable def ze:V:=.int (.c 4)
noncomputable def zf:O:=fY zd ze z7 z3 z8
noncomputable def zg:V:=.wr 24
noncomputable def zh:V:=.str 103148954189982051
noncomputable def zi:V:=.int (.c 7)
noncomputable def zj:V:=.wr 34
noncomputable def zk:V:=.str 1552335267192
noncomputable def zl:V:=.int (.c 11)
noncomputable def zm:V:=.int (.c 15)
noncomputable def zn:V:=.wr 53
noncomputable def zo:V:=.tup []
noncomputable def zp:V:=.int (.c 2)
noncomputable def zq:O:=fY zh zp z7 zp z8
noncomputable def zr:V:=.wr 65
noncomputable def zs:O:=fY zd z1 z7 z3 z8
noncomputable def zt:V:=.wr 74
noncomputable def zu:O:=fY zh z1 z7 z1 z8
noncomputable def zv:V:=.wr 93
noncomputable def zw:V:=.wr 110
noncomputable def zx:V:=.wr 1
noncomputable def zy:V:=.ref 0
noncomputable def zz:V:=.tok 11
noncomputable def hH:V:=.tok 12
noncomputable def RR:V:=rf fP [] [] z2
noncomputable def Jd:V:=.str 6247774324
noncomputable def ML:V:=.str 394077870060133
noncomputable def fh:V:=.str 24274278
noncomputable def wJ:V:=.tok 340
noncomputable def mZ:V:=.tok 370
noncomputable def AF:V:=.tok 350
noncomputable def jX:V:=.tok 50
noncomputable def jY:V:=.tok 51
noncomputable def jZ:V:=.tok 52
noncomputable def j2:V:=.tok 53
noncomputable def sd:V:=.tok 36
noncomputable def sf:V:=.tok 32
noncomputable def jK:V:=.tok 33
noncomputable def jL:V:=.tok 34
noncomputable def jN:V:=.tok 35
noncomputable def j3:V:=.tok 54
noncomputable def ja:V:=.tok 31
noncomputable def jb:V:=.tok 40
noncomputable def LH:V:=.tup [z3,z4]
noncomputable def LI:V:=.tup [z3,z1]
noncomputable def LJ:V:=.tup [z3,za]
noncomputable def LK:V:=.tup [za,ze]
noncomputable def LL:V:=.tup [zi,ze]
noncomputable def MM:V:=.tup [zl,ze]
noncomputable def LM:V:=.tup [zm,ze]
noncomputable def LN:V:=.tup [zm,z1]
noncomputable def HE:V:=.int (.c 19)
noncomputable def LP:V:=.tup [HE,ze]
noncomputable def LQ:V:=.tup [HE,z1]
noncomputable def LR:V:=.tup [zm,zp]
noncomputable def LS:V:=.tup [HE,zp]
noncomputable def Fl:V:=.tup [.int (.c 17),z1]
noncomputable def Fm:V:=.tup [.int (.c 18),z1]
noncomputable def Fn:V:=.tup [.int (.c 21),z1]
noncomputable def Fo:V:=.tup [.int (.c 22),z1]
noncomputable def Fq:V:=.tup [.int (.c 28),z1]
noncomputable def Fs:V:=.tup [z4,z1]
noncomputable def qH:V:=.tup qR
noncomputable def qd:V:=.tup q2
noncomputable def AV:V:=.tup q3
noncomputable def MN:V:=.tup [.tok 5]
noncomputable def RS:V:=.tup [.tok 5,.tok 5]
noncomputable def eX:List dV:=[(yn z0 zy)]
noncomputable def Od:List dV:=[(yn (.list qR) zy)]
noncomputable def wK:List dV:=[(yv (.bool true))]
noncomputable def pD:List dV:=[(yv z8)]
noncomputable def eI:V:=.bytes (fb 1)
noncomputable def dA:V:=.ref 1
noncomputable def dP:List dV:=[(yv (.bytes (ab 1)))]
noncomputable def yJ:V:=.bytes [.st [125,74,75,76,77,78,79,80,81,82]]
noncomputable def lu:O:=fY zh z1 z7 z1 (.bool true)
noncomputable def yK:V:=.bytes [.st [123,65,66,67,68,69,70,71,72,73]]
noncomputable def gI:O:=fY zd zp z7 z3 z8
noncomputable def fF:List dV:=[(yv (.bytes (ab 2)))]
noncomputable def gK:O:=fY zd za z7 z3 z8
noncomputable def gV:List dV:=[(yv (.bytes (ab 3)))]
noncomputable def dL:List dV:=[(yv (.bytes (ab 4)))]
noncomputable def fD:List dV:=[(yv (.bytes (ab 27)))]
noncomputable def gM:O:=fY zd z4 z7 z3 z8
noncomputable def gW:V:=.bytes (fb 2)
noncomputable def yL:V:=.bytes [.u (some 48) (some 57),.st [125,74,75,76,77,78,79,80,81,82]]
noncomputable def lv:O:=fY zh zp z7 zp (.bool true)
noncomputable def yM:V:=.bytes [.u (some 48) (some 57),.st [123,65,66,67,68,69,70,71,72,73]]
noncomputable def im:V:=.bytes (fb 3)
noncomputable def yN:V:=.bytes [.u (some 48) (some 57),.u (some 48) (some 57),.st [125,74,75,76,77,78,79,80,81,82]]
noncomputable def lz:O:=fY zh za z7 za (.bool true)
noncomputable def yO:V:=.bytes [.u (some 48) (some 57),.u (some 48) (some 57),.st [123,65,66,67,68,69,70,71,72,73]]
noncomputable def yP:O:=fY zh za z7 za z8
noncomputable def fg:V:=.bytes (fb 4)
noncomputable def wL:V:=.bytes (fb 5)
noncomputable def wM:O:=fY zd zb z7 z3 z8
noncomputable def wN:V:=.bytes (fb 6)
noncomputable def Ft:V:=.int (.c 6)
noncomputable def wO:O:=fY zd Ft z7 z3 z8
noncomputable def wQ:V:=.bytes (fb 7)
noncomputable def wS:O:=fY zd zi z7 z3 z8
noncomputable def ki:V:=.bytes (fb 27)
noncomputable def AW:List dV:=[(yv (.str 1))]
noncomputable def iT:List dV:=[(yn (.lsU 1 1) zy)]
noncomputable def sA:List dV:=[(yn (.lsU 1 5) zy)]
noncomputable def RT:V:=.int (.u (some 1) (some 3))
noncomputable def cZ:V:=.wr 1000
noncomputable def dm:List O:=[SS]
noncomputable def gL:List dV:=[x4,x5]
noncomputable def eL:V:=.tok 62
noncomputable def eM:V:=.tok 72
noncomputable def RU:V:=.int (.u (some 0) (some 3))
noncomputable def RV:V:=.int (.u (some 3) (some 8))
noncomputable def dW:V:=.bytes HD
noncomputable def gJ:O:=dD 17
noncomputable def AX:O:=dD 20
noncomputable def d0:List O:=[mX]
noncomputable def MO:BT O:=(.node (.node (.node (.node (.node (sb (ew 1 (.inst 12 [(105675653485522535,.wr 3),(102572814491543397,.wr 4),(1539367003507,.wr 5),(1595302638707,.wr 6),(6231259749,.int (.c 29)),(101733844070720883,.wr 118)])) 3 (.list [.wr 8,.wr 84,.wr 101])) 4 z0 (ew 5 (.dict []))) 6 z0 (.node (ew 8 (mY z1 pC z2 (.wr 10) (.wr 11) z2 z3 z4 z5)) 10 z0 (ew 11 (.list [.wr 18,.wr 27,.wr 37,.wr 47,.wr 56])))) 13 (fY z6 z4 z7 z3 z8) (.node (.node (ew 15 (fY z9 za z7 z3 z8)) 18 (mY zb fX z2 (.wr 20) (.wr 21) (.wr 8) z3 za zc) (ew 20 z0)) 21 z0 (.node (ew 24 zf) 27 (mY zb fP z2 (.wr 29) (.wr 30) (.wr 8) za ze zg) (ew 29 z0)))) 30 z0 (.node (.node (.node (ew 34 (fY zh ze z7 ze z8)) 37 (mY zb gl z2 (.wr 39) (.wr 40) (.wr 8) zi ze zj) (ew 39 z0)) 40 z0 (.node (ew 44 (fY zk ze zk (.int (.c 9)) (.bool true))) 47 (mY zb gH z2 (.wr 49) (.wr 50) (.wr 8) zl ze (.wr 44)) (ew 49 z0))) 50 z0 (.node (.node (ew 53 (fY z6 ze z7 z3 z8)) 56 (mY zb iZ (.wr 60) (.wr 58) (.wr 59) (.wr 8) zm ze zn) (ew 58 z0)) 59 (.list [.wr 68,.wr 77]) (.node (ew 60 (.inst 10 [(23883639,z1),(6046705512,za),(6574350343960628129383,z2),(6096779635,zo),(101733844070720883,zo)])) 65 zq (ew 68 (mY zb i8 z2 (.wr 70) (.wr 71) (.wr 56) zm zp zr)))))) 70 z0 (.node (.node (.node (.node (sb (ew 71 z0) 74 zs) 77 (mY zb fU (.wr 81) (.wr 79) (.wr 80) (.wr 56) (.int (.c 17)) z1 zt) (ew 79 z0)) 80 z0 (.node (ew 81 (.inst 10 [(23883639,z1),(6046705512,zp),(6574350343960628129383,z2),(6096779635,zo),(101733844070720883,zo)])) 84 (mY z1 (.str 86578) z2 (.wr 86) (.wr 87) z2 z4 z1 (.wr 89)) (ew 86 z0))) 87 (.list [.wr 96]) (.node (.node (ew 89 (fY z6 z1 z7 z3 z8)) 93 zu (ew 96 (mY zb df z2 (.wr 98) (.wr 99) (.wr 84) z4 z1 zv))) 98 z0 (.node (ew 99 z0) 101 (mY z1 (.str 86579) z2 (.wr 103) (.wr 104) z2 (.int (.c 28)) z1 (.wr 106)) (ew 103 z0)))) 104 (.list [.wr 113]) (.node (.node (.node (ew 106 (fY z6 z1 z7 z3 z8)) 110 zu (ew 113 (mY zb df z2 (.wr 115) (.wr 116) (.wr 101) (.int (.c 28)) z1 zw))) 115 z0 (.node (ew 116 z0) 118 (.dict [(22293833,.wr 56)]) (ew 119 (.dict [])))) 120 (.inst 148 [(6146846053,.str 336),(5979075681,zx),(1539367003507,.wr 119),(1739941820890875373446515,z2),(1706902551032123882037612,z8)]) (.node (.node (ew 125 z0) 126 z0 (ew 284 (.dict [(22293833,z1)]))) 286 (.dict []) (.node (ew 287 (.dict [])) 288 z0 (ew 289 (.dict [])))))))
noncomputable def WT:BT O:=.node MO 1000 (.inst 161 [(103708614232007021,.wr 120),(1595184344166,z2),(6214874995,.wr 125),(6870217698016752531315,.wr 126),(401757371855481,zy),(101733844070720883,.wr 284),(1565136939891,.wr 286),(101438118374958451,.wr 287),(1735181843433596808095859,.wr 288),(26476773734033289079,.bytes []),(1595302638707,.wr 289)]) .nil
noncomputable def TT:BT (List V):=(.node (.node (.node (.node (.node (.node (ew 1 [zz]) 2 [hH] (ew 3 [RR,.tup [Jd,.bytes [.c 49]],.tup [ML,.str 1457340367685],(rf pq [] [] z2),(rf df [] [] z2),.tup [.str 299,n1,(rf fX [] [] z2)]])) 4 [zz,hH] (sb (ew 5 [zz,hH,.tok 3]) 31 [(rf uE [] [] z2)])) 32 [.tup [Jd,.bytes [.c 49]],.tup [Jd,.bytes [.c 49,.c 50]],.tup [Jd,.bytes [.c 49,.c 50,.c 51]],.tup [Jd,.bytes [.c 49,.c 50,.c 51,.c 52]],.tup [Jd,.bytes [.c 49,.c 50,.c 51,.c 52,.c 53]],.tup [Jd,.bytes [.c 49,.c 50,.c 51,.c 52,.c 53,.c 54]],.tup [Jd,.bytes [.c 49,.c 50,.c 51,.c 52,.c 53,.c 54,.c 55]]] (.node (.node (ew 33 [.tup [ML,.str 5809459791]]) 34 [.tup [ML,.str 1457340367685],.tup [ML,.str 5507729224],.tup [ML,.str 21778263],.tup [ML,.str 1448835241029]] (ew 35 [.tup [.str 23161964,.bytes [.c 55]],.tup [.str 23161964,.bytes [.c 55,.c 48]],.tup [.str 23161964,.bytes [.c 55,.c 48,.c 53]]])) 36 [.tup [.str 402925602104690,.tup [.int (.u (some (-300)) (some 699)),z3]]] (sb (ew 40 [.tup [fh,pC,.tok 300,wJ,z2],.tup [fh,pC,.tok 300,wJ,mZ],.tup [fh,pC,.tok 320,AF,z2],.tup [fh,pC,.tok 320,AF,mZ],.tup [fh,pC,.tok 320,.tok 390,c0],.tup [fh,fX,.tok 301,wJ,z2],.tup [fh,fX,.tok 301,wJ,mZ],.tup [fh,fX,.tok 321,AF,z2],.tup [fh,fX,.tok 321,AF,mZ],.tup [fh,fX,.tok 321,.tok 390,c0],.tup [fh,fP,.tok 302,wJ,z2],.tup [fh,fP,.tok 302,wJ,mZ],.tup [fh,fP,.tok 322,AF,z2],.tup [fh,fP,.tok 322,AF,mZ],.tup [fh,fP,.tok 322,.tok 390,c0],.tup [fh,gl,.tok 303,wJ,z2],.tup [fh,gl,.tok 303,wJ,mZ],.tup [fh,gl,.tok 323,AF,z2],.tup [fh,gl,.tok 323,AF,mZ],.tup [fh,gl,.tok 323,.tok 390,c0],.tup [fh,gH,.tok 304,wJ,z2],.tup [fh,gH,.tok 304,wJ,mZ],.tup [fh,gH,.tok 324,AF,z2],.tup [fh,gH,.tok 324,AF,mZ],.tup [fh,gH,.tok 324,.tok 390,c0],.tup [fh,iZ,.tok 305,.tok 341,z2],.tup [fh,iZ,.tok 305,.tok 341,mZ],.tup [fh,iZ,.tok 325,.tok 351,z2],.tup [fh,iZ,.tok 325,.tok 361,z2],.tup [fh,iZ,.tok 325,.tok 351,mZ],.tup [fh,iZ,.tok 325,.tok 361,mZ],.tup [fh,iZ,.tok 325,.tok 391,c0],.tup [fh,i8,.tok 306,.tok 341,z2],.tup [fh,i8,.tok 306,.tok 341,mZ],.tup [fh,i8,.tok 326,.tok 351,z2],.tup [fh,i8,.tok 326,.tok 361,z2],.tup [fh,i8,.tok 326,.tok 351,mZ],.tup [fh,i8,.tok 326,.tok 361,mZ],.tup [fh,i8,.tok 326,.tok 391,c0],.tup [fh,fU,.tok 307,.tok 342,z2],.tup [fh,fU,.tok 307,.tok 342,mZ],.tup [fh,fU,.tok 327,.tok 352,z2],.tup [fh,fU,.tok 327,.tok 362,z2],.tup [fh,fU,.tok 327,.tok 352,mZ],.tup [fh,fU,.tok 327,.tok 362,mZ],.tup [fh,fU,.tok 327,.tok 392,c0],.tup [fh,df,.tok 308,wJ,z2],.tup [fh,df,.tok 308,wJ,mZ],.tup [fh,df,.tok 328,AF,z2],.tup [fh,df,.tok 328,AF,mZ],.tup [fh,df,.tok 328,.tok 390,c0],.tup [fh,pq,.tok 310,wJ,z2],.tup [fh,pq,.tok 310,wJ,mZ]]) 50 [.tok 100,.tok 115,.tok 118]))) 51 [.tok 103] (.node (.node (.node (ew 52 [.tok 101,.tok 102,.tok 104,.tok 105,.tok 106,.tok 107,.tok 108,.tok 110,.tok 111,.tok 113,.tok 114,.tok 116,.tok 117,.tok 119,.tok 120,.tok 122,.tok 123,.tok 125,.tok 126,.tok 127,.tok 128,.tok 129,.tok 130,.tok 131,.tok 132,.tok 133,.tok 134,.tok 135,.tok 136,.tok 137,.tok 138,.tok 141,.tok 142,.tok 143,.tok 144]) 53 [.tok 109,.tok 121,.tok 124,.tok 139,.tok 140] (ew 54 [.tok 112])) 60 [jX,jY,jZ,j2,sd,sf,jK,jL,jN] (sb (ew 61 [jX,jY,jZ,sf,jL,jN]) 62 [jX,jY,jZ,j2,sd,sf,jK,jL,jN])) 63 [jX,jZ,j2,sd,sf,jK,jN] (.node (.node (ew 64 []) 70 [j3,ja,jb] (ew 71 [j2,j3,sd,jK,ja,jb])) 72 [j3,ja,jb] (sb (ew 73 [jY,j3,jL,ja,jb]) 74 [jX,jY,jZ,j2,j3,sd,sf,jK,jL,jN,ja,jb])))) 80 [jX,jY,jZ,j2,j3,sd,sf,jK,jL,jN,ja,jb] (.node (.node (.node (.node (ew 81 [.tok 100,.tok 101,.tok 102,.tok 103,.tok 104,.tok 105,.tok 106,.tok 107,.tok 108,.tok 109,.tok 110,.tok 111,.tok 112,.tok 113,.tok 114,.tok 115,.tok 116,.tok 117,.tok 118,.tok 119,.tok 120,.tok 121,.tok 122,.tok 123,.tok 124,.tok 125,.tok 126,.tok 127,.tok 128,.tok 129,.tok 130,.tok 131,.tok 132,.tok 133,.tok 134,.tok 135,.tok 136,.tok 137,.tok 138,.tok 139,.tok 140,.tok 141,.tok 142,.tok 143,.tok 144,jb,ja]) 82 [LH,LI,LJ,LK,.tup [za,z1],LL,.tup [zi,z1],MM,.tup [zl,z1],LM,LN,LP,LQ,LR,LS,Fl,Fm,Fn,Fo,Fq,Fs,z2] (ew 83 [jX,jY,jZ,j2,j3,sd,sf,jK,jL,jN,ja,jb])) 100 [(rf pC [] [] z2)] (sb (ew 101 [(rf pC [] [] c1)]) 102 [(rf pC [] [] c2)])) 103 [(rf fX [] [] z2),(rf fX qR [] z2)] (.node (.node (ew 104 [(rf fX [] [] c1),(rf fX qR [] c1)]) 105 [(rf fX [] [] c2),(rf fX qR [] c2)] (ew 106 [RR,(rf fP qR [] z2)])) 107 [(rf fP [] [] c1),(rf fP qR [] c1)] (sb (ew 108 [(rf fP [] [] c2),(rf fP qR [] c2)]) 109 [(rf gl [] [] z2),(rf gl qR [] z2)]))) 110 [(rf gl [] [] c1),(rf gl qR [] c1)] (.node (.node (.node (ew 111 [(rf gl [] [] c2),(rf gl qR [] c2)]) 112 [(rf gH [] [] z2),(rf gH qR [] z2)] (ew 113 [(rf gH [] [] c1),(rf gH qR [] c1)])) 114 [(rf gH [] [] c2),(rf gH qR [] c2)] (sb (ew 115 [(rf iZ [] [zz] z2),(rf iZ qR [zz] z2)]) 116 [(rf iZ [] [zz] c1),(rf iZ qR [zz] c1)])) 117 [(rf iZ [] [zz] c2),(rf iZ qR [zz] c2)] (.node (.node (ew 118 [(rf iZ [] [hH] z2),(rf iZ qR [hH] z2)]) 119 [(rf iZ [] [hH] c1),(rf iZ qR [hH] c1)] (ew 120 [(rf iZ [] [hH] c2),(rf iZ qR [hH] c2)])) 121 [(rf i8 [] [zz] z2),(rf i8 qR [zz] z2)] (sb (ew 122 [(rf i8 [] [zz] c1),(rf i8 qR [zz] c1)]) 123 [(rf i8 [] [zz] c2),(rf i8 qR [zz] c2)]))))) 124 [(rf i8 [] [hH] z2),(rf i8 qR [hH] z2)] (.node (.node (.node (.node (.node (ew 125 [(rf i8 [] [hH] c1),(rf i8 qR [hH] c1)]) 126 [(rf i8 [] [hH] c2),(rf i8 qR [hH] c2)] (ew 127 [(rf fU [] [zz,zz] z2),(rf fU qR [zz,zz] z2)])) 128 [(rf fU [] [zz,zz] c1),(rf fU qR [zz,zz] c1)] (sb (ew 129 [(rf fU [] [zz,zz] c2),(rf fU qR [zz,zz] c2)]) 130 [(rf fU [] [zz,hH] z2),(rf fU qR [zz,hH] z2)])) 131 [(rf fU [] [zz,hH] c1),(rf fU qR [zz,hH] c1)] (.node (.node (ew 132 [(rf fU [] [zz,hH] c2),(rf fU qR [zz,hH] c2)]) 133 [(rf fU [] [hH,zz] z2),(rf fU qR [hH,zz] z2)] (ew 134 [(rf fU [] [hH,zz] c1),(rf fU qR [hH,zz] c1)])) 135 [(rf fU [] [hH,zz] c2),(rf fU qR [hH,zz] c2)] (sb (ew 136 [(rf fU [] [hH,hH] z2),(rf fU qR [hH,hH] z2)]) 137 [(rf fU [] [hH,hH] c1),(rf fU qR [hH,hH] c1)]))) 138 [(rf fU [] [hH,hH] c2),(rf fU qR [hH,hH] c2)] (.node (.node (.node (ew 139 [(rf df q3 [] z2)]) 140 [(rf df q2 [] z2)] (ew 141 [(rf df q3 [] c1)])) 142 [(rf df q2 [] c1)] (sb (ew 143 [(rf df q3 [] c2)]) 144 [(rf df q2 [] c2)])) 300 [qH,qd] (.node (.node (ew 301 [qd]) 302 [qd] (ew 303 [qd])) 304 [qd] (sb (ew 305 [qd]) 306 [qd])))) 307 [qd] (.node (.node (.node (.node (ew 308 [zo]) 310 [zo,qH,qd] (ew 320 [zo])) 321 [zo,qH] (sb (ew 322 [zo,qH]) 323 [zo,qH])) 324 [zo,qH] (.node (.node (ew 325 [zo,qH]) 326 [zo,qH] (ew 327 [zo,qH])) 328 [AV,qd] (sb (ew 340 [zo,MN]) 341 [zo,MN,RS]))) 342 [MN,RS,.tup [.tok 5,.tok 5,.tok 5]] (.node (.node (.node (ew 350 [MN]) 351 [zo,RS] (ew 352 [MN,.tup [.tok 5,.tok 5,.tok 5]])) 361 [.tup [.tok 3]] (sb (ew 362 [.tup [.tok 3,.tok 5],.tup [.tok 4,.tok 3]]) 370 [c0,c1,c2])) 380 [pC,fX,fP,gl,gH,iZ,i8,fU,df,uE,pq] (.node (sb (ew 381 [.tok 300,.tok 301,.tok 302,.tok 303,.tok 304,.tok 305,.tok 306,.tok 307,.tok 308,.tok 310,.tok 320,.tok 321,.tok 322,.tok 323,.tok 324,.tok 325,.tok 326,.tok 327,.tok 328]) 382 [wJ,.tok 341,.tok 342,AF,.tok 351,.tok 352,.tok 361,.tok 362,.tok 390,.tok 391,.tok 392]) 390 [zo] (sb (ew 391 [MN]) 392 [RS]))))))
noncomputable def mj(x:Bool)(k:Nat):List V:=db (U9 k 11) [n1,rf uE [] [] .none,db x (.tup [.str 301,.tup [.str 402925602104690,.tup [za,z3]],(rf df q2 [] z2)]) ((rf df q2 [] z2))] (db (U9 k 12) [n2,db x ((rf df q2 [] z2)) (.tup [.str 301,.tup [.str 402925602104690,.tup [za,z3]],(rf df q2 [] z2)])] (db (U9 k 1000027) [.int (.c (db x 50 49))] []))
noncomputable def toks(x:Bool)(k:Nat):List V:=dq (TT.get k) (mj x k) λl=>l
noncomputable def ST(k:Nat):Bool:=Vk 50 k&&Vk k 54||Vk 31 k&&Vk k 36||U9 k 40
noncomputable def lzy(i k:Nat):Bool:=match U9 i 183 with
 |true=>Vk 60 k&&Vk k 80
 |false=>(U9 i 146||(U9 i 145||(U9 i 144||U9 i 171)))&&ST k||(U9 i 135||(U9 i 136||U9 i 167))&&(Vk 50 k&&Vk k 54||(U9 k 31||U9 k 40))
noncomputable def egr(k:Nat):Bool:=Vk 300 k&&Vk k 399
noncomputable def T5:BT (List (Nat×List dw)):=(c7 2 0 [⟨[zx],[],[],[(yn (.list [.wr 8,.wr 18,.wr 27,.wr 37,.wr 47,.wr 56,.wr 68,.wr 77,.wr 84,.wr 96,.wr 101,.wr 113]) zy)]⟩])
noncomputable def T6:BT (List (Nat×List dw)):=(dh (dh (dh (c7 16 0 [⟨[.wr 8],[],[],eX⟩]) 36 0 [⟨[.wr 18],[],[],Od⟩] (c7 54 0 [⟨[.wr 27],[],[],Od⟩])) 74 0 [⟨[.wr 37],[],[],Od⟩] (dK (c7 94 0 [⟨[.wr 47],[],[],Od⟩]) 112 0 [⟨[.wr 56],[],[],Od⟩])) 136 0 [⟨[.wr 68],[],[],[(yn (.list [iZ,pC]) zy)]⟩] (dh (dK (c7 154 0 [⟨[.wr 77],[],[],[(yn (.list [iZ,pC]) zy)]⟩]) 168 0 [⟨[.wr 84],[],[],eX⟩]) 192 0 [⟨[.wr 96],[],[],[(yn (.list q2) zy)]⟩] (dK (c7 202 0 [⟨[.wr 101],[],[],eX⟩]) 226 0 [⟨[.wr 113],[],[],[(yn (.list q3) zy)]⟩])))
noncomputable def T7:BT (List (Nat×List dw)):=(dh (dh (dh (c7 16 0 [⟨[.wr 8],[],[],eX⟩]) 36 0 [⟨[.wr 18],[],[],eX⟩] (c7 54 0 [⟨[.wr 27],[],[],eX⟩])) 74 0 [⟨[.wr 37],[],[],eX⟩] (dK (c7 94 0 [⟨[.wr 47],[],[],eX⟩]) 112 0 [⟨[.wr 56],[],[],[(yn (.list [.wr 56]) zy)]⟩])) 136 0 [⟨[.wr 68],[],[],[(yn (.list [.wr 56]) zy)]⟩] (dh (dK (c7 154 0 [⟨[.wr 77],[],[],[(yn (.list [.wr 56,.wr 77]) zy)]⟩]) 168 0 [⟨[.wr 84],[],[],eX⟩]) 192 0 [⟨[.wr 96],[],[],eX⟩] (dK (c7 202 0 [⟨[.wr 101],[],[],eX⟩]) 226 0 [⟨[.wr 113],[],[],eX⟩])))
noncomputable def T8:BT (List (Nat×List dw)):=(dh (dh (dh (dh (c7 43226768660544 0 [⟨[z6,z6],[],[],wK⟩]) 43243812862032 0 [⟨[z6,zk],[],[],pD⟩] (c7 43448343279888 0 [⟨[zk,z6],[],[],pD⟩])) 43465387481376 0 [⟨[zk,zk],[],[],pD⟩] (dK (c7 206338047522291750 0 [⟨[z6,zh],[],[],wK⟩]) 206338269096911094 0 [⟨[zk,zh],[],[],pD⟩])) 2681875896565866222 0 [⟨[zh,z6],[],[],wK⟩] (dh (dK (c7 2681875913610067710 0 [⟨[zh,zk],[],[],pD⟩]) 2888170717319497428 0 [⟨[zh,zh],[],[],wK⟩]) 3337991433328040051654694 0 [⟨[z6,z9],[],[],wK⟩] (dK (c7 3337991433328261626274038 0 [⟨[zk,z9],[],[],pD⟩]) 3337994115160709848860372 0 [⟨[zh,z9],[],[],pD⟩]))) 43393888632745799447584494 0 [⟨[z9,z6],[],[],wK⟩] (dh (dh (dh (c7 43393888632745816491785982 0 [⟨[z9,zk],[],[],pD⟩]) 43393888839040620201215700 0 [⟨[z9,zh],[],[],pD⟩] (c7 46731880066030612730578644 0 [⟨[z9,z9],[],[],wK⟩])) 218758606571962704656351019046 0 [⟨[z6,zd],[],[],wK⟩] (dK (c7 218758606571962704877925638390 0 [⟨[zk,zd],[],[],pD⟩]) 218758606574644537326148224724 0 [⟨[zh,zd],[],[],wK⟩])) 218802000460595407229029942996 0 [⟨[z9,zd],[],[],wK⟩] (dh (dK (c7 2843861885435514641811339321070 0 [⟨[zd,z6],[],[],wK⟩]) 2843861885435514641828383522558 0 [⟨[zd,zk],[],[],pD⟩]) 2843861885435720936632092952276 0 [⟨[zd,zh],[],[],wK⟩] (dK (c7 2843865223426947926624622315220 0 [⟨[zd,z9],[],[],wK⟩]) 3062620492007477303240921679572 0 [⟨[zd,zd],[],[],wK⟩]))))
noncomputable def T9:BT (List (Nat×List dw)):=(dh (dh (dK (c7 366 1 [⟨[zy,eI,dA],[1,3],[zs,zs],dP⟩,⟨[zy,yJ,dA],[1,3],[lu,zs],dP⟩,⟨[zy,yK,dA],[1,3],[lu,zs],dP⟩,⟨[zy,eI,dA],[1,3],[zu,zs],dP⟩]) 368 1 [⟨[zy,eI,dA],[1,3],[zs,gI],fF⟩,⟨[zy,yJ,dA],[1,3],[lu,gI],fF⟩,⟨[zy,yK,dA],[1,3],[lu,gI],fF⟩,⟨[zy,eI,dA],[1,3],[zu,gI],fF⟩]) 370 1 [⟨[zy,eI,dA],[1,3],[zs,gK],gV⟩,⟨[zy,yJ,dA],[1,3],[lu,gK],gV⟩,⟨[zy,yK,dA],[1,3],[lu,gK],gV⟩,⟨[zy,eI,dA],[1,3],[zu,gK],gV⟩] (dK (c7 372 1 [⟨[zy,eI,dA],[1,3],[zs,zf],dL⟩,⟨[zy,yJ,dA],[1,3],[lu,zf],dL⟩,⟨[zy,yK,dA],[1,3],[lu,zf],dL⟩,⟨[zy,eI,dA],[1,3],[zu,zf],dL⟩]) 390 1 [⟨[zy,eI,z5],[1],[zs],fD⟩,⟨[zy,yJ,z5],[1],[lu],fD⟩,⟨[zy,yK,z5],[1],[lu],fD⟩,⟨[zy,eI,z5],[1],[zu],fD⟩])) 394 1 [⟨[zy,eI,zc],[1],[zs],gV⟩] (dh (dK (c7 412 1 [⟨[zy,eI,zg],[1],[zs],dL⟩,⟨[zy,yJ,zg],[1],[lu],dL⟩,⟨[zy,yK,zg],[1],[lu],dL⟩,⟨[zy,eI,zg],[1],[zu],dL⟩]) 418 1 [⟨[zy,eI,dA],[1,3],[zs,gM],fD⟩,⟨[zy,yJ,dA],[1,3],[lu,gM],fD⟩,⟨[zy,yK,dA],[1,3],[lu,gM],fD⟩,⟨[zy,eI,dA],[1,3],[zu,gM],fD⟩]) 432 1 [⟨[zy,eI,zj],[1],[zs],dL⟩,⟨[zy,yJ,zj],[1],[lu],dL⟩,⟨[zy,yK,zj],[1],[lu],dL⟩,⟨[zy,eI,zj],[1],[zu],dL⟩] (c7 470 1 [⟨[zy,eI,zn],[1],[zs],dL⟩,⟨[zy,yJ,zn],[1],[lu],dL⟩,⟨[zy,yK,zn],[1],[lu],dL⟩,⟨[zy,eI,zn],[1],[zu],dL⟩])))
noncomputable def Ua:BT (List (Nat×List dw)):=(dh (dh (dK (c7 494 1 [⟨[zy,eI,zr],[1],[zs],fF⟩,⟨[zy,yJ,zr],[1],[lu],fF⟩,⟨[zy,yK,zr],[1],[lu],fF⟩,⟨[zy,eI,zr],[1],[zu],fF⟩]) 512 1 [⟨[zy,eI,zt],[1],[zs],dP⟩,⟨[zy,yJ,zt],[1],[lu],dP⟩,⟨[zy,yK,zt],[1],[lu],dP⟩,⟨[zy,eI,zt],[1],[zu],dP⟩]) 550 1 [⟨[zy,eI,zv],[1],[zs],dP⟩,⟨[zy,yJ,zv],[1],[lu],dP⟩,⟨[zy,yK,zv],[1],[lu],dP⟩,⟨[zy,eI,zv],[1],[zu],dP⟩] (dK (c7 584 1 [⟨[zy,eI,zw],[1],[zs],dP⟩,⟨[zy,yJ,zw],[1],[lu],dP⟩,⟨[zy,yK,zw],[1],[lu],dP⟩,⟨[zy,eI,zw],[1],[zu],dP⟩]) 730 1 [⟨[zy,gW,dA],[1,3],[gI,zs],dP⟩,⟨[zy,yL,dA],[1,3],[lv,zs],dP⟩,⟨[zy,yM,dA],[1,3],[lv,zs],dP⟩,⟨[zy,gW,dA],[1,3],[zq,zs],dP⟩])) 732 1 [⟨[zy,gW,dA],[1,3],[gI,gI],fF⟩,⟨[zy,yL,dA],[1,3],[lv,gI],fF⟩,⟨[zy,yM,dA],[1,3],[lv,gI],fF⟩,⟨[zy,gW,dA],[1,3],[zq,gI],fF⟩] (dh (dK (c7 734 1 [⟨[zy,gW,dA],[1,3],[gI,gK],gV⟩,⟨[zy,yL,dA],[1,3],[lv,gK],gV⟩,⟨[zy,yM,dA],[1,3],[lv,gK],gV⟩,⟨[zy,gW,dA],[1,3],[zq,gK],gV⟩]) 736 1 [⟨[zy,gW,dA],[1,3],[gI,zf],dL⟩,⟨[zy,yL,dA],[1,3],[lv,zf],dL⟩,⟨[zy,yM,dA],[1,3],[lv,zf],dL⟩,⟨[zy,gW,dA],[1,3],[zq,zf],dL⟩]) 754 1 [⟨[zy,gW,z5],[1],[gI],fD⟩,⟨[zy,yL,z5],[1],[lv],fD⟩,⟨[zy,yM,z5],[1],[lv],fD⟩,⟨[zy,gW,z5],[1],[zq],fD⟩] (c7 758 1 [⟨[zy,gW,zc],[1],[gI],gV⟩])))
noncomputable def Uc:BT (List (Nat×List dw)):=(dh (dh (dK (c7 776 1 [⟨[zy,gW,zg],[1],[gI],dL⟩,⟨[zy,yL,zg],[1],[lv],dL⟩,⟨[zy,yM,zg],[1],[lv],dL⟩,⟨[zy,gW,zg],[1],[zq],dL⟩]) 782 1 [⟨[zy,gW,dA],[1,3],[gI,gM],fD⟩,⟨[zy,yL,dA],[1,3],[lv,gM],fD⟩,⟨[zy,yM,dA],[1,3],[lv,gM],fD⟩,⟨[zy,gW,dA],[1,3],[zq,gM],fD⟩]) 796 1 [⟨[zy,gW,zj],[1],[gI],dL⟩,⟨[zy,yL,zj],[1],[lv],dL⟩,⟨[zy,yM,zj],[1],[lv],dL⟩,⟨[zy,gW,zj],[1],[zq],dL⟩] (dK (c7 834 1 [⟨[zy,gW,zn],[1],[gI],dL⟩,⟨[zy,yL,zn],[1],[lv],dL⟩,⟨[zy,yM,zn],[1],[lv],dL⟩,⟨[zy,gW,zn],[1],[zq],dL⟩]) 858 1 [⟨[zy,gW,zr],[1],[gI],fF⟩,⟨[zy,yL,zr],[1],[lv],fF⟩,⟨[zy,yM,zr],[1],[lv],fF⟩,⟨[zy,gW,zr],[1],[zq],fF⟩])) 876 1 [⟨[zy,gW,zt],[1],[gI],dP⟩,⟨[zy,yL,zt],[1],[lv],dP⟩,⟨[zy,yM,zt],[1],[lv],dP⟩,⟨[zy,gW,zt],[1],[zq],dP⟩] (dh (dK (c7 914 1 [⟨[zy,gW,zv],[1],[gI],dP⟩,⟨[zy,yL,zv],[1],[lv],dP⟩,⟨[zy,yM,zv],[1],[lv],dP⟩,⟨[zy,gW,zv],[1],[zq],dP⟩]) 948 1 [⟨[zy,gW,zw],[1],[gI],dP⟩,⟨[zy,yL,zw],[1],[lv],dP⟩,⟨[zy,yM,zw],[1],[lv],dP⟩,⟨[zy,gW,zw],[1],[zq],dP⟩]) 1094 1 [⟨[zy,im,dA],[1,3],[gK,zs],dP⟩,⟨[zy,yN,dA],[1,3],[lz,zs],dP⟩,⟨[zy,yO,dA],[1,3],[lz,zs],dP⟩,⟨[zy,im,dA],[1,3],[yP,zs],dP⟩] (c7 1096 1 [⟨[zy,im,dA],[1,3],[gK,gI],fF⟩,⟨[zy,yN,dA],[1,3],[lz,gI],fF⟩,⟨[zy,yO,dA],[1,3],[lz,gI],fF⟩,⟨[zy,im,dA],[1,3],[yP,gI],fF⟩])))
noncomputable def Ud:BT (List (Nat×List dw)):=(dh (dh (dK (c7 1098 1 [⟨[zy,im,dA],[1,3],[gK,gK],gV⟩,⟨[zy,yN,dA],[1,3],[lz,gK],gV⟩,⟨[zy,yO,dA],[1,3],[lz,gK],gV⟩,⟨[zy,im,dA],[1,3],[yP,gK],gV⟩]) 1100 1 [⟨[zy,im,dA],[1,3],[gK,zf],dL⟩,⟨[zy,yN,dA],[1,3],[lz,zf],dL⟩,⟨[zy,yO,dA],[1,3],[lz,zf],dL⟩,⟨[zy,im,dA],[1,3],[yP,zf],dL⟩]) 1118 1 [⟨[zy,im,z5],[1],[gK],fD⟩,⟨[zy,yN,z5],[1],[lz],fD⟩,⟨[zy,yO,z5],[1],[lz],fD⟩,⟨[zy,im,z5],[1],[yP],fD⟩] (dK (c7 1122 1 [⟨[zy,im,zc],[1],[gK],gV⟩]) 1140 1 [⟨[zy,im,zg],[1],[gK],dL⟩,⟨[zy,yN,zg],[1],[lz],dL⟩,⟨[zy,yO,zg],[1],[lz],dL⟩,⟨[zy,im,zg],[1],[yP],dL⟩])) 1146 1 [⟨[zy,im,dA],[1,3],[gK,gM],fD⟩,⟨[zy,yN,dA],[1,3],[lz,gM],fD⟩,⟨[zy,yO,dA],[1,3],[lz,gM],fD⟩,⟨[zy,im,dA],[1,3],[yP,gM],fD⟩] (dh (dK (c7 1160 1 [⟨[zy,im,zj],[1],[gK],dL⟩,⟨[zy,yN,zj],[1],[lz],dL⟩,⟨[zy,yO,zj],[1],[lz],dL⟩,⟨[zy,im,zj],[1],[yP],dL⟩]) 1198 1 [⟨[zy,im,zn],[1],[gK],dL⟩,⟨[zy,yN,zn],[1],[lz],dL⟩,⟨[zy,yO,zn],[1],[lz],dL⟩,⟨[zy,im,zn],[1],[yP],dL⟩]) 1222 1 [⟨[zy,im,zr],[1],[gK],fF⟩,⟨[zy,yN,zr],[1],[lz],fF⟩,⟨[zy,yO,zr],[1],[lz],fF⟩,⟨[zy,im,zr],[1],[yP],fF⟩] (c7 1240 1 [⟨[zy,im,zt],[1],[gK],dP⟩,⟨[zy,yN,zt],[1],[lz],dP⟩,⟨[zy,yO,zt],[1],[lz],dP⟩,⟨[zy,im,zt],[1],[yP],dP⟩])))
noncomputable def Ue:BT (List (Nat×List dw)):=(dh (dh (dh (dh (dK (c7 1278 1 [⟨[zy,im,zv],[1],[gK],dP⟩,⟨[zy,yN,zv],[1],[lz],dP⟩,⟨[zy,yO,zv],[1],[lz],dP⟩,⟨[zy,im,zv],[1],[yP],dP⟩]) 1312 1 [⟨[zy,im,zw],[1],[gK],dP⟩,⟨[zy,yN,zw],[1],[lz],dP⟩,⟨[zy,yO,zw],[1],[lz],dP⟩,⟨[zy,im,zw],[1],[yP],dP⟩]) 1458 1 [⟨[zy,fg,dA],[1,3],[zf,zs],dP⟩] (c7 1460 1 [⟨[zy,fg,dA],[1,3],[zf,gI],fF⟩])) 1462 1 [⟨[zy,fg,dA],[1,3],[zf,gK],gV⟩] (dh (c7 1464 1 [⟨[zy,fg,dA],[1,3],[zf,zf],dL⟩]) 1482 1 [⟨[zy,fg,z5],[1],[zf],fD⟩] (c7 1486 1 [⟨[zy,fg,zc],[1],[zf],gV⟩]))) 1504 1 [⟨[zy,fg,zg],[1],[zf],dL⟩] (dh (dh (dK (c7 1510 1 [⟨[zy,fg,dA],[1,3],[zf,gM],fD⟩]) 1524 1 [⟨[zy,fg,zj],[1],[zf],dL⟩]) 1562 1 [⟨[zy,fg,zn],[1],[zf],dL⟩] (c7 1586 1 [⟨[zy,fg,zr],[1],[zf],fF⟩])) 1604 1 [⟨[zy,fg,zt],[1],[zf],dP⟩] (dh (c7 1642 1 [⟨[zy,fg,zv],[1],[zf],dP⟩]) 1676 1 [⟨[zy,fg,zw],[1],[zf],dP⟩] (c7 1822 1 [⟨[zy,wL,dA],[1,3],[wM,zs],dP⟩])))) 1824 1 [⟨[zy,wL,dA],[1,3],[wM,gI],fF⟩] (dh (dh (dh (dK (c7 1826 1 [⟨[zy,wL,dA],[1,3],[wM,gK],gV⟩]) 1828 1 [⟨[zy,wL,dA],[1,3],[wM,zf],dL⟩]) 1846 1 [⟨[zy,wL,z5],[1],[wM],fD⟩] (c7 1850 1 [⟨[zy,wL,zc],[1],[wM],gV⟩])) 1868 1 [⟨[zy,wL,zg],[1],[wM],dL⟩] (dh (c7 1874 1 [⟨[zy,wL,dA],[1,3],[wM,gM],fD⟩]) 1888 1 [⟨[zy,wL,zj],[1],[wM],dL⟩] (c7 1926 1 [⟨[zy,wL,zn],[1],[wM],dL⟩]))) 1950 1 [⟨[zy,wL,zr],[1],[wM],fF⟩] (dh (dh (c7 1968 1 [⟨[zy,wL,zt],[1],[wM],dP⟩]) 2006 1 [⟨[zy,wL,zv],[1],[wM],dP⟩] (c7 2040 1 [⟨[zy,wL,zw],[1],[wM],dP⟩])) 2186 1 [⟨[zy,wN,dA],[1,3],[wO,zs],dP⟩] (dh (c7 2188 1 [⟨[zy,wN,dA],[1,3],[wO,gI],fF⟩]) 2190 1 [⟨[zy,wN,dA],[1,3],[wO,gK],gV⟩] (c7 2192 1 [⟨[zy,wN,dA],[1,3],[wO,zf],dL⟩])))))
noncomputable def Uf:BT (List (Nat×List dw)):=(dh (dh (dh (dh (dK (c7 2210 1 [⟨[zy,wN,z5],[1],[wO],fD⟩]) 2214 1 [⟨[zy,wN,zc],[1],[wO],gV⟩]) 2232 1 [⟨[zy,wN,zg],[1],[wO],dL⟩] (c7 2238 1 [⟨[zy,wN,dA],[1,3],[wO,gM],fD⟩])) 2252 1 [⟨[zy,wN,zj],[1],[wO],dL⟩] (dh (dK (c7 2290 1 [⟨[zy,wN,zn],[1],[wO],dL⟩]) 2314 1 [⟨[zy,wN,zr],[1],[wO],fF⟩]) 2332 1 [⟨[zy,wN,zt],[1],[wO],dP⟩] (c7 2370 1 [⟨[zy,wN,zv],[1],[wO],dP⟩]))) 2404 1 [⟨[zy,wN,zw],[1],[wO],dP⟩] (dh (dh (dK (c7 2550 1 [⟨[zy,wQ,dA],[1,3],[wS,zs],dP⟩]) 2552 1 [⟨[zy,wQ,dA],[1,3],[wS,gI],fF⟩]) 2554 1 [⟨[zy,wQ,dA],[1,3],[wS,gK],gV⟩] (c7 2556 1 [⟨[zy,wQ,dA],[1,3],[wS,zf],dL⟩])) 2574 1 [⟨[zy,wQ,z5],[1],[wS],fD⟩] (dh (dK (c7 2578 1 [⟨[zy,wQ,zc],[1],[wS],gV⟩]) 2596 1 [⟨[zy,wQ,zg],[1],[wS],dL⟩]) 2602 1 [⟨[zy,wQ,dA],[1,3],[wS,gM],fD⟩] (c7 2616 1 [⟨[zy,wQ,zj],[1],[wS],dL⟩])))) 2654 1 [⟨[zy,wQ,zn],[1],[wS],dL⟩] (dh (dh (dh (dK (c7 2678 1 [⟨[zy,wQ,zr],[1],[wS],fF⟩]) 2696 1 [⟨[zy,wQ,zt],[1],[wS],dP⟩]) 2734 1 [⟨[zy,wQ,zv],[1],[wS],dP⟩] (c7 2768 1 [⟨[zy,wQ,zw],[1],[wS],dP⟩])) 5098 1 [⟨[z5,ki,zy],[3],[zs],dP⟩] (dh (dK (c7 5100 1 [⟨[z5,ki,zy],[3],[gI],fF⟩]) 5102 1 [⟨[z5,ki,zy],[3],[gK],gV⟩]) 5104 1 [⟨[z5,ki,zy],[3],[zf],dL⟩] (c7 5122 1 [⟨[z5,ki,z5],[],[],fD⟩]))) 5126 1 [⟨[z5,ki,zc],[],[],gV⟩] (dh (dh (dK (c7 5144 1 [⟨[z5,ki,zg],[],[],dL⟩]) 5150 1 [⟨[z5,ki,zy],[3],[gM],fD⟩,⟨[zc,im,zy],[3],[zs],dP⟩]) 5152 1 [⟨[zc,im,zy],[3],[gI],fF⟩] (c7 5154 1 [⟨[zc,im,zy],[3],[gK],gV⟩])) 5156 1 [⟨[zc,im,zy],[3],[zf],dL⟩] (dh (dK (c7 5164 1 [⟨[z5,ki,zj],[],[],dL⟩]) 5174 1 [⟨[zc,im,z5],[],[],fD⟩]) 5178 1 [⟨[zc,im,zc],[],[],gV⟩] (c7 5196 1 [⟨[zc,im,zg],[],[],dL⟩])))))
noncomputable def Oe:BT (List (Nat×List dw)):=(dh (dh (dh (dh (dK (c7 5202 1 [⟨[z5,ki,zn],[],[],dL⟩,⟨[zc,im,zy],[3],[gM],fD⟩]) 5226 1 [⟨[z5,ki,zr],[],[],fF⟩]) 5244 1 [⟨[z5,ki,zt],[],[],dP⟩] (c7 5254 1 [⟨[zc,im,zn],[],[],dL⟩])) 5282 1 [⟨[z5,ki,zv],[],[],dP⟩] (dh (dK (c7 5296 1 [⟨[zc,im,zt],[],[],dP⟩]) 5316 1 [⟨[z5,ki,zw],[],[],dP⟩]) 8218 1 [⟨[zg,fg,zy],[3],[zs],dP⟩] (c7 8220 1 [⟨[zg,fg,zy],[3],[gI],fF⟩]))) 8222 1 [⟨[zg,fg,zy],[3],[gK],gV⟩] (dh (dh (dK (c7 8224 1 [⟨[zg,fg,zy],[3],[zf],dL⟩]) 8242 1 [⟨[zg,fg,z5],[],[],fD⟩]) 8246 1 [⟨[zg,fg,zc],[],[],gV⟩] (c7 8264 1 [⟨[zg,fg,zg],[],[],dL⟩])) 8270 1 [⟨[zg,fg,zy],[3],[gM],fD⟩] (dh (dK (c7 8284 1 [⟨[zg,fg,zj],[],[],dL⟩]) 8322 1 [⟨[zg,fg,zn],[],[],dL⟩]) 8346 1 [⟨[zg,fg,zr],[],[],fF⟩] (c7 8364 1 [⟨[zg,fg,zt],[],[],dP⟩])))) 8402 1 [⟨[zg,fg,zv],[],[],dP⟩] (dh (dh (dh (dK (c7 8436 1 [⟨[zg,fg,zw],[],[],dP⟩]) 9830 1 [⟨[zy,ki,dA],[1,3],[gM,zs],dP⟩]) 9832 1 [⟨[zy,ki,dA],[1,3],[gM,gI],fF⟩] (c7 9834 1 [⟨[zy,ki,dA],[1,3],[gM,gK],gV⟩])) 9836 1 [⟨[zy,ki,dA],[1,3],[gM,zf],dL⟩] (dh (dK (c7 9854 1 [⟨[zy,ki,z5],[1],[gM],fD⟩]) 9858 1 [⟨[zy,ki,zc],[1],[gM],gV⟩]) 9876 1 [⟨[zy,ki,zg],[1],[gM],dL⟩] (c7 9882 1 [⟨[zy,ki,dA],[1,3],[gM,gM],fD⟩]))) 9896 1 [⟨[zy,ki,zj],[1],[gM],dL⟩] (dh (dh (dK (c7 9934 1 [⟨[zy,ki,zn],[1],[gM],dL⟩]) 9958 1 [⟨[zy,ki,zr],[1],[gM],fF⟩]) 9976 1 [⟨[zy,ki,zt],[1],[gM],dP⟩] (c7 10014 1 [⟨[zy,ki,zv],[1],[gM],dP⟩])) 10048 1 [⟨[zy,ki,zw],[1],[gM],dP⟩] (dh (dK (c7 11598 1 [⟨[zj,fg,zy],[3],[zs],dP⟩]) 11600 1 [⟨[zj,fg,zy],[3],[gI],fF⟩]) 11602 1 [⟨[zj,fg,zy],[3],[gK],gV⟩] (c7 11604 1 [⟨[zj,fg,zy],[3],[zf],dL⟩])))))
noncomputable def Of:BT (List (Nat×List dw)):=(dh (dh (dh (dh (dK (c7 11622 1 [⟨[zj,fg,z5],[],[],fD⟩]) 11644 1 [⟨[zj,fg,zg],[],[],dL⟩]) 11650 1 [⟨[zj,fg,zy],[3],[gM],fD⟩] (dK (c7 11664 1 [⟨[zj,fg,zj],[],[],dL⟩]) 11702 1 [⟨[zj,fg,zn],[],[],dL⟩])) 11726 1 [⟨[zj,fg,zr],[],[],fF⟩] (dh (dK (c7 11744 1 [⟨[zj,fg,zt],[],[],dP⟩]) 11782 1 [⟨[zj,fg,zv],[],[],dP⟩]) 11816 1 [⟨[zj,fg,zw],[],[],dP⟩] (c7 18020 1 [⟨[zn,fg,zy],[3],[zs],dP⟩]))) 18022 1 [⟨[zn,fg,zy],[3],[gI],fF⟩] (dh (dh (dK (c7 18024 1 [⟨[zn,fg,zy],[3],[gK],gV⟩]) 18026 1 [⟨[zn,fg,zy],[3],[zf],dL⟩]) 18044 1 [⟨[zn,fg,z5],[],[],fD⟩] (c7 18048 1 [⟨[zn,fg,zc],[],[],gV⟩])) 18066 1 [⟨[zn,fg,zg],[],[],dL⟩] (dh (dK (c7 18072 1 [⟨[zn,fg,zy],[3],[gM],fD⟩]) 18086 1 [⟨[zn,fg,zj],[],[],dL⟩]) 18124 1 [⟨[zn,fg,zn],[],[],dL⟩] (c7 18148 1 [⟨[zn,fg,zr],[],[],fF⟩])))) 18166 1 [⟨[zn,fg,zt],[],[],dP⟩] (dh (dh (dh (dK (c7 18204 1 [⟨[zn,fg,zv],[],[],dP⟩]) 18238 1 [⟨[zn,fg,zw],[],[],dP⟩]) 22024 1 [⟨[zr,gW,zy],[3],[zs],dP⟩] (c7 22026 1 [⟨[zr,gW,zy],[3],[gI],fF⟩])) 22028 1 [⟨[zr,gW,zy],[3],[gK],gV⟩] (dh (dK (c7 22030 1 [⟨[zr,gW,zy],[3],[zf],dL⟩]) 22048 1 [⟨[zr,gW,z5],[],[],fD⟩]) 22070 1 [⟨[zr,gW,zg],[],[],dL⟩] (c7 22076 1 [⟨[zr,gW,zy],[3],[gM],fD⟩]))) 22090 1 [⟨[zr,gW,zj],[],[],dL⟩] (dh (dh (dK (c7 22128 1 [⟨[zr,gW,zn],[],[],dL⟩]) 22152 1 [⟨[zr,gW,zr],[],[],fF⟩]) 22170 1 [⟨[zr,gW,zt],[],[],dP⟩] (c7 22208 1 [⟨[zr,gW,zv],[],[],dP⟩])) 22242 1 [⟨[zr,gW,zw],[],[],dP⟩] (dh (dK (c7 25040 1 [⟨[zt,eI,zy],[3],[zs],dP⟩]) 25042 1 [⟨[zt,eI,zy],[3],[gI],fF⟩]) 25044 1 [⟨[zt,eI,zy],[3],[gK],gV⟩] (c7 25046 1 [⟨[zt,eI,zy],[3],[zf],dL⟩])))))
noncomputable def Og:BT (List (Nat×List dw)):=(dh (dh (dh (dh (dK (c7 25064 1 [⟨[zt,eI,z5],[],[],fD⟩]) 25068 1 [⟨[zt,eI,zc],[],[],gV⟩]) 25086 1 [⟨[zt,eI,zg],[],[],dL⟩] (c7 25092 1 [⟨[zt,eI,zy],[3],[gM],fD⟩])) 25106 1 [⟨[zt,eI,zj],[],[],dL⟩] (dh (dK (c7 25144 1 [⟨[zt,eI,zn],[],[],dL⟩]) 25168 1 [⟨[zt,eI,zr],[],[],fF⟩]) 25186 1 [⟨[zt,eI,zt],[],[],dP⟩] (c7 25224 1 [⟨[zt,eI,zv],[],[],dP⟩]))) 25258 1 [⟨[zt,eI,zw],[],[],dP⟩] (dh (dh (dK (c7 31462 1 [⟨[zv,eI,zy],[3],[zs],dP⟩]) 31464 1 [⟨[zv,eI,zy],[3],[gI],fF⟩]) 31466 1 [⟨[zv,eI,zy],[3],[gK],gV⟩] (c7 31468 1 [⟨[zv,eI,zy],[3],[zf],dL⟩])) 31486 1 [⟨[zv,eI,z5],[],[],fD⟩] (dh (c7 31508 1 [⟨[zv,eI,zg],[],[],dL⟩]) 31514 1 [⟨[zv,eI,zy],[3],[gM],fD⟩] (c7 31528 1 [⟨[zv,eI,zj],[],[],dL⟩])))) 31566 1 [⟨[zv,eI,zn],[],[],dL⟩] (dh (dh (dh (dK (c7 31590 1 [⟨[zv,eI,zr],[],[],fF⟩]) 31608 1 [⟨[zv,eI,zt],[],[],dP⟩]) 31646 1 [⟨[zv,eI,zv],[],[],dP⟩] (c7 31680 1 [⟨[zv,eI,zw],[],[],dP⟩])) 37208 1 [⟨[zw,eI,zy],[3],[zs],dP⟩] (dh (c7 37210 1 [⟨[zw,eI,zy],[3],[gI],fF⟩]) 37212 1 [⟨[zw,eI,zy],[3],[gK],gV⟩] (c7 37214 1 [⟨[zw,eI,zy],[3],[zf],dL⟩]))) 37232 1 [⟨[zw,eI,z5],[],[],fD⟩] (dh (dh (dK (c7 37254 1 [⟨[zw,eI,zg],[],[],dL⟩]) 37260 1 [⟨[zw,eI,zy],[3],[gM],fD⟩]) 37274 1 [⟨[zw,eI,zj],[],[],dL⟩] (c7 37312 1 [⟨[zw,eI,zn],[],[],dL⟩])) 37336 1 [⟨[zw,eI,zr],[],[],fF⟩] (dh (c7 37354 1 [⟨[zw,eI,zt],[],[],dP⟩]) 37392 1 [⟨[zw,eI,zv],[],[],dP⟩] (c7 37426 1 [⟨[zw,eI,zw],[],[],dP⟩])))))
noncomputable def Oh:BT (List (Nat×List dw)):=(dh (dh (dh (c7 2 0 [⟨[jK,zy],[2],[zs],dP⟩,⟨[jL,zy],[2],[zs],dP⟩,⟨[jN,zy],[2],[zs],dP⟩]) 4 0 [⟨[jK,zy],[2],[gI],fF⟩,⟨[jL,zy],[2],[gI],fF⟩,⟨[jN,zy],[2],[gI],fF⟩] (c7 6 0 [⟨[jK,zy],[2],[gK],gV⟩,⟨[jL,zy],[2],[gK],gV⟩,⟨[jN,zy],[2],[gK],gV⟩])) 8 0 [⟨[jK,zy],[2],[zf],dL⟩,⟨[jL,zy],[2],[zf],dL⟩,⟨[jN,zy],[2],[zf],dL⟩] (dh (c7 26 0 [⟨[jK,z5],[],[],fD⟩,⟨[jL,z5],[],[],fD⟩,⟨[jN,z5],[],[],fD⟩]) 30 0 [⟨[jK,zc],[],[],[x5]⟩,⟨[jL,zc],[],[],gV⟩,⟨[jN,zc],[],[],gV⟩] (c7 48 0 [⟨[jK,zg],[],[],dL⟩,⟨[jL,zg],[],[],dL⟩,⟨[jN,zg],[],[],dL⟩]))) 54 0 [⟨[jK,zy],[2],[gM],fD⟩,⟨[jL,zy],[2],[gM],fD⟩,⟨[jN,zy],[2],[gM],fD⟩] (dh (dh (c7 68 0 [⟨[jK,zj],[],[],dL⟩,⟨[jL,zj],[],[],[x5]⟩,⟨[jN,zj],[],[],dL⟩]) 88 0 [⟨[jK,.wr 44],[],[],[x5]⟩,⟨[jL,.wr 44],[],[],[x5]⟩,⟨[jN,.wr 44],[],[],[x5]⟩] (c7 106 0 [⟨[jK,zn],[],[],dL⟩,⟨[jL,zn],[],[],dL⟩,⟨[jN,zn],[],[],dL⟩])) 130 0 [⟨[jK,zr],[],[],fF⟩,⟨[jL,zr],[],[],[x5]⟩,⟨[jN,zr],[],[],fF⟩] (dh (c7 148 0 [⟨[jK,zt],[],[],dP⟩,⟨[jL,zt],[],[],dP⟩,⟨[jN,zt],[],[],dP⟩]) 186 0 [⟨[jK,zv],[],[],dP⟩,⟨[jL,zv],[],[],[x5]⟩,⟨[jN,zv],[],[],dP⟩] (c7 220 0 [⟨[jK,zw],[],[],dP⟩,⟨[jL,zw],[],[],[x5]⟩,⟨[jN,zw],[],[],dP⟩]))))
noncomputable def Oi:BT (List (Nat×List dw)):=(dh (dh (dh (c7 42 0 [⟨[zx,.wr 8],[],[],AW⟩]) 62 0 [⟨[zx,.wr 18],[],[],AW⟩] (c7 80 0 [⟨[zx,.wr 27],[],[],AW⟩])) 100 0 [⟨[zx,.wr 37],[],[],AW⟩] (dK (c7 120 0 [⟨[zx,.wr 47],[],[],AW⟩]) 138 0 [⟨[zx,.wr 56],[],[],AW⟩])) 162 0 [⟨[zx,.wr 68],[],[],AW⟩] (dh (dK (c7 180 0 [⟨[zx,.wr 77],[],[],AW⟩]) 194 0 [⟨[zx,.wr 84],[],[],AW⟩]) 218 0 [⟨[zx,.wr 96],[],[],AW⟩] (dK (c7 228 0 [⟨[zx,.wr 101],[],[],AW⟩]) 252 0 [⟨[zx,.wr 113],[],[],AW⟩])))
noncomputable def Oj:BT (List (Nat×List dw)):=(c7 338 1 [⟨[zx,pC,zo],[],[],[(yv (.wr 8))]⟩,⟨[zx,pC,qH],[],[],[x4]⟩,⟨[zx,pC,qd],[],[],[x4]⟩,⟨[zx,pC,AV],[],[],[x4]⟩,⟨[zx,fX,zo],[],[],[(yv (.wr 18))]⟩,⟨[zx,fX,qH],[],[],[(yv (.wr 18))]⟩,⟨[zx,fX,qd],[],[],[x4]⟩,⟨[zx,fX,AV],[],[],[x4]⟩,⟨[zx,fP,zo],[],[],[(yv (.wr 27))]⟩,⟨[zx,fP,qH],[],[],[(yv (.wr 27))]⟩,⟨[zx,fP,qd],[],[],[x4]⟩,⟨[zx,fP,AV],[],[],[x4]⟩,⟨[zx,gl,zo],[],[],[(yv (.wr 37))]⟩,⟨[zx,gl,qH],[],[],[(yv (.wr 37))]⟩,⟨[zx,gl,qd],[],[],[x4]⟩,⟨[zx,gl,AV],[],[],[x4]⟩,⟨[zx,gH,zo],[],[],[(yv (.wr 47))]⟩,⟨[zx,gH,qH],[],[],[(yv (.wr 47))]⟩,⟨[zx,gH,qd],[],[],[x4]⟩,⟨[zx,gH,AV],[],[],[x4]⟩,⟨[zx,iZ,zo],[],[],[(yv (.wr 56))]⟩,⟨[zx,iZ,qH],[],[],[(yv (.wr 56))]⟩,⟨[zx,iZ,qd],[],[],[x4]⟩,⟨[zx,iZ,AV],[],[],[x4]⟩,⟨[zx,i8,zo],[],[],[(yv (.wr 68))]⟩,⟨[zx,i8,qH],[],[],[(yv (.wr 68))]⟩,⟨[zx,i8,qd],[],[],[x4]⟩,⟨[zx,i8,AV],[],[],[x4]⟩,⟨[zx,fU,zo],[],[],[(yv (.wr 77))]⟩,⟨[zx,fU,qH],[],[],[(yv (.wr 77))]⟩,⟨[zx,fU,qd],[],[],[x4]⟩,⟨[zx,fU,AV],[],[],[x4]⟩,⟨[zx,df,zo],[],[],[x4]⟩,⟨[zx,df,qH],[],[],[x4]⟩,⟨[zx,df,qd],[],[],[(yv (.wr 96))]⟩,⟨[zx,df,AV],[],[],[(yv (.wr 113))]⟩,⟨[zx,uE,zo],[],[],[x4]⟩,⟨[zx,uE,qH],[],[],[x4]⟩,⟨[zx,uE,qd],[],[],[x4]⟩,⟨[zx,uE,AV],[],[],[x4]⟩,⟨[zx,pq,zo],[],[],[x4]⟩,⟨[zx,pq,qH],[],[],[x4]⟩,⟨[zx,pq,qd],[],[],[x4]⟩,⟨[zx,pq,AV],[],[],[x4]⟩])
noncomputable def Ol:BT (List (Nat×List dw)):=(c7 26 5 [⟨[zx,jX],[],[],pD⟩,⟨[zx,jY],[],[],pD⟩,⟨[zx,jZ],[],[],pD⟩,⟨[zx,j2],[],[],pD⟩,⟨[zx,j3],[],[],pD⟩,⟨[zx,sd],[],[],pD⟩,⟨[zx,sf],[],[],pD⟩,⟨[zx,jK],[],[],pD⟩,⟨[zx,jL],[],[],pD⟩,⟨[zx,jN],[],[],pD⟩,⟨[zx,ja],[],[],wK⟩,⟨[zx,jb],[],[],pD⟩])
noncomputable def Om:BT (List (Nat×List dw)):=(c7 26 4 [⟨[zx,.tup [fh,.tok 380,.tok 381,.tok 361,z2]],[],[],iT⟩,⟨[zx,.tup [fh,.tok 380,.tok 381,.tok 361,mZ]],[],[],[(yn (.lsU 1 2) zy)]⟩,⟨[zx,.tup [fh,.tok 380,.tok 381,.tok 362,z2]],[],[],[(yn (.lsU 1 2) zy)]⟩,⟨[zx,.tup [fh,.tok 380,.tok 381,.tok 362,mZ]],[],[],[(yn (.lsU 1 3) zy)]⟩,⟨[zx,.tup [fh,.tok 380,.tok 381,.tok 382,c0]],[],[],[(yn (.lsU 1 4) zy)]⟩,⟨[zx,.tup [fh,.tok 380,.tok 381,.tok 382,z2]],[],[],[(yn (.lsU 0 3) zy)]⟩,⟨[zx,.tup [fh,.tok 380,.tok 381,.tok 382,mZ]],[],[],[(yn (.lsU 0 4) zy)]⟩])
noncomputable def On:List dw:=[⟨[zx,jX],[],[],eX⟩]
noncomputable def Oo:List dw:=[⟨[zx,jY],[],[],eX⟩]
noncomputable def Op:List dw:=[⟨[zx,jZ],[],[],eX⟩]
noncomputable def Oq:List dw:=[⟨[zx,j2],[],[],eX⟩]
noncomputable def Os:List dw:=[⟨[zx,j3],[],[],eX⟩]
noncomputable def Ot:List dw:=[⟨[zx,ja],[],[],iT⟩]
noncomputable def Ou:List dw:=[⟨[zx,jb],[],[],sA⟩]
noncomputable def Ov:List dw:=[⟨[zx,jX],[],[],eX⟩,⟨[zx,jY],[],[],eX⟩]
noncomputable def Ow:List dw:=[⟨[zx,jZ],[],[],eX⟩,⟨[zx,j2],[],[],eX⟩]
noncomputable def Ox:List dw:=[⟨[zx,j3],[],[],eX⟩,⟨[zx,sd],[],[],eX⟩]
noncomputable def Oy:List dw:=[⟨[zx,sf],[],[],eX⟩,⟨[zx,jK],[],[],eX⟩]
noncomputable def Oz:List dw:=[⟨[zx,jL],[],[],eX⟩,⟨[zx,jN],[],[],eX⟩]
noncomputable def OA:List dw:=[⟨[zx,ja],[],[],eX⟩,⟨[zx,jb],[],[],sA⟩]
noncomputable def OB:BT (List (Nat×List dw)):=(c7 26 5 [⟨[zx,jX],[],[],[(yv zn),(yv z5)]⟩,⟨[zx,jY],[],[],[(yv zc)]⟩,⟨[zx,jZ],[],[],[(yn (fY zd (.int (.u (some 1) (some 27))) z7 z3 z8) zy),(yv zt),(yv zg)]⟩,⟨[zx,j2],[],[],[(yv zv),(yv zw),(yv zr),(yv zj)]⟩,⟨[zx,j3],[],[],[(yv (.wr 44))]⟩,⟨[zx,sd],[],[],[(yn (fY zh RT z7 RT (.bool true)) zy),(yn (fY zh RT z7 RT z8) zy)]⟩,⟨[zx,sf],[],[],[(yn (fY zd (.int (.u (some 1) (some 7))) z7 z3 z8) zy)]⟩,⟨[zx,jK],[],[],[(yv z2)]⟩,⟨[zx,jL],[],[],[(yv z2)]⟩,⟨[zx,jN],[],[],[(yv z2)]⟩])
noncomputable def OC:List dw:=[⟨[zx,.tok 1],[],[],eX⟩,⟨[zx,.tok 2],[],[],eX⟩,⟨[zx,.tok 3],[],[],iT⟩]
noncomputable def OD:List dw:=[⟨[zx,n1],[],[],eX⟩,⟨[zx,RR],[],[],iT⟩]
noncomputable def OE:List dw:=[⟨[zx,.tok 4],[],[],eX⟩,⟨[zx,.tok 5],[],[],[(yn (.lsU 0 1) zy)]⟩]
noncomputable def OF:List dw:=[⟨[zx,jX,jX],[],[],eX⟩,⟨[zx,jX,jY],[],[],eX⟩,⟨[zx,jX,jZ],[],[],eX⟩,⟨[zx,jX,j2],[],[],eX⟩,⟨[zx,jX,j3],[],[],iT⟩,⟨[zx,jX,ja],[],[],iT⟩,⟨[zx,jX,jb],[],[],sA⟩,⟨[zx,jY,jX],[],[],eX⟩,⟨[zx,jY,jY],[],[],eX⟩,⟨[zx,jY,jZ],[],[],eX⟩,⟨[zx,jY,j2],[],[],iT⟩,⟨[zx,jY,j3],[],[],iT⟩,⟨[zx,jY,ja],[],[],iT⟩,⟨[zx,jY,jb],[],[],sA⟩,⟨[zx,jZ,jX],[],[],eX⟩]
noncomputable def OG:List dw:=[⟨[zx,jZ,jY],[],[],eX⟩,⟨[zx,jZ,jZ],[],[],eX⟩,⟨[zx,jZ,j2],[],[],eX⟩,⟨[zx,jZ,j3],[],[],iT⟩,⟨[zx,jZ,ja],[],[],iT⟩,⟨[zx,jZ,jb],[],[],sA⟩,⟨[zx,j2,jX],[],[],eX⟩,⟨[zx,j2,jY],[],[],iT⟩,⟨[zx,j2,jZ],[],[],eX⟩,⟨[zx,j2,j2],[],[],eX⟩,⟨[zx,j2,j3],[],[],iT⟩,⟨[zx,j2,ja],[],[],iT⟩,⟨[zx,j2,jb],[],[],sA⟩,⟨[zx,j3,jX],[],[],iT⟩,⟨[zx,j3,jY],[],[],iT⟩]
noncomputable def OH:List dw:=[⟨[zx,j3,jZ],[],[],iT⟩,⟨[zx,j3,j2],[],[],iT⟩,⟨[zx,j3,j3],[],[],iT⟩,⟨[zx,j3,ja],[],[],iT⟩,⟨[zx,j3,jb],[],[],sA⟩,⟨[zx,sd,jX],[],[],eX⟩,⟨[zx,sd,jY],[],[],iT⟩,⟨[zx,sd,jZ],[],[],eX⟩,⟨[zx,sd,j2],[],[],eX⟩,⟨[zx,sd,j3],[],[],iT⟩,⟨[zx,sd,ja],[],[],iT⟩,⟨[zx,sd,jb],[],[],sA⟩,⟨[zx,sf,jX],[],[],eX⟩,⟨[zx,sf,jY],[],[],eX⟩,⟨[zx,sf,jZ],[],[],eX⟩]
noncomputable def OI:List dw:=[⟨[zx,sf,j2],[],[],eX⟩,⟨[zx,sf,j3],[],[],iT⟩,⟨[zx,sf,ja],[],[],iT⟩,⟨[zx,sf,jb],[],[],sA⟩,⟨[zx,jK,jX],[],[],eX⟩,⟨[zx,jK,jY],[],[],iT⟩,⟨[zx,jK,jZ],[],[],eX⟩,⟨[zx,jK,j2],[],[],eX⟩,⟨[zx,jK,j3],[],[],iT⟩,⟨[zx,jK,ja],[],[],iT⟩,⟨[zx,jK,jb],[],[],sA⟩,⟨[zx,jL,jX],[],[],eX⟩,⟨[zx,jL,jY],[],[],eX⟩,⟨[zx,jL,jZ],[],[],eX⟩,⟨[zx,jL,j2],[],[],iT⟩]
noncomputable def OJ:List dw:=[⟨[zx,jL,j3],[],[],iT⟩,⟨[zx,jL,ja],[],[],iT⟩,⟨[zx,jL,jb],[],[],sA⟩,⟨[zx,jN,jX],[],[],eX⟩,⟨[zx,jN,jY],[],[],eX⟩,⟨[zx,jN,jZ],[],[],eX⟩,⟨[zx,jN,j2],[],[],eX⟩,⟨[zx,jN,j3],[],[],iT⟩,⟨[zx,jN,ja],[],[],iT⟩,⟨[zx,jN,jb],[],[],sA⟩,⟨[zx,ja,jX],[],[],iT⟩,⟨[zx,ja,jY],[],[],iT⟩,⟨[zx,ja,jZ],[],[],iT⟩,⟨[zx,ja,j2],[],[],iT⟩,⟨[zx,ja,j3],[],[],iT⟩]
noncomputable def OK:List dw:=[⟨[zx,ja,ja],[],[],iT⟩,⟨[zx,ja,jb],[],[],sA⟩,⟨[zx,jb,jX],[],[],sA⟩,⟨[zx,jb,jY],[],[],sA⟩,⟨[zx,jb,jZ],[],[],sA⟩,⟨[zx,jb,j2],[],[],sA⟩,⟨[zx,jb,j3],[],[],sA⟩,⟨[zx,jb,ja],[],[],[(yn (.lsU 2 6) zy)]⟩,⟨[zx,jb,jb],[],[],[(yn (.lsU 2 10) zy)]⟩]
noncomputable def OL:BT (List (Nat×List dw)):=(dh (dh (dh (dh (dK (c7 26062 4 [⟨[cZ,ja],[0],dm,[x4]⟩]) 26080 4 [⟨[cZ,jb],[0],dm,gL⟩]) 26200 4 [⟨[cZ,.tok 100],[0],dm,[(yv (.tup [zy,z3,z5]))]⟩] (dK (c7 26202 4 [⟨[cZ,.tok 101],[0],dm,[(yn gM (.tup [zy,z3,dA]))]⟩]) 26204 4 [⟨[cZ,.tok 102],[0],dm,[(yn zs (.tup [zy,z3,dA]))]⟩])) 26206 4 [⟨[cZ,.tok 103],[0],dm,[(yv (.tup [zy,z3,zc]))]⟩] (dh (dK (c7 26208 4 [⟨[cZ,.tok 104],[0],dm,[(yn gK (.tup [zy,z3,dA]))]⟩]) 26210 4 [⟨[cZ,.tok 105],[0],dm,[(yn zs (.tup [zy,z3,dA]))]⟩]) 26212 4 [⟨[cZ,.tok 106],[0],dm,[(yv (.tup [zy,za,zg]))]⟩] (dK (c7 26214 4 [⟨[cZ,.tok 107],[0],dm,[(yn zf (.tup [zy,za,dA]))]⟩]) 26216 4 [⟨[cZ,.tok 108],[0],dm,[(yn zs (.tup [zy,za,dA]))]⟩]))) 26218 4 [⟨[cZ,.tok 109],[0],dm,[(yv (.tup [zy,zi,zj]))]⟩] (dh (dh (dK (c7 26220 4 [⟨[cZ,.tok 110],[0],dm,[(yn zf (.tup [zy,zi,dA]))]⟩]) 26222 4 [⟨[cZ,.tok 111],[0],dm,[(yn zs (.tup [zy,zi,dA]))]⟩]) 26224 4 [⟨[cZ,.tok 112],[0],dm,[(yv (.tup [zy,zl,.wr 44]))]⟩] (dK (c7 26226 4 [⟨[cZ,.tok 113],[0],dm,[(yn zf (.tup [zy,zl,dA]))]⟩]) 26228 4 [⟨[cZ,.tok 114],[0],dm,[(yn zs (.tup [zy,zl,dA]))]⟩])) 26230 4 [⟨[cZ,.tok 115],[0],dm,[(yv (.tup [zy,zm,zn]))]⟩] (dh (dK (c7 26232 4 [⟨[cZ,.tok 116],[0],dm,[(yn zf (.tup [zy,zm,dA]))]⟩]) 26234 4 [⟨[cZ,.tok 117],[0],dm,[(yn zs (.tup [zy,zm,dA]))]⟩]) 26236 4 [⟨[cZ,.tok 118],[0],dm,[(yv (.tup [zy,HE,zn]))]⟩] (dK (c7 26238 4 [⟨[cZ,.tok 119],[0],dm,[(yn zf (.tup [zy,HE,dA]))]⟩]) 26240 4 [⟨[cZ,.tok 120],[0],dm,[(yn zs (.tup [zy,HE,dA]))]⟩])))) 26242 4 [⟨[cZ,.tok 121],[0],dm,[(yv (.tup [zy,zm,zr]))]⟩] (dh (dh (dh (dK (c7 26244 4 [⟨[cZ,.tok 122],[0],dm,[(yn gI (.tup [zy,zm,dA]))]⟩]) 26246 4 [⟨[cZ,.tok 123],[0],dm,[(yn zs (.tup [zy,zm,dA]))]⟩]) 26248 4 [⟨[cZ,.tok 124],[0],dm,[(yv (.tup [zy,HE,zr]))]⟩] (dK (c7 26250 4 [⟨[cZ,.tok 125],[0],dm,[(yn gI (.tup [zy,HE,dA]))]⟩]) 26252 4 [⟨[cZ,.tok 126],[0],dm,[(yn zs (.tup [zy,HE,dA]))]⟩])) 26254 4 [⟨[cZ,.tok 127],[0],dm,[(yv (.tup [zy,.int (.c 17),zt]))]⟩] (dh (dK (c7 26256 4 [⟨[cZ,.tok 128],[0],dm,[(yn zs (.tup [zy,.int (.c 17),dA]))]⟩]) 26258 4 [⟨[cZ,.tok 129],[0],dm,[(yn zs (.tup [zy,.int (.c 17),dA]))]⟩]) 26260 4 [⟨[cZ,.tok 130],[0],dm,[(yv (.tup [zy,.int (.c 18),zt]))]⟩] (dK (c7 26262 4 [⟨[cZ,.tok 131],[0],dm,[(yn zs (.tup [zy,.int (.c 18),dA]))]⟩]) 26264 4 [⟨[cZ,.tok 132],[0],dm,[(yn zs (.tup [zy,.int (.c 18),dA]))]⟩]))) 26266 4 [⟨[cZ,.tok 133],[0],dm,[(yv (.tup [zy,.int (.c 21),zt]))]⟩] (dh (dh (dK (c7 26268 4 [⟨[cZ,.tok 134],[0],dm,[(yn zs (.tup [zy,.int (.c 21),dA]))]⟩]) 26270 4 [⟨[cZ,.tok 135],[0],dm,[(yn zs (.tup [zy,.int (.c 21),dA]))]⟩]) 26272 4 [⟨[cZ,.tok 136],[0],dm,[(yv (.tup [zy,.int (.c 22),zt]))]⟩] (dK (c7 26274 4 [⟨[cZ,.tok 137],[0],dm,[(yn zs (.tup [zy,.int (.c 22),dA]))]⟩]) 26276 4 [⟨[cZ,.tok 138],[0],dm,[(yn zs (.tup [zy,.int (.c 22),dA]))]⟩])) 26278 4 [⟨[cZ,.tok 139],[0],dm,[(yv (.tup [zy,.int (.c 28),zw]))]⟩] (dh (dK (c7 26280 4 [⟨[cZ,.tok 140],[0],dm,[(yv (.tup [zy,z4,zv]))]⟩]) 26282 4 [⟨[cZ,.tok 141],[0],dm,[(yn zs (.tup [zy,.int (.c 28),dA]))]⟩]) 26284 4 [⟨[cZ,.tok 142],[0],dm,[(yn zs (.tup [zy,z4,dA]))]⟩] (dK (c7 26286 4 [⟨[cZ,.tok 143],[0],dm,[(yn zs (.tup [zy,.int (.c 28),dA]))]⟩]) 26288 4 [⟨[cZ,.tok 144],[0],dm,[(yn zs (.tup [zy,z4,dA]))]⟩])))))
noncomputable def OM:BT (List (Nat×List dw)):=(c7 26000 5 [⟨[cZ,jX],[0],dm,[(yv (.tup [zn,fg])),(yv (.tup [z5,ki]))]⟩,⟨[cZ,jY],[0],dm,[(yv (.tup [zc,im]))]⟩,⟨[cZ,jZ],[0],dm,[(yn zs (.tup [dA,eI])),(yv (.tup [zt,eI])),(yn gI (.tup [dA,gW])),(yn zf (.tup [dA,fg])),(yv (.tup [zg,fg])),(yn gK (.tup [dA,im])),(yn gM (.tup [dA,ki]))]⟩,⟨[cZ,j2],[0],dm,[(yv (.tup [zv,eI])),(yv (.tup [zw,eI])),(yv (.tup [zr,gW])),(yv (.tup [zj,fg]))]⟩,⟨[cZ,j3],[0],dm,[(yv (.tup [.wr 44,fg]))]⟩,⟨[cZ,sd],[0],dm,[(yn lz (.tup [dA,yN])),(yn lz (.tup [dA,yO])),(yn yP (.tup [dA,im])),(yn lv (.tup [dA,yL])),(yn lv (.tup [dA,yM])),(yn zq (.tup [dA,gW])),(yn lu (.tup [dA,yJ])),(yn lu (.tup [dA,yK])),(yn zu (.tup [dA,eI]))]⟩,⟨[cZ,sf],[0],dm,[(yn wS (.tup [dA,wQ])),(yn wO (.tup [dA,wN])),(yn wM (.tup [dA,wL])),(yn zf (.tup [dA,fg])),(yn gK (.tup [dA,im])),(yn gI (.tup [dA,gW])),(yn zs (.tup [dA,eI]))]⟩,⟨[cZ,ja],[0],dm,[x4]⟩,⟨[cZ,jb],[0],dm,[x5,x4]⟩])
noncomputable def ON:List dw:=[⟨[cZ,.tok 1],[0],dm,[(yv z1)]⟩,⟨[cZ,.tok 2],[0],dm,[(yv zp)]⟩,⟨[cZ,.tok 3],[0],dm,[x5,x4]⟩]
noncomputable def OO:List dw:=[⟨[cZ,n1],[0],dm,[(yv z1)]⟩,⟨[cZ,RR],[0],dm,[x5]⟩]
noncomputable def OP:List dw:=[⟨[cZ,.tok 4],[0],dm,[(yv zp),(yv z1)]⟩,⟨[cZ,.tok 5],[0],dm,[(yv zp),(yv z1),x4,x5]⟩]
noncomputable def OQ:BT (List (Nat×List dw)):=(dh (dK (c7 339760 6 [⟨[cZ,.tok 60,.tok 100],[0],dm,[(yu z2 (d5 0 27))]⟩]) 339790 6 [⟨[cZ,.tok 60,.tok 115],[0],dm,[(yu z2 (d5 15 4))]⟩]) 339792 6 [⟨[cZ,.tok 61,.tok 103],[0],dm,[(yu z2 (d5 0 3))]⟩] (dK (c7 339796 6 [⟨[cZ,.tok 60,.tok 118],[0],dm,[(yu z2 (d5 19 4))]⟩]) 339814 6 [⟨[cZ,eL,.tok 101],[0],dm,[(yu z2 (d5 0 27))]⟩]))
noncomputable def OS:BT (List (Nat×List dw)):=(dh (dK (c7 339816 6 [⟨[cZ,eL,.tok 102],[0],dm,[(yu z2 (d5 0 1))]⟩]) 339820 6 [⟨[cZ,eL,.tok 104],[0],dm,[(yu z2 (d5 0 3))]⟩]) 339822 6 [⟨[cZ,eL,.tok 105],[0],dm,[(yu z2 (d5 0 1))]⟩] (dK (c7 339824 6 [⟨[cZ,eL,.tok 106],[0],dm,[(yu z2 (d5 3 4))]⟩]) 339826 6 [⟨[cZ,eL,.tok 107],[0],dm,[(yu z2 (d5 3 4))]⟩]))
noncomputable def OT:BT (List (Nat×List dw)):=(dh (dK (c7 339828 6 [⟨[cZ,eL,.tok 108],[0],dm,[(yu z2 (d5 3 1))]⟩]) 339832 6 [⟨[cZ,eL,.tok 110],[0],dm,[(yu z2 (d5 7 4))]⟩]) 339834 6 [⟨[cZ,eL,.tok 111],[0],dm,[(yu z2 (d5 7 1))]⟩] (dK (c7 339838 6 [⟨[cZ,eL,.tok 113],[0],dm,[(yu z2 (d5 11 4))]⟩]) 339840 6 [⟨[cZ,eL,.tok 114],[0],dm,[(yu z2 (d5 11 1))]⟩]))
noncomputable def OU:BT (List (Nat×List dw)):=(dh (dK (c7 339844 6 [⟨[cZ,eL,.tok 116],[0],dm,[(yu z2 (d5 15 4))]⟩]) 339846 6 [⟨[cZ,eL,.tok 117],[0],dm,[(yu z2 (d5 15 1))]⟩]) 339850 6 [⟨[cZ,eL,.tok 119],[0],dm,[(yu z2 (d5 19 4))]⟩] (c7 339852 6 [⟨[cZ,eL,.tok 120],[0],dm,[(yu z2 (d5 19 1))]⟩]))
noncomputable def OV:BT (List (Nat×List dw)):=(dh (dK (c7 339856 6 [⟨[cZ,.tok 63,.tok 109],[0],dm,[(yu z2 (d5 7 4))]⟩,⟨[cZ,eL,.tok 122],[0],dm,[(yu z2 (d5 15 2))]⟩]) 339858 6 [⟨[cZ,eL,.tok 123],[0],dm,[(yu z2 (d5 15 1))]⟩]) 339862 6 [⟨[cZ,eL,.tok 125],[0],dm,[(yu z2 (d5 19 2))]⟩] (c7 339864 6 [⟨[cZ,eL,.tok 126],[0],dm,[(yu z2 (d5 19 1))]⟩]))
noncomputable def OW:BT (List (Nat×List dw)):=(dh (dK (c7 339866 6 [⟨[cZ,eL,.tok 127],[0],dm,[(yu z2 (d5 17 1))]⟩]) 339868 6 [⟨[cZ,eL,.tok 128],[0],dm,[(yu z2 (d5 17 1))]⟩]) 339870 6 [⟨[cZ,eL,.tok 129],[0],dm,[(yu z2 (d5 17 1))]⟩] (dK (c7 339872 6 [⟨[cZ,eL,.tok 130],[0],dm,[(yu z2 (d5 18 1))]⟩]) 339874 6 [⟨[cZ,eL,.tok 131],[0],dm,[(yu z2 (d5 18 1))]⟩]))
noncomputable def OX:BT (List (Nat×List dw)):=(dh (dK (c7 339876 6 [⟨[cZ,eL,.tok 132],[0],dm,[(yu z2 (d5 18 1))]⟩]) 339878 6 [⟨[cZ,eL,.tok 133],[0],dm,[(yu z2 (d5 21 1))]⟩]) 339880 6 [⟨[cZ,.tok 63,.tok 121],[0],dm,[(yu z2 (d5 15 2))]⟩,⟨[cZ,eL,.tok 134],[0],dm,[(yu z2 (d5 21 1))]⟩] (c7 339882 6 [⟨[cZ,eL,.tok 135],[0],dm,[(yu z2 (d5 21 1))]⟩]))
noncomputable def OY:BT (List (Nat×List dw)):=(dh (dK (c7 339884 6 [⟨[cZ,eL,.tok 136],[0],dm,[(yu z2 (d5 22 1))]⟩]) 339886 6 [⟨[cZ,.tok 63,.tok 124],[0],dm,[(yu z2 (d5 19 2))]⟩,⟨[cZ,eL,.tok 137],[0],dm,[(yu z2 (d5 22 1))]⟩]) 339888 6 [⟨[cZ,eL,.tok 138],[0],dm,[(yu z2 (d5 22 1))]⟩] (c7 339894 6 [⟨[cZ,eL,.tok 141],[0],dm,[(yu z2 (d5 28 1))]⟩]))
noncomputable def OZ:BT (List (Nat×List dw)):=(dh (dK (c7 339896 6 [⟨[cZ,eL,.tok 142],[0],dm,[(yu z2 (d5 27 1))]⟩]) 339898 6 [⟨[cZ,eL,.tok 143],[0],dm,[(yu z2 (d5 28 1))]⟩]) 339900 6 [⟨[cZ,eL,.tok 144],[0],dm,[(yu z2 (d5 27 1))]⟩] (dK (c7 339916 6 [⟨[cZ,.tok 63,.tok 139],[0],dm,[(yu z2 (d5 28 1))]⟩]) 339918 6 [⟨[cZ,.tok 63,.tok 140],[0],dm,[(yu z2 (d5 27 1))]⟩]))
noncomputable def O0:BT (List (Nat×List dw)):=(dh (dK (c7 340020 6 [⟨[cZ,.tok 70,.tok 100],[0],dm,gL⟩]) 340050 6 [⟨[cZ,.tok 70,.tok 115],[0],dm,gL⟩]) 340052 6 [⟨[cZ,.tok 71,.tok 103],[0],dm,gL⟩] (dK (c7 340056 6 [⟨[cZ,.tok 70,.tok 118],[0],dm,gL⟩]) 340074 6 [⟨[cZ,eM,.tok 101],[0],dm,gL⟩]))
noncomputable def O1:BT (List (Nat×List dw)):=(dh (dK (c7 340076 6 [⟨[cZ,eM,.tok 102],[0],dm,gL⟩]) 340080 6 [⟨[cZ,eM,.tok 104],[0],dm,gL⟩]) 340082 6 [⟨[cZ,eM,.tok 105],[0],dm,gL⟩] (dK (c7 340084 6 [⟨[cZ,eM,.tok 106],[0],dm,gL⟩]) 340086 6 [⟨[cZ,eM,.tok 107],[0],dm,gL⟩]))
noncomputable def O2:BT (List (Nat×List dw)):=(dh (dK (c7 340088 6 [⟨[cZ,eM,.tok 108],[0],dm,gL⟩]) 340092 6 [⟨[cZ,eM,.tok 110],[0],dm,gL⟩]) 340094 6 [⟨[cZ,eM,.tok 111],[0],dm,gL⟩] (dK (c7 340098 6 [⟨[cZ,eM,.tok 113],[0],dm,gL⟩]) 340100 6 [⟨[cZ,eM,.tok 114],[0],dm,gL⟩]))
noncomputable def O3:BT (List (Nat×List dw)):=(dh (dK (c7 340104 6 [⟨[cZ,eM,.tok 116],[0],dm,gL⟩]) 340106 6 [⟨[cZ,eM,.tok 117],[0],dm,gL⟩]) 340110 6 [⟨[cZ,eM,.tok 119],[0],dm,gL⟩] (c7 340112 6 [⟨[cZ,eM,.tok 120],[0],dm,gL⟩]))
noncomputable def O4:BT (List (Nat×List dw)):=(dh (dK (c7 340116 6 [⟨[cZ,.tok 73,.tok 109],[0],dm,gL⟩,⟨[cZ,eM,.tok 122],[0],dm,gL⟩]) 340118 6 [⟨[cZ,eM,.tok 123],[0],dm,gL⟩]) 340122 6 [⟨[cZ,eM,.tok 125],[0],dm,gL⟩] (c7 340124 6 [⟨[cZ,eM,.tok 126],[0],dm,gL⟩]))
noncomputable def O5:BT (List (Nat×List dw)):=(dh (dK (c7 340126 6 [⟨[cZ,eM,.tok 127],[0],dm,gL⟩]) 340128 6 [⟨[cZ,eM,.tok 128],[0],dm,gL⟩]) 340130 6 [⟨[cZ,eM,.tok 129],[0],dm,gL⟩] (dK (c7 340132 6 [⟨[cZ,eM,.tok 130],[0],dm,gL⟩]) 340134 6 [⟨[cZ,eM,.tok 131],[0],dm,gL⟩]))
noncomputable def O6:BT (List (Nat×List dw)):=(dh (c7 340136 6 [⟨[cZ,eM,.tok 132],[0],dm,gL⟩]) 340138 6 [⟨[cZ,eM,.tok 133],[0],dm,gL⟩] (c7 340140 6 [⟨[cZ,.tok 73,.tok 121],[0],dm,gL⟩,⟨[cZ,eM,.tok 134],[0],dm,gL⟩]))
noncomputable def O7:BT (List (Nat×List dw)):=(dh (c7 340142 6 [⟨[cZ,eM,.tok 135],[0],dm,gL⟩,⟨[cZ,.tok 80,ja],[0],dm,[x4]⟩]) 340144 6 [⟨[cZ,eM,.tok 136],[0],dm,gL⟩] (c7 340146 6 [⟨[cZ,.tok 73,.tok 124],[0],dm,gL⟩,⟨[cZ,eM,.tok 137],[0],dm,gL⟩]))
noncomputable def O8:BT (List (Nat×List dw)):=(dh (dK (c7 340148 6 [⟨[cZ,.tok 74,.tok 112],[0],dm,gL⟩,⟨[cZ,eM,.tok 138],[0],dm,gL⟩]) 340154 6 [⟨[cZ,eM,.tok 141],[0],dm,gL⟩]) 340156 6 [⟨[cZ,eM,.tok 142],[0],dm,gL⟩] (c7 340158 6 [⟨[cZ,eM,.tok 143],[0],dm,gL⟩]))
noncomputable def O9:BT (List (Nat×List dw)):=(dh (c7 340160 6 [⟨[cZ,eM,.tok 144],[0],dm,gL⟩,⟨[cZ,.tok 80,jb],[0],dm,[x5,x4]⟩]) 340176 6 [⟨[cZ,.tok 73,.tok 139],[0],dm,gL⟩] (c7 340178 6 [⟨[cZ,.tok 73,.tok 140],[0],dm,gL⟩]))
noncomputable def Pa:BT (List (Nat×List dw)):=(c7 0 0 [⟨[zy,zp],[1],[(dD 5)],[(yu z3 (dD 6)),(yu z1 (dD 6))]⟩,⟨[zy,zp],[1],[(dD 8)],[(yu z3 (dD 9)),(yu z1 (dD 9))]⟩,⟨[zy,zp],[1],[(dD 11)],[(yu z3 (dD 12)),(yu z1 (dD 12))]⟩,⟨[zy,za],[1],[(dD 1)],[(yu z3 (dD 2)),(yu z1 (dD 2)),(yu zp (dD 2))]⟩,⟨[zy,ze],[1],[(dD 2)],[(yu z3 (dD 3)),(yu z1 (dD 3)),(yu zp (dD 3)),(yu za (dD 3))]⟩,⟨[zy,zb],[1],[(dD 1)],[(yu (.int (.u (some 0) (some 4))) (dD 2))]⟩,⟨[zy,Ft],[1],[(dD 3)],[(yu RU (dD 4)),(yu ze (dD 4)),(yu zb (dD 4))]⟩,⟨[zy,Ft],[1],[(dD 6)],[(yu RU (dD 7)),(yu ze (dD 7)),(yu zb (dD 7))]⟩,⟨[zy,Ft],[1],[(dD 9)],[(yu RU (dD 10)),(yu ze (dD 10)),(yu zb (dD 10))]⟩,⟨[zy,Ft],[1],[(dD 12)],[(yu RU (dD 13)),(yu ze (dD 13)),(yu zb (dD 13))]⟩,⟨[zy,zi],[1],[(dD 1)],[(yu z3 (dD 2)),(yu z1 (dD 2)),(yu zp (dD 2)),(yu za (dD 2)),(yu ze (dD 2)),(yu zb (dD 2)),(yu Ft (dD 2))]⟩,⟨[zy,zi],[1],[(dD 4)],[(yu z3 (dD 5)),(yu z1 (dD 5)),(yu zp (dD 5)),(yu za (dD 5)),(yu ze (dD 5)),(yu zb (dD 5)),(yu Ft (dD 5))]⟩,⟨[zy,zi],[1],[(dD 7)],[(yu z3 (dD 8)),(yu z1 (dD 8)),(yu zp (dD 8)),(yu za (dD 8)),(yu ze (dD 8)),(yu zb (dD 8)),(yu Ft (dD 8))]⟩,⟨[zy,zi],[1],[(dD 10)],[(yu z3 (dD 11)),(yu z1 (dD 11)),(yu zp (dD 11)),(yu za (dD 11)),(yu ze (dD 11)),(yu zb (dD 11)),(yu Ft (dD 11))]⟩,⟨[zy,.int (.c 8)],[1],[(dD 0)],[(yu z3 (dD 1)),(yu z1 (dD 1)),(yu zp (dD 1)),(yu za (dD 1)),(yu ze (dD 1)),(yu zb (dD 1)),(yu Ft (dD 1)),(yu zi (dD 1))]⟩,⟨[zy,.int (.c 9)],[1],[(dD 4)],[(yu z3 (dD 5)),(yu z1 (dD 5)),(yu zp (dD 5)),(yu RV (dD 5))]⟩,⟨[zy,.int (.c 9)],[1],[(dD 7)],[(yu z3 (dD 8)),(yu z1 (dD 8)),(yu zp (dD 8)),(yu RV (dD 8))]⟩,⟨[zy,.int (.c 9)],[1],[(dD 10)],[(yu z3 (dD 11)),(yu z1 (dD 11)),(yu zp (dD 11)),(yu RV (dD 11))]⟩,⟨[zy,.int (.c 9)],[1],[(dD 13)],[(yu z3 (dD 14)),(yu z1 (dD 14)),(yu zp (dD 14)),(yu RV (dD 14))]⟩,⟨[zy,zl],[1],[(dD 1)],[(yu (.int (.u (some 0) (some 10))) (dD 2))]⟩,⟨[zy,.int (.c 1000)],[1],[(dD 1)],[(yu (.int (.u (some 0) (some 999))) (dD 2))]⟩])
noncomputable def Pb:List dw:=[⟨[zy,dW],[1],[(dD 4)],[(yu (.tup [zz,z1]) (dD 7)),(yu (.tup [hH,zp]) (dD 7)),(yu (.tup [.tok 3,z3]) (dD 7))]⟩]
noncomputable def Pc:List dw:=[⟨[zy,dW],[1],[(dD 7)],[(yu (.tup [zz,z1]) (dD 10)),(yu (.tup [hH,zp]) (dD 10)),(yu (.tup [.tok 3,z3]) (dD 10))]⟩]
noncomputable def Pd:List dw:=[⟨[zy,dW],[1],[(dD 10)],[(yu (.tup [zz,z1]) (dD 13)),(yu (.tup [hH,zp]) (dD 13)),(yu (.tup [.tok 3,z3]) (dD 13))]⟩]
noncomputable def HF:List dw:=[⟨[zy,dW,names],[1],[(dD 1)],[(yu (.tup [.tok 100,LH]) gJ),(yu (.tup [.tok 101,LH]) gJ),(yu (.tup [.tok 102,LI]) gJ),(yu (.tup [.tok 103,LJ]) gJ),(yu (.tup [.tok 104,LJ]) gJ),(yu (.tup [.tok 105,LI]) gJ),(yu (.tup [.tok 106,LK]) gJ),(yu (.tup [.tok 107,LK]) gJ),(yu (.tup [.tok 108,.tup [za,z1]]) gJ),(yu (.tup [.tok 109,LL]) gJ),(yu (.tup [.tok 110,LL]) gJ),(yu (.tup [.tok 111,.tup [zi,z1]]) gJ),(yu (.tup [.tok 112,MM]) gJ),(yu (.tup [.tok 113,MM]) gJ),(yu (.tup [.tok 114,.tup [zl,z1]]) gJ),(yu (.tup [.tok 115,LM]) gJ),(yu (.tup [.tok 116,LM]) gJ),(yu (.tup [.tok 117,LN]) gJ),(yu (.tup [.tok 118,LP]) gJ),(yu (.tup [.tok 119,LP]) gJ),(yu (.tup [.tok 120,LQ]) gJ),(yu (.tup [.tok 121,LR]) gJ),(yu (.tup [.tok 122,LR]) gJ),(yu (.tup [.tok 123,LN]) gJ),(yu (.tup [.tok 124,LS]) gJ),(yu (.tup [.tok 125,LS]) gJ),(yu (.tup [.tok 126,LQ]) gJ),(yu (.tup [.tok 127,Fl]) gJ),(yu (.tup [.tok 128,Fl]) gJ),(yu (.tup [.tok 129,Fl]) gJ),(yu (.tup [.tok 130,Fm]) gJ),(yu (.tup [.tok 131,Fm]) gJ),(yu (.tup [.tok 132,Fm]) gJ),(yu (.tup [.tok 133,Fn]) gJ),(yu (.tup [.tok 134,Fn]) gJ),(yu (.tup [.tok 135,Fn]) gJ),(yu (.tup [.tok 136,Fo]) gJ),(yu (.tup [.tok 137,Fo]) gJ),(yu (.tup [.tok 138,Fo]) gJ),(yu (.tup [.tok 139,Fq]) gJ),(yu (.tup [.tok 140,Fs]) gJ),(yu (.tup [.tok 141,Fq]) gJ),(yu (.tup [.tok 142,Fs]) gJ),(yu (.tup [.tok 143,Fq]) gJ),(yu (.tup [.tok 144,Fs]) gJ),(yu (.tup [jb,z2]) gJ),(yu (.tup [ja,z2]) gJ)]⟩]
noncomputable def Pe:BT (List (Nat×List dw)):=(c7 58 3 [⟨[zy,dW],[1],[(dD 0)],[(yu jX AX),(yu jY AX),(yu jZ AX),(yu j2 AX),(yu j3 AX),(yu sd AX),(yu sf AX),(yu jK AX),(yu jL AX),(yu jN AX),(yu ja AX),(yu jb AX)]⟩])
noncomputable def Pf:BT (List (Nat×List dw)):=(dh (dK (c7 806 8 [⟨[cZ,dW,.tok 80,ja,z2],[0],d0,[uF]⟩]) 1040 8 [⟨[cZ,dW,.tok 80,jb,z2],[0],d0,[uF]⟩]) 2600 8 [⟨[cZ,dW,.tok 60,.tok 100,LH],[0],d0,[uT]⟩,⟨[cZ,dW,.tok 70,.tok 100,LH],[0],d0,[uF]⟩] (dK (c7 2626 8 [⟨[cZ,dW,eL,.tok 101,LH],[0],d0,[uT]⟩,⟨[cZ,dW,eM,.tok 101,LH],[0],d0,[uF]⟩]) 2652 8 [⟨[cZ,dW,eL,.tok 102,LI],[0],d0,[uT]⟩,⟨[cZ,dW,eM,.tok 102,LI],[0],d0,[uF]⟩]))
noncomputable def Pg:BT (List (Nat×List dw)):=(dh (dK (c7 2678 8 [⟨[cZ,dW,.tok 61,.tok 103,LJ],[0],d0,[uT]⟩,⟨[cZ,dW,.tok 71,.tok 103,LJ],[0],d0,[uF]⟩]) 2704 8 [⟨[cZ,dW,eL,.tok 104,LJ],[0],d0,[uT]⟩,⟨[cZ,dW,eM,.tok 104,LJ],[0],d0,[uF]⟩]) 2730 8 [⟨[cZ,dW,eL,.tok 105,LI],[0],d0,[uT]⟩,⟨[cZ,dW,eM,.tok 105,LI],[0],d0,[uF]⟩] (c7 2756 8 [⟨[cZ,dW,eL,.tok 106,LK],[0],d0,[uT]⟩,⟨[cZ,dW,eM,.tok 106,LK],[0],d0,[uF]⟩]))
noncomputable def Ph:BT (List (Nat×List dw)):=(dh (dK (c7 2782 8 [⟨[cZ,dW,eL,.tok 107,LK],[0],d0,[uT]⟩,⟨[cZ,dW,eM,.tok 107,LK],[0],d0,[uF]⟩]) 2808 8 [⟨[cZ,dW,eL,.tok 108,.tup [za,z1]],[0],d0,[uT]⟩,⟨[cZ,dW,eM,.tok 108,.tup [za,z1]],[0],d0,[uF]⟩]) 2834 8 [⟨[cZ,dW,.tok 63,.tok 109,LL],[0],d0,[uT]⟩,⟨[cZ,dW,.tok 73,.tok 109,LL],[0],d0,[uF]⟩] (c7 2860 8 [⟨[cZ,dW,eL,.tok 110,LL],[0],d0,[uT]⟩,⟨[cZ,dW,eM,.tok 110,LL],[0],d0,[uF]⟩]))
noncomputable def Pi:BT (List (Nat×List dw)):=(dh (dK (c7 2886 8 [⟨[cZ,dW,eL,.tok 111,.tup [zi,z1]],[0],d0,[uT]⟩,⟨[cZ,dW,eM,.tok 111,.tup [zi,z1]],[0],d0,[uF]⟩]) 2912 8 [⟨[cZ,dW,.tok 74,.tok 112,MM],[0],d0,[uF]⟩]) 2938 8 [⟨[cZ,dW,eL,.tok 113,MM],[0],d0,[uT]⟩,⟨[cZ,dW,eM,.tok 113,MM],[0],d0,[uF]⟩] (c7 2964 8 [⟨[cZ,dW,eL,.tok 114,.tup [zl,z1]],[0],d0,[uT]⟩,⟨[cZ,dW,eM,.tok 114,.tup [zl,z1]],[0],d0,[uF]⟩]))
noncomputable def Pj:BT (List (Nat×List dw)):=(dh (dK (c7 2990 8 [⟨[cZ,dW,.tok 60,.tok 115,LM],[0],d0,[uT]⟩,⟨[cZ,dW,.tok 70,.tok 115,LM],[0],d0,[uF]⟩]) 3016 8 [⟨[cZ,dW,eL,.tok 116,LM],[0],d0,[uT]⟩,⟨[cZ,dW,eM,.tok 116,LM],[0],d0,[uF]⟩]) 3042 8 [⟨[cZ,dW,eL,.tok 117,LN],[0],d0,[uT]⟩,⟨[cZ,dW,eM,.tok 117,LN],[0],d0,[uF]⟩] (c7 3068 8 [⟨[cZ,dW,.tok 60,.tok 118,LP],[0],d0,[uT]⟩,⟨[cZ,dW,.tok 70,.tok 118,LP],[0],d0,[uF]⟩]))
noncomputable def Pl:BT (List (Nat×List dw)):=(dh (dK (c7 3094 8 [⟨[cZ,dW,eL,.tok 119,LP],[0],d0,[uT]⟩,⟨[cZ,dW,eM,.tok 119,LP],[0],d0,[uF]⟩]) 3120 8 [⟨[cZ,dW,eL,.tok 120,LQ],[0],d0,[uT]⟩,⟨[cZ,dW,eM,.tok 120,LQ],[0],d0,[uF]⟩]) 3146 8 [⟨[cZ,dW,.tok 63,.tok 121,LR],[0],d0,[uT]⟩,⟨[cZ,dW,.tok 73,.tok 121,LR],[0],d0,[uF]⟩] (c7 3172 8 [⟨[cZ,dW,eL,.tok 122,LR],[0],d0,[uT]⟩,⟨[cZ,dW,eM,.tok 122,LR],[0],d0,[uF]⟩]))
noncomputable def Pm:BT (List (Nat×List dw)):=(dh (dK (c7 3198 8 [⟨[cZ,dW,eL,.tok 123,LN],[0],d0,[uT]⟩,⟨[cZ,dW,eM,.tok 123,LN],[0],d0,[uF]⟩]) 3224 8 [⟨[cZ,dW,.tok 63,.tok 124,LS],[0],d0,[uT]⟩,⟨[cZ,dW,.tok 73,.tok 124,LS],[0],d0,[uF]⟩]) 3250 8 [⟨[cZ,dW,eL,.tok 125,LS],[0],d0,[uT]⟩,⟨[cZ,dW,eM,.tok 125,LS],[0],d0,[uF]⟩] (c7 3276 8 [⟨[cZ,dW,eL,.tok 126,LQ],[0],d0,[uT]⟩,⟨[cZ,dW,eM,.tok 126,LQ],[0],d0,[uF]⟩]))
noncomputable def Pn:BT (List (Nat×List dw)):=(dh (dK (c7 3302 8 [⟨[cZ,dW,eL,.tok 127,Fl],[0],d0,[uT]⟩,⟨[cZ,dW,eM,.tok 127,Fl],[0],d0,[uF]⟩]) 3328 8 [⟨[cZ,dW,eL,.tok 128,Fl],[0],d0,[uT]⟩,⟨[cZ,dW,eM,.tok 128,Fl],[0],d0,[uF]⟩]) 3354 8 [⟨[cZ,dW,eL,.tok 129,Fl],[0],d0,[uT]⟩,⟨[cZ,dW,eM,.tok 129,Fl],[0],d0,[uF]⟩] (c7 3380 8 [⟨[cZ,dW,eL,.tok 130,Fm],[0],d0,[uT]⟩,⟨[cZ,dW,eM,.tok 130,Fm],[0],d0,[uF]⟩]))
noncomputable def Po:BT (List (Nat×List dw)):=(dh (dK (c7 3406 8 [⟨[cZ,dW,eL,.tok 131,Fm],[0],d0,[uT]⟩,⟨[cZ,dW,eM,.tok 131,Fm],[0],d0,[uF]⟩]) 3432 8 [⟨[cZ,dW,eL,.tok 132,Fm],[0],d0,[uT]⟩,⟨[cZ,dW,eM,.tok 132,Fm],[0],d0,[uF]⟩]) 3458 8 [⟨[cZ,dW,eL,.tok 133,Fn],[0],d0,[uT]⟩,⟨[cZ,dW,eM,.tok 133,Fn],[0],d0,[uF]⟩] (c7 3484 8 [⟨[cZ,dW,eL,.tok 134,Fn],[0],d0,[uT]⟩,⟨[cZ,dW,eM,.tok 134,Fn],[0],d0,[uF]⟩]))
noncomputable def Pp:BT (List (Nat×List dw)):=(dh (dK (c7 3510 8 [⟨[cZ,dW,eL,.tok 135,Fn],[0],d0,[uT]⟩,⟨[cZ,dW,eM,.tok 135,Fn],[0],d0,[uF]⟩]) 3536 8 [⟨[cZ,dW,eL,.tok 136,Fo],[0],d0,[uT]⟩,⟨[cZ,dW,eM,.tok 136,Fo],[0],d0,[uF]⟩]) 3562 8 [⟨[cZ,dW,eL,.tok 137,Fo],[0],d0,[uT]⟩,⟨[cZ,dW,eM,.tok 137,Fo],[0],d0,[uF]⟩] (c7 3588 8 [⟨[cZ,dW,eL,.tok 138,Fo],[0],d0,[uT]⟩,⟨[cZ,dW,eM,.tok 138,Fo],[0],d0,[uF]⟩]))
noncomputable def Pq:BT (List (Nat×List dw)):=(dh (dK (c7 3614 8 [⟨[cZ,dW,.tok 63,.tok 139,Fq],[0],d0,[uT]⟩,⟨[cZ,dW,.tok 73,.tok 139,Fq],[0],d0,[uF]⟩]) 3640 8 [⟨[cZ,dW,.tok 63,.tok 140,Fs],[0],d0,[uT]⟩,⟨[cZ,dW,.tok 73,.tok 140,Fs],[0],d0,[uF]⟩]) 3666 8 [⟨[cZ,dW,eL,.tok 141,Fq],[0],d0,[uT]⟩,⟨[cZ,dW,eM,.tok 141,Fq],[0],d0,[uF]⟩] (c7 3692 8 [⟨[cZ,dW,eL,.tok 142,Fs],[0],d0,[uT]⟩,⟨[cZ,dW,eM,.tok 142,Fs],[0],d0,[uF]⟩]))
noncomputable def Pr:BT (List (Nat×List dw)):=(dK (c7 3718 8 [⟨[cZ,dW,eL,.tok 143,Fq],[0],d0,[uT]⟩,⟨[cZ,dW,eM,.tok 143,Fq],[0],d0,[uF]⟩]) 3744 8 [⟨[cZ,dW,eL,.tok 144,Fs],[0],d0,[uT]⟩,⟨[cZ,dW,eM,.tok 144,Fs],[0],d0,[uF]⟩])
noncomputable def LT:BT (BT (List (Nat×List dw))):=(.node (.node (.node (.node (.node .nil 15 (T5) .nil) 18 (T6) (.node .nil 19 (T7) .nil)) 110 (T8) (.node (.node .nil 118 ((.node (.node (.node T9 471 [] Ua) 759 [] (.node Uc 1097 [] Ud)) 1241 [] (.node (.node Ue 2193 [] Uf) 5197 [] (.node Oe 11605 [] (.node Of 25047 [] Og))))) .nil) 121 (Oh) .nil)) 123 (Oi) (.node (.node (.node .nil 126 (Oj) .nil) 132 (Ol) .nil) 133 (Om) (.node (.node .nil 134 ((.node .nil 26 [(5,On),(5,Oo),(5,Op),(5,Oq),(5,Os),(5,Ot),(5,Ou)] .nil)) .nil) 136 ((.node .nil 26 [(6,Ov),(6,Ow),(6,Ox),(6,Oy),(6,Oz),(6,OA)] .nil)) .nil))) 137 (OB) (.node (.node (.node (.node .nil 140 ((.node .nil 26 [(2,OC),(2,OD),(3,OE)] .nil)) .nil) 146 ((.node .nil 338 [(7,OF),(7,OG),(7,OH),(7,OI),(7,OJ),(7,OK)] .nil)) .nil) 166 (OL) (.node (.node .nil 167 (OM) .nil) 170 ((.node .nil 26000 [(2,ON),(2,OO),(3,OP)] .nil)) .nil)) 171 ((.node (.node (.node (.node OQ 339815 [] OS) 339827 [] (.node OT 339841 [] OU)) 339853 [] (.node (.node OV 339865 [] OW) 339875 [] (.node OX 339883 [] (.node OY 339895 [] OZ)))) 339919 [] (.node (.node (.node O0 340075 [] O1) 340087 [] (.node O2 340101 [] (.node O3 340113 [] O4))) 340125 [] (.node (.node O5 340135 [] O6) 340141 [] (.node O7 340147 [] (.node O8 340159 [] O9)))))) (.node (.node (.node .nil 174 (Pa) .nil) 180 ((.node .nil 58 [(1,Pb),(1,Pc),(1,Pd)] .nil)) .nil) 181 ((.node .nil 754 [(2,HF)] .nil)) (.node (.node .nil 182 (Pe) .nil) 183 ((.node (.node (.node Pf 2653 [] (.node Pg 2757 [] Ph)) 2861 [] (.node Pi 2965 [] (.node Pj 3069 [] Pl))) 3173 [] (.node (.node Pm 3277 [] (.node Pn 3381 [] Po)) 3485 [] (.node Pp 3589 [] (.node Pq 3693 [] Pr))))) .nil))))
noncomputable def MP(n:Nat):List (Nat×List dw)->List dw
 |[]=>[]
 |(k,es)::r=>match V8 k n with
  |true=>(match r with|[]=>es|_=>es++MP n r)
  |false=>MP n r
noncomputable def tab(n i k:Nat):List dw:=dq (LT.get i) [] λt=>dq (t.get (WX 2 k)) [] (MP n)
noncomputable def mI:Nat->H->Bool:=λY Y=>false
noncomputable def wT(a b:List (Nat×Nat)):Bool:=fm (λp q=>gd (U9 p.1 q.1) (U9 p.2 q.2)) a b
section
variable(T:Nat->List V)
noncomputable def LU(cs:List (Nat×Nat))(l0:List O)(_:gt)(fr:Fr)(h:H):Bool:=gd (wT fr.cells cs) (gd (!fr.lam) (lj T h l0))
noncomputable def Ps(kx ns:Nat)(Js:List (Nat×List O))(K:V->H->Bool)(f:f9)(h:H):Bool:=match f with
 |.nx=>lA (λJ=>gd (U9 (dq (dp (dp (h.get ns) oN) λm=>dp (eJ m kx) fj) 0 λk=>k) J.1) (lj T h J.2)) Js
 |.rt v=>K v h
end
inductive Pt(C:i9)(n i:Nat)(e:dw):Prop
 |mk (fi:gt) (cs:List (Nat×Nat)) (l0:List O) (kx:Nat) (Js:List (Nat×List O)) (a b:List Stmt) (ra:List V) (rp:List O) (ha:qc C.toks (λk=>k) (ju (λk=>k) e.args) ra=true) (hp:Hp C.toks (jw (λk=>k) e.pre) rp=true)
  (h1:C.F.get i=some fi) (h2:fi.body=a++b) (h3:cR (fu fi.params fi.dfl (ju (λk=>k) ra)) (λfull=>Prod.rec (motive:=λY=>Bool) (λfr h=>d7 fr h (LU C.toks cs l0 fi fr) fi.params full) (ez fi.lam fi.ks [] (eN H.nil (jw (λk=>k) rp))))=true)
  (h4:gd (V8 rp.length l0.length) (gd (Vk e.pre.length l0.length) (dF cs λp=>V8 p.2 l0.length))=true) (h5:(mO C n).ex ⟨fi.ks,rp.length,cs,false⟩ a (dQ l0) (Ps C.toks kx rp.length Js (ph C.toks e.pre.length e.pre e.outs)) mI=true)
  (h6:∀J,J∈Js->gd (Vk l0.length J.2.length) ((mO C n).ex ⟨fi.ks,rp.length,cs,false⟩ b (dQ J.2) (mt (ph C.toks e.pre.length e.pre e.outs)) mI)=true)
section
variable{g:Gb}{c:Cf}{C:i9}{dl ul:Nat}{h:H}{s:Shared}{A:Around}{e:dw}
theorem ml{X:Nat->H->Bool}(hX:X=mI){e:Value}{Q:Prop}(x:EX g c A X e s):Q:=x.rec λY Y Y Y Y Y Y Y t=>by rw[hX] at t;exact ft t
theorem AG{a b:List (Nat×Nat)}(h:wT a b=true):a=b:=dH h rfl λa x b y h ih=>cT h λh1 h2=>by rw[show a=b from Prod.ext (cX h1) (cX h2),ih]
theorem HG{fr:Fr}{ks:List (Nat×NameKind)}{cs:List (Nat×Nat)}{m:Nat}(h1:fr.ns=m)(h2:fr.ks=ks)(h3:wT fr.cells cs=true)(h4:(!fr.lam)=true):fr=⟨ks,m,cs,false⟩:=by
 cases fr with
 |mk a b d e=>
  cases (show b=m from h1)
  cases (show a=ks from h2)
  cases (show d=cs from AG h3)
  cases (show e=false from dO h4)
  rfl
theorem HH{α:Type}{x:Nat}{v:α}{l:List (Nat×α)}(h:eJ l x=some v):∃k,(k,v)∈l:=by
 induction l with
 |nil=>exact nn h
 |cons p r ih=>
  rw[dY] at h
  cases q:U9 p.1 x with
  |true=>
   rw[q] at h
   exact⟨p.1,(U7 h:p.2=v)▸Vc⟩
  |false=>
   rw[q] at h
   exact(ih h).imp λk w=>Vd _ w
theorem LV{n i:Nat}{μ:Nat->Nat}{args:List V}{vs:List Value}(F:ij (g.ins C none dl ul c e.pre.length μ s.heap))(Fh:ij (g.ins C none dl ul c e.pre.length μ s.heap).hush)
  (K:gG g C) (hq:C.quiet=false->A.handled=none) (hd:A.depth+(n+1)≤dl) (hu:A.units+16 * (n+1)+64≤ul) (hl:dl≤990/\ul≤cLine)
  (oa:dy g c 1 A) (I:cV g c h s) (hv:da g c args vs) (hm:Mu c e.pre.length μ) (ha:qc C.toks μ args e.args=true) (hp:uq C.toks μ e.outs h e.pre 0=true) (hr:Pt C n i e):
  cQ g.M A (call (.ref (g.fa i)) vs) (Ht g c h e μ) (Hu g c A h e μ) s:=by
 obtain⟨fi,cs,l0,kx,Js,a,b,ra,rp,ha2,hp2,h1,h2,h3,h4,h5,h6⟩:=hr
 refine rX (n:=n+1) (ra:=ra) (rp:=rp) K (λa q=>nn q) hq hd hu hl oa I hv hm ha hp ha2 hp2 λoa0 I0 hv0=>?_
 have S:=(jt F Fh n).self
 have hM:(g.ins C none dl ul c e.pre.length μ s.heap).M=g.M:=rfl
 have hfa:(g.ins C none dl ul c e.pre.length μ s.heap).fa=g.fa:=rfl
 have hC:(g.ins C none dl ul c e.pre.length μ s.heap).C=C:=rfl
 have hM0:(g.ins C none dl ul c e.pre.length μ s.heap).M0=none:=rfl
 have K':gG (g.ins C none dl ul c e.pre.length μ s.heap) C:=⟨λh1 h2=>K.i h1 (pg (g:=g)▸h2),λh=>(K.e h).elim λa q=>⟨a,q.1,pg (g:=g)▸q.2⟩,K.s,K.k⟩
 have hn0:(c.low e.pre.length μ).n=e.pre.length:=rfl
 have z:=F _ λY Y h=>h
 rw[<-hM,<-hfa]
 generalize g.ins C none dl ul c e.pre.length μ s.heap=g' at *
 generalize c.low e.pre.length μ=c0 at *
 subst hC
 have hN0:∀k,c0.N k->k<c0.n:=λk q=>I0.nlt k q
 refine kW z.F (n:=n) (Kf:=LU g'.C.toks cs l0) oa0 I0 hv0 (by rw[h1];exact h3) λfi' fr env ag ae aa hfi hns hks ac f hN hoa af hK=>iV hK λk1 k2 k3=>iV h4 λl1 l2 l3=>?_
 cases U7 (hfi.symm.trans h1)
 have hns:fr.ns=rp.length:=hns.trans ((jy (h:=H.nil)).trans ((VC _).trans (Vs ..)))
 cases HG hns hks k1 k2
 refine e02 (af.refit (l:=l0) (C:=g'.C) ac hN0 (Va (Vg hn0) (eP l2)) (λa q=>nn (hM0.symm.trans q)) K' k3) λam ak=>?_
 have aL:=f.sub (eP l1) λx i q=>(HH q).elim λk w=>by
  have y:=c9 l3 w
  exact eP y
 have hoa2:∀aA,dz (ag.sub l0.length λk=>k) aA->dy g' aA n (A.deeper env):=λaA au=>hoa aA (ak.trans au) (Vf (eP l1) au.n) (au.N _ ⟨eP l1,hN⟩) (aL.loc.trans (au.ρ _ (eP l1)).symm)
 rw[h2]
 refine ik (Q':=λfl s'=>match fl with
  |.next=>∃J c',J∈Js/\dz (ag.sub l0.length λk=>k) c'/\cV g' c' (dQ J.2) s'
  |.ret v=>QV g' c0 (ph g'.C.toks e.pre.length e.pre e.outs) v s'
  |_=>False) (cO (S.ex (hoa2 _ (.refl _)) aL am h5) (λfl aj q=>?_) λe aj x=>ml rfl x) (λaj q=>?_) (λv aj q=>q) λaj=>⟨λq=>q,λq=>q⟩
 .cases fl with
  |next=>
   obtain⟨c',h',e',i',kk⟩:=q
   refine iG kk λJ hJ kk=>cT kk λY kk=>cT (h6 J hJ) λh7 Y=>?_
   refine e02 (i'.refit (l:=J.2) (C:=g'.C) e' am.nlt (eP h7) (λa q=>nn (hM0.symm.trans q)) K' kk) λaz au=>?_
   exact⟨J,_,hJ,au,az⟩
  |ret v=>exact QV.mono ak q
  |brk=>exact q.elim
  |cont=>exact q.elim
 .refine e23 q λJ aA hJ au az=>?_;clear q
  refine cT (h6 J hJ) λY h8=>cO (S.ex (hoa2 _ au) (aL.ext au) az h8) (λfl bx x=>?_) λe aj x=>ml rfl x
  cases fl with
  |next=>exact QU.elim x λao aq bR am hK=>⟨.none,ao,aq,ak.trans (au.trans bR),am,iI,hK⟩
  |ret v=>exact QV.mono (ak.trans au) x
  |brk=>exact x.elim
  |cont=>exact x.elim
end
def WF(M:Option Addr)(g:Gb)(W:BT O):Prop:=∀k o,W.get k=some o->∃d,∀(hp:Heap) (c:Cf),(∀a ob,g.R a ob->hp.get? a=some ob)->(∀a vs,g.T0 a vs->c.T a vs)->(∀a,M=some a->0<c.n/\c.ρ 0=a)->OR g c o (g.w k) d hp
noncomputable def cx(W:BT O)(q x:Bool)(P:Nat->List V->H->Option (List dV)):i9:=⟨GT,FT,CT,W,q,toks x,P,nK,lzy,egr⟩
structure Fz(g:Gb):Prop where
 G:GF g
 CL:CF g
 F:FF g
 E:EF g
 D:WD g
 L:LF g
def Fc(g:Gb):Prop:=∀W q x P R S M s0 T0 dl ul,(∀a vs,g.T0 a vs->T0 a vs)->Fz (g.alt (cx W q x P) R S M s0 T0 dl ul)
noncomputable def LW(i:Nat):Bool:=dj (U9 i 166) (dj (U9 i 167) (dj (U9 i 170) (dj (U9 i 171) (U9 i 183))))
noncomputable def wt(md:Bool):BT O:=db md WT MO
noncomputable def AH(md:Bool)(n i k:Nat):List dw:=db (dj md (!(LW i))) (tab n i k) []
noncomputable def cm(md x:Bool)(n:Nat):i9:=cx (wt md) false x (pi (toks x) (AH md n))
inductive sj(x:Bool)(r i:Nat)(e:dw):Prop
 |d (ra:List V) (rp:List O) (h:rV (cm false x r) 55 i e ra rp=true)
 |m (ra:List V) (rp:List O) (h:rV (cm true x r) 55 i e ra rp=true) (hi:LW i=true) (hs:U9 (e.src.headD 1) 0=true) (hp:dT e.pre=false)
 |c (h:Pt (cm false x r) 54 i e)
def LX{α:Type}(P:α->Prop)(l:List α):Prop:=List.rec True (λx Y ih=>P x/\ih) l
theorem LX.mem{α:Type}{P:α->Prop}{x:α}{l:List α}:LX P l->x∈l->P x:=by
 induction l with
 |nil=>exact λY h=>absurd h Vh
 |cons y l ih=>exact λh hx=>(List.mem_cons.mp hx).elim (λe=>e▸h.1) (ih h.2)
def RW(r i:Nat)(es:List dw):Prop:=∀e,e∈es->∀x,sj x r i e
def Pk(i:Nat)(_:Nat)(l:List (Nat×List dw)):Prop:=LX (λp=>RW p.1 i p.2) l
def sk:Prop:=ff (λi t=>ff (Pk i) t) LT
noncomputable def Ug(x:Bool)(a:AI):AI:=dq (nC a) a λp=>db (U9 p.1 27) (.c (db x 50 49)) a
noncomputable def Uh(x:Bool)(v:V):V:=dq (dk v) v λl=>.bytes (l.map (Ug x))
noncomputable def Ui(x:Bool)(o:O):O:=dq (oB o) o λl=>.barr (l.map (Ug x))
noncomputable def RX(r i:Nat):Bool:=dj (U9 i 180) (gd (U9 i 170) (U9 r 2))
noncomputable def LY(x:Bool)(r i:Nat)(e:dw):Bool:=db (LW i)
 (gd (U9 (e.src.headD 1) 0) (gd (!(dT e.pre)) (rV (cm true x r) 55 i e (db (RX r i) (e.args.map (Uh x)) e.args) (db (RX r i) (e.pre.map (Ui x)) e.pre))))
 (rV (cm false x r) 55 i e (db (RX r i) (e.args.map (Uh x)) e.args) (db (RX r i) (e.pre.map (Ui x)) e.pre))
noncomputable def eR(x:Bool)(r i:Nat)(es:List dw):Bool:=dF es (LY x r i)
noncomputable def dI(x:Bool)(i:Nat)(t:BT (List (Nat×List dw))):Bool:=BT.rec true (λY Y l Y a b=>gd a (gd (dF l λp=>eR x p.1 i p.2) b)) t
theorem yQ{x:Bool}{r i:Nat}{e:dw}(h:LY x r i e=true):sj x r i e:=by
 unfold LY at h
 cases q:LW i with
 |true=>rw[q] at h;exact iV h λh1 h2 h=>.m _ _ h q h1 (dO h2)
 |false=>rw[q] at h;exact .d _ _ h
theorem pt{b:Bool}(h:(Bool.rec false true b:Bool)=true):b=true:=by
 cases b with
 |true=>rfl
 |false=>exact ft h
theorem dn{r i:Nat}{es:List dw}(h:∀x,(Bool.rec false true (eR x r i es):Bool)=true):RW r i es:=λe he x=>yQ (by
 have q:=c9 (pt (h x)) he
 exact q)
theorem cY{i:Nat}{t:BT (List (Nat×List dw))}(h:∀x,(Bool.rec false true (dI x i t):Bool)=true):ff (Pk i) t:=by
 replace h:∀x,dI x i t=true:=λx=>pt (h x)
 induction t with
 |nil=>trivial
 |node l k v r il ir=>
  replace h:∀x,gd (dI x i l) (gd (dF v λp=>eR x p.1 i p.2) (dI x i r))=true:=h
  refine⟨il λx=>cT (h x) λh1 Y=>h1,?_,ir λx=>iV (h x) λY Y h2=>h2⟩
  replace h:∀x,(dF v λp=>eR x p.1 i p.2)=true:=λx=>iV (h x) λY h1 Y=>h1
  clear il ir
  induction v with
  |nil=>trivial
  |cons p v ih=>exact⟨λe he x=>yQ (cT (h x) λh1 Y=>by
    have q:=c9 h1 he
    exact q),ih λx=>cT (h x) λY h2=>h2⟩
theorem eG{i k:Nat}{l r:BT (List (Nat×List dw))}(a:ff (Pk i) l)(b:ff (Pk i) r):ff (Pk i) (.node l k [] r):=⟨a,trivial,b⟩
theorem wU{i k:Nat}{v:List (Nat×List dw)}(a:Pk i k v):ff (Pk i) (.node .nil k v .nil):=⟨trivial,a,trivial⟩
theorem fB{i k r:Nat}{es:List dw}{v:List (Nat×List dw)}(a:RW r i es)(b:Pk i k v):Pk i k ((r,es)::v):=⟨a,b⟩
theorem wV{i k:Nat}:Pk i k []:=trivial
theorem gm{i:Nat}{t:BT (List (Nat×List dw))}{l r:BT (BT (List (Nat×List dw)))}(a:ff (λi t=>ff (Pk i) t) l)(b:ff (Pk i) t)(c:ff (λi t=>ff (Pk i) t) r):ff (λi t=>ff (Pk i) t) (.node l i t r):=⟨a,b,c⟩
theorem fZ:ff (λi t=>ff (Pk i) t) .nil:=trivial
theorem HI{n:Nat}{e:dw}{l:List (Nat×List dw)}:e∈MP n l->∃p,p∈l/\p.1<n/\e∈p.2:=by
 induction l with
 |nil=>exact λh=>absurd h Vh
 |cons p l ih=>
  obtain⟨k,es⟩:=p
  unfold MP
  cases q:V8 k n with
  |true=>
   cases l with
   |nil=>exact λh=>⟨_,Vc,eP q,h⟩
   |cons _ _=>exact λh=>(List.mem_append.mp h).elim (λh=>⟨_,Vc,eP q,h⟩) λh=>(ih h).elim λp h=>⟨p,Vd _ h.1,h.2⟩
  |false=>exact λh=>(ih h).elim λp h=>⟨p,Vd _ h.1,h.2⟩
structure Ok(n:Nat)(x md:Bool)(g:Gb):Prop where
 C:∃q,g.C=cx (wt md) q x (pi (toks x) (AH md n))
 F:Fc g
 W:WF g.M0 g (wt md)
 d:WF none g MO
 T:gG g (cm md x n)
 M:md=true->g.M0.isSome=true
 dl:g.dl≤990 - 55 * n
 ul:g.ul≤9892 - 944 * n
section
variable{g:Gb}{n:Nat}{x md:Bool}
theorem WF.up{M M0:Option Addr}{W:BT O}{C:i9}{R S:Addr->Obj->Prop}{s0:Shared}{dl ul:Nat}(h:WF M g W)(hR:∀a o,g.R a o->R a o):WF M (g.alt C R S M0 s0 g.T0 dl ul) W:=λk o e=>(h k o e).elim λd f=>⟨d,λhp c h1 h2 h3=>(oq (g:=g))▸f hp c (λa ob q=>h1 a ob (hR a ob q)) h2 h3⟩
theorem Ok.fz(k:Ok n x md g):Fz g:=by
 refine e11 k.C λq hC=>?_
 have:=k.F (wt md) q x (pi (toks x) (AH md n)) g.R g.S g.M0 g.s0 g.T0 g.dl g.ul λY Y h=>h
 rw[<-hC] at this
 exact this
theorem Ok.wR(k:Ok n x md g){R:Addr->Obj->Prop}(hR:∀a o,g.R a o->R a o):Ok n x md (g.wR R):=
 ⟨k.C,λW q x' P R' S M s0 T0 dl ul=>k.F W q x' P R' S M s0 T0 dl ul,k.W.up hR,k.d.up hR,⟨λh1 h2=>k.T.i h1 (iL (g:=g)▸h2),λh=>(k.T.e h).elim λa q=>⟨a,q.1,iL (g:=g)▸q.2⟩,k.T.s,k.T.k⟩,k.M,k.dl,k.ul⟩
theorem Ok.hush(k:Ok n x md g):Ok n x md g.hush:=by
 refine e11 k.C λq hC=>?_
 have e:g.hush=g.alt (Mine.Tactic.iB g.C) g.R g.S g.M0 g.s0 g.T0 g.dl g.ul:=rfl
 rw[e]
 exact⟨⟨true,show Mine.Tactic.iB g.C=_ by rw[hC];rfl⟩,λW q x' P R' S M s0 T0 dl ul=>k.F W q x' P R' S M s0 T0 dl ul,k.W.up λY Y h=>h,k.d.up λY Y h=>h,⟨λh1 h2=>k.T.i h1 (iL (g:=g)▸h2),λh=>(k.T.e h).elim λa q=>⟨a,q.1,iL (g:=g)▸q.2⟩,k.T.s,k.T.k⟩,k.M,k.dl,k.ul⟩
theorem Ok.fct(k:Ok n x md g)(p:qb g):Fk g:=by
 have z:=k.fz
 refine e11 k.C λq hC=>?_
 refine⟨z.G,⟨λI e=>(k.W _ _ (by rw[hC] at e;exact e)).elim λd h=>⟨d,h _ _ I.rest I.t0 I.m0⟩⟩,z.CL,z.F,z.E,z.D,z.L,λh=>?_,p⟩
 rw[hC]
 exact k.T.e h
theorem Ok.fctP(k:Ok n x md g)(p:∀{g':Gb},Ok n x md g'->qb g'):ij g:=λY hR=>(k.wR hR).fct (p (k.wR hR))
theorem Ok.ins(k:Ok n x md g){r m:Nat}{md':Bool}{c:Cf}{μ:Nat->Nat}{hp:Heap}(hr:r<n)(hm:md'=true->md=true):Ok r x md' (g.ins (cm md' x r) (db md' g.M0 none) (990 - 55 * r) (9892 - 944 * r) c m μ hp):=by
 refine⟨⟨false,rfl⟩,λW q x' P R' S M s0 T0 dl ul=>k.F W q x' P R' S M s0 T0 dl ul,?_,k.d.up λY Y h=>.inl h,⟨λh1 h2=>?_,λh=>?_,?_,?_⟩,?_,Vm _,Vm _⟩
 .cases md' with
  |true=>exact(hm rfl▸k.W).up λY Y h=>.inl h
  |false=>exact k.d.up λY Y h=>.inl h
 .exact k.T.i h1 (pg (g:=g)▸h2)
 .exact(k.T.e h).elim λa q=>⟨a,q.1,pg (g:=g)▸q.2⟩
 .exact k.T.s
 .exact k.T.k
 .cases md' with
  |true=>exact λY=>k.M (hm rfl)
  |false=>exact λq=>ft q
theorem UM{args:List V}{d:Nat}{src:List Nat}(h:U9 (src.headD 1) 0=true):mW (mH args d src) d 0=0:=by
 cases src with
 |nil=>exact ft h
 |cons a r=>cases (show a=0 from cX h);exact rW rfl
theorem Pu{a m p r:Nat}(h:a+1≤m)(k:m≤990 - 55 * p)(hr:r<p):a+55≤990 - 55 * r:=by omega
theorem Pv{a m p r:Nat}(h:a+16 * 1+64≤m)(k:m≤9892 - 944 * p)(hr:r<p):a+16 * 55+64≤9892 - 944 * r:=by omega
theorem LZ{r i:Nat}{e:dw}(IH:∀{md':Bool} {g':Gb},Ok r x md' g'->qb g')(k:Ok n x md g)(hr:r<n)(R:sj x r i e)(hi:LW i=true->md=true):RQ g i e:=λ{A c h s args vs} oa hh I hv hk=>by
 have hT:g.C.toks=toks x:=k.C.elim λq e=>by rw[e];rfl
 rw[hT] at hk
 refine Fi hk λh1 h2 h3 h4=>?_
 have hl:(mH args h.length e.src).length=e.pre.length:=cX h1
 have m:Mu c e.pre.length (mW (mH args h.length e.src) h.length):=hl▸I.len▸Mu.of (c:=c) (d:=0) (λY=>trivial) (I.len▸h2)
 have go:∀{md':Bool} {ra:List V} {rp:List O},rV (cm md' x r) 55 i e ra rp=true->(md'=true->md=true)->(∀a,db md' g.M0 none=some a->g.M0=some a/\0<e.pre.length/\mW (mH args h.length e.src) h.length 0=0)->_:=λ{md' ra rp} hR hm hM=>
  Ei (C:=cm md' x r) (M:=db md' g.M0 none) (dl:=990 - 55 * r) (ul:=9892 - 944 * r) ((k.ins hr hm).fctP IH) ((k.ins hr hm).hush.fctP IH) ⟨k.T.i,k.T.e,k.T.s,k.T.k⟩ hM (λY=>hh) (Pu oa.dep' k.dl hr) (Pv oa.un' k.ul hr)
   ⟨WP ..,Va (WP ..) (by decide)⟩ oa I hv m h3 h4 hR
 cases R with
 |c hR=>exact LV (C:=cm false x r) (dl:=990 - 55 * r) (ul:=9892 - 944 * r) ((k.ins hr (λq=>ft q)).fctP IH) ((k.ins hr (λq=>ft q)).hush.fctP IH) ⟨k.T.i,k.T.e,k.T.s,k.T.k⟩ (λY=>hh) (Pu oa.dep' k.dl hr) (Pv oa.un' k.ul hr) ⟨WP ..,Va (WP ..) (by decide)⟩ oa I hv m h3 h4 hR
 |d ra rp hR=>exact go hR (λq=>ft q) λa q=>nn q
 |m ra rp hR hi' hs hp=>
  exact go hR (λY=>hi hi') λa q=>⟨q,by
   cases q2:e.pre with
   |nil=>rw[q2] at hp;exact ft hp.symm
   |cons _ _=>exact Vx _,UM hs⟩
theorem EC(HT:sk){n i key:Nat}{md:Bool}{e:dw}(x:Bool)(he:e∈AH md n i key):∃r,r<n/\sj x r i e/\(LW i=true->md=true):=by
 unfold AH at he
 cases q:dj md (!(LW i)) with
 |false=>rw[q] at he;exact absurd he Vh
 |true=>
  rw[q] at he
  have he:e∈tab n i key:=he
  unfold tab at he
  cases q1:LT.get i with
  |none=>rw[q1] at he;exact absurd he Vh
  |some t=>
   rw[q1] at he
   have he:e∈(dq (t.get (WX 2 key)) [] (MP n):List dw):=he
   cases q2:t.get (WX 2 key) with
   |none=>rw[q2] at he;exact absurd he Vh
   |some l=>
    rw[q2] at he
    refine e13 (HI he) λp p1 p2 p3=>?_
    exact⟨p.1,p2,(ff.get (HT.get q1) q2).mem p1 e p3 x,λh=>eK q id λh2=>by rw[h] at h2;exact ft h2⟩
theorem ED(HT:sk):∀n x md g,Ok n x md g->qb g:=λn=>by
 induction n using Nat.strongRecOn with
 |_ n IH=>
  intro x md g k
  refine @yD g (AH md n) (k.C.elim λq e=>by rw[e];rfl) ?_
  intro i key e he
  refine e13 (EC HT x he) λr q1 q2 q3=>?_
  apply @LZ g n x md r i e (λ{md' g'}=>IH r q1 x md' g') k q1 q2 q3
theorem Ok.all(HT:sk)(k:Ok n x md g):ij g:=k.fctP (ED HT n x md _)
end
theorem EE{α β:Type}{f:Nat->α->β}{t:BT α}{k:Nat}{y:β}:(FK f t).get k=some y->∃x,y=f k x/\(k,x)∈(BT.rec [] (λY k v Y a b=>a++(k,v)::b) t:List (Nat×α)):=by
 induction t with
 |nil=>exact λe=>nn e
 |node l k' v r il ir=>
  intro e
  have e:(Bool.rec (Bool.rec ((FK f r).get k) ((FK f l).get k) (Vk (VE k) k')) (some (f k' v)) (U9 k k'):Option β)=some y:=e
  cases q:U9 k k' with
  |true=>
   rw[q] at e
   rw[cX q]
   exact⟨v,(U7 e).symm,Wl _ (.head _)⟩
  |false=>
   rw[q] at e
   cases q2:Vk (VE k) k' with
   |true=>rw[q2] at e;exact(il e).imp λx h=>⟨h.1,List.mem_append_left _ h.2⟩
   |false=>rw[q2] at e;exact(ir e).imp λx h=>⟨h.1,Wl _ (.tail _ h.2)⟩
section
variable{β:Type}
theorem L1{o:y6}{K:y6->β}:TW o K=K o:=by
 cases o with
 |none=>rfl
 |some p=>
  obtain⟨b,a,f,s⟩:=p
  cases a
  cases s
  cases f<;>cases b<;>rfl
end
theorem EG{f:jQ->y6}{l:List jQ}:∀{K:List y6->List y6},RD f l K=K (List.rec [] (λx Y ih=>f x::ih) l):=by
 induction l with
 |nil=>exact rfl
 |cons x l ih=>exact λ{K}=>(L1 (o:=f x) (K:=λy=>RD f l λr=>K (y::r))).trans (ih (K:=λr=>K (f x::r)))
theorem L2{h:Addr->Option Obj}{ad:Nat->Nat}{lc:Addr}{lq:Str}(e:So h ad lc lq=Sp):Sl h ad lc lq=Sm:=EG.symm.trans (e.trans EG)
theorem so{b:Bool}(h:y8 b=true):b=true:=by
 cases b with
 |true=>rfl
 |false=>exact ft h
theorem Pw:sO.all Nq=true:=by kernel_rfl
theorem L3{α β:Type}{f f':α->β}{l:List α}(h:(List.rec [] (λx Y ih=>f x::ih) l:List β)=List.rec [] (λx Y ih=>f' x::ih) l){x:α}(hx:x∈l):f x=f' x:=by
 induction l with
 |nil=>exact absurd hx Vh
 |cons y l ih=>
  refine e02 (VY h) λh1 h2=>?_
  exact(List.mem_cons.mp hx).elim (λe=>e▸h1) (ih h2)
theorem pu:(Txt.split (JV FS) (U8 " ")).map cd=[299,301,298,303,76330]/\FN FS=true/\((Txt.split (JV FS) (U8 " ")).all λy=>!(U9 (cd y) 0)&&Vk y.length 1000)=true:=by
 refine⟨?_,?_,?_⟩<;>decide+kernel
section
variable{g:Gb}{hp:Heap}{ad:Nat->Nat}
theorem WD.of(hw:g.C.words=nK):WD g:=λ{x ws} hx e=>by
 rw[hw] at e
 unfold nK at e
 cases q:U9 (cd x) 1412581125833631304002090 with
 |false=>rw[q] at e;exact nn e
 |true=>
  rw[q] at e
  have q:=cX q
  have hd:x=JV FS:=en hx (q.trans (cX pu.2.1).symm)
  rw[<-show _=ws from U7 e,hd]
  refine⟨pu.1,λy hy=>?_,by decide⟩
  have w:=List.all_eq_true.mp pu.2.2 y hy
  rw[WH] at w
  exact⟨ej (dO w.1),eP w.2⟩
theorem Fz.of(b:Ba g hp ad)(hG:g.C.G=GT)(hF:g.C.F=FT)(hC:g.C.C=CT)(hw:g.C.words=nK)(hlq:g.lq=vq)(hP:mainGlobals≠g.P)(ht:FQ hp ad g.lc g.P=true)(ho:Sl hp.get? ad g.lc vq=Sm)(h3:(3000,[ME])∈sO):Fz g:=
 RE ht λt1 t2 t3 t4 t5 t6=>by
  have ns:=cT t1 (C:=hp.isNs mainGlobals=true/\hp.isNs 0=true) λh1 h=>cT h λh2 Y=>⟨h1,h2⟩
  have lim:=Lim.of b t6
  have fn:∀{x:jQ},x∈sO->vp hp.get? ad g.lc g.lq x=BX x:=λhx=>hlq▸L3 ho hx
  have lq1:∀q:Str,(q++vn)++BS=g.lq->(q++".<locals>.")++"<lambda>"=g.lq:=λq h=>h
  refine⟨GF.of b hG t1,CF.of b hC t2,⟨λ{i fi} e=>?_,lim⟩,EF.of b hC lim ns.1 ns.2 t3 (fn h3),WD.of hw,LF.of b t4 t5 ns.1 hP⟩
  rw[hF] at e
  refine e12 (EE e) λd zq16 hm=>?_
  cases zq16
  exact Hz b lq1 (fn hm) (List.all_eq_true.mp Pw _ hm)
end
section
variable{g:Gb}{c c':Cf}{A:Around}{env:Env}{t:Expr}{b:List Stmt}{itv:Value}
theorem uG(W:SW g)(hq:A.handled=none){J:Nat->It->Cf->H->Prop}{R:Result->Shared->Prop}
  (step:∀m it c h s,J m it c h->cV g c h s->sM it t=true/\∃nx,next g.C it h=some nx/\(nx=.stop->∀s',cV g c h s'->R (.ok .next) s')/\∀v it',nx=.more v it'->∃m',m=m'+1/\∀x ao L aj,dz c ao->cV (g.pin L aj.heap) ao h aj->VR (g.pin L aj.heap) ao v x->
   cQ g.M A (assign t env x) (λY av=>cQ g.M A (execs b env) (λfl aB=>fl=.next/\∃aC ax,dz ao aC/\cV (g.pin L aj.heap) aC ax aB/\J m' it' aC ax) (λY Y=>False) av) (λY Y=>False) aj):
  ∀m it c h s,J m it c h->cV g c h s->pB g c s.heap it itv->c6 g.M A (.forLoop t itv b [] env) R s:=λm=>by
 induction m with
 |zero=>
  intro it c h s hJ I hit
  obtain⟨ht,nx,hn,h1,h2⟩:=step 0 it c h s hJ I
  exact wv W hq I hit ht hn h1 λv it' e=>(h2 v it' e).elim λm' q=>absurd q.1.symm (VU m')
 |succ m ih=>
  intro it c h s hJ I hit
  obtain⟨ht,nx,hn,h1,h2⟩:=step (m+1) it c h s hJ I
  refine wv W hq I hit ht hn h1 λv it' e x ao L aj ak am hv hb=>?_
  refine e12 (h2 v it' e) λm' hm h3=>?_
  cases Wq hm
  refine cO (h3 x ao L aj ak am hv) (λY av q=>cO q (λfl aB q=>?_) λY Y q=>q.elim) λY Y q=>q.elim
  obtain⟨rfl,aC,ax,aD,aF,hJ'⟩:=q
  exact ih it' aC ax aB hJ' aF.unpin (hb aC ax aB aD aF)
end
noncomputable def wW:Nat->List V->H->Option (List dV):=λY Y Y=>none
noncomputable def EH(f:f9):Bool:=match f with
 |.nx=>true
 |.rt _=>false
section
variable{g:Gb}{W:BT O}{q x:Bool}{c:Cf}
theorem EI(F:Fc g){P:Nat->List V->H->Option (List dV)}(hC:g.C=cx W q x P):Fz g:=by
 have:=F W q x P g.R g.S g.M0 g.s0 g.T0 g.dl g.ul λY Y h=>h
 rw[<-hC] at this
 exact this
theorem mn(F:Fc g){C:i9}{R S:Addr->Obj->Prop}{M:Option Addr}{s0:Shared}{dl ul:Nat}:Fc (g.alt C R S M s0 g.T0 dl ul):=λW q x' P R' S' M s0 T0 dl ul=>F W q x' P R' S' M s0 T0 dl ul
theorem fV{C C':i9}(K:gG g C'){R S:Addr->Obj->Prop}{M:Option Addr}{s0:Shared}{dl ul:Nat}:gG (g.alt C R S M s0 g.T0 dl ul) C':=⟨λh1 h2=>K.i h1 (iL (g:=g)▸h2),λh=>(K.e h).elim λa q=>⟨a,q.1,iL (g:=g)▸q.2⟩,K.s,K.k⟩
theorem wX{M M0:Option Addr}(h:WF M g W){C:i9}{R S:Addr->Obj->Prop}{s0:Shared}{dl ul:Nat}(hR:∀a o,g.R a o->R a o):WF M (g.alt C R S M0 s0 g.T0 dl ul) W:=h.up hR
theorem np(F:Fc g){P:Nat->List V->H->Option (List dV)}(hC:g.C=cx W q x P)(hW:WF g.M0 g W)(K:gG g g.C)(hp:∀R,(∀a o,g.R a o->R a o)->qb (g.wR R)):ij g:=λR hR=>by
 have z:=EI (mn F:Fc (g.wR R)) (W:=W) (q:=q) (x:=x) (P:=P) hC
 have hW':=wX (M0:=g.M0) (C:=g.C) (S:=g.S) (s0:=g.s0) (dl:=g.dl) (ul:=g.ul) hW hR
 exact⟨z.G,⟨λI e=>(hW' _ _ (by rw[show(g.wR R).C=cx W q x P from hC] at e;exact e)).elim λd h=>⟨d,h _ _ I.rest I.t0 I.m0⟩⟩,z.CL,z.F,z.E,z.D,z.L,λh=>(fV K).e h,hp R hR⟩
theorem yR(hC:g.C.P=wW):qb g:=λ{n A i args vs c h s outs K X} Y Y Y Y e=>by
 rw[hC] at e
 exact nn e
theorem yS(F:Fc g)(hC:g.C=cx W q x wW)(hW:WF g.M0 g W)(K:gG g g.C):ij g/\ij g.hush:=by
 have h2:g.hush=g.alt (Mine.Tactic.iB g.C) g.R g.S g.M0 g.s0 g.T0 g.dl g.ul:=rfl
 refine⟨np F hC hW K λR Y=>@yR (g.wR R) (show g.C.P=wW by rw[hC];rfl),?_⟩
 rw[h2]
 exact np (q:=true) (mn F) (show Mine.Tactic.iB g.C=cx W true x wW by rw[hC];rfl) (wX hW λY Y h=>h) (fV (C':=Mine.Tactic.iB g.C) ⟨K.i,K.e,K.s,K.k⟩) λR Y=>@yR (Gb.wR _ R) (show(Mine.Tactic.iB g.C).P=wW by rw[hC];rfl)
end
noncomputable def uH(s:Stmt):Expr×Expr×List Stmt×Pos:=match s with
 |.For t it b _ p=>(t,it,b,p)
 |_=>(.Name (U8 "") default,.Name (U8 "") default,[],default)
noncomputable def dZ(i k:Nat):Stmt:=(fC (pG (gN i) []).body k).getD (.Pass default)
noncomputable def ll:Nat:=408345935179892
noncomputable def HJ:Nat:=402925602104690
noncomputable def Px:Nat:=5962558572
noncomputable def uI:V:=.int (.u none none)
noncomputable def uN:V:=.int (.u (some 0) none)
noncomputable def wP(n:Nat):BT O:=.node .nil 2000 (.list (Vr n uI)) .nil
noncomputable def m4(n:Nat):i9:=cx (wP n) false false wW
noncomputable def SU:List (Nat×NameKind):=(pG (gN 173) []).ks
noncomputable def io:Fr:=⟨SU,0,[],false⟩
noncomputable def f8:Expr×Expr×List Stmt×Pos:=uH (dZ 173 1)
noncomputable def jn(a b:Bool):O:=.ns ((ll,.wr 2000)::db a ((HJ,uN)::db b [(Px,uI)] []) [])
noncomputable def jS(n:Nat)(b:Bool):List O:=[jn true b,.list (Vr (min n 30) uI)]
noncomputable def SX:O:=.list [uN,.int (.u (some 0) (some 30))]
noncomputable def m5:dw:=⟨[.wr 2000],[],[],[⟨none,[SX],.ref 0,[]⟩]⟩
noncomputable def AJ:Nat->List V:=toks false
noncomputable def uJ(l:List O):f9->H->Bool:=λf h=>gd (EH f) (lj AJ h l)
noncomputable def EJ(i:It):Bool:=match i with
 |.lst v k=>gd (cR (fk v) λr=>U9 r 1) (U9 k 0)
 |_=>false
noncomputable def Py(n:Nat):Bool:=(mO (m4 n) 20).ex io [dZ 173 0] (dQ [jn false false]) (uJ [jn true false]) mI
noncomputable def Pz(n:Nat):Bool:=nI (m4 n) (mO (m4 n) 20) io f8.2.1 (dQ [jn true false]) (λi h=>gd (EJ i) (lj AJ h (jS n false))) mI
noncomputable def HK(n:Nat)(b:Bool):Bool:=(mO (m4 n) 20).asg io f8.1 uI (dQ (jS n b)) (λh=>(mO (m4 n) 20).ex io f8.2.2.1 h (uJ (jS n true)) mI) mI
noncomputable def L4(n:Nat)(b:Bool):Bool:=(mO (m4 n) 20).ex io [dZ 173 2] (dQ (jS n b)) (mt (ph AJ 0 [] m5.outs)) mI
noncomputable def sp(n:Nat):Bool:=gd (Py n) (gd (Pz n) (gd (HK n false) (gd (HK n true) (gd (L4 n false) (L4 n true)))))
theorem EK:((VV 64).all λn=>Bool.rec false true (sp n))=true:=by kernel_rfl
theorem L5{n:Nat}(h:n<64):sp n=true:=by
 have q:=List.all_eq_true.mp EK n (List.mem_range.mpr h)
 cases e:sp n with
 |true=>rfl
 |false=>rw[e] at q;exact ft q
structure SY(n:Nat):Prop where
 p0:Py n=true
 p1:Pz n=true
 p2:∀b,HK n b=true
 p3:∀b,L4 n b=true
theorem qI{n:Nat}(h:n<64):SY n:=by
 have q:=L5 h
 unfold sp at q
 refine RE q λh0 h1 h2 h3 h4 h5=>⟨h0,h1,λb=>?_,λb=>?_⟩
 .cases b with
  |false=>exact h2
  |true=>exact h3
 .cases b with
  |false=>exact h4
  |true=>exact h5
noncomputable def Je:gt->Fr->H->Bool:=λY fr h=>gd (dT fr.cells) (gd (!fr.lam) (lj AJ h [jn false false]))
theorem AK:cR (FT.get 173) (λfi=>cR (fu fi.params fi.dfl [.wr 2000]) λfull=>Prod.rec (motive:=λY=>Bool) (λfr h=>d7 fr h (Je fi fr) fi.params full) (ez fi.lam fi.ks [] H.nil))=true:=by kernel_rfl
theorem L6:FT.get 173=some (pG (gN 173) []):=by kernel_rfl
theorem EL:(pG (gN 173) []).body=[dZ 173 0,.For f8.1 f8.2.1 f8.2.2.1 [] f8.2.2.2,dZ 173 2]:=by kernel_rfl
theorem Jf{fr:Fr}{ks:List (Nat×NameKind)}(h1:fr.ns=0)(h2:fr.ks=ks)(h3:dT fr.cells=true)(h4:(!fr.lam)=true):fr=⟨ks,0,[],false⟩:=by
 cases fr with
 |mk a b d e=>
  cases (show b=0 from h1)
  cases (show a=ks from h2)
  cases (show d=[] from fN h3)
  cases (show e=false from dO h4)
  rfl
theorem ln{C:Prop}{l:List O}{f:f9}{h:H}(hk:uJ l f h=true)(k:f=.nx->lj AJ h l=true->C):C:=cT hk λh1 h2=>k (by
 cases f with
 |nx=>rfl
 |rt v=>exact ft h1) h2
section
variable{g:Gb}
theorem PA{M:Option Addr}{n:Nat}{ps:Array Value}(hR:∀hp:Heap,(∀a ob,g.R a ob->hp.get? a=some ob)->i0 hp (g.w 2000) ps)(hi:da g (cz g) (Vr n uI) ps.toList)(hn:n≤10000):WF M g (wP n):=λk o e=>by
 have e:(Bool.rec (Bool.rec none none (Vk (VE k) 2000)) (some (.list (Vr n uI))) (U9 k 2000):Option O)=some o:=e
 cases q:U9 k 2000 with
 |false=>
  rw[q] at e
  cases q2:Vk (VE k) 2000 with
  |true=>rw[q2] at e;exact nn e
  |false=>rw[q2] at e;exact nn e
 |true=>
  rw[q] at e
  cases U7 e
  rw[cX q]
  refine⟨0,λhp c h1 h2 Y=>⟨ps,hR hp h1,hi.map λa ha v h=>?_,Va (Vg (List.length_replicate ..)) hn⟩⟩
  cases (List.mem_replicate.mp ha).2
  exact h
theorem L7{n:Nat}{b:Bool}:(dQ (jS n b)).get 1=some (.list (ju (λk=>k) (Vr (min n 30) uI))):=fT
theorem yT{α:Type}{x:α}:∀{n i:Nat},fC (Vr n x) i=if i<n then some x else none
 |0,i=>(if_neg (Vq i)).symm
 |n+1,0=>(if_pos (Vx n)).symm
 |n+1,i+1=>(yT (n:=n) (i:=i)).trans (by
  by_cases h:i<n
  .rw[if_pos h,if_pos (Nat.succ_lt_succ h)]
  .rw[if_neg h,if_neg λq=>h (VP q)])
inductive PJ(g:Gb)(n:Nat)(m:Nat)(it:It)(c:Cf)(h:H):Prop
 |mk (i:Nat) (b:Bool) (e1:it=.lst (.ref 1) i) (e2:m+i=min n 30) (e3:h=dQ (jS n b)) (e4:c.n=2)
theorem EM{n:Nat}{A:Around}{env:Env}{itv:Value}{c:Cf}{s:Shared}(hn:n<64)(hC:g.C=m4 n)(hM:g.M0=none)(Fp:ij g/\ij g.hush)(K:gG g (cx .nil false false wW))(hh:A.handled=none)(f:FR g c A io env)(oa:∀ao,dz c ao->dy g ao 20 A)
  {R:Result->Shared->Prop} (hR:∀b c' s',dz c c'->cV g c' (dQ (jS n b)) s'->R (.ok .next) s') (I:cV g c (dQ (jS n false)) s) (hc:c.n=2) (hit:pB g c s.heap (.lst (.ref 1) 0) itv):c6 g.M A (.forLoop f8.1 itv f8.2.2.1 [] env) R s:=by
 have S:ic g 20 (mO g.C 20):=jt Fp.1 Fp.2 20
 have W:SW g:=(Fp.1 g.R λY Y h=>h).W
 refine uG W hh (J:=λm it c' h=>PJ g n m it c' h/\dz c c') (R:=R) (λm it c' h s hJ I=>?_) (min n 30) (.lst (.ref 1) 0) c _ s ⟨⟨0,false,rfl,rfl,rfl,hc⟩,.refl c⟩ I hit
 refine e02 hJ λzq17 ex=>?_;clear hJ
 obtain⟨i,b,rfl,e2,rfl,e4⟩:=zq17
 have hnx:next g.C (.lst (.ref 1) i) (dQ (jS n b))=some (dq (fC (Vr (min n 30) uI) i) .stop λx=>.more x (.lst (.ref 1) (VE i))):=by
  refine(?_:dp (gf ((dQ (jS n b)).get 1)) (λl=>some (dq (fC l i) Nx.stop λx=>Nx.more x (.lst (.ref 1) (VE i))))=_)
  rw[L7]
  refine(?_:some (dq (fC (ju (λk=>k) (Vr (min n 30) uI)) i) Nx.stop λx=>Nx.more x (.lst (.ref 1) (VE i)))=_)
  rw[show ju (λk=>k) (Vr (min n 30) uI)=Vr (min n 30) uI from List.map_replicate]
 rw[yT] at hnx
 refine⟨rfl,_,hnx,λY s' I'=>hR b c' s' ex I',λv it' e=>?_⟩
 by_cases q:i<min n 30
 .rw[if_pos q] at e
  cases e
  refine⟨min n 30 - (i+1),by omega,λx ao L aj ak am hv=>?_⟩
  have hrun:HK n b=true:=(qI hn).p2 b
  have hrun:(mO g.C 20).asg io f8.1 uI (dQ (jS n b)) (λh=>(mO g.C 20).ex io f8.2.2.1 h (uJ (jS n true)) mI) mI=true:=hC▸hrun
  have ce:=oa ao (ex.trans ak)
  have aL:=f.ext (ex.trans ak)
  refine cO ((S.pin L aj.heap).asg ce.pin aL.pin am hv hrun) (λY av qq=>qq.elim λaA aw au az hK=>?_) λe s' x=>x.rec λY Y Y Y Y Y Y Y t=>ft t
  refine cO ((S.pin L aj.heap).ex (ce.pin.up au) (aL.pin.ext au) az hK) (λfl aB x=>?_) λe s' x=>x.rec λY Y Y Y Y Y Y Y t=>ft t
  cases fl with
  |next=>
   obtain⟨aC,ax,aD,aF,hK⟩:=x
   refine ln hK λY hf=>?_
   have e24:=au.trans aD
   have hc2:ao.n=(jS n true).length:=am.len.trans jz
   refine e02 (aF.refit e24 am.nlt (Vg hc2) (λa q=>nn (hM.symm.trans q)) (C:=cx .nil false false wW) (fV K) hf) λaO aS=>?_
   exact⟨rfl,_,_,aS,aO,⟨i+1,true,rfl,by omega,rfl,rfl⟩,(ex.trans ak).trans aS⟩
  |ret v=>exact QV.elim x λa aC ax aD aF hv hK=>ln hK λq Y=>f9.noConfusion q
  |brk=>exact x.elim
  |cont=>exact x.elim
 .rw[if_neg q] at e
  exact Nx.noConfusion e
end
section
variable{g:Gb}{c c':Cf}{A:Around}{s:Shared}
theorem gZ.sub{m:Nat}{a:Addr}(x:gZ g c a)(h:m≤c.n):gZ g (c.sub m λk=>k) a:=⟨⟨x.al.R,x.al.B,x.al.T,x.al.D⟩,x.S,λk hk=>x.ne k (Vf hk h),x.P⟩
theorem HL{m i:Nat}{h:Heap}{itv:Value}(x:pB g c h (.lst (.ref 1) i) itv)(hm:m≤c.n)(h1:1<m):pB g (c.sub m λk=>k) h (.lst (.ref 1) i) itv:=by
 cases x with
 |mk it itv L hL hS=>
  refine .mk _ _ L (λb hb=>(hL b hb).sub hm) ?_
  cases hS with
  |lst v i a l hp hv h1'=>exact .lst _ _ a l hp ⟨h1,hv.2⟩ h1'
theorem EN{i:It}(h:EJ i=true):i=.lst (.ref 1) 0:=by
 cases i with
 |lst v k=>
  refine cT h λh1 h2=>cP h1 λr e1 e2=>?_
  cases gx e1
  cases cX e2
  cases (show k=0 from cX h2)
  rfl
 |_=>exact ft h
theorem L8{n:Nat}:(m4 n).F=FT:=by unfold m4 cx;rfl
theorem HM{ps:Array Value}(F:Fc g)(K:gG g (cx .nil false false wW))(hT:g.C.toks=toks false)(hR:∀hp:Heap,(∀a ob,g.R a ob->hp.get? a=some ob)->i0 hp (g.w 2000) ps)(hi:da g (cz g) (Vr ps.size uI) ps.toList)(hs:ps.size<64)
  (hd:g.dl≤960) (hu:g.ul≤9400):RQ g 173 m5:=λ{A c h s args vs} oa hh I hv hk=>by
 rw[hT] at hk
 refine Fi hk λh1 h2 h3 h4=>?_
 have m:Mu c m5.pre.length (mW (mH args h.length m5.src) h.length):=I.len▸Mu.of (c:=c) (d:=0) (l:=[]) (λY=>trivial) (I.len▸h2)
 refine rX (C:=m4 ps.size) (M:=none) (dl:=990) (ul:=9900) (n:=25) (ra:=[.wr 2000]) (rp:=[]) ⟨K.i,K.e,K.s,K.k⟩ (λa q=>nn q) (λY=>hh) (by have:=oa.dep';omega) (by have:=oa.un';omega) ⟨Vm _,Vm _⟩ oa I hv m h3 h4 rfl rfl λoa0 I0 hv0=>?_
 generalize hg:g.ins (m4 ps.size) none 990 9900 c m5.pre.length (mW (mH args h.length m5.src) h.length) s.heap=g' at oa0 I0 hv0⊢
 generalize hc0:c.low m5.pre.length (mW (mH args h.length m5.src) h.length)=c0 at oa0 I0 hv0⊢
 have F':Fc g':=hg▸mn F
 have hC:g'.C=m4 ps.size:=hg▸rfl
 have hM:g'.M0=none:=hg▸rfl
 have K':gG g' (cx .nil false false wW):=hg▸fV K
 have W':WF g'.M0 g' (wP ps.size):=hg▸wX (PA hR hi (Nat.le_of_lt (Vf hs (by decide)))) λY Y h=>.inl h
 have Fp:ij g'/\ij g'.hush:=yS (W:=wP ps.size) (q:=false) (x:=false) F' hC W' (hC▸⟨K'.i,K'.e,K'.s,K'.k⟩)
 have z:=EI F' hC
 have S:eO g' 20 (mO g'.C 20):=(jt Fp.1 Fp.2 20).self
 have hF:g'.C.F=FT:=by rw[hC];exact L8
 have hMM:g'.M=g.M:=hg▸rfl
 have hfa:g'.fa=g.fa:=hg▸rfl
 rw[<-hMM,<-hfa]
 have hn0:c0.n=0:=hc0▸rfl
 have hN0:∀k,c0.N k->k<c0.n:=λk q=>I0.nlt k q
 have pr:=qI hs
 refine kW z.F (n:=24) (Kf:=Je) oa0 I0 hv0 (by rw[hF];exact AK) λfi fr env ag ae aa hfi hns hks ac f hN hoa af hK=>iV hK λk1 k2 k3=>?_
 rw[hF] at hfi
 have hfi:fi=pG (gN 173) []:=U7 (hfi.symm.trans L6)
 subst hfi
 have hns:fr.ns=0:=hns
 cases Jf hns hks k1 k2
 obtain⟨am,ak⟩:=af.refit (l:=[jn false false]) (C:=cx .nil false false wW) ac hN0 (by rw[hn0];exact VQ _) (λa q=>nn (hM.symm.trans q)) K' k3
 have hc1:∀x i,eJ (io).cells x=some i->i<1:=λx i q=>nn q
 have aL:FR g' (ag.sub 1 λk=>k) (A.deeper env) io env:=f.sub (Vx 0) hc1
 have hoa2:∀aA,dz (ag.sub 1 λk=>k) aA->dy g' aA 20 (A.deeper env):=λaA au=>(hoa aA (ak.trans au) (Vf (Vx 0) au.n) (au.N 0 ⟨Vx 0,hN⟩) (aL.loc.trans (au.ρ 0 (Vx 0)).symm)).less (by decide)
 have hC2:∀{b:Bool},b=true->b=true:=id
 rw[EL]
 have r0:(mO g'.C 20).ex io [dZ 173 0] (dQ [jn false false]) (uJ [jn true false]) mI=true:=hC▸pr.p0
 refine ik (a:=[dZ 173 0]) (S.ex (hoa2 _ (.refl _)) aL am r0|>λq=>cO q (λY Y x=>x) λe aj x=>ml rfl x) (λaj q=>?_) (λv aj q=>?_) λaj=>⟨λq=>q,λq=>q⟩
 rotate_left
 .exact QV.elim q λa aC ax aD aF hv hK=>ln hK λq Y=>f9.noConfusion q
 obtain⟨aA,aw,au,az,hK3⟩:=q
 refine ln hK3 λY hf3=>?_
 refine e02 (az.refit (l:=[jn true false]) (C:=cx .nil false false wW) au am.nlt (Vm 1) (λa q=>nn (hM.symm.trans q)) K' hf3) λaF aD=>?_
 have r1:nI g'.C (mO g'.C 20) io f8.2.1 (dQ [jn true false]) (λi h=>gd (EJ i) (lj AJ h (jS ps.size false))) mI=true:=hC▸pr.p1
 refine e03 (kX z.G (Fp.1 g'.R λY Y h=>h).W S (hoa2 _ aD) (aL.ext aD) aF r1) λhh' hst hw=>?_
 refine ie (Q':=λfl s'=>fl=.next/\∃b c',dz (ag.sub 1 λk=>k) c'/\cV g' c' (dQ (jS ps.size b)) s') (l9 (cO hw (λx aR aG=>cO aG (λitv aX ⟨i,bP,aG,aS,aO,hit,hK⟩=>?_) λY Y x=>ml rfl x) λY Y x=>ml rfl x) hst) (λaR q=>?_) λfl aR h1 h2=>absurd h2.1 h1
 .refine cT hK λk4 k5=>?_
  cases EN k4
  refine e02 (aO.refit (l:=jS ps.size false) (C:=cx .nil false false wW) aS aF.nlt (VA 1) (λa q=>nn (hM.symm.trans q)) K' k5) λa9 aT=>?_
  have hle:2≤bP.n:=cT k5 λw Y=>Va (eP w) (Vg aO.len.symm)
  refine dB (EM (R:=λr s'=>r=.ok .next/\∃b c',dz (ag.sub 1 λk=>k) c'/\cV g' c' (dQ (jS ps.size b)) s') hs hC hM Fp K' (show(A.deeper env).handled=none from hh) ((aL.ext aD).ext aT) (λao e=>hoa2 ao (aD.trans (aT.trans e))) (λb c' s' e I=>⟨rfl,b,c',aD.trans (aT.trans e),I⟩) a9 rfl (HL hit hle (Vm 2))) λr s' q=>?_
  refine e02 q λzq18 q=>?_
  cases zq18
  exact⟨rfl,q⟩
 .obtain⟨_,b,cN,bz,bc⟩:=q
  have r3:(mO g'.C 20).ex io [dZ 173 2] (dQ (jS ps.size b)) (mt (ph AJ 0 [] m5.outs)) mI=true:=hC▸pr.p3 b
  refine cO (S.ex (hoa2 _ bz) (aL.ext bz) bc r3) (λfl bx x=>?_) λe aj x=>ml rfl x
  cases fl with
  |next=>exact QU.elim x λao aq bR am hK=>⟨.none,ao,aq,ak.trans (bz.trans bR),am,iI,hK⟩
  |ret v=>exact QV.mono (ak.trans bz) x
  |brk=>exact x.elim
  |cont=>exact x.elim
end
noncomputable def AL:i9:=cx .nil false false wW
noncomputable def PB(d:Nat):O:=.list [uN,.int (.u (some 0) (some (30+d)))]
noncomputable def Uj(m:Nat)(d:Nat):dw:=⟨[.ref 0,.int (.c m)],[1],[PB d],[⟨none,[],.int (.u (some 0) (some (m - 1))),[(0,PB (VE d))]⟩]⟩
noncomputable def L9:List dw:=Uj 2 29::(VV 29).map (Uj 10)
noncomputable def t1(i _k:Nat):List dw:=db (U9 i 173) [m5] (db (U9 i 174) L9 [])
noncomputable def PC:i9:=cx .nil false false (pi AJ t1)
theorem HN:(L9.all λe=>Bool.rec false true (rV AL 20 174 e e.args e.pre))=true:=by kernel_rfl
theorem PD{e:dw}(h:e∈L9):rV AL 20 174 e e.args e.pre=true:=by
 have q:=List.all_eq_true.mp HN e h
 cases w:rV AL 20 174 e e.args e.pre with
 |true=>rfl
 |false=>rw[w] at q;exact ft q
theorem Ma{i k:Nat}{e:dw}(he:e∈t1 i k):(i=173/\e=m5)\/(i=174/\e∈L9):=by
 have he:e∈(db (U9 i 173) [m5] (db (U9 i 174) L9 []):List dw):=he
 cases q:U9 i 173 with
 |true=>
  rw[q] at he
  exact .inl ⟨cX q,List.mem_singleton.mp he⟩
 |false=>
  rw[q] at he
  have he:e∈(db (U9 i 174) L9 []:List dw):=he
  cases q2:U9 i 174 with
  |true=>rw[q2] at he;exact .inr ⟨cX q2,he⟩
  |false=>rw[q2] at he;exact absurd he Vh
section
variable{g:Gb}
theorem wY{M:Option Addr}:WF M g .nil:=λY Y e=>nn e
theorem Mb{e:dw}(F:Fc g)(K:gG g AL)(hT:g.C.toks=toks false)(he:e∈L9)(hd:g.dl≤960)(hu:g.ul≤9400):RQ g 174 e:=λ{A c h s args vs} oa hh I hv hk=>by
 rw[hT] at hk
 refine Fi hk λh1 h2 h3 h4=>?_
 have hl:(mH args h.length e.src).length=e.pre.length:=cX h1
 have m:Mu c e.pre.length (mW (mH args h.length e.src) h.length):=hl▸I.len▸Mu.of (c:=c) (d:=0) (λY=>trivial) (I.len▸h2)
 have hC:(g.ins AL none 990 9900 c e.pre.length (mW (mH args h.length e.src) h.length) s.heap).C=cx .nil false false wW:=rfl
 have Fp:=yS (g:=g.ins AL none 990 9900 c e.pre.length (mW (mH args h.length e.src) h.length) s.heap) (W:=.nil) (q:=false) (x:=false) (mn F) hC wY (fV (C':=AL) K)
 exact Ei (C:=AL) (M:=none) (dl:=990) (ul:=9900) (n:=20) Fp.1 Fp.2 K (λa q=>nn q) (λY=>hh) (by have:=oa.dep';omega) (by have:=oa.un';omega) ⟨Vm _,Vm _⟩ oa I hv m h3 h4 (PD he)
theorem PE{ps:Array Value}(F:Fc g)(K:gG g AL)(hC:g.C.P=pi g.C.toks t1)(hT:g.C.toks=toks false)(hR:∀hp:Heap,(∀a ob,g.R a ob->hp.get? a=some ob)->i0 hp (g.w 2000) ps)(hi:da g (cz g) (Vr ps.size uI) ps.toList)(hs:ps.size<64)
  (hd:g.dl≤960) (hu:g.ul≤9400):qb g:=by
 refine @yD g t1 hC ?_
 intro i k e he
 rcases Ma he with⟨rfl,rfl⟩|⟨rfl,he⟩
 .apply @HM g ps F K hT hR hi hs hd hu
 .apply @Mb g e F K hT he hd hu
end
noncomputable def wi(j:Nat):Nat:=db (U9 j 1000) 125 (db (U9 j 2000) 0 (Nat.add j 2))
noncomputable def m6:Nat:=285
noncomputable def PF(v:V):Option Nat:=match v with
 |.wr k=>some k
 |_=>none
noncomputable def PH(x:V):Option (Nat×Nat):=dp (uj x) λp=>gO (!(U9 p.1 3)) (some p)
noncomputable def SZ(mb:Bool)(n:Nat):V->V->Bool:=Nat.rec (λY Y=>false) (λY ih x y=>
 dj (fG PH x y) (dj (cR (fk x) λk=>dj (cR (PF y) λj=>gd (Vk 2 (wi j)) (U9 k (wi j))) (gd mb (cR (fk y) λj=>gd (U9 j 0) (U9 k m6))))
 (dj (cR (dE x) λa=>cR (dE y) λb=>fG fp a b)
 (dj (cR (dk x) λl=>cR (dk y) λl'=>fm (fG fp) l l') (cR (eg x) λl=>cR (eg y) λl'=>fm ih l l'))))) n
noncomputable def Uk(mb:Bool):List (Nat×V)->List (Nat×V)->Bool:=fm λp q=>gd (U9 p.1 q.1) (SZ mb 4 p.2 q.2)
noncomputable def Ul(mb:Bool)(x y:O):Bool:=dj (cR (oL x) λl=>cR (oL y) λl'=>fm (SZ mb 4) l l')
 (dj (cR (oI x) λp=>cR (oI y) λq=>gd (U9 p.1 q.1) (Uk mb p.2 q.2)) (cR (oD x) λl=>cR (oD y) λl'=>Uk mb l l'))
noncomputable def S2(h:H)(mb:Bool)(j:Nat)(o:O):Bool:=gd (!(U9 (wi j) m6)) (gd (Vk 2 (wi j)) (cR (h.get (wi j)) λx=>Ul mb x o))
noncomputable def PI:Nat:=24143214
noncomputable def EO:Nat:=1612482505828
noncomputable def Mc:Nat:=403947921962099
noncomputable def EP:List AI:=Vr 27 (.u (some 48) (some 57))++[.u (some 49) (some 50),.u (some 48) (some 57)]
noncomputable def UN:List (Nat×V):=[(ll,.wr 2000),(PI,.ref 1),(EO,.ref 125),(Mc,.bytes EP)]
noncomputable def PK:O:=.list [uN,.int (.u (some 0) (some 60))]
noncomputable def S4(h:H):Bool:=gd (cR (h.get 0) λx=>cR (oN x) λm=>MK AJ (λk=>k) m UN)
 (gd (cR (h.get 1) λx=>AU AJ (λk=>k) x PK) (gd (cR (h.get m6) λx=>AU AJ (λk=>k) x mX) (gd (j6 (S2 h false) MO) (j6 (S2 h true) WT))))
noncomputable def EQ:gt:=pG (gN 184) []
noncomputable def ER:Fr:=⟨EQ.ks,0,[],false⟩
noncomputable def Jg:Bool:=(mO PC 88).ex ER [dZ 184 0,dZ 184 1] (dQ [.ns [(ll,.wr 2000)]]) (λf h=>gd (EH f) (S4 h)) mI
theorem Md:Bool.rec false true Jg=true:=by kernel_rfl
structure S5(mb:Bool)(g g':Gb)(c c':Cf):Prop where
 fa:g'.fa=g.fa
 ca:g'.ca=g.ca
 pr:g'.pr=g.pr
 wd:g'.wd=g.wd
 w:∀j,2≤wi j->g'.w j=c.ρ (wi j)
 T:∀a vs,c.T a vs->c'.T a vs
 M:mb=true->0<c'.n/\c'.ρ 0=c.ρ m6
theorem HO{v:V}{k:Nat}(h:PF v=some k):v=.wr k:=by
 cases v with
 |wr j=>exact congrArg V.wr (U7 h)
 |_=>exact nn h
section
variable{mb:Bool}{g g':Gb}{c c':Cf}
theorem mq{α β:Type}[DecidableEq β]{w:α->Option β}{a b:α}{C:Prop}(h:fG w a b=true)(f:∀x,w a=some x->w b=some x->C):C:=
 cP h λx e1 h=>cP h λy e2 h=>f x e1 (of_decide_eq_true h▸e2)
theorem wZ(Z:S5 mb g g' c c'){n:Nat}:∀{x y:V} {v:Value},SZ mb n x y=true->VR g c x v->VR g' c' y v:=by
 induction n with
 |zero=>exact λh=>ft h
 |succ n ih=>
  exact λ{x y v} h hv=>MG h (λh=>mq h λp e1 e2=>cW e1 λp1 q1 e1=>cW e2 λp2 q2 e2=>dJ e1 λw1 e1=>dJ e2 λw2 e2=>by
   cases (U7 e1).trans (U7 e2).symm
   have hxy:x=y:=(pe x p1 q1).trans (pe y p1 q2).symm
   subst hxy
   cases x with
   |none=>exact hv
   |bool=>exact hv
   |str=>exact hv
   |fn=>exact Eq.trans hv (congrArg Value.ref (congrFun Z.fa _).symm)
   |cls=>exact Eq.trans hv (congrArg Value.ref (congrFun Z.ca _).symm)
   |bi=>exact hv
   |wr=>cases (U7 q1);exact ft w1
   |_=>exact nn q1) (λh=>cP h λk e1 h=>by
   cases gx e1
   refine e02 hv λh1 zq19=>?_;clear hv
   cases zq19
   exact eK h (λh=>cP h λj e2 h=>cT h λh0 h=>by
    cases HO e2
    exact congrArg Value.ref ((congrArg c.ρ (cX h)).trans (Z.w j (eP h0)).symm)) λh=>cT h λhm h=>cP h λj e2 h=>cT h λh2 h3=>by
    cases gx e2
    cases cX h2
    cases cX h3
    exact⟨(Z.M hm).1,congrArg Value.ref (Z.M hm).2.symm⟩) (λh=>cP h λa e1 h=>cP h λb e2 h=>mq h λm w1 w2=>by
   cases eA e1;cases eA e2;cases d9 _ _ w1;cases d9 _ _ w2
   exact hv) (λh=>cP h λl e1 h=>cP h λl' e2 h9=>by
   cases d6 e1;cases d6 e2
   refine e22 hv λb t zq20 hb=>?_;clear hv
   cases zq20
   refine⟨b,t,rfl,?_⟩
   clear e1 e2
   exact dH (P:=λl l'=>∀bs,BR g.σ l bs->BR g'.σ l' bs) h9 (λY h=>h) (λx r y r' h ih bs hx=>mq h λm w1 w2=>by
    refine e23 hx λb t zq21 h1 h2=>?_;clear hx
    cases zq21
    cases d9 _ _ w1;cases d9 _ _ w2
    exact⟨b,t,rfl,h1,ih _ h2⟩) _ hb) (λh=>cP h λl e1 h=>cP h λl' e2 h9=>by
   cases eB e1;cases eB e2
   refine e23 hv λa vs zq22 h1 h2=>?_;clear hv
   cases zq22
   refine⟨a,vs,rfl,Z.T _ _ h1,?_⟩
   clear e1 e2 h1
   exact dH (P:=λl l'=>∀vs,da g c l vs->da g' c' l' vs) h9 (λY h=>h) (λx r y r' h ih2 vs hx=>by
    refine e23 hx λv t zq23 h1 h2=>?_;clear hx
    cases zq23
    exact da.cons (ih h h1) (ih2 _ h2)) _ h2)
theorem Me(Z:S5 mb g g' c c'){x y:O}{a d:Addr}{hp:Heap}(h:Ul mb x y=true)(w:OR g c x a d hp):OR g' c' y a d hp:=
 Ck h (λh=>cP h λl e1 h=>cP h λl' e2 h9=>by
  cases gz e1;cases gz e2
  refine e13 w λvs h1 h2 h3=>?_;clear w
  refine⟨vs,h1,?_,Va (Vg (fS h9)) h3⟩
  clear e1 e2 h1 h3
  exact dH (P:=λl l'=>∀vs,da g c l vs->da g' c' l' vs) h9 (λY h=>h) (λx r y r' h ih2 vs hx=>by
   refine e23 hx λv t zq24 h1 h2=>?_;clear hx
   cases zq24
   exact da.cons (wZ Z h h1) (ih2 _ h2)) _ h2) (λh=>cP h λp e1 h=>cP h λq e2 h=>cT h λh1 h2=>by
  cases kH e1;cases kH e2
  refine e25 w λmm ns w1 w2 w3 w4 w5=>?_;clear w
  refine⟨mm,ns,by rw[Z.ca,<-cX h1];exact w1,w2,λz hz=>?_,w4,Va w5 (Vg (fS h2).symm)⟩
  have q1:=uo h2 (cd z)
  have q2:=w3 z hz
  cases e:eJ q.2 (cd z) with
  |none=>rw[q1.1 e] at q2;exact q2
  |some b=>
   refine e12 (q1.2 b e) λa z1 z2=>?_
   rw[z1] at q2
   refine e12 q2 λv y1 y2=>?_;clear q2
   exact⟨v,y1,wZ Z z2 y2⟩) (λh=>cP h λl e1 h=>cP h λl' e2 h9=>by
  cases sW e1;cases sW e2
  refine e14 w λkvs w1 w2 w3 w4=>?_;clear w
  refine⟨kvs,by rw[Z.pr,Z.wd];exact w1,w2,?_,Va (Vg (fS h9)) w4⟩
  clear e1 e2 w1 w4
  exact dH (P:=λl l'=>∀es,PR g c l es->PR g' c' l' es) h9 (λY h=>h) (λx r y r' h ih es hx=>cT h λh1 h2=>by
   obtain⟨i,a⟩:=x
   obtain⟨j,b⟩:=y
   cases (show i=j from cX h1)
   obtain⟨s,v,t,q1,q2,q3,q4,q5,q6⟩:=hx
   exact⟨s,v,t,q1,q2,q3,q4,wZ Z h2 q5,ih _ q6⟩) _ w3)
end
noncomputable def ES(l:List V):Bool:=dq (dp (gq l) λv=>dp (dE v) fp) true λY=>false
theorem Jh:j6 (λY l=>gd (dF l pp) (ES l)) TT=true:=by kernel_rfl
theorem PM(x:Bool):(gd (dF (mj x 11) pp) (gd (dF (mj x 12) pp) (dF (mj x 1000027) pp)))=true:=by cases x<;>kernel_rfl
theorem ET{x:Bool}{k:Nat}{a:V}(h:a∈mj x k):pp a=true:=by
 refine iV (PM x) λt1 t2 t3=>?_
 by_cases e1:k=11
 .subst e1;exact c9 t1 h
 by_cases e2:k=12
 .subst e2;exact c9 t2 h
 by_cases e3:k=1000027
 .subst e3;exact c9 t3 h
 unfold mj at h
 rw[dg e1,dg e2,dg e3] at h
 exact absurd h Vh
theorem pw(x:Bool)(k:Nat)(a:V)(h:a∈toks x k):pp a=true:=by
 unfold toks at h
 cases e:TT.get k with
 |none=>rw[e] at h;exact ET h
 |some l=>
  rw[e] at h
  exact cT (ef Jh e) λh1 Y=>c9 h1 h
theorem EU{x:Bool}{j:Nat}{m:Int}(h:dp (gq (toks x j)) (λv=>dp (dE v) fp)=some m):j=1000027/\m=db x 50 49:=by
 unfold toks at h
 cases e:TT.get j with
 |some l=>
  rw[e] at h
  refine cT (ef Jh e) λY h2=>?_
  unfold ES at h2
  rw[show dp (gq l) (λv=>dp (dE v) fp)=some m from h] at h2
  exact ft h2
 |none=>
  rw[e] at h
  have h:dp (gq (mj x j)) (λv=>dp (dE v) fp)=some m:=h
  unfold mj at h
  cases q1:U9 j 11 with
  |true=>rw[q1] at h;exact nn h
  |false=>
   cases q2:U9 j 12 with
   |true=>rw[q1,q2] at h;exact nn h
   |false=>
    cases q3:U9 j 1000027 with
    |true=>rw[q1,q2,q3] at h;exact⟨cX q3,(U7 h).symm⟩
    |false=>rw[q1,q2,q3] at h;exact nn h
theorem yU{x:Bool}{σ:Nat->Int}(h:σ 27=db x 50 49):Kn (toks x) σ:=λk n q=>cP q λm q1 q2=>by
 refine e02 (EU q1) λh1 h2=>?_
 have h3:k=27:=by omega
 rw[h3,h,<-h2]
 exact of_decide_eq_true q2
noncomputable def PN(a:AI):Bool:=dj (cR (nC a) λp=>!(U9 p.1 999)) (gd (nC a).isNone (A9 a).isNone)
noncomputable def v9(n:Nat):V->Bool:=Nat.rec (λY=>false) (λY ih a=>dq (dE a) (dq (dk a) (dq (eg a) true λl=>dF l ih) λl=>dF l PN) PN) n
noncomputable def Gb.sg(g:Gb)(σ:Nat->Int):Gb:={g with σ:=σ}
theorem PO{σ σ':Nat->Int}(hs:∀k,k≠999->σ' k=σ k){a:AI}{n:Int}(h:PN a=true)(x:dN σ a n):dN σ' a n:=by
 cases a with
 |s k lo hi=>exact eK h (λh=>⟨x.1.trans (hs k (ej (dO h))).symm,x.2⟩) λh=>ft h
 |pb d=>exact ft h
 |_=>exact x
theorem Um{σ σ':Nat->Int}(hs:∀k,k≠999->σ' k=σ k){l:List AI}:∀{bs:List UInt8},dF l PN=true->BR σ l bs->BR σ' l bs:=by
 induction l with
 |nil=>exact λY x=>x
 |cons a l ih=>exact λh x=>cT h λh1 h2=>let⟨b,t,e,x1,x2⟩:=x;⟨b,t,e,PO hs h1 x1,ih h2 x2⟩
theorem pz{g:Gb}{σ':Nat->Int}{c:Cf}(hs:∀k,k≠999->σ' k=g.σ k){n:Nat}:∀{a:V} {v:Value},v9 n a=true->VR g c a v->VR (g.sg σ') c a v:=by
 induction n with
 |zero=>exact λh=>ft h
 |succ n ih=>
  intro a v h x
  cases a with
  |int a=>obtain⟨m,t,e,x⟩:=x;exact⟨m,t,e,PO hs h x⟩
  |bytes l=>obtain⟨b,t,e,x⟩:=x;exact⟨b,t,e,Um hs h x⟩
  |tup l=>
   refine e23 x λa vs e x1 x2=>?_;clear x
   refine⟨a,vs,e,x1,?_⟩
   clear e x1
   revert vs
   have h0:dF l (v9 n)=true:=h
   clear h
   intro vs x2
   have h:=h0
   clear h0
   induction l generalizing vs with
   |nil=>exact x2
   |cons y l ih2=>
    refine e23 x2 λw ws e y1 y2=>?_;clear x2
    exact cT h λh1 h2=>⟨w,ws,e,ih h1 y1,ih2 ws y2 h2⟩
  |_=>exact x
theorem S6:j6 (λY l=>dF l (v9 8)) TT=true:=by kernel_rfl
theorem S7(x:Bool):(gd (dF (mj x 11) (v9 8)) (gd (dF (mj x 12) (v9 8)) (dF (mj x 1000027) (v9 8))))=true:=by cases x<;>kernel_rfl
theorem sq(x:Bool)(k:Nat)(a:V)(h:a∈toks x k):v9 8 a=true:=by
 unfold toks at h
 cases e:TT.get k with
 |some l=>
  rw[e] at h
  have q:=ef S6 e
  exact c9 q h
 |none=>
  rw[e] at h
  have h:a∈mj x k:=h
  refine iV (S7 x) λt1 t2 t3=>?_
  by_cases e1:k=11
  .subst e1;exact c9 t1 h
  by_cases e2:k=12
  .subst e2;exact c9 t2 h
  by_cases e3:k=1000027
  .subst e3;exact c9 t3 h
  unfold mj at h
  rw[dg e1,dg e2,dg e3] at h
  exact absurd h Vh
noncomputable def AM(σ:Nat->Int)(k:Nat):Int:=db (U9 k 999) 0 (σ k)
theorem nq{σ:Nat->Int}{k:Nat}(h:k≠999):AM σ k=σ k:=by
 unfold AM
 rw[dg h]
 rfl
noncomputable def Gb.wt(g:Gb)(x:Bool):Gb:=g.tk (r9 (g.sg (AM g.σ)) (toks x) (pw x))
theorem HP{g:Gb}{x:Bool}{C:i9}(hC:C.toks=toks x)(h:g.σ 27=db x 50 49):gG (g.wt x) C:=by
 refine⟨λ{c' k a v} h1 h2=>?_,λ{c' k v} h=>?_,λ{f n k a} h=>?_,?_⟩
 .rw[hC] at h1
  exact Jb h1 (pz (g:=g.wt x) (σ':=AM g.σ) (λk hk=>nq hk) (sq x k a h1) h2)
 .rw[hC]
  refine e12 (Ex h) λa h1 h2=>?_
  exact⟨a,h1,pz (σ':=g.σ) (λk hk=>(nq hk).symm) (sq x k a h1) h2⟩
 .rw[hC] at h
  exact uD (pw x k a h)
 .rw[hC]
  exact yU h
noncomputable def pA(h:Heap)(p:Addr):Heap:=h.update p λo=>{o with data:=.freed}
theorem qJ{h:Heap}{p:Addr}:(pA h p).get? p=none:=by
 unfold pA Heap.update Heap.get?
 obtain⟨objs,l⟩:=h
 show(match(objs.modify p λo=>{o with data:=.freed})[p]? with
  |some ⟨_,_,.freed,_⟩=>none
  |o=>o)=none
 rw[Array.getElem?_modify,if_pos rfl]
 cases objs[p]? with
 |none=>rfl
 |some o=>rfl
theorem lp{h:Heap}{p a:Addr}(n:a≠p):(pA h p).get? a=h.get? a:=V3 _ _ (Ne.symm n)
noncomputable def Mf:Gc:=⟨λY Y Y=>False,λh=>h.elim,λY h=>h⟩
noncomputable def UO(w:World)(s:Shared)(sc:Addr):Gb where
 C:=PC
 σ:=λk=>db (U9 k 27) 49 0
 w:=λY=>sc
 fa:=sN
 ca:=sN
 B:=pA s.heap 1110
 R:=λa o=>a=sc/\s.heap.get? a=some o
 S:=λY Y=>False
 M0:=none
 lc:=1114
 P:=1110
 lq:=vq
 dl:=960
 ul:=9400
 s0:=s
 T0:=λa vs=>s.heap.IsTuple a vs.toArray
 wd:=w
 pr:=PG
 TK:=Mf.1
 tkh:=λ{_ _ _} h=>Mf.2.1 h
 tkx:=λ{_ _ _ _} e h=>Mf.2.2 e h
noncomputable def gA(w:World)(s:Shared)(sc:Addr):Gb:=(UO w s sc).wt false
theorem S8:(3000,[ME])∈sO:=List.mem_of_getElem? (i:=130) (by kernel_rfl)
structure sB(w:World)(s₀ s:Shared)(sc:Addr)(ps:Array Value):Prop where
 t:FQ s₀.heap sN 1114 1110=true
 o:Sl s₀.heap.get? sN 1114 vq=Sm
 p:s₀.heap.get? 1110=some (tabObj #[])
 m:∃x,s₀.heap.get? sysModules=some x
 k:∀b o,s₀.heap.get? b=some o->s.heap.get? b=some o
 l:i0 s.heap sc ps
 i:∀v,v∈ps.toList->∃n t,v=.int n t
 n:ps.size<64
section
variable{W:BT O}{q x:Bool}{P:Nat->List V->H->Option (List dV)}
theorem S9:(cx W q x P).G=GT:=by unfold cx;rfl
theorem Ta:(cx W q x P).F=FT:=by unfold cx;rfl
theorem Tb:(cx W q x P).C=CT:=by unfold cx;rfl
theorem Tc:(cx W q x P).words=nK:=by unfold cx;rfl
end
section
variable{w:World}{s₀ s:Shared}{sc:Addr}{ps:Array Value}
theorem sB.ba(b:sB w s₀ s sc ps){g:Gb}(hB:g.B=pA s.heap 1110)(hP:g.P=1110)(hT:∀a vs,s.heap.IsTuple a vs.toArray->g.T0 a vs)(hf:g.fa=sN)(hc:g.ca=sN):Ba g s₀.heap sN:=
 ⟨λa o h n=>by rw[hB,lp (hP▸n)];exact b.k a o h,by rw[hP];exact b.p,λt o n vs h1 h2 h3=>hT t _ ⟨o,b.k t o h1,h2,n,by rw[h3,WU]⟩,λi=>congrFun hf i,λi=>congrFun hc i⟩
theorem sB.fc(b:sB w s₀ s sc ps){g:Gb}(hB:g.B=pA s.heap 1110)(hP:g.P=1110)(hT:∀a vs,s.heap.IsTuple a vs.toArray->g.T0 a vs)(hf:g.fa=sN)(hc:g.ca=sN)(hl:g.lc=1114)(hq:g.lq=vq):Fc g:=λW q x P R S M s0 T0 dl ul h=>by
 have ba:Ba (g.alt (cx W q x P) R S M s0 T0 dl ul) s₀.heap sN:=b.ba hB hP (λa vs q=>h a vs (hT a vs q)) hf hc
 generalize hg':g.alt (cx W q x P) R S M s0 T0 dl ul=g' at ba⊢
 have e1:g'.lc=1114:=hg'▸hl
 have e2:g'.P=1110:=hg'▸hP
 have e3:g'.C=cx W q x P:=hg'▸rfl
 exact Fz.of ba (by rw[e3,S9]) (by rw[e3,Ta]) (by rw[e3,Tb]) (by rw[e3,Tc]) (hg'▸hq) (by rw[e2];decide) (by rw[e1,e2];exact b.t) (by rw[e1];exact b.o) S8
theorem sB.inv(b:sB w s₀ s sc ps)(hsc:sc≠1110):cV (gA w s sc) (cz (gA w s sc)) H.nil s:=by
 have hg:∀a o,(gA w s sc).R a o->a=sc/\s.heap.get? a=some o:=λa o h=>h
 have hp:=b.k _ _ b.p
 refine⟨rfl,λk o e=>nn e,λk hk=>absurd hk (Vq k),λa vs h=>h,λa o h=>h.elim,λa o h=>h.2,λa o h=>h.elim,λa o h=>?_,λj k hj=>absurd hj (Vq j),λk hk=>absurd hk (Vq k),λa o h=>h.elim,⟨rfl,rfl,rfl⟩,λa vs h=>h,λa h=>nn h,λk h=>h.elim,?_,?_,?_,?_⟩
 .by_cases q:a=1110
  .rw[q] at h
   exact nn (qJ.symm.trans h)
  .exact(lp q).symm.trans h
 .exact⟨#[],hp,trivial,λpos cv q=>nn q⟩
 .refine⟨λo q=>hsc q.1.symm,qJ,λvs q=>?_,λo q=>q.elim⟩
  refine e13 q λo h1 h2 Y=>?_;clear q
  have h1:s.heap.get? 1110=some o:=h1
  rw[show s.heap.get? 1110=_ from hp] at h1
  cases U7 h1
  have h2:Value.none=Value.type "tuple":=h2
  exact absurd h2 (by decide)
 .refine e11 b.m λx hx=>?_
  refine⟨x,(lp (show sysModules≠1110 by decide)).trans (b.k _ _ hx)⟩
 .refine⟨λa vs o q r=>?_,λa ob o q=>q.elim⟩
  refine e13 q λo' h1 h2 Y=>?_;clear q
  refine e11 b.l λn h3=>?_
  rw[r.1,h3] at h1
  cases U7 h1
  have h2:Value.type "list"=Value.type "tuple":=h2
  exact absurd h2 (by decide)
end
noncomputable def Fu(j:Nat):Nat:=db (U9 j 0) m6 (db (U9 j 1) 1 0)
noncomputable def HQ(bs:List UInt8)(pv:Int)(k:Nat):Int:=db (U9 k 999) pv (dq (bs[k]?) 0 λb=>(b.toNat:Int))
noncomputable def UP(g:Gb)(c:Cf)(s:Shared)(x:Bool)(bs:List UInt8)(pv:Int):Gb:=
 {g with
  C:=cm true x 9
  σ:=HQ bs pv
  w:=λj=>db (U9 j 2000) (g.w 2000) (c.ρ (wi j))
  R:=λa o=>g.R a o\/(s.heap.get? a=some o/\∃k,k<c.n/\(∀j,j<3->Fu j≠k)/\(a=c.ρ k\/a=c.δ k))
  M0:=some (c.ρ m6)
  T0:=c.T
  dl:=495
  ul:=1396}
noncomputable def gF(g:Gb)(c:Cf)(s:Shared)(x:Bool)(bs:List UInt8)(pv:Int):Gb:=(UP g c s x bs pv).wt x
noncomputable def Un:List (Nat×V):=[(ll,.wr 2000),(PI,.ref 1),(EO,.wr 1000),(Mc,.bytes HD)]
noncomputable def j0:List O:=[mX,dD 0,.ns Un]
noncomputable def Ji(l:List AI):Nat->List AI:=List.rec (λY=>[]) (λa Y ih i=>AI.s i ((a.lo).getD 0) ((a.hi).getD 0)::ih (VE i)) l
theorem HR:HD=Ji EP 0:=by kernel_rfl
section
variable{g g':Gb}{c c':Cf}{h:H}{s:Shared}{σ σ':Nat->Int}
theorem Mg{l:List AI}:∀{bs:List UInt8} {i:Nat},(∀a,a∈l->∃lo hi,a=.u (some lo) (some hi))->BR σ l bs->(∀j b,bs[j]? =some b->σ' (i+j)=(b.toNat:Int))->BR σ' (Ji l i) bs:=by
 induction l with
 |nil=>exact λY h Y=>h
 |cons a l ih=>
  intro bs i hu h hs
  refine e23 h λb t zq25 h1 h2=>?_;clear h
  cases zq25
  refine e21 (hu a Vc) λlo hi zq26=>?_
  cases zq26
  refine⟨b,t,rfl,⟨(hs 0 b rfl).symm,h1.1 _ rfl,h1.2 _ rfl⟩,ih (λa ha=>hu a (Vd _ ha)) h2 λj b' e=>?_⟩
  have:=hs (j+1) b' e
  rw[show i+(j+1)=VE i+j by omega] at this
  exact this
theorem Mh{l:List AI}:∀{bs:List UInt8},(∀a,a∈l->∃lo hi,a=.u lo hi)->BR σ l bs->BR σ' l bs:=by
 induction l with
 |nil=>exact λY h=>h
 |cons a l ih=>
  intro bs hu h
  refine e23 h λb t zq27 h1 h2=>?_;clear h
  cases zq27
  refine e21 (hu a Vc) λlo hi zq28=>?_
  cases zq28
  refine⟨b,t,rfl,h1,?_⟩
  exact ih (bs:=t) (λa ha=>hu a (Vd _ ha)) h2
theorem PP{l:List AI}:∀{bs:List UInt8} {i:Nat} {a:AI},BR σ l bs->l[i]? =some a->∃b,bs[i]? =some b/\dN σ a (b.toNat:Int):=by
 induction l with
 |nil=>exact λY e=>nn e
 |cons x l ih=>
  intro bs i a h e
  refine e23 h λb t zq29 h1 h2=>?_;clear h
  cases zq29
  cases i with
  |zero=>exact⟨b,rfl,U7 (show some x=some a from e)▸h1⟩
  |succ i=>exact ih (bs:=t) (i:=i) h2 e
theorem NR.alter{x:List (Nat×V)}:∀{y:List (Nat×V)} {mm:Str->Option Value},NR g c x mm->x.map (·.1)=y.map (·.1)->(∀p,p∈x.zip y->∀z v,cd z=p.1.1->mm z=some v->VR g c p.1.2 v->VR g' c' p.2.2 v)->NR g' c' y mm:=λ{y mm} hn hk hv z hz=>by
 have q:=hn z hz
 clear hn
 induction x generalizing y with
 |nil=>
  cases y with
  |nil=>exact q
  |cons p y=>exact absurd hk.symm (VT _ _)
 |cons p x ih=>
  cases y with
  |nil=>exact absurd hk (VT _ _)
  |cons r y=>
   refine e02 (VY hk) λhk1 hk2=>?_
   obtain⟨k,a⟩:=p
   obtain⟨k',b⟩:=r
   cases (show k=k' from hk1)
   rw[dY] at q⊢
   cases e:U9 k (cd z) with
   |true=>
    rw[e] at q
    refine e12 q λv v1 v2=>?_;clear q
    exact⟨v,v1,hv _ Vc z v (cX e).symm v1 v2⟩
   |false=>
    rw[e] at q
    exact ih hk2 (λp hp=>hv p (Vd _ hp)) q
theorem Mi{a x:AI}{n:Nat}:a∈cp x n->a=x:=by
 induction n with
 |zero=>exact λh=>absurd h Vh
 |succ n ih=>exact λh=>(List.mem_cons.mp h).elim id ih
theorem Mj:dF EP (λa=>cR (Rz a) λp=>gd p.1.isSome p.2.isSome)=true:=by kernel_rfl
structure EV(g:Gb)(c:Cf)(s:Shared)(x:Bool)(bs:List UInt8)(pv:Int):Prop where
 i:cV (gF g c s x bs pv) (c.sub 3 Fu) (dQ j0) s
 w:WF (gF g c s x bs pv).M0 (gF g c s x bs pv) WT
 d:WF none (gF g c s x bs pv) MO
 σ:(gF g c s x bs pv).σ 27=db x 50 49
 pv:pv≤60
theorem sr:cd (U8 "octets")=Mc:=by decide+kernel
theorem EW{x:Bool}{bs:List UInt8}{pv:Int}{mb:Bool}{W:BT O}{M:Option Addr}(I:cV g c h s)(hz:j6 (S2 h mb) W=true)(hM:mb=true->M=some (c.ρ m6)):WF M (gF g c s x bs pv) W:=λj o e=>by
 refine re λY bk=>iV (ef hz e) λt1 t2 t=>cP t λy e1 t3=>bk ?_
 refine e02 (I.obj _ y e1) λhlt ho=>?_
 have hne:∀k,k<3->Fu k≠wi j:=λk hk q=>by
  match k,hk with
  |0,_=>exact ej (dO t1) q.symm
  |1,_=>exact absurd (eP t2) (by rw[<-q];decide)
  |2,_=>exact absurd (eP t2) (by rw[<-q];decide)
 refine⟨c.δ (wi j),λhp c2 h1 h2 h3=>?_⟩
 have Z:S5 mb g (gF g c s x bs pv) c c2:=⟨rfl,rfl,rfl,rfl,λj h=>by
  refine(?_:db (U9 j 2000) _ _=_)
  cases q:U9 j 2000 with
  |false=>rfl
  |true=>
   rw[cX q] at h
   exact absurd h (by decide),h2,λq=>h3 _ (hM q)⟩
 rw[Z.w j (eP t2)]
 exact Me Z t3 (ho.at (λob q=>h1 _ ob (.inr ⟨q,wi j,hlt,hne,.inl rfl⟩)) λob q=>h1 _ ob (.inr ⟨q,wi j,hlt,hne,.inr rfl⟩))
theorem Mk(I:cV g c h s)(hz:S4 h=true)(K:gG g AL):∃x bs pv,EV g c s x bs pv:=by
 unfold S4 at hz
 refine re λY bk=>F5 hz λz0 z1 z2 z3 z4=>cP z0 λx0 e0 z0=>cP z0 λm0 em z0=>cP z1 λx1 e1 z1=>cP z2 λx2 e2 z2=>bk ?_
 have R:uO g c c AL.toks (λk=>k) (λk=>k):=K.ren (λY Y q=>q) λk hk=>⟨hk,rfl⟩
 cases mw em
 obtain⟨k0,mm,n1,n2⟩:=I.obj 0 _ e0
 have n2:=Hm R z0 n2
 rw[EA] at n2
 have hoct:=n2 (U8 "octets") (by rw[sr];decide)
 rw[sr] at hoct
 obtain⟨vo,mo,b,t,rfl,hb⟩:=(show∃v,mm (U8 "octets")=some v/\VR g c (.bytes EP) v from hoct)
 refine e02 (I.obj 1 _ e1) λk1 o1=>?_
 refine e13 (jv R z1 o1) λvs l1 l2 l3=>?_
 refine sQ l2 λv1 v2 ev hA hB=>?_
 refine e22 ((show VR g c uN v1 from hA)) λp1 t1 zq30 h1=>?_
 cases zq30
 refine e22 ((show VR g c (.int (.u (some 0) (some 60))) v2 from hB)) λpv t2 zq31 h2=>?_
 cases zq31
 refine e02 (I.obj m6 _ e2) λk2 o2=>?_
 refine e25 (jv R z2 o2) λob mbs w1 w2 w3 w4 w5=>?_
 refine e12 (PP hb (show EP[27]? =some (.u (some 49) (some 50)) from rfl)) λb27 hb27 hr27=>?_
 have lo:=hr27.1 _ rfl
 have hi:=hr27.2 _ rfl
 refine⟨decide (b27.toNat=50),b.toList,pv,?_,EW I z4 λY=>rfl,EW I z3 λq=>ft q,?_,h2.2 _ rfl⟩
 rotate_left
 .refine(?_:HQ b.toList pv 27=_)
  refine(?_:dq (b.toList[27]?) 0 (λb=>(b.toNat:Int))=_)
  rw[hb27]
  refine(?_:(b27.toNat:Int)=_)
  by_cases q:b27.toNat=50
  .rw[decide_eq_true q,q];rfl
  .rw[decide_eq_false q];show(b27.toNat:Int)=49;omega
 generalize decide (b27.toNat=50)=x
 refine I.redo (g':=gF g c s x b.toList pv) ⟨rfl,rfl,rfl,rfl,rfl,λY Y q=>q,λY Y q=>q,λa q=>⟨by decide,U7 q⟩⟩ (λj hj=>?_) (λi j hi hj hn=>?_) jz (λj o q=>?_) λj hj q=>?_
 .match j,hj with
  |0,_=>exact k2
  |1,_=>exact k1
  |2,_=>exact k0
 .match i,j,hi,hj with
  |0,0,_,_=>exact absurd rfl hn
  |0,1,_,_=>exact(by decide:m6≠1)
  |0,2,_,_=>exact(by decide:m6≠0)
  |1,0,_,_=>exact(by decide:1≠m6)
  |1,1,_,_=>exact absurd rfl hn
  |1,2,_,_=>exact(by decide:1≠0)
  |2,0,_,_=>exact(by decide:0≠m6)
  |2,1,_,_=>exact(by decide:0≠1)
  |2,2,_,_=>exact absurd rfl hn
 .rw[fT] at q
  match j,q with
  |0,q=>
   cases U7 q
   exact⟨by decide,ob,mbs,w1,w2,w3,Mh (λa ha=>⟨_,_,Mi ha⟩) w4,w5⟩
  |1,q=>
   cases U7 q
   refine⟨by decide,vs,l1,?_,by decide⟩
   rw[ev]
   exact da.cons ⟨p1,t1,rfl,h1⟩ (da.cons ⟨pv,t2,rfl,h2.1 _ rfl,by show pv≤pv+0;omega,by have:=h2.2 _ rfl;show pv≤1000000;omega⟩ da.nil)
  |2,q=>
   cases U7 q
   refine⟨by decide,mm,n1,n2.alter rfl λp hp z v hz mz hv=>?_⟩
   refine(List.mem_cons.mp hp).elim (λe=>?_) λhp=>(List.mem_cons.mp hp).elim (λe=>?_) λhp=>(List.mem_cons.mp hp).elim (λe=>?_) λhp=>(List.mem_cons.mp hp).elim (λe=>?_) λhp=>absurd hp Vh
   .rw[e] at hv⊢;exact hv
   .rw[e] at hv⊢;exact⟨(by decide:1<3),hv.2⟩
   .rw[e] at hv⊢;exact hv.2
   .rw[e] at hv hz⊢
    have hz:cd z=cd (U8 "octets"):=hz.trans sr.symm
    rw[en (by rw[hz,sr];decide) hz,mo] at mz
    cases U7 mz
    refine⟨b,t,rfl,?_⟩
    refine(?_:BR _ HD b.toList)
    rw[HR]
    refine Mg (λa ha=>?_) hb λj b' e'=>?_
    .have w:=c9 Mj ha
     refine re λY bk=>cP w λq e1 w=>cT w λw1 w2=>bk ?_
     refine e11 (Option.isSome_iff_exists.mp w1) λlo h1=>?_
     refine e11 (Option.isSome_iff_exists.mp w2) λhi h2=>?_
     exact⟨lo,hi,by rw[vV _ _ e1,h1,h2]⟩
    .have hj:j<29:=WJ λw=>nn ((V6 (Va (Vg hb.len) w)).symm.trans e')
     refine(?_:HQ b.toList pv (0+j)=_)
     unfold HQ
     rw[VC,dg (show j≠999 by omega),e']
     rfl
 .match j,hj with
  |0,_=>
   refine e12 (I.ns _ q) λo q1 q2=>?_
   cases U7 (q1.symm.trans e2)
   exact ft ((rS z2).symm.trans q2)
  |1,_=>
   refine e12 (I.ns _ q) λo q1 q2=>?_
   cases U7 (q1.symm.trans e1)
   exact ft ((rS z1).symm.trans q2)
  |2,_=>exact⟨_,fT,rfl⟩
end
noncomputable def eY:Fr:=⟨EQ.ks,2,[],false⟩
noncomputable def PQ:Nat:=6247774324
noncomputable def Td:Nat:=402925602104690
noncomputable def Te:Nat:=102568442366095987
noncomputable def Ml:Nat:=1539367400308
noncomputable def EY:Nat:=105678913517413742
noncomputable def su:Nat:=408397525705573
noncomputable def EZ:Nat:=6030319980
noncomputable def E0:Nat:=6231715700
noncomputable def E1:Nat:=101739320136658533
noncomputable def Tf:List (Nat×V):=Un++[(PQ,rf fP [] [] .none),(Td,rf gl [] [] .none),(Te,rf fX [] [] .none),(Ml,rf i8 [] [n1] .none),(EY,.ref 15)]
noncomputable def UQ:List (Nat×V):=Tf++[(su,rf df q2 [] .none),(EZ,rf fP [] [] .none),(E0,.tup [.int (.c 3),.int (.c 4)]),(E1,.bool true)]
noncomputable def qK:List O:=[.nsU,.nsU,.nsU,.nsU,.nsU,.dead,.dead,.dead,.nsU,.nsU,.nsU,.dead,.dead]
noncomputable def j1:List O:=[mX,dD 0,.ns UQ]++qK
noncomputable def Jj(x:Bool):Bool:=(mO (cm true x 9) 50).ex eY ((VV 5).map λi=>dZ 184 (2+i)) (dQ j0) (λf h=>gd (EH f) (lj (toks x) h j1)) mI
theorem Mm:∀x,Bool.rec false true (Jj x)=true:=λx=>by cases x<;>kernel_rfl
noncomputable def Jk:Nat:=6248821358
noncomputable def dM:Expr×Expr×List Stmt×Pos:=uH (dZ 184 7)
noncomputable def PS(b:Bool):List (Nat×V):=db b [(EZ,.tok 81),(E0,.tok 82)] [(EZ,rf fP [] [] .none),(E0,.tup [.int (.c 3),.int (.c 4)])]
noncomputable def pE(b:Bool):List (Nat×V):=Tf++(su,db b (.tok 83) (rf df q2 [] .none))::(PS b++(E1,.bool true)::db b [(Jk,.int (.u (some 0) (some 5)))] [])
noncomputable def w0(b:Bool):List (Nat×V):=Tf++(su,.tok 83)::(PS b++[(E1,.bool true),(Jk,.int (.u (some 0) (some 5)))])
noncomputable def jT(b:Bool)(d:Nat):List O:=[mX,dD d,.ns (pE b)]++qK
noncomputable def jM(b:Bool)(d:Nat):List O:=[mX,dD d,.ns (w0 b)]++qK
noncomputable def E2(x:Bool)(l:List O):f9->H->Bool:=λf h=>gd (EH f) (lj (toks x) h l)
noncomputable def MQ(x:Bool):Ev:=mO (cm true x 9) 60
noncomputable def tA(x b:Bool):Bool:=(MQ x).asg eY dM.1 (.int (.u (some 0) (some 5))) (dQ (jT b 0)) (λh=>(MQ x).ex eY (dM.2.2.1.take 1) h (E2 x (jM b 20)) mI) mI
noncomputable def tB(x b:Bool):Bool:=(MQ x).ex eY (dM.2.2.1.drop 1) (dQ (jM b 0)) (E2 x (jT true 20)) mI
noncomputable def Mn(a:V):Bool:=cR (dE a) λi=>cR (fp i) λn=>gd (decide (0≤n)) (decide (n≤5))
noncomputable def Tg(i:It):Bool:=match i with
 |.vals l=>gd (U9 l.length 6) (dF l Mn)
 |_=>false
noncomputable def tI(x:Bool):Bool:=nI (cm true x 9) (MQ x) eY dM.2.1 (dQ (jT false 0)) (λi h=>gd (lj (toks x) h (jT false 0)) (Tg i)) mI
noncomputable def tR(x b:Bool):Bool:=(MQ x).ex eY [dZ 184 8] (dQ (jT b 0)) (mt λv Y=>cR (iq v) λc=>c) mI
theorem Mo:∀x b,Bool.rec false true (gd (tA x b) (gd (tI x) (tR x b)))=true:=λx b=>by cases x<;>cases b<;>kernel_rfl
theorem PT:Bool.rec false true (tB false false)=true:=by kernel_rfl
theorem PU:Bool.rec false true (tB false true)=true:=by kernel_rfl
theorem PV:Bool.rec false true (tB true false)=true:=by kernel_rfl
theorem PW:Bool.rec false true (tB true true)=true:=by kernel_rfl
noncomputable def o9:O->Bool
 |.ns m=>dF m λp=>v9 8 p.2
 |.list l=>dF l (v9 8)
 |.barr l=>dF l PN
 |.dead=>true
 |.nsU=>true
 |.lsU _ _=>true
 |.inst _ m=>dF m λp=>v9 8 p.2
 |.dict l=>dF l λp=>v9 8 p.2
 |_=>false
section
variable{g:Gb}{c:Cf}{s:Shared}{σ':Nat->Int}
theorem Jl(hs:∀k,k≠999->σ' k=g.σ k){m:List (Nat×V)}{mm:Str->Option Value}(h:dF m (λp=>v9 8 p.2)=true)(x:NR g c m mm):NR (g.sg σ') c m mm:=λz hz=>by
 have q:=x z hz
 clear x
 induction m with
 |nil=>exact q
 |cons p r ih=>
  obtain⟨k,a⟩:=p
  rw[dY] at q⊢
  refine cT h λh1 h2=>?_
  cases e:U9 k (cd z) with
  |true=>rw[e] at q;obtain⟨v,q1,q2⟩:=q;exact⟨v,q1,pz hs h1 q2⟩
  |false=>rw[e] at q;exact ih h2 q
theorem PX(hs:∀k,k≠999->σ' k=g.σ k){l:List (Nat×V)}:∀{es:List (Str×Value)},dF l (λp=>v9 8 p.2)=true->PR g c l es->PR (g.sg σ') c l es:=by
 induction l with
 |nil=>exact λY x=>x
 |cons p r ih=>
  intro es h x
  obtain⟨y,v,t,h1,h2,h3,h4,h5,h6⟩:=x
  exact cT h λw1 w2=>⟨y,v,t,h1,h2,h3,h4,pz hs w1 h5,ih w2 h6⟩
theorem Jm(hs:∀k,k≠999->σ' k=g.σ k){o:O}{a d:Addr}{h:Heap}(e:o9 o=true)(x:OR g c o a d h):OR (g.sg σ') c o a d h:=by
 cases o with
 |ns m=>obtain⟨mm,x1,x2⟩:=x;exact⟨mm,x1,Jl hs e x2⟩
 |list l=>obtain⟨vs,x1,x2,x3⟩:=x;exact⟨vs,x1,x2.map λa ha v q=>pz hs (c9 e ha) q,x3⟩
 |barr l=>obtain⟨o,b,x1,x2,x3,x4,x5⟩:=x;exact⟨o,b,x1,x2,x3,Um hs e x4,x5⟩
 |dead=>exact x
 |nsU=>exact x
 |lsU lo hi=>exact x
 |inst ci m=>obtain⟨mm,ns,x1,x2,x3,x4,x5⟩:=x;exact⟨mm,ns,x1,x2,Jl hs e x3,x4,x5⟩
 |dict l=>obtain⟨kvs,x1,x2,x3,x4⟩:=x;exact⟨kvs,x1,x2,PX hs e x3,x4⟩
 |_=>exact ft e
theorem cV.sg9{h h':H}(I:cV g c h s)(hl:h'.length=h.length)(ho:∀j o,h'.get j=some o->∃o',h.get j=some o'/\(OR g c o' (c.ρ j) (c.δ j) s.heap->OR (g.sg σ') c o (c.ρ j) (c.δ j) s.heap))(hn:∀j o,h.get j=some o->o.isNs=true->∃o',h'.get j=some o'/\o'.isNs=true):cV (g.sg σ') c h' s where
 len:=I.len.trans hl.symm
 obj j o e:=let⟨o',e1,e2⟩:=ho j o e;⟨(I.obj j o' e1).1,e2 (I.obj j o' e1).2⟩
 pres:=I.pres
 tup:=I.tup
 dat:=I.dat
 rest:=I.rest
 fra:=I.fra
 base:=I.base
 inj:=I.inj
 off k hk a ha:=let⟨x1,x2,x3⟩:=I.off k hk a ha;⟨⟨x1.R,x1.B,x1.T,x1.D⟩,x2,x3⟩
 offS a o q:=let⟨x1,x2⟩:=I.offS a o q;⟨⟨x1.R,x1.B,x1.T,x1.D⟩,x2⟩
 sam:=I.sam
 t0:=I.t0
 m0:=I.m0
 ns k q:=let⟨o,e1,e2⟩:=I.ns k q;hn k o e1 e2
 tab:=I.tab
 offP:=⟨I.offP.R,I.offP.B,I.offP.T,I.offP.D⟩
 sm:=I.sm
 rT:=I.rT
theorem cV.pen9{l l':List O}{o1 o1':O}(I:cV g c (dQ l) s)(hs:∀k,k≠999->σ' k=g.σ k)(e:l'=l.set 1 o1')(e1:l[1]? =some o1)(h9:∀j o,j≠1->l[j]? =some o->o9 (sw (λk=>k) o)=true)(hp:OR (g.sg σ') c (sw (λk=>k) o1') (c.ρ 1) (c.δ 1) s.heap)(hi:(sw (λk=>k) o1).isNs=false):cV (g.sg σ') c (dQ l') s:=by
 subst e
 refine I.sg9 (by rw[jz,jz,List.length_set]) (λj o q=>?_) λj o q w=>?_
 .rw[fT] at q⊢
  by_cases z:j=1
  .subst z
   rw[List.getElem?_set_self (List.getElem?_eq_some_iff.mp e1).1] at q
   cases U7 q
   exact⟨_,by rw[e1];rfl,λY=>hp⟩
  .rw[List.getElem?_set_ne (Ne.symm z)] at q
   refine⟨o,q,λx=>Jm hs ?_ x⟩
   refine e12 (Option.map_eq_some_iff.mp q) λo0 q1 q2=>?_
   exact q2▸h9 j o0 z q1
 .rw[fT] at q⊢
  by_cases z:j=1
  .subst z
   rw[e1] at q
   cases U7 q
   exact absurd w (by rw[hi];decide)
  .exact⟨o,by rw[List.getElem?_set_ne (Ne.symm z)];exact q,w⟩
noncomputable def pn(a:AI):O:=.list [uN,.int a]
noncomputable def jP(a:AI)(m:List (Nat×V)):List O:=[mX,pn a,.ns m]++qK
theorem n9:dF [pE false,pE true,w0 false,w0 true] (λm=>dF m λp=>v9 8 p.2)=true:=by kernel_rfl
theorem t9:dF (mX::qK) (λo=>o9 (sw (λk=>k) o))=true:=by kernel_rfl
theorem UR{m:List (Nat×V)}(h:dF m (λp=>v9 8 p.2)=true):o9 (sw (λk=>k) (.ns m))=true:=h
theorem Mp{a:AI}{m:List (Nat×V)}(I:cV g c (dQ (jP a m)) s):∃n,dN g.σ a n/\∀{σ':Nat->Int} {a':AI},dN σ' a' n->OR (g.sg σ') c (pn a') (c.ρ 1) (c.δ 1) s.heap:=by
 obtain⟨_,vs,l1,l2,l3⟩:=I.obj 1 (pn a) (by rw[fT];rfl)
 refine sQ l2 λv1 v2 ev hA hB=>?_
 refine e22 ((show VR g c uN v1 from hA)) λp1 t1 zq32 h1=>?_
 cases zq32
 refine e22 ((show VR g c (.int a) v2 from hB)) λpv t2 zq33 h2=>?_
 cases zq33
 refine⟨pv,h2,λ{σ' a'} h=>⟨vs,l1,?_,Vi rfl⟩⟩
 rw[ev]
 exact da.cons ⟨p1,t1,rfl,h1⟩ (da.cons ⟨pv,t2,rfl,h⟩ da.nil)
theorem cV.pn9{a:AI}{m:List (Nat×V)}(I:cV g c (dQ (jP a m)) s)(hm:m∈[pE false,pE true,w0 false,w0 true]):∃n,dN g.σ a n/\∀{σ':Nat->Int} {a':AI},(∀k,k≠999->σ' k=g.σ k)->dN σ' a' n->cV (g.sg σ') c (dQ (jP a' m)) s:=by
 refine e12 (Mp I) λn h1 h2=>?_
 refine⟨n,h1,λ{σ' a'} hs h=>I.pen9 (o1:=pn a) (o1':=pn a') hs rfl rfl (λj o hj e=>?_) (h2 h) rfl⟩
 match j,hj,e with
 |0,_,e=>cases U7 e;exact c9 (K:=λo=>o9 (sw (λk=>k) o)) t9 (Vc (a:=mX))
 |1,hj,_=>exact absurd rfl hj
 |2,_,e=>cases U7 e;exact UR (c9 (K:=λm=>dF m λp=>v9 8 p.2) n9 hm)
 |j+3,_,e=>exact c9 (K:=λo=>o9 (sw (λk=>k) o)) t9 (Vd mX (List.mem_of_getElem? (show qK[j]? =some o from e)))
theorem cV.toPb{lo hi:Int}{m:List (Nat×V)}(I:cV g c (dQ (jP (.u (some lo) (some hi)) m)) s)(hm:m∈[pE false,pE true,w0 false,w0 true])(h0:0≤lo)(h1:hi≤1000000):∃σ':Nat->Int,(∀k,k≠999->σ' k=g.σ k)/\σ' 999≤hi/\cV (g.sg σ') c (dQ (jP (.pb 0) m)) s:=by
 refine e12 (I.pn9 hm) λn x1 x2=>?_
 have y1:=x1.1 _ rfl
 have y2:=x1.2 _ rfl
 refine⟨λk=>db (U9 k 999) n (g.σ k),λk hk=>(congrArg (db · n (g.σ k)) (dg hk)).trans rfl,y2,x2 (λk hk=>(congrArg (db · n (g.σ k)) (dg hk)).trans rfl) ⟨by omega,?_,?_⟩⟩
 .show n≤n+0;omega
 .show n≤1000000;omega
theorem cV.ofPb{d:Nat}{hi:Int}{m:List (Nat×V)}(I:cV g c (dQ (jP (.pb d) m)) s)(hm:m∈[pE false,pE true,w0 false,w0 true])(h1:g.σ 999≤hi){σ':Nat->Int}(hs:∀k,k≠999->σ' k=g.σ k):cV (g.sg σ') c (dQ (jP (.u (some 0) (some (hi+d))) m)) s:=by
 refine e12 (I.pn9 hm) λn x1 x2=>?_
 refine x2 hs ⟨λa e=>?_,λa e=>?_⟩
 .cases U7 e;exact x1.1
 .cases U7 e;have:=x1.2.1;omega
end
section
variable{g:Gb}{c c0:Cf}{s:Shared}{σ':Nat->Int}{A:Around}{env:Env}{x:Bool}
theorem dy.sg9{n:Nat}(o:dy g c n A):dy (g.sg σ') c n A:=⟨o.hh,o.dep',o.un',o.lid,let⟨l,h1,h2⟩:=o.fr;⟨l,h1,FL.imp (g:=g) (g':=g.sg σ') (c:=c) (c':=c) (λY q=>q) h2⟩⟩
theorem FR.sg9{fr:Fr}(x:FR g c A fr env):FR (g.sg σ') c A fr env:=⟨x.kind,x.names,x.ins,x.loc,x.cells,x.glob,x.bi,x.cls,x.inter,x.dbg,x.cdict,x.lk,x.lam⟩
structure K9(x:Bool)(g:Gb):Prop where
 C:g.C=cm true x 9
 F:ij g
 q:ij g.hush
 K:gG g (cm true x 9)
def PY(x:Bool)(g:Gb):Prop:=∀σ':Nat->Int,(∀k,k≠999->σ' k=g.σ k)->K9 x (g.sg σ')
theorem Uo(k:K9 x g){ss:List Stmt}{h:H}{a:AI}{m:List (Nat×V)}(e:dz c0 c)(hn:∀k,c0.N k->k<c0.n)(hl:c0.n≤16)(oa:dy g c 60 A)(f:FR g c A eY env)(I:cV g c h s)(hk:(MQ x).ex eY ss h (E2 x (jP a m)) mI=true):
  cQ g.M A (execs ss env) (λfl s'=>fl=.next/\∃c',dz c0 c'/\cV g c' (dQ (jP a m)) s') (λY Y=>False) s:=by
 have S:=(jt k.F k.q 60).self
 rw[k.C] at S
 refine cO (S.ex oa f I hk) (λfl s' q=>?_) λY Y q=>ml rfl q
 cases fl with
 |next=>
  obtain⟨c',h',e',i,kk⟩:=q
  refine⟨rfl,cT kk λY kk=>?_⟩
  refine e02 (i.refit (c:=c0) (C:=cm true x 9) (l:=jP a m) (e.trans e') hn hl (λY Y=>Vx _) k.K kk) λi1 e1=>?_
  exact⟨_,e1,i1⟩
 |ret v=>
  obtain⟨a',c',h',e',i,v',kk⟩:=q
  exact ft kk
 |brk=>exact q.elim
 |cont=>exact q.elim
theorem cV.ltN{h:H}(I:cV g c h s)(k:Nat)(q:c.N k):k<c.n:=let⟨o,e,_⟩:=I.ns k q;(I.obj k o e).1
theorem sv(b:Bool):pE b∈[pE false,pE true,w0 false,w0 true]:=by cases b<;>simp
theorem E3(b:Bool):w0 b∈[pE false,pE true,w0 false,w0 true]:=by cases b<;>simp
noncomputable def uB(B:Nat):AI:=.u (some 0) (some (B:Int))
theorem PZ(k:PY x g){b:Bool}{B:Nat}(hB:B+20≤1000000){v:Value}(oa:dy g c 60 A)(f:FR g c A eY env)(I:cV g c (dQ (jP (uB B) (pE b))) s)(hv:VR g c (.int (.u (some 0) (some 5))) v)(ha:tA x b=true)(hb:tB x b=true):
  cQ g.M A (assign dM.1 env v) (λY av=>cQ g.M A (execs dM.2.2.1 env) (λfl aB=>fl=.next/\∃aC,dz c aC/\cV g aC (dQ (jP (uB (B+40)) (pE true))) aB) (λY Y=>False) av) (λY Y=>False) s:=by
 have hn:=I.ltN
 have hl:c.n≤16:=Vg I.len
 refine e13 (I.toPb (sv b) (Wt 0) (by omega)) λσ1 q1 q2 I1=>?_
 have k1:=k σ1 q1
 have S:=(jt k1.F k1.q 60).self
 rw[k1.C] at S
 refine cO (M:=g.M) (S.asg (oa.sg9 (σ':=σ1)) (f.sg9 (σ':=σ1)) I1 (show VR (g.sg σ1) c (.int (.u (some 0) (some 5))) v from hv) ha) (λY av q=>?_) λY Y q=>ml rfl q
 obtain⟨c',h',e',i,kk⟩:=q
 rw[<-VX 1 dM.2.2.1]
 refine ik (M:=g.M) (Uo k1 e' hn hl ((oa.sg9 (σ':=σ1)).up e') ((f.sg9 (σ':=σ1)).ext e') i kk) (λaB q=>?_) (λv aB q=>Flow.noConfusion q.1) λaB=>⟨λq=>Flow.noConfusion q.1,λq=>Flow.noConfusion q.1⟩
 obtain⟨_,c4,e4,I4⟩:=q
 have I5:cV g c4 (dQ (jP (.u (some 0) (some ((B:Int)+(20:Nat)))) (w0 b))) aB:=cV.ofPb (g:=g.sg σ1) (σ':=g.σ) I4 (E3 b) q2 λk hk=>(q1 k hk).symm
 refine e13 (I5.toPb (E3 b) (Wt 0) (by omega)) λσ2 r1 r2 I6=>?_
 have k2:=k σ2 r1
 refine cO (M:=g.M) (Uo k2 e4 hn hl ((oa.sg9 (σ':=σ2)).up e4) ((f.sg9 (σ':=σ2)).ext e4) I6 hb) (λfl aR q=>?_) λY Y q=>q
 obtain⟨hfl,c5,e5,I7⟩:=q
 refine⟨hfl,c5,e5,?_⟩
 have I8:cV g c5 (dQ (jP (.u (some 0) (some ((B:Int)+(20:Nat)+(20:Nat)))) (pE true))) aR:=cV.ofPb (g:=g.sg σ2) (σ':=g.σ) I7 (sv true) r2 λk hk=>(r1 k hk).symm
 have e:uB (B+40)=.u (some 0) (some ((B:Int)+(20:Nat)+(20:Nat))):=by unfold uB;congr 2
 rw[e]
 exact I8
end
section
variable{g:Gb}{c c0:Cf}{s:Shared}{A:Around}{env:Env}{x:Bool}
theorem Mq{a:V}{v:Value}(h:Mn a=true)(hv:VR g c a v):VR g c (.int (.u (some 0) (some 5))) v:=by
 cases a with
 |int i=>
  cases i with
  |c n=>
   refine e22 hv λm t e h1=>?_;clear hv
   have h1:m=n:=h1
   refine cT (show gd (decide (0≤n)) (decide (n≤5))=true from h) λq1 q2=>⟨m,t,e,λa e=>?_,λa e=>?_⟩
   .cases U7 e;exact h1▸of_decide_eq_true q1
   .cases U7 e;exact h1▸of_decide_eq_true q2
  |_=>exact ft h
 |_=>exact ft h
theorem kb{b:Bool}(h:(Bool.rec false true b:Bool)=true):b=true:=by cases b<;>exact h
theorem US{a b c:Bool}(h:gd a (gd b c)=true):a=true/\b=true/\c=true:=by
 cases a with
 |false=>exact ft h
 |true=>
  cases b with
  |false=>exact ft h
  |true=>exact⟨rfl,rfl,h⟩
theorem xb(x b:Bool):tA x b=true/\tI x=true/\tR x b=true:=US (kb (b:=gd (tA x b) (gd (tI x) (tR x b))) (Mo x b))
theorem Mr(x b:Bool):tB x b=true:=
 match x,b with
 |false,false=>kb (b:=tB false false) PT
 |false,true=>kb (b:=tB false true) PU
 |true,false=>kb (b:=tB true false) PV
 |true,true=>kb (b:=tB true true) PW
def J9(c0:Cf)(m:Nat)(it:It)(c':Cf)(h:H):Prop:=∃l b,it=.vals l/\l.length=m/\m≤6/\dF l Mn=true/\h=dQ (jP (uB (60+40 * (6 - m))) (pE b))/\dz c0 c'
theorem UT{m:Nat}:60+40 * (6 - m)+20≤1000000:=by omega
theorem UU{m k:Nat}(h:k+1=m)(hm:m≤6):60+40 * (6 - m)+40=60+40 * (6 - k):=by omega
theorem UV{m:Nat}:60+40 * (6 - m)≤300:=by omega
theorem P0(W:SW g)(hq:A.handled=none)(k:∀L hp,PY x (g.pin L hp))(oa:dy g c0 60 A)(f:FR g c0 A eY env){itv:Value}{b:Bool}{l:List V}(hl:l.length=6)(hr:dF l Mn=true)(I:cV g c0 (dQ (jP (uB 60) (pE b))) s)(hit:pB g c0 s.heap (.vals l) itv):
  c6 g.M A (.forLoop dM.1 itv dM.2.2.1 [] env) (λr s'=>r=.ok .next/\∃b c' B,B≤300/\dz c0 c'/\cV g c' (dQ (jP (uB B) (pE b))) s') s:=by
 refine uG W hq (J:=J9 c0) (λm it c h s hJ I=>?_) 6 (.vals l) c0 _ s ⟨l,b,rfl,hl,Vm 6,hr,rfl,.refl _⟩ I hit
 refine e26 hJ λl b zq34 hl hm hr zq35 e=>?_;clear hJ
 cases zq34
 cases zq35
 refine⟨rfl,?_⟩
 cases l with
 |nil=>
  exact⟨.stop,rfl,λY s' I'=>⟨rfl,b,c,_,UV,e,I'⟩,λv it' q=>Nx.noConfusion q⟩
 |cons a l=>
  refine⟨.more a (.vals l),rfl,λq=>Nx.noConfusion q,λv it' q=>?_⟩
  cases q
  refine cT hr λr1 r2=>⟨l.length,hl.symm,λx' ao L aj ak am hv=>?_⟩
  have hm':l.length+1=m:=hl
  refine cO (PZ (k L aj.heap) (b:=b) (B:=60+40 * (6 - m)) UT (oa.pin.up (e.trans ak)) (f.pin.ext (e.trans ak)) am (Mq r1 hv) (xb x b).1 (Mr x b)) (λY av q=>cO q (λfl aB q=>?_) λY Y q=>q) λY Y q=>q
  obtain⟨hfl,c4,e4,I4⟩:=q
  refine⟨hfl,c4,_,e4,I4,l,true,rfl,rfl,Va (hm'▸VA _) hm,r2,?_,e.trans (ak.trans e4)⟩
  rw[UU hm' hm]
end
section
variable{g:Gb}{c c0:Cf}{s:Shared}{A:Around}{env:Env}{x:Bool}
theorem Ms{i:It}(h:Tg i=true):∃l,i=.vals l/\l.length=6/\dF l Mn=true:=by
 cases i with
 |vals l=>exact cT (show gd (U9 l.length 6) (dF l Mn)=true from h) λh1 h2=>⟨l,rfl,cX h1,h2⟩
 |_=>exact ft h
theorem E4{m:Nat}{h:Heap}{itv:Value}{l:List V}(x:pB g c h (.vals l) itv)(hr:dF l Mn=true)(hm:m≤c.n):pB g (c.sub m λk=>k) h (.vals l) itv:=by
 cases x with
 |mk it itv L hL hS=>
  refine .mk _ _ L (λb hb=>(hL b hb).sub hm) ?_
  cases hS with
  |vals l a y=>
   refine .vals l a ?_
   cases y with
   |tup t vs i h1 h2 h3=>exact .tup t vs i h1 h2 (h3.map λa ha v hv=>by
     have w:=c9 hr ha
     cases a with
     |int n=>exact hv
     |_=>exact ft w)
   |byt b t i als h1 e h3=>exact .byt b t i als h1 e h3
   |rng x jf h1 h2 e=>exact .rng x jf h1 h2 e
 |emp a d ep fa hD hK hd=>exact .emp a d ep (fa.sub hm) hD hK hd
theorem P3(hq:A.handled=none)(kp:∀R,(∀a o,g.R a o->R a o)->PY x (g.wR R))(hpv:g.σ 999≤60)(oa:dy g c 60 A)(f:FR g c A eY env)(I:cV g c (dQ (jT false 0)) s):
  cQ g.M A (execs [.For dM.1 dM.2.1 dM.2.2.1 [] dM.2.2.2,dZ 184 8] env) (λfl s'=>∃σ' c' h',fl=.ret (.bool true)/\cV (g.sg σ') c' h' s') (λY Y=>False) s:=by
 have k:PY x g:=kp g.R λY Y h=>h
 have k0:K9 x g:=k g.σ λY Y=>rfl
 have T:Fk g:=k0.F g.R λY Y h=>h
 have S:=(jt k0.F k0.q 60).self
 have hn:=I.ltN
 have hl:c.n≤16:=Vg I.len
 have r1:nI g.C (mO g.C 60) eY dM.2.1 (dQ (jT false 0)) (λi h=>gd (lj (toks x) h (jT false 0)) (Tg i)) mI=true:=by rw[k0.C];exact(xb x false).2.1
 refine e03 (kX T.G T.W S oa f I r1) λY hst hw=>?_
 refine ie (Q':=λfl s'=>fl=.next/\∃b c' B,B≤300/\dz c c'/\cV g c' (dQ (jP (uB B) (pE b))) s') (l9 (cO hw (λy aR aG=>cO aG (λitv aX ⟨i,bP,aG,aS,aO,hit,hK⟩=>?_) λY Y q=>ml rfl q) λY Y q=>ml rfl q) hst) (λaR q=>?_) λfl aR h1 h2=>absurd h2.1 h1
 .refine cT hK λk4 k5=>?_
  refine e13 (Ms k5) λl zq36 l6 lr=>?_
  cases zq36
  refine e02 (aO.refit (c:=c) (C:=cm true x 9) (l:=jT false 0) aS hn hl (λY Y=>Vx _) k0.K k4) λa9 aT=>?_
  have bc:cV g _ (dQ (jP (uB 60) (pE false))) aX:=cV.ofPb (d:=0) (hi:=60) (σ':=g.σ) a9 (sv false) hpv λY Y=>rfl
  refine dB (P0 T.W hq (λL hp=>kp _ λa o q=>.inl q) (oa.up aT) (f.ext aT) l6 lr bc (E4 hit lr (cT k4 λw Y=>Va (eP w) (Vg aO.len.symm)))) λr s' q=>?_
  obtain⟨rfl,b,c',B,hB,e',I'⟩:=q
  exact⟨rfl,b,c',B,hB,aT.trans e',I'⟩
 .obtain⟨_,b,c',B,hB,e',I'⟩:=q
  refine e13 (I'.toPb (sv b) (Wt 0) (by omega)) λσ3 r1 r2 I3=>?_
  have k3:=k σ3 r1
  have S3:=(jt k3.F k3.q 60).self
  rw[k3.C] at S3
  refine cO (M:=g.M) (S3.ex ((oa.sg9 (σ':=σ3)).up e') ((f.sg9 (σ':=σ3)).ext e') I3 (xb x b).2.2) (λfl bx q=>?_) λY Y q=>ml rfl q
  cases fl with
  |next=>obtain⟨c2,h2,e2,i2,kk⟩:=q;exact ft kk
  |ret v=>
   obtain⟨a,c2,h2,e2,i2,hv,kk⟩:=q
   refine cP kk λbb e1 kk=>?_
   cases a with
   |bool b'=>
    cases U7 e1
    cases (show v=.bool bb from hv)
    cases (show bb=true from kk)
    exact⟨σ3,c2,h2,rfl,i2⟩
   |_=>exact nn e1
  |brk=>exact q.elim
  |cont=>exact q.elim
end
theorem P4{g:Gb}{x:Bool}{C:i9}{σ':Nat->Int}(hC:C.toks=toks x)(h:g.σ 27=db x 50 49)(hs:∀k,k≠999->σ' k=g.σ k):gG ((g.wt x).sg σ') C:=by
 refine⟨λ{c' k a v} h1 h2=>?_,λ{c' k v} h=>?_,λ{f n k a} h=>?_,?_⟩
 .rw[hC] at h1
  exact Jb h1 (pz (g:=(g.wt x).sg σ') (σ':=AM g.σ) (λk hk=>(nq hk).trans (hs k hk).symm) (sq x k a h1) h2)
 .rw[hC]
  refine e12 (Ex h) λa h1 h2=>?_
  exact⟨a,h1,pz (g:=(g.wt x).sg (AM g.σ)) (σ':=σ') (λk hk=>(hs k hk).trans (nq hk).symm) (sq x k a h1) h2⟩
 .rw[hC] at h
  exact uD (pw x k a h)
 .rw[hC]
  exact yU (h▸hs 27 (by decide))
theorem w9:j6 (λY o=>o9 o) WT=true:=by kernel_rfl
theorem UW:j6 (λY o=>o9 o) MO=true:=by kernel_rfl
theorem WF.sg9{g:Gb}{M:Option Addr}{W:BT O}{σ':Nat->Int}(h:WF M g W)(hw:j6 (λY o=>o9 o) W=true)(hs:∀k,k≠999->σ' k=g.σ k):WF M (g.sg σ') W:=λk o e=>(h k o e).elim λd f=>⟨d,λhp c h1 h2 h3=>Jm hs (ef hw e) (f hp c h1 h2 h3)⟩
theorem UX{g:Gb}{c:Cf}{s:Shared}{x:Bool}{bs:List UInt8}{pv:Int}{σ':Nat->Int}(Z:EV g c s x bs pv)(F:Fc ((gF g c s x bs pv).sg σ'))(hs:∀k,k≠999->σ' k=(gF g c s x bs pv).σ k):Ok 9 x true ((gF g c s x bs pv).sg σ') where
 C:=⟨false,rfl⟩
 F:=F
 W:=Z.w.sg9 w9 hs
 d:=Z.d.sg9 UW hs
 T:=P4 rfl Z.σ hs
 M _:=rfl
 dl:=Vi rfl
 ul:=Vi rfl
theorem Ok.k9(HT:sk){g:Gb}{x:Bool}(k:Ok 9 x true g)(hC:g.C=cm true x 9):K9 x g:=⟨hC,k.all HT,k.hush.all HT,k.T⟩
theorem P5(HT:sk){g:Gb}{c:Cf}{s:Shared}{x:Bool}{bs:List UInt8}{pv:Int}(Z:EV g c s x bs pv)(F:∀σ',Fc ((gF g c s x bs pv).sg σ')):∀R,(∀a o,(gF g c s x bs pv).R a o->R a o)->PY x ((gF g c s x bs pv).wR R):=λY hR σ' hs=>((UX Z (F σ') hs).wR hR).k9 HT rfl
theorem P6:j1=jT false 0:=by kernel_rfl
theorem Th(HT:sk){g:Gb}{c:Cf}{s:Shared}{x:Bool}{bs:List UInt8}{pv:Int}{A:Around}{env:Env}(Z:EV g c s x bs pv)(F:∀σ',Fc ((gF g c s x bs pv).sg σ'))(hq:A.handled=none)
  (oa:dy (gF g c s x bs pv) (c.sub 3 Fu) 60 A) (f:FR (gF g c s x bs pv) (c.sub 3 Fu) A eY env):
  cQ (gF g c s x bs pv).M A (execs ((VV 5).map (λi=>dZ 184 (2+i))++[.For dM.1 dM.2.1 dM.2.2.1 [] dM.2.2.2,dZ 184 8]) env) (λfl s'=>∃σ' c' h',fl=.ret (.bool true)/\cV ((gF g c s x bs pv).sg σ') c' h' s') (λY Y=>False) s:=by
 have kp:=P5 HT Z F
 have I:=Z.i
 have hpv:(gF g c s x bs pv).σ 999≤60:=Z.pv
 generalize gF g c s x bs pv=G at *
 have k0:K9 x G:=kp G.R (λY Y h=>h) G.σ λY Y=>rfl
 have S:=(jt k0.F k0.q 50).self
 rw[k0.C] at S
 have hr:(mO (cm true x 9) 50).ex eY ((VV 5).map λi=>dZ 184 (2+i)) (dQ j0) (λf h=>gd (EH f) (lj (toks x) h j1)) mI=true:=kb (b:=Jj x) (Mm x)
 refine ik (M:=G.M) (Q':=λfl s'=>fl=.next/\∃c',dz (c.sub 3 Fu) c'/\cV G c' (dQ (jT false 0)) s') (cO (S.ex (oa.less (by decide)) f I hr) (λfl s' q=>?_) λY Y q=>ml rfl q) (λaa q=>?_) (λv aB q=>Flow.noConfusion q.1) λaB=>⟨λq=>Flow.noConfusion q.1,λq=>Flow.noConfusion q.1⟩
 .cases fl with
  |next=>
   obtain⟨c',h',e',i,kk⟩:=q
   refine⟨rfl,cT kk λY kk=>?_⟩
   refine e02 (i.refit (c:=c.sub 3 Fu) (C:=cm true x 9) (l:=j1) e' I.ltN (Vi rfl) (λY Y=>Vx _) k0.K kk) λi1 e1=>?_
   exact⟨_,e1,P6▸i1⟩
  |ret v=>
   obtain⟨a',c',h',e',i,v',kk⟩:=q
   exact ft kk
  |brk=>exact q.elim
  |cont=>exact q.elim
 .obtain⟨_,c',e',I'⟩:=q
  exact P3 hq kp hpv (oa.up e') (f.ext e') I'
theorem Mt:FT.get 184=some EQ:=by kernel_rfl
theorem E5:EQ.body=[dZ 184 0,dZ 184 1]++((VV 5).map (λi=>dZ 184 (2+i))++[.For dM.1 dM.2.1 dM.2.2.1 [] dM.2.2.2,dZ 184 8]):=by kernel_rfl
section
variable{g:Gb}{c:Cf}{s:Shared}{x:Bool}{bs:List UInt8}{pv:Int}{A:Around}{env:Env}
theorem FR.frz(f:FR g c A ER env):FR (gF g c s x bs pv) (c.sub 3 Fu) A eY env:=
 ⟨f.kind,f.names,(by decide:2<3),f.loc,λx i Y Y q=>nn (show none=some i from q),f.glob,f.bi,f.cls,f.inter,f.dbg,f.cdict,f.lk,λq=>ft q⟩
theorem dy.frz{n m:Nat}(oa:dy g (c.sub 3 λY=>0) n A)(hq:A.handled=none)(hd:A.depth+m≤495)(hu:A.units+16 * m+64≤1396):dy (gF g c s x bs pv) (c.sub 3 Fu) m A:=
 ⟨λY=>hq,hd,hu,⟨(by decide:495≤990),Vi (rfl:Vk 1396 cLine=true)⟩,let⟨l,h1,h2⟩:=oa.fr;⟨l,h1,FL.imp (g:=g) (g':=gF g c s x bs pv) (c:=c.sub 3 λY=>0) (c':=c.sub 3 Fu) (λY q=>q.elim (λ⟨_,_,k2,k3⟩=>.inl ⟨2,(by decide:2<3),⟨(by decide:2<3),k2.2⟩,k3⟩) .inr) h2⟩⟩
theorem UY{w:World}{s₀ s':Shared}{sc:Addr}{ps:Array Value}{h:H}{σ':Nat->Int}(b:sB w s₀ s sc ps)(I:cV (gA w s sc) c h s'):Fc ((gF (gA w s sc) c s' x bs pv).sg σ'):=b.fc rfl rfl (λa vs q=>I.t0 a vs q) rfl rfl rfl rfl
end
noncomputable def P7:List O:=[.ns [(ll,.wr 2000)]]
noncomputable def Jn:gt->Fr->H->Bool:=λY fr h=>gd (dT fr.cells) (gd (!fr.lam) (lj AJ h P7))
theorem AN:cR (FT.get 184) (λfi=>cR (fu fi.params fi.dfl [.wr 2000]) λfull=>Prod.rec (motive:=λY=>Bool) (λfr h=>d7 fr h (Jn fi fr) fi.params full) (ez fi.lam fi.ks [] H.nil))=true:=by kernel_rfl
theorem AO{g:Gb}(h:g.C.quiet=true):qb g:=λ{n A i args vs c h' s outs K X} Y Y Y q Y=>ft (h.symm.trans q).symm
section
variable{w:World}{s₀ s:Shared}{sc:Addr}{ps:Array Value}
theorem HS{g:Gb}{c:Cf}:∀{l:List Value},(∀v,v∈l->∃n t,v=.int n t)->da g c (Vr l.length uI) l:=λ{l}=>by
 induction l with
 |nil=>exact λY=>da.nil
 |cons v l ih=>
  intro h
  refine e21 (h v Vc) λn t zq37=>?_
  cases zq37
  exact da.cons ⟨n,t,rfl,λY q=>nn q,λY q=>nn q⟩ (ih λv hv=>h v (Vd _ hv))
theorem sB.fcA(b:sB w s₀ s sc ps):Fc (gA w s sc):=b.fc rfl rfl (λa vs q=>q) rfl rfl rfl rfl
theorem sB.tkA:gG (gA w s sc) AL:=HP rfl rfl
theorem sB.fct(b:sB w s₀ s sc ps):ij (gA w s sc)/\ij (gA w s sc).hush:=by
 have F:=b.fcA
 have K:=sB.tkA (w:=w) (s:=s) (sc:=sc)
 have hi:∀{g:Gb},da g (cz g) (Vr ps.size uI) ps.toList:=λ{g}=>by
  rw[<-VJ]
  exact HS b.i
 have hR:∀hp:Heap,(∀a ob,(gA w s sc).R a ob->hp.get? a=some ob)->i0 hp ((gA w s sc).w 2000) ps:=λhp h=>by
  refine e11 b.l λn q=>?_
  exact⟨n,h _ _ ⟨rfl,q⟩⟩
 have h2:(gA w s sc).hush=(gA w s sc).alt (Mine.Tactic.iB (gA w s sc).C) (gA w s sc).R (gA w s sc).S (gA w s sc).M0 (gA w s sc).s0 (gA w s sc).T0 (gA w s sc).dl (gA w s sc).ul:=rfl
 refine⟨np F rfl wY (fV (C':=PC) ⟨K.i,K.e,K.s,K.k⟩) λR q=>?_,?_⟩
 .exact @PE ((gA w s sc).wR R) ps (mn F) (fV K) rfl rfl (λhp h=>hR hp λa ob e=>h a ob (q a ob e)) hi b.n (Vm _) (Vm _)
 .rw[h2]
  exact np (q:=true) (mn F) rfl wY (fV (C':=Mine.Tactic.iB PC) ⟨K.i,K.e,K.s,K.k⟩) λR Y=>@AO (Gb.wR _ R) rfl
structure E6(w:World)(s:Shared)(v:Value)(s':Shared):Prop where
 v:v=.bool true
 b:(pA s.heap 1110).StaysIn s'.heap
 t:∃ps,s'.heap.get? 1110=some (tabObj ps)
 m:s'.gens=s.gens/\s'.drawn=s.drawn/\s'.os=s.os
theorem E7(HT:sk)(b:sB w s₀ s sc ps)(hsc:sc≠1110):cQ (model PG w) callerA (call (.ref (sN 184)) [.ref sc]) (E6 w s) (λY Y=>False) s:=by
 have Fp:=b.fct
 have z:=EI b.fcA (W:=.nil) (q:=false) (x:=false) (P:=pi AJ t1) rfl
 have S:eO (gA w s sc) 88 (mO PC 88):=(jt Fp.1 Fp.2 88).self
 have I0:=b.inv hsc
 have oa0:dy (gA w s sc) (cz (gA w s sc)) 89 callerA:=⟨λY=>rfl,Vi rfl,Vi rfl,⟨Vi rfl,Vi rfl⟩,[],rfl,trivial⟩
 have hv0:da (gA w s sc) (cz (gA w s sc)) [.wr 2000] [.ref sc]:=da.cons (show Value.ref sc=.ref sc from rfl) da.nil
 refine kW (g:=gA w s sc) z.F (n:=88) (Kf:=Jn) oa0 I0 hv0 AN λfi fr env ag ae aa hfi hns hks ac f hN hoa af hK=>iV hK λk1 k2 k3=>?_
 obtain rfl:fi=EQ:=U7 (hfi.symm.trans Mt)
 cases Jf hns hks k1 k2
 have hN0:∀k,(cz (gA w s sc)).N k->k<(cz (gA w s sc)).n:=λk q=>q.elim
 refine e02 (af.refit (l:=P7) (C:=AL) ac hN0 (VQ _) (λa q=>nn q) sB.tkA k3) λam ak=>?_
 have aL:FR (gA w s sc) (ag.sub 1 λk=>k) (callerA.deeper env) ER env:=f.sub (Vx 0) λx i q=>nn q
 have hA:(callerA.deeper env).handled=none:=rfl
 rw[E5]
 have oa2:dy (gA w s sc) (ag.sub 1 λk=>k) 88 (callerA.deeper env):=hoa _ ak (Vx 0) ⟨Vx 0,hN⟩ aL.loc
 refine ik (M:=(gA w s sc).M) (Q':=λfl s'=>fl=.next/\∃c' h',dz (ag.sub 1 λk=>k) c'/\cV (gA w s sc) c' h' s'/\∃x bs pv,EV (gA w s sc) c' s' x bs pv) (cO (S.ex oa2 aL am (kb (b:=Jg) Md)) (λfl aj q=>?_) λY Y q=>ml rfl q) (λaj q=>?_) (λv aB q=>Flow.noConfusion q.1) λaB=>⟨λq=>Flow.noConfusion q.1,λq=>Flow.noConfusion q.1⟩
 .cases fl with
  |next=>
   obtain⟨c',h',e',i,kk⟩:=q
   exact⟨rfl,c',h',e',i,cT kk λY kk=>Mk i kk sB.tkA⟩
  |ret v=>
   obtain⟨a',c',h',e',i,v',kk⟩:=q
   exact ft kk
  |brk=>exact q.elim
  |cont=>exact q.elim
 .obtain⟨_,c',h',e',I',x,bs,pv,Z⟩:=q
  have hN':c'.N 0:=e'.N 0 ⟨Vx 0,hN⟩
  have f':=(aL.ext e').frz (s:=aj) (x:=x) (bs:=bs) (pv:=pv)
  have e3:dz (cz (gA w s sc)) (c'.sub 3 λY=>0):=⟨VQ _,λY q=>absurd q (Vq _),λY q=>absurd q (Vq _),λa vs q=>e'.T a vs (ak.T a vs q),λY q=>q.elim,λY Y q=>q.elim,λY q=>absurd q (Vq _)⟩
  have oa3:=(hoa (c'.sub 3 λY=>0) e3 (by decide:0<3) ⟨(by decide:0<3),hN'⟩ (aL.ext e').loc).frz (s:=aj) (x:=x) (bs:=bs) (pv:=pv) (m:=60) hA (Vi rfl) (Vi rfl)
  refine cO (Th HT Z (λσ'=>UY b I') hA oa3 f') (λfl av q=>?_) λY Y q=>q.elim
  refine e32 q λσ' c4 h4 zq38 I4=>?_;clear q
  cases zq38
  refine e13 I4.tab λtb h1 Y Y=>?_
  exact⟨rfl,I4.base,⟨tb,h1⟩,I4.sam⟩
end
section
open PySem.Spec
open PySem.Calls
theorem uK:pP (.builtin "claim.caller" {}):=jp (by decide+kernel) (λY Y Y=>rfl) (λY Y Y Y Y=>rfl)
theorem AP{prog:Program}{w:World}{t:Sem Fin}{s:Shared}{R:Result->Shared->Prop}(hreg:s.asleep)
  (h:cQ (model prog w) callerA t (λfin s'=>∃f,fin=.done f/\(R (.ok f) s'/\leftWithCleanup s'.gens=false)) (λe s'=>R (.error e) s'/\leftWithCleanup s'.gens=false) s):
  ∃n r s' s'',runN (denote table) prog w n s ⟨t,.builtin "claim.caller" {},default,[]⟩=.halted (outcomeOf r) s'/\
   schedN (denote table) prog w n (.single s ⟨t,.builtin "claim.caller" {},default,[]⟩)=.halted (outcomeOf r) s'/\s'.forget=s''.forget/\R r s'':=by
 have h0:=h ⟨.builtin "claim.caller" {},none,none,[],none⟩ default caller_in ⟨uK,λx hx=>nomatch hx⟩
 obtain⟨n,r,aa,aj,hs,hn,hfo,hR⟩:=wp_halts_full (M:=model prog w) (R:=R) hreg (Sem.wp_mono _ _ t (λfin p' s' q=>by
  refine e12 q λf zq39 hf=>?_;clear q
  cases zq39
  exact hf) (λY Y Y q=>q) default s h0)
 exact⟨n,r,aj,aa,hn,hs,hfo,hR⟩
theorem P8{α β γ δ ε:Type _}{A:α->β->Prop}{B:α->β->γ->δ->ε->Prop}{x:α}{y:β}(a:A x y){n:γ}{o:δ}{t:ε}(b:B x y n o t):∃x y,A x y/\∃n o t,B x y n o t:=⟨x,y,a,n,o,t,b⟩
theorem UZ{α:Type _}{P P' A B C D D' E:α->Prop}(f:∀v,P v->P' v)(g:∀v,D v->D' v):(∃v,P v/\A v/\B v/\C v/\D v/\E v)->∃v,P' v/\A v/\B v/\C v/\D' v/\E v:=λ⟨v,p,a,b,c,d,e⟩=>⟨v,f v p,a,b,c,g v d,e⟩
theorem U0{α β γ:Type _}{P P' A B C D E E':α->β->γ->Prop}(f:∀x y z,P x y z->P' x y z)(g:∀x y z,E x y z->E' x y z):(∃x y z,P x y z/\A x y z/\B x y z/\C x y z/\D x y z/\E x y z)->∃x y z,P' x y z/\A x y z/\B x y z/\C x y z/\D x y z/\E' x y z:=λ⟨x,y,z,p,a,b,c,d,e⟩=>⟨x,y,z,f x y z p,a,b,c,d,g x y z e⟩
theorem qe{c:ClaimW}{tree:List Value->Sem Fin}{w:World}{s:Shared}{free:Addr->Prop}{gens:Prop}{kept:Heap->Prop}(hz:s.asleep)(hgens:s.gens=#[])
  (hspec:∀args,c.pre args=true->WData.layableAll args=true->∀ord:List DictEntry->List DictEntry,(∀l,(ord l).Perm l)->∃vs aa,layAllW c.records (classAt s.heap) w.params ord args s=some (vs,aa)/\
    cQ (model c.prog w) callerA (tree vs) (λfin s'=>∃f,fin=.done f/\(c.Ends s args vs aa (.ok f) s'/\s'.os=s.os/\AllBare s'.gens/\kept s'.heap)) (λe s'=>c.Ends s args vs aa (.error e) s'/\s'.os=s.os/\AllBare s'.gens/\kept s'.heap) aa):
  c.CallFrom (λvs=>⟨tree vs,.builtin "claim.caller" {},default,[]⟩) w free gens kept s:=λargs hpre hlay ord hord=>by
 refine e22 (hspec args hpre hlay ord hord) λvs aa hlaid hcode=>?_
 have hal:=layAllW_rest _ _ _ hlaid
 obtain⟨k,r,s',s'',hrun,hsched,hfo,hcase,hos,hkp⟩:=AP (prog:=c.prog) (w:=w) (t:=tree vs) (s:=aa) (R:=λr s'=>c.Ends s args vs aa r s'/\s'.os=s.os/\kept s'.heap) (Shared.asleep_of_life hal.2.2.2 hz)
  (cO hcode (λfin s' ⟨f,e,h1,h2,h3,h4⟩=>⟨f,e,⟨h1,h2,h4⟩,leftWithCleanup_false_of_bare h3⟩) λe s' ⟨h1,h2,h3,h4⟩=>⟨⟨h1,h2,h4⟩,leftWithCleanup_false_of_bare h3⟩)
 refine e05 (Shared.forget_eq hfo) λeh Y Y eo Y=>?_
 have hcase:_\/_:=hcase.congr eh
 have hkp:kept s'.heap:=eh▸hkp
 rw[<-eo] at hos
 have hlife:s'.heap.life=s.heap.life:=(runN_life _ _ _ hrun).trans hal.2.2.2
 refine P8 hlaid ⟨hsched,hcase.imp (UZ (λv e=>?_) λv d b o y Y=>d b o y) (U0 (λe ob cls q=>?_) λe ob cls d b o y Y=>d b o y),(λY i x hx=>by rw[hgens] at hx;simp at hx),hkp,by rw[hlife],Shared.rest_eq hos⟩
 .rw[e];rfl
 .rw[q];rfl
theorem E8{r:OpenRow}{q:Program}{loose:List Str}{Xt:Shared->Bool}{XP:(Str->Option Value)->Heap->Prop}{α:Type}{Yf:Shared->α}{Ya:World->α}{d:DefRec}{kwd:List (Str×Expr)}{N:Nat}
  (jf:LeftO r.prog q loose Xt Yf Ya N) (hX:∀s,Xt s=true->XP (s.heap.nsMap mainGlobals) s.heap) (hXk:∀mg h h',XP mg h->(∀b o,h.get? b=some o->h'.get? b=some o)->XP mg h')
  (hdef:defOf q r.name=some (d,kwd)) (hp:r.prog.theDef r.name=some (d.params,d.body,d.scope)) (hk:kwWritten? d.params.kwonlyargs d.params.kw_defaults=some kwd) (hRf:∀s,Xt s=true->RecFacts r.records s.heap) (hwr:(!r.writes||r.records.isEmpty)=true)
  (k1:r.wellSaid=true) (ok:(chainsOk q&&opensWell r.prog&&(frees r.toRowW&&r.within.isEmpty))=true) (hb:r.prog.bare) (hw:r.toRowW.promised)
  (walk:∀(w:World) (s₀ aa:Shared) (mg mb:Str->Option Value),Ground q loose r.records XP w s₀ mg mb aa.heap->Yf s₀=Ya w->(∀b o,s₀.heap.get? b=some o->aa.heap.get? b=some o)->s₀.heap.nsMap mainGlobals=mg->aa.gens=#[]->aa.drawn=s₀.drawn->
   ∀(args:List WData) (vals:List Value) (as:List Addr),Laid r.records w s₀ aa args vals as->r.claim.pre args=true->WData.layableAll args=true->
   ∃f,mg r.name=some f/\cQ (model r.prog w) callerA (PySem.call f vals) (λv s'=>GoodWG r.claim (classAt s₀.heap) (ExcName.means s₀.heap) args aa (.ok (.ret v)) s') (λe s'=>GoodWG r.claim (classAt s₀.heap) (ExcName.means s₀.heap) args aa (.error e) s') aa):r.Holds:=by
 refine e02 (Bool.and_eq_true_iff.mp ok) λok k5=>?_
 refine e02 (Bool.and_eq_true_iff.mp ok) λhch o1=>?_
 refine e02 (Bool.and_eq_true_iff.mp k5) λk5 k6=>?_
 refine e05 (frees_parts k5) λhsame hu ha hap hm=>?_
 refine⟨k1,hw,⟨hb,o1,by show r.makers.map _=[];rw[hm];rfl⟩,hw.witness,λw=>⟨(jf.behind hX hch w).1,λs' hs'=>?_⟩⟩
 obtain⟨s₀,hf,hg0,s,hT,hz,hgens,hg,G00,y⟩:=(jf.behind (XP:=λmg h=>XP mg h/\RecFacts r.records h) (λs hs=>⟨hX s hs,hRf s hs⟩) hch w).2 s' hs'
 have G0:Ground q loose [] XP w s (s.heap.nsMap mainGlobals) (s.heap.nsMap builtinsNs) s.heap:=⟨G00.T,G00.B,G00.D,G00.TE,G00.TD,G00.W,G00.X.1,G00.cls,G00.has,G00.apart,G00.once,G00.K⟩
 have RF:=G00.X.2
 have hT':=hT
 refine⟨s₀,hf,hg0,s,hT,λn hn=>?_,RF.1,RF.2.1,?_⟩
 .obtain rfl:n=r.name:=by split at hn<;>simp_all
  exact pinned_of_view hg G0 hdef hp hk
 have hgens:s.gens=#[]:=Xh (beq_iff_eq.mp hgens)
 have G:Ground q loose r.records XP w s _ _ s.heap:=RF.ground G0
 refine qe (c:=r.claim) (tree:=λvs=>do match<-nsGet mainNs r.name with
  |some f=>do ret (<-PySem.call f vs)
  |none=>unsupported "claim.caller:no-such-global") hz hgens λargs hpre hlay ord hord=>?_
 refine e11 (Option.isSome_iff_exists.mp (layAllW_isSome (P:=w.params) (ord:=ord) G.has args r.args s (pre_splitW hpre).1)) λzq40 hlaid=>?_
 obtain⟨vs,aa⟩:=zq40
 have keeps:=layAllW_keeps _ _ _ hlaid
 have hal:=layAllW_rest _ _ _ hlaid
 refine e13 (reads_layAllW hord _ _ _ hlaid hlay aa.heap (λY Y e=>e)) λas hrd hin hold=>?_
 have L:Laid r.records w s aa args vs as:=⟨⟨ord,hord,hlaid⟩,hrd,hin,hold,keeps,hal.1.trans hgens,hal.2.2.1⟩
 have cf:=G.keeps hXk keeps
 refine e12 (walk w s aa _ _ cf y keeps rfl L.gens hal.2.1 args vs as L hpre hlay) λf hf h=>?_
 have hi:=ident_freeW hu ha hap
 have hwi:r.claim.within=[]:=List.isEmpty_iff.mp k6
 refine⟨vs,aa,hlaid,?_⟩
 refine wpAny_bind (P (wpAny_nsGet cf.T.g ?_))
 rw[hf]
 exact wpAny_bind (cO h (λv s' g=>wpAny_pure ⟨_,rfl,have z:=g.laid (c:=r.claim) hsame hwi hi L;⟨z.1,z.2.1,z.2.2,λq=>⟨namesKept_of hT' hg _ keeps g.2.1.old,noTable hwr q⟩⟩⟩)
  λe s' g=>have z:=g.laid (c:=r.claim) hsame hwi hi L;⟨z.1,z.2.1,z.2.2,λq=>⟨namesKept_of hT' hg _ keeps g.2.1.old,noTable hwr q⟩⟩)
end
theorem E9{l:List Obj}:∀{n i:Nat},fC (l.drop n) i=fC l (n+i):=λ{n}=>by
 induction n generalizing l with
 |zero=>exact λ{i}=>by rw[VC];rfl
 |succ n ih=>
  intro i
  cases l with
  |nil=>rfl
  |cons x l=>rw[Nat.add_right_comm];exact ih
theorem Fa{l:List Obj}:∀{n i:Nat},i<n->fC (l.take n) i=fC l i:=λ{n}=>by
 induction n generalizing l with
 |zero=>exact λh=>absurd h (Vq _)
 |succ n ih=>
  intro i h
  cases l with
  |nil=>rfl
  |cons x l=>
   cases i with
   |zero=>rfl
   |succ i=>exact ih (VP h)
theorem Fb{l:List Obj}:∀{i:Nat},l.length≤i->fC l i=none:=λ{i}=>by
 induction l generalizing i with
 |nil=>exact λY=>rfl
 |cons x l ih=>
  intro h
  cases i with
  |zero=>exact absurd h (Nat.not_succ_le_zero _)
  |succ i=>exact ih (Nat.le_of_succ_le_succ h)
theorem Fd{f:Nat}:∀{l:List Obj} {k j:Nat},l.length≤f->j<32->dp (fC (J0 f l) k) (λl=>fC l j)=fC l (32 * k+j):=by
 induction f with
 |zero=>exact λh Y=>(Fb (Va h (VQ _))).symm
 |succ f ih=>
  intro l k j h hj
  cases k with
  |zero=>
   refine(?_:fC (l.take 32) j=_)
   rw[Fa hj,Nat.mul_zero,VC]
  |succ k=>
   refine(?_:dp (fC (J0 f (l.drop 32)) k) (λl=>fC l j)=_)
   rw[ih (by rw[VS];omega) hj,E9]
   congr 1
   omega
theorem HU{l:List Obj}:∀{i:Nat},fC l i=l[i]? :=by
 induction l with
 |nil=>exact rfl
 |cons x l ih=>
  intro i
  cases i with
  |zero=>rfl
  |succ i=>exact ih
theorem Fe{h:Heap}:xD h=h.get? :=funext λa=>by
 unfold xD
 rw[Fd (f:=h.objs.size) (l:=h.objs.toList) (k:=We a 32) (j:=Ww a 32) (Vg rfl) (Nat.mod_lt _ (by decide)),show 32 * We a 32+Ww a 32=a from Nat.div_add_mod a 32,HU,Wk]
 rfl
section
variable{R:WRecords}{cl:Str->Option Addr}{P:Params}{ord:List DictEntry->List DictEntry}
theorem HV:∀{xs:List WData} {s:Shared} {r:List Value×Shared},WShape.hasItems R xs .int=true->layAllW R cl P ord xs s=some r->(∀v,v∈r.1->∃n t,v=.int n t)/\r.1.length=xs.length/\r.2.heap=s.heap:=λ{xs}=>by
 induction xs with
 |nil=>
  intro s r Y e
  cases U7 e
  exact⟨λv h=>absurd h Vh,rfl,rfl⟩
 |cons x xs ih=>
  intro s r h e
  obtain⟨h1,h2⟩:WShape.has R x .int=true/\WShape.hasItems R xs .int=true:=by
   have h:(WShape.has R x .int&&WShape.hasItems R xs .int)=true:=h
   exact Bool.and_eq_true_iff.mp h
  refine e11 (hasW_int h1) λi zq41=>?_
  cases zq41
  simp only[layAllW,layW] at e
  cases q:layAllW R cl P ord xs {s with toks:=s.toks+1} with
  |none=>rw[q] at e;cases e
  |some r'=>
   rw[q] at e
   cases e
   refine e03 (ih h2 q) λi1 i2 i3=>?_
   exact⟨λv hv=>(List.mem_cons.mp hv).elim (λe=>⟨_,_,e⟩) (i1 v),congrArg (· +1) i2,i3⟩
end
theorem Mv{w:World}{s₀ aa:Shared}{args:List WData}{vals:List Value}{as:List Addr}(y:Yf s₀=Ya w)(L:Laid RG.row.toRowW.records w s₀ aa args vals as)(hpre:RG.row.toRowW.claim.pre args=true):∃sc ps,vals=[.ref sc]/\sc≠1110/\sB w s₀ aa sc ps:=by
 refine e02 (pre_splitW hpre) λhsh hc=>?_
 refine e23 (hasAllW_cons hsh) λd r zq42 h1 h2=>?_
 cases zq42
 cases hasAllW_nil h2
 refine e12 (hasW_list h1) λxs zq43 h3=>?_
 cases zq43
 refine e12 L.laid λord Y e=>?_
 simp only[layAllW,layW] at e
 cases q:layAllW RG.row.toRowW.records (classAt s₀.heap) w.params ord xs s₀ with
 |none=>rw[q] at e;cases e
 |some r=>
  rw[q] at e
  refine e03 (HV h3 q) λi1 i2 i3=>?_
  simp only[Option.some.injEq,Prod.mk.injEq] at e
  refine e02 e λzq44 zq45=>?_;clear e
  cases zq44
  cases zq45
  have y1:y8 (FQ s₀.heap sN 1114 1110)=true:=congrArg Wy y
  have y2:So (xD s₀.heap) sN 1114 vq=Sp:=congrArg (λz=>z.2.1) y
  have y3:s₀.heap.get? 1110=some (tabObj #[]):=congrArg (λz=>z.2.2.1) y
  have y4:y8 (Sr s₀.heap)=true:=congrArg (λz=>z.2.2.2) y
  refine⟨r.2.heap.objs.size,r.1.toArray,rfl,?_,⟨so y1,Fe▸L2 y2,y3,?_,L.keeps,⟨0,Vj _ rfl⟩,i1,?_⟩⟩
  .rw[i3]
   exact V4 (VB y3)
  .exact cT (so y4) λh Y=>Option.isSome_iff_exists.mp h
  .have hl:r.1.toArray.size=xs.length:=i2
   rw[hl]
   have hc:(WTm.and (.not (.lt (.lit (.int 63)) (.len (.arg 0)))) (.lit (.bool true))).holds RG.row.toRowW.records {args:=[.list xs]}=true:=hc
   have h6:(!decide ((63:Int)<xs.length))=true:=(holdsW_of_value (R:=RG.row.toRowW.records) (e:={args:=[.list xs]}) (w_not (w_lt (a:=.lit (.int 63)) rfl (w_len_list (w_arg (i:=0) rfl))))).symm.trans (holds_andW hc).1
   have h7:=of_decide_eq_false (dO h6)
   omega
theorem HW{w:World}{s₀ aa s':Shared}{sc:Addr}{ps:Array Value}{args:List WData}{v:Value}(b:sB w s₀ aa sc ps)(g:aa.gens=#[])(h:E6 w aa v s'):GoodWG RG.row.toRowW.claim (classAt s₀.heap) (ExcName.means s₀.heap) args aa (.ok (.ret v)) s':=by
 obtain⟨rfl,h2,⟨tb,h3⟩,h4,_,h5⟩:=h
 have hp:=b.k _ _ b.p
 have at_:∀a o,a≠1110->aa.heap.get? a=some o->s'.heap.get? a=some o:=λa o n e=>h2 a o ((lp n).trans e)
 refine⟨.inl ⟨_,.bool true,[],rfl,λY=>rfl,.bool true,?_,λY=>⟨WV,λa h=>absurd h Vh⟩⟩,⟨λa o e=>?_,λa o e=>?_⟩,h5,.of_eq (h4.trans g)⟩
 .wrow_post
 .by_cases q:a=1110
  .subst q
   cases U7 (e.symm.trans hp)
   refine .inr (.inl ⟨?_,rfl,#[],tb,rfl,h3.trans (by rw[Array.empty_append])⟩)
   refine F5 b.t λY Y Y t Y=>cP t λo e t=>cP t λvs e2 t=>iV t λt1 t2 Y=>cP t2 λv v1 v2=>?_
   exact⟨1114,o,vs,b.k _ _ e,fy t1,r5 e2,v1.trans (congrArg some (fA v2))⟩
  .exact .inl (at_ a o q e)
 .by_cases q:a=1110
  .exact⟨_,q▸h3⟩
  .exact⟨o,at_ a o q e⟩
theorem Ff(HT:sk){w:World}{s₀ aa:Shared}{mg:Str->Option Value}(y:Yf s₀=Ya w)(hm:s₀.heap.nsMap mainGlobals=mg)(g:aa.gens=#[]){args:List WData}{vals:List Value}{as:List Addr}(L:Laid RG.row.toRowW.records w s₀ aa args vals as)(hpre:RG.row.toRowW.claim.pre args=true):
  ∃f,mg RG.row.toRowW.name=some f/\cQ (model PG w) callerA (PySem.call f vals) (λv s'=>GoodWG RG.row.toRowW.claim (classAt s₀.heap) (ExcName.means s₀.heap) args aa (.ok (.ret v)) s') (λe s'=>GoodWG RG.row.toRowW.claim (classAt s₀.heap) (ExcName.means s₀.heap) args aa (.error e) s') aa:=by
 refine e23 (Mv y L hpre) λsc ps zq46 hsc b=>?_
 cases zq46
 have y4:y8 (Sr s₀.heap)=true:=congrArg (λz=>z.2.2.2) y
 refine cT (so y4) λY h=>cP h λv e1 e2=>⟨.ref (sN 184),hm▸(fA e2▸e1),cO (E7 HT b hsc) (λv s' q=>HW b g q) λY Y q=>q.elim⟩
theorem P9:∀x,Bool.rec false true (eR x 5 134 Oq)=true:=λx=>by kernel_rfl
theorem Qa:∀x,Bool.rec false true (eR x 1 180 Pc)=true:=λx=>by cases x<;>kernel_rfl
theorem Qb:∀x,Bool.rec false true (dI x 132 Ol)=true:=λx=>by kernel_rfl
theorem Ti:∀x,Bool.rec false true (dI x 110 T8)=true:=λx=>by kernel_rfl
theorem Qc:∀x,Bool.rec false true (dI x 166 OL)=true:=λx=>by kernel_rfl
theorem Qd:∀x,Bool.rec false true (dI x 171 O9)=true:=λx=>by kernel_rfl
theorem Qe:∀x,Bool.rec false true (dI x 183 Pi)=true:=λx=>by kernel_rfl
theorem Qf:∀x,Bool.rec false true (dI x 183 Pn)=true:=λx=>by kernel_rfl
theorem Tj:∀x,Bool.rec false true (dI x 118 Ue)=true:=λx=>by kernel_rfl
theorem Qg:∀x,Bool.rec false true (eR x 5 134 Os)=true:=λx=>by kernel_rfl
theorem Qh:∀x,Bool.rec false true (eR x 1 180 Pd)=true:=λx=>by cases x<;>kernel_rfl
theorem Qi:∀x,Bool.rec false true (dI x 118 Og)=true:=λx=>by kernel_rfl
theorem Qj:∀x,Bool.rec false true (dI x 123 Oi)=true:=λx=>by kernel_rfl
theorem Qk:∀x,Bool.rec false true (dI x 133 Om)=true:=λx=>by kernel_rfl
theorem Ql:∀x,Bool.rec false true (dI x 171 OQ)=true:=λx=>by kernel_rfl
theorem Qm:∀x,Bool.rec false true (dI x 171 OZ)=true:=λx=>by kernel_rfl
theorem Qn:∀x,Bool.rec false true (dI x 171 O6)=true:=λx=>by kernel_rfl
theorem Qo:∀x,Bool.rec false true (dI x 171 O8)=true:=λx=>by kernel_rfl
theorem Qp:∀x,Bool.rec false true (dI x 174 Pa)=true:=λx=>by kernel_rfl
theorem Qq:∀x,Bool.rec false true (dI x 183 Pm)=true:=λx=>by kernel_rfl
theorem Qr:∀x,Bool.rec false true (eR x 5 134 Oo)=true:=λx=>by kernel_rfl
theorem Qs:∀x,Bool.rec false true (eR x 5 134 Ou)=true:=λx=>by kernel_rfl
theorem Qt:∀x,Bool.rec false true (eR x 6 136 Oz)=true:=λx=>by kernel_rfl
theorem Qu:∀x,Bool.rec false true (eR x 3 140 OE)=true:=λx=>by kernel_rfl
theorem Qv:∀x,Bool.rec false true (eR x 7 146 OF)=true:=λx=>by kernel_rfl
theorem Qw:∀x,Bool.rec false true (dI x 118 Oe)=true:=λx=>by kernel_rfl
theorem Qx:∀x,Bool.rec false true (dI x 171 OS)=true:=λx=>by kernel_rfl
theorem Qy:∀x,Bool.rec false true (dI x 171 O0)=true:=λx=>by kernel_rfl
theorem Qz:∀x,Bool.rec false true (dI x 183 Pf)=true:=λx=>by kernel_rfl
theorem QA:∀x,Bool.rec false true (dI x 183 Pp)=true:=λx=>by kernel_rfl
theorem QC:∀x,Bool.rec false true (eR x 5 134 Op)=true:=λx=>by kernel_rfl
theorem QD:∀x,Bool.rec false true (eR x 6 136 OA)=true:=λx=>by kernel_rfl
theorem QE:∀x,Bool.rec false true (eR x 7 146 OG)=true:=λx=>by kernel_rfl
theorem QG:∀x,Bool.rec false true (eR x 2 170 ON)=true:=λx=>by cases x<;>kernel_rfl
theorem QH:∀x,Bool.rec false true (eR x 1 180 Pb)=true:=λx=>by cases x<;>kernel_rfl
theorem QJ:∀x,Bool.rec false true (dI x 118 Of)=true:=λx=>by kernel_rfl
theorem QK:∀x,Bool.rec false true (dI x 171 OT)=true:=λx=>by kernel_rfl
theorem QN:∀x,Bool.rec false true (dI x 171 O1)=true:=λx=>by kernel_rfl
theorem QO:∀x,Bool.rec false true (dI x 183 Pg)=true:=λx=>by kernel_rfl
theorem QP:∀x,Bool.rec false true (dI x 183 Pq)=true:=λx=>by kernel_rfl
theorem QQ:∀x,Bool.rec false true (eR x 6 136 Ov)=true:=λx=>by kernel_rfl
theorem QR:∀x,Bool.rec false true (eR x 7 146 OH)=true:=λx=>by kernel_rfl
theorem Tk:∀x,Bool.rec false true (dI x 18 T6)=true:=λx=>by kernel_rfl
theorem QT:∀x,Bool.rec false true (dI x 121 Oh)=true:=λx=>by kernel_rfl
theorem QX:∀x,Bool.rec false true (dI x 126 Oj)=true:=λx=>by kernel_rfl
theorem Tl:∀x,Bool.rec false true (dI x 19 T7)=true:=λx=>by kernel_rfl
theorem QY:∀x,Bool.rec false true (dI x 137 OB)=true:=λx=>by kernel_rfl
theorem Tm:∀x,Bool.rec false true (dI x 118 T9)=true:=λx=>by kernel_rfl
theorem QZ:∀x,Bool.rec false true (dI x 171 OV)=true:=λx=>by kernel_rfl
theorem Q0:∀x,Bool.rec false true (dI x 171 O2)=true:=λx=>by kernel_rfl
theorem Q1:∀x,Bool.rec false true (dI x 183 Ph)=true:=λx=>by kernel_rfl
theorem Q2:∀x,Bool.rec false true (eR x 6 136 Ow)=true:=λx=>by kernel_rfl
theorem Q3:∀x,Bool.rec false true (eR x 7 146 OI)=true:=λx=>by kernel_rfl
theorem Q4:∀x,Bool.rec false true (eR x 7 146 OK)=true:=λx=>by kernel_rfl
theorem Q5:∀x,Bool.rec false true (eR x 3 170 OP)=true:=λx=>by kernel_rfl
theorem Q6:∀x,Bool.rec false true (dI x 171 OU)=true:=λx=>by kernel_rfl
theorem Tn:∀x,Bool.rec false true (dI x 118 Ua)=true:=λx=>by kernel_rfl
theorem Q7:∀x,Bool.rec false true (dI x 171 OW)=true:=λx=>by kernel_rfl
theorem Q8:∀x,Bool.rec false true (dI x 171 O4)=true:=λx=>by kernel_rfl
theorem Q9:∀x,Bool.rec false true (dI x 183 Pj)=true:=λx=>by kernel_rfl
theorem Ra:∀x,Bool.rec false true (dI x 183 Pr)=true:=λx=>by kernel_rfl
theorem Rb:∀x,Bool.rec false true (eR x 6 136 Ox)=true:=λx=>by kernel_rfl
theorem Rc:∀x,Bool.rec false true (eR x 2 140 OC)=true:=λx=>by cases x<;>kernel_rfl
theorem Rd:∀x,Bool.rec false true (eR x 7 146 OJ)=true:=λx=>by kernel_rfl
theorem Re:∀x,Bool.rec false true (eR x 2 170 OO)=true:=λx=>by cases x<;>kernel_rfl
theorem To:∀x,Bool.rec false true (dI x 15 T5)=true:=λx=>by kernel_rfl
theorem Rf:∀x,Bool.rec false true (dI x 171 OX)=true:=λx=>by kernel_rfl
theorem Rg:∀x,Bool.rec false true (dI x 171 O3)=true:=λx=>by kernel_rfl
theorem Rh:∀x,Bool.rec false true (dI x 171 O5)=true:=λx=>by kernel_rfl
theorem Tp:∀x,Bool.rec false true (dI x 118 Ud)=true:=λx=>by kernel_rfl
theorem Ri:∀x,Bool.rec false true (dI x 182 Pe)=true:=λx=>by kernel_rfl
theorem Rj:∀x,Bool.rec false true (dI x 183 Pl)=true:=λx=>by kernel_rfl
theorem Rk:∀x,Bool.rec false true (eR x 5 134 On)=true:=λx=>by kernel_rfl
theorem Rm:∀x,Bool.rec false true (eR x 5 134 Ot)=true:=λx=>by kernel_rfl
theorem Rn:∀x,Bool.rec false true (eR x 6 136 Oy)=true:=λx=>by kernel_rfl
theorem Ro:∀x,Bool.rec false true (eR x 2 140 OD)=true:=λx=>by cases x<;>kernel_rfl
theorem Rp:∀x,Bool.rec false true (dI x 167 OM)=true:=λx=>by kernel_rfl
theorem Rq:∀x,Bool.rec false true (dI x 171 OY)=true:=λx=>by kernel_rfl
theorem Tr:∀x,Bool.rec false true (dI x 118 Uc)=true:=λx=>by kernel_rfl
theorem Rr:∀x,Bool.rec false true (dI x 171 O7)=true:=λx=>by kernel_rfl
theorem Rs:∀x,Bool.rec false true (dI x 183 Po)=true:=λx=>by kernel_rfl
theorem Ts:∀x,Bool.rec false true (dI x 118 Uf)=true:=λx=>by kernel_rfl
noncomputable def jr(n q:V)(b:Bool)(o s d:Int)(rows:List V):Nat×List O:=(dq (fj n) 0 λk=>k,[dD 13,.ns [(1573592589683,names),(1599361674341,.ref 4),(6146846053,n),(24600953,.int (.u (some 0) (some 3))),(1744718521337330840990323,q),(26045266015013005428,.bool b),(403960572896628,.int (.c o)),(6231259749,.int (.c s)),(5979334000,.int (.c d)),(6130069113,.int (.u (some 0) (some 3))),(6214874995,.ref 5)],.cell (some (.ref 0)),.cell (some (.bytes HD)),.dead,.list rows])
noncomputable def Tt:List (Nat×List O):=[jr pC (.tok 300) false 0 27 0 [],jr pC (.tok 300) false 0 27 0 [.tup [.tok 5,.int (.u (some 0) (some 2))]],jr pC (.tok 320) false 0 27 0 [.tup [.tok 5,.int (.u (some 0) (some 2))]],jr pC (.tup []) true 0 27 0 [],jr fX (.tok 301) false 0 3 0 [],jr fX (.tok 301) false 0 3 0 [.tup [.tok 5,.int (.u (some 0) (some 2))]],jr fX (.tok 321) false 0 3 0 [.tup [.tok 5,.int (.u (some 0) (some 2))]],jr fX (.tup []) true 0 3 0 [],jr fX (.tup qR) true 0 3 0 [],jr fP (.tok 302) false 3 4 0 [],jr fP (.tok 302) false 3 4 0 [.tup [.tok 5,.int (.u (some 0) (some 2))]],jr fP (.tok 322) false 3 4 0 [.tup [.tok 5,.int (.u (some 0) (some 2))]]]
noncomputable def Tv:List (Nat×List O):=[jr fP (.tup []) true 3 4 0 [],jr fP (.tup qR) true 3 4 0 [],jr gl (.tok 303) false 7 4 0 [],jr gl (.tok 303) false 7 4 0 [.tup [.tok 5,.int (.u (some 0) (some 2))]],jr gl (.tok 323) false 7 4 0 [.tup [.tok 5,.int (.u (some 0) (some 2))]],jr gl (.tup []) true 7 4 0 [],jr gl (.tup qR) true 7 4 0 [],jr gH (.tok 304) false 11 4 0 [],jr gH (.tok 304) false 11 4 0 [.tup [.tok 5,.int (.u (some 0) (some 2))]],jr gH (.tok 324) false 11 4 0 [.tup [.tok 5,.int (.u (some 0) (some 2))]],jr gH (.tup []) true 11 4 0 [],jr gH (.tup qR) true 11 4 0 []]
noncomputable def Tw:List (Nat×List O):=[jr iZ (.tok 305) false 15 4 1 [],jr iZ (.tok 305) false 15 4 1 [.tup [.tok 5,.int (.u (some 0) (some 2))]],jr iZ (.tok 305) false 15 4 1 [.tup [.tok 5,.int (.u (some 0) (some 2))],.tup [.tok 5,.int (.u (some 0) (some 2))]],jr iZ (.tok 325) false 15 4 1 [],jr iZ (.tok 325) false 15 4 1 [.tup [.tok 5,.int (.u (some 0) (some 2))],.tup [.tok 5,.int (.u (some 0) (some 2))]],jr iZ (.tok 325) false 15 4 1 [.tup [.tok 3,.int (.c 0)]],jr iZ (.tup []) true 15 4 1 [.tup [.tok 11,.int (.c 1)]],jr iZ (.tup []) true 15 4 1 [.tup [.tok 12,.int (.c 2)]],jr iZ (.tup qR) true 15 4 1 [.tup [.tok 11,.int (.c 1)]],jr iZ (.tup qR) true 15 4 1 [.tup [.tok 12,.int (.c 2)]],jr i8 (.tok 306) false 15 2 1 [],jr i8 (.tok 306) false 15 2 1 [.tup [.tok 5,.int (.u (some 0) (some 2))]]]
noncomputable def Tx:List (Nat×List O):=[jr i8 (.tok 306) false 15 2 1 [.tup [.tok 5,.int (.u (some 0) (some 2))],.tup [.tok 5,.int (.u (some 0) (some 2))]],jr i8 (.tok 326) false 15 2 1 [],jr i8 (.tok 326) false 15 2 1 [.tup [.tok 5,.int (.u (some 0) (some 2))],.tup [.tok 5,.int (.u (some 0) (some 2))]],jr i8 (.tok 326) false 15 2 1 [.tup [.tok 3,.int (.c 0)]],jr i8 (.tup []) true 15 2 1 [.tup [.tok 11,.int (.c 1)]],jr i8 (.tup []) true 15 2 1 [.tup [.tok 12,.int (.c 2)]],jr i8 (.tup qR) true 15 2 1 [.tup [.tok 11,.int (.c 1)]],jr i8 (.tup qR) true 15 2 1 [.tup [.tok 12,.int (.c 2)]],jr fU (.tok 307) false 17 1 2 [.tup [.tok 5,.int (.u (some 0) (some 2))]],jr fU (.tok 307) false 17 1 2 [.tup [.tok 5,.int (.u (some 0) (some 2))],.tup [.tok 5,.int (.u (some 0) (some 2))]],jr fU (.tok 307) false 17 1 2 [.tup [.tok 5,.int (.u (some 0) (some 2))],.tup [.tok 5,.int (.u (some 0) (some 2))],.tup [.tok 5,.int (.u (some 0) (some 2))]],jr fU (.tok 327) false 17 1 2 [.tup [.tok 5,.int (.u (some 0) (some 2))]]]
noncomputable def Ty:List (Nat×List O):=[jr fU (.tok 327) false 17 1 2 [.tup [.tok 5,.int (.u (some 0) (some 2))],.tup [.tok 5,.int (.u (some 0) (some 2))],.tup [.tok 5,.int (.u (some 0) (some 2))]],jr fU (.tok 327) false 17 1 2 [.tup [.tok 3,.int (.c 0)],.tup [.tok 5,.int (.u (some 0) (some 2))]],jr fU (.tok 327) false 17 1 2 [.tup [.tok 4,.int (.u (some 1) (some 2))],.tup [.tok 3,.int (.c 0)]],jr fU (.tup []) true 17 1 2 [.tup [.tok 11,.int (.c 1)],.tup [.tok 11,.int (.c 1)]],jr fU (.tup []) true 17 1 2 [.tup [.tok 11,.int (.c 1)],.tup [.tok 12,.int (.c 2)]],jr fU (.tup []) true 17 1 2 [.tup [.tok 12,.int (.c 2)],.tup [.tok 11,.int (.c 1)]],jr fU (.tup []) true 17 1 2 [.tup [.tok 12,.int (.c 2)],.tup [.tok 12,.int (.c 2)]],jr fU (.tup qR) true 17 1 2 [.tup [.tok 11,.int (.c 1)],.tup [.tok 11,.int (.c 1)]],jr fU (.tup qR) true 17 1 2 [.tup [.tok 11,.int (.c 1)],.tup [.tok 12,.int (.c 2)]],jr fU (.tup qR) true 17 1 2 [.tup [.tok 12,.int (.c 2)],.tup [.tok 11,.int (.c 1)]],jr fU (.tup qR) true 17 1 2 [.tup [.tok 12,.int (.c 2)],.tup [.tok 12,.int (.c 2)]],jr df (.tok 308) false 27 1 0 []]
noncomputable def Tz:List (Nat×List O):=[jr df (.tok 308) false 27 1 0 [.tup [.tok 5,.int (.u (some 0) (some 2))]],jr df (.tup q3) false 28 1 0 [.tup [.tok 5,.int (.u (some 0) (some 2))]],jr df (.tup q2) false 27 1 0 [.tup [.tok 5,.int (.u (some 0) (some 2))]],jr df (.tup q3) true 28 1 0 [],jr df (.tup q2) true 27 1 0 [],jr pq (.tok 310) false 0 0 0 [],jr pq (.tok 310) false 0 0 0 [.tup [.tok 5,.int (.u (some 0) (some 2))]]]
noncomputable def m7:gt:=pG (gN 181) []
noncomputable def AQ:List (Nat×Nat):=[(403947921962099,3),(24143214,2)]
noncomputable def uL:List O:=[dD 1,.ns [(1573592589683,names)],.cell (some (.ref 0)),.cell (some (.bytes HD))]
noncomputable def ip:dw:=(HF.head?).getD ⟨[],[],[],[]⟩
noncomputable def Mw:List Stmt:=(VV 10).map λi=>dZ 181 i
noncomputable def HX:List Stmt:=(VV 4).map λi=>dZ 181 (10+i)
noncomputable def xc(x:Bool)(l:List (Nat×List O)):Bool:=dF l λJ=>gd (Vk uL.length J.2.length) ((mO (cm false x 2) 54).ex ⟨m7.ks,1,AQ,false⟩ HX (dQ J.2) (mt (ph (toks x) ip.pre.length ip.pre ip.outs)) mI)
theorem U1:∀x,Bool.rec false true (xc x Tt)=true:=λx=>by kernel_rfl
theorem U2:∀x,Bool.rec false true (xc x Tv)=true:=λx=>by kernel_rfl
theorem U3:∀x,Bool.rec false true (xc x Tw)=true:=λx=>by kernel_rfl
theorem U4:∀x,Bool.rec false true (xc x Tx)=true:=λx=>by kernel_rfl
theorem U5:∀x,Bool.rec false true (xc x Ty)=true:=λx=>by kernel_rfl
theorem U6:∀x,Bool.rec false true (xc x Tz)=true:=λx=>by kernel_rfl
theorem Rt:∀x,Bool.rec false true ((mO (cm false x 2) 54).ex ⟨m7.ks,1,AQ,false⟩ Mw (dQ uL) (Ps (toks x) 6146846053 1 (Tt++(Tv++(Tw++(Tx++(Ty++Tz))))) (ph (toks x) ip.pre.length ip.pre ip.outs)) mI)=true:=λx=>by kernel_rfl
theorem Ru:∀x,Bool.rec false true (gd (qc (toks x) (λk=>k) (ju (λk=>k) ip.args) ip.args) (gd (Hp (toks x) (jw (λk=>k) ip.pre) ip.pre) (gd (cR (fu m7.params m7.dfl (ju (λk=>k) ip.args)) (λfull=>Prod.rec (motive:=λY=>Bool) (λfr h=>d7 fr h (LU (toks x) AQ uL m7 fr) m7.params full) (ez m7.lam m7.ks [] (eN H.nil (jw (λk=>k) ip.pre)))))
 (gd (V8 ip.pre.length uL.length) (gd (Vk ip.pre.length uL.length) (dF AQ λp=>V8 p.2 uL.length))))))=true:=λx=>by kernel_rfl
theorem Rv:m7.body=Mw++HX:=by kernel_rfl
theorem Rw:FT.get 181=some m7:=by kernel_rfl
theorem Rx:HF=[ip]:=by kernel_rfl
theorem TA{md x:Bool}{n:Nat}:(cm md x n).F=FT:=by unfold cm cx;rfl
theorem Fg{md x:Bool}{n:Nat}:(cm md x n).toks=toks x:=by unfold cm cx;rfl
theorem AR{x:Bool}{l:List (Nat×List O)}{J:Nat×List O}(h:Bool.rec false true (xc x l)=true)(hJ:J∈l):gd (Vk uL.length J.2.length) ((mO (cm false x 2) 54).ex ⟨m7.ks,1,AQ,false⟩ HX (dQ J.2) (mt (ph (toks x) ip.pre.length ip.pre ip.outs)) mI)=true:=by
 have q:=c9 (pt h) hJ
 exact q
theorem Mx:RW 2 181 HF:=λe he x=>by
 rw[Rx] at he
 cases List.mem_singleton.mp he
 refine cT (pt (Ru x)) λh1 h=>cT h λh2 h=>cT h λh3 h4=>.c (.mk m7 AQ uL 6146846053 (Tt++(Tv++(Tw++(Tx++(Ty++Tz))))) Mw HX ip.args ip.pre (Fg▸h1) (Fg▸h2) (TA▸Rw) Rv (Fg▸h3) h4 (Fg▸pt (Rt x)) λJ=>Fg▸(λh=>(List.mem_append.mp h).elim (λh=>AR (U1 x) h) (λh=>(List.mem_append.mp h).elim (λh=>AR (U2 x) h) (λh=>(List.mem_append.mp h).elim (λh=>AR (U3 x) h) (λh=>(List.mem_append.mp h).elim (λh=>AR (U4 x) h) (λh=>(List.mem_append.mp h).elim (λh=>AR (U5 x) h) (λh=>AR (U6 x) h)))))))
theorem HY:sk:=(gm (gm (gm (gm (gm fZ (cY To) fZ) (cY Tk) (gm fZ (cY Tl) fZ)) (cY Ti) (gm (gm fZ (eG (eG (eG (cY Tm) (cY Tn)) (eG (cY Tr) (cY Tp))) (eG (eG (cY Tj) (cY Ts)) (eG (cY Qw) (eG (cY QJ) (cY Qi))))) fZ) (cY QT) fZ)) (cY Qj) (gm (gm (gm fZ (cY QX) fZ) (cY Qb) fZ) (cY Qk) (gm (gm fZ (wU (fB (dn Rk) (fB (dn Qr) (fB (dn QC) (fB (dn P9) (fB (dn Qg) (fB (dn Rm) (fB (dn Qs) wV)))))))) fZ) (wU (fB (dn QQ) (fB (dn Q2) (fB (dn Rb) (fB (dn Rn) (fB (dn Qt) (fB (dn QD) wV))))))) fZ))) (cY QY) (gm (gm (gm (gm fZ (wU (fB (dn Rc) (fB (dn Ro) (fB (dn Qu) wV)))) fZ) (wU (fB (dn Qv) (fB (dn QE) (fB (dn QR) (fB (dn Q3) (fB (dn Rd) (fB (dn Q4) wV))))))) fZ) (cY Qc) (gm (gm fZ (cY Rp) fZ) (wU (fB (dn QG) (fB (dn Re) (fB (dn Q5) wV)))) fZ)) (eG (eG (eG (eG (cY Ql) (cY Qx)) (eG (cY QK) (cY Q6))) (eG (eG (cY QZ) (cY Q7)) (eG (cY Rf) (eG (cY Rq) (cY Qm))))) (eG (eG (eG (cY Qy) (cY QN)) (eG (cY Q0) (eG (cY Rg) (cY Q8)))) (eG (eG (cY Rh) (cY Qn)) (eG (cY Rr) (eG (cY Qo) (cY Qd)))))) (gm (gm (gm fZ (cY Qp) fZ) (wU (fB (dn QH) (fB (dn Qa) (fB (dn Qh) wV)))) fZ) (wU (fB (Mx) wV)) (gm (gm fZ (cY Ri) fZ) (eG (eG (eG (cY Qz) (eG (cY QO) (cY Q1))) (eG (cY Qe) (eG (cY Q9) (cY Rj)))) (eG (eG (cY Qq) (eG (cY Qf) (cY Rs))) (eG (cY QA) (eG (cY QP) (cY Ra))))) fZ))))
theorem HZ:RG.Holds:=by
 refine holds_law B7 λsaid=>?_
 refine E8 (r:=RG.row) (q:=qG) (loose:=loose) (Xt:=Xt) (XP:=XL qG []) (Yf:=Yf) (Ya:=Ya) (N:=8000) jf (λs e=>xl_of s (Bool.and_eq_true_iff.mp e).1) XL.keeps J5 J6 (by kernel_rfl)
  (λs e=>recFacts_of (Bool.and_eq_true_iff.mp e).2) rfl said NA ⟨rfl,rfl,rfl,rfl,rfl,by decide+kernel⟩ Ca λw s₀ aa mg mb Y y Y hm g Y args vals as L hpre Y=>Ff HY y hm g L hpre
end Mine.Tactic
theorem PySem.Challenge.cw_pq0653_01_holds : PySem.Challenge.rw_pq0653_01.Holds :=
  Mine.Tactic.HZ
