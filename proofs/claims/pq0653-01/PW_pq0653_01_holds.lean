import PyProof.Rows.All
import Wide.Tac
import Wide.Line
import Open.FastLooks
import Open.FastRun
import Open.FastT9
import Open.Line
import Open.Head
import PyProof.Ends
import PyProof.CompFree
import PyProof.WalksMore
import PyProof.CompMap
import PyProof.EnumMake
import KE.BytesMulAny
import KE.KxBytes
import PyProof.Rows.TupAdd
import PyProof.Rows.SeqMore
import PyProof.AutoIntOpsIf
import PyProof.Raises
import PyProof.RulesTry
import PyProof.EnumStmt
import PyProof.ZipIter
import PyProof.DictWalks
import PyProof.RangeFor
import KE.KBytesWalk
import ObjForm.Fk.ObjNew
import PyProof.Cells
import PyProof.TupleIter
import PyProof.DictStraight
import PyProof.DictDisplay
import KE.KLam
import PyProof.RaisesMany
import PyProof.Rows.TupAssign
import PyProof.RulesAssignMore
import PyProof.AssignAttr
import PyProof.InstStoreFacts
import PyProof.LetGo
import PyProof.ListTruth
import PyProof.EqKinds
import PyProof.NeKinds
import PyProof.DictRoads
import PyProof.ExcInit
import PyProof.ExcFactsAll.Exception
import ObjForm.Fk.InstStore
import ObjForm.Fk.InstLoad
import KE.BytesMake
import KE.KDictSum
import PyProof.Conv_int_bool
import PyProof.Rows.RuleN_abs
import PyProof.Rows.SortShell
import PyProof.Rows.SortWalk
import PyProof.TupleOfSeq
import Wide.BytesRules
import KE.KBytesCut
import PyProof.MeetsDict
import PyProof.StrCalls2
import PyProof.SliceSyntax
import PyProof.ListNew
import PySem.Challenge.RW_pq0653_01
open Option.some renaming inj->Vl
open PySem.Str renaming ofString->Vm
open Nat renaming beq->Vn,le_trans->Vo,lt_of_lt_of_le->Vt,le_of_eq->Vu,le_of_ble_eq_true->Vw,ble->Vy,le_refl->VA,not_lt_zero->VE,succ_pos->VL,ne_of_lt->VM,le_succ->VO,zero_add->VQ,lt_succ_self->VS,beq_refl->VT,succ->VU,succ_le_succ->V1,lt_succ_of_lt->V2,blt->V3,add_le_add_left->V4,lt_of_succ_lt_succ->V5,zero_le->V6,succ_ne_zero->V9,lt_of_le_of_ne->Wb,le_of_lt_succ->Wf,add_comm->Wg,ne_of_gt->Wk,add_le_add_right->Wo,le_add_right->Wr,div->Ws,mul->Wv,add_le_add->Wy,lt_irrefl->WH,mod->WM,add->WN,lt_succ_of_le->WS,mod_eq_of_lt->WX,lt_of_not_le->WY,le_of_not_lt->WZ,add_sub_cancel_left->W0,sub_le->W4,zero_lt_two->W5,eq_of_beq_eq_true->W7,add_assoc->Xh,lt_of_le_of_lt->Xl,sub->Xv
open PySem.Heap renaming get?_push_of_some->Vp,get?_push_size->Vx,SameBut->VB,get?_none_of_le->VC,get?_update_self->VD,lt_size->VP,get?_update_other->Wj,size_push->Wn,ExtBut->Wx,get?_push_ne->Xr,get?_push_at->Xu
open List renaming mem_cons_self->Vq,mem_cons_of_mem->Vr,not_mem_nil->Vv,replicate->VF,length_map->VG,contains_cons->VI,lookup_cons->VJ,length_append->VK,size_toArray->VN,forIn_cons->VZ,length_drop->V7,cons_ne_nil->V8,range->Wa,take_append_drop->Wc,append_nil->We,eq_nil_of_length_eq_zero->Wh,getElem?_eq_none->Wl,mem_append_right->WA,map_cons->WB,any_cons->WC,reverse_reverse->WI,mem_map_of_mem->WK,filterMap_cons->WL,getElem?_eq_getElem->WU,length_cons->WW,map_map->W3,nodup_nil->W9,forIn_nil->Xa,map_congr_left->Xb,take_nil->Xc,drop_nil->Xd,zip_cons_cons->Xi,reverse_cons->Xo,getElem?_map->Xp,any_eq_false->Xq
open Bool renaming false_ne_true->Vs,false_eq_true->Xj
open Int renaming le_trans->Vz,toNat_natCast->VH,natCast_nonneg->VV,lt_of_le_of_lt->VW,le_of_lt->Wt,toNat_of_nonneg->Wu,lt_of_lt_of_le->Ww,mul_le_mul_of_nonneg_right->WE,le_refl->WJ,mul_comm->WO,add_sub_cancel->WQ,eq_ofNat_of_zero_le->W1,le_antisymm->W6,add_le_add_left->Xe,ne_of_gt->Xw
open Array renaming toList_append->VX,length_toList->VY,getElem?_eq_none->Wi,toList->Wp,getElem?_eq_getElem->Wq,getElem?_toList->Wz,size->W2,toArray_toList->W8,ext'->Xg,toList_push->Xm,eq_empty_of_size_eq_zero->Xx
open PySem.Obj renaming data_mapFields->V0,isFreed_of_fields->Wm,cls_mapFields->WR,mapFields->WV,mapSeq->Xk
open List.cons renaming inj->Wd
open Nat.succ renaming inj->WG
open Prod renaming fst->WP
open PySem.Data.fields renaming inj->Xf
open Option renaming bind_some->Xn
set_option Elab.async false
set_option tactic.hygienic false
set_option bootstrap.genMatcherCode false
set_option genSizeOf false
set_option genInjectivity false
set_option linter.all false
set_option compiler.extract_closed false
set_option maxRecDepth 1000000
set_option maxHeartbeats 0
open PySem PyProof.Rows PySem.W
namespace Mine.Tactic
theorem e02{A B:Prop}{G:Prop}(h:A/\B)(f:A->B->G):G:=f h.1 h.2
theorem e11{α:Sort _}{A:α->Prop}{G:Prop}(h:∃x,A x)(f:∀x,A x->G):G:=h.elim λx h=>f x h
theorem e03{A B C:Prop}{G:Prop}(h:A/\B/\C)(f:A->B->C->G):G:=f h.1 h.2.1 h.2.2
theorem e12{α:Sort _}{A B:α->Prop}{G:Prop}(h:∃x,A x/\B x)(f:∀x,A x->B x->G):G:=h.elim λx h=>f x h.1 h.2
theorem e21{α β:Sort _}{A:α->β->Prop}{G:Prop}(h:∃x y,A x y)(f:∀x y,A x y->G):G:=h.elim λx h=>h.elim λy h=>f x y h
theorem e04{A B C D:Prop}{G:Prop}(h:A/\B/\C/\D)(f:A->B->C->D->G):G:=f h.1 h.2.1 h.2.2.1 h.2.2.2
theorem e13{α:Sort _}{A B C:α->Prop}{G:Prop}(h:∃x,A x/\B x/\C x)(f:∀x,A x->B x->C x->G):G:=h.elim λx h=>f x h.1 h.2.1 h.2.2
theorem e22{α β:Sort _}{A B:α->β->Prop}{G:Prop}(h:∃x y,A x y/\B x y)(f:∀x y,A x y->B x y->G):G:=h.elim λx h=>h.elim λy h=>f x y h.1 h.2
theorem e31{α β γ:Sort _}{A:α->β->γ->Prop}{G:Prop}(h:∃x y z,A x y z)(f:∀x y z,A x y z->G):G:=h.elim λx h=>h.elim λy h=>h.elim λz h=>f x y z h
theorem e05{A B C D E:Prop}{G:Prop}(h:A/\B/\C/\D/\E)(f:A->B->C->D->E->G):G:=f h.1 h.2.1 h.2.2.1 h.2.2.2.1 h.2.2.2.2
theorem e14{α:Sort _}{A B C D:α->Prop}{G:Prop}(h:∃x,A x/\B x/\C x/\D x)(f:∀x,A x->B x->C x->D x->G):G:=h.elim λx h=>f x h.1 h.2.1 h.2.2.1 h.2.2.2
theorem e23{α β:Sort _}{A B C:α->β->Prop}{G:Prop}(h:∃x y,A x y/\B x y/\C x y)(f:∀x y,A x y->B x y->C x y->G):G:=h.elim λx h=>h.elim λy h=>f x y h.1 h.2.1 h.2.2
theorem e32{α β γ:Sort _}{A B:α->β->γ->Prop}{G:Prop}(h:∃x y z,A x y z/\B x y z)(f:∀x y z,A x y z->B x y z->G):G:=h.elim λx h=>h.elim λy h=>h.elim λz h=>f x y z h.1 h.2
theorem e15{α:Sort _}{A B C D E:α->Prop}{G:Prop}(h:∃x,A x/\B x/\C x/\D x/\E x)(f:∀x,A x->B x->C x->D x->E x->G):G:=h.elim λx h=>f x h.1 h.2.1 h.2.2.1 h.2.2.2.1 h.2.2.2.2
theorem e24{α β:Sort _}{A B C D:α->β->Prop}{G:Prop}(h:∃x y,A x y/\B x y/\C x y/\D x y)(f:∀x y,A x y->B x y->C x y->D x y->G):G:=h.elim λx h=>h.elim λy h=>f x y h.1 h.2.1 h.2.2.1 h.2.2.2
theorem e33{α β γ:Sort _}{A B C:α->β->γ->Prop}{G:Prop}(h:∃x y z,A x y z/\B x y z/\C x y z)(f:∀x y z,A x y z->B x y z->C x y z->G):G:=h.elim λx h=>h.elim λy h=>h.elim λz h=>f x y z h.1 h.2.1 h.2.2
theorem e42{α β γ δ:Sort _}{A B:α->β->γ->δ->Prop}{G:Prop}(h:∃x y z u,A x y z u/\B x y z u)(f:∀x y z u,A x y z u->B x y z u->G):G:=h.elim λx h=>h.elim λy h=>h.elim λz h=>h.elim λu h=>f x y z u h.1 h.2
theorem e51{α β γ δ ε:Sort _}{A:α->β->γ->δ->ε->Prop}{G:Prop}(h:∃x y z u v,A x y z u v)(f:∀x y z u v,A x y z u v->G):G:=h.elim λx h=>h.elim λy h=>h.elim λz h=>h.elim λu h=>h.elim λv h=>f x y z u v h
theorem e16{α:Sort _}{A B C D E F:α->Prop}{G:Prop}(h:∃x,A x/\B x/\C x/\D x/\E x/\F x)(f:∀x,A x->B x->C x->D x->E x->F x->G):G:=h.elim λx h=>f x h.1 h.2.1 h.2.2.1 h.2.2.2.1 h.2.2.2.2.1 h.2.2.2.2.2
theorem e25{α β:Sort _}{A B C D E:α->β->Prop}{G:Prop}(h:∃x y,A x y/\B x y/\C x y/\D x y/\E x y)(f:∀x y,A x y->B x y->C x y->D x y->E x y->G):G:=h.elim λx h=>h.elim λy h=>f x y h.1 h.2.1 h.2.2.1 h.2.2.2.1 h.2.2.2.2
theorem e43{α β γ δ:Sort _}{A B C:α->β->γ->δ->Prop}{G:Prop}(h:∃x y z u,A x y z u/\B x y z u/\C x y z u)(f:∀x y z u,A x y z u->B x y z u->C x y z u->G):G:=h.elim λx h=>h.elim λy h=>h.elim λz h=>h.elim λu h=>f x y z u h.1 h.2.1 h.2.2
theorem e17{α:Sort _}{A B C D E F H:α->Prop}{G:Prop}(h:∃x,A x/\B x/\C x/\D x/\E x/\F x/\H x)(f:∀x,A x->B x->C x->D x->E x->F x->H x->G):G:=h.elim λx h=>f x h.1 h.2.1 h.2.2.1 h.2.2.2.1 h.2.2.2.2.1 h.2.2.2.2.2.1 h.2.2.2.2.2.2
theorem e26{α β:Sort _}{A B C D E F:α->β->Prop}{G:Prop}(h:∃x y,A x y/\B x y/\C x y/\D x y/\E x y/\F x y)(f:∀x y,A x y->B x y->C x y->D x y->E x y->F x y->G):G:=h.elim λx h=>h.elim λy h=>f x y h.1 h.2.1 h.2.2.1 h.2.2.2.1 h.2.2.2.2.1 h.2.2.2.2.2
theorem e35{α β γ:Sort _}{A B C D E:α->β->γ->Prop}{G:Prop}(h:∃x y z,A x y z/\B x y z/\C x y z/\D x y z/\E x y z)(f:∀x y z,A x y z->B x y z->C x y z->D x y z->E x y z->G):G:=h.elim λx h=>h.elim λy h=>h.elim λz h=>f x y z h.1 h.2.1 h.2.2.1 h.2.2.2.1 h.2.2.2.2
theorem e44{α β γ δ:Sort _}{A B C D:α->β->γ->δ->Prop}{G:Prop}(h:∃x y z u,A x y z u/\B x y z u/\C x y z u/\D x y z u)(f:∀x y z u,A x y z u->B x y z u->C x y z u->D x y z u->G):G:=h.elim λx h=>h.elim λy h=>h.elim λz h=>h.elim λu h=>f x y z u h.1 h.2.1 h.2.2.1 h.2.2.2
theorem ft{G:Prop}(h:false=true):G:=Bool.noConfusion h
theorem tf{G:Prop}(h:true=false):G:=Bool.noConfusion h
theorem nn{α:Type _}{G:Prop}{x:α}(h:none=some x):G:=(Option.some_ne_none x h.symm).elim
theorem nn'{α:Type _}{G:Prop}{x:α}(h:some x=none):G:=(Option.some_ne_none x h).elim
theorem se{α:Sort _}{x y:α}(h:x=y):x=y:=h
theorem si{α:Type _}{x y:α}(h:some x=some y):y=x:=(Vl h).symm
@[elab_as_elim] theorem rwl{α:Sort _}{P:α->Prop}{a b:α}(e:a=b)(h:P b):P a:=e▸h
@[elab_as_elim] theorem rwr{α:Sort _}{P:α->Prop}{a b:α}(e:b=a)(h:P b):P a:=e▸h
section
open Lean
def Yu(l:List Syntax):Syntax:=.node .none `null l.toArray
def Yo(k:String)(l:List Syntax):Syntax:=.node .none ("Lean.Parser.T"++k).toName l.toArray
def Yt(k:String)(a:Syntax):Syntax:=Yo k [Yu [],a]
def Ye(f:String)(l:List Syntax):Syntax:=Yo "erm.app" [mkIdent (`Mine.Tactic++.mkSimple f),Yu l]
def Yp(a b:Syntax):Syntax:=Yt "actic.first" (Yu [Yu [a,a],Yu [b,b]])
def Yz:Syntax:=mkIdent `z9
def Yc(h:Syntax):Syntax:=Yt "actic.clear" (Yu [h])
def Yy(t:Syntax):Syntax:=Yu [Yt "actic.tacticRepeat_" (Yo "actic.tacticSeq" [Yo "actic.tacticSeq1Indented" [Yu [Yu [Yt "actic.renameI" (Yu [.node .none `Lean.binderIdent #[Yz]]),Yc Yz]]]]),t]
def Yx(t:Syntax)(f:String)(a:Syntax):Syntax:=Yp (Yt "actic.exact" (Ye f [t])) a
def Yw(t:Syntax)(f:String)(a:Syntax):Syntax:=Yp (Yy (Yu [Yo "actic.tacticHave__" [Yz,Yt "erm.letConfig" Yz,Yo "erm.letDecl" [Yo "erm.letIdDecl" [Yo "erm.letId" [Yz],Yu [],Yu [],Yz,Ye f [t]]]],Yc t,Yt "actic.subst" (Yu [Yz])])) a
def Yg(s:Syntax)(i:Nat):Syntax:=s.getArg i
def Yk(s:Syntax)(k:String):Bool:=s.getKind.toString.endsWith k
def Ys(s:Syntax)(i:Nat)(t:Syntax):Syntax:=s.setArg i t
def Yn(s:Syntax)(i:Nat):Nat:=(s.getArg i).getNumArgs
def Yv(s:Syntax):Bool:=
  let t:=Yg (Yg (Yg s 1) 0) 1
  !(Yk (Yg s 0) "ident")&&Yn s 1==1&&Yn s 2+Yn s 3+Yn (Yg (Yg s 1) 0) 0==0&&(Yk t "ident"||Yk t "app"&&Yk (Yg t 0) "ident")
def Yq(s:Syntax):Syntax:=
  let t:=Yg (Yg (Yg s 1) 0) 1
  let c:=Ys s 0 Yz
  if Yk t "ident" then Yx t "ft" (Yx t "nn" (Yx t "nn'" (Yx t "tf" (Yw t "si" (Yw t "se" c))))) else
  Yy c
def Yr(s:Syntax):Syntax:=
  let l:=Yg s 2
  let r:=Yg (Yg l 1) 0
  let e:=Yg r 1
  let w:=(Ys s 2 (Ys l 1 (Yu [r]))).setKind `Lean.Parser.Tactic.rewriteSeq
  Yu [if e.isIdent&&e.getId.isAtomic&&e.getId.toString.length>8||(e.find? (Yk · "syntheticHole")).isSome then w
    else Yp (Yt "actic.refine" (Ye (if Yn r 0 !=0 then"rwr" else"rwl") [e,Yo "erm.syntheticHole" [Yu [],Yu []]])) w,
   if Yn l 1>2 then Ys s 2 (Ys l 1 (Yu ((Yg l 1).getArgs.toList.drop 2))) else Yt "actic.tacticTry_" (Yt "actic.withReducible" (Yo "actic.tacticRfl" [Yz]))]
end
local macro_rules (kind := Lean.Parser.Tactic.cases)
  | s => if Yv s then pure (Yq s) else Lean.Macro.throwUnsupported
local macro_rules (kind := Lean.Parser.Tactic.rwSeq)
  | s => if Yn (Yg s 1) 0 + Yn s 3 == 0 then pure (Yr s) else Lean.Macro.throwUnsupported
noncomputable def qi:List Nat->Nat->Nat
 |[],a=>a
 |c::r,a=>match V3 c 256 with
  |true=>qi r (WN (Wv a 256) c)
  |false=>0
noncomputable def cd(s:Str):Nat:=qi s.cps.toList 1
inductive AI where
 |c (n:Int)
 |s (k:Nat) (lo hi:Int)
 |u (lo hi:Option Int)
 |st (l:List Int)
 |pb (d:Nat)
inductive V where
 |none
 |bool (b:Bool)
 |int (a:AI)
 |str (s:Nat)
 |strU (n:Nat)
 |bytes (l:List AI)
 |tup (l:List V)
 |wr (k:Nat)
 |ref (k:Nat)
 |fn (a:Nat)
 |cls (a:Nat)
 |bi (x:Nat)
 |tok (k:Nat)
inductive O where
 |ns (m:List (Nat×V))
 |cell (v:Option V)
 |list (l:List V)
 |inst (cls:Nat) (m:List (Nat×V))
 |dict (l:List (Nat×V))
 |barr (l:List AI)
 |lsU (lo hi:Nat)
 |exc (cls:Nat) (m:List (Nat×V)) (new:Bool)
 |dead
 |nsU
 |lam (x:Nat) (body:Expr) (sc:List (Nat×NameKind)) (cells:List (Nat×Nat))
noncomputable def cR{α:Type}(o:Option α)(K:α->Bool):Bool:=Option.rec false K o
noncomputable def gd(b k:Bool):Bool:=match b with
 |true=>k
 |false=>false
noncomputable def dj(a b:Bool):Bool:=match a with
 |true=>true
 |false=>b
noncomputable def dF:V->Option AI
 |.int a=>some a
 |_=>none
noncomputable def iv:V->Option Bool
 |.bool b=>some b
 |_=>none
noncomputable def fp:V->Option Nat
 |.str k=>some k
 |_=>none
noncomputable def dk:V->Option (List AI)
 |.bytes l=>some l
 |_=>none
noncomputable def ej:V->Option (List V)
 |.tup l=>some l
 |_=>none
noncomputable def fu:V->Option Nat
 |.ref k=>some k
 |_=>none
noncomputable def oL:O->Option (List V)
 |.list l=>some l
 |_=>none
noncomputable def oD:O->Option (List (Nat×V))
 |.dict l=>some l
 |_=>none
noncomputable def oB:O->Option (List AI)
 |.barr l=>some l
 |_=>none
noncomputable def oS:O->Option (Nat×Nat)
 |.list l=>some (l.length,l.length)
 |.lsU a b=>some (a,b)
 |_=>none
noncomputable def oN:O->Option (List (Nat×V))
 |.ns m=>some m
 |_=>none
noncomputable def oC:O->Option (Option V)
 |.cell v=>some v
 |_=>none
noncomputable def oI:O->Option (Nat×List (Nat×V))
 |.inst c m=>some (c,m)
 |_=>none
noncomputable def oX:O->Option (Nat×List (Nat×V))
 |.exc c m _=>some (c,m)
 |_=>none
noncomputable def oE:O->Option (Nat×List (Nat×V)×Bool)
 |.exc c m b=>some (c,m,b)
 |_=>none
noncomputable def oU:O->Option (Nat×Nat)
 |.lsU a b=>some (a,b)
 |_=>none
structure M1 where
 x:Nat
 body:Expr
 sc:List (Nat×NameKind)
 cells:List (Nat×Nat)
noncomputable def oF:O->Option M1
 |.lam x body sc cells=>some ⟨x,body,sc,cells⟩
 |_=>none
noncomputable def iW:V->Option Nat
 |.tok k=>some k
 |_=>none
noncomputable def dq{α β:Type}(o:Option α)(f:α->Option β):Option β:=Option.rec none f o
noncomputable def du{α β:Type}(o:Option α)(d:β)(f:α->β):β:=Option.rec d f o
noncomputable def d8(v:V):Bool:=match v with
 |.none=>true
 |_=>false
noncomputable def db{α:Type}(b:Bool)(x y:α):α:=Bool.rec y x b
noncomputable def gO{α:Type}(b:Bool)(o:Option α):Option α:=match b with
 |true=>o
 |false=>none
noncomputable def sG{α:Type}(a b:Option α):Option α:=Option.rec b some a
noncomputable def gj(o:Option O):Option (List V):=dq o oL
noncomputable def nA(o:Option O):Option (List (Nat×V)):=dq o oD
noncomputable def A4(o:Option O):Option (List AI):=dq o oB
noncomputable def H7(o:Option O):Option (Nat×Nat):=dq o oS
noncomputable def dU{α:Type}(l:List α):Bool:=match l with
 |[]=>true
 |_::_=>false
noncomputable def nB{α:Type}(l:List α):Option (α×List α):=match l with
 |[]=>none
 |x::r=>some (x,r)
noncomputable def gw{α:Type}(l:List α):Option α:=dq (nB l) λp=>gO (dU p.2) (some p.1)
noncomputable def dG{α:Type}(l:List α)(K:α->Bool):Bool:=List.rec true (λv Y ih=>gd (K v) ih) l
noncomputable def lD{α:Type}(f:α->Bool)(l:List α):Bool:=List.rec false (λx Y ih=>dj (f x) ih) l
noncomputable def fw{α β:Type}(F:α->β->Bool)(l:List α):List β->Bool:=List.rec dU (λx Y ih l=>cR (nB l) λp=>gd (F x p.1) (ih p.2)) l
noncomputable def xn{α:Type}(F:Nat->α->Bool)(l:List α):Nat->Bool:=List.rec (λY=>true) (λx Y ih i=>gd (F i x) (ih (VU i))) l
noncomputable def FG(l:List V)(k:Bool):Bool:=match l with
 |[]=>k
 |_::_=>false
noncomputable def iw(l:List V)(K:V->Bool):Bool:=match l with
 |[]=>false
 |v::r=>FG r (K v)
noncomputable def A5(l:List V)(K:V->V->Bool):Bool:=match l with
 |[]=>false
 |v::r=>iw r (K v)
inductive TR where
 |e
 |n (v:Option O) (l r:TR)
noncomputable def TR.get(t:TR):Nat->Option O:=
 TR.rec (motive:=λY=>Nat->Option O) (λY=>none) (λv Y Y il ir i=>Bool.rec (Bool.rec (ir (Xv (Ws i 2) 1)) (il (Ws i 2)) (Vn (WM i 2) 1)) v (Vn i 0)) t
noncomputable def TR.setE(o:O)(f:Nat):Nat->TR:=
 Nat.rec (motive:=λY=>Nat->TR) (λY=>.e) (λY ih i=>Bool.rec (Bool.rec (.n none .e (ih (Xv (Ws i 2) 1))) (.n none (ih (Ws i 2)) .e) (Vn (WM i 2) 1)) (.n (some o) .e .e) (Vn i 0)) f
noncomputable def TR.set(o:O)(f:Nat)(t:TR):Nat->TR:=
 TR.rec (motive:=λY=>Nat->TR) (TR.setE o f) (λv l r il ir i=>Bool.rec (Bool.rec (.n v l (ir (Xv (Ws i 2) 1))) (.n v (il (Ws i 2)) r) (Vn (WM i 2) 1)) (.n (some o) l r) (Vn i 0)) t
structure H where
 a:List (Nat×O)
 k:Nat
 t:TR
 length:Nat
noncomputable def pH(d:Option O)(i:Nat)(l:List (Nat×O)):Option O:=
 List.rec d (λp Y ih=>Prod.rec (λj o=>Bool.rec ih (some o) (Vn j i)) p) l
noncomputable def A6(t:TR)(l:List (Nat×O)):TR:=
 List.rec t (λp Y ih=>Prod.rec (λj o=>TR.set o (VU j) ih j) p) l
noncomputable def H.get(h:H)(i:Nat):Option O:=H.rec (λa Y t Y=>pH (t.get i) i a) h
noncomputable def km(i:Nat)(o:O)(a:List (Nat×O))(k:Nat)(t:TR)(n:Nat):H:=
 Bool.rec ⟨[(i,o)],1,A6 t a,n⟩ ⟨(i,o)::a,VU k,t,n⟩ (Vy k 12)
noncomputable def H.set(h:H)(i:Nat)(o:O):H:=H.rec (λa k t n=>
 List.rec (km i o a k t n) (λp r Y=>Prod.rec (λj Y=>Bool.rec (km i o a k t n) ⟨(i,o)::r,k,t,n⟩ (Vn j i)) p) a) h
noncomputable def H.push(h:H)(o:O):H:=H.rec (λa k t n=>km n o a k t (VU n)) h
noncomputable def H.nil:H:=⟨[],0,.e,0⟩
noncomputable def fF{α:Type}(l:List α):Nat->Option α:=
 List.rec (λY=>none) (λx Y ih i=>Nat.rec (some x) (λj Y=>ih j) i) l
noncomputable def A7{α:Type}:List α->Nat->α->List α
 |[],_,_=>[]
 |_::r,0,y=>y::r
 |x::r,n+1,y=>x::A7 r n y
noncomputable def eJ{α:Type}(l:List (Nat×α))(x:Nat):Option α:=
 List.rec none (λp Y ih=>Prod.rec (λk v=>Bool.rec ih (some v) (Vn k x)) p) l
noncomputable def nC{α:Type}(l:List (Nat×α))(x:Nat)(v:α):List (Nat×α):=
 List.rec [(x,v)] (λp r ih=>Prod.rec (λk Y=>Bool.rec (p::ih) ((k,v)::r) (Vn k x)) p) l
inductive BT(α:Type) where
 |nil
 |node (l:BT α) (k:Nat) (v:α) (r:BT α)
noncomputable def BT.get{α:Type}(t:BT α)(x:Nat):Option α:=
 BT.rec none (λY k v Y il ir=>Bool.rec (Bool.rec ir il (Vy (VU x) k)) (some v) (Vn x k)) t
noncomputable def mP(a b:Int):Int:=if a≤b then a else b
noncomputable def lE(a b:Int):Int:=if a≤b then b else a
noncomputable def uS:List Int->Option Int
 |[]=>none
 |x::r=>match uS r with|some y=>some (mP x y)|none=>some x
noncomputable def uU:List Int->Option Int
 |[]=>none
 |x::r=>match uU r with|some y=>some (lE x y)|none=>some x
noncomputable def AI.lo:AI->Option Int
 |.c n=>some n|.s _ l _=>some l|.u l _=>l|.st l=>uS l|.pb _=>some 0
noncomputable def AI.hi:AI->Option Int
 |.c n=>some n|.s _ _ h=>some h|.u _ h=>h|.st l=>uU l|.pb d=>some (1000000+(d:Int))
noncomputable def AI.cst:AI->Option Int
 |.c n=>some n|_=>none
noncomputable def A8(lo hi:Option Int):AI:=match lo with
 |none=>.u lo hi
 |some a=>(match hi with|none=>.u lo hi|some b=>if a=b then .c a else .u lo hi)
noncomputable def o1(f:Int->Int)(a:Option Int):Option Int:=match a with
 |some a=>some (f a)
 |none=>none
noncomputable def o2(f:Int->Int->Int)(a b:Option Int):Option Int:=match a with
 |some a=>(match b with|some b=>some (f a b)|none=>none)
 |none=>none
noncomputable def mQ(o:Option Int)(f:Int->Option AI):Option AI:=match o with
 |some x=>f x
 |none=>none
noncomputable def mw(b:Bool)(k:Option AI):Option AI:=match b with
 |true=>k
 |false=>none
noncomputable def AI.addG(a b:AI):AI:=A8 (o2 (· +·) a.lo b.lo) (o2 (· +·) a.hi b.hi)
noncomputable def AI.add(a b:AI):AI:=match a with
 |.pb d=>(match b with|.c n=>if n=1 then .pb (VU d) else AI.addG a b|_=>AI.addG a b)
 |_=>AI.addG a b
noncomputable def AI.sub(a b:AI):AI:=A8 (o2 (·- ·) a.lo b.hi) (o2 (·- ·) a.hi b.lo)
noncomputable def AI.neg(a:AI):AI:=A8 (o1 (- ·) a.hi) (o1 (- ·) a.lo)
noncomputable def AI.mulB(a b:AI):Option AI:=mQ a.lo λal=>mQ a.hi λah=>mQ b.lo λbl=>mQ b.hi λbh=>
 some (A8 (some (mP (mP (al * bl) (al * bh)) (mP (ah * bl) (ah * bh)))) (some (lE (lE (al * bl) (al * bh)) (lE (ah * bl) (ah * bh)))))
noncomputable def AI.mulP(a b:AI):Option AI:=mQ a.lo λal=>mQ b.lo λbl=>mw (decide (0≤al)) (mw (decide (0≤bl)) (some (.u (some 0) none)))
noncomputable def AI.mul(a b:AI):Option AI:=sG (a.mulB b) (a.mulP b)
noncomputable def AI.div(a b:AI):Option AI:=mQ b.cst λb=>mw (decide (0<b)) (some (A8 (o1 (·/ b) a.lo) (o1 (·/ b) a.hi)))
noncomputable def Sg(a:AI)(b:Int):Bool:=match a.lo with
 |some l=>(match a.hi with|some h=>decide (0≤l)&&decide (h<b)|none=>false)
 |none=>false
noncomputable def Jw(a:AI)(b:Int):AI:=match a.cst with
 |some x=>.c (x % b)
 |none=>(match Sg a b with|true=>A8 a.lo a.hi|false=>.u (some 0) (some (b - 1)))
noncomputable def AI.mod(a b:AI):Option AI:=mQ b.cst λb=>mw (decide (0<b)) (some (Jw a b))
noncomputable def AI.pow(a b:AI):Option AI:=mQ b.cst λb=>mQ a.lo λl=>mQ a.hi λh=>
 mw (decide (0≤b)) (mw (decide (b≤1000)) (mw (decide (2≤l)) (some (A8 (some (l ^ b.toNat)) (some (h ^ b.toNat))))))
noncomputable def AX(a b:Option Int):Bool:=match a with
 |some a=>(match b with|some b=>decide (a≤b)|none=>false)
 |none=>false
noncomputable def ltZ(a b:Option Int):Bool:=match a with
 |some a=>(match b with|some b=>decide (a<b)|none=>false)
 |none=>false
noncomputable def AI.abs(a:AI):AI:=match AX (some 0) a.lo with
 |true=>a
 |false=>(match AX a.hi (some 0) with
  |true=>A8 (o1 (- ·) a.hi) (o1 (- ·) a.lo)
  |false=>.u (some 0) (o2 lE (o1 (- ·) a.lo) a.hi))
noncomputable def MG(a b:AI):List Bool:=match ltZ a.hi b.lo with
 |true=>[true]
 |false=>(match AX b.hi a.lo with|true=>[false]|false=>[true,false])
noncomputable def uV(x:Int)(l:List Int):Bool:=lD (λy=>decide (x=y)) l
noncomputable def A9(a b:AI):Bool:=match a with
 |.s j _ _=>(match b with|.s k _ _=>Vn j k|_=>false)
 |_=>false
noncomputable def Jx(x:Int)(b:AI):List Bool:=match b with
 |.st l=>(match uV x l with|true=>[true,false]|false=>[false])
 |_=>[true,false]
noncomputable def M2(d:List Bool)(a b:AI):List Bool:=match A9 a b with
 |true=>[true]
 |false=>(match ltZ a.hi b.lo||ltZ b.hi a.lo with|true=>[false]|false=>d)
noncomputable def MH(a b:AI):List Bool:=match a.cst with
 |some x=>(match b.cst with|some y=>[decide (x=y)]|none=>M2 (Jx x b) a b)
 |none=>(match b.cst with|some y=>M2 (Jx y a) a b|none=>M2 [true,false] a b)
noncomputable def sH(l:List Bool)(K:Bool->Bool):Bool:=match l with
 |[]=>false
 |[b]=>K b
 |_=>K true&&K false
inductive gf where
 |nx
 |rt (v:V)
structure Fr where
 ks:List (Nat×NameKind)
 ns:Nat
 cells:List (Nat×Nat)
 lam:Bool
inductive It where
 |vals (l:List V)
 |lst (v:V) (i:Nat)
 |enum (v:V) (i:Nat)
 |zip (a b:V) (i:Nat)
structure gx where
 params:List Nat
 dfl:List V
 body:List Stmt
 ks:List (Nat×NameKind)
 lam:Bool
structure gh where
 init:Nat
 meths:List (Nat×Nat)
 exc:Bool
 mro:List Nat
 atts:List Nat
structure dW where
 ex:Option (Nat×List (Nat×V))
 objs:List O
 v:V
 ups:List (Nat×O)
noncomputable def sI:Nat:=388610526637668
noncomputable def sJ:Nat:=393042999996004
noncomputable def H8:Nat:=24145776
noncomputable def H9:Nat:=23553396
noncomputable def xo:Nat:=1595319019892
noncomputable def Bb:Nat:=6080653678
noncomputable def xp:Nat:=1552335267192
noncomputable def Ia:Nat:=23159411
noncomputable def Ib:Nat:=23881070
noncomputable def Ic:Nat:=23945592
noncomputable def Id:Nat:=23947630
noncomputable def xq:Nat:=1522456094067
noncomputable def xr:Nat:=1599698136165
noncomputable def Bc:Nat:=6113817460
noncomputable def qP:Nat:=1590772524901
noncomputable def jd:Nat:=6593447022513235260517
noncomputable def Bd:Nat:=24799600
noncomputable def Ie:Nat:=23686772
noncomputable def sK:Nat:=408397475505508
noncomputable def mx:Nat:=6538899133538275320185
noncomputable def j5:Nat:=6298296692
noncomputable def nD:Nat:=90484
noncomputable def ix:Nat:=1
structure i5 where
 G:BT V
 F:BT gx
 C:BT gh
 W:BT O
 quiet:Bool
 toks:Nat->List V
 P:Nat->List V->H->Option (List dW)
 words:Nat->Option (List Nat) -- split at blanks of a text of the table
 lzy:Nat->Nat->Bool -- calls whose arguments are not told apart first
 egr:Nat->Bool -- classes that are told apart when read out of a tuple
structure Ev where
 ev:Fr->Expr->H->(V->H->Bool)->(Nat->H->Bool)->Bool
 tr:Fr->Expr->H->(Bool->H->Bool)->(Nat->H->Bool)->Bool
 cl:V->List V->H->(V->H->Bool)->(Nat->H->Bool)->Bool
 asg:Fr->Expr->V->H->(H->Bool)->(Nat->H->Bool)->Bool
 ex:Fr->List Stmt->H->(gf->H->Bool)->(Nat->H->Bool)->Bool
 wh:Fr->Expr->List Stmt->H->(gf->H->Bool)->(Nat->H->Bool)->Bool
 fo:Fr->Expr->It->List Stmt->H->(gf->H->Bool)->(Nat->H->Bool)->Bool
 co:Fr->Expr->Expr->List Expr->It->Nat->H->(H->Bool)->(Nat->H->Bool)->Bool
section
variable(C:i5)
noncomputable def dY(v:V)(h:H):Option O:=match v with
 |.wr k=>C.W.get k
 |.ref k=>h.get k
 |_=>none
noncomputable def items(v:V)(h:H):Option (List V):=sG (ej v) (sG (dq (dk v) λl=>some (l.map V.int)) (gj (dY C v h)))
noncomputable def UA(p:Nat×Nat)(K:Bool->Bool):Bool:=dj (gd (Vy 1 p.1) (K true)) (gd (Vn p.2 0) (K false))
noncomputable def lF(v:V)(h:H)(K:Bool->Bool):Bool:=dj (cR (iv v) K) (dj (cR (H7 (dY C v h)) λp=>UA p K) (gd (d8 v) (K false)))
noncomputable def qQ(l:List V):Option (List AI):=List.rec (some []) (λv Y ih=>dq (dF v) λa=>dq ih λl=>some (a::l)) l
noncomputable def uW(a:AI):Bool:=cR a.lo λl=>cR a.hi λh=>gd (decide (0≤l)) (decide (h≤255))
noncomputable def y8:List Bool->Bool
 |[]=>false
 |true::_=>true
 |false::r=>y8 r
noncomputable def uX:List Bool->Bool
 |[]=>false
 |false::_=>true
 |true::r=>uX r
noncomputable def Jy(l:List Bool):List Bool:=match y8 l with
 |true=>(match uX l with|true=>[true,false]|false=>[true])
 |false=>(match uX l with|true=>[false]|false=>[])
noncomputable def Jz(f:Bool->Bool->Bool)(a b:List Bool):List Bool:=Jy (a.flatMap λx=>b.map (f x))
noncomputable def JA(a:List Bool)(k:Unit->List Bool):List Bool:=match y8 a with
 |false=>a
 |true=>(match uX a with|false=>k ()|true=>Jz and a (k ()))
noncomputable def JB:List AI->List AI->List Bool
 |[],[]=>[true]
 |a::r,b::r'=>JA (MH a b) λY=>JB r r'
 |[],_::_=>[false]
 |_::_,[]=>[false]
noncomputable def JC(x y:List AI):List Bool:=match Vn x.length y.length with
 |true=>JB x y
 |false=>[false]
noncomputable def Sh(a b:V)(K:Bool->Bool):Bool:=
 dj (cR (fp b) λy=>dj (cR (fp a) λx=>K (Vn x y)) (dj (cR (dk a) λY=>K false) (cR (ej a) λY=>K false)))
 (dj (cR (dF a) λx=>cR (dF b) λy=>sH (MH x y) K)
 (dj (cR (dk a) λx=>cR (dk b) λy=>sH (JC x y) K)
 (cR (iv b) λy=>dj (cR (iv a) λx=>K (x==y)) (gd (d8 a) (K false)))))
noncomputable def JD(l:List V):List V->(Bool->Bool)->Bool:=List.rec (λl' K=>K (dU l')) (λa Y ih l' K=>du (nB l') (K false) λp=>Sh a p.1 λx=>ih p.2 λy=>K (x&&y)) l
noncomputable def JE(a b:V):Option (List V×List V):=dq (ej a) λx=>dq (ej b) λy=>some (x,y)
noncomputable def TU(a b:V)(K:Bool->Bool):Bool:=du (JE a b) (Sh a b K) λp=>JD p.1 p.2 K
noncomputable def RK(x:Nat×Nat)(K:Bool->Bool):Bool:=match Vy 1 x.1 with
 |true=>K false
 |false=>(match Vn x.2 0 with|true=>K true|false=>K true&&K false)
noncomputable def TV(x y:Nat×Nat)(K:Bool->Bool):Bool:=dj (gd (Vn y.2 0) (RK x K)) (gd (Vn x.2 0) (RK y K))
noncomputable def qS(v:V):Option Nat:=match v with
 |.strU n=>some n
 |_=>none
noncomputable def Si(a b:V)(h:H)(K:Bool->Bool):Bool:=dj (TU a b K) (dj (cR (H7 (dY C a h)) λx=>cR (H7 (dY C b h)) λy=>TV x y K) (cR (qS a) λY=>cR (fp b) λk=>gd (Vn k ix) (K false)))
noncomputable def jQ(k:Nat):List (Nat×V)->Bool
 |[]=>false
 |(x,_)::r=>match Vn x k with|true=>true|false=>jQ k r
noncomputable def Sj(k:Nat)(l:List V):Option Bool:=List.rec (some false) (λb Y ih=>dq (fp b) λj=>dq ih λy=>some (dj (Vn j k) y)) l
noncomputable def TW(a b:List Bool):List Bool:=Jz or a b
noncomputable def Sk(a:AI)(l:List AI):List Bool:=List.rec [false] (λx Y ih=>TW (MH x a) ih) l
noncomputable def JF(l:List Bool):Option Bool:=match l with
 |[]=>none
 |b::r=>(match r with|[]=>some b|_::_=>none)
noncomputable def uY(b:Bool)(l:List AI)(ns:List Int):Bool:=List.rec true (λx Y ih=>cR (JF (Sk (.c x) l)) λc=>gd (b==c) ih) ns
noncomputable def qj:AI->Option (List Int)
 |.st l=>some l
 |_=>none
noncomputable def M3(a:AI)(bs:List AI)(K:Bool->Bool):Bool:=dj (cR (qj a) λns=>dj (gd (uY true bs ns) (K true)) (gd (uY false bs ns) (K false))) (sH (Sk a bs) K)
noncomputable def Sl(a b:V)(h:H)(K:Bool->Bool):Bool:=
 dj (cR (fp a) λk=>dj (cR (ej b) λl=>cR (Sj k l) K) (dj (cR (nA (dY C b h)) λl=>K (jQ k l)) (cR (gj (dY C b h)) λl=>cR (Sj k l) K)))
 (cR (dF a) λx=>cR (dk b) λbs=>gd (uW x) (M3 x bs K))
noncomputable def xt(v:V):Bool:=match v with
 |.none=>false
 |.tok _=>false
 |.bi _=>false
 |_=>true
noncomputable def Sm(a b:V)(K:Bool->Bool):Bool:=gd (d8 b) (dj (gd (d8 a) (K true)) (gd (xt a) (K false)))
noncomputable def Be(a b:V)(f:AI->AI->Bool):Bool:=cR (dF a) λx=>cR (dF b) λy=>f x y
noncomputable def FH(op:CmpOp)(a b:V)(h:H)(K:Bool->Bool):Bool:=match op with
 |.Eq=>Si C a b h K
 |.NotEq=>Si C a b h λk=>K (!k)
 |.Is=>Sm a b K
 |.IsNot=>Sm a b λk=>K (!k)
 |.In=>Sl C a b h K
 |.NotIn=>Sl C a b h λk=>K (!k)
 |.Lt=>Be a b λx y=>sH (MG x y) K
 |.Gt=>Be a b λx y=>sH (MG y x) K
 |.GtE=>Be a b λx y=>sH (MG x y) λk=>K (!k)
 |.LtE=>Be a b λx y=>sH (MG y x) λk=>K (!k)
noncomputable def Sn{α:Type}(l:List α):Nat->List α
 |0=>[]
 |n+1=>l++Sn l n
noncomputable def uZ:V->Option Nat
 |.str _=>some 1000|.strU n=>some n|_=>none
noncomputable def ko:V->Bool
 |.str k=>!(Vn k ix)|.strU _=>true|_=>false
noncomputable def M4(a b:V)(h:H)(K:V->H->Bool):Bool:=cR (uZ a) λm=>cR (uZ b) λn=>
 gd (Vy (m+n) 100000) (gd (dj (ko a) (ko b)) (K (.strU (m+n)) h))
noncomputable def So:Int:=9223372036854775808
noncomputable def nE(a:AI):Bool:=cR a.lo λl=>cR a.hi λh=>gd (decide (-So<l)) (decide (h<So))
noncomputable def Bf(op:Operator)(x y:AI)(h:H)(K:V->H->Bool):Bool:=match op with
 |.Add=>K (.int (x.add y)) h
 |.Sub=>K (.int (x.sub y)) h
 |.Mult=>gd (dj (nE x) (nE y)) (cR (x.mul y) λz=>K (.int z) h)
 |.FloorDiv=>gd (nE y) (cR (x.div y) λz=>K (.int z) h)
 |.Mod=>cR (x.mod y) λz=>K (.int z) h
 |.Pow=>gd (nE x) (cR (x.pow y) λz=>K (.int z) h)
 |_=>false
noncomputable def Ig(op:Operator):Bool:=match op with
 |.Add=>true
 |_=>false
noncomputable def Ih(op:Operator):Bool:=match op with
 |.Mult=>true
 |_=>false
noncomputable def Ii(x y:List AI)(h:H)(K:V->H->Bool):Bool:=gd (Vy (x.length+y.length) 10000) (K (.bytes (x++y)) h)
noncomputable def Ij(x y:List V)(h:H)(K:V->H->Bool):Bool:=gd (Vy (x.length+y.length) 10000) (K (.tup (x++y)) h)
noncomputable def Ik(x:List AI)(i:AI)(h:H)(K:V->H->Bool):Bool:=cR i.cst λn=>
 gd (Vy (Wv x.length n.toNat) 10000) (gd (Vy 1 x.length) (gd (Vy x.length 16) (gd (Vy n.natAbs 1000000) (K (.bytes (Sn x n.toNat)) h))))
noncomputable def FI(o p:Option O)(K:O->Bool):Bool:=dj (cR (gj o) λx=>cR (gj p) λy=>gd (Vy (x.length+y.length) 10000) (K (.list (x++y))))
 (cR (H7 o) λx=>cR (H7 p) λy=>gd (Vy (x.2+y.2) 10000) (K (.lsU (x.1+y.1) (x.2+y.2))))
noncomputable def M5(a b:V)(h:H)(K:V->H->Bool):Bool:=FI (dY C a h) (dY C b h) λo=>K (.ref h.length) (h.push o)
noncomputable def Il(op:Operator)(a b:V)(h:H)(K:V->H->Bool):Bool:=
 dj (cR (dF a) λx=>cR (dF b) λy=>Bf op x y h K)
 (dj (gd (Ig op) (dj (cR (dk a) λx=>cR (dk b) λy=>Ii x y h K)
  (dj (cR (ej a) λx=>cR (ej b) λy=>Ij x y h K)
  (dj (M4 a b h K) (M5 C a b h K)))))
 (gd (Ih op) (cR (dk a) λx=>cR (dF b) λi=>Ik x i h K)))
noncomputable def Im(op:UnaryOp):Bool:=match op with
 |.USub=>true
 |_=>false
noncomputable def Io(op:UnaryOp):Bool:=match op with
 |.Not=>true
 |_=>false
noncomputable def JG(op:UnaryOp)(a:V)(h:H)(K:V->H->Bool):Bool:=
 dj (gd (Im op) (cR (dF a) λx=>K (.int x.neg) h)) (gd (Io op) (lF C a h λb=>K (.bool (!b)) h))
noncomputable def JH(n:Nat)(i:Int):Option Nat:=seqIndex? i n
noncomputable def fx:AI->Option Int
 |.c n=>some n
 |_=>none
noncomputable def nF:AI->Option (Nat×Int×Int)
 |.s k l u=>some (k,l,u)
 |_=>none
noncomputable def RL:AI->Option (Option Int×Option Int)
 |.u l u=>some (l,u)
 |_=>none
noncomputable def Bg:AI->Option Nat
 |.pb d=>some d
 |_=>none
noncomputable def fJ{α β:Type}[DecidableEq β](w:α->Option β)(a b:α):Bool:=cR (w a) λx=>cR (w b) λy=>decide (x=y)
noncomputable def nG(a b:AI):Bool:=dj (fJ fx a b) (dj (fJ nF a b) (dj (fJ RL a b) (dj (fJ qj a b) (fJ Bg a b))))
noncomputable def g8(a b:V):Bool:=dj (cR (dF a) λx=>cR (dF b) λy=>nG x y) (dj (gd (d8 a) (d8 b)) (dj (fJ iv a b) (fJ fp a b)))
noncomputable def nH(l:List V):List V:=List.rec [] (λv r ih=>db (cR (nB r) λp=>g8 v p.1) ih (v::ih)) l
noncomputable def Bh(lo:Int)(n:Nat):List Int:=Nat.rec (λY=>[]) (λY ih lo=>lo::ih (lo+1)) n lo
noncomputable def qT(l:List V)(is:List Int):Option (List V):=List.rec (some []) (λi Y ih=>dq (JH l.length i) λj=>dq (fF l j) λv=>dq ih λvs=>some (v::vs)) is
noncomputable def Bj(as:List AI):Option (List Int):=List.rec (some []) (λa Y ih=>dq (fx a) λn=>dq ih λl=>some (n::l)) as
noncomputable def Bk(i:AI):Option (List Int):=sG (dq i.cst λn=>some [n]) (dq i.lo λa=>dq i.hi λb=>gO (decide (b - a<20)) (some (Bh a (b - a+1).toNat)))
noncomputable def JJ(l:List V)(i:AI)(K:V->Bool):Bool:=gd (Vy l.length 10000) (cR (Bk i) λis=>cR (qT l is) λvs=>dG (nH vs) K)
noncomputable def M6(l:List Int):Bool:=List.rec true (λx Y ih=>gd (decide (0≤x)) ih) l
noncomputable def Iq(as:List AI):Option AI:=dq (nB as) λp=>sG (gO (dU p.2) (some p.1)) (dq (Bj as) λns=>some (.st ns))
noncomputable def M7(l:List AI)(i:AI)(K:V->Bool):Bool:=
 cR (Bk i) λis=>gd (M6 is) (cR (qT (l.map V.int) is) λvs=>cR (qQ vs) λas=>cR (Iq as) λa=>K (.int a))
noncomputable def Ir(o i:V)(h:H)(K:V->Bool):Bool:=
 dj (cR (dF i) λa=>dj (cR (ej o) λl=>JJ l a K) (dj (cR (dk o) λl=>gd (Vy l.length 10000) (M7 l a K)) (cR (gj (dY C o h)) λl=>JJ l a K)))
  (cR (fp i) λk=>cR (nA (dY C o h)) λl=>cR (eJ l k) K)
noncomputable def Bl(F:V->Option (List V))(l:List V):Option (List V):=List.rec (some []) (λv Y ih=>dq (F v) λx=>dq ih λy=>some (x++y)) l
noncomputable def xu(T:Nat->List V)(n f:Nat):V->Option (List V):=Nat.rec (λY=>none) (λY ih v=>
 sG (dq (ej v) λl=>gO (Vy l.length 10000) (dq (fF l n) λx=>some [x])) (dq (iW v) λk=>Bl ih (T k))) f
noncomputable def MI(K:V->Bool)(f:Nat):V->Bool:=Nat.rec K (λY ih v=>du (dq (iW v) λk=>gO (C.egr k) (some k)) (K v) λk=>dG (C.toks k) ih) f
noncomputable def JK(o i:V)(h:H)(K:V->Bool):Bool:=
 dj (cR (iW o) λY=>cR (dF i) λa=>cR a.cst λn=>gd (decide (0≤n)) (cR (xu C.toks n.toNat 5 o) λvs=>dG (nH vs) (MI C K 3))) (Ir C o i h (MI C K 3))
noncomputable def sL(n d:Nat)(v:V):Option Nat:=sG (gO (d8 v) (some d)) (dq (dq (dF v) fx) λi=>some (clipAt n i))
noncomputable def M8{α:Type}(l:List α)(a b:Nat):List α:=(l.drop a).take (b - a)
noncomputable def qU{α:Type}(l:List α)(lo hi st:V):Option (List α):=gO (d8 st) (dq (sL l.length 0 lo) λa=>dq (sL l.length l.length hi) λb=>some (M8 l a b))
noncomputable def FJ{α:Type}(l:List α)(lo hi st:V):Option (List α):=sG (qU l lo hi st) (gO (d8 lo) (gO (d8 hi) (dq (dq (dF st) fx) λn=>gO (decide (n= -1)) (some l.reverse))))
noncomputable def Iu(o lo hi st:V)(h:H)(K:V->H->Bool):Bool:=dj (cR (dk o) λl=>gd (Vy l.length 10000) (cR (qU l lo hi st) λx=>K (.bytes x) h))
 (dj (cR (gj (dY C o h)) λl=>cR (FJ l lo hi st) λx=>K (.ref h.length) (h.push (.list x))) (cR (A4 (dY C o h)) λl=>cR (qU l lo hi st) λx=>K (.ref h.length) (h.push (.barr x))))
noncomputable def fK(fr:Fr)(x:Nat):Option NameKind:=match Vn x 0 with|true=>none|false=>eJ fr.ks x
noncomputable def Bm(fr:Fr)(x:Nat)(h:H)(K:V->Bool):Bool:=cR (eJ fr.cells x) λc=>cR (dq (h.get c) oC) λo=>cR o K
noncomputable def sM(fr:Fr)(x:Nat)(h:H)(K:V->Bool):Bool:=cR (fK fr x) λk=>match k with
 |.local=>cR (dq (h.get fr.ns) oN) λm=>cR (eJ m x) K
 |.cell=>Bm fr x h K
 |.free=>Bm fr x h K
 |.globalImplicit=>cR (C.G.get x) K
 |_=>false
noncomputable def gy(fr:Fr)(x:Nat)(v:V)(h:H)(K:H->Bool):Bool:=cR (fK fr x) λk=>match k with
 |.local=>cR (dq (h.get fr.ns) oN) λm=>K (h.set fr.ns (.ns (nC m x v)))
 |.cell=>cR (eJ fr.cells x) λc=>cR (dq (h.get c) oC) λY=>K (h.set c (.cell (some v)))
 |_=>false
noncomputable def mR(v:V)(h:H):Option It:=sG (dq (ej v) λl=>some (.vals l)) (sG (dq (dk v) λl=>some (.vals (l.map V.int)))
 (sG (dq (gj (dY C v h)) λY=>some (.lst v 0)) (dq (nA (dY C v h)) λd=>gO (dU d) (some (.vals [])))))
inductive Nx where
 |stop
 |more (v:V) (it:It)
noncomputable def next(it:It)(h:H):Option Nx:=match it with
 |.vals l=>some (du (nB l) .stop λp=>.more p.1 (.vals p.2))
 |.lst v i=>dq (gj (dY C v h)) λl=>some (du (fF l i) .stop λx=>.more x (.lst v (VU i)))
 |.enum v i=>dq (items C v h) λl=>some (du (fF l i) .stop λx=>.more (.tup [.int (.c i),x]) (.enum v (VU i)))
 |.zip a b i=>dq (items C a h) λl=>dq (items C b h) λl'=>some (du (fF l i) .stop λx=>du (fF l' i) .stop λy=>.more (.tup [x,y]) (.zip a b (VU i)))
noncomputable def Bn(n:Int):Option (List V):=gO (decide (-100000<n)) (gO (decide (n<100000)) (some ((Bh 0 n.toNat).map λi=>.int (.c i))))
noncomputable def JL(a b:AI):Option AI:=match ltZ b.hi a.lo with
 |true=>some a
 |false=>(match AX a.hi b.lo with|true=>some b|false=>some (A8 (o2 lE a.lo b.lo) (o2 lE a.hi b.hi)))
noncomputable def JM(a b:AI):Option AI:=match ltZ a.hi b.lo with
 |true=>some a
 |false=>(match AX b.hi a.lo with|true=>some b|false=>some (A8 (o2 mP a.lo b.lo) (o2 mP a.hi b.hi)))
noncomputable def kn(n:Nat)(h:H)(K:V->H->Bool):Bool:=gd (Vy n 10000) (K (.int (.c n)) h)
noncomputable def kq(l:List AI):Bool:=match l with
 |[]=>true
 |a::r=>uW a&&kq r
noncomputable def iy(b:Bool):Bool:=match C.quiet with
 |true=>false
 |false=>b
abbrev BF:Type:=List V->H->(V->H->Bool)->Bool
noncomputable def M9:BF:=λargs h K=>iw args λv=>cR (dF v) λa=>K (.int a.abs) h
noncomputable def Na:BF:=λargs h K=>iw args λv=>dj (cR (ej v) λl=>kn l.length h K) (dj (cR (dk v) λl=>kn l.length h K)
 (dj (cR (gj (dY C v h)) λl=>kn l.length h K) (dj (cR (A4 (dY C v h)) λl=>kn l.length h K) (cR (nA (dY C v h)) λl=>kn l.length h K))))
noncomputable def Nb:BF:=λargs h K=>A5 args λv w=>cR (dF v) λa=>cR (dF w) λb=>iy C (cR (JL a b) λm=>K (.int m) h)
noncomputable def Nc:BF:=λargs h K=>A5 args λv w=>cR (dF v) λa=>cR (dF w) λb=>iy C (cR (JM a b) λm=>K (.int m) h)
noncomputable def TX(b:Bool):Int:=if b then 1 else 0
noncomputable def Nd:BF:=λargs h K=>iw args λv=>dj (cR (dF v) λa=>K (.int a) h) (cR (iv v) λb=>K (.int (.c (TX b))) h)
noncomputable def Bo:BF:=λargs h K=>iw args λv=>dj (cR (dk v) λl=>K (.bytes l) h) (dj (cR (A4 (dY C v h)) λl=>K (.bytes l) h)
 (cR (gj (dY C v h)) λl=>iy C (cR (qQ l) λas=>gd (kq as) (K (.bytes as) h))))
noncomputable def Iv:BF:=λargs h K=>iw args λv=>cR (dk v) λl=>gd (Vy l.length 10000) (K (.ref h.length) (h.push (.barr l)))
noncomputable def Bp:BF:=λargs h K=>iw args λv=>dj (cR (ej v) λl=>K (.tup l) h) (cR (gj (dY C v h)) λl=>K (.tup l) h)
noncomputable def Iw:BF:=λargs h K=>iw args λv=>cR (gj (dY C v h)) λl=>K (.ref h.length) (h.push (.list l))
noncomputable def iz:List Nat->List V
 |[]=>[]
 |k::r=>.str k::iz r
noncomputable def xv:BF:=λargs h K=>iw args λv=>cR (nA (dY C v h)) λd=>gd (Vy d.length 1) (iy C (K (.ref h.length) (h.push (.list (iz (d.map (·.1)))))))
noncomputable def Nf:List (Nat×BF):=[(Ib,Na C),(xq,Bo C),(Ia,M9),(Ic,Nb C),(Id,Nc C),(Ie,Nd),(mx,Iv),(xr,Bp C),(Bc,Iw C),(sK,xv C)]
noncomputable def Bq(x:Nat)(l:List (Nat×BF)):Option BF:=List.rec none (λp Y ih=>Bool.rec ih (some p.2) (Vn p.1 x)) l
noncomputable def builtin(x:Nat)(args:List V)(h:H)(K:V->H->Bool):Bool:=cR (Bq x (Nf C)) λf=>f args h K
noncomputable def Br:List V->Option (List AI)
 |[]=>some []
 |v::r=>dq (dk v) λl=>dq (Br r) λx=>some (l++x)
noncomputable def sN(bs:List AI)(n:Int):Nat->Option Nat:=List.rec (λY=>none) (λb Y ih i=>dq (JF (MH (.c n) b)) λc=>Bool.rec (ih (VU i)) (some i) c) bs
noncomputable def JN(bs:List AI):List Int->Option (List Int)
 |[]=>some []
 |n::r=>dq (sN bs n 0) λi=>dq (JN bs r) λl=>some ((i:Int)::l)
noncomputable def Ng(l:List V)(K:V->List V->Bool):Bool:=match l with
 |[]=>false
 |v::r=>K v r
noncomputable def Nh(args:List V)(K:Nat->V->Bool):Bool:=match args with
 |[]=>false
 |k::r=>cR (fp k) λk=>(match r with|[]=>K k .none|d::r=>FG r (K k d))
noncomputable def Ix(v:V):BF:=λargs h K=>cR (dk v) λl=>gd (Vn l.length 0) (iw args λw=>cR (gj (dY C w h)) λxs=>cR (Br xs) λb=>gd (Vy b.length 10000) (K (.bytes b) h))
noncomputable def Bs(v:V):BF:=λargs h K=>cR (dk v) λl=>iw args λw=>cR (dF w) λa=>dj (cR (qj a) λns=>cR (JN l ns) λis=>K (.int (.st is)) h) (cR a.cst λn=>cR (sN l n 0) λi=>K (.int (.c i)) h)
noncomputable def Bt(v:V):BF:=λargs h K=>cR (fp v) λk=>iw args λw=>cR (fp w) λb=>gd (Vn b 288) (cR (C.words k) λws=>K (.ref h.length) (h.push (.list (iz ws))))
noncomputable def xx(v:V):BF:=λargs h K=>iw args λw=>cR (fu v) λk=>dj (cR (gj (h.get k)) λl=>gd (Vy l.length 9999) (K .none (h.set k (.list (l++[w])))))
 (cR (H7 (h.get k)) λp=>gd (Vy p.2 9999) (K .none (h.set k (.lsU (p.1+1) (p.2+1)))))
noncomputable def xy(v:V):BF:=λargs h K=>iw args λw=>cR (fu v) λk=>FI (h.get k) (dY C w h) λq=>K .none (h.set k q)
noncomputable def Ni(v:V):BF:=λargs h K=>FG args (cR (fu v) λk=>cR (gj (h.get k)) λl=>Ng l.reverse λx r=>K x (h.set k (.list r.reverse)))
noncomputable def Nj(v:V):BF:=λargs h K=>cR (nA (dY C v h)) λl=>Nh args λk d=>K ((eJ l k).getD d) h
structure MT where
 x:Nat
 t:V->H->Bool
 f:V->BF
noncomputable def u0(v:V)(_:H):Bool:=(dk v).isSome
noncomputable def Nk(v:V)(_:H):Bool:=(fp v).isSome
noncomputable def xz(v:V)(h:H):Bool:=(H7 (dY C v h)).isSome
noncomputable def Iy(v:V)(h:H):Bool:=(nA (dY C v h)).isSome
noncomputable def FK:List MT:=[⟨sI,xz C,xx⟩,⟨sJ,xz C,xy C⟩,⟨H8,xz C,Ni⟩,⟨H9,Iy C,Nj C⟩,⟨Bb,u0,Ix C⟩,⟨xp,u0,Bs⟩,⟨xo,Nk,Bt C⟩]
noncomputable def sO(v:V)(m:Nat)(h:H)(l:List MT):Option (V->BF):=List.rec none (λe Y ih=>Bool.rec ih (some e.f) (gd (Vn e.x m) (e.t v h))) l
noncomputable def nI(x:Nat)(l:List Nat):Bool:=List.rec false (λy Y ih=>dj (Vn x y) ih) l
noncomputable def y9(x:Nat)(l:List Nat):Bool:=gd (!(Vn x 0)) (nI x l)
noncomputable def qk(b:Bool)(c x:Nat)(m:List (Nat×V)):Option V:=dq (C.C.get c) λci=>gO (y9 x ci.atts) (gO (ci.exc==b) (gO (dj (!b) (Vn ci.init 0)) (eJ m x)))
noncomputable def JO(v:V)(x:Nat)(h:H)(K:V->Bool):Bool:=dj (cR (dq (dY C v h) oI) λp=>cR (qk C false p.1 x p.2) K) (cR (dq (dY C v h) oX) λp=>cR (qk C true p.1 x p.2) K)
noncomputable def JQ(c x:Nat):Option Nat:=dq (C.C.get c) λci=>gO (!ci.exc) (gO (!(Vn x 0)) (eJ ci.meths x))
noncomputable def JR(v:V)(x:Nat)(h:H):Option Nat:=dq (dq (dY C v h) oI) λp=>gO (eJ p.2 x).isNone (JQ C p.1 x)
noncomputable def gk(k:NameKind):Bool:=match k with
 |.cell=>true
 |_=>false
noncomputable def lG(ks:List (Nat×NameKind))(h:H)(cs:List (Nat×Nat)):H×List (Nat×Nat):=List.rec (λh cs=>(h,cs)) (λp Y ih h cs=>db (gk p.2) (ih (h.push (.cell none)) ((p.1,h.length)::cs)) (ih h cs)) ks h cs
noncomputable def eA(b:Bool)(ks:List (Nat×NameKind))(free:List (Nat×Nat))(h:H):Fr×H:=Prod.rec (λh' cs=>(⟨ks,h.length,cs,b⟩,h')) (lG ks (h.push (.ns [])) free)
noncomputable def iA(k:NameKind):Bool:=match k with
 |.free=>true
 |_=>false
noncomputable def gl(k:NameKind):Bool:=match k with
 |.local=>true
 |_=>false
noncomputable def je(p:NameKind->Bool)(o:Option NameKind):Bool:=du o false p
noncomputable def zA(fr:Fr)(l:List (Nat×NameKind)):List (Nat×NameKind):=List.rec [] (λp Y ih=>(p.1,db (iA p.2) (db (je gk (fK fr p.1)) .cell .free) p.2)::ih) l
noncomputable def kr(fr:Fr)(x:Nat):Bool:=gd (dj (je gk (fK fr x)) (je iA (fK fr x))) (eJ fr.cells x).isSome
noncomputable def j6(fr:Fr)(l:List (Nat×NameKind)):Bool:=List.rec true (λp Y ih=>gd (db (iA p.2) (kr fr p.1) true) ih) l
noncomputable def Bu(sc:List (Nat×NameKind))(l:List (Nat×NameKind)):Bool:=List.rec true (λp Y ih=>gd (db (gl p.2) (gd (!(Vn p.1 0)) (je gl (eJ sc p.1))) true) ih) l
noncomputable def Bv(fr:Fr)(sc:List (Nat×NameKind))(h:H):Fr×H:=Prod.rec (λfr' h'=>(⟨zA fr sc,fr'.ns,fr'.cells,false⟩,h')) (eA false sc fr.cells h)
noncomputable def d9(fr:Fr)(h:H)(K:H->Bool)(xs:List Nat)(vs:List V):Bool:=List.rec (λh vs=>gd (dU vs) (K h)) (λx Y ih h vs=>cR (nB vs) λp=>gy fr x p.1 h λh'=>ih h' p.2) xs h vs
noncomputable def fy(ps:List Nat)(dfl args:List V):Option (List V):=
 match Vy args.length ps.length,Vy ps.length (args.length+dfl.length) with
 |true,true=>some (args++dfl.drop (args.length+dfl.length - ps.length))
 |_,_=>none
noncomputable def kt(K:V->H->Bool):gf->H->Bool
 |.rt v,h=>K v h
 |.nx,h=>K .none h
noncomputable def g9(e:Expr):Option Str:=match e with
 |.Name x _=>some x
 |_=>none
noncomputable def my(e:Expr):Option (List Expr):=match e with
 |.Tuple es _ _=>some es
 |_=>none
noncomputable def Bw:V->Option Nat
 |.cls c=>some c
 |_=>none
noncomputable def FM:NameKind->Bool
 |.globalImplicit=>true
 |_=>false
noncomputable def Iz:NameKind->Bool
 |.local=>true
 |_=>false
noncomputable def xA:ExceptHandler->Option (Expr×Option Str×List Stmt)
 |.ExceptHandler ty nm hb _=>dq ty λt=>some (t,nm,hb)
noncomputable def Bx(d c:Nat):Option Bool:=dq (C.C.get d) λci=>dq (C.C.get c) λcj=>gO ci.exc (gO (Vn ci.init 0) (gO cj.exc (some (nI c ci.mro))))
noncomputable def nJ(d:Nat)(l:List Nat):Option Bool:=List.rec (some false) (λc Y ih=>dq (Bx C d c) λa=>dq ih λb=>some (a||b)) l
noncomputable def nc(fr:Fr)(e:Expr):Option Nat:=dq (g9 e) λx=>dq (fK fr (cd x)) λk=>gO (FM k) (dq (C.G.get (cd x)) Bw)
noncomputable def nK(fr:Fr)(es:List Expr):Option (List Nat):=List.rec (some []) (λe Y ih=>dq (nc C fr e) λc=>dq ih λl=>some (c::l)) es
noncomputable def By(fr:Fr)(e:Expr):Option (List Nat):=sG (dq (my e) λes=>gO (Vy es.length 100) (nK C fr es)) (dq (nc C fr e) λc=>some [c])
noncomputable def xB(h:H)(k:Nat)(l:List Nat):Option Bool:=dq (dq (h.get k) oX) λp=>nJ C p.1 l
noncomputable def iB(h:H)(l:List (Nat×O)):H:=List.rec (λh=>h) (λp Y ih h=>ih (h.set p.1 p.2)) l h
noncomputable def eO(h:H)(l:List O):H:=List.rec (λh=>h) (λo Y ih h=>ih (h.push o)) l h
noncomputable def sP(h:H)(o:dW):H:=eO (iB h o.ups) o.objs
noncomputable def xC(o:dW)(h:H)(K:V->H->Bool)(X:Nat->H->Bool):Bool:=du o.ex (K o.v h) λp=>X h.length (h.push (.exc p.1 p.2 false))
noncomputable def JS(l:List dW)(h:H)(K:V->H->Bool)(X:Nat->H->Bool):Bool:=dG l λo=>xC o (sP h o) K X
noncomputable def FN:Ev:=⟨λY Y Y Y Y=>false,λY Y Y Y Y=>false,λY Y Y Y Y=>false,λY Y Y Y Y Y=>false,λY Y Y Y Y=>false,λY Y Y Y Y Y=>false,λY Y Y Y Y Y Y=>false,λY Y Y Y Y Y Y Y Y=>false⟩
noncomputable def Bz(e:Expr):Bool:=match e with
 |.Starred .. =>true
 |_=>false
noncomputable def eV(l:List Expr):Bool:=List.rec true (λe Y ih=>gd (!(Bz e)) ih) l
variable(r:Ev)
noncomputable def AY(fr:Fr)(es:List Expr):H->(List V->H->Bool)->(Nat->H->Bool)->Bool:=List.rec (λh K Y=>K [] h) (λe Y ih h K X=>r.ev fr e h (λv h=>ih h (λvs h=>K (v::vs) h) X) X) es
noncomputable def IA(fr:Fr)(e:Expr)(h:H)(K:It->H->Bool)(X:Nat->H->Bool):Bool:=
 r.ev fr e h (λv h=>cR (mR C v h) λit=>K it h) X
noncomputable def BA(K:It->H->Bool)(vs:List V)(h:H):Bool:=iw vs λv=>cR (dF v) λa=>cR a.cst λn=>cR (Bn n) λl=>K (.vals l) h
noncomputable def BB(K:It->H->Bool)(vs:List V)(h:H):Bool:=iw vs λv=>dj (cR (dk v) λY=>K (.enum v 0) h) (cR (gj (dY C v h)) λY=>K (.enum v 0) h)
noncomputable def BC(K:It->H->Bool)(vs:List V)(h:H):Bool:=A5 vs λa b=>cR (gj (dY C b h)) λY=>dj (cR (ej a) λY=>K (.zip a b 0) h) (cR (gj (dY C a h)) λY=>K (.zip a b 0) h)
noncomputable def BD(x:Nat):Option ((It->H->Bool)->List V->H->Bool):=db (Vn x qP) (some BA) (db (Vn x jd) (some (BB C)) (db (Vn x Bd) (some (BC C)) none))
noncomputable def JT(fr:Fr)(x:Nat):Bool:=cR (fK fr x) λk=>match k with
 |.globalImplicit=>cR (C.G.get x) λv=>(match v with|.bi b=>Vn b x|_=>false)
 |_=>false
noncomputable def IB(e:Expr):Option (Str×List Expr):=match e with
 |.Call f args kw _=>gO (dU kw) (dq (g9 f) λx=>some (x,args))
 |_=>none
noncomputable def JU(fr:Fr)(e:Expr)(h:H)(K:It->H->Bool)(X:Nat->H->Bool):Bool:=du (dq (IB e) λp=>dq (BD C (cd p.1)) λF=>gO (JT C fr (cd p.1)) (some (F,p.2))) (IA C r fr e h K X)
 λp=>gd (eV p.2) (AY r fr p.2 h (p.1 K) X)
noncomputable def nL(fr:Fr)(e:Expr)(h:H)(K:It->H->Bool)(X:Nat->H->Bool):Bool:=iy C (JU C r fr e h K X)
noncomputable def TY(ks:List V):List V->Option (List (Nat×V)):=List.rec (λvs=>gO (dU vs) (some [])) (λk Y ih vs=>dq (nB vs) λp=>dq (fp k) λk=>dq (ih p.2) λd=>gO (!(jQ k d)) (some ((k,p.1)::d))) ks
noncomputable def Nl(n:Nat)(b:Bool):Bool:=gd (Vy n 10000) b
noncomputable def JV(s:Str)(h:H)(K:V->H->Bool):Bool:=gd (!(Vn (cd s) 0)) (gd (Vy s.cps.toList.length 1000) (K (.str (cd s)) h))
noncomputable def BE(c:Const)(h:H)(K:V->H->Bool):Bool:=match c with
 |.none=>K .none h
 |.bool b=>K (.bool b) h
 |.int i=>K (.int (.c i)) h
 |.str s=>JV s h K
 |.bytes l=>K (.bytes (l.map λb=>.c b.toNat)) h
 |_=>false
noncomputable def BG(op:BoolOp)(b:Bool):Bool:=match op with
 |.And=>!b
 |.Or=>b
noncomputable def Sp(fr:Fr)(op:BoolOp)(es:List Expr):H->(V->H->Bool)->(Nat->H->Bool)->Bool:=List.rec (λY Y Y=>false)
 (λe es ih h K X=>db (dU es) (r.ev fr e h K X) (r.ev fr e h (λv h=>lF C v h λb=>db (BG op b) (K v h) (ih h K X)) X)) es
noncomputable def MJ(fr:Fr)(op:BoolOp)(es:List Expr):H->(Bool->H->Bool)->(Nat->H->Bool)->Bool:=List.rec (λh K Y=>K (BG op false) h)
 (λe Y ih h K X=>r.tr fr e h (λb h=>db (BG op b) (K b h) (ih h K X)) X) es
noncomputable def JW(fr:Fr)(v:V)(op:CmpOp)(e:Expr)(h:H)(K:Bool->H->Bool)(X:Nat->H->Bool):Bool:=r.ev fr e h (λw h=>FH C op v w h λb=>K b h) X
noncomputable def Sr(next:Bool)(K:Bool->H->Bool)(h:H)(b:Bool):Bool:=match b with
 |true=>next
 |false=>K false h
noncomputable def BH(fr:Fr)(v:V)(ops:List CmpOp)(es:List Expr)(h:H)(K:Bool->H->Bool)(X:Nat->H->Bool):Bool:=
 cR (nB ops) λo=>cR (nB es) λe=>gd (dU o.2) (gd (dU e.2) (JW C r fr v o.1 e.1 h K X))
noncomputable def TZ(fr:Fr)(v:V)(ops:List CmpOp)(es:List Expr)(h:H)(K:Bool->H->Bool)(X:Nat->H->Bool):Bool:=
 dj (gd (dU ops.tail) (BH C r fr v ops es h K X)) (cR (nB ops) λo=>cR (nB es) λe=>gd (!(dU o.2)) (r.ev fr e.1 h (λw h=>FH C o.1 v w h (Sr (BH C r fr w o.2 e.2 h K X) K h)) X))
noncomputable def u4(fr:Fr)(op:Operator)(a b:Expr)(h:H)(K:V->H->Bool)(X:Nat->H->Bool):Bool:=
 r.ev fr a h (λva h=>r.ev fr b h (λvb h=>Il C op va vb h K) X) X
noncomputable def IC(fr:Fr)(l:Expr)(ops:List CmpOp)(rs:List Expr)(h:H)(K:V->H->Bool)(X:Nat->H->Bool):Bool:=
 r.ev fr l h (λv h=>BH C r fr v ops rs h (λb h=>K (.bool b) h) X) X
noncomputable def T2(fr:Fr)(a b:Expr)(K:V->H->Bool)(X:Nat->H->Bool)(c:Bool)(h:H):Bool:=match c with
 |true=>r.ev fr a h K X
 |false=>r.ev fr b h K X
noncomputable def xD(fr:Fr)(ks:List (Option Expr)):List Expr->H->(List V->List V->H->Bool)->(Nat->H->Bool)->Bool:=List.rec (λvs h K Y=>gd (dU vs) (K [] [] h))
 (λk Y ih vs h K X=>cR k λk=>cR (nB vs) λp=>r.ev fr k h (λa h=>r.ev fr p.1 h (λb h=>ih p.2 h (λas bs h=>K (a::as) (b::bs) h) X) X) X) ks
noncomputable def u5(fr:Fr)(ks:List (Option Expr))(vs:List Expr)(h:H)(K:V->H->Bool)(X:Nat->H->Bool):Bool:=gd (Vy ks.length 15)
 (gd (fw (λ(k:Option Expr) (Y:Expr)=>k.isSome) ks vs) (xD r fr ks vs h (λks vs h=>cR (TY ks vs) λd=>K (.ref h.length) (h.push (.dict d))) X))
noncomputable def AZ(fr:Fr)(e:Option Expr)(h:H)(K:V->H->Bool)(X:Nat->H->Bool):Bool:=match e with
 |none=>K .none h
 |some e=>r.ev fr e h K X
noncomputable def qV(fr:Fr)(e:Expr)(lo hi st:Option Expr)(h:H)(K:V->H->Bool)(X:Nat->H->Bool):Bool:=
 r.ev fr e h (λo h=>AZ r fr lo h (λlo h=>AZ r fr hi h (λhi h=>AZ r fr st h (λst h=>Iu C o lo hi st h K) X) X) X) X
noncomputable def u6(fr:Fr)(e i:Expr)(h:H)(K:V->H->Bool)(X:Nat->H->Bool):Bool:=
 r.ev fr e h (λo h=>r.ev fr i h (λi h=>JK C o i h λv=>K v h) X) X
noncomputable def qW(fr:Fr)(e i:Expr)(h:H)(K:V->H->Bool)(X:Nat->H->Bool):Bool:=match i with
 |.Slice lo hi st _=>qV C r fr e lo hi st h K X
 |i=>u6 C r fr e i h K X
noncomputable def dH(l:List (Str×NameKind)):List (Nat×NameKind):=match l with
 |[]=>[]
 |(s,k)::r=>(cd s,k)::dH r
noncomputable def qX(x:Nat)(l:List (Str×NameKind)):Bool:=List.rec true (λp Y ih=>gd (!(Vn x (cd p.1))) ih) l
noncomputable def ID:Nat:=6481680626494154694495
noncomputable def IE:Nat:=6481680900276877746015
noncomputable def xE:Nat:=27838606313909185553563072618335
noncomputable def xF(k:ScopeKind):Bool:=match k with
 |.function=>true
 |_=>false
noncomputable def u7(sc:Scope):Bool:=gd (xF sc.kind) (gd (!sc.isCoroutine) (gd (!sc.isGenerator) (gd (qX ID sc.names) (gd (qX IE sc.names) (qX xE sc.names)))))
noncomputable def iC(ns:Nat)(K:H->Bool)(h:H):Bool:=cR (dq (h.get ns) oN) λY=>K (h.set ns .dead)
noncomputable def u8(fr:Fr)(elt tgt:Expr)(ifs:List Expr)(sc:List (Nat×NameKind))(K:V->H->Bool)(X:Nat->H->Bool)(i:It)(h:H):Bool:=
 Prod.rec (λfr' h'=>r.co fr' elt tgt ifs i h.length h' (iC fr'.ns (K (.ref h.length))) (λk=>iC fr'.ns (X k))) (Bv fr sc (h.push (.list [])))
noncomputable def Nm(gens:List Comprehension):Option (Expr×Expr×List Expr):=dq (nB gens) λp=>gO (dU p.2) (gO (decide (p.1.is_async=0)) (some (p.1.target,p.1.iter,p.1.ifs)))
noncomputable def ku(fr:Fr)(elt:Expr)(gens:List Comprehension)(sc:Scope)(h:H)(K:V->H->Bool)(X:Nat->H->Bool):Bool:=cR (Nm gens) λp=>
 gd (j6 fr (dH sc.names)) (gd (Bu (dH sc.names) (dH sc.names)) (gd (u7 sc) (nL C r fr p.2.1 h (u8 r fr elt p.1 p.2.2 (dH sc.names) K X) X)))
noncomputable def Nn(a:Arg)(r:List Arg):Option Str:=match a.annotation with
 |some _=>none
 |none=>(match r with|[]=>some a.arg|_::_=>none)
noncomputable def No(ar:Arguments):Option Str:=match ar.posonlyargs.isEmpty&&(ar.vararg.isNone&&(ar.kwonlyargs.isEmpty&&(ar.kw_defaults.isEmpty&&(ar.kwarg.isNone&&ar.defaults.isEmpty)))) with
 |true=>(match ar.args with|[]=>none|a::r=>Nn a r)
 |false=>none
noncomputable def u9(fr:Fr)(ar:Arguments)(body:Expr)(sc:Scope)(h:H)(K:V->H->Bool):Bool:=cR (No ar) λx=>
 gd fr.lam (gd (!(Vn (cd x) 0)) (gd (j6 fr (dH sc.names)) (gd (u7 sc) (K (.ref h.length) (h.push (.lam (cd x) body (dH sc.names) fr.cells))))))
noncomputable def vc(f:V)(h:H):Bool:=match f with
 |.bi _=>true
 |.fn i=>(C.F.get i).isSome
 |.cls i=>(C.C.get i).isSome
 |.ref k=>(dq (h.get k) oF).isSome
 |_=>false
noncomputable def vd(f:V)(h:H)(b:Bool):Bool:=gd (vc C f h) b
noncomputable def FO(fr:Fr)(m:Nat)(args:List Expr)(K:V->H->Bool)(X:Nat->H->Bool)(v:V)(h:H):Bool:=
 du (JR C v m h) (cR (sO v m h (FK C)) λf=>AY r fr args h (λvs h=>iy C (f v vs h K)) X) λf=>AY r fr args h (λvs h=>vd C (.fn f) h (r.cl (.fn f) (v::vs) h K X)) X
noncomputable def qY(fr:Fr)(f:Expr)(args:List Expr)(h:H)(K:V->H->Bool)(X:Nat->H->Bool):Bool:=
 r.ev fr f h (λf h=>AY r fr args h (λvs h=>vd C f h (r.cl f vs h K X)) X) X
noncomputable def BI(fr:Fr)(o:Expr)(m:Str)(ap p:Pos)(args:List Expr)(h:H)(K:V->H->Bool)(X:Nat->H->Bool):Bool:=
 gd (Vn ap.endLine p.line) (gd (Vy args.length 20) (r.ev fr o h (FO C r fr (cd m) args K X) X))
noncomputable def IG(fr:Fr)(f:Expr)(args:List Expr)(p:Pos)(h:H)(K:V->H->Bool)(X:Nat->H->Bool):Bool:=match f with
 |.Attribute o m ap=>BI C r fr o m ap p args h K X
 |f=>qY C r fr f args h K X
noncomputable def BJ(fr:Fr)(f:Expr)(args:List Expr)(kw:List Keyword)(p:Pos)(h:H)(K:V->H->Bool)(X:Nat->H->Bool):Bool:=gd (dU kw) (gd (eV args) (IG C r fr f args p h K X))
noncomputable def BK(fr:Fr)(e:Expr)(h:H)(K:V->H->Bool)(X:Nat->H->Bool):Bool:=match e with
 |.Constant c _ _=>BE c h K
 |.Name x _=>sM C fr (cd x) h λv=>K v h
 |.BinOp a op b _=>u4 C r fr op a b h K X
 |.UnaryOp op a _=>r.ev fr a h (λva h=>JG C op va h K) X
 |.BoolOp op es _=>Sp C r fr op es h K X
 |.Compare l ops rs _=>IC C r fr l ops rs h K X
 |.IfExp t a b _=>r.tr fr t h (T2 r fr a b K X) X
 |.Tuple es _ _=>AY r fr es h (λvs h=>Nl vs.length (K (.tup vs) h)) X
 |.List es _=>AY r fr es h (λvs h=>Nl vs.length (K (.ref h.length) (h.push (.list vs)))) X
 |.Dict ks vs _=>u5 r fr ks vs h K X
 |.Attribute e a _=>r.ev fr e h (λv h=>JO C v (cd a) h λw=>K w h) X
 |.Subscript e i _=>qW C r fr e i h K X
 |.ListComp elt gens sc _=>ku C r fr elt gens sc h K X
 |.Lambda ar body sc _=>u9 fr ar body sc h K
 |.Call f args kw p=>BJ C r fr f args kw p h K X
 |_=>false
noncomputable def UB(fr:Fr)(a b:Expr)(K:Bool->H->Bool)(X:Nat->H->Bool)(c:Bool)(h:H):Bool:=match c with
 |true=>r.tr fr a h K X
 |false=>r.tr fr b h K X
noncomputable def Np(fr:Fr)(op:UnaryOp)(a:Expr)(e:Expr)(h:H)(K:Bool->H->Bool)(X:Nat->H->Bool):Bool:=match op with
 |.Not=>r.tr fr a h (λb h=>K (!b) h) X
 |_=>r.ev fr e h (λv h=>lF C v h λb=>K b h) X
noncomputable def BL(fr:Fr)(e:Expr)(h:H)(K:Bool->H->Bool)(X:Nat->H->Bool):Bool:=match e with
 |.UnaryOp op a _=>Np C r fr op a e h K X
 |.BoolOp op es _=>MJ r fr op es h K X
 |.IfExp t a b _=>r.tr fr t h (UB r fr a b K X) X
 |.Compare l ops rs _=>r.ev fr l h (λv h=>TZ C r fr v ops rs h K X) X
 |e=>r.ev fr e h (λv h=>lF C v h λb=>K b h) X
noncomputable def FQ(fi:gx)(vs:List V)(K:V->H->Bool)(X:Nat->H->Bool)(x:Fr×H):Bool:=Prod.rec (λfr h=>d9 fr h (λh=>r.ex fr fi.body h (kt K) X) fi.params vs) x
noncomputable def ve(a:Nat)(args:List V)(h:H)(K:V->H->Bool)(X:Nat->H->Bool):Bool:=
 cR (C.F.get a) λfi=>cR (fy fi.params fi.dfl args) λvs=>FQ r fi vs K X (eA fi.lam fi.ks [] h)
noncomputable def vf(l:List V):Option (List V×Nat×List V):=List.rec none (λv r ih=>du (iW v) (dq ih λx=>some (v::x.1,x.2)) λk=>some ([],k,r)) l
noncomputable def JX(a:Nat)(args:List V)(h:H)(K:V->H->Bool)(X:Nat->H->Bool):Bool:=
 du (vf args) (ve C r a args h K X) λx=>db (C.lzy a x.2.1) (ve C r a args h K X) (dG (C.toks x.2.1) λv=>r.cl (.fn a) (x.1++v::x.2.2) h K X)
noncomputable def Nq(a:Nat)(args:List V)(h:H)(K:V->H->Bool)(X:Nat->H->Bool):Bool:=du (C.P a args h) (JX C r a args h K X) λouts=>JS outs h K X
noncomputable def BM(c:Nat)(w a:V)(h:H)(K:V->H->Bool):Bool:=K (.ref h.length) (h.push (.exc c [(j5,w),(nD,a)] true))
noncomputable def UC:V:=.tup [.int (.c 0),.int (.c 0)]
noncomputable def BN(c:Nat)(args:List V)(h:H)(K:V->H->Bool):Bool:=dj (iw args λw=>BM c w UC h K) (A5 args λw a=>BM c w a h K)
noncomputable def JY(K:V->H->Bool)(o:V)(v:V)(h:H):Bool:=gd (d8 v) (K o h)
noncomputable def BO(c:Nat)(args:List V)(h:H)(K:V->H->Bool)(X:Nat->H->Bool):Bool:=cR (C.C.get c) λci=>
 dj (gd ci.exc (gd (Vn ci.init 0) (BN c args h K))) (gd (!ci.exc) (r.cl (.fn ci.init) (.ref h.length::args) (h.push (.inst c [])) (JY K (.ref h.length)) X))
noncomputable def Nr(x:Nat)(v:V)(body:Expr)(K:V->H->Bool)(X:Nat->H->Bool)(y:Fr×H):Bool:=Prod.rec (λfr h=>d9 fr h (λh=>r.ev fr body h K X) [x] [v]) y
noncomputable def vg(k:Nat)(args:List V)(h:H)(K:V->H->Bool)(X:Nat->H->Bool):Bool:=cR (dq (h.get k) oF) λl=>iw args λv=>Nr r l.x v l.body K X (eA false l.sc l.cells h)
noncomputable def BP(f:V)(args:List V)(h:H)(K:V->H->Bool)(X:Nat->H->Bool):Bool:=match f with
 |.bi x=>builtin C x args h K
 |.fn a=>iy C (Nq C r a args h K X)
 |.cls c=>iy C (BO C r c args h K X)
 |.ref k=>iy C (vg r k args h K X)
 |_=>false
noncomputable def BQ(a:Nat)(v:V)(K:H->Bool)(o:V)(h:H):Bool:=cR (fu o) λk=>cR (dq (h.get k) oI) λp=>cR (C.C.get p.1) λci=>
 gd (y9 a ci.atts) (gd (!ci.exc) (gd (Vy p.2.length 100) (K (h.set k (.inst p.1 (nC p.2 a v))))))
noncomputable def JZ(b l:List AI)(i j:Nat):List AI:=b.take i++l++b.drop j
noncomputable def qZ(v:V)(K:H->Bool)(o lo hi:V)(h:H):Bool:=cR (fu o) λk=>cR (dk v) λl=>cR (A4 (h.get k)) λb=>cR (sL b.length 0 lo) λi=>cR (sL b.length b.length hi) λj=>
 gd (Vy i j) (gd (Vn l.length (Xv j i)) (gd (Vy (JZ b l i j).length 10000) (gd (Vy l.length 10000) (K (h.set k (.barr (JZ b l i j)))))))
noncomputable def vh(v:V)(K:H->Bool)(o i:V)(h:H):Bool:=cR (fu o) λk=>match i with
 |.int a=>cR a.cst λn=>cR (gj (h.get k)) λl=>gd (decide (0≤n)) (cR (JH l.length n) λj=>K (h.set k (.list (A7 l j v))))
 |.str x=>cR (nA (h.get k)) λl=>gd (Vy l.length 999) (K (h.set k (.dict (nC l x v))))
 |_=>false
noncomputable def q7(fr:Fr)(o:Expr)(lo hi st:Option Expr)(v:V)(h:H)(K:H->Bool)(X:Nat->H->Bool):Bool:=match st with
 |none=>r.ev fr o h (λo h=>AZ r fr lo h (λlo h=>AZ r fr hi h (λhi h=>qZ v K o lo hi h) X) X) X
 |some _=>false
noncomputable def xG(fr:Fr)(o i:Expr)(v:V)(h:H)(K:H->Bool)(X:Nat->H->Bool):Bool:=match i with
 |.Slice lo hi st _=>q7 r fr o lo hi st v h K X
 |i=>r.ev fr o h (λo h=>r.ev fr i h (λi h=>vh v K o i h) X) X
noncomputable def J0(fr:Fr)(ts:List Expr):List V->H->(H->Bool)->(Nat->H->Bool)->Bool:=List.rec (λvs h K Y=>gd (dU vs) (K h)) (λt Y ih vs h K X=>cR (nB vs) λp=>r.asg fr t p.1 h (λh=>ih p.2 h K X) X) ts
noncomputable def xH(fr:Fr)(es:List Expr)(v:V)(h:H)(K:H->Bool)(X:Nat->H->Bool):Bool:=cR (ej v) λvs=>gd (Vn es.length vs.length) (gd (eV es) (J0 r fr es vs h K X))
noncomputable def xI(fr:Fr)(t:Expr)(v:V)(h:H)(K:H->Bool)(X:Nat->H->Bool):Bool:=match t with
 |.Name x _=>gy fr (cd x) v h K
 |.Tuple es _ _=>iy C (xH r fr es v h K X)
 |.Attribute o a _=>r.ev fr o h (BQ C (cd a) v K) X
 |.Subscript o i _=>xG r fr o i v h K X
 |_=>false
noncomputable def ql(fr:Fr)(ss:List Stmt)(K:gf->H->Bool)(X:Nat->H->Bool)(f:gf)(h:H):Bool:=match f with
 |.nx=>r.ex fr ss h K X
 |.rt v=>K (.rt v) h
noncomputable def UD(fr:Fr)(a b:List Stmt)(K:gf->H->Bool)(X:Nat->H->Bool)(c:Bool)(h:H):Bool:=match c with
 |true=>r.ex fr a h K X
 |false=>r.ex fr b h K X
noncomputable def Nt(ts:List Expr):Bool:=du (nB ts) true λp=>du (g9 p.1) true λY=>!(Vn p.2.length 2)
noncomputable def T3(t:Expr):Bool:=match t with
 |.List .. =>false
 |.Starred .. =>false
 |_=>true
noncomputable def RM(e:Expr):Bool:=match e with
 |.SetComp .. =>false
 |.DictComp .. =>false
 |_=>true
noncomputable def vj(t e:Expr):Bool:=gd (T3 t) (gd (RM e) (du (my e) true λvs=>du (my t) true λts=>gd (dj (!(vs.all (constantsAlone 8))) (vs.all (foldedForSure 8))) (Nt ts)))
noncomputable def q8(e:Expr):Bool:=match e with
 |.ListComp .. =>true
 |_=>false
noncomputable def BS(fr:Fr)(ts:List Expr)(e:Expr)(h:H)(K:H->Bool)(X:Nat->H->Bool):Bool:=cR (nB ts) λp=>gd (dU p.2) (gd (vj p.1 e) (r.ev fr e h (λv h=>r.asg fr p.1 v h K X) X))
noncomputable def Nu(c:Nat):Bool:=cR (C.C.get c) λci=>gd ci.exc (Vn ci.init 0)
noncomputable def FS(X:Nat->H->Bool)(v:V)(h:H):Bool:=cR (fu v) λk=>cR (dq (h.get k) oE) λp=>gd p.2.2 (gd (Nu C p.1) (X k (h.set k (.exc p.1 p.2.1 false))))
noncomputable def Nv(fr:Fr)(t:Expr)(b:List Stmt)(K:gf->H->Bool)(X:Nat->H->Bool)(f:gf)(h:H):Bool:=match f with
 |.nx=>r.wh fr t b h K X
 |.rt v=>K (.rt v) h
noncomputable def Ss(fr:Fr)(t:Expr)(b:List Stmt)(K:gf->H->Bool)(X:Nat->H->Bool)(c:Bool)(h:H):Bool:=match c with
 |true=>r.ex fr b h (Nv r fr t b K X) X
 |false=>K .nx h
noncomputable def BU(fr:Fr)(t:Expr)(b:List Stmt)(h:H)(K:gf->H->Bool)(X:Nat->H->Bool):Bool:=iy C (r.tr fr t h (Ss r fr t b K X) X)
noncomputable def xJ(fr:Fr)(x:Nat)(h:H)(K:H->Bool):Bool:=cR (fK fr x) λk=>gd (Iz k) (cR (dq (h.get fr.ns) oN) λY=>K (h.set fr.ns .nsU))
noncomputable def vk(fr:Fr)(x:Nat)(hb:List Stmt)(k:Nat)(K:gf->H->Bool)(X:Nat->H->Bool)(h:H):Bool:=
 gy fr x (.ref k) h λh=>r.ex fr hb h (λf h=>xJ fr x h λh=>K f h) X
noncomputable def BV(fr:Fr)(nm:Option Str)(hb:List Stmt)(k:Nat)(K:gf->H->Bool)(X:Nat->H->Bool)(cs:List Nat)(h:H):Bool:=cR (xB C h k cs) λb=>gd b
 (du nm (r.ex fr hb h (λf h=>K f (h.set k .dead)) X) λx=>vk r fr (cd x) hb k (λf h=>K f (h.set k .dead)) X h)
noncomputable def vm(q:Ev)(fr:Fr)(b:List Stmt)(hs:List ExceptHandler)(o f:List Stmt)(h:H)(K:gf->H->Bool)(X:Nat->H->Bool):Bool:=gd (dU o) (gd (dU f) (cR (gw hs) λe=>cR (xA e) λp=>
 iy C (r.ex fr b h K λk h=>cR (By C fr p.1) λcs=>BV C q fr p.2.1 p.2.2 k K (λY Y=>false) cs h)))
noncomputable def J1(fr:Fr)(e:Option Expr)(h:H)(K:gf->H->Bool)(X:Nat->H->Bool):Bool:=match e with
 |some e=>r.ev fr e h (λv h=>K (.rt v) h) X
 |none=>false
noncomputable def vn(fr:Fr)(e c:Option Expr)(h:H)(X:Nat->H->Bool):Bool:=du c (cR e λe=>iy C (r.ev fr e h (FS C X) X)) λY=>false
noncomputable def vp(fr:Fr)(t it:Expr)(b o:List Stmt)(h:H)(K:gf->H->Bool)(X:Nat->H->Bool):Bool:=gd (dU o) (nL C r fr it h (λi h=>r.fo fr t i b h K X) X)
noncomputable def Nw(fr:Fr)(t:Expr)(b o:List Stmt)(h:H)(K:gf->H->Bool)(X:Nat->H->Bool):Bool:=match o with
 |[]=>r.wh fr t b h K X
 |_=>false
noncomputable def FU(q:Ev)(fr:Fr)(s:Stmt)(ss:List Stmt)(h:H)(K:gf->H->Bool)(X:Nat->H->Bool):Bool:=match s with
 |.Assign ts e _=>BS r fr ts e h (λh=>r.ex fr ss h K X) X
 |.If t a b _=>r.tr fr t h (UD r fr a b (ql r fr ss K X) X) X
 |.For t it b o _=>vp C r fr t it b o h (ql r fr ss K X) X
 |.While t b o _=>Nw r fr t b o h (ql r fr ss K X) X
 |.Return e _=>J1 r fr e h K X
 |.Raise e c _=>vn C r fr e c h X
 |.Try b hs o f _=>vm C r q fr b hs o f h (ql r fr ss K X) X
 |.Expr e _=>gd (!(q8 e)) (gd (RM e) (r.ev fr e h (λY h=>r.ex fr ss h K X) X))
 |_=>false
noncomputable def BW(q:Ev)(fr:Fr)(ss:List Stmt)(h:H)(K:gf->H->Bool)(X:Nat->H->Bool):Bool:=match ss with
 |[]=>K .nx h
 |s::ss=>FU C r q fr s ss h K X
noncomputable def nM:Expr->Bool
 |.Tuple .. =>true
 |_=>false
noncomputable def sQ(it:It)(t:Expr):Bool:=match it with
 |.enum .. =>nM t
 |.zip .. =>nM t
 |_=>true
noncomputable def II(fr:Fr)(t:Expr)(it:It)(b:List Stmt)(K:gf->H->Bool)(X:Nat->H->Bool)(f:gf)(h:H):Bool:=match f with
 |.nx=>r.fo fr t it b h K X
 |.rt v=>K (.rt v) h
noncomputable def Su(fr:Fr)(t:Expr)(b:List Stmt)(h:H)(K:gf->H->Bool)(X:Nat->H->Bool)(x:Nx):Bool:=match x with
 |.stop=>K .nx h
 |.more v it=>r.asg fr t v h (λh=>r.ex fr b h (II r fr t it b K X) X) X
noncomputable def BX(fr:Fr)(t:Expr)(it:It)(b:List Stmt)(h:H)(K:gf->H->Bool)(X:Nat->H->Bool):Bool:=gd (sQ it t) (cR (next C it h) (Su r fr t b h K X))
noncomputable def q9(acc:Nat)(w:V)(h:H)(K:H->Bool):Bool:=cR (gj (h.get acc)) λl=>gd (Vy l.length 9999) (K (h.set acc (.list (l++[w]))))
noncomputable def Ny(fr:Fr)(elt t:Expr)(ifs:List Expr)(it:It)(acc:Nat)(K:H->Bool)(X:Nat->H->Bool)(c:Bool)(h:H):Bool:=
 db c (r.ev fr elt h (λw h=>q9 acc w h λh=>r.co fr elt t ifs it acc h K X) X) (r.co fr elt t ifs it acc h K X)
noncomputable def Sv(fr:Fr)(elt t:Expr)(ifs:List Expr)(acc:Nat)(h:H)(K:H->Bool)(X:Nat->H->Bool)(x:Nx):Bool:=match x with
 |.stop=>K h
 |.more v it=>r.asg fr t v h (λh=>MJ r fr .And ifs h (Ny r fr elt t ifs it acc K X) X) X
noncomputable def BY(fr:Fr)(elt t:Expr)(ifs:List Expr)(it:It)(acc:Nat)(h:H)(K:H->Bool)(X:Nat->H->Bool):Bool:=gd (sQ it t) (cR (next C it h) (Sv r fr elt t ifs acc h K X))
noncomputable def MK(q:Ev):Ev:=⟨BK C r,BL C r,BP C r,xI C r,BW C r q,BU C r,λfr t it b h K X=>iy C (BX C r fr t it b h K X),λfr e t ifs it a h K X=>iy C (BY C r fr e t ifs it a h K X)⟩
end
noncomputable def jf:List Arg->List Nat
 |[]=>[]
 |⟨x,_,_⟩::r=>cd x::jf r
noncomputable def UE:gx:=⟨[],[],[],[],false⟩
noncomputable def vq:List Stmt->Bool
 |[.Return (some (.Call _ [_,.Lambda ..] [] _)) _]=>true
 |_=>false
noncomputable def pI(s:Stmt)(dfl:List V):gx:=match s with
 |.FunctionDef _ a b _ _ _ sc _ _ _=>⟨jf a.args,dfl,b,dH sc.names,vq b⟩
 |_=>UE
noncomputable def Nz(s:Stmt)(j:Nat):Stmt:=match s with
 |.ClassDef _ _ _ b _ _ _ _ _ _ _=>(fF b j).getD (.Pass default)
 |_=>.Pass default
noncomputable def iD(C:i5):i5:=⟨C.G,C.F,C.C,C.W,true,C.toks,C.P,C.words,C.lzy,C.egr⟩
noncomputable def T4(C:i5)(n:Nat):Ev:=Nat.rec FN (λY r=>MK (iD C) r FN) n
noncomputable def mB(C:i5)(n:Nat):Ev:=Nat.rec FN (λk r=>MK C r (T4 C k)) n
noncomputable def jI(x:Nat):Value:=
 if x=Ia then .builtin "abs" else if x=Ib then .builtin "len" else if x=Ic then .builtin "max" else if x=Id then .builtin "min" else if x=sK then .builtin "sorted"
 else if x=xq then .type "bytes" else if x=xr then .type "tuple" else if x=Bc then .type "list" else if x=qP then .type "range" else if x=jd then .type "enumerate"
 else if x=Bd then .type "zip" else if x=Ie then .type "int" else if x=mx then .type "bytearray" else .none
noncomputable def T5(i:Nat):Stmt:=(fF PySem.Challenge.pw_pq0653_01.main.body i).getD (.Pass default)
noncomputable def gR(i:Nat):Stmt:=match V3 i 1000 with
 |true=>T5 i
 |false=>Nz (T5 (Xv (Ws i 1000) 1)) (WM i 1000)
noncomputable def FV{α β:Type}(f:Nat->α->β)(t:BT α):BT β:=BT.rec .nil (λY k v Y a b=>.node a k (f k v) b) t
noncomputable def FD:BT (List V):=(.node (.node (.node (.node (.node (.node (.node (.node .nil 13 [] .nil) 14 [] .nil) 15 [] (.node .nil 16 [] .nil)) 17 [] (.node (.node (.node .nil 18 [] .nil) 19 [] .nil) 20 [] (.node .nil 21 [] .nil))) 26 [] (.node (.node (.node (.node .nil 27 [(.int (.c 0))] .nil) 28 [] .nil) 29 [] (.node .nil 30 [] .nil)) 31 [] (.node (.node .nil 32 [] .nil) 33 [] (.node .nil 34 [(.int (.c 30))] .nil)))) 35 [] (.node (.node (.node (.node (.node .nil 36 [] .nil) 37 [] .nil) 38 [] (.node .nil 39 [] .nil)) 41 [] (.node (.node .nil 46 [] .nil) 47 [] (.node .nil 48 [] .nil))) 49 [] (.node (.node (.node (.node .nil 50 [] .nil) 51 [] .nil) 53 [] (.node .nil 54 [] .nil)) 55 [(.bool false)] (.node (.node .nil 56 [] .nil) 57 [] (.node .nil 61 [] .nil))))) 62 [] (.node (.node (.node (.node (.node (.node .nil 63 [] .nil) 64 [] .nil) 65 [] (.node .nil 66 [] .nil)) 67 [(.bool false)] (.node (.node .nil 72 [] .nil) 73 [] (.node .nil 74 [] .nil))) 75 [] (.node (.node (.node (.node .nil 76 [] .nil) 77 [] .nil) 78 [] (.node .nil 79 [] .nil)) 80 [] (.node (.node .nil 81 [] .nil) 91 [] (.node .nil 92 [] .nil)))) 93 [] (.node (.node (.node (.node (.node .nil 94 [] .nil) 95 [] .nil) 96 [] (.node .nil 97 [] .nil)) 98 [] (.node (.node .nil 99 [] .nil) 100 [] (.node .nil 101 [] .nil))) 102 [] (.node (.node (.node (.node .nil 103 [] .nil) 104 [] .nil) 109 [] (.node .nil 110 [] .nil)) 111 [(.bool false)] (.node (.node .nil 112 [] .nil) 113 [] (.node .nil 114 [] .nil)))))) 115 [] (.node (.node (.node (.node (.node (.node (.node .nil 116 [] .nil) 117 [] .nil) 118 [] (.node .nil 119 [] .nil)) 120 [] (.node (.node (.node .nil 121 [] .nil) 123 [] .nil) 124 [] (.node .nil 125 [] .nil))) 126 [] (.node (.node (.node (.node .nil 127 [] .nil) 131 [] .nil) 132 [] (.node .nil 133 [] .nil)) 134 [] (.node (.node .nil 135 [] .nil) 136 [] (.node .nil 137 [] .nil)))) 138 [] (.node (.node (.node (.node (.node .nil 139 [] .nil) 140 [] .nil) 141 [] (.node .nil 142 [] .nil)) 143 [] (.node (.node .nil 144 [] .nil) 145 [] (.node .nil 146 [] .nil))) 150 [] (.node (.node (.node (.node .nil 151 [] .nil) 152 [] .nil) 153 [] (.node .nil 154 [] .nil)) 157 [] (.node (.node .nil 158 [] .nil) 159 [] (.node .nil 162 [] .nil))))) 163 [] (.node (.node (.node (.node (.node (.node .nil 164 [] .nil) 165 [] .nil) 166 [] (.node .nil 167 [] .nil)) 168 [] (.node (.node .nil 169 [] .nil) 170 [] (.node .nil 171 [] .nil))) 173 [] (.node (.node (.node (.node .nil 174 [] .nil) 175 [(.int (.c 0))] .nil) 176 [] (.node .nil 177 [] .nil)) 178 [] (.node (.node .nil 179 [(.tup []),(.tup []),.none] .nil) 180 [] (.node .nil 181 [] .nil)))) 182 [] (.node (.node (.node (.node (.node .nil 183 [] .nil) 184 [] .nil) 3000 [(.tup [(.int (.c 0)),(.int (.c 0))])] (.node .nil 11000 [.none,(.tup []),(.tup [])] .nil)) 12000 [] (.node (.node .nil 12001 [] .nil) 12002 [] (.node .nil 12003 [] .nil))) 13000 [] (.node (.node (.node (.node .nil 53000 [] .nil) 53001 [] .nil) 53002 [] (.node .nil 53003 [] .nil)) 72000 [.none,(.str 100321036237300089),(.str 26837620234872516199),(.bool false),(.bool false),(.bool false)] (.node (.node .nil 72002 [] .nil) 149000 [(.bool false)] (.node .nil 162000 [] .nil)))))))
noncomputable def FT:BT gx:=FV (λi d=>pI (gR i) d) FD
noncomputable def CT:BT gh:=(.node (.node (.node (.node .nil 2 ⟨3000,[],true,[2],[6298296692,90484]⟩ .nil) 3 ⟨0,[],true,[3,2],[6298296692,90484]⟩ (.node .nil 4 ⟨0,[],true,[4,2],[6298296692,90484]⟩ .nil)) 5 ⟨0,[],true,[5,2],[6298296692,90484]⟩ (.node (.node .nil 6 ⟨0,[],true,[6,2],[6298296692,90484]⟩ .nil) 10 ⟨11000,[],false,[10],[23883639,6046705512,6574350343960628129383,6096779635,101733844070720883]⟩ .nil)) 11 ⟨12000,[(23159908,12001),(1526583357044,12002),(100042782570407283,12003)],false,[11],[1565070353772,6146846053,114017890487881576109679409268,1603958564709,6231254894,436967053782273994518525029,403947637797491,6832601383258565797235,1607952266597,111863565603395232715042809188,28637072756522928292057112212079,1678495644609696360263283,6097036403,405038810099316,104257266138310003,5945520997,403960572896628,6231259749,1595184083045]⟩ (.node (.node (.node .nil 12 ⟨13000,[],false,[12],[105675653485522535,102572814491543397,1539367003507,1595302638707,6231259749,101733844070720883]⟩ .nil) 52 ⟨53000,[(26766423588604310387,53001),(394077870060133,53002),(1582366286693,53003)],false,[52],[100883934735394163,436967053421976128758314597,6013152364,6147111028,1539468258916,436967052632172793105575527,26045265946226423150,6231715700]⟩ .nil) 71 ⟨72000,[(1753942326271747681248101,72002)],false,[71],[25607876935081226873,6231259749,103698667306054245,1603958564709,6231254894,436967053782273994518525029,111863565603395232715042809188,28637072756522928292057112212079,391878846018675,1595100195941,6667588100942841406820]⟩ (.node (.node .nil 148 ⟨149000,[],false,[148],[6146846053,5979075681,1539367003507,1739941820890875373446515,1706902551032123882037612]⟩ .nil) 161 ⟨162000,[],false,[161],[103708614232007021,1595184344166,6214874995,6870217698016752531315,401757371855481,101733844070720883,1565136939891,101438118374958451,1735181843433596808095859,26476773734033289079,1595302638707]⟩ .nil)))
noncomputable def GT:BT V:=(.node (.node (.node (.node (.node (.node (.node (.node .nil 23159411 (.bi 23159411) .nil) 23686772 (.bi 23686772) .nil) 23880055 (.fn 184) (.node (.node .nil 23881070 (.bi 23881070) .nil) 23945592 (.bi 23945592) .nil)) 23947630 (.bi 23947630) (.node (.node (.node .nil 24799600 (.bi 24799600) .nil) 5442204769 (.cls 12) .nil) 5527332205 (.cls 11) (.node (.node .nil 5642147155 (.int (.c 43)) .nil) 6013154419 (.fn 39) .nil))) 6096777332 (.fn 28) (.node (.node (.node (.node .nil 6113817460 (.bi 6113817460) .nil) 6181123443 (.fn 30) .nil) 1401389860164 (.str 19147565) (.node (.node .nil 1427564488050 (.cls 52) .nil) 1457745129573 (.cls 71) .nil)) 1475043552356 (.cls 161) (.node (.node (.node .nil 1509536394348 (.fn 0) .nil) 1522456094067 (.bi 1522456094067) .nil) 1569431909747 (.fn 31) (.node .nil 1569533093220 (.fn 118) .nil)))) 1582418060658 (.fn 35) (.node (.node (.node (.node (.node .nil 1590772524901 (.bi 1590772524901) .nil) 1599496611187 (.fn 32) .nil) 1599698136165 (.bi 1599698136165) (.node (.node .nil 358755603334482 (.str 358755603334482) .nil) 368763265708659 (.cls 10) .nil)) 392956917081444 (.fn 55) (.node (.node (.node .nil 394077953353060 (.fn 121) .nil) 405085769393523 (.fn 41) .nil) 408397475505508 (.bi 408397475505508) (.node (.node .nil 411635780248932 (.fn 151) .nil) 94106432534041171 (.tup [(.str 103148954189982051),(.str 392956917081444)]) .nil))) 94701414977266029 (.cls 148) (.node (.node (.node (.node .nil 99479866741515620 (.fn 111) .nil) 99484294936356196 (.fn 158) .nil) 100316569353937260 (.fn 27) (.node (.node .nil 100883955940552550 (.fn 123) .nil) 101740445568036710 (.fn 131) .nil)) 102860920796968047 (.fn 171) (.node (.node (.node .nil 103126963956182886 (.fn 141) .nil) 103131336167155044 (.fn 33) .nil) 103689935636098918 (.fn 165) (.node .nil 103705333094312312 (.fn 157) .nil))))) 104257219128878195 (.fn 13) (.node (.node (.node (.node (.node (.node .nil 104268265867407206 (.fn 17) .nil) 104550840355744110 (.fn 166) .nil) 104555251036873576 (.fn 127) (.node (.node .nil 104820259359254894 (.fn 115) .nil) 23728995043860825412 (.str 5405421356) .nil)) 24374974600589168199 (.int (.c 66)) (.node (.node (.node .nil 24388520605656640628 (.cls 5) .nil) 25322721970127660398 (.fn 173) .nil) 25322721970127791462 (.fn 181) (.node (.node .nil 25607870312342320741 (.fn 110) .nil) 25900027100451008358 (.fn 109) .nil))) 26043880574679278948 (.fn 57) (.node (.node (.node (.node .nil 26045265967919887728 (.fn 20) .nil) 26045265976441988472 (.fn 162) .nil) 26045266036471589989 (.fn 37) (.node (.node .nil 26476218527905705573 (.fn 125) .nil) 26622307318045699700 (.fn 34) .nil)) 26689848079763268964 (.fn 159) (.node (.node (.node .nil 26689862347410138468 (.fn 112) .nil) 26692672699431350118 (.fn 47) .nil) 26833986395969056626 (.fn 116) (.node .nil 26908560772458045812 (.fn 36) .nil)))) 26908560772458047854 (.fn 102) (.node (.node (.node (.node (.node .nil 26908574984388830564 (.fn 152) .nil) 26976964642112824676 (.fn 53) .nil) 27050993673148787054 (.fn 170) (.node (.node .nil 27050993673148788582 (.fn 38) .nil) 27052967330930714990 (.fn 169) .nil)) 5983767424555782859892 (.cls 3) (.node (.node (.node .nil 6261046739661636332660 (.cls 6) .nil) 6278184337077023556932 (.tup [(.str 299),(.str 301),(.str 298),(.str 303),(.str 76330)]) .nil) 6482616824352480584055 (.fn 174) (.node (.node .nil 6482616824352613689700 (.fn 175) .nil) 6482616824352647245157 (.fn 179) .nil))) 6482616824352748825700 (.fn 183) (.node (.node (.node (.node .nil 6519513382379581697395 (.fn 15) .nil) 6538899133538275320185 (.bi 6538899133538275320185) .nil) 6593447022513235260517 (.bi 6593447022513235260517) (.node (.node .nil 6611529546818790584166 (.fn 62) .nil) 6611531498370393990509 (.fn 126) .nil)) 6647849927702964237683 (.fn 65) (.node (.node (.node .nil 6647849927737407534195 (.fn 73) .nil) 6740370207211731775334 (.fn 163) .nil) 6759969858440444995950 (.fn 103) (.node .nil 6759969858440444997478 (.fn 168) .nil)))))) 6851337211999081035892 (.fn 50) (.node (.node (.node (.node (.node (.node (.node .nil 1517397557942959822096707 (.str 1412581125833631304002090) .nil) 1527250141151531749436532 (.cls 4) .nil) 1555102338337196950506821 (.str 1706810676484562934132069) (.node (.node .nil 1555102338337197034920517 (.int (.c 4)) .nil) 1574011336106416635594066 (.int (.c 99)) .nil)) 1659549907034316584676452 (.fn 177) (.node (.node (.node .nil 1678606756018852200805491 (.fn 104) .nil) 1682960188165617989545076 (.fn 150) .nil) 1706902552447212275788131 (.fn 72) (.node (.node .nil 1716090257639713391866995 (.fn 91) .nil) 1730552283760753918766962 (.fn 117) .nil))) 1734943114114376957063026 (.fn 96) (.node (.node (.node (.node .nil 1735181844561687197215086 (.fn 167) .nil) 1739628591314727115648870 (.fn 119) .nil) 1739830133318840406860915 (.fn 21) (.node (.node .nil 1749146096540496817845363 (.fn 135) .nil) 1758592132446283811090533 (.fn 76) .nil)) 1763479438761833377656420 (.fn 74) (.node (.node (.node .nil 1763479438783810808802404 (.fn 63) .nil) 401842183251720892276961138 (.cls 2) .nil) 402946902043242645457945939 (.int (.c 30)) (.node .nil 404155863813127254779577413 (.int (.c 48)) .nil)))) 406507270567571370577515859 (.int (.c 12)) (.node (.node (.node (.node (.node .nil 424844776200775175757784434 (.fn 176) .nil) 424844776200776198077641843 (.fn 178) .nil) 424844776200780647681385317 (.fn 182) (.node (.node .nil 427291034098460457190974835 (.fn 142) .nil) 429628882641275720799580006 (.fn 138) .nil)) 430837808170409247348319603 (.fn 56) (.node (.node (.node .nil 432060699546057561579288692 (.fn 54) .nil) 433293200380316345354841970 (.fn 92) .nil) 434544775071659844140363877 (.fn 75) (.node (.node .nil 436943533180103108310691941 (.fn 80) .nil) 436943809879598368140130420 (.fn 51) .nil))) 436967053351052217090531700 (.fn 64) (.node (.node (.node (.node .nil 436971886395175897267991667 (.fn 134) .nil) 436971886400797786002187634 (.fn 14) .nil) 441784290859408566499701875 (.fn 146) (.node (.node .nil 445344882481379894721541235 (.fn 133) .nil) 99746359922862428224068611687 (.bytes [.c 32]) .nil)) 101915186845266528387558102099 (.int (.c 9)) (.node (.node (.node .nil 103147129773906335479095584115 (.int (.c 45)) .nil) 103154406923067299215004812627 (.int (.c 120)) .nil) 104065861265298270854908368211 (.int (.c 13)) (.node .nil 104065861265298270867842746702 (.int (.c 15)) .nil))))) 104079244601358712199235913043 (.bytes [.c 123,.c 65,.c 66,.c 67,.c 68,.c 69,.c 70,.c 71,.c 72,.c 73]) (.node (.node (.node (.node (.node (.node .nil 109685151945711710353190646899 (.fn 101) .nil) 110009172362600674136326237812 (.fn 26) .nil) 110923059297360962437938245236 (.fn 78) (.node (.node .nil 110923059297360984410939287908 (.fn 49) .nil) 110923082741807828903068331109 (.fn 143) .nil)) 110923111206641229787100968051 (.fn 153) (.node (.node (.node .nil 110923111206641236431281417061 (.fn 66) .nil) 111864802918604211243692944996 (.fn 16) .nil) 113096778460012552339675311205 (.fn 144) (.node (.node .nil 113389296008496169000482729572 (.fn 18) .nil) 113413474468544768876027670629 (.fn 79) .nil))) 113701231926594197475779896691 (.fn 61) (.node (.node (.node (.node .nil 114008218914147093755934110835 (.fn 100) .nil) 115263126286650395050587090021 (.fn 145) .nil) 115571388500135805331633169509 (.fn 29) (.node (.node .nil 25535068140252779361411472649831 (.str 288) .nil) 26405665222120008607033103369555 (.bytes [.c 125,.c 74,.c 75,.c 76,.c 77,.c 78,.c 79,.c 80,.c 81,.c 82]) .nil)) 26486758690857107824365074343283 (.int (.c 48)) (.node (.node (.node .nil 28079398898102197843772674765939 (.fn 95) .nil) 28237861338482919289285564265587 (.fn 99) .nil) 28396309182012326392999257990514 (.fn 120) (.node .nil 28397241212150283623936373122926 (.fn 46) .nil)))) 28637072789616600814092820770149 (.fn 132) (.node (.node (.node (.node (.node .nil 28870426881353579447833874229096 (.fn 124) .nil) 29033849463947460817939703034995 (.fn 140) .nil) 29111520605489851432154951676005 (.fn 137) (.node (.node .nil 29186104042021655994875001533555 (.fn 94) .nil) 29426269259513397665461014196837 (.fn 98) .nil)) 29503015487876341062071395642980 (.fn 19) (.node (.node (.node .nil 29745052146202580512140398262388 (.fn 114) .nil) 7127712576792156721769140049244276 (.fn 180) .nil) 7228892502651627338050460321150067 (.fn 93) (.node .nil 7330697601453894040666471769535097 (.fn 154) .nil))) 7331090646264386721814329298611815 (.fn 48) (.node (.node (.node (.node .nil 7351059231947669997258193086080371 (.fn 97) .nil) 7432665462770550401172970569560165 (.fn 77) .nil) 7452549275005401966617344248411251 (.fn 136) (.node (.node .nil 7574089598240422855139707544760421 (.fn 81) .nil) 1730521675996857439498917148325670503 (.int (.c 45)) .nil)) 1912963460071342991221196862110659699 (.fn 164) (.node (.node (.node .nil 444374071696386922790060582162299186791 (.int (.c 48)) .nil) 487107163768130762960485857212593628516 (.fn 67) .nil) 499002757228111948858823950165356801894 (.fn 113) (.node .nil 122995291186544215680009224903718332362340 (.fn 139) .nil)))))))
noncomputable def nO(k:Nat):Option (List Nat):=match Vn k 1412581125833631304002090 with|true=>some [299,301,298,303,76330]|false=>none
noncomputable def UF:BT Nat:=(.node (.node (.node (.node (.node (.node (.node (.node .nil 0 21 .nil) 2 47 .nil) 3 60 (.node (.node .nil 4 72 .nil) 5 84 .nil)) 6 96 (.node (.node (.node .nil 10 125 .nil) 11 172 .nil) 12 198 (.node .nil 13 209 .nil))) 14 216 (.node (.node (.node (.node .nil 15 223 .nil) 16 230 .nil) 17 237 (.node .nil 18 242 .nil)) 19 247 (.node (.node (.node .nil 20 252 .nil) 21 257 .nil) 26 264 (.node .nil 27 272 .nil)))) 28 279 (.node (.node (.node (.node (.node .nil 29 286 .nil) 30 293 .nil) 31 300 (.node (.node .nil 32 307 .nil) 33 314 .nil)) 34 322 (.node (.node (.node .nil 35 329 .nil) 36 336 .nil) 37 343 (.node .nil 38 350 .nil))) 39 357 (.node (.node (.node (.node .nil 41 364 .nil) 46 371 .nil) 47 378 (.node .nil 48 385 .nil)) 49 392 (.node (.node (.node .nil 50 399 .nil) 51 406 .nil) 52 444 (.node .nil 53 453 .nil))))) 54 460 (.node (.node (.node (.node (.node (.node .nil 55 466 .nil) 56 471 .nil) 57 478 (.node (.node .nil 61 485 .nil) 62 492 .nil)) 63 499 (.node (.node (.node .nil 64 504 .nil) 65 509 .nil) 66 516 (.node .nil 67 524 .nil))) 71 556 (.node (.node (.node (.node .nil 72 567 .nil) 73 574 .nil) 74 581 (.node .nil 75 588 .nil)) 76 595 (.node (.node (.node .nil 77 602 .nil) 78 609 .nil) 79 616 (.node .nil 80 623 .nil)))) 81 630 (.node (.node (.node (.node (.node .nil 91 637 .nil) 92 644 .nil) 93 649 (.node .nil 94 654 .nil)) 95 661 (.node (.node (.node .nil 96 668 .nil) 97 675 .nil) 98 682 (.node .nil 99 687 .nil))) 100 694 (.node (.node (.node (.node .nil 101 701 .nil) 102 708 .nil) 103 715 (.node .nil 104 722 .nil)) 109 730 (.node (.node (.node .nil 110 737 .nil) 111 745 .nil) 112 752 (.node .nil 113 759 .nil)))))) 114 766 (.node (.node (.node (.node (.node (.node (.node .nil 115 773 .nil) 116 780 .nil) 117 787 (.node (.node .nil 118 794 .nil) 119 801 .nil)) 120 808 (.node (.node (.node .nil 121 815 .nil) 123 820 .nil) 124 827 (.node .nil 125 834 .nil))) 126 839 (.node (.node (.node (.node .nil 127 846 .nil) 131 853 .nil) 132 860 (.node .nil 133 867 .nil)) 134 874 (.node (.node (.node .nil 135 881 .nil) 136 888 .nil) 137 895 (.node .nil 138 902 .nil)))) 139 909 (.node (.node (.node (.node (.node .nil 140 916 .nil) 141 923 .nil) 142 928 (.node .nil 143 935 .nil)) 144 942 (.node (.node (.node .nil 145 949 .nil) 146 956 .nil) 148 981 (.node .nil 150 992 .nil))) 151 999 (.node (.node (.node (.node .nil 152 1006 .nil) 153 1011 .nil) 154 1018 (.node .nil 157 1026 .nil)) 158 1033 (.node (.node (.node .nil 159 1040 .nil) 161 1057 .nil) 162 1068 (.node .nil 163 1075 .nil))))) 164 1082 (.node (.node (.node (.node (.node (.node .nil 165 1089 .nil) 166 1094 .nil) 167 1101 (.node (.node .nil 168 1108 .nil) 169 1115 .nil)) 170 1122 (.node (.node (.node .nil 171 1129 .nil) 173 1136 .nil) 174 1143 (.node .nil 175 1151 .nil))) 176 1158 (.node (.node (.node (.node .nil 177 1165 .nil) 178 1170 .nil) 179 1180 (.node .nil 180 1187 .nil)) 181 1192 (.node (.node (.node .nil 182 1199 .nil) 183 1206 .nil) 184 1213 (.node .nil 3000 37 .nil)))) 3001 44 (.node (.node (.node (.node (.node .nil 11000 115 .nil) 11001 122 .nil) 12000 143 (.node .nil 12001 150 .nil)) 12002 157 (.node (.node (.node .nil 12003 164 .nil) 12004 169 .nil) 13000 190 (.node .nil 13001 195 .nil))) 53000 420 (.node (.node (.node (.node .nil 53001 427 .nil) 53002 434 .nil) 53003 441 (.node .nil 72000 539 .nil)) 72001 546 (.node (.node (.node .nil 72002 553 .nil) 149000 971 .nil) 149001 978 (.node .nil 162000 1054 .nil)))))))
noncomputable def sR(i:Nat):Nat:=du (UF.get i) 0 λk=>k
noncomputable def j7{α:Type}(f:Nat->α->Bool)(t:BT α):Bool:=BT.rec true (λY k v Y a b=>gd a (gd (f k v) b)) t
noncomputable def pJ(t:String)(v:Value):Bool:=match v with
 |.type s=>decide (s=t)
 |_=>false
noncomputable def nP(a:Addr)(v:Value):Bool:=match v with
 |.ref b=>Vn b a
 |_=>false
noncomputable def FW(v:Value):Option Addr:=match v with
 |.ref b=>some b
 |_=>none
noncomputable def zB(v:Value):Option Str:=match v with
 |.str s _=>some s
 |_=>none
noncomputable def RN(o:Obj):Option FuncData:=match o.data with
 |.func f=>some f
 |_=>none
noncomputable def Sw(o:Obj):Option (Array Value):=match o.data with
 |.fields vs=>some vs
 |_=>none
noncomputable def T6(o:Obj):Option (Array Value):=match o.data with
 |.seq vs _=>some vs
 |_=>none
noncomputable def T7(o:Obj):Option ClassData:=match o.data with
 |.cls c=>some c
 |_=>none
noncomputable def J2(k:Nat):Str:=⟨(Nat.rec (motive:=λY=>Nat->List Nat->List Nat) (λY acc=>acc) (λY ih k acc=>Bool.rec (ih (Ws k 256) (WM k 256::acc)) acc (Vy k 1)) 60 k []).toArray⟩
noncomputable def FX(k:Nat):Bool:=Vn (cd (J2 k)) k
noncomputable def vr:Str:=Vm ".<locals>."
noncomputable def BZ:Str:=Vm "<lambda>"
section
variable(h:Addr->Option Obj)
noncomputable def B0(v:Value)(q:Str):Bool:=cR (FW v) λc=>cR (h c) λo=>cR (Sw o) λvs=>cR (dq vs[1]? zB) λq'=>decide (q'=q)
noncomputable def B1(v:Value):Option (List Value):=dq (FW v) λt=>dq (h t) λo=>dq (T6 o) λxs=>gO (pJ "tuple" o.cls) (some xs.toList)
noncomputable def UG(v:Value):Option (List UInt8):=match v with
 |.bytes b _=>some b.toList
 |_=>none
noncomputable def RO(v:Value):Option Int:=match v with
 |.int n _=>some n
 |_=>none
noncomputable def IJ(v:Value):Bool:=match v with
 |.none=>true
 |_=>false
noncomputable def J3(v:Value):Option Bool:=match v with
 |.bool b=>some b
 |_=>none
noncomputable def Sx(v:V):Option Nat:=match v with
 |.fn a=>some a
 |_=>none
noncomputable def B2(ad:Nat->Nat)(n:Nat):V->Value->Bool:=Nat.rec (λY Y=>false) (λY ih a v=>
 dj (gd (d8 a) (IJ v)) (dj (cR (iv a) λb=>cR (J3 v) λc=>b==c)
 (dj (cR (dq (dF a) fx) λn=>cR (RO v) λm=>decide (m=n))
 (dj (cR (fp a) λk=>cR (zB v) λs=>gd (Vn (cd s) k) (gd (!(Vn k 0)) (Vy s.length 1000)))
 (dj (cR (ej a) λl=>cR (B1 h v) λvs=>fw ih l vs)
 (dj (cR (sG (Sx a) (Bw a)) λi=>nP (ad i) v)
 (cR (dk a) λl=>cR (UG v) λbs=>fw (λa (b:UInt8)=>cR (fx a) λn=>decide ((b.toNat:Int)=n)) l bs))))))) n
end
noncomputable def zC(s:Stmt):Option (Arguments×List Stmt×Scope):=match s with
 |.FunctionDef _ a b _ _ _ sc _ _ _=>some (a,b,sc)
 |_=>none
noncomputable def IK(b:FuncBody):Option (List Stmt):=match b with
 |.stmts b=>some b
 |_=>none
abbrev jR:=Nat×List V
section
variable(h:Addr->Option Obj)(ad:Nat->Nat)(lc:Addr)(lq:Str)
noncomputable def IL(l:List V)(v:Value):Bool:=db (dU l) (IJ v) (B2 h ad 5 (.tup l) v)
noncomputable def Sy(f:FuncData):Bool:=cR (IK f.body) λb=>dj (!(vq b)) (gd (decide ((f.qualname++vr)++BZ=lq)) (nP lc f.code))
noncomputable def Sz(d:List V)(o:Obj)(f:FuncData):Bool:=gd (pJ "function" o.cls) (gd (IL h ad d f.defaults) (gd (B0 h f.code f.qualname) (gd (Vn f.globals mainGlobals) (gd f.closure.isEmpty (gd (Vn f.builtins 0) (Sy lc lq f))))))
noncomputable def vt(x:jR):Option (Bool×Arguments×FuncBody×Scope):=dq (h (ad x.1)) λo=>dq (RN o) λf=>some (Sz h ad lc lq x.2 o f,f.params,f.body,f.scope)
end
noncomputable def B3(x:jR):Option (Bool×Arguments×FuncBody×Scope):=dq (zC (gR x.1)) λp=>some (true,p.1,.stmts p.2.1,p.2.2)
noncomputable def ng(sc:Scope)(n:Str):Bool:=match sc.names.lookup n with
 |some .free=>false
 |_=>true
noncomputable def IM(l:List Str):Bool:=List.rec true (λx r ih=>gd (!(r.contains x)) ih) l
noncomputable def B4(a:Arguments):Bool:=gd a.posonlyargs.isEmpty (gd a.vararg.isNone (gd a.kwonlyargs.isEmpty (gd a.kw_defaults.isEmpty a.kwarg.isNone)))
noncomputable def UH(sc:Scope):Bool:=gd (xF sc.kind) (gd (!sc.isCoroutine) (gd (!sc.isGenerator) (gd (ng sc "__class__") (gd (sc.names.lookup ("__debug__":Str)).isNone (ng sc "__classdict__")))))
noncomputable def NA(x:jR):Bool:=cR (zC (gR x.1)) λp=>gd (B4 p.1) (gd (IM (p.1.args.map (·.arg))) (gd (Vy x.2.length p.1.args.length) (UH p.2.2)))
noncomputable def SA(v:V):Option Nat:=match v with
 |.bi b=>some b
 |_=>none
noncomputable def J4(t:String)(v:Value):Bool:=match v with
 |.builtin s=>decide (s=t)
 |_=>false
noncomputable def SB(v:Value):Option String:=match v with
 |.type s=>some s
 |_=>none
noncomputable def SC(v:Value):Option String:=match v with
 |.builtin s=>some s
 |_=>none
noncomputable def B5(v w:Value):Bool:=dj (cR (SB w) λs=>pJ s v) (cR (SC w) λs=>J4 s v)
section
variable(h:Heap)(ad:Nat->Nat)
noncomputable def UI(o:Obj):Option (Array DictEntry):=match o.data with
 |.dict es _=>some es
 |_=>none
noncomputable def B6(k:Nat)(l:List DictEntry):Option Value:=List.rec none (λe Y ih=>du (zB e.key) ih λs=>db (Vn (cd s) k) (some e.val) ih) l
noncomputable def J5(a:Addr)(k:Nat):Option Value:=dq (h.get? a) λo=>dq (UI o) λes=>B6 k es.toList
noncomputable def NB(k:Nat)(a:V):Bool:=du (SA a) (cR (J5 h mainGlobals k) λv=>B2 h.get? ad 6 a v) λb=>gd (J5 h mainGlobals k).isNone (cR (J5 h 0 k) λv=>B5 v (jI b))
noncomputable def tG:Bool:=gd (h.isNs mainGlobals) (gd (h.isNs 0) (j7 (NB h ad) GT))
noncomputable def UJ(id:String)(l:List (Option Value)):Bool:=gd (Vn l.length 6) (cR (dq (fF l 4) λo=>o) λv=>J4 id v)
noncomputable def NC(a:Addr)(id:String):Option ClassData:=dq (h.get? a) λo=>dq (T7 o) λc=>gO (pJ "type" o.cls) (gO (cR (nB c.mro) λp=>nP a p.1) (gO (!c.hasDel) (gO c.hasDict (gO (UJ id o.slots.toList) (some c)))))
noncomputable def J6(a:Addr):Bool:=cR (h.get? a) λo=>gd (pJ "function" o.cls) (RN o).isSome
noncomputable def B7(x:Str):Bool:=match fastLookup "object" x with
 |some none=>true
 |_=>false
noncomputable def UK(m:Str->Option Value):Bool:=gd (m "__setattr__").isNone (gd (m "__getattribute__").isNone (m "__getattr__").isNone)
noncomputable def B8(l:List String)(vs:List Value):Bool:=fw pJ l vs
noncomputable def tC(ci:Nat)(inf:gh):Bool:=cR (NC h (ad ci) "object.__new__") λc=>gd (B8 ["object"] c.mro.tail) (gd (!c.abstract) (gd (h.isNs c.ns) (gd (UK (h.nsMap c.ns)) (gd (cR (h.nsMap c.ns "__init__") (nP (ad inf.init))) (gd (J6 h (ad inf.init))
 (gd (dG inf.atts λk=>(J5 h c.ns k).isNone) (dG inf.meths λp=>gd (cR (J5 h c.ns p.1) (nP (ad p.2))) (J6 h (ad p.2)))))))))
noncomputable def tO(inf:gh):Bool:=gd (dG inf.atts λk=>gd (FX k) (B7 (J2 k))) (dG inf.meths λp=>gd (FX p.1) (fastLookup "object" (J2 p.1)).isSome)
end
section
variable(h:Heap)(ad:Nat->Nat)
noncomputable def iE(rs:List Addr)(ts:List String)(vs:List Value):Bool:=gd (fw nP rs (vs.take rs.length)) (B8 ts (vs.drop rs.length))
noncomputable def ML:List String:=["Exception","BaseException","object"]
noncomputable def B9(m:Str->Option Value):Bool:=gd (m (Vm "__setattr__")).isNone (gd (m (Vm "what")).isNone (gd (m (Vm "at")).isNone (gd (m (Vm "__getattribute__")).isNone (m (Vm "__getattr__")).isNone)))
noncomputable def tL:Bool:=cR (NC h (ad 2) "Exception.__new__") λc=>gd (iE [] ML c.mro.tail) (gd (h.isNs c.ns) (gd (cR (h.nsMap c.ns (Vm "__init__")) (nP (ad 3000))) (B9 (h.nsMap c.ns))))
noncomputable def tX(i:Nat)(inf:gh):Bool:=cR (NC h (ad i) "Exception.__new__") λc=>gd (dj (!(Vn inf.init 0)) (gd (iE [ad 2] ML c.mro.tail) (gd (h.isNs c.ns) (gd (h.nsMap c.ns (Vm "__init__")).isNone (B9 (h.nsMap c.ns))))))
 (gd (dj (iE [] ML c.mro.tail) (iE [ad 2] ML c.mro.tail)) (dG inf.atts λk=>dj (Vn k j5) (Vn k nD)))
noncomputable def tS(d c:Nat)(di:gh):Bool:=dj (!(Vn di.init 0)) (nI (ad c) [ad d,ad 2]==nI c di.mro)
noncomputable def ND(lc P:Addr):Bool:=cR (h.get? lc) λo=>cR (Sw o) λvs=>gd (pJ "code" o.cls) (gd (cR vs[11]? (nP P)) (gd (zB (vs.getD 18 .none)).isSome (gd (RO (vs.getD 7 .none)).isSome (gd (J3 (vs.getD 9 .none)).isSome (gd (RO (vs.getD 10 .none)).isSome (!(Vn lc P)))))))
noncomputable def FY(o:Obj):Bool:=match o.data with
 |.plain=>true
 |_=>false
noncomputable def T8(P:Addr):Bool:=cR (dq (h.nsMap mainGlobals "__builtins__") FW) λb=>gd (!(Vn b builtinsNs)) (gd (!(Vn b mainGlobals)) (gd (!(Vn b P)) (cR (h.get? b) λo=>gd (pJ "module" o.cls) (gd (cR o.dict λd=>Vn d builtinsNs) (FY o)))))
noncomputable def NE:Bool:=gd (h.isNs cStatics) (h.nsMap cStatics "sys.recursionlimit").isNone
noncomputable def tE:Bool:=gd (tL h ad) (gd (j7 (λi inf=>dj (!inf.exc) (gd (tX h ad i inf) (j7 (λc ci=>dj (!ci.exc) (tS ad i c inf)) CT))) CT)
 (gd (h.nsMap mainGlobals (Vm "Exception")).isNone (cR (h.nsMap 0 (Vm "Exception")) (pJ "Exception"))))
end
noncomputable def MM:V:=.tup [.int (.c 0),.int (.c 0)]
noncomputable def sS:List jR:=BT.rec [] (λY k v Y a b=>a++(k,v)::b) FD
noncomputable def vv:Str:=Vm "worth_in.<locals>.<lambda>"
noncomputable def FZ(h:Heap)(ad:Nat->Nat)(lc P:Addr):Bool:=gd (tG h ad) (gd (j7 (λci inf=>dj inf.exc (tC h ad ci inf)) CT) (gd (tE h ad) (gd (ND h lc P) (gd (T8 h P) (NE h)))))
noncomputable def SD(h:Addr->Option Obj)(ad:Nat->Nat)(lc:Addr)(lq:Str):List (Option (Bool×Arguments×FuncBody×Scope)):=List.rec [] (λx Y ih=>vt h ad lc lq x::ih) sS
noncomputable def SE:List (Option (Bool×Arguments×FuncBody×Scope)):=List.rec [] (λx Y ih=>B3 x::ih) sS
abbrev zD:=Option (Bool×Arguments×FuncBody×Scope)
section
variable{β:Type}
noncomputable def UL(a:Arguments)(K:Arguments->β):β:=match a with
 |⟨a1,a2,a3,a4,a5,a6,a7⟩=>K ⟨a1,a2,a3,a4,a5,a6,a7⟩
noncomputable def UM(a:Scope)(K:Scope->β):β:=match a with
 |⟨a1,a2,a3,a4,a5⟩=>K ⟨a1,a2,a3,a4,a5⟩
noncomputable def SG(a:FuncBody)(K:FuncBody->β):β:=match a with
 |.stmts l=>K (.stmts l)
 |.expr e=>K (.expr e)
noncomputable def T9(o:zD)(K:zD->β):β:=match o with
 |none=>K none
 |some p=>UL p.2.1 λa=>UM p.2.2.2 λs=>SG p.2.2.1 λf=>Bool.rec (K (some (false,a,f,s))) (K (some (true,a,f,s))) p.1
end
noncomputable def RP(f:jR->zD)(l:List jR):(List zD->List zD)->List zD:=List.rec (λK=>K []) (λx Y ih K=>T9 (f x) λy=>ih λr=>K (y::r)) l
noncomputable def SH(h:Addr->Option Obj)(ad:Nat->Nat)(lc:Addr)(lq:Str):List zD:=RP (vt h ad lc lq) sS λr=>r
noncomputable def SJ:List zD:=RP B3 sS λr=>r
noncomputable def zE(b:Bool):Bool:=Bool.rec false true b
noncomputable def F0:Nat:=1412581125833631304002090
noncomputable def J7(f:Nat):List Obj->List (List Obj):=Nat.rec (λY=>[]) (λY ih l=>l.take 32::ih (l.drop 32)) f
noncomputable def UN(x:Option Obj):Option Obj:=match x with
 |some ⟨_,_,.freed,_⟩=>none
 |o=>o
noncomputable def xK(h:Heap)(a:Addr):Option Obj:=UN (dq (fF (J7 h.objs.size h.objs.toList) (Ws a 32)) λl=>fF l (WM a 32))
noncomputable def SK(h:Heap):Bool:=gd (h.get? sysModules).isSome (cR (h.nsMap mainGlobals (Vm "law")) (nP (sR 184)))
noncomputable def Yf(s:Shared):Bool×List (Option (Bool×Arguments×FuncBody×Scope))×Option Obj×Bool:=(zE (FZ s.heap sR 1114 1110),SH (xK s.heap) sR 1114 vv,s.heap.get? 1110,zE (SK s.heap))
noncomputable def Ya(_:World):Bool×List (Option (Bool×Arguments×FuncBody×Scope))×Option Obj×Bool:=(true,SJ,some (tabObj #[]),true)
abbrev PG:Program:=PySem.Challenge.pw_pq0653_01
abbrev RG:OpenLaw:=PySem.Challenge.rw_pq0653_01
noncomputable def Ca(MK:SharedT->Thread->Option (SharedT×Thread))(ok:Thread->Bool):Nat->SharedT->Thread->Option SharedT
 |0,_,_=>none
 |n+1,s,t=>match through t with
  |true=>some s
  |false=>match ok t with
   |false=>none
   |true=>match MK s t with
    |some (s',t')=>Ca MK ok n s' t'
    |none=>none
theorem qm{p:Program}{w:World}{bA:Nat}{ann:Option Value}:∀{n:Nat} {s s':SharedT} {t:Thread},
  Ca (stepT (denote treeTable) p w) (stepOk bA ann) n s t=some s'->topRun treeTable p w bA ann n s.abs t=some s'.abs
 |0,_,_,_,h=>by cases h
 |n+1,s,s',t,h=>by
  unfold Ca at h
  unfold topRun
  cases ht:through t with
  |true=>rw[ht] at h;cases h;rfl
  |false=>
   rw[ht] at h
   cases hk:stepOk bA ann t with
   |false=>rw[hk] at h;cases h
   |true=>
    rw[hk] at h
    cases hs:stepT (denote treeTable) p w s t with
    |none=>rw[hs] at h;cases h
    |some r=>obtain⟨aj,bj⟩:=r;rw[hs] at h;rw[stepT_spec hs];exact qm h
noncomputable def Cb:List Obj->Nat->PySem.W.BT->PySem.W.BT
 |[],_,t=>t
 |o::r,i,t=>Cb r (i+1) (t.ins i o)
noncomputable def S0(w:World)(os:OsState):SharedT:=⟨Cb (boot_heap w.params).objs.toList 0 .nil,11,(boot_heap w.params).life,#[],boot_drawn,boot_toks,os⟩
theorem J8(w:World)(os:OsState):(S0 w os).abs=⟨boot_heap w.params,Array.mk [],boot_drawn,boot_toks,os⟩:=by kernel_rfl
noncomputable def qG:Program:={PG with main:={PG.main with body:=PG.main.body.drop 184}}
noncomputable def loose:List Str:=((PG.main.body.take 184).flatMap bindsAtTop).filter λn=>!(n==("__name__":Str))
noncomputable def Xt(s:Shared):Bool:=xlAt qG [] s&&recOk (RowW.records RG.row.toRowW) s
theorem Cc:@stepT=PySem.W.Fast.tw10156331382660048174:=PySem.W.Fast.te10156331382660048174
theorem Ka:denote=PySem.W.Fast.tw11892475500146522536:=PySem.W.Fast.te11892475500146522536
theorem Kb:treeTable=PySem.W.Fast.tw14364793385576792824:=PySem.W.Fast.te14364793385576792824
theorem NF:stepOk=PySem.W.Fast.tw6613529449190102663:=PySem.W.Fast.te6613529449190102663
theorem F1:@openSeen=PySem.W.Fast.tw4187177175401517315:=PySem.W.Fast.te4187177175401517315
noncomputable def Kc(w:World)(os:OsState):Option SharedT:=
 Ca (PySem.W.Fast.tw10156331382660048174 (PySem.W.Fast.tw11892475500146522536 PySem.W.Fast.tw14364793385576792824) PG w) (PySem.W.Fast.tw6613529449190102663 11 (some (.ref 6))) 8000 (S0 w os) (topStub PG)
noncomputable def NG(w:World)(S:SharedT):Bool:=
 staticsOk (importedModules PG.main.body) (boot_heap w.params) S.abs.heap&&namesBound PG S.abs.heap&&gensDone S.abs&&laidKept (boot_heap w.params) S.abs.heap
theorem dp{a b:Bool}(h:a=true)(k:b=true):(a&&b)=true:=by
 rw[h,k];rfl
noncomputable def vy:TablesWhole.Alg Bool:=⟨λsc n Y=>PySem.W.Fast.tw15985051520779696433 sc n,λY Y Y ok=>ok,λY=>true,true,false,λa b=>a&&b⟩
theorem Cd:TablesWhole.holds=vy:=by
 unfold TablesWhole.holds vy
 rw[PySem.W.Fast.te15985051520779696433]
theorem NH:PySem.W.Fast.tw6116379765354995101 vy RG.row.prog.main=true:=by kernel_rfl
theorem pw{p:Program}(h1:p.modules=[])(h2:p.parses=[])(h3:p.harvested=[])(h:TablesWhole.wModule TablesWhole.holds p.main=true):p.tablesWhole=true:=by
 unfold Program.tablesWhole TablesWhole.wProgram
 rw[h,h1,h2,h3];rfl
theorem NI:RG.row.prog.tablesWhole=true:=pw rfl rfl rfl (by rw[PySem.W.Fast.te6116379765354995101,Cd];exact NH)
theorem UO:PySem.W.Fast.tw17119622794617984870 (PySem.W.Fast.tw2368527892694137696 RG).prog (PySem.W.Fast.tw2368527892694137696 RG).prog.main.body (λY n=>PySem.W.Fast.tw17868728402115742887 n)=true:=by kernel_rfl
theorem UP:PySem.W.Fast.tw8326940854005059898 {strict:=!PySem.W.R.allR (PySem.W.Fast.tw5923862056798008813 (PySem.W.Fast.tw2368527892694137696 RG).prog.main.body) (@PySem.W.Fast.tw3471404346716756564 Str (@instBEqOfDecidableEq Str PySem.W.Fast.sDec) PySem.W.Fast.tw17691160309236699985),foot:=none,bare:=PySem.W.R.filterR (PySem.W.Fast.tw13343964577679436407 (PySem.W.Fast.tw2368527892694137696 RG).prog (PySem.W.Fast.tw2368527892694137696 RG).prog.main.body) [⟨⟨[118,97,114,115]⟩⟩,⟨⟨[100,105,114]⟩⟩,⟨⟨[108,111,99,97,108,115]⟩⟩]} (PySem.W.Fast.tw2368527892694137696 RG).prog.main.body=true:=by kernel_rfl
theorem UQ:PySem.W.Fast.tw12908688711261696721 (PySem.W.Fast.tw2368527892694137696 RG).prog=true:=by
 refine dp (dp ?_ UP) UO
 kernel_rfl
theorem w1:PySem.W.Fast.tw17960256430627541270 (PySem.W.Fast.tw2368527892694137696 RG)=true:=by
 refine(dp (dp (dp (dp (dp (dp (dp (dp (dp (dp (dp (dp (dp (dp (dp UQ ?_) ?_) ?_) ?_) ?_) ?_) ?_) ?_) ?_) ?_) ?_) ?_) ?_) ?_) ?_)
 all_goals kernel_rfl
theorem UR:PySem.W.Fast.tw17119622794617984870 RG.prog RG.above (λY n=>!@PySem.W.Fast.tw3471404346716756564 Str (@instBEqOfDecidableEq Str PySem.W.Fast.sDec) (PySem.W.Fast.tw10792542408131684335 RG) n)=true:=by kernel_rfl
theorem Ce:RG.wellSaid=true:=by
 have h:PySem.W.Fast.tw9446332074065402090 RG=true:=by
  refine(dp (dp (dp (dp (dp (dp (dp (dp (dp (dp (dp (dp (dp (dp (dp (dp (dp (dp w1 ?_) ?_) ?_) ?_) ?_) ?_) ?_) ?_) ?_) ?_) ?_) ?_) ?_) ?_) ?_) ?_) UR) ?_)
  all_goals kernel_rfl
 exact(congrFun PySem.W.Fast.te9446332074065402090 RG).trans h
theorem SL:∀(w:World) (os:OsState),(Kc w os).map (λS=>Yf S.abs)=some (Ya w):=by
 intro w os
 kernel_rfl
theorem SM:∀(w:World) (os:OsState),(Kc w os).map (λS=>(NG w S,PySem.W.Fast.tw4187177175401517315 qG loose (importedModules PG.main.body) Xt true S.abs))=some (true,openGood qG loose):=by
 intro w os
 kernel_rfl
theorem F2{w:World}{os:OsState}{S:SharedT}(h:Kc w os=some S):topRun treeTable PG w 11 (some (.ref 6)) 8000 ⟨boot_heap w.params,Array.mk [],boot_drawn,boot_toks,os⟩ (topStub PG)=some S.abs:=by
 have:Ca (stepT (denote treeTable) PG w) (stepOk 11 (some (.ref 6))) 8000 (S0 w os) (topStub PG)=some S:=by
  rw[Cc,Ka,Kb,NF];exact h
 have:=qm this
 rw[J8] at this
 exact this
theorem zF(w:World):∃os,fencedOpening treeTable PG w 8000=some ⟨boot_heap w.params,Array.mk [],boot_drawn,boot_toks,os⟩:=by
 have h:=boot_open (p:=PG) (N:=8000) (by kernel_rfl) (by decide) (λs=>by kernel_rfl) w
 refine e12 (Option.map_eq_some_iff.mp h) λs hs hv=>?_
 obtain⟨hp,g,d,t,os⟩:=s
 simp only[Prod.mk.injEq] at hv
 refine e04 hv λzq1 zq2 zq3 zq4=>?_;clear hv
 cases zq1
 cases zq2
 cases zq3
 cases zq4
 exact⟨os,hs⟩
noncomputable def Cg:Option Value->Bool
 |some (.ref a)=>Vn a 6
 |_=>false
theorem F3{x:Option Value}(h:Cg x=true):x=some (.ref 6):=by
 unfold Cg at h
 split at h
 .rw[W7 h]
 .cases h
theorem F4{p:Program}{w:World}{N n:Nat}{ann:Option Value}{s₀ S:Shared}(h0:fencedOpening treeTable p w N=some s₀)(h1:(s₀.heap.isNs mainGlobals&&s₀.gens.size==0)=true)
  (e2:s₀.heap.objs.size=n) (e3:s₀.heap.nsMap mainGlobals "__annotations__"=ann) (h2:topRun treeTable p w n ann N s₀ (topStub p)=some S)
  (h3:(staticsOk (importedModules p.main.body) s₀.heap S.heap&&namesBound p S.heap&&gensDone S&&laidKept s₀.heap S.heap)=true):openEnds treeTable p w N=some S:=by
 subst e2 e3
 unfold openEnds
 rw[h0,Xn]
 unfold topFrom
 rw[h1]
 dsimp only
 rw[h2,Xn]
 rw[h3]
noncomputable def NJ(w:World)(os:OsState):Shared:=⟨boot_heap w.params,Array.mk [],boot_drawn,boot_toks,os⟩
theorem F5(w:World)(os:OsState):((NJ w os).heap.isNs mainGlobals&&(NJ w os).gens.size==0)=true:=by kernel_rfl
theorem F6(w:World)(os:OsState):(NJ w os).heap.objs.size=11:=by kernel_rfl
theorem Ch(w:World)(os:OsState):(NJ w os).heap.nsMap mainGlobals "__annotations__"=some (.ref 6):=F3 (by kernel_rfl)
theorem jg:LeftO PG qG loose Xt Yf Ya 8000:=λw=>by
 refine e11 (zF w) λos ho=>?_
 refine e12 (Option.map_eq_some_iff.mp (SM w os)) λS hS he=>?_
 have he1:=congrArg WP he
 have he2:=congrArg Prod.snd he
 have he3:Yf S.abs=Ya w:=by
  have q:=SL w os
  rw[hS] at q
  exact Vl q
 have key:openEnds treeTable PG w 8000=some S.abs:=F4 (s₀:=NJ w os) ho (F5 w os) (F6 w os) (Ch w os) (F2 hS) he1
 rw[key,F1,Option.map_some]
 exact congrArg some (Prod.ext he2 he3)
theorem Ci:RG.row.toRowW.promised:=by w_witness2
theorem NK:(chainsOk qG&&opensWell PG&&(frees RG.row.toRowW&&RG.row.toRowW.within.isEmpty))=true:=by kernel_rfl
noncomputable def rb:DefRec:=match PG.main.body.drop 184 with
 |.FunctionDef n a b _ _ _ sc _ _ pos::_=>⟨n,a,b,sc,pos⟩
 |_=>⟨"",default,[],default,default⟩
theorem Kd:defOf qG RG.row.toRowW.name=some (rb,[]):=by kernel_rfl
theorem Ke:PG.theDef RG.row.toRowW.name=some (rb.params,rb.body,rb.scope):=by kernel_rfl
theorem en{a b:Nat}(h:Vn a b=false):a≠b:=λe=>by subst e;simp at h
theorem dg{a b:Nat}(h:a≠b):Vn a b=false:=by
 cases e:Vn a b with
 |false=>rfl
 |true=>exact absurd (W7 e) h
theorem cX{a b:Nat}(h:Vn a b=true):a=b:=W7 h
theorem xL{α:Type}{p q:Prop}[Decidable p][Decidable q](h:p↔q){a b:α}:(if p then a else b)=if q then a else b:=by
 by_cases hp:p
 .rw[if_pos hp,if_pos (h.mp hp)]
 .rw[if_neg hp,if_neg λx=>hp (h.mpr x)]
inductive St:Nat->Option (Bool×Nat)->Prop
 |z:St 0 none
 |o (k:Nat):St (2 * k+1) (some (true,k))
 |e (k:Nat):St (2 * k+2) (some (false,k))
theorem xM(i:Nat):∃x,St i x:=by
 have h:=Nat.div_add_mod i 2
 rcases Nat.mod_two_eq_zero_or_one i with e|e
 .rw[e] at h
  cases hk:i / 2 with
  |zero=>rw[hk] at h;subst h;exact⟨_,St.z⟩
  |succ k=>rw[hk] at h;subst h;exact⟨_,St.e k⟩
 .rw[e] at h;exact⟨some (true,i / 2),by have:=St.o (i / 2);rwa [h] at this⟩
theorem Kg(k:Nat):Ws (2 * k+1) 2=k/\Vn (WM (2 * k+1) 2) 1=true:=by
 have h1:(2 * k+1) / 2=k:=by rw[Wg,Nat.add_mul_div_left 1 k (W5)];exact VQ k
 have h2:(2 * k+1) % 2=1:=by rw[Wg];exact Nat.add_mul_mod_self_left 1 2 k
 exact⟨h1,by show Vn ((2 * k+1) % 2) 1=true;rw[h2];rfl⟩
theorem Kh(k:Nat):Xv (Ws (2 * k+2) 2) 1=k/\Vn (WM (2 * k+2) 2) 1=false:=by
 have h1:(2 * k+2) / 2=k+1:=by rw[Wg,Nat.add_mul_div_left 2 k (W5)];exact Wg 1 k
 have h2:(2 * k+2) % 2=0:=by rw[Wg,Nat.add_mul_mod_self_left 2 2 k]
 exact⟨by show(2 * k+2) / 2 - 1=k;rw[h1];rfl,by show Vn ((2 * k+2) % 2) 1=false;rw[h2];rfl⟩
noncomputable def Cj{α:Type}(x:Option (Bool×Nat))(a:α)(l r:Nat->α):α:=match x with
 |none=>a
 |some (true,k)=>l k
 |some (false,k)=>r k
theorem sT{α:Type}{i:Nat}{x:Option (Bool×Nat)}(s:St i x)(a:α)(l r:Nat->α):(Bool.rec (Bool.rec (r (Xv (Ws i 2) 1)) (l (Ws i 2)) (Vn (WM i 2) 1)) a (Vn i 0):α)=Cj x a l r:=by
 cases s with
 |z=>rfl
 |o k=>obtain⟨h1,h2⟩:=Kg k;rw[h2,h1];rfl
 |e k=>obtain⟨h1,h2⟩:=Kh k;rw[h2,h1];rfl
theorem xN{i k f:Nat}{b:Bool}(s:St i (some (b,k)))(h:i<f+1):k<f:=by
 have hk:k<i:=by
  cases s with
  |o=>exact WS (Nat.le_mul_of_pos_left k W5)
  |e=>exact WS (Nat.le_succ_of_le (Nat.le_mul_of_pos_left k W5))
 exact Vt hk (Wf h)
theorem Ck{i j:Nat}{x y:Option (Bool×Nat)}(s:St i x)(t:St j y):x=y↔i=j:=by
 constructor
 .rintro rfl
  cases s<;>cases t<;>rfl
 .rintro rfl
  have e:=(sT s (none:Option (Bool×Nat)) (λk=>some (true,k)) λk=>some (false,k)).symm.trans (sT t (none:Option (Bool×Nat)) (λk=>some (true,k)) λk=>some (false,k))
  have id_:∀x:Option (Bool×Nat),Cj x none (λk=>some (true,k)) (λk=>some (false,k))=x:=λx=>by
   match x with
   |none=>rfl
   |some (true,_)=>rfl
   |some (false,_)=>rfl
  rw[id_,id_] at e;exact e
theorem xO{x y:Option (Bool×Nat)}{o:Option O}{a:Option O}{l r:Nat->Option O}:Cj y (Cj x o (λY=>a) λY=>a) (λj=>Cj x (l j) (λk=>if k=j then o else l j) λY=>l j) (λj=>Cj x (r j) (λY=>r j) λk=>if k=j then o else r j)=if x=y then o else Cj y a l r:=by
 match x,y with
 |none,none=>rw[if_pos rfl];rfl
 |none,some (true,_)=>rw[if_neg (λe=>by cases e)];rfl
 |none,some (false,_)=>rw[if_neg (λe=>by cases e)];rfl
 |some (true,_),none=>rw[if_neg (λe=>by cases e)];rfl
 |some (false,_),none=>rw[if_neg (λe=>by cases e)];rfl
 |some (true,_),some (false,_)=>rw[if_neg (λe=>by cases e)];rfl
 |some (false,_),some (true,_)=>rw[if_neg (λe=>by cases e)];rfl
 |some (true,k),some (true,j)=>
  by_cases q:k=j
  .rw[if_pos (congrArg (λk=>some (true,k)) q)];exact if_pos q
  .rw[if_neg (λe=>q (by cases e;rfl))];exact if_neg q
 |some (false,k),some (false,j)=>
  by_cases q:k=j
  .rw[if_pos (congrArg (λk=>some (false,k)) q)];exact if_pos q
  .rw[if_neg (λe=>q (by cases e;rfl))];exact if_neg q
theorem TR.get_n{v:Option O}{l r:TR}{i:Nat}{x:Option (Bool×Nat)}(s:St i x):TR.get (.n v l r) i=Cj x v l.get r.get:=sT s v l.get r.get
theorem TR.getE(o:O):∀(f i j:Nat),i<f->(TR.setE o f i).get j=if i=j then some o else none
 |0,_,_,h=>absurd h (VE _)
 |f+1,i,j,h=>by
  refine e11 (xM i) λx sx=>?_
  refine e11 (xM j) λy sy=>?_
  have e:TR.setE o (f+1) i=Cj x (.n (some o) .e .e) (λk=>.n none (TR.setE o f k) .e) λk=>.n none .e (TR.setE o f k):=sT (α:=TR) sx (.n (some o) .e .e) (λk=>.n none (TR.setE o f k) .e) λk=>.n none .e (TR.setE o f k)
  have z:=xO (x:=x) (y:=y) (o:=some o) (a:=none) (l:=λY=>none) (r:=λY=>none)
  have n0:Cj y (none:Option O) (λY=>none) (λY=>none)=none:=by
   match y with
   |none=>rfl
   |some (true,_)=>rfl
   |some (false,_)=>rfl
  rw[n0] at z
  rw[e,<-xL (Ck sx sy),<-z]
  match x,sx with
  |none,_=>exact TR.get_n sy
  |some (true,k),sx=>exact(TR.get_n sy).trans (by rw[show(TR.setE o f k).get=λj=>if k=j then some o else none from funext λj=>TR.getE o f k j (xN sx h)];rfl)
  |some (false,k),sx=>exact(TR.get_n sy).trans (by rw[show(TR.setE o f k).get=λj=>if k=j then some o else none from funext λj=>TR.getE o f k j (xN sx h)];rfl)
theorem TR.get_set(o:O):∀(f:Nat) (t:TR) (i j:Nat),i<f->(TR.set o f t i).get j=if i=j then some o else t.get j
 |f,.e,i,j,h=>TR.getE o f i j h
 |f,.n v l r,i,j,h=>by
  refine e11 (xM i) λx sx=>?_
  refine e11 (xM j) λy sy=>?_
  have e:TR.set o f (.n v l r) i=Cj x (.n (some o) l r) (λk=>.n v (TR.set o f l k) r) λk=>.n v l (TR.set o f r k):=sT (α:=TR) sx (.n (some o) l r) (λk=>.n v (TR.set o f l k) r) λk=>.n v l (TR.set o f r k)
  rw[e,TR.get_n sy,<-xL (Ck sx sy),<-xO (x:=x) (y:=y)]
  match x,sx with
  |none,_=>exact TR.get_n sy
  |some (true,k),sx=>exact(TR.get_n sy).trans (by rw[show(TR.set o f l k).get=λj=>if k=j then some o else l.get j from funext λj=>TR.get_set o f l k j (xN sx (V2 h))];rfl)
  |some (false,k),sx=>exact(TR.get_n sy).trans (by rw[show(TR.set o f r k).get=λj=>if k=j then some o else r.get j from funext λj=>TR.get_set o f r k j (xN sx (V2 h))];rfl)
theorem aget_cons(d:Option O)(i j:Nat)(o:O)(l:List (Nat×O)):pH d i ((j,o)::l)=if j=i then some o else pH d i l:=by
 refine(?_:(Bool.rec (pH d i l) (some o) (Vn j i):Option O)=_)
 by_cases h:j=i
 .subst h;rw[show Vn j j=true from VT j];simp
 .rw[dg h];simp[h]
theorem flush_get(t:TR)(j:Nat):∀l:List (Nat×O),(A6 t l).get j=pH (t.get j) j l
 |[]=>rfl
 |(i,o)::l=>by
  rw[aget_cons,<-flush_get t j l]
  exact TR.get_set o _ _ i j (VS _)
theorem H.get_mk(a:List (Nat×O))(k:Nat)(t:TR)(n i:Nat):H.get ⟨a,k,t,n⟩ i=pH (t.get i) i a:=rfl
theorem lH(i j:Nat)(o:O)(a:List (Nat×O))(k:Nat)(t:TR)(n:Nat):(km i o a k t n).get j=if i=j then some o else pH (t.get j) j a:=by
 unfold km
 cases Vy k 12 with
 |true=>show pH (t.get j) j ((i,o)::a)=_;rw[aget_cons]
 |false=>show pH ((A6 t a).get j) j [(i,o)]=_;rw[aget_cons,flush_get];rfl
theorem iF(i:Nat)(o:O)(a:List (Nat×O))(k:Nat)(t:TR)(n:Nat):(km i o a k t n).length=n:=by
 unfold km;cases Vy k 12<;>rfl
theorem H.get_set(h:H)(i j:Nat)(o:O):(h.set i o).get j=if i=j then some o else h.get j:=by
 obtain⟨a,k,t,n⟩:=h
 cases a with
 |nil=>exact lH i j o [] k t n
 |cons p r=>
  obtain⟨q,x⟩:=p
  refine(?_:H.get (Bool.rec (km i o ((q,x)::r) k t n) ⟨(i,o)::r,k,t,n⟩ (Vn q i)) j=_)
  cases h:Vn q i with
  |false=>exact lH i j o _ k t n
  |true=>
   have:=cX h;subst this
   refine(?_:pH (t.get j) j ((q,o)::r)=_)
   rw[aget_cons,H.get_mk,aget_cons]
   by_cases e:q=j<;>simp[e]
theorem H.get_push(h:H)(j:Nat)(o:O):(h.push o).get j=if h.length=j then some o else h.get j:=by
 obtain⟨a,k,t,n⟩:=h
 exact lH n j o a k t (n+1)
@[simp] theorem H.length_set(h:H)(i:Nat)(o:O):(h.set i o).length=h.length:=by
 obtain⟨a,k,t,n⟩:=h
 cases a with
 |nil=>exact iF i o [] k t n
 |cons p r=>
  obtain⟨q,x⟩:=p
  refine(?_:H.length (Bool.rec (km i o ((q,x)::r) k t n) ⟨(i,o)::r,k,t,n⟩ (Vn q i))=_)
  cases Vn q i with
  |false=>exact iF i o _ k t n
  |true=>rfl
@[simp] theorem H.length_push(h:H)(o:O):(h.push o).length=h.length+1:=by
 obtain⟨a,k,t,n⟩:=h
 exact iF n o a k t (n+1)
theorem F7{α:Type}(x:Nat):eJ ([]:List (Nat×α)) x=none:=rfl
theorem dZ{α:Type}(k:Nat)(v:α)(r:List (Nat×α))(x:Nat):eJ ((k,v)::r) x=match Vn k x with|true=>some v|false=>eJ r x:=by
 refine(?_:(Bool.rec (eJ r x) (some v) (Vn k x):Option α)=_)
 cases Vn k x<;>rfl
theorem jh{α:Type}(k:Nat)(w:α)(r:List (Nat×α))(x:Nat)(v:α):nC ((k,w)::r) x v=match Vn k x with|true=>(k,v)::r|false=>(k,w)::nC r x v:=by
 refine(?_:(Bool.rec ((k,w)::nC r x v) ((k,v)::r) (Vn k x):List (Nat×α))=_)
 cases Vn k x<;>rfl
theorem Cl{a a' c c':Nat}(b1:c<256)(b2:c'<256)(e:a * 256+c=a' * 256+c'):a=a'/\c=c':=by
 have:c=c':=by
  have:=congrArg (·% 256) e
  rwa [Nat.mul_add_mod_self_right,Nat.mul_add_mod_self_right,WX b1,WX b2] at this
 subst this
 exact⟨Nat.eq_of_mul_eq_mul_right (by decide) (Nat.add_right_cancel e),rfl⟩
theorem F8:∀(l l':List Nat) (a a':Nat),qi l a≠0->qi l a=qi l' a'->l.length=l'.length->l=l'/\a=a':=by
 intro l
 induction l with
 |nil=>intro l' a a' h e hl;cases l' with|nil=>exact⟨rfl,e⟩|cons=>simp at hl
 |cons c r ih=>
  intro l' a a' h e hl
  cases l' with
  |nil=>simp at hl
  |cons c' r'=>
   have h:(match V3 c 256 with|true=>qi r (WN (Wv a 256) c)|false=>0)≠0:=h
   have e:(match V3 c 256 with|true=>qi r (WN (Wv a 256) c)|false=>0)=(match V3 c' 256 with|true=>qi r' (WN (Wv a' 256) c')|false=>0):=e
   cases hc:V3 c 256 with
   |false=>rw[hc] at h;exact absurd rfl h
   |true=>
    rw[hc] at h e
    cases hc':V3 c' 256 with
    |false=>rw[hc'] at e;exact absurd e h
    |true=>
     rw[hc'] at e
     refine e02 (ih r' _ _ h e (by simpa using hl)) λe1 e2=>?_
     have b1:c<256:=Vw hc
     have b2:c'<256:=Vw hc'
     have e2:a * 256+c=a' * 256+c':=e2
     have:a=a'/\c=c':=Cl b1 b2 e2
     exact⟨by rw[e1,this.2],this.1⟩
theorem vz:∀(l:List Nat) (a:Nat),qi l a≠0->a * 256 ^ l.length≤qi l a/\qi l a<(a+1) * 256 ^ l.length
 |[],a,_=>⟨Vu (Nat.mul_one a),Nat.lt_of_lt_of_eq (VS a) (Nat.mul_one _).symm⟩
 |c::r,a,h=>by
  have h:(match V3 c 256 with|true=>qi r (WN (Wv a 256) c)|false=>0)≠0:=h
  refine(?_:a * 256 ^ (r.length+1)≤(match V3 c 256 with|true=>qi r (WN (Wv a 256) c)|false=>0)/\(match V3 c 256 with|true=>qi r (WN (Wv a 256) c)|false=>0)<(a+1) * 256 ^ (r.length+1))
  cases hc:V3 c 256 with
  |false=>rw[hc] at h;exact absurd rfl h
  |true=>
   rw[hc] at h
   have b1:c<256:=Vw hc
   refine e02 (vz r _ h) λx y=>?_
   have hx:(a * 256+c) * 256 ^ r.length≤qi r (WN (Wv a 256) c):=x
   have hy:qi r (WN (Wv a 256) c)<(a * 256+c+1) * 256 ^ r.length:=y
   constructor
   .refine Vo ?_ hx
    rw[Nat.pow_succ,Nat.mul_comm (256 ^ r.length),<-Nat.mul_assoc]
    exact Nat.mul_le_mul_right _ (Wr _ _)
   .refine Vt hy ?_
    rw[Nat.pow_succ,Nat.mul_comm (256 ^ r.length),<-Nat.mul_assoc]
    exact Nat.mul_le_mul_right _ (by omega)
theorem F9{l l':List Nat}(h:qi l 1≠0)(e:qi l 1=qi l' 1):l.length=l'.length:=by
 refine e02 (vz l 1 h) λx y=>?_
 refine e02 (vz l' 1 (e▸h)) λx' y'=>?_
 rw[<-e] at x' y'
 have two:∀n:Nat,(1+1) * 256 ^ n≤1 * 256 ^ (n+1):=λn=>by
  rw[Nat.pow_succ,Nat.one_mul,Nat.mul_comm];exact Nat.mul_le_mul_left _ (by decide)
 rcases Nat.lt_trichotomy l.length l'.length with q|q|q
 .have:=Nat.pow_le_pow_right (n:=256) (by decide) q
  have:=two l.length
  omega
 .exact q
 .have:=Nat.pow_le_pow_right (n:=256) (by decide) q
  have:=two l'.length
  omega
theorem et{a b:Str}(h:cd a≠0)(e:cd a=cd b):a=b:=by
 have hl:=F9 h e
 have:=(F8 _ _ _ _ h e hl).1
 obtain⟨⟨x⟩⟩:=a;obtain⟨⟨y⟩⟩:=b
 exact congrArg (λl=>(⟨⟨l⟩⟩:Str)) this
section
def dO(σ:Nat->Int):AI->Int->Prop
 |.c m,n=>n=m
 |.s k lo hi,n=>n=σ k/\lo≤n/\n≤hi
 |.u lo hi,n=>(∀l,lo=some l->l≤n)/\(∀h,hi=some h->n≤h)
 |.st l,n=>n∈l
 |.pb d,n=>0≤n/\n≤σ 999+d/\σ 999≤1000000
variable{σ:Nat->Int}
def Lb(o:Option Int)(n:Int):Prop:=∀l,o=some l->l≤n
def Ub(o:Option Int)(n:Int):Prop:=∀h,o=some h->n≤h
theorem fT{x n:Int}(h:x≤n):Lb (some x) n:=λY e=>Vl e▸h
theorem iG{x n:Int}(h:n≤x):Ub (some x) n:=λY e=>Vl e▸h
theorem ky(a b:Int):mP a b≤a:=Int.min_le_left a b
theorem kA(a b:Int):mP a b≤b:=Int.min_le_right a b
theorem ji(a b:Int):a≤lE a b:=Int.le_max_left a b
theorem jj(a b:Int):b≤lE a b:=Int.le_max_right a b
theorem xP:∀{l:List Int} {n:Int},n∈l->Lb (uS l) n
 |x::r,n,hn,y,h=>by
  have ih:=λq:n∈r=>xP q
  unfold uS at h
  cases hb:uS r with
  |none=>
   rw[hb] at h ih;cases h
   cases hn with
   |head=>exact WJ _
   |tail _ hn=>cases r with
    |nil=>cases hn
    |cons z r=>unfold uS at hb;revert hb;cases uS r<;>exact λq=>nomatch q
  |some z=>
   rw[hb] at h ih;cases h
   cases hn with
   |head=>exact ky _ _
   |tail _ hn=>exact Vz (kA _ _) (ih hn z rfl)
theorem xQ:∀{l:List Int} {n:Int},n∈l->Ub (uU l) n
 |x::r,n,hn,y,h=>by
  have ih:=λq:n∈r=>xQ q
  unfold uU at h
  cases hb:uU r with
  |none=>
   rw[hb] at h ih;cases h
   cases hn with
   |head=>exact WJ _
   |tail _ hn=>cases r with
    |nil=>cases hn
    |cons z r=>unfold uU at hb;revert hb;cases uU r<;>exact λq=>nomatch q
  |some z=>
   rw[hb] at h ih;cases h
   cases hn with
   |head=>exact ji _ _
   |tail _ hn=>exact Vz (ih hn z rfl) (jj _ _)
theorem dO.lb{a:AI}{n:Int}(h:dO σ a n):Lb a.lo n:=by
 cases a with
 |c m=>exact fT (Int.le_of_eq h.symm)
 |s k lo hi=>exact fT h.2.1
 |u lo hi=>exact h.1
 |st L=>exact xP h
 |pb d=>exact fT h.1
theorem dO.ub{a:AI}{n:Int}(h:dO σ a n):Ub a.hi n:=by
 cases a with
 |c m=>exact iG (Int.le_of_eq h)
 |s k lo hi=>exact iG h.2.2
 |u lo hi=>exact h.2
 |st L=>exact xQ h
 |pb d=>exact iG (Vz h.2.1 (Int.add_le_add_right h.2.2 _))
theorem dO.lo{a:AI}{n l:Int}(h:dO σ a n)(e:a.lo=some l):l≤n:=h.lb l e
theorem dO.hi{a:AI}{n l:Int}(h:dO σ a n)(e:a.hi=some l):n≤l:=h.ub l e
theorem dO.cst{a:AI}{n x:Int}(h:dO σ a n)(e:a.cst=some x):n=x:=by
 cases a with
 |c m=>cases e;exact h
 |_=>cases e
theorem gz{lo hi:Option Int}{n:Int}(h1:Lb lo n)(h2:Ub hi n):dO σ (A8 lo hi) n:=by
 cases lo with
 |none=>exact⟨h1,h2⟩
 |some a=>
  cases hi with
  |none=>exact⟨h1,h2⟩
  |some b=>
   refine(?_:dO σ (if a=b then .c a else .u (some a) (some b)) n)
   by_cases e:a=b
   .rw[if_pos e];exact W6 (e▸h2 b rfl) (h1 a rfl)
   .rw[if_neg e];exact⟨h1,h2⟩
theorem qn{f:Int->Int->Int}{p q:Option Int}{k:Int}(h:∀x y,p=some x->q=some y->f x y≤k):Lb (o2 f p q) k:=λl e=>by
 cases p with
 |none=>cases e
 |some x=>cases q with
  |none=>cases e
  |some y=>cases e;exact h x y rfl rfl
theorem mC{f:Int->Int->Int}{p q:Option Int}{k:Int}(h:∀x y,p=some x->q=some y->k≤f x y):Ub (o2 f p q) k:=λl e=>by
 cases p with
 |none=>cases e
 |some x=>cases q with
  |none=>cases e
  |some y=>cases e;exact h x y rfl rfl
theorem IN{f:Int->Int}{p:Option Int}{k:Int}(h:∀x,p=some x->f x≤k):Lb (o1 f p) k:=λl e=>by
 cases p with
 |none=>cases e
 |some x=>cases e;exact h x rfl
theorem IO{f:Int->Int}{p:Option Int}{k:Int}(h:∀x,p=some x->k≤f x):Ub (o1 f p) k:=λl e=>by
 cases p with
 |none=>cases e
 |some x=>cases e;exact h x rfl
theorem fA{C:Prop}{o:Option Int}{f:Int->Option AI}{z:AI}(h:mQ o f=some z)(k:∀x,o=some x->f x=some z->C):C:=by
 cases o with
 |none=>cases h
 |some x=>exact k x rfl h
theorem gB{C:Prop}{b:Bool}{q:Option AI}{z:AI}(h:mw b q=some z)(k:b=true->q=some z->C):C:=by
 cases b with
 |false=>cases h
 |true=>exact k rfl h
theorem vA{p q:Option Int}{C:Prop}(h:AX p q=true)(k:∀x y,p=some x->q=some y->x≤y->C):C:=by
 cases p with
 |none=>cases h
 |some x=>cases q with
  |none=>cases h
  |some y=>exact k x y rfl rfl (of_decide_eq_true h)
theorem Ki{p q:Option Int}{C:Prop}(h:ltZ p q=true)(k:∀x y,p=some x->q=some y->x<y->C):C:=by
 cases p with
 |none=>cases h
 |some x=>cases q with
  |none=>cases h
  |some y=>exact k x y rfl rfl (of_decide_eq_true h)
theorem nQ{a b:AI}{m n:Int}(ha:dO σ a m)(hb:dO σ b n)(h:ltZ a.hi b.lo=true):m<n:=Ki h λY Y e1 e2 q=>VW (ha.hi e1) (Ww q (hb.lo e2))
theorem vB{a b:AI}{m n:Int}(ha:dO σ a m)(hb:dO σ b n)(h:AX a.hi b.lo=true):m≤n:=vA h λY Y e1 e2 q=>Vz (ha.hi e1) (Vz q (hb.lo e2))
theorem dO.addG{a b:AI}{m n:Int}(ha:dO σ a m)(hb:dO σ b n):dO σ (a.addG b) (m+n):=
 gz (qn λY Y e1 e2=>Int.add_le_add (ha.lo e1) (hb.lo e2)) (mC λY Y e1 e2=>Int.add_le_add (ha.hi e1) (hb.hi e2))
theorem dO.add{a b:AI}{m n:Int}(ha:dO σ a m)(hb:dO σ b n):dO σ (a.add b) (m+n):=by
 cases a with
 |pb d=>
  cases b with
  |c k=>
   refine(?_:dO σ (if k=1 then .pb (VU d) else AI.addG (.pb d) (.c k)) (m+n))
   by_cases e:k=1
   .rw[if_pos e]
    have h2:n=k:=hb
    subst h2 e
    exact⟨Int.add_nonneg ha.1 (by decide),by rw[Nat.succ_eq_add_one,Int.natCast_add,<-Int.add_assoc];exact Int.add_le_add_right ha.2.1 1,ha.2.2⟩
   .rw[if_neg e];exact ha.addG hb
  |_=>exact ha.addG hb
 |_=>exact ha.addG hb
theorem dO.sub{a b:AI}{m n:Int}(ha:dO σ a m)(hb:dO σ b n):dO σ (a.sub b) (m - n):=
 gz (qn λY Y e1 e2=>Int.sub_le_sub (ha.lo e1) (hb.hi e2)) (mC λY Y e1 e2=>Int.sub_le_sub (ha.hi e1) (hb.lo e2))
theorem dO.neg{a:AI}{m:Int}(ha:dO σ a m):dO σ a.neg (-m):=
 gz (IN λY e=>Int.neg_le_neg (ha.hi e)) (IO λY e=>Int.neg_le_neg (ha.lo e))
theorem Cm{x y z c:Int}(h1:x≤y)(h2:y≤z):mP (x * c) (z * c)≤y * c:=by
 rcases Int.le_total 0 c with h|h
 .exact Vz (ky _ _) (WE h1 h)
 .exact Vz (kA _ _) (Int.mul_le_mul_of_nonpos_right h2 h)
theorem Cn{x y z c:Int}(h1:x≤y)(h2:y≤z):y * c≤lE (x * c) (z * c):=by
 rcases Int.le_total 0 c with h|h
 .exact Vz (WE h2 h) (jj _ _)
 .exact Vz (Int.mul_le_mul_of_nonpos_right h1 h) (ji _ _)
theorem xR{x y z c:Int}(h1:x≤y)(h2:y≤z):mP (c * x) (c * z)≤c * y:=by
 rw[WO c x,WO c z,WO c y];exact Cm h1 h2
theorem xS{x y z c:Int}(h1:x≤y)(h2:y≤z):c * y≤lE (c * x) (c * z):=by
 rw[WO c x,WO c z,WO c y];exact Cn h1 h2
theorem zG{a b a' b':Int}(h1:a≤a')(h2:b≤b'):mP a b≤mP a' b':=Int.le_min.mpr ⟨Vz (ky _ _) h1,Vz (kA _ _) h2⟩
theorem zH{a b a' b':Int}(h1:a≤a')(h2:b≤b'):lE a b≤lE a' b':=Int.max_le.mpr ⟨Vz h1 (ji _ _),Vz h2 (jj _ _)⟩
theorem dO.mulB{a b z:AI}{m n:Int}(ha:dO σ a m)(hb:dO σ b n)(e:a.mulB b=some z):dO σ z (m * n):=
 fA e λY e1 e=>fA e λY e2 e=>fA e λY e3 e=>fA e λY e4 e=>Vl e▸gz
  (fT (Vz (zG (xR (hb.lo e3) (hb.hi e4)) (xR (hb.lo e3) (hb.hi e4))) (Cm (ha.lo e1) (ha.hi e2))))
  (iG (Vz (Cn (ha.lo e1) (ha.hi e2)) (zH (xS (hb.lo e3) (hb.hi e4)) (xS (hb.lo e3) (hb.hi e4)))))
theorem dO.div{a b z:AI}{m n:Int}(ha:dO σ a m)(hb:dO σ b n)(e:a.div b=some z):dO σ z (m / n)/\0<n:=
 fA e λx e1 e=>gB e λh e=>by
  have h:=of_decide_eq_true h
  cases e
  rw[hb.cst e1]
  exact⟨gz (IN λY e=>Int.ediv_le_ediv h (ha.lo e)) (IO λY e=>Int.ediv_le_ediv h (ha.hi e)),h⟩
theorem Ga{a:AI}{m n:Int}(ha:dO σ a m)(h:0<n):dO σ (Jw a n) (m % n):=by
 unfold Jw
 cases e:a.cst with
 |some x=>rw[ha.cst e];exact rfl
 |none=>
  cases hb:Sg a n with
  |false=>exact⟨fT (Int.emod_nonneg m (Xw h)),iG (Int.le_sub_one_of_lt (Int.emod_lt_of_pos m h))⟩
  |true=>
   unfold Sg at hb
   cases e1:a.lo with
   |none=>rw[e1] at hb;cases hb
   |some l=>
    rw[e1] at hb
    cases e2:a.hi with
    |none=>rw[e2] at hb;cases hb
    |some u=>
     rw[e2] at hb
     refine e02 (Bool.and_eq_true_iff.mp hb) λh1 h2=>?_
     rw[Int.emod_eq_of_lt (Vz (of_decide_eq_true h1) (ha.lo e1)) (VW (ha.hi e2) (of_decide_eq_true h2))]
     exact gz (fT (ha.lo e1)) (iG (ha.hi e2))
theorem dO.mod{a b z:AI}{m n:Int}(ha:dO σ a m)(hb:dO σ b n)(e:a.mod b=some z):dO σ z (m % n)/\0<n:=
 fA e λx e1 e=>gB e λh e=>by
  have h:=of_decide_eq_true h
  cases e
  rw[hb.cst e1]
  exact⟨Ga ha h,h⟩
theorem re{a b:Int}(h0:0≤a)(h:a≤b):∀k:Nat,a ^ k≤b ^ k/\0≤a ^ k
 |0=>by rw[Int.pow_zero,Int.pow_zero];exact⟨WJ _,by decide⟩
 |k+1=>by
  refine e02 (re h0 h k) λx y=>?_
  rw[Int.pow_succ,Int.pow_succ]
  exact⟨Vz (WE x h0) (Int.mul_le_mul_of_nonneg_left h (Vz y x)),Int.mul_nonneg y h0⟩
theorem dO.pow{a b z:AI}{m n:Int}(ha:dO σ a m)(hb:dO σ b n)(e:a.pow b=some z):dO σ z (m ^ n.toNat)/\(0≤n/\n≤1000)/\2≤m:=
 fA e λx e1 e=>fA e λl e2 e=>fA e λh e3 e=>gB e λh0 e=>gB e λh1 e=>gB e λh2 e=>by
  have h2:=of_decide_eq_true h2
  have hm:=Vz h2 (ha.lo e2)
  have hl:0≤l:=Vz (by decide) h2
  rw[hb.cst e1]
  cases e
  exact⟨gz (fT (re hl (ha.lo e2) _).1) (iG (re (Vz (by decide) hm) (ha.hi e3) _).1),⟨of_decide_eq_true h0,of_decide_eq_true h1⟩,hm⟩
theorem dO.abs{a:AI}{m:Int}(ha:dO σ a m):dO σ a.abs (if 0≤m then m else -m):=by
 unfold AI.abs
 cases e1:AX (some 0) a.lo with
 |true=>exact vA e1 λY Y q e h=>by cases q;rw[if_pos (Vz h (ha.lo e))];exact ha
 |false=>
  cases e2:AX a.hi (some 0) with
  |true=>
   refine vA e2 λY Y e q h=>?_
   cases q
   have hm:=Vz (ha.hi e) h
   have:(if 0≤m then m else -m)= -m:=by
    by_cases q:0≤m
    .rw[if_pos q,W6 hm q];rfl
    .exact if_neg q
   rw[this];exact ha.neg
  |false=>
   by_cases q:0≤m
   .rw[if_pos q];exact⟨fT q,mC λY Y Y e=>Vz (ha.hi e) (jj _ _)⟩
   .rw[if_neg q]
    refine⟨fT (Int.neg_nonneg_of_nonpos (Wt (Int.not_le.mp q))),mC λY Y e Y=>?_⟩
    cases e3:a.lo with
    |none=>rw[e3] at e;cases e
    |some l=>rw[e3] at e;cases e;exact Vz (Int.neg_le_neg (ha.lo e3)) (ji _ _)
theorem nh(x:Bool):x∈[true,false]:=by cases x<;>first|exact Vq|exact Vr _ Vq
theorem rg{a b:AI}{m n:Int}(ha:dO σ a m)(hb:dO σ b n):decide (m<n)∈MG a b:=by
 unfold MG
 cases e1:ltZ a.hi b.lo with
 |true=>exact List.mem_singleton.mpr (decide_eq_true (nQ ha hb e1))
 |false=>
  cases e2:AX b.hi a.lo with
  |true=>exact List.mem_singleton.mpr (decide_eq_false (Int.not_lt.mpr (vB hb ha e2)))
  |false=>exact nh _
theorem Gc{α:Type}{f:α->Bool}{l:List α}{x:α}(hx:x∈l)(h:f x=true):lD f l=true:=by
 induction l with
 |nil=>exact absurd hx Vv
 |cons a r ih=>
  refine(?_:dj (f a) (lD f r)=true)
  cases hx with
  |head=>rw[h];rfl
  |tail _ hx=>
   cases f a with
   |true=>rfl
   |false=>exact ih hx
theorem Co{x:Int}{l:List Int}(h:x∈l):uV x l=true:=Gc h (decide_eq_true rfl)
theorem xT{x:Int}{b:AI}{n:Int}(hb:dO σ b n):decide (x=n)∈Jx x b:=by
 cases b with
 |st l=>
  refine(?_:_∈(match uV x l with|true=>[true,false]|false=>[false]))
  cases e:uV x l with
  |true=>exact nh _
  |false=>exact List.mem_singleton.mpr (decide_eq_false λq=>by rw[q,Co hb] at e;cases e)
 |_=>exact nh _
theorem Cp{a b:AI}{m n:Int}(ha:dO σ a m)(hb:dO σ b n)(h:A9 a b=true):m=n:=by
 cases a with
 |s j l u=>cases b with
  |s k l' u'=>have h:=cX h;subst h;exact ha.1.trans hb.1.symm
  |_=>cases h
 |_=>cases h
theorem vC{a b:AI}{m n:Int}{d:List Bool}(ha:dO σ a m)(hb:dO σ b n)(hd:decide (m=n)∈d):decide (m=n)∈M2 d a b:=by
 unfold M2
 cases e1:A9 a b with
 |true=>exact List.mem_singleton.mpr (decide_eq_true (Cp ha hb e1))
 |false=>
  cases e2:(ltZ a.hi b.lo||ltZ b.hi a.lo) with
  |true=>
   refine List.mem_singleton.mpr (decide_eq_false ?_)
   rcases Bool.or_eq_true_iff.mp e2 with e|e
   .exact Int.ne_of_lt (nQ ha hb e)
   .exact Xw (nQ hb ha e)
  |false=>exact hd
theorem rh{a b:AI}{m n:Int}(ha:dO σ a m)(hb:dO σ b n):decide (m=n)∈MH a b:=by
 unfold MH
 cases e1:a.cst with
 |some x=>
  cases e2:b.cst with
  |some y=>rw[ha.cst e1,hb.cst e2];exact List.mem_singleton.mpr rfl
  |none=>exact vC ha hb (ha.cst e1▸xT hb)
 |none=>
  cases e2:b.cst with
  |some y=>exact vC ha hb (by rw[hb.cst e2,show decide (m=y)=decide (y=m) from decide_eq_decide.mpr ⟨Eq.symm,Eq.symm⟩];exact xT ha)
  |none=>exact vC ha hb (nh _)
theorem iH{l:List Bool}{K:Bool->Bool}{b:Bool}(h:sH l K=true)(hb:b∈l):K b=true:=by
 cases l with
 |nil=>exact nomatch hb
 |cons x r=>
  cases r with
  |nil=>rw[List.mem_singleton.mp hb];exact h
  |cons y r=>
   have h:=Bool.and_eq_true_iff.mp (show(K true&&K false)=true from h)
   cases b with
   |true=>exact h.1
   |false=>exact h.2
theorem cT{C:Prop}{b k:Bool}(h:gd b k=true)(f:b=true->k=true->C):C:=by
 cases b with
 |true=>exact f rfl h
 |false=>cases h
theorem iX{a b c:Bool}{C:Prop}(h:gd a (gd b c)=true)(f:a=true->b=true->c=true->C):C:=cT h λh1 h=>cT h λh2 h3=>f h1 h2 h3
theorem Fq{a b c d:Bool}{C:Prop}(h:gd a (gd b (gd c d))=true)(f:a=true->b=true->c=true->d=true->C):C:=cT h λh1 h=>iX h λh2 h3 h4=>f h1 h2 h3 h4
theorem Gd{a b c d e:Bool}{C:Prop}(h:gd a (gd b (gd c (gd d e)))=true)(f:a=true->b=true->c=true->d=true->e=true->C):C:=cT h λh1 h=>Fq h λh2 h3 h4 h5=>f h1 h2 h3 h4 h5
theorem RQ{a b c d e i:Bool}{C:Prop}(h:gd a (gd b (gd c (gd d (gd e i))))=true)(f:a=true->b=true->c=true->d=true->e=true->i=true->C):C:=cT h λh1 h=>Gd h λh2 h3 h4 h5 h6=>f h1 h2 h3 h4 h5 h6
theorem MN{a b c d e i j:Bool}{C:Prop}(h:gd a (gd b (gd c (gd d (gd e (gd i j)))))=true)(f:a=true->b=true->c=true->d=true->e=true->i=true->j=true->C):C:=cT h λh1 h=>RQ h λh2 h3 h4 h5 h6 h7=>f h1 h2 h3 h4 h5 h6 h7
theorem ri{C:Prop}(f:∀G:Prop,(C->G)->G):C:=f C id
theorem IP{b k:Bool}(h:gd b k=true):b=true/\k=true:=cT h λx y=>⟨x,y⟩
theorem Cq{n:Nat}{b:Bool}(h:Nl n b=true):n≤10000/\b=true:=cT h λe h=>⟨Vw e,h⟩
theorem eL{C:Prop}{a b:Bool}(h:dj a b=true)(f:a=true->C)(k:b=true->C):C:=by
 cases a with
 |true=>exact f rfl
 |false=>exact k h
theorem Cr{C:Prop}{a b d:Bool}(h:dj a (dj b d)=true)(f0:a=true->C)(f1:b=true->C)(f2:d=true->C):C:=eL h f0 λh=>eL h f1 f2
theorem RR{C:Prop}{a b d e:Bool}(h:dj a (dj b (dj d e))=true)(f0:a=true->C)(f1:b=true->C)(f2:d=true->C)(f3:e=true->C):C:=eL h f0 λh=>Cr h f1 f2 f3
theorem MO{C:Prop}{a b d e i:Bool}(h:dj a (dj b (dj d (dj e i)))=true)(f0:a=true->C)(f1:b=true->C)(f2:d=true->C)(f3:e=true->C)(f4:i=true->C):C:=eL h f0 λh=>RR h f1 f2 f3 f4
theorem SN{C:Prop}{a b d e i j:Bool}(h:dj a (dj b (dj d (dj e (dj i j))))=true)(f0:a=true->C)(f1:b=true->C)(f2:d=true->C)(f3:e=true->C)(f4:i=true->C)(f5:j=true->C):C:=eL h f0 λh=>MO h f1 f2 f3 f4 f5
theorem US{C:Prop}{a b d e i j p:Bool}(h:dj a (dj b (dj d (dj e (dj i (dj j p)))))=true)(f0:a=true->C)(f1:b=true->C)(f2:d=true->C)(f3:e=true->C)(f4:i=true->C)(f5:j=true->C)(f6:p=true->C):C:=eL h f0 λh=>SN h f1 f2 f3 f4 f5 f6
theorem Ge{α β:Type}{o:Option α}{d:β}{f:α->β}{P:β->Prop}(h1:∀x,o=some x->P (f x))(h2:o=none->P d):P (du o d f):=by
 cases o with
 |some x=>exact h1 x rfl
 |none=>exact h2 rfl
theorem fM{α:Type}{C:Prop}{o:Option α}{d:Bool}{f:α->Bool}(h:du o d f=true)(h1:∀x,o=some x->f x=true->C)(h2:o=none->d=true->C):C:=by
 cases o with
 |some x=>exact h1 x rfl h
 |none=>exact h2 rfl h
theorem Cs{C:Prop}{b x y:Bool}(h:db b x y=true)(h1:b=true->x=true->C)(h2:b=false->y=true->C):C:=by
 cases b with
 |true=>exact h1 rfl h
 |false=>exact h2 rfl h
theorem eW{C:Prop}{D:i5}{b:Bool}(h:iy D b=true)(f:D.quiet=false->b=true->C):C:=
 Bool.rec (motive:=λq=>D.quiet=q->(match q with|true=>false|false=>b)=true->C) (λe h=>f e h) (λY h=>ft h) D.quiet rfl h
theorem cW{C:Prop}{α β:Type}{o:Option α}{f:α->Option β}{y:β}(h:dq o f=some y)(k:∀x,o=some x->f x=some y->C):C:=by
 cases o with
 |some x=>exact k x rfl h
 |none=>exact nn h
theorem dK{C:Prop}{α:Type}{b:Bool}{o:Option α}{y:α}(h:gO b o=some y)(k:b=true->o=some y->C):C:=by
 cases b with
 |true=>exact k rfl h
 |false=>exact nn h
theorem fN{C:Prop}{α:Type}{a b:Option α}{y:α}(h:sG a b=some y)(f:a=some y->C)(k:b=some y->C):C:=by
 cases a with
 |some x=>exact f h
 |none=>exact k h
theorem dO.mul{σ:Nat->Int}{a b z:AI}{m n:Int}(ha:dO σ a m)(hb:dO σ b n)(e:a.mul b=some z):dO σ z (m * n):=
 fN e (λe=>ha.mulB hb e) λe=>fA e λY e1 e=>fA e λY e2 e=>gB e λh1 e=>gB e λh2 e=>Vl e▸⟨fT (Int.mul_nonneg (Vz (of_decide_eq_true h1) (ha.lo e1)) (Vz (of_decide_eq_true h2) (hb.lo e2))),λY q=>nn q⟩
theorem dP{b:Bool}(h:(!b)=true):b=false:=by
 cases b with
 |false=>rfl
 |true=>exact ft h
theorem cP{α:Type}{C:Prop}{o:Option α}{K:α->Bool}(h:cR o K=true)(f:∀x,o=some x->K x=true->C):C:=by
 cases o with
 |some x=>exact f x rfl h
 |none=>cases h
theorem xU{α:Type}{o:Option α}{K:α->Bool}(h:cR o K=true):∃x,o=some x/\K x=true:=by
 cases o with
 |some x=>exact⟨x,rfl,h⟩
 |none=>cases h
theorem c9{α:Type}{K:α->Bool}{l:List α}{v:α}(h:dG l K=true)(hv:v∈l):K v=true:=by
 induction l with
 |nil=>exact absurd hv Vv
 |cons a r ih=>
  exact cT h λh1 h2=>by
   cases hv with
   |head=>exact h1
   |tail _ hv=>exact ih h2 hv
theorem iI{C:Prop}{α:Type}{f:α->Bool}{l:List α}(h:lD f l=true)(k:∀x,x∈l->f x=true->C):C:=by
 induction l with
 |nil=>exact ft h
 |cons a r ih=>exact eL h (k a Vq) λh=>ih h λx hx=>k x (Vr _ hx)
@[elab_as_elim] theorem dI{α β:Type}{F:α->β->Bool}{P:List α->List β->Prop}{l:List α}{l':List β}(h:fw F l l'=true)(nil:P [] [])(cons:∀x r y r',F x y=true->P r r'->P (x::r) (y::r')):P l l':=by
 induction l generalizing l' with
 |nil=>
  cases l' with
  |nil=>exact nil
  |cons=>exact ft h
 |cons x r ih=>
  cases l' with
  |nil=>exact ft h
  |cons y r'=>exact cT h λh1 h2=>cons x r y r' h1 (ih h2)
theorem fV{α β:Type}{F:α->β->Bool}{l:List α}{l':List β}(h:fw F l l'=true):l'.length=l.length:=dI h rfl λY Y Y Y Y e=>congrArg (· +1) e
theorem kC{α:Type}{F:Nat->α->Bool}{l:List α}{p:α}:∀{i j:Nat},xn F l i=true->l[j]? =some p->F (i+j) p=true:=by
 induction l with
 |nil=>exact λY e=>nn e
 |cons x r ih=>
  intro i j h e
  exact cT h λh1 h2=>by
   cases j with
   |zero=>cases e;exact h1
   |succ j=>exact(show i+(j+1)=VU i+j from(Nat.succ_add i j).symm)▸ih h2 e
theorem jC{α:Type}{l:List α}{x:α}(h:gw l=some x):l=[x]:=
 cW h λp e h=>dK h λh1 h2=>by
  cases l with
  |nil=>exact nn e
  |cons y r=>
   cases e;cases h2
   cases r with
   |nil=>rfl
   |cons=>exact ft h1
theorem Gf{a b z:AI}{m n:Int}(ha:dO σ a m)(hb:dO σ b n)(e:JL a b=some z):dO σ z (if m<n then n else m):=by
 unfold JL at e
 cases e1:ltZ b.hi a.lo with
 |true=>rw[e1] at e;cases e;rw[if_neg (Int.not_lt.mpr (Wt (nQ hb ha e1)))];exact ha
 |false=>
  rw[e1] at e
  cases e2:AX a.hi b.lo with
  |true=>
   rw[e2] at e;cases e
   by_cases q:m<n
   .rw[if_pos q];exact hb
   .rw[if_neg q,W6 (vB ha hb e2) (Int.not_lt.mp q)];exact hb
  |false=>
   rw[e2] at e;cases e
   by_cases q:m<n
   .rw[if_pos q];exact gz (qn λY Y e1 e2=>Int.max_le.mpr ⟨Vz (ha.lo e1) (Wt q),hb.lo e2⟩) (mC λY Y Y e2=>Vz (hb.hi e2) (jj _ _))
   .rw[if_neg q];exact gz (qn λY Y e1 e2=>Int.max_le.mpr ⟨ha.lo e1,Vz (hb.lo e2) (Int.not_lt.mp q)⟩) (mC λY Y e1 Y=>Vz (ha.hi e1) (ji _ _))
theorem Gg{a b z:AI}{m n:Int}(ha:dO σ a m)(hb:dO σ b n)(e:JM a b=some z):dO σ z (if n<m then n else m):=by
 unfold JM at e
 cases e1:ltZ a.hi b.lo with
 |true=>rw[e1] at e;cases e;rw[if_neg (Int.not_lt.mpr (Wt (nQ ha hb e1)))];exact ha
 |false=>
  rw[e1] at e
  cases e2:AX b.hi a.lo with
  |true=>
   rw[e2] at e;cases e
   by_cases q:n<m
   .rw[if_pos q];exact hb
   .rw[if_neg q,W6 (Int.not_lt.mp q) (vB hb ha e2)];exact hb
  |false=>
   rw[e2] at e;cases e
   by_cases q:n<m
   .rw[if_pos q];exact gz (qn λY Y Y e2=>Vz (kA _ _) (hb.lo e2)) (mC λY Y e1 e2=>Int.le_min.mpr ⟨Vz (Wt q) (ha.hi e1),hb.hi e2⟩)
   .rw[if_neg q];exact gz (qn λY Y e1 Y=>Vz (ky _ _) (ha.lo e1)) (mC λY Y e1 e2=>Int.le_min.mpr ⟨ha.hi e1,Vz (Int.not_lt.mp q) (hb.hi e2)⟩)
theorem nR{α:Type}{p:Bool}{a j:α}(h:(if p then some a else none)=some j):p=true/\a=j:=by
 cases p with
 |true=>exact⟨rfl,Vl h⟩
 |false=>cases h
inductive NL(n:Nat):Int->Nat->Prop
 |up (j:Nat) (h:j<n):NL n (j:Int) j
 |down (i:Int) (j:Nat) (h:j<n) (e:i+n=j) (hi:i<0):NL n i j
theorem rj{n:Nat}{i:Int}{j:Nat}(h:JH n i=some j):NL n i j:=by
 unfold JH seqIndex? at h
 by_cases hn:i<0
 .rw[if_pos hn] at h
  refine e02 (nR h) λhb zq5=>?_
  cases zq5
  refine e02 (Bool.and_eq_true_iff.mp hb) λh1 h2=>?_
  have h1:=of_decide_eq_true h1
  exact .down i _ ((Int.toNat_lt h1).mpr (of_decide_eq_true h2)) (Wu h1).symm hn
 .rw[if_neg hn] at h
  refine e02 (nR h) λhb zq6=>?_
  cases zq6
  refine e02 (Bool.and_eq_true_iff.mp hb) λh1 h2=>?_
  have h1:=of_decide_eq_true h1
  have:=NL.up (n:=n) i.toNat ((Int.toNat_lt h1).mpr (of_decide_eq_true h2))
  rwa [Wu h1] at this
theorem Ct{n j:Nat}(h:j<n):seqIndex? (j:Int) n=some j:=by
 unfold seqIndex?
 rw[if_neg (Int.not_lt.mpr (VV j))]
 exact(if_pos (Bool.and_eq_true_iff.mpr ⟨decide_eq_true (VV j),decide_eq_true (Int.ofNat_lt.mpr h)⟩)).trans (congrArg some (VH j))
theorem Cu{n j:Nat}{i:Int}(h:j<n)(e:i+n=j)(hi:i<0):seqIndex? i n=some j:=by
 unfold seqIndex?
 rw[if_pos hi,e]
 exact(if_pos (Bool.and_eq_true_iff.mpr ⟨decide_eq_true (VV j),decide_eq_true (Int.ofNat_lt.mpr h)⟩)).trans (congrArg some (VH j))
theorem gC{a:V}{k:Nat}(h:fu a=some k):a=.ref k:=by
 cases a with
 |ref k=>cases h;rfl
 |_=>cases h
theorem Gh{o:Option O}{l:List V}(h:gj o=some l):o=some (.list l):=by
 cases o with
 |none=>cases h
 |some o=>cases o with
  |list l=>cases h;rfl
  |_=>cases h
theorem Gi{o:Option O}{l:List (Nat×V)}(h:nA o=some l):o=some (.dict l):=by
 cases o with
 |none=>cases h
 |some o=>cases o with
  |dict l=>cases h;rfl
  |_=>cases h
theorem qo{t:Expr}(h:nM t=true):∃es k p,t=.Tuple es k p:=by
 cases t<;>first|exact⟨_,_,_,rfl⟩|cases h
noncomputable def Cv:Expr->Bool
 |.Slice .. =>true
 |_=>false
theorem Kj{i:Expr}(h:Cv i=true):∃lo hi st p,i=.Slice lo hi st p:=by
 cases i<;>first|exact⟨_,_,_,_,rfl⟩|cases h
end
section
section
variable{α:Type}{M:Model}{A:Around}{E:Value->Shared->Prop}{s:Shared}{Q:α->Shared->Prop}
theorem eB{c:Prop}[Decidable c]{a b:Sem α}(h:¬c)(hb:wpAny M A b Q E s):wpAny M A (if c then a else b) Q E s:=by rw[if_neg h];exact hb
theorem jU{c:Prop}[Decidable c]{a b:Sem α}(h:c)(hb:wpAny M A a Q E s):wpAny M A (if c then a else b) Q E s:=by rw[if_pos h];exact hb
end
structure Cf where
 n:Nat
 ρ:Nat->Addr
 δ:Nat->Addr
 T:Addr->List Value->Prop
 N:Nat->Prop
 D:Addr->Obj->Prop
structure dA(c c':Cf):Prop where
 n:c.n≤c'.n
 ρ:∀k,k<c.n->c'.ρ k=c.ρ k
 δ:∀k,k<c.n->c'.δ k=c.δ k
 T:∀a vs,c.T a vs->c'.T a vs
 N:∀k,c.N k->c'.N k
 D:∀a o,c.D a o->c'.D a o
 M:∀k,k<c.n->c'.N k->c.N k
structure Gb where
 C:i5
 σ:Nat->Int
 w:Nat->Addr
 fa:Nat->Addr
 ca:Nat->Addr
 B:Heap
 R:Addr->Obj->Prop
 S:Addr->Obj->Prop
 M0:Option Addr
 lc:Addr
 P:Addr
 lq:Str
 dl:Nat
 ul:Nat
 s0:Shared
 T0:Addr->List Value->Prop
 wd:World
 pr:Program
 TK:Nat->Cf->Value->Prop
 tkh:∀{c:Cf} {k:Nat} {v:Value},TK k c v->handedOut v=pure v
 tkx:∀{c c':Cf} {k:Nat} {v:Value},(∀a vs,c.T a vs->c'.T a vs)->TK k c v->TK k c' v
theorem dA.refl(c:Cf):dA c c:=⟨VA _,λY Y=>rfl,λY Y=>rfl,λY Y h=>h,λY h=>h,λY Y h=>h,λY Y h=>h⟩
theorem dA.trans{a b c:Cf}(x:dA a b)(y:dA b c):dA a c:=
 ⟨Vo x.n y.n,λk h=>(y.ρ k (Vt h x.n)).trans (x.ρ k h),λk h=>(y.δ k (Vt h x.n)).trans (x.δ k h),λa vs h=>y.T a vs (x.T a vs h),λk h=>y.N k (x.N k h),λa o h=>y.D a o (x.D a o h),λk h q=>x.M k h (y.M k (Vt h x.n) q)⟩
def BR(σ:Nat->Int):List AI->List UInt8->Prop
 |[],bs=>bs=[]
 |a::r,bs=>∃b t,bs=b::t/\dO σ a (b.toNat:Int)/\BR σ r t
mutual
def VR(g:Gb)(c:Cf):V->Value->Prop
 |.none,v=>v=.none
 |.bool b,v=>v=.bool b
 |.int a,v=>∃n t,v=.int n t/\dO g.σ a n
 |.str k,v=>∃s t,v=.str s t/\cd s=k/\k≠0/\s.length≤1000
 |.strU n,v=>∃s t,v=.str s t/\s.length≠0/\s.length≤n/\n≤100000
 |.bytes l,v=>∃b t,v=.bytes b t/\BR g.σ l b.toList
 |.tup l,v=>∃a vs,v=.ref a/\c.T a vs/\da g c l vs
 |.wr k,v=>v=.ref (g.w k)
 |.ref k,v=>k<c.n/\v=.ref (c.ρ k)
 |.fn i,v=>v=.ref (g.fa i)
 |.cls i,v=>v=.ref (g.ca i)
 |.bi x,v=>v=jI x
 |.tok k,v=>g.TK k c v
def da(g:Gb)(c:Cf):List V->List Value->Prop
 |[],vs=>vs=[]
 |a::r,vs=>∃x xs,vs=x::xs/\VR g c a x/\da g c r xs
end
variable{g:Gb}{c c':Cf}
theorem IQ{P:V->Prop}(atom:∀a,ej a=none->P a)(tup:∀l,(∀a,a∈l->P a)->P (.tup l))(a:V):P a:=
 V.rec (motive_1:=P) (motive_2:=λl=>∀a,a∈l->P a) (atom _ rfl) (λY=>atom _ rfl) (λY=>atom _ rfl) (λY=>atom _ rfl) (λY=>atom _ rfl) (λY=>atom _ rfl) (λl ih=>tup l ih) (λY=>atom _ rfl) (λY=>atom _ rfl) (λY=>atom _ rfl) (λY=>atom _ rfl) (λY=>atom _ rfl) (λY=>atom _ rfl)
  (λY h=>absurd h Vv) (λx r h1 h2 a h=>(List.mem_cons.mp h).elim (λe=>e▸h1) (h2 a)) a
theorem da.cons{a:V}{r:List V}{x:Value}{xs:List Value}(h1:VR g c a x)(h2:da g c r xs):da g c (a::r) (x::xs):=⟨x,xs,rfl,h1,h2⟩
theorem da.map{g g':Gb}{l:List V}:∀{vs:List Value},(∀a,a∈l->∀v,VR g c a v->VR g' c' a v)->da g c l vs->da g' c' l vs:=by
 induction l with
 |nil=>exact λY x=>x
 |cons a r ih=>
  intro vs h x
  refine e23 x λy ys h1 h2 h3=>?_;clear x
  exact⟨y,ys,h1,h a Vq _ h2,ih (λb hb=>h b (Vr _ hb)) h3⟩
def Gj:Type:={F:Nat->Cf->Value->Prop // (∀{c k v},F k c v->handedOut v=pure v)/\∀{c c':Cf} {k v},(∀a vs,c.T a vs->c'.T a vs)->F k c v->F k c' v}
noncomputable def Gb.tk(g:Gb)(F:Gj):Gb:={g with TK:=F.1,tkh:=λ{_ _ _} h=>F.2.1 h,tkx:=λ{_ _ _ _} e h=>F.2.2 e h}
noncomputable def Gb.own(g:Gb):Gj:=⟨g.TK,λh=>g.tkh h,λe h=>g.tkx e h⟩
theorem vD{F F':Gj}(hT:∀a vs,c.T a vs->c'.T a vs)(hK:∀k v,F.1 k c v->F'.1 k c' v)(S:V->Prop)(hR:∀k,S (.ref k)->k<c.n->k<c'.n/\c'.ρ k=c.ρ k)(hS:∀l a,S (.tup l)->a∈l->S a)(a:V):S a->∀v,VR (g.tk F) c a v->VR (g.tk F') c' a v:=
 IQ (P:=λa=>S a->∀v,VR (g.tk F) c a v->VR (g.tk F') c' a v) (λa e s v h=>by
  cases a with
  |tup=>exact nn' e
  |ref k=>
   refine e02 h λh1 h2=>?_;clear h
   exact⟨(hR k s h1).1,h2.trans (congrArg Value.ref (hR k s h1).2.symm)⟩
  |tok k=>exact hK k v h
  |_=>exact h) (λl ih s v h=>by
  refine e23 h λx vs h1 h2 h3=>?_;clear h
  exact⟨x,vs,h1,hT _ _ h2,h3.map λa ha=>ih a ha (hS l a s ha)⟩) a
theorem VR.ext(e:dA c c'){a:V}{v:Value}(h:VR g c a v):VR g c' a v:=
 vD (g:=g) (F:=g.own) (F':=g.own) e.T (λY Y h=>g.tkx e.T h) (λY=>True) (λk Y h=>⟨Vt h e.n,e.ρ k h⟩) (λY Y Y Y=>trivial) a trivial v h
theorem da.ext(e:dA c c'){a:List V}{v:List Value}(h:da g c a v):da g c' a v:=h.map λY Y Y h=>h.ext e
theorem da.length{l:List V}:∀{vs:List Value},da g c l vs->vs.length=l.length:=by
 induction l with
 |nil=>exact λh=>congrArg List.length h
 |cons a r ih=>
  intro vs h
  refine e23 h λx xs h1 Y h3=>?_;clear h
  exact h1▸congrArg (· +1) (ih h3)
theorem da.nil:da g c [] []:=rfl
theorem xV{C:Prop}{a:V}{vs:List Value}(hv:da g c [a] vs)(k:∀v,vs=[v]->VR g c a v->C):C:=by
 refine e23 hv λx xs e h1 h2=>?_;clear hv
 exact k x (e.trans (congrArg (x::·) h2)) h1
theorem sU{C:Prop}{a b:V}{vs:List Value}(hv:da g c [a,b] vs)(k:∀v w,vs=[v,w]->VR g c a v->VR g c b w->C):C:=by
 refine e23 hv λx xs e0 h1 h2=>?_;clear hv
 exact xV h2 λw e hw=>k x w (e0.trans (congrArg (x::·) e)) h1 hw
theorem da.append{l l':List V}{vs vs':List Value}(h:da g c l vs)(h':da g c l' vs'):da g c (l++l') (vs++vs'):=by
 induction l generalizing vs with
 |nil=>exact(show vs=[] from h)▸h'
 |cons a r ih=>
  refine e23 h λx xs e h2 h3=>?_;clear h
  exact e▸da.cons h2 (ih h3)
theorem da.nth{v:V}{l:List V}:∀{vs:List Value} {i:Nat},da g c l vs->fF l i=some v->∃x,vs[i]? =some x/\VR g c v x:=by
 induction l with
 |nil=>exact λY e=>nn e
 |cons a r ih=>
  intro vs i h e
  refine e23 h λx xs e0 h2 h3=>?_;clear h
  subst e0
  cases i with
  |zero=>exact⟨x,rfl,Vl e▸h2⟩
  |succ i=>exact ih (i:=i) h3 e
theorem nS{α:Type}{l:List α}:∀{i:Nat},fF l i=none->l.length≤i:=by
 induction l with
 |nil=>exact λY=>V6 _
 |cons a r ih=>
  intro i e
  cases i with
  |zero=>exact nn' e
  |succ i=>exact V1 (ih e)
def NR(g:Gb)(c:Cf)(m:List (Nat×V))(mm:Str->Option Value):Prop:=
 ∀x,cd x≠0->match eJ m (cd x) with|some a=>∃v,mm x=some v/\VR g c a v|none=>mm x=none
theorem NR.ext{m:List (Nat×V)}{mm:Str->Option Value}(e:dA c c')(h:NR g c m mm):NR g c' m mm:=λx hx=>by
 have:=h x hx
 cases ha:eJ m (cd x) with
 |none=>rw[ha] at this;exact this
 |some a=>rw[ha] at this;obtain⟨v,h1,h2⟩:=this;exact⟨v,h1,h2.ext e⟩
theorem NR.get{m:List (Nat×V)}{mm:Str->Option Value}{x:Str}{a:V}(h:NR g c m mm)(hx:cd x≠0)(e:eJ m (cd x)=some a):∃v,mm x=some v/\VR g c a v:=by
 have:=h x hx;rw[e] at this;exact this
theorem kE{α:Type}(k:Nat)(v:α)(x:Nat)(m:List (Nat×α)):eJ (nC m k v) x=if x=k then some v else eJ m x:=by
 have c1:∀(r:List (Nat×α)),eJ ((k,v)::r) x=if x=k then some v else eJ r x:=λr=>by
  rw[dZ]
  by_cases e:x=k
  .rw[if_pos e,e,VT]
  .rw[if_neg e,dg (Ne.symm e)]
 induction m with
 |nil=>exact c1 []
 |cons p r ih=>
  obtain⟨k',w⟩:=p
  rw[jh]
  cases h:Vn k' k with
  |true=>
   have e0:=cX h
   subst e0
   refine(c1 r).trans ?_
   by_cases e:x=k'
   .rw[if_pos e,if_pos e]
   .rw[if_neg e,if_neg e,dZ,dg (Ne.symm e)]
  |false=>
   refine(?_:eJ ((k',w)::nC r k v) x=_)
   rw[dZ,dZ,ih]
   cases h2:Vn k' x with
   |false=>rfl
   |true=>exact(if_neg λe=>en h ((cX h2).trans e)).symm
theorem NR.put{m:List (Nat×V)}{mm:Str->Option Value}{x:Str}{a:V}{v:Value}(h:NR g c m mm)(hx:cd x≠0)(hv:VR g c a v):
  NR g c (nC m (cd x) a) (λy=>if y=x then some v else mm y):=λy hy=>by
 rw[kE]
 by_cases e:y=x
 .subst e;rw[if_pos rfl];exact⟨v,if_pos rfl,hv⟩
 .have:cd y≠cd x:=λq=>e (et hy q)
  rw[if_neg this]
  have:=h y hy
  cases ha:eJ m (cd y) with
  |none=>rw[ha] at this;show(if y=x then some v else mm y)=none;rw[if_neg e];exact this
  |some a=>rw[ha] at this;obtain⟨w,h1,h2⟩:=this;exact⟨w,(if_neg e).trans h1,h2⟩
theorem NR.nil:NR g c [] (λY=>none):=λY Y=>rfl
def RS(g:Gb)(c:Cf):Option V->Option Value->Prop
 |none,v=>v=none
 |some a,v=>∃x,v=some x/\VR g c a x
def PR(g:Gb)(c:Cf):List (Nat×V)->List (Str×Value)->Prop
 |[],es=>es=[]
 |(k,a)::r,es=>∃s v t,es=(s,v)::t/\cd s=k/\k≠0/\s.length≤1000/\VR g c a v/\PR g c r t
def Kk(x:Nat)(ar:Arguments):Prop:=∃n an p,ar=⟨[],[⟨n,an,p⟩],none,[],[],none,[]⟩/\cd n=x
def CR(c:Cf)(cells:List (Str×Addr))(cs:List (Nat×Nat))(D:Str->Prop):Prop:=∀x i,cd x≠0->D x->eJ cs (cd x)=some i->i<c.n/\cells.lookup x=some (c.ρ i)
def nT(q:Str)(c:Cf)(cv:Value):Prop:=∃c' oc vs t,cv=.ref c'/\c.D c' oc/\oc.data=.fields vs/\vs[1]? =some (.str q t)
theorem nT.ext{q:Str}{cv:Value}(e:dA c c')(h:nT q c cv):nT q c' cv:=by
 refine e43 h λa b d t h1 h2 h3=>?_;clear h
 exact⟨a,b,d,t,h1,e.D _ _ h2,h3⟩
structure SO(fd:FuncData)(x:Nat)(body:Expr)(sc:List (Nat×NameKind)):Prop where
 par:Kk x fd.params
 body:fd.body=.expr body
 names:dH fd.scope.names=sc
 kind:fd.scope.kind=.function
 co:fd.scope.isCoroutine=false
 gen:fd.scope.isGenerator=false
 glob:fd.globals=mainGlobals
 bi:fd.builtins=0
 dfl:fd.defaults=.none
 kdf:fd.kwdefaults=.none
 nocls:fd.scope.names.lookup ("__class__":Str)≠some .free
 nodbg:fd.scope.names.lookup ("__debug__":Str)=none
 nocd:fd.scope.names.lookup ("__classdict__":Str)≠some .free
def xW(q:Str)(c:Cf)(fd:FuncData)(x:Nat)(body:Expr)(sc:List (Nat×NameKind))(cells:List (Nat×Nat)):Prop:=
 SO fd x body sc/\CR c fd.closure cells (λx=>fd.scope.names.lookup x=some .free)/\nT fd.qualname c fd.code
def jk(h:Heap)(a:Addr)(vs:Array Value):Prop:=∃n,h.get? a=some {cls:=.type "list",dict:=none,data:=.seq vs n,slots:=#[]}
theorem jk.isList{h:Heap}{a:Addr}{vs:Array Value}(x:jk h a vs):h.IsList a vs:=let⟨n,e⟩:=x;⟨_,e,rfl,n,rfl⟩
theorem jk.noDict{h:Heap}{a:Addr}{vs:Array Value}(x:jk h a vs):∃o,h.get? a=some o/\o.dict=none:=let⟨_,e⟩:=x;⟨_,e,rfl⟩
def OR(g:Gb)(c:Cf)(o:O)(a d:Addr)(h:Heap):Prop:=match o with
 |.ns m=>∃mm,h.Ns a mm/\NR g c m mm
 |.cell v=>∃vo,h.IsCell a vo/\RS g c v vo
 |.list l=>∃vs,jk h a vs/\da g c l vs.toList/\l.length≤10000
 |.inst ci m=>∃mm ns,h.InstFk a (g.ca ci) mm/\(∀o,h.get? a=some o->o.dict=some d)/\NR g c m mm/\Within mm ns/\ns.length≤m.length
 |.dict l=>∃kvs,h.DictOf (strKind g.pr g.wd) a kvs/\(a==sysModules)=false/\PR g c l kvs/\l.length≤1000
 |.barr l=>∃o b,h.get? a=some o/\o.cls=.type "bytearray"/\o.data=.bytearray b 0/\BR g.σ l b.toList/\l.length≤10000
 |.lsU lo hi=>∃vs,jk h a vs/\lo≤vs.size/\vs.size≤hi/\hi≤10000
 |.exc ci m b=>∃o vs mm,h.get? a=some o/\o.cls=.ref (g.ca ci)/\o.dict=some d/\o.data=.fields vs/\h.Ns d mm/\NR g c m mm/\(b=true->∃t,vs=#[.ref t,.none,.none,.none,.bool false,.none])
 |.dead=>True
 |.nsU=>∃mm,h.Ns a mm
 |.lam x body sc cells=>∃o fd,h.get? a=some o/\o.cls=.type "function"/\o.data=.func fd/\xW g.lq c fd x body sc cells
theorem RS.ext(e:dA c c'){a:Option V}{v:Option Value}(h:RS g c a v):RS g c' a v:=by
 cases a with
 |none=>exact h
 |some a=>
  refine e12 h λx h1 h2=>?_;clear h
  exact⟨x,h1,h2.ext e⟩
theorem PR.ext(e:dA c c'){l:List (Nat×V)}:∀{es:List (Str×Value)},PR g c l es->PR g c' l es:=by
 induction l with
 |nil=>exact λh=>h
 |cons p r ih=>
  intro es h
  obtain⟨x,v,t,h1,h2,h3,h4,h5,h6⟩:=h
  exact⟨x,v,t,h1,h2,h3,h4,h5.ext e,ih h6⟩
theorem PR.length{l:List (Nat×V)}:∀{es:List (Str×Value)},PR g c l es->es.length=l.length:=by
 induction l with
 |nil=>exact λh=>congrArg List.length h
 |cons p r ih=>
  intro es h
  obtain⟨x,v,t,h1,_,_,_,_,h6⟩:=h
  exact h1▸congrArg (· +1) (ih h6)
theorem CR.ext{cells cs D}(h:CR c cells cs D)(e:dA c c'):CR c' cells cs D:=λx i hx hd hi=>let⟨h1,h2⟩:=h x i hx hd hi;⟨Vt h1 e.n,h2.trans (congrArg some (e.ρ i h1).symm)⟩
theorem xW.ext(e:dA c c'){q:Str}{fd:FuncData}{x body sc cells}(h:xW q c fd x body sc cells):xW q c' fd x body sc cells:=⟨h.1,h.2.1.ext e,h.2.2.ext e⟩
theorem OR.ext(e:dA c c'){o:O}{a d:Addr}{h:Heap}(x:OR g c o a d h):OR g c' o a d h:=by
 cases o with
 |ns m=>obtain⟨mm,h1,h2⟩:=x;exact⟨mm,h1,h2.ext e⟩
 |cell v=>obtain⟨vo,h1,h2⟩:=x;exact⟨vo,h1,h2.ext e⟩
 |list l=>obtain⟨vs,h1,h2,h3⟩:=x;exact⟨vs,h1,h2.ext e,h3⟩
 |inst ci m=>obtain⟨mm,ns,h1,h2,h3,h4⟩:=x;exact⟨mm,ns,h1,h2,h3.ext e,h4⟩
 |dict l=>obtain⟨kvs,h1,h2,h3,h4⟩:=x;exact⟨kvs,h1,h2,h3.ext e,h4⟩
 |barr l=>exact x
 |lsU lo hi=>exact x
 |exc ci m b=>obtain⟨o,vs,mm,h1,h2,h3,h4,h5,h6,h7⟩:=x;exact⟨o,vs,mm,h1,h2,h3,h4,h5,h6.ext e,h7⟩
 |dead=>exact x
 |nsU=>exact x
 |lam=>obtain⟨o,fd,h1,h2,h3,h4⟩:=x;exact⟨o,fd,h1,h2,h3,h4.ext e⟩
theorem OR.at{o:O}{a d:Addr}{h h':Heap}(x:OR g c o a d h)(ka:∀ob,h.get? a=some ob->h'.get? a=some ob)(kd:∀ob,h.get? d=some ob->h'.get? d=some ob):OR g c o a d h':=by
 cases o with
 |ns m=>obtain⟨mm,h1,h2⟩:=x;exact⟨mm,h1.at ka,h2⟩
 |cell v=>obtain⟨vo,⟨o,e,r⟩,h2⟩:=x;exact⟨vo,⟨o,ka _ e,r⟩,h2⟩
 |list l=>obtain⟨vs,⟨n,e⟩,h2⟩:=x;exact⟨vs,⟨n,ka _ e⟩,h2⟩
 |inst ci m=>
  refine e23 x λmm ns zq7 h2 h3=>?_;clear x
  refine e14 zq7 λo e hc hn hd=>?_
  have hd2:=h2 o e
  refine⟨mm,ns,⟨o,ka _ e,hc,hn,?_⟩,λo' e'=>?_,h3⟩
  .rcases hd with⟨q,_⟩|⟨d',q1,q2,q3,⟨o3,e3,r3⟩⟩
   .rw[hd2] at q;cases q
   .rw[hd2] at q1;obtain rfl:=Vl q1
    exact .inr ⟨d,hd2,q2,q3.at kd,⟨o3,kd _ e3,r3⟩⟩
  .rw[ka _ e] at e';cases e';exact hd2
 |dict l=>obtain⟨kvs,⟨o,es,ep,h1,r⟩,q⟩:=x;exact⟨kvs,⟨o,es,ep,ka _ h1,r⟩,q⟩
 |barr l=>obtain⟨o,b,h1,r⟩:=x;exact⟨o,b,ka _ h1,r⟩
 |lsU lo hi=>obtain⟨vs,⟨n,e⟩,h2⟩:=x;exact⟨vs,⟨n,ka _ e⟩,h2⟩
 |exc ci m b=>obtain⟨o,vs,mm,h1,h2,h3,h4,h5,h6⟩:=x;exact⟨o,vs,mm,ka _ h1,h2,h3,h4,h5.at kd,h6⟩
 |dead=>trivial
 |nsU=>obtain⟨mm,h1⟩:=x;exact⟨mm,h1.at ka⟩
 |lam=>obtain⟨o,fd,h1,r⟩:=x;exact⟨o,fd,ka _ h1,r⟩
noncomputable def O.isNs:O->Bool
 |.ns _=>true
 |.nsU=>true
 |_=>false
structure Al(g:Gb)(c:Cf)(a:Addr):Prop where
 R:∀o,¬g.R a o
 B:g.B.get? a=none
 T:∀vs,¬c.T a vs
 D:∀o,¬c.D a o
def kF(g:Gb)(c:Cf)(h:Heap):Prop:=∃ps,h.get? g.P=some (PySem.W.tabObj ps)/\TriplesOk ps.toList/\∀pos cv,codeAmong pos ps.toList=some cv->nT g.lq c cv
structure cV(g:Gb)(c:Cf)(h:H)(s:Shared):Prop where
 len:c.n=h.length
 obj:∀k o,h.get k=some o->k<c.n/\OR g c o (c.ρ k) (c.δ k) s.heap
 pres:∀k,k<c.n->(∃o,s.heap.get? (c.ρ k)=some o)/\∃o,s.heap.get? (c.δ k)=some o
 tup:∀a vs,c.T a vs->s.heap.IsTuple a vs.toArray
 dat:∀a o,c.D a o->s.heap.get? a=some o
 rest:∀a o,g.R a o->s.heap.get? a=some o
 fra:∀a o,g.S a o->∃sl,s.heap.get? a=some {o with slots:=sl}
 base:g.B.StaysIn s.heap
 inj:∀j k,j<c.n->k<c.n->j≠k->c.ρ j≠c.ρ k/\c.ρ j≠c.δ k/\c.δ j≠c.δ k
 off:∀k,k<c.n->∀a,(a=c.ρ k\/a=c.δ k)->Al g c a/\(∀o,¬g.S a o)/\a≠g.P
 offS:∀a o,g.S a o->Al g c a/\a≠g.P
 sam:s.gens=g.s0.gens/\s.drawn=g.s0.drawn/\s.os=g.s0.os
 t0:∀a vs,g.T0 a vs->c.T a vs
 m0:∀a,g.M0=some a->0<c.n/\c.ρ 0=a
 ns:∀k,c.N k->∃o,h.get k=some o/\o.isNs=true
 tab:kF g c s.heap
 offP:Al g c g.P
 sm:∃o,g.B.get? sysModules=some o
 rT:(∀a vs o,c.T a vs->¬g.R a o)/\∀a ob o,c.D a ob->¬g.R a o
theorem kF.keep{h h':Heap}(x:kF g c h)(k:∀o,h.get? g.P=some o->h'.get? g.P=some o):kF g c h':=let⟨ps,h1,r⟩:=x;⟨ps,k _ h1,r⟩
theorem kF.ext{h:Heap}(e:dA c c')(x:kF g c h):kF g c' h:=let⟨ps,h1,h2,r⟩:=x;⟨ps,h1,h2,λp cv q=>(r p cv q).ext e⟩
theorem cV.keep{h:H}{s s':Shared}(I:cV g c h s)(k:∀b o,s.heap.get? b=some o->s'.heap.get? b=some o)(sam:s'.gens=s.gens/\s'.drawn=s.drawn/\s'.os=s.os):cV g c h s' where
 len:=I.len
 obj i o e:=let⟨h1,h2⟩:=I.obj i o e;⟨h1,h2.at (λob=>k _ ob) (λob=>k _ ob)⟩
 pres i hi:=let⟨⟨o,h1⟩,⟨o',h2⟩⟩:=I.pres i hi;⟨⟨o,k _ _ h1⟩,⟨o',k _ _ h2⟩⟩
 tup a vs e:=let⟨o,h1,r⟩:=I.tup a vs e;⟨o,k _ _ h1,r⟩
 dat a o e:=k _ _ (I.dat a o e)
 rest a o e:=k _ _ (I.rest a o e)
 fra a o e:=let⟨sl,h1⟩:=I.fra a o e;⟨sl,k _ _ h1⟩
 base b o e:=k _ _ (I.base b o e)
 inj:=I.inj
 off:=I.off
 offS:=I.offS
 sam:=⟨sam.1.trans I.sam.1,sam.2.1.trans I.sam.2.1,sam.2.2.trans I.sam.2.2⟩
 t0:=I.t0
 m0:=I.m0
 ns:=I.ns
 tab:=I.tab.keep (k _)
 offP:=I.offP
 sm:=I.sm
 rT:=I.rT
theorem cV.tok{h:H}{s:Shared}(I:cV g c h s)(t:Nat):cV g c h {s with toks:=t}:=I.keep (λY Y e=>e) ⟨rfl,rfl,rfl⟩
theorem cV.alloc{h:H}{s:Shared}(I:cV g c h s)(o:Obj):cV g c h {s with heap:=s.heap.push o}:=I.keep (λY Y e=>Vp o e) ⟨rfl,rfl,rfl⟩
theorem cV.set{h:H}{s s':Shared}{k:Nat}{o o':O}(I:cV g c h s)(e:h.get k=some o)
  (oth:∀b ob,b≠c.ρ k->b≠c.δ k->s.heap.get? b=some ob->s'.heap.get? b=some ob) (new:OR g c o' (c.ρ k) (c.δ k) s'.heap)
  (pa:∃ob,s'.heap.get? (c.ρ k)=some ob) (pd:∃ob,s'.heap.get? (c.δ k)=some ob) (sam:s'.gens=s.gens/\s'.drawn=s.drawn/\s'.os=s.os) (kind:c.N k->o.isNs=true->o'.isNs=true):cV g c (h.set k o') s':=by
 have hk:=(I.obj k o e).1
 have far:∀j,j<c.n->j≠k->(c.ρ j≠c.ρ k/\c.ρ j≠c.δ k)/\(c.δ j≠c.ρ k/\c.δ j≠c.δ k):=λj hj hn=>by
  refine e03 (I.inj j k hj hk hn) λx1 x2 x3=>?_
  refine e03 (I.inj k j hk hj (Ne.symm hn)) λY y2 Y=>?_
  exact⟨⟨x1,x2⟩,⟨Ne.symm y2,x3⟩⟩
 have al:∀a ob,s.heap.get? a=some ob->(¬(Al g c a/\(∀o,¬g.S a o)/\a≠g.P))->s'.heap.get? a=some ob:=λa ob h1 h2=>oth a ob (λq=>h2 (I.off k hk a (.inl q))) (λq=>h2 (I.off k hk a (.inr q))) h1
 refine⟨I.len.trans (H.length_set ..).symm,λi ob hi=>?_,λi hi=>?_,λa vs ht=>?_,λa ob hd=>al _ _ (I.dat a ob hd) λq=>q.1.D _ hd,λa ob hr=>al _ _ (I.rest a ob hr) λq=>q.1.R _ hr,λa ob hr=>?_,λb ob hb=>al _ _ (I.base b ob hb) (λq=>by(rw[q.1.B] at hb;cases hb)),I.inj,I.off,I.offS,⟨sam.1.trans I.sam.1,sam.2.1.trans I.sam.2.1,sam.2.2.trans I.sam.2.2⟩,I.t0,I.m0,λi hi=>?_,I.tab.keep λo e=>al _ _ e λq=>q.2.2 rfl,I.offP,I.sm,I.rT⟩
 .rw[H.get_set] at hi
  by_cases q:k=i
  .subst q;rw[if_pos rfl] at hi;cases hi;exact⟨hk,new⟩
  .rw[if_neg q] at hi
   refine e02 (I.obj i ob hi) λh1 h2=>?_
   refine e02 (far i h1 (Ne.symm q)) λf1 f2=>?_
   exact⟨h1,h2.at (λx=>oth _ x f1.1 f1.2) (λx=>oth _ x f2.1 f2.2)⟩
 .by_cases q:i=k
  .subst q;exact⟨pa,pd⟩
  .refine e02 (far i hi q) λf1 f2=>?_
   refine e02 (I.pres i hi) λzq8 zq9=>?_
   refine e11 zq8 λx h1=>?_
   refine e11 zq9 λy h2=>?_
   exact⟨⟨x,oth _ x f1.1 f1.2 h1⟩,⟨y,oth _ y f2.1 f2.2 h2⟩⟩
 .refine e12 (I.tup a vs ht) λx h1 r=>?_
  exact⟨x,al _ _ h1 λq=>q.1.T _ ht,r⟩
 .refine e11 (I.fra a ob hr) λsl h1=>?_
  exact⟨sl,al _ _ h1 λq=>q.2.1 _ hr⟩
 .refine e12 (I.ns i hi) λob h1 h2=>?_
  rw[H.get_set]
  by_cases q:k=i
  .subst q;rw[e] at h1;cases h1;exact⟨o',if_pos rfl,kind hi h2⟩
  .exact⟨ob,(if_neg q).trans h1,h2⟩
theorem cV.setAt{h:H}{s:Shared}{k tk:Nat}{o o':O}{h':Heap}{ob:Obj}(I:cV g c h s)(e:h.get k=some o)(ho:h'.get? (c.ρ k)=some ob)(hs':VB (c.ρ k) s.heap h')(new:OR g c o' (c.ρ k) (c.δ k) h')(hn:o.isNs=false):
  cV g c (h.set k o') {s with heap:=h',toks:=tk}:=by
 refine I.set (s':={s with heap:=h',toks:=tk}) e (λb ob hb Y e=>(hs'.2 b hb).trans e) new ⟨_,ho⟩ ?_ ⟨rfl,rfl,rfl⟩ (λY q=>absurd (hn.symm.trans q) Vs)
 refine e11 ((I.pres _ (I.obj _ _ e).1).2) λod hod=>?_
 by_cases q:c.δ k=c.ρ k
 .exact⟨_,q▸ho⟩
 .exact⟨od,(hs'.2 _ q).trans hod⟩
theorem cV.setN{h:H}{s:Shared}{k tk:Nat}{m m':List (Nat×V)}{h':Heap}{ob:Obj}(I:cV g c h s)(e:h.get k=some (.ns m))(ho:h'.get? (c.ρ k)=some ob)(hs':VB (c.ρ k) s.heap h')(new:OR g c (.ns m') (c.ρ k) (c.δ k) h'):
  cV g c (h.set k (.ns m')) {s with heap:=h',toks:=tk}:=by
 refine I.set (s':={s with heap:=h',toks:=tk}) e (λb ob hb Y e=>(hs'.2 b hb).trans e) new ⟨_,ho⟩ ?_ ⟨rfl,rfl,rfl⟩ (λY Y=>rfl)
 refine e11 ((I.pres _ (I.obj _ _ e).1).2) λod hod=>?_
 by_cases q:c.δ k=c.ρ k
 .exact⟨_,q▸ho⟩
 .exact⟨od,(hs'.2 _ q).trans hod⟩
theorem cV.same{h h':H}{s:Shared}(I:cV g c h s)(e:∀k,h'.get k=h.get k)(l:h'.length=h.length):cV g c h' s:=
 {I with len:=I.len.trans l.symm,obj:=λk o q=>I.obj k o ((e k).symm.trans q),ns:=λk hk=>let⟨o,h1,h2⟩:=I.ns k hk;⟨o,(e k).trans h1,h2⟩}
theorem cV.touch{h:H}{s s':Shared}{k:Nat}{o:O}(I:cV g c h s)(e:h.get k=some o)
  (oth:∀b ob,b≠c.ρ k->b≠c.δ k->s.heap.get? b=some ob->s'.heap.get? b=some ob) (new:OR g c o (c.ρ k) (c.δ k) s'.heap)
  (pa:∃ob,s'.heap.get? (c.ρ k)=some ob) (pd:∃ob,s'.heap.get? (c.δ k)=some ob) (sam:s'.gens=s.gens/\s'.drawn=s.drawn/\s'.os=s.os):cV g c h s':=
 (I.set e oth new pa pd sam λY q=>q).same (λj=>by
  rw[H.get_set]
  by_cases q:k=j
  .subst q;rw[if_pos rfl,e]
  .rw[if_neg q]) (H.length_set ..).symm
structure hH(g:Gb)(c:Cf)(a:Addr):Prop where
 al:Al g c a
 S:∀o,¬g.S a o
 ne:∀k,k<c.n->a≠c.ρ k/\a≠c.δ k
 P:a≠g.P
theorem cV.free{h:H}{s:Shared}{a:Addr}(I:cV g c h s)(na:s.heap.get? a=none):hH g c a where
 al:=by
  refine⟨λo q=>?_,?_,λvs q=>?_,λo q=>?_⟩
  .rw[I.rest a o q] at na;cases na
  .cases hB:g.B.get? a with
   |none=>rfl
   |some ob=>rw[I.base a ob hB] at na;cases na
  .obtain⟨x,e,_⟩:=I.tup a vs q;rw[e] at na;cases na
  .rw[I.dat a o q] at na;cases na
 S o q:=by obtain⟨sl,e⟩:=I.fra a o q;rw[e] at na;cases na
 ne k hk:=by
  refine e02 (I.pres k hk) λzq10 zq11=>?_
  refine e11 zq10 λx h1=>?_
  refine e11 zq11 λy h2=>?_
  refine⟨λq=>?_,λq=>?_⟩
  .rw[q,h1] at na;cases na
  .rw[q,h2] at na;cases na
 P q:=by obtain⟨ps,e,_⟩:=I.tab;rw[q,e] at na;cases na
theorem cV.wild{h:H}{s s':Shared}(I:cV g c h s)(D:Addr->Prop)(hD:∀a,D a->hH g c a)(oth:∀b ob,¬D b->s.heap.get? b=some ob->s'.heap.get? b=some ob)(sam:s'.gens=s.gens/\s'.drawn=s.drawn/\s'.os=s.os):cV g c h s' where
 len:=I.len
 obj i o e:=let⟨h1,h2⟩:=I.obj i o e;⟨h1,h2.at (λob=>oth _ ob λq=>((hD _ q).ne i h1).1 rfl) (λob=>oth _ ob λq=>((hD _ q).ne i h1).2 rfl)⟩
 pres i hi:=let⟨⟨o,h1⟩,⟨o',h2⟩⟩:=I.pres i hi;⟨⟨o,oth _ _ (λq=>((hD _ q).ne i hi).1 rfl) h1⟩,⟨o',oth _ _ (λq=>((hD _ q).ne i hi).2 rfl) h2⟩⟩
 tup a vs e:=let⟨o,h1,r⟩:=I.tup a vs e;⟨o,oth _ _ (λq=>(hD _ q).al.T _ e) h1,r⟩
 dat a o e:=oth _ _ (λq=>(hD _ q).al.D _ e) (I.dat a o e)
 rest a o e:=oth _ _ (λq=>(hD _ q).al.R _ e) (I.rest a o e)
 fra a o e:=let⟨sl,h1⟩:=I.fra a o e;⟨sl,oth _ _ (λq=>(hD _ q).S _ e) h1⟩
 base b o e:=oth _ _ (λq=>by have:=(hD _ q).al.B;rw[this] at e;cases e) (I.base b o e)
 inj:=I.inj
 off:=I.off
 offS:=I.offS
 sam:=⟨sam.1.trans I.sam.1,sam.2.1.trans I.sam.2.1,sam.2.2.trans I.sam.2.2⟩
 t0:=I.t0
 m0:=I.m0
 ns:=I.ns
 tab:=I.tab.keep λo e=>oth _ _ (λq=>(hD _ q).P rfl) e
 offP:=I.offP
 sm:=I.sm
 rT:=I.rT
noncomputable def Cf.add(c:Cf)(a d:Addr)(b:Bool):Cf:=⟨c.n+1,λk=>if k=c.n then a else c.ρ k,λk=>if k=c.n then d else c.δ k,c.T,λk=>c.N k\/(b=true/\k=c.n),c.D⟩
theorem dA.add(c:Cf)(a d:Addr)(b:Bool):dA c (c.add a d b):=
 ⟨VO _,λk h=>if_neg (VM h),λk h=>if_neg (VM h),λY Y h=>h,λY h=>.inl h,λY Y h=>h,λY h q=>q.elim id λq=>absurd q.2 (VM h)⟩
theorem Al.add{c:Cf}{a b d:Addr}{q:Bool}(x:Al g c a):Al g (c.add b d q) a:=⟨x.R,x.B,x.T,x.D⟩
theorem cV.pushF{h:H}{s s':Shared}{o:O}{a d:Addr}(I:cV g c h s)(k:∀b o,s.heap.get? b=some o->s'.heap.get? b=some o)
  (fa:hH g c a) (fd:hH g c d) (new:OR g c o a d s'.heap) (pa:∃ob,s'.heap.get? a=some ob) (pd:∃ob,s'.heap.get? d=some ob)
  (sam:s'.gens=s.gens/\s'.drawn=s.drawn/\s'.os=s.os) {fl:Bool} (hfl:fl=true->o.isNs=true):cV g (c.add a d fl) (h.push o) s':=by
 have I':=I.keep k sam
 have ext:=dA.add c a d fl
 have fresh:∀j,j<c.n->c.ρ j≠a/\c.ρ j≠d/\c.δ j≠a/\c.δ j≠d:=λj hj=>⟨Ne.symm (fa.ne j hj).1,Ne.symm (fd.ne j hj).1,Ne.symm (fa.ne j hj).2,Ne.symm (fd.ne j hj).2⟩
 have ra:(c.add a d fl).ρ c.n=a:=if_pos rfl
 have rd:(c.add a d fl).δ c.n=d:=if_pos rfl
 refine⟨(congrArg (· +1) I.len).trans (H.length_push ..).symm,λi ob hi=>?_,λi hi=>?_,I'.tup,I'.dat,I'.rest,I'.fra,I'.base,λi j hi hj hn=>?_,λi hi b hb=>?_,λb o hb=>let⟨x,y⟩:=I.offS b o hb;⟨x.add,y⟩,I'.sam,I'.t0,λx hx=>?_,λi hi=>?_,I'.tab.ext ext,I.offP.add,I.sm,I.rT⟩
 .rw[H.get_push] at hi
  by_cases q:h.length=i
  .rw[if_pos q] at hi;cases hi
   have:i=c.n:=by rw[I.len];exact q.symm
   subst this
   rw[ra,rd]
   exact⟨VS _,new.ext ext⟩
  .rw[if_neg q] at hi
   refine e02 (I'.obj i ob hi) λh1 h2=>?_
   rw[ext.ρ i h1,ext.δ i h1]
   exact⟨V2 h1,h2.ext ext⟩
 .by_cases q:i=c.n
  .subst q;rw[ra,rd];exact⟨pa,pd⟩
  .have:i<c.n:=Wb (Wf hi) q
   rw[ext.ρ i this,ext.δ i this];exact I'.pres i this
 .by_cases q:i=c.n
  .subst q
   have hj':j<c.n:=Wb (Wf hj) (Ne.symm hn)
   rw[ra,rd,ext.ρ j hj',ext.δ j hj']
   refine e04 (fresh j hj') λf1 f2 f3 f4=>?_
   exact⟨Ne.symm f1,Ne.symm f3,Ne.symm f4⟩
  .have hi':i<c.n:=Wb (Wf hi) q
   rw[ext.ρ i hi',ext.δ i hi']
   refine e04 (fresh i hi') λf1 f2 f3 f4=>?_
   by_cases q2:j=c.n
   .subst q2;rw[ra,rd];exact⟨f1,f2,f4⟩
   .have hj':j<c.n:=Wb (Wf hj) q2
    rw[ext.ρ j hj',ext.δ j hj'];exact I.inj i j hi' hj' hn
 .by_cases q:i=c.n
  .subst q;rw[ra,rd] at hb
   rcases hb with rfl|rfl
   .exact⟨fa.al.add,fa.S,fa.P⟩
   .exact⟨fd.al.add,fd.S,fd.P⟩
  .have hi':i<c.n:=Wb (Wf hi) q
   rw[ext.ρ i hi',ext.δ i hi'] at hb
   refine e02 (I.off i hi' b hb) λx y=>?_
   exact⟨x.add,y⟩
 .refine e02 (I.m0 x hx) λh1 h2=>?_
  exact⟨V2 h1,(ext.ρ 0 h1).trans h2⟩
 .rw[H.get_push]
  rcases hi with hi|⟨h1,rfl⟩
  .refine e12 (I.ns i hi) λob h1 h2=>?_
   have:=(I.obj i ob h1).1
   rw[I.len] at this
   exact⟨ob,(if_neg (Wk this)).trans h1,h2⟩
  .exact⟨o,if_pos I.len.symm,hfl h1⟩
theorem cV.push{h:H}{s s':Shared}{o:O}{a d:Addr}(I:cV g c h s)(k:∀b o,s.heap.get? b=some o->s'.heap.get? b=some o)
  (na:s.heap.get? a=none) (nd:s.heap.get? d=none) (new:OR g c o a d s'.heap) (pa:∃ob,s'.heap.get? a=some ob) (pd:∃ob,s'.heap.get? d=some ob)
  (sam:s'.gens=s.gens/\s'.drawn=s.drawn/\s'.os=s.os) {fl:Bool} (hfl:fl=true->o.isNs=true):cV g (c.add a d fl) (h.push o) s':=I.pushF k (I.free na) (I.free nd) new pa pd sam hfl
structure Kl(g:Gb)(c:Cf)(h:H)(o:O)(ob:Obj)(s:Shared)(fl:Bool)(c':Cf):Prop where
 e:dA c c'
 i:cV g c' (h.push o) {s with heap:=s.heap.push ob}
 l:h.length<c'.n
 r:c'.ρ h.length=s.heap.objs.size
 n:c'.N h.length↔fl=true
 v:VR g c' (.ref h.length) (.ref s.heap.objs.size)
theorem cV.push1(fl:Bool){o:O}{ob:Obj}{h:H}{s:Shared}(I:cV g c h s)(nf:ob.isFreed=false)(new:∀h',h'.get? s.heap.objs.size=some ob->OR g c o s.heap.objs.size s.heap.objs.size h')(hfl:fl=true->o.isNs=true):
  ∃c',Kl g c h o ob s fl c':=
 have na:s.heap.get? s.heap.objs.size=none:=VC (VA _)
 have ga:(s.heap.push ob).get? s.heap.objs.size=some ob:=Vx _ nf
 have l1:h.length<c.n+1:=I.len▸VS _
 have l2:(c.add s.heap.objs.size s.heap.objs.size fl).ρ h.length=s.heap.objs.size:=if_pos I.len.symm
 ⟨_,dA.add ..,I.push (s':={s with heap:=s.heap.push ob}) (λY Y e=>Vp _ e) na na (new _ ga) ⟨_,ga⟩ ⟨_,ga⟩ ⟨rfl,rfl,rfl⟩ hfl,l1,l2,
  ⟨λq=>q.elim (λq=>let⟨o,e,_⟩:=I.ns _ q;absurd (I.len▸(I.obj _ o e).1) (WH _)) λq=>q.1,λq=>.inr ⟨q,I.len.symm⟩⟩,l1,congrArg Value.ref l2.symm⟩
noncomputable def Cf.tupAt(c:Cf)(a:Addr)(vs:List Value):Cf:=⟨c.n,c.ρ,c.δ,λb ws=>c.T b ws\/(b=a/\ws=vs),c.N,c.D⟩
theorem dA.tupAt(c:Cf)(a:Addr)(vs:List Value):dA c (c.tupAt a vs):=⟨VA _,λY Y=>rfl,λY Y=>rfl,λY Y h=>.inl h,λY h=>h,λY Y h=>h,λY Y h=>h⟩
theorem cV.addTup{h:H}{s:Shared}{a:Addr}{vs:List Value}(I:cV g c h s)(fa:hH g c a)(new:s.heap.IsTuple a vs.toArray):cV g (c.tupAt a vs) h s:=by
 have al:∀b,b≠a->Al g c b->Al g (c.tupAt a vs) b:=λb hb x=>⟨x.R,x.B,λws q=>q.elim (x.T ws) λq=>hb q.1,x.D⟩
 refine⟨I.len,λi ob hi=>let⟨h1,h2⟩:=I.obj i ob hi;⟨h1,h2.ext (dA.tupAt c a vs)⟩,I.pres,λb ws ht=>?_,I.dat,I.rest,I.fra,I.base,I.inj,λi hi b hb=>?_,λb o hb=>let⟨x,y⟩:=I.offS b o hb;⟨al b (λq=>fa.S o (q▸hb)) x,y⟩,I.sam,λa vs h=>.inl (I.t0 a vs h),I.m0,I.ns,I.tab.ext (dA.tupAt c a vs),al _ (Ne.symm fa.P) I.offP,I.sm,⟨λb ws o q=>q.elim (λq=>I.rT.1 b ws o q) λq=>q.1▸fa.al.R o,I.rT.2⟩⟩
 .rcases ht with ht|⟨rfl,rfl⟩
  .exact I.tup b ws ht
  .exact new
 .refine e02 (I.off i hi b hb) λx1 x2=>?_
  exact⟨al b (λq=>hb.elim (λr=>(fa.ne i hi).1 (q.symm.trans r)) λr=>(fa.ne i hi).2 (q.symm.trans r)) x1,x2⟩
theorem cV.newTup{h:H}{s s':Shared}{a:Addr}{vs:List Value}(I:cV g c h s)(k:∀b o,s.heap.get? b=some o->s'.heap.get? b=some o)
  (na:s.heap.get? a=none) (new:s'.heap.IsTuple a vs.toArray) (sam:s'.gens=s.gens/\s'.drawn=s.drawn/\s'.os=s.os):cV g (c.tupAt a vs) h s':=(I.keep k sam).addTup (I.free na) new
noncomputable def Cf.datAt(c:Cf)(a:Addr)(o:Obj):Cf:=⟨c.n,c.ρ,c.δ,c.T,c.N,λb ob=>c.D b ob\/(b=a/\ob=o)⟩
theorem dA.datAt(c:Cf)(a:Addr)(o:Obj):dA c (c.datAt a o):=⟨VA _,λY Y=>rfl,λY Y=>rfl,λY Y h=>h,λY h=>h,λY Y h=>.inl h,λY Y h=>h⟩
theorem cV.slots{h:H}{s:Shared}{S:List Addr}{h':Heap}(I:cV g c h s)(hs:Heap.SlotsOnly S s.heap h')(hS:∀b,b∈S->(∃k,c.N k/\b=c.ρ k)\/∃o,g.S b o):cV g c h {s with heap:=h'}:=by
 refine e03 hs λh1 h2 h3=>?_;clear hs
 have nk:∀k,c.N k->k<c.n/\((∃m,h.get k=some (.ns m))\/h.get k=some .nsU):=λk hk=>by
  refine e12 (I.ns k hk) λo e q=>?_
  cases o<;>first|(cases q;done)|exact⟨(I.obj k _ e).1,.inl ⟨_,e⟩⟩|exact⟨(I.obj k _ e).1,.inr e⟩
 have al:∀a,(¬∃k,k<c.n/\a=c.ρ k)->(∀o,¬g.S a o)->∀ob,s.heap.get? a=some ob->h'.get? a=some ob:=λa x y ob e=>by
  rw[h2 a λq=>?_];exact e
  rcases hS a q with⟨k,hk,rfl⟩|⟨o,ho⟩
  .exact x ⟨k,(nk k hk).1,rfl⟩
  .exact y o ho
 have al2:∀a ob,s.heap.get? a=some ob->(¬(Al g c a/\a≠g.P))->h'.get? a=some ob:=λa ob e x=>al a (λ⟨k,hk,q⟩=>x (let z:=I.off k hk a (.inl q);⟨z.1,z.2.2⟩)) (λo ho=>x (I.offS a o ho)) ob e
 refine {I with obj:=λi o e=>?_,pres:=λi hi=>?_,tup:=λa vs e=>?_,dat:=λa o e=>al2 _ _ (I.dat a o e) λq=>q.1.D _ e,rest:=λa o e=>al2 _ _ (I.rest a o e) λq=>q.1.R _ e,fra:=λa o e=>?_,base:=λa o e=>al2 _ _ (I.base a o e) λq=>?_,tab:=I.tab.keep λo e=>al2 _ _ e λq=>q.2 rfl}
 .refine e02 (I.obj i o e) λhi hr=>?_
  refine⟨hi,?_⟩
  by_cases q:c.ρ i∈S
  .rcases hS _ q with⟨k,hk,e2⟩|⟨ob,ho⟩
   .have:i=k:=Classical.byContradiction λn=>(I.inj i k hi (nk k hk).1 n).1 e2
    subst this
    obtain⟨_,⟨m,e3⟩|e3⟩:=nk i hk
    .rw[e] at e3;cases e3
     refine e12 hr λmm zq12 h5=>?_;clear hr
     refine e32 zq12 λo es ep e4 r=>?_
     refine e11 (h3 _ _ e4) λsl e5=>?_
     exact⟨mm,⟨_,es,ep,e5,r⟩,h5⟩
    .rw[e] at e3;cases e3
     refine e42 hr λmm o es ep e4 r=>?_;clear hr
     refine e11 (h3 _ _ e4) λsl e5=>?_
     exact⟨mm,_,es,ep,e5,r⟩
   .exact absurd ho ((I.off i hi _ (.inl rfl)).2.1 ob)
  .by_cases q2:c.δ i∈S
   .rcases hS _ q2 with⟨k,hk,e2⟩|⟨ob,ho⟩
    .have:i=k:=Classical.byContradiction λn=>(I.inj k i (nk k hk).1 hi (Ne.symm n)).2.1 e2.symm
     subst this
     obtain⟨_,⟨m,e3⟩|e3⟩:=nk i hk
     .rw[e] at e3;cases e3
      refine e12 hr λmm zq13 h5=>?_;clear hr
      refine e32 zq13 λo es ep e4 r=>?_
      refine e11 (h3 _ _ e4) λsl e5=>?_
      exact⟨mm,⟨_,es,ep,e5,r⟩,h5⟩
     .rw[e] at e3;cases e3
      refine e42 hr λmm o es ep e4 r=>?_;clear hr
      refine e11 (h3 _ _ e4) λsl e5=>?_
      exact⟨mm,_,es,ep,e5,r⟩
    .exact absurd ho ((I.off i hi _ (.inr rfl)).2.1 ob)
   .exact hr.at (λob x=>by rw[h2 _ q];exact x) (λob x=>by rw[h2 _ q2];exact x)
 .refine e02 (I.pres i hi) λzq14 zq15=>?_
  refine e11 zq14 λx e1=>?_
  refine e11 zq15 λy e2=>?_
  refine e11 (h3 _ _ e1) λY e3=>?_
  refine e11 (h3 _ _ e2) λY e4=>?_
  exact⟨⟨_,e3⟩,⟨_,e4⟩⟩
 .refine e12 (I.tup a vs e) λx e1 r=>?_
  exact⟨x,al2 _ _ e1 λq=>q.1.T _ e,r⟩
 .refine e11 (I.fra a o e) λsl e1=>?_
  refine e11 (h3 _ _ e1) λsl' e2=>?_
  exact⟨sl',e2⟩
 .rw[q.1.B] at e;cases e
end
section
noncomputable abbrev Gb.M(g:Gb):Model:=model g.pr g.wd
def FL(g:Gb)(c:Cf):List Env->Prop
 |[]=>True
 |e::l=>e.scope.kind≠.module/\(∃L,e.frame=some L/\((∃k,k<c.n/\c.N k/\L=c.ρ k)\/∃o,g.S L o/\∀vs,o.data≠.fields vs))/\FL g c l
structure dz(g:Gb)(c:Cf)(n:Nat)(A:Around):Prop where
 hh:g.C.quiet=false->A.handled=none
 dep':A.depth+n≤g.dl
 un':A.units+16 * n+64≤g.ul
 lid:g.dl≤990/\g.ul≤cLine
 fr:∃l,A.frames=some l/\FL g c l
theorem dz.dep{g:Gb}{c:Cf}{n:Nat}{A:Around}(x:dz g c n A):A.depth+n≤990:=Vo x.dep' x.lid.1
theorem dz.un{g:Gb}{c:Cf}{n:Nat}{A:Around}(x:dz g c n A):A.units+16 * n+64≤cLine:=Vo x.un' x.lid.2
structure FR(g:Gb)(c:Cf)(A:Around)(fr:Fr)(env:Env):Prop where
 kind:env.scope.kind=.function
 names:dH env.scope.names=fr.ks
 ins:fr.ns<c.n
 loc:env.locals=c.ρ fr.ns
 cells:∀x i,cd x≠0->(env.kindOf x=some .cell\/env.kindOf x=some .free)->eJ fr.cells (cd x)=some i->i<c.n/\env.cells.lookup x=some (c.ρ i)
 glob:env.globals=mainGlobals
 bi:env.builtins=0
 cls:env.kindOf "__class__"≠some .free
 inter:interactive env=false
 dbg:env.kindOf "__debug__"=none
 cdict:env.kindOf "__classdict__"≠some .free
 lk:∃e0 l,A.frames=some (e0::l)/\env.frame=e0.frame
 lam:fr.lam=true->env.code=.ref g.lc/\env.qual++"<lambda>"=g.lq
inductive i6(g:Gb)(c:Cf)(e:Addr)(m:Value)(s:Shared):Prop
 |mk (oe:Obj) (vs:Array Value) (T:Addr) (ot:Obj) (tvs:Array Value) (x1:s.heap.get? e=some oe) (x2:oe.data=.fields vs) (x3:1<vs.size) (x4:vs[1]? =some (.ref T))
  (t1:s.heap.get? T=some ot) (t2:ot.data=.fields tvs) (t3:3<tvs.size) (t4:tvs[3]? =some m) (t5:hH g c T)
inductive vE(g:Gb)(c:Cf)(A:Around)(e:Addr)(s:Shared):Prop
 |new (oe:Obj) (vs:Array Value) (x1:s.heap.get? e=some oe) (x2:oe.data=.fields vs) (x3:1<vs.size) (x4:vs[1]? =some .none)
 |tb (m:Value) (d:i6 g c e m s) (w:m=.none\/∃e0 l L,A.frames=some (e0::l)/\e0.frame=some L/\m=rawInt L)
theorem i6.imp{g g':Gb}{c c':Cf}{e:Addr}{m:Value}{s:Shared}(x:i6 g c e m s)(f:∀T,hH g c T->hH g' c' T):i6 g' c' e m s:=
 x.rec λoe vs T ot tvs x1 x2 x3 x4 t1 t2 t3 t4 t5=>.mk oe vs T ot tvs x1 x2 x3 x4 t1 t2 t3 t4 (f T t5)
theorem vE.imp{g g':Gb}{c c':Cf}{A A':Around}{e:Addr}{s:Shared}(x:vE g c A e s)(f:∀T,hH g c T->hH g' c' T)(hA:A'.frames=A.frames):vE g' c' A' e s:=
 x.rec (λoe vs x1 x2 x3 x4=>.new oe vs x1 x2 x3 x4) λm d w=>.tb m (d.imp f) (by rw[hA];exact w)
inductive QV(g:Gb)(c:Cf)(K:V->H->Bool)(v:Value)(s:Shared):Prop
 |mk (a:V) (c':Cf) (h:H) (e:dA c c') (i:cV g c' h s) (r:VR g c' a v) (k:K a h=true)
inductive QB(g:Gb)(c:Cf)(K:Bool->H->Bool)(b:Bool)(s:Shared):Prop
 |mk (c':Cf) (h:H) (e:dA c c') (i:cV g c' h s) (k:K b h=true)
inductive QL(g:Gb)(c:Cf)(K:List V->H->Bool)(vs:List Value)(s:Shared):Prop
 |mk (l:List V) (c':Cf) (h:H) (e:dA c c') (i:cV g c' h s) (r:da g c' l vs) (k:K l h=true)
inductive QU(g:Gb)(c:Cf)(K:H->Bool)(u:Unit)(s:Shared):Prop
 |mk (c':Cf) (h:H) (e:dA c c') (i:cV g c' h s) (k:K h=true)
def QF(g:Gb)(c:Cf)(K:gf->H->Bool)(f:Flow)(s:Shared):Prop:=match f with
 |.next=>QU g c (K .nx) () s
 |.ret v=>QV g c (λa=>K (.rt a)) v s
 |_=>False
inductive EX(g:Gb)(c:Cf)(A:Around)(X:Nat->H->Bool)(e:Value)(s:Shared):Prop
 |mk (k:Nat) (c':Cf) (h:H) (x:dA c c') (i:cV g c' h s) (o:∃ci m,h.get k=some (.exc ci m false)) (v:e=.ref (c'.ρ k)) (f:vE g c' A (c'.ρ k) s) (t:X k h=true)
variable{g:Gb}{c c':Cf}
theorem QV.elim{P:Prop}{K:V->H->Bool}{v:Value}{s:Shared}(q:QV g c K v s)(f:∀a c' h,dA c c'->cV g c' h s->VR g c' a v->K a h=true->P):P:=let⟨a,c',h,x1,x2,x3,x4⟩:=q;f a c' h x1 x2 x3 x4
theorem QB.elim{P:Prop}{K:Bool->H->Bool}{v:Bool}{s:Shared}(q:QB g c K v s)(f:∀c' h,dA c c'->cV g c' h s->K v h=true->P):P:=let⟨c',h,x1,x2,x3⟩:=q;f c' h x1 x2 x3
theorem QL.elim{P:Prop}{K:List V->H->Bool}{v:List Value}{s:Shared}(q:QL g c K v s)(f:∀a c' h,dA c c'->cV g c' h s->da g c' a v->K a h=true->P):P:=let⟨a,c',h,x1,x2,x3,x4⟩:=q;f a c' h x1 x2 x3 x4
theorem QU.elim{P:Prop}{K:H->Bool}{v:Unit}{s:Shared}(q:QU g c K v s)(f:∀c' h,dA c c'->cV g c' h s->K h=true->P):P:=let⟨c',h,x1,x2,x3⟩:=q;f c' h x1 x2 x3
theorem QV.mono(e:dA c c'){K:V->H->Bool}{v:Value}{s:Shared}(q:QV g c' K v s):QV g c K v s:=q.elim λa c2 h e2 i r k=>⟨a,c2,h,e.trans e2,i,r,k⟩
theorem QB.mono(e:dA c c'){K:Bool->H->Bool}{v:Bool}{s:Shared}(q:QB g c' K v s):QB g c K v s:=q.elim λc2 h e2 i k=>⟨c2,h,e.trans e2,i,k⟩
theorem QU.mono(e:dA c c'){K:H->Bool}{v:Unit}{s:Shared}(q:QU g c' K v s):QU g c K v s:=q.elim λc2 h e2 i k=>⟨c2,h,e.trans e2,i,k⟩
theorem QF.mono(e:dA c c'){K:gf->H->Bool}{v:Flow}{s:Shared}(q:QF g c' K v s):QF g c K v s:=by
 cases v with
 |next=>exact QU.mono e q
 |ret v=>exact QV.mono e q
 |brk=>exact q
 |cont=>exact q
theorem EX.mono(e:dA c c'){A:Around}{X:Nat->H->Bool}{v:Value}{s:Shared}(q:EX g c' A X v s):EX g c A X v s:=q.rec λk c2 h e2 i o v f t=>⟨k,c2,h,e.trans e2,i,o,v,f,t⟩
theorem FL.ext(e:dA c c'):∀{l:List Env},FL g c l->FL g c' l
 |[],_=>trivial
 |_::_,⟨h0,⟨L,h1,h2⟩,h3⟩=>⟨h0,⟨L,h1,h2.imp (λ⟨k,b,a,d⟩=>⟨k,Vt b e.n,e.N k a,d.trans (e.ρ k b).symm⟩) id⟩,FL.ext e h3⟩
theorem cV.nlt{h:H}{s:Shared}(I:cV g c h s):∀k,c.N k->k<c.n:=λk hk=>let⟨o,h1,_⟩:=I.ns k hk;(I.obj k o h1).1
theorem dz.up{n:Nat}{A:Around}(x:dz g c n A)(e:dA c c'):dz g c' n A:=
 ⟨x.hh,x.dep',x.un',x.lid,let⟨l,h1,h2⟩:=x.fr;⟨l,h1,h2.ext e⟩⟩
theorem dz.ext{n:Nat}{A:Around}{h:H}{s:Shared}(x:dz g c n A)(_:cV g c h s)(e:dA c c'):dz g c' n A:=x.up e
theorem dz.less{m n:Nat}{A:Around}(x:dz g c n A)(h:m≤n):dz g c m A:=⟨x.hh,Vo (V4 h _) x.dep',Vo (Wo (V4 (Nat.mul_le_mul_left 16 h) _) _) x.un',x.lid,x.fr⟩
theorem dz.deep{n:Nat}{A:Around}(x:dz g c (n+1) A):A.depth<1000:=Xl (Vo (Wr _ _) x.dep) (by decide)
theorem dz.step{n:Nat}{A B:Around}(oa:dz g c (n+1) A)(hd:B.depth≤A.depth+1)(hu:B.units≤A.units+16)(hh:B.handled=A.handled)(hf:∃l,B.frames=some l/\FL g c l):dz g c n B where
 hh q:=hh.trans (oa.hh q)
 dep':=Vo (Wo hd n) (by rw[Xh,Wg 1 n];exact oa.dep')
 un':=Vo (Wo (Wo hu _) _) (by rw[Xh A.units,Wg 16,<-Nat.mul_succ];exact oa.un')
 lid:=oa.lid
 fr:=hf
theorem FR.ext{A:Around}{fr:Fr}{env:Env}(x:FR g c A fr env)(e:dA c c'):FR g c' A fr env:=
 ⟨x.kind,x.names,Vt x.ins e.n,x.loc.trans (e.ρ _ x.ins).symm,λy i hy hd hi=>let⟨h1,h2⟩:=x.cells y i hy hd hi;⟨Vt h1 e.n,h2.trans (by rw[e.ρ i h1])⟩,x.glob,x.bi,x.cls,x.inter,x.dbg,x.cdict,x.lk,x.lam⟩
inductive dT(g:Gb)(c:Cf)(A:Around)(env:Env)(X:Nat->H->Bool)(e:Value)(s:Shared):Prop
 |mk (k:Nat) (c':Cf) (h:H) (L:Addr) (x:dA c c') (i:cV g c' h s) (o:∃ci m,h.get k=some (.exc ci m false)) (v:e=.ref (c'.ρ k)) (f:env.frame=some L) (d:i6 g c' (c'.ρ k) (rawInt L) s) (t:X k h=true)
theorem dT.mono(e:dA c c'){A:Around}{env:Env}{X:Nat->H->Bool}{v:Value}{s:Shared}(q:dT g c' A env X v s):dT g c A env X v s:=q.rec λk c2 h L e2 i o v f d t=>⟨k,c2,h,L,e.trans e2,i,o,v,f,d,t⟩
theorem dT.env{A:Around}{env env':Env}{X:Nat->H->Bool}{v:Value}{s:Shared}(q:dT g c A env X v s)(h:env.frame=env'.frame):dT g c A env' X v s:=q.rec λk c2 h' L e2 i o v f d t=>⟨k,c2,h',L,e2,i,o,v,h.symm.trans f,d,t⟩
def QW(g:Gb)(c:Cf)(A:Around)(env:Env)(X:Nat->H->Bool)(K:gf->H->Bool)(q:Result)(s:Shared):Prop:=match q with
 |.ok f=>QF g c K f s
 |.error e=>dT g c A env X e s
theorem QW.mono(e:dA c c'){A:Around}{env:Env}{X:Nat->H->Bool}{K:gf->H->Bool}{q:Result}{s:Shared}(x:QW g c' A env X K q s):QW g c A env X K q s:=by
 cases q with
 |ok f=>exact QF.mono e x
 |error v=>exact dT.mono e x
def IR(g:Gb)(c:Cf)(A:Around)(env:Env)(X:Nat->H->Bool)(K:H->Bool)(q:Result)(s:Shared):Prop:=match q with
 |.ok f=>f=.next/\QU g c K () s
 |.error e=>dT g c A env X e s
theorem IR.mono(e:dA c c'){A:Around}{env:Env}{X:Nat->H->Bool}{K:H->Bool}{q:Result}{s:Shared}(x:IR g c' A env X K q s):IR g c A env X K q s:=by
 cases q with
 |ok f=>exact⟨x.1,QU.mono e x.2⟩
 |error v=>exact dT.mono e x
inductive SI where
 |list (l:Addr)
 |tup (t:Addr)
 |byt (b:Array UInt8) (t:Tok)
def S1(h:Heap)(it:Addr)(i:Nat):SI->Prop
 |.list l=>h.IsListIter it l i
 |.tup t=>h.IsTupleIter it t i
 |.byt b t=>KBw.IsBytesIter h it b t i
noncomputable def gS:V->Bool
 |.wr _=>true
 |.ref _=>true
 |_=>false
inductive SV(g:Gb)(c:Cf):V->SI->Prop
 |list (v:V) (l:Addr) (hp:gS v=true) (hv:VR g c v (.ref l)):SV g c v (.list l)
 |tup (l:List V) (vs:List Value) (t:Addr) (hT:c.T t vs) (hr:da g c l vs):SV g c (.tup l) (.tup t)
 |byt (l:List AI) (b:Array UInt8) (t:Tok) (hr:BR g.σ l b.toList):SV g c (.bytes l) (.byt b t)
inductive IS(g:Gb)(c:Cf)(h:Heap)(a:Addr)(l:List V):Prop
 |tup (t:Addr) (vs:List Value) (i:Nat) (h1:h.IsTupleIter a t i) (h2:c.T t vs) (h3:da g c l (vs.drop i))
 |byt (b:Array UInt8) (t:Tok) (i:Nat) (als:List AI) (h1:KBw.IsBytesIter h a b t i) (e:l=als.map V.int) (h3:BR g.σ als (b.toList.drop i))
 |rng (x jg:Int) (h1:IsRangeIter h a x jg 1) (h2:0≤jg) (e:l=(Bh x jg.toNat).map λi=>.int (.c i))
structure sV(g:Gb)(c:Cf)(h:Heap)(v w:V)(i:Nat)(z TI TO i1 i2:Addr):Prop where
 ne:TI≠z/\TO≠z/\i1≠z/\i2≠z/\TI≠TO/\TI≠i1/\TI≠i2/\TO≠i1/\TO≠i2/\i1≠i2
 zip:IsZip h z TI TO .none
 ti:IsPair h TI (.ref i1) (.ref i2)
 to:∃x y,IsPair h TO x y
 s1:∃si,SV g c v si/\S1 h i1 i si
 s2:∃si,SV g c w si/\S1 h i2 i si
inductive uQ(g:Gb)(c:Cf)(h:Heap):It->Value->List Addr->Prop
 |vals (l:List V) (a:Addr) (x:IS g c h a l):uQ g c h (.vals l) (.ref a) [a]
 |lst (v:V) (i:Nat) (a l:Addr) (hp:gS v=true) (hv:VR g c v (.ref l)) (h1:h.IsListIter a l i):uQ g c h (.lst v i) (.ref a) [a]
 |enum (v:V) (i:Nat) (e it:Addr) (si:SI) (old:Value) (ne:e≠it) (hv:SV g c v si) (he:IsEnum h e it i old) (h1:S1 h it i si):uQ g c h (.enum v i) (.ref e) [e,it]
 |zip (v w:V) (i:Nat) (z TI TO i1 i2:Addr) (k:sV g c h v w i z TI TO i1 i2):uQ g c h (.zip v w i) (.ref z) [z,TI,TO,i1,i2]
inductive pD(g:Gb)(c:Cf)(h:Heap):It->Value->Prop
 |mk (it:It) (itv:Value) (L:List Addr) (hL:∀b,b∈L->hH g c b) (hS:uQ g c h it itv L):pD g c h it itv
 |emp (a d:Addr) (ep:Nat) (fa:hH g c a) (hD:h.DictAt (strKind g.pr g.wd) d [] ep) (hK:h.IsKeyIter a d 0 0 ep) (hd:(d==sysModules)=false):pD g c h (.vals []) (.ref a)
def nU(es:List Expr)(xs:List Str):Prop:=es.map g9=xs.map some
theorem hO{e:Expr}{rest:List Expr}{env:Env}(h:∀x p,e≠.Starred x p):starEach (e::rest) env=(false,eval e env)::starEach rest env:=by
 cases e<;>first|rfl|exact absurd rfl (h _ _)
structure XD where
 nm:Str
 q:Str
 N:Addr
 bs:List Value
 mro:List Value
 dic:Bool
 sn:List Str
 sub:List Value
 ab:Bool
 col:Option Bool
 dd:Option Addr
 k0:Option Value
 k1:Option Value
 k2:Option Value
 k3:Option Value
 k5:Option Value
 newId:String
end
section
variable{g:Gb}{c c':Cf}
section
variable{A:Around}{E:Value->Shared->Prop}{h:H}{s:Shared}{k ci:Nat}{mm:List (Nat×V)}
theorem nV(I:cV g c h s)(e:h.get k=some (.exc ci mm false)):k<c.n/\c.δ k≠c.ρ k:=by
 obtain⟨hk,o,vs,m',h1,_,_,h4,⟨o2,es,ep,h5,h6,_⟩,_⟩:=I.obj k _ e
 refine⟨hk,λq=>?_⟩
 rw[q,h1] at h5;cases h5;rw[h4] at h6;cases h6
theorem Gk{oe:Obj}{vs:Array Value}{v:Value}{Q:Unit->Shared->Prop}(I:cV g c h s)(e:h.get k=some (.exc ci mm false))(h1:s.heap.get? (c.ρ k)=some oe)(h2:oe.data=.fields vs)(h3:1<vs.size)
  (hQ:∀h' oe',cV g c h {s with heap:=h'}->h'.get? (c.ρ k)=some oe'->oe'.data=.fields (vs.setIfInBounds 1 v)->(∀b o,b≠c.ρ k->s.heap.get? b=some o->h'.get? b=some o)->Q () {s with heap:=h'}):
  wpAny g.M A (setField (.ref (c.ρ k)) 1 v) Q E s:=by
 have⟨hk,hd⟩:=nV I e
 refine wpAny_setField h1 h2 h3 ?_
 have hdat:=V0 h2 (·.setIfInBounds 1 v)
 have hself:=VD (WV (·.setIfInBounds 1 v)) h1 (Wm hdat)
 have oth:∀b o,b≠c.ρ k->s.heap.get? b=some o->(s.heap.update (c.ρ k) (WV (·.setIfInBounds 1 v))).get? b=some o:=λb o hb hx=>by rw[Wj _ _ (Ne.symm hb)];exact hx
 refine hQ _ _ ?_ hself hdat oth
 obtain⟨_,o,vs0,m',f1,f2,f3,f4,⟨o2,es,ep,f5,f6⟩,f7,_⟩:=I.obj k _ e
 rw[h1] at f1;cases f1
 have odict:∀(x:Obj) f,(WV f x).dict=x.dict:=λx f=>by obtain⟨_,_,dt,_⟩:=x;cases dt<;>rfl
 refine I.touch e (λb ob hb Y hx=>oth b ob hb hx) ⟨_,_,m',hself,(WR ..).trans f2,(odict ..).trans f3,hdat,⟨o2,es,ep,oth _ _ hd f5,f6⟩,f7,λq=>by cases q⟩ ⟨_,hself⟩ ⟨_,oth _ _ hd f5⟩ ⟨rfl,rfl,rfl⟩
theorem xX{oe:Obj}{vs:Array Value}{T:Addr}{ot:Obj}{tvs:Array Value}{v:Value}{Q:Unit->Shared->Prop}(I:cV g c h s)(e:h.get k=some (.exc ci mm false))(h1:s.heap.get? (c.ρ k)=some oe)
  (h2:oe.data=.fields vs) (h3:1<vs.size) (h4:vs[1]? =some (.ref T)) (t1:s.heap.get? T=some ot) (t2:ot.data=.fields tvs) (t3:3<tvs.size) (hT:hH g c T)
  (hQ:∀h',cV g c h {s with heap:=h'}->h'.get? (c.ρ k)=some oe->i6 g c (c.ρ k) v {s with heap:=h'}->Q () {s with heap:=h'}):
  wpAny g.M A (setField (.ref T) 3 v) Q E s:=by
 have⟨hk,hd⟩:=nV I e
 refine wpAny_setField t1 t2 t3 ?_
 have hdat:=V0 t2 (·.setIfInBounds 3 v)
 have hself:=VD (WV (·.setIfInBounds 3 v)) t1 (Wm hdat)
 have oth:∀b o,¬b=T->s.heap.get? b=some o->(s.heap.update T (WV (·.setIfInBounds 3 v))).get? b=some o:=λb o hb hx=>by rw[Wj _ _ (Ne.symm hb)];exact hx
 have he:=oth _ _ (Ne.symm (hT.ne k hk).1) h1
 refine hQ _ (I.wild (λb=>b=T) (λa q=>q▸hT) oth ⟨rfl,rfl,rfl⟩) he ⟨_,_,T,_,_,he,h2,h3,h4,hself,hdat,by simpa using t3,by simp[t3],hT⟩
theorem qr(I:cV g c h s):∀{l:List Env},FL g c l->s.heap.FunFrames g.B l/\∀b,b∈l.filterMap (·.frame)->(∃k,c.N k/\b=c.ρ k)\/∃o,g.S b o
 |[],_=>⟨trivial,λb hb=>by simp at hb⟩
 |e::l,⟨h0,⟨L,h1,h2⟩,h3⟩=>by
  refine e02 (qr I h3) λr1 r2=>?_
  refine⟨⟨h0,⟨L,?_⟩,r1⟩,λb hb=>?_⟩
  .rcases h2 with⟨k,hlt0,hk,rfl⟩|⟨o,hs,hn⟩
   .refine e12 (I.ns k hk) λo e1 e2=>?_
    cases o<;>first|(cases e2;done)|skip
    .obtain⟨hlt,mm,⟨ob,es,ep,e3,e4,_⟩,_⟩:=I.obj k _ e1
     exact⟨ob,h1,(I.off k hlt _ (.inl rfl)).1.B,e3,λvs q=>by rw[e4] at q;cases q⟩
    .obtain⟨hlt,mm,ob,es,ep,e3,e4,_⟩:=I.obj k _ e1
     exact⟨ob,h1,(I.off k hlt _ (.inl rfl)).1.B,e3,λvs q=>by rw[e4] at q;cases q⟩
   .refine e11 (I.fra L o hs) λsl e3=>?_
    exact⟨_,h1,(I.offS L o hs).1.B,e3,hn⟩
  .rw[WL,h1] at hb
   rcases List.mem_cons.mp hb with rfl|hb
   .rcases h2 with⟨k,_,x⟩|⟨o,hs,_⟩
    .exact .inl ⟨k,x⟩
    .exact .inr ⟨o,hs⟩
   .exact r2 b hb
theorem vF{n:Nat}{fr:Fr}{env:Env}{L:Addr}{Q:Value->Shared->Prop}(oa:dz g c n A)(f:FR g c A fr env)(hf:env.frame=some L)(I:cV g c h s)
  (hQ:∀h',cV g c h {s with heap:=h'}->(∀b o,s.heap.get? b=some o->∃sl,h'.get? b=some {o with slots:=sl})->Q (.ref L) {s with heap:=h'}):wpAny g.M A (PySem.frameOf env) Q E s:=by
 refine e22 f.lk λe0 l h1 h2=>?_
 refine e12 oa.fr λl' h3 h4=>?_
 have:l'=e0::l:=Vl (h3.symm.trans h1)
 subst this
 refine e02 (qr I h4) λr1 r2=>?_
 unfold PySem.frameOf
 refine wpAny_bind (wpAny_frameEnvs h1 ?_)
 have hdw:((e0::l).dropWhile λx=>x.frame !=env.frame)=e0::l:=by simp[List.dropWhile,h2]
 rw[hdw]
 unfold frameObject
 refine wpAny_bind (wpAny_bind (wpAny_readyFrames_fun r1 λae aI=>wpAny_pure ?_))
 rw[<-h2,hf]
 exact wpAny_pure (hQ ae (I.slots aI r2) aI.2.2)
theorem lI{n:Nat}{fr:Fr}{env:Env}{Q:Unit->Shared->Prop}(oa:dz g c n A)(f:FR g c A fr env)(I:cV g c h s)(e:h.get k=some (.exc ci mm false))(fl:vE g c A (c.ρ k) s)
  (hQ:∀L s',env.frame=some L->cV g c h s'->i6 g c (c.ρ k) (rawInt L) s'->Q () s'):wpAny g.M A (noteFrame (.ref (c.ρ k)) env) Q E s:=by
 refine e22 f.lk λe0 l l1 l2=>?_
 refine e12 oa.fr λl' l3 l4=>?_
 have:l'=e0::l:=Vl (l3.symm.trans l1)
 subst this
 refine e03 l4 λY zq16 Y=>?_;clear l4
 refine e12 zq16 λL hL Y=>?_
 have hf:env.frame=some L:=l2.trans hL
 unfold noteFrame
 simp only[hf]
 have entry:∀(head:Value) (b:Bool) (aa:Shared) (oe:Obj) (vs:Array Value),1<vs.size->cV g c h aa->aa.heap.get? (c.ρ k)=some oe->oe.data=.fields vs->
   wpAny g.M A (do let a<-PySem.frameOf env;let pl<-entryPlaceOf L b;let t<-EntryCells.newEntry head a .none (rawInt L) .none pl;setField (.ref (c.ρ k)) 1 t) Q E aa:=λhead b aa oe vs x3 af y1 y2=>by
  refine wpAny_bind (vF oa f hf af λaq am up=>?_)
  refine wpAny_bind (wpAny_entryPlaceOf λpl hpl=>?_)
  unfold EntryCells.newEntry newFields
  refine wpAny_bind (wpAny_newObj_type ?_ (hpl.sizeOk5 _ _ _ _ _))
  refine e11 (up _ _ y1) λsl y3=>?_
  have az:=am.alloc {cls:=.type "traceback",dict:=none,data:=.fields ([head,.ref L,.none,rawInt L,.none]++(if pl.isEmpty then VF 6 Value.none else pl)).toArray}
  have na:aq.get? aq.objs.size=none:=VC (VA _)
  have bS:=am.free na
  have y4:=Vp {cls:=.type "traceback",dict:=none,data:=.fields ([head,.ref L,.none,rawInt L,.none]++(if pl.isEmpty then VF 6 Value.none else pl)).toArray} y3
  refine Gk az e y4 y2 x3 λax oe' aF z1 z2 z3=>?_
  have hT:aq.objs.size≠c.ρ k:=(bS.ne k (nV am e).1).1
  have zT:=z3 _ _ hT (Vx aq rfl)
  exact hQ L _ hf aF ⟨_,_,aq.objs.size,_,_,z1,z2,by simpa using x3,by simp[x3],zT,rfl,by simp,by simp,bS⟩
 rcases fl with⟨oe,vs,x1,x2,x3,x4⟩|⟨m,⟨oe,vs,T,ot,tvs,x1,x2,x3,x4,t1,t2,t3,t4,t6⟩,t5⟩
 .refine wpAny_bind (wpAny_field x1 x2 x4 ?_)
  refine eB (by decide) ?_
  exact entry .none _ s oe vs x3 I x1 x2
 .refine wpAny_bind (wpAny_field x1 x2 x4 ?_)
  refine jU (show(Value.ref T !=Value.none)=true from by simp) ?_
  refine wpAny_bind (wpAny_field t1 t2 t4 ?_)
  by_cases hm:m=rawInt L
  .subst hm
   refine jU (by simp) ?_
   exact wpAny_pure (hQ L s hf I ⟨_,_,T,_,_,x1,x2,x3,x4,t1,t2,t3,t4,t6⟩)
  .refine eB (by simpa using hm) ?_
   refine wpAny_bind (xX I e x1 x2 x3 x4 t1 t2 t3 t6 λae af y1 y2=>?_)
   exact entry (.ref T) _ _ oe vs x3 af y1 x2
theorem hY{m:Value}{o:Option Addr}{Q:Unit->Shared->Prop}(I:cV g c h s)(e:h.get k=some (.exc ci mm false))(fl:i6 g c (c.ρ k) m s)
  (hQ:∀s',cV g c h s'->i6 g c (c.ρ k) (o.elim .none λf=>rawInt f) s'->Q () s'):wpAny g.M A (setFlight (.ref (c.ρ k)) o) Q E s:=by
 obtain⟨oe,vs,T,ot,tvs,x1,x2,x3,x4,t1,t2,t3,t4,t5⟩:=fl
 unfold setFlight
 refine wpAny_bind (wpAny_field x1 x2 x4 ?_)
 refine jU (show(Value.ref T !=Value.none)=true from by simp) ?_
 exact xX I e x1 x2 x3 x4 t1 t2 t3 t5 λae af y1 y2=>hQ _ af y2
theorem i6.fly{e:Addr}(x:i6 g c e .none s):vE g c A e s:=.tb _ x (.inl rfl)
theorem i6.flyL{e L:Addr}{fr:Fr}{env:Env}(f:FR g c A fr env)(hf:env.frame=some L)(x:i6 g c e (rawInt L) s):vE g c A e s:=
 let⟨e0,l,l1,l2⟩:=f.lk;.tb _ x (.inr ⟨e0,l,L,l1,l2.symm.trans hf,rfl⟩)
end
section
variable{n:Nat}{A:Around}{fr:Fr}{env:Env}{X:Nat->H->Bool}{v:Value}{s:Shared}{E:Value->Shared->Prop}
theorem sW(oa:dz g c n (A.deeper env))(f:FR g c (A.deeper env) fr env)(hx:EX g c (A.deeper env) X v s):wpAny g.M (A.deeper env) (leaving env v) (λY s'=>EX g c A X v s') E s:=by
 obtain⟨k,ag,ae,ac,af,⟨ci,mm,he⟩,rfl,fl,hX⟩:=hx
 unfold leaving
 refine wpAny_bind (lI (oa.up ac) (f.ext ac) af he fl λL aj hL am hh=>?_)
 exact hY (o:=none) am he hh λav az hh=>⟨k,ag,ae,ac,az,⟨ci,mm,he⟩,rfl,hh.fly,hX⟩
theorem Gl{k ci:Nat}{mm:List (Nat×V)}{h:H}{L:Addr}(f:FR g c A fr env)(hf:env.frame=some L)(I:cV g c h s)(he:h.get k=some (.exc ci mm false))(hh:i6 g c (c.ρ k) (rawInt L) s)(hX:X k h=true):cameBackBy g.M A env (EX g c A X) (.ref (c.ρ k)) s:=by
 unfold cameBackBy
 obtain⟨oe,vs,T,ot,tvs,x1,x2,x3,x4,r⟩:=id hh
 refine wpAny_bind (wpAny_field x1 x2 x4 ?_)
 refine eB (by simp) ?_
 rw[hf]
 exact hY (o:=some L) I he hh λav az hh=>⟨k,c,h,.refl c,az,⟨ci,mm,he⟩,rfl,hh.flyL f hf,hX⟩
theorem xY(oa:dz g c n A)(f:FR g c A fr env)(hx:EX g c A X v s):notedBy g.M A env (λe s'=>dT g c A env X e s') v s:=by
 obtain⟨k,ag,ae,ac,af,⟨ci,mm,he⟩,rfl,fl,hX⟩:=hx
 exact lI (oa.up ac) (f.ext ac) af he fl λL aj hL am hh=>⟨k,ag,ae,L,ac,am,⟨ci,mm,he⟩,rfl,hL,hh,hX⟩
theorem dT.back(f:FR g c A fr env)(hx:dT g c A env X v s):cameBackBy g.M A env (EX g c A X) v s:=by
 obtain⟨k,ag,ae,L,ac,af,⟨ci,mm,he⟩,rfl,hL,hh,hX⟩:=hx
 exact wpAny_mono (Gl (f.ext ac) hL af he hh hX) (λY Y=>EX.mono ac) λY Y=>EX.mono ac
end
end
section
variable{g:Gb}{c c':Cf}
noncomputable def cz(g:Gb):Cf:=⟨0,λY=>0,λY=>0,g.T0,λY=>False,λY Y=>False⟩
theorem cV.cz{h:H}{s:Shared}(I:cV g c h s):dA (cz g) c:=⟨V6 _,λY h=>absurd h (VE _),λY h=>absurd h (VE _),I.t0,λY h=>h.elim,λY Y h=>h.elim,λY h=>absurd h (VE _)⟩
noncomputable def Gm(g:Gb):Prop:=∃mg mb,g.B.Ns mainGlobals mg/\g.B.Ns 0 mb/\∀x a,cd x≠0->g.C.G.get (cd x)=some a->(∃b,a=.bi b/\mg x=none/\mb x=some (jI b))\/(∃v,mg x=some v/\VR g (cz g) a v)
structure GF(g:Gb):Prop where
 glob:Gm g
noncomputable def Km(g:Gb):Prop:=∀{c:Cf} {h:H} {s:Shared} {k:Nat} {o:O},cV g c h s->g.C.W.get k=some o->∃d,OR g c o (g.w k) d s.heap
structure SW(g:Gb):Prop where
 obj:Km g
theorem lJ{x:Str}(hx:cd x≠0):∀l:List (Str×NameKind),eJ (dH l) (cd x)=l.lookup x
 |[]=>rfl
 |(y,k)::r=>by
  refine(?_:eJ ((cd y,k)::dH r) (cd x)=_)
  rw[dZ]
  rw[VJ]
  by_cases e:x=y
  .subst e
   have:Vn (cd x) (cd x)=true:=VT _
   rw[this,beq_self_eq_true]
  .have h1:Vn (cd y) (cd x)=false:=dg λq=>e (et hx q.symm)
   have h2:(x==y)=false:=by simpa using e
   rw[h1,h2];exact lJ hx r
theorem eX{fr:Fr}{env:Env}{x:Str}{k:NameKind}(f:FR g c A fr env)(h:fK fr (cd x)=some k):cd x≠0/\env.kindOf x=some k:=by
 unfold fK at h
 cases hz:Vn (cd x) 0 with
 |true=>rw[hz] at h;cases h
 |false=>
  rw[hz] at h
  have hx:=en hz
  refine⟨hx,?_⟩
  rw[<-f.names] at h
  have h:eJ (dH env.scope.names) (cd x)=some k:=h
  rw[lJ hx] at h
  exact h
section
variable{A:Around}{s:Shared}{E:Value->Shared->Prop}
theorem mD{o:O}{m:List (Nat×V)}(h:oN o=some m):o=.ns m:=by
 cases o with
 |ns y=>exact congrArg O.ns (Vl h)
 |_=>exact nn h
theorem xZ{o:O}{m:Option V}(h:oC o=some m):o=.cell m:=by
 cases o with
 |cell y=>exact congrArg O.cell (Vl h)
 |_=>exact nn h
theorem IT{C:Prop}{h:H}{k:Nat}{K:List (Nat×V)->Bool}(I:cV g c h s)(hk:cR (dq (h.get k) oN) K=true)(f:∀m,h.get k=some (.ns m)->k<c.n->OR g c (.ns m) (c.ρ k) (c.δ k) s.heap->K m=true->C):C:=
 cP hk λm e hk=>cW e λo e1 e2=>f m (e1.trans (congrArg some (mD e2))) (I.obj _ _ e1).1 (mD e2▸(I.obj _ _ e1).2) hk
theorem x6{C:Prop}{h:H}{k:Nat}{K:Option V->Bool}(I:cV g c h s)(hk:cR (dq (h.get k) oC) K=true)(f:∀v,h.get k=some (.cell v)->k<c.n->OR g c (.cell v) (c.ρ k) (c.δ k) s.heap->K v=true->C):C:=
 cP hk λm e hk=>cW e λo e1 e2=>f m (e1.trans (congrArg some (xZ e2))) (I.obj _ _ e1).1 (xZ e2▸(I.obj _ _ e1).2) hk
theorem sX{C:Prop}{fr:Fr}{env:Env}{x:Str}{h:H}{K:V->Bool}(f:FR g c A fr env)(I:cV g c h s)(hx:cd x≠0)(ke:env.kindOf x=some .cell\/env.kindOf x=some .free)(hk:Bm fr (cd x) h K=true)
  (q:∀i v a,env.cells.lookup x=some (c.ρ i)->s.heap.IsCell (c.ρ i) (some v)->VR g c a v->K a=true->C):C:=
 cP hk λi hi hk=>x6 I hk λo Y Y ho hk=>cP hk λa e hk=>by
  subst e
  obtain⟨vo,hc,v,rfl,hv⟩:=ho
  exact q i v a (f.cells x i hx ke hi).2 hc hv hk
theorem sY(G:GF g){fr:Fr}{env:Env}{x:Str}{h:H}{K:V->Bool}{Q:Value->Shared->Prop}(f:FR g c A fr env)(I:cV g c h s)(hk:sM g.C fr (cd x) h K=true)
  (hq:∀a v,VR g c a v->K a=true->Q v s):wpAny g.M A (loadName env x) Q E s:=
 cP hk λk k1 hk=>by
  refine e02 (eX f k1) λhx ke=>?_
  cases k with
  |«local»=>
   exact IT I hk λm Y Y ho hk=>cP hk λa ha hK=>by
    refine e12 ho λmm hns hnr=>?_;clear ho
    refine e12 (hnr.get hx ha) λv hv hvr=>?_
    exact wpAny_loadName_local f.kind ke (f.loc▸hns) hv (hq a v hvr hK)
  |cell=>exact sX f I hx (.inl ke) hk λi v a h2 hc hv hk=>wpAny_loadName_cell f.kind ke h2 hc (hq a v hv hk)
  |free=>exact sX f I hx (.inr ke) hk λi v a h2 hc hv hk=>wpAny_loadName_free f.kind ke h2 hc (hq a v hv hk) (by
    cases hq:(x==("__classdict__":Str)) with
    |false=>rfl
    |true=>cases eq_of_beq hq;exact absurd ke f.cdict)
  |globalImplicit=>
   exact cP hk λa ha hK=>by
    refine e23 G.glob λmg mb hg hb hall=>?_
    rw[loadName_read f.kind ke]
    rcases hall x a hx ha with⟨b,rfl,hmiss,hbv⟩|⟨v,hv,hvr⟩
    .exact Calls.loadGlobal_builtin (f.glob▸hg.keeps I.base) hmiss (f.bi▸hb.keeps I.base) hbv (hq _ _ (show VR g c (.bi b) _ from rfl) hK)
    .exact Calls.loadGlobal_global (f.glob▸hg.keeps I.base) hv (hq a v (hvr.ext I.cz) hK)
  |_=>exact ft hk
theorem sZ{fr:Fr}{env:Env}{x:Str}{h:H}{K:V->Bool}(f:FR g c A fr env)(hk:sM g.C fr (cd x) h K=true):(x==("__debug__":Str))=false:=by
 cases hq:(x==("__debug__":Str)) with
 |false=>rfl
 |true=>cases eq_of_beq hq;exact cP hk λk k1 Y=>nn (f.dbg.symm.trans (eX f k1).2)
theorem Name_ok(G:GF g){fr:Fr}{env:Env}{x:Str}{p:Pos}{h:H}{K:V->H->Bool}{X:Nat->H->Bool}(f:FR g c A fr env)(I:cV g c h s)
  (hk:(sM g.C fr (cd x) h λv=>K v h)=true):wpAny g.M A (eval (.Name x p) env) (QV g c K) (EX g c A X) s:=by
 rw[eval_Name _ _ _ (sZ f hk)]
 exact wpAny_bind (wpAny_standAt (sY G f I hk λa v hv hK=>⟨a,c,h,.refl c,I,hv,hK⟩))
theorem Cw(l:List UInt8):BR g.σ (l.map λb=>AI.c b.toNat) l:=List.rec rfl (λb r ih=>⟨b,r,rfl,rfl,ih⟩) l
theorem Const_ok{env:Env}{k:Nat}{p:Pos}{q:Const}{h:H}{K:V->H->Bool}{X:Nat->H->Bool}(I:cV g c h s)(hk:BE q h K=true):
  wpAny g.M A (eval (.Constant q k p) env) (QV g c K) (EX g c A X) s:=by
 cases q with
 |none=>exact wpAny_Constant_none ⟨.none,c,h,.refl c,I,rfl,hk⟩
 |bool b=>exact wpAny_Constant_bool ⟨.bool b,c,h,.refl c,I,rfl,hk⟩
 |int i=>
  refine(?_:wpAny g.M A (mkInt i) _ _ s)
  exact wpAny_mkInt' (d:=s.drawn) ⟨.int (.c i),c,h,.refl c,I.tok _,⟨i,_,rfl,rfl⟩,hk⟩
 |str x=>exact iX hk λh1 h2 hk=>wpAny_Constant_str ⟨.str (cd x),c,h,.refl c,I.tok _,⟨x,_,rfl,rfl,en (dP h1),Vo (Vu (VY (xs:=x.cps)).symm) (Vw h2)⟩,hk⟩
 |bytes l=>exact Constant_bytes ⟨.bytes _,c,h,.refl c,I.tok _,⟨_,_,rfl,Cw l⟩,hk⟩
 |_=>exact ft hk
end
end
section
variable{g:Gb}{c c':Cf}
section
variable{C:Prop}{P:Value->Prop}{PL:List Value->Prop}
theorem eD{a:V}{x:AI}(h:dF a=some x):a=.int x:=by
 cases a with
 |int y=>exact congrArg V.int (Vl h)
 |_=>exact nn h
theorem jD{a:V}{x:Bool}(h:iv a=some x):a=.bool x:=by
 cases a with
 |bool y=>exact congrArg V.bool (Vl h)
 |_=>exact nn h
theorem gD{a:V}{x:Nat}(h:fp a=some x):a=.str x:=by
 cases a with
 |str y=>exact congrArg V.str (Vl h)
 |_=>exact nn h
theorem d7{a:V}{x:List AI}(h:dk a=some x):a=.bytes x:=by
 cases a with
 |bytes y=>exact congrArg V.bytes (Vl h)
 |_=>exact nn h
theorem eE{a:V}{x:List V}(h:ej a=some x):a=.tup x:=by
 cases a with
 |tup y=>exact congrArg V.tup (Vl h)
 |_=>exact nn h
theorem hZ{a:V}{x:Nat}(h:iW a=some x):a=.tok x:=by
 cases a with
 |tok b=>exact congrArg V.tok (Vl h)
 |_=>exact nn h
theorem gE{o:O}{x:List V}(h:oL o=some x):o=.list x:=by
 cases o with
 |list y=>exact congrArg O.list (Vl h)
 |_=>exact nn h
theorem s4{o:O}{x:List (Nat×V)}(h:oD o=some x):o=.dict x:=by
 cases o with
 |dict y=>exact congrArg O.dict (Vl h)
 |_=>exact nn h
theorem kG{o:O}{x:List AI}(h:oB o=some x):o=.barr x:=by
 cases o with
 |barr y=>exact congrArg O.barr (Vl h)
 |_=>exact nn h
theorem IU{o:O}{l:M1}(h:oF o=some l):o=.lam l.x l.body l.sc l.cells:=by
 cases o with
 |lam x b sc cs=>cases h;rfl
 |_=>exact nn h
@[elab_as_elim] theorem kI{a:V}{v:Value}{K:AI->Bool}(h:cR (dF a) K=true)(hv:VR g c a v)(f:∀x n t,dO g.σ x n->K x=true->P (.int n t)):P v:=
 cP h λx e hk=>by
  cases eD e
  refine e22 hv λn t zq17 hx=>?_;clear hv
  cases zq17
  exact f x n t hx hk
@[elab_as_elim] theorem RT{a:V}{v:Value}{K:Bool->Bool}(h:cR (iv a) K=true)(hv:VR g c a v)(f:∀b,K b=true->P (.bool b)):P v:=
 cP h λx e hk=>by
  cases jD e
  cases (show v=.bool x from hv)
  exact f x hk
@[elab_as_elim] theorem kS{a:V}{v:Value}{K:Nat->Bool}(h:cR (fp a) K=true)(hv:VR g c a v)(f:∀x t,cd x≠0->x.length≤1000->K (cd x)=true->P (.str x t)):P v:=
 cP h λx e hk=>by
  cases gD e
  refine e24 hv λy t zq18 zq19 h1 h2=>?_;clear hv
  cases zq18
  cases zq19
  exact f y t h1 h2 hk
@[elab_as_elim] theorem kB{a:V}{v:Value}{K:List AI->Bool}(h:cR (dk a) K=true)(hv:VR g c a v)(f:∀l b t,BR g.σ l b.toList->K l=true->P (.bytes b t)):P v:=
 cP h λx e hk=>by
  cases d7 e
  refine e22 hv λb t zq20 hx=>?_;clear hv
  cases zq20
  exact f x b t hx hk
@[elab_as_elim] theorem kT{a:V}{v:Value}{K:List V->Bool}(h:cR (ej a) K=true)(hv:VR g c a v)(f:∀l x vs,c.T x vs->da g c l vs->K l=true->P (.ref x)):P v:=
 cP h λx e hk=>by
  cases eE e
  refine e23 hv λy vs zq21 h1 h2=>?_;clear hv
  cases zq21
  exact f x y vs h1 h2 hk
@[elab_as_elim] theorem kR{a:V}{v:Value}{K:Nat->Bool}(h:cR (fu a) K=true)(hv:VR g c a v)(f:∀k,k<c.n->K k=true->P (.ref (c.ρ k))):P v:=
 cP h λx e hk=>by
  cases gC e
  refine e02 hv λh1 zq22=>?_;clear hv
  cases zq22
  exact f x h1 hk
@[elab_as_elim] theorem a0{l:List V}{vs:List Value}{k:Bool}(h:FG l k=true)(hl:da g c l vs)(f:k=true->PL []):PL vs:=by
 cases l with
 |nil=>cases (show vs=[] from hl);exact f h
 |cons x r=>exact ft h
@[elab_as_elim] theorem a1{l:List V}{vs:List Value}{K:V->Bool}(h:iw l K=true)(hl:da g c l vs)(f:∀a v,VR g c a v->K a=true->PL [v]):PL vs:=by
 cases l with
 |nil=>exact ft h
 |cons x r=>
  refine e23 hl λv ws zq23 h1 h2=>?_;clear hl
  cases zq23
  exact a0 (PL:=λws=>PL (v::ws)) h h2 λhk=>f x v h1 hk
@[elab_as_elim] theorem a2{l:List V}{vs:List Value}{K:V->V->Bool}(h:A5 l K=true)(hl:da g c l vs)(f:∀a v b w,VR g c a v->VR g c b w->K a b=true->PL [v,w]):PL vs:=by
 cases l with
 |nil=>exact ft h
 |cons x r=>
  refine e23 hl λv ws zq24 h1 h2=>?_;clear hl
  cases zq24
  exact a1 (PL:=λws=>PL (v::ws)) h h2 λb w hb hk=>f x v b w h1 hb hk
theorem Gn{α:Type}{l:List α}(h:Vn l.length 0=true):l=[]:=Wh (cX h)
section
variable{h:H}{s:Shared}
theorem ew{l:List V}{vs:Array Value}(h:da g c l vs.toList):vs.size=l.length:=(VY (xs:=vs)).symm.trans h.length
theorem iJ{a:V}{o:O}{D:i5}(e:dY D a h=some o):gS a=true:=by
 cases a with
 |wr k=>rfl
 |ref k=>rfl
 |_=>exact nn e
theorem nW{a:V}{v:Value}{o:O}(W:SW g)(I:cV g c h s)(hv:VR g c a v)(e:dY g.C a h=some o):∃x d,v=.ref x/\OR g c o x d s.heap:=by
 cases a with
 |wr k=>exact(W.obj I e).elim λd h1=>⟨_,d,hv,h1⟩
 |ref k=>exact⟨_,_,(show k<c.n/\v=.ref (c.ρ k) from hv).2,(I.obj _ _ e).2⟩
 |_=>exact nn e
@[elab_as_elim] theorem Go{α:Type}{w:O->Option α}{a:V}{v:Value}{y:α}(W:SW g)(I:cV g c h s)(e:dq (dY g.C a h) w=some y)(hv:VR g c a v)(f:∀o x d,w o=some y->OR g c o x d s.heap->P (.ref x)):P v:=
 cW e λo e1 e2=>by
  refine e22 (nW W I hv e1) λx d zq25 h1=>?_
  cases zq25
  exact f o x d e2 h1
@[elab_as_elim] theorem kO{α:Type}{w:O->Option α}{a:V}{v:Value}{K:α->Bool}(W:SW g)(I:cV g c h s)(hk:cR (dq (dY g.C a h) w) K=true)(hv:VR g c a v)(f:∀o y x d,w o=some y->OR g c o x d s.heap->K y=true->P (.ref x)):P v:=
 cP hk λy e hk=>Go W I e hv λo x d e2 h1=>f o y x d e2 h1 hk
@[elab_as_elim] theorem kL{a:V}{v:Value}{K:List V->Bool}(W:SW g)(I:cV g c h s)(hk:cR (gj (dY g.C a h)) K=true)(hv:VR g c a v)(f:∀l x ws,jk s.heap x ws->da g c l ws.toList->l.length≤10000->K l=true->P (.ref x)):P v:=
 kO W I hk hv λo l x d e h1 hk=>by
  cases gE e
  refine e13 h1 λws h1 h2 h3=>?_
  exact f l x ws h1 h2 h3 hk
@[elab_as_elim] theorem kD{a:V}{v:Value}{K:List (Nat×V)->Bool}(W:SW g)(I:cV g c h s)(hk:cR (nA (dY g.C a h)) K=true)(hv:VR g c a v)(f:∀l x kvs,s.heap.DictOf (strKind g.pr g.wd) x kvs->(x==sysModules)=false->PR g c l kvs->l.length≤1000->K l=true->P (.ref x)):P v:=
 kO W I hk hv λo l x d e h1 hk=>by
  cases s4 e
  refine e14 h1 λkvs h1 h2 h3 h4=>?_
  exact f l x kvs h1 h2 h3 h4 hk
@[elab_as_elim] theorem SQ{a:V}{v:Value}{K:List AI->Bool}(W:SW g)(I:cV g c h s)(hk:cR (A4 (dY g.C a h)) K=true)(hv:VR g c a v)(f:∀l x o b,s.heap.get? x=some o->o.cls=.type "bytearray"->o.data=.bytearray b 0->BR g.σ l b.toList->l.length≤10000->K l=true->P (.ref x)):P v:=
 kO W I hk hv λo l x d e h1 hk=>by
  cases kG e
  refine e25 h1 λo b h1 h2 h3 h4 h5=>?_
  exact f l x o b h1 h2 h3 h4 h5 hk
theorem nX{o:O}{n:Nat×Nat}{x d:Addr}{hp:Heap}(e:oS o=some n)(h:OR g c o x d hp)(f:∀ws,jk hp x ws->n.1≤ws.size->ws.size≤n.2->n.2≤10000->o.isNs=false->C):C:=by
 cases o with
 |list l=>
  cases e
  refine e13 h λws h1 h2 h3=>?_;clear h
  have z:=ew h2
  exact f ws h1 (Vu z.symm) (Vu z) h3 rfl
 |lsU lo hi=>
  cases e
  refine e14 h λws h1 h2 h3 h4=>?_;clear h
  exact f ws h1 h2 h3 h4 rfl
 |_=>exact nn e
@[elab_as_elim] theorem kU{a:V}{v:Value}{K:Nat×Nat->Bool}(W:SW g)(I:cV g c h s)(hk:cR (H7 (dY g.C a h)) K=true)(hv:VR g c a v)(f:∀n x ws,jk s.heap x ws->n.1≤ws.size->ws.size≤n.2->n.2≤10000->K n=true->P (.ref x)):P v:=
 kO W I hk hv λo n x d e h1 hk=>nX e h1 λws h1 h2 h3 h4 Y=>f n x ws h1 h2 h3 h4 hk
theorem MP{α:Type}{w:O->Option α}{k:Nat}{K:α->Bool}(I:cV g c h s)(hk:cR (dq (h.get k) w) K=true)(f:∀o y,h.get k=some o->w o=some y->OR g c o (c.ρ k) (c.δ k) s.heap->K y=true->C):C:=
 cP hk λy e hk=>cW e λo e1 e2=>f o y e1 e2 (I.obj _ _ e1).2 hk
theorem Gp{k:Nat}{K:List V->Bool}(I:cV g c h s)(hk:cR (gj (h.get k)) K=true)(f:∀l ws,h.get k=some (.list l)->jk s.heap (c.ρ k) ws->da g c l ws.toList->l.length≤10000->K l=true->C):C:=
 MP I hk λo l e e1 h1 hk=>by
  cases gE e1
  refine e13 h1 λws h1 h2 h3=>?_
  exact f l ws e h1 h2 h3 hk
end
theorem Ko{a:AI}{v:Value}(h:VR g c (.int a) v):∃n t,v=.int n t/\dO g.σ a n:=h
theorem eG{a:AI}{n:Int}{t:Tok}(h:dO g.σ a n):VR g c (.int a) (.int n t):=⟨n,t,rfl,h⟩
theorem jl{l:List AI}{b:Array UInt8}{t:Tok}(h:BR g.σ l b.toList):VR g c (.bytes l) (.bytes b t):=⟨b,t,rfl,h⟩
theorem gu{l:List V}{a:Addr}{vs:List Value}(h:c.T a vs)(r:da g c l vs):VR g c (.tup l) (.ref a):=⟨a,vs,rfl,h,r⟩
theorem nY{b:Bool}:VR g c (.bool b) (.bool b):=rfl
theorem iK:VR g c .none .none:=rfl
theorem Kp{x:Str}{t:Tok}(h:cd x≠0)(h1:x.length≤1000):VR g c (.str (cd x)) (.str x t):=⟨x,t,rfl,rfl,h,h1⟩
theorem rk{k:Nat}{x:Addr}(h:k<c.n)(e:x=c.ρ k):VR g c (.ref k) (.ref x):=⟨h,congrArg Value.ref e⟩
section
variable{K:V->H->Bool}{a:V}{v:Value}{s:Shared}{h:H}
theorem QV.at(I:cV g c h s)(r:VR g c a v)(k:K a h=true):QV g c K v s:=⟨a,c,h,.refl c,I,r,k⟩
theorem QV.ti{b:AI}{n:Int}{t tk:Nat}(I:cV g c h s)(r:dO g.σ b n)(k:K (.int b) h=true):QV g c K (.int n t) {s with toks:=tk}:=.at (I.tok _) (eG r) k
theorem QV.tb{l:List AI}{b:Array UInt8}{t tk:Nat}(I:cV g c h s)(r:BR g.σ l b.toList)(k:K (.bytes l) h=true):QV g c K (.bytes b t) {s with toks:=tk}:=.at (I.tok _) (jl r) k
end
theorem BR.len{σ:Nat->Int}:∀{l:List AI} {b:List UInt8},BR σ l b->b.length=l.length
 |[],_,h=>by cases h;rfl
 |_::r,_,h=>by obtain⟨b,t,rfl,_,h2⟩:=h;exact congrArg (· +1) (BR.len h2)
theorem x7(l:List AI):∀i,fF (l.map V.int) i=(fF l i).map V.int:=List.rec (λY=>rfl) (λY Y ih i=>Nat.rec rfl (λi Y=>ih i) i) l
theorem BR.size{σ:Nat->Int}{l:List AI}{b:Array UInt8}(h:BR σ l b.toList):b.size=l.length:=(VY (xs:=b)).symm.trans h.len
theorem lK{σ:Nat->Int}{a:AI}{n:Int}(h:dO σ a n)(e:uW a=true):0≤n/\n<256:=
 cP e λY e1 e=>cP e λY e2 e=>cT e λh1 h2=>⟨Vz (of_decide_eq_true h1) (h.lo e1),VW (Vz (h.hi e2) (of_decide_eq_true h2)) (by decide)⟩
theorem eQ{a b:Nat}(h:Vy a b=true):a≤b:=Vw h
theorem dD{n:Nat}(h:n≤100000):n≤sizeLine:=Vo h (by rw[sizeLine_eq];decide)
end
end
section
variable{g:Gb}{c c':Cf}
theorem BR.length{σ:Nat->Int}{l:List AI}{b:List UInt8}(h:BR σ l b):b.length=l.length:=h.len
theorem BR.append{σ:Nat->Int}:∀{l l':List AI} {b b':List UInt8},BR σ l b->BR σ l' b'->BR σ (l++l') (b++b')
 |[],_,_,_,h,h'=>by cases h;exact h'
 |_::r,_,_,_,h,h'=>by obtain⟨b,t,rfl,h1,h2⟩:=h;exact⟨b,_,rfl,h1,BR.append h2 h'⟩
theorem BR.rep{σ:Nat->Int}{l:List AI}{b:List UInt8}(h:BR σ l b):∀n,BR σ (Sn l n) (VF n b).flatten
 |0=>rfl
 |n+1=>by rw[List.replicate_succ,List.flatten_cons];exact h.append (BR.rep h n)
theorem jE{σ:Nat->Int}{a:AI}{n:Int}(h:dO σ a n)(e:nE a=true):Builtin.Int.intBits n≤64/\n.natAbs.log2<64:=
 cP e λY e1 e=>cP e λY e2 e=>cT e λh1 h2=>by
  have h1:=Ww (of_decide_eq_true h1) (h.lo e1)
  have h2:=VW (h.hi e2) (of_decide_eq_true h2)
  by_cases h0:n=0
  .subst h0;decide
  .have q:n.natAbs.log2<64:=(Nat.log2_lt (Int.natAbs_ne_zero.mpr h0)).mpr (by unfold So at h1 h2;omega)
   have e:Builtin.Int.intBits n=n.natAbs.log2+1:=if_neg (by simpa using h0)
   exact⟨e▸q,q⟩
section
variable{A:Around}{s:Shared}{E:Value->Shared->Prop}
theorem zI{op:Operator}{x y:AI}{m n:Int}{t u:Tok}{h:H}{K:V->H->Bool}(I:cV g c h s)(hx:dO g.σ x m)(hy:dO g.σ y n)
  (hk:Bf op x y h K=true):wpAny g.M A (binaryOp op (.int m t) (.int n u)) (QV g c K) E s:=by
 cases op with
 |Add=>exact add_int (.ti I (hx.add hy) hk)
 |Sub=>exact PySem.P.sub_int (.ti I (hx.sub hy) hk)
 |Mult=>exact cT hk λhs hk=>cP hk λz hz hk=>PySem.P.mul_int (.ti I (hx.mul hy hz) hk) (eL hs (λq=>.of_left (jE hx q).1) λq=>.of_right (jE hy q).1)
 |FloorDiv=>
  refine cT hk λhs hk=>cP hk λz hz hk=>?_
  have h2:=(hx.div hy hz).2
  refine floordiv_int (Xw h2) ?_ (.inl (PyProof.noPylong_of_log2 (Nat.lt_trans (jE hy hs).2 (by decide))))
  rw[Int.fdiv_eq_ediv_of_nonneg _ (Wt h2)]
  exact .ti I (hx.div hy hz).1 hk
 |Mod=>
  refine cP hk λz hz hk=>?_
  have h2:=(hx.mod hy hz).2
  refine mod_int' (Xw h2) ?_
  rw[Int.fmod_eq_emod_of_nonneg _ (Wt h2)]
  exact .ti I (hx.mod hy hz).1 hk
 |Pow=>
  refine cT hk λhs hk=>cP hk λz hz hk=>?_
  refine e03 (hx.pow hy hz) λh1 h2 h3=>?_
  have hb:=(jE hx hs).1
  by_cases h0:n=0
  .subst h0;exact AutoIntOps.pow_0 h2.1 rfl (.ti I ((Int.pow_zero m).symm▸h1) hk)
  .refine AutoIntOps.pow_4 h2.1 (by simpa using h0) (λq=>?_) (λq=>?_) (λq=>?_) (.ti I h1 hk)
   .rcases Bool.or_eq_true_iff.mp q with q|q<;>exact absurd (eq_of_beq q▸h3) (by decide)
   .exact absurd (eq_of_beq q▸h3) (by decide)
   .have q:=of_decide_eq_true q
    rw[bitsLine_eq] at q
    exact absurd q (Int.not_lt.mpr (Vz (Int.mul_le_mul (Int.ofNat_le.mpr hb) h2.2 h2.1 (by decide)) (by decide)))
 |_=>exact ft hk
inductive vG(g:Gb)(c:Cf):O->List Value->Prop
 |list (l:List V) (vs:List Value) (h:da g c l vs) (b:l.length≤10000):vG g c (.list l) vs
 |sz (lo hi:Nat) (vs:List Value) (h1:lo≤vs.length) (h2:vs.length≤hi) (b:hi≤10000):vG g c (.lsU lo hi) vs
theorem vG.or{o:O}{vs:List Value}{a d:Addr}{h:Heap}{n:Nat}(x:vG g c o vs)(ha:h.get? a=some {cls:=.type "list",dict:=none,data:=.seq vs.toArray n,slots:=#[]}):OR g c o a d h:=
 vG.casesOn x (λY vs h1 h2 e=>⟨vs.toArray,e,h1,h2⟩) (λY Y vs h1 h2 h3 e=>⟨vs.toArray,e,h1,h2,h3⟩) (show jk h a vs.toArray from⟨n,ha⟩)
theorem IV{o:O}{vs:List Value}{h:H}(I:cV g c h s)(x:vG g c o vs):
  ∃c',dA c c'/\cV g c' (h.push o) {s with heap:=s.heap.push {cls:=.type "list",data:=.seq vs.toArray}}/\VR g c' (.ref h.length) (.ref s.heap.objs.size):=
 (I.push1 false (o:=o) (ob:={cls:=.type "list",data:=.seq vs.toArray}) rfl (λY ga=>x.or ga) ft).elim λc' y=>⟨c',y.e,y.i,y.v⟩
theorem x8{a b:V}{v w:Value}{h:H}{K:O->Bool}{P:Value->Value->Prop}(W:SW g)(I:cV g c h s)(hv:VR g c a v)(hw:VR g c b w)(hk:FI (dY g.C a h) (dY g.C b h) K=true)
  (f:∀p vs q ws o,jk s.heap p vs->jk s.heap q ws->vs.size+ws.size≤10000->vG g c o (vs.toList++ws.toList)->K o=true->P (.ref p) (.ref q)):P v w:=
 eL hk (λhk=>kL (P:=λv=>P v w) W I hk hv λx p vs h1 h2 Y hk=>kL (P:=λw=>P (.ref p) w) W I hk hw λy q ws h3 h4 Y hk=>cT hk λhc hk=>
   f p vs q ws _ h1 h3 (by rw[ew h2,ew h4];exact eQ hc) (.list _ _ (h2.append h4) (by rw[VK];exact eQ hc)) hk)
  λhk=>kU (P:=λv=>P v w) W I hk hv λx p vs h1 h2 h3 Y hk=>kU (P:=λw=>P (.ref p) w) W I hk hw λy q ws h4 h5 h6 Y hk=>cT hk λhc hk=>
   have hz:=Wy h3 h6
   have e:(vs.toList++ws.toList).length=vs.size+ws.size:=by rw[VK,VY,VY]
   f p vs q ws _ h1 h4 (Vo hz (eQ hc)) (.sz _ _ _ (e▸Wy h2 h5) (e▸hz) (eQ hc)) hk
theorem kH{l:List V}{vs:List Value}{h:H}(I:cV g c h s)(hv:da g c l vs)(hl:l.length≤10000):
  ∃c',dA c c'/\cV g c' (h.push (.list l)) {s with heap:=s.heap.push {cls:=.type "list",data:=.seq vs.toArray}}/\VR g c' (.ref h.length) (.ref s.heap.objs.size):=IV I (.list _ _ hv hl)
theorem x9{l:List V}{vs:List Value}{h:H}(I:cV g c h s)(hv:da g c l vs):
  ∃c',dA c c'/\cV g c' h {s with heap:=s.heap.push {cls:=.type "tuple",data:=.seq vs.toArray}}/\VR g c' (.tup l) (.ref s.heap.objs.size):=
 have ga:(s.heap.push {cls:=.type "tuple",data:=.seq vs.toArray}).get? s.heap.objs.size=some {cls:=.type "tuple",data:=.seq vs.toArray}:=Vx _ rfl
 ⟨c.tupAt s.heap.objs.size vs,dA.tupAt ..,I.newTup (λY Y e=>Vp _ e) (VC (VA _)) ⟨_,ga,rfl,_,rfl⟩ ⟨rfl,rfl,rfl⟩,gu (.inr ⟨rfl,rfl⟩) (hv.ext (dA.tupAt ..))⟩
theorem zJ{x y:Addr}{vs ws:Array Value}{Q:Value->Shared->Prop}(hl:jk s.heap x vs)(hb:jk s.heap y ws)(hsz:vs.size+ws.size≤10000)
  (h:Q (.ref s.heap.objs.size) {s with heap:=s.heap.push {cls:=.type "list",data:=.seq (vs.toList++ws.toList).toArray}}):wpAny g.M A (binaryOp .Add (.ref x) (.ref y)) Q E s:=by
 refine e11 hl λn ho=>?_;clear hl
 refine e11 hb λn2 ho2=>?_;clear hb
 have e:(vs.toList++ws.toList).toArray=vs++ws:=Xg Array.toList_append.symm
 exact concat_meets ⟨_,ho,rfl⟩ ⟨_,ho2,rfl⟩ noFill_list_add seq_list_add PySem.F.slot_list_add PySem.F.entry_list_add (PySem.F.args_list_add_2 _ _) (list_addW x y vs ws n n2 none none #[] #[] (dD (Vo hsz (by decide)))) ⟨ho,ho2,e▸h⟩
theorem Cx{x y:Addr}{vs ws:Array Value}{Q:Value->Shared->Prop}(hl:s.heap.IsTuple x vs)(hb:s.heap.IsTuple y ws)(hsz:vs.size+ws.size≤sizeLine)
  (h0:vs=#[]->Q (.ref y) s) (h1:vs≠#[]->ws=#[]->Q (.ref x) s)
  (h:Q (.ref s.heap.objs.size) {s with heap:=s.heap.push {cls:=.type "tuple",data:=.seq (vs++ws)}}):wpAny g.M A (binaryOp .Add (.ref x) (.ref y)) Q E s:=by
 obtain⟨⟨cls,dd,data,sl⟩,ho,hc,n,hd⟩:=hl
 obtain⟨⟨cls2,dd2,data2,sl2⟩,ho2,hc2,n2,hd2⟩:=hb
 cases hc;cases hd;cases hc2;cases hd2
 by_cases hv:vs=#[]
 .exact concat_meets ⟨_,ho,rfl⟩ ⟨_,ho2,rfl⟩ noFill_tuple_add seq_tuple_add PySem.F.slot_tuple_add PySem.F.entry_tuple_add (PySem.F.args_tuple_add_2 _ _)
   (tuple_addW0 x y vs ws n n2 dd dd2 sl sl2 (by simp[hv])) ⟨ho,ho2,h0 hv⟩
 .by_cases hw:ws=#[]
  .exact concat_meets ⟨_,ho,rfl⟩ ⟨_,ho2,rfl⟩ noFill_tuple_add seq_tuple_add PySem.F.slot_tuple_add PySem.F.entry_tuple_add (PySem.F.args_tuple_add_2 _ _)
    (tuple_addW1 x y vs ws n n2 dd dd2 sl sl2 (by simpa using hv) (by simp[hw])) ⟨ho,ho2,h1 hv hw⟩
  .exact concat_meets ⟨_,ho,rfl⟩ ⟨_,ho2,rfl⟩ noFill_tuple_add seq_tuple_add PySem.F.slot_tuple_add PySem.F.entry_tuple_add (PySem.F.args_tuple_add_2 _ _)
    (tuple_addW2 x y vs ws n n2 dd dd2 sl sl2 (by simpa using hv) (by simpa using hw) hsz) ⟨ho,ho2,h⟩
theorem Cy{x:Str}(h:x.length=0):cd x=ix:=by
 have e:x.cps.toList=[]:=Wh ((VY (xs:=x.cps)).trans h)
 exact congrArg (qi · 1) e
@[elab_as_elim] theorem Ua{P:Value->Prop}{a:V}{v:Value}{K:Nat->Bool}(h:VR g c a v)(hk:cR (uZ a) K=true)(f:∀n x t,x.length≤n->(ko a=true->x.length≠0)->K n=true->P (.str x t)):P v:=by
 cases a with
 |str k=>
  refine e24 h λx t zq26 h1 h2 h3=>?_;clear h
  cases zq26
  exact f 1000 x t h3 (λhn h0=>by rw[show ko (.str k)= !(Vn k ix) from rfl,<-h1,Cy h0] at hn;exact ft hn) hk
 |strU n=>
  refine e24 h λx t zq27 h1 h2 h3=>?_;clear h
  cases zq27
  exact f n x t h2 (λY=>h1) hk
 |_=>exact ft hk
theorem Cz{op:Operator}(h:Ig op=true):op=.Add:=by
 cases op with
 |Add=>rfl
 |_=>exact ft h
theorem CA{op:Operator}(h:Ih op=true):op=.Mult:=by
 cases op with
 |Mult=>rfl
 |_=>exact ft h
theorem CB{x y:List AI}{p q:Array UInt8}{t u:Tok}{h:H}{K:V->H->Bool}(I:cV g c h s)(hx:BR g.σ x p.toList)(hy:BR g.σ y q.toList)(hk:Ii x y h K=true):
  wpAny g.M A (binaryOp .Add (.bytes p t) (.bytes q u)) (QV g c K) E s:=
 cT hk λhc hk=>KBy.add_bytes (by rw[hx.size,hy.size];exact Vo (eQ hc) (by decide)) λt' k=>.tb I (by rw[VX];exact hx.append hy) hk
theorem CC{x y:List V}{p q:Addr}{vs ws:List Value}{h:H}{K:V->H->Bool}(I:cV g c h s)(hx1:c.T p vs)(hx2:da g c x vs)(hy1:c.T q ws)(hy2:da g c y ws)(hk:Ij x y h K=true):
  wpAny g.M A (binaryOp .Add (.ref p) (.ref q)) (QV g c K) E s:=
 cT hk λhc hk=>by
  have app:=hx2.append hy2
  have hl:vs.toArray.size+ws.toArray.size≤sizeLine:=dD (Vo (by rw[VN,VN,hx2.length,hy2.length];exact eQ hc) (by decide))
  refine Cx (I.tup _ _ hx1) (I.tup _ _ hy1) hl (λq=>?_) (λY q=>?_) ?_
  .cases vs with
   |nil=>exact .at I (gu hy1 app) hk
   |cons _ _=>exact absurd (congrArg W2 q) (V9 _)
  .cases ws with
   |nil=>exact .at I (gu hx1 (by rwa [We] at app)) hk
   |cons _ _=>exact absurd (congrArg W2 q) (V9 _)
  .refine e13 (x9 I app) λc' e I' r=>?_
   rw[<-List.append_toArray] at I'
   exact⟨_,c',_,e,I',r,hk⟩
theorem Gq{a b:V}{v w:Value}{h:H}{K:V->H->Bool}(I:cV g c h s)(hv:VR g c a v)(hw:VR g c b w)(hk:M4 a b h K=true):wpAny g.M A (binaryOp .Add v w) (QV g c K) E s:=
 Ua hv hk λm x t hx hxn hk=>Ua hw hk λn y u hy hyn hk=>iX hk λhc hne hk=>by
  have hb:=Vo (Wy hx hy) (eQ hc)
  refine add_str (λt' tk=>.at (a:=.strU (m+n)) (I.tok _) ⟨_,_,rfl,?_,?_,eQ hc⟩ hk) (dD hb)
  .rw[strLen_append]
   exact λq=>eL hne (λz=>hxn z (Nat.eq_zero_of_add_eq_zero_right q)) λz=>hyn z (Nat.eq_zero_of_add_eq_zero_left q)
  .rw[strLen_append];exact Wy hx hy
theorem CD{x:List AI}{i:AI}{p:Array UInt8}{n:Int}{t u:Tok}{h:H}{K:V->H->Bool}(I:cV g c h s)(hx:BR g.σ x p.toList)(hi:dO g.σ i n)(hk:Ik x i h K=true):
  wpAny g.M A (binaryOp .Mult (.bytes p t) (.int n u)) (QV g c K) E s:=
 cP hk λm e1 hk=>Gd hk λc1 c2 c3 c4 hk=>by
  cases hi.cst e1
  have c4:=eQ c4
  have l1:=hx.length
  have ne:p.toList≠[]:=λq=>by rw[q] at l1;rw[<-l1] at c2;exact ft c2
  have b1:∀{z:Int},z.natAbs≤1000000->-1048576≤z/\z≤1048576:=λh=>by omega
  exact bytes_mul_any (b:=p.toList) ne (b1 c4).1 (b1 c4).2 (l1▸eQ c3) λt' k=>.tb I (hx.rep n.toNat) hk
theorem binop_ok(W:SW g){op:Operator}{a b:V}{v w:Value}{h:H}{K:V->H->Bool}(I:cV g c h s)(hv:VR g c a v)(hw:VR g c b w)
  (hk:Il g.C op a b h K=true):wpAny g.M A (binaryOp op v w) (QV g c K) E s:=
 Cr hk (λhk=>kI hk hv λx m t hx hk=>kI hk hw λy n u hy hk=>zI I hx hy hk) (λhk=>cT hk λe hk=>Cz e▸
   RR hk (λhk=>kB hk hv λx p t hx hk=>kB hk hw λy q u hy hk=>CB I hx hy hk) (λhk=>kT hk hv λx p vs hx1 hx2 hk=>kT hk hw λy q ws hy1 hy2 hk=>CC I hx1 hx2 hy1 hy2 hk) (λhk=>Gq I hv hw hk) (λhk=>x8 (P:=λv w=>wpAny g.M A (binaryOp .Add v w) (QV g c K) E s) W I hv hw hk λp vs q ws o h1 h2 hs hn hK=>(IV I hn).elim λc' y=>zJ h1 h2 hs ⟨_,c',_,y.1,y.2.1,y.2.2,hK⟩)) (λhk=>cT hk λe hk=>CA e▸kB hk hv λx p t hx hk=>kI hk hw λi n u hi hk=>CD I hx hi hk)
end
end
section
variable{g:Gb}{c c':Cf}
def lL(h:Heap)(i:Nat)(P:Value->Prop):SI->Prop
 |.list l=>∃xs x,h.IsList l xs/\xs[i]? =some x/\P x
 |.tup t=>∃xs x,h.IsTuple t xs/\xs[i]? =some x/\P x
 |.byt b _=>∃y,b[i]? =some y/\∀u,P (.int (y.toNat:Int) u)
def Gr(h:Heap)(i:Nat):SI->Prop
 |.list l=>∃xs,h.IsList l xs/\xs[i]? =none
 |.tup t=>∃xs,h.IsTuple t xs/\xs[i]? =none
 |.byt b _=>b[i]? =none
noncomputable def Uc:SI->String
 |.list _=>"list_iterator"
 |.tup _=>"tuple_iterator"
 |.byt _ _=>"bytes_iterator"
noncomputable def SR:SI->String
 |.list _=>"list_iterator.__next__"
 |.tup _=>"tuple_iterator.__next__"
 |.byt _ _=>"bytes_iterator.__next__"
theorem ni:∀si,Slot (Uc si) "__next__" (SR si)
 |.list _=>slot_listiter_next
 |.tup _=>F.slot_tuple_iterator_next
 |.byt _ _=>KBw.slot_next
theorem S1.typeIs{s:Shared}{it:Addr}{i:Nat}:∀{si:SI},S1 s.heap it i si->s.TypeIs (.ref it) (Uc si)
 |.list _,h=>Heap.IsListIter.typeIs h
 |.tup _,h=>Heap.IsTupleIter.typeIs h
 |.byt _ _,h=>KBw.iter_typeIs h
theorem S1.at{h h':Heap}{it:Addr}{i:Nat}(k:∀o,h.get? it=some o->h'.get? it=some o):∀{si:SI},S1 h it i si->S1 h' it i si
 |.list _,x=>let⟨o,e,r⟩:=x;⟨o,k _ e,r⟩
 |.tup _,x=>let⟨o,e,r⟩:=x;⟨o,k _ e,r⟩
 |.byt _ _,x=>let⟨o,e,r⟩:=x;⟨o,k _ e,r⟩
section
variable{A:Around}{E:Value->Shared->Prop}{s:Shared}{it:Addr}{i:Nat}
theorem rl{h:Heap}{g0 d t os}{Q:Fin->Shared->Prop}(hh:A.handled=none)(hE:∀h' e,(∀b o,h.get? b=some o->h'.get? b=some o)->(∃o,h'.get? e=some o/\o.cls=.type "StopIteration")->E (.ref e) ⟨h',g0,d,t,os⟩)(k:Value->Sem Fin)
  (hk:∀v,k v=(raiseNew v)):wpAny g.M A (newExc (.type "StopIteration") []>>=k) Q E ⟨h,g0,d,t,os⟩:=by
 refine wpAny_bind ?_
 simp only[newExc,newTuple]
 refine wpAny_bind (wpAny_newObj_type ?_ (by size_fits))
 refine wpAny_bind (m:=firstArgMember _ _) (wpAny_of_eq (a:=Value.none) (by first|rfl|(simp only[firstArgMember];rfl)) ?_)
 refine wpAny_newObj_type ?_ (by size_fits)
 rw[hk]
 exact wpAny_raiseNew_none hh (hE _ _ (λb o e=>Vp _ (Vp _ e)) ⟨_,Vx _ rfl,rfl⟩)
theorem mE{P:Value->Prop}{Q:Value->Shared->Prop}:∀{si:SI},S1 s.heap it i si->lL s.heap i P si->(∀x h' tk,P x->S1 h' it (i+1) si->VB it s.heap h'->Q x {s with heap:=h',toks:=tk})->
  wpAny g.M A (call (.builtin (SR si)) [.ref it]) Q E s
 |.list l,hit,hx,hQ=>by
  refine e13 (id hit) λo ho hc hd=>?_
  refine e23 hx λxs x zq28 hx hp=>?_
  obtain⟨ol,hol,_,nl,xA⟩:=zq28
  refine(?_:wpAny g.M A (call (.builtin "list_iterator.__next__") [.ref it]) Q E s)
  refine wpAny_call_entry slot_listiter_next (S1.typeIs hit) entry_listiter_next ?_ (args_listiter_next _)
  refine(?_:wpAny _ _ (field (.ref it) 0>>=_) _ _ s)
  refine wpAny_bind (wpAny_field ho hd (x:=.ref l) rfl ?_)
  refine(?_:wpAny _ _ (if(Value.ref l==Value.none)=true then _ else _) _ _ s)
  refine eB (show¬((Value.ref l==Value.none)=true) from Vs) ?_
  refine(?_:wpAny _ _ (field (.ref it) 1>>=_) _ _ s)
  refine wpAny_bind (wpAny_field ho hd (x:=.int i 0) rfl ?_)
  refine wpAny_bind (wpAny_seqItems hol xA ?_)
  simp only[VH,hx]
  refine wpAny_bind (wpAny_setField ho hd (by simp) (wpAny_pure ⟨x,rfl,hQ x _ s.toks hp ⟨_,VD _ ho (Wm (V0 hd _)),(WR ..).trans hc,?_⟩ (Heap.SameBut.update ..)⟩))
  rw[V0 hd];simp[rawInt]
 |.tup l,hit,hx,hQ=>by
  refine e13 (id hit) λo ho hc hd=>?_
  refine e23 hx λxs x zq29 hx hp=>?_
  obtain⟨ol,hol,_,nl,xA⟩:=zq29
  refine(?_:wpAny g.M A (call (.builtin "tuple_iterator.__next__") [.ref it]) Q E s)
  refine wpAny_call_entry F.slot_tuple_iterator_next (S1.typeIs hit) F.entry_tuple_iterator_next ?_ (F.args_tuple_iterator_next_1 _)
  refine(?_:wpAny _ _ (field (.ref it) 0>>=_) _ _ s)
  refine wpAny_bind (wpAny_field ho hd (x:=.ref l) rfl ?_)
  refine(?_:wpAny _ _ (if(Value.ref l==Value.none)=true then _ else _) _ _ s)
  refine eB (show¬((Value.ref l==Value.none)=true) from Vs) ?_
  refine(?_:wpAny _ _ (field (.ref it) 1>>=_) _ _ s)
  refine wpAny_bind (wpAny_field ho hd (x:=.int i 0) rfl ?_)
  refine wpAny_bind (wpAny_seqItems hol xA ?_)
  simp only[VH,hx]
  refine wpAny_bind (wpAny_setField ho hd (by simp) (wpAny_pure ⟨x,rfl,hQ x _ s.toks hp ⟨_,VD _ ho (Wm (V0 hd _)),(WR ..).trans hc,?_⟩ (Heap.SameBut.update ..)⟩))
  rw[V0 hd];simp[rawInt]
 |.byt b t,hit,hx,hQ=>by
  refine e13 (id hit) λo ho hc hd=>?_
  refine e12 hx λy hx hp=>?_
  refine(?_:wpAny g.M A (call (.builtin "bytes_iterator.__next__") [.ref it]) Q E s)
  refine wpAny_call_entry KBw.slot_next (S1.typeIs hit) KBw.entry_next ?_ (KBw.args_next _)
  refine(?_:wpAny _ _ (field (.ref it) 0>>=_) _ _ s)
  refine wpAny_bind (wpAny_field ho hd (x:=.bytes b t) rfl ?_)
  refine(?_:wpAny _ _ (if(Value.bytes b t==Value.none)=true then _ else _) _ _ s)
  refine eB (show¬((Value.bytes b t==Value.none)=true) from Vs) ?_
  refine(?_:wpAny _ _ (field (.ref it) 1>>=_) _ _ s)
  refine wpAny_bind (wpAny_field ho hd (x:=.int i 0) rfl ?_)
  refine wpAny_bind (wpAny_of_eq (a:=b) rfl ?_)
  simp only[VH,hx]
  refine wpAny_bind (wpAny_setField ho hd (by simp) (wpAny_bind (wpAny_mkInt (wpAny_pure ⟨_,rfl,hQ _ _ (s.toks+1) (hp _) ⟨_,VD _ ho (Wm (V0 hd _)),(WR ..).trans hc,?_⟩ (Heap.SameBut.update ..)⟩))))
  rw[V0 hd];simp[rawInt]
theorem nZ{Q:Value->Shared->Prop}(hh:A.handled=none):∀{si:SI},S1 s.heap it i si->Gr s.heap i si->
  (∀h' e,Wx it s.heap h'->(∃o,h'.get? e=some o/\o.cls=.type "StopIteration")->E (.ref e) {s with heap:=h'})->
  wpAny g.M A (call (.builtin (SR si)) [.ref it]) Q E s
 |.list l,hit,hx,hE=>by
  refine e13 (id hit) λo ho hc hd=>?_
  refine e12 hx λxs zq30 hx=>?_
  obtain⟨ol,hol,_,nl,xA⟩:=zq30
  refine(?_:wpAny g.M A (call (.builtin "list_iterator.__next__") [.ref it]) Q E s)
  refine wpAny_call_entry slot_listiter_next (S1.typeIs hit) entry_listiter_next ?_ (args_listiter_next _)
  refine(?_:wpAny _ _ (field (.ref it) 0>>=_) _ _ s)
  refine wpAny_bind (wpAny_field ho hd (x:=.ref l) rfl ?_)
  refine(?_:wpAny _ _ (if(Value.ref l==Value.none)=true then _ else _) _ _ s)
  refine eB (show¬((Value.ref l==Value.none)=true) from Vs) ?_
  refine(?_:wpAny _ _ (field (.ref it) 1>>=_) _ _ s)
  refine wpAny_bind (wpAny_field ho hd (x:=.int i 0) rfl ?_)
  refine wpAny_bind (wpAny_seqItems hol xA ?_)
  simp only[VH,hx]
  refine wpAny_bind (wpAny_rule (wpAny_bind (wpAny_setField ho hd (by simp) ?_)))
  exact rl (A:=A.in1) hh (λh' e k he=>hE h' e (λb o hb hx=>k _ _ ((Heap.SameBut.update ..).extBut b o hb hx)) he) _ λY=>rfl
 |.tup l,hit,hx,hE=>by
  refine e13 (id hit) λo ho hc hd=>?_
  refine e12 hx λxs zq31 hx=>?_
  obtain⟨ol,hol,_,nl,xA⟩:=zq31
  refine(?_:wpAny g.M A (call (.builtin "tuple_iterator.__next__") [.ref it]) Q E s)
  refine wpAny_call_entry F.slot_tuple_iterator_next (S1.typeIs hit) F.entry_tuple_iterator_next ?_ (F.args_tuple_iterator_next_1 _)
  refine(?_:wpAny _ _ (field (.ref it) 0>>=_) _ _ s)
  refine wpAny_bind (wpAny_field ho hd (x:=.ref l) rfl ?_)
  refine(?_:wpAny _ _ (if(Value.ref l==Value.none)=true then _ else _) _ _ s)
  refine eB (show¬((Value.ref l==Value.none)=true) from Vs) ?_
  refine(?_:wpAny _ _ (field (.ref it) 1>>=_) _ _ s)
  refine wpAny_bind (wpAny_field ho hd (x:=.int i 0) rfl ?_)
  refine wpAny_bind (wpAny_seqItems hol xA ?_)
  simp only[VH,hx]
  refine wpAny_bind (wpAny_rule (wpAny_bind (wpAny_setField ho hd (by simp) ?_)))
  exact rl (A:=A.in1) hh (λh' e k he=>hE h' e (λb o hb hx=>k _ _ ((Heap.SameBut.update ..).extBut b o hb hx)) he) _ λY=>rfl
 |.byt b t,hit,hx,hE=>by
  refine e13 (id hit) λo ho hc hd=>?_
  have hx:b[i]? =none:=hx
  refine(?_:wpAny g.M A (call (.builtin "bytes_iterator.__next__") [.ref it]) Q E s)
  refine wpAny_call_entry KBw.slot_next (S1.typeIs hit) KBw.entry_next ?_ (KBw.args_next _)
  refine(?_:wpAny _ _ (field (.ref it) 0>>=_) _ _ s)
  refine wpAny_bind (wpAny_field ho hd (x:=.bytes b t) rfl ?_)
  refine(?_:wpAny _ _ (if(Value.bytes b t==Value.none)=true then _ else _) _ _ s)
  refine eB (show¬((Value.bytes b t==Value.none)=true) from Vs) ?_
  refine(?_:wpAny _ _ (field (.ref it) 1>>=_) _ _ s)
  refine wpAny_bind (wpAny_field ho hd (x:=.int i 0) rfl ?_)
  refine wpAny_bind (wpAny_of_eq (a:=b) rfl ?_)
  simp only[VH,hx]
  refine wpAny_bind (wpAny_rule (wpAny_bind (wpAny_setField ho hd (by simp) ?_)))
  exact rl (A:=A.in1) hh (λh' e k he=>hE h' e (λb o hb hx=>k _ _ ((Heap.SameBut.update ..).extBut b o hb hx)) he) _ λY=>rfl
theorem gT{P:Value->Prop}{Q:Value->Shared->Prop}{si:SI}(hit:S1 s.heap it i si)(hx:lL s.heap i P si)(hQ:∀x h' tk,P x->S1 h' it (i+1) si->VB it s.heap h'->Q x {s with heap:=h',toks:=tk}):
  wpAny g.M A (Builtin.SmallTypes.nextOf (.ref it)) Q E s:=by
 unfold Builtin.SmallTypes.nextOf
 exact wpAny_bind (wpAny_callSpecial?_slot (name:=Vm "__next__") (S1.typeIs hit) (ni si) (mE hit hx λx h' tk p a b=>wpAny_pure (hQ x h' tk p a b)))
theorem j8{Q:Value->Shared->Prop}(hh:A.handled=none){si:SI}(hit:S1 s.heap it i si)(hx:Gr s.heap i si)
  (hE:∀h' e,Wx it s.heap h'->(∃o,h'.get? e=some o/\o.cls=.type "StopIteration")->E (.ref e) {s with heap:=h'}):wpAny g.M A (Builtin.SmallTypes.nextOf (.ref it)) Q E s:=by
 unfold Builtin.SmallTypes.nextOf
 exact wpAny_bind (wpAny_callSpecial?_slot (name:=Vm "__next__") (S1.typeIs hit) (ni si) (nZ hh hit hx hE))
theorem jm{P:Value->Prop}{Q:Option Value->Shared->Prop}{si:SI}(hit:S1 s.heap it i si)(hx:lL s.heap i P si)(hQ:∀x h' tk,P x->S1 h' it (i+1) si->VB it s.heap h'->Q (some x) {s with heap:=h',toks:=tk}):
  wpAny g.M A (pyNext (.ref it)) Q E s:=by
 unfold pyNext
 exact wpAny_bind (wpAny_attempt (wpAny_callSpecial?_slot (name:=Vm "__next__") (S1.typeIs hit) (ni si) (mE hit hx λx h' tk p a b=>wpAny_pure (hQ x h' tk p a b))))
theorem j9{Q:Option Value->Shared->Prop}(hh:A.handled=none){si:SI}(hit:S1 s.heap it i si)(hx:Gr s.heap i si)(hQ:∀h',Wx it s.heap h'->Q none {s with heap:=h'}):wpAny g.M A (pyNext (.ref it)) Q E s:=by
 unfold pyNext
 refine wpAny_bind (wpAny_attempt (wpAny_callSpecial?_slot (name:=Vm "__next__") (S1.typeIs hit) (ni si) (nZ hh hit hx λh' e k he=>?_)))
 refine e12 he λo ho hc=>?_;clear he
 refine wpAny_bind (wpAny_isInstance (T:="StopIteration") (b:=true) ⟨o,ho,hc⟩ isSubtype_stop ?_)
 exact wpAny_pure (hQ _ k)
end
end
section
variable{g:Gb}{c c':Cf}
section
variable{A:Around}{E:Value->Shared->Prop}{s:Shared}
theorem pK{e it:Addr}{i:Nat}{si:SI}{P:Value->Prop}{old:Value}{Q:Value->Shared->Prop}(he:IsEnum s.heap e it i old)(hit:S1 s.heap it i si)(hx:lL s.heap i P si)(hne:e≠it)
  (hQ:∀x h' tk tk',P x->IsEnumOut h' e it ((i:Int)+1) x s.heap.objs.size->S1 h' it (i+1) si->h'.get? s.heap.objs.size=some {cls:=.type "tuple",data:=.seq #[.int i tk,x]}->
   (∀b o,b≠e->b≠it->s.heap.get? b=some o->h'.get? b=some o)->Q (.ref s.heap.objs.size) {s with heap:=h',toks:=tk'}):
  wpAny g.M A (Builtin.«enumerate.__next__» ⟨[.ref e],[]⟩) (λfin s'=>∃v,fin=.done (.ret v)/\Q v s') E s:=by
 obtain⟨hp,gg,d,tk,os⟩:=s
 refine(?_:wpAny _ _ (field (.ref e) 2>>=_) _ _ _)
 refine wpAny_bind (wpAny_field he rfl (x:=.ref it) rfl ?_)
 refine wpAny_bind (gT hit hx λx ae aM hp1 cg aI=>?_)
 have aI:VB it hp ae:=aI
 have bB:IsEnum ae e it i old:=(aI.2 e hne).trans he
 refine(?_:wpAny _ _ (field (.ref e) 3>>=_) _ _ ⟨ae,gg,d,aM,os⟩)
 refine wpAny_bind (wpAny_field bB rfl (x:=rawInt i) rfl ?_)
 refine(?_:wpAny _ _ (field (.ref e) 4>>=_) _ _ ⟨ae,gg,d,aM,os⟩)
 refine wpAny_bind (wpAny_field bB rfl (x:=.none) rfl ?_)
 refine(?_:wpAny _ _ (mkInt i>>=_) _ _ ⟨ae,gg,d,aM,os⟩)
 refine wpAny_bind (wpAny_mkInt ?_)
 refine(?_:wpAny _ _ (setField (.ref e) 3 (rawInt ((i:Int)+1))>>=_) _ _ ⟨ae,gg,d,aM+1,os⟩)
 refine wpAny_bind (wpAny_setField_rec bB (by simp) λaq aU aE=>?_)
 have aE:VB e ae aq:=aE
 have aU:IsEnum aq e it ((i:Int)+1) old:=aU
 refine(?_:wpAny _ _ (setField (.ref e) 4 .none>>=_) _ _ ⟨aq,gg,d,aM+1,os⟩)
 refine wpAny_bind (wpAny_setField_rec aU (by simp) λaw bC aK=>?_)
 have aK:VB e aq aw:=aK
 have bC:IsEnum aw e it ((i:Int)+1) old:=bC
 refine(?_:wpAny _ _ (newTuple [.int i aM,x]>>=_) _ _ ⟨aw,gg,d,aM+1,os⟩)
 refine wpAny_bind (wpAny_newTuple ?_)
 obtain⟨ax,aY⟩:∃ax,aw.push {cls:=.type "tuple",data:=.seq #[.int i aM,x]}=ax:=⟨_,rfl⟩
 have bD:IsEnum ax e it ((i:Int)+1) old:=by rw[<-aY];exact Vp _ bC
 have hsz:aw.objs.size=hp.objs.size:=by rw[aK.1,aE.1,aI.1]
 have hel:hp.objs.size≠e:=Wk (VP he)
 have ch:ax.get? hp.objs.size=some {cls:=.type "tuple",data:=.seq #[.int i aM,x]}:=by rw[<-aY,<-hsz];exact Vx _ rfl
 have ck:∀b o,b≠e->b≠it->hp.get? b=some o->ax.get? b=some o:=λb o hbe hbi hb=>by
  rw[<-aY];exact Vp _ (aK.extBut b o hbe (aE.extBut b o hbe (aI.extBut b o hbi hb)))
 have cn:S1 ax it (i+1) si:=cg.at λo ho=>by
  rw[<-aY];exact Vp _ (aK.extBut _ _ (Ne.symm hne) (aE.extBut _ _ (Ne.symm hne) ho))
 refine(?_:wpAny _ _ (Builtin.SmallTypes.ownedTupleIsFree (.ref e)>>=_) _ _ ⟨aw.push _,gg,d,aM+1,os⟩)
 have cq:aw.push {cls:=.type "tuple",data:=.seq [.int i aM,x].toArray}=ax:=aY
 rw[hsz,cq]
 refine wpAny_bind ?_
 unfold Builtin.SmallTypes.ownedTupleIsFree
 refine wpAny_bind (wpAny_field bD rfl (x:=.none) rfl (wpAny_pure ?_))
 refine jU rfl ?_
 refine wpAny_bind (wpAny_rule ?_)
 refine wpAny_bind (wpAny_field bD rfl (x:=old) rfl ?_)
 refine wpAny_bind (wpAny_setField_rec bD (by simp) λaG bE aN=>?_)
 have aN:VB e ax aG:=aN
 have bE:IsEnum aG e it ((i:Int)+1) x:=bE
 refine(?_:wpAny _ _ (Builtin.SmallTypes.ownedTupleHandOut (.ref e) (.ref hp.objs.size)>>=_) _ _ ⟨aG,gg,d,aM+1,os⟩)
 refine wpAny_bind ?_
 unfold Builtin.SmallTypes.ownedTupleHandOut
 refine wpAny_bind (wpAny_setField_rec bE (by simp) λbn bF bG=>?_)
 have bG:VB e aG bn:=bG
 have bF:IsEnumOut bn e it ((i:Int)+1) x hp.objs.size:=bF
 refine wpAny_setField_rec bF (by simp) λbe bH bf=>?_
 have bf:VB e bn be:=bf
 have bH:IsEnumOut be e it ((i:Int)+1) x hp.objs.size:=bH
 have up:∀b o,b≠e->ax.get? b=some o->be.get? b=some o:=λb o hb e=>bf.extBut b o hb (bG.extBut b o hb (aN.extBut b o hb e))
 exact wpAny_bind (wpAny_letGo (wpAny_pure ⟨_,rfl,hQ x be aM (aM+1) hp1 bH (cn.at λo ho=>up _ o (Ne.symm hne) ho) (up _ _ hel ch) λb o hbe hbi hb=>up b o hbe (ck b o hbe hbi hb)⟩))
theorem zK{e it:Addr}{i:Nat}{si:SI}{P:Value->Prop}{old:Value}{Q:Option Value->Shared->Prop}(he:IsEnum s.heap e it i old)(hit:S1 s.heap it i si)(hx:lL s.heap i P si)(hne:e≠it)
  (hQ:∀x h' tk tk',P x->IsEnumOut h' e it ((i:Int)+1) x s.heap.objs.size->S1 h' it (i+1) si->h'.get? s.heap.objs.size=some {cls:=.type "tuple",data:=.seq #[.int i tk,x]}->
   (∀b o,b≠e->b≠it->s.heap.get? b=some o->h'.get? b=some o)->Q (some (.ref s.heap.objs.size)) {s with heap:=h',toks:=tk'}):wpAny g.M A (pyNext (.ref e)) Q E s:=by
 have hT:s.TypeIs (.ref e) "enumerate":=⟨_,he,rfl⟩
 unfold pyNext
 exact wpAny_bind (wpAny_attempt (wpAny_callSpecial?_slot (name:=Vm "__next__") hT F.slot_enumerate_next
  (wpAny_call_entry F.slot_enumerate_next hT F.entry_enumerate_next
   (pK he hit hx hne λx h' tk tk' a b c d k=>wpAny_pure (hQ x h' tk tk' a b c d k)) (F.args_enumerate_next_1 _))))
theorem CE{e it:Addr}{i:Nat}{si:SI}{old:Value}{Q:Option Value->Shared->Prop}(hh:A.handled=none)(he:IsEnum s.heap e it i old)(hit:S1 s.heap it i si)(hx:Gr s.heap i si)
  (hQ:∀h',Wx it s.heap h'->Q none {s with heap:=h'}):wpAny g.M A (pyNext (.ref e)) Q E s:=by
 have hT:s.TypeIs (.ref e) "enumerate":=⟨_,he,rfl⟩
 unfold pyNext
 refine wpAny_bind (wpAny_attempt (wpAny_callSpecial?_slot (name:=Vm "__next__") hT F.slot_enumerate_next
  (wpAny_call_entry F.slot_enumerate_next hT F.entry_enumerate_next ?_ (F.args_enumerate_next_1 _))))
 refine(?_:wpAny _ _ (field (.ref e) 2>>=_) _ _ _)
 refine wpAny_bind (wpAny_field he rfl (x:=.ref it) rfl ?_)
 refine wpAny_bind (j8 (A:=A.in1) hh hit hx λh' x he' hx'=>?_)
 refine e12 hx' λo ho hc=>?_;clear hx'
 refine wpAny_bind (wpAny_isInstance (T:="StopIteration") (b:=true) ⟨o,ho,hc⟩ isSubtype_stop ?_)
 exact wpAny_pure (hQ _ he')
theorem rm{z TI TO i1 i2:Addr}{k:Nat}{s1 s2:SI}{P1 P2:Value->Prop}{a b:Value}{Q:Value->Shared->Prop}
  (D:TI≠z/\TO≠z/\i1≠z/\i2≠z/\TI≠TO/\TI≠i1/\TI≠i2/\TO≠i1/\TO≠i2/\i1≠i2)
  (hz:IsZip s.heap z TI TO .none) (hTI:IsPair s.heap TI (.ref i1) (.ref i2)) (hTO:IsPair s.heap TO a b) (h1:S1 s.heap i1 k s1) (h2:S1 s.heap i2 k s2)
  (hx:lL s.heap k P1 s1) (hy:∀h',(∀b o,b≠z->b≠TO->b≠i1->s.heap.get? b=some o->h'.get? b=some o)->lL h' k P2 s2)
  (hx':∀h',(∀b o,b≠z->s.heap.get? b=some o->h'.get? b=some o)->lL h' k P1 s1)
  (hQ:∀x y h' tk,P1 x->P2 y->IsZip h' z TI TO (rawInt s.heap.objs.size)->IsPair h' TO x y->S1 h' i1 (k+1) s1->S1 h' i2 (k+1) s2->IsPair h' s.heap.objs.size x y->
   (∀c o,c≠z->c≠TO->c≠i1->c≠i2->s.heap.get? c=some o->h'.get? c=some o)->Q (.ref s.heap.objs.size) {s with heap:=h',toks:=tk}):
  wpAny g.M A (Builtin.«zip.__next__» ⟨[.ref z],[]⟩) (λfin s'=>∃v,fin=.done (.ret v)/\Q v s') E s:=by
 obtain⟨TIz,TOz,i1z,i2z,TITO,TIi1,TIi2,TOi1,TOi2,i12⟩:=D
 obtain⟨hp,gg,d,tk,os⟩:=s
 refine(?_:wpAny _ _ (field (.ref z) 2>>=_) _ _ _)
 refine wpAny_bind (wpAny_field hz rfl (x:=.bool false) rfl ?_)
 refine(?_:wpAny _ _ (field (.ref z) 3>>=_) _ _ _)
 refine wpAny_bind (wpAny_field hz rfl (x:=.ref TI) rfl ?_)
 refine wpAny_bind (wpAny_seqItems hTI rfl ?_)
 refine(?_:wpAny _ _ (Builtin.SmallTypes.ownedTupleIsFree (.ref z)>>=_) _ _ _)
 refine wpAny_bind ?_
 unfold Builtin.SmallTypes.ownedTupleIsFree
 refine wpAny_bind (wpAny_field hz rfl (x:=.none) rfl (wpAny_pure ?_))
 refine jU rfl ?_
 refine wpAny_bind (wpAny_rule ?_)
 refine wpAny_bind (wpAny_field hz rfl (x:=.ref TO) rfl ?_)
 refine wpAny_bind (wpAny_setField_rec hz (by simp) λae aV aI=>?_)
 have aV:IsZip ae z TI TO .ellipsis:=aV
 have aI:VB z hp ae:=aI
 refine wpAny_bind ?_
 simp only[List.zipIdx_cons,List.zipIdx_nil,VZ,Xa]
 refine wpAny_bind (wpAny_bind (wpAny_onRaise ?_))
 refine(?_:wpAny _ _ (Builtin.SmallTypes.nextOf (.ref i1)>>=_) _ _ _)
 refine wpAny_bind (gT (s:=⟨ae,gg,d,tk,os⟩) (h1.at λo ho=>aI.extBut _ _ i1z ho) (hx' ae λb o hb e=>aI.extBut _ _ hb e) λx aq bj hpx bT aE=>wpAny_pure ?_)
 have aE:VB i1 ae aq:=aE
 have bo:IsPair aq TO a b:=aE.extBut _ _ TOi1 (aI.extBut _ _ TOz hTO)
 refine wpAny_bind (wpAny_seqItems bo rfl ?_)
 refine wpAny_bind (wpAny_updateSeq_pair bo λaw bq aK=>?_)
 have bq:IsPair aw TO x b:=bq
 have aK:VB TO aq aw:=aK
 refine wpAny_bind (wpAny_letGo (wpAny_pure ?_))
 refine wpAny_bind (wpAny_bind (wpAny_onRaise ?_))
 refine(?_:wpAny _ _ (Builtin.SmallTypes.nextOf (.ref i2)>>=_) _ _ _)
 have aZ:∀b o,b≠z->b≠TO->b≠i1->hp.get? b=some o->aw.get? b=some o:=λb o b1 b2 b3 e=>aK.extBut _ _ b2 (aE.extBut _ _ b3 (aI.extBut _ _ b1 e))
 refine wpAny_bind (gT (s:=⟨aw,gg,d,bj,os⟩) (h2.at λo ho=>aZ _ o i2z (Ne.symm TOi2) (Ne.symm i12) ho) (hy aw aZ) λy ax cr hpy ct aP=>wpAny_pure ?_)
 have aP:VB i2 aw ax:=aP
 have bU:IsPair ax TO x b:=aP.extBut _ _ TOi2 bq
 refine wpAny_bind (wpAny_seqItems bU rfl ?_)
 refine wpAny_bind (wpAny_updateSeq_pair bU λaG br aN=>?_)
 have br:IsPair aG TO x y:=br
 have aN:VB TO ax aG:=aN
 refine wpAny_bind (wpAny_letGo (wpAny_pure (wpAny_pure ?_)))
 refine wpAny_bind (wpAny_seqItems br rfl ?_)
 refine wpAny_bind (wpAny_newTuple ?_)
 have hsz:aG.objs.size=hp.objs.size:=by rw[aN.1,aP.1,aK.1,aE.1,aI.1]
 have bV:IsZip aG z TI TO .ellipsis:=aN.extBut _ _ TOz.symm (aP.extBut _ _ i2z.symm (aK.extBut _ _ TOz.symm (aE.extBut _ _ i1z.symm aV)))
 have cw:∀c o,c≠z->c≠TO->c≠i1->c≠i2->hp.get? c=some o->aG.get? c=some o:=λc o c1 c2 c3 c4 e=>aN.extBut _ _ c2 (aP.extBut _ _ c4 (aZ c o c1 c2 c3 e))
 have cy:S1 aG i1 (k+1) s1:=bT.at λo ho=>aN.extBut _ _ (Ne.symm TOi1) (aP.extBut _ _ i12 (aK.extBut _ _ (Ne.symm TOi1) ho))
 have cA:S1 aG i2 (k+1) s2:=ct.at λo ho=>aN.extBut _ _ (Ne.symm TOi2) ho
 have hzlt:hp.objs.size≠z:=by rw[<-hsz];exact Wk (VP bV)
 refine(?_:wpAny _ _ (Builtin.SmallTypes.ownedTupleHandOut (.ref z) (.ref aG.objs.size)>>=_) _ _ _)
 refine wpAny_bind ?_
 unfold Builtin.SmallTypes.ownedTupleHandOut
 have cB:IsZip (aG.push {cls:=.type "tuple",data:=.seq #[x,y]}) z TI TO .ellipsis:=Vp _ bV
 refine wpAny_bind (wpAny_setField_rec cB (by simp) λbe bI bf=>?_)
 have bI:IsZip be z TI TO (rawInt aG.objs.size):=bI
 refine wpAny_setField_rec bI (by simp) λbt bu bW=>?_
 have bu:IsZip bt z TI TO (rawInt aG.objs.size):=bu
 have up:∀c o,c≠z->aG.get? c=some o->bt.get? c=some o:=λc o c1 e=>bW.extBut _ _ c1 (bf.extBut _ _ c1 (Vp _ e))
 have bX:IsPair bt aG.objs.size x y:=bW.extBut _ _ (hsz▸hzlt) (bf.extBut _ _ (hsz▸hzlt) (Vx _ rfl))
 rw[hsz] at bu bX
 refine wpAny_pure ⟨_,rfl,?_⟩
 refine(?_:Q (.ref aG.objs.size) _)
 rw[hsz]
 exact hQ x y bt cr hpx hpy bu (up _ _ TOz br) (cy.at λo e=>up _ o i1z e) (cA.at λo e=>up _ o i2z e) bX λc o c1 c2 c3 c4 e=>up c o c1 (cw c o c1 c2 c3 c4 e)
theorem s5{z TI TO i1 i2:Addr}{k:Nat}{s1 s2:SI}{P1:Value->Prop}{a b:Value}{Q:Fin->Shared->Prop}(hh:A.handled=none)
  (D:TI≠z/\TO≠z/\i1≠z/\i2≠z/\TI≠TO/\TI≠i1/\TI≠i2/\TO≠i1/\TO≠i2/\i1≠i2)
  (hz:IsZip s.heap z TI TO .none) (hTI:IsPair s.heap TI (.ref i1) (.ref i2)) (hTO:IsPair s.heap TO a b) (h1:S1 s.heap i1 k s1) (h2:S1 s.heap i2 k s2)
  (hend:∀h',(∀b o,b≠z->s.heap.get? b=some o->h'.get? b=some o)->Gr h' k s1\/(lL h' k P1 s1/\∀h'',(∀b o,b≠z->b≠TO->b≠i1->s.heap.get? b=some o->h''.get? b=some o)->Gr h'' k s2))
  (hE:∀h' e tk,(∀c o,c≠z->c≠TO->c≠i1->c≠i2->s.heap.get? c=some o->h'.get? c=some o)->(∃o,h'.get? e=some o/\o.cls=.type "StopIteration")->E (.ref e) {s with heap:=h',toks:=tk}):
  wpAny g.M A (Builtin.«zip.__next__» ⟨[.ref z],[]⟩) Q E s:=by
 obtain⟨TIz,TOz,i1z,i2z,TITO,TIi1,TIi2,TOi1,TOi2,i12⟩:=D
 obtain⟨hp,gg,d,tk,os⟩:=s
 refine(?_:wpAny _ _ (field (.ref z) 2>>=_) _ _ _)
 refine wpAny_bind (wpAny_field hz rfl (x:=.bool false) rfl ?_)
 refine(?_:wpAny _ _ (field (.ref z) 3>>=_) _ _ _)
 refine wpAny_bind (wpAny_field hz rfl (x:=.ref TI) rfl ?_)
 refine wpAny_bind (wpAny_seqItems hTI rfl ?_)
 refine(?_:wpAny _ _ (Builtin.SmallTypes.ownedTupleIsFree (.ref z)>>=_) _ _ _)
 refine wpAny_bind ?_
 unfold Builtin.SmallTypes.ownedTupleIsFree
 refine wpAny_bind (wpAny_field hz rfl (x:=.none) rfl (wpAny_pure ?_))
 refine jU rfl ?_
 refine wpAny_bind (wpAny_rule ?_)
 refine wpAny_bind (wpAny_field hz rfl (x:=.ref TO) rfl ?_)
 refine wpAny_bind (wpAny_setField_rec hz (by simp) λae aV aI=>?_)
 have aV:IsZip ae z TI TO .ellipsis:=aV
 have aI:VB z hp ae:=aI
 refine wpAny_bind ?_
 simp only[List.zipIdx_cons,List.zipIdx_nil,VZ,Xa]
 refine wpAny_bind (wpAny_bind (wpAny_onRaise ?_))
 refine(?_:wpAny _ _ (Builtin.SmallTypes.nextOf (.ref i1)>>=_) _ _ _)
 have bY:S1 ae i1 k s1:=h1.at λo ho=>aI.extBut _ _ i1z ho
 rcases hend ae λb o hb e=>aI.extBut _ _ hb e with hn|⟨hx,hn⟩
 .refine wpAny_bind (j8 (s:=⟨ae,gg,d,tk,os⟩) hh bY hn λaq e aE he=>?_)
  refine e12 he λoe hoe hce=>?_;clear he
  have aE:Wx i1 ae aq:=aE
  have bv:IsZip aq z TI TO .ellipsis:=aE _ _ i1z.symm aV
  have hoe:aq.get? e=some oe:=hoe
  have hez:e≠z:=λx=>by subst x;rw[bv] at hoe;cases hoe;simp at hce
  refine wpAny_setField_rec bv (by simp) λaw Y aK=>hE aw e tk (λc o c1 Y c3 Y x=>aK.extBut _ _ c1 (aE _ _ c3 (aI.extBut _ _ c1 x))) ⟨oe,aK.extBut _ _ hez hoe,hce⟩
 .refine wpAny_bind (gT (s:=⟨ae,gg,d,tk,os⟩) bY hx λx aq bj hpx bT aE=>wpAny_pure ?_)
  have aE:VB i1 ae aq:=aE
  have bo:IsPair aq TO a b:=aE.extBut _ _ TOi1 (aI.extBut _ _ TOz hTO)
  refine wpAny_bind (wpAny_seqItems bo rfl ?_)
  refine wpAny_bind (wpAny_updateSeq_pair bo λaw bq aK=>?_)
  have aK:VB TO aq aw:=aK
  refine wpAny_bind (wpAny_letGo (wpAny_pure ?_))
  refine wpAny_bind (wpAny_bind (wpAny_onRaise ?_))
  refine(?_:wpAny _ _ (Builtin.SmallTypes.nextOf (.ref i2)>>=_) _ _ _)
  have aZ:∀b o,b≠z->b≠TO->b≠i1->hp.get? b=some o->aw.get? b=some o:=λb o b1 b2 b3 e=>aK.extBut _ _ b2 (aE.extBut _ _ b3 (aI.extBut _ _ b1 e))
  refine wpAny_bind (j8 (s:=⟨aw,gg,d,bj,os⟩) hh (h2.at λo ho=>aZ _ o i2z (Ne.symm TOi2) (Ne.symm i12) ho) (hn aw aZ) λax e aP he=>?_)
  refine e12 he λoe hoe hce=>?_;clear he
  have aP:Wx i2 aw ax:=aP
  have bZ:IsZip ax z TI TO .ellipsis:=aP _ _ i2z.symm (aK.extBut _ _ TOz.symm (aE.extBut _ _ i1z.symm aV))
  have hoe:ax.get? e=some oe:=hoe
  have hez:e≠z:=λx=>by subst x;rw[bZ] at hoe;cases hoe;simp at hce
  refine wpAny_setField_rec bZ (by simp) λaG Y aN=>hE aG e bj (λc o c1 c2 c3 c4 x=>aN.extBut _ _ c1 (aP _ _ c4 (aZ c o c1 c2 c3 x))) ⟨oe,aN.extBut _ _ hez hoe,hce⟩
end
end
section
variable{g:Gb}{c c':Cf}
section
variable{A:Around}{E:Value->Shared->Prop}{s:Shared}
theorem CG{z TI TO i1 i2:Addr}{k:Nat}{s1 s2:SI}{P1 P2:Value->Prop}{a b:Value}{Q:Option Value->Shared->Prop}
  (D:TI≠z/\TO≠z/\i1≠z/\i2≠z/\TI≠TO/\TI≠i1/\TI≠i2/\TO≠i1/\TO≠i2/\i1≠i2)
  (hz:IsZip s.heap z TI TO .none) (hTI:IsPair s.heap TI (.ref i1) (.ref i2)) (hTO:IsPair s.heap TO a b) (h1:S1 s.heap i1 k s1) (h2:S1 s.heap i2 k s2)
  (hy:∀h',(∀b o,b≠z->b≠TO->b≠i1->s.heap.get? b=some o->h'.get? b=some o)->lL h' k P2 s2)
  (hx':∀h',(∀b o,b≠z->s.heap.get? b=some o->h'.get? b=some o)->lL h' k P1 s1)
  (hQ:∀x y h' tk,P1 x->P2 y->IsZip h' z TI TO (rawInt s.heap.objs.size)->IsPair h' TO x y->S1 h' i1 (k+1) s1->S1 h' i2 (k+1) s2->IsPair h' s.heap.objs.size x y->
   (∀c o,c≠z->c≠TO->c≠i1->c≠i2->s.heap.get? c=some o->h'.get? c=some o)->Q (some (.ref s.heap.objs.size)) {s with heap:=h',toks:=tk}):
  wpAny g.M A (pyNext (.ref z)) Q E s:=by
 have hT:s.TypeIs (.ref z) "zip":=⟨_,hz,rfl⟩
 unfold pyNext
 exact wpAny_bind (wpAny_attempt (wpAny_callSpecial?_slot (name:=Vm "__next__") hT F.slot_zip_next
  (wpAny_call_entry F.slot_zip_next hT F.entry_zip_next
   (rm D hz hTI hTO h1 h2 (hx' _ λY Y Y e=>e) hy hx' λx y h' tk a1 a2 a3 a4 a5 a6 a7 a8=>wpAny_pure (hQ x y h' tk a1 a2 a3 a4 a5 a6 a7 a8)) (F.args_zip_next_1 _))))
theorem ya{z TI TO i1 i2:Addr}{k:Nat}{s1 s2:SI}{P1:Value->Prop}{a b:Value}{Q:Option Value->Shared->Prop}(hh:A.handled=none)
  (D:TI≠z/\TO≠z/\i1≠z/\i2≠z/\TI≠TO/\TI≠i1/\TI≠i2/\TO≠i1/\TO≠i2/\i1≠i2)
  (hz:IsZip s.heap z TI TO .none) (hTI:IsPair s.heap TI (.ref i1) (.ref i2)) (hTO:IsPair s.heap TO a b) (h1:S1 s.heap i1 k s1) (h2:S1 s.heap i2 k s2)
  (hend:∀h',(∀b o,b≠z->s.heap.get? b=some o->h'.get? b=some o)->Gr h' k s1\/(lL h' k P1 s1/\∀h'',(∀b o,b≠z->b≠TO->b≠i1->s.heap.get? b=some o->h''.get? b=some o)->Gr h'' k s2))
  (hQ:∀h' tk,(∀c o,c≠z->c≠TO->c≠i1->c≠i2->s.heap.get? c=some o->h'.get? c=some o)->Q none {s with heap:=h',toks:=tk}):wpAny g.M A (pyNext (.ref z)) Q E s:=by
 have hT:s.TypeIs (.ref z) "zip":=⟨_,hz,rfl⟩
 unfold pyNext
 refine wpAny_bind (wpAny_attempt (wpAny_callSpecial?_slot (name:=Vm "__next__") hT F.slot_zip_next
  (wpAny_call_entry F.slot_zip_next hT F.entry_zip_next (s5 (A:=A.in1) hh D hz hTI hTO h1 h2 hend λh' e tk hk he=>?_) (F.args_zip_next_1 _))))
 refine e12 he λo ho hc=>?_;clear he
 refine wpAny_bind (wpAny_isInstance (T:="StopIteration") (b:=true) ⟨o,ho,hc⟩ isSubtype_stop ?_)
 exact wpAny_pure (hQ _ _ hk)
theorem gU{t:Expr}{r:Addr}{v:Value}{o:Obj}{T:String}{Q:Unit->Shared->Prop}(ho:s.heap.get? r=some o)(hT:o.cls=.type T)
  (hn:(["enumerate","zip","dict_itemiterator","dict_reverseitemiterator","odict_iterator","itertools.zip_longest","itertools.pairwise"].contains T)=false) (h:Q () s):wpAny g.M A (letOwnedTupleGo t (.ref r) v) Q E s:=by
 have go:∀a,v=.ref a->wpAny g.M A (do
   let o<-load r
   match o.cls,o.data with
   |.type n,.fields vs=>
    if["enumerate","zip","dict_itemiterator","dict_reverseitemiterator","odict_iterator","itertools.zip_longest","itertools.pairwise"].contains n&&vs[0]? ==some (rawInt a) then
     rule "for.unpacks-the-owned-tuple"
     updateField r 0 .none
   |_,_=>pure ():Sem Unit) Q E s:=λa Y=>by
  refine wpAny_bind (wpAny_load ho ?_)
  rw[hT]
  cases o.data with
  |fields vs=>
   simp only
   rw[hn,if_neg (by simp)]
   exact wpAny_pure h
  |_=>exact wpAny_pure h
 unfold letOwnedTupleGo
 cases t with
 |Tuple _ _ _=>
  cases v with
  |ref a=>exact go _ rfl
  |_=>exact wpAny_pure h
 |List _ _=>
  cases v with
  |ref a=>exact go _ rfl
  |_=>exact wpAny_pure h
 |_=>exact wpAny_pure h
theorem BR.nth{σ:Nat->Int}{l:List AI}:∀{b:List UInt8} {i:Nat} {a:AI},BR σ l b->fF l i=some a->∃y,b[i]? =some y/\dO σ a (y.toNat:Int):=by
 induction l with
 |nil=>exact λY e=>nn e
 |cons x r ih=>
  intro b i a hb e
  refine e23 hb λy t zq32 h1 h2=>?_;clear hb
  cases zq32
  cases i with
  |zero=>cases e;exact⟨y,rfl,h1⟩
  |succ i=>exact(ih h2 e:∃z,t[i]? =some z/\_)
structure NM(g:Gb)(c:Cf)(h:Heap)(l:List V)(i:Nat)(si:SI):Prop where
 p:∀a,fF l i=some a->lL h i (VR g c a) si
 n:fF l i=none->Gr h i si
theorem yb{h:H}{a:Addr}{l:List V}{vs:Array Value}{i:Nat}(h1:s.heap.IsList a vs)(h2:da g c l vs.toList):NM g c s.heap l i (.list a) where
 p _ ha:=(h2.nth ha).elim λy q=>⟨vs,y,h1,Array.getElem?_toList.symm.trans q.1,q.2⟩
 n hn:=⟨vs,h1,Wi (Vo (Vu (ew h2)) (nS hn))⟩
theorem vH(W:SW g){h:H}{v:V}{si:SI}{l:List V}{i:Nat}(I:cV g c h s)(hs:SV g c v si)(hl:items g.C v h=some l):NM g c s.heap l i si:=by
 cases hs with
 |list v a hp hv=>
  refine fN hl (λe=>?_) λhl=>fN hl (λe=>cW e λY e Y=>?_) λhl=>?_
  .cases eE e;exact ft hp
  .cases d7 e;exact ft hp
  .refine e12 (cW hl λo e1 e2=>⟨o,e1,gE e2⟩) λo e1 e2=>?_
   subst e2
   obtain⟨x,_,hx,vs,h1,h2,_⟩:=nW W I hv e1
   cases hx
   exact yb (h:=h) h1.isList h2
 |tup l' vs t hT hr=>
  cases hl
  exact⟨λa ha=>(hr.nth ha).elim λy q=>⟨_,y,I.tup _ _ hT,List.getElem?_toArray.trans q.1,q.2⟩,λhn=>⟨_,I.tup _ _ hT,Wi (Vo (Vu hr.length) (nS hn))⟩⟩
 |byt l' b t hr=>
  cases hl
  refine⟨λa ha=>?_,λhn=>Wi (Vo (Vu (hr.size.trans (VG (f:=V.int) (as:=l')).symm)) (nS hn))⟩
  rw[x7] at ha
  refine e12 (Option.map_eq_some_iff.mp ha) λx hx zq33=>?_
  cases zq33
  exact(hr.nth hx).elim λy q=>⟨y,Array.getElem?_toList.symm.trans q.1,λu=>eG q.2⟩
theorem lM{v:V}{si:SI}(e:dA c c')(h:SV g c v si):SV g c' v si:=by
 cases h with
 |list v l hp hv=>exact .list v l hp (hv.ext e)
 |tup l vs t hT hr=>exact .tup l vs t (e.T _ _ hT) (hr.ext e)
 |byt l b t hr=>exact .byt l b t hr
inductive QM(g:Gb)(c:Cf)(h:H)(it:It)(itv:Value)(v:V)(x:Value)(s:Shared):Prop
 |mk (c':Cf) (L:List Addr) (e:dA c c') (i:cV g c' h s) (r:VR g c' v x) (hL:∀b,b∈L->hH g c' b) (hS:uQ g c' s.heap it itv L)
def NN(g:Gb)(c:Cf)(h:H)(itv:Value)(t:Expr)(A:Around)(E:Value->Shared->Prop)(v:V)(it':It)(x:Value)(aa:Shared):Prop:=
 wpAny g.M A (letOwnedTupleGo t itv x) (λY aj=>QM g c h it' itv v x aj) E aa
theorem iL{a b:Addr}{vs:List Value}(f:hH g c b)(hb:b≠a):hH g (c.tupAt a vs) b:=⟨⟨f.al.R,f.al.B,λws q=>q.elim (f.al.T ws) λq=>hb q.1,f.al.D⟩,f.S,f.ne,f.P⟩
inductive og(g:Gb)(c:Cf)(h:H)(A:Around)(E:Value->Shared->Prop)(itv:Value)(t:Expr):Nx->Option Value->Shared->Prop
 |stop (s:Shared) (i:cV g c h s):og g c h A E itv t .stop none s
 |more (v:V) (it':It) (x:Value) (s:Shared) (m:∀E',NN g c h itv t A E' v it' x s):og g c h A E itv t (.more v it') (some x) s
section
variable{h:H}{t:Expr}{Q:Option Value->Shared->Prop}{nx:Nx}
theorem jV{a:Addr}{h':Heap}{tk:Nat}(I:cV g c h s)(fa:hH g c a)(hk:Wx a s.heap h'):cV g c h {s with heap:=h',toks:=tk}:=I.wild (λb=>b=a) (λb q=>q▸fa) (λb o hb e=>hk b o hb e) ⟨rfl,rfl,rfl⟩
theorem yc{α:Type}{l:List α}{i:Nat}{x:α}{xs:List α}(e:l.drop i=x::xs):l[i]? =some x/\l.drop (i+1)=xs:=⟨by rw[<-List.head?_drop,e];rfl,by rw[<-List.tail_drop,e];rfl⟩
theorem zL{l:List V}{a:Addr}(hh:A.handled=none)(I:cV g c h s)(fa:hH g c a)(hS:IS g c s.heap a l)(hq:∀ov s',og g c h A E (.ref a) t (du (nB l) .stop λp=>.more p.1 (.vals p.2)) ov s'->Q ov s'):wpAny g.M A (pyNext (.ref a)) Q E s:=by
 have fe:∀b,b∈[a]->hH g c b:=λb hb=>List.mem_singleton.mp hb▸fa
 cases hS with
 |tup tt vs i h1 h2 h3=>
  cases l with
  |nil=>exact j9 (si:=.tup tt) hh h1 ⟨_,I.tup _ _ h2,Wi (List.drop_eq_nil_iff.mp (show vs.drop i=[] from h3))⟩ λh' hk=>hq _ _ (.stop _ (jV I fa hk))
  |cons v r=>
   refine e23 h3 λx xs e hx hxs=>?_;clear h3
   refine e02 (yc e) λhi hd=>?_
   refine jm (si:=.tup tt) (P:=λy=>y=x) h1 ⟨_,x,I.tup _ _ h2,List.getElem?_toArray.trans hi,rfl⟩ λy h' tk hy h1' hs=>hq _ _ (.more _ _ _ _ λY=>?_)
   subst hy
   refine e13 (id h1') λo ho hc Y=>?_
   exact gU ho hc (by decide) ⟨c,[a],.refl c,jV I fa hs.extBut,hx,fe,.vals _ _ (.tup tt vs (i+1) h1' h2 (hd▸hxs))⟩
 |byt b tb i als h1 e h3=>
  subst e
  cases als with
  |nil=>exact j9 (si:=.byt b tb) hh h1 (Wi (List.drop_eq_nil_iff.mp (show b.toList.drop i=[] from h3))) λh' hk=>hq _ _ (.stop _ (jV I fa hk))
  |cons v r=>
   refine e23 h3 λy ys e hx hxs=>?_;clear h3
   refine e02 (yc e) λhi hd=>?_
   refine jm (si:=.byt b tb) (P:=λz=>∃u,z=.int (y.toNat:Int) u) h1 ⟨y,Array.getElem?_toList.symm.trans hi,λu=>⟨u,rfl⟩⟩ λz h' tk hz h1' hs=>hq _ _ (.more _ _ _ _ λY=>?_)
   refine e11 hz λu zq34=>?_;clear hz
   cases zq34
   refine e13 (id h1') λo ho hc Y=>?_
   exact gU ho hc (by decide) ⟨c,[a],.refl c,jV I fa hs.extBut,eG hx,fe,.vals _ _ (.byt b tb (i+1) r h1' rfl (hd▸hxs))⟩
 |rng x jg h1 h2 e=>
  subst e
  refine e11 (W1 h2) λm zq35=>?_
  cases zq35
  cases m with
  |zero=>exact wpAny_pyNext_range_end hh h1 (WJ _) λh' hk=>hq _ _ (.stop _ (jV I fa hk))
  |succ m=>
   refine wpAny_pyNext_range_item h1 (Int.ofNat_lt.mpr (VL m)) λh' h1' hs=>hq _ _ (.more _ _ _ _ λY=>?_)
   have e:((m+1:Nat):Int) - 1=m:=WQ (m:Int) 1
   exact gU h1' rfl (by decide) ⟨c,[a],.refl c,jV I fa hs.extBut,eG rfl,fe,.vals _ _ (.rng (x+1) m (e▸h1') (VV m) rfl)⟩
theorem CH(W:SW g){v:V}{i:Nat}{a l0:Addr}(hh:A.handled=none)(I:cV g c h s)(fa:hH g c a)(hp:gS v=true)(hv:VR g c v (.ref l0))(h1:s.heap.IsListIter a l0 i)(hn:next g.C (.lst v i) h=some nx)(hq:∀ov s',og g c h A E (.ref a) t nx ov s'->Q ov s'):wpAny g.M A (pyNext (.ref a)) Q E s:=
 cW hn λl e hn=>by
  refine e12 (cW e λo e1 e2=>⟨o,e1,gE e2⟩) λo e1 e2=>?_
  subst e2
  obtain⟨x,_,hx,vs,w1,w2,_⟩:=nW W I hv e1
  cases hx
  have p:=yb (h:=h) (i:=i) w1.isList w2
  cases hn
  cases ex:fF l i with
  |some x=>
   rw[ex] at hq
   refine jm (si:=.list l0) h1 (p.p x ex) λy h' tk hy h1' hs=>hq _ _ (.more _ _ _ _ λY=>?_)
   refine e13 (id h1') λo ho hc Y=>?_
   exact gU ho hc (by decide) ⟨c,[a],.refl c,jV I fa hs.extBut,hy,λb hb=>List.mem_singleton.mp hb▸fa,.lst _ _ a l0 hp hv h1'⟩
  |none=>
   rw[ex] at hq
   exact j9 (si:=.list l0) hh h1 (p.n ex) λh' hk=>hq _ _ (.stop _ (jV I fa hk))
theorem S1.has{hp:Heap}{it:Addr}{i:Nat}{si:SI}(x:S1 hp it i si):∃o,hp.get? it=some o:=by
 cases si<;>(obtain⟨o,ho,_⟩:=x;exact⟨o,ho⟩)
theorem yd{a b:V}{x y:Value}{ad:Addr}(h1:VR g c a x)(h2:VR g c b y):VR g (c.tupAt ad [x,y]) (.tup [a,b]) (.ref ad):=gu (.inr ⟨rfl,rfl⟩) (.cons (h1.ext (dA.tupAt ..)) (.cons (h2.ext (dA.tupAt ..)) .nil))
theorem kc{hp:Heap}{b:Addr}(h:∃o,hp.get? b=some o):b≠hp.objs.size:=h.elim λY e=>VM (VP e)
theorem zM(W:SW g){v:V}{i:Nat}{e b:Addr}{si:SI}{old:Value}(hh:A.handled=none)(I:cV g c h s)(fe:hH g c e)(fb:hH g c b)(ht:nM t=true)(hne:e≠b)(hv:SV g c v si)(he:IsEnum s.heap e b i old)(h1:S1 s.heap b i si)
  (hn:next g.C (.enum v i) h=some nx) (hq:∀ov s',og g c h A E (.ref e) t nx ov s'->Q ov s'):wpAny g.M A (pyNext (.ref e)) Q E s:=
 cW hn λl hl hn=>by
  have p:=vH W (i:=i) (si:=si) I hv hl
  refine e31 (qo ht) λes ek ep zq36=>?_
  cases zq36
  cases hn
  cases ex:fF l i with
  |none=>
   rw[ex] at hq
   exact CE hh he h1 (p.n ex) λh' hk=>hq _ _ (.stop _ (jV I fb hk))
  |some x=>
   rw[ex] at hq
   refine zK he h1 (p.p x ex) hne λy h' tk tk' hy he' h1' hT hk=>hq _ _ (.more _ _ _ _ λY=>wpAny_letOwnedTupleGo_enum he' λaq aU aE=>?_)
   have fs:=I.free (VC (VA s.heap.objs.size))
   have ne1:=kc ⟨_,he⟩
   have I1:cV g c h {s with heap:=aq,toks:=tk'}:=I.wild (λx=>x=e\/x=b) (λx q=>q.elim (λq=>q▸fe) λq=>q▸fb)
    (λx o hx ho=>aE.extBut x o (λq=>hx (.inl q)) (hk x o (λq=>hx (.inl q)) (λq=>hx (.inr q)) ho)) ⟨rfl,rfl,rfl⟩
   exact⟨c.tupAt s.heap.objs.size [.int i tk,y],[e,b],dA.tupAt ..,I1.addTup fs ⟨_,aE.extBut _ _ (Ne.symm ne1) hT,rfl,_,rfl⟩,yd (eG rfl) hy,
    List.forall_mem_cons.mpr ⟨iL fe ne1,List.forall_mem_cons.mpr ⟨iL fb (kc h1.has),nofun⟩⟩,.enum _ _ e b si y hne (lM (dA.tupAt ..) hv) aU (h1'.at λo ho=>aE.extBut _ _ (Ne.symm hne) ho)⟩
theorem CI(W:SW g){v w:V}{i:Nat}{z TI TO i1 i2:Addr}(hh:A.handled=none)(I:cV g c h s)(hL:∀b,b∈[z,TI,TO,i1,i2]->hH g c b)(ht:nM t=true)(kz:sV g c s.heap v w i z TI TO i1 i2)
  (hn:next g.C (.zip v w i) h=some nx) (hq:∀ov s',og g c h A E (.ref z) t nx ov s'->Q ov s'):wpAny g.M A (pyNext (.ref z)) Q E s:=
 cW hn λl hl hn=>cW hn λl' hl' hn=>by
  obtain⟨D,hz,hti,⟨ta,tb,hto⟩,⟨s1,hv,h1⟩,⟨s2,hw,h2⟩⟩:=kz
  refine e02 (List.forall_mem_cons.mp hL) λfz fL=>?_
  refine e02 (List.forall_mem_cons.mp fL) λY fL=>?_
  refine e02 (List.forall_mem_cons.mp fL) λfTO fL=>?_
  refine e02 (List.forall_mem_cons.mp fL) λf1 fL=>?_
  refine e02 (List.forall_mem_cons.mp fL) λf2 Y=>?_
  refine e31 (qo ht) λes ek ep zq37=>?_
  cases zq37
  cases hn
  have far:∀h',(∀b o,b≠z->b≠TO->b≠i1->s.heap.get? b=some o->h'.get? b=some o)->cV g c h {s with heap:=h'}:=λh' hk=>
   I.wild (λx=>x=z\/x=TO\/x=i1) (λx q=>q.elim (λq=>q▸fz) λq=>q.elim (λq=>q▸fTO) λq=>q▸f1) (λx o hx ho=>hk x o (λq=>hx (.inl q)) (λq=>hx (.inr (.inl q))) (λq=>hx (.inr (.inr q))) ho) ⟨rfl,rfl,rfl⟩
  have p:=λh' hk=>vH W (i:=i) (si:=s1) (far h' hk) hv hl
  have q:=λh' hk=>vH W (i:=i) (si:=s2) (far h' hk) hw hl'
  have wk:∀{h':Heap},(∀b o,b≠z->s.heap.get? b=some o->h'.get? b=some o)->∀b o,b≠z->b≠TO->b≠i1->s.heap.get? b=some o->h'.get? b=some o:=λk b o b1 Y Y e=>k b o b1 e
  have fin:∀(h':Heap) (tk:Tok),(∀x o,x≠z->x≠TO->x≠i1->x≠i2->s.heap.get? x=some o->h'.get? x=some o)->cV g c h {s with heap:=h',toks:=tk}:=λh' tk hk=>
   I.wild (λx=>x=z\/x=TO\/x=i1\/x=i2) (λx q=>q.elim (λq=>q▸fz) λq=>q.elim (λq=>q▸fTO) λq=>q.elim (λq=>q▸f1) λq=>q▸f2)
    (λx o hx ho=>hk x o (λq=>hx (.inl q)) (λq=>hx (.inr (.inl q))) (λq=>hx (.inr (.inr (.inl q)))) (λq=>hx (.inr (.inr (.inr q)))) ho) ⟨rfl,rfl,rfl⟩
  cases ex:fF l i with
  |none=>
   rw[ex] at hq
   exact ya (P1:=λY=>True) hh D hz hti hto h1 h2 (λh' hk=>.inl ((p h' (wk hk)).n ex)) λh' tk hk=>hq _ _ (.stop _ (fin h' tk hk))
  |some x=>
   rw[ex] at hq
   cases ey:fF l' i with
   |none=>
    rw[ey] at hq
    exact ya (P1:=VR g c x) hh D hz hti hto h1 h2 (λh' hk=>.inr ⟨(p h' (wk hk)).p x ex,λh'' hk'=>(q h'' hk').n ey⟩) λh' tk hk=>hq _ _ (.stop _ (fin h' tk hk))
   |some y=>
    rw[ey] at hq
    refine CG (P1:=VR g c x) (P2:=VR g c y) D hz hti hto h1 h2 (λh' hk=>(q h' hk).p y ey) (λh' hk=>(p h' (wk hk)).p x ex) λx' y' h' tk hx' hy' hz' hto' h1' h2' hT hk=>hq _ _ (.more _ _ _ _ λY=>wpAny_letOwnedTupleGo_zip hz' λaq bv aE=>?_)
    have fs:=I.free (VC (VA s.heap.objs.size))
    have nz:=kc ⟨_,hz⟩
    have I1:=fin aq tk λx o x1 x2 x3 x4 e=>aE.extBut x o x1 (hk x o x1 x2 x3 x4 e)
    have up:=λ{b:Addr} (hb:b≠z) o (e:h'.get? b=some o)=>aE.extBut b o hb e
    exact⟨c.tupAt s.heap.objs.size [x',y'],[z,TI,TO,i1,i2],dA.tupAt ..,I1.addTup fs ⟨_,aE.extBut _ _ (Ne.symm nz) hT,rfl,_,rfl⟩,yd hx' hy',
     List.forall_mem_cons.mpr ⟨iL fz nz,List.forall_mem_cons.mpr ⟨iL (hL _ (Vr _ Vq)) (kc ⟨_,hti⟩),List.forall_mem_cons.mpr ⟨iL fTO (kc ⟨_,hto⟩),List.forall_mem_cons.mpr ⟨iL f1 (kc h1.has),List.forall_mem_cons.mpr ⟨iL f2 (kc h2.has),nofun⟩⟩⟩⟩⟩,
     .zip _ _ _ z TI TO i1 i2 ⟨D,bv,up D.1 _ (hk _ _ D.1 D.2.2.2.2.1 D.2.2.2.2.2.1 D.2.2.2.2.2.2.1 hti),⟨x',y',up D.2.1 _ hto'⟩,⟨s1,lM (dA.tupAt ..) hv,h1'.at (up D.2.2.1)⟩,⟨s2,lM (dA.tupAt ..) hw,h2'.at (up D.2.2.2.1)⟩⟩⟩
theorem next_ok(W:SW g){it:It}{itv:Value}(hh:A.handled=none)(I:cV g c h s)(hit:pD g c s.heap it itv)(ht:sQ it t=true)(hn:next g.C it h=some nx)(hq:∀ov s',og g c h A E itv t nx ov s'->Q ov s'):wpAny g.M A (pyNext itv) Q E s:=by
 cases hit with
 |emp a d ep fa hD hK hd=>
  cases hn
  exact wpAny_pyNext_dict_end hh hK hD rfl λh' hk=>hq _ _ (.stop _ (jV I fa hk))
 |mk _ _ L hL hS=>
  cases hS with
  |vals l a hS=>cases hn;exact zL hh I (hL a Vq) hS hq
  |lst v i a l0 hp hv h1=>exact CH W hh I (hL a Vq) hp hv h1 hn hq
  |enum v i e b si old hne hv he h1=>exact zM W hh I (hL e Vq) (hL b (Vr _ Vq)) ht hne hv he h1 hn hq
  |zip v w i z TI TO i1 i2 kz=>exact CI W hh I hL ht kz hn hq
end
end
end
section
open PySem.SeqAt
variable{g:Gb}{c c':Cf}
section
variable{A:Around}{s:Shared}
noncomputable def IW:Value->Bool
 |.float _ _=>false
 |_=>true
theorem ye{v w:Value}{k:Bool}(h:RcAt A s v w k)(hf:IW v=true)(hs:v=w->k=true):EqAt A s v w k:=λprog wd E Q hq=>
 wpAny_holding<|wpAny_ite_split (λhab=>wpAny_bind (wpAny_rule (wpAny_pure (by rw[hs (eq_of_beq hab)] at hq;exact hq)))) λY=>by
  cases v with
  |float _ _=>exact ft hf
  |_=>exact wpAny_bind (h prog wd E _ (wpAny_truthy_bool hq))
theorem RcAt.bytes_bytes(a:Array UInt8)(t:Tok)(b:Array UInt8)(u:Tok):RcAt A s (.bytes a t) (.bytes b u) (a.toList==b.toList):=λY Y Y Y h=>eq_bytes h
theorem RcNeAt.bytes_bytes(a:Array UInt8)(t:Tok)(b:Array UInt8)(u:Tok):RcNeAt A s (.bytes a t) (.bytes b u) (!(a.toList==b.toList)):=λY Y Y Y h=>ne_bytes h
theorem eH:isSubtype (.type "str") (.type "bytes")=pure false:=by rw[isSubtype_type];kernel_rfl
theorem kJ:Slot "str" (cmpInfo .NotEq).2.2 "str.__ne__":=F.slot_str_ne
theorem oh(a:Array UInt8)(t:Tok)(b:Str)(u:Tok):Gives (Builtin.«bytes.__eq__» ⟨[.bytes a t,.str b u],[]⟩) (.val .notImplemented):=by
 refine .of_wp λM A E s Q hq=>?_
 refine(?_:wpAny M A (isInstance (.str b u) (.type "bytes")>>=λr=>_) _ E s)
 refine wpAny_bind ?_
 refine wpAny_isInstance (typeIs_str s b u) eH ?_
 refine wpAny_bind (wpAny_isInstance (typeIs_str s b u) eH ?_)
 exact wpAny_bind (wpAny_rule (wpAny_pure ⟨_,rfl,hq⟩))
theorem oj(a:Array UInt8)(t:Tok)(b:Str)(u:Tok):Gives (Builtin.«bytes.__ne__» ⟨[.bytes a t,.str b u],[]⟩) (.val .notImplemented):=by
 refine .of_wp λM A E s Q hq=>?_
 refine(?_:wpAny M A (isInstance (.str b u) (.type "bytes")>>=λr=>_) _ E s)
 refine wpAny_bind ?_
 refine wpAny_isInstance (typeIs_str s b u) eH ?_
 refine wpAny_bind (wpAny_isInstance (typeIs_str s b u) eH ?_)
 exact wpAny_bind (wpAny_rule (wpAny_pure ⟨_,rfl,hq⟩))
theorem on(b:Str)(u:Tok)(a:Array UInt8)(t:Tok):Gives (Builtin.«str.__eq__» ⟨[.str b u,.bytes a t],[]⟩) (.val .notImplemented):=.of_wp λM A E s Q h=>by obtain⟨hp,g,d,tk,os⟩:=s;wp_walk;exact⟨_,rfl,h⟩
theorem oo(b:Str)(u:Tok)(a:Array UInt8)(t:Tok):Gives (Builtin.«str.__ne__» ⟨[.str b u,.bytes a t],[]⟩) (.val .notImplemented):=.of_wp λM A E s Q h=>by obtain⟨hp,g,d,tk,os⟩:=s;wp_walk;exact⟨_,rfl,h⟩
theorem RcAt.bytes_str(a:Array UInt8)(t:Tok)(b:Str)(u:Tok):RcAt A s (.bytes a t) (.str b u) false:=λY Y Y Y h=>
 rc_eq_decline_or (k:=false) (typeIs_bytes s a t) (typeIs_str s b u) (by decide) eH FB.slot_bytes_eq F.slot_str_eq_refl
  (λY hq=>call_gives FB.slot_bytes_eq (typeIs_bytes s a t) FB.entry_bytes_eq (FB.args_bytes_eq_2 _ _) (oh a t b u) hq)
  (λY hq=>call_gives F.slot_str_eq_refl (typeIs_str s b u) F.entry_str_eq (F.args_str_eq_2 _ _) (on b u a t) hq)
  (λY hq=>wpAny_of_eq (rfl:isSame (.bytes a t) (.str b u)=pure false) hq) (.inl rfl) h
theorem RcNeAt.bytes_str(a:Array UInt8)(t:Tok)(b:Str)(u:Tok):RcNeAt A s (.bytes a t) (.str b u) true:=λY Y Y Y h=>
 rc_ne_decline_or (k:=false) (typeIs_bytes s a t) (typeIs_str s b u) (by decide) eH FB.slot_bytes_ne kJ
  (λY hq=>call_gives FB.slot_bytes_ne (typeIs_bytes s a t) FB.entry_bytes_ne (FB.args_bytes_ne_2 _ _) (oj a t b u) hq)
  (λY hq=>call_gives kJ (typeIs_str s b u) F.entry_str_ne (F.args_str_ne_2 _ _) (oo b u a t) hq)
  (λY hq=>wpAny_of_eq (rfl:isSame (.bytes a t) (.str b u)=pure false) hq) (.inl rfl) h
theorem rn:∀{l:List Bool},true∈l->y8 l=true
 |true::_,_=>rfl
 |false::r,h=>by cases h with|tail _ h=>exact rn (l:=r) h
theorem ro:∀{l:List Bool},false∈l->uX l=true
 |false::_,_=>rfl
 |true::r,h=>by cases h with|tail _ h=>exact ro (l:=r) h
theorem CJ{l:List Bool}{x:Bool}(h:x∈l):x∈Jy l:=by
 unfold Jy
 cases x with
 |true=>rw[rn h];cases uX l<;>exact Vq
 |false=>rw[ro h];cases y8 l<;>first|exact Vq|exact Vr _ Vq
theorem yf{f:Bool->Bool->Bool}{a b:List Bool}{x y:Bool}(hx:x∈a)(hy:y∈b):f x y∈Jz f a b:=CJ (List.mem_flatMap.mpr ⟨x,hx,List.mem_map.mpr ⟨y,hy,rfl⟩⟩)
theorem Gs{a:List Bool}{k:Unit->List Bool}{x y:Bool}(hx:x∈a)(hy:y∈k ()):(x&&y)∈JA a k:=by
 unfold JA
 cases hT:y8 a with
 |false=>
  cases x with
  |true=>rw[rn hx] at hT;cases hT
  |false=>exact hx
 |true=>
  cases hF:uX a with
  |false=>
   cases x with
   |true=>exact hy
   |false=>rw[ro hx] at hF;cases hF
  |true=>exact yf hx hy
theorem CK{x y:UInt8}{t u:List UInt8}:decide (x::t=y::u)=(decide ((x.toNat:Int)=(y.toNat:Int))&&decide (t=u)):=
 (decide_eq_decide.mpr ⟨λq=>by cases q;exact⟨rfl,rfl⟩,λq=>by rw[UInt8.toNat_inj.mp (Int.ofNat.inj q.1),q.2]⟩).trans (Bool.decide_and ..)
theorem Gu{σ:Nat->Int}:∀{l l':List AI} {b b':List UInt8},BR σ l b->BR σ l' b'->decide (b=b')∈JB l l':=by
 intro l
 induction l with
 |nil=>
  intro l' b b' h h'
  cases (show b=[] from h)
  cases l' with
  |nil=>cases (show b'=[] from h');exact Vq
  |cons _ _=>obtain⟨x,t,rfl,_⟩:=h';exact Vq
 |cons a r ih=>
  intro l' b b' h h'
  refine e23 h λx t zq38 h1 h2=>?_;clear h
  cases zq38
  cases l' with
  |nil=>cases (show b'=[] from h');exact Vq
  |cons _ _=>obtain⟨y,u,rfl,h3,h4⟩:=h';rw[CK];exact Gs (rh h1 h3) (ih h2 h4)
theorem Gv{σ:Nat->Int}{l l':List AI}{b b':List UInt8}(h:BR σ l b)(h':BR σ l' b'):decide (b=b')∈JC l l':=by
 unfold JC
 cases hl:Vn l.length l'.length with
 |true=>exact Gu h h'
 |false=>exact List.mem_singleton.mpr (decide_eq_false λq=>en hl (by rw[<-h.length,<-h'.length,q]))
theorem CM(p q:List UInt8):decide (p=q)=(p==q):=by
 cases h:p==q with
 |true=>exact decide_eq_true (eq_of_beq h)
 |false=>exact decide_eq_false (ne_of_beq_false h)
theorem CN(m n:Int):decide (m=n)=(m==n):=by
 cases h:m==n with
 |true=>exact decide_eq_true (eq_of_beq h)
 |false=>exact decide_eq_false (ne_of_beq_false h)
theorem CO{x y:Str}(h:cd x≠0):Vn (cd x) (cd y)=(x==y):=by
 cases q:x==y with
 |true=>rw[eq_of_beq q];exact VT _
 |false=>exact dg λe=>ne_of_beq_false q (et h e)
structure Ud(A:Around)(s:Shared)(v w:Value)(k:Bool):Prop where
 rc:RcAt A s v w k
 ne:RcNeAt A s v w (!k)
 eq:EqAt A s v w k
theorem Kq{K:Bool->Bool}{v w:Value}{k:Bool}(hk:K k=true)(h:RcAt A s v w k)(h':RcNeAt A s v w (!k))(hf:IW v=true)(hs:v=w->k=true):∃k,K k=true/\Ud A s v w k:=⟨k,hk,h,h',ye h hf hs⟩
theorem fO{a:V}(h:d8 a=true):a=.none:=by
 cases a with
 |none=>rfl
 |_=>exact ft h
theorem CQ{a b:V}{v w:Value}{h:H}{K:Bool->Bool}(I:cV g c h s)(hv:VR g c a v)(hw:VR g c b w)(hk:Sh a b K=true)(hu:A.units<cLine):∃k,K k=true/\Ud A s v w k:=
 RR hk (λhk=>kS hk hw λy u y1 y2 hk=>Cr hk (λhk=>kS hk hv λx t x1 x2 hk=>Kq (CO x1▸hk) (RcAt.str_str _ _ _ _) (RcNeAt.str_str _ _ _ _) rfl λe=>by cases e;exact beq_self_eq_true _) (λhk=>kB hk hv λx b t hx hk=>Kq hk (RcAt.bytes_str _ _ _ _) (RcNeAt.bytes_str _ _ _ _) rfl nofun) (λhk=>kT hk hv λl x vs hx Y hk=>Kq hk (RcAt.tuple_str _ _ (I.tup _ _ hx) hu) (RcNeAt.tuple_str _ _ (I.tup _ _ hx) hu) rfl nofun)) (λhk=>kI hk hv λx m t hx hk=>kI hk hw λy n u hy hk=>Kq (k:=m==n) (iH hk (CN m n▸rh hx hy)) (RcAt.int_int _ _ _ _) (RcNeAt.int_int _ _ _ _) rfl λe=>by cases e;exact beq_self_eq_true _) (λhk=>kB hk hv λx p t hx hk=>kB hk hw λy q u hy hk=>Kq (iH hk (CM _ _▸Gv hx hy)) (RcAt.bytes_bytes _ _ _ _) (RcNeAt.bytes_bytes _ _ _ _) rfl λe=>by cases e;exact beq_self_eq_true _) (λhk=>RT hk hw λy hk=>eL hk (λhk=>RT hk hv λx hk=>Kq hk (RcAt.bool_bool _ _) (RcNeAt.bool_bool _ _) rfl λe=>by cases e;exact beq_self_eq_true _) λhk=>cT hk λe hk=>by
  cases fO e
  cases (show v=.none from hv)
  exact Kq hk (RcAt.none_bool _) (RcNeAt.none_bool _) rfl nofun)
end
end
section
variable{g:Gb}{c c':Cf}
section
variable{A:Around}{E:Value->Shared->Prop}{h:H}{s:Shared}
theorem keyIn_asc(k:Nat):∀l:List (Nat×V),jQ k l=(eJ l k).isSome
 |[]=>rfl
 |(x,v)::r=>by
  unfold jQ;rw[dZ]
  cases Vn x k with
  |true=>rfl
  |false=>exact keyIn_asc k r
theorem PR.at{x:Str}(hx:cd x≠0):∀{l:List (Nat×V)} {es:List (Str×Value)},PR g c l es->(∀a,eJ l (cd x)=some a->∃v,valueAt es x=some v/\VR g c a v)/\(eJ l (cd x)=none->valueAt es x=none)
 |[],_,h=>by cases h;exact⟨λa e=>by(cases e),λY=>rfl⟩
 |(k,b)::r,_,h=>by
  obtain⟨y,v,t,rfl,h2,h3,h4,h5,h6⟩:=h
  refine e02 (PR.at hx h6) λi1 i2=>?_
  rw[dZ]
  by_cases q:y=x
  .subst q
   have:Vn k (cd y)=true:=by rw[h2];exact VT _
   rw[this]
   exact⟨λa e=>by(cases e;exact⟨v,by simp[valueAt],h5⟩),λe=>by(cases e)⟩
  .have:Vn k (cd x)=false:=dg λe=>q (et (by rw[h2];exact h3) (h2.trans e))
   rw[this]
   have e:valueAt ((y,v)::t) x=valueAt t x:=by simp[valueAt,List.find?_cons,q]
   rw[e]
   exact⟨i1,i2⟩
theorem PR.isSome{x:Str}(hx:cd x≠0){l:List (Nat×V)}{es:List (Str×Value)}(h:PR g c l es):(valueAt es x).isSome=jQ (cd x) l:=by
 rw[keyIn_asc]
 refine e02 (h.at hx) λh1 h2=>?_
 cases e:eJ l (cd x) with
 |none=>rw[h2 e];rfl
 |some a=>obtain⟨v,e2,_⟩:=h1 a e;rw[e2];rfl
theorem oq{x:Str}{t:Tok}:(strKind g.pr g.wd).is x (.str x t)=true:=by show Value.isStrOf x (.str x t)=true;simp[Value.isStrOf]
theorem Gw{Q:Value->Shared->Prop}{l:List (Nat×V)}{x:Str}{t:Tok}{a d:Addr}(h:OR g c (.dict l) a d s.heap)(hx:cd x≠0)(hq:∀k,Q (.bool (jQ (cd x) l)) {s with toks:=k}):wpAny g.M A (compareOp .In (.str x t) (.ref a)) Q E s:=by
 refine e14 h λkvs h1 h2 h3 h4=>?_;clear h
 refine wpAny_in_of oq h2 h1.mapOf ?_
 rw[h3.isSome hx];exact hq _
theorem vI{Q:Value->Shared->Prop}{l:List (Nat×V)}{x:Str}{t:Tok}{a d:Addr}(h:OR g c (.dict l) a d s.heap)(hx:cd x≠0)(hq:∀k,Q (.bool (!(jQ (cd x) l))) {s with toks:=k}):wpAny g.M A (compareOp .NotIn (.str x t) (.ref a)) Q E s:=by
 refine e14 h λkvs h1 h2 h3 h4=>?_;clear h
 refine wpAny_notIn_of oq h2 h1.mapOf ?_
 rw[h3.isSome hx];exact hq _
theorem s6{y x:Str}{w v:Value}{t:List (Str×Value)}(hn:(((y,w)::t).map (·.1)).Nodup):stored ((y,w)::t) x v=if y=x then(y,v)::t else(y,w)::stored t x v:=by
 have hn:y∉t.map (·.1)/\(t.map (·.1)).Nodup:=by simpa using hn
 unfold stored
 by_cases q:y=x
 .subst q
  have ht:t.map (λkv=>if kv.1=y then(kv.1,v) else kv)=t:=by
   conv=>rhs;rw[<-List.map_id t]
   refine Xb λkv hkv=>?_
   rw[if_neg]
   .rfl
   .rintro rfl
    exact hn.1 (WK hkv)
  simp[ht]
 .simp only[WC,q,decide_false,Bool.false_or,if_false,WB]
  split<;>rfl
theorem PR.stored{x:Str}{a:V}{v:Value}(hx:cd x≠0)(hl:x.length≤1000)(hv:VR g c a v):∀{l:List (Nat×V)} {es:List (Str×Value)},PR g c l es->(es.map (·.1)).Nodup->PR g c (nC l (cd x) a) (PySem.stored es x v)
 |[],_,h,_=>by cases h;exact⟨x,v,[],rfl,rfl,hx,hl,hv,rfl⟩
 |(k,b)::r,_,h,hn=>by
  obtain⟨y,w,t,rfl,h2,h3,h4,h5,h6⟩:=h
  rw[s6 hn,jh]
  by_cases q:y=x
  .subst q
   have:Vn k (cd y)=true:=by rw[h2];exact VT _
   rw[this,if_pos rfl]
   exact⟨y,v,t,rfl,h2,h3,h4,hv,h6⟩
  .have:Vn k (cd x)=false:=dg λe=>q (et (by rw[h2];exact h3) (h2.trans e))
   rw[this,if_neg q]
   exact⟨y,w,_,rfl,h2,h3,h4,h5,PR.stored hx hl hv h6 (by simpa using (List.nodup_cons.mp hn).2)⟩
theorem da.set{x:V}{v:Value}(hv:VR g c x v):∀{l:List V} {vs:List Value} {j:Nat},da g c l vs->da g c (A7 l j x) (vs.set j v)
 |[],vs,j,h=>(h:vs=[])▸da.nil
 |a::r,vs,0,h=>by obtain⟨y,ys,rfl,h1,h2⟩:=h;exact da.cons hv h2
 |a::r,vs,j+1,h=>by obtain⟨y,ys,rfl,h1,h2⟩:=h;exact da.cons h1 (da.set hv h2)
theorem s7{α:Type}{x:α}:∀{l:List α} {j:Nat},(A7 l j x).length=l.length
 |[],j=>by cases j<;>rfl
 |_::_,0=>rfl
 |_::r,j+1=>by show(A7 r j x).length+1=_;rw[s7];rfl
theorem yg{α:Type}{k:Nat}{v:α}:∀{m:List (Nat×α)},(nC m k v).length≤m.length+1
 |[]=>VA _
 |(k',w)::r=>by
  rw[jh]
  split
  .exact VO _
  .exact V1 yg
theorem zN{l:Addr}{items:Array Value}{k:Int}{t:Tok}{v:Value}{Q:Unit->Shared->Prop}{E:Value->Shared->Prop}{A:Around}{s:Shared}(hl:jk s.heap l items)
  (h0:0≤k) (hfit:k<2 ^ 63) (hn:k<items.size)
  (hQ:∀h',jk h' l (items.setIfInBounds k.toNat v)->VB l s.heap h'->Q () {s with heap:=h'}):
  wpAny g.M A (setItem (.ref l) (.int k t) v) Q E s:=by
 refine e11 (id hl) λne ho=>?_
 have hT:=hl.isList.typeIs
 unfold setItem
 refine wpAny_holding ?_
 refine wpAny_bind (wpAny_sequenceKey hT (by decide) ?_)
 refine wpAny_bind (wpAny_callSpecial?_slot (name:=Vm "__setitem__") hT slot_list_setitem
  (wpAny_call_entry slot_list_setitem hT entry_list_setitem ?_ (args_list_setitem _ _ _)))
 refine(?_:wpAny _ _ (Builtin.List.listSubscript? (.int k t)>>=_) _ _ s)
 refine wpAny_bind (wpAny_listSubscript_int (fitsIndex_of h0 hfit) ?_)
 clear hfit
 refine e11 (W1 h0) λj zq39=>?_
 cases zq39
 have hj:j<items.size:=by omega
 have hx':items[j]? =some items[j]:=Wq hj
 refine(?_:wpAny _ _ ((seqItemAt l j>>=λr=>pure (r.map (j,·)))>>=_) _ _ s)
 refine wpAny_bind (wpAny_bind (wpAny_seqItemAt ho rfl (wpAny_pure ?_)))
 rw[hx']
 refine(?_:wpAny _ _ (setSeqItemAt l j v>>=_) _ _ s)
 have hfin:jk (s.heap.update l (Xk (·.setIfInBounds j v))) l (items.setIfInBounds j v):=⟨_,VD _ ho rfl⟩
 refine wpAny_bind (wpAny_setSeqItemAt ho rfl ?_)
 first
  |exact wpAny_bind (wpAny_pure (wpAny_pure ⟨.none,rfl,wpAny_pure (hQ _ hfin (Heap.SameBut.update ..))⟩))
  |exact wpAny_pure ⟨.none,rfl,wpAny_pure (hQ _ hfin (Heap.SameBut.update ..))⟩
theorem Gx{k:Nat}{v:Value}(h:VR g c (.ref k) v):v=.ref (c.ρ k):=And.right h
theorem setI_ok{a o i:V}{v vo vi:Value}{K:H->Bool}(I:cV g c h s)(hv:VR g c a v)(ho:VR g c o vo)(hi:VR g c i vi)(hk:vh a K o i h=true):wpAny g.M A (setItem vo vi v) (QU g c K) E s:=
 cP hk λk e hk=>by
  cases Gx (gC e▸ho)
  cases i with
  |int x=>
   refine e22 (Ko hi) λn t zq40 hn=>?_
   cases zq40
   refine cP hk λm e1 hk=>cP hk λl hl hk=>cT hk λh0 hk=>cP hk λj hj hK=>?_
   have hl:=Gh hl
   cases hn.cst e1
   obtain⟨_,vs,h1,h2,h3⟩:=I.obj _ _ hl
   have hsz:=ew h2
   cases rj hj with
   |down _ _ _ _ hn=>exact absurd (of_decide_eq_true h0) (Int.not_le.mpr hn)
   |up _ ht=>
    refine zN h1 (VV _) (Ww (Int.ofNat_lt.mpr (Vt ht h3)) (by decide)) (Int.ofNat_lt.mpr (hsz.symm▸ht)) λh' i' hs'=>⟨c,_,.refl c,?_,hK⟩
    refine e11 (id i') λY hob=>?_
    exact I.setAt hl hob hs' ⟨_,i',by rw[VH,Array.toList_setIfInBounds];exact h2.set hv,by rw[s7];exact h3⟩ rfl
  |str x=>
   refine cP (show(cR (nA (h.get k)) λl=>gd (Vy l.length 999) (K (h.set k (.dict (nC l x a)))))=true from hk) λl hl hk=>cT hk λhc hk=>?_
   refine e24 hi λy t zq41 hy hy0 hyl=>?_;clear hi
   cases zq41
   have hc:=Vw hc
   have hl:=Gi hl
   obtain⟨_,kvs,h1,h2,h3,h4⟩:=I.obj _ _ hl
   obtain⟨o0,es0,ep0,_,_,_,_,_,hnd⟩:=id h1
   refine wpAny_setItem_pairs oq h1 (λh' i' hs'=>⟨c,_,.refl c,?_,hk⟩) (by rw[h3.length,sizeLine_eq];exact Vo hc (by decide))
   refine e32 (id i') λob Y Y hob Y=>?_
   subst hy
   exact I.setAt hl hob hs' ⟨_,i',h2,h3.stored hy0 hyl hv hnd,Vo yg (V1 hc)⟩ rfl
  |_=>cases hk
end
end
section
variable{g:Gb}{c c':Cf}
section
variable{A:Around}{E:Value->Shared->Prop}{h:H}{s:Shared}
theorem zO{n:Int}(h0:0≤n)(h1:n<256)(x:UInt8):(n.toNat.toUInt8==x)=decide ((x.toNat:Int)=n):=by
 refine e11 (W1 h0) λk zq42=>?_
 cases zq42
 have hk:k<256:=by omega
 rw[VH,Bool.eq_iff_iff,beq_iff_eq,decide_eq_true_eq]
 constructor
 .rintro rfl
  refine(?_:((UInt8.ofNat k).toNat:Int)=_)
  rw[UInt8.toNat_ofNat',WX hk]
 .intro h
  have h:x.toNat=k:=by omega
  subst h
  refine(?_:UInt8.ofNat x.toNat=x)
  exact UInt8.ofNat_toNat
theorem s8{Q:Bool->Shared->Prop}{n:Int}{t u:Tok}{b:Array UInt8}(h0:0≤n)(h1:n<256)(hq:Q (b.toList.any λx=>decide ((x.toNat:Int)=n)) s):wpAny g.M A (Builtin.Bytes.containsIn "bytes.__contains__" (.bytes b u) (.int n t)) Q E s:=by
 unfold Builtin.Bytes.containsIn
 refine wpAny_bind (wpAny_attempt (wpAny_pure (wpAny_bind (wpAny_of_eq KBy.buffer_eq ?_))))
 refine(?_:wpAny g.M A (if(decide (n<0)||decide (n≥256))=true then _ else _) _ _ s)
 have:(decide (n<0)||decide (n≥256))=false:=by simp;omega
 rw[this]
 refine eB Vs ?_
 refine wpAny_pure ?_
 have e:b.contains n.toNat.toUInt8=b.toList.any λx=>decide ((x.toNat:Int)=n):=by
  obtain⟨l⟩:=b
  simp only[List.contains_toArray,List.contains_eq_any_beq]
  congr 1
  funext x
  exact zO h0 h1 x
 rw[e];exact hq
theorem jo{Q:Bool->Shared->Prop}{n:Int}{t u:Tok}{b:Array UInt8}(h0:0≤n)(h1:n<256)(hq:∀k,Q (b.toList.any λx=>decide ((x.toNat:Int)=n)) {s with toks:=k}):wpAny g.M A (contains (.bytes b u) (.int n t)) Q E s:=by
 have hT:s.TypeIs (.bytes b u) "bytes":=rfl
 unfold contains
 try with_reducible refine wpAny_holding ?_
 refine wpAny_bind (wpAny_specialOf hT FB.slot_bytes_contains.lookup ?_)
 refine(?_:wpAny _ _ (if(some (Value.builtin "bytes.__contains__")==some Value.none)=true then _ else _) _ E s)
 refine eB (by rw[beq_builtin_none];exact Vs) ?_
 refine wpAny_bind (wpAny_callSpecialUnlessNone?_slot (name:=Vm "__contains__") hT FB.slot_bytes_contains
  (wpAny_call_entry FB.slot_bytes_contains hT FB.entry_bytes_contains ?_ (FB.args_bytes_contains_2 _ _)))
 refine(?_:wpAny _ _ (Builtin.Bytes.containsIn "bytes.__contains__" (.bytes b u) (.int n t)>>=_) _ _ s)
 refine wpAny_bind (s8 h0 h1 ?_)
 exact wpAny_pure ⟨_,rfl,wpAny_truthy_bool (hq s.toks)⟩
theorem CS{Q:Value->Shared->Prop}{n:Int}{t u:Tok}{b:Array UInt8}(h0:0≤n)(h1:n<256)(hq:∀k,Q (.bool (b.toList.any λx=>decide ((x.toNat:Int)=n))) {s with toks:=k}):wpAny g.M A (compareOp .In (.int n t) (.bytes b u)) Q E s:=by
 refine(?_:wpAny _ _ (do return .bool (<-contains (.bytes b u) (.int n t))) Q E s)
 exact wpAny_bind (jo h0 h1 λk=>wpAny_pure (hq k))
theorem s9{Q:Value->Shared->Prop}{n:Int}{t u:Tok}{b:Array UInt8}(h0:0≤n)(h1:n<256)(hq:∀k,Q (.bool (!(b.toList.any λx=>decide ((x.toNat:Int)=n)))) {s with toks:=k}):wpAny g.M A (compareOp .NotIn (.int n t) (.bytes b u)) Q E s:=by
 refine(?_:wpAny _ _ (do return .bool (!(<-contains (.bytes b u) (.int n t)))) Q E s)
 exact wpAny_bind (jo h0 h1 λk=>wpAny_pure (hq k))
end
end
section
open PySem.SeqAt
variable{g:Gb}{c c':Cf}
section
variable{A:Around}{s:Shared}{E:Value->Shared->Prop}
theorem Kr{a b:List Bool}{x y:Bool}(hx:x∈a)(hy:y∈b):(x||y)∈TW a b:=yf hx hy
structure IX(A:Around)(s:Shared)(vs ws:List Value)(k:Bool)(e:Nat->Bool):Prop where
 all:∀j (h1:j<vs.length) (h2:j<ws.length),EqAt A s vs[j] ws[j] (e j)
 k:((Wa (min vs.length ws.length)).all e&&vs.length==ws.length)=k
theorem IX.nil1{ws:List Value}{k:Bool}(h:(0==ws.length)=k):IX A s [] ws k λY=>true:=⟨λY h=>absurd h (VE _),by rw[List.length_nil,Nat.zero_min];exact h⟩
theorem IX.nil2{x:Value}{xs:List Value}:IX A s (x::xs) [] false λY=>true:=⟨λY Y h=>absurd h (VE _),Bool.and_false _⟩
theorem IX.cons{x y:Value}{xs ys:List Value}{k k':Bool}{e:Nat->Bool}(h:EqAt A s x y k)(r:IX A s xs ys k' e):IX A s (x::xs) (y::ys) (k&&k') (λj=>Nat.rec k (λj Y=>e j) j) where
 all:=λj=>Nat.rec (λY Y=>h) (λj Y h1 h2=>r.all j (V5 h1) (V5 h2)) j
 k:=by
  rw[<-r.k,WW,WW,Nat.succ_min_succ,List.range_succ_eq_map,List.all_cons,List.all_map,Bool.and_assoc]
  have:(xs.length+1==ys.length+1)=(xs.length==ys.length):=by
   cases q:xs.length==ys.length with
   |true=>exact beq_iff_eq.mpr (congrArg (· +1) (eq_of_beq q))
   |false=>exact beq_eq_false_iff_ne.mpr λe=>ne_of_beq_false q (WG e)
  rw[this];rfl
theorem Gy{h:H}(I:cV g c h s)(hu:A.units<cLine){l:List V}:∀{l':List V} {vs ws:List Value} {K:Bool->Bool},da g c l vs->da g c l' ws->JD l l' K=true->∃k e,K k=true/\IX A s vs ws k e:=by
 induction l with
 |nil=>
  intro l' vs ws K h1 h2 hk
  cases (show vs=[] from h1)
  refine⟨_,_,hk,.nil1 ?_⟩
  cases l' with
  |nil=>cases (show ws=[] from h2);rfl
  |cons _ _=>obtain⟨y,ys,rfl,_⟩:=h2;rfl
 |cons a r ih=>
  intro l' vs ws K h1 h2 hk
  refine e23 h1 λx xs zq43 hx hxs=>?_;clear h1
  cases zq43
  cases l' with
  |nil=>cases (show ws=[] from h2);exact⟨_,_,hk,.nil2⟩
  |cons b r'=>
   refine e23 h2 λy ys zq44 hy hys=>?_;clear h2
   cases zq44
   exact(CQ (K:=λx=>JD r r' λy=>K (x&&y)) I hx hy hk hu).elim λk q=>(ih hxs hys q.1).elim λk' z=>z.elim λe z=>⟨_,_,z.1,.cons q.2.eq z.2⟩
def NO(A:Around)(s:Shared)(v w:Value)(k:Bool):Prop:=RcAt A s v w k/\RcNeAt A s v w (!k)
theorem td{x y:Addr}{vs ws:Array Value}(hu:A.units<cLine)(h1:s.heap.IsList x vs)(h2:s.heap.IsList y ws)(z:vs.size=0\/ws.size=0):NO A s (.ref x) (.ref y) (decide (vs.size=ws.size)):=by
 by_cases e:vs.size=ws.size
 .have z1:vs.size=0:=z.elim id λq=>e.trans q
  have no:∀j,¬j<vs.size:=λj q=>absurd (z1▸q) (VE j)
  have r:=RcAt.lists (A:=A) (e:=λY=>true) h1 h2 e hu λj q=>absurd q (no j)
  have r':=RcNeAt.lists (A:=A) (e:=λY=>true) h1 h2 e hu λj q=>absurd q (no j)
  rw[z1] at r r'
  rw[decide_eq_true e]
  exact⟨r,r'⟩
 .rw[decide_eq_false e]
  exact⟨RcAt.lists_lengths h1 h2 (bne_iff_ne.mpr e) hu,RcNeAt.lists_lengths h1 h2 (bne_iff_ne.mpr e) hu⟩
theorem CU{x:Nat×Nat}{n:Nat}{K:Bool->Bool}(h1:x.1≤n)(h2:n≤x.2)(hk:RK x K=true):K (decide (n=0))=true:=by
 unfold RK at hk
 cases e:Vy 1 x.1 with
 |true=>rw[e] at hk;rw[decide_eq_false (Wk (Vo (eQ e) h1))];exact hk
 |false=>
  rw[e] at hk
  cases e2:Vn x.2 0 with
  |true=>rw[e2] at hk;rw[decide_eq_true (Nat.le_zero.mp (cX e2▸h2))];exact hk
  |false=>
   rw[e2] at hk
   cases decide (n=0) with
   |true=>exact(Bool.and_eq_true_iff.mp hk).1
   |false=>exact(Bool.and_eq_true_iff.mp hk).2
theorem Gz{a b:Nat}:decide (a=b)=decide (b=a):=decide_eq_decide.mpr ⟨Eq.symm,Eq.symm⟩
theorem lN{a:V}{n:Nat}(h:qS a=some n):a=.strU n:=by
 cases a with
 |strU m=>exact congrArg V.strU (Vl h)
 |_=>exact nn h
theorem Ks{x:Str}(h:cd x≠0)(e:Vn (cd x) ix=true):x.length=0:=by
 rw[et h (show cd x=cd (⟨#[]⟩:Str) from(cX e))];rfl
theorem Kt{a b:V}{v w:Value}{h:H}{K:Bool->Bool}(I:cV g c h s)(hv:VR g c a v)(hw:VR g c b w)(hk:TU a b K=true)(hu:A.units+1<cLine):∃k,K k=true/\NO A s v w k:=by
 have hu0:A.units<cLine:=Nat.lt_of_succ_lt hu
 revert hk
 refine Ge (P:=λq=>q=true->∃k,K k=true/\NO A s v w k) (λp e hk=>?_) λY hk=>(CQ I hv hw hk hu0).elim λk q=>⟨k,q.1,q.2.rc,q.2.ne⟩
 exact cW e λl e1 e=>cW e λl' e2 e=>by
  cases e
  cases eE e1
  cases eE e2
  refine e23 hv λx vs zq45 x1 x2=>?_;clear hv
  cases zq45
  refine e23 hw λy ws zq46 y1 y2=>?_;clear hw
  cases zq46
  refine e22 (Gy (A:=A.in1) I hu x2 y2 hk) λk e hK r=>?_
  cases r.k
  exact⟨_,hK,RcAt.tuples (A:=A) (e:=e) (I.tup _ _ x1) (I.tup _ _ y1) hu0 (λj h1 h2=>r.all j h1 h2),RcNeAt.tuples (A:=A) (e:=e) (I.tup _ _ x1) (I.tup _ _ y1) hu0 (λj h1 h2=>r.all j h1 h2)⟩
theorem Ku{x y:Nat×Nat}{p q:Addr}{vs ws:Array Value}{K:Bool->Bool}(hu:A.units<cLine)(hk:TV x y K=true)(h1:jk s.heap p vs)(h2:jk s.heap q ws)(x1:x.1≤vs.size)(x2:vs.size≤x.2)(y1:y.1≤ws.size)(y2:ws.size≤y.2):
  ∃k,K k=true/\NO A s (.ref p) (.ref q) k:=
 eL hk (λhk=>cT hk λz hk=>
   have z:ws.size=0:=Nat.le_zero.mp (cX z▸y2)
   ⟨_,z▸CU x1 x2 hk,td hu h1.isList h2.isList (.inr z)⟩) λhk=>cT hk λz hk=>
   have z:vs.size=0:=Nat.le_zero.mp (cX z▸x2)
   ⟨_,(Gz.trans (by rw[z]:decide (ws.size=vs.size)=decide (ws.size=0)))▸CU y1 y2 hk,td hu h1.isList h2.isList (.inl z)⟩
theorem CV(W:SW g){a b:V}{v w:Value}{h:H}{K:Bool->Bool}(I:cV g c h s)(hv:VR g c a v)(hw:VR g c b w)(hk:Si g.C a b h K=true)(hu:A.units+1<cLine):∃k,K k=true/\NO A s v w k:=
 Cr hk (λhk=>Kt I hv hw hk hu) (λhk=>kU W I hk hv λx p vs h1 x1 x2 Y hk=>kU W I hk hw λy q ws h2 y1 y2 Y hk=>Ku (Nat.lt_of_succ_lt hu) hk h1 h2 x1 x2 y1 y2) (λhk=>cP hk λn e hk=>kS hk hw λy u h1 Y hk=>cT hk λq hk9=>by
   cases lN e
   refine e23 hv λx t zq47 h2 Y=>?_;clear hv
   cases zq47
   have:(x==y)=false:=beq_eq_false_iff_ne.mpr λe=>h2 (e▸Ks h1 q)
   exact⟨_,this▸hk9,RcAt.str_str _ _ _ _,RcNeAt.str_str _ _ _ _⟩)
noncomputable def yh(x:Str)(v:Value):Bool:=match v with
 |.str y _=>y==x
 |_=>false
theorem CW{x:Str}{t:Tok}(hx:cd x≠0){l:List V}:∀{vs:List Value} {k:Bool},da g c l vs->Sj (cd x) l=some k->(∀y,y∈vs->EqAt A s y (.str x t) (yh x y))/\(vs.any (yh x))=k:=by
 induction l with
 |nil=>intro vs k h e;cases (show vs=[] from h);exact⟨λy h=>absurd h Vv,Vl e⟩
 |cons b r ih=>
  intro vs k h e
  refine e23 h λy ys zq48 hy hys=>?_;clear h
  cases zq48
  exact cW e λj e1 e=>cW e λz e2 e3=>by
   cases gD e1
   refine e24 hy λy u zq49 zq50 y1 Y=>?_;clear hy
   cases zq49
   cases zq50
   cases e3
   refine e02 (ih hys e2) λh1 h2=>?_
   refine⟨λq hq=>?_,?_⟩
   .cases hq with
    |head=>exact ye (RcAt.str_str _ _ _ _) rfl λe=>by cases e;exact beq_self_eq_true _
    |tail _ hq=>exact h1 q hq
   .rw[WC,h2,CO y1]
    refine(?_:((y==x)||z)=dj (y==x) z)
    cases y==x with
    |true=>rfl
    |false=>rfl
theorem CX{σ:Nat->Int}{a:AI}{n:Int}(ha:dO σ a n){l:List AI}:∀{b:List UInt8},BR σ l b->(b.any λx=>decide ((x.toNat:Int)=n))∈Sk a l:=by
 induction l with
 |nil=>intro b h;cases (show b=[] from h);exact Vq
 |cons x r ih=>
  intro b h
  refine e23 h λy t zq51 h1 h2=>?_;clear h
  cases zq51
  rw[WC]
  exact Kr (rh h1 ha) (ih h2)
theorem yi{l:List Bool}{k b:Bool}(h:JF l=some k)(hb:b∈l):b=k:=by
 cases l with
 |nil=>exact nn h
 |cons x r=>
  cases r with
  |nil=>exact(List.mem_singleton.mp hb).trans (Vl h)
  |cons _ _=>exact nn h
theorem qs{σ:Nat->Int}{l:List AI}{b:List UInt8}{k:Bool}(hb:BR σ l b){ns:List Int}:∀{n:Int},uY k l ns=true->n∈ns->(b.any λx=>decide ((x.toNat:Int)=n))=k:=by
 induction ns with
 |nil=>intro n Y h;exact absurd h Vv
 |cons x r ih=>
  intro n h hn
  exact cP h λq e h=>cT h λe2 h=>by
   cases hn with
   |head=>exact(yi e (CX (show dO σ (.c x) x from rfl) hb)).trans (eq_of_beq e2).symm
   |tail _ hn=>exact ih h hn
theorem jp{a:AI}{l:List Int}(h:qj a=some l):a=.st l:=by
 cases a with
 |st m=>exact congrArg AI.st (Vl h)
 |_=>exact nn h
theorem yj{σ:Nat->Int}{a:AI}{n:Int}{l:List AI}{b:List UInt8}{K:Bool->Bool}(ha:dO σ a n)(hb:BR σ l b)(hk:M3 a l K=true):K (b.any λx=>decide ((x.toNat:Int)=n))=true:=
 eL hk (λhk=>cP hk λns e hk=>by
  cases jp e
  exact eL hk (λhk=>cT hk λq hk=>by rw[qs hb q ha];exact hk) λhk=>cT hk λq hk=>by rw[qs hb q ha];exact hk) λhk=>iH hk (CX ha hb)
theorem vJ{a:V}{v:Value}(hv:VR g c a v)(h:xt a=true):v≠.none:=by
 rintro rfl
 cases a with
 |none=>exact ft h
 |tok _=>exact ft h
 |bi _=>exact ft h
 |bool b=>exact Value.noConfusion (show Value.none=.bool b from hv)
 |int a=>obtain⟨_,_,q,_⟩:=hv;exact Value.noConfusion q
 |str a=>obtain⟨_,_,q,_⟩:=hv;exact Value.noConfusion q
 |strU a=>obtain⟨_,_,q,_⟩:=hv;exact Value.noConfusion q
 |bytes a=>obtain⟨_,_,q,_⟩:=hv;exact Value.noConfusion q
 |tup a=>obtain⟨_,_,q,_⟩:=hv;exact Value.noConfusion q
 |ref k=>exact Value.noConfusion (show k<c.n/\Value.none=.ref (c.ρ k) from hv).2
 |wr k=>exact Value.noConfusion (show Value.none=.ref (g.w k) from hv)
 |fn k=>exact Value.noConfusion (show Value.none=.ref (g.fa k) from hv)
 |cls k=>exact Value.noConfusion (show Value.none=.ref (g.ca k) from hv)
theorem CY{a b:V}{v w:Value}{K:Bool->Bool}(hv:VR g c a v)(hw:VR g c b w)(hk:Sm a b K=true):w=.none/\K (v==.none)=true:=
 cT hk λe hk=>by
  cases fO e
  refine⟨hw,eL hk (λhk=>cT hk λe hk=>?_) λhk=>cT hk λe hk=>?_⟩
  .cases fO e;cases (show v=.none from hv);exact hk
  .rw[beq_eq_false_iff_ne.mpr (vJ hv e)];exact hk
theorem CZ(m n:Int):(!decide (m<n))=decide (n≤m):=by
 by_cases q:m<n
 .rw[decide_eq_true q,decide_eq_false (Int.not_le.mpr q)];rfl
 .rw[decide_eq_false q,decide_eq_true (Int.not_lt.mp q)];rfl
structure UT(g:Gb)(c:Cf)(h:H)(A:Around)(E:Value->Shared->Prop)(s:Shared)(K:Bool->Bool)(v w:Value):Prop where
 i:∀Q:Value->Shared->Prop,(∀k s',K k=true->cV g c h s'->Q (.bool k) s')->wpAny g.M A (compareOp .In v w) Q E s
 n:∀Q:Value->Shared->Prop,(∀k s',K k=true->cV g c h s'->Q (.bool (!k)) s')->wpAny g.M A (compareOp .NotIn v w) Q E s
theorem IY(W:SW g){a b:V}{v w:Value}{h:H}{K:Bool->Bool}(I:cV g c h s)(hv:VR g c a v)(hw:VR g c b w)(hk:Sl g.C a b h K=true):UT g c h A E s K v w:=
 eL hk (λhk=>kS hk hv λx t x1 Y hk=>
   Cr hk (λhk=>kT hk hw λl y ws y1 y2 hk=>cP hk λk e hk=>by
    refine e02 (CW (A:=A.in1) (s:=s) (t:=t) x1 y2 e) λhe hm=>?_
    have hs:(ws.toArray.any (yh x))=k:=List.any_toArray.trans hm
    exact⟨λQ hq=>in_tupleAt _ (I.tup _ _ y1) (λy hy=>he y (List.mem_toArray.mp hy)) (hq _ s (hs▸hk) I),λQ hq=>notIn_tupleAt _ (I.tup _ _ y1) (λy hy=>he y (List.mem_toArray.mp hy)) (hq _ s (hs▸hk) I)⟩) (λhk=>kD W I hk hw λl y kvs h1 h2 h3 h4 hk=>⟨λQ hq=>Gw (d:=y) ⟨kvs,h1,h2,h3,h4⟩ x1 λk=>hq _ _ hk (I.tok k),λQ hq=>vI (d:=y) ⟨kvs,h1,h2,h3,h4⟩ x1 λk=>hq _ _ hk (I.tok k)⟩) (λhk=>kL W I hk hw λl y ws y1 y2 Y hk=>cP hk λk e hk=>by
    refine e02 (CW (A:=A.in1) (s:=s) (t:=t) x1 y2 e) λhe hm=>?_
    have hs:(ws.any (yh x))=k:=Array.any_toList.symm.trans hm
    exact⟨λQ hq=>in_listAt _ y1.isList (λy hy=>he y hy.val) (hq _ s (hs▸hk) I),λQ hq=>notIn_listAt _ y1.isList (λy hy=>he y hy.val) (hq _ s (hs▸hk) I)⟩))
  λhk=>kI hk hv λx n t hx hk=>kB hk hw λbs y u hy hk=>cT hk λhb hk=>
   have hb:=lK hx hb
   ⟨λQ hq=>CS hb.1 hb.2 λk=>hq _ _ (yj hx hy hk) (I.tok k),λQ hq=>s9 hb.1 hb.2 λk=>hq _ _ (yj hx hy hk) (I.tok k)⟩
theorem nj{a b:V}{v w:Value}{F:AI->AI->Bool}{P:Value->Value->Prop}(hv:VR g c a v)(hw:VR g c b w)(hk:Be a b F=true)(f:∀x y m n t u,dO g.σ x m->dO g.σ y n->F x y=true->P (.int m t) (.int n u)):P v w:=
 kI (P:=λv=>P v w) hk hv λx m t hx hk=>kI (P:=λw=>P _ w) hk hw λy n u hy hk=>f x y m n t u hx hy hk
theorem Kv(W:SW g){op:CmpOp}{a b:V}{v w:Value}{h:H}{K:Bool->Bool}{Q:Value->Shared->Prop}(I:cV g c h s)(hv:VR g c a v)(hw:VR g c b w)(hk:FH g.C op a b h K=true)(hu:A.units+1<cLine)
  (hq:∀k s',K k=true->cV g c h s'->Q (.bool k) s'):wpAny g.M A (compareOp op v w) Q E s:=by
 cases op with
 |Eq=>exact(CV W I hv hw hk hu).elim λk r=>r.2.1 _ _ _ _ (hq k s r.1 I)
 |NotEq=>exact(CV W I hv hw hk hu).elim λk r=>r.2.2 _ _ _ _ (hq _ s r.1 I)
 |Is=>obtain⟨rfl,h2⟩:=CY hv hw hk;exact is_none (hq _ s h2 I)
 |IsNot=>obtain⟨rfl,h2⟩:=CY (K:=λk=>K (!k)) hv hw hk;exact isNot_none (hq _ s h2 I)
 |In=>exact(IY W I hv hw hk).i Q hq
 |NotIn=>exact(IY W I hv hw hk).n Q λk s' hk I'=>hq _ s' hk I'
 |Lt=>exact nj (P:=λv w=>wpAny g.M A (compareOp .Lt v w) Q E s) hv hw hk λx y m n t u hx hy hk=>PySem.P.lt_int (hq _ s (iH hk (rg hx hy)) I)
 |Gt=>exact nj (P:=λv w=>wpAny g.M A (compareOp .Gt v w) Q E s) hv hw hk λx y m n t u hx hy hk=>PySem.P.gt_int (hq _ s (iH hk (rg hy hx)) I)
 |GtE=>exact nj (P:=λv w=>wpAny g.M A (compareOp .GtE v w) Q E s) hv hw hk λx y m n t u hx hy hk=>PySem.P.ge_int (hq _ s (CZ m n▸iH (K:=λk=>K (!k)) hk (rg hx hy)) I)
 |LtE=>exact nj (P:=λv w=>wpAny g.M A (compareOp .LtE v w) Q E s) hv hw hk λx y m n t u hx hy hk=>PySem.P.le_int (hq _ s (CZ n m▸iH (K:=λk=>K (!k)) hk (rg hy hx)) I)
end
end
section
open PySem.SeqAt
variable{g:Gb}{c c':Cf}
section
variable{A:Around}{s:Shared}{E:Value->Shared->Prop}
theorem truthy_ok(W:SW g){a:V}{v:Value}{h:H}{K:Bool->Bool}{Q:Bool->Shared->Prop}(I:cV g c h s)(hv:VR g c a v)(hk:lF g.C a h K=true)
  (hq:∀k s',K k=true->cV g c h s'->Q k s'):wpAny g.M A (PySem.truthy v) Q E s:=
 Cr hk (λhk=>RT hk hv λb hk=>wpAny_truthy_bool (hq b s hk I)) (λhk=>kU W I hk hv λn x ws h1 h2 h3 h4 hk=>by
   refine wpAny_truthy_list h1.isList (VW (Int.ofNat_le.mpr (Vo h3 h4)) (by decide)) (hq _ _ (eL hk (λhk=>cT hk λe hk=>?_) λhk=>cT hk λe hk=>?_) (I.tok _))
   .rw[show ws.isEmpty=false from decide_eq_false (Wk (Vt (eQ e) h2))];exact hk
   .rw[show ws.isEmpty=true from decide_eq_true (Nat.le_zero.mp (cX e▸h3))];exact hk) (λhk=>cT hk λe hk=>by
  cases fO e
  cases (show v=.none from hv)
  exact truthy_none (hq _ s hk I))
theorem C0{op:UnaryOp}(h:Im op=true):op=.USub:=by
 cases op with
 |USub=>rfl
 |_=>exact ft h
theorem C1{op:UnaryOp}(h:Io op=true):op=.Not:=by
 cases op with
 |Not=>rfl
 |_=>exact ft h
theorem unop_ok(W:SW g){op:UnaryOp}{a:V}{v:Value}{h:H}{K:V->H->Bool}(I:cV g c h s)(hv:VR g c a v)(hk:JG g.C op a h K=true):
  wpAny g.M A (unaryOp op v) (QV g c K) E s:=
 eL hk (λhk=>cT hk λe hk=>C0 e▸kI hk hv λx n t hx hk=>PySem.P.neg_int (.ti I hx.neg hk)) λhk=>cT hk λe hk=>C1 e▸
  not_value (truthy_ok W I hv hk λk s' hk I'=>.at (a:=.bool (!k)) I' nY hk)
end
section
variable{n:Nat}{r:Ev}{A:Around}{fr:Fr}{env:Env}{X:Nat->H->Bool}
end
end
section
open PySem.SeqAt
variable{g:Gb}{c c':Cf}
inductive Kw(g:Gb)(ci:Nat)(inf:gh):Prop
 |mk (x:XD) (mN:Str->Option Value) (c:g.B.get? (g.ca ci)=some (excClassObj x.nm x.q (g.ca ci) x.N x.bs [.type "object"] true x.sn x.sub false x.col x.dd x.k0 x.k1 x.k2 x.k3 x.k5 x.newId)) (n:g.B.Ns x.N mN)
  (ga:mN "__getattribute__"=none) (gr:mN "__getattr__"=none) (sa:mN "__setattr__"=none) (ini:mN "__init__"=some (.ref (g.fa inf.init))/\∃o,g.B.get? (g.fa inf.init)=some o/\o.cls=.type "function") (nw:ObjNewFacts x.newId)
  (at_:∀x,y9 (cd x) inf.atts=true->cd x≠0->mN x=none/\typeLookup (.type "object") x=pure none)
  (me:∀x f,eJ inf.meths (cd x)=some f->cd x≠0->mN x=some (.ref (g.fa f))/\(∃y,typeLookup (.type "object") x=pure y)/\∃o fd,g.B.get? (g.fa f)=some o/\o.cls=.type "function"/\o.data=.func fd)
structure CF(g:Gb):Prop where
 cls:∀{ci:Nat} {inf:gh},g.C.C.get ci=some inf->inf.exc=false->Kw g ci inf
section
variable{n:Nat}{r:Ev}{A:Around}{fr:Fr}{env:Env}{X:Nat->H->Bool}{h:H}{s:Shared}
theorem ia{α:Type}{P:α->Prop}{q:Prop}[Decidable q]{a b:α}(h1:P a)(h2:P b):P (if q then a else b):=by by_cases h:q<;>simp[h,h1,h2]
theorem ou{P:Value->Prop}{x:Nat}(h:P (.builtin "abs")/\P (.builtin "len")/\P (.builtin "max")/\P (.builtin "min")/\P (.builtin "sorted")/\P (.type "bytes")/\P (.type "tuple")/\P (.type "list")/\P (.type "range")/\P (.type "enumerate")/\P (.type "zip")/\P (.type "int")/\P (.type "bytearray")/\P .none):P (jI x):=by
 obtain⟨h1,h2,h3,h4,h5,h6,h7,h8,h9,h10,h11,h12,h13,h14⟩:=h
 unfold jI
 exact ia h1 (ia h2 (ia h3 (ia h4 (ia h5 (ia h6 (ia h7 (ia h8 (ia h9 (ia h10 (ia h11 (ia h12 (ia h13 h14))))))))))))
theorem vK{a:V}{v:Value}(hv:VR g c a v):handedOut v=pure v:=by
 cases a with
 |int _=>obtain⟨_,_,rfl,_⟩:=hv;rfl
 |str _=>obtain⟨_,_,rfl,_⟩:=hv;rfl
 |strU _=>obtain⟨_,_,rfl,_⟩:=hv;rfl
 |bytes _=>obtain⟨_,_,rfl,_⟩:=hv;rfl
 |tup _=>obtain⟨_,_,rfl,_⟩:=hv;rfl
 |ref _=>obtain⟨_,rfl⟩:=hv;rfl
 |bi _=>cases (show v=jI _ from hv);exact ou (P:=λv=>handedOut v=pure v) ⟨rfl,rfl,rfl,rfl,rfl,rfl,rfl,rfl,rfl,rfl,rfl,rfl,rfl,rfl⟩
 |tok _=>exact g.tkh hv
 |none=>cases (show v=.none from hv);rfl
 |bool b=>cases (show v=.bool b from hv);rfl
 |wr k=>cases (show v=.ref (g.w k) from hv);rfl
 |fn k=>cases (show v=.ref (g.fa k) from hv);rfl
 |cls k=>cases (show v=.ref (g.ca k) from hv);rfl
theorem kK{C:Prop}{x:Nat}{l:List Nat}(h:y9 x l=true)(f:x≠0->nI x l=true->C):C:=cT h λe h=>f (en (dP e)) h
theorem tg{C:Prop}{b:Bool}{ci x:Nat}{m:List (Nat×V)}{w:V}(h:qk g.C b ci x m=some w)(f:∀inf,g.C.C.get ci=some inf->y9 x inf.atts=true->inf.exc=b->(b=true->inf.init=0)->eJ m x=some w->C):C:=
 cW h λinf e h=>dK h λh1 h=>dK h λh2 h=>dK h λh3 h=>f inf e h1 (eq_of_beq h2) (λq=>by subst q;exact cX h3) h
theorem kM{o:O}{p:Nat×List (Nat×V)}(h:oI o=some p):o=.inst p.1 p.2:=by
 cases o with
 |inst c m=>cases h;rfl
 |_=>exact nn h
theorem th{o:O}{p:Nat×List (Nat×V)×Bool}(h:oE o=some p):o=.exc p.1 p.2.1 p.2.2:=by
 cases o with
 |exc c m b=>exact congrArg (λp:Nat×List (Nat×V)×Bool=>O.exc p.1 p.2.1 p.2.2) (Vl h)
 |_=>exact nn h
theorem NP{o:O}{p:Nat×List (Nat×V)}(h:oX o=some p):∃b,o=.exc p.1 p.2 b:=by
 cases o with
 |exc c m b=>cases h;exact⟨b,rfl⟩
 |_=>exact nn h
inductive C2(g:Gb)(c:Cf)(s:Shared)(ci:Nat)(m:List (Nat×V))(y:Addr):Prop
 |mk (d:Addr) (mm:Str->Option Value) (h1:s.heap.InstFk y (g.ca ci) mm) (h3:NR g c m mm)
@[elab_as_elim] theorem IZ{P:Value->Prop}{a:V}{v:Value}{p:Nat×List (Nat×V)}(W:SW g)(I:cV g c h s)(e:dq (dY g.C a h) oI=some p)(hv:VR g c a v)(f:∀y,C2 g c s p.1 p.2 y->P (.ref y)):P v:=
 Go W I e hv λo y d e ho=>by
  cases kM e
  refine e24 ho λmm ns h1 h2 h3 Y=>?_;clear ho
  exact f y ⟨d,mm,h1,h3⟩
theorem vL(CL:CF g){ci:Nat}{m:List (Nat×V)}{b:V}{y:Addr}{x:Str}{Q:Value->Shared->Prop}{E:Value->Shared->Prop}(I:cV g c h s)(O:C2 g c s ci m y)(hn:qk g.C false ci (cd x) m=some b)
  (hq:∀w,VR g c b w->Q w {s with toks:=s.toks+1}):wpAny g.M A (getAttr (.ref y) x true) Q E s:=
 tg hn λinf hi hm hex Y ha=>kK hm λhx Y=>by
  obtain⟨d,mm,h1,h3⟩:=O
  obtain⟨xd,mN,hC,hN,g1,g2,g3,g4,g5,g6,g7⟩:=CL.cls hi hex
  refine e02 (g6 x hm hx) λf1 f2=>?_
  refine e12 (h3.get hx ha) λw hw hvr=>?_
  obtain⟨hp,gg,dr,tk,os⟩:=s
  exact load_attrFk (I.base _ _ hC) (hN.keeps I.base) g1 f1 f2 h1 hw (vK hvr) (hq w hvr)
end
end
section
open PySem.SeqAt
variable{g:Gb}{c c':Cf}
section
variable{n:Nat}{r:Ev}{A:Around}{fr:Fr}{env:Env}{X:Nat->H->Bool}{h:H}{s:Shared}{E:Value->Shared->Prop}
theorem np{k:Nat}{h':Heap}{ob:Obj}(I:cV g c h s)(hk:k<c.n)(ho:h'.get? (c.ρ k)=some ob)(hs:VB (c.ρ k) s.heap h'):∃ob,h'.get? (c.δ k)=some ob:=by
 refine e11 ((I.pres _ hk).2) λod hod=>?_
 by_cases q:c.δ k=c.ρ k
 .exact⟨_,q▸ho⟩
 .exact⟨od,(hs.2 _ q).trans hod⟩
theorem lO{B:Around}{x:Str}{a:V}{v:Value}{K:H->Bool}(f:FR g c B fr env)(I:cV g c h s)(hv:VR g c a v)(hk:gy fr (cd x) a h K=true):
  wpAny g.M A (storeName env x v) (QU g c K) E s:=
 cP hk λk k1 hk=>by
  refine e02 (eX f k1) λhx ke=>?_
  cases k with
  |«local»=>
   exact IT I hk λm hm hlt ho hk=>by
    refine e12 ho λmm hns hnr=>?_;clear ho
    refine wpAny_storeName_local ke (f.loc▸hns) (λh' hn' hs=>⟨c,_,.refl c,?_,hk⟩) (show(env.scope.kind==.class||(env.scope.kind==.module&&_))=false by rw[f.kind];rfl)
    rw[f.loc] at hn' hs
    refine e32 (id hn') λob es ep ho r=>?_
    exact I.set (s':={s with heap:=h',toks:=s.toks+1}) hm (λb ob hb Y e=>(hs.2 b hb).trans e) ⟨_,hn',hnr.put hx hv⟩ ⟨_,ho⟩ (np I hlt ho hs) ⟨rfl,rfl,rfl⟩ (λY Y=>rfl)
  |cell=>
   exact cP hk λi hi hk=>x6 I hk λa0 hm hlt ho hk=>by
    refine e12 ho λvo hc hv0=>?_;clear ho
    refine wpAny_storeName_cell f.kind ke (f.cells x i hx (.inl ke) hi).2 hc (λh' hc' hs=>⟨c,_,.refl c,?_,hk⟩)
    refine e12 (id hc') λob ho hd=>?_
    exact I.set (s':={s with heap:=h'}) hm (λb ob hb Y e=>(hs.2 b hb).trans e) ⟨some v,hc',v,rfl,hv⟩ ⟨_,ho⟩ (np I hlt ho hs) ⟨rfl,rfl,rfl⟩ λY q=>ft q
  |_=>exact ft hk
theorem gm{x:Nat}{xs:List Nat}{v:V}{vs:List V}{K:H->Bool}(hk:d9 fr h K (x::xs) (v::vs)=true):gy fr x v h (λh'=>d9 fr h' K xs vs)=true:=hk
theorem ib:∀{ts:List Expr},(∀t∈ts,∀x p,t≠.Starred x p)->assignEach ts env=ts.map λt=>(false,assign t env)
 |[],_=>rfl
 |t::ts,h=>by
  rw[WB,<-ib λt ht=>h t (Vr _ ht)]
  have:=h t Vq
  cases t<;>first|rfl|exact absurd rfl (this _ _)
theorem zP{e:Expr}(h:Bz e=false)(x:Expr)(p:Pos):e≠.Starred x p:=λq=>by subst q;exact tf h
theorem fP{ts:List Expr}(h:eV ts=true):∀t∈ts,∀x p,t≠.Starred x p:=by
 induction ts with
 |nil=>exact λt ht=>absurd ht Vv
 |cons e r ih=>
  exact cT h λh1 h2 t ht x p=>by
   cases ht with
   |head=>exact zP (dP h1) x p
   |tail _ ht=>exact ih h2 t ht x p
theorem jW:∀(ts:List Expr),(ts.map λt=>(false,assign t env)).findIdx? (·.1)=none
 |[]=>rfl
 |t::ts=>by rw[WB,List.findIdx?_cons,jW ts];rfl
theorem kN{C:i5}{b:Bool}(h:iy C b=true):C.quiet=false/\b=true:=eW h .intro
theorem kP{α:Type}{k:Nat}{v:α}:∀{m:List (Nat×α)},eJ m k=none->(nC m k v).length=m.length+1
 |[],_=>rfl
 |(k',w)::r,h=>by
  rw[dZ] at h
  rw[jh]
  cases e:Vn k' k with
  |true=>rw[e] at h;cases h
  |false=>rw[e] at h;exact congrArg (· +1) (kP h)
theorem kQ{α:Type}{k:Nat}{v b:α}:∀{m:List (Nat×α)},eJ m k=some b->(nC m k v).length=m.length
 |(k',w)::r,h=>by
  rw[dZ] at h
  rw[jh]
  cases e:Vn k' k with
  |true=>rfl
  |false=>rw[e] at h;exact congrArg (· +1) (kQ h)
theorem vM{m:List (Nat×V)}{mm:Str->Option Value}{ns:List Str}{x:Str}{a:V}{v:Value}(h3:NR g c m mm)(hx:cd x≠0)(h4:Within mm ns)(h5:ns.length≤m.length):
  ∃ns',Within (λy=>if y=x then some v else mm y) ns'/\ns'.length≤(nC m (cd x) a).length:=by
 cases ha:eJ m (cd x) with
 |none=>exact⟨x::ns,Within.cons x v h4,kP (v:=a) ha▸V1 h5⟩
 |some b=>
  refine⟨ns,λy hy=>?_,kQ (v:=a) ha▸h5⟩
  by_cases q:y=x
  .subst q;exact(h3.get hx ha).elim λw hw=>h4 y (λe=>nn (e.symm.trans hw.1))
  .exact h4 y (λe=>hy ((if_neg q).trans e))
theorem setAtt_ok(CL:CF g){x:Str}{a o:V}{v w:Value}{K:H->Bool}(I:cV g c h s)(hv:VR g c a v)(hw:VR g c o w)(hk:BQ g.C (cd x) a K o h=true):
  wpAny g.M A (setAttr w x v) (QU g c K) E s:=
 kR (P:=λw=>wpAny g.M A (setAttr w x v) (QU g c K) E s) hk hw λk hlt hk=>MP I hk λo p hm e1 ho hk=>cP hk λinf hi hk=>Fq hk λhc hex hlen hk=>kK hc λhx Y=>by
  cases kM e1
  obtain⟨xd,mN,hC,hN,g1,g2,g3,g4,g5,g6,g7⟩:=CL.cls hi (dP hex)
  refine e02 (g6 x hc hx) λf1 f2=>?_
  refine e25 ho λmm ns h1 h2 h3 h4 h5=>?_;clear ho
  have hne:c.ρ k≠g.ca p.1:=λe=>nn ((I.off k hlt _ (.inl rfl)).1.B.symm.trans (e▸hC))
  obtain⟨hp,gg,dr,tk,os⟩:=s
  refine store_attrFk F.store_object (I.base _ _ hC) (hN.keeps I.base) g3 f1 f2 hne h1 (λh' tk' I' hkeep hsame=>?_) h4 (dD (Vo h5 (Vo (eQ hlen) (by decide))))
  refine e11 ((I.pres k hlt).1) λay bJ=>?_
  have b6:=h2 ay bJ
  refine e15 (hsame ay bJ) λaJ bK hcl hdt Y hdi=>?_
  have hd1:=hdi _ b6
  refine e12 (vM (v:=v) (a:=a) h3 hx h4 h5) λns' hw1 hw2=>?_
  refine⟨c,_,.refl c,I.set (o':=.inst p.1 (nC p.2 (cd x) a)) (s':=⟨h',gg,dr,tk',os⟩) hm (λb ob hb1 hb2 e=>hkeep b ob hb1 (λo2 dx e2 e3=>?_) e) ⟨_,ns',I',λo' ho'=>?_,h3.put hx hv,hw1,hw2⟩ ⟨_,bK⟩ ?_ ⟨rfl,rfl,rfl⟩ λY q=>ft q,hk⟩
  .cases (Vl (e2.symm.trans bJ));cases (Vl (b6.symm.trans e3));exact hb2
  .cases (Vl (ho'.symm.trans bK));exact hd1
  .refine e14 I' λoi hoi Y Y hdd=>?_;clear I'
   cases (Vl (hoi.symm.trans bK))
   rcases hdd with⟨q,_⟩|⟨d',q1,q2,⟨od,es,ep,e2,_⟩,_⟩
   .exact nn (q.symm.trans hd1)
   .cases (Vl (hd1.symm.trans q1));exact⟨od,e2⟩
end
end
section
open PySem.SeqAt
variable{g:Gb}{c c':Cf}
section
variable{n:Nat}{r:Ev}{A:Around}{fr:Fr}{env:Env}{X:Nat->H->Bool}{h:H}{s:Shared}{E:Value->Shared->Prop}
structure kf(env:Env)(ts:List Expr)(names:List Str):Prop where
 two:names.length=2
 nms:nU ts names
 loc:∀x,x∈names->env.kindOf x=some .local
 dup:names.eraseDups.length=names.length
theorem jF{e:Expr}{x:Str}(h:g9 e=some x):∃p,e=.Name x p:=by
 cases e with
 |Name y p=>cases h;exact⟨p,rfl⟩
 |_=>exact nn h
theorem C3{q:Str->Pos->Bool}{F:Expr->Option Str}(hF:∀e x,F e=some x->g9 e=some x/\∃p,q x p=true){ts:List Expr}:(ts.filterMap F).length=ts.length->nU ts (ts.filterMap F)/\∀x,x∈ts.filterMap F->∃p,q x p=true:=by
 induction ts with
 |nil=>exact λY=>⟨rfl,λx hx=>absurd hx Vv⟩
 |cons t ts ih=>
  intro hl
  cases e:F t with
  |none=>rw[List.filterMap_cons_none e] at hl;exact absurd hl (VM (WS (List.length_filterMap_le ..)))
  |some x=>
   rw[List.filterMap_cons_some e] at hl⊢
   refine e02 (ih (WG hl)) λh1 h2=>?_
   refine⟨by show g9 t::ts.map g9=some x::_;rw[(hF t x e).1,h1],λy hy=>?_⟩
   cases hy with
   |head=>exact(hF t x e).2
   |tail _ hy=>exact h2 y hy
theorem ow{e:Expr}{es:List Expr}(h:my e=some es):∃k p,e=.Tuple es k p:=by
 cases e with
 |Tuple es k p=>cases h;exact⟨k,p,rfl⟩
 |_=>exact nn h
theorem SS{t e:Expr}(h:my t=none)(ho:T3 t=true):swappedStores [t] e env=pure none:=by
 cases t with
 |Tuple=>exact nn' h
 |List=>exact ft ho
 |_=>rfl
theorem ST{ts:List Expr}{k:Nat}{p:Pos}{e:Expr}(h:my e=none):swappedStores [.Tuple ts k p] e env=pure none:=by
 cases e with
 |Tuple=>exact nn' h
 |_=>rfl
theorem GA{ts:List Expr}{names:List Str}(h:Nt ts=true)(hl:ts.length=2\/ts.length=3)(hn:nU ts names):ts.length=2:=
 hl.elim id λhl=>by
  cases ts with
  |nil=>exact absurd hl (V9 2).symm
  |cons t r=>
   cases names with
   |nil=>exact absurd hn (V8 _ _)
   |cons y ys=>
    have h:du (g9 t) true (λY=>!(Vn r.length 2))=true:=h
    rw[(Wd hn).1] at h
    exact absurd (WG hl) (en (dP h))
theorem yk{α:Type}{P:α->Prop}{q:Prop}[Decidable q]{a b:α}(h1:q->P a)(h2:¬q->P b):P (if q then a else b):=by
 by_cases h:q
 .rw[if_pos h];exact h1 h
 .rw[if_neg h];exact h2 h
theorem SU{a b c d:Nat}(h:¬(a !=b||c !=d)=true):a=b/\c=d:=by
 simpa using h
theorem SX{x y z w:Bool}(h:¬(!(x||y)||z||w)=true):x=true\/y=true:=by
 cases x<;>cases y<;>simp_all
theorem C4{ts vs:List Expr}{k k':Nat}{p p':Pos}(h:dj (!(vs.all (constantsAlone 8))) (vs.all (foldedForSure 8))=true)(hfew:Nt ts=true):
  swappedStores [.Tuple ts k p] (.Tuple vs k' p') env=pure none\/∃names,swappedStores [.Tuple ts k p] (.Tuple vs k' p') env=pure (some names)/\kf env ts names:=by
 refine yk (P:=λt=>t=pure none\/∃names,t=pure (some names)/\kf env ts names) (λY=>.inl rfl) λq1=>?_
 refine yk (P:=λt=>t=pure none\/∃names,t=pure (some names)/\kf env ts names) (λY=>.inl rfl) λY=>?_
 refine yk (P:=λt=>t=pure none\/∃names,t=pure (some names)/\kf env ts names) (λY=>.inl rfl) λq3=>?_
 refine yk (P:=λt=>t=pure none\/∃names,t=pure (some names)/\kf env ts names) (λY=>.inl rfl) λhf=>?_
 rw[eL h dP λh=>absurd h hf]
 have q3:=SU q3
 obtain⟨n1,n2⟩:=C3 (q:=λid pos=>env.kindOf id==some .local&&pos.line==_) (λe x hx=>by
  cases e with
  |Name y py=>
   refine e02 (nR hx) λhc e=>?_
   exact⟨congrArg some e,py,e▸hc⟩
  |_=>exact nn hx) q3.1
 exact .inr ⟨_,rfl,q3.1.trans (GA hfew ((SX q1).imp eq_of_beq eq_of_beq) n1),n1,λx hx=>(n2 x hx).elim λpx hpx=>eq_of_beq (Bool.and_eq_true_iff.mp hpx).1,q3.2⟩
theorem pL{t e:Expr}(h:vj t e=true):swappedStores [t] e env=pure none\/∃ts k p names,t=.Tuple ts k p/\swappedStores [t] e env=pure (some names)/\kf env ts names:=
 iX h λht Y h=>by
  cases e1:my t with
  |none=>exact .inl (SS e1 ht)
  |some ts=>
   refine e21 (ow e1) λk p zq52=>?_
   cases zq52
   cases e2:my e with
   |none=>exact .inl (ST e2)
   |some vs=>
    refine e21 (ow e2) λk' p' zq53=>?_
    cases zq53
    exact cT h λh hf=>(C4 h hf).imp id λq=>q.elim λnames q=>⟨ts,k,p,names,rfl,q⟩
theorem C5(targets:List Expr)(value:Expr)(pos:Pos):exec (.Assign targets value pos) env=(do
  standAt pos
  if<-swapsWithSole targets value pos.line env then do
   evalThenUse value env λv=>assignAll v ((assignEach targets env).map (·.2))
   pure .next
  else do
   let v<-eval value env
   assignStores env v (<-swappedStores targets value env) ((assignEach targets env).map (·.2))):=rfl
theorem NR.asc{m m':List (Nat×V)}{mm:Str->Option Value}(h:NR g c m mm)(e:∀k,eJ m' k=eJ m k):NR g c m' mm:=λx hx=>by rw[e];exact h x hx
theorem stores_ok{nl:Addr}(hl:env.locals=nl)(hk:env.scope.kind=.function){Q:Unit->Shared->Prop}:∀{l:List (Str×Value)} {s:Shared} {mm:Str->Option Value},(∀x,x∈l->env.kindOf x.1=some .local)->s.heap.Ns nl mm->
  (∀h' tk,h'.Ns nl (l.foldl (λmm x=>λy=>if y=x.1 then some x.2 else mm y) mm)->VB nl s.heap h'->Q () {s with heap:=h',toks:=tk})->
  wpAny g.M A (assignInOrder (l.map λx=>bindName env x.1) (l.map (·.2))) Q E s
 |[],s,mm,_,hn,hq=>wpAny_pure (hq s.heap s.toks hn (.refl ..))
 |(x,v)::l,s,mm,hx,hn,hq=>by
  show wpAny g.M A (do holding (l.map (·.2)) (bindName env x v);assignInOrder (l.map λx=>bindName env x.1) (l.map (·.2))) _ _ s
  refine wpAny_bind (wpAny_holding (wpAny_bindName (wpAny_storeName_local (hx (x,v) Vq) (hl▸hn) (λh' hn' hs=>?_) ?_)))
  .rw[hl] at hn' hs
   exact stores_ok hl hk (l:=l) (s:={s with heap:=h',toks:=s.toks+1}) (λy hy=>hx y (Vr _ hy)) hn' λh'' tk a b=>hq h'' tk a (hs.trans b)
  .refine(?_:(env.scope.kind==.class||(env.scope.kind==.module&&_))=false)
   rw[hk];rfl
theorem iM{C:Prop}{x:Str}{v:V}{K:H->Bool}(f:FR g c A fr env)(ke:env.kindOf x=some .local)(hk:gy fr (cd x) v h K=true)(q:∀m,cd x≠0->h.get fr.ns=some (.ns m)->K (h.set fr.ns (.ns (nC m (cd x) v)))=true->C):C:=
 cP hk λk k1 hk=>by
  refine e02 (eX f k1) λhx k2=>?_
  cases Vl (ke.symm.trans k2)
  exact cP hk λm e hk=>cW e λo e1 e2=>q m hx (e1.trans (congrArg some (mD e2))) hk
theorem SY{x y:Str}(h:[x,y].eraseDups.length=[x,y].length):x≠y:=by
 rintro rfl
 simp[List.eraseDups_cons] at h
end
end
section
open PySem.SeqAt
variable{g:Gb}{c c':Cf}
section
variable{n:Nat}{r q:Ev}{A:Around}{fr:Fr}{env:Env}{X:Nat->H->Bool}{h:H}{s:Shared}
theorem yl{t e:Expr}{line:Nat}(h:RM e=true)(hc:q8 e=false):swapsWithSole [t] e line env=pure false:=by
 cases e with
 |ListComp=>exact tf hc
 |SetComp=>exact ft h
 |DictComp=>exact ft h
 |_=>rfl
theorem zQ{t e:Expr}(hs:vj t e=true)(v:Value):assignAll v ((assignEach [t] env).map (·.2))=assign t env v:=cT hs λh Y=>by
 cases t with
 |Starred=>exact ft h
 |_=>rfl
theorem GB{e:Expr}{line:Nat}(h:RM e=true)(hc:q8 e=false):swapsWith e none line env=pure false:=by
 cases e with
 |ListComp=>exact tf hc
 |SetComp=>exact ft h
 |DictComp=>exact ft h
 |_=>rfl
theorem ym{K:H->Bool}{K':gf->H->Bool}{fl:Flow}{aa:Shared}(hK:∀h,K h=true->K' .nx h=true)(x:QF g c (λf h=>match f with|.nx=>K h|_=>false) fl aa):QF g c K' fl aa:=by
 cases fl with
 |next=>obtain⟨ao,aq,ak,am,hk⟩:=x;exact⟨ao,aq,ak,am,hK _ hk⟩
 |ret v=>obtain⟨a,ao,aq,ak,am,_,hk⟩:=x;cases hk
 |brk=>exact x
 |cont=>exact x
end
end
section
open PySem.SeqAt
variable{g:Gb}{c c':Cf}
theorem C6{h:H}{s:Shared}(I:cV g c h s):∃c',Kl g c h (.cell none) {cls:=.type "cell",data:=.cell none} s false c':=
 I.push1 false rfl (λh' ga=>⟨none,⟨_,ga,rfl⟩,rfl⟩) ft
theorem Kx{h:H}{s:Shared}{cl:Value}(fl:Bool)(I:cV g c h s):∃c',Kl g c h (.ns []) {cls:=cl,data:=.dict #[]} s fl c':=
 I.push1 fl rfl (λh' ga=>⟨_,⟨_,_,_,ga,rfl,λY q=>absurd q (Array.not_mem_empty _),λY=>rfl⟩,NR.nil⟩) λY=>rfl
section
variable{A:Around}{E:Value->Shared->Prop}
theorem vN{k:NameKind}(h:(k==.cell)=false):gk k=false:=by
 cases k with
 |cell=>exact tf h
 |_=>rfl
theorem CR.cons{cells:List (Str×Addr)}{cs:List (Nat×Nat)}{D:Str->Prop}{name:Str}{i:Nat}{a:Addr}(h:CR c cells cs D)(hi:i<c.n)(e:c.ρ i=a):CR c ((name,a)::cells) ((cd name,i)::cs) (λx=>D x\/x=name):=λx j hx hd hj=>by
 rw[dZ] at hj
 by_cases q:x=name
 .subst q
  rw[VT] at hj
  cases hj
  exact⟨hi,by rw[VJ,beq_self_eq_true,e]⟩
 .rw[dg λe=>q (et hx e.symm)] at hj
  rw[VJ,beq_eq_false_iff_ne.mpr q]
  exact h x j hx (hd.resolve_right q) hj
theorem CR.imp{cells:List (Str×Addr)}{cs:List (Nat×Nat)}{D D':Str->Prop}(h:CR c cells cs D)(k:∀x,D' x->D x):CR c cells cs D':=λx i hx hd=>h x i hx (k x hd)
theorem tj(f:Str×NameKind->List (Str×Addr)->Sem (ForInStep (List (Str×Addr))))
  (hf:∀name kind cells,f (name,kind) cells=if kind==.cell then(do let a<-alloc {cls:=.type "cell",data:=.cell none};pure (.yield ((name,a)::cells))) else pure (.yield cells))
  (names:List (Str×NameKind)):∀(cells:List (Str×Addr)) (cs:List (Nat×Nat)) (c:Cf) (h:H) (s:Shared) (D:Str->Prop) (Q:List (Str×Addr)->Shared->Prop),cV g c h s->CR c cells cs D->
   (∀c' h' cells' cs' s',dA c c'->cV g c' h' s'->CR c' cells' cs' (λx=>D x\/(x,NameKind.cell)∈names)->lG (dH names) h cs=(h',cs')->(∀b o,s.heap.get? b=some o->s'.heap.get? b=some o)->Q cells' s')->wpAny g.M A (forIn names cells f) Q E s:=by
 induction names with
 |nil=>exact λcells cs c h s D Q I hc hq=>wpAny_pure (hq c h cells cs s (.refl c) I (hc.imp λx hd=>hd.resolve_right Vv) rfl λY Y e=>e)
 |cons p r ih=>
  obtain⟨name,kind⟩:=p
  intro cells cs c h s D Q I hc hq
  rw[VZ,hf]
  cases hk:kind==.cell with
  |true=>
   cases eq_of_beq hk
   refine e11 (C6 I) λag N=>?_
   refine wpAny_bind (wpAny_bind (wpAny_alloc (wpAny_pure (ih _ _ ag _ _ _ Q N.i ((hc.ext N.e).cons N.l N.r) λc' h' cells' cs' s' e' I' hc' hp kp=>hq c' h' cells' cs' s' (N.e.trans e') I' (hc'.imp λx hd=>?_) hp λb o e=>kp b o (Vp _ e)))))
   exact hd.elim (λq=>.inl (.inl q)) λq=>(List.mem_cons.mp q).elim (λq=>.inl (.inr (congrArg WP q))) .inr
  |false=>
   refine wpAny_bind (wpAny_pure (ih cells cs c h s D Q I hc λc' h' cells' cs' s' e' I' hc' hp kp=>hq c' h' cells' cs' s' e' I' (hc'.imp λx hd=>hd.imp id λq=>(List.mem_cons.mp q).resolve_left λq=>?_) ?_ kp))
   .cases q;exact tf ((beq_self_eq_true _).symm.trans hk)
   .refine(?_:db (gk kind) _ _=_)
    rw[vN hk];exact hp
theorem vO{B:Around}{fr:Fr}{env:Env}(f:Str×Value->PUnit->Sem (ForInStep PUnit))(hf:∀n v u,f (n,v) u=(do storeName env n v;pure (.yield ⟨⟩))){binds:List (Str×Value)}:
  ∀{vs:List V} {c:Cf} {h:H} {s:Shared} {K:H->Bool},FR g c B fr env->cV g c h s->da g c vs (binds.map (·.2))->d9 fr h K (binds.map λx=>cd x.1) vs=true->
   wpAny g.M A (forIn binds ⟨⟩ f) (λY s'=>QU g c K () s') E s:=by
 induction binds with
 |nil=>
  intro vs c h s K fr' I hv hk
  exact cT hk λY hk=>wpAny_pure ⟨c,h,.refl c,I,hk⟩
 |cons p r ih=>
  obtain⟨n,v⟩:=p
  intro vs c h s K fr' I hv hk
  cases vs with
  |nil=>exact ft hk
  |cons a as=>
   refine e23 hv λx xs q h1 h2=>?_;clear hv
   cases q
   rw[VZ,hf]
   exact wpAny_bind (wpAny_bind (wpAny_mono (lO fr' I h1 (gm hk)) (λY aa qq=>qq.elim λag ae ac af hK=>wpAny_pure (wpAny_mono (ih (fr'.ext ac) af (h2.ext ac) hK) (λY Y=>QU.mono ac) λY Y x=>x)) λY Y x=>x))
end
end
section
open PySem.SeqAt
variable{g:Gb}{c c':Cf}
noncomputable def zR(g:Gb)(i:Nat)(fi:gx)(fd:FuncData)(o:Obj):Prop:=∀{c:Cf} {h:H} {s:Shared} {args full:List V} {vs:List Value},cV g c h s->da g c args vs->fy fi.params fi.dfl args=some full->
  ∃binds:List (Str×Value),BindsTo s fd ⟨vs,[]⟩ binds/\binds.map (λx=>cd x.1)=fi.params/\da g c full (binds.map (·.2))
structure NQ(g:Gb)(i:Nat)(fi:gx)(fd:FuncData)(o:Obj):Prop where
 at_:g.B.get? (g.fa i)=some o
 cls:o.cls=.type "function"
 data:o.data=.func fd
 body:fd.body=.stmts fi.body
 names:dH fd.scope.names=fi.ks
 kind:fd.scope.kind=.function
 co:fd.scope.isCoroutine=false
 gen:fd.scope.isGenerator=false
 glob:fd.globals=mainGlobals
 clo:fd.closure=[]
 bi:fd.builtins=0
 code:g.B.CodeRec fd.code fd.qualname
 nocls:fd.scope.names.lookup ("__class__":Str)≠some .free
 lam:fi.lam=true->fd.code=.ref g.lc/\(fd.qualname++".<locals>.")++"<lambda>"=g.lq
 nodbg:fd.scope.names.lookup ("__debug__":Str)=none
 nocd:fd.scope.names.lookup ("__classdict__":Str)≠some .free
 bind:zR g i fi fd o
structure FF(g:Gb):Prop where
 fn:∀{i:Nat} {fi:gx},g.C.F.get i=some fi->∃fd o,NQ g i fi fd o
 lim:g.B.NoLimit
section
variable{n:Nat}{r:Ev}{A:Around}{X:Nat->H->Bool}{h:H}{s:Shared}
noncomputable def mF(scope:Scope)(locals:Addr)(cells:List (Str×Addr))(qual:Str)(func:Option Addr)(code:Value)(around:Option Env):Env:=match around with
 |some outer=>{scope,locals,globals:=mainGlobals,cells,qual,func,code:=outer.code,frame:=outer.frame,builtins:=outer.builtins}
 |none=>{scope,locals,globals:=mainGlobals,cells,qual,func,code,frame:=some locals,builtins:=0}
structure vP(g:Gb)(c:Cf)(h:H)(scope:Scope)(lm:Bool)(qual:Str)(func:Option Addr)(code:Value)(around:Option Env)(kp:Prop)(fr:Fr)(env:Env)(c':Cf)(h':H)(s':Shared):Prop where
 e:dA c c'
 i:cV g c' h' s'
 f:∀A',(∃e0 l,A'.frames=some (e0::l)/\env.frame=e0.frame)->FR g c' A' fr env
 ns:fr.ns=h.length
 lm:fr.lam=lm
 ks:fr.ks=dH scope.names
 env:∃cells,env=mF scope (c'.ρ fr.ns) cells qual func code around
 N:c'.N fr.ns↔around=none
 kp:kp
theorem frame_ok{E:Value->Shared->Prop}{scope:Scope}{binds:List (Str×Value)}{qual:Str}{func:Option Addr}{code:Value}{vs:List V}{around:Option Env}{clo:List (Str×Addr)}{cs0:List (Nat×Nat)}{lm:Bool}{K:Fr->H->Bool}{Q:Env->Shared->Prop}
  (hk:scope.kind=.function) (h1:scope.names.lookup ("__class__":Str)≠some .free) (h2:scope.names.lookup ("__debug__":Str)=none) (h3:scope.names.lookup ("__classdict__":Str)≠some .free)
  (hb0:∀o,around=some o->o.builtins=0) (hlm:lm=true->∀L cells,(mF scope L cells qual func code around).code=.ref g.lc/\qual++"<lambda>"=g.lq) (hc0:CR c clo cs0 λx=>scope.names.lookup x=some .free)
  (I:cV g c h s) (hv:da g c vs (binds.map (·.2))) (hb:Prod.rec (motive:=λY=>Bool) (λfr h'=>d9 fr h' (K fr) (binds.map λx=>cd x.1) vs) (eA lm (dH scope.names) cs0 h)=true)
  (hQ:∀fr env c' h' s',vP g c h scope lm qual func code around (binds=[]->∀b o,s.heap.get? b=some o->s'.heap.get? b=some o) fr env c' h' s'->K fr h'=true->Q env s'):
  wpAny g.M A (newFunctionEnv scope mainGlobals clo binds qual func code around 0) Q E s:=by
 delta newFunctionEnv
 refine wpAny_bind (wpAny_alloc ?_)
 refine e11 (Kx (cl:=.type (if around.isSome=true then"dict" else"frame")) (!around.isSome) I) λag N=>?_
 refine wpAny_bind (tj _ (λname kind cells=>by cases hkc:kind==NameKind.cell<;>simp[hkc]) scope.names clo cs0 ag _ _ (λx=>scope.names.lookup x=some .free) _ N.i (hc0.ext N.e) λao aq cells cs aj ak am hc hp kp=>?_)
 have nN:around=none↔(!around.isSome)=true:=by
  cases around with
  |none=>exact⟨λY=>rfl,λY=>rfl⟩
  |some o=>exact⟨λq=>nn' q,λq=>ft q⟩
 have nn:ao.N h.length↔around=none:=⟨λq=>nN.mpr (N.n.mp (ak.M _ N.l q)),λq=>ak.N _ (N.n.mpr (nN.mp q))⟩
 have hb:Prod.rec (motive:=λY=>Bool) (λfr h'=>d9 fr h' (K fr) (binds.map λx=>cd x.1) vs) (Prod.rec (motive:=λY=>Fr×H) (λh' cs=>(⟨dH scope.names,h.length,cs,lm⟩,h')) (lG (dH scope.names) (h.push (.ns [])) cs0))=true:=hb
 rw[hp] at hb
 have l2:=Vt N.l ak.n
 have r2:ao.ρ h.length=s.heap.objs.size:=(ak.ρ _ N.l).trans N.r
 have hfr:∀A',(∃e0 l,A'.frames=some (e0::l)/\(mF scope s.heap.objs.size cells qual func code around).frame=e0.frame)->
   FR g ao A' ⟨dH scope.names,h.length,cs,lm⟩ (mF scope s.heap.objs.size cells qual func code around):=λA' hl=>by
  have hlm:=λq=>hlm q s.heap.objs.size cells
  have hbi:(mF scope s.heap.objs.size cells qual func code around).builtins=0:=by
   cases around with
   |none=>rfl
   |some o=>exact hb0 o rfl
  have hin:∀env:Env,env.scope=scope->interactive env=false:=λenv e=>by
   refine(?_:(env.scope.kind==.module&&_)=false)
   rw[e,hk];rfl
  cases around<;>exact⟨hk,rfl,l2,r2.symm,λx i hx hd hi=>hc x i hx (hd.elim (λq=>.inr (mem_of_lookup q)) .inl) hi,rfl,hbi,h1,hin _ rfl,h2,h3,hl,hlm⟩
 have fin:∀env,env=mF scope s.heap.objs.size cells qual func code around->wpAny g.M A (do (forIn binds PUnit.unit λx Y=>(do storeName env x.1 x.2;pure (ForInStep.yield PUnit.unit)));pure env) Q E aj:=λenv he=>by
  subst he
  have done:∀aA aw av,dA ao aA->cV g aA aw av->(binds=[]->∀b o,s.heap.get? b=some o->av.heap.get? b=some o)->K ⟨dH scope.names,h.length,cs,lm⟩ aw=true->Q (mF scope s.heap.objs.size cells qual func code around) av:=λaA aw av au az hk hK=>
   hQ _ _ aA aw av ⟨N.e.trans (ak.trans au),az,λA' hl=>(hfr A' hl).ext au,rfl,rfl,rfl,⟨cells,by rw[au.ρ _ l2,r2]⟩,⟨λq=>nn.mp (au.M _ l2 q),λq=>au.N _ (nn.mpr q)⟩,hk⟩ hK
  cases binds with
  |nil=>
   cases vs with
   |cons _ _=>exact ft hb
   |nil=>exact wpAny_bind (wpAny_pure (wpAny_pure (done ao aq aj (.refl _) am (λY b o e=>kp b o (Vp _ e)) hb)))
  |cons p binds=>
   exact wpAny_bind (wpAny_mono (vO _ (λY Y Y=>rfl) (hfr {A with frames:=some [mF scope s.heap.objs.size cells qual func code around]} ⟨_,_,rfl,rfl⟩) am (hv.ext (N.e.trans ak)) hb) (λY av qq=>qq.elim λaA aw au az hK=>wpAny_pure (done aA aw av au az (λq=>absurd q (V8 _ _)) hK)) λY Y x=>x)
 cases around<;>exact fin _ rfl
theorem vP.within{n:Nat}{scope:Scope}{lm:Bool}{qual:Str}{func:Option Addr}{code:Value}{kp:Prop}{fr:Fr}{env:Env}{h':H}{s':Shared}(x:vP g c h scope lm qual func code none kp fr env c' h' s')(oa:dz g c (n+1) A):
  FR g c' (A.deeper env) fr env/\c'.N fr.ns/\∀ao,dA c ao->fr.ns<ao.n->ao.N fr.ns->env.locals=ao.ρ fr.ns->dz g ao n (A.deeper env):=by
 refine e12 oa.fr λl hl hfl=>?_
 have hf:env.frame=some env.locals:=x.env.elim λcells e=>by rw[e];rfl
 have hfs:(A.deeper env).frames=some (env::l):=by show A.frames.map (env::·)=some (env::l);rw[hl];rfl
 have f:=x.f (A.deeper env) ⟨env,l,hfs,rfl⟩
 exact⟨f,x.N.mpr rfl,λao ak h1 h2 h3=>(oa.up ak).step (VA _) (V4 (by decide:3≤16) _) rfl ⟨env::l,hfs,by rw[f.kind];exact nofun,⟨env.locals,hf,.inl ⟨fr.ns,h1,h2,h3⟩⟩,hfl.ext ak⟩⟩
end
end
section
open PySem.SeqAt
variable{g:Gb}{c c':Cf}
def fB(g:Gb)(f:Value)(s:Shared):Prop:=∀(A:Around) (E:Value->Shared->Prop) (Q:Keeper->Shared->Prop),(∀k,Q k s)->wpAny g.M A (keeperOf f) Q E s
section
variable{A:Around}{E:Value->Shared->Prop}{s:Shared}
theorem ec{id:String}:fB g (.builtin id) s:=λY Y Y h=>by unfold keeperOf;exact wpAny_pure (h _)
theorem dS{id:String}:fB g (.type id) s:=λY Y Y h=>by unfold keeperOf;exact wpAny_pure (h _)
theorem tm:fB g .none s:=λY Y Y h=>by unfold keeperOf;exact wpAny_pure (h _)
theorem lP{a:Addr}{o:Obj}{fd:FuncData}(ho:s.heap.get? a=some o)(hd:o.data=.func fd):fB g (.ref a) s:=λY Y Y h=>by
 unfold keeperOf
 refine wpAny_bind (wpAny_load ho ?_)
 rw[hd];exact wpAny_pure (h _)
theorem gv:∀{es:List Expr} {env:Env} {pos:Pos},(∀e∈es,∀x p,e≠.Starred x p)->(backTo pos (starEach es env)).any (·.1)=false
 |[],_,_,_=>rfl
 |e::r,env,pos,h=>by
  rw[hO (h e Vq)]
  exact gv (es:=r) (env:=env) (pos:=pos) λe he=>h e (Vr _ he)
end
end
section
open AutoSeq1 (wpAny_loadPart')
variable{g:Gb}{c c':Cf}
theorem tn(b:Array UInt8)(t:Tok):
  Meets (Builtin.«enumerate.__new__» ⟨[.type "enumerate",.bytes b t],[]⟩) (λY R s=>
   R (.ok (.ret (.ref (s.heap.push {cls:=.type "bytes_iterator",data:=.fields #[.bytes b t,.int 0 0]}).objs.size)))
    {s with heap:=(s.heap.push {cls:=.type "bytes_iterator",data:=.fields #[.bytes b t,.int 0 0]}).push {cls:=.type "enumerate",data:=.fields #[.none,.bool false,.ref s.heap.objs.size,rawInt 0,.none,.none]}}):=
 .of_wp λprog w A R s h=>by
  obtain⟨hp,gg,d,tk,os⟩:=s
  have hsub:=sub_enumerate
  wp_walk
  have all:∀{α:Type} {a:α} {M:Model} {A:Around} {Q:α->Shared->Prop} {E:Value->Shared->Prop} {s:Shared},(∀a,Q a s)->PySem.wpAny M A (pure a) Q E s:=λh=>PySem.wpAny_pure (h _)
  refine wpAny_stack_any λst=>all λb=>?_
  cases b
  .wp_walk using KBw.pyIter_bytes
   exact⟨_,rfl,h⟩
  .wp_walk using KBw.pyIter_bytes
   exact⟨_,rfl,h⟩
section
variable{A:Around}{E:Value->Shared->Prop}{s:Shared}
theorem vQ{b:Array UInt8}{t:Tok}{Q:Value->Shared->Prop}
  (h:∀h',IsEnum h' (s.heap.objs.size+1) s.heap.objs.size 0 .none->KBw.IsBytesIter h' s.heap.objs.size b t 0->(∀x o,s.heap.get? x=some o->h'.get? x=some o)->Q (.ref (s.heap.objs.size+1)) {s with heap:=h'}):
  wpAny g.M A (call (.type "enumerate") [.bytes b t]) Q E s:=by
 refine callType_new F.called_enumerate (by decide) (F.typeCall_enumerate_1 _) (F.newCall_enumerate_1 _) (λobj=>F.args_object_init_2 obj _) F.entry_enumerate_new (tn b t) ?_
 have hz:(s.heap.push {cls:=.type "bytes_iterator",data:=.fields #[.bytes b t,.int 0 0]}).objs.size=s.heap.objs.size+1:=Wn ..
 refine(?_:_/\_)
 rw[hz]
 have he:IsEnum ((s.heap.push {cls:=.type "bytes_iterator",data:=.fields #[.bytes b t,.int 0 0]}).push
   {cls:=.type "enumerate",data:=.fields #[.none,.bool false,.ref s.heap.objs.size,rawInt 0,.none,.none]}) (s.heap.objs.size+1) s.heap.objs.size 0 .none:=by
  have:=Vx (s.heap.push {cls:=.type "bytes_iterator",data:=.fields #[.bytes b t,.int 0 0]})
   (o:={cls:=.type "enumerate",data:=.fields #[.none,.bool false,.ref s.heap.objs.size,rawInt 0,.none,.none]}) rfl
  rw[hz] at this;exact this
 exact⟨⟨_,he,rfl⟩,h _ he ⟨_,Vp _ (Vx _ rfl),rfl,rfl⟩ λx o e=>Vp _ (Vp _ e)⟩
end
noncomputable abbrev RU(h:Heap)(l1:Addr):Heap:=h.push {cls:=.type "tuple_iterator",data:=.fields #[.ref l1,.int 0 0]}
noncomputable abbrev RV(h:Heap)(l1 l2:Addr):Heap:=(RU h l1).push {cls:=.type "list_iterator",data:=.fields #[.ref l2,.int 0 0]}
noncomputable abbrev RW(h:Heap)(l1 l2:Addr):Heap:=(RV h l1 l2).push {cls:=.type "tuple",data:=.seq #[.ref h.objs.size,.ref (RU h l1).objs.size]}
noncomputable abbrev RX(h:Heap)(l1 l2:Addr):Heap:=(RW h l1 l2).push {cls:=.type "tuple",data:=.seq #[.none,.none]}
noncomputable abbrev MQ(h:Heap)(l1 l2:Addr):Heap:=(RX h l1 l2).push {cls:=.type "zip",data:=.fields #[.none,.bool false,.bool false,.ref (RV h l1 l2).objs.size,.ref (RW h l1 l2).objs.size]}
theorem vR(l1 l2:Addr)(xs ys:Array Value):
  Meets (Builtin.«zip.__new__» ⟨[.type "zip",.ref l1,.ref l2],[]⟩) (λY R s=>s.heap.IsTuple l1 xs/\s.heap.IsList l2 ys/\
   R (.ok (.ret (.ref (RX s.heap l1 l2).objs.size))) {s with heap:=MQ s.heap l1 l2}):=
 .of_wp λprog w A R s h=>by
  obtain⟨hp,gg,d,tk,os⟩:=s;obtain⟨hl1,hl2,h⟩:=h
  have hsub:=sub_zip
  have hL1:Heap.IsTuple (Shared.heap ⟨hp,gg,d,tk,os⟩) l1 xs:=hl1
  have hL2:Heap.IsList (Shared.heap ⟨hp.push {cls:=.type "tuple_iterator",data:=.fields #[.ref l1,.int 0 0]},gg,d,tk,os⟩) l2 ys:=Heap.IsList.push hl2 _
  wp_walk using wpAny_pyIter_tuple hL1,wpAny_pyIter_list hL2
  exact⟨_,rfl,h⟩
section
variable{A:Around}{E:Value->Shared->Prop}{s:Shared}
theorem zS{l1 l2:Addr}{xs ys:Array Value}{Q:Value->Shared->Prop}(hl1:s.heap.IsTuple l1 xs)(hl2:s.heap.IsList l2 ys)
  (h:∀h',IsZip h' (s.heap.objs.size+4) (s.heap.objs.size+2) (s.heap.objs.size+3) .none->IsPair h' (s.heap.objs.size+2) (.ref s.heap.objs.size) (.ref (s.heap.objs.size+1))->
   IsPair h' (s.heap.objs.size+3) .none .none->h'.IsTupleIter s.heap.objs.size l1 0->h'.IsListIter (s.heap.objs.size+1) l2 0->
   (∀c o,s.heap.get? c=some o->h'.get? c=some o)->Q (.ref (s.heap.objs.size+4)) {s with heap:=h'}):
  wpAny g.M A (call (.type "zip") [.ref l1,.ref l2]) Q E s:=by
 refine callType_new F.called_zip (by decide) (F.typeCall_zip_2 _ _) (F.newCall_zip_2 _ _) (λobj=>F.args_object_init_3 obj _ _) F.entry_zip_new
  (vR l1 l2 xs ys) ⟨hl1,hl2,?_⟩
 have z1:(RU s.heap l1).objs.size=s.heap.objs.size+1:=Wn ..
 have z2:(RV s.heap l1 l2).objs.size=s.heap.objs.size+2:=by rw[Wn,z1]
 have z3:(RW s.heap l1 l2).objs.size=s.heap.objs.size+3:=by rw[Wn,z2]
 have z4:(RX s.heap l1 l2).objs.size=s.heap.objs.size+4:=by rw[Wn,z3]
 have g5:(MQ s.heap l1 l2).get? (RX s.heap l1 l2).objs.size=some _:=Vx _ rfl
 have g4:(MQ s.heap l1 l2).get? (RW s.heap l1 l2).objs.size=some _:=Vp _ (Vx _ rfl)
 have g3:(MQ s.heap l1 l2).get? (RV s.heap l1 l2).objs.size=some _:=Vp _ (Vp _ (Vx _ rfl))
 have g2:(MQ s.heap l1 l2).get? (RU s.heap l1).objs.size=some _:=Vp _ (Vp _ (Vp _ (Vx _ rfl)))
 have g1:(MQ s.heap l1 l2).get? s.heap.objs.size=some _:=Vp _ (Vp _ (Vp _ (Vp _ (Vx _ rfl))))
 refine(?_:_/\_)
 rw[z2,z3,z4] at g5
 rw[z1,z2] at g3
 rw[z3] at g4
 rw[z1] at g2
 rw[z4]
 exact⟨⟨_,g5,rfl⟩,h _ g5 g3 g4 ⟨_,g1,rfl,rfl⟩ ⟨_,g2,rfl,rfl⟩ λc o x=>
  Vp _ (Vp _ (Vp _ (Vp _ (Vp _ x))))⟩
inductive QI(g:Gb)(c:Cf)(K:It->H->Bool)(itv:Value)(s:Shared):Prop
 |mk (it:It) (c':Cf) (h:H) (e:dA c c') (i:cV g c' h s) (r:pD g c' s.heap it itv) (k:K it h=true)
theorem QI.mono(e:dA c c'){K:It->H->Bool}{v:Value}{s:Shared}(q:QI g c' K v s):QI g c K v s:=q.rec λa c2 h e2 i r k=>⟨a,c2,h,e.trans e2,i,r,k⟩
theorem GC(W:SW g){a:V}{v:Value}{h:H}{it:It}{K:It->H->Bool}(I:cV g c h s)(hv:VR g c a v)(hi:mR g.C a h=some it)(hK:K it h=true):wpAny g.M A (pyIter v) (QI g c K) E s:=by
 have fa:=I.free (VC (VA s.heap.objs.size))
 have zQ:∀b,b∈[s.heap.objs.size]->hH g c b:=λb hb=>List.mem_singleton.mp hb▸fa
 refine fN hi (λe=>cW e λl e e2=>?_) λhi=>fN hi (λe=>cW e λl e e2=>?_) λhi=>fN hi (λe=>cW e λl e e2=>?_) λe=>cW e λl e e2=>dK e2 λh0 e2=>?_
 .cases eE e
  refine e23 hv λt vs zq54 hT hr=>?_;clear hv
  cases zq54
  exact wpAny_pyIter_tuple (I.tup _ _ hT) ⟨.vals _,c,h,.refl c,I.alloc _,.mk _ _ _ zQ (.vals _ _ (.tup t vs 0 ⟨_,Vx _ rfl,rfl,rfl⟩ hT hr)),Vl e2▸hK⟩
 .cases d7 e
  refine e22 hv λb t zq55 hr=>?_;clear hv
  cases zq55
  exact KBw.pyIter_bytes ⟨.vals _,c,h,.refl c,I.alloc _,.mk _ _ _ zQ (.vals _ _ (.byt b t 0 _ ⟨_,Vx _ rfl,rfl,rfl⟩ rfl hr)),Vl e2▸hK⟩
 .have hp:gS a=true:=cW e λo e Y=>iJ e
  refine Go (P:=λv=>VR g c a v->wpAny g.M A (pyIter v) (QI g c K) E s) W I e hv (λo x d e ho hv=>?_) hv
  cases gE e
  refine e13 ho λvs h1 h2 Y=>?_;clear ho
  exact wpAny_pyIter_list h1.isList ⟨.lst a 0,c,h,.refl c,I.alloc _,.mk _ _ _ zQ (.lst a 0 _ x hp hv ⟨_,Vx _ rfl,rfl,rfl⟩),Vl e2▸hK⟩
 .refine Go (P:=λv=>wpAny g.M A (pyIter v) (QI g c K) E s) W I e hv λo x d e ho=>?_
  cases s4 e
  refine e14 ho λkvs h1 h2 h3 Y=>?_;clear ho
  cases l with
  |cons _ _=>exact ft h0
  |nil=>
   cases (show kvs=[] from h3)
   refine e11 h1.dictAt λep hD=>?_
   exact wpAny_pyIter_dict h2 hD ⟨.vals [],c,h,.refl c,I.alloc _,.emp _ x ep fa (hD.push _) ⟨_,Vx _ rfl,rfl,rfl⟩ h2,Vl e2▸hK⟩
end
section
variable{n:Nat}{r:Ev}{A:Around}{fr:Fr}{env:Env}{X:Nat->H->Bool}{h:H}{s:Shared}
theorem yo{e:Expr}(h:∀es k p,e≠.Set es k p)(x:Value):foldedSetIterable e env x=pure x:=by
 cases e with
 |Set=>exact absurd rfl (h _ _ _)
 |_=>rfl
theorem UU(m:Nat):m+2≠m+4/\m+3≠m+4/\m≠m+4/\m+1≠m+4/\m+2≠m+3/\m+2≠m/\m+2≠m+1/\m+3≠m/\m+3≠m+1/\m≠m+1:=
 have k:∀{i j:Nat},i≠j->m+i≠m+j:=λh e=>h (Nat.add_left_cancel e)
 ⟨k (by decide),k (by decide),k (i:=0) (by decide),k (by decide),k (by decide),k (j:=0) (by decide),k (by decide),k (j:=0) (by decide),k (by decide),k (i:=0) (by decide)⟩
end
end
section
noncomputable def Gb.alt(g:Gb)(C:i5)(R S:Addr->Obj->Prop)(M0:Option Addr)(s0:Shared)(T0:Addr->List Value->Prop)(dl ul:Nat):Gb:=
 {g with C:=C,R:=R,S:=S,M0:=M0,s0:=s0,T0:=T0,dl:=dl,ul:=ul}
section
variable{g:Gb}{C:i5}{R S:Addr->Obj->Prop}{M0:Option Addr}{s0:Shared}{T0:Addr->List Value->Prop}{dl ul:Nat}{c c':Cf}
set_option smartUnfolding false in
theorem iO:VR (g.alt C R S M0 s0 T0 dl ul)=VR g:=rfl
set_option smartUnfolding false in
theorem yp:da (g.alt C R S M0 s0 T0 dl ul)=da g:=rfl
set_option smartUnfolding false in
theorem oy:OR (g.alt C R S M0 s0 T0 dl ul)=OR g:=rfl
def FP(g:Gb)(c:Cf)(L:Addr):Prop:=(∃k,k<c.n/\c.N k/\L=c.ρ k)\/∃o,g.S L o/\∀vs,o.data≠.fields vs
theorem FL.imp{g g':Gb}(h:∀L,FP g c L->FP g' c' L):∀{l:List Env},FL g c l->FL g' c' l
 |[],_=>trivial
 |_::_,⟨h0,⟨L,h1,h2⟩,h3⟩=>⟨h0,⟨L,h1,h L h2⟩,FL.imp h h3⟩
theorem FR.alt{A:Around}{fr:Fr}{env:Env}(x:FR g c A fr env):FR (g.alt C R S M0 s0 T0 dl ul) c A fr env:=
 ⟨x.kind,x.names,x.ins,x.loc,x.cells,x.glob,x.bi,x.cls,x.inter,x.dbg,x.cdict,x.lk,x.lam⟩
end
variable{g:Gb}{c c':Cf}
noncomputable def Gb.wR(g:Gb)(R:Addr->Obj->Prop):Gb:=g.alt g.C R g.S g.M0 g.s0 g.T0 g.dl g.ul
noncomputable def Gb.pin(g:Gb)(L:List Addr)(hp:Heap):Gb:=g.wR λa o=>g.R a o\/(a∈L/\hp.get? a=some o)
theorem hH.unpin{L:List Addr}{hp:Heap}{a:Addr}(x:hH (g.pin L hp) c a):hH g c a:=⟨⟨λo q=>x.al.R o (.inl q),x.al.B,x.al.T,x.al.D⟩,x.S,x.ne,x.P⟩
theorem cV.pin{h:H}{s:Shared}{L:List Addr}(I:cV g c h s)(hL:∀b,b∈L->hH g c b):cV (g.pin L s.heap) c h s:=by
 have al:∀a,Al g c a->a∉L->Al (g.pin L s.heap) c a:=λa x n=>⟨λo q=>q.elim (x.R o) λq=>n q.1,x.B,x.T,x.D⟩
 refine⟨I.len,λk o e=>?_,I.pres,I.tup,I.dat,λa o q=>q.elim (I.rest a o) λq=>q.2,I.fra,I.base,I.inj,λk hk a ha=>?_,λa o ho=>?_,I.sam,I.t0,I.m0,I.ns,I.tab,?_,I.sm,⟨λa vs o q r=>?_,λa ob o q r=>?_⟩⟩
 .refine e02 (I.obj k o e) λh1 h2=>?_
  exact⟨h1,by(show OR (g.alt ..) c o _ _ _);rw[oy];exact h2⟩
 .refine e02 (I.off k hk a ha) λh1 h2=>?_
  exact⟨al a h1 λq=>ha.elim ((hL a q).ne k hk).1 ((hL a q).ne k hk).2,h2⟩
 .refine e02 (I.offS a o ho) λh1 h2=>?_
  exact⟨al a h1 λq=>(hL a q).S o ho,h2⟩
 .exact al _ I.offP λq=>(hL _ q).P rfl
 .exact r.elim (I.rT.1 a vs o q) λr=>(hL a r.1).al.T vs q
 .exact r.elim (I.rT.2 a ob o q) λr=>(hL a r.1).al.D ob q
theorem cV.unpin{h:H}{s:Shared}{L:List Addr}{hp:Heap}(I:cV (g.pin L hp) c h s):cV g c h s:=by
 have al:∀a,Al (g.pin L hp) c a->Al g c a:=λa x=>⟨λo q=>x.R o (.inl q),x.B,x.T,x.D⟩
 refine⟨I.len,λk o e=>?_,I.pres,I.tup,I.dat,λa o q=>I.rest a o (.inl q),I.fra,I.base,I.inj,λk hk a ha=>let⟨h1,h2⟩:=I.off k hk a ha;⟨al a h1,h2⟩,λa o ho=>let⟨h1,h2⟩:=I.offS a o ho;⟨al a h1,h2⟩,I.sam,I.t0,I.m0,I.ns,I.tab,al _ I.offP,I.sm,⟨λa vs o q r=>I.rT.1 a vs o q (.inl r),λa ob o q r=>I.rT.2 a ob o q (.inl r)⟩⟩
 refine e02 (I.obj k o e) λh1 h2=>?_
 have h2:OR (g.alt ..) c o _ _ _:=h2
 rw[oy] at h2
 exact⟨h1,h2⟩
theorem cV.pinned{h:H}{s:Shared}{L:List Addr}{hp:Heap}{b:Addr}{o:Obj}(I:cV (g.pin L hp) c h s)(hb:b∈L)(e:hp.get? b=some o):s.heap.get? b=some o:=I.rest b o (.inr ⟨hb,e⟩)
theorem cV.pinFre{c0:Cf}{h:H}{s:Shared}{L:List Addr}{hp:Heap}{b:Addr}{o:Obj}(I:cV (g.pin L hp) c h s)(hb:b∈L)(e:hp.get? b=some o)(f:hH g c0 b):hH g c b:=
 ⟨⟨f.al.R,f.al.B,λvs q=>I.rT.1 b vs o q (.inr ⟨hb,e⟩),λob q=>I.rT.2 b ob o q (.inr ⟨hb,e⟩)⟩,f.S,λk hk=>⟨λq=>(I.off k hk b (.inl q)).1.R o (.inr ⟨hb,e⟩),λq=>(I.off k hk b (.inr q)).1.R o (.inr ⟨hb,e⟩)⟩,f.P⟩
theorem dz.pin{n:Nat}{A:Around}{L:List Addr}{hp:Heap}(x:dz g c n A):dz (g.pin L hp) c n A:=⟨x.hh,x.dep',x.un',x.lid,let⟨l,h1,h2⟩:=x.fr;⟨l,h1,FL.imp (g:=g) (g':=g.pin L hp) (c:=c) (c':=c) (λY q=>q) h2⟩⟩
theorem FR.pin{A:Around}{fr:Fr}{env:Env}{L:List Addr}{hp:Heap}(x:FR g c A fr env):FR (g.pin L hp) c A fr env:=x.alt
theorem VR.pin{L:List Addr}{hp:Heap}{a:V}{v:Value}:VR (g.pin L hp) c a v↔VR g c a v:=Iff.of_eq (congrFun (congrFun (congrFun iO c) a) v)
theorem da.pin{L:List Addr}{hp:Heap}{a:List V}{v:List Value}:da (g.pin L hp) c a v↔da g c a v:=Iff.of_eq (congrFun (congrFun (congrFun yp c) a) v)
theorem vE.unpin{A:Around}{L:List Addr}{hp:Heap}{e:Addr}{s:Shared}(x:vE (g.pin L hp) c A e s):vE g c A e s:=by
 exact x.imp (λT y=>y.unpin) rfl
theorem EX.unpin{A:Around}{X:Nat->H->Bool}{L:List Addr}{hp:Heap}{v:Value}{s:Shared}(x:EX (g.pin L hp) c A X v s):EX g c A X v s:=x.rec λk c' h e1 I h1 h2 h3 h4=>⟨k,c',h,e1,I.unpin,h1,h2,h3.unpin,h4⟩
end
section
open PySem.SeqAt
variable{g:Gb}{c c':Cf}
section
variable{n:Nat}{r:Ev}{A:Around}{fr:Fr}{env:Env}{X:Nat->H->Bool}{h:H}{s:Shared}
theorem qt{C:i5}{f:V}{b:Bool}(hk:vd C f h b=true):vc C f h=true/\b=true:=cT hk .intro
end
end
section
open PySem.SeqAt
variable{g:Gb}{c c':Cf}
section
variable{n:Nat}{r:Ev}{A:Around}{fr:Fr}{env:Env}{X:Nat->H->Bool}{h:H}{s:Shared}
theorem zU(C:Addr)(rest:List Value):(Code.builtin "type.__call__" ⟨.ref C::rest,[]⟩).weight=1:=by rfl
theorem C7(C:Addr)(rest:List Value):(Code.builtin "type.__call__" ⟨.ref C::rest,[]⟩).cUnits≤3:=Vw rfl
theorem yq(C:Addr)(rest:List Value):(Code.builtin "type.__call__" ⟨.ref C::rest,[]⟩).envs=[]:=by rfl
theorem dz.type{C:Addr}{rest:List Value}(oa:dz g c (n+1) A):dz g c n (A.under (.builtin "type.__call__" ⟨.ref C::rest,[]⟩)):=
 oa.step (V4 (Vu (zU C rest)) _) (V4 (Vo (C7 C rest) (by decide)) _) rfl (oa.fr.elim λl h=>⟨l,(congrArg (pushEnvs · A.frames) (yq C rest)).trans h.1,h.2⟩)
theorem EX.frames{A A':Around}(h:A'.frames=A.frames){e:Value}(x:EX g c A X e s):EX g c A' X e s:=by
 obtain⟨k,c',h',e1,I,hk,he,hf,hx⟩:=x
 refine⟨k,c',h',e1,I,hk,he,?_,hx⟩
 exact hf.imp (λY y=>y) h
theorem C8{ci:Nat}{x dx:Addr}{h':Heap}{g0:Array GenState}{d:Drawn}{t:Tok}{os:OsState}{hp:Heap}(I:cV g c h ⟨hp,g0,d,t,os⟩)(M:Heap.MadeObjFk hp h' x dx (g.ca ci)):
  ∃c',dA c c'/\cV g c' (h.push (.inst ci [])) ⟨h',g0,d,t,os⟩/\VR g c' (.ref h.length) (.ref x):=by
 refine e14 (id M.inst) λo ho hc hn hd=>?_
 have hdx:=M.dict o ho
 have gd:∃ob,h'.get? dx=some ob:=by
  rcases hd with⟨q,_⟩|⟨d',q,_,⟨od,es,ep,e,_⟩,_⟩
  .rw[hdx] at q;cases q
  .rw[hdx] at q;cases q;exact⟨od,e⟩
 exact⟨c.add x dx false,dA.add ..,I.push (o:=.inst ci []) (s':=⟨h',g0,d,t,os⟩) M.keeps M.newX M.newD ⟨_,[],M.inst,M.dict,NR.nil,Within.nil,VA _⟩ ⟨_,ho⟩ gd ⟨rfl,rfl,rfl⟩ ft,rk (I.len▸VS _) (if_pos I.len.symm).symm⟩
end
end
section
open PySem.SeqAt
variable{g:Gb}{c c':Cf}
section
variable{n:Nat}{r:Ev}{A:Around}{fr:Fr}{env:Env}{X:Nat->H->Bool}{h:H}{s:Shared}
end
end
section
variable{g:Gb}{c c':Cf}
theorem sV.at{h h':Heap}{v w:V}{i:Nat}{z TI TO i1 i2:Addr}(x:sV g c h v w i z TI TO i1 i2)(k:∀b,b∈[z,TI,TO,i1,i2]->∀o,h.get? b=some o->h'.get? b=some o):sV g c h' v w i z TI TO i1 i2:=by
 obtain⟨D,hz,hti,⟨ta,tb,hto⟩,⟨s1,hv,x1⟩,⟨s2,hw,x2⟩⟩:=x
 exact⟨D,k z (by simp) _ hz,k TI (by simp) _ hti,⟨ta,tb,k TO (by simp) _ hto⟩,⟨s1,hv,x1.at (k i1 (by simp))⟩,⟨s2,hw,x2.at (k i2 (by simp))⟩⟩
theorem IS.at{h h':Heap}{a:Addr}{l:List V}(x:IS g c h a l)(k:∀o,h.get? a=some o->h'.get? a=some o):IS g c h' a l:=by
 cases x with
 |tup t vs i h1 h2 h3=>obtain⟨o,h1,r⟩:=h1;exact .tup t vs i ⟨o,k _ h1,r⟩ h2 h3
 |byt b t i als h1 e h3=>obtain⟨o,h1,r⟩:=h1;exact .byt b t i als ⟨o,k _ h1,r⟩ e h3
 |rng x jg h1 h2 e=>exact .rng x jg (k _ h1) h2 e
theorem uQ.at{h h':Heap}{itv:Value}{L:List Addr}{it:It}(x:uQ g c h it itv L)(k:∀b,b∈L->∀o,h.get? b=some o->h'.get? b=some o):uQ g c h' it itv L:=by
 cases x with
 |vals l a x=>exact .vals l a (x.at (k a Vq))
 |lst v i a l hp hv h1=>obtain⟨o,h1,r⟩:=h1;exact .lst v i a l hp hv ⟨o,k a Vq _ h1,r⟩
 |enum v i e b si old ne hv he h1=>exact .enum v i e b si old ne hv (k e Vq _ he) (h1.at (k b (Vr _ Vq)))
 |zip v w i z TI TO i1 i2 x=>exact .zip v w i z TI TO i1 i2 (x.at k)
theorem S1.there{h:Heap}{it:Addr}{i:Nat}:∀{si:SI},S1 h it i si->∃o,h.get? it=some o
 |.list _,⟨o,e,_⟩=>⟨o,e⟩
 |.tup _,⟨o,e,_⟩=>⟨o,e⟩
 |.byt _ _,⟨o,e,_⟩=>⟨o,e⟩
theorem uQ.there{h:Heap}{itv:Value}{L:List Addr}{it:It}(x:uQ g c h it itv L)(b:Addr)(hb:b∈L):∃o,h.get? b=some o:=by
 cases x with
 |vals l a x=>
  rw[List.mem_singleton.mp hb]
  cases x with
  |tup t vs i h1 h2 h3=>obtain⟨o,h1,r⟩:=h1;exact⟨_,h1⟩
  |byt b t i als h1 e h3=>obtain⟨o,h1,r⟩:=h1;exact⟨_,h1⟩
  |rng x jg h1 h2 e=>exact⟨_,h1⟩
 |lst v i a l hp hv h1=>obtain⟨o,h1,r⟩:=h1;rw[List.mem_singleton.mp hb];exact⟨_,h1⟩
 |enum v i e it si old ne hv he h1=>
  rcases List.mem_cons.mp hb with rfl|hb
  .exact⟨_,he⟩
  .rw[List.mem_singleton.mp hb];exact h1.there
 |zip v w i z TI TO i1 i2 x=>
  obtain⟨D,hz,hti,⟨ta,tb,hto⟩,⟨s1,hv,x1⟩,⟨s2,hw,x2⟩⟩:=x
  rcases List.mem_cons.mp hb with rfl|hb
  .exact⟨_,hz⟩
  rcases List.mem_cons.mp hb with rfl|hb
  .exact⟨_,hti⟩
  rcases List.mem_cons.mp hb with rfl|hb
  .exact⟨_,hto⟩
  rcases List.mem_cons.mp hb with rfl|hb
  .exact x1.there
  .rw[List.mem_singleton.mp hb];exact x2.there
theorem IS.ext{h:Heap}{a:Addr}{l:List V}(e:dA c c')(x:IS g c h a l):IS g c' h a l:=by
 cases x with
 |tup t vs i h1 h2 h3=>exact .tup t vs i h1 (e.T _ _ h2) (h3.ext e)
 |byt b t i als h1 e h3=>exact .byt b t i als h1 e h3
 |rng x jg h1 h2 e=>exact .rng x jg h1 h2 e
theorem uQ.ext{h:Heap}{itv:Value}{L:List Addr}(e:dA c c'){it:It}(x:uQ g c h it itv L):uQ g c' h it itv L:=by
 cases x with
 |vals l a x=>exact .vals l a (x.ext e)
 |lst v i a l hp hv h1=>exact .lst v i a l hp (hv.ext e) h1
 |enum v i e1 b si old ne hv he h1=>exact .enum v i e1 b si old ne (lM e hv) he h1
 |zip v w i z TI TO i1 i2 x=>
  obtain⟨D,hz,hti,hto,⟨s1,hv,x1⟩,⟨s2,hw,x2⟩⟩:=x
  exact .zip v w i z TI TO i1 i2 ⟨D,hz,hti,hto,⟨s1,lM e hv,x1⟩,⟨s2,lM e hw,x2⟩⟩
theorem uQ.back{h:H}{hp:Heap}{s:Shared}{it:It}{itv:Value}{L:List Addr}(e:dA c c')(hL:∀b,b∈L->hH g c b)(x:uQ g c hp it itv L)(I:cV (g.pin L hp) c' h s):pD g c' s.heap it itv:=
 .mk _ _ L (λb hb=>let⟨_,ho⟩:=x.there b hb;I.pinFre hb ho (hL b hb)) ((x.ext e).at λY hb Y ho=>I.pinned hb ho)
end
section
variable{g:Gb}{c c':Cf}
section
variable{n:Nat}{r:Ev}{A:Around}{fr:Fr}{env:Env}{X:Nat->H->Bool}{h:H}{s:Shared}{E:Value->Shared->Prop}
theorem oz{l:Addr}{items:Array Value}{x:Value}{Q:Value->Shared->Prop}(hl:jk s.heap l items)
  (hQ:∀h',jk h' l (items.push x)->VB l s.heap h'->Q .none {s with heap:=h'}) (hsz:items.size≤sizeLine):
  wpAny g.M A (call (.builtin "list.append") [.ref l,x]) Q E s:=by
 refine e11 (id hl) λn ho=>?_
 refine wpAny_call_entry slot_list_append hl.isList.typeIs entry_list_append ?_ (args_list_append _ _)
 refine(?_:wpAny _ _ (updateSeq l (·.push x)>>=λY=>ret .none) _ _ s)
 refine wpAny_bind ?_
 refine wpAny_updateSeq ho rfl (wpAny_pure ⟨.none,rfl,hQ _ ⟨_,VD _ ho rfl⟩ (Heap.SameBut.update ..)⟩) hsz (by rw[Array.size_push];omega)
theorem cV.setL{k:Nat}{o o':O}{h':Heap}{vs:Array Value}(I:cV g c h s)(e:h.get k=some o)(i':jk h' (c.ρ k) vs)(hs':VB (c.ρ k) s.heap h')(hn:o.isNs=false)(new:OR g c o' (c.ρ k) (c.δ k) h'):cV g c (h.set k o') {s with heap:=h'}:=
 let⟨_,ho⟩:=i';I.setAt e ho hs' new hn
theorem list_push{acc:Nat}{w:V}{x:Value}{K:H->Bool}(I:cV g c h s)(hx:VR g c w x)(hk:q9 acc w h K=true):wpAny g.M A (call (.builtin "list.append") [.ref (c.ρ acc),x]) (λY s'=>QU g c K () s') E s:=
 Gp I hk λl ws e h1 h2 h3 hk=>cT hk λhc hk=>
  oz h1 (λh' i' hs'=>⟨c,_,.refl c,I.setL (o':=.list (l++[w])) e i' hs' rfl ⟨_,i',by rw[Xm];exact h2.append (.cons hx .nil),by rw[VK];exact V1 (eQ hc)⟩,hk⟩) (dD (Vo (Vu (ew h2)) (Vo h3 (by decide))))
end
end
section
variable{g:Gb}{c c':Cf}
section
variable{n:Nat}{r:Ev}{A:Around}{fr:Fr}{env:Env}{X:Nat->H->Bool}{h:H}{s:Shared}{E:Value->Shared->Prop}
theorem iter_self{it:It}{itv:Value}{Q:Value->Shared->Prop}(hit:pD g c s.heap it itv)(h:Q itv s):wpAny g.M A (pyIter itv) Q E s:=by
 cases hit with
 |emp a d ep fa hD hK hd=>exact wpAny_pyIter_keyiter hK h
 |mk _ _ L hL hS=>
  cases hS with
  |vals l a x=>
   cases x with
   |tup t vs i h1=>exact wpAny_pyIter_tupleiter h1 h
   |byt b t i als h1=>exact KBw.pyIter_self h1 h
   |rng x jg h1=>exact wpAny_pyIter_rangeiter h1 h
  |lst v i a l hp hv h1=>exact wpAny_pyIter_listiter h1 h
  |enum v i e it si old ne hv he=>exact wpAny_pyIter_enum he h
  |zip v w i z TI TO i1 i2 x=>exact wpAny_pyIter_zip x.zip h
theorem ic{C:Prop}{p:NameKind->Bool}{o:Option NameKind}(h:je p o=true)(f:∀k,o=some k->p k=true->C):C:=fM h f λY q=>ft q
theorem oA{k:NameKind}(h:gk k=true):k=.cell:=by
 cases k with
 |cell=>rfl
 |_=>exact ft h
theorem lQ{k:NameKind}(h:iA k=true):k=.free:=by
 cases k with
 |free=>rfl
 |_=>exact ft h
theorem vS{C:Prop}{x:Str}(f:FR g c A fr env)(h:kr fr (cd x)=true)(q:cd x≠0->env.kindOf x=some .cell\/env.kindOf x=some .free->∀i,eJ fr.cells (cd x)=some i->C):C:=
 cT h λh1 h2=>(Option.isSome_iff_exists.mp h2).elim λi e=>eL h1 (λh=>ic h λk k1 hk=>q (eX f k1).1 (.inl (oA hk▸(eX f k1).2)) i e) λh=>ic h λk k1 hk=>q (eX f k1).1 (.inr (lQ hk▸(eX f k1).2)) i e
def Ue(c:Cf)(fr:Fr)(cs:List (Str×Addr)):Prop:=∀p,p∈cs->cd p.1≠0->∀i,eJ fr.cells (cd p.1)=some i->i<c.n/\p.2=c.ρ i
theorem GD(f:FR g c A fr env){names:List (Str×NameKind)}:∀{cs:List (Str×Addr)},j6 fr (dH names)=true->Ue c fr cs->
  ∃cl,(forIn names cs λx cs=>(do if x.2==.free then(do let a<-cellOf env x.1;pure (.yield ((x.1,a)::cs))) else pure (.yield cs):Sem (ForInStep (List (Str×Addr)))))=pure cl/\
   Ue c fr cl/\(∀x,(x∈cs.map (·.1)\/(x,NameKind.free)∈names)->x∈cl.map (·.1)):=by
 induction names with
 |nil=>exact λ{cs} Y h=>⟨cs,Xa,h,λx hx=>hx.resolve_right Vv⟩
 |cons p r ih=>
  obtain⟨x,k⟩:=p
  intro cs hf h
  refine cT (show gd (db (iA k) (kr fr (cd x)) true) (j6 fr (dH r))=true from hf) λh1 h2=>?_
  rw[VZ]
  cases e:iA k with
  |true=>
   cases lQ e
   exact vS f h1 λhx hk i hi=>by
    refine e02 (f.cells x i hx hk hi) λl1 l2=>?_
    obtain⟨cl,e1,e2,e3⟩:=ih (cs:=(x,c.ρ i)::cs) h2 λp hp hz j hj=>(List.mem_cons.mp hp).elim (λq=>by subst q;cases hi.symm.trans hj;exact⟨l1,rfl⟩) λhp=>h p hp hz j hj
    refine⟨cl,?_,e2,λy hy=>e3 y (hy.elim (λhy=>.inl (Vr _ hy)) λhy=>(List.mem_cons.mp hy).elim (λq=>.inl (List.mem_cons.mpr (.inl (congrArg WP q)))) .inr)⟩
    rw[if_pos (by rfl),show cellOf env x=pure (c.ρ i) by unfold cellOf;rw[l2],pure_bind,pure_bind];exact e1
  |false=>
   have nk:k≠.free:=λq=>by subst q;exact tf e
   refine e13 (ih (cs:=cs) h2 h) λcl e1 e2 e3=>?_
   refine⟨cl,?_,e2,λy hy=>e3 y (hy.imp id λhy=>(List.mem_cons.mp hy).resolve_left λq=>nk (congrArg Prod.snd q).symm)⟩
   rw[if_neg (λq=>nk (eq_of_beq q)),pure_bind];exact e1
theorem oG{α:Type}{x:Str}:∀{l:List (Str×α)},x∈l.map (·.1)->∃a,l.lookup x=some a/\(x,a)∈l
 |(y,a)::r,h=>by
  by_cases e:x=y
  .subst e;exact⟨a,by rw[VJ,beq_self_eq_true],Vq⟩
  .have hb:(x==y)=false:=by simpa using e
   refine e12 (oG (l:=r) ((List.mem_cons.mp h).resolve_left e)) λb h1 h2=>?_
   exact⟨b,by rw[VJ,hb];exact h1,Vr _ h2⟩
theorem oH(f:FR g c A fr env){scope:Scope}(hf:j6 fr (dH scope.names)=true):∃cl,closureFor scope env=pure cl/\CR c cl fr.cells λx=>scope.names.lookup x=some .free:=by
 refine e13 (GD (cs:=[]) f hf λp hp=>absurd hp Vv) λcl e1 e2 e3=>?_
 refine⟨cl,?_,λx i hx hd hi=>?_⟩
 .unfold closureFor
  refine Eq.trans ?_ (congrArg (λm:Sem (List (Str×Addr))=>m>>=λr=>pure r) e1)
  rfl
 .refine e12 (oG (e3 x (.inr (mem_of_lookup hd)))) λa h1 h2=>?_
  refine e02 (e2 (x,a) h2 hx i hi) λh3 h4=>?_
  exact⟨h3,h1.trans (congrArg some h4)⟩
end
end
section
variable{g:Gb}{c c':Cf}
section
variable{n:Nat}{r:Ev}{A:Around}{fr:Fr}{env:Env}{X:Nat->H->Bool}{h:H}{s:Shared}{E:Value->Shared->Prop}
theorem pD.hold{hp:Heap}{it:It}{itv:Value}(hit:pD g c hp it itv):∃L,(∀b,b∈L->hH g c b)/\∀c' h' s',dA c c'->cV (g.pin L hp) c' h' s'->(∀b o,hp.get? b=some o->s'.heap.get? b=some o)->pD g c' s'.heap it itv:=by
 cases hit with
 |mk _ _ L hL hS=>exact⟨L,hL,λc' h' s' e I k=>.mk _ _ L (λb hb=>let⟨o,ho⟩:=hS.there b hb;I.pinFre hb ho (hL b hb)) ((hS.ext e).at λb Y o ho=>k b o ho)⟩
 |emp a d ep fa hD hK hd=>
  refine e22 hD λo es h1 r=>?_;clear hD
  refine e12 hK λo2 h2 r2=>?_;clear hK
  exact⟨[a],λb hb=>List.mem_singleton.mp hb▸fa,λc' h' s' e I k=>.emp a d ep (I.pinFre (List.mem_singleton.mpr rfl) h2 fa) ⟨o,es,k _ _ h1,r⟩ ⟨o2,k _ _ h2,r2⟩ hd⟩
theorem lR{x:Str}{k:Nat}(e:cd x=k){l:List (Str×NameKind)}(h:qX k l=true):l.lookup x=none:=by
 induction l with
 |nil=>rfl
 |cons p r ih=>
  exact cT h λh1 h2=>by
   rw[VJ,beq_eq_false_iff_ne.mpr λq=>en (dP h1) (e.symm.trans (congrArg cd q))];exact ih h2
theorem Ky:cd "__class__"=ID:=by with_unfolding_all rfl
theorem Kz:cd "__debug__"=IE:=by with_unfolding_all rfl
theorem C9:cd "__classdict__"=xE:=by with_unfolding_all rfl
structure KA(sc:Scope):Prop where
 k:sc.kind=.function
 co:sc.isCoroutine=false
 ge:sc.isGenerator=false
 cls:sc.names.lookup ("__class__":Str)=none
 dbg:sc.names.lookup ("__debug__":Str)=none
 cdi:sc.names.lookup ("__classdict__":Str)=none
theorem Da{k:ScopeKind}(h:xF k=true):k=.function:=by
 cases k with
 |function=>rfl
 |_=>exact ft h
theorem qu{sc:Scope}(h:u7 sc=true):KA sc:=RQ h λh1 h2 h3 h4 h5 h6=>⟨Da h1,dP h2,dP h3,lR Ky h4,lR Kz h5,lR C9 h6⟩
theorem vT{k:NameKind}(h:gl k=true):k=.local:=by
 cases k with
 |«local»=>rfl
 |_=>exact ft h
theorem Db{sc l:List (Str×NameKind)}(h:Bu (dH sc) (dH l)=true):∀x,x∈l->x.2=.local->sc.lookup x.1=some .local:=by
 induction l with
 |nil=>exact λx hx=>absurd hx Vv
 |cons p r ih=>
  refine cT (show gd (db (gl p.2) (gd (!(Vn (cd p.1) 0)) (je gl (eJ (dH sc) (cd p.1)))) true) (Bu (dH sc) (dH r))=true from h) λh1 h2 x hx hl=>?_
  cases hx with
  |head=>
   rw[hl] at h1
   exact cT h1 λh0 h1=>ic h1 λk k1 hk=>by rw[lJ (en (dP h0))] at k1;rw[k1,vT hk]
  |tail _ hx=>exact ih h2 x hx hl
noncomputable def lS(env:Env)(p:Str×NameKind):Str×NameKind:=match p with
 |(n,k)=>if(k==.free&&env.scope.kind==.function&&env.kindOf n==some .cell) then(n,.cell) else(n,k)
theorem Dc{env:Env}(p:Str×NameKind):(lS env p).1=p.1:=by
 show(if _ then(p.1,NameKind.cell) else(p.1,p.2)).1=p.1
 split<;>rfl
theorem KB{env:Env}(p:Str×NameKind):(lS env p).2=p.2\/((lS env p).2=.cell/\p.2=.free):=by
 refine(?_:(if(p.2==.free&&env.scope.kind==.function&&env.kindOf p.1==some .cell)=true then(p.1,NameKind.cell) else(p.1,p.2)).2=p.2\/_)
 cases hc:(p.2==.free&&env.scope.kind==.function&&env.kindOf p.1==some .cell) with
 |true=>exact .inr ⟨congrArg Prod.snd (if_pos hc),eq_of_beq (Bool.and_eq_true_iff.mp (Bool.and_eq_true_iff.mp hc).1).1⟩
 |false=>exact .inl rfl
theorem SZ(f:FR g c A fr env){x:Str}{k:NameKind}(h:db (iA k) (kr fr (cd x)) true=true):(lS env (x,k)).2=db (iA k) (db (je gk (fK fr (cd x))) .cell .free) k:=by
 have hkf:(env.scope.kind==.function)=true:=by rw[f.kind];rfl
 cases k with
 |free=>
  exact cT h λh1 Y=>by
   refine(?_:(if(true&&env.scope.kind==.function&&env.kindOf x==some .cell)=true then(x,NameKind.cell) else(x,.free)).2=db (je gk (fK fr (cd x))) .cell .free)
   refine eL h1 (λh=>ic h λk k1 hk=>?_) λh=>ic h λk k1 hk=>?_
   .rw[k1,(eX f k1).2,hkf,oA hk];rfl
   .rw[k1,(eX f k1).2,hkf,lQ hk];rfl
 |_=>rfl
theorem zV(f:FR g c A fr env){l:List (Str×NameKind)}(h:j6 fr (dH l)=true):dH (l.map (lS env))=zA fr (dH l):=by
 induction l with
 |nil=>rfl
 |cons p r ih=>
  refine cT (show gd (db (iA p.2) (kr fr (cd p.1)) true) (j6 fr (dH r))=true from h) λh1 h2=>?_
  refine(?_:(cd (lS env p).1,(lS env p).2)::dH (r.map (lS env))=(cd p.1,_)::zA fr (dH r))
  rw[Dc,ih h2,SZ f (k:=p.2) h1]
theorem iP{env:Env}{x:Str}{k:NameKind}{l:List (Str×NameKind)}(h:(l.map (lS env)).lookup x=some k):l.lookup x=some k\/(k=.cell/\l.lookup x=some .free):=by
 induction l with
 |nil=>exact nn h
 |cons p r ih=>
  have h:(lS env p::r.map (lS env)).lookup x=some k:=h
  rw[VJ,Dc] at h
  rw[VJ]
  cases hx:x==p.1 with
  |true=>
   rw[hx] at h
   exact(KB p).imp (λe=>(congrArg some e.symm).trans h) λe=>⟨(Vl h).symm.trans e.1,congrArg some e.2⟩
  |false=>rw[hx] at h;exact ih h
theorem iQ{env:Env}{x:Str}{l:List (Str×NameKind)}(h:l.lookup x=none):(l.map (lS env)).lookup x=none:=by
 cases e:(l.map (lS env)).lookup x with
 |none=>rfl
 |some k=>exact(iP e).elim (λq=>nn (h.symm.trans q)) λq=>nn (h.symm.trans q.2)
end
end
section
variable{g:Gb}{c c':Cf}
section
variable{n:Nat}{r:Ev}{A:Around}{fr:Fr}{env:Env}{X:Nat->H->Bool}{h:H}{s:Shared}{E:Value->Shared->Prop}
theorem lT{C:Prop}{ns:Nat}{K:H->Bool}(hk:iC ns K h=true)(q:∀m,h.get ns=some (.ns m)->K (h.set ns .dead)=true->C):C:=cP hk λm e hk=>cW e λo e1 e2=>q m (e1.trans (congrArg some (mD e2))) hk
theorem cV.let_go{ns:Nat}{m:List (Nat×V)}{h':Heap}{m':Str->Option Value}(I:cV g c h s)(e:h.get ns=some (.ns m))(hN:¬c.N ns)(hn:h'.Ns (c.ρ ns) m')(hs:VB (c.ρ ns) s.heap h'):cV g c (h.set ns .dead) {s with heap:=h'}:=by
 refine e32 (id hn) λo es ep ho Y=>?_
 exact I.set (s':={s with heap:=h'}) e (λb ob hb Y x=>(hs.2 b hb).trans x) trivial ⟨_,ho⟩ (np I (I.obj _ _ e).1 ho hs) ⟨rfl,rfl,rfl⟩ (λq=>absurd q hN)
theorem cV.nsAt{ns:Nat}{m:List (Nat×V)}(I:cV g c h s)(e:h.get ns=some (.ns m)):∃mm,s.heap.Ns (c.ρ ns) mm:=by
 obtain⟨_,mm,h1,_⟩:=I.obj _ _ e;exact⟨mm,h1⟩
theorem Dd{cenv:Env}{ns:Nat}{v:Value}{Q:Value->Shared->Prop}(f:FR g c A fr env)(hns:ns<c.n)(hN:¬c.N ns)(hl:cenv.locals=c.ρ ns)(hf:cenv.frame=env.frame)(hx:dT g c A cenv (λk=>iC ns (X k)) v s):
  ∃m,s.heap.Ns cenv.locals m/\∀h' m',h'.Ns cenv.locals m'->VB cenv.locals s.heap h'->wpAny g.M A (PySem.passOn "comprehension.variables-let-go" v cenv:Sem Value) Q (EX g c A X) {s with heap:=h'}:=by
 obtain⟨k,ag,ae,L,ac,af,⟨ci,mm,he⟩,rfl,hL,hh,hX⟩:=hx
 refine lT hX λm hm hX=>?_
 have hl:cenv.locals=ag.ρ ns:=hl.trans (ac.ρ _ hns).symm
 rw[hl]
 refine e11 (af.nsAt hm) λmm' hns'=>?_
 refine⟨mm',hns',λh' m' hn' hs'=>?_⟩
 have am:=af.let_go hm (λq=>hN (ac.M _ hns q)) hn' hs'
 have hne:ns≠k:=λq=>O.noConfusion (Vl (he.symm.trans (q▸hm)))
 have aU:(ae.set ns .dead).get k=some (.exc ci mm false):=by rw[H.get_set,if_neg hne];exact he
 obtain⟨oe,vs,T,ot,tvs,x1,x2,x3,x4,t1,t2,t3,t4,t5⟩:=hh
 have hns1:=(af.obj _ _ hm).1
 have y1:=(hs'.2 _ (af.inj k ns (af.obj _ _ he).1 hns1 (Ne.symm hne)).1).trans x1
 have cC:i6 g ag (ag.ρ k) (rawInt L) {s with heap:=h'}:=⟨oe,vs,T,ot,tvs,y1,x2,x3,x4,(hs'.2 _ (t5.ne ns hns1).1).trans t1,t2,t3,t4,t5⟩
 refine wpAny_bind (wpAny_field y1 x2 x4 (eB (by simp) ?_))
 rw[hL]
 exact wpAny_bind (hY (o:=some L) am aU cC λav az hh=>wpAny_throw ⟨k,ag,_,ac,az,⟨ci,mm,aU⟩,rfl,hh.flyL (f.ext ac) (hf.symm.trans hL),hX⟩)
end
end
section
open PySem.Builtin
open PySem.Builtin.ObjectAttr
noncomputable def eb:List Value:=[.type "Exception",.type "BaseException",.type "object"]
theorem KC:mroOf (.type "Exception")=pure eb:=by rw[mroOf_type];kernel_rfl
inductive mG(h:Heap)(C:Addr)(l:List Value)(m:Str->Option Value):Prop
 |mk (x:XD) (c:h.get? C=some (excClassObj x.nm x.q C x.N x.bs l true x.sn x.sub x.ab x.col x.dd x.k0 x.k1 x.k2 x.k3 x.k5 "Exception.__new__")) (n:h.Ns x.N m)
structure eR(h:Heap)(C Lg:Addr)(mN mL:Str->Option Value):Prop where
 cls:mG h C (.ref Lg::eb) mN
 base:mG h Lg eb mL
theorem mG.keeps{h h':Heap}{C:Addr}{l:List Value}{m:Str->Option Value}(x:mG h C l m)(k:∀b o,h.get? b=some o->h'.get? b=some o):mG h' C l m:=by
 obtain⟨x,h1,o,es,ep,e,r⟩:=x
 exact⟨x,k _ _ h1,o,es,ep,k _ _ e,r⟩
theorem eR.keeps{h h':Heap}{C Lg:Addr}{mN mL:Str->Option Value}(x:eR h C Lg mN mL)(k:∀b o,h.get? b=some o->h'.get? b=some o):eR h' C Lg mN mL:=⟨x.cls.keeps k,x.base.keeps k⟩
section
variable{M:Model}{A:Around}{E:Value->Shared->Prop}{h:Heap}{g:Array GenState}{d:Drawn}{t:Nat}{os:OsState}{C Lg:Addr}{mN mL:Str->Option Value}
theorem jG(x:eR h C Lg mN mL){name:Str}{y:Option Value}{Q:Option Value->Shared->Prop}(hB:typeLookup (.type "Exception") name=pure y)
  (hq:Q (match mN name with|some v=>some v|none=>match mL name with|some v=>some v|none=>y) ⟨h,g,d,t,os⟩):wpAny M A (typeLookup (.ref C) name) Q E ⟨h,g,d,t,os⟩:=by
 obtain⟨xd,h1,h2⟩:=x.cls
 obtain⟨xd',h3,h4⟩:=x.base
 have hrest:lookupAlong eb name=pure y:=by rw[typeLookup_eq,KC] at hB;exact hB
 rw[typeLookup_eq]
 refine wpAny_bind (wpAny_mroOf_exc h1 ?_)
 rw[lookupAlong_cons]
 refine wpAny_bind (wpAny_classOwn_exc h1 h2 ?_)
 cases hv:mN name with
 |some v=>rw[hv] at hq;exact wpAny_pure hq
 |none=>
  rw[hv] at hq
  dsimp only
  rw[lookupAlong_cons]
  refine wpAny_bind (wpAny_classOwn_exc h3 h4 ?_)
  cases hw:mL name with
  |some v=>rw[hw] at hq;exact wpAny_pure hq
  |none=>rw[hw] at hq;dsimp only;rw[hrest];exact wpAny_pure hq
theorem S2(x:eR h C Lg mN mL){base:Value}{Q:Bool->Shared->Prop}(hq:Q ((Value.ref C::.ref Lg::eb).contains base) ⟨h,g,d,t,os⟩):wpAny M A (isSubtype (.ref C) base) Q E ⟨h,g,d,t,os⟩:=by
 obtain⟨xd,h1,h2⟩:=x.cls
 exact wpAny_isSubtype_exc h1 hq
end
theorem new_split:splitId "Exception.__new__"=some ("Exception","__new__"):=by decide+kernel
theorem De:builtinKind "Exception.__new__"=some .builtinFn:=by decide+kernel
theorem GE:Manifest.signature? "Exception.__new__"=some ⟨.any,"Exception","Exception",.cls,[⟨"args",.varPos,false⟩,⟨"kwargs",.varKw,false⟩]⟩:=by kernel_rfl
theorem zW:Manifest.canonical "Exception.__new__"=Manifest.canonical "BaseException.__new__":=by decide+kernel
theorem rq{C Lg:Addr}:(Value.ref C::.ref Lg::eb).contains (.type "Exception")=true:=by
 rw[VI,VI];simp[eb]
theorem tu{C Lg:Addr}:(Value.ref C::.ref Lg::eb).contains (.type "BaseException")=true:=by
 rw[VI,VI];simp[eb]
theorem Df{C Lg:Addr}:(Value.ref C::.ref Lg::eb).contains (.type "AttributeError")=false:=by
 rw[VI,VI];simp[eb]
theorem Dg{C Lg:Addr}:(Value.ref C::.ref Lg::eb).contains (.type "NameError")=false:=by
 rw[VI,VI];simp[eb]
theorem vU{α:Type}{M:Model}{A:Around}{E:Value->Shared->Prop}{s:Shared}{Q:α->Shared->Prop}{t u:Sem α}(e:t=u)(h:wpAny M A u Q E s):wpAny M A t Q E s:=e▸h
theorem mH{M:Model}{A:Around}{E:Value->Shared->Prop}{s:Shared}{Q:Unit->Shared->Prop}{id owner name:String}{self:Value}{rest:List Value}(hk:builtinKind id=some .slot)(hs:splitId id=some (owner,name))
  (hi:∀{Q:Bool->Shared->Prop},Q true s->wpAny M A (isInstance self (.type owner)) Q E s) (ht:wpAny M A (match Manifest.signature? id with|some sig=>Bind.checkArgs id sig ⟨self::rest,[]⟩|none=>pure ()) Q E s):
  wpAny M A (checkBuiltinCall id ⟨self::rest,[]⟩) Q E s:=by
 delta checkBuiltinCall
 rw[hk,hs]
 refine wpAny_bind (hi ?_)
 show wpAny M A (ite _ _ _) Q E s
 rw[if_neg (by decide)]
 generalize Manifest.signature? id=sg at ht⊢
 cases sg<;>exact ht
theorem oJ{M:Model}{A:Around}{E:Value->Shared->Prop}{s:Shared}{Q:Unit->Shared->Prop}{id owner name:String}{self:Value}{rest:List Value}(hk:builtinKind id=some .slot)(hs:splitId id=some (owner,name))
  (hi:∀{Q:Bool->Shared->Prop},Q true s->wpAny M A (isInstance self (.type owner)) Q E s) (ha:argsOk id ⟨self::rest,[]⟩) (hq:Q () s):
  wpAny M A (checkBuiltinCall id ⟨self::rest,[]⟩) Q E s:=by
 refine mH hk hs hi ?_
 unfold argsOk at ha
 generalize Manifest.signature? id=sg at ha⊢
 cases sg with
 |none=>exact wpAny_pure hq
 |some sg=>exact vU ha (wpAny_pure hq)
section
variable{prog:Program}{w:World}{A:Around}{E:Value->Shared->Prop}{R:Result->Shared->Prop}{h:Heap}{g:Array GenState}{d:Drawn}{t:Nat}{os:OsState}{C Lg:Addr}{mN mL:Str->Option Value}
theorem vV(x:eR h C Lg mN mL){M:Model}{rest:List Value}{Q:Unit->Shared->Prop}(hq:Q () ⟨h,g,d,t,os⟩):wpAny M A (checkBuiltinCall "Exception.__new__" ⟨.ref C::rest,[]⟩) Q E ⟨h,g,d,t,os⟩:=by
 obtain⟨xd,hC,hn⟩:=x.cls
 have hcont:=rq (C:=C) (Lg:=Lg)
 have hstar:=F.excCall_Exception.noStar
 delta checkBuiltinCall
 rw[De,new_split,GE]
 dsimp only
 repeat(first|refine wpAny_loadPart_at hC ?_|(refine wpAny_isSubtype_exc hC ?_;rw[hcont])|refine wpAny_staticBase_exc hC ?_|refine wpAny_madeBy_exc hC ?_|simp only[bne_self_eq_false,Xj,if_false]|wp_step)
 exact hq
theorem zX(x:eR h C Lg mN mL){rest:List Value}
  (hq:R (.ok (.ret (.ref (h.objs.size+1)))) ⟨(h.push {cls:=.type "tuple",data:=.seq rest.toArray}).push
   {cls:=.ref C,data:=.fields #[.ref h.objs.size,.none,.none,.none,.bool false,.none]},g,d,t,os⟩) (hrest:rest.length≤sizeLine):
  codeAny (model prog w) A (.builtin "Exception.__new__" ⟨.ref C::rest,[]⟩) R ⟨h,g,d,t,os⟩:=by
 obtain⟨xd,hC,hn⟩:=x.cls
 have hends:=F.excCall_Exception.ends
 have hcB:=rq (C:=C) (Lg:=Lg)
 have hcA:=Df (C:=C) (Lg:=Lg)
 have hcN:=Dg (C:=C) (Lg:=Lg)
 refine codeAny_builtinAt F.excCall_Exception.entry ?_
 unfold Builtin.«BaseException.__new__»
 refine PySem.wpAt_bind ?_
 refine(?_:PySem.wpAt _ _ _ (stack>>=_) _ _ _)
 refine PySem.wpAt_bind (PySem.wpAt_stack λp below=>PySem.wpAt_of_wpAny ?_)
 wp_walk
 refine PySem.wpAt_of_wpAny ?_
 rw[F.excCall_Exception.owner]
 repeat(first|with_reducible refine wpAny_madeHere_exc zW hC ?_|with_reducible refine wpAny_loadPart_at hC ?_|(with_reducible refine wpAny_isSubtype_exc hC ?_;first|rw[hcB]|rw[hcA]|rw[hcN])|wp_step)
 refine(?_:R _ _)
 rw[Wn]
 exact hq
theorem vW(x:eR h C Lg mN mL){rest:List Value}{fI:Addr}{oI:Obj}{Q:Fin->Shared->Prop}
  (h0:mN "__init__"=none) (hi:mL "__init__"=some (.ref fI)) (hfI:h.get? fI=some oI) (hfc:oI.cls=.type "function")
  (hq:∀h' e,Heap.MadeExcOf h h' e (.ref C) rest->
   wpAny (model prog w) A (call (.ref fI) (.ref e::rest)) (λr s'=>r=.none/\Q (.done (.ret (.ref e))) s') E ⟨h',g,d,t,os⟩) (hrest:rest.length≤sizeLine):
  wpAny (model prog w) A (Builtin.«type.__call__» ⟨.ref C::rest,[]⟩) Q E ⟨h,g,d,t,os⟩:=by
 obtain⟨xd,hC,hn⟩:=id x.cls
 repeat(first|with_reducible refine wpAny_loadPart_at hC ?_|with_reducible refine wpAny_madeBy_exc hC ?_|wp_step)
 refine codeAny_call_builtin_code (Code.quiet_builtin _ F.excCall_Exception.quiet) (vV x ?_)
 refine zX x ?_ hrest
 refine(?_:wpAny _ _ _ _ _ _)
 have up:∀b o,h.get? b=some o->((h.push {cls:=.type "tuple",data:=.seq rest.toArray}).push {cls:=.ref C,data:=.fields #[.ref h.objs.size,.none,.none,.none,.bool false,.none]}).get? b=some o:=λb o hb=>Vp _ (Vp _ hb)
 have cD:=x.keeps up
 have bw:=up _ _ hC
 have bL:=up _ _ hfI
 have hget:((h.push {cls:=.type "tuple",data:=.seq rest.toArray}).push
   {cls:=.ref C,data:=.fields #[.ref h.objs.size,.none,.none,.none,.bool false,.none]}).get? (h.objs.size+1)=some
   {cls:=.ref C,data:=.fields #[.ref h.objs.size,.none,.none,.none,.bool false,.none]}:=by heap_get
 have hcC:(Value.ref C::.ref Lg::eb).contains (.ref C)=true:=by simp
 unfold isInstance
 repeat(first|with_reducible refine wpAny_loadPart_at hget ?_|(with_reducible refine wpAny_isSubtype_exc bw ?_;rw[hcC])|wp_step)
 refine(?_:wpAny _ _ (typeLookup (.ref C) _) _ _ _)
 refine jG cD F.excCall_Exception.init.lookup ?_
 rw[h0]
 dsimp only
 rw[hi]
 refine wpAny_holding (wpAny_bind ?_)
 unfold bindSpecial
 refine wpAny_bind (wpAny_typeOf (T:="function") ⟨_,bL,hfc⟩ ?_)
 refine jU (by decide) ?_
 refine wpAny_pure (wpAny_bind (wpAny_mono (hq _ (h.objs.size+1) ⟨up,VC (VO _),h.objs.size,hget,VC (VA _),?_⟩) (λr s' hr=>?_) λY Y x=>x))
 .exact Vp _ (Xu rfl rfl)
 .refine e02 hr λzq56 hQ=>?_;clear hr
  cases zq56
  wp_walk
  exact hQ
theorem NS(x:eR h C Lg mN mL){rest:List Value}{fI:Addr}{oI:Obj}{Q:Value->Shared->Prop}
  (h0:mN "__init__"=none) (hi:mL "__init__"=some (.ref fI)) (hfI:h.get? fI=some oI) (hfc:oI.cls=.type "function")
  (hq:∀h' e,Heap.MadeExcOf h h' e (.ref C) rest->
   wpAny (model prog w) (A.under (.builtin "type.__call__" ⟨.ref C::rest,[]⟩)) (call (.ref fI) (.ref e::rest)) (λr s'=>r=.none/\Q (.ref e) s') E ⟨h',g,d,t,os⟩) (hrest:rest.length≤sizeLine):
  wpAny (model prog w) A (call (.ref C) rest) Q E ⟨h,g,d,t,os⟩:=by
 obtain⟨xd,hC,hn⟩:=id x.cls
 have f1:=tc_lookup
 have f2:=tc_bind (.ref C)
 have hT:(⟨h,g,d,t,os⟩:Shared).TypeIs (.ref C) "type":=⟨_,hC,rfl⟩
 refine wpAny_call (codeAny_of_tree ?_)
 refine(?_:wpAny _ _ (callAny (.ref C) _) _ _ _)
 repeat(any_goals(first|assumption|with_reducible refine wpAny_loadPart_at hC ?_|wp_step))
 refine⟨rfl,?_⟩
 refine codeAny_call_builtin_at (Code.quiet_builtin _ (by decide+kernel)) entry_typeCall (wpAny_check_type_call_sub hC (vW x h0 hi hfI hfc (λh' e hm=>?_) hrest))
 exact hq h' e hm
theorem vX{C Lg:Addr}:(Value.ref C::.ref Lg::eb).contains (.type "object")=true:=by
 rw[VI,VI];simp[eb]
theorem Dh(X:eR h C Lg mN mL){M:Model}{x:Addr}{o:Obj}{T:Value}(hx:h.get? x=some o)(hc:o.cls=.ref C)(hT:(Value.ref C::.ref Lg::eb).contains T=true){Q:Bool->Shared->Prop}(hq:Q true ⟨h,g,d,t,os⟩):wpAny M A (isInstance (.ref x) T) Q E ⟨h,g,d,t,os⟩:=by
 obtain⟨xd,hC,hn⟩:=X.cls
 unfold isInstance
 repeat(first|(with_reducible refine wpAny_loadPart_at hx ?_;rw[hc])|(with_reducible refine wpAny_isSubtype_exc hC ?_;rw[hT])|wp_step)
 exact hq
theorem zY(X:eR h C Lg mN mL){M:Model}{x:Addr}{o:Obj}{nameV v:Value}{Q:Unit->Shared->Prop}(hx:h.get? x=some o)(hc:o.cls=.ref C)(hq:Q () ⟨h,g,d,t,os⟩):
  wpAny M A (checkBuiltinCall "object.__setattr__" ⟨[.ref x,nameV,v],[]⟩) Q E ⟨h,g,d,t,os⟩:=
 oJ (self:=.ref x) (rest:=[nameV,v]) (id:="object.__setattr__") (owner:="object") (name:="__setattr__") F.store_Exception.kind F.store_Exception.split (λhq=>Dh X hx hc vX hq) (F.store_Exception.args (.ref x) nameV v) hq
theorem rr(X:eR h C Lg mN mL){x:Addr}{mA:Str->Option Value}{name:Str}{v:Value}{tk:Tok}{Q:Fin->Shared->Prop}{ns:List Str}(hna:mN name=none)(hnl:mL name=none)
  (hB:typeLookup (.type "Exception") name=pure none) (hxC:x≠C) (I:h.InstFk x C mA)
  (hq:∀h' tk',h'.InstFk x C (λy=>if y=name then some v else mA y)->
   (∀b o,b≠x->(∀ay dx,h.get? x=some ay->ay.dict=some dx->b≠dx)->h.get? b=some o->h'.get? b=some o)->
   (∀ay,h.get? x=some ay->∃aJ,h'.get? x=some aJ/\aJ.cls=ay.cls/\aJ.data=ay.data/\aJ.slots=ay.slots/\(∀dx,ay.dict=some dx->aJ.dict=some dx)/\(ay.dict=none->aJ.dict=some h.objs.size))->Q (.done (.ret .none)) ⟨h',g,d,tk',os⟩) (hw:Within mA ns) (hsz:ns.length≤1000):
  wpAny (model prog w) A (Builtin.«object.__setattr__» ⟨[.ref x,.str name tk,v],[]⟩) Q E ⟨h,g,d,t,os⟩:=by
 obtain⟨xd,hC,hn⟩:=id X.cls
 refine e14 I λo hx hc hnc hd=>?_;clear I
 have hpass:=F.store_Exception.passes (.ref x)
 unfold Builtin.«object.__setattr__»
 repeat(first|rw[refuse_eq]|(rw[refuseLoop_ref,refuseLoop_ref,show eb=[.type "Exception",.type "BaseException",.type "object"] from rfl,hpass])|(with_reducible refine wpAny_loadPart_at hx ?_;rw[hc])|with_reducible refine wpAny_mroOf_exc hC ?_|(with_reducible refine jG X hB ?_;rw[hna];dsimp only;rw[hnl])|wp_step)
 rcases hd with⟨hdn,hmA⟩|⟨dx,hdx,hne,hns,hed⟩
 .
  rw[hdn,if_neg (by simp[typeHasDict])]
  split
  .rename_i hcd
   cases hcd
  split
  .rename_i c hcd
   exact absurd hcd (hnc c)
  .have b7:(h.push {cls:=.type "dict",data:=.dict #[]}).get? x=some o:=Vp _ hx
   have hxs:x≠h.objs.size:=VM (VP hx)
   refine wpAny_bind (wpAny_alloc' ?_)
   refine wpAny_bind (wpAny_update' b7 ?_)
   refine wpAny_pure ?_
   have hgd:((h.push {cls:=.type "dict",data:=.dict #[]}).update x λo=>{cls:=o.cls,dict:=some h.objs.size,data:=o.data,slots:=o.slots}).get? h.objs.size
     =some {cls:=.type "dict",data:=.dict #[]}:=
    (Heap.get?_update_ne _ _ _ _ hxs.symm).trans (Xu rfl rfl)
   have hnd:((h.push {cls:=.type "dict",data:=.dict #[]}).update x λo=>{cls:=o.cls,dict:=some h.objs.size,data:=o.data,slots:=o.slots}).Ns h.objs.size (λY=>none):=
    ⟨_,#[],_,hgd,rfl,λe he=>absurd he (by simp),λY=>rfl⟩
   refine(?_:wpAny _ _ (storeInDict h.objs.size (.str name tk) name v) _ _ _)
   unfold storeInDict newKeyGuard
   refine wpAny_bind (wpAny_pure (wpAny_bind (wpAny_nsSet1EFk (Heap.Ns1.of_empty hnd) λh' hn' hs hkeepD=>?_)))
   refine e33 (hn'.count (Within.cons name v Within.nil)) λoD esD epD hoD hdD hcD=>?_
   refine wpAny_bind (wpAny_lookBehind hoD (by rw[hdD];exact pastItsLine_dict (Vo hcD (by rw[WW,List.length_nil,sizeLine_eq];omega))) ?_)
   wp_walk
   have hx':h'.get? x=some {cls:=o.cls,dict:=some h.objs.size,data:=o.data,slots:=o.slots}:=?_
   refine hq h' _ ⟨{cls:=o.cls,dict:=some h.objs.size,data:=o.data,slots:=o.slots},hx',hc,hnc,.inr ⟨h.objs.size,rfl,hxs.symm,?_,(let⟨od',e',c',d'⟩:=hkeepD _ hgd;⟨od',e',c',d'⟩)⟩⟩ (λb ob hbx Y hb=>?_)
    (λay aW=>by obtain rfl:o=ay:=Vl (hx.symm.trans aW);exact⟨_,hx',rfl,rfl,rfl,(λdx e=>by rw[hdn] at e;cases e),λY=>rfl⟩)
   .refine e35 hn' λo' es ep e1 e2 e3 eu e4=>?_;clear hn'
    exact⟨o',es,ep,e1,e2,e3,eu,λy=>by rw[e4 y];by_cases hy:y=name<;>simp[hy,hmA]⟩
   .exact(hs.2 b (VM (VP hb))).trans ((Heap.get?_update_ne _ _ _ _ hbx).trans (Vp _ hb))
   .refine(hs.2 x hxs).trans (VD _ b7 ?_)
    have hfr:=(Heap.get?_some_iff.mp hx).2
    obtain⟨oc,od,odt,osl⟩:=o
    cases odt<;>first|rfl|exact hfr
 .
  rw[hdx]
  refine wpAny_pure ?_
  refine(?_:wpAny _ _ (storeInDict dx (.str name tk) name v) _ _ _)
  unfold storeInDict newKeyGuard
  refine wpAny_bind (wpAny_pure (wpAny_bind (wpAny_nsSet1EFk hns λh' hn' hs hkeepD=>?_)))
  refine e33 (hn'.count (Within.cons name v hw)) λoD esD epD hoD hdD hcD=>?_
  refine wpAny_bind (wpAny_lookBehind hoD (by rw[hdD];exact pastItsLine_dict (Vo hcD (by rw[WW,sizeLine_eq];omega))) ?_)
  wp_walk
  refine hq h' _ ⟨o,(hs.2 x hne.symm).trans hx,hc,hnc,.inr ⟨dx,hdx,hne,hn',(let⟨od,e,c,dd⟩:=hed;let⟨od',e',c',d'⟩:=hkeepD od e;⟨od',e',c'.trans c,d'.trans dd⟩)⟩⟩ (λb ob Y hbd hb=>?_)
   (λay aW=>⟨ay,(hs.2 x hne.symm).trans aW,rfl,rfl,rfl,λY e=>e,λe=>by obtain rfl:o=ay:=Vl (hx.symm.trans aW);rw[hdx] at e;cases e⟩)
  exact(hs.2 b (hbd o dx hx hdx)).trans hb
theorem KD(X:eR h C Lg mN mL){x:Addr}{mA:Str->Option Value}{name:Str}{v:Value}{Q:Unit->Shared->Prop}{ns:List Str}(hsN:mN "__setattr__"=none)(hsL:mL "__setattr__"=none)(hna:mN name=none)(hnl:mL name=none)
  (hB:typeLookup (.type "Exception") name=pure none) (hxC:x≠C) (I:h.InstFk x C mA)
  (hq:∀h' tk',h'.InstFk x C (λy=>if y=name then some v else mA y)->
   (∀b o,b≠x->(∀ay dx,h.get? x=some ay->ay.dict=some dx->b≠dx)->h.get? b=some o->h'.get? b=some o)->
   (∀ay,h.get? x=some ay->∃aJ,h'.get? x=some aJ/\aJ.cls=ay.cls/\aJ.data=ay.data/\aJ.slots=ay.slots/\(∀dx,ay.dict=some dx->aJ.dict=some dx)/\(ay.dict=none->aJ.dict=some h.objs.size))->Q () ⟨h',g,d,tk',os⟩) (hw:Within mA ns) (hsz:ns.length≤1000):
  wpAny (model prog w) A (setAttr (.ref x) name v) Q E ⟨h,g,d,t,os⟩:=by
 refine e13 (id I) λo hx hc Y=>?_
 have SF:=F.store_Exception
 have f3:=SF.slot.bind (.ref x)
 unfold setAttr callSpecial? specialOf
 repeat(any_goals(first|assumption|(with_reducible refine wpAny_loadPart_at hx ?_;rw[hc])|(with_reducible refine jG X SF.slot.lookup ?_;rw[hsN];dsimp only;rw[hsL])|wp_step))
 refine codeAny_call_builtin SF.slot.plain SF.entry (zY X hx hc (rr X hna hnl hB hxC I (λh' tk' I' hk hsame=>?_) hw hsz))
 repeat(any_goals(first|assumption|wp_step))
 exact hq h' tk' I' hk hsame
theorem zZ:typeLookup (.type "Exception") "__getattribute__"=pure (some (.builtin "BaseException.__getattribute__")):=by rw[typeLookup_type,builtinLookup_eq_fast];kernel_rfl
theorem oK:typeLookup (.type "Exception") "__getattr__"=pure none:=by rw[typeLookup_type,builtinLookup_eq_fast];kernel_rfl
theorem mI:Slot "Exception" "__getattribute__" "BaseException.__getattribute__":=
 .of (owner:="BaseException") (n:="__getattribute__") (by rw[typeLookup_type,builtinLookup_eq_fast];kernel_rfl) (by decide+kernel) (by decide+kernel) (by decide+kernel)
  (by first|exact .inl (by decide+kernel)|exact .inr (by decide+kernel)) (by rw[isSubtype_type];kernel_rfl)
theorem tv:builtinKind "BaseException.__getattribute__"=some .slot:=by decide+kernel
theorem ru:splitId "BaseException.__getattribute__"=some ("BaseException","__getattribute__"):=by decide+kernel
theorem tw(a b:Value):argsOk "BaseException.__getattribute__" ⟨[a,b],[]⟩:=by unfold argsOk;kernel_rfl
theorem rx:entryFor table "BaseException.__getattribute__"=some Builtin.«object.__getattribute__»:=
 entryFor_alias (id':="object.__getattribute__") (by rw[fastTable_eq_tree];kernel_rfl) (by first|rfl|decide+kernel) (by decide+kernel) (by rw[fastTable_eq_tree];kernel_rfl)
theorem Aa(X:eR h C Lg mN mL){M:Model}{x:Addr}{o:Obj}{nameV:Value}{Q:Unit->Shared->Prop}(hx:h.get? x=some o)(hc:o.cls=.ref C)(hq:Q () ⟨h,g,d,t,os⟩):
  wpAny M A (checkBuiltinCall "BaseException.__getattribute__" ⟨[.ref x,nameV],[]⟩) Q E ⟨h,g,d,t,os⟩:=
 oJ (self:=.ref x) (rest:=[nameV]) (id:="BaseException.__getattribute__") (owner:="BaseException") (name:="__getattribute__") tv ru (λhq=>Dh X hx hc tu hq) (tw (.ref x) nameV) hq
theorem GG{M:Model}{A:Around}{E:Value->Shared->Prop}{α:Type}{s:Shared}{D:Data}{Q:α->Shared->Prop}{a:ClassData->Sem α}{b:Sem α}(hn:∀c,D≠.cls c)(hb:wpAny M A b Q E s):wpAny M A (match D with|.cls c=>a c|_=>b) Q E s:=by
 cases D with
 |cls c=>exact absurd rfl (hn c)
 |_=>exact hb
theorem Ab(X:eR h C Lg mN mL){x dx:Addr}{o:Obj}{mA:Str->Option Value}{name:Str}{v:Value}{tk:Tok}{Q:Fin->Shared->Prop}(hna:mN name=none)(hnl:mL name=none)
  (hB:typeLookup (.type "Exception") name=pure none) (hx:h.get? x=some o) (hc:o.cls=.ref C) (hnc:∀c,o.data≠.cls c) (hdx:o.dict=some dx) (hns:h.Ns dx mA) (hv:mA name=some v) (hq:Q (.done (.ret v)) ⟨h,g,d,t,os⟩):
  wpAny (model prog w) A (Builtin.«object.__getattribute__» ⟨[.ref x,.str name tk],[]⟩) Q E ⟨h,g,d,t,os⟩:=by
 obtain⟨xd,hC,hn⟩:=id X.cls
 unfold Builtin.«object.__getattribute__»
 repeat(first|(with_reducible refine wpAny_loadPart_at hx ?_;rw[hc])|(with_reducible refine jG X hB ?_;rw[hna];dsimp only;rw[hnl])|wp_step)
 refine GG hnc ?_
 unfold instanceDict
 repeat(first|(with_reducible refine wpAny_loadPart_at hx ?_;rw[hc])|with_reducible refine wpAny_loadPart_at hC ?_|wp_step)
 rw[hdx]
 repeat(first|(with_reducible refine wpAny_nsGet hns ?_;rw[hv])|wp_step)
 exact hq
theorem NT(X:eR h C Lg mN mL){x:Addr}{mA:Str->Option Value}{name:Str}{v:Value}{expr:Bool}{Q:Value->Shared->Prop}(hgN:mN "__getattribute__"=none)(hgL:mL "__getattribute__"=none)(haN:mN "__getattr__"=none)(haL:mL "__getattr__"=none)(hna:mN name=none)(hnl:mL name=none)
  (hB:typeLookup (.type "Exception") name=pure none) {dx:Addr} {o:Obj} (hx:h.get? x=some o) (hc:o.cls=.ref C) (hnc:∀c,o.data≠.cls c) (hdx:o.dict=some dx) (hns:h.Ns dx mA) (hv:mA name=some v) (hh:handedOut v=pure v) (hq:Q v ⟨h,g,d,t+1,os⟩):
  wpAny (model prog w) A (getAttr (.ref x) name expr) Q E ⟨h,g,d,t,os⟩:=by
 unfold getAttr getAttrBy
 repeat(first|(with_reducible refine wpAny_loadPart_at hx ?_;rw[hc])|(with_reducible refine jG X zZ ?_;rw[hgN];dsimp only;rw[hgL])|wp_step)
 refine jG X oK ?_
 rw[haN];dsimp only;rw[haL]
 refine wpAny_bind (wpAny_attempt (wpAny_holding ?_))
 have hcg:callGetattribute (.ref x) (.str name t) (.builtin "BaseException.__getattribute__") expr=boundAndCalled (.builtin "BaseException.__getattribute__") (.ref x) (.str name t):=by
  unfold callGetattribute
  rw[show onTheHeap (.builtin "BaseException.__getattribute__")=false from rfl,Bool.and_false];rfl
 rw[hcg]
 unfold boundAndCalled
 rw[mI.bind]
 refine wpAny_bind (wpAny_pure ?_)
 refine wpAny_call (codeAny_call_builtin mI.plain rx (Aa X hx hc (Ab X hna hnl hB hx hc hnc hdx hns hv ?_)))
 refine(?_:wpAny _ _ (handedOut v) _ _ _)
 rw[hh]
 exact wpAny_pure hq
end
end
def tz(body:List Stmt):Prop:=∃p1 p2 p3 p4 p5 p6 p7 p8 p9 p10 p11 p12 p13 p14,
 body=[.Expr (.Call (.Attribute (.Name (Vm "Exception") p1) (Vm "__init__") p2) [.Name (Vm "self") p3,.Name (Vm "what") p4] [] p5) p6,
  .Assign [.Attribute (.Name (Vm "self") p7) (Vm "what") p8] (.Name (Vm "what") p9) p10,
  .Assign [.Attribute (.Name (Vm "self") p11) (Vm "at") p12] (.Name (Vm "at") p13) p14]/\p2.endLine=p5.line
theorem KE(h:Heap):Frag.In [] h:=λa o e=>by cases e
theorem vY:findCls [] (.type "Exception") (.type "type") (Vm "__init__")=some (.val (.builtin "Exception.__init__")):=by kernel_rfl
section
variable{prog:Program}{w:World}{A:Around}{E:Value->Shared->Prop}{s:Shared}
theorem tD{pl:Sem Bool}{Q:Value×List Value->Shared->Prop}(h:Q (.builtin "Exception.__init__",[]) {s with toks:=s.toks+1}):
  wpAny (model prog w) A (getMethod (.type "Exception") (Vm "__init__") pl) Q E s:=by
 have X:=KE s.heap
 have hstub:opaqueClassAbove (.type "Exception")=pure none:=by unfold opaqueClassAbove;dsimp only;rw[show Manifest.isStub "Exception"=false by decide+kernel];rfl
 have ht:typeOf (.type "Exception")=pure (.type "type"):=by first|rfl|kernel_rfl
 have L0:Looks (model prog w) s.heap (typeOf (.type "Exception")) (.type "type"):=Looks.of_pure ht
 have hg:findIn [] (.type "type") "__getattribute__"=some (some (.builtin "type.__getattribute__")):=type_tga
 unfold getMethod specialOf
 refine wpAny_bind (wpAny_bind (L0.here ((looks_findIn X hg).here ?_)))
 dsimp only
 refine jU canon_tga ?_
 refine wpAny_bind (wpAny_mono (Q:=λv=>Q (v,[])) (E:=E) ?_ (λY Y z=>wpAny_pure z) λY Y z=>z)
 have LO:Looks (model prog w) s.heap (opaqueClassAbove (.type "Exception")) none:=Looks.of_pure hstub
 refine cls_open X LO L0 hg (looks_hook X (r:=none) (by rfl)) (by show subIn [] _ _=_;rfl) vY ?_
 refine wpAny_pure ?_
 refine(?_:wpAny _ _ (handedOut _) _ _ _)
 rw[handedOut_of (by kernel_rfl)]
 exact wpAny_pure h
end
section
variable{prog:Program}{w:World}{A:Around}{E:Value->Shared->Prop}{h:Heap}{g:Array GenState}{d:Drawn}{t:Nat}{os:OsState}{C Lg:Addr}{mN mL:Str->Option Value}
theorem tF(X:eR h C Lg mN mL){M:Model}{e:Addr}{oe:Obj}{rest:List Value}{Q:Unit->Shared->Prop}(he:h.get? e=some oe)(hcls:oe.cls=.ref C)(hq:Q () ⟨h,g,d,t,os⟩):
  wpAny M A (checkBuiltinCall "Exception.__init__" ⟨.ref e::rest,[]⟩) Q E ⟨h,g,d,t,os⟩:=by
 obtain⟨xd,hC,hn⟩:=id X.cls
 have F:=F.excCall_Exception
 have hshort:=F.noStar
 refine mH (self:=.ref e) (rest:=rest) (id:="Exception.__init__") (owner:="Exception") (name:="__init__") F.initKind F.initSplit (λhq=>Dh X he hcls rq hq) ?_
 rw[F.initRow]
 dsimp only
 repeat(first|(with_reducible refine wpAny_loadPart_at he ?_;rw[hcls])|with_reducible refine wpAny_loadPart_at hC ?_|wp_step)
 refine wpAny_onRaise ?_
 rw[show∀(a b:String) (n:Nat),Bind.check ⟨.positional,"*","Exception",.self,[⟨"args",.varPos,false⟩]⟩ a b n (List.map (λx=>x.fst) ({pos:=Value.ref e::rest}:Args).kw)=pure () from
  λa b n=>check_star_args _ _ _ _ _ _]
 exact wpAny_pure hq
theorem Ac(X:eR h C Lg mN mL){e t0:Addr}{rest:List Value}{Q:Value->Shared->Prop}(he:h.get? e=some {cls:=.ref C,data:=.fields #[.ref t0,.none,.none,.none,.bool false,.none]})
  (hsz:rest.length≤100) (hq:∀h' t1,h'.get? e=some {cls:=.ref C,data:=.fields #[.ref t1,.none,.none,.none,.bool false,.none]}->(∀b o,b≠e->h.get? b=some o->h'.get? b=some o)->Q .none ⟨h',g,d,t,os⟩):
  wpAny (model prog w) A (call (.builtin "Exception.__init__") (.ref e::rest)) Q E ⟨h,g,d,t,os⟩:=by
 refine wpAny_call (codeAny_call_builtin F.excCall_Exception.init.plain F.excCall_Exception.initEntry (tF X he rfl ?_))
 unfold Builtin.«BaseException.__init__»
 dsimp only
 refine wpAny_bind ?_
 unfold newTuple
 refine wpAny_newObj_type ?_ (by show rest.toArray.size≤sizeLine;rw[sizeLine_eq];simp;omega)
 have he1:(h.push {cls:=.type "tuple",data:=.seq rest.toArray}).get? e=some {cls:=.ref C,data:=.fields #[.ref t0,.none,.none,.none,.bool false,.none]}:=Vp _ he
 refine wpAny_bind ?_
 unfold Builtin.BaseException.bexcPut
 refine wpAny_bind (wpAny_field he1 rfl rfl ?_)
 refine wpAny_bind (wpAny_setField he1 rfl (by simp) ?_)
 refine wpAny_letGo ?_
 refine wpAny_pure ?_
 refine hq _ h.objs.size ((VD _ he1 rfl).trans rfl) λb o hb e1=>?_
 rw[Wj _ _ (Ne.symm hb)]
 exact Vp _ e1
end
theorem eR.but{h h':Heap}{C Lg e:Addr}{mN mL:Str->Option Value}{oe:Obj}{vs:Array Value}(x:eR h C Lg mN mL)(he:h.get? e=some oe)(hd:oe.data=.fields vs)(k:∀b o,b≠e->h.get? b=some o->h'.get? b=some o):eR h' C Lg mN mL:=by
 have nf:∀b o,h.get? b=some o->(∀vs,o.data≠.fields vs)->h'.get? b=some o:=λb o q n=>k b o (λe=>by subst e;rw[he] at q;cases q;exact n _ hd) q
 have zQ:∀{C l m},mG h C l m->mG h' C l m:=λx=>by
  obtain⟨xd,h1,o,es,ep,e1,e2,r⟩:=x
  exact⟨xd,nf _ _ h1 (λvs q=>by cases q),o,es,ep,nf _ _ e1 (λvs q=>by rw[e2] at q;cases q),e2,r⟩
 exact⟨zQ x.cls,zQ x.base⟩
theorem qv:typeLookup (.type "Exception") (Vm "what")=pure none:=by rw[typeLookup_type,builtinLookup_eq_fast];kernel_rfl
theorem yr:typeLookup (.type "Exception") (Vm "at")=pure none:=by rw[typeLookup_type,builtinLookup_eq_fast];kernel_rfl
structure oM(h:Heap)(fI:Addr)(fd:FuncData)(bd:List Stmt):Prop where
 at_:∃o,h.get? fI=some o/\o.cls=.type "function"/\o.data=.func fd
 body:fd.body=.stmts bd
 text:tz bd
 kind:fd.scope.kind=.function
 co:fd.scope.isCoroutine=false
 gen:fd.scope.isGenerator=false
 glob:fd.globals=mainGlobals
 bi:fd.builtins=0
 code:h.CodeRec fd.code fd.qualname
 nocell:∀x∈fd.scope.names,x.2≠.cell
 self:fd.scope.names.lookup (Vm "self")=some .local
 what:fd.scope.names.lookup (Vm "what")=some .local
 at1:fd.scope.names.lookup (Vm "at")=some .local
 exc:fd.scope.names.lookup (Vm "Exception")=some .globalImplicit
 lim:h.NoLimit
 globs:∃mg mb,h.Ns mainGlobals mg/\h.Ns 0 mb/\mg (Vm "Exception")=none/\mb (Vm "Exception")=some (.type "Exception")
section
variable{prog:Program}{w:World}{A:Around}{E:Value->Shared->Prop}{g:Array GenState}{d:Drawn}{t:Nat}{os:OsState}{C Lg:Addr}{mN mL:Str->Option Value}
theorem Di{h:Heap}{fI e t0 L:Addr}{fd:FuncData}{m:Str->Option Value}{mg mb:Str->Option Value}{v:Value}{p1 p2 p3 p4 p5 p6:Pos}{Q:Flow->Shared->Prop}(X:eR h C Lg mN mL)
  (he:h.get? e=some {cls:=.ref C,data:=.fields #[.ref t0,.none,.none,.none,.bool false,.none]}) (kind:fd.scope.kind=.function) (glob:fd.globals=mainGlobals) (bi:fd.builtins=0) (exc:fd.scope.names.lookup (Vm "Exception")=some .globalImplicit)
  (hg:h.Ns mainGlobals mg) (hb:h.Ns 0 mb) (e1:mg (Vm "Exception")=none) (e2:mb (Vm "Exception")=some (.type "Exception")) (hline:p2.endLine=p5.line)
  (hL:h.Ns L m) (k1:fd.scope.names.lookup (Vm "self")=some .local) (k2:fd.scope.names.lookup (Vm "what")=some .local) (m1:m (Vm "self")=some (.ref e)) (m2:m (Vm "what")=some v)
  (hq:∀h' t1 t',h'.get? e=some {cls:=.ref C,data:=.fields #[.ref t1,.none,.none,.none,.bool false,.none]}->(∀b o,b≠e->h.get? b=some o->h'.get? b=some o)->Q .next ⟨h',g,d,t',os⟩):
  wpAny (model prog w) A (exec (.Expr (.Call (.Attribute (.Name (Vm "Exception") p1) (Vm "__init__") p2) [.Name (Vm "self") p3,.Name (Vm "what") p4] [] p5) p6) (callEnv fd L fI)) Q E ⟨h,g,d,t,os⟩:=by
 refine wpAny_Expr_any ?_ (by unfold interactive;show(fd.scope.kind==.module&&_)=false;rw[kind];rfl) (by rfl)
 rw[arm_eval_Call]
 refine wpAny_bind ?_
 refine(?_:wpAny _ _ (eval (.Name (Vm "Exception") p1) (callEnv fd L fI)) _ _ _)
 rw[eval_Name _ _ _ (by decide+kernel)]
 refine wpAny_bind (wpAny_standAt ?_)
 rw[PyProof.Rows.loadName_read (env:=callEnv fd L fI) (show(callEnv fd L fI).scope.kind=.function from kind) (show(callEnv fd L fI).kindOf (Vm "Exception")=some .globalImplicit from exc)]
 refine Calls.loadGlobal_builtin (by rw[show(callEnv fd L fI).globals=mainGlobals from glob];exact hg) e1 (by rw[show(callEnv fd L fI).builtins=0 from bi];exact hb) e2 ?_
 refine wpAny_bind (wpAny_standAt ?_)
 unfold methodCall
 have Nt:methodCallForm ([Expr.Name (Vm "self") p3,.Name (Vm "what") p4].length+([]:List Keyword).length) (backTo p5 (starEach [Expr.Name (Vm "self") p3,.Name (Vm "what") p4] (callEnv fd L fI))) (backToKw p5 (keywordEach [] (callEnv fd L fI)))=true:=by rfl
 rw[Nt]
 unfold calleeOf methodCallPos
 rw[if_pos rfl]
 refine wpAny_bind (wpAny_holding (tD ?_))
 have hl:(!true||p2.endLine==p5.line)=true:=by rw[hline];exact beq_self_eq_true _
 dsimp only
 rw[if_pos hl]
 refine wpAny_bind (wpAny_pure ?_)
 refine Calls.callWith_builtin rfl ?_
 refine Calls.evalArgs_plain ?_
 refine wpAny_items_cons (ldc kind k1 hL m1 ?_ (by decide+kernel)) rfl
 refine wpAny_items_cons (ldc kind k2 hL m2 ?_ (by decide+kernel)) rfl
 refine wpAny_items_nil ?_
 exact Ac X he (show 1≤100 by decide) λh1 t1 q1 k1=>hq h1 t1 _ q1 k1
theorem qw{h:Heap}{fI e L:Addr}{fd:FuncData}{m mA:Str->Option Value}{nm:Str}{v:Value}{ns:List Str}{p1 p2 p3 p4:Pos}{Q:Flow->Shared->Prop}(X:eR h C Lg mN mL)(kind:fd.scope.kind=.function)
  (hL:h.Ns L m) (k1:fd.scope.names.lookup (Vm "self")=some .local) (k2:fd.scope.names.lookup nm=some .local) (m1:m (Vm "self")=some (.ref e)) (m2:m nm=some v) (hnd:(nm==("__debug__":Str))=false)
  (hsN:mN "__setattr__"=none) (hsL:mL "__setattr__"=none) (w1:mN nm=none) (w2:mL nm=none) (dY:typeLookup (.type "Exception") nm=pure none) (eC:e≠C) (I:h.InstFk e C mA) (hw:Within mA ns) (hsz:ns.length≤1000)
  (hq:∀h' tk',h'.InstFk e C (λy=>if y=nm then some v else mA y)->
   (∀b o,b≠e->(∀ay dx,h.get? e=some ay->ay.dict=some dx->b≠dx)->h.get? b=some o->h'.get? b=some o)->
   (∀ay,h.get? e=some ay->∃aJ,h'.get? e=some aJ/\aJ.cls=ay.cls/\aJ.data=ay.data/\aJ.slots=ay.slots/\(∀dx,ay.dict=some dx->aJ.dict=some dx)/\(ay.dict=none->aJ.dict=some h.objs.size))->Q .next ⟨h',g,d,tk',os⟩):
  wpAny (model prog w) A (exec (.Assign [.Attribute (.Name (Vm "self") p1) nm p2] (.Name nm p3) p4) (callEnv fd L fI)) Q E ⟨h,g,d,t,os⟩:=by
 refine wpAny_Assign_stores ?_ (by rfl) (by rfl)
 refine ldc kind k2 hL m2 ?_ hnd
 refine(?_:wpAny _ _ (assign (.Attribute (.Name (Vm "self") p1) nm p2) (callEnv fd L fI) v) _ _ _)
 rw[arm_assign_Attribute]
 refine wpAny_bind (wpAny_holding (ldc kind k1 hL m1 ?_ (by decide+kernel)))
 exact wpAny_bind (wpAny_standAt (wpAny_bind (wpAny_holding (KD X hsN hsL w1 w2 dY eC I (λh2 tk2 I2 k2 s2=>wpAny_release (hq h2 tk2 I2 k2 s2)) hw hsz))))
theorem Ns.at_{h h':Heap}{a:Addr}{m:Str->Option Value}(x:h.Ns a m)(k:∀o,h.get? a=some o->h'.get? a=some o):h'.Ns a m:=by
 obtain⟨oL,es,ep,q1,q2⟩:=x
 exact⟨oL,es,ep,k _ q1,q2⟩
theorem Ad{h:Heap}{fI e t0:Addr}{fd:FuncData}{body:List Stmt}{v a:Value}{args:List Value}{Q:Value->Shared->Prop}(X:eR h C Lg mN mL)(IF:oM h fI fd body)
  (he:h.get? e=some {cls:=.ref C,data:=.fields #[.ref t0,.none,.none,.none,.bool false,.none]})
  (hbind:BindsTo ⟨h,g,d,t,os⟩ fd ⟨args,[]⟩ [(Vm "self",.ref e),(Vm "what",v),(Vm "at",a)]) (hroom:A.depth<recursionLimit)
  (hsN:mN "__setattr__"=none) (hsL:mL "__setattr__"=none) (w1:mN (Vm "what")=none) (w2:mL (Vm "what")=none) (a1:mN (Vm "at")=none) (a2:mL (Vm "at")=none)
  (hq:∀h' t',(∀b o,b≠e->h.get? b=some o->h'.get? b=some o)->(∃t1 dx m,h'.get? e=some {cls:=.ref C,dict:=some dx,data:=.fields #[.ref t1,.none,.none,.none,.bool false,.none]}/\h.get? dx=none/\dx≠e/\h'.Ns dx m/\∀y,m y=if y=Vm "at" then some a else if y=Vm "what" then some v else none)->Q .none ⟨h',g,d,t',os⟩):
  wpAny (model prog w) A (call (.ref fI) args) Q E ⟨h,g,d,t,os⟩:=by
 refine e13 IF.at_ λo ho hoc hod=>?_
 obtain⟨p1,p2,p3,p4,p5,p6,p7,p8,p9,p10,p11,p12,p13,p14,hb,hline⟩:=IF.text
 subst hb
 refine wpAny_call (codeAny_call_def hroom ho hod IF.lim IF.code IF.body hbind IF.nocell (λx hx=>?_) (λaW hns bg=>?_) IF.co IF.gen IF.kind)
 .rcases List.mem_cons.mp hx with rfl|hx
  .exact IF.self
  rcases List.mem_cons.mp hx with rfl|hx
  .exact IF.what
  rcases List.mem_cons.mp hx with rfl|hx
  .exact IF.at1
  .cases hx
 refine e24 IF.globs λmg mb hg hbn e1 e2=>?_
 have b8:=bg _ _ he
 have b9:=X.keeps bg
 have hLe:h.objs.size≠e:=Wk (VP he)
 have eC:e≠C:=λq=>by
  obtain⟨xd,hC,hn⟩:=X.cls
  rw[<-q,he] at hC;cases hC
 refine wpAny_execs_cons (Di b9 b8 IF.kind IF.glob IF.bi IF.exc (hg.keeps bg) (hbn.keeps bg) e1 e2 hline hns IF.self IF.what (by rfl) (by rfl) λh1 t1 t' q1 k1=>?_)
 have X1:eR h1 C Lg mN mL:=b9.but b8 rfl k1
 have hL1:=Ns.at_ hns λo q=>k1 _ o hLe q
 refine wpAny_execs_cons (qw (ns:=[]) X1 IF.kind hL1 IF.self IF.what (by rfl) (by rfl) (by decide+kernel) hsN hsL w1 w2 qv eC (mA:=λY=>none) ⟨_,q1,rfl,(λc q=>Data.noConfusion q),.inl ⟨rfl,λY=>rfl⟩⟩ Within.nil (V6 _) λh2 tk2 I2 k2 s2=>?_)
 refine e16 (s2 _ q1) λo2 g2 c2 d2 sl2 Y n2=>?_
 have n2:=n2 rfl
 have k2:∀b o,b≠e->h1.get? b=some o->h2.get? b=some o:=λb o hb q=>k2 b o hb (λay dx q3 q4=>by rw[q1] at q3;cases q3;cases q4) q
 have X2:eR h2 C Lg mN mL:=X1.but q1 rfl k2
 refine wpAny_execs_cons (qw (ns:=[Vm "what"]) X2 IF.kind (Ns.at_ hL1 λo q=>k2 _ o hLe q) IF.self IF.at1 (by rfl) (by rfl) (by decide+kernel) hsN hsL a1 a2 yr eC I2 (Within.cons _ _ Within.nil) (by decide) λh3 tk3 I3 k3 s3=>wpAny_execs_nil ?_)
 refine e16 (s3 _ g2) λo3 g3 c3 d3 sl3 n3 Y=>?_
 have n3:=n3 _ n2
 have up:∀b o,b≠e->h.get? b=some o->h3.get? b=some o:=λb o hb q=>
  have q:=k1 b o hb (bg b o q)
  k3 b o hb (λay dx r1 r2=>by
   rw[g2] at r1;cases r1
   rw[n2] at r2;cases r2
   exact VM (VP q)) (k2 b o hb q)
 refine e14 I3 λo3' g3' Y Y hd3=>?_;clear I3
 rw[g3] at g3';obtain rfl:=Vl g3'
 rcases hd3 with⟨q,_⟩|⟨dx,r1,r2,r3,_⟩
 .rw[n3] at q;cases q
 rw[n3] at r1;obtain rfl:=Vl r1
 refine hq h3 tk3 up ⟨t1,h1.objs.size,_,?_,?_,r2,r3.ns,λy=>rfl⟩
 .rw[g3]
  obtain⟨x1,x2,x3,x4⟩:=o3
  dsimp only at c3 d3 sl3 n3
  rw[c3,c2,d3,d2,sl3,sl2,n3]
 .cases q:h.get? h1.objs.size with
  |none=>rfl
  |some ob=>
   have:=k1 _ _ (Ne.symm (VM (VP q1))) (bg _ _ q)
   exact absurd (VP this) (WH _)
end
section
variable{g:Gb}{c c':Cf}
section
variable{A:Around}{E:Value->Shared->Prop}{h:H}{s:Shared}
theorem tH{k:Nat}:∀{lo n:Int},lo≤n->n<lo+k->n∈Bh lo k:=by
 induction k with
 |zero=>exact λ{lo n} h1 h2=>absurd h1 (Int.not_le.mpr (by rwa [Int.natCast_zero,Int.add_zero] at h2))
 |succ k ih=>
  intro lo n h1 h2
  by_cases e:n=lo
  .subst e;exact Vq
  .exact Vr _ (ih (Int.add_one_le_of_lt (Int.lt_iff_le_and_ne.mpr ⟨h1,Ne.symm e⟩)) (by rwa [Int.natCast_add,Int.add_comm (k:Int),<-Int.add_assoc] at h2))
theorem oO{l:List V}{i:Int}{is:List Int}:∀{vs:List V},qT l is=some vs->i∈is->∃j v,JH l.length i=some j/\fF l j=some v/\v∈vs:=by
 induction is with
 |nil=>exact λY hi=>absurd hi Vv
 |cons a r ih=>
  exact λh hi=>cW h λj e1 h=>cW h λv e2 h=>cW h λvs e3 h=>by
   cases h
   cases hi with
   |head=>exact⟨j,v,e1,e2,Vq⟩
   |tail _ hi=>exact(ih e3 hi).elim λj q=>q.elim λv q=>⟨j,v,q.1,q.2.1,Vr _ q.2.2⟩
theorem fh{α β:Type}[DecidableEq β]{w:α->Option β}{a b:α}(mk:β->α)(hm:∀a x,w a=some x->a=mk x)(h:fJ w a b=true):a=b:=
 cP h λY e1 h=>cP h λY e2 h=>(hm _ _ e1).trans ((congrArg mk (of_decide_eq_true h)).trans (hm _ _ e2).symm)
theorem ef(a:AI)(x:Int)(h:fx a=some x):a=.c x:=by
 cases a with
 |c n=>exact congrArg AI.c (Vl h)
 |_=>exact nn h
theorem oP(a:AI)(x:Nat×Int×Int)(h:nF a=some x):a=.s x.1 x.2.1 x.2.2:=by
 cases a with
 |s k l u=>exact congrArg (λx:Nat×Int×Int=>AI.s x.1 x.2.1 x.2.2) (Vl h)
 |_=>exact nn h
theorem vZ(a:AI)(x:Option Int×Option Int)(h:RL a=some x):a=.u x.1 x.2:=by
 cases a with
 |u l u=>exact congrArg (λx:Option Int×Option Int=>AI.u x.1 x.2) (Vl h)
 |_=>exact nn h
theorem ry(a:AI)(x:Nat)(h:Bg a=some x):a=.pb x:=by
 cases a with
 |pb d=>exact congrArg AI.pb (Vl h)
 |_=>exact nn h
theorem lU{a b:AI}(h:nG a b=true):a=b:=
 eL h (fh AI.c ef) λh=>eL h (fh _ oP) λh=>eL h (fh _ vZ) λh=>eL h (fh AI.st λY Y=>jp) (fh _ ry)
theorem ie{a:V}(h:d8 a=true):a=.none:=by
 cases a with
 |none=>rfl
 |_=>exact ft h
theorem lV{a b:V}(h:g8 a b=true):a=b:=
 eL h (λh=>cP h λx e1 h=>cP h λy e2 h=>(eD e1).trans ((congrArg V.int (lU h)).trans (eD e2).symm)) λh=>
  eL h (λh=>cT h λh1 h2=>(ie h1).trans (ie h2).symm) λh=>eL h (fh V.bool λY Y=>jD) (fh V.str λY Y=>gD)
theorem qx{l:List V}{v:V}(h:v∈l):v∈nH l:=by
 induction l with
 |nil=>exact h
 |cons a r ih=>
  refine(?_:v∈db (cR (nB r) λp=>g8 a p.1) (nH r) (a::nH r))
  cases e:cR (nB r) λp=>g8 a p.1 with
  |false=>cases h with
   |head=>exact Vq
   |tail _ h=>exact Vr _ (ih h)
  |true=>cases h with
   |tail _ h=>exact ih h
   |head=>cases r with
    |nil=>exact ft e
    |cons b r=>exact ih (lV (show g8 v b=true from e)▸Vq)
theorem qy{σ:Nat->Int}{i:AI}{n:Int}{is:List Int}(hi:dO σ i n)(h:Bk i=some is):n∈is:=
 fN h (λh=>cW h λx e h=>si h▸List.mem_singleton.mpr (hi.cst e)) λh=>cW h λa e1 h=>cW h λb e2 h=>dK h λY h=>si h▸
  tH (hi.lo e1) (VW (hi.hi e2) (Ww (show b<a+(b - a+1) by omega) (Xe (Int.self_le_toNat _) a)))
theorem rz{σ:Nat->Int}{l:List V}{i:AI}{n:Int}{K:V->Bool}(hi:dO σ i n)(hk:JJ l i K=true):l.length≤10000/\∃j v,NL l.length n j/\fF l j=some v/\K v=true:=
 cT hk λhl hk=>⟨eQ hl,cP hk λis e1 hk=>cP hk λvs e2 hk=>(oO e2 (qy hi e1)).elim λj q=>q.elim λv q=>⟨j,v,rj q.1,q.2.1,c9 hk (qx q.2.2)⟩⟩
theorem KF{σ:Nat->Int}{l:List AI}:∀{b:List UInt8} {j:Nat} {a:AI},BR σ l b->fF l j=some a->∃y,b[j]? =some y/\dO σ a (y.toNat:Int):=by
 induction l with
 |nil=>exact λY e=>nn e
 |cons x r ih=>
  intro b j a hb e
  refine e23 hb λy t zq57 h1 h2=>?_;clear hb
  cases zq57
  cases j with
  |zero=>exact⟨y,rfl,si e▸h1⟩
  |succ j=>exact ih (b:=t) h2 e
theorem v0{v:V}{vs:List V}:∀{as:List AI},qQ vs=some as->v∈vs->∃a,v=.int a/\a∈as:=by
 induction vs with
 |nil=>exact λY h=>absurd h Vv
 |cons w r ih=>
  exact λh hv=>cW h λa e1 h=>cW h λl e2 h=>by
   cases h
   cases hv with
   |head=>exact⟨a,eD e1,Vq⟩
   |tail _ hv=>exact(ih e2 hv).elim λb q=>⟨b,q.1,Vr _ q.2⟩
theorem v4{a:AI}{as:List AI}:∀{ns:List Int},Bj as=some ns->a∈as->∃n,a=.c n/\n∈ns:=by
 induction as with
 |nil=>exact λY h=>absurd h Vv
 |cons w r ih=>
  exact λh hv=>cW h λn e1 h=>cW h λl e2 h=>by
   cases h
   cases hv with
   |head=>exact⟨n,ef _ _ e1,Vq⟩
   |tail _ hv=>exact(ih e2 hv).elim λb q=>⟨b,q.1,Vr _ q.2⟩
theorem fQ{α:Type}{l:List α}(h:dU l=true):l=[]:=by
 cases l with
 |nil=>rfl
 |cons=>exact ft h
theorem Dj{σ:Nat->Int}{as:List AI}{a z:AI}{m:Int}(h:Iq as=some z)(ha:a∈as)(r:dO σ a m):dO σ z m:=
 cW h λp e h=>fN h (λh=>dK h λe2 h'=>by
  cases as with
  |nil=>exact nn e
  |cons x t=>
   cases e;cases h';cases fQ e2
   rw[List.mem_singleton.mp ha] at r;exact r) λh=>cW h λns e h=>by
  cases h
  refine e12 (v4 e ha) λn zq58 hn=>?_
  cases zq58
  cases (show m=n from r)
  exact hn
theorem GH{x:Int}{l:List Int}:M6 l=true->x∈l->0≤x:=by
 induction l with
 |nil=>exact λY h=>absurd h Vv
 |cons y r ih=>
  exact λh hx=>cT h λh1 h=>by
   cases hx with
   |head=>exact of_decide_eq_true h1
   |tail _ hx=>exact ih h hx
theorem GI{σ:Nat->Int}{l:List AI}{b:List UInt8}{i:AI}{n:Int}{K:V->Bool}(hb:BR σ l b)(hi:dO σ i n)(hk:M7 l i K=true):0≤n/\n<b.length/\∃a,dO σ a ((b.getD n.toNat 0).toNat:Int)/\K (.int a)=true:=
 cP hk λis e1 hk=>cT hk λh0 hk=>cP hk λvs e2 hk=>cP hk λas e3 hk=>cP hk λa e4 hK=>by
  have hm:=qy hi e1
  refine e23 (oO e2 hm) λj v q1 q2 q3=>?_
  refine e12 (v0 e3 q3) λx zq59 hx=>?_
  cases zq59
  have h0:=GH h0 hm
  rw[VG,<-hb.len] at q1
  rw[x7] at q2
  refine e12 (Option.map_eq_some_iff.mp q2) λy hy hyy=>?_
  cases hyy
  refine e12 (KF hb hy) λz hz hr=>?_
  cases rj q1 with
  |down _ _ _ _ hn=>exact absurd h0 (Int.not_le.mpr hn)
  |up _ ht=>exact⟨h0,Int.ofNat_lt.mpr ht,a,by rw[VH,List.getD_eq_getElem?_getD,hz];exact Dj e4 hx hr,hK⟩
noncomputable def pM(e i:Expr)(p:Pos)(v w:Value):Sem Value:=do standAt p;let r<-subscripted i (<-getitemInPython v) v w;letTemporaryGo e v r;pure r
theorem rA{e i:Expr}{p:Pos}{v w:Value}{T id:String}{Q:Value->Shared->Prop}(hs:∀lo hi st p,i≠.Slice lo hi st p)(hl:typeLookup (.type T) "__getitem__"=pure (some (.builtin id)))(hT:s.TypeIs v T)(hg:wpAny g.M A (getItem v w) Q E s):
  wpAny g.M A (pM e i p v w) Q E s:=by
 have hsub:subscripted i false v w=operate [v,w] (getItem v w):=by
  cases i with
  |Slice=>exact absurd rfl (hs _ _ _ _)
  |_=>rfl
 show wpAny g.M A (do standAt p;let r<-subscripted i (<-getitemInPython v) v w;letTemporaryGo e v r;pure r) Q E s
 rw[getitemInPython_of_ne hT.not_modules]
 refine wpAny_bind (wpAny_standAt (wpAny_bind (wpAny_bind (wpAny_specialOf hT hl (wpAny_pure (wpAny_bind ?_))))))
 refine(?_:wpAny g.M A (subscripted i false v w) (λr av=>wpAny g.M A (letTemporaryGo e v r>>=λY=>pure r) Q E av) E s)
 rw[hsub]
 exact wpAny_operating (wpAny_mono hg (λr av aw=>wpAny_bind (wpAny_letTemporaryGo (wpAny_pure aw))) λY Y x=>x)
theorem Dk(W:SW g){e i:Expr}{p:Pos}{a b:V}{v w:Value}{K:V->H->Bool}(I:cV g c h s)(hv:VR g c a v)(hw:VR g c b w)(hk:(Ir g.C a b h λv=>K v h)=true)(hs:∀lo hi st p,i≠.Slice lo hi st p):
  wpAny g.M A (pM e i p v w) (QV g c K) E s:=
 eL hk (λhk=>kI (P:=λw=>wpAny g.M A (pM e i p v w) (QV g c K) E s) hk hw λai n u hn hk=>eL hk
  (λhk=>kT (P:=λv=>wpAny g.M A (pM e i p v _) (QV g c K) E s) hk hv λl x vs hT hr hk=>(rz hn hk).2.elim λj q=>q.elim λy q=>(hr.nth q.2.1).elim λz hz=>
   rA hs PyProof.Rows.slot_tuple_getitem.lookup (I.tup _ _ hT).typeIs (by
    have h2:=q.1
    have hz':vs.toArray[j]? =some z:=by rw[List.getElem?_toArray];exact hz.1
    have hQ:QV g c K z s:=.at I hz.2 q.2.2
    have hl:=Vo (Vu hr.length) (rz hn hk).1
    rw[<-hr.length] at h2
    cases h2 with
    |up _ hj=>exact getItem_tuple (I.tup _ _ hT) (by omega) (by omega) (by rw[VN];exact Ct hj) hz' hQ
    |down _ _ hj e hi=>exact getItem_tuple (I.tup _ _ hT) (by omega) (by omega) (by rw[VN];exact Cu hj e hi) hz' hQ)) λhk=>eL hk
  (λhk=>kB (P:=λv=>wpAny g.M A (pM e i p v _) (QV g c K) E s) hk hv λl b t hb hk=>cT hk λhl hk=>by
   obtain⟨h1,h2,x,h3,hK⟩:=GI hb hn hk
   have:=getItem_bytes (prog:=g.pr) (w:=g.wd) (A:=A) (E:=E) (s:=s) (t:=t) (u:=u) (l:=b.toList) (i:=n) (Q:=QV g c K) (Vo (Vo (Vu hb.len) (eQ hl)) (by decide)) h1 h2 (.ti I h3 hK)
   rw[W8] at this
   exact rA hs FB.slot_bytes_getitem.lookup rfl this) λhk=>kL (P:=λv=>wpAny g.M A (pM e i p v _) (QV g c K) E s) W I hk hv λl x ws h1 h2 hl hk=>
   (rz hn hk).2.elim λj q=>q.elim λy q=>(h2.nth q.2.1).elim λz hz=>rA hs slot_list_getitem.lookup h1.isList.typeIs (by
    have hi:=q.1
    have hz':ws[j]? =some z:=(Wz).symm.trans hz.1
    have hQ:QV g c K z s:=.at I hz.2 q.2.2
    have hl:=Vo (Vu (ew h2)) hl
    rw[<-ew h2] at hi
    cases hi with
    |up _ hj=>exact wpAny_getItem_list h1.isList (VV _) (by omega) (by rw[VH];exact hz') hQ
    |down _ _ hj e hi=>exact wpAny_getItem_list_neg h1.isList hi (by omega) (by omega) (by rw[e,VH];exact hz') hQ)) λhk=>
 kS (P:=λw=>wpAny g.M A (pM e i p v w) (QV g c K) E s) hk hw λx t h0 Y hk=>kD (P:=λv=>wpAny g.M A (pM e i p v _) (QV g c K) E s) W I hk hv λl y kvs h1 h2 h3 Y hk=>
  cP hk λz hz hK=>((h3.at h0).1 z hz).elim λu q=>rA hs slot_dict_getitem.lookup h1.mapOf.typeIs (wpAny_getItem_of oq h1.mapOf q.1 (.at (I.tok _) q.2 hK))
end
end
section
variable{g:Gb}{c c':Cf}
theorem fZ:Slot "bytearray" "__getitem__" "bytearray.__getitem__":=
 .of (owner:="bytearray") (n:="__getitem__") (by rw[typeLookup_type,builtinLookup_eq_fast];kernel_rfl) (by decide+kernel) (by decide+kernel) (by decide+kernel)
  (by first|exact .inl (by decide+kernel)|exact .inr (by decide+kernel)) (by rw[isSubtype_type];kernel_rfl)
theorem lW:entryFor table "bytearray.__getitem__"=some Builtin.«bytearray.__getitem__»:=entryFor_of_tree (by kernel_rfl)
theorem mS(a b:Value):argsOk "bytearray.__getitem__" ⟨[a,b],[]⟩:=by unfold argsOk;kernel_rfl
section
variable{A:Around}{E:Value->Shared->Prop}{h:H}{s:Shared}
noncomputable def tJ(v:Value):Sem Value:=do
 if v==.none then return .none
 if(<-specialOf v "__index__").isNone then
  rule "bytes.slice.part-no-index";raiseError "TypeError" "slice indices must be integers or None or have an __index__ method"
 return rawInt (<-asIndex v)
theorem sliceParts_eq(v:Value):Builtin.Bytes.sliceParts v=(do
  let step<-tJ (<-field v 2)
  if step==rawInt 0 then rule "bytes.slice.step-zero";raiseError "ValueError" "slice step cannot be zero"
  let start<-tJ (<-field v 0)
  let stop<-tJ (<-field v 1)
  return (start,stop,step)):=rfl
theorem oQ{v:Value}{k:Option Int}{Q:Value->Shared->Prop}(hv:IsPart v k)(h:Q (rawPart k) s):wpAny g.M A (tJ v) Q E s:=by
 cases hv with
 |none=>exact wpAny_pure h
 |int i t=>
  unfold tJ
  refine eB (show¬((Value.int i t==Value.none)=true) from Vs) ?_
  refine wpAny_bind (wpAny_specialOf (T:="int") (typeIs_int s i t) int_index ?_)
  refine eB Vs ?_
  exact wpAny_bind (wpAny_of_eq (a:=i) rfl (wpAny_pure h))
theorem oR{a:Addr}{l u:Value}{lo hi:Option Int}{Q:Value×Value×Value->Shared->Prop}(hs:s.heap.IsSliceOf a l u .none)(hl:IsPart l lo)(hu:IsPart u hi)(h:Q (rawPart lo,rawPart hi,rawPart none) s):wpAny g.M A (Builtin.Bytes.sliceParts (.ref a)) Q E s:=by
 refine e13 hs λo ho hc hd=>?_;clear hs
 rw[sliceParts_eq]
 refine wpAny_bind (wpAny_field (x:=.none) ho hd rfl (wpAny_bind (oQ .none ?_)))
 refine eB (show¬((rawPart none==rawInt 0)=true) from Vs) ?_
 refine wpAny_bind (wpAny_field (x:=l) ho hd rfl (wpAny_bind (oQ hl ?_)))
 exact wpAny_bind (wpAny_field (x:=u) ho hd rfl (wpAny_bind (oQ hu (wpAny_pure h))))
theorem tK{a:Addr}{l u st:Value}{Q:Option Int->Shared->Prop}(hs:s.heap.IsSliceOf a l u st)(h:Q none s):wpAny g.M A (Builtin.Bytes.subscript? (.ref a)) Q E s:=by
 refine e13 hs λo ho hc hd=>?_;clear hs
 unfold Builtin.Bytes.subscript?
 exact wpAny_bind (wpAny_specialOf (T:="slice") ⟨o,ho,hc⟩ slice_no_index (wpAny_pure h))
theorem gG{x:Addr}{o:Obj}{b:Array UInt8}{n:Nat}{Q:Array UInt8->Shared->Prop}(ho:s.heap.get? x=some o)(hd:o.data=.bytearray b n)(h:Q b s):wpAny g.M A (Builtin.Bytes.payload (.ref x)) Q E s:=by
 unfold Builtin.Bytes.payload Builtin.Bytes.payload?
 refine wpAny_bind (wpAny_bind (wpAny_load ho ?_))
 rw[hd]
 exact wpAny_pure (wpAny_pure h)
theorem Dl{x a:Addr}{o:Obj}{b:Array UInt8}{n:Nat}{l u:Value}{lo hi:Option Int}{Q:Value->Shared->Prop}(ho:s.heap.get? x=some o)(hc:o.cls=.type "bytearray")(hd:o.data=.bytearray b n)(hs:s.heap.IsSliceOf a l u .none)(hl:IsPart l lo)(hu:IsPart u hi)(hsz:b.size≤10000)
  (h:Q (.ref s.heap.objs.size) {s with heap:=s.heap.push {cls:=.type "bytearray",data:=.bytearray (KBy.picked b lo hi)}}):wpAny g.M A (getItem (.ref x) (.ref a)) Q E s:=by
 have hT:s.TypeIs (.ref x) "bytearray":=⟨o,ho,hc⟩
 refine wpAny_getItem_slot hT (by decide) fZ (wpAny_call_entry fZ hT lW ?_ (mS _ _))
 refine(?_:wpAny _ _ (Builtin.Bytes.subscript? (.ref a)>>=λr=>_) _ _ s)
 refine wpAny_bind (tK hs ?_)
 refine e13 (id hs) λos hos hcs hds=>?_
 refine wpAny_bind (wpAny_typeOf (T:="slice") ⟨os,hos,hcs⟩ ?_)
 refine eB (by decide) ?_
 refine wpAny_bind (oR hs hl hu (wpAny_bind (gG ho hd (wpAny_bind ?_))))
 refine wpAny_of_eq (sliceIndices_raw lo hi none b.size (λe=>nomatch e)) ?_
 refine wpAny_bind ?_
 unfold Builtin.Bytes.newBytearray
 refine wpAny_newObj_type (wpAny_pure ⟨_,rfl,h⟩) ?_
 exact dD (Vo (KBc.size_picked_le b lo hi) (Vo hsz (by decide)))
theorem nq{v:V}{x:Value}(h:d8 v=true)(hv:VR g c v x):x=.none:=by
 have hv:VR g c .none x:=ie h▸hv
 exact hv
theorem kV{n d a:Nat}{v:V}{x:Value}(hv:VR g c v x)(hb:sL n d v=some a):∃o,IsPart x o/\a=o.elim d (clipAt n):=
 fN hb (λhb=>dK hb λh1 hb=>⟨none,nq h1 hv▸.none,(Vl hb).symm⟩) λhb=>cW hb λi e1 hb=>cW e1 λy e2 e3=>by
  have hv:VR g c (.int (.c i)) x:=ef _ _ e3▸eD e2▸hv
  refine e22 hv λm t hx hm=>?_;clear hv
  have hm:m=i:=hm
  exact⟨some i,hx▸hm▸.int m t,(Vl hb).symm⟩
theorem da.take{l:List V}:∀{vs:List Value} (n:Nat),da g c l vs->da g c (l.take n) (vs.take n):=by
 induction l with
 |nil=>
  intro vs n h
  cases (show vs=[] from h)
  rw[Xc,Xc]
  exact da.nil
 |cons a l ih=>
  intro vs n h
  cases n with
  |zero=>exact da.nil
  |succ n=>
   refine e23 h λx xs e h1 h2=>?_;clear h
   exact e▸da.cons h1 (ih n h2)
theorem da.drop{l:List V}:∀{vs:List Value} (n:Nat),da g c l vs->da g c (l.drop n) (vs.drop n):=by
 induction l with
 |nil=>
  intro vs n h
  cases (show vs=[] from h)
  rw[Xd,Xd]
  exact da.nil
 |cons a l ih=>
  intro vs n h
  cases n with
  |zero=>exact h
  |succ n=>
   refine e23 h λx xs e h1 h2=>?_;clear h
   exact e▸ih n h2
theorem da.reverse{l:List V}:∀{vs:List Value},da g c l vs->da g c l.reverse vs.reverse:=by
 induction l with
 |nil=>
  intro vs h
  cases (show vs=[] from h)
  exact da.nil
 |cons a l ih=>
  intro vs h
  refine e23 h λx xs e h1 h2=>?_;clear h
  rw[e,Xo,Xo]
  exact(ih h2).append (da.cons h1 da.nil)
theorem BR.take{σ:Nat->Int}{l:List AI}:∀{b:List UInt8} (n:Nat),BR σ l b->BR σ (l.take n) (b.take n):=by
 induction l with
 |nil=>
  intro b n h
  cases (show b=[] from h)
  rw[Xc,Xc]
  exact rfl
 |cons a l ih=>
  intro b n h
  cases n with
  |zero=>exact rfl
  |succ n=>
   refine e23 h λx xs e h1 h2=>?_;clear h
   exact e▸⟨x,_,rfl,h1,ih n h2⟩
theorem BR.drop{σ:Nat->Int}{l:List AI}:∀{b:List UInt8} (n:Nat),BR σ l b->BR σ (l.drop n) (b.drop n):=by
 induction l with
 |nil=>
  intro b n h
  cases (show b=[] from h)
  rw[Xd,Xd]
  exact rfl
 |cons a l ih=>
  intro b n h
  cases n with
  |zero=>exact h
  |succ n=>
   refine e23 h λx xs e h1 h2=>?_;clear h
   exact e▸ih n h2
inductive UV{α:Type}(l x:List α)(vl vu vs:Value):Prop
 |mk (e:vs=.none) (p q:Option Int) (hp:IsPart vl p) (hq:IsPart vu q) (hx:x=M8 l (p.elim 0 (clipAt l.length)) (q.elim l.length (clipAt l.length)))
theorem lX{α:Type}{l x:List α}{lo hi st:V}{vl vu vs:Value}(h1:VR g c lo vl)(h2:VR g c hi vu)(h3:VR g c st vs)(hx:qU l lo hi st=some x):UV l x vl vu vs:=
 dK hx λe hx=>cW hx λa ea hx=>cW hx λb eb hx=>(kV h1 ea).elim λp hp=>(kV h2 eb).elim λq hq=>
  ⟨nq e h3,p,q,hp.1,hq.1,(Vl hx).symm.trans (by rw[hp.2,hq.2])⟩
theorem yt{α:Type}(l:List α)(a b:Nat):(M8 l a b).length≤l.length:=Vo (List.length_take_le' ..) (Vo (Vu V7) (W4 ..))
theorem GJ{z i:Nat}(h:i<z):((z:Int) - 1+ -1 * (i:Int)).toNat=z - 1 - i:=by
 obtain⟨d,rfl⟩:=Nat.le.dest h
 rw[show i+1+d - 1 - i=d from by rw[Nat.add_right_comm,Nat.add_sub_cancel,W0]]
 rw[Int.neg_mul,Int.one_mul,<-Int.sub_eq_add_neg,show((i.succ+d:Nat):Int)=(d:Int)+i+1 from by show Int.ofNat _=Int.ofNat _;rw[Nat.succ_add,Wg i d],WQ,WQ]
 rfl
theorem Dm(items:Array Value):slicePick items none none (some (-1))=items.toList.reverse.toArray:=by
 have e:sliceBounds none none (some (-1)) items.size=((items.size:Int) - 1,-1,-1):=by simp[sliceBounds]
 unfold slicePick
 rw[e]
 congr 1
 unfold sliceRange
 simp only[show¬((-1:Int)>0) by decide,if_false]
 by_cases h0:items.size=0
 .have:items=#[]:=Xx h0
  subst this;rfl
 .rw[if_pos (Int.sub_lt_sub_right (Int.natCast_pos.mpr (Nat.pos_of_ne_zero h0)) 1)]
  have e2:(((items.size:Int) - 1 - -1 - -1 - 1) / -(-1)).toNat=items.size:=by
   rw[Int.neg_neg,Int.ediv_one,Int.sub_neg,Int.sub_neg,Int.sub_add_cancel,WQ];rfl
  rw[e2]
  have hm:(Wa items.size).map (λk:Nat=>((items.size:Int) - 1+ -1 * (k:Int)).toNat)=(Wa items.size).reverse:=by
   apply List.ext_getElem
   .simp
   .intro i h1 h2
    rw[VG,List.length_range] at h1
    rw[List.getElem_map,List.getElem_range,List.getElem_reverse,List.getElem_range,List.length_range]
    exact GJ h1
  rw[hm,List.filterMap_reverse]
  have:=pick_run items 0 items.size
  simp only[VQ,List.map_id',List.drop_zero] at this
  rw[this,List.take_of_length_le (by simp)]
theorem Dn(W:SW g){o lo hi st:V}{v vl vu vs:Value}{a:Addr}{K:V->H->Bool}(I:cV g c h s)(hv:VR g c o v)(h1:VR g c lo vl)(h2:VR g c hi vu)(h3:VR g c st vs)(hs:s.heap.IsSliceOf a vl vu vs)(hk:Iu g.C o lo hi st h K=true):
  (∃T id,typeLookup (.type T) "__getitem__"=pure (some (.builtin id))/\s.TypeIs v T)/\wpAny g.M A (getItem v (.ref a)) (QV g c K) E s:=
 Cr hk (λhk=>kB (P:=λv=>(∃T id,typeLookup (.type T) "__getitem__"=pure (some (.builtin id))/\s.TypeIs v T)/\wpAny g.M A (getItem v (.ref a)) (QV g c K) E s) hk hv λl b t hb hk=>cT hk λhl hk=>cP hk λx hx hk=>by
  obtain⟨e,p,q,p1,p2,ex⟩:=lX h1 h2 h3 hx
  subst e
  refine⟨⟨"bytes",_,FB.slot_bytes_getitem.lookup,typeIs_bytes _ _ _⟩,getItem_meets (typeIs_bytes _ _ _) (by decide) FB.slot_bytes_getitem FB.entry_bytes_getitem (FB.args_bytes_getitem_2 _ _) (KBc.meets_slice2 b t _ p1 p2) ⟨hs,dD (Vo (KBc.size_picked_le b p q) (Vo (Vu hb.size) (Vo (eQ hl) (by decide)))),λt' k=>.tb I ?_ hk⟩⟩
  rw[KBc.picked_eq,ex,hb.size]
  exact(hb.drop _).take _) (λhk=>kL (P:=λv=>(∃T id,typeLookup (.type T) "__getitem__"=pure (some (.builtin id))/\s.TypeIs v T)/\wpAny g.M A (getItem v (.ref a)) (QV g c K) E s) W I hk hv λl y ws w1 w2 w3 hk=>cP hk λx hx hk=>by
  refine⟨⟨"list",_,list_getitem_lookup,w1.isList.typeIs⟩,?_⟩
  have fin:∀(lo' hi' st':Option Int),IsPart vl lo'->IsPart vu hi'->IsPart vs st'->st'≠some 0->da g c x (slicePick ws lo' hi' st').toList->x.length≤10000->wpAny g.M A (getItem (.ref y) (.ref a)) (QV g c K) E s:=λlo' hi' st' q1 q2 q3 q4 hr hlen=>by
   refine wpAny_getItem_list_slice w1.isList hs q1 q2 q3 q4 ?_ (dD (Vo (Vu (ew w2)) (Vo w3 (by decide))))
   refine e13 (kH I hr hlen) λc' e I' r=>?_
   rw[W8] at I'
   exact⟨_,c',_,e,I',r,hk⟩
  refine fN hx (λhx=>?_) λhx=>dK hx λn1 hx=>dK hx λn2 hx=>cW hx λn hn hx=>cW hn λy0 hy hc=>dK hx λhm hx=>?_
  .obtain⟨e,p,q,p1,p2,ex⟩:=lX h1 h2 h3 hx
   refine fin p q none p1 p2 (e▸.none) (λq=>nn q) ?_ (ex▸Vo (yt ..) w3)
   rw[slicePick_plain,ex,ew w2]
   exact(w2.drop _).take _
  .have h3:VR g c (.int (.c n)) vs:=ef _ _ hc▸eD hy▸h3
   refine e22 h3 λm t hvs hmn=>?_;clear h3
   have hmn:m=n:=hmn
   refine fin none none (some (-1)) (nq n1 h1▸.none) (nq n2 h2▸.none) (hvs▸(hmn.trans (of_decide_eq_true hm))▸.int m t) (by decide) ?_ (Vl hx▸Vo (Vu List.length_reverse) w3)
   rw[Dm]
   exact Vl hx▸w2.reverse) (λhk=>SQ (P:=λv=>(∃T id,typeLookup (.type T) "__getitem__"=pure (some (.builtin id))/\s.TypeIs v T)/\wpAny g.M A (getItem v (.ref a)) (QV g c K) E s) W I hk hv λl y ob b w1 w2 w3 w4 w5 hk=>cP hk λx hx hk=>by
  obtain⟨e,p,q,p1,p2,ex⟩:=lX h1 h2 h3 hx
  subst e
  refine⟨⟨"bytearray",_,fZ.lookup,ob,w1,w2⟩,Dl w1 w2 w3 hs p1 p2 (Vo (Vu w4.size) w5) ?_⟩
  obtain⟨c',N⟩:=I.push1 false (o:=.barr x) (ob:={cls:=.type "bytearray",data:=.bytearray (KBy.picked b p q)}) rfl (λh' ga=>⟨_,_,ga,rfl,rfl,by
   rw[KBc.picked_eq,ex,w4.size]
   exact(w4.drop _).take _,ex▸Vo (yt ..) w5⟩) ft
  exact⟨_,c',_,N.e,N.i,N.v,hk⟩)
end
end
section
variable{g:Gb}{c c':Cf}
section
variable{A:Around}{E:Value->Shared->Prop}{h:H}{s:Shared}{n:Nat}
def Fs(g:Gb)(f:BF)(v:Value):Prop:=∀{c:Cf} {A:Around} {E:Value->Shared->Prop} {h:H} {s:Shared} {n:Nat} {args:List V} {vs:List Value} {K:V->H->Bool},dz g c n A->cV g c h s->f args h K=true->da g c args vs->wpAny g.M A (call v vs) (QV g c K) E s
theorem NU:Fs g M9 (.builtin "abs"):=λoa I hk hv=>a1 hk hv λv x hx hk=>kI hk hx λa m t ha hk=>
 call_abs_int λu tk=>by
  have e:(if m<0 then -m else m)=if 0≤m then m else -m:=by
   by_cases q:m<0
   .rw[if_pos q,if_neg (Int.not_le.mpr q)]
   .rw[if_neg q,if_pos (Int.not_lt.mp q)]
  rw[e];exact .ti I ha.abs hk
theorem mJ:Slot "bytearray" "__len__" "bytearray.__len__":=
 .of (owner:="bytearray") (n:="__len__") (by rw[typeLookup_type,builtinLookup_eq_fast];kernel_rfl) (by decide+kernel) (by decide+kernel) (by decide+kernel)
  (by first|exact .inl (by decide+kernel)|exact .inr (by decide+kernel)) (by rw[isSubtype_type];kernel_rfl)
theorem rB:entryFor table "bytearray.__len__"=some Builtin.«bytearray.__len__»:=entryFor_of_tree (by kernel_rfl)
theorem tM(a:Value):argsOk "bytearray.__len__" ⟨[a],[]⟩:=by unfold argsOk;kernel_rfl
theorem KG{x:Addr}{o:Obj}{b:Array UInt8}{m:Nat}{Q:Value->Shared->Prop}(ho:s.heap.get? x=some o)(hc:o.cls=.type "bytearray")(hd:o.data=.bytearray b m)(hn:b.size≤100000)
  (h:Q (.int b.size (s.toks+1)) {s with toks:=s.toks+1+1}):wpAny g.M A (call (.builtin "len") [.ref x]) Q E s:=by
 have hT:s.TypeIs (.ref x) "bytearray":=⟨o,ho,hc⟩
 refine Calls.call_function_entry kind_len plain_len entry_len (args_len1 _) ?_
 refine wpAny_bind (m:=PySem.oneArg "len" _) (wpAny_pure ?_)
 refine wpAny_bind (m:=callSpecial? (.ref x) (Vm "__len__")) (wpAny_callSpecial?_slot (name:=Vm "__len__") hT mJ (wpAny_call_entry mJ hT rB
  ?_ (tM _)))
 refine wpAny_bind (wpAny_of_eq (a:=(.ref x,[])) rfl ?_)
 refine wpAny_bind (gG ho hd ?_)
 refine wpAny_bind (wpAny_mkInt (wpAny_pure ⟨_,rfl,?_⟩))
 refine wpAny_bind (wpAny_holding (wpAny_pure ?_))
 refine wpAny_bind (wpAny_letGo ?_)
 refine eB (Int.not_lt.mpr (VV b.size)) (eB (Int.not_le.mpr (VW (Int.ofNat_le.mpr hn) (by decide))) ?_)
 exact wpAny_bind (wpAny_mkInt (wpAny_pure ⟨_,rfl,h⟩))
theorem jX{b:Array UInt8}{t:Tok}{Q:Array UInt8->Shared->Prop}(h:Q b s):wpAny g.M A (Builtin.Bytes.payload (.bytes b t)) Q E s:=wpAny_of_eq (a:=b) rfl h
theorem tN{m k:Nat}{tk t:Nat}{K:V->H->Bool}(I:cV g c h s)(e:m=k)(hk:kn k h K=true):QV g c K (.int m t) {s with toks:=tk}:=
 cT hk λY hk=>.ti I (show dO g.σ (.c (k:Int)) (m:Int) from congrArg _ e) hk
theorem oT{k m:Nat}{K:V->H->Bool}(e:m=k)(hk:kn k h K=true):m≤10000:=cT hk λh Y=>e▸eQ h
theorem Do{m:Nat}(h:m≤10000):(m:Int)<2 ^ 63:=VW (Int.ofNat_le.mpr h) (by decide)
theorem NV(W:SW g):Fs g (Na g.C) (.builtin "len"):=λoa I hk hv=>a1 hk hv λv x hx hk=>
 MO hk (λhk=>kT hk hx λl a vs ht hr hk=>
  have e:vs.toArray.size=l.length:=hr.length
  len_tuple (I.tup _ _ ht) (Do (oT e hk)) (tN I e hk)) (λhk=>kB hk hx λl b t hb hk=>len_bytes (Vo (oT hb.size hk) (by decide)) (tN I hb.size hk)) (λhk=>kL W I hk hx λl a ws w1 w2 Y hk=>Calls.call_len_list w1.isList (Do (oT (ew w2) hk)) (tN I (ew w2) hk)) (λhk=>SQ W I hk hx λl a o b w1 w2 w3 w4 Y hk=>KG w1 w2 w3 (Vo (oT w4.size hk) (by decide)) (tN I w4.size hk)) (λhk=>kD W I hk hx λl a kvs w1 w2 w3 Y hk=>call_len_dict w2 w1 (Do (oT w3.length hk)) (tN I w3.length hk))
theorem yw{p:Prop}[Decidable p]{x y:Int}{t u:Tok}:(if p then Value.int x t else Value.int y u)=.int (if p then x else y) (if p then t else u):=by
 by_cases q:p
 .rw[if_pos q,if_pos q,if_pos q]
 .rw[if_neg q,if_neg q,if_neg q]
theorem NW:Fs g (Nb g.C) (.builtin "max"):=λ{c A E h s n args vs K} oa I hk hv=>a2 hk hv λv x w y hx hy hk=>kI (P:=λx=>wpAny _ _ (call _ [x,y]) _ _ _) hk hx λa m t ha hk=>kI (P:=λy=>wpAny _ _ (call _ [_,y]) _ _ _) hk hy λb n u hb hk=>
 eW hk λhq hk=>cP hk λz hz hk=>max_two_ints (oa.hh hq) λh' tk hk'=>by
  rw[yw];exact⟨.int z,_,_,.refl _,I.keep (s':={s with heap:=h',toks:=tk}) hk' ⟨rfl,rfl,rfl⟩,eG (Gf ha hb hz),hk⟩
theorem NX:Fs g (Nc g.C) (.builtin "min"):=λ{c A E h s n args vs K} oa I hk hv=>a2 hk hv λv x w y hx hy hk=>kI (P:=λx=>wpAny _ _ (call _ [x,y]) _ _ _) hk hx λa m t ha hk=>kI (P:=λy=>wpAny _ _ (call _ [_,y]) _ _ _) hk hy λb n u hb hk=>
 eW hk λhq hk=>cP hk λz hz hk=>min_two_ints (oa.hh hq) λh' tk hk'=>by
  rw[yw];exact⟨.int z,_,_,.refl _,I.keep (s':={s with heap:=h',toks:=tk}) hk' ⟨rfl,rfl,rfl⟩,eG (Gg ha hb hz),hk⟩
theorem NY:Fs g Nd (.type "int"):=λoa I hk hv=>a1 hk hv λv x hx hk=>
 eL hk (λhk=>kI hk hx λa m t ha hk=>call_int_int (.at I (eG ha) hk)) λhk=>RT hk hx λb hk=>call_int_bool (.ti I (show dO g.σ (.c (TX b)) (if b then 1 else 0) from rfl) hk)
theorem yx{hp hp':Heap}(k:∀b o,hp.get? b=some o->hp'.get? b=some o):hp.get? hp'.objs.size=none:=by
 cases q:hp.get? hp'.objs.size with
 |none=>rfl
 |some o=>exact absurd (VP (k _ _ q)) (WH _)
theorem GK(W:SW g):Fs g (Bp g.C) (.type "tuple"):=λ{c A E h s n args vs K} oa I hk hv=>a1 hk hv λv x hx hk=>
 eL hk (λhk=>kT hk hx λl a vs ht hr hk=>call_tuple_same (I.tup _ _ ht) (.at I (gu ht hr) hk)) λhk=>
 kL W I hk hx λl a ws w1 w2 w3 hk=>call_tuple_list w1.isList (λh' k=>
   ⟨.tup l,_,_,dA.tupAt ..,I.newTup (s':={s with heap:=h'.push {cls:=.type "tuple",data:=.seq ws}}) (λb o q=>Vp _ (k b o q)) (yx k) ⟨_,Vx _ rfl,rfl,0,rfl⟩ ⟨rfl,rfl,rfl⟩,gu (.inr ⟨rfl,rfl⟩) (w2.ext (dA.tupAt ..)),hk⟩)
  (dD (Vo (Vu (ew w2)) (Vo w3 (by decide))))
theorem cV.pushW{o:O}{a:Addr}{s':Shared}(I:cV g c h s)(k:∀b o,s.heap.get? b=some o->s'.heap.get? b=some o)(na:s.heap.get? a=none)(new:OR g c o a a s'.heap)(pa:∃ob,s'.heap.get? a=some ob)(sam:s'.gens=s.gens/\s'.drawn=s.drawn/\s'.os=s.os):
  ∃c',dA c c'/\cV g c' (h.push o) s'/\VR g c' (.ref h.length) (.ref a):=
 have l1:h.length<c.n+1:=I.len▸VS _
 ⟨c.add a a false,dA.add ..,I.push k na na new pa pa sam ft,l1,congrArg Value.ref (if_pos I.len.symm).symm⟩
theorem KH(W:SW g):Fs g (Iw g.C) (.type "list"):=λ{c A E h s n args vs K} oa I hk hv=>a1 hk hv λv x hx hk=>kL W I hk hx λl a ws w1 w2 w3 hk=>
 w1.elim λnn ho=>call_list_seq a (.inl rfl) ho rfl rfl (λh' c' k hD=>
   (I.pushW (o:=.list l) (s':={s with heap:=h'}) k (VC (VA _)) ⟨ws,⟨_,hD⟩,w2,w3⟩ ⟨_,hD⟩ ⟨rfl,rfl,rfl⟩).elim λc' y=>⟨_,c',_,y.1,y.2.1,y.2.2,hk⟩)
  (dD (Vo (Vu (ew w2)) (Vo w3 (by decide))))
theorem lY:typeLookup (.type "bytes") "__bytes__"=pure (some (.builtin "bytes.__bytes__")):=by rw[typeLookup_type,builtinLookup_eq_fast];kernel_rfl
theorem pN:typeLookup (.type "bytearray") "__bytes__"=pure none:=by rw[typeLookup_type,builtinLookup_eq_fast];kernel_rfl
theorem pO:typeLookup (.type "bytearray") "__index__"=pure none:=by rw[typeLookup_type,builtinLookup_eq_fast];kernel_rfl
theorem gH:typeLookup (.type "bytearray") "__buffer__"=pure (some (.builtin "bytearray.__buffer__")):=by rw[typeLookup_type,builtinLookup_eq_fast];kernel_rfl
theorem lZ:typeLookup (.type "bytearray") "__release_buffer__"=pure (some (.builtin "bytearray.__release_buffer__")):=by rw[typeLookup_type,builtinLookup_eq_fast];kernel_rfl
theorem GL:isSubtype (.type "bytearray") (.type "bytearray")=pure true:=by rw[isSubtype_type];kernel_rfl
theorem oV{M:Model}{A:Around}{E:Value->Shared->Prop}{s:Shared}{a:Value}{name:String}{id:String}{Q:Bool->Shared->Prop}(hT:s.TypeIs a "bytearray")(hl:typeLookup (.type "bytearray") (name:Str)=pure (some (.builtin id)))(h1:id.endsWith ("."++name)=true)(h2:id.dropRight (name.length+1)="bytearray")(h:Q true s):wpAny M A (Builtin.Bytes.slotIsOwn a name) Q E s:=by
 refine wpAny_bind (wpAny_specialOf hT hl ?_)
 dsimp only
 rw[h1,h2]
 exact wpAny_isInstance hT GL h
theorem v5{M:Model}{A:Around}{E:Value->Shared->Prop}{s:Shared}{a:Value}{Q:Bool->Shared->Prop}(hT:s.TypeIs a "bytearray")(h:Q false s):wpAny M A (Builtin.Bytes.ownRelease a) Q E s:=by
 unfold Builtin.Bytes.ownRelease
 exact wpAny_bind (oV hT lZ (by decide+kernel) (by decide+kernel) (wpAny_pure h))
theorem ba_buffer{A:Around}{E:Value->Shared->Prop}{s:Shared}{id:String}{x:Addr}{o:Obj}{b:Array UInt8}{n:Nat}{Q:Option (Array UInt8)->Shared->Prop}(ho:s.heap.get? x=some o)(hc:o.cls=.type "bytearray")(hd:o.data=.bytearray b n)(h:Q (some b) s):wpAny g.M A (Builtin.Bytes.buffer? id (.ref x) (full:=true)) Q E s:=by
 have hT:s.TypeIs (.ref x) "bytearray":=⟨o,ho,hc⟩
 unfold Builtin.Bytes.buffer?
 refine wpAny_bind (wpAny_specialOf hT gH ?_)
 refine wpAny_bind (oV hT gH (by decide+kernel) (by decide+kernel) ?_)
 refine eB Vs ?_
 refine wpAny_bind (wpAny_specialOf hT gH ?_)
 refine wpAny_bind (v5 hT ?_)
 refine eB Vs ?_
 exact wpAny_bind (gG ho hd (wpAny_pure h))
theorem qz{x:Value}{Q:Value->Shared->Prop}(hb:wpAny g.M A.in1.in1 (Builtin.«bytes.__new__» ⟨[.type "bytes",x],[]⟩) (λfin s'=>∃v,fin=.done (.ret v)/\s'.TypeIs v "bytes"/\Q v s') E s):wpAny g.M A (call (.type "bytes") [x]) Q E s:=by
 refine callType_codes (Q₁:=λobj aa=>aa.TypeIs obj "bytes"/\Q obj aa) F.bm_called (F.bm_typeCall _) F.entry_object_init ?_ λobj aa ae=>?_
 .refine codeAny_of_tree ?_
  show wpAny _ _ (do checkBuiltinCall "bytes.__new__" ⟨[.type "bytes",x],[]⟩;again (.builtin "bytes.__new__" ⟨[.type "bytes",x],[]⟩)) _ _ s
  refine wpAny_bind (wpAny_of_eq (F.bm_newCall _) (wpAny_pure ⟨plainId_quiet F.bm_plain _,codeAny_builtin F.bm_entry ?_⟩))
  rw[Around.under_plainId F.bm_plain _]
  refine wpAny_mono hb (λfin s' ⟨v,e,q⟩=>?_) λY Y e=>e
  subst e
  exact q
 .exact⟨ae.1,F.args_object_init_2 obj _,object_init_meets F.bm_called.init.lookup F.bm_called.made (by decide) _ _ A.in1 _ aa ⟨ae.1,rfl,ae.2⟩⟩
theorem v6{b:Array UInt8}{t:Tok}{Q:Value->Shared->Prop}(h:Q (.bytes b t) s):wpAny g.M A (call (.type "bytes") [.bytes b t]) Q E s:=
 qz<|wpAny_bind<|wpAny_of_eq (a:=true) rfl<|bm_if_false rfl<|wpAny_bind<|wpAny_of_eq F.bm_sub<|bm_if_false rfl<|wpAny_bind<|wpAny_of_eq (F.bm_bind _)<|
  wpAny_bind<|wpAny_of_eq (a:=()) rfl<|wpAny_bind<|wpAny_of_eq (a:=()) rfl<|bm_if_false rfl<|wpAny_bind<|wpAny_specialOf (T:="bytes") (typeIs_bytes _ _ _) lY<|
  wpAny_bind<|wpAny_rule<|wpAny_bind<|wpAny_typeOf (typeIs_bytes _ _ _)<|wpAny_pure ⟨_,rfl,typeIs_bytes _ _ _,h⟩
theorem Dp{x:Addr}{o:Obj}{b:Array UInt8}{n:Nat}{Q:Value->Shared->Prop}(ho:s.heap.get? x=some o)(hc:o.cls=.type "bytearray")(hd:o.data=.bytearray b n)(hsz:b.size≤sizeLine)(h:Q (.bytes b s.toks) {s with toks:=s.toks+1}):wpAny g.M A (call (.type "bytes") [.ref x]) Q E s:=by
 have hT:s.TypeIs (.ref x) "bytearray":=⟨o,ho,hc⟩
 refine qz<|wpAny_bind<|wpAny_of_eq (a:=true) rfl<|bm_if_false rfl<|wpAny_bind<|wpAny_of_eq F.bm_sub<|bm_if_false rfl<|wpAny_bind<|wpAny_of_eq (F.bm_bind _)<|
  wpAny_bind<|wpAny_of_eq (a:=()) rfl<|wpAny_bind<|wpAny_of_eq (a:=()) rfl<|bm_if_false rfl<|wpAny_bind<|wpAny_specialOf hT pN<|wpAny_bind<|wpAny_bind<|wpAny_bind<|wpAny_load ho ?_
 rw[hd]
 exact wpAny_pure<|wpAny_pure<|bm_if_false rfl<|wpAny_bind<|wpAny_specialOf hT pO<|bm_if_true rfl<|wpAny_bind<|ba_buffer ho hc hd<|wpAny_bind<|wpAny_rule<|wpAny_bind<|wpAny_mkBytes (wpAny_pure ⟨_,rfl,typeIs_bytes _ _ _,h⟩) hsz
structure NZ(g:Gb)(as:List AI)(vs:List Value)(ns:List Int):Prop where
 i:IntsAre vs ns
 r:kq as=true->∀n∈ns,0≤n/\n<256
 b:kq as=true->BR g.σ as (byteArr ns).toList
theorem Dq{m:Int}(h:0≤m/\m<256):((m.toNat.toUInt8).toNat:Int)=m:=by
 rw[UInt8.toNat_ofNat',WX ((Int.toNat_lt h.1).mpr h.2)];exact Wu h.1
theorem Ae:∀{l:List V} {as:List AI} {vs:List Value},qQ l=some as->da g c l vs->∃ns:List Int,NZ g as vs ns:=by
 intro l
 induction l with
 |nil=>intro as vs e hv;cases e;cases (show vs=[] from hv);exact⟨[],.nil,λY Y q=>(nomatch q),λY=>rfl⟩
 |cons v r ih=>
  intro as vs e hv
  refine e23 hv λx xs zq60 h1 h2=>?_;clear hv
  cases zq60
  exact cW e λa e1 e=>cW e λl el e3=>(ih el h2).elim λns q=>by
   cases eD e1
   cases e3
   refine e22 h1 λm t zq61 ha=>?_;clear h1
   cases zq61
   refine⟨m::ns,.cons m t q.i,λhb n hn=>?_,λhb=>?_⟩
   .cases hn with
    |head=>exact lK ha (Bool.and_eq_true_iff.mp hb).1
    |tail _ hn=>exact q.r (Bool.and_eq_true_iff.mp hb).2 n hn
   .exact⟨m.toNat.toUInt8,_,rfl,(Dq (lK ha (Bool.and_eq_true_iff.mp hb).1)).symm▸ha,q.b (Bool.and_eq_true_iff.mp hb).2⟩
theorem GM(W:SW g):Fs g (Bo g.C) (.type "bytes"):=λ{c A E h s n args vs K} oa I hk hv=>a1 hk hv λv x hx hk=>
 Cr hk (λhk=>kB hk hx λl b t hb hk=>v6 (.at I (jl hb) hk)) (λhk=>SQ W I hk hx λl a o b w1 w2 w3 w4 w5 hk=>Dp w1 w2 w3 (dD (Vo (Vu w4.size) (Vo w5 (by decide)))) (.tb I w4 hk)) (λhk=>kL W I hk hx λl a ws w1 w2 w3 hk=>eW hk λhq hk=>cP hk λas ha hk=>cT hk λhb hk=>(Ae ha w2).elim λns q=>
  call_bytes_ints (vs:=ws.toList) w1.isList q.i (q.r hb) (dD (Vo (Vu w2.length) (Vo w3 (by decide)))) (oa.hh hq) λh' t k hk'=>
   .at (I.keep (s':={s with heap:=h',toks:=k}) hk' ⟨rfl,rfl,rfl⟩) (jl (q.b hb)) hk)
theorem Dr{a:Addr}{vs:List Value}{n:Nat}{P:Fin->Shared->Prop}(ho:s.heap.get? a=some (seqObj "list" vs.toArray n))(h2:vs.length<2)
  (h:P (.done (.ret .none)) {s with heap:=sortedHeap s.heap a vs vs.toArray}):wpAny g.M A (Builtin.«list.sort» ⟨[.ref a],[]⟩) P E s:=by
 rw[list_sort_plain]
 have ha:a<s.heap.objs.size:=VP ho
 have hsz:vs.toArray.size=vs.length:=by simp
 refine wpAny_bind (listItems_at ho rfl ?_)
 refine wpAny_bind (listUpdate_at ho rfl ?_ (by rw[hsz,sizeLine_eq];omega) (V6 _))
 obtain⟨e1,ho1⟩:∃e1,(s.heap.update a (Xk λY=>#[])).get? a=some (seqObj "list" #[] e1):=⟨_,get?_update_seq ho (λY=>#[])⟩
 refine wpAny_bind (seqEpoch_at ho1 rfl ?_)
 refine wpAny_bind (wpAny_newTuple ?_ (by rw[sizeLine_eq];simp;omega))
 refine wpAny_bind (wpAny_newList ?_)
 refine wpAny_holding ?_
 have ho6:(((s.heap.update a (Xk λY=>#[])).push (seqObj "tuple" vs.toArray 0)).push (seqObj "list" #[] 0)).get? a=some (seqObj "list" #[] e1):=by
  rw[Xr _ _ _ (by rw[size_push',Heap.size_update];exact VM (V2 ha)),Xr _ _ _ (by rw[Heap.size_update];exact VM ha)]
  exact ho1
 refine(?_:wpAny _ A _ P E {s with heap:=((s.heap.update a (Xk λY=>#[])).push (seqObj "tuple" vs.toArray 0)).push (seqObj "list" #[] 0)})
 dsimp only
 have h3:vs.toArray.size<2:=by rw[hsz];exact h2
 rw[if_pos h3,if_pos h3]
 refine wpAny_bind (wpAny_pure ?_)
 rw[StateT.run_pure]
 refine wpAny_bind (wpAny_pure ?_)
 dsimp only
 refine wpAny_bind (seqEpoch_at ho6 rfl ?_)
 have e5:(arrOf (SortSt.mk' general' (vs.toArray.zip vs.toArray) #[] 7 none)).map (·.2)=vs.toArray:=by
  refine(?_:(vs.toArray.zip vs.toArray).map (·.2)=vs.toArray)
  rw[Array.map_snd_zip (VA _)]
 refine wpAny_bind (listUpdate_at ho6 rfl ?_ (V6 _) (by show((arrOf (SortSt.mk' general' (vs.toArray.zip vs.toArray) #[] 7 none)).map (·.2)).size≤_;rw[e5,hsz,sizeLine_eq];omega))
 simp only[bne_self_eq_false,Xj,if_false]
 refine wpAny_pure ?_
 rw[e5]
 exact h
theorem Ds{l:List (Nat×V)}{kvs:List (Str×Value)}{acc:List Value}(h:PR g c l kvs)(h2:l.length≤1)(hl:acc.length=kvs.length)(ha:∀(i:Nat) (x:Value),acc[i]? =some x->∃k v,kvs[i]? =some (k,v)/\Value.isStrOf k x=true):da g c (iz (l.map (·.1))) acc:=by
 cases l with
 |nil=>cases (show kvs=[] from h);exact Wh hl
 |cons p r=>
  cases r with
  |nil=>
   obtain⟨sx,vx,tl,q1,q2,q3,q4,q5,q6⟩:=h
   cases (show tl=[] from q6);cases q1
   obtain⟨y,rfl⟩:∃y,acc=[y]:=List.length_eq_one_iff.mp hl
   refine e22 (ha 0 y rfl) λk' x' p1 p2=>?_
   cases p1
   refine e11 (Value.isStrOf_shape p2) λt zq62=>?_
   cases zq62
   exact .cons ⟨sx,t,rfl,q2,q3,q4⟩ .nil
  |cons _ _=>exact absurd h2 (Nat.not_le_of_lt (Nat.succ_lt_succ (VL _)))
theorem strsOf_len:∀l:List Nat,(iz l).length=l.length:=λl=>List.rec rfl (λY Y ih=>congrArg (· +1) ih) l
theorem Dt(W:SW g):Fs g (xv g.C) (.builtin "sorted"):=λ{c A E h s n args vs K} oa I hk hv=>a1 hk hv λv x hx hk=>kD W I hk hx λl x kvs w1 w2 w3 w4 hk=>cT hk λhc hk=>eW hk λhq hk=>by
 have hc:=eQ hc
 have hl:=w3.length
 refine e11 w1.dictAt λep hat=>?_
 refine Calls.call_function_entry kind_sorted plain_sorted entry_sorted (args_sorted1 _) ?_
 refine wpAny_bind (m:=checkCount "sorted" 1 1 _) (wpAny_pure ?_)
 refine wpAny_bind (kdu_collect (A:=A.in1) (kdl_dict (knd:=PySem.strKind g.pr g.wd) (kvs:=kvs) (ep:=ep) w2) (oa.hh hq) hat (dD (hl▸Vo hc (by decide))) λh' tk acc hk' hacc=>?_)
 have hal:acc.toList.length=kvs.length:=hacc.1
 have hlen:acc.toList.length≤1:=hal▸hl▸hc
 refine wpAny_bind (wpAny_newList ?_ (dD (Vo hlen (by decide))))
 have hoL:(h'.push (seqObj "list" acc.toList.toArray 0)).get? h'.objs.size=some (seqObj "list" acc.toList.toArray 0):=Vx _ rfl
 refine wpAny_bind (wpAny_holding (wpAny_call_entry slot_list_sort (s:={s with heap:=h'.push (seqObj "list" acc.toList.toArray 0),toks:=tk}) ⟨_,hoL,rfl⟩ entry_list_sort (Dr hoL (WS hlen) ⟨_,rfl,?_⟩) (args_list_sort _)))
 refine wpAny_pure ⟨_,rfl,?_⟩
 refine e11 (sortedHeap_at (out:=acc.toList.toArray) hoL) λe2 g2=>?_
 have hlt:∀b o,s.heap.get? b=some o->b<h'.objs.size:=λb o q=>VP (hk' b o q)
 have kk:∀b o,s.heap.get? b=some o->(sortedHeap (h'.push (seqObj "list" acc.toList.toArray 0)) h'.objs.size acc.toList acc.toList.toArray).get? b=some o:=λb o q=>
  (sortedHeap_old (VM (hlt b o q)) (by rw[size_push'];exact V2 (hlt b o q))).trans ((Xr _ _ _ (VM (hlt b o q))).trans (hk' b o q))
 exact(I.pushW (o:=.list (iz (l.map (·.1)))) (s':={s with heap:=sortedHeap (h'.push (seqObj "list" acc.toList.toArray 0)) h'.objs.size acc.toList acc.toList.toArray,toks:=tk}) kk (yx hk')
  ⟨acc.toList.toArray,⟨_,g2⟩,Ds w3 hc hal (λi x q=>hacc.2 i x (Array.getElem?_toList.symm.trans q)),by rw[strsOf_len,VG];exact Vo hc (by decide)⟩ ⟨_,g2⟩ ⟨rfl,rfl,rfl⟩).elim
  λc' y=>⟨_,c',_,y.1,y.2.1,y.2.2,hk⟩
end
end
def v7(m:Str->Option Value):Prop:=m (Vm "__setattr__")=none/\m (Vm "what")=none/\m (Vm "at")=none/\m (Vm "__getattribute__")=none/\m (Vm "__getattr__")=none
structure UW(g:Gb)(Lg fI:Addr)(fd:FuncData)(bd:List Stmt)(mL:Str->Option Value)(dv:Value):Prop where
 fn:oM g.B fI fd bd
 ini:mL (Vm "__init__")=some (.ref fI)
 noL:v7 mL
 bind2:∀{s:Shared} {e w:Value},g.B.StaysIn s.heap->BindsTo s fd ⟨[e,w],[]⟩ [(Vm "self",e),(Vm "what",w),(Vm "at",dv)]
 bind3:∀{s:Shared} {e w a:Value},g.B.StaysIn s.heap->BindsTo s fd ⟨[e,w,a],[]⟩ [(Vm "self",e),(Vm "what",w),(Vm "at",a)]
 dflt:VR g (cz g) (.tup [.int (.c 0),.int (.c 0)]) dv
 cls:∀{i:Nat} {inf:gh},g.C.C.get i=some inf->inf.exc=true->inf.init=0->∃mN,eR g.B (g.ca i) Lg mN mL/\mN (Vm "__init__")=none/\v7 mN
 any:∀{i:Nat} {inf:gh},g.C.C.get i=some inf->inf.exc=true->∃x:XD,g.B.get? (g.ca i)=some (excClassObj x.nm x.q (g.ca i) x.N x.bs x.mro x.dic x.sn x.sub x.ab x.col x.dd x.k0 x.k1 x.k2 x.k3 x.k5 x.newId)/\x.mro.contains (.type "BaseException")=true
 atts:∀{i:Nat} {inf:gh} {x:Str},g.C.C.get i=some inf->inf.exc=true->y9 (cd x) inf.atts=true->x=Vm "what"\/x=Vm "at"
 sub:∀{d c:Nat} {di ci:gh},g.C.C.get d=some di->g.C.C.get c=some ci->di.exc=true->di.init=0->ci.exc=true->(Value.ref (g.ca d)::.ref Lg::eb).contains (.ref (g.ca c))=nI c di.mro
def EF(g:Gb):Prop:=∃Lg fI fd bd mL dv,UW g Lg fI fd bd mL dv
theorem oM.keeps{h h':Heap}{fI:Addr}{fd:FuncData}{bd:List Stmt}(x:oM h fI fd bd)(k:h.StaysIn h'):oM h' fI fd bd where
 at_:=let⟨o,h1,r⟩:=x.at_;⟨o,k _ _ h1,r⟩
 body:=x.body
 text:=x.text
 kind:=x.kind
 co:=x.co
 gen:=x.gen
 glob:=x.glob
 bi:=x.bi
 code:=x.code.keeps k
 nocell:=x.nocell
 self:=x.self
 what:=x.what
 at1:=x.at1
 exc:=x.exc
 lim:=x.lim.keeps k
 globs:=let⟨mg,mb,h1,h2,r⟩:=x.globs;⟨mg,mb,h1.keeps k,h2.keeps k,r⟩
theorem rC:cd (Vm "what")=j5:=by decide+kernel
theorem Du:cd (Vm "at")=nD:=by decide+kernel
theorem KI{g:Gb}{c:Cf}{w a:V}{v u:Value}{m:Str->Option Value}(hm:∀y,m y=if y=Vm "at" then some u else if y=Vm "what" then some v else none)(h1:VR g c w v)(h2:VR g c a u):NR g c [(j5,w),(nD,a)] m:=λx hx=>by
 rw[dZ,dZ,F7]
 by_cases e1:x=Vm "what"
 .subst e1
  have:Vn j5 (cd (Vm "what"))=true:=by rw[rC];exact VT _
  rw[this]
  exact⟨v,by rw[hm,if_neg (by decide),if_pos rfl],h1⟩
 .have n1:Vn j5 (cd x)=false:=dg λq=>e1 (et hx (q.symm.trans rC.symm))
  rw[n1]
  by_cases e2:x=Vm "at"
  .subst e2
   have:Vn nD (cd (Vm "at"))=true:=by rw[Du];exact VT _
   rw[this]
   exact⟨u,by rw[hm,if_pos rfl],h2⟩
  .have n2:Vn nD (cd x)=false:=dg λq=>e2 (et hx (q.symm.trans Du.symm))
   rw[n2]
   refine(?_:m x=none)
   rw[hm,if_neg e2,if_neg e1]
section
variable{g:Gb}{c c':Cf}{A:Around}{E:Value->Shared->Prop}{h:H}{s:Shared}{n:Nat}
theorem v8(T:EF g){i:Nat}{inf:gh}{args:List V}{vs:List Value}{K:V->H->Bool}(oa:dz g c (n+1) A)(I:cV g c h s)(hk:BN i args h K=true)(hv:da g c args vs)(hi:g.C.C.get i=some inf)(hx:inf.exc=true)(h0:inf.init=0):
  wpAny g.M A (call (.ref (g.ca i)) vs) (QV g c K) E s:=by
 obtain⟨Lg,fI,fd,bd,mL,dv,T⟩:=T
 refine e17 (T.cls hi hx h0) λmN X x0 xs xw xa Y Y=>?_
 refine e05 T.noL λls lw la Y Y=>?_
 refine e13 T.fn.at_ λoI o1 o2 Y=>?_
 have go:∀{w a:V} {v u:Value} {rest:List Value},rest.length≤2->VR g c w v->VR g c a u->BM i w a h K=true->
   (∀{s':Shared} {e:Addr},g.B.StaysIn s'.heap->BindsTo s' fd ⟨.ref e::rest,[]⟩ [(Vm "self",.ref e),(Vm "what",v),(Vm "at",u)])->wpAny g.M A (call (.ref (g.ca i)) rest) (QV g c K) E s:=λ{w a v u rest} hl h1 h2 hk hb=>by
  have k0:=I.base
  have hI:=I
  obtain⟨hp,gg,dr,tk,os⟩:=s
  refine NS (X.keeps k0) x0 T.ini (k0 _ _ o1) o2 (λh' e M=>?_) (dD (Vo hl (by decide)))
  refine e13 M.there λt0 m1 m2 m3=>?_
  have k1:g.B.StaysIn h':=λb o q=>M.keeps _ _ (k0 b o q)
  refine Ad (X.keeps k1) (T.fn.keeps k1) m1 (hb k1) (Xl (Vo (Wr _ n) (oa.type (C:=g.ca i) (rest:=rest)).dep) (by decide)) xs ls xw lw xa la λhp2 tk2 k2 ⟨t1,dx,m,q1,q2,q3,q4,q5⟩=>⟨rfl,?_⟩
  have up:∀b o,hp.get? b=some o->hp2.get? b=some o:=λb o q=>k2 b o (λe=>nn ((e▸M.new).symm.trans q)) (M.keeps _ _ q)
  have nd:hp.get? dx=none:=by
   cases q:hp.get? dx with
   |none=>rfl
   |some o=>exact nn (q2.symm.trans (M.keeps _ _ q))
  refine e32 (id q4) λod es ep q4' q4r=>?_
  have I2:=hI.push (s':=⟨hp2,gg,dr,tk2,os⟩) (o:=.exc i [(j5,w),(nD,a)] true) (a:=e) (d:=dx) (fl:=false) up M.new nd ⟨_,_,m,q1,rfl,rfl,rfl,q4,KI q5 h1 h2,λY=>⟨t1,rfl⟩⟩ ⟨_,q1⟩ ⟨_,q4'⟩ ⟨rfl,rfl,rfl⟩ ft
  exact⟨.ref h.length,_,_,dA.add ..,I2,rk (hI.len▸VS _) (if_pos hI.len.symm).symm,hk⟩
 exact eL hk (λhk=>a1 hk hv λw v h1 hk=>go (rest:=[v]) (Vw rfl) h1 (T.dflt.ext I.cz) hk λk=>T.bind2 k) λhk=>a2 hk hv λw v a u h1 h2 hk=>go (rest:=[v,u]) (Vw rfl) h1 h2 hk λk=>T.bind3 k
theorem wa(T:EF g)(CL:CF g){i:Nat}{inf:gh}(I:cV g c h s)(hi:g.C.C.get i=some inf):fB g (.ref (g.ca i)) s:=by
 cases hx:inf.exc with
 |true=>
  obtain⟨Lg,fI,fd,bd,mL,dv,T⟩:=T
  refine e12 (T.any hi hx) λxd hC Y=>?_
  have hC:=I.base _ _ hC
  obtain⟨hp,gg,dr,tk,os⟩:=s
  exact λA E Q hq=>wpAny_keeperOf_exc hC (hq _)
 |false=>
  obtain⟨xd,mN,hC,hN,g1,g2,g3,g4,g5,g6,g7⟩:=CL.cls hi hx
  have hC:=I.base _ _ hC
  obtain⟨hp,gg,dr,tk,os⟩:=s
  exact λA E Q hq=>wpAny_keeperOf_exc hC (hq _)
theorem Af(T:EF g){x:Str}{ci:Nat}{m:List (Nat×V)}{bb:Bool}{b:V}{y d:Addr}{K:V->H->Bool}(I:cV g c h s)(ho:OR g c (.exc ci m bb) y d s.heap)(ha:qk g.C true ci (cd x) m=some b)(hk:K b h=true):
  wpAny g.M A (getAttr (.ref y) x true) (QV g c K) E s:=
 tg ha λinf hi hm hx h0 ha=>kK hm λhxne Y=>by
  obtain⟨Lg,fI,fd,bd,mL,dv,T⟩:=T
  refine e17 (T.cls hi hx (h0 rfl)) λmN X x0 xs xw xa xg xh=>?_
  refine e05 T.noL λls lw la lg lh=>?_
  obtain⟨o,vs,mm,o1,o2,o3,o4,o5,o6,_⟩:=ho
  refine e12 (o6.get hxne ha) λu hu hur=>?_
  have nm:x=Vm "what"\/x=Vm "at":=T.atts hi hx hm
  have k0:=I.base
  obtain⟨hp,gg,dr,tk,os⟩:=s
  refine NT (X.keeps k0) xg lg xh lh (by rcases nm with rfl|rfl<;>assumption) (by rcases nm with rfl|rfl<;>assumption) (by rcases nm with rfl|rfl;exact qv;exact yr) o1 o2 (λq e=>Data.noConfusion (o4.symm.trans e)) o3 o5 hu (vK hur) ?_
  exact⟨b,c,h,.refl c,I.tok _,hur,hk⟩
end
section
variable{M:Model}{A:Around}{E:Value->Shared->Prop}{env:Env}{C Lg:Addr}{mN mL:Str->Option Value}
theorem wb{s:Shared}{x:Addr}{o:Obj}{t0:Addr}{Q:Flow->Shared->Prop}(X:eR s.heap C Lg mN mL)(hx:s.heap.get? x=some o)(hcls:o.cls=.ref C)(hd:o.data=.fields #[.ref t0,.none,.none,.none,.bool false,.none])
  (hh:A.handled=none) (hE:E (.ref x) s):wpAny M A (raiseStmt env (some (pure (.ref x))) none) Q E s:=by
 obtain⟨xd,hC,hn⟩:=X.cls
 have hcB:=tu (C:=C) (Lg:=Lg)
 obtain⟨oc,od,odt,osl⟩:=o
 dsimp only at hcls hd
 subst hcls hd
 unfold raiseStmt
 obtain⟨hp,g,d,tk,os⟩:=s
 repeat(first|with_reducible refine wpAny_loadPart_at hx ?_|with_reducible refine wpAny_loadPart_at hC ?_|(with_reducible refine wpAny_isSubtype_exc hC ?_;rw[hcB])|wp_step)
 exact wpAny_raiseNew_none hh hE
def pP(h:Heap)(D:Addr):Prop:=∃x:XD,h.get? D=some (excClassObj x.nm x.q D x.N x.bs x.mro x.dic x.sn x.sub x.ab x.col x.dd x.k0 x.k1 x.k2 x.k3 x.k5 x.newId)/\x.mro.contains (.type "BaseException")=true
theorem Ag{s:Shared}{x D:Addr}{o:Obj}{b:Bool}{Q:Bool->Shared->Prop}(X:eR s.heap C Lg mN mL)(hx:s.heap.get? x=some o)(hcls:o.cls=.ref C)
  (hD:pP s.heap D)
  (hb:(Value.ref C::.ref Lg::eb).contains (.ref D)=b) (hq:Q b s):wpAny M A (excMatches (.ref x) (.ref D)) Q E s:=by
 obtain⟨xd,hC,hn⟩:=X.cls
 refine e12 hD λxd' hD hbm=>?_
 have hDB:(Value.ref D::xd'.mro).contains (.type "BaseException")=true:=by rw[VI,hbm,Bool.or_true]
 have f:=tc_notTuple
 obtain⟨hp,g,d,tk,os⟩:=s
 unfold excMatches
 repeat(first|(with_reducible refine wpAny_loadPart_at hx ?_;rw[hcls])|with_reducible refine wpAny_loadPart_at hD ?_|(with_reducible refine wpAny_isSubtype_exc hD ?_;rw[hDB])|(with_reducible refine wpAny_isSubtype_exc hC ?_;rw[hb])|wp_step)
 cases b<;>(wp_walk;exact hq)
theorem wc{s:Shared}{D:Addr}{Q:Bool->Shared->Prop}(hD:pP s.heap D)(hq:Q true s):wpAny M A (isExcClass (.ref D)) Q E s:=by
 refine e12 hD λxd' hD hbm=>?_
 have hDB:(Value.ref D::xd'.mro).contains (.type "BaseException")=true:=by rw[VI,hbm,Bool.or_true]
 obtain⟨hp,g,d,tk,os⟩:=s
 unfold isExcClass
 repeat(first|with_reducible refine wpAny_loadPart_at hD ?_|(with_reducible refine wpAny_isSubtype_exc hD ?_;rw[hDB])|wp_step)
 exact hq
theorem Ah{s:Shared}{x T:Addr}{o:Obj}{ds:List Addr}{b:Bool}{Q:Bool->Shared->Prop}(X:eR s.heap C Lg mN mL)(hx:s.heap.get? x=some o)(hcls:o.cls=.ref C)
  (hT:s.heap.IsTuple T (ds.map Value.ref).toArray) (hD:∀D∈ds,pP s.heap D) (hb:(ds.any λD=>(Value.ref C::.ref Lg::eb).contains (.ref D))=b) (hq:Q b s):wpAny M A (excMatches (.ref x) (.ref T)) Q E s:=by
 have hTT:=hT.typeIs
 obtain⟨ot,ht,hct,nt,hdt⟩:=hT
 unfold excMatches
 refine wpAny_bind (wpAny_isInstance hTT sub_tuple_self ?_)
 refine jU rfl ?_
 refine wpAny_bind (wpAny_bind (wpAny_load ht ?_))
 rw[hdt]
 refine wpAny_pure (wpAny_bind (wpAny_pure ?_))
 simp only[Option.getD_some]
 refine wpAny_bind ?_
 refine wpAny_forIn_list _ (λrest Y s'=>s'=s/\∀v∈rest,∃D,v=.ref D/\pP s.heap D) _ (λv rest b aa ⟨e,h1⟩=>?_) (λb aa ⟨e,_⟩=>?_) _ _ ⟨rfl,λv hv=>?_⟩
 .have hv:v∈ds.map Value.ref:=by simpa using hv
  refine e12 (List.mem_map.mp hv) λD hd zq63=>?_
  cases zq63
  exact⟨D,rfl,hD D hd⟩
 .subst e
  refine e12 (h1 v Vq) λD zq64 hE=>?_
  cases zq64
  refine wpAny_bind (wc hE ?_)
  refine eB (by decide) ?_
  exact wpAny_pure ⟨rfl,λv hv=>h1 v (Vr _ hv)⟩
 .subst e
  refine wpAny_bind (wpAny_typeOf_ref hx ?_)
  rw[hcls]
  refine wpAny_bind ?_
  have key:∀(l:List Addr),wpAny M A (forIn (l.map Value.ref) ((none:Option Bool),()) λc Y=>do
    let r<-isSubtype (.ref C) c
    if r=true then pure (ForInStep.done (some true,())) else pure (ForInStep.yield (none,())))
    (λst s'=>s'=aa/\st.1=if(l.any λD=>(Value.ref C::.ref Lg::eb).contains (.ref D)) then some true else none) E aa:=λl=>by
   induction l with
   |nil=>rw[List.map_nil,Xa];exact wpAny_pure ⟨rfl,rfl⟩
   |cons D l ih=>
    rw[WB,VZ]
    have Xs:=X
    obtain⟨hp,g,d,tk,os⟩:=aa
    refine wpAny_bind (wpAny_bind (S2 Xs ?_))
    cases hc:(Value.ref C::.ref Lg::eb).contains (.ref D) with
    |true=>exact wpAny_pure (wpAny_pure ⟨rfl,by simp only[WC,hc,Bool.true_or,if_true]⟩)
    |false=>
     refine wpAny_pure ?_
     simp only[WC,hc,Bool.false_or]
     exact ih
  have:=key ds
  refine wpAny_mono this (λst s' x=>?_) λY Y e=>e
  refine e02 x λe1 e2=>?_;clear x
  subst e1
  subst hb
  rw[e2]
  cases hb:ds.any λD=>(Value.ref C::.ref Lg::eb).contains (.ref D) with
  |true=>rw[hb] at hq;exact wpAny_pure hq
  |false=>rw[hb] at hq;exact wpAny_pure hq
end
section
variable{g:Gb}{c c':Cf}
theorem mK:PlainAttrs "bytes":=
 ⟨⟨"bytes.__getattribute__",by rw[typeLookup_type,builtinLookup_eq_fast];kernel_rfl,by decide+kernel⟩,by rw[typeLookup_type,builtinLookup_eq_fast];kernel_rfl⟩
theorem iY:Slot "bytes" "join" "bytes.join":=
 .of (owner:="bytes") (n:="join") (by rw[typeLookup_type,builtinLookup_eq_fast];kernel_rfl) (by decide+kernel) (by decide+kernel) (by decide+kernel)
  (by first|exact .inl (by decide+kernel)|exact .inr (by decide+kernel)) (by rw[isSubtype_type];kernel_rfl)
theorem ig:Slot "bytes" "index" "bytes.index":=
 .of (owner:="bytes") (n:="index") (by rw[typeLookup_type,builtinLookup_eq_fast];kernel_rfl) (by decide+kernel) (by decide+kernel) (by decide+kernel)
  (by first|exact .inl (by decide+kernel)|exact .inr (by decide+kernel)) (by rw[isSubtype_type];kernel_rfl)
theorem mT:typeOf (.builtin "bytes.join")=pure (.type "method_descriptor"):=by show builtinType _=_;rw[builtinType_eq_fast];kernel_rfl
theorem l8:typeOf (.builtin "bytes.index")=pure (.type "method_descriptor"):=by show builtinType _=_;rw[builtinType_eq_fast];kernel_rfl
theorem l9:entryFor table "bytes.join"=some Builtin.«bytes.join»:=entryFor_of_tree (by kernel_rfl)
theorem kW:entryFor table "bytes.index"=some Builtin.«bytes.index»:=entryFor_of_tree (by kernel_rfl)
theorem mU(a b:Value):argsOk "bytes.join" ⟨[a,b],[]⟩:=by unfold argsOk;kernel_rfl
theorem ma(a b:Value):argsOk "bytes.index" ⟨[a,b],[]⟩:=by unfold argsOk;kernel_rfl
section
variable{A:Around}{E:Value->Shared->Prop}{h:H}{s:Shared}{n:Nat}
theorem iZ:typeLookup (.type "int") "__buffer__"=pure none:=by rw[typeLookup_type,builtinLookup_eq_fast];kernel_rfl
theorem Dv{b:Array UInt8}{k:Nat}(hk:k<b.size):b.extract k (k+1)=#[b[k]]:=by
 apply Array.ext
 .simp;omega
 .intro i h1 h2
  cases (show i=0 by simp at h2;exact h2)
  simp
theorem GN{b:Array UInt8}{x:UInt8}{j:Nat}(h1:b[j]? =some x)(h2:∀k,k<j->b[k]?≠some x):Builtin.Bytes.find? b #[x] 0 b.size=some j:=by
 have hj:j<b.size:=(Array.getElem?_eq_some_iff.mp h1).1
 have e:((Wa (b.size+1 - (0+(#[x]:Array UInt8).size))).map (· +0))=Wa b.size:=List.map_id'' (λY=>rfl) _
 have ex:∀k,k<b.size->((b.extract k (k+(#[x]:Array UInt8).size)==#[x])=true↔b[k]? =some x):=λk hk=>by
  have:b.extract k (k+(#[x]:Array UInt8).size)=#[b[k]]:=Dv hk
  rw[this,Wq hk]
  exact⟨λq=>congrArg some (Wd (congrArg Wp (eq_of_beq q))).1,λq=>by rw[Vl q];exact beq_self_eq_true _⟩
 refine(congrArg (List.find? _) e).trans (List.find?_range_eq_some.mpr ⟨(ex j hj).mpr h1,List.mem_range.mpr hj,λk hk=>?_⟩)
 rw[Bool.not_eq_true',Bool.eq_false_iff]
 exact λq=>h2 k hk ((ex k (Nat.lt_trans hk hj)).mp q)
theorem Dw{b:Array UInt8}{t u:Tok}{i:Int}{j:Nat}{Q:Value->Shared->Prop}(hi:0≤i/\i<256)(h1:b[j]? =some i.toNat.toUInt8)(h2:∀k,k<j->b[k]?≠some i.toNat.toUInt8)(h:Q (.int j s.toks) {s with toks:=s.toks+1}):
  wpAny g.M A (call (.builtin "bytes.index") [.bytes b t,.int i u]) Q E s:=by
 have hb:wpAny g.M A.in1 (Builtin.«bytes.index» ⟨[.bytes b t,.int i u],[]⟩) (λfin s'=>∃v,fin=.done (.ret v)/\Q v s') E s:=by
  unfold Builtin.«bytes.index» Builtin.Bytes.searchM
  refine wpAny_bind ?_
  unfold Builtin.Bytes.searchArgs
  refine wpAny_bind (wpAny_of_eq (a:=(.bytes b t,[.int i u])) rfl ?_)
  refine wpAny_bind (wpAny_of_eq (a:=none) rfl ?_)
  refine wpAny_bind (wpAny_of_eq (a:=none) rfl ?_)
  refine wpAny_bind ?_
  unfold Builtin.Bytes.buffer?
  refine wpAny_bind (wpAny_specialOf (typeIs_int _ _ _) iZ ?_)
  refine wpAny_bind (wpAny_specialOf (typeIs_int _ _ _) iZ ?_)
  refine wpAny_pure ?_
  refine wpAny_bind (wpAny_specialOf (typeIs_int _ _ _) int_index ?_)
  refine bm_if_false rfl ?_
  refine wpAny_bind (wpAny_of_eq (a:=i) rfl ?_)
  refine bm_if_false (by simp only[ge_iff_le,Bool.or_eq_false_iff,decide_eq_false_iff_not];omega) ?_
  refine wpAny_bind (wpAny_pure ?_)
  refine wpAny_bind (jX ?_)
  have hsz:0<b.size:=by
   obtain⟨q,_⟩:=Array.getElem?_eq_some_iff.mp h1;omega
  have e1:Builtin.Bytes.window b.size none none=(0,(b.size:Int)):=by
   unfold Builtin.Bytes.window
   simp only[Option.getD_none,Int.lt_irrefl,if_false]
   congr 1
   rw[if_neg (by omega)];omega
  rw[e1]
  refine wpAny_pure ?_
  have e2:(if(b.size:Int) - 0<((#[i.toNat.toUInt8]:Array UInt8).size:Int) then none else some ((0:Int).toNat,(b.size:Int).toNat))=some (0,b.size):=by
   rw[if_neg (by simp;omega)];rfl
  dsimp only
  rw[e2]
  simp only[Xn,Xj,if_false]
  rw[GN h1 h2]
  exact wpAny_bind (wpAny_mkInt (wpAny_pure ⟨_,rfl,h⟩))
 exact wpAny_call_entry ig (typeIs_bytes _ _ _) kW hb (ma _ _)
theorem Ai{M:Model}{A:Around}{E:Value->Shared->Prop}{s:Shared}{β:Type}{n:Nat}{f:Nat->β->Sem (ForInStep β)}(inv:Nat->β->Prop){b:β}{Q:β->Shared->Prop}(h:inv 0 b)
  (turn:∀i b,i<n->inv i b->wpAny M A (f i b) (λr s'=>s'=s/\∃b',r=.yield b'/\inv (i+1) b') E s) (fin:∀b,inv n b->Q b s):wpAny M A (forIn (List.range' 0 n 1) b f) Q E s:=by
 have go:∀m i b,i+m=n->inv i b->wpAny M A (forIn (List.range' i m 1) b f) Q E s:=λm=>by
  induction m with
  |zero=>intro i b e h;cases e;exact wpAny_pure (fin b h)
  |succ m ih=>
   intro i b e h
   rw[List.range'_succ,VZ]
   refine wpAny_bind (wpAny_mono (turn i b (e▸Nat.lt_add_of_pos_right (VL m)) h) (λr s' q=>?_) λY Y x=>x)
   obtain⟨rfl,b',rfl,h'⟩:=q
   exact ih (i+1) b' ((Nat.succ_add i m).trans e) h'
 exact go n 0 b (VQ n) h
theorem Dx{id:String}{b:Array UInt8}{t:Tok}:Builtin.Bytes.takeBufferQuiet? id (.bytes b t) 0=pure (some (b,none)):=by
 unfold Builtin.Bytes.takeBufferQuiet? Builtin.Bytes.takeBuffer?
 rw[KBy.special_eq KBy.look_buffer,KBy.own_buffer]
 have:(0==Builtin.Bytes.fullReadOnly)=false:=by decide
 rw[this,KBy.buffer_eq]
 rfl
theorem joined_eq(l:List (Array UInt8)):Builtin.Bytes.joined #[] l=(l.map Wp).flatten.toArray:=by
 have:∀(l:List (Array UInt8)) (n:Nat) (a:Array UInt8),(l.zipIdx n).foldl (λout (x:Array UInt8×Nat)=>(if x.2>0 then out++#[] else out)++x.1) a=a++(l.map Wp).flatten.toArray:=λl=>by
  induction l with
  |nil=>intro n a;exact(Array.append_empty).symm
  |cons y l ih=>
   intro n a
   have e:(if n>0 then a++#[] else a)=a:=by split<;>first|exact Array.append_empty|rfl
   rw[List.zipIdx_cons,List.foldl_cons,ih,e]
   apply Xg
   rw[VX,VX,VX,List.append_assoc];rfl
 exact(this l 0 #[]).trans Array.empty_append
structure Uf(p:Value×Option Value):Prop where
 b:∃b t,p.1=.bytes b t
 n:p.2=none
theorem GO{M:Model}{A:Around}{E:Value->Shared->Prop}{s:Shared}{Q:Unit->Shared->Prop}{taken:List (Value×Option Value)}{keep:List Value}(ht:∀p∈taken,Uf p)(h:Q () s):wpAny M A (Builtin.Bytes.joinLetGo taken keep) Q E s:=by
 induction taken with
 |nil=>exact wpAny_pure h
 |cons p rest ih=>
  obtain⟨x,w⟩:=p
  cases (ht (x,w) Vq).n
  exact wpAny_bind (wpAny_letGo (ih λp hp=>ht p (Vr _ hp)))
theorem GP{vs:Array Value}(f:Value->Sem Fin)(k:Array Value->Sem Fin)(h:vs.size≠1):Builtin.Bytes.joinM.match_1 (λY=>Sem Fin) vs f k=k vs:=by
 obtain⟨l⟩:=vs
 cases l with
 |nil=>rfl
 |cons _ l=>cases l with
  |nil=>exact absurd rfl h
  |cons _ _=>rfl
structure JI(bs:List (Array UInt8))(i:Nat)(st:Array (Array UInt8)×List (Value×Option Value)):Prop where
 p:st.1.toList=bs.take i
 t:∀p∈st.2,Uf p
theorem sum_sizes:∀(l:List (Array UInt8)) (a:Nat),l.foldl (λx y=>x+y.size) a=a+(l.map W2).sum:=λl=>by
 induction l with
 |nil=>intro a;rfl
 |cons y l ih=>intro a;rw[List.foldl_cons,ih,WB,List.sum_cons,Xh]
theorem qA(bs:List (Array UInt8)):(bs.map Wp).flatten.toArray.size=(bs.map W2).sum:=by
 rw[VN,List.length_flatten,W3];rfl
structure JP(vs:List Value)(bs:List (Array UInt8)):Prop where
 l:vs.length=bs.length
 at_:∀(k:Nat) x,vs[k]? =some x->∃b t,x=.bytes b t/\bs[k]? =some b
theorem JP.get{vs:Array Value}{bs:List (Array UInt8)}(h:JP vs.toList bs){k:Nat}(hk:k<vs.size):∃b t,vs.getD k .none=.bytes b t/\bs[k]? =some b:=by
 rw[Array.getD_eq_getD_getElem?,Wq hk]
 exact h.at_ k _ (Array.getElem?_toList.trans (Wq hk))
theorem Dy{b:Array UInt8}{bs:List (Array UInt8)}(hl:1=bs.length)(e:bs[0]? =some b):(bs.map Wp).flatten.toArray=b:=by
 cases bs with
 |nil=>exact absurd hl (V9 0)
 |cons x r=>cases r with
  |nil=>cases e;exact Xg (We _)
  |cons _ _=>exact absurd (WG hl) (V9 _).symm
theorem GQ{x:Addr}{t:Tok}{vs:Array Value}{bs:List (Array UInt8)}{Q:Value->Shared->Prop}(hl:jk s.heap x vs)(hv:JP vs.toList bs)(hsz:(bs.map W2).sum≤10000)
  (h:∀t' k,Q (.bytes (bs.map Wp).flatten.toArray t') {s with toks:=k}):
  wpAny g.M A (call (.builtin "bytes.join") [.bytes #[] t,.ref x]) Q E s:=by
 refine e11 (id hl) λnn ho=>?_
 have hlen:vs.size=bs.length:=Array.length_toList.symm.trans hv.l
 refine wpAny_call_entry iY (typeIs_bytes _ _ _) l9 ?_ (mU _ _)
 refine wpAny_bind (wpAny_of_eq (a:=(.bytes #[] t,.ref x)) rfl ?_)
 refine bm_if_true rfl (wpAny_bind (wpAny_bind (wpAny_typeOf hl.isList.typeIs (bm_if_true (by decide) (wpAny_pure (wpAny_bind (wpAny_seqItems ho rfl ?_)))))))
 refine bm_if_true rfl ?_
 by_cases h1:vs.size=1
 .refine e22 (hv.get (k:=0) (h1▸Nat.one_pos)) λb t' e1 e2=>?_
  obtain⟨y,rfl⟩:∃y,vs=#[y]:=Array.size_eq_one_iff.mp h1
  cases (show y=.bytes b t' from e1)
  refine wpAny_bind (wpAny_typeOf (typeIs_bytes _ _ _) (bm_if_true (by decide) (wpAny_bind (wpAny_rule (wpAny_pure ⟨.bytes b t',rfl,?_⟩)))))
  rw[<-Dy hlen e2]
  exact h t' s.toks
 .rw[GP _ _ h1]
  refine wpAny_bind (Q:=λfin s'=>∃v,fin=Fin.done (Flow.ret v)/\Q v s') ?_
  rw[Std.Legacy.Range.forIn_eq_forIn_range',show Std.Legacy.Range.size [0:vs.size]=vs.size by simp[Std.Legacy.Range.size]]
  refine Ai (JI bs) ?_ (λi st hi J=>?_) λst J=>?_
  .exact⟨rfl,λp hp=>absurd hp Vv⟩
  .refine e22 (hv.get hi) λb t' q1 q2=>?_
   refine wpAny_bind (wpAny_seqItems ho rfl ?_)
   refine bm_if_false ?_ ?_
   .rw[show(Builtin.Bytes.Kind.bytes==Builtin.Bytes.Kind.bytearray)=false from rfl,Bool.false_or,Xq]
    intro p hp
    refine e21 ((J.t p hp).b) λb t e=>?_
    rw[e];exact Vs
   rw[q1]
   refine wpAny_bind (wpAny_holding (wpAny_of_eq Dx (wpAny_bind (wpAny_seqItems ho rfl ?_))))
   refine bm_if_false (bne_self_eq_false _) (wpAny_pure ⟨rfl,_,rfl,?_,λp hp=>?_⟩)
   .rw[Xm,J.p,List.take_add_one,q2];rfl
   .exact(List.mem_append.mp hp).elim (J.t p) λhp=>List.mem_singleton.mp hp▸⟨⟨_,_,rfl⟩,rfl⟩
  .have hst:st.1.toList=bs:=J.p.trans (hlen▸List.take_length)
   refine wpAny_bind (jX (bm_if_false (KBy.tooLong_not ?_) ?_))
   .rw[<-Array.foldl_toList,hst,sum_sizes,show(#[]:Array UInt8).size * _=0 from Nat.zero_mul _,VQ]
    exact Vo hsz (by decide)
   rw[hst,joined_eq]
   exact wpAny_bind (wpAny_mkBytes (wpAny_bind (wpAny_holding (wpAny_point (wpAny_bind (GO J.t (wpAny_pure ⟨_,rfl,h _ _⟩)))))) (qA bs▸dD (Vo hsz (by decide))))
def tP(g:Gb)(f:V->BF)(id:String):Prop:=∀{c:Cf} {A:Around} {E:Value->Shared->Prop} {h:H} {s:Shared} {a:V} {v:Value} {args:List V} {vs:List Value} {K:V->H->Bool},
 cV g c h s->VR g c a v->f a args h K=true->da g c args vs->wpAny g.M A (call (.builtin id) (v::vs)) (QV g c K) E s
theorem Dz:tP g xx "list.append":=λ{c A E h s a v args vs K} I hv hk hl=>a1 (PL:=λvs=>wpAny g.M A (call (.builtin "list.append") (v::vs)) (QV g c K) E s) hk hl λw x hx hk=>
 kR (P:=λv=>wpAny g.M A (call (.builtin "list.append") [v,x]) (QV g c K) E s) hk hv λk Y hk=>eL hk (λhk=>Gp I hk λl ws e h1 h2 h3 hk=>cT hk λhc hk=>
   oz h1 (λh' i' hs'=>⟨.none,c,_,.refl c,I.setL (o':=.list (l++[w])) e i' hs' rfl ⟨_,i',by rw[Xm];exact h2.append (.cons hx .nil),by rw[VK];exact V1 (eQ hc)⟩,iK,hk⟩) (dD (Vo (Vu (ew h2)) (Vo h3 (by decide))))) λhk=>
  MP I hk λo p e e1 h1 hk=>nX e1 h1 λws h1 h2 h3 h4 hn=>cT hk λhc hk=>
   oz h1 (λh' i' hs'=>⟨.none,c,_,.refl c,I.setL (o':=.lsU (p.1+1) (p.2+1)) e i' hs' hn ⟨_,i',by rw[Array.size_push];exact V1 h2,by rw[Array.size_push];exact V1 h3,V1 (eQ hc)⟩,iK,hk⟩) (dD (Vo h3 (Vo h4 (by decide))))
theorem DA{l b:Addr}{items items2:Array Value}{Q:Value->Shared->Prop}(hl:jk s.heap l items)(hb:jk s.heap b items2)(hsz:items.size+items2.size≤10000)
  (hQ:∀h',jk h' l (items++items2)->VB l s.heap h'->Q .none {s with heap:=h'}):wpAny g.M A (call (.builtin "list.extend") [.ref l,.ref b]) Q E s:=by
 refine e11 (id hl) λn ho=>?_
 refine e11 hb λn2 ho2=>?_;clear hb
 have hz:=dD (Vo hsz (by decide))
 have hc0:¬(!items.isEmpty&&Builtin.List.listTooLong (items.size+items2.size))=true:=λq=>absurd (of_decide_eq_true (Bool.and_eq_true_iff.mp q).2) (Nat.not_lt.mpr hz)
 exact call_meets PySem.F.slot_list_extend hl.isList.typeIs PySem.F.entry_list_extend (PySem.F.args_list_extend_2 _ _) (AutoSeq1.list_extend_list_list_0 l items n b items2 n2 hc0 (Vo (Wr _ _) hz) (Nat.le_succ_of_le hz)) ⟨ho,ho2,hQ _ ⟨_,VD _ ho rfl⟩ (Heap.SameBut.update ..)⟩
theorem KJ{k:Nat}{o:Option O}{K:O->Bool}(I:cV g c h s)(hk:FI (h.get k) o K=true):∃ob,h.get k=some ob/\ob.isNs=false:=
 eL hk (λhk=>Gp I hk λl Y e Y Y Y Y=>⟨_,e,rfl⟩) λhk=>MP I hk λo p e e1 h1 Y=>nX e1 h1 λY Y Y Y Y hn=>⟨o,e,hn⟩
theorem DB(W:SW g):tP g (xy g.C) "list.extend":=λ{c A E h s a v args vs K} I hv hk hl=>a1 (PL:=λvs=>wpAny g.M A (call (.builtin "list.extend") (v::vs)) (QV g c K) E s) hk hl λw y hy hk=>
 cP hk λk e hk9=>by
  cases gC e
  refine e12 (KJ I hk9) λob e hn=>?_
  refine x8 (a:=.ref k) (P:=λv' y=>v'=v->wpAny g.M A (call (.builtin "list.extend") [v,y]) (QV g c K) E s) W I hv hy hk9 (λp xs q ys o h1 h2 h3 h4 hK e2=>?_) rfl
  have e3:v=.ref (c.ρ k):=hv.2
  subst e2
  cases e3
  exact DA h1 h2 h3 λh' i' hs'=>⟨.none,c,_,.refl c,I.setL (o':=o) e i' hs' hn (i'.elim λnn hg=>h4.or (n:=nn) (by rw[hg,<-VX])),iK,hK⟩
theorem da.snoc{l:List V}{w:V}:∀{vs:List Value},da g c (l++[w]) vs->∃xs y,vs=xs++[y]/\da g c l xs/\VR g c w y:=by
 induction l with
 |nil=>
  intro vs h
  refine e23 h λy ys zq65 h1 h2=>?_;clear h
  cases zq65
  cases (show ys=[] from h2)
  exact⟨[],y,rfl,.nil,h1⟩
 |cons a l ih=>
  intro vs h
  refine e23 h λx xs zq66 h1 h2=>?_;clear h
  cases zq66
  refine e23 (ih h2) λys y zq67 h3 h4=>?_
  cases zq67
  exact⟨x::ys,y,rfl,.cons h1 h3,h4⟩
theorem GR{C:Prop}{l:List V}{F:V->List V->Bool}(h:Ng l.reverse F=true)(f:∀w r,l=r++[w]->F w r.reverse=true->C):C:=by
 cases e:l.reverse with
 |nil=>rw[e] at h;exact ft h
 |cons w r=>
  rw[e] at h
  refine f w r.reverse ?_ (by rw[WI];exact h)
  rw[<-WI l,e,Xo]
theorem N0{x:Addr}{xs:List Value}{y:Value}{Q:Value->Shared->Prop}(hl:jk s.heap x ⟨xs++[y]⟩)(hz:xs.length+1≤sizeLine)
  (hQ:∀h',jk h' x ⟨xs⟩->VB x s.heap h'->Q y {s with heap:=h'}):wpAny g.M A (call (.builtin "list.pop") [.ref x]) Q E s:=by
 refine e11 (id hl) λnn ho=>?_
 have e0:(⟨xs++[y]⟩:Array Value).size - 1=xs.length:=by rw[VN,VK];rfl
 have hy:(⟨xs++[y]⟩:Array Value)[(⟨xs++[y]⟩:Array Value).size - 1]? =some y:=by
  rw[e0,List.getElem?_toArray,List.getElem?_append_right (VA _),Nat.sub_self];rfl
 have he:(⟨xs++[y]⟩:Array Value).eraseIdxIfInBounds ((⟨xs++[y]⟩:Array Value).size - 1)=⟨xs⟩:=by
  rw[e0]
  have hlt:xs.length<(⟨xs++[y]⟩:Array Value).size:=by rw[VN,VK];exact VS _
  refine(dif_pos hlt).trans (Xg ?_)
  rw[Array.toList_eraseIdx,List.eraseIdx_append_of_length_le (VA _),Nat.sub_self]
  exact We xs
 have e1:_=some ({cls:=.type "list",dict:=none,data:=.seq ((⟨xs++[y]⟩:Array Value).eraseIdxIfInBounds ((⟨xs++[y]⟩:Array Value).size - 1)) _,slots:=#[]}:Obj):=VD (Xk λl=>l.eraseIdxIfInBounds ((⟨xs++[y]⟩:Array Value).size - 1)) ho rfl
 rw[he] at e1
 have i':jk _ x ⟨xs⟩:=⟨_,e1⟩
 exact call_meets PySem.F.slot_list_pop hl.isList.typeIs PySem.F.entry_list_pop (PySem.F.args_list_pop_1 _) (MeetsSeq.list_pop_last x ⟨xs++[y]⟩ nn y hy (by rw[VN,VK];exact hz)) ⟨ho,hQ _ i' (Heap.SameBut.update ..)⟩
theorem N1:tP g Ni "list.pop":=λ{c A E h s a v args vs K} I hv hk hl=>a0 (PL:=λvs=>wpAny g.M A (call (.builtin "list.pop") (v::vs)) (QV g c K) E s) hk hl λhk=>
 kR (P:=λv=>wpAny g.M A (call (.builtin "list.pop") [v]) (QV g c K) E s) hk hv λk Y hk=>Gp I hk λl ws e h1 h2 h3 hk=>GR hk λw r el hk9=>by
  cases el
  refine e23 h2.snoc λxs y e1 r1 r2=>?_
  obtain⟨ws⟩:=ws
  cases (show ws=xs++[y] from e1)
  have hz:xs.length+1≤10000:=by rw[r1.length];exact(VK (as:=r) (bs:=[w])).symm.trans rfl▸h3
  exact N0 h1 (dD (Vo hz (by decide))) λh' i' hs'=>⟨w,c,_,.refl c,I.setL (o':=.list r.reverse.reverse) e i' hs' rfl ⟨_,i',(WI r).symm▸r1,by rw[WI,<-r1.length];exact Nat.le_of_succ_le hz⟩,r2,hk9⟩
theorem GS{args:List V}{vs:List Value}{F:Nat->V->Bool}{P:List Value->Prop}(h:Nh args F=true)(hl:da g c args vs)
  (f:∀(x:Str) t d,cd x≠0->F (cd x) d=true->(d=.none->P [.str x t])/\∀dv,VR g c d dv->P [.str x t,dv]):P vs:=by
 cases args with
 |nil=>exact ft h
 |cons k r=>
  refine e23 hl λy ys zq68 h1 h2=>?_;clear hl
  cases zq68
  refine kS (P:=λy=>P (y::ys)) h h1 λx t x1 Y hk=>?_
  cases r with
  |nil=>cases (show ys=[] from h2);exact(f x t .none x1 hk).1 rfl
  |cons d r=>
   refine e23 h2 λz zs zq69 h3 h4=>?_;clear h2
   cases zq69
   exact a0 (PL:=λzs=>P (.str x t::z::zs)) hk h4 λhk=>(f x t d x1 hk).2 z h3
theorem yy{l:List (Nat×V)}{kvs:List (Str×Value)}{x:Str}{d:V}{dv:Value}(w3:PR g c l kvs)(hx:cd x≠0)(hd:VR g c d dv):VR g c ((eJ l (cd x)).getD d) ((valueAt kvs x).getD dv):=by
 refine e02 (w3.at hx) λi1 i2=>?_
 cases e:eJ l (cd x) with
 |none=>rw[i2 e];exact hd
 |some a=>obtain⟨u,e2,hu⟩:=i1 a e;rw[e2];exact hu
theorem N2(W:SW g):tP g (Nj g.C) "dict.get":=λ{c A E h s a v args vs K} I hv hk hl=>kD (P:=λv=>wpAny g.M A (call (.builtin "dict.get") (v::vs)) (QV g c K) E s) W I hk hv λl x kvs w1 w2 w3 w4 hk=>
 GS (P:=λvs=>wpAny g.M A (call (.builtin "dict.get") (.ref x::vs)) (QV g c K) E s) hk hl λy t d hy hk=>
  ⟨λe=>call_meetsIn PySem.F.slot_dict_get w1.typeIs PySem.F.entry_dict_get (PySem.F.args_dict_get_2 _ _) (meets_dict_get (PySem.strKind g.pr g.wd) x oq w2) ⟨_,w1.mapOf,.at (I.tok _) (yy w3 hy (e▸iK)) hk⟩,
   λdv hd=>call_meetsIn PySem.F.slot_dict_get w1.typeIs PySem.F.entry_dict_get (PySem.F.args_dict_get_3 _ _ _) (meets_dict_get_default (PySem.strKind g.pr g.wd) x oq w2 dv) ⟨_,w1.mapOf,.at (I.tok _) (yy w3 hy hd) hk⟩⟩
structure S4(b:List UInt8)(m:Int)(j:Nat):Prop where
 at_:∃x,b[j]? =some x/\(x.toNat:Int)=m
 no:∀q,q<j->∀y,b[q]? =some y->(y.toNat:Int)≠m
theorem DC{σ:Nat->Int}{m:Int}{bs:List AI}:∀{b:List UInt8} {k i:Nat},BR σ bs b->sN bs m k=some i->∃j,i=k+j/\S4 b m j:=by
 induction bs with
 |nil=>intro b k i Y e;exact nn e
 |cons a r ih=>
  intro b k i h e
  refine e23 h λx t zq70 hx hr=>?_;clear h
  cases zq70
  exact cW e λq e1 e=>by
   have hm:=yi e1 (rh (show dO σ (.c m) m from rfl) hx)
   cases q with
   |true=>cases e;exact⟨0,rfl,⟨x,rfl,(of_decide_eq_true hm).symm⟩,λq hq=>absurd hq (VE _)⟩
   |false=>
    refine e12 (ih hr e) λj zq71 h=>?_
    cases zq71
    refine⟨j+1,Nat.succ_add_eq_add_succ k j,h.at_,λq hq y hy=>?_⟩
    cases q with
    |zero=>cases hy;exact Ne.symm (of_decide_eq_false hm)
    |succ q=>exact h.no q (V5 hq) y hy
theorem GU{bs:List AI}{ns:List Int}:∀{is:List Int} {m:Int},JN bs ns=some is->m∈ns->∃i:Nat,sN bs m 0=some i/\(i:Int)∈is:=by
 induction ns with
 |nil=>intro is m Y h;exact absurd h Vv
 |cons x r ih=>
  intro is m e h
  exact cW e λi e1 e=>cW e λl e2 e3=>by
   cases e3
   cases h with
   |head=>exact⟨i,e1,Vq⟩
   |tail _ h=>exact(ih e2 h).elim λj q=>⟨j,q.1,Vr _ q.2⟩
theorem tQ{l:List AI}{b:Array UInt8}{t u:Tok}{m:Int}{i:Nat}{z:AI}{K:V->H->Bool}(I:cV g c h s)(hb:BR g.σ l b.toList)(e:sN l m 0=some i)(hz:dO g.σ z (i:Int))(hk:K (.int z) h=true):
  wpAny g.M A (call (.builtin "bytes.index") [.bytes b t,.int m u]) (QV g c K) E s:=by
 refine e12 (DC hb e) λj e2 h=>?_
 cases (e2.trans (VQ j))
 refine e12 h.at_ λx h1 h2=>?_
 have ex:m.toNat.toUInt8=x:=by rw[<-h2];exact UInt8.ofNat_toNat
 refine Dw (j:=i) ⟨h2▸VV _,h2▸Int.ofNat_lt.mpr x.toNat_lt⟩ ?_ (λq hq e=>?_) (.ti I hz hk)
 .rw[ex,<-Wz];exact h1
 .rw[ex,<-Wz] at e
  exact h.no q hq x e h2
theorem GV:tP g Bs "bytes.index":=λ{c A E h s a v args vs K} I hv hk hl=>kB (P:=λv=>wpAny g.M A (call (.builtin "bytes.index") (v::vs)) (QV g c K) E s) hk hv λl b t hb hk=>
 a1 (PL:=λvs=>wpAny g.M A (call (.builtin "bytes.index") (.bytes b t::vs)) (QV g c K) E s) hk hl λw y hy hk=>kI (P:=λy=>wpAny g.M A (call (.builtin "bytes.index") [.bytes b t,y]) (QV g c K) E s) hk hy λz m u hz hk=>
  eL hk (λhk=>cP hk λns e hk=>cP hk λis e1 hk=>(GU e1 (jp e▸hz:dO g.σ (.st ns) m)).elim λi q=>tQ I hb q.1 (show dO g.σ (.st is) _ from q.2) hk) λhk=>
   cP hk λn e hk=>cP hk λi e1 hk=>tQ I hb (hz.cst e▸e1) (show dO g.σ (.c i) _ from rfl) hk
theorem DD{l:List V}:∀{vs:List Value} {bs:List AI},da g c l vs->Br l=some bs->∃xs:List (Array UInt8),JP vs xs/\BR g.σ bs (xs.map Wp).flatten:=by
 induction l with
 |nil=>intro vs bs h e;cases e;cases (show vs=[] from h);exact⟨[],⟨rfl,λY Y q=>nomatch q⟩,rfl⟩
 |cons v r ih=>
  intro vs bs h e
  refine e23 h λx xs zq72 h1 h2=>?_;clear h
  cases zq72
  exact cW e λl e1 e=>cW e λy e2 e3=>by
   cases d7 e1
   cases e3
   refine e22 h1 λb t zq73 hb=>?_;clear h1
   cases zq73
   refine e12 (ih h2 e2) λys q1 q2=>?_
   refine⟨b::ys,⟨congrArg (· +1) q1.l,λk z hz=>?_⟩,hb.append q2⟩
   cases k with
   |zero=>cases hz;exact⟨b,t,rfl,rfl⟩
   |succ k=>exact q1.at_ k z hz
theorem KL(W:SW g):tP g (Ix g.C) "bytes.join":=λ{c A E h s a v args vs K} I hv hk hl=>kB (P:=λv=>wpAny g.M A (call (.builtin "bytes.join") (v::vs)) (QV g c K) E s) hk hv λl b t hb hk=>cT hk λhn hk=>
 a1 (PL:=λvs=>wpAny g.M A (call (.builtin "bytes.join") (.bytes b t::vs)) (QV g c K) E s) hk hl λw y hy hk=>kL (P:=λy=>wpAny g.M A (call (.builtin "bytes.join") [.bytes b t,y]) (QV g c K) E s) W I hk hy λxs x ws w1 w2 w3 hk=>
  cP hk λbs e1 hk=>cT hk λhc hk9=>(DD w2 e1).elim λys q=>by
   cases Gn hn
   cases Array.toList_eq_nil_iff.mp (show b.toList=[] from hb)
   have hz:(ys.map W2).sum=bs.length:=(qA ys).symm.trans (BR.size (b:=(ys.map Wp).flatten.toArray) q.2)
   exact GQ w1 q.1 (hz▸eQ hc) λt' k=>.tb I q.2 hk9
end
open PySem.Spec PySem.Builtin PySem.Builtin.Str
theorem DE{g:Gb}{A:Around}{E:Value->Shared->Prop}{s:Shared}{x y:PySem.Str}{t u:Tok}{Q:Value->Shared->Prop}(hy:(y.length==0)=false)(hsz:x.length≤1000)
  (h:∀l k,l.map (·.1)=Txt.split x y->Q (.ref s.heap.objs.size) {s with heap:=s.heap.push {cls:=.type "list",data:=.seq (strValues l).toArray},toks:=k}):
  wpAny g.M A (call (.builtin "str.split") [.str x t,.str y u]) Q E s:=by
 have hn:(partsBetween x (occurrences x y 0 x.length (x.length+1)) y.length).length≤sizeLine:=by
  have e1:=StrLaws.occ_length_le x y 0 x.length (x.length+1)
  rw[length_partsBetween,sizeLine_eq];omega
 cases h1:(decide (x.length<y.length)||decide (PySem.Builtin.Str.strKind x<PySem.Builtin.Str.strKind y))
 .cases hf:(occurrences x y 0 x.length (x.length+1)).isEmpty
  .refine call_meets F.slot_str_split (typeIs_str _ _ _) F.entry_str_split (F.args_str_split_2 _ _) (meets_str_split_sep x y t u h1 hy hf (by rw[sizeLine_eq];omega) hn) ?_
   refine(?_:wants Q E _ {s with toks:=_,heap:=s.heap.push {cls:=.type "list",data:=.seq (strsFrom s.toks (partsBetween x (occurrences x y 0 x.length (x.length+1)) y.length)).toArray}})
   rw[strsFrom_eq]
   exact h (numbered s.toks _) _ ((numbered_texts _ _).trans ((if_neg (ne_true_of_eq_false h1)).trans (if_neg (ne_true_of_eq_false hf))).symm)
  .exact call_meets F.slot_str_split (typeIs_str _ _ _) F.entry_str_split (F.args_str_split_2 _ _) (meets_str_split_not_found x y t u h1 hy hf)
    (h [(x,t)] s.toks ((if_neg (ne_true_of_eq_false h1)).trans (if_pos hf)).symm)
 .exact call_meets F.slot_str_split (typeIs_str _ _ _) F.entry_str_split (F.args_str_split_2 _ _) (meets_str_split_cannot_occur x y t u h1)
   (h [(x,t)] s.toks (if_pos h1).symm)
variable{g:Gb}{c c':Cf}
section
variable{A:Around}{E:Value->Shared->Prop}{h:H}{s:Shared}{n:Nat}
def WD(g:Gb):Prop:=∀{x:Str} {ws:List Nat},cd x≠0->g.C.words (cd x)=some ws->(Txt.split x (Vm " ")).map cd=ws/\(∀y∈Txt.split x (Vm " "),cd y≠0/\y.length≤1000)/\ws.length≤10000
theorem qB:∀{l:List (Str×Tok)} {ws:List Nat},l.map (λp=>cd p.1)=ws->(∀p∈l,cd p.1≠0/\p.1.length≤1000)->da g c (iz ws) (strValues l)
 |[],_,e,_=>e▸da.nil
 |p::l,_,e,h=>e▸da.cons (Kp (h p Vq).1 (h p Vq).2) (qB rfl λq hq=>h q (Vr _ hq))
theorem DF(D:WD g){x z:Str}{t u:Tok}{ws:List Nat}{K:V->H->Bool}(I:cV g c h s)(x1:cd x≠0)(x2:x.length≤1000)(z1:cd z≠0)(hz:Vn (cd z) 288=true)(e:g.C.words (cd x)=some ws)(hk:K (.ref h.length) (h.push (.list (iz ws)))=true):
  wpAny g.M A (call (.builtin "str.split") [.str x t,.str z u]) (QV g c K) E s:=by
 cases et z1 (show cd z=cd (Vm " ") from cX hz)
 refine e03 (D x1 e) λq1 q2 q3=>?_
 refine DE (by decide) x2 λl k' hl=>?_
 have e2:l.map (λp=>cd p.1)=ws:=by rw[<-q1,<-hl,W3];rfl
 have r:=qB (g:=g) (c:=c) e2 λp hp=>q2 p.1 (by rw[<-hl];exact WK hp)
 obtain⟨c',e',I',r⟩:=kH (l:=iz ws) (vs:=strValues l) I r (by rw[strsOf_len];exact q3)
 exact⟨_,c',_,e',I'.tok k',r,hk⟩
theorem GW(D:WD g):tP g (Bt g.C) "str.split":=λ{c A E h s a v args vs K} I hv hk hl=>kS (P:=λv=>wpAny g.M A (call (.builtin "str.split") (v::vs)) (QV g c K) E s) hk hv λx t x1 x2 hk=>
 a1 (PL:=λvs=>wpAny g.M A (call (.builtin "str.split") (.str x t::vs)) (QV g c K) E s) hk hl λw y hy hk=>kS (P:=λy=>wpAny g.M A (call (.builtin "str.split") [.str x t,y]) (QV g c K) E s) hk hy λz u z1 Y hk=>
  cT hk λhz hk=>cP hk λws e hk=>DF D I x1 x2 z1 hz e hk
end
end
section
set_option tactic.hygienic true
variable{g:Gb}{c c':Cf}
structure LF(g:Gb):Prop where
 hd:CodeHd g.B g.lc g.P
 glob:∃mg,g.B.Ns mainGlobals mg/\g.B.BuiltinsAt mg g.P
 ne:mainGlobals≠g.P
theorem pQ{pos q:Pos}{cv v:Value}(l:List Value)(h:TriplesOk l)(e:codeAmong pos (l++[rawInt q.line,rawInt q.col,cv])=some v):codeAmong pos l=some v\/v=cv:=by
 fun_induction TriplesOk l with
 |case1=>
  simp only[List.nil_append,rawInt,codeAmong] at e
  split at e
  .cases e;exact .inr rfl
  .cases e
 |case2 a t b u x rest ih=>
  simp only[List.cons_append,codeAmong] at e⊢
  split at e
  .rename_i hc;rw[if_pos hc];exact .inl e
  .rename_i hc;rw[if_neg hc];exact ih h e
 |case3 l h1 h2=>exact h.elim
section
variable{h:H}{s:Shared}
theorem cV.tabDat{h':Heap}{a:Addr}{o:Obj}(I:cV g c h s)(k:∀b o,b≠g.P->s.heap.get? b=some o->h'.get? b=some o)(fa:hH g c a)(ha:h'.get? a=some o)(T:kF g (c.datAt a o) h')(t:Nat):cV g (c.datAt a o) h {s with heap:=h',toks:=t}:=by
 have al:∀b,b≠a->Al g c b->Al g (c.datAt a o) b:=λb hb x=>⟨x.R,x.B,x.T,λob q=>q.elim (x.D ob) λq=>hb q.1⟩
 refine⟨I.len,λi ob hi=>?_,λi hi=>?_,λb vs e=>?_,λb ob hd=>?_,λb ob e=>k _ _ (λq=>I.offP.R ob (q▸e)) (I.rest b ob e),λb ob e=>?_,λb ob e=>k _ _ (λq=>by have:=I.offP.B;rw[q,this] at e;cases e) (I.base b ob e),I.inj,λi hi b hb=>?_,λb ob hb=>let⟨x,y⟩:=I.offS b ob hb;⟨al b (λq=>fa.S ob (q▸hb)) x,y⟩,I.sam,I.t0,I.m0,I.ns,T,al _ (Ne.symm fa.P) I.offP,I.sm,⟨I.rT.1,λb ob ob' q=>q.elim (λq=>I.rT.2 b ob ob' q) λq=>q.1▸fa.al.R ob'⟩⟩
 .refine e02 (I.obj i ob hi) λh1 h2=>?_
  exact⟨h1,(h2.at (λob=>k _ ob (I.off i h1 _ (.inl rfl)).2.2) (λob=>k _ ob (I.off i h1 _ (.inr rfl)).2.2)).ext (dA.datAt c a o)⟩
 .refine e02 (I.pres i hi) λzq74 zq75=>?_
  refine e11 zq74 λo h1=>?_
  refine e11 zq75 λo' h2=>?_
  exact⟨⟨o,k _ _ (I.off i hi _ (.inl rfl)).2.2 h1⟩,⟨o',k _ _ (I.off i hi _ (.inr rfl)).2.2 h2⟩⟩
 .refine e12 (I.tup b vs e) λo h1 r=>?_
  exact⟨o,k _ _ (λq=>I.offP.T vs (q▸e)) h1,r⟩
 .rcases hd with hd|⟨rfl,rfl⟩
  .exact k _ _ (λq=>I.offP.D ob (q▸hd)) (I.dat b ob hd)
  .exact ha
 .refine e11 (I.fra b ob e) λsl h1=>?_
  exact⟨sl,k _ _ (I.offS b ob e).2 h1⟩
 .refine e02 (I.off i hi b hb) λx1 x2=>?_
  exact⟨al b (λq=>hb.elim (λr=>(fa.ne i hi).1 (q.symm.trans r)) λr=>(fa.ne i hi).2 (q.symm.trans r)) x1,x2⟩
theorem GX{as:List Arg}{x:Str}(h:(match as with|[]=>none|a::r=>Nn a r)=some x):∃an,as=[⟨x,none,an⟩]:=by
 cases as with
 |nil=>cases h
 |cons a r=>
  obtain⟨y,an,p⟩:=a
  cases an with
  |some _=>cases h
  |none=>cases r with
   |nil=>exact⟨p,by rw[<-Vl (show some y=some x from h)]⟩
   |cons _ _=>cases h
theorem GY{b:Bool}{o:Option Str}{x:Str}(h:(match b with|true=>o|false=>none)=some x):b=true/\o=some x:=by
 cases b with
 |true=>exact⟨rfl,h⟩
 |false=>cases h
theorem N3{ar:Arguments}{a:List Arg}{b:List Arg}{c:Option Arg}{d:List Arg}{e:List (Option Expr)}{f:Option Arg}{g:List Expr}(h1:ar.posonlyargs=a)(h2:ar.args=b)(h3:ar.vararg=c)(h4:ar.kwonlyargs=d)(h5:ar.kw_defaults=e)(h6:ar.kwarg=f)(h7:ar.defaults=g):ar=⟨a,b,c,d,e,f,g⟩:=by
 subst h1 h2 h3 h4 h5 h6 h7;cases ar with|mk=>rfl
theorem GZ{ar:Arguments}{x:Str}(h:No ar=some x):∃an,ar=⟨[],[⟨x,none,an⟩],none,[],[],none,[]⟩:=by
 refine e02 (GY h) λhb h=>?_
 refine e11 (GX h) λan h0=>?_
 refine e02 (Bool.and_eq_true_iff.mp hb) λh1 hb=>?_
 refine e02 (Bool.and_eq_true_iff.mp hb) λh2 hb=>?_
 refine e02 (Bool.and_eq_true_iff.mp hb) λh3 hb=>?_
 refine e02 (Bool.and_eq_true_iff.mp hb) λh4 hb=>?_
 refine e02 (Bool.and_eq_true_iff.mp hb) λh5 h6=>?_
 exact⟨an,N3 (List.isEmpty_iff.mp h1) h0 (Option.isNone_iff_eq_none.mp h2) (List.isEmpty_iff.mp h3) (List.isEmpty_iff.mp h4) (Option.isNone_iff_eq_none.mp h5) (List.isEmpty_iff.mp h6)⟩
theorem KM(LFg:LF g){A:Around}{E:Value->Shared->Prop}{fr:Fr}{env:Env}{ar:Arguments}{b:Expr}{sc:Scope}{p:Pos}{K:V->H->Bool}(f:FR g c A fr env)(I:cV g c h s)(hk:u9 fr ar b sc h K=true):
  wpAny g.M A (eval (.Lambda ar b sc p) env) (QV g c K) E s:=by
 refine cP hk λx ex hk=>Gd hk λhl hx hfree hsc hK=>?_
 refine e11 (GZ ex) λan zq76=>?_
 cases zq76
 .·have hsc:=qu hsc
   refine e12 (oH f hfree) λcl hcl hcr=>?_
   refine e02 (f.lam hl) λhcode hq=>?_
   refine e12 LFg.glob λmg hg hb=>?_
   refine e13 I.tab λps hP ht hps=>?_
   have st:=I.base
   have hb':s.heap.BuiltinsAt mg g.P:=by
    refine e26 hb λbm o b1 b2 b3 b4 b5 r=>?_;clear hb
    exact⟨bm,o,b1,b2,b3,b4,st _ _ b5,r⟩
   refine kla_eval rfl ?_
   have fin:∀{ag:Cf} {h':Heap} {tk:Nat} {cv ctv:Value},dA c ag->cV g ag h {s with heap:=h',toks:=tk}->(∃c' oc vs t,cv=.ref c'/\ag.D c' oc/\oc.data=.fields vs/\vs[1]? =some (.str g.lq t))->
     QV g c K (.ref h'.objs.size) {s with heap:=h'.push {cls:=.type "function",data:=.func (kla_fn "<lambda>" (env.qual++"<lambda>") ⟨[],[⟨x,none,an⟩],none,[],[],none,[]⟩ b sc cl ((mg "__name__").getD .none) cv ctv)},toks:=tk}:=λ{ag h' tk cv ctv} ac af hcv=>by
    obtain⟨ao,N⟩:=af.push1 false (o:=.lam (cd x) b (dH sc.names) fr.cells) (ob:={cls:=.type "function",data:=.func (kla_fn "<lambda>" (env.qual++"<lambda>") ⟨[],[⟨x,none,an⟩],none,[],[],none,[]⟩ b sc cl ((mg "__name__").getD .none) cv ctv)}) rfl
     (λh'' ga=>⟨_,_,ga,rfl,rfl,⟨⟨x,none,an,rfl,rfl⟩,rfl,rfl,hsc.k,hsc.co,hsc.ge,rfl,rfl,rfl,rfl,λq=>nn (hsc.cls.symm.trans q),hsc.dbg,λq=>nn (hsc.cdi.symm.trans q)⟩,hcr.ext ac,by
      refine e44 hcv λc' oc vs t q1 q2 q3 q4=>?_;clear hcv
      exact⟨c',oc,vs,t,q1,q2,q3,by rw[q4];exact congrArg (λz=>some (Value.str z t)) hq.symm⟩⟩) ft
    exact⟨_,ao,_,ac.trans N.e,N.i,N.v,hK⟩
   cases hca:codeAmong p ps.toList with
   |some cv=>
    refine kla_makeFunctionHit hcl f.glob (hg.keeps st) hcode (LFg.hd.keeps st) hP ht hca hb' λctv h' tk k' Y=>?_
    have af:=I.keep (s':={s with heap:=h',toks:=tk}) k' ⟨rfl,rfl,rfl⟩
    exact fin (.refl c) af (hps p cv hca)
   |none=>
    refine kla_makeFunction hcl f.glob (hg.keeps st) hcode (LFg.hd.keeps st) hP ht hca LFg.ne hb' λc' ctv h' tk hx hge hlt hrec htab=>?_
    refine e44 hrec λc'' oc vs t q1 q2 q3 q4=>?_;clear hrec
    cases q1
    have fa:hH g c c':=I.free (VC hge)
    have T1:kF g (c.datAt c' oc) h':=by
     refine⟨ps++#[rawInt p.line,rawInt p.col,.ref c'],htab,?_,λpos cv e=>?_⟩
     .rw[VX];exact TriplesOk_snoc _ _ _ _ ht
     .rw[VX] at e
      rcases pQ ps.toList ht e with e|rfl
      .refine e43 (hps pos cv e) λa1 a2 a3 a4 a5 a6 a7=>?_
       exact⟨a1,a2,a3,a4,a5,.inl a6,a7⟩
      .exact⟨c',oc,vs,t,rfl,.inr ⟨rfl,rfl⟩,q3,by rw[q4];exact congrArg (λz=>some (Value.str z t)) hq⟩
    have af:=I.tabDat (λb o hb e=>hx b o hb e) fa q2 T1 tk
    exact fin (dA.datAt c c' oc) af ⟨c',oc,vs,t,rfl,.inr ⟨rfl,rfl⟩,q3,by rw[q4];exact congrArg (λz=>some (Value.str z t)) hq⟩
end
end
noncomputable def kg:List (Str×Value)->List (Str×Value)->List (Str×Value)
 |r,[]=>r
 |r,(n,d)::xs=>kg (if(r.lookup n).isNone=true then r++[(n,d)] else r) xs
theorem DG{f:Str×Value->List (Str×Value)->Sem (ForInStep (List (Str×Value)))}(hf:∀n d r,f (n,d) r=if(r.lookup n).isNone=true then pure (.yield (r++[(n,d)])) else pure (.yield r)):
  ∀(xs r:List (Str×Value)),forIn xs r f=pure (kg r xs)
 |[],r=>rfl
 |(n,d)::xs,r=>by
  rw[VZ,hf]
  refine(?_:_=(pure (kg (if(r.lookup n).isNone=true then r++[(n,d)] else r) xs):Sem (List (Str×Value))))
  by_cases q:(r.lookup n).isNone=true
  .rw[if_pos q,if_pos q,pure_bind];exact DG hf xs _
  .rw[if_neg q,if_neg q,pure_bind];exact DG hf xs _
theorem yz:∀{xs r:List (Str×Value)},(∀p∈xs,(r.lookup p.1).isNone=false)->kg r xs=r
 |[],_,_=>rfl
 |(n,d)::xs,r,h=>by
  refine(?_:kg (if(r.lookup n).isNone=true then r++[(n,d)] else r) xs=r)
  rw[if_neg (by rw[h (n,d) Vq];decide)]
  exact yz λp hp=>h p (Vr _ hp)
theorem yA:∀{xs r:List (Str×Value)},(∀p∈xs,r.lookup p.1=none)->(xs.map (·.1)).Nodup->kg r xs=r++xs
 |[],r,_,_=>(We _).symm
 |(n,d)::xs,r,h,hn=>by
  refine(?_:kg (if(r.lookup n).isNone=true then r++[(n,d)] else r) xs=_)
  rw[if_pos (by rw[h (n,d) Vq];rfl)]
  refine e02 (List.nodup_cons.mp hn) λh1 h2=>?_
  rw[yA (λp hp=>?_) h2]
  .simp
  .rw[List.lookup_append,h p (Vr _ hp),Option.none_or]
   have:p.1≠n:=λe=>h1 (List.mem_map.mpr ⟨p,hp,e⟩)
   have:(p.1==n)=false:=by simpa using this
   rw[VJ,this];rfl
theorem ext_append:∀{xs ys r:List (Str×Value)},kg r (xs++ys)=kg (kg r xs) ys
 |[],_,_=>rfl
 |(n,d)::xs,ys,r=>by
  refine(?_:kg _ (xs++ys)=_)
  rw[ext_append];rfl
theorem oW:∀{names:List Str} {ws:List Value} {n:Str},n∈names->names.length≤ws.length->((names.zip ws).lookup n).isNone=false
 |a::l,w::t,n,h,hl=>by
  rw[Xi,VJ]
  cases q:n==a with
  |true=>rfl
  |false=>
   rcases List.mem_cons.mp h with rfl|h
   .exact ft (q.symm.trans (beq_self_eq_true n))
   .exact oW h (Nat.le_of_succ_le_succ hl)
 |_::_,[],_,_,hl=>by simp at hl
theorem yB:∀{names:List Str} {ws:List Value} {n:Str},n∉names->(names.zip ws).lookup n=none
 |[],_,_,_=>rfl
 |_::_,[],_,_=>rfl
 |a::l,w::t,n,h=>by
  rw[Xi,VJ]
  have h:=not_or.mp (λq=>h (List.mem_cons.mpr q))
  have:(n==a)=false:=by simpa using h.1
  rw[this]
  exact yB h.2
theorem tT{α β:Type}{f g:α->Option β}:∀{l:List α},(∀a∈l,f a=g a)->l.filterMap f=l.filterMap g
 |[],_=>rfl
 |a::l,h=>by rw[WL,WL,h a Vq,tT λb hb=>h b (Vr _ hb)]
theorem DH:∀{names:List Str} {ws:List Value},names.Nodup->names.length=ws.length->(names.filterMap λn=>((names.zip ws).lookup n).map λx=>(n,x))=names.zip ws
 |[],_,_,_=>rfl
 |_::_,[],_,hl=>by simp at hl
 |a::l,w::t,hn,hl=>by
  refine e02 (List.nodup_cons.mp hn) λh1 h2=>?_
  rw[WL,Xi,VJ,beq_self_eq_true]
  simp only[Option.map_some]
  congr 1
  refine Eq.trans ?_ (DH h2 (by simpa using hl))
  refine tT λn hm=>?_
  rw[VJ]
  have:(n==a)=false:=by
   have:n≠a:=λe=>h1 (e▸hm)
   simpa using this
  rw[this]
theorem tU{names:List Str}{vs x:List Value}(hv:(names.take vs.length).length=vs.length):names.zip (vs++x)=(names.take vs.length).zip vs++(names.drop vs.length).zip x:=by
 have q:=List.zip_append (l₁:=names.take vs.length) (r₁:=names.drop vs.length) (l₂:=vs) (r₂:=x) hv
 rw[Wc] at q
 exact q
theorem tV{names:List Str}{vs:List Value}(hv:(names.take vs.length).length=vs.length):names.zip vs=(names.take vs.length).zip vs:=by
 have q:=tU (x:=[]) hv
 rw[We,List.zip_nil_right,We] at q
 exact q
theorem KN{names:List Str}{vs dl:List Value}{k j:Nat}(hn:names.Nodup)(h1:names.length=k+dl.length)(h2:vs.length=k+j)(h3:j≤dl.length):kg (names.zip vs) ((names.drop k).zip dl)=names.zip (vs++dl.drop j):=by
 have hv:(names.take vs.length).length=vs.length:=List.length_take_of_le (by rw[h1,h2];exact V4 h3 k)
 have e1:names.drop k=(names.drop k).take j++names.drop vs.length:=by
  rw[h2,<-List.drop_drop]
  exact(Wc ..).symm
 have e5:(names.drop k).take j=(names.take vs.length).drop k:=by rw[h2,List.drop_take,W0]
 have e3:(names.drop k).zip dl=((names.drop k).take j).zip (dl.take j)++(names.drop vs.length).zip (dl.drop j):=by
  have l1:((names.drop k).take j).length=(dl.take j).length:=by rw[List.length_take,List.length_take,V7,h1,W0]
  have q:=List.zip_append (l₁:=(names.drop k).take j) (r₁:=names.drop vs.length) (l₂:=dl.take j) (r₂:=dl.drop j) l1
  rw[<-e1,Wc] at q
  exact q
 have e4:=tV hv
 have nd:(names.take vs.length++names.drop vs.length).Nodup:=by rw[Wc];exact hn
 have o1:kg (names.zip vs) (((names.drop k).take j).zip (dl.take j))=names.zip vs:=yz λp hp=>by
  have q:=(List.of_mem_zip hp).1
  rw[e5] at q
  rw[e4]
  exact oW (List.mem_of_mem_drop q) (Vu hv)
 have n1:(List.map (·.1) ((names.drop vs.length).zip (dl.drop j))).Nodup:=by
  rw[List.map_fst_zip (by rw[V7,V7,h1,h2,Nat.add_sub_add_left];exact VA _)]
  exact(List.nodup_append.mp nd).2.1
 have n2:∀p∈(names.drop vs.length).zip (dl.drop j),(names.zip vs).lookup p.1=none:=λp hp=>by
  rw[e4]
  exact yB λq=>(List.nodup_append.mp nd).2.2 _ q _ (List.of_mem_zip hp).1 rfl
 rw[e3,ext_append,o1,yA n2 n1,tU hv,e4]
theorem G1{names:List Str}{vs dl:List Value}(hn:names.Nodup)(h1:vs.length≤names.length)(h2:names.length≤vs.length+dl.length)(h3:dl.length≤names.length):
  kg (names.zip vs) ((names.drop (names.length - dl.length)).zip dl)=names.zip (vs++dl.drop (vs.length+dl.length - names.length)):=by
 have e:=(Nat.sub_add_cancel h3).symm
 refine KN hn e ?_ (Nat.sub_le_of_le_add (by rw[Wg];exact V4 h1 _))
 generalize names.length - dl.length=k at e
 rw[e] at h2⊢
 rw[Nat.add_sub_add_right]
 exact(Nat.add_sub_cancel' (Nat.le_of_add_le_add_right h2)).symm
section
variable{α:Type}{M:Model}{A:Around}{E:Value->Shared->Prop}{s:Shared}{Q:α->Shared->Prop}
theorem yC{t:Sem α}{a:α}(e:t=pure a)(h:Q a s):PySem.wpAny M A t Q E s:=e▸PySem.wpAny_pure h
end
section
variable{names:List Str}{vs dl:List Value}
theorem I9(h3:dl.length≤names.length):dl.drop (dl.length - names.length)=dl:=by rw[Nat.sub_eq_zero_of_le h3];rfl
theorem DI{a b n:Nat}(h1:a≤n)(h2:n≤a+b):n=a+(b - (a+b - n)):=by
 obtain⟨d,rfl⟩:=Nat.le.dest h1
 rw[Nat.add_sub_add_left,Nat.sub_sub_self (Nat.le_of_add_le_add_left h2)]
theorem KO(hn:names.Nodup)(h1:vs.length≤names.length)(h2:names.length≤vs.length+dl.length)(h3:dl.length≤names.length):
  (names.filterMap λn=>((kg (names.zip vs) ((names.drop (names.length - (dl.drop (dl.length - names.length)).length)).zip (dl.drop (dl.length - names.length)))).lookup n).map λy=>(n,y))=names.zip (vs++dl.drop (vs.length+dl.length - names.length)):=by
 rw[I9 h3,G1 hn h1 h2 h3]
 exact DH hn (by rw[VK,V7];exact DI h1 h2)
theorem G2(h1:vs.length≤names.length)(h2:names.length≤vs.length+dl.length)(h3:dl.length≤names.length):((names.take (names.length - (dl.drop (dl.length - names.length)).length)).filter λn=>((names.zip vs).lookup n).isNone)=[]:=by
 have hv:(names.take vs.length).length=vs.length:=List.length_take_of_le h1
 rw[I9 h3,List.filter_eq_nil_iff]
 intro n hm
 rw[tV hv,oW (n:=n) (List.take_subset_take_left _ (Nat.sub_le_of_le_add h2) hm) (Vu hv)]
 decide
end
theorem iR{s:Shared}{fd:FuncData}{args:List Arg}{de:List Expr}{vs dl:List Value}(hp:fd.params=⟨[],args,none,[],[],none,de⟩)
  (hd:(fd.defaults=.none/\dl=[])\/∃t o n items,fd.defaults=.ref t/\s.heap.get? t=some o/\o.data=.seq items n/\items.toList=dl)
  (hn:(args.map (·.arg)).Nodup) (h1:vs.length≤args.length) (h2:args.length≤vs.length+dl.length) (h3:dl.length≤args.length):
  BindsTo s fd ⟨vs,[]⟩ ((args.map (·.arg)).zip (vs++dl.drop (vs.length+dl.length - args.length))):=by
 have hlen:(args.map (·.arg)).length=args.length:=VG ..
 rw[<-hlen] at h1 h2 h3⊢
 have fin2:=KO hn h1 h2 h3
 have miss3:¬((!((((args.map (·.arg)).take ((args.map (·.arg)).length - (dl.drop (dl.length - (args.map (·.arg)).length)).length)).filter λn=>(((args.map (·.arg)).zip vs).lookup n).isNone).isEmpty))=true):=by rw[G2 h1 h2 h3];decide
 have hg2:¬((decide (vs.length>(args.map (·.arg)).length)&&true)=true):=by simpa using h1
 have body:∀xs:Option (Array Value),(xs.getD #[]).toList=dl->∀(M:Model) (A:Around) (E:Value->Shared->Prop) (Q:List (Str×Value)->Shared->Prop),Q ((args.map (·.arg)).zip (vs++dl.drop (vs.length+dl.length - (args.map (·.arg)).length))) s->PySem.wpAny M A (seqItems? fd.defaults) (λx s'=>x=xs/\s'=s) E s->PySem.wpAny M A (bindArgs fd ⟨vs,[]⟩) Q E s:=λxs hxs M A E Q hq hs=>by
  subst hxs
  cases fd
  cases hp
  refine PySem.wpAny_bind (PySem.wpAny_pure ?_)
  refine PySem.wpAny_bind (PySem.wpAny_mono hs (λx s' q=>?_) λY Y q=>q)
  refine e02 q λzq77 zq78=>?_;clear q
  cases zq77
  cases zq78
  refine eB hg2 (eB miss3 ?_)
  refine PySem.wpAny_bind (yC (DG (λn d r=>rfl) _ _) (PySem.wpAny_bind (PySem.wpAny_pure (eB Vs ?_))))
  rw[List.map_nil,We]
  exact yC (congrArg pure fin2) hq
 intro M A E Q hq
 rcases hd with⟨q1,q2⟩|⟨t,o,n,items,q1,q2,q3,q4⟩
 .subst q2
  refine body none rfl M A E Q hq ?_
  rw[q1]
  show PySem.wpAny M A (do notAStandIn Value.none;pure none) _ _ _
  exact PySem.wpAny_bind (PySem.wpAny_pure (PySem.wpAny_pure ⟨rfl,rfl⟩))
 .refine body (some items) q4 M A E Q hq ?_
  rw[q1]
  exact wpAny_seqItems q2 q3 ⟨rfl,rfl⟩
section
open PySem.SeqAt
open Sem (wp)
noncomputable def gI(self:Value):Code×Pos->Bool
 |(.builtin "bytearray.__contains__" ⟨v::_,_⟩,_)|(.builtin "bytearray.__mod__" ⟨v::_,_⟩,_)
 |(.builtin "bytearray.__rmod__" ⟨_::v::_,_⟩,_)|(.builtin "_struct.pack_into.held" ⟨v::_,_⟩,_)=>Builtin.Bytes.sameRef v self
 |(.builtin "bytearray.find.held" ⟨_::_::held,_⟩,_)=>held.any (Builtin.Bytes.sameRef self)
 |(.builtin id ⟨v::_,_⟩,_)=>Builtin.Bytes.sameRef v self&&Builtin.Bytes.decodersThatHold.contains id
 |_=>false
theorem exported_eq(self:Value):Builtin.Bytes.exported self=(do return (<-stack).any (gI self)):=rfl
def pR(c:Code):Prop:=∀self p,gI self (c,p)=false
structure KP(Γ:Ctx):Prop where
 code:pR Γ.code
 below:∀x∈Γ.below,pR x.1
def cQ{α:Type}(M:Model)(A:Around)(t:Sem α)(Q:α->Shared->Prop)(E:Value->Shared->Prop)(s:Shared):Prop:=
 ∀Γ p,Γ.In A->KP Γ->wp M Γ t (λa Y s'=>Q a s') (λe Y s'=>E e s') p s
def c6(M:Model)(A:Around)(c:Code)(R:Result->Shared->Prop)(s:Shared):Prop:=
 ∀Γ p,Γ.code=c->Γ.Below A->(∀x∈Γ.below,pR x.1)->wpCode M Γ R p s
section
variable{α β:Type}{M:Model}{A:Around}{E:Value->Shared->Prop}{s:Shared}{env:Env}
theorem P{t:Sem α}{Q:α->Shared->Prop}(h:PySem.wpAny M A t Q E s):cQ M A t Q E s:=λΓ p hΓ Y=>h Γ p hΓ
theorem wpAny_pure{a:α}{Q:α->Shared->Prop}(h:Q a s):cQ M A (pure a) Q E s:=λY Y Y Y=>h
theorem cO{t:Sem α}{Q Q':α->Shared->Prop}{E':Value->Shared->Prop}(h:cQ M A t Q E s)(hQ:∀a s,Q a s->Q' a s)(hE:∀e s,E e s->E' e s):cQ M A t Q' E' s:=
 λΓ p hΓ hc=>Sem.wp_mono M Γ t (λa Y s=>hQ a s) (λe Y s=>hE e s) p s (h Γ p hΓ hc)
theorem wpAny_bind{m:Sem α}{f:α->Sem β}{Q:β->Shared->Prop}(h:cQ M A m (λa s'=>cQ M A (f a) Q E s') E s):cQ M A (m>>=f) Q E s:=λΓ p hΓ hc=>by
 rw[Sem.wp_bind']
 exact Sem.wp_mono M Γ m (λa p' s' h'=>h' Γ p' hΓ hc) (λY Y Y h'=>h') p s (h Γ p hΓ hc)
theorem dV{m:Sem α}{k:Value->Sem Unit}{Q:α->Shared->Prop}(h:cQ M A m Q (λe s'=>cQ M A (k e) (λY s''=>E e s'') E s') s):cQ M A (m.onRaise k) Q E s:=λΓ p hΓ hc=>by
 rw[Sem.wp_onRaise]
 exact Sem.wp_mono M Γ m (λY Y Y h'=>h') (λe p' s' h'=>h' Γ p' hΓ hc) p s (h Γ p hΓ hc)
theorem hU{m:Sem α}{Q:Except Value α->Shared->Prop}(h:cQ M A m (λa=>Q (.ok a)) (λe=>Q (.error e)) s):cQ M A m.attempt Q E s:=λΓ p hΓ hc=>by
 rw[Sem.wp_attempt];exact h Γ p hΓ hc
theorem cS{vs:List Value}{m:Sem α}{Q:α->Shared->Prop}(h:cQ M A m Q E s):cQ M A (holding vs m) Q E s:=λΓ p hΓ hc=>by
 rw[Sem.wp_holding];exact h Γ p hΓ hc
theorem d5{vs:List Value}{m:Sem Value}{Q:Value->Shared->Prop}(h:cQ M A m Q E s):cQ M A (operate vs m) Q E s:=λΓ p hΓ hc=>by
 rw[Sem.wp_operate];exact h Γ p hΓ hc
theorem kX{c:Prop}[Decidable c]{a b:Sem α}{Q:α->Shared->Prop}(h:c)(hb:cQ M A a Q E s):cQ M A (if c then a else b) Q E s:=by rw[if_pos h];exact hb
theorem eS{c:Prop}[Decidable c]{a b:Sem α}{Q:α->Shared->Prop}(h:¬c)(hb:cQ M A b Q E s):cQ M A (if c then a else b) Q E s:=by rw[if_neg h];exact hb
theorem wpAny_of_eq{t:Sem α}{a:α}{Q:α->Shared->Prop}(he:t=pure a)(h:Q a s):cQ M A t Q E s:=by rw[he];exact wpAny_pure h
theorem cU{pos:Pos}{Q:Unit->Shared->Prop}(h:Q () s):cQ M A (standAt pos) Q E s:=λY Y Y Y=>h
theorem wpAny_rule{tag:String}{Q:Unit->Shared->Prop}(h:Q () s):cQ M A (rule tag) Q E s:=λY Y Y Y=>h
theorem jq{Q:Unit->Shared->Prop}(h:Q () s):cQ M A point Q E s:=λY Y Y Y=>h
theorem fU{vs keep:List Value}{Q:Unit->Shared->Prop}(h:Q () s):cQ M A (release vs keep) Q E s:=P (PySem.wpAny_release h)
theorem we{vs:List Value}{m:Sem α}{Q:α->Shared->Prop}(h:cQ M A m Q E s):cQ M A (Sem.keep vs m) Q E s:=λΓ p hΓ hc=>by
 have:=h Γ p hΓ hc
 first|exact this|(rw[Sem.wp_keep];exact this)|(unfold Sem.keep;simpa using this)
theorem pS{c:Prop}[Decidable c]{pos:Pos}{k:PUnit->Sem α}{Q:α->Shared->Prop}(h:cQ M A (k ()) Q E s):cQ M A (if c then(standAt pos>>=k) else k ()) Q E s:=by
 split
 .exact wpAny_bind (cU h)
 .exact h
theorem KP.down{Γ:Ctx}(h:KP Γ)(c:Code)(hd:Option Value)(p:Pos):∀x∈(Γ.enter c hd p).below,pR x.1:=λx hx=>by
 rcases List.mem_cons.mp (show x∈(Γ.code,p)::Γ.below from hx) with rfl|hx
 .exact h.code
 .exact h.below x hx
theorem dC{c:Code}{R R':Result->Shared->Prop}(h:c6 M A c R s)(hR:∀r s,R r s->R' r s):c6 M A c R' s:=λΓ p hc hΓ hb=>wpCode_mono hR (h Γ p hc hΓ hb)
theorem qC{c:Code}{h:Option Value}{Q:Flow->Shared->Prop}(hc:c6 M (A.mark h) c (λr s'=>match r with|.ok f=>Q f s'|.error e=>E e s') s)(hnb:h≠some byPass):
  cQ M A (run c h) Q E s:=λΓ p hΓ hcalm=>by rw[Sem.wp_run];exact hc _ p rfl (hΓ.enter c h p hnb) (hcalm.down c h p)
theorem oY{c:Code}{Q:Value->Shared->Prop}(hc:c6 M A c (λr s'=>match r with|.ok (.ret v)=>Q v s'|.ok _=>False|.error e=>E e s') s):
  cQ M A (runValue c) Q E s:=λΓ p hΓ hcalm=>by rw[Sem.wp_runValue];exact hc _ p rfl (hΓ.enter c none p (by intro x;cases x)) (hcalm.down c none p)
theorem fR{f:Value}{pos:List Value}{kw:List (Str×Value)}{Q:Value->Shared->Prop}(hc:c6 M A (.call f ⟨pos,kw⟩) (λr s'=>match r with|.ok (.ret v)=>Q v s'|.ok _=>False|.error e=>E e s') s):
  cQ M A (call f pos kw) Q E s:=oY hc
theorem c8{c:Code}{R:Result->Shared->Prop}(hc0:pR c)(h:cQ M (A.under c) (M.den c) (λfin s'=>match fin with|.done f=>R (.ok f) s'|.again c'=>c'.quiet=true/\c6 M A c' R s') (λe s'=>R (.error e) s') s):
  c6 M A c R s:=λΓ p hc hΓ hb=>by
 rw[wpCode_iff_wp,hc]
 refine Sem.wp_mono M Γ _ (λfin p' s' h'=>?_) (λY Y Y h'=>h') p s (h Γ p (hc▸hΓ.in) ⟨hc▸hc0,hb⟩)
 cases fin with
 |done f=>exact h'
 |again c'=>exact⟨h'.1,h'.2 (Γ.goto c') p' rfl (hΓ.goto c') hb⟩
theorem gn{c:Code}{h:Option Value}{Q:Flow->Shared->Prop}(hc:c6 M (A.mark h) c (λr s'=>match r with|.ok f=>Q f s'|.error e=>cameBackBy M A env E e s') s)(hnb:h≠some byPass):
  cQ M A (runOwn c env h) Q E s:=by
 unfold runOwn
 refine dV (qC (dC hc λr s' x=>?_) hnb)
 cases r with
 |ok f=>exact x
 |error e=>exact P x
theorem gV{m:Sem α}{Q:α->Shared->Prop}(h:cQ M A m Q (notedBy M A env E) s):cQ M A (m.onRaise λx=>do noteFrame x env;theTreesLotGoes x) Q E s:=
 dV (cO h (λY Y q=>q) λY Y hx=>wpAny_bind (cO (P hx) (λY Y e=>P (wpAny_theTreesLotGoes e)) λY Y e=>e))
theorem pT{m:Sem α}{pos:Pos}{Q:α->Shared->Prop}(h:cQ M A m Q (notedBy M A env E) s):cQ M A (m.onRaise λx=>do noteFrame x env;standAt pos) Q E s:=
 dV (cO h (λY Y q=>q) λY Y hx=>wpAny_bind (cO (P hx) (λY Y e=>cU e) λY Y e=>e))
theorem js{id:String}{args:Args}(hn:Builtin.Bytes.decodersThatHold.contains id=false)(h0:∀self p kw,gI self (.builtin id ⟨[],kw⟩,p)=false)
  (h1:∀self p kw v r,gI self (.builtin id ⟨v::r,kw⟩,p)=(Builtin.Bytes.sameRef v self&&Builtin.Bytes.decodersThatHold.contains id)):pR (.builtin id args):=λself p=>
 match args with
 |⟨[],kw⟩=>h0 self p kw
 |⟨v::r,kw⟩=>(h1 self p kw v r).trans ((congrArg _ hn).trans (Bool.and_false _))
theorem eY{Q:Flow->Shared->Prop}(h:Q .next s):cQ M A (execs [] env) Q E s:=P (PySem.wpAny_execs_nil h)
theorem mc{st:Stmt}{rest:List Stmt}{Q:Flow->Shared->Prop}(h:cQ M A (exec st env) (λf s'=>match f with|.next=>cQ M A (execs rest env) Q E s'|f=>Q f s') E s):cQ M A (execs (st::rest) env) Q E s:=λΓ p hΓ hc=>by
 rw[execs_cons,Sem.wp_bind']
 refine Sem.wp_mono M Γ _ (λf p' s' h'=>?_) (λY Y Y h'=>h') _ _ (h Γ p hΓ hc)
 cases f<;>first|exact h' Γ p' hΓ hc|exact h'
theorem DJ{test:Expr}{body orelse:List Stmt}{pos:Pos}{Q:Flow->Shared->Prop}(h:cQ M A (PySem.isTrue test env (eval test env)) (λb aj=>if b then cQ M A (execs body env) Q E aj else cQ M A (execs orelse env) Q E aj) E s):
  cQ M A (exec (.If test body orelse pos) env) Q E s:=λΓ p hΓ hc=>by
 simp only[exec_If,Sem.wp_bind',Sem.wp_cmd_standAt]
 refine Sem.wp_mono M Γ _ (λb cE aj aq=>?_) (λY Y Y h'=>h') _ _ (h Γ _ hΓ hc)
 cases b<;>exact aq Γ cE hΓ hc
theorem tW{test:Expr}{body orelse:List Stmt}{pos:Pos}{Q:Flow->Shared->Prop}(h:c6 M A (.whileLoop test body orelse env) (λr s'=>match r with|.ok f=>Q f s'|.error e=>cameBackBy M A env E e s') s):
  cQ M A (exec (.While test body orelse pos) env) Q E s:=by
 rw[exec_While];exact wpAny_bind (cU (gn h nn))
theorem mf{target mR:Expr}{body orelse:List Stmt}{pos:Pos}{Q:Flow->Shared->Prop}
  (h:cQ M A (eval mR env) (λx aa=>cQ M A (pyIter x) (λit aj=>c6 M A (.forLoop target it body orelse env) (λr s'=>match r with|.ok f=>Q f s'|.error e=>cameBackBy M A env E e s') aj) E aa) E s)
  (hs:∀x,foldedSetIterable mR env x=pure x):cQ M A (exec (.For target mR body orelse pos) env) Q E s:=by
 rw[exec_For]
 refine wpAny_bind (cU (wpAny_bind (cO h (λx aa ae=>wpAny_bind (wpAny_of_eq (hs x) (wpAny_bind (cU (wpAny_bind (cS (cO ae (λit aj aq=>gn aq nn) λY Y e=>e))))))) λY Y e=>e)))
theorem kY{e:Expr}{pos:Pos}{Q:Flow->Shared->Prop}(h:cQ M A (eval e env) (λv=>Q (.ret v)) E s):cQ M A (exec (.Return (some e) pos) env) Q E s:=λΓ p hΓ hc=>by
 simp only[exec_Return_some,Sem.wp_bind',Sem.wp_cmd_standAt,Sem.wp_pure'];exact h Γ _ hΓ hc
theorem gW{x:Str}{pos:Pos}{v:Value}{Q:Unit->Shared->Prop}(h:PySem.wpAny M A (storeName env x v) Q E s):cQ M A (assign (.Name x pos) env v) Q E s:=P (PySem.wpAny_assign_Name h)
theorem gi{targets:List Expr}{value:Expr}{pos:Pos}{Q:Flow->Shared->Prop}(h:cQ M A (eval value env) (λv aa=>cQ M A (assignAll v ((assignEach targets env).map (·.2))) (λY=>Q .next) E aa) E s)
  (hs:swapsWithSole targets value pos.line env=pure false) (hw:swappedStores targets value env=pure none):cQ M A (exec (.Assign targets value pos) env) Q E s:=by
 rw[PyProof.Rows.exec_Assign,hs]
 refine wpAny_bind (cU (wpAny_bind (wpAny_pure ?_)))
 rw[if_neg (by decide),hw]
 refine wpAny_bind (cO h (λv aa ae=>wpAny_bind (wpAny_pure ?_)) λY Y x=>x)
 show cQ M A (do assignAll v ((assignEach targets env).map (·.2));pure .next) Q E aa
 exact wpAny_bind (cO ae (λY Y x=>wpAny_pure x) λY Y x=>x)
theorem jt{elts:List Expr}{k:Nat}{tpos pos:Pos}{value:Expr}{names:List Str}{Q:Flow->Shared->Prop}
  (h:cQ M A (eval value env) (λv aa=>cQ M A (unpackItems v names.length none) (λitems aj=>cQ M A (assignInOrder (names.reverse.map λn=>bindName env n) items.reverse) (λY=>Q .next) E aj) E aa) E s)
  (hs:swapsWithSole [.Tuple elts k tpos] value pos.line env=pure false) (hw:swappedStores [.Tuple elts k tpos] value env=pure (some names)):cQ M A (exec (.Assign [.Tuple elts k tpos] value pos) env) Q E s:=by
 rw[PyProof.Rows.exec_Assign,hs]
 refine wpAny_bind (cU (wpAny_bind (wpAny_pure ?_)))
 rw[if_neg (by decide),hw]
 refine wpAny_bind (cO h (λv aa ae=>wpAny_bind (wpAny_pure ?_)) λY Y x=>x)
 show cQ M A (do rule "assign.swapped-stores";let items<-unpackItems v names.length none;assignInOrder (names.reverse.map λn=>bindName env n) items.reverse;pure .next) Q E aa
 exact wpAny_bind (wpAny_rule (wpAny_bind (cO ae (λitems aj aq=>wpAny_bind (cO aq (λY Y x=>wpAny_pure x) λY Y x=>x)) λY Y x=>x)))
theorem mV{pos:Pos}{Q:List Value->Shared->Prop}(h:Q [] s):cQ M A (spliced (backTo pos (starEach [] env))) Q E s:=P (PySem.wpAny_items_nil h)
theorem mh{pos:Pos}{e:Expr}{rest:List Expr}{Q:List Value->Shared->Prop}(h:cQ M A (eval e env) (λv aa=>cQ M A (spliced (backTo pos (starEach rest env))) (λvs aj=>Q (v::vs) aj) E aa) E s)
  (he:starEach (e::rest) env=(false,eval e env)::starEach rest env):cQ M A (spliced (backTo pos (starEach (e::rest) env))) Q E s:=by
 rw[he]
 show cQ M A (do
  let v<-eval e env
  let here<-(pure [v]:Sem (List Value))
  return here++(<-holding here (spliced (backTo pos (starEach rest env))))) Q E s
 exact wpAny_bind (cO h (λv aa ae=>wpAny_bind (wpAny_pure (wpAny_bind (cS (cO ae (λvs aj aq=>wpAny_pure aq) λY Y x=>x))))) λY Y x=>x)
theorem pU{op:UnaryOp}{x:Expr}{pos:Pos}{Q:Value->Shared->Prop}(h:cQ M A (eval x env) (λv aa=>cQ M A (unaryOp op v) Q E aa) E s):cQ M A (eval (.UnaryOp op x pos) env) Q E s:=by
 rw[arm_eval_UnaryOp]
 exact wpAny_bind (cO h (λv aa ae=>wpAny_bind (cU (cS ae))) λY Y x=>x)
theorem tY{test body orelse:Expr}{pos:Pos}{Q:Value->Shared->Prop}(h:cQ M A (PySem.isTrue test env (eval test env)) (λb aa=>if b then cQ M A (eval body env) Q E aa else cQ M A (eval orelse env) Q E aa) E s):
  cQ M A (eval (.IfExp test body orelse pos) env) Q E s:=by
 rw[arm_eval_IfExp]
 refine wpAny_bind (cO h (λb aa ae=>?_) λY Y x=>x)
 cases b<;>exact ae
theorem mi{x:Expr}{pos:Pos}{whole:Sem Value}{Q:Bool->Shared->Prop}(h:cQ M A (PySem.isTrue x env (eval x env)) (λb aa=>Q (!b) aa) E s):cQ M A (PySem.isTrue (.UnaryOp .Not x pos) env whole) Q E s:=by
 rw[arm_isTrue_UnaryOp]
 exact wpAny_bind (cO h (λb aa ae=>wpAny_pure ae) λY Y x=>x)
theorem kh{e:Expr}{whole:Sem Value}{Q:Bool->Shared->Prop}(h:cQ M A whole (λv aa=>cQ M A (PySem.truthy v) Q E aa) E s)(he:PySem.isTrue e env whole=(do let v<-whole;standAt e.pos;holding [v] (PySem.truthy v))):
  cQ M A (PySem.isTrue e env whole) Q E s:=by
 rw[he]
 exact wpAny_bind (cO h (λv aa ae=>wpAny_bind (cU (cS ae))) λY Y x=>x)
theorem jJ{op:BoolOp}{values:List Expr}{pos:Pos}{whole:Sem Value}{Q:Bool->Shared->Prop}(h:cQ M A (allTrue op values env) Q E s):cQ M A (PySem.isTrue (.BoolOp op values pos) env whole) Q E s:=by rw[arm_isTrue_BoolOp];exact h
theorem iS{x:Expr}{rest:List Expr}{Q:Bool->Shared->Prop}(h:cQ M A (PySem.isTrue x env (eval x env)) (λb aa=>if b then cQ M A (allTrue .And rest env) Q E aa else Q false aa) E s):cQ M A (allTrue .And (x::rest) env) Q E s:=by
 refine(?_:cQ M A (do match BoolOp.And,<-PySem.isTrue x env (eval x env) with|.And,false=>pure false|.Or,true=>pure true|_,_=>allTrue .And rest env) Q E s)
 refine wpAny_bind (cO h (λb aa ae=>?_) λY Y x=>x)
 cases b
 .exact wpAny_pure ae
 .exact ae
theorem i7{x:Expr}{rest:List Expr}{Q:Bool->Shared->Prop}(h:cQ M A (PySem.isTrue x env (eval x env)) (λb aa=>if b then Q true aa else cQ M A (allTrue .Or rest env) Q E aa) E s):cQ M A (allTrue .Or (x::rest) env) Q E s:=by
 refine(?_:cQ M A (do match BoolOp.Or,<-PySem.isTrue x env (eval x env) with|.And,false=>pure false|.Or,true=>pure true|_,_=>allTrue .Or rest env) Q E s)
 refine wpAny_bind (cO h (λb aa ae=>?_) λY Y x=>x)
 cases b
 .exact ae
 .exact wpAny_pure ae
theorem tZ{elts:List Expr}{k:Nat}{pos:Pos}{Q:Value->Shared->Prop}
  (h:cQ M A (spliced (backTo pos (starEach elts env))) (λvs aa=>vs.length≤sizeLine/\Q (.ref aa.heap.objs.size) {aa with heap:=aa.heap.push {cls:=.type "tuple",data:=.seq vs.toArray}}) E s):cQ M A (eval (.Tuple elts k pos) env) Q E s:=by
 rw[arm_eval_Tuple]
 exact wpAny_bind (cU (wpAny_bind (cO h (λvs aa ae=>P (wpAny_newObj_type ae.2 (by show vs.toArray.size≤sizeLine;rw[VN];exact ae.1))) λY Y x=>x)))
theorem wf{elts:List Expr}{pos:Pos}{Q:Value->Shared->Prop}
  (h:cQ M A (spliced (backTo pos (starEach elts env))) (λvs aa=>vs.length≤sizeLine/\Q (.ref aa.heap.objs.size) {aa with heap:=aa.heap.push {cls:=.type "list",data:=.seq vs.toArray}}) E s):cQ M A (eval (.List elts pos) env) Q E s:=by
 rw[arm_eval_List]
 exact wpAny_bind (cU (wpAny_bind (cO h (λvs aa ae=>P (wpAny_newObj_type ae.2 (by show vs.toArray.size≤sizeLine;rw[VN];exact ae.1))) λY Y x=>x)))
end
section
variable{prog:Program}{w:World}{A:Around}{E:Value->Shared->Prop}{s:Shared}{env:Env}{R:Result->Shared->Prop}
theorem oZ{e:Expr}{pos:Pos}{Q:Flow->Shared->Prop}(h:cQ (model prog w) A (eval e env) (λY=>Q .next) E s)(hi:interactive env=false)(hs:swapsWith e none pos.line env=pure false):cQ (model prog w) A (exec (.Expr e pos) env) Q E s:=by
 rw[exec_Expr env e pos hi hs]
 exact wpAny_bind (cU (wpAny_bind (cO h (λv s' h'=>P (wpAny_dropValue h')) λY Y x=>x)))
theorem rD{body:List Stmt}(h:cQ (model prog w) (A.deeper env) (execs body env) (λf s'=>R (.ok (.ret (match f with|.ret v=>v|_=>.none))) s') (λe s'=>PySem.wpAny (model prog w) (A.deeper env) (leaving env e) (λY s''=>R (.error e) s'') (λe' s''=>R (.error e') s'') s') s):
  c6 (model prog w) A (.func body env) R s:=by
 refine c8 (λY Y=>rfl) ?_
 show cQ _ (A.deeper env) (do point;match<-(execs body env).onRaise (leaving env) with|.ret v=>ret v|_=>ret .none) _ _ s
 refine wpAny_bind (jq (wpAny_bind (dV (cO h (λf s' h'=>?_) λY Y h'=>P h'))))
 cases f<;>exact wpAny_pure h'
theorem yD{a:Addr}{args:Args}{o:Obj}{fd:FuncData}{cd:Env->Code}(hroom:A.depth<recursionLimit)(ho:s.heap.get? a=some o)(hd':o.data=.func fd)(hco:fd.scope.isCoroutine=false)(hgen:fd.scope.isGenerator=false)
  (hb:∀env,(match fd.body with|.stmts b=>Code.func b env|.expr e=>.expr e env)=cd env/\(cd env).quiet=true) (hcd:s.heap.CodeRec fd.code fd.qualname)
  (h:PySem.wpAny (model prog w) A.in1 (bindArgs fd args) (λbinds aa=>PySem.wpAny (model prog w) A.in1 (newFunctionEnv fd.scope fd.globals fd.closure binds (fd.qualname++".<locals>.") (some a) fd.code none fd.builtins)
    (λenv aj=>aj.heap.NoLimit/\c6 (model prog w) A (cd env) R aj) (λe s'=>R (.error e) s') aa) (λe s'=>R (.error e) s') s):
  c6 (model prog w) A (.call (.ref a) args) R s:=by
 refine c8 (λY Y=>rfl) ?_
 refine(?_:cQ _ A.in1 (load a>>=λo=>_) _ _ s)
 refine wpAny_bind (P (wpAny_load ho ?_))
 rw[hd']
 refine e44 hcd λc oc vs tq hc hoc hdc hq=>?_;clear hcd
 refine(?_:cQ _ A.in1 (callFunction a fd args) _ _ s)
 delta callFunction
 rw[hc] at h⊢
 rw[hgen,hco]
 refine wpAny_bind (m:=field (.ref c) 1) (P (wpAny_field hoc hdc hq (wpAny_bind (wpAny_pure ?_))))
 have fin:∀{x y:Code} {t:Shared},x=y/\y.quiet=true->c6 (model prog w) A y R t->x.quiet=true/\c6 (model prog w) A x R t:=λe h=>⟨e.1▸e.2,e.1▸h⟩
 exact wpAny_bind (cO (P h) (λbinds aa ae=>wpAny_bind (cO (P ae) (λenv aj aq=>wpAny_bind (P (wpAny_enterFrame aq.1 hroom (wpAny_pure (fin (hb env) aq.2))))) λY Y h'=>h')) λY Y h'=>h')
theorem i8{a:Addr}{args:Args}{o:Obj}{fd:FuncData}{body:List Stmt}(hroom:A.depth<recursionLimit)(ho:s.heap.get? a=some o)(hd':o.data=.func fd)(hco:fd.scope.isCoroutine=false)(hgen:fd.scope.isGenerator=false)
  (hbody:fd.body=.stmts body) (hcd:s.heap.CodeRec fd.code fd.qualname)
  (h:PySem.wpAny (model prog w) A.in1 (bindArgs fd args) (λbinds aa=>PySem.wpAny (model prog w) A.in1 (newFunctionEnv fd.scope fd.globals fd.closure binds (fd.qualname++".<locals>.") (some a) fd.code none fd.builtins)
    (λenv aj=>aj.heap.NoLimit/\c6 (model prog w) A (.func body env) R aj) (λe s'=>R (.error e) s') aa) (λe s'=>R (.error e) s') s):
  c6 (model prog w) A (.call (.ref a) args) R s:=
 yD (cd:=λenv=>.func body env) hroom ho hd' hco hgen (λenv=>⟨by rw[hbody],rfl⟩) hcd h
theorem ki{elts:List Expr}{x1:Nat}{pos:Pos}{t:Addr}{items:Array Value}{Q:Unit->Shared->Prop}(hh:A.handled=none)(ht:s.heap.IsTuple t items)(hn:(assignEach elts env).length=items.size)(hstar:(assignEach elts env).findIdx? (·.1)=none)
  (h:∀h',Wx s.heap.objs.size s.heap h'->cQ (model prog w) A (assignInOrder ((assignEach elts env).map (·.2)) items.toList) Q E {s with heap:=h'}):cQ (model prog w) A (assign (.Tuple elts x1 pos) env (.ref t)) Q E s:=by
 rw[arm_assign_Tuple]
 refine wpAny_bind (cU ?_)
 unfold unpack
 rw[hn,hstar]
 exact wpAny_bind (cS (P (unpackItems_tuple hh ht h)))
theorem iT{elt target mR:Expr}{ifs:List Expr}{rest:List Comprehension}{scope:Scope}{pos:Pos}{it acc:Value}
  (h0:c6 (model prog w) A (.compLoop (.ListComp elt (⟨target,mR,ifs,0⟩::rest) scope pos) 0 it acc env) R s)
  (h:cQ (model prog w) A (pyIter it) (λit' s'=>c6 (model prog w) A (.compLoop (.ListComp elt (⟨target,mR,ifs,0⟩::rest) scope pos) 0 it' acc env) R s') (notedBy (model prog w) A env λx s'=>R (.error x) s') s):
  c6 (model prog w) A (.compStart (.ListComp elt (⟨target,mR,ifs,0⟩::rest) scope pos) 0 it acc env) R s:=by
 refine c8 (λY Y=>rfl) ?_
 show cQ _ _ ((compStart (.ListComp elt (⟨target,mR,ifs,0⟩::rest) scope pos) 0 it acc env).onRaise (λx=>do noteFrame x env;standAt theWindowsPlace)) _ _ s
 refine pT ?_
 unfold compStart
 refine(?_:cQ _ _ (ask>>=_) _ _ s)
 refine wpAny_bind (P (wpAny_askSetting ?_))
 split
 .exact wpAny_pure ⟨rfl,h0⟩
 .refine wpAny_bind (wpAny_rule ?_)
  refine(?_:cQ _ _ (standAt mR.pos>>=_) _ _ s)
  exact wpAny_bind (cU (wpAny_bind (cO h (λit' s' h'=>wpAny_pure ⟨rfl,h'⟩) λY Y x=>x)))
theorem i0{prog:Program}{w:World}{A:Around}{s:Shared}{R:Result->Shared->Prop}{id:String}{args:Args}{b:Builtin}(hc:pR (.builtin id args))(hb:entryFor table id=some b)
  (h:cQ (model prog w) (A.under (.builtin id args)) (b args) (λfin s'=>match fin with|.done f=>R (.ok f) s'|.again c'=>c'.quiet=true/\c6 (model prog w) A c' R s') (λe s'=>R (.error e) s') s):c6 (model prog w) A (.builtin id args) R s:=by
 refine c8 hc ?_
 refine(?_:cQ _ _ (match entryFor table id with|some b=>b args|none=>unsupported ((withoutEnding? id "#data").getD id)) _ _ s)
 rw[hb];exact h
theorem eg{prog:Program}{w:World}{A:Around}{s:Shared}{R:Result->Shared->Prop}{id:String}{args:Args}{b:Builtin}(hc:pR (.builtin id args))(hq:(Code.builtin id args).quiet=true)(hb:entryFor table id=some b)
  (h:PySem.wpAny (model prog w) A.in1 (checkBuiltinCall id args) (λY aa=>cQ (model prog w) (A.under (.builtin id args)) (b args)
   (λfin s'=>match fin with|.done f=>R (.ok f) s'|.again c'=>c'.quiet=true/\c6 (model prog w) A c' R s') (λe s'=>R (.error e) s') aa) (λe s'=>R (.error e) s') s):c6 (model prog w) A (.call (.builtin id) args) R s:=by
 refine c8 (λY Y=>rfl) ?_
 show cQ _ A.in1 (do checkBuiltinCall id args;again (.builtin id args)) _ _ s
 exact wpAny_bind (P (PySem.wpAny_mono h (λY aa ae=>wpAny_pure ⟨hq,i0 hc hb ae⟩) λY Y h'=>h'))
end
end
section
open PySem.SeqAt
section
variable{prog:Program}{w:World}{A:Around}{E:Value->Shared->Prop}{h:Heap}{g:Array GenState}{d:Drawn}{t:Nat}{os:OsState}
variable{nm q:Str}{C N:Addr}{bs:List Value}{sn:List Str}{sub:List Value}{col:Option Bool}{dd:Option Addr}{k0 k1 k2 k3 k5:Option Value}{newId:String}
theorem G3(F:ObjNewFacts newId){mN:Str->Option Value}{rest:List Value}{fI:Addr}{oI:Obj}{Q:Fin->Shared->Prop}
  (hC:h.get? C=some (excClassObj nm q C N bs [.type "object"] true sn sub false col dd k0 k1 k2 k3 k5 newId)) (hn:h.Ns N mN) (hi:mN "__init__"=some (.ref fI))
  (hfI:h.get? fI=some oI) (hfc:oI.cls=.type "function")
  (hq:∀h' x dx,Heap.MadeObjFk h h' x dx C->
   cQ (model prog w) A (call (.ref fI) (.ref x::rest)) (λr s'=>r=.none/\Q (.done (.ret (.ref x))) s') E ⟨h',g,d,t,os⟩):
  cQ (model prog w) A (Builtin.«type.__call__» ⟨.ref C::rest,[]⟩) Q E ⟨h,g,d,t,os⟩:=by
 refine(?_:cQ _ _ (mroOf (.ref C)>>=_) _ _ _)
 refine wpAny_bind (P ?_)
 have step1:∀{Q:List Value->Shared->Prop},Q (Value.ref C::[.type "object"]) ⟨h,g,d,t,os⟩->PySem.wpAny (model prog w) A (mroOf (.ref C)) Q E ⟨h,g,d,t,os⟩:=λhq=>by
  repeat(first|with_reducible refine wpAny_loadPart_at hC ?_|with_reducible refine wpAny_madeBy_exc hC ?_|wp_step)
  exact hq
 refine step1 ?_
 refine eS Vs ?_
 refine wpAny_bind (P (wpAny_madeBy_exc hC ?_))
 refine wpAny_bind (wpAny_pure (wpAny_bind (cS (P (PySem.wpAny_call (codeAny_call_builtin_code (Code.quiet_builtin _ F.quiet) (wpAny_check_obj_new F hC (codeAny_obj_new F hC hn hi ?_))))))))
 refine(?_:cQ _ _ _ _ _ _)
 have hmro:mroOf (.type "object")=pure [.type "object"]:=by kernel_rfl
 have hlk:typeLookup (.type "object") "__init__"=pure (some (.builtin "object.__init__")):=by rw[typeLookup_type,builtinLookup_eq_fast];kernel_rfl
 have bw:=Vp {cls:=.ref C,dict:=some h.objs.size,data:=.plain} (Vp {cls:=.type "dict",data:=.dict #[]} hC)
 have bL:=Vp {cls:=.ref C,dict:=some h.objs.size,data:=.plain} (Vp {cls:=.type "dict",data:=.dict #[]} hfI)
 have cF:((h.push {cls:=.type "dict",data:=.dict #[]}).push {cls:=.ref C,dict:=some h.objs.size,data:=.plain}).Ns N mN:=
  let⟨o,es,ep,e,r⟩:=hn;⟨o,es,ep,Vp _ (Vp _ e),r⟩
 have hget:((h.push {cls:=.type "dict",data:=.dict #[]}).push {cls:=.ref C,dict:=some h.objs.size,data:=.plain}).get? (h.objs.size+1)=some {cls:=.ref C,dict:=some h.objs.size,data:=.plain}:=by heap_get
 have hgd:((h.push {cls:=.type "dict",data:=.dict #[]}).push {cls:=.ref C,dict:=some h.objs.size,data:=.plain}).get? h.objs.size=some {cls:=.type "dict",data:=.dict #[]}:=
  Vp _ (Xu rfl rfl)
 have hcC:(Value.ref C::[Value.type "object"]).contains (.ref C)=true:=by simp
 have step2:∀{Q:Bool->Shared->Prop},Q true ⟨(h.push {cls:=.type "dict",data:=.dict #[]}).push {cls:=.ref C,dict:=some h.objs.size,data:=.plain},g,d,t,os⟩->
   PySem.wpAny (model prog w) A (isInstance (.ref (h.objs.size+1)) (.ref C)) Q E ⟨(h.push {cls:=.type "dict",data:=.dict #[]}).push {cls:=.ref C,dict:=some h.objs.size,data:=.plain},g,d,t,os⟩:=λhq=>by
  unfold isInstance
  repeat(first|with_reducible refine wpAny_loadPart_at hget ?_|(with_reducible refine wpAny_isSubtype_exc bw ?_;rw[hcC])|wp_step)
  exact hq
 refine wpAny_bind (P (step2 ?_))
 refine eS Vs ?_
 refine wpAny_bind (cS ?_)
 have step3:∀{hp:Heap} {x:Addr} {ob:Obj} {Q:Option Value->Shared->Prop},hp.get? x=some ob->ob.cls=.ref C->hp.get? C=some (excClassObj nm q C N bs [.type "object"] true sn sub false col dd k0 k1 k2 k3 k5 newId)->hp.Ns N mN->Q (some (.ref fI)) ⟨hp,g,d,t,os⟩->
   PySem.wpAny (model prog w) A (specialOf (.ref x) "__init__") Q E ⟨hp,g,d,t,os⟩:=λ{hp x ob Q} h1 h2 h3 h4 hq=>by
  unfold specialOf
  refine PySem.wpAny_bind (wpAny_typeOf_ref (s:=⟨hp,g,d,t,os⟩) h1 ?_)
  rw[h2]
  refine wpAny_typeLookup_exc h3 h4 hmro hlk ?_
  rw[hi]
  exact hq
 unfold callSpecial?
 refine wpAny_bind (P (step3 hget rfl bw cF (cS ?_)))
 have step4:∀{Q:Value×List Value->Shared->Prop},Q (.ref fI,[.ref (h.objs.size+1)]) ⟨(h.push {cls:=.type "dict",data:=.dict #[]}).push {cls:=.ref C,dict:=some h.objs.size,data:=.plain},g,d,t,os⟩->
   PySem.wpAny (model prog w) A (bindSpecial (.ref fI) (.ref (h.objs.size+1))) Q E ⟨(h.push {cls:=.type "dict",data:=.dict #[]}).push {cls:=.ref C,dict:=some h.objs.size,data:=.plain},g,d,t,os⟩:=λhq=>by
  unfold bindSpecial
  refine PySem.wpAny_bind (wpAny_typeOf (T:="function") ⟨_,bL,hfc⟩ ?_)
  refine jU (by decide) ?_
  exact PySem.wpAny_pure hq
 refine wpAny_bind (P (step4 ?_))
 refine wpAny_bind (cO (hq _ (h.objs.size+1) h.objs.size ⟨λb o hb=>Vp _ (Vp _ hb),VC (VO _),VC (VA _),
  ⟨_,hget,rfl,λc=>by simp,.inr ⟨h.objs.size,rfl,VM (VS _),Heap.Ns1.of_empty ⟨_,#[],_,hgd,rfl,λe he=>absurd he (by simp),λY=>rfl⟩,⟨_,hgd,rfl,rfl⟩⟩⟩,
  λo ho=>by obtain rfl:=Vl (hget.symm.trans ho);rfl,by simp only[Wn];omega⟩) (λr s' hr=>?_) λY Y x=>x)
 refine e02 hr λzq79 hQ=>?_;clear hr
 cases zq79
 exact wpAny_pure (wpAny_pure hQ)
theorem KQ{rest:List Value}{Q:Fin->Shared->Prop}(hC:h.get? C=some (excClassObj nm q C N bs [.type "object"] true sn sub false col dd k0 k1 k2 k3 k5 newId))(hq:Q (.again (.call (.builtin "type.__call__") ⟨.ref C::rest,[]⟩)) ⟨h,g,d,t,os⟩):
  PySem.wpAny (model prog w) A (callAny (.ref C) ⟨rest,[]⟩) Q E ⟨h,g,d,t,os⟩:=by
 have f1:=tc_lookup
 have f2:=tc_bind (.ref C)
 have hT:(⟨h,g,d,t,os⟩:Shared).TypeIs (.ref C) "type":=⟨_,hC,rfl⟩
 repeat(any_goals(first|assumption|with_reducible refine wpAny_loadPart_at hC ?_|wp_step))
theorem i9(F:ObjNewFacts newId){mN:Str->Option Value}{rest:List Value}{fI:Addr}{oI:Obj}{Q:Value->Shared->Prop}
  (hC:h.get? C=some (excClassObj nm q C N bs [.type "object"] true sn sub false col dd k0 k1 k2 k3 k5 newId)) (hn:h.Ns N mN) (hi:mN "__init__"=some (.ref fI))
  (hfI:h.get? fI=some oI) (hfc:oI.cls=.type "function")
  (hq:∀h' x dx,Heap.MadeObjFk h h' x dx C->cQ (model prog w) (A.under (.builtin "type.__call__" ⟨.ref C::rest,[]⟩)) (call (.ref fI) (.ref x::rest)) (λr s'=>r=.none/\Q (.ref x) s') E ⟨h',g,d,t,os⟩):
  cQ (model prog w) A (call (.ref C) rest) Q E ⟨h,g,d,t,os⟩:=by
 refine fR (c8 (λY Y=>rfl) ?_)
 refine(?_:cQ _ _ (callAny (.ref C) _) _ _ _)
 exact P (KQ hC ⟨rfl,eg (js (by decide+kernel) (λY Y Y=>rfl) (λY Y Y Y Y=>rfl)) (Code.quiet_builtin _ (by decide+kernel)) entry_typeCall (wpAny_check_type_call_sub hC (G3 F hC hn hi hfI hfc hq))⟩)
end
end
section
variable{g:Gb}{c c':Cf}
noncomputable def KR(g:Gb)(n:Nat)(r:Ev):Prop:=∀{A:Around} {fr:Fr} {env:Env} {e:Expr} {c:Cf} {h:H} {s:Shared} {K:V->H->Bool} {X:Nat->H->Bool},dz g c n A->FR g c A fr env->cV g c h s->r.ev fr e h K X=true->
  cQ g.M A (eval e env) (QV g c K) (EX g c A X) s
noncomputable def KS(g:Gb)(n:Nat)(r:Ev):Prop:=∀{A:Around} {fr:Fr} {env:Env} {e:Expr} {c:Cf} {h:H} {s:Shared} {K:Bool->H->Bool} {X:Nat->H->Bool},dz g c n A->FR g c A fr env->cV g c h s->r.tr fr e h K X=true->
  cQ g.M A (isTrue e env (eval e env)) (QB g c K) (EX g c A X) s
noncomputable def KT(g:Gb)(n:Nat)(r:Ev):Prop:=∀{A:Around} {f:V} {args:List V} {fv:Value} {vs:List Value} {c:Cf} {h:H} {s:Shared} {K:V->H->Bool} {X:Nat->H->Bool},dz g c n A->cV g c h s->VR g c f fv->da g c args vs->r.cl f args h K X=true->
  cQ g.M A (call fv vs) (QV g c K) (EX g c A X) s
noncomputable def G4(g:Gb)(n:Nat)(r:Ev):Prop:=∀{A:Around} {fr:Fr} {env:Env} {t:Expr} {a:V} {v:Value} {c:Cf} {h:H} {s:Shared} {K:H->Bool} {X:Nat->H->Bool},dz g c n A->FR g c A fr env->cV g c h s->VR g c a v->r.asg fr t a h K X=true->
  cQ g.M A (assign t env v) (QU g c K) (EX g c A X) s
noncomputable def KU(g:Gb)(n:Nat)(r:Ev):Prop:=∀{A:Around} {fr:Fr} {env:Env} {ss:List Stmt} {c:Cf} {h:H} {s:Shared} {K:gf->H->Bool} {X:Nat->H->Bool},dz g c n A->FR g c A fr env->cV g c h s->r.ex fr ss h K X=true->
  cQ g.M A (execs ss env) (QF g c K) (EX g c A X) s
noncomputable def KV(g:Gb)(n:Nat)(r:Ev):Prop:=∀{A:Around} {fr:Fr} {env:Env} {t:Expr} {b:List Stmt} {c:Cf} {h:H} {s:Shared} {K:gf->H->Bool} {X:Nat->H->Bool},dz g c n A->FR g c A fr env->cV g c h s->r.wh fr t b h K X=true->
  c6 g.M A (.whileLoop t b [] env) (QW g c A env X K) s
noncomputable def KW(g:Gb)(n:Nat)(r:Ev):Prop:=∀{A:Around} {fr:Fr} {env:Env} {t:Expr} {it:It} {itv:Value} {b:List Stmt} {c:Cf} {h:H} {s:Shared} {K:gf->H->Bool} {X:Nat->H->Bool},dz g c n A->FR g c A fr env->cV g c h s->pD g c s.heap it itv->r.fo fr t it b h K X=true->
  c6 g.M A (.forLoop t itv b [] env) (QW g c A env X K) s
noncomputable def KX(g:Gb)(n:Nat)(r:Ev):Prop:=∀{A:Around} {fr:Fr} {env:Env} {elt t ite:Expr} {ifs:List Expr} {sc:Scope} {p:Pos} {it:It} {itv:Value} {acc:Nat} {c:Cf} {h:H} {s:Shared} {K:H->Bool} {X:Nat->H->Bool},dz g c n A->FR g c A fr env->cV g c h s->pD g c s.heap it itv->acc<c.n->
  r.co fr elt t ifs it acc h K X=true->
  c6 g.M A (.compLoop (.ListComp elt [⟨t,ite,ifs,0⟩] sc p) 0 itv (.ref (c.ρ acc)) env) (IR g c A env X K) s
noncomputable def KY(g:Gb)(n:Nat)(r:Ev):Prop:=∀{A:Around} {fr:Fr} {env:Env} {elt:Expr} {gs:List Comprehension} {sc:Scope} {p px:Pos} {x:Str} {c:Cf} {h:H} {s:Shared} {K:V->H->Bool} {K':H->Bool} {X:Nat->H->Bool},dz g c n A->FR g c A fr env->cV g c h s->env.kindOf x=some .local->
  r.ev fr (.ListComp elt gs sc p) h K X=true->(∀v h,K v h=true->gy fr (cd x) v h K'=true)->
  cQ g.M A (evalThenUse (.ListComp elt gs sc p) env (assign (.Name x px) env)) (QU g c K') (EX g c A X) s
noncomputable def KZ(g:Gb)(n:Nat)(r:Ev):Prop:=∀{fr:Fr} {x:Str} {p:Pos} {a:V} {h:H} {K:H->Bool} {X:Nat->H->Bool},r.asg fr (.Name x p) a h K X=true->gy fr (cd x) a h K=true
noncomputable def K0(g:Gb)(n:Nat)(r:Ev):Prop:=∀{fr:Fr} {es:List Expr} {xs:List Str} {k:Nat} {p:Pos} {a:V} {h:H} {K:H->Bool} {X:Nat->H->Bool},nU es xs->r.asg fr (.Tuple es k p) a h K X=true->g.C.quiet=false/\∃vs,a=.tup vs/\d9 fr h K (xs.map cd) vs=true
noncomputable def G5(g:Gb)(n:Nat)(r:Ev):Prop:=∀{fr:Fr} {es:List Expr} {k:Nat} {p:Pos} {h:H} {K:V->H->Bool} {X:Nat->H->Bool},r.ev fr (.Set es k p) h K X=false
noncomputable def DK(g:Gb)(n:Nat)(r:Ev):Prop:=∀{fr:Fr} {e:Expr} {p:Pos} {h:H} {K:V->H->Bool} {X:Nat->H->Bool},r.ev fr (.Starred e p) h K X=false
structure eP(g:Gb)(n:Nat)(r:Ev):Prop where
 ev:KR g n r
 tr:KS g n r
 cl:KT g n r
 asg:G4 g n r
 ex:KU g n r
 wh:KV g n r
 fo:KW g n r
 co:KX g n r
 cu:KY g n r
 nm:KZ g n r
 tp:K0 g n r
 set:G5 g n r
 star:DK g n r
section
variable{A:Around}{s:Shared}{α β:Type}{E:Value->Shared->Prop}
theorem dw{m:Sem α}{Q Q':α->Shared->Prop}(e:dA c c'){X:Nat->H->Bool}(h:cQ g.M A m Q' (EX g c' A X) s)(hq:∀a s',Q' a s'->Q a s'):cQ g.M A m Q (EX g c A X) s:=
 cO h hq λY Y=>EX.mono e
end
theorem DL{r:Ev}{n:Nat}(S:eP g n r){fr:Fr}{e:Expr}{h:H}{K:V->H->Bool}{X:Nat->H->Bool}(he:r.ev fr e h K X=true):∀x p,e≠.Starred x p:=λx p q=>by
 subst q;rw[S.star] at he;cases he
theorem mj{n:Nat}{r:Ev}(S:eP g n r){A:Around}{fr:Fr}{env:Env}{pos:Pos}{X:Nat->H->Bool}{es:List Expr}:∀{c:Cf} {h:H} {s:Shared} {K:List V->H->Bool},dz g c n A->FR g c A fr env->cV g c h s->AY r fr es h K X=true->
  cQ g.M A (spliced (backTo pos (starEach es env))) (QL g c K) (EX g c A X) s:=by
 induction es with
 |nil=>exact λoa f I hk=>mV ⟨[],_,_,.refl _,I,da.nil,hk⟩
 |cons e es ih=>exact λoa f I hk=>mh (cO (S.ev oa f I hk) (λv aa qq=>qq.elim λa ag ae ac af va bM=>
                 cO (ih (oa.ext I ac) (f.ext ac) af bM) (λvs aj qq=>qq.elim λl ao aq ak am vl bO=>⟨a::l,ao,aq,ac.trans ak,am,da.cons (va.ext ak) vl,bO⟩) λY Y=>EX.mono ac) λY Y x=>x) (hO (DL S hk))
end
def ii(g:Gb)(n:Nat)(r:Ev):Prop:=∀R,(∀a o,g.R a o->R a o)->eP (g.wR R) n r
section
open PySem.SeqAt
variable{g:Gb}{c c':Cf}
theorem DM{n:Nat}{r:Ev}(S:eP g n r){fr:Fr}{e:Expr}{h:H}{K:V->H->Bool}{X:Nat->H->Bool}(he:r.ev fr e h K X=true)(op:CmpOp)(t:Sem Value):markedBehindIn op e t=t:=by
 apply markedBehindIn_of_false
 cases e<;>first|rfl|(rw[S.set] at he;cases he)
section
variable{n:Nat}{r:Ev}{A:Around}{fr:Fr}{env:Env}{X:Nat->H->Bool}
theorem DN{A:Around}(oa:dz g c n A):A.units+1<cLine:=Vt (Vt (Nat.add_lt_add_left (by decide:1<64) _) (Wo (Wr _ _) _)) oa.un
theorem wg(W:SW g)(S:eP g n r){α:Type}{op:CmpOp}{a:V}{v:Value}{e:Expr}{c:Cf}{h:H}{s:Shared}{KK:V->H->Bool->Bool}{k:Value->Sem Value->Sem α}{Q:α->Shared->Prop}
  (oa:dz g c n A) (f:FR g c A fr env) (I:cV g c h s) (hv:VR g c a v) (hk:r.ev fr e h (λw h=>FH g.C op a w h (KK w h)) X=true)
  (hq:∀w vw ag ae aa,dA c ag->VR g ag w vw->(∀{Q':Value->Shared->Prop},(∀b aj,cV g ag ae aj->KK w ae b=true->Q' (.bool b) aj)->cQ g.M A (compareOp op v vw) Q' (EX g c A X) aa)->cQ g.M A (k vw (compareOp op v vw)) Q (EX g c A X) aa):
  cQ g.M A (do let b<-holding [v] (eval e env);k b (compareOp op v b)) Q (EX g c A X) s:=
 wpAny_bind (cS (cO (S.ev oa f I hk) (λvw aa qq=>qq.elim λw ag ae ac af hw hK=>hq w vw ag ae aa ac hw λhq'=>P (Kv W af (hv.ext ac) hw hK (DN oa) λb aj hb am=>hq' b aj am hb)) λY Y x=>x))
theorem rE{C:Prop}{a:V}{ops:List CmpOp}{es:List Expr}{h:H}{K:Bool->H->Bool}(hk:BH g.C r fr a ops es h K X=true)(f:∀op e,ops=[op]->es=[e]->JW g.C r fr a op e h K X=true->C):C:=by
 cases ops with
 |nil=>exact ft hk
 |cons op ops=>
  cases es with
  |nil=>exact ft hk
  |cons e es=>
   cases ops with
   |cons _ _=>exact ft hk
   |nil=>cases es with
    |cons _ _=>exact ft hk
    |nil=>exact f op e rfl rfl hk
theorem Ja(S:eP g n r){op:CmpOp}{e:Expr}{h:H}{K:V->H->Bool}(hk:r.ev fr e h K X=true):markedEach [op] [e] (evalEach [e] env)=[eval e env]:=congrArg (λt=>[t]) (DM S hk op (eval e env))
theorem ua(W:SW g)(S:eP g n r){pos:Pos}{op:CmpOp}{e:Expr}{a:V}{v:Value}{c:Cf}{h:H}{s:Shared}{K:Bool->H->Bool}(oa:dz g c n A)(f:FR g c A fr env)(I:cV g c h s)(hv:VR g c a v)(hk:JW g.C r fr a op e h K X=true):
  cQ g.M A (testChain pos v [op] (markedEach [op] [e] (evalEach [e] env))) (QB g c K) (EX g c A X) s:=by
 rw[Ja S hk]
 exact wg (k:=λrv t=>do standAt pos;let x<-operate [v,rv] t;holding [x] (PySem.truthy x)) W S oa f I hv hk λw vw ag ae aa ac hw hc=>wpAny_bind (cU (wpAny_bind (d5 (hc λb aj am hK=>cS (P (wpAny_truthy_bool ⟨ag,ae,ac,am,hK⟩))))))
theorem rF(W:SW g)(S:eP g n r){pos:Pos}{ops:List CmpOp}{es:List Expr}{a:V}{v:Value}{c:Cf}{h:H}{s:Shared}{K:Bool->H->Bool}(oa:dz g c n A)(f:FR g c A fr env)(I:cV g c h s)(hv:VR g c a v)(hk:TZ g.C r fr a ops es h K X=true):
  cQ g.M A (testChain pos v ops (markedEach ops es (evalEach es env))) (QB g c K) (EX g c A X) s:=
 eL hk (λhk=>cT hk λY hk=>rE hk λop e e1 e2 hk=>by cases e1;cases e2;exact ua W S oa f I hv hk) λhk=>by
  cases ops with
  |nil=>exact ft hk
  |cons op ops=>
   cases es with
   |nil=>exact ft hk
   |cons e es=>
    cases ops with
    |nil=>exact ft hk
    |cons op2 ops=>
     refine wg (e:=e) (k:=λrv t=>do standAt pos;let x<-holding [v,rv] t;release [v,rv] [x];if<-holding [x,rv] (PySem.truthy x) then testChain pos rv (op2::ops) (markedEach (op2::ops) es (evalEach es env)) else pure false) W S oa f I hv hk λw vw ag ae aa ac hw hc=>
      wpAny_bind (cU (wpAny_bind (cS (hc λb aj am hK=>wpAny_bind (fU (wpAny_bind (cS (P (wpAny_truthy_bool ?_)))))))))
     cases b with
     |false=>exact wpAny_pure ⟨ag,ae,ac,am,hK⟩
     |true=>exact rE hK λop e e3 e4 hK=>by cases e3;cases e4;exact dw ac (ua W S (oa.ext I ac) (f.ext ac) am hw hK) λY Y=>QB.mono ac
theorem mW(W:SW g)(S:eP g n r){pos:Pos}{ops:List CmpOp}{es:List Expr}{a:V}{v:Value}{c:Cf}{h:H}{s:Shared}{K:V->H->Bool}(oa:dz g c n A)(f:FR g c A fr env)(I:cV g c h s)(hv:VR g c a v)(hk:BH g.C r fr a ops es h (λb h=>K (.bool b) h) X=true):
  cQ g.M A (compareChain pos v ops (markedEach ops es (evalEach es env))) (QV g c K) (EX g c A X) s:=
 rE hk λop e e1 e2 hk=>by
  cases e1;cases e2
  rw[Ja S hk]
  exact wg (k:=λrv t=>do standAt pos;operate [v,rv] t) W S oa f I hv hk λw vw ag ae aa ac hw hc=>wpAny_bind (cU (d5 (hc λb aj am hK=>⟨_,ag,ae,ac,am,nY,hK⟩)))
theorem K1(W:SW g)(S:eP g n r){op:BoolOp}{pos:Pos}{es:List Expr}:∀{c:Cf} {h:H} {s:Shared} {K:V->H->Bool},dz g c n A->FR g c A fr env->cV g c h s->Sp g.C r fr op es h K X=true->
  cQ g.M A (boolOp pos op (evalEach es env)) (QV g c K) (EX g c A X) s:=by
 induction es with
 |nil=>exact λY Y Y hk=>ft hk
 |cons e es ih=>
  exact λ{c h s K} oa f I hk=>Cs hk (λhe hk=>by
   cases es with
   |nil=>exact S.ev oa f I hk
   |cons _ _=>
    exact ft he) λhe hk=>by
    cases es with
    |nil=>exact tf he
    |cons e' es=>
     refine wpAny_bind (cO (S.ev oa f I hk) (λv aa qq=>qq.elim λa ag ae ac af hv hK=>wpAny_bind (cU (wpAny_bind (cS (P (truthy_ok W af hv hK λb aj hK am=>?_)))))) λY Y x=>x)
     have rest:Sp g.C r fr op (e'::es) ae K X=true->cQ g.M A (boolOp pos op (evalEach (e'::es) env)) (QV g c K) (EX g c A X) aj:=λhk=>dw ac (ih (oa.ext I ac) (f.ext ac) am hk) λY Y=>QV.mono ac
     cases op<;>cases b<;>first|exact rest hK|exact wpAny_pure ⟨a,ag,ae,ac,am,hv,hK⟩
theorem K2(S:eP g n r){op:BoolOp}{es:List Expr}:∀{c:Cf} {h:H} {s:Shared} {K:Bool->H->Bool},dz g c n A->FR g c A fr env->cV g c h s->MJ r fr op es h K X=true->
  cQ g.M A (allTrue op es env) (QB g c K) (EX g c A X) s:=by
 induction es with
 |nil=>exact λ{c h s K} Y Y I hk=>by cases op<;>exact wpAny_pure ⟨c,h,.refl c,I,hk⟩
 |cons e es ih=>
  exact λ{c h s K} oa f I hk=>by
   have go:cQ g.M A (isTrue e env (eval e env)) (λb aa=>match op,b with|.And,true|.Or,false=>cQ g.M A (allTrue op es env) (QB g c K) (EX g c A X) aa|_,_=>QB g c K b aa) (EX g c A X) s:=
    cO (S.tr oa f I hk) (λb aa qq=>qq.elim λag ae ac af hK=>by
     have rest:MJ r fr op es ae K X=true->cQ g.M A (allTrue op es env) (QB g c K) (EX g c A X) aa:=λhk=>dw ac (ih (oa.ext I ac) (f.ext ac) af hk) λY Y=>QB.mono ac
     cases op<;>cases b<;>first|exact rest hK|exact⟨ag,ae,ac,af,hK⟩) λY Y x=>x
   cases op with
   |And=>exact iS (cO go (λb aa q=>by cases b<;>exact q) λY Y x=>x)
   |Or=>exact i7 (cO go (λb aa q=>by cases b<;>exact q) λY Y x=>x)
end
end
section
open PySem.SeqAt
variable{g:Gb}{c c':Cf}
section
variable{n:Nat}{r:Ev}{A:Around}{fr:Fr}{env:Env}{X:Nat->H->Bool}{h:H}{s:Shared}
theorem DO(W:SW g)(S:eP g n r){op:Operator}{a b:Expr}{p:Pos}{K:V->H->Bool}(oa:dz g c n A)(f:FR g c A fr env)(I:cV g c h s)(hk:u4 g.C r fr op a b h K X=true):
  cQ g.M A (eval (.BinOp a op b p) env) (QV g c K) (EX g c A X) s:=by
 rw[eval_BinOp]
 unfold u4 at hk
 refine wpAny_bind (cO (S.ev oa f I hk) (λv aa qq=>qq.elim λva ag ae ac af hv hK=>?_) λY Y x=>x)
 refine wpAny_bind (cS (cO (S.ev (oa.ext I ac) (f.ext ac) af hK) (λw aj qq=>qq.elim λvb ao aq ak am hw hK=>?_) λY Y=>EX.mono ac))
 exact wpAny_bind (cU (d5 (cO (P<|binop_ok W am (hv.ext ak) hw hK) (λY Y=>QV.mono (ac.trans ak)) λY Y x=>x)))
theorem wj(W:SW g)(S:eP g n r){op:UnaryOp}{a:Expr}{p:Pos}{K:V->H->Bool}(oa:dz g c n A)(f:FR g c A fr env)(I:cV g c h s)(hk:r.ev fr a h (λva h=>JG g.C op va h K) X=true):
  cQ g.M A (eval (.UnaryOp op a p) env) (QV g c K) (EX g c A X) s:=
 pU (cO (S.ev oa f I hk) (λY Y qq=>qq.elim λY Y Y ac af hv hK=>cO (P<|unop_ok W af hv hK) (λY Y=>QV.mono ac) λY Y x=>x) λY Y x=>x)
theorem DP(S:eP g n r){t a b:Expr}{p:Pos}{K:V->H->Bool}(oa:dz g c n A)(f:FR g c A fr env)(I:cV g c h s)(hk:r.tr fr t h (T2 r fr a b K X) X=true):
  cQ g.M A (eval (.IfExp t a b p) env) (QV g c K) (EX g c A X) s:=
 tY (cO (S.tr oa f I hk) (λk aa qq=>qq.elim λag ae ac af hK=>by
  cases k with
  |true=>exact dw ac (S.ev (oa.ext I ac) (f.ext ac) af hK) λY Y=>QV.mono ac
  |false=>exact dw ac (S.ev (oa.ext I ac) (f.ext ac) af hK) λY Y=>QV.mono ac) λY Y x=>x)
theorem wl(W:SW g)(S:eP g n r){l:Expr}{ops:List CmpOp}{es:List Expr}{p:Pos}{K:V->H->Bool}(oa:dz g c n A)(f:FR g c A fr env)(I:cV g c h s)(hk:IC g.C r fr l ops es h K X=true):
  cQ g.M A (eval (.Compare l ops es p) env) (QV g c K) (EX g c A X) s:=by
 rw[arm_eval_Compare]
 exact wpAny_bind (cO (S.ev oa f I hk) (λv aa qq=>qq.elim λva ag ae ac af hv hK=>dw ac (mW W S (oa.ext I ac) (f.ext ac) af hv hK) λY Y=>QV.mono ac) λY Y x=>x)
theorem DQ(S:eP g n r){es:List Expr}{k:Nat}{p:Pos}{K:V->H->Bool}(oa:dz g c n A)(f:FR g c A fr env)(I:cV g c h s)(hk:AY r fr es h (λvs h=>Nl vs.length (K (.tup vs) h)) X=true):
  cQ g.M A (eval (.Tuple es k p) env) (QV g c K) (EX g c A X) s:=
 tZ (cO (mj S oa f I hk) (λvs aa qq=>qq.elim λl ag ae ac af hv hK=>by
  refine e02 (Cq hK) λhl hK=>?_
  refine e13 (x9 af hv) λao ak am r₂=>?_
  exact⟨dD (Vo (Vu hv.length) (Vo hl (by decide))),_,ao,ae,ac.trans ak,am,r₂,hK⟩) λY Y x=>x)
theorem G6(S:eP g n r){es:List Expr}{p:Pos}{K:V->H->Bool}(oa:dz g c n A)(f:FR g c A fr env)(I:cV g c h s)(hk:AY r fr es h (λvs h=>Nl vs.length (K (.ref h.length) (h.push (.list vs)))) X=true):
  cQ g.M A (eval (.List es p) env) (QV g c K) (EX g c A X) s:=
 wf (cO (mj S oa f I hk) (λvs aa qq=>qq.elim λl ag ae ac af hv hK=>by
  refine e02 (Cq hK) λhl hK=>?_
  refine e13 (kH af hv hl) λao ak am r₂=>?_
  exact⟨dD (Vo (Vu hv.length) (Vo hl (by decide))),_,ao,_,ac.trans ak,am,r₂,hK⟩) λY Y x=>x)
theorem gX{o:Expr}{attr:Str}{whole:Sem Value}{Q:Value->Shared->Prop}{E:Value->Shared->Prop}(hc:env.kindOf "__class__"≠some .free)(hw:cQ g.M A whole Q E s):cQ g.M A (attributeBase o attr env whole) Q E s:=by
 unfold attributeBase
 cases o with
 |Call f a k p=>
  cases f with
  |Name id q=>
   cases a with
   |nil=>
    cases k with
    |nil=>exact kX (by rw[bne_iff_ne.mpr hc,Bool.or_true]) hw
    |cons _ _=>exact hw
   |cons _ _=>exact hw
  |_=>exact hw
 |_=>exact hw
end
end
section
open PySem.SeqAt
variable{g:Gb}{c c':Cf}
section
variable{n:Nat}{r:Ev}{A:Around}{fr:Fr}{env:Env}{X:Nat->H->Bool}{h:H}{s:Shared}{E:Value->Shared->Prop}
theorem G7(S:eP g n r){ts:List Expr}:∀{as:List V} {vs:List Value} {c:Cf} {h:H} {s:Shared} {K:H->Bool},dz g c n A->FR g c A fr env->cV g c h s->da g c as vs->J0 r fr ts as h K X=true->
  cQ g.M A (assignInOrder (ts.map λt=>assign t env) vs) (QU g c K) (EX g c A X) s:=by
 induction ts with
 |nil=>
  exact λ{as vs c h s K} oa f I hv hk=>cT hk λe hk=>by
   cases as with
   |nil=>cases (show vs=[] from hv);exact wpAny_pure ⟨c,h,.refl c,I,hk⟩
   |cons _ _=>exact ft e
 |cons t ts ih=>
  exact λ{as vs c h s K} oa f I hv hk=>by
   cases as with
   |nil=>exact ft hk
   |cons a as=>
    refine e23 hv λx xs zq80 h1 h2=>?_;clear hv
    cases zq80
    exact wpAny_bind (cS (cO (S.asg oa f I h1 hk) (λY aa qq=>qq.elim λag ae ac af hK=>dw ac (ih (oa.ext I ac) (f.ext ac) af (h2.ext ac) hK) λY Y=>QU.mono ac) λY Y x=>x))
theorem Aj(S:eP g n r){es:List Expr}{k:Nat}{p:Pos}{a:V}{v:Value}{K:H->Bool}(hq:g.C.quiet=false)(oa:dz g c n A)(f:FR g c A fr env)(I:cV g c h s)(hv:VR g c a v)(hk:xH r fr es a h K X=true):
  cQ g.M A (assign (.Tuple es k p) env v) (QU g c K) (EX g c A X) s:=
 kT (P:=λv=>cQ g.M A (assign (.Tuple es k p) env v) (QU g c K) (EX g c A X) s) hk hv λvs x ws h1 h2 hk=>iX hk λhl hs hk=>by
  have hp:=ib (env:=env) (fP hs)
  refine ki (oa.hh hq) (I.tup _ _ h1) (by rw[hp,VG,VN,h2.length];exact cX hl) (by rw[hp];exact jW es) λh' he=>?_
  rw[hp,W3]
  exact G7 S oa f (I.keep (s':={s with heap:=h'}) (λb o e=>he b o (VM (VP e)) e) ⟨rfl,rfl,rfl⟩) h2 hk
end
end
section
open PySem.SeqAt
variable{g:Gb}{c c':Cf}
section
variable{n:Nat}{r:Ev}{A:Around}{fr:Fr}{env:Env}{X:Nat->H->Bool}{h:H}{s:Shared}{E:Value->Shared->Prop}
noncomputable abbrev RY(K:H->Bool)(f:gf)(h:H):Bool:=match f with|.nx=>K h|_=>false
theorem Jb{K:H->Bool}{u:Unit}{aa:Shared}(q:QU g c K u aa):QF g c (RY K) .next aa:=q.elim λag ae ac af hK=>⟨ag,ae,ac,af,hK⟩
theorem wm(S:eP g n r){t:Expr}{p:Pos}{elt:Expr}{gs:List Comprehension}{sc:Scope}{ep:Pos}{K:H->Bool}(oa:dz g c n A)(f:FR g c A fr env)(I:cV g c h s)
  (ht:∀v,assignAll v ((assignEach [t] env).map (·.2))=assign t env v)
  (hk:r.ev fr (.ListComp elt gs sc ep) h (λv h=>r.asg fr t v h K X) X=true):cQ g.M A (exec (.Assign [t] (.ListComp elt gs sc ep) p) env) (QF g c (RY K)) (EX g c A X) s:=by
 have plain:swappedStores [t] (.ListComp elt gs sc ep) env=pure none->swapsWithSole [t] (.ListComp elt gs sc ep) p.line env=pure false->cQ g.M A (exec (.Assign [t] (.ListComp elt gs sc ep) p) env) (QF g c (RY K)) (EX g c A X) s:=λhw hs=>
  gi (cO (S.ev oa f I hk) (λv aa qq=>qq.elim λa ag ae ac af hv hK=>by
   rw[ht]
   exact dw ac (S.asg (oa.up ac) (f.ext ac) af hv hK) λY aj q=>Jb (QU.mono ac q)) λY Y x=>x) hs hw
 cases hn:g9 t with
 |some x=>
  obtain⟨px,rfl⟩:=jF hn
  obtain⟨b,hs,hb⟩:∃b,swapsWithSole [.Name x px] (.ListComp elt gs sc ep) p.line env=pure b/\(b=true->env.kindOf x=some .local):=⟨_,rfl,λq=>by
   simp only[Bool.and_eq_true,beq_iff_eq] at q
   exact q.1.1.2⟩
  cases b with
  |false=>exact plain rfl hs
  |true=>
   rw[C5,hs]
   refine wpAny_bind (cU (wpAny_bind (wpAny_pure (kX rfl ?_))))
   rw[show(λv=>assignAll v ((assignEach [.Name x px] env).map (·.2)))=assign (.Name x px) env from funext ht]
   exact wpAny_bind (cO (S.cu oa f I (hb rfl) hk λv h q=>S.nm q) (λY aa q=>wpAny_pure (Jb q)) λY Y x=>x)
 |none=>cases t<;>first|exact nn' hn|exact plain rfl rfl
theorem S5{α:Type}{l:List α}(h:l.length=2):∃x y,l=[x,y]:=match l,h with|[x,y],_=>⟨x,y,rfl⟩
theorem G8(S:eP g n r){ts:List Expr}{k:Nat}{tp p:Pos}{e:Expr}{names:List Str}{K:H->Bool}(oa:dz g c n A)(f:FR g c A fr env)(I:cV g c h s)(hne:swapsWithSole [.Tuple ts k tp] e p.line env=pure false)(hsw:kf env ts names)
  (hw:swappedStores [.Tuple ts k tp] e env=pure (some names)) (hk:r.ev fr e h (λv h=>r.asg fr (.Tuple ts k tp) v h K X) X=true):
  cQ g.M A (exec (.Assign [.Tuple ts k tp] e p) env) (QF g c (RY K)) (EX g c A X) s:=by
 obtain⟨x,y,rfl⟩:=S5 hsw.two
 refine jt (cO (S.ev oa f I hk) (λv aa qq=>qq.elim λa ag ae ac af hv hK=>?_) λY Y x=>x) hne hw
 obtain⟨hq,vs,rfl,hB⟩:=S.tp hsw.nms hK
 obtain⟨t,ws,rfl,hT,hr⟩:=hv
 have aH:=f.ext ac
 have lx:=hsw.loc x Vq
 have ly:=hsw.loc y (Vr _ Vq)
 cases vs with
 |nil=>exact ft hB
 |cons a vs=>
  cases vs with
  |nil=>exact iM aH lx (gm hB) λm Y Y hB=>ft hB
  |cons b vs=>
   refine iM aH lx (gm hB) λm hx hm hB=>iM aH ly (gm hB) λm' hy hm' hB=>cT hB λhn hK'=>?_
   rw[H.get_set,if_pos rfl] at hm'
   cases hm'
   obtain⟨v,_,rfl,hv1,hr⟩:=hr
   obtain⟨w,us,rfl,hv2,hr⟩:=hr
   cases vs with
   |cons _ _=>exact ft hn
   |nil=>
    cases (show us=[] from hr)
    obtain⟨hlt,mm,hns,hnr⟩:=af.obj _ _ hm
    refine P<|unpackItems_tuple (items:=[v,w].toArray) (oa.hh hq) (af.tup _ _ hT) λhp he=>?_
    have kp:∀b o,aa.heap.get? b=some o->hp.get? b=some o:=λb o e=>he b o (VM (VP e)) e
    have am:cV g ag ae {aa with heap:=hp}:=af.keep kp ⟨rfl,rfl,rfl⟩
    have cG:hp.Ns (ag.ρ fr.ns) mm:=by
     obtain⟨o,es,ep,a1,a2⟩:=id hns
     exact⟨o,es,ep,kp _ _ a1,a2⟩
    have dc:cd x≠cd y:=λq=>SY hsw.dup (et hx q)
    have hN:NR g ag (nC (nC m (cd x) a) (cd y) b) ([(y,w),(x,v)].foldl (λmm x=>λy=>if y=x.1 then some x.2 else mm y) mm):=by
     refine NR.asc ((hnr.put hy hv2).put hx hv1) λk=>?_
     rw[kE,kE,kE,kE]
     by_cases q1:k=cd x
     .subst q1;rw[if_neg dc,if_pos rfl,if_pos rfl]
     .rw[if_neg q1,if_neg q1]
    refine P<|stores_ok (l:=[(y,w),(x,v)]) (nl:=ag.ρ fr.ns) aH.loc aH.kind (λp hp=>?_) cG λhp' tk hn' hs'=>?_
    .cases hp with
     |head=>exact ly
     |tail _ hp=>exact List.mem_singleton.mp hp▸lx
    .obtain⟨ob,es,ep,ho,_⟩:=id hn'
     refine⟨ag,_,ac,?_,hK'⟩
     have az:cV g ag (ae.set fr.ns (.ns (nC (nC m (cd x) a) (cd y) b))) {aa with heap:=hp',toks:=tk}:=am.setN hm ho hs' ⟨_,hn',hN⟩
     exact az.same (λj=>by
      rw[H.get_set,H.get_set,H.get_set]
      by_cases q:fr.ns=j
      .rw[if_pos q,if_pos q]
      .rw[if_neg q,if_neg q,if_neg q]) (by rw[H.length_set,H.length_set,H.length_set])
end
end
section
open PySem.SeqAt
variable{g:Gb}{c c':Cf}
noncomputable def wn(g:Gb):Prop:=∀{n:Nat} {r:Ev} {A:Around} {fr:Fr} {env:Env} {X:Nat->H->Bool} {c:Cf} {h:H} {s:Shared} {o:Expr} {lo hi st:Option Expr} {p p':Pos} {a:V} {v:Value} {K:H->Bool},eP g n r->dz g c n A->FR g c A fr env->cV g c h s->VR g c a v->
  q7 r fr o lo hi st a h K X=true->cQ g.M A (assign (.Subscript o (.Slice lo hi st p') p) env v) (QU g c K) (EX g c A X) s
noncomputable def wo(g:Gb):Prop:=∀{n:Nat} {r:Ev} {A:Around} {fr:Fr} {env:Env} {X:Nat->H->Bool} {c:Cf} {h:H} {s:Shared} {t it:Expr} {b o:List Stmt} {p:Pos} {K:gf->H->Bool},ii g n r->dz g c n A->FR g c A fr env->cV g c h s->vp g.C r fr t it b o h K X=true->
  cQ g.M A (exec (.For t it b o p) env) (QF g c K) (EX g c A X) s
noncomputable def uc(g:Gb):Prop:=∀{n:Nat} {r:Ev} {A:Around} {fr:Fr} {env:Env} {X:Nat->H->Bool} {c:Cf} {h:H} {s:Shared} {e cs:Option Expr} {p:Pos},eP g n r->dz g c n A->FR g c A fr env->cV g c h s->vn g.C r fr e cs h X=true->
  cQ g.M A (exec (.Raise e cs p) env) (λY Y=>False) (EX g c A X) s
noncomputable def wq(g:Gb):Prop:=∀{n:Nat} {r q:Ev} {A:Around} {fr:Fr} {env:Env} {X:Nat->H->Bool} {c:Cf} {h:H} {s:Shared} {b o fi:List Stmt} {hs:List ExceptHandler} {p:Pos} {K:gf->H->Bool},eP g n r->eP {g with C:=iD g.C} n q->dz g c n A->FR g c A fr env->cV g c h s->vm g.C r q fr b hs o fi h K X=true->
  cQ g.M A (exec (.Try b hs o fi p) env) (QF g c K) (EX g c A X) s
structure yE(g:Gb):Prop where
 setS:wn g
 for_:wo g
 raise:uc g
 try_:wq g
section
variable{n:Nat}{r q:Ev}{A:Around}{fr:Fr}{env:Env}{X:Nat->H->Bool}{h:H}{s:Shared}
theorem Ak(T:yE g)(S:eP g n r){o i:Expr}{p:Pos}{a:V}{v:Value}{K:H->Bool}(oa:dz g c n A)(f:FR g c A fr env)(I:cV g c h s)(hv:VR g c a v)(hk:xG r fr o i a h K X=true):
  cQ g.M A (assign (.Subscript o i p) env v) (QU g c K) (EX g c A X) s:=by
 have go:(r.ev fr o h (λo h=>r.ev fr i h (vh a K o) X) X)=true->cQ g.M A (assign (.Subscript o i p) env v) (QU g c K) (EX g c A X) s:=λhk=>by
   rw[arm_assign_Subscript]
   refine wpAny_bind (cS (cO (S.ev oa f I hk) (λw aa qq=>qq.elim λo ag ae ac af hw hK=>?_) λY Y x=>x))
   refine wpAny_bind (cS (cO (S.ev (oa.ext I ac) (f.ext ac) af hK) (λwi aj qq=>qq.elim λi ao aq ak am hwi hK=>?_) λY Y=>EX.mono ac))
   have hu:=oa.un
   refine wpAny_bind (cU (wpAny_bind (cS (cO (P<|setI_ok am ((hv.ext ac).ext ak) (hw.ext ak) hwi hK) (λY av q=>?_) λY Y x=>x))))
   exact fU (QU.mono (ac.trans ak) q)
 cases i with
 |Slice lo hi st p=>exact T.setS S oa f I hv hk
 |_=>exact go hk
theorem K3(CL:CF g)(T:yE g)(S:eP g n r){t:Expr}{a:V}{v:Value}{K:H->Bool}(oa:dz g c n A)(f:FR g c A fr env)(I:cV g c h s)(hv:VR g c a v)(hk:xI g.C r fr t a h K X=true):
  cQ g.M A (assign t env v) (QU g c K) (EX g c A X) s:=by
 cases t with
 |Name x p=>exact gW (lO f I hv hk)
 |Tuple es k p=>
  refine e02 (kN hk) λhq hk=>?_
  exact Aj S hq oa f I hv hk
 |Attribute o a p=>
  rw[arm_assign_Attribute]
  refine wpAny_bind (cS (cO (S.ev oa f I hk) (λw aa qq=>qq.elim λo ag ae ac af hw hK=>?_) λY Y x=>x))
  refine wpAny_bind (cU (wpAny_bind (cS (cO (P<|setAtt_ok CL af (hv.ext ac) hw hK) (λY aj q=>?_) λY Y x=>x))))
  exact fU (QU.mono ac q)
 |Subscript o i p=>exact Ak T S oa f I hv hk
 |_=>exact ft hk
theorem ij{st:Stmt}{ss:List Stmt}{Q Q':Flow->Shared->Prop}{E:Value->Shared->Prop}(h:cQ g.M A (exec st env) Q' E s)(hn:∀aa,Q' .next aa->cQ g.M A (execs ss env) Q E aa)(ho:∀fl aa,fl≠.next->Q' fl aa->Q fl aa):
  cQ g.M A (execs (st::ss) env) Q E s:=by
 refine mc (cO h (λfl aa x=>?_) λY Y x=>x)
 cases fl with
 |next=>exact hn aa x
 |ret v=>exact ho _ aa nofun x
 |brk=>exact ho _ aa nofun x
 |cont=>exact ho _ aa nofun x
theorem ik(S:eP g n r){st:Stmt}{ss:List Stmt}{K:gf->H->Bool}(oa:dz g c n A)(f:FR g c A fr env)(I:cV g c h s)(hw:cQ g.M A (exec st env) (QF g c (ql r fr ss K X)) (EX g c A X) s):
  cQ g.M A (execs (st::ss) env) (QF g c K) (EX g c A X) s:=
 ij hw (λaa ⟨ao,aq,ak,am,hK⟩=>dw ak (S.ex (oa.ext I ak) (f.ext ak) am hK) λY Y=>QF.mono ak) λfl aa hne x=>by
  cases fl with
  |next=>exact absurd rfl hne
  |ret v=>exact x
  |brk=>exact x
  |cont=>exact x
theorem DR(S:eP g n r){ts:List Expr}{e:Expr}{p:Pos}{ss:List Stmt}{K:gf->H->Bool}(oa:dz g c n A)(f:FR g c A fr env)(I:cV g c h s)(hk:BS r fr ts e h (λh=>r.ex fr ss h K X) X=true):
  cQ g.M A (execs (.Assign ts e p::ss) env) (QF g c K) (EX g c A X) s:=by
 cases ts with
 |nil=>exact ft hk
 |cons t ts=>
  cases ts with
  |cons _ _=>exact ft hk
  |nil=>
   refine cT hk λhs hk=>iX hs λY hoe Y=>ik S oa f I ?_
   cases hc:q8 e with
   |true=>cases e<;>first|exact ft hc|exact cO (wm S oa f I (zQ hs) hk) (λY Y=>ym λY x=>x) λY Y x=>x
   |false=>
    rcases pL (env:=env) hs with hw|⟨ts,k,tp,names,rfl,hw,hsw⟩
    .refine gi (cO (S.ev oa f I hk) (λv aa qq=>qq.elim λa ag ae ac af hv hK=>?_) λY Y x=>x) (yl hoe hc) hw
     rw[zQ hs]
     exact dw ac (S.asg (oa.ext I ac) (f.ext ac) af hv hK) λY aj qq=>qq.elim λao aq ak am hK=>⟨ao,aq,ac.trans ak,am,hK⟩
    .exact cO (G8 S oa f I (yl hoe hc) hsw hw hk) (λY Y=>ym λY x=>x) λY Y x=>x
theorem N4(T:yE g)(SP:ii g n r)(S:eP g n r)(Sq:eP {g with C:=iD g.C} n q){ss:List Stmt}{K:gf->H->Bool}(oa:dz g c n A)(f:FR g c A fr env)(I:cV g c h s)(hk:BW g.C r q fr ss h K X=true):
  cQ g.M A (execs ss env) (QF g c K) (EX g c A X) s:=by
 cases ss with
 |nil=>exact eY ⟨c,h,.refl c,I,hk⟩
 |cons st ss=>
  cases st with
  |Assign ts e p=>exact DR S oa f I hk
  |If t a b p=>
   refine ik S oa f I (DJ (cO (S.tr oa f I hk) (λb aa qq=>qq.elim λag ae ac af hK=>?_) λY Y x=>x))
   cases b with
   |true=>exact dw ac (S.ex (oa.ext I ac) (f.ext ac) af hK) λY Y=>QF.mono ac
   |false=>exact dw ac (S.ex (oa.ext I ac) (f.ext ac) af hK) λY Y=>QF.mono ac
  |For t it b o p=>exact ik S oa f I (T.for_ SP oa f I hk)
  |While t b o p=>
   cases o with
   |nil=>exact ik S oa f I (tW (dC (S.wh oa f I hk) λq s' x=>by cases q with|ok _=>exact x|error _=>exact dT.back f x))
   |cons _ _=>exact ft hk
  |Return e p=>
   cases e with
   |some e=>exact ij (kY (Q:=λfl aa=>fl≠.next/\QF g c K fl aa) (cO (S.ev oa f I hk) (λv aa qq=>qq.elim λa ag ae ac af hv hK=>⟨nofun,a,ag,ae,ac,af,hv,hK⟩) λY Y x=>x)) (λY x=>absurd rfl x.1) λY Y Y x=>x.2
   |none=>exact ft hk
  |Raise e cz p=>exact ij (T.raise S oa f I hk) (λY x=>x.elim) λY Y Y x=>x.elim
  |Try b hs o fb p=>exact ik S oa f I (T.try_ S Sq oa f I hk)
  |Expr e p=>exact iX hk λhc ho hk=>ik S oa f I (oZ (Q:=QF g c (ql r fr ss K X)) (cO (S.ev oa f I hk) (λv aa qq=>qq.elim λa ag ae ac af hv hK=>⟨ag,ae,ac,af,hK⟩) λY Y x=>x) f.inter (GB ho (dP hc)))
  |_=>exact ft hk
end
end
section
open PySem.SeqAt
variable{g:Gb}{c c':Cf}
section
variable{n:Nat}{r:Ev}{A:Around}{X:Nat->H->Bool}{h:H}{s:Shared}
theorem kZ(F:FF g){i:Nat}{args:List V}{vs:List Value}{Kf:gx->Fr->H->Bool}{Q:Value->Shared->Prop}{E:Value->Shared->Prop}(oa:dz g c (n+1) A)(I:cV g c h s)(hv:da g c args vs)
  (hk:cR (g.C.F.get i) (λfi=>cR (fy fi.params fi.dfl args) λfull=>Prod.rec (motive:=λY=>Bool) (λfr h=>d9 fr h (Kf fi fr) fi.params full) (eA fi.lam fi.ks [] h))=true)
  (hb:∀fi fr env ag ae aa,g.C.F.get i=some fi->fr.ns=h.length->fr.ks=fi.ks->dA c ag->FR g ag (A.deeper env) fr env->ag.N fr.ns->(∀ao,dA c ao->fr.ns<ao.n->ao.N fr.ns->env.locals=ao.ρ fr.ns->dz g ao n (A.deeper env))->cV g ag ae aa->Kf fi fr ae=true->
   cQ g.M (A.deeper env) (execs fi.body env) (λfl aj=>Q (match fl with|.ret v=>v|_=>.none) aj) (λe aj=>PySem.wpAny g.M (A.deeper env) (leaving env e) (λY av=>E e av) (λe' av=>E e' av) aj) aa):
  cQ g.M A (call (.ref (g.fa i)) vs) Q E s:=
 cP hk λfi hfi hk=>cP hk λfull hfull hk=>by
  refine e21 (F.fn hfi) λfd o O=>?_
  refine e13 (O.bind I hv hfull) λbinds hb1 hb2 hb3=>?_
  refine fR (i8 (oa.deep) (I.base _ _ O.at_) O.data O.co O.gen O.body (O.code.keeps I.base) (hb1 _ _ _ _ ?_))
  rw[O.glob,O.clo,O.bi]
  rw[<-hb2,<-O.names] at hk
  refine frame_ok (cs0:=[]) (K:=Kf fi) (lm:=fi.lam) O.kind O.nocls O.nodbg O.nocd (λY q=>nn q) (λq Y Y=>O.lam q) (λx i Y Y q=>nn (show none=some i from q)) I hb3 hk λfr env ag ae aa Z hK=>⟨F.lim.keeps Z.i.base,rD ?_⟩
  refine e03 (Z.within oa) λf hN hoa=>?_
  exact hb fi fr env ag ae aa hfi Z.ns (Z.ks.trans O.names) Z.e f hN hoa Z.i hK
theorem ud(F:FF g)(S:eP g n r){i:Nat}{args:List V}{vs:List Value}{K:V->H->Bool}(oa:dz g c (n+1) A)(I:cV g c h s)(hv:da g c args vs)(hk:ve g.C r i args h K X=true):
  cQ g.M A (call (.ref (g.fa i)) vs) (QV g c K) (EX g c A X) s:=
 kZ F (Kf:=λfi fr h=>r.ex fr fi.body h (kt K) X) oa I hv hk λfi fr env ag ae aa Y Y Y ac f hN hoa af hK=>by
  have bp:=hoa ag ac f.ins hN f.loc
  refine cO (S.ex bp f af hK) (λfl aj x=>?_) λe aj x=>PySem.wpAny_mono (sW bp f x) (λY Y y=>EX.mono ac y) λY Y y=>y
  cases fl with
  |next=>exact QU.elim x λao aq ak am hK=>⟨.none,ao,aq,ac.trans ak,am,iK,hK⟩
  |ret v=>exact QV.mono ac x
  |brk=>exact x.elim
  |cont=>exact x.elim
end
end
section
open PySem.SeqAt
variable{g:Gb}{c c':Cf}
section
variable{A:Around}{E:Value->Shared->Prop}{s:Shared}
theorem rG{f:Value}{args:List (Bool×Sem Value)}{Q:Args->Shared->Prop}(hplain:args.any (·.1)=false)(h:cQ g.M A (spliced args) (λvs s'=>Q ⟨vs,[]⟩ s') E s):cQ g.M A (evalArgs f true args []) Q E s:=by
 cases args with
 |nil=>
  unfold evalArgs
  refine(?_:cQ g.M A (spliced []>>=_) Q E s)
  refine wpAny_bind (cO h (λvs s' h'=>?_) λY Y x=>x)
  refine cS ?_
  exact wpAny_bind (wpAny_pure (wpAny_bind (wpAny_pure (wpAny_pure h'))))
 |cons x r=>
  obtain⟨st,x⟩:=x
  cases st with
  |true=>cases hplain
  |false=>
   unfold evalArgs
   refine(?_:cQ g.M A (spliced ((false,x)::r)>>=_) Q E s)
   refine wpAny_bind (cO h (λvs s' h'=>?_) λY Y x=>x)
   refine cS ?_
   exact wpAny_bind (wpAny_pure (wpAny_bind (wpAny_pure (wpAny_pure h'))))
theorem callWith_any{pos:Pos}{f:Value}{first:List Value}{args:List (Bool×Sem Value)}{Q:Value->Shared->Prop}(hplain:args.any (·.1)=false)
  (h:cQ g.M A (spliced args) (λvs aa=>fB g f aa/\cQ g.M A (call f (first++vs)) Q E aa) E s):cQ g.M A (callWith pos f first args []) Q E s:=by
 refine(?_:cQ g.M A (holding (f::first) (evalArgs f true args [])>>=λa=>_) Q E s)
 refine wpAny_bind (cS (cO (rG hplain (Q:=λx aa=>x.kw=[]/\fB g f aa/\cQ g.M A (call f (first++x.pos)) Q E aa) (cO h (λvs aa x=>⟨rfl,x⟩) λY Y x=>x)) (λx aa ae=>?_) λY Y x=>x))
 obtain⟨vs,kw⟩:=x
 refine e03 ae λhk h1 h2=>?_;clear ae
 have hk:kw=[]:=hk
 subst hk
 refine wpAny_bind (cU ?_)
 have tail:∀{t:Sem Value},cQ g.M A t Q E aa->cQ g.M A (t>>=λr=>holding [r] point>>=λY=>pure r) Q E aa:=
  λht=>wpAny_bind (cO ht (λr aj hr=>wpAny_bind (cS (jq (wpAny_pure hr)))) λY Y x=>x)
 have two:∀{b:Prop} [Decidable b] {v:Value},cQ g.M A (if b then call f (first++vs) []>>=λr=>holding [r] point>>=λY=>pure r else callMarked v f (first++vs) []>>=λr=>holding [r] point>>=λY=>pure r) Q E aa:=
  λ{b _ v}=>by by_cases e:b;exact kX e (tail h2);exact eS e (tail (we h2))
 rw[hplain]
 refine wpAny_bind (P (h1 A E _ λk=>?_))
 cases k
 .exact two
 .exact two
 .exact tail h2
 .exact tail (d5 h2)
end
end
section
open PySem.SeqAt
variable{g:Gb}{c c':Cf}
noncomputable def pV(g:Gb):Prop:=∀{n:Nat} {A:Around} {E:Value->Shared->Prop} {x:Nat} {args:List V} {vs:List Value} {c:Cf} {h:H} {s:Shared} {K:V->H->Bool},dz g c n A->cV g c h s->da g c args vs->builtin g.C x args h K=true->
  cQ g.M A (call (jI x) vs) (QV g c K) E s
noncomputable def wu(g:Gb):Prop:=∀{n:Nat} {r:Ev} {A:Around} {fr:Fr} {env:Env} {X:Nat->H->Bool} {o:Expr} {name:Str} {ap p:Pos} {args:List Expr} {a:V} {v:Value} {c:Cf} {h:H} {s:Shared} {K:V->H->Bool} {m:V->BF},eP g n r->dz g c n A->FR g c A fr env->cV g c h s->VR g c a v->
  eV args=true->args.length≤20->sO a (cd name) h (FK g.C)=some m->ap.endLine=p.line->AY r fr args h (λvs h=>iy g.C (m a vs h K)) X=true->
  cQ g.M A (methodCall o name ap p env v (args.length+([]:List Keyword).length) (backTo p (starEach args env)) (backToKw p (keywordEach [] env))) (QV g c K) (EX g c A X) s
noncomputable def wv(g:Gb):Prop:=∀{n:Nat} {A:Around} {i:Nat} {args:List V} {vs:List Value} {c:Cf} {h:H} {s:Shared} {outs:List dW} {K:V->H->Bool} {X:Nat->H->Bool},dz g c (n+1) A->cV g c h s->da g c args vs->g.C.quiet=false->g.C.P i args h=some outs->JS outs h K X=true->
  cQ g.M A (call (.ref (g.fa i)) vs) (QV g c K) (EX g c A X) s
noncomputable def Am(g:Gb):Prop:=∀{n:Nat} {A:Around} {E:Value->Shared->Prop} {i:Nat} {inf:gh} {args:List V} {vs:List Value} {c:Cf} {h:H} {s:Shared} {K:V->H->Bool},dz g c (n+1) A->cV g c h s->da g c args vs->g.C.C.get i=some inf->inf.exc=true->inf.init=0->BN i args h K=true->
  cQ g.M A (call (.ref (g.ca i)) vs) (QV g c K) E s
noncomputable def An(g:Gb):Prop:=∀{n:Nat} {r:Ev} {A:Around} {k:Nat} {args:List V} {vs:List Value} {c:Cf} {h:H} {s:Shared} {K:V->H->Bool} {X:Nat->H->Bool},eP g n r->dz g c (n+1) A->cV g c h s->da g c args vs->g.C.quiet=false->vg r k args h K X=true->
  cQ g.M A (call (.ref (c.ρ k)) vs) (QV g c K) (EX g c A X) s
noncomputable def pW(g:Gb):Prop:=∀{k:Nat} {c:Cf} {h:H} {s:Shared} {x:Nat} {b:Expr} {sc:List (Nat×NameKind)} {cs:List (Nat×Nat)},cV g c h s->h.get k=some (.lam x b sc cs)->fB g (.ref (c.ρ k)) s
noncomputable def pX(g:Gb):Prop:=∀{i:Nat} {inf:gh} {c:Cf} {h:H} {s:Shared},cV g c h s->g.C.C.get i=some inf->fB g (.ref (g.ca i)) s
structure mM(g:Gb):Prop where
 builtin:pV g
 meth:wu g
 tok:∀{c:Cf} {k:Nat} {v:Value},g.TK k c v->∃a,a∈g.C.toks k/\VR g c a v
 prim:wv g
 exc:Am g
 lam:An g
 keepCls:pX g
 keepLam:pW g
section
variable{n:Nat}{r:Ev}{A:Around}{fr:Fr}{env:Env}{X:Nat->H->Bool}{h:H}{s:Shared}
theorem Ao(F:FF g)(T:mM g){f:V}{v:Value}(I:cV g c h s)(hv:VR g c f v)(hk:vc g.C f h=true):fB g v s:=by
 cases f with
 |bi x=>cases (show v=jI x from hv);exact ou (P:=λv=>fB g v s) ⟨ec,ec,ec,ec,ec,dS,dS,dS,dS,dS,dS,dS,dS,tm⟩
 |fn i=>
  cases (show v=.ref (g.fa i) from hv)
  refine e11 (Option.isSome_iff_exists.mp hk) λfi hfi=>?_
  refine e21 (F.fn hfi) λfd o O=>?_
  exact lP (I.base _ _ O.at_) O.data
 |cls i=>
  cases (show v=.ref (g.ca i) from hv)
  exact(Option.isSome_iff_exists.mp hk).elim λinf hi=>T.keepCls I hi
 |ref k=>
  cases (show k<c.n/\v=.ref (c.ρ k) from hv).2
  exact(Option.isSome_iff_exists.mp hk).elim λl e=>cW e λo e1 e2=>T.keepLam I (e1.trans (congrArg some (IU e2)))
 |_=>exact ft hk
theorem DS(F:FF g)(T:mM g)(S:eP g n r){f:Expr}{args:List Expr}{p:Pos}{K:V->H->Bool}(oa:dz g c n A)(fe:FR g c A fr env)(I:cV g c h s)(hs:eV args=true)(hk:qY g.C r fr f args h K X=true)
  (harm:eval (.Call f args [] p) env=(do callWith p (<-eval f env) [] (backTo p (starEach args env)) (backToKw p (keywordEach [] env)))):
  cQ g.M A (eval (.Call f args [] p) env) (QV g c K) (EX g c A X) s:=by
 rw[harm]
 unfold qY at hk
 refine wpAny_bind (cO (S.ev oa fe I hk) (λv aa qq=>qq.elim λa ag ae ac af hv hK=>?_) λY Y x=>x)
 refine callWith_any (gv (fP hs)) (cO (mj S (oa.ext I ac) (fe.ext ac) af hK) (λvs aj qq=>qq.elim λl ao aq ak am hl hK=>?_) λY Y=>EX.mono ac)
 refine e02 (qt hK) λhc hK=>?_
 exact⟨Ao F T am (hv.ext ak) hc,dw (ac.trans ak) (S.cl ((oa.ext I ac).ext af ak) am (hv.ext ak) hl hK) λY Y=>QV.mono (ac.trans ak)⟩
theorem Ap{args:List Expr}{p:Pos}{env:Env}(hs:eV args=true)(hlen:args.length≤20):methodCallForm (args.length+([]:List Keyword).length) (backTo p (starEach args env)) (backToKw p (keywordEach [] env))=true:=by
 have h1:=gv (env:=env) (pos:=p) (fP hs)
 have h2:(backTo p (starEach args env)).all (λx=>!x.1)=true:=by
  rw[List.all_eq_true];intro x hx;rw[Xq] at h1;rw[Bool.eq_false_iff.mpr (h1 x hx)];rfl
 unfold methodCallForm
 rw[h2]
 have e:backToKw p (keywordEach [] env)=[]:=rfl
 rw[e]
 exact decide_eq_true (p:=args.length+0+0<30) (Xl hlen (by decide))
theorem qD{o:Expr}{m:Str}{ap p:Pos}{args:List Expr}{v:Value}{Q E}(hs:eV args=true)(hlen:args.length≤20)(hline:ap.endLine=p.line)
  (hg:∀pl,cQ g.M A (getMethod v m pl) (λx aa=>cQ g.M A (callWith p x.1 x.2 (backTo p (starEach args env)) (backToKw p (keywordEach [] env))) Q E aa) E s):
  cQ g.M A (methodCall o m ap p env v (args.length+([]:List Keyword).length) (backTo p (starEach args env)) (backToKw p (keywordEach [] env))) Q E s:=by
 unfold methodCall
 rw[Ap hs hlen]
 unfold calleeOf methodCallPos
 refine wpAny_bind (cS (cO (hg _) (λx aa hx=>?_) λY Y x=>x))
 rw[if_pos (show(!true||ap.endLine==p.line)=true by rw[hline];exact beq_self_eq_true _)]
 exact wpAny_bind (wpAny_pure hx)
theorem DT(W:SW g)(CL:CF g)(F:FF g)(T:mM g)(S:eP g n r){o:Expr}{m:Str}{ap p:Pos}{args:List Expr}{K:V->H->Bool}(oa:dz g c n A)(fe:FR g c A fr env)(I:cV g c h s)(hs:eV args=true)(hk:BI g.C r fr o m ap p args h K X=true):
  cQ g.M A (eval (.Call (.Attribute o m ap) args [] p) env) (QV g c K) (EX g c A X) s:=by
 rw[arm_eval_Call]
 refine iX hk λhline hlen hk=>wpAny_bind (gX fe.cls (cO (S.ev oa fe I hk) (λv aa qq=>qq.elim λa ag ae ac af hv hK=>wpAny_bind (cU ?_)) λY Y x=>x))
 refine fM hK (λfi hm hK=>cW hm λq hq hm=>dK hm λhno hm=>cW hm λinf hi hm=>dK hm λhex hm=>dK hm λhx hm=>?_) λY hK=>cP hK λf hf hK=>dw ac (T.meth S (oa.ext I ac) (fe.ext ac) af hv hs (eQ hlen) hf (cX hline) hK) λY Y=>QV.mono ac
 have hx:=en (dP hx)
 refine(IZ (P:=λv=>VR g ag a v->cQ g.M A (methodCall o m ap p env v _ _ _) _ _ aa) W af hq hv λy O hv9=>?_) hv
 obtain⟨d,mA,h1,h3⟩:=O
 obtain⟨xd,mN,hC,hN,g1,g2,g3,g4,g5,g6,g7⟩:=CL.cls hi (dP hex)
 obtain⟨f1,⟨y0,f2⟩,ob,fd,o1,o2,o3⟩:=g7 m fi hm hx
 have hsh:mA m=none:=by have:=h3 m hx;rw[Option.isNone_iff_eq_none.mp hno] at this;exact this
 obtain⟨hp1,gg,dr,tk,os⟩:=aa
 refine qD hs (eQ hlen) (cX hline) (λY=>P<|method_ofFk (af.base _ _ hC) (hN.keeps af.base) g1 g2 f1 (af.base _ _ o1) o2 f2 h1 hsh ?_)
 refine callWith_any (gv (fP hs)) (cO (mj S (oa.ext I ac) (fe.ext ac) af hK) (λvs aj qq=>qq.elim λl ao aq ak am hl hK=>?_) λY Y=>EX.mono ac)
 refine e02 (qt hK) λhc hK=>?_
 exact⟨lP (am.base _ _ o1) o3,dw (ac.trans ak) (S.cl ((oa.ext I ac).ext af ak) am (show VR g ao (.fn fi) _ from rfl) (da.cons (hv9.ext ak) hl) hK) λY Y=>QV.mono (ac.trans ak)⟩
end
end
section
open PySem.SeqAt
variable{g:Gb}{c c':Cf}
section
variable{n:Nat}{r:Ev}{A:Around}{fr:Fr}{env:Env}{X:Nat->H->Bool}{h:H}{s:Shared}
theorem K4(CL:CF g)(F:FF g)(T:mM g)(S:eP g n r){i:Nat}{args:List V}{vs:List Value}{K:V->H->Bool}(oa:dz g c (n+1) A)(I:cV g c h s)(hv:da g c args vs)(hk:BO g.C r i args h K X=true):
  cQ g.M A (call (.ref (g.ca i)) vs) (QV g c K) (EX g c A X) s:=
 cP hk λinf hi hk=>eL hk (λhk=>iX hk λhx h0 hk=>T.exc oa I hv hi hx (cX h0) hk) λhk=>cT hk λhx hk=>by
  obtain⟨xd,mN,hC,hN,g1,g2,g3,⟨g4,ob,o1,o2⟩,g5,g6,g7⟩:=CL.cls hi (dP hx)
  obtain⟨hp,gg,dr,tk,os⟩:=s
  refine i9 g5 (I.base _ _ hC) (hN.keeps I.base) g4 (I.base _ _ o1) o2 λh' x dx M=>?_
  refine e13 (C8 I M) λag ac af hx1=>?_
  exact cO (S.cl (oa.type.ext I ac) af (show VR g ag (.fn inf.init) _ from rfl) (da.cons hx1 (hv.ext ac)) hk) (λv aj qq=>qq.elim λa ao aq ak am hva hK=>cT hK λe hK=>
    ⟨(fO e▸hva:VR g ao .none v),_,ao,aq,ac.trans ak,am,hx1.ext ak,hK⟩) λY Y x=>EX.mono ac (EX.frames (A:=A.under (.builtin "type.__call__" ⟨.ref (g.ca i)::vs,[]⟩)) (A':=A) (congrArg (pushEnvs · A.frames) (yq (g.ca i) vs)).symm x)
theorem G9(T:mM g){args:List V}:∀{K:List V->Bool} {x:List V×Nat×List V} {vs:List Value},vf args=some x->da g c args vs->dG (g.C.toks x.2.1) (λv=>K (x.1++v::x.2.2))=true->∃l,da g c l vs/\K l=true:=by
 induction args with
 |nil=>exact λe=>nn e
 |cons a r ih=>
  intro K x vs e hv hk
  refine e23 hv λy ys zq81 h1 h2=>?_;clear hv
  cases zq81
  have e:du (iW a) (dq (vf r) λx=>some (a::x.1,x.2)) (λk=>some ([],k,r))=some x:=e
  cases q:iW a with
  |some k=>
   rw[q] at e
   cases e
   cases hZ q
   refine e12 (T.tok h1) λv m1 m2=>?_
   have hk:=c9 hk m1
   exact⟨v::r,.cons m2 h2,hk⟩
  |none=>
   rw[q] at e
   exact cW e λz e1 e2=>by
    cases e2
    refine e12 (ih (K:=λl=>K (a::l)) e1 h2 hk) λl m1 m2=>?_
    exact⟨a::l,.cons h1 m1,m2⟩
theorem N5(CL:CF g)(F:FF g)(T:mM g)(S:eP g n r){f:V}{fv:Value}{args:List V}{vs:List Value}{K:V->H->Bool}(oa:dz g c (n+1) A)(I:cV g c h s)(hf:VR g c f fv)(hv:da g c args vs)(hk:BP g.C r f args h K X=true):
  cQ g.M A (call fv vs) (QV g c K) (EX g c A X) s:=by
 cases f with
 |bi x=>cases (show fv=jI x from hf);exact T.builtin oa I hv hk
 |fn i=>
  cases (show fv=.ref (g.fa i) from hf)
  exact eW hk λhq hk=>fM hk (λouts e hk=>T.prim oa I hv hq e hk) λY hk=>fM hk (λx e hk=>Cs hk (λY hk=>ud F S oa I hv hk) λY hk=>
   (G9 T (K:=λl=>r.cl (V.fn i) l h K X) e hv hk).elim λl q=>S.cl (oa.less (VO n)) I hf q.1 q.2) λY hk=>ud F S oa I hv hk
 |cls i=>
  cases (show fv=.ref (g.ca i) from hf)
  exact eW hk λY hk=>K4 CL F T S oa I hv hk
 |ref k=>
  cases (show k<c.n/\fv=.ref (c.ρ k) from hf).2
  exact eW hk λhq hk=>T.lam S oa I hv hq hk
 |_=>exact ft hk
end
end
section
open PySem.SeqAt
variable{g:Gb}{c c':Cf}
noncomputable def ww(g:Gb):Prop:=∀{n:Nat} {r:Ev} {A:Around} {fr:Fr} {env:Env} {X:Nat->H->Bool} {ks:List (Option Expr)} {vs:List Expr} {p:Pos} {c:Cf} {h:H} {s:Shared} {K:V->H->Bool},ii g n r->dz g c n A->FR g c A fr env->cV g c h s->u5 r fr ks vs h K X=true->
  cQ g.M A (eval (.Dict ks vs p) env) (QV g c K) (EX g c A X) s
noncomputable def rH(g:Gb):Prop:=∀{A:Around} {E:Value->Shared->Prop} {x:Str} {ci:Nat} {m:List (Nat×V)} {bb:Bool} {b:V} {y d:Addr} {c:Cf} {h:H} {s:Shared} {K:V->H->Bool},cV g c h s->OR g c (.exc ci m bb) y d s.heap->qk g.C true ci (cd x) m=some b->K b h=true->
  cQ g.M A (getAttr (.ref y) x true) (QV g c K) E s
noncomputable def Aq(g:Gb):Prop:=∀{n:Nat} {A:Around} {E:Value->Shared->Prop} {e i:Expr} {p:Pos} {a b:V} {v w:Value} {c:Cf} {h:H} {s:Shared} {K:V->H->Bool},dz g c n A->cV g c h s->VR g c a v->VR g c b w->(JK g.C a b h λv=>K v h)=true->(∀lo hi st p,i≠.Slice lo hi st p)->
  cQ g.M A (do standAt p;let r<-subscripted i (<-getitemInPython v) v w;letTemporaryGo e v r;pure r) (QV g c K) E s
noncomputable def Ar(g:Gb):Prop:=∀{n:Nat} {r:Ev} {A:Around} {fr:Fr} {env:Env} {X:Nat->H->Bool} {e:Expr} {lo hi st:Option Expr} {p p':Pos} {c:Cf} {h:H} {s:Shared} {K:V->H->Bool},eP g n r->dz g c n A->FR g c A fr env->cV g c h s->qV g.C r fr e lo hi st h K X=true->
  cQ g.M A (eval (.Subscript e (.Slice lo hi st p') p) env) (QV g c K) (EX g c A X) s
noncomputable def wx(g:Gb):Prop:=∀{n:Nat} {r:Ev} {A:Around} {fr:Fr} {env:Env} {X:Nat->H->Bool} {elt:Expr} {gs:List Comprehension} {sc:Scope} {p:Pos} {c:Cf} {h:H} {s:Shared} {K:V->H->Bool},ii g n r->dz g c n A->FR g c A fr env->cV g c h s->ku g.C r fr elt gs sc h K X=true->
  cQ g.M A (eval (.ListComp elt gs sc p) env) (QV g c K) (EX g c A X) s
noncomputable def As(g:Gb):Prop:=∀{A:Around} {E:Value->Shared->Prop} {fr:Fr} {env:Env} {ar:Arguments} {b:Expr} {sc:Scope} {p:Pos} {c:Cf} {h:H} {s:Shared} {K:V->H->Bool},FR g c A fr env->cV g c h s->u9 fr ar b sc h K=true->
  cQ g.M A (eval (.Lambda ar b sc p) env) (QV g c K) E s
structure ue(g:Gb):Prop where
 dict:ww g
 attExc:rH g
 sub:Aq g
 slc:Ar g
 comp:wx g
 lam:As g
section
variable{n:Nat}{r:Ev}{A:Around}{fr:Fr}{env:Env}{X:Nat->H->Bool}{h:H}{s:Shared}
theorem K5(W:SW g)(CL:CF g)(T:ue g){E:Value->Shared->Prop}{a:V}{v:Value}{x:Str}{K:V->H->Bool}(I:cV g c h s)(hv:VR g c a v)(hk:JO g.C a (cd x) h (λw=>K w h)=true):cQ g.M A (getAttr v x true) (QV g c K) E s:=
 eL hk (λhk=>cP hk λp e0 hk=>IZ (P:=λv=>cQ g.M A (getAttr v x true) (QV g c K) E s) W I e0 hv λy O=>cP hk λb e hk=>P (vL CL I O e λw hw=>⟨b,c,h,.refl c,I.tok _,hw,hk⟩)) λhk=>
  kO (P:=λv=>cQ g.M A (getAttr v x true) (QV g c K) E s) W I hk hv λo p y d e ho hk=>cP hk λb e2 hk=>by
   refine e11 (NP e) λbb zq82=>?_
   cases zq82
   exact T.attExc I ho e2 hk
theorem rI(W:SW g)(CL:CF g)(T:ue g)(S:eP g n r){e:Expr}{a:Str}{p:Pos}{K:V->H->Bool}(oa:dz g c n A)(f:FR g c A fr env)(I:cV g c h s)(hk:r.ev fr e h (λv h=>JO g.C v (cd a) h λw=>K w h) X=true):
  cQ g.M A (eval (.Attribute e a p) env) (QV g c K) (EX g c A X) s:=by
 rw[arm_eval_Attribute]
 exact wpAny_bind (gX f.cls (cO (S.ev oa f I hk) (λv aa qq=>qq.elim λva ag ae ac af hv hK=>wpAny_bind (cU (wpAny_bind (cS
  (cO (K5 W CL T af hv hK) (λw aj q=>wpAny_bind (P<|wpAny_letTemporaryGo (wpAny_pure (QV.mono ac q)))) λY Y x=>x))))) λY Y x=>x))
theorem Ha{C:i5}{r:Ev}{fr:Fr}{e i:Expr}{h:H}{K:V->H->Bool}{X:Nat->H->Bool}(hi:Cv i=false):qW C r fr e i h K X=u6 C r fr e i h K X:=by
 cases i<;>first|rfl|cases hi
theorem K6(T:ue g)(S:eP g n r){e i:Expr}{p:Pos}{K:V->H->Bool}(oa:dz g c n A)(f:FR g c A fr env)(I:cV g c h s)(hk:qW g.C r fr e i h K X=true):
  cQ g.M A (eval (.Subscript e i p) env) (QV g c K) (EX g c A X) s:=by
 have go:(∀lo hi st p,i≠.Slice lo hi st p)->u6 g.C r fr e i h K X=true->cQ g.M A (eval (.Subscript e i p) env) (QV g c K) (EX g c A X) s:=λhns hk=>by
  rw[arm_eval_Subscript]
  refine wpAny_bind (cO (S.ev oa f I hk) (λv aa qq=>qq.elim λva ag ae ac af hv hK=>?_) λY Y x=>x)
  refine wpAny_bind (cS (cO (S.ev (oa.ext I ac) (f.ext ac) af hK) (λw aj qq=>qq.elim λvb ao aq ak am hw hK=>?_) λY Y=>EX.mono ac))
  exact cO (T.sub ((oa.ext I ac).ext af ak) am (hv.ext ak) hw hK hns) (λY Y=>QV.mono (ac.trans ak)) λY Y x=>x
 cases hi:Cv i with
 |true=>obtain⟨lo,hi,st,p,rfl⟩:=Kj hi;exact T.slc S oa f I hk
 |false=>exact go (λlo hi' st p q=>by rw[q] at hi;cases hi) (Ha hi▸hk)
theorem N6(G:GF g)(W:SW g)(CL:CF g)(F:FF g)(TC:mM g)(T:ue g)(SP:ii g n r)(S:eP g n r){e:Expr}{K:V->H->Bool}(oa:dz g c n A)(f:FR g c A fr env)(I:cV g c h s)(hk:BK g.C r fr e h K X=true):
  cQ g.M A (eval e env) (QV g c K) (EX g c A X) s:=by
 cases e with
 |Constant v k p=>exact P<|Const_ok I hk
 |Name x p=>exact P<|Name_ok G f I hk
 |BinOp a op b p=>exact DO W S oa f I hk
 |UnaryOp op a p=>exact wj W S oa f I hk
 |BoolOp op es p=>rw[arm_eval_BoolOp];exact K1 W S oa f I hk
 |Compare l ops rs p=>exact wl W S oa f I hk
 |IfExp t a b p=>exact DP S oa f I hk
 |Tuple es k p=>exact DQ S oa f I hk
 |List es p=>exact G6 S oa f I hk
 |Dict ks vs p=>exact T.dict SP oa f I hk
 |Attribute e a p=>exact rI W CL T S oa f I hk
 |Subscript e i p=>exact K6 T S oa f I hk
 |ListComp elt gens sc p=>exact T.comp SP oa f I hk
 |Lambda ar b sc p=>exact T.lam f I hk
 |Call fe args kw p=>
  cases kw with
  |nil=>
   refine cT (show gd (dU ([]:List Keyword)) (gd (eV args) (IG g.C r fr fe args p h K X))=true from hk) λY hk=>cT hk λhs hk=>?_
   cases fe with
   |Attribute o m ap=>exact DT W CL F TC S oa f I hs hk
   |_=>exact DS F TC S oa f I hs hk rfl
  |cons k r=>exact ft hk
 |_=>exact ft hk
theorem N7(W:SW g)(S:eP g n r){e:Expr}{K:Bool->H->Bool}(oa:dz g c n A)(f:FR g c A fr env)(I:cV g c h s)(hk:BL g.C r fr e h K X=true):
  cQ g.M A (isTrue e env (eval e env)) (QB g c K) (EX g c A X) s:=by
 have plain:(r.ev fr e h (λv h=>lF g.C v h λb=>K b h) X=true)->(isTrue e env (eval e env)=(do let v<-eval e env;standAt e.pos;holding [v] (PySem.truthy v)))->cQ g.M A (isTrue e env (eval e env)) (QB g c K) (EX g c A X) s:=λhk he=>
  kh (cO (S.ev oa f I hk) (λv aa qq=>qq.elim λva ag ae ac af hv hK=>P<|truthy_ok W af hv hK λb aj hb am=>⟨ag,ae,ac,am,hb⟩) λY Y x=>x) he
 cases e with
 |UnaryOp op a p=>
  cases op with
  |Not=>exact mi (cO (S.tr oa f I hk) (λb aa qq=>qq.elim λag ae ac af hK=>⟨ag,ae,ac,af,hK⟩) λY Y x=>x)
  |_=>exact plain hk rfl
 |BoolOp op es p=>exact jJ (K2 S oa f I hk)
 |IfExp t a b p=>
  rw[arm_isTrue_IfExp]
  refine wpAny_bind (cO (S.tr oa f I hk) (λk aa qq=>qq.elim λag ae ac af hK=>?_) λY Y x=>x)
  cases k with
  |true=>exact dw ac (S.tr (oa.ext I ac) (f.ext ac) af hK) λY Y=>QB.mono ac
  |false=>exact dw ac (S.tr (oa.ext I ac) (f.ext ac) af hK) λY Y=>QB.mono ac
 |Compare l ops rs p=>
  rw[arm_isTrue_Compare]
  exact wpAny_bind (cO (S.ev oa f I hk) (λv aa qq=>qq.elim λva ag ae ac af hv hK=>dw ac (rF W S (oa.ext I ac) (f.ext ac) af hv hK) λY Y=>QB.mono ac) λY Y x=>x)
 |_=>exact plain hk rfl
end
end
section
variable{g:Gb}{c c':Cf}
section
variable{n:Nat}{r:Ev}{A:Around}{fr:Fr}{env:Env}{X:Nat->H->Bool}{h:H}{s:Shared}
abbrev DU(g:Gb)(c:Cf)(A:Around)(X:Nat->H->Bool)(K:It->H->Bool)(x:Value)(s:Shared):Prop:=cQ g.M A (pyIter x) (QI g c K) (EX g c A X) s
theorem DV(W:SW g)(S:eP g n r){e:Expr}{K:It->H->Bool}(oa:dz g c n A)(f:FR g c A fr env)(I:cV g c h s)(hk:IA g.C r fr e h K X=true):cQ g.M A (eval e env) (DU g c A X K) (EX g c A X) s:=
 cO (S.ev oa f I hk) (λv aa qq=>qq.elim λa ag ae ac af hv hK=>cP hK λit hi hK=>cO (P (GC W af hv hi hK)) (λY Y=>QI.mono ac) λY Y x=>x) λY Y x=>x
def N8(g:Gb)(F:(It->H->Bool)->List V->H->Bool)(v:Value):Prop:=∀{c ag:Cf} {A:Around} {X:Nat->H->Bool} {ae:H} {aa:Shared} {l:List V} {vs:List Value} {K:It->H->Bool},dA c ag->cV g ag ae aa->da g ag l vs->F K l ae=true->
 cQ g.M A (call v vs) (DU g c A X K) (EX g c A X) aa
theorem Hb{C:Prop}(G:GF g){x:Str}{A:Around}(f:FR g c A fr env)(hb:JT g.C fr (cd x)=true)(q:(∀{K:V->Bool},K (.bi (cd x))=true->sM g.C fr (cd x) h K=true)->C):C:=
 cP hb λk k1 hb=>by
  cases k with
  |globalImplicit=>
   exact cP hb λv hg hb=>by
    cases v with
    |bi b=>
     exact q λ{K} hK=>by
      cases cX hb
      refine(?_:cR (fK fr (cd x)) _=true)
      rw[k1]
      refine(?_:cR (g.C.G.get (cd x)) K=true)
      rw[hg];exact hK
    |_=>exact ft hb
  |_=>exact ft hb
noncomputable def N9(a:V)(x:Nat):Bool:=match a with
 |.bi b=>Vn b x
 |_=>false
theorem K7(G:GF g)(S:eP g n r){x:Str}{p pos:Pos}{args:List Expr}{F:(It->H->Bool)->List V->H->Bool}{K:It->H->Bool}(oa:dz g c n A)(f:FR g c A fr env)(I:cV g c h s)(hs:eV args=true)(hb:JT g.C fr (cd x)=true)
  (hkeep:∀s',fB g (jI (cd x)) s') (hk:AY r fr args h (F K) X=true) (hF:N8 g F (jI (cd x))):cQ g.M A (eval (.Call (.Name x p) args [] pos) env) (DU g c A X K) (EX g c A X) s:=by
 rw[show eval (.Call (.Name x p) args [] pos) env=(do callWith pos (<-eval (.Name x p) env) [] (backTo pos (starEach args env)) (backToKw pos (keywordEach [] env))) from rfl]
 refine Hb (h:=h) G f hb λhl=>?_
 rw[eval_Name _ _ _ (sZ f (hl (K:=λY=>true) rfl))]
 refine wpAny_bind (wpAny_bind (cU (P (sY G f I (K:=λa=>N9 a (cd x)) (hl (VT _)) λa v hv ha=>?_))))
 cases a with
 |bi b=>
  cases cX ha
  cases (show v=jI (cd x) from hv)
  exact callWith_any (gv (fP hs)) (cO (mj S oa f I hk) (λvs aj qq=>qq.elim λl ao aq ak am hl hK=>⟨hkeep _,hF ak am hl hK⟩) λY Y x=>x)
 |_=>exact ft ha
theorem DW{m:Int}{vl:List V}{t:Tok}{K:It->H->Bool}{ag:Cf}{ae:H}{aa:Shared}(ac:dA c ag)(af:cV g ag ae aa)(hr:Bn m=some vl)(hK:K (.vals vl) ae=true):cQ g.M A (call (.type "range") [.int m t]) (DU g c A X K) (EX g c A X) aa:=
 dK hr λr1 hr=>dK hr λr2 hr=>by
  cases hr
  have r1:=of_decide_eq_true r1
  have r2:=of_decide_eq_true r2
  refine P<|call_range_1 ?_
  have am:cV g ag ae {aa with heap:=aa.heap.push {cls:=.type "range",data:=.fields #[.int 0 aa.toks,.int m t,.int 1 (aa.toks+1)]},toks:=aa.toks+1+1}:=(af.alloc _).tok _
  have e:(if(0:Int)<m then m - 0 else 0)=(m.toNat:Int):=by
   by_cases q:0<m
   .rw[if_pos q,Int.sub_zero,Wu (Wt q)]
   .rw[if_neg q,Int.toNat_of_nonpos (Int.not_lt.mp q)];rfl
  refine P<|wpAny_pyIter_range (IsRange.new ..) (small_one (by decide) (by decide) (by omega) (by omega)) ⟨.vals _,ag,ae,ac,am.alloc _,.mk _ _ [_] (λb hb=>List.mem_singleton.mp hb▸am.free (VC (VA _))) (.vals _ _ (.rng 0 _ (Vx _ rfl) ?_ ?_)),hK⟩
  .rw[rangeSize_one,e];exact VV _
  .rw[rangeSize_one,e,VH]
theorem DX:N8 g BA (.type "range"):=λ{c ag A X ae aa l vs K} ac af hv hK=>a1 hK hv λa v h1 hK=>kI (P:=λv=>cQ g.M A (call (.type "range") [v]) (DU g c A X K) (EX g c A X) aa) hK h1 λb m t hb hK=>cP hK λk e hK=>cP hK λvl hr hK=>DW ac af (hb.cst e▸hr) hK
theorem wy{c:Cf}{h:H}{s:Shared}(I:cV g c h s)(k:Nat):hH g c (s.heap.objs.size+k):=I.free (VC (Wr _ _))
theorem Hc(W:SW g):N8 g (BB g.C) (.type "enumerate"):=λ{c ag A X ae aa l vs K} ac af hv hK=>a1 hK hv λa v h1 hK=>by
 have fin:∀{si h'},K (.enum a 0) ae=true->SV g ag a si->IsEnum h' (aa.heap.objs.size+1) aa.heap.objs.size 0 .none->S1 h' aa.heap.objs.size 0 si->(∀x o,aa.heap.get? x=some o->h'.get? x=some o)->
   DU g c A X K (.ref (aa.heap.objs.size+1)) {aa with heap:=h'}:=λ{si h'} hK hsv he h1 hk=>
  P (wpAny_pyIter_enum he ⟨.enum a 0,ag,ae,ac,af.keep hk ⟨rfl,rfl,rfl⟩,.mk _ _ [aa.heap.objs.size+1,aa.heap.objs.size] (List.forall_mem_cons.mpr ⟨wy af 1,List.forall_mem_cons.mpr ⟨wy af 0,nofun⟩⟩) (.enum a 0 _ _ si .none (Nat.succ_ne_self _) hsv he h1),hK⟩)
 refine eL hK (λhK=>cP hK λl e hK=>?_) λhK=>cP hK λl e hK=>?_
 .cases d7 e
  refine e22 h1 λb t zq83 hr=>?_;clear h1
  cases zq83
  exact P (vQ λh' he hb hk=>fin hK (.byt _ b t hr) he hb hk)
 .have hp:gS a=true:=cW e λo e Y=>iJ e
  refine Go (P:=λv=>VR g ag a v->cQ g.M A (call (.type "enumerate") [v]) (DU g c A X K) (EX g c A X) aa) W af e h1 (λo x d e ho h1=>?_) h1
  cases gE e
  refine e12 ho λxs hl1 Y=>?_;clear ho
  exact P (call_enumerate_list hl1.isList λh' he hi Y hk=>fin hK (.list a x hp h1) he hi hk)
theorem K8(W:SW g):N8 g (BC g.C) (.type "zip"):=λ{c ag A X ae aa l vs K} ac af hv hK=>a2 hK hv λa v b w h1 h2 hK=>cP hK λl e hK=>by
 have hp2:gS b=true:=cW e λo e Y=>iJ e
 refine Go (P:=λw=>VR g ag b w->cQ g.M A (call (.type "zip") [v,w]) (DU g c A X K) (EX g c A X) aa) W af e h2 (λo x2 d e ho h2=>?_) h2
 cases gE e
 refine e12 ho λys hl2 Y=>?_;clear ho
 have v2:SV g ag b (.list x2):=.list b x2 hp2 h2
 have fin:∀{s1 h'},K (.zip a b 0) ae=true->SV g ag a s1->IsZip h' (aa.heap.objs.size+4) (aa.heap.objs.size+2) (aa.heap.objs.size+3) .none->IsPair h' (aa.heap.objs.size+2) (.ref aa.heap.objs.size) (.ref (aa.heap.objs.size+1))->
   IsPair h' (aa.heap.objs.size+3) .none .none->S1 h' aa.heap.objs.size 0 s1->S1 h' (aa.heap.objs.size+1) 0 (.list x2)->(∀x o,aa.heap.get? x=some o->h'.get? x=some o)->
   DU g c A X K (.ref (aa.heap.objs.size+4)) {aa with heap:=h'}:=λ{s1 h'} hK v1 z1 z2 z3 z4 z5 hk=>
  P (wpAny_pyIter_zip z1 ⟨.zip a b 0,ag,ae,ac,af.keep hk ⟨rfl,rfl,rfl⟩,.mk _ _ [aa.heap.objs.size+4,aa.heap.objs.size+2,aa.heap.objs.size+3,aa.heap.objs.size,aa.heap.objs.size+1]
   (List.forall_mem_cons.mpr ⟨wy af 4,List.forall_mem_cons.mpr ⟨wy af 2,List.forall_mem_cons.mpr ⟨wy af 3,List.forall_mem_cons.mpr ⟨wy af 0,List.forall_mem_cons.mpr ⟨wy af 1,nofun⟩⟩⟩⟩⟩)
   (.zip a b 0 _ _ _ _ _ ⟨UU _,z1,z2,⟨_,_,z3⟩,⟨s1,v1,z4⟩,⟨_,v2,z5⟩⟩),hK⟩)
 refine eL hK (λhK=>cP hK λl e hK=>?_) λhK=>cP hK λl e hK=>?_
 .cases eE e
  refine e23 h1 λt ts zq84 hT hr=>?_;clear h1
  cases zq84
  exact P (zS (af.tup _ _ hT) hl2.isList λh' z1 z2 z3 z4 z5 hk=>fin hK (.tup _ ts t hT hr) z1 z2 z3 z4 z5 hk)
 .have hp:gS a=true:=cW e λo e Y=>iJ e
  refine Go (P:=λv=>VR g ag a v->cQ g.M A (call (.type "zip") [v,.ref x2]) (DU g c A X K) (EX g c A X) aa) W af e h1 (λo x d e ho h1=>?_) h1
  cases gE e
  refine e12 ho λxs hl1 Y=>?_;clear ho
  exact P (call_zip_2 hl1.isList hl2.isList λh' z1 z2 z3 z4 z5 Y hk=>fin hK (.list a x hp h1) z1 z2 z3 z4 z5 hk)
theorem DY(W:SW g){x:Nat}{F:(It->H->Bool)->List V->H->Bool}(h:BD g.C x=some F):(∀s',fB g (jI x) s')/\N8 g F (jI x):=by
 unfold BD at h
 cases e1:Vn x qP with
 |true=>rw[e1] at h;cases h;cases cX e1;exact⟨λY=>dS,DX⟩
 |false=>
  rw[e1] at h
  cases e2:Vn x jd with
  |true=>rw[e2] at h;cases h;cases cX e2;exact⟨λY=>dS,Hc W⟩
  |false=>
   rw[e2] at h
   cases e3:Vn x Bd with
   |true=>rw[e3] at h;cases h;cases cX e3;exact⟨λY=>dS,K8 W⟩
   |false=>rw[e3] at h;exact nn h
theorem DZ{e:Expr}{p:Str×List Expr}(h:IB e=some p):∃q pos,e=.Call (.Name p.1 q) p.2 [] pos:=by
 cases e with
 |Call f args kw pos=>
  exact dK h λh0 h=>cW h λx e h=>by
   cases kw with
   |cons _ _=>exact ft h0
   |nil=>obtain⟨q,rfl⟩:=jF e;cases h;exact⟨q,pos,rfl⟩
 |_=>exact nn h
theorem ld(G:GF g)(W:SW g)(S:eP g n r){e:Expr}{K:It->H->Bool}(oa:dz g c n A)(f:FR g c A fr env)(I:cV g c h s)(hk:nL g.C r fr e h K X=true):
  A.handled=none/\(∀x,foldedSetIterable e env x=pure x)/\cQ g.M A (eval e env) (DU g c A X K) (EX g c A X) s:=
 eW hk λhq hk=>⟨oa.hh hq,fM hk (λp e hk=>cW e λq e1 e=>cW e λF e2 e=>dK e λhb e=>cT hk λhs hk9=>by
   cases e
   refine e21 (DZ e1) λqp pos zq85=>?_
   cases zq85
   refine e02 (DY W e2) λk1 k2=>?_
   exact⟨yo nofun,K7 G S oa f I hs hb k1 hk9 k2⟩) λY hk=>⟨yo λes k p q=>by
   subst q
   have hk:r.ev fr (.Set es k p) h _ X=true:=hk
   rw[S.set] at hk;exact ft hk,DV W S oa f I hk⟩⟩
end
end
section
variable{g:Gb}{c c':Cf}
section
variable{n:Nat}{r:Ev}{A:Around}{fr:Fr}{env:Env}{X:Nat->H->Bool}{h:H}{s:Shared}
theorem ii.pin(S:ii g n r)(L:List Addr)(hp:Heap):eP (g.pin L hp) n r:=S _ λY Y q=>.inl q
theorem ii.self(S:ii g n r):eP g n r:=S g.R λY Y q=>q
theorem ju(oa:dz g c n A)(f:FR g c A fr env)(ac:dA c c'){e:Value}{s':Shared}(x:EX g c' A X e s'):notedBy g.M A env (λe s'=>dT g c A env X e s') e s':=
 PySem.wpAny_mono (xY (oa.up ac) (f.ext ac) x) (λY Y y=>dT.mono ac y) λY Y y=>dT.mono ac y
theorem wz(W:SW g){t:Expr}{it:It}{itv:Value}{b:List Stmt}{nx:Nx}{R:Result->Shared->Prop}(hq:A.handled=none)(I:cV g c h s)(hit:pD g c s.heap it itv)(ht:sQ it t=true)(hn:next g.C it h=some nx)
  (hs:nx=.stop->∀s',cV g c h s'->R (.ok .next) s')
  (hm:∀v it',nx=.more v it'->∀x ao L aj,dA c ao->cV (g.pin L aj.heap) ao h aj->VR (g.pin L aj.heap) ao v x->(∀aC ax aB,dA ao aC->cV (g.pin L aj.heap) aC ax aB->pD g aC aB.heap it' itv)->
   cQ g.M A (assign t env x) (λY av=>cQ g.M A (execs b env) (λfl aB=>match fl with
    |.next=>c6 g.M A (.forLoop t itv b [] env) R aB
    |.ret v=>R (.ok (.ret v)) aB
    |_=>False) (notedBy g.M A env λe s'=>R (.error e) s') av) (notedBy g.M A env λe s'=>R (.error e) s') aj):
  c6 g.M A (.forLoop t itv b [] env) R s:=by
 refine c8 (λY Y=>rfl) ?_
 show cQ g.M A ((forTurn t itv b [] env).onRaise (λx=>do noteFrame x env;theTreesLotGoes x)) _ _ s
 refine gV ?_
 delta forTurn
 refine wpAny_bind (cU (wpAny_bind (dV (P<|next_ok W (t:=t) hq I hit ht hn λov aa nr=>?_))))
 cases nr with
 |stop _ af=>
  refine wpAny_pure ⟨rfl,c8 (λY Y=>rfl) ?_⟩
  show cQ g.M A ((do
   let f<-(execs [] env)
   pure (Fin.done f)).onRaise (λx=>do noteFrame x env;theTreesLotGoes x)) _ _ aa
  exact gV (wpAny_bind (eY (wpAny_pure (hs rfl aa af))))
 |more v it' x _ hm'=>
  refine wpAny_bind (cO (P (hm' _)) (λY aj qq=>?_) λY Y x=>x)
  obtain⟨ao,L,ak,am,hv,hL,hS⟩:=qq
  refine wpAny_bind (cO (hm v it' rfl x ao L aj ak (am.pin hL) (VR.pin.mpr hv) λaC ax aB e aF=>hS.back e hL aF) (λY av q=>wpAny_bind (cO q (λfl aB x=>?_) λY Y x=>x)) λY Y x=>x)
  cases fl with
  |next=>exact wpAny_pure ⟨rfl,x⟩
  |ret v=>exact wpAny_pure x
  |brk=>exact x.elim
  |cont=>exact x.elim
theorem Oa(W:SW g)(S:ii g n r){t:Expr}{it:It}{itv:Value}{b:List Stmt}{K:gf->H->Bool}(hq:A.handled=none)(oa:dz g c n A)(f:FR g c A fr env)(I:cV g c h s)(hit:pD g c s.heap it itv)(hk:BX g.C r fr t it b h K X=true):
  c6 g.M A (.forLoop t itv b [] env) (QW g c A env X K) s:=
 cT hk λht hk=>cP hk λnx hn hk=>wz W hq I hit ht hn (λe aa af=>by
  subst e
  exact⟨c,h,.refl c,af,hk⟩) λv it' e x ao L aj ak am hv hb=>by
  subst e
  have hk:r.asg fr t v h (λh=>r.ex fr b h (II r fr t it' b K X) X) X=true:=hk
  refine cO ((S.pin L aj.heap).asg (oa.up ak).pin (f.ext ak).pin am hv hk) (λY av qq=>qq.elim λaA aw au az hK=>?_) λe s' x=>ju oa f ak x.unpin
  refine cO ((S.pin L aj.heap).ex ((oa.up ak).pin.up au) ((f.ext ak).pin.ext au) az hK) (λfl aB x=>?_) λe s' x=>ju oa f (ak.trans au) x.unpin
  cases fl with
  |next=>exact QU.elim x λaC ax aD aF hK=>
          have ee:=ak.trans (au.trans aD)
          dC (S.self.fo (oa.up ee) (f.ext ee) aF.unpin (hb aC ax aB (au.trans aD) aF) hK) λY Y y=>QW.mono ee y
  |ret v=>exact QV.elim x λa aC ax aD aF hv hK=>⟨a,aC,ax,ak.trans (au.trans aD),aF.unpin,VR.pin.mp hv,hK⟩
  |brk=>exact x.elim
  |cont=>exact x.elim
end
end
section
variable{g:Gb}{c c':Cf}
section
variable{n:Nat}{r:Ev}{A:Around}{fr:Fr}{env:Env}{X:Nat->H->Bool}{h:H}{s:Shared}{E:Value->Shared->Prop}
theorem Hd{Q:Bool->Shared->Prop}(ifs:List Expr)(h:Q false s):cQ g.M A (forIn ifs false λc r=>if r=true then do let ok<-isTrue c env (eval c env);pure (ForInStep.yield ok) else pure (ForInStep.yield r)) Q E s:=by
 induction ifs with
 |nil=>exact wpAny_pure h
 |cons _ ifs ih=>rw[VZ];exact wpAny_bind (wpAny_pure ih)
theorem La(S:eP g n r){ifs:List Expr}:∀{c:Cf} {h:H} {s:Shared} {K:Bool->H->Bool},dz g c n A->FR g c A fr env->cV g c h s->MJ r fr .And ifs h K X=true->
  cQ g.M A (forIn ifs true λc r=>if r=true then do let ok<-isTrue c env (eval c env);pure (ForInStep.yield ok) else pure (ForInStep.yield r)) (QB g c K) (EX g c A X) s:=by
 induction ifs with
 |nil=>exact λ{c h s K} oa f I hk=>wpAny_pure ⟨c,h,.refl c,I,hk⟩
 |cons e es ih=>
  intro c h s K oa f I hk
  rw[VZ]
  refine wpAny_bind (kX rfl (wpAny_bind (cO (S.tr oa f I hk) (λb aa qq=>qq.elim λag ae ac af hK=>wpAny_pure ?_) λY Y x=>x)))
  cases b with
  |true=>exact dw ac (ih (oa.up ac) (f.ext ac) af hK) λY Y=>QB.mono ac
  |false=>exact Hd es ⟨ag,ae,ac,af,hK⟩
theorem Ob(W:SW g)(S:ii g n r){elt t ite:Expr}{ifs:List Expr}{sc:Scope}{p:Pos}{it:It}{itv:Value}{acc:Nat}{K:H->Bool}(hq:A.handled=none)(oa:dz g c n A)(f:FR g c A fr env)(I:cV g c h s)(hit:pD g c s.heap it itv)(ha:acc<c.n)
  (hk:BY g.C r fr elt t ifs it acc h K X=true):
  c6 g.M A (.compLoop (.ListComp elt [⟨t,ite,ifs,0⟩] sc p) 0 itv (.ref (c.ρ acc)) env) (IR g c A env X K) s:=
 cT hk λht hk=>cP hk λnx hn hk=>by
  refine c8 (λY Y=>rfl) ?_
  show cQ g.M A ((compTurn (.ListComp elt [⟨t,ite,ifs,0⟩] sc p) 0 itv (.ref (c.ρ acc)) env).onRaise (λx=>do noteFrame x env;theTreesLotGoes x)) _ _ s
  refine gV ?_
  rw[compTurn_list]
  refine wpAny_bind (cU (wpAny_bind (P<|next_ok W (t:=t) hq I hit ht hn λov aa nr=>?_)))
  cases nr with
  |stop _ af=>exact wpAny_pure (show IR g c A env X K (.ok .next) aa from⟨rfl,c,h,.refl c,af,hk⟩)
  |more v it' x _ hm=>
   have hk:r.asg fr t v h (λh=>MJ r fr .And ifs h (Ny r fr elt t ifs it' acc K X) X) X=true:=hk
   refine wpAny_bind (cO (P (hm _)) (λY aj qq=>?_) λY Y x=>x)
   obtain⟨ao,L,ak,am,hv,hL,hS⟩:=qq
   have S':=S.pin L aj.heap
   have fin:∀aC ax aB,dA ao aC->cV (g.pin L aj.heap) aC ax aB->r.co fr elt t ifs it' acc ax K X=true->
     c6 g.M A (.compLoop (.ListComp elt [⟨t,ite,ifs,0⟩] sc p) 0 itv (.ref (c.ρ acc)) env) (IR g c A env X K) aB:=λaC ax aB aD aF hK=>by
    have ee:=ak.trans aD
    have:=S.self.co (elt:=elt) (t:=t) (ite:=ite) (ifs:=ifs) (sc:=sc) (p:=p) (oa.up ee) (f.ext ee) aF.unpin (hS.back aD hL aF) (Vt ha ee.n) hK
    rw[ee.ρ _ ha] at this
    exact dC this λY Y y=>IR.mono ee y
   refine wpAny_bind (cO (S'.asg (oa.up ak).pin (f.ext ak).pin (am.pin hL) (VR.pin.mpr hv) hk) (λY av qq=>qq.elim λaA aw au az hK=>?_) λe s' x=>ju oa f ak x.unpin)
   refine wpAny_bind (cO (La S' ((oa.up ak).pin.up au) ((f.ext ak).pin.ext au) az hK) (λok aB qq=>qq.elim λaC ax aD aF hK=>?_) λe s' x=>ju oa f (ak.trans au) x.unpin)
   have e24:=au.trans aD
   cases ok with
   |false=>exact eS Vs (wpAny_pure ⟨rfl,fin aC ax aB e24 aF hK⟩)
   |true=>
    have hK:r.ev fr elt ax (λw h=>q9 acc w h λh=>r.co fr elt t ifs it' acc h K X) X=true:=hK
    refine kX rfl (wpAny_bind (wpAny_bind (cO (S'.ev ((oa.up ak).pin.up e24) ((f.ext ak).pin.ext e24) aF hK) (λw aR qq=>qq.elim λa bP aG aS aO hw hK=>?_) λe s' x=>ju oa f (ak.trans e24) x.unpin)))
    have er:=((ak.trans e24).trans aS).ρ acc ha
    rw[<-er]
    refine wpAny_bind (cO (P<|list_push (g:=g.pin L aj.heap) aO hw hK) (λY aX qq=>qq.elim λcH bn aT a9 hK=>wpAny_pure (wpAny_pure ?_)) λY Y x=>x)
    rw[er]
    exact⟨rfl,fin cH bn aX (e24.trans (aS.trans aT)) a9 hK⟩
end
end
section
variable{g:Gb}{c c':Cf}
section
variable{n:Nat}{r:Ev}{A:Around}{fr:Fr}{env:Env}{X:Nat->H->Bool}{h:H}{s:Shared}{E:Value->Shared->Prop}
def CP(g:Gb)(A:Around)(E:Value->Shared->Prop)(use:Option (Value->Sem Unit))(Q:Value->Shared->Prop)(acc:Value)(cenv:Env)(r:Result)(s':Shared):Prop:=
 match r,use with
 |.ok _,none=>∃m,s'.heap.Ns cenv.locals m/\∀h' m',h'.Ns cenv.locals m'->VB cenv.locals s'.heap h'->Q acc {s' with heap:=h'}
 |.ok _,some u=>cQ g.M A (u acc) (λY s''=>∃m,s''.heap.Ns cenv.locals m/\∀h' m',h'.Ns cenv.locals m'->VB cenv.locals s''.heap h'->Q .none {s'' with heap:=h'}) E s'
 |.error x,_=>∃m,s'.heap.Ns cenv.locals m/\∀h' m',h'.Ns cenv.locals m'->VB cenv.locals s'.heap h'->cQ g.M A (passOn "comprehension.variables-let-go" x cenv:Sem Value) Q E {s' with heap:=h'}
theorem At{e:Expr}{scope:Scope}{pos:Pos}{newAcc first:Sem Value}{gg:Comprehension}{gs:List Comprehension}{cl:List (Str×Addr)}{use:Option (Value->Sem Unit)}{Q:Value->Shared->Prop}
  (hcl:clausesOf e=gg::gs) (hs:∀x,foldedSetIterable gg.iter env x=pure x) (hclos:closureFor scope env=pure cl) (hkind:scope.kind=.function) (hnames:∀x∈scope.names,x.2=.local->scope.names.lookup x.1=some .local)
  (h:cQ g.M A first (λx aa=>cQ g.M A (pyIter x) (λit aj=>cQ g.M A newAcc (λacc av=>cQ g.M A (newFunctionEnv scope env.globals cl [] env.qual none .none (some env)) (λcenv aB=>
    c6 g.M A (.compStart e 0 it acc {cenv with scope:=relabel scope env}) (CP g A E use Q acc {cenv with scope:=relabel scope env}) aB) E av) E aj) E aa) E s):
  cQ g.M A (comprehension e scope env pos newAcc false first use) Q E s:=by
 unfold comprehension
 rw[hclos,hcl]
 refine wpAny_bind (cO h (λx aa ae=>wpAny_bind (cU (wpAny_bind (wpAny_of_eq (hs x) (wpAny_bind (cS (cO ae (λit aj aq=>
  pS (wpAny_bind (cO aq (λacc av aw=>wpAny_bind (wpAny_pure (wpAny_bind (cO aw (λcenv aB ax=>?_) λY Y x=>x)))) λY Y x=>x)))
   λY Y x=>x))))))) λY Y x=>x)
 dsimp only
 have loc:∀x,x∈scope.names->x.2=.local->Env.kindOf {cenv with scope:=relabel scope env} x.1=some .local:=λx hx hl=>lookup_relabel_local (hnames x hx hl)
 refine cS (wpAny_bind (hU (cS (qC (dC ax λr s' hr=>?_) nn))))
 have inN:∀{p:Str×NameKind->Bool} {x},x∈(scope.names.filter p).reverse->x∈scope.names:=λhx=>(List.mem_filter.mp (List.mem_reverse.mp hx)).1
 cases r with
 |ok f=>
  cases use with
  |none=>
   refine e12 hr λm hn hr=>?_
   exact wpAny_bind (cS (P<|wpAny_comp_letGo (cenv:={cenv with scope:=relabel scope env}) hkind _ s' m (λx hx hl=>loc x (inN hx) hl) hn λh' m' hn' hs'=>wpAny_pure (hr h' m' hn' hs')))
  |some u=>
   refine wpAny_bind (wpAny_rule (wpAny_bind (cS (cO hr (λY s'' hr'=>?_) λY Y x=>x))))
   refine e12 hr' λm hn hr'=>?_
   exact wpAny_bind (P<|wpAny_comp_letGo (cenv:={cenv with scope:=relabel scope env}) hkind _ s'' m (λx hx hl=>loc x ((List.mem_append.mp hx).elim (λq=>inN (List.mem_of_mem_drop q)) λq=>inN (List.mem_of_mem_take q)) hl) hn λh' m' hn' hs'=>wpAny_pure (hr' h' m' hn' hs'))
 |error x=>
  have hr:∃m,s'.heap.Ns cenv.locals m/\∀h' m',h'.Ns cenv.locals m'->VB cenv.locals s'.heap h'->cQ g.M A (passOn "comprehension.variables-let-go" x {cenv with scope:=relabel scope env}:Sem Value) Q E {s' with heap:=h'}:=by cases use<;>exact hr
  refine e12 hr λm hn hr=>?_
  exact wpAny_bind (cS (P<|wpAny_comp_letGo (cenv:={cenv with scope:=relabel scope env}) hkind _ s' m (λx hx hl=>loc x (inN hx) hl) hn λh' m' hn' hs'=>hr h' m' hn' hs'))
end
end
section
variable{g:Gb}{c c':Cf}
section
variable{n:Nat}{r:Ev}{A:Around}{fr:Fr}{env:Env}{X:Nat->H->Bool}{h:H}{s:Shared}{E:Value->Shared->Prop}
theorem He{gens:List Comprehension}{p:Expr×Expr×List Expr}(h:Nm gens=some p):gens=[⟨p.1,p.2.1,p.2.2,0⟩]:=by
 cases gens with
 |nil=>exact nn h
 |cons q r=>
  exact dK h λh1 h=>dK h λh2 h=>by
   cases r with
   |cons _ _=>exact ft h1
   |nil=>
    obtain⟨a,b,c,d⟩:=q
    cases (show d=0 from of_decide_eq_true h2)
    cases h
    rfl
theorem Au{elt tgt:Expr}{ifs:List Expr}{sc:List (Nat×NameKind)}{K:V->H->Bool}{i:It}:u8 r fr elt tgt ifs sc K X i h=Prod.rec (motive:=λY=>Bool) (λfr' h'=>d9 fr' h' (λh'=>r.co ⟨zA fr sc,fr'.ns,fr'.cells,false⟩ elt tgt ifs i h.length h' (iC fr'.ns (K (.ref h.length))) (λk=>iC fr'.ns (X k))) [] []) (eA false sc fr.cells (h.push (.list []))):=by
 unfold u8 Bv
 cases eA false sc fr.cells (h.push (.list [])) with
 |mk a b=>rfl
theorem qE(G:GF g)(W:SW g)(S:ii g n r){elt:Expr}{gs:List Comprehension}{sc:Scope}{p:Pos}{use:Option (Value->Sem Unit)}{K:V->H->Bool}{Q:Value->Shared->Prop}(oa:dz g c n A)(f:FR g c A fr env)(I:cV g c h s)(hk:ku g.C r fr elt gs sc h K X=true)
  (hq:∀ns acc cenv ag ae aa,dA c ag->cV g ag ae aa->fr.ns≠ns->acc<ag.n->iC ns (K (.ref acc)) ae=true->¬ag.N ns->cenv.locals=ag.ρ ns->CP g A (EX g c A X) use Q (.ref (ag.ρ acc)) cenv (.ok .next) aa):
  cQ g.M A (comprehension (.ListComp elt gs sc p) sc env (firstIterPos gs p) (newList []) (firstAsync gs) (firstIter gs env) use) Q (EX g c A X) s:=by
 refine cP hk λp1 e0 hk=>Fq hk λhfree hloc hsc hk9=>?_
 obtain⟨tgt,it,ifs⟩:=p1
 have hsc:=qu hsc
 cases He e0
 refine e12 (oH f hfree) λcl hcl hCR=>?_
 refine e03 (ld G W S.self oa f I hk9) λhh hs hw=>?_
 refine At (gg:=⟨tgt,it,ifs,0⟩) (gs:=[]) rfl hs hcl hsc.k (Db hloc) (cO hw (λx aa ae=>cO ae (λitv aj ⟨i,ag,ae,ac,af,hit,hK⟩=>?_) λY Y x=>x) λY Y x=>x)
 refine e12 hit.hold λL hL hold=>?_
 refine P<|wpAny_newList ?_
 refine e13 (kH (g:=g.pin L aj.heap) (l:=[]) (af.pin hL) da.nil (V6 _)) λao ak am hacc=>?_
 rw[f.glob]
 have ha1:ae.length<ao.n:=hacc.1
 have ha2:ao.ρ ae.length=aj.heap.objs.size:=(Value.ref.inj hacc.2).symm
 refine P<|frame_ok (g:=g.pin L aj.heap) (h:=ae.push (.list [])) (lm:=false) (around:=some env) (cs0:=fr.cells) (vs:=[]) (binds:=[])
  (K:=λfr' h'=>r.co ⟨zA fr (dH sc.names),fr'.ns,fr'.cells,false⟩ elt tgt ifs i ae.length h' (iC fr'.ns (K (.ref ae.length))) (λk=>iC fr'.ns (X k)))
  hsc.k (λq=>nn (hsc.cls.symm.trans q)) hsc.dbg (λq=>nn (hsc.cdi.symm.trans q)) (λo q=>by cases q;exact f.bi) (λq=>ft q) ((hCR.ext ac).ext ak) am da.nil ?_ λfr' env' aA aw av Z hK=>?_
 .exact Au.symm.trans hK
 .have au:=Z.e
  have az:=Z.i
  refine e11 Z.env λcells hen=>?_
  have ee:dA c aA:=ac.trans (ak.trans au)
  have aQ:=Z.f A (f.lk.elim λe0 q=>q.elim λl q=>⟨e0,l,q.1,by rw[hen];exact q.2⟩)
  have hloc3:env'.locals=aA.ρ fr'.ns:=aQ.loc
  have hfrm:env'.frame=env.frame:=by rw[hen];rfl
  have hscp:env'.scope=sc:=by rw[hen];rfl
  have fc:FR g aA A ⟨zA fr (dH sc.names),fr'.ns,fr'.cells,false⟩ {env' with scope:=relabel sc env}:=by
   refine⟨hsc.k,zV f hfree,aQ.ins,aQ.loc,λx j hx hd hj=>aQ.cells x j hx ?_ hj,aQ.glob,aQ.bi,λq=>nn ((iQ hsc.cls).symm.trans q),show(sc.kind==.module&&_)=false by rw[hsc.k];rfl,iQ hsc.dbg,λq=>nn ((iQ hsc.cdi).symm.trans q),aQ.lk,λq=>ft q⟩
   refine(?_:env'.scope.names.lookup x=some .cell\/env'.scope.names.lookup x=some .free)
   rw[hscp]
   exact hd.elim (λhd=>(iP hd).imp id λq=>q.2) λhd=>(iP hd).elim .inr λq=>NameKind.noConfusion q.1
  have hNn:¬aA.N fr'.ns:=λq=>nn' (Z.N.mp q)
  have keep:∀b o,aj.heap.get? b=some o->av.heap.get? b=some o:=λb o q=>Z.kp rfl b o (Vp _ q)
  have cb:=hold aA aw av (ak.trans au) az keep
  have ha3:ae.length<aA.n:=Vt ha1 au.n
  have hnsne:fr.ns≠fr'.ns:=Z.ns▸(H.length_push .. ▸VM (V2 (af.len▸Vt f.ins ac.n)))
  have hacc3:(Value.ref aj.heap.objs.size)=.ref (aA.ρ ae.length):=by rw[au.ρ _ ha1,ha2]
  have go:c6 g.M A (.compLoop (.ListComp elt [⟨tgt,it,ifs,0⟩] sc p) 0 itv (.ref aj.heap.objs.size) {env' with scope:=relabel sc env}) (CP g A (EX g c A X) use Q (.ref aj.heap.objs.size) {env' with scope:=relabel sc env}) av:=by
   rw[hacc3]
   refine dC (S.self.co (oa.up ee) fc az.unpin cb ha3 hK) λq s' y=>?_
   cases q with
   |ok fl=>
    obtain⟨rfl,aC,ax,aD,aF,hK⟩:=y
    rw[<-aD.ρ _ ha3]
    exact hq _ _ _ aC ax s' (ee.trans aD) aF hnsne (Vt ha3 aD.n) hK (λq=>hNn (aD.M _ aQ.ins q)) (hloc3.trans (aD.ρ _ aQ.ins).symm)
   |error e=>
    have:=Dd (Q:=Q) (f.ext ee) aQ.ins hNn hloc3 hfrm (dT.env y rfl)
    refine e12 this λm h1 h2=>?_;clear this
    have hh:∃m,s'.heap.Ns env'.locals m/\∀h' m',h'.Ns env'.locals m'->VB env'.locals s'.heap h'->cQ g.M A (PySem.passOn "comprehension.variables-let-go" e {env' with scope:=relabel sc env}:Sem Value) Q (EX g c A X) {s' with heap:=h'}:=
     ⟨m,h1,λh' m' a b=>cO (P (h2 h' m' a b)) (λY Y x=>x) λY Y x=>EX.mono ee x⟩
    cases use<;>exact hh
  exact iT go (P<|iter_self cb go)
theorem Hf(G:GF g)(W:SW g)(S:ii g n r){elt:Expr}{gs:List Comprehension}{sc:Scope}{p:Pos}{K:V->H->Bool}(oa:dz g c n A)(f:FR g c A fr env)(I:cV g c h s)(hk:ku g.C r fr elt gs sc h K X=true):
  cQ g.M A (eval (.ListComp elt gs sc p) env) (QV g c K) (EX g c A X) s:=by
 rw[eval_ListComp]
 refine qE G W S oa f I hk λns acc cenv ag ae aa ac af hne ha hK hN hl=>lT hK λm hm hK=>?_
 refine(?_:∃m,_)
 rw[hl]
 exact(af.nsAt hm).elim λmm hns=>⟨mm,hns,λh' m' a b=>⟨.ref acc,ag,_,ac,af.let_go hm hN a b,rk ha rfl,hK⟩⟩
theorem wA(G:GF g)(W:SW g)(S:ii g n r){elt:Expr}{gs:List Comprehension}{sc:Scope}{p px:Pos}{x:Str}{K:V->H->Bool}{K':H->Bool}(oa:dz g c n A)(f:FR g c A fr env)(I:cV g c h s)(hx:env.kindOf x=some .local)
  (hk:ku g.C r fr elt gs sc h K X=true) (hK':∀v h,K v h=true->gy fr (cd x) v h K'=true):
  cQ g.M A (evalThenUse (.ListComp elt gs sc p) env (assign (.Name x px) env)) (QU g c K') (EX g c A X) s:=by
 have e:evalThenUse (.ListComp elt gs sc p) env (assign (.Name x px) env)=(do let _<-comprehension (.ListComp elt gs sc p) sc env (firstIterPos gs p) (newList []) (firstAsync gs) (firstIter gs env) (some (assign (.Name x px) env))):=rfl
 rw[e]
 refine wpAny_bind (qE (Q:=λY s'=>cQ g.M A (pure ()) (QU g c K') (EX g c A X) s') G W S oa f I hk λns acc cenv ag ae aa ac af hne ha hK hN hl=>?_)
 refine lT hK λm hm hK=>iM (f.ext ac) hx (hK' _ _ hK) λm0 hx0 hm0 hK=>?_
 refine(?_:cQ g.M A (assign (.Name x px) env (.ref (ag.ρ acc))) _ _ aa)
 have aH:=f.ext ac
 rw[H.get_set,if_neg (Ne.symm hne)] at hm0
 obtain⟨hlt,mm,hns,hnr⟩:=af.obj _ _ hm0
 refine gW (wpAny_storeName_local hx (aH.loc▸hns) (λh' hn' hs=>?_) (show(env.scope.kind==.class||(env.scope.kind==.module&&_))=false by rw[f.kind];rfl))
 rw[aH.loc] at hn' hs
 refine e32 (id hn') λob es ep ho r=>?_
 have am:cV g ag (ae.set fr.ns (.ns (nC m0 (cd x) (.ref acc)))) {aa with heap:=h',toks:=aa.toks+1}:=
  af.set (s':={aa with heap:=h',toks:=aa.toks+1}) hm0 (λb ob hb Y e=>(hs.2 b hb).trans e) ⟨_,hn',hnr.put hx0 (rk ha rfl)⟩ ⟨_,ho⟩ (np af hlt ho hs) ⟨rfl,rfl,rfl⟩ (λY Y=>rfl)
 have hm2:(ae.set fr.ns (.ns (nC m0 (cd x) (.ref acc)))).get ns=some (.ns m):=by rw[H.get_set,if_neg hne];exact hm
 refine e11 (am.nsAt hm2) λmm2 hns2=>?_
 rw[hl]
 refine⟨mm2,hns2,λh'' m'' a b=>wpAny_pure ⟨ag,_,ac,(am.let_go hm2 hN a b).same (λj=>?_) (by rw[H.length_set,H.length_set,H.length_set,H.length_set]),hK⟩⟩
 rw[H.get_set,H.get_set,H.get_set,H.get_set]
 by_cases q1:fr.ns=j
 .subst q1;rw[if_pos rfl,if_neg (Ne.symm hne),if_pos rfl]
 .rw[if_neg q1,if_neg q1]
theorem Lc(G:GF g)(W:SW g)(S:ii g n r){t it:Expr}{b o:List Stmt}{p:Pos}{K:gf->H->Bool}(oa:dz g c n A)(f:FR g c A fr env)(I:cV g c h s)(hk:vp g.C r fr t it b o h K X=true):
  cQ g.M A (exec (.For t it b o p) env) (QF g c K) (EX g c A X) s:=
 cT hk λho hk=>by
  cases o with
  |cons _ _=>exact ft ho
  |nil=>
   refine e03 (ld G W S.self oa f I hk) λhh hs hw=>?_
   refine mf (cO hw (λx aa ae=>cO ae (λitv aj ⟨i,ag,ae,ac,af,hit,hK⟩=>dC (S.self.fo (oa.up ac) (f.ext ac) af hit hK) λq s' y=>?_) λY Y x=>x) λY Y x=>x) hs
   cases q with
   |ok fl=>exact QF.mono ac y
   |error e=>exact PySem.wpAny_mono (dT.back (f.ext ac) y) (λY Y x=>EX.mono ac x) λY Y x=>EX.mono ac x
end
end
section
variable{g:Gb}{c c':Cf}
section
variable{n:Nat}{r:Ev}{A:Around}{fr:Fr}{env:Env}{X:Nat->H->Bool}{h:H}{s:Shared}{E:Value->Shared->Prop}
noncomputable def MR(pos:Pos)(env:Env)(ks:List (Option Expr)):List Expr->List (Sem Value×Sem Value):=List.rec (λY=>[])
 (λk Y ih vs=>du k [] λk=>du (nB vs) [] λp=>(eval k env,do let x<-eval p.1 env;standAt pos;pure x)::ih p.2) ks
theorem Ld{pos:Pos}{ks:List (Option Expr)}{vs:List Expr}(h:fw (λ(k:Option Expr) (Y:Expr)=>k.isSome) ks vs=true):(evalEachOpt ks env).zip ((evalEach vs env).map λv=>do let x<-v;standAt pos;pure x)=(MR pos env ks vs).map (λp=>(some p.1,p.2))/\(MR pos env ks vs).length=ks.length:=
 dI (P:=λks vs=>(evalEachOpt ks env).zip ((evalEach vs env).map λv=>do let x<-v;standAt pos;pure x)=(MR pos env ks vs).map (λp=>(some p.1,p.2))/\(MR pos env ks vs).length=ks.length) h ⟨rfl,rfl⟩ λk ks v vs e ih=>by
  cases k with
  |none=>exact ft e
  |some k=>
   refine⟨?_,congrArg (· +1) ih.2⟩
   refine(?_:_::_=_::_)
   exact congrArg (_::·) ih.1
theorem Le{pos:Pos}(S:eP g n r){ks:List (Option Expr)}:∀{vs:List Expr} {c:Cf} {h:H} {s:Shared} {K:List V->List V->H->Bool},dz g c n A->FR g c A fr env->cV g c h s->xD r fr ks vs h K X=true->
  cQ g.M A (evalPairs (MR pos env ks vs)) (λps s'=>ps.length=ks.length/\∃as bs c' h',dA c c'/\cV g c' h' s'/\da g c' as (ps.map (·.1))/\da g c' bs (ps.map (·.2))/\K as bs h'=true) (EX g c A X) s:=by
 induction ks with
 |nil=>exact λoa f I hk=>cT hk λY hk=>wpAny_pure ⟨rfl,[],[],_,_,.refl _,I,da.nil,da.nil,hk⟩
 |cons k ks ih=>
  intro vs c h s K oa f I hk
  cases k with
  |none=>exact ft hk
  |some k=>
   cases vs with
   |nil=>exact ft hk
   |cons v vs=>
    show cQ g.M A (evalPairs ((eval k env,do let x<-eval v env;standAt pos;pure x)::MR pos env ks vs)) _ _ s
    rw[evalPairs]
    refine wpAny_bind (cO (S.ev oa f I hk) (λx aa qq=>qq.elim λa ag ae ac af ha hK=>?_) λY Y x=>x)
    refine wpAny_bind (cS (wpAny_bind (cO (S.ev (oa.up ac) (f.ext ac) af hK) (λy aj qq=>qq.elim λb ao aq ak am hb hK=>?_) λY Y=>EX.mono ac)))
    refine wpAny_bind (cU (wpAny_pure ?_))
    refine wpAny_bind (cS (cO (ih ((oa.up ac).up ak) ((f.ext ac).ext ak) am hK) (λps av q=>?_) λY Y=>EX.mono (ac.trans ak)))
    obtain⟨hl,as,bs,aA,aw,au,az,has,hbs,hK⟩:=q
    exact wpAny_pure ⟨congrArg (· +1) hl,a::as,b::bs,aA,aw,(ac.trans ak).trans au,az,da.cons ((ha.ext ak).ext au) has,da.cons (hb.ext au) hbs,hK⟩
theorem o8:∀{kvs acc:List (Str×Value)},((acc++kvs).map (·.1)).Nodup->merged acc kvs=acc++kvs
 |[],acc,_=>by simp[merged]
 |(k,v)::kvs,acc,hn=>by
  have hk:stored acc k v=acc++[(k,v)]:=by
   unfold stored
   rw[if_neg]
   simp only[List.any_eq_true,decide_eq_true_eq,not_exists,not_and]
   rintro⟨k',v'⟩ hm rfl
   rw[List.map_append,List.nodup_append] at hn
   exact hn.2.2 k' (WK hm) k' (by simp) rfl
  refine(?_:merged (stored acc k v) kvs=_)
  rw[hk,o8 (by simpa using hn)]
  simp
theorem qF{x:Str}(hx:cd x≠0):∀{l:List (Nat×V)} {es:List (Str×Value)},PR g c l es->jQ (cd x) l=false->x∉es.map (·.1)
 |[],_,h,_=>by cases h;simp
 |(k,b)::r,_,h,e=>by
  obtain⟨y,w,t,rfl,h2,h3,h4,h5,h6⟩:=h
  unfold jQ at e
  rw[WB,List.mem_cons,not_or]
  by_cases q:y=x
  .subst q;rw[h2,VT] at e;cases e
  .have:Vn k (cd x)=false:=dg λe=>q (et (by rw[h2];exact h3) (h2.trans e))
   rw[this] at e
   exact⟨λz=>q z.symm,qF hx h6 e⟩
theorem Lf{as:List V}:∀{bs:List V} {d:List (Nat×V)} {ps:List (Value×Value)},TY as bs=some d->da g c as (ps.map (·.1))->da g c bs (ps.map (·.2))->
  ∃kvs,Carries (strKind g.pr g.wd) ps kvs/\PR g c d kvs/\(kvs.map (·.1)).Nodup:=by
 induction as with
 |nil=>
  intro bs d ps e ha hb
  cases ps with
  |nil=>exact dK e λY e=>⟨[],trivial,si e▸rfl,W9⟩
  |cons p ps=>exact absurd (show(_:List Value)=[] from ha) (V8 _ _)
 |cons a as ih=>
  intro bs d ps e ha hb
  cases bs with
  |nil=>exact nn e
  |cons b bs=>
   cases ps with
   |nil=>exact absurd ha.length.symm (V9 _)
   |cons p ps=>
    refine e23 ha λx xs q1 ha1 ha2=>?_;clear ha
    refine e23 hb λy ys q2 hb1 hb2=>?_;clear hb
    have q1:=Wd q1
    have q2:=Wd q2
    refine ri λY bk=>cW e λk ek e=>cW e λd' hd e=>dK e λhk e=>bk ?_
    refine e13 (ih hd (q1.2▸ha2) (q2.2▸hb2)) λkvs h1 h2 h3=>?_
    have ha1:VR g c (.str k) x:=gD ek▸ha1
    refine e24 ha1 λz t hz z1 z2 z3=>?_;clear ha1
    refine⟨(z,p.2)::kvs,⟨?_,rfl,h1⟩,si e▸⟨z,p.2,kvs,rfl,z1,z2,z3,(show y=p.2 from q2.1.symm)▸hb1,h2⟩,List.nodup_cons.mpr ⟨qF (z1▸z2) h2 (z1▸dP hk),h3⟩⟩
    rw[show p.1=.str z t from q1.1.trans hz]
    exact oq
theorem Lh(S:ii g n r){ks:List (Option Expr)}{vs:List Expr}{p:Pos}{K:V->H->Bool}(oa:dz g c n A)(f:FR g c A fr env)(I:cV g c h s)(hk:u5 r fr ks vs h K X=true):
  cQ g.M A (eval (.Dict ks vs p) env) (QV g c K) (EX g c A X) s:=by
 refine e02 (IP hk) λhlen hk=>?_
 refine e02 (IP hk) λhall hk=>?_
 have hlen:=eQ hlen
 refine e02 (Ld (env:=env) (pos:=p) hall) λhshape hpl=>?_
 have nd:(s.heap.push {cls:=.type "dict",data:=.dict #[]}).DictOf (strKind g.pr g.wd) s.heap.objs.size []:=Heap.DictOf.new _
 have na:s.heap.get? s.heap.objs.size=none:=VC (VA _)
 have hsm:(s.heap.objs.size==sysModules)=false:=by
  refine e11 I.sm λo ho=>?_
  have:=I.base _ _ ho
  rw[beq_eq_false_iff_ne]
  intro q
  rw[<-q,na] at this;cases this
 by_cases h0:ks=[]
 .subst h0
  cases vs with
  |cons _ _=>exact ft hall
  |nil=>
  rw[eval_Dict_empty]
  obtain⟨ao,ak,am,_,_,_,cI⟩:=I.push1 false (o:=.dict []) (ob:={cls:=.type "dict",data:=.dict #[]}) rfl (λh' e=>⟨[],by
   refine e32 nd λo es ep w1 w=>?_;clear nd
   rw[Vx _ rfl] at w1;cases w1
   exact⟨_,es,ep,e,w⟩,hsm,rfl,by simp⟩) (λq=>by cases q)
  refine wpAny_bind (cU ?_)
  unfold newDict newObj
  exact P (PySem.wpAny_bind (PySem.wpAny_alloc (PySem.wpAny_pure ⟨_,ao,_,ak,am,cI,hk⟩)))
 .rw[arm_eval_Dict,hshape,dictDisplay_pairs _ (λq=>h0 (List.length_eq_zero_iff.mp (by rw[<-hpl,q];rfl))) (by omega)]
  refine wpAny_bind (cU (wpAny_bind ?_))
  unfold subDict
  refine wpAny_bind (P (PySem.wpAny_alloc ?_))
  have fa:=I.free na
  have I1:=(I.alloc {cls:=.type "dict",data:=.dict #[]})
  have Ip:=I1.pin (L:=[s.heap.objs.size]) (λb hb=>by rw[List.mem_singleton.mp hb];exact fa)
  refine wpAny_bind (cS ?_)
  refine kX (by omega) ?_
  refine wpAny_bind (cO (Le (S.pin [s.heap.objs.size] _) oa.pin f.pin Ip hk) (λps aa ⟨hpn,as,bs,ag,ae,ac,af,has,hbs,hK⟩=>?_) λe s' x=>x.unpin)
  refine e12 (xU hK) λd hd hK=>?_
  refine e13 (Lf hd (da.pin.mp has) (da.pin.mp hbs)) λkvs q1 q2 q3=>?_
  obtain⟨ob,hob,hr⟩:∃ob,(s.heap.push {cls:=.type "dict",data:=.dict #[]}).get? s.heap.objs.size=some ob/\ob={cls:=.type "dict",data:=.dict #[]}:=⟨_,Vx _ rfl,rfl⟩
  have hd1:=af.pinned (List.mem_singleton.mpr rfl) hob
  have nd1:aa.heap.DictOf (strKind g.pr g.wd) s.heap.objs.size []:=by
   refine e32 nd λo es ep w1 w=>?_;clear nd
   rw[hob] at w1;cases w1
   exact⟨_,es,ep,hd1,w⟩
  have fa1:hH g ag s.heap.objs.size:=af.pinFre (List.mem_singleton.mpr rfl) hob fa
  have hmg:merged [] kvs=kvs:=by simpa using o8 (acc:=[]) (kvs:=kvs) (by simpa using q3)
  have hkl:=q1.length
  have hl2:=q2.length
  refine cS ?_
  show cQ (model g.pr g.wd) A ((forIn ps PUnit.unit λ(x:Value×Value) (Y:PUnit)=>(do dictSet s.heap.objs.size x.1 x.2;pure (ForInStep.yield PUnit.unit):Sem (ForInStep PUnit)))>>=λY=>pure ()) _ _ _
  refine wpAny_bind (P (wpAny_storeAll (knd:=strKind g.pr g.wd) ps kvs [] aa _ q1 nd1 (by rw[sizeLine_eq,List.length_nil];omega) λh' hm hs=>?_))
  rw[hmg] at hm
  refine wpAny_pure (wpAny_pure (wpAny_pure ?_))
  have I2:cV g ag ae {aa with heap:=h',toks:=aa.toks+ps.length}:=af.unpin.wild (λb=>b=s.heap.objs.size) (λb hb=>hb▸fa1) (λb o hb e=>(hs.2 b hb).trans e) ⟨rfl,rfl,rfl⟩
  refine e32 (id hm) λob2 es2 ep2 w1 w2=>?_
  have I3:=I2.pushF (o:=.dict d) (fl:=false) (λY Y e=>e) fa1 fa1 ⟨kvs,hm,hsm,q2,by omega⟩ ⟨_,w1⟩ ⟨_,w1⟩ ⟨rfl,rfl,rfl⟩ (λq=>by cases q)
  have ex:=dA.add ag s.heap.objs.size s.heap.objs.size false
  refine⟨.ref ae.length,_,_,ac.trans ex,I3,?_,hK⟩
  have:ae.length=ag.n:=I2.len.symm
  exact⟨by rw[this];exact VS _,by rw[this];exact congrArg Value.ref (if_pos rfl).symm⟩
end
end
theorem rJ:Slot "bytearray" "__init__" "bytearray.__init__":=
 .of (owner:="bytearray") (n:="__init__") (by rw[typeLookup_type,builtinLookup_eq_fast];kernel_rfl) (by decide+kernel) (by decide+kernel) (by decide+kernel)
  (by first|exact .inl (by decide+kernel)|exact .inr (by decide+kernel)) (by rw[isSubtype_type];kernel_rfl)
theorem D0:mroOf (.type "bytearray")=pure [.type "bytearray",.type "object"]:=by rw[mroOf_type];kernel_rfl
theorem pY:typeLookup (.type "bytearray") "__new__"=pure (some (.builtin "bytearray.__new__")):=by rw[typeLookup_type,builtinLookup_eq_fast];kernel_rfl
theorem Av:TypeCalled "bytearray" "bytearray.__new__" "bytearray.__init__":=
 ⟨by decide+kernel,by decide+kernel,⟨_,_,D0⟩,madeBy_type D0 pY (by decide+kernel),by decide+kernel,by rw[isSubtype_type];kernel_rfl,rJ⟩
theorem uf(a:Value):checkTypeCall "bytearray" ⟨[a],[]⟩=pure ():=by kernel_rfl
theorem wB(a:Value):checkBuiltinCall "bytearray.__new__" ⟨[.type "bytearray",a],[]⟩=pure ():=by kernel_rfl
theorem rK:entryFor table "bytearray.__new__"=some Builtin.«list.__new__»:=
 entryFor_alias (id':="list.__new__") (by kernel_rfl) (by first|rfl|decide+kernel|(unfold String.splitOn;simp+decide [String.splitOnAux])) (by decide+kernel) (by kernel_rfl)
theorem pZ:entryFor table "bytearray.__init__"=some Builtin.«bytearray.__init__»:=entryFor_of_tree (by kernel_rfl)
theorem lf:plainId "bytearray.__new__"=true:=by decide+kernel
theorem rL(a b:Value):argsOk "bytearray.__init__" ⟨[a,b],[]⟩:=by unfold argsOk;kernel_rfl
theorem rM:("bytearray.__new__".splitOn ".__new__").headD ""="bytearray":=by simp+decide [String.splitOn,String.splitOnAux]
theorem D1:isSubtype (.type "bytearray") (.type "bytearray")=pure true:=by rw[isSubtype_type];kernel_rfl
section
variable{prog:Program}{w:World}{A:Around}{E:Value->Shared->Prop}{s:Shared}
theorem ug(a:Value){Q₁:Value->Shared->Prop}(h:Q₁ (.ref s.heap.objs.size) {s with heap:=s.heap.push {cls:=.type "bytearray",data:=.bytearray #[]}}):
  PySem.codeAny (model prog w) A (.call (.builtin "bytearray.__new__") ⟨[.type "bytearray",a],[]⟩) (wants Q₁ E) s:=by
 refine PySem.codeAny_of_tree ?_
 show PySem.wpAny _ A.in1 (do checkBuiltinCall "bytearray.__new__" ⟨[.type "bytearray",a],[]⟩;again (.builtin "bytearray.__new__" ⟨[.type "bytearray",a],[]⟩)) _ _ s
 refine PySem.wpAny_bind (PySem.wpAny_of_eq (wB a) (PySem.wpAny_pure ⟨plainId_quiet lf _,codeAny_builtin_stack rK rfl λp st=>?_⟩))
 rw[Around.under_plainId lf _]
 have hsub:=D1
 have hown:=rM
 obtain⟨hp,g,d,tk,os⟩:=s
 simp only[hown]
 wp_walk
 exact h
theorem qa{c:Code}{Q₁:Value->Shared->Prop}(h:PySem.codeAny (model prog w) A c (wants Q₁ E) s):PySem.codeAny (model prog w) A c (λr s'=>match r with|.ok (.ret v)=>Q₁ v s'|.ok _=>False|.error e=>E e s') s:=
 PySem.codeAny_mono h λr s' x=>by
  cases r with
  |error e=>exact x
  |ok f=>cases f<;>exact x
theorem li{M:Model}{self:Value}{T id:String}{name:Str}{args:List Value}{Q:Option Value->Shared->Prop}(hT:s.TypeIs self T)(hs:Slot T name id)(h:cQ M A (call (.builtin id) (self::args)) (λv s'=>Q (some v) s') E s):cQ M A (callSpecial? self name args) Q E s:=by
 unfold callSpecial?
 refine wpAny_bind (P (PySem.wpAny_specialOf hT hs.lookup ?_))
 refine cS ?_
 rw[hs.bind]
 refine(?_:cQ M A (call (.builtin id) ([self]++args) []>>=λv=>pure (some v)) Q E s)
 exact wpAny_bind (m:=call (.builtin id) ([self]++args)) (f:=λv=>pure (some v)) (cO h (λY Y q=>wpAny_pure q) λY Y e=>e)
theorem qb{T newId initId:String}{Bi:Builtin}{args:List Value}{Q Q₁:Value->Shared->Prop}(ft:TypeCalled T newId initId)(hci:∀as,pR (.builtin initId as))
  (hct:checkTypeCall T ⟨args,[]⟩=pure ()) (entryI:entryFor table initId=some Bi)
  (hnew:PySem.codeAny (model prog w) A.in1 (.call (.builtin newId) ⟨.type T::args,[]⟩) (wants Q₁ E) s)
  (hnext:∀obj aa,Q₁ obj aa->aa.TypeIs obj T/\argsOk initId ⟨obj::args,[]⟩/\cQ (model prog w) A.in1.in1 (Bi ⟨obj::args,[]⟩) (λfin s'=>fin=.done (.ret .none)/\Q obj s') E aa):
  cQ (model prog w) A (call (.type T) args) Q E s:=by
 refine e21 ft.mro λc tl hmro=>?_
 have hmade:=ft.made
 have hsub:=ft.sub
 refine fR (c8 (λY Y=>rfl) ?_)
 refine(?_:cQ _ _ (callAny (.type T) _) _ _ _)
 refine wpAny_pure ⟨Code.quiet_builtin _ (by decide+kernel),i0 (js (by decide+kernel) (λY Y Y=>rfl) (λY Y Y Y Y=>rfl)) F.entry_type_call ?_⟩
 rw[Around.under_plain (weight_type_call_type T args []) rfl]
 have h1:=ft.notType
 have h2:=ft.canCreate
 unfold Builtin.«type.__call__»
 refine eS (λq=>Mine.Tactic.ft (h1.symm.trans q)) ?_
 refine eS (λq=>Mine.Tactic.ft (h2.symm.trans q)) ?_
 refine wpAny_bind (wpAny_of_eq hct (wpAny_bind (wpAny_of_eq hmro ?_)))
 refine eS Vs ?_
 refine wpAny_bind (wpAny_of_eq hmade (wpAny_bind (wpAny_pure ?_)))
 refine wpAny_bind (cS (cO (Q:=λv s'=>Q₁ v s') (P (PySem.wpAny_call (qa hnew))) (λobj aa hr=>?_) λY Y e=>e))
 refine e03 (hnext _ _ hr) λhT hok hsi=>?_
 refine wpAny_bind (P (PySem.wpAny_isInstance hT hsub ?_))
 refine eS Vs ?_
 refine wpAny_bind (cS (li hT ft.init (fR (eg (hci _) (plainId_quiet ft.init.plain _) entryI (ft.init.check _ _ _ _ _ _ _ _ hT hok ?_)))))
 rw[Around.under_plainId ft.init.plain _]
 refine cO hsi (λfin s' ⟨h1,h2⟩=>?_) λY Y e=>e
 subst h1
 exact wpAny_pure h2
theorem qc{M:Model}{self:Value}{Q:Bool->Shared->Prop}(h:Q false s):cQ M A (Builtin.Bytes.exported self) Q E s:=by
 rw[exported_eq]
 intro Γ p hΓ hc
 refine(?_:Sem.wp M Γ (stack>>=λl=>pure (l.any (gI self))) _ _ p s)
 rw[Sem.wp_bind',stack,Sem.wp_stack]
 have e:((Γ.code,p)::Γ.below).any (gI self)=false:=by
  rw[Xq]
  intro x hx
  rcases List.mem_cons.mp hx with rfl|hx
  .rw[hc.code self p];exact Vs
  .have:=hc.below x hx self x.2
   rw[show x=(x.1,x.2) from rfl,this];exact Vs
 refine(?_:Q (((Γ.code,p)::Γ.below).any (gI self)) s)
 rw[e];exact h
theorem mX:typeLookup (.type "bytearray") "__release_buffer__"=pure (some (.builtin "bytearray.__release_buffer__")):=by rw[typeLookup_type,builtinLookup_eq_fast];kernel_rfl
theorem im:typeLookup (.type "bytes") "__index__"=pure none:=by rw[typeLookup_type,builtinLookup_eq_fast];kernel_rfl
theorem Li{M:Model}{a:Value}{Q:Bool->Shared->Prop}(hT:s.TypeIs a "bytearray")(h:Q false s):PySem.wpAny M A (Builtin.Bytes.ownRelease a) Q E s:=by
 have key:∀x:String,x="bytearray"->∀{Q:Bool->Shared->Prop},Q true s->PySem.wpAny M A (isInstance a (.type x)) Q E s:=λx hx Q q=>by rw[hx];exact PySem.wpAny_isInstance hT D1 q
 unfold Builtin.Bytes.ownRelease Builtin.Bytes.slotIsOwn
 refine PySem.wpAny_bind (PySem.wpAny_bind (PySem.wpAny_specialOf hT mX ?_))
 refine eB (by decide+kernel) ?_
 exact key _ (by decide+kernel) (PySem.wpAny_pure h)
theorem Hg{id:String}{b:Array UInt8}{t:Tok}:Builtin.Bytes.buffer? id (.bytes b t) (full:=true)=pure (some b):=by
 unfold Builtin.Bytes.buffer?
 rw[KBy.special_eq KBy.look_buffer,KBy.own_buffer,KBy.own_release]
 kernel_rfl
theorem pc{M:Model}{a:Addr}{o:Obj}{b:Array UInt8}{n:Nat}{f:Array UInt8->Array UInt8}{Q:Unit->Shared->Prop}(ho:s.heap.get? a=some o)(hd:o.data=.bytearray b n)(hsz:(f b).size≤sizeLine)
  (h:∀hp,hp.get? a=some {o with data:=.bytearray (f b) n}->(∀x,x≠a->hp.get? x=s.heap.get? x)->Q () {s with heap:=hp}):PySem.wpAny M A (Builtin.Bytes.write (.ref a) f) Q E s:=by
 obtain⟨oc,od,odat,os⟩:=o
 dsimp only at hd
 subst hd
 have e:Obj.mapBytearray f ⟨oc,od,.bytearray b n,os⟩=⟨oc,od,.bytearray (f b) n,os⟩:=rfl
 have g1:(s.heap.update a (Obj.mapBytearray f)).get? a=some ⟨oc,od,.bytearray (f b) n,os⟩:=(VD _ ho rfl).trans (congrArg some e)
 refine(?_:PySem.wpAny M A (load a>>=λr=>_) Q E s)
 refine PySem.wpAny_bind (PySem.wpAny_load ho (PySem.wpAny_bind (PySem.wpAny_update ho (PySem.wpAny_lookBehind g1 ?_ (h _ g1 λx hx=>Wj _ _ (Ne.symm hx))))))
 refine(?_:(if(f b).size>sizeLine then some "bytearray:memory" else none)=none)
 rw[if_neg (Nat.not_lt.mpr hsz)]
theorem Aw{M:Model}{a:Addr}{o:Obj}{b:Array UInt8}{n:Nat}{Q:Nat->Shared->Prop}(ho:s.heap.get? a=some o)(hd:o.data=.bytearray b n)(h:Q n s):PySem.wpAny M A (Builtin.Bytes.exportsOf (.ref a)) Q E s:=by
 refine(?_:PySem.wpAny M A (load a>>=λr=>_) Q E s)
 refine PySem.wpAny_bind (PySem.wpAny_load ho ?_)
 rw[hd]
 exact PySem.wpAny_pure h
theorem Ax(x:Value):Builtin.Bytes.bindOptional "bytearray.__init__" "bytearray" ["source","encoding","errors"] [x] []=pure [some x,none,none]:=by kernel_rfl
theorem Hh{M:Model}{a:Addr}{o:Obj}{b0 b:Array UInt8}{t:Tok}{Q:Fin->Shared->Prop}(ho:s.heap.get? a=some o)(hc:o.cls=.type "bytearray")(hd:o.data=.bytearray b0 0)(hsz:b.size≤sizeLine)
  (h:∀hp,hp.get? a=some {o with data:=.bytearray b 0}->(∀x,x≠a->hp.get? x=s.heap.get? x)->Q (.done (.ret .none)) {s with heap:=hp}):cQ M A (Builtin.«bytearray.__init__» ⟨[.ref a,.bytes b t],[]⟩) Q E s:=by
 have hT:s.TypeIs (.ref a) "bytearray":=⟨o,ho,hc⟩
 refine(?_:cQ M A (Builtin.Bytes.ownRelease (.ref a)>>=λr=>_) Q E s)
 refine wpAny_bind (P (Li hT ?_))
 refine eS Vs ?_
 refine wpAny_bind (P (PySem.wpAny_of_eq (Ax _) ?_))
 refine wpAny_bind (wpAny_pure (wpAny_bind (wpAny_pure ?_)))
 refine wpAny_bind (wpAny_bind (qc ?_))
 refine wpAny_bind (P (Aw ho hd ?_))
 refine wpAny_pure ?_
 refine eS (by simp) ?_
 refine wpAny_bind (P (pc ho hd (V6 _) λh1 g1 k1=>?_))
 refine wpAny_bind (P (PySem.wpAny_of_eq (a:=none) rfl ?_))
 refine eS Vs ?_
 refine wpAny_bind (wpAny_pure (wpAny_bind (P (PySem.wpAny_specialOf (T:="bytes") (typeIs_bytes _ _ _) im ?_))))
 refine eS Vs ?_
 refine wpAny_bind (P (PySem.wpAny_of_eq Hg ?_))
 refine wpAny_bind (wpAny_rule (wpAny_bind (P (pc g1 rfl hsz λh2 g2 k2=>wpAny_pure (h _ g2 λx hx=>(k2 x hx).trans (k1 x hx))))))
theorem yF{b:Array UInt8}{t:Tok}{Q:Value->Shared->Prop}(hsz:b.size≤sizeLine)
  (h:∀hp a ob,(∀x o,s.heap.get? x=some o->hp.get? x=some o)->s.heap.get? a=none->hp.get? a=some ob->ob.cls=.type "bytearray"->ob.data=.bytearray b 0->Q (.ref a) {s with heap:=hp}):cQ (model prog w) A (call (.type "bytearray") [.bytes b t]) Q E s:=by
 have na:s.heap.get? s.heap.objs.size=none:=VC (VA _)
 refine qb Av (λas=>js (by decide+kernel) (λY Y Y=>rfl) (λY Y Y Y Y=>rfl)) (uf _) pZ (ug _ (Q₁:=λobj aa=>obj=.ref s.heap.objs.size/\aa={s with heap:=s.heap.push {cls:=.type "bytearray",data:=.bytearray #[]}}) ⟨rfl,rfl⟩) λobj aa ⟨e1,e2⟩=>?_
 subst e1 e2
 have ga:(s.heap.push {cls:=.type "bytearray",data:=.bytearray #[]}).get? s.heap.objs.size=some {cls:=.type "bytearray",data:=.bytearray #[]}:=Vx _ rfl
 refine⟨⟨_,ga,rfl⟩,rL _ _,Hh ga rfl rfl hsz λhp g1 k1=>⟨rfl,h hp _ _ (λx o q=>?_) na g1 rfl rfl⟩⟩
 have hx:x≠s.heap.objs.size:=λe=>by rw[e,na] at q;cases q
 rw[k1 x hx]
 exact Vp _ q
end
theorem eZ:Slot "bytearray" "__setitem__" "bytearray.__setitem__":=
 .of (owner:="bytearray") (n:="__setitem__") (by rw[typeLookup_type,builtinLookup_eq_fast];kernel_rfl) (by decide+kernel) (by decide+kernel) (by decide+kernel)
  (by first|exact .inl (by decide+kernel)|exact .inr (by decide+kernel)) (by rw[isSubtype_type];kernel_rfl)
theorem ml:entryFor table "bytearray.__setitem__"=some Builtin.«bytearray.__setitem__»:=entryFor_of_tree (by kernel_rfl)
theorem mY(a b d:Value):argsOk "bytearray.__setitem__" ⟨[a,b,d],[]⟩:=by unfold argsOk;kernel_rfl
theorem pe:typeLookup (.type "bytes") "__int__"=pure none:=by rw[typeLookup_type,builtinLookup_eq_fast];kernel_rfl
theorem mn:typeLookup (.type "bytes") "__float__"=pure none:=by rw[typeLookup_type,builtinLookup_eq_fast];kernel_rfl
theorem rN:isSubtype (.type "bytes") (.type "bytearray")=pure false:=by rw[isSubtype_type];kernel_rfl
theorem lj:isSubtype (.type "bytes") (.type "complex")=pure false:=by rw[isSubtype_type];kernel_rfl
theorem D2{M:Model}{A:Around}{E:Value->Shared->Prop}{s:Shared}{a b:Sem Bool}{Q:Bool->Shared->Prop}(ha:cQ M A a (λx s'=>x=false/\s'=s) E s)(hb:cQ M A b Q E s):cQ M A (a<||>b) Q E s:=
 wpAny_bind (cO ha (λx s' ⟨h1,h2⟩=>by subst h1 h2;exact hb) λY Y e=>e)
section
variable{g:Gb}{A:Around}{E:Value->Shared->Prop}{s:Shared}
theorem D3{b v:Array UInt8}{i j:Nat}(hsz:b.size≤10000)(hv:v.size≤10000):(b.extract 0 i++v++b.extract j b.size).size≤sizeLine:=by
 rw[Array.size_append,Array.size_append,Array.size_extract,Array.size_extract,sizeLine_eq]
 have le:∀{i k:Nat},min k b.size - i≤10000:=Vo (W4 ..) (Vo (Nat.min_le_right ..) hsz)
 exact Vo (Wy (Wy le hv) le) (by decide)
theorem D4{n:Nat}(h:n≤10000):n≤sizeLine:=by
 rw[sizeLine_eq]
 omega
theorem D5{i j k:Nat}(h:i≤j)(e:k=j - i):((k:Int)!=(j:Int) - i)=false:=by
 rw[bne_eq_false_iff_eq]
 omega
theorem D6{x a:Addr}{o:Obj}{b v:Array UInt8}{n i j:Nat}{l u:Value}{lo hi:Option Int}{t:Tok}{Q:Fin->Shared->Prop}(ho:s.heap.get? x=some o)(hc:o.cls=.type "bytearray")(hd:o.data=.bytearray b n)
  (hs:s.heap.IsSliceOf a l u .none) (hl:IsPart l lo) (hu:IsPart u hi) (hsz:b.size≤10000) (hv:v.size≤10000) (hi1:i=lo.elim 0 (clipAt b.size)) (hj1:j=hi.elim b.size (clipAt b.size)) (hle:i≤j) (hlen:v.size=j - i)
  (h:∀hp,hp.get? x=some {o with data:=.bytearray (b.extract 0 i++v++b.extract j b.size) n}->(∀y ob,y≠x->s.heap.get? y=some ob->hp.get? y=some ob)->Q (.done (.ret .none)) {s with heap:=hp}):
  cQ g.M A (Builtin.«bytearray.__setitem__» ⟨[.ref x,.ref a,.bytes v t],[]⟩) Q E s:=by
 refine(?_:cQ _ _ (Builtin.Bytes.subscript? (.ref a)>>=λr=>_) _ _ s)
 refine wpAny_bind (P (tK hs ?_))
 refine e13 (id hs) λos hos hcs hds=>?_
 refine wpAny_bind (P (PySem.wpAny_typeOf (T:="slice") ⟨os,hos,hcs⟩ ?_))
 refine eS (by decide) ?_
 refine wpAny_bind (P (oR hs hl hu ?_))
 refine eS Vs ?_
 refine wpAny_bind (P (PySem.wpAny_isInstance (T:="bytes") (typeIs_bytes _ _ _) rN ?_))
 refine kX rfl ?_
 have no:∀{name:Str} {Q:Bool->Shared->Prop},typeLookup (.type "bytes") name=pure none->Q false s->cQ g.M A (do return (<-specialOf (.bytes v t) name).isSome) Q E s:=λhl hq=>
  wpAny_bind (P (PySem.wpAny_specialOf (T:="bytes") (typeIs_bytes _ _ _) hl (wpAny_pure (a:=(none:Option Value).isSome) hq)))
 refine wpAny_bind (D2 (no im ⟨rfl,rfl⟩) (D2 (no pe ⟨rfl,rfl⟩) (D2 (no mn ⟨rfl,rfl⟩) (P (PySem.wpAny_isInstance (T:="bytes") (typeIs_bytes _ _ _) lj ?_)))))
 refine wpAny_bind (P (PySem.wpAny_of_eq (a:=none) rfl ?_))
 refine eS Vs ?_
 refine wpAny_bind (wpAny_rule (wpAny_bind (yF (D4 hv) λh1 ba ob k1 na g1 c1 d1=>?_)))
 refine wpAny_bind (cS (P (oR ⟨os,k1 _ _ hos,hcs,hds⟩ hl hu ?_)))
 refine wpAny_bind (P (gG (s:={s with heap:=h1}) g1 d1 ?_))
 refine wpAny_bind (P (gG (s:={s with heap:=h1}) (k1 _ _ ho) hd ?_))
 refine wpAny_bind (P (PySem.wpAny_of_eq (sliceIndices_raw lo hi none b.size (λe=>nomatch e)) ?_))
 rw[sliceBounds_plain,<-hi1,<-hj1]
 have hm:max (i:Int) (j:Int)=(j:Int):=Int.max_eq_right (Int.ofNat_le.mpr hle)
 simp only[hm,beq_self_eq_true,if_true]
 refine wpAny_bind (wpAny_rule (eS (by rw[D5 hle hlen];exact Vs) ?_))
 exact wpAny_bind (P (pc (s:={s with heap:=h1}) (k1 _ _ ho) hd (D3 hsz hv) λh2 g2 k2=>wpAny_pure (h h2 g2 λy ob hy e=>(k2 y hy).trans (k1 y ob e))))
end
section
variable{g:Gb}{c c':Cf}{A:Around}{E:Value->Shared->Prop}{h:H}{s:Shared}
theorem D7(b v:Array UInt8)(i j:Nat):(b.extract 0 i++v++b.extract j b.size).toList=b.toList.take i++v.toList++b.toList.drop j:=by
 simp only[VX,Array.toList_extract,List.extract_eq_drop_take,List.drop_zero,Nat.sub_zero]
 rw[List.take_of_length_le (l:=List.drop j b.toList) (Vu V7)]
theorem Ay(W:SW g){o lo hi a:V}{ov vl vu v:Value}{x:Addr}{K:H->Bool}(I:cV g c h s)(hv:VR g c a v)(ho:VR g c o ov)(h1:VR g c lo vl)(h2:VR g c hi vu)(hs:s.heap.IsSliceOf x vl vu .none)(hk:qZ a K o lo hi h=true):
  cQ g.M A (setItem ov (.ref x) v) (QU g c K) E s:=
 kR (P:=λov=>cQ g.M A (setItem ov (.ref x) v) (QU g c K) E s) hk ho λk hk1 hk=>kB (P:=λv=>cQ g.M A (setItem (.ref (c.ρ k)) (.ref x) v) (QU g c K) E s) hk hv λl vb t hb hk=>
 cP hk λb eb hk=>cW eb λo el eo=>cP hk λi e1 hk=>cP hk λj e2 hk=>Gd hk λhc1 hc2 hc3 hc4 hk=>by
  cases kG eo
  refine e12 (kV h1 e1) λp p1 hi1=>?_
  refine e12 (kV h2 e2) λq q1 hj1=>?_
  obtain⟨hk1,ob,bb,w1,w2,w3,w4,w5⟩:=I.obj k _ el
  have hsz:bb.size=b.length:=w4.size
  rw[<-hsz] at hi1 hj1
  have hT:s.TypeIs (.ref (c.ρ k)) "bytearray":=⟨ob,w1,w2⟩
  refine(?_:cQ g.M A (setItem _ _ _) _ _ s)
  unfold setItem
  refine cS (wpAny_bind (P (PySem.wpAny_sequenceKey hT (by decide) ?_)))
  refine wpAny_bind (li (name:=Vm "__setitem__") hT eZ (fR (eg (js (by decide+kernel) (λY Y Y=>rfl) (λY Y Y Y Y=>rfl)) (plainId_quiet eZ.plain _) ml (eZ.check _ _ _ _ _ _ _ _ hT (mY _ _ _) ?_))))
  refine Around.under_plainId eZ.plain _▸?_
  refine D6 w1 w2 w3 hs p1 q1 (hsz▸w5) (hb.size▸eQ hc4) hi1 hj1 (eQ hc1) (hb.size.trans (cX hc2)) λhp g1 k1=>wpAny_pure ?_
  refine⟨c,_,.refl c,I.set (o':=.barr (JZ b l i j)) el (λb' ob' n1 Y e=>k1 b' ob' n1 e) ⟨_,_,g1,w2,rfl,?_,eQ hc3⟩ ⟨_,g1⟩ ?_ ⟨rfl,rfl,rfl⟩ λY q=>ft q,hk⟩
  .rw[D7];exact((w4.take i).append hb).append (w4.drop j)
  .by_cases q:c.δ k=c.ρ k
   .rw[q];exact⟨_,g1⟩
   .obtain⟨_,o2,h2⟩:=I.pres k hk1
    exact⟨_,k1 _ _ q h2⟩
end
section
open PySem.SeqAt
variable{g:Gb}{c c':Cf}
section
variable{n:Nat}{r:Ev}{A:Around}{fr:Fr}{env:Env}{X:Nat->H->Bool}{h:H}{s:Shared}
theorem rO(S:eP g n r){e:Option Expr}{K:V->H->Bool}(oa:dz g c n A)(f:FR g c A fr env)(I:cV g c h s)(hk:AZ r fr e h K X=true):
  cQ g.M A (valueOrNone (evalOpt e env)) (QV g c K) (EX g c A X) s:=by
 cases e with
 |none=>exact wpAny_pure (show QV g c K .none s from⟨.none,c,h,.refl c,I,rfl,hk⟩)
 |some _=>exact S.ev oa f I hk
inductive QS(g:Gb)(c:Cf)(K:V->V->V->H->Bool)(i:Value)(s:Shared):Prop
 |mk (a b d:V) (vl vu vs:Value) (x:Addr) (c':Cf) (h:H) (e:dA c c') (I:cV g c' h s) (hi:i=.ref x) (hs:s.heap.IsSliceOf x vl vu vs) (r1:VR g c' a vl) (r2:VR g c' b vu) (r3:VR g c' d vs) (k:K a b d h=true)
theorem uh(S:eP g n r){lo hi st:Option Expr}{p:Pos}{K:V->V->V->H->Bool}(oa:dz g c n A)(f:FR g c A fr env)(I:cV g c h s)
  (hk:AZ r fr lo h (λlo h=>AZ r fr hi h (λhi h=>AZ r fr st h (λst h=>K lo hi st h) X) X) X=true):
  cQ g.M A (eval (.Slice lo hi st p) env) (QS g c K) (EX g c A X) s:=by
 rw[arm_eval_Slice]
 refine wpAny_bind (cO (rO S oa f I hk) (λvl aa qq=>qq.elim λa ag ae ac af r₁ bM=>?_) λY Y x=>x)
 refine wpAny_bind (cS (cO (rO S (oa.ext I ac) (f.ext ac) af bM) (λvu aj qq=>qq.elim λb ao aq ak am r₂ bO=>?_) λY Y=>EX.mono ac))
 have e12:=ac.trans ak
 refine wpAny_bind (cS (cO (rO S (oa.ext I e12) (f.ext e12) am bO) (λvs av qq=>qq.elim λd aA aw au az cJ cK=>?_) λY Y=>EX.mono e12))
 refine P<|PySem.wpAny_newObj_type ?_
 exact⟨a,b,d,vl,vu,vs,_,aA,aw,e12.trans au,az.alloc _,rfl,⟨_,Vx _ rfl,rfl,rfl⟩,(r₁.ext ak).ext au,r₂.ext au,cJ,cK⟩
theorem Lj(W:SW g)(S:eP g n r){e:Expr}{lo hi st:Option Expr}{p p':Pos}{K:V->H->Bool}(oa:dz g c n A)(f:FR g c A fr env)(I:cV g c h s)(hk:qV g.C r fr e lo hi st h K X=true):
  cQ g.M A (eval (.Subscript e (.Slice lo hi st p') p) env) (QV g c K) (EX g c A X) s:=by
 rw[arm_eval_Subscript]
 unfold qV at hk
 refine wpAny_bind (cO (S.ev oa f I hk) (λv aa qq=>qq.elim λo ag ae ac af hv hK=>?_) λY Y x=>x)
 refine wpAny_bind (cS (cO (uh S (oa.ext I ac) (f.ext ac) af hK) (λi aj qq=>?_) λY Y=>EX.mono ac))
 obtain⟨a,b,d,vl,vu,vs,x,ao,aq,ak,am,hi,hs,r1,r2,r3,k2⟩:=qq
 subst hi
 refine e02 (Dn (A:=A) (E:=EX g c A X) W am (hv.ext ak) r1 r2 r3 hs k2) λzq86 hg=>?_
 refine e22 zq86 λT id hl hT=>?_
 refine wpAny_bind (cU ?_)
 have fin:∀w av,QV g ao K w av->cQ g.M A (do letTemporaryGo e v w;pure w) (QV g c K) (EX g c A X) av:=λw av q=>wpAny_bind (P<|wpAny_letTemporaryGo (wpAny_pure (QV.mono (ac.trans ak) q)))
 rw[getitemInPython_of_ne hT.not_modules]
 refine wpAny_bind (wpAny_bind (P (PySem.wpAny_specialOf hT hl ?_)))
 refine wpAny_pure (wpAny_bind ?_)
 cases st with
 |none=>exact d5 (cO (P hg) fin λY Y x=>x)
 |some st=>exact d5 (cO (P hg) fin λY Y x=>x)
theorem Hi(W:SW g)(S:eP g n r){o:Expr}{lo hi st:Option Expr}{p p':Pos}{a:V}{v:Value}{K:H->Bool}(oa:dz g c n A)(f:FR g c A fr env)(I:cV g c h s)(hv:VR g c a v)(hk:q7 r fr o lo hi st a h K X=true):
  cQ g.M A (assign (.Subscript o (.Slice lo hi st p') p) env v) (QU g c K) (EX g c A X) s:=by
 rw[arm_assign_Subscript]
 cases st with
 |none=>
  have hk:r.ev fr o h _ X=true:=hk
  refine wpAny_bind (cS (cO (S.ev oa f I hk) (λw aa qq=>qq.elim λo ag ae ac af hw hK=>?_) λY Y x=>x))
  have hK:AZ r fr lo ae (λlo h=>AZ r fr hi h (λhi h=>AZ r fr none h (λst h=>qZ a K o lo hi h) X) X) X=true:=hK
  refine wpAny_bind (cS (cO (uh (K:=λlo hi st h=>gd (d8 st) (qZ a K o lo hi h)) S (oa.ext I ac) (f.ext ac) af ?_) (λi aj qq=>?_) λY Y=>EX.mono ac))
  .exact hK
  .obtain⟨a',b,d,vl,vu,vs,x,ao,aq,ak,am,hi,hs,r1,r2,r3,k2⟩:=qq
   subst hi
   refine cT k2 λk1 k2=>?_
   cases fO k1
   cases (show vs=.none from r3)
   refine wpAny_bind (cU (wpAny_bind (cS (cO (Ay W am ((hv.ext ac).ext ak) (hw.ext ak) r1 r2 hs k2) (λY av q=>?_) λY Y x=>x))))
   exact fU (QU.mono (ac.trans ak) q)
 |some _=>exact ft hk
end
end
section
variable{g:Gb}{c c':Cf}
section
variable{A:Around}{E:Value->Shared->Prop}{h:H}{s:Shared}{n:Nat}
def Lk(g:Gb)(f:BF)(v:Value):Prop:=∀{c:Cf} {A:Around} {E:Value->Shared->Prop} {h:H} {s:Shared} {n:Nat} {args:List V} {vs:List Value} {K:V->H->Bool},dz g c n A->cV g c h s->f args h K=true->da g c args vs->cQ g.M A (call v vs) (QV g c K) E s
theorem ll{f:BF}{v:Value}(h:Fs g f v):Lk g f v:=λoa I hk hv=>P (h oa I hk hv)
theorem Ll:Lk g Iv (.type "bytearray"):=λ{c A E h s n args vs K} oa I hk hv=>a1 hk hv λv x hx hk=>kB hk hx λl b t hb hk=>cT hk λhle hk=>
 yF (dD (Vo (Vu hb.size) (Vo (eQ hle) (by decide)))) λhp a ob k na ga hc hd=>
  (I.pushW (o:=.barr l) (s':={s with heap:=hp}) k na ⟨_,_,ga,hc,hd,hb,eQ hle⟩ ⟨_,ga⟩ ⟨rfl,rfl,rfl⟩).elim λc' y=>⟨_,c',_,y.1,y.2.1,y.2.2,hk⟩
def Lm(P:Nat×BF->Prop):List (Nat×BF)->Prop
 |[]=>True
 |p::r=>P p/\Lm P r
theorem ui{P:Nat×BF->Prop}{x:Nat}{f:BF}:∀{l:List (Nat×BF)},Lm P l->Bq x l=some f->P (x,f)
 |p::r,h,e=>by
  have e:Bool.rec (motive:=λY=>Option BF) (Bq x r) (some p.2) (Vn p.1 x)=some f:=e
  cases q:Vn p.1 x with
  |true=>rw[q] at e;cases e;exact cX q▸h.1
  |false=>rw[q] at e;exact ui h.2 e
 |[],_,e=>nn e
theorem Hj(W:SW g):Lm (λp=>Lk g p.2 (jI p.1)) (Nf g.C):=
 ⟨ll (NV W),ll (GM W),ll NU,ll NW,ll NX,ll NY,Ll,ll (GK W),ll (KH W),ll (Dt W),trivial⟩
theorem wC(W:SW g){x:Nat}{args:List V}{vs:List Value}{K:V->H->Bool}(oa:dz g c n A)(I:cV g c h s)(hv:da g c args vs)(hk:builtin g.C x args h K=true):cQ g.M A (call (jI x) vs) (QV g c K) E s:=
 cP hk λY e hk=>ui (Hj W) e oa I hk hv
end
end
section
open PySem.SeqAt
variable{g:Gb}{c c':Cf}
section
variable{n:Nat}{r:Ev}{A:Around}{fr:Fr}{env:Env}{X:Nat->H->Bool}{h:H}{s:Shared}
inductive S6(g:Gb)(e:MT):Prop
 |mk (T id:String) (nm:Str) (hx:cd nm=e.x) (h0:cd nm≠0) (slot:Slot T nm id) (ty:typeOf (.builtin id)=pure (.type "method_descriptor")) (pa:PlainAttrs T)
  (is:∀{c:Cf} {h:H} {s:Shared} {a:V} {v:Value},cV g c h s->VR g c a v->e.t a h=true->s.TypeIs v T/\∀x,v=.ref x->∃o,s.heap.get? x=some o/\o.dict=none) (f:tP g e.f id)
def Ln(P:MT->Prop):List MT->Prop
 |[]=>True
 |p::r=>P p/\Ln P r
theorem uj{P:MT->Prop}{v:V}{m:Nat}{h:H}{f:V->BF}:∀{l:List MT},Ln P l->sO v m h l=some f->∃e,P e/\e.x=m/\e.t v h=true/\e.f=f
 |p::r,a,e=>by
  have e:Bool.rec (motive:=λY=>Option (V->BF)) (sO v m h r) (some p.f) (gd (Vn p.x m) (p.t v h))=some f:=e
  cases q:gd (Vn p.x m) (p.t v h) with
  |true=>rw[q] at e;exact cT q λq1 q2=>⟨p,a.1,cX q1,q2,Vl e⟩
  |false=>rw[q] at e;exact uj a.2 e
 |[],_,e=>nn e
theorem rP(W:SW g){c:Cf}{h:H}{s:Shared}{a:V}{v:Value}(I:cV g c h s)(hv:VR g c a v)(ht:xz g.C a h=true):s.TypeIs v "list"/\∀x,v=.ref x->∃o,s.heap.get? x=some o/\o.dict=none:=
 (Option.isSome_iff_exists.mp ht).elim λn e=>Go (P:=λv=>s.TypeIs v "list"/\∀x,v=.ref x->∃o,s.heap.get? x=some o/\o.dict=none) W I e hv λo x d e ho=>nX e ho λws h1 Y Y Y Y=>⟨h1.isList.typeIs,λy e=>by cases e;exact h1.noDict⟩
theorem Hk(W:SW g){c:Cf}{h:H}{s:Shared}{a:V}{v:Value}(I:cV g c h s)(hv:VR g c a v)(ht:Iy g.C a h=true):s.TypeIs v "dict"/\∀x,v=.ref x->∃o,s.heap.get? x=some o/\o.dict=none:=
 (Option.isSome_iff_exists.mp ht).elim λn e=>Go (P:=λv=>s.TypeIs v "dict"/\∀x,v=.ref x->∃o,s.heap.get? x=some o/\o.dict=none) W I e hv λo x d e ho=>by
  cases s4 e
  refine e12 ho λkvs h1 Y=>?_;clear ho
  exact⟨h1.typeIs,h1.mapOf.noDict⟩
theorem uk{c:Cf}{h:H}{s:Shared}{a:V}{v:Value}(hv:VR g c a v)(ht:u0 a h=true):s.TypeIs v "bytes"/\∀x,v=.ref x->∃o,s.heap.get? x=some o/\o.dict=none:=
 (Option.isSome_iff_exists.mp ht).elim λn e=>by
  cases d7 e
  refine e22 hv λb t zq87 Y=>?_;clear hv
  cases zq87
  exact⟨typeIs_bytes _ _ _,nofun⟩
theorem Lo{c:Cf}{h:H}{s:Shared}{a:V}{v:Value}(hv:VR g c a v)(ht:Nk a h=true):s.TypeIs v "str"/\∀x,v=.ref x->∃o,s.heap.get? x=some o/\o.dict=none:=
 (Option.isSome_iff_exists.mp ht).elim λn e=>by
  cases gD e
  refine e22 hv λb t zq88 Y=>?_;clear hv
  cases zq88
  exact⟨typeIs_str _ _ _,nofun⟩
theorem Hl(W:SW g)(D:WD g):Ln (S6 g) (FK g.C):=
 ⟨⟨_,_,Vm "append",(show cd (Vm "append")=sI by decide+kernel),by decide+kernel,F.slot_list_append,F.type_list_append,F.plainAttrs_list,rP W,Dz⟩,
  ⟨_,_,Vm "extend",(show cd (Vm "extend")=sJ by decide+kernel),by decide+kernel,F.slot_list_extend,F.type_list_extend,F.plainAttrs_list,rP W,DB W⟩,
  ⟨_,_,Vm "pop",(show cd (Vm "pop")=H8 by decide+kernel),by decide+kernel,F.slot_list_pop,F.type_list_pop,F.plainAttrs_list,rP W,N1⟩,
  ⟨_,_,Vm "get",(show cd (Vm "get")=H9 by decide+kernel),by decide+kernel,F.slot_dict_get,F.type_dict_get,F.plainAttrs_dict,Hk W,N2 W⟩,
  ⟨_,_,Vm "join",(show cd (Vm "join")=Bb by decide+kernel),by decide+kernel,iY,mT,mK,λ{_ h _ _ _} Y hv ht=>uk (h:=h) hv ht,KL W⟩,
  ⟨_,_,Vm "index",(show cd (Vm "index")=xp by decide+kernel),by decide+kernel,ig,l8,mK,λ{_ h _ _ _} Y hv ht=>uk (h:=h) hv ht,GV⟩,
  ⟨_,_,Vm "split",(show cd (Vm "split")=xo by decide+kernel),by decide+kernel,F.slot_str_split,F.type_str_split,F.plainAttrs_str,λ{_ h _ _ _} Y hv ht=>Lo (h:=h) hv ht,GW D⟩,trivial⟩
theorem Hm(W:SW g)(D:WD g){o:Expr}{name:Str}{ap p:Pos}{args:List Expr}{a:V}{v:Value}{K:V->H->Bool}{m:V->BF}(S:eP g n r)(oa:dz g c n A)(fe:FR g c A fr env)(I:cV g c h s)(hv:VR g c a v)
  (hs:eV args=true) (hlen:args.length≤20) (hr:sO a (cd name) h (FK g.C)=some m) (hline:ap.endLine=p.line) (hk:AY r fr args h (λvs h=>iy g.C (m a vs h K)) X=true):
  cQ g.M A (methodCall o name ap p env v (args.length+([]:List Keyword).length) (backTo p (starEach args env)) (backToKw p (keywordEach [] env))) (QV g c K) (EX g c A X) s:=by
 refine e14 (uj (Hl W D) hr) λe zq89 e1 e2 zq0=>?_
 obtain⟨T,id,nm,hx,h0,slot,ty,pa,is,f⟩:=zq89
 cases zq0
 cases et h0 (hx.trans e1)
 have hT:=is I hv e2
 exact qD hs hlen hline λY=>P<|getMethod_builtin hT.1 pa slot ty hT.2<|callWith_any (gv (fP hs)) (cO (mj S oa fe I hk) (λvs aj qq=>qq.elim λl ao aq ak am hl hK=>eW hK λY hK=>
  ⟨ec,cO (P (f am (hv.ext ak) hK hl)) (λY Y=>QV.mono ak) λY Y x=>x⟩) λY Y x=>x)
end
end
section
open PySem.SeqAt
variable{g:Gb}{c c':Cf}
theorem raiseStmt_bind{env:Env}{m:Sem Value}:raiseStmt env (some m) none=m>>=λv=>raiseStmt env (some (pure v)) none:=rfl
section
variable{n:Nat}{r q:Ev}{A:Around}{fr:Fr}{env:Env}{X:Nat->H->Bool}{h:H}{s:Shared}
theorem D8(T:EF g)(S:eP g n r){e cs:Option Expr}{p:Pos}(oa:dz g c n A)(f:FR g c A fr env)(I:cV g c h s)(hk:vn g.C r fr e cs h X=true):
  cQ g.M A (exec (.Raise e cs p) env) (λY Y=>False) (EX g c A X) s:=
 fM hk (λY Y h=>ft h) λhcs hk=>cP hk λe0 he0 hk=>eW hk λhq hk=>by
  obtain⟨Lg,fI,fd,bd,mL,dv,T⟩:=T
  cases hcs;cases he0
  rw[arm_exec_Raise]
  refine wpAny_bind (cU ?_)
  show cQ _ _ (raiseStmt env (some (do let v<-eval e0 env;standAt p;pure v)) none) _ _ _
  rw[raiseStmt_bind]
  refine wpAny_bind (wpAny_bind (cO (S.ev oa f I hk) (λv aa qq=>qq.elim λa ag ae ac af hv hK=>wpAny_bind (cU (wpAny_pure ?_))) λY Y x=>x))
  refine kR (P:=λv=>cQ g.M A (raiseStmt env (some (pure v)) none) (λY Y=>False) (EX g c A X) aa) hK hv λk hlt hK=>MP af hK λob y ho hy hor hK=>iX hK λhb hx hK=>cP hx λinf hi hx=>cT hx λhx h0=>?_
  refine e12 (T.cls hi hx (cX h0)) λmN XX Y=>?_
  have hor:OR g ag (.exc y.1 y.2.1 y.2.2) (ag.ρ k) (ag.δ k) aa.heap:=th hy▸hor
  obtain⟨o,vs,mm,o1,o2,o3,o4,o5,o6,o7⟩:=hor
  refine e11 (o7 hb) λt0 ht0=>?_
  subst ht0
  exact P (wb (XX.keeps af.base) o1 o2 o4 (oa.hh hq) (EX.mono ac ⟨k,ag,_,.refl ag,af.set (s':=aa) (o':=.exc y.1 y.2.1 false) ho (λY Y Y Y e=>e) ⟨o,_,mm,o1,o2,o3,o4,o5,o6,ft⟩ ⟨_,o1⟩ (af.pres _ hlt).2 ⟨rfl,rfl,rfl⟩ (λY q=>by
   rw[th hy] at q
   exact ft q),⟨y.1,y.2.1,(H.get_set ..).trans (if_pos rfl)⟩,rfl,.new o _ o1 o4 (by simp) rfl,hK⟩))
end
theorem cV.reC{C':i5}{h:H}{s:Shared}(I:cV g c h s):cV {g with C:=C'} c h s where
 len:=I.len
 obj k o e:=let⟨h1,h2⟩:=I.obj k o e;⟨h1,by
  refine(?_:OR (g.alt C' g.R g.S g.M0 g.s0 g.T0 g.dl g.ul) c o _ _ _)
  rw[oy];exact h2⟩
 pres:=I.pres
 tup:=I.tup
 dat:=I.dat
 rest:=I.rest
 fra:=I.fra
 base:=I.base
 inj:=I.inj
 off k hk a ha:=let⟨x,y⟩:=I.off k hk a ha;⟨⟨x.R,x.B,x.T,x.D⟩,y⟩
 offS a o ho:=let⟨x,y⟩:=I.offS a o ho;⟨⟨x.R,x.B,x.T,x.D⟩,y⟩
 sam:=I.sam
 t0:=I.t0
 m0:=I.m0
 ns:=I.ns
 tab:=I.tab
 offP:=⟨I.offP.R,I.offP.B,I.offP.T,I.offP.D⟩
 sm:=I.sm
 rT:=I.rT
theorem cV.unC{C':i5}{h:H}{s:Shared}(I:cV {g with C:=C'} c h s):cV g c h s:=cV.reC (g:={g with C:=C'}) (C':=g.C) I
theorem D9{C':i5}:VR {g with C:=C'}=VR g:=iO (g:=g) (C:=C') (R:=g.R) (S:=g.S) (M0:=g.M0) (s0:=g.s0) (T0:=g.T0) (dl:=g.dl) (ul:=g.ul)
section
variable{prog:Program}{w:World}{A:Around}{E:Value->Shared->Prop}{s:Shared}{env:Env}{R:Result->Shared->Prop}
theorem Az{e:Value}{t:Expr}{pos:Pos}(h:cQ (model prog w) A (eval t env) (λc aa=>cQ (model prog w) A (excMatches e c) (λb aj=>R (.ok (if b then .brk else .next)) aj) (λY Y=>False) aa) (λY Y=>False) s):
  c6 (model prog w) A (.handlers e [.ExceptHandler (some t) none [] pos] env) R s:=by
 refine c8 (λY Y=>rfl) ?_
 show cQ _ A (do return Fin.done (<-(handleWith e env [.ExceptHandler (some t) none [] pos]).onRaise (λx=>do noteFrame x env;theTreesLotGoes x))) _ _ s
 refine wpAny_bind (dV ?_)
 unfold handleWith
 refine wpAny_bind (cU (wpAny_bind (cO h (λc aa ae=>wpAny_bind (cU (wpAny_bind (cO ae (λb aj aq=>wpAny_pure (wpAny_pure ?_)) λY Y x=>x.elim)))) λY Y x=>x.elim)))
 exact aq
theorem wD{e:Value}{body:List Stmt}{pos:Pos}{name:Option Str}
  (h:PySem.wpAny (model prog w) A (setFlight e none) (λY aa=>match name with
   |none=>cQ (model prog w) A (execs body env) (λf aj=>R (.ok f) aj) (λY Y=>False) aa
   |some n=>PySem.wpAny (model prog w) A (storeName env n e) (λY aj=>cQ (model prog w) A (execs body env) (λf av=>R (.ok f) av) (λY Y=>False) aj) (λY Y=>False) aa) (λY Y=>False) s):
  c6 (model prog w) A (.handlers e [.ExceptHandler none name body pos] env) R s:=by
 refine c8 (λY Y=>rfl) ?_
 show cQ _ A (do return Fin.done (<-(handleWith e env [.ExceptHandler none name body pos]).onRaise (λx=>do noteFrame x env;theTreesLotGoes x))) _ _ s
 refine wpAny_bind (dV ?_)
 unfold handleWith
 refine wpAny_bind (cU (wpAny_bind (cO (P h) (λY aa ae=>?_) λY Y x=>x.elim)))
 cases name with
 |none=>exact cO ae (λf aj aq=>wpAny_pure aq) λY Y x=>x.elim
 |some n=>
  refine wpAny_bind (P (wpAny_bindName (PySem.wpAny_mono ae (λY aj aq=>?_) λY Y x=>x.elim)))
  refine wpAny_bind (hU (cO aq (λf av aw=>wpAny_pure (wpAny_pure aw)) λY Y x=>x.elim))
theorem AA{e:Value}{t:Expr}{name:Option Str}{body:List Stmt}{pos:Pos}{Q:Flow->Shared->Prop}
  (h:c6 (model prog w) (A.mark (some e)) (.handlers e [.ExceptHandler (some t) none [] pos] env) (λr aa=>match r with
   |.ok .brk=>c6 (model prog w) (A.mark (some e)) (.handlers e [.ExceptHandler none name body pos] env) (λr aj=>match r with
     |.ok f=>(match name with
      |none=>Q f aj
      |some n=>PySem.wpAny (model prog w) A (do bindName env n .none;unbindBehindTheSuite env n pos) (λY av=>Q f av) E aj)
     |.error _=>False) aa
   |_=>False) s) (hnb:e≠byPass):
  cQ (model prog w) A (handleBy e env [.ExceptHandler (some t) name body pos]) Q E s:=by
 rw[handleBy]
 have hnb':(some e:Option Value)≠some byPass:=λx=>hnb (Vl x)
 refine wpAny_bind (cS (gn (dC h (λr aa ae=>?_)) hnb'))
 cases r with
 |error x=>exact ae.elim
 |ok f=>
  cases f with
  |brk=>
   refine wpAny_bind (wpAny_pure ?_)
   refine eS Vs ?_
   refine wpAny_bind (cS (gn (dC ae (λr aj aq=>?_)) hnb'))
   cases r with
   |error x=>exact aq.elim
   |ok f=>
    cases name with
    |none=>exact wpAny_pure aq
    |some n=>exact wpAny_bind (cS (cO (P aq) (λY av aw=>wpAny_pure aw) λY Y x=>x))
  |_=>exact ae.elim
theorem Ea{body orelse:List Stmt}{aW:ExceptHandler}{pos:Pos}{Q:Flow->Shared->Prop}
  (h:cQ (model prog w) A (execs body env) (λf aa=>match f with|.next=>cQ (model prog w) A (execs orelse env) Q E aa|f=>Q f aa)
   (λe aa=>PySem.wpAny (model prog w) A (noteFrame e env) (λY aj=>PySem.wpAny (model prog w) A (setFlight e none) (λY av=>cQ (model prog w) A (handleBy e env [aW]) Q E av) E aj) E aa) s):
  cQ (model prog w) A (exec (.Try body [aW] orelse [] pos) env) Q E s:=by
 rw[arm_exec_Try]
 refine wpAny_bind (cU ?_)
 unfold tryStmt
 refine kX (c:=(List.isEmpty ([]:List Stmt))=true) rfl ?_
 refine wpAny_bind (hU (cO h (λf aa ae=>?_) λe aa ae=>?_))
 .cases f<;>first|exact ae|exact wpAny_pure ae
 .exact wpAny_bind (cO (P ae) (λY Y aq=>eS Vs (wpAny_bind (cO (P aq) (λY Y aw=>eS Vs (eS Vs aw)) λY Y x=>x))) λY Y x=>x)
end
section
variable{n:Nat}{r q:Ev}{A:Around}{fr:Fr}{env:Env}{X:Nat->H->Bool}{h:H}{s:Shared}{E:Value->Shared->Prop}
theorem Eb{a:V}{k:Nat}(h:Bw a=some k):a=.cls k:=by
 cases a with
 |cls y=>exact congrArg V.cls (Vl h)
 |_=>exact nn h
theorem Hn{k:NameKind}(h:FM k=true):k=.globalImplicit:=by
 cases k with
 |globalImplicit=>rfl
 |_=>exact ft h
theorem Ec{k:NameKind}(h:Iz k=true):k=.local:=by
 cases k with
 |«local»=>rfl
 |_=>exact ft h
theorem pf(G:GF g){B:Around}{e:Expr}{ci:Nat}{Q:Value->Shared->Prop}(f:FR g c A fr env)(st:g.B.StaysIn s.heap)(hk:nc g.C fr e=some ci)(hq:Q (.ref (g.ca ci)) s):PySem.wpAny g.M B (eval e env) Q E s:=
 cW hk λx hx hk=>cW hk λk hkd hk=>dK hk λhgi hk=>cW hk λa ha hk=>by
  cases Eb hk;cases Hn hgi
  refine e11 (jF hx) λp hx=>?_
  refine e02 (eX f hkd) λhx0 ke=>?_
  have hd:(x==("__debug__":Str))=false:=by
   cases hq:(x==("__debug__":Str)) with
   |false=>rfl
   |true=>exact nn (f.dbg.symm.trans (eq_of_beq hq▸ke))
  rw[hx,eval_Name _ _ _ hd]
  refine PySem.wpAny_bind (PySem.wpAny_standAt ?_)
  refine e23 G.glob λmg mb hg hb hall=>?_
  rw[loadName_read f.kind ke]
  exact(hall x _ hx0 ha).elim (λ⟨b,e1,_⟩=>V.noConfusion e1) λ⟨v,hv,hvr⟩=>Calls.loadGlobal_global (f.glob▸hg.keeps st) hv ((show v=.ref (g.ca ci) from hvr)▸hq)
theorem rQ{e:Expr}{ci:Nat}(hk:nc g.C fr e=some ci):∀x p,e≠.Starred x p:=λx p q=>by
 subst q
 exact nn hk
theorem um(G:GF g){B:Around}{pos:Pos}(f:FR g c A fr env)(st:g.B.StaysIn s.heap){es:List Expr}:∀{cs:List Nat} {Q:List Value->Shared->Prop},nK g.C fr es=some cs->Q (cs.map λi=>.ref (g.ca i)) s->PySem.wpAny g.M B (spliced (backTo pos (starEach es env))) Q E s:=by
 induction es with
 |nil=>
  intro cs Q hk hq
  cases hk
  exact PySem.wpAny_items_nil hq
 |cons e es ih=>
  intro cs Q hk hq
  refine cW hk λci e1 hk=>cW hk λl e2 hk2=>?_
  cases hk2
  exact PySem.wpAny_items_cons (pf G f st e1 (ih e2 hq)) (hO (rQ e1))
theorem rR{es:List Expr}:∀{cs:List Nat},nK g.C fr es=some cs->cs.length=es.length:=by
 induction es with
 |nil=>exact λh=>si h▸rfl
 |cons e es ih=>exact λh=>cW h λY Y h=>cW h λl e2 h=>si h▸congrArg (· +1) (ih e2)
def Ug(g:Gb)(cs:List Nat)(v:Value)(h:Heap):Prop:=(∃i,cs=[i]/\v=.ref (g.ca i))\/∃T,v=.ref T/\h.IsTuple T (cs.map λi=>Value.ref (g.ca i)).toArray
theorem Ed(G:GF g){B:Around}{e:Expr}{cs:List Nat}{Q:Value->Shared->Prop}(f:FR g c A fr env)(st:g.B.StaysIn s.heap)(hk:By g.C fr e=some cs)
  (hq:∀v h',(∀b o,s.heap.get? b=some o->h'.get? b=some o)->Ug g cs v h'->Q v {s with heap:=h'}):PySem.wpAny g.M B (eval e env) Q E s:=
 fN hk (λhk=>cW hk λes he hk=>dK hk λhl hk=>by
  refine e21 (ow he) λk p he=>?_
  rw[he]
  exact PySem.wpAny_Tuple (um G f st hk ⟨by rw[VG,rR hk];exact dD (Vo (eQ hl) (Vw rfl)),hq _ _ (λb o q=>Vp _ q) (.inr ⟨_,rfl,_,Vx _ rfl,rfl,_,rfl⟩)⟩)) λhk=>cW hk λci e1 hk=>
  pf G f st e1 (hq _ s.heap (λY Y q=>q) (.inl ⟨_,si hk,rfl⟩))
theorem AB(T:EF g){d:Nat}{cs:List Nat}{b:Bool}(h:nJ g.C d cs=some b)(hne:cs≠[]):∃Lg mN mL,eR g.B (g.ca d) Lg mN mL/\(∀i∈cs,pP g.B (g.ca i))/\(cs.any λi=>(Value.ref (g.ca d)::.ref Lg::eb).contains (.ref (g.ca i)))=b:=by
 obtain⟨Lg,fI,fd,bd,mL,dv,T⟩:=T
 have zQ:∀{i:Nat} {a:Bool},Bx g.C d i=some a->(∃mN,eR g.B (g.ca d) Lg mN mL)/\pP g.B (g.ca i)/\(Value.ref (g.ca d)::.ref Lg::eb).contains (.ref (g.ca i))=a:=λ{i a} h=>
  cW h λdi h1 h=>cW h λci h2 h=>dK h λc1 h=>dK h λc2 h=>dK h λc3 h=>(T.cls h1 c1 (cX c2)).elim λmN q=>⟨⟨mN,q.1⟩,T.any h2 c3,(T.sub h1 h2 c1 (cX c2) c3).trans (Vl h)⟩
 have all:∀{b:Bool},nJ g.C d cs=some b->(∀i∈cs,pP g.B (g.ca i))/\(cs.any λi=>(Value.ref (g.ca d)::.ref Lg::eb).contains (.ref (g.ca i)))=b:=by
  clear h hne
  induction cs with
  |nil=>exact λh=>⟨λi q=>absurd q Vv,Vl h⟩
  |cons i cs ih=>
   exact λh=>cW h λa e1 h=>cW h λb' e2 h=>by
    refine e02 (ih e2) λi1 i2=>?_
    refine⟨λj hj=>(List.mem_cons.mp hj).elim (λe=>e▸(zQ e1).2.1) (i1 j),?_⟩
    rw[WC,(zQ e1).2.2,i2]
    exact Vl h
 refine e02 (all h) λh1 h2=>?_
 cases cs with
 |nil=>exact absurd rfl hne
 |cons i r=>exact cW h λa e1 Y=>(zQ e1).1.elim λmN XX=>⟨Lg,mN,mL,XX,h1,h2⟩
theorem pP.keeps{h h':Heap}{D:Addr}(x:pP h D)(k:h.StaysIn h'):pP h' D:=by
 refine e12 x λxd h1 h2=>?_;clear x
 exact⟨xd,k _ _ h1,h2⟩
theorem i6.keep{e:Addr}{m:Value}{s':Shared}(x:i6 g c e m s)(k:∀b o,s.heap.get? b=some o->s'.heap.get? b=some o):i6 g c e m s':=by
 obtain⟨oe,vs,T,ot,tvs,x1,x2,x3,x4,t1,t2,t3,t4,t5⟩:=x
 exact⟨oe,vs,T,ot,tvs,k _ _ x1,x2,x3,x4,k _ _ t1,t2,t3,t4,t5⟩
theorem Lp(T:EF g){M:Model}{B:Around}{d:Nat}{cs:List Nat}{b:Bool}{x:Addr}{o:Obj}{v:Value}{Q:Bool->Shared->Prop}(st:g.B.StaysIn s.heap)(hb:nJ g.C d cs=some b)(hx:s.heap.get? x=some o)(hc:o.cls=.ref (g.ca d))(hv:Ug g cs v s.heap)(hne:cs≠[])(hq:Q b s):
  PySem.wpAny M B (excMatches (.ref x) v) Q E s:=by
 refine e33 (AB T hb hne) λLg mN mL XX h1 h2=>?_
 rcases hv with⟨i,rfl,rfl⟩|⟨Tu,rfl,ht⟩
 .refine Ag (XX.keeps st) hx hc ((h1 i Vq).keeps st) ?_ hq
  simpa using h2
 .refine Ah (ds:=cs.map g.ca) (b:=b) (XX.keeps st) hx hc (by rw[W3];exact ht) (λD hD=>?_) ?_ hq
  .refine e12 (List.mem_map.mp hD) λi hi zq1=>?_
   cases zq1
   exact(h1 i hi).keeps st
  .rw[List.any_map];exact h2
theorem cV.kill{k:Nat}(I:cV g c h s)(hk:k<c.n)(hN:¬c.N k):cV g c (h.set k .dead) s:=
 {I with
  len:=I.len.trans (H.length_set ..).symm
  obj:=λi o e=>by
   rw[H.get_set] at e
   by_cases q:k=i
   .subst q;rw[if_pos rfl] at e;cases e;exact⟨hk,trivial⟩
   .rw[if_neg q] at e;exact I.obj i o e
  ns:=λi hi=>by
   refine e12 (I.ns i hi) λo h1 h2=>?_
   exact⟨o,by rw[H.get_set,if_neg (by intro q;subst q;exact hN hi)];exact h1,h2⟩}
theorem QF.kill{C':i5}{k:Nat}{K:gf->H->Bool}{fl:Flow}{s:Shared}(hk:k<c.n)(hN:¬c.N k)(x:QF {g with C:=C'} c (λf h=>K f (h.set k .dead)) fl s):QF g c K fl s:=by
 cases fl with
 |next=>
  obtain⟨c',h,e,I,q⟩:=x
  exact⟨c',_,e,I.unC.kill (Vt hk e.n) (λq=>hN (e.M k hk q)),q⟩
 |ret v=>
  obtain⟨a,c',h,e,I,hv,q⟩:=x
  exact⟨a,c',_,e,I.unC.kill (Vt hk e.n) (λq=>hN (e.M k hk q)),by rw[D9] at hv;exact hv,q⟩
 |brk=>exact x
 |cont=>exact x
theorem qH{B:Around}{x:Str}{pos:Pos}{K:H->Bool}(f:FR g c A fr env)(I:cV g c h s)(hk:xJ fr (cd x) h K=true):
  PySem.wpAny g.M B (do bindName env x .none;unbindBehindTheSuite env x pos) (QU g c K) E s:=
 cP hk λk k1 hk=>cT hk λk2 hk=>cP hk λm hm hk=>cW hm λo hm e=>by
  cases Ec k2
  rw[mD e] at hm
  refine e02 (eX f k1) λhx ke=>?_
  obtain⟨hlt,mm,hns,hnr⟩:=I.obj _ _ hm
  have hp:(env.scope.kind==.class||(env.scope.kind==.module&&env.locals !=env.globals))=false:=by rw[f.kind];rfl
  refine PySem.wpAny_bind (wpAny_bindName (wpAny_storeName_local ke (f.loc▸hns) (λh1 hn1 hs1=>?_) hp))
  unfold unbindBehindTheSuite
  refine PySem.wpAny_onRaise (wpAny_unbindName_local ke hn1 (v:=.none) (if_pos rfl) hp λh2 u hn2 hs2=>⟨c,_,.refl c,?_,hk⟩)
  rw[f.loc] at hn2 hs1 hs2
  refine e32 (id hn2) λob es ep ho r=>?_
  refine I.set (s':={s with heap:=h2,toks:=s.toks+1}) (o':=.nsU) hm (λb ob hb Y e=>(hs2.2 b hb).trans ((hs1.2 b hb).trans e)) ⟨_,hn2⟩ ⟨_,ho⟩ ?_ ⟨rfl,rfl,rfl⟩ (λY Y=>rfl)
  refine e11 ((I.pres _ hlt).2) λod hod=>?_
  by_cases q:c.δ fr.ns=c.ρ fr.ns
  .exact⟨_,q▸ho⟩
  .exact⟨od,(hs2.2 _ q).trans ((hs1.2 _ q).trans hod)⟩
theorem Lq{e:ExceptHandler}{p:Expr×Option Str×List Stmt}(h:xA e=some p):∃q,e=.ExceptHandler (some p.1) p.2.1 p.2.2 q:=by
 obtain⟨ty,nm,hb,q⟩:=e
 exact cW h λt e h=>⟨q,by rw[e,<-Vl h]⟩
theorem Lr(G:GF g)(T:EF g)(S:eP g n r)(Sq:eP {g with C:=iD g.C} n q){b:List Stmt}{ty:Expr}{nm:Option Str}{hb:List Stmt}{hp p:Pos}{K:gf->H->Bool}(oa:dz g c n A)(f:FR g c A fr env)(I:cV g c h s)(hq:g.C.quiet=false)
  (hk:r.ex fr b h K (λk h=>cR (By g.C fr ty) λcs=>BV g.C q fr nm hb k K (λY Y=>false) cs h)=true):
  cQ g.M A (exec (.Try b [.ExceptHandler (some ty) nm hb hp] [] [] p) env) (QF g c K) (EX g c A X) s:=by
 refine Ea (cO (S.ex oa f I hk) (λfl aa x=>?_) λe aa ⟨k,ag,ae,ac,af,⟨ci,m,he⟩,hev,fl,hX⟩=>?_)
 .cases fl with
  |next=>exact eY x
  |ret v=>exact x
  |brk=>exact x
  |cont=>exact x
 .subst hev
  refine e12 (xU hX) λcs hcs hX=>?_
  have aH:=f.ext ac
  refine lI (oa.up ac) aH af he fl λL aj hL am hh=>hY (o:=none) am he hh λav az hh=>cP hX λhit0 hit hX=>cT hX λhb1 hX=>?_
  unfold xB at hit
  rw[he] at hit
  subst hb1
  have hit:nJ g.C ci cs=some true:=hit
  .have hne:cs≠[]:=λq=>by subst q;cases hit
   refine AA (Az (P (Ed G aH az.base hcs λv h' k' hv=>?_))) (by intro q;cases q)
   have aF:=az.keep (s':={av with heap:=h'}) k' ⟨rfl,rfl,rfl⟩
   obtain⟨_,ox,vs,mm,o1,o2,_⟩:=aF.obj _ _ he
   refine P (Lp T (s:={av with heap:=h'}) aF.base hit o1 o2 hv hne ?_)
   simp only[if_true]
   have aY:=hh.keep (s':={av with heap:=h'}) k'
   refine wD (hY (o:=none) aF he aY λaR aO Y=>?_)
   have oaq:dz {g with C:=iD g.C} ag n (A.mark (some (.ref (ag.ρ k)))):=by
    have:=oa.up ac
    exact⟨λq=>(by cases q),this.dep',this.un',this.lid,let⟨l,h1,h2⟩:=this.fr;⟨l,h1,FL.imp (g:=g) (g':={g with C:=iD g.C}) (c:=ag) (c':=ag) (λY q=>q) h2⟩⟩
   have fq:FR {g with C:=iD g.C} ag (A.mark (some (.ref (ag.ρ k)))) fr env:=⟨aH.kind,aH.names,aH.ins,aH.loc,aH.cells,aH.glob,aH.bi,aH.cls,aH.inter,aH.dbg,aH.cdict,aH.lk,aH.lam⟩
   have hlt:=(af.obj _ _ he).1
   have hNk:¬ag.N k:=λq=>by
    refine e12 (af.ns k q) λo q1 q2=>?_
    rw[he] at q1;cases q1;cases q2
   cases nm with
   |none=>
    refine cO (Sq.ex oaq fq aO.reC hX) (λfl aX x=>?_) λe aX x=>?_
    .exact QF.mono ac (QF.kill hlt hNk x)
    .obtain⟨_,_,_,_,_,_,_,_,q⟩:=x
     cases q
   |some x=>
    have hX:vk q fr (cd x) hb k (λf h=>K f (h.set k .dead)) (λY Y=>false) ae=true:=hX
    unfold vk at hX
    have hve:VR {g with C:=iD g.C} ag (.ref k) (.ref (ag.ρ k)):=⟨hlt,rfl⟩
    refine PySem.wpAny_mono (lO (g:={g with C:=iD g.C}) fq aO.reC hve hX) (λY aX qq=>qq.elim λao aq ak a9 hK=>?_) λY Y x=>x
    refine cO (Sq.ex (oaq.ext aO.reC ak) (fq.ext ak) a9 hK) (λfl cM x=>?_) λe aX x=>?_
    .have aL:FR g ao A fr env:=aH.ext ak
     cases fl with
     |next=>
      obtain⟨aA,aw,au,bc,hK⟩:=x
      refine PySem.wpAny_mono (qH (aL.ext au) bc.unC hK) (λY bx qq=>qq.elim λaC ax aD bQ hK=>?_) λY Y x=>x
      have e14:=(ak.trans au).trans aD
      exact⟨aC,_,ac.trans e14,bQ.kill (Vt hlt e14.n) (λq=>hNk (e14.M k hlt q)),hK⟩
     |ret v=>
      obtain⟨a,aA,aw,au,bc,hv,hK⟩:=x
      rw[D9] at hv
      refine PySem.wpAny_mono (qH (aL.ext au) bc.unC hK) (λY bx qq=>qq.elim λaC ax aD bQ hK=>?_) λY Y x=>x
      have e14:=(ak.trans au).trans aD
      exact⟨a,aC,_,ac.trans e14,bQ.kill (Vt hlt e14.n) (λq=>hNk (e14.M k hlt q)),hv.ext aD,hK⟩
     |brk=>exact x.elim
     |cont=>exact x.elim
    .obtain⟨_,_,_,_,_,_,_,_,q⟩:=x
     cases q
theorem Ls(G:GF g)(T:EF g)(S:eP g n r)(Sq:eP {g with C:=iD g.C} n q){b o fi:List Stmt}{hs:List ExceptHandler}{p:Pos}{K:gf->H->Bool}(oa:dz g c n A)(f:FR g c A fr env)(I:cV g c h s)(hk:vm g.C r q fr b hs o fi h K X=true):
  cQ g.M A (exec (.Try b hs o fi p) env) (QF g c K) (EX g c A X) s:=
 iX hk λho hf hk=>cP hk λe he hk=>cP hk λp0 hp hk=>eW hk λhq hk=>(Lq hp).elim λq0 hq0=>by
  rw[fQ ho,fQ hf,jC he,hq0]
  exact Lr G T S Sq oa f I hq hk
end
end
section
open PySem.SeqAt
variable{g:Gb}{c c':Cf}
section
variable{prog:Program}{w:World}{A:Around}{E:Value->Shared->Prop}{s:Shared}{R:Result->Shared->Prop}
theorem rS{e:Expr}{env:Env}
  (h:cQ (model prog w) (A.deeper env) (eval e env) (λv s'=>R (.ok (.ret v)) s') (λe' s'=>PySem.wpAny (model prog w) (A.deeper env) (leaving env e') (λY s''=>R (.error e') s'') (λe'' s''=>R (.error e'') s'') s') s):
  c6 (model prog w) A (.expr e env) R s:=by
 refine c8 (λY Y=>rfl) ?_
 show cQ _ (A.deeper env) (do point;ret (<-(eval e env).onRaise (leaving env))) _ _ s
 exact wpAny_bind (jq (wpAny_bind (dV (cO h (λv s' h'=>wpAny_pure h') λY Y h'=>P h'))))
theorem jK{a:Addr}{args:Args}{o:Obj}{fd:FuncData}{body:Expr}(hroom:A.depth<recursionLimit)(ho:s.heap.get? a=some o)(hd':o.data=.func fd)(hco:fd.scope.isCoroutine=false)(hgen:fd.scope.isGenerator=false)
  (hbody:fd.body=.expr body) (hcd:s.heap.CodeRec fd.code fd.qualname)
  (h:PySem.wpAny (model prog w) A.in1 (bindArgs fd args) (λbinds aa=>PySem.wpAny (model prog w) A.in1 (newFunctionEnv fd.scope fd.globals fd.closure binds (fd.qualname++".<locals>.") (some a) fd.code none fd.builtins)
    (λenv aj=>aj.heap.NoLimit/\c6 (model prog w) A (.expr body env) R aj) (λe s'=>R (.error e) s') aa) (λe s'=>R (.error e) s') s):
  c6 (model prog w) A (.call (.ref a) args) R s:=
 yD (cd:=λenv=>.expr body env) hroom ho hd' hco hgen (λenv=>⟨by rw[hbody],rfl⟩) hcd h
theorem Ee{fd:FuncData}{n:Str}{an:Option Expr}{p:Pos}{v:Value}{Q:List (Str×Value)->Shared->Prop}(hp:fd.params=⟨[],[⟨n,an,p⟩],none,[],[],none,[]⟩)(hd:fd.defaults=.none)(h:Q [(n,v)] s):PySem.wpAny (model prog w) A (bindArgs fd ⟨[v],[]⟩) Q E s:=
 iR (vs:=[v]) (dl:=[]) hp (.inl ⟨hd,rfl⟩) (List.nodup_cons.mpr ⟨Vv,W9⟩) (VA 1) (VA 1) (V6 1) _ A E Q h
end
section
variable{n:Nat}{r:Ev}{A:Around}{X:Nat->H->Bool}{h:H}{s:Shared}
theorem Ef(F:FF g)(S:eP g n r){k:Nat}{args:List V}{vs:List Value}{K:V->H->Bool}(oa:dz g c (n+1) A)(I:cV g c h s)(hv:da g c args vs)(hk:vg r k args h K X=true):
  cQ g.M A (call (.ref (c.ρ k)) vs) (QV g c K) (EX g c A X) s:=
 MP I hk λo l e e1 ho hk=>a1 hk hv λv w hv0 hk=>by
  cases IU e1
  refine e26 ho λo fd ho hcl hfd L hclo hcode=>?_
  refine e32 L.par λm an p hpar hx=>?_
  refine e44 hcode λc' oc fs t q1 q2 q3 q4=>?_;clear hcode
  refine fR (jK oa.deep ho hfd L.co L.gen L.body ⟨c',oc,fs,t,q1,I.dat _ _ q2,q3,q4⟩ (Ee hpar L.dfl ?_))
  rw[L.glob,L.bi]
  have hk:Prod.rec (motive:=λY=>Bool) (λfr h=>d9 fr h (λh=>r.ev fr l.body h K X) [l.x] [v]) (eA false l.sc l.cells h)=true:=hk
  rw[<-L.names,<-hx] at hk
  refine frame_ok (K:=λfr h=>r.ev fr l.body h K X) (lm:=false) (vs:=[v]) (binds:=[(m,w)]) L.kind L.nocls L.nodbg L.nocd (λY q=>nn q) (λq Y Y=>ft q) hclo I (da.cons hv0 da.nil) hk λfr env ag ae aa Z hK=>⟨F.lim.keeps Z.i.base,rS ?_⟩
  refine e03 (Z.within oa) λf hN hoa=>?_
  have bp:=hoa ag Z.e f.ins hN f.loc
  exact cO (S.ev bp f Z.i hK) (λw aj q=>q.mono Z.e) λe aj q=>PySem.wpAny_mono (sW bp f q) (λY Y y=>EX.mono Z.e y) λY Y y=>y
theorem wE{k:Nat}{x:Nat}{b:Expr}{sc:List (Nat×NameKind)}{cs:List (Nat×Nat)}(I:cV g c h s)(e:h.get k=some (.lam x b sc cs)):fB g (.ref (c.ρ k)) s:=by
 obtain⟨_,o,fd,ho,hcl,hfd,L⟩:=I.obj k _ e
 exact lP ho hfd
end
end
section
open PySem.SeqAt
variable{g:Gb}{c c':Cf}
section
variable{n:Nat}{r:Ev}{A:Around}{fr:Fr}{env:Env}{X:Nat->H->Bool}{h:H}{s:Shared}
theorem Oc(S:eP g n r){t:Expr}{b:List Stmt}{K:gf->H->Bool}(oa:dz g c n A)(f:FR g c A fr env)(I:cV g c h s)(hk:BU g.C r fr t b h K X=true):
  c6 g.M A (.whileLoop t b [] env) (λq s'=>match q with|.ok f=>QF g c K f s'|.error e=>dT g c A env X e s') s:=by
 refine e02 (kN hk) λY hk=>?_
 have nt:∀(ag:Cf) ae aa,dA c ag->cV g ag ae aa->∀e s',EX g ag A X e s'->notedBy g.M A env (λe s'=>dT g c A env X e s') e s':=λag ae aa ac af e s' x=>
  PySem.wpAny_mono (xY (oa.ext I ac) (f.ext ac) x) (λY Y y=>dT.mono ac y) λY Y y=>dT.mono ac y
 refine c8 (λY Y=>rfl) ?_
 show cQ g.M A ((whileTurn t b [] env).onRaise (λx=>do noteFrame x env;theTreesLotGoes x)) _ _ s
 refine gV ?_
 delta whileTurn
 refine wpAny_bind (cO (S.tr oa f I hk) (λbl aa qq=>qq.elim λag ae ac af hK=>?_) λe s' x=>nt c h s (.refl c) I e s' x)
 cases bl with
 |false=>
  refine eS Vs ?_
  exact wpAny_bind (eY (wpAny_pure ⟨ag,ae,ac,af,hK⟩))
 |true=>
  refine kX rfl ?_
  refine wpAny_bind (cO (S.ex (oa.ext I ac) (f.ext ac) af hK) (λfl aj x=>?_) λe s' x=>nt ag ae aa ac af e s' x)
  cases fl with
  |next=>
   obtain⟨ao,aq,ak,am,hK⟩:=x
   refine wpAny_pure ⟨rfl,dC (S.wh ((oa.ext I ac).ext af ak) ((f.ext ac).ext ak) am hK) λq s' y=>?_⟩
   cases q with
   |ok f=>exact QF.mono (ac.trans ak) y
   |error e=>exact dT.mono (ac.trans ak) y
  |ret v=>
   obtain⟨a,ao,aq,ak,am,hv,hK⟩:=x
   exact wpAny_pure ⟨a,ao,aq,ac.trans ak,am,hv,hK⟩
  |brk=>exact x.elim
  |cont=>exact x.elim
end
def qd(g:Gb):Prop:=∀{n:Nat} {A:Around} {i:Nat} {args:List V} {vs:List Value} {c:Cf} {h:H} {s:Shared} {outs:List dW} {K:V->H->Bool} {X:Nat->H->Bool},dz g c (n+1) A->cV g c h s->da g c args vs->g.C.quiet=false->g.C.P i args h=some outs->JS outs h K X=true->
  cQ g.M A (call (.ref (g.fa i)) vs) (QV g c K) (EX g c A X) s
structure Ft(g:Gb):Prop where
 G:GF g
 W:SW g
 CL:CF g
 F:FF g
 E:EF g
 D:WD g
 L:LF g
 tok:∀{c:Cf} {k:Nat} {v:Value},g.TK k c v->∃a,a∈g.C.toks k/\VR g c a v
 prim:qd g
theorem AC{F:V->Option (List V)}{l:List V}:∀{vs:List V} {a:V},Bl F l=some vs->a∈l->∃ws,F a=some ws/\∀w∈ws,w∈vs:=by
 induction l with
 |nil=>exact λY h=>absurd h Vv
 |cons x l ih=>
  exact λe h=>cW e λy h1 e=>cW e λz h2 e=>by
   cases e
   cases h with
   |head=>exact⟨y,h1,λw hw=>List.mem_append_left _ hw⟩
   |tail _ h=>exact(ih h2 h).elim λws q=>⟨ws,q.1,λw hw=>WA _ (q.2 w hw)⟩
abbrev Eg(g:Gb):Prop:=∀{c:Cf} {k:Nat} {v:Value},g.TK k c v->∃a,a∈g.C.toks k/\VR g c a v
theorem wF(tok:Eg g){n f:Nat}:∀{a:V} {vs:List V} {v:Value},xu g.C.toks n f a=some vs->VR g c a v->∃xs x,VR g c (.tup xs) v/\xs.length≤10000/\fF xs n=some x/\x∈vs:=by
 induction f with
 |zero=>exact λe Y=>nn e
 |succ f ih=>
  exact λe hv=>fN e (λe=>cW e λxs e1 e=>dK e λh1 e=>cW e λx h2 e=>by
   cases e;cases eE e1
   exact⟨_,x,hv,eQ h1,h2,Vq⟩) λe=>cW e λk e1 e=>by
   cases hZ e1
   refine e12 (tok hv) λb b1 b2=>?_
   refine e12 (AC e b1) λws w1 w2=>?_
   refine e24 (ih w1 b2) λxs x q1 q2 q3 q4=>?_
   exact⟨xs,x,q1,q2,q3,w2 x q4⟩
theorem wG{α:Type}:∀{l:List α} {i:Nat} {x:α},fF l i=some x->i<l.length
 |[],_,_,e=>nn e
 |_::l,0,_,_=>VL _
 |_::l,i+1,_,e=>Nat.succ_lt_succ (wG (l:=l) e)
theorem Lu(tok:Eg g){K:V->Bool}{f:Nat}:∀{a:V} {v:Value},MI g.C K f a=true->VR g c a v->∃b,VR g c b v/\K b=true:=by
 induction f with
 |zero=>exact λhk hv=>⟨_,hv,hk⟩
 |succ f ih=>
  exact λhk hv=>fM hk (λk e hk2=>cW e λk' e1 e=>dK e λY e=>by
   cases si e;cases hZ e1
   exact(tok hv).elim λb q=>ih (c9 hk2 q.1) q.2) λY hk=>⟨_,hv,hk⟩
theorem Jc{a b:Bool}(h:a=true):dj a b=true:=by cases h;rfl
theorem Ho(W:SW g)(tok:Eg g){A:Around}{E:Value->Shared->Prop}{h:H}{s:Shared}{e i:Expr}{p:Pos}{a b:V}{v w:Value}{K:V->H->Bool}(I:cV g c h s)(hv:VR g c a v)(hw:VR g c b w)(hk:(JK g.C a b h λv=>K v h)=true)(hs:∀lo hi st p,i≠.Slice lo hi st p):
  PySem.wpAny g.M A (pM e i p v w) (QV g c K) E s:=by
 refine PySem.wpAny_mono (Q:=QV g c λv h=>MI g.C (λv=>K v h) 3 v) ?_ (λv s' qq=>qq.elim λa c' h' e' I' va hK=>(Lu tok hK va).elim λb q=>⟨b,c',h',e',I',q.1,q.2⟩) λY Y q=>q
 exact eL hk (λhk=>cP hk λk e1 hk=>kI (P:=λw=>PySem.wpAny g.M A (pM e i p v w) _ E s) hk hw λai m u hm hk=>cP hk λn e2 hk=>cT hk λhn hk=>cP hk λvs e3 hk3=>by
  refine e24 (wF tok e3 hv) λxs x m2 q2 q3 q4=>?_
  have hj:=Ct (wG q3)
  rw[Wu (of_decide_eq_true hn)] at hj
  cases hm.cst e2
  refine Dk W I m2 (eG (a:=.c m) rfl) ?_ hs
  refine Jc (Jc ?_)
  refine(?_:gd (Vy xs.length 10000) (cR (dq (JH xs.length m) λj=>dq (fF xs j) λv=>some [v]) λvs=>dG (nH vs) (MI g.C (λv=>K v h) 3))=true)
  rw[show JH xs.length m=some m.toNat from hj,Nat.ble_eq_true_of_le q2]
  refine(?_:cR (dq (fF xs m.toNat) λv=>some [v]) (λvs=>dG (nH vs) (MI g.C (λv=>K v h) 3))=true)
  rw[q3]
  exact(congrArg (gd · true) (c9 hk3 (qx q4))).trans rfl) λhk=>Dk W I hv hw hk hs
theorem Ft.tc(T:Ft g):mM g:=⟨λoa I hv hk=>wC T.W oa I hv hk,λS oa fe I hv hs hl hr hline hk=>Hm T.W T.D S oa fe I hv hs hl hr hline hk,T.tok,λoa I hv hq hp hk=>T.prim oa I hv hq hp hk,
 λoa I hv hi hx h0 hk=>P (v8 T.E oa I hk hv hi hx h0),λS oa I hv Y hk=>Ef T.F S oa I hv hk,λI hi=>wa T.E T.CL I hi,λI e=>wE I e⟩
theorem Ft.tx(T:Ft g):ue g:=⟨λS oa f I hk=>Lh S oa f I hk,λI ho ha hk=>P (Af T.E I ho ha hk),λY I hv hw hk hs=>P (Ho T.W T.tok I hv hw hk hs),λS oa f I hk=>Lj T.W S oa f I hk,λS oa f I hk=>Hf T.G T.W S oa f I hk,λf I hk=>P (KM T.L f I hk)⟩
theorem Ft.ts(T:Ft g):yE g:=⟨λS oa f I hv hk=>Hi T.W S oa f I hv hk,λS oa f I hk=>Lc T.G T.W S oa f I hk,λS oa f I hk=>D8 T.E S oa f I hk,λS Sq oa f I hk=>Ls T.G T.E S Sq oa f I hk⟩
noncomputable def Gb.hush(g:Gb):Gb:={g with C:=Mine.Tactic.iD g.C}
def io(g:Gb):Prop:=∀R,(∀a o,g.R a o->R a o)->Ft (g.wR R)
theorem rU:eP g n FN where
 ev _ _ _ h:=by cases h
 tr _ _ _ h:=by cases h
 cl _ _ _ _ h:=by cases h
 asg _ _ _ _ h:=by cases h
 ex _ _ _ h:=by cases h
 wh _ _ _ h:=by cases h
 fo _ _ _ _ h:=by cases h
 co _ _ _ _ _ h:=by cases h
 cu _ _ _ _ h:=by cases h
 nm h:=by cases h
 tp _ h:=by cases h
 set:=rfl
 star:=rfl
theorem jH{α:Type}{o:Option α}{K K':α->Bool}(hk:∀a,K a=true->K' a=true)(h:cR o K=true):cR o K'=true:=by
 cases o with
 |none=>exact ft h
 |some a=>exact hk a h
theorem uo{fr:Fr}{x:Nat}{v:V}{h:H}{K K':H->Bool}(hk:∀h',K h'=true->K' h'=true)(e:gy fr x v h K=true):gy fr x v h K'=true:=
 jH (λk e=>by
  cases k with
  |«local»=>exact jH (λY=>hk _) e
  |cell=>exact jH (λY=>jH λY=>hk _) e
  |_=>exact ft e) e
theorem wH{n:Nat}{r:Ev}(S:eP g n r){fr:Fr}{X:Nat->H->Bool}{es:List Expr}:∀{xs:List Str} {vs:List V} {h:H} {K:H->Bool},nU es xs->J0 r fr es vs h K X=true->d9 fr h K (xs.map cd) vs=true:=by
 induction es with
 |nil=>
  intro xs vs h K hn hk
  cases xs with
  |cons=>exact absurd hn.symm (V8 _ _)
  |nil=>exact hk
 |cons e es ih=>
  intro xs vs h K hn hk
  cases xs with
  |nil=>exact absurd hn (V8 _ _)
  |cons x xs=>
   refine e11 (jF (Wd hn).1) λp zq2=>?_
   cases zq2
   cases vs with
   |nil=>exact ft hk
   |cons v vs=>exact uo (λh' q=>ih (Wd hn).2 q) (S.nm hk)
theorem yG{n:Nat}{r q:Ev}(T:Ft g)(SP:ii g n r)(Sq:eP g.hush n q):eP g (n+1) (MK g.C r q) where
 ev oa f I hk:=N6 T.G T.W T.CL T.F T.tc T.tx SP SP.self (oa.less (VO n)) f I hk
 tr oa f I hk:=N7 T.W SP.self (oa.less (VO n)) f I hk
 cl oa I hf hv hk:=N5 T.CL T.F T.tc SP.self oa I hf hv hk
 asg oa f I hv hk:=K3 T.CL T.ts SP.self (oa.less (VO n)) f I hv hk
 ex oa f I hk:=N4 T.ts SP SP.self Sq (oa.less (VO n)) f I hk
 wh oa f I hk:=Oc SP.self (oa.less (VO n)) f I hk
 fo oa f I hi hk:=by
  refine e02 (kN hk) λhq hk=>?_
  exact Oa T.W SP (oa.hh hq) (oa.less (VO n)) f I hi hk
 co oa f I hi ha hk:=by
  refine e02 (kN hk) λhq hk=>?_
  exact Ob T.W SP (oa.hh hq) (oa.less (VO n)) f I hi ha hk
 cu oa f I hx hk hK:=wA T.G T.W SP (oa.less (VO n)) f I hx hk hK
 nm h:=h
 tp hn h:=by
  refine e02 (kN h) λhq hk=>?_
  exact cP hk λvs e hk=>iX hk λY Y hk=>⟨hq,vs,eE e,wH SP.self hn hk⟩
 set:=rfl
 star:=rfl
theorem yH(T:io g.hush):∀n,ii g.hush n (T4 g.C n)
 |0=>λY Y=>rU
 |n+1=>λR hR=>yG (g:=g.hush.wR R) (T R hR) (λR' h'=>yH T n R' λa o q=>h' a o (hR a o q)) rU
theorem jv(T:io g)(Tq:io g.hush):∀n,ii g n (mB g.C n)
 |0=>λY Y=>rU
 |n+1=>λR hR=>yG (g:=g.wR R) (T R hR) (λR' h'=>jv T Tq n R' λa o q=>h' a o (hR a o q)) (yH Tq n R hR)
end
noncomputable def Od(a b:Option Int):Bool:=du b true λy=>cR a λx=>decide (y≤x)
noncomputable def Oe(a b:Option Int):Bool:=du b true λy=>cR a λx=>decide (x≤y)
noncomputable def Eh(T:Nat->List V)(k:Nat)(n:Int):Bool:=cR (dq (gw (T (k+1000000))) λv=>dq (dF v) fx) λm=>decide (m=n)
noncomputable def Lv(T:Nat->List V)(x y:AI):Bool:=
 dj (cR (RL y) λp=>gd (Od x.lo p.1) (Oe x.hi p.2))
 (dj (cR (qj y) λl=>dj (cR (fx x) λn=>uV n l) (cR (qj x) λl'=>dG l' λn=>uV n l))
 (dj (nG x y)
 (dj (cR (Bg y) λd=>cR (Bg x) λd'=>Vy d' d)
 (dj (cR (fx y) λn=>cR (nF x) λq=>Eh T q.1 n)
 (cR (nF y) λq=>cR (fx x) λn=>gd (Eh T q.1 n) (gd (decide (q.2.1≤n)) (decide (n≤q.2.2))))))))
noncomputable def yI(T:Nat->List V):List AI->List AI->Bool:=fw (Lv T)
noncomputable def Jd(T:Nat->List V)(k j:Nat):Bool:=dj (Vn j k) (cR (dq (nB (T k)) λp=>iW p.1) λY=>lD (λa=>cR (iW a) λi=>Vn i j) (T k))
noncomputable def RZ(T:Nat->List V)(L:V->V->Bool)(x y:V):Bool:=
 du (iW y) (L x y) λk=>du (iW x) (lD (L x) (T k)) λj=>dj (Jd T k j) (gd (Vy 300 k) (dG (T j) λa=>lD (L a) (T k)))
noncomputable def uq:V->Option (Nat×Nat)
 |.none=>some (0,0)
 |.bool b=>some (1,db b 1 0)
 |.str x=>some (2,x)
 |.wr x=>some (3,x)
 |.fn x=>some (4,x)
 |.cls x=>some (5,x)
 |.bi x=>some (6,x)
 |_=>none
noncomputable def Je(p:Nat×Nat):V:=db (Vn p.1 0) .none (db (Vn p.1 1) (.bool (Vn p.2 1)) (db (Vn p.1 2) (.str p.2) (db (Vn p.1 3) (.wr p.2) (db (Vn p.1 4) (.fn p.2) (db (Vn p.1 5) (.cls p.2) (.bi p.2))))))
section
variable(T:Nat->List V)(f:Nat->Nat)
noncomputable def S7(n:Nat):V->V->Bool:=Nat.rec (λY Y=>false) (λY ih a b=>
 dj (fJ uq a b)
 (dj (cR (dF a) λx=>cR (dF b) λy=>Lv T x y)
 (dj (cR (qS b) λn=>gd (Vy n 100000) (dj (cR (fp a) λx=>gd (!(Vn x ix)) (Vy 1000 n)) (cR (qS a) λm=>Vy m n)))
 (dj (cR (dk a) λx=>cR (dk b) λy=>yI T x y)
 (dj (cR (fu a) λk=>cR (fu b) λk'=>Vn k (f k'))
 (cR (ej a) λl=>cR (ej b) λl'=>fw (RZ T ih) l l')))))) n
noncomputable def Jf:V->V->Bool:=RZ T (S7 T f 12)
noncomputable def qe:List V->List V->Bool:=fw (Jf T f)
noncomputable def MS:List (Nat×V)->List (Nat×V)->Bool:=fw λp q=>gd (Vn p.1 q.1) (Jf T f p.2 q.2)
noncomputable def A0(o o':O):Bool:=
 dj (cR (oL o) λl=>cR (oL o') λl'=>qe T f l l')
 (dj (cR (oI o) λp=>cR (oI o') λq=>gd (Vn p.1 q.1) (MS T f p.2 q.2))
 (dj (cR (oU o') λq=>cR (oS o) λp=>gd (Vy q.1 p.1) (gd (Vy p.2 q.2) (Vy q.2 10000)))
 (dj (cR (oB o) λl=>cR (oB o') λl'=>yI T l l')
 (cR (oE o) λp=>cR (oE o') λq=>gd (Vn p.1 q.1) (gd (p.2.2==q.2.2) (MS T f p.2.1 q.2.1))))))
end
noncomputable def kj(f:Nat->Nat)(n:Nat):V->V:=Nat.rec (λa=>a) (λY ih a=>du (fu a) (du (ej a) a λl=>.tup (l.map ih)) λk=>.ref (f k)) n
noncomputable def wI(f:Nat->Nat):V->V:=kj f 12
noncomputable def jw(f:Nat->Nat)(l:List V):List V:=l.map (wI f)
noncomputable def AD(f:Nat->Nat)(l:List (Nat×V)):List (Nat×V):=l.map λp=>(p.1,wI f p.2)
noncomputable def sD(f:Nat->Nat)(o:O):O:=du (oL o) (du (oI o) (du (oE o) o λp=>.exc p.1 (AD f p.2.1) p.2.2) λp=>.inst p.1 (AD f p.2)) λl=>.list (jw f l)
section
variable{g:Gb}{c c':Cf}{σ:Nat->Int}
theorem ur{l:List Int}{n:Int}(h:uV n l=true):n∈l:=iI h λx hx e=>of_decide_eq_true e▸hx
theorem Lw{s:Str}(h:s.length=0):cd s=ix:=by
 have:s.cps.toList=[]:=List.length_eq_zero_iff.mp (by rw[VY];exact h)
 unfold cd
 rw[this]
 rfl
def Kn(T:Nat->List V)(σ:Nat->Int):Prop:=∀k n,Eh T k n=true->σ k=n
theorem Hp{a b:Option Int}{n:Int}(h:Od a b=true)(hx:Lb a n):Lb b n:=fM h (λy e h=>cP h λx e1 h=>λl e'=>by cases e.symm.trans e';exact Vz (of_decide_eq_true h) (hx x e1)) λe Y l e'=>nn (e.symm.trans e')
theorem Hq{a b:Option Int}{n:Int}(h:Oe a b=true)(hx:Ub a n):Ub b n:=fM h (λy e h=>cP h λx e1 h=>λl e'=>by cases e.symm.trans e';exact Vz (hx x e1) (of_decide_eq_true h)) λe Y l e'=>nn (e.symm.trans e')
theorem yJ{T:Nat->List V}(kn:Kn T σ){x y:AI}{n:Int}(h:Lv T x y=true)(hx:dO σ x n):dO σ y n:=
 SN h (λh=>cP h λp e h=>cT h λh1 h2=>by
  cases vZ _ _ e
  exact⟨Hp h1 hx.lb,Hq h2 hx.ub⟩) (λh=>cP h λl e h=>by
  cases jp e
  exact eL h (λh=>cP h λm e h=>by
   cases ef _ _ e;cases (show n=m from hx)
   exact ur h) λh=>cP h λl' e h9=>by
   cases jp e
   have h8:=c9 h9 hx
   exact ur h8) (λh=>lU h▸hx) (λh=>cP h λd e h=>cP h λd' e' h=>by
  cases ry _ _ e;cases ry _ _ e'
  exact⟨hx.1,Vz hx.2.1 (Xe (Int.ofNat_le.mpr (eQ h)) _),hx.2.2⟩) (λh=>cP h λm e h=>cP h λq e' h=>by
  cases ef _ _ e;cases oP _ _ e'
  exact hx.1.trans (kn _ _ h)) (λh=>cP h λq e h=>cP h λm e' h=>iX h λh1 h2 h3=>by
  cases oP _ _ e;cases ef _ _ e';cases (show n=m from hx)
  exact⟨(kn _ _ h1).symm,of_decide_eq_true h2,of_decide_eq_true h3⟩)
theorem pg{T:Nat->List V}(kn:Kn T σ){x y:List AI}{bs:List UInt8}(h:yI T x y=true):BR σ x bs->BR σ y bs:=
 dI (P:=λx y=>∀bs,BR σ x bs->BR σ y bs) h (λY h=>h) (λx r y r' h ih bs hx=>by
  refine e23 hx λb t zq3 h1 h2=>?_;clear hx
  cases zq3
  exact⟨b,t,rfl,yJ kn h h1,ih _ h2⟩) bs
structure uR(g:Gb)(c c':Cf)(T:Nat->List V)(f f':Nat->Nat):Prop where
 kn:Kn T g.σ
 tt:∀a vs,c.T a vs->c'.T a vs
 ρ:∀k,f k<c.n->f' k<c'.n/\c'.ρ (f' k)=c.ρ (f k)
 tk:∀{k a v},a∈T k->VR g c' a v->g.TK k c' v
 te:∀{k v},g.TK k c v->∃a,a∈T k/\VR g c a v
 sh:∀{n k a},a∈T k->kj f' n a=a
variable{T:Nat->List V}{f f':Nat->Nat}
theorem Lx{n k:Nat}:kj f n (.tok k)=.tok k:=by
 cases n with
 |zero=>rfl
 |succ n=>rfl
theorem Ei(R:uR g c c' T f f'){k j:Nat}{v:Value}(h:Jd T k j=true)(hv:g.TK j c' v):g.TK k c' v:=
 eL h (λh=>cX h▸hv) λh=>cP h λY Y h=>iI h λz z1 z2=>cP z2 λi e z2=>by
  cases hZ e;cases cX z2
  exact R.tk z1 hv
theorem Ej(R:uR g c c' T f f'){L:V->V->Bool}{n:Nat}(hL:∀{a b:V} {v:Value},L a b=true->VR g c a v->VR g c' (kj f' n b) v){x y:V}{v:Value}(h:RZ T L x y=true)(hv:VR g c x v):VR g c' (kj f' n y) v:=
 fM h (λk e h=>by
  cases hZ e
  have go:∀{a:V},VR g c a v->lD (L a) (T k)=true->g.TK k c' v:=λha h=>iI h λz z1 z2=>R.tk z1 (R.sh (n:=n) z1▸hL z2 ha)
  rw[Lx]
  exact fM h (λj e h9=>by
   cases hZ e
   exact eL h9 (λh=>Ei R h (g.tkx R.tt hv)) λh=>cT h λY h8=>(R.te hv).elim λb q=>by
    have h7:=c9 h8 q.1
    exact go q.2 h7) λY h=>go hv h) λY h=>hL h hv
theorem Hr{n:Nat}{a:V}{v:Value}{p:Nat×Nat}(e:uq a=some p)(h:VR g c a v):VR g c' (kj f (n+1) a) v:=by
 cases a with
 |none=>exact h
 |bool=>exact h
 |str=>exact h
 |wr=>exact h
 |fn=>exact h
 |cls=>exact h
 |bi=>exact h
 |_=>exact nn e
theorem ph(a:V)(p:Nat×Nat)(e:uq a=some p):a=Je p:=by
 cases a with
 |none=>cases e;rfl
 |bool b=>cases e;cases b<;>rfl
 |str=>cases e;rfl
 |wr=>cases e;rfl
 |fn=>cases e;rfl
 |cls=>cases e;rfl
 |bi=>cases e;rfl
 |_=>exact nn e
theorem ut{L:V->V->Bool}{F:V->V}(hL:∀(a b:V) (v:Value),L a b=true->VR g c a v->VR g c' (F b) v){l l':List V}{vs:List Value}(h:fw L l l'=true):da g c l vs->da g c' (l'.map F) vs:=
 dI (P:=λl l'=>∀vs,da g c l vs->da g c' (l'.map F) vs) h (λY h=>h) (λx r y r' h ih vs hv=>by
  refine e23 hv λv vs zq4 h1 h2=>?_;clear hv
  cases zq4
  exact .cons (hL _ _ _ h h1) (ih _ h2)) vs
theorem Ly(R:uR g c c' T f f'){n:Nat}:∀{a b:V} {v:Value},S7 T f n a b=true->VR g c a v->VR g c' (kj f' n b) v:=by
 induction n with
 |zero=>exact λh=>ft h
 |succ n ih=>
  exact λ{a b v} h hv=>SN h (λh=>by
   cases fh Je ph h
   exact cP h λp e Y=>Hr e hv) (λh=>kI (P:=λv=>VR g c' (kj f' (n+1) b) v) h hv λx m t hx h=>cP h λy e h=>by
   cases eD e
   exact⟨m,t,rfl,yJ R.kn h hx⟩) (λh=>cP h λm e h=>cT h λhm h9=>by
   cases lN e
   exact eL h9 (λh=>kS (P:=λv=>VR g c' (.strU m) v) h hv λx t h0 hl h=>cT h λh1 h2=>⟨x,t,rfl,λe=>en (dP h1) (Lw e),Vo hl (eQ h2),eQ hm⟩) λh=>cP h λk e h9=>by
    cases lN e
    refine e24 hv λs t h1 h2 h3 h4=>?_;clear hv
    exact⟨s,t,h1,h2,Vo h3 (eQ h9),eQ hm⟩) (λh=>kB (P:=λv=>VR g c' (kj f' (n+1) b) v) h hv λl bs t hx h=>cP h λy e h=>by
   cases d7 e
   exact⟨bs,t,rfl,pg R.kn h hx⟩) (λh=>kR (P:=λv=>VR g c' (kj f' (n+1) b) v) h hv λk hk h=>cP h λk' e h=>by
   cases gC e;cases cX h
   exact⟨(R.ρ k' hk).1,congrArg Value.ref (R.ρ k' hk).2.symm⟩) (λh=>kT (P:=λv=>VR g c' (kj f' (n+1) b) v) h hv λl x vs hT hr h=>cP h λl' e h9=>by
   cases eE e
   exact⟨x,vs,rfl,R.tt _ _ hT,ut (L:=RZ T (S7 T f n)) (F:=kj f' n) (λY Y Y=>Ej R ih) h9 hr⟩)
theorem pi(R:uR g c c' T f f'){a b:V}{v:Value}(h:Jf T f a b=true)(hv:VR g c a v):VR g c' (wI f' b) v:=Ej R (Ly R) h hv
theorem rV(R:uR g c c' T f f'){a b:List V}{vs:List Value}(h:qe T f a b=true)(hv:da g c a vs):da g c' (jw f' b) vs:=ut (L:=Jf T f) (F:=wI f') (λY Y Y=>pi R) h hv
theorem Hs{k:Nat}{x:List (Nat×V)}:eJ (AD f x) k=(eJ x k).map (wI f):=by
 induction x with
 |nil=>rfl
 |cons p x ih=>
  refine(?_:Bool.rec (eJ (AD f x) k) (some (wI f p.2)) (Vn p.1 k)=Option.map (wI f) (Bool.rec (eJ x k) (some p.2) (Vn p.1 k)))
  cases Vn p.1 k with
  |true=>rfl
  |false=>exact ih
theorem uu{L:V->V->Bool}{x y:List (Nat×V)}(h:fw (λp q=>gd (Vn p.1 q.1) (L p.2 q.2)) x y=true)(k:Nat):(eJ y k=none->eJ x k=none)/\∀b,eJ y k=some b->∃a,eJ x k=some a/\L a b=true:=
 dI (P:=λx y=>(eJ y k=none->eJ x k=none)/\∀b,eJ y k=some b->∃a,eJ x k=some a/\L a b=true) h ⟨λh=>h,λY e=>nn e⟩ λp r q r' h ih=>cT h λh1 h2=>by
  have e1:=cX h1
  obtain⟨i,a⟩:=p
  obtain⟨j,b⟩:=q
  cases e1
  refine(?_:((Bool.rec (eJ r' k) (some b) (Vn i k):Option V)=none->(Bool.rec (eJ r k) (some a) (Vn i k):Option V)=none)/\∀b',(Bool.rec (eJ r' k) (some b) (Vn i k):Option V)=some b'->∃a',(Bool.rec (eJ r k) (some a) (Vn i k):Option V)=some a'/\L a' b'=true)
  cases Vn i k with
  |false=>exact ih
  |true=>exact⟨nn',λb' e=>⟨a,rfl,si e▸h2⟩⟩
theorem Lz{x y:List (Nat×V)}(h:MS T f x y=true)(k:Nat):(eJ y k=none->eJ x k=none)/\∀b,eJ y k=some b->∃a,eJ x k=some a/\Jf T f a b=true:=uu h k
theorem Ht(R:uR g c c' T f f'){x y:List (Nat×V)}{mm:Str->Option Value}(h:MS T f x y=true)(hn:NR g c x mm):NR g c' (AD f' y) mm:=λz hz=>by
 have h1:=Lz h (cd z)
 have h2:=hn z hz
 rw[Hs]
 cases e:eJ y (cd z) with
 |none=>rw[h1.1 e] at h2;exact h2
 |some b=>
  refine e12 (h1.2 b e) λa q1 q2=>?_
  rw[q1] at h2
  refine e12 h2 λv w1 w2=>?_;clear h2
  exact⟨v,w1,pi R q2 w2⟩
theorem Of{o:O}{p:Nat×Nat}(h:oU o=some p):o=.lsU p.1 p.2:=by
 cases o with
 |lsU a b=>exact congrArg (λp:Nat×Nat=>O.lsU p.1 p.2) (Vl h)
 |_=>exact nn h
theorem jx(R:uR g c c' T f f'){o o':O}{a d:Addr}{h:Heap}(hl:A0 T f o o'=true)(x:OR g c o a d h):OR g c' (sD f' o') a d h:=
 MO hl (λhl=>cP hl λl e hl=>cP hl λl' e' h9=>by
  cases gE e;cases gE e'
  refine e13 x λvs h1 h2 h3=>?_;clear x
  exact⟨vs,h1,rV R h9 h2,Vo (Vu ((VG ..).trans (fV h9))) h3⟩) (λhl=>cP hl λl e hl=>cP hl λl' e' hl=>cT hl λh0 h9=>by
  cases kM e;cases kM e'
  refine e25 x λmm ns h1 h2 h3 h4 h5=>?_;clear x
  exact⟨mm,ns,cX h0▸h1,h2,Ht R h9 h3,h4,Vo h5 (Vu ((VG ..).trans (fV h9)).symm)⟩) (λhl=>cP hl λq e hl=>cP hl λp e' hl=>iX hl λq1 q2 q3=>by
  cases Of e
  exact nX e' x λws w1 w2 w3 Y Y=>⟨ws,w1,Vo (eQ q1) w2,Vo w3 (eQ q2),eQ q3⟩) (λhl=>cP hl λl e hl=>cP hl λl' e' h9=>by
  cases kG e;cases kG e'
  refine e25 x λob b h1 h2 h3 h4 h5=>?_;clear x
  exact⟨ob,b,h1,h2,h3,pg R.kn h9 h4,Vo (Vu (fV h9)) h5⟩) (λhl=>cP hl λl e hl=>cP hl λl' e' hl=>iX hl λh0 hb h9=>by
  cases th e;cases th e'
  obtain⟨ob,vs,mm,h1,h2,h3,h4,h5,h6,h7⟩:=x
  exact⟨ob,vs,mm,h1,cX h0▸h2,h3,h4,h5,Ht R h9 h6,eq_of_beq hb▸h7⟩)
theorem rW{o o':O}(hl:A0 T f o o'=true):o.isNs=false:=
 MO hl (λhl=>cP hl λl e Y=>by
  cases gE e
  rfl) (λhl=>cP hl λl e Y=>by
  cases kM e
  rfl) (λhl=>cP hl λY Y hl=>cP hl λp e Y=>by
  clear hl
  cases o with
  |list=>rfl
  |lsU=>rfl
  |_=>exact nn e) (λhl=>cP hl λl e Y=>by
  cases kG e
  rfl) (λhl=>cP hl λl e Y=>by
  cases th e
  rfl)
end
def Og(R:Addr->Obj->Prop)(c:Cf)(m:Nat)(μ:Nat->Nat)(hp:Heap)(a:Addr)(o:Obj):Prop:=R a o\/∃k,(∀j,j<m->μ j≠k)/\k<c.n/\¬c.N k/\(a=c.ρ k\/a=c.δ k)/\hp.get? a=some o
def LA(S:Addr->Obj->Prop)(c:Cf)(hp:Heap)(a:Addr)(o:Obj):Prop:=S a o\/∃k,k<c.n/\c.N k/\(a=c.ρ k\/a=c.δ k)/\hp.get? a=some o
noncomputable def Cf.low(c:Cf)(m:Nat)(μ:Nat->Nat):Cf:=⟨m,λj=>c.ρ (μ j),λj=>c.δ (μ j),c.T,λY=>False,c.D⟩
noncomputable def Gb.ins(g:Gb)(C:i5)(M:Option Addr)(dl ul:Nat)(c:Cf)(m:Nat)(μ:Nat->Nat)(hp:Heap):Gb:=g.alt C (Og g.R c m μ hp) (LA g.S c hp) M g.s0 g.T0 dl ul
section
variable{g:Gb}{c c':Cf}{C:i5}{M:Option Addr}{dl ul m:Nat}{μ:Nat->Nat}{h h' h1:H}{s s':Shared}
theorem rX{hp:Heap}:OR (g.ins C M dl ul c m μ hp)=OR g:=oy
theorem pj{hp:Heap}:VR (g.ins C M dl ul c m μ hp)=VR g:=iO
theorem Hu{hp:Heap}:da (g.ins C M dl ul c m μ hp)=da g:=yp
theorem cV.far(I:cV g c h s):∀j k,j<c.n->k<c.n->j≠k->∀a,(a=c.ρ j\/a=c.δ j)->(a=c.ρ k\/a=c.δ k)->False:=λj k hj hk hn a h1 h2=>by
 refine e03 (I.inj j k hj hk hn) λx1 x2 x3=>?_
 refine e03 (I.inj k j hk hj (Ne.symm hn)) λy1 y2 y3=>?_
 rcases h1 with rfl|rfl<;>rcases h2 with h2|h2
 .exact x1 h2
 .exact x2 h2
 .exact y2 h2.symm
 .exact x3 h2
theorem cV.lows{h0:H}(I:cV g c h s)(hm:∀j,j<m->μ j<c.n)(hi:∀i j,i<m->j<m->i≠j->μ i≠μ j)(hN:∀k,k<m->¬c.N (μ k))(hl:h0.length=m)(ho:∀k o,h0.get k=some o->k<m/\OR g (c.low m μ) o (c.ρ (μ k)) (c.δ (μ k)) s.heap)(hM:∀a,M=some a->0<m/\c.ρ (μ 0)=a):
  cV (g.ins C M dl ul c m μ s.heap) (c.low m μ) h0 s:=by
 have far:=I.far
 have notR:∀a,Al g c a->(∀k,(∀j,j<m->μ j≠k)->k<c.n->¬c.N k->¬(a=c.ρ k\/a=c.δ k))->Al (g.ins C M dl ul c m μ s.heap) (c.low m μ) a:=λa x n=>
  ⟨λo q=>q.elim (x.R o) λ⟨k,q1,q2,q3,q4,_⟩=>n k q1 q2 q3 q4,x.B,x.T,x.D⟩
 refine⟨hl.symm,λk o e=>?_,λk hk=>I.pres _ (hm k hk),I.tup,I.dat,λa o q=>q.elim (I.rest a o) λ⟨k,_,_,_,_,q⟩=>q,λa o q=>q.elim (I.fra a o) λ⟨k,_,_,_,q⟩=>⟨o.slots,q⟩,I.base,
  λj k hj hk hn=>I.inj _ _ (hm j hj) (hm k hk) (hi j k hj hk hn),λk hk a ha=>?_,λa o ho'=>?_,I.sam,I.t0,hM,λk q=>q.elim,I.tab,notR _ I.offP λk Y q2 Y q4=>(I.off k q2 g.P q4).2.2 rfl,I.sm,⟨λa vs o q r=>?_,λa ob o q r=>?_⟩⟩
 .refine e02 (ho k o e) λh2 h3=>?_
  exact⟨h2,by rw[rX];exact h3⟩
 .have hk':=hm k hk
  refine e03 (I.off _ hk' a ha) λx1 x2 x3=>?_
  refine⟨notR a x1 λj q1 q2 Y q4=>far _ j hk' q2 (q1 k hk) a ha q4,λo q=>q.elim (x2 o) λ⟨j,q1,q2,q3,_⟩=>?_,x3⟩
  by_cases e:j=μ k
  .exact hN k hk (e▸q2)
  .exact far j _ q1 hk' e a q3 ha
 .rcases ho' with ho'|⟨j,q1,q2,q3,_⟩
  .refine e02 (I.offS a o ho') λx1 x2=>?_
   exact⟨notR a x1 λk Y q2 Y q4=>(I.off k q2 a q4).2.1 o ho',x2⟩
  .refine e03 (I.off j q1 a q3) λx1 x2 x3=>?_
   exact⟨notR a x1 λk Y w2 w3 w4=>by
    by_cases e:j=k
    .subst e;exact w3 q2
    .exact far j k q1 w2 e a q3 w4,x3⟩
 .rcases r with r|⟨k,_,q2,_,q4,_⟩
  .exact I.rT.1 a vs o q r
  .exact(I.off k q2 a q4).1.T vs q
 .rcases r with r|⟨k,_,q2,_,q4,_⟩
  .exact I.rT.2 a ob o q r
  .exact(I.off k q2 a q4).1.D ob q
noncomputable def Cf.back(c c':Cf):Cf:=⟨c.n,c.ρ,c.δ,c'.T,c.N,c'.D⟩
theorem dA.back(e:dA (c.low m μ) c'):dA c (c.back c'):=⟨VA _,λY Y=>rfl,λY Y=>rfl,e.T,λY q=>q,e.D,λY Y q=>q⟩
theorem iU{k:Nat}(q:¬∃j,j<m/\μ j=k):∀j,j<m->μ j≠k:=λj hj e=>q ⟨j,hj,e⟩
theorem cV.sep(I:cV g c h s){a:Addr}(hR:∀o,¬Og g.R c m μ s.heap a o)(hS:∀o,¬LA g.S c s.heap a o)(hl:∀k,k<m->a≠c.ρ (μ k)/\a≠c.δ (μ k)):
  ∀k,k<c.n->a≠c.ρ k/\a≠c.δ k:=λk hk=>by
 by_cases q:∃j,j<m/\μ j=k
 .refine e12 q λj q zq5=>?_
  cases zq5
  exact hl j q
 .refine e02 (I.pres k hk) λzq6 zq7=>?_
  refine e11 zq6 λo1 p1=>?_
  refine e11 zq7 λo2 p2=>?_
  by_cases hN:c.N k
  .exact⟨λw=>hS o1 (.inr ⟨k,hk,hN,.inl w,w▸p1⟩),λw=>hS o2 (.inr ⟨k,hk,hN,.inr w,w▸p2⟩)⟩
  .exact⟨λw=>hR o1 (.inr ⟨k,iU q,hk,hN,.inl w,w▸p1⟩),λw=>hR o2 (.inr ⟨k,iU q,hk,hN,.inr w,w▸p2⟩)⟩
theorem cV.back(I:cV g c h s)(I':cV (g.ins C M dl ul c m μ s.heap) c' h' s')(e:dA (c.low m μ) c')(hm:∀j,j<m->μ j<c.n)(hl:h1.length=h.length)(hs:∀k,(∀j,j<m->μ j≠k)->h1.get k=h.get k)
  (ho:∀k o,k<m->h1.get (μ k)=some o->OR g (c.back c') o (c.ρ (μ k)) (c.δ (μ k)) s'.heap) (hN:∀k,k<m->¬c.N (μ k)):cV g (c.back c') h1 s':=by
 have ex:dA c (c.back c'):=.back e
 refine⟨I.len.trans hl.symm,λk o q=>?_,λk hk=>?_,I'.tup,I'.dat,λa o q=>I'.rest a o (.inl q),λa o q=>I'.fra a o (.inl q),I'.base,I.inj,λk hk a ha=>?_,λa o q=>?_,I'.sam,I'.t0,I.m0,λk q=>?_,I'.tab,⟨I.offP.R,I.offP.B,I'.offP.T,I'.offP.D⟩,I'.sm,⟨λa vs o q r=>I'.rT.1 a vs o q (.inl r),λa ob o q r=>I'.rT.2 a ob o q (.inl r)⟩⟩
 .by_cases hk:∃j,j<m/\μ j=k
  .refine e12 hk λj hk zq8=>?_
   cases zq8
   exact⟨hm j hk,ho j o hk q⟩
  .rw[hs k (iU hk)] at q
   refine e02 (I.obj k o q) λh2 h3=>?_
   refine⟨h2,?_⟩
   have h3:=h3.ext ex
   by_cases hn:c.N k
   .refine e12 (I.ns k hn) λo' w1 w2=>?_
    rw[q] at w1;obtain rfl:=Vl w1
    have sl:∀ob,s.heap.get? (c.ρ k)=some ob->∃sl,s'.heap.get? (c.ρ k)=some {ob with slots:=sl}:=λob p=>I'.fra _ _ (.inr ⟨k,h2,hn,.inl rfl,p⟩)
    cases o<;>first|(cases w2;done)|skip
    .refine e12 h3 λmm zq9 h5=>?_;clear h3
     refine e32 zq9 λob es ep p r=>?_
     refine e11 (sl _ p) λx p'=>?_
     exact⟨mm,⟨_,es,ep,p',r⟩,h5⟩
    .refine e42 h3 λmm ob es ep p r=>?_;clear h3
     refine e11 (sl _ p) λx p'=>?_
     exact⟨mm,_,es,ep,p',r⟩
   .exact h3.at (λob p=>I'.rest _ _ (.inr ⟨k,iU hk,h2,hn,.inl rfl,p⟩)) (λob p=>I'.rest _ _ (.inr ⟨k,iU hk,h2,hn,.inr rfl,p⟩))
 .by_cases q:∃j,j<m/\μ j=k
  .refine e12 q λj q zq10=>?_
   cases zq10
   have:=I'.pres j (Vt q e.n)
   rw[e.ρ j q,e.δ j q] at this
   exact this
  .refine e02 (I.pres k hk) λzq11 zq12=>?_
   refine e11 zq11 λo1 p1=>?_
   refine e11 zq12 λo2 p2=>?_
   by_cases hn:c.N k
   .refine e11 (I'.fra _ _ (.inr ⟨k,hk,hn,.inl rfl,p1⟩)) λx1 y1=>?_
    refine e11 (I'.fra _ _ (.inr ⟨k,hk,hn,.inr rfl,p2⟩)) λx2 y2=>?_
    exact⟨⟨_,y1⟩,⟨_,y2⟩⟩
   .exact⟨⟨_,I'.rest _ _ (.inr ⟨k,iU q,hk,hn,.inl rfl,p1⟩)⟩,⟨_,I'.rest _ _ (.inr ⟨k,iU q,hk,hn,.inr rfl,p2⟩)⟩⟩
 .refine e03 (I.off k hk a ha) λx1 x2 x3=>?_
  have key:(∀vs,¬c'.T a vs)/\∀o,¬c'.D a o:=by
   by_cases q:∃j,j<m/\μ j=k
   .refine e12 q λj q zq13=>?_
    cases zq13
    have hkc:j<c'.n:=Vt q e.n
    have:=(I'.off j hkc a (by rw[e.ρ j q,e.δ j q];exact ha)).1
    exact⟨this.T,this.D⟩
   .obtain⟨o,p⟩:∃o,s.heap.get? a=some o:=by
     refine e02 (I.pres k hk) λp1 p2=>?_
     rcases ha with rfl|rfl
     .exact p1
     .exact p2
    by_cases hn:c.N k
    .have:=(I'.offS a o (.inr ⟨k,hk,hn,ha,p⟩)).1
     exact⟨this.T,this.D⟩
    .exact⟨λvs w=>I'.rT.1 a vs o w (.inr ⟨k,iU q,hk,hn,ha,p⟩),λob w=>I'.rT.2 a ob o w (.inr ⟨k,iU q,hk,hn,ha,p⟩)⟩
  exact⟨⟨x1.R,x1.B,key.1,key.2⟩,x2,x3⟩
 .refine e02 (I'.offS a o (.inl q)) λx1 x2=>?_
  exact⟨⟨λo w=>x1.R o (.inl w),x1.B,x1.T,x1.D⟩,x2⟩
 .refine e12 (I.ns k q) λo w1 w2=>?_
  exact⟨o,by rw[hs k λj hj w=>hN j hj (w▸q)];exact w1,w2⟩
theorem hH.back(I:cV g c h s){a:Addr}(al:Al (g.ins C M dl ul c m μ s.heap) c' a)(hS:∀o,¬LA g.S c s.heap a o)(hP:a≠g.P)(hl:∀k,k<m->a≠c.ρ (μ k)/\a≠c.δ (μ k)):hH g (c.back c') a:=
 ⟨⟨λo q=>al.R o (.inl q),al.B,al.T,al.D⟩,λo q=>hS o (.inl q),λk hk=>I.sep al.R hS hl k hk,hP⟩
theorem FL.ins(I:cV g c h s){l:List Env}(x:FL g c l):FL (g.ins C M dl ul c m μ s.heap) (c.low m μ) l:=FL.imp (g:=g) (λL q=>by
 rcases q with⟨k,h2,h3,rfl⟩|⟨o,h2,h3⟩
 .refine e12 (I.ns k h3) λo w1 w2=>?_
  have h4:=(I.obj k o w1).2
  cases o<;>first|(cases w2;done)|skip
  .refine e12 h4 λmm zq14 h5=>?_;clear h4
   refine e33 zq14 λob es ep p r Y=>?_
   exact .inr ⟨ob,.inr ⟨k,h2,h3,.inl rfl,p⟩,λvs q=>by rw[r] at q;cases q⟩
  .refine e43 h4 λmm ob es ep p r Y=>?_;clear h4
   exact .inr ⟨ob,.inr ⟨k,h2,h3,.inl rfl,p⟩,λvs q=>by rw[r] at q;cases q⟩
 .exact .inr ⟨o,.inl h2,h3⟩) x
theorem cV.newOb(I:cV g c h s)(I':cV (g.ins C M dl ul c m μ s.heap) c' h' s')(e:dA (c.low m μ) c')(J:cV g (c.back c') h1 s'){r:Nat}{o:O}(hr:r<c'.n)(hmr:m≤r)(ho:OR g (c.back c') o (c'.ρ r) (c'.δ r) s'.heap):
  cV g ((c.back c').add (c'.ρ r) (c'.δ r) false) (h1.push o) s':=by
 have far:∀a,(a=c'.ρ r\/a=c'.δ r)->hH g (c.back c') a:=λa ha=>by
  refine e03 (I'.off r hr a ha) λx1 x2 x3=>?_
  refine .back I x1 x2 x3 λk hk=>?_
  have hk':k<c'.n:=Vt hk e.n
  have hne:r≠k:=Wk (Vt hk hmr)
  have e1:=e.ρ k hk
  have e2:=e.δ k hk
  refine(?_:a≠(c.low m μ).ρ k/\a≠(c.low m μ).δ k)
  rw[<-e1,<-e2]
  exact⟨λw=>I'.far r k hr hk' hne a ha (.inl w),λw=>I'.far r k hr hk' hne a ha (.inr w)⟩
 refine e02 (I'.pres r hr) λp1 p2=>?_
 exact J.pushF (λY Y q=>q) (far _ (.inl rfl)) (far _ (.inr rfl)) ho p1 p2 ⟨rfl,rfl,rfl⟩ (λq=>by cases q)
end
structure dy where
 args:List V
 src:List Nat
 pre:List O
 outs:List dW
noncomputable def jy(f:Nat->Nat)(l:List O):List O:=l.map (sD f)
noncomputable def ln(f:Nat->Nat)(l:List (Nat×O)):List (Nat×O):=l.map λp=>(f p.1,sD f p.2)
noncomputable def jz(f:Nat->Nat)(o:dW):dW:=⟨dq o.ex λp=>some (p.1,AD f p.2),jy f o.objs,wI f o.v,ln f o.ups⟩
noncomputable def wJ(f:Nat->Nat)(l:List dW):List dW:=l.map (jz f)
noncomputable def Oh(args:List V)(d i:Nat):Nat:=Nat.rec 0 (λi Y=>du (dq (fF args i) fu) d λk=>k) i
noncomputable def mO(args:List V)(d:Nat)(l:List Nat):List Nat:=l.map (Oh args d)
noncomputable def mZ(l:List Nat)(d j:Nat):Nat:=du (fF l j) d λk=>k
noncomputable def Jg(k:Nat)(l:List Nat):Bool:=dG l λj=>!(Vn k j)
noncomputable def LB(d:Nat)(l:List Nat):Bool:=List.rec true (λk r ih=>gd (V3 k d) (gd (Jg k r) ih)) l
noncomputable def fo(m r k:Nat):Nat:=db (V3 k m) k r
noncomputable def LC(ups:List (Nat×O))(j:Nat)(p:O):O:=du (gw ups) p λq=>db (Vn q.1 j) q.2 p
noncomputable def Oi(j:Nat)(l:List dW):Bool:=dG l λo=>cR (gw o.ups) λq=>Vn q.1 j
noncomputable def Ek(o o':O):Bool:=dj (cR (oB o) λl=>cR (oB o') λl'=>fw nG l l') (dj (cR (oL o) λl=>cR (oL o') λl'=>fw g8 l l') (cR (oI o) λp=>cR (oI o') λq=>gd (Vn p.1 q.1) (fw (λa b=>gd (Vn a.1 b.1) (g8 a.2 b.2)) p.2 q.2)))
noncomputable def LD(T:Nat->List V)(o o':O):Bool:=cR (oB o) λl=>cR (oB o') λl'=>yI T l l'
section
variable(T:Nat->List V)(m:Nat)
noncomputable def LE(ups:List (Nat×O))(h:H):List O->Nat->Bool:=xn λj p=>cR (h.get j) λx=>A0 T (fo m h.length) x (LC ups j p)
noncomputable def uv(μ:Nat->Nat)(outs:List dW)(h:H):List O->Nat->Bool:=xn λj p=>cR (h.get (μ j)) λx=>gd (A0 T μ x p) (dj (Oi j outs) (dj (Ek p x) (LD T p x)))
noncomputable def uw(ups:List (Nat×O)):Bool:=dj (dU ups) (cR (gw ups) λq=>V3 q.1 m)
noncomputable def Oj(n:Nat):V->Option Nat:=Nat.rec (λY=>none) (λY ih v=>sG (dq (fu v) λk=>gO (Vy m k) (some k)) (dq (ej v) λl=>List.rec none (λx Y r=>sG (ih x) r) l)) n
noncomputable def Ol(os:List O)(v a:V)(h:H):Bool:=dj (gd (dU os) (Jf T (fo m h.length) a v))
 (cR (gw os) λob=>cR (Oj m 12 a) λr=>gd (Vy m r) (gd (cR (h.get r) λx=>A0 T (fo m h.length) x ob) (Jf T (fo m r) a v)))
noncomputable def Hv(pre:List O)(a:V)(h:H)(o:dW):Bool:=du o.ex (gd (uw m o.ups) (gd (LE T m o.ups h pre 0) (Ol T m o.objs o.v a h))) λY=>false
noncomputable def Om(pre:List O)(k:Nat)(h:H)(o:dW):Bool:=cR o.ex λp=>gd (dU o.objs) (gd (uw m o.ups) (gd (LE T m o.ups h pre 0) (gd (Vy m k) (cR (h.get k) λy=>A0 T (fo m h.length) y (.exc p.1 p.2 false)))))
end
noncomputable def S8(T:Nat->List V)(m:Nat)(pre:List O)(outs:List dW)(a:V)(h:H):Bool:=cR (dF a) λx=>cR x.lo λl=>cR x.hi λu=>
 gd (decide (u - l<2000)) (dG (Bh l (u - l+1).toNat) λn=>lD (Hv T m pre (.int (.c n)) h) outs)
noncomputable def m4(T:Nat->List V)(m:Nat)(pre:List O)(outs:List dW)(a:V)(h:H):Bool:=dj (lD (Hv T m pre a h) outs) (S8 T m pre outs a h)
noncomputable def Hw(T:Nat->List V):List O->List O->Bool:=fw (A0 T λk=>k)
noncomputable def rY(C:i5)(n i:Nat)(e:dy)(ra:List V)(rp:List O):Bool:=
 gd (qe C.toks (λk=>k) (jw (λk=>k) e.args) ra) (gd (Hw C.toks (jy (λk=>k) e.pre) rp)
 ((mB C n).cl (.fn i) (jw (λk=>k) ra) (eO H.nil (jy (λk=>k) rp)) (m4 C.toks e.pre.length e.pre e.outs) (λk h=>lD (Om C.toks e.pre.length e.pre k h) e.outs)))
noncomputable def ux(T:Nat->List V)(args:List V)(h:H)(e:dy)(μ:List Nat):Bool:=
 gd (Vn μ.length e.pre.length) (gd (LB h.length μ) (gd (qe T (mZ μ h.length) args e.args) (uv T (mZ μ h.length) e.outs h e.pre 0)))
noncomputable def S9(o:Option O):Nat:=du (dq (dq o oI) λp=>dq (fF p.2 1) λq=>dq (dF q.2) fx) 0 Int.toNat
noncomputable def Ta(b:Bool)(h:H)(v:V):Nat:=du (dk v) (du (dq (uq v) λp=>gO (Vn p.1 3) (some p.2)) (du (fu v) (du (gO b (sG (iW v) (fp v))) 0 λk=>k) λk=>S9 (h.get k)) λk=>k) List.length
noncomputable def Jh(b:Bool)(h:H)(l:List V):Nat->Nat:=List.rec (λa=>a) (λv Y ih a=>ih (WN (Wv a 13) (Ta b h v))) l
noncomputable def El(T:Nat->List V)(args:List V)(h:H)(es:List dy):Option (List dW):=
 List.rec none (λe Y ih=>Bool.rec ih (some (wJ (mZ (mO args h.length e.src) h.length) e.outs)) (ux T args h e (mO args h.length e.src))) es
noncomputable def pk(T:Nat->List V)(t:Nat->Nat->List dy)(i:Nat)(args:List V)(h:H):Option (List dW):=El T args h (t i (db (Vn i 183) (Jh true h (args.drop 3) 0) (Jh (dj (Vn i 110) (dj (Vn i 166) (Vn i 171))) h args 0)))
section
variable{g:Gb}{c c':Cf}{T:Nat->List V}{m:Nat}{h h':H}{s s':Shared}
variable{f μ:Nat->Nat}
theorem jA{l:List O}:∀{h:H},(eO h l).length=h.length+l.length:=by
 induction l with
 |nil=>exact rfl
 |cons o l ih=>exact ih.trans ((congrArg (· +l.length) (H.length_push ..)).trans ((Xh ..).trans (congrArg (_+·) (Wg ..))))
theorem uy{l:List O}:∀{h:H} {l0:List O},(∀j,h.get j=l0[j]?)->h.length=l0.length->∀j,(eO h l).get j=(l0++l)[j]? :=by
 induction l with
 |nil=>exact λe Y j=>(e j).trans (by rw[We])
 |cons o l ih=>
  intro h l0 e hl j
  have q:=ih (h:=h.push o) (l0:=l0++[o]) (λj=>by
   rw[H.get_push,hl,e j,List.getElem?_append]
   by_cases q:j<l0.length
   .rw[if_pos q,if_neg (Wk q)]
   .rw[if_neg q]
    by_cases q2:l0.length=j
    .rw[if_pos q2,<-q2,Nat.sub_self];rfl
    .rw[if_neg q2,Wl (Nat.not_lt.mp q)]
     have:0<j - l0.length:=Nat.sub_pos_of_lt (Wb (Nat.not_lt.mp q) q2)
     exact(Wl this).symm) ((H.length_push ..).trans ((congrArg (· +1) hl).trans (by rw[VK];rfl))) j
  exact q.trans (by rw[List.append_assoc];rfl)
theorem uz{l:List O}{j:Nat}:(eO H.nil l).get j=l[j]? :=uy (l0:=[]) (λY=>rfl) rfl j
theorem Hx{α:Type}{l:List α}:∀{i:Nat} {x:α},fF l i=some x->x∈l:=by
 induction l with
 |nil=>exact λe=>nn e
 |cons y l ih=>
  intro i x e
  cases i with
  |zero=>exact si e▸Vq
  |succ i=>exact Vr _ (ih (i:=i) e)
theorem uA{k:Nat}{l:List Nat}{j x:Nat}(h:Jg k l=true)(e:fF l j=some x):k≠x:=by
 have:=c9 h (Hx e)
 exact en (dP this)
theorem Hy{d:Nat}{l:List Nat}:LB d l=true->(∀j x,fF l j=some x->x<d)/\∀i j x y,i≠j->fF l i=some x->fF l j=some y->x≠y:=by
 induction l with
 |nil=>exact λY=>⟨λY Y e=>nn e,λY Y Y Y Y e=>nn e⟩
 |cons k l ih=>
  exact λh=>iX h λh1 h2 h=>by
   refine e02 (ih h) λi1 i2=>?_
   refine⟨λj x e=>?_,λi j x y hn e1 e2=>?_⟩
   .cases j with
    |zero=>exact si e▸eQ h1
    |succ j=>exact i1 j x e
   .cases i with
    |zero=>
     cases j with
     |zero=>exact absurd rfl hn
     |succ j=>exact si e1▸uA h2 (j:=j) e2
    |succ i=>
     cases j with
     |zero=>exact si e2▸Ne.symm (uA h2 (j:=i) e1)
     |succ j=>exact i2 i j x y (λq=>hn (congrArg (· +1) q)) e1 e2
theorem wK{α:Type}{l:List α}:∀{i:Nat},i<l.length->∃x,fF l i=some x:=by
 induction l with
 |nil=>exact λh=>absurd h (VE _)
 |cons y l ih=>
  intro i h
  cases i with
  |zero=>exact⟨y,rfl⟩
  |succ i=>exact ih (V5 h)
theorem Hz{α β:Type}{F:α->β->Bool}{l:List α}{l':List β}{i:Nat}{x:β}(h:fw F l l'=true)(e:l'[i]? =some x):∃y,l[i]? =some y/\F y x=true:=
 dI (P:=λl l'=>∀i,l'[i]? =some x->∃y,l[i]? =some y/\F y x=true) h (λY e=>nn e) (λy r z r' h ih i e=>by
  cases i with
  |zero=>exact⟨y,rfl,si (show some z=some x from e)▸h⟩
  |succ i=>exact ih i e) i e
theorem qI{a b:V}(h:g8 a b=true):wI f a=a:=
 RR h (λh=>cP h λY e Y=>by
  cases eD e
  rfl) (λh=>cT h λe Y=>by
  cases ie e
  rfl) (λh=>cP h λY e Y=>by
  cases jD e
  rfl) (λh=>cP h λY e Y=>by
  cases gD e
  rfl)
theorem AE{x y:List V}(h:fw g8 x y=true):x=y/\jw f x=x:=
 dI (P:=λx y=>x=y/\jw f x=x) h ⟨rfl,rfl⟩ λa x b y h ih=>⟨by rw[lV h,ih.1],by
  refine(?_:wI f a::jw f x=_)
  rw[ih.2,qI h]⟩
theorem AF{x y:List (Nat×V)}(h:fw (λa b=>gd (Vn a.1 b.1) (g8 a.2 b.2)) x y=true):x=y/\AD f x=x:=
 dI (P:=λx y=>x=y/\AD f x=x) h ⟨rfl,rfl⟩ λa x b y h ih=>cT h λh1 h2=>⟨by rw[show a=b from Prod.ext (cX h1) (lV h2),ih.1],by
  refine(?_:(a.1,wI f a.2)::AD f x=_)
  rw[ih.2,qI h2]⟩
theorem AG{x y:List AI}(h:fw nG x y=true):x=y:=dI h rfl λa x b y h ih=>by rw[lU h,ih]
theorem AH{x y:O}(h:Ek x y=true):x=y/\sD f x=x:=
 Cr h (λh=>cP h λl e h=>cP h λl' e' h=>by
  have q:=AG h
  cases kG e;cases kG e'
  exact⟨congrArg O.barr q,rfl⟩) (λh=>cP h λl e h=>cP h λl' e' h=>by
  have q:=AE (f:=f) h
  cases gE e;cases gE e'
  exact⟨congrArg O.list q.1,congrArg O.list q.2⟩) (λh=>cP h λp e h=>cP h λp' e' h=>cT h λh1 h=>by
  have q:=AF (f:=f) h
  rw[kM e,kM e',cX h1]
  exact⟨congrArg (O.inst _) q.1,congrArg (O.inst _) q.2⟩)
end
section
variable{g:Gb}{c c':Cf}{C:i5}{M:Option Addr}{dl ul:Nat}{h h':H}{s s':Shared}{A:Around}{e:dy}
def HA(g:Gb)(c:Cf)(h:H)(e:dy)(f:Nat->Nat)(v:Value)(s:Shared):Prop:=
 ∃o,o∈e.outs/\o.ex=none/\∃c',dA c c'/\cV g c' (sP h (jz f o)) s/\VR g c' (wI f o.v) v
def HB(g:Gb)(c:Cf)(A:Around)(h:H)(e:dy)(f:Nat->Nat)(x:Value)(s:Shared):Prop:=
 ∃o,o∈e.outs/\∃ci mm,o.ex=some (ci,mm)/\∃c',dA c c'/\cV g c' ((sP h (jz f o)).push (.exc ci (AD f mm) false)) s/\
  x=.ref (c'.ρ (sP h (jz f o)).length)/\vE g c' A (c'.ρ (sP h (jz f o)).length) s
theorem Em{C:Prop}{m:Nat}{ups:List (Nat×O)}(h:uw m ups=true)(f:ups=[]->C)(k:∀i o,ups=[(i,o)]->i<m->C):C:=
 eL h (λh=>f (fQ h)) λh=>cP h λp e h=>k p.1 p.2 (jC e) (eQ h)
theorem HC{m:Nat}{μ:Nat->Nat}(hi:∀i j,i<m->j<m->i≠j->μ i≠μ j){ups:List (Nat×O)}{h:H}(hu:uw m ups=true):(iB h (ln μ ups)).length=h.length/\(∀k,(∀j,j<m->μ j≠k)->(iB h (ln μ ups)).get k=h.get k)/\
  ∀k,k<m->(∃o,ups=[(k,o)]/\(iB h (ln μ ups)).get (μ k)=some (sD μ o))\/((∀p,LC ups k p=p)/\(∀o,ups≠[(k,o)])/\(iB h (ln μ ups)).get (μ k)=h.get (μ k)):=
 Em hu (λe=>by
  subst e
  exact⟨rfl,λY Y=>rfl,λk Y=>.inr ⟨λY=>rfl,λo q=>V8 _ _ q.symm,rfl⟩⟩) λi o e hi'=>by
  subst e
  have gs:∀k,(iB h (ln μ [(i,o)])).get k=if μ i=k then some (sD μ o) else h.get k:=λk=>H.get_set ..
  refine⟨H.length_set ..,λk hk=>(gs k).trans (if_neg (hk i hi')),λk hk=>?_⟩
  by_cases q:i=k
  .subst q
   exact .inl ⟨o,rfl,(gs _).trans (if_pos rfl)⟩
  .refine .inr ⟨λp=>?_,λo q'=>q (congrArg WP (Wd q').1),(gs _).trans (if_neg (hi i k hi' hk q))⟩
   refine(?_:db (Vn i k) o p=p)
   rw[dg q]
   rfl
structure Mu(c:Cf)(m:Nat)(μ:Nat->Nat):Prop where
 lt:∀j,j<m->μ j<c.n
 inj:∀i j,i<m->j<m->i≠j->μ i≠μ j
 ge:∀j,m≤j->μ j=c.n
theorem rZ{l:List Nat}{d j x:Nat}(e:fF l j=some x):mZ l d j=x:=by
 unfold mZ
 rw[e]
 rfl
theorem Mu.of{l:List Nat}{d:Nat}(hl:l.length=c.n->True)(h1:LB c.n l=true):Mu c l.length (mZ l c.n):=by
 refine e02 (Hy h1) λa b=>?_
 refine⟨λj hj=>?_,λi j hi hj hn=>?_,λj hj=>?_⟩
 .refine e11 (wK hj) λx e=>?_
  exact rZ e▸a j x e
 .refine e11 (wK hi) λx e1=>?_
  refine e11 (wK hj) λy e2=>?_
  rw[rZ e1,rZ e2]
  exact b i j x y hn e1 e2
 .unfold mZ
  cases e:fF l j with
  |none=>rfl
  |some x=>exact absurd (wG e) (Nat.not_lt.mpr hj)
theorem En{m r k:Nat}(h:k<m):fo m r k=k:=by
 unfold fo
 rw[show V3 k m=true from Nat.ble_eq_true_of_le h]
 rfl
theorem Eo{m r k:Nat}(h:m≤k):fo m r k=r:=by
 unfold fo
 cases q:V3 k m with
 |false=>rfl
 |true=>exact absurd (eQ q) (Nat.not_lt.mpr h)
structure gJ(g:Gb)(C:i5):Prop where
 i:∀{c':Cf} {k a v},a∈C.toks k->VR g c' a v->g.TK k c' v
 e:∀{c':Cf} {k v},g.TK k c' v->∃a,a∈C.toks k/\VR g c' a v
 s:∀{f n k a},a∈C.toks k->kj f n a=a
 k:Kn C.toks g.σ
theorem gJ.ren(K:gJ g C){f f':Nat->Nat}(hT:∀a vs,c.T a vs->c'.T a vs)(h:∀k,f k<c.n->f' k<c'.n/\c'.ρ (f' k)=c.ρ (f k)):uR g c c' C.toks f f':=⟨K.k,hT,h,λq w=>K.i q w,λq=>K.e q,λq=>K.s q⟩
theorem pm{μ:Nat->Nat}(I:cV g c h s)(hm:Mu c e.pre.length μ)(hN:∀k,k<e.pre.length->¬c.N (μ k))(hp:uv C.toks μ e.outs h e.pre 0=true)(K:gJ g C)
  (I':cV (g.ins C M dl ul c e.pre.length μ s.heap) c' h' s') (ex:dA (c.low e.pre.length μ) c') {o:dW} (ho:o∈e.outs) (hu:uw e.pre.length o.ups=true) (hf:LE C.toks e.pre.length o.ups h' e.pre 0=true):
  cV g (c.back c') (iB h (ln μ o.ups)) s'/\(iB h (ln μ o.ups)).length=h.length/\uR g c' (c.back c') C.toks (fo e.pre.length h'.length) μ:=by
 refine e03 (HC (h:=h) hm.inj hu) λu1 u2 u3=>?_
 have R:uR g c' (c.back c') C.toks (fo e.pre.length h'.length) μ:=K.ren (λY Y q=>q) λk hk=>by
  by_cases q:k<e.pre.length
  .rw[En q]
   exact⟨hm.lt k q,(ex.ρ k q).symm⟩
  .rw[Eo (WZ q),I'.len] at hk
   exact absurd hk (WH _)
 refine⟨I.back I' ex hm.lt u1 u2 (λk o' hk q=>?_) hN,u1,R⟩
 have hpk:e.pre[k]? =some e.pre[k]:=WU hk
 have w:=kC hf hpk
 rw[VQ] at w
 refine cP w λx w1 w2=>?_
 have v2:=(I'.obj k x w1).2
 rw[rX,ex.ρ k hk,ex.δ k hk] at v2
 have v3:=jx R w2 v2
 clear w w2 v2
 refine(u3 k hk).elim (λ⟨o2,q1,q2⟩=>?_) λ⟨q1,q2,q3⟩=>?_
 .rw[q2] at q
  rw[q1,show LC [(k,o2)] k e.pre[k]=db (Vn k k) o2 e.pre[k] from rfl,VT] at v3
  exact si q▸v3
 .rw[q3] at q
  rw[q1] at v3
  have z:=kC hp hpk
  rw[VQ] at z
  refine cP z λy z1 z=>cT z λY z3=>?_
  cases Vl (q.symm.trans z1)
  refine eL z3 (λz3=>?_) λz3=>eL z3 (λz3=>?_) λz3=>cP z3 λl e1 z3=>cP z3 λl' e2 z3=>?_
  .have z3:=c9 z3 ho
   exact cP z3 λp e z=>absurd (by rw[jC e,<-cX z]) (q2 p.2)
  .refine e02 (AH (f:=μ) z3) λz4 z5=>?_
   rw[z5,z4] at v3
   exact v3
  .rw[kG e1] at v3
   rw[kG e2]
   refine e25 v3 λob b w5 w6 w7 w8 w9=>?_;clear v3
   exact⟨ob,b,w5,w6,w7,pg K.k z3 w8,Vo (Vu (fV z3)) w9⟩
theorem HD{T:Nat->List V}{m:Nat}{pre:List O}{outs:List dW}{a:V}{v:Value}{h:H}(hk:m4 T m pre outs a h=true)(hv:VR g c a v):∃a o,VR g c a v/\o∈outs/\Hv T m pre a h o=true:=
 eL hk (λhk=>iI hk λo h1 h2=>⟨a,o,hv,h1,h2⟩) λhk=>kI (P:=λv=>∃a o,VR g c a v/\o∈outs/\Hv T m pre a h o=true) hk hv λx n t hn hk=>cP hk λl hl hk=>cP hk λu hu hk=>cT hk λY hk=>by
  have h1:=hn.lo hl
  have h2:=hn.hi hu
  have q:=c9 hk (tH h1 (VW h2 (Ww (show u<l+(u - l+1) by omega) (Xe (Int.self_le_toNat _) l))))
  exact iI q λo h3 h4=>⟨.int (.c n),o,eG rfl,h3,h4⟩
theorem vE.back{μ:Nat->Nat}(I:cV g c h s)(ex:dA (c.low e.pre.length μ) c'){r:Nat}(hr:r<c'.n){a:Addr}(x:vE (g.ins C M dl ul c e.pre.length μ s.heap) c' A a s'):vE g ((c.back c').add (c'.ρ r) (c'.δ r) false) A a s':=by
 refine x.imp (λT y7=>?_) rfl
 have F:hH g (c.back c') T:=.back I y7.al y7.S y7.P λk hk=>by
  have:=y7.ne k (Vt hk ex.n)
  rw[ex.ρ k hk,ex.δ k hk] at this
  exact this
 refine⟨F.al.add,F.S,λk hk=>?_,F.P⟩
 by_cases q:k=(c.back c').n
 .subst q
  show T≠(if _ then _ else _)/\T≠(if _ then _ else _)
  rw[if_pos rfl,if_pos rfl]
  exact y7.ne r hr
 .show T≠(if _ then _ else _)/\T≠(if _ then _ else _)
  rw[if_neg q,if_neg q]
  exact F.ne k (Wb (Wf hk) q)
theorem r4{ra:List V}{rp:List O}{n i:Nat}{μ:Nat->Nat}{args:List V}{vs:List Value}
  (K:gJ g C) (hM:∀a,M=some a->g.M0=some a/\0<e.pre.length/\μ 0=0)
  (hq:C.quiet=false->A.handled=none) (hd:A.depth+n≤dl) (hu:A.units+16 * n+64≤ul) (hl:dl≤990/\ul≤cLine)
  (oa:dz g c 1 A) (I:cV g c h s) (hv:da g c args vs) (hm:Mu c e.pre.length μ) (ha:qe C.toks μ args e.args=true) (hp:uv C.toks μ e.outs h e.pre 0=true)
  (ha2:qe C.toks (λk=>k) (jw (λk=>k) e.args) ra=true) (hp2:Hw C.toks (jy (λk=>k) e.pre) rp=true)
  (hr:dz (g.ins C M dl ul c e.pre.length μ s.heap) (c.low e.pre.length μ) n A->cV (g.ins C M dl ul c e.pre.length μ s.heap) (c.low e.pre.length μ) (eO H.nil (jy (λk=>k) rp)) s->da (g.ins C M dl ul c e.pre.length μ s.heap) (c.low e.pre.length μ) (jw (λk=>k) ra) vs->
   cQ g.M A (call (.ref (g.fa i)) vs) (QV (g.ins C M dl ul c e.pre.length μ s.heap) (c.low e.pre.length μ) (m4 C.toks e.pre.length e.pre e.outs)) (EX (g.ins C M dl ul c e.pre.length μ s.heap) (c.low e.pre.length μ) A (λk h=>lD (Om C.toks e.pre.length e.pre k h) e.outs)) s):
  cQ g.M A (call (.ref (g.fa i)) vs) (HA g c h e μ) (HB g c A h e μ) s:=by
 have hat:∀k,k<e.pre.length->∃x,h.get (μ k)=some x/\A0 C.toks μ x (e.pre[k]?.getD .dead)=true:=λk hk=>by
  have hpk:e.pre[k]? =some e.pre[k]:=WU hk
  have w:=kC hp hpk
  rw[VQ] at w
  exact cP w λx w1 w2=>cT w2 λw2 Y=>⟨x,w1,by rw[hpk];exact w2⟩
 have hN:∀k,k<e.pre.length->¬c.N (μ k):=λk hk q=>by
  refine e12 (hat k hk) λx w1 w2=>?_
  refine e12 (I.ns (μ k) q) λo z1 z2=>?_
  exact tf (z2.symm.trans (Vl (w1.symm.trans z1)▸rW w2))
 have R0:uR g c (c.low e.pre.length μ) C.toks μ (λk=>k):=K.ren (λY Y q=>q) λk hk=>⟨WY λq=>absurd (hm.ge k q▸hk) (WH _),rfl⟩
 have Rl:uR g (c.low e.pre.length μ) (c.low e.pre.length μ) C.toks (λk=>k) (λk=>k):=K.ren (λY Y q=>q) λk hk=>⟨hk,rfl⟩
 have hrl:=fV hp2
 rw[show(jy (λk=>k) e.pre).length=e.pre.length from VG ..] at hrl
 have I0:cV (g.ins C M dl ul c e.pre.length μ s.heap) (c.low e.pre.length μ) (eO H.nil (jy (λk=>k) rp)) s:=by
  refine I.lows hm.lt hm.inj hN (jA.trans ((VQ _).trans ((VG ..).trans hrl))) (λk o q=>?_) λa q=>⟨(hM a q).2.1,(congrArg c.ρ (hM a q).2.2).trans (I.m0 a (hM a q).1).2⟩
  rw[uz,show(jy (λk=>k) rp)[k]? =(rp[k]?).map (sD λk=>k) from Xp ..] at q
  refine e12 (Option.map_eq_some_iff.mp q) λz hz hzo=>?_
  refine e12 (Hz hp2 hz) λy y1 y2=>?_
  rw[show(jy (λk=>k) e.pre)[k]? =(e.pre[k]?).map (sD λk=>k) from Xp ..] at y1
  refine e12 (Option.map_eq_some_iff.mp y1) λp p1 py=>?_
  have hk:k<e.pre.length:=WY λw=>nn ((Wl w).symm.trans p1)
  refine e12 (hat k hk) λx w1 w2=>?_
  rw[p1] at w2
  exact⟨hk,hzo▸jx Rl y2 (py▸jx R0 w2 (I.obj _ x w1).2)⟩
 have hv0:da (g.ins C M dl ul c e.pre.length μ s.heap) (c.low e.pre.length μ) (jw (λk=>k) ra) vs:=by
  rw[Hu]
  exact rV Rl ha2 (rV R0 ha hv)
 have oa0:dz (g.ins C M dl ul c e.pre.length μ s.heap) (c.low e.pre.length μ) n A:=⟨hq,hd,hu,hl,let⟨l,h1,h2⟩:=oa.fr;⟨l,h1,FL.ins I h2⟩⟩
 refine cO (hr oa0 I0 hv0) (λv s' q=>q.elim λa c' h' ex I' hva hK=>?_) λx s' q=>?_
 .rw[pj] at hva
  refine e23 (HD hK hva) λa o hva ho hf=>?_
  refine fM hf (λY Y h=>ft h) λhex hf=>iX hf λf1 f2 f3=>?_
  refine e03 (pm I hm hN hp K I' ex ho f1 f2) λJ hlen R=>?_
  refine⟨o,ho,hex,eL f3 (λf3=>cT f3 λhobs f3=>⟨c.back c',.back ex,?_,pi R f3 hva⟩) λf3=>cP f3 λob hobs f3=>cP f3 λr Y f3=>iX f3 λg1 g2 g3=>cP g2 λx hx g2=>?_⟩
  .refine(?_:cV g _ (eO _ (jy μ o.objs)) s')
   rw[fQ hobs]
   exact J
  .refine e02 (I'.obj r x hx) λhr hx2=>?_
   rw[rX] at hx2
   have I2:=I.newOb I' ex J hr (eQ g1) (jx R g2 hx2)
   have R2:uR g c' ((c.back c').add (c'.ρ r) (c'.δ r) false) C.toks (fo e.pre.length r) μ:=K.ren (λY Y q=>q) λk hk=>by
    by_cases q:k<e.pre.length
    .rw[En q]
     have w1:=hm.lt k q
     exact⟨V2 w1,((dA.add (c.back c') (c'.ρ r) (c'.δ r) false).ρ (μ k) w1).trans (ex.ρ k q).symm⟩
    .rw[Eo (WZ q),hm.ge k (WZ q)]
     exact⟨VS _,if_pos rfl⟩
   refine⟨_,(dA.back ex).trans (dA.add _ _ _ _),?_,pi R2 g3 hva⟩
   refine(?_:cV g _ (eO _ (jy μ o.objs)) s')
   rw[jC hobs]
   exact I2
 .obtain⟨k,c',h',ex,I',hexc,hxe,fl,hK⟩:=q
  refine e21 hexc λci mm hexc=>?_
  refine iI hK λo ho hf=>cP hf λp hex hf=>Gd hf λhobs f1 f2 f3 f4=>?_
  rw[hexc] at f4
  refine e03 (pm I hm hN hp K I' ex ho f1 f2) λJ hlen R=>?_
  refine e02 (I'.obj k _ hexc) λhr hx2=>?_
  rw[rX] at hx2
  have I2:=I.newOb I' ex J hr (eQ f3) (jx R (show A0 C.toks (fo e.pre.length h'.length) (.exc ci mm false) (.exc p.1 p.2 false)=true from f4) hx2)
  have happ:sP h (jz μ o)=iB h (ln μ o.ups):=by
   refine(?_:eO _ (jy μ o.objs)=_)
   rw[fQ hobs]
   rfl
  have hlast:((c.back c').add (c'.ρ k) (c'.δ k) false).ρ (sP h (jz μ o)).length=c'.ρ k:=by
   rw[happ,hlen,show h.length=(c.back c').n from I.len.symm]
   exact if_pos rfl
  exact⟨o,ho,p.1,p.2,hex,(c.back c').add (c'.ρ k) (c'.δ k) false,(dA.back ex).trans (dA.add _ _ _ _),happ▸I2,hxe.trans (congrArg Value.ref hlast.symm),by
   rw[hlast]
   exact vE.back I ex hr fl⟩
theorem Ep{ra:List V}{rp:List O}{n i:Nat}{μ:Nat->Nat}{args:List V}{vs:List Value}(F:io (g.ins C M dl ul c e.pre.length μ s.heap))(Fh:io (g.ins C M dl ul c e.pre.length μ s.heap).hush)
  (K:gJ g C) (hM:∀a,M=some a->g.M0=some a/\0<e.pre.length/\μ 0=0)
  (hq:C.quiet=false->A.handled=none) (hd:A.depth+n≤dl) (hu:A.units+16 * n+64≤ul) (hl:dl≤990/\ul≤cLine)
  (oa:dz g c 1 A) (I:cV g c h s) (hv:da g c args vs) (hm:Mu c e.pre.length μ) (ha:qe C.toks μ args e.args=true) (hp:uv C.toks μ e.outs h e.pre 0=true) (hr:rY C n i e ra rp=true):
  cQ g.M A (call (.ref (g.fa i)) vs) (HA g c h e μ) (HB g c A h e μ) s:=
 iX hr λha2 hp2 hr=>r4 K hM hq hd hu hl oa I hv hm ha hp ha2 hp2 λoa0 I0 hv0=>(jv F Fh n).self.cl oa0 I0 (show VR _ _ (.fn i) (.ref (g.fa i)) from rfl) hv0 hr
end
def R1(g:Gb)(i:Nat)(e:dy):Prop:=∀{A:Around} {c:Cf} {h:H} {s:Shared} {args:List V} {vs:List Value},dz g c 1 A->A.handled=none->cV g c h s->da g c args vs->
 ux g.C.toks args h e (mO args h.length e.src)=true->cQ g.M A (call (.ref (g.fa i)) vs) (HA g c h e (mZ (mO args h.length e.src) h.length)) (HB g c A h e (mZ (mO args h.length e.src) h.length)) s
theorem Er{T:Nat->List V}{args:List V}{h:H}{outs:List dW}{es:List dy}(q:El T args h es=some outs):∃e,e∈es/\ux T args h e (mO args h.length e.src)=true/\outs=wJ (mZ (mO args h.length e.src) h.length) e.outs:=by
 induction es with
 |nil=>exact nn q
 |cons e es ih=>
  have q:(Bool.rec (El T args h es) (some (wJ (mZ (mO args h.length e.src) h.length) e.outs)) (ux T args h e (mO args h.length e.src)):Option (List dW))=some outs:=q
  cases hc:ux T args h e (mO args h.length e.src) with
  |true=>
   rw[hc] at q
   exact⟨e,Vq,hc,si q⟩
  |false=>
   rw[hc] at q
   refine e12 (ih q) λe' h1 h2=>?_
   exact⟨e',Vr _ h1,h2⟩
theorem yK{g:Gb}{t:Nat->Nat->List dy}(hP:g.C.P=pk g.C.toks t)(ht:∀{i k e},e∈t i k->R1 g i e):qd g:=λ{n A i args vs c h s outs K X} oa I hv hq hP' hk=>by
 rw[hP] at hP'
 refine e13 (Er hP') λe he h1 ho=>?_
 subst ho
 have go:∀{o},o∈e.outs->xC (jz (mZ (mO args h.length e.src) h.length) o) (sP h (jz (mZ (mO args h.length e.src) h.length) o)) K X=true:=λho=>by
  have:=c9 hk (WK ho)
  exact this
 refine cO (ht he (oa.less (Nat.le_add_left ..)) (oa.hh hq) I hv h1) (λv s' q=>?_) λx s' q=>?_
 .obtain⟨o,ho,hex,c',ex,I',hv'⟩:=q
  have w:=go ho
  unfold xC at w
  rw[show(jz (mZ (mO args h.length e.src) h.length) o).ex=dq o.ex _ from rfl,hex] at w
  exact⟨_,c',_,ex,I',hv',w⟩
 .obtain⟨o,ho,ci,mm,hex,c',ex,I',hx,fl⟩:=q
  have w:=go ho
  unfold xC at w
  rw[show(jz (mZ (mO args h.length e.src) h.length) o).ex=dq o.ex _ from rfl,hex] at w
  exact⟨_,c',_,ex,I',⟨ci,AD (mZ (mO args h.length e.src) h.length) mm,(H.get_push ..).trans (if_pos rfl)⟩,hx,fl,w⟩
def fj{α:Type}(P:Nat->α->Prop)(t:BT α):Prop:=BT.rec True (λY k v Y a b=>a/\P k v/\b) t
theorem fj.get{α:Type}{P:Nat->α->Prop}{t:BT α}{k:Nat}{v:α}:fj P t->t.get k=some v->P k v:=by
 induction t with
 |nil=>exact λY e=>nn e
 |node l k' v' r il ir=>
  intro h e
  have e:(Bool.rec (Bool.rec (r.get k) (l.get k) (Vy (VU k) k')) (some v') (Vn k k'):Option α)=some v:=e
  cases q:Vn k k' with
  |true=>
   rw[q] at e
   exact cX q▸si e▸h.2.1
  |false=>
   rw[q] at e
   cases q2:Vy (VU k) k' with
   |true=>rw[q2] at e;exact il h.1 e
   |false=>rw[q2] at e;exact ir h.2.2 e
theorem ei{α:Type}{f:Nat->α->Bool}{t:BT α}(h:j7 f t=true){k:Nat}{v:α}(e:t.get k=some v):f k v=true:=by
 have q:fj (λk v=>f k v=true) t:=by
  clear e
  induction t with
  |nil=>trivial
  |node l k' v' r il ir=>exact iX h λh1 h2 h3=>⟨il h1,h2,ir h3⟩
 exact q.get e
theorem fC{t:String}{v:Value}(h:pJ t v=true):v=.type t:=by
 cases v with
 |type s=>exact congrArg Value.type (of_decide_eq_true h)
 |_=>exact ft h
theorem fD{a:Addr}{v:Value}(h:nP a v=true):v=.ref a:=by
 cases v with
 |ref b=>exact congrArg Value.ref (cX h)
 |_=>exact ft h
theorem r5{v:Value}{a:Addr}(h:FW v=some a):v=.ref a:=by
 cases v with
 |ref b=>exact congrArg Value.ref (Vl h)
 |_=>exact nn h
theorem r6{v:Value}{x:Str}(h:zB v=some x):∃t,v=.str x t:=by
 cases v with
 |str y t=>exact⟨t,congrArg (Value.str · t) (Vl h)⟩
 |_=>exact nn h
theorem r7{o:Obj}{x:FuncData}(h:RN o=some x):o.data=.func x:=by
 cases o with
 |mk c d a s=>cases a with
  |func f=>exact congrArg Data.func (Vl h)
  |_=>exact nn h
theorem r8{o:Obj}{x:Array Value}(h:Sw o=some x):o.data=.fields x:=by
 cases o with
 |mk c d a s=>cases a with
  |fields f=>exact congrArg Data.fields (Vl h)
  |_=>exact nn h
theorem LG{o:Obj}{x:Array Value}(h:T6 o=some x):∃n,o.data=.seq x n:=by
 cases o with
 |mk c d a s=>cases a with
  |seq f n=>exact⟨n,congrArg (Data.seq · n) (Vl h)⟩
  |_=>exact nn h
theorem LH{o:Obj}{x:ClassData}(h:T7 o=some x):o.data=.cls x:=by
 cases o with
 |mk c d a s=>cases a with
  |cls f=>exact congrArg Data.cls (Vl h)
  |_=>exact nn h
theorem Es{x:Str}(h:cd x≠0)(e:FX (cd x)=true):x=J2 (cd x):=et h (cX e).symm
section
variable(h:Addr->Option Obj)
end
section
variable{g:Gb}{hp:Heap}{ad:Nat->Nat}
theorem uC{C:Prop}{v:Value}{l:List Value}(e:B1 hp.get? v=some l)(f:∀t o n vs,v=.ref t->hp.get? t=some o->o.cls=.type "tuple"->o.data=.seq vs n->vs.toList=l->C):C:=
 cW e λt e1 e=>cW e λo e2 e=>cW e λxs e3 e=>dK e λe4 e=>(LG e3).elim λn h=>f t o n xs (r5 e1) e2 (fC e4) h (Vl e)
theorem qJ{v:Value}{q:Str}(e:B0 hp.get? v q=true):hp.CodeRec v q:=
 cP e λc e1 e=>cP e λo e2 e=>cP e λvs e3 e=>cP e λq' e4 e=>cW e4 λw e5 e6=>(r6 e6).elim λt e7=>⟨c,o,vs,t,r5 e1,e2,r8 e3,by rw[e5,e7,of_decide_eq_true e]⟩
structure Ba(g:Gb)(hp:Heap)(ad:Nat->Nat):Prop where
 B:∀a o,hp.get? a=some o->a≠g.P->g.B.get? a=some o
 P:hp.get? g.P=some (tabObj #[])
 T:∀t o n vs,hp.get? t=some o->o.cls=.type "tuple"->o.data=.seq vs n->g.T0 t vs.toList
 f:∀i,g.fa i=ad i
 c:∀i,g.ca i=ad i
theorem Ba.at(b:Ba g hp ad){a:Addr}{o:Obj}(h:hp.get? a=some o)(n:o.data≠.fields #[]):g.B.get? a=some o:=b.B a o h λe=>by
 rw[e,b.P] at h
 exact n (Vl h▸rfl)
theorem yL(b:Ba g hp ad){n:Nat}:∀{a:V} {v:Value},B2 hp.get? ad n a v=true->VR g (cz g) a v:=by
 induction n with
 |zero=>exact λe=>ft e
 |succ n ih=>
  exact λ{a v} e=>US e (λe=>cT e λh1 h2=>by
   cases ie h1
   cases v with
   |none=>rfl
   |_=>exact ft h2) (λe=>cP e λx h1 e=>cP e λy h2 e=>by
   cases jD h1
   cases v with
   |bool z=>exact congrArg Value.bool ((Vl h2).trans (eq_of_beq e).symm)
   |_=>exact nn h2) (λe=>cP e λx h1 e=>cP e λy h2 e=>cW h1 λz h3 h4=>by
   cases eD h3;cases ef _ _ h4
   cases v with
   |int m t=>exact⟨m,t,rfl,(Vl h2).trans (of_decide_eq_true e)⟩
   |_=>exact nn h2) (λe=>cP e λx h1 e=>cP e λy h2 e=>iX e λh3 h4 h5=>by
   cases gD h1
   refine e11 (r6 h2) λt zq15=>?_
   cases zq15
   exact⟨_,t,rfl,cX h3,en (dP h4),eQ h5⟩) (λe=>cP e λl h1 e=>cP e λvs h2 e9=>uC h2 λt o m ws q1 q2 q3 q4 q5=>by
   cases eE h1
   refine⟨t,vs,q1,q5▸b.T t o m ws q2 q3 q4,?_⟩
   clear h1 h2 q5
   exact dI (P:=λl vs=>da g (cz g) l vs) e9 da.nil λx r y r' h ih2=>da.cons (ih h) ih2) (λe=>cP e λi h1 e8=>fN h1 (λh1=>by
   cases a with
   |fn j=>exact(show v=.ref (ad i) from fD e8).trans (congrArg Value.ref (((b.f j).trans (congrArg ad (Vl h1))).symm))
   |_=>exact nn h1) λh1=>by
   cases a with
   |cls j=>exact(show v=.ref (ad i) from fD e8).trans (congrArg Value.ref (((b.c j).trans (congrArg ad (Vl h1))).symm))
   |_=>exact nn h1) (λe=>cP e λl h1 e=>cP e λbs h2 e9=>by
   cases d7 h1
   cases v with
   |bytes x t=>
    have h2:x.toList=bs:=Vl h2
    subst h2
    exact⟨x,t,rfl,dI (P:=λl bs=>BR g.σ l bs) e9 rfl λy r z r' h ih2=>cP h λn e1 h=>⟨z,r',rfl,ef _ _ e1▸(show dO g.σ (.c n) (z.toNat:Int) from of_decide_eq_true (p:=(z.toNat:Int)=n) h),ih2⟩⟩
   |_=>exact nn h2)
end
theorem HE{s:Stmt}{p:Arguments×List Stmt×Scope}{d:List V}(h:zC s=some p):pI s d=⟨jf p.1.args,d,p.2.1,dH p.2.2.names,vq p.2.1⟩:=by
 cases s with
 |FunctionDef=>cases (Vl h);rfl
 |_=>exact nn h
section
variable(h:Addr->Option Obj)(ad:Nat->Nat)(lc:Addr)(lq:Str)
end
theorem Et{l:List Str}:IM l=true->l.Nodup:=by
 induction l with
 |nil=>exact λY=>W9
 |cons x r ih=>exact λh=>cT h λh1 h2=>List.nodup_cons.mpr ⟨λq=>tf ((List.contains_iff_mem.mpr q).symm.trans (dP h1)),ih h2⟩
theorem po{sc:Scope}{n:Str}(h:ng sc n=true):sc.names.lookup n≠some .free:=λq=>by
 unfold ng at h
 rw[q] at h
 exact ft h
theorem AJ{a:Arguments}(h:B4 a=true):a=⟨[],a.args,none,[],[],none,a.defaults⟩:=
 Gd h λh1 h2 h3 h4 h5=>by
  cases a with
  |mk p ar v k kd kw d=>
   cases (show p=[] from List.isEmpty_iff.mp h1)
   cases (show v=none from Option.isNone_iff_eq_none.mp h2)
   cases (show k=[] from List.isEmpty_iff.mp h3)
   cases (show kd=[] from List.isEmpty_iff.mp h4)
   cases (show kw=none from Option.isNone_iff_eq_none.mp h5)
   rfl
theorem Eu{b:FuncBody}{l:List Stmt}(h:IK b=some l):b=.stmts l:=by
 cases b with
 |stmts x=>exact congrArg FuncBody.stmts (Vl h)
 |_=>exact nn h
theorem argNames_eq:∀l:List Arg,jf l=(l.map (·.arg)).map cd
 |[]=>rfl
 |⟨_,_,_⟩::l=>congrArg (_::·) (argNames_eq l)
theorem HF{C:Prop}{ps:List Nat}{dfl args full:List V}(h:fy ps dfl args=some full)(f:args.length≤ps.length->ps.length≤args.length+dfl.length->full=args++dfl.drop (args.length+dfl.length - ps.length)->C):C:=by
 unfold fy at h
 cases q1:Vy args.length ps.length with
 |false=>rw[q1] at h;exact nn h
 |true=>
  cases q2:Vy ps.length (args.length+dfl.length) with
  |false=>rw[q1,q2] at h;exact nn h
  |true=>rw[q1,q2] at h;exact f (eQ q1) (eQ q2) (Vl h).symm
section
variable{g:Gb}{hp:Heap}{ad:Nat->Nat}
theorem Ew(b:Ba g hp ad){l:List V}{v:Value}(h:IL hp.get? ad l v=true):∃dl,da g (cz g) l dl/\((v=.none/\dl=[])\/∃t o n items,v=.ref t/\g.B.get? t=some o/\o.data=.seq items n/\items.toList=dl):=by
 cases l with
 |nil=>
  cases v with
  |none=>exact⟨[],da.nil,.inl ⟨rfl,rfl⟩⟩
  |_=>exact ft h
 |cons a r=>
  have h:B2 hp.get? ad 5 (.tup (a::r)) v=true:=h
  refine eL (show dj (cR (B1 hp.get? v) λws=>fw (B2 hp.get? ad 4) (a::r) ws) false=true from h) (λh=>cP h λws q h8=>uC q λt' o n xs q1 q2 q3 q4 q5=>?_) λh=>ft h
  exact⟨ws,dI (P:=λl vs=>da g (cz g) l vs) h8 da.nil λx r y r' h ih2=>da.cons (yL b h) ih2,.inr ⟨t',o,n,xs,q1,b.at q2 (by rw[q4];exact nofun),q4,q5⟩⟩
theorem LI{α:Type}{a n:Nat}{dl:List α}(h1:a≤n)(h2:n≤a+dl.length):n=a+(dl.drop (a+dl.length - n)).length:=by
 rw[V7]
 exact DI h1 h2
theorem HG(b:Ba g hp ad)(hlq:∀q:Str,(q++vr)++BZ=g.lq->(q++".<locals>.")++"<lambda>"=g.lq){x:jR}(hob:vt hp.get? ad g.lc g.lq x=B3 x)(st:NA x=true):∃fd o,NQ g x.1 (pI (gR x.1) x.2) fd o:=
 cP st λp hp' st=>MN st λs1 s2 s3 k1 k2 k3 st=>iX st λk4 k5 k6=>by
  rw[HE hp']
  have hob:vt hp.get? ad g.lc g.lq x=some (true,p.1,.stmts p.2.1,p.2.2):=hob.trans (show dq (zC (gR x.1)) _=_ by rw[hp'];rfl)
  refine cW hob λo ho hob=>cW hob λfd hd hob=>?_
  have hob:=Vl hob
  have b1:Sz hp.get? ad g.lc g.lq x.2 o fd=true:=congrArg WP hob
  have b2:fd.params=p.1:=congrArg (λz=>z.2.1) hob
  have b3:fd.body=.stmts p.2.1:=congrArg (λz=>z.2.2.1) hob
  have b4:fd.scope=p.2.2:=congrArg (λz=>z.2.2.2) hob
  refine MN b1 λt1 t2 t3 t4 t5 t6 t7=>?_
  have ed:=r7 hd
  refine e12 (Ew b t2) λdl d1 d2=>?_
  refine e44 (qJ t3) λcc oc vs t e1 e2 e3 e4=>?_
  refine⟨fd,o,by rw[b.f];exact b.at ho (by rw[ed];exact nofun),fC t1,ed,b3,by rw[b4],?_,by rw[b4];exact dP k2,by rw[b4];exact dP k3,cX t4,List.isEmpty_iff.mp t5,cX t6,⟨cc,oc,vs,t,e1,b.at e2 λq=>?_,e3,e4⟩,?_,λq=>?_,?_,?_,λ{c h s args full ws} I hv hfull=>?_⟩
  .rw[b4]
   cases q:p.2.2.kind with
   |function=>rfl
   |_=>rw[q] at k1;exact ft k1
  .rw[e3] at q
   cases Xf q
   exact nn e4
  .rw[b4];exact po k4
  .refine cP t7 λbd q1 t7=>?_
   cases FuncBody.stmts.inj ((Eu q1).symm.trans b3)
   exact eL t7 (λw=>absurd q (by rw[dP w];exact Vs)) λw=>cT w λw1 w2=>⟨fD w2,hlq _ (of_decide_eq_true w1)⟩
  .rw[b4];exact Option.isNone_iff_eq_none.mp k5
  .rw[b4];exact po k6
  .refine HF hfull λf1 f2 f3=>?_
   have hl:(jf p.1.args).length=p.1.args.length:=by rw[argNames_eq,VG,VG]
   have f1:args.length≤p.1.args.length:=hl▸f1
   have f2:p.1.args.length≤args.length+x.2.length:=hl▸f2
   have hvl:=hv.length
   have xA:=d1.length
   have g1:ws.length≤p.1.args.length:=hvl▸f1
   have g2:p.1.args.length≤ws.length+dl.length:=hvl▸xA▸f2
   have g3:(p.1.args.map (·.arg)).length=(ws++dl.drop (ws.length+dl.length - p.1.args.length)).length:=by rw[VG,VK];exact LI g1 g2
   refine⟨(p.1.args.map (·.arg)).zip (ws++dl.drop (ws.length+dl.length - p.1.args.length)),iR (de:=p.1.defaults) (b2.trans (AJ s1)) ?_ (Et s2) g1 g2 (xA▸eQ s3),?_,?_⟩
   .exact d2.imp id λ⟨t,o',n,items,e1,e2,e3,e4⟩=>⟨t,o',n,items,e1,I.base _ _ e2,e3,e4⟩
   .refine(?_:List.map (cd∘WP) _=_)
    rw[<-W3,List.map_fst_zip]
    .exact(argNames_eq _).symm
    .exact Vu g3
   .rw[List.map_snd_zip]
    .rw[f3,hl,hvl,xA]
     exact hv.append ((d1.drop _).ext I.cz)
    .exact Vu g3.symm
end
theorem yM{t:String}{v:Value}(h:J4 t v=true):v=.builtin t:=by
 cases v with
 |builtin s=>exact congrArg Value.builtin (of_decide_eq_true h)
 |_=>exact ft h
theorem AK{v w:Value}(h:B5 v w=true):v=w:=
 eL h (λh=>cP h λs e h=>(fC h).trans (by
  cases w with
  |type s=>exact congrArg Value.type (Vl e).symm
  |_=>exact nn e)) λh=>cP h λs e h=>(yM h).trans (by
  cases w with
  |builtin s=>exact congrArg Value.builtin (Vl e).symm
  |_=>exact nn e)
section
variable(h:Heap)(ad:Nat->Nat)
end
section
variable{g:Gb}{hp:Heap}{ad:Nat->Nat}
theorem Ba.ns(b:Ba g hp ad){a:Addr}(h:hp.isNs a=true):g.B.Ns a (hp.nsMap a):=by
 refine e33 (Heap.Ns.of_isNs h) λo es ep h1 h2 r=>?_
 exact⟨o,es,ep,b.at h1 (by rw[h2];exact nofun),h2,r⟩
theorem HH{x:Str}(hx:cd x≠0){l:List DictEntry}:B6 (cd x) l=(l.find? λe=>e.key.isStr x).map (·.val):=by
 induction l with
 |nil=>rfl
 |cons e l ih=>
  rw[List.find?_cons]
  refine(?_:du (zB e.key) (B6 (cd x) l) (λs=>db (Vn (cd s) (cd x)) (some e.val) (B6 (cd x) l))=_)
  rw[ih]
  obtain⟨hs,k,v⟩:=e
  cases k with
  |str s t=>
   refine(?_:db (Vn (cd s) (cd x)) (some v) _=_)
   cases q:Vn (cd s) (cd x) with
   |true=>
    have e:x=s:=et hx (cX q).symm
    subst e
    rw[show(Value.str x t).isStr x=true from beq_self_eq_true x]
    rfl
   |false=>
    rw[show(Value.str s t).isStr x=false from beq_eq_false_iff_ne.mpr λe=>by rw[e,VT] at q;exact tf q]
    rfl
  |_=>rfl
theorem r9{a:Addr}{x:Str}(hx:cd x≠0):J5 hp a (cd x)=hp.nsMap a x:=by
 unfold J5 Heap.nsMap
 cases hp.get? a with
 |none=>rfl
 |some o=>
  obtain⟨c,d,a,s⟩:=o
  cases a with
  |dict es ep=>
   refine(?_:B6 (cd x) es.toList=nsFind es x)
   rw[HH hx]
   unfold nsFind findBy
   rw[<-Array.find?_toList]
  |_=>rfl
theorem GF.of(b:Ba g hp ad)(hG:g.C.G=GT)(h:tG hp ad=true):GF g:=
 iX h λh1 h2 h3=>⟨_,_,b.ns h1,b.ns h2,λx a hx e=>by
  rw[hG] at e
  have q2:=ei h3 e
  unfold NB at q2
  rw[r9 hx,r9 hx] at q2
  exact fM q2 (λn e q2=>cT q2 λw1 w2=>cP w2 λv w3 w4=>.inl ⟨n,by
   cases a with
   |bi k=>exact congrArg V.bi (Vl e)
   |_=>exact nn e,Option.isNone_iff_eq_none.mp w1,by rw[w3,AK w4]⟩) λY q2=>cP q2 λv w1 w2=>.inr ⟨v,w1,yL b w2⟩⟩
inductive UX(g:Gb)(hp:Heap)(a:Addr)(id:String)(c:ClassData):Prop
 |mk (x:XD) (o:g.B.get? a=some (excClassObj x.nm x.q a x.N x.bs x.mro true x.sn x.sub x.ab x.col x.dd x.k0 x.k1 x.k2 x.k3 x.k5 id)) (n:x.N=c.ns) (m:x.mro=c.mro.tail) (b:x.ab=c.abstract) (i:x.newId=id)
theorem qK{α:Type}{l:List α}{n:Nat}(h:l.length=n+1):∃a r,l=a::r/\r.length=n:=by
 cases l with
 |nil=>exact absurd h (V9 n).symm
 |cons a r=>exact⟨a,r,rfl,WG h⟩
theorem UY{α:Type}{l:List α}{y:α}(h:l.length=6)(e:fF l 4=some y):∃a b c d f,l=[a,b,c,d,y,f]:=by
 obtain⟨a,l1,e1,h⟩:=qK h
 obtain⟨b,l2,e2,h⟩:=qK h
 obtain⟨c,l3,e3,h⟩:=qK h
 obtain⟨d,l4,e4,h⟩:=qK h
 obtain⟨z,l5,e5,h⟩:=qK h
 obtain⟨f,l6,e6,h⟩:=qK h
 rw[Wh h] at e6
 rw[e6] at e5
 rw[e5] at e4
 rw[e4] at e3
 rw[e3] at e2
 rw[e2] at e1
 rw[e1] at e
 exact⟨a,b,c,d,f,by rw[e1,show z=y from Vl e]⟩
theorem wL(b:Ba g hp ad){a:Addr}{id:String}{c:ClassData}(h:NC hp a id=some c):UX g hp a id c:=
 cW h λo e1 h=>cW h λc' e2 h=>dK h λt1 h=>dK h λt2 h=>dK h λt3 h=>dK h λt4 h=>dK h λt5 h=>cT t5 λt5 t6=>cP t6 λv t6 t7=>cW t6 λw t6 t8=>cP t2 λp t2 t9=>by
  cases Vl h
  have t8:w=some v:=t8
  refine e51 (UY (cX t5) t6) λk0 k1 k2 k3 k5 hs=>?_
  have hd:=LH e2
  have hc:=fC t1
  have hm:c.mro=Value.ref a::c.mro.tail:=by
   cases q:c.mro with
   |nil=>rw[q] at t2;exact nn t2
   |cons y r=>rw[q] at t2;rw[<-fD t9,show p.1=y from congrArg WP (Vl t2).symm];rfl
  refine⟨⟨c.name,c.qualname,c.ns,c.bases,c.mro.tail,true,c.slotNames,c.subclasses,c.abstract,c.collection,o.dict,k0,k1,k2,k3,k5,id⟩,(b.at e1 (by rw[hd];exact nofun)).trans (congrArg some ?_),rfl,rfl,rfl,rfl⟩
  obtain⟨oc,od,oa,os⟩:=o
  obtain⟨n1,n2,n3,n4,n5,n6,n7,n8,n9,n10,n11⟩:=c
  cases (show oc=_ from hc)
  cases (show oa=_ from hd)
  cases (show n6=true from t4)
  cases (show n11=false from dP t3)
  rw[t8,yM t7] at hs
  cases (show os=#[k0,k1,k2,k3,some (.builtin id),k5] from Xg hs)
  exact congrArg (λm=>(⟨.type "type",od,.cls ⟨n1,n2,m,n4,n5,true,n7,n8,n9,n10,false⟩,#[k0,k1,k2,k3,some (.builtin id),k5]⟩:Obj)) hm
end
section
variable{g:Gb}{hp:Heap}{ad:Nat->Nat}
theorem pp{x:Nat}{l:List Nat}(h:nI x l=true):x∈l:=by
 induction l with
 |nil=>exact ft h
 |cons y r ih=>exact eL h (λh=>cX h▸Vq) λh=>Vr _ (ih h)
theorem Ex{α:Type}{x:Nat}{v:α}{l:List (Nat×α)}(h:eJ l x=some v):(x,v)∈l:=by
 induction l with
 |nil=>exact nn h
 |cons p r ih=>
  have h:(Bool.rec (eJ r x) (some p.2) (Vn p.1 x):Option α)=some v:=h
  cases q:Vn p.1 x with
  |true=>
   rw[q] at h
   exact(show p=(x,v) from Prod.ext (cX q) (Vl h))▸Vq
  |false=>
   rw[q] at h
   exact Vr _ (ih h)
theorem uD{x:Str}(h:B7 x=true):typeLookup (.type "object") x=pure none:=by
 rw[typeLookup_type,builtinLookup_eq_fast]
 unfold B7 at h
 cases q:fastLookup "object" x with
 |none=>rw[q] at h;exact ft h
 |some y=>
  cases y with
  |none=>rfl
  |some z=>rw[q] at h;exact ft h
theorem sb{x:Str}(h:(fastLookup "object" x).isSome=true):∃y,typeLookup (.type "object") x=pure y:=by
 rw[typeLookup_type,builtinLookup_eq_fast]
 cases q:fastLookup "object" x with
 |none=>rw[q] at h;exact ft h
 |some y=>exact⟨y,rfl⟩
theorem uE{l:List String}{vs:List Value}(h:B8 l vs=true):vs=l.map Value.type:=dI (P:=λl vs=>vs=l.map Value.type) h rfl λx r y r' h ih=>by rw[fC h,ih];rfl
theorem yN{C:Prop}(b:Ba g hp ad){a:Addr}(h:J6 hp a=true)(f:∀o fd,g.B.get? a=some o->o.cls=.type "function"->o.data=.func fd->C):C:=
 ri λY bk=>cP h λo h1 h=>cT h λh2 h3=>bk<|by
  cases q:RN o with
  |none=>rw[q] at h3;exact ft h3
  |some fd=>exact f o fd (b.at h1 (by rw[r7 q];exact nofun)) (fC h2) (r7 q)
theorem LJ:j7 (λY inf=>dj inf.exc (tO inf)) CT=true:=by kernel_rfl
theorem CF.of(b:Ba g hp ad)(hC:g.C.C=CT)(h:j7 (λci inf=>dj inf.exc (tC hp ad ci inf)) CT=true):CF g:=⟨λ{ci inf} e he=>by
 rw[hC] at e
 refine eL (ei LJ e) (λq=>by rw[he] at q;exact ft q) λq0=>cT q0 λoa om=>eL (ei h e) (λq=>by rw[he] at q;exact ft q) λq=>ri λY bk=>cP q λc h1 q=>MN q λh2 h3 h4 h5 h6 h7 q=>cT q λh8 h9=>iX h5 λn1 n2 n3=>bk ?_
 obtain⟨x,w1,w2,w3,w4,w5⟩:=wL b h1
 refine cP h6 λv v1 v2=>yN b h7 λo fd o1 o2 o3=>⟨x,hp.nsMap c.ns,?_,by rw[w2];exact b.ns h4,Option.isNone_iff_eq_none.mp n2,Option.isNone_iff_eq_none.mp n3,Option.isNone_iff_eq_none.mp n1,⟨by rw[v1,fD v2,b.f],o,by rw[b.f];exact o1,o2⟩,w5▸PySem.F.objNew,λy hy h0=>?_,λy f hy h0=>?_⟩
 .rw[b.c,w1,w3,w4,uE h2,dP h3,w5]
  rfl
 .refine kK hy λY hy=>?_
  have q:=c9 h8 (pp hy)
  rw[r9 h0] at q
  have w:=c9 oa (pp hy)
  refine cT w λq1 q3=>⟨Option.isNone_iff_eq_none.mp q,?_⟩
  rw[Es h0 q1]
  exact uD q3
 .have q:=c9 h9 (Ex hy)
  have w:=c9 om (Ex hy)
  refine ri λY bk=>cT w λq1 q3=>cT q λq2 q4=>cP q2 λv v1 v2=>yN b q4 λo fd o1 o2 o3=>bk ?_
  rw[r9 h0] at v1
  rw[b.f]
  exact⟨by rw[v1,fD v2],by rw[Es h0 q1];exact sb q3,o,fd,o1,o2,o3⟩⟩
end
section
variable(h:Heap)(ad:Nat->Nat)
end
section
variable{g:Gb}{hp:Heap}{ad:Nat->Nat}
theorem uG{m:Str->Option Value}(h:B9 m=true):v7 m:=Gd h λh1 h2 h3 h4 h5=>⟨Option.isNone_iff_eq_none.mp h1,Option.isNone_iff_eq_none.mp h2,Option.isNone_iff_eq_none.mp h3,Option.isNone_iff_eq_none.mp h4,Option.isNone_iff_eq_none.mp h5⟩
theorem pq{rs:List Addr}{ts:List String}{vs:List Value}(h:iE rs ts vs=true):vs=rs.map Value.ref++ts.map Value.type:=cT h λh1 h2=>by
 have q:∀{rs:List Addr} {vs:List Value},fw nP rs vs=true->vs=rs.map Value.ref:=λh=>dI (P:=λrs vs=>vs=rs.map Value.ref) h rfl λx r y r' h ih=>by rw[fD h,ih];rfl
 rw[<-q h1,<-uE h2,Wc]
theorem Ey(b:Ba g hp ad){a:Addr}{c:ClassData}{rs:List Addr}(h:NC hp a "Exception.__new__"=some c)(hm:iE rs ML c.mro.tail=true)(hn:hp.isNs c.ns=true):mG g.B a (rs.map Value.ref++eb) (hp.nsMap c.ns):=by
 obtain⟨x,w1,w2,w3,w4,w5⟩:=wL b h
 exact⟨x,by rw[w1,w3,pq hm];rfl,by rw[w2];exact b.ns hn⟩
theorem LF.of(b:Ba g hp ad)(h1:ND hp g.lc g.P=true)(h2:T8 hp g.P=true)(h3:hp.isNs mainGlobals=true)(h4:mainGlobals≠g.P):LF g:=
 ⟨ri λY bk=>cP h1 λo e1 h=>cP h λvs e2 h=>MN h λt1 t2 t3 t4 t5 t6 t7=>cP t2 λv v1 v2=>bk<|by
  have hv:=fD v2
  subst hv
  refine e11 (Option.isSome_iff_exists.mp t3) λst s1=>?_
  refine e11 (r6 s1) λtf s1=>?_
  have iN:∀{v:Value},(RO v).isSome=true->∃n t,v=.int n t:=λ{v} h=>by
   cases v with
   |int n t=>exact⟨n,t,rfl⟩
   |_=>exact ft h
  have bN:∀{v:Value},(J3 v).isSome=true->∃c,v=.bool c:=λ{v} h=>by
   cases v with
   |bool c=>exact⟨c,rfl⟩
   |_=>exact ft h
  refine e21 (iN t4) λn1 u1 i1=>?_
  refine e11 (bN t5) λc1 i2=>?_
  refine e21 (iN t6) λn3 u3 i3=>?_
  refine⟨o,vs,st,tf,n1,u1,c1,n3,u3,b.at e1 λq=>?_,fC t1,r8 e2,v1,by rw[Array.getD_eq_getD_getElem?,v1];rfl,s1,i1,i2,i3,en (dP t7)⟩
  rw[r8 e2] at q
  cases Xf q
  exact nn v1,⟨_,b.ns h3,ri λY bk=>cP h2 λm e1 h=>cW e1 λv e1 e2=>Fq h λt1 t2 t3 h=>cP h λo e3 h=>iX h λt4 t5 t6=>cP t5 λd d1 d2=>bk<|by
  have hp':o.data=.plain:=by
   obtain⟨c,d,a,s⟩:=o
   cases a with
   |plain=>rfl
   |_=>exact ft t6
  exact⟨m,o,by rw[e1,r5 e2],en (dP t1),en (dP t2),en (dP t3),b.at e3 (by rw[hp'];exact nofun),fC t4,by rw[d1,cX d2],hp'⟩⟩,h4⟩
theorem Lim.of(b:Ba g hp ad)(h:NE hp=true):g.B.NoLimit:=cT h λh1 h2=>⟨_,b.ns h1,Option.isNone_iff_eq_none.mp h2⟩
end
noncomputable def Ez(f:NameKind->Bool)(sc:Scope)(x:String):Bool:=cR (sc.names.lookup (Vm x)) f
noncomputable def UZ(sc:Scope):Bool:=gd (xF sc.kind) (gd (!sc.isCoroutine) (gd (!sc.isGenerator) (gd (dG sc.names λp=>!(gk p.2)) (gd (Ez gl sc "self") (gd (Ez gl sc "what") (gd (Ez gl sc "at") (Ez FM sc "Exception")))))))
theorem EA:∃(b:List Stmt) (sc:Scope) (p1 p2 p3:Pos) (de:List Expr),zC (gR 3000)=some (⟨[],[⟨Vm "self",none,p1⟩,⟨Vm "what",none,p2⟩,⟨Vm "at",none,p3⟩],none,[],[],none,de⟩,b,sc)/\tz b/\UZ sc=true:=by
 refine⟨_,_,_,_,_,_,rfl,⟨_,_,_,_,_,_,_,_,_,_,_,_,_,_,rfl,rfl⟩,by kernel_rfl⟩
section
variable{g:Gb}{hp:Heap}{ad:Nat->Nat}
theorem nu{f:NameKind->Bool}{k:NameKind}{sc:Scope}{x:String}(h:Ez f sc x=true)(hf:∀k',f k'=true->k'=k):sc.names.lookup (Vm x)=some k:=cP h λk' e h=>hf k' h▸e
theorem wM(k:NameKind)(h:gl k=true):k=.local:=by
 cases k with
 |«local»=>rfl
 |_=>exact ft h
theorem On(k:NameKind)(h:FM k=true):k=.globalImplicit:=by
 cases k with
 |globalImplicit=>rfl
 |_=>exact ft h
theorem uH{v:Value}{l:List Value}:l.contains v=true↔v∈l:=by simp
theorem EF.of(b:Ba g hp ad)(hC:g.C.C=CT)(hlim:g.B.NoLimit)(h1:hp.isNs mainGlobals=true)(h2:hp.isNs 0=true)(h:tE hp ad=true)(hf:vt hp.get? ad g.lc g.lq (3000,[MM])=B3 (3000,[MM])):EF g:=
 Fq h λhL hX hE1 hE2=>cP hL λcL l1 h=>Fq h λl2 l3 l4 l5=>cP l4 λfv l6 l7=>cP hE2 λev hE2 hE3=>by
  obtain⟨bd,sc,p1,p2,p3,de,hast,hbody,hsc⟩:=EA
  have hf:vt hp.get? ad g.lc g.lq (3000,[MM])=some (true,⟨[],[⟨Vm "self",none,p1⟩,⟨Vm "what",none,p2⟩,⟨Vm "at",none,p3⟩],none,[],[],none,de⟩,.stmts bd,sc):=hf.trans (show dq (zC (gR 3000)) _=_ by rw[hast];rfl)
  refine cW hf λo ho hf=>cW hf λfd hd hf=>?_
  have hf:=Vl hf
  have b1:Sz hp.get? ad g.lc g.lq [MM] o fd=true:=congrArg WP hf
  have b2:=congrArg (λz=>z.2.1) hf
  have b3:fd.body=.stmts bd:=congrArg (λz=>z.2.2.1) hf
  have b4:fd.scope=sc:=congrArg (λz=>z.2.2.2) hf
  refine MN b1 λt1 t2 t3 t4 t5 t6 Y=>MN hsc λk1 k2 k3 k4 k5 k6 hsc=>cT hsc λk7 k8=>?_
  refine e12 (Ew b t2) λdl d1 d2=>?_
  refine xV d1 λdv edl hdv=>?_
  subst edl
  have ed:=r7 hd
  refine e44 (qJ t3) λcc oc vs t e1 e2 e3 e4=>?_
  have hd2:∀{s:Shared},g.B.StaysIn s.heap->(fd.defaults=.none/\[dv]=[])\/∃t o n items,fd.defaults=.ref t/\s.heap.get? t=some o/\o.data=.seq items n/\items.toList=[dv]:=λk=>d2.imp id λ⟨t,o',n,items,e1,e2,e3,e4⟩=>⟨t,o',n,items,e1,k _ _ e2,e3,e4⟩
  have hnd:([Vm "self",Vm "what",Vm "at"]:List Str).Nodup:=by decide+kernel
  refine⟨ad 2,ad 3000,fd,bd,hp.nsMap cL.ns,dv,⟨⟨o,b.at ho (by rw[ed];exact nofun),fC t1,ed⟩,b3,hbody,?_,by rw[b4];exact dP k2,by rw[b4];exact dP k3,cX t4,cX t6,⟨cc,oc,vs,t,e1,b.at e2 λq=>?_,e3,e4⟩,λx hx q=>?_,by rw[b4];exact nu k5 wM,by rw[b4];exact nu k6 wM,by rw[b4];exact nu k7 wM,by rw[b4];exact nu k8 On,hlim,⟨_,_,b.ns h1,b.ns h2,Option.isNone_iff_eq_none.mp hE1,by rw[hE2,fC hE3]⟩⟩,
   by rw[l6,fD l7],uG l5,λ{s e w} k=>iR b2 (hd2 k) hnd (VO 2) (VA 3) (Vw rfl),λ{s e w a} k=>iR b2 (hd2 k) hnd (VA 3) (VO 3) (Vw rfl),hdv,λ{i inf} q1 q2 q3=>?_,λ{i inf} q1 q2=>?_,λ{i inf x} q1 q2 q3=>?_,λ{d c di ci} q1 q2 q3 q4 q5=>?_⟩
  .rw[b4]
   cases q:sc.kind with
   |function=>rfl
   |_=>rw[q] at k1;exact ft k1
  .rw[e3] at q
   cases Xf q
   exact nn e4
  .rw[b4] at hx
   have w:=c9 k4 hx
   rw[q] at w
   exact ft w
  .rw[hC] at q1
   refine eL (ei hX q1) (λw=>by rw[q2] at w;exact ft w) λw=>cT w λw Y=>cP w λc c1 w=>cT w λw Y=>eL w (λw=>by rw[q3] at w;exact ft w) λw=>Fq w λw1 w2 w3 w4=>?_
   rw[b.c]
   exact⟨_,⟨Ey b c1 w1 w2,Ey b l1 l2 l3⟩,Option.isNone_iff_eq_none.mp w3,uG w4⟩
  .rw[hC] at q1
   refine eL (ei hX q1) (λw=>by rw[q2] at w;exact ft w) λw=>cT w λw Y=>cP w λc c1 w=>iX w λY w Y=>?_
   obtain⟨x,w1,w2,w3,w4,w5⟩:=wL b c1
   have go:∀{rs:List Addr},iE rs ML c.mro.tail=true->x.mro.contains (.type "BaseException")=true:=λ{rs} q=>uH.mpr (by
    rw[w3,pq q]
    exact WA _ (.tail _ (.head _)))
   exact⟨{x with dic:=true,newId:="Exception.__new__"},by rw[b.c,w1],eL w go go⟩
  .rw[hC] at q1
   refine eL (ei hX q1) (λw=>by rw[q2] at w;exact ft w) λw=>cT w λw Y=>cP w λc c1 w=>iX w λY Y w=>?_
   refine kK q3 λq4 q5=>?_
   have q:=c9 w (pp q5)
   exact eL q (λq=>.inl (et q4 ((cX q).trans rC.symm))) λq=>.inr (et q4 ((cX q).trans Du.symm))
  .rw[hC] at q1 q2
   refine eL (ei hX q1) (λw=>by rw[q3] at w;exact ft w) λw=>cT w λY w=>eL (ei w q2) (λw=>by rw[q5] at w;exact ft w) λw=>eL w (λw=>by rw[q4] at w;exact ft w) λw=>?_
   rw[b.c,b.c,<-eq_of_beq w]
   refine Bool.eq_iff_iff.mpr (uH.trans ⟨λq=>?_,λq=>?_⟩)
   .refine(List.mem_cons.mp q).elim (λq=>?_) λq=>(List.mem_cons.mp q).elim (λq=>?_) λq=>?_
    .refine(?_:dj (Vn (ad c) (ad d)) _=true)
     rw[Value.ref.inj q,VT];rfl
    .refine(?_:dj (Vn (ad c) (ad d)) (dj (Vn (ad c) (ad 2)) false)=true)
     rw[Value.ref.inj q,VT];cases Vn (ad 2) (ad d)<;>rfl
    .exact absurd q (by unfold eb;simp)
   .refine Cr q (λq=>by rw[cX q];exact .head _) (λq=>by rw[cX q];exact .tail _ (.head _)) (λq=>ft q)
end
section
noncomputable def sd(n:Nat):V->Bool:=Nat.rec (λY=>false) (λY ih a=>du (fu a) (du (ej a) true λl=>dG l ih) λY=>false) n
noncomputable def pt:V->Bool:=sd 12
theorem uJ{f:Nat->Nat}{n:Nat}:∀{m:Nat} {a:V},sd n a=true->kj f m a=a:=by
 induction n with
 |zero=>exact λh=>ft h
 |succ n ih=>
  intro m a h
  cases m with
  |zero=>rfl
  |succ m=>
   cases a with
   |ref k=>exact ft h
   |tup l=>
    refine congrArg V.tup ((Xb λa ha=>?_).trans (List.map_id l))
    have q:=c9 h ha
    exact ih q
   |_=>rfl
variable{g:Gb}{c c':Cf}{F F':Gj}
theorem yO(h:∀k c v,F.1 k c v->F'.1 k c v){a:V}{v:Value}(x:VR (g.tk F) c a v):VR (g.tk F') c a v:=
 vD (λY Y h=>h) (λk v=>h k c v) (λY=>True) (λY Y h=>⟨h,rfl⟩) (λY Y Y Y=>trivial) a trivial v x
theorem LK(h:∀k c v,F.1 k c v->F'.1 k c v){a:List V}{v:List Value}(x:da (g.tk F) c a v):da (g.tk F') c a v:=x.map λY Y Y x=>yO h x
theorem EB(e:∀a vs,c.T a vs->c'.T a vs){n:Nat}{a:V}{v:Value}(q:sd n a=true)(x:VR g c a v):VR g c' a v:=
 vD (g:=g) (F:=g.own) (F':=g.own) e (λY Y h=>g.tkx e h) (λa=>∃n,sd n a=true) (λk h=>h.elim λn h=>by
  cases n with
  |zero=>exact ft h
  |succ n=>exact ft h) (λl a h ha=>h.elim λn h=>by
  cases n with
  |zero=>exact ft h
  |succ n=>
   have q:=c9 h ha
   exact⟨n,q⟩) a ⟨n,q⟩ v x
section
variable(g:Gb)(T:Nat->List V)(hT:∀k a,a∈T k->pt a=true)
noncomputable def Tb(F:Gj):Gj:=⟨λk c v=>∃a,a∈T k/\VR (g.tk F) c a v,λ⟨_,_,h⟩=>vK h,λe ⟨a,h1,h2⟩=>⟨a,h1,EB e (hT _ a h1) h2⟩⟩
noncomputable def EC:Nat->Gj
 |0=>⟨λY Y Y=>False,λh=>h.elim,λY h=>h⟩
 |n+1=>Tb g T hT (EC n)
noncomputable def sf:Gj:=⟨λk c v=>∃n,(EC g T hT n).1 k c v,λ⟨n,h⟩=>(EC g T hT n).2.1 h,λe ⟨n,h⟩=>⟨n,(EC g T hT n).2.2 e h⟩⟩
variable{g T hT}
theorem LL{n:Nat}:∀{k:Nat} {c:Cf} {v:Value},(EC g T hT n).1 k c v->(EC g T hT (n+1)).1 k c v:=by
 induction n with
 |zero=>exact λh=>h.elim
 |succ n ih=>exact λh=>h.elim λa h=>⟨a,h.1,yO (λY Y Y q=>ih q) h.2⟩
theorem ED{m n k:Nat}{c:Cf}{v:Value}(h:m≤n)(x:(EC g T hT m).1 k c v):(EC g T hT n).1 k c v:=by
 induction h with
 |refl=>exact x
 |step _ ih=>exact LL ih
theorem HI{a:V}:∀{v:Value},VR (g.tk (sf g T hT)) c a v->∃n,VR (g.tk (EC g T hT n)) c a v:=
 IQ (P:=λa=>∀{v:Value},VR (g.tk (sf g T hT)) c a v->∃n,VR (g.tk (EC g T hT n)) c a v) (λa e v x=>by
  cases a with
  |tup=>exact nn' e
  |tok=>exact x
  |_=>exact⟨0,x⟩) (λl ih v x=>by
  have go:∀{vs:List Value},da (g.tk (sf g T hT)) c l vs->∃n,da (g.tk (EC g T hT n)) c l vs:=by
   clear x
   induction l with
   |nil=>exact λx=>⟨0,x⟩
   |cons a r ih2=>
    intro vs x
    refine e23 x λy ys e h1 h2=>?_;clear x
    refine e11 (ih a Vq h1) λm h1=>?_
    refine e11 (ih2 (λb hb=>ih b (Vr _ hb)) h2) λn h2=>?_
    exact⟨max m n,e▸da.cons (yO (λY Y Y q=>ED (Nat.le_max_left ..) q) h1) (LK (λY Y Y q=>ED (Nat.le_max_right ..) q) h2)⟩
  refine e23 x λa vs h1 h2 h3=>?_;clear x
  refine e11 (go h3) λn h=>?_
  exact⟨n,a,vs,h1,h2,h⟩) a
theorem EE{k:Nat}{c:Cf}{v:Value}(h:(sf g T hT).1 k c v):∃a,a∈T k/\VR (g.tk (sf g T hT)) c a v:=by
 refine e11 h λn h=>?_
 cases n with
 |zero=>exact h.elim
 |succ n=>
  refine e12 h λa h1 h2=>?_;clear h
  exact⟨a,h1,yO (F':=sf g T hT) (λY Y Y q=>⟨n,q⟩) h2⟩
theorem Ji{k:Nat}{a:V}{c:Cf}{v:Value}(h1:a∈T k)(h2:VR (g.tk (sf g T hT)) c a v):(sf g T hT).1 k c v:=by
 refine e11 (HI h2) λn h=>?_
 exact⟨n+1,a,h1,h⟩
end
end
theorem execs_append(a b:List Stmt)(env:Env):execs (a++b) env=(execs a env>>=λf=>match f with|.next=>execs b env|f=>pure f):=by
 induction a with
 |nil=>rfl
 |cons s a ih=>
  refine(?_:(exec s env>>=λf=>match f with|.next=>execs (a++b) env|f=>pure f)=((exec s env>>=λf=>match f with|.next=>execs a env|f=>pure f)>>=λf=>match f with|.next=>execs b env|f=>pure f))
  rw[bind_assoc]
  refine congrArg _ (funext λf=>?_)
  cases f with
  |next=>exact ih
  |_=>rfl
section
variable{M:Model}{A:Around}{env:Env}{E:Value->Shared->Prop}{s:Shared}
theorem ip{a b:List Stmt}{Q Q':Flow->Shared->Prop}(h:cQ M A (execs a env) Q' E s)(hn:∀aa,Q' .next aa->cQ M A (execs b env) Q E aa)(ho:∀v aa,Q' (.ret v) aa->Q (.ret v) aa)(hx:∀aa,¬Q' .brk aa/\¬Q' .cont aa):cQ M A (execs (a++b) env) Q E s:=by
 rw[execs_append]
 refine wpAny_bind (cO h (λfl aa x=>?_) λY Y x=>x)
 cases fl with
 |next=>exact hn aa x
 |ret v=>exact wpAny_pure (ho v aa x)
 |brk=>exact((hx _).1 x).elim
 |cont=>exact((hx _).2 x).elim
end
noncomputable def Cf.sub(c:Cf)(m:Nat)(μ:Nat->Nat):Cf:=⟨m,λj=>c.ρ (μ j),λj=>c.δ (μ j),c.T,λj=>j<m/\c.N (μ j),c.D⟩
section
variable{g g':Gb}{c c':Cf}{h h0:H}{s:Shared}{m:Nat}{μ:Nat->Nat}
noncomputable def LM(g g':Gb)(c:Cf)(m:Nat)(μ:Nat->Nat)(s:Shared):Prop:=∀a o,g'.R a o->g.R a o\/(s.heap.get? a=some o/\∃k,k<c.n/\(∀j,j<m->μ j≠k)/\(a=c.ρ k\/a=c.δ k))
structure Tc(g g':Gb)(c:Cf)(m:Nat)(μ:Nat->Nat)(s:Shared):Prop where
 B:g'.B=g.B
 P:g'.P=g.P
 s0:g'.s0=g.s0
 lq:g'.lq=g.lq
 S:g'.S=g.S
 T0:∀a vs,g'.T0 a vs->c.T a vs
 R:LM g g' c m μ s
 M:∀a,g'.M0=some a->0<m/\c.ρ (μ 0)=a
theorem cV.redo(I:cV g c h s)(r:Tc g g' c m μ s)(hm:∀j,j<m->μ j<c.n)(hi:∀i j,i<m->j<m->i≠j->μ i≠μ j)(hl:h0.length=m)
  (ho:∀j o,h0.get j=some o->j<m/\OR g' (c.sub m μ) o (c.ρ (μ j)) (c.δ (μ j)) s.heap) (hn:∀j,j<m->c.N (μ j)->∃o,h0.get j=some o/\o.isNs=true):cV g' (c.sub m μ) h0 s:=by
 have far:=I.far
 have al:∀a,Al g c a->(∀k,k<c.n->(∀j,j<m->μ j≠k)->¬(a=c.ρ k\/a=c.δ k))->Al g' (c.sub m μ) a:=λa x n=>
  ⟨λo q=>(r.R a o q).elim (x.R o) λ⟨_,k,q1,q2,q3⟩=>n k q1 q2 q3,by rw[r.B];exact x.B,x.T,x.D⟩
 refine⟨hl.symm,ho,λk hk=>I.pres _ (hm k hk),I.tup,I.dat,λa o q=>(r.R a o q).elim (I.rest a o) λq=>q.1,λa o q=>I.fra a o (r.S▸q),by rw[r.B];exact I.base,λj k hj hk hn=>I.inj _ _ (hm j hj) (hm k hk) (hi j k hj hk hn),
  λk hk a ha=>?_,λa o q=>?_,by rw[r.s0];exact I.sam,r.T0,r.M,λk q=>hn k q.1 q.2,?_,?_,by rw[r.B];exact I.sm,⟨λa vs o q w=>(r.R a o w).elim (I.rT.1 a vs o q) λ⟨_,k,q1,_,q3⟩=>(I.off k q1 a q3).1.T vs q,λa ob o q w=>(r.R a o w).elim (I.rT.2 a ob o q) λ⟨_,k,q1,_,q3⟩=>(I.off k q1 a q3).1.D ob q⟩⟩
 .refine e03 (I.off _ (hm k hk) a ha) λx1 x2 x3=>?_
  exact⟨al a x1 λj q1 q2 q3=>far _ j (hm k hk) q1 (q2 k hk) a ha q3,by rw[r.S];exact x2,by rw[r.P];exact x3⟩
 .rw[r.S] at q
  refine e02 (I.offS a o q) λx1 x2=>?_
  exact⟨al a x1 λk q1 Y q3=>(I.off k q1 a q3).2.1 o q,by rw[r.P];exact x2⟩
 .refine e13 I.tab λps h1 h2 h3=>?_
  exact⟨ps,by rw[r.P];exact h1,h2,λp cv q=>by rw[r.lq];exact h3 p cv q⟩
 .rw[r.P]
  exact al _ I.offP λk q1 Y q3=>(I.off k q1 g.P q3).2.2 rfl
end
noncomputable def dQ(l:List O):H:=eO H.nil (jy (λk=>k) l)
noncomputable def EG(o:O):Bool:=match o with
 |.dead=>true
 |_=>false
noncomputable def Jj(o:O):Bool:=match o with
 |.nsU=>true
 |_=>false
section
variable(T:Nat->List V)
noncomputable def LN(f:Nat->Nat)(x p:O):Bool:=dj (A0 T f x p) (dj (cR (oN x) λa=>cR (oN p) λb=>MS T f a b) (dj (gd (EG p) (!x.isNs)) (dj (gd (Jj p) x.isNs) (cR (oC x) λa=>cR (oC p) λb=>cR a λv=>cR b λv'=>Jf T f v v'))))
noncomputable def lp(h:H)(l:List O):Bool:=gd (Vy l.length h.length) (xn (λj p=>cR (h.get j) λx=>LN T (fo l.length h.length) x p) l 0)
end
section
variable{g:Gb}{c c':Cf}{C:i5}{T:Nat->List V}{f f':Nat->Nat}{h h':H}{s s':Shared}{l:List O}
theorem EH{n:Nat}:∀{a:V},kj (λk=>k) n a=a:=by
 induction n with
 |zero=>exact rfl
 |succ n ih=>
  intro a
  cases a with
  |tup l=>exact congrArg V.tup ((Xb λa Y=>ih).trans (List.map_id l))
  |_=>rfl
theorem EI{l:List (Nat×V)}:AD (λk=>k) l=l:=by
 induction l with
 |nil=>rfl
 |cons p l ih=>
  refine(?_:(p.1,wI (λk=>k) p.2)::AD (λk=>k) l=_)
  rw[ih,show wI (λk=>k) p.2=p.2 from EH]
theorem AL{o:O}(h:EG o=true):o=.dead:=by
 cases o with
 |dead=>rfl
 |_=>exact ft h
theorem EJ{o:O}(h:Jj o=true):o=.nsU:=by
 cases o with
 |nsU=>rfl
 |_=>exact ft h
theorem HJ{o:O}{a d:Addr}{hp:Heap}(h:o.isNs=true)(w:OR g c o a d hp):∃mm,hp.Ns a mm:=by
 cases o with
 |ns m=>exact w.imp λmm q=>q.1
 |nsU=>exact w
 |_=>exact ft h
theorem yP(R:uR g c c' T f λk=>k){x p:O}{a d:Addr}{hp:Heap}(h:LN T f x p=true)(w:OR g c x a d hp):OR g c' (sD (λk=>k) p) a d hp/\(x.isNs=true->(sD (λk=>k) p).isNs=true):=
 MO h (λh=>⟨jx R h w,λq=>ft ((rW h).symm.trans q)⟩) (λh=>cP h λa e1 h=>cP h λb e2 h=>by
  cases mD e1;cases mD e2
  refine e12 w λmm w1 w2=>?_;clear w
  have w3:=Ht R h w2
  rw[EI] at w3
  exact⟨⟨mm,w1,w3⟩,λY=>rfl⟩) (λh=>cT h λh1 h2=>by
  cases AL h1
  exact⟨trivial,λq=>by rw[q] at h2;exact ft h2⟩) (λh=>cT h λh1 h2=>by
  cases EJ h1
  exact⟨HJ h2 w,λY=>rfl⟩) (λh=>cP h λa e1 h=>cP h λb e2 h=>cP h λv e3 h=>cP h λv' e4 h=>by
  cases xZ e1;cases xZ e2;cases e3;cases e4
  obtain⟨vo,w1,y,rfl,w2⟩:=w
  have w3:=pi R h w2
  rw[show wI (λk=>k) v'=v' from EH] at w3
  exact⟨⟨_,w1,y,rfl,w3⟩,λq=>q⟩)
theorem jB{l:List O}:(dQ l).length=l.length:=jA.trans ((VQ _).trans (VG ..))
theorem fW{l:List O}{j:Nat}:(dQ l).get j=(l[j]?).map (sD λk=>k):=uz.trans (Xp ..)
theorem cV.refit(I:cV g c' h s)(e:dA c c')(hn:∀k,c.N k->k<c.n)(hl:c.n≤l.length)(h0:∀a,g.M0=some a->0<l.length)(K:gJ g C)(hf:lp C.toks h l=true):cV g (c'.sub l.length λk=>k) (dQ l) s/\dA c (c'.sub l.length λk=>k):=
 cT hf λh1 h2=>by
  have hlt:∀j,j<l.length->j<c'.n:=λj hj=>Vt hj (Vo (eQ h1) (Vu I.len.symm))
  have R:uR g c' (c'.sub l.length λk=>k) C.toks (fo l.length h.length) λk=>k:=K.ren (λY Y q=>q) λk hk=>by
   by_cases q:k<l.length
   .exact⟨q,congrArg c'.ρ (En q).symm⟩
   .rw[Eo (WZ q),I.len] at hk
    exact absurd hk (WH _)
  have at_:∀{j p},l[j]? =some p->∃x,h.get j=some x/\LN C.toks (fo l.length h.length) x p=true:=λ{j p} hp=>by
   have w:=kC h2 hp
   rw[VQ] at w
   exact cP w λx w1 w2=>⟨x,w1,w2⟩
  refine⟨I.redo (g':=g) ⟨rfl,rfl,rfl,rfl,rfl,I.t0,λa o q=>.inl q,λa q=>?_⟩ hlt (λi j Y Y q=>q) jB (λj o q=>?_) λj hj q=>?_,⟨hl,λk hk=>e.ρ k hk,λk hk=>e.δ k hk,e.T,λk hk=>⟨Vt (hn k hk) hl,e.N k hk⟩,e.D,λk hk q=>e.M k hk q.2⟩⟩
  .exact⟨h0 a q,(I.m0 a q).2⟩
  .rw[fW] at q
   refine e12 (Option.map_eq_some_iff.mp q) λp p1 p2=>?_
   refine e12 (at_ p1) λx w1 w2=>?_
   have hj:j<l.length:=WY λw=>nn ((Wl w).symm.trans p1)
   exact⟨hj,p2▸(yP R w2 (I.obj j x w1).2).1⟩
  .have hp:l[j]? =some l[j]:=WU hj
   refine e12 (at_ hp) λx w1 w2=>?_
   refine e12 (I.ns j q) λo z1 z2=>?_
   cases Vl (w1.symm.trans z1)
   exact⟨_,fW.trans (congrArg (Option.map _) hp),(yP R w2 (I.obj j _ w1).2).2 z2⟩
theorem FR.sub{A:Around}{fr:Fr}{env:Env}{m:Nat}(f:FR g c A fr env)(h:fr.ns<m)(hc:∀x i,eJ fr.cells x=some i->i<m):FR g (c.sub m λk=>k) A fr env:=
 ⟨f.kind,f.names,h,f.loc,λx i hx hd hi=>⟨hc _ _ hi,(f.cells x i hx hd hi).2⟩,f.glob,f.bi,f.cls,f.inter,f.dbg,f.cdict,f.lk,f.lam⟩
end
noncomputable def pE:V:=.str 338
noncomputable def f8:V:=.str 82252
noncomputable def fS:V:=.str 82254
noncomputable def gp:V:=.str 85589
noncomputable def gK:V:=.str 84312
noncomputable def i4:V:=.str 340
noncomputable def ja:V:=.str 331
noncomputable def fX:V:=.str 341
noncomputable def df:V:=.str 1461753299781
noncomputable def uK:V:=.str 22293833
noncomputable def pu:V:=.str 85583
noncomputable def yv(v:V):dW:=⟨none,[],v,[]⟩
noncomputable def yu(v:V)(o:O):dW:=⟨none,[],v,[(0,o)]⟩
noncomputable def yn(o:O)(v:V):dW:=⟨none,[o],v,[]⟩
noncomputable def ez{α:Type}(k:Nat)(v:α):BT α:=.node .nil k v .nil
noncomputable def sj{α:Type}(l:BT α)(k:Nat)(v:α):BT α:=.node l k v .nil
noncomputable def c7(k r:Nat)(e:List dy):BT (List (Nat×List dy)):=.node .nil k [(r,e)] .nil
noncomputable def dL(l:BT (List (Nat×List dy)))(k r:Nat)(e:List dy):BT (List (Nat×List dy)):=.node l k [(r,e)] .nil
noncomputable def dh(l:BT (List (Nat×List dy)))(k r:Nat)(e:List dy)(b:BT (List (Nat×List dy))):BT (List (Nat×List dy)):=.node l k [(r,e)] b
noncomputable def rf(n:V)(q s:List V)(p:V):V:=.tup [.str 24274278,n,.tup q,.tup s,p]
noncomputable def qR:List V:=[pE]
noncomputable def q2:List V:=[.str 86578]
noncomputable def q3:List V:=[.str 86579]
noncomputable def n1:V:=.tup [.str 402925602104690,.tup [.int (.c 1),.int (.c 0)]]
noncomputable def n2:V:=.tup [.str 402925602104690,.tup [.int (.c 2),.int (.c 0)]]
noncomputable def c0:V:=.tup [rf fS [] [] .none,n1]
noncomputable def c1:V:=.tup [n1,.none]
noncomputable def c2:V:=.tup [n1,n1]
noncomputable def names:V:=.tup [pE,f8,fS,gp,gK,i4,ja,fX,df,uK,pu]
noncomputable def cp(a:AI):Nat->List AI
 |0=>[]
 |n+1=>a::cp a n
noncomputable def fb(n:Nat):List AI:=cp (.u (some 48) (some 57)) n
noncomputable def ab(n:Nat):List AI:=cp (.u (some 0) (some 255)) n
noncomputable def HK:List AI:=[.s 0 48 57,.s 1 48 57,.s 2 48 57,.s 3 48 57,.s 4 48 57,.s 5 48 57,.s 6 48 57,.s 7 48 57,.s 8 48 57,.s 9 48 57,.s 10 48 57,.s 11 48 57,.s 12 48 57,.s 13 48 57,.s 14 48 57,.s 15 48 57,.s 16 48 57,.s 17 48 57,.s 18 48 57,.s 19 48 57,.s 20 48 57,.s 21 48 57,.s 22 48 57,.s 23 48 57,.s 24 48 57,.s 25 48 57,.s 26 48 57,.s 27 49 50,.s 28 48 57]
noncomputable def Td:O:=.barr HK
noncomputable def m5:O:=.barr (ab 29)
noncomputable def d6(a n:Nat):O:=.barr (M8 HK 0 a++ab n++M8 HK (a+n) 29)
noncomputable def dE(d:Nat):O:=.list [.int (.u (some 0) none),.int (.pb d)]
noncomputable def x4:dW:=⟨some (4,[(6298296692,.strU 100000),(90484,.tup [.int (.c 0),.int (.c 0)])]),[],.none,[]⟩
noncomputable def x5:dW:=⟨some (5,[(6298296692,.strU 100000),(90484,.tup [.int (.c 0),.int (.c 0)])]),[],.none,[]⟩
noncomputable def uT:dW:=⟨none,[],.bool true,[(0,m5)]⟩
noncomputable def uF:dW:=⟨none,[],.bool false,[(0,m5)]⟩
noncomputable def m6(a0 a1 a2 a3 a4 a5 a6 a7 a8:V):O:=.inst 11 [(1565070353772,a0),(6146846053,a1),(114017890487881576109679409268,.none),(1603958564709,.str 1),(6231254894,.str 1),(436967053782273994518525029,.bool false),(403947637797491,a2),(6832601383258565797235,.str 1),(1607952266597,.none),(111863565603395232715042809188,.bool false),(28637072756522928292057112212079,.bool false),(1678495644609696360263283,a3),(6097036403,a4),(405038810099316,a5),(104257266138310003,.none),(5945520997,.str 1),(403960572896628,a6),(6231259749,a7),(1595184083045,a8)]
noncomputable def f9(a0 a1 a2 a3 a4:V):O:=.inst 71 [(25607876935081226873,a0),(6231259749,a1),(103698667306054245,.none),(1603958564709,a2),(6231254894,.str 26837620234872516199),(436967053782273994518525029,.bool false),(111863565603395232715042809188,.bool false),(28637072756522928292057112212079,.bool false),(391878846018675,a3),(1595100195941,.int (.c 0)),(6667588100942841406820,a4)]
noncomputable def z0:O:=.list []
noncomputable def z1:V:=.int (.c 1)
noncomputable def z2:V:=.none
noncomputable def z3:V:=.int (.c 0)
noncomputable def z4:V:=.int (.c 27)
noncomputable def z5:V:=.wr 13
noncomputable def z6:V:=.str 1543813166448
noncomputable def z7:V:=.str 100321036237300089
noncomputable def z8:V:=.bool false
noncomputable def z9:V:=.str 1668995716643950454663523
noncomputable def za:V:=.int (.c 3)
noncomputable def zb:V:=.int (.c 5)
noncomputable def zc:V:=.wr 15
noncomputable def zd:V:=.str 109379303285981332258604345699
noncomputable def ze:V:=.int (.c 4)
noncomputable def zf:O:=f9 zd ze z7 z3 z8
noncomputable def zg:V:=.wr 24
noncomputable def zh:V:=.str 103148954189982051
noncomputable def zi:V:=.int (.c 7)
noncomputable def zj:V:=.wr 34
noncomputable def zk:V:=.str 1552335267192
noncomputable def zl:V:=.int (.c 11)
noncomputable def zm:V:=.int (.c 15)
noncomputable def zn:V:=.wr 53
noncomputable def zo:V:=.tup []
noncomputable def zp:V:=.int (.c 2)
noncomputable def zq:O:=f9 zh zp z7 zp z8
noncomputable def zr:V:=.wr 65
noncomputable def zs:O:=f9 zd z1 z7 z3 z8
noncomputable def zt:V:=.wr 74
noncomputable def zu:O:=f9 zh z1 z7 z1 z8
noncomputable def zv:V:=.wr 93
noncomputable def zw:V:=.wr 110
noncomputable def zx:V:=.wr 1
noncomputable def zy:V:=.ref 0
noncomputable def zz:V:=.tok 11
noncomputable def hV:V:=.tok 12
noncomputable def R3:V:=rf fS [] [] z2
noncomputable def Jk:V:=.str 6247774324
noncomputable def MU:V:=.str 394077870060133
noncomputable def fm:V:=.str 24274278
noncomputable def wN:V:=.tok 340
noncomputable def m7:V:=.tok 370
noncomputable def AM:V:=.tok 350
noncomputable def jY:V:=.tok 50
noncomputable def jZ:V:=.tok 51
noncomputable def j2:V:=.tok 52
noncomputable def j3:V:=.tok 53
noncomputable def sk:V:=.tok 36
noncomputable def so:V:=.tok 32
noncomputable def jL:V:=.tok 33
noncomputable def jN:V:=.tok 34
noncomputable def jO:V:=.tok 35
noncomputable def j4:V:=.tok 54
noncomputable def jb:V:=.tok 31
noncomputable def jc:V:=.tok 40
noncomputable def LP:V:=.tup [z3,z4]
noncomputable def LQ:V:=.tup [z3,z1]
noncomputable def LR:V:=.tup [z3,za]
noncomputable def LS:V:=.tup [za,ze]
noncomputable def LT:V:=.tup [zi,ze]
noncomputable def MV:V:=.tup [zl,ze]
noncomputable def LU:V:=.tup [zm,ze]
noncomputable def LV:V:=.tup [zm,z1]
noncomputable def HL:V:=.int (.c 19)
noncomputable def LW:V:=.tup [HL,ze]
noncomputable def LX:V:=.tup [HL,z1]
noncomputable def LY:V:=.tup [zm,zp]
noncomputable def LZ:V:=.tup [HL,zp]
noncomputable def Fu:V:=.tup [.int (.c 17),z1]
noncomputable def Fv:V:=.tup [.int (.c 18),z1]
noncomputable def Fw:V:=.tup [.int (.c 21),z1]
noncomputable def Fx:V:=.tup [.int (.c 22),z1]
noncomputable def Fy:V:=.tup [.int (.c 28),z1]
noncomputable def FA:V:=.tup [z4,z1]
noncomputable def qL:V:=.tup qR
noncomputable def qf:V:=.tup q2
noncomputable def A1:V:=.tup q3
noncomputable def MW:V:=.tup [.tok 5]
noncomputable def R4:V:=.tup [.tok 5,.tok 5]
noncomputable def ff:List dW:=[(yn z0 zy)]
noncomputable def Oo:List dW:=[(yn (.list qR) zy)]
noncomputable def wO:List dW:=[(yv (.bool true))]
noncomputable def pF:List dW:=[(yv z8)]
noncomputable def eK:V:=.bytes (fb 1)
noncomputable def dB:V:=.ref 1
noncomputable def dR:List dW:=[(yv (.bytes (ab 1)))]
noncomputable def yQ:V:=.bytes [.st [125,74,75,76,77,78,79,80,81,82]]
noncomputable def lA:O:=f9 zh z1 z7 z1 (.bool true)
noncomputable def yR:V:=.bytes [.st [123,65,66,67,68,69,70,71,72,73]]
noncomputable def gL:O:=f9 zd zp z7 z3 z8
noncomputable def fH:List dW:=[(yv (.bytes (ab 2)))]
noncomputable def gN:O:=f9 zd za z7 z3 z8
noncomputable def gY:List dW:=[(yv (.bytes (ab 3)))]
noncomputable def dM:List dW:=[(yv (.bytes (ab 4)))]
noncomputable def fG:List dW:=[(yv (.bytes (ab 27)))]
noncomputable def gQ:O:=f9 zd z4 z7 z3 z8
noncomputable def gZ:V:=.bytes (fb 2)
noncomputable def yS:V:=.bytes [.u (some 48) (some 57),.st [125,74,75,76,77,78,79,80,81,82]]
noncomputable def lB:O:=f9 zh zp z7 zp (.bool true)
noncomputable def yT:V:=.bytes [.u (some 48) (some 57),.st [123,65,66,67,68,69,70,71,72,73]]
noncomputable def iq:V:=.bytes (fb 3)
noncomputable def yU:V:=.bytes [.u (some 48) (some 57),.u (some 48) (some 57),.st [125,74,75,76,77,78,79,80,81,82]]
noncomputable def lC:O:=f9 zh za z7 za (.bool true)
noncomputable def yV:V:=.bytes [.u (some 48) (some 57),.u (some 48) (some 57),.st [123,65,66,67,68,69,70,71,72,73]]
noncomputable def yW:O:=f9 zh za z7 za z8
noncomputable def fk:V:=.bytes (fb 4)
noncomputable def wQ:V:=.bytes (fb 5)
noncomputable def wS:O:=f9 zd zb z7 z3 z8
noncomputable def wT:V:=.bytes (fb 6)
noncomputable def FC:V:=.int (.c 6)
noncomputable def wU:O:=f9 zd FC z7 z3 z8
noncomputable def wV:V:=.bytes (fb 7)
noncomputable def wW:O:=f9 zd zi z7 z3 z8
noncomputable def kl:V:=.bytes (fb 27)
noncomputable def A2:List dW:=[(yv (.str 1))]
noncomputable def iV:List dW:=[(yn (.lsU 1 1) zy)]
noncomputable def sE:List dW:=[(yn (.lsU 1 5) zy)]
noncomputable def R5:V:=.int (.u (some 1) (some 3))
noncomputable def cZ:V:=.wr 1000
noncomputable def dm:List O:=[Td]
noncomputable def gP:List dW:=[x4,x5]
noncomputable def eM:V:=.tok 62
noncomputable def eN:V:=.tok 72
noncomputable def R6:V:=.int (.u (some 0) (some 3))
noncomputable def R7:V:=.int (.u (some 3) (some 8))
noncomputable def dX:V:=.bytes HK
noncomputable def gM:O:=dE 17
noncomputable def A3:O:=dE 20
noncomputable def d4:List O:=[m5]
noncomputable def MX:BT O:=(.node (.node (.node (.node (.node (sj (ez 1 (.inst 12 [(105675653485522535,.wr 3),(102572814491543397,.wr 4),(1539367003507,.wr 5),(1595302638707,.wr 6),(6231259749,.int (.c 29)),(101733844070720883,.wr 118)])) 3 (.list [.wr 8,.wr 84,.wr 101])) 4 z0 (ez 5 (.dict []))) 6 z0 (.node (ez 8 (m6 z1 pE z2 (.wr 10) (.wr 11) z2 z3 z4 z5)) 10 z0 (ez 11 (.list [.wr 18,.wr 27,.wr 37,.wr 47,.wr 56])))) 13 (f9 z6 z4 z7 z3 z8) (.node (.node (ez 15 (f9 z9 za z7 z3 z8)) 18 (m6 zb f8 z2 (.wr 20) (.wr 21) (.wr 8) z3 za zc) (ez 20 z0)) 21 z0 (.node (ez 24 zf) 27 (m6 zb fS z2 (.wr 29) (.wr 30) (.wr 8) za ze zg) (ez 29 z0)))) 30 z0 (.node (.node (.node (ez 34 (f9 zh ze z7 ze z8)) 37 (m6 zb gp z2 (.wr 39) (.wr 40) (.wr 8) zi ze zj) (ez 39 z0)) 40 z0 (.node (ez 44 (f9 zk ze zk (.int (.c 9)) (.bool true))) 47 (m6 zb gK z2 (.wr 49) (.wr 50) (.wr 8) zl ze (.wr 44)) (ez 49 z0))) 50 z0 (.node (.node (ez 53 (f9 z6 ze z7 z3 z8)) 56 (m6 zb i4 (.wr 60) (.wr 58) (.wr 59) (.wr 8) zm ze zn) (ez 58 z0)) 59 (.list [.wr 68,.wr 77]) (.node (ez 60 (.inst 10 [(23883639,z1),(6046705512,za),(6574350343960628129383,z2),(6096779635,zo),(101733844070720883,zo)])) 65 zq (ez 68 (m6 zb ja z2 (.wr 70) (.wr 71) (.wr 56) zm zp zr)))))) 70 z0 (.node (.node (.node (.node (sj (ez 71 z0) 74 zs) 77 (m6 zb fX (.wr 81) (.wr 79) (.wr 80) (.wr 56) (.int (.c 17)) z1 zt) (ez 79 z0)) 80 z0 (.node (ez 81 (.inst 10 [(23883639,z1),(6046705512,zp),(6574350343960628129383,z2),(6096779635,zo),(101733844070720883,zo)])) 84 (m6 z1 (.str 86578) z2 (.wr 86) (.wr 87) z2 z4 z1 (.wr 89)) (ez 86 z0))) 87 (.list [.wr 96]) (.node (.node (ez 89 (f9 z6 z1 z7 z3 z8)) 93 zu (ez 96 (m6 zb df z2 (.wr 98) (.wr 99) (.wr 84) z4 z1 zv))) 98 z0 (.node (ez 99 z0) 101 (m6 z1 (.str 86579) z2 (.wr 103) (.wr 104) z2 (.int (.c 28)) z1 (.wr 106)) (ez 103 z0)))) 104 (.list [.wr 113]) (.node (.node (.node (ez 106 (f9 z6 z1 z7 z3 z8)) 110 zu (ez 113 (m6 zb df z2 (.wr 115) (.wr 116) (.wr 101) (.int (.c 28)) z1 zw))) 115 z0 (.node (ez 116 z0) 118 (.dict [(22293833,.wr 56)]) (ez 119 (.dict [])))) 120 (.inst 148 [(6146846053,.str 336),(5979075681,zx),(1539367003507,.wr 119),(1739941820890875373446515,z2),(1706902551032123882037612,z8)]) (.node (.node (ez 125 z0) 126 z0 (ez 284 (.dict [(22293833,z1)]))) 286 (.dict []) (.node (ez 287 (.dict [])) 288 z0 (ez 289 (.dict [])))))))
noncomputable def WT:BT O:=.node MX 1000 (.inst 161 [(103708614232007021,.wr 120),(1595184344166,z2),(6214874995,.wr 125),(6870217698016752531315,.wr 126),(401757371855481,zy),(101733844070720883,.wr 284),(1565136939891,.wr 286),(101438118374958451,.wr 287),(1735181843433596808095859,.wr 288),(26476773734033289079,.bytes []),(1595302638707,.wr 289)]) .nil
noncomputable def TT:BT (List V):=(.node (.node (.node (.node (.node (.node (ez 1 [zz]) 2 [hV] (ez 3 [R3,.tup [Jk,.bytes [.c 49]],.tup [MU,.str 1457340367685],(rf pu [] [] z2),(rf df [] [] z2),.tup [.str 299,n1,(rf f8 [] [] z2)]])) 4 [zz,hV] (sj (ez 5 [zz,hV,.tok 3]) 31 [(rf uK [] [] z2)])) 32 [.tup [Jk,.bytes [.c 49]],.tup [Jk,.bytes [.c 49,.c 50]],.tup [Jk,.bytes [.c 49,.c 50,.c 51]],.tup [Jk,.bytes [.c 49,.c 50,.c 51,.c 52]],.tup [Jk,.bytes [.c 49,.c 50,.c 51,.c 52,.c 53]],.tup [Jk,.bytes [.c 49,.c 50,.c 51,.c 52,.c 53,.c 54]],.tup [Jk,.bytes [.c 49,.c 50,.c 51,.c 52,.c 53,.c 54,.c 55]]] (.node (.node (ez 33 [.tup [MU,.str 5809459791]]) 34 [.tup [MU,.str 1457340367685],.tup [MU,.str 5507729224],.tup [MU,.str 21778263],.tup [MU,.str 1448835241029]] (ez 35 [.tup [.str 23161964,.bytes [.c 55]],.tup [.str 23161964,.bytes [.c 55,.c 48]],.tup [.str 23161964,.bytes [.c 55,.c 48,.c 53]]])) 36 [.tup [.str 402925602104690,.tup [.int (.u (some (-300)) (some 699)),z3]]] (sj (ez 40 [.tup [fm,pE,.tok 300,wN,z2],.tup [fm,pE,.tok 300,wN,m7],.tup [fm,pE,.tok 320,AM,z2],.tup [fm,pE,.tok 320,AM,m7],.tup [fm,pE,.tok 320,.tok 390,c0],.tup [fm,f8,.tok 301,wN,z2],.tup [fm,f8,.tok 301,wN,m7],.tup [fm,f8,.tok 321,AM,z2],.tup [fm,f8,.tok 321,AM,m7],.tup [fm,f8,.tok 321,.tok 390,c0],.tup [fm,fS,.tok 302,wN,z2],.tup [fm,fS,.tok 302,wN,m7],.tup [fm,fS,.tok 322,AM,z2],.tup [fm,fS,.tok 322,AM,m7],.tup [fm,fS,.tok 322,.tok 390,c0],.tup [fm,gp,.tok 303,wN,z2],.tup [fm,gp,.tok 303,wN,m7],.tup [fm,gp,.tok 323,AM,z2],.tup [fm,gp,.tok 323,AM,m7],.tup [fm,gp,.tok 323,.tok 390,c0],.tup [fm,gK,.tok 304,wN,z2],.tup [fm,gK,.tok 304,wN,m7],.tup [fm,gK,.tok 324,AM,z2],.tup [fm,gK,.tok 324,AM,m7],.tup [fm,gK,.tok 324,.tok 390,c0],.tup [fm,i4,.tok 305,.tok 341,z2],.tup [fm,i4,.tok 305,.tok 341,m7],.tup [fm,i4,.tok 325,.tok 351,z2],.tup [fm,i4,.tok 325,.tok 361,z2],.tup [fm,i4,.tok 325,.tok 351,m7],.tup [fm,i4,.tok 325,.tok 361,m7],.tup [fm,i4,.tok 325,.tok 391,c0],.tup [fm,ja,.tok 306,.tok 341,z2],.tup [fm,ja,.tok 306,.tok 341,m7],.tup [fm,ja,.tok 326,.tok 351,z2],.tup [fm,ja,.tok 326,.tok 361,z2],.tup [fm,ja,.tok 326,.tok 351,m7],.tup [fm,ja,.tok 326,.tok 361,m7],.tup [fm,ja,.tok 326,.tok 391,c0],.tup [fm,fX,.tok 307,.tok 342,z2],.tup [fm,fX,.tok 307,.tok 342,m7],.tup [fm,fX,.tok 327,.tok 352,z2],.tup [fm,fX,.tok 327,.tok 362,z2],.tup [fm,fX,.tok 327,.tok 352,m7],.tup [fm,fX,.tok 327,.tok 362,m7],.tup [fm,fX,.tok 327,.tok 392,c0],.tup [fm,df,.tok 308,wN,z2],.tup [fm,df,.tok 308,wN,m7],.tup [fm,df,.tok 328,AM,z2],.tup [fm,df,.tok 328,AM,m7],.tup [fm,df,.tok 328,.tok 390,c0],.tup [fm,pu,.tok 310,wN,z2],.tup [fm,pu,.tok 310,wN,m7]]) 50 [.tok 100,.tok 115,.tok 118]))) 51 [.tok 103] (.node (.node (.node (ez 52 [.tok 101,.tok 102,.tok 104,.tok 105,.tok 106,.tok 107,.tok 108,.tok 110,.tok 111,.tok 113,.tok 114,.tok 116,.tok 117,.tok 119,.tok 120,.tok 122,.tok 123,.tok 125,.tok 126,.tok 127,.tok 128,.tok 129,.tok 130,.tok 131,.tok 132,.tok 133,.tok 134,.tok 135,.tok 136,.tok 137,.tok 138,.tok 141,.tok 142,.tok 143,.tok 144]) 53 [.tok 109,.tok 121,.tok 124,.tok 139,.tok 140] (ez 54 [.tok 112])) 60 [jY,jZ,j2,j3,sk,so,jL,jN,jO] (sj (ez 61 [jY,jZ,j2,so,jN,jO]) 62 [jY,jZ,j2,j3,sk,so,jL,jN,jO])) 63 [jY,j2,j3,sk,so,jL,jO] (.node (.node (ez 64 []) 70 [j4,jb,jc] (ez 71 [j3,j4,sk,jL,jb,jc])) 72 [j4,jb,jc] (sj (ez 73 [jZ,j4,jN,jb,jc]) 74 [jY,jZ,j2,j3,j4,sk,so,jL,jN,jO,jb,jc])))) 80 [jY,jZ,j2,j3,j4,sk,so,jL,jN,jO,jb,jc] (.node (.node (.node (.node (ez 81 [.tok 100,.tok 101,.tok 102,.tok 103,.tok 104,.tok 105,.tok 106,.tok 107,.tok 108,.tok 109,.tok 110,.tok 111,.tok 112,.tok 113,.tok 114,.tok 115,.tok 116,.tok 117,.tok 118,.tok 119,.tok 120,.tok 121,.tok 122,.tok 123,.tok 124,.tok 125,.tok 126,.tok 127,.tok 128,.tok 129,.tok 130,.tok 131,.tok 132,.tok 133,.tok 134,.tok 135,.tok 136,.tok 137,.tok 138,.tok 139,.tok 140,.tok 141,.tok 142,.tok 143,.tok 144,jc,jb]) 82 [LP,LQ,LR,LS,.tup [za,z1],LT,.tup [zi,z1],MV,.tup [zl,z1],LU,LV,LW,LX,LY,LZ,Fu,Fv,Fw,Fx,Fy,FA,z2] (ez 83 [jY,jZ,j2,j3,j4,sk,so,jL,jN,jO,jb,jc])) 100 [(rf pE [] [] z2)] (sj (ez 101 [(rf pE [] [] c1)]) 102 [(rf pE [] [] c2)])) 103 [(rf f8 [] [] z2),(rf f8 qR [] z2)] (.node (.node (ez 104 [(rf f8 [] [] c1),(rf f8 qR [] c1)]) 105 [(rf f8 [] [] c2),(rf f8 qR [] c2)] (ez 106 [R3,(rf fS qR [] z2)])) 107 [(rf fS [] [] c1),(rf fS qR [] c1)] (sj (ez 108 [(rf fS [] [] c2),(rf fS qR [] c2)]) 109 [(rf gp [] [] z2),(rf gp qR [] z2)]))) 110 [(rf gp [] [] c1),(rf gp qR [] c1)] (.node (.node (.node (ez 111 [(rf gp [] [] c2),(rf gp qR [] c2)]) 112 [(rf gK [] [] z2),(rf gK qR [] z2)] (ez 113 [(rf gK [] [] c1),(rf gK qR [] c1)])) 114 [(rf gK [] [] c2),(rf gK qR [] c2)] (sj (ez 115 [(rf i4 [] [zz] z2),(rf i4 qR [zz] z2)]) 116 [(rf i4 [] [zz] c1),(rf i4 qR [zz] c1)])) 117 [(rf i4 [] [zz] c2),(rf i4 qR [zz] c2)] (.node (.node (ez 118 [(rf i4 [] [hV] z2),(rf i4 qR [hV] z2)]) 119 [(rf i4 [] [hV] c1),(rf i4 qR [hV] c1)] (ez 120 [(rf i4 [] [hV] c2),(rf i4 qR [hV] c2)])) 121 [(rf ja [] [zz] z2),(rf ja qR [zz] z2)] (sj (ez 122 [(rf ja [] [zz] c1),(rf ja qR [zz] c1)]) 123 [(rf ja [] [zz] c2),(rf ja qR [zz] c2)]))))) 124 [(rf ja [] [hV] z2),(rf ja qR [hV] z2)] (.node (.node (.node (.node (.node (ez 125 [(rf ja [] [hV] c1),(rf ja qR [hV] c1)]) 126 [(rf ja [] [hV] c2),(rf ja qR [hV] c2)] (ez 127 [(rf fX [] [zz,zz] z2),(rf fX qR [zz,zz] z2)])) 128 [(rf fX [] [zz,zz] c1),(rf fX qR [zz,zz] c1)] (sj (ez 129 [(rf fX [] [zz,zz] c2),(rf fX qR [zz,zz] c2)]) 130 [(rf fX [] [zz,hV] z2),(rf fX qR [zz,hV] z2)])) 131 [(rf fX [] [zz,hV] c1),(rf fX qR [zz,hV] c1)] (.node (.node (ez 132 [(rf fX [] [zz,hV] c2),(rf fX qR [zz,hV] c2)]) 133 [(rf fX [] [hV,zz] z2),(rf fX qR [hV,zz] z2)] (ez 134 [(rf fX [] [hV,zz] c1),(rf fX qR [hV,zz] c1)])) 135 [(rf fX [] [hV,zz] c2),(rf fX qR [hV,zz] c2)] (sj (ez 136 [(rf fX [] [hV,hV] z2),(rf fX qR [hV,hV] z2)]) 137 [(rf fX [] [hV,hV] c1),(rf fX qR [hV,hV] c1)]))) 138 [(rf fX [] [hV,hV] c2),(rf fX qR [hV,hV] c2)] (.node (.node (.node (ez 139 [(rf df q3 [] z2)]) 140 [(rf df q2 [] z2)] (ez 141 [(rf df q3 [] c1)])) 142 [(rf df q2 [] c1)] (sj (ez 143 [(rf df q3 [] c2)]) 144 [(rf df q2 [] c2)])) 300 [qL,qf] (.node (.node (ez 301 [qf]) 302 [qf] (ez 303 [qf])) 304 [qf] (sj (ez 305 [qf]) 306 [qf])))) 307 [qf] (.node (.node (.node (.node (ez 308 [zo]) 310 [zo,qL,qf] (ez 320 [zo])) 321 [zo,qL] (sj (ez 322 [zo,qL]) 323 [zo,qL])) 324 [zo,qL] (.node (.node (ez 325 [zo,qL]) 326 [zo,qL] (ez 327 [zo,qL])) 328 [A1,qf] (sj (ez 340 [zo,MW]) 341 [zo,MW,R4]))) 342 [MW,R4,.tup [.tok 5,.tok 5,.tok 5]] (.node (.node (.node (ez 350 [MW]) 351 [zo,R4] (ez 352 [MW,.tup [.tok 5,.tok 5,.tok 5]])) 361 [.tup [.tok 3]] (sj (ez 362 [.tup [.tok 3,.tok 5],.tup [.tok 4,.tok 3]]) 370 [c0,c1,c2])) 380 [pE,f8,fS,gp,gK,i4,ja,fX,df,uK,pu] (.node (sj (ez 381 [.tok 300,.tok 301,.tok 302,.tok 303,.tok 304,.tok 305,.tok 306,.tok 307,.tok 308,.tok 310,.tok 320,.tok 321,.tok 322,.tok 323,.tok 324,.tok 325,.tok 326,.tok 327,.tok 328]) 382 [wN,.tok 341,.tok 342,AM,.tok 351,.tok 352,.tok 361,.tok 362,.tok 390,.tok 391,.tok 392]) 390 [zo] (sj (ez 391 [MW]) 392 [R4]))))))
noncomputable def mq(x:Bool)(k:Nat):List V:=db (Vn k 11) [n1,rf uK [] [] .none,db x (.tup [.str 301,.tup [.str 402925602104690,.tup [za,z3]],(rf df q2 [] z2)]) ((rf df q2 [] z2))] (db (Vn k 12) [n2,db x ((rf df q2 [] z2)) (.tup [.str 301,.tup [.str 402925602104690,.tup [za,z3]],(rf df q2 [] z2)])] (db (Vn k 1000027) [.int (.c (db x 50 49))] []))
noncomputable def toks(x:Bool)(k:Nat):List V:=du (TT.get k) (mq x k) λl=>l
noncomputable def Te(k:Nat):Bool:=Vy 50 k&&Vy k 54||Vy 31 k&&Vy k 36||Vn k 40
noncomputable def lzy(i k:Nat):Bool:=match Vn i 183 with
 |true=>Vy 60 k&&Vy k 80
 |false=>(Vn i 146||(Vn i 145||(Vn i 144||Vn i 171)))&&Te k||(Vn i 135||(Vn i 136||Vn i 167))&&(Vy 50 k&&Vy k 54||(Vn k 31||Vn k 40))
noncomputable def egr(k:Nat):Bool:=Vy 300 k&&Vy k 399
noncomputable def Uh:BT (List (Nat×List dy)):=(c7 2 0 [⟨[zx],[],[],[(yn (.list [.wr 8,.wr 18,.wr 27,.wr 37,.wr 47,.wr 56,.wr 68,.wr 77,.wr 84,.wr 96,.wr 101,.wr 113]) zy)]⟩])
noncomputable def Ui:BT (List (Nat×List dy)):=(dh (dh (dh (c7 16 0 [⟨[.wr 8],[],[],ff⟩]) 36 0 [⟨[.wr 18],[],[],Oo⟩] (c7 54 0 [⟨[.wr 27],[],[],Oo⟩])) 74 0 [⟨[.wr 37],[],[],Oo⟩] (dL (c7 94 0 [⟨[.wr 47],[],[],Oo⟩]) 112 0 [⟨[.wr 56],[],[],Oo⟩])) 136 0 [⟨[.wr 68],[],[],[(yn (.list [i4,pE]) zy)]⟩] (dh (dL (c7 154 0 [⟨[.wr 77],[],[],[(yn (.list [i4,pE]) zy)]⟩]) 168 0 [⟨[.wr 84],[],[],ff⟩]) 192 0 [⟨[.wr 96],[],[],[(yn (.list q2) zy)]⟩] (dL (c7 202 0 [⟨[.wr 101],[],[],ff⟩]) 226 0 [⟨[.wr 113],[],[],[(yn (.list q3) zy)]⟩])))
noncomputable def Uj:BT (List (Nat×List dy)):=(dh (dh (dh (c7 16 0 [⟨[.wr 8],[],[],ff⟩]) 36 0 [⟨[.wr 18],[],[],ff⟩] (c7 54 0 [⟨[.wr 27],[],[],ff⟩])) 74 0 [⟨[.wr 37],[],[],ff⟩] (dL (c7 94 0 [⟨[.wr 47],[],[],ff⟩]) 112 0 [⟨[.wr 56],[],[],[(yn (.list [.wr 56]) zy)]⟩])) 136 0 [⟨[.wr 68],[],[],[(yn (.list [.wr 56]) zy)]⟩] (dh (dL (c7 154 0 [⟨[.wr 77],[],[],[(yn (.list [.wr 56,.wr 77]) zy)]⟩]) 168 0 [⟨[.wr 84],[],[],ff⟩]) 192 0 [⟨[.wr 96],[],[],ff⟩] (dL (c7 202 0 [⟨[.wr 101],[],[],ff⟩]) 226 0 [⟨[.wr 113],[],[],ff⟩])))
noncomputable def Uk:BT (List (Nat×List dy)):=(dh (dh (dh (dh (c7 43226768660544 0 [⟨[z6,z6],[],[],wO⟩]) 43243812862032 0 [⟨[z6,zk],[],[],pF⟩] (c7 43448343279888 0 [⟨[zk,z6],[],[],pF⟩])) 43465387481376 0 [⟨[zk,zk],[],[],pF⟩] (dL (c7 206338047522291750 0 [⟨[z6,zh],[],[],wO⟩]) 206338269096911094 0 [⟨[zk,zh],[],[],pF⟩])) 2681875896565866222 0 [⟨[zh,z6],[],[],wO⟩] (dh (dL (c7 2681875913610067710 0 [⟨[zh,zk],[],[],pF⟩]) 2888170717319497428 0 [⟨[zh,zh],[],[],wO⟩]) 3337991433328040051654694 0 [⟨[z6,z9],[],[],wO⟩] (dL (c7 3337991433328261626274038 0 [⟨[zk,z9],[],[],pF⟩]) 3337994115160709848860372 0 [⟨[zh,z9],[],[],pF⟩]))) 43393888632745799447584494 0 [⟨[z9,z6],[],[],wO⟩] (dh (dh (dh (c7 43393888632745816491785982 0 [⟨[z9,zk],[],[],pF⟩]) 43393888839040620201215700 0 [⟨[z9,zh],[],[],pF⟩] (c7 46731880066030612730578644 0 [⟨[z9,z9],[],[],wO⟩])) 218758606571962704656351019046 0 [⟨[z6,zd],[],[],wO⟩] (dL (c7 218758606571962704877925638390 0 [⟨[zk,zd],[],[],pF⟩]) 218758606574644537326148224724 0 [⟨[zh,zd],[],[],wO⟩])) 218802000460595407229029942996 0 [⟨[z9,zd],[],[],wO⟩] (dh (dL (c7 2843861885435514641811339321070 0 [⟨[zd,z6],[],[],wO⟩]) 2843861885435514641828383522558 0 [⟨[zd,zk],[],[],pF⟩]) 2843861885435720936632092952276 0 [⟨[zd,zh],[],[],wO⟩] (dL (c7 2843865223426947926624622315220 0 [⟨[zd,z9],[],[],wO⟩]) 3062620492007477303240921679572 0 [⟨[zd,zd],[],[],wO⟩]))))
noncomputable def Ul:BT (List (Nat×List dy)):=(dh (dh (dL (c7 366 1 [⟨[zy,eK,dB],[1,3],[zs,zs],dR⟩,⟨[zy,yQ,dB],[1,3],[lA,zs],dR⟩,⟨[zy,yR,dB],[1,3],[lA,zs],dR⟩,⟨[zy,eK,dB],[1,3],[zu,zs],dR⟩]) 368 1 [⟨[zy,eK,dB],[1,3],[zs,gL],fH⟩,⟨[zy,yQ,dB],[1,3],[lA,gL],fH⟩,⟨[zy,yR,dB],[1,3],[lA,gL],fH⟩,⟨[zy,eK,dB],[1,3],[zu,gL],fH⟩]) 370 1 [⟨[zy,eK,dB],[1,3],[zs,gN],gY⟩,⟨[zy,yQ,dB],[1,3],[lA,gN],gY⟩,⟨[zy,yR,dB],[1,3],[lA,gN],gY⟩,⟨[zy,eK,dB],[1,3],[zu,gN],gY⟩] (dL (c7 372 1 [⟨[zy,eK,dB],[1,3],[zs,zf],dM⟩,⟨[zy,yQ,dB],[1,3],[lA,zf],dM⟩,⟨[zy,yR,dB],[1,3],[lA,zf],dM⟩,⟨[zy,eK,dB],[1,3],[zu,zf],dM⟩]) 390 1 [⟨[zy,eK,z5],[1],[zs],fG⟩,⟨[zy,yQ,z5],[1],[lA],fG⟩,⟨[zy,yR,z5],[1],[lA],fG⟩,⟨[zy,eK,z5],[1],[zu],fG⟩])) 394 1 [⟨[zy,eK,zc],[1],[zs],gY⟩] (dh (dL (c7 412 1 [⟨[zy,eK,zg],[1],[zs],dM⟩,⟨[zy,yQ,zg],[1],[lA],dM⟩,⟨[zy,yR,zg],[1],[lA],dM⟩,⟨[zy,eK,zg],[1],[zu],dM⟩]) 418 1 [⟨[zy,eK,dB],[1,3],[zs,gQ],fG⟩,⟨[zy,yQ,dB],[1,3],[lA,gQ],fG⟩,⟨[zy,yR,dB],[1,3],[lA,gQ],fG⟩,⟨[zy,eK,dB],[1,3],[zu,gQ],fG⟩]) 432 1 [⟨[zy,eK,zj],[1],[zs],dM⟩,⟨[zy,yQ,zj],[1],[lA],dM⟩,⟨[zy,yR,zj],[1],[lA],dM⟩,⟨[zy,eK,zj],[1],[zu],dM⟩] (c7 470 1 [⟨[zy,eK,zn],[1],[zs],dM⟩,⟨[zy,yQ,zn],[1],[lA],dM⟩,⟨[zy,yR,zn],[1],[lA],dM⟩,⟨[zy,eK,zn],[1],[zu],dM⟩])))
noncomputable def Um:BT (List (Nat×List dy)):=(dh (dh (dL (c7 494 1 [⟨[zy,eK,zr],[1],[zs],fH⟩,⟨[zy,yQ,zr],[1],[lA],fH⟩,⟨[zy,yR,zr],[1],[lA],fH⟩,⟨[zy,eK,zr],[1],[zu],fH⟩]) 512 1 [⟨[zy,eK,zt],[1],[zs],dR⟩,⟨[zy,yQ,zt],[1],[lA],dR⟩,⟨[zy,yR,zt],[1],[lA],dR⟩,⟨[zy,eK,zt],[1],[zu],dR⟩]) 550 1 [⟨[zy,eK,zv],[1],[zs],dR⟩,⟨[zy,yQ,zv],[1],[lA],dR⟩,⟨[zy,yR,zv],[1],[lA],dR⟩,⟨[zy,eK,zv],[1],[zu],dR⟩] (dL (c7 584 1 [⟨[zy,eK,zw],[1],[zs],dR⟩,⟨[zy,yQ,zw],[1],[lA],dR⟩,⟨[zy,yR,zw],[1],[lA],dR⟩,⟨[zy,eK,zw],[1],[zu],dR⟩]) 730 1 [⟨[zy,gZ,dB],[1,3],[gL,zs],dR⟩,⟨[zy,yS,dB],[1,3],[lB,zs],dR⟩,⟨[zy,yT,dB],[1,3],[lB,zs],dR⟩,⟨[zy,gZ,dB],[1,3],[zq,zs],dR⟩])) 732 1 [⟨[zy,gZ,dB],[1,3],[gL,gL],fH⟩,⟨[zy,yS,dB],[1,3],[lB,gL],fH⟩,⟨[zy,yT,dB],[1,3],[lB,gL],fH⟩,⟨[zy,gZ,dB],[1,3],[zq,gL],fH⟩] (dh (dL (c7 734 1 [⟨[zy,gZ,dB],[1,3],[gL,gN],gY⟩,⟨[zy,yS,dB],[1,3],[lB,gN],gY⟩,⟨[zy,yT,dB],[1,3],[lB,gN],gY⟩,⟨[zy,gZ,dB],[1,3],[zq,gN],gY⟩]) 736 1 [⟨[zy,gZ,dB],[1,3],[gL,zf],dM⟩,⟨[zy,yS,dB],[1,3],[lB,zf],dM⟩,⟨[zy,yT,dB],[1,3],[lB,zf],dM⟩,⟨[zy,gZ,dB],[1,3],[zq,zf],dM⟩]) 754 1 [⟨[zy,gZ,z5],[1],[gL],fG⟩,⟨[zy,yS,z5],[1],[lB],fG⟩,⟨[zy,yT,z5],[1],[lB],fG⟩,⟨[zy,gZ,z5],[1],[zq],fG⟩] (c7 758 1 [⟨[zy,gZ,zc],[1],[gL],gY⟩])))
noncomputable def Un:BT (List (Nat×List dy)):=(dh (dh (dL (c7 776 1 [⟨[zy,gZ,zg],[1],[gL],dM⟩,⟨[zy,yS,zg],[1],[lB],dM⟩,⟨[zy,yT,zg],[1],[lB],dM⟩,⟨[zy,gZ,zg],[1],[zq],dM⟩]) 782 1 [⟨[zy,gZ,dB],[1,3],[gL,gQ],fG⟩,⟨[zy,yS,dB],[1,3],[lB,gQ],fG⟩,⟨[zy,yT,dB],[1,3],[lB,gQ],fG⟩,⟨[zy,gZ,dB],[1,3],[zq,gQ],fG⟩]) 796 1 [⟨[zy,gZ,zj],[1],[gL],dM⟩,⟨[zy,yS,zj],[1],[lB],dM⟩,⟨[zy,yT,zj],[1],[lB],dM⟩,⟨[zy,gZ,zj],[1],[zq],dM⟩] (dL (c7 834 1 [⟨[zy,gZ,zn],[1],[gL],dM⟩,⟨[zy,yS,zn],[1],[lB],dM⟩,⟨[zy,yT,zn],[1],[lB],dM⟩,⟨[zy,gZ,zn],[1],[zq],dM⟩]) 858 1 [⟨[zy,gZ,zr],[1],[gL],fH⟩,⟨[zy,yS,zr],[1],[lB],fH⟩,⟨[zy,yT,zr],[1],[lB],fH⟩,⟨[zy,gZ,zr],[1],[zq],fH⟩])) 876 1 [⟨[zy,gZ,zt],[1],[gL],dR⟩,⟨[zy,yS,zt],[1],[lB],dR⟩,⟨[zy,yT,zt],[1],[lB],dR⟩,⟨[zy,gZ,zt],[1],[zq],dR⟩] (dh (dL (c7 914 1 [⟨[zy,gZ,zv],[1],[gL],dR⟩,⟨[zy,yS,zv],[1],[lB],dR⟩,⟨[zy,yT,zv],[1],[lB],dR⟩,⟨[zy,gZ,zv],[1],[zq],dR⟩]) 948 1 [⟨[zy,gZ,zw],[1],[gL],dR⟩,⟨[zy,yS,zw],[1],[lB],dR⟩,⟨[zy,yT,zw],[1],[lB],dR⟩,⟨[zy,gZ,zw],[1],[zq],dR⟩]) 1094 1 [⟨[zy,iq,dB],[1,3],[gN,zs],dR⟩,⟨[zy,yU,dB],[1,3],[lC,zs],dR⟩,⟨[zy,yV,dB],[1,3],[lC,zs],dR⟩,⟨[zy,iq,dB],[1,3],[yW,zs],dR⟩] (c7 1096 1 [⟨[zy,iq,dB],[1,3],[gN,gL],fH⟩,⟨[zy,yU,dB],[1,3],[lC,gL],fH⟩,⟨[zy,yV,dB],[1,3],[lC,gL],fH⟩,⟨[zy,iq,dB],[1,3],[yW,gL],fH⟩])))
noncomputable def Uo:BT (List (Nat×List dy)):=(dh (dh (dL (c7 1098 1 [⟨[zy,iq,dB],[1,3],[gN,gN],gY⟩,⟨[zy,yU,dB],[1,3],[lC,gN],gY⟩,⟨[zy,yV,dB],[1,3],[lC,gN],gY⟩,⟨[zy,iq,dB],[1,3],[yW,gN],gY⟩]) 1100 1 [⟨[zy,iq,dB],[1,3],[gN,zf],dM⟩,⟨[zy,yU,dB],[1,3],[lC,zf],dM⟩,⟨[zy,yV,dB],[1,3],[lC,zf],dM⟩,⟨[zy,iq,dB],[1,3],[yW,zf],dM⟩]) 1118 1 [⟨[zy,iq,z5],[1],[gN],fG⟩,⟨[zy,yU,z5],[1],[lC],fG⟩,⟨[zy,yV,z5],[1],[lC],fG⟩,⟨[zy,iq,z5],[1],[yW],fG⟩] (dL (c7 1122 1 [⟨[zy,iq,zc],[1],[gN],gY⟩]) 1140 1 [⟨[zy,iq,zg],[1],[gN],dM⟩,⟨[zy,yU,zg],[1],[lC],dM⟩,⟨[zy,yV,zg],[1],[lC],dM⟩,⟨[zy,iq,zg],[1],[yW],dM⟩])) 1146 1 [⟨[zy,iq,dB],[1,3],[gN,gQ],fG⟩,⟨[zy,yU,dB],[1,3],[lC,gQ],fG⟩,⟨[zy,yV,dB],[1,3],[lC,gQ],fG⟩,⟨[zy,iq,dB],[1,3],[yW,gQ],fG⟩] (dh (dL (c7 1160 1 [⟨[zy,iq,zj],[1],[gN],dM⟩,⟨[zy,yU,zj],[1],[lC],dM⟩,⟨[zy,yV,zj],[1],[lC],dM⟩,⟨[zy,iq,zj],[1],[yW],dM⟩]) 1198 1 [⟨[zy,iq,zn],[1],[gN],dM⟩,⟨[zy,yU,zn],[1],[lC],dM⟩,⟨[zy,yV,zn],[1],[lC],dM⟩,⟨[zy,iq,zn],[1],[yW],dM⟩]) 1222 1 [⟨[zy,iq,zr],[1],[gN],fH⟩,⟨[zy,yU,zr],[1],[lC],fH⟩,⟨[zy,yV,zr],[1],[lC],fH⟩,⟨[zy,iq,zr],[1],[yW],fH⟩] (c7 1240 1 [⟨[zy,iq,zt],[1],[gN],dR⟩,⟨[zy,yU,zt],[1],[lC],dR⟩,⟨[zy,yV,zt],[1],[lC],dR⟩,⟨[zy,iq,zt],[1],[yW],dR⟩])))
noncomputable def Up:BT (List (Nat×List dy)):=(dh (dh (dh (dh (dL (c7 1278 1 [⟨[zy,iq,zv],[1],[gN],dR⟩,⟨[zy,yU,zv],[1],[lC],dR⟩,⟨[zy,yV,zv],[1],[lC],dR⟩,⟨[zy,iq,zv],[1],[yW],dR⟩]) 1312 1 [⟨[zy,iq,zw],[1],[gN],dR⟩,⟨[zy,yU,zw],[1],[lC],dR⟩,⟨[zy,yV,zw],[1],[lC],dR⟩,⟨[zy,iq,zw],[1],[yW],dR⟩]) 1458 1 [⟨[zy,fk,dB],[1,3],[zf,zs],dR⟩] (c7 1460 1 [⟨[zy,fk,dB],[1,3],[zf,gL],fH⟩])) 1462 1 [⟨[zy,fk,dB],[1,3],[zf,gN],gY⟩] (dh (c7 1464 1 [⟨[zy,fk,dB],[1,3],[zf,zf],dM⟩]) 1482 1 [⟨[zy,fk,z5],[1],[zf],fG⟩] (c7 1486 1 [⟨[zy,fk,zc],[1],[zf],gY⟩]))) 1504 1 [⟨[zy,fk,zg],[1],[zf],dM⟩] (dh (dh (dL (c7 1510 1 [⟨[zy,fk,dB],[1,3],[zf,gQ],fG⟩]) 1524 1 [⟨[zy,fk,zj],[1],[zf],dM⟩]) 1562 1 [⟨[zy,fk,zn],[1],[zf],dM⟩] (c7 1586 1 [⟨[zy,fk,zr],[1],[zf],fH⟩])) 1604 1 [⟨[zy,fk,zt],[1],[zf],dR⟩] (dh (c7 1642 1 [⟨[zy,fk,zv],[1],[zf],dR⟩]) 1676 1 [⟨[zy,fk,zw],[1],[zf],dR⟩] (c7 1822 1 [⟨[zy,wQ,dB],[1,3],[wS,zs],dR⟩])))) 1824 1 [⟨[zy,wQ,dB],[1,3],[wS,gL],fH⟩] (dh (dh (dh (dL (c7 1826 1 [⟨[zy,wQ,dB],[1,3],[wS,gN],gY⟩]) 1828 1 [⟨[zy,wQ,dB],[1,3],[wS,zf],dM⟩]) 1846 1 [⟨[zy,wQ,z5],[1],[wS],fG⟩] (c7 1850 1 [⟨[zy,wQ,zc],[1],[wS],gY⟩])) 1868 1 [⟨[zy,wQ,zg],[1],[wS],dM⟩] (dh (c7 1874 1 [⟨[zy,wQ,dB],[1,3],[wS,gQ],fG⟩]) 1888 1 [⟨[zy,wQ,zj],[1],[wS],dM⟩] (c7 1926 1 [⟨[zy,wQ,zn],[1],[wS],dM⟩]))) 1950 1 [⟨[zy,wQ,zr],[1],[wS],fH⟩] (dh (dh (c7 1968 1 [⟨[zy,wQ,zt],[1],[wS],dR⟩]) 2006 1 [⟨[zy,wQ,zv],[1],[wS],dR⟩] (c7 2040 1 [⟨[zy,wQ,zw],[1],[wS],dR⟩])) 2186 1 [⟨[zy,wT,dB],[1,3],[wU,zs],dR⟩] (dh (c7 2188 1 [⟨[zy,wT,dB],[1,3],[wU,gL],fH⟩]) 2190 1 [⟨[zy,wT,dB],[1,3],[wU,gN],gY⟩] (c7 2192 1 [⟨[zy,wT,dB],[1,3],[wU,zf],dM⟩])))))
noncomputable def Uq:BT (List (Nat×List dy)):=(dh (dh (dh (dh (dL (c7 2210 1 [⟨[zy,wT,z5],[1],[wU],fG⟩]) 2214 1 [⟨[zy,wT,zc],[1],[wU],gY⟩]) 2232 1 [⟨[zy,wT,zg],[1],[wU],dM⟩] (c7 2238 1 [⟨[zy,wT,dB],[1,3],[wU,gQ],fG⟩])) 2252 1 [⟨[zy,wT,zj],[1],[wU],dM⟩] (dh (dL (c7 2290 1 [⟨[zy,wT,zn],[1],[wU],dM⟩]) 2314 1 [⟨[zy,wT,zr],[1],[wU],fH⟩]) 2332 1 [⟨[zy,wT,zt],[1],[wU],dR⟩] (c7 2370 1 [⟨[zy,wT,zv],[1],[wU],dR⟩]))) 2404 1 [⟨[zy,wT,zw],[1],[wU],dR⟩] (dh (dh (dL (c7 2550 1 [⟨[zy,wV,dB],[1,3],[wW,zs],dR⟩]) 2552 1 [⟨[zy,wV,dB],[1,3],[wW,gL],fH⟩]) 2554 1 [⟨[zy,wV,dB],[1,3],[wW,gN],gY⟩] (c7 2556 1 [⟨[zy,wV,dB],[1,3],[wW,zf],dM⟩])) 2574 1 [⟨[zy,wV,z5],[1],[wW],fG⟩] (dh (dL (c7 2578 1 [⟨[zy,wV,zc],[1],[wW],gY⟩]) 2596 1 [⟨[zy,wV,zg],[1],[wW],dM⟩]) 2602 1 [⟨[zy,wV,dB],[1,3],[wW,gQ],fG⟩] (c7 2616 1 [⟨[zy,wV,zj],[1],[wW],dM⟩])))) 2654 1 [⟨[zy,wV,zn],[1],[wW],dM⟩] (dh (dh (dh (dL (c7 2678 1 [⟨[zy,wV,zr],[1],[wW],fH⟩]) 2696 1 [⟨[zy,wV,zt],[1],[wW],dR⟩]) 2734 1 [⟨[zy,wV,zv],[1],[wW],dR⟩] (c7 2768 1 [⟨[zy,wV,zw],[1],[wW],dR⟩])) 5098 1 [⟨[z5,kl,zy],[3],[zs],dR⟩] (dh (dL (c7 5100 1 [⟨[z5,kl,zy],[3],[gL],fH⟩]) 5102 1 [⟨[z5,kl,zy],[3],[gN],gY⟩]) 5104 1 [⟨[z5,kl,zy],[3],[zf],dM⟩] (c7 5122 1 [⟨[z5,kl,z5],[],[],fG⟩]))) 5126 1 [⟨[z5,kl,zc],[],[],gY⟩] (dh (dh (dL (c7 5144 1 [⟨[z5,kl,zg],[],[],dM⟩]) 5150 1 [⟨[z5,kl,zy],[3],[gQ],fG⟩,⟨[zc,iq,zy],[3],[zs],dR⟩]) 5152 1 [⟨[zc,iq,zy],[3],[gL],fH⟩] (c7 5154 1 [⟨[zc,iq,zy],[3],[gN],gY⟩])) 5156 1 [⟨[zc,iq,zy],[3],[zf],dM⟩] (dh (dL (c7 5164 1 [⟨[z5,kl,zj],[],[],dM⟩]) 5174 1 [⟨[zc,iq,z5],[],[],fG⟩]) 5178 1 [⟨[zc,iq,zc],[],[],gY⟩] (c7 5196 1 [⟨[zc,iq,zg],[],[],dM⟩])))))
noncomputable def Op:BT (List (Nat×List dy)):=(dh (dh (dh (dh (dL (c7 5202 1 [⟨[z5,kl,zn],[],[],dM⟩,⟨[zc,iq,zy],[3],[gQ],fG⟩]) 5226 1 [⟨[z5,kl,zr],[],[],fH⟩]) 5244 1 [⟨[z5,kl,zt],[],[],dR⟩] (c7 5254 1 [⟨[zc,iq,zn],[],[],dM⟩])) 5282 1 [⟨[z5,kl,zv],[],[],dR⟩] (dh (dL (c7 5296 1 [⟨[zc,iq,zt],[],[],dR⟩]) 5316 1 [⟨[z5,kl,zw],[],[],dR⟩]) 8218 1 [⟨[zg,fk,zy],[3],[zs],dR⟩] (c7 8220 1 [⟨[zg,fk,zy],[3],[gL],fH⟩]))) 8222 1 [⟨[zg,fk,zy],[3],[gN],gY⟩] (dh (dh (dL (c7 8224 1 [⟨[zg,fk,zy],[3],[zf],dM⟩]) 8242 1 [⟨[zg,fk,z5],[],[],fG⟩]) 8246 1 [⟨[zg,fk,zc],[],[],gY⟩] (c7 8264 1 [⟨[zg,fk,zg],[],[],dM⟩])) 8270 1 [⟨[zg,fk,zy],[3],[gQ],fG⟩] (dh (dL (c7 8284 1 [⟨[zg,fk,zj],[],[],dM⟩]) 8322 1 [⟨[zg,fk,zn],[],[],dM⟩]) 8346 1 [⟨[zg,fk,zr],[],[],fH⟩] (c7 8364 1 [⟨[zg,fk,zt],[],[],dR⟩])))) 8402 1 [⟨[zg,fk,zv],[],[],dR⟩] (dh (dh (dh (dL (c7 8436 1 [⟨[zg,fk,zw],[],[],dR⟩]) 9830 1 [⟨[zy,kl,dB],[1,3],[gQ,zs],dR⟩]) 9832 1 [⟨[zy,kl,dB],[1,3],[gQ,gL],fH⟩] (c7 9834 1 [⟨[zy,kl,dB],[1,3],[gQ,gN],gY⟩])) 9836 1 [⟨[zy,kl,dB],[1,3],[gQ,zf],dM⟩] (dh (dL (c7 9854 1 [⟨[zy,kl,z5],[1],[gQ],fG⟩]) 9858 1 [⟨[zy,kl,zc],[1],[gQ],gY⟩]) 9876 1 [⟨[zy,kl,zg],[1],[gQ],dM⟩] (c7 9882 1 [⟨[zy,kl,dB],[1,3],[gQ,gQ],fG⟩]))) 9896 1 [⟨[zy,kl,zj],[1],[gQ],dM⟩] (dh (dh (dL (c7 9934 1 [⟨[zy,kl,zn],[1],[gQ],dM⟩]) 9958 1 [⟨[zy,kl,zr],[1],[gQ],fH⟩]) 9976 1 [⟨[zy,kl,zt],[1],[gQ],dR⟩] (c7 10014 1 [⟨[zy,kl,zv],[1],[gQ],dR⟩])) 10048 1 [⟨[zy,kl,zw],[1],[gQ],dR⟩] (dh (dL (c7 11598 1 [⟨[zj,fk,zy],[3],[zs],dR⟩]) 11600 1 [⟨[zj,fk,zy],[3],[gL],fH⟩]) 11602 1 [⟨[zj,fk,zy],[3],[gN],gY⟩] (c7 11604 1 [⟨[zj,fk,zy],[3],[zf],dM⟩])))))
noncomputable def Oq:BT (List (Nat×List dy)):=(dh (dh (dh (dh (dL (c7 11622 1 [⟨[zj,fk,z5],[],[],fG⟩]) 11644 1 [⟨[zj,fk,zg],[],[],dM⟩]) 11650 1 [⟨[zj,fk,zy],[3],[gQ],fG⟩] (dL (c7 11664 1 [⟨[zj,fk,zj],[],[],dM⟩]) 11702 1 [⟨[zj,fk,zn],[],[],dM⟩])) 11726 1 [⟨[zj,fk,zr],[],[],fH⟩] (dh (dL (c7 11744 1 [⟨[zj,fk,zt],[],[],dR⟩]) 11782 1 [⟨[zj,fk,zv],[],[],dR⟩]) 11816 1 [⟨[zj,fk,zw],[],[],dR⟩] (c7 18020 1 [⟨[zn,fk,zy],[3],[zs],dR⟩]))) 18022 1 [⟨[zn,fk,zy],[3],[gL],fH⟩] (dh (dh (dL (c7 18024 1 [⟨[zn,fk,zy],[3],[gN],gY⟩]) 18026 1 [⟨[zn,fk,zy],[3],[zf],dM⟩]) 18044 1 [⟨[zn,fk,z5],[],[],fG⟩] (c7 18048 1 [⟨[zn,fk,zc],[],[],gY⟩])) 18066 1 [⟨[zn,fk,zg],[],[],dM⟩] (dh (dL (c7 18072 1 [⟨[zn,fk,zy],[3],[gQ],fG⟩]) 18086 1 [⟨[zn,fk,zj],[],[],dM⟩]) 18124 1 [⟨[zn,fk,zn],[],[],dM⟩] (c7 18148 1 [⟨[zn,fk,zr],[],[],fH⟩])))) 18166 1 [⟨[zn,fk,zt],[],[],dR⟩] (dh (dh (dh (dL (c7 18204 1 [⟨[zn,fk,zv],[],[],dR⟩]) 18238 1 [⟨[zn,fk,zw],[],[],dR⟩]) 22024 1 [⟨[zr,gZ,zy],[3],[zs],dR⟩] (c7 22026 1 [⟨[zr,gZ,zy],[3],[gL],fH⟩])) 22028 1 [⟨[zr,gZ,zy],[3],[gN],gY⟩] (dh (dL (c7 22030 1 [⟨[zr,gZ,zy],[3],[zf],dM⟩]) 22048 1 [⟨[zr,gZ,z5],[],[],fG⟩]) 22070 1 [⟨[zr,gZ,zg],[],[],dM⟩] (c7 22076 1 [⟨[zr,gZ,zy],[3],[gQ],fG⟩]))) 22090 1 [⟨[zr,gZ,zj],[],[],dM⟩] (dh (dh (dL (c7 22128 1 [⟨[zr,gZ,zn],[],[],dM⟩]) 22152 1 [⟨[zr,gZ,zr],[],[],fH⟩]) 22170 1 [⟨[zr,gZ,zt],[],[],dR⟩] (c7 22208 1 [⟨[zr,gZ,zv],[],[],dR⟩])) 22242 1 [⟨[zr,gZ,zw],[],[],dR⟩] (dh (dL (c7 25040 1 [⟨[zt,eK,zy],[3],[zs],dR⟩]) 25042 1 [⟨[zt,eK,zy],[3],[gL],fH⟩]) 25044 1 [⟨[zt,eK,zy],[3],[gN],gY⟩] (c7 25046 1 [⟨[zt,eK,zy],[3],[zf],dM⟩])))))
noncomputable def Os:BT (List (Nat×List dy)):=(dh (dh (dh (dh (dL (c7 25064 1 [⟨[zt,eK,z5],[],[],fG⟩]) 25068 1 [⟨[zt,eK,zc],[],[],gY⟩]) 25086 1 [⟨[zt,eK,zg],[],[],dM⟩] (c7 25092 1 [⟨[zt,eK,zy],[3],[gQ],fG⟩])) 25106 1 [⟨[zt,eK,zj],[],[],dM⟩] (dh (dL (c7 25144 1 [⟨[zt,eK,zn],[],[],dM⟩]) 25168 1 [⟨[zt,eK,zr],[],[],fH⟩]) 25186 1 [⟨[zt,eK,zt],[],[],dR⟩] (c7 25224 1 [⟨[zt,eK,zv],[],[],dR⟩]))) 25258 1 [⟨[zt,eK,zw],[],[],dR⟩] (dh (dh (dL (c7 31462 1 [⟨[zv,eK,zy],[3],[zs],dR⟩]) 31464 1 [⟨[zv,eK,zy],[3],[gL],fH⟩]) 31466 1 [⟨[zv,eK,zy],[3],[gN],gY⟩] (c7 31468 1 [⟨[zv,eK,zy],[3],[zf],dM⟩])) 31486 1 [⟨[zv,eK,z5],[],[],fG⟩] (dh (c7 31508 1 [⟨[zv,eK,zg],[],[],dM⟩]) 31514 1 [⟨[zv,eK,zy],[3],[gQ],fG⟩] (c7 31528 1 [⟨[zv,eK,zj],[],[],dM⟩])))) 31566 1 [⟨[zv,eK,zn],[],[],dM⟩] (dh (dh (dh (dL (c7 31590 1 [⟨[zv,eK,zr],[],[],fH⟩]) 31608 1 [⟨[zv,eK,zt],[],[],dR⟩]) 31646 1 [⟨[zv,eK,zv],[],[],dR⟩] (c7 31680 1 [⟨[zv,eK,zw],[],[],dR⟩])) 37208 1 [⟨[zw,eK,zy],[3],[zs],dR⟩] (dh (c7 37210 1 [⟨[zw,eK,zy],[3],[gL],fH⟩]) 37212 1 [⟨[zw,eK,zy],[3],[gN],gY⟩] (c7 37214 1 [⟨[zw,eK,zy],[3],[zf],dM⟩]))) 37232 1 [⟨[zw,eK,z5],[],[],fG⟩] (dh (dh (dL (c7 37254 1 [⟨[zw,eK,zg],[],[],dM⟩]) 37260 1 [⟨[zw,eK,zy],[3],[gQ],fG⟩]) 37274 1 [⟨[zw,eK,zj],[],[],dM⟩] (c7 37312 1 [⟨[zw,eK,zn],[],[],dM⟩])) 37336 1 [⟨[zw,eK,zr],[],[],fH⟩] (dh (c7 37354 1 [⟨[zw,eK,zt],[],[],dR⟩]) 37392 1 [⟨[zw,eK,zv],[],[],dR⟩] (c7 37426 1 [⟨[zw,eK,zw],[],[],dR⟩])))))
noncomputable def Ot:BT (List (Nat×List dy)):=(dh (dh (dh (c7 2 0 [⟨[jL,zy],[2],[zs],dR⟩,⟨[jN,zy],[2],[zs],dR⟩,⟨[jO,zy],[2],[zs],dR⟩]) 4 0 [⟨[jL,zy],[2],[gL],fH⟩,⟨[jN,zy],[2],[gL],fH⟩,⟨[jO,zy],[2],[gL],fH⟩] (c7 6 0 [⟨[jL,zy],[2],[gN],gY⟩,⟨[jN,zy],[2],[gN],gY⟩,⟨[jO,zy],[2],[gN],gY⟩])) 8 0 [⟨[jL,zy],[2],[zf],dM⟩,⟨[jN,zy],[2],[zf],dM⟩,⟨[jO,zy],[2],[zf],dM⟩] (dh (c7 26 0 [⟨[jL,z5],[],[],fG⟩,⟨[jN,z5],[],[],fG⟩,⟨[jO,z5],[],[],fG⟩]) 30 0 [⟨[jL,zc],[],[],[x5]⟩,⟨[jN,zc],[],[],gY⟩,⟨[jO,zc],[],[],gY⟩] (c7 48 0 [⟨[jL,zg],[],[],dM⟩,⟨[jN,zg],[],[],dM⟩,⟨[jO,zg],[],[],dM⟩]))) 54 0 [⟨[jL,zy],[2],[gQ],fG⟩,⟨[jN,zy],[2],[gQ],fG⟩,⟨[jO,zy],[2],[gQ],fG⟩] (dh (dh (c7 68 0 [⟨[jL,zj],[],[],dM⟩,⟨[jN,zj],[],[],[x5]⟩,⟨[jO,zj],[],[],dM⟩]) 88 0 [⟨[jL,.wr 44],[],[],[x5]⟩,⟨[jN,.wr 44],[],[],[x5]⟩,⟨[jO,.wr 44],[],[],[x5]⟩] (c7 106 0 [⟨[jL,zn],[],[],dM⟩,⟨[jN,zn],[],[],dM⟩,⟨[jO,zn],[],[],dM⟩])) 130 0 [⟨[jL,zr],[],[],fH⟩,⟨[jN,zr],[],[],[x5]⟩,⟨[jO,zr],[],[],fH⟩] (dh (c7 148 0 [⟨[jL,zt],[],[],dR⟩,⟨[jN,zt],[],[],dR⟩,⟨[jO,zt],[],[],dR⟩]) 186 0 [⟨[jL,zv],[],[],dR⟩,⟨[jN,zv],[],[],[x5]⟩,⟨[jO,zv],[],[],dR⟩] (c7 220 0 [⟨[jL,zw],[],[],dR⟩,⟨[jN,zw],[],[],[x5]⟩,⟨[jO,zw],[],[],dR⟩]))))
noncomputable def Ou:BT (List (Nat×List dy)):=(dh (dh (dh (c7 42 0 [⟨[zx,.wr 8],[],[],A2⟩]) 62 0 [⟨[zx,.wr 18],[],[],A2⟩] (c7 80 0 [⟨[zx,.wr 27],[],[],A2⟩])) 100 0 [⟨[zx,.wr 37],[],[],A2⟩] (dL (c7 120 0 [⟨[zx,.wr 47],[],[],A2⟩]) 138 0 [⟨[zx,.wr 56],[],[],A2⟩])) 162 0 [⟨[zx,.wr 68],[],[],A2⟩] (dh (dL (c7 180 0 [⟨[zx,.wr 77],[],[],A2⟩]) 194 0 [⟨[zx,.wr 84],[],[],A2⟩]) 218 0 [⟨[zx,.wr 96],[],[],A2⟩] (dL (c7 228 0 [⟨[zx,.wr 101],[],[],A2⟩]) 252 0 [⟨[zx,.wr 113],[],[],A2⟩])))
noncomputable def Ov:BT (List (Nat×List dy)):=(c7 338 1 [⟨[zx,pE,zo],[],[],[(yv (.wr 8))]⟩,⟨[zx,pE,qL],[],[],[x4]⟩,⟨[zx,pE,qf],[],[],[x4]⟩,⟨[zx,pE,A1],[],[],[x4]⟩,⟨[zx,f8,zo],[],[],[(yv (.wr 18))]⟩,⟨[zx,f8,qL],[],[],[(yv (.wr 18))]⟩,⟨[zx,f8,qf],[],[],[x4]⟩,⟨[zx,f8,A1],[],[],[x4]⟩,⟨[zx,fS,zo],[],[],[(yv (.wr 27))]⟩,⟨[zx,fS,qL],[],[],[(yv (.wr 27))]⟩,⟨[zx,fS,qf],[],[],[x4]⟩,⟨[zx,fS,A1],[],[],[x4]⟩,⟨[zx,gp,zo],[],[],[(yv (.wr 37))]⟩,⟨[zx,gp,qL],[],[],[(yv (.wr 37))]⟩,⟨[zx,gp,qf],[],[],[x4]⟩,⟨[zx,gp,A1],[],[],[x4]⟩,⟨[zx,gK,zo],[],[],[(yv (.wr 47))]⟩,⟨[zx,gK,qL],[],[],[(yv (.wr 47))]⟩,⟨[zx,gK,qf],[],[],[x4]⟩,⟨[zx,gK,A1],[],[],[x4]⟩,⟨[zx,i4,zo],[],[],[(yv (.wr 56))]⟩,⟨[zx,i4,qL],[],[],[(yv (.wr 56))]⟩,⟨[zx,i4,qf],[],[],[x4]⟩,⟨[zx,i4,A1],[],[],[x4]⟩,⟨[zx,ja,zo],[],[],[(yv (.wr 68))]⟩,⟨[zx,ja,qL],[],[],[(yv (.wr 68))]⟩,⟨[zx,ja,qf],[],[],[x4]⟩,⟨[zx,ja,A1],[],[],[x4]⟩,⟨[zx,fX,zo],[],[],[(yv (.wr 77))]⟩,⟨[zx,fX,qL],[],[],[(yv (.wr 77))]⟩,⟨[zx,fX,qf],[],[],[x4]⟩,⟨[zx,fX,A1],[],[],[x4]⟩,⟨[zx,df,zo],[],[],[x4]⟩,⟨[zx,df,qL],[],[],[x4]⟩,⟨[zx,df,qf],[],[],[(yv (.wr 96))]⟩,⟨[zx,df,A1],[],[],[(yv (.wr 113))]⟩,⟨[zx,uK,zo],[],[],[x4]⟩,⟨[zx,uK,qL],[],[],[x4]⟩,⟨[zx,uK,qf],[],[],[x4]⟩,⟨[zx,uK,A1],[],[],[x4]⟩,⟨[zx,pu,zo],[],[],[x4]⟩,⟨[zx,pu,qL],[],[],[x4]⟩,⟨[zx,pu,qf],[],[],[x4]⟩,⟨[zx,pu,A1],[],[],[x4]⟩])
noncomputable def Ow:BT (List (Nat×List dy)):=(c7 26 5 [⟨[zx,jY],[],[],pF⟩,⟨[zx,jZ],[],[],pF⟩,⟨[zx,j2],[],[],pF⟩,⟨[zx,j3],[],[],pF⟩,⟨[zx,j4],[],[],pF⟩,⟨[zx,sk],[],[],pF⟩,⟨[zx,so],[],[],pF⟩,⟨[zx,jL],[],[],pF⟩,⟨[zx,jN],[],[],pF⟩,⟨[zx,jO],[],[],pF⟩,⟨[zx,jb],[],[],wO⟩,⟨[zx,jc],[],[],pF⟩])
noncomputable def Ox:BT (List (Nat×List dy)):=(c7 26 4 [⟨[zx,.tup [fm,.tok 380,.tok 381,.tok 361,z2]],[],[],iV⟩,⟨[zx,.tup [fm,.tok 380,.tok 381,.tok 361,m7]],[],[],[(yn (.lsU 1 2) zy)]⟩,⟨[zx,.tup [fm,.tok 380,.tok 381,.tok 362,z2]],[],[],[(yn (.lsU 1 2) zy)]⟩,⟨[zx,.tup [fm,.tok 380,.tok 381,.tok 362,m7]],[],[],[(yn (.lsU 1 3) zy)]⟩,⟨[zx,.tup [fm,.tok 380,.tok 381,.tok 382,c0]],[],[],[(yn (.lsU 1 4) zy)]⟩,⟨[zx,.tup [fm,.tok 380,.tok 381,.tok 382,z2]],[],[],[(yn (.lsU 0 3) zy)]⟩,⟨[zx,.tup [fm,.tok 380,.tok 381,.tok 382,m7]],[],[],[(yn (.lsU 0 4) zy)]⟩])
noncomputable def Oy:List dy:=[⟨[zx,jY],[],[],ff⟩]
noncomputable def Oz:List dy:=[⟨[zx,jZ],[],[],ff⟩]
noncomputable def OA:List dy:=[⟨[zx,j2],[],[],ff⟩]
noncomputable def OB:List dy:=[⟨[zx,j3],[],[],ff⟩]
noncomputable def OC:List dy:=[⟨[zx,j4],[],[],ff⟩]
noncomputable def OD:List dy:=[⟨[zx,jb],[],[],iV⟩]
noncomputable def OE:List dy:=[⟨[zx,jc],[],[],sE⟩]
noncomputable def OF:List dy:=[⟨[zx,jY],[],[],ff⟩,⟨[zx,jZ],[],[],ff⟩]
noncomputable def OG:List dy:=[⟨[zx,j2],[],[],ff⟩,⟨[zx,j3],[],[],ff⟩]
noncomputable def OH:List dy:=[⟨[zx,j4],[],[],ff⟩,⟨[zx,sk],[],[],ff⟩]
noncomputable def OI:List dy:=[⟨[zx,so],[],[],ff⟩,⟨[zx,jL],[],[],ff⟩]
noncomputable def OJ:List dy:=[⟨[zx,jN],[],[],ff⟩,⟨[zx,jO],[],[],ff⟩]
noncomputable def OK:List dy:=[⟨[zx,jb],[],[],ff⟩,⟨[zx,jc],[],[],sE⟩]
noncomputable def OL:BT (List (Nat×List dy)):=(c7 26 5 [⟨[zx,jY],[],[],[(yv zn),(yv z5)]⟩,⟨[zx,jZ],[],[],[(yv zc)]⟩,⟨[zx,j2],[],[],[(yn (f9 zd (.int (.u (some 1) (some 27))) z7 z3 z8) zy),(yv zt),(yv zg)]⟩,⟨[zx,j3],[],[],[(yv zv),(yv zw),(yv zr),(yv zj)]⟩,⟨[zx,j4],[],[],[(yv (.wr 44))]⟩,⟨[zx,sk],[],[],[(yn (f9 zh R5 z7 R5 (.bool true)) zy),(yn (f9 zh R5 z7 R5 z8) zy)]⟩,⟨[zx,so],[],[],[(yn (f9 zd (.int (.u (some 1) (some 7))) z7 z3 z8) zy)]⟩,⟨[zx,jL],[],[],[(yv z2)]⟩,⟨[zx,jN],[],[],[(yv z2)]⟩,⟨[zx,jO],[],[],[(yv z2)]⟩])
noncomputable def OM:List dy:=[⟨[zx,.tok 1],[],[],ff⟩,⟨[zx,.tok 2],[],[],ff⟩,⟨[zx,.tok 3],[],[],iV⟩]
noncomputable def ON:List dy:=[⟨[zx,n1],[],[],ff⟩,⟨[zx,R3],[],[],iV⟩]
noncomputable def OO:List dy:=[⟨[zx,.tok 4],[],[],ff⟩,⟨[zx,.tok 5],[],[],[(yn (.lsU 0 1) zy)]⟩]
noncomputable def OP:List dy:=[⟨[zx,jY,jY],[],[],ff⟩,⟨[zx,jY,jZ],[],[],ff⟩,⟨[zx,jY,j2],[],[],ff⟩,⟨[zx,jY,j3],[],[],ff⟩,⟨[zx,jY,j4],[],[],iV⟩,⟨[zx,jY,jb],[],[],iV⟩,⟨[zx,jY,jc],[],[],sE⟩,⟨[zx,jZ,jY],[],[],ff⟩,⟨[zx,jZ,jZ],[],[],ff⟩,⟨[zx,jZ,j2],[],[],ff⟩,⟨[zx,jZ,j3],[],[],iV⟩,⟨[zx,jZ,j4],[],[],iV⟩,⟨[zx,jZ,jb],[],[],iV⟩,⟨[zx,jZ,jc],[],[],sE⟩,⟨[zx,j2,jY],[],[],ff⟩]
noncomputable def OQ:List dy:=[⟨[zx,j2,jZ],[],[],ff⟩,⟨[zx,j2,j2],[],[],ff⟩,⟨[zx,j2,j3],[],[],ff⟩,⟨[zx,j2,j4],[],[],iV⟩,⟨[zx,j2,jb],[],[],iV⟩,⟨[zx,j2,jc],[],[],sE⟩,⟨[zx,j3,jY],[],[],ff⟩,⟨[zx,j3,jZ],[],[],iV⟩,⟨[zx,j3,j2],[],[],ff⟩,⟨[zx,j3,j3],[],[],ff⟩,⟨[zx,j3,j4],[],[],iV⟩,⟨[zx,j3,jb],[],[],iV⟩,⟨[zx,j3,jc],[],[],sE⟩,⟨[zx,j4,jY],[],[],iV⟩,⟨[zx,j4,jZ],[],[],iV⟩]
noncomputable def OS:List dy:=[⟨[zx,j4,j2],[],[],iV⟩,⟨[zx,j4,j3],[],[],iV⟩,⟨[zx,j4,j4],[],[],iV⟩,⟨[zx,j4,jb],[],[],iV⟩,⟨[zx,j4,jc],[],[],sE⟩,⟨[zx,sk,jY],[],[],ff⟩,⟨[zx,sk,jZ],[],[],iV⟩,⟨[zx,sk,j2],[],[],ff⟩,⟨[zx,sk,j3],[],[],ff⟩,⟨[zx,sk,j4],[],[],iV⟩,⟨[zx,sk,jb],[],[],iV⟩,⟨[zx,sk,jc],[],[],sE⟩,⟨[zx,so,jY],[],[],ff⟩,⟨[zx,so,jZ],[],[],ff⟩,⟨[zx,so,j2],[],[],ff⟩]
noncomputable def OT:List dy:=[⟨[zx,so,j3],[],[],ff⟩,⟨[zx,so,j4],[],[],iV⟩,⟨[zx,so,jb],[],[],iV⟩,⟨[zx,so,jc],[],[],sE⟩,⟨[zx,jL,jY],[],[],ff⟩,⟨[zx,jL,jZ],[],[],iV⟩,⟨[zx,jL,j2],[],[],ff⟩,⟨[zx,jL,j3],[],[],ff⟩,⟨[zx,jL,j4],[],[],iV⟩,⟨[zx,jL,jb],[],[],iV⟩,⟨[zx,jL,jc],[],[],sE⟩,⟨[zx,jN,jY],[],[],ff⟩,⟨[zx,jN,jZ],[],[],ff⟩,⟨[zx,jN,j2],[],[],ff⟩,⟨[zx,jN,j3],[],[],iV⟩]
noncomputable def OU:List dy:=[⟨[zx,jN,j4],[],[],iV⟩,⟨[zx,jN,jb],[],[],iV⟩,⟨[zx,jN,jc],[],[],sE⟩,⟨[zx,jO,jY],[],[],ff⟩,⟨[zx,jO,jZ],[],[],ff⟩,⟨[zx,jO,j2],[],[],ff⟩,⟨[zx,jO,j3],[],[],ff⟩,⟨[zx,jO,j4],[],[],iV⟩,⟨[zx,jO,jb],[],[],iV⟩,⟨[zx,jO,jc],[],[],sE⟩,⟨[zx,jb,jY],[],[],iV⟩,⟨[zx,jb,jZ],[],[],iV⟩,⟨[zx,jb,j2],[],[],iV⟩,⟨[zx,jb,j3],[],[],iV⟩,⟨[zx,jb,j4],[],[],iV⟩]
noncomputable def OV:List dy:=[⟨[zx,jb,jb],[],[],iV⟩,⟨[zx,jb,jc],[],[],sE⟩,⟨[zx,jc,jY],[],[],sE⟩,⟨[zx,jc,jZ],[],[],sE⟩,⟨[zx,jc,j2],[],[],sE⟩,⟨[zx,jc,j3],[],[],sE⟩,⟨[zx,jc,j4],[],[],sE⟩,⟨[zx,jc,jb],[],[],[(yn (.lsU 2 6) zy)]⟩,⟨[zx,jc,jc],[],[],[(yn (.lsU 2 10) zy)]⟩]
noncomputable def OW:BT (List (Nat×List dy)):=(dh (dh (dh (dh (dL (c7 26062 4 [⟨[cZ,jb],[0],dm,[x4]⟩]) 26080 4 [⟨[cZ,jc],[0],dm,gP⟩]) 26200 4 [⟨[cZ,.tok 100],[0],dm,[(yv (.tup [zy,z3,z5]))]⟩] (dL (c7 26202 4 [⟨[cZ,.tok 101],[0],dm,[(yn gQ (.tup [zy,z3,dB]))]⟩]) 26204 4 [⟨[cZ,.tok 102],[0],dm,[(yn zs (.tup [zy,z3,dB]))]⟩])) 26206 4 [⟨[cZ,.tok 103],[0],dm,[(yv (.tup [zy,z3,zc]))]⟩] (dh (dL (c7 26208 4 [⟨[cZ,.tok 104],[0],dm,[(yn gN (.tup [zy,z3,dB]))]⟩]) 26210 4 [⟨[cZ,.tok 105],[0],dm,[(yn zs (.tup [zy,z3,dB]))]⟩]) 26212 4 [⟨[cZ,.tok 106],[0],dm,[(yv (.tup [zy,za,zg]))]⟩] (dL (c7 26214 4 [⟨[cZ,.tok 107],[0],dm,[(yn zf (.tup [zy,za,dB]))]⟩]) 26216 4 [⟨[cZ,.tok 108],[0],dm,[(yn zs (.tup [zy,za,dB]))]⟩]))) 26218 4 [⟨[cZ,.tok 109],[0],dm,[(yv (.tup [zy,zi,zj]))]⟩] (dh (dh (dL (c7 26220 4 [⟨[cZ,.tok 110],[0],dm,[(yn zf (.tup [zy,zi,dB]))]⟩]) 26222 4 [⟨[cZ,.tok 111],[0],dm,[(yn zs (.tup [zy,zi,dB]))]⟩]) 26224 4 [⟨[cZ,.tok 112],[0],dm,[(yv (.tup [zy,zl,.wr 44]))]⟩] (dL (c7 26226 4 [⟨[cZ,.tok 113],[0],dm,[(yn zf (.tup [zy,zl,dB]))]⟩]) 26228 4 [⟨[cZ,.tok 114],[0],dm,[(yn zs (.tup [zy,zl,dB]))]⟩])) 26230 4 [⟨[cZ,.tok 115],[0],dm,[(yv (.tup [zy,zm,zn]))]⟩] (dh (dL (c7 26232 4 [⟨[cZ,.tok 116],[0],dm,[(yn zf (.tup [zy,zm,dB]))]⟩]) 26234 4 [⟨[cZ,.tok 117],[0],dm,[(yn zs (.tup [zy,zm,dB]))]⟩]) 26236 4 [⟨[cZ,.tok 118],[0],dm,[(yv (.tup [zy,HL,zn]))]⟩] (dL (c7 26238 4 [⟨[cZ,.tok 119],[0],dm,[(yn zf (.tup [zy,HL,dB]))]⟩]) 26240 4 [⟨[cZ,.tok 120],[0],dm,[(yn zs (.tup [zy,HL,dB]))]⟩])))) 26242 4 [⟨[cZ,.tok 121],[0],dm,[(yv (.tup [zy,zm,zr]))]⟩] (dh (dh (dh (dL (c7 26244 4 [⟨[cZ,.tok 122],[0],dm,[(yn gL (.tup [zy,zm,dB]))]⟩]) 26246 4 [⟨[cZ,.tok 123],[0],dm,[(yn zs (.tup [zy,zm,dB]))]⟩]) 26248 4 [⟨[cZ,.tok 124],[0],dm,[(yv (.tup [zy,HL,zr]))]⟩] (dL (c7 26250 4 [⟨[cZ,.tok 125],[0],dm,[(yn gL (.tup [zy,HL,dB]))]⟩]) 26252 4 [⟨[cZ,.tok 126],[0],dm,[(yn zs (.tup [zy,HL,dB]))]⟩])) 26254 4 [⟨[cZ,.tok 127],[0],dm,[(yv (.tup [zy,.int (.c 17),zt]))]⟩] (dh (dL (c7 26256 4 [⟨[cZ,.tok 128],[0],dm,[(yn zs (.tup [zy,.int (.c 17),dB]))]⟩]) 26258 4 [⟨[cZ,.tok 129],[0],dm,[(yn zs (.tup [zy,.int (.c 17),dB]))]⟩]) 26260 4 [⟨[cZ,.tok 130],[0],dm,[(yv (.tup [zy,.int (.c 18),zt]))]⟩] (dL (c7 26262 4 [⟨[cZ,.tok 131],[0],dm,[(yn zs (.tup [zy,.int (.c 18),dB]))]⟩]) 26264 4 [⟨[cZ,.tok 132],[0],dm,[(yn zs (.tup [zy,.int (.c 18),dB]))]⟩]))) 26266 4 [⟨[cZ,.tok 133],[0],dm,[(yv (.tup [zy,.int (.c 21),zt]))]⟩] (dh (dh (dL (c7 26268 4 [⟨[cZ,.tok 134],[0],dm,[(yn zs (.tup [zy,.int (.c 21),dB]))]⟩]) 26270 4 [⟨[cZ,.tok 135],[0],dm,[(yn zs (.tup [zy,.int (.c 21),dB]))]⟩]) 26272 4 [⟨[cZ,.tok 136],[0],dm,[(yv (.tup [zy,.int (.c 22),zt]))]⟩] (dL (c7 26274 4 [⟨[cZ,.tok 137],[0],dm,[(yn zs (.tup [zy,.int (.c 22),dB]))]⟩]) 26276 4 [⟨[cZ,.tok 138],[0],dm,[(yn zs (.tup [zy,.int (.c 22),dB]))]⟩])) 26278 4 [⟨[cZ,.tok 139],[0],dm,[(yv (.tup [zy,.int (.c 28),zw]))]⟩] (dh (dL (c7 26280 4 [⟨[cZ,.tok 140],[0],dm,[(yv (.tup [zy,z4,zv]))]⟩]) 26282 4 [⟨[cZ,.tok 141],[0],dm,[(yn zs (.tup [zy,.int (.c 28),dB]))]⟩]) 26284 4 [⟨[cZ,.tok 142],[0],dm,[(yn zs (.tup [zy,z4,dB]))]⟩] (dL (c7 26286 4 [⟨[cZ,.tok 143],[0],dm,[(yn zs (.tup [zy,.int (.c 28),dB]))]⟩]) 26288 4 [⟨[cZ,.tok 144],[0],dm,[(yn zs (.tup [zy,z4,dB]))]⟩])))))
noncomputable def OX:BT (List (Nat×List dy)):=(c7 26000 5 [⟨[cZ,jY],[0],dm,[(yv (.tup [zn,fk])),(yv (.tup [z5,kl]))]⟩,⟨[cZ,jZ],[0],dm,[(yv (.tup [zc,iq]))]⟩,⟨[cZ,j2],[0],dm,[(yn zs (.tup [dB,eK])),(yv (.tup [zt,eK])),(yn gL (.tup [dB,gZ])),(yn zf (.tup [dB,fk])),(yv (.tup [zg,fk])),(yn gN (.tup [dB,iq])),(yn gQ (.tup [dB,kl]))]⟩,⟨[cZ,j3],[0],dm,[(yv (.tup [zv,eK])),(yv (.tup [zw,eK])),(yv (.tup [zr,gZ])),(yv (.tup [zj,fk]))]⟩,⟨[cZ,j4],[0],dm,[(yv (.tup [.wr 44,fk]))]⟩,⟨[cZ,sk],[0],dm,[(yn lC (.tup [dB,yU])),(yn lC (.tup [dB,yV])),(yn yW (.tup [dB,iq])),(yn lB (.tup [dB,yS])),(yn lB (.tup [dB,yT])),(yn zq (.tup [dB,gZ])),(yn lA (.tup [dB,yQ])),(yn lA (.tup [dB,yR])),(yn zu (.tup [dB,eK]))]⟩,⟨[cZ,so],[0],dm,[(yn wW (.tup [dB,wV])),(yn wU (.tup [dB,wT])),(yn wS (.tup [dB,wQ])),(yn zf (.tup [dB,fk])),(yn gN (.tup [dB,iq])),(yn gL (.tup [dB,gZ])),(yn zs (.tup [dB,eK]))]⟩,⟨[cZ,jb],[0],dm,[x4]⟩,⟨[cZ,jc],[0],dm,[x5,x4]⟩])
noncomputable def OY:List dy:=[⟨[cZ,.tok 1],[0],dm,[(yv z1)]⟩,⟨[cZ,.tok 2],[0],dm,[(yv zp)]⟩,⟨[cZ,.tok 3],[0],dm,[x5,x4]⟩]
noncomputable def OZ:List dy:=[⟨[cZ,n1],[0],dm,[(yv z1)]⟩,⟨[cZ,R3],[0],dm,[x5]⟩]
noncomputable def O0:List dy:=[⟨[cZ,.tok 4],[0],dm,[(yv zp),(yv z1)]⟩,⟨[cZ,.tok 5],[0],dm,[(yv zp),(yv z1),x4,x5]⟩]
noncomputable def O1:BT (List (Nat×List dy)):=(dh (dL (c7 339760 6 [⟨[cZ,.tok 60,.tok 100],[0],dm,[(yu z2 (d6 0 27))]⟩]) 339790 6 [⟨[cZ,.tok 60,.tok 115],[0],dm,[(yu z2 (d6 15 4))]⟩]) 339792 6 [⟨[cZ,.tok 61,.tok 103],[0],dm,[(yu z2 (d6 0 3))]⟩] (dL (c7 339796 6 [⟨[cZ,.tok 60,.tok 118],[0],dm,[(yu z2 (d6 19 4))]⟩]) 339814 6 [⟨[cZ,eM,.tok 101],[0],dm,[(yu z2 (d6 0 27))]⟩]))
noncomputable def O2:BT (List (Nat×List dy)):=(dh (dL (c7 339816 6 [⟨[cZ,eM,.tok 102],[0],dm,[(yu z2 (d6 0 1))]⟩]) 339820 6 [⟨[cZ,eM,.tok 104],[0],dm,[(yu z2 (d6 0 3))]⟩]) 339822 6 [⟨[cZ,eM,.tok 105],[0],dm,[(yu z2 (d6 0 1))]⟩] (dL (c7 339824 6 [⟨[cZ,eM,.tok 106],[0],dm,[(yu z2 (d6 3 4))]⟩]) 339826 6 [⟨[cZ,eM,.tok 107],[0],dm,[(yu z2 (d6 3 4))]⟩]))
noncomputable def O3:BT (List (Nat×List dy)):=(dh (dL (c7 339828 6 [⟨[cZ,eM,.tok 108],[0],dm,[(yu z2 (d6 3 1))]⟩]) 339832 6 [⟨[cZ,eM,.tok 110],[0],dm,[(yu z2 (d6 7 4))]⟩]) 339834 6 [⟨[cZ,eM,.tok 111],[0],dm,[(yu z2 (d6 7 1))]⟩] (dL (c7 339838 6 [⟨[cZ,eM,.tok 113],[0],dm,[(yu z2 (d6 11 4))]⟩]) 339840 6 [⟨[cZ,eM,.tok 114],[0],dm,[(yu z2 (d6 11 1))]⟩]))
noncomputable def O4:BT (List (Nat×List dy)):=(dh (dL (c7 339844 6 [⟨[cZ,eM,.tok 116],[0],dm,[(yu z2 (d6 15 4))]⟩]) 339846 6 [⟨[cZ,eM,.tok 117],[0],dm,[(yu z2 (d6 15 1))]⟩]) 339850 6 [⟨[cZ,eM,.tok 119],[0],dm,[(yu z2 (d6 19 4))]⟩] (c7 339852 6 [⟨[cZ,eM,.tok 120],[0],dm,[(yu z2 (d6 19 1))]⟩]))
noncomputable def O5:BT (List (Nat×List dy)):=(dh (dL (c7 339856 6 [⟨[cZ,.tok 63,.tok 109],[0],dm,[(yu z2 (d6 7 4))]⟩,⟨[cZ,eM,.tok 122],[0],dm,[(yu z2 (d6 15 2))]⟩]) 339858 6 [⟨[cZ,eM,.tok 123],[0],dm,[(yu z2 (d6 15 1))]⟩]) 339862 6 [⟨[cZ,eM,.tok 125],[0],dm,[(yu z2 (d6 19 2))]⟩] (c7 339864 6 [⟨[cZ,eM,.tok 126],[0],dm,[(yu z2 (d6 19 1))]⟩]))
noncomputable def O6:BT (List (Nat×List dy)):=(dh (dL (c7 339866 6 [⟨[cZ,eM,.tok 127],[0],dm,[(yu z2 (d6 17 1))]⟩]) 339868 6 [⟨[cZ,eM,.tok 128],[0],dm,[(yu z2 (d6 17 1))]⟩]) 339870 6 [⟨[cZ,eM,.tok 129],[0],dm,[(yu z2 (d6 17 1))]⟩] (dL (c7 339872 6 [⟨[cZ,eM,.tok 130],[0],dm,[(yu z2 (d6 18 1))]⟩]) 339874 6 [⟨[cZ,eM,.tok 131],[0],dm,[(yu z2 (d6 18 1))]⟩]))
noncomputable def O7:BT (List (Nat×List dy)):=(dh (dL (c7 339876 6 [⟨[cZ,eM,.tok 132],[0],dm,[(yu z2 (d6 18 1))]⟩]) 339878 6 [⟨[cZ,eM,.tok 133],[0],dm,[(yu z2 (d6 21 1))]⟩]) 339880 6 [⟨[cZ,.tok 63,.tok 121],[0],dm,[(yu z2 (d6 15 2))]⟩,⟨[cZ,eM,.tok 134],[0],dm,[(yu z2 (d6 21 1))]⟩] (c7 339882 6 [⟨[cZ,eM,.tok 135],[0],dm,[(yu z2 (d6 21 1))]⟩]))
noncomputable def O8:BT (List (Nat×List dy)):=(dh (dL (c7 339884 6 [⟨[cZ,eM,.tok 136],[0],dm,[(yu z2 (d6 22 1))]⟩]) 339886 6 [⟨[cZ,.tok 63,.tok 124],[0],dm,[(yu z2 (d6 19 2))]⟩,⟨[cZ,eM,.tok 137],[0],dm,[(yu z2 (d6 22 1))]⟩]) 339888 6 [⟨[cZ,eM,.tok 138],[0],dm,[(yu z2 (d6 22 1))]⟩] (c7 339894 6 [⟨[cZ,eM,.tok 141],[0],dm,[(yu z2 (d6 28 1))]⟩]))
noncomputable def O9:BT (List (Nat×List dy)):=(dh (dL (c7 339896 6 [⟨[cZ,eM,.tok 142],[0],dm,[(yu z2 (d6 27 1))]⟩]) 339898 6 [⟨[cZ,eM,.tok 143],[0],dm,[(yu z2 (d6 28 1))]⟩]) 339900 6 [⟨[cZ,eM,.tok 144],[0],dm,[(yu z2 (d6 27 1))]⟩] (dL (c7 339916 6 [⟨[cZ,.tok 63,.tok 139],[0],dm,[(yu z2 (d6 28 1))]⟩]) 339918 6 [⟨[cZ,.tok 63,.tok 140],[0],dm,[(yu z2 (d6 27 1))]⟩]))
noncomputable def Pa:BT (List (Nat×List dy)):=(dh (dL (c7 340020 6 [⟨[cZ,.tok 70,.tok 100],[0],dm,gP⟩]) 340050 6 [⟨[cZ,.tok 70,.tok 115],[0],dm,gP⟩]) 340052 6 [⟨[cZ,.tok 71,.tok 103],[0],dm,gP⟩] (dL (c7 340056 6 [⟨[cZ,.tok 70,.tok 118],[0],dm,gP⟩]) 340074 6 [⟨[cZ,eN,.tok 101],[0],dm,gP⟩]))
noncomputable def Pb:BT (List (Nat×List dy)):=(dh (dL (c7 340076 6 [⟨[cZ,eN,.tok 102],[0],dm,gP⟩]) 340080 6 [⟨[cZ,eN,.tok 104],[0],dm,gP⟩]) 340082 6 [⟨[cZ,eN,.tok 105],[0],dm,gP⟩] (dL (c7 340084 6 [⟨[cZ,eN,.tok 106],[0],dm,gP⟩]) 340086 6 [⟨[cZ,eN,.tok 107],[0],dm,gP⟩]))
noncomputable def Pc:BT (List (Nat×List dy)):=(dh (dL (c7 340088 6 [⟨[cZ,eN,.tok 108],[0],dm,gP⟩]) 340092 6 [⟨[cZ,eN,.tok 110],[0],dm,gP⟩]) 340094 6 [⟨[cZ,eN,.tok 111],[0],dm,gP⟩] (dL (c7 340098 6 [⟨[cZ,eN,.tok 113],[0],dm,gP⟩]) 340100 6 [⟨[cZ,eN,.tok 114],[0],dm,gP⟩]))
noncomputable def Pd:BT (List (Nat×List dy)):=(dh (dL (c7 340104 6 [⟨[cZ,eN,.tok 116],[0],dm,gP⟩]) 340106 6 [⟨[cZ,eN,.tok 117],[0],dm,gP⟩]) 340110 6 [⟨[cZ,eN,.tok 119],[0],dm,gP⟩] (c7 340112 6 [⟨[cZ,eN,.tok 120],[0],dm,gP⟩]))
noncomputable def Pe:BT (List (Nat×List dy)):=(dh (dL (c7 340116 6 [⟨[cZ,.tok 73,.tok 109],[0],dm,gP⟩,⟨[cZ,eN,.tok 122],[0],dm,gP⟩]) 340118 6 [⟨[cZ,eN,.tok 123],[0],dm,gP⟩]) 340122 6 [⟨[cZ,eN,.tok 125],[0],dm,gP⟩] (c7 340124 6 [⟨[cZ,eN,.tok 126],[0],dm,gP⟩]))
noncomputable def Pf:BT (List (Nat×List dy)):=(dh (dL (c7 340126 6 [⟨[cZ,eN,.tok 127],[0],dm,gP⟩]) 340128 6 [⟨[cZ,eN,.tok 128],[0],dm,gP⟩]) 340130 6 [⟨[cZ,eN,.tok 129],[0],dm,gP⟩] (dL (c7 340132 6 [⟨[cZ,eN,.tok 130],[0],dm,gP⟩]) 340134 6 [⟨[cZ,eN,.tok 131],[0],dm,gP⟩]))
noncomputable def Pg:BT (List (Nat×List dy)):=(dh (c7 340136 6 [⟨[cZ,eN,.tok 132],[0],dm,gP⟩]) 340138 6 [⟨[cZ,eN,.tok 133],[0],dm,gP⟩] (c7 340140 6 [⟨[cZ,.tok 73,.tok 121],[0],dm,gP⟩,⟨[cZ,eN,.tok 134],[0],dm,gP⟩]))
noncomputable def Ph:BT (List (Nat×List dy)):=(dh (c7 340142 6 [⟨[cZ,eN,.tok 135],[0],dm,gP⟩,⟨[cZ,.tok 80,jb],[0],dm,[x4]⟩]) 340144 6 [⟨[cZ,eN,.tok 136],[0],dm,gP⟩] (c7 340146 6 [⟨[cZ,.tok 73,.tok 124],[0],dm,gP⟩,⟨[cZ,eN,.tok 137],[0],dm,gP⟩]))
noncomputable def Pi:BT (List (Nat×List dy)):=(dh (dL (c7 340148 6 [⟨[cZ,.tok 74,.tok 112],[0],dm,gP⟩,⟨[cZ,eN,.tok 138],[0],dm,gP⟩]) 340154 6 [⟨[cZ,eN,.tok 141],[0],dm,gP⟩]) 340156 6 [⟨[cZ,eN,.tok 142],[0],dm,gP⟩] (c7 340158 6 [⟨[cZ,eN,.tok 143],[0],dm,gP⟩]))
noncomputable def Pj:BT (List (Nat×List dy)):=(dh (c7 340160 6 [⟨[cZ,eN,.tok 144],[0],dm,gP⟩,⟨[cZ,.tok 80,jc],[0],dm,[x5,x4]⟩]) 340176 6 [⟨[cZ,.tok 73,.tok 139],[0],dm,gP⟩] (c7 340178 6 [⟨[cZ,.tok 73,.tok 140],[0],dm,gP⟩]))
noncomputable def Pl:BT (List (Nat×List dy)):=(c7 0 0 [⟨[zy,zp],[1],[(dE 5)],[(yu z3 (dE 6)),(yu z1 (dE 6))]⟩,⟨[zy,zp],[1],[(dE 8)],[(yu z3 (dE 9)),(yu z1 (dE 9))]⟩,⟨[zy,zp],[1],[(dE 11)],[(yu z3 (dE 12)),(yu z1 (dE 12))]⟩,⟨[zy,za],[1],[(dE 1)],[(yu z3 (dE 2)),(yu z1 (dE 2)),(yu zp (dE 2))]⟩,⟨[zy,ze],[1],[(dE 2)],[(yu z3 (dE 3)),(yu z1 (dE 3)),(yu zp (dE 3)),(yu za (dE 3))]⟩,⟨[zy,zb],[1],[(dE 1)],[(yu (.int (.u (some 0) (some 4))) (dE 2))]⟩,⟨[zy,FC],[1],[(dE 3)],[(yu R6 (dE 4)),(yu ze (dE 4)),(yu zb (dE 4))]⟩,⟨[zy,FC],[1],[(dE 6)],[(yu R6 (dE 7)),(yu ze (dE 7)),(yu zb (dE 7))]⟩,⟨[zy,FC],[1],[(dE 9)],[(yu R6 (dE 10)),(yu ze (dE 10)),(yu zb (dE 10))]⟩,⟨[zy,FC],[1],[(dE 12)],[(yu R6 (dE 13)),(yu ze (dE 13)),(yu zb (dE 13))]⟩,⟨[zy,zi],[1],[(dE 1)],[(yu z3 (dE 2)),(yu z1 (dE 2)),(yu zp (dE 2)),(yu za (dE 2)),(yu ze (dE 2)),(yu zb (dE 2)),(yu FC (dE 2))]⟩,⟨[zy,zi],[1],[(dE 4)],[(yu z3 (dE 5)),(yu z1 (dE 5)),(yu zp (dE 5)),(yu za (dE 5)),(yu ze (dE 5)),(yu zb (dE 5)),(yu FC (dE 5))]⟩,⟨[zy,zi],[1],[(dE 7)],[(yu z3 (dE 8)),(yu z1 (dE 8)),(yu zp (dE 8)),(yu za (dE 8)),(yu ze (dE 8)),(yu zb (dE 8)),(yu FC (dE 8))]⟩,⟨[zy,zi],[1],[(dE 10)],[(yu z3 (dE 11)),(yu z1 (dE 11)),(yu zp (dE 11)),(yu za (dE 11)),(yu ze (dE 11)),(yu zb (dE 11)),(yu FC (dE 11))]⟩,⟨[zy,.int (.c 8)],[1],[(dE 0)],[(yu z3 (dE 1)),(yu z1 (dE 1)),(yu zp (dE 1)),(yu za (dE 1)),(yu ze (dE 1)),(yu zb (dE 1)),(yu FC (dE 1)),(yu zi (dE 1))]⟩,⟨[zy,.int (.c 9)],[1],[(dE 4)],[(yu z3 (dE 5)),(yu z1 (dE 5)),(yu zp (dE 5)),(yu R7 (dE 5))]⟩,⟨[zy,.int (.c 9)],[1],[(dE 7)],[(yu z3 (dE 8)),(yu z1 (dE 8)),(yu zp (dE 8)),(yu R7 (dE 8))]⟩,⟨[zy,.int (.c 9)],[1],[(dE 10)],[(yu z3 (dE 11)),(yu z1 (dE 11)),(yu zp (dE 11)),(yu R7 (dE 11))]⟩,⟨[zy,.int (.c 9)],[1],[(dE 13)],[(yu z3 (dE 14)),(yu z1 (dE 14)),(yu zp (dE 14)),(yu R7 (dE 14))]⟩,⟨[zy,zl],[1],[(dE 1)],[(yu (.int (.u (some 0) (some 10))) (dE 2))]⟩,⟨[zy,.int (.c 1000)],[1],[(dE 1)],[(yu (.int (.u (some 0) (some 999))) (dE 2))]⟩])
noncomputable def Pm:List dy:=[⟨[zy,dX],[1],[(dE 4)],[(yu (.tup [zz,z1]) (dE 7)),(yu (.tup [hV,zp]) (dE 7)),(yu (.tup [.tok 3,z3]) (dE 7))]⟩]
noncomputable def Pn:List dy:=[⟨[zy,dX],[1],[(dE 7)],[(yu (.tup [zz,z1]) (dE 10)),(yu (.tup [hV,zp]) (dE 10)),(yu (.tup [.tok 3,z3]) (dE 10))]⟩]
noncomputable def Po:List dy:=[⟨[zy,dX],[1],[(dE 10)],[(yu (.tup [zz,z1]) (dE 13)),(yu (.tup [hV,zp]) (dE 13)),(yu (.tup [.tok 3,z3]) (dE 13))]⟩]
noncomputable def HM:List dy:=[⟨[zy,dX,names],[1],[(dE 1)],[(yu (.tup [.tok 100,LP]) gM),(yu (.tup [.tok 101,LP]) gM),(yu (.tup [.tok 102,LQ]) gM),(yu (.tup [.tok 103,LR]) gM),(yu (.tup [.tok 104,LR]) gM),(yu (.tup [.tok 105,LQ]) gM),(yu (.tup [.tok 106,LS]) gM),(yu (.tup [.tok 107,LS]) gM),(yu (.tup [.tok 108,.tup [za,z1]]) gM),(yu (.tup [.tok 109,LT]) gM),(yu (.tup [.tok 110,LT]) gM),(yu (.tup [.tok 111,.tup [zi,z1]]) gM),(yu (.tup [.tok 112,MV]) gM),(yu (.tup [.tok 113,MV]) gM),(yu (.tup [.tok 114,.tup [zl,z1]]) gM),(yu (.tup [.tok 115,LU]) gM),(yu (.tup [.tok 116,LU]) gM),(yu (.tup [.tok 117,LV]) gM),(yu (.tup [.tok 118,LW]) gM),(yu (.tup [.tok 119,LW]) gM),(yu (.tup [.tok 120,LX]) gM),(yu (.tup [.tok 121,LY]) gM),(yu (.tup [.tok 122,LY]) gM),(yu (.tup [.tok 123,LV]) gM),(yu (.tup [.tok 124,LZ]) gM),(yu (.tup [.tok 125,LZ]) gM),(yu (.tup [.tok 126,LX]) gM),(yu (.tup [.tok 127,Fu]) gM),(yu (.tup [.tok 128,Fu]) gM),(yu (.tup [.tok 129,Fu]) gM),(yu (.tup [.tok 130,Fv]) gM),(yu (.tup [.tok 131,Fv]) gM),(yu (.tup [.tok 132,Fv]) gM),(yu (.tup [.tok 133,Fw]) gM),(yu (.tup [.tok 134,Fw]) gM),(yu (.tup [.tok 135,Fw]) gM),(yu (.tup [.tok 136,Fx]) gM),(yu (.tup [.tok 137,Fx]) gM),(yu (.tup [.tok 138,Fx]) gM),(yu (.tup [.tok 139,Fy]) gM),(yu (.tup [.tok 140,FA]) gM),(yu (.tup [.tok 141,Fy]) gM),(yu (.tup [.tok 142,FA]) gM),(yu (.tup [.tok 143,Fy]) gM),(yu (.tup [.tok 144,FA]) gM),(yu (.tup [jc,z2]) gM),(yu (.tup [jb,z2]) gM)]⟩]
noncomputable def Pp:BT (List (Nat×List dy)):=(c7 58 3 [⟨[zy,dX],[1],[(dE 0)],[(yu jY A3),(yu jZ A3),(yu j2 A3),(yu j3 A3),(yu j4 A3),(yu sk A3),(yu so A3),(yu jL A3),(yu jN A3),(yu jO A3),(yu jb A3),(yu jc A3)]⟩])
noncomputable def Pq:BT (List (Nat×List dy)):=(dh (dL (c7 806 8 [⟨[cZ,dX,.tok 80,jb,z2],[0],d4,[uF]⟩]) 1040 8 [⟨[cZ,dX,.tok 80,jc,z2],[0],d4,[uF]⟩]) 2600 8 [⟨[cZ,dX,.tok 60,.tok 100,LP],[0],d4,[uT]⟩,⟨[cZ,dX,.tok 70,.tok 100,LP],[0],d4,[uF]⟩] (dL (c7 2626 8 [⟨[cZ,dX,eM,.tok 101,LP],[0],d4,[uT]⟩,⟨[cZ,dX,eN,.tok 101,LP],[0],d4,[uF]⟩]) 2652 8 [⟨[cZ,dX,eM,.tok 102,LQ],[0],d4,[uT]⟩,⟨[cZ,dX,eN,.tok 102,LQ],[0],d4,[uF]⟩]))
noncomputable def Pr:BT (List (Nat×List dy)):=(dh (dL (c7 2678 8 [⟨[cZ,dX,.tok 61,.tok 103,LR],[0],d4,[uT]⟩,⟨[cZ,dX,.tok 71,.tok 103,LR],[0],d4,[uF]⟩]) 2704 8 [⟨[cZ,dX,eM,.tok 104,LR],[0],d4,[uT]⟩,⟨[cZ,dX,eN,.tok 104,LR],[0],d4,[uF]⟩]) 2730 8 [⟨[cZ,dX,eM,.tok 105,LQ],[0],d4,[uT]⟩,⟨[cZ,dX,eN,.tok 105,LQ],[0],d4,[uF]⟩] (c7 2756 8 [⟨[cZ,dX,eM,.tok 106,LS],[0],d4,[uT]⟩,⟨[cZ,dX,eN,.tok 106,LS],[0],d4,[uF]⟩]))
noncomputable def Ps:BT (List (Nat×List dy)):=(dh (dL (c7 2782 8 [⟨[cZ,dX,eM,.tok 107,LS],[0],d4,[uT]⟩,⟨[cZ,dX,eN,.tok 107,LS],[0],d4,[uF]⟩]) 2808 8 [⟨[cZ,dX,eM,.tok 108,.tup [za,z1]],[0],d4,[uT]⟩,⟨[cZ,dX,eN,.tok 108,.tup [za,z1]],[0],d4,[uF]⟩]) 2834 8 [⟨[cZ,dX,.tok 63,.tok 109,LT],[0],d4,[uT]⟩,⟨[cZ,dX,.tok 73,.tok 109,LT],[0],d4,[uF]⟩] (c7 2860 8 [⟨[cZ,dX,eM,.tok 110,LT],[0],d4,[uT]⟩,⟨[cZ,dX,eN,.tok 110,LT],[0],d4,[uF]⟩]))
noncomputable def Pt:BT (List (Nat×List dy)):=(dh (dL (c7 2886 8 [⟨[cZ,dX,eM,.tok 111,.tup [zi,z1]],[0],d4,[uT]⟩,⟨[cZ,dX,eN,.tok 111,.tup [zi,z1]],[0],d4,[uF]⟩]) 2912 8 [⟨[cZ,dX,.tok 74,.tok 112,MV],[0],d4,[uF]⟩]) 2938 8 [⟨[cZ,dX,eM,.tok 113,MV],[0],d4,[uT]⟩,⟨[cZ,dX,eN,.tok 113,MV],[0],d4,[uF]⟩] (c7 2964 8 [⟨[cZ,dX,eM,.tok 114,.tup [zl,z1]],[0],d4,[uT]⟩,⟨[cZ,dX,eN,.tok 114,.tup [zl,z1]],[0],d4,[uF]⟩]))
noncomputable def Pu:BT (List (Nat×List dy)):=(dh (dL (c7 2990 8 [⟨[cZ,dX,.tok 60,.tok 115,LU],[0],d4,[uT]⟩,⟨[cZ,dX,.tok 70,.tok 115,LU],[0],d4,[uF]⟩]) 3016 8 [⟨[cZ,dX,eM,.tok 116,LU],[0],d4,[uT]⟩,⟨[cZ,dX,eN,.tok 116,LU],[0],d4,[uF]⟩]) 3042 8 [⟨[cZ,dX,eM,.tok 117,LV],[0],d4,[uT]⟩,⟨[cZ,dX,eN,.tok 117,LV],[0],d4,[uF]⟩] (c7 3068 8 [⟨[cZ,dX,.tok 60,.tok 118,LW],[0],d4,[uT]⟩,⟨[cZ,dX,.tok 70,.tok 118,LW],[0],d4,[uF]⟩]))
noncomputable def Pv:BT (List (Nat×List dy)):=(dh (dL (c7 3094 8 [⟨[cZ,dX,eM,.tok 119,LW],[0],d4,[uT]⟩,⟨[cZ,dX,eN,.tok 119,LW],[0],d4,[uF]⟩]) 3120 8 [⟨[cZ,dX,eM,.tok 120,LX],[0],d4,[uT]⟩,⟨[cZ,dX,eN,.tok 120,LX],[0],d4,[uF]⟩]) 3146 8 [⟨[cZ,dX,.tok 63,.tok 121,LY],[0],d4,[uT]⟩,⟨[cZ,dX,.tok 73,.tok 121,LY],[0],d4,[uF]⟩] (c7 3172 8 [⟨[cZ,dX,eM,.tok 122,LY],[0],d4,[uT]⟩,⟨[cZ,dX,eN,.tok 122,LY],[0],d4,[uF]⟩]))
noncomputable def Pw:BT (List (Nat×List dy)):=(dh (dL (c7 3198 8 [⟨[cZ,dX,eM,.tok 123,LV],[0],d4,[uT]⟩,⟨[cZ,dX,eN,.tok 123,LV],[0],d4,[uF]⟩]) 3224 8 [⟨[cZ,dX,.tok 63,.tok 124,LZ],[0],d4,[uT]⟩,⟨[cZ,dX,.tok 73,.tok 124,LZ],[0],d4,[uF]⟩]) 3250 8 [⟨[cZ,dX,eM,.tok 125,LZ],[0],d4,[uT]⟩,⟨[cZ,dX,eN,.tok 125,LZ],[0],d4,[uF]⟩] (c7 3276 8 [⟨[cZ,dX,eM,.tok 126,LX],[0],d4,[uT]⟩,⟨[cZ,dX,eN,.tok 126,LX],[0],d4,[uF]⟩]))
noncomputable def Px:BT (List (Nat×List dy)):=(dh (dL (c7 3302 8 [⟨[cZ,dX,eM,.tok 127,Fu],[0],d4,[uT]⟩,⟨[cZ,dX,eN,.tok 127,Fu],[0],d4,[uF]⟩]) 3328 8 [⟨[cZ,dX,eM,.tok 128,Fu],[0],d4,[uT]⟩,⟨[cZ,dX,eN,.tok 128,Fu],[0],d4,[uF]⟩]) 3354 8 [⟨[cZ,dX,eM,.tok 129,Fu],[0],d4,[uT]⟩,⟨[cZ,dX,eN,.tok 129,Fu],[0],d4,[uF]⟩] (c7 3380 8 [⟨[cZ,dX,eM,.tok 130,Fv],[0],d4,[uT]⟩,⟨[cZ,dX,eN,.tok 130,Fv],[0],d4,[uF]⟩]))
noncomputable def Py:BT (List (Nat×List dy)):=(dh (dL (c7 3406 8 [⟨[cZ,dX,eM,.tok 131,Fv],[0],d4,[uT]⟩,⟨[cZ,dX,eN,.tok 131,Fv],[0],d4,[uF]⟩]) 3432 8 [⟨[cZ,dX,eM,.tok 132,Fv],[0],d4,[uT]⟩,⟨[cZ,dX,eN,.tok 132,Fv],[0],d4,[uF]⟩]) 3458 8 [⟨[cZ,dX,eM,.tok 133,Fw],[0],d4,[uT]⟩,⟨[cZ,dX,eN,.tok 133,Fw],[0],d4,[uF]⟩] (c7 3484 8 [⟨[cZ,dX,eM,.tok 134,Fw],[0],d4,[uT]⟩,⟨[cZ,dX,eN,.tok 134,Fw],[0],d4,[uF]⟩]))
noncomputable def Pz:BT (List (Nat×List dy)):=(dh (dL (c7 3510 8 [⟨[cZ,dX,eM,.tok 135,Fw],[0],d4,[uT]⟩,⟨[cZ,dX,eN,.tok 135,Fw],[0],d4,[uF]⟩]) 3536 8 [⟨[cZ,dX,eM,.tok 136,Fx],[0],d4,[uT]⟩,⟨[cZ,dX,eN,.tok 136,Fx],[0],d4,[uF]⟩]) 3562 8 [⟨[cZ,dX,eM,.tok 137,Fx],[0],d4,[uT]⟩,⟨[cZ,dX,eN,.tok 137,Fx],[0],d4,[uF]⟩] (c7 3588 8 [⟨[cZ,dX,eM,.tok 138,Fx],[0],d4,[uT]⟩,⟨[cZ,dX,eN,.tok 138,Fx],[0],d4,[uF]⟩]))
noncomputable def PA:BT (List (Nat×List dy)):=(dh (dL (c7 3614 8 [⟨[cZ,dX,.tok 63,.tok 139,Fy],[0],d4,[uT]⟩,⟨[cZ,dX,.tok 73,.tok 139,Fy],[0],d4,[uF]⟩]) 3640 8 [⟨[cZ,dX,.tok 63,.tok 140,FA],[0],d4,[uT]⟩,⟨[cZ,dX,.tok 73,.tok 140,FA],[0],d4,[uF]⟩]) 3666 8 [⟨[cZ,dX,eM,.tok 141,Fy],[0],d4,[uT]⟩,⟨[cZ,dX,eN,.tok 141,Fy],[0],d4,[uF]⟩] (c7 3692 8 [⟨[cZ,dX,eM,.tok 142,FA],[0],d4,[uT]⟩,⟨[cZ,dX,eN,.tok 142,FA],[0],d4,[uF]⟩]))
noncomputable def PB:BT (List (Nat×List dy)):=(dL (c7 3718 8 [⟨[cZ,dX,eM,.tok 143,Fy],[0],d4,[uT]⟩,⟨[cZ,dX,eN,.tok 143,Fy],[0],d4,[uF]⟩]) 3744 8 [⟨[cZ,dX,eM,.tok 144,FA],[0],d4,[uT]⟩,⟨[cZ,dX,eN,.tok 144,FA],[0],d4,[uF]⟩])
noncomputable def L1:BT (BT (List (Nat×List dy))):=(.node (.node (.node (.node (.node .nil 15 (Uh) .nil) 18 (Ui) (.node .nil 19 (Uj) .nil)) 110 (Uk) (.node (.node .nil 118 ((.node (.node (.node Ul 471 [] Um) 759 [] (.node Un 1097 [] Uo)) 1241 [] (.node (.node Up 2193 [] Uq) 5197 [] (.node Op 11605 [] (.node Oq 25047 [] Os))))) .nil) 121 (Ot) .nil)) 123 (Ou) (.node (.node (.node .nil 126 (Ov) .nil) 132 (Ow) .nil) 133 (Ox) (.node (.node .nil 134 ((.node .nil 26 [(5,Oy),(5,Oz),(5,OA),(5,OB),(5,OC),(5,OD),(5,OE)] .nil)) .nil) 136 ((.node .nil 26 [(6,OF),(6,OG),(6,OH),(6,OI),(6,OJ),(6,OK)] .nil)) .nil))) 137 (OL) (.node (.node (.node (.node .nil 140 ((.node .nil 26 [(2,OM),(2,ON),(3,OO)] .nil)) .nil) 146 ((.node .nil 338 [(7,OP),(7,OQ),(7,OS),(7,OT),(7,OU),(7,OV)] .nil)) .nil) 166 (OW) (.node (.node .nil 167 (OX) .nil) 170 ((.node .nil 26000 [(2,OY),(2,OZ),(3,O0)] .nil)) .nil)) 171 ((.node (.node (.node (.node O1 339815 [] O2) 339827 [] (.node O3 339841 [] O4)) 339853 [] (.node (.node O5 339865 [] O6) 339875 [] (.node O7 339883 [] (.node O8 339895 [] O9)))) 339919 [] (.node (.node (.node Pa 340075 [] Pb) 340087 [] (.node Pc 340101 [] (.node Pd 340113 [] Pe))) 340125 [] (.node (.node Pf 340135 [] Pg) 340141 [] (.node Ph 340147 [] (.node Pi 340159 [] Pj)))))) (.node (.node (.node .nil 174 (Pl) .nil) 180 ((.node .nil 58 [(1,Pm),(1,Pn),(1,Po)] .nil)) .nil) 181 ((.node .nil 754 [(2,HM)] .nil)) (.node (.node .nil 182 (Pp) .nil) 183 ((.node (.node (.node Pq 2653 [] (.node Pr 2757 [] Ps)) 2861 [] (.node Pt 2965 [] (.node Pu 3069 [] Pv))) 3173 [] (.node (.node Pw 3277 [] (.node Px 3381 [] Py)) 3485 [] (.node Pz 3589 [] (.node PA 3693 [] PB))))) .nil))))
noncomputable def MY(n:Nat):List (Nat×List dy)->List dy
 |[]=>[]
 |(k,es)::r=>match V3 k n with
  |true=>(match r with|[]=>es|_=>es++MY n r)
  |false=>MY n r
noncomputable def tab(n i k:Nat):List dy:=du (L1.get i) [] λt=>du (t.get (Wv 2 k)) [] (MY n)
noncomputable def mr:Nat->H->Bool:=λY Y=>false
noncomputable def wX(a b:List (Nat×Nat)):Bool:=fw (λp q=>gd (Vn p.1 q.1) (Vn p.2 q.2)) a b
section
variable(T:Nat->List V)
noncomputable def L2(cs:List (Nat×Nat))(l0:List O)(_:gx)(fr:Fr)(h:H):Bool:=gd (wX fr.cells cs) (gd (!fr.lam) (lp T h l0))
noncomputable def PC(kx ns:Nat)(Js:List (Nat×List O))(K:V->H->Bool)(f:gf)(h:H):Bool:=match f with
 |.nx=>lD (λJ=>gd (Vn (du (dq (dq (h.get ns) oN) λm=>dq (eJ m kx) fp) 0 λk=>k) J.1) (lp T h J.2)) Js
 |.rt v=>K v h
end
inductive L3(C:i5)(n i:Nat)(e:dy):Prop
 |mk (fi:gx) (cs:List (Nat×Nat)) (l0:List O) (kx:Nat) (Js:List (Nat×List O)) (a b:List Stmt) (ra:List V) (rp:List O) (ha:qe C.toks (λk=>k) (jw (λk=>k) e.args) ra=true) (hp:Hw C.toks (jy (λk=>k) e.pre) rp=true)
  (h1:C.F.get i=some fi) (h2:fi.body=a++b) (h3:cR (fy fi.params fi.dfl (jw (λk=>k) ra)) (λfull=>Prod.rec (motive:=λY=>Bool) (λfr h=>d9 fr h (L2 C.toks cs l0 fi fr) fi.params full) (eA fi.lam fi.ks [] (eO H.nil (jy (λk=>k) rp))))=true)
  (h4:gd (V3 rp.length l0.length) (gd (Vy e.pre.length l0.length) (dG cs λp=>V3 p.2 l0.length))=true) (h5:(mB C n).ex ⟨fi.ks,rp.length,cs,false⟩ a (dQ l0) (PC C.toks kx rp.length Js (m4 C.toks e.pre.length e.pre e.outs)) mr=true)
  (h6:∀J,J∈Js->gd (Vy l0.length J.2.length) ((mB C n).ex ⟨fi.ks,rp.length,cs,false⟩ b (dQ J.2) (kt (m4 C.toks e.pre.length e.pre e.outs)) mr)=true)
section
variable{g:Gb}{c:Cf}{C:i5}{dl ul:Nat}{h:H}{s:Shared}{A:Around}{e:dy}
theorem ms{X:Nat->H->Bool}(hX:X=mr){e:Value}{Q:Prop}(x:EX g c A X e s):Q:=x.rec λY Y Y Y Y Y Y Y t=>by rw[hX] at t;exact ft t
theorem AN{a b:List (Nat×Nat)}(h:wX a b=true):a=b:=dI h rfl λa x b y h ih=>cT h λh1 h2=>by rw[show a=b from Prod.ext (cX h1) (cX h2),ih]
theorem HN{fr:Fr}{ks:List (Nat×NameKind)}{cs:List (Nat×Nat)}{m:Nat}(h1:fr.ns=m)(h2:fr.ks=ks)(h3:wX fr.cells cs=true)(h4:(!fr.lam)=true):fr=⟨ks,m,cs,false⟩:=by
 cases fr with
 |mk a b d e=>
  cases (show b=m from h1)
  cases (show a=ks from h2)
  cases (show d=cs from AN h3)
  cases (show e=false from dP h4)
  rfl
theorem HO{α:Type}{x:Nat}{v:α}{l:List (Nat×α)}(h:eJ l x=some v):∃k,(k,v)∈l:=by
 induction l with
 |nil=>exact nn h
 |cons p r ih=>
  rw[dZ] at h
  cases q:Vn p.1 x with
  |true=>
   rw[q] at h
   exact⟨p.1,(Vl h:p.2=v)▸Vq⟩
  |false=>
   rw[q] at h
   exact(ih h).imp λk w=>Vr _ w
theorem L4{n i:Nat}{μ:Nat->Nat}{args:List V}{vs:List Value}(F:io (g.ins C none dl ul c e.pre.length μ s.heap))(Fh:io (g.ins C none dl ul c e.pre.length μ s.heap).hush)
  (K:gJ g C) (hq:C.quiet=false->A.handled=none) (hd:A.depth+(n+1)≤dl) (hu:A.units+16 * (n+1)+64≤ul) (hl:dl≤990/\ul≤cLine)
  (oa:dz g c 1 A) (I:cV g c h s) (hv:da g c args vs) (hm:Mu c e.pre.length μ) (ha:qe C.toks μ args e.args=true) (hp:uv C.toks μ e.outs h e.pre 0=true) (hr:L3 C n i e):
  cQ g.M A (call (.ref (g.fa i)) vs) (HA g c h e μ) (HB g c A h e μ) s:=by
 obtain⟨fi,cs,l0,kx,Js,a,b,ra,rp,ha2,hp2,h1,h2,h3,h4,h5,h6⟩:=hr
 refine r4 (n:=n+1) (ra:=ra) (rp:=rp) K (λa q=>nn q) hq hd hu hl oa I hv hm ha hp ha2 hp2 λoa0 I0 hv0=>?_
 have S:=(jv F Fh n).self
 have hM:(g.ins C none dl ul c e.pre.length μ s.heap).M=g.M:=rfl
 have hfa:(g.ins C none dl ul c e.pre.length μ s.heap).fa=g.fa:=rfl
 have hC:(g.ins C none dl ul c e.pre.length μ s.heap).C=C:=rfl
 have hM0:(g.ins C none dl ul c e.pre.length μ s.heap).M0=none:=rfl
 have K':gJ (g.ins C none dl ul c e.pre.length μ s.heap) C:=⟨λh1 h2=>K.i h1 (pj (g:=g)▸h2),λh=>(K.e h).elim λa q=>⟨a,q.1,pj (g:=g)▸q.2⟩,K.s,K.k⟩
 have hn0:(c.low e.pre.length μ).n=e.pre.length:=rfl
 have z:=F _ λY Y h=>h
 rw[<-hM,<-hfa]
 generalize g.ins C none dl ul c e.pre.length μ s.heap=g' at *
 generalize c.low e.pre.length μ=c0 at *
 subst hC
 have hN0:∀k,c0.N k->k<c0.n:=λk q=>I0.nlt k q
 refine kZ z.F (n:=n) (Kf:=L2 g'.C.toks cs l0) oa0 I0 hv0 (by rw[h1];exact h3) λfi' fr env ag ae aa hfi hns hks ac f hN hoa af hK=>iX hK λk1 k2 k3=>iX h4 λl1 l2 l3=>?_
 cases Vl (hfi.symm.trans h1)
 have hns:fr.ns=rp.length:=hns.trans ((jA (h:=H.nil)).trans ((VQ _).trans (VG ..)))
 cases HN hns hks k1 k2
 refine e02 (af.refit (l:=l0) (C:=g'.C) ac hN0 (Vo (Vu hn0) (eQ l2)) (λa q=>nn (hM0.symm.trans q)) K' k3) λam ak=>?_
 have aL:=f.sub (eQ l1) λx i q=>(HO q).elim λk w=>by
  have y:=c9 l3 w
  exact eQ y
 have hoa2:∀aA,dA (ag.sub l0.length λk=>k) aA->dz g' aA n (A.deeper env):=λaA au=>hoa aA (ak.trans au) (Vt (eQ l1) au.n) (au.N _ ⟨eQ l1,hN⟩) (aL.loc.trans (au.ρ _ (eQ l1)).symm)
 rw[h2]
 refine ip (Q':=λfl s'=>match fl with
  |.next=>∃J c',J∈Js/\dA (ag.sub l0.length λk=>k) c'/\cV g' c' (dQ J.2) s'
  |.ret v=>QV g' c0 (m4 g'.C.toks e.pre.length e.pre e.outs) v s'
  |_=>False) (cO (S.ex (hoa2 _ (.refl _)) aL am h5) (λfl aj q=>?_) λe aj x=>ms rfl x) (λaj q=>?_) (λv aj q=>q) λaj=>⟨λq=>q,λq=>q⟩
 .cases fl with
  |next=>
   obtain⟨c',h',e',i',kk⟩:=q
   refine iI kk λJ hJ kk=>cT kk λY kk=>cT (h6 J hJ) λh7 Y=>?_
   refine e02 (i'.refit (l:=J.2) (C:=g'.C) e' am.nlt (eQ h7) (λa q=>nn (hM0.symm.trans q)) K' kk) λaz au=>?_
   exact⟨J,_,hJ,au,az⟩
  |ret v=>exact QV.mono ak q
  |brk=>exact q.elim
  |cont=>exact q.elim
 .refine e23 q λJ aA hJ au az=>?_;clear q
  refine cT (h6 J hJ) λY h8=>cO (S.ex (hoa2 _ au) (aL.ext au) az h8) (λfl bx x=>?_) λe aj x=>ms rfl x
  cases fl with
  |next=>exact QU.elim x λao aq bR am hK=>⟨.none,ao,aq,ak.trans (au.trans bR),am,iK,hK⟩
  |ret v=>exact QV.mono (ak.trans au) x
  |brk=>exact x.elim
  |cont=>exact x.elim
end
def WF(M:Option Addr)(g:Gb)(W:BT O):Prop:=∀k o,W.get k=some o->∃d,∀(hp:Heap) (c:Cf),(∀a ob,g.R a ob->hp.get? a=some ob)->(∀a vs,g.T0 a vs->c.T a vs)->(∀a,M=some a->0<c.n/\c.ρ 0=a)->OR g c o (g.w k) d hp
noncomputable def cx(W:BT O)(q x:Bool)(P:Nat->List V->H->Option (List dW)):i5:=⟨GT,FT,CT,W,q,toks x,P,nO,lzy,egr⟩
structure Fz(g:Gb):Prop where
 G:GF g
 CL:CF g
 F:FF g
 E:EF g
 D:WD g
 L:LF g
def Fc(g:Gb):Prop:=∀W q x P R S M s0 T0 dl ul,(∀a vs,g.T0 a vs->T0 a vs)->Fz (g.alt (cx W q x P) R S M s0 T0 dl ul)
noncomputable def L5(i:Nat):Bool:=dj (Vn i 166) (dj (Vn i 167) (dj (Vn i 170) (dj (Vn i 171) (Vn i 183))))
noncomputable def wt(md:Bool):BT O:=db md WT MX
noncomputable def AO(md:Bool)(n i k:Nat):List dy:=db (dj md (!(L5 i))) (tab n i k) []
noncomputable def cm(md x:Bool)(n:Nat):i5:=cx (wt md) false x (pk (toks x) (AO md n))
inductive sp(x:Bool)(r i:Nat)(e:dy):Prop
 |d (ra:List V) (rp:List O) (h:rY (cm false x r) 55 i e ra rp=true)
 |m (ra:List V) (rp:List O) (h:rY (cm true x r) 55 i e ra rp=true) (hi:L5 i=true) (hs:Vn (e.src.headD 1) 0=true) (hp:dU e.pre=false)
 |c (h:L3 (cm false x r) 54 i e)
def L6{α:Type}(P:α->Prop)(l:List α):Prop:=List.rec True (λx Y ih=>P x/\ih) l
theorem L6.mem{α:Type}{P:α->Prop}{x:α}{l:List α}:L6 P l->x∈l->P x:=by
 induction l with
 |nil=>exact λY h=>absurd h Vv
 |cons y l ih=>exact λh hx=>(List.mem_cons.mp hx).elim (λe=>e▸h.1) (ih h.2)
def R8(r i:Nat)(es:List dy):Prop:=∀e,e∈es->∀x,sp x r i e
def Pk(i:Nat)(_:Nat)(l:List (Nat×List dy)):Prop:=L6 (λp=>R8 p.1 i p.2) l
def sq:Prop:=fj (λi t=>fj (Pk i) t) L1
noncomputable def Ur(x:Bool)(a:AI):AI:=du (nF a) a λp=>db (Vn p.1 27) (.c (db x 50 49)) a
noncomputable def Us(x:Bool)(v:V):V:=du (dk v) v λl=>.bytes (l.map (Ur x))
noncomputable def Ut(x:Bool)(o:O):O:=du (oB o) o λl=>.barr (l.map (Ur x))
noncomputable def R9(r i:Nat):Bool:=dj (Vn i 180) (gd (Vn i 170) (Vn r 2))
noncomputable def L7(x:Bool)(r i:Nat)(e:dy):Bool:=db (L5 i)
 (gd (Vn (e.src.headD 1) 0) (gd (!(dU e.pre)) (rY (cm true x r) 55 i e (db (R9 r i) (e.args.map (Us x)) e.args) (db (R9 r i) (e.pre.map (Ut x)) e.pre))))
 (rY (cm false x r) 55 i e (db (R9 r i) (e.args.map (Us x)) e.args) (db (R9 r i) (e.pre.map (Ut x)) e.pre))
noncomputable def eU(x:Bool)(r i:Nat)(es:List dy):Bool:=dG es (L7 x r i)
noncomputable def dJ(x:Bool)(i:Nat)(t:BT (List (Nat×List dy))):Bool:=BT.rec true (λY Y l Y a b=>gd a (gd (dG l λp=>eU x p.1 i p.2) b)) t
theorem yX{x:Bool}{r i:Nat}{e:dy}(h:L7 x r i e=true):sp x r i e:=by
 unfold L7 at h
 cases q:L5 i with
 |true=>rw[q] at h;exact iX h λh1 h2 h=>.m _ _ h q h1 (dP h2)
 |false=>rw[q] at h;exact .d _ _ h
theorem wY{b:Bool}(h:(Bool.rec false true b:Bool)=true):b=true:=by
 cases b with
 |true=>rfl
 |false=>exact ft h
theorem dn{r i:Nat}{es:List dy}(h:∀x,(Bool.rec false true (eU x r i es):Bool)=true):R8 r i es:=λe he x=>yX (by
 have q:=c9 (wY (h x)) he
 exact q)
theorem cY{i:Nat}{t:BT (List (Nat×List dy))}(h:∀x,(Bool.rec false true (dJ x i t):Bool)=true):fj (Pk i) t:=by
 replace h:∀x,dJ x i t=true:=λx=>wY (h x)
 induction t with
 |nil=>trivial
 |node l k v r il ir=>
  replace h:∀x,gd (dJ x i l) (gd (dG v λp=>eU x p.1 i p.2) (dJ x i r))=true:=h
  refine⟨il λx=>cT (h x) λh1 Y=>h1,?_,ir λx=>iX (h x) λY Y h2=>h2⟩
  replace h:∀x,(dG v λp=>eU x p.1 i p.2)=true:=λx=>iX (h x) λY h1 Y=>h1
  clear il ir
  induction v with
  |nil=>trivial
  |cons p v ih=>exact⟨λe he x=>yX (cT (h x) λh1 Y=>by
    have q:=c9 h1 he
    exact q),ih λx=>cT (h x) λY h2=>h2⟩
theorem eI{i k:Nat}{l r:BT (List (Nat×List dy))}(a:fj (Pk i) l)(b:fj (Pk i) r):fj (Pk i) (.node l k [] r):=⟨a,trivial,b⟩
theorem wZ{i k:Nat}{v:List (Nat×List dy)}(a:Pk i k v):fj (Pk i) (.node .nil k v .nil):=⟨trivial,a,trivial⟩
theorem fE{i k r:Nat}{es:List dy}{v:List (Nat×List dy)}(a:R8 r i es)(b:Pk i k v):Pk i k ((r,es)::v):=⟨a,b⟩
theorem w0{i k:Nat}:Pk i k []:=trivial
theorem gq{i:Nat}{t:BT (List (Nat×List dy))}{l r:BT (BT (List (Nat×List dy)))}(a:fj (λi t=>fj (Pk i) t) l)(b:fj (Pk i) t)(c:fj (λi t=>fj (Pk i) t) r):fj (λi t=>fj (Pk i) t) (.node l i t r):=⟨a,b,c⟩
theorem gb:fj (λi t=>fj (Pk i) t) .nil:=trivial
theorem HP{n:Nat}{e:dy}{l:List (Nat×List dy)}:e∈MY n l->∃p,p∈l/\p.1<n/\e∈p.2:=by
 induction l with
 |nil=>exact λh=>absurd h Vv
 |cons p l ih=>
  obtain⟨k,es⟩:=p
  unfold MY
  cases q:V3 k n with
  |true=>
   cases l with
   |nil=>exact λh=>⟨_,Vq,eQ q,h⟩
   |cons _ _=>exact λh=>(List.mem_append.mp h).elim (λh=>⟨_,Vq,eQ q,h⟩) λh=>(ih h).elim λp h=>⟨p,Vr _ h.1,h.2⟩
  |false=>exact λh=>(ih h).elim λp h=>⟨p,Vr _ h.1,h.2⟩
structure Ok(n:Nat)(x md:Bool)(g:Gb):Prop where
 C:∃q,g.C=cx (wt md) q x (pk (toks x) (AO md n))
 F:Fc g
 W:WF g.M0 g (wt md)
 d:WF none g MX
 T:gJ g (cm md x n)
 M:md=true->g.M0.isSome=true
 dl:g.dl≤990 - 55 * n
 ul:g.ul≤9892 - 944 * n
section
variable{g:Gb}{n:Nat}{x md:Bool}
theorem WF.up{M M0:Option Addr}{W:BT O}{C:i5}{R S:Addr->Obj->Prop}{s0:Shared}{dl ul:Nat}(h:WF M g W)(hR:∀a o,g.R a o->R a o):WF M (g.alt C R S M0 s0 g.T0 dl ul) W:=λk o e=>(h k o e).elim λd f=>⟨d,λhp c h1 h2 h3=>(oy (g:=g))▸f hp c (λa ob q=>h1 a ob (hR a ob q)) h2 h3⟩
theorem Ok.fz(k:Ok n x md g):Fz g:=by
 refine e11 k.C λq hC=>?_
 have:=k.F (wt md) q x (pk (toks x) (AO md n)) g.R g.S g.M0 g.s0 g.T0 g.dl g.ul λY Y h=>h
 rw[<-hC] at this
 exact this
theorem Ok.wR(k:Ok n x md g){R:Addr->Obj->Prop}(hR:∀a o,g.R a o->R a o):Ok n x md (g.wR R):=
 ⟨k.C,λW q x' P R' S M s0 T0 dl ul=>k.F W q x' P R' S M s0 T0 dl ul,k.W.up hR,k.d.up hR,⟨λh1 h2=>k.T.i h1 (iO (g:=g)▸h2),λh=>(k.T.e h).elim λa q=>⟨a,q.1,iO (g:=g)▸q.2⟩,k.T.s,k.T.k⟩,k.M,k.dl,k.ul⟩
theorem Ok.hush(k:Ok n x md g):Ok n x md g.hush:=by
 refine e11 k.C λq hC=>?_
 have e:g.hush=g.alt (Mine.Tactic.iD g.C) g.R g.S g.M0 g.s0 g.T0 g.dl g.ul:=rfl
 rw[e]
 exact⟨⟨true,show Mine.Tactic.iD g.C=_ by rw[hC];rfl⟩,λW q x' P R' S M s0 T0 dl ul=>k.F W q x' P R' S M s0 T0 dl ul,k.W.up λY Y h=>h,k.d.up λY Y h=>h,⟨λh1 h2=>k.T.i h1 (iO (g:=g)▸h2),λh=>(k.T.e h).elim λa q=>⟨a,q.1,iO (g:=g)▸q.2⟩,k.T.s,k.T.k⟩,k.M,k.dl,k.ul⟩
theorem Ok.fct(k:Ok n x md g)(p:qd g):Ft g:=by
 have z:=k.fz
 refine e11 k.C λq hC=>?_
 refine⟨z.G,⟨λI e=>(k.W _ _ (by rw[hC] at e;exact e)).elim λd h=>⟨d,h _ _ I.rest I.t0 I.m0⟩⟩,z.CL,z.F,z.E,z.D,z.L,λh=>?_,p⟩
 rw[hC]
 exact k.T.e h
theorem Ok.fctP(k:Ok n x md g)(p:∀{g':Gb},Ok n x md g'->qd g'):io g:=λY hR=>(k.wR hR).fct (p (k.wR hR))
theorem Ok.ins(k:Ok n x md g){r m:Nat}{md':Bool}{c:Cf}{μ:Nat->Nat}{hp:Heap}(hr:r<n)(hm:md'=true->md=true):Ok r x md' (g.ins (cm md' x r) (db md' g.M0 none) (990 - 55 * r) (9892 - 944 * r) c m μ hp):=by
 refine⟨⟨false,rfl⟩,λW q x' P R' S M s0 T0 dl ul=>k.F W q x' P R' S M s0 T0 dl ul,?_,k.d.up λY Y h=>.inl h,⟨λh1 h2=>?_,λh=>?_,?_,?_⟩,?_,VA _,VA _⟩
 .cases md' with
  |true=>exact(hm rfl▸k.W).up λY Y h=>.inl h
  |false=>exact k.d.up λY Y h=>.inl h
 .exact k.T.i h1 (pj (g:=g)▸h2)
 .exact(k.T.e h).elim λa q=>⟨a,q.1,pj (g:=g)▸q.2⟩
 .exact k.T.s
 .exact k.T.k
 .cases md' with
  |true=>exact λY=>k.M (hm rfl)
  |false=>exact λq=>ft q
theorem U0{args:List V}{d:Nat}{src:List Nat}(h:Vn (src.headD 1) 0=true):mZ (mO args d src) d 0=0:=by
 cases src with
 |nil=>exact ft h
 |cons a r=>cases (show a=0 from cX h);exact rZ rfl
theorem PD{a m p r:Nat}(h:a+1≤m)(k:m≤990 - 55 * p)(hr:r<p):a+55≤990 - 55 * r:=by omega
theorem PE{a m p r:Nat}(h:a+16 * 1+64≤m)(k:m≤9892 - 944 * p)(hr:r<p):a+16 * 55+64≤9892 - 944 * r:=by omega
theorem L8{r i:Nat}{e:dy}(IH:∀{md':Bool} {g':Gb},Ok r x md' g'->qd g')(k:Ok n x md g)(hr:r<n)(R:sp x r i e)(hi:L5 i=true->md=true):R1 g i e:=λ{A c h s args vs} oa hh I hv hk=>by
 have hT:g.C.toks=toks x:=k.C.elim λq e=>by rw[e];rfl
 rw[hT] at hk
 refine Fq hk λh1 h2 h3 h4=>?_
 have hl:(mO args h.length e.src).length=e.pre.length:=cX h1
 have m:Mu c e.pre.length (mZ (mO args h.length e.src) h.length):=hl▸I.len▸Mu.of (c:=c) (d:=0) (λY=>trivial) (I.len▸h2)
 have go:∀{md':Bool} {ra:List V} {rp:List O},rY (cm md' x r) 55 i e ra rp=true->(md'=true->md=true)->(∀a,db md' g.M0 none=some a->g.M0=some a/\0<e.pre.length/\mZ (mO args h.length e.src) h.length 0=0)->_:=λ{md' ra rp} hR hm hM=>
  Ep (C:=cm md' x r) (M:=db md' g.M0 none) (dl:=990 - 55 * r) (ul:=9892 - 944 * r) ((k.ins hr hm).fctP IH) ((k.ins hr hm).hush.fctP IH) ⟨k.T.i,k.T.e,k.T.s,k.T.k⟩ hM (λY=>hh) (PD oa.dep' k.dl hr) (PE oa.un' k.ul hr)
   ⟨W4 ..,Vo (W4 ..) (by decide)⟩ oa I hv m h3 h4 hR
 cases R with
 |c hR=>exact L4 (C:=cm false x r) (dl:=990 - 55 * r) (ul:=9892 - 944 * r) ((k.ins hr (λq=>ft q)).fctP IH) ((k.ins hr (λq=>ft q)).hush.fctP IH) ⟨k.T.i,k.T.e,k.T.s,k.T.k⟩ (λY=>hh) (PD oa.dep' k.dl hr) (PE oa.un' k.ul hr) ⟨W4 ..,Vo (W4 ..) (by decide)⟩ oa I hv m h3 h4 hR
 |d ra rp hR=>exact go hR (λq=>ft q) λa q=>nn q
 |m ra rp hR hi' hs hp=>
  exact go hR (λY=>hi hi') λa q=>⟨q,by
   cases q2:e.pre with
   |nil=>rw[q2] at hp;exact ft hp.symm
   |cons _ _=>exact VL _,U0 hs⟩
theorem EK(HT:sq){n i key:Nat}{md:Bool}{e:dy}(x:Bool)(he:e∈AO md n i key):∃r,r<n/\sp x r i e/\(L5 i=true->md=true):=by
 unfold AO at he
 cases q:dj md (!(L5 i)) with
 |false=>rw[q] at he;exact absurd he Vv
 |true=>
  rw[q] at he
  have he:e∈tab n i key:=he
  unfold tab at he
  cases q1:L1.get i with
  |none=>rw[q1] at he;exact absurd he Vv
  |some t=>
   rw[q1] at he
   have he:e∈(du (t.get (Wv 2 key)) [] (MY n):List dy):=he
   cases q2:t.get (Wv 2 key) with
   |none=>rw[q2] at he;exact absurd he Vv
   |some l=>
    rw[q2] at he
    refine e13 (HP he) λp p1 p2 p3=>?_
    exact⟨p.1,p2,(fj.get (HT.get q1) q2).mem p1 e p3 x,λh=>eL q id λh2=>by rw[h] at h2;exact ft h2⟩
theorem EL(HT:sq):∀n x md g,Ok n x md g->qd g:=λn=>by
 induction n using Nat.strongRecOn with
 |_ n IH=>
  intro x md g k
  refine @yK g (AO md n) (k.C.elim λq e=>by rw[e];rfl) ?_
  intro i key e he
  refine e13 (EK HT x he) λr q1 q2 q3=>?_
  apply @L8 g n x md r i e (λ{md' g'}=>IH r q1 x md' g') k q1 q2 q3
theorem Ok.all(HT:sq)(k:Ok n x md g):io g:=k.fctP (EL HT n x md _)
end
theorem EM{α β:Type}{f:Nat->α->β}{t:BT α}{k:Nat}{y:β}:(FV f t).get k=some y->∃x,y=f k x/\(k,x)∈(BT.rec [] (λY k v Y a b=>a++(k,v)::b) t:List (Nat×α)):=by
 induction t with
 |nil=>exact λe=>nn e
 |node l k' v r il ir=>
  intro e
  have e:(Bool.rec (Bool.rec ((FV f r).get k) ((FV f l).get k) (Vy (VU k) k')) (some (f k' v)) (Vn k k'):Option β)=some y:=e
  cases q:Vn k k' with
  |true=>
   rw[q] at e
   rw[cX q]
   exact⟨v,(Vl e).symm,WA _ (.head _)⟩
  |false=>
   rw[q] at e
   cases q2:Vy (VU k) k' with
   |true=>rw[q2] at e;exact(il e).imp λx h=>⟨h.1,List.mem_append_left _ h.2⟩
   |false=>rw[q2] at e;exact(ir e).imp λx h=>⟨h.1,WA _ (.tail _ h.2)⟩
section
variable{β:Type}
theorem L9{o:zD}{K:zD->β}:T9 o K=K o:=by
 cases o with
 |none=>rfl
 |some p=>
  obtain⟨b,a,f,s⟩:=p
  cases a
  cases s
  cases f<;>cases b<;>rfl
end
theorem EN{f:jR->zD}{l:List jR}:∀{K:List zD->List zD},RP f l K=K (List.rec [] (λx Y ih=>f x::ih) l):=by
 induction l with
 |nil=>exact rfl
 |cons x l ih=>exact λ{K}=>(L9 (o:=f x) (K:=λy=>RP f l λr=>K (y::r))).trans (ih (K:=λr=>K (f x::r)))
theorem Ma{h:Addr->Option Obj}{ad:Nat->Nat}{lc:Addr}{lq:Str}(e:SH h ad lc lq=SJ):SD h ad lc lq=SE:=EN.symm.trans (e.trans EN)
theorem sr{b:Bool}(h:zE b=true):b=true:=by
 cases b with
 |true=>rfl
 |false=>exact ft h
theorem PF:sS.all NA=true:=by kernel_rfl
theorem Mb{α β:Type}{f f':α->β}{l:List α}(h:(List.rec [] (λx Y ih=>f x::ih) l:List β)=List.rec [] (λx Y ih=>f' x::ih) l){x:α}(hx:x∈l):f x=f' x:=by
 induction l with
 |nil=>exact absurd hx Vv
 |cons y l ih=>
  refine e02 (Wd h) λh1 h2=>?_
  exact(List.mem_cons.mp hx).elim (λe=>e▸h1) (ih h2)
theorem pz:(Txt.split (J2 F0) (Vm " ")).map cd=[299,301,298,303,76330]/\FX F0=true/\((Txt.split (J2 F0) (Vm " ")).all λy=>!(Vn (cd y) 0)&&Vy y.length 1000)=true:=by
 refine⟨?_,?_,?_⟩<;>decide+kernel
section
variable{g:Gb}{hp:Heap}{ad:Nat->Nat}
theorem WD.of(hw:g.C.words=nO):WD g:=λ{x ws} hx e=>by
 rw[hw] at e
 unfold nO at e
 cases q:Vn (cd x) 1412581125833631304002090 with
 |false=>rw[q] at e;exact nn e
 |true=>
  rw[q] at e
  have q:=cX q
  have hd:x=J2 F0:=et hx (q.trans (cX pz.2.1).symm)
  rw[<-show _=ws from Vl e,hd]
  refine⟨pz.1,λy hy=>?_,by decide⟩
  have w:=List.all_eq_true.mp pz.2.2 y hy
  rw[Bool.and_eq_true] at w
  exact⟨en (dP w.1),eQ w.2⟩
theorem Fz.of(b:Ba g hp ad)(hG:g.C.G=GT)(hF:g.C.F=FT)(hC:g.C.C=CT)(hw:g.C.words=nO)(hlq:g.lq=vv)(hP:mainGlobals≠g.P)(ht:FZ hp ad g.lc g.P=true)(ho:SD hp.get? ad g.lc vv=SE)(h3:(3000,[MM])∈sS):Fz g:=
 RQ ht λt1 t2 t3 t4 t5 t6=>by
  have ns:=cT t1 (C:=hp.isNs mainGlobals=true/\hp.isNs 0=true) λh1 h=>cT h λh2 Y=>⟨h1,h2⟩
  have lim:=Lim.of b t6
  have fn:∀{x:jR},x∈sS->vt hp.get? ad g.lc g.lq x=B3 x:=λhx=>hlq▸Mb ho hx
  have lq1:∀q:Str,(q++vr)++BZ=g.lq->(q++".<locals>.")++"<lambda>"=g.lq:=λq h=>h
  refine⟨GF.of b hG t1,CF.of b hC t2,⟨λ{i fi} e=>?_,lim⟩,EF.of b hC lim ns.1 ns.2 t3 (fn h3),WD.of hw,LF.of b t4 t5 ns.1 hP⟩
  rw[hF] at e
  refine e12 (EM e) λd zq16 hm=>?_
  cases zq16
  exact HG b lq1 (fn hm) (List.all_eq_true.mp PF _ hm)
end
section
variable{g:Gb}{c c':Cf}{A:Around}{env:Env}{t:Expr}{b:List Stmt}{itv:Value}
theorem uL(W:SW g)(hq:A.handled=none){J:Nat->It->Cf->H->Prop}{R:Result->Shared->Prop}
  (step:∀m it c h s,J m it c h->cV g c h s->sQ it t=true/\∃nx,next g.C it h=some nx/\(nx=.stop->∀s',cV g c h s'->R (.ok .next) s')/\∀v it',nx=.more v it'->∃m',m=m'+1/\∀x ao L aj,dA c ao->cV (g.pin L aj.heap) ao h aj->VR (g.pin L aj.heap) ao v x->
   cQ g.M A (assign t env x) (λY av=>cQ g.M A (execs b env) (λfl aB=>fl=.next/\∃aC ax,dA ao aC/\cV (g.pin L aj.heap) aC ax aB/\J m' it' aC ax) (λY Y=>False) av) (λY Y=>False) aj):
  ∀m it c h s,J m it c h->cV g c h s->pD g c s.heap it itv->c6 g.M A (.forLoop t itv b [] env) R s:=λm=>by
 induction m with
 |zero=>
  intro it c h s hJ I hit
  obtain⟨ht,nx,hn,h1,h2⟩:=step 0 it c h s hJ I
  exact wz W hq I hit ht hn h1 λv it' e=>(h2 v it' e).elim λm' q=>absurd q.1.symm (V9 m')
 |succ m ih=>
  intro it c h s hJ I hit
  obtain⟨ht,nx,hn,h1,h2⟩:=step (m+1) it c h s hJ I
  refine wz W hq I hit ht hn h1 λv it' e x ao L aj ak am hv hb=>?_
  refine e12 (h2 v it' e) λm' hm h3=>?_
  cases WG hm
  refine cO (h3 x ao L aj ak am hv) (λY av q=>cO q (λfl aB q=>?_) λY Y q=>q.elim) λY Y q=>q.elim
  obtain⟨rfl,aC,ax,aD,aF,hJ'⟩:=q
  exact ih it' aC ax aB hJ' aF.unpin (hb aC ax aB aD aF)
end
noncomputable def xb:Nat->List V->H->Option (List dW):=λY Y Y=>none
noncomputable def EO(f:gf):Bool:=match f with
 |.nx=>true
 |.rt _=>false
section
variable{g:Gb}{W:BT O}{q x:Bool}{c:Cf}
theorem EP(F:Fc g){P:Nat->List V->H->Option (List dW)}(hC:g.C=cx W q x P):Fz g:=by
 have:=F W q x P g.R g.S g.M0 g.s0 g.T0 g.dl g.ul λY Y h=>h
 rw[<-hC] at this
 exact this
theorem mt(F:Fc g){C:i5}{R S:Addr->Obj->Prop}{M:Option Addr}{s0:Shared}{dl ul:Nat}:Fc (g.alt C R S M s0 g.T0 dl ul):=λW q x' P R' S' M s0 T0 dl ul=>F W q x' P R' S' M s0 T0 dl ul
theorem fY{C C':i5}(K:gJ g C'){R S:Addr->Obj->Prop}{M:Option Addr}{s0:Shared}{dl ul:Nat}:gJ (g.alt C R S M s0 g.T0 dl ul) C':=⟨λh1 h2=>K.i h1 (iO (g:=g)▸h2),λh=>(K.e h).elim λa q=>⟨a,q.1,iO (g:=g)▸q.2⟩,K.s,K.k⟩
theorem xc{M M0:Option Addr}(h:WF M g W){C:i5}{R S:Addr->Obj->Prop}{s0:Shared}{dl ul:Nat}(hR:∀a o,g.R a o->R a o):WF M (g.alt C R S M0 s0 g.T0 dl ul) W:=h.up hR
theorem nv(F:Fc g){P:Nat->List V->H->Option (List dW)}(hC:g.C=cx W q x P)(hW:WF g.M0 g W)(K:gJ g g.C)(hp:∀R,(∀a o,g.R a o->R a o)->qd (g.wR R)):io g:=λR hR=>by
 have z:=EP (mt F:Fc (g.wR R)) (W:=W) (q:=q) (x:=x) (P:=P) hC
 have hW':=xc (M0:=g.M0) (C:=g.C) (S:=g.S) (s0:=g.s0) (dl:=g.dl) (ul:=g.ul) hW hR
 exact⟨z.G,⟨λI e=>(hW' _ _ (by rw[show(g.wR R).C=cx W q x P from hC] at e;exact e)).elim λd h=>⟨d,h _ _ I.rest I.t0 I.m0⟩⟩,z.CL,z.F,z.E,z.D,z.L,λh=>(fY K).e h,hp R hR⟩
theorem yY(hC:g.C.P=xb):qd g:=λ{n A i args vs c h s outs K X} Y Y Y Y e=>by
 rw[hC] at e
 exact nn e
theorem yZ(F:Fc g)(hC:g.C=cx W q x xb)(hW:WF g.M0 g W)(K:gJ g g.C):io g/\io g.hush:=by
 have h2:g.hush=g.alt (Mine.Tactic.iD g.C) g.R g.S g.M0 g.s0 g.T0 g.dl g.ul:=rfl
 refine⟨nv F hC hW K λR Y=>@yY (g.wR R) (show g.C.P=xb by rw[hC];rfl),?_⟩
 rw[h2]
 exact nv (q:=true) (mt F) (show Mine.Tactic.iD g.C=cx W true x xb by rw[hC];rfl) (xc hW λY Y h=>h) (fY (C':=Mine.Tactic.iD g.C) ⟨K.i,K.e,K.s,K.k⟩) λR Y=>@yY (Gb.wR _ R) (show(Mine.Tactic.iD g.C).P=xb by rw[hC];rfl)
end
noncomputable def uM(s:Stmt):Expr×Expr×List Stmt×Pos:=match s with
 |.For t it b _ p=>(t,it,b,p)
 |_=>(.Name (Vm "") default,.Name (Vm "") default,[],default)
noncomputable def d0(i k:Nat):Stmt:=(fF (pI (gR i) []).body k).getD (.Pass default)
noncomputable def lu:Nat:=408345935179892
noncomputable def HQ:Nat:=402925602104690
noncomputable def PH:Nat:=5962558572
noncomputable def uI:V:=.int (.u none none)
noncomputable def uN:V:=.int (.u (some 0) none)
noncomputable def wP(n:Nat):BT O:=.node .nil 2000 (.list (VF n uI)) .nil
noncomputable def m8(n:Nat):i5:=cx (wP n) false false xb
noncomputable def Tf:List (Nat×NameKind):=(pI (gR 173) []).ks
noncomputable def iu:Fr:=⟨Tf,0,[],false⟩
noncomputable def gc:Expr×Expr×List Stmt×Pos:=uM (d0 173 1)
noncomputable def jn(a b:Bool):O:=.ns ((lu,.wr 2000)::db a ((HQ,uN)::db b [(PH,uI)] []) [])
noncomputable def jS(n:Nat)(b:Bool):List O:=[jn true b,.list (VF (min n 30) uI)]
noncomputable def Tg:O:=.list [uN,.int (.u (some 0) (some 30))]
noncomputable def m9:dy:=⟨[.wr 2000],[],[],[⟨none,[Tg],.ref 0,[]⟩]⟩
noncomputable def AP:Nat->List V:=toks false
noncomputable def uO(l:List O):gf->H->Bool:=λf h=>gd (EO f) (lp AP h l)
noncomputable def EQ(i:It):Bool:=match i with
 |.lst v k=>gd (cR (fu v) λr=>Vn r 1) (Vn k 0)
 |_=>false
noncomputable def PI(n:Nat):Bool:=(mB (m8 n) 20).ex iu [d0 173 0] (dQ [jn false false]) (uO [jn true false]) mr
noncomputable def PK(n:Nat):Bool:=nL (m8 n) (mB (m8 n) 20) iu gc.2.1 (dQ [jn true false]) (λi h=>gd (EQ i) (lp AP h (jS n false))) mr
noncomputable def HR(n:Nat)(b:Bool):Bool:=(mB (m8 n) 20).asg iu gc.1 uI (dQ (jS n b)) (λh=>(mB (m8 n) 20).ex iu gc.2.2.1 h (uO (jS n true)) mr) mr
noncomputable def Mc(n:Nat)(b:Bool):Bool:=(mB (m8 n) 20).ex iu [d0 173 2] (dQ (jS n b)) (kt (m4 AP 0 [] m9.outs)) mr
noncomputable def su(n:Nat):Bool:=gd (PI n) (gd (PK n) (gd (HR n false) (gd (HR n true) (gd (Mc n false) (Mc n true)))))
theorem ER:((Wa 64).all λn=>Bool.rec false true (su n))=true:=by kernel_rfl
theorem Md{n:Nat}(h:n<64):su n=true:=by
 have q:=List.all_eq_true.mp ER n (List.mem_range.mpr h)
 cases e:su n with
 |true=>rfl
 |false=>rw[e] at q;exact ft q
structure Th(n:Nat):Prop where
 p0:PI n=true
 p1:PK n=true
 p2:∀b,HR n b=true
 p3:∀b,Mc n b=true
theorem qM{n:Nat}(h:n<64):Th n:=by
 have q:=Md h
 unfold su at q
 refine RQ q λh0 h1 h2 h3 h4 h5=>⟨h0,h1,λb=>?_,λb=>?_⟩
 .cases b with
  |false=>exact h2
  |true=>exact h3
 .cases b with
  |false=>exact h4
  |true=>exact h5
noncomputable def Jl:gx->Fr->H->Bool:=λY fr h=>gd (dU fr.cells) (gd (!fr.lam) (lp AP h [jn false false]))
theorem AQ:cR (FT.get 173) (λfi=>cR (fy fi.params fi.dfl [.wr 2000]) λfull=>Prod.rec (motive:=λY=>Bool) (λfr h=>d9 fr h (Jl fi fr) fi.params full) (eA fi.lam fi.ks [] H.nil))=true:=by kernel_rfl
theorem Me:FT.get 173=some (pI (gR 173) []):=by kernel_rfl
theorem ES:(pI (gR 173) []).body=[d0 173 0,.For gc.1 gc.2.1 gc.2.2.1 [] gc.2.2.2,d0 173 2]:=by kernel_rfl
theorem Jm{fr:Fr}{ks:List (Nat×NameKind)}(h1:fr.ns=0)(h2:fr.ks=ks)(h3:dU fr.cells=true)(h4:(!fr.lam)=true):fr=⟨ks,0,[],false⟩:=by
 cases fr with
 |mk a b d e=>
  cases (show b=0 from h1)
  cases (show a=ks from h2)
  cases (show d=[] from fQ h3)
  cases (show e=false from dP h4)
  rfl
theorem lv{C:Prop}{l:List O}{f:gf}{h:H}(hk:uO l f h=true)(k:f=.nx->lp AP h l=true->C):C:=cT hk λh1 h2=>k (by
 cases f with
 |nx=>rfl
 |rt v=>exact ft h1) h2
section
variable{g:Gb}
theorem PM{M:Option Addr}{n:Nat}{ps:Array Value}(hR:∀hp:Heap,(∀a ob,g.R a ob->hp.get? a=some ob)->jk hp (g.w 2000) ps)(hi:da g (cz g) (VF n uI) ps.toList)(hn:n≤10000):WF M g (wP n):=λk o e=>by
 have e:(Bool.rec (Bool.rec none none (Vy (VU k) 2000)) (some (.list (VF n uI))) (Vn k 2000):Option O)=some o:=e
 cases q:Vn k 2000 with
 |false=>
  rw[q] at e
  cases q2:Vy (VU k) 2000 with
  |true=>rw[q2] at e;exact nn e
  |false=>rw[q2] at e;exact nn e
 |true=>
  rw[q] at e
  cases Vl e
  rw[cX q]
  refine⟨0,λhp c h1 h2 Y=>⟨ps,hR hp h1,hi.map λa ha v h=>?_,Vo (Vu (List.length_replicate ..)) hn⟩⟩
  cases (List.mem_replicate.mp ha).2
  exact h
theorem Mf{n:Nat}{b:Bool}:(dQ (jS n b)).get 1=some (.list (jw (λk=>k) (VF (min n 30) uI))):=fW
theorem y5{α:Type}{x:α}:∀{n i:Nat},fF (VF n x) i=if i<n then some x else none
 |0,i=>(if_neg (VE i)).symm
 |n+1,0=>(if_pos (VL n)).symm
 |n+1,i+1=>(y5 (n:=n) (i:=i)).trans (by
  by_cases h:i<n
  .rw[if_pos h,if_pos (Nat.succ_lt_succ h)]
  .rw[if_neg h,if_neg λq=>h (V5 q)])
inductive PJ(g:Gb)(n:Nat)(m:Nat)(it:It)(c:Cf)(h:H):Prop
 |mk (i:Nat) (b:Bool) (e1:it=.lst (.ref 1) i) (e2:m+i=min n 30) (e3:h=dQ (jS n b)) (e4:c.n=2)
theorem ET{n:Nat}{A:Around}{env:Env}{itv:Value}{c:Cf}{s:Shared}(hn:n<64)(hC:g.C=m8 n)(hM:g.M0=none)(Fp:io g/\io g.hush)(K:gJ g (cx .nil false false xb))(hh:A.handled=none)(f:FR g c A iu env)(oa:∀ao,dA c ao->dz g ao 20 A)
  {R:Result->Shared->Prop} (hR:∀b c' s',dA c c'->cV g c' (dQ (jS n b)) s'->R (.ok .next) s') (I:cV g c (dQ (jS n false)) s) (hc:c.n=2) (hit:pD g c s.heap (.lst (.ref 1) 0) itv):c6 g.M A (.forLoop gc.1 itv gc.2.2.1 [] env) R s:=by
 have S:ii g 20 (mB g.C 20):=jv Fp.1 Fp.2 20
 have W:SW g:=(Fp.1 g.R λY Y h=>h).W
 refine uL W hh (J:=λm it c' h=>PJ g n m it c' h/\dA c c') (R:=R) (λm it c' h s hJ I=>?_) (min n 30) (.lst (.ref 1) 0) c _ s ⟨⟨0,false,rfl,rfl,rfl,hc⟩,.refl c⟩ I hit
 refine e02 hJ λzq17 ex=>?_;clear hJ
 obtain⟨i,b,rfl,e2,rfl,e4⟩:=zq17
 have hnx:next g.C (.lst (.ref 1) i) (dQ (jS n b))=some (du (fF (VF (min n 30) uI) i) .stop λx=>.more x (.lst (.ref 1) (VU i))):=by
  refine(?_:dq (gj ((dQ (jS n b)).get 1)) (λl=>some (du (fF l i) Nx.stop λx=>Nx.more x (.lst (.ref 1) (VU i))))=_)
  rw[Mf]
  refine(?_:some (du (fF (jw (λk=>k) (VF (min n 30) uI)) i) Nx.stop λx=>Nx.more x (.lst (.ref 1) (VU i)))=_)
  rw[show jw (λk=>k) (VF (min n 30) uI)=VF (min n 30) uI from List.map_replicate]
 rw[y5] at hnx
 refine⟨rfl,_,hnx,λY s' I'=>hR b c' s' ex I',λv it' e=>?_⟩
 by_cases q:i<min n 30
 .rw[if_pos q] at e
  cases e
  refine⟨min n 30 - (i+1),by omega,λx ao L aj ak am hv=>?_⟩
  have hrun:HR n b=true:=(qM hn).p2 b
  have hrun:(mB g.C 20).asg iu gc.1 uI (dQ (jS n b)) (λh=>(mB g.C 20).ex iu gc.2.2.1 h (uO (jS n true)) mr) mr=true:=hC▸hrun
  have ce:=oa ao (ex.trans ak)
  have aL:=f.ext (ex.trans ak)
  refine cO ((S.pin L aj.heap).asg ce.pin aL.pin am hv hrun) (λY av qq=>qq.elim λaA aw au az hK=>?_) λe s' x=>x.rec λY Y Y Y Y Y Y Y t=>ft t
  refine cO ((S.pin L aj.heap).ex (ce.pin.up au) (aL.pin.ext au) az hK) (λfl aB x=>?_) λe s' x=>x.rec λY Y Y Y Y Y Y Y t=>ft t
  cases fl with
  |next=>
   obtain⟨aC,ax,aD,aF,hK⟩:=x
   refine lv hK λY hf=>?_
   have e24:=au.trans aD
   have hc2:ao.n=(jS n true).length:=am.len.trans jB
   refine e02 (aF.refit e24 am.nlt (Vu hc2) (λa q=>nn (hM.symm.trans q)) (C:=cx .nil false false xb) (fY K) hf) λaO aS=>?_
   exact⟨rfl,_,_,aS,aO,⟨i+1,true,rfl,by omega,rfl,rfl⟩,(ex.trans ak).trans aS⟩
  |ret v=>exact QV.elim x λa aC ax aD aF hv hK=>lv hK λq Y=>gf.noConfusion q
  |brk=>exact x.elim
  |cont=>exact x.elim
 .rw[if_neg q] at e
  exact Nx.noConfusion e
end
section
variable{g:Gb}{c c':Cf}{A:Around}{s:Shared}
theorem hH.sub{m:Nat}{a:Addr}(x:hH g c a)(h:m≤c.n):hH g (c.sub m λk=>k) a:=⟨⟨x.al.R,x.al.B,x.al.T,x.al.D⟩,x.S,λk hk=>x.ne k (Vt hk h),x.P⟩
theorem HS{m i:Nat}{h:Heap}{itv:Value}(x:pD g c h (.lst (.ref 1) i) itv)(hm:m≤c.n)(h1:1<m):pD g (c.sub m λk=>k) h (.lst (.ref 1) i) itv:=by
 cases x with
 |mk it itv L hL hS=>
  refine .mk _ _ L (λb hb=>(hL b hb).sub hm) ?_
  cases hS with
  |lst v i a l hp hv h1'=>exact .lst _ _ a l hp ⟨h1,hv.2⟩ h1'
theorem EU{i:It}(h:EQ i=true):i=.lst (.ref 1) 0:=by
 cases i with
 |lst v k=>
  refine cT h λh1 h2=>cP h1 λr e1 e2=>?_
  cases gC e1
  cases cX e2
  cases (show k=0 from cX h2)
  rfl
 |_=>exact ft h
theorem Mg{n:Nat}:(m8 n).F=FT:=by unfold m8 cx;rfl
theorem HU{ps:Array Value}(F:Fc g)(K:gJ g (cx .nil false false xb))(hT:g.C.toks=toks false)(hR:∀hp:Heap,(∀a ob,g.R a ob->hp.get? a=some ob)->jk hp (g.w 2000) ps)(hi:da g (cz g) (VF ps.size uI) ps.toList)(hs:ps.size<64)
  (hd:g.dl≤960) (hu:g.ul≤9400):R1 g 173 m9:=λ{A c h s args vs} oa hh I hv hk=>by
 rw[hT] at hk
 refine Fq hk λh1 h2 h3 h4=>?_
 have m:Mu c m9.pre.length (mZ (mO args h.length m9.src) h.length):=I.len▸Mu.of (c:=c) (d:=0) (l:=[]) (λY=>trivial) (I.len▸h2)
 refine r4 (C:=m8 ps.size) (M:=none) (dl:=990) (ul:=9900) (n:=25) (ra:=[.wr 2000]) (rp:=[]) ⟨K.i,K.e,K.s,K.k⟩ (λa q=>nn q) (λY=>hh) (by have:=oa.dep';omega) (by have:=oa.un';omega) ⟨VA _,VA _⟩ oa I hv m h3 h4 rfl rfl λoa0 I0 hv0=>?_
 generalize hg:g.ins (m8 ps.size) none 990 9900 c m9.pre.length (mZ (mO args h.length m9.src) h.length) s.heap=g' at oa0 I0 hv0⊢
 generalize hc0:c.low m9.pre.length (mZ (mO args h.length m9.src) h.length)=c0 at oa0 I0 hv0⊢
 have F':Fc g':=hg▸mt F
 have hC:g'.C=m8 ps.size:=hg▸rfl
 have hM:g'.M0=none:=hg▸rfl
 have K':gJ g' (cx .nil false false xb):=hg▸fY K
 have W':WF g'.M0 g' (wP ps.size):=hg▸xc (PM hR hi (Nat.le_of_lt (Vt hs (by decide)))) λY Y h=>.inl h
 have Fp:io g'/\io g'.hush:=yZ (W:=wP ps.size) (q:=false) (x:=false) F' hC W' (hC▸⟨K'.i,K'.e,K'.s,K'.k⟩)
 have z:=EP F' hC
 have S:eP g' 20 (mB g'.C 20):=(jv Fp.1 Fp.2 20).self
 have hF:g'.C.F=FT:=by rw[hC];exact Mg
 have hMM:g'.M=g.M:=hg▸rfl
 have hfa:g'.fa=g.fa:=hg▸rfl
 rw[<-hMM,<-hfa]
 have hn0:c0.n=0:=hc0▸rfl
 have hN0:∀k,c0.N k->k<c0.n:=λk q=>I0.nlt k q
 have pr:=qM hs
 refine kZ z.F (n:=24) (Kf:=Jl) oa0 I0 hv0 (by rw[hF];exact AQ) λfi fr env ag ae aa hfi hns hks ac f hN hoa af hK=>iX hK λk1 k2 k3=>?_
 rw[hF] at hfi
 have hfi:fi=pI (gR 173) []:=Vl (hfi.symm.trans Me)
 subst hfi
 have hns:fr.ns=0:=hns
 cases Jm hns hks k1 k2
 obtain⟨am,ak⟩:=af.refit (l:=[jn false false]) (C:=cx .nil false false xb) ac hN0 (by rw[hn0];exact V6 _) (λa q=>nn (hM.symm.trans q)) K' k3
 have hc1:∀x i,eJ (iu).cells x=some i->i<1:=λx i q=>nn q
 have aL:FR g' (ag.sub 1 λk=>k) (A.deeper env) iu env:=f.sub (VL 0) hc1
 have hoa2:∀aA,dA (ag.sub 1 λk=>k) aA->dz g' aA 20 (A.deeper env):=λaA au=>(hoa aA (ak.trans au) (Vt (VL 0) au.n) (au.N 0 ⟨VL 0,hN⟩) (aL.loc.trans (au.ρ 0 (VL 0)).symm)).less (by decide)
 have hC2:∀{b:Bool},b=true->b=true:=id
 rw[ES]
 have r0:(mB g'.C 20).ex iu [d0 173 0] (dQ [jn false false]) (uO [jn true false]) mr=true:=hC▸pr.p0
 refine ip (a:=[d0 173 0]) (S.ex (hoa2 _ (.refl _)) aL am r0|>λq=>cO q (λY Y x=>x) λe aj x=>ms rfl x) (λaj q=>?_) (λv aj q=>?_) λaj=>⟨λq=>q,λq=>q⟩
 rotate_left
 .exact QV.elim q λa aC ax aD aF hv hK=>lv hK λq Y=>gf.noConfusion q
 obtain⟨aA,aw,au,az,hK3⟩:=q
 refine lv hK3 λY hf3=>?_
 refine e02 (az.refit (l:=[jn true false]) (C:=cx .nil false false xb) au am.nlt (VA 1) (λa q=>nn (hM.symm.trans q)) K' hf3) λaF aD=>?_
 have r1:nL g'.C (mB g'.C 20) iu gc.2.1 (dQ [jn true false]) (λi h=>gd (EQ i) (lp AP h (jS ps.size false))) mr=true:=hC▸pr.p1
 refine e03 (ld z.G (Fp.1 g'.R λY Y h=>h).W S (hoa2 _ aD) (aL.ext aD) aF r1) λhh' hst hw=>?_
 refine ij (Q':=λfl s'=>fl=.next/\∃b c',dA (ag.sub 1 λk=>k) c'/\cV g' c' (dQ (jS ps.size b)) s') (mf (cO hw (λx aR aG=>cO aG (λitv aX ⟨i,bP,aG,aS,aO,hit,hK⟩=>?_) λY Y x=>ms rfl x) λY Y x=>ms rfl x) hst) (λaR q=>?_) λfl aR h1 h2=>absurd h2.1 h1
 .refine cT hK λk4 k5=>?_
  cases EU k4
  refine e02 (aO.refit (l:=jS ps.size false) (C:=cx .nil false false xb) aS aF.nlt (VO 1) (λa q=>nn (hM.symm.trans q)) K' k5) λa9 aT=>?_
  have hle:2≤bP.n:=cT k5 λw Y=>Vo (eQ w) (Vu aO.len.symm)
  refine dC (ET (R:=λr s'=>r=.ok .next/\∃b c',dA (ag.sub 1 λk=>k) c'/\cV g' c' (dQ (jS ps.size b)) s') hs hC hM Fp K' (show(A.deeper env).handled=none from hh) ((aL.ext aD).ext aT) (λao e=>hoa2 ao (aD.trans (aT.trans e))) (λb c' s' e I=>⟨rfl,b,c',aD.trans (aT.trans e),I⟩) a9 rfl (HS hit hle (VA 2))) λr s' q=>?_
  refine e02 q λzq18 q=>?_
  cases zq18
  exact⟨rfl,q⟩
 .obtain⟨_,b,cN,bz,bc⟩:=q
  have r3:(mB g'.C 20).ex iu [d0 173 2] (dQ (jS ps.size b)) (kt (m4 AP 0 [] m9.outs)) mr=true:=hC▸pr.p3 b
  refine cO (S.ex (hoa2 _ bz) (aL.ext bz) bc r3) (λfl bx x=>?_) λe aj x=>ms rfl x
  cases fl with
  |next=>exact QU.elim x λao aq bR am hK=>⟨.none,ao,aq,ak.trans (bz.trans bR),am,iK,hK⟩
  |ret v=>exact QV.mono (ak.trans bz) x
  |brk=>exact x.elim
  |cont=>exact x.elim
end
noncomputable def AR:i5:=cx .nil false false xb
noncomputable def PN(d:Nat):O:=.list [uN,.int (.u (some 0) (some (30+d)))]
noncomputable def Uu(m:Nat)(d:Nat):dy:=⟨[.ref 0,.int (.c m)],[1],[PN d],[⟨none,[],.int (.u (some 0) (some (m - 1))),[(0,PN (VU d))]⟩]⟩
noncomputable def Mh:List dy:=Uu 2 29::(Wa 29).map (Uu 10)
noncomputable def t1(i _k:Nat):List dy:=db (Vn i 173) [m9] (db (Vn i 174) Mh [])
noncomputable def PO:i5:=cx .nil false false (pk AP t1)
theorem HV:(Mh.all λe=>Bool.rec false true (rY AR 20 174 e e.args e.pre))=true:=by kernel_rfl
theorem PP{e:dy}(h:e∈Mh):rY AR 20 174 e e.args e.pre=true:=by
 have q:=List.all_eq_true.mp HV e h
 cases w:rY AR 20 174 e e.args e.pre with
 |true=>rfl
 |false=>rw[w] at q;exact ft q
theorem Mi{i k:Nat}{e:dy}(he:e∈t1 i k):(i=173/\e=m9)\/(i=174/\e∈Mh):=by
 have he:e∈(db (Vn i 173) [m9] (db (Vn i 174) Mh []):List dy):=he
 cases q:Vn i 173 with
 |true=>
  rw[q] at he
  exact .inl ⟨cX q,List.mem_singleton.mp he⟩
 |false=>
  rw[q] at he
  have he:e∈(db (Vn i 174) Mh []:List dy):=he
  cases q2:Vn i 174 with
  |true=>rw[q2] at he;exact .inr ⟨cX q2,he⟩
  |false=>rw[q2] at he;exact absurd he Vv
section
variable{g:Gb}
theorem xe{M:Option Addr}:WF M g .nil:=λY Y e=>nn e
theorem Mj{e:dy}(F:Fc g)(K:gJ g AR)(hT:g.C.toks=toks false)(he:e∈Mh)(hd:g.dl≤960)(hu:g.ul≤9400):R1 g 174 e:=λ{A c h s args vs} oa hh I hv hk=>by
 rw[hT] at hk
 refine Fq hk λh1 h2 h3 h4=>?_
 have hl:(mO args h.length e.src).length=e.pre.length:=cX h1
 have m:Mu c e.pre.length (mZ (mO args h.length e.src) h.length):=hl▸I.len▸Mu.of (c:=c) (d:=0) (λY=>trivial) (I.len▸h2)
 have hC:(g.ins AR none 990 9900 c e.pre.length (mZ (mO args h.length e.src) h.length) s.heap).C=cx .nil false false xb:=rfl
 have Fp:=yZ (g:=g.ins AR none 990 9900 c e.pre.length (mZ (mO args h.length e.src) h.length) s.heap) (W:=.nil) (q:=false) (x:=false) (mt F) hC xe (fY (C':=AR) K)
 exact Ep (C:=AR) (M:=none) (dl:=990) (ul:=9900) (n:=20) Fp.1 Fp.2 K (λa q=>nn q) (λY=>hh) (by have:=oa.dep';omega) (by have:=oa.un';omega) ⟨VA _,VA _⟩ oa I hv m h3 h4 (PP he)
theorem PQ{ps:Array Value}(F:Fc g)(K:gJ g AR)(hC:g.C.P=pk g.C.toks t1)(hT:g.C.toks=toks false)(hR:∀hp:Heap,(∀a ob,g.R a ob->hp.get? a=some ob)->jk hp (g.w 2000) ps)(hi:da g (cz g) (VF ps.size uI) ps.toList)(hs:ps.size<64)
  (hd:g.dl≤960) (hu:g.ul≤9400):qd g:=by
 refine @yK g t1 hC ?_
 intro i k e he
 rcases Mi he with⟨rfl,rfl⟩|⟨rfl,he⟩
 .apply @HU g ps F K hT hR hi hs hd hu
 .apply @Mj g e F K hT he hd hu
end
noncomputable def wi(j:Nat):Nat:=db (Vn j 1000) 125 (db (Vn j 2000) 0 (WN j 2))
noncomputable def nb:Nat:=285
noncomputable def PS(v:V):Option Nat:=match v with
 |.wr k=>some k
 |_=>none
noncomputable def PT(x:V):Option (Nat×Nat):=dq (uq x) λp=>gO (!(Vn p.1 3)) (some p)
noncomputable def Ti(mb:Bool)(n:Nat):V->V->Bool:=Nat.rec (λY Y=>false) (λY ih x y=>
 dj (fJ PT x y) (dj (cR (fu x) λk=>dj (cR (PS y) λj=>gd (Vy 2 (wi j)) (Vn k (wi j))) (gd mb (cR (fu y) λj=>gd (Vn j 0) (Vn k nb))))
 (dj (cR (dF x) λa=>cR (dF y) λb=>fJ fx a b)
 (dj (cR (dk x) λl=>cR (dk y) λl'=>fw (fJ fx) l l') (cR (ej x) λl=>cR (ej y) λl'=>fw ih l l'))))) n
noncomputable def Uv(mb:Bool):List (Nat×V)->List (Nat×V)->Bool:=fw λp q=>gd (Vn p.1 q.1) (Ti mb 4 p.2 q.2)
noncomputable def Uw(mb:Bool)(x y:O):Bool:=dj (cR (oL x) λl=>cR (oL y) λl'=>fw (Ti mb 4) l l')
 (dj (cR (oI x) λp=>cR (oI y) λq=>gd (Vn p.1 q.1) (Uv mb p.2 q.2)) (cR (oD x) λl=>cR (oD y) λl'=>Uv mb l l'))
noncomputable def Tj(h:H)(mb:Bool)(j:Nat)(o:O):Bool:=gd (!(Vn (wi j) nb)) (gd (Vy 2 (wi j)) (cR (h.get (wi j)) λx=>Uw mb x o))
noncomputable def PU:Nat:=24143214
noncomputable def EV:Nat:=1612482505828
noncomputable def Mk:Nat:=403947921962099
noncomputable def EW:List AI:=VF 27 (.u (some 48) (some 57))++[.u (some 49) (some 50),.u (some 48) (some 57)]
noncomputable def U1:List (Nat×V):=[(lu,.wr 2000),(PU,.ref 1),(EV,.ref 125),(Mk,.bytes EW)]
noncomputable def PV:O:=.list [uN,.int (.u (some 0) (some 60))]
noncomputable def Tk(h:H):Bool:=gd (cR (h.get 0) λx=>cR (oN x) λm=>MS AP (λk=>k) m U1)
 (gd (cR (h.get 1) λx=>A0 AP (λk=>k) x PV) (gd (cR (h.get nb) λx=>A0 AP (λk=>k) x m5) (gd (j7 (Tj h false) MX) (j7 (Tj h true) WT))))
noncomputable def EY:gx:=pI (gR 184) []
noncomputable def EZ:Fr:=⟨EY.ks,0,[],false⟩
noncomputable def Jn:Bool:=(mB PO 88).ex EZ [d0 184 0,d0 184 1] (dQ [.ns [(lu,.wr 2000)]]) (λf h=>gd (EO f) (Tk h)) mr
theorem Ml:Bool.rec false true Jn=true:=by kernel_rfl
structure Tl(mb:Bool)(g g':Gb)(c c':Cf):Prop where
 fa:g'.fa=g.fa
 ca:g'.ca=g.ca
 pr:g'.pr=g.pr
 wd:g'.wd=g.wd
 w:∀j,2≤wi j->g'.w j=c.ρ (wi j)
 T:∀a vs,c.T a vs->c'.T a vs
 M:mb=true->0<c'.n/\c'.ρ 0=c.ρ nb
theorem HW{v:V}{k:Nat}(h:PS v=some k):v=.wr k:=by
 cases v with
 |wr j=>exact congrArg V.wr (Vl h)
 |_=>exact nn h
section
variable{mb:Bool}{g g':Gb}{c c':Cf}
theorem mu{α β:Type}[DecidableEq β]{w:α->Option β}{a b:α}{C:Prop}(h:fJ w a b=true)(f:∀x,w a=some x->w b=some x->C):C:=
 cP h λx e1 h=>cP h λy e2 h=>f x e1 (of_decide_eq_true h▸e2)
theorem xf(Z:Tl mb g g' c c'){n:Nat}:∀{x y:V} {v:Value},Ti mb n x y=true->VR g c x v->VR g' c' y v:=by
 induction n with
 |zero=>exact λh=>ft h
 |succ n ih=>
  exact λ{x y v} h hv=>MO h (λh=>mu h λp e1 e2=>cW e1 λp1 q1 e1=>cW e2 λp2 q2 e2=>dK e1 λw1 e1=>dK e2 λw2 e2=>by
   cases (Vl e1).trans (Vl e2).symm
   have hxy:x=y:=(ph x p1 q1).trans (ph y p1 q2).symm
   subst hxy
   cases x with
   |none=>exact hv
   |bool=>exact hv
   |str=>exact hv
   |fn=>exact Eq.trans hv (congrArg Value.ref (congrFun Z.fa _).symm)
   |cls=>exact Eq.trans hv (congrArg Value.ref (congrFun Z.ca _).symm)
   |bi=>exact hv
   |wr=>cases (Vl q1);exact ft w1
   |_=>exact nn q1) (λh=>cP h λk e1 h=>by
   cases gC e1
   refine e02 hv λh1 zq19=>?_;clear hv
   cases zq19
   exact eL h (λh=>cP h λj e2 h=>cT h λh0 h=>by
    cases HW e2
    exact congrArg Value.ref ((congrArg c.ρ (cX h)).trans (Z.w j (eQ h0)).symm)) λh=>cT h λhm h=>cP h λj e2 h=>cT h λh2 h3=>by
    cases gC e2
    cases cX h2
    cases cX h3
    exact⟨(Z.M hm).1,congrArg Value.ref (Z.M hm).2.symm⟩) (λh=>cP h λa e1 h=>cP h λb e2 h=>mu h λm w1 w2=>by
   cases eD e1;cases eD e2;cases ef _ _ w1;cases ef _ _ w2
   exact hv) (λh=>cP h λl e1 h=>cP h λl' e2 h9=>by
   cases d7 e1;cases d7 e2
   refine e22 hv λb t zq20 hb=>?_;clear hv
   cases zq20
   refine⟨b,t,rfl,?_⟩
   clear e1 e2
   exact dI (P:=λl l'=>∀bs,BR g.σ l bs->BR g'.σ l' bs) h9 (λY h=>h) (λx r y r' h ih bs hx=>mu h λm w1 w2=>by
    refine e23 hx λb t zq21 h1 h2=>?_;clear hx
    cases zq21
    cases ef _ _ w1;cases ef _ _ w2
    exact⟨b,t,rfl,h1,ih _ h2⟩) _ hb) (λh=>cP h λl e1 h=>cP h λl' e2 h9=>by
   cases eE e1;cases eE e2
   refine e23 hv λa vs zq22 h1 h2=>?_;clear hv
   cases zq22
   refine⟨a,vs,rfl,Z.T _ _ h1,?_⟩
   clear e1 e2 h1
   exact dI (P:=λl l'=>∀vs,da g c l vs->da g' c' l' vs) h9 (λY h=>h) (λx r y r' h ih2 vs hx=>by
    refine e23 hx λv t zq23 h1 h2=>?_;clear hx
    cases zq23
    exact da.cons (ih h h1) (ih2 _ h2)) _ h2)
theorem Mm(Z:Tl mb g g' c c'){x y:O}{a d:Addr}{hp:Heap}(h:Uw mb x y=true)(w:OR g c x a d hp):OR g' c' y a d hp:=
 Cr h (λh=>cP h λl e1 h=>cP h λl' e2 h9=>by
  cases gE e1;cases gE e2
  refine e13 w λvs h1 h2 h3=>?_;clear w
  refine⟨vs,h1,?_,Vo (Vu (fV h9)) h3⟩
  clear e1 e2 h1 h3
  exact dI (P:=λl l'=>∀vs,da g c l vs->da g' c' l' vs) h9 (λY h=>h) (λx r y r' h ih2 vs hx=>by
   refine e23 hx λv t zq24 h1 h2=>?_;clear hx
   cases zq24
   exact da.cons (xf Z h h1) (ih2 _ h2)) _ h2) (λh=>cP h λp e1 h=>cP h λq e2 h=>cT h λh1 h2=>by
  cases kM e1;cases kM e2
  refine e25 w λmm ns w1 w2 w3 w4 w5=>?_;clear w
  refine⟨mm,ns,by rw[Z.ca,<-cX h1];exact w1,w2,λz hz=>?_,w4,Vo w5 (Vu (fV h2).symm)⟩
  have q1:=uu h2 (cd z)
  have q2:=w3 z hz
  cases e:eJ q.2 (cd z) with
  |none=>rw[q1.1 e] at q2;exact q2
  |some b=>
   refine e12 (q1.2 b e) λa z1 z2=>?_
   rw[z1] at q2
   refine e12 q2 λv y1 y2=>?_;clear q2
   exact⟨v,y1,xf Z z2 y2⟩) (λh=>cP h λl e1 h=>cP h λl' e2 h9=>by
  cases s4 e1;cases s4 e2
  refine e14 w λkvs w1 w2 w3 w4=>?_;clear w
  refine⟨kvs,by rw[Z.pr,Z.wd];exact w1,w2,?_,Vo (Vu (fV h9)) w4⟩
  clear e1 e2 w1 w4
  exact dI (P:=λl l'=>∀es,PR g c l es->PR g' c' l' es) h9 (λY h=>h) (λx r y r' h ih es hx=>cT h λh1 h2=>by
   obtain⟨i,a⟩:=x
   obtain⟨j,b⟩:=y
   cases (show i=j from cX h1)
   obtain⟨s,v,t,q1,q2,q3,q4,q5,q6⟩:=hx
   exact⟨s,v,t,q1,q2,q3,q4,xf Z h2 q5,ih _ q6⟩) _ w3)
end
noncomputable def E0(l:List V):Bool:=du (dq (gw l) λv=>dq (dF v) fx) true λY=>false
theorem Jo:j7 (λY l=>gd (dG l pt) (E0 l)) TT=true:=by kernel_rfl
theorem PW(x:Bool):(gd (dG (mq x 11) pt) (gd (dG (mq x 12) pt) (dG (mq x 1000027) pt)))=true:=by cases x<;>kernel_rfl
theorem E1{x:Bool}{k:Nat}{a:V}(h:a∈mq x k):pt a=true:=by
 refine iX (PW x) λt1 t2 t3=>?_
 by_cases e1:k=11
 .subst e1;exact c9 t1 h
 by_cases e2:k=12
 .subst e2;exact c9 t2 h
 by_cases e3:k=1000027
 .subst e3;exact c9 t3 h
 unfold mq at h
 rw[dg e1,dg e2,dg e3] at h
 exact absurd h Vv
theorem pA(x:Bool)(k:Nat)(a:V)(h:a∈toks x k):pt a=true:=by
 unfold toks at h
 cases e:TT.get k with
 |none=>rw[e] at h;exact E1 h
 |some l=>
  rw[e] at h
  exact cT (ei Jo e) λh1 Y=>c9 h1 h
theorem E2{x:Bool}{j:Nat}{m:Int}(h:dq (gw (toks x j)) (λv=>dq (dF v) fx)=some m):j=1000027/\m=db x 50 49:=by
 unfold toks at h
 cases e:TT.get j with
 |some l=>
  rw[e] at h
  refine cT (ei Jo e) λY h2=>?_
  unfold E0 at h2
  rw[show dq (gw l) (λv=>dq (dF v) fx)=some m from h] at h2
  exact ft h2
 |none=>
  rw[e] at h
  have h:dq (gw (mq x j)) (λv=>dq (dF v) fx)=some m:=h
  unfold mq at h
  cases q1:Vn j 11 with
  |true=>rw[q1] at h;exact nn h
  |false=>
   cases q2:Vn j 12 with
   |true=>rw[q1,q2] at h;exact nn h
   |false=>
    cases q3:Vn j 1000027 with
    |true=>rw[q1,q2,q3] at h;exact⟨cX q3,(Vl h).symm⟩
    |false=>rw[q1,q2,q3] at h;exact nn h
theorem y6{x:Bool}{σ:Nat->Int}(h:σ 27=db x 50 49):Kn (toks x) σ:=λk n q=>cP q λm q1 q2=>by
 refine e02 (E2 q1) λh1 h2=>?_
 have h3:k=27:=by omega
 rw[h3,h,<-h2]
 exact of_decide_eq_true q2
noncomputable def PX(a:AI):Bool:=dj (cR (nF a) λp=>!(Vn p.1 999)) (gd (nF a).isNone (Bg a).isNone)
noncomputable def v9(n:Nat):V->Bool:=Nat.rec (λY=>false) (λY ih a=>du (dF a) (du (dk a) (du (ej a) true λl=>dG l ih) λl=>dG l PX) PX) n
noncomputable def Gb.sg(g:Gb)(σ:Nat->Int):Gb:={g with σ:=σ}
theorem PY{σ σ':Nat->Int}(hs:∀k,k≠999->σ' k=σ k){a:AI}{n:Int}(h:PX a=true)(x:dO σ a n):dO σ' a n:=by
 cases a with
 |s k lo hi=>exact eL h (λh=>⟨x.1.trans (hs k (en (dP h))).symm,x.2⟩) λh=>ft h
 |pb d=>exact ft h
 |_=>exact x
theorem Ux{σ σ':Nat->Int}(hs:∀k,k≠999->σ' k=σ k){l:List AI}:∀{bs:List UInt8},dG l PX=true->BR σ l bs->BR σ' l bs:=by
 induction l with
 |nil=>exact λY x=>x
 |cons a l ih=>exact λh x=>cT h λh1 h2=>let⟨b,t,e,x1,x2⟩:=x;⟨b,t,e,PY hs h1 x1,ih h2 x2⟩
theorem pB{g:Gb}{σ':Nat->Int}{c:Cf}(hs:∀k,k≠999->σ' k=g.σ k){n:Nat}:∀{a:V} {v:Value},v9 n a=true->VR g c a v->VR (g.sg σ') c a v:=by
 induction n with
 |zero=>exact λh=>ft h
 |succ n ih=>
  intro a v h x
  cases a with
  |int a=>obtain⟨m,t,e,x⟩:=x;exact⟨m,t,e,PY hs h x⟩
  |bytes l=>obtain⟨b,t,e,x⟩:=x;exact⟨b,t,e,Ux hs h x⟩
  |tup l=>
   refine e23 x λa vs e x1 x2=>?_;clear x
   refine⟨a,vs,e,x1,?_⟩
   clear e x1
   revert vs
   have h0:dG l (v9 n)=true:=h
   clear h
   intro vs x2
   have h:=h0
   clear h0
   induction l generalizing vs with
   |nil=>exact x2
   |cons y l ih2=>
    refine e23 x2 λw ws e y1 y2=>?_;clear x2
    exact cT h λh1 h2=>⟨w,ws,e,ih h1 y1,ih2 ws y2 h2⟩
  |_=>exact x
theorem Tm:j7 (λY l=>dG l (v9 8)) TT=true:=by kernel_rfl
theorem Tn(x:Bool):(gd (dG (mq x 11) (v9 8)) (gd (dG (mq x 12) (v9 8)) (dG (mq x 1000027) (v9 8))))=true:=by cases x<;>kernel_rfl
theorem sv(x:Bool)(k:Nat)(a:V)(h:a∈toks x k):v9 8 a=true:=by
 unfold toks at h
 cases e:TT.get k with
 |some l=>
  rw[e] at h
  have q:=ei Tm e
  exact c9 q h
 |none=>
  rw[e] at h
  have h:a∈mq x k:=h
  refine iX (Tn x) λt1 t2 t3=>?_
  by_cases e1:k=11
  .subst e1;exact c9 t1 h
  by_cases e2:k=12
  .subst e2;exact c9 t2 h
  by_cases e3:k=1000027
  .subst e3;exact c9 t3 h
  unfold mq at h
  rw[dg e1,dg e2,dg e3] at h
  exact absurd h Vv
noncomputable def AS(σ:Nat->Int)(k:Nat):Int:=db (Vn k 999) 0 (σ k)
theorem ny{σ:Nat->Int}{k:Nat}(h:k≠999):AS σ k=σ k:=by
 unfold AS
 rw[dg h]
 rfl
noncomputable def Gb.wt(g:Gb)(x:Bool):Gb:=g.tk (sf (g.sg (AS g.σ)) (toks x) (pA x))
theorem HX{g:Gb}{x:Bool}{C:i5}(hC:C.toks=toks x)(h:g.σ 27=db x 50 49):gJ (g.wt x) C:=by
 refine⟨λ{c' k a v} h1 h2=>?_,λ{c' k v} h=>?_,λ{f n k a} h=>?_,?_⟩
 .rw[hC] at h1
  exact Ji h1 (pB (g:=g.wt x) (σ':=AS g.σ) (λk hk=>ny hk) (sv x k a h1) h2)
 .rw[hC]
  refine e12 (EE h) λa h1 h2=>?_
  exact⟨a,h1,pB (σ':=g.σ) (λk hk=>(ny hk).symm) (sv x k a h1) h2⟩
 .rw[hC] at h
  exact uJ (pA x k a h)
 .rw[hC]
  exact y6 h
noncomputable def pC(h:Heap)(p:Addr):Heap:=h.update p λo=>{o with data:=.freed}
theorem qN{h:Heap}{p:Addr}:(pC h p).get? p=none:=by
 unfold pC Heap.update Heap.get?
 obtain⟨objs,l⟩:=h
 show(match(objs.modify p λo=>{o with data:=.freed})[p]? with
  |some ⟨_,_,.freed,_⟩=>none
  |o=>o)=none
 rw[Array.getElem?_modify,if_pos rfl]
 cases objs[p]? with
 |none=>rfl
 |some o=>rfl
theorem lz{h:Heap}{p a:Addr}(n:a≠p):(pC h p).get? a=h.get? a:=Wj _ _ (Ne.symm n)
noncomputable def Mn:Gj:=⟨λY Y Y=>False,λh=>h.elim,λY h=>h⟩
noncomputable def U2(w:World)(s:Shared)(sc:Addr):Gb where
 C:=PO
 σ:=λk=>db (Vn k 27) 49 0
 w:=λY=>sc
 fa:=sR
 ca:=sR
 B:=pC s.heap 1110
 R:=λa o=>a=sc/\s.heap.get? a=some o
 S:=λY Y=>False
 M0:=none
 lc:=1114
 P:=1110
 lq:=vv
 dl:=960
 ul:=9400
 s0:=s
 T0:=λa vs=>s.heap.IsTuple a vs.toArray
 wd:=w
 pr:=PG
 TK:=Mn.1
 tkh:=λ{_ _ _} h=>Mn.2.1 h
 tkx:=λ{_ _ _ _} e h=>Mn.2.2 e h
noncomputable def gA(w:World)(s:Shared)(sc:Addr):Gb:=(U2 w s sc).wt false
theorem To:(3000,[MM])∈sS:=List.mem_of_getElem? (i:=130) (by kernel_rfl)
structure sF(w:World)(s₀ s:Shared)(sc:Addr)(ps:Array Value):Prop where
 t:FZ s₀.heap sR 1114 1110=true
 o:SD s₀.heap.get? sR 1114 vv=SE
 p:s₀.heap.get? 1110=some (tabObj #[])
 m:∃x,s₀.heap.get? sysModules=some x
 k:∀b o,s₀.heap.get? b=some o->s.heap.get? b=some o
 l:jk s.heap sc ps
 i:∀v,v∈ps.toList->∃n t,v=.int n t
 n:ps.size<64
section
variable{W:BT O}{q x:Bool}{P:Nat->List V->H->Option (List dW)}
theorem Tp:(cx W q x P).G=GT:=by unfold cx;rfl
theorem Tr:(cx W q x P).F=FT:=by unfold cx;rfl
theorem Ts:(cx W q x P).C=CT:=by unfold cx;rfl
theorem Tt:(cx W q x P).words=nO:=by unfold cx;rfl
end
section
variable{w:World}{s₀ s:Shared}{sc:Addr}{ps:Array Value}
theorem sF.ba(b:sF w s₀ s sc ps){g:Gb}(hB:g.B=pC s.heap 1110)(hP:g.P=1110)(hT:∀a vs,s.heap.IsTuple a vs.toArray->g.T0 a vs)(hf:g.fa=sR)(hc:g.ca=sR):Ba g s₀.heap sR:=
 ⟨λa o h n=>by rw[hB,lz (hP▸n)];exact b.k a o h,by rw[hP];exact b.p,λt o n vs h1 h2 h3=>hT t _ ⟨o,b.k t o h1,h2,n,by rw[h3,W8]⟩,λi=>congrFun hf i,λi=>congrFun hc i⟩
theorem sF.fc(b:sF w s₀ s sc ps){g:Gb}(hB:g.B=pC s.heap 1110)(hP:g.P=1110)(hT:∀a vs,s.heap.IsTuple a vs.toArray->g.T0 a vs)(hf:g.fa=sR)(hc:g.ca=sR)(hl:g.lc=1114)(hq:g.lq=vv):Fc g:=λW q x P R S M s0 T0 dl ul h=>by
 have ba:Ba (g.alt (cx W q x P) R S M s0 T0 dl ul) s₀.heap sR:=b.ba hB hP (λa vs q=>h a vs (hT a vs q)) hf hc
 generalize hg':g.alt (cx W q x P) R S M s0 T0 dl ul=g' at ba⊢
 have e1:g'.lc=1114:=hg'▸hl
 have e2:g'.P=1110:=hg'▸hP
 have e3:g'.C=cx W q x P:=hg'▸rfl
 exact Fz.of ba (by rw[e3,Tp]) (by rw[e3,Tr]) (by rw[e3,Ts]) (by rw[e3,Tt]) (hg'▸hq) (by rw[e2];decide) (by rw[e1,e2];exact b.t) (by rw[e1];exact b.o) To
theorem sF.inv(b:sF w s₀ s sc ps)(hsc:sc≠1110):cV (gA w s sc) (cz (gA w s sc)) H.nil s:=by
 have hg:∀a o,(gA w s sc).R a o->a=sc/\s.heap.get? a=some o:=λa o h=>h
 have hp:=b.k _ _ b.p
 refine⟨rfl,λk o e=>nn e,λk hk=>absurd hk (VE k),λa vs h=>h,λa o h=>h.elim,λa o h=>h.2,λa o h=>h.elim,λa o h=>?_,λj k hj=>absurd hj (VE j),λk hk=>absurd hk (VE k),λa o h=>h.elim,⟨rfl,rfl,rfl⟩,λa vs h=>h,λa h=>nn h,λk h=>h.elim,?_,?_,?_,?_⟩
 .by_cases q:a=1110
  .rw[q] at h
   exact nn (qN.symm.trans h)
  .exact(lz q).symm.trans h
 .exact⟨#[],hp,trivial,λpos cv q=>nn q⟩
 .refine⟨λo q=>hsc q.1.symm,qN,λvs q=>?_,λo q=>q.elim⟩
  refine e13 q λo h1 h2 Y=>?_;clear q
  have h1:s.heap.get? 1110=some o:=h1
  rw[show s.heap.get? 1110=_ from hp] at h1
  cases Vl h1
  have h2:Value.none=Value.type "tuple":=h2
  exact absurd h2 (by decide)
 .refine e11 b.m λx hx=>?_
  refine⟨x,(lz (show sysModules≠1110 by decide)).trans (b.k _ _ hx)⟩
 .refine⟨λa vs o q r=>?_,λa ob o q=>q.elim⟩
  refine e13 q λo' h1 h2 Y=>?_;clear q
  refine e11 b.l λn h3=>?_
  rw[r.1,h3] at h1
  cases Vl h1
  have h2:Value.type "list"=Value.type "tuple":=h2
  exact absurd h2 (by decide)
end
noncomputable def FE(j:Nat):Nat:=db (Vn j 0) nb (db (Vn j 1) 1 0)
noncomputable def HY(bs:List UInt8)(pv:Int)(k:Nat):Int:=db (Vn k 999) pv (du (bs[k]?) 0 λb=>(b.toNat:Int))
noncomputable def U3(g:Gb)(c:Cf)(s:Shared)(x:Bool)(bs:List UInt8)(pv:Int):Gb:=
 {g with
  C:=cm true x 9
  σ:=HY bs pv
  w:=λj=>db (Vn j 2000) (g.w 2000) (c.ρ (wi j))
  R:=λa o=>g.R a o\/(s.heap.get? a=some o/\∃k,k<c.n/\(∀j,j<3->FE j≠k)/\(a=c.ρ k\/a=c.δ k))
  M0:=some (c.ρ nb)
  T0:=c.T
  dl:=495
  ul:=1396}
noncomputable def gF(g:Gb)(c:Cf)(s:Shared)(x:Bool)(bs:List UInt8)(pv:Int):Gb:=(U3 g c s x bs pv).wt x
noncomputable def Uy:List (Nat×V):=[(lu,.wr 2000),(PU,.ref 1),(EV,.wr 1000),(Mk,.bytes HK)]
noncomputable def j0:List O:=[m5,dE 0,.ns Uy]
noncomputable def Jp(l:List AI):Nat->List AI:=List.rec (λY=>[]) (λa Y ih i=>AI.s i ((a.lo).getD 0) ((a.hi).getD 0)::ih (VU i)) l
theorem HZ:HK=Jp EW 0:=by kernel_rfl
section
variable{g g':Gb}{c c':Cf}{h:H}{s:Shared}{σ σ':Nat->Int}
theorem Mo{l:List AI}:∀{bs:List UInt8} {i:Nat},(∀a,a∈l->∃lo hi,a=.u (some lo) (some hi))->BR σ l bs->(∀j b,bs[j]? =some b->σ' (i+j)=(b.toNat:Int))->BR σ' (Jp l i) bs:=by
 induction l with
 |nil=>exact λY h Y=>h
 |cons a l ih=>
  intro bs i hu h hs
  refine e23 h λb t zq25 h1 h2=>?_;clear h
  cases zq25
  refine e21 (hu a Vq) λlo hi zq26=>?_
  cases zq26
  refine⟨b,t,rfl,⟨(hs 0 b rfl).symm,h1.1 _ rfl,h1.2 _ rfl⟩,ih (λa ha=>hu a (Vr _ ha)) h2 λj b' e=>?_⟩
  have:=hs (j+1) b' e
  rw[show i+(j+1)=VU i+j by omega] at this
  exact this
theorem Mp{l:List AI}:∀{bs:List UInt8},(∀a,a∈l->∃lo hi,a=.u lo hi)->BR σ l bs->BR σ' l bs:=by
 induction l with
 |nil=>exact λY h=>h
 |cons a l ih=>
  intro bs hu h
  refine e23 h λb t zq27 h1 h2=>?_;clear h
  cases zq27
  refine e21 (hu a Vq) λlo hi zq28=>?_
  cases zq28
  refine⟨b,t,rfl,h1,?_⟩
  exact ih (bs:=t) (λa ha=>hu a (Vr _ ha)) h2
theorem PZ{l:List AI}:∀{bs:List UInt8} {i:Nat} {a:AI},BR σ l bs->l[i]? =some a->∃b,bs[i]? =some b/\dO σ a (b.toNat:Int):=by
 induction l with
 |nil=>exact λY e=>nn e
 |cons x l ih=>
  intro bs i a h e
  refine e23 h λb t zq29 h1 h2=>?_;clear h
  cases zq29
  cases i with
  |zero=>exact⟨b,rfl,Vl (show some x=some a from e)▸h1⟩
  |succ i=>exact ih (bs:=t) (i:=i) h2 e
theorem NR.alter{x:List (Nat×V)}:∀{y:List (Nat×V)} {mm:Str->Option Value},NR g c x mm->x.map (·.1)=y.map (·.1)->(∀p,p∈x.zip y->∀z v,cd z=p.1.1->mm z=some v->VR g c p.1.2 v->VR g' c' p.2.2 v)->NR g' c' y mm:=λ{y mm} hn hk hv z hz=>by
 have q:=hn z hz
 clear hn
 induction x generalizing y with
 |nil=>
  cases y with
  |nil=>exact q
  |cons p y=>exact absurd hk.symm (V8 _ _)
 |cons p x ih=>
  cases y with
  |nil=>exact absurd hk (V8 _ _)
  |cons r y=>
   refine e02 (Wd hk) λhk1 hk2=>?_
   obtain⟨k,a⟩:=p
   obtain⟨k',b⟩:=r
   cases (show k=k' from hk1)
   rw[dZ] at q⊢
   cases e:Vn k (cd z) with
   |true=>
    rw[e] at q
    refine e12 q λv v1 v2=>?_;clear q
    exact⟨v,v1,hv _ Vq z v (cX e).symm v1 v2⟩
   |false=>
    rw[e] at q
    exact ih hk2 (λp hp=>hv p (Vr _ hp)) q
theorem Mq{a x:AI}{n:Nat}:a∈cp x n->a=x:=by
 induction n with
 |zero=>exact λh=>absurd h Vv
 |succ n ih=>exact λh=>(List.mem_cons.mp h).elim id ih
theorem Mr:dG EW (λa=>cR (RL a) λp=>gd p.1.isSome p.2.isSome)=true:=by kernel_rfl
structure E3(g:Gb)(c:Cf)(s:Shared)(x:Bool)(bs:List UInt8)(pv:Int):Prop where
 i:cV (gF g c s x bs pv) (c.sub 3 FE) (dQ j0) s
 w:WF (gF g c s x bs pv).M0 (gF g c s x bs pv) WT
 d:WF none (gF g c s x bs pv) MX
 σ:(gF g c s x bs pv).σ 27=db x 50 49
 pv:pv≤60
theorem sw:cd (Vm "octets")=Mk:=by decide+kernel
theorem E4{x:Bool}{bs:List UInt8}{pv:Int}{mb:Bool}{W:BT O}{M:Option Addr}(I:cV g c h s)(hz:j7 (Tj h mb) W=true)(hM:mb=true->M=some (c.ρ nb)):WF M (gF g c s x bs pv) W:=λj o e=>by
 refine ri λY bk=>iX (ei hz e) λt1 t2 t=>cP t λy e1 t3=>bk ?_
 refine e02 (I.obj _ y e1) λhlt ho=>?_
 have hne:∀k,k<3->FE k≠wi j:=λk hk q=>by
  match k,hk with
  |0,_=>exact en (dP t1) q.symm
  |1,_=>exact absurd (eQ t2) (by rw[<-q];decide)
  |2,_=>exact absurd (eQ t2) (by rw[<-q];decide)
 refine⟨c.δ (wi j),λhp c2 h1 h2 h3=>?_⟩
 have Z:Tl mb g (gF g c s x bs pv) c c2:=⟨rfl,rfl,rfl,rfl,λj h=>by
  refine(?_:db (Vn j 2000) _ _=_)
  cases q:Vn j 2000 with
  |false=>rfl
  |true=>
   rw[cX q] at h
   exact absurd h (by decide),h2,λq=>h3 _ (hM q)⟩
 rw[Z.w j (eQ t2)]
 exact Mm Z t3 (ho.at (λob q=>h1 _ ob (.inr ⟨q,wi j,hlt,hne,.inl rfl⟩)) λob q=>h1 _ ob (.inr ⟨q,wi j,hlt,hne,.inr rfl⟩))
theorem Ms(I:cV g c h s)(hz:Tk h=true)(K:gJ g AR):∃x bs pv,E3 g c s x bs pv:=by
 unfold Tk at hz
 refine ri λY bk=>Gd hz λz0 z1 z2 z3 z4=>cP z0 λx0 e0 z0=>cP z0 λm0 em z0=>cP z1 λx1 e1 z1=>cP z2 λx2 e2 z2=>bk ?_
 have R:uR g c c AR.toks (λk=>k) (λk=>k):=K.ren (λY Y q=>q) λk hk=>⟨hk,rfl⟩
 cases mD em
 obtain⟨k0,mm,n1,n2⟩:=I.obj 0 _ e0
 have n2:=Ht R z0 n2
 rw[EI] at n2
 have hoct:=n2 (Vm "octets") (by rw[sw];decide)
 rw[sw] at hoct
 obtain⟨vo,mo,b,t,rfl,hb⟩:=(show∃v,mm (Vm "octets")=some v/\VR g c (.bytes EW) v from hoct)
 refine e02 (I.obj 1 _ e1) λk1 o1=>?_
 refine e13 (jx R z1 o1) λvs l1 l2 l3=>?_
 refine sU l2 λv1 v2 ev hA hB=>?_
 refine e22 ((show VR g c uN v1 from hA)) λp1 t1 zq30 h1=>?_
 cases zq30
 refine e22 ((show VR g c (.int (.u (some 0) (some 60))) v2 from hB)) λpv t2 zq31 h2=>?_
 cases zq31
 refine e02 (I.obj nb _ e2) λk2 o2=>?_
 refine e25 (jx R z2 o2) λob mbs w1 w2 w3 w4 w5=>?_
 refine e12 (PZ hb (show EW[27]? =some (.u (some 49) (some 50)) from rfl)) λb27 hb27 hr27=>?_
 have lo:=hr27.1 _ rfl
 have hi:=hr27.2 _ rfl
 refine⟨decide (b27.toNat=50),b.toList,pv,?_,E4 I z4 λY=>rfl,E4 I z3 λq=>ft q,?_,h2.2 _ rfl⟩
 rotate_left
 .refine(?_:HY b.toList pv 27=_)
  refine(?_:du (b.toList[27]?) 0 (λb=>(b.toNat:Int))=_)
  rw[hb27]
  refine(?_:(b27.toNat:Int)=_)
  by_cases q:b27.toNat=50
  .rw[decide_eq_true q,q];rfl
  .rw[decide_eq_false q];show(b27.toNat:Int)=49;omega
 generalize decide (b27.toNat=50)=x
 refine I.redo (g':=gF g c s x b.toList pv) ⟨rfl,rfl,rfl,rfl,rfl,λY Y q=>q,λY Y q=>q,λa q=>⟨by decide,Vl q⟩⟩ (λj hj=>?_) (λi j hi hj hn=>?_) jB (λj o q=>?_) λj hj q=>?_
 .match j,hj with
  |0,_=>exact k2
  |1,_=>exact k1
  |2,_=>exact k0
 .match i,j,hi,hj with
  |0,0,_,_=>exact absurd rfl hn
  |0,1,_,_=>exact(by decide:nb≠1)
  |0,2,_,_=>exact(by decide:nb≠0)
  |1,0,_,_=>exact(by decide:1≠nb)
  |1,1,_,_=>exact absurd rfl hn
  |1,2,_,_=>exact(by decide:1≠0)
  |2,0,_,_=>exact(by decide:0≠nb)
  |2,1,_,_=>exact(by decide:0≠1)
  |2,2,_,_=>exact absurd rfl hn
 .rw[fW] at q
  match j,q with
  |0,q=>
   cases Vl q
   exact⟨by decide,ob,mbs,w1,w2,w3,Mp (λa ha=>⟨_,_,Mq ha⟩) w4,w5⟩
  |1,q=>
   cases Vl q
   refine⟨by decide,vs,l1,?_,by decide⟩
   rw[ev]
   exact da.cons ⟨p1,t1,rfl,h1⟩ (da.cons ⟨pv,t2,rfl,h2.1 _ rfl,by show pv≤pv+0;omega,by have:=h2.2 _ rfl;show pv≤1000000;omega⟩ da.nil)
  |2,q=>
   cases Vl q
   refine⟨by decide,mm,n1,n2.alter rfl λp hp z v hz mz hv=>?_⟩
   refine(List.mem_cons.mp hp).elim (λe=>?_) λhp=>(List.mem_cons.mp hp).elim (λe=>?_) λhp=>(List.mem_cons.mp hp).elim (λe=>?_) λhp=>(List.mem_cons.mp hp).elim (λe=>?_) λhp=>absurd hp Vv
   .rw[e] at hv⊢;exact hv
   .rw[e] at hv⊢;exact⟨(by decide:1<3),hv.2⟩
   .rw[e] at hv⊢;exact hv.2
   .rw[e] at hv hz⊢
    have hz:cd z=cd (Vm "octets"):=hz.trans sw.symm
    rw[et (by rw[hz,sw];decide) hz,mo] at mz
    cases Vl mz
    refine⟨b,t,rfl,?_⟩
    refine(?_:BR _ HK b.toList)
    rw[HZ]
    refine Mo (λa ha=>?_) hb λj b' e'=>?_
    .have w:=c9 Mr ha
     refine ri λY bk=>cP w λq e1 w=>cT w λw1 w2=>bk ?_
     refine e11 (Option.isSome_iff_exists.mp w1) λlo h1=>?_
     refine e11 (Option.isSome_iff_exists.mp w2) λhi h2=>?_
     exact⟨lo,hi,by rw[vZ _ _ e1,h1,h2]⟩
    .have hj:j<29:=WY λw=>nn ((Wl (Vo (Vu hb.len) w)).symm.trans e')
     refine(?_:HY b.toList pv (0+j)=_)
     unfold HY
     rw[VQ,dg (show j≠999 by omega),e']
     rfl
 .match j,hj with
  |0,_=>
   refine e12 (I.ns _ q) λo q1 q2=>?_
   cases Vl (q1.symm.trans e2)
   exact ft ((rW z2).symm.trans q2)
  |1,_=>
   refine e12 (I.ns _ q) λo q1 q2=>?_
   cases Vl (q1.symm.trans e1)
   exact ft ((rW z1).symm.trans q2)
  |2,_=>exact⟨_,fW,rfl⟩
end
noncomputable def fg:Fr:=⟨EY.ks,2,[],false⟩
noncomputable def P0:Nat:=6247774324
noncomputable def Tv:Nat:=402925602104690
noncomputable def Tw:Nat:=102568442366095987
noncomputable def Mt:Nat:=1539367400308
noncomputable def E5:Nat:=105678913517413742
noncomputable def sA:Nat:=408397525705573
noncomputable def E6:Nat:=6030319980
noncomputable def E7:Nat:=6231715700
noncomputable def E8:Nat:=101739320136658533
noncomputable def Tx:List (Nat×V):=Uy++[(P0,rf fS [] [] .none),(Tv,rf gp [] [] .none),(Tw,rf f8 [] [] .none),(Mt,rf ja [] [n1] .none),(E5,.ref 15)]
noncomputable def U4:List (Nat×V):=Tx++[(sA,rf df q2 [] .none),(E6,rf fS [] [] .none),(E7,.tup [.int (.c 3),.int (.c 4)]),(E8,.bool true)]
noncomputable def qO:List O:=[.nsU,.nsU,.nsU,.nsU,.nsU,.dead,.dead,.dead,.nsU,.nsU,.nsU,.dead,.dead]
noncomputable def j1:List O:=[m5,dE 0,.ns U4]++qO
noncomputable def Jq(x:Bool):Bool:=(mB (cm true x 9) 50).ex fg ((Wa 5).map λi=>d0 184 (2+i)) (dQ j0) (λf h=>gd (EO f) (lp (toks x) h j1)) mr
theorem Mv:∀x,Bool.rec false true (Jq x)=true:=λx=>by cases x<;>kernel_rfl
noncomputable def Jr:Nat:=6248821358
noncomputable def dN:Expr×Expr×List Stmt×Pos:=uM (d0 184 7)
noncomputable def P3(b:Bool):List (Nat×V):=db b [(E6,.tok 81),(E7,.tok 82)] [(E6,rf fS [] [] .none),(E7,.tup [.int (.c 3),.int (.c 4)])]
noncomputable def pG(b:Bool):List (Nat×V):=Tx++(sA,db b (.tok 83) (rf df q2 [] .none))::(P3 b++(E8,.bool true)::db b [(Jr,.int (.u (some 0) (some 5)))] [])
noncomputable def xi(b:Bool):List (Nat×V):=Tx++(sA,.tok 83)::(P3 b++[(E8,.bool true),(Jr,.int (.u (some 0) (some 5)))])
noncomputable def jT(b:Bool)(d:Nat):List O:=[m5,dE d,.ns (pG b)]++qO
noncomputable def jM(b:Bool)(d:Nat):List O:=[m5,dE d,.ns (xi b)]++qO
noncomputable def E9(x:Bool)(l:List O):gf->H->Bool:=λf h=>gd (EO f) (lp (toks x) h l)
noncomputable def MZ(x:Bool):Ev:=mB (cm true x 9) 60
noncomputable def tA(x b:Bool):Bool:=(MZ x).asg fg dN.1 (.int (.u (some 0) (some 5))) (dQ (jT b 0)) (λh=>(MZ x).ex fg (dN.2.2.1.take 1) h (E9 x (jM b 20)) mr) mr
noncomputable def tB(x b:Bool):Bool:=(MZ x).ex fg (dN.2.2.1.drop 1) (dQ (jM b 0)) (E9 x (jT true 20)) mr
noncomputable def Mw(a:V):Bool:=cR (dF a) λi=>cR (fx i) λn=>gd (decide (0≤n)) (decide (n≤5))
noncomputable def Ty(i:It):Bool:=match i with
 |.vals l=>gd (Vn l.length 6) (dG l Mw)
 |_=>false
noncomputable def tI(x:Bool):Bool:=nL (cm true x 9) (MZ x) fg dN.2.1 (dQ (jT false 0)) (λi h=>gd (lp (toks x) h (jT false 0)) (Ty i)) mr
noncomputable def tR(x b:Bool):Bool:=(MZ x).ex fg [d0 184 8] (dQ (jT b 0)) (kt λv Y=>cR (iv v) λc=>c) mr
theorem Mx:∀x b,Bool.rec false true (gd (tA x b) (gd (tI x) (tR x b)))=true:=λx b=>by cases x<;>cases b<;>kernel_rfl
theorem P4:Bool.rec false true (tB false false)=true:=by kernel_rfl
theorem P5:Bool.rec false true (tB false true)=true:=by kernel_rfl
theorem P6:Bool.rec false true (tB true false)=true:=by kernel_rfl
theorem P7:Bool.rec false true (tB true true)=true:=by kernel_rfl
noncomputable def o9:O->Bool
 |.ns m=>dG m λp=>v9 8 p.2
 |.list l=>dG l (v9 8)
 |.barr l=>dG l PX
 |.dead=>true
 |.nsU=>true
 |.lsU _ _=>true
 |.inst _ m=>dG m λp=>v9 8 p.2
 |.dict l=>dG l λp=>v9 8 p.2
 |_=>false
section
variable{g:Gb}{c:Cf}{s:Shared}{σ':Nat->Int}
theorem Jt(hs:∀k,k≠999->σ' k=g.σ k){m:List (Nat×V)}{mm:Str->Option Value}(h:dG m (λp=>v9 8 p.2)=true)(x:NR g c m mm):NR (g.sg σ') c m mm:=λz hz=>by
 have q:=x z hz
 clear x
 induction m with
 |nil=>exact q
 |cons p r ih=>
  obtain⟨k,a⟩:=p
  rw[dZ] at q⊢
  refine cT h λh1 h2=>?_
  cases e:Vn k (cd z) with
  |true=>rw[e] at q;obtain⟨v,q1,q2⟩:=q;exact⟨v,q1,pB hs h1 q2⟩
  |false=>rw[e] at q;exact ih h2 q
theorem P8(hs:∀k,k≠999->σ' k=g.σ k){l:List (Nat×V)}:∀{es:List (Str×Value)},dG l (λp=>v9 8 p.2)=true->PR g c l es->PR (g.sg σ') c l es:=by
 induction l with
 |nil=>exact λY x=>x
 |cons p r ih=>
  intro es h x
  obtain⟨y,v,t,h1,h2,h3,h4,h5,h6⟩:=x
  exact cT h λw1 w2=>⟨y,v,t,h1,h2,h3,h4,pB hs w1 h5,ih w2 h6⟩
theorem Ju(hs:∀k,k≠999->σ' k=g.σ k){o:O}{a d:Addr}{h:Heap}(e:o9 o=true)(x:OR g c o a d h):OR (g.sg σ') c o a d h:=by
 cases o with
 |ns m=>obtain⟨mm,x1,x2⟩:=x;exact⟨mm,x1,Jt hs e x2⟩
 |list l=>obtain⟨vs,x1,x2,x3⟩:=x;exact⟨vs,x1,x2.map λa ha v q=>pB hs (c9 e ha) q,x3⟩
 |barr l=>obtain⟨o,b,x1,x2,x3,x4,x5⟩:=x;exact⟨o,b,x1,x2,x3,Ux hs e x4,x5⟩
 |dead=>exact x
 |nsU=>exact x
 |lsU lo hi=>exact x
 |inst ci m=>obtain⟨mm,ns,x1,x2,x3,x4,x5⟩:=x;exact⟨mm,ns,x1,x2,Jt hs e x3,x4,x5⟩
 |dict l=>obtain⟨kvs,x1,x2,x3,x4⟩:=x;exact⟨kvs,x1,x2,P8 hs e x3,x4⟩
 |_=>exact ft e
theorem cV.sg9{h h':H}(I:cV g c h s)(hl:h'.length=h.length)(ho:∀j o,h'.get j=some o->∃o',h.get j=some o'/\(OR g c o' (c.ρ j) (c.δ j) s.heap->OR (g.sg σ') c o (c.ρ j) (c.δ j) s.heap))(hn:∀j o,h.get j=some o->o.isNs=true->∃o',h'.get j=some o'/\o'.isNs=true):cV (g.sg σ') c h' s where
 len:=I.len.trans hl.symm
 obj j o e:=let⟨o',e1,e2⟩:=ho j o e;⟨(I.obj j o' e1).1,e2 (I.obj j o' e1).2⟩
 pres:=I.pres
 tup:=I.tup
 dat:=I.dat
 rest:=I.rest
 fra:=I.fra
 base:=I.base
 inj:=I.inj
 off k hk a ha:=let⟨x1,x2,x3⟩:=I.off k hk a ha;⟨⟨x1.R,x1.B,x1.T,x1.D⟩,x2,x3⟩
 offS a o q:=let⟨x1,x2⟩:=I.offS a o q;⟨⟨x1.R,x1.B,x1.T,x1.D⟩,x2⟩
 sam:=I.sam
 t0:=I.t0
 m0:=I.m0
 ns k q:=let⟨o,e1,e2⟩:=I.ns k q;hn k o e1 e2
 tab:=I.tab
 offP:=⟨I.offP.R,I.offP.B,I.offP.T,I.offP.D⟩
 sm:=I.sm
 rT:=I.rT
theorem cV.pen9{l l':List O}{o1 o1':O}(I:cV g c (dQ l) s)(hs:∀k,k≠999->σ' k=g.σ k)(e:l'=l.set 1 o1')(e1:l[1]? =some o1)(h9:∀j o,j≠1->l[j]? =some o->o9 (sD (λk=>k) o)=true)(hp:OR (g.sg σ') c (sD (λk=>k) o1') (c.ρ 1) (c.δ 1) s.heap)(hi:(sD (λk=>k) o1).isNs=false):cV (g.sg σ') c (dQ l') s:=by
 subst e
 refine I.sg9 (by rw[jB,jB,List.length_set]) (λj o q=>?_) λj o q w=>?_
 .rw[fW] at q⊢
  by_cases z:j=1
  .subst z
   rw[List.getElem?_set_self (List.getElem?_eq_some_iff.mp e1).1] at q
   cases Vl q
   exact⟨_,by rw[e1];rfl,λY=>hp⟩
  .rw[List.getElem?_set_ne (Ne.symm z)] at q
   refine⟨o,q,λx=>Ju hs ?_ x⟩
   refine e12 (Option.map_eq_some_iff.mp q) λo0 q1 q2=>?_
   exact q2▸h9 j o0 z q1
 .rw[fW] at q⊢
  by_cases z:j=1
  .subst z
   rw[e1] at q
   cases Vl q
   exact absurd w (by rw[hi];decide)
  .exact⟨o,by rw[List.getElem?_set_ne (Ne.symm z)];exact q,w⟩
noncomputable def pn(a:AI):O:=.list [uN,.int a]
noncomputable def jP(a:AI)(m:List (Nat×V)):List O:=[m5,pn a,.ns m]++qO
theorem n9:dG [pG false,pG true,xi false,xi true] (λm=>dG m λp=>v9 8 p.2)=true:=by kernel_rfl
theorem t9:dG (m5::qO) (λo=>o9 (sD (λk=>k) o))=true:=by kernel_rfl
theorem U5{m:List (Nat×V)}(h:dG m (λp=>v9 8 p.2)=true):o9 (sD (λk=>k) (.ns m))=true:=h
theorem My{a:AI}{m:List (Nat×V)}(I:cV g c (dQ (jP a m)) s):∃n,dO g.σ a n/\∀{σ':Nat->Int} {a':AI},dO σ' a' n->OR (g.sg σ') c (pn a') (c.ρ 1) (c.δ 1) s.heap:=by
 obtain⟨_,vs,l1,l2,l3⟩:=I.obj 1 (pn a) (by rw[fW];rfl)
 refine sU l2 λv1 v2 ev hA hB=>?_
 refine e22 ((show VR g c uN v1 from hA)) λp1 t1 zq32 h1=>?_
 cases zq32
 refine e22 ((show VR g c (.int a) v2 from hB)) λpv t2 zq33 h2=>?_
 cases zq33
 refine⟨pv,h2,λ{σ' a'} h=>⟨vs,l1,?_,Vw rfl⟩⟩
 rw[ev]
 exact da.cons ⟨p1,t1,rfl,h1⟩ (da.cons ⟨pv,t2,rfl,h⟩ da.nil)
theorem cV.pn9{a:AI}{m:List (Nat×V)}(I:cV g c (dQ (jP a m)) s)(hm:m∈[pG false,pG true,xi false,xi true]):∃n,dO g.σ a n/\∀{σ':Nat->Int} {a':AI},(∀k,k≠999->σ' k=g.σ k)->dO σ' a' n->cV (g.sg σ') c (dQ (jP a' m)) s:=by
 refine e12 (My I) λn h1 h2=>?_
 refine⟨n,h1,λ{σ' a'} hs h=>I.pen9 (o1:=pn a) (o1':=pn a') hs rfl rfl (λj o hj e=>?_) (h2 h) rfl⟩
 match j,hj,e with
 |0,_,e=>cases Vl e;exact c9 (K:=λo=>o9 (sD (λk=>k) o)) t9 (Vq (a:=m5))
 |1,hj,_=>exact absurd rfl hj
 |2,_,e=>cases Vl e;exact U5 (c9 (K:=λm=>dG m λp=>v9 8 p.2) n9 hm)
 |j+3,_,e=>exact c9 (K:=λo=>o9 (sD (λk=>k) o)) t9 (Vr m5 (List.mem_of_getElem? (show qO[j]? =some o from e)))
theorem cV.toPb{lo hi:Int}{m:List (Nat×V)}(I:cV g c (dQ (jP (.u (some lo) (some hi)) m)) s)(hm:m∈[pG false,pG true,xi false,xi true])(h0:0≤lo)(h1:hi≤1000000):∃σ':Nat->Int,(∀k,k≠999->σ' k=g.σ k)/\σ' 999≤hi/\cV (g.sg σ') c (dQ (jP (.pb 0) m)) s:=by
 refine e12 (I.pn9 hm) λn x1 x2=>?_
 have y1:=x1.1 _ rfl
 have y2:=x1.2 _ rfl
 refine⟨λk=>db (Vn k 999) n (g.σ k),λk hk=>(congrArg (db · n (g.σ k)) (dg hk)).trans rfl,y2,x2 (λk hk=>(congrArg (db · n (g.σ k)) (dg hk)).trans rfl) ⟨by omega,?_,?_⟩⟩
 .show n≤n+0;omega
 .show n≤1000000;omega
theorem cV.ofPb{d:Nat}{hi:Int}{m:List (Nat×V)}(I:cV g c (dQ (jP (.pb d) m)) s)(hm:m∈[pG false,pG true,xi false,xi true])(h1:g.σ 999≤hi){σ':Nat->Int}(hs:∀k,k≠999->σ' k=g.σ k):cV (g.sg σ') c (dQ (jP (.u (some 0) (some (hi+d))) m)) s:=by
 refine e12 (I.pn9 hm) λn x1 x2=>?_
 refine x2 hs ⟨λa e=>?_,λa e=>?_⟩
 .cases Vl e;exact x1.1
 .cases Vl e;have:=x1.2.1;omega
end
section
variable{g:Gb}{c c0:Cf}{s:Shared}{σ':Nat->Int}{A:Around}{env:Env}{x:Bool}
theorem dz.sg9{n:Nat}(o:dz g c n A):dz (g.sg σ') c n A:=⟨o.hh,o.dep',o.un',o.lid,let⟨l,h1,h2⟩:=o.fr;⟨l,h1,FL.imp (g:=g) (g':=g.sg σ') (c:=c) (c':=c) (λY q=>q) h2⟩⟩
theorem FR.sg9{fr:Fr}(x:FR g c A fr env):FR (g.sg σ') c A fr env:=⟨x.kind,x.names,x.ins,x.loc,x.cells,x.glob,x.bi,x.cls,x.inter,x.dbg,x.cdict,x.lk,x.lam⟩
structure K9(x:Bool)(g:Gb):Prop where
 C:g.C=cm true x 9
 F:io g
 q:io g.hush
 K:gJ g (cm true x 9)
def P9(x:Bool)(g:Gb):Prop:=∀σ':Nat->Int,(∀k,k≠999->σ' k=g.σ k)->K9 x (g.sg σ')
theorem Uz(k:K9 x g){ss:List Stmt}{h:H}{a:AI}{m:List (Nat×V)}(e:dA c0 c)(hn:∀k,c0.N k->k<c0.n)(hl:c0.n≤16)(oa:dz g c 60 A)(f:FR g c A fg env)(I:cV g c h s)(hk:(MZ x).ex fg ss h (E9 x (jP a m)) mr=true):
  cQ g.M A (execs ss env) (λfl s'=>fl=.next/\∃c',dA c0 c'/\cV g c' (dQ (jP a m)) s') (λY Y=>False) s:=by
 have S:=(jv k.F k.q 60).self
 rw[k.C] at S
 refine cO (S.ex oa f I hk) (λfl s' q=>?_) λY Y q=>ms rfl q
 cases fl with
 |next=>
  obtain⟨c',h',e',i,kk⟩:=q
  refine⟨rfl,cT kk λY kk=>?_⟩
  refine e02 (i.refit (c:=c0) (C:=cm true x 9) (l:=jP a m) (e.trans e') hn hl (λY Y=>VL _) k.K kk) λi1 e1=>?_
  exact⟨_,e1,i1⟩
 |ret v=>
  obtain⟨a',c',h',e',i,v',kk⟩:=q
  exact ft kk
 |brk=>exact q.elim
 |cont=>exact q.elim
theorem cV.ltN{h:H}(I:cV g c h s)(k:Nat)(q:c.N k):k<c.n:=let⟨o,e,_⟩:=I.ns k q;(I.obj k o e).1
theorem sB(b:Bool):pG b∈[pG false,pG true,xi false,xi true]:=by cases b<;>simp
theorem Fa(b:Bool):xi b∈[pG false,pG true,xi false,xi true]:=by cases b<;>simp
noncomputable def uB(B:Nat):AI:=.u (some 0) (some (B:Int))
theorem Qa(k:P9 x g){b:Bool}{B:Nat}(hB:B+20≤1000000){v:Value}(oa:dz g c 60 A)(f:FR g c A fg env)(I:cV g c (dQ (jP (uB B) (pG b))) s)(hv:VR g c (.int (.u (some 0) (some 5))) v)(ha:tA x b=true)(hb:tB x b=true):
  cQ g.M A (assign dN.1 env v) (λY av=>cQ g.M A (execs dN.2.2.1 env) (λfl aB=>fl=.next/\∃aC,dA c aC/\cV g aC (dQ (jP (uB (B+40)) (pG true))) aB) (λY Y=>False) av) (λY Y=>False) s:=by
 have hn:=I.ltN
 have hl:c.n≤16:=Vu I.len
 refine e13 (I.toPb (sB b) (WJ 0) (by omega)) λσ1 q1 q2 I1=>?_
 have k1:=k σ1 q1
 have S:=(jv k1.F k1.q 60).self
 rw[k1.C] at S
 refine cO (M:=g.M) (S.asg (oa.sg9 (σ':=σ1)) (f.sg9 (σ':=σ1)) I1 (show VR (g.sg σ1) c (.int (.u (some 0) (some 5))) v from hv) ha) (λY av q=>?_) λY Y q=>ms rfl q
 obtain⟨c',h',e',i,kk⟩:=q
 rw[<-Wc 1 dN.2.2.1]
 refine ip (M:=g.M) (Uz k1 e' hn hl ((oa.sg9 (σ':=σ1)).up e') ((f.sg9 (σ':=σ1)).ext e') i kk) (λaB q=>?_) (λv aB q=>Flow.noConfusion q.1) λaB=>⟨λq=>Flow.noConfusion q.1,λq=>Flow.noConfusion q.1⟩
 obtain⟨_,c4,e4,I4⟩:=q
 have I5:cV g c4 (dQ (jP (.u (some 0) (some ((B:Int)+(20:Nat)))) (xi b))) aB:=cV.ofPb (g:=g.sg σ1) (σ':=g.σ) I4 (Fa b) q2 λk hk=>(q1 k hk).symm
 refine e13 (I5.toPb (Fa b) (WJ 0) (by omega)) λσ2 r1 r2 I6=>?_
 have k2:=k σ2 r1
 refine cO (M:=g.M) (Uz k2 e4 hn hl ((oa.sg9 (σ':=σ2)).up e4) ((f.sg9 (σ':=σ2)).ext e4) I6 hb) (λfl aR q=>?_) λY Y q=>q
 obtain⟨hfl,c5,e5,I7⟩:=q
 refine⟨hfl,c5,e5,?_⟩
 have I8:cV g c5 (dQ (jP (.u (some 0) (some ((B:Int)+(20:Nat)+(20:Nat)))) (pG true))) aR:=cV.ofPb (g:=g.sg σ2) (σ':=g.σ) I7 (sB true) r2 λk hk=>(r1 k hk).symm
 have e:uB (B+40)=.u (some 0) (some ((B:Int)+(20:Nat)+(20:Nat))):=by unfold uB;congr 2
 rw[e]
 exact I8
end
section
variable{g:Gb}{c c0:Cf}{s:Shared}{A:Around}{env:Env}{x:Bool}
theorem Mz{a:V}{v:Value}(h:Mw a=true)(hv:VR g c a v):VR g c (.int (.u (some 0) (some 5))) v:=by
 cases a with
 |int i=>
  cases i with
  |c n=>
   refine e22 hv λm t e h1=>?_;clear hv
   have h1:m=n:=h1
   refine cT (show gd (decide (0≤n)) (decide (n≤5))=true from h) λq1 q2=>⟨m,t,e,λa e=>?_,λa e=>?_⟩
   .cases Vl e;exact h1▸of_decide_eq_true q1
   .cases Vl e;exact h1▸of_decide_eq_true q2
  |_=>exact ft h
 |_=>exact ft h
theorem kb{b:Bool}(h:(Bool.rec false true b:Bool)=true):b=true:=by cases b<;>exact h
theorem U6{a b c:Bool}(h:gd a (gd b c)=true):a=true/\b=true/\c=true:=by
 cases a with
 |false=>exact ft h
 |true=>
  cases b with
  |false=>exact ft h
  |true=>exact⟨rfl,rfl,h⟩
theorem xj(x b:Bool):tA x b=true/\tI x=true/\tR x b=true:=U6 (kb (b:=gd (tA x b) (gd (tI x) (tR x b))) (Mx x b))
theorem MA(x b:Bool):tB x b=true:=
 match x,b with
 |false,false=>kb (b:=tB false false) P4
 |false,true=>kb (b:=tB false true) P5
 |true,false=>kb (b:=tB true false) P6
 |true,true=>kb (b:=tB true true) P7
def J9(c0:Cf)(m:Nat)(it:It)(c':Cf)(h:H):Prop:=∃l b,it=.vals l/\l.length=m/\m≤6/\dG l Mw=true/\h=dQ (jP (uB (60+40 * (6 - m))) (pG b))/\dA c0 c'
theorem U7{m:Nat}:60+40 * (6 - m)+20≤1000000:=by omega
theorem U8{m k:Nat}(h:k+1=m)(hm:m≤6):60+40 * (6 - m)+40=60+40 * (6 - k):=by omega
theorem U9{m:Nat}:60+40 * (6 - m)≤300:=by omega
theorem Qb(W:SW g)(hq:A.handled=none)(k:∀L hp,P9 x (g.pin L hp))(oa:dz g c0 60 A)(f:FR g c0 A fg env){itv:Value}{b:Bool}{l:List V}(hl:l.length=6)(hr:dG l Mw=true)(I:cV g c0 (dQ (jP (uB 60) (pG b))) s)(hit:pD g c0 s.heap (.vals l) itv):
  c6 g.M A (.forLoop dN.1 itv dN.2.2.1 [] env) (λr s'=>r=.ok .next/\∃b c' B,B≤300/\dA c0 c'/\cV g c' (dQ (jP (uB B) (pG b))) s') s:=by
 refine uL W hq (J:=J9 c0) (λm it c h s hJ I=>?_) 6 (.vals l) c0 _ s ⟨l,b,rfl,hl,VA 6,hr,rfl,.refl _⟩ I hit
 refine e26 hJ λl b zq34 hl hm hr zq35 e=>?_;clear hJ
 cases zq34
 cases zq35
 refine⟨rfl,?_⟩
 cases l with
 |nil=>
  exact⟨.stop,rfl,λY s' I'=>⟨rfl,b,c,_,U9,e,I'⟩,λv it' q=>Nx.noConfusion q⟩
 |cons a l=>
  refine⟨.more a (.vals l),rfl,λq=>Nx.noConfusion q,λv it' q=>?_⟩
  cases q
  refine cT hr λr1 r2=>⟨l.length,hl.symm,λx' ao L aj ak am hv=>?_⟩
  have hm':l.length+1=m:=hl
  refine cO (Qa (k L aj.heap) (b:=b) (B:=60+40 * (6 - m)) U7 (oa.pin.up (e.trans ak)) (f.pin.ext (e.trans ak)) am (Mz r1 hv) (xj x b).1 (MA x b)) (λY av q=>cO q (λfl aB q=>?_) λY Y q=>q) λY Y q=>q
  obtain⟨hfl,c4,e4,I4⟩:=q
  refine⟨hfl,c4,_,e4,I4,l,true,rfl,rfl,Vo (hm'▸VO _) hm,r2,?_,e.trans (ak.trans e4)⟩
  rw[U8 hm' hm]
end
section
variable{g:Gb}{c c0:Cf}{s:Shared}{A:Around}{env:Env}{x:Bool}
theorem MB{i:It}(h:Ty i=true):∃l,i=.vals l/\l.length=6/\dG l Mw=true:=by
 cases i with
 |vals l=>exact cT (show gd (Vn l.length 6) (dG l Mw)=true from h) λh1 h2=>⟨l,rfl,cX h1,h2⟩
 |_=>exact ft h
theorem Fb{m:Nat}{h:Heap}{itv:Value}{l:List V}(x:pD g c h (.vals l) itv)(hr:dG l Mw=true)(hm:m≤c.n):pD g (c.sub m λk=>k) h (.vals l) itv:=by
 cases x with
 |mk it itv L hL hS=>
  refine .mk _ _ L (λb hb=>(hL b hb).sub hm) ?_
  cases hS with
  |vals l a y=>
   refine .vals l a ?_
   cases y with
   |tup t vs i h1 h2 h3=>exact .tup t vs i h1 h2 (h3.map λa ha v hv=>by
     have w:=c9 hr ha
     cases a with
     |int n=>exact hv
     |_=>exact ft w)
   |byt b t i als h1 e h3=>exact .byt b t i als h1 e h3
   |rng x jg h1 h2 e=>exact .rng x jg h1 h2 e
 |emp a d ep fa hD hK hd=>exact .emp a d ep (fa.sub hm) hD hK hd
theorem Qc(hq:A.handled=none)(kp:∀R,(∀a o,g.R a o->R a o)->P9 x (g.wR R))(hpv:g.σ 999≤60)(oa:dz g c 60 A)(f:FR g c A fg env)(I:cV g c (dQ (jT false 0)) s):
  cQ g.M A (execs [.For dN.1 dN.2.1 dN.2.2.1 [] dN.2.2.2,d0 184 8] env) (λfl s'=>∃σ' c' h',fl=.ret (.bool true)/\cV (g.sg σ') c' h' s') (λY Y=>False) s:=by
 have k:P9 x g:=kp g.R λY Y h=>h
 have k0:K9 x g:=k g.σ λY Y=>rfl
 have T:Ft g:=k0.F g.R λY Y h=>h
 have S:=(jv k0.F k0.q 60).self
 have hn:=I.ltN
 have hl:c.n≤16:=Vu I.len
 have r1:nL g.C (mB g.C 60) fg dN.2.1 (dQ (jT false 0)) (λi h=>gd (lp (toks x) h (jT false 0)) (Ty i)) mr=true:=by rw[k0.C];exact(xj x false).2.1
 refine e03 (ld T.G T.W S oa f I r1) λY hst hw=>?_
 refine ij (Q':=λfl s'=>fl=.next/\∃b c' B,B≤300/\dA c c'/\cV g c' (dQ (jP (uB B) (pG b))) s') (mf (cO hw (λy aR aG=>cO aG (λitv aX ⟨i,bP,aG,aS,aO,hit,hK⟩=>?_) λY Y q=>ms rfl q) λY Y q=>ms rfl q) hst) (λaR q=>?_) λfl aR h1 h2=>absurd h2.1 h1
 .refine cT hK λk4 k5=>?_
  refine e13 (MB k5) λl zq36 l6 lr=>?_
  cases zq36
  refine e02 (aO.refit (c:=c) (C:=cm true x 9) (l:=jT false 0) aS hn hl (λY Y=>VL _) k0.K k4) λa9 aT=>?_
  have bc:cV g _ (dQ (jP (uB 60) (pG false))) aX:=cV.ofPb (d:=0) (hi:=60) (σ':=g.σ) a9 (sB false) hpv λY Y=>rfl
  refine dC (Qb T.W hq (λL hp=>kp _ λa o q=>.inl q) (oa.up aT) (f.ext aT) l6 lr bc (Fb hit lr (cT k4 λw Y=>Vo (eQ w) (Vu aO.len.symm)))) λr s' q=>?_
  obtain⟨rfl,b,c',B,hB,e',I'⟩:=q
  exact⟨rfl,b,c',B,hB,aT.trans e',I'⟩
 .obtain⟨_,b,c',B,hB,e',I'⟩:=q
  refine e13 (I'.toPb (sB b) (WJ 0) (by omega)) λσ3 r1 r2 I3=>?_
  have k3:=k σ3 r1
  have S3:=(jv k3.F k3.q 60).self
  rw[k3.C] at S3
  refine cO (M:=g.M) (S3.ex ((oa.sg9 (σ':=σ3)).up e') ((f.sg9 (σ':=σ3)).ext e') I3 (xj x b).2.2) (λfl bx q=>?_) λY Y q=>ms rfl q
  cases fl with
  |next=>obtain⟨c2,h2,e2,i2,kk⟩:=q;exact ft kk
  |ret v=>
   obtain⟨a,c2,h2,e2,i2,hv,kk⟩:=q
   refine cP kk λbb e1 kk=>?_
   cases a with
   |bool b'=>
    cases Vl e1
    cases (show v=.bool bb from hv)
    cases (show bb=true from kk)
    exact⟨σ3,c2,h2,rfl,i2⟩
   |_=>exact nn e1
  |brk=>exact q.elim
  |cont=>exact q.elim
end
theorem Qd{g:Gb}{x:Bool}{C:i5}{σ':Nat->Int}(hC:C.toks=toks x)(h:g.σ 27=db x 50 49)(hs:∀k,k≠999->σ' k=g.σ k):gJ ((g.wt x).sg σ') C:=by
 refine⟨λ{c' k a v} h1 h2=>?_,λ{c' k v} h=>?_,λ{f n k a} h=>?_,?_⟩
 .rw[hC] at h1
  exact Ji h1 (pB (g:=(g.wt x).sg σ') (σ':=AS g.σ) (λk hk=>(ny hk).trans (hs k hk).symm) (sv x k a h1) h2)
 .rw[hC]
  refine e12 (EE h) λa h1 h2=>?_
  exact⟨a,h1,pB (g:=(g.wt x).sg (AS g.σ)) (σ':=σ') (λk hk=>(hs k hk).trans (ny hk).symm) (sv x k a h1) h2⟩
 .rw[hC] at h
  exact uJ (pA x k a h)
 .rw[hC]
  exact y6 (h▸hs 27 (by decide))
theorem w9:j7 (λY o=>o9 o) WT=true:=by kernel_rfl
theorem Va:j7 (λY o=>o9 o) MX=true:=by kernel_rfl
theorem WF.sg9{g:Gb}{M:Option Addr}{W:BT O}{σ':Nat->Int}(h:WF M g W)(hw:j7 (λY o=>o9 o) W=true)(hs:∀k,k≠999->σ' k=g.σ k):WF M (g.sg σ') W:=λk o e=>(h k o e).elim λd f=>⟨d,λhp c h1 h2 h3=>Ju hs (ei hw e) (f hp c h1 h2 h3)⟩
theorem Vb{g:Gb}{c:Cf}{s:Shared}{x:Bool}{bs:List UInt8}{pv:Int}{σ':Nat->Int}(Z:E3 g c s x bs pv)(F:Fc ((gF g c s x bs pv).sg σ'))(hs:∀k,k≠999->σ' k=(gF g c s x bs pv).σ k):Ok 9 x true ((gF g c s x bs pv).sg σ') where
 C:=⟨false,rfl⟩
 F:=F
 W:=Z.w.sg9 w9 hs
 d:=Z.d.sg9 Va hs
 T:=Qd rfl Z.σ hs
 M _:=rfl
 dl:=Vw rfl
 ul:=Vw rfl
theorem Ok.k9(HT:sq){g:Gb}{x:Bool}(k:Ok 9 x true g)(hC:g.C=cm true x 9):K9 x g:=⟨hC,k.all HT,k.hush.all HT,k.T⟩
theorem Qe(HT:sq){g:Gb}{c:Cf}{s:Shared}{x:Bool}{bs:List UInt8}{pv:Int}(Z:E3 g c s x bs pv)(F:∀σ',Fc ((gF g c s x bs pv).sg σ')):∀R,(∀a o,(gF g c s x bs pv).R a o->R a o)->P9 x ((gF g c s x bs pv).wR R):=λY hR σ' hs=>((Vb Z (F σ') hs).wR hR).k9 HT rfl
theorem Qf:j1=jT false 0:=by kernel_rfl
theorem Tz(HT:sq){g:Gb}{c:Cf}{s:Shared}{x:Bool}{bs:List UInt8}{pv:Int}{A:Around}{env:Env}(Z:E3 g c s x bs pv)(F:∀σ',Fc ((gF g c s x bs pv).sg σ'))(hq:A.handled=none)
  (oa:dz (gF g c s x bs pv) (c.sub 3 FE) 60 A) (f:FR (gF g c s x bs pv) (c.sub 3 FE) A fg env):
  cQ (gF g c s x bs pv).M A (execs ((Wa 5).map (λi=>d0 184 (2+i))++[.For dN.1 dN.2.1 dN.2.2.1 [] dN.2.2.2,d0 184 8]) env) (λfl s'=>∃σ' c' h',fl=.ret (.bool true)/\cV ((gF g c s x bs pv).sg σ') c' h' s') (λY Y=>False) s:=by
 have kp:=Qe HT Z F
 have I:=Z.i
 have hpv:(gF g c s x bs pv).σ 999≤60:=Z.pv
 generalize gF g c s x bs pv=G at *
 have k0:K9 x G:=kp G.R (λY Y h=>h) G.σ λY Y=>rfl
 have S:=(jv k0.F k0.q 50).self
 rw[k0.C] at S
 have hr:(mB (cm true x 9) 50).ex fg ((Wa 5).map λi=>d0 184 (2+i)) (dQ j0) (λf h=>gd (EO f) (lp (toks x) h j1)) mr=true:=kb (b:=Jq x) (Mv x)
 refine ip (M:=G.M) (Q':=λfl s'=>fl=.next/\∃c',dA (c.sub 3 FE) c'/\cV G c' (dQ (jT false 0)) s') (cO (S.ex (oa.less (by decide)) f I hr) (λfl s' q=>?_) λY Y q=>ms rfl q) (λaa q=>?_) (λv aB q=>Flow.noConfusion q.1) λaB=>⟨λq=>Flow.noConfusion q.1,λq=>Flow.noConfusion q.1⟩
 .cases fl with
  |next=>
   obtain⟨c',h',e',i,kk⟩:=q
   refine⟨rfl,cT kk λY kk=>?_⟩
   refine e02 (i.refit (c:=c.sub 3 FE) (C:=cm true x 9) (l:=j1) e' I.ltN (Vw rfl) (λY Y=>VL _) k0.K kk) λi1 e1=>?_
   exact⟨_,e1,Qf▸i1⟩
  |ret v=>
   obtain⟨a',c',h',e',i,v',kk⟩:=q
   exact ft kk
  |brk=>exact q.elim
  |cont=>exact q.elim
 .obtain⟨_,c',e',I'⟩:=q
  exact Qc hq kp hpv (oa.up e') (f.ext e') I'
theorem MC:FT.get 184=some EY:=by kernel_rfl
theorem Fd:EY.body=[d0 184 0,d0 184 1]++((Wa 5).map (λi=>d0 184 (2+i))++[.For dN.1 dN.2.1 dN.2.2.1 [] dN.2.2.2,d0 184 8]):=by kernel_rfl
section
variable{g:Gb}{c:Cf}{s:Shared}{x:Bool}{bs:List UInt8}{pv:Int}{A:Around}{env:Env}
theorem FR.frz(f:FR g c A EZ env):FR (gF g c s x bs pv) (c.sub 3 FE) A fg env:=
 ⟨f.kind,f.names,(by decide:2<3),f.loc,λx i Y Y q=>nn (show none=some i from q),f.glob,f.bi,f.cls,f.inter,f.dbg,f.cdict,f.lk,λq=>ft q⟩
theorem dz.frz{n m:Nat}(oa:dz g (c.sub 3 λY=>0) n A)(hq:A.handled=none)(hd:A.depth+m≤495)(hu:A.units+16 * m+64≤1396):dz (gF g c s x bs pv) (c.sub 3 FE) m A:=
 ⟨λY=>hq,hd,hu,⟨(by decide:495≤990),Vw (rfl:Vy 1396 cLine=true)⟩,let⟨l,h1,h2⟩:=oa.fr;⟨l,h1,FL.imp (g:=g) (g':=gF g c s x bs pv) (c:=c.sub 3 λY=>0) (c':=c.sub 3 FE) (λY q=>q.elim (λ⟨_,_,k2,k3⟩=>.inl ⟨2,(by decide:2<3),⟨(by decide:2<3),k2.2⟩,k3⟩) .inr) h2⟩⟩
theorem Vc{w:World}{s₀ s':Shared}{sc:Addr}{ps:Array Value}{h:H}{σ':Nat->Int}(b:sF w s₀ s sc ps)(I:cV (gA w s sc) c h s'):Fc ((gF (gA w s sc) c s' x bs pv).sg σ'):=b.fc rfl rfl (λa vs q=>I.t0 a vs q) rfl rfl rfl rfl
end
noncomputable def Qg:List O:=[.ns [(lu,.wr 2000)]]
noncomputable def Jv:gx->Fr->H->Bool:=λY fr h=>gd (dU fr.cells) (gd (!fr.lam) (lp AP h Qg))
theorem AT:cR (FT.get 184) (λfi=>cR (fy fi.params fi.dfl [.wr 2000]) λfull=>Prod.rec (motive:=λY=>Bool) (λfr h=>d9 fr h (Jv fi fr) fi.params full) (eA fi.lam fi.ks [] H.nil))=true:=by kernel_rfl
theorem AU{g:Gb}(h:g.C.quiet=true):qd g:=λ{n A i args vs c h' s outs K X} Y Y Y q Y=>ft (h.symm.trans q).symm
section
variable{w:World}{s₀ s:Shared}{sc:Addr}{ps:Array Value}
theorem H0{g:Gb}{c:Cf}:∀{l:List Value},(∀v,v∈l->∃n t,v=.int n t)->da g c (VF l.length uI) l:=λ{l}=>by
 induction l with
 |nil=>exact λY=>da.nil
 |cons v l ih=>
  intro h
  refine e21 (h v Vq) λn t zq37=>?_
  cases zq37
  exact da.cons ⟨n,t,rfl,λY q=>nn q,λY q=>nn q⟩ (ih λv hv=>h v (Vr _ hv))
theorem sF.fcA(b:sF w s₀ s sc ps):Fc (gA w s sc):=b.fc rfl rfl (λa vs q=>q) rfl rfl rfl rfl
theorem sF.tkA:gJ (gA w s sc) AR:=HX rfl rfl
theorem sF.fct(b:sF w s₀ s sc ps):io (gA w s sc)/\io (gA w s sc).hush:=by
 have F:=b.fcA
 have K:=sF.tkA (w:=w) (s:=s) (sc:=sc)
 have hi:∀{g:Gb},da g (cz g) (VF ps.size uI) ps.toList:=λ{g}=>by
  rw[<-VY]
  exact H0 b.i
 have hR:∀hp:Heap,(∀a ob,(gA w s sc).R a ob->hp.get? a=some ob)->jk hp ((gA w s sc).w 2000) ps:=λhp h=>by
  refine e11 b.l λn q=>?_
  exact⟨n,h _ _ ⟨rfl,q⟩⟩
 have h2:(gA w s sc).hush=(gA w s sc).alt (Mine.Tactic.iD (gA w s sc).C) (gA w s sc).R (gA w s sc).S (gA w s sc).M0 (gA w s sc).s0 (gA w s sc).T0 (gA w s sc).dl (gA w s sc).ul:=rfl
 refine⟨nv F rfl xe (fY (C':=PO) ⟨K.i,K.e,K.s,K.k⟩) λR q=>?_,?_⟩
 .exact @PQ ((gA w s sc).wR R) ps (mt F) (fY K) rfl rfl (λhp h=>hR hp λa ob e=>h a ob (q a ob e)) hi b.n (VA _) (VA _)
 .rw[h2]
  exact nv (q:=true) (mt F) rfl xe (fY (C':=Mine.Tactic.iD PO) ⟨K.i,K.e,K.s,K.k⟩) λR Y=>@AU (Gb.wR _ R) rfl
structure Fe(w:World)(s:Shared)(v:Value)(s':Shared):Prop where
 v:v=.bool true
 b:(pC s.heap 1110).StaysIn s'.heap
 t:∃ps,s'.heap.get? 1110=some (tabObj ps)
 m:s'.gens=s.gens/\s'.drawn=s.drawn/\s'.os=s.os
theorem Ff(HT:sq)(b:sF w s₀ s sc ps)(hsc:sc≠1110):cQ (model PG w) callerA (call (.ref (sR 184)) [.ref sc]) (Fe w s) (λY Y=>False) s:=by
 have Fp:=b.fct
 have z:=EP b.fcA (W:=.nil) (q:=false) (x:=false) (P:=pk AP t1) rfl
 have S:eP (gA w s sc) 88 (mB PO 88):=(jv Fp.1 Fp.2 88).self
 have I0:=b.inv hsc
 have oa0:dz (gA w s sc) (cz (gA w s sc)) 89 callerA:=⟨λY=>rfl,Vw rfl,Vw rfl,⟨Vw rfl,Vw rfl⟩,[],rfl,trivial⟩
 have hv0:da (gA w s sc) (cz (gA w s sc)) [.wr 2000] [.ref sc]:=da.cons (show Value.ref sc=.ref sc from rfl) da.nil
 refine kZ (g:=gA w s sc) z.F (n:=88) (Kf:=Jv) oa0 I0 hv0 AT λfi fr env ag ae aa hfi hns hks ac f hN hoa af hK=>iX hK λk1 k2 k3=>?_
 obtain rfl:fi=EY:=Vl (hfi.symm.trans MC)
 cases Jm hns hks k1 k2
 have hN0:∀k,(cz (gA w s sc)).N k->k<(cz (gA w s sc)).n:=λk q=>q.elim
 refine e02 (af.refit (l:=Qg) (C:=AR) ac hN0 (V6 _) (λa q=>nn q) sF.tkA k3) λam ak=>?_
 have aL:FR (gA w s sc) (ag.sub 1 λk=>k) (callerA.deeper env) EZ env:=f.sub (VL 0) λx i q=>nn q
 have hA:(callerA.deeper env).handled=none:=rfl
 rw[Fd]
 have oa2:dz (gA w s sc) (ag.sub 1 λk=>k) 88 (callerA.deeper env):=hoa _ ak (VL 0) ⟨VL 0,hN⟩ aL.loc
 refine ip (M:=(gA w s sc).M) (Q':=λfl s'=>fl=.next/\∃c' h',dA (ag.sub 1 λk=>k) c'/\cV (gA w s sc) c' h' s'/\∃x bs pv,E3 (gA w s sc) c' s' x bs pv) (cO (S.ex oa2 aL am (kb (b:=Jn) Ml)) (λfl aj q=>?_) λY Y q=>ms rfl q) (λaj q=>?_) (λv aB q=>Flow.noConfusion q.1) λaB=>⟨λq=>Flow.noConfusion q.1,λq=>Flow.noConfusion q.1⟩
 .cases fl with
  |next=>
   obtain⟨c',h',e',i,kk⟩:=q
   exact⟨rfl,c',h',e',i,cT kk λY kk=>Ms i kk sF.tkA⟩
  |ret v=>
   obtain⟨a',c',h',e',i,v',kk⟩:=q
   exact ft kk
  |brk=>exact q.elim
  |cont=>exact q.elim
 .obtain⟨_,c',h',e',I',x,bs,pv,Z⟩:=q
  have hN':c'.N 0:=e'.N 0 ⟨VL 0,hN⟩
  have f':=(aL.ext e').frz (s:=aj) (x:=x) (bs:=bs) (pv:=pv)
  have e3:dA (cz (gA w s sc)) (c'.sub 3 λY=>0):=⟨V6 _,λY q=>absurd q (VE _),λY q=>absurd q (VE _),λa vs q=>e'.T a vs (ak.T a vs q),λY q=>q.elim,λY Y q=>q.elim,λY q=>absurd q (VE _)⟩
  have oa3:=(hoa (c'.sub 3 λY=>0) e3 (by decide:0<3) ⟨(by decide:0<3),hN'⟩ (aL.ext e').loc).frz (s:=aj) (x:=x) (bs:=bs) (pv:=pv) (m:=60) hA (Vw rfl) (Vw rfl)
  refine cO (Tz HT Z (λσ'=>Vc b I') hA oa3 f') (λfl av q=>?_) λY Y q=>q.elim
  refine e32 q λσ' c4 h4 zq38 I4=>?_;clear q
  cases zq38
  refine e13 I4.tab λtb h1 Y Y=>?_
  exact⟨rfl,I4.base,⟨tb,h1⟩,I4.sam⟩
end
section
open PySem.Spec
open PySem.Calls
theorem uP:pR (.builtin "claim.caller" {}):=js (by decide+kernel) (λY Y Y=>rfl) (λY Y Y Y Y=>rfl)
theorem AV{prog:Program}{w:World}{t:Sem Fin}{s:Shared}{R:Result->Shared->Prop}(hreg:s.asleep)
  (h:cQ (model prog w) callerA t (λfin s'=>∃f,fin=.done f/\(R (.ok f) s'/\leftWithCleanup s'.gens=false)) (λe s'=>R (.error e) s'/\leftWithCleanup s'.gens=false) s):
  ∃n r s' s'',runN (denote table) prog w n s ⟨t,.builtin "claim.caller" {},default,[]⟩=.halted (outcomeOf r) s'/\
   schedN (denote table) prog w n (.single s ⟨t,.builtin "claim.caller" {},default,[]⟩)=.halted (outcomeOf r) s'/\s'.forget=s''.forget/\R r s'':=by
 have h0:=h ⟨.builtin "claim.caller" {},none,none,[],none⟩ default caller_in ⟨uP,λx hx=>nomatch hx⟩
 obtain⟨n,r,aa,aj,hs,hn,hfo,hR⟩:=wp_halts_full (M:=model prog w) (R:=R) hreg (Sem.wp_mono _ _ t (λfin p' s' q=>by
  refine e12 q λf zq39 hf=>?_;clear q
  cases zq39
  exact hf) (λY Y Y q=>q) default s h0)
 exact⟨n,r,aj,aa,hn,hs,hfo,hR⟩
theorem Qh{α β γ δ ε:Type _}{A:α->β->Prop}{B:α->β->γ->δ->ε->Prop}{x:α}{y:β}(a:A x y){n:γ}{o:δ}{t:ε}(b:B x y n o t):∃x y,A x y/\∃n o t,B x y n o t:=⟨x,y,a,n,o,t,b⟩
theorem Vd{α:Type _}{P P' A B C D D' E:α->Prop}(f:∀v,P v->P' v)(g:∀v,D v->D' v):(∃v,P v/\A v/\B v/\C v/\D v/\E v)->∃v,P' v/\A v/\B v/\C v/\D' v/\E v:=λ⟨v,p,a,b,c,d,e⟩=>⟨v,f v p,a,b,c,g v d,e⟩
theorem Ve{α β γ:Type _}{P P' A B C D E E':α->β->γ->Prop}(f:∀x y z,P x y z->P' x y z)(g:∀x y z,E x y z->E' x y z):(∃x y z,P x y z/\A x y z/\B x y z/\C x y z/\D x y z/\E x y z)->∃x y z,P' x y z/\A x y z/\B x y z/\C x y z/\D x y z/\E' x y z:=λ⟨x,y,z,p,a,b,c,d,e⟩=>⟨x,y,z,f x y z p,a,b,c,d,g x y z e⟩
theorem qg{c:ClaimW}{tree:List Value->Sem Fin}{w:World}{s:Shared}{free:Addr->Prop}{gens:Prop}{kept:Heap->Prop}(hz:s.asleep)(hgens:s.gens=#[])
  (hspec:∀args,c.pre args=true->WData.layableAll args=true->∀ord:List DictEntry->List DictEntry,(∀l,(ord l).Perm l)->∃vs aa,layAllW c.records (classAt s.heap) w.params ord args s=some (vs,aa)/\
    cQ (model c.prog w) callerA (tree vs) (λfin s'=>∃f,fin=.done f/\(c.Ends s args vs aa (.ok f) s'/\s'.os=s.os/\AllBare s'.gens/\kept s'.heap)) (λe s'=>c.Ends s args vs aa (.error e) s'/\s'.os=s.os/\AllBare s'.gens/\kept s'.heap) aa):
  c.CallFrom (λvs=>⟨tree vs,.builtin "claim.caller" {},default,[]⟩) w free gens kept s:=λargs hpre hlay ord hord=>by
 refine e22 (hspec args hpre hlay ord hord) λvs aa hlaid hcode=>?_
 have hal:=layAllW_rest _ _ _ hlaid
 obtain⟨k,r,s',s'',hrun,hsched,hfo,hcase,hos,hkp⟩:=AV (prog:=c.prog) (w:=w) (t:=tree vs) (s:=aa) (R:=λr s'=>c.Ends s args vs aa r s'/\s'.os=s.os/\kept s'.heap) (Shared.asleep_of_life hal.2.2.2 hz)
  (cO hcode (λfin s' ⟨f,e,h1,h2,h3,h4⟩=>⟨f,e,⟨h1,h2,h4⟩,leftWithCleanup_false_of_bare h3⟩) λe s' ⟨h1,h2,h3,h4⟩=>⟨⟨h1,h2,h4⟩,leftWithCleanup_false_of_bare h3⟩)
 refine e05 (Shared.forget_eq hfo) λeh Y Y eo Y=>?_
 have hcase:_\/_:=hcase.congr eh
 have hkp:kept s'.heap:=eh▸hkp
 rw[<-eo] at hos
 have hlife:s'.heap.life=s.heap.life:=(runN_life _ _ _ hrun).trans hal.2.2.2
 refine Qh hlaid ⟨hsched,hcase.imp (Vd (λv e=>?_) λv d b o y Y=>d b o y) (Ve (λe ob cls q=>?_) λe ob cls d b o y Y=>d b o y),(λY i x hx=>by rw[hgens] at hx;simp at hx),hkp,by rw[hlife],Shared.rest_eq hos⟩
 .rw[e];rfl
 .rw[q];rfl
theorem Fg{r:OpenRow}{q:Program}{loose:List Str}{Xt:Shared->Bool}{XP:(Str->Option Value)->Heap->Prop}{α:Type}{Yf:Shared->α}{Ya:World->α}{d:DefRec}{kwd:List (Str×Expr)}{N:Nat}
  (jg:LeftO r.prog q loose Xt Yf Ya N) (hX:∀s,Xt s=true->XP (s.heap.nsMap mainGlobals) s.heap) (hXk:∀mg h h',XP mg h->(∀b o,h.get? b=some o->h'.get? b=some o)->XP mg h')
  (hdef:defOf q r.name=some (d,kwd)) (hp:r.prog.theDef r.name=some (d.params,d.body,d.scope)) (hk:kwWritten? d.params.kwonlyargs d.params.kw_defaults=some kwd) (hRf:∀s,Xt s=true->RecFacts r.records s.heap) (hwr:(!r.writes||r.records.isEmpty)=true)
  (k1:r.wellSaid=true) (ok:(chainsOk q&&opensWell r.prog&&(frees r.toRowW&&r.within.isEmpty))=true) (hb:r.prog.bare) (hw:r.toRowW.promised)
  (walk:∀(w:World) (s₀ aa:Shared) (mg mb:Str->Option Value),Ground q loose r.records XP w s₀ mg mb aa.heap->Yf s₀=Ya w->(∀b o,s₀.heap.get? b=some o->aa.heap.get? b=some o)->s₀.heap.nsMap mainGlobals=mg->aa.gens=#[]->aa.drawn=s₀.drawn->
   ∀(args:List WData) (vals:List Value) (as:List Addr),Laid r.records w s₀ aa args vals as->r.claim.pre args=true->WData.layableAll args=true->
   ∃f,mg r.name=some f/\cQ (model r.prog w) callerA (PySem.call f vals) (λv s'=>GoodWG r.claim (classAt s₀.heap) (ExcName.means s₀.heap) args aa (.ok (.ret v)) s') (λe s'=>GoodWG r.claim (classAt s₀.heap) (ExcName.means s₀.heap) args aa (.error e) s') aa):r.Holds:=by
 refine e02 (Bool.and_eq_true_iff.mp ok) λok k5=>?_
 refine e02 (Bool.and_eq_true_iff.mp ok) λhch o1=>?_
 refine e02 (Bool.and_eq_true_iff.mp k5) λk5 k6=>?_
 refine e05 (frees_parts k5) λhsame hu ha hap hm=>?_
 refine⟨k1,hw,⟨hb,o1,by show r.makers.map _=[];rw[hm];rfl⟩,hw.witness,λw=>⟨(jg.behind hX hch w).1,λs' hs'=>?_⟩⟩
 obtain⟨s₀,hf,hg0,s,hT,hz,hgens,hg,G00,y⟩:=(jg.behind (XP:=λmg h=>XP mg h/\RecFacts r.records h) (λs hs=>⟨hX s hs,hRf s hs⟩) hch w).2 s' hs'
 have G0:Ground q loose [] XP w s (s.heap.nsMap mainGlobals) (s.heap.nsMap builtinsNs) s.heap:=⟨G00.T,G00.B,G00.D,G00.TE,G00.TD,G00.W,G00.X.1,G00.cls,G00.has,G00.apart,G00.once,G00.K⟩
 have RF:=G00.X.2
 have hT':=hT
 refine⟨s₀,hf,hg0,s,hT,λn hn=>?_,RF.1,RF.2.1,?_⟩
 .obtain rfl:n=r.name:=by split at hn<;>simp_all
  exact pinned_of_view hg G0 hdef hp hk
 have hgens:s.gens=#[]:=Xx (beq_iff_eq.mp hgens)
 have G:Ground q loose r.records XP w s _ _ s.heap:=RF.ground G0
 refine qg (c:=r.claim) (tree:=λvs=>do match<-nsGet mainNs r.name with
  |some f=>do ret (<-PySem.call f vs)
  |none=>unsupported "claim.caller:no-such-global") hz hgens λargs hpre hlay ord hord=>?_
 refine e11 (Option.isSome_iff_exists.mp (layAllW_isSome (P:=w.params) (ord:=ord) G.has args r.args s (pre_splitW hpre).1)) λzq40 hlaid=>?_
 obtain⟨vs,aa⟩:=zq40
 have keeps:=layAllW_keeps _ _ _ hlaid
 have hal:=layAllW_rest _ _ _ hlaid
 refine e13 (reads_layAllW hord _ _ _ hlaid hlay aa.heap (λY Y e=>e)) λas hrd hin hold=>?_
 have L:Laid r.records w s aa args vs as:=⟨⟨ord,hord,hlaid⟩,hrd,hin,hold,keeps,hal.1.trans hgens,hal.2.2.1⟩
 have cf:=G.keeps hXk keeps
 refine e12 (walk w s aa _ _ cf y keeps rfl L.gens hal.2.1 args vs as L hpre hlay) λf hf h=>?_
 have hi:=ident_freeW hu ha hap
 have hwi:r.claim.within=[]:=List.isEmpty_iff.mp k6
 refine⟨vs,aa,hlaid,?_⟩
 refine wpAny_bind (P (wpAny_nsGet cf.T.g ?_))
 rw[hf]
 exact wpAny_bind (cO h (λv s' g=>wpAny_pure ⟨_,rfl,have z:=g.laid (c:=r.claim) hsame hwi hi L;⟨z.1,z.2.1,z.2.2,λq=>⟨namesKept_of hT' hg _ keeps g.2.1.old,noTable hwr q⟩⟩⟩)
  λe s' g=>have z:=g.laid (c:=r.claim) hsame hwi hi L;⟨z.1,z.2.1,z.2.2,λq=>⟨namesKept_of hT' hg _ keeps g.2.1.old,noTable hwr q⟩⟩)
end
theorem Fi{l:List Obj}:∀{n i:Nat},fF (l.drop n) i=fF l (n+i):=λ{n}=>by
 induction n generalizing l with
 |zero=>exact λ{i}=>by rw[VQ];rfl
 |succ n ih=>
  intro i
  cases l with
  |nil=>rfl
  |cons x l=>rw[Nat.add_right_comm];exact ih
theorem Fj{l:List Obj}:∀{n i:Nat},i<n->fF (l.take n) i=fF l i:=λ{n}=>by
 induction n generalizing l with
 |zero=>exact λh=>absurd h (VE _)
 |succ n ih=>
  intro i h
  cases l with
  |nil=>rfl
  |cons x l=>
   cases i with
   |zero=>rfl
   |succ i=>exact ih (V5 h)
theorem Fk{l:List Obj}:∀{i:Nat},l.length≤i->fF l i=none:=λ{i}=>by
 induction l generalizing i with
 |nil=>exact λY=>rfl
 |cons x l ih=>
  intro h
  cases i with
  |zero=>exact absurd h (Nat.not_succ_le_zero _)
  |succ i=>exact ih (Nat.le_of_succ_le_succ h)
theorem Fl{f:Nat}:∀{l:List Obj} {k j:Nat},l.length≤f->j<32->dq (fF (J7 f l) k) (λl=>fF l j)=fF l (32 * k+j):=by
 induction f with
 |zero=>exact λh Y=>(Fk (Vo h (V6 _))).symm
 |succ f ih=>
  intro l k j h hj
  cases k with
  |zero=>
   refine(?_:fF (l.take 32) j=_)
   rw[Fj hj,Nat.mul_zero,VQ]
  |succ k=>
   refine(?_:dq (fF (J7 f (l.drop 32)) k) (λl=>fF l j)=_)
   rw[ih (by rw[V7];omega) hj,Fi]
   congr 1
   omega
theorem H1{l:List Obj}:∀{i:Nat},fF l i=l[i]? :=by
 induction l with
 |nil=>exact rfl
 |cons x l ih=>
  intro i
  cases i with
  |zero=>rfl
  |succ i=>exact ih
theorem Fm{h:Heap}:xK h=h.get? :=funext λa=>by
 unfold xK
 rw[Fl (f:=h.objs.size) (l:=h.objs.toList) (k:=Ws a 32) (j:=WM a 32) (Vu rfl) (Nat.mod_lt _ (by decide)),show 32 * Ws a 32+WM a 32=a from Nat.div_add_mod a 32,H1,Wz]
 rfl
section
variable{R:WRecords}{cl:Str->Option Addr}{P:Params}{ord:List DictEntry->List DictEntry}
theorem H2:∀{xs:List WData} {s:Shared} {r:List Value×Shared},WShape.hasItems R xs .int=true->layAllW R cl P ord xs s=some r->(∀v,v∈r.1->∃n t,v=.int n t)/\r.1.length=xs.length/\r.2.heap=s.heap:=λ{xs}=>by
 induction xs with
 |nil=>
  intro s r Y e
  cases Vl e
  exact⟨λv h=>absurd h Vv,rfl,rfl⟩
 |cons x xs ih=>
  intro s r h e
  obtain⟨h1,h2⟩:WShape.has R x .int=true/\WShape.hasItems R xs .int=true:=by
   have h:(WShape.has R x .int&&WShape.hasItems R xs .int)=true:=h
   exact Bool.and_eq_true_iff.mp h
  refine e11 (hasW_int h1) λi zq41=>?_
  cases zq41
  simp only[layAllW,layW] at e
  cases q:layAllW R cl P ord xs {s with toks:=s.toks+1} with
  |none=>rw[q] at e;cases e
  |some r'=>
   rw[q] at e
   cases e
   refine e03 (ih h2 q) λi1 i2 i3=>?_
   exact⟨λv hv=>(List.mem_cons.mp hv).elim (λe=>⟨_,_,e⟩) (i1 v),congrArg (· +1) i2,i3⟩
end
theorem MD{w:World}{s₀ aa:Shared}{args:List WData}{vals:List Value}{as:List Addr}(y:Yf s₀=Ya w)(L:Laid RG.row.toRowW.records w s₀ aa args vals as)(hpre:RG.row.toRowW.claim.pre args=true):∃sc ps,vals=[.ref sc]/\sc≠1110/\sF w s₀ aa sc ps:=by
 refine e02 (pre_splitW hpre) λhsh hc=>?_
 refine e23 (hasAllW_cons hsh) λd r zq42 h1 h2=>?_
 cases zq42
 cases hasAllW_nil h2
 refine e12 (hasW_list h1) λxs zq43 h3=>?_
 cases zq43
 refine e12 L.laid λord Y e=>?_
 simp only[layAllW,layW] at e
 cases q:layAllW RG.row.toRowW.records (classAt s₀.heap) w.params ord xs s₀ with
 |none=>rw[q] at e;cases e
 |some r=>
  rw[q] at e
  refine e03 (H2 h3 q) λi1 i2 i3=>?_
  simp only[Option.some.injEq,Prod.mk.injEq] at e
  refine e02 e λzq44 zq45=>?_;clear e
  cases zq44
  cases zq45
  have y1:zE (FZ s₀.heap sR 1114 1110)=true:=congrArg WP y
  have y2:SH (xK s₀.heap) sR 1114 vv=SJ:=congrArg (λz=>z.2.1) y
  have y3:s₀.heap.get? 1110=some (tabObj #[]):=congrArg (λz=>z.2.2.1) y
  have y4:zE (SK s₀.heap)=true:=congrArg (λz=>z.2.2.2) y
  refine⟨r.2.heap.objs.size,r.1.toArray,rfl,?_,⟨sr y1,Fm▸Ma y2,y3,?_,L.keeps,⟨0,Vx _ rfl⟩,i1,?_⟩⟩
  .rw[i3]
   exact Wk (VP y3)
  .exact cT (sr y4) λh Y=>Option.isSome_iff_exists.mp h
  .have hl:r.1.toArray.size=xs.length:=i2
   rw[hl]
   have hc:(WTm.and (.not (.lt (.lit (.int 63)) (.len (.arg 0)))) (.lit (.bool true))).holds RG.row.toRowW.records {args:=[.list xs]}=true:=hc
   have h6:(!decide ((63:Int)<xs.length))=true:=(holdsW_of_value (R:=RG.row.toRowW.records) (e:={args:=[.list xs]}) (w_not (w_lt (a:=.lit (.int 63)) rfl (w_len_list (w_arg (i:=0) rfl))))).symm.trans (holds_andW hc).1
   have h7:=of_decide_eq_false (dP h6)
   omega
theorem H3{w:World}{s₀ aa s':Shared}{sc:Addr}{ps:Array Value}{args:List WData}{v:Value}(b:sF w s₀ aa sc ps)(g:aa.gens=#[])(h:Fe w aa v s'):GoodWG RG.row.toRowW.claim (classAt s₀.heap) (ExcName.means s₀.heap) args aa (.ok (.ret v)) s':=by
 obtain⟨rfl,h2,⟨tb,h3⟩,h4,_,h5⟩:=h
 have hp:=b.k _ _ b.p
 have at_:∀a o,a≠1110->aa.heap.get? a=some o->s'.heap.get? a=some o:=λa o n e=>h2 a o ((lz n).trans e)
 refine⟨.inl ⟨_,.bool true,[],rfl,λY=>rfl,.bool true,?_,λY=>⟨W9,λa h=>absurd h Vv⟩⟩,⟨λa o e=>?_,λa o e=>?_⟩,h5,.of_eq (h4.trans g)⟩
 .wrow_post
 .by_cases q:a=1110
  .subst q
   cases Vl (e.symm.trans hp)
   refine .inr (.inl ⟨?_,rfl,#[],tb,rfl,h3.trans (by rw[Array.empty_append])⟩)
   refine Gd b.t λY Y Y t Y=>cP t λo e t=>cP t λvs e2 t=>iX t λt1 t2 Y=>cP t2 λv v1 v2=>?_
   exact⟨1114,o,vs,b.k _ _ e,fC t1,r8 e2,v1.trans (congrArg some (fD v2))⟩
  .exact .inl (at_ a o q e)
 .by_cases q:a=1110
  .exact⟨_,q▸h3⟩
  .exact⟨o,at_ a o q e⟩
theorem Fn(HT:sq){w:World}{s₀ aa:Shared}{mg:Str->Option Value}(y:Yf s₀=Ya w)(hm:s₀.heap.nsMap mainGlobals=mg)(g:aa.gens=#[]){args:List WData}{vals:List Value}{as:List Addr}(L:Laid RG.row.toRowW.records w s₀ aa args vals as)(hpre:RG.row.toRowW.claim.pre args=true):
  ∃f,mg RG.row.toRowW.name=some f/\cQ (model PG w) callerA (PySem.call f vals) (λv s'=>GoodWG RG.row.toRowW.claim (classAt s₀.heap) (ExcName.means s₀.heap) args aa (.ok (.ret v)) s') (λe s'=>GoodWG RG.row.toRowW.claim (classAt s₀.heap) (ExcName.means s₀.heap) args aa (.error e) s') aa:=by
 refine e23 (MD y L hpre) λsc ps zq46 hsc b=>?_
 cases zq46
 have y4:zE (SK s₀.heap)=true:=congrArg (λz=>z.2.2.2) y
 refine cT (sr y4) λY h=>cP h λv e1 e2=>⟨.ref (sR 184),hm▸(fD e2▸e1),cO (Ff HT b hsc) (λv s' q=>H3 b g q) λY Y q=>q.elim⟩
theorem Qi:∀x,Bool.rec false true (eU x 5 134 OB)=true:=λx=>by kernel_rfl
theorem Qj:∀x,Bool.rec false true (eU x 1 180 Pn)=true:=λx=>by cases x<;>kernel_rfl
theorem Qk:∀x,Bool.rec false true (dJ x 132 Ow)=true:=λx=>by kernel_rfl
theorem TA:∀x,Bool.rec false true (dJ x 110 Uk)=true:=λx=>by kernel_rfl
theorem Ql:∀x,Bool.rec false true (dJ x 166 OW)=true:=λx=>by kernel_rfl
theorem Qm:∀x,Bool.rec false true (dJ x 171 Pj)=true:=λx=>by kernel_rfl
theorem Qn:∀x,Bool.rec false true (dJ x 183 Pt)=true:=λx=>by kernel_rfl
theorem Qo:∀x,Bool.rec false true (dJ x 183 Px)=true:=λx=>by kernel_rfl
theorem TB:∀x,Bool.rec false true (dJ x 118 Up)=true:=λx=>by kernel_rfl
theorem Qp:∀x,Bool.rec false true (eU x 5 134 OC)=true:=λx=>by kernel_rfl
theorem Qq:∀x,Bool.rec false true (eU x 1 180 Po)=true:=λx=>by cases x<;>kernel_rfl
theorem Qr:∀x,Bool.rec false true (dJ x 118 Os)=true:=λx=>by kernel_rfl
theorem Qs:∀x,Bool.rec false true (dJ x 123 Ou)=true:=λx=>by kernel_rfl
theorem Qt:∀x,Bool.rec false true (dJ x 133 Ox)=true:=λx=>by kernel_rfl
theorem Qu:∀x,Bool.rec false true (dJ x 171 O1)=true:=λx=>by kernel_rfl
theorem Qv:∀x,Bool.rec false true (dJ x 171 O9)=true:=λx=>by kernel_rfl
theorem Qw:∀x,Bool.rec false true (dJ x 171 Pg)=true:=λx=>by kernel_rfl
theorem Qx:∀x,Bool.rec false true (dJ x 171 Pi)=true:=λx=>by kernel_rfl
theorem Qy:∀x,Bool.rec false true (dJ x 174 Pl)=true:=λx=>by kernel_rfl
theorem Qz:∀x,Bool.rec false true (dJ x 183 Pw)=true:=λx=>by kernel_rfl
theorem QA:∀x,Bool.rec false true (eU x 5 134 Oz)=true:=λx=>by kernel_rfl
theorem QC:∀x,Bool.rec false true (eU x 5 134 OE)=true:=λx=>by kernel_rfl
theorem QD:∀x,Bool.rec false true (eU x 6 136 OJ)=true:=λx=>by kernel_rfl
theorem QE:∀x,Bool.rec false true (eU x 3 140 OO)=true:=λx=>by kernel_rfl
theorem QG:∀x,Bool.rec false true (eU x 7 146 OP)=true:=λx=>by kernel_rfl
theorem QH:∀x,Bool.rec false true (dJ x 118 Op)=true:=λx=>by kernel_rfl
theorem QJ:∀x,Bool.rec false true (dJ x 171 O2)=true:=λx=>by kernel_rfl
theorem QK:∀x,Bool.rec false true (dJ x 171 Pa)=true:=λx=>by kernel_rfl
theorem QN:∀x,Bool.rec false true (dJ x 183 Pq)=true:=λx=>by kernel_rfl
theorem QO:∀x,Bool.rec false true (dJ x 183 Pz)=true:=λx=>by kernel_rfl
theorem QP:∀x,Bool.rec false true (eU x 5 134 OA)=true:=λx=>by kernel_rfl
theorem QQ:∀x,Bool.rec false true (eU x 6 136 OK)=true:=λx=>by kernel_rfl
theorem QR:∀x,Bool.rec false true (eU x 7 146 OQ)=true:=λx=>by kernel_rfl
theorem QT:∀x,Bool.rec false true (eU x 2 170 OY)=true:=λx=>by cases x<;>kernel_rfl
theorem QX:∀x,Bool.rec false true (eU x 1 180 Pm)=true:=λx=>by cases x<;>kernel_rfl
theorem QY:∀x,Bool.rec false true (dJ x 118 Oq)=true:=λx=>by kernel_rfl
theorem QZ:∀x,Bool.rec false true (dJ x 171 O3)=true:=λx=>by kernel_rfl
theorem Q0:∀x,Bool.rec false true (dJ x 171 Pb)=true:=λx=>by kernel_rfl
theorem Q1:∀x,Bool.rec false true (dJ x 183 Pr)=true:=λx=>by kernel_rfl
theorem Q2:∀x,Bool.rec false true (dJ x 183 PA)=true:=λx=>by kernel_rfl
theorem Q3:∀x,Bool.rec false true (eU x 6 136 OF)=true:=λx=>by kernel_rfl
theorem Q4:∀x,Bool.rec false true (eU x 7 146 OS)=true:=λx=>by kernel_rfl
theorem TF:∀x,Bool.rec false true (dJ x 18 Ui)=true:=λx=>by kernel_rfl
theorem Q5:∀x,Bool.rec false true (dJ x 121 Ot)=true:=λx=>by kernel_rfl
theorem Q6:∀x,Bool.rec false true (dJ x 126 Ov)=true:=λx=>by kernel_rfl
theorem TG:∀x,Bool.rec false true (dJ x 19 Uj)=true:=λx=>by kernel_rfl
theorem Q7:∀x,Bool.rec false true (dJ x 137 OL)=true:=λx=>by kernel_rfl
theorem TH:∀x,Bool.rec false true (dJ x 118 Ul)=true:=λx=>by kernel_rfl
theorem Q8:∀x,Bool.rec false true (dJ x 171 O5)=true:=λx=>by kernel_rfl
theorem Q9:∀x,Bool.rec false true (dJ x 171 Pc)=true:=λx=>by kernel_rfl
theorem Ra:∀x,Bool.rec false true (dJ x 183 Ps)=true:=λx=>by kernel_rfl
theorem Rb:∀x,Bool.rec false true (eU x 6 136 OG)=true:=λx=>by kernel_rfl
theorem Rc:∀x,Bool.rec false true (eU x 7 146 OT)=true:=λx=>by kernel_rfl
theorem Rd:∀x,Bool.rec false true (eU x 7 146 OV)=true:=λx=>by kernel_rfl
theorem Re:∀x,Bool.rec false true (eU x 3 170 O0)=true:=λx=>by kernel_rfl
theorem Rf:∀x,Bool.rec false true (dJ x 171 O4)=true:=λx=>by kernel_rfl
theorem TJ:∀x,Bool.rec false true (dJ x 118 Um)=true:=λx=>by kernel_rfl
theorem Rg:∀x,Bool.rec false true (dJ x 171 O6)=true:=λx=>by kernel_rfl
theorem Rh:∀x,Bool.rec false true (dJ x 171 Pe)=true:=λx=>by kernel_rfl
theorem Ri:∀x,Bool.rec false true (dJ x 183 Pu)=true:=λx=>by kernel_rfl
theorem Rj:∀x,Bool.rec false true (dJ x 183 PB)=true:=λx=>by kernel_rfl
theorem Rk:∀x,Bool.rec false true (eU x 6 136 OH)=true:=λx=>by kernel_rfl
theorem Rm:∀x,Bool.rec false true (eU x 2 140 OM)=true:=λx=>by cases x<;>kernel_rfl
theorem Rn:∀x,Bool.rec false true (eU x 7 146 OU)=true:=λx=>by kernel_rfl
theorem Ro:∀x,Bool.rec false true (eU x 2 170 OZ)=true:=λx=>by cases x<;>kernel_rfl
theorem TL:∀x,Bool.rec false true (dJ x 15 Uh)=true:=λx=>by kernel_rfl
theorem Rp:∀x,Bool.rec false true (dJ x 171 O7)=true:=λx=>by kernel_rfl
theorem Rq:∀x,Bool.rec false true (dJ x 171 Pd)=true:=λx=>by kernel_rfl
theorem Rr:∀x,Bool.rec false true (dJ x 171 Pf)=true:=λx=>by kernel_rfl
theorem TM:∀x,Bool.rec false true (dJ x 118 Uo)=true:=λx=>by kernel_rfl
theorem Rs:∀x,Bool.rec false true (dJ x 182 Pp)=true:=λx=>by kernel_rfl
theorem Rt:∀x,Bool.rec false true (dJ x 183 Pv)=true:=λx=>by kernel_rfl
theorem Ru:∀x,Bool.rec false true (eU x 5 134 Oy)=true:=λx=>by kernel_rfl
theorem Rv:∀x,Bool.rec false true (eU x 5 134 OD)=true:=λx=>by kernel_rfl
theorem Rw:∀x,Bool.rec false true (eU x 6 136 OI)=true:=λx=>by kernel_rfl
theorem Rx:∀x,Bool.rec false true (eU x 2 140 ON)=true:=λx=>by cases x<;>kernel_rfl
theorem Ry:∀x,Bool.rec false true (dJ x 167 OX)=true:=λx=>by kernel_rfl
theorem Rz:∀x,Bool.rec false true (dJ x 171 O8)=true:=λx=>by kernel_rfl
theorem TN:∀x,Bool.rec false true (dJ x 118 Un)=true:=λx=>by kernel_rfl
theorem RA:∀x,Bool.rec false true (dJ x 171 Ph)=true:=λx=>by kernel_rfl
theorem RB:∀x,Bool.rec false true (dJ x 183 Py)=true:=λx=>by kernel_rfl
theorem TP:∀x,Bool.rec false true (dJ x 118 Uq)=true:=λx=>by kernel_rfl
noncomputable def jr(n q:V)(b:Bool)(o s d:Int)(rows:List V):Nat×List O:=(du (fp n) 0 λk=>k,[dE 13,.ns [(1573592589683,names),(1599361674341,.ref 4),(6146846053,n),(24600953,.int (.u (some 0) (some 3))),(1744718521337330840990323,q),(26045266015013005428,.bool b),(403960572896628,.int (.c o)),(6231259749,.int (.c s)),(5979334000,.int (.c d)),(6130069113,.int (.u (some 0) (some 3))),(6214874995,.ref 5)],.cell (some (.ref 0)),.cell (some (.bytes HK)),.dead,.list rows])
noncomputable def Sa:List (Nat×List O):=[jr pE (.tok 300) false 0 27 0 [],jr pE (.tok 300) false 0 27 0 [.tup [.tok 5,.int (.u (some 0) (some 2))]],jr pE (.tok 320) false 0 27 0 [.tup [.tok 5,.int (.u (some 0) (some 2))]],jr pE (.tup []) true 0 27 0 [],jr f8 (.tok 301) false 0 3 0 [],jr f8 (.tok 301) false 0 3 0 [.tup [.tok 5,.int (.u (some 0) (some 2))]],jr f8 (.tok 321) false 0 3 0 [.tup [.tok 5,.int (.u (some 0) (some 2))]],jr f8 (.tup []) true 0 3 0 [],jr f8 (.tup qR) true 0 3 0 [],jr fS (.tok 302) false 3 4 0 [],jr fS (.tok 302) false 3 4 0 [.tup [.tok 5,.int (.u (some 0) (some 2))]],jr fS (.tok 322) false 3 4 0 [.tup [.tok 5,.int (.u (some 0) (some 2))]]]
noncomputable def Sb:List (Nat×List O):=[jr fS (.tup []) true 3 4 0 [],jr fS (.tup qR) true 3 4 0 [],jr gp (.tok 303) false 7 4 0 [],jr gp (.tok 303) false 7 4 0 [.tup [.tok 5,.int (.u (some 0) (some 2))]],jr gp (.tok 323) false 7 4 0 [.tup [.tok 5,.int (.u (some 0) (some 2))]],jr gp (.tup []) true 7 4 0 [],jr gp (.tup qR) true 7 4 0 [],jr gK (.tok 304) false 11 4 0 [],jr gK (.tok 304) false 11 4 0 [.tup [.tok 5,.int (.u (some 0) (some 2))]],jr gK (.tok 324) false 11 4 0 [.tup [.tok 5,.int (.u (some 0) (some 2))]],jr gK (.tup []) true 11 4 0 [],jr gK (.tup qR) true 11 4 0 []]
noncomputable def Sc:List (Nat×List O):=[jr i4 (.tok 305) false 15 4 1 [],jr i4 (.tok 305) false 15 4 1 [.tup [.tok 5,.int (.u (some 0) (some 2))]],jr i4 (.tok 305) false 15 4 1 [.tup [.tok 5,.int (.u (some 0) (some 2))],.tup [.tok 5,.int (.u (some 0) (some 2))]],jr i4 (.tok 325) false 15 4 1 [],jr i4 (.tok 325) false 15 4 1 [.tup [.tok 5,.int (.u (some 0) (some 2))],.tup [.tok 5,.int (.u (some 0) (some 2))]],jr i4 (.tok 325) false 15 4 1 [.tup [.tok 3,.int (.c 0)]],jr i4 (.tup []) true 15 4 1 [.tup [.tok 11,.int (.c 1)]],jr i4 (.tup []) true 15 4 1 [.tup [.tok 12,.int (.c 2)]],jr i4 (.tup qR) true 15 4 1 [.tup [.tok 11,.int (.c 1)]],jr i4 (.tup qR) true 15 4 1 [.tup [.tok 12,.int (.c 2)]],jr ja (.tok 306) false 15 2 1 [],jr ja (.tok 306) false 15 2 1 [.tup [.tok 5,.int (.u (some 0) (some 2))]]]
noncomputable def Sd:List (Nat×List O):=[jr ja (.tok 306) false 15 2 1 [.tup [.tok 5,.int (.u (some 0) (some 2))],.tup [.tok 5,.int (.u (some 0) (some 2))]],jr ja (.tok 326) false 15 2 1 [],jr ja (.tok 326) false 15 2 1 [.tup [.tok 5,.int (.u (some 0) (some 2))],.tup [.tok 5,.int (.u (some 0) (some 2))]],jr ja (.tok 326) false 15 2 1 [.tup [.tok 3,.int (.c 0)]],jr ja (.tup []) true 15 2 1 [.tup [.tok 11,.int (.c 1)]],jr ja (.tup []) true 15 2 1 [.tup [.tok 12,.int (.c 2)]],jr ja (.tup qR) true 15 2 1 [.tup [.tok 11,.int (.c 1)]],jr ja (.tup qR) true 15 2 1 [.tup [.tok 12,.int (.c 2)]],jr fX (.tok 307) false 17 1 2 [.tup [.tok 5,.int (.u (some 0) (some 2))]],jr fX (.tok 307) false 17 1 2 [.tup [.tok 5,.int (.u (some 0) (some 2))],.tup [.tok 5,.int (.u (some 0) (some 2))]],jr fX (.tok 307) false 17 1 2 [.tup [.tok 5,.int (.u (some 0) (some 2))],.tup [.tok 5,.int (.u (some 0) (some 2))],.tup [.tok 5,.int (.u (some 0) (some 2))]],jr fX (.tok 327) false 17 1 2 [.tup [.tok 5,.int (.u (some 0) (some 2))]]]
noncomputable def Se:List (Nat×List O):=[jr fX (.tok 327) false 17 1 2 [.tup [.tok 5,.int (.u (some 0) (some 2))],.tup [.tok 5,.int (.u (some 0) (some 2))],.tup [.tok 5,.int (.u (some 0) (some 2))]],jr fX (.tok 327) false 17 1 2 [.tup [.tok 3,.int (.c 0)],.tup [.tok 5,.int (.u (some 0) (some 2))]],jr fX (.tok 327) false 17 1 2 [.tup [.tok 4,.int (.u (some 1) (some 2))],.tup [.tok 3,.int (.c 0)]],jr fX (.tup []) true 17 1 2 [.tup [.tok 11,.int (.c 1)],.tup [.tok 11,.int (.c 1)]],jr fX (.tup []) true 17 1 2 [.tup [.tok 11,.int (.c 1)],.tup [.tok 12,.int (.c 2)]],jr fX (.tup []) true 17 1 2 [.tup [.tok 12,.int (.c 2)],.tup [.tok 11,.int (.c 1)]],jr fX (.tup []) true 17 1 2 [.tup [.tok 12,.int (.c 2)],.tup [.tok 12,.int (.c 2)]],jr fX (.tup qR) true 17 1 2 [.tup [.tok 11,.int (.c 1)],.tup [.tok 11,.int (.c 1)]],jr fX (.tup qR) true 17 1 2 [.tup [.tok 11,.int (.c 1)],.tup [.tok 12,.int (.c 2)]],jr fX (.tup qR) true 17 1 2 [.tup [.tok 12,.int (.c 2)],.tup [.tok 11,.int (.c 1)]],jr fX (.tup qR) true 17 1 2 [.tup [.tok 12,.int (.c 2)],.tup [.tok 12,.int (.c 2)]],jr df (.tok 308) false 27 1 0 []]
noncomputable def Sf:List (Nat×List O):=[jr df (.tok 308) false 27 1 0 [.tup [.tok 5,.int (.u (some 0) (some 2))]],jr df (.tup q3) false 28 1 0 [.tup [.tok 5,.int (.u (some 0) (some 2))]],jr df (.tup q2) false 27 1 0 [.tup [.tok 5,.int (.u (some 0) (some 2))]],jr df (.tup q3) true 28 1 0 [],jr df (.tup q2) true 27 1 0 [],jr pu (.tok 310) false 0 0 0 [],jr pu (.tok 310) false 0 0 0 [.tup [.tok 5,.int (.u (some 0) (some 2))]]]
noncomputable def mv:gx:=pI (gR 181) []
noncomputable def xk:List (Nat×Nat):=[(403947921962099,3),(24143214,2)]
noncomputable def sC:List O:=[dE 1,.ns [(1573592589683,names)],.cell (some (.ref 0)),.cell (some (.bytes HK))]
noncomputable def gt:dy:=(HM.head?).getD ⟨[],[],[],[]⟩
noncomputable def ME:List Stmt:=(Wa 10).map λi=>d0 181 i
noncomputable def Fo:List Stmt:=(Wa 4).map λi=>d0 181 (10+i)
noncomputable def xl(x:Bool)(l:List (Nat×List O)):Bool:=dG l λJ=>gd (Vy sC.length J.2.length) ((mB (cm false x 2) 54).ex ⟨mv.ks,1,xk,false⟩ Fo (dQ J.2) (kt (m4 (toks x) gt.pre.length gt.pre gt.outs)) mr)
noncomputable def qh(b:Bool):Bool:=Bool.rec false true b
theorem xm{b:Bool}(h:qh b=true):b=true:=wY h
theorem Vf:∀x,qh (xl x Sa)=true:=λx=>by kernel_rfl
theorem Vg:∀x,qh (xl x Sb)=true:=λx=>by kernel_rfl
theorem Vh:∀x,qh (xl x Sc)=true:=λx=>by kernel_rfl
theorem Vi:∀x,qh (xl x Sd)=true:=λx=>by kernel_rfl
theorem Vj:∀x,qh (xl x Se)=true:=λx=>by kernel_rfl
theorem Vk:∀x,qh (xl x Sf)=true:=λx=>by kernel_rfl
theorem RC:∀x,qh ((mB (cm false x 2) 54).ex ⟨mv.ks,1,xk,false⟩ ME (dQ sC) (PC (toks x) 6146846053 1 (Sa++(Sb++(Sc++(Sd++(Se++Sf))))) (m4 (toks x) gt.pre.length gt.pre gt.outs)) mr)=true:=λx=>by kernel_rfl
theorem RD:∀x,qh (gd (qe (toks x) (λk=>k) (jw (λk=>k) gt.args) gt.args) (gd (Hw (toks x) (jy (λk=>k) gt.pre) gt.pre) (gd (cR (fy mv.params mv.dfl (jw (λk=>k) gt.args)) (λfull=>Prod.rec (motive:=λY=>Bool) (λfr h=>d9 fr h (L2 (toks x) xk sC mv fr) mv.params full) (eA mv.lam mv.ks [] (eO H.nil (jy (λk=>k) gt.pre)))))
 (gd (V3 gt.pre.length sC.length) (gd (Vy gt.pre.length sC.length) (dG xk λp=>V3 p.2 sC.length))))))=true:=λx=>by kernel_rfl
theorem RE:mv.body=ME++Fo:=by kernel_rfl
theorem RH:FT.get 181=some mv:=by kernel_rfl
theorem RI:HM=[gt]:=by kernel_rfl
theorem TQ{md x:Bool}{n:Nat}:(cm md x n).F=FT:=by unfold cm cx;rfl
theorem TS{md x:Bool}{n:Nat}:(cm md x n).toks=toks x:=by unfold cm cx;rfl
theorem AW{x:Bool}{l:List (Nat×List O)}{J:Nat×List O}(h:qh (xl x l)=true)(hJ:J∈l):gd (Vy sC.length J.2.length) ((mB (cm false x 2) 54).ex ⟨mv.ks,1,xk,false⟩ Fo (dQ J.2) (kt (m4 (toks x) gt.pre.length gt.pre gt.outs)) mr)=true:=by
 have q:=c9 (xm h) hJ
 exact q
theorem RJ{x:Bool}:∀J,J∈Sa++(Sb++(Sc++(Sd++(Se++Sf))))->gd (Vy sC.length J.2.length) ((mB (cm false x 2) 54).ex ⟨mv.ks,1,xk,false⟩ Fo (dQ J.2) (kt (m4 (toks x) gt.pre.length gt.pre gt.outs)) mr)=true:=λJ h=>
 (List.mem_append.mp h).elim (λh=>AW (Vf x) h) λh=>(List.mem_append.mp h).elim (λh=>AW (Vg x) h) λh=>(List.mem_append.mp h).elim (λh=>AW (Vh x) h) λh=>(List.mem_append.mp h).elim (λh=>AW (Vi x) h) λh=>(List.mem_append.mp h).elim (λh=>AW (Vj x) h) λh=>AW (Vk x) h
theorem H4{x:Bool}{C:i5}(eC:C=cm false x 2)(eT:C.toks=toks x)(eF:C.F=FT):L3 C 54 181 gt:=by
 have A:=xm (RC x)
 have B:=xm (RD x)
 have D:=@RJ x
 rw[<-eT] at A B D
 rw[<-eC] at A D
 exact cT B λh1 h=>cT h λh2 h=>cT h λh3 h4=>.mk mv xk sC 6146846053 (Sa++(Sb++(Sc++(Sd++(Se++Sf))))) ME Fo gt.args gt.pre h1 h2 (eF▸RH) RE h3 h4 A D
theorem MF:R8 2 181 HM:=λe he x=>by
 rw[RI] at he
 cases List.mem_singleton.mp he
 exact .c (H4 rfl TS TQ)
theorem H5:sq:=(gq (gq (gq (gq (gq gb (cY TL) gb) (cY TF) (gq gb (cY TG) gb)) (cY TA) (gq (gq gb (eI (eI (eI (cY TH) (cY TJ)) (eI (cY TN) (cY TM))) (eI (eI (cY TB) (cY TP)) (eI (cY QH) (eI (cY QY) (cY Qr))))) gb) (cY Q5) gb)) (cY Qs) (gq (gq (gq gb (cY Q6) gb) (cY Qk) gb) (cY Qt) (gq (gq gb (wZ (fE (dn Ru) (fE (dn QA) (fE (dn QP) (fE (dn Qi) (fE (dn Qp) (fE (dn Rv) (fE (dn QC) w0)))))))) gb) (wZ (fE (dn Q3) (fE (dn Rb) (fE (dn Rk) (fE (dn Rw) (fE (dn QD) (fE (dn QQ) w0))))))) gb))) (cY Q7) (gq (gq (gq (gq gb (wZ (fE (dn Rm) (fE (dn Rx) (fE (dn QE) w0)))) gb) (wZ (fE (dn QG) (fE (dn QR) (fE (dn Q4) (fE (dn Rc) (fE (dn Rn) (fE (dn Rd) w0))))))) gb) (cY Ql) (gq (gq gb (cY Ry) gb) (wZ (fE (dn QT) (fE (dn Ro) (fE (dn Re) w0)))) gb)) (eI (eI (eI (eI (cY Qu) (cY QJ)) (eI (cY QZ) (cY Rf))) (eI (eI (cY Q8) (cY Rg)) (eI (cY Rp) (eI (cY Rz) (cY Qv))))) (eI (eI (eI (cY QK) (cY Q0)) (eI (cY Q9) (eI (cY Rq) (cY Rh)))) (eI (eI (cY Rr) (cY Qw)) (eI (cY RA) (eI (cY Qx) (cY Qm)))))) (gq (gq (gq gb (cY Qy) gb) (wZ (fE (dn QX) (fE (dn Qj) (fE (dn Qq) w0)))) gb) (wZ (fE (MF) w0)) (gq (gq gb (cY Rs) gb) (eI (eI (eI (cY QN) (eI (cY Q1) (cY Ra))) (eI (cY Qn) (eI (cY Ri) (cY Rt)))) (eI (eI (cY Qz) (eI (cY Qo) (cY RB))) (eI (cY QO) (eI (cY Q2) (cY Rj))))) gb))))
theorem H6:RG.Holds:=by
 refine holds_law Ce λsaid=>?_
 refine Fg (r:=RG.row) (q:=qG) (loose:=loose) (Xt:=Xt) (XP:=XL qG []) (Yf:=Yf) (Ya:=Ya) (N:=8000) jg (λs e=>xl_of s (Bool.and_eq_true_iff.mp e).1) XL.keeps Kd Ke (by kernel_rfl)
  (λs e=>recFacts_of (Bool.and_eq_true_iff.mp e).2) rfl said NK ⟨rfl,rfl,rfl,rfl,rfl,NI⟩ Ci λw s₀ aa mg mb Y y Y hm g Y args vals as L hpre Y=>Fn H5 y hm g L hpre
end Mine.Tactic
theorem PySem.Challenge.cw_pq0653_01_holds : PySem.Challenge.rw_pq0653_01.Holds :=
  Mine.Tactic.H6
