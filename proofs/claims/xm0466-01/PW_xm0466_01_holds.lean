import PyProof.Rows.All
import Open.Line
import Wide.FinOn
import OpenK.AllK
import Wide.All
import Lean
import PySem.Challenge.RW_xm0466_01
set_option Elab.async false
set_option linter.all false
set_option maxRecDepth 100000
set_option maxHeartbeats 0
set_option bootstrap.genMatcherCode false
set_option genSizeOf false
set_option genCtorIdx false
set_option compiler.extract_closed false
set_option compiler.reuse false
section
namespace Mine.Lake
@[elab_as_elim] theorem rwl{α:Sort _}{a b:α}{p:α->Prop}(h:a=b)(x:p b):p a:=h▸x
@[elab_as_elim] theorem rwr{α:Sort _}{a b:α}{p:α->Prop}(h:b=a)(x:p b):p a:=h▸x
theorem an2{A B G:Prop}(h:A/\B)(k:A->B->G):G:=k h.1 h.2
theorem an3{A B C G:Prop}(h:A/\B/\C)(k:A->B->C->G):G:=k h.1 h.2.1 h.2.2
theorem an4{A B C D G:Prop}(h:A/\B/\C/\D)(k:A->B->C->D->G):G:=an3 h.2 (k h.1)
theorem an5{A B C D E G:Prop}(h:A/\B/\C/\D/\E)(k:A->B->C->D->E->G):G:=an4 h.2 (k h.1)
theorem an6{A B C D E F G:Prop}(h:A/\B/\C/\D/\E/\F)(k:A->B->C->D->E->F->G):G:=an5 h.2 (k h.1)
theorem an7{A B C D E F H G:Prop}(h:A/\B/\C/\D/\E/\F/\H)(k:A->B->C->D->E->F->H->G):G:=an6 h.2 (k h.1)
theorem an8{A B C D E F H I G:Prop}(h:A/\B/\C/\D/\E/\F/\H/\I)(k:A->B->C->D->E->F->H->I->G):G:=an7 h.2 (k h.1)
theorem ex1{α:Sort _}{p:α->Prop}{G:Prop}(h:∃x,p x)(k:∀x,p x->G):G:=h.elim k
theorem ex2{α β:Sort _}{p:α->β->Prop}{G:Prop}(h:∃x y,p x y)(k:∀x y,p x y->G):G:=h.elim λx h=>h.elim (k x)
theorem ex3{α β a:Sort _}{p:α->β->a->Prop}{G:Prop}(h:∃x y z,p x y z)(k:∀x y z,p x y z->G):G:=h.elim λx h=>ex2 h (k x)
theorem ex4{α β a c:Sort _}{p:α->β->a->c->Prop}{G:Prop}(h:∃x y z w,p x y z w)(k:∀x y z w,p x y z w->G):G:=h.elim λx h=>ex3 h (k x)
theorem ex5{α β a c f:Sort _}{p:α->β->a->c->f->Prop}{G:Prop}(h:∃x y z w v,p x y z w v)(k:∀x y z w v,p x y z w v->G):G:=h.elim λx h=>ex4 h (k x)
end Mine.Lake
namespace Mine.Lake
open Lean
def dq(s:String)(l:List Syntax):Syntax:=.node .none s.toName l.toArray
def fv(s:String)(a b:Syntax):Syntax:=dq s [a,b]
def qz(s:String)(a b c:Syntax):Syntax:=dq s [a,b,c]
def iH(s:String):Syntax:=mkIdent s.toName
def qA(e:Syntax)(l:List Syntax):Syntax:=fv "Lean.Parser.Term.app" e (dq "null" l)
def qB(x:Syntax):MacroM Syntax:=bif x.isMissing then Macro.throwUnsupported else pure x
def qC(f:Syntax->Syntax):List Syntax->List Syntax
 |[]=>[]|a::l=>f a::qC f l
def qE(f e:Syntax):Syntax:=fv "Lean.Parser.Tactic.refine" e (qA f [e,fv "Lean.Parser.Term.syntheticHole" .missing .missing])
def Ck(l:List Syntax):Syntax:=fv "Lean.Parser.Tactic.first" .missing (dq "null" (qC (λt=>fv "null" t t) l))
def tS:List Syntax->Syntax
 |[]=>.missing|a::l=>qz "Lean.Parser.Tactic.«tactic_<;>_»" a .missing (tS l)
def k9:Syntax:=iH "zh"
def xr(s:String):Syntax:=fv ("Lean.Parser.Tactic." ++s) k9 (dq "null" [k9])
def Cm(p:Syntax):Syntax:=fv "null" (xr "intro") (dq "Lean.Parser.Tactic.obtain" [p,dq "null" [p],dq "null" [],fv "null" p (dq "null" [k9])])
def Cn(p:Syntax):Syntax:=qz "Lean.Parser.Tactic.rintro" p (dq "null" [p]) (dq "null" [])
def xt(p:Syntax):Bool:=p.getNumArgs==1&&p[0].isOfKind `Lean.Parser.Tactic.rcasesPat.tuple
def KE(p:Syntax):Syntax:=bif xt p[0][0]then Cm p else Cn (dq "Lean.Parser.Tactic.rintroPat.one" [qz "Lean.Parser.Tactic.rcasesPat.paren" p p p])
def xu(e:Syntax)(ts:List Syntax):Nat->List Syntax
 |0=>[k9]|k+1=>
  let l:=ts.drop k
  let g:=iH s!"Mine.Lake.an{l.length}"
  bif k==0 then tS (qE g e::l)::xu e ts k
  else tS (qE (iH s!"Mine.Lake.ex{k}") e::ts.take k++bif l.length==1 then l else qz "null" (xr "intro") (qE g k9) (xr "clear")::l)::xu e ts k
def KG(x:Syntax):Syntax:=
 let s:=x[2]
 let r:=s[1]
 let a:=r[0]
 let y (a:Array Syntax):Syntax:=x.setArg 2 (s.setArg 1 (mkNullNode a))
 bif x[3].getNumArgs+x[1][0].getNumArgs !=0 then .missing
 else bif r.getNumArgs !=1 then fv "null" (y #[a]) (y (r.getArgs.extract 2))
 else
  let f:=iH (bif a[0].getNumArgs==0 then "Mine.Lake.rwl" else "Mine.Lake.rwr")
  let e:=a[1]
  Ck [qE f (qA e [dq "Lean.Parser.Term.ellipsis" []]),qE f e,f]
def KH(x:Syntax):Syntax:=
 let m:=x[1][0][0]
 let l:=qC KE m[0][1].getSepArgs.toList
 let n:=l.length
 bif x[2].getNumArgs==0&&x[3].getNumArgs !=0&&xt m&&Nat.ble 2 n&&Nat.ble n 8 then Ck (xu x[3][1][0] l (min n 6))else .missing
def Co(p:Syntax):Bool:=p.isOfKind `Lean.Parser.Tactic.rintroPat.one&&xt p
def Cp:List Syntax->Bool
 |[]=>false|a::l=>Co a||Cp l
def KJ(x:Syntax):Syntax:=
 let l:=x[1].getArgs.toList
 bif Cp l&&x[2].getNumArgs==0 then tS (qC (λp=>bif Co p then Cm (dq "Lean.Parser.Tactic.rcasesPatMed" [dq "null" [p[0]]])else Cn p) l)else .missing
end Mine.Lake
open Lean Mine.Lake in
local macro_rules (kind:=Lean.Parser.Tactic.rewriteSeq)
 |x=>qB (KG x)
open Lean Mine.Lake in
local macro_rules (kind:=Lean.Parser.Tactic.obtain)
 |x=>qB (KH x)
open Lean Mine.Lake in
local macro_rules (kind:=Lean.Parser.Tactic.rintro)
 |x=>qB (KJ x)
namespace Mine.Lake
open Lean
def Sb(t x y:Nat):Prop:=y<=x/\x=t+y\/x<=y/\t=0
def Hf(t x:Nat):Prop:=2*t<=x/\x<=2*t+1
def Mn(t x y:Nat):Prop:=x<=y/\t=x\/y<=x/\t=y
def Mx(t x y:Nat):Prop:=x<=y/\t=y\/y<=x/\t=x
def fy(n:Nat):Nat×Nat:=
 bif Nat.blt (n % 16) 11 then(n % 16,n / 16)
 else bif Nat.beq (n % 16) 15 then(4194304,n / 16)
 else(λk=>((n / 16) % 16 ^ k,n / 16 / 16 ^ k)) ((n % 16 - 10)*(n % 16 - 9) / 2)
def xv(r:Nat->Nat->Syntax×Nat):List Char->Nat->List Syntax×Nat
 |[],m=>([],m)|k::l,m=>
  let x:=r (k.toNat % 16) m
  let y:=xv r l x.2
  (x.1::y.1,y.2)
def Cq:Nat->Nat->Nat->Syntax×Nat
 |0,_,n=>(.missing,n)|f+1,k,n=>
  let c:=n % 16
  let m:=n / 16
  let t:=iH (bif k==3 then "Nat" else "Int")
  let g (s:String) (l:List Syntax):=qA (fv "Lean.Parser.Term.explicit" t (iH s)) (t::l)
  let h:=dq "Lean.Parser.Term.hole" [t]
  bif Nat.ble 3 k then let a:=fy n;(g "OfNat.ofNat" [fv "rawNatLit" t (Syntax.mkNatLit a.1),h],a.2)
  else bif k==0&&c==15 then(iH s!"a{m % 16 + 11}",m / 16)
  else
   let p:=((("HAdd.hAdd,00 ,3 HMul.hMul,30 HMul.hMul,03 a0 a1 a2 a3 a4 a5 a6 a7 a8 a9 a10  HAdd.hAdd,11 ,4 HMul.hMul,41 HSub.hSub,11 Neg.neg,1 Nat.cast,0 a20 a21 a22 a23 a24 a25 a26 a27 a28 a29 LE.le,00 Eq,00 LE.le,11 Eq,11 False Not,2 And,22 Or,22 LT.lt,00 Mine.Lake.Sb,000 Mine.Lake.Hf,00 Mine.Lake.Mn,000 Mine.Lake.Mx,000".splitOn " ").getD (16*k+c) "").splitOn ",")
   let r:=xv (Cq f) (p.getD 1 "").toList m
   let s:=p.headD ""
   (bif s== "" then r.1.headD h else bif s== "Nat.cast" then g s (h::r.1)else qA (iH s) r.1,r.2)
def Cr(c:Char):List Char->Nat
 |[]=>0|a::l=>bif a==c then 0 else Cr c l+1
def Cs:List Char->Nat->Nat
 |[],n=>n|c::r,n=>Cs r (n*70+Cr c "0123456789;<=>?ABCDEFGHIJKLMNOPQRSTUVWXYZ_abcdefghijklmnopqrstuvwxyz|^".toList)
def Ct(t:Syntax):List Syntax->Syntax
 |[]=>t|h::l=>qz "Lean.Parser.Term.arrow" h t (Ct t l)
def Cu(o:Nat):Nat->List Syntax
 |0=>[]|k+1=>iH s!"a{o}" ::Cu (o+1) k
def Cv(t:String)(o k:Nat):Syntax:=dq "Lean.Parser.Term.strictImplicitBinder" [k9,dq "null" (Cu o k),fv "null" k9 (iH t),k9]
def KL(x:Syntax):Syntax:=
 match(x.isStrLit?.getD "").toList with
 |[]=>.missing|a::l=>
  bif a !='~' then .missing else
  let n:=Cs l 0
  let a:=fy n
  let q:=xv (Cq 99) (List.replicate (a.2 / 16 % 16+1) '2') (a.2 / 256)
  qA (iH "Mine.Lake.lie") [fv "rawNatLit" x (Syntax.mkNatLit n),dq "Lean.Parser.Term.forall" [x,fv "null" (Cv "Nat" 0 a.1) (Cv "Int" 20 (a.2 % 16)),dq "null" [],x,Ct (q.1.headD x) q.1.tail],fv "Lean.Parser.Term.byTactic" x (dq "tacticKernel_rfl" [x])]
end Mine.Lake
open Lean Mine.Lake in
local macro_rules (kind:=str)
 |x=>qB (KL x)
namespace Mine.Lake
open Lean
def Cw:Nat->Syntax->Syntax
 |0,x=>x
 |n+1,x=>match x with
  |.node _ k a=>.node .none k (qC (Cw n) a.toList).toArray|.atom _ s=>.atom .none s|.ident _ r v p=>.ident .none r v p|.missing=>.missing
def KO(x:Syntax):Syntax:=
 let m:=x[0]
 let d:=x[1]
 let c (s:String):=d.isOfKind (.str `Lean.Parser.Command s)
 let n:=x.setArg 0 ((m.setArg 1 mkNullNode).setArg 4 (dq "null" [dq "Lean.Parser.Command.noncomputable" [.atom .none "noncomputable"]]))
 bif m[4].getNumArgs !=0 then .missing
 else bif c "definition" then
  bif d[2][1].getNumArgs==0 then n else
  x.setArg 1 (dq "Lean.Parser.Command.theorem" [.atom .none "theorem",d[1],fv "Lean.Parser.Command.declSig" d[2][0] d[2][1][0],d[3]])
 else bif c "abbrev" then
  bif m[1].getNumArgs !=0 then n else n.setArg 1 (dq "Lean.Parser.Command.definition" [.atom .none "def",d[1],d[2],d[3],mkNullNode])
 else bif c "instance" then n
 else bif x.getPos?.isSome then Cw 9999 x
 else .missing
end Mine.Lake
open Lean Mine.Lake in
local macro_rules (kind:=Lean.Parser.Command.declaration)
 |x=>qB (KO x)
set_option genInjectivity false
set_option backward.match.sparseCases false
namespace Mine.Lake
def ab:=@if_neg
def ah:=@if_pos
def aj:=@PySem.wpAny_bind
def av:=@Nat.le_refl
def ay:=@Option.some.inj
def aA:=@List.prefix_refl
def aB:=@List.mem_singleton
def aE:=@congrArg
def aG:=@PySem.wpAny_pure
def aH:=@beq_iff_eq
def aJ:=@PyProof.Rows.wpS_bind
def aL:=@Nat.le_trans
def aZ:=@List.mem_append
def a8:=@PyProof.Rows.wpS_pure
def bb:=@Nat.zero_le
def bh:=@Bool.and_eq_true_iff
def bj:=@List.contains_iff_mem
def br:=@List.mem_cons_self
def bH:=@List.mem_cons
def bI:=@List.length_cons
def bP:=@Nat.le_of_ble_eq_true
def bW:=@List.getElem?_eq_some_iff
def bX:=@List.length_map
def b4:=@decide_eq_true
def b5:=@List.mem_cons_of_mem
def b9:=@List.append_nil
def b_:=@List.length_append
def cc:=@decide_eq_false
def cr:=@PySem.W.look_both
def cB:=@beq_eq_false_iff_ne
def cR:=@PySem.wpAny_standAt
def c6:=@List.append_assoc
def c7:=@List.mem_filter
def dh:=@List.nil_append
def dm:=@PySem.wpAny_holding
def dy:=@List.mem_append_left
def dF:=@Array.length_toList
def dG:=@List.length_nil
def dJ:=@List.flatMap_cons
def dU:=@List.not_mem_nil
def dV:=@Bool.false_ne_true
def ea:=@List.mem_map
def ek:=@List.all_eq_true
def el:=@Bool.eq_false_iff
def eo:=@Nat.le_add_right
def eI:=@Array.getElem?_toList
def eR:=@List.map_cons
def eS:=@PyProof.Rows.wpS_mono
def e_:=@Int.le_trans
def fu:=@List.mem_flatMap
def fK:=@Nat.lt_of_le_of_lt
def fL:=@List.nodup_cons
def fM:=@Nat.mul_le_mul_right
def gf:=@PySem.Heap.get?_push_of_some
def gg:=@PyProof.Rows.wpS_forRange
def gS:=@Int.le_refl
def gU:=@PySem.wpAny_rule
def gV:=@Nat.le_of_eq
def gW:=@Array.toList_append
def gX:=@PySem.wpAny_mono
def gY:=@Nat.lt_of_lt_of_le
def iD:=@List.getElem?_eq_getElem
def iE:=@PySem.Heap.get?_push_size
def iF:=@List.nodup_nil
def iG:=@List.forall_mem_cons
def jc:=@List.length_set
def jd:=@PySem.Heap.lt_size
def je:=@Bool.false_eq_true
def jf:=@if_false
def jg:=@List.filter_cons
def jh:=@List.mem_append_right
def ji:=@List.flatMap_nil
def jO:=@beq_self_eq_true
def jP:=@Int.not_lt
def jQ:=@Nat.le_of_lt
def jR:=@List.length_filter_le
def jS:=@List.cons.inj
def kO:=@Int.le_of_lt
def kP:=@PySem.wpAny_field
def kQ:=@List.map_append
def kR:=@List.set_set
def kU:=@Nat.succ.inj
def kV:=@List.mem_of_getElem?
def kW:=@List.pairwise_cons
def kX:=@or_false
def kY:=@Nat.succ_mul
def kZ:=@PyProof.Rows.wpS_get
def k8:=@Nat.add_sub_cancel'
def mq:=@of_decide_eq_true
def ms:=@PySem.wpAny_of_eq
def mu:=@Bool.and_eq_true
def mv:=@List.lookup_cons
def mw:=@false_implies
def mx:=@implies_true
def my:=@and_true
def n1:=@List.getElem?_map
def n4:=@Nat.eq_of_beq_eq_true
def n5:=@PySem.wpAny_call_entry
def n6:=@Array.toList_push
def n7:=@List.getElem?_append_left
def n8:=@PySem.intKind_is
def n9:=@Nat.ne_of_lt
def qd:=@congrFun
def qe:=@Function.comp_apply
def qf:=@Nat.zero_add
def qg:=@List.getElem?_set_self
def qh:=@List.getElem?_set_ne
def qi:=@PySem.sizeLine_eq
def qj:=@List.any_eq_true
def qk:=@List.map_map
def ql:=@Nat.lt_succ_of_le
def qm:=@Option.isSome_iff_exists
def qn:=@Nat.le_succ_of_le
def qo:=@if_true
def qp:=@Array.size_push
def qr:=@List.mem_iff_getElem?
def qs:=@List.map_nil
def qt:=@Bool.or_eq_false_iff
def qu:=@Bool.not_eq_true'
def qv:=@List.flatMap_append
def qw:=@List.take_append_drop
def qx:=@Array.toList_extract
def qy:=@List.extract_eq_take_drop
def tB:=@List.isEmpty_iff
def tC:=@Nat.add_assoc
def tD:=@Nat.lt_irrefl
def tE:=@PySem.strKind_is
def tF:=@Nat.le_succ
def tG:=@List.take_of_length_le
def tH:=@List.any_cons
def tI:=@List.getElem?_drop
def tJ:=@Nat.not_lt
def tK:=@Bool.or_eq_true
def tL:=@Nat.one_le_pow
def tM:=@Nat.one_mul
def tN:=@Nat.le_mul_of_pos_left
def tP:=@Nat.zero_lt_one
def tQ:=@List.reverse_append
def tR:=@List.mem_reverse
def wZ:=@Int.natCast_nonneg
def w7:=@Nat.le_total
def w8:=@Nat.le_of_lt_succ
def w9:=@Nat.succ_le_succ
def w_:=@PySem.wpAny_callSpecial?_slot
def xa:=@PySem.wpAny_newObj_type
def xc:=@List.length_eq_zero_iff
def xd:=@PySem.Heap.get?_update_self
def xe:=@PySem.Heap.get?_update_ne
def xf:=@List.map_congr_left
def xg:=@Array.getElem?_eq_getElem
def xh:=@List.filter_eq_nil_iff
def xj:=@Nat.ne_of_gt
def xk:=@Bool.or_false
def xl:=@List.getElem?_take
def xm:=@Nat.le_add_left
def xn:=@Nat.pow_succ
def xo:=@decide_eq_true_iff
def xp:=@Nat.le_of_succ_le
def xq:=@PyProof.Rows.K_mirror_equal
def BF:=@Int.ofNat_inj
def BG:=@Nat.min_eq_left
def BH:=@Nat.min_eq_right
def BI:=@Nat.max_eq_right
def BJ:=@Int.toNat_of_nonneg
def BK:=@List.take_nil
def BL:=@List.drop_nil
def BM:=@PySem.F.slot_tuple_hash
def BN:=@PySem.wpAny_isInstance
def BO:=@Nat.le_of_succ_le_succ
def BP:=@Nat.le_antisymm
def BQ:=@Nat.le_of_not_lt
def BR:=@Int.not_le
def BS:=@PySem.F.slot_tuple_getitem
def BU:=@Nat.sub_le
def BV:=@List.size_toArray
def BW:=@Bool.and_false
def BX:=@PySem.wpAny_attempt
def BY:=@PySem.F.plain_any_loop
def BZ:=@List.nodup_append
def B0:=@PySem.wpAny_operating
def B3:=@PySem.arm_eval_BoolOp
def B4:=@List.all_cons
def B5:=@PySem.Calls.spliced_cons
def B6:=@PySem.arm_eval_Call_Name'
def B7:=@PySem.wpAny_release
def B8:=@PySem.wpAny_execs_nil
def B9:=@Bool.or_eq_true_iff
def B':=@Nat.not_lt_zero
def B_:=@List.contains_cons
def Ca:=@Nat.zero_mul
def Cb:=@Nat.mul_comm
def Cc:=@of_decide_eq_false
def Cd:=@List.pairwise_append
def Ce:=@List.drop_drop
def Cf:=@Array.size_append
def Cg:=@List.reverse_reverse
def Ch:=@Nat.pos_of_ne_zero
def Ci:=@Nat.add_le_add_left
def JZ:=@Classical.byContradiction
def J0:=@Nat.sub_add_cancel
def J1:=@PySem.Str.ofString_eq_toList
def J2:=@List.cons.injEq
def J3:=@decide_eq_decide
def J4:=@PySem.wpAny_isNot_plain
def J5:=@List.toList_toArray
def J8:=@Array.toList_setIfInBounds
def J9:=@PySem.Calls.spliced_nil
def J':=@PySem.Calls.evalArgs_plain
def J_:=@PySem.F.plainAttrs_list
def Ka:=@Nat.lt_succ_self
def Kb:=@Nat.not_succ_le_zero
def Kd:=@List.take_length
def Kf:=@List.getElem?_append_right
def Kh:=@List.length_drop
def Ki:=@List.length_eq_one_iff
def Kj:=@List.filter_nil
def Kk:=@Nat.lt_succ_of_lt
def Km:=@List.length_singleton
def Kn:=@List.take_succ_cons
def Kq:=@List.drop_eq_getElem_cons
def Kr:=@Nat.eq_or_lt_of_le
def Kt:=@List.pairwise_iff_getElem
def Ku:=@Nat.add_lt_add_left
def Kv:=@Array.toList_reverse
def Kw:=@List.reverse_perm
def Kx:=@List.pairwise_reverse
def Ky:=@List.take_zero
def Kz:=@List.length_take
def KC:=@Array.perm_iff_toList_perm
def KD:=@Int.le_antisymm
def XJ:=@List.getElem?_concat_length
def XK:=@Option.isNone_iff_eq_none
def XM:=@Int.fmod_eq_emod_of_nonneg
def XN:=@Nat.lt_of_add_lt_add_left
def bo:=@List.casesOn
def aX:=@Option.casesOn
def dK:=@Nat.casesOn
def aS:=@Bool.casesOn
def eJ:=@PySem.Expr.casesOn
def Cj:=@PySem.Value.casesOn
inductive LX where |v (i:Nat) |k (n:Nat) |a (x y:LX) |m (n:Nat) (x:LX) |r (x:LX) (n:Nat)
inductive IX where |v (i:Nat) |k (n:Nat) |a (x y:IX) |s (x y:IX) |g (x:IX) |m (n:Nat) (x:IX) |u (x:LX)
inductive LF where |le (x y:LX) |eq (x y:LX) |il (x y:IX) |ie (x y:IX) |ff |no (p:LF) |an (p q:LF) |or (p q:LF)
structure Lv where
 c:List Nat
 d:List Int
section
abbrev LX.d(c:List Nat):LX->Nat
 |.v i=>c[i]?.getD 0|.k n=>n|.a x y=>x.d c+y.d c|.m n x=>n*x.d c|.r x n=>x.d c*n
abbrev IX.d(e:Lv):IX->Int
 |.v i=>e.d[i]?.getD 0|.k n=>n|.a x y=>x.d e+y.d e|.s x y=>x.d e - y.d e|.g x=>- x.d e|.m n x=>n*x.d e|.u x=>(x.d e.c:Nat)
abbrev LF.d(e:Lv):LF->Prop
 |.le x y=>x.d e.c<=y.d e.c|.eq x y=>x.d e.c=y.d e.c|.il x y=>x.d e<=y.d e|.ie x y=>x.d e=y.d e|.ff=>False|.no p=>¬ p.d e|.an p q=>p.d e/\q.d e|.or p q=>p.d e\/q.d e
@[inline]abbrev LL:=List Int×List Int
abbrev mz:List Int->List Int->List Int
 |[]=>λy=>y
 |a::x=>λy=>match y with |[]=>a::x |b::y=>(a+b)::mz x y
abbrev k_(x y:LL):LL:=(mz x.1 y.1,mz x.2 y.2)
abbrev lb(k:Int)(x:LL):LL:=(x.1.map (k*·),x.2.map (k*·))
abbrev qF(i:Nat):List Int:=List.replicate i 0++[1]
abbrev LX.l:LX->LL
 |.v i=>(0::qF i,[])|.k n=>([(n:Int)],[])|.a x y=>k_ x.l y.l|.m n x=>lb n x.l|.r x n=>lb n x.l
abbrev IX.l:IX->LL
 |.v i=>([],qF i)|.k n=>([(n:Int)],[])|.a x y=>k_ x.l y.l|.s x y=>k_ x.l (lb (-1) y.l)|.g x=>lb (-1) x.l|.m n x=>lb n x.l|.u x=>x.l
abbrev cX:List Int->List Int->Int
 |[]=>λJ=>0
 |a::x=>λc=>a*(c.headD 0)+cX x c.tail
abbrev Lv.e(e:Lv)(x:LL):Int:=cX x.1 (1::e.c.map λ(n:Nat)=>(n:Int))+cX x.2 e.d
def Cy(x:List Int):∀y c,cX (mz x y) c=cX x c+cX y c:=by
 induction x with
 |nil=>exact λy c=>(Int.zero_add _).symm|cons a x ih=>
  intro y c;cases y with
  |nil=>exact(Int.add_zero _).symm|cons b y=>
   show(a+b)*_+cX (mz x y) c.tail=a*_+cX x c.tail+(b*_+cX y c.tail);rw[ih,Int.add_mul];omega
def Cz(k:Int)(x:List Int):∀c,cX (x.map (k*·)) c=k*cX x c:=by
 induction x with
 |nil=>exact λc=>(Int.mul_zero k).symm|cons a x ih=>
  intro c;show k*a*_+cX (x.map (k*·)) c.tail=k*(a*_+cX x c.tail);rw[ih,Int.mul_add,Int.mul_assoc]
def CA(i:Nat):∀c,cX (qF i) c=c[i]?.getD 0:=by
 induction i with
 |zero=>
  intro c;cases c with
  |nil=>rfl|cons a c=>show 1*a+0=a;omega
 |succ i ih=>
  intro c;show 0*_+cX (qF i) c.tail=_;rw[ih,Int.zero_mul,Int.zero_add];cases c <;>rfl
variable{e:Lv}
def Lv.add(x y:LL):e.e (k_ x y)=e.e x+e.e y:=by
 show cX (mz _ _) _+cX (mz _ _) _=cX _ _+cX _ _+(cX _ _+cX _ _);rw[Cy,Cy];omega
def Lv.sc(k:Int)(x:LL):e.e (lb k x)=k*e.e x:=by
 show cX (List.map _ _) _+cX (List.map _ _) _=k*(cX _ _+cX _ _);rw[Cz,Cz,Int.mul_add]
def CB(n:Nat):e.e ([(n:Int)],[])=n:=by
 show(n:Int)*1+0+0=n;omega
def qG(x:LX):e.e x.l=(x.d e.c:Nat):=by
 induction x with
 |v i=>
  show 0*1+cX (qF i) (e.c.map _)+0=(((e.c)[i]?.getD 0:Nat):Int);rw[CA,n1];cases(e.c)[i]? <;>simp
 |k n=>exact CB n|a x y ih c=>exact(Lv.add ..).trans (by rw[ih,c];rfl)|m n x ih=>exact(Lv.sc ..).trans (by rw[ih];rfl)|r x n ih=>exact(Lv.sc ..).trans (by rw[ih,Int.mul_comm];rfl)
def tT(x:IX):e.e x.l=x.d e:=by
 induction x with
 |v i=>exact(Int.zero_add _).trans (CA i e.d)|k n=>exact CB n|a x y ih c=>exact(Lv.add ..).trans (by rw[ih,c];rfl)|s x y ih c=>exact(Lv.add ..).trans (by rw[Lv.sc,ih,c];show _=x.d e - y.d e;omega)|g x ih=>exact(Lv.sc ..).trans (by rw[ih];show _=- x.d e;omega)|m n x ih=>exact(Lv.sc ..).trans (by rw[ih];rfl)|u x=>exact qG x
abbrev n'(x y:LL):LL:=k_ y (lb (-1) x)
abbrev qH(x y:LL):LL:=k_ (n' x y) ([-1],[])
def tU(x y:LL):e.e (n' x y)=e.e y - e.e x:=by
 unfold n';rw[Lv.add,Lv.sc];omega
def xw(x y:LL):e.e (qH x y)=e.e y - e.e x - 1:=by
 unfold qH;rw[Lv.add,tU];show _+(-1*1+0+0)=_;omega
abbrev mB(b:Bool)(p:Prop):Prop:=match b with |true=>p |false=>¬ p
@[inline]abbrev mo:=List (Bool×LF)×List LL
abbrev n_(x y:LL)(q:Bool)(b:Bool):List mo:=match q with
 |false=>(match b with |true=>[([],[n' x y])] |false=>[([],[qH y x])])
 |true=>(match b with |true=>[([],[n' x y,n' y x])] |false=>[([],[qH x y]),([],[qH y x])])
abbrev LF.x:LF->Bool->List mo
 |.le x y=>n_ x.l y.l false|.eq x y=>n_ x.l y.l true|.il x y=>n_ x.l y.l false|.ie x y=>n_ x.l y.l true|.ff=>λb=>match b with |true=>[] |false=>[([],[])]
 |.no p=>λb=>[([(!b,p)],[])]
 |.an p q=>λb=>match b with |true=>[([(b,p),(b,q)],[])] |false=>[([(b,p)],[]),([(b,q)],[])]
 |.or p q=>λb=>match b with |false=>[([(b,p),(b,q)],[])] |true=>[([(b,p)],[]),([(b,q)],[])]
abbrev mC(e:Lv)(a:mo):Prop:=(∀t∈a.1,mB t.1 (t.2.d e))/\∀f∈a.2,0<=e.e f
def CC{x y:LL}{P:Prop}(h:P↔e.e x<=e.e y)(b:Bool)(J:mB b P):∃a∈n_ x y false b,mC e a:=by
 cases b with
 |true=>exact⟨_,.head _,nofun,λf hf=>by rw[aB.mp hf,tU];have:=h.mp J;omega⟩|false=>exact⟨_,.head _,nofun,λf hf=>by rw[aB.mp hf,xw];have:=mt h.mpr J;omega⟩
def CD{x y:LL}{P:Prop}(h:P↔e.e x=e.e y)(b:Bool)(J:mB b P):∃a∈n_ x y true b,mC e a:=by
 cases b with
 |true=>exact⟨_,.head _,nofun,λf hf=>by
   have:=h.mp J;rcases bH.mp hf with hf |hf
   .rw[hf,tU];omega
   .rw[aB.mp hf,tU];omega⟩
 |false=>
  have:=mt h.mpr J;by_cases Y:e.e x < e.e y
  .exact⟨_,.head _,nofun,λf hf=>by rw[aB.mp hf,xw];omega⟩
  .exact⟨_,.tail _ (.head _),nofun,λf hf=>by rw[aB.mp hf,xw];omega⟩
def qI{b:Bool}{p:LF}(h:mB b (p.d e)):mC e ([(b,p)],[]):=⟨λt f=>by rw[aB.mp f];exact h,nofun⟩
def CF{b:Bool}{p q:LF}(h:mB b (p.d e))(k:mB b (q.d e)):mC e ([(b,p),(b,q)],[]):=⟨λt f=>(bH.mp f).elim (λf=>by rw[f];exact h) λf=>by rw[aB.mp f];exact k,nofun⟩
def LF.KP(p:LF)(b:Bool)(h:mB b (p.d e)):∃a∈p.x b,mC e a:=by
 cases p with
 |le x y=>exact CC (by rw[qG,qG];exact Int.ofNat_le.symm) b h|eq x y=>exact CD (by rw[qG,qG];exact BF.symm) b h|il x y=>exact CC (by rw[tT,tT];exact Iff.rfl) b h|ie x y=>exact CD (by rw[tT,tT];exact Iff.rfl) b h|ff=>cases b with |true=>exact h.elim |false=>exact⟨_,.head _,nofun,nofun⟩
 |no p=>exact⟨_,.head _,qI (by cases b with |true=>exact h |false=>exact Classical.not_not.mp h)⟩|an p q=>
  cases b with
  |true=>exact⟨_,.head _,CF h.1 h.2⟩|false=>
   by_cases J:p.d e
   .exact⟨_,.tail _ (.head _),qI λL=>h ⟨J,L⟩⟩
   .exact⟨_,.head _,qI J⟩
 |or p q=>
  cases b with
  |false=>exact⟨_,.head _,CF (λk=>h (.inl k)) λk=>h (.inr k)⟩|true=>exact Or.elim h (λk=>⟨_,.head _,qI k⟩) λk=>⟨_,.tail _ (.head _),qI k⟩
abbrev BE:List LL->List Nat->LL
 |[]=>λJ=>([-1],[])
 |f::r=>λI=>k_ (lb (-(I.headD 0:Nat)) f) (BE r I.tail)
abbrev CG(x:LL):Bool:=x.1.all (λa=>decide (0<=a))&&x.2.all λa=>decide (a=0)
def KQ(fs:List LL):∀I,(∀f∈fs,0<=e.e f)->e.e (BE fs I)<=-1:=by
 induction fs with
 |nil=>intro I _;show -1*1+0+0<=(-1:Int);omega|cons f r ih=>
  intro I h;show e.e (k_ _ _)<=_;rw[Lv.add,Lv.sc];have h1:=ih I.tail λf hf=>h f (.tail _ hf);have h2:=Int.mul_nonneg (wZ (I.headD 0)) (h f (.head _));rw[Int.neg_mul];omega
def KR{x c:List Int}:(∀a∈x,0<=a)->(∀a∈c,0<=a)->0<=cX x c:=by
 induction x generalizing c with
 |nil=>exact λJ J=>gS 0|cons a x ih=>
  intro h k;refine Int.add_nonneg (Int.mul_nonneg (h a (.head _)) ?_) (ih (λb q=>h b (.tail _ q)) λb q=>k b (List.mem_of_mem_tail q));cases c with
  |nil=>exact gS 0|cons b c=>exact k b (.head _)
def KU{x:List Int}:∀{c:List Int},(∀a∈x,a=0)->cX x c=0:=by
 induction x with
 |nil=>exact λJ=>rfl|cons a x ih=>
  intro c h;show a*_+cX x c.tail=0;rw[h a (.head _),ih λb q=>h b (.tail _ q),Int.zero_mul];rfl
def KW(x:LL)(h:CG x=true):0<=e.e x:=by
 have h:=bh.mp h;refine Int.add_nonneg (KR (λa q=>mq (ek.mp h.1 a q)) λa q=>?_) (Int.le_of_eq (KU λa q=>mq (ek.mp h.2 a q)).symm);rcases bH.mp q with q |q
 .rw[q];decide
 .obtain⟨n,_,rfl⟩:=ea.mp q;exact wZ n
@[inline]abbrev Rf:=List Nat->Bool×List Nat
abbrev qJ(G:mo->Rf):List mo->Rf
 |[]=>λI=>(true,I)
 |a::r=>λI=>match(G a I).1 with |true=>qJ G r (G a I).2 |false=>(false,[])
abbrev xx:Nat->List (Bool×LF)->List LL->Rf
 |0=>λJ J I=>(false,I)
 |n+1=>λt fs=>match t with
  |[]=>λI=>(CG (BE fs I),I.drop fs.length)
  |q::t=>qJ (λa=>xx n (a.1++t) (a.2++fs)) (q.2.x q.1)
def KX{G:mo->Rf}{P:mo->Prop}(h:∀a I,(G a I).1=true->P a)(l:List mo):∀I,(qJ G l I).1=true->∀a∈l,P a:=by
 induction l with
 |nil=>exact λJ J=>nofun|cons a r ih=>
  intro I U;cases q:(G a I).1 with
  |false=>exact absurd (show(match(G a I).1 with |true=>qJ G r (G a I).2 |false=>(false,([]:List Nat))).1=true from U) (by rw[q];exact nofun)|true=>
   have U:(match(G a I).1 with |true=>qJ G r (G a I).2 |false=>(false,([]:List Nat))).1=true:=U;rw[q]at U;exact λb T=>(bH.mp T).elim (λB=>B▸h a I q) (ih _ U b)
def KY(n:Nat):∀t fs I,(xx n t fs I).1=true->¬ mC e (t,fs):=by
 induction n with
 |zero=>exact λJ J J h=>nomatch h|succ n ih=>
  intro t fs I h ⟨h1,h2⟩;cases t with
  |nil=>
   have a:=KW (e:=e) _ h;have b:=KQ fs I h2;omega
  |cons q t=>
   obtain⟨a,G,k1,k2⟩:=q.2.KP q.1 (h1 q (.head _));refine KX (P:=λa=>¬ mC e (a.1++t,a.2++fs)) (λa I k=>ih _ _ I k) _ I h a G ⟨λx H=>?_,λx H=>?_⟩
   .exact(aZ.mp H).elim (k1 x) λH=>h1 x (.tail _ H)
   .exact(aZ.mp H).elim (k2 x) (h2 x)
abbrev xy(g:LF):List LF->Lv->Prop
 |[]=>λe=>g.d e
 |f::r=>λe=>f.d e->xy g r e
abbrev xz(P:Lv->Prop):Nat->Lv->Prop
 |0=>P|n+1=>λe=>∀{x:Int},xz P n ⟨e.c,e.d++[x]⟩
abbrev xA(P:Lv->Prop):Nat->Lv->Prop
 |0=>P|n+1=>λe=>∀{x:Nat},xA P n ⟨e.c++[x],e.d⟩
def KZ(g:LF)(N:List LF):((∀f∈N,f.d e)->g.d e)->xy g N e:=by
 induction N with
 |nil=>exact λq=>q nofun|cons f r ih=>exact λq h=>ih λk=>q λx H=>(bH.mp H).elim (λq=>q▸h) (k x)
def K0{P:Lv->Prop}(h:∀e,P e)(n:Nat):∀e,xz P n e:=by
 induction n with
 |zero=>exact h|succ n ih=>exact λe x=>ih _
def K1{P:Lv->Prop}(h:∀e,P e)(n:Nat):∀e,xA P n e:=by
 induction n with
 |zero=>exact h|succ n ih=>exact λe x=>ih _
abbrev eT:Nat->Nat->LX×Nat
 |0=>λn=>(.k 0,n)
 |f+1=>λn=>bif Nat.ble 4 (n % 16)then(bif Nat.beq (n % 16) 15 then(.v (n / 16 % 16+11),n / 256)else(.v (n % 16 - 4),n / 16))
  else bif Nat.beq (n % 16) 0 then(.a (eT f (n / 16)).1 (eT f (eT f (n / 16)).2).1,(eT f (eT f (n / 16)).2).2)
  else bif Nat.beq (n % 16) 1 then(.k (fy (n / 16)).1,(fy (n / 16)).2)
  else bif Nat.beq (n % 16) 2 then(.m (fy (n / 16)).1 (eT f (fy (n / 16)).2).1,(eT f (fy (n / 16)).2).2)
  else(.r (eT f (n / 16)).1 (fy (eT f (n / 16)).2).1,(fy (eT f (n / 16)).2).2)
abbrev fz:Nat->Nat->IX×Nat
 |0=>λn=>(.k 0,n)
 |f+1=>λn=>bif Nat.ble 6 (n % 16)then(.v (n % 16 - 6),n / 16)
  else bif Nat.beq (n % 16) 0 then(.a (fz f (n / 16)).1 (fz f (fz f (n / 16)).2).1,(fz f (fz f (n / 16)).2).2)
  else bif Nat.beq (n % 16) 1 then(.k (fy (n / 16)).1,(fy (n / 16)).2)
  else bif Nat.beq (n % 16) 2 then(.m (fy (n / 16)).1 (fz f (fy (n / 16)).2).1,(fz f (fy (n / 16)).2).2)
  else bif Nat.beq (n % 16) 3 then(.s (fz f (n / 16)).1 (fz f (fz f (n / 16)).2).1,(fz f (fz f (n / 16)).2).2)
  else bif Nat.beq (n % 16) 4 then(.g (fz f (n / 16)).1,(fz f (n / 16)).2)
  else(.u (eT 99 (n / 16)).1,(eT 99 (n / 16)).2)
abbrev mD{α:Type}(r:Nat->α×Nat)(g:α->α->LF)(n:Nat):LF×Nat:=(g (r n).1 (r (r n).2).1,(r (r n).2).2)
abbrev K2(k n:Nat):LF×Nat:=(λt=>(λx=>bif Nat.beq k 10 then(.an (.le (.m 2 t.1) x.1) (.le x.1 (.a (.m 2 t.1) (.k 1))),x.2)
 else(λy=>(bif Nat.beq k 9 then .or (.an (.le y.1 x.1) (.eq x.1 (.a t.1 y.1))) (.an (.le x.1 y.1) (.eq t.1 (.k 0)))
  else bif Nat.beq k 11 then .or (.an (.le x.1 y.1) (.eq t.1 x.1)) (.an (.le y.1 x.1) (.eq t.1 y.1))
  else .or (.an (.le x.1 y.1) (.eq t.1 y.1)) (.an (.le y.1 x.1) (.eq t.1 x.1)),y.2)) (eT 99 x.2)) (eT 99 t.2)) (eT 99 n)
abbrev od:Nat->Nat->LF×Nat
 |0=>λn=>(.ff,n)
 |f+1=>λn=>bif Nat.beq (n % 16) 0 then mD (eT 99) .le (n / 16)else bif Nat.beq (n % 16) 1 then mD (eT 99) .eq (n / 16)
  else bif Nat.beq (n % 16) 2 then mD (fz 99) .il (n / 16)else bif Nat.beq (n % 16) 3 then mD (fz 99) .ie (n / 16)
  else bif Nat.beq (n % 16) 4 then(.ff,n / 16)else bif Nat.beq (n % 16) 5 then(.no (od f (n / 16)).1,(od f (n / 16)).2)
  else bif Nat.beq (n % 16) 6 then mD (od f) .an (n / 16)else bif Nat.beq (n % 16) 7 then mD (od f) .or (n / 16)
  else bif Nat.ble 9 (n % 16)then K2 (n % 16) (n / 16)
  else mD (eT 99) (λx y=>.le (.a x (.k 1)) y) (n / 16)
abbrev tV{α:Type}(r:Nat->α×Nat):Nat->Nat->List α×Nat
 |0=>λn=>([],n)
 |k+1=>λn=>((r n).1::(tV r k (r n).2).1,(tV r k (r n).2).2)
abbrev xB(a c:Nat)(g:LF)(N:List LF×Nat):Prop×Bool:=
 (xA (xz (xy g N.1) c) a ⟨[],[]⟩,(xx 99 ((false,g)::N.1.map λf=>(true,f)) [] (tV fy 399 N.2).1).1)
abbrev CH(n:Nat):Prop×Bool:=(λa=>(λg=>xB a.1 (a.2 % 16) g.1 (tV (od 99) (a.2 / 16 % 16) g.2)) (od 99 (a.2 / 256))) (fy n)
abbrev K5(n:Nat):Bool:=(CH n).2
def K6{a c:Nat}{g:LF}{N:List LF×Nat}(h:(xB a c g N).2=true):(xB a c g N).1:=by
 refine K1 (λe=>K0 (λe=>KZ _ _ λk=>?_) _ e) _ _;refine JZ λq=>KY (e:=e) _ _ _ _ h ⟨λt ht=>?_,nofun⟩;rcases bH.mp ht with ht |ht
 .rw[ht];exact q
 .obtain⟨f,hf,rfl⟩:=ea.mp ht;exact k f hf
def ao{x y:Nat}:y<=x/\x=x - y+y\/x<=y/\x - y=0:=(w7 y x).imp (λh=>⟨h,(J0 h).symm⟩) λh=>⟨h,Nat.sub_eq_zero_of_le h⟩
def gZ{x:Nat}:2*(x / 2)<=x/\x<=2*(x / 2)+1:=⟨Nat.mul_div_le x 2,w8 (Nat.lt_mul_div_succ x (by decide:0 < 2))⟩
def fa{x y:Nat}:x<=y/\min x y=x\/y<=x/\min x y=y:=(w7 x y).imp (λh=>⟨h,BG h⟩) λh=>⟨h,BH h⟩
def qK{x y:Nat}:x<=y/\max x y=y\/y<=x/\max x y=x:=(w7 x y).imp (λh=>⟨h,BI h⟩) λh=>⟨h,Nat.max_eq_left h⟩
def oe{x:Int}:0<=x/\(x.toNat:Int)=x\/x<=0/\x.toNat=0:=(Int.le_total 0 x).imp (λh=>⟨h,BJ h⟩) λh=>⟨h,Int.toNat_of_nonpos h⟩
def lie(n:Nat)(P:Prop)(h:CH n=(P,true)):P:=by
 have:=K6 (show K5 n=true from aE Prod.snd h);rw[<-show _=P from aE Prod.fst h];exact this
end
end Mine.Lake
set_option genInjectivity true
set_option tactic.hygienic false
section
namespace Mine.Lake
inductive V where
 |z |w (b:Bool) |j (i:Int) |u (s:String) |p (l:List V) |r (l:List V) |o (i:Nat)
abbrev V.ctorIdx(x:V):Nat:=@V.casesOn (λJ=>Nat) x 0 (λJ=>1) (λJ=>2) (λJ=>3) (λJ=>4) (λJ=>5) λJ=>6
instance:Inhabited V:=⟨.z⟩
abbrev V.gi(x:V):Int:=@V.casesOn (λJ=>Int) x 0 (λb=>cond b 1 0) (λi=>i) (λJ=>0) (λJ=>0) (λJ=>0) Int.ofNat
abbrev V.gs(x:V):String:=@V.casesOn (λJ=>String) x "" (λJ=> "") (λJ=> "") (λs=>s) (λJ=> "") (λJ=> "") λJ=> ""
abbrev V.gl(x:V):List V:=@V.casesOn (λJ=>List V) x [] (λJ=>[]) (λJ=>[]) (λJ=>[]) (λl=>l) (λl=>l) λJ=>[]
abbrev V.mk(k:Nat)(i:Int)(s:String)(l:List V):V:=[V.z,.w (i==1),.j i,.u s,.p l,.r l,.o i.toNat].getD k .z
def V.mk_eq(b:V):V.mk b.ctorIdx b.gi b.gs b.gl=b:=by
 induction b using V.casesOn with
 |w b=>induction b <;>rfl|_=>rfl
abbrev V.same(a b:V):Bool:=Nat.beq a.ctorIdx b.ctorIdx&&(decide (a.gi=b.gi)&&decide (a.gs=b.gs))
def V.qM{a b:V}(h:a.same b=true):V.mk a.ctorIdx a.gi a.gs b.gl=b:=by
 have h:=bh.mp h;have k:=bh.mp h.2;rw[n4 h.1,mq k.1,mq k.2];exact b.mk_eq
def V.same_refl(a:V):a.same a=true:=bh.mpr ⟨Nat.beq_refl _,bh.mpr ⟨b4 rfl,b4 rfl⟩⟩
mutual
noncomputable def V.beq:V->V->Bool
 |.p a=>λb=>Nat.beq b.ctorIdx 4&&V.lg a b.gl
 |.r a=>λb=>Nat.beq b.ctorIdx 5&&V.lg a b.gl
 |a=>a.same
noncomputable def V.lg:List V->List V->Bool
 |[]=>List.isEmpty|a::as=>λb=>b.head?.any (V.beq a)&&V.lg as b.tail
end
def V.tX(a:V):(∀b,V.beq a b=true->a=b)/\V.beq a a=true:=by
 refine@V.rec (λa=>(∀b,V.beq a b=true->a=b)/\V.beq a a=true) (λl=>(∀m,V.lg l m=true->l=m)/\V.lg l l=true) ?_ ?_ ?_ ?_ ?_ ?_ ?_ ?_ ?_ a
 .exact⟨λb h=>V.qM (a:=.z) h,V.same_refl _⟩
 .intro x;refine⟨λb h=>?_,V.same_refl _⟩
  have:=V.qM (a:=.w x) h
  induction x <;>exact this
 .exact λx=>⟨λb h=>V.qM (a:=.j x) h,V.same_refl _⟩
 .exact λx=>⟨λb h=>V.qM (a:=.u x) h,V.same_refl _⟩
 .intro l ih;refine⟨λb h=>?_,bh.mpr ⟨rfl,ih.2⟩⟩
  have h:=bh.mp h;rw[ih.1 _ h.2,<-V.mk_eq b,n4 h.1];rfl
 .intro l ih;refine⟨λb h=>?_,bh.mpr ⟨rfl,ih.2⟩⟩
  have h:=bh.mp h;rw[ih.1 _ h.2,<-V.mk_eq b,n4 h.1];rfl
 .exact λx=>⟨λb h=>V.qM (a:=.o x) h,V.same_refl _⟩
 .exact⟨λm h=>(tB.mp h).symm,rfl⟩
 .intro x l h k;refine⟨λm q=>?_,bh.mpr ⟨h.2,k.2⟩⟩
  have q:=bh.mp q
  induction m using bo with
  |nil=>exact nomatch q.1|cons y m=>rw[h.1 y q.1,k.1 m q.2]
def V.xC(l m:List V):V.lg l m=true↔l=m:=by
 refine⟨λh=>?_,λh=>?_⟩
 .induction l generalizing m with
  |nil=>exact(tB.mp h).symm|cons x l ih=>
   have q:=bh.mp h
   induction m using bo with
   |nil=>exact nomatch q.1|cons y m=>rw[x.tX.1 y q.1,ih m q.2]
 .induction h
  induction l with
  |nil=>rfl|cons x l ih=>exact bh.mpr ⟨x.tX.2,ih⟩
instance:DecidableEq V:=λa b=>if h:V.beq a b=true then isTrue (a.tX.1 b h)else isFalse λe=>h (e▸a.tX.2)
mutual
noncomputable def V.pure:V->Bool
 |.o _=>false|.p l=>V.eU l|.r l=>V.eU l|_=>true
noncomputable def V.eU:List V->Bool
 |[]=>true|a::as=>V.pure a&&V.eU as
end
mutual
noncomputable def ca:V->V->Bool
 |.z=>λb=>match b with |.z=>true |_=>false
 |.w a=>λb=>match b with |.w b=>a==b |.j b=>(if a then 1 else 0)==b |_=>false
 |.j a=>λb=>match b with |.j b=>a==b |.w b=>a==(if b then 1 else 0) |_=>false
 |.u a=>λb=>match b with |.u b=>a==b |_=>false
 |.p a=>λb=>match b with |.p b=>fA a b |_=>false
 |.r a=>λb=>match b with |.r b=>fA a b |_=>false
 |.o _=>λJ=>false
noncomputable def fA:List V->List V->Bool
 |[]=>λb=>match b with |[]=>true |_=>false
 |a::as=>λb=>match b with |b::I=>ca a b&&fA as I |[]=>false
end
mutual
noncomputable def V.key:V->Nat->Bool
 |.j _,_=>true|.u _,_=>true|.p l,d+1=>V.jT l d|_,_=>false
noncomputable def V.jT:List V->Nat->Bool
 |[],_=>true|a::as,d=>V.key a d&&V.jT as d
end
abbrev V.keys(l:List V):Bool:=V.jT l 6
mutual
noncomputable def fb:V->Nat
 |.p l=>jj l+1|.r l=>jj l+1|_=>0
noncomputable def jj:List V->Nat
 |[]=>0|a::as=>max (fb a) (jj as)
end
end Mine.Lake
set_option genInjectivity false
namespace Mine.Lake
@[inline]abbrev AN:=Fin 22
@[inline]abbrev MN:=Fin 7
@[inline]abbrev CN:=Fin 3
@[inline]abbrev FN:=Fin 85
abbrev AN.name(a:AN):String:=["bounds", "decls", "deep", "defaults", "done", "extra", "host", "index", "mapping", "most_deep", "most_rounds", "names", "origins", "part", "putting", "renamed", "rounds", "row", "rows", "shaping", "spent", "tab"].getD a ""
abbrev MN.name(a:MN):String:=["fits", "force", "further", "lay_row", "put", "put_cond", "put_in"].getD a ""
abbrev CN.name(a:CN):String:=["TypeTable", "CondStep", "UnitHost"].getD a ""
abbrev FN.name(f:FN):String:=["kind_of", "new_param", "parts_of", "whole_of_row", "regular_twin", "join_bools", "stays_beside", "top_of", "union", "is_fresh", "regular_one", "regular", "index_kids", "object_kids", "row_kids", "row_binds", "inner_kids", "reached", "free_params", "value_holds", "units_fit", "put_each", "put_cell", "put_shape", "without_own", "put_late", "plain_put", "plain_laid", "is_open", "bounds_ask", "kindcond_joined", "put_all", "holds_late", "may_fit", "put_strangers", "is_wrapped", "side_open", "judge", "lay_cond", "check_of", "laid_step", "wait", "part_step", "spread_check", "turn", "tell_branch", "take_branch", "through_aliases", "go_on", "finish", "run_step", "side_branch", "cond_under", "cond_kind", "case_kind", "_law_take", "_law_store", "_law_less", "_law_union", "_law_list", "_law_question", "_law_side", "_law_row", "_law_fits", "_law_open", "_law_answer", "_law_told", "_law_branch", "_law_waits", "_law_swap", "_law_swapped", "_law_asks", "_law_sieves", "_law_round", "law", "__init__", "put", "__init__", "further", "fits", "__init__", "force", "put_cond", "put_in", "lay_row"].getD f.val ""
abbrev tY(c:CN)(m:MN):Option FN:=([[none,none,none,none,some 76,none,none],[none,none,some 78,none,none,none,none],[some 79,some 81,none,some 84,none,some 82,some 83]]:List (List (Option FN)))[c.1]?.elim none λl=>l.getD m.1 none
abbrev qO(c:CN):FN:=([75,77,80]:List FN).getD c.1 74
end Mine.Lake
section
namespace Mine.Lake
set_option genCtorIdx true
inductive fN where |a |c |d |e |b
 deriving DecidableEq
inductive lh where |a |c |f |i |e |g |b |d |j |h
 deriving DecidableEq
inductive B1 where |a |b |c |d |e
 deriving DecidableEq
inductive iI where |a |b |d |c |e
 deriving DecidableEq
set_option genCtorIdx false
mutual
inductive CE where
 |J |K |N
 |B (b:Bool) |g (i:Nat) |I (i:Nat) |u (s:String)
 |d (i:Nat) |p (i:Int) |M (v:V)
 |q (o:CE) (a:AN) |h (o i:CE) |H (o lo hi:CE)
 |A (op:fN) (a b:CE) |n (op:lh) (a b:CE) |P (a:CE)
 |G (a:CE) |z (l:List CE) |D (l:List CE) |C (c a b:CE)
 |t (l:List CE) |r (fr:Bool) (l:List CE) |F (kvs:List CE)
 |E (e:CE) (i:Nat) (it:mE) (conds:List CE) |Q (k v:CE) (i:Nat) (it:mE)
 |j (f:FN) (l:List CE) |L (c:CN) (l:List CE) |y (o:CE) (m:MN) (l:List CE)
 |x (f:B1) (a:CE) |O (a:CE) |w (m:iI) (o:CE) (l:List CE)
inductive mE where
 |a (e:CE) |b (e:CE)
end
inductive qP where |a (i:Nat) |b (is:List Nat)
inductive CS where
 |j |x |y |u |t
 |g (i:Nat) (e:CE) |r (is:List Nat) (e:CE) |l (o:CE) (a:AN) (e:CE) |n (o i e:CE)
 |s (o:CE) (a:AN) (op:fN) (e:CE) |w (o i:CE) (op:fN) (e:CE)
 |k (e:CE) |h (c:CE) (a b:List CS) |q (c:CE) (b:List CS) |m (p:qP) (it:mE) (b:List CS)
 |d (e:CE) |v (b f:List CS)
structure aN where
 a:Nat
 d:Nat
 b:List V
 c:List CS
inductive O where
 |a (l:List V) |b |f (es:List (Int×V)) |h (es:List (String×V)) |g (es:List (List V×V))
 |e (c:CN) (fs:List (AN×V)) |d
abbrev O.ctorIdx(x:O):Nat:=@O.casesOn (λJ=>Nat) x (λJ=>0) 1 (λJ=>2) (λJ=>3) (λJ=>4) (λJ J=>5) 6
instance:Inhabited O:=⟨.d⟩
@[inline]abbrev St:=List O
abbrev M(α:Type):=St->Option (α×St)
@[inline]abbrev ba:=List (Option V)
inductive cY where |a |d |c |b (v:V)
abbrev cY.ctorIdx(x:cY):Nat:=@cY.casesOn (λJ=>Nat) x 0 1 2 λJ=>3
abbrev fP(i:Int):Bool:=Nat.ble i.natAbs 4611686018427387903
def CI{i:Int}:fP i=true↔-4611686018427387904 < i/\i < 4611686018427387904:=by
 unfold fP;rw[Nat.ble_eq];omega
abbrev bs:Nat:=4194304
abbrev cT{α:Type}[DecidableEq α]{β:Type}(k:α):List (α×β)->Option β
 |[]=>none|(a,b)::r=>if a=k then some b else cT k r
abbrev bn{α:Type}[DecidableEq α]{β:Type}(k:α)(v:β):List (α×β)->List (α×β)
 |[]=>[(k,v)]|(a,b)::r=>if a=k then(a,v)::r else(a,b)::bn k v r
def xD{α β:Type}[DecidableEq α]{k a:α}{b:β}{r:List (α×β)}:cT k ((a,b)::r)=if a=k then some b else cT k r:=rfl
def CJ{α β:Type}[DecidableEq α]{k a:α}{v b:β}{r:List (α×β)}:bn k v ((a,b)::r)=if a=k then(a,v)::r else(a,b)::bn k v r:=rfl
abbrev bq(p:Prop)[Decidable p]{α:Type}(x:Option α):Option α:=if p then x else none
def dr{p:Prop}[Decidable p]{α:Type}{x:Option α}(h:p):bq p x=x:=ah h
def bN{p:Prop}[Decidable p]{α:Type}{x:Option α}{r:α}(e:bq p x=some r):p/\x=some r:=by
 by_cases h:p
 .exact⟨h,(dr h).symm.trans e⟩
 .exact nomatch (show none=some r from(ab (t:=x) h).symm.trans e)
def dW{p:Prop}[Decidable p]{α:Type}{x r:Option α}(h:p)(q:x=r):bq p x=r:=(dr h).trans q
section
variable{α β:Type}{x:Option α}{a:α}{f:α->Option β}{g r:Option β}
def bg(h:x=some a)(q:f a=r):x.bind f=r:=by rw[h];exact q
def K7(h:x=some a)(q:f a=r):x.elim g f=r:=by rw[h];exact q
def xE(h:x=none)(q:g=r):x.elim g f=r:=by rw[h];exact q
def dX{f:α->β}(h:x=some a):x.map f=some (f a):=by rw[h];rfl
def a9{r:β}(e:x.bind f=some r):∃a,x=some a/\f a=some r:=by
 induction x using aX with
 |none=>exact nomatch e|some a=>exact⟨a,rfl,e⟩
def cD{f:α->β}{r:β}(e:x.map f=some r):∃a,x=some a/\f a=r:=by
 induction x using aX with
 |none=>exact nomatch e|some a=>exact⟨a,rfl,ay e⟩
def li{r:β}(e:x.elim g f=some r):(∃a,x=some a/\f a=some r)\/(x=none/\g=some r):=by
 induction x using aX with
 |none=>exact .inr ⟨rfl,e⟩|some a=>exact .inl ⟨a,rfl,e⟩
end
def eV{k N:Nat}(h:k<=N):∃n,N=n+k:=⟨N - k,(J0 h).symm⟩
def bl{α:Type}{a:α}{P:Prop}(e:none=some a):P:=nomatch e
def b6{P:Prop}(e:false=true):P:=nomatch e
abbrev iJ:V->Option Nat
 |.o i=>some i|_=>none
abbrev gG:V->Option Int
 |.j k=>some k|_=>none
abbrev mG:V->Option (List V)
 |.p l=>some l|_=>none
abbrev xF:V->Option (List V)
 |.r l=>some l|_=>none
abbrev fc:O->Option (List V)
 |.a l=>some l|_=>none
abbrev tZ:O->Option (CN×List (AN×V))
 |.e c fs=>some (c,fs)|_=>none
abbrev gh:O->Option (List (Int×V))
 |.b=>some []|.f es=>some es|_=>none
abbrev qQ:O->Option (List (String×V))
 |.b=>some []|.h es=>some es|_=>none
abbrev qR:O->Option (List (List V×V))
 |.b=>some []|.g es=>some es|_=>none
abbrev eW(σ:St)(v:V):Option O:=(iJ v).bind λi=>σ[i]?
abbrev bt(σ:St):V->Option (Bool×List V)
 |.p l=>some (false,l)|.r l=>some (true,l)|.o i=>(σ[i]?).bind λo=>(fc o).map λl=>(true,l)
 |_=>none
abbrev xG(k:Bool)(l:List V):V:=bif k then .r l else .p l
abbrev gj(o:O):M V:=λσ=>some (.o σ.length,σ++[o])
abbrev dM(c:CN)(a:AN):Bool:=Nat.beq c.1 0&&Nat.beq a.1 (17:AN).1
abbrev t6(v:V)(a:AN):M V:=λσ=>(eW σ v).bind λo=>(tZ o).bind λp=>bq (dM p.1 a=false) ((cT a p.2).map λx=>(x,σ))
abbrev mH(v:V)(a:AN)(x:V):M Unit:=λσ=>(iJ v).bind λi=>(σ[i]?).bind λo=>(tZ o).bind λp=>bq (dM p.1 a=false/\p.2.length < 100) (some ((),σ.set i (.e p.1 (bn a x p.2))))
abbrev t7(n:Nat)(k:Int):Option Nat:=bq (fP k=true) (if 0<=k then bq (k.toNat < n) (some k.toNat)else bq (0<=(n:Int)+k) (some ((n:Int)+k).toNat))
abbrev iK(d:O)(k:V):Option (Option V):=match k with
 |.j k=>(gh d).map (cT k)|.u k=>(qQ d).map (cT k)|.p k=>bq (V.keys k=true) ((qR d).map (cT k))|_=>none
abbrev mI(d:O)(k v:V):Option O:=match k with
 |.j k=>(gh d).bind λes=>bq (es.length < bs) (some (.f (bn k v es)))
 |.u k=>(qQ d).bind λes=>bq (es.length < bs) (some (.h (bn k v es)))
 |.p k=>bq (V.keys k=true) ((qR d).bind λes=>bq (es.length < bs) (some (.g (bn k v es))))
 |_=>none
abbrev di(o i:V):M V:=λσ=>(bt σ o).elim ((eW σ o).bind λd=>(iK d i).bind λr=>r.map λx=>(x,σ))
 λp=>(gG i).bind λk=>(t7 p.2.length k).bind λj=>(p.2[j]?).map λx=>(x,σ)
abbrev lj(o i x:V):M Unit:=λσ=>(iJ o).bind λr=>(σ[r]?).bind λd=>(fc d).elim ((mI d i x).map λd'=>((),σ.set r d'))
 λl=>(gG i).bind λk=>bq (0<=k) ((t7 l.length k).map λj=>((),σ.set r (.a (l.set j x))))
abbrev t8(o i x:V):M Unit:=λσ=>(iJ o).bind λr=>(gG i).bind λk=>(σ[r]?).bind λd=>(gh d).bind λes=>bq (es.length < bs) (some ((),σ.set r (.f (bn k x es))))
abbrev og(n:Nat)(k:Int):Nat:=if k < 0 then((n:Int)+k).toNat else min n k.toNat
abbrev qS:V->Option (Option Int)
 |.z=>some none|.j k=>bq (fP k=true) (some (some k))|_=>none
abbrev iL(l:List V)(lo hi:Option Int):List V:=
 let n:=l.length
 let a:=match lo with |none=>0 |some k=>og n k
 let b:=match hi with |none=>n |some k=>og n k
 (l.take b).drop a
abbrev qT(o lo hi:V):M V:=λσ=>(bt σ o).bind λp=>(qS lo).bind λa=>(qS hi).bind λb=>bq (p.2.length < bs) (some (xG p.1 (iL p.2 a b),σ))
abbrev CK(a b:V):M V:=λσ=>(bt σ a).bind λp=>(bt σ b).bind λq=>bq (p.1=q.1/\p.2.length+q.2.length < bs) (some (xG p.1 (p.2++q.2),σ))
abbrev t9(op:fN)(x y:Int):Option Int:=match op with
 |.a=>some (x+y)|.c=>some (x - y)|.d=>bq ((fP x&&fP y)=true) (some (x*y))|.e=>bq (y≠0/\y.natAbs < 1073741824) (some (x.fdiv y))|.b=>bq (y≠0) (some (x.fmod y))
abbrev iM(op:fN)(a b:V):M V:=λσ=>(gG a).elim (match op with |.a=>CK a b σ |_=>none) λx=>(gG b).bind λy=>(t9 op x y).map λi=>(.j i,σ)
abbrev g_(σ:St)(x c:V):Option Bool:=(bt σ c).elim ((eW σ c).bind λd=>(iK d x).map λr=>r.isSome)
 λp=>bq ((V.eU p.2&&V.pure x&&decide (fb x<=8))=true) (some (p.2.any λy=>ca y x))
abbrev oi(a b:V)(g:Int->Int->Bool):Option Bool:=(gG a).bind λx=>(gG b).map (g x)
abbrev K8:V->Option Bool
 |.z=>some false|.j _=>some true|.u _=>some true|_=>none
abbrev K9:V->Bool
 |.z=>true|_=>false
abbrev K_(σ:St)(op:lh)(a b:V):Option Bool:=match op with
 |.a=>bq ((V.pure a&&V.pure b&&decide (fb b<=8))=true) (some (ca a b))|.c=>bq ((V.pure a&&V.pure b&&decide (fb b<=8))=true) (some (!ca a b))|.f=>oi a b λx y=>decide (x < y)
 |.i=>oi a b λx y=>decide (x<=y)
 |.e=>oi a b λx y=>decide (y < x)
 |.g=>oi a b λx y=>decide (y<=x)
 |.b=>g_ σ a b|.d=>bq ((mG a).isNone=true) ((g_ σ a b).map not)|.j=>none|.h=>bq (K9 b=true) (K8 a)
abbrev dc(op:lh)(a b:V):M V:=λσ=>(K_ σ op a b).map λr=>(.w r,σ)
abbrev iN(σ:St):V->Option Bool
 |.z=>some false|.w b=>some b|.j i=>some (i !=0)|.u _=>none|v=>(bt σ v).bind λp=>bq (p.2.length < bs) (some (!p.2.isEmpty))
abbrev ll(x:Int):List Int->List Int
 |[]=>[x]|y::c=>if x<=y then x::y::c else y::ll x c
abbrev jU:List Int->List Int
 |[]=>[]|x::xs=>ll x (jU xs)
abbrev qU:List V->Option (List Int)
 |[]=>some []|x::r=>(gG x).bind λi=>(qU r).map λl=>i::l
abbrev qV(σ:St):List V->Option Bool
 |[]=>some false|x::r=>(iN σ x).bind λb=>(qV σ r).map λc=>b||c
abbrev mJ(σ:St)(v:V):Option (List Int):=(bt σ v).elim ((eW σ v).bind λo=>(gh o).map λes=>es.map (·.1)) λp=>bq (p.1=true) (qU p.2)
abbrev b1(f:B1)(v:V):M V:=λσ=>match f with
 |.a=>(bt σ v).elim ((eW σ v).bind λo=>(gh o).bind λes=>bq (es.length < bs) (some (.j es.length,σ))) λp=>bq (p.2.length < bs) (some (.j p.2.length,σ))
 |.b=>(bt σ v).bind λp=>bq (p.1=true/\p.2.length < bs) (some (.p p.2,σ))
 |.c=>(mJ σ v).bind λis=>bq (is.length < bs) (some (.r ((jU is).map .j),σ))
 |.d=>(eW σ v).bind λo=>(gh o).bind λes=>bq (es.length < bs) (gj o σ)
 |.e=>(bt σ v).bind λp=>bq (p.1=true/\p.2.length < bs) ((qV σ p.2).map λb=>(.w b,σ))
abbrev t_:V->Option Bool
 |.u _=>some true|.j _=>some false|_=>none
abbrev iO{α:Type}[DecidableEq α]{β:Type}:List (α×β)->List (α×β)->List (α×β)
 |es,[]=>es|es,(k,v)::r=>iO (bn k v es) r
abbrev ua:O->Bool
 |.b=>true|.f _=>true|.h _=>true|.g _=>true|_=>false
abbrev qW(m:iI)(o:O):Bool:=match m with
 |.c=>ua o|.e=>(gh o).isSome|_=>(fc o).isSome
abbrev gH(m:iI)(v:V):M Unit:=λσ=>(eW σ v).bind λo=>bq (qW m o=true) (some ((),σ))
abbrev xH:List V->Option V
 |[x]=>some x|_=>none
abbrev Lb:List V->Option (V×V)
 |[x,y]=>some (x,y)|_=>none
abbrev Lc(m:iI)(i:Nat)(d:O)(args:List V)(σ:St):Option (V×St):=match m with
 |.a=>(xH args).bind λx=>(fc d).bind λl=>bq (l.length < bs) (some (.z,σ.set i (.a (l++[x]))))
 |.b=>(xH args).bind λx=>(fc d).bind λl=>(xF x).bind λk=>bq (l.length+k.length < bs) (some (.z,σ.set i (.a (l++k))))
 |.d=>(fc d).bind λl=>(l.getLast?).bind λx=>bq (l.length < bs) (some (x,σ.set i (.a l.dropLast)))
 |.c=>(Lb args).bind λp=>(iK d p.1).map λr=>(r.getD p.2,σ)
 |.e=>(xH args).bind λx=>(iJ x).bind λj=>bq (i≠j) ((σ[j]?).bind λe=>(gh d).bind λes=>(gh e).bind λt=>bq (es.length+t.length < bs) (some (.z,σ.set i (.f (iO es t)))))
abbrev cm(m:iI)(o:V)(args:List V):M V:=λσ=>(iJ o).bind λi=>(σ[i]?).bind λd=>Lc m i d args σ
abbrev mK(σ:St)(v:V):Option (Nat×List V):=(iJ v).bind λi=>(σ[i]?).bind λo=>(fc o).map λl=>(i,l)
abbrev hO(v:V):M V:=λσ=>some ((mK σ v).elim (v,σ) λp=>(.r p.2,σ.set p.1 .d))
abbrev lm(v:V):M (Option (Nat×List V)×List V):=λσ=>(bt σ v).bind λp=>bq (p.2.length < bs) (some (((iJ v).map λi=>(i,p.2),p.2),σ))
abbrev ln(g:Option (Nat×List V)):M Unit:=λσ=>g.elim (some ((),σ)) λp=>(σ[p.1]?).bind λo=>(fc o).bind λl=>bq (V.lg p.2 l=true) (some ((),σ))
abbrev CL(v:V):M (Option (Nat×List V)×List V):=λσ=>(gG v).bind λn=>bq ((fP n&&decide (n.toNat < bs))=true) (some ((none,(List.range n.toNat).map λ(k:Nat)=>V.j (k:Int)),σ))
abbrev oj:Nat:=1000000
abbrev CM:V->Option String
 |.u s=>some s|_=>none
abbrev ub{α:Type}(g:V->Option α):List V->Option (List (α×V))
 |[]=>some []
 |k::r=>(match r with
  |v::r=>(g k).bind λa=>(ub g r).map λl=>(a,v)::l
  |[]=>none)
abbrev xI(l:List V):Option (List (Int×V)):=ub gG l
abbrev CO(l:List V):Option (List (String×V)):=ub CM l
abbrev Ld:O->Bool
 |.b=>true|_=>false
abbrev Lf(vs:List V):Option O:=(xI vs).elim ((CO vs).map λl=>.h (iO [] l)) λl=>some (.f (iO [] l))
abbrev qX(r:V)(vs:List V):M Unit:=λσ=>(iJ r).bind λi=>(σ[i]?).bind λo=>bq (Ld o=true) ((Lf vs).map λo=>((),σ.set i o))
abbrev mL:List Nat->List V->ba->Option ba
 |[],[],ρ=>some ρ|i::is,x::xs,ρ=>mL is xs (ρ.set i (some x))|_,_,_=>none
abbrev fQ(p:qP)(x:V)(ρ:ba):M ba:=λσ=>match p with
 |.a i=>some (ρ.set i (some x),σ)|.b is=>(mG x).bind λl=>(mL is l ρ).map λρ=>(ρ,σ)
abbrev xJ(v:V)(m:MN):M FN:=λσ=>(eW σ v).bind λo=>(tZ o).bind λp=>(tY p.1 m).map λf=>(f,σ)
abbrev xK:List Int:=[11,14,15,16,17]
abbrev ol(f:aN)(args:List V):Option ba:=
 if args.length<=f.a/\f.a<=args.length+f.b.length then
  some ((args++f.b.drop (args.length+f.b.length - f.a)).map some++List.replicate (f.d - f.a) none)
 else none
abbrev CP:aN:=⟨2,2,[],[(.d (.h (.h (.q (.d 0) 18) (.d 1)) (.g 0)))]⟩
abbrev Lg:aN:=⟨4,5,[(.j (-1)),(.j (-1))],[(.g 4 (.x .a (.q (.d 0) 0))),(.k (.w .a (.q (.d 0) 0) [(.d 2)])),(.k (.w .a (.q (.d 0) 3) [(.d 3)])),(.k (.w .a (.q (.d 0) 11) [(.d 1)])),(.d (.y (.d 0) 4 [(.t [(.p 10),(.d 4)])]))]⟩
abbrev Lh:aN:=⟨2,3,[],[(.h (.n .a (.d 1) (.p 2)) [(.d (.t []))] []),(.g 2 (.h (.q (.d 0) 18) (.d 1))),(.h (.n .a (.h (.d 2) (.g 0)) (.p 6)) [(.d (.h (.d 2) (.g 1)))] []),(.d (.t [(.d 1)]))]⟩
abbrev Li:aN:=⟨1,2,[],[(.g 1 (.h (.d 0) (.g 0))),(.h (.D [(.n .a (.d 1) (.p 3)),(.n .a (.d 1) (.p 18))]) [(.d (.p 6))] []),(.h (.n .a (.d 1) (.p 4)) [(.d (.p 7))] []),(.h (.n .a (.d 1) (.p 5)) [(.d (.C (.O (.h (.d 0) (.g 3))) (.p 6) (.p 7)))] []),(.d (.I 1))]⟩
abbrev Lj:aN:=⟨2,3,[],[(.g 2 (.h (.q (.d 0) 18) (.d 1))),(.h (.z [(.n .b (.h (.d 2) (.g 0)) (.M (.p [(.j 2),(.j 3),(.j 4),(.j 5),(.j 8)]))),(.n .a (.h (.d 2) (.I 1)) (.g 1))]) [(.d (.w .c (.q (.d 0) 7) [(.A .a (.H (.d 2) .K (.I 1)) (.t [(.g 0)])),(.I 1)]))] []),(.d (.I 1))]⟩
abbrev Ll:aN:=⟨1,1,[],[(.h (.z [(.D [(.n .b (.p 8) (.d 0)),(.n .b (.p 14) (.d 0))]),(.D [(.n .b (.p 9) (.d 0)),(.n .b (.p 15) (.d 0))])]) [(.n (.d 0) (.p 8) (.g 1)),(.n (.d 0) (.p 9) (.g 1))] [])]⟩
abbrev Ln:aN:=⟨3,3,[],[(.h (.n .b (.j 4 [(.d 0),(.d 2)]) (.d 1)) [(.d (.B false))] []),(.d (.n .d (.j 3 [(.h (.q (.d 0) 18) (.d 2))]) (.d 1)))]⟩
abbrev Lp:aN:=⟨1,2,[],[(.m (.a 1) (.a (.t [(.p 0),(.p 13),(.p 1)])) [(.h (.n .b (.d 1) (.d 0)) [(.d (.d 1))] [])]),(.d (.I 1))]⟩
abbrev Lq:aN:=⟨2,8,[],[(.g 2 (.F [])),(.m (.a 3) (.a (.d 1)) [(.m (.a 4) (.a (.j 2 [(.d 0),(.d 3)])) [(.n (.d 2) (.d 4) (.g 1))])]),(.g 5 (.j 7 [(.d 2)])),(.h (.n .g (.d 5) (.g 0)) [(.d (.d 5))] []),(.k (.j 5 [(.d 2)])),(.g 6 (.E (.d 7) 7 (.a (.x .c (.d 2))) [(.j 6 [(.d 0),(.d 2),(.d 7)])])),(.h (.G (.d 6)) [(.d (.p 2))] []),(.h (.n .a (.x .a (.d 6)) (.g 1)) [(.d (.h (.d 6) (.g 0)))] []),(.h (.n .e (.x .a (.d 6)) (.p 400)) [.j] []),(.d (.y (.d 0) 4 [(.t [(.p 6),(.x .b (.d 6))])]))]⟩
abbrev Lr:aN:=⟨2,3,[],[(.g 2 (.h (.q (.d 0) 18) (.d 1))),(.d (.z [(.n .b (.h (.d 2) (.g 0)) (.M (.p [(.j 2),(.j 3),(.j 4),(.j 5),(.j 8)]))),(.n .a (.h (.d 2) (.I 1)) (.g 1))]))]⟩
abbrev Lu:aN:=⟨2,2,[],[(.h (.j 9 [(.d 0),(.d 1)]) [(.d (.y (.d 0) 4 [(.A .a (.H (.h (.q (.d 0) 18) (.d 1)) .K (.I 1)) (.t [(.g 0)]))]))] []),(.d (.d 1))]⟩
abbrev Lw:aN:=⟨2,3,[],[(.h (.n .a (.j 0 [(.d 0),(.d 1)]) (.p 6)) [(.d (.j 8 [(.d 0),(.E (.j 10 [(.d 0),(.d 2)]) 2 (.a (.j 2 [(.d 0),(.d 1)])) [])]))] []),(.d (.j 10 [(.d 0),(.d 1)]))]⟩
abbrev Lx:aN:=⟨1,1,[],[(.d (.C (.n .a (.d 0) (.t [])) (.r true []) (.r true [(.h (.d 0) (.g 0))])))]⟩
abbrev Ly:aN:=⟨1,4,[],[(.g 1 (.E (.h (.d 3) (.g 1)) 3 (.a (.h (.d 0) (.g 1))) [])),(.m (.a 2) (.a (.A .a (.h (.d 0) (.g 2)) (.h (.d 0) (.g 3)))) [.j]),(.d (.A .a (.A .a (.d 1) (.j 12 [(.h (.d 0) (.g 4))])) (.j 12 [(.h (.d 0) (.g 5))])))]⟩
abbrev Lz:aN:=⟨1,5,[],[(.g 1 (.h (.d 0) (.g 0))),(.h (.P (.d 1)) [.j] []),(.h (.D [(.n .a (.d 1) (.p 6)),(.n .a (.d 1) (.p 7))]) [(.d (.E (.d 4) 4 (.a (.h (.d 0) (.g 1))) []))] []),(.h (.n .a (.d 1) (.p 8)) [(.d (.j 13 [(.d 0)]))] []),(.h (.D [(.n .a (.d 1) (.p 9)),(.n .a (.d 1) (.p 19)),(.n .a (.d 1) (.p 18))]) [.j] []),(.h (.n .a (.d 1) (.p 12)) [.j] []),(.h (.n .a (.d 1) (.p 13)) [.j] []),(.d (.r true []))]⟩
abbrev LA:aN:=⟨1,1,[],[(.h (.n .a (.h (.d 0) (.g 0)) (.p 13)) [.j] []),(.h (.n .a (.h (.d 0) (.g 0)) (.p 16)) [.j] []),(.h (.n .a (.h (.d 0) (.g 0)) (.p 17)) [.j] []),(.d (.t []))]⟩
abbrev LB:aN:=⟨2,4,[],[(.g 2 (.j 14 [(.d 1)])),(.m (.a 3) (.a (.j 15 [(.d 1)])) [.j]),(.d (.d 2))]⟩
abbrev LC:aN:=⟨2,5,[],[(.g 2 (.F [])),(.g 3 (.r false [(.d 1)])),(.q (.d 3) [(.g 4 (.w .d (.d 3) [])),(.h (.z [(.n .g (.d 4) (.g 0)),(.n .d (.d 4) (.d 2))]) [(.n (.d 2) (.d 4) (.g 1)),(.k (.w .b (.d 3) [(.j 16 [(.d 0),(.h (.q (.d 0) 18) (.d 4))])]))] [])]),(.d (.x .c (.d 2)))]⟩
abbrev LD:aN:=⟨2,9,[],[(.h (.n .f (.d 1) (.g 0)) [.j] []),(.g 2 (.j 17 [(.d 0),(.d 1)])),(.h (.G (.x .e (.E (.j 15 [(.h (.q (.d 0) 18) (.d 7))]) 7 (.a (.d 2)) []))) [(.d (.x .b (.x .c (.E (.h (.h (.q (.d 0) 18) (.d 8)) (.g 1)) 8 (.a (.d 2)) [(.n .a (.h (.h (.q (.d 0) 18) (.d 8)) (.g 0)) (.p 10))]))))] []),.j]⟩
abbrev LG:aN:=⟨3,4,[],[(.h (.n .c (.h (.d 1) (.g 0)) (.p 5)) [(.d (.B false))] []),(.g 3 (.C (.O (.h (.d 1) (.g 3))) (.p 3) (.p 4))),(.d (.n .b (.w .c (.q (.d 0) 7) [(.t [(.d 3),(.h (.d 1) (.g 3)),(.g 0)]),(.I 1)]) (.d 2)))]⟩
abbrev LH:aN:=⟨3,7,[],[(.h (.D [(.n .a (.d 2) (.p 0)),(.n .a (.d 2) (.p 1)),(.n .a (.d 2) (.p 13))]) [(.d (.B true))] []),(.g 3 (.j 2 [(.d 0),(.j 11 [(.d 0),(.d 2)])])),(.m (.a 4) (.a (.j 2 [(.d 0),(.j 11 [(.d 0),(.d 1)])])) [(.g 5 (.h (.q (.d 0) 18) (.d 4))),(.g 6 (.D [(.n .b (.d 4) (.d 3)),(.n .b (.j 3 [(.d 5)]) (.d 3)),(.j 19 [(.d 0),(.d 5),(.d 3)])])),(.h (.z [(.G (.d 6)),(.G (.z [(.n .a (.d 4) (.p 4)),(.n .b (.p 3) (.d 3))]))]) [(.d (.B false))] [])]),(.d (.B true))]⟩
abbrev LI:aN:=⟨3,4,[],[(.d (.x .b (.E (.j 26 [(.d 0),(.d 3),(.d 2)]) 3 (.a (.d 1)) [])))]⟩
abbrev LJ:aN:=⟨3,3,[],[(.d (.C (.n .a (.d 1) (.t [])) (.t []) (.t [(.j 26 [(.d 0),(.h (.d 1) (.g 0)),(.d 2)]),(.h (.d 1) (.g 1))])))]⟩
abbrev LK:aN:=⟨3,8,[],[(.g 3 (.x .b (.E (.t [(.h (.d 7) (.g 0)),(.j 26 [(.d 0),(.h (.d 7) (.g 1)),(.d 2)]),(.h (.d 7) (.g 2)),(.h (.d 7) (.g 3))]) 7 (.a (.h (.d 1) (.g 1))) []))),(.g 4 (.j 21 [(.d 0),(.h (.d 1) (.g 2)),(.d 2)])),(.g 5 (.j 21 [(.d 0),(.h (.d 1) (.g 3)),(.d 2)])),(.g 6 (.j 22 [(.d 0),(.h (.d 1) (.g 4)),(.d 2)])),(.d (.y (.q (.d 0) 21) 4 [(.t [(.p 8),(.d 3),(.d 4),(.d 5),(.d 6),(.j 22 [(.d 0),(.h (.d 1) (.g 5)),(.d 2)]),(.h (.d 1) (.g 6))])]))]⟩
abbrev LN:aN:=⟨2,4,[],[(.g 2 (.x .d (.d 0))),(.m (.a 3) (.a (.d 1)) [.j]),(.d (.d 2))]⟩
abbrev LO:aN:=⟨4,5,[],[(.h (.n .a (.h (.d 2) (.g 0)) (.p 15)) [.j] []),(.h (.n .a (.h (.d 2) (.g 0)) (.p 14)) [.j] []),(.h (.n .a (.h (.d 2) (.g 0)) (.p 18)) [.j] []),(.h (.n .a (.h (.d 2) (.g 0)) (.p 9)) [.j] []),(.h (.n .a (.h (.d 2) (.g 0)) (.p 19)) [.j] []),(.h (.n .a (.h (.d 2) (.g 0)) (.p 16)) [(.g 4 (.j 24 [(.d 3),(.h (.d 2) (.g 5))])),(.d (.C (.n .e (.x .a (.d 4)) (.g 0)) (.y (.d 0) 5 [(.d 2),(.d 4)]) (.d 1)))] []),(.d (.d 1))]⟩
abbrev LP:aN:=⟨3,4,[],[(.h (.D [(.n .f (.d 1) (.g 0)),(.n .a (.x .a (.d 2)) (.g 0))]) [(.d (.d 1))] []),(.g 3 (.h (.q (.q (.d 0) 21) 18) (.d 1))),(.h (.n .a (.h (.d 3) (.g 0)) (.p 10)) [(.d (.w .c (.d 2) [(.h (.d 3) (.g 1)),(.d 1)]))] []),(.h (.n .a (.h (.d 3) (.g 0)) (.p 6)) [(.d (.j 8 [(.q (.d 0) 21),(.j 21 [(.d 0),(.h (.d 3) (.g 1)),(.d 2)])]))] []),(.h (.n .a (.h (.d 3) (.g 0)) (.p 11)) [.j] []),(.h (.n .a (.h (.d 3) (.g 0)) (.p 12)) [.j] []),(.h (.n .a (.h (.d 3) (.g 0)) (.p 8)) [(.d (.j 23 [(.d 0),(.d 3),(.d 2)]))] []),(.h (.n .a (.h (.d 3) (.g 0)) (.p 13)) [.j] []),(.d (.j 25 [(.d 0),(.d 1),(.d 3),(.d 2)]))]⟩
abbrev LQ:aN:=⟨3,4,[],[(.g 3 (.j 24 [(.d 2),(.h (.d 1) (.g 5))])),(.d (.y (.q (.d 0) 21) 4 [(.A .a (.A .a (.H (.d 1) .K (.g 1)) (.j 21 [(.d 0),(.H (.d 1) (.g 1) (.g 5)),(.d 3)])) (.H (.d 1) (.g 5) .K))]))]⟩
abbrev LR:aN:=⟨2,6,[],[(.g 2 (.h (.q (.d 0) 18) (.d 1))),(.h (.n .b (.h (.d 2) (.g 0)) (.M (.p [(.j 10),(.j 14),(.j 15),(.j 16),(.j 17),(.j 19)]))) [(.d (.B true))] []),(.h (.D [(.n .a (.h (.d 2) (.g 0)) (.p 6)),(.n .a (.h (.d 2) (.g 0)) (.p 7))]) [(.m (.a 3) (.a (.h (.d 2) (.g 1))) [(.h (.j 28 [(.d 0),(.d 3)]) [(.d (.B true))] [])])] []),(.h (.n .a (.h (.d 2) (.g 0)) (.p 12)) [.j] []),(.h (.n .a (.h (.d 2) (.g 0)) (.p 18)) [.j] []),(.d (.B false))]⟩
abbrev LS:aN:=⟨3,5,[],[(.m (.a 3) (.a (.d 1)) [.j]),(.d (.B false))]⟩
abbrev LU:aN:=⟨2,3,[],[(.g 2 (.x .d (.d 0))),(.k (.w .e (.d 2) [(.d 1)])),(.d (.d 2))]⟩
abbrev LV:aN:=⟨3,5,[],[(.g 3 (.j 18 [(.q (.d 0) 21),(.d 1)])),(.h (.n .a (.x .a (.d 3)) (.g 0)) [(.d (.d 1))] []),(.d (.y (.d 0) 6 [(.d 1),(.Q (.d 4) (.d 2) 4 (.a (.d 3)))]))]⟩
abbrev LW:aN:=⟨2,7,[],[(.g 2 (.F [])),(.g 3 (.r false [(.d 1)])),(.q (.n .e (.x .a (.d 3)) (.g 0)) [(.g 4 (.w .d (.d 3) [])),(.h (.D [(.n .f (.d 4) (.g 0)),(.n .b (.d 4) (.d 2))]) [.u] []),(.n (.d 2) (.d 4) (.g 1)),(.g 5 (.h (.q (.d 0) 18) (.d 4))),(.g 6 (.D [(.n .b (.h (.d 5) (.g 0)) (.M (.p [(.j 14),(.j 15),(.j 16),(.j 17),(.j 18),(.j 19)]))),(.z [(.n .a (.h (.d 5) (.g 0)) (.p 12)),(.j 28 [(.d 0),(.d 4)])])])),(.h (.z [(.d 6),(.n .e (.x .a (.j 18 [(.d 0),(.d 4)])) (.g 0))]) [.j] []),(.k (.w .b (.d 3) [(.j 14 [(.d 5)])]))]),(.d (.B false))]⟩
abbrev LY:aN:=⟨3,3,[],[(.h (.D [(.j 32 [(.q (.d 0) 21),(.d 1)]),(.j 32 [(.q (.d 0) 21),(.d 2)])]) [.j] []),(.d (.y (.d 0) 0 [(.j 31 [(.d 0),(.d 1),(.p 13)]),(.j 31 [(.d 0),(.d 2),(.p 13)])]))]⟩
abbrev LZ:aN:=⟨3,6,[],[(.g 3 (.q (.d 0) 21)),(.g 4 (.F [])),(.m (.a 5) (.a (.j 18 [(.d 3),(.d 1)])) [(.h (.n .g (.h (.q (.d 3) 0) (.d 5)) (.g 0)) [(.h (.n .d (.d 5) (.d 2)) [(.n (.d 2) (.d 5) (.j 1 [(.d 3),(.h (.q (.d 3) 11) (.d 5)),(.I 1),(.I 1)]))] []),(.n (.d 4) (.d 5) (.h (.d 2) (.d 5)))] [])]),(.d (.C (.n .a (.x .a (.d 4)) (.g 0)) (.d 1) (.y (.d 0) 6 [(.d 1),(.d 4)])))]⟩
abbrev L_:aN:=⟨2,4,[],[(.g 2 (.h (.q (.d 0) 18) (.h (.d 1) (.g 1)))),(.g 3 (.h (.q (.d 0) 18) (.h (.d 1) (.g 2)))),(.h (.D [(.n .c (.h (.d 2) (.g 0)) (.p 12)),(.n .c (.h (.d 3) (.g 0)) (.p 12)),(.n .c (.x .a (.h (.d 2) (.g 1))) (.x .a (.h (.d 3) (.g 1))))]) [(.d (.B false))] []),.j]⟩
abbrev Ma:aN:=⟨3,5,[],[(.g 3 (.q (.d 0) 21)),(.h (.j 28 [(.d 3),(.d 1)]) [(.d (.B true))] []),(.h (.D [(.G (.d 2)),(.n .c (.h (.h (.q (.d 3) 18) (.d 1)) (.g 0)) (.p 12))]) [(.d (.B false))] []),.j]⟩
abbrev Mb:aN:=⟨4,8,[],[(.g 4 (.q (.d 0) 21)),(.h (.j 36 [(.d 0),(.d 2),(.d 3)]) [(.d (.p 3))] []),(.h (.D [(.n .a (.d 2) (.p 0)),(.n .a (.d 2) (.p 1))]) [(.d (.p 1))] []),(.h (.n .a (.d 1) (.p 0)) [(.d (.p 2))] []),(.h (.z [(.n .a (.x .a (.j 18 [(.d 4),(.d 1)])) (.g 0)),(.n .a (.x .a (.j 18 [(.d 4),(.d 2)])) (.g 0))]) [(.d (.C (.y (.d 0) 0 [(.d 1),(.d 2)]) (.p 1) (.p 0)))] []),(.h (.G (.j 33 [(.d 0),(.d 1),(.d 2)])) [(.d (.p 0))] []),(.g 5 (.F [])),(.g 6 (.j 34 [(.d 0),(.d 1),(.d 5)])),(.g 7 (.j 34 [(.d 0),(.d 2),(.d 5)])),(.d (.C (.y (.d 0) 0 [(.d 6),(.d 7)]) (.p 1) (.p 3)))]⟩
abbrev Mc:aN:=⟨3,3,[],[(.h (.n .a (.x .a (.d 2)) (.g 0)) [(.d (.y (.q (.d 0) 21) 4 [(.d 1)]))] []),(.d (.y (.d 0) 3 [(.d 1),(.d 2)]))]⟩
abbrev Mf:aN:=⟨1,2,[],[(.g 1 (.q (.d 0) 6)),(.d (.y (.d 1) 1 [(.C (.n .g (.q (.d 0) 13) (.g 0)) (.q (.d 0) 13) (.y (.d 1) 6 [(.h (.q (.d 0) 17) (.g 1)),(.q (.d 0) 8)]))]))]⟩
abbrev Mh:aN:=⟨1,2,[],[(.h (.D [(.n .f (.q (.d 0) 13) (.g 0)),(.n .a (.x .a (.q (.d 0) 8)) (.g 0))]) [(.d (.j 38 [(.q (.d 0) 6),(.q (.d 0) 17),(.q (.d 0) 8)]))] []),(.g 1 (.j 38 [(.q (.d 0) 6),(.A .a (.t [(.p 16),(.p 2)]) (.H (.q (.d 0) 17) (.g 2) .K)),(.q (.d 0) 8)])),(.d (.y (.q (.q (.d 0) 6) 21) 4 [(.A .a (.t [(.p 16),(.q (.d 0) 13)]) (.H (.h (.q (.q (.q (.d 0) 6) 21) 18) (.d 1)) (.g 2) .K))]))]⟩
abbrev Mi:aN:=⟨1,1,[],[(.l (.d 0) 4 (.j 40 [(.d 0)]))]⟩
abbrev Mj:aN:=⟨2,6,[],[(.g 2 (.q (.d 0) 17)),(.g 3 (.h (.q (.q (.q (.d 0) 6) 21) 18) (.h (.d 2) (.g 1)))),(.h (.z [(.n .a (.h (.d 3) (.g 0)) (.p 10)),(.n .b (.h (.d 3) (.g 1)) (.q (.d 0) 8))]) [(.g 4 (.j 30 [(.q (.d 0) 8),(.F [(.h (.d 3) (.g 1)),(.d 1)])])),(.d (.L 1 [(.q (.d 0) 6),(.d 2),(.d 4),(.q (.d 0) 16),(.q (.d 0) 20)]))] []),(.g 5 (.L 1 [(.q (.d 0) 6),(.A .a (.t [(.p 16),(.d 1)]) (.H (.d 2) (.g 2) .K)),(.q (.d 0) 8),(.q (.d 0) 16),(.q (.d 0) 20)])),(.l (.d 5) 13 (.d 1)),(.d (.d 5))]⟩
abbrev Mk:aN:=⟨2,4,[],[(.g 2 (.r false [])),(.m (.a 3) (.a (.j 2 [(.q (.q (.d 0) 6) 21),(.d 1)])) [(.k (.w .a (.d 2) [(.j 50 [(.j 42 [(.d 0),(.d 3)])])]))]),(.l (.d 0) 4 (.j 8 [(.q (.q (.d 0) 6) 21),(.d 2)]))]⟩
abbrev Ml:aN:=⟨1,4,[],[(.g 1 (.q (.d 0) 6)),(.g 2 (.q (.d 0) 17)),(.g 3 (.j 39 [(.d 0)])),(.h (.n .a (.d 3) (.p 13)) [(.l (.d 0) 4 (.p 13))] [(.h (.z [(.n .a (.h (.d 2) (.g 6)) (.g 1)),(.n .a (.d 3) (.p 2))]) [(.l (.d 0) 4 (.p 2))] [(.h (.z [(.n .a (.h (.d 2) (.g 6)) (.g 1)),(.n .a (.j 0 [(.q (.d 1) 21),(.d 3)]) (.p 6))]) [(.k (.j 43 [(.d 0),(.d 3)]))] [(.h (.j 36 [(.d 1),(.d 3),(.j 35 [(.q (.d 1) 21),(.d 2)])]) [(.k (.j 41 [(.d 0)]))] [(.h (.j 29 [(.d 1),(.h (.d 2) (.g 5)),(.q (.d 0) 8)]) [.j] [(.k (.j 45 [(.d 0),(.d 2),(.d 3)]))])])])])])]⟩
abbrev Mm:aN:=⟨3,8,[],[(.g 3 (.q (.d 0) 6)),(.g 4 (.y (.d 3) 1 [(.y (.d 3) 6 [(.h (.d 1) (.g 2)),(.q (.d 0) 8)])])),(.g 5 (.q (.d 0) 8)),(.h (.n .e (.x .a (.h (.d 1) (.g 5))) (.g 0)) [.j] []),(.h (.n .a (.d 4) (.p 13)) [(.l (.d 0) 4 (.p 13)),.t] []),(.g 7 (.j 35 [(.q (.d 3) 21),(.d 1)])),(.k (.j 46 [(.d 0),(.j 37 [(.d 3),(.d 2),(.d 4),(.d 7)]),(.d 5)]))]⟩
abbrev Mo:aN:=⟨3,3,[],[(.h (.n .a (.d 1) (.p 3)) [(.k (.j 41 [(.d 0)]))] [(.h (.n .a (.d 1) (.p 1)) [(.k (.j 48 [(.d 0),(.h (.q (.d 0) 17) (.g 3)),(.d 2)]))] [(.h (.n .a (.d 1) (.p 2)) [(.k (.w .a (.q (.d 0) 5) [(.j 51 [(.d 0),(.h (.q (.d 0) 17) (.g 3)),(.d 2)])]))] []),(.k (.j 48 [(.d 0),(.h (.q (.d 0) 17) (.g 4)),(.q (.d 0) 8)]))])])]⟩
abbrev Mq:aN:=⟨3,10,[],[(.g 3 (.q (.d 0) 6)),(.g 4 (.q (.d 3) 21)),(.g 5 (.g 0)),(.q (.n .a (.h (.h (.q (.d 4) 18) (.d 1)) (.g 0)) (.p 19)) [.j]),(.d (.t [(.d 1),(.d 2)]))]⟩
abbrev Mr:aN:=⟨3,4,[],[(.r [1,2] (.j 47 [(.d 0),(.d 1),(.d 2)])),(.g 3 (.h (.q (.q (.q (.d 0) 6) 21) 18) (.d 1))),(.h (.n .c (.h (.d 3) (.g 0)) (.p 16)) [(.l (.d 0) 4 (.y (.q (.d 0) 6) 6 [(.d 1),(.d 2)])),.t] []),(.k (.y (.d 0) 2 [])),(.l (.d 0) 17 (.d 3)),(.l (.d 0) 8 (.d 2)),(.l (.d 0) 13 (.I 1))]⟩
abbrev Ms:aN:=⟨1,1,[],[(.q (.n .f (.q (.d 0) 4) (.g 0)) [(.k (.j 44 [(.d 0)]))]),(.h (.n .a (.x .a (.q (.d 0) 5)) (.g 0)) [(.d (.q (.d 0) 4))] []),(.d (.j 8 [(.q (.q (.d 0) 6) 21),(.A .a (.q (.d 0) 5) (.r true [(.q (.d 0) 4)]))]))]⟩
abbrev Mt:aN:=⟨1,2,[],[(.g 1 (.q (.d 0) 6)),(.h (.n .g (.q (.d 1) 2) (.q (.d 1) 9)) [.j] []),(.s (.d 1) 2 .a (.g 1)),(.v [(.d (.j 49 [(.d 0)]))] [(.s (.d 1) 2 .c (.g 1))])]⟩
abbrev Mv:aN:=⟨3,4,[],[(.g 3 (.L 1 [(.q (.d 0) 6),(.q (.d 0) 17),(.d 2),(.q (.d 0) 16),(.q (.d 0) 20)])),(.k (.j 48 [(.d 3),(.d 1),(.d 2)])),(.d (.C (.n .g (.q (.d 3) 4) (.g 0)) (.q (.d 3) 4) (.j 50 [(.d 3)])))]⟩
abbrev Mw:aN:=⟨3,3,[],[(.d (.j 50 [(.L 1 [(.d 0),(.d 1),(.j 24 [(.d 2),(.h (.d 1) (.g 5))]),(.g 0),(.r false [(.g 0)])])]))]⟩
abbrev My:aN:=⟨2,2,[],[(.d (.j 52 [(.d 0),(.d 1),(.F [])]))]⟩
abbrev Mz:aN:=⟨2,2,[],[(.h (.n .a (.h (.d 1) (.g 0)) (.p 16)) [(.d (.j 53 [(.d 0),(.d 1)]))] []),(.d (.y (.q (.d 0) 21) 4 [(.d 1)]))]⟩
abbrev MA:aN:=⟨2,3,[],[(.g 2 (.h (.d 0) (.g 0))),(.n (.d 0) (.g 0) (.A .a (.d 2) (.g 1))),(.d (.A .b (.A .a (.h (.h (.d 0) (.g 1)) (.A .b (.d 2) (.x .a (.h (.d 0) (.g 1))))) (.A .d (.g 7) (.A .e (.d 2) (.x .a (.h (.d 0) (.g 1)))))) (.d 1)))]⟩
abbrev MB:aN:=⟨1,11,[],[(.g 1 (.y (.d 0) 4 [(.t [(.p 3),(.u "a"),(.g 0)])])),(.g 2 (.y (.d 0) 4 [(.t [(.p 3),(.u "b"),(.g 0)])])),(.g 3 (.y (.d 0) 4 [(.t [(.p 4),(.g 0),(.g 0)])])),(.g 4 (.y (.d 0) 4 [(.t [(.p 4),(.g 1),(.g 0)])])),(.g 5 (.y (.d 0) 4 [(.t [(.p 5),(.g 1),(.u "A"),(.g 0),(.g 0)])])),(.g 6 (.y (.d 0) 4 [(.t [(.p 5),(.g 2),(.u "A"),(.g 0),(.g 0)])])),(.g 7 (.y (.d 0) 4 [(.t [(.p 5),(.g 1),(.u "B"),(.u "a"),(.g 0)])])),(.g 8 (.y (.d 0) 4 [(.t [(.p 8),(.t [(.t [(.u "p"),(.p 6),(.g 0),(.g 0)])]),(.t []),(.t []),(.t []),(.t []),(.g 0)])])),(.g 9 (.y (.d 0) 4 [(.t [(.p 8),(.t [(.t [(.u "p"),(.j 1 [(.d 0),(.u "R"),(.p 6)]),(.g 0),(.g 0)])]),(.t []),(.t []),(.t []),(.t []),(.g 0)])])),(.g 10 (.r false [(.t [(.d 5),(.r true [(.d 5),(.d 3),(.p 7)])]),(.t [(.d 1),(.r true [(.d 1),(.p 6)])]),(.t [(.d 3),(.r true [(.d 3),(.p 7)])]),(.t [(.p 6),(.r true [(.p 6)])]),(.t [(.d 6),(.r true [(.d 6),(.d 3),(.p 7)])])])),(.k (.w .b (.d 10) [(.r true [(.t [(.p 4),(.r true [(.p 4),(.p 3)])]),(.t [(.p 9),(.r true [(.p 9)])]),(.t [(.p 8),(.r true [(.p 8)])]),(.t [(.p 7),(.r true [(.p 7)])]),(.t [(.p 5),(.r true [(.p 5)])])])])),(.k (.w .b (.d 10) [(.r true [(.t [(.d 7),(.r true [(.d 7),(.d 1),(.p 6)])]),(.t [(.y (.d 0) 4 [(.t [(.p 3),(.u "a"),(.g 1)])]),(.r true [(.d 1),(.p 6)])]),(.t [(.d 8),(.r true [(.d 8)])]),(.t [(.p 3),(.r true [(.p 3)])])])])),(.k (.w .b (.d 10) [(.r true [(.t [(.d 2),(.r true [(.d 2),(.p 6)])]),(.t [(.d 4),(.r true [(.d 4),(.p 7)])]),(.t [(.d 9),(.r true [(.d 9)])]),(.t [(.p 10),(.r true [(.p 10)])]),(.t [(.p 11),(.r true [(.p 11)])])])])),(.d (.d 10))]⟩
abbrev MC:aN:=⟨2,8,[],[(.m (.a 2) (.a (.t [(.p 0),(.p 13),(.p 1)])) [(.h (.n .b (.d 2) (.d 1)) [(.d (.r true [(.d 2)]))] [])]),(.g 3 (.r false [])),(.m (.a 4) (.a (.x .c (.d 1))) [(.g 5 (.h (.q (.d 0) 18) (.d 4))),(.g 6 (.C (.n .a (.h (.d 5) (.g 0)) (.p 5)) (.h (.d 5) (.g 3)) (.C (.n .b (.h (.d 5) (.g 0)) (.t [(.p 3),(.p 4)])) (.h (.d 5) (.g 1)) .N))),(.g 7 (.z [(.n .h (.d 6) .N),(.n .b (.C (.O (.d 6)) (.p 6) (.p 7)) (.d 1))])),(.h (.z [(.n .a (.h (.d 5) (.g 0)) (.p 3)),(.n .a (.h (.d 5) (.g 2)) (.g 1))]) [(.g 7 (.D [(.d 7),(.n .b (.y (.d 0) 4 [(.t [(.p 3),(.h (.d 5) (.g 1)),(.g 0)])]) (.d 1))]))] []),(.h (.z [(.G (.d 7)),(.n .d (.d 4) (.d 3))]) [(.k (.w .a (.d 3) [(.d 4)]))] [])]),(.d (.d 3))]⟩
abbrev MD:aN:=⟨2,3,[],[(.g 2 (.j 57 [(.d 0),(.d 1)])),(.h (.n .a (.x .a (.d 2)) (.g 0)) [(.d (.p 2))] []),(.d (.C (.n .a (.x .a (.d 2)) (.g 1)) (.h (.d 2) (.g 0)) (.y (.d 0) 4 [(.t [(.p 6),(.x .b (.d 2))])])))]⟩
abbrev ME:aN:=⟨3,5,[],[(.h (.z [(.d 2),(.n .a (.j 55 [(.d 0),(.g 7)]) (.g 6))]) [(.d (.h (.r true [(.r true [(.p 0)]),(.r true [(.p 1)]),(.r true [(.p 13)])]) (.j 55 [(.d 0),(.C (.n .a (.h (.d 1) (.u "where")) (.g 0)) (.g 3) (.g 2))])))] []),(.g 3 (.r false [])),(.m (.a 4) (.b (.h (.r true [(.g 2),(.g 1),(.g 3),(.g 0)]) (.j 55 [(.d 0),(.g 4)]))) [(.k (.w .a (.d 3) [(.h (.h (.h (.d 1) (.u "store")) (.j 55 [(.d 0),(.g 19)])) (.g 0))]))]),(.d (.j 57 [(.h (.d 1) (.u "tab")),(.d 3)]))]⟩
abbrev MF:aN:=⟨3,8,[],[(.g 3 (.t [(.u "T"),(.r true [])])),(.h (.n .a (.j 55 [(.d 0),(.g 3)]) (.g 2)) [(.g 3 (.t [(.u "k"),(.H (.j 59 [(.d 0),(.d 1),(.B true)]) .K (.A .a (.d 2) (.g 1)))]))] []),(.g 4 (.t [(.u "T"),(.r true [])])),(.h (.n .c (.j 55 [(.d 0),(.g 5)]) (.g 4)) [(.g 4 (.t [(.u "k"),(.j 59 [(.d 0),(.d 1),(.B true)])])),(.h (.D [(.z [(.n .a (.h (.d 1) (.u "where")) (.g 2)),(.n .a (.d 2) (.g 2))]),(.z [(.n .a (.h (.d 1) (.u "where")) (.g 3)),(.n .f (.d 2) (.g 2))])]) [(.g 4 (.t [(.u "k"),(.j 57 [(.h (.d 1) (.u "tab")),(.A .a (.h (.d 4) (.g 1)) (.r true [(.h (.d 1) (.u "q"))]))])]))] [])] []),(.g 5 (.r false [])),(.m (.a 6) (.b (.g 2)) [(.g 7 (.A .b (.A .a (.j 55 [(.d 0),(.g 6)]) (.d 6)) (.g 6))),(.h (.z [(.n .b (.d 7) (.t [(.g 1),(.g 5)])),(.n .e (.d 2) (.d 6))]) [(.k (.w .a (.d 5) [(.t [(.u "q"),(.j 60 [(.d 0),(.d 1),(.A .c (.d 2) (.g 1))])])]))] [(.h (.n .a (.d 7) (.g 2)) [(.k (.w .a (.d 5) [(.t [(.u "|"),(.j 59 [(.d 0),(.d 1),(.B false)])])]))] [(.k (.w .a (.d 5) [(.C (.n .b (.d 7) (.t [(.g 1),(.g 3)])) (.t [(.u "k"),(.j 59 [(.d 0),(.d 1),(.B false)])]) (.t [(.u "T"),(.r true [])]))]))])])]),(.d (.t [(.d 3),(.d 4),(.h (.d 5) (.g 0)),(.h (.d 5) (.g 1)),(.h (.r true [(.g 1),(.g 1),(.g 0)]) (.j 55 [(.d 0),(.g 3)]))]))]⟩
abbrev MG:aN:=⟨3,5,[],[(.r [3,4] (.d 1)),(.h (.n .a (.d 3) (.u "q")) [(.d (.y (.h (.d 0) (.u "tab")) 4 [(.j 62 [(.d 0),(.d 4),(.d 2)])]))] []),(.d (.j 58 [(.h (.d 0) (.u "tab")),(.h (.F [(.u "T"),(.d 2),(.u "k"),(.d 4),(.u "|"),(.A .a (.d 2) (.d 4))]) (.d 3))]))]⟩
abbrev MH:aN:=⟨3,5,[],[(.g 3 (.x .b (.E (.j 61 [(.d 0),(.d 4),(.d 2)]) 4 (.a (.H (.d 1) .K (.g 4))) []))),(.d (.A .a (.A .a (.t [(.p 16)]) (.d 3)) (.t [(.t []),(.h (.d 1) (.g 4))])))]⟩
abbrev MI:aN:=⟨3,7,[],[(.h (.n .b (.H (.d 2) .K (.g 1)) (.t [(.r true [(.p 0)]),(.r true [(.p 1)]),(.r true [(.p 13)])])) [(.d (.B true))] []),(.g 3 (.r false [])),(.m (.a 4) (.a (.d 2)) [(.k (.w .a (.d 3) [(.h (.h (.h (.d 0) (.u "holders")) (.d 4)) (.g 0))]))]),(.d (.n .a (.x .a (.E (.d 5) 5 (.a (.d 1)) [(.n .a (.x .a (.E (.d 6) 6 (.a (.w .c (.h (.d 0) (.u "holders")) [(.d 5),(.r true [])])) [(.n .b (.d 6) (.d 3))])) (.g 0))])) (.g 0)))]⟩
abbrev MJ:aN:=⟨2,2,[],[(.d (.D [(.n .b (.h (.d 0) (.u "q")) (.d 1)),(.n .b (.h (.d 0) (.u "t")) (.d 1))]))]⟩
abbrev MK:aN:=⟨4,5,[],[(.g 4 (.C (.n .a (.h (.h (.d 1) (.g 0)) (.g 0)) (.u "T")) (.d 2) (.h (.h (.d 1) (.g 0)) (.g 1)))),(.d (.j 66 [(.d 0),(.d 1),(.d 2),(.d 4),(.d 3)]))]⟩
abbrev ML:aN:=⟨5,8,[],[(.h (.n .a (.d 3) (.r true [(.p 13)])) [(.d (.r true [(.p 13)]))] []),(.h (.z [(.n .a (.h (.d 1) (.g 4)) (.g 1)),(.n .a (.d 3) (.r true []))]) [(.d (.r true []))] []),(.h (.z [(.n .a (.h (.d 1) (.g 4)) (.g 1)),(.n .e (.x .a (.d 3)) (.g 1))]) [(.g 5 (.r false [])),(.m (.a 6) (.a (.d 3)) [(.k (.w .b (.d 5) [(.j 66 [(.d 0),(.d 1),(.C (.z [(.d 4),(.n .a (.h (.h (.d 1) (.g 0)) (.g 0)) (.u "T"))]) (.r true [(.d 6)]) (.d 2)),(.r true [(.d 6)]),(.d 4)])]))]),(.d (.d 5))] []),(.g 7 (.C (.n .a (.h (.h (.d 1) (.g 1)) (.g 0)) (.u "T")) (.d 2) (.h (.h (.d 1) (.g 1)) (.g 1)))),(.h (.j 64 [(.d 0),(.d 3)]) [(.d (.r true [(.j 68 [(.d 0),(.d 1),(.d 2),(.d 3),(.d 4)])]))] []),(.h (.n .a (.d 7) (.r true [(.p 13)])) [(.d (.r true [(.p 13)]))] []),(.h (.j 64 [(.d 0),(.d 7)]) [(.d (.r true [(.j 68 [(.d 0),(.d 1),(.d 2),(.d 3),(.d 4)])]))] []),(.h (.z [(.n .a (.d 3) (.r true [(.p 0)])),(.n .d (.d 7) (.t [(.r true [(.p 0)]),(.r true [(.p 1)])]))]) [(.d (.A .a (.j 67 [(.d 0),(.h (.d 1) (.g 2)),(.d 2),(.d 4)]) (.j 67 [(.d 0),(.h (.d 1) (.g 3)),(.d 2),(.d 4)])))] []),(.d (.j 67 [(.d 0),(.C (.j 63 [(.d 0),(.d 3),(.d 7)]) (.h (.d 1) (.g 2)) (.h (.d 1) (.g 3))),(.d 2),(.d 4)]))]⟩
abbrev MM:aN:=⟨4,6,[],[(.r [4,5] (.d 1)),(.h (.n .a (.d 4) (.u "q")) [(.d (.j 65 [(.d 0),(.d 5),(.d 2),(.d 3)]))] []),(.d (.h (.F [(.u "T"),(.d 2),(.u "k"),(.d 5),(.u "|"),(.A .a (.d 2) (.d 5))]) (.d 4)))]⟩
abbrev MO:aN:=⟨5,7,[],[(.g 5 (.r false [(.j 58 [(.h (.d 0) (.u "tab")),(.d 3)]),(.j 61 [(.d 0),(.h (.d 1) (.g 1)),(.d 2)])])),(.m (.a 6) (.a (.H (.d 1) (.g 2) (.g 4))) [(.h (.z [(.d 4),(.n .a (.h (.d 6) (.g 0)) (.u "q"))]) [(.k (.w .a (.d 5) [(.j 58 [(.h (.d 0) (.u "tab")),(.j 65 [(.d 0),(.h (.d 6) (.g 1)),(.d 2),(.d 4)])])]))] [(.k (.w .a (.d 5) [(.j 61 [(.d 0),(.d 6),(.d 2)])]))])]),(.d (.y (.h (.d 0) (.u "tab")) 4 [(.A .a (.A .a (.t [(.p 16)]) (.x .b (.d 5))) (.t [(.t []),(.h (.d 1) (.g 4))]))]))]⟩
abbrev MP:aN:=⟨3,4,[],[(.h (.n .d (.h (.d 0) (.u "q")) (.d 1)) [(.d (.d 1))] []),(.d (.j 57 [(.h (.d 0) (.u "tab")),(.A .a (.E (.d 3) 3 (.a (.d 1)) [(.n .c (.d 3) (.h (.d 0) (.u "q")))]) (.d 2))]))]⟩
abbrev MQ:aN:=⟨3,6,[],[(.g 3 (.r false [])),(.m (.b [4,5]) (.a (.H (.d 1) .K (.g 4))) [(.k (.w .a (.d 3) [(.t [(.d 4),(.C (.n .a (.d 4) (.u "q")) (.j 70 [(.d 0),(.d 5),(.d 2)]) (.j 69 [(.d 0),(.d 5),(.d 2)]))])]))]),(.d (.t [(.h (.d 3) (.g 0)),(.h (.d 3) (.g 1)),(.h (.d 3) (.g 2)),(.h (.d 3) (.g 3)),(.h (.d 1) (.g 4))]))]⟩
abbrev MR:aN:=⟨5,11,[],[(.g 5 (.h (.d 0) (.u "tab"))),(.g 6 (.j 62 [(.d 0),(.d 2),(.r true [(.h (.d 0) (.u "t"))])])),(.g 7 (.j 52 [(.d 1),(.d 6),(.F [(.h (.h (.q (.d 5) 18) (.h (.d 0) (.u "t"))) (.g 1)),(.j 58 [(.d 5),(.d 3)])])])),(.h (.D [(.n .c (.d 7) (.j 58 [(.d 5),(.j 65 [(.d 0),(.d 2),(.d 3),(.B true)])])),(.n .c (.y (.d 1) 1 [(.d 7)]) (.d 7))]) [.j] []),(.h (.n .c (.j 53 [(.d 1),(.d 6)]) (.j 58 [(.d 5),(.j 65 [(.d 0),(.d 2),(.r true [(.h (.d 0) (.u "t"))]),(.B false)])])) [.j] []),(.g 8 (.y (.d 5) 4 [(.j 62 [(.d 0),(.d 2),(.d 3)])])),(.h (.n .c (.y (.d 1) 1 [(.d 8)]) (.j 58 [(.d 5),(.j 65 [(.d 0),(.d 2),(.d 3),(.B false)])])) [.j] []),(.g 9 (.y (.d 1) 6 [(.d 7),(.F [(.h (.h (.q (.d 5) 18) (.h (.d 0) (.u "q"))) (.g 1)),(.j 58 [(.d 5),(.d 4)])])])),(.g 10 (.j 65 [(.d 0),(.j 70 [(.d 0),(.d 2),(.d 4)]),(.j 69 [(.d 0),(.d 3),(.d 4)]),(.B true)])),(.d (.z [(.n .a (.d 9) (.j 58 [(.d 5),(.d 10)])),(.n .a (.q (.d 1) 2) (.g 0))]))]⟩
abbrev MS:aN:=⟨4,15,[],[(.g 4 (.h (.d 0) (.u "tab"))),(.g 5 (.h (.d 0) (.u "t"))),(.g 6 (.j 58 [(.d 4),(.d 3)])),(.g 7 (.j 58 [(.d 4),(.d 2)])),(.h (.n .c (.j 20 [(.d 4),(.d 7),(.d 6)]) (.j 63 [(.d 0),(.d 2),(.d 3)])) [.j] []),(.h (.D [(.n .c (.j 20 [(.d 4),(.d 7),(.p 13)]) (.B true)),(.n .c (.j 20 [(.d 4),(.p 2),(.d 6)]) (.B true)),(.G (.j 20 [(.d 4),(.d 7),(.p 1)]))]) [.j] []),(.h (.D [(.n .b (.H (.d 2) .K (.g 1)) (.t [(.r true [(.p 0)]),(.r true [(.p 1)]),(.r true [(.p 13)])])),(.n .a (.d 3) (.r true [(.p 13)]))]) [(.d (.B true))] []),(.g 8 (.E (.d 13) 13 (.a (.d 2)) [(.j 20 [(.d 4),(.d 13),(.d 6)])])),(.g 9 (.E (.d 14) 14 (.a (.d 2)) [(.G (.j 63 [(.d 0),(.r true [(.d 14)]),(.d 3)]))])),(.g 10 (.F [(.h (.h (.q (.d 4) 18) (.d 5)) (.g 1)),(.d 7)])),(.g 11 (.j 52 [(.d 1),(.t [(.p 16),(.d 5),(.d 6),(.d 5),(.p 2),(.t []),(.g 1)]),(.d 10)])),(.g 12 (.j 52 [(.d 1),(.t [(.p 16),(.d 5),(.d 6),(.p 2),(.d 5),(.t []),(.g 1)]),(.d 10)])),(.d (.z [(.n .a (.d 11) (.j 58 [(.d 4),(.d 8)])),(.n .a (.d 12) (.j 58 [(.d 4),(.d 9)])),(.n .a (.A .a (.x .a (.d 8)) (.x .a (.d 9))) (.x .a (.d 2)))]))]⟩
abbrev qY:aN:=⟨1,12,[],[(.g 1 (.L 0 [])),(.g 2 (.L 2 [(.d 1)])),(.g 3 (.j 56 [(.d 1)])),(.g 4 (.F [(.u "tab"),(.d 1),(.u "store"),(.d 3),(.u "t"),(.j 1 [(.d 1),(.u "T")]),(.u "q"),(.j 1 [(.d 1),(.u "Q")]),(.u "where"),(.g 0),(.u "holders"),(.F [])])),(.m (.b [5,6]) (.a (.d 3)) [(.n (.h (.d 4) (.u "holders")) (.d 5) (.d 6))]),(.g 7 (.j 59 [(.d 0),(.d 4),(.B true)])),(.h (.G (.j 72 [(.d 4),(.d 2),(.d 7),(.j 59 [(.d 0),(.d 4),(.B true)])])) [.j] []),(.g 8 (.E (.h (.h (.d 3) (.j 55 [(.d 0),(.g 19)])) (.g 0)) 11 (.b (.g 3)) [])),(.h (.G (.j 72 [(.d 4),(.d 2),(.j 57 [(.d 1),(.d 8)]),(.j 59 [(.d 0),(.d 4),(.B false)])])) [.j] []),(.n (.d 4) (.u "where") (.j 55 [(.d 0),(.g 4)])),(.g 9 (.C (.n .a (.h (.d 4) (.u "where")) (.g 1)) (.j 57 [(.d 1),(.A .a (.d 7) (.r true [(.h (.d 4) (.u "q"))]))]) (.d 7))),(.g 10 (.h (.r true [(.r true []),(.r true [(.p 5)]),(.r true [(.p 4),(.p 5)]),(.r true [(.p 9),(.p 8)]),(.r true [(.p 3),(.p 4)])]) (.j 55 [(.d 0),(.g 5)]))),(.d (.j 71 [(.d 4),(.d 2),(.j 60 [(.d 0),(.d 4),(.g 2)]),(.d 9),(.d 10)]))]⟩
abbrev MT:aN:=⟨1,3,[],[(.g 1 (.E (.A .b (.d 2) (.g 99991)) 2 (.a (.H (.d 0) .K (.g 40))) [])),(.h (.n .a (.x .a (.d 1)) (.g 0)) [(.g 1 (.r true [(.g 0),(.g 0),(.g 0),(.g 4),(.g 1),(.g 1),(.g 2),(.g 2),(.g 5),(.g 1),(.g 0),(.g 0),(.g 3),(.g 1),(.g 2),(.g 0),(.g 1),(.g 0),(.g 6),(.g 3)]))] []),(.d (.j 73 [(.r false [(.g 0),(.d 1)])]))]⟩
abbrev MU:aN:=⟨1,2,[],[(.l (.d 0) 18 (.r false [])),(.l (.d 0) 7 (.F [])),(.l (.d 0) 1 (.r true [.N])),(.l (.d 0) 0 (.r false [])),(.l (.d 0) 3 (.r false [])),(.l (.d 0) 11 (.r false [])),(.l (.d 0) 12 (.F [])),(.l (.d 0) 15 (.F [])),(.l (.d 0) 19 (.g 0)),(.l (.d 0) 14 (.g 0)),(.m (.a 1) (.a (.M (.p [(.p [(.j 1),(.u "any")]),(.p [(.j 1),(.u "unknown")]),(.p [(.j 1),(.u "never")]),(.p [(.j 1),(.u "void")]),(.p [(.j 1),(.u "undefined")]),(.p [(.j 1),(.u "null")]),(.p [(.j 1),(.u "string")]),(.p [(.j 1),(.u "number")]),(.p [(.j 2),(.j 0),(.j 0)]),(.p [(.j 2),(.j 1),(.j 0)]),(.p [(.j 1),(.u "object")]),(.p [(.j 8),(.p []),(.p []),(.p []),(.p []),(.p []),(.j 0)]),(.p [(.j 6),(.p [(.j 8),(.j 9)])]),(.p [(.j 1),(.u "error")]),(.p [(.j 2),(.j 0),(.j 1)]),(.p [(.j 2),(.j 1),(.j 1)])]))) [(.k (.y (.d 0) 4 [(.d 1)]))])]⟩
abbrev MV:aN:=⟨2,3,[],[(.h (.n .b (.d 1) (.q (.d 0) 7)) [(.d (.h (.q (.d 0) 7) (.d 1)))] []),(.g 2 (.x .a (.q (.d 0) 18))),(.k (.w .a (.q (.d 0) 18) [(.d 1)])),(.n (.q (.d 0) 7) (.d 1) (.d 2)),(.d (.d 2))]⟩
abbrev MW:aN:=⟨6,6,[],[(.l (.d 0) 6 (.d 1)),(.l (.d 0) 17 (.d 2)),(.l (.d 0) 8 (.d 3)),(.l (.d 0) 16 (.d 4)),(.l (.d 0) 20 (.d 5)),(.l (.d 0) 5 (.r false [])),(.l (.d 0) 13 (.I 1)),(.l (.d 0) 4 (.I 1))]⟩
abbrev MX:aN:=⟨1,1,[],[(.s (.d 0) 16 .a (.g 1)),(.w (.q (.d 0) 20) (.g 0) .a (.g 1)),(.h (.D [(.n .e (.q (.d 0) 16) (.q (.q (.d 0) 6) 10)),(.n .e (.h (.q (.d 0) 20) (.g 0)) (.p 4000))]) [.j] [])]⟩
abbrev MY:aN:=⟨3,3,[],[(.d (.j 20 [(.q (.d 0) 21),(.d 1),(.d 2)]))]⟩
abbrev MZ:aN:=⟨2,2,[],[(.l (.d 0) 21 (.d 1)),(.l (.d 0) 2 (.g 0)),(.l (.d 0) 10 (.g 200)),(.l (.d 0) 9 (.g 40))]⟩
abbrev M0:aN:=⟨2,2,[],[(.d (.j 54 [(.d 0),(.h (.q (.q (.d 0) 21) 18) (.d 1))]))]⟩
abbrev M1:aN:=⟨3,3,[],[(.d (.j 52 [(.d 0),(.d 1),(.d 2)]))]⟩
abbrev M2:aN:=⟨3,3,[],[(.d (.j 26 [(.d 0),(.d 1),(.d 2)]))]⟩
abbrev M3:aN:=⟨3,3,[],[(.d (.j 27 [(.d 0),(.d 1),(.d 2)]))]⟩
abbrev bv(f:FN):aN:=[CP,Lg,Lh,Li,Lj,Ll,Ln,Lp,Lq,Lr,Lu,Lw,Lx,Ly,Lz,LA,LB,LC,LD,LG,LH,LI,LJ,LK,LN,LO,LP,LQ,LR,LS,LU,LV,LW,LY,LZ,L_,Ma,Mb,Mc,Mf,Mh,Mi,Mj,Mk,Ml,Mm,Mo,Mq,Mr,Ms,Mt,Mv,Mw,My,Mz,MA,MB,MC,MD,ME,MF,MG,MH,MI,MJ,MK,ML,MM,MO,MP,MQ,MR,MS,qY,MT,MU,MV,MW,MX,MY,MZ,M0,M1,M2,M3].getD f.val CP
end Mine.Lake
section
open PySem PySem.W PyProof.Rows
namespace Mine.Lake.S
@[inline]abbrev Mu:=List (Addr×Addr)
abbrev au(σ:St)(μ:Mu)(a:Addr):Prop:=∃(i:Nat) (o:O) (m:Addr×Addr),σ[i]?=some o/\o≠O.d/\μ[i]?=some m/\(a=m.1\/a=m.2)
@[inline]abbrev cb(t:String)(vs:Array Value)(n:Nat):Obj:={cls:=.type t,dict:=none,data:=.seq vs n,slots:=#[]}
abbrev a0(R:α->β->Prop):List α->List β->Prop
 |[]=>λc=>c=[]
 |a::as=>λc=>∃b I,c=b::I/\R a b/\a0 R as I
section
variable{α β:Type}{R R':α->β->Prop}
def a0.nil:a0 R [] []:=rfl
def a0.cons(h:R a b)(t:a0 R as I):a0 R (a::as) (b::I):=⟨b,I,rfl,h,t⟩
def a0.ind(P:List α->List β->Prop)(nil:P [] [])(cons:∀a b as I,R a b->a0 R as I->P as I->P (a::as) (b::I))(r:a0 R l m):P l m:=by
 revert m
 induction l with
 |nil=>exact λ{m} e=>(show m=[]from e)▸nil|cons a as ih=>
  intro m r;obtain⟨b,I,e,h,t⟩:=r;rw[e];exact cons a b as I h t (ih t)
def a0.mem(h:∀a b,a∈l->R a b->R' a b)(r:a0 R l m):a0 R' l m:=by
 induction l generalizing m with
 |nil=>exact r|cons a as ih=>obtain⟨b,I,e,h1,t⟩:=r;exact⟨b,I,e,h a b (.head _) h1,ih (λa b q=>h a b (.tail _ q)) t⟩
def a0.mono(h:∀a b,R a b->R' a b)(r:a0 R l m):a0 R' l m:=r.mem λa b J=>h a b
def a0.length(r:a0 R l m):l.length=m.length:=by
 refine r.ind (λ(l:List α) (m:List β)=>l.length=m.length) rfl λJ J J J J J ih=>?_;rw[bI,bI,ih]
def a0.map_eq(h:∀a b,R a b->g b=f a)(r:a0 R l m):m.map g=l.map f:=
 r.ind (λl m=>m.map g=l.map f) rfl λa b J J q J ih=>by rw[eR,eR,ih,h a b q]
def a0.get(r:a0 R l m){i:Nat}(e:l[i]?=some a):∃b,m[i]?=some b/\R a b:=by
 refine r.ind (λl m=>∀(i:Nat) (a:α),l[i]?=some a->∃b,m[i]?=some b/\R a b) (λi a e=>nomatch e) (λp b as I h t ih i a e=>?_) i a e
 induction i using dK with
 |zero=>exact⟨b,rfl,ay e▸h⟩|succ i=>exact ih i a e
def a0.append(r:a0 R l m)(r':a0 R l' m'):a0 R (l++l') (m++m'):=r.ind (λl m=>a0 R (l++l') (m++m')) r' λJ J J J h J ih=>.cons h ih
def a0.take(r:a0 R l m)(n:Nat):a0 R (l.take n) (m.take n):=by
 refine r.ind (λl m=>∀n,a0 R (l.take n) (m.take n)) (λn=>by rw[BK,BK];exact .nil) (λa b as I h t ih n=>?_) n
 induction n using dK with
 |zero=>exact .nil|succ n=>exact .cons h (ih n)
def a0.drop(r:a0 R l m)(n:Nat):a0 R (l.drop n) (m.drop n):=by
 refine r.ind (λl m=>∀n,a0 R (l.drop n) (m.drop n)) (λn=>by rw[BL,BL];exact .nil) (λa b as I h t ih n=>?_) n
 induction n using dK with
 |zero=>exact .cons h t|succ n=>exact ih n
def a0.set(r:a0 R l m)(i:Nat)(q:R a b):a0 R (l.set i a) (m.set i b):=by
 refine r.ind (λl m=>∀i,a0 R (l.set i a) (m.set i b)) (λn=>.nil) (λa b as I h t ih n=>?_) i
 induction n using dK with
 |zero=>exact .cons q t|succ n=>exact .cons h (ih n)
end
inductive fR(h:Heap)(ω:Addr->Prop)(t:String)(R:List Value->Prop)(x:Value):Prop
 |mk (a:Addr) (vs:Array Value) (n:Nat) (e:x=.ref a) (g:h.get? a=some (cb t vs n)) (w:¬ ω a) (r:R vs.toList)
mutual
noncomputable def aq(h:Heap)(ω:Addr->Prop)(μ:Mu):V->Value->Prop
 |.z=>λx=>x=.none
 |.w b=>λx=>x=.bool b
 |.j i=>λx=>∃t,x=.int i t
 |.u s=>λx=>∃t,x=.str (Str.ofString s) t
 |.p l=>fR h ω "tuple" (qZ h ω μ l)|.r l=>fR h ω "list" (qZ h ω μ l)|.o i=>λx=>∃m:Addr×Addr,μ[i]?=some m/\x=.ref m.1
noncomputable def qZ(h:Heap)(ω:Addr->Prop)(μ:Mu):List V->List Value->Prop
 |[]=>λc=>c=[]
 |a::as=>λc=>∃b I,c=b::I/\aq h ω μ a b/\qZ h ω μ as I
end
@[inline]abbrev b7(h:Heap)(ω:Addr->Prop)(μ:Mu)(l:List V)(m:List Value):Prop:=a0 (aq h ω μ) l m
section
variable{h:Heap}{ω:Addr->Prop}{μ:Mu}
def mM:∀l:List V,qZ h ω μ l=b7 h ω μ l:=λl=>l.rec rfl λa as ih=>by
 show(λc=>∃b I,c=b::I/\aq h ω μ a b/\qZ h ω μ as I)=_;rw[ih];rfl
def aq.none:aq h ω μ .z .none:=rfl
def aq.bool(b:Bool):aq h ω μ (.w b) (.bool b):=rfl
def aq.int(i:Int)(t:Tok):aq h ω μ (.j i) (.int i t):=⟨t,rfl⟩
def aq.str(s:String)(t:Tok):aq h ω μ (.u s) (.str (Str.ofString s) t):=⟨t,rfl⟩
def aq.CR(l:List V):aq h ω μ (.p l)=fR h ω "tuple" (b7 h ω μ l):=aE (fR h ω "tuple") (mM l)
def aq.CU(l:List V):aq h ω μ (.r l)=fR h ω "list" (b7 h ω μ l):=aE (fR h ω "list") (mM l)
def aq.uc(r:fR h ω "tuple" (b7 h ω μ l) x):aq h ω μ (.p l) x:=cast (qd (aq.CR l).symm x) r
def aq.xL(r:fR h ω "list" (b7 h ω μ l) x):aq h ω μ (.r l) x:=cast (qd (aq.CU l).symm x) r
def aq.eK(r:aq h ω μ (.p l) x):fR h ω "tuple" (b7 h ω μ l) x:=cast (qd (aq.CR l) x) r
def aq.jV(r:aq h ω μ (.r l) x):fR h ω "list" (b7 h ω μ l) x:=cast (qd (aq.CU l) x) r
def aq.tup(e:h.get? a=some (cb "tuple" vs n))(w:¬ ω a)(r:b7 h ω μ l vs.toList):aq h ω μ (.p l) (.ref a):=aq.uc ⟨a,vs,n,rfl,e,w,r⟩
def aq.lst(e:h.get? a=some (cb "list" vs n))(w:¬ ω a)(r:b7 h ω μ l vs.toList):aq h ω μ (.r l) (.ref a):=aq.xL ⟨a,vs,n,rfl,e,w,r⟩
def aq.ref(e:μ[i]?=some m):aq h ω μ (.o i) (.ref m.1):=⟨m,e,rfl⟩
end
def V.ind{P:V->Prop}(a:P .z)(b:∀b,P (.w b))(c:∀i,P (.j i))(d:∀s,P (.u s))(e:∀l,(∀v∈l,P v)->P (.p l))(f:∀l,(∀v∈l,P v)->P (.r l))(g:∀i,P (.o i))(v:V):P v:=
 v.rec (motive_2:=λl=>∀v∈l,P v) a b c d e f g (λJ q=>(dU q).elim) λJ J h t v q=>(bH.mp q).elim (λe=>e▸h) (t v)
def aq.mono{h:Heap}(U:∀a t vs n,h.get? a=some (cb t vs n)->¬ ω a->h'.get? a=some (cb t vs n)/\¬ bD a)
  (hm:∀(i:Nat) (m:Addr×Addr),μ[i]?=some m->aF[i]?=some m):∀{x:Value},aq h ω μ v x->aq h' bD aF v x:=by
 have seq:∀{t l x},(∀v∈l,∀x,aq h ω μ v x->aq h' bD aF v x)->fR h ω t (b7 h ω μ l) x->fR h' bD t (b7 h' bD aF l) x:=λih r=>by
  obtain⟨a,vs,n,e,g,w,r⟩:=r;exact⟨a,vs,n,e,(U a _ vs n g w).1,(U a _ vs n g w).2,r.mem λv x q=>ih v q x⟩
 exact λ{x}=>V.ind (P:=λv=>∀x,aq h ω μ v x->aq h' bD aF v x) (λJ r=>r) (λJ J r=>r) (λJ J r=>r) (λJ J r=>r)
  (λl ih x r=>aq.uc (seq ih r.eK)) (λl ih x r=>aq.xL (seq ih r.jV)) (λi x r=>by obtain⟨m,e,q⟩:=r;exact⟨m,hm i m e,q⟩) v x
def b7.mono(U:∀a t vs n,h.get? a=some (cb t vs n)->¬ ω a->h'.get? a=some (cb t vs n)/\¬ bD a)
  (hm:∀(i:Nat) (m:Addr×Addr),μ[i]?=some m->aF[i]?=some m) (r:b7 h ω μ v x):b7 h' bD aF v x:=a0.mono (λJ J=>aq.mono U hm) r
structure dj where
 a:Program
 w:World
 K:Frag
 b:Heap
 d:Str->Option Value
 f:Str->Option Value
 p:Program
 g:List Str
 c:CN->Addr
 e:FN->Addr
@[inline]abbrev cw(f:α->β)(R:V->Value->Prop):List (α×V)->List (β×Value)->Prop:=a0 λp q=>q.1=f p.1/\R p.2 q.2
def cw.mono{α β:Type}{f:α->β}(h:∀v x,R v x->R' v x){l:List (α×V)}{m:List (β×Value)}(r:cw f R l m):cw f R' l m:=a0.mono (λJ J q=>⟨q.1,h _ _ q.2⟩) r
@[inline]abbrev eL(w:World)(R:V->Value->Prop):List (AN×V)->List DictEntry->Prop:=a0 λp e=>R p.2 e.val/\∃t,e=⟨PyData.keyHash w.params (Str.ofString p.1.name),.str (Str.ofString p.1.name) t,e.val⟩
def eL.mono(h:∀v x,R v x->R' v x)(r:eL w R l m):eL w R' l m:=a0.mono (λJ J q=>⟨h _ _ q.1,q.2⟩) r
def mN(h:Str.ofString s=Str.ofString t):s=t:=by
 rw[J1,J1]at h;simp only[Str.mk.injEq]at h;have h2:s.toList.map Char.toNat=t.toList.map Char.toNat:=by simpa using h
 have inj:∀a b:Char,a.toNat=b.toNat->a=b:=λa b e=>Char.ext (UInt32.toNat_inj.mp e);have h3:s.toList=t.toList:=by
  generalize s.toList=l at h2;generalize t.toList=m at h2
  induction l generalizing m with
  |nil=>induction m <;>simp_all|cons a l ih=>
   induction m using bo with
   |nil=>simp at h2|cons b m=>
    simp only[eR,J2]at h2;rw[inj a b h2.1,ih m h2.2]
 exact String.toList_inj.mp h3
mutual
noncomputable def dz:V->PyData
 |.z=>.none|.w b=>.bool b|.j i=>.int i|.u s=>.str (Str.ofString s)|.p l=>.tuple (eX l)|.r l=>.list (eX l)|.o _=>.none
noncomputable def eX:List V->List PyData
 |[]=>[]|a::as=>dz a::eX as
end
def M4(s:String):PyData.strOk (Str.ofString s)=true:=by
 rw[J1];simp only[PyData.strOk,List.all_toArray,List.all_map,ek,qe,decide_eq_true_eq];intro c _;have h:=c.valid;simp only[UInt32.isValidChar,Nat.isValidChar]at h;show c.val.toNat < _;exact "~vwTQQd|_<mw?>Ufo;wW4V;ZQD95;t;k_" h
def V.both{P:V->Prop}{Q:List V->Prop}(a:P .z)(b:∀b,P (.w b))(c:∀i,P (.j i))(d:∀s,P (.u s))(e:∀l,Q l->P (.p l))(f:∀l,Q l->P (.r l))(g:∀i,P (.o i))(n:Q [])(k:∀x l,P x->Q l->Q (x::l)):(∀v,P v)/\∀l,Q l:=
 ⟨λv=>v.rec a b c d e f g n k,λl=>l.rec n λx l ih=>k x l (x.rec a b c d e f g n k) ih⟩
def CV:(∀v:V,(dz v).canLay0=true)/\∀l:List V,PyData.canLayAll0 (eX l)=true:=
 V.both rfl (λJ=>rfl) (λJ=>rfl) M4 (λJ h=>h) (λJ h=>h) (λJ=>rfl) rfl λJ J h t=>bh.mpr ⟨h,t⟩
def jk(v:V):(dz v).canLay0=true:=CV.1 v
def ud(l:List V):PyData.canLayAll0 (eX l)=true:=CV.2 l
def CW:(∀v:V,(dz v).depth=fb v)/\∀l:List V,PyData.depthAll (eX l)=jj l:=
 V.both rfl (λJ=>rfl) (λJ=>rfl) (λJ=>rfl) (λJ h=>aE (·+1) h) (λJ h=>aE (·+1) h) (λJ=>rfl) rfl λx l h t=>by
  show max (dz x).depth (PyData.depthAll (eX l))=max (fb x) (jj l);rw[h,t]
def q4(v:V):(dz v).depth=fb v:=CW.1 v
def XQ(l:List V):PyData.depthAll (eX l)=jj l:=CW.2 l
def M5(s t:String):(Str.ofString s==Str.ofString t)=(s==t):=by
 by_cases h:s=t
 .rw[h,jO,jO]
 .rw[cB.mpr h];exact cB.mpr λe=>h (mN e)
def M6:(∀a b:V,a.pure=true->b.pure=true->PyData.eqv (dz a) (dz b)=ca a b)/\∀a b:List V,V.eU a=true->V.eU b=true->PyData.eqvAll (eX a) (eX b)=fA a b:=by
 refine V.both (P:=λa=>∀b:V,a.pure=true->b.pure=true->PyData.eqv (dz a) (dz b)=ca a b) (Q:=λa=>∀b:List V,V.eU a=true->V.eU b=true->PyData.eqvAll (eX a) (eX b)=fA a b) ?_ ?_ ?_ ?_ ?_ ?_ ?_ ?_ ?_
 .intro b _ T;induction b using Mine.Lake.V.casesOn <;>first |rfl |exact(dV T).elim
 .intro a b _ T;induction b using Mine.Lake.V.casesOn <;>first |rfl |exact(dV T).elim
 .intro a b _ T;induction b using Mine.Lake.V.casesOn <;>first |rfl |exact(dV T).elim
 .intro a b _ T;induction b using Mine.Lake.V.casesOn <;>first |rfl |exact(dV T).elim |exact M5 _ _
 .intro l ih b G T;induction b using Mine.Lake.V.casesOn <;>first |rfl |exact(dV T).elim |exact ih _ G T
 .intro l ih b G T;induction b using Mine.Lake.V.casesOn <;>first |rfl |exact(dV T).elim |exact ih _ G T
 .intro _ _ G;exact(dV G).elim
 .intro b _ _;induction b <;>rfl
 .intro x l H Y b G T
  induction b using bo with
  |nil=>rfl|cons y m=>
   have G:=bh.mp G;have T:=bh.mp T;show(PyData.eqv (dz x) (dz y)&&PyData.eqvAll (eX l) (eX m))=(ca x y&&fA l m);rw[H y G.1 T.1,Y m G.2 T.2]
def ue(a b:V):a.pure=true->b.pure=true->PyData.eqv (dz a) (dz b)=ca a b:=M6.1 a b
def xM(ih:∀v∈l,∀x,R v x->v.pure=true->∃as,Reads h x (dz v) as)(r:a0 R l m):V.eU l=true->∃as,ReadsAll h m (eX l) as:=by
 induction l generalizing m with
 |nil=>exact λQ=>⟨_,(show m=[]from r)▸ReadsAll.nil⟩|cons a l g=>
  intro J;obtain⟨b,I,e,h1,t⟩:=r;have J:=bh.mp J;obtain⟨as,ra⟩:=ih a (.head _) b h1 J.1;obtain⟨c,rc⟩:=g (λv q=>ih v (.tail _ q)) t J.2;rw[e];exact⟨_,.cons ra rc⟩
def aq.reads{ω μ}:aq h ω μ v x->v.pure=true->∃as,Reads h x (dz v) as:=by
 refine V.ind (P:=λv=>∀x,aq h ω μ v x->v.pure=true->∃as,Reads h x (dz v) as) ?_ ?_ ?_ ?_ ?_ ?_ ?_ v x
 .exact λx r Q=>⟨_,(show x=Value.none from r)▸Reads.none⟩
 .exact λb x r Q=>⟨_,(show x=Value.bool b from r)▸Reads.bool b⟩
 .intro i x r _;obtain⟨t,e⟩:=r;exact⟨_,e▸Reads.int i t⟩
 .intro i x r _;obtain⟨t,e⟩:=r;exact⟨_,e▸Reads.str _ t⟩
 .intro l ih x r J
  obtain⟨a,vs,n,e,g,w,r⟩:=r.eK;obtain⟨as,ra⟩:=xM ih r J;rw[e];exact⟨_,.tuple g rfl rfl ra⟩
 .intro l ih x r J
  obtain⟨a,vs,n,e,g,w,r⟩:=r.jV;obtain⟨as,ra⟩:=xM ih r J;rw[e];exact⟨_,.list g rfl rfl ra⟩
 .exact λQ Q Q J=>(dV J).elim
def xN:∀(l:List V) (d:Nat),V.jT l d=true->∀v∈l,V.key v d=true:=by
 intro l d h v hm
 induction l with
 |nil=>exact nomatch hm|cons a as ih=>
  have h:=bh.mp h;exact(bH.mp hm).elim (λe=>e▸h.1) (ih h.2)
def oo{P:V->Nat->Prop}(int:∀i d,P (.j i) d)(str:∀s d,P (.u s) d)(tup:∀l d,V.jT l d=true->P (.p l) (d+1)){v:V}(h:V.key v d=true):P v d:=by
 induction v using Mine.Lake.V.casesOn with
 |j i=>exact int i d|u s=>exact str s d|p l=>
  induction d using dK with
  |zero=>exact(dV h).elim|succ d=>exact tup l d h
 |_=>exact(dV h).elim
def mO{P:V->Nat->Prop}(int:∀i d,P (.j i) d)(str:∀s d,P (.u s) d)(tup:∀l d,V.jT l d=true->(∀v∈l,P v d)->P (.p l) (d+1)){v:V}(h:V.key v d=true):P v d:=by
 refine V.ind (P:=λv=>∀d,V.key v d=true->P v d) ?_ ?_ ?_ ?_ ?_ ?_ ?_ v d h
 .exact λJ h=>(dV h).elim
 .exact λJ J h=>(dV h).elim
 .exact λi d J=>int i d
 .exact λi d J=>str i d
 .intro l ih d h
  induction d using dK with
  |zero=>exact(dV h).elim|succ d=>exact tup l d h λv q=>ih v q d (xN l d h v q)
 .exact λJ J J h=>(dV h).elim
 .exact λJ J h=>(dV h).elim
def M7:∀{l:List V},(∀v∈l,v.pure=true)->V.eU l=true:=by
 intro l
 induction l with
 |nil=>exact λJ=>rfl|cons a l ih=>exact λh=>bh.mpr ⟨h a (.head _),ih λv q=>h v (.tail _ q)⟩
def V.q5(v:V)(d:Nat)(h:V.key v d=true):v.pure=true:=mO (P:=λv J=>v.pure=true) (λJ J=>rfl) (λJ J=>rfl) (λJ J J ih=>M7 ih) h
def M8:∀{m:List V},(∀a∈l,∀b∈m,ca a b=decide (a=b))->fA l m=decide (l=m):=by
 induction l with
 |nil=>intro m _;induction m <;>rfl|cons a l ih=>
  intro m h
  induction m using bo with
  |nil=>rfl|cons b m=>
   show(ca a b&&fA l m)=_;rw[h a (.head _) b (.head _),ih λa q b B=>h a (.tail _ q) b (.tail _ B)];simp only[J2,Bool.decide_and]
def M9(a b:V)(d e:Nat)(h:V.key a d=true):V.key b e=true->ca a b=decide (a=b):=by
 refine mO (P:=λa J=>∀b e,V.key b e=true->ca a b=decide (a=b)) ?_ ?_ ?_ h b e
 .refine λx J b e h=>oo (P:=λb J=>ca (.j x) b=decide (V.j x=b)) (λy J=>?_) (λJ J=>rfl) (λJ J J=>rfl) h
  show(x==y)=_;rw[J3.mpr (show V.j x=.j y↔x=y from⟨V.j.inj,aE _⟩)];rfl
 .refine λx J b e h=>oo (P:=λb J=>ca (.u x) b=decide (V.u x=b)) (λJ J=>rfl) (λy J=>?_) (λJ J J=>rfl) h
  show(x==y)=_;rw[J3.mpr (show V.u x=.u y↔x=y from⟨V.u.inj,aE _⟩)];rfl
 .refine λl d Y ih b e h=>oo (P:=λb J=>ca (.p l) b=decide (V.p l=b)) (λJ J=>rfl) (λJ J=>rfl) (λm e hm=>?_) h
  show fA l m=_;rw[M8 λa q b B=>ih a q b e (xN m e hm b B),J3.mpr (show V.p l=.p m↔l=m from⟨V.p.inj,aE _⟩)]
@[inline]abbrev cU(h:Heap)(v:V)(x:Value):Prop:=aq h (λJ=>False) [] v x
def fR.uf(r:fR h ω t R x)(f:∀xs,R xs->R' xs):fR h (λJ=>False) t R' x:=by
 obtain⟨a,vs,n,e,g,w,r⟩:=r;exact⟨a,vs,n,e,g,id,f _ r⟩
def CX(h:V.eU l=true):∀v∈l,v.pure=true:=by
 induction l with
 |nil=>exact nofun|cons a l ih=>
  have h:=bh.mp h;exact λv q=>(bH.mp q).elim (λe=>e▸h.1) (ih h.2 v)
def aq.uf{ω μ}:aq h ω μ v x->v.pure=true->cU h v x:=by
 refine V.ind (P:=λv=>∀x,aq h ω μ v x->v.pure=true->cU h v x) ?_ ?_ ?_ ?_ ?_ ?_ ?_ v x
 .exact λQ r Q=>r
 .exact λQ Q r Q=>r
 .exact λQ Q r Q=>r
 .exact λQ Q r Q=>r
 .exact λl ih x r J=>.uc (r.eK.uf λxs q=>q.mem λv x B q=>ih v B x q (CX J v B))
 .exact λl ih x r J=>.xL (r.jV.uf λxs q=>q.mem λv x B q=>ih v B x q (CX J v B))
 .exact λQ Q Q J=>(dV J).elim
def M'{h:Heap}{a:Addr}(e:h.get? a=some (cb t vs n))(e':h.get? a=some (cb t ws m)):vs=ws:=by
 have e:=e.symm.trans e';injection e with e
 injection e with _ _ e
 injection e
def M_(ih:∀v∈l,∀v'∈m,∀x,R v x->R v' x->v=v')(r:a0 R l xs)(r':a0 R m xs):l=m:=by
 induction l generalizing m xs with
 |nil=>
  induction m using bo with
  |nil=>rfl|cons b m=>
   obtain⟨y,c,e,_⟩:=r';exact nomatch (show xs=[]from r).symm.trans e
 |cons a l g=>
  obtain⟨x,h,e,h1,t⟩:=r
  induction m using bo with
  |nil=>exact nomatch e.symm.trans (show xs=[]from r')|cons b m=>
   obtain⟨y,c,e',u,w⟩:=r';injection e.symm.trans e' with p q
   rw[ih a (.head _) b (.head _) y (p▸h1) u,g (λv B v' f=>ih v (.tail _ B) v' (.tail _ f)) (q▸t) w]
def cU.inj{h:Heap}{v:V}(B:V.key v d=true)(f:V.key v' e=true):cU h v x->cU h v' x->v=v':=by
 refine mO (P:=λv J=>∀v' e x,V.key v' e=true->cU h v x->cU h v' x->v=v') ?_ ?_ ?_ B v' e x f
 .intro i _ v' e x f r
  obtain⟨t,rfl⟩:=r;refine oo (P:=λv' J=>cU h v' _->V.j i=v') (λj J r=>?_) (λj J r=>?_) (λl J J r=>?_) f
  .obtain⟨u,q⟩:=r;injection q with q;rw[q]
  .obtain⟨u,q⟩:=r;exact nomatch q
  .obtain⟨a,vs,n,q,_⟩:=r.eK;exact nomatch q
 .intro i _ v' e x f r
  obtain⟨t,rfl⟩:=r;refine oo (P:=λv' J=>cU h v' _->V.u i=v') (λj J r=>?_) (λj J r=>?_) (λl J J r=>?_) f
  .obtain⟨u,q⟩:=r;exact nomatch q
  .obtain⟨u,q⟩:=r;injection q with q;rw[mN q]
  .obtain⟨a,vs,n,q,_⟩:=r.eK;exact nomatch q
 .intro l d Y ih v' e x f r
  obtain⟨a,vs,n,rfl,g,w,A⟩:=r.eK;refine oo (P:=λv' J=>cU h v' _->V.p l=v') (λj J r=>?_) (λj J r=>?_) (λm e hm r'=>?_) f
  .obtain⟨u,q⟩:=r;exact nomatch q
  .obtain⟨u,q⟩:=r;exact nomatch q
  .obtain⟨p,o,G,q,s,c,r'⟩:=r'.eK
   injection q with q
   rw[<-q]at s;rw[<-M' g s]at r';rw[M_ (λv B v' f x=>ih v B v' e x (xN m e hm v' f)) A r']
mutual
noncomputable def mP(w:World):V->Int
 |.j i=>hashInt i|.u s=>hashStr w (Str.ofString s)|.p l=>reduceHash (Builtin.Tuple.tupleHashOf (hU w l))|_=>0
noncomputable def hU(w:World):List V->List Int
 |[]=>[]|a::as=>mP w a::hU w as
end
mutual
noncomputable def jW:V->Nat
 |.p l=>jl l+1|_=>1
noncomputable def jl:List V->Nat
 |[]=>0|a::as=>jW a+jl as
end
section
variable{prog:Program}{w:World}
def cU.XR{s:Shared}{l:List V}(h:cU s.heap (.p l) (.ref a)):s.TypeIs (.ref a) "tuple" :=by
 obtain⟨p,_,_,e,g,_⟩:=h.eK;rw[e];exact⟨_,g,rfl⟩
def Na(w:World)(a:List V)(b:V):hU w (a++[b])=hU w a++[mP w b]:=by
 induction a with
 |nil=>rfl|cons c a ih=>show mP w c::hU w (a++[b])=_;rw[ih];rfl
def Nb(a:List V)(b:V):jl (a++[b])=jl a+jW b:=by
 induction a with
 |nil=>exact(qf _).symm|cons c a ih=>show jW c+jl (a++[b])=jW c+jl a+jW b;rw[ih,tC]
def Nc{v:V}{d:Nat}(U:V.key v d=true):∀(A:Around) (E:Value->Shared->Prop) (s:Shared) (x:Value) (Q:Int->Shared->Prop),
  A.units+2*d+4 < cLine->cU s.heap v x->Q (mP w v) {s with toks:=s.toks+jW v}->wpAny (model prog w) A (pyHash x) Q E s:=by
 refine mO (P:=λv d=>∀(A:Around) (E:Value->Shared->Prop) (s:Shared) (x:Value) (Q:Int->Shared->Prop),A.units+2*d+4 < cLine->cU s.heap v x->Q (mP w v) {s with toks:=s.toks+jW v}->wpAny (model prog w) A (pyHash x) Q E s) ?_ ?_ ?_ U
 .intro i d A E s x Q c C L
  obtain⟨t,e⟩:=C;rw[e];exact wpAny_pyHash_int L
 .intro i d A E s x Q c C L
  obtain⟨t,e⟩:=C;rw[e];exact wpAny_pyHash_str L
 .intro l d U ih A E s x Q c C h
  obtain⟨a,vs,n,e,ho,_,hi⟩:=C.eK;rw[e];have m:s.TypeIs (.ref a) "tuple" :=⟨_,ho,rfl⟩;unfold pyHash;unfold pyHashByItsType;refine aj (wpAny_cRoomFor_or (.inr ("~1JxOx<REn2JYUl" c)) ?_);refine aj (wpAny_specialOf m BM.lookup ?_);show wpAny _ _ (if(some (Value.builtin "tuple.__hash__")==some Value.none)=true then _ else _) Q E s;rw[ab (by rw[beq_builtin_none];exact dV)];refine aj (wpAny_specialOf m BM.lookup ?_);show wpAny _ _ (callSpecialIfBoundUnlessNone? (.ref a) "__hash__" _>>=_) Q E s;refine aj (wpAny_callSpecialIfBoundUnlessNone?_slot m BM (n5 BM m F.entry_tuple_hash ?_ (F.args_tuple_hash_1 _)));show wpAny _ _ (Builtin.Tuple.tupleItemsOf (.ref a)>>=_) _ _ s;refine aj (wpAny_tupleItemsOf ho rfl ?_);refine aj ?_;rw[<-Array.forIn_toList];refine wpAny_forIn_list _
   (λrest (b:Array Int) s'=>∃done left,l=done++left/\b7 s.heap (λH=>False) [] left rest/\b.toList=hU w done/\s'={s with toks:=s.toks+jl done})
   _ ?_ ?_ _ _ ⟨[],l,rfl,hi,rfl,rfl⟩
  .intro y rest b s' h
   obtain⟨done,left,J,Y,T,rfl⟩:=h
   induction left using bo with
   |nil=>exact nomatch (show y::rest=[]from Y)|cons v left=>
    obtain⟨z,o,e,h1,G⟩:=Y;injection e with e1 N
    rw[e1];refine aj (ih v (by rw[J];exact aZ.mpr (.inr (.head _))) _ _ _ _ _ (by show A.units+1+2*d+4 < cLine;exact "~=fB9Zq7DG9T7xo8?ITTY" c) h1 ?_);have fin:∃f g,l=f++g/\b7 s.heap (λH=>False) [] g rest/\(b.push (mP w v)).toList=hU w f/\({s with toks:=s.toks+jl done+jW v}:Shared)={s with toks:=s.toks+jl f}:=
     ⟨done++[v],left,by rw[J,c6];rfl,N▸G,by rw[n6,T,Na],by rw[Nb,tC]⟩
    first
     |exact aG fin
     |exact aj (aG (aG fin))
  .intro b s' h'
   obtain⟨done,left,J,Y,T,rfl⟩:=h'
   induction left using bo with
   |cons v left=>obtain⟨_,_,e,_⟩:=Y;exact nomatch e|nil=>
   rw[b9]at J;rw[J]at h;show wpAny _ _ (retInt (Builtin.Tuple.tupleHashOf b.toList)) _ _ _;rw[T];refine wpAny_ret_mkInt ?_;show wpAny _ _ (if(decide (-(2:Int) ^ 63<=Builtin.Tuple.tupleHashOf (hU w done))&&decide (Builtin.Tuple.tupleHashOf (hU w done) < 2 ^ 63))=true then _ else _) Q E _;have h:Q (reduceHash (Builtin.Tuple.tupleHashOf (hU w done))) {s with toks:=s.toks+jl done+1}:=h;unfold reduceHash at h;by_cases C:(decide (-(2:Int) ^ 63<=Builtin.Tuple.tupleHashOf (hU w done))&&decide (Builtin.Tuple.tupleHashOf (hU w done) < 2 ^ 63))=true
   .rw[ah C]
    rw[ah C]at h;exact aG h
   .rw[ab C]
    rw[ab C]at h;exact aj (gU (aG h))
def Nd{v:V}{d:Nat}(U:V.key v d=true):∀(n:Nat),d<=n->∀(A:Around) (E:Value->Shared->Prop) (s:Shared) (x:Value) (Q:Bool->Shared->Prop),
  cU s.heap v x->Q true s->wpAny (model prog w) A (eqIsQuiet n x) Q E s:=by
 refine mO (P:=λv d=>∀(n:Nat),d<=n->∀(A:Around) (E:Value->Shared->Prop) (s:Shared) (x:Value) (Q:Bool->Shared->Prop),cU s.heap v x->Q true s->wpAny (model prog w) A (eqIsQuiet n x) Q E s) ?_ ?_ ?_ U
 .intro i d n u A E s x Q C L
  obtain⟨t,e⟩:=C;rw[e,eqIsQuiet_byValue _ rfl];exact aG L
 .intro i d n u A E s x Q C L
  obtain⟨t,e⟩:=C;rw[e,eqIsQuiet_byValue _ rfl];exact aG L
 .intro l d U ih n u A E s x Q C h
  obtain⟨a,vs,m,e,ho,_,hi⟩:=C.eK;rw[e];have T:s.TypeIs (.ref a) "tuple" :=⟨_,ho,rfl⟩
  induction n using dK with
  |zero=>exact nomatch u|succ n=>
  unfold eqIsQuiet;refine aj (wpAny_specialOf T F.slot_tuple_eq.lookup ?_);show wpAny _ _ (isInstance (.ref a) (.type "tuple")>>=_) _ _ s;refine aj (BN T isSubtype_tuple_tuple ?_);rw[ab (show¬ ((!true)=true)from dV)];refine aj (wpAny_seqItems ho rfl ?_);refine aj ?_;show wpAny _ _ (forIn vs _ _) _ _ s;rw[<-Array.forIn_toList];refine wpAny_forIn_list _ (λrest r s'=>r.1=none/\s'=s/\∃left,(∀v∈left,v∈l)/\b7 s.heap (λH=>False) [] left rest) _ ?_ ?_ _ _ ⟨rfl,rfl,l,λH q=>q,hi⟩
  .intro y rest r s' h
   obtain⟨C,rfl,left,J,Y⟩:=h
   induction left using bo with
   |nil=>exact nomatch (show y::rest=[]from Y)|cons v left=>
    obtain⟨z,o,e,h1,G⟩:=Y;injection e with e1 N
    rw[e1];refine aj (ih v (J v (.head _)) n (BO u) _ _ _ _ _ h1 ?_);rw[ab (show¬ ((!true)=true)from dV)];exact aG ⟨rfl,rfl,left,λv q=>J v (.tail _ q),N▸G⟩
  .intro r s' h'
   obtain⟨I,g⟩:=r;obtain⟨k,rfl,_⟩:=h';have k:I=none:=k;subst k;exact aG h
end
def Nf(h:∀v∈l,fb v<=d):jj l<=d:=by
 induction l with
 |nil=>exact bb _|cons a l ih=>exact Nat.max_le.mpr ⟨h a (.head _),ih λv q=>h v (.tail _ q)⟩
def Ng(v:V)(d:Nat)(h:V.key v d=true):fb v<=d:=mO (P:=λv d=>fb v<=d) (λJ J=>bb _) (λJ J=>bb _) (λJ J J ih=>w9 (Nf ih)) h
def Heap.SameBut.Nh{es ep}(ho:h.get? d=some o)(Y:o.data=.dict es ep)(N:Heap.SameBut d h h'):
  ∀a t vs n,h.get? a=some (cb t vs n)->¬ (λ_:Addr=>False) a->h'.get? a=some (cb t vs n)/\¬ (λ_:Addr=>False) a:=λa t vs n e J=>by
 refine⟨(N.2 a λq=>?_).trans e,id⟩;rw[q,ho]at e;simp only[Option.some.injEq]at e;rw[e]at Y;exact nomatch Y
abbrev jX(prog:Program)(w:World):HeapKind prog w (List V) where
 is h k a:=V.keys k=true/\cU h (.p k) (.ref a)
 hash k:=mP w (.p k)
 draws k:=jW (.p k)
 room A:=A.units+32 < cLine
 inj:=λ{h a x y} H T=>V.p.inj (cU.inj (v:=.p x) (d:=7) (e:=7) H.1 T.1 H.2 T.2)
 keeps:=λx ho Y N=>⟨x.1,x.2.mono (Heap.SameBut.Nh ho Y N) λJ J e=>e⟩
 pyHash:=λ{A E s k a Q} c U h=>Nc (v:=.p k) (d:=7) U.1 A E s _ Q ("~D42UF7oa9GM_W^pB" c) U.2 h
 eqBool:=λ{A E s x y a b Q} c H T h=>by
  have kx:V.key (.p x) 7=true:=H.1;have g:V.key (.p y) 7=true:=T.1;obtain⟨as,ra⟩:=H.2.reads (V.q5 _ _ kx);obtain⟨I,m⟩:=T.2.reads (V.q5 _ _ g);refine SeqAt.eqBoolOverData prog w A E s _ _ _ _ as I Q ra m (jk _) (jk _) ?_ ?_
  .have:=Ng _ _ kx
   rw[q4,q4];have f:=Nat.min_le_left (fb (.p x)) (fb (.p y));exact "~8e=BOo^d>7YAEeQz?jpiSmEU" fa this c
  .rw[ue _ _ (V.q5 _ _ kx) (V.q5 _ _ g),M9 _ _ _ _ kx g]
   simpa using h
 quiet:=λ{A E s k a Q} U h=>Nd (v:=.p k) (d:=7) U.1 8 (by decide) A E s _ Q U.2 h
def cU.Ni(f:∀a vs n,h.get? a=some (cb "tuple" vs n)->h'.get? a=some (cb "tuple" vs n))(U:V.key v d=true):∀x,cU h v x->cU h' v x:=
 mO (P:=λv J=>∀x,cU h v x->cU h' v x) (λJ J J r=>r) (λJ J J r=>r) (λl d J ih x r=>by
  obtain⟨a,vs,n,e,g,w,r⟩:=r.eK;exact .uc ⟨a,vs,n,e,f a vs n g,w,r.mem λv x B q=>ih v B x q⟩) U
@[inline]abbrev gk(R:V->Value->Prop):List (List V×V)->List (List V×Addr×Value)->Prop:=a0 λp q=>q.1=p.1/\R p.2 q.2.2
def gk.mono(h:∀v x,R v x->R' v x)(r:gk R l m):gk R' l m:=a0.mono (λJ J q=>⟨q.1,h _ _ q.2⟩) r
@[inline]abbrev ug(n:Nat):Obj:={cls:=.type "dict",dict:=none,data:=.dict #[] n,slots:=#[]}
variable(X:dj)
abbrev ds(h:Heap)(ω:Addr->Prop)(μ:Mu):O->Addr×Addr->Prop
 |.a l,m=>m.2=m.1/\∃vs n,h.get? m.1=some (cb "list" vs n)/\b7 h ω μ l vs.toList|.b,m=>m.2=m.1/\∃n,h.get? m.1=some (ug n)|.f es,m=>m.2=m.1/\∃kvs,h.DictOf (intKind X.a X.w) m.1 kvs/\cw id (aq h ω μ) es kvs|.h es,m=>m.2=m.1/\∃kvs,h.DictOf (strKind X.a X.w) m.1 kvs/\cw Str.ofString (aq h ω μ) es kvs|.g es,m=>m.2=m.1/\∃kvs,h.DictOfH (jX X.a X.w) m.1 kvs/\gk (aq h ω μ) es kvs|.e c fs,m=>m.1≠m.2/\h.get? m.1=some (instObj (X.c c) m.2)/\∃es n,h.get? m.2=some (dictOf es n)/\eL X.w (aq h ω μ) fs es|.d,_=>True
structure Kp(h h':Heap)(ω bD:Addr->Prop)(μ aF:Mu):Prop where
 b:∀a t vs n,h.get? a=some (cb t vs n)->¬ ω a->h'.get? a=some (cb t vs n)/\¬ bD a
 d:∀a vs n,h.get? a=some (cb "tuple" vs n)->h'.get? a=some (cb "tuple" vs n)
 c:∀(i:Nat) (m:Addr×Addr),μ[i]?=some m->aF[i]?=some m
def Kp.rep(k:Kp h h' ω bD μ aF){v x}(r:aq h ω μ v x):aq h' bD aF v x:=r.mono k.b k.c
def Kp.q6(k:Kp h h' ω bD μ aF){v x}(r:b7 h ω μ v x):b7 h' bD aF v x:=r.mono k.b k.c
def CY{K:Type}[DecidableEq K]{knd:KeyKind prog w K}{h h':Heap}{a:Addr}{kvs:List (K×Value)}(x:h.DictOf knd a kvs)(e:h'.get? a=h.get? a):h'.DictOf knd a kvs:=
 by obtain⟨o,es,ep,ho,r⟩:=x;exact⟨o,es,ep,e.trans ho,r⟩
def ds.mono{ω bD:Addr->Prop}{μ aF:Mu}(k:Kp h h' ω bD μ aF){o:O}{m:Addr×Addr}(e1:h'.get? m.1=h.get? m.1)(w:h'.get? m.2=h.get? m.2)
  (r:ds X h ω μ o m):ds X h' bD aF o m:=by
 induction o using Mine.Lake.O.casesOn with
 |a l=>obtain⟨a,vs,n,b,c⟩:=r;exact⟨a,vs,n,e1.trans b,k.q6 c⟩|b=>obtain⟨a,n,b⟩:=r;exact⟨a,n,e1.trans b⟩|f es=>obtain⟨a,kvs,b,c⟩:=r;exact⟨a,kvs,CY b e1,cw.mono (λQ Q q=>k.rep q) c⟩|h es=>obtain⟨a,kvs,b,c⟩:=r;exact⟨a,kvs,CY b e1,cw.mono (λQ Q q=>k.rep q) c⟩|g es=>
  obtain⟨a,kvs,⟨o,t,ep,ho,J,Y,j,i,u⟩,c⟩:=r;exact⟨a,kvs,⟨o,t,ep,e1.trans ho,J,Y,j,λx H=>⟨(i x H).1,cU.Ni (v:=.p x.1) (d:=7) k.d (i x H).1 _ (i x H).2⟩,u⟩,gk.mono (λQ Q q=>k.rep q) c⟩
 |e c fs=>obtain⟨a,b,es,n,d,f⟩:=r;exact⟨a,e1.trans b,es,n,w.trans d,eL.mono (λQ Q q=>k.rep q) f⟩|d=>trivial
def uh{K:Type}[DecidableEq K]{knd:KeyKind prog w K}{h:Heap}{a:Addr}{kvs:List (K×Value)}(d:h.DictOf knd a kvs):∃o,h.get? a=some o/\o.cls=.type "dict" /\o.dict=none:=by
 obtain⟨o,_,_,ho,J,_⟩:=d;exact⟨o,ho,J.1,J.2.1⟩
def xO{K:Type}[DecidableEq K]{knd:HeapKind prog w K}{h:Heap}{a:Addr}{kvs:List (K×Addr×Value)}(d:h.DictOfH knd a kvs):∃o,h.get? a=some o/\o.cls=.type "dict" /\o.dict=none:=by
 obtain⟨o,_,_,ho,J,_⟩:=d;exact⟨o,ho,J.1,J.2.1⟩
def ui(h:s≠t):Value.type s≠.type t:=λe=>h (by injection e)
def ds.at_{μ:Mu}{o:O}{m:Addr×Addr}(r:ds X h ω μ o m)(H:o≠.d){a:Addr}(G:a=m.1\/a=m.2):∃ob,h.get? a=some ob/\ob.cls≠.type "tuple" :=by
 have one:∀{ob},m.2=m.1->h.get? m.1=some ob->ob.cls≠.type "tuple" ->∃ob,h.get? a=some ob/\ob.cls≠.type "tuple" :=λq e n=>by
  rw[(G.elim id λh=>h.trans q:a=m.1)];exact⟨_,e,n⟩
 have i:m.2=m.1->(∃o,h.get? m.1=some o/\o.cls=.type "dict" /\o.dict=none)->∃ob,h.get? a=some ob/\ob.cls≠.type "tuple" :=λq e=>by
  obtain⟨o,e,c,_⟩:=e;exact one q e λz=>ui (by decide) (c.symm.trans z)
 induction o using Mine.Lake.O.casesOn with
 |a l=>obtain⟨q,vs,n,b,_⟩:=r;exact one q b (ui (by decide))|b=>obtain⟨q,n,b⟩:=r;exact one q b (ui (by decide))|f es=>obtain⟨q,kvs,d,_⟩:=r;exact i q (uh d)|h es=>obtain⟨q,kvs,d,_⟩:=r;exact i q (uh d)|g es=>obtain⟨q,kvs,d,_⟩:=r;exact i q (xO d)|e c fs=>
  obtain⟨_,b,es,n,d,f⟩:=r;rcases G with e |e
  .rw[e];exact⟨_,b,nofun⟩
  .rw[e];exact⟨_,d,ui (by decide)⟩
 |d=>exact absurd rfl H
def ds.notTuple(r:ds X h ω μ o m)(H:o≠.d)(a:Addr)(G:a=m.1\/a=m.2)(vs n):h.get? a≠some (cb "tuple" vs n):=λe=>by
 obtain⟨ob,h1,h2⟩:=r.at_ X H G;exact h2 (aE Obj.cls (ay (h1.symm.trans e)))
structure SR(σ:St)(μ:Mu)(h:Heap):Prop where
 k:∀b o,X.b.get? b=some o->h.get? b=some o
 s:μ.length=σ.length
 p:∀(i:Nat) (m:Addr×Addr),μ[i]?=some m->X.b.get? m.1=none/\X.b.get? m.2=none/\(∃o,h.get? m.1=some o)/\(∃o,h.get? m.2=some o)
 u:∀(i j:Nat) (m m':Addr×Addr),i≠j->μ[i]?=some m->μ[j]?=some m'->m.1≠m'.1/\m.1≠m'.2/\m.2≠m'.1/\m.2≠m'.2
 g:∀(i:Nat) (o:O) (m:Addr×Addr),σ[i]?=some o->μ[i]?=some m->ds X h (au σ μ) μ o m
variable{X}
def SR.XS(R:SR X σ μ h){i:Nat}{o:O}(e:σ[i]?=some o):∃m,μ[i]?=some m:=by
 have:i < μ.length:=by rw[R.s];exact(bW.mp e).1
 exact⟨_,iD this⟩
def SR.xP(R:SR X σ μ h)(G:au σ μ a):X.b.get? a=none/\∃o,h.get? a=some o:=by
 obtain⟨i,o,m,_,_,hm,e⟩:=G;have:=R.p i m hm;rcases e with rfl |rfl
 .exact⟨this.1,this.2.2.1⟩
 .exact⟨this.2.1,this.2.2.2⟩
def SR.oq(R:SR X σ μ h)(G:au σ μ a)(vs n):h.get? a≠some (cb "tuple" vs n):=by
 obtain⟨i,o,m,ho,H,hm,e⟩:=G;exact(R.g i o m ho hm).notTuple X H a e vs n
structure bf(h:Heap)(σ:St)(μ:Mu)(h':Heap)(aw:St)(aF:Mu)(Z:Addr->Prop):Prop where
 d:∀(i:Nat) (m:Addr×Addr),μ[i]?=some m->aF[i]?=some m
 g:∀a o,h.get? a=some o->¬ au σ μ a->¬ Z a->h'.get? a=some o
 f:∀a,au aw aF a->au σ μ a\/h.get? a=none
 j:∀a o,h.get? a=some o->∃o',h'.get? a=some o'
 k:∀(i:Nat) (m:Addr×Addr),aF[i]?=some m->μ[i]?=some m\/(h.get? m.1=none/\h.get? m.2=none)
def bf.none_of{h σ μ h' aw aF Z}(a:bf h σ μ h' aw aF Z)(e:h'.get? c=none):h.get? c=none:=by
 generalize q:h.get? c=E
 induction E using aX with
 |none=>rfl|some o=>obtain⟨o',e'⟩:=a.j c o q;rw[e]at e';cases e'
def bf.refl(h σ μ Z):bf h σ μ h σ μ Z:=⟨λJ J e=>e,λJ J e J J=>e,λJ e=>.inl e,λJ o e=>⟨o,e⟩,λJ J e=>.inl e⟩
def bf.trans{h σ μ h' aw aF u p r Z}(a:bf h σ μ h' aw aF Z)(b:bf h' aw aF u p r Z):bf h σ μ u p r Z where
 d:=λi m e=>b.d i m (a.d i m e)
 g:=λc o e n z=>b.g c o (a.g c o e n z) (λq=>by
  rcases a.f c q with q |q
  .exact n q
  .rw[q]at e;cases e) z
 f:=λc q=>by
  rcases b.f c q with q |q
  .exact a.f c q
  .generalize e:h.get? c=E
   induction E using aX with
   |none=>exact .inr rfl|some o=>obtain⟨o',e'⟩:=a.j c o e;rw[q]at e';cases e'
 j:=λc o e=>let ⟨_,e'⟩:=a.j c o e;b.j c _ e'
 k:=λi m e=>(b.k i m e).elim (a.k i m) λq=>.inr ⟨a.none_of q.1,a.none_of q.2⟩
def bf.weaken{h σ μ h' aw aF}(a:bf h σ μ h' aw aF Z)(hz:∀c,Z c->Z' c):bf h σ μ h' aw aF Z':=
 ⟨a.d,λc o e n z=>a.g c o e n λq=>z (hz c q),a.f,a.j,a.k⟩
def bf.shrink{h σ μ h' aw aF}(a:bf h σ μ h' aw aF Z)(hz:∀c,Z c->Z' c\/h.get? c=none):bf h σ μ h' aw aF Z':=
 ⟨a.d,λc o e n z=>a.g c o e n λq=>(hz c q).elim z λq=>by(rw[q]at e;cases e),a.f,a.j,a.k⟩
abbrev cF(h:Heap)(Z:Addr->Prop):Prop:=∀a,Z a->∀t vs n,h.get? a≠some (cb t vs n)
@[inline]abbrev No:Addr->Prop:=λJ=>False
def cF.no(h:Heap):cF h No:=λJ f=>f.elim
def bf.kp{h σ μ h' aw aF Z}(R:SR X σ μ h)(a:bf h σ μ h' aw aF Z)(hz:cF h Z):Kp h h' (au σ μ) (au aw aF) μ aF where
 b:=λc t vs n e no=>⟨a.g c _ e no λq=>hz c q t vs n e,λq=>by
  rcases a.f c q with q |q
  .exact no q
  .rw[q]at e;cases e⟩
 d:=λc vs n e=>a.g c _ e (λq=>R.oq q vs n e) λq=>hz c q "tuple" vs n e
 c:=a.d
def aq.ext{h σ μ h' aw aF Z v x}(r:aq h (au σ μ) μ v x)(R:SR X σ μ h)(a:bf h σ μ h' aw aF Z)(hz:cF h Z):aq h' (au aw aF) aF v x:=(a.kp R hz).rep r
def b7.ext{h σ μ h' aw aF Z v x}(r:b7 h (au σ μ) μ v x)(R:SR X σ μ h)(a:bf h σ μ h' aw aF Z)(hz:cF h Z):b7 h' (au aw aF) aF v x:=(a.kp R hz).q6 r
def SR.frame(R:SR X σ μ h)(U:∀a o,h.get? a=some o->¬ Z a->h'.get? a=some o)
  (hz:∀a,Z a->¬ au σ μ a/\X.b.get? a=none) (N:cF h Z) (Y:∀a o,h.get? a=some o->∃o',h'.get? a=some o'):SR X σ μ h'/\bf h σ μ h' σ μ Z:=by
 have E:bf h σ μ h' σ μ Z:=⟨λJ J e=>e,λa o e J z=>U a o e z,λJ q=>.inl q,Y,λJ J e=>.inl e⟩;refine⟨⟨λb o e=>U b o (R.k b o e) λq=>by(rw[(hz b q).2]at e;cases e),R.s,λi m e=>?_,R.u,λi o m ho hm=>?_⟩,E⟩
 .obtain⟨h1,h2,⟨A,h3⟩,⟨C,h4⟩⟩:=R.p i m e
  exact⟨h1,h2,Y _ _ h3,Y _ _ h4⟩
 .by_cases H:o=.d
  .subst H;trivial
  have r:=R.g i o m ho hm;have live:∀a,(a=m.1\/a=m.2)->h'.get? a=h.get? a:=λa G=>by
   have v:au σ μ a:=⟨i,o,m,ho,H,hm,G⟩;obtain⟨ob,c,_⟩:=r.at_ X H G;rw[c];exact U a ob c λq=>(hz a q).1 v
  exact r.mono X (E.kp R N) (live _ (.inl rfl)) (live _ (.inr rfl))
def SR.xQ(R:SR X σ μ h)(U:∀a o,h.get? a=some o->¬ Z a->h'.get? a=some o)
  (hz:∀a,Z a->¬ au σ μ a/\X.b.get? a=none) (N:cF h Z) (v:∀(i:Nat) (m:Addr×Addr),μ[i]?=some m->¬ Z m.1/\¬ Z m.2):SR X σ μ h'/\Kp h h' (au σ μ) (au σ μ) μ μ:=by
 have K:Kp h h' (au σ μ) (au σ μ) μ μ:=⟨λa t vs n e no=>⟨U a _ e λq=>N a q t vs n e,no⟩,λa vs n e=>U a _ e λq=>N a q _ vs n e,λJ J e=>e⟩;refine⟨⟨λb o e=>U b o (R.k b o e) λq=>by(rw[(hz b q).2]at e;cases e),R.s,λi m e=>?_,R.u,λi o m ho hm=>?_⟩,K⟩
 .obtain⟨h1,h2,⟨A,h3⟩,⟨C,h4⟩⟩:=R.p i m e
  exact⟨h1,h2,⟨A,U _ _ h3 (v i m e).1⟩,⟨C,U _ _ h4 (v i m e).2⟩⟩
 .obtain⟨h1,h2,⟨A,h3⟩,⟨C,h4⟩⟩:=R.p i m hm
  exact(R.g i o m ho hm).mono X K ((U _ _ h3 (v i m hm).1).trans h3.symm) ((U _ _ h4 (v i m hm).2).trans h4.symm)
def bf.Nj{σ:St}{i μ:Mu}{Z':Addr->Prop}(a:bf h₀ m i h σ μ Z)(hz:∀c,Z' c->h₀.get? c=none)(U:∀b o,h.get? b=some o->¬ Z' b->h'.get? b=some o):bf h₀ m i h' σ μ Z where
 d:=a.d
 g:=λc o e n z=>U c o (a.g c o e n z) λq=>by(rw[hz c q]at e;cases e)
 f:=a.f
 j:=λc o e=>let ⟨o',e'⟩:=a.j c o e;⟨o',U c o' e' λq=>by(rw[hz c q]at e;cases e)⟩
 k:=a.k
variable{X:dj}
def jY{l:List α}(e:l[i]?=some a):i < l.length:=(bW.mp e).1
def mQ{l:List α}(e:(l++[a])[i]?=some b):l[i]?=some b\/(i=l.length/\b=a):=by
 by_cases hi:i < l.length
 .rw[n7 hi]at e;exact .inl e
 .have h1:=jY e
  rw[b_]at h1;have h2:i=l.length:=BP (w8 h1) (BQ hi);rw[h2,XJ]at e;exact .inr ⟨h2,(ay e).symm⟩
def Nk{l:List α}{i:Nat}(e:l[i]?=some b):(l++[a])[i]?=some b:=by rw[n7 (jY e)];exact e
def CZ{μ:Mu}{m':Addr×Addr}{i:Nat}(Y:μ.length=σ.length)(ho:(σ++[o])[i]?=some o')(hm:(μ++[m])[i]?=some m'):(σ[i]?=some o'/\μ[i]?=some m')\/(o'=o/\m'=m):=by
 rcases mQ ho with a |a
 .rcases mQ hm with b |b
  .exact .inl ⟨a,b⟩
  .exact absurd (jY a) (by rw[b.1,Y];exact tD _)
 .rcases mQ hm with b |b
  .exact absurd (jY b) (by rw[a.1,Y];exact tD _)
  .exact .inr ⟨a.2,b.2⟩
def au.append(Y:μ.length=σ.length)(h:au (σ++[o]) (μ++[m]) a):au σ μ a\/a=m.1\/a=m.2:=by
 obtain⟨i,o',m',ho,H,hm,e⟩:=h;rcases CZ Y ho hm with h |h
 .exact .inl ⟨i,o',m',h.1,H,h.2,e⟩
 .rw[h.2]at e;exact .inr e
def uj{σ:St}{o:O}(e:(σ.set i o)[j]?=some o'):(i=j/\o'=o)\/(i≠j/\σ[j]?=some o'):=by
 by_cases f:i=j
 .refine .inl ⟨f,?_⟩
  have h:=jY e;rw[jc]at h;rw[f,qg h]at e;exact(ay e).symm
 .rw[qh f]at e;exact .inr ⟨f,e⟩
def au.set{σ:St}{μ:Mu}(h0:σ[i]?=some I)(H:o≠.d)(J:I≠.d)(a:Addr):au (σ.set i o) μ a↔au σ μ a:=by
 constructor
 .intro h
  obtain⟨j,o',m',ho,w,hm,e⟩:=h;rcases uj ho with h |h
  .exact⟨i,I,m',h0,J,h.1▸hm,e⟩
  .exact⟨j,o',m',h.2,w,hm,e⟩
 .intro h
  obtain⟨j,o',m',ho,w,hm,e⟩:=h;by_cases f:i=j
  .exact⟨i,o,m',qg (jY h0),H,f▸hm,e⟩
  .exact⟨j,o',m',by rw[qh f];exact ho,w,hm,e⟩
def au.gone{σ:St}(h:au (σ.set i .d) μ a):au σ μ a/\∀m,μ[i]?=some m->(∀(j:Nat) m',i≠j->μ[j]?=some m'->m.1≠m'.1/\m.1≠m'.2/\m.2≠m'.1/\m.2≠m'.2)->a≠m.1/\a≠m.2:=by
 obtain⟨j,o',m',ho,w,hm,e⟩:=h;rcases uj ho with h |h
 .exact absurd h.2 w
 .refine⟨⟨j,o',m',h.2,w,hm,e⟩,λm f c=>?_⟩
  have:=c j m' h.1 hm;rcases e with e |e
  .rw[e];exact⟨Ne.symm this.1,Ne.symm this.2.2.1⟩
  .rw[e];exact⟨Ne.symm this.2.1,Ne.symm this.2.2.2⟩
def ds.live(r:ds X h ω μ o m)(H:o≠.d)(a:Addr)(G:a=m.1\/a=m.2):∃ob,h.get? a=some ob:=by
 obtain⟨ob,e,_⟩:=r.at_ X H G;exact⟨ob,e⟩
def ds.keep(K:Kp h h' ω bD μ aF)(r:ds X h ω μ o m)(U:∀a ob,(a=m.1\/a=m.2)->h.get? a=some ob->h'.get? a=some ob):ds X h' bD aF o m:=by
 by_cases H:o=.d
 .rw[H];trivial
 obtain⟨A,e1⟩:=r.live H m.1 (.inl rfl);obtain⟨C,w⟩:=r.live H m.2 (.inr rfl);exact r.mono X K ((U _ _ (.inl rfl) e1).trans e1.symm) ((U _ _ (.inr rfl) w).trans w.symm)
def SR.lq(R:SR X σ μ h)(e:h.get? a=none):X.b.get? a=none:=by
 generalize q:X.b.get? a=E
 induction E using aX with
 |none=>rfl|some o=>exact nomatch (R.k a o q).symm.trans e
def SR.alloc(R:SR X σ μ h)(U:∀a o,h.get? a=some o->h'.get? a=some o)
  {o:O} {m:Addr×Addr} (H:o≠.d) (h1:h.get? m.1=none) (h2:h.get? m.2=none)
  (L:∀bD aF,Kp h h' (au σ μ) bD μ aF->ds X h' bD aF o m):SR X (σ++[o]) (μ++[m]) h'/\bf h σ μ h' (σ++[o]) (μ++[m]) No:=by
 have E:bf h σ μ h' (σ++[o]) (μ++[m]) No:=⟨λi m' e=>Nk e,λa o e J J=>U a o e,
  λa q=>(au.append R.s q).imp id λq=>q.elim (λe=>e▸h1) λe=>e▸h2,λa o e=>⟨o,U a o e⟩,λi m' e=>
   (mQ e).imp id λq=>by rw[q.2];exact⟨h1,h2⟩⟩
 have K:=E.kp R (cF.no h);have n:=L _ _ K;have r:∀{a c},(∃o,h.get? a=some o)->h.get? c=none->a≠c:=λq e' z=>by
  obtain⟨o,e⟩:=q;rw[z,e']at e;exact nomatch e
 refine⟨⟨λb o e=>U b o (R.k b o e),by rw[b_,b_,R.s];rfl,λi m' e=>?_,λi j T I Q e1 w=>?_,λi o' m' ho hm=>?_⟩,E⟩
 .rcases mQ e with e |q
  .obtain⟨a1,a2,C,y⟩:=R.p i m' e
   exact⟨a1,a2,E.j _ C.choose C.choose_spec,E.j _ y.choose y.choose_spec⟩
  .rw[q.2]
   exact⟨R.lq h1,R.lq h2,n.live H _ (.inl rfl),n.live H _ (.inr rfl)⟩
 .rcases mQ e1 with a1 |a1 <;>rcases mQ w with a2 |a2
  .exact R.u i j T I Q a1 a2
  .obtain⟨_,_,f,Y⟩:=R.p i T a1
   rw[a2.2];exact⟨r f h1,r f h2,r Y h1,r Y h2⟩
  .obtain⟨_,_,f,Y⟩:=R.p j I a2
   rw[a1.2];exact⟨(r f h1).symm,(r Y h1).symm,(r f h2).symm,(r Y h2).symm⟩
  .exact absurd (a1.1.trans a2.1.symm) Q
 .rcases CZ R.s ho hm with q |q
  .exact(R.g i o' m' q.1 q.2).keep K λa ob J=>U a ob
  .rw[q.1,q.2];exact n
def SR.update{σ:St}(R:SR X σ μ h){o I:O}(h0:σ[i]?=some I)(J:I≠.d)(hm:μ[i]?=some m)(H:o≠.d)
  (U:∀a ob,h.get? a=some ob->a≠m.1->a≠m.2->h'.get? a=some ob)
  (L:∀bD aF,Kp h h' (au σ μ) bD μ aF->ds X h' bD aF o m):SR X (σ.set i o) μ h'/\bf h σ μ h' (σ.set i o) μ No:=by
 have v:au σ μ m.1:=⟨i,I,m,h0,J,hm,.inl rfl⟩;have Q:au σ μ m.2:=⟨i,I,m,h0,J,hm,.inr rfl⟩;have Nl:Kp h h' (au σ μ) (au (σ.set i o) μ) μ μ:=⟨λc t vs n e no=>⟨U c _ e (λq=>no (q▸v)) (λq=>no (q▸Q)),λq=>no ((au.set h0 H J c).mp q)⟩,
  λc vs n e=>U c _ e (λq=>R.oq v vs n (q▸e)) (λq=>R.oq Q vs n (q▸e)),λ_ _ e=>e⟩
 have live:∀a,(a=m.1\/a=m.2)->∃ob,h'.get? a=some ob:=(L _ _ Nl).live H;have E:bf h σ μ h' (σ.set i o) μ No:=⟨λ_ _ e=>e,λa ob e n _=>U a ob e (λq=>n (q▸v)) (λq=>n (q▸Q)),λa q=>.inl ((au.set h0 H J a).mp q),λa ob e=>by
  by_cases f:a=m.1
  .exact live a (.inl f)
  .by_cases Y:a=m.2
   .exact live a (.inr Y)
   .exact⟨ob,U a ob e f Y⟩,λ_ _ e=>.inl e⟩
 have K:=E.kp R (cF.no h);refine⟨⟨λb ob e=>?_,by rw[jc];exact R.s,λj m' e=>?_,R.u,λj o' m' ho r=>?_⟩,E⟩
 .have:=R.p i m hm
  have T:=R.k b ob e;refine U b ob T (λq=>?_) (λq=>?_)
  .rw[q,this.1]at e;cases e
  .rw[q,this.2.1]at e;cases e
 .obtain⟨a1,B,⟨A,C⟩,⟨o2,y⟩⟩:=R.p j m' e
  exact⟨a1,B,E.j _ _ C,E.j _ _ y⟩
 .rcases uj ho with q |q
  .rw[<-q.1,hm]at r
   rw[q.2,<-ay r];exact L _ _ K
  .have N:=R.u i j m m' q.1 hm r
   exact(R.g j o' m' q.2 r).keep K λa ob G e=>U a ob e (λz=>G.elim (λw=>N.1 (z▸w)) λw=>N.2.1 (z▸w)) λz=>G.elim (λw=>N.2.2.1 (z▸w)) λw=>N.2.2.2 (z▸w)
def SR.freeze{σ:St}(R:SR X σ μ h){m:Addr×Addr}(h0:σ[i]?=some (.a l))(hm:μ[i]?=some m):
  SR X (σ.set i .d) μ h/\bf h σ μ h (σ.set i .d) μ No/\aq h (au (σ.set i .d) μ) μ (.r l) (.ref m.1):=by
 have E:bf h σ μ h (σ.set i .d) μ No:=⟨λJ J e=>e,λa ob e n J=>e,λa q=>.inl (au.gone q).1,λa o e=>⟨o,e⟩,λJ J e=>.inl e⟩;have K:=E.kp R (cF.no h);refine⟨⟨R.k,by rw[jc];exact R.s,R.p,R.u,λj o' m' ho r=>?_⟩,E,?_⟩
 .rcases uj ho with q |q
  .rw[q.2];trivial
  .exact(R.g j o' m' q.2 r).mono X K rfl rfl
 .obtain⟨q,vs,n,b,c⟩:=R.g i _ m h0 hm
  exact .lst b (λq=>((au.gone q).2 m hm (λj m' f e=>R.u i j m m' f hm e)).1 rfl) (c.mono K.b K.c)
@[inline]abbrev mR:=List (Str×Nat×Bool)
abbrev c8(env:Env)(a:Addr):Prop:=a=env.locals\/∃x,env.cells.lookup x=some a
structure FR(X:dj)(env:Env)(vs:mR)(ρ:ba)(σ:St)(μ:Mu)(h:Heap):Prop where
 k:∃m,h.Ns env.locals m/\∀x i,(x,i,false)∈vs->∀v,ρ[i]?=some (some v)->∃y,m x=some y/\aq h (au σ μ) μ v y
 g:∀x i,(x,i,true)∈vs->∃a ov,env.cells.lookup x=some a/\h.IsCell a ov/\∀v,ρ[i]?=some (some v)->∃y,ov=some y/\aq h (au σ μ) μ v y
 j:∀a,c8 env a->¬ au σ μ a/\X.b.get? a=none
 d:cF h (c8 env)
 b:∀a,c8 env a->∃o,h.get? a=some o
 l:∀x a,env.cells.lookup x=some a->a≠env.locals
 p:∀x y a,env.cells.lookup x=some a->env.cells.lookup y=some a->x=y
def q7{h h':Heap}(x:h.Ns a m)(e:∀o,h.get? a=some o->h'.get? a=some o):h'.Ns a m:=
 by obtain⟨o,es,ep,ho,r⟩:=x;exact⟨o,es,ep,e o ho,r⟩
def uk{h h':Heap}(x:h.IsCell c v)(e:∀o,h.get? c=some o->h'.get? c=some o):h'.IsCell c v:=
 by obtain⟨o,ho,Y⟩:=x;exact⟨o,e o ho,Y⟩
def FR.ext{env:Env}{vs:mR}{μ aF:Mu}(F:FR X env vs ρ σ μ h)(R:SR X σ μ h)(a:bf h σ μ h' aw aF Z)(hz:cF h Z)(Y:∀c,Z c->¬ c8 env c):
  FR X env vs ρ aw aF h':=by
 have K:=a.kp R hz;have live:∀c,c8 env c->∀o,h.get? c=some o->h'.get? c=some o:=λc U o e=>a.g c o e (F.j c U).1 λq=>Y c q U;refine⟨?_,λx i H=>?_,λc U=>⟨λq=>?_,(F.j c U).2⟩,λc U t vs n e=>?_,λc U=>?_,F.l,F.p⟩
 .obtain⟨m,hm,B⟩:=F.k
  exact⟨m,q7 hm (live _ (.inl rfl)),λx i H v e=>(B x i H v e).imp λy q=>⟨q.1,K.rep q.2⟩⟩
 .obtain⟨c,ov,U,hi,B⟩:=F.g x i H
  exact⟨c,ov,U,uk hi (live _ (.inr ⟨x,U⟩)),λv e=>(B v e).imp λy q=>⟨q.1,K.rep q.2⟩⟩
 .rcases a.f c q with q |q
  .exact(F.j c U).1 q
  .obtain⟨o,ho⟩:=F.b c U
   rw[ho]at q;cases q
 .obtain⟨o,ho⟩:=F.b c U
  rw[live c U o ho]at e;exact F.d c U t vs n (ho.trans e)
 .obtain⟨o,ho⟩:=F.b c U
  exact⟨o,live c U o ho⟩
def FR.C0(F:FR X env vs ρ σ μ h)(R:SR X σ μ h)(a:bf h σ μ h' aw aF No):FR X env vs ρ aw aF h':=
 F.ext R a (cF.no h) λJ f=>f.elim
structure fS(n:Nat)(A:Around):Prop where
 b:A.handled=none
 c:A.depth+3*n+3 < recursionLimit
 a:A.units+12*n+200 < cLine
structure er(s s':Shared):Prop where
 d:s'.os=s.os
 e:s'.gens=s.gens
def er.refl(s):er s s:=⟨rfl,rfl⟩
def er.trans{a b c:Shared}(x:er a b)(y:er b c):er a c:=⟨y.d.trans x.d,y.e.trans x.e⟩
abbrev cy(X:dj)(s:Shared)(σ:St)(μ:Mu)(aw:St)(v:V)(Q:Value->Shared->Prop):Prop:=
 ∀s' aF x,SR X aw aF s'.heap->bf s.heap σ μ s'.heap aw aF No->aq s'.heap (au aw aF) aF v x->er s s'->Q x s'
def cy.after{s s₁:Shared}{σ a j:St}{μ f:Mu}{v:V}{Q}(c:cy X s σ μ j v Q)(e:bf s.heap σ μ s₁.heap a f No)(q:er s s₁):cy X s₁ a f j v Q:=
 λs' aF x R E r S=>c s' aF x R (e.trans E) r (q.trans S)
def cy.here{s:Shared}{σ:St}{μ:Mu}{v:V}{Q}(c:cy X s σ μ σ v Q)(R:SR X σ μ s.heap){x:Value}(r:aq s.heap (au σ μ) μ v x)(t:Nat):Q x {s with toks:=t}:=
 c {s with toks:=t} μ x R (bf.refl ..) r ⟨rfl,rfl⟩
def SR.push{σ:St}{μ:Mu}{h:Heap}(R:SR X σ μ h)(o:Obj):SR X σ μ (h.push o)/\bf h σ μ (h.push o) σ μ No:=
 R.frame (λa ob e J=>gf _ e) (λJ f=>f.elim) (cF.no h) (λa ob e=>⟨ob,gf _ e⟩)
def SR.C1{σ:St}{μ:Mu}{h:Heap}(R:SR X σ μ h):¬ au σ μ h.objs.size:=λq=>let ⟨_,e⟩:=(R.xP q).2;tD _ (jd e)
def SR.ou{σ:St}{μ:Mu}{h:Heap}(R:SR X σ μ h){a:Addr}(e:h.get? a=none):¬ au σ μ a:=λq=>let ⟨_,e'⟩:=(R.xP q).2;by rw[e]at e';cases e'
def fT(h:Heap):h.get? h.objs.size=none:=by
 generalize e:h.get? h.objs.size=E
 induction E using aX with
 |none=>rfl|some o=>exact absurd (jd e) (tD _)
def cy.ow{s:Shared}{σ:St}{μ:Mu}{l:List V}{Q}(t:String){v:V}(c:cy X s σ μ σ v Q)(R:SR X σ μ s.heap){xs:Array Value}(B:v=.p l/\t= "tuple" \/v=.r l/\t= "list")
  (r:b7 s.heap (au σ μ) μ l xs.toList) (N:Nat):Q (.ref s.heap.objs.size) {s with heap:=s.heap.push {cls:=.type t,data:=.seq xs},toks:=N}:=by
 obtain⟨R',E'⟩:=R.push {cls:=.type t,data:=.seq xs};refine c _ μ _ R' E' ?_ ⟨rfl,rfl⟩;have H:(s.heap.push {cls:=.type t,data:=.seq xs}).get? s.heap.objs.size=some (cb t xs 0):=iE _ rfl;have ra:=r.ext R E' (cF.no _);rcases B with⟨rfl,rfl⟩ |⟨rfl,rfl⟩
 .exact .tup H R.C1 ra
 .exact .lst H R.C1 ra
def cy.of{s:Shared}{σ σ0 aw:St}{μ:Mu}{m v:V}{Q}(e:some (m,σ0)=some (v,aw))(c:cy X s σ μ aw v Q):cy X s σ μ σ0 m Q:=by cases e;exact c
def iP{h:Heap}{ω μ}{l:List V}{vs:Array Value}(r:b7 h ω μ l vs.toList):l.length=vs.size:=r.length
def ul{v:V}{i:Nat}(e:iJ v=some i):v=.o i:=by
 induction v using Mine.Lake.V.casesOn with
 |o j=>exact aE V.o (ay e)|_=>exact bl e
def jm{v:V}{i:Int}(e:gG v=some i):v=.j i:=by
 induction v using Mine.Lake.V.casesOn with
 |j j=>exact aE V.j (ay e)|_=>exact bl e
def jn{o:O}{l:List V}(e:fc o=some l):o=.a l:=by
 induction o using Mine.Lake.O.casesOn with
 |a j=>exact aE O.a (ay e)|_=>exact bl e
def xR{o:O}{p:CN×List (AN×V)}(e:tZ o=some p):o=.e p.1 p.2:=by
 induction o using Mine.Lake.O.casesOn with
 |e c fs=>exact ay e▸rfl|_=>exact bl e
inductive Nm(h:Heap)(σ:St)(μ:Mu)(p:Bool×List V)(x:Value):Prop
 |mk (a:Addr) (vs:Array Value) (n:Nat) (e:x=.ref a) (g:h.get? a=some (cb (if p.1 then "list" else "tuple") vs n)) (r:b7 h (au σ μ) μ p.2 vs.toList)
def jZ{σ:St}{μ:Mu}{h:Heap}(R:SR X σ μ h){v:V}{x:Value}{p:Bool×List V}(e:bt σ v=some p)(r:aq h (au σ μ) μ v x):Nm h σ μ p x:=by
 induction v using Mine.Lake.V.casesOn with
 |p m=>obtain⟨a,vs,n,q,g,_,ra⟩:=r.eK;exact ay e▸⟨a,vs,n,q,g,ra⟩|r m=>obtain⟨a,vs,n,q,g,_,ra⟩:=r.jV;exact ay e▸⟨a,vs,n,q,g,ra⟩|o i=>
  obtain⟨m,hm,q⟩:=r;obtain⟨o,ho,e1⟩:=a9 (x:=σ[i]?) e;obtain⟨l,Y,w⟩:=cD e1;rw[jn Y]at ho;obtain⟨_,vs,n,b,c⟩:=R.g i _ m ho hm;exact w▸⟨m.1,vs,n,q,b,c⟩
 |_=>exact bl e
inductive Nn(X:dj)(h:Heap)(σ:St)(μ:Mu)(v:V)(o:O)(x:Value):Prop
 |mk (i:Nat) (m:Addr×Addr) (v:v=.o i) (ho:σ[i]?=some o) (hm:μ[i]?=some m) (e:x=.ref m.1) (r:ds X h (au σ μ) μ o m)
def j0{σ:St}{μ:Mu}{h:Heap}(R:SR X σ μ h){v:V}{x:Value}{o:O}(e:eW σ v=some o)(r:aq h (au σ μ) μ v x):Nn X h σ μ v o x:=by
 induction v using Mine.Lake.V.casesOn with
 |o i=>obtain⟨m,hm,q⟩:=r;exact⟨i,m,rfl,e,hm,q,R.g i o m e hm⟩|_=>exact bl e
def aq.XT{h ω μ i x}(r:aq h ω μ (.o i) x):∃m:Addr×Addr,μ[i]?=some m/\x=.ref m.1:=r
def aq.XU{h ω μ i x}(r:aq h ω μ (.j i) x):∃t,x=.int i t:=r
def aq.XV{h ω μ i x}(r:aq h ω μ (.u i) x):∃t,x=.str (Str.ofString i) t:=r
def Np{k:Int}(h:fP k=true):-(2 ^ 63)<=k/\k < 2 ^ 63:=by
 rw[CI]at h;lia
structure Nq(n:Nat)(k:Int)(j:Nat):Prop where
 c:-(2 ^ 63)<=k
 a:k < 2 ^ 63
 f:seqIndex? k n=some j
 e:j < n
 b:0<=k->j=k.toNat
 d:k < 0->j=(k+n).toNat/\-(n:Int)<=k
def C2{n:Nat}{k:Int}{j:Nat}(h:t7 n k=some j):Nq n k j:=by
 obtain⟨N,h⟩:=bN h;obtain⟨h1,h2⟩:=Np N;by_cases h0:0<=k
 .rw[ah h0]at h
  obtain⟨h3,h⟩:=bN h;have h:=ay h;have U:¬ k < 0:=jP.mpr h0;refine⟨h1,h2,?_,h▸h3,λJ=>h.symm,λq=>absurd q U⟩;unfold seqIndex?;rw[ab U,<-h];exact ah (by rw[b4 h0,b4 (show k < n from "~LYxA;KW|DHSuLAEzEc8sc2dYmRy" oe h3)];rfl)
 .rw[ab h0]at h
  obtain⟨h3,h⟩:=bN h;have h:=ay h;have U:k < 0:=BR.mp h0;rw[Int.add_comm]at h h3;refine⟨h1,h2,?_,by lia,λq=>absurd q h0,λJ=>⟨h.symm,by lia⟩⟩;unfold seqIndex?;rw[ah U,<-h];exact ah (by rw[b4 h3,b4 (show k+n < n from "~5wzdw36|P=30W" h0)];rfl)
section
variable{A:Around}{E:Value->Shared->Prop}{s:Shared}{σ:St}{μ:Mu}
abbrev fU{α β:Type}(R:α->β->Prop)(o:Option α):Option β->Prop:=λp=>match o with
 |none=>p=none|some a=>∃b,p=some b/\R a b
def C3{α β:Type}[DecidableEq α][DecidableEq β](f:α->β)(inj:∀a b,f a=f b->a=b){R:V->Value->Prop}{es:List (α×V)}{kvs:List (β×Value)}(r:cw f R es kvs)(k:α):fU R (cT k es) (valueAt kvs (f k)):=by
 refine a0.ind (λ(es:List (α×V)) (kvs:List (β×Value))=>fU R (cT k es) (valueAt kvs (f k))) rfl (λp q es kvs h J ih=>?_) r;obtain⟨a,v⟩:=p;obtain⟨b,x⟩:=q;have T:b=f a:=h.1;show fU R (if a=k then some v else cT k es) ((match decide (b=f k)with |true=>some (b,x) |false=>kvs.find? λkv=>decide (kv.1=f k)).map λ(p:β×Value)=>p.2);by_cases e:a=k
 .rw[ah e,b4 (T.trans (aE f e))];exact⟨x,rfl,h.2⟩
 .rw[ab e,cc λq=>e (inj _ _ (T.symm.trans q))];exact ih
def Nr{R:V->Value->Prop}{es:List (List V×V)}{kvs:List (List V×Addr×Value)}(r:gk R es kvs)(k:List V):fU (λv (p:Addr×Value)=>R v p.2) (cT k es) (atKey kvs k):=by
 refine a0.ind (λ(es:List (List V×V)) (kvs:List (List V×Addr×Value))=>fU (λv (p:Addr×Value)=>R v p.2) (cT k es) (atKey kvs k)) rfl (λp q es kvs h J ih=>?_) r;obtain⟨a,v⟩:=p;obtain⟨b,x⟩:=q;have T:b=a:=h.1;show fU (λv (p:Addr×Value)=>R v p.2) (if a=k then some v else cT k es) ((match decide (b=k)with |true=>some (b,x) |false=>kvs.find? λx=>decide (x.1=k)).map λ(p:List V×Addr×Value)=>p.2);by_cases e:a=k
 .rw[ah e,b4 (T.trans e)];exact⟨x,rfl,h.2⟩
 .rw[ab e,cc λq=>e (T.symm.trans q)];exact ih
def um{prog:Program}{w:World}{K:Type}[DecidableEq K](knd:KeyKind prog w K){h:Heap}{a:Addr}{n:Nat}(e:h.get? a=some (ug n)):h.DictOf knd a []:=
 ⟨_,#[],n,e,⟨rfl,rfl,rfl⟩,rfl,λJ H=>by simp at H,.nil,iF⟩
def Nu{prog:Program}{w:World}{K:Type}[DecidableEq K](knd:HeapKind prog w K){h:Heap}{a:Addr}{n:Nat}(e:h.get? a=some (ug n)):h.DictOfH knd a []:=
 ⟨_,#[],n,e,⟨rfl,rfl,rfl⟩,rfl,rfl,λJ H=>by simp at H,iF⟩
inductive xS(o:O)(m:Addr×Addr){α:Type}(P:α->Prop):Prop
 |mk (k:α) (g:o≠.d) (q:m.2=m.1) (d:P k)
def lr{h:Heap}{ω:Addr->Prop}{o:O}{m:Addr×Addr}{es:List (Int×V)}(e:gh o=some es)(r:ds X h ω μ o m):xS o m λkvs=>h.DictOf (intKind X.a X.w) m.1 kvs/\cw id (aq h ω μ) es kvs:=by
 induction o using Mine.Lake.O.casesOn with
 |b=>obtain⟨q,n,b⟩:=r;exact⟨[],nofun,q,um _ b,ay e▸a0.nil⟩|f es=>obtain⟨q,kvs,d,c⟩:=r;exact⟨kvs,nofun,q,d,ay e▸c⟩|_=>exact bl e
def C4{h:Heap}{ω:Addr->Prop}{o:O}{m:Addr×Addr}{es:List (String×V)}(e:qQ o=some es)(r:ds X h ω μ o m):xS o m λkvs=>h.DictOf (strKind X.a X.w) m.1 kvs/\cw Str.ofString (aq h ω μ) es kvs:=by
 induction o using Mine.Lake.O.casesOn with
 |b=>obtain⟨q,n,b⟩:=r;exact⟨[],nofun,q,um _ b,ay e▸a0.nil⟩|h es=>obtain⟨q,kvs,d,c⟩:=r;exact⟨kvs,nofun,q,d,ay e▸c⟩|_=>exact bl e
def C5{h:Heap}{ω:Addr->Prop}{o:O}{m:Addr×Addr}{es:List (List V×V)}(e:qR o=some es)(r:ds X h ω μ o m):xS o m λkvs=>h.DictOfH (jX X.a X.w) m.1 kvs/\gk (aq h ω μ) es kvs:=by
 induction o using Mine.Lake.O.casesOn with
 |b=>obtain⟨q,n,b⟩:=r;exact⟨[],nofun,q,Nu _ b,ay e▸a0.nil⟩|g es=>obtain⟨q,kvs,d,c⟩:=r;exact⟨kvs,nofun,q,d,ay e▸c⟩|_=>exact bl e
inductive xT(X:dj)(h:Heap)(ω:Addr->Prop)(μ:Mu)(d:Addr)(v:V)(y:Value)(ov:Option V):Prop
 |e (k t) (f:Int->Option Value) (ev:v=.j k) (ey:y=.int k t) (m:h.MapOf (intKind X.a X.w) d f) (r:fU (aq h ω μ) ov (f k))
 |c (k t) (f:Str->Option Value) (ev:v=.u k) (ey:y=.str (Str.ofString k) t) (m:h.MapOf (strKind X.a X.w) d f) (r:fU (aq h ω μ) ov (f (Str.ofString k)))
 |b (k a) (xs:List (List V×Addr×Value)) (ev:v=.p k) (ey:y=.ref a) (i:(jX X.a X.w).is h k a) (m:h.DictOfH (jX X.a X.w) d xs) (r:fU (λv (p:Addr×Value)=>aq h ω μ v p.2) ov (atKey xs k))
def C6{h:Heap}{ω:Addr->Prop}{μ:Mu}{k:List V}{x:Value}(U:V.keys k=true)(r:aq h ω μ (.p k) x):∃a,x=.ref a/\(jX X.a X.w).is h k a:=by
 obtain⟨a,vs,n,e,g,w,ra⟩:=(r.uf (V.q5 (.p k) 7 U)).eK;exact⟨a,e,U,.tup g w ra⟩
def xU{h:Heap}{ω:Addr->Prop}{d:O}{m:Addr×Addr}(C:ds X h ω μ d m){k:V}{x:Value}{ov:Option V}(e:iK d k=some ov)(r:aq h ω μ k x):xT X h ω μ m.1 k x ov:=by
 induction k using Mine.Lake.V.casesOn with
 |j k=>
  obtain⟨es,J,e⟩:=cD (x:=gh d) e;obtain⟨kvs,_,_,Y,U⟩:=lr J C;obtain⟨t,ex⟩:=r;exact .e k t _ rfl ex Y.mapOf (e▸C3 id (λQ Q e=>e) U k)
 |u k=>
  obtain⟨es,J,e⟩:=cD (x:=qQ d) e;obtain⟨kvs,_,_,Y,U⟩:=C4 J C;obtain⟨t,ex⟩:=r;exact .c k t _ rfl ex Y.mapOf (e▸C3 Str.ofString (λQ Q e=>mN e) U k)
 |p k=>
  obtain⟨y,e⟩:=bN (x:=(qR d).map (cT k)) e;obtain⟨es,J,e⟩:=cD e;obtain⟨kvs,_,_,Y,U⟩:=C5 J C;obtain⟨a,ex,hi⟩:=C6 (X:=X) y r;exact .b k a kvs rfl ex hi Y (e▸Nr U k)
 |_=>exact bl e
def C7{h:Heap}{ω:Addr->Prop}{d:Addr}{k x ov}(q:xT X h ω μ d k x ov):∃o,h.get? d=some o/\o.cls=.type "dict" :=by
 induction q with
 |e _ _ _ _ _ hm _=>obtain⟨o,es,ep,ho,J,_⟩:=hm;exact⟨o,ho,J.1⟩|c _ _ _ _ _ hm _=>obtain⟨o,es,ep,ho,J,_⟩:=hm;exact⟨o,ho,J.1⟩|b _ _ _ _ _ _ hm _=>obtain⟨o,ho,h1,_⟩:=xO hm;exact⟨o,ho,h1⟩
def fS.tupK{n:Nat}(j:fS n A):A.in1.units+32 < cLine:=by
 have:=j.a;show A.units+1+32 < cLine;exact "~=eZJ?P^8VR0g74l|aifC" this
def C8{o i v:V}{x y:Value}{aw:St}{n:Nat}{Q:Value->Shared->Prop}(R:SR X σ μ s.heap)(hA:fS n A)(g:aq s.heap (au σ μ) μ o x)(ri:aq s.heap (au σ μ) μ i y)
  (e:di o i σ=some (v,aw)) (c:cy X s σ μ aw v Q):
  ∃T id,s.TypeIs x T/\typeLookup (.type T) "__getitem__" =pure (some (.builtin id))/\wpAny (model X.a X.w) A (getItem x y) Q E s:=by
 rcases li e with⟨p,N,e⟩ |⟨_,e⟩
 .obtain⟨a,vs,m,ex,G,ra⟩:=jZ R N g
  obtain⟨ki,Nv,e⟩:=a9 e;obtain⟨j,hj,e⟩:=a9 e;obtain⟨w,hw,e⟩:=cD e;rw[jm Nv]at ri;obtain⟨t,ey⟩:=ri;have I:=C2 hj;obtain⟨z,hz,H⟩:=ra.get hw;rw[eI]at hz;have hsz:=iP ra;rw[hsz]at I;have c:=(cy.of (aE some e) c).here R H;rw[ex,ey];generalize J:p.1=x_
  induction x_ using aS with
  |false=>
   rw[J]at G;exact⟨"tuple",_,⟨_,G,rfl⟩,BS.lookup,getItem_tuple ⟨_,G,rfl,m,rfl⟩ I.c I.a I.f hz (c _)⟩
  |true=>
   rw[J]at G;refine⟨"list",_,⟨_,G,rfl⟩,list_getitem_lookup,?_⟩;by_cases U:0<=ki
   .exact wpAny_getItem_list ⟨_,G,rfl,m,rfl⟩ U I.a (I.b U▸hz) (c _)
   .obtain⟨h7,h8⟩:=I.d (BR.mp U)
    exact wpAny_getItem_list_neg ⟨_,G,rfl,m,rfl⟩ (BR.mp U) h8 I.c (h7▸hz) (c _)
 .obtain⟨d,Y,e⟩:=a9 e
  obtain⟨r,C,e⟩:=a9 e;obtain⟨w,hw,e⟩:=cD e;obtain⟨L,m,_,ho,hm,ex,h⟩:=j0 R Y g;have q:=xU h C ri;obtain⟨ob,oz,Nw⟩:=C7 q;have c:=cy.of (aE some e) c;rw[ex];refine⟨"dict",_,⟨ob,oz,Nw⟩,slot_dict_getitem.lookup,?_⟩;rw[hw]at q
  induction q with
  |e k t f _ ey u B=>
   obtain⟨z,hz,H⟩:=B;rw[ey];exact wpAny_getItem_of (n8 _ _ _ _) u hz (c.here R H _)
  |c k t f _ ey u B=>
   obtain⟨z,hz,H⟩:=B;rw[ey];exact wpAny_getItem_of (tE _ _ _ _) u hz (c.here R H _)
  |b k a xs _ ey hi u B=>
   obtain⟨z,hz,H⟩:=B;rw[ey];exact wpAny_getItem_heap (knd:=Mine.Lake.S.jX X.a X.w) hA.tupK hi u hz (c.here R H _)
end
section
variable{A:Around}{E:Value->Shared->Prop}{s:Shared}{σ:St}{μ:Mu}
def Nx(H:x.pure=true):∀{l:List V},V.eU l=true->(eX l).any (λy=>PyData.eqv y (dz x))=l.any (λy=>ca y x):=by
 intro l
 induction l with
 |nil=>exact λJ=>rfl|cons a as ih=>
  intro h;have h:=bh.mp h;show(PyData.eqv (dz a) (dz x)||(eX as).any λy=>PyData.eqv y (dz x))=(ca a x||as.any λy=>ca y x);rw[ue a x h.1 H,ih h.2]
def C9(j:fS n A)(h:decide (k<=8)=true):A.units+1+min m k < cLine:=by
 have h1:=aL (Nat.min_le_right m k) (mq h);have:=j.a;exact "~Fpa??Bl0dh8WcD6lqtL;cw^h|h?mD" fa h1 this
def un(h:(a&&b&&c)=true):a=true/\b=true/\c=true:=by
 have h1:=bh.mp h;have h2:=bh.mp h1.1;exact⟨h2.1,h2.2,h1.2⟩
def C'(low:∃o,X.b.get? sysModules=some o)(R:SR X σ μ s.heap)(j:fS n A)(rx:aq s.heap (au σ μ) μ v x)(rc:aq s.heap (au σ μ) μ c y)
  (e:g_ σ v c=some r):((∀t,Q (.bool r) {s with toks:=t})->wpAny (model X.a X.w) A (compareOp .In x y) Q E s)/\
   ((mG v).isNone=true->(∀t,Q (.bool (!r)) {s with toks:=t})->wpAny (model X.a X.w) A (compareOp .NotIn x y) Q E s):=by
 rcases li e with h |h
 .obtain⟨p,N,e⟩:=h
  obtain⟨J,e⟩:=bN e;obtain⟨T,w,j5⟩:=un J;obtain⟨a,vs,m,ex,G,ra⟩:=jZ R N rc;obtain⟨as,g⟩:=xM (λv _ x q J=>q.reads J) ra T;obtain⟨I,uo⟩:=rx.reads w;have Y:A.units+1+min (PyData.depthAll (eX p.2)) (dz v).depth < cLine:=by
   rw[q4];exact C9 j j5
  rw[ex,<-ay e,<-Nx w T];generalize U:p.1=x_
  induction x_ using aS with
  |true=>
   rw[U]at G;exact⟨λc=>SeqAt.in_list_reads (.list G rfl rfl g) uo (ud _) (jk v) Y (c _),λ_ c=>SeqAt.notIn_list_reads (.list G rfl rfl g) uo (ud _) (jk v) Y (c _)⟩
  |false=>
   rw[U]at G;exact⟨λc=>SeqAt.in_tuple_reads (.tuple G rfl rfl g) uo (ud _) (jk v) Y (c _),λ_ c=>SeqAt.notIn_tuple_reads (.tuple G rfl rfl g) uo (ud _) (jk v) Y (c _)⟩
 .obtain⟨d,Y,e⟩:=a9 h.2
  obtain⟨ov,H,e⟩:=cD e;obtain⟨L,m,_,ho,hm,ey,C⟩:=j0 R Y rc;have z:(m.1==sysModules)=false:=by
   obtain⟨o,ho⟩:=low;exact cB.mpr λq=>bl ((R.p L m hm).1.symm.trans (q▸ho))
  have i:∀{β:Type} {P:V->β->Prop} {f:Option β},fU P ov f->f.isSome=r:=λ{β P f} h=>by
   rw[<-e]
   induction ov using aX with
   |none=>rw[show f=none from h];rfl|some v=>obtain⟨b,hb,_⟩:=h;rw[hb];rfl
  rw[ey];cases xU C H rx with
  |e k t f _ ex u B=>
   rw[ex];exact⟨λc=>wpAny_in_of (n8 _ _ _ _) z u (by rw[i B];exact c _),λ_ c=>wpAny_notIn_of (n8 _ _ _ _) z u (by rw[i B];exact c _)⟩
  |c k t f _ ex u B=>
   rw[ex];exact⟨λc=>wpAny_in_of (tE _ _ _ _) z u (by rw[i B];exact c _),λ_ c=>wpAny_notIn_of (tE _ _ _ _) z u (by rw[i B];exact c _)⟩
  |b k a xs ev ex hi u B=>
   rw[ex];refine⟨λc=>wpAny_in_heap (knd:=jX X.a X.w) j.tupK hi z u (by rw[i B];exact c _),λh=>?_⟩;rw[ev]at h;exact b6 h
abbrev q8:lh->CmpOp
 |.a=>.Eq |.c=>.NotEq |.f=>.Lt |.i=>.LtE |.e=>.Gt |.g=>.GtE |.b=>.In |.d=>.NotIn |.j=>.Is |.h=>.IsNot
def Ny(e:oi a b g=some r)(ra:aq h ω μ a x)(m:aq h ω μ b y):∃i j t u,x=.int i t/\y=.int j u/\g i j=r:=by
 obtain⟨i,hi,e⟩:=a9 e;obtain⟨j,f,e⟩:=cD e;rw[jm hi]at ra;rw[jm f]at m;obtain⟨t,ex⟩:=ra;obtain⟨u,ey⟩:=m;exact⟨i,j,t,u,ex,ey,e⟩
def C_(j:fS n A)(h:decide (fb b<=8)=true):A.units+min (dz a).depth (dz b).depth < cLine:=by
 rw[q4,q4];exact fK (Nat.add_le_add_right (tF _) _) (C9 j h)
def Nz(low:∃o,X.b.get? sysModules=some o)(R:SR X σ μ s.heap)(U:fS n A)(ra:aq s.heap (au σ μ) μ a x)(m:aq s.heap (au σ μ) μ b y)
  (e:dc op a b σ=some (v,aw)) (c:cy X s σ μ aw v Q):wpAny (model X.a X.w) A (compareOp (q8 op) x y) Q E s:=by
 obtain⟨r,e,q⟩:=cD e;have c:∀t,Q (.bool r) {s with toks:=t}:=(cy.of (aE some q) c).here R (.bool _);have int:∀{g:Int->Int->Bool},oi a b g=some r->(∀i j t u,Q (.bool (g i j)) {s with toks:=s.toks}->wpAny (model X.a X.w) A (compareOp (q8 op) (.int i t) (.int j u)) Q E s)->wpAny (model X.a X.w) A (compareOp (q8 op) x y) Q E s:=λe k=>by
  obtain⟨i,j,t,u,ex,ey,q⟩:=Ny e ra m;rw[ex,ey];exact k i j t u (q▸c _)
 induction op using Mine.Lake.lh.casesOn with
 |a=>
  obtain⟨J,e⟩:=bN e;obtain⟨h1,h2,h3⟩:=un J;obtain⟨as,Y⟩:=ra.reads h1;obtain⟨I,p⟩:=m.reads h2;exact SeqAt.compareEq_reads Y p (jk a) (jk b) (C_ U h3) (by rw[ue a b h1 h2,ay e];exact c _)
 |c=>
  obtain⟨J,e⟩:=bN e;obtain⟨h1,h2,h3⟩:=un J;obtain⟨as,Y⟩:=ra.reads h1;obtain⟨I,p⟩:=m.reads h2;exact SeqAt.compareNe_reads Y p (jk a) (jk b) (C_ U h3) (by rw[ue a b h1 h2,ay e];exact c _)
 |f=>exact int e λH H H H=>PySem.P.lt_int|i=>exact int e λH H H H=>PySem.P.le_int|e=>exact int e λH H H H=>PySem.P.gt_int|g=>exact int e λH H H H=>PySem.P.ge_int|b=>exact(C' low R U ra m e).1 c|d=>
  obtain⟨h1,e⟩:=bN e;obtain⟨r',e,q⟩:=cD e;exact(C' low R U ra m e).2 h1 (q▸c)
 |j=>exact bl e|h=>
  obtain⟨h1,e⟩:=bN e;have c:=c s.toks
  induction b using Mine.Lake.V.casesOn with
  |z=>
   rw[show y=.none from m]
   induction a using Mine.Lake.V.casesOn with
   |z=>rw[<-ay e]at c;rw[show x=.none from ra];exact J4 rfl c|j i=>obtain⟨t,ex⟩:=ra;rw[<-ay e]at c;rw[ex];exact J4 rfl c|u i=>obtain⟨t,ex⟩:=ra;rw[<-ay e]at c;rw[ex];exact J4 rfl c|_=>exact bl e
  |_=>exact b6 h1
def Db{k:Int}(h:k < 0)(n:Nat):n - (-k).toNat=((n:Int)+k).toNat:=by
 have e:((-k).toNat:Int)=-k:=BJ (Int.neg_nonneg_of_nonpos (kO h));rw[show(n:Int)+k=n - ((-k).toNat:Int)by rw[e,Int.sub_neg],Int.toNat_sub]
def Dc(k:Int)(n:Nat):(if k < 0 then max (k+n) 0 else min k n)=((kms_lo (some k) n:Nat):Int):=by
 show _=(((if k < 0 then n - (-k).toNat else min k.toNat n):Nat):Int);by_cases h:k < 0
 .rw[ah h,ah h,Db h,Int.add_comm];exact(Int.ofNat_toNat _).symm
 .rw[ab h,ab h,Lean.Omega.Int.ofNat_min,BJ (jP.mp h)]
def Dd(k:Int)(n:Nat):kms_lo (some k) n=og n k:=by
 show(if k < 0 then n - (-k).toNat else min k.toNat n)=if k < 0 then((n:Int)+k).toNat else min n k.toNat;by_cases h:k < 0
 .rw[ah h,ah h];exact Db h n
 .rw[ab h,ab h,Nat.min_comm]
def NA(hi:Option Int)(n:Nat):kms_hi hi n<=n:=by
 induction hi using aX with
 |none=>exact av _|some k=>
  show(if k < 0 then n - (-k).toNat else min k.toNat n)<=n;by_cases h:k < 0
  .rw[ah h];exact BU _ _
  .rw[ab h];exact Nat.min_le_right _ _
def NB{ω μ}(r:b7 h ω μ l xs)(lo hi:Option Int):b7 h ω μ (iL l lo hi) (kms_pick xs lo hi):=by
 have e1:kms_lo lo xs.length=(match lo with |none=>0 |some k=>og l.length k):=by
  rw[a0.length r];induction lo using aX with |none=>rfl |some k=>exact Dd k _
 have w:kms_hi hi xs.length=(match hi with |none=>l.length |some k=>og l.length k):=by
  rw[a0.length r];induction hi using aX with |none=>rfl |some k=>exact Dd k _
 unfold kms_pick;rw[e1,w,<-List.drop_take];exact(r.take _).drop _
def uq(e:qS v=some b)(r:aq h ω μ v x):IsPart x b:=by
 induction v using Mine.Lake.V.casesOn with
 |z=>rw[show x=.none from r,<-ay e];exact .none|j k=>
  obtain⟨t,ex⟩:=r;rw[ex,<-ay (bN (x:=some (some k)) e).2];exact .int _ _
 |_=>exact bl e
def xV(B:IsPart v k)(h:Q k s):wpAny (model X.a X.w) A (Builtin.Slice.slicePartIndex v) Q E s:=by
 induction B with
 |none=>exact aG h|int i t=>exact slicePart_int h
def NC(items:Array Value)(a n:Nat):((List.range n).filterMap λ(k:Nat)=>items[((a:Int)+(k:Int)*1).toNat]?)=(items.toList.drop a).take n:=by
 rw[<-pick_run items a n,List.filterMap_map];refine aE (λf=>(List.range n).filterMap f) (funext λk=>?_);rw[Int.mul_one];rfl
def ND{items:Array Value}{lo:Option Int}(f:s.heap.get? t=some (cb "tuple" items n))
  (N:s.heap.IsSliceOf sl j r .none) (pl:IsPart j lo) (i:IsPart r hi)
  (h1:Q (.ref s.heap.objs.size) {s with heap:=s.heap.push {cls:=.type "tuple",data:=.seq (kms_pick items.toList lo hi).toArray}})
  (h2:kms_pick items.toList lo hi=items.toList->Q (.ref t) s)
  (hsz:items.size<=sizeLine):wpAny (model X.a X.w) A (getItem (.ref t) (.ref sl)) Q E s:=by
 obtain⟨os,c,o,g⟩:=id N;have p:s.TypeIs (.ref sl) "slice" :=⟨os,c,o⟩;have m:s.TypeIs (.ref t) "tuple" :=⟨_,f,rfl⟩;unfold getItem;try with_reducible refine dm ?_
 first |refine aj (aG ?_) |skip
 refine aj (wpAny_sequenceKey m (by decide) ?_);refine aj (w_ (name:=Str.ofString "__getitem__") m BS
  (n5 BS m F.entry_tuple_getitem ?_ (F.args_tuple_getitem_2 _ _)))
 show wpAny _ _ (Builtin.Tuple.tupleItemsOf (.ref t)>>=_) _ _ s;refine aj (wpAny_tupleItemsOf f rfl ?_);refine aj (wpAny_typeOf p ?_);rw[ah (by decide)];refine aj ?_;unfold Builtin.Slice.sliceApplied Builtin.Slice.sliceFields;refine aj (aj (kP c g (x:=j) rfl (aj (kP c g (x:=r) rfl (aj (kP c g (x:=.none) rfl (aG ?_)))))));refine aj (xV .none ?_);simp only[Option.getD_none];rw[ab (by decide)];refine aj (xV pl (aj (xV i (aj (aG (aG ?_))))));have e1:Builtin.Slice.sliceAdjust lo hi 1 (items.size:Int)=(((kms_lo lo items.size:Nat):Int),((kms_hi hi items.size:Nat):Int)):=by
  refine Prod.ext ?_ ?_
  .induction lo using aX with
   |none=>rfl|some k=>exact Dc k _
  .induction hi using aX with
   |none=>rfl|some k=>exact Dc k _
 have w:Builtin.Slice.slicePlaces ((kms_lo lo items.size:Nat):Int) ((kms_hi hi items.size:Nat):Int) 1=kms_hi hi items.size - kms_lo lo items.size:=by
  show(if((kms_lo lo items.size:Nat):Int) < ((kms_hi hi items.size:Nat):Int)then(((kms_hi hi items.size:Nat):Int) - ((kms_lo lo items.size:Nat):Int) - 1) / 1+1 else 0).toNat=_;generalize kms_lo lo items.size=a;generalize kms_hi hi items.size=b;by_cases h:(a:Int) < b
  .rw[ah h];lia
  .rw[ab h];exact "~ZR9EKYBGHwA=;bHZRv4qlBRK2MQAR0Frw6jBBT5>QzUnh65?4aV2raR>9slNo=^TAuhu" oe ao h
 have q:∀n,((List.range n).filterMap λ(k:Nat)=>items[(((kms_lo lo items.size:Nat):Int)+(k:Int)*1).toNat]?)=(items.toList.drop (kms_lo lo items.size)).take n:=NC items _;have H:kms_pick items.toList lo hi=(items.toList.drop (kms_lo lo items.size)).take (kms_hi hi items.size - kms_lo lo items.size):=rfl;rw[H]at h1 h2;rw[e1];show wpAny _ _ (if(((kms_lo lo items.size:Nat):Int)==0&&(1:Int)==1&&Builtin.Slice.slicePlaces ((kms_lo lo items.size:Nat):Int) ((kms_hi hi items.size:Nat):Int) 1==items.size)=true then _ else _) _ _ s;rw[w];generalize kms_lo lo items.size=a at*;have T:=NA hi items.size;generalize kms_hi hi items.size=b at*;by_cases Y:((a:Int)==0&&(1:Int)==1&&b - a==items.size)=true
 .rw[ah Y]
  refine aj ?_;unfold Builtin.Tuple.tupleIsExact;refine aj (wpAny_typeOf m (aG ?_));rw[ah (by decide)];have h2:=h2 (by
   obtain⟨w1,_,w2⟩:=un Y;rw[Int.ofNat_eq_zero.mp (eq_of_beq w1)]at w2 ⊢;exact tG (gV (eq_of_beq w2).symm))
  first
   |exact aj (gU (aG ⟨_,rfl,aG h2⟩))
   |exact aj (gU (aj (aG (aG ⟨_,rfl,aG h2⟩))))
 .rw[ab Y]
  rw[q];unfold Builtin.Tuple.tupleExact;refine aj (xa ?_ ?_)
  .first
    |exact aG ⟨_,rfl,aG h1⟩
    |exact aj (aG (aG ⟨_,rfl,aG h1⟩))
  .show((items.toList.drop a).take (b - a)).toArray.size<=sizeLine
   rw[BV];exact aL (List.length_take_le _ _) (aL (BU _ _) (aL T hsz))
def NE{lo hi:V}(R:SR X σ μ s.heap)(g:aq s.heap (au σ μ) μ o x)(H:aq s.heap (au σ μ) μ lo j)(f:aq s.heap (au σ μ) μ hi r)
  (N:s.heap.IsSliceOf sl j r .none) (e:qT o lo hi σ=some (v,aw)) (c:cy X s σ μ aw v Q):
  ∃T id,s.TypeIs x T/\typeLookup (.type T) "__getitem__" =pure (some (.builtin id))/\wpAny (model X.a X.w) A (getItem x (.ref sl)) Q E s:=by
 obtain⟨p,n,e⟩:=a9 e;obtain⟨a,z,e⟩:=a9 e;obtain⟨b,h,e⟩:=a9 e;obtain⟨k,e⟩:=bN e;have c:=cy.of e c;obtain⟨ad,vs,m,ex,G,ra⟩:=jZ R n g;have hsz:vs.size<=sizeLine:=by
  rw[<-iP ra,qi];exact aL (jQ k) (by decide)
 have i:=NB ra a b;rw[ex];generalize U:p.1=Y
 induction Y using aS with
 |true=>
  rw[U]at G c;refine⟨"list",_,⟨_,G,rfl⟩,list_getitem_lookup,?_⟩;refine wpAny_getItem_list_slice ⟨_,G,rfl,m,rfl⟩ N (uq z H) (uq h f) .none nofun ?_ hsz;rw[kms_pick_eq];exact c.ow "list" R (.inr ⟨rfl,rfl⟩) (by rw[J5];exact i) _
 |false=>
  rw[U]at G c;refine⟨"tuple",_,⟨_,G,rfl⟩,BS.lookup,?_⟩;refine ND G N (uq z H) (uq h f) ?_ (λL=>?_) hsz
  .exact c.ow "tuple" R (.inl ⟨rfl,rfl⟩) (by rw[J5];exact i) _
  .rw[L]at i
   exact c.here R (.tup G (λq=>R.oq q _ _ G) i) _
abbrev xW:fN->Operator
 |.a=>.Add |.c=>.Sub |.d=>.Mult |.e=>.FloorDiv |.b=>.Mod
def NF(h:(fP x&&fP y)=true):IntMulOk x y:=by
 have h:=bh.mp h;have b:∀{z:Int},fP z=true->Builtin.Int.intBits z<=63:=λ{z} hz=>by
  rw[intBits_le_iff];exact fK (bP hz) (by decide)
 exact IntMulOk.of_le (b h.1) (b h.2) (by decide)
def NG(R:SR X σ μ s.heap)(ra:aq s.heap (au σ μ) μ a x)(m:aq s.heap (au σ μ) μ b y)
  (G:bt σ a=some p) (T:bt σ b=some q) (k:p.1=q.1) (Y:p.2.length+q.2.length < bs) (c:cy X s σ μ σ (xG p.1 (p.2++q.2)) Q):
  wpAny (model X.a X.w) A (binaryOp .Add x y) Q E s:=by
 obtain⟨f,vs,n,ex,J,i⟩:=jZ R G ra;obtain⟨g,ws,N,ey,L,j⟩:=jZ R T m;rw[<-k]at L;rw[ex,ey];have h1:=iP i;have h2:=iP j;have hsz:vs.size+ws.size<=sizeLine:=by rw[<-h1,<-h2,qi];exact aL (jQ Y) (by decide)
 have rc:b7 s.heap (au σ μ) μ (p.2++q.2) (vs++ws).toList:=by rw[gW];exact i.append j
 have nil:∀{l:List V} {vs:Array Value},l.length=vs.size->vs.isEmpty=true->l=[]:=λh e=>xc.mp (h.trans (by simpa [Array.isEmpty]using e));generalize U:p.1=I
 induction I using aS with
 |true=>
  rw[U]at J L c;exact PySem.P.add_list J L (c.ow "list" R (.inr ⟨rfl,rfl⟩) rc _) hsz
 |false=>
  rw[U]at J L c;by_cases e1:vs.isEmpty=true
  .refine concat_meets ⟨_,J,rfl⟩ ⟨_,L,rfl⟩ noFill_tuple_add seq_tuple_add F.slot_tuple_add F.entry_tuple_add (F.args_tuple_add_2 _ _) (AutoSeq1.tuple___add___tuple_tuple_0 f vs n g ws N e1) ⟨J,L,?_⟩
   rw[nil h1 e1]at c;exact c.here R (.tup L (λz=>R.oq z _ _ L) j) _
  .by_cases w:ws.isEmpty=true
   .refine concat_meets ⟨_,J,rfl⟩ ⟨_,L,rfl⟩ noFill_tuple_add seq_tuple_add F.slot_tuple_add F.entry_tuple_add (F.args_tuple_add_2 _ _) (AutoSeq1.tuple___add___tuple_tuple_1 f vs n g ws N e1 w) ⟨J,L,?_⟩
    rw[nil h2 w,b9]at c;exact c.here R (.tup J (λz=>R.oq z _ _ J) i) _
   .exact PySem.P.add_tuple J L e1 w (c.ow "tuple" R (.inl ⟨rfl,rfl⟩) rc _) hsz
def NH(R:SR X σ μ s.heap)(ra:aq s.heap (au σ μ) μ a x)(m:aq s.heap (au σ μ) μ b y)
  (e:iM op a b σ=some (v,aw)) (c:cy X s σ μ aw v Q):wpAny (model X.a X.w) A (binaryOp (xW op) x y) Q E s:=by
 rcases li e with h |h
 .obtain⟨i,hi,e⟩:=h
  obtain⟨j,f,e⟩:=a9 e;obtain⟨k,U,e⟩:=cD e;rw[jm hi]at ra;rw[jm f]at m;obtain⟨t,ex⟩:=ra;obtain⟨u,ey⟩:=m;have c:∀w t,Q (.int k w) {s with toks:=t}:=λw=>(cy.of (aE some e) c).here R (.int k w);rw[ex,ey]
  induction op using Mine.Lake.fN.casesOn with
  |a=>exact PySem.P.add_int (ay U▸c _ _)|c=>exact PySem.P.sub_int (ay U▸c _ _)|d=>obtain⟨h,U⟩:=bN U;exact PySem.P.mul_int (ay U▸c _ _) (NF h)|e=>obtain⟨h,U⟩:=bN U;exact floordiv_int h.1 (ay U▸c _ _) (.inl (PyProof.noPylong_small h.2))|b=>obtain⟨h,U⟩:=bN U;exact mod_int' h (ay U▸c _ _)
 .have e:=h.2
  induction op using Mine.Lake.fN.casesOn with
  |a=>
   obtain⟨p,J,e⟩:=a9 (x:=bt σ a) e;obtain⟨q,L,e⟩:=a9 e;obtain⟨h,e⟩:=bN e;exact NG R ra m J L h.1 h.2 (cy.of e c)
  |_=>exact bl e
end
abbrev j6:List AN:=[0,1,2,3,4,5,6,7,8,9,10,11,12,13,14,15,16,17,18,19,20,21]
abbrev xX(s:String):AN:=(j6.find? λa=>a.name==s).getD 0
def NJ:(j6.all λa=>xX a.name==a)=true:=by kernel_rfl
def xY:∀f:AN,f∈j6:=by decide+kernel
def De(a:AN):xX a.name=a:=eq_of_beq (ek.mp NJ a (xY a))
def AN.Df{b:AN}(h:Str.ofString a.name=Str.ofString b.name):a=b:=(De a).symm.trans ((aE xX (mN h)).trans (De b))
section
variable{A:Around}{E:Value->Shared->Prop}{s:Shared}{σ:St}{μ:Mu}
def ur{w:World}{R:V->Value->Prop}{p:AN×V}{e:DictEntry}(h:R p.2 e.val/\∃t,e=⟨PyData.keyHash w.params (Str.ofString p.1.name),.str (Str.ofString p.1.name) t,e.val⟩):(∀n,e.key.isStr n=(Str.ofString p.1.name==n))/\e.refKey=false:=by
 obtain⟨_,t,q⟩:=h;rw[q];exact⟨λJ=>rfl,rfl⟩
def eL.noRef{R:V->Value->Prop}{fs:List (AN×V)}{es:List DictEntry}(r:eL w R fs es):(es.any λe=>e.refKey)=false:=
 a0.ind (λ_ (es:List DictEntry)=>(es.any λe=>e.refKey)=false) rfl (λp e J es h J ih=>by rw[tH,ih,(ur h).2];rfl) r
def eL.find{R:V->Value->Prop}{fs:List (AN×V)}{es:List DictEntry}(r:eL w R fs es)(a:AN):fU (λv (e:DictEntry)=>R v e.val) (cT a fs) (es.find? λe=>e.key.isStr (Str.ofString a.name)):=by
 refine a0.ind (λ(fs:List (AN×V)) (es:List DictEntry)=>fU (λv (e:DictEntry)=>R v e.val) (cT a fs) (es.find? λe=>e.key.isStr (Str.ofString a.name))) rfl (λp e fs es h J ih=>?_) r;show fU (λv (e:DictEntry)=>R v e.val) (if p.1=a then some p.2 else cT a fs) (match e.key.isStr (Str.ofString a.name)with |true=>some e |false=>es.find? λe=>e.key.isStr (Str.ofString a.name));rw[(ur h).1];by_cases U:p.1=a
 .rw[ah U,U,jO];exact⟨e,rfl,h.1⟩
 .rw[ab U,cB.mpr λq=>U (AN.Df q)];exact ih
def eL.get(r:eL w R fs es)(a:AN):∃o,getL (Str.ofString a.name) es=some o/\fU R (cT a fs) o:=by
 have h:=r.find a;unfold getL;generalize G:cT a fs=Y
 induction Y using aX with
 |none=>rw[G]at h;rw[show es.find? _=none from h,r.noRef];exact⟨none,rfl,rfl⟩|some v=>rw[G]at h;obtain⟨e,J,C⟩:=h;rw[J];exact⟨_,rfl,e.val,rfl,C⟩
def eL.put{R:V->Value->Prop}{fs:List (AN×V)}{es:List DictEntry}(r:eL w R fs es)(a:AN)(h:R v x)(t:Tok):
  eL w R (bn a v fs) (putL (Str.ofString a.name) (PyData.keyHash w.params (Str.ofString a.name)) (.str (Str.ofString a.name) t) x es):=by
 refine a0.ind (λ(fs:List (AN×V)) (es:List DictEntry)=>eL w R (bn a v fs) (putL (Str.ofString a.name) (PyData.keyHash w.params (Str.ofString a.name)) (.str (Str.ofString a.name) t) x es)) (.cons ⟨h,t,rfl⟩ .nil) (λp e fs es h' C ih=>?_) r;show eL w R (if p.1=a then(p.1,v)::fs else p::bn a v fs) (if e.key.isStr (Str.ofString a.name)then⟨e.hash,e.key,x⟩::es else e::putL _ _ _ x es);rw[(ur h').1];by_cases U:p.1=a
 .rw[ah U,U,jO,ah rfl]
  obtain⟨_,u,q⟩:=h';rw[q];exact .cons ⟨h,u,by rw[U]⟩ C
 .rw[ab U,cB.mpr λq=>U (AN.Df q),ab dV]
  exact .cons h' ih
abbrev q_(K:Frag)(C:Addr)(name:Str):Bool:=
 plainGet K C name&&hasDictIn K C&&(match findIn K (.ref C) name with |some attr=>noGet K attr |none=>false)&&
 findIn K (.ref C) "__setattr__" ==some (some (.builtin "object.__setattr__"))&&plainOver K C&&(takerIn K C name==some none)
def aq.handed{h ω μ v x}(r:aq h ω μ v x):handedIn x=true:=by
 induction v using Mine.Lake.V.casesOn with
 |z=>rw[show x=.none from r];rfl|w b=>rw[show x=.bool b from r];rfl|j i=>obtain⟨t,e⟩:=r;rw[e];rfl|u i=>obtain⟨t,e⟩:=r;rw[e];rfl|p l=>obtain⟨a,_,_,e,_⟩:=r.eK;rw[e];rfl|r l=>obtain⟨a,_,_,e,_⟩:=r.jV;rw[e];rfl|o i=>obtain⟨m,_,e⟩:=r;rw[e];rfl
structure NK(K:Frag)(C:Addr)(name:Str):Prop where
 e:plainGet K C name=true
 a:hasDictIn K C=true
 f:∃attr,findIn K (.ref C) name=some attr/\noGet K attr=true
 c:findIn K (.ref C) "__setattr__" =some (some (.builtin "object.__setattr__"))
 d:plainOver K C=true
 b:takerIn K C name=some none
def Dg{K:Frag}(h:q_ K C name=true):NK K C name:=by
 have h5:=bh.mp h;have h4:=bh.mp h5.1;have h3:=bh.mp h4.1;have h2:=bh.mp h3.1;have h1:=bh.mp h2.1;refine⟨h1.1,h1.2,?_,aH.mp h3.2,h4.2,aH.mp h5.2⟩;have h:=h2.2;generalize e:findIn K (.ref C) name=Y
 induction Y using aX with
 |none=>rw[e]at h;exact b6 h|some attr=>rw[e]at h;exact⟨attr,rfl,h⟩
def Dh{v:V}(aD:X.K.In X.b)(ok:∀c a,dM c a=false->q_ X.K (X.c c) (Str.ofString (AN.name a))=true)(R:SR X σ μ s.heap)(r:aq s.heap (au σ μ) μ v x)
  (e:t6 v a σ=some (y,aw)) (c:cy X s σ μ aw y Q):wpAny (model X.a X.w) A (getAttr x (Str.ofString a.name) g) Q E s:=by
 obtain⟨o,ho,e⟩:=a9 e;obtain⟨p,J,e⟩:=a9 e;obtain⟨B,e⟩:=bN e;obtain⟨z,hz,e⟩:=cD e;rw[xR J]at ho;obtain⟨i,m,_,hi,hm,ex,C⟩:=j0 R ho r;obtain⟨w,H,es,n,Y,U⟩:=C;obtain⟨o',h2,h3⟩:=U.get a;rw[hz]at h3;obtain⟨x',h3,h4⟩:=h3;rw[h3]at h2;have T:=Dg (ok p.1 a B);obtain⟨attr,G,f⟩:=T.f;rw[ex];exact get_value (aD.keeps R.k) ⟨H,rfl,rfl,Y⟩ (plainGet_of T.e).1 (findObj_own T.a G f (show lookIn _ (W.dictOf es n)=_ from h2)) h4.handed ((cy.of (aE some e) c).here R h4 _)
def NL{K:Frag}(q:K.In s.heap)
  (I:W.InstAt s.heap x k C (some (W.dictOf es n))) (U:k.dict=some m) (T:plainOver K C=true) (f:takerIn K C name=some none) (j:(clsIn K C).any (·.hasDict)=true)
  (Y:(lookIn name (W.dictOf es n)).isSome=true) (D:s.heap.get? m=some (W.dictOf es n)) (hz:es.length < 900)
  (h:R (.ok (.ret .none)) {s with heap:=s.heap.update m (Obj.putName name (PyData.keyHash w.params name) (.str name s.toks) v),toks:=s.toks+1}):
  codeAny (model prog w) A (.call (.builtin "object.__setattr__") ⟨[.ref x,.str name N,v],[]⟩) R s:=by
 refine osa_open q I T f λb=>?_;obtain⟨L,o,p⟩:=any_some j;have e':Obj.putName name (PyData.keyHash w.params name) (.str name s.toks) v (W.dictOf es n)=W.dictOf (putL name (PyData.keyHash w.params name) (.str name s.toks) v es) (putN name es n):=putName_dict ..;have y:(putL name (PyData.keyHash w.params name) (.str name s.toks) v es).length<=es.length+1:=by
  clear Y D hz h e' I
  induction es with
  |nil=>exact av _|cons e r ih=>
   show(if e.key.isStr name then _ else e::putL _ _ _ v r).length<=r.length+1+1;by_cases h:e.key.isStr name=true
   .rw[ah h];exact tF _
   .rw[ab h];exact w9 ih
 have z:(s.heap.update m (Obj.putName name (PyData.keyHash w.params name) (.str name s.toks) v)).get? m=some (W.dictOf (putL name (PyData.keyHash w.params name) (.str name s.toks) v es) (putN name es n)):=by
  rw[<-e'];exact xd _ D (by rw[e'];rfl)
 obtain⟨H,g,u,-⟩:=I;obtain⟨i,G,t,B⟩:=k;dsimp only at g U;subst g U;refine aj (aG (aj (aj (wpAny_loadPart H (aj ((looks_clsIn q o).here ?_))))));rw[p];refine aG (a:=some m) (aj (aG (aj ?_)));unfold nsSet;refine aj (aj (wpAny_askSetting (aG (aj (wpAny_mkText (aj (wpAny_loadPart D ?_)))))));have c:(!(es.toArray).any (·.key.isStr name)&&(es.toArray).any (·.refKey))=false:=by
  rw[List.any_toArray,List.any_toArray];rw[lookIn_dict]at Y;unfold getL at Y;generalize J:es.find? (·.key.isStr name)=Q
  induction Q using aX with
  |some en=>rw[qj.mpr ⟨en,List.mem_of_find?_eq_some J,List.find?_some J⟩];rfl|none=>
   rw[J]at Y;by_cases hz:es.any (·.refKey)=true
   .rw[hz]at Y;exact b6 Y
   .rw[el.mpr hz,BW]
 simp only[W.dictOf];rw[aRefKeyMayBeTheName_at,c];refine wpAny_updatePart D ?_;refine aj (wpAny_lookBehind z (pastItsLine_dict (by rw[BV,qi];exact "~X3CwzGcJJ2B?Qb2GDlOj<Je" y hz)) ?_);exact aG h
abbrev lu(X:dj)(s:Shared)(σ:St)(μ:Mu)(aw:St)(Q:Unit->Shared->Prop):Prop:=∀s',SR X aw μ s'.heap->bf s.heap σ μ s'.heap aw μ No->er s s'->Q () s'
def lu.of{Q}(e:some (u,Y)=some (a,aw))(c:lu X s σ μ aw Q):lu X s σ μ Y Q:=by cases e;exact c
def NM{v:V}(aD:X.K.In X.b)(ok:∀c a,dM c a=false->q_ X.K (X.c c) (Str.ofString (AN.name a))=true)(R:SR X σ μ s.heap)(r:aq s.heap (au σ μ) μ v x)(ry:aq s.heap (au σ μ) μ y z)
  (e:mH v a y σ=some (u,aw)) (c:lu X s σ μ aw Q):wpAny (model X.a X.w) A (setAttr x (Str.ofString a.name) z) Q E s:=by
 obtain⟨i,B,e⟩:=a9 e;obtain⟨o,ho,e⟩:=a9 e;obtain⟨p,J,e⟩:=a9 e;obtain⟨j,e⟩:=bN e;rw[xR J]at ho;rw[ul B]at r;obtain⟨m,hm,ex⟩:=r;have c:=c.of e;obtain⟨w,H,es,n,Y,U⟩:=R.g i _ m ho hm;have T:=Dg (ok p.1 a j.1);have N:=aD.keeps R.k;have I:W.InstAt s.heap m.1 (instObj (X.c p.1) m.2) (X.c p.1) (some (W.dictOf es n)):=⟨H,rfl,rfl,Y⟩;rw[ex];refine set_plain N I T.c (NL (s:={s with toks:=s.toks+1}) N I rfl T.d T.b T.a ?_ Y (by rw[<-a0.length U];exact Nat.lt_trans j.2 (by decide)) ?_)
 .obtain⟨o,h,_⟩:=U.get a
  rw[lookIn_dict,h];rfl
 .have key:=R.update (h':=s.heap.update m.2 (Obj.putName (Str.ofString a.name) (PyData.keyHash X.w.params (Str.ofString a.name)) (.str (Str.ofString a.name) (s.toks+1)) z)) (o:=.e p.1 (bn a y p.2)) ho nofun hm nofun
   (λb ob e h1 h2=>(xe _ _ _ _ h2).trans e) (λbD aF K=>?_)
  .exact c _ key.1 key.2 ⟨rfl,rfl⟩
  .refine⟨w,(xe _ _ _ _ w).trans H,putL (Str.ofString a.name) (PyData.keyHash X.w.params (Str.ofString a.name)) (.str (Str.ofString a.name) (s.toks+1)) z es,putN (Str.ofString a.name) es n,?_,?_⟩
   .rw[<-putName_dict];exact xd _ Y (by rw[putName_dict];rfl)
   .exact(eL.mono (λG G q=>K.rep q) U).put a (K.rep ry) _
end
def NN{β:Type}[DecidableEq β]{b k:β}{kvs:List (β×Value)}(u:∀q∈kvs,q.1≠b):stored ((b,y)::kvs) k x=if b=k then(b,x)::kvs else(b,y)::stored kvs k x:=by
 by_cases e:b=k
 .rw[ah e]
  refine(ah (by rw[tH,b4 e];rfl)).trans ?_;rw[eR];refine congr (aE List.cons (ah e)) ((xf λq L=>ab λz=>u q L (z.trans e.symm)).trans (List.map_id' _))
 .rw[ab e]
  unfold PySem.stored;rw[tH,cc e,Bool.false_or,eR,ab e];by_cases h:(kvs.any λkv=>decide (kv.1=k))=true
  .rw[ah h,ah h]
  .rw[ab h,ab h];rfl
def Di{β:Type}{b:β}{kvs:List (β×a)}(u:(((b,y)::kvs).map (·.1)).Nodup):(∀q∈kvs,q.1≠b)/\(kvs.map (·.1)).Nodup:=by
 obtain⟨h1,h2⟩:=fL.mp (show(b::kvs.map (·.1)).Nodup from u);exact⟨λq L e=>h1 (e▸List.mem_map_of_mem L),h2⟩
def cw.stored{α β:Type}[DecidableEq α][DecidableEq β]{f:α->β}(inj:∀a b,f a=f b->a=b){es:List (α×V)}{kvs:List (β×Value)}(r:cw f R es kvs)
  (u:(kvs.map (·.1)).Nodup) (k:α) (h:R v x):cw f R (bn k v es) (stored kvs (f k) x):=by
 refine a0.ind (λ(es:List (α×V)) (kvs:List (β×Value))=>(kvs.map (·.1)).Nodup->cw f R (bn k v es) (PySem.stored kvs (f k) x)) (λJ=>.cons ⟨rfl,h⟩ .nil) (λp q es kvs h' C ih u=>?_) r u;obtain⟨a,w⟩:=p;obtain⟨b,y⟩:=q;obtain⟨h1,h2⟩:=Di u;have T:b=f a:=h'.1;rw[NN h1];show cw f R (if a=k then(a,v)::es else(a,w)::bn k v es) _;by_cases e:a=k
 .rw[ah e,ah (T.trans (aE f e))];exact .cons ⟨T,h⟩ C
 .rw[ab e,ab λq=>e (inj _ _ (T.symm.trans q))];exact .cons h' (ih h2)
def NP{k:List V}{x:Value}(u:∀q∈kvs,q.1≠b):storedH ((b,c,y)::kvs) k a x=if b=k then(b,c,x)::kvs else(b,c,y)::storedH kvs k a x:=by
 have U:atKey ((b,c,y)::kvs) k=((match decide (b=k)with |true=>some (b,c,y) |false=>kvs.find? λx=>decide (x.1=k)).map λ(p:List V×Addr×Value)=>p.2):=rfl;by_cases e:b=k
 .rw[ah e]
  rw[b4 e]at U;unfold storedH;rw[U];refine(ah rfl).trans ?_;rw[eR];exact congr (aE List.cons (ah e)) ((xf λq L=>ab λz=>u q L (z.trans e.symm)).trans (List.map_id' _))
 .rw[ab e]
  rw[cc e]at U;have U:atKey ((b,c,y)::kvs) k=atKey kvs k:=U;unfold storedH;rw[U,eR,show putAt k x (b,c,y)=(b,c,y)from ab e];by_cases h:(atKey kvs k).isSome=true
  .rw[ah h,ah h]
  .rw[ab h,ab h];rfl
def gk.stored{R:V->Value->Prop}{kvs:List (List V×Addr×Value)}(r:gk R es kvs)
  (u:(kvs.map (·.1)).Nodup) (k:List V) (a:Addr) {x:Value} (h:R v x):gk R (bn k v es) (storedH kvs k a x):=by
 refine a0.ind (λ(es:List (List V×V)) (kvs:List (List V×Addr×Value))=>(kvs.map (·.1)).Nodup->gk R (bn k v es) (storedH kvs k a x)) (λJ=>.cons ⟨rfl,h⟩ .nil) (λp q es kvs h' C ih u=>?_) r u;obtain⟨b,w⟩:=p;obtain⟨G,c,y⟩:=q;obtain⟨h1,h2⟩:=Di u;have T:G=b:=h'.1;rw[NP h1];show gk R (if b=k then(b,v)::es else(b,w)::bn k v es) _;by_cases e:b=k
 .rw[ah e,ah (T.trans e)];exact .cons ⟨T,h⟩ C
 .rw[ab e,ab λq=>e (T.symm.trans q)];exact .cons h' (ih h2)
section
variable{A:Around}{E:Value->Shared->Prop}{s:Shared}{σ:St}{μ:Mu}
def NQ{prog:Program}{items:Array Value}{k:Int}(Y:s.heap.get? l=some (cb "list" items n))
  (h0:0<=k) (c:k < 2 ^ 63) (u:k < items.size)
  (a:Q () {s with heap:=s.heap.update l (Obj.mapSeq (·.setIfInBounds k.toNat v))}):
  wpAny (model prog w) A (setItem (.ref l) (.int k t) v) Q E s:=by
 have m:s.TypeIs (.ref l) "list" :=⟨_,Y,rfl⟩;unfold setItem;try with_reducible refine dm ?_
 first |refine aj (aG ?_) |skip
 refine aj (wpAny_sequenceKey m (by decide) ?_);refine aj (w_ (name:=Str.ofString "__setitem__") m slot_list_setitem
  (n5 slot_list_setitem m entry_list_setitem ?_ (args_list_setitem _ _ _)))
 show wpAny _ _ (Builtin.List.listSubscript? (.int k t)>>=_) _ _ s;refine aj (wpAny_listSubscript_int (fitsIndex_of h0 c) ?_);clear c;obtain⟨j,rfl⟩:=Int.eq_ofNat_of_zero_le h0;have f:j < items.size:= "~PyRTCQVLg;" u;have C:items[j]?=some items[j]:=xg f;show wpAny _ _ ((seqItemAt l j>>=λr=>pure (r.map (j,·)))>>=_) _ _ s;refine aj (aj (wpAny_seqItemAt Y rfl (aG ?_)));rw[C];show wpAny _ _ (setSeqItemAt l j v>>=_) _ _ s;refine aj (wpAny_setSeqItemAt Y rfl ?_)
 first
  |exact aj (aG (aG ⟨.none,rfl,aG a⟩))
  |exact aG ⟨.none,rfl,aG a⟩
def SR.NR(R:SR X σ μ h)(h0:σ[i]?=some (.a l))(hm:μ[i]?=some m)(N:Heap.SameBut m.1 h h')
  (H:h'.get? m.1=some (cb "list" ws G)) (C:b7 h (au σ μ) μ l' ws.toList):SR X (σ.set i (.a l')) μ h'/\bf h σ μ h' (σ.set i (.a l')) μ No:=by
 obtain⟨q,_⟩:=R.g i _ m h0 hm;exact R.update (o:=.a l') h0 nofun hm nofun (λa ob e h1 J=>(N.2 a h1).trans e) λbD aF K=>⟨q,ws,G,H,K.q6 C⟩
def Dj{h:Heap}{items:Array Value}(Y:h.get? l=some (cb "list" items n))(f:Array Value->Array Value):
  ∃G,(h.update l (Obj.mapSeq f)).get? l=some (cb "list" (f items) G):=⟨_,xd _ Y rfl⟩
def us{prog:Program}{K:Type}[DecidableEq K]{knd:KeyKind prog w K}{h:Heap}{a:Addr}{kvs:List (K×Value)}(d:h.DictOf knd a kvs):(kvs.map (·.1)).Nodup:=by
 obtain⟨_,_,_,_,_,_,_,_,u⟩:=d;exact u
def NS{prog:Program}{K:Type}[DecidableEq K]{knd:HeapKind prog w K}{h:Heap}{a:Addr}{kvs:List (K×Addr×Value)}(d:h.DictOfH knd a kvs):(kvs.map (·.1)).Nodup:=by
 obtain⟨_,_,_,_,_,_,_,_,u⟩:=d;exact u
def gI(h:n < bs):n<=sizeLine:=by rw[qi];exact aL (jQ h) (by decide)
def SR.turn(R:SR X σ μ h)(Y:σ[i]?=some d)(hm:μ[i]?=some m)(H:d≠.d)(w:o≠.d)(N:Heap.SameBut m.1 h h')(L:∀bD aF,Kp h h' (au σ μ) bD μ aF->ds X h' bD aF o m):
  SR X (σ.set i o) μ h'/\bf h σ μ h' (σ.set i o) μ No:=R.update Y H hm w (λa ob e h1 J=>(N.2 a h1).trans e) L
def NT{d:O}{m:Addr×Addr}{k v:V}{x z:Value}(R:SR X σ μ s.heap)(hA:fS n A)(h:σ[i]?=some d)(hm:μ[i]?=some m)(e:mI d k v=some d')
  (y:aq s.heap (au σ μ) μ k x) (T:aq s.heap (au σ μ) μ v z) (c:lu X s σ μ (σ.set i d') Q):
  wpAny (model X.a X.w) A (setItem (.ref m.1) x z) Q E s:=by
 have C:=R.g i d m h hm;have fin:∀{h':Heap} {o:O},some o=some d'->d≠.d->o≠.d->Heap.SameBut m.1 s.heap h'->(∀bD aF,Kp s.heap h' (au σ μ) bD μ aF->ds X h' bD aF o m)->∀t,Q () {s with heap:=h',toks:=t}:=λ{h' o} q H w N L t=>by
  obtain⟨f,B⟩:=R.turn h hm H w N L;rw[ay q]at f B;exact c _ f B ⟨rfl,rfl⟩
 induction k using Mine.Lake.V.casesOn with
 |j k=>
  obtain⟨es,J,e⟩:=a9 (x:=gh d) e;obtain⟨Y,e⟩:=bN e;obtain⟨kvs,H,q,G,g⟩:=lr J C;obtain⟨t,ex⟩:=y;rw[ex];exact wpAny_setItem_pairs (n8 _ _ _ _) G (λh' I N=>fin e H nofun N (λbD aF K=>⟨q,_,I,cw.stored (λ_ _ e=>e) (cw.mono (λ_ _ r=>K.rep r) g) (us G) k (K.rep T)⟩) _) (by rw[<-a0.length g];exact gI Y)
 |u k=>
  obtain⟨es,J,e⟩:=a9 (x:=qQ d) e;obtain⟨Y,e⟩:=bN e;obtain⟨kvs,H,q,G,g⟩:=C4 J C;obtain⟨t,ex⟩:=y;rw[ex];exact wpAny_setItem_pairs (tE _ _ _ _) G (λh' I N=>fin e H nofun N (λbD aF K=>⟨q,_,I,cw.stored (λ_ _ e=>mN e) (cw.mono (λ_ _ r=>K.rep r) g) (us G) k (K.rep T)⟩) _) (by rw[<-a0.length g];exact gI Y)
 |p k=>
  obtain⟨U,e⟩:=bN (p:=V.keys k=true) e;obtain⟨es,J,e⟩:=a9 (x:=qR d) e;obtain⟨Y,e⟩:=bN e;obtain⟨kvs,H,q,G,g⟩:=C5 J C;obtain⟨a,ex,hi⟩:=C6 (X:=X) U y;rw[ex];exact wpAny_setItem_heap (knd:=jX X.a X.w) hA.tupK hi G (λh' I N=>fin e H nofun N (λbD aF K=>⟨q,_,I,gk.stored (gk.mono (λ_ _ r=>K.rep r) g) (NS G) k a (K.rep T)⟩) _) (by rw[<-a0.length g];exact gI Y)
 |_=>exact bl e
def NU(R:SR X σ μ s.heap)(L:fS n A)(g:aq s.heap (au σ μ) μ o x)(N:aq s.heap (au σ μ) μ i y)(T:aq s.heap (au σ μ) μ v z)
  (e:lj o i v σ=some (u,aw)) (c:lu X s σ μ aw Q):wpAny (model X.a X.w) A (setItem x y z) Q E s:=by
 obtain⟨r,C,e⟩:=a9 e;obtain⟨d,Y,e⟩:=a9 e;rw[ul C]at g;obtain⟨m,hm,ex⟩:=g;rw[ex];rcases li e with h |h
 .obtain⟨l,hl,e⟩:=h
  obtain⟨k,U,e⟩:=a9 e;obtain⟨h0,e⟩:=bN e;obtain⟨j,f,e⟩:=cD e;have c:=lu.of (aE some e) c;rw[jn hl]at Y;rw[jm U]at N;obtain⟨t,ey⟩:=N;have I:=C2 f;obtain⟨q,vs,J,H,ra⟩:=R.g r _ m Y hm;have a:=I.b h0;rw[ey];refine NQ H h0 I.a (by have:=I.e;rw[iP ra]at this;exact "~4C4HOm|SZ?CvcP=f=hid^A_lcQjFp?^5" oe a this) ?_;obtain⟨G,w⟩:=Dj H (·.setIfInBounds k.toNat z);obtain⟨a1,B⟩:=R.NR (l':=l.set j v) Y hm (Heap.SameBut.update ..) w (by rw[J8,<-a];exact ra.set j T);exact c _ a1 B ⟨rfl,rfl⟩
 .obtain⟨d',p,e⟩:=cD h.2
  exact NT R L Y hm p N T (lu.of (aE some e) c)
def oA(R:SR X σ μ s.heap)(r:aq s.heap (au σ μ) μ v x)(e:iN σ v=some b)(c:∀t,Q b {s with toks:=t}):
  wpAny (model X.a X.w) A (truthy x) Q E s:=by
 have seq:((bt σ v).bind λp=>bq (p.2.length < bs) (some (!p.2.isEmpty)))=some b->wpAny (model X.a X.w) A (truthy x) Q E s:=λe=>by
  obtain⟨p,N,e⟩:=a9 e;obtain⟨Y,e⟩:=bN e;obtain⟨a,vs,n,ex,G,ra⟩:=jZ R N r;have y:=iP ra;have f:(vs.size:Int) < 2 ^ 63:=by rw[<-y];exact Int.lt_trans (Int.ofNat_lt.mpr Y) (by decide)
  have hi:(!vs.isEmpty)=b:=by
   rw[<-ay e];show(!decide (vs.size=0))=_;rw[<-y];cases p.2 <;>rfl
  rw[ex];generalize U:p.1=T
  induction T using aS with
  |true=>rw[U]at G;exact wpAny_truthy_list ⟨_,G,rfl,n,rfl⟩ f (by rw[hi];exact c _)|false=>rw[U]at G;exact truthy_tuple ⟨_,G,rfl,n,rfl⟩ f (by rw[hi];exact c _)
 induction v using Mine.Lake.V.casesOn with
 |z=>rw[show x=.none from r];exact truthy_none (ay e▸c _)|w L=>rw[show x=.bool L from r];exact wpAny_truthy_bool (ay e▸c _)|j i=>obtain⟨t,ex⟩:=r;rw[ex];exact PySem.P.truthy_int (ay e▸c _)|u _=>exact bl e|p l=>exact seq e|r l=>exact seq e|o i=>exact seq e
end
section
variable{A:Around}{E:Value->Shared->Prop}{s:Shared}{σ:St}{μ:Mu}
abbrev oB(it:Addr)(h h':Heap):Prop:=(∀b o,b≠it->h.get? b=some o->h'.get? b=some o)/\∃o,h'.get? it=some o
def xZ{M:Model}(j:A.handled=none)
  (c:∀x h',(∀b o,s.heap.get? b=some o->h'.get? b=some o)->(∀t,Shared.TypeIs {s with heap:=h',toks:=t} x "StopIteration")->E x {s with heap:=h'}):
  wpAny M A (Builtin.SmallTypes.stopIteration:Sem α) Q E s:=by
 show wpAny _ _ (newExc (.type "StopIteration") []>>=λe=>raiseNew e) _ _ _;simp only[newExc,newTuple];refine aj (aj (xa ?_ (by size_fits)));refine aj (m:=firstArgMember _ _) (ms (a:=Value.none) (by first |rfl |(simp only[firstArgMember];rfl)) ?_);refine xa ?_ (by size_fits);simp only[raiseNew];refine aj (wpAny_handled ?_);rw[j];refine aj (aG (wpAny_throw ?_));exact c _ _ (λb o e=>gf _ (gf _ e)) λt=>⟨_,iE _ rfl,rfl⟩
def Dk{w:World}{items:Array Value}(j:A.handled=none)
  (N:s.heap.IsListIter it l i) (L:s.heap.IsList l items) (H:items[i]?=none)
  (a:∀h',oB it s.heap h'->Q none {s with heap:=h'}):wpAny (model prog w) A (pyNext (.ref it)) Q E s:=by
 obtain⟨o,ho,I,Y⟩:=id N;obtain⟨g,f,_,c,u⟩:=L;unfold pyNext;refine aj (BX (w_ (name:=Str.ofString "__next__") N.typeIs slot_listiter_next
  (n5 slot_listiter_next N.typeIs entry_listiter_next ?_ (args_listiter_next _))))
 show wpAny _ _ (field (.ref it) 0>>=_) _ _ s;refine aj (kP ho Y (x:=.ref l) rfl ?_);refine aj (kP ho Y (x:=.int i 0) rfl ?_);refine aj (wpAny_seqItems f u ?_);simp only[Int.toNat_natCast,H];refine aj (gU (aj (wpAny_setField ho Y (by simp) (xZ j λx h' U m=>?_))));refine aj (BN (T:= "StopIteration") (b:=true) (m _) isSubtype_stop ?_);exact aG (a _ ⟨λb o J e=>U b o ((xe _ _ _ _ J).trans e),_,U _ _ (xd _ ho (Obj.isFreed_of_fields (Obj.data_mapFields Y _)))⟩)
def NV{w:World}{items:Array Value}(j:A.handled=none)
  (N:s.heap.IsTupleIter it l i) (L:s.heap.IsTuple l items) (H:items[i]?=none)
  (a:∀h',oB it s.heap h'->Q none {s with heap:=h'}):wpAny (model prog w) A (pyNext (.ref it)) Q E s:=by
 obtain⟨o,ho,I,Y⟩:=id N;obtain⟨g,f,_,c,u⟩:=L;unfold pyNext;refine aj (BX (w_ (name:=Str.ofString "__next__") N.typeIs F.slot_tuple_iterator_next
  (n5 F.slot_tuple_iterator_next N.typeIs F.entry_tuple_iterator_next ?_ (F.args_tuple_iterator_next_1 _))))
 show wpAny _ _ (field (.ref it) 0>>=_) _ _ s;refine aj (kP ho Y (x:=.ref l) rfl ?_);refine aj (kP ho Y (x:=.int i 0) rfl ?_);refine aj (wpAny_seqItems f u ?_);simp only[Int.toNat_natCast,H];refine aj (gU (aj (wpAny_setField ho Y (by simp) (xZ j λx h' U m=>?_))));refine aj (BN (T:= "StopIteration") (b:=true) (m _) isSubtype_stop ?_);exact aG (a _ ⟨λb o J e=>U b o ((xe _ _ _ _ J).trans e),_,U _ _ (xd _ ho (Obj.isFreed_of_fields (Obj.data_mapFields Y _)))⟩)
def NW{w:World}{step:Int}(j:A.handled=none)(N:IsRangeIter s.heap it x left step)(c:left<=0)
  (a:∀h',oB it s.heap h'->Q none {s with heap:=h'}):wpAny (model prog w) A (pyNext (.ref it)) Q E s:=by
 have m:s.TypeIs (.ref it) "range_iterator" :=⟨_,N,rfl⟩;unfold pyNext;refine aj (BX (w_ (name:=Str.ofString "__next__") m F.slot_range_iterator_next
  (n5 F.slot_range_iterator_next m F.entry_range_iterator_next ?_ (F.args_range_iterator_next_1 _))))
 show wpAny _ _ (field (.ref it) 0>>=_) _ _ s;refine aj (kP N rfl (x:=rawInt x) rfl ?_);refine aj (kP N rfl (x:=rawInt left) rfl ?_);refine aj (kP N rfl (x:=rawInt step) rfl ?_);show wpAny _ _ (if left<=0 then _ else _) _ _ s;rw[ah c];refine aj (gU (aj (xZ j λx h' U m=>?_)));refine aj (BN (T:= "StopIteration") (b:=true) (m _) isSubtype_stop ?_);exact aG (a _ ⟨λb o Y e=>U b o e,_,U _ _ N⟩)
end
inductive b8 where
 |d (l:List V) (a:Addr) |g (l:List V) (a:Addr) |c (i:Nat) (l:List V) (m:Addr×Addr) |f (n:Nat)
abbrev b8.items:b8->List V
 |.d l _=>l|.g l _=>l|.c _ l _=>l|.f n=>(List.range n).map λ(k:Nat)=>V.j (k:Int)
abbrev b8.guard:b8->Option (Nat×List V)
 |.c i l _=>some (i,l)|_=>none
abbrev b8.At(h:Heap)(I:Addr)(k:Nat):b8->Prop
 |.d _ a=>h.IsTupleIter I a k|.g _ a=>h.IsListIter I a k|.c _ _ m=>h.IsListIter I m.1 k|.f n=>IsRangeIter h I k ((n:Int) - k) 1
abbrev b8.Ok(h:Heap)(σ:St)(μ:Mu):b8->Prop
 |.d l a=>aq h (au σ μ) μ (.p l) (.ref a)|.g l a=>aq h (au σ μ) μ (.r l) (.ref a)|.c i l m=>μ[i]?=some m/\σ[i]?=some (.a l)|.f _=>True
def b8.At.at_{src:b8}(x:src.At h I k)(e:∀o,h.get? I=some o->h'.get? I=some o):src.At h' I k:=by
 induction src using Mine.Lake.S.b8.casesOn with
 |d l a=>obtain⟨o,ho,r⟩:=x;exact⟨o,e o ho,r⟩|g l a=>obtain⟨o,ho,r⟩:=x;exact⟨o,e o ho,r⟩|c i l m=>obtain⟨o,ho,r⟩:=x;exact⟨o,e o ho,r⟩|f n=>exact e _ x
def b8.At.live{src:b8}(x:src.At h I k):∃o,h.get? I=some o/\∀t vs n,o≠cb t vs n:=by
 have no:∀{o:Obj} {xs},o.data=.fields xs->∀t vs n,o≠cb t vs n:=λY t vs n e=>nomatch Y.symm.trans (aE Obj.data e)
 induction src using Mine.Lake.S.b8.casesOn with
 |d l a=>obtain⟨o,ho,_,Y⟩:=x;exact⟨o,ho,no Y⟩|g l a=>obtain⟨o,ho,_,Y⟩:=x;exact⟨o,ho,no Y⟩|c i l m=>obtain⟨o,ho,_,Y⟩:=x;exact⟨o,ho,no Y⟩|f n=>exact⟨_,x,no rfl⟩
def b8.Ok.ext{src:b8}(o:src.Ok h σ μ)(R:SR X σ μ h)(a:bf h σ μ h' σ μ Z)(hz:cF h Z):src.Ok h' σ μ:=by
 induction src using Mine.Lake.S.b8.casesOn with
 |d l b=>exact aq.ext o R a hz|g l b=>exact aq.ext o R a hz|c i l m=>exact o|f n=>trivial
def b8.XW{src:b8}(o:src.Ok h σ μ)(R:SR X σ μ h)(a:bf h σ μ h' aw aF Z)(hz:cF h Z)(e:ln src.guard aw=some (u,j)):
  src.Ok h' aw aF/\j=aw:=by
 have s:∀{x:Unit},some (x,aw)=some (u,j)->j=aw:=λe=>(aE Prod.snd (ay e)).symm
 induction src using Mine.Lake.S.b8.casesOn with
 |d l b=>exact⟨aq.ext o R a hz,s e⟩|g l b=>exact⟨aq.ext o R a hz,s e⟩|f n=>exact⟨trivial,s e⟩|c i l m=>
  obtain⟨ob,ho,e⟩:=a9 (x:=aw[i]?) e;obtain⟨l',Y,e⟩:=a9 e;obtain⟨T,e⟩:=bN e;rw[jn Y]at ho;exact⟨⟨a.d _ _ o.1,(V.xC l l').mp T▸ho⟩,s e⟩
section
variable{A:Around}{E:Value->Shared->Prop}{s:Shared}{σ:St}{μ:Mu}
def oC(R:SR X σ μ h)(T:X.b.get? it=none)(ho:¬ au σ μ it)(u:∀t vs n,h.get? it≠some (cb t vs n))(g:oB it h h'):
  SR X σ μ h'/\bf h σ μ h' σ μ (λa=>a=it):=
 R.frame (λa o e na=>g.1 a o na e) (λa G=>G▸⟨ho,T⟩) (λa G t vs n=>G▸u t vs n) λa o e=>by
  by_cases q:a=it
  .exact q▸g.2
  .exact⟨o,g.1 a o q e⟩
def x0{src:b8}{v:V}(R:SR X σ μ s.heap)(L:src.At s.heap I k)(ok:src.Ok s.heap σ μ)(T:X.b.get? I=none)(ho:¬ au σ μ I)
  (B:src.items[k]?=some v) (c:∀h' t x,SR X σ μ h'->bf s.heap σ μ h' σ μ (λa=>a=I)->src.At h' I (k+1)->aq h' (au σ μ) μ v x->Q (some x) {s with heap:=h',toks:=t}):
  wpAny (model X.a X.w) A (pyNext (.ref I)) Q E s:=by
 have z:∀t vs n,s.heap.get? I≠some (cb t vs n):=λt vs n e=>by
  obtain⟨o,h1,h2⟩:=L.live;exact h2 t vs n (ay (h1.symm.trans e))
 have grow:∀{h'},Heap.SameBut I s.heap h'->(∃o,h'.get? I=some o)->oB I s.heap h':=λN l=>⟨λb o T e=>(N.2 b T).trans e,l⟩;have h:cF s.heap λa=>a=I:=λa G t vs n=>G▸z t vs n
 induction src using Mine.Lake.S.b8.casesOn with
 |d l a=>
  obtain⟨_,vs,n,e,G,_,ra⟩:=aq.eK ok;injection e with e
  rw[<-e]at G;obtain⟨x,H,rx⟩:=ra.get B;rw[eI]at H;refine wpAny_pyNext_tuple_item L ⟨_,G,rfl,n,rfl⟩ H λh' r N=>?_;obtain⟨R',E'⟩:=oC R T ho z (grow N (r.imp λJ q=>q.1));exact c h' s.toks x R' E' r (rx.ext R E' h)
 |g l a=>
  obtain⟨_,vs,n,e,G,_,ra⟩:=aq.jV ok;injection e with e
  rw[<-e]at G;obtain⟨x,H,rx⟩:=ra.get B;rw[eI]at H;refine wpAny_pyNext_list_item L ⟨_,G,rfl,n,rfl⟩ H λh' r N=>?_;obtain⟨R',E'⟩:=oC R T ho z (grow N (r.imp λJ q=>q.1));exact c h' s.toks x R' E' r (rx.ext R E' h)
 |c i l m=>
  obtain⟨hm,Y⟩:=ok;obtain⟨_,vs,n,G,ra⟩:=R.g i _ m Y hm;obtain⟨x,H,rx⟩:=ra.get B;rw[eI]at H;refine wpAny_pyNext_list_item L ⟨_,G,rfl,n,rfl⟩ H λh' r N=>?_;obtain⟨R',E'⟩:=oC R T ho z (grow N (r.imp λJ q=>q.1));exact c h' s.toks x R' E' r (rx.ext R E' h)
 |f n=>
  have B:((List.range n).map λ(k:Nat)=>V.j (k:Int))[k]?=some v:=B;have U:=jY B;rw[bX,List.length_range]at U;rw[n1,List.getElem?_range U]at B;rw[<-ay B]at c;refine wpAny_pyNext_range_item L ("~KslL49ddI<SJ" U) λh' r N=>?_;obtain⟨R',E'⟩:=oC R T ho z (grow N ⟨_,r⟩);refine c h' _ _ R' E' ?_ (.int _ _);show IsRangeIter h' I ((k+1:Nat):Int) ((n:Int) - (k+1:Nat)) 1;have e:(n:Int) - (k+1:Nat)=(n:Int) - k - 1:= "~18oJxAbowKFTr2Vq" id;rw[e];exact r
def x1{src:b8}{Q:Option Value->Shared->Prop}(j:A.handled=none)(R:SR X σ μ s.heap)(L:src.At s.heap I k)(ok:src.Ok s.heap σ μ)(T:X.b.get? I=none)(ho:¬ au σ μ I)
  (B:src.items.length<=k) (c:∀h' t,SR X σ μ h'->bf s.heap σ μ h' σ μ (λa=>a=I)->Q none {s with heap:=h',toks:=t}):
  wpAny (model X.a X.w) A (pyNext (.ref I)) Q E s:=by
 have z:∀t vs n,s.heap.get? I≠some (cb t vs n):=λt vs n e=>by
  obtain⟨o,h1,h2⟩:=L.live;exact h2 t vs n (ay (h1.symm.trans e))
 have fin:∀h',oB I s.heap h'->Q none {s with heap:=h'}:=λh' g=>c h' s.toks (oC R T ho z g).1 (oC R T ho z g).2;have J:∀{l:List V} {vs:Array Value} {h} {ω} {μ},b7 h ω μ l vs.toList->l.length<=k->vs[k]?=none:=λ{l vs h ω μ} r Y=>by
  exact Array.getElem?_eq_none (iP r▸Y)
 induction src using Mine.Lake.S.b8.casesOn with
 |d l a=>
  obtain⟨_,vs,n,e,G,_,ra⟩:=aq.eK ok;injection e with e
  exact NV j L ⟨_,e▸G,rfl,n,rfl⟩ (J ra B) fin
 |g l a=>
  obtain⟨_,vs,n,e,G,_,ra⟩:=aq.jV ok;injection e with e
  exact Dk j L ⟨_,e▸G,rfl,n,rfl⟩ (J ra B) fin
 |c i l m=>
  obtain⟨hm,Y⟩:=ok;obtain⟨_,vs,n,G,ra⟩:=R.g i _ m Y hm;exact Dk j L ⟨_,G,rfl,n,rfl⟩ (J ra B) fin
 |f n=>
  have B:((List.range n).map λ(k:Nat)=>V.j (k:Int)).length<=k:=B;rw[bX,List.length_range]at B;exact NW j L ("~Pxy19LkJl4" B) fin
abbrev Dl(X:dj)(s:Shared)(x:Value)(src:b8):Prop:=
 ∀(A:Around) (E K:Value->Shared->Prop),(∀o,src.At (s.heap.push o) s.heap.objs.size 0->K (.ref s.heap.objs.size) {s with heap:=s.heap.push o})->wpAny (model X.a X.w) A (pyIter x) K E s
def Dm(R:SR X σ μ s.heap)(r:aq s.heap (au σ μ) μ v x)(e:lm v σ=some p):
  ∃src:b8,p=((src.guard,src.items),σ)/\src.Ok s.heap σ μ/\Dl X s x src:=by
 obtain⟨q,L,e⟩:=a9 e;obtain⟨Y,e⟩:=bN e
 induction v using Mine.Lake.V.casesOn with
 |o i=>
  obtain⟨m,hm,ex⟩:=r;obtain⟨o,ho,e1⟩:=a9 (x:=σ[i]?) L;obtain⟨l,Y,w⟩:=cD e1;rw[jn Y]at ho;rw[<-w]at e;obtain⟨_,vs,n,G,ra⟩:=R.g i _ m ho hm;rw[ex];exact⟨.c i l m,(ay e).symm,⟨hm,ho⟩,λA E K c=>wpAny_pyIter_list ⟨_,G,rfl,n,rfl⟩ (c _ ⟨_,iE _ rfl,rfl,rfl⟩)⟩
 |p l=>
  rw[<-ay L]at e;obtain⟨a,vs,n,ex,G,_,ra⟩:=r.eK;rw[ex]at r ⊢;exact⟨.d l a,(ay e).symm,r,λA E K c=>wpAny_pyIter_tuple ⟨_,G,rfl,n,rfl⟩ (c _ ⟨_,iE _ rfl,rfl,rfl⟩)⟩
 |r l=>
  rw[<-ay L]at e;obtain⟨a,vs,n,ex,G,_,ra⟩:=r.jV;rw[ex]at r ⊢;exact⟨.g l a,(ay e).symm,r,λA E K c=>wpAny_pyIter_list ⟨_,G,rfl,n,rfl⟩ (c _ ⟨_,iE _ rfl,rfl,rfl⟩)⟩
 |_=>exact bl L
end
section
variable{A:Around}{E:Value->Shared->Prop}{s:Shared}{σ:St}{μ:Mu}
def x3(h:n < bs):(n:Int) < 2 ^ 63:=Int.lt_trans (Int.ofNat_lt.mpr h) (by decide)
def rb(low:∃o,X.b.get? sysModules=some o)(R:SR X σ μ h){i:Nat}(hm:μ[i]?=some m):(m.1==sysModules)=false:=
 cB.mpr λq=>by
  obtain⟨o,ho⟩:=low;exact bl ((R.p i m hm).1.symm.trans (q▸ho))
def SR.grow(R:SR X σ μ h)(U:∀b o,h.get? b=some o->h'.get? b=some o):SR X σ μ h'/\bf h σ μ h' σ μ No:=
 R.frame (λa o e J=>U a o e) (λJ f=>f.elim) (cF.no h) λa o e=>⟨o,U a o e⟩
def NX{r:V}(low:∃o,X.b.get? sysModules=some o)(R:SR X σ μ s.heap)(rx:aq s.heap (au σ μ) μ v x)
  (e:b1 .a v σ=some (r,aw)) (c:cy X s σ μ aw r Q):wpAny (model X.a X.w) A (call (.builtin "len") [x]) Q E s:=by
 rcases li (x:=bt σ v) e with h |h
 .obtain⟨p,N,e⟩:=h
  obtain⟨Y,e⟩:=bN e;obtain⟨a,vs,n,ex,G,ra⟩:=jZ R N rx;have c:=c.of e;rw[iP ra]at c Y;rw[ex];generalize U:p.1=T
  induction T using aS with
  |true=>rw[U]at G;exact PySem.Calls.call_len_list ⟨_,G,rfl,n,rfl⟩ (x3 Y) (c.here R (.int _ _) _)|false=>rw[U]at G;exact PySem.P.len_tuple G (BR.mpr (x3 Y)) (c.here R (.int _ _) _)
 .obtain⟨o,ho,e⟩:=a9 h.2
  obtain⟨es,J,e⟩:=a9 e;obtain⟨Y,e⟩:=bN e;obtain⟨i,m,_,hi,hm,ex,C⟩:=j0 R ho rx;obtain⟨kvs,_,_,L,U⟩:=lr J C;have c:=c.of e;rw[a0.length U]at c Y;rw[ex];exact call_len_dict (rb low R hm) L (x3 Y) (c.here R (.int _ _) _)
def NY(R:SR X σ μ s.heap)(rx:aq s.heap (au σ μ) μ v x)
  (e:b1 .b v σ=some (r,aw)) (c:cy X s σ μ aw r Q):wpAny (model X.a X.w) A (call (.type "tuple") [x]) Q E s:=by
 obtain⟨p,N,e⟩:=a9 (x:=bt σ v) e;obtain⟨Y,e⟩:=bN e;obtain⟨a,vs,n,ex,G,ra⟩:=jZ R N rx;rw[Y.1]at G;rw[ex];refine call_tuple_list ⟨_,G,rfl,n,rfl⟩ (hsz:=gI (iP ra▸Y.2)) λh' U=>?_;obtain⟨I,z⟩:=R.grow U;exact((c.of e).after (s₁:={s with heap:=h'}) z ⟨rfl,rfl⟩).ow (v:=.p p.2) "tuple" I (.inl ⟨rfl,rfl⟩) (ra.ext R z (cF.no _)) _
def NZ{h:Heap}(d:h.DictOf (intKind prog w) a []):∃n,h.get? a=some (ug n):=by
 obtain⟨o,es,ep,ho,⟨h1,h2,h3⟩,Y,j,J,u⟩:=d;have h0:es.toList=[]:=by
  have:=J.length;exact xc.mp (by simpa using this)
 obtain rfl:es=#[]:=by simpa using h0
 obtain⟨i,f,t,B⟩:=o;simp only at h1 h2 h3 Y;subst h1 h2 h3 Y;exact⟨ep,ho⟩
def N1{r:V}(low:∃o,X.b.get? sysModules=some o)(R:SR X σ μ s.heap)(rx:aq s.heap (au σ μ) μ v x)
  (e:b1 .d v σ=some (r,aw)) (c:cy X s σ μ aw r Q):wpAny (model X.a X.w) A (call (.type "dict") [x]) Q E s:=by
 obtain⟨o,ho,e⟩:=a9 (x:=eW σ v) e;obtain⟨es,J,e⟩:=a9 e;obtain⟨Y,e⟩:=bN e;obtain⟨i,m,_,hi,hm,ex,C⟩:=j0 R ho rx;obtain⟨kvs,H,_,T,U⟩:=lr J C;have c:=c.of e;rw[ex];refine kt_call_dict (rb low R hm) T (gI (by rw[<-a0.length U];exact Y)) λh' p N=>?_;obtain⟨I,z⟩:=R.alloc (h':=h') (o:=o) (m:=(s.heap.objs.size,s.heap.objs.size)) (λa ob e=>(N.2 a (n9 (jd e))).trans (gf _ e)) H (fT _) (fT _) λbD aF K=>by
  induction o using Mine.Lake.O.casesOn with
  |b=>
   rw[<-ay J]at U;rw[show kvs=[]from U]at p;exact⟨rfl,NZ p⟩
  |f t=>rw[<-ay J]at U;exact⟨rfl,kvs,p,cw.mono (λG G q=>K.rep q) U⟩|_=>exact bl J
 exact c _ _ _ I z (.ref (m:=(s.heap.objs.size,s.heap.objs.size)) (by rw[<-R.s,XJ])) ⟨rfl,rfl⟩
def N2{src:b8}(j:A.handled=none)(T:X.b.get? I=none):∀(rest:List V) (k:Nat) (b:Bool) (s:Shared),src.items.drop k=rest->qV σ rest=some b->SR X σ μ s.heap->¬ au σ μ I->src.At s.heap I k->src.Ok s.heap σ μ->
  bf h₀ σ μ s.heap σ μ (λa=>a=I)->
  (∀h' t,SR X σ μ h'->bf h₀ σ μ h' σ μ (λa=>a=I)->R (.ok (.ret (.bool b))) {s with heap:=h',toks:=t})->
  codeAny (model X.a X.w) A (.builtin "any.loop" ⟨[.ref I],[]⟩) R s:=by
 intro rest
 induction rest with
 |nil=>
  intro k b s Y H m i L ok N c;rw[<-ay H]at c;refine codeAny_builtin PySem.F.entry_any_loop ?_;rw[Around.under_plainId BY _];show wpAny _ A.in1 (pyNext (.ref I)>>=_) _ _ s;refine aj (x1 (A:=A.in1) j m L ok T i (by simpa using Y) λh' t Q z=>?_);exact aj (gU (aG (c h' t Q (N.trans z))))
 |cons v rest ih=>
  intro k b s Y H m i L ok N c;obtain⟨b1,f,e⟩:=a9 H;obtain⟨g,C,e⟩:=cD e;rw[<-e]at c;have U:src.items[k]?=some v:=by
   have:=aE (λl=>l[0]?) Y;rw[tI]at this;exact this
  have p:src.items.drop (k+1)=rest:=by
   have:=aE List.tail Y;rw[List.tail_drop]at this;exact this
  refine codeAny_builtin PySem.F.entry_any_loop ?_;rw[Around.under_plainId BY _];show wpAny _ A.in1 (pyNext (.ref I)>>=_) _ _ s;refine aj (x0 (A:=A.in1) m L ok T i U λh' t x Q z r rx=>?_);have y:cF s.heap λa=>a=I:=λa G t vs n e=>by
   obtain⟨o,h1,h2⟩:=L.live;exact h2 t vs n (ay (h1.symm.trans (G▸e)))
  refine aj (dm (oA (s:={s with heap:=h',toks:=t}) Q rx f λw=>?_));refine aj (wpAny_letGo ?_)
  induction b1 using aS with
  |false=>
   rw[ab dV];have B:=ok.ext m z y;refine aG ⟨plainId_quiet BY _,ih (k+1) g _ p C Q i r B (N.trans z) λu J q h=>?_⟩;have:=c u J q h;rw[Bool.false_or]at this;exact this
  |true=>
   rw[ah rfl];exact aj (gU (aG (c h' _ Q (N.trans z))))
def N3(j:fS n A)(R:SR X σ μ s.heap)(rx:aq s.heap (au σ μ) μ v x)
  (e:b1 .e v σ=some (r,aw)) (c:cy X s σ μ aw r Q):wpAny (model X.a X.w) A (call (.builtin "any") [x]) Q E s:=by
 obtain⟨p,U,e⟩:=a9 (x:=bt σ v) e;obtain⟨Y,e⟩:=bN e;obtain⟨b,T,e⟩:=cD e;have c:=cy.of (aE some e) c;obtain⟨src,J,ok,g⟩:=Dm R rx (bg U (dr Y.2));have N:src.items=p.2:=(aE (·.1.2) J).symm;refine call_function_tree PySem.F.kind_any PySem.F.plain_any PySem.F.entry_any (PySem.F.args_any1 _) ?_;unfold Builtin.«any»;refine aj (m:=oneArg "any" _) (aG ?_);refine aj (g A.in1 E _ λo k=>?_);have i:=R.ou (fT s.heap);obtain⟨I,z⟩:=R.push o;refine aG ⟨plainId_quiet BY _,N2 (h₀:=s.heap) j.b (R.lq (fT _)) p.2 0 b _ N T I i k (ok.ext R z (cF.no _)) (z.weaken λH f=>f.elim) λh' t q h=>?_⟩;exact c {s with heap:=h',toks:=t} μ _ q (h.shrink λa G=>.inr (G▸fT _)) (.bool _) ⟨rfl,rfl⟩
def N4(R:SR X σ μ s.heap)(rx:aq s.heap (au σ μ) μ v x)
  (e:t_ v=some b) (c:cy X s σ μ σ (.w b) Q):wpAny (model X.a X.w) A (call (.builtin "isinstance") [x,.type "str"]) Q E s:=by
 induction v using Mine.Lake.V.casesOn with
 |j i=>obtain⟨t,ex⟩:=rx;rw[ex];rw[<-ay e]at c;exact PySem.IsiPair.int_str (c.here R (.bool _) _)|u i=>obtain⟨t,ex⟩:=rx;rw[ex];rw[<-ay e]at c;exact PySem.IsiPair.str_str (c.here R (.bool _) _)|_=>exact bl e
end
def N5{K:Type}[DecidableEq K](kvs:List (K×Value))(k:K)(x:Value)(u:(kvs.map (·.1)).Nodup):((stored kvs k x).map (·.1)).Nodup:=by
 unfold stored
 split
 .have:(kvs.map λkv=>if kv.1=k then(kv.1,x)else kv).map (·.1)=kvs.map (·.1):=by
   rw[qk];apply xf;intro a _;simp only[Function.comp];split <;>rfl
  rw[this];exact u
 .rename_i h
  rw[kQ,BZ];refine⟨u,by simp,λa G b T=>?_⟩;simp at T;subst T;rintro rfl;obtain⟨kv,h1,h2⟩:=ea.mp G;exact h (qj.mpr ⟨kv,h1,by simpa using h2⟩)
def x4{α:Type}[DecidableEq α][DecidableEq β]{f:α->β}(inj:∀a b,f a=f b->a=b){t:List (α×V)}(r':cw f R t Y):∀{es:List (α×V)} {kvs:List (β×Value)},cw f R es kvs->(kvs.map (·.1)).Nodup->cw f R (iO es t) (merged kvs Y):=by
 intro es kvs;refine a0.ind (λ(t:List (α×V)) (Y:List (β×Value))=>∀es kvs,cw f R es kvs->(kvs.map (·.1)).Nodup->cw f R (iO es t) (merged kvs Y)) (λJ J r J=>r) (λp q J J h J ih es kvs r u=>?_) r' es kvs;obtain⟨a,v⟩:=p;obtain⟨b,x⟩:=q;have T:b=f a:=h.1;rw[T];exact ih _ _ (cw.stored inj r u a h.2) (N5 kvs _ x u)
section
variable{A:Around}{E:Value->Shared->Prop}{s:Shared}{σ:St}{μ:Mu}
def N6(R:SR X σ μ s.heap)(rx:aq s.heap (au σ μ) μ v x)(e:hO v σ=some (r,aw)):
  SR X aw μ s.heap/\bf s.heap σ μ s.heap aw μ No/\aq s.heap (au aw μ) μ r x:=by
 have e:(mK σ v).elim (v,σ) (λp=>(V.r p.2,σ.set p.1 .d))=(r,aw):=ay e;generalize h:mK σ v=U
 induction U using aX with
 |none=>
  rw[h]at e;rw[<-show _=r from aE Prod.fst e,<-show _=aw from aE Prod.snd e];exact⟨R,bf.refl ..,rx⟩
 |some p=>
  rw[h]at e;rw[<-show _=r from aE Prod.fst e,<-show _=aw from aE Prod.snd e];obtain⟨i,hi,h⟩:=a9 h;obtain⟨o,ho,h⟩:=a9 h;obtain⟨l,Y,h⟩:=cD h;rw[jn Y]at ho;rw[ul hi]at rx;obtain⟨m,hm,ex⟩:=rx;rw[ex,<-h];exact R.freeze ho hm
end
structure dN where
 a:mR
 b:List (Str×NameKind)
structure eY(env:Env)(c:dN):Prop where
 a:env.scope.kind=.function
 f:env.globals=mainGlobals
 g:env.builtins=builtinsNs
 j:env.scope.names=c.b
 d:∀x i b,(x,i,b)∈c.a->c.b.lookup x=some (if b then .cell else .local)
 inj:∀e∈c.a,∀e'∈c.a,e.1=e'.1\/e.2.1=e'.2.1->e=e'
def eY.kindOf(h:eY env c)(x:Str):env.kindOf x=c.b.lookup x:=by unfold Env.kindOf;rw[h.j]
inductive GV where
 |e (i:Int) |h (l:List V) |g (f:FN) |j (c:CN) |b (id:String) |a (t:String) |d
@[inline]abbrev jo:=List (Str×GV)
structure re(X:dj)(G:jo):Prop where
 d:X.K.In X.b
 e:∃o,X.b.get? sysModules=some o
 p:X.b.Ns mainGlobals X.d
 r:X.b.Ns builtinsNs X.f
 u:X.b.NoLimit
 h:∀c a,dM c a=false->q_ X.K (X.c c) (Str.ofString (AN.name a))=true
 n:∀f,keepIn X.K (.ref (X.e f))=true
 v:∀c,keepIn X.K (.ref (X.c c))=true
 s:∀c,makesIn X.K (X.c c)=true
 j:∀f,typeIn X.K (.ref (X.e f))=some (.type "function")
 y:∀c,findIn X.K (.ref (X.c c)) "__init__" =some (some (.ref (X.e (qO c))))
 q:∀c m f,tY c m=some f->findIn X.K (.ref (X.c c)) "__getattribute__" =some (some (.builtin "object.__getattribute__"))/\findIn X.K (.ref (X.c c)) "__getattr__" =some none/\
  findIn X.K (.ref (X.c c)) (Str.ofString m.name)=some (some (.ref (X.e f)))
 z:∀(m:MN) (a:AN),m.name≠a.name
 b:∀x g,G.lookup x=some g->match g with
  |.e i=>∃t,X.d x=some (.int i t)|.h l=>∃a,X.d x=some (.ref a)/\cU X.b (.p l) (.ref a)|.g f=>X.d x=some (.ref (X.e f))|.j c=>X.d x=some (.ref (X.c c))|.b id=>X.d x=none/\X.f x=some (.builtin id)|.a t=>X.d x=none/\X.f x=some (.type t)|.d=>∃a f,X.d x=some (.ref a)/\(a==sysModules)=false/\X.b.MapOf (intKind X.a X.w) a f/\∀k,(f k).isSome=xK.contains k
section
variable{A:Around}{E:Value->Shared->Prop}{s:Shared}{σ:St}{μ:Mu}{G:jo}
def FR.N7(F:FR X env vs ρ σ μ s.heap)(H:(x,i,false)∈vs)(B:ρ[i]?=some (some v)):
  ∃m y,s.heap.Ns env.locals m/\m x=some y/\aq s.heap (au σ μ) μ v y:=by
 obtain⟨m,hm,h⟩:=F.k;obtain⟨y,h1,h2⟩:=h x i H v B;exact⟨m,y,hm,h1,h2⟩
def N8(t:eY env c)(F:FR X env c.a ρ σ μ s.heap)(R:SR X σ μ s.heap)
  (H:(x,i,b)∈c.a) (Y:(x==Str.ofString "__debug__")=false) (B:ρ[i]?=some (some v)) (k:cy X s σ μ σ v Q):wpAny (model X.a X.w) A (eval (.Name x pos) env) Q E s:=by
 have U:=t.d x i b H;rw[<-t.kindOf]at U;refine wpAny_Name ?_ Y
 induction b using aS with
 |false=>
  obtain⟨m,y,h1,h2,h3⟩:=F.N7 H B;exact wpAny_loadName_local t.a U h1 h2 (k.here R h3 _)
 |true=>
  obtain⟨a,ov,h1,h2,h3⟩:=F.g x i H;obtain⟨y,h4,h5⟩:=h3 v B;subst h4;exact wpAny_loadName_cell t.a U h1 h2 (k.here R h5 _)
def N9(S:re X G)(t:eY env c)(R:SR X σ μ s.heap)(U:c.b.lookup x=some .globalImplicit)
  (Y:(x==Str.ofString "__debug__")=false) (h:X.d x=some y\/(X.d x=none/\X.f x=some y)) (k:Q y s):wpAny (model X.a X.w) A (eval (.Name x pos) env) Q E s:=by
 rw[<-t.kindOf]at U;refine Calls.Name_function_global t.a U ?_ Y;have H:s.heap.Ns env.globals X.d:=by rw[t.f];exact S.p.keeps R.k
 have T:s.heap.Ns env.builtins X.f:=by rw[t.g];exact S.r.keeps R.k
 rcases h with h |⟨h1,h2⟩
 .exact Calls.loadGlobal_global H h k
 .exact Calls.loadGlobal_builtin H h1 T h2 k
def cU.rep(R:SR X σ μ h')(k:cU X.b (.p l) x):aq h' (au σ μ) μ (.p l) x:=by
 have T:∀a t vs n,X.b.get? a=some (cb t vs n)->¬ False->h'.get? a=some (cb t vs n)/\¬ au σ μ a:=λa t vs n e J=>⟨R.k a _ e,λq=>bl ((R.xP q).1.symm.trans e)⟩;exact aq.mono T (λi m e=>bl e) k
end
end Mine.Lake.S
end
set_option backward.match.sparseCases true
namespace Mine.Lake
abbrev bQ(m:Option (α×St))(Q:α->St->Prop):Prop:=match m with |some (a,σ)=>Q a σ |none=>False
structure Lk(p:Prop):Prop where
 h:p
@[inline]abbrev fe(W:Prop->Prop)(m:Option (α×St))(Q:α->St->Prop):Prop:=W (bQ m Q)
@[inline]abbrev bm(m:Option (α×St))(Q:α->St->Prop):Prop:=fe Lk m Q
def ag(h:m=some (a,σ))(q:Q a σ):bQ m Q:=by subst h;exact q
def aP(h:m=some (a,σ))(q:Q a σ):bm m Q:=Lk.mk (ag h q)
@[inline]abbrev CT:=FN->List V->St->(V->St->Prop)->Prop
@[inline]abbrev ar(m:(V->St->Prop)->Prop)(Q:V->St->Prop):Prop:=m Q
abbrev fg(b:Bool)(X Y:Prop):Prop:=match b with |true=>X |false=>Y
abbrev et(σ:St)(v:V)(Q:Bool->Prop):Prop:=match iN σ v with |some b=>Q b |none=>False
abbrev Dp(W:Prop->Prop)(v:V)(Q:V->St->Prop)(σ:St):Prop:=match v with |.o i=>fe W (hO (.o i) σ) Q |v=>Q v σ
@[inline]abbrev oD(v:V)(Q:V->St->Prop)(σ:St):Prop:=Dp Lk v Q σ
abbrev eu(step:V->(St->Prop)->St->Prop)(g:Option (Nat×List V)):List V->(St->Prop)->St->Prop
 |[],Q,σ=>bQ (ln g σ) λJ σ=>Q σ
 |x::xs,Q,σ=>bQ (ln g σ) λJ σ=>step x (λσ=>eu step g xs Q σ) σ
abbrev ut(k:ba->St->Prop)(Q:cY->ba->St->Prop):cY->ba->St->Prop
 |.a,ρ,σ=>k ρ σ|.c,ρ,σ=>k ρ σ|.d,ρ,σ=>Q .a ρ σ|.b v,ρ,σ=>Q (.b v) ρ σ
abbrev gm(body:V->ba->(cY->ba->St->Prop)->St->Prop)(g:Option (Nat×List V)):List V->ba->(cY->ba->St->Prop)->St->Prop
 |[],ρ,Q,σ=>bQ (ln g σ) λJ σ=>Q .a ρ σ
 |x::xs,ρ,Q,σ=>bQ (ln g σ) λJ σ=>body x ρ (ut (λρ σ=>gm body g xs ρ Q σ) Q) σ
abbrev hX(t:ba->(Bool->St->Prop)->St->Prop)(body:ba->(cY->ba->St->Prop)->St->Prop):Nat->ba->(cY->ba->St->Prop)->St->Prop
 |0,_,_,_=>False|n+1,ρ,Q,σ=>t ρ (λb σ=>fg b (body ρ (ut (λρ σ=>hX t body n ρ Q σ) Q) σ) (Q .a ρ σ)) σ
def x5(h:t ρ (λb σ=>fg b (body ρ (ut (λρ σ=>hX t body n ρ Q σ) Q) σ) (Q .a ρ σ)) σ):hX t body (n+1) ρ Q σ:=h
@[inline]abbrev Tr(α:Type):=(α->St->Prop)->St->Prop
@[inline]abbrev k1(g:V->Tr V)(Q:V->St->Prop):V->St->Prop:=λx σ=>g x Q σ
@[inline]abbrev k2(m:Tr V)(g:V->V->Tr V)(Q:V->St->Prop):V->St->Prop:=λx σ=>m (k1 (g x) Q) σ
@[inline]abbrev k3(m m':Tr V)(g:V->V->V->Tr V)(Q:V->St->Prop):V->St->Prop:=λx σ=>m (k2 m' (g x) Q) σ
abbrev N'(a:AN)(x:V):Tr V:=λQ σ=>bQ (t6 x a σ) Q
abbrev N_(x y:V):Tr V:=λQ σ=>bQ (di x y σ) Q
abbrev Oa(x a b:V):Tr V:=λQ σ=>bQ (qT x a b σ) Q
abbrev Ob(op:fN)(x y:V):Tr V:=λQ σ=>bQ (iM op x y σ) Q
abbrev Oc(op:lh)(x y:V):Tr V:=λQ σ=>bQ (dc op x y σ) Q
abbrev Od(x:V):Tr V:=λQ σ=>match x with |.j k=>Q (.w (xK.contains k)) σ |_=>False
@[inline]abbrev x6(Q:V->St->Prop):V->St->Prop:=λx σ=>et σ x λb=>Q (.w (!b)) σ
@[inline]abbrev kT(X Y:Prop):Bool->Prop:=λt=>fg t X Y
@[inline]abbrev x7(m m':Tr α)(Q:α->St->Prop):V->St->Prop:=λx σ=>et σ x (kT (m Q σ) (m' Q σ))
@[inline]abbrev x8(m:Tr V)(Q:V->St->Prop):V->St->Prop:=λx σ=>et σ x (kT (m Q σ) (Q x σ))
@[inline]abbrev x9(m:Tr V)(Q:V->St->Prop):V->St->Prop:=λx σ=>et σ x (kT (Q x σ) (m Q σ))
@[inline]abbrev Dq(Q:V->St->Prop):List V->St->Prop:=λxs σ=>Q (.p xs) σ
@[inline]abbrev Ds(W:Prop->Prop)(fr:Bool)(Q:V->St->Prop):List V->St->Prop:=λxs σ=>fg fr (Q (.r xs) σ) (fe W (gj (.a xs) σ) Q)
@[inline]abbrev ya(W:Prop->Prop)(r:V)(Q:V->St->Prop):List V->St->Prop:=λvs σ=>fe W (qX r vs σ) λJ σ=>Q r σ
@[inline]abbrev Dt(c:List V->St->(V->St->Prop)->Prop)(Q:V->St->Prop):List V->St->Prop:=λxs σ=>ar (c xs σ) Q
@[inline]abbrev Du(W:Prop->Prop)(c:CN)(C:CT)(Q:V->St->Prop):List V->St->Prop:=λxs σ=>fe W (gj (.e c []) σ) λr σ=>ar (C (qO c) (r::xs) σ) λv σ=>match v with |.z=>Q r σ |_=>False
@[inline]abbrev Dv(C:CT)(m:MN)(l:Tr (List V))(Q:V->St->Prop):V->St->Prop:=λx σ=>bQ (xJ x m σ) λf σ=>l (λxs σ=>ar (C f (x::xs) σ) Q) σ
abbrev Dw(W:Prop->Prop)(f:B1)(x:V):Tr V:=λQ σ=>fe W (b1 f x σ) Q
abbrev Dx(x:V):Tr V:=λQ σ=>match t_ x with |some b=>Q (.w b) σ |none=>False
@[inline]abbrev mS(W:Prop->Prop)(m:iI)(x:V)(Q:V->St->Prop):List V->St->Prop:=λxs σ=>fe W (cm m x xs σ) Q
@[inline]abbrev Dy(W:Prop->Prop)(m:iI)(l:Tr (List V))(Q:V->St->Prop):V->St->Prop:=λx σ=>bQ (gH m x σ) λJ σ=>l (mS W m x Q) σ
@[inline]abbrev yb(x:V)(Q:List V->St->Prop):List V->St->Prop:=λxs σ=>Q (x::xs) σ
@[inline]abbrev j7(m:Tr (List V))(Q:List V->St->Prop):V->St->Prop:=λx σ=>m (yb x Q) σ
@[inline]abbrev Dz(m:Tr Bool)(Q:Bool->St->Prop):V->St->Prop:=λx σ=>et σ x (kT (m Q σ) (Q false σ))
section
variable(W:Prop->Prop)(C:CT)
mutual
noncomputable def bJ:CE->ba->Tr V
 |.J=>λJ J J=>False
 |.K=>λJ Q σ=>Q .z σ
 |.N=>λJ Q σ=>Q .z σ
 |.B b=>λJ Q σ=>Q (.w b) σ
 |.g i=>λJ Q σ=>Q (.j i) σ
 |.I i=>λJ Q σ=>Q (.j (-(i:Int))) σ
 |.u s=>λJ Q σ=>Q (.u s) σ
 |.d i=>λρ Q σ=>(match ρ[i]? with |some (some v)=>Q v σ |_=>False)
 |.p i=>λJ Q σ=>Q (.j i) σ
 |.M v=>λJ Q σ=>Q v σ
 |.q o a=>λρ Q σ=>bJ o ρ (k1 (N' a) Q) σ
 |.h o i=>λρ Q σ=>bJ o ρ (k2 (bJ i ρ) N_ Q) σ
 |.H o lo hi=>λρ Q σ=>bJ o ρ (k3 (bJ lo ρ) (bJ hi ρ) Oa Q) σ
 |.A op a b=>λρ Q σ=>bJ a ρ (k2 (bJ b ρ) (Ob op) Q) σ
 |.n op a b=>λρ Q σ=>bJ a ρ (k2 (bJ b ρ) (Oc op) Q) σ
 |.P a=>λρ Q σ=>bJ a ρ (k1 Od Q) σ
 |.G a=>λρ Q σ=>bJ a ρ (x6 Q) σ
 |.z l=>λρ Q σ=>yc l ρ Q σ
 |.D l=>λρ Q σ=>yd l ρ Q σ
 |.C c a b=>λρ Q σ=>bJ c ρ (x7 (bJ a ρ) (bJ b ρ) Q) σ
 |.t l=>λρ Q σ=>j8 l ρ (Dq Q) σ
 |.r fr l=>λρ Q σ=>j8 l ρ (Ds W fr Q) σ
 |.F kvs=>λρ Q σ=>fe W (gj .b σ) λr σ=>match kvs with
  |[]=>Q r σ|kvs=>j8 kvs ρ (ya W r Q) σ
 |.E e i it conds=>λρ Q σ=>uu it ρ (λg xs σ=>fe W (gj (.a []) σ) λr σ=>
   eu (λx k σ=>ye conds (ρ.set i (some x)) (λb σ=>fg b (bJ e (ρ.set i (some x)) (λv σ=>fe W (cm .a r [v] σ) λJ σ=>k σ) σ) (k σ)) σ) g xs
    (λσ=>fe W (hO r σ) Q) σ) σ
 |.Q k v i it=>λρ Q σ=>uu it ρ (λg xs σ=>fe W (gj .b σ) λr σ=>
   eu (λx K σ=>bJ k (ρ.set i (some x)) (λa σ=>bJ v (ρ.set i (some x)) (λy σ=>fe W (t8 r a y σ) λJ σ=>K σ) σ) σ) g xs (λσ=>Q r σ) σ) σ
 |.j f l=>λρ Q σ=>j8 l ρ (Dt (C f) Q) σ
 |.L c l=>λρ Q σ=>j8 l ρ (Du W c C Q) σ
 |.y o m l=>λρ Q σ=>bJ o ρ (Dv C m (j8 l ρ) Q) σ
 |.x f a=>λρ Q σ=>bJ a ρ (k1 (Dw W f) Q) σ
 |.O a=>λρ Q σ=>bJ a ρ (k1 Dx Q) σ
 |.w m o l=>λρ Q σ=>bJ o ρ (Dy W m (j8 l ρ) Q) σ
noncomputable def j8:List CE->ba->Tr (List V)
 |[]=>λJ Q σ=>Q [] σ
 |e::r=>λρ Q σ=>bJ e ρ (j7 (j8 r ρ) Q) σ
noncomputable def yc:List CE->ba->Tr V
 |[]=>λJ J J=>False
 |e::r=>λρ Q σ=>match r with
  |[]=>bJ e ρ Q σ|_=>bJ e ρ (x8 (yc r ρ) Q) σ
noncomputable def yd:List CE->ba->Tr V
 |[]=>λJ J J=>False
 |e::r=>λρ Q σ=>match r with
  |[]=>bJ e ρ Q σ|_=>bJ e ρ (x9 (yd r ρ) Q) σ
noncomputable def ye:List CE->ba->Tr Bool
 |[]=>λJ Q σ=>Q true σ
 |e::r=>λρ Q σ=>bJ e ρ (Dz (ye r ρ) Q) σ
noncomputable def uu:mE->ba->(Option (Nat×List V)->List V->St->Prop)->St->Prop
 |.a e=>λρ Q σ=>bJ e ρ (λx σ=>bQ (lm x σ) λp σ=>Q p.1 p.2 σ) σ
 |.b e=>λρ Q σ=>bJ e ρ (λx σ=>bQ (CL x σ) λp σ=>Q p.1 p.2 σ) σ
end
@[inline]abbrev Fl:=cY->ba->St->Prop
@[inline]abbrev uv(i:Nat)(ρ:ba)(Q:Fl):V->St->Prop:=λx σ=>Q .a (ρ.set i (some x)) σ
@[inline]abbrev DA(p:qP)(ρ:ba)(Q:ba->St->Prop):V->St->Prop:=λx σ=>bQ (fQ p x ρ σ) Q
@[inline]abbrev oE(ρ:ba)(Q:Fl):α->St->Prop:=λJ σ=>Q .a ρ σ
@[inline]abbrev DB(W:Prop->Prop)(ρ:ba)(a:AN)(x:V)(Q:Fl):V->St->Prop:=λy σ=>fe W (mH y a x σ) (oE ρ Q)
@[inline]abbrev DC(W:Prop->Prop)(ρ:ba)(a:AN)(m:Tr V)(Q:Fl):V->St->Prop:=λx σ=>m (DB W ρ a x Q) σ
@[inline]abbrev DD(W:Prop->Prop)(ρ:ba)(Q:Fl):V->St->Prop:=λx σ=>Dp W x (λx σ=>Q (.b x) ρ σ) σ
@[inline]abbrev iQ(m:ba->Fl->St->Prop)(Q:Fl):Fl:=λf ρ σ=>match f with |.a=>m ρ Q σ |f=>Q f ρ σ
@[inline]abbrev yf(m m':Fl->St->Prop)(Q:Fl):V->St->Prop:=λx σ=>et σ x (kT (m Q σ) (m' Q σ))
mutual
noncomputable def DE:CS->ba->Fl->St->Prop
 |.j=>λJ J J=>False
 |.x=>λρ Q σ=>Q .a ρ σ
 |.y=>λρ Q σ=>Q .d ρ σ
 |.u=>λρ Q σ=>Q .c ρ σ
 |.t=>λρ Q σ=>Q (.b .z) ρ σ
 |.g i e=>λρ Q σ=>bJ W C e ρ (uv i ρ Q) σ
 |.r is e=>λρ Q σ=>bJ W C e ρ (DA (.b is) ρ (Q .a)) σ
 |.l o a e=>λρ Q σ=>bJ W C e ρ (DC W ρ a (bJ W C o ρ) Q) σ
 |.n o i e=>λρ Q σ=>bJ W C e ρ (λx σ=>bJ W C o ρ (λy σ=>bJ W C i ρ (λk σ=>fe W (lj y k x σ) (oE ρ Q)) σ) σ) σ
 |.s o a op e=>λρ Q σ=>bJ W C o ρ (λy σ=>bQ (t6 y a σ) λI σ=>bJ W C e ρ (λv σ=>match I,v with
   |.j m,.j n=>bQ (iM op (.j m) (.j n) σ) λx σ=>fe W (mH y a x σ) (oE ρ Q)
   |_,_=>False) σ) σ
 |.w o i op e=>λρ Q σ=>bJ W C o ρ (λy σ=>bJ W C i ρ (λk σ=>bQ (di y k σ) λI σ=>bJ W C e ρ (λv σ=>match I,v with
   |.j m,.j n=>bQ (iM op (.j m) (.j n) σ) λx σ=>fe W (lj y k x σ) (oE ρ Q)
   |_,_=>False) σ) σ) σ
 |.k e=>λρ Q σ=>bJ W C e ρ (oE ρ Q) σ
 |.h c a b=>λρ Q σ=>bJ W C c ρ (yf (jp a ρ) (jp b ρ) Q) σ
 |.q c b=>λρ Q σ=>hX (λρ k σ=>bJ W C c ρ (λx σ=>et σ x λt=>k t σ) σ) (λρ k σ=>jp b ρ k σ) oj ρ Q σ
 |.m p it b=>λρ Q σ=>uu W C it ρ (λg xs σ=>gm (λx ρ k σ=>bQ (fQ p x ρ σ) λρ σ=>jp b ρ k σ) g xs ρ Q σ) σ
 |.d e=>λρ Q σ=>bJ W C e ρ (DD W ρ Q) σ
 |.v b f=>λρ Q σ=>jp b ρ (λr ρ σ=>jp f ρ (λr' ρ σ=>match r' with |.a=>Q r ρ σ |_=>False) σ) σ
noncomputable def jp:List CS->ba->Fl->St->Prop
 |[]=>λρ Q σ=>Q .a ρ σ
 |s::r=>λρ Q σ=>DE s ρ (iQ (jp r) Q) σ
end
end
@[inline]abbrev bK(C:CT):=bJ Lk C
@[inline]abbrev fV(C:CT):=j8 Lk C
@[inline]abbrev DF(C:CT):=yc Lk C
@[inline]abbrev DG(C:CT):=yd Lk C
@[inline]abbrev fh(C:CT):=ye Lk C
@[inline]abbrev DH(C:CT):=uu Lk C
@[inline]abbrev yg(C:CT):=DE Lk C
@[inline]abbrev aM(C:CT):=jp Lk C
section
variable(W:Prop->Prop)(C:CT)
abbrev dB(Q:V->St->Prop):cY->ba->St->Prop
 |.b v,_,σ=>Q v σ|.a,_,σ=>Q .z σ|_,_,_=>False
abbrev rf(f:aN)(args:List V)(Q:V->St->Prop)(σ:St):Prop:=match ol f args with
 |none=>False|some ρ=>jp W C f.c ρ (dB Q) σ
end
@[inline]abbrev DI(C:CT):=rf Lk C
abbrev uw(W:Prop->Prop):Nat->CT
 |0=>λJ J J J=>False
 |n+1=>λf args σ Q=>W (rf W (uw W n) (bv f) args Q σ)
abbrev ai:Nat->CT:=uw Lk
def Oe(h:DI (ai n) (bv f) args Q σ):ar (ai (n+1) f args σ) Q:=Lk.mk h
def yh(h:ρ[i]?=some (some v))(q:Q v σ):bK C (.d i) ρ Q σ:=by
 show(match ρ[i]? with |some (some v)=>Q v σ |_=>False);rw[h];exact q
def XX(h:bK C c ρ (yf (aM C a ρ) (aM C b ρ) (iQ (aM C r) K)) σ):aM C (.h c a b::r) ρ K σ:=h
def DJ(h:aM C r ρ K σ):aM C [] ρ (iQ (aM C r) K) σ:=h
def Of:Lk=λp=>p:=funext λp=>propext ⟨λh=>h.h,λh=>⟨h⟩⟩
end Mine.Lake
section
open PySem PySem.W PyProof.Rows
namespace Mine.Lake.S
def cZ{K:α->St->Prop}(h:bQ m K):∃a σ,m=some (a,σ)/\K a σ:=by
 induction m using aX with
 |none=>exact h.elim|some p=>exact⟨p.1,p.2,rfl,h⟩
def iR(h:et σ v Q):∃b,iN σ v=some b/\Q b:=by
 unfold et at h;generalize e:iN σ v=E
 induction E using aX with
 |none=>rw[e]at h;exact h.elim|some b=>rw[e]at h;exact⟨b,rfl,h⟩
structure D where
 s:Shared
 σ:St
 μ:Mu
@[inline]abbrev D.R(d:D)(v:V)(x:Value):Prop:=aq d.s.heap (au d.σ d.μ) d.μ v x
@[inline]abbrev D.Rs(d:D)(v:List V)(x:List Value):Prop:=b7 d.s.heap (au d.σ d.μ) d.μ v x
structure Go(X:dj)(Z:Addr->Prop)(d d':D):Prop where
 j:SR X d'.σ d'.μ d'.s.heap
 k:bf d.s.heap d.σ d.μ d'.s.heap d'.σ d'.μ Z
 p:er d.s d'.s
def Go.trans{Z}(g:Go X Z a b)(h:Go X Z b c):Go X Z a c:=⟨h.j,g.k.trans h.k,g.p.trans h.p⟩
def Go.weak(g:Go X Z a b)(h:∀c,Z c->Z' c):Go X Z' a b:=⟨g.j,g.k.weaken h,g.p⟩
def Go.no(g:Go X No a b):Go X Z a b:=g.weak λJ f=>f.elim
def Go.tok(R:SR X d.σ d.μ d.s.heap)(t:Nat):Go X Z d ⟨{d.s with toks:=t},d.σ,d.μ⟩:=⟨R,bf.refl ..,rfl,rfl⟩
def Go.rep(g:Go X No d d')(R:SR X d.σ d.μ d.s.heap)(r:d.R v x):d'.R v x:=aq.ext r R g.k (cF.no _)
def Go.DK(g:Go X No d d')(R:SR X d.σ d.μ d.s.heap)(r:d.Rs v x):d'.Rs v x:=b7.ext r R g.k (cF.no _)
abbrev KV(X:dj)(d:D)(K:V->St->Prop)(Q:Value->Shared->Prop):Prop:=∀d' v x,Go X No d d'->d'.R v x->K v d'.σ->Q x d'.s
def KV.after{C:D}{K:V->St->Prop}{Q}(k:KV X d K Q)(g:Go X No d C):KV X C K Q:=λd' v x s=>k d' v x (g.trans s)
def KV.at_{K:V->St->Prop}{Q}{v:V}(k:KV X d K Q)(h:K v aw):cy X d.s d.σ d.μ aw v Q:=λs' aF x R E r S=>k ⟨s',aw,aF⟩ v x ⟨R,E,S⟩ r h
def KV.here{K:V->St->Prop}{Q}{v:V}(k:KV X d K Q)(R:SR X d.σ d.μ d.s.heap)(h:K v d.σ)(r:d.R v x)(t:Nat):Q x {d.s with toks:=t}:=k ⟨{d.s with toks:=t},d.σ,d.μ⟩ v x (Go.tok R t) r h
abbrev KT(X:dj)(d:D)(K:V->St->Prop)(Q:Bool->Shared->Prop):Prop:=∀d' v,Go X No d d'->K v d'.σ->∃b,iN d'.σ v=some b/\Q b d'.s
def KT.at_{C:D}{K:V->St->Prop}{Q}(k:KT X d K Q)(g:Go X No d C)(w:K v C.σ):∃b,iN C.σ v=some b/\∀t,Q b {C.s with toks:=t}:=by
 obtain⟨b,T,_⟩:=k C v g w;refine⟨b,T,λt=>?_⟩;obtain⟨G,H,q⟩:=k ⟨{C.s with toks:=t},C.σ,C.μ⟩ v (g.trans (Go.tok g.j t)) w;exact ay (H.symm.trans T)▸q
def KT.after{C:D}{K:V->St->Prop}{Q}(k:KT X d K Q)(g:Go X No d C):KT X C K Q:=λd' v s=>k d' v (g.trans s)
abbrev KA(X:dj)(d:D)(n:Nat)(K:List V->St->Prop)(Q:List Value->Shared->Prop):Prop:=∀d' v x,Go X No d d'->d'.Rs v x->x.length=n->K v d'.σ->Q x d'.s
abbrev ux(X:dj)(C:CT)(n:Nat):Prop:=
 ∀(f:FN) (A:Around) (R:Result->Shared->Prop) (d:D) (vs:List V) (xs:List Value) (K:V->St->Prop),fS n A->SR X d.σ d.μ d.s.heap->d.Rs vs xs->C f vs d.σ K->
  KV X d K (λx s'=>R (.ok (.ret x)) s')->codeAny (model X.a X.w) A (.call (.ref (X.e f)) ⟨xs,[]⟩) R d.s
structure oF(n:Nat)(A:Around):Prop where
 b:A.handled=none
 d:A.depth+3*n+5 < recursionLimit
 c:A.units+12*n+206 < cLine
def oF.room(h:oF n A):fS n A:=⟨h.b,by have v1:=h.d;exact "~D;0r7JvhHioU7m6f" v1,by have v2:=h.c;exact "~eHJkAo39o|yjon2CCC>_h" v2⟩
abbrev mT(X:dj):Prop:=∀{A:Around} {E:Value->Shared->Prop} {s:Shared} {σ:St} {μ:Mu} {v r:V} {z:Value} {aw:St} {Q:Value->Shared->Prop} {n:Nat},fS n A->SR X σ μ s.heap->aq s.heap (au σ μ) μ v z->
 b1 .c v σ=some (r,aw)->cy X s σ μ aw r Q->wpAny (model X.a X.w) A (call (.builtin "sorted") [z]) Q E s
structure Bd where
 X:dj
 C:CT
 n:Nat
 A:Around
 G:jo
 a:re X G
 c:ux X C n
 b:oF n A
 d:mT X
structure Sc where
 c:dN
 a:Env
 b:eY a c
@[inline]abbrev W(B:Bd)(t:Sem α)(Q:α->Shared->Prop)(E:Value->Shared->Prop)(d:D):Prop:=wpAny (model B.X.a B.X.w) B.A t Q E d.s
structure c9(B:Bd)(S:Sc)(d:D)(ρ:ba):Prop where
 j:FR B.X S.a S.c.a ρ d.σ d.μ d.s.heap
 f:SR B.X d.σ d.μ d.s.heap
def c9.after{B S ρ}(p:c9 B S d ρ)(g:Go B.X No d d'):c9 B S d' ρ:=⟨p.j.C0 p.f g.k,g.j⟩
abbrev SE(B:Bd)(S:Sc)(e:CE)(x:Expr):Prop:=∀E d ρ K Q,c9 B S d ρ->bK B.C e ρ K d.σ->KV B.X d K Q->W B (eval x S.a) Q E d
abbrev SB(B:Bd)(S:Sc)(e:CE)(x:Expr):Prop:=∀E d ρ K Q,c9 B S d ρ->bK B.C e ρ K d.σ->KT B.X d K Q->W B (PySem.isTrue x S.a (eval x S.a)) Q E d
structure aU(B:Bd)(S:Sc)(e:CE)(x:Expr):Prop where
 v:SE B S e x
 t:SB B S e x
variable{B:Bd}{S:Sc}{G:jo}
def dP(h:SE B S e x)(H:PySem.isTrue x S.a (eval x S.a)=(do let v <-eval x S.a;standAt x.pos;holding [v] (truthy v))):aU B S e x:=
 ⟨h,λE d ρ K Q p w k=>by
  unfold W;rw[H];refine aj (h E d ρ K _ p w λC v y g r w1=>?_);obtain⟨b,T,q⟩:=k.at_ g w1;exact aj (cR (dm (oA g.j r T q)))⟩
def Og:aU B S .N (.Constant .none k pos):=dP (λE d ρ K Q p w k=>aG (k.here p.f w .none _)) rfl
def Oh{pos:Pos}:aU B S (.B b) (.Constant (.bool b) k pos):=dP (λE d ρ K Q p w k=>aG (k.here p.f w (.bool b) _)) rfl
def Oi{pos:Pos}:aU B S (.g i) (.Constant (.int i) k pos):=dP (λE d ρ K Q p w k=>wpAny_mkInt (k.here p.f w (.int _ _) _)) rfl
def Oj{pos:Pos}:aU B S (.u i) (.Constant (.str (Str.ofString i)) k pos):=dP (λE d ρ K Q p w k=>wpAny_mkText (k.here p.f w (.str _ _) _)) rfl
def Ol{pos n:Pos}:aU B S (.I i) (.UnaryOp .USub (.Constant (.int i) k pos) n):=dP (λE d ρ K Q p w k=>wpAny_UnaryOp (wpAny_mkInt (neg_int (k.here p.f w (.int _ _) _)))) rfl
def Om{ρ:ba}{K:V->St->Prop}(w:bK C (.d i) ρ K σ):∃v,ρ[i]?=some (some v)/\K v σ:=by
 have w:(match ρ[i]? with |some (some v)=>K v σ |_=>False):=w;generalize Y:ρ[i]?=E
 induction E using aX with
 |none=>rw[Y]at w;exact w.elim|some o=>
  induction o using aX with
  |none=>rw[Y]at w;exact w.elim|some v=>rw[Y]at w;exact⟨v,rfl,w⟩
def On(H:(x,i,b)∈S.c.a)(Y:(x==Str.ofString "__debug__")=false):aU B S (.d i) (.Name x pos):=dP (λE d ρ K Q p w k=>by
 obtain⟨v,U,h⟩:=Om w;exact N8 S.b p.j p.f H Y U (k.at_ h)) rfl
def j9{E d Q}(R:SR B.X d.σ d.μ d.s.heap)(U:S.c.b.lookup x=some .globalImplicit)
  (Y:(x==Str.ofString "__debug__")=false) (h:B.X.d x=some y\/(B.X.d x=none/\B.X.f x=some y)) (k:Q y d.s):W B (eval (.Name x pos) S.a) Q E d:=N9 B.a S.b R U Y h k
def Oo{pos:Pos}(H:B.G.lookup x=some (.e i))(U:S.c.b.lookup x=some .globalImplicit)(Y:(x==Str.ofString "__debug__")=false):
  aU B S (.p i) (.Name x pos):=dP (λE d ρ K Q p w k=>by
 obtain⟨t,f⟩:=B.a.b x _ H;exact j9 p.f U Y (.inl f) (k.here p.f w (.int _ _) _)) rfl
def Op{pos:Pos}(H:B.G.lookup x=some (.h l))(U:S.c.b.lookup x=some .globalImplicit)(Y:(x==Str.ofString "__debug__")=false):
  aU B S (.M (.p l)) (.Name x pos):=dP (λE d ρ K Q p w k=>by
 obtain⟨a,T,C⟩:=B.a.b x _ H;exact j9 p.f U Y (.inl T) (k.here p.f w (cU.rep p.f C) _)) rfl
abbrev iS:Expr->Bool
 |.Call (.Name ..) [] [] _=>false|_=>true
def yj(h:iS x=true):attributeBase x a env w=w:=by
 induction x using eJ with
 |Call f l j p=>
  induction f using eJ with
  |Name n q=>
   induction l using bo with
   |nil=>
    induction j using bo with
    |nil=>exact b6 h|cons _ _=>rfl
   |cons _ _=>rfl
  |_=>rfl
 |_=>rfl
def Oq{x:Expr}{pos:Pos}(ho:SE B S o x)(T:iS x=true):aU B S (.q o a) (.Attribute x (Str.ofString a.name) pos):=dP (λE d ρ K Q p w k=>
 Attribute_any_ (ho E d ρ _ _ p w λC v y g r w1=>let ⟨_,_,e,h⟩:=cZ w1;Dh B.a.d B.a.h g.j r e ((k.after g).at_ h)) (by rw[arm_eval_Attribute,yj T])) rfl
abbrev rh(x:Expr):Bool:=x.ctorIdx !=26
def Ot{x y:Expr}(ho:SE B S o x)(hi:SE B S i y)(N:rh y=true):aU B S (.h o i) (.Subscript x y pos):=dP (λE d ρ K Q p w k=>by
 refine Subscript_ (ho E d ρ _ _ p w λC u z U J w1=>hi E C ρ _ _ (p.after U) w1 λd2 v q j g w2=>?_);obtain⟨_,_,e,h⟩:=cZ w2;obtain⟨T,id,m,Y,h⟩:=C8 (A:=B.A) (E:=E) j.j B.b.room (j.rep U.j J) g e ((k.after (U.trans j)).at_ h);refine tail_any (ops:=[z,q]) m Y h ?_
 induction y using eJ <;>first |rfl |exact b6 N) rfl
def Ou{b:CE}{x:Expr}(Y:SE B S a x)(T:SE B S b y):aU B S (.A op a b) (.BinOp x (xW op) y pos):=dP (λE d ρ K Q p w k=>
 wpAny_BinOp (Y E d ρ _ _ p w λC u z A J w1=>T E C ρ _ _ (p.after A) w1 λd2 v q j g w2=>
  let ⟨_,_,e,h⟩:=cZ w2;NH j.j (j.rep A.j J) g e ((k.after (A.trans j)).at_ h))) rfl
abbrev fW(x:Expr):Bool:=x.ctorIdx !=7
def DL(h:fW x=true)(y:Value):foldedSetIterable x env y=pure y:=by induction x using eJ <;>first |rfl |exact b6 h
def DM(N:fW y=true):markedEach [op] [y] (evalEach [y] env)=[eval y env]:=by
 have:behindInMarks op y=false:=by induction y using eJ <;>first |rfl |exact b6 N
 show[markedBehindIn op y (eval y env)]=_;unfold markedBehindIn;rw[this]
def DN{x y:Expr}(N:fW y=true) (c:∀E d ρ K Q,c9 B S d ρ->bK B.C e ρ K d.σ->KV B.X d K Q->
   W B (eval x S.a) (λl s₁=>wpAny (model B.X.a B.X.w) B.A (eval y S.a) (λr a=>wpAny (model B.X.a B.X.w) B.A (compareOp op l r) Q E a) E s₁) E d):aU B S e (.Compare x [op] [y] pos):=by
 refine⟨λE d ρ K Q p w k=>?_,λE d ρ K Q p w k=>?_⟩
 .unfold W
  rw[arm_eval_Compare,DM N];refine aj (gX (c E d ρ K Q p w k) (λl s1 h=>?_) λJ J e=>e);exact aj (dm (gX h (λr s2 h=>aj (cR (B0 h))) λJ J e=>e))
 .unfold W
  rw[arm_isTrue_Compare,DM N];refine aj (gX (c E d ρ K (λr s2=>wpAny (model B.X.a B.X.w) B.A (truthy r) Q E s2) p w λC v y g r w1=>?_) (λl s1 h=>?_) λJ J e=>e)
  .obtain⟨b,T,q⟩:=k.at_ g w1
   exact oA g.j r T q
  .refine aj (dm (gX h (λr s2 h=>?_) λJ J e=>e))
   exact aj (cR (aj (B0 (gX h (λq f h=>dm h) λJ J e=>e))))
def Ov{b:CE}{x:Expr}(Y:SE B S a x)(T:SE B S b y)(N:fW y=true):aU B S (.n op a b) (.Compare x [q8 op] [y] pos):=
 DN N λE d ρ K Q p w k=>Y E d ρ _ _ p w λC u z A J w1=>T E C ρ _ _ (p.after A) w1 λd2 v q j g w2=>
  let ⟨_,_,e,h⟩:=cZ w2;Nz B.a.e j.j B.b.room (j.rep A.j J) g e ((k.after (A.trans j)).at_ h)
def Ow(T:SE B S a y)(H:B.G.lookup x=some .d)(U:S.c.b.lookup x=some .globalImplicit)(Y:(x==Str.ofString "__debug__")=false):
  aU B S (.P a) (.Compare y [.In] [.Name x n] pos):=
 DN rfl λE d ρ K Q p w k=>T E d ρ _ _ p w λC u z A J w1=>by
  obtain⟨a,f,h1,h2,h3,h4⟩:=B.a.b x _ H;refine j9 A.j U Y (.inl h1) ?_
  induction u using Mine.Lake.V.casesOn with
  |j i=>
   obtain⟨t,ex⟩:=J;obtain⟨o,es,ep,ho,r⟩:=h3;rw[ex];exact wpAny_in_of (knd:=intKind B.X.a B.X.w) (k:=i) (n8 _ _ _ _) h2 ⟨o,es,ep,A.j.k _ _ ho,r⟩ (by rw[h4];exact(k.after A).here A.j w1 (.bool _) _)
  |_=>exact(show False from w1).elim
def Ox(Y:aU B S a x):aU B S (.G a) (.UnaryOp .Not x pos):=by
 refine⟨λE d ρ K Q p w k=>?_,λE d ρ K Q p w k=>?_⟩
 .refine wpAny_UnaryOp (Y.v E d ρ (x6 K) _ p w λC u z A J w1=>?_)
  obtain⟨b,T,h⟩:=iR w1;exact not_of (oA A.j J T λt=>(k.after A).here A.j h (.bool _) t)
 .show wpAny _ _ (do return !(<-PySem.isTrue x S.a (eval x S.a))) _ _ _
  refine aj (Y.t E d ρ (x6 K) _ p w λC u A w1=>?_);obtain⟨b,T,h⟩:=iR w1;obtain⟨U,H,q⟩:=k C (.w !b) A h;exact⟨b,T,aG (ay H▸q)⟩
end Mine.Lake.S
namespace Mine.Lake.S
variable{B:Bd}{S:Sc}{f:Expr->CE}
def Oy(hf:∀x,aU B S (f x) x)(m:List Expr):aU B S (.z (m.map f)) (.BoolOp .And m pos):=by
 induction m with
 |nil=>exact⟨λE d ρ K Q p w k=>(show False from w).elim,λE d ρ K Q p w k=>(show False from w).elim⟩|cons x m ih=>
  refine⟨λE d ρ K Q p w k=>?_,λE d ρ K Q p w k=>?_⟩
  .induction m using bo with
   |nil=>exact(hf x).v E d ρ K Q p w k|cons y m=>
    unfold W;rw[B3];refine aj ((hf x).v E d ρ (x8 (DF B.C ((y::m).map f) ρ) K) _ p w λC v z g r w1=>aj (cR (aj (dm ?_))));obtain⟨b,T,h⟩:=iR w1;refine oA g.j r T λt=>?_
    induction b using aS with
    |false=>exact aG ((k.after g).here g.j h r t)|true=>
     have j:=g.trans (Go.tok (Z:=No) g.j t);have:=ih.v E ⟨{C.s with toks:=t},C.σ,C.μ⟩ ρ K Q (p.after j) h (k.after j);unfold W at this;rw[B3]at this;exact this
  .show wpAny _ _ (PySem.isTrue x S.a (eval x S.a)>>=λt=>_) _ _ _
   induction m using bo with
   |nil=>
    refine aj ((hf x).t E d ρ K _ p w λC v g w1=>?_);obtain⟨b,T,q⟩:=k C v g w1;exact⟨b,T,by induction b <;>exact aG q⟩
   |cons y m=>
    refine aj ((hf x).t E d ρ (x8 (DF B.C ((y::m).map f) ρ) K) _ p w λC v g w1=>?_);obtain⟨b,T,h⟩:=iR w1;refine⟨b,T,?_⟩
    induction b using aS with
    |false=>
     obtain⟨G,H,q⟩:=k C v g h;rw[T]at H;cases H;exact aG q
    |true=>exact ih.t E C ρ K Q (p.after g) h (k.after g)
def Oz(hf:∀x,aU B S (f x) x)(m:List Expr):aU B S (.D (m.map f)) (.BoolOp .Or m pos):=by
 induction m with
 |nil=>exact⟨λE d ρ K Q p w k=>(show False from w).elim,λE d ρ K Q p w k=>(show False from w).elim⟩|cons x m ih=>
  refine⟨λE d ρ K Q p w k=>?_,λE d ρ K Q p w k=>?_⟩
  .induction m using bo with
   |nil=>exact(hf x).v E d ρ K Q p w k|cons y m=>
    unfold W;rw[B3];refine aj ((hf x).v E d ρ (x9 (DG B.C ((y::m).map f) ρ) K) _ p w λC v z g r w1=>aj (cR (aj (dm ?_))));obtain⟨b,T,h⟩:=iR w1;refine oA g.j r T λt=>?_
    induction b using aS with
    |true=>exact aG ((k.after g).here g.j h r t)|false=>
     have j:=g.trans (Go.tok (Z:=No) g.j t);have:=ih.v E ⟨{C.s with toks:=t},C.σ,C.μ⟩ ρ K Q (p.after j) h (k.after j);unfold W at this;rw[B3]at this;exact this
  .show wpAny _ _ (PySem.isTrue x S.a (eval x S.a)>>=λt=>_) _ _ _
   induction m using bo with
   |nil=>
    refine aj ((hf x).t E d ρ K _ p w λC v g w1=>?_);obtain⟨b,T,q⟩:=k C v g w1;exact⟨b,T,by induction b <;>exact aG q⟩
   |cons y m=>
    refine aj ((hf x).t E d ρ (x9 (DG B.C ((y::m).map f) ρ) K) _ p w λC v g w1=>?_);obtain⟨b,T,h⟩:=iR w1;refine⟨b,T,?_⟩
    induction b using aS with
    |true=>
     obtain⟨G,H,q⟩:=k C v g h;rw[T]at H;cases H;exact aG q
    |false=>exact ih.t E C ρ K Q (p.after g) h (k.after g)
def OA(L:SB B S q z)(G:aU B S a x)(T:aU B S b y):aU B S (.C q a b) (.IfExp z x y pos):=by
 refine⟨λE d ρ K Q p w k=>?_,λE d ρ K Q p w k=>?_⟩
 .refine wpAny_IfExp (L E d ρ (x7 (bK B.C a ρ) (bK B.C b ρ) K) _ p w λC v g w1=>?_)
  obtain⟨t,Y,h⟩:=iR w1;refine⟨t,Y,?_⟩
  induction t using aS with
  |true=>exact G.v E C ρ K Q (p.after g) h (k.after g)|false=>exact T.v E C ρ K Q (p.after g) h (k.after g)
 .show wpAny _ _ (PySem.isTrue z S.a (eval z S.a)>>=λt=>if t=true then PySem.isTrue x S.a (eval x S.a)else PySem.isTrue y S.a (eval y S.a)) _ _ _
  refine aj (L E d ρ (x7 (bK B.C a ρ) (bK B.C b ρ) K) _ p w λC v g w1=>?_);obtain⟨t,Y,h⟩:=iR w1;refine⟨t,Y,?_⟩
  induction t using aS with
  |true=>exact G.t E C ρ K Q (p.after g) h (k.after g)|false=>exact T.t E C ρ K Q (p.after g) h (k.after g)
abbrev cV(x:Expr):Bool:=x.ctorIdx !=22
theorem jq(pos:Pos)(env:Env):∀(m:List Expr),m.all cV=true->backTo pos (starEach m env)=m.map λx=>(false,eval x env)
 |[],_=>rfl|x::m,h=>by
  simp only[B4,mu]at h;have ih:=jq pos env m h.2;have:starEach (x::m) env=(false,eval x env)::starEach m env:=by
   induction x using eJ <;>first |rfl |cases h.1
  rw[this];show(false,eval x env)::backTo pos (starEach m env)=_;rw[ih];rfl
def yk(hf:∀x,aU B S (f x) x)(m:List Expr):∀{E d ρ K Q},c9 B S d ρ->fV B.C (m.map f) ρ K d.σ->KA B.X d m.length K Q->W B (spliced (m.map λx=>(false,eval x S.a))) Q E d:=by
 induction m with
 |nil=>exact λ{E d ρ K Q} p w k=>J9 (k d [] [] ⟨p.f,bf.refl ..,er.refl _⟩ .nil rfl w)|cons x m ih=>exact λ{E d ρ K Q} p w k=>B5 ((hf x).v E d ρ (j7 (fV B.C (m.map f) ρ) K) _ p w λC v y g r w1=>
   ih (p.after g) w1 λd2 vs c j U Y w2=>k d2 (v::vs) (y::c) (g.trans j) (.cons (j.rep g.j r) U) (aE (·+1) Y) w2)
def yl(hf:∀x,aU B S (f x) x)(m:List Expr){E d ρ K}(p:c9 B S d ρ)(w:fV B.C (m.map f) ρ K d.σ)
  (k:KA B.X d m.length K λxs s'=>Q ⟨xs,[]⟩ s'):W B (evalArgs g true (m.map λx=>(false,eval x S.a)) []) Q E d:=by
 induction m using bo with
 |nil=>exact PySem.evalArgs_none (k d [] [] ⟨p.f,bf.refl ..,er.refl _⟩ .nil rfl w)|cons x m=>exact J' (yk hf (x::m) p w k)
def KV.seq{K:V->St->Prop}{Q}(t:String)(k:KV X d K Q)(R:SR X d.σ d.μ d.s.heap)(Y:v=.p l/\t= "tuple" \/v=.r l/\t= "list")(r:d.Rs l xs.toList)(h:K v d.σ)(N:Nat):
  Q (.ref d.s.heap.objs.size) {d.s with heap:=d.s.heap.push {cls:=.type t,data:=.seq xs},toks:=N}:=(k.at_ h).ow t R Y r N
def uy(h:Nat.ble n 1000=true)(e:k=n):k<=sizeLine:=by rw[e,qi];exact aL (bP h) (by decide)
def OB(hf:∀x,aU B S (f x) x){pos:Pos}(N:m.all cV=true)(Y:Nat.ble m.length 1000=true):aU B S (.t (m.map f)) (.Tuple m kd pos):=dP (λE d ρ K Q p w k=>by
 refine wpAny_Tuple ?_;rw[jq pos S.a m N];exact yk hf m p (K:=Dq K) w λC vs xs g r u w1=>⟨uy Y u,(k.after g).seq (v:=.p vs) "tuple" g.j (.inl ⟨rfl,rfl⟩) r w1 _⟩) rfl
def Go.alloc(R:SR X d.σ d.μ d.s.heap)(U:∀a ob,d.s.heap.get? a=some ob->h'.get? a=some ob)(H:o≠.d)(h1:d.s.heap.get? m.1=none)(h2:d.s.heap.get? m.2=none)
  (L:∀bD aF,Kp d.s.heap h' (au d.σ d.μ) bD d.μ aF->ds X h' bD aF o m):Go X No d ⟨{d.s with heap:=h'},d.σ++[o],d.μ++[m]⟩/\(d.μ++[m])[d.σ.length]?=some m:=
 let ⟨a,b⟩:=R.alloc U H h1 h2 L;⟨⟨a,b,rfl,rfl⟩,by rw[<-R.s];simp⟩
def OC(hf:∀x,aU B S (f x) x){pos:Pos}(N:m.all cV=true)(Y:Nat.ble m.length 1000=true):aU B S (.r fr (m.map f)) (.List m pos):=dP (λE d ρ K Q p w k=>by
 refine wpAny_List ?_;rw[jq pos S.a m N];refine yk hf m p (K:=Ds Lk fr K) w λC vs xs g r u w1=>⟨uy Y u,?_⟩
 induction fr using aS with
 |true=>exact(k.after g).seq (v:=.r vs) "list" g.j (.inr ⟨rfl,rfl⟩) r w1 _|false=>
  obtain⟨j,hm⟩:=Go.alloc g.j (h':=C.s.heap.push {cls:=.type "list",data:=.seq xs.toArray}) (o:=.a vs) (m:=(C.s.heap.objs.size,C.s.heap.objs.size))
   (λa ob e=>gf _ e) nofun (fT _) (fT _) λbD aF K=>⟨rfl,xs.toArray,0,iE _ rfl,K.q6 r⟩
  exact k _ _ _ (g.trans j) (.ref hm) w1.h) rfl
abbrev PE(B:Bd)(S:Sc)(a:CE)(o:Option Expr):Prop:=∀E d ρ K Q,c9 B S d ρ->bK B.C a ρ K d.σ->KV B.X d K Q->W B (evalPart o S.a) Q E d
def OD:PE B S .K none:=λE d ρ K Q p w k=>aG (k.here p.f w .none _)
def OE{lo:CE}(ho:SE B S o x)(Y:PE B S lo l)(c:PE B S hi u):aU B S (.H o lo hi) (.Subscript x (.Slice l u none pos) n):=dP (λE d ρ K Q p w k=>by
 refine Subscript_ (ho E d ρ _ _ p w λC v1 z L J w1=>wpAny_Slice (Y E C ρ _ _ (p.after L) w1 λd2 v2 q j g w2=>c E d2 ρ _ _ ((p.after L).after j) w2 λd3 v3 i U s w3=>aG ?_));obtain⟨I,a⟩:=U.j.push {cls:=.type "slice",data:=.fields #[q,i,.none]};have H:Go B.X No d3 ⟨{d3.s with heap:=d3.s.heap.push {cls:=.type "slice",data:=.fields #[q,i,.none]}},d3.σ,d3.μ⟩:=⟨I,a,rfl,rfl⟩;have N:(d3.s.heap.push {cls:=.type "slice",data:=.fields #[q,i,.none]}).IsSliceOf d3.s.heap.objs.size q i .none:=⟨_,iE _ rfl,rfl,rfl⟩;obtain⟨_,_,e,h⟩:=cZ w3;have t:=U.trans H;obtain⟨T,id,m,r,h⟩:=NE (A:=B.A) (E:=E) (Q:=Q) I ((j.trans t).rep L.j J) (t.rep j.j g) (H.rep U.j s) N e ((k.after (L.trans (j.trans t))).at_ h);exact tail_any (ops:=[.ref d3.s.heap.objs.size,z]) m r h rfl) rfl
def uz(m:List Expr)(env:Env):((m.map λx=>(false,eval x env)).any (·.1)||([]:List (Option Str×Sem Value)).any (·.1.isNone))=false:=by simp
def OF(hf:∀x,aU B S (f x) x)(H:B.G.lookup x=some (.g q))(U:S.c.b.lookup x=some .globalImplicit)(Y:(x==Str.ofString "__debug__")=false)
  (N:m.all cV=true):aU B S (.j q (m.map f)) (.Call (.Name x n) m [] pos):=dP (λE d ρ K Q p w k=>by
 unfold W;rw[B6,jq pos S.a m N];refine aj (j9 p.f U Y (.inl (B.a.b x _ H)) ?_);refine callWith_of (P:=λh=>B.X.K.In h) (uz m S.a) (keeps_K (B.a.n q)) (yl hf m (K:=Dt (B.C q) K) p w λC vs xs g r J w1=>⟨B.a.d.keeps g.j.k,?_⟩);exact wpAny_call (B.c q B.A _ C vs xs _ B.b.room g.j r w1 (k.after g))) rfl
def DO(hf:∀x,aU B S (f x) x)(H:(∃id,g=.builtin id/\B.G.lookup x=some (.b id))\/(∃t,g=.type t/\B.G.lookup x=some (.a t)))(U:S.c.b.lookup x=some .globalImplicit)(Y:(x==Str.ofString "__debug__")=false)
  (N:cV y=true) {E d ρ K Q} (p:c9 B S d ρ) (w:bK B.C (f y) ρ K d.σ) (k:KV B.X d K λz s1=>wpAny (model B.X.a B.X.w) B.A (call g [z]) Q E s1):W B (eval (.Call (.Name x n) [y] [] pos) S.a) Q E d:=by
 have hm:[y].all cV=true:=by simp[N]
 unfold W;rw[B6,jq pos S.a [y] hm];have G:wpAny (model B.X.a B.X.w) B.A (callWith pos g [] ([y].map λx=>(false,eval x S.a)) (backToKw pos (keywordEach [] S.a))) Q E d.s:=by
  refine callWith_of (P:=λJ=>True) (uz [y] S.a) (λh J=>⟨.machine,.inr (.inl rfl),?_⟩) (J' (B5 ((hf y).v E d ρ K _ p w λC v z A r w1=>J9 ⟨trivial,k C v z A r w1⟩)));rcases H with⟨id,rfl,_⟩ |⟨t,rfl,_⟩ <;>exact .now
 rcases H with⟨id,rfl,H⟩ |⟨t,rfl,H⟩
 .exact aj (j9 p.f U Y (.inr (B.a.b x _ H)) G)
 .exact aj (j9 p.f U Y (.inr (B.a.b x _ H)) G)
def oF.under(h:oF n A)(a:Addr)(xs:List Value)(j:List (Str×Value)):fS n (A.under (.builtin "type.__call__" ⟨.ref a::xs,j⟩)):=by
 have Y:(Code.builtin "type.__call__" ⟨.ref a::xs,j⟩).weight=1:=by kernel_rfl
 have U:(Code.builtin "type.__call__" ⟨.ref a::xs,j⟩).cUnits=1:=by kernel_rfl
 refine⟨h.b,?_,?_⟩
 .show A.depth+(Code.builtin "type.__call__" ⟨.ref a::xs,j⟩).weight+3*n+3 < _
  rw[Y];have v1:=h.d;exact "~A<brNTO_c>mwPyPE9h" v1
 .show A.units+(Code.builtin "type.__call__" ⟨.ref a::xs,j⟩).cUnits+12*n+200 < _
  rw[U];have v2:=h.c;exact "~XiI^^yYOkDPlCgo<OQYiRoj" v2
def OG(hf:∀x,aU B S (f x) x)(H:B.G.lookup x=some (.j q))(hk:S.c.b.lookup x=some .globalImplicit)(Y:(x==Str.ofString "__debug__")=false)
  (N:m.all cV=true):aU B S (.L q (m.map f)) (.Call (.Name x n) m [] pos):=dP (λE d ρ K Q p w k=>by
 unfold W;rw[B6,jq pos S.a m N];refine aj (j9 p.f hk Y (.inl (B.a.b x _ H)) ?_);refine callWith_of (P:=λh=>B.X.K.In h) (uz m S.a) (keeps_K (B.a.v q)) (yl hf m (K:=Du Lk q B.C K) p w λC vs xs g r _ w1=>⟨B.a.d.keeps g.j.k,?_⟩);refine wpAny_call ?_;have c:=B.a.d.keeps g.j.k;have k1:=k.after g;have I:=g.j;have w1:=w1.h;clear k g;obtain⟨⟨J,u,dd,t,os⟩,A,G⟩:=C;dsimp only at I r c w1;have U:((J.push emptyDict).push (instObj (B.X.c q) J.objs.size)).get? (J.objs.size+1)=some (instObj (B.X.c q) J.objs.size):=by
  have:=iE (J.push emptyDict) (o:=instObj (B.X.c q) J.objs.size) rfl;rw[size_push']at this;exact this
 have i:((J.push emptyDict).push (instObj (B.X.c q) J.objs.size)).get? J.objs.size=some emptyDict:=gf _ (iE _ rfl);have T:J.get? (J.objs.size+1)=none:=by
  generalize L:J.get? (J.objs.size+1)=x_
  induction x_ using aX with
  |none=>rfl|some o=>exact absurd (jd L) (tJ.mpr (tF _))
 obtain⟨j,hm⟩:=Go.alloc (d:=⟨⟨J,u,dd,t,os⟩,A,G⟩) I (h':=(J.push emptyDict).push (instObj (B.X.c q) J.objs.size)) (o:=.e q []) (m:=(J.objs.size+1,J.objs.size))
  (λa ob e=>gf _ (gf _ e)) nofun T (fT _) λbD aF K=>⟨Nat.succ_ne_self _,U,[],0,i,.nil⟩
 refine make_core (makes_of c (B.a.s q)) (looks_findIn c (B.a.y q)) (λself=>bind_fn c self (B.a.j _)) (.inl rfl) ?_;refine B.c (qO q) _ _ _ (.o A.length::vs) _ _ (B.b.under _ _ _) j.j (.cons (.ref hm) (j.DK I r)) w1 ?_;intro d3 v y g3 s w3
 induction v using Mine.Lake.V.casesOn with
 |z=>exact⟨s,k1 d3 _ _ (j.trans g3) (.ref (g3.k.d _ _ hm)) w3⟩|_=>exact(show False from w3).elim) rfl
def eL.OH(r:eL w R fs es)(nm:String)(h:∀a:AN,nm≠a.name)(k:Nat):
  shadowIn (some (W.dictOf es k)) (Str.ofString nm)=some false:=by
 have hf:(es.find? λe=>e.key.isStr (Str.ofString nm))=none:=by
  refine a0.ind (λ_ (es:List DictEntry)=>(es.find? λe=>e.key.isStr (Str.ofString nm))=none) rfl (λp e J es h' J ih=>?_) r;show(match e.key.isStr (Str.ofString nm)with |true=>some e |false=>es.find? λe=>e.key.isStr (Str.ofString nm))=none;rw[(ur h').1,cB.mpr λe=>h p.1 (mN e).symm];exact ih
 have Y:getL (Str.ofString nm) es=some none:=by
  unfold getL;rw[hf,r.noRef];rfl
 show Option.map (λx=>x.isSome) (getL (Str.ofString nm) es)=_;rw[Y];rfl
def OI(e:xJ v m σ=some (g,aw)):aw=σ/\∃p:CN×List (AN×V),eW σ v=some (.e p.1 p.2)/\tY p.1 m=some g:=by
 obtain⟨o,ho,e⟩:=a9 e;obtain⟨p,J,e⟩:=a9 e;obtain⟨s,H,e⟩:=cD e;exact⟨(aE Prod.snd e).symm,p,xR J▸ho,H.trans (aE some (aE Prod.fst e))⟩
def DP{g:α->β}:∀m:List α,((m.map λx=>(false,g x)).all λx=>!x.1)=true:=λm=>by
 induction m with
 |nil=>rfl|cons a m ih=>exact ih
def OJ(hf:∀x,aU B S (f x) x){x:Expr}(T:iS x=true)(q:(s.endLine==pos.line)=true)(hlen:Nat.ble m.length 29=true)
  (N:m.all cV=true):aU B S (.y (f x) n (m.map f)) (.Call (.Attribute x (Str.ofString n.name) s) m [] pos):=dP (λE d ρ K Q p w k=>by
 unfold W;rw[arm_eval_Call,yj T,jq pos S.a m N];refine aj ((hf x).v E d ρ (Dv B.C n (fV B.C (m.map f) ρ) K) _ p w λC u y A J w1=>?_);refine aj (cR ?_);obtain⟨o,_,e,w2⟩:=cZ w1;obtain⟨t,r,L,hm⟩:=OI e;rw[t]at w2;obtain⟨i,z,ev,hi,XY,ey,hr⟩:=j0 A.j L J;rw[ev]at w2 J;rw[ey]at J ⊢;obtain⟨oG,H,es,kk,Y,U⟩:=hr;obtain⟨q1,q2,v⟩:=B.a.q r.1 n o hm;have c:=B.a.d.keeps A.j.k;have I:W.InstAt C.s.heap z.1 (instObj (B.X.c r.1) z.2) (B.X.c r.1) (some (W.dictOf es kk)):=⟨H,rfl,rfl,Y⟩;have OK:methodCallForm (m.length+([]:List Keyword).length) (m.map λx=>(false,eval x S.a)) (backToKw pos (keywordEach [] S.a))=true:=by
  have h2:m.length+0 < 30:=ql (bP hlen);show((m.map λx=>(false,eval x S.a)).all (λx=>!x.1)&&true&&decide (m.length+0 < 30))=true;rw[DP,b4 h2];rfl
 have G:methodCallPos true x S.a s pos=pure pos:=by unfold methodCallPos;simp[q]
 unfold methodCall;rw[OK];refine aj (dm ?_);show wpAny _ _ (getMethod _ _ _) _ _ _;refine method_fn c I q1 q2 v (B.a.j o) (U.OH n.name (λa=>B.a.z n a) kk) ?_;refine aj (ms G ?_);refine callWith_of (P:=λh=>B.X.K.In h) (uz m S.a) (keeps_K (B.a.n o)) (yl hf m (d:=C) (p.after A) w2 λd2 vs xs j g _ w2=>⟨B.a.d.keeps j.j.k,?_⟩);exact wpAny_call (B.c o B.A _ d2 (.o i::vs) (.ref z.1::xs) K B.b.room j.j (.cons (j.rep A.j J) g) w2 (k.after (A.trans j)))) rfl
def OL(hf:∀x,aU B S (f x) x)(H:B.G.lookup x=some (.b "isinstance"))(U:S.c.b.lookup x=some .globalImplicit)(Y:(x==Str.ofString "__debug__")=false)
  (c:B.G.lookup z=some (.a "str")) (a:S.c.b.lookup z=some .globalImplicit) (I:(z==Str.ofString "__debug__")=false) (N:cV y=true):
  aU B S (.O (f y)) (.Call (.Name x n) [y,.Name z p2] [] pos):=dP (λE d ρ K Q p w k=>by
 have hm:[y,.Name z p2].all cV=true:=by
  show(cV y&&(cV (.Name z p2)&&true))=true;rw[N];rfl
 unfold W;rw[B6,jq pos S.a _ hm];refine aj (j9 p.f U Y (.inr (B.a.b x _ H)) ?_);refine Calls.callWith_builtin (by rfl) (J' (B5 ((hf y).v E d ρ (k1 Dx K) _ p w λC v u A J w1=>B5 ?_)));refine j9 A.j a I (.inr (B.a.b z _ c)) (J9 ?_);have w1:(match t_ v with |some b=>K (.w b) C.σ |none=>False):=w1;generalize T:t_ v=L
 induction L using aX with
 |none=>rw[T]at w1;exact w1.elim|some b=>rw[T]at w1;exact N4 A.j J T ((k.after A).at_ w1)) rfl
abbrev lz:iI->Str
 |.a=> "append" |.b=> "extend" |.d=> "pop" |.c=> "get" |.e=> "update"
def OM(e:gH m v σ=some (u,aw)):aw=σ:=by
 obtain⟨o,ho,e⟩:=a9 e;obtain⟨_,e⟩:=bN e;exact(aE Prod.snd (ay e)).symm
def rj(hf:∀x,aU B S (f x) x){x:Expr}(T:iS x=true)(q:(s.endLine==pos.line)=true)
  (N:m.all cV=true) (Y:Nat.ble m.length 29=true)
  (c:∀E d ρ (K:V->St->Prop) Q v y,c9 B S d ρ->d.R v y->gH a v d.σ=some ((),d.σ)->fV B.C (m.map f) ρ (mS Lk a v K) d.σ->KV B.X d K Q->MethodOn B.X.a B.X.w B.A (lz a) pos y (m.map λx=>(false,eval x S.a)) Q E d.s):
  aU B S (.w a (f x) (m.map f)) (.Call (.Attribute x (lz a) s) m [] pos):=dP (λE d ρ K Q p w k=>by
 have uy:((backTo pos (starEach m S.a)).all (λx=>!x.1)&&(backToKw pos (keywordEach [] S.a)).all (λx=>x.1.isSome)
   &&decide (m.length+([]:List Keyword).length+(if([]:List Keyword).isEmpty then 0 else 1) < 30))=true:=by
  rw[jq pos S.a m N];have h2:m.length+0+0 < 30:=ql (bP Y);show((m.map λx=>(false,eval x S.a)).all (λx=>!x.1)&&true&&decide (m.length+0+0 < 30))=true;rw[DP,b4 h2];rfl
 refine wpAny_Call_method_late (yj T) uy q (jq pos S.a m N) ((hf x).v E d ρ (Dy Lk a (fV B.C (m.map f) ρ) K) _ p w λC v y A J w1=>?_);obtain⟨⟨⟩,_,e,w2⟩:=cZ w1;have es:=OM e;rw[es]at e w2;exact c E C ρ K Q v y (p.after A) J e w2 (k.after A)) rfl
def Go.upd(R:SR X d.σ d.μ d.s.heap)(t:Nat)(h0:d.σ[i]?=some I)(J:I≠.d)(hm:d.μ[i]?=some m)(H:o≠.d)
  (U:Heap.SameBut m.1 d.s.heap h') (L:∀bD aF,Kp d.s.heap h' (au d.σ d.μ) bD d.μ aF->ds X h' bD aF o m):Go X No d ⟨{d.s with heap:=h',toks:=t},d.σ.set i o,d.μ⟩:=
 have h:=R.update h0 J hm H (λa ob e h1 Q=>(U.2 a h1).trans e) L;⟨h.1,h.2,rfl,rfl⟩
def Go.ym(R:SR X d.σ d.μ d.s.heap)(f:Array Value->Array Value)(h0:d.σ[i]?=some (.a l))(hm:d.μ[i]?=some m)(L:m.2=m.1)
  (G:d.s.heap.get? m.1=some (cb "list" vs n)) (C:d.Rs l' (f vs).toList):Go X No d ⟨{d.s with heap:=d.s.heap.update m.1 (Obj.mapSeq f)},d.σ.set i (.a l'),d.μ⟩:=
 Go.upd R _ h0 nofun hm nofun (Heap.SameBut.update ..) λbD aF K=>⟨L,_,_,(Dj G f).choose_spec,K.q6 C⟩
inductive DQ(d:D)(v:V)(y:Value)(P:Addr×Addr->Prop):Prop
 |mk (i:Nat) (m:Addr×Addr) (ev:v=.o i) (hm:d.μ[i]?=some m) (ey:y=.ref m.1) (h:P m)
def DR(e:gH m v σ=some u):∃o,eW σ v=some o/\qW m o=true:=by
 obtain⟨o,ho,e⟩:=a9 e;exact⟨o,ho,(bN e).1⟩
def yn(R:SR X d.σ d.μ d.s.heap)(r:d.R v y)(hm:∀o,qW m o=(fc o).isSome)(e:gH m v d.σ=some u):
  DQ d v y λz=>∃vs n,d.s.heap.get? z.1=some (cb "list" vs n):=by
 obtain⟨o,ho,h⟩:=DR e;rw[hm]at h;obtain⟨l,Y⟩:=qm.mp h;rw[jn Y]at ho;obtain⟨i,m,h1,h2,h3,h4,_,vs,n,h5,_⟩:=j0 R ho r;exact⟨i,m,h1,h3,h4,vs,n,h5⟩
def DS(R:SR X d.σ d.μ d.s.heap)(r:d.R v y)(hm:∀o,qW m o=true->ua o=true)(e:gH m v d.σ=some u):
  DQ d v y λz=>∃ob,d.s.heap.get? z.1=some ob/\ob.cls=.type "dict" /\ob.dict=none:=by
 obtain⟨o,ho,h⟩:=DR e;obtain⟨i,m,h1,h2,h3,h4,C⟩:=j0 R ho r;refine⟨i,m,h1,h3,h4,?_⟩;have h:=hm o h
 induction o using Mine.Lake.O.casesOn with
 |b=>obtain⟨_,ep,h⟩:=C;exact⟨_,h,rfl,rfl⟩|f es=>obtain⟨_,kvs,h,_⟩:=C;exact uh h|h es=>obtain⟨_,kvs,h,_⟩:=C;exact uh h|g es=>obtain⟨_,kvs,h,_⟩:=C;exact xO h|_=>exact b6 h
def uA{ω μ}{vs:Array Value}(r:b7 h ω μ l vs.toList):vs.size=l.length:=(iP r).symm
def ON(e:xF v=some l):v=.r l:=by
 induction v using Mine.Lake.V.casesOn with
 |r j=>exact aE V.r (ay e)|_=>exact bl e
def OO{K:V->St->Prop}(w:bQ (cm .a (.o i) [u] σ) K):∃l,σ[i]?=some (.a l)/\l.length < bs/\K .z (σ.set i (.a (l++[u]))):=by
 obtain⟨v2,j,e,h⟩:=cZ w;obtain⟨o,ho,e⟩:=a9 (x:=σ[i]?) e;obtain⟨l,Y,e⟩:=a9 (x:=fc o) e;obtain⟨U,e⟩:=bN e;have e:=ay e;rw[<-show _=v2 from aE Prod.fst e,<-show _=j from aE Prod.snd e]at h;exact⟨l,jn Y▸ho,U,h⟩
def DT{K:V->St->Prop}(R:SR X d.σ d.μ d.s.heap)(hm:d.μ[i]?=some m)(r:d.R u z)(w:bm (cm .a (.o i) [u] d.σ) K)(k:KV X d K Q):
  ∃vs n,vs.size<=sizeLine/\d.s.heap.get? m.1=some (cb "list" vs n)/\Q .none {d.s with heap:=d.s.heap.update m.1 (Obj.mapSeq λxs=>xs.push z)}:=by
 obtain⟨l,ho,Y,h⟩:=OO w.h;obtain⟨L,vs,n,G,ra⟩:=R.g i _ m ho hm;have g:=Go.ym R (l':=l++[u]) (λxs=>xs.push z) ho hm L G (by rw[n6];exact ra.append (.cons r .nil));exact⟨vs,n,gI (uA ra▸Y),G,k _ .z _ g .none h⟩
def OP(hf:∀x,aU B S (f x) x)(T:iS x=true)(q:(s.endLine==pos.line)=true)(N:[a].all cV=true):
  aU B S (.w .a (f x) ([a].map f)) (.Call (.Attribute x (lz .a) s) [a] [] pos):=rj hf T q N rfl λE d ρ K Q v y p r e w k=>by
 obtain⟨i,m,ev,hm,ey,vs,n,G⟩:=yn p.f r (λY=>rfl) e;rw[ev]at w;rw[ey];refine⟨"list", "list.append",J_,PySem.F.slot_list_append,PySem.F.type_list_append,⟨_,G,rfl⟩,λa I=>by injection I with I;exact⟨_,I▸G,rfl⟩,?_⟩;exact PySem.P.append_list ((hf a).v E d ρ (j7 (fV B.C [] ρ) (mS Lk .a (.o i) K)) _ p w λC u z A J w1=>DT A.j (A.k.d _ _ hm) J w1 (k.after A))
def OQ(hf:∀x,aU B S (f x) x)(T:iS x=true)(q:(s.endLine==pos.line)=true)(N:[a].all cV=true):
  aU B S (.w .b (f x) ([a].map f)) (.Call (.Attribute x (lz .b) s) [a] [] pos):=rj hf T q N rfl λE d ρ K Q v y p r e w k=>by
 obtain⟨i,m,ev,hm,ey,vs,n,G⟩:=yn p.f r (λ_=>rfl) e;rw[ev]at w;rw[ey];refine⟨"list", "list.extend",J_,PySem.F.slot_list_extend,PySem.F.type_list_extend,⟨_,G,rfl⟩,λa I=>by injection I with I;exact⟨_,I▸G,rfl⟩,?_⟩;refine PySem.P.extend_list ((hf a).v E d ρ (j7 (fV B.C [] ρ) (mS Lk .b (.o i) K)) _ p w λH u z A J w1=>?_);have w1:bm (cm .b (.o i) [u] H.σ) K:=w1;obtain⟨v2,j,e,h⟩:=cZ w1.h;obtain⟨o,ho,e⟩:=a9 (x:=H.σ[i]?) e;obtain⟨l,Y,e⟩:=a9 (x:=fc o) e;obtain⟨l2,C,e⟩:=a9 (x:=xF u) e;obtain⟨U,e⟩:=bN e;have e:=ay e;rw[<-show _=v2 from aE Prod.fst e,<-show _=j from aE Prod.snd e]at h;rw[jn Y]at ho;rw[ON C]at J;obtain⟨L,vs,n,G,ra⟩:=A.j.g i _ m ho (A.k.d _ _ hm);obtain⟨b,ws,k',c,T,_,t⟩:=J.jV;have Y:vs.size+ws.size < bs:=by rw[uA ra,uA t];exact U
 have g:=Go.ym A.j (l':=l++l2) (λxs=>xs++ws) ho (A.k.d _ _ hm) L G (by rw[gW];exact ra.append t);have hz:=gI Y;rw[c];refine⟨b,vs,ws,n,k',aL (eo _ _) hz,qn hz,?_,rfl,G,T,k _ .z _ (A.trans g) .none h⟩;have:Builtin.List.listTooLong (vs.size+ws.size)=false:=cc (tJ.mpr (by rw[qi]at*;exact aL (jQ Y) (by decide)));rw[this,BW];exact dV
def OR(hf:∀x,aU B S (f x) x)(T:iS x=true)(q:(s.endLine==pos.line)=true):
  aU B S (.w .d (f x) (([]:List Expr).map f)) (.Call (.Attribute x (lz .d) s) [] [] pos):=rj hf T q rfl rfl λE d ρ K Q v y p r e w k=>by
 obtain⟨i,m,ev,hm,ey,vs,n,G⟩:=yn p.f r (λC=>rfl) e;rw[ev]at w;rw[ey];refine⟨"list", "list.pop",J_,PySem.F.slot_list_pop,PySem.F.type_list_pop,⟨_,G,rfl⟩,λa I=>by injection I with I;exact⟨_,I▸G,rfl⟩,?_⟩;have w:bm (cm .d (.o i) [] d.σ) K:=w;obtain⟨v2,j,e,h⟩:=cZ w.h;obtain⟨o,ho,e⟩:=a9 (x:=d.σ[i]?) e;obtain⟨l,Y,e⟩:=a9 (x:=fc o) e;obtain⟨u,J,e⟩:=a9 e;obtain⟨U,e⟩:=bN e;have e:=ay e;rw[<-show _=v2 from aE Prod.fst e,<-show _=j from aE Prod.snd e]at h;rw[jn Y]at ho;obtain⟨L,vs,n,G,ra⟩:=p.f.g i _ m ho hm;have N:=uA ra;rw[List.getLast?_eq_getElem?]at J;obtain⟨z,hz,H⟩:=ra.get J;rw[eI,<-N]at hz;refine PySem.P.pop_list G hz ?_ (gI (N▸U));have g:=Go.ym p.f (l':=l.dropLast) (λxs=>xs.eraseIdxIfInBounds (vs.size - 1)) ho hm L G (by
  have h1:(vs.eraseIdxIfInBounds (vs.size - 1)).toList=vs.toList.dropLast:=by
   rw[Array.eraseIdxIfInBounds_eq];by_cases h:vs.size - 1 < vs.size
   .rw[dif_pos h,Array.toList_eraseIdx,<-dF,List.eraseIdx_length_sub_one]
   .have:vs.size=0:= "~Ue3R_nalsCEAq>M3kJikyHm" ao h
    rw[dif_neg h,Array.size_eq_zero_iff.mp this];rfl
  rw[h1,List.dropLast_eq_take,List.dropLast_eq_take,<-a0.length ra];exact ra.take (l.length - 1))
 exact k _ _ _ g (g.rep p.f H) h
def OS{K:V->St->Prop}(R:SR X d.σ d.μ d.s.heap)(hm:d.μ[i]?=some m)(ry:d.R kv y)(H:d.R u z)(w:bm (cm .c (.o i) [kv,u] d.σ) K)(k:KV X d K Q):
  ∃ov,xT X d.s.heap (au d.σ d.μ) d.μ m.1 kv y ov/\∀t w,(∀q,ov=some q->d.R q w)->(ov=none->w=z)->Q w {d.s with toks:=t}:=by
 obtain⟨v2,j,e,h⟩:=cZ w.h;obtain⟨o,ho,e⟩:=a9 (x:=d.σ[i]?) e;obtain⟨ov,L,e⟩:=cD (x:=iK o kv) e;rw[<-show _=v2 from aE Prod.fst e,<-show _=j from aE Prod.snd e]at h;refine⟨ov,xU (R.g i _ m ho hm) L ry,λt w h1 h2=>?_⟩
 induction ov using aX with
 |some q=>exact k.here R h (h1 _ rfl) t|none=>rw[h2 rfl];exact k.here R h H t
def OU(hf:∀x,aU B S (f x) x)(T:iS x=true)(yo:(s.endLine==pos.line)=true)(N:[a,b].all cV=true):
  aU B S (.w .c (f x) ([a,b].map f)) (.Call (.Attribute x (lz .c) s) [a,b] [] pos):=rj hf T yo N rfl λE d ρ K Q v y p r e w k=>by
 obtain⟨i,m,ev,hm,ey,ob,oz,n,o⟩:=DS (m:=.c) p.f r (λ_ h=>h) e;rw[ev]at w;rw[ey];have z:=rb B.a.e p.f hm;refine⟨"dict", "dict.get",PySem.F.plainAttrs_dict,PySem.F.slot_dict_get,PySem.F.type_dict_get,⟨ob,oz,n⟩,λa I=>by injection I with I;exact⟨ob,I▸oz,o⟩,?_⟩;refine method2_meetsIn PySem.F.slot_dict_get PySem.F.entry_dict_get ((hf a).v E d ρ (j7 (fV B.C [f b] ρ) (mS Lk .c (.o i) K)) _ p w λC v1 H A J w1=>
  (hf b).v E C ρ (j7 (fV B.C [] ρ) (yb v1 (mS Lk .c (.o i) K))) _ (p.after A) w1 λd2 v2 Y j g w2=>?_)
 obtain⟨ov,U,L⟩:=OS j.j (j.k.d _ _ (A.k.d _ _ hm)) (j.rep A.j J) g w2 (k.after (A.trans j));obtain⟨o2,rk,G⟩:=C7 U;refine⟨⟨o2,rk,G⟩,F.args_dict_get_3 _ _ _,?_⟩;have fin:∀{fx:Option Value} (t:Nat),fU d2.R ov fx->Q (fx.getD Y) {d2.s with toks:=t}:=λ{fx} t hv=>by
  induction ov using aX with
  |none=>rw[show fx=none from hv];exact L _ _ (λq e=>bl e) λ_=>rfl|some q=>obtain⟨x,e,h3⟩:=hv;rw[e];exact L _ _ (λq' e=>ay e▸h3) λe=>bl e.symm
 induction U with
 |e kk t f _ ey u hv=>rw[ey]at*;exact⟨_,meets_dict_get_default (intKind B.X.a B.X.w) m.1 (n8 _ _ _ _) z Y,_,u,fin _ hv⟩|c kk t f _ ey u hv=>rw[ey]at*;exact⟨_,meets_dict_get_default (PySem.strKind B.X.a B.X.w) m.1 (tE _ _ _ _) z Y,_,u,fin _ hv⟩|b kk a xs _ ey hi u hv=>
  rw[ey]at*;refine⟨_,meetsH_dict_get_default (jX B.X.a B.X.w) m.1 a z Y,B.b.room.tupK,kk,xs,hi,u,fin (fx:=(atKey xs kk).map (·.2)) _ ?_⟩
  induction ov using aX with
  |none=>rw[show atKey xs kk=none from hv];rfl|some q=>obtain⟨x,e,h3⟩:=hv;rw[e];exact⟨x.2,rfl,h3⟩
def OV(hf:∀x,aU B S (f x) x)(T:iS x=true)(yo:(s.endLine==pos.line)=true)(N:[a].all cV=true):
  aU B S (.w .e (f x) ([a].map f)) (.Call (.Attribute x (lz .e) s) [a] [] pos):=rj hf T yo N rfl λE d ρ K Q v y p r e w k=>by
 obtain⟨i,m,ev,hm,ey,ob,c,n,OW⟩:=DS (m:=.e) p.f r (λo h=>by induction o <;>first |rfl |exact b6 h) e;rw[ev]at w;rw[ey];refine⟨"dict", "dict.update",PySem.F.plainAttrs_dict,PySem.F.slot_dict_update,PySem.F.type_dict_update,⟨ob,c,n⟩,λa I=>by injection I with I;exact⟨ob,I▸c,OW⟩,?_⟩;refine method1_meetsIn PySem.F.slot_dict_update PySem.F.entry_dict_update ((hf a).v E d ρ (j7 (fV B.C [] ρ) (mS Lk .e (.o i) K)) _ p w λC u z A J w1=>?_);have w1:bm (cm .e (.o i) [u] C.σ) K:=w1;obtain⟨v2,OX,e,h⟩:=cZ w1.h;obtain⟨o1,ho,e⟩:=a9 (x:=C.σ[i]?) e;obtain⟨j,hj,e⟩:=a9 (x:=iJ u) e;obtain⟨OY,e⟩:=bN e;obtain⟨o2,rk,e⟩:=a9 e;obtain⟨es,h1,e⟩:=a9 e;obtain⟨t,h2,e⟩:=a9 e;obtain⟨rl,e⟩:=bN e;have e:=ay e;rw[<-show _=v2 from aE Prod.fst e,<-show _=OX from aE Prod.snd e]at h;rw[ul hj]at J;have U:=A.k.d _ _ hm;obtain⟨m',yp,ez⟩:=J;rw[ez];obtain⟨kvs,H,L,G,DU⟩:=lr h1 (A.j.g i o1 m ho U);obtain⟨Y,_,_,OZ,DV⟩:=lr h2 (A.j.g j o2 m' rk yp);have ap:=A.j.u i j m m' OY U yp;refine⟨G.typeIs,PySem.F.args_dict_update_2 _ _,_,meets_dict_update (intKind B.X.a B.X.w) m.1 m'.1 ap.1 (rb B.a.e A.j yp),kvs,Y,G,OZ,by rw[<-a0.length DU,<-a0.length DV];exact gI rl,λh' uB _ N=>?_⟩;have g:=Go.upd A.j (h':=h') (o:=.f (iO es t)) C.s.toks ho H U nofun N λbD aF K=>⟨L,_,uB,x4 (λ_ _ e=>e) (cw.mono (λ_ _ q=>K.rep q) DV) (cw.mono (λ_ _ q=>K.rep q) DU) (us G)⟩;exact k _ .z _ (A.trans g) .none h
def rm(hf:∀x,aU B S (f x) x)(H:(∃id,g=.builtin id/\B.G.lookup x=some (.b id))\/(∃t,g=.type t/\B.G.lookup x=some (.a t)))
  (U:S.c.b.lookup x=some .globalImplicit) (Y:(x==Str.ofString "__debug__")=false) (N:cV y=true)
  (h:∀{E:Value->Shared->Prop} {s:Shared} {σ:St} {μ:Mu} {v r:V} {z:Value} {aw:St} {Q:Value->Shared->Prop},SR B.X σ μ s.heap->aq s.heap (au σ μ) μ v z->b1 b v σ=some (r,aw)->cy B.X s σ μ aw r Q->wpAny (model B.X.a B.X.w) B.A (call g [z]) Q E s):
  aU B S (.x b (f y)) (.Call (.Name x n) [y] [] pos):=dP (λE d ρ K Q p w k=>
 DO hf H U Y N (K:=k1 (Dw Lk b) K) p w λC v z A J w1=>by
  obtain⟨_,_,e,h1⟩:=cZ (show bm (b1 b v C.σ) K from w1).h;exact h A.j J e ((k.after A).at_ h1)) rfl
end Mine.Lake.S
namespace Mine.Lake.S
variable{X:dj}{c:dN}
def O0{ρ:ba}(h:i≠j):(ρ.set i v)[j]?=ρ[j]?:=qh h
def gJ{ρ:ba}(h:(ρ.set i (some v))[i]?=some (some w)):w=v:=by
 have hi:=jY h;rw[jc]at hi;rw[qg hi]at h;exact(ay (ay h)).symm
def Ns.uC{h:Heap}(x:h.Ns a m):∀t vs k,h.get? a≠some (cb t vs k):=λt vs k e=>by
 obtain⟨o,es,ep,ho,Y,_⟩:=x;exact nomatch Y.symm.trans (aE Obj.data (ay (ho.symm.trans e)))
def Ns.live{h:Heap}(x:h.Ns a m):∃o,h.get? a=some o:=by
 obtain⟨o,_,_,ho,_⟩:=x;exact⟨o,ho⟩
def uD{h:Heap}(x:h.IsCell a v):(∃o,h.get? a=some o)/\∀t vs k,h.get? a≠some (cb t vs k):=by
 obtain⟨o,ho,Y⟩:=x;exact⟨⟨o,ho⟩,λt vs k e=>nomatch Y.symm.trans (aE Obj.data (ay (ho.symm.trans e)))⟩
def eY.apart(t:eY env c)(H:(x,i,b)∈c.a)(C:(x',L,G)∈c.a):(x',L,G)=(x,i,b)\/(x'≠x/\i≠L):=by
 by_cases e:(x,i,b)=(x',L,G)
 .exact .inl e.symm
 .exact .inr ⟨λq=>e (t.inj _ H _ C (.inl q.symm)),λq=>e (t.inj _ H _ C (.inr q))⟩
section
variable{A:Around}{E:Value->Shared->Prop}{s:Shared}{σ:St}{μ:Mu}
abbrev j_(env:Env)(x:Str)(b:Bool)(a:Addr):Prop:=if b then env.cells.lookup x=some a else a=env.locals
def j_.jr(h:j_ env x b a):c8 env a:=by
 induction b with
 |false=>exact .inl h|true=>exact .inr ⟨x,h⟩
def O1{env:Env}(hE:eY env c)(F:FR X env c.a ρ σ μ s.heap)(R:SR X σ μ s.heap)(H:(x,i,b)∈c.a)(r:aq s.heap (au σ μ) μ v y)
  (k:∀h' t,SR X σ μ h'->bf s.heap σ μ h' σ μ (j_ env x b)->FR X env c.a (ρ.set i (some v)) σ μ h'->Q () {s with heap:=h',toks:=t}):wpAny (model X.a X.w) A (storeName env x y) Q E s:=by
 have U:=hE.d x i b H;rw[<-hE.kindOf]at U;have N:=F.d;have G:∀{h':Heap} {a:Addr} (t:Nat),(∀z,j_ env x b z↔z=a)->Heap.SameBut a s.heap h'->(∃o,h'.get? a=some o)->(∀t vs k,h'.get? a≠some (cb t vs k))->
   (Kp s.heap h' (au σ μ) (au σ μ) μ μ->(∃m,h'.Ns env.locals m/\∀x' L,(x',L,false)∈c.a->∀w,(ρ.set i (some v))[L]?=some (some w)->∃y,m x'=some y/\aq h' (au σ μ) μ w y)/\
    ∀x' L,(x',L,true)∈c.a->∃a ov,env.cells.lookup x'=some a/\h'.IsCell a ov/\∀w,(ρ.set i (some v))[L]?=some (some w)->∃y,ov=some y/\aq h' (au σ μ) μ w y)->Q () {s with heap:=h',toks:=t}:=λ{h' a} t ht n O2 rn f=>by
  have h:∀b o,s.heap.get? b=some o->¬ j_ env x _ b->h'.get? b=some o:=λb o e na=>(n.2 b λq=>na ((ht b).mpr q)).trans e;have j:∀b o,s.heap.get? b=some o->∃o',h'.get? b=some o':=λb o e=>by
   by_cases q:b=a
   .exact q▸O2
   .exact⟨o,(n.2 b q).trans e⟩
  have K:Kp s.heap h' (au σ μ) (au σ μ) μ μ:=⟨λa t vs k e no=>⟨h a _ e λq=>N a q.jr t vs k e,no⟩,λa vs k e=>h a _ e λq=>N a q.jr _ vs k e,λ_ _ e=>e⟩;obtain⟨R',E'⟩:=R.frame (Z:=j_ env x _) h (λa q=>F.j a q.jr) (λa q=>F.d a q.jr) j;obtain⟨f1,f2⟩:=f K;refine k h' t R' E' ⟨f1,f2,F.j,λb T t vs q e=>?_,λb T=>?_,F.l,F.p⟩
  .by_cases Y:b=a
   .rw[Y]at e;exact rn t vs q e
   .rw[n.2 b Y]at e;exact N b T t vs q e
  .obtain⟨o,ho⟩:=F.b b T;exact j b o ho
 have I:∀{h' L w} {o:Option Value},Kp s.heap h' (au σ μ) (au σ μ) μ μ->i≠L->(ρ.set i (some v))[L]?=some (some w)->(∀w,ρ[L]?=some (some w)->∃y,o=some y/\aq s.heap (au σ μ) μ w y)->∃y,o=some y/\aq h' (au σ μ) μ w y:=λK hi hw f=>by
  rw[O0 hi]at hw;obtain⟨z,h1,h2⟩:=f _ hw;exact⟨z,h1,K.rep h2⟩
 induction b with
 |false=>
  obtain⟨m,hm,B⟩:=F.k;refine wpAny_storeName_local U hm (λh' g n=>?_) (by rw[hE.a];rfl);refine G _ (λz=>Iff.rfl) n (Ns.live g) (Ns.uC g) λK=>⟨⟨_,g,λx' L C w hw=>?_⟩,λx' L C=>?_⟩
  .rcases hE.apart H C with e |e
   .injection e with e1 e2
    injection e2 with e2
    rw[e2]at hw;rw[gJ hw,ah e1];exact⟨y,rfl,K.rep r⟩
   .rw[ab e.1];exact I K e.2 hw (B x' L C)
  .obtain⟨a,ov,h1,h2,h3⟩:=F.g x' L C
   refine⟨a,ov,h1,uk h2 λo e=>(n.2 a (F.l x' a h1)).trans e,λw hw=>?_⟩;rcases hE.apart H C with e |e
   .exact nomatch e
   .exact I K e.2 hw h3
 |true=>
  obtain⟨a,ov,h1,h2,h3⟩:=F.g x i H;refine wpAny_storeName_cell hE.a U h1 h2 λh' g n=>?_;obtain⟨m,hm,B⟩:=F.k;refine G _ (λz=>⟨λq=>ay ((show env.cells.lookup x=some z from q).symm.trans h1),λq=>q▸h1⟩) n (uD g).1 (uD g).2 λK=>⟨⟨m,q7 hm λo e=>(n.2 _ (Ne.symm (F.l x a h1))).trans e,λx' L C w hw=>?_⟩,λx' L C=>?_⟩
  .rcases hE.apart H C with e |e
   .exact nomatch e
   .exact I K e.2 hw (B x' L C)
  .rcases hE.apart H C with e |e
   .injection e with e1 e2
    injection e2 with e2
    refine⟨a,some y,e1▸h1,g,λw hw=>?_⟩;rw[e2]at hw;rw[gJ hw];exact⟨y,rfl,K.rep r⟩
   .obtain⟨p,O3,u,J,O4⟩:=F.g x' L C
    exact⟨p,O3,u,uk J λo e'=>(n.2 p λY=>e.1 (F.p x' x a (Y▸u) h1)).trans e',λw hw=>I K e.2 hw O4⟩
def DW(Y:eY env c)(F:FR X env c.a ρ σ μ s.heap)(R:SR X σ μ s.heap)(H:(x,i,b)∈c.a)(r:aq s.heap (au σ μ) μ v y)
  (k:∀h' t,SR X σ μ h'->bf s.heap σ μ h' σ μ (j_ env x b)->FR X env c.a (ρ.set i (some v)) σ μ h'->Q () {s with heap:=h',toks:=t}):wpAny (model X.a X.w) A (assign (.Name x pos) env y) Q E s:=by
 rw[arm_assign_Name];exact aj (cR (wpAny_bindName (O1 Y F R H r k)))
end
abbrev b8.Pre(h:Heap)(σ:St)(μ:Mu):b8->Prop
 |.d l a=>aq h (au σ μ) μ (.p l) (.ref a)|.g l a=>aq h (au σ μ) μ (.r l) (.ref a)|.c i l m=>μ[i]?=some m|.f _=>True
def b8.Ok.pre{h σ μ}{src:b8}(o:src.Ok h σ μ):src.Pre h σ μ:=by
 induction src with
 |c i l m=>exact o.1|_=>exact o
def b8.Pre.ext{h σ μ h' aw aF}{src:b8}(o:src.Pre h σ μ)(R:SR X σ μ h)(a:bf h σ μ h' aw aF Z)(hz:cF h Z):src.Pre h' aw aF:=by
 induction src with
 |d l b=>exact aq.ext o R a hz|g l b=>exact aq.ext o R a hz|c i l m=>exact a.d _ _ o|f _=>trivial
def b8.Pre.watch{h σ μ}{src:b8}(o:src.Pre h σ μ)(e:Mine.Lake.ln src.guard σ=some (u,j)):src.Ok h σ μ/\j=σ:=by
 have s:∀{x:Unit},some (x,σ)=some (u,j)->j=σ:=λe=>(aE Prod.snd (ay e)).symm
 induction src with
 |d l b=>exact⟨o,s e⟩|g l b=>exact⟨o,s e⟩|f n=>exact⟨trivial,s e⟩|c i l m=>
  obtain⟨ob,ho,e⟩:=a9 (x:=σ[i]?) e;obtain⟨l',Y,e⟩:=a9 e;obtain⟨T,e⟩:=bN e;rw[jn Y]at ho;exact⟨⟨o,(V.xC l l').mp T▸ho⟩,s e⟩
def b8.At.noSeq{src:b8}(x:src.At h I k):cF h λa=>a=I:=λa G t vs n e=>by
 obtain⟨o,h1,h2⟩:=x.live;exact h2 t vs n (ay (h1.symm.trans (G▸e)))
def O5{src:b8}(h:src.At s.heap I k)(q:Q (.ref I) s):wpAny (model X.a X.w) A (pyIter (.ref I)) Q E s:=by
 induction src with
 |d l a=>exact wpAny_pyIter_tupleiter h q|g l a=>exact wpAny_pyIter_listiter h q|c i l m=>exact wpAny_pyIter_listiter h q|f n=>exact wpAny_pyIter_rangeiter h q
abbrev fX(env:Env):List (Str×NameKind)->List (Str×Addr)->List (Str×Addr)
 |[],acc=>acc|(x,k)::r,acc=>fX env r (if k==.free then(x,(env.cells.lookup x).getD 0)::acc else acc)
def DX(names:List (Str×NameKind)):∀(acc:List (Str×Addr)),(∀x a,acc.lookup x=some a->env.cells.lookup x=some a)->(∀x,(x,NameKind.free)∈names->(env.cells.lookup x).isSome=true)->
  (∀x a,(fX env names acc).lookup x=some a->env.cells.lookup x=some a)/\(∀x,((x,NameKind.free)∈names\/(acc.lookup x).isSome=true)->((fX env names acc).lookup x).isSome=true):=by
 induction names with
 |nil=>exact λacc h1 Q=>⟨h1,λx H=>H.elim (λq=>nomatch q) id⟩|cons p r ih=>
  intro acc h1 h2;obtain⟨y,k⟩:=p;have C:∀x,(x,NameKind.free)∈r->(env.cells.lookup x).isSome=true:=λx H=>h2 x (b5 _ H);by_cases U:k=NameKind.free
  .rw[U]at h2 ⊢
   show(∀x a,(fX env r ((y,(env.cells.lookup y).getD 0)::acc)).lookup x=some a->_)/\∀x,_->((fX env r ((y,(env.cells.lookup y).getD 0)::acc)).lookup x).isSome=true;obtain⟨v,B⟩:=qm.mp (h2 y (.head _));obtain⟨a,b⟩:=ih ((y,(env.cells.lookup y).getD 0)::acc) (λx a h=>by
    rw[mv]at h;by_cases q:x=y
    .rw[q,jO,B]at h;rw[q,B];exact h
    .rw[cB.mpr q]at h;exact h1 x a h) C
   refine⟨a,λx H=>b x ?_⟩;by_cases q:x=y
   .right;rw[mv,q,jO];rfl
   .refine H.imp (λm=>(bH.mp m).elim (λe=>absurd (aE Prod.fst e) q) id) λm=>?_
    rw[mv,cB.mpr q];exact m
  .have J:(k==NameKind.free)=false:=cB.mpr U
   show(∀x a,(fX env r (if k==.free then _ else acc)).lookup x=some a->_)/\∀x,_->((fX env r (if k==.free then _ else acc)).lookup x).isSome=true;rw[J,ab dV];obtain⟨a,b⟩:=ih acc h1 C;exact⟨a,λx H=>b x (H.imp (λq=>(bH.mp q).elim (λe=>absurd (aE Prod.snd e).symm U) id) id)⟩
def O6(h:∀x,(x,NameKind.free)∈scope.names->(env.cells.lookup x).isSome=true):closureFor scope env=pure (fX env scope.names []):=by
 have G:∀(names:List (Str×NameKind)) (acc:List (Str×Addr)),(∀x,(x,NameKind.free)∈names->(env.cells.lookup x).isSome=true)->
   (forIn names acc λx Y=>if x.2==NameKind.free then(do let a <-cellOf env x.1;pure (.yield ((x.1,a)::Y)))else pure (.yield Y):Sem (List (Str×Addr)))=pure (fX env names acc):=λnames=>by
  induction names with
  |nil=>intro acc _;rfl|cons x r ih=>
   intro acc h;obtain⟨y,k⟩:=x;have C:=ih (if k==.free then(y,(env.cells.lookup y).getD 0)::acc else acc) λx H=>h x (b5 _ H);rw[List.forIn_cons];unfold fX;cases U:k==NameKind.free with
   |false=>rw[U]at C;simp only[U,je,jf,pure_bind]at C ⊢;exact C|true=>
    obtain rfl:k=NameKind.free:=by simpa using U
    obtain⟨v,B⟩:=qm.mp (h y (by simp));have o:cellOf env y=pure v:=by unfold cellOf;rw[B]
    rw[U]at C;simp only[U,qo,o,pure_bind,B,Option.getD_some]at C ⊢;exact C
 unfold closureFor;have:=G scope.names [] h;simp only[bind_pure];rw[<-this]
structure lB(scope:Scope)(c c':dN)(x:Str)(i:Nat):Prop where
 a:scope.kind=.function
 m:∀y∈scope.names,y.2=.local->scope.names.lookup y.1=some .local
 l:∀y∈scope.names,y.2≠.cell
 f:∀y,(y,NameKind.free)∈scope.names->∃j,(y,j,true)∈c.a
 o:c'.b=scope.names.map λ(n,k)=>if(k==.free&&true&&c.b.lookup n==some .cell)then(n,.cell)else(n,k)
 g:(x,i,false)∈c'.a
 d:∀y j b,(y,j,b)∈c'.a->(b=false->j=i)/\(b=true->(y,j,true)∈c.a/\(y,NameKind.free)∈scope.names/\j≠i)
 h:∀y j b,(y,j,b)∈c'.a->c'.b.lookup y=some (if b then .cell else .local)
 inj:∀e∈c'.a,∀e'∈c'.a,e.1=e'.1\/e.2.1=e'.2.1->e=e'
abbrev XZ(scope:Scope)(env:Env)(L:Addr):Env:={newEnv scope L env.globals (fX env scope.names []) env.qual none .none (some env) 0 with scope:=relabel scope env}
def O7(h:lB scope c c' x i)(t:eY env c)(L:Addr)(b:Addr):eY {newEnv scope L env.globals (fX env scope.names []) env.qual none .none (some env) b with scope:=relabel scope env} c' where
 a:=h.a
 f:=t.f
 g:=t.g
 j:=by
  show(relabel scope env).names=c'.b;rw[h.o];unfold relabel;dsimp only;apply xf;intro y _;obtain⟨n,k⟩:=y;dsimp only;rw[t.kindOf,t.a];rfl
 d:=h.h
 inj:=h.inj
def O8{scope:Scope}{h:Heap}(ok:lB scope c c' x i)(F:FR X env c.a ρ σ μ h')(R:SR X σ μ h')(Y:cenv.locals=L)(g:cenv.cells=fX env scope.names [])
  (E:h.get? L=none) (T:X.b.get? L=none) (ho:¬ au σ μ L) (N:∀a,c8 env a->∃o,h.get? a=some o) (u:h'.Ns L m):FR X cenv c'.a (ρ.set i none) σ μ h':=by
 have k:∀y,(y,NameKind.free)∈scope.names->(env.cells.lookup y).isSome=true:=λy U=>by
  obtain⟨j,Q⟩:=ok.f y U;obtain⟨a,_,h1,_⟩:=F.g y j Q;rw[h1];rfl
 obtain⟨f,J⟩:=DX (env:=env) scope.names [] (λx a e=>bl e) k;have I:∀y a,cenv.cells.lookup y=some a->c8 env a:=λy a e=>.inr ⟨y,f y a (g▸e)⟩;have r:∀a,c8 env a->a≠L:=λa G q=>by obtain⟨o,e⟩:=N a G;rw[q,E]at e;exact bl e
 refine⟨⟨m,Y▸u,λy j U v B=>?_⟩,λy j U=>?_,λa G=>?_,λa G t vs q e=>?_,λa G=>?_,λy a e=>?_,λy z a e e'=>F.p y z a (f y a (g▸e)) (f z a (g▸e'))⟩
 .have Q:=(ok.d y j false U).1 rfl
  rw[Q]at B;have hi:=jY B;rw[jc]at hi;rw[qg hi]at B;exact bl (ay B)
 .obtain⟨h1,h2,h3⟩:=(ok.d y j true U).2 rfl
  obtain⟨a,ov,e1,w,H⟩:=F.g y j h1;have s:=J y (.inl h2);obtain⟨p,n⟩:=qm.mp s;have:=ay ((f y p n).symm.trans e1);refine⟨a,ov,g▸this▸n,w,λv B=>H v ?_⟩;rw[qh (Ne.symm h3)]at B;exact B
 .rcases G with G |⟨y,U⟩
  .rw[G,Y];exact⟨ho,T⟩
  .exact F.j a (I y a U)
 .rcases G with G |⟨y,U⟩
  .rw[G,Y]at e;exact Ns.uC u t vs q e
  .exact F.d a (I y a U) t vs q e
 .rcases G with G |⟨y,U⟩
  .rw[G,Y];exact Ns.live u
  .exact F.b a (I y a U)
 .rw[Y];exact r a (I y a e)
end Mine.Lake.S
namespace Mine.Lake.S
variable{B:Bd}{S:Sc}{f:Expr->CE}
@[inline]abbrev KI:=Option (Nat×List V)->List V->St->Prop
abbrev SI(B:Bd)(S:Sc)(it:mE)(x:Expr):Prop:=∀E d ρ (K:KI) Q,c9 B S d ρ->DH B.C it ρ K d.σ->
 (∀d' y src,Go B.X No d d'->src.Ok d'.s.heap d'.σ d'.μ->Dl B.X d'.s y src->K src.guard src.items d'.σ->Q y d'.s)->W B (eval x S.a) Q E d
def yq(h:SE B S e x):SI B S (.a e) x:=λE d ρ K Q p w k=>
 h E d ρ (λx σ=>bQ (lm x σ) λp σ=>K p.1 p.2 σ) _ p w λC v y g r w1=>by
  obtain⟨q,σ,e,h1⟩:=cZ w1;obtain⟨src,L,T,N⟩:=Dm g.j r e;rw[show q=_ from aE Prod.fst L,show σ=C.σ from aE Prod.snd L]at h1;exact k C y src g T N h1
def O9(hf:∀x,aU B S (f x) x)(H:B.G.lookup x=some (.a "range"))(U:S.c.b.lookup x=some .globalImplicit)(Y:(x==Str.ofString "__debug__")=false)(N:cV y=true):
  SI B S (.b (f y)) (.Call (.Name x n) [y] [] pos):=λE d ρ K Q p w k=>
 DO hf (g:=.type "range") (.inr ⟨_,rfl,H⟩) U Y N (K:=λx σ=>bQ (CL x σ) λp σ=>K p.1 p.2 σ) p w λC v z g r w1=>by
  obtain⟨q,σ,e,h1⟩:=cZ w1;obtain⟨i,hi,e⟩:=a9 e;obtain⟨o,e⟩:=bN e;have e:=ay e;rw[<-show _=q from aE Prod.fst e,<-show _=σ from aE Prod.snd e]at h1;rw[jm hi]at r;obtain⟨t,T⟩:=r;rw[T];have j:=CI.mp (bh.mp o).1;refine call_range_1 ?_;obtain⟨L,J⟩:=g.j.push {cls:=.type "range",data:=.fields #[.int 0 C.s.toks,.int i t,.int 1 (C.s.toks+1)]};refine k ⟨_,_,_⟩ _ (.f i.toNat) (g.trans ⟨L,J,rfl,rfl⟩) trivial (λA E' K c=>?_) h1;have hsz:Builtin.Range.rangeSize 0 i 1=(i.toNat:Int):=by
   rw[rangeSize_one];by_cases h:(0:Int) < i
   .rw[ah h];exact "~fDAjbHr;;3SvCIV_0P3pjk3oO5^gT112BCM<" oe h
   .rw[ab h];exact "~2ma7DWe_Wg|cN=kcJEQb>??cjuk3MGAsRy65" oe h
  refine wpAny_pyIter_range (IsRange.new ..) (small_one (by decide) (by decide) (by lia) (by lia)) (c _ ?_);show IsRangeIter _ _ ((0:Nat):Int) ((i.toNat:Int) - (0:Nat)) 1;rw[hsz];show IsRangeIter _ _ (0:Int) ((i.toNat:Int) - (0:Int)) 1;rw[Int.sub_zero];exact iE _ rfl
structure yr(X:dj)(c:dN)(env:Env)(src:b8)(I:Addr)(Φ:ba->Prop)(d:D)(k:Nat):Prop where
 a:SR X d.σ d.μ d.s.heap
 f:∃ρ,Φ ρ/\FR X env c.a ρ d.σ d.μ d.s.heap
 g:src.At d.s.heap I k
 b:src.Pre d.s.heap d.σ d.μ
 e:¬ au d.σ d.μ I
def uE{src:b8}(g:Go X Z d d')(R:SR X d.σ d.μ d.s.heap)(hz:cF d.s.heap Z)(L:src.At d.s.heap I k)(J:src.Pre d.s.heap d.σ d.μ)(ho:¬ au d.σ d.μ I)(N:¬ Z I):
  src.At d'.s.heap I k/\src.Pre d'.s.heap d'.σ d'.μ/\¬ au d'.σ d'.μ I:=
 ⟨L.at_ λo e=>g.k.g _ _ e ho N,J.ext R g.k hz,λq=>(g.k.f I q).elim ho λq=>by obtain⟨o,h1,_⟩:=L.live;exact bl (q.symm.trans h1)⟩
def mU{l:List α}(h:l.drop k=v::r):l[k]?=some v/\l.drop (k+1)=r/\k < l.length:=by
 have h1:l[k]?=some v:=by have:=aE (λl=>l[0]?) h;rw[tI]at this;exact this
 exact⟨h1,by have:=aE List.tail h;rw[List.tail_drop]at this;exact this,(bW.mp h1).1⟩
@[inline]abbrev oH(L I:Addr):Addr->Prop:=λa=>a=I\/a=L
def O'{I:Addr}{ρ:ba}(H:(x,i,false)∈S.c.a)(hb:B.X.b.get? I=none)(C:¬ c8 S.a I){step:V->(St->Prop)->St->Prop}
  {P:Shared->Prop} {Wb:Value->(Shared->Prop)->Shared->Prop}
  (ys:∀d v y (Kc:St->Prop) (Q:Shared->Prop),Go B.X (oH S.a.locals I) d0 d->c9 B S d (ρ.set i (some v))->step v Kc d.σ->(∀d',Go B.X No d d'->Kc d'.σ->Q d'.s)->Wb y Q d.s)
  (O_:∀d',Go B.X (oH S.a.locals I) d0 d'->Ke d'.σ->(∃m,d'.s.heap.Ns S.a.locals m)->P d'.s):
  ∃J:Nat->Shared->Prop,(∀m s,J m s->wpAny (model B.X.a B.X.w) B.A (pyNext (.ref I)) (λr s₁=>match r with
    |none=>P s₁|some v=>wpAny (model B.X.a B.X.w) B.A (assign (.Name x px) S.a v) (λ_ yt=>Wb v (λY=>∃m',m' < m/\J m' Y) yt) E' s₁) E' s)/\
   (∀d,yr B.X S.c S.a src I (λc_=>∃w,c_=ρ.set i w) d 0->Go B.X (oH S.a.locals I) d0 d->eu step src.guard src.items Ke d.σ->∃m,J m d.s):=by
 refine⟨λm s=>∃d k,d.s=s/\m+k=src.items.length+1/\yr B.X S.c S.a src I (λc_=>∃w,c_=ρ.set i w) d k/\Go B.X (oH S.a.locals I) d0 d/\eu step src.guard (src.items.drop k) Ke d.σ,?_,λd t g w=>⟨_,d,0,rfl,rfl,t,g,w⟩⟩;rintro m _ ⟨d,k,rfl,hm,⟨R,⟨_,⟨w0,rfl⟩,F⟩,L,hp,ho⟩,g0,w⟩;have ro:∀c,c=I->¬ c8 S.a c:=λc h=>h▸C;generalize hd:src.items.drop k=E
 induction E using bo with
 |nil=>
  rw[hd]at w;obtain⟨u,A,e,h⟩:=cZ w;obtain⟨T,rfl⟩:=hp.watch e;refine x1 B.b.b R L T hb ho (by simpa using hd) λh' t R1 z=>?_;have F1:=F.ext R z L.noSeq ro;exact O_ ⟨{d.s with heap:=h',toks:=t},d.σ,d.μ⟩ (g0.trans ⟨R1,z.weaken λa G=>.inl G,rfl,rfl⟩) h (let ⟨m,h,_⟩:=F1.k;⟨m,h⟩)
 |cons v rest=>
  rw[hd]at w;obtain⟨hv,p,U⟩:=mU hd;obtain⟨u,A,e,h⟩:=cZ w;obtain⟨T,rfl⟩:=hp.watch e;refine x0 R L T hb ho hv λh' t y R1 z Pa ry=>?_;have F1:=F.ext R z L.noSeq ro;refine DW (s:={d.s with heap:=h',toks:=t}) S.b F1 R1 H ry λh2 o q E2 N=>?_;rw[kR]at N;have E2:=E2.weaken (Z':=λa=>a=S.a.locals) λa G=>G;have j:Go B.X (oH S.a.locals I) d ⟨{d.s with heap:=h2,toks:=o},d.σ,d.μ⟩:=⟨q,(z.weaken λa G=>Or.inl G).trans (E2.weaken λa G=>.inr G),rfl,rfl⟩;obtain⟨Pb,yu,rk⟩:=uE (d:=⟨{d.s with heap:=h',toks:=t},d.σ,d.μ⟩) (d':=⟨{d.s with heap:=h2,toks:=o},d.σ,d.μ⟩) ⟨q,E2,rfl,rfl⟩ R1 (λa G=>F1.d a (.inl G)) Pa (hp.ext R z L.noSeq) ho λh=>C (.inl h);refine ys _ v y (λσ=>eu step src.guard rest Ke σ) _ (g0.trans j) ⟨N,q⟩ h λd3 g3 h3=>?_;obtain⟨mV,n,rp⟩:=uE g3 q (cF.no _) Pb yu rk (λf=>f);exact⟨m - 1, "~2B04E7ZgG>Z;j5235tI>VmZ" ao hm U,d3,k+1,rfl, "~2HhjUzIMjtQxKsmnTF?F3TOp30TTA_PkBKaLkV" ao hm U,⟨g3.j,⟨_,⟨_,rfl⟩,N.C0 q g3.k⟩,mV,n,rp⟩,(g0.trans j).trans g3.no,by rw[p];exact h3⟩
structure uG(X:dj)(d d':D)(r:Nat)(L a:Addr):Prop where
 f:Go X No d d'
 l:d'.μ[r]?=some (a,a)
 n:d.s.heap.get? L=none
 u:X.b.get? L=none
 k:¬ au d'.σ d'.μ L
 p:∀(i:Nat) (m:Addr×Addr),d'.μ[i]?=some m->m.1≠L/\m.2≠L
 h:∃m,d'.s.heap.Ns L m
def Yq{h h':Heap}(U:∀b o,h.get? b=some o->h'.get? b=some o)(e:h'.get? a=none):h.get? a=none:=by
 generalize q:h.get? a=E
 induction E using aX with
 |none=>rfl|some o=>exact bl (e.symm.trans (U a o q))
def DY{new:Sem Value}{x:Str}{E d ρ}{Q:Value->Shared->Prop}(ok:lB scope S.c c' x i)(N:SI B S it G)(z:fW G=true)
  (dY:clausesOf node=[⟨.Name x px,G,ifs,0⟩]) (Pc:∀{Q E s},Q (.ref s.heap.objs.size) {s with heap:=s.heap.push obj}->wpAny (model B.X.a B.X.w) B.A new Q E s) (oz:obj.isFreed=false) (Pd:o0≠.d)
  (Pe:∀{h:Heap} {ω μ a},h.get? a=some obj->ds B.X h ω μ o0 (a,a))
  (Wb:Addr->Env->(Result->Shared->Prop)->Value->(Shared->Prop)->Shared->Prop)
  (rule:∀(I a:Addr) (cenv:Env) (R:Result->Shared->Prop) (s:Shared) (J:Nat->Shared->Prop) (m:Nat),(∀m s,J m s->wpAny (model B.X.a B.X.w) B.A (pyNext (.ref I)) (λr s₁=>match r with
    |none=>R (.ok .next) s₁|some v=>wpAny (model B.X.a B.X.w) B.A (assign (.Name x px) cenv v) (λ_ yt=>Wb a cenv R v (λY=>∃m',m' < m/\J m' Y) yt) (notedBy (model B.X.a B.X.w) B.A cenv λe s'=>R (.error e) s') s₁) (notedBy (model B.X.a B.X.w) B.A cenv λe s'=>R (.error e) s') s)->
   J m s->(∀{Q E},Q (.ref I) s->wpAny (model B.X.a B.X.w) B.A (pyIter (.ref I)) Q E s)->codeAny (model B.X.a B.X.w) B.A (.compStart node 0 (.ref I) (.ref a) cenv) R s)
  (step:V->V->(St->Prop)->St->Prop) (Ke:V->St->Prop)
  (ys:∀(T:Env) (t:eY T c') (a:Addr) (R:Result->Shared->Prop) (r:Nat) d v y (Kc:St->Prop) (Q:Shared->Prop),d.μ[r]?=some (a,a)->c9 B ⟨c',T,t⟩ d (ρ.set i (some v))->step (.o r) v Kc d.σ->(∀d',Go B.X No d d'->Kc d'.σ->Q d'.s)->Wb a T R y Q d.s)
  (p:c9 B S d ρ) (w:DH B.C it ρ (λg xs σ=>bm (gj o0 σ) λr σ=>eu (step r) g xs (Ke r) σ) d.σ)
  (k:∀d' r L a,uG B.X d d' r L a->Ke (.o r) d'.σ->compPost (model B.X.a B.X.w) B.A E use Q (.ref a) L (.ok .next) d'.s):
  W B (comprehension node scope S.a pos' new false (eval G S.a) use) Q E d:=by
 have DZ:∀y,(y,NameKind.free)∈scope.names->(S.a.cells.lookup y).isSome=true:=λy hy=>by
  obtain⟨j,hj⟩:=ok.f y hy;obtain⟨a,_,h1,_⟩:=p.j.g y j hj;rw[h1];rfl
 refine wpAny_comprehension_free (g:=⟨.Name x px,G,ifs,0⟩) (gs:=[]) dY (DL z) (O6 DZ) ok.a ok.m ?_;refine N E d ρ _ _ p w λC y src A Pf yv w1=>yv _ _ _ λo hI=>Pc ?_;have w1:eu (step (.o C.σ.length)) src.guard src.items (Ke (.o C.σ.length)) (C.σ++[o0]):=w1.h;obtain⟨R2,E2⟩:=A.j.push o;have g2:Go B.X No C ⟨{C.s with heap:=C.s.heap.push o},C.σ,C.μ⟩:=⟨R2,E2,rfl,rfl⟩;obtain⟨U,uH⟩:=Go.alloc (d:=⟨{C.s with heap:=C.s.heap.push o},C.σ,C.μ⟩) R2 (h':=(C.s.heap.push o).push obj) (o:=o0) (m:=((C.s.heap.push o).objs.size,(C.s.heap.push o).objs.size))
  (λa ob e=>gf _ e) Pd (fT _) (fT _) λbD aF K=>Pe (iE _ oz)
 generalize hA:(C.s.heap.push o).objs.size=a at U uH ⊢;dsimp only at U uH ⊢;refine wpAny_newFunctionEnv ok.l (λy hy=>by simp at hy) (λh4 u n=>?_) ok.a;dsimp only at u n ⊢;generalize hL:((C.s.heap.push o).push obj).objs.size=L at u n ⊢;generalize D0:C.s.heap.objs.size=I at hI ⊢;have mW:((C.s.heap.push o).push obj).get? L=none:=hL▸fT _;have hIn:C.s.heap.get? I=none:=D0▸fT _;have R3:=U.j;have D1:∀b ob,((C.s.heap.push o).push obj).get? b=some ob->h4.get? b=some ob:=λb ob q=>
  (n.2 b λe=>by rw[e,mW]at q;cases q).trans (gf _ q)
 obtain⟨R4,E4⟩:=R3.grow D1;have g4:Go B.X No C ⟨{C.s with heap:=h4,toks:=C.s.toks+0},C.σ++[o0],C.μ++[(a,a)]⟩:=⟨R4,(E2.trans U.k).trans E4,rfl,rfl⟩;have yw:d.s.heap.get? L=none:=((A.trans g2).trans U).k.none_of mW;have D4:d.s.heap.get? I=none:=A.k.none_of hIn;have bL:B.X.b.get? L=none:=R3.lq mW;have oL:¬ au (C.σ++[o0]) (C.μ++[(a,a)]) L:=R3.ou mW;have t:=O7 ok S.b L S.a.builtins;generalize yx:({newEnv scope L S.a.globals (fX S.a scope.names []) S.a.qual none .none (some S.a) S.a.builtins with scope:=relabel scope S.a}:Env)=cenv at t;have dY:cenv.locals=L:=by rw[<-yx];rfl
 have mZ:cenv.cells=fX S.a scope.names []:=by rw[<-yx];rfl
 have F4:=(p.after (A.trans g4)).j;have FI:=O8 (L:=L) (h:=d.s.heap) (cenv:=cenv) ok F4 R4 dY mZ yw bL oL p.j.b u;have rq:src.At h4 I 0:=hI.at_ λob q=>D1 _ _ (gf _ q);have oI:¬ au (C.σ++[o0]) (C.μ++[(a,a)]) I:=λq=>(U.k.f I q).elim (A.j.ou hIn) λq=>by obtain⟨ob,h1,_⟩:=hI.live;rw[h1]at q;cases q
 have st:¬ c8 cenv I:=λq=>by
  rcases q with q |⟨y,hy⟩
  .obtain⟨ob,h1,_⟩:=hI.live
   have:=gf obj h1;rw[q,dY,mW]at this;cases this
  .obtain⟨q1,_⟩:=DX (env:=S.a) scope.names [] (λx a e=>by simp at e) DZ
   obtain⟨ob,q⟩:=p.j.b I (.inr ⟨y,q1 y I (mZ▸hy)⟩);rw[D4]at q;cases q
 have live:h4.get? L≠none:=λq=>by obtain⟨_,_,_,q2,_⟩:=u;rw[q]at q2;cases q2
 have ne3:∀(j:Nat) (m:Addr×Addr),(C.μ++[(a,a)])[j]?=some m->m.1≠L/\m.2≠L:=λj m q=>by
  obtain⟨_,_,⟨_,q1⟩,⟨_,q2⟩⟩:=R3.p j m q;exact⟨λe=>(by rw[e,mW]at q1;cases q1),λe=>(by rw[e,mW]at q2;cases q2)⟩
 obtain⟨J,turn,init⟩:=O' (B:=B) (S:=⟨c',cenv,t⟩) (src:=src) (I:=I) (ρ:=ρ) (px:=px) ok.g (A.j.lq hIn) st (d0:=⟨{C.s with heap:=h4,toks:=C.s.toks+0},C.σ++[o0],C.μ++[(a,a)]⟩)
  (step:=step (.o C.σ.length)) (Ke:=Ke (.o C.σ.length)) (P:=λs'=>compPost (model B.X.a B.X.w) B.A E use Q (.ref a) L (.ok .next) s') (Wb:=Wb a cenv (compPost (model B.X.a B.X.w) B.A E use Q (.ref a) L))
  (E':=notedBy (model B.X.a B.X.w) B.A cenv λe s'=>compPost (model B.X.a B.X.w) B.A E use Q (.ref a) L (.error e) s')
  (λd5 v y Kc Q' H p5 w5 k5=>ys cenv t a _ C.σ.length d5 v y Kc Q' (H.k.d _ _ uH) p5 w5 k5)
  (λd5 H w5 Pg=>k d5 C.σ.length L a ⟨⟨H.j,(((A.trans g4).no (Z:=oH cenv.locals I)).trans H).k.shrink λc hc=>.inr (hc.elim (λq=>q▸D4) λq=>(q.trans dY)▸yw),(A.p.trans g4.p).trans H.p⟩,
   H.k.d _ _ uH,yw,bL,λq=>(H.k.f L q).elim oL live,λj m hm=>(H.k.k j m hm).elim (ne3 j m) λq=>⟨λe=>live (e▸q.1),λe=>live (e▸q.2)⟩,dY▸Pg⟩ w5)
 obtain⟨m,hJ⟩:=init ⟨{C.s with heap:=h4,toks:=C.s.toks+0},C.σ++[o0],C.μ++[(a,a)]⟩ ⟨R4,⟨_,⟨none,rfl⟩,FI⟩,rq,Pf.pre.ext A.j g4.k (cF.no _),oI⟩ ⟨R4,bf.refl ..,rfl,rfl⟩ w1;have:=rule I a cenv _ _ J m turn hJ λ{Q E} q=>O5 (X:=B.X) rq q;rw[<-yx]at this;exact this
variable{f':Expr->CE}
def Ph(hf:∀x,aU B S (f x) x){m:List Expr}(Y:Nat.ble m.length 1=true){E d ρ K Q}(p:c9 B S d ρ)(w:fh B.C (m.map f) ρ K d.σ)(k:∀d' b,Go B.X No d d'->K b d'.σ->Q b d'.s):
  W B (forIn m true λc r=>if r=true then do let ok <-PySem.isTrue c S.a (eval c S.a);pure (ForInStep.yield ok)else pure (ForInStep.yield r)) Q E d:=by
 induction m using bo with
 |nil=>exact wpAny_tests_nil (k d true ⟨p.f,bf.refl ..,er.refl _⟩ w)|cons c m=>induction m using bo with
 |cons _ _=>exact b6 Y|nil=>
  refine wpAny_tests_one ((hf c).t E d ρ (Dz (fh B.C [] ρ) K) _ p w λC v g w1=>?_);obtain⟨b,T,h⟩:=iR w1;exact⟨b,T,k C b g (by induction b <;>exact h)⟩
def Pj{K:V->St->Prop}{E Q}(R:SR B.X d.σ d.μ d.s.heap)(hm:d.μ[i]?=some m)(T:d.R v y)(w:bm (cm .a (.o i) [v] d.σ) K)(k:KV B.X d K Q):W B (call (.builtin "list.append") [.ref m.1,y]) Q E d:=by
 obtain⟨vs,n,hsz,G,L⟩:=DT R hm T w k;refine n5 slot_list_append ⟨_,G,rfl⟩ entry_list_append ?_ (args_list_append _ _);show wpAny _ _ (updateSeq m.1 (·.push y)>>=λJ=>ret .none) _ _ d.s;exact aj (wpAny_updateSeq G rfl (aG ⟨.none,rfl,L⟩) (hz:=hsz) (_hz':=by rw[qp];exact w9 hsz))
def D6{it:mE}{E d ρ K}(rt:∀T (t:eY T c') x,aU B ⟨c',T,t⟩ (f' x) x)
  (ok:lB scope S.c c' x i) (N:SI B S it G) (rn:fW G=true) (hl:Nat.ble o.length 1=true) (p:c9 B S d ρ) (w:bK B.C (.E (f' elt) i it (o.map f')) ρ K d.σ)
  (k:∀d' r L a,uG B.X d d' r L a->bm (hO (.o r) d'.σ) K->compPost (model B.X.a B.X.w) B.A E use Q (.ref a) L (.ok .next) d'.s):
  W B (comprehension (.ListComp elt [⟨.Name x px,G,o,0⟩] scope pos) scope S.a n (newList []) false (eval G S.a) use) Q E d:=
 DY (o0:=.a []) (obj:={cls:=.type "list",data:=.seq ([]:List Value).toArray}) ok N rn rfl (λh=>wpAny_newList h) rfl nofun (λh=>⟨rfl,#[],0,h,.nil⟩)
  (λa cenv R v Q' s=>wpAny (model B.X.a B.X.w) B.A (forIn o true λc r=>if r=true then do let ok <-PySem.isTrue c cenv (eval c cenv);pure (ForInStep.yield ok)else pure (ForInStep.yield r)) (λok H=>
   if ok=true then wpAny (model B.X.a B.X.w) B.A (eval elt cenv) (λx yy=>wpAny (model B.X.a B.X.w) B.A (call (.builtin "list.append") [.ref a,x]) (λ_ Y=>Q' Y)
    (notedBy (model B.X.a B.X.w) B.A cenv λe s'=>R (.error e) s') yy) (notedBy (model B.X.a B.X.w) B.A cenv λe s'=>R (.error e) s') H
   else Q' H) (notedBy (model B.X.a B.X.w) B.A cenv λe s'=>R (.error e) s') s)
  (λI a cenv R s J m turn hJ h=>codeAny_compStart_list (codeAny_compLoop_tests J turn m hJ) (h (codeAny_compLoop_tests J turn m hJ)))
  (λr x k σ=>fh B.C (o.map f') (ρ.set i (some x)) (λb σ=>fg b (bK B.C (f' elt) (ρ.set i (some x)) (λv σ=>bm (cm .a r [v] σ) λ_ σ=>k σ) σ) (k σ)) σ) (λr σ=>bm (hO r σ) K)
  (λT t a R r d v y q Q hm p w k=>Ph (rt T t) hl p w λC b A w1=>by
   induction b using aS with
   |false=>exact k C A w1|true=>exact(rt T t elt).v _ C _ _ _ (p.after A) w1 λd2 u z j g w2=>Pj (m:=(a,a)) j.j ((A.trans j).k.d _ _ hm) g w2 λd3 _ _ U _ w3=>k d3 ((A.trans j).trans U) w3) p w k
def Go.freeze(R:SR X d.σ d.μ d.s.heap)(rx:d.R v x)(e:hO v d.σ=some (r,aw)):Go X No d ⟨d.s,aw,d.μ⟩/\D.R ⟨d.s,aw,d.μ⟩ r x:=
 have h:=N6 R rx e;⟨⟨h.1,h.2.1,rfl,rfl⟩,h.2.2⟩
def uG.drop(c:uG X d d' r L a)(g:Go X Z d' d2)(hz:¬ Z L)(v:d2.μ=d'.μ)(T:Heap.SameBut L d2.s.heap h'):
  SR X d2.σ d2.μ h'/\Kp d2.s.heap h' (au d2.σ d2.μ) (au d2.σ d2.μ) d2.μ d2.μ/\bf d.s.heap d.σ d.μ h' d2.σ d2.μ Z:=by
 obtain⟨m,Q⟩:=c.h;have ho:¬ au d2.σ d2.μ L:=λq=>(g.k.f L q).elim c.k λq=>by obtain⟨_,Y⟩:=Ns.live Q;exact bl (q.symm.trans Y)
 have i:d2.s.heap.Ns L m:=q7 Q λo e=>g.k.g _ _ e c.k hz;have U:∀b ob,d2.s.heap.get? b=some ob->¬ b=L->h'.get? b=some ob:=λb ob q nb=>(T.2 b nb).trans q;obtain⟨N,s⟩:=g.j.xQ (h':=h') (Z:=λb=>b=L) U (λb H=>H▸⟨ho,c.u⟩) (λb H t vs q e=>Ns.uC i t vs q (H▸e)) λj m hm=>c.p j m (v▸hm);exact⟨N,s,(c.f.no.trans g).k.Nj (Z':=λb=>b=L) (λb H=>H▸c.n) U⟩
def D7(U:∀T (t:eY T c') x,aU B ⟨c',T,t⟩ (f' x) x)
  (ok:lB scope S.c c' x i) (N:SI B S it G) (z:fW G=true) (Y:Nat.ble o.length 1=true):aU B S (.E (f' J) i it (o.map f')) (.ListComp J [⟨.Name x px,G,o,0⟩] scope pos):=dP (λE d ρ K Q p w k=>by
 unfold W;rw[arm_eval_ListComp];refine D6 U ok N z Y p w λC r L a c w1=>?_;obtain⟨m,u⟩:=c.h;refine⟨m,u,λh' n=>?_⟩;obtain⟨v,aw,e,h⟩:=cZ w1.h;obtain⟨j,g⟩:=Go.freeze c.f.j (.ref (m:=(a,a)) c.l) e;obtain⟨q,y,s⟩:=c.drop j (λf=>f) rfl n;exact k ⟨{C.s with heap:=h'},aw,C.μ⟩ v _ ⟨q,s,c.f.p.d,c.f.p.e⟩ (y.rep g) h) rfl
def Pk{K:Unit->St->Prop}{E}(R:SR B.X d.σ d.μ d.s.heap)(hm:d.μ[i]?=some m)(a:d.R k x)(T:d.R v y)(w:bm (t8 (.o i) k v d.σ) K)
  (c:∀d',Go B.X No d d'->K () d'.σ->Q () d'.s):W B (dictSet m.1 x y) Q E d:=by
 obtain⟨_,aw,e,h⟩:=cZ w.h;obtain⟨j,U,e⟩:=a9 (x:=gG k) e;obtain⟨o,ho,e⟩:=a9 (x:=d.σ[i]?) e;obtain⟨es,J,e⟩:=a9 e;obtain⟨G,e⟩:=bN e;rw[<-show _=aw from aE Prod.snd (ay e)]at h;rw[jm U]at a;obtain⟨t,ex⟩:=a;obtain⟨kvs,H,L,Y,g⟩:=lr J (R.g i o m ho hm);rw[ex];exact wpAny_dictSet_pairs (knd:=intKind B.X.a B.X.w) (k:=j) (kvs:=kvs) (n8 _ _ _ _) Y (λh' I N=>
  c _ (Go.upd (o:=.f (bn j v es)) R _ ho H hm nofun N λbD aF K=>⟨L,_,I,cw.stored (λC C e=>e) (cw.mono (λC C r=>K.rep r) g) (us Y) j (K.rep T)⟩) h) (hsz:=a0.length g▸gI G)
def Pl(o:∀T (t:eY T c') x,aU B ⟨c',T,t⟩ (f' x) x)
  (ok:lB scope S.c c' x i) (N:SI B S it G) (rn:fW G=true):aU B S (.Q (f' kx) (f' vx) i it) (.DictComp kx vx [⟨.Name x px,G,[],0⟩] scope pos):=dP (λE d ρ K Q p w k=>by
 unfold W;rw[arm_eval_DictComp];refine DY (o0:=.b) (obj:={cls:=.type "dict",data:=.dict #[]}) ok N rn rfl (λh=>xa h) rfl nofun (λh=>⟨rfl,0,h⟩)
  (λa cenv R v Q' s=>wpAny (model B.X.a B.X.w) B.A (forIn ([]:List Expr) true λc r=>if r=true then do let ok <-PySem.isTrue c cenv (eval c cenv);pure (ForInStep.yield ok)else pure (ForInStep.yield r)) (λok H=>
   if ok=true then wpAny (model B.X.a B.X.w) B.A (eval kx cenv) (λkv yy=>wpAny (model B.X.a B.X.w) B.A (eval vx cenv) (λvv Y=>wpAny (model B.X.a B.X.w) B.A (dictSet a kv vv) (λ_ Pm=>Q' Pm) (notedBy (model B.X.a B.X.w) B.A cenv λe s'=>R (.error e) s') Y) (notedBy (model B.X.a B.X.w) B.A cenv λe s'=>R (.error e) s') yy) (notedBy (model B.X.a B.X.w) B.A cenv λe s'=>R (.error e) s') H
   else Q' H) (notedBy (model B.X.a B.X.w) B.A cenv λe s'=>R (.error e) s') s)
  (λI a cenv R s J m turn hJ h=>codeAny_compStart_dict (codeAny_compLoop_testsD J turn m hJ) (h (codeAny_compLoop_testsD J turn m hJ)))
  (λr x k σ=>bK B.C (f' kx) (ρ.set i (some x)) (λa σ=>bK B.C (f' vx) (ρ.set i (some x)) (λy σ=>bm (t8 r a y σ) λ_ σ=>k σ) σ) σ) (λr σ=>K r σ)
  (λT t a R r d v y Kc Q hm p w k=>wpAny_tests_nil ((o T t kx).v _ d _ _ _ p w λC u z A r1 w1=>(o T t vx).v _ C _ _ _ (p.after A) w1 λd2 u2 z2 j g w2=>
   Pk (m:=(a,a)) j.j ((A.trans j).k.d _ _ hm) (j.rep A.j r1) g w2 λd3 U w3=>k d3 ((A.trans j).trans U) w3)) p w λC r L a c w1=>?_
 obtain⟨m,hn⟩:=c.h;refine⟨m,hn,λh' n=>?_⟩;obtain⟨q,K3,E3⟩:=c.drop (d2:=C) (Z:=No) ⟨c.f.j,bf.refl ..,er.refl _⟩ (λf=>f) rfl n;exact k ⟨{C.s with heap:=h'},C.σ,C.μ⟩ _ _ ⟨q,E3,c.f.p.d,c.f.p.e⟩ (.ref (m:=(a,a)) c.l) w1) rfl
end Mine.Lake.S
namespace Mine.Lake.S
variable{B:Bd}{S:Sc}{f:Expr->CE}
abbrev m0(f:Expr->CE):List (Option Expr)->List Expr->List CE
 |[]=>λJ=>[]
 |k::I=>λvs=>match vs with
  |[]=>[]|v::vs=>match k with |some k=>f k::f v::m0 f I vs |none=>[]
abbrev ru:List (Option Expr)->List Expr->Bool
 |[]=>λvs=>vs.isEmpty
 |k::I=>λvs=>match vs with
  |[]=>false|v::vs=>match k with |some k=>ru I vs |none=>false
abbrev uI(pos:Pos)(env:Env):List (Option Expr)->List Expr->List (Sem Value×Sem Value)
 |[]=>λJ=>[]
 |k::I=>λvs=>match vs with
  |[]=>[]|v::vs=>match k with |some k=>(eval k env,do let x <-eval v env;standAt pos;pure x)::uI pos env I vs |none=>[]
inductive rv(R:V->Value->Prop):List V->List (Value×Value)->Prop
 |a:rv R [] []
 |b {k v kx vx l m}:R k kx->R v vx->rv R l m->rv R (k::v::l) ((kx,vx)::m)
def Pn(pos:Pos)(env:Env):∀{I:List (Option Expr)} {vs:List Expr},ru I vs=true->(evalEachOpt I env).zip ((evalEach vs env).map λv=>do let x <-v;standAt pos;pure x)=(uI pos env I vs).map (λp=>(some p.1,p.2))/\(uI pos env I vs).length=I.length:=by
 intro I
 induction I with
 |nil=>exact λ{vs} h=>⟨rfl,rfl⟩|cons k I ih=>
  intro vs h
  induction vs using bo with
  |nil=>exact b6 h|cons v vs=>
   induction k using aX with
   |none=>exact b6 h|some k=>
    obtain⟨h1,h2⟩:=ih (vs:=vs) h;exact⟨aE ((some (eval k env),((do let x <-eval v env;standAt pos;pure x):Sem Value))::·) h1,aE (·+1) h2⟩
def Po(hf:∀x,aU B S (f x) x):∀{I:List (Option Expr)} {vs:List Expr},ru I vs=true->∀{E d ρ K} {Q:List (Value×Value)->Shared->Prop},c9 B S d ρ->fV B.C (m0 f I vs) ρ K d.σ->
  (∀d' ws ps,Go B.X No d d'->rv d'.R ws ps->K ws d'.σ->Q ps d'.s)->W B (evalPairs (uI pos S.a I vs)) Q E d:=by
 intro I
 induction I with
 |nil=>exact λ{vs} _ {E d ρ K Q} p w k=>evalPairs_nil (k d [] [] ⟨p.f,bf.refl ..,er.refl _⟩ .a w)|cons k I ih=>
  intro vs h E d ρ K Q p w kk
  induction vs using bo with
  |nil=>exact b6 h|cons v vs=>
   induction k using aX with
   |none=>exact b6 h|some k=>
    refine evalPairs_cons ((hf k).v E d ρ (j7 (fV B.C (f v::m0 f I vs) ρ) K) _ p w λC u x A J w1=>aj ((hf v).v E C ρ (j7 (fV B.C (m0 f I vs) ρ) (yb u K)) _ (p.after A) w1 λd2 a y j g w2=>aj (cR (aG ?_))));exact ih (vs:=vs) h ((p.after A).after j) w2 λd3 ws ps U s w3=>kk d3 (u::a::ws) _ ((A.trans j).trans U) (.b ((j.trans U).rep A.j J) (U.rep j.j g) s) w3
def D8[DecidableEq β]{knd:KeyKind prog w β}{f:α->β}(m:∀{k a x},g k=some a->R k x->knd.is (f a) x=true)(r:rv R ws ps):∀{l:List (α×V)},ub g ws=some l->∃kvs,Carries knd ps kvs/\cw f R l kvs:=by
 induction r with
 |a=>intro l e;exact⟨[],trivial,ay e▸.nil⟩|@b k v kx vx ws ps G T C ih=>
  intro l e;obtain⟨a,U,e⟩:=a9 (x:=g k) e;obtain⟨l',Y,e⟩:=cD e;obtain⟨kvs,h1,h2⟩:=ih Y;exact⟨(f a,_)::kvs,⟨m U G,rfl,h1⟩,e▸.cons ⟨rfl,T⟩ h2⟩
def Pp(e:CM v=some i):v=.u i:=by
 induction v using Mine.Lake.V.casesOn with
 |u j=>exact aE V.u (ay e)|_=>exact bl e
def Pq(e:qX (.o i) ws σ=some (u,aw)):
  σ[i]?=some .b/\((∃l,xI ws=some l/\σ.set i (.f (iO [] l))=aw)\/∃l,CO ws=some l/\σ.set i (.h (iO [] l))=aw):=by
 obtain⟨o,ho,e⟩:=a9 (x:=σ[i]?) e;obtain⟨h0,e⟩:=bN e;obtain⟨o',h,e⟩:=cD e;have e:σ.set i o'=aw:=aE Prod.snd e;rw[<-e];refine⟨by induction o <;>first |exact ho |exact b6 h0,?_⟩;rcases li (x:=xI ws) h with h |h
 .obtain⟨l,Y,h⟩:=h;exact .inl ⟨l,Y,by rw[<-ay h]⟩
 .obtain⟨l,Y,h⟩:=cD h.2;exact .inr ⟨l,Y,by rw[<-h]⟩
abbrev uJ{K:Type}[DecidableEq K](knd:KeyKind prog w K)(D:Addr)(Q:Value->Shared->Prop)(vs:List (Value×Value))(s₁:Shared):Prop:=
 ∃kvs,Carries knd vs kvs/\s₁.heap.DictOf knd D []/\∀h',h'.DictOf knd D (merged [] kvs)->Heap.SameBut D s₁.heap h'->Q (.ref D) {s₁ with heap:=h',toks:=s₁.toks+vs.length}
def uJ.store{K:Type}[DecidableEq K]{knd:KeyKind prog w K}{D:Addr}{vs:List (Value×Value)}{E}(h:uJ knd D Q vs s₁)(Y:vs.length<=15):
  wpAny (model prog w) A (forIn vs PUnit.unit λ(x:Value×Value) (_:PUnit)=>(do dictSet D x.1 x.2;pure (ForInStep.yield PUnit.unit):Sem (ForInStep PUnit))) (λJ s=>Q (.ref D) s) E s₁:=by
 obtain⟨kvs,o,hm,a⟩:=h;exact wpAny_storeAll (knd:=knd) vs kvs [] s₁ _ o hm (by rw[dG,o.length,qi];exact "~|_4KXxHT<WqjAAVAQ" Y) a
def Pr{prog:Program}{E:Value->Shared->Prop}{env:Env}{Y:List Expr}
  (i:(evalEachOpt keys env).zip ((evalEach Y env).map λv=>do let x <-v;standAt pos;pure x)=a.map λp=>(some p.1,p.2)) (h0:a≠[]) (y:a.length<=15)
  (h:wpAny (model prog w) A (evalPairs a) (λvs s₁=>uJ (intKind prog w) s.heap.objs.size Q vs s₁\/uJ (PySem.strKind prog w) s.heap.objs.size Q vs s₁) E {s with heap:=s.heap.push {cls:=.type "dict",data:=.dict #[]}}):
  wpAny (model prog w) A (eval (.Dict keys Y pos) env) Q E s:=by
 rw[arm_eval_Dict,i,dictDisplay_pairs a h0 ("~7IiIsWkL3Kf" y)];refine aj (cR (aj ?_));unfold subDict;refine aj (wpAny_alloc ?_);refine aj (dm ?_);rw[ah y];refine aj (gX (wpAny_evalPairs_len h) (λvs s₁ c=>?_) λJ J e=>e);obtain⟨g,o⟩:=c;have:=o.elim (λh=>h.store (A:=A) (E:=E) (g▸y)) λh=>h.store (g▸y);exact dm (aj (gX this (λJ J h=>aG (aG (aG h))) λJ J e=>e))
def Ps(hf:∀x,aU B S (f x) x)(h:ru I vs=true)(y:Nat.ble I.length 15=true):aU B S (.F (m0 f I vs)) (.Dict I vs pos):=dP (λE d ρ K Q p w k=>by
 obtain⟨g,hm⟩:=Go.alloc p.f (h':=d.s.heap.push {cls:=.type "dict",data:=.dict #[]}) (o:=.b) (m:=(d.s.heap.objs.size,d.s.heap.objs.size))
   (λa ob e=>gf _ e) nofun (fT _) (fT _) λbD aF K=>⟨rfl,0,iE _ rfl⟩
 induction I using bo with
 |nil=>
  induction vs using bo with
  |cons=>exact b6 h|nil=>
   unfold W;rw[eval_Dict_empty];have w:bm (gj .b d.σ) K:=w;exact aj (cR (xa (k _ _ _ g (.ref hm) w.h)))
 |cons kx I=>
  obtain⟨N,Y⟩:=Pn pos S.a h;refine Pr N (λe=>by rw[e]at Y;exact nomatch Y) (Y▸bP y) (Po (K:=ya Lk (.o d.σ.length) K) hf h (p.after g) ?_ λd2 ws ps j T w2=>?_)
  .induction vs using bo with
   |nil=>exact b6 h
   |cons v vs=>induction kx using aX with
    |none=>exact b6 h|some kx=>
     have w:bm (gj .b d.σ) λr σ=>fV B.C (f kx::f v::m0 f I vs) ρ (ya Lk r K) σ:=w;exact w.h
  .have w2:bm (qX (.o d.σ.length) ws d2.σ) (λJ σ=>K (.o d.σ.length) σ):=w2
   obtain⟨_,aw,e,h⟩:=cZ w2.h;obtain⟨s,hc⟩:=Pq e;have i:=j.k.d _ _ hm;obtain⟨_,ep,c⟩:=j.j.g _ _ _ s i;rcases hc with hc |hc
   .obtain⟨l,Y,es⟩:=hc
    rw[<-es]at h;obtain⟨kvs,h1,h2⟩:=D8 (knd:=intKind B.X.a B.X.w) (f:=id) (λU r=>by rw[jm U]at r;obtain⟨t,e⟩:=r;rw[e];exact n8 _ _ _ _) T Y;exact .inl ⟨kvs,h1,um _ c,λh' G n=>k _ _ _ (g.trans (j.trans (Go.upd j.j (o:=.f (iO [] l)) _ s nofun i nofun n λbD aF K=>⟨rfl,_,G,x4 (λJ J e=>e) (cw.mono (λJ J q=>K.rep q) h2) .nil .nil⟩))) (.ref i) h⟩
   .obtain⟨l,Y,es⟩:=hc
    rw[<-es]at h;obtain⟨kvs,h1,h2⟩:=D8 (knd:=PySem.strKind B.X.a B.X.w) (f:=Str.ofString) (λU r=>by rw[Pp U]at r;obtain⟨t,e⟩:=r;rw[e];exact tE _ _ _ _) T Y;exact .inr ⟨kvs,h1,um _ c,λh' G n=>k _ _ _ (g.trans (j.trans (Go.upd j.j (o:=.h (iO [] l)) _ s nofun i nofun n λbD aF K=>⟨rfl,_,G,x4 (λJ J e=>mN e) (cw.mono (λJ J q=>K.rep q) h2) .nil .nil⟩))) (.ref i) h⟩) rfl
inductive oJ(h:Heap)(ω:Addr->Prop)(μ:Mu):cY->Flow->Prop
 |a:oJ h ω μ .a .next
 |d:oJ h ω μ .d .brk
 |c:oJ h ω μ .c .cont
 |b {v x}:aq h ω μ v x->oJ h ω μ (.b v) (.ret x)
abbrev KS(B:Bd)(S:Sc)(d:D)(K:Fl)(Q:Flow->Shared->Prop):Prop:=∀d' fl c_ f,Go B.X (c8 S.a) d d'->FR B.X S.a S.c.a c_ d'.σ d'.μ d'.s.heap->oJ d'.s.heap (au d'.σ d'.μ) d'.μ fl f->K fl c_ d'.σ->Q f d'.s
def KS.after{K Q}(k:KS B S d K Q)(g:Go B.X (c8 S.a) d C):KS B S C K Q:=λd' fl c_ f s=>k d' fl c_ f (g.trans s)
def KS.here{K Q ρ fl Y}(k:KS B S d K Q)(p:c9 B S d ρ)(r:oJ d.s.heap (au d.σ d.μ) d.μ fl Y)(w:K fl ρ d.σ):Q Y d.s:=k d fl ρ Y ⟨p.f,bf.refl ..,er.refl _⟩ p.j r w
def KS.plain{K Q ρ}(k:KS B S d K Q)(p:c9 B S d ρ)(g:Go B.X No d C)(w:K .a ρ C.σ):Q .next C.s:=k C .a ρ .next g.no (p.after g).j .a w
abbrev SX(B:Bd)(S:Sc)(b:CS)(st:Stmt):Prop:=∀E d ρ K Q,c9 B S d ρ->yg B.C b ρ K d.σ->KS B S d K Q->W B (exec st S.a) Q E d
abbrev fY(B:Bd)(S:Sc)(b:List CS)(st:List Stmt):Prop:=∀E d ρ K Q,c9 B S d ρ->aM B.C b ρ K d.σ->KS B S d K Q->W B (execs st S.a) Q E d
def gK{st:Stmt}:SX B S .j st:=λE d ρ K Q p w k=>(show False from w).elim
def Pt:SX B S .x (.Pass pos):=λE d ρ K Q p w k=>by
 unfold W;rw[arm_exec_Pass];exact aj (cR (aG (k.here p .a w)))
def Pu:SX B S .y (.Break pos):=λE d ρ K Q p w k=>by
 unfold W;rw[arm_exec_Break];exact aj (cR (aG (k.here p .d w)))
def Pw:SX B S .u (.Continue pos):=λE d ρ K Q p w k=>by
 unfold W;rw[arm_exec_Continue];exact aj (cR (aG (k.here p .c w)))
def Px:SX B S .t (.Return none pos):=λE d ρ K Q p w k=>by
 unfold W;rw[arm_exec_Return];exact aj (cR (aG (k.here p (.b .none) w)))
def Py{K:V->St->Prop}(R:SR B.X d.σ d.μ d.s.heap)(r:d.R v x)(w:oD v K d.σ):∃v' aw,Go B.X No d ⟨d.s,aw,d.μ⟩/\D.R ⟨d.s,aw,d.μ⟩ v' x/\K v' aw:=by
 induction v using Mine.Lake.V.casesOn with
 |o i=>
  have w:bm (hO (.o i) d.σ) K:=w;obtain⟨v',aw,e,h⟩:=cZ w.h;obtain⟨g,r'⟩:=Go.freeze R r e;exact⟨v',aw,g,r',h⟩
 |_=>exact⟨_,d.σ,⟨R,bf.refl ..,er.refl _⟩,r,w⟩
def Pz(G:SE B S a x):SX B S (.d a) (.Return (some x) pos):=λE d ρ K Q p w k=>by
 unfold W;rw[arm_exec_Return];refine aj (cR ?_);show wpAny _ _ (eval x S.a>>=λv=>pure (Flow.ret v)) _ _ _;refine aj (G E d ρ (DD Lk ρ K) _ p w λC v y g r w1=>aG ?_);obtain⟨v',aw,j,Y,h⟩:=Py g.j r w1;exact k ⟨C.s,aw,C.μ⟩ (.b v') ρ _ (g.trans j).no (p.after (g.trans j)).j (.b Y) h
abbrev gL(x:Expr):Bool:=![8,9,10].contains x.ctorIdx
def yz(h:gL x=true):swapsWith x t l env=pure false:=by
 induction x using eJ <;>first |rfl |exact b6 h
def PA(G:SE B S a x)(H:gL x=true):SX B S (.k a) (.Expr x pos):=λE d ρ K Q p w k=>by
 have hi:interactive S.a=false:=by unfold interactive;rw[S.b.a];rfl
 unfold W;rw[arm_exec_Expr];refine aj (cR ?_);rw[hi];simp only[je,jf];refine aj (ms (yz H) ?_);simp only[je,jf];exact aj (G E d ρ (oE ρ K) _ p w λC v y g r w1=>wpAny_dropValue (k.plain p g w1))
abbrev yA(x:Expr):Bool:=[23,20,21].contains x.ctorIdx
def PB(Y:yA t=true):swappedStores [t] x env=pure none:=by induction t using eJ <;>first |rfl |exact b6 Y
def PC(Y:yA t=true):assignEach [t] env=[(false,assign t env)]:=by induction t using eJ <;>first |rfl |exact b6 Y
def yB{E d}(H:gL x=true)(Y:yA t=true)
  (h:W B (eval x S.a) (λv s1=>wpAny (model B.X.a B.X.w) B.A (assign t S.a v) (λJ s2=>Q .next s2) E s1) E d):W B (exec (.Assign [t] x pos) S.a) Q E d:=by
 unfold W;rw[arm_exec_Assign];refine aj (cR (aj (ms (a:=false) (yz (t:=some t) (l:=pos.line) (env:=S.a) H) ?_)));simp only[je,jf];refine aj (gX h (λv s1 h1=>?_) λJ J e=>e);refine aj (ms (PB Y) ?_);rw[PC Y];show wpAny _ _ (assign t S.a v>>=λJ=>pure Flow.next) _ _ _;exact aj (gX h1 (λJ s2 h2=>aG h2) λJ J e=>e)
def rA{E}(Y:(nm,i,b)∈S.c.a)(p:c9 B S d ρ)(r:d.R v y)
  (k:∀d',d'.σ=d.σ->d'.μ=d.μ->Go B.X (j_ S.a nm b) d d'->c9 B S d' (ρ.set i (some v))->Q () d'.s):W B (assign (.Name nm np) S.a y) Q E d:=
 DW S.b p.j p.f Y r λh' t q h N=>k ⟨{d.s with heap:=h',toks:=t},d.σ,d.μ⟩ rfl rfl ⟨q,h,rfl,rfl⟩ ⟨N,q⟩
def PD(Y:(nm,i,b)∈S.c.a)(G:SE B S a x)(H:gL x=true):SX B S (.g i a) (.Assign [.Name nm np] x pos):=λE d ρ K Q p w k=>
 yB H rfl (G E d ρ (uv i ρ K) _ p w λC v y g r w1=>rA Y (p.after g) r λd2 m J j p2=>k d2 .a _ .next (g.no.trans (j.weak λa G=>G.jr)) p2.j .a (m▸w1))
def D9{K:Unit->St->Prop}{E}(R:SR B.X d.σ d.μ d.s.heap)(r:d.R v x)(H:d.R u z)(w:bm (mH v a u d.σ) K)(k:∀d',Go B.X No d d'->K () d'.σ->Q () d'.s):
  W B (setAttr x (Str.ofString a.name) z) Q E d:=
 let ⟨_,aw,e,h⟩:=cZ w.h;NM B.a.d B.a.h R r H e λs' R' E' S'=>k ⟨s',aw,d.μ⟩ ⟨R',E',S'⟩ h
def D'{K:Unit->St->Prop}{E}(R:SR B.X d.σ d.μ d.s.heap)(g:d.R o x)(a:d.R i y)(H:d.R u z)(w:bm (lj o i u d.σ) K)(k:∀d',Go B.X No d d'->K () d'.σ->Q () d'.s):
  W B (setItem x y z) Q E d:=
 let ⟨_,aw,e,h⟩:=cZ w.h;NU R B.b.room g a H e λs' R' E' S'=>k ⟨s',aw,d.μ⟩ ⟨R',E',S'⟩ h
def PF{pos:Pos}(ho:SE B S o y)(G:SE B S a x)(H:gL x=true):SX B S (.l o an a) (.Assign [.Attribute y (Str.ofString an.name) c] x pos):=λE d ρ K Q p w k=>by
 refine yB H rfl (G E d ρ (DC Lk ρ an (bK B.C o ρ) K) _ p w λC v Y A J w1=>?_);show wpAny _ _ (holding [Y] (eval y S.a)>>=λov=>_) _ _ _;refine aj (dm (ho E C ρ (DB Lk ρ an v K) _ (p.after A) w1 λd2 u z2 j g w2=>aj (cR (aj (dm ?_)))));exact D9 j.j g (j.rep A.j J) w2 λd3 U w3=>B7 (k.plain p ((A.trans j).trans U) w3)
def PG{pos:Pos}(ho:SE B S o y)(hi:SE B S i z)(G:SE B S a x)(H:gL x=true):SX B S (.n o i a) (.Assign [.Subscript y z c] x pos):=λE d ρ K Q p w k=>by
 refine yB H rfl (G E d ρ _ _ p w λC v Y A J w1=>?_);show wpAny _ _ (holding [Y] (eval y S.a)>>=λov=>_) _ _ _;refine aj (dm (ho E C ρ _ _ (p.after A) w1 λd2 u z2 j g w2=>?_));refine aj (dm (hi E d2 ρ _ _ ((p.after A).after j) w2 λd3 q r U s w3=>aj (cR (aj (dm ?_)))));exact D' U.j (U.rep j.j g) s ((j.trans U).rep A.j J) w3 λT N w4=>B7 (k.plain p ((A.trans j).trans (U.trans N)) w4)
abbrev uK:fN->Option Operator
 |.a=>some .Add|.c=>some .Sub|_=>none
def D_{E d}{K:V->St->Prop}(ho:uK op=some o)(R:SR B.X d.σ d.μ d.s.heap)(ra:d.R (.j a) x)(m:d.R (.j b) y)
  (w:bQ (iM op (.j a) (.j b) d.σ) K) (k:KV B.X d K Q):W B (inplaceOp o x y) Q E d:=by
 obtain⟨t,ex⟩:=ra;obtain⟨u,ey⟩:=m;rw[ex,ey]
 induction op using Mine.Lake.fN.casesOn with
 |a=>rw[<-ay ho];exact AutoIntOps.iadd_0 (k.here R w (.int _ _) _)|c=>rw[<-ay ho];exact AutoIntOps.isub_0 (k.here R w (.int _ _) _)|_=>exact bl ho
def Ea{v u:V}{P:Int->Int->Prop}(h:match v,u with |.j m,.j n=>P m n |_,_=>False):∃m n,v=.j m/\u=.j n/\P m n:=by
 induction v using Mine.Lake.V.casesOn with
 |j m=>induction u using Mine.Lake.V.casesOn with
  |j n=>exact⟨m,n,rfl,rfl,h⟩|_=>exact h.elim
 |_=>exact h.elim
def PH{o a:CE}{y:Expr}(j:uK op=some t)(ho:SE B S o y)(G:SE B S a x):SX B S (.s o an op a) (.AugAssign (.Attribute y (Str.ofString an.name) c) t x pos):=λE d ρ K Q p w k=>by
 unfold W;rw[arm_exec_AugAssign_2];refine aj (cR (aj (ho E d ρ _ _ p w λC v1 u A J w1=>?_)));obtain⟨_,_,e,w1⟩:=cZ w1;refine aj (dm (aj (cR (aj (Dh B.a.d B.a.h A.j J e λs2 i z2 q h g N=>?_)))));have L:Go B.X No C ⟨s2,_,i⟩:=⟨q,h,N⟩;refine aj (dm (G E ⟨s2,_,i⟩ ρ _ _ ((p.after A).after L) w1 λd3 v3 r U s w3=>aj (cR (B0 ?_))));obtain⟨m,n,rfl,rfl,w3⟩:=Ea w3;refine D_ j U.j (U.rep q g) s w3 λT v4 z I r4 w4=>?_;refine aj (cR (aj (dm ?_)));exact D9 I.j ((L.trans (U.trans I)).rep A.j J) r4 w4 λY H w5=>aj (B7 (aG (k.plain p ((A.trans L).trans ((U.trans I).trans H)) w5)))
def PI(h:rh z=true):augStore z u z0 p=(do holding [p,u,z0] (setItem u z0 p);release [p,u,z0] [];pure .next):=by induction z using eJ <;>first |rfl |exact b6 h
def PJ{o i:CE}{y z:Expr}(j:uK op=some Eb)(ho:SE B S o y)(hi:SE B S i z)(G:SE B S a x)(hz:rh z=true):SX B S (.w o i op a) (.AugAssign (.Subscript y z c) Eb x pos):=λE d ρ K Q p w k=>by
 unfold W;rw[arm_exec_AugAssign_3];refine aj (cR (aj (ho E d ρ _ _ p w λC v1 u g1 J w1=>?_)));refine aj (dm (hi E C ρ _ _ (p.after g1) w1 λd0 v0 z0 g0 r0 L=>?_));refine aj (dm (aj (cR (aj ?_))));obtain⟨_,_,e,L⟩:=cZ L;obtain⟨_,_,_,_,yC⟩:=C8 (A:=B.A) (E:=E) (Q:=λI s'=>wpAny (model B.X.a B.X.w) B.A (holding [I] (eval x S.a)>>=λv=>standAt pos>>=λ_=>operate [I,v] (inplaceOp Eb I v)) (λnew s'=>wpAny (model B.X.a B.X.w) B.A (standAt c>>=λ_=>augStore z u z0 new) Q E s') E s') g0.j B.b.room (g0.rep g1.j J) r0 e λs2 Ec z2 q h g N=>by
  have g2:Go B.X No d0 ⟨s2,_,Ec⟩:=⟨q,h,N⟩;refine aj (dm (G E ⟨s2,_,Ec⟩ ρ _ _ ((p.after (g1.trans g0)).after g2) L λd3 v3 r U s w3=>aj (cR (B0 ?_))));obtain⟨m,n,rfl,rfl,w3⟩:=Ea w3;refine D_ j U.j (U.rep q g) s w3 λT v4 z4 g4 r4 w4=>?_;refine aj (cR ?_);rw[PI hz];refine aj (dm ?_);have t:=g2.trans (U.trans g4);exact D' g4.j ((g0.trans t).rep g1.j J) (t.rep g0.j r0) r4 w4 λY H w5=>aj (B7 (aG (k.plain p (((g1.trans g0).trans t).trans H) w5)))
 exact yC
def PK:fY B S [] []:=λE d ρ K Q p w k=>B8 (k.here p .a w)
def PL{st:Stmt}(h:SX B S b st)(N:fY B S I Ed):fY B S (b::I) (st::Ed):=λE d ρ K Q p w k=>by
 refine wpAny_execs_cons (h E d ρ (iQ (aM B.C I) K) _ p w λC fl ρ1 Y A s J w1=>?_)
 induction J with
 |a=>exact N E C ρ1 K _ ⟨s,A.j⟩ w1 (k.after A)|d=>exact k C _ ρ1 _ A s .d w1|c=>exact k C _ ρ1 _ A s .c w1|b r=>exact k C _ ρ1 _ A s (.b r) w1
def PM:fY B S (.j::I) Ed:=λE d ρ K Q p w k=>(show False from w).elim
def PN(L:SB B S q x)(G:fY B S a la)(T:fY B S b u):SX B S (.h q a b) (.If x la u pos):=λE d ρ K Q p w k=>by
 refine wpAny_If (L E d ρ (yf (aM B.C a ρ) (aM B.C b ρ) K) _ p w λC v A w1=>?_);obtain⟨t,Y,h⟩:=iR w1;refine⟨t,Y,?_⟩
 induction t using aS with
 |true=>exact G E C ρ K Q (p.after A) h (k.after A.no)|false=>exact T E C ρ K Q (p.after A) h (k.after A.no)
def PO(L:SB B S q x)(T:fY B S b u):SX B S (.q q b) (.While x u [] pos):=λE d ρ K Q p w k=>by
 refine wpAny_While ?_;refine codeAny_whileLoop (λm s1=>∃C ρ1,C.s=s1/\c9 B S C ρ1/\Go B.X (c8 S.a) d C/\
  hX (λρ k σ=>bK B.C q ρ (λx σ=>et σ x λt=>k t σ) σ) (λρ k σ=>aM B.C b ρ k σ) m ρ1 K C.σ) ?_ oj ⟨d,ρ,rfl,p,⟨p.f,bf.refl ..,er.refl _⟩,w⟩
 rintro m _ ⟨C,ρ1,rfl,p1,A,w1⟩
 induction m with
 |zero=>exact(show False from w1).elim|succ m=>
  refine L _ C ρ1 _ _ p1 w1 λd2 v j w2=>?_;obtain⟨t,N,w2⟩:=iR w2;refine⟨t,N,?_⟩;have p2:=p1.after j;have j:=A.trans j.no
  induction t with
  |false=>exact B8 (k d2 .a ρ1 _ j p2.j .a w2)|true=>
   refine T _ d2 ρ1 _ _ p2 w2 λd3 fl h Y U g s w3=>?_
   induction s with
   |a=>exact⟨m,Ka m,d3,h,rfl,⟨g,U.j⟩,j.trans U,w3⟩|c=>exact⟨m,Ka m,d3,h,rfl,⟨g,U.j⟩,j.trans U,w3⟩|d=>exact k d3 .a h _ (j.trans U) g .a w3|b r=>exact k d3 _ h _ (j.trans U) g (.b r) w3
abbrev js:Expr->Option Str
 |.Name nm _=>some nm|_=>none
def oK(e:js x=some nm):∃np,x=.Name nm np:=by
 induction x using eJ with
 |Name n p=>exact⟨p,by rw[<-ay e]⟩|_=>exact bl e
abbrev kf(vs:mR):List Expr->Option (List Nat)
 |[]=>some []|x::r=>(js x).bind λnm=>(vs.lookup nm).bind λp=>(kf vs r).map λl=>p.1::l
def rB{vs:mR}(h:vs.lookup x=some p):(x,p.1,p.2)∈vs:=by
 induction vs with
 |nil=>exact bl h|cons a r ih=>
  obtain⟨y,q⟩:=a;rw[mv]at h;cases T:x==y with
  |true=>rw[T]at h;rw[aH.mp T,<-ay h];exact .head _|false=>rw[T]at h;exact .tail _ (ih h)
def Ee(h:kf vs (x::l)=some is):∃nm np p Y,x=.Name nm np/\vs.lookup nm=some p/\kf vs l=some Y/\p.1::Y=is:=by
 obtain⟨nm,u,h⟩:=a9 h;obtain⟨p,J,h⟩:=a9 h;obtain⟨Y,hi,h⟩:=cD h;obtain⟨np,e⟩:=oK u;exact⟨nm,np,p,Y,e,J,hi,h⟩
def PP:∀{is:List Nat},kf vs l=some is->(assignEach l env).length=is.length/\∀x∈assignEach l env,x.1=false:=by
 induction l with
 |nil=>intro is h;rw[<-ay h];exact⟨rfl,λx H=>nomatch H⟩|cons x l ih=>
  intro is h;obtain⟨nm,np,p,Y,e,h1,h2,h3⟩:=Ee h;obtain⟨a,b⟩:=ih h2;rw[e,<-h3];exact⟨aE (·+1) a,λy v=>(bH.mp v).elim (λe=>e▸rfl) (b y)⟩
def Ef(h:mL (i::is) vs ρ=some c_):∃v o,vs=v::o/\mL is o (ρ.set i (some v))=some c_:=by
 induction vs using bo with
 |nil=>exact bl h|cons v vs=>exact⟨v,vs,rfl,h⟩
def Eg(h:mL [] vs ρ=some c_):vs=[]/\ρ=c_:=by
 induction vs using bo with
 |nil=>exact⟨rfl,ay h⟩|cons v vs=>exact bl h
def PQ:∀{vs:List V} {ρ c_:ba},mL is vs ρ=some c_->is.length=vs.length:=by
 induction is with
 |nil=>intro vs ρ c_ h;obtain⟨rfl,_⟩:=Eg h;rfl|cons i is ih=>intro vs ρ c_ h;obtain⟨v,o,rfl,h⟩:=Ef h;exact aE (·+1) (ih h)
@[inline]abbrev KN(B:Bd)(S:Sc)(d:D)(ρ:ba)(Q:Unit->Shared->Prop):Prop:=∀d',d'.σ=d.σ->Go B.X (c8 S.a) d d'->c9 B S d' ρ->Q () d'.s
def PR{l:List Expr}:∀{is:List Nat},kf S.c.a l=some is->∀{d ρ c_ vs} {xs:List Value} {E Q},c9 B S d ρ->mL is vs ρ=some c_->d.Rs vs xs->KN B S d c_ Q->W B (assignInOrder ((assignEach l S.a).map (·.2)) xs) Q E d:=by
 induction l with
 |nil=>
  intro is h d ρ c_ vs xs E Q p e r k;rw[<-ay h]at e;obtain⟨e1,w⟩:=Eg e;rw[e1]at r;rw[show xs=[]from r];exact aG (k d rfl ⟨p.f,bf.refl ..,er.refl _⟩ (w▸p))
 |cons x l ih=>
  intro is h d ρ c_ vs xs E Q p e r k;obtain⟨nm,np,q,Y,ex,h1,h2,h3⟩:=Ee h;rw[<-h3]at e;obtain⟨v,o,ev,e⟩:=Ef e;rw[ev]at r;obtain⟨y,c,ey,J,rs⟩:=r;rw[ex,ey];refine aj (dm (rA (rB h1) p J λd2 h5 h6 j p2=>?_));have hz:cF d.s.heap (j_ S.a nm q.2):=λa G=>p.j.d a G.jr;exact ih h2 p2 e (b7.ext rs p.f j.k hz) λd3 h7 U s=>k d3 (h7.trans h5) ((j.weak λa G=>G.jr).trans U) s
inductive oM(c:dN):qP->Expr->Prop
 |d {nm i b pos}:(nm,i,b)∈c.a->oM c (.a i) (.Name nm pos)
 |a {is:List Nat} {l:List Expr} {kd pos}:kf c.a l=some is->oM c (.b is) (.Tuple l kd pos)
def PU(e:mG v=some l):v=.p l:=by
 induction v using Mine.Lake.V.casesOn with
 |p j=>exact aE V.p (ay e)|_=>exact bl e
def Eh{d ρ}{K:ba->St->Prop}{E}(ok:oM S.c q t)(p:c9 B S d ρ)(r:d.R v y)
  (w:bQ (fQ q v ρ d.σ) K) (k:∀c_,K c_ d.σ->KN B S d c_ Q):W B (assign t S.a y) Q E d:=by
 induction ok with
 |d J=>exact rA J p r λd2 h5 h6 j p2=>k _ w d2 h5 (j.weak λa G=>G.jr) p2|@a is l kd pos Y=>
  obtain⟨c_,aw,e,h⟩:=cZ w;obtain⟨vs,J,e⟩:=a9 (x:=mG v) e;obtain⟨L,T,e⟩:=cD e;rw[<-show L=c_ from aE Prod.fst e,<-show d.σ=aw from aE Prod.snd e]at h;rw[PU J]at r;obtain⟨a,ws,kk,ey,G,_,ra⟩:=r.eK;rw[ey];show wpAny _ _ (standAt pos>>=λu=>unpack (.ref a) (assignEach l S.a)) _ _ _;obtain⟨H,N⟩:=PP (env:=S.a) Y;refine aj (cR (wpAny_unpack_tuple B.b.b ⟨_,G,rfl,kk,rfl⟩ ?_ ?_ λh' U=>?_))
  .rw[H,PQ T];exact iP ra
  .rw[List.findIdx?_eq_none_iff];exact N
  .obtain⟨I,z⟩:=p.f.grow (h':=h') λb o q=>U b o (n9 (jd q)) q
   have A:Go B.X No d ⟨{d.s with heap:=h'},d.σ,d.μ⟩:=⟨I,z,rfl,rfl⟩;exact PR Y (p.after A) T (A.DK p.f ra) λd3 h7 C s=>k L h d3 h7 (A.no.trans C) s
def PV(I:Nat->Shared->Prop)
  (turn:∀n s,I n s->wpAny (model prog w) A (pyNext it) (λr s₁=>match r with
   |none=>wpAny (model prog w) A (execs i env) (λf H=>R (.ok f) H) (notedBy (model prog w) A env λe s'=>R (.error e) s') s₁
   |some v=>wpAny (model prog w) A (letOwnedTupleGo j it v) (λJ k=>wpAny (model prog w) A (assign j env v) (λJ a=>wpAny (model prog w) A (execs body env) (λf H=>match f with
     |.next |.cont=>∃m,m < n/\I m H|.brk=>R (.ok .next) H|.ret v=>R (.ok (.ret v)) H) (notedBy (model prog w) A env λe s'=>R (.error e) s') a) (notedBy (model prog w) A env λe s'=>R (.error e) s') k) (notedBy (model prog w) A env λe s'=>R (.error e) s') s₁) (notedBy (model prog w) A env λe s'=>R (.error e) s') s)
  (n:Nat) (h:I n s):codeAny (model prog w) A (.forLoop j it body i env) R s:=by
 refine codeAny_loop' rfl I (λn s L=>?_) n h;show wpAny _ _ ((forTurn j it body i env).onRaise (λx=>do noteFrame x env;theTreesLotGoes x)) _ _ s;refine wpAny_noted ?_;simp only[forTurn];refine aj (cR (aj (wpAny_onRaise (gX (turn n s L) (λr s₁ c=>?_) λJ J h'=>cR h'))))
 induction r using aX with
 |none=>exact aG (.inr ⟨rfl,codeAny_block c⟩)|some v=>
  refine aj (gX c (λJ k h₀=>aj (gX h₀ (λJ a o=>aj (gX o (λf H g=>?_) λJ J h'=>h')) λJ J h'=>h')) λJ J h'=>h')
  induction f using PySem.Flow.casesOn with
  |next=>exact aG (.inl ⟨rfl,g⟩)|cont=>exact aG (.inl ⟨rfl,g⟩)|brk=>exact aG g|ret v=>exact aG g
def PW{E}{src:b8}{X:dj}(ok:oM c p j)(h:src.At s.heap I k)(q:Q () s):wpAny (model X.a X.w) A (letOwnedTupleGo j (.ref I) v) Q E s:=by
 induction ok with
 |d _=>exact aG q|@a is l kd pos _=>
  show wpAny _ _ (match((Value.ref I,v):Value×Value)with
   |(.ref r,.ref a)=>_|_=>pure ()) _ _ _
  induction v using Cj with
  |ref a=>
   have key:∀{o:Obj} {n:String} {vs:Array Value},s.heap.get? I=some o->o.cls=.type n->o.data=.fields vs->(["enumerate", "zip", "dict_itemiterator", "dict_reverseitemiterator", "odict_iterator", "itertools.zip_longest", "itertools.pairwise"].contains n)=false->
     wpAny (model X.a X.w) A (letOwnedTupleGo (.Tuple l kd pos) (.ref I) (.ref a)) Q E s:=λ{o n vs} ho U Y u=>by
    unfold letOwnedTupleGo;refine aj (wpAny_load ho ?_);rw[U,Y];simp only[u,Bool.false_and,je,jf];exact aG q
   induction src using Mine.Lake.S.b8.casesOn with
   |d l' b=>obtain⟨o,ho,U,Y⟩:=h;exact key ho U Y (by decide)|g l' b=>obtain⟨o,ho,U,Y⟩:=h;exact key ho U Y (by decide)|c i l' m=>obtain⟨o,ho,U,Y⟩:=h;exact key ho U Y (by decide)|f m=>exact key h rfl rfl (by decide)
  |_=>exact aG q
def PX{b:List CS}{x:Expr}(ok:oM S.c q t)(N:SI B S it x)(z:fW x=true)(hb:fY B S b u):SX B S (.m q it b) (.For t x u [] pos):=λE d ρ K Q p w k=>by
 refine wpAny_For (N E d ρ _ _ p w λC y src A T yv w1=>yv _ _ _ λo hI=>?_) (DL z);obtain⟨R2,E2⟩:=A.j.push o;have g2:Go B.X No C ⟨{C.s with heap:=C.s.heap.push o},C.σ,C.μ⟩:=⟨R2,E2,rfl,rfl⟩;have hIn:C.s.heap.get? C.s.heap.objs.size=none:=fT _;generalize D0:C.s.heap.objs.size=I at hI hIn ⊢;have lI:d.s.heap.get? I=none:=A.k.none_of hIn;have rC:¬ c8 S.a I:=λq=>by obtain⟨ob,e⟩:=p.j.b I q;rw[lI]at e;cases e
 have ro:∀c,c=I->¬ c8 S.a c:=λc h=>h▸rC;have fin:∀{d'},Go B.X (λa=>a=I\/c8 S.a a) d d'->Go B.X (c8 S.a) d d':=λg=>⟨g.j,g.k.shrink λa G=>G.elim (λq=>.inr (q▸lI)) .inl,g.p⟩;refine PV (λm s2=>∃d2 j L,d2.s=s2/\m+j=src.items.length+1/\yr B.X S.c S.a src I (·=L) d2 j/\Go B.X (λa=>a=I\/c8 S.a a) d d2/\
  gm (λx ρ k σ=>bQ (fQ q x ρ σ) λρ σ=>aM B.C b ρ k σ) src.guard (src.items.drop j) L K d2.σ) ?_ (src.items.length+1)
  ⟨⟨{C.s with heap:=C.s.heap.push o},C.σ,C.μ⟩,0,ρ,rfl,rfl,⟨R2,⟨ρ,rfl,(p.after (A.trans g2)).j⟩,hI,T.pre.ext A.j E2 (cF.no _),A.j.ou hIn⟩,(A.trans g2).no,w1⟩
 rintro m _ ⟨d2,j,_,rfl,hm,⟨R3,⟨L,rfl,F3⟩,mV,n,rp⟩,g0,w⟩;generalize Y:src.items.drop j=x_
 induction x_ using bo with
 |nil=>
  rw[Y]at w;obtain⟨_,_,e,w⟩:=cZ w;obtain⟨yD,rfl⟩:=n.watch e;refine x1 B.b.b R3 mV yD (A.j.lq hIn) rp (by simpa using Y) λh' t R4 E4=>?_;exact B8 (k ⟨{d2.s with heap:=h',toks:=t},d2.σ,d2.μ⟩ .a L .next (fin (g0.trans ⟨R4,E4.weaken λa G=>.inl G,rfl,rfl⟩)) (F3.ext R3 E4 mV.noSeq ro) .a w)
 |cons v rest=>
  rw[Y]at w;obtain⟨hv,uB,U⟩:=mU Y;obtain⟨_,_,e,w⟩:=cZ w;obtain⟨yD,rfl⟩:=n.watch e;refine x0 R3 mV yD (A.j.lq hIn) rp hv λh' t y R4 E4 rq ry=>?_;have F4:=F3.ext R3 E4 mV.noSeq ro;have g4:Go B.X (λa=>a=I\/c8 S.a a) d2 ⟨{d2.s with heap:=h',toks:=t},d2.σ,d2.μ⟩:=⟨R4,E4.weaken λa G=>.inl G,rfl,rfl⟩;refine PW (X:=B.X) (s:={d2.s with heap:=h',toks:=t}) (src:=src) (k:=j+1) ok rq ?_;refine Eh (d:=⟨{d2.s with heap:=h',toks:=t},d2.σ,d2.μ⟩) ok ⟨F4,R4⟩ ry w λPY w4 d5 rD H i=>?_;obtain⟨PZ,P0,P1⟩:=uE H R4 F4.d rq (n.ext R3 E4 mV.noSeq) rp rC;refine hb _ d5 PY _ _ i (rD▸w4) λd6 fl oN fw J F6 r6 w6=>?_;obtain⟨Ei,Ej,Ek⟩:=uE J i.f i.j.d PZ P0 P1 rC;have uL:=(g0.trans g4).trans ((H.trans J).weak λa G=>.inr G)
  induction r6 with
  |a=>exact⟨m - 1, "~2B04E7ZgG>Z;j5235tI>VmZ" ao hm U,d6,j+1,oN,rfl, "~2HhjUzIMjtQxKsmnTF?F3TOp30TTA_PkBKaLkV" ao hm U,⟨J.j,⟨oN,rfl,F6⟩,Ei,Ej,Ek⟩,uL,by rw[uB];exact w6⟩|c=>exact⟨m - 1, "~2B04E7ZgG>Z;j5235tI>VmZ" ao hm U,d6,j+1,oN,rfl, "~2HhjUzIMjtQxKsmnTF?F3TOp30TTA_PkBKaLkV" ao hm U,⟨J.j,⟨oN,rfl,F6⟩,Ei,Ej,Ek⟩,uL,by rw[uB];exact w6⟩|d=>exact k d6 .a oN _ (fin uL) F6 .a w6|b r=>exact k d6 _ oN _ (fin uL) F6 (.b r) w6
variable{f':Expr->CE}
def P2{st:Stmt}(T:fY B S b u)(H:fY B S g (st::U)):SX B S (.v b g) (.Try u [] [] (st::U) pos):=λE d ρ K Q p w k=>by
 refine wpAny_Try_finally (T _ d ρ (λr ρ σ=>aM B.C g ρ (λr' ρ σ=>match r' with |.a=>K r ρ σ |_=>False) σ) _ p w λC fl ρ1 Y A s J w1=>?_);have G:∀{E'},wpAny (model B.X.a B.X.w) B.A (execs (st::U) S.a) (λg' s'=>match g' with |.next=>Q Y s' |g'=>Q g' s') E' C.s:=λ{E'}=>
  H E' C ρ1 (λr' ρ σ=>match r' with |.a=>K fl ρ σ |_=>False) _ ⟨s,A.j⟩ w1 λd2 h L i j N I w2=>by
   induction I with
   |a=>
    refine k d2 fl L Y (A.trans j) N ?_ w2
    induction J with
    |a=>exact .a|d=>exact .d|c=>exact .c|b r=>exact .b (aq.ext r A.j j.k s.d)
   |_=>exact(show False from w2).elim
 induction J with
 |a=>exact B8 G|_=>exact G
abbrev yE(x:Expr):Bool:=x.ctorIdx !=25
def P4(h:yE x=true):swappedStores [.Tuple l kd c] x env=pure none:=by induction x using eJ <;>first |rfl |exact b6 h
def P5(Y:kf S.c.a l=some is)(G:SE B S a x)(H:gL x=true)(U:yE x=true):SX B S (.r is a) (.Assign [.Tuple l kd c] x pos):=λE d ρ K Q p w k=>by
 unfold W;rw[arm_exec_Assign];refine aj (cR (aj (ms (a:=false) (yz (t:=some (.Tuple l kd c)) (l:=pos.line) (env:=S.a) H) ?_)));simp only[je,jf];refine aj (G E d ρ (DA (.b is) ρ (K .a)) _ p w λC v y A J w1=>?_);refine aj (ms (P4 U) ?_);show wpAny _ _ (assign (.Tuple l kd c) S.a y>>=λI=>pure Flow.next) _ _ _;exact aj (Eh (.a Y) (p.after A) J w1 λc_ w2 d2 m j p2=>aG (k d2 .a c_ .next (A.no.trans j) p2.j .a (m▸w2)))
def FR.xQ{Z:Addr->Prop}(F:FR X env vs ρ σ μ h)(K:Kp h h' (au σ μ) (au σ μ) μ μ)(U:∀a o,h.get? a=some o->¬ Z a->h'.get? a=some o)(Y:∀c,Z c->¬ c8 env c):
  FR X env vs ρ σ μ h':=by
 have live:∀c,c8 env c->∀o,h.get? c=some o->h'.get? c=some o:=λc T o e=>U c o e λq=>Y c q T;refine⟨?_,λx i H=>?_,F.j,λc T t vs n e=>?_,λc T=>?_,F.l,F.p⟩
 .obtain⟨m,hm,Q⟩:=F.k
  exact⟨m,q7 hm (live _ (.inl rfl)),λx i H v e=>let ⟨y,e1,r⟩:=Q x i H v e;⟨y,e1,K.rep r⟩⟩
 .obtain⟨c,ov,T,hi,Q⟩:=F.g x i H
  exact⟨c,ov,T,uk hi (live _ (.inr ⟨x,T⟩)),λv e=>let ⟨y,e1,r⟩:=Q v e;⟨y,e1,K.rep r⟩⟩
 .obtain⟨o,ho⟩:=F.b c T
  rw[live c T o ho]at e;exact F.d c T t vs n (ho.trans e)
 .obtain⟨o,ho⟩:=F.b c T
  exact⟨o,live c T o ho⟩
def P8(hv:(nm,j,b)∈S.c.a)(rt:∀T (hE:eY T c') x,aU B ⟨c',T,hE⟩ (f' x) x)
  (ok:lB scope S.c c' x i) (N:SI B S it G) (z:fW G=true) (Y:Nat.ble ifs.length 1=true):
  SX B S (.g j (.E (f' elt) i it (ifs.map f'))) (.Assign [.Name nm np] (.ListComp elt [⟨.Name x px,G,ifs,0⟩] scope pos) pos'):=λE d ρ K Q p w k=>by
 have w:bK B.C (.E (f' elt) i it (ifs.map f')) ρ (uv j ρ K) d.σ:=w;unfold W;rw[arm_exec_Assign];refine aj (cR ?_);show wpAny _ _ (swapsWith (.ListComp elt [⟨.Name x px,G,ifs,0⟩] scope pos) (some (.Name nm np)) pos'.line S.a>>=_) _ _ _;refine aj (ms (t:=swapsWith (.ListComp elt [⟨.Name x px,G,ifs,0⟩] scope pos) (some (.Name nm np)) pos'.line S.a) (rfl:_=pure (S.a.blockKind==.function&&S.a.kindOf nm==some .local&&np.line==pos.line&&!(scope.names.any λ(n,k)=>n==nm&&(k==.local||k==.cell)))) ?_);generalize hb:(S.a.blockKind==.function&&S.a.kindOf nm==some .local&&np.line==pos.line&&!(scope.names.any λ(n,k)=>n==nm&&(k==.local||k==.cell)))=x_
 induction x_ using aS with
 |false=>
  simp only[je,jf];refine aj ((D7 (px:=px) (pos:=pos) rt ok N z Y).v E d ρ (uv j ρ K) _ p w λC v y A J w1=>?_);refine aj (ms (a:=none) (by rfl) ?_);show wpAny _ _ (assign (.Name nm np) S.a y>>=λ_=>pure Flow.next) _ _ _;exact aj (rA hv (p.after A) J λd2 rD _ g2 p2=>aG (k d2 .a _ .next (A.no.trans (g2.weak λa ha=>ha.jr)) p2.j .a (rD▸w1)))
 |true=>
  simp only[qo];rw[arm_evalThenUse_ListComp];refine aj (aj (D6 rt ok N z Y p w λC r L a c w1=>?_));obtain⟨v,aw,e,h⟩:=cZ w1.h;obtain⟨g2,g⟩:=Go.freeze c.f.j (.ref (m:=(a,a)) c.l) e;have yF:¬ c8 S.a L:=λq=>by obtain⟨ob,e⟩:=p.j.b L q;rw[c.n]at e;cases e
  show wpAny _ _ (assign (.Name nm np) S.a (.ref a)) _ _ _;refine rA (d:=⟨C.s,aw,C.μ⟩) hv (p.after (c.f.trans g2)) g λd3 rD P9 U s=>?_;have uM:Go B.X (c8 S.a) C d3:=g2.no.trans (U.weak λa ha=>ha.jr);obtain⟨m,u⟩:=c.h;refine⟨m,q7 u λo e=>uM.k.g _ _ e c.k yF,λh' El=>aG (aG ?_)⟩;obtain⟨I,K4,E4⟩:=c.drop uM yF P9 El;exact k ⟨{d3.s with heap:=h'},d3.σ,d3.μ⟩ .a _ .next ⟨I,E4,((c.f.p.trans uM.p).d),((c.f.p.trans uM.p).e)⟩ (FR.xQ (Z:=λb=>b=L) s.j K4 (λb ob q nb=>(El.2 b nb).trans q) λb H=>H▸yF) .a (rD▸h)
end Mine.Lake.S
namespace Mine.Lake.S
def P':∀{names:List Str} {zs:List Value} (pre:List (Str×Value)),names.length=zs.length->names.Nodup->(∀k∈names,pre.lookup k=none)->
  names.filterMap (λk=>((pre++names.zip zs).lookup k).map λv=>(k,v))=names.zip zs:=by
 intro names
 induction names with
 |nil=>intro zs pre _ _ _;rfl|cons a r ih=>
  intro zs pre Y u J
  induction zs with
  |nil=>cases Y|cons z zs=>
   obtain⟨c,i⟩:=fL.mp u;have G:(pre++(a::r).zip (z::zs)).lookup a=some z:=by
    rw[List.zip_cons_cons,List.lookup_append,J a (.head _),List.lookup_cons_self];rfl
   rw[List.filterMap_cons,G];have:=ih (zs:=zs) (pre++[(a,z)]) (kU Y) i λk U=>by
    have T:(k==a)=false:=cB.mpr λq=>c (q▸U);rw[List.lookup_append,J k (.tail _ U),mv,T];rfl
   rw[c6]at this;exact aE ((a,z)::·) this
structure Em(p:Arguments)(names:List Str):Prop where
 b:p.posonlyargs=[]
 e:p.args.map (·.arg)=names
 a:p.vararg=none
 c:p.kwonlyargs=[]
 d:p.kwarg=none
theorem En:∀{names:List Str} {zs:List Value},names.length<=zs.length->∀k∈names,((names.zip zs).lookup k).isNone=false
 |a::r,[],h,k,U=>absurd h (Kb _)|a::r,z::zs,h,k,U=>by
  rw[List.zip_cons_cons,mv];cases T:k==a with
  |true=>rfl|false=>exact En (BO h) k ((bH.mp U).resolve_left λq=>by rw[q,jO]at T;cases T)
def Eo{M:Model}[Decidable c]{E}(h:¬ c)(w:wpAny M A b Q E s):wpAny M A (if c then a else b) Q E s:=by rw[ab h];exact w
def P_(J:Em fd.params names)(u:names.Nodup)(N:fd.defaults=.none)(Y:names.length=xs.length):BindsTo s fd ⟨xs,[]⟩ (names.zip xs):=by
 obtain⟨_,_,params,_,_,_,_,dflt,_,_,_,_,_,_,_⟩:=fd;obtain⟨p1,p2,L,T,i,y,z⟩:=params;obtain⟨h1,h2,h3,h4,h5⟩:=J;dsimp only at h1 h2 h3 h4 h5 N;subst h1 h3 h4 h5 N h2;intro M A E Q q;generalize g:p2.map (·.arg)=names at*;refine aj (aG ?_);refine aj (aG ?_);refine Eo (c:=(decide (xs.length>(([]:List Str)++p2.map (·.arg)).length)&&(none:Option Arg).isNone)=true) ?_ ?_
 .rw[dh,g,Y,mu,decide_eq_true_eq];exact λh=>tD _ h.1
 have w:(List.drop (([]:List Value).length - (([]:List Str)++p2.map (·.arg)).length) ([]:List Value))=[]:=BL;refine Eo (c:=(!((((([]:List Str)++p2.map (·.arg)).take ((([]:List Str)++p2.map (·.arg)).length - (List.drop (([]:List Value).length - (([]:List Str)++p2.map (·.arg)).length) ([]:List Value)).length)).filter λn=>(((([]:List Str)++p2.map (·.arg)).zip xs).lookup n).isNone).isEmpty))=true) ?_ ?_
 .rw[w,dG,Nat.sub_zero,dh,g,Kd,xh.mpr λk U q=>by rw[En (gV Y) k U]at q;cases q]
  exact dV
 refine aj ?_;show wpAny M A (forIn ((List.drop ((([]:List Str)++p2.map (·.arg)).length - (List.drop (([]:List Value).length - (([]:List Str)++p2.map (·.arg)).length) ([]:List Value)).length) (([]:List Str)++p2.map (·.arg))).zip (List.drop (([]:List Value).length - (([]:List Str)++p2.map (·.arg)).length) ([]:List Value))) ((([]:List Str)++p2.map (·.arg)).zip xs) _) _ E s;rw[w,List.zip_nil_right];refine aG (aj (aG (aG ?_)));show Q (List.filterMap (λn=>(((([]:List Str)++p2.map (·.arg)).zip xs).lookup n).map λv=>(n,v)) ((([]:List Str)++p2.map (·.arg))++[])) s;rw[b9,dh,g];exact(P' (zs:=xs) [] Y u λH H=>rfl).symm▸q
variable{X:dj}{c:dN}
theorem Ep:∀{a:List (Str×Value)} {m:Str->Option Value},x∉a.map (·.1)->bindL Y a m x=m x
 |[],_,_=>rfl|(y,v)::r,m,h=>by
  simp only[eR,bH,not_or]at h;unfold bindL;rw[Ep h.2]
  split
  .simp[h.1]
  .rfl
theorem Er(U:Y x=some .local):∀{a:List (Str×Value)} {m:Str->Option Value},(a.map (·.1)).Nodup->(x,z)∈a->bindL Y a m x=some z
 |[],_,_,h=>by simp at h
 |(y,v)::r,m,u,h=>by
  simp only[eR,fL]at u;unfold bindL;rcases bH.mp h with q |q
  .cases q
   rw[Ep u.1,ah U];simp
  .exact Er U u.2 q
theorem Et:∀{a:List (Str×Value)} {m:Str->Option Value},x∉a.map (·.1)->bindC Y a m x=m x
 |[],_,_=>rfl|(y,v)::r,m,h=>by
  simp only[eR,bH,not_or]at h;unfold bindC;rw[Et h.2]
  split
  .rfl
  .simp[h.1]
theorem Eu(U:Y x≠some .local):∀{a:List (Str×Value)} {m:Str->Option Value},(a.map (·.1)).Nodup->(x,z)∈a->bindC Y a m x=some z
 |[],_,_,h=>by simp at h
 |(y,v)::r,m,u,h=>by
  simp only[eR,fL]at u;unfold bindC;rcases bH.mp h with q |q
  .cases q
   rw[Et u.1,ab U];simp
  .exact Eu U u.2 q
theorem uN:∀(names:List (Str×NameKind)) (k:Nat) (acc:List (Str×Addr)) (x:Str),((x,NameKind.cell)∈names\/(acc.lookup x).isSome=true)->((cellsFrom k names acc).lookup x).isSome=true
 |[],k,acc,x,h=>h.elim (λq=>by simp at q) id
 |(y,kd)::r,k,acc,x,h=>by
  unfold cellsFrom
  split
  .rename_i U
   refine uN r _ _ x ?_;by_cases q:x=y
   .right;subst q;simp[mv]
   .rcases h with h |h
    .rcases bH.mp h with e |e
     .cases e;exact absurd rfl q
     .exact .inl e
    .right
     have T:(x==y)=false:=cB.mpr q;simp only[mv,T];exact h
  .rename_i U
   refine uN r _ _ x ?_;rcases h with h |h
   .rcases bH.mp h with e |e
    .cases e;simp at U
    .exact .inl e
   .exact .inr h
theorem kj:∀{l:List (Str×α)},l.lookup x=some a->(x,a)∈l
 |[],h=>by simp at h
 |(y,b)::r,h=>by
  rw[mv]at h
  split at h
  .rename_i q;cases h;rw[aH.mp q];simp
  .exact b5 _ (kj h)
structure uO(X:dj)(f:FN)(c:dN)(z:List Stmt)(o:Obj)(fd:FuncData)(names:List Str)(dv:List Value):Prop where
 p:X.b.get? (X.e f)=some o
 u:o.data=.func fd
 v:X.b.CodeRec fd.code fd.qualname
 z:fd.body=.stmts z
 y:fd.closure=[]
 w:fd.scope.isCoroutine=false
 q:fd.scope.isGenerator=false
 j:fd.scope.kind=.function
 n:fd.globals=mainGlobals
 B:fd.builtins=builtinsNs
 d:fd.scope.names=c.b
 l:names.Nodup
 g:names.length=(bv f).a
 t:dv.length=(bv f).b.length
 r:∀h ω μ,b7 h ω μ (bv f).b dv
 A:∀s xs,(∀b o,X.b.get? b=some o->s.heap.get? b=some o)->xs.length<=(bv f).a->(bv f).a<=xs.length+dv.length->BindsTo s fd ⟨xs,[]⟩ (names.zip (xs++dv.drop (xs.length+dv.length - (bv f).a)))
 k:∀x i b,(x,i,b)∈c.a->i < (bv f).a->names[i]?=some x
 m:∀x∈names,∃i b,(x,i,b)∈c.a
 a:∀x i b,(x,i,b)∈c.a->c.b.lookup x=some (if b then .cell else .local)
 inj:∀e∈c.a,∀e'∈c.a,e.1=e'.1\/e.2.1=e'.2.1->e=e'
 C:(bv f).a<=(bv f).d
def Qa{names:List Str}(g:∀x i b,(x,i,b)∈c.a->c.b.lookup x=some (if b then .cell else .local))
  (U:∀x,env.kindOf x=c.b.lookup x) (E:env.locals=s.heap.objs.size) (h:env.cells=cellsFrom (s.heap.objs.size+1) c.b []) (u:names.Nodup) (Y:names.length=np) (B:Q.length=np)
  (n:∀x i b,(x,i,b)∈c.a->i < np->names[i]?=some x) (R:SR X σ μ s.heap) (r:b7 s.heap (au σ μ) μ Q zs)
  (x:InCallC s env.locals (bindL env.kindOf (names.zip zs) λJ=>none) env.cells (bindC env.kindOf (names.zip zs) λJ=>none) s'):
  SR X σ μ s'.heap/\bf s.heap σ μ s'.heap σ μ No/\FR X env c.a (Q.map some++List.replicate (ns - np) none) σ μ s'.heap:=by
 obtain⟨I,N⟩:=R.grow x.toInCall.keep;refine⟨I,N,?_⟩;have f:zs.length=np:=by rw[<-r.length,B]
 have j:((names.zip zs).map (·.1)).Nodup:=by rw[List.map_fst_zip ("~6Y1utOxfQRA" Y f)];exact u
 have none_of:∀a,c8 env a->s.heap.get? a=none:=λa G=>by
  have:s.heap.objs.size<=a:=by
   rcases G with rfl |⟨y,T⟩
   .rw[E];exact av _
   .have:=x.above y a (kj T);rw[E]at this;exact jQ this
  generalize e:s.heap.get? a=L
  induction L using aX with
  |none=>rfl|some o=>exact absurd (jd e) (tJ.mpr this)
 have k:∀y i b v,(y,i,b)∈c.a->(Q.map some++List.replicate (ns - np) none)[i]?=some (some v)->∃z,(y,z)∈names.zip zs/\aq s'.heap (au σ μ) μ v z:=λy i b v T e=>by
  have hi:i < np:=by
   refine Nat.lt_of_not_le λq=>?_;rw[Kf (by rw[bX,B];exact q)]at e;exact nomatch List.eq_of_mem_replicate (kV e)
  rw[n7 (by rw[bX,B];exact hi),n1]at e;obtain⟨w,m,e⟩:=cD e
  .rw[ay e]at m
   obtain⟨z,hz,H⟩:=r.get m;refine⟨z,?_,H.ext R N (cF.no _)⟩;have h1:=n y i b T hi;have:(names.zip zs)[i]?=some (y,z):=by rw[List.getElem?_zip_eq_some];exact⟨h1,hz⟩
   exact kV this
 refine⟨⟨_,x.toInCall.ns,λy i T v e=>?_⟩,λy i T=>?_,λa G=>⟨R.ou (none_of a G),R.lq (none_of a G)⟩,λa G t vs q e=>?_,λa G=>?_,λy a e=>?_,λy z a e e'=>?_⟩
 .obtain⟨z,hz,H⟩:=k y i false v T e
  exact⟨z,Er (by rw[U];exact g y i false T) j hz,H⟩
 .have p:(y,NameKind.cell)∈c.b:=kj (g y i true T)
  have:=uN c.b (s.heap.objs.size+1) [] y (.inl p);obtain⟨a,G⟩:=qm.mp this;rw[<-h]at G;refine⟨a,_,G,x.cell y a G,λv e=>?_⟩;obtain⟨z,hz,H⟩:=k y i true v T e;exact⟨z,Eu (by rw[U,g y i true T];simp) j hz,H⟩
 .rcases G with rfl |⟨y,T⟩
  .exact Ns.uC x.toInCall.ns t vs q e
  .exact(uD (x.cell y a T)).2 t vs q e
 .rcases G with rfl |⟨y,T⟩
  .exact Ns.live x.toInCall.ns
  .exact(uD (x.cell y a T)).1
 .exact xj (x.above y a (kj e))
 .exact name_of_addr x.apart (kj e) (kj e')
def Qb{C:CT}(st:re X G)(J:mT X)(hC:ux X C n)(ok:uO X f c body o fd names dv)
  (T:∀(B:Bd) (S:Sc),B.X=X->B.G=G->S.c=c->fY B S (bv f).c body):
  ∀(A:Around) (R:Result->Shared->Prop) (d:D) (vs:List V) (xs:List Value) (K:V->St->Prop),fS (n+1) A->SR X d.σ d.μ d.s.heap->d.Rs vs xs->DI C (bv f) vs K d.σ->
   KV X d K (λx s'=>R (.ok (.ret x)) s')->codeAny (model X.a X.w) A (.call (.ref (X.e f)) ⟨xs,[]⟩) R d.s:=λA R d vs xs K j m r w k=>by
 have w:(match ol (bv f) vs with |none=>False |some ρ=>aM C (bv f).c ρ (dB K) d.σ):=w;by_cases U:vs.length<=(bv f).a/\(bv f).a<=vs.length+(bv f).b.length
 rotate_left
 .rw[show ol (bv f) vs=none from ab U]at w;exact w.elim
 rw[show ol (bv f) vs=_ from ah U]at w;have hlen:=r.length;have u:=ok.t;have rz:=r.append (a0.drop (ok.r d.s.heap (au d.σ d.μ) d.μ) (vs.length+(bv f).b.length - (bv f).a));generalize Qc:vs++(bv f).b.drop (vs.length+(bv f).b.length - (bv f).a)=Q at rz w;have Ew:Q.length=(bv f).a:=by rw[<-Qc,b_,Kh];exact "~tUJiVt=MOo0=BDYVj|EegDi5XfUg_f>;l?JD^6O7;c^Db^4iDguFB^7t816?NMrI" ao ao U
 have yG:=ok.A d.s xs m.k (hlen▸U.1) (by rw[u,<-hlen];exact U.2);rw[u,<-hlen]at yG;generalize xs++dv.drop (vs.length+(bv f).b.length - (bv f).a)=zs at rz yG;have Qd:zs.length=(bv f).a:=by rw[<-rz.length,Ew]
 have Qe:names.length=zs.length:=ok.g.trans Qd.symm;refine codeAny_call_function (by have:=j.c;exact "~1JvxQ8fE7C?rbl" this) (m.k _ _ ok.p) ok.u ok.w ok.q ok.z (ok.v.keeps m.k) (yG _ _ _ _ ?_);rw[ok.y];refine wpAny_newFunctionEnv_cells ok.j (λy v=>?_) λenv rE s1 H=>?_
 .have Qf:y.1∈names:=by
   have:y.1∈(names.zip zs).map (·.1):=ea.mpr ⟨y,v,rfl⟩;rw[List.map_fst_zip (gV Qe)]at this;exact this
  obtain⟨i,b,hv⟩:=ok.m y.1 Qf;have:=ok.a _ _ _ hv;rw[ok.d]
  induction b using aS with
  |false=>exact .inl this|true=>exact .inr ⟨this,uN _ _ _ _ (.inl (kj this))⟩
 .have E:env.locals=d.s.heap.objs.size:=by rw[rE];rfl
  have h:env.cells=cellsFrom (d.s.heap.objs.size+1) c.b []:=by rw[rE,<-ok.d];rfl
  have fi:env.scope=fd.scope:=by rw[rE];rfl
  have t:eY env c:=⟨by rw[fi];exact ok.j,by rw[rE];exact ok.n,by rw[rE];exact ok.B,by rw[fi];exact ok.d,ok.a,ok.inj⟩;obtain⟨I,z,s⟩:=Qa (ns:=(bv f).d) ok.a t.kindOf E h ok.l ok.g Ew (λx i b H hi=>ok.k x i b H hi) m rz H;have Ex:er d.s s1:=by obtain⟨h',N,rfl,_⟩:=H.done;exact⟨rfl,rfl⟩
  refine⟨st.u.keeps λb ob q=>H.toInCall.keep b ob (m.k b ob q),codeAny_func ?_⟩;have Qg:oF n (A.deeper env):=⟨j.b,by show A.depth+1+3*n+5 < _;have:=j.c;exact "~=f2>63I8<WboVZz5dH1t" this,by show A.units+3+12*n+206 < _;have:=j.a;exact "~RKaxr;r00>_p7QhgSAdW8LFDn" this⟩;have g1:Go X No d ⟨s1,d.σ,d.μ⟩:=⟨I,z,Ex⟩;refine T ⟨X,C,n,A.deeper env,G,st,hC,Qg,J⟩ ⟨c,env,t⟩ rfl rfl rfl _ ⟨s1,d.σ,d.μ⟩ _ (dB K) _ ⟨s,I⟩ w λd2 fl L Y g2 F2 g w2=>?_;have aY:∀a,c8 env a->d.s.heap.get? a=none:=λa ha=>by
   have:d.s.heap.objs.size<=a:=by
    rcases ha with rfl |⟨y,v⟩
    .rw[E];exact av _
    .have:=H.above y a (kj v);rw[E]at this;exact jQ this
   generalize e:d.s.heap.get? a=x_
   induction x_ using aX with
   |none=>rfl|some o=>exact absurd (jd e) (tJ.mpr this)
  have p:Go X No d d2:=⟨g2.j,(g1.no.trans g2).k.shrink λa ha=>.inr (aY a ha),Ex.trans g2.p⟩
  induction g with
  |b rr=>exact k d2 _ _ p rr w2|a=>exact k d2 .z _ p .none w2|d=>exact(show False from w2).elim|c=>exact(show False from w2).elim
def Qh(st:re X G)(J:mT X)(a:FN->dN)(body:FN->List Stmt)(ok:∀f,∃o fd names dv,uO X f (a f) (body f) o fd names dv)
  (T:∀(B:Bd) (S:Sc) (f:FN),B.X=X->B.G=G->S.c=a f->fY B S (bv f).c (body f)):∀n,ux X (ai n) n:=by
 intro n
 induction n with
 |zero=>exact λf A R d vs xs K j m r w k=>(show False from w).elim|succ n ih=>
  intro f A R d vs xs K j m r w k;obtain⟨o,fd,names,dv,h⟩:=ok f;have w:Lk (rf Lk (uw Lk n) (bv f) vs K d.σ):=w;exact Qb st J ih h (λB S=>T B S f) A R d vs xs K j m r w.h k
end Mine.Lake.S
end
set_option backward.match.sparseCases false
section
open PySem PySem.W PyProof.Rows
namespace Mine.Lake.S
abbrev rG:List MN:=[0,1,2,3,4,5,6]
abbrev Ey:List String:=["A", "B", "Q", "R", "T", "a", "any", "b", "error", "holders", "k", "never", "null", "number", "object", "p", "q", "store", "string", "t", "tab", "undefined", "unknown", "void", "where", "|"]
abbrev Qi:List iI:=[.a,.b,.d,.c,.e]
abbrev yH:List Nat:=[186,212,217,224,226,228,232,234,236,241,273,277,328,333,335,337,339,341,355,357,361,377,381,402,433,438,459,466,506,544,553,591,624,872,874,877,887,889,907,910]
abbrev yI:List ((Nat×Nat)×Nat):=[((180,11),7),((199,26),2),((210,10),3),((220,15),4),((275,15),7),((276,28),8),((305,17),3),((309,18),7),((421,26),4),((811,18),4),((819,15),5),((819,40),6),((861,31),3),((892,13),13),((893,14),14),((908,10),11),((916,11),2)]
abbrev gd(b:Bool)(e:CE):CE:=match b with |true=>e |false=>.J
abbrev fj(o:Option α)(f:α->CE):CE:=match o with |some a=>f a |none=>.J
abbrev lC(nm:α->Str)(l:List α)(x:Str):Option α:=l.find? λa=>nm a==x
abbrev Ez:Operator->Option fN
 |.Add=>some .a |.Sub=>some .c |.Mult=>some .d |.FloorDiv=>some .e |.Mod=>some .b |_=>none
abbrev EA:CmpOp->Option lh
 |.Eq=>some .a |.NotEq=>some .c |.Lt=>some .f |.LtE=>some .i |.Gt=>some .e |.GtE=>some .g |.In=>some .b |.NotIn=>some .d |.Is=>some .j |.IsNot=>some .h
abbrev rH:Expr->Option Const
 |.Constant k _ _=>some k|_=>none
abbrev uP:Const->Option Nat
 |.int (.ofNat n)=>some n|_=>none
abbrev Qj(x:Expr):Bool:=match(rH x).bind uP with |some n=>Nat.beq n 0 |none=>false
abbrev Qk(x:Expr):Bool:=(rH x).isSome
abbrev Ql(rhs:Bool)(l:List Expr):Bool:=!(rhs&&!(l.all Qk&&!l.isEmpty))&&!((match l with |x::_=>Qj x |[]=>false)&&Nat.ble l.length 2)
abbrev uQ(c:dN)(x:Str):Option (Nat×Bool):=c.a.lookup x
abbrev lD(c:dN)(x:Str):Bool:=(match c.b.lookup x with |some .globalImplicit=>true |_=>false)&&!(x==Str.ofString "__debug__")
abbrev lE(c:dN)(s:Scope)(x:Str)(i:Nat):dN where
 a:=(x,i,false)::s.names.filterMap λp=>match p.2==.free with |true=>(c.a.lookup p.1).map λq=>(p.1,q.1,true) |false=>none
 b:=s.names.map λ(n,k)=>if(k==.free&&true&&c.b.lookup n==some .cell)then(n,.cell)else(n,k)
abbrev EB(p:Str×Nat×Bool)(l:mR):Bool:=l.any λq=>q.1==p.1&&(Nat.beq q.2.1 p.2.1&&q.2.2==p.2.2)
abbrev EC(l:mR):Bool:=l.all λe=>l.all λe'=>!(e.1==e'.1||Nat.beq e.2.1 e'.2.1)||(e.1==e'.1&&(Nat.beq e.2.1 e'.2.1&&e.2.2==e'.2.2))
abbrev ED(c:dN):Bool:=c.a.all λp=>c.b.lookup p.1==some (if p.2.2 then NameKind.cell else .local)
abbrev uR(s:Scope)(c:dN)(x:Str)(i:Nat):Bool:=
 let c':=lE c s x i
 (s.kind==.function&&s.names.all λy=>!(y.2==.local)||s.names.lookup y.1==some .local)&&
 ((s.names.all λy=>!(y.2==.cell))&&((s.names.all λy=>!(y.2==.free)||c.a.any λq=>q.1==y.1&&q.2.2)&&
 ((c'.a.all λp=>(p.2.2||Nat.beq p.2.1 i)&&(!p.2.2||(EB p c.a&&(s.names.any λy=>y.1==p.1&&y.2==.free)&&!Nat.beq p.2.1 i)))&&(ED c'&&EC c'.a))))
abbrev EE:Expr->Option (List Expr)
 |.Tuple l _ _=>some l|_=>none
abbrev EF(c:dN)(t:Expr):Option qP:=(js t).elim ((EE t).bind λl=>(kf c.a l).map .b) λx=>(uQ c x).map λp=>.a p.1
abbrev oO(G:jo)(n:Str)(s:String):Bool:=match G.lookup n with |some (.a t)=>t==s |_=>false
abbrev yJ(G:jo)(n:Str):Bool:=match G.lookup n with |some .d=>true |_=>false
abbrev oP:List Expr->Option Expr
 |[y]=>some y|_=>none
abbrev EG:List Expr->Option (Expr×Expr)
 |[y,z]=>some (y,z)|_=>none
abbrev yK:Expr->Option (Str×Expr)
 |.Call g l j _=>(js g).bind λn=>bq (j.isEmpty=true) ((oP l).map λy=>(n,y))
 |_=>none
abbrev uS:List Comprehension->Option (Str×Expr×List Expr)
 |[⟨t,it,o,k⟩]=>bq (k=0) ((js t).map λx=>(x,it,o))
 |_=>none
abbrev Qm(s:String):Option B1:=if s= "len" then some .a else if s= "any" then some .e else if s= "sorted" then some .c else none
abbrev Qn(s:String):Option B1:=if s= "tuple" then some .b else if s= "dict" then some .d else none
abbrev EH:Expr->Option (Option Expr×Option Expr×Option Expr)
 |.Slice l u st _=>some (l,u,st)|_=>none
section
variable(G:jo)
abbrev oQ(c:dN)(f:Expr->CE)(x:Expr):mE:=(yK x).elim (.a (f x)) λp=>match oO G p.1 "range" with
 |true=>(match lD c p.1&&cV p.2 with |true=>.b (f p.2) |false=>.a .J)
 |false=>.a (f x)
abbrev yL(f:Expr->CE):Option Expr->CE
 |none=>.K|some x=>f x
abbrev EI(c:dN)(f:Expr->CE)(n:Str)(l:List Expr):CE:=gd (lD c n&&l.all cV) (fj (G.lookup n) λg=>match g with
 |.g q=>.j q (l.map f)|.j q=>.L q (l.map f)|.b id=>(oP l).elim (fj (EG l) λp=>gd (id== "isinstance") (fj (js p.2) λz=>gd (oO G z "str" &&lD c z) (.O (f p.1)))) λy=>fj (Qm id) λb=>.x b (f y)
 |.a t=>fj (oP l) λy=>fj (Qn t) λb=>.x b (f y)
 |_=>.J)
abbrev Qo(m:iI)(l:List Expr):Bool:=match m with
 |.d=>l.isEmpty|.c=>Nat.beq l.length 2|_=>Nat.beq l.length 1
abbrev EJ(f:Expr->CE)(o:Expr)(a:Str)(l:List Expr)(same:Bool):CE:=gd (iS o&&(same&&(l.all cV&&Nat.ble l.length 29))) ((lC lz Qi a).elim (fj (lC (λm=>Str.ofString (MN.name m)) rG a) λm=>.y (f o) m (l.map f))
 λm=>gd (Qo m l) (.w m (f o) (l.map f)))
abbrev cE:Nat->Bool->dN->Expr->CE
 |0=>λJ J J=>.J
 |m+1=>λrhs c x=>match x with
  |.Constant k _ _=>(match k with
   |.none=>.N|.bool b=>.B b|.int i=>(match i with |.ofNat n=>.g n |_=>.J)
   |.str s=>fj (lC Str.ofString Ey s) .u|_=>.J)
  |.Name x _=>gd (!(x==Str.ofString "__debug__")) (match uQ c x with
   |some p=>.d p.1|none=>gd (lD c x) (match G.lookup x with |some (.e i)=>.p i |some (.h l)=>.M (.p l) |_=>.J))
  |.Attribute o a _=>gd (iS o) (fj (lC (λa=>Str.ofString (AN.name a)) j6 a) (.q (cE m false c o)))
  |.Subscript o i _=>(EH i).elim (gd (rh i) (.h (cE m false c o) (cE m false c i))) λp=>gd p.2.2.isNone (.H (cE m false c o) (yL (cE m false c) p.1) (yL (cE m false c) p.2.1))
  |.BinOp a op b _=>fj (Ez op) λo=>.A o (cE m false c a) (cE m false c b)
  |.Compare a ops l _=>(match ops with
   |[op]=>(match l with
    |[y]=>((js y).bind λn=>bq ((yJ G n&&(lD c n&&op==.In))=true) (some ())).elim (gd (fW y) (fj (EA op) λo=>.n o (cE m false c a) (cE m false c y))) λJ=>.P (cE m false c a)
    |_=>.J)
   |_=>.J)
  |.UnaryOp op y _=>(match op with
   |.Not=>.G (cE m false c y)|.USub=>fj ((rH y).bind uP) .I|_=>.J)
  |.BoolOp op l _=>(match op with |.And=>.z (l.map (cE m false c)) |.Or=>.D (l.map (cE m false c)))
  |.IfExp t a b _=>.C (cE m false c t) (cE m false c a) (cE m false c b)|.Tuple l _ _=>gd (l.all cV&&Nat.ble l.length 1000) (.t (l.map (cE m false c)))|.List l _=>gd (l.all cV&&Nat.ble l.length 1000) (.r (Ql rhs l) (l.map (cE m false c)))|.Dict I vs _=>gd (ru I vs&&Nat.ble I.length 15) (.F (m0 (cE m false c) I vs))|.ListComp e gs s pos=>fj (uS gs) λg=>fj (yI.lookup (pos.line,pos.col)) λi=>gd (uR s c g.1 i&&(fW g.2.1&&Nat.ble g.2.2.length 1)) (.E (cE m false (lE c s g.1 i) e) i (oQ G c (cE m false c) g.2.1) (g.2.2.map (cE m false (lE c s g.1 i))))
  |.DictComp k v gs s pos=>fj (uS gs) λg=>gd g.2.2.isEmpty (fj (yI.lookup (pos.line,pos.col)) λi=>gd (uR s c g.1 i&&fW g.2.1) (.Q (cE m false (lE c s g.1 i) k) (cE m false (lE c s g.1 i) v) i (oQ G c (cE m false c) g.2.1)))
  |.Call g l j pos=>(match j with
   |[]=>(match g with
    |.Name n _=>EI G c (cE m false c) n l|.Attribute o a N=>EJ (cE m false c) o a l (N.endLine==pos.line)|_=>.J)
   |_=>.J)
  |_=>.J
abbrev Qp:Expr->Option (Expr×List Comprehension×Scope×Pos)
 |.ListComp e gs s pos=>some (e,gs,s,pos)|_=>none
abbrev jt(o:Option α)(f:α->CS):CS:=match o with |some a=>f a |none=>.j
abbrev lF(b:Bool)(e:CS):CS:=match b with |true=>e |false=>.j
abbrev EK(op:Operator):Option fN:=match op with |.Add=>some .a |.Sub=>some .c |_=>none
abbrev iT(f:Stmt->CS):List Stmt->List CS
 |[]=>[]
 |s::r=>match yH.contains s.pos.line with
  |true=>[.j]|false=>f s::iT f r
abbrev cS(m:Nat)(c:dN):Nat->Stmt->CS
 |0=>λJ=>.j
 |k+1=>λs=>match s with
  |.Pass _=>.x|.Break _=>.y|.Continue _=>.u|.Return v _=>(match v with |none=>.t |some x=>.d (cE G m false c x))
  |.Expr x _=>lF (gL x) (.k (cE G m false c x))|.If t a b _=>.h (cE G m false c t) (iT (cS m c k) a) (iT (cS m c k) b)|.While t a b _=>(match b with |[]=>.q (cE G m false c t) (iT (cS m c k) a) |_=>.j)
  |.For t i a b _=>(match b with |[]=>jt (EF c t) λp=>lF (fW i) (.m p (oQ G c (cE G m false c) i) (iT (cS m c k) a)) |_=>.j)
  |.Try a h o f _=>(match h with |[]=>(match o with |[]=>(match f with |st::f=>.v (iT (cS m c k) a) (iT (cS m c k) (st::f)) |[]=>.j) |_=>.j) |_=>.j)
  |.AugAssign t op x _=>jt (EK op) λo=>(match t with
   |.Attribute y a _=>jt (lC (λa=>Str.ofString (AN.name a)) j6 a) λan=>.s (cE G m false c y) an o (cE G m false c x)
   |.Subscript y i _=>lF (rh i) (.w (cE G m false c y) (cE G m false c i) o (cE G m false c x))|_=>.j)
  |.Assign ts x _=>(match ts with
   |[t]=>(match t with
    |.Name n _=>jt (uQ c n) λp=>(match gL x with
     |true=>.g p.1 (cE G m true c x)|false=>jt (Qp x) λq=>jt (uS q.2.1) λg=>jt (yI.lookup (q.2.2.2.line,q.2.2.2.col)) λi=>lF (uR q.2.2.1 c g.1 i&&(fW g.2.1&&Nat.ble g.2.2.length 1)) (.g p.1 (.E (cE G m false (lE c q.2.2.1 g.1 i) q.1) i (oQ G c (cE G m false c) g.2.1) (g.2.2.map (cE G m false (lE c q.2.2.1 g.1 i))))))
    |.Tuple l _ _=>lF (gL x&&yE x) (jt (kf c.a l) λis=>.r is (cE G m false c x))
    |.Attribute y a _=>lF (gL x) (jt (lC (λa=>Str.ofString (AN.name a)) j6 a) λan=>.l (cE G m false c y) an (cE G m true c x))
    |.Subscript y i _=>lF (gL x) (.n (cE G m false c y) (cE G m false c i) (cE G m false c x))|_=>.j)
   |_=>.j)
  |_=>.j
end
variable{B:Bd}{S:Sc}{f f':Expr->CE}
def fk:aU B S .J x:=⟨λE d ρ K Q p w k=>(show False from w).elim,λE d ρ K Q p w k=>(show False from w).elim⟩
def fn(h:b=true->aU B S e x):aU B S (gd b e) x:=by
 induction b with
 |false=>exact fk|true=>exact h rfl
def fB(h:∀a,o=some a->aU B S (g a) x):aU B S (fj o g) x:=by
 induction o with
 |none=>exact fk|some a=>exact h a rfl
def uT(h:∀a,o=some a->aU B S (g a) x)(h0:aU B S e x):aU B S (o.elim e g) x:=by
 induction o with
 |none=>exact h0|some a=>exact h a rfl
def m5(h:b=true->SX B S e x):SX B S (lF b e) x:=by
 induction b with
 |false=>exact gK|true=>exact h rfl
def kl(h:∀a,o=some a->SX B S (g a) x):SX B S (jt o g) x:=by
 induction o with
 |none=>exact gK|some a=>exact h a rfl
def ce{a b:Bool}(h:(a&&b)=true):a=true/\b=true:=bh.mp h
def oR{α:Type}{nm:α->Str}{l:List α}{a:α}(h:lC nm l x=some a):nm a=x:=aH.mp (List.find?_some (p:=λa=>nm a==x) h)
def EL{x:Str}{b:Bool}(h:(!b)=true):b=false:=by induction b <;>first |rfl |exact b6 h
def rI{c:dN}{x:Str}(h:lD c x=true):c.b.lookup x=some .globalImplicit/\(x==Str.ofString "__debug__")=false:=by
 obtain⟨a,b⟩:=ce h;refine⟨?_,EL (x:=x) b⟩;cases U:c.b.lookup x with
 |none=>rw[U]at a;exact b6 a|some k=>rw[U]at a;induction k <;>first |rfl |exact b6 a
def Qq(e:rH x=some k):∃a p,x=.Constant k a p:=by
 induction x using eJ with
 |Constant k' a p=>exact⟨a,p,by rw[<-ay e]⟩|_=>exact bl e
def Qr(e:uP k=some n):k=.int (.ofNat n):=by
 induction k with
 |int i=>induction i with
  |ofNat m=>rw[<-ay e]|negSucc _=>exact bl e
 |_=>exact bl e
def Qs(e:EE x=some l):∃a p,x=.Tuple l a p:=by
 induction x using eJ with
 |Tuple l' a p=>exact⟨a,p,by rw[<-ay e]⟩|_=>exact bl e
def EM(h:oO G n s=true):G.lookup n=some (.a s):=by
 unfold oO at h;cases e:G.lookup n with
 |none=>rw[e]at h;exact b6 h|some g=>
  rw[e]at h
  induction g with
  |a t=>rw[eq_of_beq (show(t==s)=true from h)]|_=>exact b6 h
def Qt(h:yJ G n=true):G.lookup n=some .d:=by
 unfold yJ at h;cases e:G.lookup n with
 |none=>rw[e]at h;exact b6 h|some g=>
  rw[e]at h
  induction g with
  |d=>rfl|_=>exact b6 h
def yM(e:oP l=some y):l=[y]:=by
 induction l with
 |nil=>exact bl e
 |cons a l=>induction l with
  |nil=>rw[<-ay e]|cons _ _=>exact bl e
def Qu(e:EG l=some p):l=[p.1,p.2]:=by
 induction l with
 |nil=>exact bl e
 |cons a l=>induction l with
  |nil=>exact bl e
  |cons b l=>induction l with
   |nil=>rw[<-ay e]|cons _ _=>exact bl e
def Qv(e:yK x=some p):∃np pos,x=.Call (.Name p.1 np) [p.2] [] pos:=by
 induction x using eJ with
 |Call g l j pos=>
  obtain⟨n,u,e⟩:=a9 (x:=js g) e;obtain⟨U,e⟩:=bN e;obtain⟨y,v,e⟩:=cD e;obtain⟨np,H⟩:=oK u;rw[H,yM v,tB.mp U,<-e];exact⟨np,pos,rfl⟩
 |_=>exact bl e
def yN(e:uS gs=some p):∃np,gs=[⟨.Name p.1 np,p.2.1,p.2.2,0⟩]:=by
 induction gs with
 |nil=>exact bl e|cons g gs=>
  obtain⟨t,it,o,k⟩:=g
  induction gs with
  |cons _ _=>exact bl e|nil=>
   obtain⟨U,e⟩:=bN (p:=k=0) e;obtain⟨n,u,e⟩:=cD e;obtain⟨np,Y⟩:=oK u;rw[Y,U,<-e];exact⟨np,rfl⟩
def uU(hf:∀x,aU B S (f x) x)(x:Expr):SI B S (oQ B.G S.c f x) x:=by
 unfold oQ;cases o:yK x with
 |none=>exact yq (hf _).v|some p=>
  show SI B S (match oO B.G p.1 "range" with |true=>(match lD S.c p.1&&cV p.2 with |true=>.b (f p.2) |false=>.a .J) |false=>.a (f x)) x;cases H:oO B.G p.1 "range" with
  |false=>exact yq (hf _).v|true=>
   cases h:lD S.c p.1&&cV p.2 with
   |false=>exact yq fk.v|true=>
    obtain⟨np,pos,e⟩:=Qv o;obtain⟨h1,h2⟩:=ce h;obtain⟨h3,h4⟩:=rI h1;rw[e];exact O9 hf (EM H) h3 h4 h2
def EN(hf:∀x,aU B S (f x) x)(o:Option Expr):PE B S (yL f o) o:=by
 induction o with
 |none=>exact OD|some x=>exact(hf x).v
def rJ(h:[y].all cV=true):cV y=true:=(ce (a:=cV y) h).1
def Qw(hf:∀x,aU B S (f x) x)(n:Str)(l:List Expr)(np pos:Pos):aU B S (EI B.G S.c f n l) (.Call (.Name n np) l [] pos):=by
 refine fn λh=>fB λg H=>?_;obtain⟨h1,h2⟩:=ce h;obtain⟨h3,h4⟩:=rI h1
 induction g with
 |g q=>exact OF hf H h3 h4 h2|j q=>exact OG hf H h3 h4 h2|b id=>
  refine uT (o:=oP l) (λy v=>fB λb T=>?_) (fB λp J=>fn λhi=>fB λz hz=>fn λh=>?_)
  .rw[yM v]at h2 ⊢
   have T:(if id= "len" then some B1.a else if id= "any" then some .e else if id= "sorted" then some .c else none)=some b:=T;by_cases e1:id= "len"
   .rw[ah e1]at T;rw[<-ay T];rw[e1]at H
    exact rm hf (.inl ⟨_,rfl,H⟩) h3 h4 (rJ h2) λR r e k=>NX B.a.e R r e k
   .rw[ab e1]at T
    by_cases w:id= "any"
    .rw[ah w]at T;rw[<-ay T];rw[w]at H
     exact rm hf (.inl ⟨_,rfl,H⟩) h3 h4 (rJ h2) λR r e k=>N3 B.b.room R r e k
    .rw[ab w]at T
     by_cases Y:id= "sorted"
     .rw[ah Y]at T;rw[<-ay T];rw[Y]at H
      exact rm hf (.inl ⟨_,rfl,H⟩) h3 h4 (rJ h2) λR r e k=>B.d B.b.room R r e k
     .rw[ab Y]at T;exact bl T
  .rw[Qu J]at h2 ⊢
   rw[eq_of_beq hi]at H;obtain⟨i,c⟩:=oK hz;rw[c];obtain⟨h5,h6⟩:=ce h;obtain⟨h6,h7⟩:=rI h6;exact OL hf H h3 h4 (EM h5) h6 h7 (ce (a:=cV p.1) h2).1
 |a t=>
  refine fB (o:=oP l) λy v=>fB λb T=>?_;rw[yM v]at h2 ⊢;have T:(if t= "tuple" then some B1.b else if t= "dict" then some .d else none)=some b:=T;by_cases e1:t= "tuple"
  .rw[ah e1]at T;rw[<-ay T];rw[e1]at H
   exact rm hf (.inr ⟨_,rfl,H⟩) h3 h4 (rJ h2) λR r e k=>NY R r e k
  .rw[ab e1]at T
   by_cases w:t= "dict"
   .rw[ah w]at T;rw[<-ay T];rw[w]at H
    exact rm hf (.inr ⟨_,rfl,H⟩) h3 h4 (rJ h2) λR r e k=>N1 B.a.e R r e k
   .rw[ab w]at T;exact bl T
 |_=>exact fk
def Qx(hf:∀x,aU B S (f x) x)(o:Expr)(a:Str)(l:List Expr)(N pos:Pos):aU B S (EJ f o a l (N.endLine==pos.line)) (.Call (.Attribute o a N) l [] pos):=by
 refine fn λh=>?_;obtain⟨h1,h2⟩:=ce h;obtain⟨h3,h4⟩:=ce h2;obtain⟨h5,h6⟩:=ce h4;refine uT (λm hm=>fn λY=>?_) (fB λm hm=>?_)
 .have one:Nat.beq l.length 1=true->∃x,l=[x]:=λh=>Ki.mp (n4 h)
  rw[<-oR hm]
  induction m with
  |a=>obtain⟨x,e⟩:=one Y;rw[e]at h5 ⊢;exact OP hf h1 h3 h5|b=>obtain⟨x,e⟩:=one Y;rw[e]at h5 ⊢;exact OQ hf h1 h3 h5|e=>obtain⟨x,e⟩:=one Y;rw[e]at h5 ⊢;exact OV hf h1 h3 h5|d=>rw[tB.mp Y];exact OR hf h1 h3|c=>
   induction l with
   |nil=>exact b6 Y|cons x l=>
    obtain⟨y,e⟩:=Ki.mp (kU (n4 Y));rw[e]at h5 ⊢;exact OU hf h1 h3 h5
 .rw[<-oR hm];exact OJ hf h1 h3 h6 h5
def Qy(h:EB p l=true):p∈l:=by
 obtain⟨q,L,h⟩:=qj.mp h;obtain⟨h1,h⟩:=ce h;obtain⟨h2,h3⟩:=ce h;obtain⟨a,b,c⟩:=q;obtain⟨x,y,z⟩:=p;obtain rfl:=aH.mp h1;obtain rfl:=n4 h2;obtain rfl:=aH.mp h3;exact L
def uV(h:(!a||b)=true)(G:a=true):b=true:=by subst G;exact h
def Qz(h:EC l=true):∀e∈l,∀e'∈l,e.1=e'.1\/e.2.1=e'.2.1->e=e':=λe J e' g L=>by
 have h:=ek.mp (ek.mp h e J) e' g;obtain⟨a,b,c⟩:=e;obtain⟨x,y,z⟩:=e';have h:=uV h (B9.mpr (L.imp (λq=>aH.mpr q) λq=>by rw[show b=y from q];exact Nat.beq_refl y));obtain⟨h1,h⟩:=ce h;obtain⟨h2,h3⟩:=ce h;obtain rfl:=aH.mp h1;obtain rfl:=n4 h2;obtain rfl:=aH.mp h3;rfl
def QA(h:ED c=true):∀x i b,(x,i,b)∈c.a->c.b.lookup x=some (if b then .cell else .local):=λx i b H=>aH.mp (ek.mp h _ H)
def yO(h:uR s c x i=true):lB s c (lE c s x i) x i:=by
 obtain⟨h1,h⟩:=ce h;obtain⟨h3,h⟩:=ce h;obtain⟨h4,h⟩:=ce h;obtain⟨h5,h⟩:=ce h;obtain⟨h6,h7⟩:=ce h;obtain⟨h1,h2⟩:=ce h1;refine⟨aH.mp h1,λy v U=>?_,λy v U=>?_,λy v=>?_,rfl,.head _,λy j b v=>?_,QA h6,Qz h7⟩
 .exact aH.mp (uV (ek.mp h2 y v) (aH.mpr U))
 .have:=ek.mp h3 y v
  rw[U]at this;cases this
 .obtain⟨⟨a,j,b⟩,L,h⟩:=qj.mp (uV (ek.mp h4 _ v) rfl)
  obtain⟨e1,w⟩:=ce h;obtain rfl:=aH.mp e1;dsimp only at w;subst w;exact⟨j,L⟩
 .obtain⟨e1,w⟩:=ce (ek.mp h5 _ v)
  refine⟨λT=>?_,λT=>?_⟩
  .subst T;exact n4 e1
  .subst T
   obtain⟨w,H⟩:=ce (uV w rfl);obtain⟨Q,g⟩:=ce w;obtain⟨⟨a,k⟩,L,h⟩:=qj.mp g;obtain⟨N,Y⟩:=ce h;obtain rfl:=aH.mp N;obtain rfl:=aH.mp Y;exact⟨Qy Q,L,λq=>by rw[show j=i from q]at H;rw[Nat.beq_refl]at H;cases H⟩
def QB(h:EF c t=some p):oM c p t:=by
 rcases li (x:=js t) h with h |h
 .obtain⟨nm,u,h⟩:=h
  obtain⟨q,L,h⟩:=cD h;obtain⟨np,e⟩:=oK u;rw[e,<-h];exact .d (rB L)
 .obtain⟨l,Y,h⟩:=a9 h.2
  obtain⟨is,hi,h⟩:=cD h;obtain⟨a,U,e⟩:=Qs Y;rw[e,<-h];exact .a hi
def QC{op:Operator}{o:fN}(h:Ez op=some o):xW o=op:=by induction op <;>first |exact bl h |(rw[<-ay h];rfl)
def QD{op:CmpOp}{o:lh}(h:EA op=some o):q8 o=op:=by induction op <;>first |exact bl h |(rw[<-ay h];rfl)
def EO{op:Operator}{o:fN}(h:EK op=some o):uK o=some op:=by induction op <;>first |exact bl h |(rw[<-ay h];rfl)
def EP(m:Nat):∀(rhs:Bool) (c:dN) (env:Env) (Q:eY env c) (x:Expr),aU B ⟨c,env,Q⟩ (cE B.G m rhs c x) x:=by
 induction m with
 |zero=>exact λw w w w w=>fk|succ m ih=>
  intro rhs c env Q x;have hf:=λx=>ih false c env Q x
  induction x using eJ with
  |Constant k kd pos=>
   induction k with
   |none=>exact Og|bool b=>exact Oh|int i=>
    induction i with
    |ofNat n=>exact Oi|negSucc n=>exact fk
   |str s=>refine fB λt C=>?_;rw[<-oR C];exact Oj|_=>exact fk
  |Name x pos=>
   refine fn λh=>?_;cases J:uQ c x with
   |some p=>exact On (rB J) (EL (x:=x) h)|none=>
    refine fn λh=>?_;obtain⟨h3,h4⟩:=rI h;cases H:B.G.lookup x with
    |none=>exact fk|some g=>
     induction g with
     |e i=>exact Oo H h3 h4|h l=>exact Op H h3 h4|_=>exact fk
  |Attribute o a pos=>refine fn λh=>fB λan G=>?_;rw[<-oR G];exact Oq (hf o).v h|Subscript o i pos=>
   refine uT (o:=EH i) (λp J=>fn λh=>?_) (fn λh=>Ot (hf o).v (hf _).v h)
   induction i using eJ with
   |Slice l u st q=>
    rw[<-ay J]at h ⊢;obtain rfl:st=none:=XK.mp h;exact OE (hf o).v (EN hf _) (EN hf _)
   |_=>exact bl J
  |BinOp a op b pos=>refine fB λq L=>?_;rw[<-QC L];exact Ou (hf a).v (hf b).v|Compare a ops l pos=>
   induction ops with
   |nil=>exact fk|cons op r=>
    induction r with
    |cons=>exact fk|nil=>
     induction l with
     |nil=>exact fk|cons y r=>
      induction r with
      |cons=>exact fk|nil=>
       refine uT (λu E=>?_) (fn λh=>fB λq L=>?_)
       .obtain⟨n,Y,E⟩:=a9 (x:=js y) E
        obtain⟨h,_⟩:=bN E;obtain⟨h1,h2⟩:=ce h;obtain⟨h2,h3⟩:=ce h2;obtain⟨h4,h5⟩:=rI h2;obtain⟨np,e⟩:=oK Y;rw[e,eq_of_beq h3];exact Ow (hf a).v (Qt h1) h4 h5
       .rw[<-QD L]
        exact Ov (hf a).v (hf y).v h
  |UnaryOp op y pos=>
   induction op with
   |Not=>exact Ox (hf y)|USub=>
    refine fB (o:=(rH y).bind uP) λn Y=>?_;obtain⟨k,U,Y⟩:=a9 Y;obtain⟨a,p,e⟩:=Qq U;rw[e,Qr Y];exact Ol
   |_=>exact fk
  |BoolOp op l pos=>
   induction op with
   |And=>exact Oy hf l|Or=>exact Oz hf l
  |IfExp t a b pos=>exact OA (hf t).t (hf a) (hf b)|Tuple l kd pos=>exact fn λh=>OB hf (ce h).1 (ce h).2|List l pos=>exact fn λh=>OC hf (ce h).1 (ce h).2|Dict I vs pos=>exact fn λh=>Ps hf (ce h).1 (ce h).2|ListComp e gs s pos=>
   refine fB λg H=>fB λi w=>fn λh=>?_;obtain⟨h1,h2⟩:=ce h;obtain⟨h2,h3⟩:=ce h2;obtain⟨np,e⟩:=yN H;rw[e];exact D7 (λT A x=>ih false _ T A x) (yO h1) (uU hf _) h2 h3
  |DictComp k v gs s pos=>
   refine fB λg H=>fn λh0=>fB λi w=>fn λh=>?_;obtain⟨h1,h2⟩:=ce h;obtain⟨np,e⟩:=yN H;rw[e,tB.mp h0];exact Pl (λT A x=>ih false _ T A x) (yO h1) (uU hf _) h2
  |Call g l j pos=>
   induction j with
   |cons=>exact fk|nil=>
    induction g using eJ with
    |Name n np=>exact Qw hf n l np pos|Attribute o a N=>exact Qx hf o a l N pos|_=>exact fk
  |_=>exact fk
end Mine.Lake.S
namespace Mine.Lake.S
variable{B:Bd}{S:Sc}
def EQ(hf:∀s,SX B S (f s) s)(l:List Stmt):fY B S (iT f l) l:=by
 induction l with
 |nil=>exact PK|cons s r ih=>
  show fY B S (match yH.contains s.pos.line with |true=>[.j] |false=>f s::iT f r) (s::r)
  induction yH.contains s.pos.line using aS with
  |true=>exact PM|false=>exact PL (hf s) ih
def QE(m k:Nat):∀s,SX B S (cS B.G m S.c k s) s:=by
 have J:=λrhs x=>EP (B:=B) m rhs S.c S.a S.b x
 induction k with
 |zero=>exact λQ=>gK|succ k ih=>
  have N:=EQ ih;intro s
  induction s using PySem.Stmt.casesOn with
  |Pass p=>exact Pt|Break p=>exact Pu|Continue p=>exact Pw|Return v p=>
   induction v using aX with
   |none=>exact Px|some x=>exact Pz (J false x).v
  |Expr x p=>exact m5 λh=>PA (J false x).v h|If t a b p=>exact PN (J false t).t (N a) (N b)|While t a b p=>
   induction b using bo with
   |nil=>exact PO (J false t).t (N a)|cons=>exact gK
  |For t i a b p=>
   induction b using bo with
   |nil=>exact kl λq L=>m5 λh=>PX (QB L) (uU (λx=>J false x) i) h (N a)|cons=>exact gK
  |Try a h o f p=>
   induction h using bo with
   |cons=>exact gK|nil=>
    induction o using bo with
    |cons=>exact gK|nil=>
     induction f using bo with
     |nil=>exact gK|cons st f=>exact P2 (N a) (N (st::f))
  |AugAssign t op x p=>
   refine kl λo ho=>?_
   induction t using eJ with
   |Attribute y a c=>
    refine kl λan G=>?_;rw[<-oR G];exact PH (EO ho) (J false _).v (J false x).v
   |Subscript y i c=>exact m5 λh=>PJ (EO ho) (J false _).v (J false _).v (J false x).v h|_=>exact gK
  |Assign ts x p=>
   induction ts using bo with
   |nil=>exact gK|cons t r=>
    induction r using bo with
    |cons=>exact gK|nil=>
     induction t using eJ with
     |Name n np=>
      refine kl λq L=>?_;generalize h:gL x=E
      induction E using aS with
      |true=>exact PD (rB L) (J true x).v h|false=>
       refine kl λr C=>kl λg H=>kl λi Q=>m5 λh=>?_;obtain⟨h1,h2⟩:=ce h;obtain⟨h2,h3⟩:=ce h2;obtain⟨np,e⟩:=yN H
       induction x using eJ with
       |ListComp e' gs s pos=>
        obtain rfl:=ay C;obtain rfl:gs=_:=e;exact P8 (rB L) (λT A x=>EP m false _ T A x) (yO h1) (uU (λx=>J false x) _) h2 h3
       |_=>exact bl C
     |Tuple l kd c=>refine m5 λh=>kl λis hi=>?_;exact P5 hi (J false x).v (ce h).1 (ce h).2|Attribute y a c=>
      refine m5 λh=>kl λan G=>?_;rw[<-oR G];exact PF (J false y).v (J true x).v h
     |Subscript y i c=>exact m5 λh=>PG (J false y).v (J false i).v (J false x).v h|_=>exact gK
  |_=>exact gK
def QF(m k:Nat)(l:List Stmt):fY B S (iT (cS B.G m S.c k) l) l:=EQ (QE m k) l
end Mine.Lake.S
end
set_option backward.match.sparseCases true
namespace Mine.Lake
structure Z where
 i:Int
 j:List V
 e:Int
 a:List (List V)
 d:List V
 f:List V
 g:List V
 b:Int
abbrev iU(rows:List (List V)):List (List V×V):=rows.zipIdx.map λp=>(p.1,.j p.2)
abbrev aa(l:List Nat):List V:=l.map λ(i:Nat)=>V.j (i:Int)
abbrev fZ:List (Nat×List Nat):=[(20,[20,18,7]),(16,[16,6]),(18,[18,7]),(6,[6]),(21,[21,18,7]),(4,[4,3]),(9,[9]),(8,[8]),(7,[7]),(5,[5]),
 (22,[22,16,6]),(26,[16,6]),(23,[23]),(3,[3]),(17,[17,6]),(19,[19,7]),(25,[25]),(10,[10]),(11,[11])]
abbrev st(z:Z)(L:List O):St:=
 .d::.a [.j z.i,.r z.j]::
 .e 0 [(18,.o 3),(7,.o 4),(1,.r [.z]),(0,.o 5),(3,.o 6),(11,.o 7),(12,.o 8),(15,.o 9),(19,.j 0),(14,.j 0)]::
 .a (z.a.map .p)::.g (iU z.a)::.a z.d::.a z.f::.a z.g::.b::.b::
 .e 2 [(21,.o 2),(2,.j z.b),(10,.j 200),(9,.j 40)]::.d::
 .h [("tab",.o 2),("store",.r (fZ.map λp=>.p [.j p.1,.r (aa p.2)])),("t",.j 27),("q",.j 28),("where",.j z.e),("holders",.o 13)]::
 .f (fZ.map λp=>((p.1:Int),V.r (aa p.2)))::L
def az(e:ol (bv f) args=some ρ)(h:aM (ai n) (bv f).c ρ (dB Q) σ):ar (ai (n+1) f args σ) Q:=
 Oe (by show rf Lk _ _ _ _ _;unfold rf;rw[e];exact h)
def bT(h:b=true)(x:X):fg b X Y:=by rw[h];exact x
def bF(h:b=false)(y:Y):fg b X Y:=by rw[h];exact y
def bB(h:b=true->X)(k:b=false->Y):fg b X Y:=by cases b;exact k rfl;exact h rfl
def tW(h:iN σ v=some b)(q:Q b):et σ v Q:=by unfold et;rw[h];exact q
section
variable{z:Z}{L:List O}{σ aw:St}{α β:Type}{i:Nat}{o:O}
def yP{t:Nat}(f:t < 4611686018427387904):fP t=true:=by
 exact Nat.ble_eq.mpr (w8 f)
def QG(h:t < n)(f:n < 4194304):t7 n t=some t:=by
 exact dW (yP (by lia)) ((ah (wZ t)).trans (dr h))
def gn{x:V}{t:Nat}(N:bt σ x=some (b,l))(Y:l.length < 4194304)(h:l[t]?=some v):di x (.j t) σ=some (v,σ):=by
 have h2:t < l.length:=(bW.mp h).1;exact K7 N (bg rfl (bg (QG h2 Y) (dX h)))
def iV(h:σ[i]?=some (.a l)):bt σ (.o i)=some (true,l):=bg h rfl
def uW(h:σ[i]?=some o)(n:fc o=none):bt σ (.o i)=none:=by
 show(σ[i]?).bind _=_;rw[h];show(fc o).map _=_;rw[n];rfl
def yQ(h:σ[i]?=some d)(Y:iK d k=some r):cm .c (.o i) [k,x] σ=some (r.getD x,σ):=bg rfl (bg h (bg rfl (dX Y)))
def yR(h:σ[i]?=some o)(ok:qW m o=true):gH m (.o i) σ=some ((),σ):=bg h (dr ok)
def rK(N:bt σ v=some (b,l))(Y:l.length < 4194304):b1 .a v σ=some (.j l.length,σ):=by
 show(bt σ v).elim _ _=_;rw[N];exact dr Y
def yS(N:bt σ v=some (true,l))(Y:l.length < 4194304):b1 .b v σ=some (.p l,σ):=by
 show(bt σ v).bind _=_;rw[N];exact dr ⟨rfl,Y⟩
def ER(N:bt σ v=none)(ho:eW σ v=some d)(Y:gh d=some es)(U:es.length < 4194304):b1 .a v σ=some (.j es.length,σ):=by
 show(bt σ v).elim _ _=_;rw[N,ho];exact bg Y (dr U)
def ES(h:σ[i]?=some (.a l))(Y:l.length < 4194304):cm .a (.o i) [x] σ=some (.z,σ.set i (.a (l++[x]))):=bg rfl (bg h (bg rfl (bg rfl (dr Y))))
def uX(N:bt σ c=none)(ho:eW σ c=some d)(Y:iK d x=some r):dc .b x c σ=some (.w r.isSome,σ):=by
 have:g_ σ x c=some r.isSome:=by unfold g_;rw[N,ho];exact dX Y
 exact dX this
def ET(H:mG x=none)(N:bt σ c=none)(ho:eW σ c=some d)(Y:iK d x=some r):dc .d x c σ=some (.w (!r.isSome),σ):=by
 have:g_ σ x c=some r.isSome:=by unfold g_;rw[N,ho];exact dX Y
 exact dX (show bq ((mG x).isNone=true) ((g_ σ x c).map not)=some (!r.isSome)by rw[H];exact dW rfl (dX this))
def rL(N:bt σ c=none)(ho:eW σ c=some d)(Y:iK d x=some (some v)):di c x σ=some (v,σ):=by
 unfold di;rw[N,ho];exact bg Y rfl
def co{t:Nat}(f:z.a.length < 4194304)(h:z.a[t]?=some r):di (.o 3) (.j t) (st z L)=some (.p r,st z L):=
 gn (b:=true) (l:=z.a.map .p) rfl (by rw[bX];exact f) (by rw[n1,h];rfl)
def EU(G:bt σ a=some (true,l))(T:bt σ b=some (true,m))(h:l.length+m.length < 4194304):iM .a a b σ=some (.r (l++m),σ):=by
 have:CK a b σ=some (.r (l++m),σ):=bg G (bg T (dr ⟨rfl,h⟩));exact xE (by induction a using Mine.Lake.V.casesOn <;>first |rfl |exact bl G) this
def X0:(st z L)[i+14]?=L[i]?:=rfl
def aC(h:L[i]?=some o)(p:L <+:L'):L'[i]?=some o:=by
 obtain⟨J,rfl⟩:=p;rw[n7 (bW.mp h).1];exact h
def bp:L <+:L++[o]:=⟨[o],rfl⟩
def bk:(L++[o])[L.length]?=some o:=by simp
def bE(p:L <+:L')(hi:L.length<=i):L <+:L'.set i o:=by
 obtain⟨J,rfl⟩:=p;rw[List.set_append_right _ _ hi];exact⟨_,rfl⟩
def aT(h:L[i]?=some o):(L.set i o')[i]?=some o':=by
 rw[qg (bW.mp h).1]
def bz(h:L[j]?=some o)(m:i≠j):(L.set i o')[j]?=some o:=by
 rw[qh m];exact h
def yT(h:L[i]?=some (.a l)):bt (st z L) (.o (i+14))=some (true,l):=iV (σ:=st z L) (i:=i+14) h
def oT(h:L[i]?=some o)(n:fc o=none):bt (st z L) (.o (i+14))=none:=uW (σ:=st z L) (i:=i+14) h n
def X1:(st z L).set (i+14) o'=st z (L.set i o'):=rfl
def bY(q:Q (.o (L.length+14)) (st z (L++[o]))):bm (gj o (st z L)) Q:=aP rfl q
def lH(h:L[i]?=some o):eW (st z L) (.o (i+14))=some o:=h
def eb(h:L[i]?=some (.a l))(Y:l.length < 4194304)(q:Q .z (st z (L.set i (.a (l++[x]))))):bm (cm .a (.o (i+14)) [x] (st z L)) Q:=by
 exact aP (ES (σ:=st z L) h Y) q
def f0(h:L[i]?=some (.a l))(q:Q (.r l) (st z (L.set i .d))):bm (hO (.o (i+14)) (st z L)) Q:=by
 have h':mK (st z L) (.o (i+14))=some (i+14,l):=bg rfl (bg h rfl);refine aP (show some ((mK (st z L) (.o (i+14))).elim _ _)=_ from ?_) q;rw[h'];rfl
def gJ(h:L[i]?=some o):L.set i o=L:=by
 obtain⟨h1,h2⟩:=bW.mp h;rw[<-h2];exact List.set_getElem_self h1
def m6(h:L[i]?=some d)(Y:mI d k x=some d')(u:ua d=true)(q:Q () (st z (L.set i d'))):bm (lj (.o (i+14)) k x (st z L)) Q:=by
 exact aP (bg rfl (bg h (xE (by induction d <;>first |rfl |exact b6 u) (dX Y)))) q
end
section
variable{z:Z}{L:List O}{n t:Nat}{k:Int}{r:List V}{Q:V->St->Prop}
def uY(hz:z.a.length < 4194304)(h:z.a[t]?=some (.j k::r))(q:Q (.j k) (st z L)):ar (ai (n+1) 0 [.o 2,.j t] (st z L)) Q:=by
 refine az (ρ:=[some (.o 2),some (.j t)]) rfl ?_;refine ag (co hz h) ?_;exact q
def QH(q:Q (.p []) (st z L)):ar (ai (n+1) 2 [.o 2,.j 2] (st z L)) Q:=by
 refine az (ρ:=[some (.o 2),some (.j 2),none]) rfl ?_;exact q
def vT(h:a=b):ca (.j a) (.j b)=true:=by show(a==b)=true;exact aH.mpr h
def vF(h:a≠b):ca (.j a) (.j b)=false:=by show(a==b)=false;exact cB.mpr h
def QI{l:List V}(hz:z.a.length < 4194304)(f:t≠2)(h:z.a[t]?=some (.j 6::.p l::r))(q:Q (.p l) (st z L)):ar (ai (n+1) 2 [.o 2,.j t] (st z L)) Q:=by
 refine az (ρ:=[some (.o 2),some (.j t),none]) rfl ?_;refine bF (vF ("~KRpq2bT26d7E" f)) ?_;refine ag (co hz h) ?_;exact q
def QJ{k:Int}(hz:z.a.length < 4194304)(f:t≠2)(U:k≠6)(h:z.a[t]?=some (.j k::r))(q:Q (.p [.j t]) (st z L)):ar (ai (n+1) 2 [.o 2,.j t] (st z L)) Q:=by
 refine az (ρ:=[some (.o 2),some (.j t),none]) rfl ?_;refine bF (vF ("~KRpq2bT26d7E" f)) ?_;refine ag (co hz h) ?_;refine bF (vF U) ?_;exact q
end
abbrev gp(x:Nat):List Nat->List Nat
 |[]=>[x]|y::c=>if x<=y then x::y::c else y::gp x c
def uZ:gp x (y::l)=if x<=y then x::y::l else y::gp x l:=rfl
abbrev bw:List Nat->List Nat
 |[]=>[]|x::xs=>gp x (bw xs)
theorem u0:∀{l:List Nat},y∈gp x l↔y=x\/y∈l
 |[]=>by simp[gp]
 |z::l=>by
  rw[uZ];split
  .simp
  .simp only[bH,u0 (l:=l)]
   exact⟨λh=>h.elim (λe=>.inr (.inl e)) (λh=>h.elim .inl λh=>.inr (.inr h)),λh=>h.elim (λe=>.inr (.inl e)) (λh=>h.elim .inl λh=>.inr (.inr h))⟩
theorem m7:∀{l:List Nat},y∈bw l↔y∈l
 |[]=>Iff.rfl|x::l=>u0.trans (by rw[m7];exact bH.symm)
theorem EV:∀{l:List Nat},(gp x l).length=l.length+1
 |[]=>rfl|y::l=>by rw[uZ];split <;>simp[EV]
theorem oU:∀{l:List Nat},(bw l).length=l.length
 |[]=>rfl|x::l=>EV.trans (aE (·+1) oU)
theorem EW:∀{l:List Nat},l.Pairwise (·<=·)->(gp x l).Pairwise (·<=·)
 |[],_=>by simp[gp]
 |y::l,h=>by
  have h2:=kW.mp h;rw[uZ];split
  .rename_i H
   refine kW.mpr ⟨λa ha=>?_,h⟩;rcases bH.mp ha with e |ha
   .subst e;exact H
   .exact aL H (h2.1 a ha)
  .rename_i H
   refine kW.mpr ⟨λa ha=>?_,EW h2.2⟩;rcases u0.mp ha with e |ha
   .subst e;exact "~2Gy6<tG8" H
   .exact h2.1 a ha
theorem u3:∀{l:List Nat},(bw l).Pairwise (·<=·)
 |[]=>List.Pairwise.nil|x::l=>EW u3
theorem EX:∀{l:List Nat},x∉l->l.Nodup->(gp x l).Nodup
 |[],_,_=>by simp[gp]
 |y::l,h,u=>by
  have h2:=fL.mp u;rw[uZ];split
  .exact fL.mpr ⟨h,u⟩
  .refine fL.mpr ⟨λq=>?_,EX (λq=>h (b5 _ q)) h2.2⟩
   rcases u0.mp q with e |q
   .exact h (by rw[e];exact br)
   .exact h2.1 q
theorem yU:∀{l:List Nat},l.Nodup->(bw l).Nodup
 |[],_=>by simp[bw]
 |x::l,h=>by
  have h2:=fL.mp h;exact EX (λq=>h2.1 (m7.mp q)) (yU h2.2)
theorem m8:∀{l m:List Nat},l.Pairwise (·<=·)->m.Pairwise (·<=·)->l.Nodup->m.Nodup->(∀x,x∈l↔x∈m)->l=m
 |[],[],_,_,_,_,_=>rfl|[],y::m,_,_,_,_,h=>absurd ((h y).mpr br) (by simp)
 |x::l,[],_,_,_,_,h=>absurd ((h x).mp br) (by simp)
 |x::l,y::m,pl,i,c,nm,h=>by
  have a:=kW.mp pl;have f:=kW.mp i;have g:=fL.mp c;have j:=fL.mp nm;have e:x=y:=by
   have h1:y<=x:=by
    rcases bH.mp ((h x).mp br)with e |e
    .exact gV e.symm
    .exact f.1 x e
   have h2:x<=y:=by
    rcases bH.mp ((h y).mpr br)with e |e
    .exact gV e.symm
    .exact a.1 y e
   exact "~1_2zK4hvrjk6" h2 h1
  subst e;rw[m8 a.2 f.2 g.2 j.2 λz=>⟨λhz=>by
   rcases bH.mp ((h z).mp (b5 _ hz))with e |e
   .subst e;exact absurd hz g.1
   .exact e,λhz=>by
   rcases bH.mp ((h z).mpr (b5 _ hz))with e |e
   .subst e;exact absurd hz j.1
   .exact e⟩]
abbrev dd:List Nat->List Nat->List Nat
 |acc,[]=>acc|acc,x::r=>if x∈acc then dd acc r else dd (acc++[x]) r
def oV:dd acc (x::l)=if x∈acc then dd acc l else dd (acc++[x]) l:=rfl
def fo:∀{acc:List Nat},y∈dd acc l↔y∈acc\/y∈l:=by
 induction l with
 |nil=>
  intro acc;simp[dd]
 |cons x l ih=>
  intro acc;rw[oV];split
  .rename_i h;rw[ih,bH]
   exact⟨λq=>q.imp id .inr,λq=>q.elim .inl λq=>q.elim (λe=>.inl (e▸h)) .inr⟩
  .rw[ih,aZ,aB,bH,or_assoc]
def m9:∀{acc:List Nat},acc.Nodup->(dd acc l).Nodup:=by
 induction l with
 |nil=>
  intro acc h;exact h
 |cons x l ih=>
  intro acc h;rw[oV];split
  .exact ih h
  .rename_i H
   refine ih (BZ.mpr ⟨h,by simp,λa G b T e=>?_⟩);rw[aB]at T;subst T;subst e;exact H G
abbrev wh(t:Nat):Nat:=if t∈[16,17,22,26]then 6 else if t∈[18,19,20,21]then 7 else 2
abbrev aY(S:List Nat)(t:Nat):Bool:=(wh t !=2&&S.contains (wh t))||(t==26&&S.contains 16)
abbrev sd(S:List Nat):List Nat:=bw (dd [] S)
abbrev ae(S:List Nat):List Nat:=if 0∈S then[0]else if 13∈S then[13]else if 1∈S then[1]else(sd S).filter λt=>!aY S t
def iW:y∈sd S↔y∈S:=by unfold sd;rw[m7,fo];simp
def km:(sd S).Nodup:=yU (m9 iF)
def kn:(sd S).Pairwise (·<=·):=u3
def QK(h:∀x,x∈S↔x∈S'):sd S=sd S':=m8 kn kn km km λx=>by rw[iW,iW];exact h x
def EY(h:∀x,x∈S↔x∈S')(t:Nat):aY S t=aY S' t:=by
 have c:∀x,S.contains x=S'.contains x:=λx=>by
  have:=h x;by_cases q:x∈S
  .rw[bj.mpr q,bj.mpr (this.mp q)]
  .have B:x∉S':=λe=>q (this.mpr e)
   rw[el.mpr λe=>q (bj.mp e),el.mpr λe=>B (bj.mp e)]
 unfold aY;rw[c,c]
def rM(h:∀x,x∈S↔x∈S'):ae S=ae S':=by
 unfold ae;simp only[h 0,h 13,h 1];rw[QK h];have:(λt=>!aY S t)=λt=>!aY S' t:=funext λt=>by rw[EY h]
 rw[this]
def ko:(ae S).Nodup:=by
 unfold ae;repeat' split
 all_goals first |exact km.filter _ |exact fL.mpr ⟨dU,iF⟩
def EZ:∀{acc:List Nat},(dd acc l).length<=acc.length+l.length:=by
 induction l with
 |nil=>
  intro acc;exact av _
 |cons x l ih=>
  intro acc;rw[oV];split
  .exact aL ih (by simp only[bI];exact "~VEUM_uZbt8" id)
  .exact aL ih (by simp only[bI,b_,dG];exact "~KJUDDyzN<NOG86" id)
def m_(h:1<=S.length):(ae S).length<=S.length:=by
 unfold ae;repeat' split
 all_goals first |exact h |skip
 refine aL (jR _ _) ?_;unfold sd;rw[oU];exact aL EZ (by simp)
def ct(h:x∈ae S):x∈S:=by
 unfold ae at h;repeat' split at h
 all_goals first |(rw[aB]at h;subst h;assumption) |exact iW.mp (c7.mp h).1
abbrev da:List (List V):=[[.j 1,.u "any"],[.j 1,.u "unknown"],[.j 1,.u "never"],[.j 1,.u "void"],[.j 1,.u "undefined"],[.j 1,.u "null"],[.j 1,.u "string"],[.j 1,.u "number"],
 [.j 2,.j 0,.j 0],[.j 2,.j 1,.j 0],[.j 1,.u "object"],[.j 8,.p [],.p [],.p [],.p [],.p [],.j 0],[.j 6,.p [.j 8,.j 9]],[.j 1,.u "error"],[.j 2,.j 0,.j 1],[.j 2,.j 1,.j 1],
 [.j 3,.u "a",.j 0],[.j 3,.u "b",.j 0],[.j 4,.j 0,.j 0],[.j 4,.j 1,.j 0],[.j 5,.j 1,.u "A",.j 0,.j 0],[.j 5,.j 2,.u "A",.j 0,.j 0],[.j 5,.j 1,.u "B",.u "a",.j 0],
 [.j 8,.p [.p [.u "p",.j 6,.j 0,.j 0]],.p [],.p [],.p [],.p [],.j 0],[.j 10,.j 0],[.j 8,.p [.p [.u "p",.j 24,.j 0,.j 0]],.p [],.p [],.p [],.p [],.j 0],[.j 3,.u "a",.j 1],[.j 10,.j 1],[.j 10,.j 2]]
abbrev dt(l:List Nat):List V:=[.j 6,.p (aa l)]
abbrev aV(c a x y d:Nat):List V:=[.j 16,.j c,.j a,.j x,.j y,.p [],.j d]
abbrev dQ(k:Nat):List V:=[.j 8,.p [.p [.u "p",.j k,.j 0,.j 0]],.p [],.p [],.p [],.p [],.j 0]
abbrev eM(k:Nat):List V:=[.j 10,.j k]
inductive du:Nat->Bool->List V->Prop
 |j s:du 2 false [.j 1,.u s]
 |v (b:Int):du 2 false [.j 2,.j b,.j 0]
 |m s:du 6 false [.j 3,.u s,.j 0]
 |l:du 6 true [.j 3,.u "a",.j 1]
 |n (i:Int):du 7 false [.j 4,.j i,.j 0]
 |q (e:Int) nm (i:Int):du 7 false [.j 5,.j e,.u nm,.j i,.j 0]
 |o (e:Int) nm s:du 6 false [.j 5,.j e,.u nm,.u s,.j 0]
 |t:du 2 false [.j 8,.p [],.p [],.p [],.p [],.p [],.j 0]
 |f k:du 2 false (dQ k)
 |g k:du 2 false (eM k)
 |u c a x y d:du 2 false (aV c a x y d)
inductive gq:List V->Prop
 |e l:gq (dt l)
 |g k:gq (dQ k)
 |f k:gq (eM k)
 |b c a x y d:gq (aV c a x y d)
abbrev u4:List Nat:=[0,1,3,4,5,6,7,8,9,10,11,13,16,17,18,19,20,21,22,23,24,25,26,27,28]
structure am(z:Z):Prop where
 a:z.a.Nodup
 f:da <+:z.a
 d:∀t r,29<=t->z.a[t]?=some r->gq r
 e:∃m,z.d=.j 6::List.replicate (m+2) (.j (-1))
 c:z.g[0]?=some (.u "R")
 b:z.f.length=z.d.length/\z.g.length=z.d.length
abbrev Z.sz(z:Z):Nat:=z.a.length+z.d.length
structure Gr(c:Nat)(z z':Z):Prop where
 e:am z'
 d:z.a <+:z'.a
 f:z'.sz<=z.sz+c
 m:z.d.length<=z'.d.length
 j:z'.i=z.i
 k:z'.j=z.j
 l:z'.e=z.e
 i:z'.b=z.b
def Gr.refl(I:am z):Gr 0 z z:=⟨I,aA _,av _,av _,rfl,rfl,rfl,rfl⟩
def Gr.trans(a:Gr c z z')(b:Gr c' z' dC):Gr (c+c') z dC:=
 ⟨b.e,a.d.trans b.d,by have v1:=a.f;have v2:=b.f;exact "~4tFPMUcndaBsQ=x" v2 v1,aL a.m b.m,b.j.trans a.j,b.k.trans a.k,b.l.trans a.l,b.i.trans a.i⟩
def Gr.mono(a:Gr c z z')(h:c<=c'):Gr c' z z':=⟨a.e,a.d,by have:=a.f;exact "~KUoYMPRbpsUq" this h,a.m,a.j,a.k,a.l,a.i⟩
def cH{i:Nat}(p:l <+:l')(h:l[i]?=some a):l'[i]?=some a:=by
 obtain⟨J,rfl⟩:=p;rw[n7 (bW.mp h).1];exact h
def am.at(I:am z){t:Nat}(h:da[t]?=some r):z.a[t]?=some r:=cH I.f h
def u5{l:List α}(u:l.Nodup){j:Nat}(hi:l[i]?=some a)(f:l[j]?=some a):i=j:=by
 obtain⟨h1,e1⟩:=bW.mp hi;obtain⟨h2,w⟩:=bW.mp f;exact(List.getElem_inj u).mp (e1.trans w.symm)
abbrev iX:Nat->List (List V)->List (List V×V)
 |_,[]=>[]|k,r::rs=>(r,.j k)::iX (k+1) rs
theorem E0:∀(k:Nat) (rs:List (List V)),(rs.zipIdx k).map (λp=>(p.1,V.j (p.2:Nat)))=iX k rs
 |_,[]=>rfl|k,r::rs=>by rw[List.zipIdx_cons,eR,E0];rfl
def nc(rs:List (List V)):iU rs=iX 0 rs:=E0 0 rs
theorem E5:∀(k:Nat) (rs:List (List V)),(iX k rs).length=rs.length
 |_,[]=>rfl|k,r::rs=>aE (·+1) (E5 (k+1) rs)
theorem E6:∀{k:Nat} {rs:List (List V)} {r:List V},r∉rs->cT r (iX k rs)=none
 |_,[],_,_=>rfl|k,a::rs,r,h=>(ab λe=>h (by rw[e];exact br)).trans (E6 λq=>h (b5 _ q))
theorem rN:∀{k t:Nat} {rs:List (List V)} {r:List V},rs.Nodup->rs[t]?=some r->cT r (iX k rs)=some (.j ((k+t:Nat):Int))
 |_,_,[],_,_,h=>by simp at h
 |k,0,a::rs,r,_,h=>by
  have:a=r:=by simpa using h
  subst this;exact ah rfl
 |k,t+1,a::rs,r,u,h=>by
  have i:=fL.mp u;have h:rs[t]?=some r:=by simpa using h
  refine(ab λe=>i.1 (by rw[e];exact kV h)).trans ?_;rw[rN i.2 h]
  congr 2;exact "~GXLU?QZQ7u0b9w" id
theorem E7:∀{k:Nat} {rs:List (List V)} {r:List V},r∉rs->bn r (.j ((k+rs.length:Nat):Int)) (iX k rs)=iX k (rs++[r])
 |_,[],_,_=>rfl|k,a::rs,r,h=>by
  show bn r _ ((a,V.j k)::iX (k+1) rs)=(a,V.j k)::iX (k+1) (rs++[r]);refine(ab λe=>h (by rw[e];exact br)).trans ?_;have:=E7 (k:=k+1) (rs:=rs) (r:=r) λq=>h (b5 _ q);rw[show k+1+rs.length=k+(a::rs).length by simp;exact "~5uQGe4D1__e9=" id]at this;rw[this]
section
variable{z:Z}{L:List O}{n t:Nat}{Q:V->St->Prop}
def Z.bZ(h:z.sz+c < 4194304):z.a.length < 4194304:=by unfold Z.sz at h;exact "~7HcgsDv?NJ3" h
def X2:V.keys (aV c a x y d)=true:=rfl
theorem E8:∀(l:List Nat) (d:Nat),V.jT (aa l) d=true
 |[],_=>rfl|x::l,d=>by show(V.key (V.j x) d&&V.jT (aa l) d)=true;rw[E8 l d];rfl
def yV:V.keys (dt l)=true:=by
 show(true&&(V.jT (aa l) 5&&true))=true;rw[E8];rfl
def gq.keys(h:gq r):V.keys r=true:=by induction h <;>first |exact yV |rfl
def kr(I:am z)(U:V.keys r=true)(hz:z.a.length < 4194304)(f:z.a[t]?=some r)(q:Q (.j t) (st z L)):ar (ai (n+1) 76 [.o 2,.p r] (st z L)) Q:=by
 refine az (ρ:=[some (.o 2),some (.p r),none]) rfl ?_;have T:cT r (iU z.a)=some (.j t):=by rw[nc,rN I.a f,qf]
 have Y:iK (.g (iU z.a)) (.p r)=some (some (.j t)):=dW U (aE some T);have o:dc .b (.p r) (.o 4) (st z L)=some (.w true,st z L):=uX rfl rfl Y;refine ag o ?_;have H:di (.o 4) (.p r) (st z L)=some (.j t,st z L):=rL rfl rfl Y;refine ag H ?_;exact q
def ju(I:am z)(J:V.keys r=true)(C:gq r\/r∈z.a)(room:z.sz+1 < 4194304)
  (q:∀z' (t:Nat),Gr 1 z z'->z'.a[t]?=some r->Q (.j t) (st z' L)):ar (ai (n+1) 76 [.o 2,.p r] (st z L)) Q:=by
 have hz:=Z.bZ room;by_cases hm:r∈z.a
 .obtain⟨t,f⟩:=qr.mp hm
  exact kr I J hz f (q z t ((Gr.refl I).mono (bb _)) f)
 .refine az (ρ:=[some (.o 2),some (.p r),none]) rfl ?_
  have Y:cT r (iU z.a)=none:=by rw[nc,E6 hm]
  have o:dc .b (.p r) (.o 4) (st z L)=some (.w false,st z L):=uX (r:=none) rfl rfl (dW J (aE some Y));refine ag o ?_;have y:b1 .a (.o 3) (st z L)=some (.j z.a.length,st z L):=by
   have:=rK (σ:=st z L) (v:=.o 3) (l:=z.a.map .p) rfl (by rw[bX];exact hz);rw[bX]at this;exact this
  refine aP y ?_;have g:cm .a (.o 3) [.p r] (st z L)=some (.z,st {z with a:=z.a++[r]} L |>.set 4 (.g (iU z.a))):=by
   refine(ES (l:=z.a.map .p) rfl (by rw[bX];exact hz)).trans ?_;show some (V.z,_)=some (V.z,_)
   congr 2
   unfold st;simp only[List.set_cons_succ,List.set_cons_zero,kQ,eR,qs]
  refine aP g ?_;have N:lj (.o 4) (.p r) (.j z.a.length) ((st {z with a:=z.a++[r]} L).set 4 (.g (iU z.a)))=some ((),st {z with a:=z.a++[r]} L):=by
   have H:mI (.g (iU z.a)) (.p r) (.j z.a.length)=some (.g (iU (z.a++[r]))):=by
    refine dW J (bg rfl (dW (by rw[nc,E5];exact hz) ?_));have:=E7 (k:=0) hm;rw[qf]at this;rw[nc,nc,this]
   refine(bg rfl (bg rfl (xE rfl (dX H)))).trans ?_;show some ((),_)=some ((),_)
   congr 2
  refine aP N ?_;have c:(z.a++[r])[z.a.length]?=some r:=by simp
  refine q {z with a:=z.a++[r]} z.a.length ⟨⟨BZ.mpr ⟨I.a,by simp,λa G b T e=>?_⟩,I.f.trans ⟨[r],rfl⟩,λt r' f h=>?_,I.e,I.c,I.b⟩,⟨[r],rfl⟩,?_,av _,rfl,rfl,rfl,rfl⟩ c
  .rw[aB]at T;subst T;subst e;exact hm G
  .by_cases U:t < z.a.length
   .exact I.d t r' f (by rw[<-h];exact(n7 U).symm)
   .have h':(z.a++[r])[t]?=some r':=h
    rw[Kf (tJ.mp U),List.getElem?_singleton]at h'
    split at h' <;>cases h'
    exact C.resolve_right hm
  .unfold Z.sz;simp only[b_,bI,dG];exact "~KJUEo6hmljOPWV" id
end
abbrev b3(z:Z)(t:Nat):Prop:=t≠2/\∃r,z.a[t]?=some r/\du (wh t) (t==26) r
def b3.gr(h:b3 z t)(p:z.a <+:z'.a):b3 z' t:=let ⟨a,r,b,c⟩:=h;⟨a,r,cH p b,c⟩
def b3.lt(h:b3 z t):t < z.a.length:=let ⟨_,_,b,_⟩:=h;(bW.mp b).1
def du.head(h:du w b r):∃k rest,r=.j k::rest/\k≠6:=by induction h <;>exact⟨_,_,rfl,by decide⟩
def nd(I:am z)(h:t∈u4):b3 z t:=by
 have k:∀t∈u4,t≠2/\∃r,da[t]?=some r/\du (wh t) (t==26) r:=by
  unfold u4;simp only[iG,dU,mw,mx,my];refine⟨?_,?_,?_,?_,?_,?_,?_,?_,?_,?_,?_,?_,?_,?_,?_,?_,?_,?_,?_,?_,?_,?_,?_,?_,?_⟩ <;>refine⟨by decide,_,rfl,?_⟩
  all_goals first |exact .j _ |exact .v _ |exact .m _ |exact .n _ |exact .q _ _ _ |exact .o _ _ _ |exact .t |exact .f 6 |exact .f 24 |exact .g _ |exact .l |exact .par 0 |exact .par 1 |exact .par 2
 obtain⟨a,r,b,c⟩:=k t h;exact⟨a,r,I.at b,c⟩
def E9(I:am z)(h:29<=t)(e:z.a[t]?=some r)(C:∀l,r≠dt l):b3 z t:=by
 have A:wh t=2:=by
  unfold wh;rw[ab (by simp;exact "~fE25Ym=XVXF0z?LyANcY1QMHjQUe=rtm>qNp" h),ab (by simp;exact "~fE25Ym=XVXF0we9xQcqZ;zt4Gv;UpDVBRknY" h)]
 have u:(t==26)=false:=cB.mpr ("~5t||BPAwdf>D9" h);refine⟨"~72rkUVSHlFl" h,r,e,?_⟩;rw[A,u];cases I.d t r h e with
 |e l=>exact absurd rfl (C l)|g k=>exact .f k|f k=>exact .g k|b c a x y d=>exact .u ..
def du.nf(p:du w b r):(ca (r.headD .z) (.j 2)&&ca (r.getD 2 .z) (.j 1))=false:=by induction p <;>rfl
def b3.no(I:am z)(h:b3 z t):t≠14/\t≠15:=by
 obtain⟨_,r,C,p⟩:=h;have k:∀{b:Int},z.a[t]?=some [.j 2,.j b,.j 1]->False:=λ{b} e=>by
  have v1:=p.nf;rw[ay (C.symm.trans e)]at v1;exact nomatch v1
 exact⟨λe=>k (b:=0) (e▸I.at (t:=14) rfl),λe=>k (b:=1) (e▸I.at (t:=15) rfl)⟩
abbrev gt(T:List (List V))(r:Nat)(l:List Nat):Prop:=(l=[]/\r=2)\/l=[r]\/(2<=l.length/\T[r]?=some (dt l))
def gt.pre(h:gt T r l)(p:T <+:a):gt a r l:=h.imp id λh=>h.imp id λh=>⟨h.1,cH p h.2⟩
def gt.inj(u:T.Nodup)(h:gt T r l)(h':gt T r' l):r=r':=by
 rcases h with⟨e,a⟩ |e |⟨a,b⟩ <;>rcases h' with⟨e',p⟩ |e' |⟨p,G⟩
 .rw[a,p]
 .rw[e]at e';cases e'
 .rw[e]at p;simp at p
 .rw[e]at e';cases e'
 .rw[e]at e';cases e';rfl
 .rw[e]at p;simp at p
 .rw[e']at a;simp at a
 .rw[e']at a;simp at a
 .exact u5 u b G
structure aO(z:Z)(r:Nat)(l:List Nat):Prop where
 c:gt z.a r l
 d:∀p∈l,b3 z p
 f:l.Nodup
def aO.gr(h:aO z r l)(p:z.a <+:z'.a):aO z' r l:=⟨h.c.pre p,λq L=>(h.d q L).gr p,h.f⟩
def fp(h:b3 z p):aO z p [p]:=⟨.inr (.inl rfl),λq L=>by rw[aB]at L;subst L;exact h,fL.mpr ⟨dU,iF⟩⟩
def hY:aO z 2 []:=⟨.inl ⟨rfl,rfl⟩,λq L=>(nomatch L),iF⟩
theorem E_:∀{l m:List Nat},aa l=aa m->l=m
 |[],[],_=>rfl|[],_::_,h=>by simp[aa]at h
 |_::_,[],h=>by simp[aa]at h
 |a::l,b::m,h=>by
  have h':V.j (a:Int)::aa l=V.j (b:Int)::aa m:=h;injection h' with h1 h2
  injection h1 with h1
  rw[E_ h2,BF.mp h1]
def QL(h:dt l=dt m):l=m:=by
 unfold dt at h;injection h with _ h;injection h with h _;injection h with h;exact E_ h
def aO.fun(I:am z)(h:aO z r l)(h':aO z r m):l=m:=by
 have g:∀l,b3 z r->z.a[r]?=some (dt l)->False:=λl J e=>by
  obtain⟨_,r',e',p⟩:=J;rw[e]at e';cases e';obtain⟨k,rest,e,U⟩:=p.head;unfold dt at e;injection e with e _;injection e with e;exact U e.symm
 have N:∀l,r=2->z.a[r]?=some (dt l)->False:=λl J e=>by
  subst J;rw[I.at (t:=2) (r:=[.j 1,.u "never"]) rfl]at e;unfold dt at e;cases e
 rcases h.c with⟨e,a⟩ |e |⟨a,b⟩ <;>rcases h'.c with⟨e',Y⟩ |e' |⟨Y,G⟩
 .rw[e,e']
 .exact absurd a (h'.d r (by rw[e'];simp)).1
 .exact(N _ a G).elim
 .exact absurd Y (h.d r (by rw[e];simp)).1
 .rw[e,e']
 .exact(g _ (h.d r (by rw[e];simp)) G).elim
 .exact(N _ Y b).elim
 .exact(g _ (h'.d r (by rw[e'];simp)) b).elim
 .rw[b]at G;exact QL (ay G)
theorem jw:∀(n:Nat) {l:List Nat},l.Nodup->(∀x∈l,x < n)->l.length<=n
 |0,[],_,_=>av _|0,x::l,_,h=>absurd (h x br) (B' _)|n+1,l,u,h=>by
  by_cases hm:n∈l
  .have:=jw n (u.erase n) λx H=>by
    have C:=(u.mem_erase_iff).mp H;have:=h x C.2;have:=C.1;lia
   rw[List.length_erase_of_mem hm]at this;exact "~x6||yLaEub|NcVfEG" ao this
  .have:=jw n u λx H=>by
    have f:=h x H;have o:x≠n:=λe=>hm (e▸H);exact "~1I;4n0lXtd9Asm" f o
   exact "~8RCWsKrG0" this
section
variable{z:Z}{L:List O}{n t i:Nat}{Q:V->St->Prop}{l G:List Nat}
def rO(I:am z)(hz:z.a.length < 4194304)(h:aO z t l)(q:Q (.p (aa l)) (st z L)):ar (ai (n+1) 2 [.o 2,.j t] (st z L)) Q:=by
 rcases h.c with⟨e,a⟩ |e |⟨a,b⟩
 .subst e;subst a;exact QH q
 .obtain⟨h2,r,C,p⟩:=h.d t (by rw[e];simp)
  obtain⟨k,rest,rfl,U⟩:=p.head;rw[e]at q;exact QJ hz h2 U C q
 .refine QI hz (λe=>?_) b q
  subst e;rw[I.at (t:=2) (r:=[.j 1,.u "never"]) rfl]at b;unfold dt at b;cases b
abbrev oW(w:Nat):Int:=if w=2 then -1 else w
def Fa(h:du w b r)(q:Q (.j (oW w)) σ):ar (ai (n+1) 3 [.p r] σ) Q:=by
 refine az (ρ:=[some (.p r),none]) rfl ?_
 induction h <;>exact q
def X3:∀{rs:List (List V)} {r:List V} {d:V},rs[t]?=some r->rs.Nodup->(cT r (iX k rs)).getD d=.j ((k+t:Nat):Int):=λh u=>by rw[rN u h];rfl
def QM(I:am z)(hz:z.a.length < 4194304)(h:b3 z t)(q:Q (.j (if t=26 then 16 else -1)) (st z L)):ar (ai (n+1) 4 [.o 2,.j t] (st z L)) Q:=by
 refine az (ρ:=[some (.o 2),some (.j t),none]) rfl ?_;by_cases u:t=26
 .rw[ah u]at q
  refine ag (co (r:=[.j 3,.u "a",.j 1]) hz (u▸I.at (t:=26) rfl)) ?_;have H:cm .c (.o 4) [.p [.j 3,.u "a",.j 0],.j (-1)] (st z L)=some (.j 16,st z L):=by
   exact yQ (r:=some (.j 16)) rfl (dW rfl (aE some (show cT _ (iU z.a)=_ by rw[nc,rN I.a (I.at (t:=16) rfl)];rfl)))
  exact aP H q
 .obtain⟨_,r,C,p⟩:=h
  refine ag (co hz C) ?_;rw[ab u]at q;clear C;generalize wh t=w at p;generalize T:(t==26)=b at p
  induction p <;>first |exact q |exact absurd (aH.mp T) u
abbrev dI(G:List Nat):O:=match G with |[]=>.b |G=>.f (G.map λ(k:Nat)=>((k:Int),V.j 1))
theorem Fb:∀{G:List Nat},(cT x (G.map λ(k:Nat)=>((k:Int),V.j 1))).isSome=decide (∃k∈G,(k:Int)=x)
 |[]=>by show false=_;simp
 |k::G=>by
  rw[eR,xD];by_cases h:(k:Int)=x
  .rw[ah h];simp[h]
  .rw[ab h,Fb];simp[h]
def Fc:∃r,iK (dI G) (.j x)=some r/\r.isSome=decide (∃k∈G,(k:Int)=x):=by
 induction G using bo with
 |nil=>exact⟨none,rfl,by simp⟩|cons g G=>exact⟨_,rfl,Fb⟩
def yW:fc (dI G)=none:=by induction G <;>rfl
def kt(h:L[i]?=some (dI G)):dc .b (.j x) (.o (i+14)) (st z L)=some (.w (decide (∃k∈G,(k:Int)=x)),st z L):=by
 obtain⟨r,e,q⟩:=Fc (G:=G) (x:=x);rw[<-q];exact uX (uW h yW) h e
def yX(h:L[i]?=some (dI G)):dc .d (.j x) (.o (i+14)) (st z L)=some (.w (!decide (∃k∈G,(k:Int)=x)),st z L):=by
 obtain⟨r,e,q⟩:=Fc (G:=G) (x:=x);rw[<-q];exact ET rfl (uW h yW) h e
def dD{x:Nat}:(∃k∈G,(k:Int)=(x:Int))↔x∈G:=⟨λ⟨k,h,e⟩=>by rw[<-BF.mp e];exact h,λh=>⟨x,h,rfl⟩⟩
def yY:¬ ∃k∈G,((k:Nat):Int)=-1:=λ⟨k,_,e⟩=>by lia
def rQ{p:Nat}(Y:G.length < 4194304):mI (dI G) (.j p) (.j 1)=some (dI (dd G [p])):=by
 induction G using bo with
 |nil=>rfl|cons g G=>
  have key:∀H:List Nat,bn (p:Int) (V.j 1) (H.map λ(k:Nat)=>((k:Int),V.j 1))=(dd H [p]).map λ(k:Nat)=>((k:Int),V.j 1):=by
   intro H;show _=(if p∈H then H else H++[p]).map _
   induction H with
   |nil=>rfl|cons a H ih=>
    rw[eR,CJ];by_cases e:(a:Int)=(p:Int)
    .have e':=BF.mp e
     rw[ah e,ah (by rw[e'];exact br)];rfl
    .have e':p≠a:=λq=>e (by rw[q])
     rw[ab e,ih];by_cases hm:p∈H
     .rw[ah hm,ah (b5 _ hm)];rfl
     .rw[ab hm,ab (by simp[hm,e'])];rfl
  show(if((g::G).map λ(k:Nat)=>((k:Int),V.j 1)).length < bs then some (O.f (bn (p:Int) (V.j 1) ((g::G).map λ(k:Nat)=>((k:Int),V.j 1))))else none)=_;rw[ah (by rw[bX];exact Y),key];have w:dd (g::G) [p]≠[]:=λe=>by
   have:=fo (y:=g) (l:=[p]) (acc:=g::G);rw[e]at this;simp at this
  unfold dI;generalize e:dd (g::G) [p]=E
  induction E using bo with
  |nil=>exact absurd e w|cons a b=>rfl
def rR:ua (dI G)=true:=by induction G <;>rfl
def QN(I:am z)(hz:z.a.length < 4194304)(h:b3 z t)(H:L[i]?=some (dI G))(s:∀x∈G,b3 z x)(q:Q (.w (!aY G t)) (st z L)):
  ar (ai (n+2) 6 [.o 2,.o (i+14),.j t] (st z L)) Q:=by
 obtain⟨h2,r,C,p⟩:=id h;refine az (ρ:=[some (.o 2),some (.o (i+14)),some (.j t)]) rfl ?_;refine QM I hz h ?_;refine ag (kt H) ?_;by_cases hm:t=26/\16∈G
 .refine bT (b4 (by rw[ah hm.1];exact dD.mpr hm.2)) ?_
  have:aY G t=true:=by unfold aY;rw[hm.1,bj.mpr hm.2];simp
  rw[this]at q;exact q
 .refine bF (cc λe=>?_) ?_
  .split at e
   .rename_i u;exact hm ⟨u,dD.mp e⟩
   .exact yY e
  ·
   refine ag (co hz C) ?_;refine Fa p ?_;refine ag (yX H) ?_;have e:aY G t=decide (∃k∈G,(k:Int)=oW (wh t)):=by
    have h1:(t==26&&G.contains 16)=false:=by
     rw[el];intro q;rw[mu,aH,bj]at q;exact hm q
    unfold aY;rw[h1,xk];unfold oW;by_cases A:wh t=2
    .rw[ah A,cc yY,A];rfl
    .rw[ab A]
     have:(wh t !=2)=true:=by simpa using A
     rw[this,Bool.true_and];by_cases a:wh t∈G
     .rw[bj.mpr a,b4 (dD.mpr a)]
     .rw[cc λe=>a (dD.mp e)]
      exact el.mpr λe=>a (bj.mp e)
   rw[<-e];exact q
end
theorem yZ:∀l:List Nat,(jU (l.map λ(k:Nat)=>(k:Int)))=(bw l).map λ(k:Nat)=>(k:Int)
 |[]=>rfl|x::l=>by
  show ll _ (jU _)=(gp x (bw l)).map _;rw[yZ];generalize bw l=m
  induction m with
  |nil=>rfl|cons y m ih=>
   show(if(x:Int)<=y then _ else _::ll _ _)=(if x<=y then x::y::m else y::gp x m).map _;by_cases h:x<=y
   .rw[ah ("~W17OLqUZ" h),ah h];rfl
   .rw[ab ("~1xL39al6N;" h),ab h,ih];rfl
def Fd(h:σ[i]?=some (dI S))(Y:S.length < 4194304):b1 .c (.o i) σ=some (.r (aa (bw S)),σ):=by
 have hi:mJ σ (.o i)=some (S.map λ(k:Nat)=>(k:Int)):=by
  unfold mJ;rw[uW h yW,show eW σ (.o i)=some (dI S)from h]
  induction S using bo with
  |nil=>rfl|cons a r=>show some (((a::r).map λ(k:Nat)=>((k:Int),V.j 1)).map (·.1))=_;rw[qk];rfl
 refine bg hi (dW (by rw[bX];exact Y) ?_);rw[yZ,qk];rfl
def u6:dd (dd acc [p]) l=dd acc (p::l):=by
 by_cases h:p∈acc
 .have:dd acc [p]=acc:=ah h
  rw[this,oV,ah h]
 .have:dd acc [p]=acc++[p]:=ab h
  rw[this,oV,ab h]
def QO:dd (dd acc l) m=dd acc (l++m):=by
 induction l generalizing acc with
 |nil=>rfl|cons x l ih=>rw[<-u6 (p:=x) (l:=l),ih,u6];rfl
section
variable{C:CT}{z:Z}{L:List O}{n t i:Nat}{Q:V->St->Prop}{G:List Nat}
def ku(u:G.Nodup)(h:∀x∈G,b3 z x)(hz:z.a.length < 4194304):G.length < 4194304:=fK (jw z.a.length u λx H=>(h x H).lt) hz
def QP:∀{G:List Nat} {L:List O} {o:Option V} {K:cY->ba->St->Prop},L[i]?=some (dI G)->G.Nodup->(∀x∈G,b3 z x)->(∀x∈ps,b3 z x)->z.a.length < 4194304->
  (∀L' o',L'=L.set i (dI (dd G ps))->K .a [some (.o 2),a,some (.o (i+14)),b,o',c,d,e] (st z L'))->
  gm (λx ρ k σ=>bQ (fQ (.a 4) x ρ σ) λρ σ=>aM C [.n (.d 2) (.d 4) (.g 1)] ρ k σ) none (aa ps) [some (.o 2),a,some (.o (i+14)),b,o,c,d,e] K (st z L):=by
 induction ps with
 |nil=>
  intro G L o K H u s J hz q;exact(q L o (gJ H).symm:_)
 |cons p ps ih=>
  intro G L o K H u s J hz q;have v:=J p br;show bm (lj (.o (i+14)) (.j p) (.j 1) (st z L)) _;refine m6 H (rQ (ku u s hz)) rR ?_;refine ih (aT H) (m9 u) (λx Y=>?_) (λx Y=>J x (b5 _ Y)) hz λL' o' e=>q L' o' ?_
  .rcases fo.mp Y with h |h
   .exact s x h
   .rw[aB]at h;subst h;exact v
  .rw[e,kR,u6]
def QQ{a:Option V}:∀{G:List Nat} {L:List O} {A U:Option V} {K:cY->ba->St->Prop},L[i]?=some (dI G)->(∀G,ln g (st z (L.set i (dI G)))=some ((),st z (L.set i (dI G))))->G.Nodup->(∀x∈G,b3 z x)->am z->(∀x∈ts,aO z x (F x))->z.a.length < 4194304->
  (∀L' A U,L'=L.set i (dI (dd G (ts.flatMap F)))->K .a [some (.o 2),a,some (.o (i+14)),A,U,c,d,e] (st z L'))->
  gm (λx ρ k σ=>bQ (fQ (.a 3) x ρ σ) λρ σ=>aM (ai (n+1)) [.m (.a 4) (.a (.j 2 [.d 0,.d 3])) [.n (.d 2) (.d 4) (.g 1)]] ρ k σ) g (aa ts) [some (.o 2),a,some (.o (i+14)),A,U,c,d,e] K (st z L):=by
 induction ts with
 |nil=>
  intro G L A U K H T u s I J hz q;have f:=T G;rw[gJ H]at f;refine ag f ?_;exact q L A U (gJ H).symm
 |cons t ts ih=>
  intro G L A U K H T u s I J hz q;have v:=J t br;have f:=T G;rw[gJ H]at f;refine(ag f ?_:_);show ar (ai (n+1) 2 [.o 2,.j t] (st z L)) _;refine rO I hz v ?_;have N:lm (.p (aa (F t))) (st z L)=some ((none,aa (F t)),st z L):=by
   have Y:(aa (F t)).length < bs:=by
    unfold aa;rw[bX];exact ku v.f v.d hz
   show(if(aa (F t)).length < bs then some ((none,aa (F t)),st z L)else none)=_;rw[ah Y]
  refine ag N ?_;refine QP H u s v.d hz λL' o' e=>?_;subst e;refine ih (aT H) (λG=>by rw[kR];exact T G) (m9 u) (λx E=>?_) I (λx E=>J x (b5 _ E)) hz λL' A U e=>q L' A U ?_
  .rcases fo.mp E with h |h
   .exact s x h
   .exact v.d x h
  .rw[e,kR,QO];rfl
def QR{σ:St}(H:L[i]?=some (dI G))(q:Q (.j (if 0∈G then 0 else if 13∈G then 13 else if 1∈G then 1 else -1)) (st z L)):ar (ai (n+1) 7 [.o (i+14)] (st z L)) Q:=by
 refine az (ρ:=[some (.o (i+14)),none]) rfl ?_;refine ag (kt (x:=0) H) ?_;by_cases h0:0∈G
 .rw[ah h0]at q
  exact bT (b4 (dD.mpr h0)) q
 .rw[ab h0]at q
  refine bF (cc λe=>h0 (dD.mp e)) ?_;refine ag (kt (x:=13) H) ?_;by_cases w:13∈G
  .rw[ah w]at q
   exact bT (b4 (dD.mpr w)) q
  .rw[ab w]at q
   refine bF (cc λe=>w (dD.mp e)) ?_;refine ag (kt (x:=1) H) ?_;by_cases h1:1∈G
   .rw[ah h1]at q
    exact bT (b4 (dD.mpr h1)) q
   .rw[ab h1]at q
    exact bF (cc λe=>h1 (dD.mp e)) q
def QS(H:L[i]?=some (dI G))(u:G.length < 4194304)(f:14∉G)(a:15∉G)(q:Q .z (st z L)):ar (ai (n+1) 5 [.o (i+14)] (st z L)) Q:=by
 refine az (ρ:=[some (.o (i+14))]) rfl ?_;have c:=cc (p:=∃k∈G,(k:Int)=14) λe=>f (dD.mp e);have g:=cc (p:=∃k∈G,(k:Int)=15) λe=>a (dD.mp e);refine ag (kt (x:=8) H) ?_;by_cases h8:8∈G
 .refine bT (b4 (dD.mpr h8)) ?_
  refine bT (b4 (dD.mpr h8)) ?_;refine ag (kt (x:=9) H) ?_;by_cases h9:9∈G
  .refine bT (b4 (dD.mpr h9)) ?_
   refine bT (b4 (dD.mpr h9)) ?_;have h:dd G [8]=G:=ah h8;have j:dd G [9]=G:=ah h9;refine m6 H (rQ (p:=8) u) rR ?_;rw[h,gJ H];refine m6 H (rQ (p:=9) u) rR ?_;rw[j,gJ H];exact q
  .refine bF (cc λe=>h9 (dD.mp e)) ?_
   refine ag (kt (x:=15) H) ?_;exact bF g q
 .refine bF (cc λe=>h8 (dD.mp e)) ?_
  refine ag (kt (x:=14) H) ?_;refine bF c ?_;exact bF c q
def QT{a:Option V}(I:am z)(hz:z.a.length < 4194304)(s:∀x∈G,b3 z x):∀{L:List O} {out:List Nat} {K:St->Prop},L[i]?=some (dI G)->L[j]?=some (.a (aa out))->i≠j->out.length+ps.length < 4194304->(∀x∈ps,b3 z x)->
  (∀L',L'=L.set j (.a (aa (out++ps.filter λt=>!aY G t)))->K (st z L'))->
  eu (λx k σ=>fh (ai (n+2)) [.j 6 [.d 0,.d 2,.d 7]] ([some (.o 2),a,some (.o (i+14)),c,d,e,f,g].set 7 (some x)) (λb σ=>fg b (bK (ai (n+2)) (.d 7) ([some (.o 2),a,some (.o (i+14)),c,d,e,f,g].set 7 (some x)) (λv σ=>bm (cm .a (.o (j+14)) [v] σ) λQ σ=>k σ) σ) (k σ)) σ) none (aa ps) K (st z L):=by
 induction ps with
 |nil=>
  intro L out K H ho m Y J q;refine(q L ?_:_);rw[Kj,b9];exact(gJ ho).symm
 |cons p ps ih=>
  intro L out K H ho m Y J q;show ar (ai (n+2) 6 [.o 2,.o (i+14),.j p] (st z L)) _;simp only[bI]at Y;refine QN I hz (J p br) H s ?_;generalize U:aY G p=E
  induction E using aS with
  |true=>
   refine ih H ho m ("~68TW_IaZws61|" Y) (λx T=>J x (b5 _ T)) λL' e=>q L' ?_;rw[e,jg,U];rfl
  |false=>
   refine eb ho (by unfold aa;rw[bX];exact "~1f<c=y4WPi=D" Y) ?_;have e1:aa out++[V.j (p:Int)]=aa (out++[p]):=by unfold aa;rw[kQ];rfl
   rw[e1];refine ih (bz H (Ne.symm m)) (aT ho) m (by simp only[b_,bI,dG];exact "~4ENzm8VZBFXcdnB=y" Y) (λx T=>J x (b5 _ T)) λL' e=>q L' ?_;rw[e,kR,jg,U];show L.set j _=L.set j _;rw[c6];rfl
structure u7(z:Z)(L:List O)(x:V)(ts:List Nat)(g:Option (Nat×List V)):Prop where
 a:∀L',L <+:L'->lm x (st z L')=some ((g,aa ts),st z L')
 b:∀L',L <+:L'->ln g (st z L')=some ((),st z L')
def ng{ts:List Nat}(h:ts.length < 4194304):u7 z L (.p (aa ts)) ts none:=⟨λL' J=>dr (show(aa ts).length < bs by unfold aa;rw[bX];exact h),λJ J=>rfl⟩
def hZ{ts:List Nat}(h:ts.length < 4194304):u7 z L (.r (aa ts)) ts none:=⟨λL' J=>dr (show(aa ts).length < bs by unfold aa;rw[bX];exact h),λJ J=>rfl⟩
def QU(l:List V):V.lg l l=true:=(V.xC l l).mpr rfl
def QV{ts:List Nat}(hi:L[i]?=some (.a (aa ts)))(h:ts.length < 4194304):u7 z L (.o (i+14)) ts (some (i+14,aa ts)):=⟨λL' p=>bg (iV (show(st z L')[i+14]?=some (.a (aa ts))from(aC hi p:L'[i]?=_))) (dr (show(aa ts).length < bs by unfold aa;rw[bX];exact h)),
 λL' p=>bg (show(st z L')[i+14]?=some (.a (aa ts))from(aC hi p:L'[i]?=_)) (bg rfl (dr (QU _)))⟩
def u8{ts:List Nat}(I:am z)(room:z.sz+1 < 4194304)(ha:u7 z L x ts g)(o:∀t∈ts,aO z t (F t))(m:(ae (ts.flatMap F)).length<=400)
  (q:∀z' (r:Nat) L',Gr 1 z z'->L <+:L'->aO z' r (ae (ts.flatMap F))->Q (.j r) (st z' L')):ar (ai (n+3) 8 [.o 2,x] (st z L)) Q:=by
 have hz:=Z.bZ room;refine az (ρ:=[some (.o 2),some x,none,none,none,none,none,none]) rfl ?_;refine bY ?_;refine ag (ha.a _ bp) ?_;have u9:∀G,L <+:(L++[dI []]).set L.length (dI G):=λG=>bE bp (av _);refine QQ (F:=F) (G:=[]) bk (λG=>ha.b _ (u9 G)) iF (λx H=>nomatch H) I o hz λL1 A o2 e1=>?_;have T:L <+:L1:=by rw[e1];exact u9 _
 have lJ:L1[L.length]?=some (dI (dd [] (ts.flatMap F))):=by rw[e1];exact aT bk
 clear e1;have hn:(dd [] (ts.flatMap F)).Nodup:=m9 iF;have hm:∀t,t∈dd [] (ts.flatMap F)↔t∈ts.flatMap F:=λt=>by rw[fo];simp
 have s:∀t∈dd [] (ts.flatMap F),b3 z t:=λt f=>by
  obtain⟨u,hu,QW⟩:=fu.mp ((hm t).mp f);exact(o u hu).d t QW
 have y:=ku hn s hz;refine QR (σ:=[]) lJ ?_;simp only[hm];have fin:∀t,ae (ts.flatMap F)=[t]->t∈ts.flatMap F->Q (.j t) (st z L1):=λt e f=>q z t L1 ((Gr.refl I).mono (bb _)) T (by rw[e];exact fp (s t ((hm t).mpr f)));by_cases h0:0∈ts.flatMap F
 .rw[ah h0]
  have:=fin 0 (by unfold ae;rw[ah h0]) h0;exact this
 rw[ab h0];by_cases w:13∈ts.flatMap F
 .rw[ah w]
  have:=fin 13 (by unfold ae;rw[ab h0,ah w]) w;exact this
 rw[ab w];by_cases h1:1∈ts.flatMap F
 .rw[ah h1]
  have:=fin 1 (by unfold ae;rw[ab h0,ab w,ah h1]) h1;exact this
 rw[ab h1];have QX:ae (ts.flatMap F)=(sd (ts.flatMap F)).filter λt=>!aY (ts.flatMap F) t:=by unfold ae;rw[ab h0,ab w,ab h1]
 have QY:(λt=>!aY (dd [] (ts.flatMap F)) t)=λt=>!aY (ts.flatMap F) t:=funext λt=>by rw[EY hm]
 refine QS lJ y (λh=>((s 14 h).no I).1 rfl) (λh=>((s 15 h).no I).2 rfl) ?_;have QZ:b1 .c (.o (L.length+14)) (st z L1)=some (.r (aa (sd (ts.flatMap F))),st z L1):=by
  exact Fd (i:=L.length+14) lJ y
 refine aP QZ ?_;have rS:(sd (ts.flatMap F)).length < 4194304:=by unfold sd;rw[oU];exact y
 have N:lm (.r (aa (sd (ts.flatMap F)))) (st z L1)=some ((none,aa (sd (ts.flatMap F))),st z L1):=(hZ (L:=L1) rS).a _ (aA _);refine ag N ?_;refine bY ?_;have U:L.length < L1.length:=(bW.mp lJ).1;refine QT (j:=L1.length) (out:=[]) I hz s (aC lJ bp) bk ("~TJx2T=<R" U) (by simpa using rS) (λx H=>s x ((hm x).mpr (iW.mp H))) λL2 e2=>?_;rw[dh,QY,<-QX]at e2;have yu:L1 <+:L2:=by rw[e2];exact bE bp (av _)
 have B:L2[L1.length]?=some (.a (aa (ae (ts.flatMap F)))):=by rw[e2];exact aT bk
 clear e2;have k:∀p∈ae (ts.flatMap F),b3 z p:=λp J=>s p ((hm p).mpr (ct J));have f4:(ae (ts.flatMap F)).Nodup:=ko;generalize ae (ts.flatMap F)=c at q m B k f4;refine f0 B ?_;have j5:L <+:L2.set L1.length .d:=T.trans (bE yu (av _));generalize L2.set L1.length .d=E at j5
 match c,m,k,f4,q with
 |[],_,_,_,q=>
  exact q z 2 E ((Gr.refl I).mono (bb _)) j5 hY
 |[t],_,k,_,q=>
  refine aP (a:=.j 1) (σ:=st z E) rfl ?_;exact q z t E ((Gr.refl I).mono (bb _)) j5 (fp (k t br))
 |t::u::r,m,k,f4,q=>
  have Y:(aa (t::u::r)).length < bs:=by
   unfold aa;rw[bX];exact fK m (by decide)
  have f:iN (st z E) (.r (aa (t::u::r)))=some true:=by
   show bq ((aa (t::u::r)).length < bs) (some true)=_;exact dr Y
  have y:b1 .a (.r (aa (t::u::r))) (st z E)=some (.j ((t::u::r).length:Nat),st z E):=by
   have:=rK (σ:=st z E) (v:=.r (aa (t::u::r))) rfl Y;rw[show(aa (t::u::r)).length=(t::u::r).length from bX _]at this;exact this
  refine tW f ?_;refine aP y ?_;refine aP y ?_;refine bF (cc ("~181P6IcIr2?SKc8p" m)) ?_;have Q0:b1 .b (.r (aa (t::u::r))) (st z E)=some (.p (aa (t::u::r)),st z E):=yS rfl Y;refine aP Q0 ?_;refine ju (n:=n+1) I yV (.inl (.e _)) room λz' t' g h=>?_;exact q z' t' E g j5 ⟨.inr (.inr ⟨by simp,h⟩),λp J=>(k p J).gr g.d,f4⟩
end
abbrev rg(t:Nat):Nat:=if t=26 then 16 else t
abbrev vh(t:Nat):Nat:=if t=20\/t=21 then 18 else if t=22 then 16 else 2
abbrev dR(A:List Nat)(p:Nat):Bool:=A.contains p||(wh p !=2&&A.contains (wh p))||(vh p !=2&&A.contains (vh p))||(p==4&&A.contains 3)
abbrev oX(l:List Nat):List Nat:=ae (l.map rg)
abbrev iY(ls lt:List Nat):Bool:=(oX ls).all (dR (oX lt))
theorem rT:∀l:List Nat,V.eU (aa l)=true
 |[]=>rfl|x::l=>by show(V.pure (.j x)&&V.eU (aa l))=true;rw[rT l];rfl
theorem Fe:∀{l:List Nat},(aa l).any (λy=>ca y (.j x))=decide (∃k∈l,(k:Int)=x)
 |[]=>by simp[aa]
 |k::l=>by
  show(ca (.j k) (.j x)||(aa l).any _)=_;rw[Fe];by_cases h:(k:Int)=x
  .rw[vT h];simp[h]
  .rw[vF h];simp[h]
section
variable{C:CT}{z:Z}{L:List O}{n t i:Nat}{Q:V->St->Prop}{l:List Nat}{σ:St}
def Ff(N:bt σ c=some (b,aa l)):g_ σ (.j x) c=some (decide (∃k∈l,(k:Int)=x)):=by
 unfold g_;rw[N];refine(dr ?_).trans (aE some (Fe (l:=l)));show(V.eU (aa l)&&true&&true)=true;rw[rT];rfl
def jx(N:bt σ c=some (b,aa l)):dc .b (.j x) c σ=some (.w (decide (∃k∈l,(k:Int)=x)),σ):=dX (show g_ σ (.j x) c=some (decide (∃k∈l,(k:Int)=x))from Ff N)
def Fg(N:bt σ c=some (b,aa l)):dc .d (.j x) c σ=some (.w (!decide (∃k∈l,(k:Int)=x)),σ):=dX (show bq _ ((g_ σ (.j x) c).map not)=some (!decide (∃k∈l,(k:Int)=x))from dW rfl (dX (Ff N)))
def h_{x:Nat}:decide (∃k∈l,(k:Int)=(x:Int))=l.contains x:=by
 by_cases h:x∈l
 .rw[b4 (dD.mpr h),bj.mpr h]
 .rw[cc λe=>h (dD.mp e)]
  exact(el.mpr λe=>h (bj.mp e)).symm
def Q1{w:Nat}:decide (∃k∈l,(k:Int)=oW w)=(w !=2&&l.contains w):=by
 unfold oW;by_cases A:w=2
 .rw[ah A,cc yY,A];rfl
 .rw[ab A,h_,show(w !=2)=true by simpa using A,Bool.true_and]
def Q2(hz:z.a.length < 4194304)(Y:z.a[t]?=some r)(h:du w b r)(q:Q (.w b) (st z L)):ar (ai (n+1) 9 [.o 2,.j t] (st z L)) Q:=by
 refine az (ρ:=[some (.o 2),some (.j t),none]) rfl ?_;refine ag (co hz Y) ?_
 induction h <;>exact q
def jy(I:am z):z.a[2]?=some [.j 1,.u "never"]:=I.at rfl
def oY(I:am z)(h:aO z t l):(∃r,z.a[t]?=some r/\du (wh t) (t==26) r/\((t=2/\l=[])\/(t≠2/\l=[t])))\/(z.a[t]?=some (dt l)/\2<=l.length/\t≠2):=by
 rcases h.c with⟨e,a⟩ |e |⟨a,b⟩
 .subst a;exact .inl ⟨_,jy I,.j _,.inl ⟨rfl,e⟩⟩
 .obtain⟨a,r,b,c⟩:=h.d t (by rw[e];simp)
  exact .inl ⟨r,b,c,.inr ⟨a,e⟩⟩
 .refine .inr ⟨b,a,λe=>?_⟩
  subst e;rw[jy I]at b;unfold dt at b;cases b
def Fh(I:am z)(room:z.sz+1 < 4194304)(Y:z.a[t]?=some r)(h:du (wh t) (t==26) r)(q:Q (.j (rg t)) (st z L)):ar (ai (n+2) 10 [.o 2,.j t] (st z L)) Q:=by
 have hz:=Z.bZ room;refine az (ρ:=[some (.o 2),some (.j t)]) rfl ?_;refine Q2 hz Y h ?_;unfold rg at q;by_cases u:t=26
 .subst u
  rw[I.at (t:=26) (r:=[.j 3,.u "a",.j 1]) rfl]at Y;cases Y;refine ag (co hz (I.at (t:=26) rfl)) ?_;have U:=I.at (t:=16) (r:=[.j 3,.u "a",.j 0]) rfl;exact kr (n:=n) (r:=[.j 3,.u "a",.j 0]) I rfl hz U q
 .rw[cB.mpr u]
  rw[ab u]at q;exact q
def cW:ae [x]=[x]:=by
 unfold ae;by_cases h0:0∈[x]
 .rw[ah h0,aB.mp h0]
 by_cases w:13∈[x]
 .rw[ab h0,ah w,aB.mp w]
 by_cases h1:1∈[x]
 .rw[ab h0,ab w,ah h1,aB.mp h1]
 rw[ab h0,ab w,ab h1];have:aY [x] x=false:=by
  unfold aY wh;simp only[B_,List.contains_nil,xk];by_cases a:x∈[16,17,22,26]
  .simp only[bH,dU,kX]at a
   rcases a with rfl |rfl |rfl |rfl <;>decide
  .rw[ab a]
   by_cases b:x∈[18,19,20,21]
   .simp only[bH,dU,kX]at b
    rcases b with rfl |rfl |rfl |rfl <;>decide
   .rw[ab b]
    have:x≠26:=λe=>a (by rw[e];decide);rw[cB.mpr this];rfl
 show List.filter _ (bw (dd [] [x]))=_;unfold dd dd bw bw gp;simp[this]
def X4:ae []=[]:=rfl
def Fi(I:am z)(h:b3 z t):b3 z (rg t):=by
 unfold rg;split
 .exact nd I (by decide)
 .exact h
def Fj{f:Nat->Nat}{ρ:ba}:∀{L:List O} {out:List Nat} {K:St->Prop},L[j]?=some (.a (aa out))->out.length+ps.length < 4194304->
  (∀p∈ps,∀L (Q:V->St->Prop),(∀L',L <+:L'->Q (.j (f p)) (st z L'))->bK C e (ρ.set sl (some (.j p))) Q (st z L))->
  (∀L',L'[j]?=some (.a (aa (out++ps.map f)))->(∀i o,i≠j->L[i]?=some o->L'[i]?=some o)->L.length<=L'.length->K (st z L'))->
  eu (λx k σ=>fh C [] (ρ.set sl (some x)) (λb σ=>fg b (bK C e (ρ.set sl (some x)) (λv σ=>bm (cm .a (.o (j+14)) [v] σ) λH σ=>k σ) σ) (k σ)) σ) none (aa ps) K (st z L):=by
 induction ps with
 |nil=>
  intro L out K ho Y J q;refine(q L ?_ (λi o H h=>h) (av _):_);rw[qs,b9];exact ho
 |cons p ps ih=>
  intro L out K ho Y J q;simp only[bI]at Y;show bK C e (ρ.set sl (some (.j p))) _ (st z L);refine J p br L _ λL1 T=>?_;refine eb (aC ho T) (by unfold aa;rw[bX];exact "~1f<c=y4WPi=D" Y) ?_;have e1:aa out++[V.j (f p:Int)]=aa (out++[f p]):=by unfold aa;rw[kQ];rfl
  rw[e1];refine ih (aT (aC ho T)) (by simp only[b_,bI,dG];exact "~4ENzm8VZBFXcdnB=y" Y) (λU a=>J U (b5 _ a)) λL' h1 h2 h3=>q L' ?_ (λi o hi h=>h2 i o hi (bz (aC h T) (Ne.symm hi))) ?_
  .rw[c6]at h1;exact h1
  .rw[jc]at h3;exact aL T.length_le h3
def rU(h:∀i o,i≠j->L[i]?=some o->L'[i]?=some o)(Y:L.length<=L'.length)(f:L.length<=j):L <+:L':=by
 have:L=L'.take L.length:=by
  apply List.ext_getElem?;intro i;by_cases hi:i < L.length
  .rw[xl,ah hi]
   obtain⟨o,ho⟩:∃o,L[i]?=some o:=⟨_,iD hi⟩;rw[ho,h i o ("~6Y3u1xF^Lnp" f hi) ho]
  .rw[xl,ab hi,List.getElem?_eq_none (tJ.mp hi)]
 rw[this];exact List.take_prefix _ _
def Fk(I:am z)(room:z.sz+1 < 4194304)(h:aO z t l)(m:l.length<=400)
  (q:∀z' (r:Nat) L',Gr 1 z z'->L <+:L'->aO z' r (oX l)->Q (.j r) (st z' L')):ar (ai (n+4) 11 [.o 2,.j t] (st z L)) Q:=by
 have hz:=Z.bZ room;refine az (ρ:=[some (.o 2),some (.j t),none]) rfl ?_;rcases oY I h with⟨r,N,J,h2⟩ |⟨N,h2,h3⟩
 .obtain⟨k,rest,e,U⟩:=J.head
  subst e;refine uY hz N ?_;refine bF (vF U) ?_;refine Fh (n:=n+1) I room N J ?_;refine q z (rg t) L ((Gr.refl I).mono (bb _)) (aA _) ?_;rcases h2 with⟨e,w⟩ |⟨e,w⟩
  .rw[w];subst e;exact hY
  .rw[w]
   show aO z (rg t) (ae [rg t]);rw[cW];exact fp (Fi I (h.d t (by rw[w];simp)))
 .refine uY (k:=6) hz N ?_
  refine rO (n:=n+2) I hz h ?_;have Y:l.length < 4194304:=fK m (by decide);refine ag ((ng (z:=z) (L:=L) Y).a _ (aA _)) ?_;refine bY ?_;refine Fj (f:=rg) (out:=[]) (j:=L.length) (ρ:=[some (.o 2),some (.j t),none]) (sl:=2) (e:=.j 10 [.d 0,.d 2]) bk (by simpa using Y) (λp J L' y B=>?_) λL1 h1 h2 h3=>?_
  .obtain⟨_,r',v,a⟩:=h.d p J
   refine Fh (n:=n+1) I room v a ?_;exact B L' (aA _)
  .have T:L <+:L1:=rU (λi o hi h=>h2 i o hi (aC h bp)) (aL bp.length_le h3) (av _)
   refine f0 h1 ?_;rw[dh];have G:(l.map rg).length < 4194304:=by rw[bX];exact Y
   have e:(l.map rg).flatMap (λx=>[x])=l.map rg:=by rw[List.flatMap_singleton']
   refine u8 (n:=n) (F:=λx=>[x]) I room (hZ G) (λt A=>?_) ?_ λz' r L' g E H=>q z' r L' g ((bE T (av _)).trans E) (by rw[e]at H;exact H)
   .obtain⟨u,c,rfl⟩:=ea.mp A
    exact fp (Fi I (h.d u c))
   .rw[e]
    exact aL (m_ (by rw[bX];lia)) (by rw[bX];exact m)
def Q3(I:am z)(hz:z.a.length < 4194304)(Y:z.a[t]?=some r)(ht:t < 29\/gq r)(h:du (wh t) (t==26) r)(q:Q (.w (vh t !=2&&A.contains (vh t))) (st z L)):
  ar (ai (n+1) 19 [.o 2,.p r,.p (aa A)] (st z L)) Q:=by
 refine az (ρ:=[some (.o 2),some (.p r),some (.p (aa A)),none]) rfl ?_;have N:bt (st z L) (.p (aa A))=some (false,aa A):=rfl;have get:∀(r':List V) (i:Nat) {K:V->St->Prop},da[i]?=some r'->V.keys r'=true->K (.j i) (st z L)->bm (cm .c (.o 4) [.p r',.j (-1)] (st z L)) K:=λr' i K T U k=>by
  refine aP ?_ k;exact yQ (r:=some (.j i)) rfl (dW U (aE some (show cT _ (iU z.a)=_ by rw[nc,rN I.a (I.at T),qf])))
 by_cases a:t=20
 .subst a
  rw[I.at (t:=20) rfl]at Y;cases Y;refine get [.j 4,.j 0,.j 0] 18 rfl rfl ?_;exact ag (jx N) (by rw[h_];exact q)
 by_cases c:t=21
 .subst c
  rw[I.at (t:=21) rfl]at Y;cases Y;refine get [.j 4,.j 0,.j 0] 18 rfl rfl ?_;exact ag (jx N) (by rw[h_];exact q)
 by_cases f:t=22
 .subst f
  rw[I.at (t:=22) rfl]at Y;cases Y;refine get [.j 3,.u "a",.j 0] 16 rfl rfl ?_;exact ag (jx N) (by rw[h_];exact q)
 have B:vh t=2:=by unfold vh;rw[ab ("~5zP>SHkKu6T56U7UlukDWP=^JU|eOz<aLbwNQ=iRSqS" a c),ab f]
 rw[B]at q;have g:∀k rest,r=.j k::rest->k≠5:=by
  intro k rest e U;subst e;subst U;rcases ht with ht |ht
  .have T:da[t]?=some (.j 5::rest):=by
    obtain⟨r',T⟩:∃r',da[t]?=some r':=⟨_,iD (show t < da.length from ht)⟩;rw[I.at T]at Y;cases Y;exact T
   have key:∀i < 29,da[i]?.bind List.head?=some (.j 5)->i=20\/i=21\/i=22:=by decide
   rcases key t ht (by rw[T];rfl)with e |e |e
   .exact a e
   .exact c e
   .exact f e
  .cases ht
 generalize wh t=w at h;generalize (t==26)=b at h
 induction h <;>first |exact q |exact absurd rfl (g _ _ rfl)
end
section
variable{C:CT}{z:Z}{L:List O}{n t s i:Nat}{Q:V->St->Prop}{l ls lt:List Nat}{σ:St}
def Fn(I:am z)(h:z.a[t]?=some r):t < 29\/gq r:=by
 rcases Nat.lt_or_ge t 29 with h1 |h1
 .exact .inl h1
 .exact .inr (I.d t r h1 h)
abbrev y0:List CS:=[.g 5 (.h (.q (.d 0) 18) (.d 4)),.g 6 (.D [.n .b (.d 4) (.d 3),.n .b (.j 3 [.d 5]) (.d 3),.j 19 [.d 0,.d 5,.d 3]]),
 .h (.z [.G (.d 6),.G (.z [.n .a (.d 4) (.p 4),.n .b (.p 3) (.d 3)])]) [.d (.B false)] []]
def Q4(I:am z)(hz:z.a.length < 4194304)(J:b3 z p)
  (f:dR A p=true->∀d e,K .a [some (.o 2),a,b,some (.p (aa A)),some (.j p),d,e] (st z L)) (Y:dR A p=false->∀ρ,K (.b (.w false)) ρ (st z L)):
  aM (ai (n+1)) y0 [some (.o 2),a,b,some (.p (aa A)),some (.j p),d,e] K (st z L):=by
 obtain⟨h2,r,U,p1⟩:=id J;have N:bt (st z L) (.p (aa A))=some (false,aa A):=rfl;have c1:dc .b (.j p) (.p (aa A)) (st z L)=some (.w (A.contains p),st z L):=by rw[jx N,h_]
 have v:dc .b (.j (oW (wh p))) (.p (aa A)) (st z L)=some (.w (wh p !=2&&A.contains (wh p)),st z L):=by rw[jx N,Q1]
 have T:dc .b (.j 3) (.p (aa A)) (st z L)=some (.w (A.contains 3),st z L):=by rw[jx N];congr 3;exact h_ (x:=3)
 have c:ca (.j p) (.j 4)=(p==4):=by
  by_cases h:p=4
  .subst h;rfl
  .rw[vF ("~KRq3eITDyQz3" h),cB.mpr h]
 unfold dR at f Y;refine ag (co hz U) ?_;refine ag c1 ?_;generalize e1:A.contains p=E
 induction E using aS with
 |true=>rw[e1]at f;exact f rfl _ _|false=>
  rw[e1]at f Y;refine Fa (n:=n) p1 ?_;refine ag v ?_;generalize w:(wh p !=2&&A.contains (wh p))=E
  induction E using aS with
  |true=>rw[w]at f;exact f rfl _ _|false=>
   rw[w]at f Y;refine Q3 (n:=n) I hz U (Fn I U) p1 ?_;generalize H:(vh p !=2&&A.contains (vh p))=E
   induction E using aS with
   |true=>rw[H]at f;exact f rfl _ _|false=>
    rw[H]at f Y;conv=>whnf
    rw[c];generalize B:(p==4)=E
    induction E using aS with
    |false=>rw[B]at Y;exact Y rfl _|true=>
     rw[B]at f Y;refine ag T ?_;generalize g:A.contains 3=E
     induction E using aS with
     |true=>rw[g]at f;exact f rfl _ _|false=>rw[g]at Y;exact Y rfl _
def Q5(I:am z)(hz:z.a.length < 4194304):∀{c d e:Option V} {K:cY->ba->St->Prop},(∀p∈ps,b3 z p)->
  (∀c d e,ps.all (dR A)=true->K .a [some (.o 2),a,b,some (.p (aa A)),c,d,e] (st z L))->(ps.all (dR A)=false->∀ρ,K (.b (.w false)) ρ (st z L))->
  gm (λx ρ k σ=>bQ (fQ (.a 4) x ρ σ) λρ σ=>aM (ai (n+1)) y0 ρ k σ) none (aa ps) [some (.o 2),a,b,some (.p (aa A)),c,d,e] K (st z L):=by
 induction ps with
 |nil=>
  intro c d e K J f Y;exact(f c d e rfl:_)
 |cons p ps ih=>
  intro c d e K J f Y;show aM (ai (n+1)) y0 [some (.o 2),a,b,some (.p (aa A)),some (.j p),d,e] _ (st z L);refine Q4 I hz (J p br) (λh d e=>?_) λh ρ=>?_
  .refine ih (λx H=>J x (b5 _ H)) (λc d e h'=>f c d e ?_) λh' ρ=>Y ?_ ρ
   .rw[B4,h,h'];rfl
   .rw[B4,h,h'];rfl
  .refine Y ?_ ρ
   rw[B4,h];rfl
abbrev lK(t:Nat):Bool:=t==0||t==1||t==13
def Fo(I:am z)(room:z.sz+2 < 4194304)(N:aO z s ls)(f:aO z t lt)(h1:ls.length<=400)(h2:lt.length<=400)
  (q:∀z' L',Gr 2 z z'->L <+:L'->Q (.w (lK t||iY ls lt)) (st z' L')):ar (ai (n+5) 20 [.o 2,.j s,.j t] (st z L)) Q:=by
 refine az (ρ:=[some (.o 2),some (.j s),some (.j t),none,none,none,none]) rfl ?_;unfold lK at q;have c:∀k:Nat,ca (.j t) (.j k)=(t==k):=λk=>by
  by_cases h:t=k
  .subst h;rw[vT rfl];simp
  .rw[vF ("~1_Ou3jsFT<tJ" h),cB.mpr h]
 have q0:=q z L ((Gr.refl I).mono (bb _)) (aA _);conv=>whnf
 rw[show ca (.j t) (.j 0)=(t==0)from c 0];generalize a:(t==0)=E
 induction E using aS with
 |true=>rw[a]at q0;exact q0|false=>
  conv=>whnf
  rw[show ca (.j t) (.j 1)=(t==1)from c 1];generalize e1:(t==1)=E
  induction E using aS with
  |true=>rw[a,e1]at q0;exact q0|false=>
   conv=>whnf
   rw[show ca (.j t) (.j 13)=(t==13)from c 13];generalize m:(t==13)=E
   induction E using aS with
   |true=>rw[a,e1,m]at q0;exact q0|false=>
    rw[a,e1,m]at q;refine Fk (n:=n) I ("~LmftSEqj4z05" room) f h2 λu r L1 A T J=>?_;have p:u.sz<=z.sz+1:=A.f;refine rO (n:=n+3) A.e (Z.bZ (c:=0) ("~45ii4v1er_wentg2?" p room)) J ?_;refine Fk (n:=n) A.e ("~45ii4v1er_wez4FmP" p room) (N.gr A.d) h1 λz2 g L2 j w y=>?_;have U:z2.sz<=u.sz+1:=j.f;have o:=Z.bZ (z:=z2) (c:=0) ("~dTtCqaYBuY0>HN2rLXVht" U p room);refine rO (n:=n+3) j.e o y ?_;have Y:(oX ls).length < 4194304:=ku y.f y.d o;refine ag ((ng (z:=z2) (L:=L2) Y).a _ (aA _)) ?_;have fin:=q z2 L2 (A.trans j) (T.trans w);refine Q5 (n:=n+3) j.e o y.d (λc d e h=>?_) λh ρ=>?_
    .unfold iY at fin;rw[h]at fin;exact fin
    .unfold iY at fin;rw[h]at fin;exact fin
end
section
variable{C:CT}{z:Z}{L:List O}{n t s i:Nat}{Q:V->St->Prop}{l ls lt:List Nat}{σ:St}
abbrev Fp(r:List V):Bool:=match r with |.j k::_=>k==10||k==16 |_=>false
abbrev iZ(z:Z)(p:Nat):Bool:=match z.a[p]? with |some r=>Fp r |none=>false
def y1(h:z.a[t]?=some r):iZ z t=Fp r:=by unfold iZ;rw[h]
def Fq(hz:z.a.length < 4194304)(Y:z.a[t]?=some r)(h:du w b r)(q:Q (.w (iZ z t)) (st z L)):ar (ai (n+1) 28 [.o 2,.j t] (st z L)) Q:=by
 rw[y1 Y]at q;refine az (ρ:=[some (.o 2),some (.j t),none,none,none,none]) rfl ?_;refine ag (co hz Y) ?_
 induction h <;>exact q
abbrev Q8:List CS:=[.h (.j 28 [.d 0,.d 3]) [.d (.B true)] []]
def Q9(hz:z.a.length < 4194304):∀{c:Option V} {K:cY->ba->St->Prop},(∀p∈ps,b3 z p)->
  (∀c,ps.any (iZ z)=false->K .a [some (.o 2),a,b,c,d,e] (st z L))->(ps.any (iZ z)=true->∀ρ,K (.b (.w true)) ρ (st z L))->
  gm (λx ρ k σ=>bQ (fQ (.a 3) x ρ σ) λρ σ=>aM (ai (n+1)) Q8 ρ k σ) none (aa ps) [some (.o 2),a,b,c,d,e] K (st z L):=by
 induction ps with
 |nil=>
  intro c K J f Y;exact(f c rfl:_)
 |cons p ps ih=>
  intro c K J f Y;obtain⟨_,r,U,p1⟩:=J p br;show ar (ai (n+1) 28 [.o 2,.j p] (st z L)) _;refine Fq hz U p1 ?_;rw[tH]at f Y;generalize e1:iZ z p=E
  induction E using aS with
  |true=>rw[e1]at Y;exact Y rfl _|false=>
   rw[e1]at f Y;exact ih (λx H=>J x (b5 _ H)) f Y
def Q_(I:am z)(hz:z.a.length < 4194304)(h:aO z t l)(q:Q (.w (l.any (iZ z))) (st z L)):ar (ai (n+2) 28 [.o 2,.j t] (st z L)) Q:=by
 rcases oY I h with⟨r,U,J,h2⟩ |⟨U,h2,h3⟩
 .refine Fq (n:=n+1) hz U J ?_
  rcases h2 with⟨e,w⟩ |⟨e,w⟩
  .subst e;rw[w]at q
   rw[y1 (jy I)];exact q
  .rw[w]at q
   rw[tH,List.any_nil,xk]at q;exact q
 .refine az (ρ:=[some (.o 2),some (.j t),none,none,none,none]) rfl ?_
  refine ag (co hz U) ?_;have Y:l.length < 4194304:=ku h.f h.d hz;refine ag ((ng (z:=z) (L:=L) Y).a _ (aA _)) ?_;refine Q9 hz h.d (λc e=>?_) λe ρ=>?_
  .rw[e]at q;exact q
  .rw[e]at q;exact q
def Fs(I:am z)(hz:z.a.length < 4194304)(h:aO z t l)(q:Q (.w (l.any (iZ z))) (st z L)):ar (ai (n+3) 36 [.o 10,.j t,.w false] (st z L)) Q:=by
 refine az (ρ:=[some (.o 10),some (.j t),some (.w false),none,none]) rfl ?_;refine Q_ I hz h ?_;generalize e:l.any (iZ z)=E
 induction E using aS with
 |true=>rw[e]at q;exact q|false=>rw[e]at q;exact q
def Ft(I:am z)(h:aO z t l):∃k r,z.a[t]?=some (.j k::r)/\k≠12:=by
 rcases oY I h with⟨r,Y,J,h2⟩ |⟨Y,h2,h3⟩
 .generalize wh t=w at J
  generalize (t==26)=b at J
  induction J <;>exact⟨_,_,Y,by decide⟩
 .exact⟨6,_,Y,by decide⟩
def Fu(I:am z)(hz:z.a.length < 4194304)(o:aO z c lc)(G:aO z a la)(q:Q (.w false) (st z L)):
  ar (ai (n+1) 35 [.o 2,.p (k::.j c::.j a::rest)] (st z L)) Q:=by
 obtain⟨Y,rc,h1,h2⟩:=Ft I o;obtain⟨v,ra,h3,h4⟩:=Ft I G;refine az (ρ:=[some (.o 2),some (.p (k::.j c::.j a::rest)),none,none]) rfl ?_;refine ag (co hz h1) ?_;refine ag (co hz h3) ?_;conv=>whnf
 rw[vF h2];exact q
def Ra(q:Q (.w false) σ):ar (ai (n+1) 29 [.o 10,.p [],m] σ) Q:=by
 refine az (ρ:=[some (.o 10),some (.p []),some m,none,none]) rfl ?_;exact q
abbrev Rb:O->Bool
 |.a _=>false |_=>true
def u'(h:L[i]?=some o)(u:Rb o=true)(q:Q (.o (i+14)) (st z L)):bm (hO (.o (i+14)) (st z L)) Q:=by
 have h':mK (st z L) (.o (i+14))=none:=by
  refine bg rfl (bg h ?_)
  induction o <;>first |rfl |exact b6 u
 refine aP (show some ((mK (st z L) (.o (i+14))).elim _ _)=_ from ?_) q;rw[h'];rfl
abbrev aI(m:Option (Nat×Nat)):O:=match m with |none=>.b |some (p,v)=>.f [((p:Int),.j v)]
def Fv(m:Option (Nat×Nat)):∃es,gh (aI m)=some es/\es.length < bs:=by
 induction m using aX with
 |none=>exact⟨_,rfl,bP rfl⟩|some p=>exact⟨_,rfl,bP rfl⟩
def Fw(h:L[i]?=some (aI m))(q:Q (.o (L.length+14)) (st z (L++[aI m]))):bm (b1 .d (.o (i+14)) (st z L)) Q:=by
 obtain⟨es,J,Y⟩:=Fv m;exact aP (bg h (bg J (dr Y))) q
def y3(h:L[i]?=some (aI m))(q:Q (.o (L.length+14)) (st z (L++[aI m]))):ar (ai (n+1) 24 [.o (i+14),.p []] (st z L)) Q:=by
 refine az (ρ:=[some (.o (i+14)),some (.p []),none,none]) rfl ?_;refine Fw h ?_;exact u' bk (by induction m <;>rfl) q
def u_{Q:Unit->St->Prop}(h:L[i]?=some .b)(q:Q () (st z (L.set i (aI (some (p,v)))))):bm (qX (.o (i+14)) [.j p,.j v] (st z L)) Q:=by
 exact aP (bg rfl (bg h rfl)) q
def Rc(h:L[i]?=some (aI (some (p,v))))(f:L[j]?=some (aI (some (p,v'))))(q:Q (.o (L.length+14)) (st z ((L++[aI (some (p,v))]).set L.length (aI (some (p,v')))))):
  ar (ai (n+1) 30 [.o (i+14),.o (j+14)] (st z L)) Q:=by
 refine az (ρ:=[some (.o (i+14)),some (.o (j+14)),none]) rfl ?_;refine Fw h ?_;have a:(st z (L++[aI (some (p,v))]))[j+14]?=some (aI (some (p,v'))):=show(L++[aI (some (p,v))])[j]?=_ from aC f bp;have g:(st z (L++[aI (some (p,v))]))[L.length+14]?=some (aI (some (p,v))):=show(L++[aI (some (p,v))])[L.length]?=_ from bk;have k:gH .e (.o (L.length+14)) (st z (L++[aI (some (p,v))]))=some ((),st z (L++[aI (some (p,v))])):=yR g rfl;refine ag k ?_;have w:L.length+14≠j+14:=λe=>by
  have:=(bW.mp f).1;lia
 have c:cm .e (.o (L.length+14)) [.o (j+14)] (st z (L++[aI (some (p,v))]))=some (.z,st z ((L++[aI (some (p,v))]).set L.length (aI (some (p,v'))))):=by
  refine bg rfl (bg g (bg rfl (bg rfl (dW w (bg a (bg rfl (bg rfl (dW (bP rfl) ?_))))))));show some (V.z,(st z (L++[aI (some (p,v))])).set (L.length+14) (.f (bn (p:Int) (.j v') [((p:Int),.j v)])))=_;rw[CJ,ah rfl];rfl
 refine aP c ?_;exact u' (aT bk) rfl q
structure Sp where
 e:List V
 c:Nat
 b:Nat
 a:Nat
 d:Nat
 f:Int
 g:Int
abbrev bM(s:Sp):O:=.e 1 [(6,.o 10),(17,.p s.e),(8,.o (s.c+14)),(16,.j s.b),(20,.o (s.a+14)),(5,.o (s.d+14)),(13,.j s.f),(4,.j s.g)]
def ew{Q:Unit->St->Prop}(h:L[i]?=some (.e c fs))(Y:fs.length < 100)(q:Q () (st z (L.set i (.e c (bn a x fs)))))(j:dM c a=false:=by rfl):bm (mH (.o (i+14)) a x (st z L)) Q:=by
 exact aP (bg rfl (bg h (bg rfl (dr ⟨j,Y⟩)))) q
def a_(h:L[i]?=some (.e c fs))(H:cT a fs=some x)(j:dM c a=false:=by rfl):t6 (.o (i+14)) a (st z L)=some (x,st z L):=bg h (bg rfl (dW j (dX H)))
def va(q:∀L',L <+:L'->L.length < L'.length->L'[L.length]?=some (bM ⟨U,k,rd,a,L.length+1,-1,-1⟩)->L'[L.length+1]?=some (.a [])->Q (.o (L.length+14)) (st z L')):
  bm (gj (.e 1 []) (st z L)) λr σ=>ar (ai (n+1) (qO 1) (r::[.o 10,.p U,.o (k+14),.j rd,.o (a+14)]) σ) λv σ=>match v with |.z=>Q r σ |_=>False:=by
 refine bY ?_;refine az (f:=77) (ρ:=[some (.o (L.length+14)),some (.o 10),some (.p U),some (.o (k+14)),some (.j rd),some (.o (a+14))]) rfl ?_;have h0:(L++[O.e 1 []])[L.length]?=some (.e 1 []):=bk;have Y:L <+:L++[O.e 1 []]:=bp;have I:(L++[O.e 1 []]).length=L.length+1:=by simp
 generalize L++[O.e 1 []]=L0 at h0 Y I;refine ew h0 (by decide) ?_;refine ew (aT h0) (bP rfl) ?_;refine ew (aT (aT h0)) (bP rfl) ?_;refine ew (aT (aT (aT h0))) (bP rfl) ?_;refine ew (aT (aT (aT (aT h0)))) (bP rfl) ?_;have h1:=aT (o':=.e 1 (bn 20 (.o (a+14)) (bn 16 (.j rd) (bn 8 (.o (k+14)) (bn 17 (.p U) (bn 6 (.o 10) [])))))) (aT (o':=.e 1 (bn 16 (.j rd) (bn 8 (.o (k+14)) (bn 17 (.p U) (bn 6 (.o 10) []))))) (aT (o':=.e 1 (bn 8 (.o (k+14)) (bn 17 (.p U) (bn 6 (.o 10) [])))) (aT (o':=.e 1 (bn 17 (.p U) (bn 6 (.o 10) []))) (aT (o':=.e 1 (bn 6 (.o 10) [])) h0))));simp only[kR]at h1 ⊢;have p1:L <+:L0.set L.length (.e 1 (bn 20 (.o (a+14)) (bn 16 (.j rd) (bn 8 (.o (k+14)) (bn 17 (.p U) (bn 6 (.o 10) [])))))):=bE Y (av _);have l1:(L0.set L.length (.e 1 (bn 20 (.o (a+14)) (bn 16 (.j rd) (bn 8 (.o (k+14)) (bn 17 (.p U) (bn 6 (.o 10) []))))))).length=L.length+1:=by rw[jc];exact I
 generalize L0.set L.length (.e 1 (bn 20 (.o (a+14)) (bn 16 (.j rd) (bn 8 (.o (k+14)) (bn 17 (.p U) (bn 6 (.o 10) []))))))=L1 at h1 p1 l1;refine bY ?_;have h2:(L1++[O.a []])[L.length]?=_:=aC h1 bp;have w:(L1++[O.a []])[L.length+1]?=some (.a []):=by rw[<-l1];exact bk
 have p2:L <+:L1++[O.a []]:=p1.trans bp;have l2:L.length < (L1++[O.a []]).length:=by rw[b_];simp;exact "~1_36^zc=f9se" l1
 rw[show L1.length+14=L.length+1+14 by rw[l1]];generalize L1++[O.a []]=L2 at h2 w p2 l2;refine ew h2 (bP rfl) ?_;refine ew (aT h2) (bP rfl) ?_;refine ew (aT (aT h2)) (bP rfl) ?_;simp only[kR];exact q _ (bE p2 (av _)) (by rw[jc];exact l2) (aT h2) (bz w ("~7y5QJo18>" id))
def Rd{s:Sp}{k:Nat}(h:L[i]?=some (bM s))(N:L[s.a]?=some (.a [.j k]))(w:i≠s.a)(Y:s.b < 100)(U:k < 3000)
  (q:Q .z (st z ((L.set i (bM {s with b:=s.b+1})).set s.a (.a [.j (k+1:Nat)])))):ar (ai (n+1) 78 [.o (i+14)] (st z L)) Q:=by
 refine az (ρ:=[some (.o (i+14))]) rfl ?_;refine ag (a_ h rfl) ?_;refine ew h (by show 8 < 100;decide) ?_;have h1:(L.set i (bM {s with b:=s.b+1}))[i]?=some (bM {s with b:=s.b+1}):=aT h;have g:(L.set i (bM {s with b:=s.b+1}))[s.a]?=some (.a [.j k]):=bz N w;show aM _ _ _ _ (st z (L.set i (bM {s with b:=s.b+1})));generalize L.set i (bM {s with b:=s.b+1})=L1 at h1 g q;refine ag (a_ h1 rfl) ?_;have p:bt (st z L1) (.o (s.a+14))=some (true,[.j k]):=iV g;have H:di (.o (s.a+14)) (.j 0) (st z L1)=some (.j k,st z L1):=gn (t:=0) p (bP rfl) rfl;refine ag H ?_;have c:lj (.o (s.a+14)) (.j 0) (.j (k+1:Nat)) (st z L1)=some ((),st z (L1.set s.a (.a [.j (k+1:Nat)]))):=bg rfl (bg g rfl);refine aP c ?_;have h2:(L1.set s.a (.a [.j (k+1:Nat)]))[i]?=some (bM {s with b:=s.b+1}):=bz h1 (Ne.symm w);have a:(L1.set s.a (.a [.j (k+1:Nat)]))[s.a]?=some (.a [.j (k+1:Nat)]):=aT g;generalize L1.set s.a (.a [.j (k+1:Nat)])=L2 at h2 a q;refine ag (a_ h2 rfl) ?_;refine ag (a_ h2 rfl) ?_;refine bF (cc (by show¬ (200 < ((s.b+1:Nat):Int));exact "~wxki7EDk=tW0hHe4C" Y)) ?_;refine ag (a_ h2 rfl) ?_;have r:bt (st z L2) (.o (s.a+14))=some (true,[.j (k+1:Nat)]):=iV a;refine ag (gn (t:=0) r (bP rfl) rfl) ?_;refine bF (cc ("~zcnwT9=JU1rRoqYmC" U)) ?_;exact q
end
section
variable{C:CT}{z:Z}{L:List O}{n t s i:Nat}{Q:V->St->Prop}{l ls lt:List Nat}{σ:St}
inductive fC:List Nat->List V->Prop
 |c l:l.length < 4194304->fC l (dt l)
 |a k:fC [k] (dQ k)
 |j s:fC [] [.j 1,.u s]
 |p (b f:Int):fC [] [.j 2,.j b,.j f]
 |d s (f:Int):fC [] [.j 3,.u s,.j f]
 |h (i f:Int):fC [] [.j 4,.j i,.j f]
 |n (e:Int) nm (i f:Int):fC [] [.j 5,.j e,.u nm,.j i,.j f]
 |m (e:Int) nm s (f:Int):fC [] [.j 5,.j e,.u nm,.u s,.j f]
 |o:fC [] [.j 8,.p [],.p [],.p [],.p [],.p [],.j 0]
 |g k:fC [] (eM k)
def Re{σ0:St}{ρ:ba}(g:sl < ρ.length)(Y:ps.length < 4194304)(q:∀L',L <+:L'->K (.r (aa ps)) (st z L')):
  bm (gj (.a []) (st z L)) λr σ=>eu (λx k σ=>fh C [] (ρ.set sl (some x)) (λb σ=>fg b (bK C (.d sl) (ρ.set sl (some x)) (λv σ=>bm (cm .a r [v] σ) λQ σ=>k σ) σ) (k σ)) σ) none (aa ps) (λσ=>bm (hO r σ) K) σ:=by
 refine bY ?_;refine Fj (f:=id) (out:=[]) (j:=L.length) bk (by simpa using Y) (λp J L' U B=>?_) λL1 h1 h2 h3=>?_
 .exact yh (qg g) (B L' (aA _))
 .rw[dh,List.map_id]at h1
  refine f0 h1 (q _ ?_);exact bE (rU (λi o hi h=>h2 i o hi (aC h bp)) (aL bp.length_le h3) (av _)) (av _)
def vb(q:Q (.r []) σ):ar (ai (n+1) 12 [.p []] σ) Q:=by
 refine az (ρ:=[some (.p [])]) rfl ?_;exact q
def Rg(q:∀L',L <+:L'->Q (.r (aa [k])) (st z L')):ar (ai (n+2) 13 [.p (dQ k)] (st z L)) Q:=by
 refine az (ρ:=[some (.p (dQ k)),none,none,none]) rfl ?_;refine bY ?_;refine eb bk (by decide) ?_;refine f0 (aT bk) ?_;refine vb ?_;refine vb ?_;exact q _ (bE (bE bp (av _)) (av _))
def Rh(q:∀L',L <+:L'->Q (.r []) (st z L')):ar (ai (n+2) 13 [.p [.j 8,.p [],.p [],.p [],.p [],.p [],.j 0]] (st z L)) Q:=by
 refine az (ρ:=[some (.p [.j 8,.p [],.p [],.p [],.p [],.p [],.j 0]),none,none,none]) rfl ?_;refine bY ?_;refine f0 bk ?_;refine vb ?_;refine vb ?_;exact q _ (bE bp (av _))
def Fx{I:List Nat}(h:fC I r)(q:∀L',L <+:L'->Q (.r (aa I)) (st z L')):ar (ai (n+3) 14 [.p r] (st z L)) Q:=by
 refine az (ρ:=[some (.p r),none,none,none,none]) rfl ?_;cases h with
 |c _ Y=>
  refine ag ((ng (z:=z) (L:=L) Y).a _ (aA _)) ?_;exact Re (σ0:=[]) (ρ:=[some (.p (dt I)),some (.j 6),none,none,none]) (by simp) Y q
 |a k=>
  exact Rg q
 |o=>
  exact Rh q
 |_=>exact q L (aA _)
def Fy(h:fC I r)(q:Q (.p []) σ):ar (ai (n+1) 15 [.p r] σ) Q:=by
 refine az (ρ:=[some (.p r)]) rfl ?_
 induction h <;>exact q
def Ri(h:fC I r)(q:∀L',L <+:L'->Q (.r (aa I)) (st z L')):ar (ai (n+4) 16 [.o 2,.p r] (st z L)) Q:=by
 refine az (ρ:=[some (.o 2),some (.p r),none,none]) rfl ?_;refine Fx h λL1 h1=>?_;refine Fy (n:=n+2) h ?_;exact q L1 h1
structure vc(z:Z)(U:List Nat)(kd:Nat->List Nat):Prop where
 a:∀u∈U,∃r,z.a[u]?=some r/\fC (kd u) r
 d:∀u∈U,∀k∈kd u,k∈U
 c:U.length < 1000
 b:∀u∈U,(kd u).length < 500
abbrev jz(kd:Nat->List Nat)(S:List Nat):List Nat->Nat
 |[]=>0|u::U=>(if u∈S then 0 else(kd u).length)+jz kd S U
def rV:jz kd S (u::U)=(if u∈S then 0 else(kd u).length)+jz kd S U:=rfl
theorem Fz(h:∀x∈S,x∈S'):∀U,jz kd S' U<=jz kd S U
 |[]=>av _|u::U=>by
  have:=Fz (kd:=kd) h U;rw[rV,rV];by_cases h1:u∈S
  .rw[ah h1,ah (h u h1)];exact "~755BlxOtsY0" this
  .rw[ab h1];split <;>lia
theorem y4(h:∀x∈S,x∈S')(A:w∉S)(k:w∈S'):∀{U:List Nat},w∈U->jz kd S' U+(kd w).length<=jz kd S U
 |[],c=>by cases c
 |u::U,c=>by
  rw[rV,rV];by_cases e:w=u
  .subst e
   have v1:=Fz (kd:=kd) h U;rw[ab A,ah k];exact "~1b<?14G1hMIW" v1
  .have a:w∈U:=by
    rcases bH.mp c with q |q
    .exact absurd q e
    .exact q
   have v2:=y4 (kd:=kd) h A k a;by_cases h1:u∈S
   .rw[ah h1,ah (h u h1)];exact "~1Jz>ZIvJS<yYLb" v2
   .rw[ab h1];split <;>lia
def cI:(aa l).length=l.length:=bX _
def ic:aa (l++m)=aa l++aa m:=kQ
def Rj(h:L[i]?=some (.a (aa W)))(Y:W.length < 4194304):iN (st z L) (.o (i+14))=some (!W.isEmpty):=by
 refine(bg (iV (σ:=st z L) h) (dW (show(aa W).length < bs by rw[cI];exact Y) rfl)).trans ?_
 induction W <;>rfl
def FA{W:List Nat}{w:Nat}(h:L[i]?=some (.a (aa (W++[w]))))(Y:W.length+1 < 4194304)(q:Q (.j w) (st z (L.set i (.a (aa W))))):bm (cm .d (.o (i+14)) [] (st z L)) Q:=by
 refine aP ?_ q;have e:(aa (W++[w])).getLast?=some (.j w):=by rw[ic];simp[aa]
 have U:(aa (W++[w])).dropLast=aa W:=by rw[ic];simp[aa]
 refine bg rfl (bg h (bg e (dW (by rw[cI,b_];exact Y) ?_)));rw[U];rfl
def y5(h:L[i]?=some (.a (aa W)))(Y:W.length+I.length < 4194304)(q:Q .z (st z (L.set i (.a (aa (W++I)))))):bm (cm .b (.o (i+14)) [.r (aa I)] (st z L)) Q:=by
 refine aP ?_ q;refine bg rfl (bg h (bg rfl (bg rfl (bg rfl (dW (by rw[cI,cI];exact Y) ?_)))));rw[ic];rfl
def ec(m:iI)(h:L[i]?=some (.a W))(hm:m=.a\/m=.b\/m=.d):gH m (.o (i+14)) (st z L)=some ((),st z L):=by
 exact yR (σ:=st z L) h (by rcases hm with e |e |e <;>rw[e] <;>rfl)
structure FC(U:List Nat)(kd:Nat->List Nat)(S S':List Nat):Prop where
 a:∀x∈S',x∈U
 d:∀x∈S,x∈S'
 b:S'.Nodup
 c:∀x∈S',∀k∈kd x,k∈S'
abbrev FD:List CS:=[.g 4 (.w .d (.d 3) []),.h (.z [.n .g (.d 4) (.g 0),.n .d (.d 4) (.d 2)]) [.n (.d 2) (.d 4) (.g 1),.k (.w .b (.d 3) [.j 16 [.d 0,.h (.q (.d 0) 18) (.d 4)]])] []]
def Rl{U:List Nat}{kd:Nat->List Nat}(c:vc z U kd)(hz:z.a.length < 4194304){a:Option V}(m:i≠j)(y:L0.length<=i)(T:L0.length<=j):∀{W S:List Nat} {L:List O} {o:Option V},W.length+jz kd S U < f->f<=1000000->L0 <+:L->
  L[i]?=some (dI S)->L[j]?=some (.a (aa W))->S.Nodup->(∀x∈S,x∈U)->(∀x∈W,x∈U)->(∀x∈S,∀k∈kd x,k∈S\/k∈W)->
  (∀L' S' o,L0 <+:L'->L'[i]?=some (dI S')->FC U kd (S++W) S'->K .a [some (.o 2),a,some (.o (i+14)),some (.o (j+14)),o] (st z L'))->
  hX (λρ k σ=>bK (ai (n+4)) (.d 3) ρ (λx σ=>et σ x λt=>k t σ) σ) (λρ k σ=>aM (ai (n+4)) FD ρ k σ) f [some (.o 2),a,some (.o (i+14)),some (.o (j+14)),o] K (st z L):=by
 induction f with
 |zero=>
  intro W S L o hf _ _ _ _ _ _ _ _ _;exact absurd hf (B' _)
 |succ f ih=>
  intro W S L o hf p Y hi hj u G hW hk q;have A:W.length < 4194304:= "~=PgQYChJbs>nUJZ4MVX7" p hf;show et (st z L) (.o (j+14)) _;refine tW (Rj hj A) ?_;rcases List.eq_nil_or_concat W with e |⟨J,w,e⟩
  .subst e
   refine q L S o Y hi ⟨G,λx H=>by simpa using H,u,λx H k g=>by simpa using hk x H k g⟩
  .rw[List.concat_eq_append]at e
   subst e;have oG:(!(J++[w]).isEmpty)=true:=by induction J <;>rfl
   rw[oG];simp only[b_,bI,dG]at hf;have N:=hW w (by simp);obtain⟨r,hr,Rm⟩:=c.a w N;refine ag (ec .d hj (.inr (.inr rfl))) ?_;refine FA hj ("~7DZJWyB3ZMavwKv?Dw9o9Fqc;7" p hf) ?_;have gu:(L.set j (.a (aa J)))[i]?=some (dI S):=bz hi (Ne.symm m);have v:(L.set j (.a (aa J)))[j]?=some (.a (aa J)):=aT hj;have p1:L0 <+:L.set j (.a (aa J)):=bE Y T;generalize L.set j (.a (aa J))=L1 at gu v p1;refine ag (yX gu) ?_;by_cases hm:w∈S
   .rw[b4 (dD.mpr hm)]
    refine ih ("~17ts6d9n17Q6|juz" hf) ("~?t<a<SpUFV=h5FkTRp" p) p1 gu v u G (λx H=>hW x (by simp[H])) (λx H k g=>?_) λL' S' o' h1 h2 h3=>q L' S' o' h1 h2 ⟨h3.a,λx H=>?_,h3.b,h3.c⟩
    .rcases hk x H k g with h |h
     .exact .inl h
     .rcases aZ.mp h with h |h
      .exact .inr h
      .rw[aB]at h;subst h;exact .inl hm
    .refine h3.d x ?_
     rcases aZ.mp H with h |h
     .simp[h]
     .rcases aZ.mp h with h |h
      .simp[h]
      .rw[aB]at h;subst h;simp[hm]
   .rw[cc λe=>hm (dD.mp e)]
    have I:S.length < 4194304:=fK (jw z.a.length u λx H=>by
     obtain⟨r,hr,_⟩:=c.a x (G x H);exact(bW.mp hr).1) hz
    refine m6 gu (rQ I) rR ?_;have nh:(L1.set i (dI (dd S [w])))[i]?=some (dI (dd S [w])):=aT gu;have B:(L1.set i (dI (dd S [w])))[j]?=some (.a (aa J)):=bz v m;have p2:L0 <+:L1.set i (dI (dd S [w])):=bE p1 y;generalize L1.set i (dI (dd S [w]))=L2 at nh B p2;refine ag (ec .b B (.inr (.inl rfl))) ?_;refine ag (co hz hr) ?_;refine Ri Rm λE p3=>?_;have y6:=c.b w N;refine y5 (aC B p3) ("~1<B1JeKgBr8zhGtQ8g1bfOHh_DidWcg" p hf y6) ?_;have y7:=y4 (kd:=kd) (S:=S) (S':=dd S [w]) (w:=w) (λx H=>fo.mpr (.inl H)) hm (fo.mpr (.inr (by simp))) N;refine ih (by simp only[b_];exact "~2r18h2aExfQl_^Eibxrut" y7 hf) ("~?t<a<SpUFV=h5FkTRp" p) (bE (p2.trans p3) T) (bz (aC nh p3) (Ne.symm m)) (aT (aC B p3)) (m9 u) (λx H=>?_) (λx H=>?_) (λx H k g=>?_) λL' S' o' h1 h2 h3=>q L' S' o' h1 h2 ⟨h3.a,λx H=>?_,h3.b,h3.c⟩
    .rcases fo.mp H with h |h
     .exact G x h
     .rw[aB]at h;subst h;exact N
    .rcases aZ.mp H with h |h
     .exact hW x (by simp[h])
     .exact c.d w N x h
    .rcases fo.mp H with h |h
     .rcases hk x h k g with h |h
      .exact .inl (fo.mpr (.inl h))
      .rcases aZ.mp h with h |h
       .exact .inr (by simp[h])
       .exact .inl (fo.mpr (.inr h))
     .rw[aB]at h;subst h;exact .inr (by simp[g])
    .refine h3.d x ?_
     rcases aZ.mp H with h |h
     .exact dy _ (fo.mpr (.inl h))
     .rcases aZ.mp h with h |h
      .simp[h]
      .exact dy _ (fo.mpr (.inr h))
end
section
variable{C:CT}{z:Z}{L:List O}{n t s i:Nat}{Q:V->St->Prop}{l ls lt:List Nat}{σ:St}
abbrev cj:List Nat:=[0,1,3,4,5,6,7,8,9,10,11,13,16,17,18,19,20,21,22,23,25,26]
abbrev oZ(u:Nat):List Nat:=if u=23 then[6]else if u=25 then[24]else[]
def FE(I:am z)(h:u∈cj\/u=2\/u=24):∃r,z.a[u]?=some r/\fC (oZ u) r:=by
 have k:∀u∈2::24::cj,∃r,da[u]?=some r/\fC (oZ u) r:=by
  unfold cj;simp only[iG,dU,mw,mx,my];refine⟨?_,?_,?_,?_,?_,?_,?_,?_,?_,?_,?_,?_,?_,?_,?_,?_,?_,?_,?_,?_,?_,?_,?_,?_⟩ <;>refine⟨_,rfl,?_⟩
  all_goals first |exact .j _ |exact .p _ _ |exact .d _ _ |exact .h _ _ |exact .n _ _ _ _ |exact .m _ _ _ _ |exact .o |exact .a 6 |exact .a 24 |exact .g 0
 obtain⟨r,a,b⟩:=k u (by rcases h with h |h |h <;>simp[h]);exact⟨r,I.at a,b⟩
abbrev lL(t:Nat)(l:List Nat):List Nat:=t::6::(l++if 25∈l then[24]else[])
abbrev lM(t:Nat)(l:List Nat)(u:Nat):List Nat:=if 2<=l.length/\u=t then l else oZ u
def lN:∀{l:List Nat},l.Nodup->(∀x∈l,x∈cj)->l.length<=29:=λu h=>jw 29 u λx H=>by
 have:∀x∈cj,x < 29:=by decide
 exact this x (h x H)
def vd(h:x∈lL t l):x=t\/x=6\/x∈l\/(x=24/\25∈l):=by
 unfold lL at h;rcases bH.mp h with h |h
 .exact .inl h
 .rcases bH.mp h with h |h
  .exact .inr (.inl h)
  .rcases aZ.mp h with h |h
   .exact .inr (.inr (.inl h))
   .split at h
    .rename_i m;rw[aB]at h;exact .inr (.inr (.inr ⟨h,m⟩))
    .cases h
def FG(I:am z)(h:aO z t l)(o:∀x∈l,x∈cj):vc z (lL t l) (lM t l):=by
 have Y:=lN h.f o;have g:∀u k,k∈oZ u->(u=23/\k=6)\/(u=25/\k=24):=λu k U=>by
  unfold oZ at U
  split at U
  .rename_i e;rw[aB]at U;exact .inl ⟨e,U⟩
  .split at U
   .rename_i e;rw[aB]at U;exact .inr ⟨e,U⟩
   .cases U
 have f:(l=[]/\t=2)\/l=[t]\/(2<=l.length/\z.a[t]?=some (dt l)/\t∉l/\t≠6/\t≠24):=by
  rcases h.c with e |e |⟨a,b⟩
  .exact .inl e
  .exact .inr (.inl e)
  .refine .inr (.inr ⟨a,b,λq=>?_,λq=>?_,λq=>?_⟩)
   .obtain⟨_,r,N,J⟩:=h.d t q
    rw[b]at N;cases N;obtain⟨k,rest,e,U⟩:=J.head;unfold dt at e;cases e;exact U rfl
   .subst q;rw[I.at (t:=6) rfl]at b;cases b
   .subst q;rw[I.at (t:=24) rfl]at b;cases b
 refine⟨λu c=>?_,λu c k U=>?_,?_,λu c=>?_⟩
 .unfold lM
  by_cases T:2<=l.length/\u=t
  .rw[ah T]
   rcases f with⟨e,_⟩ |e |⟨_,e,_⟩
   .rw[e]at T;simp at T
   .rw[e]at T;simp at T
   .rw[T.2];exact⟨_,e,.c l ("~PKqYpRW6m>" Y)⟩
  .rw[ab T]
   refine FE I ?_;rcases vd c with e |e |e |⟨e,_⟩
   .subst e
    rcases f with⟨_,e⟩ |e |⟨e,_⟩
    .exact .inr (.inl e)
    .exact .inl (o u (by rw[e];simp))
    .exact absurd ⟨e,rfl⟩ T
   .subst e;exact .inl (by decide)
   .exact .inl (o u e)
   .exact .inr (.inr e)
 .unfold lM at U
  unfold lL
  split at U
  .exact b5 _ (b5 _ (dy _ U))
  .rename_i T
   rcases g u k U with⟨e1,w⟩ |⟨e1,w⟩
   .subst w;simp
   .subst w
    have m:25∈l:=by
     subst e1;rcases vd c with e |e |e |⟨e,_⟩
     .subst e
      rcases f with⟨_,e⟩ |e |⟨e,_⟩
      .cases e
      .rw[e];simp
      .exact absurd ⟨e,rfl⟩ T
     .cases e
     .exact e
     .cases e
    rw[ah m];simp
 .unfold lL
  simp only[bI,b_]
  split
  .simp;exact "~?pz^fPCq9smCpZO_61" Y
  .simp;exact "~CjhzYQInN?oHNS|^" Y
 .unfold lM oZ
  split
  .exact "~KM1p7|qs>4kx" Y
  .split
   .decide
   .split <;>decide
def FH:(∀u∈U,(kd u).length < 500)->jz kd S U<=U.length*500:=by
 induction U with
 |nil=>
  intro _;exact bb _
 |cons u U ih=>
  intro h;have h1:=ih λx H=>h x (b5 _ H);have h2:=h u br;rw[rV];simp only[bI]
  split <;>lia
def Rn(c:vc z U kd)(hz:z.a.length < 4194304)(f:t∈U)(q:∀L' S,L <+:L'->FC U kd [t] S->Q (.r (aa (bw S))) (st z L')):ar (ai (n+5) 17 [.o 2,.j t] (st z L)) Q:=by
 refine az (ρ:=[some (.o 2),some (.j t),none,none,none]) rfl ?_;refine bY ?_;refine bY ?_;have e1:(L++[O.b]++[.a [.j t]])[L.length]?=some (dI []):=aC bk bp;have w:(L++[O.b]++[.a [.j t]])[(L++[O.b]).length]?=some (.a (aa [t])):=bk;have Y:L <+:L++[O.b]++[.a [.j t]]:=bp.trans bp;have l1:(L++[O.b]).length=L.length+1:=by simp
 rw[l1]at w ⊢;generalize L++[O.b]++[.a [.j t]]=L1 at e1 w Y;have j:oj=1000000:=rfl;show hX (λρ k σ=>bK (ai (n+4)) (.d 3) ρ (λx σ=>et σ x λt=>k t σ) σ) (λρ k σ=>aM (ai (n+4)) FD ρ k σ) oj [some (.o 2),some (.j t),some (.o (L.length+14)),some (.o (L.length+1+14)),none] _ (st z L1);have T:=FH (S:=[]) (U:=U) c.b;have N:=c.c;refine Rl (L0:=L) c hz ("~7y5QJo18>" id) (av _) ("~2ht<WbGf" id) (by simp only[bI,dG];exact "~H95NS?3Ra4dpv2^bBonFH4fTVgn3l" j T N) (av _) Y e1 w iF (λx H=>nomatch H) (λx H=>by rw[aB]at H;subst H;exact f) (λx H=>nomatch H) λL2 S o p2 h2 g=>?_;have y:S.length < 4194304:=fK (jw z.a.length g.b λx H=>by
  obtain⟨r,J,_⟩:=c.a x (g.a x H);exact(bW.mp J).1) hz
 have a:b1 .c (.o (L.length+14)) (st z L2)=some (.r (aa (bw S)),st z L2):=by
  exact Fd (i:=L.length+14) h2 y
 refine aP a ?_;exact q L2 S p2 g
def Ro{g:Nat->Bool}{ρ:ba}:∀{L:List O} {out:List V} {K:St->Prop},L[j]?=some (.a out)->out.length+ps.length < 4194304->
  (∀p∈ps,∀L (Q:Bool->St->Prop),(∀L',L <+:L'->Q (g p) (st z L'))->fh C conds (ρ.set sl (some (.j p))) Q (st z L))->
  (∀p∈ps,g p=true->∀L (Q:V->St->Prop),(∀L',L <+:L'->Q (f p) (st z L'))->bK C e (ρ.set sl (some (.j p))) Q (st z L))->
  (∀L',L'[j]?=some (.a (out++(ps.filter g).map f))->(∀i o,i≠j->L[i]?=some o->L'[i]?=some o)->L.length<=L'.length->K (st z L'))->
  eu (λx k σ=>fh C conds (ρ.set sl (some x)) (λb σ=>fg b (bK C e (ρ.set sl (some x)) (λv σ=>bm (cm .a (.o (j+14)) [v] σ) λG σ=>k σ) σ) (k σ)) σ) none (aa ps) K (st z L):=by
 induction ps with
 |nil=>
  intro L out K ho Y N J q;refine(q L ?_ (λi o G h=>h) (av _):_);rw[Kj,qs,b9];exact ho
 |cons p ps ih=>
  intro L out K ho Y N J q;simp only[bI]at Y;show fh C conds (ρ.set sl (some (.j p))) _ (st z L);refine N p br L _ λL1 T=>?_;rw[jg]at q;generalize H:g p=E
  induction E using aS with
  |false=>
   rw[H]at q;refine ih (aC ho T) ("~68TW_IaZws61|" Y) (λU a=>N U (b5 _ a)) (λU a=>J U (b5 _ a)) λL' h1 h2 h3=>q L' h1 (λi o hi h=>h2 i o hi (aC h T)) (aL T.length_le h3)
  |true=>
   rw[H]at q;refine J p br H L1 _ λL2 u=>?_;have r:=T.trans u;refine eb (aC ho r) ("~1f<c=y4WPi=D" Y) ?_;refine ih (aT (aC ho r)) (by simp only[b_,bI,dG];exact "~4ENzm8VZBFXcdnB=y" Y) (λU a=>N U (b5 _ a)) (λU a=>J U (b5 _ a)) λL' h1 h2 h3=>q L' ?_ (λi o hi h=>h2 i o hi (bz (aC h r) (Ne.symm hi))) ?_
   .rw[c6]at h1;exact h1
   .rw[jc]at h3;exact aL r.length_le h3
def y8{g:Nat->Bool}{ρ:ba}(Y:ps.length < 4194304)
  (U:∀p∈ps,∀L (Q:Bool->St->Prop),(∀L',L <+:L'->Q (g p) (st z L'))->fh C conds (ρ.set sl (some (.j p))) Q (st z L))
  (J:∀p∈ps,g p=true->∀L (Q:V->St->Prop),(∀L',L <+:L'->Q (f p) (st z L'))->bK C e (ρ.set sl (some (.j p))) Q (st z L))
  (q:∀L',L <+:L'->K (.r ((ps.filter g).map f)) (st z L')):
  bm (gj (.a []) (st z L)) λr σ=>eu (λx k σ=>fh C conds (ρ.set sl (some x)) (λb σ=>fg b (bK C e (ρ.set sl (some x)) (λv σ=>bm (cm .a r [v] σ) λH σ=>k σ) σ) (k σ)) σ) none (aa ps) (λσ=>bm (hO r σ) K) σ:=by
 refine bY ?_;refine Ro (g:=g) (f:=f) (out:=[]) (j:=L.length) bk (by simpa using Y) U J λL1 h1 h2 h3=>?_;rw[dh]at h1;refine f0 h1 (q _ ?_);exact bE (rU (λi o hi h=>h2 i o hi (aC h bp)) (aL bp.length_le h3) (av _)) (av _)
theorem FJ:∀ps:List Nat,qV σ (ps.map λJ=>V.p [])=some false
 |[]=>rfl|p::ps=>bg (x:=iN σ (.p [])) (a:=false) (dr (show 0 < bs from bP rfl)) (dX (FJ ps))
theorem FK:∀l:List Nat,qU (aa l)=some (l.map λ(k:Nat)=>(k:Int))
 |[]=>rfl|x::l=>by
  show(qU (aa l)).map _=_;rw[FK l];rfl
def Rp{v:V}{l:List V}(N:bt σ v=some (true,l))(Y:l.length < 4194304)(h:qV σ l=some b):b1 .e v σ=some (.w b,σ):=by
 show(bt σ v).bind _=_;rw[N];exact dW ⟨rfl,Y⟩ (dX h)
def FL(h:bt σ v=some (true,aa S))(Y:S.length < 4194304):b1 .c v σ=some (.r (aa (bw S)),σ):=by
 have hi:mJ σ v=some (S.map λ(k:Nat)=>(k:Int)):=by
  unfold mJ;rw[h];exact(dr rfl).trans (FK S)
 show(mJ σ v).bind _=_;rw[hi];refine dW (by rw[bX];exact Y) ?_;rw[yZ,qk];rfl
def Rq(Y:l.length < 4194304):b1 .c (.r (aa l)) σ=some (.r (aa (bw l)),σ):=by
 exact FL (S:=l) rfl Y
def y9{l:List V}(Y:l.length < 4194304):b1 .b (.r l) σ=some (.p l,σ):=by
 exact yS rfl Y
abbrev dZ(l:List Nat):List Nat:=if 25∈l then[0]else[]
def ve(I:am z)(hz:z.a.length < 4194304)(h:aO z t l)(o:∀x∈l,x∈cj)(q:∀L',L <+:L'->Q (.p (aa (dZ l))) (st z L')):ar (ai (n+6) 18 [.o 2,.j t] (st z L)) Q:=by
 have c:=FG I h o;have Rr:t∈lL t l:=br;refine az (ρ:=[some (.o 2),some (.j t),none,none,none,none,none,none,none]) rfl ?_;refine Rn c hz Rr λL1 S p1 dY=>?_;have G:∀x∈bw S,x∈lL t l:=λx H=>dY.a x (m7.mp H);have y:(bw S).length < 4194304:=by
  rw[oU];exact fK (jw z.a.length dY.b λx H=>by obtain⟨r,hr,_⟩:=c.a x (dY.a x H);exact(bW.mp hr).1) hz
 have f4:(bw S).Nodup:=yU dY.b;have A:24∈bw S↔25∈l:=by
  rw[m7];refine⟨λq=>?_,λq=>?_⟩
  .rcases vd (dY.a 24 q)with e |e |e |⟨_,e⟩
   .subst e
    rcases h.c with⟨_,e⟩ |e |⟨_,e⟩
    .cases e
    .exact absurd (o 24 (by rw[e];simp)) (by decide)
    .rw[I.at (t:=24) rfl]at e;cases e
   .cases e
   .exact absurd (o 24 e) (by decide)
   .exact e
  .have ht:=dY.d t (by simp)
   rcases h.c with⟨e,_⟩ |e |⟨a,b⟩
   .rw[e]at q;cases q
   .rw[e,aB]at q
    subst q;refine dY.c 25 ht 24 ?_;unfold lM;rw[ab (by rw[e];simp)];decide
   .have m:25∈S:=dY.c t ht 25 (by unfold lM;rw[ah ⟨a,rfl⟩];exact q)
    refine dY.c 25 m 24 ?_;unfold lM;rewrite (occs:=.all) [ab λe=>?_]
    .decide
    .rw[<-e.2]at b;rw[I.at (t:=25) rfl]at b;cases b
 have u:∀x∈bw S,∃r,z.a[x]?=some r/\((x=24/\r=[.j 10,.j 0])\/(x≠24/\∃k rest,r=.j k::rest/\k≠10)):=λx H=>by
  by_cases e:x=24
  .subst e;exact⟨_,I.at rfl,.inl ⟨rfl,rfl⟩⟩
  .obtain⟨r,hr,U⟩:=c.a x (G x H)
   refine⟨r,hr,.inr ⟨e,?_⟩⟩;generalize lM t l x=kk at U
   induction U with
   |g k=>
    exfalso;rcases vd (G x H)with q |q |q |⟨q,_⟩
    .subst q
     rcases h.c with⟨_,e⟩ |e' |⟨_,e'⟩
     .subst e;rw[jy I]at hr;cases hr
     .have j:=o x (by rw[e'];simp)
      have key:∀x∈cj,∀k,da[x]?≠some (eM k):=by
       unfold cj;simp only[iG,dU,mw,mx,my];refine⟨?_,?_,?_,?_,?_,?_,?_,?_,?_,?_,?_,?_,?_,?_,?_,?_,?_,?_,?_,?_,?_,?_⟩ <;>intro k e <;>cases e
      obtain⟨r',v,_⟩:=FE I (.inl j);have T:∃r,da[x]?=some r:=⟨_,iD (show x < da.length from(by decide:∀x∈cj,x < 29) x j)⟩;obtain⟨r2,T⟩:=T;rw[I.at T]at hr;cases hr;exact key x j k T
     .rw[e']at hr;cases hr
    .subst q;rw[I.at (t:=6) rfl]at hr;cases hr
    .have key:∀x∈cj,∀k,da[x]?≠some (eM k):=by
      unfold cj;simp only[iG,dU,mw,mx,my];refine⟨?_,?_,?_,?_,?_,?_,?_,?_,?_,?_,?_,?_,?_,?_,?_,?_,?_,?_,?_,?_,?_,?_⟩ <;>intro k e <;>cases e
     have j:=o x q;obtain⟨r2,T⟩:∃r,da[x]?=some r:=⟨_,iD (show x < da.length from(by decide:∀x∈cj,x < 29) x j)⟩;rw[I.at T]at hr;cases hr;exact key x j k T
    .exact e q
   |_=>exact⟨_,_,rfl,by decide⟩
 have N:∀L',lm (.r (aa (bw S))) (st z L')=some ((none,aa (bw S)),st z L'):=λL'=>(hZ (L:=L') y).a _ (aA _);refine ag (N _) ?_;refine y8 (g:=λC=>true) (f:=λC=>.p []) (conds:=[]) (ρ:=[some (.o 2),some (.j t),some (.r (aa (bw S))),none,none,none,none,none,none]) (sl:=7) y (λp J L' Q' B=>B L' (aA _)) (λp J C L' Q' B=>?_) λL2 p2=>?_
 .obtain⟨r,hr,U⟩:=c.a p (G p J)
  refine ag (co hz hr) ?_;exact Fy (n:=n+4) U (B L' (aA _))
 .have Rt:b1 .e (.r (((bw S).filter λC=>true).map λC=>V.p [])) (st z L2)=some (.w false,st z L2):=by
   have Ru:(((bw S).filter λC=>true).map λC=>V.p []).length < bs:=by
    rw[bX];exact fK (jR _ _) y
   exact Rp rfl Ru (FJ _)
  refine aP Rt ?_;refine ag (N _) ?_;refine y8 (g:=λx=>x==24) (f:=λC=>.j 0) (conds:=[.n .a (.h (.h (.q (.d 0) 18) (.d 8)) (.g 0)) (.p 10)]) (ρ:=[some (.o 2),some (.j t),some (.r (aa (bw S))),none,none,none,none,none,none]) (sl:=8) y (λp J L' Q' B=>?_) (λp J hg L' Q' B=>?_) λE p3=>?_
  .obtain⟨r,hr,U⟩:=u p J
   refine ag (co hz hr) ?_;rcases U with⟨e,w⟩ |⟨e,k,rest,w,U⟩
   .subst w;subst e
    exact B L' (aA _)
   .subst w
    have:=B L' (aA _);rw[cB.mpr e]at this;exact bF (vF U) this
  .obtain⟨r,hr,U⟩:=u p J
   rcases U with⟨e,w⟩ |⟨e,_⟩
   ·
    refine ag (co hz hr) ?_;subst w;exact B L' (aA _)
   .exact absurd (aH.mp hg) e
  .have Y:((bw S).filter λx=>x==24).map (λC=>V.j 0)=aa (dZ l):=by
    unfold dZ;by_cases m:25∈l
    .rw[ah m]
     have hm:=A.mpr m;have:(bw S).filter (λx=>x==24)=[24]:=by
      refine m8 (u3.filter _) (by simp) (f4.filter _) (by simp) λx=>?_;rw[c7,aB,aH];exact⟨λh=>h.2,λh=>by subst h;exact⟨hm,rfl⟩⟩
     rw[this];rfl
    .rw[ab m]
     have:(bw S).filter (λx=>x==24)=[]:=xh.mpr λx H e=>by
      rw[aH]at e;subst e;exact m (A.mp H)
     rw[this];rfl
   rw[Y];have kw:(dZ l).length < 4194304:=by unfold dZ;split <;>decide
   refine aP (Rq kw) ?_;have hs:bw (dZ l)=dZ l:=by unfold dZ;split <;>rfl
   rw[hs];refine aP (y9 (by rw[cI];exact kw)) ?_;exact q E (p1.trans (p2.trans p3))
end
section
variable{C:CT}{z:Z}{L:List O}{n t s i:Nat}{Q:V->St->Prop}{l ls lt:List Nat}{σ:St}
abbrev y':List CS:=[.g 4 (.w .d (.d 3) []),.h (.D [.n .f (.d 4) (.g 0),.n .b (.d 4) (.d 2)]) [.u] [],.n (.d 2) (.d 4) (.g 1),.g 5 (.h (.q (.d 0) 18) (.d 4)),
 .g 6 (.D [.n .b (.h (.d 5) (.g 0)) (.M (.p [.j 14,.j 15,.j 16,.j 17,.j 18,.j 19])),.z [.n .a (.h (.d 5) (.g 0)) (.p 12),.j 28 [.d 0,.d 4]]]),
 .h (.z [.d 6,.n .e (.x .a (.j 18 [.d 0,.d 4])) (.g 0)]) [.j] [],.k (.w .b (.d 3) [.j 14 [.d 5]])]
def Rv(c:vc z U kd)(hz:z.a.length < 4194304)(m:i≠j)(Rw:L0.length<=i)(T:L0.length<=j):∀{W S:List Nat} {L:List O} {A o2 g:Option V},W.length+jz kd S U < f->f<=1000000->L0 <+:L->
  L[i]?=some (dI S)->L[j]?=some (.a (aa W))->S.Nodup->(∀x∈S,x∈U)->(∀x∈W,x∈U)->
  (∀L' A o2 g,L0 <+:L'->K .a [some (.o 2),a,some (.o (i+14)),some (.o (j+14)),A,o2,g] (st z L'))->
  hX (λρ k σ=>bK (ai (n+3)) (.n .e (.x .a (.d 3)) (.g 0)) ρ (λx σ=>et σ x λt=>k t σ) σ) (λρ k σ=>aM (ai (n+3)) y' ρ k σ) f [some (.o 2),a,some (.o (i+14)),some (.o (j+14)),A,o2,g] K (st z L):=by
 induction f with
 |zero=>
  intro W S L A o2 g hf _ _ _ _ _ _ _ _;exact absurd hf (B' _)
 |succ f ih=>
  intro W S L A o2 g hf p Y hi hj u hS hW q;have Rx:W.length < 4194304:= "~=PgQYChJbs>nUJZ4MVX7" p hf;have y:b1 .a (.o (j+14)) (st z L)=some (.j W.length,st z L):=by
   have:=rK (yT (z:=z) hj) (by rw[cI];exact Rx);rw[cI]at this;exact this
  show bm (b1 .a (.o (j+14)) (st z L)) _;refine aP y ?_;rcases List.eq_nil_or_concat W with e |⟨J,w,e⟩
  .subst e
   exact q L A o2 g Y
  .rw[List.concat_eq_append]at e
   subst e;have G:decide ((0:Int) < ((J++[w]).length:Nat))=true:=b4 (by simp only[b_,bI,dG];exact "~6x?|u7^9qJBa^" id);simp only[b_,bI,dG]at hf;have N:=hW w (by simp);obtain⟨r,hr,o⟩:=c.a w N;refine bT G ?_;refine ag (ec .d hj (.inr (.inr rfl))) ?_;refine FA hj ("~7DZJWyB3ZMavwKv?Dw9o9Fqc;7" p hf) ?_;have gu:(L.set j (.a (aa J)))[i]?=some (dI S):=bz hi (Ne.symm m);have v:(L.set j (.a (aa J)))[j]?=some (.a (aa J)):=aT hj;have p1:L0 <+:L.set j (.a (aa J)):=bE Y T;generalize L.set j (.a (aa J))=L1 at gu v p1;refine ag (kt gu) ?_;by_cases hm:w∈S
   .rw[b4 (dD.mpr hm)]
    exact ih ("~17ts6d9n17Q6|juz" hf) ("~?t<a<SpUFV=h5FkTRp" p) p1 gu v u hS (λx H=>hW x (by simp[H])) q
   .rw[cc λe=>hm (dD.mp e)]
    have I:S.length < 4194304:=fK (jw z.a.length u λx H=>by
     obtain⟨r,hr,_⟩:=c.a x (hS x H);exact(bW.mp hr).1) hz
    refine m6 gu (rQ I) rR ?_;have nh:(L1.set i (dI (dd S [w])))[i]?=some (dI (dd S [w])):=aT gu;have B:(L1.set i (dI (dd S [w])))[j]?=some (.a (aa J)):=bz v m;have p2:L0 <+:L1.set i (dI (dd S [w])):=bE p1 Rw;generalize L1.set i (dI (dd S [w]))=L2 at nh B p2;refine ag (co hz hr) ?_;have y6:=c.b w N;have y7:=y4 (kd:=kd) (S:=S) (S':=dd S [w]) (w:=w) (λx H=>fo.mpr (.inl H)) hm (fo.mpr (.inr (by simp))) N;have key:∀(A g:Option V),bK (ai (n+3)) (.w .b (.d 3) [.j 14 [.d 5]]) [some (.o 2),a,some (.o (i+14)),some (.o (j+14)),A,some (.p r),g] (λQ σ=>hX (λρ k σ=>bK (ai (n+3)) (.n .e (.x .a (.d 3)) (.g 0)) ρ (λx σ=>et σ x λt=>k t σ) σ) (λρ k σ=>aM (ai (n+3)) y' ρ k σ) f [some (.o 2),a,some (.o (i+14)),some (.o (j+14)),A,some (.p r),g] K σ) (st z L2):=by
     intro A g;refine ag (ec .b B (.inr (.inl rfl))) ?_;refine Fx o λE p3=>?_;refine y5 (aC B p3) ("~1<B1JeKgBr8zhGtQ8g1bfOHh_DidWcg" p hf y6) ?_;refine ih (by simp only[b_];exact "~2r18h2aExfQl_^Eibxrut" y7 hf) ("~?t<a<SpUFV=h5FkTRp" p) (bE (p2.trans p3) T) (bz (aC nh p3) (Ne.symm m)) (aT (aC B p3)) (m9 u) (λx H=>?_) (λx H=>?_) q
     .rcases fo.mp H with h |h
      .exact hS x h
      .rw[aB]at h;subst h;exact N
     .rcases aZ.mp H with h |h
      .exact hW x (by simp[h])
      .exact c.d w N x h
    generalize kd w=ks at o
    induction o <;>exact key _ _
def FM(I:am z)(hz:z.a.length < 4194304)(h:aO z t l)(o:∀x∈l,x∈cj)(q:∀L',L <+:L'->Q (.w false) (st z L')):ar (ai (n+4) 32 [.o 2,.j t] (st z L)) Q:=by
 have c:=FG I h o;refine az (ρ:=[some (.o 2),some (.j t),none,none,none,none,none]) rfl ?_;refine bY ?_;refine bY ?_;have e1:(L++[O.b]++[.a [.j t]])[L.length]?=some (dI []):=aC bk bp;have w:(L++[O.b]++[.a [.j t]])[(L++[O.b]).length]?=some (.a (aa [t])):=bk;have Y:L <+:L++[O.b]++[.a [.j t]]:=bp.trans bp;have l1:(L++[O.b]).length=L.length+1:=by simp
 rw[l1]at w ⊢;generalize L++[O.b]++[.a [.j t]]=L1 at e1 w Y;have j:oj=1000000:=rfl;show hX (λρ k σ=>bK (ai (n+3)) (.n .e (.x .a (.d 3)) (.g 0)) ρ (λx σ=>et σ x λt=>k t σ) σ) (λρ k σ=>aM (ai (n+3)) y' ρ k σ) oj [some (.o 2),some (.j t),some (.o (L.length+14)),some (.o (L.length+1+14)),none,none,none] _ (st z L1);have T:=FH (S:=[]) (U:=lL t l) c.b;have N:=c.c;refine Rv (L0:=L) c hz ("~7y5QJo18>" id) (av _) ("~2ht<WbGf" id) (by simp only[bI,dG];exact "~H95NS?3Ra4dpv2^bBonFH4fTVgn3l" j T N) (av _) Y e1 w iF (λx H=>nomatch H) (λx H=>by rw[aB]at H;subst H;exact br) λL2 A J g p2=>?_;exact q L2 p2
end
section
variable{C:CT}{z:Z}{L:List O}{n t s i:Nat}{Q:V->St->Prop}{l ls lt:List Nat}{σ:St}
def ig(h:L[i]?=some (aI m)):b1 .a (.o (i+14)) (st z L)=some (.j (if m.isSome then 1 else 0),st z L):=by
 obtain⟨es,J,Y⟩:=Fv m;refine(ER (oT (z:=z) h (by induction m <;>rfl)) (lH h) J Y).trans ?_
 induction m <;>(cases J;rfl)
def Ry{k:Nat}(h:L[i]?=some (aI (some (p,v)))):cm .c (.o (i+14)) [.j k,.j t] (st z L)=some (.j (if p=k then v else t:Nat),st z L):=by
 refine(yQ (σ:=st z L) (r:=cT (k:Int) [((p:Int),V.j v)]) h rfl).trans ?_;rw[xD];by_cases e:p=k
 .rw[ah ("~6Y2BDWIX1Z?" e),ah e];rfl
 .rw[ab ("~1_Ou3jsFT<tJ" e),ab e];rfl
def Rz(h:L[i]?=some (aI m)):gH .c (.o (i+14)) (st z L)=some ((),st z L):=by
 exact yR (σ:=st z L) h (by induction m <;>rfl)
inductive ky:List V->Prop
 |a s:ky [.j 1,.u s]
 |j (b f:Int):ky [.j 2,.j b,.j f]
 |c s (f:Int):ky [.j 3,.u s,.j f]
 |d (i f:Int):ky [.j 4,.j i,.j f]
 |h (e:Int) nm (i f:Int):ky [.j 5,.j e,.u nm,.j i,.j f]
 |g (e:Int) nm s (f:Int):ky [.j 5,.j e,.u nm,.u s,.j f]
def FO(h:L[i]?=some (aI none))(q:Q (.j t) (st z L)):ar (ai (n+1) 26 [.o 10,.j t,.o (i+14)] (st z L)) Q:=by
 refine az (ρ:=[some (.o 10),some (.j t),some (.o (i+14)),none]) rfl ?_;refine aP (ig h) ?_;exact q
def lO{v:Nat}(hz:z.a.length < 4194304)(h:L[i]?=some (aI (some (p,v))))(U:z.a[t]?=some r)(Y:ky r)(q:Q (.j t) (st z L)):ar (ai (n+2) 26 [.o 10,.j t,.o (i+14)] (st z L)) Q:=by
 refine az (ρ:=[some (.o 10),some (.j t),some (.o (i+14)),none]) rfl ?_;refine aP (ig h) ?_;refine ag (co hz U) ?_
 induction Y <;>
  (refine az (ρ:=[some (.o 10),some (.j t),some (.p _),some (.o (i+14)),none]) rfl ?_
   exact q)
def vf{k:Nat}(hz:z.a.length < 4194304)(h:L[i]?=some (aI (some (p,v))))(Y:z.a[t]?=some (eM k))(q:Q (.j (if p=k then v else t:Nat)) (st z L)):ar (ai (n+1) 26 [.o 10,.j t,.o (i+14)] (st z L)) Q:=by
 refine az (ρ:=[some (.o 10),some (.j t),some (.o (i+14)),none]) rfl ?_;refine aP (ig h) ?_;refine ag (co hz Y) ?_;refine ag (Rz h) ?_;refine aP (Ry h) ?_;exact q
def vg(q:∀L',L <+:L'->Q (.p []) (st z L')):ar (ai (n+1) 21 [.o 10,.p [],m] (st z L)) Q:=by
 refine az (ρ:=[some (.o 10),some (.p []),some m,none]) rfl ?_;refine bY ?_;refine f0 bk ?_;refine aP (a:=.p []) rfl ?_;exact q _ (bE bp (av _))
def vi(q:Q (.p []) σ):ar (ai (n+1) 22 [.o 10,.p [],m] σ) Q:=by
 refine az (ρ:=[some (.o 10),some (.p []),some m]) rfl ?_;exact q
def y_(I:am z)(hz:z.a.length < 4194304)(h:L[i]?=some (aI (some (p,v))))(q:∀L',L <+:L'->Q (.j 11) (st z L')):ar (ai (n+3) 26 [.o 10,.j 11,.o (i+14)] (st z L)) Q:=by
 have c:=I.at (t:=11) (r:=[.j 8,.p [],.p [],.p [],.p [],.p [],.j 0]) rfl;refine az (ρ:=[some (.o 10),some (.j 11),some (.o (i+14)),none]) rfl ?_;refine aP (ig h) ?_;refine ag (co hz c) ?_;refine az (ρ:=[some (.o 10),some (.p [.j 8,.p [],.p [],.p [],.p [],.p [],.j 0]),some (.o (i+14)),none,none,none,none,none]) rfl ?_;refine bY ?_;refine f0 bk ?_;refine aP (a:=.p []) rfl ?_;refine vg (n:=n) λL1 p1=>?_;refine vg (n:=n) λL2 p2=>?_;refine vi (n:=n) ?_;refine vi (n:=n) ?_;exact kr (n:=n) I rfl hz c (q L2 ((bE bp (av _)).trans (p1.trans p2)))
def rW{k':Nat}{R:Z->Nat->Prop}(hz:z.a.length < 4194304)(Y:z.a[t]?=some (dQ k))(h:L[i]?=some (aI (some (p,v))))
  (U:∀L' (Q:V->St->Prop),L <+:L'->(∀f,L' <+:f->Q (.j k') (st z f))->ar (ai (n+2) 26 [.o 10,.j k,.o (i+14)] (st z L')) Q)
  (J:∀L' (K:V->St->Prop),(∀z' (w:Nat),R z' w->K (.j w) (st z' L'))->ar (ai (n+2) 76 [.o 2,.p (dQ k')] (st z L')) K)
  (q:∀z' (w:Nat) L',R z' w->L <+:L'->Q (.j w) (st z' L')):ar (ai (n+4) 26 [.o 10,.j t,.o (i+14)] (st z L)) Q:=by
 refine az (ρ:=[some (.o 10),some (.j t),some (.o (i+14)),none]) rfl ?_;refine aP (ig h) ?_;refine ag (co hz Y) ?_;refine az (ρ:=[some (.o 10),some (.p (dQ k)),some (.o (i+14)),none,none,none,none,none]) rfl ?_;refine bY ?_;refine U _ _ bp λL1 p1=>?_;have h1:L1[L.length]?=some (.a []):=aC bk p1;refine eb h1 (by decide) ?_;refine f0 (aT h1) ?_;refine aP (a:=.p [.p [.u "p",.j k',.j 0,.j 0]]) rfl ?_;have p2:L <+:(L1.set L.length (O.a ([]++[V.p [V.u "p",V.j k',V.j 0,V.j 0]]))).set L.length .d:=bE (bE (bp.trans p1) (av _)) (av _);generalize u:(L1.set L.length (O.a ([]++[V.p [V.u "p",V.j k',V.j 0,V.j 0]]))).set L.length .d=L2 at p2;refine vg (n:=n+1) λE N=>?_;refine vg (n:=n+1) λm T=>?_;refine vi (n:=n+1) ?_;refine vi (n:=n+1) ?_;exact J m _ λz' w r=>q z' w m r (p2.trans (N.trans T))
abbrev aD:List Nat:=cj++[27,28]
abbrev gw(pid v p:Nat):Nat:=if p=26+pid then v else p
def ni(I:am z)(h:p∈aD):∃r,z.a[p]?=some r/\(ky r\/p=11\/p=23\/p=25\/(p=27/\r=eM 1)\/(p=28/\r=eM 2)):=by
 have k:∀p∈aD,∃r,da[p]?=some r/\(ky r\/p=11\/p=23\/p=25\/(p=27/\r=eM 1)\/(p=28/\r=eM 2)):=by
  unfold aD cj;simp only[List.cons_append,dh,iG,dU,mw,mx,my];refine⟨?_,?_,?_,?_,?_,?_,?_,?_,?_,?_,?_,?_,?_,?_,?_,?_,?_,?_,?_,?_,?_,?_,?_,?_⟩ <;>refine⟨_,rfl,?_⟩
  all_goals first |exact .inl (.a _) |exact .inl (.j _ _) |exact .inl (.c _ _) |exact .inl (.d _ _) |exact .inl (.h _ _ _ _) |exact .inl (.g _ _ _ _) |(refine .inr ?_;simp[eM])
 obtain⟨r,a,b⟩:=k p h;exact⟨r,I.at a,b⟩
def jA(I:am z):z.a[23]?=some (dQ 6):=I.at rfl
def lP(I:am z):z.a[25]?=some (dQ 24):=I.at rfl
def FP(I:am z):z.a[24]?=some (eM 0):=I.at rfl
def za(I:am z)(hz:z.a.length < 4194304)(G:pid=1\/pid=2)(h:L[i]?=some (aI (some (pid,v))))(J:p∈aD)(q:∀L',L <+:L'->Q (.j (gw pid v p)) (st z L')):
  ar (ai (n+4) 26 [.o 10,.j p,.o (i+14)] (st z L)) Q:=by
 obtain⟨r,Y,hk⟩:=ni I J;unfold gw at q;rcases hk with hk |hk |hk |hk |⟨hk,e⟩ |⟨hk,e⟩
 .refine lO (n:=n+2) hz h Y hk ?_
  have:p≠26+pid:=λe=>by
   rcases G with e' |e' <;>subst e' <;>subst e
   .rw[I.at (t:=27) (r:=[.j 10,.j 1]) rfl]at Y;cases Y;cases hk
   .rw[I.at (t:=28) (r:=[.j 10,.j 2]) rfl]at Y;cases Y;cases hk
  rw[ab this]at q;exact q L (aA _)
 .subst hk
  rw[ab ("~JF3<B7FAE^<E" id)]at q;exact y_ (n:=n+1) I hz h q
 .subst hk
  rw[ab ("~1DpGY4uY<dY;ZC" id)]at q;exact rW (n:=n) (k':=6) (R:=λz' w=>z'=z/\w=23) hz (jA I) h (λL' K p k=>lO (n:=n) hz (aC h p) (I.at (t:=6) rfl) (.a _) (k L' (aA _)))
   (λL' K k=>kr (n:=n+1) I rfl hz (jA I) (k z 23 ⟨rfl,rfl⟩)) (λz' w L' r E=>by obtain⟨rfl,rfl⟩:=r;exact q L' E)
 .subst hk
  rw[ab ("~1DpGY4uY<zwL4h" id)]at q;refine rW (n:=n) (k':=24) (R:=λz' w=>z'=z/\w=25) hz (lP I) h (λL' K p k=>vf (n:=n+1) hz (aC h p) (FP I) ?_)
   (λL' K k=>kr (n:=n+1) I rfl hz (lP I) (k z 25 ⟨rfl,rfl⟩)) (λz' w L' r E=>by obtain⟨rfl,rfl⟩:=r;exact q L' E)
  rw[ab ("~17ZDAYMPsoBck7zE" G)];exact k L' (aA _)
 .subst e;subst hk
  refine vf (n:=n+3) hz h Y ?_;have e:(if pid=1 then v else 27)=if 27=26+pid then v else 27:=by
   rcases G with e |e <;>subst e <;>rfl
  rw[e];exact q L (aA _)
 .subst e;subst hk
  refine vf (n:=n+3) hz h Y ?_;have e:(if pid=2 then v else 28)=if 28=26+pid then v else 28:=by
   rcases G with e |e <;>subst e <;>rfl
  rw[e];exact q L (aA _)
def FQ(I:am z)(room:z.sz+1 < 4194304)(h:L[i]?=some (aI (some (0,v))))(J:p∈cj)
  (q:∀z' (U:Nat) L',Gr 1 z z'->L <+:L'->((p≠25/\U=p)\/(p=25/\z'.a[U]?=some (dQ v)))->Q (.j U) (st z' L')):ar (ai (n+4) 26 [.o 10,.j p,.o (i+14)] (st z L)) Q:=by
 have hz:=Z.bZ room;obtain⟨r,Y,hk⟩:=ni I (p:=p) (dy _ J);have g0:Gr 1 z z:=(Gr.refl I).mono (bb _);rcases hk with hk |hk |hk |hk |⟨hk,e⟩ |⟨hk,e⟩
 .refine lO (n:=n+2) hz h Y hk (q z p L g0 (aA _) (.inl ⟨λe=>?_,rfl⟩))
  subst e;rw[lP I]at Y;cases Y;cases hk
 .subst hk;exact y_ (n:=n+1) I hz h λL' p=>q z 11 L' g0 p (.inl ⟨by decide,rfl⟩)
 .subst hk
  exact rW (n:=n) (k':=6) (R:=λz' w=>z'=z/\w=23) hz (jA I) h (λL' K p k=>lO (n:=n) hz (aC h p) (I.at (t:=6) rfl) (.a _) (k L' (aA _)))
   (λL' K k=>kr (n:=n+1) I rfl hz (jA I) (k z 23 ⟨rfl,rfl⟩)) (λz' w L' r E=>by obtain⟨rfl,rfl⟩:=r;exact q _ 23 L' g0 E (.inl ⟨by decide,rfl⟩))
 .subst hk
  refine rW (n:=n) (k':=v) (R:=λz' w=>Gr 1 z z'/\z'.a[w]?=some (dQ v)) hz (lP I) h (λL' K p k=>vf (n:=n+1) hz (aC h p) (FP I) ?_)
   (λL' K k=>ju (n:=n+1) I rfl (.inl (.g v)) room λz' w g e=>k z' w ⟨g,e⟩) (λz' w L' r E=>q z' w L' r.1 E (.inr ⟨rfl,r.2⟩))
  rw[ah rfl];exact k L' (aA _)
 .subst hk;exact absurd J (by decide)
 .subst hk;exact absurd J (by decide)
end
abbrev rX:List V->List Nat
 |[]=>[]|.j i::r=>i.toNat::rX r|_::r=>rX r
abbrev bi(T:List (List V))(r:Nat):List Nat:=if r=2 then[]else match T[r]? with |some [.j 6,.p l]=>rX l |_=>[r]
theorem zb:∀l:List Nat,rX (aa l)=l
 |[]=>rfl|x::l=>by show((x:Int).toNat)::rX (aa l)=_;rw[zb l];rfl
def du.parts(h:T[r]?=some i)(p:du w b i)(h2:r≠2):bi T r=[r]:=by
 unfold bi;rw[ab h2,h]
 induction p <;>rfl
def aO.bi(I:am z)(h:aO z r l):bi z.a r=l:=by
 rcases oY I h with⟨i,C,J,h2⟩ |⟨C,h2,h3⟩
 .rcases h2 with⟨e,w⟩ |⟨e,w⟩
  .subst e;rw[w];rfl
  .rw[w];exact J.parts C e
 .unfold Mine.Lake.bi;rw[ab h3,C];exact zb l
abbrev f9(R:Nat->Nat->Prop):List Nat->List Nat->Prop
 |[],[]=>True|p::ps,r::rs=>R p r/\f9 R ps rs|_,_=>False
theorem vj(h:∀p r,R p r->R' p r):∀{ps rs:List Nat},f9 R ps rs->f9 R' ps rs
 |[],[],_=>trivial|p::ps,r::rs,a=>⟨h p r a.1,vj h a.2⟩|[],_::_,a=>a.elim|_::_,[],a=>a.elim
theorem o6:∀{ps rs:List Nat},f9 R ps rs->rs.length=ps.length
 |[],[],_=>rfl|p::ps,r::rs,a=>aE (·+1) (o6 a.2)
 |[],_::_,a=>a.elim|_::_,[],a=>a.elim
theorem rY:∀{ps rs:List Nat},f9 R ps rs->∀r∈rs,∃p∈ps,R p r
 |[],[],_,r,h=>nomatch h|p::ps,r::rs,a,x,h=>by
  rcases bH.mp h with e |e
  .subst e;exact⟨p,br,a.1⟩
  .obtain⟨q,L,C⟩:=rY a.2 x e;exact⟨q,b5 _ L,C⟩
 |[],_::_,a,_,_=>a.elim|_::_,[],a,_,_=>a.elim
theorem FS:∀{ps rs:List Nat},f9 R ps rs->∀p∈ps,∃r∈rs,R p r
 |[],[],_,r,h=>nomatch h|p::ps,r::rs,a,x,h=>by
  rcases bH.mp h with e |e
  .subst e;exact⟨r,br,a.1⟩
  .obtain⟨q,L,C⟩:=FS a.2 x e;exact⟨q,b5 _ L,C⟩
 |[],_::_,a,_,_=>a.elim|_::_,[],a,_,_=>a.elim
abbrev d7(c:Nat->Nat):List Nat->Nat
 |[]=>0|p::ps=>c p+d7 c ps
section
variable{C:CT}{z:Z}{L:List O}{n t s i:Nat}{Q:V->St->Prop}{l ls lt:List Nat}{σ:St}
def RA{R:Z->Nat->Nat->Prop}(m:∀c z z' p r,R z p r->Gr c z z'->R z' p r){ρ:ba}:∀{z:Z} {L:List O} {out:List Nat} {K:St->Prop},am z->Lo <+:L->Lo.length<=j->L[j]?=some (.a (aa out))->out.length+ps.length < 4194304->z.sz+d7 c ps<=B->
  (∀p∈ps,∀u L1 (Q:V->St->Prop),am u->u.sz+c p<=B->(∃d,Gr d z u)->Lo <+:L1->(∀z2 (r:Nat) L2,Gr (c p) u z2->L1 <+:L2->R z2 p r->Q (.j r) (st z2 L2))->bK C e (ρ.set sl (some (.j p))) Q (st u L1))->
  (∀z' L' rs,Gr (d7 c ps) z z'->Lo <+:L'->L'[j]?=some (.a (aa (out++rs)))->f9 (R z') ps rs->K (st z' L'))->
  eu (λx k σ=>fh C [] (ρ.set sl (some x)) (λb σ=>fg b (bK C e (ρ.set sl (some x)) (λv σ=>bm (cm .a (.o (j+14)) [v] σ) λ_ σ=>k σ) σ) (k σ)) σ) none (aa ps) K (st z L):=by
 induction ps with
 |nil=>
  intro z L out K I E f ho Y o J q;refine(q z L [] (Gr.refl I) E ?_ trivial:_);rw[b9];exact ho
 |cons p ps ih=>
  intro z L out K I E f ho Y o J q;simp only[bI]at Y;have T:z.sz+(c p+d7 c ps)<=B:=o;show bK C e (ρ.set sl (some (.j p))) _ (st z L);refine J p br z L _ I ("~78v;cMOUIWi" T) ⟨0,Gr.refl I⟩ E λz2 r L2 g p2 A=>?_;refine eb (aC ho p2) (by rw[cI];exact "~1f<c=y4WPi=D" Y) ?_;rw[show aa out++[V.j (r:Int)]=aa (out++[r])by rw[ic];rfl];have N:=g.f;refine ih g.e (bE (E.trans p2) f) f (aT (aC ho p2)) (by simp only[b_,bI,dG];exact "~4ENzm8VZBFXcdnB=y" Y) ("~4t32eH8XQ4HFQAA" T N) (λU a u L1 Q y b1 d1 l1 q1=>J U (b5 _ a) u L1 Q y b1 (let ⟨d,gd⟩:=d1;⟨_,g.trans gd⟩) l1 q1) λz' L' rs H w h G=>q z' L' (r::rs) (g.trans H) w ?_ ⟨m _ _ _ _ _ A H,G⟩;rw[c6]at h;exact h
def FT{R:Z->Nat->Nat->Prop}(m:∀c z z' p r,R z p r->Gr c z z'->R z' p r)(I:am z){ps:List Nat}(Y:ps.length < 4194304)(o:z.sz+d7 c ps<=B)
  (J:∀p∈ps,∀u L1 (Q:V->St->Prop),am u->u.sz+c p<=B->(∃d,Gr d z u)->L <+:L1->(∀z2 (r:Nat) L2,Gr (c p) u z2->L1 <+:L2->R z2 p r->Q (.j r) (st z2 L2))->ar (ai n 26 [.o 10,.j p,.o (i+14)] (st u L1)) Q)
  (q:∀z' L' rs,Gr (d7 c ps) z z'->L <+:L'->f9 (R z') ps rs->Q (.p (aa rs)) (st z' L')):ar (ai (n+1) 21 [.o 10,.p (aa ps),.o (i+14)] (st z L)) Q:=by
 refine az (ρ:=[some (.o 10),some (.p (aa ps)),some (.o (i+14)),none]) rfl ?_;refine ag ((ng (z:=z) (L:=L) Y).a _ (aA _)) ?_;refine bY ?_;refine RA (Lo:=L) (out:=[]) (c:=c) (B:=B) (j:=L.length) (ρ:=[some (.o 10),some (.p (aa ps)),some (.o (i+14)),none]) (sl:=3) (e:=.j 26 [.d 0,.d 3,.d 2]) m I bp (av _) bk (by simpa using Y) o (λp v u L1 U y b1 N l1 f=>?_) λz' L' rs g E ho G=>?_
 .exact J p v u L1 U y b1 N l1 f
 .rw[dh]at ho
  refine f0 ho ?_;have T:=o6 G;refine aP (y9 (by rw[cI,T];exact Y)) ?_;exact q z' _ rs g (bE E (av _)) G
def zc{R:Z->Nat->Nat->Prop}(H:∀c z z' p r,R z p r->Gr c z z'->R z' p r)(I:am z)(k:B < 4194303)(hm:L[i]?=some (aI (some (Y,v))))(h:aO z t l)(h2:2<=l.length)(o:z.sz+d7 c l<=B)
  (J:∀p∈l,∀u L1 (Q:V->St->Prop),am u->u.sz+c p<=B->(∃d,Gr d z u)->L <+:L1->(∀z2 (r:Nat) L2,Gr (c p) u z2->L1 <+:L2->R z2 p r->Q (.j r) (st z2 L2))->ar (ai (n+2) 26 [.o 10,.j p,.o (i+14)] (st u L1)) Q)
  (A:∀z p r,am z->R z p r->aO z r (bi z.a r)) (m:∀z' rs,Gr (d7 c l) z z'->f9 (R z') l rs->(ae (rs.flatMap (bi z'.a))).length<=400)
  (q:∀z' dC (r:Nat) L' rs,Gr (d7 c l) z z'->Gr 1 z' dC->L <+:L'->f9 (R z') l rs->aO dC r (ae (rs.flatMap (bi z'.a)))->Q (.j r) (st dC L')):ar (ai (n+4) 26 [.o 10,.j t,.o (i+14)] (st z L)) Q:=by
 have hz:z.a.length < 4194304:=Z.bZ (c:=0) ("~?uFih;E7f8rk7pISv>" o k);have U:z.a[t]?=some (dt l):=by
  rcases h.c with⟨e,_⟩ |e |⟨_,e⟩
  .rw[e]at h2;simp at h2
  .rw[e]at h2;simp at h2
  .exact e
 refine az (ρ:=[some (.o 10),some (.j t),some (.o (i+14)),none]) rfl ?_;refine aP (ig hm) ?_;refine ag (co hz U) ?_;refine FT H I (ku h.f h.d hz) o J λz' L' rs g E G=>?_;have N:=g.f;have y:z'.a.length < 4194304:=Z.bZ (c:=0) ("~;MrxF1F>7An<h<MD5QHkri" o N k);have T:=o6 G;refine u8 (n:=n) (F:=bi z'.a) g.e ("~;MrxF1F>7An<h<MD5aUK_y" o N k) (ng (by rw[T];exact ku h.f h.d hz)) (λr U=>?_) (m z' rs g G) λdC r f g' w j=>?_
 .obtain⟨p,_,a⟩:=rY G r U
  exact A z' p r g.e a
 .exact q z' dC r f rs g g' (E.trans w) G j
end
abbrev cd(l:List Nat):Prop:=0∉l/\13∉l/\1∉l
abbrev FU(S A:List Nat):Bool:=(S.map rg).all (dR (A.map rg))
def lQ(h:cd S):ae S=(sd S).filter λt=>!aY S t:=by unfold ae;rw[ab h.1,ab h.2.1,ab h.2.2]
def fD(h:cd S):x∈ae S↔x∈S/\aY S x=false:=by
 rw[lQ h,c7,iW];simp
def kz(x:Nat):wh x=2\/wh x=6\/wh x=7:=by unfold wh;split;(exact .inr (.inl rfl));split;(exact .inr (.inr rfl));(exact .inl rfl)
def zd(x:Nat):wh (wh x)=2:=by rcases kz x with h |h |h <;>rw[h] <;>rfl
def FV(x:Nat):wh (rg x)=wh x:=by unfold rg;split;(rename_i h;subst h;rfl);rfl
def FW(x:Nat)(H:wh x≠2):aY S (wh x)=false:=by
 unfold aY;rw[zd];have:(wh x==26)=false:=by rcases kz x with h |h |h <;>rw[h] <;>rfl
 rw[this];rfl
def ii(h:aY S x=true):(wh x≠2/\wh x∈S)\/(x=26/\16∈S):=by
 unfold aY at h;rw[tK,mu,mu,bj,bj,aH]at h;exact h.imp (λh=>⟨by simpa using h.1,h.2⟩) id
def o8(h:cd S)(H:wh x≠2)(hm:wh x∈S):wh x∈ae S:=(fD h).mpr ⟨hm,FW x H⟩
abbrev vk(i X:List Nat):Prop:=(∀x∈i,x∈X)/\∀x∈X,x∈i\/(wh x≠2/\wh x∈i)
def RB(p:Nat)(h:vh p≠2):wh (vh p)=wh p:=by
 unfold vh at h ⊢
 split at h
 .rename_i e;rcases e with e |e <;>subst e <;>rfl
 .split at h
  .rename_i e;subst e;rfl
  .exact absurd rfl h
def rZ:dR A p=true↔p∈A\/(wh p≠2/\wh p∈A)\/(vh p≠2/\vh p∈A)\/(p=4/\3∈A):=by
 unfold dR;simp only[tK,mu,bj,bne_iff_ne,aH,or_assoc]
def o9(h:a=true↔b=true):a=b:=by induction a <;>induction b <;>simp_all
def vl(h:vk i X)(p:Nat):dR i p=dR X p:=by
 refine o9 ?_;rw[rZ,rZ];refine⟨λq=>?_,λq=>?_⟩
 .rcases q with q |⟨a,q⟩ |⟨a,q⟩ |⟨a,q⟩
  .exact .inl (h.1 _ q)
  .exact .inr (.inl ⟨a,h.1 _ q⟩)
  .exact .inr (.inr (.inl ⟨a,h.1 _ q⟩))
  .exact .inr (.inr (.inr ⟨a,h.1 _ q⟩))
 .rcases q with q |⟨a,q⟩ |⟨a,q⟩ |⟨a,q⟩
  .exact(h.2 _ q).imp id .inl
  .rcases h.2 _ q with r |⟨r,_⟩
   .exact .inr (.inl ⟨a,r⟩)
   .exact absurd (zd p) r
  .rcases h.2 _ q with r |⟨r,g⟩
   .exact .inr (.inr (.inl ⟨a,r⟩))
   .rw[RB p a]at r g;exact .inr (.inl ⟨r,g⟩)
  .rcases h.2 _ q with r |⟨r,_⟩
   .exact .inr (.inr (.inr ⟨a,r⟩))
   .exact absurd rfl r
def ze(h:cd X)(u:26∉X):vk (ae X) X:=by
 refine⟨λx H=>ct H,λx H=>?_⟩;generalize Y:aY X x=E
 induction E using aS with
 |false=>exact .inl ((fD h).mpr ⟨H,Y⟩)|true=>
  rcases ii Y with⟨a,b⟩ |⟨a,_⟩
  .exact .inr ⟨a,o8 h a b⟩
  .subst a;exact absurd H u
def FX(h:x≠26):rg x=x:=by unfold rg;rw[ab h]
def zf(h:cd A):vk ((ae A).map rg) (A.map rg):=by
 refine⟨λx H=>?_,λx H=>?_⟩
 .obtain⟨a,G,e⟩:=ea.mp H;exact ea.mpr ⟨a,ct G,e⟩
 .have key:∀a,a∈A->wh a≠2->wh a∈A->wh a∈(ae A).map rg:=λa G h1 h2=>by
   refine ea.mpr ⟨wh a,o8 h h1 h2,FX ?_⟩;rcases kz a with e |e |e <;>rw[e] <;>decide
  obtain⟨a,G,e⟩:=ea.mp H;subst e;generalize Y:aY A a=E
  induction E using aS with
  |false=>exact .inl (ea.mpr ⟨a,(fD h).mpr ⟨G,Y⟩,rfl⟩)|true=>
   rcases ii Y with⟨h1,h2⟩ |⟨h1,h2⟩
   .exact .inr ⟨by rw[FV];exact h1,by rw[FV];exact key a G h1 h2⟩
   .subst h1
    generalize C:aY A 16=E
    induction E using aS with
    |false=>exact .inl (ea.mpr ⟨16,(fD h).mpr ⟨h2,C⟩,rfl⟩)|true=>
     rcases ii C with⟨h3,h4⟩ |⟨h3,_⟩
     .exact .inr ⟨h3,key 16 h2 h3 h4⟩
     .cases h3
def zg{A:List Nat}:26∉A.map rg:=λh=>by
 obtain⟨a,_,e⟩:=ea.mp h;unfold rg at e;split at e <;>lia
def zi(h:cd A):cd (A.map rg):=by
 have k:∀x∈[0,13,1],x∉A->x∉A.map rg:=λx H u q=>by
  obtain⟨a,G,e⟩:=ea.mp q;unfold rg at e;split at e
  .subst e;revert H;decide
  .subst e;exact u G
 exact⟨k 0 (by decide) h.1,k 13 (by decide) h.2.1,k 1 (by decide) h.2.2⟩
def r9(h:cd A):cd (ae A):=⟨λq=>h.1 (ct q),λq=>h.2.1 (ct q),λq=>h.2.2 (ct q)⟩
def RC(h:wh x≠2)(q:dR A (wh x)=true):dR A x=true:=by
 rw[rZ]at q ⊢;have B:vh (wh x)=2:=by rcases kz x with e |e |e <;>rw[e] <;>rfl
 have h4:wh x≠4:=by rcases kz x with e |e |e <;>rw[e] <;>decide
 rcases q with q |⟨a,_⟩ |⟨a,_⟩ |⟨a,_⟩
 .exact .inr (.inl ⟨h,q⟩)
 .exact absurd (zd x) a
 .exact absurd B a
 .exact absurd a h4
def FY(h:vk i X):i.all (dR A)=X.all (dR A):=by
 refine o9 ?_;rw[ek,ek];refine⟨λq x H=>?_,λq x H=>q x (h.1 x H)⟩;rcases h.2 x H with r |⟨r,g⟩
 .exact q x r
 .exact RC r (q _ g)
def FZ{S:List Nat}(G:cd S)(j:cd A):iY (ae S) (ae A)=FU S A:=by
 unfold iY FU oX;have e1:dR (ae ((ae A).map rg))=dR (A.map rg):=funext λp=>by
  rw[vl (ze (zi (r9 j)) zg),vl (zf j)]
 rw[e1,FY (ze (zi (r9 G)) zg),FY (zf G)]
def F0{τ:Nat}(a:τ=0\/τ=1\/τ=13)(j:cd A):iY [τ] (ae A)=FU [τ] A:=by
 unfold iY FU oX;have e1:dR (ae ((ae A).map rg))=dR (A.map rg):=funext λp=>by
  rw[vl (ze (zi (r9 j)) zg),vl (zf j)]
 have w:[τ].map rg=[τ]:=by rcases a with e |e |e <;>subst e <;>rfl
 rw[e1,w,cW]
abbrev sw(e p:Nat):Nat:=if p=25 then e else p
def F5(N:∀x∈ls,x < 29)(Q:∀x∈lt,x < 29)(h1:29<=e1)(h2:29<=w)(h:25∈ls->25∈lt->e1=w):FU (ls.map (sw e1)) (lt.map (sw w))=FU ls lt:=by
 unfold FU;rw[qk,List.all_map,List.all_map];refine o9 ?_;have g:∀x,x < 29->rg x < 29:=λx H=>by unfold rg;split <;>lia
 have c:∀x,29<=x->rg x=x:=λx H=>FX ("~5t||BPAwdf>D9" H);have mem:∀q,q < 29->q≠25->(q∈(lt.map (sw w)).map rg↔q∈lt.map rg):=λq L m=>by
  rw[qk,ea,ea];refine⟨λ⟨a,G,e⟩=>?_,λ⟨a,G,e⟩=>?_⟩
  .simp only[qe]at e
   unfold sw at e;split at e
   .rw[c w h2]at e;lia
   .exact⟨a,G,e⟩
  .refine⟨a,G,?_⟩
   have:a≠25:=λe'=>by subst e';exact m e.symm
   simp only[qe];unfold sw;rw[ab this];exact e
 have pw:∀p∈ls,dR ((lt.map (sw w)).map rg) (rg (sw e1 p))=dR (lt.map rg) (rg p):=λp J=>by
  refine o9 ?_;rw[rZ,rZ];by_cases m:p=25
  .subst m
   have e:sw e1 25=e1:=rfl;have i:rg 25=25:=rfl;rw[e,c e1 h1,i];have A:wh e1=2:=by unfold wh;rw[ab (by simp;exact "~fE25Ym=XVXF0z?LyANcY1QMHjQUe=rtm>qNp" h1),ab (by simp;exact "~fE25Ym=XVXF0we9xQcqZ;zt4Gv;UpDVBRknY" h1)]
   have B:vh e1=2:=by unfold vh;rw[ab ("~=MUCX1U|5Ujxy?7z8lIj" h1),ab ("~5t||BPAmP;7UU" h1)]
   have k:wh 25=2:=rfl;have f:vh 25=2:=rfl;rw[A,B,k,f];have T:e1∈(lt.map (sw w)).map rg↔25∈lt:=by
    rw[qk,ea];refine⟨λ⟨a,G,e⟩=>?_,λq=>⟨25,q,?_⟩⟩
    .simp only[qe]at e
     unfold sw at e;split at e
     .rename_i h';subst h';exact G
     .have:=g a (Q a G);lia
    .simp only[qe]
     show rg (sw w 25)=e1;rw[h J q];exact c w h2
   have I:25∈lt.map rg↔25∈lt:=by
    rw[ea];refine⟨λ⟨a,G,e⟩=>?_,λq=>⟨25,q,rfl⟩⟩;unfold rg at e;split at e
    .cases e
    .subst e;exact G
   rw[T,I];have:e1≠4:= "~72rkUVnf|nA" h1;simp[this]
  .have e:sw e1 p=p:=by unfold sw;rw[ab m]
   rw[e];have U:=g p (N p J);have Y:rg p≠25:=by unfold rg;split <;>lia
   have w1:∀q,wh q < 29/\wh q≠25:=λq=>by rcases kz q with e |e |e <;>rw[e] <;>decide
   have v1:vh (rg p) < 29/\vh (rg p)≠25:=by unfold vh;split;(decide);(split <;>decide)
   rw[mem _ U Y,mem _ (w1 _).1 (w1 _).2,mem _ v1.1 v1.2,mem 3 (by decide) (by decide)]
 rw[ek,ek];exact⟨λq p J=>by have:=q p J;simp only[qe]at this ⊢;rw[<-pw p J];exact this,λq p J=>by have:=q p J;simp only[qe]at this ⊢;rw[pw p J];exact this⟩
def vm{l:List Nat}(h:25∉l):l.map (sw e)=l:=by
 rw[xf (g:=id) λx H=>by unfold sw;rw[ab λq=>h (by rw[<-q];exact H)];rfl,List.map_id]
def r_(h:cd l)(J:29<=e):cd (l.map (sw e)):=by
 have k:∀x,x < 29->x≠25->x∉l->x∉l.map (sw e):=λx h1 h2 u q=>by
  obtain⟨a,G,e'⟩:=ea.mp q;unfold sw at e';split at e'
  .lia
  .subst e';exact u G
 exact⟨k 0 (by decide) (by decide) h.1,k 13 (by decide) (by decide) h.2.1,k 1 (by decide) (by decide) h.2.2⟩
def se(h:ae l=l):cd l\/∃τ,(τ=0\/τ=1\/τ=13)/\l=[τ]:=by
 by_cases h0:0∈l
 .refine .inr ⟨0,.inl rfl,?_⟩
  rw[<-h];unfold ae;rw[ah h0]
 by_cases w:13∈l
 .refine .inr ⟨13,.inr (.inr rfl),?_⟩
  rw[<-h];unfold ae;rw[ab h0,ah w]
 by_cases h1:1∈l
 .refine .inr ⟨1,.inr (.inl rfl),?_⟩
  rw[<-h];unfold ae;rw[ab h0,ab w,ah h1]
 exact .inl ⟨h0,w,h1⟩
def F7{ls:List Nat}(rs:ae ls=ls)(o:cd lt)(c:ae lt=lt)(N:∀x∈ls,x < 29)(f:∀x∈lt,x < 29)(h1:29<=e1)(h2:29<=w)(h:25∈ls->25∈lt->e1=w):
  iY (ae (ls.map (sw e1))) (ae (lt.map (sw w)))=FU ls lt:=by
 rcases se rs with n |⟨τ,a,e⟩
 .rw[FZ (r_ n h1) (r_ o h2),F5 N f h1 h2 h]
 .subst e
  have:[τ].map (sw e1)=[τ]:=vm (by rcases a with e |e |e <;>subst e <;>decide);rw[this,cW,F0 a (r_ o h2)];have:=F5 (ls:=[τ]) (lt:=lt) N f h1 h2 h;rw[vm (by rcases a with e |e |e <;>subst e <;>decide)]at this;exact this
def F8(rs:ae ls=ls)(o:cd lt)(c:ae lt=lt):iY ls lt=FU ls lt:=by
 rcases se rs with n |⟨τ,a,e⟩
 .have:=FZ n o
  rw[rs,c]at this;exact this
 .subst e
  have:=F0 a o;rw[c]at this;exact this
section
variable{C:CT}{z:Z}{L:List O}{n t s i:Nat}{Q:V->St->Prop}{l ls lt:List Nat}{σ:St}
def vn:∀x∈cj,x < 29:=by decide
def zj(I:am z)(h6:v≠6)(A:v≠24)(h:z.a[e]?=some (dQ v)):29<=e/\b3 z e:=by
 have Y:29<=e:=by
  apply BQ;intro U;obtain⟨r,T⟩:∃r,da[e]?=some r:=⟨_,iD (show e < da.length from U)⟩;rw[I.at T]at h;cases h;have inj:∀k:Nat,dQ v=dQ k->v=k:=λk q=>
   Int.ofNat.inj (V.j.inj (jS (jS (V.p.inj (jS (V.p.inj (jS (jS q).2).1)).1)).2).1)
  have key:∀r∈da,r.head?=some (.j 8)->r.tail.head?=some (.p [])\/r=dQ 6\/r=dQ 24:=by decide
  rcases key _ (kV T) rfl with q |q |q
  .exact List.cons_ne_nil _ _ (V.p.inj (ay q))
  .exact h6 (inj 6 q)
  .exact A (inj 24 q)
 exact⟨Y,E9 I Y h λl q=>by unfold dQ dt at q;cases q⟩
def F9(u:l.Nodup):d7 (λp=>if p=25 then 1 else 0) l<=1:=by
 induction l with
 |nil=>exact bb _|cons p l ih=>
  have h2:=fL.mp u;show(if p=25 then 1 else 0)+d7 _ l<=1;by_cases e:p=25
  .subst e
   have:d7 (λp=>if p=25 then 1 else 0) l=0:=by
    clear ih u;have u:=h2.1;clear h2
    induction l with
    |nil=>rfl|cons q l ih=>
     show(if q=25 then 1 else 0)+d7 _ l=0;rw[bH,not_or]at u;have h1:(if q=25 then 1 else 0)=0:=ab (Ne.symm u.1);rw[ih u.2];show(if q=25 then 1 else 0)+0=0;rw[h1]
   rw[this];exact av _
  .have:=ih h2.2
   show(if p=25 then 1 else 0)+_<=1;rw[ab e];lia
theorem F':∀{ps rs:List Nat},f9 R ps rs->(∀p r,p∈ps->R p r->r=sw e p)->rs=ps.map (sw e)
 |[],[],_,_=>rfl|p::ps,r::rs,a,h=>by rw[h p r br a.1,F' a.2 λp r J=>h p r (b5 _ J)];rfl
 |[],_::_,a,_=>a.elim|_::_,[],a,_=>a.elim
def F_(I:am z)(room:z.sz+2 < 4194303)(h6:v≠6)(A:v≠24)(hm:L[i]?=some (aI (some (0,v))))(h:aO z t l)(o:∀x∈l,x∈cj)(m:25∈l)
  (q:∀z' (r e:Nat) L',Gr 2 z z'->L <+:L'->29<=e->z'.a[e]?=some (dQ v)->aO z' r (ae (l.map (sw e)))->Q (.j r) (st z' L')):ar (ai (n+6) 26 [.o 10,.j t,.o (i+14)] (st z L)) Q:=by
 rcases h.c with⟨e,_⟩ |e |⟨h2,_⟩
 .rw[e]at m;cases m
 .rw[e,aB]at m
  subst m;refine FQ (n:=n+2) I ("~C^PVwhmTvfq5;z|t" room) hm (by decide) λz' U L' g E j=>?_;rcases j with⟨a,_⟩ |⟨_,a⟩
  .exact absurd rfl a
  .obtain⟨b,c⟩:=zj g.e h6 A a
   refine q z' U U L' (g.mono (by decide)) E b a ?_;rw[e];show aO z' U (ae [U]);rw[cW];exact fp c
 .refine zc (n:=n+2) (R:=λz p r=>b3 z r/\((p≠25/\r=p)\/(p=25/\z.a[r]?=some (dQ v)))) (c:=λp=>if p=25 then 1 else 0) (B:=z.sz+2) (λc z z' p r hr g=>⟨hr.1.gr g.d,hr.2.imp id λh=>⟨h.1,cH g.d h.2⟩⟩) I room hm h h2 (by have:=F9 h.f;exact "~6zbbfRdxwK|" this)
   (λp J u L1 Q' y b1 d1 l1 f=>?_) (λz p r I hr=>by rw[hr.1.2.choose_spec.2.parts hr.1.2.choose_spec.1 hr.1.1];exact fp hr.1) (λz' rs g G=>?_) λz' dC r L' rs g g' E G j=>?_
  .obtain⟨d,gd⟩:=d1
   have RD:=(h.d p J).gr gd.d;by_cases e:p=25
   .rw[ah e]at b1
    refine FQ (n:=n) y ("~2LS20W6_7glCjkH4C5A8;x4" b1 room) (aC hm l1) (o p J) λz' U L' g E j=>f z' U L' (by rw[ah e];exact g) E ?_;rcases j with⟨a,_⟩ |⟨_,a⟩
    .exact absurd e a
    .exact⟨(zj g.e h6 A a).2,.inr ⟨e,a⟩⟩
   .rw[ab e]at b1
    have gM:u.a.length < 4194304:=Z.bZ (c:=0) ("~2LS20W6_7glCjiW4Wc1ALK=" b1 room);obtain⟨r,hr,hk⟩:=ni y (p:=p) (dy _ (o p J));have fin:∀L',L1 <+:L'->Q' (.j p) (st u L'):=λL' E=>f u p L' (by rw[ab e];exact Gr.refl y) E ⟨RD,.inl ⟨e,rfl⟩⟩;rcases hk with hk |hk |hk |hk |⟨hk,_⟩ |⟨hk,_⟩
    .exact lO (n:=n+2) gM (aC hm l1) hr hk (fin L1 (aA _))
    .subst hk;exact y_ (n:=n+1) y gM (aC hm l1) fin
    .subst hk
     exact rW (n:=n) (k':=6) (R:=λz' w=>z'=u/\w=23) gM (jA y) (aC hm l1) (λL' K p k=>lO (n:=n) gM (aC (aC hm l1) p) (y.at (t:=6) rfl) (.a _) (k L' (aA _)))
      (λL' K k=>kr (n:=n+1) y rfl gM (jA y) (k u 23 ⟨rfl,rfl⟩)) (λz' w L' r E=>by obtain⟨rfl,rfl⟩:=r;exact fin L' E)
    .exact absurd hk e
    .subst hk;exact absurd (o _ J) (by decide)
    .subst hk;exact absurd (o _ J) (by decide)
  .have Y:=lN h.f o
   have e:rs.flatMap (bi z'.a)=rs:=by
    have:∀r∈rs,bi z'.a r=[r]:=λr hr=>by
     obtain⟨p,_,J⟩:=rY G r hr;exact J.1.2.choose_spec.2.parts J.1.2.choose_spec.1 J.1.1
    clear G
    induction rs with
    |nil=>rfl|cons a rs ih=>rw[dJ,this a br,ih λr hr=>this r (b5 _ hr)];rfl
   have T:=o6 G;rw[e];exact aL (m_ ("~1_3VoT_Toqe6" T h2)) ("~13G|G|nyG5hJqtmL" T Y)
  .have N:=g.f
   obtain⟨e,he,Ga⟩:=FS G 25 m;have zk:z'.a[e]?=some (dQ v):=by
    rcases Ga.2 with⟨a,_⟩ |⟨_,a⟩
    .exact absurd rfl a
    .exact a
   have nj:rs=l.map (sw e):=F' G λp r J zl=>by
    rcases zl.2 with⟨a,b⟩ |⟨a,b⟩
    .unfold sw;rw[ab a];exact b
    .unfold sw;rw[ah a];exact u5 g.e.a b zk
   have e1:rs.flatMap (bi z'.a)=rs:=by
    have:∀r∈rs,bi z'.a r=[r]:=λr hr=>by
     obtain⟨p,_,J⟩:=rY G r hr;exact J.1.2.choose_spec.2.parts J.1.2.choose_spec.1 J.1.1
    clear G j nj he Ga
    induction rs with
    |nil=>rfl|cons a rs ih=>rw[dJ,this a br,ih λr hr=>this r (b5 _ hr)];rfl
   rw[e1,nj]at j;have H:=F9 h.f;exact q dC r e L' ((g.trans g').mono ("~PSJaIF60lE" H)) E (zj g.e h6 A zk).1 (cH g'.d zk) j
def RE{Q:Unit->St->Prop}(h:L[j]?=some .b)(q:Q () (st z (L.set j (aI (some (k,v)))))):bm (t8 (.o (j+14)) (.j k) (.j v) (st z L)) Q:=by
 exact aP (bg rfl (bg rfl (bg h rfl))) q
def Gb{l:List V}(Y:l.length < 4194304):b1 .a (.p l) σ=some (.j l.length,σ):=by
 exact rK rfl Y
def Gc(I:am z)(room:z.sz+2 < 4194303)(h:aO z t l)(H:ae l=l)(o:∀x∈l,x∈cj)
  (q:∀z' (r e:Nat) L',Gr 2 z z'->L <+:L'->29<=e->(25∈l->z'.a[e]?=some (dQ 13))->aO z' r (ae (l.map (sw e)))->Q (.j r) (st z' L')):ar (ai (n+8) 31 [.o 10,.j t,.j 13] (st z L)) Q:=by
 have hz:z.a.length < 4194304:=Z.bZ (c:=0) ("~C^PVwhmTvfpv|KBd" room);refine az (ρ:=[some (.o 10),some (.j t),some (.j 13),none,none]) rfl ?_;refine ve (n:=n+1) I hz h o λL1 p1=>?_;by_cases m:25∈l
 .unfold dZ;rw[ah m]
  refine aP (a:=.j 1) (σ:=st z L1) rfl ?_;refine bY ?_;refine RE (k:=0) (v:=13) bk ?_;refine az (f:=83) (ρ:=[some (.o 10),some (.j t),some (.o (L1.length+14))]) rfl ?_;refine F_ (n:=n) I room (by decide) (by decide) (aT bk) h o m λz' r e L' g E J A j=>?_;exact q z' r e L' g ((p1.trans (bE bp (av _))).trans E) J (λY=>A) j
 .unfold dZ;rw[ab m]
  refine aP (a:=.j 0) (σ:=st z L1) rfl ?_;refine q z t 29 L1 ((Gr.refl I).mono (by decide)) p1 (av _) (λq=>absurd q m) ?_;rw[vm m,H];exact h
end
section
variable{C:CT}{z:Z}{L:List O}{n t s i:Nat}{Q:V->St->Prop}{l ls lt:List Nat}{σ:St}
def RF(I:am z)(room:z.sz+3 < 4194304)(q:∀z' (k:Nat) L',Gr 2 z z'->L <+:L'->z'.a[k]?=some (eM z.d.length)->Q (.j k) (st z' L')):
  ar (ai (n+2) 1 [.o 2,.u "R",.j (-1),.j (-1)] (st z L)) Q:=by
 have T:z.d.length < 4194304:=by unfold Z.sz at room;exact "~1f<rp<2veuzo" room
 refine az (ρ:=[some (.o 2),some (.u "R"),some (.j (-1)),some (.j (-1)),none]) rfl ?_;have y:b1 .a (.o 5) (st z L)=some (.j z.d.length,st z L):=by
  show(if z.d.length < bs then some (V.j (z.d.length:Nat),st z L)else none)=_;rw[ah (show z.d.length < bs from T)]
 refine aP y ?_;have Y:cm .a (.o 5) [.j (-1)] (st z L)=some (.z,st {z with d:=z.d++[.j (-1)]} L):=by
  show(if z.d.length < bs then some (V.z,(st z L).set 5 (.a (z.d++[.j (-1)])))else none)=_;rw[ah (show z.d.length < bs from T)];rfl
 refine aP Y ?_;have B:cm .a (.o 6) [.j (-1)] (st {z with d:=z.d++[.j (-1)]} L)=some (.z,st {z with d:=z.d++[.j (-1)],f:=z.f++[.j (-1)]} L):=by
  show(if z.f.length < bs then some (V.z,(st {z with d:=z.d++[.j (-1)]} L).set 6 (.a (z.f++[.j (-1)])))else none)=_;rw[ah (show z.f.length < bs by rw[I.b.1];exact T)];rfl
 refine aP B ?_;have U:cm .a (.o 7) [.u "R"] (st {z with d:=z.d++[.j (-1)],f:=z.f++[.j (-1)]} L)=some (.z,st {z with d:=z.d++[.j (-1)],f:=z.f++[.j (-1)],g:=z.g++[.u "R"]} L):=by
  show(if z.g.length < bs then some (V.z,(st {z with d:=z.d++[.j (-1)],f:=z.f++[.j (-1)]} L).set 7 (.a (z.g++[.u "R"])))else none)=_;rw[ah (show z.g.length < bs by rw[I.b.2];exact T)];rfl
 refine aP U ?_;have w:am {z with d:=z.d++[.j (-1)],f:=z.f++[.j (-1)],g:=z.g++[.u "R"]}:=by
  refine⟨I.a,I.f,I.d,?_,?_,?_⟩
  .obtain⟨m,hm⟩:=I.e
   refine⟨m+1,?_⟩;show z.d++[.j (-1)]=_;rw[hm,List.cons_append,<-List.replicate_succ']
  .show(z.g++[V.u "R"])[0]?=_
   rw[n7 (bW.mp I.c).1];exact I.c
  .exact⟨by simp[I.b.1],by simp[I.b.2]⟩
 have N:Z.sz {z with d:=z.d++[.j (-1)],f:=z.f++[.j (-1)],g:=z.g++[.u "R"]}=z.sz+1:=by
  unfold Z.sz;simp only[b_,bI,dG];exact "~4wm44qHw6omISZX" id
 have A:Gr 1 z {z with d:=z.d++[.j (-1)],f:=z.f++[.j (-1)],g:=z.g++[.u "R"]}:=⟨w,aA _,gV N,by show z.d.length<=(z.d++[_]).length;simp,rfl,rfl,rfl,rfl⟩;refine ju (n:=n) (r:=eM z.d.length) w rfl (.inl (.f _)) ("~tFu<KOZcL0G^ahfAk" N room) λz' t g h=>?_;exact q z' t L (A.trans g) (aA _) h
abbrev o_(s:Option Nat):O:=aI (s.map λk=>(0,k))
def Gd{s:Option Nat}(I:am z)(room:z.sz+6 < 4194303)(hj:L[j]?=some (o_ s))(N:∀k,s=some k->∃m,z.a[k]?=some (eM (m+1)))(h:aO z t l)(H:ae l=l)(hc:∀x∈l,x∈cj)
  (q:∀z' (r e:Nat) L' s',Gr 4 z z'->(∀i o,i≠j->L[i]?=some o->L'[i]?=some o)->L.length<=L'.length->L'[j]?=some (o_ s')->(∀k,s=some k->s'=some k)->(∀k,s'=some k->∃m,z'.a[k]?=some (eM (m+1)))->29<=e->(25∈l->∃k,s'=some k/\z'.a[e]?=some (dQ k))->aO z' r (ae (l.map (sw e)))->Q (.j r) (st z' L')):
  ar (ai (n+8) 34 [.o 10,.j t,.o (j+14)] (st z L)) Q:=by
 have hz:z.a.length < 4194304:=Z.bZ (c:=0) ("~C^PVwhtcuUa4r2WE" room);refine az (ρ:=[some (.o 10),some (.j t),some (.o (j+14)),none,none,none]) rfl ?_;refine bY ?_;refine ve (n:=n+1) I hz h hc λL1 p1=>?_;have kB:L1[j]?=some (o_ s):=aC hj (bp.trans p1);have U:L1[L.length]?=some .b:=aC bk p1;have i0:j < L.length:=(bW.mp hj).1;have kw:L.length < L1.length:=(bW.mp U).1;by_cases sf:25∈l
 .unfold dZ;rw[ah sf]
  have T:di (.o 5) (.j 0) (st z L1)=some (.j 6,st z L1):=by
   obtain⟨m,hm⟩:=I.e;refine gn (b:=true) (l:=z.d) (t:=0) rfl ?_ (by rw[hm];rfl);unfold Z.sz at room;exact "~18i2GX8Azkg4PPCF" room
  conv=>whnf
  refine ag T ?_;have fin:∀(z2:Z) (k:Nat) L2,Gr 2 z z2->(∀i o,i≠j->L1[i]?=some o->L2[i]?=some o)->L1.length<=L2.length->L2[j]?=some (o_ (some k))->(∀k',s=some k'->k=k')->(∃m,z2.a[k]?=some (eM (m+1)))->
    aM (ai (n+7)) [.n (.d 4) (.d 5) (.h (.d 2) (.d 5))] [some (.o 10),some (.j t),some (.o (j+14)),some (.o 2),some (.o (L.length+14)),some (.j 0)]
     (ut (λρ σ=>aM (ai (n+7)) [.d (.C (.n .a (.x .a (.d 4)) (.g 0)) (.d 1) (.y (.d 0) 6 [.d 1,.d 4]))] ρ (dB Q) σ) (λf ρ σ=>match f with |.a=>aM (ai (n+7)) [.d (.C (.n .a (.x .a (.d 4)) (.g 0)) (.d 1) (.y (.d 0) 6 [.d 1,.d 4]))] ρ (dB Q) σ |f=>dB Q f ρ σ)) (st z2 L2):=by
   intro z2 k L2 g2 w i2 B RG sg;have RH:=g2.f;have i3:L2[L.length]?=some .b:=w _ _ ("~2GzJy?1k" i0) U;have yC:di (.o (j+14)) (.j 0) (st z2 L2)=some (.j k,st z2 L2):=rL (oT B rfl) (lH B) rfl;refine ag yC ?_;have Y:mI .b (.j 0) (.j k)=some (aI (some (0,k))):=rfl;refine m6 i3 Y rfl ?_;have p:(L2.set L.length (aI (some (0,k))))[L.length]?=some (aI (some (0,k))):=aT i3;have sh:(L2.set L.length (aI (some (0,k))))[j]?=some (o_ (some k)):=bz B ("~2GzJy?1k" i0);have j5:∀i o,i≠j->L[i]?=some o->(L2.set L.length (aI (some (0,k))))[i]?=some o:=λi o hi ho=>by
    have:i < L.length:=(bW.mp ho).1;exact bz (w i o hi (aC ho (bp.trans p1))) ("~2GzJy?1k" this)
   have si:L1.length<=(L2.set L.length (aI (some (0,k)))).length:=by rw[jc];exact i2
   generalize L2.set L.length (aI (some (0,k)))=L3 at p sh j5 si;refine aP (ig p) ?_;refine az (f:=83) (ρ:=[some (.o 10),some (.j t),some (.o (L.length+14))]) rfl ?_;obtain⟨m,a⟩:=sg;have zm:k≠6:=λe=>by subst e;rw[g2.e.at (t:=6) rfl]at a;cases a
   have RI:k≠24:=λe=>by
    subst e;rw[g2.e.at (t:=24) rfl]at a;unfold eM at a;have:=ay a;simp only[J2,V.j.injEq]at this;lia
   refine F_ (n:=n) (v:=k) g2.e ("~1^;|dS0Zxd3zazUPzV7vX6KUN" RH room) zm RI p (h.gr g2.d) hc sf λz' r e L' g E J A hh=>?_;exact q z' r e L' (some k) (g2.trans g) (λi o hi ho=>aC (j5 i o hi ho) E) (aL (jQ kw) (aL si E.length_le)) (aC sh E) (λk' e=>by rw[RG k' e]) (λk' e=>by cases e;exact⟨m,cH g.d a⟩) J (λC=>⟨k,rfl,A⟩) hh
  induction s using aX with
  |none=>
   have zn:dc .d (.j 0) (.o (j+14)) (st z L1)=some (.w true,st z L1):=yX (G:=[]) kB;refine ag zn ?_;have RJ:di (.o 7) (.j 0) (st z L1)=some (.u "R",st z L1):=by
    refine gn (b:=true) (l:=z.g) (t:=0) rfl ?_ I.c;rw[I.b.2];unfold Z.sz at room;exact "~18i2GX8Azkg4PPCF" room
   refine ag RJ ?_;refine RF (n:=n+5) I ("~C^PVwhtcuUaXLslz" room) λz2 k L2 g2 u sg=>?_;have B:L2[j]?=some .b:=aC kB u;have Y:mI .b (.j 0) (.j k)=some (o_ (some k)):=rfl;refine m6 B Y rfl ?_;obtain⟨m,hm⟩:=I.e;refine fin z2 k _ g2 (λi o hi ho=>bz (aC ho u) (Ne.symm hi)) (by rw[jc];exact u.length_le) (aT B) (λk' e=>nomatch e) ⟨m+2,?_⟩;rw[sg,hm];simp
  |some k=>
   have zn:dc .d (.j 0) (.o (j+14)) (st z L1)=some (.w false,st z L1):=ET (r:=some (.j k)) rfl (oT kB rfl) (lH kB) rfl;refine ag zn ?_;exact fin z k L1 ((Gr.refl I).mono (by decide)) (λi o C ho=>ho) (av _) kB (λk' e=>by cases e;rfl) (N k rfl)
 .unfold dZ;rw[ab sf]
  have y:b1 .a (.o (L.length+14)) (st z L1)=some (.j 0,st z L1):=ER (oT U rfl) (lH U) rfl (bP rfl);refine aP y ?_;refine q z t 29 L1 s ((Gr.refl I).mono (by decide)) (λi o C ho=>aC ho (bp.trans p1)) (jQ kw) kB (λk e=>e) N (av _) (λq=>absurd q sf) ?_;rw[vm sf,H];exact h
end
section
variable{C:CT}{z:Z}{L:List O}{n t s i:Nat}{Q:V->St->Prop}{l ls lt:List Nat}{σ:St}
abbrev be(l:List Nat):Bool:=l.contains 27||l.contains 28
def Ge(I:am z):(∀x∈l,x∈aD)->l.any (iZ z)=be l:=by
 induction l with
 |nil=>
  intro _;exact rfl
 |cons p l ih=>
  intro h;have ih:=ih λx H=>h x (b5 _ H);have J:iZ z p=(27==p||28==p):=by
   obtain⟨r,Y,hk⟩:=ni I (h p br);rw[y1 Y];have no:p≠27->p≠28->(27==p||28==p)=false:=λa b=>by simp[Ne.symm a,Ne.symm b]
   rcases hk with hk |hk |hk |hk |⟨hk,e⟩ |⟨hk,e⟩
   .have c:p≠27:=λe=>by subst e;rw[I.at (t:=27) rfl]at Y;cases Y;cases hk
    have f:p≠28:=λe=>by subst e;rw[I.at (t:=28) rfl]at Y;cases Y;cases hk
    rw[no c f]
    induction hk <;>rfl
   .subst hk;rw[I.at (t:=11) rfl]at Y;cases Y;rfl
   .subst hk;rw[jA I]at Y;cases Y;rfl
   .subst hk;rw[lP I]at Y;cases Y;rfl
   .subst e;subst hk;rfl
   .subst e;subst hk;rfl
  rw[tH,ih,J];unfold be;rw[B_,B_];cases(27==p) <;>cases(28==p) <;>cases(l.contains 27) <;>cases(l.contains 28) <;>rfl
def Gf(h:∀x∈l,x∈aD)(ho:be l=false):∀x∈l,x∈cj:=λx H=>by
 unfold be at ho;rw[qt]at ho;rcases aZ.mp (h x H)with e |e
 .exact e
 .simp only[bH,dU,kX]at e
  rcases e with e |e
  .subst e;rw[bj.mpr H]at ho;cases ho.1
  .subst e;rw[bj.mpr H]at ho;cases ho.2
def RK(h:aO z t l)(H:ae l=l)(h0:t≠0)(h1:t≠1)(w:t≠13):cd l:=by
 rcases se H with n |⟨τ,a,e⟩
 .exact n
 .exfalso
  rcases h.c with⟨e',_⟩ |e' |⟨e',_⟩
  .rw[e]at e';cases e'
  .rw[e]at e';cases e'
   rcases a with e |e |e <;>contradiction
  .rw[e]at e';simp at e'
def zo:∀x∈aD,x < 29:=by decide
def Gg(u:l.Nodup)(h:∀x∈l,x∈aD):l.length<=29:=jw 29 u λx H=>zo x (h x H)
abbrev jv(c a:Nat)(lc la:List Nat):Nat:=if be la then 3 else if a=0\/a=1 then 1 else if c=0 then 2 else if FU lc la then 1 else 0
def zp(I:am z)(room:z.sz+2 < 4194304)(G:aO z a la)(T:aO z b u)(h1:la.length<=400)(h2:u.length<=400)(f:lK b=false)
  (q:∀z' L',Gr 2 z z'->L <+:L'->Q (.w (iY la u)) (st z' L')):ar (ai (n+6) 79 [.o 10,.j a,.j b] (st z L)) Q:=by
 refine az (ρ:=[some (.o 10),some (.j a),some (.j b)]) rfl ?_;refine Fo (n:=n) I room G T h1 h2 λz' L' g E=>?_;rw[f,Bool.false_or];exact q z' L' g E
def zq(I:am z)(h:aO z r l)(n:cd l):lK r=false:=by
 have key:∀τ,(τ=0\/τ=1\/τ=13)->r≠τ:=λτ a Y=>by
  subst Y;rcases h.c with⟨_,e⟩ |e |⟨_,e⟩
  .rcases a with q |q |q <;>lia
  .have:r∈l:=by rw[e];simp
   rcases a with q |q |q <;>subst q
   .exact n.1 this
   .exact n.2.2 this
   .exact n.2.1 this
  .rcases a with q |q |q <;>subst q
   .rw[I.at (t:=0) rfl]at e;cases e
   .rw[I.at (t:=1) rfl]at e;cases e
   .rw[I.at (t:=13) rfl]at e;cases e
 unfold lK;rw[qt,qt];exact⟨⟨cB.mpr (key 0 (.inl rfl)),cB.mpr (key 1 (.inr (.inl rfl)))⟩,cB.mpr (key 13 (.inr (.inr rfl)))⟩
def vo(h:l.length<=29):(ae (l.map f)).length<=400:=by
 induction l using bo with
 |nil=>exact bb 400|cons a l=>exact aL (m_ (by simp)) (by rw[bX];exact "~KM1p7|au<vQz" h)
def RL(I:am z)(room:z.sz+6 < 4194303)(o:aO z c lc)(rc:ae lc=lc)(N:∀x∈lc,x∈cj)(G:aO z a la)(ra:ae la=la)(v:∀x∈la,x∈cj)(na:cd la)
  (q:∀z' L',Gr 6 z z'->L <+:L'->Q (.w (FU lc la)) (st z' L')):ar (ai (n+9) 33 [.o 10,.j c,.j a] (st z L)) Q:=by
 have hz:z.a.length < 4194304:=Z.bZ (c:=0) ("~C^PVwhtcuUa4r2WE" room);refine az (ρ:=[some (.o 10),some (.j c),some (.j a)]) rfl ?_;refine FM (n:=n+4) I hz o N λL1 p1=>?_;refine FM (n:=n+4) I hz G v λL2 p2=>?_;refine Gc (n:=n) I ("~=Z30WAvH;?v40mNPPgDW" room) o rc N λu J e1 E A p3 sj k B=>?_;have s1:=A.f;refine Gc (n:=n) A.e ("~1^;|dS0Zxd3zazUPzV7vX6KUN" s1 room) (G.gr A.d) ra v λz2 g w m j T h y p=>?_;have s2:=j.f;refine zp (n:=n+2) j.e ("~Qn7e2dXrBdi4rfa<XgP>ghtwn" s2 s1 room) (B.gr j.d) p (vo (lN o.f N)) (vo (lN G.f v)) (zq j.e p (r9 (r_ na h))) λr L5 U p5=>?_;rw[F7 rc na ra (λx H=>vn x (N x H)) (λx H=>vn x (v x H)) sj h λf Y=>u5 j.e.a (cH j.d (k f)) (y Y)];exact q r L5 ((A.trans (j.trans U)).mono (by decide)) (p1.trans (p2.trans (p3.trans (T.trans p5))))
def RM(I:am z)(room:z.sz+20 < 4194303)(hc:aO z c lc)(rc:ae lc=lc)(kc:∀x∈lc,x∈cj)(G:aO z a la)(ra:ae la=la)(v:∀x∈la,x∈aD)(nk:a≠13)
  (q:∀z' L',Gr 20 z z'->L <+:L'->Q (.j (jv c a lc la)) (st z' L')):ar (ai (n+10) 37 [.o 10,.j c,.j a,.w false] (st z L)) Q:=by
 have hz:z.a.length < 4194304:=Z.bZ (c:=0) ("~A2n0FaSmE?brkutLWU" room);refine az (ρ:=[some (.o 10),some (.j c),some (.j a),some (.w false),none,none,none,none]) rfl ?_;refine Fs (n:=n+6) I hz G ?_;rw[Ge I v];have q0:=q z L ((Gr.refl I).mono (by decide)) (aA _);unfold jv at q0 q;generalize ho:be la=E
 induction E using aS with
 |true=>rw[ho]at q0;exact q0|false=>
  rw[ho]at q0 q;have pb:=Gf v ho;conv=>whnf
  have cv:∀x k:Nat,ca (.j x) (.j k)=(x==k):=λx k=>by
   by_cases h:x=k
   .subst h;rw[vT rfl];simp
   .rw[vF ("~1_Ou3jsFT<tJ" h),cB.mpr h]
  rw[show ca (.j a) (.j 0)=(a==0)from cv a 0];by_cases N:a=0
  .rw[ab (by decide),ah (.inl N)]at q0
   rw[aH.mpr N];exact q0
  rw[cB.mpr N];conv=>whnf
  rw[show ca (.j a) (.j 1)=(a==1)from cv a 1];by_cases a1:a=1
  .rw[ab (by decide),ah (.inr a1)]at q0
   rw[aH.mpr a1];exact q0
  rw[cB.mpr a1];have na:=RK G ra N a1 nk;conv=>whnf
  rw[show ca (.j c) (.j 0)=(c==0)from cv c 0];by_cases c0:c=0
  .rw[ab (by decide),ab ("~=?wzM_gxQ;nE?BKg3tNnT>e_TuHPPBWbvZO" N a1),ah c0]at q0
   rw[aH.mpr c0];exact q0
  rw[cB.mpr c0];rw[ab (by decide),ab ("~=?wzM_gxQ;nE?BKg3tNnT>e_TuHPPBWbvZO" N a1),ab c0]at q;clear q0;refine ve (n:=n+3) I hz hc kc λL1 p1=>?_;have fl:∀l:List Nat,(aa (dZ l)).length < 4194304:=λl=>by rw[cI];unfold dZ;split <;>decide
  refine aP (Gb (fl lc)) ?_;have simple:∀L',L <+:L'->(∀z' f (b:Bool),Gr 20 z z'->L <+:f->b=FU lc la->Q (.j (if b then 1 else 0:Nat)) (st z' f))->True:=λC C C=>trivial;have Gh:∀L',L <+:L'->aM (ai (n+9)) [.h (.G (.j 33 [.d 0,.d 1,.d 2])) [.d (.p 0)] [],.g 5 (.F []),.g 6 (.j 34 [.d 0,.d 1,.d 5]),.g 7 (.j 34 [.d 0,.d 2,.d 5]),.d (.C (.y (.d 0) 0 [.d 6,.d 7]) (.p 1) (.p 3))]
    [some (.o 10),some (.j c),some (.j a),some (.w false),some (.o 2),none,none,none] (dB Q) (st z L'):=by
   intro L' g;refine RL (n:=n) I ("~;Ud5^8BM3kGd=a2xapT5^f" room) hc rc kc G ra pb na λu L2 A p2=>?_;have s1:=A.f;generalize hf:FU lc la=E
   induction E using aS with
   |false=>rw[hf]at q;exact q u L2 (A.mono (by decide)) (g.trans p2)|true=>
    rw[hf]at q;refine bY ?_;refine Gd (n:=n+1) (s:=none) A.e ("~1eHeV|jMrF71L|Ji0uV3taX;kka" s1 room) bk (λk e=>nomatch e) (hc.gr A.d) rc kc λz2 J e1 L3 RN j p3 l3 j3 m3 k3 sj RO B=>?_;have s2:=j.f;refine Gd (n:=n+1) (s:=RN) j.e ("~DYgzqUUE?^w3pMtJXdvp6cqPxXGQw3p" s2 s1 room) j3 k3 (G.gr (A.d.trans j.d)) ra pb λr r2 w L4 X5 U T l4 j4 m4 k4 sk y p=>?_;have s3:=U.f;refine zp (n:=n+3) U.e ("~4C4LC29m9?3zWrfINEyUubPpSpTnCVN4" s3 s2 s1 room) (B.gr U.d) p (vo (lN hc.f kc)) (vo (lN G.f pb)) (zq U.e p (r9 (r_ na sk))) λz4 L5 g4 p5=>?_;rw[F7 rc na ra (λx H=>vn x (kc x H)) (λx H=>vn x (pb x H)) sj sk (λq1 Y=>by
     obtain⟨k1,e3,e4⟩:=RO q1;obtain⟨k2,e5,e6⟩:=y Y;have:=m4 k1 e3;rw[this]at e5;cases e5;exact u5 U.e.a (cH U.d e4) e6),hf]
    have pp:L <+:L5:=(g.trans p2).trans ((rU (λi o hi h=>T i o hi (p3 i o hi (aC h bp))) (aL bp.length_le (aL l3 l4)) (av _)).trans p5);exact q z4 L5 ((A.trans (j.trans (U.trans g4))).mono (by decide)) pp
  by_cases m:25∈lc
  .have:dZ lc=[0]:=by unfold dZ;rw[ah m]
   rw[this];exact Gh L1 p1
  .have:dZ lc=[]:=by unfold dZ;rw[ab m]
   rw[this];refine ve (n:=n+3) I hz G pb λL2 p2=>?_;refine aP (Gb (fl la)) ?_;by_cases Gi:25∈la
   .have:dZ la=[0]:=by unfold dZ;rw[ah Gi]
    rw[this];exact Gh L2 (p1.trans p2)
   .have:dZ la=[]:=by unfold dZ;rw[ab Gi]
    rw[this];refine zp (n:=n+3) I ("~A2n0FaSmE?brlABa1z" room) hc G (by have:=lN hc.f kc;exact "~KM1p7|au<vQz" this) (by have:=lN G.f pb;exact "~KM1p7|au<vQz" this) (zq I G na) λu L3 A p3=>?_;rw[F8 rc na ra];generalize hf:FU lc la=E
    induction E using aS with
    |false=>rw[hf]at q;exact q u L3 (A.mono (by decide)) (p1.trans (p2.trans p3))|true=>rw[hf]at q;exact q u L3 (A.mono (by decide)) (p1.trans (p2.trans p3))
end
@[inline]abbrev Tb:=List (List V)
@[inline]abbrev Mp:=Option (Nat×Nat)
abbrev eB:Tb->List V->Nat
 |[],_=>0|a::T,r=>if a=r then 0 else eB T r+1
theorem lR:∀{T:Tb} {i:Nat} {r:List V},T.Nodup->T[i]?=some r->eB T r=i
 |[],_,_,_,h=>by simp at h
 |a::T,0,r,_,h=>by
  have:a=r:=by simpa using h
  exact ah this
 |a::T,i+1,r,u,h=>by
  have h2:=fL.mp u;have h':T[i]?=some r:=by simpa using h
  exact(ab λe=>h2.1 (by rw[e];exact kV h')).trans (aE (·+1) (lR h2.2 h'))
abbrev uF(T:Tb)(S:List Nat):Nat:=match ae S with
 |[]=>2|[x]=>x|l=>eB T (dt l)
def kC(h:aO z r (ae S))(p:z.a <+:T)(u:T.Nodup):uF T S=r:=by
 unfold uF;rcases h.c with⟨e,w⟩ |e |⟨a,b⟩
 .rw[e,w]
 .rw[e]
 .match hm:ae S,a,b with
  |x::y::l,_,b=>exact lR u (cH p b)
def vp(h:∀x∈A,x∈B)(q:aY A t=true):aY B t=true:=by
 unfold aY at q ⊢;rw[tK,mu,mu,bj,bj]at q ⊢;exact q.imp (λq=>⟨q.1,h _ q.2⟩) (λq=>⟨q.1,h _ q.2⟩)
def gx(A B:List Nat):ae (ae A++B)=ae (A++B):=by
 have sub:∀x∈ae A++B,x∈A++B:=λx H=>by
  rcases aZ.mp H with h |h
  .exact dy _ (ct h)
  .exact jh _ h
 have g:∀τ,ae (ae A++B)=[τ]->ae (A++B)=[τ]->ae (ae A++B)=ae (A++B):=λτ h1 h2=>h1.trans h2.symm;by_cases h0:0∈A++B
 .have k:0∈ae A++B:=by
   rcases aZ.mp h0 with h |h
   .refine dy _ ?_;unfold ae;rw[ah h];simp
   .exact jh _ h
  refine g 0 ?_ ?_ <;>(unfold ae;rw[ah];assumption)
 have k:0∉ae A++B:=λh=>h0 (sub 0 h);have N:0∉A:=λh=>h0 (dy _ h);by_cases w:13∈A++B
 .have j:13∈ae A++B:=by
   rcases aZ.mp w with h |h
   .refine dy _ ?_;unfold ae;rw[ab N,ah h];simp
   .exact jh _ h
  refine g 13 ?_ ?_
  .unfold ae at k j ⊢;rw[ab k,ah j]
  .unfold ae;rw[ab h0,ah w]
 have j:13∉ae A++B:=λh=>w (sub 13 h);have f:13∉A:=λh=>w (dy _ h);by_cases h1:1∈A++B
 .have u:1∈ae A++B:=by
   rcases aZ.mp h1 with h |h
   .refine dy _ ?_;unfold ae;rw[ab N,ab f,ah h];simp
   .exact jh _ h
  refine g 1 ?_ ?_
  .unfold ae at k j u ⊢;rw[ab k,ab j,ah u]
  .unfold ae;rw[ab h0,ab w,ah h1]
 have n:cd (A++B):=⟨h0,w,h1⟩;have G:cd (ae A++B):=⟨k,j,λh=>h1 (sub 1 h)⟩;have c:cd A:=⟨N,f,λh=>h1 (dy _ h)⟩;have Y:∀t,aY (A++B) t=true->aY (ae A++B) t=true:=λt q=>by
  rcases ii q with⟨h1,h2⟩ |⟨h1,h2⟩
  .have:wh t∈ae A++B:=by
    rcases aZ.mp h2 with h |h
    .exact dy _ (o8 c h1 h)
    .exact jh _ h
   unfold aY;rw[bj.mpr this,show(wh t !=2)=true by simpa using h1];rfl
  .subst h1
   have:16∈ae A++B\/6∈ae A++B:=by
    rcases aZ.mp h2 with h |h
    .generalize i:aY A 16=E
     induction E using aS with
     |false=>exact .inl (dy _ ((fD c).mpr ⟨h,i⟩))|true=>
      rcases ii i with⟨a,b⟩ |⟨a,_⟩
      .exact .inr (dy _ (o8 c a b))
      .cases a
    .exact .inl (jh _ h)
   unfold aY;rcases this with h |h
   .rw[bj.mpr h];simp
   .rw[show wh 26=6 from rfl,bj.mpr h];rfl
 rw[lQ n,lQ G];refine m8 (kn.filter _) (kn.filter _) (km.filter _) (km.filter _) λx=>?_;rw[c7,c7,iW,iW];simp only[qu];refine⟨λ⟨h1,h2⟩=>⟨sub x h1,?_⟩,λ⟨h1,h2⟩=>⟨?_,?_⟩⟩
 .generalize q:aY (A++B) x=E
  induction E using aS with
  |false=>rfl|true=>rw[Y x q]at h2;cases h2
 .rcases aZ.mp h1 with h |h
  .refine dy _ ((fD c).mpr ⟨h,?_⟩)
   generalize q:aY A x=E
   induction E using aS with
   |false=>rfl|true=>rw[vp (λy v=>dy _ v) q]at h2;cases h2
  .exact jh _ h
 .generalize q:aY (ae A++B) x=E
  induction E using aS with
  |false=>rfl|true=>rw[vp sub q]at h2;cases h2
def Gj(A B:List Nat):ae (A++B)=ae (B++A):=rM λx=>by rw[aZ,aZ,or_comm]
def eD(A B:List Nat):ae (A++ae B)=ae (A++B):=by rw[Gj,gx,Gj]
def eE(A:List Nat):ae (ae A)=ae A:=by have:=gx A [];rwa [b9,b9]at this
def pc(f:α->List Nat)(l:List α):ae (l.flatMap λx=>ae (f x))=ae (l.flatMap f):=by
 induction l with
 |nil=>
  exact rfl
 |cons a l ih=>
  rw[dJ,dJ,gx,<-eD,ih,eD]
abbrev nI:V->Nat
 |.j i=>i.toNat|_=>0
abbrev RP:List V->Option (Nat×Nat×Nat×Nat×Nat)
 |[]=>none|k::r=>if k=.j 16 then some (nI (r.getD 0 .z),nI (r.getD 1 .z),nI (r.getD 2 .z),nI (r.getD 3 .z),nI (r.getD 5 .z))else none
abbrev ij(T:Tb)(p:Nat):Option (Nat×Nat×Nat×Nat×Nat):=match T[p]? with
 |some r=>RP r|none=>none
def zr(h:T[p]?=some (aV c a x y d)):ij T p=some (c,a,x,y,d):=by
 unfold ij;rw[h];rfl
abbrev zt:Mp->Nat->Nat
 |none,p=>p|some (pid,v),p=>gw pid v p
abbrev i4(T:Tb)(m:Mp)(i:Nat):List Nat:=(bi T i).flatMap λp=>bi T (zt m p)
abbrev db(T:Tb)(m:Mp)(i:Nat):Nat:=match m with
 |none=>i|some _=>uF T (i4 T m i)
abbrev jB(m:Mp)(c p:Nat):Mp:=match m with
 |none=>none|some (pid,v)=>if c=26+pid then some (pid,p)else some (pid,v)
abbrev pe(T:Tb)(B:Mp->Nat->List Nat)(m:Mp)(i:Nat):Nat:=match m with
 |none=>i|some _=>uF T (B m i)
abbrev wF(T:Tb)(B:Mp->Nat->List Nat)(m:Mp)(c a x y d:Nat):Nat:=eB T (aV c (db T m a) (pe T B m x) (pe T B m y) d)
abbrev cz(T:Tb)(B:Mp->Nat->List Nat)(m:Mp)(c a x y d:Nat):List Nat:=
 if be (bi T c)=true then[wF T B m c a x y d]else
 if db T m a=13 then[13]else
 if jv c (db T m a) (bi T c) (bi T (db T m a))=3 then[wF T B m c a x y d]else
 if jv c (db T m a) (bi T c) (bi T (db T m a))=1 then B m x else
 if jv c (db T m a) (bi T c) (bi T (db T m a))=2 then B m x++B m y else B m y
abbrev cJ(T:Tb)(B:Mp->Nat->List Nat)(m:Mp)(c a x y d:Nat):List Nat:=
 if db T m c=13 then[13]else
 if d=1/\db T m c=2 then[]else
 if d=1/\2<=(bi T (db T m c)).length then(bi T (db T m c)).flatMap λp=>cz T B (jB m c p) p a x y d else
 cz T B m (db T m c) a x y d
abbrev aK:Nat->Tb->Mp->Nat->List Nat
 |0,T,m,i=>i4 T m i
 |h+1,T,none,i=>match ij T i with
  |some (c,a,x,y,d)=>cJ T (aK h T) none c a x y d|none=>bi T i
 |h+1,T,some pv,i=>(bi T i).flatMap λp=>match ij T p with
  |some (c,a,x,y,d)=>cJ T (aK h T) (some pv) c a x y d|none=>bi T (zt (some pv) p)
structure At(z:Z)(i:Nat)(l:List Nat):Prop where
 c:aO z i l
 f:ae l=l
 d:∀x∈l,x∈aD
def At.gr(h:At z i l)(p:z.a <+:z'.a):At z' i l:=⟨h.c.gr p,h.f,h.d⟩
structure Md where
 a:Bool
abbrev Md.kk(md:Md):Nat:=if md.a then 4 else 2
abbrev Md.gy(md:Md)(lc:List Nat)(d:Nat):Prop:=if md.a then(d=1->lc.length<=4/\(27∈lc->lc=[27]))else(27∉lc/\(d=1->lc.length<=1))
abbrev Md.eF(md:Md)(la:List Nat):Prop:=md.a=false->27∉la
abbrev Md.NI(md:Md)(h:Nat):Nat:=if md.a then 1 else 4 ^ h
abbrev Md.NO(md:Md)(h:Nat):Nat:=if md.a then 4 ^ h else 0
abbrev cs(l:List Nat):Nat:=(l.filter λx=>decide (29<=x)).length
inductive vq(md:Md)(z:Z)(W:Nat->Prop)(p:Nat):Prop
 |mk (c a x y d:Nat) (lc la:List Nat) (h1:z.a[p]?=some (aV c a x y d)) (h2:29<=p) (h3:At z c lc) (h4:At z a la) (h5:md.gy lc d) (h6:md.eF la) (h7:W x) (h8:W y) (h9:d<=1)
abbrev Wf(md:Md)(z:Z):Nat->Nat->Prop
 |0,i=>∃l,At z i l/\md.eF l|h+1,i=>∃l,aO z i l/\ae l=l/\cs l<=md.NI (h+1)/\∀p∈l,(p∈aD/\(md.a=false->p≠27))\/vq md z (Wf md z h) p
theorem Wf.gr(q:z.a <+:z'.a):∀{h i:Nat},Wf md z h i->Wf md z' h i
 |0,i,⟨l,a,b⟩=>⟨l,a.gr q,b⟩|h+1,i,⟨l,a,b,c,d⟩=>⟨l,a.gr q,b,c,λp J=>(d p J).imp id λk=>by
  obtain⟨c,a,x,y,d,lc,la,h1,h2,h3,h4,h5,h6,h7,h8,h9⟩:=k;exact⟨c,a,x,y,d,lc,la,cH q h1,h2,h3.gr q,h4.gr q,h5,h6,h7.gr q,h8.gr q,h9⟩⟩
abbrev Md.cK(md:Md)(z:Z)(m:Mp):Prop:=match m with
 |none=>md.a=true|some (pid,v)=>∃l,At z v l/\l.length<=md.kk/\if md.a then pid=1 else(pid=2/\be l=false)
def ik{md:Md}(h:md.cK z m)(p:z.a <+:z'.a):md.cK z' m:=by
 induction m using aX with
 |none=>exact h|some pv=>obtain⟨l,a,b,c⟩:=h;exact⟨l,a.gr p,b,c⟩
section
variable{C:CT}{z:Z}{L:List O}{n t s i:Nat}{Q:V->St->Prop}{l ls lt:List Nat}{σ:St}{T:Tb}{m:Mp}
def aO.bR(I:am z)(h:aO z t l)(p:z.a <+:T):Mine.Lake.bi T t=l:=by
 rcases oY I h with⟨U,Y,J,h2⟩ |⟨Y,h2,h3⟩
 .rcases h2 with⟨e,w⟩ |⟨e,w⟩
  .subst e;rw[w];rfl
  .rw[w];exact J.parts (cH p Y) e
 .unfold Mine.Lake.bi;rw[ab h3,cH p Y];exact zb l
abbrev c5(m:Mp)(lv:List Nat)(l:List Nat):List Nat:=match m with
 |none=>l|some (pid,_)=>l.flatMap λp=>if p=26+pid then lv else[p]
def eG(I:am z)(h:p∈aD):aO z p [p]:=by
 refine fp (nd I ?_);have:∀p∈aD,p∈u4:=by decide
 exact this p h
def i5(h:∀x∈l,f x=g x):l.flatMap f=l.flatMap g:=by
 induction l with
 |nil=>rfl|cons a l ih=>rw[dJ,dJ,h a br,ih λx H=>h x (b5 _ H)]
def kD(I:am z)(h:At z i l)(B:At z v lv)(p:z.a <+:T):i4 T (some (pid,v)) i=c5 (some (pid,v)) lv l:=by
 unfold i4;rw[h.c.bR I p];unfold c5;refine i5 λx H=>?_;show Mine.Lake.bi T (gw pid v x)=_;unfold gw;by_cases e:x=26+pid
 .rw[ah e,ah e,B.c.bR I p]
 .rw[ab e,ab e,(eG I (h.d x H)).bR I p]
def RQ(h:∀x∈l,x∈aD)(B:∀x∈lv,x∈aD):∀x∈c5 m lv l,x∈aD:=λx H=>by
 induction m using aX with
 |none=>exact h x H|some pv=>
  obtain⟨p,J,H⟩:=fu.mp H
  split at H
  .exact B x H
  .rw[aB]at H;subst H;exact h _ J
def Gk(I:am z)(h:At z t l)(h2:2<=l.length):z.a[t]?=some (dt l):=by
 rcases h.c.c with⟨e,_⟩ |e |⟨_,e⟩
 .rw[e]at h2;simp at h2
 .rw[e]at h2;simp at h2
 .exact e
def sn(h:∀x∈l,f x=[x]):l.flatMap f=l:=by
 induction l with
 |nil=>rfl|cons a l ih=>rw[dJ,h a br,ih λx H=>h x (b5 _ H)];rfl
def Gl(I:am z)(room:z.sz+1 < 4194303)(A:pid=1\/pid=2)(h:At z i l)(hv:At z v lv)(hm:L[k]?=some (aI (some (pid,v))))
  (q:∀z' (r:Nat) L',Gr 1 z z'->L <+:L'->At z' r (ae (c5 (some (pid,v)) lv l))->Q (.j r) (st z' L')):ar (ai (n+7) 26 [.o 10,.j i,.o (k+14)] (st z L)) Q:=by
 have hz:z.a.length < 4194304:=Z.bZ (c:=0) ("~C^PVwhkhv|LtD>N^" room);have U:=RQ (m:=some (pid,v)) h.d hv.d;have g0:Gr 1 z z:=(Gr.refl I).mono (bb _);rcases h.c.c with⟨e,w⟩ |e |⟨h2,_⟩
 .subst w
  refine lO (n:=n+5) hz hm (jy I) (.a _) (q z 2 L g0 (aA _) ?_);rw[e];exact⟨hY,rfl,λx H=>nomatch H⟩
 .have hi:i∈aD:=h.d i (by rw[e];simp)
  refine za (n:=n+3) I hz A hm hi λL' E=>q z _ L' g0 E ?_;have e3:c5 (some (pid,v)) lv l=if i=26+pid then lv else[i]:=by
   rw[e];unfold c5;show(if i=26+pid then lv else[i])++[]=_;rw[b9]
  rw[e3];unfold gw;by_cases e4:i=26+pid
  .rw[ah e4,ah e4,hv.f];exact hv
  .rw[ab e4,ab e4,cW]
   exact⟨eG I hi,cW,λx H=>by rw[aB]at H;subst H;exact hi⟩
 .have Y:=Gg h.c.f h.d
  have N:∀ps:List Nat,d7 (λC=>0) ps=0:=λps=>by induction ps with
   |nil=>rfl|cons p ps ih=>show 0+d7 _ ps=0;rw[ih]
  have o:∀z' rs,Gr (d7 (λC=>0) l) z z'->f9 (λp r=>r=gw pid v p) l rs->rs.flatMap (Mine.Lake.bi z'.a)=c5 (some (pid,v)) lv l:=λz' rs g G=>by
   have e1:rs=l.map (gw pid v):=by
    clear g;generalize l=l at G
    induction l generalizing rs with
    |nil=>induction rs using bo with
     |nil=>rfl|cons=>exact G.elim
    |cons p l ih=>induction rs using bo with
     |nil=>exact G.elim|cons r rs=>rw[G.1,ih _ G.2];rfl
   rw[e1,List.flatMap_map];unfold c5;refine i5 λx H=>?_;show Mine.Lake.bi z'.a (gw pid v x)=_;unfold gw;by_cases e:x=26+pid
   .rw[ah e,ah e,hv.c.bR I g.d]
   .rw[ab e,ab e,(eG I (h.d x H)).bR I g.d]
  refine zc (n:=n+3) (R:=λz p r=>r=gw pid v p/\∃l',aO z r l') (c:=λC=>0) (B:=z.sz) (λc z z' p r hr g=>⟨hr.1,let ⟨l',a⟩:=hr.2;⟨l',a.gr g.d⟩⟩) I ("~A2n0FaUDRa<HqrtHfY" room) hm h.c h2 (by rw[N];exact "~2h|d536_" id)
   (λp J u L1 Q' y b1 d1 l1 f=>?_) (λu p r y hr=>?_) (λz' rs g G=>?_) λz' dC r L' rs g g' E G j=>?_
  .refine za (n:=n+1) y (Z.bZ (c:=0) (by have:u.sz+0<=z.sz:=b1;exact "~2r;MJgkU5aNQmZyvPO9PD" b1 room)) A (aC hm l1) (h.d p J) λL' E=>f u _ L' (Gr.refl y) E ⟨rfl,?_⟩
   obtain⟨d,gd⟩:=d1;unfold gw;split
   .exact⟨_,hv.c.gr gd.d⟩
   .exact⟨_,eG y (h.d p J)⟩
  .obtain⟨l',a⟩:=hr.2
   rw[a.bi y];exact a
  .rw[o z' rs g (vj (λp r h=>h.1) G)]
   generalize e:c5 (some (pid,v)) lv l=x_
   induction x_ using bo with
   |nil=>exact bb 400|cons a b=>
    rw[<-e];have:(ae (c5 (some (pid,v)) lv l)).length<=29:=Gg ko λx H=>U x (ct H);exact "~KM1p7|au<vQz" this
  .rw[o z' rs g (vj (λp r h=>h.1) G)]at j
   rw[N]at g;exact q dC r L' (g.trans g') E ⟨j,eE _,λx H=>U x (ct H)⟩
end
structure bG(z:Z)(val:Tb->List Nat)(b:Nat)(r:Nat)(l:List Nat):Prop where
 a:aO z r l
 e:ae l=l
 d:cs l<=b
 c:∀T,z.a <+:T->T.Nodup->ae (val T)=l
def bG.gr(h:bG z val b r l)(p:z.a <+:z'.a):bG z' val b r l:=⟨h.a.gr p,h.e,h.d,λT q n=>h.c T (p.trans q) n⟩
def bG.mono(h:bG z val b r l)(T:b<=G):bG z val G r l:=⟨h.a,h.e,aL h.d T,h.c⟩
def bG.uF(h:bG z val b r l)(p:z.a <+:T)(n:T.Nodup):uF T (val T)=r:=kC (by rw[h.c T p n];exact h.a) p n
def kE(h:∀x∈l,x∈aD):cs l=0:=by
 unfold cs;rw[xh.mpr λx H=>by have:=zo x (h x H);simp;exact "~KM1p92WAYVE7" this];rfl
def At.res(h:At z i l)(b:Nat)(e:∀T,z.a <+:T->T.Nodup->Mine.Lake.ae (val T)=l):bG z val b i l:=⟨h.c,h.f,by rw[kE h.d];exact bb _,e⟩
abbrev Fm(L L':List O)(ex:List Nat):Prop:=L.length<=L'.length/\∀j o,j∉ex->L[j]?=some o->L'[j]?=some o
def Fm.pre(p:L <+:L'):Fm L L' ex:=⟨p.length_le,λj o J h=>aC h p⟩
def Fm.trans(a:Fm L L' ex)(b:Fm L' f ex):Fm L f ex:=⟨aL a.1 b.1,λj o h1 h2=>b.2 j o h1 (a.2 j o h1 h2)⟩
def Fm.set(h:i∈ex):Fm L (L.set i o) ex:=⟨by rw[jc];exact av _,λj o' f e=>bz e λq=>f (q▸h)⟩
def Fm.mono(a:Fm L L' ex)(h:∀x∈ex,x∈so):Fm L L' so:=⟨a.1,λj o f=>a.2 j o λq=>f (h j q)⟩
def Fm.new(p:L <+:L1)(a:Fm L1 L' ex)(h:∀x∈ex,x < L.length->x∈so):Fm L L' so:=⟨aL p.length_le a.1,λj o f e=>a.2 j o (λq=>f (h j q (bW.mp e).1)) (aC e p)⟩
def Fm.then(a:Fm L L1 ex)(b:Fm L1 L' so)(h:∀x∈so,x < L.length->x∈ex):Fm L L' ex:=⟨aL a.1 b.1,λj o f e=>b.2 j o (λq=>f (h j q (bW.mp e).1)) (a.2 j o f e)⟩
abbrev Md.gC(md:Md)(g:Nat):Nat:=if md.a then 16*g+200 else 2*g+70
abbrev Md.gB(md:Md):Nat->Nat
 |0=>1|h+1=>md.NI (h+1)*md.gC (md.gB h)+1
abbrev Md.rF(md:Md)(h:Nat):Nat:=24*md.gB h+1000
abbrev Md.rP(md:Md):Nat->Nat
 |0=>10|h+1=>md.rF h
abbrev sp:Nat->Nat
 |0=>0|h+1=>4*(1+sp h)
def RR(j:h<=3):sp h<=84:=by
 match h,j with
 |0,_=>decide|1,_=>decide|2,_=>decide|3,_=>decide
abbrev fq(md:Md)(h N:Nat):Prop:=∀(z:Z) (L:List O) (i k:Nat) (pv:Nat×Nat) (Q:V->St->Prop),am z->Wf md z h i->md.cK z (some pv)->L[k]?=some (aI (some pv))->z.sz+md.gB h+md.rP h<=4190000->z.b+3*h<=35->0<=z.b->
 (∀z' (r:Nat) l L',Gr (md.gB h) z z'->L <+:L'->bG z' (λT=>aK h T (some pv) i) (md.NO h) r l->Q (.j r) (st z' L'))->ar (ai N 26 [.o 10,.j i,.o (k+14)] (st z L)) Q
structure de(z:Z)(L:List O)(i:Nat)(s:Sp)(m:Mp)(E:List Nat)(k:Nat):Prop where
 a:L[i]?=some (bM s)
 b:L[s.c]?=some (aI m)
 c:L[s.a]?=some (.a [.j k])
 d:L[s.d]?=some (.a (aa E))
 f:s.a≠s.d
def de.ne1(h:de z L i s m E k):i≠s.a/\i≠s.d/\i≠s.c/\s.c≠s.a/\s.c≠s.d:=by
 have T:∀l,aI m≠.a l:=λl=>by induction m <;>simp[aI]
 have I:aI m≠bM s:=by induction m <;>simp[aI,bM]
 refine⟨λe=>?_,λe=>?_,λe=>?_,λe=>?_,λe=>?_⟩
 .have:=h.a;rw[e,h.c]at this;cases this
 .have:=h.a;rw[e,h.d]at this;cases this
 .have:=h.a;rw[e,h.b]at this;exact I (ay this)
 .have:=h.b;rw[e,h.c]at this;exact T _ (ay this).symm
 .have:=h.b;rw[e,h.d]at this;exact T _ (ay this).symm
def de.ext(h:de z L i s m E k)(p:L <+:L'):de z' L' i s m E k:=⟨aC h.a p,aC h.b p,aC h.c p,aC h.d p,h.f⟩
section
variable{C:CT}{z:Z}{L:List O}{n t i N k:Nat}{Q:V->St->Prop}{l ls lt E:List Nat}{σ:St}{T:Tb}{m:Mp}{s:Sp}{md:Md}
def RS(I:am z)(h:z.a[t]?=some r):V.keys r=true:=by
 rcases Fn I h with h1 |h1
 .obtain⟨r',Y⟩:∃r',da[t]?=some r':=⟨_,iD (show t < da.length from h1)⟩
  rw[I.at Y]at h;cases h;have:∀r∈da,V.keys r=true:=by
   unfold da;simp only[iG,dU,mw,mx,my];refine⟨?_,?_,?_,?_,?_,?_,?_,?_,?_,?_,?_,?_,?_,?_,?_,?_,?_,?_,?_,?_,?_,?_,?_,?_,?_,?_,?_,?_,?_⟩ <;>rfl
  exact this r (kV Y)
 .exact h1.keys
def sq(I:am z)(h:At z t l):∃k rest,z.a[t]?=some (.j k::rest)/\k≠16:=by
 rcases h.c.c with⟨_,e⟩ |e |⟨_,e⟩
 .subst e;exact⟨1,_,jy I,by decide⟩
 .obtain⟨r,Y,hk⟩:=ni I (h.d t (by rw[e];simp))
  rcases hk with hk |hk |hk |hk |⟨hk,e⟩ |⟨hk,e⟩
  .induction hk <;>exact⟨_,_,Y,by decide⟩
  .subst hk;exact⟨8,_,I.at rfl,by decide⟩
  .subst hk;exact⟨8,_,jA I,by decide⟩
  .subst hk;exact⟨8,_,lP I,by decide⟩
  .subst e;exact⟨10,_,Y,by decide⟩
  .subst e;exact⟨10,_,Y,by decide⟩
 .exact⟨6,_,e,by decide⟩
def vr(I:am z)(hz:z.a.length < 4194304){k:Int}(Y:z.a[t]?=some (.j k::rest))(U:k≠16)(q:Q (.j t) (st z L)):ar (ai (n+3) 81 [.o 10,.j t] (st z L)) Q:=by
 refine az (ρ:=[some (.o 10),some (.j t)]) rfl ?_;refine ag (co hz Y) ?_;refine az (f:=54) (ρ:=[some (.o 10),some (.p (.j k::rest))]) rfl ?_;refine bF (vF U) ?_;exact kr (n:=n) I (RS I Y) hz Y q
def nl(h:md.cK z (some pv)):∃lv,At z pv.2 lv/\lv.length<=md.kk/\(pv.1=1\/pv.1=2)/\(md.a=true->pv.1=1)/\(md.a=false->pv.1=2/\be lv=false):=by
 obtain⟨l,a,b,c⟩:=h;refine⟨l,a,b,?_⟩;generalize ho:md.a=Y
 induction Y using aS with
 |true=>rw[ho]at c;exact⟨.inl c,λJ=>c,λh=>nomatch h⟩|false=>rw[ho]at c;exact⟨.inr c.1,(λh=>nomatch h),λJ=>c⟩
def Gm(I:am z)(room:z.sz+1 < 4194303)(h:At z c lc)(hm:L[U]?=some (aI m))(A:md.cK z m)
  (q:∀z' (r:Nat) L' l,Gr 1 z z'->L <+:L'->At z' r l->(∀T,z'.a <+:T->T.Nodup->db T m c=r)->(m=none->r=c/\l=lc)->(∀pv lv,m=some pv->At z pv.2 lv->l=ae (c5 m lv lc))->Q (.j r) (st z' L')):ar (ai (n+8) 83 [.o 10,.j c,.o (U+14)] (st z L)) Q:=by
 refine az (ρ:=[some (.o 10),some (.j c),some (.o (U+14))]) rfl ?_
 induction m using aX with
 |none=>
  refine FO (n:=n+6) hm ?_;exact q z c L lc ((Gr.refl I).mono (bb _)) (aA _) h (λT H H=>rfl) (λH=>⟨rfl,rfl⟩) (λpv lv e=>nomatch e)
 |some pv=>
  obtain⟨pid,v⟩:=pv;obtain⟨lv,B,_,G,_⟩:=nl A;refine Gl (n:=n) I room G h B hm λz' r L' g J j=>?_;refine q z' r L' _ g J j (λT p u=>?_) (λe=>nomatch e) (λa Y e f=>?_)
  .show uF T (i4 T (some (pid,v)) c)=r
   rw[kD I h B (g.d.trans p)];exact kC j.c p u
  .cases e;rw[f.c.fun I B.c]
end
section
variable{C:CT}{z:Z}{L:List O}{n t i N h k c a x y d:Nat}{Q:V->St->Prop}{l ls lt E lc la:List Nat}{σ:St}{T:Tb}{m:Mp}{s:Sp}{md:Md}
structure Gn(z':Z)(m:Mp)(c:Nat)(lc:List Nat)(c':Nat)(lc':List Nat):Prop where
 b:At z' c' lc'
 a:∀T,z'.a <+:T->T.Nodup->db T m c=c'
 d:m=none->c'=c/\lc'=lc
 e:∀pv lv,m=some pv->At z' pv.2 lv->lc'=ae (c5 m lv lc)
def Gp(I:am z)(room:z.sz+1 < 4194303)(G:L[i]?=some (bM s))(p:s.e=aV c a x y d)(J:s.f=-1)(hm:L[s.c]?=some (aI m))(A:md.cK z m)(o:At z c lc)
  (q:∀z' (c':Nat) L' lc',Gr 1 z z'->L <+:L'->Gn z' m c lc c' lc'->Q (.j c') (st z' L')):ar (ai (n+9) 39 [.o (i+14)] (st z L)) Q:=by
 refine az (ρ:=[some (.o (i+14)),none]) rfl ?_;refine ag (a_ G rfl) ?_;refine ag (a_ G rfl) ?_;rw[J];refine ag (a_ G rfl) ?_;rw[p];refine ag (a_ G rfl) ?_;refine Gm (n:=n) I room o hm A λz' r L' l g hL j e1 w H=>?_;have u:z'.a.length < 4194304:=Z.bZ (c:=0) (by have:=g.f;exact "~2r;MJgkU5aLrhDhzYuYdJ" this room);obtain⟨kk,rest,v,U⟩:=sq g.e j;refine vr (n:=n+5) g.e u v U ?_;refine q z' r L' l g hL ⟨j,e1,w,λpv lv em B=>?_⟩;subst em;obtain⟨Y,f,_⟩:=nl A;rw[H pv Y rfl f,(f.gr g.d).c.fun g.e B.c]
def RT{p:Nat}(I:am z)(hz:z.a.length < 4194304)(Y:L[i]?=some (bM s))(J:s.f=(p:Int))(o:At z p lc)
  (q:Q (.j p) (st z L)):ar (ai (n+4) 39 [.o (i+14)] (st z L)) Q:=by
 refine az (ρ:=[some (.o (i+14)),none]) rfl ?_;obtain⟨kk,rest,v,U⟩:=sq I o;refine ag (a_ Y rfl) ?_;refine ag (a_ Y rfl) ?_;rw[J];refine ag (a_ Y rfl) ?_;rw[J];exact vr (n:=n) I hz v U q
def zu(I:am z)(p:z.a <+:T)(H:x∈aD):ij T x=none:=by
 obtain⟨r,Y,hk⟩:=ni I H;have v:=cH p Y;unfold ij;rw[v];rcases hk with hk |hk |hk |hk |⟨hk,e⟩ |⟨hk,e⟩
 .induction hk <;>rfl
 .subst hk;rw[I.at (t:=11) rfl]at Y;cases Y;rfl
 .subst hk;rw[jA I]at Y;cases Y;rfl
 .subst hk;rw[lP I]at Y;cases Y;rfl
 .subst e;rfl
 .subst e;rfl
theorem ss(I:am z)(j:At z i l)(p:z.a <+:T):∀h,aK h T (some pv) i=i4 T (some pv) i
 |0=>rfl|h+1=>by
  unfold aK i4;rw[j.c.bR I p];exact i5 λx H=>by rw[zu I p (j.d x H)]
theorem kF(j:At z i l)(ho:md.eF l):∀h,Wf md z h i
 |0=>⟨l,j,ho⟩|h+1=>⟨l,j.c,j.f,by rw[kE j.d];exact bb _,λp J=>.inl ⟨j.d p J,λe q=>ho e (by rw[<-q];exact J)⟩⟩
def lT(I:am z)(A:z.a[w]?=some (aV c a x y d)):29<=w/\b3 z w:=by
 have Y:29<=w:=by
  apply BQ;intro U;obtain⟨r,J⟩:∃r,da[w]?=some r:=⟨_,iD (show w < da.length from U)⟩;rw[I.at J]at A;have key:(da.all λr=>!ca (r.headD .z) (.j 16))=true:=by decide+kernel
  have v1:=ek.mp key r (kV J);rw[ay A]at v1;exact b6 v1
 exact⟨Y,E9 I Y A λl q=>by unfold aV dt at q;cases q⟩
theorem Gq:∀l:List Nat,d7 (λJ=>g) l=l.length*g
 |[]=>(Ca g).symm|p::l=>by show g+d7 _ l=_;rw[Gq l,bI,kY,Nat.add_comm]
def RU(h:l.length=4):∃a b c d,l=[a,b,c,d]:=by
 induction l using bo with
 |nil=>exact Nat.noConfusion h
 |cons a l=>induction l using bo with
  |nil=>exact Nat.noConfusion (kU h)
  |cons b l=>induction l using bo with
   |nil=>exact Nat.noConfusion (kU (kU h))|cons c l=>
    obtain⟨d,e⟩:=Ki.mp (kU (kU (kU h)));exact⟨a,b,c,d,by rw[e]⟩
def Gs(hP:fq md h N)(I:am z)(room:z.sz+4*md.gB h+md.rP h+2<=4190000)(dp:z.b+3*h<=35)(nn:0<=z.b)(om:md.cK z (some pv))(hm:L[mi]?=some (aI (some pv)))
  (o:Wf md z h c) (G:Wf md z h a) (H:Wf md z h x) (v:Wf md z h y)
  (q:∀z' (w rc ra rx ry:Nat) L',Gr (4*md.gB h+1) z z'->L <+:L'->z'.a[w]?=some (aV rc ra rx ry d)->(∀p r,(p=c/\r=rc)\/(p=a/\r=ra)\/(p=x/\r=rx)\/(p=y/\r=ry)->∃l,bG z' (λT=>aK h T (some pv) p) (md.NO h) r l)->Q (.j w) (st z' L')):
  ar (ai (N+2) 27 [.o 10,.p (aV c a x y d),.o (mi+14)] (st z L)) Q:=by
 refine az (ρ:=[some (.o 10),some (.p (aV c a x y d)),some (.o (mi+14)),none]) rfl ?_;refine y3 (n:=N) hm ?_;have U:(L++[aI (some pv)])[L.length]?=some (aI (some pv)):=bk;have p1:L <+:L++[aI (some pv)]:=bp;generalize L++[aI (some pv)]=L1 at U p1;have RV:∀p∈[c,a,x,y],Wf md z h p:=iG.mpr ⟨o,iG.mpr ⟨G,iG.mpr ⟨H,iG.mpr ⟨v,nofun⟩⟩⟩⟩;have su:d7 (λC=>md.gB h) [c,a,x,y]=4*md.gB h:=Gq _;refine FT (n:=N) (ps:=[c,a,x,y]) (R:=λz p r=>∃l,bG z (λT=>aK h T (some pv) p) (md.NO h) r l) (c:=λC=>md.gB h) (B:=4190000 - md.rP h) (λc z z' p r hr g=>let ⟨l,a⟩:=hr;⟨l,a.gr g.d⟩) I (bP rfl) (by rw[su];exact "~zu^7P9SXNME6607fxDWx^CWzNawvFDr;" ao room) (λp J u L2 Q' i1 b1 d1 l1 f=>?_) λu L2 rs A p2 sA=>?_
 .obtain⟨dd,gd⟩:=d1
  exact hP u L2 p L.length pv Q' i1 ((RV p J).gr gd.d) (ik om gd.d) (aC U l1) (by have:u.sz+md.gB h<=4190000 - md.rP h:=b1;exact "~77OEtMG8MmdGgNv3AIZa<e^uxLjpzaTBm4tsEhqsd" ao room b1) (by rw[gd.i];exact dp) (by rw[gd.i];exact nn) λz2 r l L3 g p3 RW=>f z2 r L3 g p3 ⟨l,RW⟩
 .have vt:=o6 sA
  obtain⟨rc,ra,rx,ry,rfl⟩:∃rc ra rx ry,rs=[rc,ra,rx,ry]:=RU vt
  .rw[su]at A
   have hs:=A.f;refine ju (n:=N) (r:=aV rc ra rx ry d) A.e rfl (.inl (.b ..)) ("~Qp;Y_gUpwJfJ9rgSoCnd9rj_a" room hs) λz2 w j hw=>?_;refine q z2 w rc ra rx ry L2 (A.trans j) (p1.trans p2) hw λp r zl=>?_;obtain⟨h1,h2,h3,h4,_⟩:=sA;rcases zl with⟨e1,e2⟩ |⟨e1,e2⟩ |⟨e1,e2⟩ |⟨e1,e2⟩ <;>rw[e1,e2]
   .obtain⟨l,Y⟩:=h1;exact⟨l,Y.gr j.d⟩
   .obtain⟨l,Y⟩:=h2;exact⟨l,Y.gr j.d⟩
   .obtain⟨l,Y⟩:=h3;exact⟨l,Y.gr j.d⟩
   .obtain⟨l,Y⟩:=h4;exact⟨l,Y.gr j.d⟩
def zv(I:am z)(o:At z c lc)(p:z.a <+:z'.a)(Y:bG z' (λT=>aK h T (some pv) c) b c' l):∀T,z'.a <+:T->T.Nodup->db T (some pv) c=c':=λT q n=>by
 have:=Y.uF q n;rw[ss I o (p.trans q)]at this;exact this
def RX(hP:md.a=true->fq md h N)(I:am z)(room:z.sz+4*md.gB h+md.rP h+4<=4190000)(dp:z.b+3*h<=35)(B:0<=z.b)(j:md.a=true)(om:md.cK z m)
  (hs:L[i]?=some (bM s)) (hr:s.e=aV c a x y d) (hm:L[s.c]?=some (aI m))
  (J:(s.f=-1/\∀T,z.a <+:T->T.Nodup->db T m c=c')\/(s.f=(c':Int)/\c=c')) (o:At z c lc) (cL:At z c' lc') (G:At z a la) (H:m=none\/(Wf md z h x/\Wf md z h y))
  (q:∀z' (w:Nat) L',Gr (4*md.gB h+4) z z'->L <+:L'->29<=w->aO z' w [w]->(∀T,z'.a <+:T->T.Nodup->wF T (aK h T) m c' a x y d=w)->Q (.j w) (st z' L')):
  ar (ai (N+5) 40 [.o (i+14)] (st z L)) Q:=by
 have hz:z.a.length < 4194304:=Z.bZ (c:=0) ("~=Z26O;Q8LZ9xv5ReFejK" room);have oa:∀l,md.eF l:=λl e=>by rw[j]at e;cases e
 refine az (ρ:=[some (.o (i+14)),none]) rfl ?_;refine ag (a_ hs rfl) ?_;have neg:(s.f=-1/\(∀T,z.a <+:T->T.Nodup->db T m c=c')\/(m=none/\c=c'))->∀K:V->St->Prop,(∀z' (w:Nat) L',Gr (4*md.gB h+4) z z'->L <+:L'->29<=w->aO z' w [w]->(∀T,z'.a <+:T->T.Nodup->wF T (aK h T) m c' a x y d=w)->K (.j w) (st z' L'))->
   ar (ai (N+4) 38 [.o 10,.p (aV c a x y d),.o (s.c+14)] (st z L)) K:=by
  intro Gu K kq;refine az (ρ:=[some (.o 10),some (.p (aV c a x y d)),some (.o (s.c+14))]) rfl ?_;refine aP (ig hm) ?_
  induction m using aX with
  |none=>
   refine ju (n:=N+2) (r:=aV c a x y d) I rfl (.inl (.b ..)) ("~=Z26O;Q8LZ9xv5RpSES_" room) λz' w g A=>?_;obtain⟨ft,sB⟩:=lT g.e A;have e:c=c':=by
    rcases Gu with⟨_,e⟩ |⟨_,e⟩
    .exact e z.a (aA _) I.a
    .exact e
   exact kq z' w L (g.mono ("~2DojkWmgZh" id)) (aA _) ft (fp sB) λT p u=>lR u (by rw[<-e];exact cH p A)
  |some pv=>
   refine az (f:=84) (ρ:=[some (.o 10),some (.p (aV c a x y d)),some (.o (s.c+14))]) rfl ?_;obtain⟨hx,v⟩:=H.resolve_left (λe=>(nomatch e));refine Gs (hP j) I ("~69g9ZKwdff3qKs1KRfy8|sR_U;zh" room) dp B om hm (kF o (oa _) h) (kF G (oa _) h) hx v λz' w rc ra rx ry L' g hL A Y=>?_;obtain⟨ft,sB⟩:=lT g.e A;obtain⟨l1,r1⟩:=Y c rc (.inl ⟨rfl,rfl⟩);obtain⟨l2,r2⟩:=Y a ra (.inr (.inl ⟨rfl,rfl⟩));obtain⟨U,r3⟩:=Y x rx (.inr (.inr (.inl ⟨rfl,rfl⟩)));obtain⟨l4,r4⟩:=Y y ry (.inr (.inr (.inr ⟨rfl,rfl⟩)));have mZ:rc=c':=by
    rcases Gu with⟨_,e⟩ |⟨e,_⟩
    .rw[<-zv I o g.d r1 z'.a (aA _) g.e.a]
     exact e z'.a g.d g.e.a
    .cases e
   refine kq z' w L' (g.mono ("~PJ2|yK?d0OwO" id)) hL ft (fp sB) λT p u=>?_;unfold wF pe;rw[zv I G g.d r2 T p u];show eB T (aV c' ra (uF T (aK h T (some pv) x)) (uF T (aK h T (some pv) y)) d)=w;rw[r3.uF p u,r4.uF p u,<-mZ];exact lR u (cH p A)
 rcases J with⟨J,vu⟩ |⟨J,mZ⟩
 .rw[J]
  refine ag (a_ hs rfl) ?_;refine ag (a_ hs rfl) ?_;rw[hr];refine ag (a_ hs rfl) ?_;exact neg (.inl ⟨J,vu⟩) _ q
 .rw[J]
  refine ag (a_ hs rfl) ?_;refine aP (ig hm) ?_
  induction m using aX with
  |none=>
   refine ag (a_ hs rfl) ?_;refine ag (a_ hs rfl) ?_;rw[hr];refine ag (a_ hs rfl) ?_;exact neg (.inr ⟨rfl,mZ⟩) _ q
  |some pv=>
   subst mZ;refine ag (a_ hs rfl) ?_;refine ag (a_ hs rfl) ?_;rw[hr];refine ag (a_ hs rfl) ?_;refine az (f:=38) (ρ:=[some (.o 10),some (.p (aV 2 a x y d)),some (.o (s.c+14))]) rfl ?_;refine aP (ig hm) ?_;refine az (f:=84) (ρ:=[some (.o 10),some (.p (aV 2 a x y d)),some (.o (s.c+14))]) rfl ?_;have h2:At z 2 []:=⟨hY,rfl,λx hx=>nomatch hx⟩;obtain⟨hx,v⟩:=H.resolve_left (λe=>(nomatch e));refine Gs (c:=2) (hP j) I ("~69g9ZKwdff3qKs1KRfy8|sR_U;zh" room) dp B om hm (kF h2 (oa _) h) (kF G (oa _) h) hx v λz' w rc ra rx ry L' g hL A Y=>?_;have s1:=g.f;have RY:z'.a.length < 4194304:=Z.bZ (c:=0) ("~LYxhoiTqSC>9Fthw6tPsbxEh^N0" room s1);obtain⟨l2,r2⟩:=Y a ra (.inr (.inl ⟨rfl,rfl⟩));obtain⟨U,r3⟩:=Y x rx (.inr (.inr (.inl ⟨rfl,rfl⟩)));obtain⟨l4,r4⟩:=Y y ry (.inr (.inr (.inr ⟨rfl,rfl⟩)));conv=>whnf
   refine ag (a_ (aC hs hL) rfl) ?_;conv=>whnf
   refine ag (a_ (aC hs hL) rfl) ?_;rw[J];refine ag (a_ (aC hs hL) rfl) ?_;conv=>whnf
   refine ag (co RY A) ?_;refine ju (n:=N+3) (r:=aV c ra rx ry d) g.e rfl (.inl (.b ..)) ("~LYxhoiTqSC>9Fthw6tPsbxPua;B" room s1) λdC w' g' Gv=>?_;obtain⟨ft,sB⟩:=lT g'.e Gv;refine q dC w' L' ((g.trans g').mono ("~KKVqeQ0f80mjhQ" id)) hL ft (fp sB) λT p u=>?_;unfold wF pe;rw[zv I G g.d r2 T (g'.d.trans p) u];show eB T (aV c ra (uF T (aK h T (some pv) x)) (uF T (aK h T (some pv) y)) d)=w';rw[r3.uF (g'.d.trans p) u,r4.uF (g'.d.trans p) u];exact lR u (cH p Gv)
end
section
variable{C:CT}{z:Z}{L:List O}{n t i N h k c a x y d:Nat}{Q:V->St->Prop}{l ls lt E lc la:List Nat}{σ:St}{T:Tb}{m:Mp}{s:Sp}{md:Md}
def Gw(I:am z)(h:At z t l):∃k rest,z.a[t]?=some (.j k::rest)/\k≠16/\k≠19:=by
 rcases h.c.c with⟨_,e⟩ |e |⟨_,e⟩
 .subst e;exact⟨1,_,jy I,by decide,by decide⟩
 .obtain⟨r,Y,hk⟩:=ni I (h.d t (by rw[e];simp))
  rcases hk with hk |hk |hk |hk |⟨hk,e⟩ |⟨hk,e⟩
  .induction hk <;>exact⟨_,_,Y,by decide,by decide⟩
  .subst hk;exact⟨8,_,I.at rfl,by decide,by decide⟩
  .subst hk;exact⟨8,_,jA I,by decide,by decide⟩
  .subst hk;exact⟨8,_,lP I,by decide,by decide⟩
  .subst e;exact⟨10,_,Y,by decide,by decide⟩
  .subst e;exact⟨10,_,Y,by decide,by decide⟩
 .exact⟨6,_,e,by decide,by decide⟩
def Gx{k:Int}(h:T[t]?=some (.j k::rest))(U:k≠16):ij T t=none:=by
 unfold ij;rw[h];exact ab λe=>U (V.j.inj e)
def RZ(A:Wf md z h t):∃l,aO z t l/\ae l=l/\cs l<=md.NI h:=by
 induction h using dK with
 |zero=>obtain⟨l,a,_⟩:=A;exact⟨l,a.c,a.f,by rw[kE a.d];exact bb _⟩|succ h=>obtain⟨l,a,b,c,_⟩:=A;exact⟨l,a,b,c⟩
def R0(I:am z)(A:Wf md z h t):(∃k rest,z.a[t]?=some (.j k::rest)/\k≠16/\k≠19)\/∃h',h=h'+1/\vq md z (Wf md z h') t:=by
 induction h using dK with
 |zero=>obtain⟨l,a,_⟩:=A;exact .inl (Gw I a)|succ h=>
  obtain⟨l,a,b,_,c⟩:=A;rcases a.c with⟨_,e⟩ |e |⟨_,e⟩
  .subst e;exact .inl ⟨1,_,jy I,by decide,by decide⟩
  .rcases c t (by rw[e];simp)with⟨q,_⟩ |q
   .exact .inl (Gw I ⟨eG I q,cW,λx H=>by rw[aB]at H;subst H;exact q⟩)
   .exact .inr ⟨h,rfl,q⟩
  .exact .inl ⟨6,_,e,by decide,by decide⟩
def Gy(hz:z.a.length < 4194304)(J:L[i]?=some (bM s))(I:z.a[t]?=some (.j kk::rest))(U:kk≠19)(q:Q (.p [.j t,.o (Y+14)]) (st z L)):
  ar (ai (n+1) 47 [.o (i+14),.j t,.o (Y+14)] (st z L)) Q:=by
 refine az (ρ:=[some (.o (i+14)),some (.j t),some (.o (Y+14)),none,none,none,none,none,none,none]) rfl ?_;refine ag (a_ J rfl) ?_;show hX (λρ k σ=>bK (ai n) (.n .a (.h (.h (.q (.d 4) 18) (.d 1)) (.g 0)) (.p 19)) ρ (λx σ=>et σ x λt=>k t σ) σ) _ (999999+1) [some (.o (i+14)),some (.j t),some (.o (Y+14)),some (.o 10),some (.o 2),some (.j 0),none,none,none,none] _ (st z L);refine x5 ?_;refine ag (co hz I) ?_;refine bF (vF U) ?_;exact q
def Gz{mi:Nat}(hN:1<=N)(hP:∀pv,m=some pv->fq md h N)(I:am z)(room:z.sz+md.gB h+md.rP h<=4190000)(dp:z.b+3*h<=35)(B:0<=z.b)(om:md.cK z m)(A:Wf md z h t)
  (hs:L[i]?=some (bM s)) (u:L[s.a]?=some (.a [.j k])) (w:i≠s.a) (hm:L[mi]?=some (aI m)) (i6:s.b < 100) (U:k < 3000)
  (q:∀z' (r:Nat) l L1,Gr (md.gB h) z z'->L <+:L1->bG z' (λT=>aK h T m t) (if md.a then 4 ^ h else 0) r l->Q .z (st z' (L1.set i (bM {s with g:=r}))))
  (qN:∀h' c a x y d lc la,h=h'+1->z.a[t]?=some (aV c a x y d)->29<=t->At z c lc->At z a la->md.gy lc d->md.eF la->Wf md z h' x->Wf md z h' y->d<=1->
   Q .z (st z (((L.set i (bM {s with b:=s.b+1})).set s.a (.a [.j (k+1:Nat)])).set i (bM {s with b:=s.b+1,e:=aV c a x y d,c:=mi,f:=-1})))):
  ar (ai (N+2) 48 [.o (i+14),.j t,.o (mi+14)] (st z L)) Q:=by
 have hz:z.a.length < 4194304:=Z.bZ (c:=0) ("~47sfRge<LXEm?X7HE" room);refine az (ρ:=[some (.o (i+14)),some (.j t),some (.o (mi+14)),none]) rfl ?_;conv=>whnf
 rcases R0 I A with⟨kk,rest,hr,vw,R5⟩ |⟨h',e,o⟩
 .refine Gy (n:=N) hz hs hr R5 ?_
  conv=>whnf
  refine ag (a_ hs rfl) ?_;conv=>whnf
  refine ag (co hz hr) ?_;have R7:(!ca (.j kk) (.j 16))=true:=by rw[vF vw];rfl
  refine bT R7 ?_;refine ag (a_ hs rfl) ?_;refine az (f:=83) (ρ:=[some (.o 10),some (.j t),some (.o (mi+14))]) rfl ?_
  induction m using aX with
  |none=>
   obtain⟨n,rfl⟩:=eV (k:=1) (N:=N) ("~Vs2GDPTt" hN);refine FO (n:=n) hm ?_;obtain⟨l,hl,H,cl⟩:=RZ A;have j:md.a=true:=om;have Y:bG z (λT=>aK h T none t) (if md.a then 4 ^ h else 0) t l:=by
    refine⟨hl,H,?_,λT p hn=>?_⟩
    .rw[j]
     show cs l<=4 ^ h;refine aL cl ?_;unfold Md.NI;rw[j];exact tL h 4 (by decide)
    .induction h using dK with
     |zero=>
      show ae ((bi T t).flatMap λp=>bi T p)=l;rw[hl.bR I p,sn λx hx=>(fp (hl.d x hx)).bR I p,H]
     |succ h=>
      show ae (match ij T t with |some (c,a,x,y,d)=>cJ T (aK h T) none c a x y d |none=>bi T t)=l;rw[Gx (cH p hr) vw];show ae (bi T t)=l;rw[hl.bR I p,H]
   refine ew hs (bP rfl) ?_;exact q z t l L ((Gr.refl I).mono (bb _)) (aA _) Y
  |some pv=>
   refine hP pv rfl z L t mi pv _ I A om hm room dp B λz' r l L1 g hL hR=>?_;conv=>whnf
   refine ew (aC hs hL) (bP rfl) ?_;exact q z' r l L1 g hL hR
 .subst e
  obtain⟨c,a,x,y,d,lc,la,hr,ft,o,G,oc,J,hx,v,hd⟩:=o;refine Gy (n:=N) hz hs hr (by decide) ?_;conv=>whnf
  refine ag (a_ hs rfl) ?_;conv=>whnf
  refine ag (co hz hr) ?_;have hf:xJ (.o (i+14)) 2 (st z L)=some (78,st z L):=bg hs rfl;refine ag hf ?_;refine Rd (n:=N) hs u w i6 U ?_;have h1:((L.set i (bM {s with b:=s.b+1})).set s.a (.a [.j (k+1:Nat)]))[i]?=some (bM {s with b:=s.b+1}):=bz (aT hs) (Ne.symm w);have hq:=qN h' c a x y d lc la rfl hr ft o G oc J hx v hd;generalize (L.set i (bM {s with b:=s.b+1})).set s.a (.a [.j (k+1:Nat)])=L1 at h1 hq;refine ew h1 (bP rfl) ?_;refine ew (aT h1) (bP rfl) ?_;refine ew (aT (aT h1)) (bP rfl) ?_;simp only[kR];exact hq
end
abbrev lU(md:Md)(z:Z)(h:Nat)(m:Mp)(d:Nat)(lc la:List Nat)(x y:Nat):Prop:=(m=none/\(d=1->lc.length<=1)/\(be lc=true\/be la=true))\/(Wf md z h x/\Wf md z h y)
def lU.gr(q:lU md z h m d lc la x y)(p:z.a <+:z'.a):lU md z' h m d lc la x y:=q.imp id λq=>⟨q.1.gr p,q.2.gr p⟩
abbrev eZ(md:Md)(h N:Nat):Prop:=∀(z:Z) (L:List O) (i:Nat) (s:Sp) (m:Mp) (k c a x y d:Nat) (lc la:List Nat) (Q:V->St->Prop),am z->de z L i s m [] k->s.e=aV c a x y d->s.f=-1->s.g=-1->
 At z c lc->At z a la->md.gy lc d->md.eF la->lU md z h m d lc la x y->d<=1->md.cK z m->s.b+h<=90->k+2*sp (h+1)<=2700->z.sz+md.rF h<=4190000->z.b+3*(h+1)<=35->0<=z.b->
 (∀z' (r:Nat) l L' (k':Nat),Gr (md.gC (md.gB h)) z z'->Fm L L' [i,s.a,s.d]->L'[s.a]?=some (.a [.j k'])->k'<=k+sp (h+1)->bG z' (λT=>cJ T (aK h T) m c a x y d) (if md.a then 4 ^ (h+1)else 0) r l->Q (.j r) (st z' L'))->
 ar (ai N 50 [.o (i+14)] (st z L)) Q
section
variable{C:CT}{z:Z}{L:List O}{n t i N h k c a x y d:Nat}{Q:V->St->Prop}{l ls lt E lc la:List Nat}{σ:St}{T:Tb}{m:Mp}{s:Sp}{md:Md}
def lV(I:am z)(Y:z.a[t]?=some (aV c a x y d))(p:z.a <+:T):aK (h+1) T m t=cJ T (aK h T) m c a x y d:=by
 have o:=zr (cH p Y)
 induction m using aX with
 |none=>unfold aK;rw[o]|some pv=>
  unfold aK;rw[(fp (lT I Y).2).bR I p];show(match ij T t with |some (c,a,x,y,d)=>cJ T (aK h T) (some pv) c a x y d |none=>_)++[]=_;rw[o,b9]
def R8:1<=md.NI h:=by unfold Md.NI;split;exact av _;exact tL _ _ (by decide)
def zw(h:Nat):md.gC (md.gB h)+1<=md.gB (h+1):=by
 show _<=md.NI (h+1)*md.gC (md.gB h)+1;have:=fM (md.gC (md.gB h)) (R8 (md:=md) (h:=h+1));rw[tM]at this;exact "~7558MS^i8rR" this
def R9(Y:1<=N)(u:∀pv,m=some pv->fq md h N)(dE:∀h',h=h'+1->eZ md h' (N+2))(I:am z)(room:z.sz+md.gB h+md.rP h<=4190000)(dp:z.b+3*h<=34)(B:0<=z.b)(A:md.cK z m)(hw:Wf md z h t)
  (S:de z L i s m E k) (j:s.b+h<=90) (U:k+1+2*sp h<=2700)
  (q:∀z' (r:Nat) l L' (k':Nat),Gr (md.gB h) z z'->Fm L L' [s.a]->L'[s.a]?=some (.a [.j k'])->k'<=k+(1+sp h)->bG z' (λT=>aK h T m t) (if md.a then 4 ^ h else 0) r l->Q (.j r) (st z' L')):
  ar (ai (N+3) 51 [.o (i+14),.j t,.o (s.c+14)] (st z L)) Q:=by
 refine az (ρ:=[some (.o (i+14)),some (.j t),some (.o (s.c+14)),none]) rfl ?_;refine ag (a_ S.a rfl) ?_;refine ag (a_ S.a rfl) ?_;refine ag (a_ S.a rfl) ?_;refine ag (a_ S.a rfl) ?_;refine va (n:=N+1) λL1 p1 l1 sC sj=>?_;have w:=S.ext (z':=z) p1;have i0:s.a < L.length:=(bW.mp S.c).1;have sE:s.c < L.length:=(bW.mp S.b).1;refine Gz (N:=N) (i:=L.length) (s:=⟨s.e,s.c,s.b,s.a,L.length+1,-1,-1⟩) Y u I room ("~3MDjKnUsaQV?MPX|OgO" dp) B A hw sC w.c (by show L.length≠s.a;exact "~2GzJy?1k" i0) w.b (by show s.b < 100;exact "~1HwV^nMEDcjh4u" j) ("~4?h=^R7805SzSvLv8" U) (λz' r l L2 g p2 hR=>?_) (λh' c a x y d lc la eh hr ft o G oc oa H hy hd=>?_)
 .have gA:(L2.set L.length (bM {e:=s.e,c:=s.c,b:=s.b,a:=s.a,d:=L.length+1,f:=-1,g:=r}))[L.length]?=_:=aT (aC sC p2)
  have sF:(L2.set L.length (bM {e:=s.e,c:=s.c,b:=s.b,a:=s.a,d:=L.length+1,f:=-1,g:=r}))[s.a]?=some (.a [.j k]):=bz (aC w.c p2) ("~2GzJy?1k" i0);have sG:Fm L (L2.set L.length (bM {e:=s.e,c:=s.c,b:=s.b,a:=s.a,d:=L.length+1,f:=-1,g:=r})) [s.a]:=Fm.pre (bE (p1.trans p2) (av _));generalize L2.set L.length (bM {e:=s.e,c:=s.c,b:=s.b,a:=s.a,d:=L.length+1,f:=-1,g:=r})=L3 at gA sF sG;refine ag (a_ gA rfl) ?_;refine ag (a_ gA rfl) ?_;exact q z' r l L3 k g sG sF (eo _ _) hR
 .subst eh
  have gA:=aT (o':=bM {e:=aV c a x y d,c:=s.c,b:=s.b+1,a:=s.a,d:=L.length+1,f:=-1,g:=-1}) (bz (o':=.a [.j (k+1:Nat)]) (i:=s.a) (aT (o':=bM {e:=s.e,c:=s.c,b:=s.b+1,a:=s.a,d:=L.length+1,f:=-1,g:=-1}) sC) ("~TJx2T=<R" i0));have sF:=bz (i:=L.length) (o':=bM {e:=aV c a x y d,c:=s.c,b:=s.b+1,a:=s.a,d:=L.length+1,f:=-1,g:=-1}) (aT (o':=.a [.j (k+1:Nat)]) (bz (i:=L.length) (o':=bM {e:=s.e,c:=s.c,b:=s.b+1,a:=s.a,d:=L.length+1,f:=-1,g:=-1}) w.c ("~2GzJy?1k" i0))) ("~2GzJy?1k" i0);have i3:=bz (i:=L.length) (o':=bM {e:=aV c a x y d,c:=s.c,b:=s.b+1,a:=s.a,d:=L.length+1,f:=-1,g:=-1}) (bz (i:=s.a) (o':=.a [.j (k+1:Nat)]) (bz (i:=L.length) (o':=bM {e:=s.e,c:=s.c,b:=s.b+1,a:=s.a,d:=L.length+1,f:=-1,g:=-1}) w.b ("~2GzJy?1k" sE)) (Ne.symm S.ne1.2.2.2.1)) ("~2GzJy?1k" sE);have sk:=bz (i:=L.length) (o':=bM {e:=aV c a x y d,c:=s.c,b:=s.b+1,a:=s.a,d:=L.length+1,f:=-1,g:=-1}) (bz (i:=s.a) (o':=.a [.j (k+1:Nat)]) (bz (i:=L.length) (o':=bM {e:=s.e,c:=s.c,b:=s.b+1,a:=s.a,d:=L.length+1,f:=-1,g:=-1}) sj ("~7y5QJo18>" id)) ("~NiHf4zuMs?" i0)) ("~7y5QJo18>" id);have sG:Fm L (((L1.set L.length (bM {e:=s.e,c:=s.c,b:=s.b+1,a:=s.a,d:=L.length+1,f:=-1,g:=-1})).set s.a (.a [.j (k+1:Nat)])).set L.length (bM {e:=aV c a x y d,c:=s.c,b:=s.b+1,a:=s.a,d:=L.length+1,f:=-1,g:=-1})) [s.a]:=
   Fm.new p1 (((Fm.set (ex:=[L.length,s.a]) (by simp)).trans (Fm.set (by simp))).trans (Fm.set (by simp))) (λx H hl=>by
    simp only[bH,dU,kX]at H ⊢;rcases H with e |e
    .lia
    .exact e)
  generalize ((L1.set L.length (bM {e:=s.e,c:=s.c,b:=s.b+1,a:=s.a,d:=L.length+1,f:=-1,g:=-1})).set s.a (.a [.j (k+1:Nat)])).set L.length (bM {e:=aV c a x y d,c:=s.c,b:=s.b+1,a:=s.a,d:=L.length+1,f:=-1,g:=-1})=L3 at gA sF i3 sk sG;have X6:L.length < L3.length:=(bW.mp gA).1;refine ag (a_ gA rfl) ?_;have X7:sp (h'+1)=4*(1+sp h'):=rfl;have sH:=zw (md:=md) h';have v:md.rP (h'+1)=md.rF h':=rfl;refine dE h' rfl z L3 L.length ⟨aV c a x y d,s.c,s.b+1,s.a,L.length+1,-1,-1⟩ m (k+1) c a x y d lc la _ I ⟨gA,i3,sF,sk,by show s.a≠L.length+1;exact "~NiHf4zuMs?" i0⟩ rfl rfl rfl o G oc oa (.inr ⟨H,hy⟩) hd A (by show s.b+1+h'<=90;exact "~3MR5uWQfn9WYkMEMNIg" j) ("~f4pPWd>GLFmyf1mAiJuLe" U) ("~Wu8qPZf0>wU|lcXBrGa1KIP" v room) ("~2KnUkO_D_Cpc8lvSoBs;bgl" dp) B λz' r l L' k' g hf J jC hR=>?_;refine q z' r l L' k' (g.mono ("~8Qs>azpMF" sH)) (sG.then hf ?_) J ("~1Js|50_0rQBKBA" jC) ⟨hR.a,hR.e,hR.d,λT p hn=>by rw[lV I hr (g.d.trans p)];exact hR.c T p hn⟩;intro x H hl;simp only[bH,dU,kX]at H ⊢;rcases H with e |e |e
  .lia
  .exact e
  .lia
end
abbrev jD(z:Z)(E S:List Nat):Prop:=(∀e∈E,∃l,aO z e l/\ae l=l)/\S=E.flatMap (bi z.a)
def jD.gr(I:am z)(h:jD z E S)(p:z.a <+:z'.a):jD z' E S:=by
 refine⟨λe J=>let ⟨l,a,b⟩:=h.1 e J;⟨l,a.gr p,b⟩,?_⟩;rw[h.2];exact i5 λe J=>by obtain⟨l,a,_⟩:=h.1 e J;rw[a.bR I p,a.bR I (aA _)]
abbrev bU(c:Nat):Nat:=if c=0 then 2 else 1
def vy:1<=bU c:=by unfold bU;split <;>decide
def pf:bU c<=2:=by unfold bU;split <;>decide
def vz:(bU c - 1)*X+X=bU c*X:=by rw[<-kY,Nat.succ_eq_add_one,J0 vy]
def GA:(bU c - 1)*X<=X:=by have:=fM X (Nat.sub_le_sub_right (pf (c:=c)) 1);rw[tM]at this;exact this
def R_:bU c*X<=2*X:=fM X pf
def nq(A B:List Nat):cs (A++B)=cs A+cs B:=by unfold cs;rw[List.filter_append,b_]
abbrev Md.b(md:Md)(h:Nat):Nat:=if md.a then 4 ^ h else 0
abbrev Md.gT(md:Md)(h nb:Nat):Nat:=if md.a then 4*md.gB h+30 else nb*md.gB h+30
section
variable{C:CT}{z:Z}{L:List O}{n t i N h k c a x y d:Nat}{Q:V->St->Prop}{l ls lt E lc la:List Nat}{σ:St}{T:Tb}{m:Mp}{s:Sp}{md:Md}
structure TD(z:Z)(L:List O)(i:Nat)(s:Sp)(E:List Nat)(k:Nat)(g b sv:Nat)(val:Tb->List Nat)(z':Z)(r:Nat)(L':List O)(k':Nat)(E' S:List Nat)(s':Sp):Prop where
 a:Gr g z z'
 t:Fm L L' [i,s.a,s.d]
 c:L'[i]?=some (bM s')
 f:s'.g=r
 w:s'.d=s.d
 x:L'[s.d]?=some (.a (aa (E++E')))
 l:L'[s.a]?=some (.a [.j k'])
 o:k'<=k+sv
 y:(E++E').length<=99
 d:jD z' (E'++[r]) S
 j:cs S<=b
 u:∀T,z'.a <+:T->T.Nodup->ae (val T)=ae S
structure TN(md:Md)(z:Z)(L:List O)(i:Nat)(s:Sp)(m:Mp)(E:List Nat)(k:Nat)(h en g b sv:Nat)(val:Tb->List Nat)(z':Z)(L':List O)(k':Nat)(E' S:List Nat)(h' c a x y d:Nat)(lc la:List Nat):Prop where
 v:h=h'+1
 f:Gr g z z'
 w:Fm L L' [i,s.a,s.d]
 q:de z' L' i {s with e:=aV c a x y d,b:=s.b+1,f:=-1} m (E++E') k'
 u:k'<=k+sv
 G:At z' c lc
 H:At z' a la
 r:md.gy lc d
 t:md.eF la
 o:Wf md z' h' x
 l:Wf md z' h' y
 C:d<=1
 B:E'.length<=en
 j:jD z' E' S
 F:cs S<=b
 A:∀T,z'.a <+:T->T.Nodup->ae (val T)=ae (S++cJ T (aK h' T) m c a x y d)
def GB(hP:md.a=true->fq md h N)(I:am z)(room:z.sz+4*md.gB h+md.rP h+4<=4190000)(dp:z.b+3*h<=35)(B:0<=z.b)(j:md.a=true)(om:md.cK z m)(hE:E.length<=99)
  (S:de z L i s m E k) (hr:s.e=aV c a x y d)
  (hp:(s.f=-1/\∀T,z.a <+:T->T.Nodup->db T m c=c')\/(s.f=(c':Int)/\c=c')) (o:At z c lc) (cL:At z c' lc') (G:At z a la) (H:m=none\/(Wf md z h x/\Wf md z h y))
  (f:∀T,z.a <+:T->T.Nodup->val T=[wF T (aK h T) m c' a x y d])
  (q:∀z' r L' k' E' S' s',TD z L i s E k (4*md.gB h+4) 1 0 val z' r L' k' E' S' s'->Q .z (st z' L')):
  ar (ai (N+6) 41 [.o (i+14)] (st z L)) Q:=by
 refine az (ρ:=[some (.o (i+14))]) rfl ?_;refine RX (N:=N) hP I room dp B j om S.a hr S.b hp o cL G H λz' w L' g Y ft A v=>?_;refine ew (aC S.a Y) (bP rfl) ?_;have oG:=S.ne1;have U:=A.bR g.e (aA _);refine q z' w (L'.set i (bM {s with g:=w})) k [] [w] {s with g:=w} ⟨g,(Fm.pre Y).trans (Fm.set (by simp)),aT (aC S.a Y),rfl,rfl,?_,bz (aC S.c Y) oG.1,av _,by rw[b9];exact hE,⟨λe J=>?_,?_⟩,?_,λT p u=>?_⟩
 .rw[b9];exact bz (aC S.d Y) oG.2.1
 .rw[dh,aB]at J;subst J;exact⟨_,A,cW⟩
 .rw[dh,dJ,ji,b9,U]
 .unfold cs;exact jR _ _
 .rw[f T (g.d.trans p) u,v T p u]
def zx(Y:1<=N)(hP:∀pv,m=some pv->fq md h N)(I:am z)(room:z.sz+md.gB h+md.rP h<=4190000)(dp:z.b+3*h<=34)(B:0<=z.b)(A:md.cK z m)(hw:Wf md z h t)
  (S:de z L i s m E k) (j:s.b < 100) (hE:E.length<=99) (U:k < 3000)
  (q:∀z' r L' k' E' S' s',TD z L i s E k (md.gB h) (md.b h) 0 (λT=>aK h T m t) z' r L' k' E' S' s'->Q .z (st z' L'))
  (f:∀z' L' k' E' S' h' c a x y d lc la,TN md z L i s m E k h 0 0 0 1 (λT=>aK h T m t) z' L' k' E' S' h' c a x y d lc la->Q .z (st z' L')):
  ar (ai (N+2) 48 [.o (i+14),.j t,.o (s.c+14)] (st z L)) Q:=by
 have w:=S.ne1;refine Gz Y hP I room ("~3MDjKnUsaQV?MPX|OgO" dp) B A hw S.a S.c w.1 S.b j U (λz' r l L1 g hL hR=>?_) (λh' c a x y d lc la eh hr ft o G oc oa H v hd=>?_)
 .have hp:=hR.a.bR g.e (aA _)
  refine q z' r _ k [] l {s with g:=r} ⟨g,(Fm.pre hL).trans (Fm.set (by simp)),aT (aC S.a hL),rfl,rfl,?_,bz (aC S.c hL) w.1,av _,by rw[b9];exact hE,⟨λe J=>?_,?_⟩,hR.d,λT p u=>?_⟩
  .rw[b9];exact bz (aC S.d hL) w.2.1
  .rw[dh,aB]at J;subst J;exact⟨_,hR.a,hR.e⟩
  .rw[dh,dJ,ji,b9,hp]
  .rw[hR.c T p u,hR.e]
 .subst eh
  refine f z _ (k+1) [] [] h' c a x y d lc la ⟨rfl,Gr.refl I,((Fm.set (by simp)).trans (Fm.set (by simp))).trans (Fm.set (by simp)),⟨?_,?_,?_,?_,S.f⟩,av _,o,G,oc,oa,H,v,hd,av _,⟨λe J=>(nomatch J),rfl⟩,av _,λT p u=>?_⟩
  .exact aT (bz (aT S.a) (Ne.symm w.1))
  .exact bz (bz (bz S.b w.2.2.1) (Ne.symm w.2.2.2.1)) w.2.2.1
  .exact bz (aT (bz S.c w.1)) w.1
  .rw[b9]
   exact bz (bz (bz S.d w.2.1) S.f) w.2.1
  .rw[lV I hr p];rfl
def TD.mono(D:TD z L i s E k g b sv val z' r L' k' E' S' s')(H:g<=Y)(U:b<=G)(J:sv<=I)
  (B:∀T,z'.a <+:T->T.Nodup->ae (val' T)=ae (val T)):TD z L i s E k Y G I val' z' r L' k' E' S' s':=
 ⟨D.a.mono H,D.t,D.c,D.f,D.w,D.x,D.l,aL D.o ("~1xL3<KmOfG" J),D.y,D.d,aL D.j U,λT p n=>(B T p n).trans (D.u T p n)⟩
def TN.mono(D:TN md z L i s m E k h en g b sv val z' L' k' E' S' h' c a x y d lc la)(J:en<=Y)(U:g<=g')(hb:b<=b')(hs:sv<=I)
  (hv:∀T,z'.a <+:T->T.Nodup->ae (val' T)=ae (val T)):TN md z L i s m E k h Y g' b' I val' z' L' k' E' S' h' c a x y d lc la:=
 ⟨D.v,D.f.mono U,D.w,D.q,aL D.u ("~1xL3<KmOfG" hs),D.G,D.H,D.r,D.t,D.o,D.l,D.C,aL D.B J,D.j,aL D.F hb,λT p n=>(hv T p n).trans (D.A T p n)⟩
def TD.before(D:TD z L i s (E++I) k g b sv val z' r L' k' E' S' s')(A:Gr g0 z0 z)(f1:Fm L0 L [i,s.a,s.d])(U:k<=G+v)(Y:jD z I S0)(c0:cs S0<=q)
  (B:∀T,z'.a <+:T->T.Nodup->ae (val' T)=ae (S0++val T)):TD z0 L0 i s E G (g0+g) (q+b) (v+sv) val' z' r L' k' (I++E') (S0++S') s':=by
 have H:=Y.gr A.e D.a.d;refine⟨A.trans D.a,f1.trans D.t,D.c,D.f,D.w,by rw[<-c6];exact D.x,D.l,by have v1:=D.o;exact "~4tFPMUcndaBsQ=x" v1 U,by rw[<-c6];exact D.y,⟨λe J=>?_,?_⟩,by rw[nq];have v2:=D.j;exact "~KUoXt;JxMNP8" c0 v2,λT p n=>?_⟩
 .rw[c6]at J
  rcases aZ.mp J with h |h
  .exact H.1 e h
  .exact D.d.1 e h
 .rw[c6,qv,<-H.2,<-D.d.2]
 .rw[B T p n,<-eD,D.u T p n,eD]
def TN.before(D:TN md z L i s m (E++I) k h en g b sv val z' L' k' E' S' h' c a x y d lc la)(g1:Gr g0 z0 z)(f1:Fm L0 L [i,s.a,s.d])(U:k<=k0+v0)(Y:jD z I S0)(c0:cs S0<=b0)
  (hv:∀T,z'.a <+:T->T.Nodup->ae (val' T)=ae (S0++val T)):TN md z0 L0 i s m E k0 h (I.length+en) (g0+g) (b0+b) (v0+sv) val' z' L' k' (I++E') (S0++S') h' c a x y d lc la:=by
 have sI:=Y.gr g1.e D.f.d;refine⟨D.v,g1.trans D.f,f1.trans D.w,by rw[<-c6];exact D.q,by have v1:=D.u;exact "~4tFPMUcndaBsQ=x" v1 U,D.G,D.H,D.r,D.t,D.o,D.l,D.C,by rw[b_];have v2:=D.B;exact "~1xL3<KmOfG" v2,⟨λe J=>?_,?_⟩,by rw[nq];have v3:=D.F;exact "~KUoXt;JxMNP8" c0 v3,λT p n=>?_⟩
 .rcases aZ.mp J with h |h
  .exact sI.1 e h
  .exact D.j.1 e h
 .rw[qv,<-sI.2,<-D.j.2]
 .rw[hv T p n,c6,<-eD,D.A T p n,eD]
def Sa{v:Nat}(hN:1<=N)(hf:f<=N)(u:∀N,f<=N->fq md h N)(dE:∀h',h=h'+1->∀N,f<=N->eZ md h' N)(I:am z)(room:z.sz+4*md.gB h+md.rP h+4<=4190000)(dp:z.b+3*h<=34)(B:0<=z.b)(A:md.cK z m)
  (S:de z L i s m E k) (hr:s.e=aV c a x y d) (j:s.b+h<=90) (hE:E.length < 99) (U:k+4*(1+sp h)<=2700)
  (hp:(s.f=-1/\∀T,z.a <+:T->T.Nodup->db T m c=c')\/(s.f=(c':Int)/\c=c')) (o:At z c lc) (cL:At z c' lc') (G:At z a la) (H:(m=none/\v=3)\/(Wf md z h x/\Wf md z h y))
  (hv:v=0\/v=1\/v=2\/(v=3/\md.a=true))
  (gD:∀T,z.a <+:T->T.Nodup->val T=if v=3 then[wF T (aK h T) m c' a x y d]else if v=1 then aK h T m x else if v=2 then aK h T m x++aK h T m y else aK h T m y)
  (pg:v=2->nb=2) (sJ:1<=nb) (vA:nb<=2)
  (qD:∀z' r L' k' E' S' s',TD z L i s E k (if md.a then 4*md.gB h+4 else nb*md.gB h) (nb*(if md.a then 4 ^ h else 0)) (nb*(1+sp h)) val z' r L' k' E' S' s'->Q .z (st z' L'))
  (qN:∀z' L' k' E' S' h' c a x y d lc la,TN md z L i s m E k h 1 ((nb - 1)*md.gB h) ((nb - 1)*(if md.a then 4 ^ h else 0)) ((nb - 1)*(1+sp h)+1) val z' L' k' E' S' h' c a x y d lc la->Q .z (st z' L')):
  ar (ai (N+7) 46 [.o (i+14),.j v,.o (s.c+14)] (st z L)) Q:=by
 refine az (ρ:=[some (.o (i+14)),some (.j v),some (.o (s.c+14))]) rfl ?_;have w:=S.ne1;have b1:md.b h<=nb*(if md.a then 4 ^ h else 0):=by
  unfold Md.b;exact tN _ sJ
 have g1:md.gB h<=(if md.a then 4*md.gB h+4 else nb*md.gB h):=by
  split
  .exact "~9wnjNbJt<" id
  .exact tN _ sJ
 have s1:1+sp h<=nb*(1+sp h):=tN _ sJ;rcases hv with e |e |e |⟨e,jE⟩
 .subst e
  obtain⟨hx,hy⟩:=H.resolve_left (λq=>(nomatch q.2));refine ag (a_ S.a rfl) ?_;rw[hr];refine ag (a_ S.a rfl) ?_;refine zx (N:=N+4) (t:=y) ("~bOjFpuZS" id) (λpv C=>u _ ("~8RCdW1<7|" hf)) I ("~20XslX>O2hMio3jt62vfReZAK" room) dp B A hy S ("~1HwV^nMEDcjh4u" j) ("~KNooqSj8I^R^" hE) ("~4?h=^PUlOiIWIorzF" U) (λz' r L' k' E' S' s' D=>?_) (λz' L' k' E' S' h' c2 a2 x2 Y d2 ed ef D=>?_)
  .exact qD z' r L' k' E' S' s' (D.mono g1 b1 ("~jyJGaC" id) λT p n=>by rw[gD T (D.a.d.trans p) n];rfl)
  .exact qN z' L' k' E' S' h' c2 a2 x2 Y d2 ed ef (D.mono (bb _) (bb _) (bb _) (xm _ _) λT p n=>by rw[gD T (D.f.d.trans p) n];rfl)
 .subst e
  obtain⟨hx,hy⟩:=H.resolve_left (λq=>(nomatch q.2));refine ag (a_ S.a rfl) ?_;rw[hr];refine zx (N:=N+4) (t:=x) ("~bOjFpuZS" id) (λpv C=>u _ ("~8RCdW1<7|" hf)) I ("~20XslX>O2hMio3jt62vfReZAK" room) dp B A hx S ("~1HwV^nMEDcjh4u" j) ("~KNooqSj8I^R^" hE) ("~4?h=^PUlOiIWIorzF" U) (λz' r L' k' E' S' s' D=>?_) (λz' L' k' E' S' h' c2 a2 x2 Y d2 ed ef D=>?_)
  .exact qD z' r L' k' E' S' s' (D.mono g1 b1 ("~jyJGaC" id) λT p n=>by rw[gD T (D.a.d.trans p) n];rfl)
  .exact qN z' L' k' E' S' h' c2 a2 x2 Y d2 ed ef (D.mono (bb _) (bb _) (bb _) (xm _ _) λT p n=>by rw[gD T (D.f.d.trans p) n];rfl)
 .subst e
  have pg:=pg rfl;subst pg;obtain⟨hx,hy⟩:=H.resolve_left (λq=>(nomatch q.2));refine ag (a_ S.a rfl) ?_;have hex:gH .a (.o (s.d+14)) (st z L)=some ((),st z L):=ec .a S.d (.inl rfl);refine ag hex ?_;refine ag (a_ S.a rfl) ?_;rw[hr];refine R9 (N:=N+3) (t:=x) ("~bO;NhYYz" id) (λpv C=>u _ ("~8RCa|9M=H" hf)) (λh' e=>dE h' e _ ("~755;UuZfQBP" hf)) I ("~20XslX>O2hMio3jt62vfReZAK" room) dp B A hx S j ("~f4pPWMNLp_vjkg1B^|kCN" U) λz1 J l1 L1 k1 i7 f1 Se zy R1=>?_;have g:=i7.f;have f_:L1[i]?=some (bM s):=f1.2 i _ (by simp;exact w.1) S.a;have Sf:L1[s.c]?=some (aI m):=f1.2 _ _ (by simp;exact w.2.2.2.1) S.b;have ex1:L1[s.d]?=some (.a (aa E)):=f1.2 _ _ (by simp;exact Ne.symm S.f) S.d;have Sg:Fm L L1 [i,s.a,s.d]:=f1.mono (by simp);refine eb ex1 (by rw[cI];exact "~PM|71?7sN1" hE) ?_;rw[show aa E++[V.j (J:Int)]=aa (E++[J])by rw[ic];rfl];have S2:de z1 (L1.set s.d (.a (aa (E++[J])))) i s m (E++[J]) k1:=⟨bz f_ (Ne.symm w.2.1),bz Sf (Ne.symm w.2.2.2.2),bz Se (Ne.symm S.f),aT ex1,S.f⟩;have f2:Fm L (L1.set s.d (.a (aa (E++[J])))) [i,s.a,s.d]:=Sg.trans (Fm.set (by simp));generalize L1.set s.d (.a (aa (E++[J])))=L2 at S2 f2;have GC:jD z1 [J] l1:=⟨λe he=>by rw[aB]at he;subst he;exact⟨_,R1.a,R1.e⟩,by rw[dJ,ji,b9,R1.a.bR i7.e (aA _)]⟩;refine ag (a_ S2.a rfl) ?_;rw[hr];refine ag (a_ S2.a rfl) ?_;refine zx (N:=N+4) (t:=y) ("~bOjFpuZS" id) (λpv C=>u _ ("~8RCdW1<7|" hf)) i7.e ("~1MDXbOUry>IxgZirj5yKDGptW6H72" room g) (by rw[i7.i];exact dp) (by rw[i7.i];exact B) (ik A i7.d) (hy.gr i7.d) S2 ("~1HwV^nMEDcjh4u" j) (by rw[b_];simp only[bI,dG];exact "~CkzGV0y7cdeD2gbf" hE) ("~2LUs|zxg6|N3rjrr06tj0Ep" U zy) (λz' r L' k' E' S' s' D=>?_) (λz' L' k' E' S' h' c2 a2 x2 Y d2 ed ef D=>?_)
  .refine qD z' r L' k' _ _ s' ((D.before (val':=val) i7 f2 zy GC R1.d λT p n=>?_).mono ?_ ?_ ("~6xT_y^JsZX3^Y" id) λT p n=>rfl)
   .rw[gD T (i7.d.trans (D.a.d.trans p)) n]
    show ae (aK h T m x++aK h T m y)=_;rw[<-gx,R1.c T (D.a.d.trans p) n]
   .split <;>lia
   .unfold Md.b;exact "~bOlZE5HS" id
  .refine qN z' L' k' _ _ h' c2 a2 x2 Y d2 ed ef ((D.before (val':=val) i7 f2 zy GC R1.d λT p n=>?_).mono (av _) ?_ ?_ (by lia) λT p n=>rfl)
   .rw[gD T (i7.d.trans (D.f.d.trans p)) n]
    show ae (aK h T m x++aK h T m y)=_;rw[<-gx,R1.c T (D.f.d.trans p) n]
   .lia
   .lia
 .subst e
  refine GB (N:=N) (val:=val) (λC=>u _ hf) I room ("~3MDjKnUsaQV?MPX|OgO" dp) B jE A ("~KNooqSj8I^R^" hE) S hr hp o cL G (H.imp (λq=>q.1) id) (λT p n=>by rw[gD T p n];rfl) λz' r L' k' E' S' s' D=>?_;refine qD z' r L' k' E' S' s' (D.mono ?_ ?_ (bb _) λT p n=>rfl)
  .rw[jE];exact av _
  .rw[jE];exact aL (tL h 4 (by decide)) (tN _ sJ)
end
section
variable{C:CT}{z:Z}{L:List O}{n t i N h k c a x y d:Nat}{Q:V->St->Prop}{l ls lt E lc la:List Nat}{σ:St}{T:Tb}{m:Mp}{s:Sp}{md:Md}
def TD.grown(D:TD z L i s E k g b sv val z' r L' k' E' S' s')(A:Gr g0 z0 z)(p:L0 <+:L):TD z0 L0 i s E k (g0+g) b sv val z' r L' k' E' S' s':=
 ⟨A.trans D.a,(Fm.pre p).trans D.t,D.c,D.f,D.w,D.x,D.l,D.o,D.y,D.d,D.j,D.u⟩
def TN.grown(D:TN md z L i s m E k h en g b sv val z' L' k' E' S' h' c a x y d lc la)(Y:Gr g0 z0 z)(p:L0 <+:L):TN md z0 L0 i s m E k h en (g0+g) b sv val z' L' k' E' S' h' c a x y d lc la:=
 ⟨D.v,Y.trans D.f,(Fm.pre p).trans D.w,D.q,D.u,D.G,D.H,D.r,D.t,D.o,D.l,D.C,D.B,D.j,D.F,D.A⟩
def TD.zz(S:de z L i s m E k)(U:E.length<=99)(A:Gr g z z')(p:L <+:L')(B:At z' v lv)(J:∀T,z'.a <+:T->T.Nodup->ae (val T)=lv):
  TD z L i s E k g b sv val z' v (L'.set i (bM {s with g:=v})) k [] lv {s with g:=v}:=by
 have Y:=S.ne1;refine⟨A,(Fm.pre p).trans (Fm.set (by simp)),aT (aC S.a p),rfl,rfl,?_,bz (aC S.c p) Y.1,eo _ _,by rw[b9];exact U,⟨λe J=>?_,?_⟩,by rw[kE B.d];exact bb _,λT q n=>by rw[J T q n,B.f]⟩
 .rw[b9];exact bz (aC S.d p) Y.2.1
 .rw[dh,aB]at J;subst J;exact⟨_,B.c,B.f⟩
 .rw[dh,dJ,ji,b9,B.c.bR A.e (aA _)]
def GD(G:pid=2)(Y:27∉l)(B:be lv=false):be (c5 (some (pid,v)) lv l)=false:=by
 unfold be at B ⊢;rw[qt]at B ⊢;have dk:27∉lv:=λe=>by rw[bj.mpr e]at B;cases B.1
 have lW:28∉lv:=λe=>by rw[bj.mpr e]at B;cases B.2
 have key:∀q,q∉lv->(q∈l->q=28)->q∉c5 (some (pid,v)) lv l:=λq h1 h2 h3=>by
  obtain⟨p,J,H⟩:=fu.mp h3
  split at H
  .exact h1 H
  .rename_i w
   rw[aB]at H;subst H;have:=h2 J;lia
 exact⟨el.mpr λe=>key 27 dk (λe=>absurd e Y) (bj.mp e),el.mpr λe=>key 28 lW (λQ=>rfl) (bj.mp e)⟩
def GF(h:be l=false):be (ae l)=false:=by
 unfold be at h ⊢;rw[qt]at h ⊢;exact⟨el.mpr λe=>by(rw[bj.mpr (ct (bj.mp e))]at h;cases h.1),el.mpr λe=>by(rw[bj.mpr (ct (bj.mp e))]at h;cases h.2)⟩
abbrev GG:List CS:=[.h (.j 36 [.d 1,.d 3,.j 35 [.q (.d 1) 21,.d 2]]) [.k (.j 41 [.d 0])] [.h (.j 29 [.d 1,.h (.d 2) (.g 5),.q (.d 0) 8]) [.j] [.k (.j 45 [.d 0,.d 2,.d 3])]]]
def GH(zA:ρ=[some (.o (i+14)),some (.o 10),some (.p s.e),some (.j c')])(hN:1<=N)(hf:f<=N)(hP:∀N,f<=N->fq md h N)(dE:∀h',h=h'+1->∀N,f<=N->eZ md h' N)(I:am z)(ph:z.sz+4*md.gB h+md.rP h+30<=4190000)(dp:z.b+3*h<=34)(B:0<=z.b)(om:md.cK z m)
  (S:de z L i s m E k) (hr:s.e=aV c a x y d) (i6:s.b+h<=90) (hE:E.length < 99) (U:k+4*(1+sp h)<=2700)
  (J:(s.f=-1/\∀T,z.a <+:T->T.Nodup->db T m c=c')\/(s.f=(c':Int)/\c=c')) (o:At z c lc) (cL:At z c' lc') (G:At z a la) (oa:md.eF la) (H:(m=none/\(be lc'=true\/be la=true))\/(Wf md z h x/\Wf md z h y)) (dY:md.a=false->be lc'=false)
  (qD:∀z' r L' k' E' S' s',TD z L i s E k (md.gT h (bU c')) ((bU c')*(if md.a then 4 ^ h else 0)) ((bU c')*(1+sp h)) (λT=>cz T (aK h T) m c' a x y d) z' r L' k' E' S' s'->∀ρ,K .a ρ (st z' L'))
  (qN:∀z' L' k' E' S' h' v a2 x2 Y d2 ed ef,TN md z L i s m E k h 1 (((bU c') - 1)*md.gB h+21) (((bU c') - 1)*(if md.a then 4 ^ h else 0)) (((bU c') - 1)*(1+sp h)+1) (λT=>cz T (aK h T) m c' a x y d) z' L' k' E' S' h' v a2 x2 Y d2 ed ef->∀ρ,K .a ρ (st z' L')):
  aM (ai (N+11)) GG ρ K (st z L):=by
 subst zA;have hz:z.a.length < 4194304:=Z.bZ (c:=0) ("~;UcHMQ_1GWd_Af7YgNS=F3" ph);have pi:∀T,z.a <+:T->bi T c'=lc':=λT p=>cL.c.bR I p;rw[hr];refine Fu (n:=N+10) I hz o.c G.c ?_;refine Fs (n:=N+8) I hz cL.c ?_;rw[Ge I cL.d];generalize ho:be lc'=x_
 induction x_ using aS with
 |true=>
  have jE:md.a=true:=by
   generalize e:md.a=x_
   induction x_ using aS with
   |true=>rfl|false=>rw[dY e]at ho;cases ho
  refine GB (N:=N+5) (val:=λT=>cz T (aK h T) m c' a x y d) (λQ=>hP _ ("~8RCg5ux3c" hf)) I ("~59=sgL?tfVnA72euf0CLm4gAFTSKyr" ph) ("~3MDjKnUsaQV?MPX|OgO" dp) B jE om ("~KNooqSj8I^R^" hE) S hr J o cL G (H.imp (λq=>q.1) id) (λT p n=>by unfold cz;rw[pi T p,ho];rfl) λz' r L' k' E' S' s' D=>?_;refine qD z' r L' k' E' S' s' (D.mono ?_ ?_ (bb _) λT p n=>rfl) _
  .unfold Md.gT;rw[jE];show 4*md.gB h+4<=4*md.gB h+30;exact "~KJ=F6MBC4FClux" id
  .rw[jE]
   exact aL (tL h 4 (by decide)) (tN _ vy)
 |false=>
  have kc:=Gf cL.d ho;refine ag (a_ S.a rfl) ?_;refine Ra (n:=N+10) ?_;refine az (f:=45) (ρ:=[some (.o (i+14)),some (.p (aV c a x y d)),some (.j c'),none,none,none,none,none]) rfl ?_;refine ag (a_ S.a rfl) ?_;refine ag (a_ S.a rfl) ?_;refine Gm (n:=N+2) I ("~7J2;Apc<ogTUnuX3c^N?fj08>5" ph) G S.b om λu a' L1 pj A p1 sK e1 e2 e3=>?_;have s1:=A.f;have gM:u.a.length < 4194304:=Z.bZ (c:=0) ("~1eCAaoMIL9NIX4TzcT0iotXp|^u" ph s1);obtain⟨kk,rest,zB,Sh⟩:=sq A.e sK;have S1:=S.ext (z':=u) p1;have Si:md.a=false->be pj=false:=λe=>by
   induction m using aX with
   |none=>rw[show md.a=true from om]at e;cases e|some pv=>
    obtain⟨lv,hv,_,_,_,GI⟩:=nl om;rw[e3 pv lv rfl hv];exact GF (GD (GI e).1 (oa e) (GI e).2)
  refine vr (n:=N+7) A.e gM zB Sh ?_;refine ag (a_ S1.a rfl) ?_;refine aP (a:=.j 0) (σ:=st u L1) rfl ?_;conv=>whnf
  have cv:ca (.j a') (.j 13)=(a'==13):=by
   by_cases h:a'=13
   .subst h;rfl
   .rw[vF ("~1I;8B4iIgVS>z3" h),cB.mpr h]
  rw[cv];by_cases w:a'=13
  .rw[aH.mpr w]
   refine ew S1.a (bP rfl) ?_;have nk:At u 13 [13]:=⟨fp (nd A.e (by decide)),cW,by decide⟩;refine qD u 13 _ k [] [13] {s with g:=13} (TD.zz S ("~KNooqSj8I^R^" hE) (A.mono ?_) p1 nk λT q n=>?_) _
   .unfold Md.gT;split <;>lia
   .show ae (cz T (aK h T) m c' a x y d)=_
    unfold cz;rw[pi T (A.d.trans q),ho,e1 T q n,w];rfl
  .rw[cB.mpr w]
   refine Fu (n:=N+9) A.e gM (o.gr A.d).c (G.gr A.d).c ?_;refine RM (n:=N) A.e ("~zv00RPKxH>>Dyiu?vc<7mDjJmTFhbgmZ" ph s1) (cL.gr A.d).c cL.f kc sK.c sK.f sK.d w λz2 L2 j p2=>?_;have s2:=j.f;have Sj:jv c' a' lc' pj=0\/jv c' a' lc' pj=1\/jv c' a' lc' pj=2\/(jv c' a' lc' pj=3/\md.a=true):=by
    unfold jv
    split
    .rename_i h
     refine .inr (.inr (.inr ⟨rfl,?_⟩));generalize e:md.a=x_
     induction x_ using aS with
     |true=>rfl|false=>rw[Si e]at h;cases h
    .split
     .exact .inr (.inl rfl)
     .split
      .exact .inr (.inr (.inl rfl))
      .split
       .exact .inr (.inl rfl)
       .exact .inl rfl
   have j2:jv c' a' lc' pj=2->c'=0:=by
    unfold jv
    split
    .intro e;cases e
    .split
     .intro e;cases e
     .split
      .intro _;assumption
      .split <;>intro e <;>cases e
   have im:z.a <+:z2.a:=A.d.trans j.d;refine Sa (f:=f) (N:=N+3) (c':=c') (lc':=lc') (val:=λT=>cz T (aK h T) m c' a x y d) (nb:=bU c') ("~bO;NhYYz" id) ("~8RCa|9M=H" hf) hP dE j.e ("~7ZPy<Om2gShdz0o^g0vu0cK8>gpO_vbMN?V01Ulu5" ph s1 s2) (by rw[j.i,A.i];exact dp) (by rw[j.i,A.i];exact B) (ik om im) (S1.ext p2) hr i6 hE U
    (J.imp (λq=>⟨q.1,λT p n=>q.2 T (im.trans p) n⟩) id) (o.gr im) (cL.gr im) (G.gr im) (H.imp (λq=>⟨q.1,by
     have e3:=(e2 q.1).2;unfold jv;rw[e3,ah (q.2.resolve_left λe=>by rw[ho]at e;cases e)]⟩) λq=>⟨q.1.gr im,q.2.gr im⟩) Sj (λT p n=>?_) (λe=>ah (j2 e)) vy pf (λz' r L' k' E' S' s' D=>?_) (λz' L' k' E' S' h' v a2 x2 Y d2 ed ef D=>?_)
   .unfold cz
    rw[pi T (im.trans p),ho,e1 T (j.d.trans p) n,(sK.gr j.d).c.bR j.e p];rw[ab (by decide),ab w]
   .refine qD z' r L' k' E' S' s' ((D.grown (A.trans j) (p1.trans p2)).mono ?_ (av _) (av _) λT p n=>rfl) _
    unfold Md.gT;split <;>lia
   .exact qN z' L' k' E' S' h' v a2 x2 Y d2 ed ef ((D.grown (A.trans j) (p1.trans p2)).mono (av _) ("~1HgKsWBtNI4IDX>r" id) (av _) (av _) λT p n=>rfl) _
end
section
variable{C:CT}{z:Z}{L:List O}{n t i N h k c a x y d:Nat}{Q:V->St->Prop}{l ls lt E lc la:List Nat}{σ:St}{T:Tb}{m:Mp}{s:Sp}{md:Md}
abbrev vC:List CS:=[.h (.n .a (.d 3) (.p 13)) [.l (.d 0) 4 (.p 13)] [.h (.z [.n .a (.h (.d 2) (.g 6)) (.g 1),.n .a (.d 3) (.p 2)]) [.l (.d 0) 4 (.p 2)]
 [.h (.z [.n .a (.h (.d 2) (.g 6)) (.g 1),.n .a (.j 0 [.q (.d 1) 21,.d 3]) (.p 6)]) [.k (.j 43 [.d 0,.d 3])] GG]]]
def Sk(I:am z)(h:At z t l)(h1:l.length<=1):∃k rest,z.a[t]?=some (.j k::rest)/\k≠6:=by
 rcases oY I h.c with⟨r,Y,J,_⟩ |⟨_,h2,_⟩
 .obtain⟨k,rest,e,U⟩:=J.head
  subst e;exact⟨k,rest,Y,U⟩
 .lia
def GJ(zA:ρ=[some (.o (i+14)),some (.o 10),some (.p s.e),some (.j c')])(hN:1<=N)(hf:f<=N)(u:∀N,f<=N->fq md h N)(dE:∀h',h=h'+1->∀N,f<=N->eZ md h' N)(I:am z)(p:z.sz+4*md.gB h+md.rP h+30<=4190000)(dp:z.b+3*h<=34)(B:0<=z.b)(A:md.cK z m)
  (S:de z L i s m E k) (hr:s.e=aV c a x y d) (j:s.b+h<=90) (hE:E.length < 99) (U:k+4*(1+sp h)<=2700)
  (J:(s.f=-1/\∀T,z.a <+:T->T.Nodup->db T m c=c')\/(s.f=(c':Int)/\c=c')) (o:At z c lc) (cL:At z c' lc') (G:At z a la) (oa:md.eF la) (H:(m=none/\(be lc'=true\/be la=true))\/(Wf md z h x/\Wf md z h y)) (g:md.a=false->be lc'=false)
  (w:c'≠13) (jF:¬ (d=1/\c'=2)) (f4:¬ (d=1/\2<=lc'.length))
  (qD:∀z' r L' k' E' S' s',TD z L i s E k (md.gT h (bU c')) ((bU c')*(if md.a then 4 ^ h else 0)) ((bU c')*(1+sp h)) (λT=>cz T (aK h T) m c' a x y d) z' r L' k' E' S' s'->∀ρ,K .a ρ (st z' L'))
  (qN:∀z' L' k' E' S' h' v a2 q Y d2 ed ef,TN md z L i s m E k h 1 (((bU c') - 1)*md.gB h+21) (((bU c') - 1)*(if md.a then 4 ^ h else 0)) (((bU c') - 1)*(1+sp h)+1) (λT=>cz T (aK h T) m c' a x y d) z' L' k' E' S' h' v a2 q Y d2 ed ef->∀ρ,K .a ρ (st z' L')):
  aM (ai (N+11)) vC ρ K (st z L):=by
 subst zA;have hz:z.a.length < 4194304:=Z.bZ (c:=0) ("~;UcHMQ_1GWd_Af7YgNS=F3" p);rw[hr];refine bF (vF ("~1I;8B4iIgVS>z3" w)) ?_;by_cases hd:d=1
 .subst hd
  have GK:c'≠2:=λe=>jF ⟨rfl,e⟩;refine bF (vF ("~=PTImdM<v;e>2^Q2w7H1" jF)) ?_;obtain⟨kk,rest,zB,zm⟩:=Sk I cL (by have:¬ 2<=lc'.length:=λe=>f4 ⟨rfl,e⟩;exact "~17_P>JZz0RBAPHad" f4);refine uY (n:=N+10) hz zB ?_;refine bF (vF zm) ?_;refine GH (s:=s) (by rw[hr]) hN hf u dE I p dp B A S hr j hE U J o cL G oa H g (λz' r L' k' E' S' s' D ρ=>?_) (λz' L' k' E' S' h' v a2 q Y d2 ed ef D ρ=>?_)
  .exact qD z' r L' k' E' S' s' D _
  .exact qN z' L' k' E' S' h' v a2 q Y d2 ed ef D _
 .have hv:ca (.j d) (.j 1)=false:=vF ("~KRpiAlSvejfM" hd)
  refine bF hv ?_;refine bF hv ?_;refine bF hv ?_;refine bF hv ?_;refine GH (s:=s) (by rw[hr]) hN hf u dE I p dp B A S hr j hE U J o cL G oa H g (λz' r L' k' E' S' s' D ρ=>?_) (λz' L' k' E' S' h' v a2 q Y d2 ed ef D ρ=>?_)
  .exact qD z' r L' k' E' S' s' D _
  .exact qN z' L' k' E' S' h' v a2 q Y d2 ed ef D _
abbrev lX(N f i:Nat)(K:cY->ba->St->Prop)(σ:St):Prop:=
 hX (λρ k σ=>bK (ai N) (.n .f (.q (.d 0) 4) (.g 0)) ρ (λx σ=>et σ x λt=>k t σ) σ) (λρ k σ=>aM (ai N) [.k (.j 44 [.d 0])] ρ k σ) f [some (.o (i+14))] K σ
def GL{r:Nat}(h:L[i]?=some (bM s))(Y:s.g=(r:Int))(q:K .a [some (.o (i+14))] (st z L)):lX N (f+1) i K (st z L):=by
 refine x5 ?_;refine ag (a_ h rfl) ?_;rw[Y];exact q
def GN(h:L[i]?=some (bM s))(Y:s.g=-1)(q:∀Q:V->St->Prop,(∀σ,lX N f i K σ->Q .z σ)->ar (ai N 44 [.o (i+14)] (st z L)) Q):lX N (f+1) i K (st z L):=by
 refine x5 ?_;refine ag (a_ h rfl) ?_;rw[Y];refine q _ λσ U=>?_;exact U
abbrev kH(md:Md)(h N:Nat):Prop:=∀(f:Nat) (z:Z) (L:List O) (i:Nat) (s:Sp) (m:Mp) (E:List Nat) (k c a x y d:Nat) (lc la:List Nat) (K:cY->ba->St->Prop),h+2<=f->am z->de z L i s m E k->s.e=aV c a x y d->s.f=-1->s.g=-1->
 At z c lc->At z a la->md.gy lc d->md.eF la->lU md z h m d lc la x y->d<=1->md.cK z m->s.b+h<=90->E.length+h < 90->k+2*sp (h+1)<=2700->z.sz+md.rF h<=4190000->z.b+3*(h+1)<=36->0<=z.b->
 (∀z' r L' k' E' S' s',TD z L i s E k (md.gC (md.gB h) - 1) (md.b (h+1)) (sp (h+1)) (λT=>cJ T (aK h T) m c a x y d) z' r L' k' E' S' s'->K .a [some (.o (i+14))] (st z' L'))->lX N f i K (st z L)
def GO(h:Nat):md.gC (md.gB h)=if md.a then 16*md.gB h+200 else 2*md.gB h+70:=rfl
def GP{ed ef:List Nat}{val:Tb->List Nat}{u:Z}{L1:List O}{k1:Nat}{E1 w:List Nat}{K:cY->ba->St->Prop}(o:h=h'+1->kH md h' N)(i8:s.g=-1)(A:md.cK z m)(hf:h+1<=f)
  (D:TN md z L i s m E k h en g b sv val u L1 k1 E1 w h' c2 a2 x2 Y d2 ed ef) (j:s.b+h<=90) (hE:E.length+en+h < 91) (U:k+sv+2*sp h<=2700) (room:z.sz+g+md.rP h<=4190000) (dp:z.b+3*h<=36) (B:0<=z.b)
  (H:g+md.gB h<=g') (hb:b+md.b h<=G) (hs:sv+sp h<=I)
  (q:∀z' r L' k' E' S' s',TD z L i s E k g' G I val z' r L' k' E' S' s'->K .a [some (.o (i+14))] (st z' L')):lX N f i K (st u L1):=by
 have hh:=D.v;subst hh;have v:=zw (md:=md) h';have Sl:md.rP (h'+1)=md.rF h':=rfl;have Sn:=D.f.f;have jC:=D.u;have So:=D.B;refine o rfl f u L1 i _ m (E++E1) k1 c2 a2 x2 Y d2 ed ef K ("~5vYelkpO;s0>F" hf) D.f.e D.q rfl rfl i8 D.G D.H D.r D.t (.inr ⟨D.o,D.l⟩) D.C (ik A D.f.d) (by show s.b+1+h'<=90;exact "~3MR5uWQfn9WYkMEMNIg" j) (by rw[b_];exact "~;MhWUhdx6GLJgzs>gEyhxq" So hE) ("~2LVKXOETSBw|b1IEmKGkg9u" U jC) ("~LS9<qYi0mDtGHBbxDJ0JFs1<1uG" Sl room Sn) (by rw[D.f.i];exact "~2Knr4zcF26HacCMn^IwXa6G" dp) (by rw[D.f.i];exact B) λz' r L' k' E' S' s' D2=>?_;have D3:TD z L i s E k (g+(md.gC (md.gB h') - 1)) (b+md.b (h'+1)) (sv+sp (h'+1)) val z' r L' k' (E1++E') (w++S') s':=by
  have sI:=D.j.gr D.f.e D2.a.d;refine⟨D.f.trans D2.a,D.w.trans D2.t,D2.c,D2.f,D2.w,by rw[<-c6];exact D2.x,D2.l,by have v1:=D2.o;exact "~4tFPMUcndaBsQ=x" v1 jC,by rw[<-c6];exact D2.y,⟨λe J=>?_,?_⟩,by rw[nq];have v2:=D2.j;have v3:=D.F;exact "~KUoXt;JxMNP8" v3 v2,λT p n=>?_⟩
  .rw[c6]at J
   rcases aZ.mp J with h |h
   .exact sI.1 e h
   .exact D2.d.1 e h
  .rw[c6,qv,<-sI.2,<-D2.d.2]
  .rw[D.A T (D2.a.d.trans p) n,<-eD,D2.u T p n,eD]
 exact q z' r L' k' _ _ s' (D3.mono ("~Ue0|KjK>mgLtx;8ux8aAJ^v" ao v H) ("~1xurQM03sQ" hb) ("~1xurQM03sQ" hs) λT p n=>rfl)
end
section
variable{C:CT}{z:Z}{L:List O}{n t i N h k c a x y d:Nat}{Q:V->St->Prop}{l ls lt E lc la:List Nat}{σ:St}{T:Tb}{m:Mp}{s:Sp}{md:Md}
abbrev pk(z:Z)(s:Sp)(m:Mp)(c c':Nat)(lc':List Nat):Prop:=(s.f=(c':Int)/\c=c'/\At z c' lc')\/(s.f=-1/\∃pid,(pid=1\/pid=2)/\m=some (pid,c')/\c=26+pid/\lc'=[c']/\At z c' [c'])
def Sq(h:pk z s m c c' lc'):At z c' lc':=by
 rcases h with⟨_,_,h⟩ |⟨_,pid,_,_,_,e,h⟩
 .exact h
 .rw[e];exact h
def Sr(I:am z)(J:pid=1\/pid=2):At z (26+pid) [26+pid]:=by
 have U:26+pid∈aD:=by rcases J with e |e <;>subst e <;>decide
 exact⟨eG I U,cW,λx H=>by rw[aB]at H;subst H;exact U⟩
def Ss(I:am z)(room:z.sz+1 < 4194303)(S:de z L i s m E k)(U:s.e=aV c a x y d)(A:md.cK z m)(o:pk z s m c c' lc')
  (q:∀u L1,Gr 1 z u->L <+:L1->((s.f=-1/\∀T,u.a <+:T->T.Nodup->db T m c=c')\/(s.f=(c':Int)/\c=c'))->Q (.j c') (st u L1)):ar (ai (n+9) 39 [.o (i+14)] (st z L)) Q:=by
 rcases o with⟨h1,h2,h3⟩ |⟨h1,pid,G,h2,h3,h4,h5⟩
 .exact RT (n:=n+5) I (Z.bZ (c:=0) ("~C^PVwhkhv|LtD>N^" room)) S.a h1 h3 (q z L ((Gr.refl I).mono (bb _)) (aA _) (.inr ⟨h1,h2⟩))
 .subst h3
  refine Gp (n:=n) I room S.a U h1 S.b A (Sr I G) λu c1 L1 l1 g p1 Y=>?_;have e:=Y.e _ [c'] h2 (h5.gr g.d);rw[h2]at e;have w:c5 (some (pid,c')) [c'] [26+pid]=[c']:=by
   unfold c5;show(if 26+pid=26+pid then[c']else[26+pid])++[]=_;rw[ah rfl];rfl
  rw[w,cW]at e;have H:c1=c':=gt.inj g.e.a (e▸Y.b.c.c) (h5.gr g.d).c.c;subst H;exact q u L1 g p1 (.inl ⟨h1,Y.a⟩)
def GQ(h1:nb<=2):md.gT h nb<=4*md.gB h+30:=by
 unfold Md.gT;split
 .exact av _
 .have:=fM (md.gB h) h1;exact "~y4s7Ju7?Vbu3xiERm" this
def Su(Y:1<=N)(hf:f<=N)(u:∀N,f<=N->fq md h N)(dE:∀h',h=h'+1->∀N,f<=N->eZ md h' N)(io:∀h',h=h'+1->∀N,f<=N->kH md h' N)(lY:h+2<=fl)(I:am z)(room:z.sz+4*md.gB h+md.rP h+40<=4190000)(dp:z.b+3*h<=34)(B:0<=z.b)(om:md.cK z m)
  (S:de z L i s m E k) (hr:s.e=aV c a x y d) (i8:s.g=-1) (j:s.b+h<=90) (hE:E.length+h < 89) (U:k+4*(1+sp h)<=2700)
  (o:At z c lc) (cL:pk z s m c c' lc') (G:At z a la) (J:md.eF la) (hx:Wf md z h x) (v:Wf md z h y) (g:md.a=false->be lc'=false)
  (w:c'≠13) (jF:¬ (d=1/\c'=2)) (f4:¬ (d=1/\2<=lc'.length))
  (q:∀z' r L' k' E' S' s',TD z L i s E k (md.gT h (bU c')+1) ((bU c')*md.b h) ((bU c')*(1+sp h)) (λT=>cz T (aK h T) m c' a x y d) z' r L' k' E' S' s'->K .a [some (.o (i+14))] (st z' L')):
  lX (N+12) fl i K (st z L):=by
 obtain⟨fl,rfl⟩:=eV (k:=1) (N:=fl) ("~1xGuc^qDi?" lY);have pg:bU c'<=2:=pf;have sJ:1<=bU c':=vy;have sL:=GQ (md:=md) (h:=h) pg;refine GN S.a i8 λQ hQ=>?_;refine az (ρ:=[some (.o (i+14)),none,none,none]) rfl ?_;refine ag (a_ S.a rfl) ?_;refine ag (a_ S.a rfl) ?_;refine Ss (n:=N+2) I ("~7J2;Apc>o>RLL|cVvZ>E26yINA" room) S hr om cL λz1 L1 A p1 Sv=>?_;have s1:=A.f;have pn:=(Sq cL).gr A.d;refine GJ (s:=s) (md:=md) (h:=h) (lc':=lc') (la:=la) rfl Y hf u dE A.e ("~fQ?Er4Q0ZI4sZ?tYcV0uD^Wv3x|<Kw^Kn9M6" room s1) (by rw[A.i];exact dp) (by rw[A.i];exact B) (ik om A.d) (S.ext p1) hr j ("~1HwPReSVV9GwND" hE) U Sv (o.gr A.d) pn (G.gr A.d) J (.inr ⟨hx.gr A.d,v.gr A.d⟩) g w jF f4 (λz' r L' k' E' S' s' D ρ=>?_) (λz' L' k' E' S' h' c2 a2 x2 y2 d2 ed ef D ρ=>?_)
 .have D2:=D.grown A p1
  refine hQ _ ?_;have hh:h+1<=fl:= "~5pbI>ga6GmX0;" lY;obtain⟨X8,rfl⟩:∃n,fl=n+1:=⟨fl - 1, "~63RgBrOt^p>_flAj39OsdHsLyUgY" ao lY⟩;refine GL D2.c D2.f (q z' r L' k' E' S' s' (D2.mono ("~2DiI17x9Ar" id) (av _) (av _) λT p n=>rfl))
 .have D2:=D.grown A p1
  refine hQ _ ?_;have hb:((bU c') - 1)*(if md.a then 4 ^ h else 0)+md.b h<=(bU c')*md.b h:=gV vz;have hs:((bU c') - 1)*(1+sp h)+1+sp h<=(bU c')*(1+sp h):=by rw[tC];exact gV vz
  have H:1+(((bU c') - 1)*md.gB h+21)+md.gB h<=md.gT h (bU c')+1:=by
   have e:=vz (c:=c') (X:=md.gB h);have e2:=R_ (c:=c') (X:=md.gB h);unfold Md.gT
   split <;>lia
  have gA:(bU c')*(1+sp h)<=2*(1+sp h):=fM _ pg;exact GP (λe=>io h' e _ ("~1xL7PVdVau" hf)) i8 om ("~5pbI>ga6GmX0;" lY) D2 j ("~444WEldEd4VzykQQ=" hE) ("~olIZlzH3;YKrPc7M6woGlCTIrClt_Hjp=g" hs U gA) ("~<GlyqmrUrs35Wrl41Np=6S|ZwqBA>rb|Q42U^SVZIPf_TF1Bwxzf" room H sL) ("~3MDjKnUsaQVgYxNHfmx" dp) B H hb hs q
end
section
variable{C:CT}{z:Z}{L:List O}{n t i N h k c a x y d:Nat}{Q:V->St->Prop}{l ls lt E lc la:List Nat}{σ:St}{T:Tb}{m:Mp}{s:Sp}{md:Md}
def Sw:∀{m:List Nat},l.Nodup->(∀x∈l,x∈m)->l.length<=m.length:=by
 induction l with
 |nil=>
  intro _ _ _;exact bb _
 |cons a l ih=>
  intro m u h;have h2:=fL.mp u;have:=ih (m:=m.erase a) h2.2 λx H=>(List.mem_erase_of_ne λe=>h2.1 (by rw[<-e];exact H)).mpr (h x (b5 _ H));rw[List.length_erase_of_mem (h a br)]at this;have J:0 < m.length:=List.length_pos_of_mem (h a br);simp only[bI];exact "~ad^|jZ30lxrR9QdaQDw_d" ao this J
def nr:cs (ae S)<=cs S:=by
 unfold cs;refine Sw (ko.filter _) λx H=>?_;rw[c7]at H ⊢;exact⟨ct H.1,H.2⟩
def zC(u:l.Nodup):l.length<=cs l+29:=by
 have h1:(l.filter λx=>!decide (29<=x)).length<=29:=jw 29 (u.filter _) λx H=>by
  rw[c7]at H;have:=H.2;simp only[qu,decide_eq_false_iff_not,Nat.not_le]at this;exact this
 have h2:∀l:List Nat,l.length=(l.filter λx=>decide (29<=x)).length+(l.filter λx=>!decide (29<=x)).length:=λl=>by
  induction l with
  |nil=>rfl|cons a l ih=>
   rw[jg,jg];by_cases h:29<=a
   .simp only[h,decide_true,qo,bI,Bool.not_true,je,jf];exact "~Bl2kKpK31aAX956E" ih
   .simp only[h,decide_false,jf,bI,Bool.not_false,qo,je];exact "~Bl2kKpJT7LC3mQTr" ih
 have:=h2 l;unfold cs;exact "~?0XaSYGo1tWmP^|vyb" this h1
def jD.has(I:am z)(h:jD z E S):∀e∈E,aO z e (bi z.a e):=λe J=>by
 obtain⟨l,a,_⟩:=h.1 e J;rw[a.bR I (aA _)];exact a
def GR(hb:b<=300)(room:z.sz+g+1<=4190000)(S:de z L i s m [] k)
  (o:∀K:cY->ba->St->Prop,(∀z' r L' k' E' S' s',TD z L i s [] k g b sv val z' r L' k' E' S' s'->K .a [some (.o (i+14))] (st z' L'))->lX (N+3) 1000000 i K (st z L))
  (q:∀z' (r:Nat) l L' (k':Nat),Gr (g+1) z z'->Fm L L' [i,s.a,s.d]->L'[s.a]?=some (.a [.j k'])->k'<=k+sv->bG z' val b r l->Q (.j r) (st z' L')):ar (ai (N+4) 49 [.o (i+14)] (st z L)) Q:=by
 refine az (ρ:=[some (.o (i+14))]) rfl ?_;refine o _ λz' r L' k' E' S' s' D=>?_;have B:E'.length < 4000000:=by have:=D.y;rw[dh]at this;exact "~GBxuFp>vs8ASkt" this
 have sz:=D.a.f;have v:L'[s'.d]?=some (.a (aa E')):=by rw[D.w];have:=D.x;rwa [dh]at this
 refine ag (a_ D.c rfl) ?_;have u:b1 .a (.o (s'.d+14)) (st z' L')=some (.j E'.length,st z' L'):=by
  have:=rK (yT (z:=z') v) (by rw[cI];exact Nat.lt_trans B (by decide));rw[cI]at this;exact this
 refine aP u ?_
 induction A:E' using bo with
 |nil=>
  subst A;refine ag (a_ D.c rfl) ?_;rw[D.f];have J:=D.d;rw[dh]at J;obtain⟨l,Y,H⟩:=J.1 r (by simp);have G:S'=l:=by rw[J.2,dJ,ji,b9,Y.bR D.a.e (aA _)]
  refine q z' r l L' k' (D.a.mono ("~2ht<WbGf" id)) D.t D.l D.o ⟨Y,H,by rw[<-G];exact D.j,λT p n=>by rw[D.u T p n,G,H]⟩
 |cons e0 I=>
  have w:(((e0::I).length:Nat):Int)≠0:=by simp only[bI];exact "~2Dg<lpSibf" id
  rw[<-A]at w ⊢;refine bF (vF w) ?_;conv=>whnf
  refine ag (a_ D.c rfl) ?_;conv=>whnf
  refine ag (a_ D.c rfl) ?_;refine ag (a_ D.c rfl) ?_;rw[D.f];have Sx:iM .a (.o (s'.d+14)) (.r [.j r]) (st z' L')=some (.r (aa (E'++[r])),st z' L'):=by
   have h':(st z' L')[s'.d+14]?=some (.a (aa E')):=v;rw[EU (l:=aa E') (m:=[.j r]) (iV h') rfl (by show(aa E').length+1 < 4194304;rw[cI];exact gY (Nat.succ_lt_succ B) (by decide)),ic];rfl
  refine ag Sx ?_;have J:=D.d;refine u8 (n:=N) (F:=bi z'.a) D.a.e ("~dWF6tJT0JaTmLHgeFDx<d" room sz) (hZ (by rw[b_];simp only[bI,dG];exact "~C|_Ie;OKo8jr6l|G" B)) (J.has D.a.e) ?_ λdC r' f g' U j=>?_
  .rw[<-J.2]
   have h1:=zC (ko (S:=S'));have h2:=nr (S:=S');have h3:=D.j;exact "~8gN?7gJSld=whAT5k9P341NZ" h1 h2 h3 hb
  .rw[<-J.2]at j
   refine q dC r' _ f k' (D.a.trans g') (D.t.trans (Fm.pre U)) (aC D.l U) D.o ⟨j,eE _,aL nr D.j,λT p n=>D.u T (g'.d.trans p) n⟩
def am.sM(I:am z)(v:Int):am {z with b:=v}:=⟨I.a,I.f,I.d,I.e,I.c,I.b⟩
def Gr.sM(h:Gr g {z with b:=v} z2):Gr g z {z2 with b:=z.b}:=
 ⟨h.e.sM _,h.d,h.f,h.m,h.j,h.k,h.l,rfl⟩
def GS(f:z.b < 40)(S:de z L i s m [] k)
  (U:∀K:V->St->Prop,(∀z' (r:Nat) l L' (k':Nat),Gr g {z with b:=z.b+1} z'->Fm L L' [i,s.a,s.d]->L'[s.a]?=some (.a [.j k'])->k'<=k+sv->bG z' val b r l->K (.j r) (st z' L'))->ar (ai N 49 [.o (i+14)] (st {z with b:=z.b+1} L)) K)
  (q:∀z' (r:Nat) l L' (k':Nat),Gr g z z'->Fm L L' [i,s.a,s.d]->L'[s.a]?=some (.a [.j k'])->k'<=k+sv->bG z' val b r l->Q (.j r) (st z' L')):ar (ai (N+1) 50 [.o (i+14)] (st z L)) Q:=by
 refine az (ρ:=[some (.o (i+14)),none]) rfl ?_;refine ag (a_ S.a rfl) ?_;refine bF (cc ("~4rZx;UNsm_G<_tX" f)) ?_;have h1:mH (.o 10) 2 (.j (z.b+1)) (st z L)=some ((),st {z with b:=z.b+1} L):=rfl;refine aP h1 ?_;refine U _ λz' r l L' k' gr J sp kk R=>?_;have h2:mH (.o 10) 2 (.j (z'.b - 1)) (st z' L')=some ((),st {z' with b:=z'.b - 1} L'):=rfl;refine aP h2 ?_;have Y:z'.b - 1=z.b:=by rw[gr.i];show z.b+1 - 1=z.b;exact "~PqoF369ajP" id
 rw[Y];exact q {z' with b:=z.b} r l L' k' gr.sM J sp kk (R.gr (z':={z' with b:=z.b}) (aA _))
end
section
variable{C:CT}{z:Z}{L:List O}{n t i N h k c a x y d:Nat}{Q:V->St->Prop}{l ls lt E lc la:List Nat}{σ:St}{T:Tb}{m:Mp}{s:Sp}{md:Md}
structure Sy(z:Z)(L L':List O)(s:Sp)(m:Mp)(k c a x y d p:Nat)(lp:List Nat)(j:Nat)(s':Sp)(c1:Nat):Prop where
 h:L <+:L'
 i:L.length<=j
 l:L.length<=s'.d
 e:s'.a=s.a
 g:s'.b=s.b
 n:s'.g=-1
 f:s'.e=aV c1 a x y d
 b:de z L' j s' (jB m c p) [] k
 o:pk z s' (jB m c p) c1 p lp
def Sz(h:L[i]?=some (aI (some (p,v)))):dc .b (.j q) (.o (i+14)) (st z L)=some (.w (decide (p=q)),st z L):=by
 refine(uX (σ:=st z L) (r:=cT (q:Int) [((p:Int),V.j v)]) (oT h rfl) (lH h) rfl).trans ?_;rw[xD];by_cases e:p=q
 .rw[ah ("~6Y2BN1QH3tI" e),b4 e];rfl
 .rw[ab ("~1_OuXPZHMO=>" e),cc e];rfl
def SA(I:am z)(hz:z.a.length < 4194304)(A:md.cK z m)(S:de z L i s m E k)(hr:s.e=aV c a x y d)(J:At z p [p])(o:At z c lc)
  (Y:(∃pid v,(pid=1\/pid=2)/\m=some (pid,v)/\c=26+pid)\/(2<=lc.length))
  (q:∀L' j s' c1,Sy z L L' s m k c a x y d p [p] j s' c1->(c1=c\/c1=p)->Q (.o (j+14)) (st z L')):ar (ai (n+3) 42 [.o (i+14),.j p] (st z L)) Q:=by
 have oG:=S.ne1;have sE:s.c < L.length:=(bW.mp S.b).1;have g:s.a < L.length:=(bW.mp S.c).1;refine az (ρ:=[some (.o (i+14)),some (.j p),none,none,none,none]) rfl ?_;refine ag (a_ S.a rfl) ?_;rw[hr];refine ag (a_ S.a rfl) ?_;conv=>whnf
 rcases Y with⟨pid,v,G,em,H⟩ |hl
 .have u:z.a[c]?=some (eM pid):=by
   rw[H];rcases G with e |e <;>subst e <;>exact I.at rfl
  subst em;refine ag (co hz u) ?_;refine ag (a_ S.a rfl) ?_;refine ag (Sz (q:=pid) S.b) ?_;refine bT (b4 rfl) ?_;refine ag (a_ S.a rfl) ?_;refine bY ?_;refine u_ (p:=pid) (v:=p) bk ?_;have m1:((L++[O.b]).set L.length (aI (some (pid,p))))[L.length]?=some (aI (some (pid,p))):=aT bk;have p1:L <+:(L++[O.b]).set L.length (aI (some (pid,p))):=bE bp (av _);generalize (L++[O.b]).set L.length (aI (some (pid,p)))=L1 at m1 p1;have w:=S.ext (z':=z) p1;refine Rc (n:=n+1) w.b m1 ?_;have m2:((L1++[aI (some (pid,v))]).set L1.length (aI (some (pid,p))))[L1.length]?=some (aI (some (pid,p))):=aT bk;have p2:L1 <+:(L1++[aI (some (pid,v))]).set L1.length (aI (some (pid,p))):=bE bp (av _);generalize (L1++[aI (some (pid,v))]).set L1.length (aI (some (pid,p)))=L2 at m2 p2;have S2:=w.ext (z':=z) p2;refine ag (a_ S2.a rfl) ?_;refine ag (a_ S2.a rfl) ?_;refine ag (a_ S2.a rfl) ?_;refine va (n:=n+1) λL3 p3 U r zD=>?_;have S3:=S2.ext (z':=z) p3;conv=>whnf
  refine u' r rfl ?_;have B:jB (some (pid,v)) c p=some (pid,p):=by show(if c=26+pid then some (pid,p)else some (pid,v))=_;rw[ah H]
  have f:=p1.length_le;have i2:=p2.length_le;refine q L3 L2.length ⟨aV c a x y d,L1.length,s.b,s.a,L2.length+1,-1,-1⟩ c ⟨p1.trans (p2.trans p3), "~1vTB0xF7Vv" f i2,by show L.length<=L2.length+1;exact "~1__0t0M2jrtx" f i2,rfl,rfl,rfl,rfl,⟨r,by rw[B];exact aC m2 p3,S3.c,zD,by show s.a≠L2.length+1;exact "~13H4eQcEWd?gP|W6" f i2 g⟩,.inr ⟨rfl,pid,G,B,H,rfl,J⟩⟩ (.inl rfl)
 .have u:=Gk I o hl
  refine ag (co hz u) ?_;have B:jB m c p=m:=by
   unfold jB
   induction m using aX with
   |none=>rfl|some pv=>
    show(if c=26+pv.1 then some (pv.1,p)else some (pv.1,pv.2))=_;refine ab λe=>?_;obtain⟨_,_,_,G,_⟩:=nl A;rcases G with e1 |e1
    .rw[e,e1,I.at (t:=27) rfl]at u;cases u
    .rw[e,e1,I.at (t:=28) rfl]at u;cases u
  refine ag (a_ S.a rfl) ?_;refine ag (a_ S.a rfl) ?_;refine ag (a_ S.a rfl) ?_;refine ag (a_ S.a rfl) ?_;refine va (n:=n+1) λL3 p3 U r zD=>?_;have S3:=S.ext (z':=z) p3;refine ew r (bP rfl) ?_;have GU:=aT (o':=.e 1 (bn 13 (.j p) [(6,.o 10),(17,.p ([V.j 16,V.j ↑p]++iL (aV c a x y d) (some ↑2) none)),(8,.o (s.c+14)),(16,.j s.b),(20,.o (s.a+14)),(5,.o (L.length+1+14)),(13,.j (-1)),(4,.j (-1))])) r;have p4:L <+:L3.set L.length (.e 1 (bn 13 (.j p) [(6,.o 10),(17,.p ([V.j 16,V.j ↑p]++iL (aV c a x y d) (some ↑2) none)),(8,.o (s.c+14)),(16,.j s.b),(20,.o (s.a+14)),(5,.o (L.length+1+14)),(13,.j (-1)),(4,.j (-1))])):=bE p3 (av _);refine u' GU rfl ?_;refine q _ L.length ⟨aV p a x y d,s.c,s.b,s.a,L.length+1,p,-1⟩ p ⟨p4,av _,tF _,rfl,rfl,rfl,rfl,⟨GU,?_,aC S.c p4,bz zD (show L.length≠L.length+1 from "~7y5QJo18>" id),by show s.a≠L.length+1;exact "~NiHf4zuMs?" g⟩,.inl ⟨rfl,rfl,J⟩⟩ (.inr rfl);rw[B];exact aC S.b p4
def vD(j:h<=3):md.b h<=64:=by
 unfold Md.b;split
 .exact Nat.pow_le_pow_right (n:=4) (by decide) j
 .decide
def SD(Y:1<=N)(hf:f<=N)(u:∀N,f<=N->fq md h N)(dE:∀h',h=h'+1->∀N,f<=N->eZ md h' N)(io:∀h',h=h'+1->∀N,f<=N->kH md h' N)(hh:h<=3)(I:am z)(room:z.sz+4*md.gB h+md.rP h+50<=4190000)(dp:z.b+1+3*h<=34)(B:0<=z.b)(A:md.cK z m)
  (S:de z L j s' m [] k) (hr:s'.e=aV c1 a x y d) (i8:s'.g=-1) (i6:s'.b+h<=90) (U:k+4*(1+sp h)<=2700)
  (o:At z c1 vE) (cL:pk z s' m c1 p [p]) (G:At z a la) (J:md.eF la) (H:Wf md z h x) (v:Wf md z h y) (dY:md.a=false->be [p]=false)
  (w:p≠13) (h2:p≠2) (h0:p≠0)
  (q:∀z' (r:Nat) l L' (k':Nat),Gr (md.gT h 1+2) z z'->Fm L L' [j,s'.a,s'.d]->L'[s'.a]?=some (.a [.j k'])->k'<=k+(1+sp h)->bG z' (λT=>cz T (aK h T) m p a x y d) (md.b h) r l->Q (.j r) (st z' L')):
  ar (ai (N+14) 50 [.o (j+14)] (st z L)) Q:=by
 have sL:=GQ (md:=md) (h:=h) (nb:=1) (by decide);have hb:=vD (md:=md) hh;refine GS (g:=md.gT h 1+2) (b:=md.b h) (sv:=1+sp h) (val:=λT=>cz T (aK h T) m p a x y d) ("~mBEjug==;rqtJCNuQw^" dp) S (λK hK=>?_) q;have gz:z.a <+:({z with b:=z.b+1}:Z).a:=aA _;have S1:de {z with b:=z.b+1} L j s' m [] k:=S.ext (aA _);have SF:pk {z with b:=z.b+1} s' m c1 p [p]:=by
  rcases cL with⟨a1,a2,a3⟩ |⟨a1,pid,a2,a3,a4,a5,a6⟩
  .exact .inl ⟨a1,a2,a3.gr gz⟩
  .exact .inr ⟨a1,pid,a2,a3,a4,a5,a6.gr gz⟩
 refine GR (N:=N+9) (g:=md.gT h 1+1) (b:=md.b h) (sv:=1+sp h) (val:=λT=>cz T (aK h T) m p a x y d) ("~KMwGzgvEBkf7" hb) (by show z.sz+_+1<=_;exact "~;qzaqEUEOo0MHYkyOeDgs9??jIvex6Y>3nnH=" room sL) S1 (λK' SG=>?_) λz' r l L' k' g f1 s1 kk R=>hK z' r l L' k' g f1 s1 kk R;refine Su (N:=N) (f:=f) (h:=h) (la:=la) (lc:=vE) (lc':=[p]) Y hf u dE io ("~GQb?sV57k=3g_3" hh) (I.sM _) (by show z.sz+_+_+40<=_;exact "~4FCLvF_r64SL4OU_j;25pK;mGKTpQBQC" room) dp (by show 0<=z.b+1;exact "~Q1qY>1oHZJ" B) (ik A gz) S1 hr i8 i6 (by simp only[dG];exact "~KeKmk3sVOzFW" hh) U (o.gr gz) SF (G.gr gz) J (H.gr gz) (v.gr gz) dY w (λe=>h2 e.2) (λe=>by simp at e) λz' r L' k' E' S' s2 D=>?_;rw[show bU p=1 from ab h0]at D;rw[tM,tM]at D;exact SG z' r L' k' E' S' s2 D
end
section
variable{C:CT}{z:Z}{L:List O}{n t i N h k c a x y d:Nat}{Q:V->St->Prop}{l ls lt E lc la:List Nat}{σ:St}{T:Tb}{m:Mp}{s:Sp}{md:Md}
def SH(I:am z)(A:md.cK z m)(J:At z p [p])(g:md.a=false->be [p]=false):md.cK z (jB m c p):=by
 induction m using aX with
 |none=>exact A|some pv=>
  obtain⟨pid,v⟩:=pv;show md.cK z (if c=26+pid then some (pid,p)else some (pid,v))
  split
  .obtain⟨l,a,b,e⟩:=A
   refine⟨[p],J,by show 1<=md.kk;unfold Md.kk;split <;>decide,?_⟩;generalize ho:md.a=Y
   induction Y using aS with
   |true=>rw[ho]at e;exact e|false=>rw[ho]at e;exact⟨e.1,g ho⟩
  .exact A
abbrev SJ:List CS:=[.k (.w .a (.d 2) [.j 50 [.j 42 [.d 0,.d 3]]])]
def SK(hN:1<=N)(hf:f<=N)(u:∀N,f<=N->fq md h N)(dE:∀h',h=h'+1->∀N,f<=N->eZ md h' N)(io:∀h',h=h'+1->∀N,f<=N->kH md h' N)(hh:h<=3)(hr:s.e=aV c a x y d)(i6:s.b+h<=90)(oa:md.eF la)(Y:(∃pid v,(pid=1\/pid=2)/\m=some (pid,v)/\c=26+pid)\/(2<=lc.length)):∀{z:Z} {L:List O} {k:Nat} {out:List Nat} {o:Option V} {K:cY->ba->St->Prop},am z->de z L i s m E k->L[j]?=some (.a (aa out))->(j≠i/\j≠s.a/\j≠s.d/\j≠s.c)->out.length+ps.length < 1000->
  (∀p∈ps,At z p [p]/\p≠13/\p≠2/\p≠0/\(md.a=false->be [p]=false))->At z c lc->At z a la->Wf md z h x->Wf md z h y->md.cK z m->z.sz+ps.length*(md.gT h 1+2)+4*md.gB h+md.rP h+50<=4190000->z.b+1+3*h<=34->0<=z.b->k+ps.length*(1+sp h)+4*(1+sp h)<=2700->
  (∀z' L' (k':Nat) rs o,Gr (ps.length*(md.gT h 1+2)) z z'->Fm L L' [s.a,j]->L'[j]?=some (.a (aa (out++rs)))->L'[s.a]?=some (.a [.j k'])->k'<=k+ps.length*(1+sp h)->f9 (λp r=>∃l,bG z' (λT=>cz T (aK h T) (jB m c p) p a x y d) (md.b h) r l) ps rs->K .a [some (.o (i+14)),ck,some (.o (j+14)),o] (st z' L'))->
  gm (λx ρ k σ=>bQ (fQ (.a 3) x ρ σ) λρ σ=>aM (ai (N+15)) SJ ρ k σ) none (aa ps) [some (.o (i+14)),ck,some (.o (j+14)),o] K (st z L):=by
 induction ps with
 |nil=>
  intro z L k out o K I S hj w hl kI hc G H hy A room dp B U q;refine(q z L k [] o ?_ ⟨av _,λj o Q e=>e⟩ (by rw[b9];exact hj) S.c ?_ trivial:_)
  .rw[dG,Ca];exact Gr.refl I
  .rw[dG,Ca];exact av _
 |cons p ps ih=>
  intro z L k out o K I S hj w hl kI hc G H hy A room dp B U q;obtain⟨J,ip,h2,h0,g⟩:=kI p br;simp only[bI]at room U hl q;rw[kY]at room U q;rw[kY]at q;have hz:z.a.length < 4194304:=Z.bZ (c:=0) ("~1fTTIb=7aj>1Dthg_YWD1ce0B4>" room);have i0:j < L.length:=(bW.mp hj).1;have rS:s.a < L.length:=(bW.mp S.c).1;have zE:i < L.length:=(bW.mp S.a).1;have u9:gH .a (.o (j+14)) (st z L)=some ((),st z L):=ec .a hj (.inl rfl);show bQ (gH .a (.o (j+14)) (st z L)) _;refine ag u9 ?_;refine SA (n:=N+12) I hz A S hr J hc Y λL1 j1 s1 c1 PS pn=>?_;have SN:=SH (c:=c) I A J g;have zF:∃vE,At z c1 vE:=by
   rcases pn with e |e
   .subst e;exact⟨_,hc⟩
   .subst e;exact⟨_,J⟩
  obtain⟨vE,zF⟩:=zF;refine SD (N:=N+1) (f:=f) (p:=p) (la:=la) ("~bM|cRvXx" id) ("~8RCWsKrG0" hf) u dE io hh I ("~fypY0m2|z2O6UOt2mIJ9j?uwM4zm3N2lBHGQ" room) dp B SN PS.b PS.f PS.n (by rw[PS.g];exact i6) ("~7VB_eVQbsvTx3Kk?Ynn7xLcsWG" U) zF PS.o G oa H hy g ip h2 h0 λz2 r l L2 k2 g2 f2 vG vH R2=>?_;have gA:=g2.f;rw[PS.e]at f2 vG;have fm:Fm L L2 [s.a]:=Fm.new PS.h f2 λx H sN=>by
   simp only[bH,dU,kX]at H ⊢;rcases H with e |e |e
   .have v1:=PS.i;lia
   .exact e
   .have v2:=PS.l;lia
  have GW:L2[j]?=some (.a (aa out)):=fm.2 j _ (by simp;exact w.2.1) hj;refine eb GW (by rw[cI];exact "~1J9OdKUgrmy;KF" hl) ?_;rw[show aa out++[V.j (r:Int)]=aa (out++[r])by rw[ic];rfl];have GX:=S.ne1;have S2:de z2 (L2.set j (.a (aa (out++[r])))) i s m E k2:=
   ⟨bz (fm.2 i _ (by simp;exact GX.1) S.a) w.1,bz (fm.2 _ _ (by simp;exact GX.2.2.2.1) S.b) w.2.2.2,bz vG w.2.1,bz (fm.2 _ _ (by simp;exact Ne.symm S.f) S.d) w.2.2.1,S.f⟩
  have GY:Fm L (L2.set j (.a (aa (out++[r])))) [s.a,j]:=(fm.mono (by simp)).trans (Fm.set (by simp));have sh:=aT (o':=.a (aa (out++[r]))) GW;generalize L2.set j (.a (aa (out++[r])))=L3 at S2 GY sh;refine ih g2.e S2 sh w (by simp only[b_,bI,dG];exact "~2t63r4ywrSsrXr4w9Si7Z" hl) (λp' po=>?_) (hc.gr g2.d) (G.gr g2.d) (H.gr g2.d) (hy.gr g2.d) (ik A g2.d) ("~1QLCuReYSx_SHNeEaedhctV58kw;v7Wq^dN;9Cy=HI7B" room gA) (by rw[g2.i];exact dp) (by rw[g2.i];exact B) ("~AWcps4XdD0cm7U|Mv3q|kDx;VFB<;Ts0V" U vH) λz' L' k' rs o' g' f' j' SO SP aR=>?_
  .obtain⟨a1,a2,a3,a4,a5⟩:=kI p' (b5 _ po);exact⟨a1.gr g2.d,a2,a3,a4,a5⟩
  .refine q z' L' k' (r::rs) o' ((g2.trans g').mono ("~PIApAS^<nXZ2" id)) (GY.trans f') ?_ SO ("~3NRyr1mYruYCdL3L_|9" vH SP) ⟨⟨l,R2.gr g'.d⟩,aR⟩
   rw[c6]at j';exact j'
def SU:(∀x∈l,cs (f x)<=b)->cs (l.flatMap f)<=l.length*b:=by
 induction l with
 |nil=>
  intro _;exact bb _
 |cons a l ih=>
  intro h;rw[dJ,nq,bI,kY];have h1:=h a br;have h2:=ih λx H=>h x (b5 _ H);exact "~KUoXt;Jw5gZN" h2 h1
theorem zG{V1:Nat->List Nat}{md:Md}{W:Nat->Tb->List Nat}(I:am z)(p:z.a <+:T)(u:T.Nodup):∀{ps rs:List Nat},f9 (λq r=>∃l,bG z (W q) b r l) ps rs->ae (ps.flatMap λq=>W q T)=ae (rs.flatMap (bi z.a))
 |[],[],_=>rfl|q::ps,r::rs,a=>by
  obtain⟨l,R⟩:=a.1;rw[dJ,dJ,<-gx,R.c T p u,<-eD,zG (V1:=V1) (md:=md) I p u a.2,eD,R.a.bR I (aA _)]
 |[],_::_,a=>a.elim|_::_,[],a=>a.elim
def SV{f:Nat}(hN:1<=N)(hf:f<=N)(u:∀N,f<=N->fq md h N)(dE:∀h',h=h'+1->∀N,f<=N->eZ md h' N)(io:∀h',h=h'+1->∀N,f<=N->kH md h' N)(hh:h<=2)(I:am z)(S:de z L i s m E k)(hE:E.length<=99)(hr:s.e=aV c a x y d)(i6:s.b+h<=90)(oa:md.eF la)
  (Y:(∃pid v,(pid=1\/pid=2)/\m=some (pid,v)/\c=26+pid)\/(2<=lc.length)) (o:At z c lc) (cL:At z c' lc') (h2:2<=lc'.length) (jC:lc'.length<=md.kk) (dY:md.a=false->be lc'=false) (G:At z a la) (H:Wf md z h x) (hy:Wf md z h y) (om:md.cK z m)
  (room:z.sz+md.kk*(md.gT h 1+2)+4*md.gB h+md.rP h+52<=4190000) (dp:z.b+1+3*h<=34) (B:0<=z.b) (hk:k+sp (h+1)+4*(1+sp h)<=2700)
  (q:∀z' r L' k' E' S' s',TD z L i s E k (md.kk*(md.gT h 1+2)+1) (md.b (h+1)) (sp (h+1)) (λT=>lc'.flatMap λp=>cz T (aK h T) (jB m c p) p a x y d) z' r L' k' E' S' s'->Q .z (st z' L')):
  ar (ai (N+16) 43 [.o (i+14),.j c'] (st z L)) Q:=by
 have hz:z.a.length < 4194304:=Z.bZ (c:=0) ("~XPH5uMVIj1cYf=6oY9Wck7q" room);have w:=S.ne1;have zH:md.kk<=4:=by unfold Md.kk;split <;>decide
 have U:lc'.length*(md.gT h 1+2)<=md.kk*(md.gT h 1+2):=fM _ jC;have i3:lc'.length*(1+sp h)<=sp (h+1):=fM (1+sp h) (aL jC zH);have zI:md.kk*md.b h<=md.b (h+1):=by
  unfold Md.kk Md.b;split
  .rw[xn,Cb];exact av _
  .exact av _
 have SW:=vD (md:=md) (h:=h+1) ("~P_<RtjkSD1" hh);refine az (ρ:=[some (.o (i+14)),some (.j c'),none,none]) rfl ?_;refine bY ?_;have kB:(L++[O.a []])[L.length]?=some (.a (aa [])):=bk;have p1:L <+:L++[O.a []]:=bp;generalize L++[O.a []]=L1 at kB p1;have S1:=S.ext (z':=z) p1;refine ag (a_ S1.a rfl) ?_;refine rO (n:=N+14) I hz cL.c ?_;refine ag ((ng (z:=z) (L:=L1) (ku cL.c.f cL.c.d hz)).a _ (aA _)) ?_;have zE:i < L.length:=(bW.mp S.a).1;have rS:s.a < L.length:=(bW.mp S.c).1;have sN:s.d < L.length:=(bW.mp S.d).1;have sE:s.c < L.length:=(bW.mp S.b).1;have nt:cd lc':=by
  rcases se cL.f with n |⟨τ,_,e⟩
  .exact n
  .rw[e]at h2;simp at h2
 refine SK (f:=f) (ps:=lc') (out:=[]) (j:=L.length) (lc:=lc) (la:=la) hN hf u dE io ("~V_QYNuEY" hh) hr i6 oa Y I S1 kB ⟨"~2GzJy?1k" zE, "~2GzJy?1k" rS, "~2GzJy?1k" sN, "~2GzJy?1k" sE⟩ (by rw[dG];exact "~4szw3oTQKWIk;wa" zH jC) (λp J=>?_) o G H hy om ("~;rv3|<mAup9fh3pQFt<1W^Shx^aV_TOw?Fgk>" room U) dp B ("~1eKJE=BD;eCmoP0wPa_DNJdd9fP" hk i3) λz2 L2 k2 rs o2 g2 f2 j2 vG vH aR=>?_
 .have GZ:=cL.d p J
  refine⟨⟨eG I GZ,cW,λx H=>by rw[aB]at H;subst H;exact GZ⟩,λe=>nt.2.1 (e▸J),λe=>(cL.c.d p J).1 e,λe=>nt.1 (e▸J),λe=>?_⟩;have:=dY e;unfold be at this ⊢;rw[qt]at this ⊢;refine⟨el.mpr λe=>?_,el.mpr λe=>?_⟩
  .rw[bj,aB]at e;rw[e,bj.mpr J]at this;cases this.1
  .rw[bj,aB]at e;rw[e,bj.mpr J]at this;cases this.2
 .rw[dh]at j2
  have gA:=g2.f;have cM:L2[i]?=some (bM s):=f2.2 i _ (by simp;exact⟨w.1, "~TJx2T=<R" zE⟩) S1.a;have ex2:L2[s.d]?=some (.a (aa E)):=f2.2 _ _ (by simp;exact⟨Ne.symm S.f, "~TJx2T=<R" sN⟩) S1.d;have vt:=o6 aR;have A:∀r∈rs,∃l,aO z2 r l/\ae l=l/\cs l<=md.b h:=λr hr=>by
   obtain⟨p,_,l,R⟩:=rY aR r hr;exact⟨l,R.a,R.e,R.d⟩
  have G1:cs (rs.flatMap (bi z2.a))<=md.b (h+1):=by
   refine aL (SU (b:=md.b h) λr hr=>?_) ?_
   .obtain⟨l,a1,_,a3⟩:=A r hr
    rw[a1.bR g2.e (aA _)];exact a3
   .rw[vt];exact aL (fM _ jC) zI
  refine ag (a_ cM rfl) ?_;refine u8 (n:=N+12) (F:=bi z2.a) g2.e ("~55NZCazy=L1M4E?HIjuba8PrGMLGCc" room U gA) (QV j2 (by rw[vt];exact "~6zzXgV;L>^w" zH jC)) (λr hr=>?_) ?_ λz3 r L3 g3 p3 hh=>?_
  .obtain⟨l,a1,_⟩:=A r hr
   rw[a1.bR g2.e (aA _)];exact a1
  .have h1:=zC (ko (S:=rs.flatMap (bi z2.a)))
   have h2:=nr (S:=rs.flatMap (bi z2.a));exact "~8gN<dgIv^E1TBVr3NrcEx8QT" h1 h2 G1 SW
  ·
   refine ew (aC cM p3) (bP rfl) ?_;have fm:Fm L (L3.set i (bM {s with g:=r})) [i,s.a,s.d]:=
    (Fm.new (L1:=L1) (ex:=[s.a,L.length,i]) p1 (((f2.mono (by simp)).trans (Fm.pre p3)).trans (Fm.set (by simp))) λx H sN=>by
     simp only[bH,dU,kX]at H ⊢;rcases H with e |e |e
     .exact .inr (.inl e)
     .lia
     .exact .inl e)
   have S4:lc'.length*(md.gT h 1+2)+1<=md.kk*(md.gT h 1+2)+1:= "~7558MS^i8rR" U;refine q z3 r _ k2 [] (ae (rs.flatMap (bi z2.a))) {s with g:=r} ⟨(g2.trans g3).mono S4,fm,aT (aC cM p3),rfl,rfl,?_,bz (aC vG p3) w.1, "~KTacQAgaNU5q" i3 vH,by rw[b9];exact hE,⟨λe he=>?_,?_⟩,aL nr G1,λT p n=>?_⟩
   .rw[b9];exact bz (aC ex2 p3) w.2.1
   .rw[dh,aB]at he;subst he;exact⟨_,hh,eE _⟩
   .rw[dh,dJ,ji,b9,hh.bR g3.e (aA _)]
   .rw[eE]
    exact zG (V1:=λC=>[]) (md:=md) (W:=λp T=>cz T (aK h T) (jB m c p) p a x y d) g2.e (g3.d.trans p) n aR
end
section
variable{C:CT}{z:Z}{L:List O}{n t i N h k c a x y d:Nat}{Q:V->St->Prop}{l ls lt E lc la:List Nat}{σ:St}{T:Tb}{m:Mp}{s:Sp}{md:Md}
def pq(h:26+pid∉l):c5 (some (pid,v)) lv l=l:=sn λx H=>ab λe=>h (by rw[<-e];exact H)
def vI:c5 (some (pid,v)) lv [26+pid]=lv:=by
 show(if 26+pid=26+pid then lv else[26+pid])++[]=lv;rw[ah rfl,b9]
def sO(I:am z)(h:At z c [p]):c=p:=by
 rcases h.c.c with⟨e,_⟩ |e |⟨e,_⟩
 .cases e
 .exact(jS e).1.symm
 .simp at e
def G2(h:l.length<=1):l=[]\/∃p,l=[p]:=by
 induction l using bo with
 |nil=>exact .inl rfl|cons p l=>
  induction l using bo with
  |nil=>exact .inr ⟨p,rfl⟩|cons _ l=>exact(Kb _ (BO h)).elim
def S8(I:am z)(J:z.a <+:u.a)(A:md.cK z m)(o:At z c lc)(U:md.gy lc d)(ch:Gn u m c lc c' lc'):
  (md.a=false->be lc'=false)/\(d=1->lc'.length<=md.kk)/\(d=1->2<=lc'.length->(∃pid v,(pid=1\/pid=2)/\m=some (pid,v)/\c=26+pid)\/(2<=lc.length)):=by
 induction m using aX with
 |none=>
  have j:md.a=true:=A;have e:=(ch.d rfl).2;subst e;refine⟨λe=>(by rw[j]at e;cases e),λY=>?_,λQ h=>.inr h⟩;unfold Md.gy at U;rw[j]at U;unfold Md.kk;rw[j];exact(U Y).1
 |some pv=>
  obtain⟨pid,v⟩:=pv;obtain⟨lv,B,hl,G,ho,g⟩:=nl A;have e:=ch.e (pid,v) lv rfl (B.gr J);generalize j:md.a=x_
  induction x_ using aS with
  |true=>
   have H:pid=1:=ho j;unfold Md.gy at U;rw[j]at U;by_cases r:27∈lc
   .refine⟨λe=>(nomatch e),λY=>?_,λY h2=>?_⟩
    .have:=(U Y).2 r
     rw[e,this,show[27]=[26+pid]by rw[H],vI,B.f];exact hl
    .have:=(U Y).2 r
     rw[this]at o;exact .inl ⟨pid,v,G,rfl,by rw[sO I o,H]⟩
   .have e2:lc'=lc:=by rw[e,pq (by rw[H];exact r),o.f]
    rw[e2];refine⟨λe=>(nomatch e),λY=>?_,λY h2=>.inr h2⟩;unfold Md.kk;rw[j];exact(U Y).1
  |false=>
   obtain⟨w,S9⟩:=g j;unfold Md.gy at U;rw[j]at U;refine⟨λQ=>?_,λY=>?_,λY h2=>?_⟩
   .rw[e];exact GF (GD w U.1 S9)
   .have kw:=U.2 Y
    rcases G2 kw with e0 |⟨p,e0⟩ <;>rw[e0]at e
    .rw[e];exact bb _
    .by_cases f:p=26+pid
     .rw[e,f,vI,B.f];exact hl
     .rw[e,pq (λq=>f (aB.mp q).symm),cW]
      show 1<=md.kk;unfold Md.kk;rw[j];decide
   .have kw:=U.2 Y
    rcases G2 kw with e0 |⟨p,e0⟩ <;>rw[e0]at e
    .rw[e]at h2;exact absurd h2 (show¬ 2<=(ae ([]:List Nat)).length by decide)
    .by_cases f:p=26+pid
     .rw[e0]at o;exact .inl ⟨pid,v,G,rfl,by rw[sO I o];exact f⟩
     .rw[e,pq (λq=>f (aB.mp q).symm),cW]at h2
      exact absurd h2 (Nat.not_succ_le_self 1)
def G3(S_:1<=f)(hP:∀N,f<=N->fq md h N)(dE:∀h',h=h'+1->∀N,f<=N->eZ md h' N)(io:∀h',h=h'+1->∀N,f<=N->kH md h' N)(hh:h<=2):∀N,f+17<=N->kH md h N:=by
 intro N0 kJ fl z L i s m E k c a x y d lc la K lY I S hr G4 i8 o G oc J H hd om j hE U room dp B q;obtain⟨N,rfl⟩:∃N,N0=N+17:=⟨N0 - 17, "~4Av7mcq>NY7V1F6Bl_RTddybz3z82h9K" ao kJ⟩;have Y:f<=N:= "~4rS5t;PmFjQYS58" kJ;obtain⟨fl,rfl⟩:=eV (k:=1) (N:=fl) ("~1xGuc^qDi?" lY);obtain⟨fl,rfl⟩:=eV (k:=1) (N:=fl) ("~1_R5ngqWpH0y" lY);have sH:=GO (md:=md) h;have lJ:md.kk*(md.gT h 1+2)+3<=md.gC (md.gB h):=by
  rw[sH];unfold Md.kk Md.gT
  induction md.a using aS with
  |true=>show 4*(4*md.gB h+30+2)+3<=16*md.gB h+200;exact "~dDRpBY1pEdWZP2BYJ6dz0fA" id|false=>show 2*(1*md.gB h+30+2)+3<=2*md.gB h+70;exact "~m;2O2o?sCIL|<^mxW;c9r" id
 have Ta:md.kk*(md.gT h 1+2)<=16*md.gB h+128:=by
  unfold Md.kk Md.gT
  induction md.a using aS with
  |true=>show 4*(4*md.gB h+30+2)<=16*md.gB h+128;exact "~m;>|9_fqwDMbDamBZUho^" id|false=>show 2*(1*md.gB h+30+2)<=16*md.gB h+128;exact "~m;>|9_fqwDMbDakSw4ao9" id
 have sP:md.rF h=24*md.gB h+1000:=rfl;have zJ:md.rP h+300<=4*md.gB h+1000:=by
  induction h using dK with
  |zero=>show 10+300<=4*1+1000;decide|succ h'=>
   show 24*md.gB h'+1000+300<=4*(md.NI (h'+1)*md.gC (md.gB h')+1)+1000;unfold Md.NI Md.gC
   induction md.a using aS with
   |true=>show 24*md.gB h'+1000+300<=4*(1*(16*md.gB h'+200)+1)+1000;exact "~1;t>ElyyLSj?0n_DwlZ0RidmqncMp870G" id|false=>
    show 24*md.gB h'+1000+300<=4*(4 ^ (h'+1)*(2*md.gB h'+70)+1)+1000;have h4:4<=4 ^ (h'+1):=by rw[xn];have v1:=tL h' 4 (by decide);exact "~2DB8Hz<q49" v1
    have v2:=fM (2*md.gB h'+70) h4;exact "~4o<^r?4_Zqq5x^GIroBt?rXdHn8RzcXX" v2
 have vJ:sp (h+1)=4*(1+sp h):=rfl;refine GN S.a i8 λQ hQ=>?_;refine az (ρ:=[some (.o (i+14)),none,none,none]) rfl ?_;refine ag (a_ S.a rfl) ?_;refine ag (a_ S.a rfl) ?_;refine Gp (n:=N+7) I ("~n09;Z22TkzQv4rTy214" room) S.a hr G4 S.b om o λu c' L1 lc' A p1 ch=>?_;have s1:=A.f;have S1:=S.ext (z':=u) p1;have pn:=o.gr A.d;have sA:=G.gr A.d;obtain⟨k1,k2,k3⟩:=S8 I A.d om o oc ch;have pi:∀T,u.a <+:T->bi T c'=lc':=λT p=>ch.b.c.bR A.e p;have done:∀z' r L' k' E' S' s',TD u L1 i s E k (md.gC (md.gB h) - 2) (md.b (h+1)) (sp (h+1)) (λT=>cJ T (aK h T) m c a x y d) z' r L' k' E' S' s'->lX (N+17) (fl+1) i K (st z' L'):=λz' r L' k' E' S' s' D=>by
  have D2:=D.grown A p1;exact GL D2.c D2.f (q z' r L' k' E' S' s' (D2.mono ("~cSbQc8>1ICQA_PGUyqn2a5iWjHhQi0rY?8zi" ao ao lJ) (av _) (av _) λT p n=>rfl))
 by_cases w:c'=13
 .subst w
  show aM (ai (N+16)) vC _ _ (st u L1);rw[hr];refine ew S1.a (bP rfl) ?_;have nk:At u 13 [13]:=⟨fp (nd A.e (by decide)),cW,by decide⟩;exact hQ _ (done u 13 _ k [] [13] {s with g:=13} (TD.zz S1 ("~1HwV^nNJ24n4ZL" hE) ((Gr.refl A.e).mono (bb _)) (aA _) nk λT p n=>by unfold cJ;rw[ch.a T p n,ah rfl];rfl))
 by_cases jF:d=1/\c'=2
 .obtain⟨lZ,h2⟩:=jF
  subst lZ;subst h2;show aM (ai (N+16)) vC _ _ (st u L1);rw[hr];refine ew S1.a (bP rfl) ?_;have a2:At u 2 []:=⟨hY,rfl,λx hx=>nomatch hx⟩;exact hQ _ (done u 2 _ k [] [] {s with g:=2} (TD.zz S1 ("~1HwV^nNJ24n4ZL" hE) ((Gr.refl A.e).mono (bb _)) (aA _) a2 λT p n=>by unfold cJ;rw[ch.a T p n,ab w,ah ⟨rfl,rfl⟩];rfl))
 by_cases f4:d=1/\2<=lc'.length
 .obtain⟨lZ,h2⟩:=f4
  subst lZ;obtain⟨hx,v⟩:=H.resolve_left λq=>by
   have e:=(ch.d q.1).2;have v3:=q.2.1 rfl;rw[e]at h2;lia
  have Tc:=Gk A.e ch.b h2;have gM:u.a.length < 4194304:=Z.bZ (c:=0) ("~=PgQXxtz4jBI7YzMg2HY" room s1);have GK:c'≠2:=λe=>jF ⟨rfl,e⟩;show aM (ai (N+16)) vC _ _ (st u L1);rw[hr];refine bF (vF ("~1I;8B4iIgVS>z3" w)) ?_;refine bF (vF ("~=PTImdM<v;e>2^Q2w7H1" jF)) ?_;refine uY (n:=N+15) gM Tc ?_;refine SV (N:=N) (f:=f) (h:=h) (la:=la) ("~3NB^HPnuyINQZ8Ebg14" kJ S_) Y hP dE io hh A.e S1 ("~1HwV^nNJ24n4ZL" hE) hr j J (k3 rfl h2) pn ch.b h2 (k2 rfl) k1 sA (hx.gr A.d) (v.gr A.d) (ik om A.d) ("~BpWJ4<jbxQy1n1ZFiXc_jPo>Bn>xPLanFRQkcma39oeL3>v;U92Y^FK10jESwvV" sP zJ room Ta s1) (by rw[A.i];exact "~2Knr4zdNCuzV2<Zjq5OTmSE" dp) (by rw[A.i];exact B) ("~LSL6l0vAbdNS<KXhCxU1fQFhfY^" vJ U) λz' r L' k' E' S' s' D=>?_;refine hQ _ (done z' r L' k' E' S' s' (D.mono ("~mODkaR6a7cLdaswKlD<" ao lJ) (av _) (av _) λT p n=>?_));unfold cJ;rw[ch.a T (D.a.d.trans p) n,ab w,ab (λe=>GK e.2),pi T (D.a.d.trans p),ah ⟨rfl,h2⟩]
 .have gD:∀T,u.a <+:T->T.Nodup->cJ T (aK h T) m c a x y d=cz T (aK h T) m c' a x y d:=λT p n=>by
   unfold cJ;rw[ch.a T p n,ab w,ab jF,pi T p,ab f4]
  have vA:bU c'<=2:=pf;have zI:(bU c')*(if md.a then 4 ^ h else 0)<=md.b (h+1):=by
   unfold Md.b
   induction md.a using aS with
   |true=>
    show _*4 ^ h<=4 ^ (h+1);rw[xn,Cb];exact Nat.mul_le_mul_left _ ("~V_QZ7o?5" vA)
   |false=>show _*0<=0;exact av _
  have sC:(bU c')*(1+sp h)<=sp (h+1):=fM (1+sp h) ("~V_QZ7o?5" vA);have sL:md.gT h (bU c')+2<=md.gC (md.gB h):=by
   rw[sH];unfold Md.gT;have v4:=fM (md.gB h) vA
   induction md.a using aS with
   |true=>show 4*md.gB h+30+2<=16*md.gB h+200;exact "~?oPhvozEuLVyRIrSwFnn" id|false=>show _*md.gB h+30+2<=2*md.gB h+70;exact "~nB0G18<_=K5N7Ez8_1Z" v4
  refine GJ (N:=N+5) (s:=s) (h:=h) (lc':=lc') (la:=la) (f:=f) rfl ("~bPH=yAZ^" id) ("~43l^tg6sp7FaUbeUw" kJ) hP dE A.e ("~<DtjLsur2kQ9HTHNBs1Jjjtwu6_ifpyh7tRSqyapotE|I24adhxz" sP zJ room s1) (by rw[A.i];exact "~2qIy60f9e|Xx=r7djZN0C" dp) (by rw[A.i];exact B) (ik om A.d) S1 hr j ("~1HwV^nNJ24n<DT" hE) ("~7Bmh|6DLgZGR2YCgRnd8eIMZzK" vJ U) (.inl ⟨G4,ch.a⟩) pn ch.b sA J (H.imp (λq=>⟨q.1,by rw[(ch.d q.1).2];exact q.2.2⟩) λq=>⟨q.1.gr A.d,q.2.gr A.d⟩) k1 w jF f4 (λz' r L' k' E' S' s' D ρ=>?_) (λz' L' k' E' S' h' c2 a2 x2 y2 d2 ed ef D ρ=>?_)
  .exact hQ _ (done z' r L' k' E' S' s' (D.mono ("~x6||yLTY<iImKxuK>" ao sL) zI sC λT p n=>by rw[gD T (D.a.d.trans p) n]))
  .have D2:=D.grown A p1
   refine hQ _ ?_;have hb:((bU c') - 1)*(if md.a then 4 ^ h else 0)+md.b h<=md.b (h+1):=by
    unfold Md.b
    induction md.a using aS with
    |true=>
     show _*4 ^ h+4 ^ h<=4 ^ (h+1);rw[xn,vz,Cb];exact Nat.mul_le_mul_left _ (aL pf (by decide))
    |false=>exact av 0
   have hs:(bU c' - 1)*(1+sp h)<=1+sp h:=GA;have hg:(bU c' - 1)*md.gB h<=md.gB h:=GA;have Td:1+(((bU c') - 1)*md.gB h+21)+md.gB h<=md.gC (md.gB h) - 1:=by
    rw[sH]
    induction md.a using aS with
    |true=>show _<=16*md.gB h+200 - 1;exact "~55L1<48Gtc9SAjGp1yjzbxaajLt_hS" ao hg|false=>show _<=2*md.gB h+70 - 1;exact "~658vQuOAUn6G61Dj^I;Hi>rC6Wyz" ao hg
   have D3:TN md z L i s m E k h 1 (1+(((bU c') - 1)*md.gB h+21)) (((bU c') - 1)*(if md.a then 4 ^ h else 0)) (((bU c') - 1)*(1+sp h)+1) (λT=>cJ T (aK h T) m c a x y d) z' L' k' E' S' h' c2 a2 x2 y2 d2 ed ef:=
    D2.mono (av _) (av _) (av _) (av _) λT p n=>by rw[gD T (D.f.d.trans p) n]
   exact GP (N:=N+17) (λe=>io h' e _ ("~3M?ff3ZOw_Nf7pFjHZD" kJ)) i8 om ("~44op>w_HPQMZTrBp4" lY) D3 j ("~444pCBgiNg|E3SZng" hE) ("~4A|C3wEegDM67vI5b>KbPRCwR;A^EMpa" vJ U hs) ("~35hglWxNh;m>A5G<7mBE<w9gexsDs2<SSt>0r0YP3XKWsEzGzDW" sP zJ room hg) ("~2qIy60f9e|Xx>pRdPDw>E" dp) B Td hb ("~3MARxGFITg?Styf=eqQ" vJ hs) q
end
section
variable{C:CT}{z:Z}{L:List O}{n t i N h k c a x y d:Nat}{Q:V->St->Prop}{l ls lt E lc la:List Nat}{σ:St}{T:Tb}{m:Mp}{s:Sp}{md:Md}
def Te:70<=md.gC (md.gB h):=by unfold Md.gC;split <;>lia
def G5(j:h<=2)(io:∀N,f1<=N->kH md h N):∀N,f1+5<=N->eZ md h N:=by
 intro o f z L i s m k c a x y d lc la Q I S hr u i8 hc G oc J H Y A i6 U room dp B q;obtain⟨N,rfl⟩:∃N,o=N+5:=⟨o - 5, "~7B_Aja7VKSuykkNVUHe;DC4yKl" ao f⟩;have gz:z.a <+:({z with b:=z.b+1}:Z).a:=aA _;have hb:=vD (md:=md) (h:=h+1) ("~P_<RtjkSD1" j);have v:=Te (md:=md) (h:=h);have sP:md.rF h=24*md.gB h+1000:=rfl;have p:=GO (md:=md) h;have Tf:md.gC (md.gB h)<=16*md.gB h+200:=by unfold Md.gC;split <;>lia
 refine GS (g:=md.gC (md.gB h)) (b:=md.b (h+1)) (sv:=sp (h+1)) (val:=λT=>cJ T (aK h T) m c a x y d) ("~mBIXgcsZr2brVpBMd^n" dp) S (λK hK=>?_) q;refine GR (N:=N) (g:=md.gC (md.gB h) - 1) (b:=md.b (h+1)) (sv:=sp (h+1)) (val:=λT=>cJ T (aK h T) m c a x y d) ("~KMwGzgvEBkf7" hb) (by show z.sz+_+1<=_;exact "~eNLtD_Chv6QwG3HNwbJI8Q3^YgrrsTOdS>vg=Z9AVdzX==Kz2cO" ao sP room Tf) (S.ext (aA _)) (λK' w=>?_) λz' r l L' k' g f2 s2 kk R=>hK z' r l L' k' (g.mono ("~j285_4G|fp|fR9lTM1B" ao v)) f2 s2 kk R;exact io (N+3) ("~5v_EgMklnf0sT" f) 1000000 {z with b:=z.b+1} L i s m [] k c a x y d lc la K' ("~GL<6LA5l0y^8Jp" j) (I.sM _) (S.ext (aA _)) hr u i8 (hc.gr gz) (G.gr gz) oc J (H.gr gz) Y (ik A gz) i6 (by simp only[dG];exact "~KYqdpKgmr|XW" j) U room (by show z.b+1+3*_<=36;exact "~1|_Mw<3LMA?n?sN0lleNNNir7" dp) (by show 0<=z.b+1;exact "~Q1qY>1oHZJ" B) w
def vK(dE:eZ md h (N+1))(hh:h<=2)(I:am z)(hc:At z c lc)(G:At z a la)(oc:md.gy lc d)(J:md.eF la)(H:lU md z h m d lc la x y)(Y:d<=1)(A:md.cK z m)(hm:L[mi]?=some (aI m))
  (room:z.sz+md.rF h<=4190000) (dp:z.b+3*(h+1)<=35) (B:0<=z.b)
  (q:∀z' (r:Nat) l L',Gr (md.gC (md.gB h)) z z'->L <+:L'->bG z' (λT=>cJ T (aK h T) m c a x y d) (md.b (h+1)) r l->Q (.j r) (st z' L')):
  ar (ai (N+2) 52 [.o 10,.p (aV c a x y d),.o (mi+14)] (st z L)) Q:=by
 refine az (ρ:=[some (.o 10),some (.p (aV c a x y d)),some (.o (mi+14))]) rfl ?_;refine y3 (n:=N) hm ?_;have m1:(L++[aI m])[L.length]?=some (aI m):=bk;have p1:L <+:L++[aI m]:=bp;generalize L++[aI m]=L1 at m1 p1;refine bY ?_;have w:(L1++[O.a [.j 0]])[L1.length]?=some (.a [.j (0:Nat)]):=bk;have p2:L1 <+:L1++[O.a [.j 0]]:=bp;have f:=(bW.mp m1).1;generalize L1++[O.a [.j 0]]=L2 at w p2;refine va (n:=N) (rd:=0) λL3 p3 U Tg p=>?_;have i2:=(bW.mp w).1;have u:sp (h+1)<=84:=RR ("~P_<RtjkSD1" hh);refine dE z L3 L2.length ⟨aV c a x y d,L.length,0,L1.length,L2.length+1,-1,-1⟩ m 0 c a x y d lc la _ I ⟨Tg,aC m1 (p2.trans p3),aC w p3,p,by show L1.length≠L2.length+1;exact "~NiHf4zuMs?" i2⟩ rfl rfl rfl hc G oc J H Y A (by show 0+h<=90;exact "~KYqdpKgmrtsO" hh) ("~1=B?cn||2lqEvR7v" u) room dp B λz' r l L' k' g f2 s2 kk R=>?_;refine q z' r l L' g ?_ R;have v:Fm L L' []:=Fm.new (p1.trans (p2.trans p3)) f2 λx hx sN=>by
  simp only[bH,dU,kX]at hx ⊢;have:=p1.length_le;rcases hx with e |e |e <;>lia
 exact rU (j:=L.length) (λi o hi ho=>v.2 i o (by simp) ho) v.1 (av _)
abbrev ga(h:Nat)(T:Tb)(pv:Nat×Nat)(p:Nat):List Nat:=match ij T p with
 |some (c,a,x,y,d)=>cJ T (aK h T) (some pv) c a x y d|none=>bi T (zt (some pv) p)
def G6(I:am z)(hz:z.a.length < 4194304)(A:md.cK z (some pv))(hm:L[w]?=some (aI (some pv)))(J:p∈aD)
  (q:∀L' (r:Nat) l,L <+:L'->bG z (λT=>ga h T pv p) 0 r l->Q (.j r) (st z L')):ar (ai (n+4) 26 [.o 10,.j p,.o (w+14)] (st z L)) Q:=by
 obtain⟨pid,v⟩:=pv;obtain⟨lv,B,_,G,_⟩:=nl A;refine za (n:=n) I hz G hm J λL' U=>?_;have f:∀T,z.a <+:T->ga h T (pid,v) p=bi T (gw pid v p):=λT Y=>by unfold ga;rw[zu I Y J];rfl
 unfold gw at f ⊢;by_cases e:p=26+pid
 .rw[ah e]
  refine q L' v lv U (B.res 0 λT Y u=>?_);rw[f T Y,ah e,B.c.bR I Y,B.f]
 .rw[ab e]
  have j:At z p [p]:=⟨eG I J,cW,λx H=>by rw[aB]at H;subst H;exact J⟩;refine q L' p [p] U (j.res 0 λT Y u=>?_);rw[f T Y,ab e,j.c.bR I Y,cW]
def G7(U:eZ md h (N+1))(j:h<=2)(I:am z)(A:md.cK z (some pv))(hm:L[w]?=some (aI (some pv)))(J:vq md z (Wf md z h) p)
  (room:z.sz+md.rF h<=4190000) (dp:z.b+3*(h+1)<=35) (B:0<=z.b)
  (q:∀z' (r:Nat) l L',Gr (md.gC (md.gB h)) z z'->L <+:L'->bG z' (λT=>ga h T pv p) (md.b (h+1)) r l->Q (.j r) (st z' L')):ar (ai (N+5) 26 [.o 10,.j p,.o (w+14)] (st z L)) Q:=by
 obtain⟨c,a,x,y,d,lc,la,hr,ft,o,G,oc,oa,H,v,Y⟩:=J;have hz:z.a.length < 4194304:=Z.bZ (c:=0) ("~18hyZ7qPmvy|A;82" room);refine az (ρ:=[some (.o 10),some (.j p),some (.o (w+14)),none]) rfl ?_;refine aP (ig hm) ?_;refine ag (co hz hr) ?_;refine az (f:=25) (ρ:=[some (.o 10),some (.j p),some (.p (aV c a x y d)),some (.o (w+14)),none]) rfl ?_;refine y3 (n:=N+2) hm ?_;have m1:(L++[aI (some pv)])[L.length]?=some (aI (some pv)):=bk;have p1:L <+:L++[aI (some pv)]:=bp;generalize L++[aI (some pv)]=L1 at m1 p1;refine aP (ig m1) ?_;refine az (f:=82) (ρ:=[some (.o 10),some (.p (aV c a x y d)),some (.o (L.length+14))]) rfl ?_;refine vK (N:=N) U j I o G oc oa (.inr ⟨H,v⟩) Y A m1 room dp B λz' r l L' g hL R=>?_;exact q z' r l L' g (p1.trans hL) ⟨R.a,R.e,R.d,λT hT u=>by
  unfold ga;rw[zr (cH (g.d.trans hT) hr)];exact R.c T hT u⟩
def zK(l:List Nat):d7 (λp=>if p < 29 then 0 else g) l=cs l*g:=by
 induction l with
 |nil=>
  exact(Ca g).symm
 |cons p l ih=>
  show(if p < 29 then 0 else g)+d7 _ l=_;rw[ih];unfold cs;rw[jg];by_cases h:29<=p
  .rw[ab ("~5t||BPB2HIqgh" h)]
   simp only[h,decide_true,qo,bI];rw[kY,Nat.add_comm]
  .rw[ah ("~5t||BPtk1tGw^" h)]
   simp only[h,decide_false,je,jf,qf]
theorem zL{W:Nat->Tb->List Nat}(I:am z):∀{ps rs:List Nat},f9 (λq r=>∃l,bG z (W q) (if q < 29 then 0 else b) r l) ps rs->cs (rs.flatMap (bi z.a))<=cs ps*b
 |[],[],_=>bb _|q::ps,r::rs,a=>by
  obtain⟨l,R⟩:=a.1;rw[dJ,nq,R.a.bR I (aA _)];have h1:=R.d;have h2:=zL I a.2;have e:cs (q::ps)*b=(if q < 29 then 0 else b)+cs ps*b:=by rw[<-zK,<-zK];rfl
  lia
 |[],_::_,a=>a.elim|_::_,[],a=>a.elim
def Th(j:h<=2)(dE:∀N,f<=N->eZ md h N):∀N,f+7<=N->fq md (h+1) N:=by
 intro o kJ z L i mi pv Q I hw A hm room dp nn q;obtain⟨N,rfl⟩:∃N,o=N+7:=⟨o - 7, "~7B_Aja7VKSuykl6F4qNW7M45kY" ao kJ⟩;obtain⟨l,Y,H,cl,G8⟩:=hw;have v:md.rP (h+1)=md.rF h:=rfl;have G9:md.gB (h+1)=md.NI (h+1)*md.gC (md.gB h)+1:=rfl;have hz:z.a.length < 4194304:=Z.bZ (c:=0) ("~47sfRge<LXEm?X7HE" room);have Ti:md.NO (h+1)=md.b (h+1):=rfl;have hb:=vD (md:=md) (h:=h+1) ("~P_<RtjkSD1" j);have Tj:=zw (md:=md) h;have gD:∀T,z.a <+:T->aK (h+1) T (some pv) i=l.flatMap (ga h T pv):=λT hT=>by
  unfold aK;rw[Y.bR I hT];rfl
 rcases Y.c with⟨e,w⟩ |e |⟨h2,_⟩
 .subst w
  refine lO (n:=N+5) hz hm (jy I) (.a _) (q z 2 [] L ((Gr.refl I).mono (bb _)) (aA _) ⟨hY,rfl,bb _,λT hT u=>?_⟩);rw[gD T hT,e];rfl
 .have G_:∀T,z.a <+:T->aK (h+1) T (some pv) i=ga h T pv i:=λT hT=>by rw[gD T hT,e,dJ,ji,b9]
  rcases G8 i (by rw[e];simp)with⟨U,_⟩ |hc
  .refine G6 (n:=N+3) (h:=h) I hz A hm U λL' r l' hL R=>?_
   exact q z r l' L' ((Gr.refl I).mono (bb _)) hL ⟨R.a,R.e,aL R.d (bb _),λT hT u=>by rw[G_ T hT];exact R.c T hT u⟩
  .refine G7 (N:=N+2) (dE _ ("~4|A_azjTKR2gB??" kJ)) j I A hm hc ("~Wu8qPZf0>wU|lcXBrGa1KIP" v room) ("~2KnfNgamGf58LGKfCC5bDGE" dp) nn λz' r l' L' g hL R=>?_
   exact q z' r l' L' (g.mono ("~8Qs>azpMF" Tj)) hL ⟨R.a,R.e,R.d,λT hT u=>by rw[G_ T (g.d.trans hT)];exact R.c T hT u⟩
 .have su:d7 (λp=>if p < 29 then 0 else md.gC (md.gB h)) l<=md.NI (h+1)*md.gC (md.gB h):=by rw[zK];exact fM _ cl
  have Ha:cs l*md.b (h+1)<=md.b (h+1):=by
   unfold Md.b;unfold Md.NI at cl;generalize ho:md.a=x_
   induction x_ using aS with
   |true=>rw[ho]at cl;have cl:cs l<=1:=cl;have:=fM (4 ^ (h+1)) cl;rw[tM]at this;exact this|false=>show cs l*0<=0;exact av _
  refine zc (n:=N+3) (R:=λz p r=>∃l,bG z (λT=>ga h T pv p) (if p < 29 then 0 else md.b (h+1)) r l) (c:=λp=>if p < 29 then 0 else md.gC (md.gB h)) (B:=4190000 - md.rF h) (λc z z' p r hr g=>let ⟨l,a⟩:=hr;⟨l,a.gr g.d⟩) I ("~2ebjXTIiZdQ|>ULcz7WWJ" ao) hm Y h2 ("~1bggX2EJ4pKbfim=SPSQzr;^ys_Mn_L23fUXKU?j=j" ao G9 v room su)
   (λp J z1 L1 Q' i1 b1 d1 l1 q1=>?_) (λz1 p r i1 hr=>?_) (λz' rs g G=>?_) λz' dC r L' rs g g' hL G Tk=>?_
  .obtain⟨dd,gd⟩:=d1
   have b1:z1.sz+(if p < 29 then 0 else md.gC (md.gB h))<=4190000 - md.rF h:=b1;rcases G8 p J with⟨U,_⟩ |hc
   .have ft:=zo p U
    refine G6 (n:=N+1) (h:=h) i1 (Z.bZ (c:=0) (by lia)) (ik A gd.d) (aC hm l1) U λL' r l' hL R=>q1 z1 r L' ((Gr.refl i1).mono (bb _)) hL ⟨l',?_⟩;rw[ah ft];exact R
   .have cL:vq md z1 (Wf md z1 h) p:=by
     obtain⟨c,a,x,y,d,lc,la,h1,h2,h3,h4,h5,h6,h7,h8,h9⟩:=hc;exact⟨c,a,x,y,d,lc,la,cH gd.d h1,h2,h3.gr gd.d,h4.gr gd.d,h5,h6,h7.gr gd.d,h8.gr gd.d,h9⟩
    have ft:29<=p:=by obtain⟨_,_,_,_,_,_,_,_,h,_⟩:=hc;exact h
    rw[ab ("~5t||BPB2HIqgh" ft)]at b1;refine G7 (N:=N) (dE _ ("~5yZC^dl3k>QTy" kJ)) j i1 (ik A gd.d) (aC hm l1) cL ("~1bgoX6WNxLiTigmaHLZWYgT7LBzWqQ7E2MD5qjUhX7" ao v room b1) (by rw[gd.i];exact "~2KnfNgamGf58LGKfCC5bDGE" dp) (by rw[gd.i];exact nn) λz' r l' L' g hL R=>q1 z' r L' (by rw[ab ("~5t||BPB2HIqgh" ft)];exact g) hL ⟨l',?_⟩;rw[ab ("~5t||BPB2HIqgh" ft)];exact R
  .obtain⟨l',R⟩:=hr
   rw[R.a.bR i1 (aA _)];exact R.a
  .have h1:=zC (ko (S:=rs.flatMap (bi z'.a)))
   have h2:=nr (S:=rs.flatMap (bi z'.a));have h3:=zL (W:=λp T=>ga h T pv p) g.e G;exact "~1eC??vy_4Y9Je|kSmLBJF^rO1K3" Ha hb h1 h2 h3
  .refine q dC r _ L' ((g.trans g').mono ("~GADuh7Q6_JZb4v" G9 su)) hL ⟨Tk,eE _,?_,λT hT u=>?_⟩
   .have h2:=nr (S:=rs.flatMap (bi z'.a))
    have h3:=zL (W:=λp T=>ga h T pv p) g.e G;exact "~17_UiURyYEm??rzn" Ti Ha h3 h2
   .rw[gD T (g.d.trans (g'.d.trans hT))]
    have Tl:=vj (R':=λp r=>∃l,bG z' (λT=>ga h T pv p) (md.b (h+1)) r l) (λp r hr=>by
     obtain⟨l',R⟩:=hr;exact⟨l',R.mono (by split <;>lia)⟩) G
    exact zG (V1:=λC=>[]) (md:=md) (W:=λp T=>ga h T pv p) g.e (g'.d.trans hT) u Tl
def Hb:∀N,7<=N->fq md 0 N:=by
 intro o f z L i mi pv Q I A U hm room dp H q;obtain⟨N,rfl⟩:∃N,o=N+7:=⟨o - 7, "~1|VP0PdoOx_pbxV_do1TVLIU4" ao f⟩;obtain⟨l,j,J⟩:=A;obtain⟨pid,v⟩:=pv;obtain⟨lv,B,_,G,_⟩:=nl U;have e1:md.gB 0=1:=rfl;have w:md.rP 0=10:=rfl;refine Gl (n:=N) I ("~2t;SReMkdfAbXe7z8z^zG" room) G j B hm λz' r L' g p Y=>?_;refine q z' r _ L' g p (Y.res _ λT hT u=>?_);show ae (i4 T (some (pid,v)) i)=_;rw[kD I j B (g.d.trans hT)]
theorem sQ(md:Md):∀h,h<=3->(∀N,30*h+29<=N->fq md h N)/\(h<=2->(∀N,30*h+29<=N->eZ md h N)/\∀N,30*h+29<=N->kH md h N)
 |0,_=>by
  have o:=G3 (md:=md) (h:=0) (f:=7) (by decide) Hb (λh' e=>by lia) (λh' e=>by lia) (by decide);exact⟨λN Y=>Hb N ("~18i=R<IXh7;iKx9f" Y),λQ=>⟨λN Y=>G5 (by decide) o N ("~d|Vx1Qkd<EbFIjAqaUPe>" Y),λN Y=>o N ("~n0FCbw<cs_ZldqqraOz" Y)⟩⟩
 |h+1,j=>by
  obtain⟨u,g⟩:=sQ md h ("~Pgu4;<;ov7" j);obtain⟨I,o⟩:=g ("~Pgu4;;Qu|_" j);have U:=Th (md:=md) (h:=h) (f:=30*h+29) ("~Pgu4;;Qu|_" j) I;refine⟨λN Y=>U N ("~RC8kY;M|76Rwcf8UlaNncZy5s" Y),λh2=>?_⟩;have J:=G3 (md:=md) (h:=h+1) (f:=30*h+36) ("~1Zu3hHOuLy3sW<" id) U (λh' e N Y=>by cases e;exact I N ("~e;?_hLoLOFt>EGGbaDqnR" Y)) (λh' e N Y=>by cases e;exact o N ("~e;?_hLoLOFt>EGGbaDqnR" Y)) h2;exact⟨λN Y=>G5 h2 J N ("~HW>9;ywKV5RvUl<m75p^2Nc6=iJ5F" Y),λN Y=>J N ("~Lym43RkVov0aRDMwS2bIpCaPz1w" Y)⟩
end
section
variable{C:CT}{z:Z}{L:List O}{n t i N h:Nat}{Q:V->St->Prop}{l ls lt S:List Nat}{σ:St}
def Tm:∀{acc:List Nat},(acc++l).Pairwise (·<=·)->(dd acc l).Pairwise (·<=·):=by
 induction l with
 |nil=>
  intro acc h;rw[b9]at h;exact h
 |cons x l ih=>
  intro acc h;rw[oV];split
  .refine ih (h.sublist ?_)
   exact List.Sublist.append_left (List.sublist_cons_self _ _) _
  .refine ih ?_
   rw[c6];exact h
def Tn(n:cd S):dd [] ((bw S).filter λt=>!aY S t)=ae S:=by
 rw[lQ n];refine m8 (Tm (by rw[dh];exact u3.filter _)) (kn.filter _) (m9 iF) (km.filter _) λx=>?_;rw[fo,c7,c7,m7,iW];simp
def Hc{x:Nat}:dc .b (.j x) (.r (aa l)) σ=some (.w (l.contains x),σ):=by rw[jx (b:=true) (l:=l) rfl,h_]
abbrev zM:List CS:=[.g 5 (.h (.q (.d 0) 18) (.d 4)),.g 6 (.C (.n .a (.h (.d 5) (.g 0)) (.p 5)) (.h (.d 5) (.g 3)) (.C (.n .b (.h (.d 5) (.g 0)) (.t [.p 3,.p 4])) (.h (.d 5) (.g 1)) .N)),
 .g 7 (.z [.n .h (.d 6) .N,.n .b (.C (.O (.d 6)) (.p 6) (.p 7)) (.d 1)]),.h (.z [.n .a (.h (.d 5) (.g 0)) (.p 3),.n .a (.h (.d 5) (.g 2)) (.g 1)]) [.g 7 (.D [.d 7,.n .b (.y (.d 0) 4 [.t [.p 3,.h (.d 5) (.g 1),.g 0]]) (.d 1)])] [],
 .h (.z [.G (.d 7),.n .d (.d 4) (.d 3)]) [.k (.w .a (.d 3) [.d 4])] []]
def To(hs:bt (st z L) v=some (true,aa S))(I:am z)(hz:z.a.length < 4194304)(J:b3 z p)(f:L[j]?=some (.a (aa out)))(Y:out.length < 4194303)
  (q:∀L' g H A,L'=L.set j (.a (aa (if aY S p then out else dd out [p])))->K .a [some (.o 2),some v,o2,some (.o (j+14)),some (.j p),g,H,A] (st z L')):
  aM (ai (n+1)) zM [some (.o 2),some v,o2,some (.o (j+14)),some (.j p),g,H,A] K (st z L):=by
 have k:∀x:Nat,dc .b (.j x) v (st z L)=some (.w (S.contains x),st z L):=λx=>by rw[jx (b:=true) (l:=S) hs,h_]
 have B:bt (st z L) (.o (j+14))=some (true,aa out):=iV f;have G:dc .d (.j p) (.o (j+14)) (st z L)=some (.w (!out.contains p),st z L):=by rw[Fg B,h_]
 have same:L=L.set j (.a (aa out)):=(gJ f).symm;have last:∀(b:Bool) g H,aY S p=b->aM (ai (n+1)) [.h (.z [.G (.d 7),.n .d (.d 4) (.d 3)]) [.k (.w .a (.d 3) [.d 4])] []] [some (.o 2),some v,o2,some (.o (j+14)),some (.j p),g,H,some (.w b)] K (st z L):=by
  intro b g H T;rw[T]at q
  induction b using aS with
  |true=>exact q L g H _ same|false=>
   refine ag G ?_;by_cases hm:p∈out
   .rw[bj.mpr hm]
    have e:dd out [p]=out:=ah hm;refine q L g H _ ?_;rw[ab (by decide),e];exact same
   .rw[el.mpr λe=>hm (bj.mp e)]
    refine ag (ec .a f (.inl rfl)) ?_;refine eb f (by rw[cI];exact "~KkM>ZLN6|avQ" Y) ?_;have e:dd out [p]=out++[p]:=ab hm;refine q _ g H _ ?_;rw[ab (by decide),e,ic];rfl
 by_cases u:p=26
 .have U:aY S p=(S.contains 6||S.contains 16):=by rw[u];rfl
  refine ag (co (r:=[.j 3,.u "a",.j 1]) hz (u▸I.at (t:=26) rfl)) ?_;refine ag (k 6) ?_;generalize y:S.contains 6=E
  induction E using aS with
  |true=>
   exact last true _ _ (by rw[U,y];rfl)
  |false=>
   have vw:=I.at (t:=16) (r:=[.j 3,.u "a",.j 0]) rfl;refine kr (n:=n) (r:=[.j 3,.u "a",.j 0]) I rfl hz vw ?_;refine ag (k 16) ?_;exact last (S.contains 16) _ _ (by rw[U,y];rfl)
 .obtain⟨_,r,hr,s⟩:=J
  refine ag (co hz hr) ?_;clear hr;have U:aY S p=(wh p !=2&&S.contains (wh p)):=by unfold aY;rw[cB.mpr u];simp
  generalize wh p=w at s U;generalize T:(p==26)=b at s
  induction s with
  |l=>exact absurd (aH.mp T) u|m a=>
   refine ag (k 6) ?_;exact last (S.contains 6) _ _ (by rw[U];simp)
  |n a=>
   refine ag (k 7) ?_;exact last (S.contains 7) _ _ (by rw[U];simp)
  |q a b c=>
   refine ag (k 7) ?_;exact last (S.contains 7) _ _ (by rw[U];simp)
  |o a b c=>
   refine ag (k 6) ?_;exact last (S.contains 6) _ _ (by rw[U];simp)
  |_=>exact last false _ _ (by rw[U];simp)
def Tp(G:∀L',B <+:L'->bt (st z L') v=some (true,aa S))(E:B.length<=j)(I:am z)(hz:z.a.length < 4194304):∀{L:List O} {out:List Nat} {U g o A:Option V} {K:cY->ba->St->Prop},B <+:L->(∀p∈ps,b3 z p)->L[j]?=some (.a (aa out))->out.length+ps.length < 4194303->
  (∀L' U g o A,L'=L.set j (.a (aa (dd out (ps.filter λt=>!aY S t))))->K .a [some (.o 2),some v,T,some (.o (j+14)),U,g,o,A] (st z L'))->
  gm (λx ρ k σ=>bQ (fQ (.a 4) x ρ σ) λρ σ=>aM (ai (n+1)) zM ρ k σ) none (aa ps) [some (.o 2),some v,T,some (.o (j+14)),U,g,o,A] K (st z L):=by
 induction ps with
 |nil=>
  intro L out U g o A K r J f Y q;exact(q L U g o A (gJ f).symm:_)
 |cons p ps ih=>
  intro L out U g o A K r J f Y q;simp only[bI]at Y;show aM (ai (n+1)) zM [some (.o 2),some v,T,some (.o (j+14)),some (.j p),g,o,A] _ (st z L);refine To (G L r) I hz (J p br) f ("~n0><5KP|^^i|A8d<0Os" Y) λL' g o A e=>?_;have y:(dd out [p]).length<=out.length+1:=EZ;have a:L'[j]?=some (.a (aa (if aY S p then out else dd out [p]))):=by rw[e];exact aT f
  refine ih (by rw[e];exact bE r E) (λx H=>J x (b5 _ H)) a (by split <;>lia) λL2 U g o A w=>q L2 U g o A ?_;rw[w,e,kR,jg]
  induction aY S p using aS with
  |true=>rfl|false=>show L.set j _=L.set j _;rw[ab (by decide),u6];rfl
def Hd(U:∀L',L <+:L'->bt (st z L') v=some (true,aa S))(I:am z)(hz:z.a.length < 4194304)(G:∀x∈S,b3 z x)(Y:S.length < 4194303)(q:∀L',L <+:L'->Q (.r (aa (ae S))) (st z L')):ar (ai (n+2) 57 [.o 2,v] (st z L)) Q:=by
 have k:∀x:Nat,dc .b (.j x) v (st z L)=some (.w (S.contains x),st z L):=λx=>by rw[jx (b:=true) (l:=S) (U L (aA _)),h_]
 refine az (ρ:=[some (.o 2),some v,none,none,none,none,none,none]) rfl ?_;refine ag (k 0) ?_;by_cases h0:0∈S
 .rw[bj.mpr h0]
  have:=q L (aA _);unfold ae at this;rw[ah h0]at this;exact this
 rw[el.mpr λe=>h0 (bj.mp e)];refine ag (k 13) ?_;by_cases w:13∈S
 .rw[bj.mpr w]
  have:=q L (aA _);unfold ae at this;rw[ab h0,ah w]at this;exact this
 rw[el.mpr λe=>w (bj.mp e)];refine ag (k 1) ?_;by_cases h1:1∈S
 .rw[bj.mpr h1]
  have:=q L (aA _);unfold ae at this;rw[ab h0,ab w,ah h1]at this;exact this
 rw[el.mpr λe=>h1 (bj.mp e)];refine bY ?_;refine aP (FL (U _ bp) ("~KkM>ZLN6|avQ" Y)) ?_;refine ag ((hZ (z:=z) (L:=L++[.a []]) (ts:=bw S) (by rw[oU];exact "~KkM>ZLN6|avQ" Y)).a _ (aA _)) ?_;refine Tp (j:=L.length) (out:=[]) (B:=L) U (av _) I hz bp (λp J=>G p (m7.mp J)) bk (by rw[oU,dG];exact "~A2n0FaZMbgcwdyZdtv" Y) λL' T g o A e=>?_;rw[Tn ⟨h0,w,h1⟩]at e;have f:L'[L.length]?=some (.a (aa (ae S))):=by rw[e];exact aT bk
 have J:L <+:L':=by rw[e];exact bE bp (av _)
 refine f0 f (q _ (bE J (av _)))
def sR(I:am z)(hz:z.a.length < 4194304)(G:∀x∈S,b3 z x)(Y:S.length < 4194303)(q:∀L',L <+:L'->Q (.r (aa (ae S))) (st z L')):ar (ai (n+2) 57 [.o 2,.r (aa S)] (st z L)) Q:=Hd (λJ J=>rfl) I hz G Y q
def l0{l:List V}(Y:l.length < 4194304):b1 .a (.r l) σ=some (.j l.length,σ):=by
 show(if l.length < bs then some (V.j l.length,σ)else none)=_;rw[ah (show l.length < bs from Y)]
def i9(I:am z)(room:z.sz+1 < 4194304)(G:∀x∈S,b3 z x)(Y:S.length < 4194303)(q:∀z' (r:Nat) L',Gr 1 z z'->L <+:L'->aO z' r (ae S)->Q (.j r) (st z' L')):ar (ai (n+3) 58 [.o 2,.r (aa S)] (st z L)) Q:=by
 have hz:=Z.bZ room;refine az (ρ:=[some (.o 2),some (.r (aa S)),none]) rfl ?_;refine sR (n:=n) I hz G Y λL1 p1=>?_;have k:∀p∈ae S,b3 z p:=λp J=>G p (ct J);have U:=ko (S:=S);have T:(ae S).length < 4194304:=ku U k hz;generalize ae S=c at q k U T
 match c,q,k,U,T with
 |[],q,_,_,_=>
  refine aP (a:=.j 0) (σ:=st z L1) rfl ?_;exact q z 2 L1 ((Gr.refl I).mono (bb _)) p1 hY
 |[t],q,k,_,_=>
  refine aP (a:=.j 1) (σ:=st z L1) rfl ?_;refine aP (a:=.j 1) (σ:=st z L1) rfl ?_;exact q z t L1 ((Gr.refl I).mono (bb _)) p1 (fp (k t br))
 |t::u::r,q,k,U,T=>
  have y:=l0 (σ:=st z L1) (l:=aa (t::u::r)) (by rw[cI];exact T);rw[cI]at y;refine aP y ?_;refine aP y ?_;refine aP (y9 (by rw[cI];exact T)) ?_;refine ju (n:=n+1) (r:=dt (t::u::r)) I yV (.inl (.e _)) room λz' w g h=>?_;exact q z' w L1 g p1 ⟨.inr (.inr ⟨by simp,h⟩),λp J=>(k p J).gr g.d,U⟩
def X9:di (.o 12) (.u "q") (st z L)=some (.j 28,st z L):=rfl
def X':di (.o 12) (.u "t") (st z L)=some (.j 27,st z L):=rfl
def w_tab:di (.o 12) (.u "tab") (st z L)=some (.o 2,st z L):=rfl
def X_:di (.o 12) (.u "holders") (st z L)=some (.o 13,st z L):=rfl
def He(q:Q (.w (be l)) (st z L)):ar (ai (n+1) 64 [.o 12,.r (aa l)] (st z L)) Q:=by
 refine az (ρ:=[some (.o 12),some (.r (aa l))]) rfl ?_;unfold be at q;refine ag (Hc (l:=l) (x:=28)) ?_;generalize a:l.contains 28=E
 induction E using aS with
 |true=>rw[a,Bool.or_true]at q;exact q|false=>
  rw[a,xk]at q;refine ag (Hc (l:=l) (x:=27)) ?_;exact q
end
section
variable{C:CT}{z:Z}{L:List O}{n t i N h:Nat}{Q:V->St->Prop}{l ls lt S A:List Nat}{σ:St}
abbrev gN(t:Nat):List Nat:=(fZ.lookup t).getD []
abbrev cf:List Nat:=fZ.map (·.1)
def Tq:∀t∈cf,di (.o 13) (.j t) (st z L)=some (.r (aa (gN t)),st z L)/\∃r,aa (gN t)=.j (rg t)::r:=by
 unfold cf fZ;simp only[eR,qs,iG,dU,mw,mx,my];refine⟨?_,?_,?_,?_,?_,?_,?_,?_,?_,?_,?_,?_,?_,?_,?_,?_,?_,?_,?_⟩ <;>exact⟨rfl,_,rfl⟩
def Ts:∀t∈cj,cm .c (.o 13) [.j t,.r []] (st z L)=some (.r (aa (gN t)),st z L):=by
 unfold cj;simp only[iG,dU,mw,mx,my];refine⟨?_,?_,?_,?_,?_,?_,?_,?_,?_,?_,?_,?_,?_,?_,?_,?_,?_,?_,?_,?_,?_,?_⟩ <;>rfl
def zN:(a||(b||(c||false)))=(a||(true&&c)||(true&&b)||(false&&d)):=by induction a <;>induction b <;>induction c <;>rfl
def sS:(a||(b||false))=(a||(true&&b)||(false&&c)||(false&&d)):=by induction a <;>induction b <;>rfl
def Tt:(a||(b||false))=(a||(false&&c)||(false&&d)||(true&&b)):=by induction a <;>induction b <;>rfl
def jG:(a||false)=(a||(false&&b)||(false&&c)||(false&&d)):=by induction a <;>rfl
def zO(h:a=false):false=(a||(false&&b)||(false&&c)||(false&&d)):=by rw[h];rfl
def Tu(n:cd A):∀t∈cj,(gN t).any A.contains=dR A (rg t):=by
 have h0:A.contains 0=false:=el.mpr λe=>n.1 (bj.mp e);have w:A.contains 13=false:=el.mpr λe=>n.2.1 (bj.mp e);have h1:A.contains 1=false:=el.mpr λe=>n.2.2 (bj.mp e);unfold cj;simp only[iG,dU,mw,mx,my];exact⟨zO h0,zO h1,jG,Tt,jG,jG,jG,jG,jG,jG,jG,zO w,sS,sS,sS,sS,zN,zN,zN,jG,jG,sS⟩
def Tv{z0:Z}{M:Nat}{conds:List CE}{ρ:ba}(w:B.length<=j){ps:List Nat}:∀{z:Z} {L:List O} {out:List V} {m:Nat} {K:St->Prop},Gr m z0 z->m+ps.length*(c+d)<=M->B <+:L->L[j]?=some (.a out)->out.length+ps.length < 4194304->
  (∀p∈ps,∀z L (Q:Bool->St->Prop),Gr M z0 z->B <+:L->(∀z' L',Gr c z z'->L <+:L'->Q (g p) (st z' L'))->fh C conds (ρ.set sl (some (.j p))) Q (st z L))->
  (∀p∈ps,g p=true->∀z L (Q:V->St->Prop),Gr M z0 z->B <+:L->(∀z' L',Gr d z z'->L <+:L'->Q (f p) (st z' L'))->bK C e (ρ.set sl (some (.j p))) Q (st z L))->
  (∀z' L',Gr M z0 z'->L'[j]?=some (.a (out++(ps.filter g).map f))->B <+:L'->K (st z' L'))->
  eu (λx k σ=>fh C conds (ρ.set sl (some x)) (λb σ=>fg b (bK C e (ρ.set sl (some x)) (λv σ=>bm (cm .a (.o (j+14)) [v] σ) λA σ=>k σ) σ) (k σ)) σ) none (aa ps) K (st z L):=by
 induction ps with
 |nil=>
  intro z L out m K H hm o ho Y y J q;refine(q z L (H.mono ("~W<<tbm^G" hm)) ?_ o:_);rw[Kj,qs,b9];exact ho
 |cons p ps ih=>
  intro z L out m K H hm o ho Y y J q;simp only[bI]at Y;rw[bI,kY]at hm;show fh C conds (ρ.set sl (some (.j p))) _ (st z L);refine y p br z L _ (H.mono ("~7;oQUm8|MRK" hm)) o λz1 L1 g1 T=>?_;rw[jg]at q;have I:=H.trans g1;generalize G:g p=E
  induction E using aS with
  |false=>
   rw[G]at q;exact ih I ("~1Kg9FCWyR6u<2t" hm) (o.trans T) (aC ho T) ("~68TW_IaZws61|" Y) (λU a=>y U (b5 _ a)) (λU a=>J U (b5 _ a)) q
  |true=>
   rw[G]at q;refine J p br G z1 L1 _ (I.mono ("~L<VQBpyrgFZG" hm)) (o.trans T) λz2 L2 g2 u=>?_;have r:=T.trans u;refine eb (aC ho r) ("~1f<c=y4WPi=D" Y) ?_;refine ih (I.trans g2) ("~4^y1|4;n43pwTn3" hm) (bE (o.trans r) w) (aT (aC ho r)) (by simp only[b_,bI,dG];exact "~4ENzm8VZBFXcdnB=y" Y) (λU a=>y U (b5 _ a)) (λU a=>J U (b5 _ a)) λz' L' s h1 h2=>q z' L' s ?_ h2;rw[c6]at h1;exact h1
def vL{M d:Nat}{ρ:ba}{ps:List Nat}(I:am z)(U:ps.length*(c+d)<=M)(Y:ps.length < 4194304)
  (o:∀p∈ps,∀u L1 (Q:Bool->St->Prop),Gr M z u->L <+:L1->(∀z' L',Gr c u z'->L1 <+:L'->Q (g p) (st z' L'))->fh C conds (ρ.set sl (some (.j p))) Q (st u L1))
  (J:∀p∈ps,g p=true->∀u L1 (Q:V->St->Prop),Gr M z u->L <+:L1->(∀z' L',Gr d u z'->L1 <+:L'->Q (f p) (st z' L'))->bK C e (ρ.set sl (some (.j p))) Q (st u L1))
  (q:∀z' L',Gr M z z'->L <+:L'->K (.r ((ps.filter g).map f)) (st z' L')):
  bm (gj (.a []) (st z L)) λr σ=>eu (λx k σ=>fh C conds (ρ.set sl (some x)) (λb σ=>fg b (bK C e (ρ.set sl (some x)) (λv σ=>bm (cm .a r [v] σ) λH σ=>k σ) σ) (k σ)) σ) none (aa ps) (λσ=>bm (hO r σ) K) σ:=by
 refine bY ?_;refine Tv (g:=g) (f:=f) (out:=[]) (j:=L.length) (B:=L) (av _) (Gr.refl I) ("~8RCgU|T=T" U) bp bk (by simpa using Y) o J λz' L' s h1 h2=>?_;rw[dh]at h1;exact f0 h1 (q _ _ s (bE h2 (av _)))
def zP(Y:l.length < 4194304):qT (.r (aa l)) .z (.j 1) σ=some (.r (aa (l.take 1)),σ):=by
 show(if(aa l).length < bs then some (V.r (iL (aa l) none (some 1)),σ)else none)=_;rw[ah (show(aa l).length < bs by rw[cI];exact Y)]
 induction l using bo with
 |nil=>rfl|cons a r=>
  have:iL (aa (a::r)) none (some 1)=aa [a]:=by
   show List.drop 0 (List.take (min (aa (a::r)).length 1) (aa (a::r)))=_;rw[cI,bI,BH ("~bM|cRvXx" id)];rfl
  rw[this];rfl
def Hg(n:cd l):dc .b (.r (aa (l.take 1))) (.p [.r [.j 0],.r [.j 1],.r [.j 13]]) σ=some (.w false,σ):=by
 induction l using bo with
 |nil=>rfl|cons a r=>
  have h0:(0==(a:Int))=false:=cB.mpr λe=>n.1 (by rw[show a=0 from "~1_35<wW6Uyh<" e];exact br);have h1:(1==(a:Int))=false:=cB.mpr λe=>n.2.2 (by rw[show a=1 from "~1_2zK5;On49z" e];exact br);have w:(13==(a:Int))=false:=cB.mpr λe=>n.2.1 (by rw[show a=13 from "~5o6qJ5muLTbM3" e];exact br);show some (V.w (((0==(a:Int))&&true)||(((1==(a:Int))&&true)||(((13==(a:Int))&&true)||false))),σ)=_;rw[h0,h1,w];rfl
def Hh:∀t∈cf,t∈cj:=by decide
def Tw(h:t∈cf):∃r,di (.o 13) (.j t) (st z L)=some (.r (.j (rg t)::r),st z L):=by
 obtain⟨h1,r,h2⟩:=Tq (z:=z) (L:=L) t h;rw[h2]at h1;exact⟨r,h1⟩
def Tx:∀t∈cj,(gN t).length < 4:=by decide
def Tz:∀{L:List O} {out:List Nat} {U:Option V} {K:cY->ba->St->Prop},(∀p∈ps,p∈cf)->L[j]?=some (.a (aa out))->out.length+ps.length < 4194304->
  (∀L' U,L'=L.set j (.a (aa (out++ps.map rg)))->K .a [some (.o 12),o0,T,some (.o (j+14)),U,g,o] (st z L'))->
  gm (λx ρ k σ=>bQ (fQ (.a 4) x ρ σ) λρ σ=>aM C [.k (.w .a (.d 3) [.h (.h (.h (.d 0) (.u "holders")) (.d 4)) (.g 0)])] ρ k σ) none (aa ps) [some (.o 12),o0,T,some (.o (j+14)),U,g,o] K (st z L):=by
 induction ps with
 |nil=>
  intro L out U K J f Y q;refine(q L U ?_:_);rw[qs,b9];exact(gJ f).symm
 |cons p ps ih=>
  intro L out U K J f Y q;simp only[bI]at Y;obtain⟨r,I⟩:=Tw (z:=z) (L:=L) (J p br);show aM C [.k (.w .a (.d 3) [.h (.h (.h (.d 0) (.u "holders")) (.d 4)) (.g 0)])] [some (.o 12),o0,T,some (.o (j+14)),some (.j p),g,o] _ (st z L);refine ag (ec .a f (.inl rfl)) ?_;refine ag I ?_;refine eb f (by rw[cI];exact "~1f<c=y4WPi=D" Y) ?_;refine ih (out:=out++[rg p]) (λx H=>J x (b5 _ H)) (by rw[aT f,ic];rfl) (by rw[b_];simp only[bI,dG];exact "~4ENzm8VZBFXcdnB=y" Y) λL' U e=>q L' U ?_;rw[e,kR,c6,eR];rfl
def Hi(G:S.length < 4194304)(f:A=[0]\/A=[1]\/A=[13])(q:Q (.w true) (st z L)):ar (ai (n+1) 63 [.o 12,.r (aa S),.r (aa A)] (st z L)) Q:=by
 refine az (ρ:=[some (.o 12),some (.r (aa S)),some (.r (aa A)),none,none,none,none]) rfl ?_;refine ag (zP (by rcases f with rfl |rfl |rfl <;>decide)) ?_;rcases f with rfl |rfl |rfl <;>exact q
def Hj(I:am z)(nt:cd A)(hA:∀a∈A,a∈cf)(G:∀s∈S,s∈cj)(m:A.length < 4194303)(w:S.length < 4194303)
  (q:∀z' L',Gr 0 z z'->L <+:L'->Q (.w (FU S A)) (st z' L')):ar (ai (n+1) 63 [.o 12,.r (aa S),.r (aa A)] (st z L)) Q:=by
 refine az (ρ:=[some (.o 12),some (.r (aa S)),some (.r (aa A)),none,none,none,none]) rfl ?_;refine ag (zP ("~KkM>ZLN6|avQ" m)) ?_;refine ag (Hg nt) ?_;refine bY ?_;refine ag ((hZ (z:=z) (L:=L++[.a []]) (ts:=A) ("~KkM>ZLN6|avQ" m)).a _ (aA _)) ?_;refine Tz (j:=L.length) (out:=[]) hA bk (by simpa using Kk m) λL1 o4 e1=>?_;rw[dh]at e1;have hj:L1[L.length]?=some (.a (aa (A.map rg))):=by rw[e1];exact aT bk
 have p1:L <+:L1:=by rw[e1];exact bE bp (av _)
 refine ag ((hZ (z:=z) (L:=L1) (ts:=S) ("~KkM>ZLN6|avQ" w)).a _ (aA _)) ?_;refine vL (M:=0) (c:=0) (d:=0) (g:=λs=>decide (((gN s).filter (A.map rg).contains).length=0)) (f:=λs=>.j s)
  (conds:=[.n .a (.x .a (.E (.d 6) 6 (.a (.w .c (.h (.d 0) (.u "holders")) [.d 5,.r true []])) [.n .b (.d 6) (.d 3)])) (.g 0)])
  (e:=.d 5) (ρ:=[some (.o 12),some (.r (aa S)),some (.r (aa A)),some (.o (L.length+14)),o4,none,none]) (sl:=5) I (by lia) ("~KkM>ZLN6|avQ" w) (λs hs u L2 Q' g2 p2 B=>?_) (λs hs C u L2 Q' g2 p2 B=>B u L2 (Gr.refl g2.e) (aA _)) λz2 L2 g2 p2=>?_
 .have o:=G s hs
  have y:=Tx s o;refine aP (Ts s o) ?_;refine ag ((hZ (z:=u) (L:=L2) (ts:=gN s) ("~Vs<K3JB9" y)).a _ (aA _)) ?_;refine vL (M:=0) (c:=0) (d:=0) (g:=(A.map rg).contains) (f:=λs=>.j s)
   (conds:=[.n .b (.d 6) (.d 3)])
   (e:=.d 6) (ρ:=[some (.o 12),some (.r (aa S)),some (.r (aa A)),some (.o (L.length+14)),o4,some (.j s),none]) (sl:=6) g2.e (by lia) ("~Vs<K3JB9" y) (λx H r E T U p3 v=>?_) (λx H C r E T U p3 v=>v r E (Gr.refl U.e) (aA _)) λr E U p3=>?_
  .have p:bt (st r E) (.o (L.length+14))=some (true,aa (A.map rg)):=iV (show E[L.length]?=_ from aC hj (p2.trans p3))
   refine ag (jx (b:=true) (l:=A.map rg) p) ?_;rw[h_];have:=v r E (Gr.refl U.e) (aA _);cases e:(A.map rg).contains x <;>rw[e]at this <;>exact this
  .have i2:(((gN s).filter (A.map rg).contains).map λs:Nat=>V.j s).length < 4194304:=by
    rw[bX];exact fK (jR _ _) ("~Vs<K3JB9" y)
   refine aP (l0 i2) ?_;have:=B r E U p3;rw[bX];generalize ((gN s).filter (A.map rg).contains).length=k at this
   induction k using dK with
   |zero=>exact this|succ k=>exact this
 .have i2:((S.filter λs=>decide (((gN s).filter (A.map rg).contains).length=0)).map λs:Nat=>V.j s).length < 4194304:=by
   rw[bX];exact fK (jR _ _) ("~KkM>ZLN6|avQ" w)
  refine aP (l0 i2) ?_;rw[bX];have key:decide ((S.filter λs=>decide (((gN s).filter (A.map rg).contains).length=0)).length=0)=FU S A:=by
   refine o9 ?_;have Y:cd (A.map rg):=by
    have J:∀k,k≠16->k∈A.map rg->k∈A:=λk hk h=>by
     obtain⟨a,ha,e⟩:=ea.mp h;unfold rg at e;split at e
     .exact absurd e.symm hk
     .rw[<-e];exact ha
    exact⟨λh=>nt.1 (J 0 (by decide) h),λh=>nt.2.1 (J 13 (by decide) h),λh=>nt.2.2 (J 1 (by decide) h)⟩
   rw[xo,xc,xh];unfold FU;rw[ek];have one:∀s∈S,(¬ decide (((gN s).filter (A.map rg).contains).length=0)=true)↔dR (A.map rg) (rg s)=true:=λs hs=>by
    rw[<-Tu Y s (G s hs),xo,xc,xh,qj];simp
   constructor
   .intro h x H
    obtain⟨s,hs,e⟩:=ea.mp H;rw[<-e];exact(one s hs).mp (h s hs)
   .intro h s hs
    exact(one s hs).mpr (h (rg s) (ea.mpr ⟨s,hs,rfl⟩))
  have:=q z2 L2 g2 (p1.trans p2);rw[<-key]at this;generalize (S.filter λs=>decide (((gN s).filter (A.map rg).contains).length=0)).length=k at this
  induction k using dK with
  |zero=>exact this|succ k=>exact this
end
inductive Sd where
 |T |k (l:List Nat) |b (l:List Nat) |q (c a:Option (List Nat)) (x y:Sd) (d:Nat)
abbrev Sd.nu(s:Sd):Bool:=Sd.casesOn s false (λJ=>false) (λJ=>false) λJ J J J J=>true
abbrev e9:Option (List Nat)->V
 |none=>.p [.u "T",.r []]|some l=>.p [.u "k",.r (aa l)]
abbrev dw:Sd->V
 |.T=>.p [.u "T",.r []]|.k l=>.p [.u "k",.r (aa l)]|.b l=>.p [.u "|",.r (aa l)]
 |.q c a x y d=>.p [.u "q",.p [e9 c,e9 a,dw x,dw y,.j d]]
abbrev cg(c a:Option (List Nat))(x y:Sd)(d:Nat):V:=.p [e9 c,e9 a,dw x,dw y,.j d]
abbrev ax:Option (List Nat)->List Nat->List Nat
 |none,e=>e|some l,_=>l
abbrev Kl(l:List Nat):Prop:=ae l=l/\l.length<=6/\(l=[0]\/l=[1]\/l=[13]\/∀x∈l,x∈cf\/x=27\/x=28)
abbrev Ko(o:Option (List Nat)):Prop:=∀l,o=some l->Kl l
abbrev Sd.Ok:Sd->Prop
 |.T=>True|.k l=>Kl l|.b l=>Kl l|.q c a x y d=>Ko c/\Ko a/\x.Ok/\y.Ok/\d<=1
inductive SQ(z:Z)(c a:Option (List Nat))(d:Nat)(e:List Nat)(X Y:Nat->Prop)(r:Nat):Prop
 |mk (rc ra rx ry:Nat) (h1:z.a[r]?=some (aV rc ra rx ry d)) (h2:aO z rc (ae (ax c e))) (h3:aO z ra (ae (ax a e))) (h4:X rx) (h5:Y ry)
abbrev d8(z:Z):Sd->List Nat->Nat->Prop
 |.T,e,r=>aO z r (ae e)|.k l,e,r=>aO z r (ae l)|.b l,e,r=>aO z r (ae (e++l))|.q c a x y d,e,r=>SQ z c a d e (d8 z x e) (d8 z y e) r
def d8.gr(p:z.a <+:z'.a):∀{e:List Nat} {r:Nat},d8 z s e r->d8 z' s e r:=by
 induction s with
 |q c a x y d A U=>
  intro e r h;obtain⟨rc,ra,rx,ry,h1,h2,h3,h4,h5⟩:=h;exact⟨rc,ra,rx,ry,cH p h1,h2.gr p,h3.gr p,A h4,U h5⟩
 |_=>exact λh=>aO.gr (z:=z) h p
abbrev Sd.hf:Sd->Nat
 |.q _ _ x y _=>x.hf+y.hf+6|.T=>4|.k _=>4|.b _=>4
abbrev Sd.sc:Sd->Nat
 |.q _ _ x y _=>x.sc+y.sc+3|.T=>1|.k _=>1|.b _=>1
def vM:∀t∈cf,t∈aD:=by decide
def Kl.aD(h:Kl l):∀x∈l,x∈aD:=λx H=>by
 rcases h.2.2 with e |e |e |e
 .rw[e,aB]at H;subst H;decide
 .rw[e,aB]at H;subst H;decide
 .rw[e,aB]at H;subst H;decide
 .rcases e x H with e |e |e
  .exact vM x e
  .subst e;decide
  .subst e;decide
section
variable{C:CT}{z:Z}{L:List O}{n t i N h d:Nat}{Q:V->St->Prop}{l ls lt S A e:List Nat}{σ:St}{c a:Option (List Nat)}{x y s:Sd}
def Kl.part(I:am z)(h:Kl l):∀x∈l,b3 z x:=λx H=>(eG I (h.aD x H)).d x br
abbrev oS:Option (List Nat)->Sd |none=>.T |some l=>.k l
def jH(h:l.length+m.length < 4194304):iM .a (.r (aa l)) (.r (aa m)) σ=some (.r (aa (l++m)),σ):=by
 rw[EU (l:=aa l) (m:=aa m) rfl rfl (by rw[cI,cI];exact h),ic]
abbrev pr(a b c:V):O:=.h [("T",a),("k",b),("|",c)]
def pt{a c:V}{Q:Unit->St->Prop}(h:L[i]?=some .b)(q:Q () (st z (L.set i (pr a b c)))):bm (qX (.o (i+14)) [.u "T",a,.u "k",b,.u "|",c] (st z L)) Q:=by
 exact aP (bg rfl (bg h rfl)) q
def Hk{a c:V}(h:L[i]?=some (pr a b c)):di (.o (i+14)) (.u "T") (st z L)=some (a,st z L)/\di (.o (i+14)) (.u "k") (st z L)=some (b,st z L)/\di (.o (i+14)) (.u "|") (st z L)=some (c,st z L):=by
 have Y:bt (st z L) (.o (i+14))=none:=oT h rfl;exact⟨rL Y (lH h) rfl,rL Y (lH h) rfl,rL Y (lH h) rfl⟩
def sT(I:am z)(room:z.sz+1 < 4194304)(T:Kl e)(E:Kl l)(v:V)(m:List Nat)(B:(v=.u "T" /\m=e)\/(v=.u "k" /\m=l)\/(v=.u "|" /\m=e++l))(q:∀z' (r:Nat) L',Gr 1 z z'->L <+:L'->aO z' r (ae m)->Q (.j r) (st z' L')):ar (ai (n+4) 61 [.o 12,.p [v,.r (aa l)],.r (aa e)] (st z L)) Q:=by
 have J:=T.2.1;have Y:=E.2.1;refine az (ρ:=[some (.o 12),some (.p [v,.r (aa l)]),some (.r (aa e)),none,none]) rfl ?_;have G:∀(L1:List O) (v':V),L <+:L1->v'=.r (aa m)->ar (ai (n+3) 58 [.o 2,v'] (st z L1)) (λx σ=>oD x Q σ):=λL1 v' p e'=>by
  subst e';refine i9 (n:=n) I room (λx H=>?_) ?_ λz' r L' g U h=>q z' r L' g (p.trans U) h
  .rcases B with⟨_,rfl⟩ |⟨_,rfl⟩ |⟨_,rfl⟩
   .exact T.part I x H
   .exact E.part I x H
   .exact(aZ.mp H).elim (T.part I x) (E.part I x)
  .rcases B with⟨_,rfl⟩ |⟨_,rfl⟩ |⟨_,rfl⟩
   .lia
   .lia
   .rw[b_];lia
 have p1:L <+:(L++[O.b]).set L.length (pr (.r (aa e)) (.r (aa l)) (.r (aa (e++l)))):=bE bp (av _);have w:=Hk (z:=z) (aT (o':=pr (.r (aa e)) (.r (aa l)) (.r (aa (e++l)))) (bk (L:=L) (o:=O.b)));rcases B with⟨rfl,rfl⟩ |⟨rfl,rfl⟩ |⟨rfl,rfl⟩
 ·
  refine bY ?_;refine ag (jH (by lia)) ?_;refine pt bk ?_;refine ag w.1 ?_;exact G _ _ p1 rfl
 ·
  refine bY ?_;refine ag (jH (by lia)) ?_;refine pt bk ?_;refine ag w.2.1 ?_;exact G _ _ p1 rfl
 ·
  refine bY ?_;refine ag (jH (by lia)) ?_;refine pt bk ?_;refine ag w.2.2 ?_;exact G _ _ p1 rfl
def nv:Kl []:=⟨rfl,by decide,.inr (.inr (.inr λx H=>nomatch H))⟩
end
section
variable{C:CT}{z:Z}{L:List O}{n t i N h d:Nat}{Q:V->St->Prop}{l ls lt S A e:List Nat}{σ:St}{c a:Option (List Nat)}{x y s:Sd}
abbrev jI(s:Sd)(N:Nat):Prop:=∀(z:Z) (L:List O) (Q:V->St->Prop) (e:List Nat),am z->z.sz+s.sc < 4194304->Kl e->
 (∀z' (r:Nat) L',Gr s.sc z z'->L <+:L'->d8 z' s e r->Q (.j r) (st z' L'))->ar (ai N 61 [.o 12,dw s,.r (aa e)] (st z L)) Q
def zQ(o:Ko c)(Y:4<=N):jI (oS c) N:=by
 intro z L Q e I room U q;obtain⟨n,rfl⟩:=eV (k:=4) (N:=N) ("~Vtmzk_UM" Y)
 induction c using aX with
 |none=>exact sT (n:=n) I room U nv (.u "T") e (.inl ⟨rfl,rfl⟩) q|some l=>exact sT (n:=n) I room U (o l rfl) (.u "k") l (.inr (.inl ⟨rfl,rfl⟩)) q
theorem nw:∀c,e9 c=dw (oS c) |none=>rfl |some _=>rfl
def vN{K:St->Prop}(U:jI s N)(I:am z)(room:z.sz+s.sc < 4194304)(T:Kl e)(o:B <+:L)(f:B.length<=j)(ho:L[j]?=some (.a out))(Y:out.length < 4194304)
  (q:∀z' (r:Nat) L',Gr s.sc z z'->B <+:L'->L'[j]?=some (.a (out++[.j r]))->d8 z' s e r->K (st z' L')):
  ar (ai N 61 [.o 12,dw s,.r (aa e)] (st z L)) λv σ=>bm (cm .a (.o (j+14)) [v] σ) λJ σ=>K σ:=by
 refine U z L _ e I room T λz' r L' g p h=>?_;refine eb (aC ho p) Y ?_;exact q z' r _ g (bE (o.trans p) f) (aT (aC ho p)) h
def zR(H:jI x N)(v:jI y N)(o:Ko c)(G:Ko a)(Y:4<=N)(I:am z)(room:z.sz+(x.sc+y.sc+2) < 4194304)(ke:Kl e)
  (q:∀z' (rc ra rx ry:Nat) L',Gr (x.sc+y.sc+2) z z'->L <+:L'->aO z' rc (ae (ax c e))->aO z' ra (ae (ax a e))->d8 z' x e rx->d8 z' y e ry->Q (.p (aV rc ra rx ry d)) (st z' L')):
  ar (ai (N+1) 62 [.o 12,cg c a x y d,.r (aa e)] (st z L)) Q:=by
 have e1:(oS c).sc=1:=by induction c <;>rfl
 have w:(oS a).sc=1:=by induction a <;>rfl
 have J:∀{z:Z} {r:Nat} {c:Option (List Nat)},d8 z (oS c) e r->aO z r (ae (ax c e)):=λ{z r c} h=>by induction c <;>exact h
 refine az (ρ:=[some (.o 12),some (cg c a x y d),some (.r (aa e)),none,none]) rfl ?_;unfold cg;refine bY ?_;rw[nw c];refine vN (j:=L.length) (out:=[]) (B:=L) (zQ o Y) I (by rw[e1];exact "~58>HvqDgvb7OYwv" room) ke bp (av _) bk (by decide) λu rc L1 g1 p1 o1 h1=>?_;rw[e1]at g1;have v1:=g1.f;rw[nw a];refine vN (j:=L.length) (B:=L) (zQ G Y) g1.e (by rw[w];exact "~m_SQCeOjsq|ugxIaVpP" v1 room) ke p1 (av _) o1 (by simp) λz2 ra L2 k p2 o2 h2=>?_;rw[w]at k;have v2:=k.f;refine vN (j:=L.length) (B:=L) H k.e ("~X2FgF?zx3_es;qq<iOiaAhE" v2 v1 room) ke p2 (av _) o2 (by simp) λz3 rx E U p3 g h3=>?_;have v3:=U.f;refine vN (j:=L.length) (B:=L) v U.e ("~LYyrljifLEKD7VrP<|v^U0eIXW8" v2 v1 v3 room) ke p3 (av _) g (by simp) λp ry m f T o4 h4=>?_;refine f0 o4 ?_;refine aP (a:=.p [.j rc,.j ra,.j rx,.j ry]) rfl ?_;have pu:=U.d.trans f.d;exact q p rc ra rx ry _ ((((g1.trans k).trans U).trans f).mono ("~KJr<ZjsWKisoUg" id)) (bE T (av _)) ((J h1).gr (k.d.trans pu)) ((J h2).gr pu) (h3.gr f.d) h4
theorem py:∀{s:Sd} {N:Nat},s.Ok->s.hf<=N->jI s N
 |.T,N,ok,Y=>λz L Q e I room U q=>by
  obtain⟨n,rfl⟩:=eV (show 4<=N from Y);exact sT (n:=n) I room U nv (.u "T") e (.inl ⟨rfl,rfl⟩) q
 |.k l,N,ok,Y=>λz L Q e I room U q=>by
  obtain⟨n,rfl⟩:=eV (show 4<=N from Y);exact sT (n:=n) I room U ok (.u "k") l (.inr (.inl ⟨rfl,rfl⟩)) q
 |.b l,N,ok,Y=>λz L Q e I room U q=>by
  obtain⟨n,rfl⟩:=eV (show 4<=N from Y);exact sT (n:=n) I room U ok (.u "|") (e++l) (.inr (.inr ⟨rfl,rfl⟩)) q
 |.q c a x y d,N,ok,Y=>λz L Q e I room U q=>by
  have Y:x.hf+y.hf+6<=N:=Y;obtain⟨n,rfl⟩:=eV (k:=6) (N:=N) ("~776Ju_mAmoj" Y);have H:jI x (n+4):=py ok.2.2.1 ("~Gg2_N2^y5Ts_aU" Y);have v:jI y (n+4):=py ok.2.2.2.1 ("~Gg2_N2^y5Tsm|j" Y);have room:z.sz+(x.sc+y.sc+3) < 4194304:=room;have q:∀z' (r:Nat) L',Gr (x.sc+y.sc+3) z z'->L <+:L'->d8 z' (.q c a x y d) e r->Q (.j r) (st z' L'):=q;show ar (ai (n+4+2) 61 [.o 12,.p [.u "q",cg c a x y d],.r (aa e)] (st z L)) Q;refine az (ρ:=[some (.o 12),some (.p [.u "q",cg c a x y d]),some (.r (aa e)),none,none]) rfl ?_;refine zR (d:=d) H v ok.1 ok.2.1 ("~bOjFz4YQ" id) I ("~|PkcqHTLV0Bn5Rf91" room) U λu rc ra rx ry L1 T p1 h1 h2 h3 h4=>?_;have:=T.f;refine ju (n:=n+4) (r:=aV rc ra rx ry d) T.e rfl (.inl (.b ..)) ("~;P<9ujEMB=eax_pwzHuTVF" this room) λz2 r j J=>?_;exact q z2 r L1 ((T.trans j).mono ("~KK>3KJtth;d=si" id)) p1 ⟨rc,ra,rx,ry,J,h1.gr j.d,h2.gr j.d,h3.gr j.d,h4.gr j.d⟩
end
abbrev eg(T:Tb):Sd->List Nat->Nat
 |.T,e=>uF T e|.k l,e=>uF T l|.b l,e=>uF T (e++l)|.q c a x y d,e=>eB T (aV (uF T (ax c e)) (uF T (ax a e)) (eg T x e) (eg T y e) d)
abbrev Sd.isQ:Sd->Bool
 |.q ..=>true|.T=>false|.k _=>false|.b _=>false
abbrev ci(T:Tb)(d:Nat)(held i c d9:List Nat)(n r:Nat):List Nat:=
 if be held=true then[eB T (aV (uF T held) (uF T i) n r d)]else
 if i=[13]then[13]else
 if be i=true then[eB T (aV (uF T held) (uF T i) n r d)]else
 if held=[0]/\i≠[0]/\i≠[1]then c++d9 else
 if i=[0]\/i=[1]\/FU held i=true then c else d9
abbrev eP(free:Bool)(c:Option (List Nat))(e:List Nat)(p:Nat):List Nat:=if free&&c.isNone then[p]else e
abbrev aW(T:Tb)(free:Bool):Sd->List Nat->List Nat
 |.T,e=>e|.k l,_=>l|.b l,e=>e++l|.q c a x y d,e=>
  if ax c e=[13]then[13]else
  if d=1/\ax c e=[]then[]else
  if d=1/\2<=(ax c e).length then(ax c e).flatMap λp=>ci T d [p] (ax a (eP free c e p)) (aW T free x (eP free c e p)) (aW T free y (eP free c e p))
   (if free&&x.isQ then uF T (aW T free x (eP free c e p))else eg T x (eP free c e p)) (if free&&y.isQ then uF T (aW T free y (eP free c e p))else eg T y (eP free c e p))
  else ci T d (ax c e) (ax a e) (aW T free x e) (aW T free y e)
   (if free&&x.isQ then uF T (aW T free x e)else eg T x e) (if free&&y.isQ then uF T (aW T free y e)else eg T y e)
abbrev Sd.ac:Sd->Nat
 |.q _ _ x y _=>6*(3+(x.sc+x.ac+1)+(y.sc+y.ac+1)+x.ac+y.ac)|.T=>0|.k _=>0|.b _=>0
abbrev Sd.al:Sd->Nat
 |.q _ _ x y _=>6*(x.al+y.al+1)|.T=>12|.k _=>12|.b _=>12
abbrev Sd.af:Sd->Nat
 |.q _ _ x y _=>x.af+y.af+x.hf+y.hf+8|.T=>4|.k _=>4|.b _=>4
abbrev wS(T:Tb)(free:Bool)(s:Sd)(e:List Nat):Nat:=if free&&s.isQ then uF T (aW T free s e)else eg T s e
def d8.eg(p:z.a <+:T)(u:T.Nodup):∀{e:List Nat} {r:Nat},d8 z s e r->eg T s e=r:=by
 induction s with
 |q c a x y d A U=>
  intro e r h;obtain⟨rc,ra,rx,ry,h1,h2,h3,h4,h5⟩:=h;show eB T (aV (uF T (ax c e)) (uF T (ax a e)) (Mine.Lake.eg T x e) (Mine.Lake.eg T y e) d)=r;rw[kC h2 p u,kC h3 p u,A h4,U h5];exact lR u (cH p h1)
 |_=>exact λh=>kC h p u
def zT(h:¬ 2<=l.length):l=[]\/∃p,l=[p]:=by
 induction l using bo with
 |nil=>exact .inl rfl|cons p l=>
  induction l using bo with
  |nil=>exact .inr ⟨p,rfl⟩|cons _ l=>exact absurd (xm 2 l.length) h
def TA(h:l.length<=1)(k:x∈l):l=[x]:=by
 rcases zT (Nat.not_le_of_lt (ql h))with e |e
 .rw[e]at k;exact(dU k).elim
 .obtain⟨p,e⟩:=e;rw[e]at k ⊢;rw[aB.mp k]
abbrev cl:Md:=⟨false⟩
inductive l5(z:Z)(h p:Nat):Prop
 |mk (c a x y d:Nat) (lc la:List Nat) (h1:z.a[p]?=some (aV c a x y d)) (h2:29<=p) (h3:At z c lc) (h4:At z a la) (h5:cl.gy lc d) (h6:cl.eF la) (h7:Wf cl z h x) (h8:Wf cl z h y) (h9:d<=1) (pA:be lc=true\/be la=true/\lc≠[13]/\(d=1->lc≠[]))
def l5.gr(q:z.a <+:z'.a)(k:l5 z h p):l5 z' h p:=by
 obtain⟨c,a,x,y,d,lc,la,h1,h2,h3,h4,h5,h6,h7,h8,h9,pA⟩:=k;exact⟨c,a,x,y,d,lc,la,cH q h1,h2,h3.gr q,h4.gr q,h5,h6,h7.gr q,h8.gr q,h9,pA⟩
abbrev iq(z:Z)(b h:Nat)(l:List Nat):Prop:=cs l<=b/\∀p∈l,(p∈aD/\p≠27)\/∃h',h=h'+1/\l5 z h' p
def iq.gr(w:iq z b h l)(q:z.a <+:z'.a):iq z' b h l:=⟨w.1,λp J=>(w.2 p J).imp id λk=>k.imp λQ k=>⟨k.1,k.2.gr q⟩⟩
abbrev No(o:Option (List Nat)):Prop:=∀l,o=some l->27∉l/\l.length<=4
abbrev Sd.eN:Sd->Prop
 |.T=>True|.k l=>27∉l|.b l=>27∉l|.q c a x y d=>No c/\No a/\x.eN/\y.eN
abbrev Sd.Le:Sd->Nat->Prop
 |.q c a x y d,h+1=>x.Le h/\y.Le h|.q c a x y d,0=>False|.T,_=>True|.k _,_=>True|.b _,_=>True
abbrev Ne(e:List Nat):Prop:=27∉e/\e.length<=4
abbrev aQ(g l:List Nat):List Nat:=if 28∈l then ae ((l.filter λt=>t !=28)++g)else l
abbrev df(g:List Nat):Option (List Nat)->Option (List Nat)
 |none=>none|some l=>some (aQ g l)
abbrev bu(g:List Nat):Sd->Sd
 |.T=>.T|.k l=>.k (aQ g l)|.b l=>.b (aQ g l)|.q c a x y d=>.q (df g c) (df g a) (bu g x) (bu g y) d
section
variable{z:Z}{t i N h r d:Nat}{l ls lt S A e held:List Nat}{c a:Option (List Nat)}{x y s:Sd}{T:Tb}{m:Mp}
def zU(I:am z)(C:aO z r (ae l))(U:∀x∈l,x∈aD)(Q:27∉l):Wf cl z h r:=by
 have J:∀x∈ae l,x∈aD:=λx H=>U x (ct H);have Y:27∉ae l:=λe=>Q (ct e)
 induction h using dK with
 |zero=>exact⟨ae l,⟨C,eE _,J⟩,λG=>Y⟩|succ h=>exact⟨ae l,C,eE _,by rw[kE J];exact bb _,λp L=>.inl ⟨J p L,λG e=>Y (e▸L)⟩⟩
def Hl(C:aO z r (ae l))(w:iq z (4 ^ (h+1)) (h+1) l):Wf cl z (h+1) r:=
 ⟨ae l,C,eE _,aL nr w.1,λp J=>(w.2 p (ct J)).imp (λa=>⟨a.1,λQ=>a.2⟩) λq=>by
  obtain⟨h',e,c,a,x,y,d,lc,la,h1,h2,h3,h4,h5,h6,h7,h8,h9,_⟩:=q;rw[kU e];exact⟨c,a,x,y,d,lc,la,h1,h2,h3,h4,h5,h6,h7,h8,h9⟩⟩
def sU(h:ae A=ae B):uF T A=uF T B:=by unfold uF;rw[h]
def fE(I:am z)(Y:τ=0\/τ=1\/τ=13)(h:At z i l):i=τ↔l=[τ]:=by
 have G:aO z τ [τ]:=fp (nd I (by rcases Y with rfl |rfl |rfl <;>decide));exact⟨λe=>by subst e;exact h.c.fun I G,λe=>by subst e;exact sO I h⟩
def nz(I:am z)(h:At z i l):i=2↔l=[]:=
 ⟨λe=>by subst e;exact h.c.fun I hY,λe=>by
  subst e;rcases h.c.c with⟨_,e⟩ |e |⟨e,_⟩
  .exact e
  .cases e
  .simp at e⟩
def pC(h:At z i l)(p:z.a <+:T)(u:T.Nodup):uF T l=i:=kC (by rw[h.f];exact h.c) p u
def vO{dM:Nat}(I:am z)(p:z.a <+:T)(u:T.Nodup)(L:At z dM held)(E:db T m ra=U)(G:At z U Y)
  (H:ae (B m rx)=ae bx) (v:ae (B m ry)=ae d9) (lx:pe T B m rx=n) (ly:pe T B m ry=C):
  ae (cz T B m dM ra rx ry d)=ae (ci T d held Y bx d9 n C):=by
 have hw:wF T B m dM ra rx ry d=eB T (aV (uF T held) (uF T Y) n C d):=by
  unfold wF;rw[E,lx,ly,pC L p u,pC G p u]
 unfold cz ci;rw[L.c.bR I p,E,G.c.bR I p,hw];by_cases o:be held=true
 .rw[ah o,ah o]
 rw[ab o,ab o];by_cases w:Y=[13]
 .rw[ah ((fE I (.inr (.inr rfl)) G).mpr w),ah w]
 rw[ab λe=>w ((fE I (.inr (.inr rfl)) G).mp e),ab w];unfold jv;by_cases J:be Y=true
 .rw[ah J,ah J,ah rfl]
 rw[ab J,ab J];have Q:=fE I (.inl rfl) G;have e1:=fE I (.inr (.inl rfl)) G;have k:=fE I (.inl rfl) L;by_cases g:U=0\/U=1
 .rw[ah g,ab (by decide),ah rfl,ab (λq=>g.elim (λh=>q.2.1 (Q.mp h)) λh=>q.2.2 (e1.mp h)),ah (g.elim (λh=>.inl (Q.mp h)) λh=>.inr (.inl (e1.mp h)))]
  exact H
 rw[ab g];by_cases j:dM=0
 .rw[ah j,ab (by decide),ab (by decide),ah rfl,ah ⟨k.mp j,λq=>g (.inl (Q.mpr q)),λq=>g (.inr (e1.mpr q))⟩]
  rw[<-gx,H,gx,<-eD,v,eD]
 rw[ab j];rw[ab (λq:held=[0]/\Y≠[0]/\Y≠[1]=>j (k.mpr q.1))];by_cases f:FU held Y=true
 .rw[ah f,ab (by decide),ah rfl,ah (.inr (.inr f))];exact H
 .rw[ab f,ab (by decide),ab (by decide),ab (by decide),ab (λq=>q.elim (λq=>g (.inl (Q.mpr q))) λq=>q.elim (λq=>g (.inr (e1.mpr q))) f)];exact v
theorem zV(I:am z)(j:At z i l)(p:z.a <+:T):∀h,aK h T none i=l
 |0=>by
  show(bi T i).flatMap (λp=>bi T p)=l;rw[j.c.bR I p];exact sn λx H=>(eG I (j.d x H)).bR I p
 |h+1=>by
  obtain⟨k,rest,C,U⟩:=sq I j;have v:=cH p C;have:ij T i=none:=Gx v U;unfold aK;rw[this];exact j.c.bR I p
def Kl.at(h:Kl l)(C:aO z r (ae l)):At z r l:=by
 rw[h.1]at C;exact⟨C,h.1,h.aD⟩
end
abbrev nC(u:Nat):Prop:=u=0\/u=13\/u=1
abbrev OT(t:Nat)(l:List Nat):Prop:=∀u∈l,nC u->u=t
abbrev gv:List Nat:=[3,4,5,8,9]
abbrev FF(T:Tb)(k g p:Nat):List Nat:=ga k T (2,g) p
structure SC(z:Z)(T:Tb)(g:Nat)(G:List Nat):Prop where
 a:am z
 b:z.a <+:T
 d:T.Nodup
 f:∀l,(∀x∈l,x∈aD)->l.length<=20->∃i,At z i (ae l)
 e:At z g G
 c:∀x∈G,x∈gv
 h:G.length<=6
abbrev fF(o:Option (List Nat)):Prop:=∀l,o=some l->28∉l
abbrev Sd.Nt:Sd->Prop
 |.T=>True|.k l=>∀x∈l,x∈cf|.b l=>∀x∈l,x∈cf|.q c a x y d=>fF c/\x.Nt/\y.Nt
abbrev Sd.dx:Sd->Prop
 |.T=>True|.k l=>28∉l|.b l=>28∉l|.q c a x y d=>fF c/\fF a/\x.dx/\y.dx
abbrev Sd.ir:Sd->Prop
 |.q c a x y d=>c≠some [13]/\a≠some [13]/\x.ir/\y.ir|.T=>True|.k _=>True|.b _=>True
section
variable{z:Z}{t i N h r k g d:Nat}{l ls lt S A e held G X Y:List Nat}{c a:Option (List Nat)}{x y s:Sd}{T:Tb}{m:Mp}
def l8(I:am z)(L:q∈aD):At z q [q]:=⟨eG I L,cW,λx H=>by rw[aB]at H;subst H;exact L⟩
def vP(f:nC t)(hm:t∈S)(ho:OT t S):ae S=[t]:=by
 unfold ae;by_cases h0:0∈S
 .rw[ah h0,ho 0 h0 (.inl rfl)]
 rw[ab h0];by_cases w:13∈S
 .rw[ah w,ho 13 w (.inr (.inl rfl))]
 rw[ab w];by_cases h1:1∈S
 .rw[ah h1,ho 1 h1 (.inr (.inr rfl))]
 rcases f with rfl |rfl |rfl
 .exact absurd hm h0
 .exact absurd hm w
 .exact absurd hm h1
def TB(n:cd (A++D))(h:∀d∈D,aY A d=true):ae (A++D)=ae A:=by
 have U:cd A:=⟨λq=>n.1 (dy _ q),λq=>n.2.1 (dy _ q),λq=>n.2.2 (dy _ q)⟩;have Q:∀x,aY (A++D) x=true->aY A x=true:=λx q=>by
  rcases ii q with⟨h1,h2⟩ |⟨h1,h2⟩
  .rcases aZ.mp h2 with h3 |h3
   .unfold aY;rw[bj.mpr h3,show(wh x !=2)=true by simpa using h1];rfl
   .have:=h _ h3;rw[FW x h1]at this;cases this
  .subst h1
   rcases aZ.mp h2 with h3 |h3
   .unfold aY;rw[bj.mpr h3];simp
   .rcases ii (h _ h3)with⟨h4,h5⟩ |⟨h4,_⟩
    .unfold aY;rw[show wh 26=6 from rfl,bj.mpr (show 6∈A from h5)];rfl
    .cases h4
 rw[lQ n,lQ U];refine m8 (kn.filter _) (kn.filter _) (km.filter _) (km.filter _) λx=>?_;rw[c7,c7,iW,iW];simp only[qu];refine⟨λ⟨h1,h2⟩=>?_,λ⟨h1,h2⟩=>⟨dy _ h1,?_⟩⟩
 .have h3:aY A x=false:=by
   generalize q:aY A x=E
   induction E using aS with
   |false=>rfl|true=>rw[vp (λy v=>dy _ v) q]at h2;cases h2
  rcases aZ.mp h1 with q |q
  .exact⟨q,h3⟩
  .rw[h x q]at h3;cases h3
 .generalize q:aY (A++D) x=E
  induction E using aS with
  |false=>rfl|true=>rw[Q x q]at h2;cases h2
def Ya:∀x∈aD,x≠28->wh x≠28:=by decide
def Hm{x:Nat}(q:aY X x=true):x∈aD/\x≠28/\¬ nC x:=by
 have:∀x∈[16,17,22,26,18,19,20,21],x∈aD/\x≠28/\¬ (x=0\/x=13\/x=1):=by decide
 refine this x ?_;rcases ii q with⟨h1,_⟩ |⟨h1,_⟩
 .unfold wh at h1
  split at h1
  .rename_i h;simp only[bH,dU,kX]at h ⊢;lia
  .split at h1
   .rename_i h;simp only[bH,dU,kX]at h ⊢;lia
   .exact absurd rfl h1
 .subst h1;decide
def zW{F:Nat->List Nat}(o:∀p∈aD,p≠28->F p=[p])(ot:OT t (X.flatMap F)):ae ((ae X).flatMap F)=ae (X.flatMap F):=by
 have C:∀u,nC u->u∈aD/\u≠28:=λu Q=>by rcases Q with rfl |rfl |rfl <;>decide
 have self:∀p∈X,p∈aD->p≠28->p∈X.flatMap F:=λp J h1 h2=>fu.mpr ⟨p,J,by rw[o p h1 h2];simp⟩;by_cases Q:∃u∈X,nC u
 .obtain⟨u,Q,U⟩:=Q
  have f:∀v∈X,nC v->v=t:=λv B L=>ot v (self v B (C v L).1 (C v L).2) L;have e:=f u Q U;subst e;rw[vP U Q f,vP U (self u Q (C u U).1 (C u U).2) ot];show ae (F u++[])=_;rw[o u (C u U).1 (C u U).2,b9,cW]
 have nX:cd X:=⟨λq=>Q ⟨0,q,.inl rfl⟩,λq=>Q ⟨13,q,.inr (.inl rfl)⟩,λq=>Q ⟨1,q,.inr (.inr rfl)⟩⟩;have j:∀x,x∈X.flatMap F↔x∈(ae X).flatMap F++X.filter (aY X):=λx=>by
  rw[aZ,fu,fu,c7];constructor
  .rintro⟨p,J,H⟩
   generalize q:aY X p=E
   induction E using aS with
   |false=>exact .inl ⟨p,(fD nX).mpr ⟨J,q⟩,H⟩|true=>
    obtain⟨h1,h2,_⟩:=Hm q;rw[o p h1 h2,aB]at H;subst H;exact .inr ⟨J,q⟩
  .rintro(⟨p,J,H⟩ |⟨J,q⟩)
   .exact⟨p,ct J,H⟩
   .obtain⟨h1,h2,_⟩:=Hm q
    exact⟨x,J,by rw[o x h1 h2];simp⟩
 by_cases hB:∃u∈X.flatMap F,nC u
 .obtain⟨u,I,U⟩:=hB
  have e:=ot u I U;subst e;have hm:u∈(ae X).flatMap F:=by
   rcases aZ.mp ((j u).mp I)with q |q
   .exact q
   .exact absurd ⟨u,(c7.mp q).1,U⟩ Q
  rw[vP U I ot,vP U hm λv B=>ot v ((j v).mpr (dy _ B))]
 have nB:cd (X.flatMap F):=⟨λq=>hB ⟨0,q,.inl rfl⟩,λq=>hB ⟨13,q,.inr (.inl rfl)⟩,λq=>hB ⟨1,q,.inr (.inr rfl)⟩⟩;rw[rM j];have n:∀w,w∈ae X->w∈aD->w≠28->w∈(ae X).flatMap F:=λw h1 h2 h3=>fu.mpr ⟨w,h1,by rw[o w h2 h3];simp⟩;have k6:(6:Nat)∈aD/\(6:Nat)≠28:=by decide
 have k7:(7:Nat)∈aD/\(7:Nat)≠28:=by decide
 have Hn:(16:Nat)∈aD/\(16:Nat)≠28:=by decide
 refine(TB ⟨λq=>nB.1 ((j _).mpr q),λq=>nB.2.1 ((j _).mpr q),λq=>nB.2.2 ((j _).mpr q)⟩ λd hd=>?_).symm;have Ho:∀w,wh w≠2->wh w∈aD/\wh w≠28:=λw hw=>by
  rcases kz w with q |q |q
  .exact absurd q hw
  .rw[q];exact k6
  .rw[q];exact k7
 rcases ii (c7.mp hd).2 with⟨h1,h2⟩ |⟨h1,h2⟩
 .have:=n _ (o8 nX h1 h2) (Ho d h1).1 (Ho d h1).2
  unfold aY;rw[bj.mpr this,show(wh d !=2)=true by simpa using h1];rfl
 .subst h1
  generalize q:aY X 16=E
  induction E using aS with
  |false=>
   have:=n 16 ((fD nX).mpr ⟨h2,q⟩) Hn.1 Hn.2;unfold aY;rw[bj.mpr this];simp
  |true=>
   rcases ii q with⟨h3,h4⟩ |⟨h3,_⟩
   .have:=n 6 (o8 nX h3 h4) k6.1 k6.2
    unfold aY;rw[show wh 26=6 from rfl,bj.mpr this];rfl
   .cases h3
end
section
variable{z z2:Z}{t i N h r k g d:Nat}{l ls lt S A e held G X Y:List Nat}{c a:Option (List Nat)}{x y s:Sd}{T:Tb}{m:Mp}
def jJ:∀x∈gv,x∈aD/\x≠28/\x≠27/\wh x=2/\x≠26/\x≠6/\x≠7/\x≠16/\x≠13/\x≠0/\x≠1/\x∈cf:=by decide
def SC.aD(S:SC z T g G):∀x∈G,x∈aD:=λx H=>(jJ x (S.c x H)).1
def SC.one(S:SC z T g G)(J:p∈G):SC z T p [p]:=⟨S.a,S.b,S.d,S.f,l8 S.a (S.aD p J),λx H=>by rw[aB]at H;subst H;exact S.c x J,by simp⟩
def pD(S:SC z T g G)(J:p∈aD):FF T k g p=if p=28 then G else[p]:=by
 unfold FF ga;rw[zu S.a S.b J];show Mine.Lake.bi T (if p=28 then g else p)=_;by_cases h:p=28
 .rw[ah h,ah h,S.e.c.bR S.a S.b]
 .rw[ab h,ab h,(eG S.a J).bR S.a S.b]
def TC(S:SC z T g G)(j:∀x∈Y,x∈aD):Y.flatMap (FF T k g)=c5 (some (2,g)) G Y:=i5 λx H=>pD S (j x H)
def TE(S:SC z T g G)(j:At z r Y):aK k T (some (2,g)) r=c5 (some (2,g)) G Y:=by
 rw[ss S.a j S.b,kD S.a j S.e S.b]
def sV{x:Nat}:x∈c5 (some (2,g)) G Y↔(x∈Y/\x≠28)\/(28∈Y/\x∈G):=by
 show x∈Y.flatMap (λp=>if p=28 then G else[p])↔_;rw[fu];constructor
 .rintro⟨p,J,H⟩
  split at H
  .rename_i h;subst h;exact .inr ⟨J,H⟩
  .rename_i h;rw[aB]at H;subst H;exact .inl ⟨J,h⟩
 .rintro(⟨h1,h2⟩ |⟨h1,h2⟩)
  .exact⟨x,h1,by rw[ab h2];simp⟩
  .exact⟨28,h1,by rw[ah rfl];exact h2⟩
def gb(h:28∉Y):aQ G Y=Y:=by unfold aQ;rw[ab h]
def sW:ae (c5 (some (2,g)) G Y)=ae (aQ G Y):=by
 by_cases h:28∈Y
 .unfold aQ;rw[ah h,eE]
  refine rM λx=>?_;rw[sV,aZ,c7];simp[h]
 .rw[gb h,pq (pid:=2) h]
def Yb(C:Kl Y):ae (aQ G Y)=aQ G Y:=by
 unfold aQ;split
 .exact eE _
 .exact C.1
def Yc(S:SC z T g G)(C:Kl Y):∀x∈aQ G Y,x∈aD:=λx H=>by
 unfold aQ at H;split at H
 .exact(aZ.mp (ct H)).elim (λh=>C.aD x (c7.mp h).1) (S.aD x)
 .exact C.aD x H
def zX(S:SC z T g G)(C:Kl Y)(j:At z r Y):∃id,db T (some (2,g)) r=id/\At z id (aQ G Y):=by
 have e:db T (some (2,g)) r=uF T (aQ G Y):=by
  show uF T (i4 T (some (2,g)) r)=_;rw[kD S.a j S.e S.b];exact sU sW
 by_cases h:28∈Y
 .obtain⟨i,hi⟩:=S.f ((Y.filter λt=>t !=28)++G) (λx H=>(aZ.mp H).elim (λh=>C.aD x (c7.mp h).1) (S.aD x)) (by
   have v1:=jR (λt=>t !=28) Y;have v2:=C.2.1;have v3:=S.h;rw[b_];exact "~x7?7UBJiLfjQxs6Mp" v2 v3 v1)
  have w:aQ G Y=ae ((Y.filter λt=>t !=28)++G):=by unfold aQ;rw[ah h]
  rw[<-w]at hi;exact⟨i,by rw[e];exact pC hi S.b S.d,hi⟩
 .rw[gb h]at e ⊢
  exact⟨r,by rw[e];exact pC j S.b S.d,j⟩
def zY(S:SC z T g G)(h:OT t Y):OT t (c5 (some (2,g)) G Y):=λu U f=>by
 rcases sV.mp U with⟨h1,_⟩ |⟨_,h1⟩
 .exact h u h1 f
 .have:=jJ u (S.c u h1)
  rcases f with q |q |q
  .exact absurd q this.2.2.2.2.2.2.2.2.2.1
  .exact absurd q this.2.2.2.2.2.2.2.2.1
  .exact absurd q this.2.2.2.2.2.2.2.2.2.2.1
def zZ(C:Kl Y)(h:28∈Y):∀x∈Y,x∈cf\/x=27\/x=28:=by
 rcases C.2.2 with e |e |e |e
 .rw[e]at h;simp at h
 .rw[e]at h;simp at h
 .rw[e]at h;simp at h
 .exact e
def vQ(S:SC z T g G)(C:Kl Y)(h:aQ G Y=[13]):Y=[13]:=by
 by_cases f:28∈Y
 .have hm:13∈aQ G Y:=by rw[h];simp
  unfold aQ at hm;rw[ah f]at hm;rcases aZ.mp (ct hm)with q |q
  .rcases zZ C f 13 (c7.mp q).1 with q |q |q
   .exact absurd q (by decide)
   .cases q
   .cases q
  .exact absurd rfl (jJ 13 (S.c 13 q)).2.2.2.2.2.2.2.2.1
 .rw[gb f]at h;exact h
def vR(S:SC z T g G):aQ G [28]=G:=by
 unfold aQ;rw[ah (by simp)];show ae ([]++G)=G;rw[dh,S.e.f]
def z_(h:fF a):df G a=a:=by
 induction a using aX with
 |none=>rfl|some l=>show some (aQ G l)=_;rw[gb (h l rfl)]
def vU:s.dx->bu G s=s:=by
 induction s with
 |T=>
  intro _;exact rfl
 |k l=>
  intro h;show Sd.k (aQ G l)=_;rw[gb h]
 |b l=>
  intro h;show Sd.b (aQ G l)=_;rw[gb h]
 |q c a x y d Q U=>
  intro h;show Sd.q _ _ _ _ _=_;rw[z_ h.1,z_ h.2.1,Q h.2.2.1,U h.2.2.2]
def nE:ax (df G a) (aQ G e)=aQ G (ax a e):=by induction a <;>rfl
def TF:∀{r:List V},eB T r < T.length->T[eB T r]?=some r:=by
 induction T with
 |nil=>
  intro r h;simp[eB]at h
 |cons b T ih=>
  intro r h;rw[show eB (b::T) r=if b=r then 0 else eB T r+1 from rfl]at h ⊢;by_cases e:b=r
  .rw[ah e,e];rfl
  .rw[ab e]at h ⊢
   rw[List.getElem?_cons_succ];exact ih (by simpa using h)
def TG(I:am z)(p:z.a <+:T){c a x y:Nat}:29<=eB T (aV c a x y d):=by
 apply BQ;intro U;have Q:29<=z.a.length:=I.f.length_le;have h2:=TF (T:=T) (r:=aV c a x y d) (gY U (aL Q p.length_le));obtain⟨r',v⟩:∃r,z.a[eB T (aV c a x y d)]?=some r:=⟨_,iD (gY U Q)⟩;have h3:=cH p v;rw[h2]at h3;rw[<-ay h3]at v;have:=(lT I v).1;lia
def TH(h:29<=w):OT t [w]:=λu U f=>by
 rw[aB]at U;subst U;rcases f with q |q |q <;>lia
def vV(h1:OT t A)(h2:OT t B):OT t (A++B):=λu U=>(aZ.mp U).elim (h1 u) (h2 u)
def TJ{B:Mp->Nat->List Nat}{dM:Nat}(I:am z)(p:z.a <+:T)(H:OT t (B m rx))(v:OT t (B m ry))(w:db T m ra=13->t=13):OT t (cz T B m dM ra rx ry d):=by
 have U:OT t [wF T B m dM ra rx ry d]:=TH (TG I p);unfold cz
 split
 .exact U
 split
 .rename_i q;rw[w q];intro u Q _;rw[aB]at Q;exact Q
 split
 .exact U
 split
 .exact H
 split
 .exact vV H v
 .exact v
abbrev kK(s:Sd)(e:List Nat)(z:Z)(r h:Nat):Prop:=∀(z2:Z) (T:Tb) (k g:Nat) (G:List Nat),z.a <+:z2.a->SC z2 T g G->h<=k->s.ir->
 (∀t,OT t e->OT t (aK k T (some (2,g)) r))/\ae (aK k T (some (2,g)) r)=ae (aW T true (bu G s) (aQ G e))
def kK.gr(q:kK s e z r h)(p:z.a <+:z'.a):kK s e z' r h:=λz2 T k g G p2=>q z2 T k g G (p.trans p2)
abbrev fG(T:Tb)(G:List Nat)(a:Option (List Nat))(x y:Sd)(d:Nat)(e held:List Nat):List Nat:=
 if d=1/\held=[28]then G.flatMap λp=>ci T 1 [p] (ax a [p]) (aW T true x [p]) (aW T true y [p]) (wS T true x [p]) (wS T true y [p])
 else ci T d (aQ G held) (ax (df G a) (aQ G e)) (aW T true (bu G x) (aQ G e)) (aW T true (bu G y) (aQ G e)) (wS T true (bu G x) (aQ G e)) (wS T true (bu G y) (aQ G e))
def Aa(C:Kl e):∃t,OT t e:=by
 have one:∀τ,e=[τ]->∃t,OT t e:=λτ h=>⟨τ,λu U J=>by rw[h,aB]at U;exact U⟩;rcases C.2.2 with h |h |h |h
 .exact one 0 h
 .exact one 1 h
 .exact one 13 h
 .refine⟨0,λu U f=>?_⟩
  rcases h u U with q |q |q
  .rcases f with e |e |e <;>subst e <;>exact absurd q (by decide)
  .rcases f with e |e |e <;>lia
  .rcases f with e |e |e <;>lia
end
section
variable{z z2:Z}{t i N h r k g w rc ra rx ry d:Nat}{l ls lt A e held G X Y:List Nat}{c a:Option (List Nat)}{x y s:Sd}{T:Tb}{m:Mp}
abbrev CQ(e held:List Nat)(d:Nat)(a:Option (List Nat))(x y:Sd):Prop:=28∈held->(fF a/\x.dx/\y.dx)/\(d=1->e=[28])
def l9(U:27∉Y)(f:28∉Y):be Y=false:=by
 unfold be;rw[el.mpr λe=>U (bj.mp e),el.mpr λe=>f (bj.mp e)];rfl
def vW:wS T true s e=uF T (aW T true s e):=by induction s <;>rfl
def TK(S:SC z T g G)(C:z.a[w]?=some (aV rc ra rx ry d))(o:At z rc held)(ha:At z ra (ax a e))(n:Kl held)(kA:Kl (ax a e))(dk:27∉held)(B:d=1->held.length<=1)
  (j:be held=true\/be (ax a e)=true/\held≠[13]/\(d=1->held≠[])) (cq:CQ e held d a x y) (sx:kK x e z rx h) (sy:kK y e z ry h) (U:h<=k) (cG:a≠some [13]) (I:x.ir) (ny:y.ir):
  (∀t,OT t e->OT t (FF T k g w))/\ae (FF T k g w)=ae (fG T G a x y d e held):=by
 have one:∀{g':Nat} {G':List Nat} (S':SC z T g' G') {pE:Nat} {E:List Nat},At z pE E->ae (cz T (aK k T) (some (2,g')) pE ra rx ry d)=ae (ci T d E (aQ G' (ax a e)) (aW T true (bu G' x) (aQ G' e)) (aW T true (bu G' y) (aQ G' e)) (wS T true (bu G' x) (aQ G' e)) (wS T true (bu G' y) (aQ G' e))):=λ{g' G'} S' {pE E} Q=>by
  obtain⟨Hp,eA,hA⟩:=zX S' kA ha;have h1:=(sx z T k g' G' (aA _) S' U I).2;have h2:=(sy z T k g' G' (aA _) S' U ny).2;exact vO S'.a S'.b S'.d Q eA hA h1 h2 (by rw[vW];exact sU h1) (by rw[vW];exact sU h2)
 have ot:∀t,OT t e->∀{g':Nat} {G':List Nat} (S':SC z T g' G') (pE:Nat),OT t (cz T (aK k T) (some (2,g')) pE ra rx ry d):=λt nF {g' G'} S' pE=>by
  refine TJ S'.a S'.b ((sx z T k g' G' (aA _) S' U I).1 t nF) ((sy z T k g' G' (aA _) S' U ny).1 t nF) λq=>?_;obtain⟨Hp,eA,hA⟩:=zX S' kA ha;rw[eA]at q;have Hq:=vQ S' kA ((fE S'.a (.inr (.inr rfl)) hA).mp q)
  induction a using aX with
  |none=>exact(nF 13 (by rw[show e=[13]from Hq];simp) (.inr (.inl rfl))).symm|some l=>exact absurd (aE some (show l=[13]from Hq)) cG
 obtain⟨dM,eC,hH⟩:=zX S n o;have Hr:d=1->28∈held->held=[28]:=λh1 h2=>by
  exact TA (B h1) h2
 have TL:aQ G held≠[13]:=λq=>by
  have:=vQ S n q;rcases j with h1 |h1
  .rw[this]at h1;cases h1
  .exact h1.2.1 this
 unfold FF ga;rw[zr (cH S.b C)];show(∀t,OT t e->OT t (cJ T (aK k T) (some (2,g)) rc ra rx ry d))/\ae (cJ T (aK k T) (some (2,g)) rc ra rx ry d)=_;unfold cJ;rw[eC,hH.c.bR S.a S.b,ab λq=>TL ((fE S.a (.inr (.inr rfl)) hH).mp q)];by_cases h0:d=1/\dM=2
 .rw[ah h0]
  have he:=(nz S.a hH).mp h0.2;refine⟨λt Y u hu=>(nomatch hu),?_⟩;have f:28∈held:=by
   apply JZ;intro q;rw[gb q]at he;rcases j with h1 |h1
   .rw[he]at h1;cases h1
   .exact h1.2.2 h0.1 he
  have e1:=Hr h0.1 f;rw[e1,vR S]at he;unfold fG;rw[ah ⟨h0.1,e1⟩,he];rfl
 rw[ab h0];have spec:d=1->held=[28]->∀p∈G,ci T d [p] (aQ [p] (ax a e)) (aW T true (bu [p] x) (aQ [p] e)) (aW T true (bu [p] y) (aQ [p] e)) (wS T true (bu [p] x) (aQ [p] e)) (wS T true (bu [p] y) (aQ [p] e))=ci T 1 [p] (ax a [p]) (aW T true x [p]) (aW T true y [p]) (wS T true x [p]) (wS T true y [p]):=λh1 h2 p J=>by
  obtain⟨⟨c1,v,L⟩,c4⟩:=cq (by rw[h2];simp);have ee:=c4 h1;have e1:aQ [p] e=[p]:=by rw[ee];exact vR (S.one J)
  have e2:aQ [p] (ax a e)=ax a [p]:=by
   induction a using aX with
   |none=>exact e1|some la=>exact gb (c1 la rfl)
  rw[e1,e2,vU v,vU L,h1]
 by_cases h2:d=1/\2<=(aQ G held).length
 .rw[ah h2]
  have f:28∈held:=by
   apply JZ;intro q;rw[gb q]at h2;have:=B h2.1;lia
  have e1:=Hr h2.1 f;have e2:aQ G held=G:=by rw[e1];exact vR S
  have H:rc=28:=by rw[e1]at o;exact sO S.a o
  rw[e2,H];unfold fG;rw[ah ⟨h2.1,e1⟩];refine⟨λt nF u hu=>?_,?_⟩
  .obtain⟨p,J,hu⟩:=fu.mp hu
   exact ot t nF (S.one J) p u hu
  .rw[<-pc,<-pc (λp=>ci T 1 [p] _ _ _ _ _)]
   congr 1
   refine i5 λp J=>?_;rw[<-spec h2.1 e1 p J];exact one (S.one J) (l8 S.a (S.aD p J))
 rw[ab h2];refine⟨λt nF=>ot t nF S dM,?_⟩;unfold fG;by_cases hs:d=1/\held=[28]
 .rw[ah hs]
  have e2:aQ G held=G:=by rw[hs.2];exact vR S
  rw[e2]at h2 hH;rcases zT λq=>h2 ⟨hs.1,q⟩with e |⟨p,e⟩
  .exact absurd ⟨hs.1,(nz S.a hH).mpr e⟩ h0
  .have:=one S hH
   rw[e,spec hs.1 hs.2 p (by rw[e];exact br)]at this;rw[this,e];show _=ae (_++[]);rw[b9]
 .rw[ab hs,nE]
  exact one S hH
end
section
variable{z z2:Z}{t i N h r k g w rc ra rx ry d:Nat}{l ls lt A e held G X Y:List Nat}{c a:Option (List Nat)}{x y s:Sd}{T:Tb}{m:Mp}
abbrev nG(s:Sd)(e:List Nat)(z:Z)(l:List Nat)(h:Nat):Prop:=∀(z2:Z) (T:Tb) (k g:Nat) (G:List Nat),z.a <+:z2.a->SC z2 T g G->h<=k+1->
 (s.ir->∀t,OT t e->OT t (l.flatMap (FF T k g)))/\(s.ir\/(28∉e/\s.dx)->ae (l.flatMap (FF T k g))=ae (aW T true (bu G s) (aQ G e)))
def nG.gr(q:nG s e z l h)(p:z.a <+:z'.a):nG s e z' l h:=λz2 T k g G p2=>q z2 T k g G (p.trans p2)
abbrev nH(e:List Nat)(s:Sd):Prop:=28∉e\/s.dx
abbrev XB(free:Bool)(s:Sd)(e:List Nat)(z:Z)(l:List Nat):Prop:=∀h,free=true->Ne e->s.eN->s.Le h->iq z (4 ^ h) h l/\(s.Nt->nH e s->nG s e z l h)
def Hs(h:∀x∈l,x∈cf):OT t l:=λu U f=>by
 rcases f with q |q |q <;>subst q <;>exact absurd (h _ U) (by decide)
def Ht(S:SC z T g G)(Q:Kl e)(s:Sd):∀{Y:List Nat},s.Ok->s.isQ=false->s.Nt->aW T true s e=Y->(∀t,OT t e->OT t (c5 (some (2,g)) G Y))/\ae (c5 (some (2,g)) G Y)=ae (aW T true (bu G s) (aQ G e)):=by
 induction s with
 |T=>
  intro Y ok q nt j;subst j;exact⟨λt f=>zY S f,sW⟩
 |k l=>
  intro Y ok q nt j;subst j;exact⟨λt f=>zY S (Hs nt),sW⟩
 |b l=>
  intro Y ok q nt j;subst j;refine⟨λt f=>zY S (vV f (Hs nt)),?_⟩;show ae ((e++l).flatMap _)=ae (aQ G e++aQ G l);rw[qv];show ae (c5 (some (2,g)) G e++c5 (some (2,g)) G l)=_;rw[<-gx,<-eD,sW,sW,gx,eD]
 |q c a x y d L U=>
  intro Y ok q nt j;cases q
def Hu(Q:Kl e):s.Ok->s.isQ=false->∀x∈aW T true s e,x∈aD:=by
 induction s with
 |T=>
  intro ok q;exact Q.aD
 |k l=>
  intro ok q;exact Kl.aD ok
 |b l=>
  intro ok q;exact λx H=>(aZ.mp H).elim (Q.aD x) (Kl.aD ok x)
 |q c a x y d L U=>
  intro ok q;exact nomatch q
def Ab(Q:Kl e)(ok:s.Ok)(q:s.isQ=false)(L:∀T,aW T true s e=l)(nt:s.Nt):nG s e z l h:=λz2 T k g G p S U=>by
 have U:=Hu (T:=T) Q ok q;rw[L]at U;rw[TC S U];have:=Ht S Q s ok q nt (L T);exact⟨λJ=>this.1,λJ=>this.2⟩
def Ac(Q:Kl e)(ok:s.Ok)(q:s.isQ=false)(I:∀T,aW T true s e=l)(nt:s.Nt)(C:aO z r (ae l)):kK s e z r h:=λz2 T k g G p S U cG=>by
 have v:=Hu (T:=T) Q ok q;rw[I]at v;have j:At z2 r (ae l):=⟨C.gr p,eE _,λx H=>v x (ct H)⟩;rw[TE S j];obtain⟨h1,h2⟩:=Ht S Q s ok q nt (I T);obtain⟨n,o⟩:=Aa Q;have e1:ae (c5 (some (2,g)) G (ae l))=ae (c5 (some (2,g)) G l):=zW (t:=n) (F:=λp=>if p=26+2 then G else[p]) (λp Y J=>ab J) (h1 n o);refine⟨λt f u E L=>?_,e1.trans h2⟩;refine h1 t f u ?_ L;rcases sV.mp E with⟨a,b⟩ |⟨a,b⟩
 .exact sV.mpr (.inl ⟨ct a,b⟩)
 .exact sV.mpr (.inr ⟨ct a,b⟩)
def TM(I:Kl e)(C:aO z r (ae l))(H:nG s e z l (h+1)):kK s e z r (h+1):=λz2 T k g G p S U cG=>by
 match k,U with
 |k+1,U=>
  have E:aK (k+1) T (some (2,g)) r=(ae l).flatMap (FF T k g):=by
   unfold aK;rw[(C.gr p).bR S.a S.b];rfl
  rw[E];obtain⟨h1,h2⟩:=H z2 T k g G p S ("~4sjWNk=pWrC=lF6" U);obtain⟨n,o⟩:=Aa I;refine⟨λt B u Q L=>?_,(zW (t:=n) (λp J f=>by rw[pD S J,ab f]) (h1 cG n o)).trans (h2 (.inl cG))⟩;obtain⟨p,J,Q⟩:=fu.mp Q;exact h1 cG t B u (fu.mpr ⟨p,ct J,Q⟩) L
abbrev sX(e:List Nat)(a:Option (List Nat))(x y:Sd):Prop:=28∉e\/(fF a/\x.dx/\y.dx)
abbrev pF(a:Option (List Nat))(x y:Sd):Prop:=a≠some [13]/\x.ir/\y.ir
abbrev TO(a:Option (List Nat))(x y:Sd)(d:Nat)(e held:List Nat)(z:Z)(l:List Nat)(h:Nat):Prop:=∀(z2:Z) (T:Tb) (k g:Nat) (G:List Nat),z.a <+:z2.a->SC z2 T g G->h<=k->
 (pF a x y->∀t,OT t e->OT t (l.flatMap (FF T k g)))/\(pF a x y\/(28∉e/\28∉held/\fF a/\x.dx/\y.dx)->ae (l.flatMap (FF T k g))=ae (fG T G a x y d e held))
abbrev XO(free:Bool)(x y:Sd)(a:Option (List Nat))(d:Nat)(e held:List Nat)(z:Z)(l:List Nat):Prop:=∀h,free=true->Ne e->27∉held->No a->x.eN->y.eN->x.Le h->y.Le h->
 iq z ((if held=[0]then 2 else 1)*4 ^ h) (h+1) l/\(x.Nt->y.Nt->CQ e held d a x y->sX e a x y->TO a x y d e held z l h)
end
section
variable{z z2:Z}{t i N h r k g w rc ra rx ry d:Nat}{l ls lt A e held G X Y:List Nat}{c a:Option (List Nat)}{x y s:Sd}{T:Tb}{m:Mp}
abbrev nJ(T:Tb)(c a:Option (List Nat))(x y:Sd)(e:List Nat)(p:Nat):List Nat:=
 ci T 1 [p] (ax a (eP true c e p)) (aW T true x (eP true c e p)) (aW T true y (eP true c e p)) (wS T true x (eP true c e p)) (wS T true y (eP true c e p))
def vX:aW T true (.q c a x y d) e=if ax c e=[13]then[13]else
  if d=1/\ax c e=[]then[]else
  if d=1/\2<=(ax c e).length then(ax c e).flatMap λp=>ci T d [p] (ax a (eP true c e p)) (aW T true x (eP true c e p)) (aW T true y (eP true c e p)) (wS T true x (eP true c e p)) (wS T true y (eP true c e p))
  else ci T d (ax c e) (ax a e) (aW T true x e) (aW T true y e) (wS T true x e) (wS T true y e):=rfl
def Hv(h:ax c e=[p]):eP true c e p=e:=by
 induction c using aX with
 |none=>exact h.symm|some l=>rfl
def Ad(U:ax c e≠[13]):aW T true (.q c a x y 1) e=(ax c e).flatMap (nJ T c a x y e):=by
 rw[vX,ab U]
 match Q:ax c e with
 |[]=>rw[ah ⟨rfl,rfl⟩];rfl|[p]=>
  rw[ab (λq=>nomatch q.2),ab (λq=>by have:=q.2;simp at this)];show _=nJ T c a x y e p++[];unfold nJ;rw[Hv Q,b9]
 |p::p2::r=>
  rw[ab (λq=>nomatch q.2),ah ⟨rfl,by simp⟩];rfl
def TP(S:SC z T g G)(C:Kl Y)(f:28∈Y):cd ((Y.filter λt=>t !=28)++G)/\∀x∈(Y.filter λt=>t !=28)++G,aY ((Y.filter λt=>t !=28)++G) x=false:=by
 have k:=zZ C f;have Q:cd Y:=by
  refine⟨λq=>?_,λq=>?_,λq=>?_⟩ <;>rcases k _ q with q |q |q
  all_goals first |exact absurd q (by decide) |cases q
 have L:∀u,u=0\/u=13\/u=1->u∉G:=λu I q=>by
  have:=jJ u (S.c u q);rcases I with e |e |e
  .exact this.2.2.2.2.2.2.2.2.2.1 e
  .exact this.2.2.2.2.2.2.2.2.1 e
  .exact this.2.2.2.2.2.2.2.2.2.2.1 e
 have nt:cd ((Y.filter λt=>t !=28)++G):=by
  refine⟨λq=>?_,λq=>?_,λq=>?_⟩ <;>rcases aZ.mp q with q |q
  .exact Q.1 (c7.mp q).1
  .exact L 0 (.inl rfl) q
  .exact Q.2.1 (c7.mp q).1
  .exact L 13 (.inr (.inl rfl)) q
  .exact Q.2.2 (c7.mp q).1
  .exact L 1 (.inr (.inr rfl)) q
 refine⟨nt,λx H=>?_⟩;generalize q:aY ((Y.filter λt=>t !=28)++G) x=E
 induction E using aS with
 |false=>rfl|true=>
  exfalso;have U:wh x≠2->wh x∉G:=λh1 h2=>by
   have:=jJ _ (S.c _ h2);rcases kz x with e |e |e
   .exact h1 e
   .exact this.2.2.2.2.2.1 e
   .exact this.2.2.2.2.2.2.1 e
  have n:∀x∈Y,aY Y x=false:=λx H=>by
   have:=(fD Q).mp (by rw[C.1];exact H:x∈ae Y);exact this.2
  rcases aZ.mp H with h |h
  .have j:=n x (c7.mp h).1
   rcases ii q with⟨h1,h2⟩ |⟨h1,h2⟩
   .rcases aZ.mp h2 with h3 |h3
    .unfold aY at j
     rw[bj.mpr (c7.mp h3).1,show(wh x !=2)=true by simpa using h1]at j;cases j
    .exact U h1 h3
   .subst h1
    rcases aZ.mp h2 with h3 |h3
    .unfold aY at j
     rw[bj.mpr (c7.mp h3).1]at j;simp at j
    .exact(jJ 16 (S.c 16 h3)).2.2.2.2.2.2.2.1 rfl
  .have J:=jJ x (S.c x h)
   rcases ii q with⟨h1,_⟩ |⟨h1,_⟩
   .exact h1 J.2.2.2.1
   .exact J.2.2.2.2.1 h1
def Ae(S:SC z T g G)(C:Kl Y){x:Nat}:x∈aQ G Y↔(x∈Y/\x≠28)\/(28∈Y/\x∈G):=by
 by_cases f:28∈Y
 .obtain⟨nt,U⟩:=TP S C f
  unfold aQ;rw[ah f,fD nt];constructor
  .rintro⟨h1,_⟩
   exact(aZ.mp h1).imp (λh=>by rw[c7]at h;simpa using h) λh=>⟨f,h⟩
  .intro q
   have:x∈(Y.filter λt=>t !=28)++G:=by
    rw[aZ,c7];exact q.imp (λh=>by simpa using h) λh=>h.2
   exact⟨this,U x this⟩
 .rw[gb f]
  exact⟨λh=>.inl ⟨h,λe=>f (e▸h)⟩,λh=>h.elim (λh=>h.1) λh=>absurd h.1 f⟩
def Af(S:SC z T g G)(n:Kl (ax c e))(E:ax c e≠[13])(C:28∈ax c e->(fF a/\x.dx/\y.dx)/\c=none):
  ae ((ax c e).flatMap λp=>fG T G a x y 1 (eP true c e p) [p])=ae (aW T true (bu G (.q c a x y 1)) (aQ G e)):=by
 show _=ae (aW T true (.q (df G c) (df G a) (bu G x) (bu G y) 1) (aQ G e));have j:ax (df G c) (aQ G e)≠[13]:=by rw[nE];exact λq=>E (vQ S n q)
 rw[Ad j,nE];have one:∀p∈ax c e,p≠28->fG T G a x y 1 (eP true c e p) [p]=nJ T (df G c) (df G a) (bu G x) (bu G y) (aQ G e) p:=λp J h=>by
  have Q:28∉[p]:=λq=>h (aB.mp q).symm;have e1:aQ G (eP true c e p)=eP true (df G c) (aQ G e) p:=by
   induction c using aX with
   |none=>exact gb Q|some l=>rfl
  unfold fG nJ;rw[ab (λq=>h (by simpa using q.2)),gb Q,e1]
 have I:28∈ax c e->fG T G a x y 1 (eP true c e 28) [28]=G.flatMap (nJ T (df G c) (df G a) (bu G x) (bu G y) (aQ G e)):=λh=>by
  obtain⟨⟨H,B,f⟩,o⟩:=C h;subst o;unfold fG;rw[ah ⟨rfl,rfl⟩];refine i5 λp J=>?_;unfold nJ;rw[z_ H,vU B,vU f];rfl
 refine rM λu=>?_;rw[fu,fu];constructor
 .rintro⟨p,J,L⟩
  by_cases h:p=28
  .subst h
   rw[I J]at L;obtain⟨U,Q,L⟩:=fu.mp L;exact⟨U,(Ae S n).mpr (.inr ⟨J,Q⟩),L⟩
  .rw[one p J h]at L
   exact⟨p,(Ae S n).mpr (.inl ⟨J,h⟩),L⟩
 .rintro⟨p,J,L⟩
  rcases(Ae S n).mp J with⟨h1,h2⟩ |⟨h1,h2⟩
  .exact⟨p,h1,by rw[one p h1 h2];exact L⟩
  .exact⟨28,h1,by rw[I h1];exact fu.mpr ⟨p,h2,L⟩⟩
def TQ(S:SC z T g G)(n:Kl (ax c e))(U:ax c e≠[13]):fG T G a x y 0 e (ax c e)=aW T true (bu G (.q c a x y 0)) (aQ G e):=by
 have j:ax (df G c) (aQ G e)≠[13]:=by rw[nE];exact λq=>U (vQ S n q)
 show _=aW T true (.q (df G c) (df G a) (bu G x) (bu G y) 0) (aQ G e);rw[vX,ab j,ab (λq=>nomatch q.1),ab (λq=>nomatch q.1),nE];unfold fG;rw[ab (λq=>nomatch q.1)]
def vY(j:28∉held)(U:28∉ax a e):fG T G a x y d e held=ci T d held (ax a e) (aW T true (bu G x) (aQ G e)) (aW T true (bu G y) (aQ G e)) (wS T true (bu G x) (aQ G e)) (wS T true (bu G y) (aQ G e)):=by
 unfold fG;rw[ab (λq=>j (by rw[q.2];simp)),nE,gb j,gb U]
end
structure iu(z:Z)(val:Tb->List Nat)(b:Nat)(X:Z->List Nat->Prop)(l:List Nat):Prop where
 d:∀p∈l,b3 z p
 f:l.length<=b
 a:∀T,z.a <+:T->T.Nodup->val T=l
 c:X z l
section
variable{C:CT}{z:Z}{L:List O}{n t i N h d:Nat}{Q:V->St->Prop}{l ls lt S A e held:List Nat}{σ:St}{c a:Option (List Nat)}{x y s:Sd}{free:Bool}
abbrev sY(s:Sd)(free:Bool)(N:Nat):Prop:=∀(z:Z) (L:List O) (Q:V->St->Prop) (e:List Nat),am z->z.sz+s.ac < 4194304->Kl e->
 (∀z' l L',Gr s.ac z z'->L <+:L'->iu z' (λT=>aW T free s e) s.al (XB free s e) l->Q (.r (aa l)) (st z' L'))->ar (ai N 67 [.o 12,dw s,.r (aa e),.w free] (st z L)) Q
abbrev pG(c a:Option (List Nat))(x y:Sd)(d:Nat)(free:Bool)(N:Nat):Prop:=∀(z:Z) (L:List O) (Q:V->St->Prop) (e:List Nat),am z->z.sz+(Sd.q c a x y d).ac < 4194304->Kl e->
 (∀z' l L',Gr (Sd.q c a x y d).ac z z'->L <+:L'->iu z' (λT=>aW T free (.q c a x y d) e) (Sd.q c a x y d).al (XB free (.q c a x y d) e) l->Q (.r (aa l)) (st z' L'))->ar (ai N 65 [.o 12,cg c a x y d,.r (aa e),.w free] (st z L)) Q
abbrev nK(s:Sd)(free:Bool)(N:Nat):Prop:=jI s N/\∀c a x y d,s=.q c a x y d->pG c a x y d free N
def Ag(U:Kl e)(T:Kl l)(v:V)(m:List Nat)(B:(v=.u "T" /\m=e)\/(v=.u "k" /\m=l)\/(v=.u "|" /\m=e++l))(q:∀L',L <+:L'->Q (.r (aa m)) (st z L')):ar (ai (n+1) 67 [.o 12,.p [v,.r (aa l)],.r (aa e),.w free] (st z L)) Q:=by
 have J:=U.2.1;have Y:=T.2.1;refine az (ρ:=[some (.o 12),some (.p [v,.r (aa l)]),some (.r (aa e)),some (.w free),none,none]) rfl ?_;have p1:L <+:(L++[O.b]).set L.length (pr (.r (aa e)) (.r (aa l)) (.r (aa (e++l)))):=bE bp (av _);have H:=Hk (z:=z) (aT (o':=pr (.r (aa e)) (.r (aa l)) (.r (aa (e++l)))) (bk (L:=L) (o:=O.b)));rcases B with⟨rfl,rfl⟩ |⟨rfl,rfl⟩ |⟨rfl,rfl⟩
 ·
  refine bY ?_;refine ag (jH ("~5q4SFGJ?eKsp|" J Y)) ?_;refine pt bk ?_;refine ag H.1 ?_;exact q _ p1
 ·
  refine bY ?_;refine ag (jH ("~5q4SFGJ?eKsp|" J Y)) ?_;refine pt bk ?_;refine ag H.2.1 ?_;exact q _ p1
 ·
  refine bY ?_;refine ag (jH ("~5q4SFGJ?eKsp|" J Y)) ?_;refine pt bk ?_;refine ag H.2.2 ?_;exact q _ p1
abbrev TR:List CS:=[.h (.z [.d 4,.n .a (.h (.d 6) (.g 0)) (.u "q")]) [.k (.w .a (.d 5) [.j 58 [.h (.d 0) (.u "tab"),.j 65 [.d 0,.h (.d 6) (.g 1),.d 2,.d 4]]])] [.k (.w .a (.d 5) [.j 61 [.d 0,.d 6,.d 2]])]]
def Hw(hs:nK s free (N+3))(ok:s.Ok)(I:am z)(room:z.sz+(s.sc+s.ac+1) < 4194304)(w:s.al < 4194303)(ke:Kl e)(o:B <+:L)(f:B.length<=j)(ho:L[j]?=some (.a out))(Y:out.length < 4194304)
  (q:∀z' (r:Nat) L',Gr (s.sc+s.ac+1) z z'->B <+:L'->L'[j]?=some (.a (out++[.j r]))->(∀T,z'.a <+:T->T.Nodup->wS T free s e=r)->(∀h,free=true->Ne e->s.eN->s.Le h->Wf cl z' h r/\(s.Nt->nH e s->kK s e z' r h))->K .a [some (.o 12),o1,some (.r (aa e)),o3,some (.w free),some (.o (j+14)),some (dw s)] (st z' L')):
  aM (ai (N+3)) TR [some (.o 12),o1,some (.r (aa e)),o3,some (.w free),some (.o (j+14)),some (dw s)] K (st z L):=by
 have U:(∀T,wS T free s e=eg T s e)->(∀z' r h,am z'->d8 z' s e r->free=true->Ne e->s.eN->s.Le h->Wf cl z' h r/\(s.Nt->nH e s->kK s e z' r h))->aM (ai (N+3)) [.k (.w .a (.d 5) [.j 61 [.d 0,.d 6,.d 2]])] [some (.o 12),o1,some (.r (aa e)),o3,some (.w free),some (.o (j+14)),some (dw s)] K (st z L):=λhw hW=>by
  refine ag (ec .a ho (.inl rfl)) ?_;refine hs.1 z L _ e I ("~HM4H0AreDMe1JA" room) ke λz' r L' g p h=>?_;refine eb (aC ho p) Y ?_;exact q z' r _ (g.mono ("~9wMjJMVb8" id)) (bE (o.trans p) f) (aT (aC ho p)) (λT m u=>by rw[hw,h.eg m u]) λh' f1 f2 v E=>hW z' r h' g.e h f1 f2 v E
 induction s using Mine.Lake.Sd.casesOn with
 |T=>induction free <;>exact U (λT=>rfl) λz' r h G hr Q J Q Q=>⟨zU G hr ke.aD J.1,λnt Q=>Ac (s:=.T) ke trivial rfl (λT=>rfl) nt hr⟩
 |k l=>induction free <;>exact U (λT=>rfl) λz' r h G hr Q J l_ Q=>⟨zU G hr (Kl.aD ok) l_,λnt Q=>Ac (s:=.k l) ke ok rfl (λT=>rfl) nt hr⟩
 |b l=>induction free <;>exact U (λT=>rfl) λz' r h G hr Q J l_ Q=>⟨zU G hr (λx H=>(aZ.mp H).elim (ke.aD x) (Kl.aD ok x)) (λH=>(aZ.mp H).elim J.1 l_),λnt Q=>Ac (s:=.b l) ke ok rfl (λT=>rfl) nt hr⟩
 |q c a x y d=>
  induction free using aS with
  |false=>exact U (λT=>rfl) λz' r h G hr e=>nomatch e|true=>
   refine ag (ec .a ho (.inl rfl)) ?_;refine hs.2 c a x y d rfl z L _ e I ("~HM4H0AreDNJxDj" room) ke λz' l L' g p h=>?_;have v1:=g.f;refine i9 (n:=N) g.e ("~3NqyW?3sP>e8r9|zeUD" v1 room) h.d (by have v2:=h.f;exact "~3NBj_BJJCr?_2MV5ej0" v2 w) λz2 r L2 g2 p2 h2=>?_;refine eb (aC ho (p.trans p2)) Y ?_;exact q z2 r _ ((g.trans g2).mono ("~8FR4oOvAv6;" id)) (bE (o.trans (p.trans p2)) f) (aT (aC ho (p.trans p2))) (λT m u=>by
    show uF T (aW T true (.q c a x y d) e)=r;rw[h.a T (g2.d.trans m) u,kC h2 m u]) λh' f1 f2 v E=>by
     match h',E with
     |Ah+1,E=>
      obtain⟨w1,w2⟩:=h.c (Ah+1) f1 f2 v E;exact⟨Hl h2 (w1.gr g2.d),λnt q=>TM ke h2 ((w2 nt q).gr g2.d)⟩
def TS{l:List V}(h:L[i]?=some (.a l))(Y:l.length < 4194304):b1 .b (.o (i+14)) (st z L)=some (.p l,st z L):=by
 exact yS (yT h) Y
def TU(hx:nK x free (N+4))(hy:nK y free (N+4))(Ai:x.Ok)(Aj:y.Ok)(Y:d<=1)(lZ:d=1->held.length<=1)(ha:Ko a)(kA:Kl (ax a e))(jE:be held=true\/be (ax a e)=true/\held≠[13]/\(d=1->held≠[]))(I:am z)(room:z.sz+(3+(x.sc+x.ac+1)+(y.sc+y.ac+1)) < 4194304)(vZ:x.al < 4194303)(v_:y.al < 4194303)(ke:Kl e)(kh:Kl held)
  (q:∀z' (r:Nat) L',Gr (3+(x.sc+x.ac+1)+(y.sc+y.ac+1)) z z'->L <+:L'->b3 z' r->(∀T,z'.a <+:T->T.Nodup->eB T (aV (uF T held) (uF T (ax a e)) (wS T free x e) (wS T free y e) d)=r)->(∀h,free=true->Ne e->27∉held->No a->x.eN->y.eN->x.Le h->y.Le h->l5 z' h r/\(x.Nt->y.Nt->CQ e held d a x y->sX e a x y->∀(z2:Z) (T:Tb) (k g:Nat) (G:List Nat),z'.a <+:z2.a->SC z2 T g G->h<=k->pF a x y->(∀t,OT t e->OT t (FF T k g r))/\ae (FF T k g r)=ae (fG T G a x y d e held)))->Q (.j r) (st z' L')):
  ar (ai (N+5) 68 [.o 12,cg c a x y d,.r (aa e),.r (aa held),.w free] (st z L)) Q:=by
 have w:(oS a).sc=1:=by induction a <;>rfl
 have J:∀{z:Z} {r:Nat} {c:Option (List Nat)},d8 z (oS c) e r->aO z r (ae (ax c e)):=λ{z r c} h=>by induction c <;>exact h
 refine az (ρ:=[some (.o 12),some (cg c a x y d),some (.r (aa e)),some (.r (aa held)),some (.w free),none,none]) rfl ?_;unfold cg;refine i9 (n:=N+1) I ("~fpTTu4|m3kZp66hDcfI=K" room) (kh.part I) (by have:=kh.2.1;exact "~Kxz>GCZ<gXUY" this) λz1 rc L1 g1 p1 h1=>?_;have o:=g1.f;rw[nw a];refine zQ ha ("~bOjFz4YQ" id) z1 L1 _ e g1.e (by rw[w];exact "~7F?IG^CRP|cr1nqu=Z0ZN5sFJm" o room) ke λz2 ra L2 g2 p2 h2=>?_;rw[w]at g2;have t3:=g2.f;refine bY ?_;have pB:L <+:L2++[O.a [.j rc,.j ra]]:=(p1.trans p2).trans bp;have hj:L.length<=L2.length:=(p1.trans p2).length_le;refine Hw (j:=L2.length) (B:=L) (N:=N+1) hx Ai g2.e ("~AVb29qc5g;Te6FvHJvixVNL1iyyL^ZAp5" t3 o room) vZ ke pB hj bk (bP rfl) λz3 rx L3 U p3 o3 h3 w3=>?_;have t4:=U.f;refine Hw (j:=L2.length) (B:=L) (N:=N+1) hy Aj U.e ("~S;k?c3txQhrms4md0i>BVyjdO?uhz<38NHhGvdAy" t4 t3 o room) v_ ke p3 hj o3 (bP rfl) λz4 ry L4 f p4 o4 h4 w4=>?_;have t5:=f.f;refine aP (TS o4 (bP rfl)) ?_;refine ju (n:=N+3) (r:=aV rc ra rx ry d) f.e rfl (.inl (.b ..)) ("~5Fd^8NgJUG<3kQaE2wPxE9UWvy?3lV>KXktqxK1=<8g9U" t5 t4 t3 o room) λz5 r H hr=>?_;have wa:=(U.d.trans f.d).trans H.d;refine q z5 r L4 (((((g1.trans g2).trans U).trans f).trans H).mono ("~LPq;DWN<46SGn0eVwml^^bJMSO?Cu" id)) p4 (lT H.e hr).2 (λT m u=>?_) λh f1 f2 v E f5 f6 f7 f8=>?_
 .rw[kC h1 (g2.d.trans (wa.trans m)) u,kC (J h2) (wa.trans m) u,h3 T (f.d.trans (H.d.trans m)) u,h4 T (H.d.trans m) u]
  exact lR u (cH m hr)
 .have dk:27∉ax a e:=by
   induction a using aX with
   |none=>exact f2.1|some l=>exact(E l rfl).1
  have hc:At z5 rc held:=by
   have:=h1.gr (g2.d.trans wa);rw[kh.1]at this;exact⟨this,kh.1,kh.aD⟩
  have Hx:At z5 ra (ax a e):=by
   have:=(J h2).gr wa;rw[kA.1]at this;exact⟨this,kA.1,kA.aD⟩
  obtain⟨TV,TW⟩:=w3 h f1 f2 f5 f7;obtain⟨TX,TY⟩:=w4 h f1 f2 f6 f8;refine⟨⟨rc,ra,rx,ry,d,held,ax a e,hr,(lT H.e hr).1,hc,Hx,⟨v,lZ⟩,λC=>dk,TV.gr (f.d.trans H.d),TX.gr H.d,Y,jE⟩,λnx ny cq fI z2 T k g G p S hk ei=>?_⟩;exact TK (h:=h) S (cH p hr) (hc.gr p) (Hx.gr p) kh kA v lZ jE cq ((TW nx (fI.imp id λq=>q.2.1)).gr ((f.d.trans H.d).trans p)) ((TY ny (fI.imp id λq=>q.2.2)).gr (H.d.trans p)) hk ei.1 ei.2.1 ei.2.2
end
section
variable{C:CT}{z:Z}{L:List O}{n t i N h d:Nat}{Q:V->St->Prop}{l ls lt S A e held:List Nat}{σ:St}{c a:Option (List Nat)}{x y s:Sd}{free:Bool}
theorem TZ{k:Nat}:∀l:List Nat,fA (aa l) [.j k]=decide (l=[k])
 |[]=>rfl|[a]=>by
  show((a:Int)==k&&true)=_;rw[Bool.and_true];by_cases h:a=k
  .rw[h];simp
  .rw[cB.mpr (show(a:Int)≠k from "~1_Ou3jsFT<tJ" h),cc];simpa using h
 |a::b::r=>by
  show((a:Int)==k&&false)=_;rw[BW,cc];simp
def sZ{k:Nat}:dc .a (.r (aa l)) (.r [.j k]) σ=some (.w (decide (l=[k])),σ):=by
 refine dX (show bq _ (some (fA (aa l) [.j k]))=some (decide (l=[k]))from dW ?_ (aE some (TZ l)));show(V.eU (aa l)&&true&&true)=true;rw[rT];rfl
def T0:dc .d (.r (aa l)) (.p [.r [.j 0],.r [.j 1]]) σ=some (.w (!(decide (l=[0])||decide (l=[1]))),σ):=by
 have h:∀k:Nat,fA [.j k] (aa l)=decide (l=[k]):=λk=>by
  match l with
  |[]=>rfl|[a]=>
   show((k:Int)==a&&true)=_;rw[Bool.and_true];by_cases h:a=k
   .rw[h];simp
   .rw[cB.mpr (show(k:Int)≠a from "~I|IhKILdV_0?" h),cc];simpa using h
  |a::b::r=>
   show((k:Int)==a&&false)=_;rw[BW,cc];simp
 have Y:decide (fb (.r (aa l))<=8)=true:=by
  have:∀l:List Nat,jj (aa l)<=1:=λl=>by
   induction l with
   |nil=>exact bb _|cons a r ih=>show max 0 (jj (aa r))<=1 <;>exact "~3p5J0RTWal0ML<lxw" qK ih
  rw[xo];show jj (aa l)+1<=8;have:=this l;exact "~PSJdqan|oK" this
 refine dX (show bq _ ((bq _ (some (fA [.j (0:Nat)] (aa l)||(fA [.j (1:Nat)] (aa l)||false)))).map not)=some (!(decide (l=[0])||decide (l=[1])))from dW rfl ?_);rw[h,h,xk];refine dX (dr ?_);show(true&&V.eU (aa l)&&decide (fb (.r (aa l))<=8))=true;rw[Y,rT];rfl
abbrev Ak:List CS:=[.h (.j 64 [.d 0,.d 3]) [.d (.r true [.j 68 [.d 0,.d 1,.d 2,.d 3,.d 4]])] [],
 .h (.n .a (.d 7) (.r true [.p 13])) [.d (.r true [.p 13])] [],
 .h (.j 64 [.d 0,.d 7]) [.d (.r true [.j 68 [.d 0,.d 1,.d 2,.d 3,.d 4]])] [],
 .h (.z [.n .a (.d 3) (.r true [.p 0]),.n .d (.d 7) (.t [.r true [.p 0],.r true [.p 1]])]) [.d (.A .a (.j 67 [.d 0,.h (.d 1) (.g 2),.d 2,.d 4]) (.j 67 [.d 0,.h (.d 1) (.g 3),.d 2,.d 4]))] [],
 .d (.j 67 [.d 0,.C (.j 63 [.d 0,.d 3,.d 7]) (.h (.d 1) (.g 2)) (.h (.d 1) (.g 3)),.d 2,.d 4])]
def Kl.op(h:Kl l)(o:be l=false):l=[0]\/l=[1]\/l=[13]\/∀x∈l,x∈cf:=by
 refine h.2.2.imp id λh=>h.imp id λh=>h.imp id λh=>λx H=>?_;unfold be at o;rw[qt]at o;rcases h x H with e |e |e
 .exact e
 .subst e;rw[bj.mpr H]at o;cases o.1
 .subst e;rw[bj.mpr H]at o;cases o.2
def s_(h:∀x∈l,x∈cf):cd l:=⟨λq=>absurd (h _ q) (by decide),λq=>absurd (h _ q) (by decide),λq=>absurd (h _ q) (by decide)⟩
def Kl.cj(h:Kl l)(o:be l=false):∀x∈l,x∈Mine.Lake.cj:=λx H=>by
 rcases h.op o with e |e |e |e
 .rw[e,aB]at H;subst H;decide
 .rw[e,aB]at H;subst H;decide
 .rw[e,aB]at H;subst H;decide
 .exact Hh x (e x H)
abbrev qc(x y:Sd):Nat:=3+(x.sc+x.ac+1)+(y.sc+y.ac+1)+x.ac+y.ac
theorem Wf.up:∀{h i:Nat},Wf cl z h i->Wf cl z (h+1) i
 |0,i,⟨l,a,b⟩=>⟨l,a.c,a.f,by rw[kE a.d];exact bb _,λp J=>.inl ⟨a.d p J,λe q=>b e (q▸J)⟩⟩
 |h+1,i,⟨l,a,b,c,d⟩=>⟨l,a,b,aL c (Nat.pow_le_pow_right (by decide) (tF _)),λp J=>(d p J).imp id λk=>by
  obtain⟨c,a,x,y,d,lc,la,h1,h2,h3,h4,h5,h6,h7,h8,h9⟩:=k;exact⟨c,a,x,y,d,lc,la,h1,h2,h3,h4,h5,h6,h7.up,h8.up,h9⟩⟩
def iq.up(w:iq z b h l)(T:b<=G):iq z G (h+1) l:=
 ⟨aL w.1 T,λp J=>(w.2 p J).imp id λk=>by
  obtain⟨h',e,c,a,x,y,d,lc,la,h1,h2,h3,h4,h5,h6,h7,h8,h9,pA⟩:=k;rw[e];exact⟨_,rfl,c,a,x,y,d,lc,la,h1,h2,h3,h4,h5,h6,h7.up,h8.up,h9,pA⟩⟩
def Hy:iq z b h [13]:=⟨by rw[show cs [13]=0 from rfl];exact bb _,λp J=>by rw[aB]at J;subst J;exact .inl (by decide)⟩
def ma(h:be l=false):28∉l:=λq=>by
 unfold be at h;rw[bj.mpr q,Bool.or_true]at h;cases h
def wb(S:SC z T g G):[13].flatMap (FF T k g)=[13]:=by
 rw[dJ,ji,b9,pD S (by decide)];rfl
def T1:1<=(if held=[0]then 2 else 1)*4 ^ h:=Nat.mul_le_mul (show 1<=(if held=[0]then 2 else 1)by split <;>decide) (tL h 4 (by decide))
def k_one:4 ^ h<=(if held=[0]then 2 else 1)*4 ^ h:=tN _ (by split <;>decide)
def T2(Ai:x.Ok)(Aj:y.Ok)(Y:d<=1)(lZ:d=1->held.length<=1)(T3:held≠[13])(T4:d=1->held≠[])(Hz:sY x free (N+5))(HA:sY y free (N+5))(wx:nK x free (N+4))(wy:nK y free (N+4))(ha:Ko a)(ka:Kl A)(j:A=ax a e)(I:am z)(room:z.sz+qc x y < 4194304)(vZ:x.al < 2000000)(v_:y.al < 2000000)(ke:Kl e)(kh:Kl held)
  (q:∀z' l L',Gr (qc x y) z z'->L <+:L'->iu z' (λT=>ci T d held A (aW T free x e) (aW T free y e) (wS T free x e) (wS T free y e)) (x.al+y.al+1) (XO free x y a d e held) l->Q (.r (aa l)) (st z' L')):
  aM (ai (N+5)) Ak [some (.o 12),some (cg c a x y d),some (.r (aa e)),some (.r (aa held)),some (.w free),o5,o,some (.r (aa A))] (dB Q) (st z L):=by
 unfold qc at room q;have T5:=ka.2.1;have HB:=kh.2.1;have wait:(be held=true\/be A=true)->(∀T bx d9,ci T d held A bx d9 (wS T free x e) (wS T free y e)=[eB T (aV (uF T held) (uF T (ax a e)) (wS T free x e) (wS T free y e) d)])->∀L1,L <+:L1->
   aM (ai (N+5)) [.d (.r true [.j 68 [.d 0,.d 1,.d 2,.d 3,.d 4]])] [some (.o 12),some (cg c a x y d),some (.r (aa e)),some (.r (aa held)),some (.w free),o5,o,some (.r (aa A))] (dB Q) (st z L1):=λhw B L1 p1=>by
  refine TU (N:=N) wx wy Ai Aj Y lZ ha (j▸ka) (hw.imp id λh=>⟨j▸h,T3,T4⟩) I ("~BH?gIEg|00Fp951L8es=hy6nIYjJBvP1Q" room) ("~Cru6>aGZ5;p<IEih" vZ) ("~Cru6>aGZ5;p<IEih" v_) ke kh λz' r L' g p J hr hW=>?_;refine q z' [r] L' (g.mono ("~7BgR94twWv3keCu9K2SBlKx;FrOa" id)) (p1.trans p) ⟨λp' po=>by rw[aB]at po;subst po;exact J,by simp,λT m hn=>by rw[B,hr T m hn],λh f1 f2 v E f5 f6 f7 f8=>?_⟩;obtain⟨w1,w2⟩:=hW h f1 f2 v E f5 f6 f7 f8;refine⟨⟨aL (show cs [r]<=1 from jR _ _) T1,λp J=>by rw[aB]at J;subst J;exact .inr ⟨h,rfl,w1⟩⟩,λnx ny cq fI z2 T k g G p2 S U=>?_⟩;have e1:[r].flatMap (FF T k g)=FF T k g r:=by rw[dJ,ji,b9]
  rw[e1];refine⟨λei=>(w2 nx ny cq fI z2 T k g G p2 S U ei).1,λq=>?_⟩;rcases q with ei |⟨H,n2,n3,_⟩
  .exact(w2 nx ny cq fI z2 T k g G p2 S U ei).2
  .exfalso
   have nA:be A=false:=by
    rw[j]
    induction a using aX with
    |none=>exact l9 f2.1 H|some la=>exact l9 (E la rfl).1 (n3 la rfl)
   rcases hw with h1 |h1
   .rw[l9 v n2]at h1;cases h1
   .rw[nA]at h1;cases h1
 unfold Ak;refine He (n:=N+4) ?_;generalize oh:be held=x_
 induction x_ using aS with
 |true=>exact wait (.inl oh) (λT bx d9=>by unfold ci;rw[ah oh,j]) L (aA _)|false=>
  refine ag (sZ (k:=13)) ?_;by_cases w:A=[13]
  .rw[b4 w]
   refine q z [13] L ((Gr.refl I).mono (bb _)) (aA _) ⟨λp J=>by rw[aB]at J;subst J;exact nd I (by decide),by simp,λT m hn=>by unfold ci;rw[ab (by rw[oh];decide),ah w],λh f1 f2 v E f5 f6 f7 f8=>⟨Hy,λnx ny cq fI z2 T k g G p2 S U=>⟨λei t f=>?_,λC=>?_⟩⟩⟩
   .rw[wb S]
    induction a using aX with
    |none=>intro u hu _;rw[aB]at hu;rw[hu];exact f 13 (by rw[show e=[13]from j.symm.trans w];simp) (.inr (.inl rfl))|some la=>exact absurd (aE some (show la=[13]from j.symm.trans w)) ei.1
   .rw[wb S,vY (ma oh) (by rw[<-j,w];decide)]
    unfold ci;rw[ab (by rw[oh];decide),ah (j▸w)]
  rw[cc w];refine He (n:=N+4) ?_;generalize oa:be A=x_
  induction x_ using aS with
  |true=>exact wait (.inr oa) (λT bx d9=>by unfold ci;rw[ab (by rw[oh];decide),ab w,ah oa,j]) L (aA _)|false=>
   have B:∀(T:Tb) bx d9 wx wy,ci T d held A bx d9 wx wy=if held=[0]/\A≠[0]/\A≠[1]then bx++d9 else if A=[0]\/A=[1]\/FU held A=true then bx else d9:=λT bx d9 wx wy=>by
    unfold ci;rw[ab (by rw[oh];decide),ab w,ab (by rw[oa];decide)]
   have HC:∀z1 L1 (b:Bool),Gr 0 z z1->L <+:L1->(∀T bx d9 wx wy,ci T d held A bx d9 wx wy=if b=true then bx else d9)->ar (ai (N+5) 67 [.o 12,bif b then dw x else dw y,.r (aa e),.w free] (st z1 L1)) (λx σ=>oD x Q σ):=λz1 L1 b g1 p1 hb=>by
    have:=g1.f
    induction b using aS with
    |true=>exact Hz z1 L1 _ e g1.e ("~66TTAnp^ZLbp4Z6IFZ6tVpSO2=0m" this room) ke λz' l L' g p h=>q z' l L' ((g1.trans g).mono ("~?pizvemsxQoumNdwl3ZB" id)) (p1.trans p) ⟨h.d,by have:=h.f;exact "~Pxy;V6Varp" this,λT m hn=>by rw[hb,ah rfl];exact h.a T m hn,λh' f1 f2 v E f5 f6 f7 f8=>⟨((h.c h' f1 f2 f5 f7).1).up k_one,λnx ny cq fI z2 T k g G p2 S U=>by
     obtain⟨s1,s2⟩:=(h.c h' f1 f2 f5 f7).2 nx (fI.imp id λq=>q.2.1) z2 T k g G p2 S ("~8RCWsKrG0" U);refine⟨λei=>s1 ei.2.1,λq=>?_⟩;rw[vY (ma oh) (j▸ma oa),<-j,hb,ah rfl];exact s2 (q.imp (λq=>q.2.1) λq=>⟨q.1,q.2.2.2.1⟩)⟩⟩
    |false=>exact HA z1 L1 _ e g1.e ("~66TTAnp^ZLbp4Z6IFZ6tVpSPO^ro" this room) ke λz' l L' g p h=>q z' l L' ((g1.trans g).mono ("~?p;sP_VRY8yp>aHnf;LZ" id)) (p1.trans p) ⟨h.d,by have:=h.f;exact "~Pxy;SgpQeM" this,λT m hn=>by rw[hb,ab (by decide)];exact h.a T m hn,λh' f1 f2 v E f5 f6 f7 f8=>⟨((h.c h' f1 f2 f6 f8).1).up k_one,λnx ny cq fI z2 T k g G p2 S U=>by
     obtain⟨s1,s2⟩:=(h.c h' f1 f2 f6 f8).2 ny (fI.imp id λq=>q.2.2) z2 T k g G p2 S ("~8RCWsKrG0" U);refine⟨λei=>s1 ei.2.2,λq=>?_⟩;rw[vY (ma oh) (j▸ma oa),<-j,hb,ab (by decide)];exact s2 (q.imp (λq=>q.2.2) λq=>⟨q.1,q.2.2.2.2⟩)⟩⟩
   have last:¬ (held=[0]/\A≠[0]/\A≠[1])->aM (ai (N+5)) [.d (.j 67 [.d 0,.C (.j 63 [.d 0,.d 3,.d 7]) (.h (.d 1) (.g 2)) (.h (.d 1) (.g 3)),.d 2,.d 4])] [some (.o 12),some (cg c a x y d),some (.r (aa e)),some (.r (aa held)),some (.w free),o5,o,some (.r (aa A))] (dB Q) (st z L):=λHD=>by
    have top:A=[0]\/A=[1]->aM (ai (N+5)) [.d (.j 67 [.d 0,.C (.j 63 [.d 0,.d 3,.d 7]) (.h (.d 1) (.g 2)) (.h (.d 1) (.g 3)),.d 2,.d 4])] [some (.o 12),some (cg c a x y d),some (.r (aa e)),some (.r (aa held)),some (.w free),o5,o,some (.r (aa A))] (dB Q) (st z L):=λf=>by
     refine Hi (n:=N+4) ("~W8qSN|Tl" HB) (by rcases f with h |h;exact .inl h;exact .inr (.inl h)) ?_;exact HC z L true (Gr.refl I) (aA _) λT bx d9 wx wy=>by rw[B,ab HD,ah (by rcases f with h |h;exact .inl h;exact .inr (.inl h)),ah rfl]
    rcases ka.op oa with e0 |e1 |Al |hs
    .exact top (.inl e0)
    .exact top (.inr e1)
    .exact absurd Al w
    ·
     refine Hj (n:=N+4) I (s_ hs) hs (kh.cj oh) ("~Kxz>GCZ<gXUY" T5) ("~Kxz>GCZ<gXUY" HB) λz1 L1 g1 p1=>?_;have n0:A≠[0]:=λh=>absurd (hs 0 (by rw[h];simp)) (by decide);have H:A≠[1]:=λh=>absurd (hs 1 (by rw[h];simp)) (by decide);have:=HC z1 L1 (FU held A) g1 p1 λT bx d9 wx wy=>by
      rw[B,ab HD]
      induction FU held A using aS with
      |true=>rw[ah (.inr (.inr rfl)),ah rfl]|false=>rw[ab (by rintro(h |h |h);exact n0 h;exact H h;cases h),ab (by decide)]
     cases hF:FU held A <;>rw[hF]at this <;>exact this
   refine ag (sZ (k:=0)) ?_;by_cases h0:held=[0]
   .rw[b4 h0]
    refine ag T0 ?_;by_cases f:A=[0]\/A=[1]
    .rw[show(decide (A=[0])||decide (A=[1]))=true by simpa using f]
     exact last λh=>f.elim h.2.1 h.2.2
    .rw[show(decide (A=[0])||decide (A=[1]))=false by simpa using f]
     have HE:held=[0]/\A≠[0]/\A≠[1]:=⟨h0,λh=>f (.inl h),λh=>f (.inr h)⟩;refine Hz z L _ e I ("~Y|UYc_h4mIxkb>GhPv_B_hb" room) ke λz1 l1 L1 g1 p1 a1=>?_;have:=g1.f;refine HA z1 L1 _ e g1.e ("~LdvLiz_pMiXo4dBkMM<<74>bNP;" this room) ke λz2 l2 L2 g2 p2 a2=>?_;have h1:=a1.f;have h2:=a2.f;refine ag (jH ("~7DZEptCP^QqK=2e0_ZP9naRUQP" h1 h2 vZ v_)) ?_;refine q z2 (l1++l2) L2 ((g1.trans g2).mono ("~wqH=c5Ez^Scvv7znLGX" id)) (p1.trans p2) ⟨λp J=>(aZ.mp J).elim (λh=>(a1.d p h).gr g2.d) (a2.d p),by rw[b_];exact "~GHnEFa^FZtgNLZ" h1 h2,λT m hn=>?_,λh' f1 f2 v E f5 f6 f7 f8=>?_⟩
     .rw[B,ah HE,a1.a T (g2.d.trans m) hn,a2.a T m hn]
     .obtain⟨u1,v1⟩:=a1.c h' f1 f2 f5 f7
      obtain⟨u2,v2⟩:=a2.c h' f1 f2 f6 f8;have w1:=(u1.gr g2.d).up (av _);have w2:=u2.up (av _);refine⟨⟨?_,λp J=>(aZ.mp J).elim (w1.2 p) (w2.2 p)⟩,λnx ny cq fI z3 T k g G p3 S U=>?_⟩
      .rw[ah h0,nq]
       have t1:=w1.1;have t2:=w2.1;exact "~KT^O0VuYxCjW" t1 t2
      .obtain⟨s1,s2⟩:=v1 nx (fI.imp id λq=>q.2.1) z3 T k g G (g2.d.trans p3) S ("~8RCWsKrG0" U)
       obtain⟨s3,s4⟩:=v2 ny (fI.imp id λq=>q.2.2) z3 T k g G p3 S ("~8RCWsKrG0" U);rw[qv];refine⟨λei t f=>vV (s1 ei.2.1 t f) (s3 ei.2.2 t f),λq=>?_⟩;rw[vY (ma oh) (j▸ma oa),<-j,B,ah HE,<-gx,s2 (q.imp (λq=>q.2.1) λq=>⟨q.1,q.2.2.2.1⟩),gx,<-eD,s4 (q.imp (λq=>q.2.2) λq=>⟨q.1,q.2.2.2.2⟩),eD]
   .rw[cc h0]
    exact last λh=>h0 h.1
end
section
variable{C:CT}{z:Z}{L:List O}{n t i N h d:Nat}{Q:V->St->Prop}{l ls lt S A e held:List Nat}{σ:St}{c a:Option (List Nat)}{x y s:Sd}{free:Bool}
structure nL(x y:Sd)(free:Bool)(N:Nat):Prop where
 h:sY x free (N+5)
 g:sY y free (N+5)
 d:nK x free (N+4)
 c:nK y free (N+4)
 f:x.Ok
 e:y.Ok
 b:x.al < 300000
 a:y.al < 300000
def Ko.op(G:Ko a)(Y:Kl e):Kl (ax a e):=by
 induction a using aX with
 |none=>exact Y|some l=>exact G l rfl
def HF(S:nL x y free N)(G:Ko a)(I:am z)(room:z.sz+qc x y < 4194304)(U:Kl e)(J:Kl held)(w:held≠[13])(Y:d=0\/d=1/\∃p,held=[p])
  (q:∀z' l L',Gr (qc x y) z z'->L <+:L'->iu z' (λT=>ci T d held (ax a e) (aW T free x e) (aW T free y e) (wS T free x e) (wS T free y e)) (x.al+y.al+1) (XO free x y a d e held) l->Q (.r (aa l)) (st z' L')):
  ar (ai (N+6) 66 [.o 12,cg c a x y d,.r (aa e),.r (aa held),.w free] (st z L)) Q:=by
 have H:=S.b;have E:=S.a;refine az (ρ:=[some (.o 12),some (cg c a x y d),some (.r (aa e)),some (.r (aa held)),some (.w free),none,none,none]) rfl ?_;have g:∀v,v=V.r (aa (ax a e))->aM (ai (N+5)) Ak [some (.o 12),some (cg c a x y d),some (.r (aa e)),some (.r (aa held)),some (.w free),none,none,some v] (dB Q) (st z L):=λv B=>by
  subst B;exact T2 S.f S.e (by rcases Y with h |⟨h,_⟩ <;>lia) (λh1=>by rcases Y with h |⟨_,p,h⟩;lia;rw[h];exact av _) w (λh1=>by rcases Y with h |⟨_,p,h⟩;lia;rw[h];exact λe=>nomatch e) S.h S.g S.d S.c G (G.op U) rfl I room ("~CkTArPv^mGpF3kyt" H) ("~CkTArPv^mGpF3kyt" E) U J q
 refine ag (sZ (k:=13)) ?_;rw[cc w];rcases Y with rfl |⟨rfl,p,rfl⟩
 .induction a using aX with
  |none=>exact g _ rfl|some l=>exact g _ rfl
 ·
  refine aP (l0 (l:=aa [p]) (bP rfl)) ?_
  induction a using aX with
  |none=>exact g _ rfl|some l=>exact g _ rfl
abbrev Am:List CS:=[.k (.w .b (.d 5) [.j 66 [.d 0,.d 1,.C (.z [.d 4,.n .a (.h (.h (.d 1) (.g 0)) (.g 0)) (.u "T")]) (.r true [.d 6]) (.d 2),.r true [.d 6],.d 4]])]
def Kl.one(Y:Kl held)(h2:2<=held.length)(J:p∈held):Kl [p]/\[p]≠[13]/\[p]≠[0]:=by
 have k:∀x∈held,x∈cf\/x=27\/x=28:=by
  rcases Y.2.2 with e |e |e |e
  .rw[e]at h2;simp at h2
  .rw[e]at h2;simp at h2
  .rw[e]at h2;simp at h2
  .exact e
 refine⟨⟨cW,by simp,.inr (.inr (.inr λx H=>?_))⟩,λe=>?_,λe=>?_⟩
 .rw[aB]at H;subst H;exact k x J
 .have:p=13:=by simpa using e
  subst this;rcases k 13 J with h |h |h
  .exact absurd h (by decide)
  .cases h
  .cases h
 .have:p=0:=by simpa using e
  subst this;rcases k 0 J with h |h |h
  .exact absurd h (by decide)
  .cases h
  .cases h
abbrev XL(free:Bool)(x y:Sd)(a c:Option (List Nat))(e hl0 pd:List Nat)(z:Z)(l:List Nat):Prop:=∀h,free=true->Ne e->27∉hl0->No a->x.eN->y.eN->x.Le h->y.Le h->
 iq z (pd.length*4 ^ h) (h+1) l/\(x.Nt->y.Nt->(28∈hl0->(fF a/\x.dx/\y.dx)/\c=none)->sX e a x y->∀(z2:Z) (T:Tb) (k g:Nat) (G:List Nat),z.a <+:z2.a->SC z2 T g G->h<=k->
  (pF a x y->∀t,OT t e->OT t (l.flatMap (FF T k g)))/\(pF a x y\/(28∉e/\28∉hl0/\fF a/\x.dx/\y.dx)->ae (l.flatMap (FF T k g))=ae (pd.flatMap λp=>fG T G a x y 1 (eP true c e p) [p])))
def T6(Y:Kl held)(h2:2<=held.length):∀x∈held,x∈cf\/x=27\/x=28:=by
 rcases Y.2.2 with e |e |e |e
 .rw[e]at h2;simp at h2
 .rw[e]at h2;simp at h2
 .rw[e]at h2;simp at h2
 .exact e
def T7(h:p∈cf\/p=27\/p=28):OT t [p]:=λu Y f=>by
 rw[aB]at Y;subst Y;rcases h with h |h |h
 .rcases f with q |q |q <;>subst q <;>exact absurd h (by decide)
 .rcases f with q |q |q <;>lia
 .rcases f with q |q |q <;>lia
def T8(S:nL x y free N)(ha:Ko a)(ke:Kl e)(hj:B.length<=j){M:Nat}(kh:Kl hl0)(h2:2<=hl0.length)(room:z0.sz+M < 4194304):
  ∀{z:Z} {L:List O} {out:List Nat} {o:Option V} {val:Tb->List Nat} {m b:Nat} {pd:List Nat},Gr m z0 z->m+ps.length*qc x y<=M->b+ps.length*(x.al+y.al+1) < 4194304->(∀p∈ps,p∈hl0)->B <+:L->L[j]?=some (.a (aa out))->iu z val b (XL free x y a c e hl0 pd) out->
  (∀z' l L' o,Gr M z0 z'->B <+:L'->L'[j]?=some (.a (aa l))->iu z' (λT=>val T++ps.flatMap λp=>ci T 1 [p] (ax a (eP free c e p)) (aW T free x (eP free c e p)) (aW T free y (eP free c e p)) (wS T free x (eP free c e p)) (wS T free y (eP free c e p))) (b+ps.length*(x.al+y.al+1)) (XL free x y a c e hl0 (pd++ps)) l->
   K .a [some (.o 12),some (cg c a x y 1),some (.r (aa e)),some (.r (aa held)),some (.w free),some (.o (j+14)),o,o7] (st z' L'))->
  gm (λx ρ k σ=>bQ (fQ (.a 6) x ρ σ) λρ σ=>aM (ai (N+6)) Am ρ k σ) none (aa ps) [some (.o 12),some (cg c a x y 1),some (.r (aa e)),some (.r (aa held)),some (.w free),some (.o (j+14)),o,o7] K (st z L):=by
 induction ps with
 |nil=>
  intro z L out o val m b pd g hm hb kI hB ho hr q;refine(q z out L o (g.mono ("~W<<tbm^G" hm)) hB ho ⟨hr.d,by have:=hr.f;exact "~W17ZM0Ax" this,λT hT u=>?_,by rw[b9];exact hr.c⟩:_);rw[ji,b9];exact hr.a T hT u
 |cons p ps ih=>
  intro z L out o val m b pd g hm hb kI hB ho hr q;rw[bI,kY]at hm hb;have hsz:=g.f;obtain⟨kp,np,T9⟩:=kh.one h2 (kI p br);have pH:Kl (eP free c e p):=by unfold eP;split;exact kp;exact ke
  have one:ar (ai (N+6) 66 [.o 12,cg c a x y 1,.r (aa (eP free c e p)),.r (aa [p]),.w free] (st z L)) (λv σ=>bm (cm .b (.o (j+14)) [v] σ) λQ σ=>gm (λx ρ k σ=>bQ (fQ (.a 6) x ρ σ) λρ σ=>aM (ai (N+6)) Am ρ k σ) none (aa ps) [some (.o 12),some (cg c a x y 1),some (.r (aa e)),some (.r (aa held)),some (.w free),some (.o (j+14)),some (.j p),o7] K σ):=by
   refine HF S ha g.e ("~=PsVDGjmNHYkHYZ=Uv0T" hm hsz room) pH kp np (.inr ⟨rfl,p,rfl⟩) λz1 l1 L1 g1 p1 a1=>?_;have h1:=a1.f;have h3:=hr.f;refine y5 (aC ho p1) ("~8gVissLA=OR|?ZhedD^RNa5w" h1 h3 hb) ?_;have T':=aT (o':=.a (aa (out++l1))) (aC ho p1);refine ih (out:=out++l1) (val:=λT=>val T++ci T 1 [p] (ax a (eP free c e p)) (aW T free x (eP free c e p)) (aW T free y (eP free c e p)) (wS T free x (eP free c e p)) (wS T free y (eP free c e p))) (b:=b+(x.al+y.al+1)) (pd:=pd++[p]) (g.trans g1) ("~L4XyuJFDLlZB" hm) ("~>5I76uvKlN2=_|sxpG6|" hb) (λx H=>kI x (b5 _ H)) (bE (hB.trans p1) hj) T' ⟨λx H=>(aZ.mp H).elim (λh=>(hr.d x h).gr g1.d) (a1.d x),by rw[b_];exact "~3NSeVQlkSU>BGOqCke9" h1 h3,λT hT u=>?_,λh f1 f2 f3 E f5 w f7 f8=>?_⟩ λz' l L' o g' p' o' r'=>q z' l L' o g' p' o' ⟨r'.d,by have:=r'.f;rw[bI,kY];exact "~3T=s;wWBV6Zk7P>Wvjf" this,λT hT u=>?_,by have:=r'.c;rw[c6]at this;exact this⟩
   .show val T++_=_
    rw[hr.a T (g1.d.trans hT) u,a1.a T hT u]
   .have HG:27∉[p]:=λq=>f3 (by rw[aB]at q;rw[q];exact kI p br)
    have ne:Ne (eP free c e p):=by unfold eP;split;exact⟨HG,by simp⟩;exact f2
    obtain⟨u1,v1⟩:=hr.c h f1 f2 f3 E f5 w f7 f8;obtain⟨w2,v2⟩:=a1.c h f1 ne HG E f5 w f7 f8;have w1:=u1.gr g1.d;rw[ab T9,tM]at w2;refine⟨⟨?_,λp J=>(aZ.mp J).elim (w1.2 p) (w2.2 p)⟩,λI ny hN fI z2 T k g G p2 SS U=>?_⟩
    .rw[nq,b_,show[p].length=1 from rfl,kY]
     have t1:=w1.1;have t2:=w2.1;exact "~KUoXt;JxMNP8" t1 t2
    .have ta:=kI p br
     have sg:=T6 kh h2 p ta;rw[f1]at v2;obtain⟨s1,s2⟩:=v1 I ny hN fI z2 T k g G (g1.d.trans p2) SS U;have T_:CQ (eP true c e p) [p] 1 a x y:=λq9=>by
      rw[aB]at q9;obtain⟨q1,Y⟩:=hN (q9▸ta);refine⟨q1,λQ=>?_⟩;rw[Y,<-q9];rfl
     have Ua:sX (eP true c e p) a x y:=by
      induction c using aX with
      |none=>
       by_cases q:p=28
       .exact .inr (hN (q▸ta)).1
       .exact .inl λY=>q (aB.mp Y).symm
      |some lc=>exact fI
     obtain⟨s3,s4⟩:=v2 I ny T_ Ua z2 T k g G p2 SS U;rw[qv,qv];refine⟨λr t f=>vV (s1 r t f) (s3 r t ?_),λqq=>?_⟩
     .induction c using aX with
      |none=>exact T7 sg|some lc=>exact f
     .rw[<-gx,s2 qq,gx,<-eD,s4 (qq.imp id λq3=>⟨by
       induction c using aX with
       |none=>exact λY=>q3.2.1 (aB.mp Y▸ta)|some lc=>exact q3.1,λY=>q3.2.1 (aB.mp Y▸ta),q3.2.2⟩),eD,dJ,ji,b9]
   .rw[dJ,<-c6];exact r'.a T hT u
  show aM (ai (N+6)) Am [some (.o 12),some (cg c a x y 1),some (.r (aa e)),some (.r (aa held)),some (.w free),some (.o (j+14)),some (.j p),o7] _ (st z L);clear ih q hr S pH np kp
  induction free using aS with
  |true=>
   induction c using aX with
   |none=>
    refine ag (ec .b ho (.inr (.inl rfl))) ?_;exact one
   |some l=>
    refine ag (ec .b ho (.inr (.inl rfl))) ?_;exact one
  |false=>
   refine ag (ec .b ho (.inr (.inl rfl))) ?_;exact one
end
section
variable{C:CT}{z:Z}{L:List O}{n t i N h d:Nat}{Q:V->St->Prop}{l ls lt S A e held:List Nat}{σ:St}{c a:Option (List Nat)}{x y s:Sd}{free:Bool}
def Ub:dc .a (.r (aa l)) (.r []) σ=some (.w (decide (l=[])),σ):=by
 have e:fA (aa l) []=decide (l=[]):=by induction l <;>rfl
 refine dX (show bq _ (some (fA (aa l) []))=some (decide (l=[]))from dW ?_ (aE some e));show(V.eU (aa l)&&true&&true)=true;rw[rT];rfl
def Uc(S0:nL x y free N)(S1:nL x y free (N+1))(kc:Ko c)(ha:Ko a)(Y:d<=1)(I:am z)(Ud:z.sz+(Sd.q c a x y d).ac < 4194304)(ke:Kl e)
  (q0:∀z' l L',Gr (Sd.q c a x y d).ac z z'->L <+:L'->iu z' (λT=>aW T free (.q c a x y d) e) (Sd.q c a x y d).al (XB free (.q c a x y d) e) l->Q (.r (aa l)) (st z' L')):
  ar (ai (N+7) 66 [.o 12,cg c a x y d,.r (aa e),.r (aa (ax c e)),.w free] (st z L)) Q:=by
 have Ue:=S0.b;have Uf:=S0.a;have kh:=kc.op ke;have room:z.sz+6*qc x y < 4194304:=Ud;have q:∀z' l L',Gr (6*qc x y) z z'->L <+:L'->iu z' (λT=>aW T free (.q c a x y d) e) (6*(x.al+y.al+1)) (XB free (.q c a x y d) e) l->Q (.r (aa l)) (st z' L'):=q0;have hv:∀T,aW T free (.q c a x y d) e=if ax c e=[13]then[13]else
  if d=1/\ax c e=[]then[]else
  if d=1/\2<=(ax c e).length then(ax c e).flatMap λp=>ci T d [p] (ax a (eP free c e p)) (aW T free x (eP free c e p)) (aW T free y (eP free c e p)) (wS T free x (eP free c e p)) (wS T free y (eP free c e p))
  else ci T d (ax c e) (ax a e) (aW T free x e) (aW T free y e) (wS T free x e) (wS T free y e):=λT=>rfl
 have HH:Ne e->No c->Ne (ax c e):=λh1 h2=>by
  induction c using aX with
  |none=>exact h1|some l=>exact h2 l rfl
 have xb:∀z' l,(∀h,free=true->Ne e->Ne (ax c e)->No a->x.eN->y.eN->x.Le h->y.Le h->iq z' (4*4 ^ h) (h+1) l/\(fF c->x.Nt->y.Nt->nH e (.q c a x y d)->nG (.q c a x y d) e z' l (h+1)))->XB free (.q c a x y d) e z' l:=λz' l k h f1 f2 v E=>by
  induction h using dK with
  |zero=>exact(show False from E).elim|succ h=>
   obtain⟨k1,k2⟩:=k h f1 f2 (HH f2 v.1) v.2.1 v.2.2.1 v.2.2.2 E.1 E.2;rw[xn,Cb (4 ^ h)];exact⟨k1,λnt=>k2 nt.1 nt.2.1 nt.2.2⟩
 clear HH;generalize hH:ax c e=held at kh hv xb;have HI:fF c->28∈held->c=none:=λh1 h2=>by
  induction c using aX with
  |none=>rfl|some l=>rw[<-hH]at h2;exact absurd h2 (h1 l rfl)
 have cN:fF c->nH e (.q c a x y d)->28∈held->(fF a/\x.dx/\y.dx)/\c=none:=λh1 h2 h3=>by
  have h4:=HI h1 h3;refine⟨?_,h4⟩;rw[<-hH,h4]at h3;rcases h2 with h2 |h2
  .exact absurd h3 h2
  .exact h2.2
 have cC:nH e (.q c a x y d)->sX e a x y:=λh=>h.imp id λh=>h.2;have ei:(Sd.q c a x y d).ir->pF a x y:=λh=>h.2;have cE:28∉e/\(Sd.q c a x y d).dx->28∉e/\28∉held/\fF a/\x.dx/\y.dx:=λh=>⟨h.1,λq=>by
  have h4:=HI h.2.1 q;rw[<-hH,h4]at q;exact h.1 q,h.2.2⟩
 generalize f:(λT=>aW T free (.q c a x y d) e)=val at q;have tb:∀T,val T=aW T free (.q c a x y d) e:=λT=>by rw[<-f]
 have hv:=λT=>(tb T).trans (hv T);clear tb;by_cases ip:held=[13]
 .refine az (ρ:=[some (.o 12),some (cg c a x y d),some (.r (aa e)),some (.r (aa held)),some (.w free),none,none,none]) rfl ?_
  subst ip;refine q z [13] L ((Gr.refl I).mono (bb _)) (aA _) ⟨λp J=>by rw[aB]at J;subst J;exact nd I (by decide),by show 1<=_;exact "~8FR6obgCluT" id,λT hT hn=>by rw[hv,ah rfl],xb z _ λh C C C C C C C C=>⟨Hy,λH nx ny jK z2 T k g G p S U=>⟨λcG t ht=>?_,λC=>?_⟩⟩⟩
  .rw[wb S]
   induction c using aX with
   |none=>intro u hu _;rw[aB]at hu;rw[hu];exact ht 13 (by rw[show e=[13]from hH];simp) (.inr (.inl rfl))|some lc=>exact absurd (aE some (show lc=[13]from hH)) cG.1
  .rw[wb S]
   show _=ae (aW T true (.q (df G c) (df G a) (bu G x) (bu G y) d) (aQ G e));rw[vX,nE,hH,ah (gb (by decide))]
 by_cases h0:d=0\/d=1/\∃p,held=[p]
 .refine HF S1 ha I ("~Lmlmdkmh=D5c" room) ke kh ip h0 λz' l L' g p r=>q z' l L' (g.mono ("~<tAoAuS" id)) p ⟨r.d,by have:=r.f;exact "~4sj|e1IaHyguvMl" this,λT hT hn=>?_,xb _ _ λh f1 f2 v E f5 f6 f7 f8=>?_⟩
  rotate_left
  .obtain⟨w,An⟩:=r.c h f1 f2 v.1 E f5 f6 f7 f8
   refine⟨⟨aL w.1 (fM _ (by split <;>decide)),w.2⟩,λH nx ny jK z2 T k g G p2 S U=>?_⟩;have cq:CQ e held d a x y:=λh3=>by
    obtain⟨h4,h5⟩:=cN H jK h3;refine⟨h4,λh6=>?_⟩;rcases h0 with h0 |⟨_,p,h0⟩
    .lia
    .rw[h0,aB]at h3
     rw[h5]at hH;rw[h3,<-h0];exact hH
   obtain⟨s1,s2⟩:=An nx ny cq (cC jK) z2 T k g G p2 S ("~6zc7iZhiDAR" U);refine⟨λcG=>s1 (ei cG),λq=>(s2 (q.imp ei cE)).trans ?_⟩;rcases h0 with h0 |⟨h1,p,h0⟩
   .subst h0
    rw[<-hH];rw[TQ S (hH▸kh) (hH▸ip)]
   .subst h1
    rw[<-Af S (hH▸kh) (hH▸ip) (hH▸cN H jK),hH,h0,dJ,ji,b9,Hv (hH.trans h0)]
  have H:¬ (d=1/\held=[]):=by rintro⟨h1,h2⟩;rcases h0 with h |⟨_,p,h⟩;lia;rw[h2]at h;cases h
  have n2:¬ (d=1/\2<=held.length):=by rintro⟨h1,h2⟩;rcases h0 with h |⟨_,p,h⟩;lia;rw[h]at h2;simp at h2
  rw[hv,ab ip,ab H,ab n2];exact r.a T hT hn
 obtain rfl:d=1:=by lia
 refine az (ρ:=[some (.o 12),some (cg c a x y 1),some (.r (aa e)),some (.r (aa held)),some (.w free),none,none,none]) rfl ?_;refine ag (sZ (k:=13)) ?_;rw[cc ip]
 induction held using bo with
 |nil=>
  exact q z [] L ((Gr.refl I).mono (bb _)) (aA _) ⟨λp J=>(nomatch J),bb _,λT hT hn=>by rw[hv,ab ip,ah ⟨rfl,rfl⟩],xb _ _ λh C C C C C C C C=>⟨⟨bb _,λp J=>(nomatch J)⟩,λH nx ny jK z2 T k g G p S U=>⟨λC t C u hu=>(nomatch hu),λC=>by rw[<-Af S (hH▸kh) (hH▸ip) (hH▸cN H jK),hH];rfl⟩⟩⟩
 |cons p r0=>
 induction r0 using bo with
 |nil=>exact absurd (.inr ⟨rfl,p,rfl⟩) h0|cons p2 r=>
  have hlen:=kh.2.1;have hb:=l0 (σ:=st z L) (l:=aa (p::p2::r)) (by rw[cI];exact "~W8qSN|Tl" hlen);rw[cI]at hb;refine ag Ub ?_;refine aP hb ?_;refine bT (b4 (show(1:Int) < ((p::p2::r).length:Int)by simp only[bI];exact "~6xA0gxsQYGn?_" id)) ?_;refine bY ?_;refine ag ((hZ (z:=z) (L:=L++[.a []]) (ts:=p::p2::r) ("~W8qSN|Tl" hlen)).a _ (aA _)) ?_;have hm:(p::p2::r).length*qc x y<=6*qc x y:=fM _ hlen;have i3:(p::p2::r).length*(x.al+y.al+1)<=6*(x.al+y.al+1):=fM _ hlen;refine T8 (c:=c) (j:=L.length) (B:=L) (z0:=z) (M:=6*qc x y) (hl0:=p::p2::r) (out:=[]) (val:=λC=>[]) (m:=0) (b:=0) (pd:=[]) S0 ha ke (av _) kh (by simp) ("~1MyFftI24=Nr?2" room) (Gr.refl I) ("~1b?|zs6pyBJi" hm) ("~1O4FXJFe|rZ>y|B_NIjTcaDy9DARY" i3 Ue Uf) (λC h=>h) bp bk ⟨λp J=>(nomatch J),bb _,λT hT hn=>rfl,λh C C C C C C C C=>⟨⟨bb _,λp J=>(nomatch J)⟩,λC C C C z2 T k g G p S U=>⟨λC t C u hu=>(nomatch hu),λC=>rfl⟩⟩⟩ λz' l L' o g pB ho r'=>?_;refine f0 ho ?_;refine q z' l _ g (bE pB (av _)) ⟨r'.d,by have:=r'.f;exact "~2r;NCN0CDGjq13?Jnhs2w" i3 this,λT hT hn=>?_,xb _ _ λh f1 f2 v E f5 f6 f7 f8=>?_⟩
  rotate_left
  .obtain⟨w,An⟩:=r'.c h f1 f2 v.1 E f5 f6 f7 f8
   refine⟨⟨aL w.1 (fM _ v.2),w.2⟩,λH nx ny jK z2 T k g G p2 S U=>?_⟩;obtain⟨s1,s2⟩:=An nx ny (cN H jK) (cC jK) z2 T k g G p2 S ("~6zc7iZhiDAR" U);refine⟨λcG=>s1 (ei cG),λq=>(s2 (q.imp ei cE)).trans ?_⟩;rw[<-Af S (hH▸kh) (hH▸ip) (hH▸cN H jK),hH];rfl
  have:=r'.a T hT hn;rw[dh]at this;rw[hv,ab ip,ab (by rintro⟨_,h⟩;cases h),ah ⟨rfl,by simp⟩];exact this
def Ug(S0:nL x y free N)(w:nL x y free (N+1))(U:Ko c)(T:Ko a)(Y:d<=1):pG c a x y d free (N+8):=by
 intro z L Q e I room J q;refine az (ρ:=[some (.o 12),some (cg c a x y d),some (.r (aa e)),some (.w free),none]) rfl ?_;have G:=Uc (L:=L) (Q:=λx σ=>oD x Q σ) S0 w U T Y I room J q
 induction c using aX with
 |none=>exact G|some l=>exact G
abbrev Sd.AF:Sd->Nat
 |.q _ _ x y _=>Nat.max x.AF y.AF+x.hf+y.hf+12|.T=>4|.k _=>4|.b _=>4
def HJ:∀{N:Nat},s.Ok->s.al < 300000->s.AF<=N->sY s free N/\∀c a x y d,s=.q c a x y d->pG c a x y d free N:=by
 induction s with
 |T=>
  intro N ok B Y;obtain⟨n,rfl⟩:=eV (aL (by decide:1<=4) (show 4<=N from Y));exact⟨λz L Q e I room G q=>Ag G nv (.u "T") e (.inl ⟨rfl,rfl⟩) λL' p=>q z e L' (Gr.refl I) p ⟨G.part I,aL G.2.1 (by decide:6<=12),λT m u=>rfl,λh f1 f2 v E=>⟨⟨by rw[kE (G.aD)];exact bb _,λp J=>.inl ⟨(G.aD) p J,λe=>f2.1 (e▸J)⟩⟩,λnt C=>Ab (s:=.T) G trivial rfl (λT=>rfl) nt⟩⟩,λc a x y d h=>b6 (aE Sd.nu h)⟩
 |k l=>
  intro N ok B Y;obtain⟨n,rfl⟩:=eV (aL (by decide:1<=4) (show 4<=N from Y));have ok:Kl l:=ok;exact⟨λz L Q e I room G q=>Ag G ok (.u "k") l (.inr (.inl ⟨rfl,rfl⟩)) λL' p=>q z l L' (Gr.refl I) p ⟨ok.part I,aL ok.2.1 (by decide:6<=12),λT m u=>rfl,λh f1 f2 v E=>⟨⟨by rw[kE (Kl.aD ok)];exact bb _,λp J=>.inl ⟨(Kl.aD ok) p J,λe=>v (e▸J)⟩⟩,λnt C=>Ab (s:=.k l) G ok rfl (λT=>rfl) nt⟩⟩,λc a x y d h=>b6 (aE Sd.nu h)⟩
 |b l=>
  intro N ok B Y;obtain⟨n,rfl⟩:=eV (aL (by decide:1<=4) (show 4<=N from Y));have ok:Kl l:=ok;exact⟨λz L Q e I room G q=>Ag G ok (.u "|") (e++l) (.inr (.inr ⟨rfl,rfl⟩)) λL' p=>q z (e++l) L' (Gr.refl I) p ⟨λx H=>(aZ.mp H).elim (G.part I x) (ok.part I x),by rw[b_];exact Nat.add_le_add G.2.1 ok.2.1,λT m u=>rfl,λh f1 f2 v E=>⟨⟨by rw[kE (λx H=>(aZ.mp H).elim (G.aD x) (Kl.aD ok x))];exact bb _,λp J=>.inl ⟨(λx H=>(aZ.mp H).elim (G.aD x) (Kl.aD ok x)) p J,λe=>(aZ.mp (e▸J:27∈_)).elim f2.1 v⟩⟩,λnt C=>Ab (s:=.b l) G ok rfl (λT=>rfl) nt⟩⟩,λc a x y d h=>b6 (aE Sd.nu h)⟩
 |q c a x y d w U=>
  intro N ok B Y;have Y:Nat.max x.AF y.AF+x.hf+y.hf+12<=N:=Y;have B:6*(x.al+y.al+1) < 300000:=B;have o:x.AF<=Nat.max x.AF y.AF:=Nat.le_max_left _ _;have r:y.AF<=Nat.max x.AF y.AF:=Nat.le_max_right _ _;generalize Nat.max x.AF y.AF=f at o r Y;have g:∀N,f+x.hf+y.hf<=N->nL x y free N:=λN Y=>by
   have h1:∀N,x.AF<=N->_:=λN Y=>w (N:=N) ok.2.2.1 (by lia) Y;have h2:∀N,y.AF<=N->_:=λN Y=>U (N:=N) ok.2.2.2.1 (by lia) Y;exact⟨(h1 (N+5) (by lia)).1,(h2 (N+5) (by lia)).1,⟨py ok.2.2.1 (by lia),(h1 (N+4) (by lia)).2⟩,⟨py ok.2.2.2.1 (by lia),(h2 (N+4) (by lia)).2⟩,ok.2.2.1,ok.2.2.2.1,by lia,by lia⟩
  have j:∀N,f+x.hf+y.hf+8<=N->pG c a x y d free N:=λN Y=>by
   obtain⟨n,rfl⟩:=eV (k:=8) (N:=N) (by lia);exact Ug (g n (by lia)) (g (n+1) (by lia)) ok.1 ok.2.1 ok.2.2.2.2
  refine⟨λz L Q e I room G q=>?_,λc a x y d h=>by cases h;exact j N (by lia)⟩;obtain⟨n,rfl⟩:=eV (k:=1) (N:=N) (by lia);show ar (ai (n+1) 67 [.o 12,.p [.u "q",cg c a x y d],.r (aa e),.w free] (st z L)) Q;refine az (ρ:=[some (.o 12),some (.p [.u "q",cg c a x y d]),some (.r (aa e)),some (.w free),none,none]) rfl ?_;exact j n (by lia) z L _ e I room G q
end
section
variable{C:CT}{z:Z}{L:List O}{n t i N h d:Nat}{Q:V->St->Prop}{l ls lt S A e held g:List Nat}{σ:St}{c a:Option (List Nat)}{x y s:Sd}{free:Bool}
abbrev Kg(g:List Nat):Prop:=g.length<=6/\∀x∈g,x∈aD
def Kl.kg(h:Kl l):Kg l:=⟨h.2.1,h.aD⟩
def Kg.part(I:am z)(h:Kg l):∀x∈l,b3 z x:=λx H=>(eG I (h.2 x H)).d x br
theorem wc:∀l:List Nat,(l.map λt:Nat=>V.j t)=aa l
 |[]=>rfl|a::l=>by rw[eR,wc l];rfl
def HK(I:am z)(hz:z.a.length < 4194304)(T:Kl l)(kg:Kg g)(q:∀L',L <+:L'->Q (.r (aa (aQ g l))) (st z L')):ar (ai (n+3) 69 [.o 12,.r (aa l),.r (aa g)] (st z L)) Q:=by
 have h1:=T.2.1;have h2:=kg.1;refine az (ρ:=[some (.o 12),some (.r (aa l)),some (.r (aa g)),none]) rfl ?_;unfold aQ at q;refine ag (Fg (b:=true) (l:=l) rfl) ?_;have Y:decide (∃k∈l,(k:Int)=28)=l.contains 28:=h_ (x:=28);rw[Y];by_cases h:28∈l
 .rw[ah h]at q
  rw[bj.mpr h];refine ag ((hZ (z:=z) (L:=L) (ts:=l) ("~W8qSN|Tl" h1)).a _ (aA _)) ?_;refine y8 (g:=λt=>t !=28) (f:=λt=>.j t) (conds:=[.n .c (.d 3) (.h (.d 0) (.u "q"))]) (e:=.d 3) (ρ:=[some (.o 12),some (.r (aa l)),some (.r (aa g)),none]) (sl:=3) ("~W8qSN|Tl" h1) (λp J L1 G U=>?_) (λp J C L1 G U=>U L1 (aA _)) λL1 p1=>?_
  .have:=U L1 (aA _)
   by_cases e:p=28
   .subst e
    exact this
   .rw[show(p !=28)=true by simpa using e]at this
    refine bT (b:=!ca (.j p) (.j 28)) (by rw[vF (show(p:Int)≠28 from "~CnlVAT;9TwK|ytqx" e)];rfl) ?_;exact this
  .rw[wc]
   have hf:(l.filter λt=>t !=28).length<=l.length:=jR _ _;refine ag (jH ("~17tj8h>IzeEFJpPb" h1 h2 hf)) ?_;refine sR (n:=n) I hz (λx H=>?_) (by rw[b_];exact "~mOQMS3euR8E2KrF^iSO" h1 h2 hf) λL2 p2=>q L2 (p1.trans p2);exact(aZ.mp H).elim (λh=>T.part I x (c7.mp h).1) (kg.part I x)
 .rw[ab h]at q
  rw[el.mpr λe=>h (bj.mp e)];exact q L (aA _)
abbrev Sd.wf:Sd->Nat
 |.q _ _ x y _=>x.wf+y.wf+4|.T=>4|.k _=>4|.b _=>4
abbrev Uh:List CS:=[.k (.w .a (.d 3) [.t [.d 4,.C (.n .a (.d 4) (.u "q")) (.j 70 [.d 0,.d 5,.d 2]) (.j 69 [.d 0,.d 5,.d 2])]])]
abbrev tc(s:Sd)(g:List Nat)(N:Nat):Prop:=∀c a x y d,s=.q c a x y d->∀(z:Z) (L:List O) (Q:V->St->Prop),am z->z.a.length < 4194304->(∀L',L <+:L'->Q (cg (df g c) (df g a) (bu g x) (bu g y) d) (st z L'))->ar (ai N 70 [.o 12,cg c a x y d,.r (aa g)] (st z L)) Q
abbrev wd:Sd->V
 |.T=>.r []|.k l=>.r (aa l)|.b l=>.r (aa l)|.q c a x y d=>cg c a x y d
abbrev we:Sd->String
 |.T=> "T"|.k _=> "k"|.b _=> "|"
 |.q ..=> "q"
theorem wg:∀s,dw s=.p [.u (we s),wd s]
 |.T=>rfl|.k _=>rfl|.b _=>rfl|.q ..=>rfl
def wi(ok:s.Ok)(kg:Kg g)(G:tc s g (N+3))(I:am z)(hz:z.a.length < 4194304)(o:B <+:L)(f:B.length<=j)(ho:L[j]?=some (.a out))(Y:out.length < 4194304)
  (q:∀L',B <+:L'->L'[j]?=some (.a (out++[dw (bu g s)]))->K .a [some (.o 12),J,some (.r (aa g)),some (.o (j+14)),some (.u (we s)),some (wd s)] (st z L')):
  aM (ai (N+3)) Uh [some (.o 12),J,some (.r (aa g)),some (.o (j+14)),some (.u (we s)),some (wd s)] K (st z L):=by
 have U:∀l t,Kl l->(dw (bu g s)=.p [.u t,.r (aa (aQ g l))])->we s=t->wd s=.r (aa l)->ar (ai (N+3) 69 [.o 12,.r (aa l),.r (aa g)] (st z L)) λv σ=>bm (cm .a (.o (j+14)) [.p [.u t,v]] σ) λQ σ=>K .a [some (.o 12),J,some (.r (aa g)),some (.o (j+14)),some (.u t),some (.r (aa l))] σ:=λl t E e1 w H=>by
  refine HK (n:=N) I hz E kg λL1 p1=>?_;refine eb (aC ho p1) Y ?_;rw[<-e1];have:=q _ (bE (o.trans p1) f) (aT (aC ho p1));rw[w,H]at this;exact this
 induction s using Mine.Lake.Sd.casesOn with
 |T=>
  refine ag (ec .a ho (.inl rfl)) ?_;exact U [] "T" nv rfl rfl rfl
 |k l=>
  refine ag (ec .a ho (.inl rfl)) ?_;exact U l "k" ok rfl rfl rfl
 |b l=>
  refine ag (ec .a ho (.inl rfl)) ?_;exact U l "|" ok rfl rfl rfl
 |q c a x y d=>
  refine ag (ec .a ho (.inl rfl)) ?_;refine G c a x y d rfl z L _ I hz λL1 p1=>?_;refine eb (aC ho p1) Y ?_;exact q _ (bE (o.trans p1) f) (aT (aC ho p1))
def HL(h:Ko c):(oS c).Ok:=by
 induction c using aX with
 |none=>exact trivial|some l=>exact h l rfl
theorem HN:∀c,bu g (oS c)=oS (df g c) |none=>rfl |some _=>rfl
theorem Ao(kg:Kg g):∀{s:Sd} {N:Nat},s.Ok->s.wf<=N->tc s g N
 |.T,N,ok,Y=>λc a x y d h=>b6 (aE Sd.nu h)
 |.k l,N,ok,Y=>λc a x y d h=>b6 (aE Sd.nu h)
 |.b l,N,ok,Y=>λc a x y d h=>b6 (aE Sd.nu h)
 |.q c a x y d,N,ok,Y=>λc' p x' o d' h z L Q I hz q=>by
  cases h;have Y:x.wf+y.wf+4<=N:=Y;obtain⟨n,rfl⟩:=eV (k:=4) (N:=N) (by lia);have H:tc x g (n+3):=Ao kg ok.2.2.1 (by lia);have v:tc y g (n+3):=Ao kg ok.2.2.2.1 (by lia);have ho:∀c,tc (oS c) g (n+3):=λc=>by induction c <;>exact λc a x y d h=>b6 (aE Sd.nu h)
  refine az (ρ:=[some (.o 12),some (cg c a x y d),some (.r (aa g)),none,none,none]) rfl ?_;unfold cg;refine bY ?_;rw[nw c,wg (oS c)];refine wi (j:=L.length) (B:=L) (N:=n) (HL ok.1) kg (ho c) I hz bp (av _) bk (bP rfl) λL1 p1 J=>?_;rw[HN]at J;rw[nw a,wg (oS a)];refine wi (j:=L.length) (B:=L) (N:=n) (HL ok.2.1) kg (ho a) I hz p1 (av _) J (bP rfl) λL2 p2 G=>?_;rw[HN]at G;rw[wg x];refine wi (j:=L.length) (B:=L) (N:=n) ok.2.2.1 kg H I hz p2 (av _) G (bP rfl) λE w u=>?_;rw[wg y];refine wi (j:=L.length) (B:=L) (N:=n) ok.2.2.2.1 kg v I hz w (av _) u (bP rfl) λm T r=>?_;have U:bt (st z m) (.o (L.length+14))=some (true,[dw (oS (df g c)),dw (oS (df g a)),dw (bu g x),dw (bu g y)]):=iV r;refine ag (gn (t:=0) U (bP rfl) rfl) ?_;refine ag (gn (t:=1) U (bP rfl) rfl) ?_;refine ag (gn (t:=2) U (bP rfl) rfl) ?_;refine ag (gn (t:=3) U (bP rfl) rfl) ?_;rw[<-nw,<-nw];exact q m T
end
section
variable{z:Z}{t i N h d:Nat}{l ls lt S A e held:List Nat}{c a:Option (List Nat)}{x y s:Sd}{T:Tb}{m:Mp}
def HO(I:am z)(p:z.a <+:T)(u:T.Nodup)(Y:Kl e):∀{h r:Nat},s.Ok->s.Le h->d8 z s e r->ae (aK h T none r)=ae (aW T false s e):=by
 induction s with
 |T=>intro h r ok le C;rw[zV I (Y.at C) p];rfl|k l=>intro h r ok le C;rw[zV I (Kl.at ok C) p];rfl|b l=>
  intro h r ok le C;have j:At z r (ae (e++l)):=⟨C,eE _,λx H=>(aZ.mp (ct H)).elim (Y.aD x) (Kl.aD ok x)⟩;rw[zV I j p,eE];rfl
 |q c a x y d Q U=>
  intro h r ok le C
  induction h using dK with
  |zero=>exact(show False from le).elim|succ h=>
  obtain⟨rc,ra,rx,ry,h1,h2,h3,h4,h5⟩:=C;rw[lV I h1 p];have o:=(ok.1.op Y).at h2;have G:=(ok.2.1.op Y).at h3;have H:=Q ok.2.2.1 le.1 h4;have v:=U ok.2.2.2.1 le.2 h5;have n:=ok.1.op Y;unfold cJ;show ae (if rc=13 then[13]else if d=1/\rc=2 then[]else if d=1/\2<=(bi T rc).length then(bi T rc).flatMap λp=>cz T (aK h T) none p ra rx ry d else cz T (aK h T) none rc ra rx ry d)=ae (if ax c e=[13]then[13]else if d=1/\ax c e=[]then[]else if d=1/\2<=(ax c e).length then(ax c e).flatMap λp=>ci T d [p] (ax a e) (aW T false x e) (aW T false y e) (eg T x e) (eg T y e)else ci T d (ax c e) (ax a e) (aW T false x e) (aW T false y e) (eg T x e) (eg T y e));rw[o.c.bR I p];by_cases w:ax c e=[13]
  .rw[ah ((fE I (.inr (.inr rfl)) o).mpr w),ah w]
  rw[ab λq=>w ((fE I (.inr (.inr rfl)) o).mp q),ab w];by_cases h0:d=1/\ax c e=[]
  .rw[ah ⟨h0.1,(nz I o).mpr h0.2⟩,ah h0]
  rw[ab λq=>h0 ⟨q.1,(nz I o).mp q.2⟩,ab h0];by_cases h2:d=1/\2<=(ax c e).length
  .rw[ah h2,ah h2,<-pc,<-pc (λp=>ci T d [p] _ _ _ _ _)]
   congr 1
   refine i5 λq L=>?_;have f:At z q [q]:=⟨eG I (n.aD q L),cW,λx H=>by rw[aB]at H;subst H;exact n.aD _ L⟩;exact vO I p u f rfl G H v (h4.eg p u).symm (h5.eg p u).symm
  .rw[ab h2,ab h2]
   exact vO I p u o rfl G H v (h4.eg p u).symm (h5.eg p u).symm
end
section
variable{z:Z}{t i N h d:Nat}{l ls lt S A e held:List Nat}{c a:Option (List Nat)}{x y s:Sd}{T:Tb}{m:Mp}
def HP{y:Nat}:aY (27::l) y=aY l y:=by
 unfold aY;have Y:(27::l).contains 16=l.contains 16:=by simp
 rcases kz y with h |h |h
 .rw[h,Y];rfl
 .rw[h,Y,show(27::l).contains 6=l.contains 6 by simp]
 .rw[h,Y,show(27::l).contains 7=l.contains 7 by simp]
def Ui(Y:∀x∈l,x∈cf):ae ((ae ([27]++l)).flatMap λp=>if p=27 then e else[p])=ae (e++l):=by
 have U:=s_ Y;have dk:27∉l:=λq=>absurd (Y 27 q) (by decide);have nt:cd ([27]++l):=by
  refine⟨λq=>?_,λq=>?_,λq=>?_⟩ <;>rcases aZ.mp q with q |q
  .simp at q
  .exact U.1 q
  .simp at q
  .exact U.2.1 q
  .simp at q
  .exact U.2.2 q
 rw[<-eD e l];refine rM λx=>?_;rw[fu,aZ];constructor
 .rintro⟨p,J,H⟩
  obtain⟨h1,h2⟩:=(fD nt).mp J
  split at H
  .exact .inl H
  .rename_i Q
   rw[aB]at H;subst H;rcases aZ.mp h1 with q |q
   .rw[aB]at q;exact absurd q Q
   .exact .inr ((fD U).mpr ⟨q,by rw[<-HP];exact h2⟩)
 .rintro(q |q)
  .exact⟨27,(fD nt).mpr ⟨by simp,by unfold aY;rfl⟩,by rw[ah rfl];exact q⟩
  .obtain⟨h1,h2⟩:=(fD U).mp q
   refine⟨x,(fD nt).mpr ⟨jh _ h1,by show aY (27::l) x=false;rw[HP];exact h2⟩,?_⟩;rw[ab λq:x=27=>dk (q▸h1)];simp
def HQ(I:am z)(p:z.a <+:T)(u:T.Nodup)(L:Kl e)(B:At z v e)(Q:Ko c)(f:No c)(C:aO z rc (ae (ax c [27]))):
  ∃dM,db T (some (1,v)) rc=dM/\At z dM (ax c e)/\((c=none/\rc=27)\/(c≠none/\rc≠27)):=by
 have U:ae [27]=[27]:=cW
 induction c using aX with
 |none=>
  have j:At z rc [27]:=⟨U▸C,U,by decide⟩;refine⟨v,?_,B,.inl ⟨rfl,sO I j⟩⟩;show uF T (i4 T (some (1,v)) rc)=v;rw[kD I j B p,vI (pid:=1)];exact pC B p u
 |some l=>
  have j:At z rc l:=Kl.at (Q l rfl) C;have Y:=(f l rfl).1;refine⟨rc,?_,j,.inr ⟨(λq=>(nomatch q)),λq=>?_⟩⟩
  .show uF T (i4 T (some (1,v)) rc)=rc
   rw[kD I j B p,pq (pid:=1) Y];exact pC j p u
  .subst q
   have:aO z 27 [27]:=eG I (by decide);rw[j.c.fun I this]at Y;exact Y (by simp)
def HR(I:am z)(p:z.a <+:T)(u:T.Nodup):∀{h r v:Nat} {e:List Nat},Kl e->At z v e->s.Ok->s.Le h->s.eN->s.Nt->d8 z s [27] r->ae (aK h T (some (1,v)) r)=ae (aW T true s e):=by
 induction s with
 |T=>
  intro h r v e ke B ok le dk nt C;have HS:ae [27]=[27]:=cW;have j:At z r [27]:=⟨HS▸C,HS,by decide⟩;rw[ss I j p,kD I j B p,vI (pid:=1)];rfl
 |k l=>
  intro h r v e ke B ok le dk nt C;have j:At z r l:=Kl.at ok C;rw[ss I j p,kD I j B p,pq (pid:=1) dk];rfl
 |b l=>
  intro h r v e ke B ok le dk nt C;have j:At z r (ae ([27]++l)):=⟨C,eE _,λx H=>(aZ.mp (ct H)).elim (λq=>by rw[aB]at q;subst q;decide) (Kl.aD ok x)⟩;rw[ss I j p,kD I j B p];exact Ui nt
 |q c a x y d ix U=>
  intro h r v e ke B ok le dk nt C
  induction h using dK with
  |zero=>exact(show False from le).elim|succ h=>
  obtain⟨rc,ra,rx,ry,h1,h2,h3,h4,h5⟩:=C;rw[lV I h1 p];obtain⟨dM,eC,o,Y⟩:=HQ I p u ke B ok.1 dk.1 h2;have n:=ok.1.op ke;have one:∀{g v':Nat} {E e':List Nat},Kl e'->At z v' e'->At z g E->ae (cz T (aK h T) (some (1,v')) g ra rx ry d)=ae (ci T d E (ax a e') (aW T true x e') (aW T true y e') (wS T true x e') (wS T true y e')):=λ{g v' E e'} pH f Q=>by
   obtain⟨Hp,eA,G,_⟩:=HQ I p u pH f ok.2.1 dk.2.1 h3;have H:=ix pH f ok.2.2.1 le.1 dk.2.2.1 nt.2.1 h4;have hy:=U pH f ok.2.2.2.1 le.2 dk.2.2.2 nt.2.2 h5;exact vO I p u Q eA G H hy (by rw[vW];exact sU H) (by rw[vW];exact sU hy)
  unfold cJ;show _=ae (if ax c e=[13]then[13]else if d=1/\ax c e=[]then[]else if d=1/\2<=(ax c e).length then(ax c e).flatMap λp=>ci T d [p] (ax a (eP true c e p)) (aW T true x (eP true c e p)) (aW T true y (eP true c e p)) (wS T true x (eP true c e p)) (wS T true y (eP true c e p))else ci T d (ax c e) (ax a e) (aW T true x e) (aW T true y e) (wS T true x e) (wS T true y e));rw[eC,o.c.bR I p];by_cases w:ax c e=[13]
  .rw[ah ((fE I (.inr (.inr rfl)) o).mpr w),ah w]
  rw[ab λq=>w ((fE I (.inr (.inr rfl)) o).mp q),ab w];by_cases h0:d=1/\ax c e=[]
  .rw[ah ⟨h0.1,(nz I o).mpr h0.2⟩,ah h0]
  rw[ab λq=>h0 ⟨q.1,(nz I o).mp q.2⟩,ab h0];by_cases J:d=1/\2<=(ax c e).length
  .rw[ah J,ah J,<-pc,<-pc (λq=>ci T d [q] _ _ _ _ _)]
   congr 1
   refine i5 λq L=>?_;have Ap:=l8 I (n.aD q L);rcases Y with⟨e1,e2⟩ |⟨e1,e2⟩
   .subst e1
    show ae (cz T (aK h T) (if rc=26+1 then some (1,q)else some (1,v)) q ra rx ry d)=_;rw[ah e2];exact one (n.one J.2 L).1 Ap Ap
   .show ae (cz T (aK h T) (if rc=26+1 then some (1,q)else some (1,v)) q ra rx ry d)=_
    rw[ab e2];have:eP true c e q=e:=by
     induction c using aX with
     |none=>exact absurd rfl e1|some l=>rfl
    rw[this];exact one ke B Ap
  .rw[ab J,ab J]
   exact one ke B o
end
section
variable{C:CT}{z:Z}{L:List O}{n t i N h p r c a x y d:Nat}{Q:V->St->Prop}{l lc la:List Nat}{σ:St}{T:Tb}
abbrev bV:Md:=⟨true⟩
def Uj(h:aO z r [p]):r=p:=by
 rcases h.c with⟨e,_⟩ |e |⟨e,_⟩
 .cases e
 .exact(jS e).1.symm
 .simp at e
def HT(s:eZ bV h (N+1))(j:h<=2)(I:am z)(o:At z c lc)(G:At z a la)(U:bV.gy lc d)(H:lU bV z h none d lc la x y)(Y:d<=1)(room:z.sz+bV.rF h<=4190000)(dp:z.b+3*(h+1)<=35)(B:0<=z.b)
  (q:∀z' (r:Nat) l L',Gr (bV.gC (bV.gB h)) z z'->L <+:L'->bG z' (λT=>cJ T (aK h T) none c a x y d) (bV.b (h+1)) r l->Q (.j r) (st z' L')):
  ar (ai (N+3) 53 [.o 10,.p (aV c a x y d)] (st z L)) Q:=by
 refine az (ρ:=[some (.o 10),some (.p (aV c a x y d))]) rfl ?_;refine bY ?_;have hm:(L++[O.b])[L.length]?=some (aI none):=bk;refine vK (N:=N) s j I o G U (λe=>nomatch e) H Y rfl hm room dp B λz' r l L' g p R=>?_;exact q z' r l L' g (bp.trans p) R
def HU(s:eZ bV h (N+1))(j:h<=2)(I:am z)(U:z.a[t]?=some (aV c a x y d))(o:At z c lc)(G:At z a la)(J:bV.gy lc d)(H:lU bV z h none d lc la x y)(Y:d<=1)(room:z.sz+bV.rF h<=4190000)(dp:z.b+3*(h+1)<=35)(B:0<=z.b)
  (q:∀z' (r:Nat) l L',Gr (bV.gC (bV.gB h)) z z'->L <+:L'->bG z' (λT=>cJ T (aK h T) none c a x y d) (bV.b (h+1)) r l->Q (.j r) (st z' L')):
  ar (ai (N+5) 81 [.o 10,.j t] (st z L)) Q:=by
 have hz:z.a.length < 4194304:=Z.bZ (c:=0) ("~18hyZ7qPmvy|A;82" room);refine az (ρ:=[some (.o 10),some (.j t)]) rfl ?_;refine ag (co hz U) ?_;refine az (f:=54) (ρ:=[some (.o 10),some (.p (aV c a x y d))]) rfl ?_;exact HT (N:=N) s j I o G J H Y room dp B q
def Uk(I:am z)(U:z.a <+:T)(u:T.Nodup)(Y:z.a[p]?=some (aV c a x y d))(o:At z c lc)(G:At z a la)(B:d=1->lc.length<=1)
  (j:be lc=true\/be la=true/\lc≠[13]/\(d=1->lc≠[])):cJ T (aK h T) none c a x y d=[p]:=by
 have A:wF T (aK h T) none c a x y d=p:=lR u (cH U Y);have cG:c≠13:=λe=>by
  have:=(fE I (.inr (.inr rfl)) o).mp e;rcases j with h |h
  .rw[this]at h;cases h
  .exact h.2.1 this
 have H:¬ (d=1/\c=2):=λe=>by
  have:=(nz I o).mp e.2;rcases j with h |h
  .rw[this]at h;cases h
  .exact h.2.2 e.1 this
 unfold cJ;show(if c=13 then[13]else if d=1/\c=2 then[]else if d=1/\2<=(bi T c).length then _ else cz T (aK h T) none c a x y d)=_;rw[ab cG,ab H,o.c.bR I U,ab λe=>by have:=B e.1;have:=e.2;lia];unfold cz;rw[o.c.bR I U,A];by_cases ho:be lc=true
 .rw[ah ho]
 rw[ab ho];have J:=(j.resolve_left ho).1;show(if a=13 then[13]else if jv c a lc (bi T a)=3 then[p]else _)=_;have na:a≠13:=λe=>by rw[(fE I (.inr (.inr rfl)) G).mp e]at J;cases J
 rw[ab na,G.c.bR I U];have:jv c a lc la=3:=by unfold jv;rw[ah J]
 rw[ah this]
def Ul(s:eZ bV 0 (N+1))(I:am z)(w:l5 z h p)(room:z.sz+bV.rF 0<=4190000)(dp:z.b+3<=35)(B:0<=z.b)
  (q:∀z' L',Gr (bV.gC (bV.gB 0)) z z'->L <+:L'->Q (.j p) (st z' L')):ar (ai (N+5) 81 [.o 10,.j p] (st z L)) Q:=by
 obtain⟨c,a,x,y,d,lc,la,A,u,o,G,E,J,H,v,Y,j⟩:=w;have E:27∉lc/\(d=1->lc.length<=1):=E;refine HU (N:=N) s (by decide) I A o G (λe=>⟨by have:=E.2 e;lia,λq=>absurd q E.1⟩) (.inl ⟨rfl,E.2,j.imp id λq=>q.1⟩) Y room dp B λz' r l L' g U R=>?_;have e:=R.c z'.a (aA _) g.e.a;rw[show cJ z'.a (aK 0 z'.a) none c a x y d=[p]from Uk I g.d g.e.a A o G E.2 j,cW]at e;have m:=R.a;rw[<-e]at m;rw[Uj m];exact q z' L' g U
def Um(s:eZ bV 0 (N+1))(I:am z)(H:aO z r l)(Y:∀p∈l,p∈aD\/∃h,l5 z h p)(room:z.sz+bV.rF 0<=4190000)(dp:z.b+3<=35)(B:0<=z.b)
  (q:∀z' L',Gr (bV.gC (bV.gB 0)) z z'->L <+:L'->Q (.j r) (st z' L')):ar (ai (N+5) 81 [.o 10,.j r] (st z L)) Q:=by
 have hz:z.a.length < 4194304:=Z.bZ (c:=0) ("~18hyZ7qPmvy|A;82" room);have plain:∀{k:Int} {rest:List V},z.a[r]?=some (.j k::rest)->k≠16->ar (ai (N+5) 81 [.o 10,.j r] (st z L)) Q:=λ{k rest} J U=>
  vr (n:=N+2) I hz J U (q z L ((Gr.refl I).mono (bb _)) (aA _))
 rcases H.c with⟨e,G⟩ |e |⟨e,J⟩
 .subst G;exact plain (jy I) (by decide)
 .rcases Y r (by rw[e];simp)with U |⟨h,w⟩
  .obtain⟨k,rest,J,U⟩:=sq I (l8 I U)
   exact plain J U
  .exact Ul s I w room dp B q
 .exact plain (k:=6) J (by decide)
end
section
variable{z:Z}{L:List O}{n t i N h p r d g:Nat}{Q:V->St->Prop}{e l lc la G:List Nat}{σ:St}{c a:Option (List Nat)}{x y s:Sd}{T:Tb}
abbrev Es(e:List Nat):Prop:=e=[27]\/Ne e
def Es.op(J:Es e)(C:No c):(27∈ax c e->ax c e=[27])/\(ax c e).length<=4:=by
 induction c using aX with
 |none=>
  rcases J with h |h
  .show(27∈e->e=[27])/\e.length<=4
   rw[h];exact⟨λQ=>rfl,by decide⟩
  .exact⟨λq=>absurd q h.1,h.2⟩
 |some l=>exact⟨λq=>absurd q (C l rfl).1,(C l rfl).2⟩
def mb:bV.eF l:=λq=>nomatch (show true=false from q)
def wj(I:am z)(Y:Kl e)(B:Es e):∀{h r:Nat},s.Ok->s.eN->s.Le h->d8 z s e r->Wf bV z h r:=by
 induction s with
 |T=>exact λok dk le C=>kF (Y.at C) mb _|k l=>exact λok dk le C=>kF (Kl.at ok C) mb _|b l=>exact λok dk le C=>kF (l:=ae (e++l)) ⟨C,eE _,λx H=>(aZ.mp (ct H)).elim (Y.aD x) (Kl.aD ok x)⟩ mb _|q c a x y d A U=>
  intro h r ok dk le C
  induction h using dK with
  |zero=>exact(show False from le).elim|succ h=>
  obtain⟨rc,ra,rx,ry,h1,h2,h3,h4,h5⟩:=C;obtain⟨E,J⟩:=lT I h1;have ho:=B.op dk.1;refine⟨[r],fp J,cW,jR _ _,λp J=>?_⟩;rw[aB]at J;subst J;exact .inr ⟨rc,ra,rx,ry,d,ax c e,ax a e,h1,E,(ok.1.op Y).at h2,(ok.2.1.op Y).at h3,λQ=>⟨ho.2,ho.1⟩,mb,A ok.2.2.1 dk.2.2.1 le.1 h4,U ok.2.2.2.1 dk.2.2.2 le.2 h5,ok.2.2.2.2⟩
def wk(I:am z)(C:gq Y):∃z',am z'/\z.a <+:z'.a/\Y∈z'.a:=by
 by_cases h:Y∈z.a
 .exact⟨z,I,aA _,h⟩
 .refine⟨{z with a:=z.a++[Y]},⟨?_,I.f.trans ⟨[Y],rfl⟩,λt r J f=>?_,I.e,I.c,I.b⟩,⟨[Y],rfl⟩,by simp⟩
  .exact BZ.mpr ⟨I.a,by simp,λa E b H e=>by rw[aB]at H;subst H;exact h (e▸E)⟩
  .rcases Nat.lt_or_ge t z.a.length with U |Un
   .rw[show({z with a:=z.a++[Y]}:Z).a=z.a++[Y]from rfl,n7 U]at f
    exact I.d t r J f
   .rw[show({z with a:=z.a++[Y]}:Z).a=z.a++[Y]from rfl,Kf Un]at f
    have:r∈[Y]:=kV f;rw[aB]at this;subst this;exact C
def pI{F:List (List Nat)}:∀{z:Z},am z->∃z',am z'/\z.a <+:z'.a/\∀l∈F,dt l∈z'.a:=by
 induction F with
 |nil=>exact λ{z} I=>⟨z,I,aA _,λl Y=>(dU Y).elim⟩|cons l F ih=>
  intro z I;obtain⟨u,w,p1,h1⟩:=wk I (.e l);obtain⟨z2,U,p2,h2⟩:=ih w;refine⟨z2,U,p1.trans p2,λm hm=>?_⟩;rcases bH.mp hm with e |hm
  .subst e;obtain⟨J,H⟩:=p2;rw[<-H];exact dy _ h1
  .exact h2 m hm
abbrev Aq:Nat->List (List Nat)
 |0=>[[]]|n+1=>[]::aD.flatMap λx=>(Aq n).map (x::·)
def Uo:∀{n:Nat},(∀x∈l,x∈aD)->l.length<=n->l∈Aq n:=by
 induction l with
 |nil=>intro n _ _;induction n <;>exact br|cons x l ih=>
  intro n h Y
  induction n using dK with
  |zero=>exact(Kb _ Y).elim|succ n=>exact b5 _ (fu.mpr ⟨x,h x br,ea.mpr ⟨l,ih (λy v=>h y (b5 _ v)) (BO Y),rfl⟩⟩)
def Up(I:am z)(H:At z g G)(B:∀x∈G,x∈gv)(Y:G.length<=6):∃z2:Z,z.a <+:z2.a/\SC z2 z2.a g G:=by
 obtain⟨z2,C,p,o⟩:=pI (F:=Aq 20) I;refine⟨z2,p,C,aA _,C.a,λl U E=>?_,H.gr p,B,Y⟩;have J:∀x∈ae l,x∈aD:=λx A=>U x (ct A);have parts:∀q∈ae l,b3 z2 q:=λq w=>(eG C (J q w)).d q br;have mk:∀i,gt z2.a i (ae l)->∃i,At z2 i (ae l):=λi v=>⟨i,⟨v,parts,ko⟩,eE _,J⟩;have f:(ae l).length<=20:=by
  induction l using bo with
  |nil=>exact bb _|cons a l=>exact aL (m_ (xm 1 _)) E
 by_cases h2:2<=(ae l).length
 .obtain⟨i,hi⟩:=qr.mp (o _ (Uo (n:=20) J f))
  exact mk i (.inr (.inr ⟨h2,hi⟩))
 .rcases zT h2 with e |e
  .exact mk 2 (.inl ⟨e,rfl⟩)
  .obtain⟨q,e⟩:=e;exact mk q (.inr (.inl e))
end
section
variable{z:Z}{L:List O}{n t i N h p r d g:Nat}{Q:V->St->Prop}{e l lc la G:List Nat}{σ:St}{c a:Option (List Nat)}{x y s:Sd}{T:Tb}
def iu.Uq(q:iu z val b (XB free s e) l)(p:z.a <+:z'.a):iu z' val b (XB free s e) l:=
 ⟨λx H=>(q.d x H).gr p,q.f,λT Y u=>q.a T (p.trans Y) u,λh f1 f2 v E=>let ⟨w,m⟩:=q.c h f1 f2 v E;⟨w.gr p,λnt k=>(m nt k).gr p⟩⟩
def nM:Kl [27]:=⟨cW,by decide,.inr (.inr (.inr λx H=>by rw[aB]at H;exact .inr (.inl H)))⟩
def Ar:dc .c (.j r) (.j r) σ=some (.w false,σ):=by
 show(if V.pure (.j r)&&V.pure (.j r)&&decide (fb (.j r)<=8)then some (V.w (!ca (.j r) (.j r)),σ)else none)=_;rw[vT rfl];rfl
def Au:dc .a (.j r) (.j r) σ=some (.w true,σ):=by
 show(if V.pure (.j r)&&V.pure (.j r)&&decide (fb (.j r)<=8)then some (V.w (ca (.j r) (.j r)),σ)else none)=_;rw[vT rfl];rfl
structure HV(c a:Option (List Nat))(x y:Sd)(d:Nat)(e G:List Nat):Prop where
 r:(Sd.q c a x y d).Ok
 f:(Sd.q c a x y d).eN
 j:(Sd.q c a x y d).Nt
 g:(Sd.q c a x y d).Le 3
 o:nH e (.q c a x y d)
 k:(Sd.q c a x y d).ir\/(28∉e/\(Sd.q c a x y d).dx)
 u:(Sd.q c a x y d).al < 300000
 n:(Sd.q c a x y d).sc<=1000
 w:(Sd.q c a x y d).ac<=100000
 b:Kl e
 h:Ne e
 l:Kl G
 i:∀x∈G,x∈gv
 m:G.length<=2
 p:(bu G (.q c a x y d)).Ok
 t:(bu G (.q c a x y d)).al < 300000
 v:(bu G (.q c a x y d)).ac<=100000
 s:Kl (aQ G e)
def Av(hf:4<=f)(A:∀N,f<=N->pG c a x y d free N)(I:am z)(U:(Sd.q c a x y d).ac<=100000)(w:(Sd.q c a x y d).al < 300000)(room:z.sz<=4000000)(E:Kl e)(Y:f<=N)
  (q:∀z' (r:Nat) l L',Gr 100001 z z'->L <+:L'->aO z' r (ae l)->iu z' (λT=>aW T free (.q c a x y d) e) (Sd.q c a x y d).al (XB free (.q c a x y d) e) l->Q (.j r) (st z' L')):
  ar (ai N 65 [.o 12,cg c a x y d,.r (aa e),.w free] (st z L)) λv σ=>ar (ai N 58 [.o 2,v] σ) Q:=by
 refine A N Y z L _ e I ("~2r9n^XWDOmI|feS287_|u" U room) E λu l L1 J p1 H=>?_;have s1:=J.f;have C:=H.f;obtain⟨n,rfl⟩:=eV (k:=3) (N:=N) ("~6|4tMblKt>J" hf Y);refine i9 (n:=n) J.e ("~Qm|z4F03GX7rDqHC_F7I4QoPY" s1 room U) H.d ("~3N2Yxf9yno>81Zglesa" C w) λz2 r L2 j p2 h2=>?_;exact q z2 r l L2 ((J.trans j).mono ("~?puOkoWzmOlsIdQ9>I" U)) (p1.trans p2) h2 (H.Uq j.d)
end
section
variable{z:Z}{L:List O}{n t i N h p r d g:Nat}{Q:V->St->Prop}{e l lc la G:List Nat}{σ:St}{c a:Option (List Nat)}{x y s:Sd}{T:Tb}
def HW{P:Nat->Prop}(w:P 13)(Y:be held=false)(U:be A=false)(H:∀p∈I,P p)(v:∀p∈d9,P p):∀p∈ci T d held A I d9 E C,P p:=by
 unfold ci;rw[ab (by rw[Y];decide)]
 split
 .intro p J;rw[aB]at J;rw[J];exact w
 .rw[ab (by rw[U];decide)]
  split
  .intro p J;exact(aZ.mp J).elim (H p) (v p)
  .split
   .exact H
   .exact v
def Ur:∀{e:List Nat},Kl e->27∉e->28∉e->s.Ok->s.eN->s.dx->∀p∈aW T true s e,p∈aD/\p≠28:=by
 induction s with
 |T=>
  intro e I h7 h8 ok Y f;exact λp J=>⟨I.aD p J,λq=>h8 (q▸J)⟩
 |k l=>
  intro e I h7 h8 ok Y f;exact λp J=>⟨Kl.aD ok p J,λq=>f (q▸J)⟩
 |b l=>
  intro e I h7 h8 ok Y f;exact λp J=>(aZ.mp J).elim (λJ=>⟨I.aD p J,λq=>h8 (q▸J)⟩) λJ=>⟨Kl.aD ok p J,λq=>f (q▸J)⟩
 |q c a x y d A U=>
  intro e I h7 h8 ok Y f;have op:∀{o:Option (List Nat)} {e:List Nat},27∉e->28∉e->No o->fF o->be (ax o e)=false:=λ{o e} h7 h8 H n2=>by
   induction o using aX with
   |none=>exact l9 h7 h8|some l=>exact l9 (H l rfl).1 (n2 l rfl)
  have C:=op h7 h8 Y.1 f.1;have kh:=ok.1.op I;have u:(13:Nat)∈aD/\(13:Nat)≠28:=by decide
  rw[vX]
  split
  .intro p J;rw[aB]at J;rw[J];exact u
  split
  .intro p J;cases J
  split
  .rename_i h2
   intro p J;obtain⟨q,B,J⟩:=fu.mp J;obtain⟨kq,_⟩:=kh.one h2.2 B;have v:=ma C;have w:27∉ax c e:=λk=>by
    unfold be at C;rw[bj.mpr k,Bool.true_or]at C;cases C
   have E:27∉ax c e/\28∉ax c e:=⟨w,v⟩;have j:27∉eP true c e q:=by unfold eP;split;exact λk=>E.1 (by rw[aB]at k;rw[k];exact B);exact h7
   have e8:28∉eP true c e q:=by unfold eP;split;exact λk=>E.2 (by rw[aB]at k;rw[k];exact B);exact h8
   have m:Kl (eP true c e q):=by unfold eP;split;exact kq;exact I
   refine HW (P:=λp=>p∈aD/\p≠28) u (l9 (λk=>E.1 (by rw[aB]at k;rw[k];exact B)) λk=>E.2 (by rw[aB]at k;rw[k];exact B)) (op j e8 Y.2.1 f.2.1) (A m j e8 ok.2.2.1 Y.2.2.1 f.2.2.1) (U m j e8 ok.2.2.2.1 Y.2.2.2 f.2.2.2) p J
  .exact HW (P:=λp=>p∈aD/\p≠28) u C (op h7 h8 Y.2.1 f.2.1) (A I h7 h8 ok.2.2.1 Y.2.2.1 f.2.2.1) (U I h7 h8 ok.2.2.2.1 Y.2.2.2 f.2.2.2)
def HX(I:am z):z.a[27]?=some [.j 10,.j 1]:=I.at rfl
def Us(I:am z):z.a[28]?=some [.j 10,.j 2]:=I.at rfl
abbrev Yd:List CS:=[.h (.n .c (.y (.d 1) 1 [.d 8]) (.j 58 [.d 5,.j 65 [.d 0,.d 2,.d 3,.B false]])) [.j] [],
 .g 9 (.y (.d 1) 6 [.d 7,.F [.h (.h (.q (.d 5) 18) (.h (.d 0) (.u "q"))) (.g 1),.j 58 [.d 5,.d 4]]]),
 .g 10 (.j 65 [.d 0,.j 70 [.d 0,.d 2,.d 4],.j 69 [.d 0,.d 3,.d 4],.B true]),
 .d (.z [.n .a (.d 9) (.j 58 [.d 5,.d 10]),.n .a (.q (.d 1) 2) (.g 0)])]
def HY{g:List Nat}(h:aQ g=aQ Y)(s:Sd):bu g s=bu Y s:=by
 induction s with
 |T=>
  exact rfl
 |k l=>
  show Sd.k _=Sd.k _;rw[h]
 |b l=>
  show Sd.b _=Sd.b _;rw[h]
 |q c a x y d A U=>
  have ho:∀o,df g o=df Y o:=λo=>by induction o using aX with |none=>rfl |some l=>(show some _=some _;rw[h])
  show Sd.q _ _ _ _ _=Sd.q _ _ _ _ _;rw[ho,ho,A,U]
def Ut{c:Option (List Nat)}{G:List Nat}(H:HV c a x y d e G)(k0:Kg G0)(r0:ae G0=G)(w0:aQ G0=aQ G)(N:Nat)(Y:119<=N/\(Sd.q c a x y d).AF<=N/\(bu G (.q c a x y d)).AF<=N/\(Sd.q c a x y d).hf<=N/\(Sd.q c a x y d).wf<=N):∀(z:Z) (L:List O) (Q:V->St->Prop),am z->z.sz<=100000->z.b=0->(∀z' L',Q (.w true) (st z' L'))->
  ar (ai (N+20) 71 [.o 12,.o 10,cg c a x y d,.r (aa e),.r (aa G0)] (st z L)) Q:=by
 obtain⟨_,h2⟩:=sQ bV 2 (by decide);have Aw:=(h2 (by decide)).1;obtain⟨_,h0⟩:=sQ bV 0 (by decide);have Ax:=(h0 (by decide)).1;obtain⟨Uu,_⟩:=sQ cl 3 (by decide);intro z L Q I room dp q;obtain⟨Y,Uv,Uw,Ux,Uy⟩:=Y;have fi:=H.n;have Ay:=H.w;have w:=H.u;have ok:=H.r;have AT:∀{free:Bool},∀M,N<=M->pG c a x y d free M:=λ{free} M hM=>(HJ (s:=.q c a x y d) (N:=M) ok w ("~1vTB0xF7Vv" Uv hM)).2 c a x y d rfl;have HZ:x.hf+y.hf+6<=N:=by have:(Sd.q c a x y d).hf=x.hf+y.hf+6:=rfl;exact "~43nYaghIJw9nHDczD" this Ux
 have gE:(Sd.q c a x y d).sc=x.sc+y.sc+3:=rfl;have SX:jI x (N+18):=py ok.2.2.1 ("~Ghc^f=|r2VVc2Y" HZ);have SY:jI y (N+18):=py ok.2.2.2.1 ("~Ghc^f=|r2VVpNn" HZ);have j:bV.gC (bV.gB 2)=58968:=by decide
 have Az:bV.rF 2=89152:=by decide
 refine az (ρ:=[some (.o 12),some (.o 10),some (cg c a x y d),some (.r (aa e)),some (.r (aa G0)),none,none,none,none,none,none]) rfl ?_;refine zR (N:=N+18) (e:=[27]) SX SY ok.1 ok.2.1 ("~VE0v|1WFQf" id) I ("~1Lp8PG9rgrQUo1_55W2Fj5iKT84uw" gE fi room) nM λz1 rc ra rx ry L1 A p1 c1 c2 c3 c4=>?_;have s1:=A.f;refine bY ?_;refine ag (co (Z.bZ (c:=0) ("~AROG3UqpG=2SbVLABp4P2kd3corzAhEWE" gE fi s1 room)) (HX A.e)) ?_;refine i9 (n:=N+16) A.e ("~AROG3UqpG=2SbVLABp4P2kd3corzLtuEU" gE fi s1 room) (H.b.part A.e) (by have v1:=H.b.2.1;exact "~Kxz>GCZ<gXUY" v1) λz2 v L2 kL p2 hv=>?_;have s2:=kL.f;have d2:L2[L1.length]?=some .b:=aC bk p2;refine u_ (p:=1) (v:=v) d2 ?_;have tb:=hv;rw[H.b.1]at tb;have hV:At z2 v e:=⟨tb,H.b.1,H.b.aD⟩;have vu:At z2 rc (ax c [27]):=((ok.1.op nM).at c1).gr kL.d;have H0:At z2 ra (ax a [27]):=((ok.2.1.op nM).at c2).gr kL.d;have H1:Wf bV z2 2 rx:=(wj A.e nM (.inl rfl) ok.2.2.1 H.f.2.2.1 H.g.1 c3).gr kL.d;have H2:Wf bV z2 2 ry:=(wj A.e nM (.inl rfl) ok.2.2.2.1 H.f.2.2.2 H.g.2 c4).gr kL.d;have ho:=Es.op (e:=[27]) (.inl rfl) H.f.1;have hm:(L2.set L1.length (aI (some (1,v))))[L1.length]?=some (aI (some (1,v))):=aT d2;have AA:z2.b=0:=by rw[kL.i,A.i];exact dp
 refine vK (md:=bV) (m:=some (1,v)) (h:=2) (N:=N+17) (Aw _ ("~XPcqK73CNGUmC0G9ZvHWnBd" Y)) (by decide) kL.e vu H0 (λ_=>⟨ho.2,ho.1⟩) mb (.inr ⟨H1,H2⟩) ok.2.2.2.2 ⟨e,hV,H.h.2,rfl⟩ hm ("~3g^i7ujbG6XbR9g7Dp2=?>YkfglJjE|eiMGpQ8oE>suQh4ff1" room fi gE Az s1 s2) ("~3q4<mK;<Mxh3OKnFF" AA) ("~8G3E=2t68" AA) λz3 nN ls E U p3 R3=>?_;rw[j]at U;have s3:=U.f;refine Av (free:=true) (f:=N+1) ("~KkZY8^fpNo^j" Y) (λM hM=>AT M ("~8Qs>azpMF" hM)) U.e Ay w ("~B>7ZQyY5cGvxTR=;ShgaTZzJ_3|SrNh9c5MfGCVMTD?oTHK_" room fi gE s1 s2 s3) H.b ("~1udWq9C|KDF9" id) λz4 r4 l4 L4 g4 p4 h4 a4=>?_;have k:=g4.f;have AB:z4.b=0:=by rw[g4.i,U.i];exact AA
 have AC:z2.a <+:z4.a:=U.d.trans g4.d;have B:nN=r4:=by
  obtain⟨z5,I5,p5,u⟩:=wk g4.e (gq.b rc ra rx ry d);obtain⟨r5,pJ⟩:=qr.mp u;have td:z1.a <+:z5.a:=(kL.d.trans AC).trans p5;have hS:d8 z5 (.q c a x y d) [27] r5:=⟨rc,ra,rx,ry,pJ,c1.gr td,c2.gr td,c3.gr td,c4.gr td⟩;have hf:=HR I5 (aA _) I5.a H.b (hV.gr (AC.trans p5)) ok H.g H.f H.j hS;rw[lV I5 pJ (aA _)]at hf;have e1:=R3.c z5.a (g4.d.trans p5) I5.a;have e2:=a4.a z5.a p5 I5.a;have e3:ls=ae l4:=by rw[<-e1,<-e2];exact hf
  have h3:=R3.a.gr g4.d;rw[e3]at h3;exact gt.inj g4.e.a h3.c h4.c
 subst B;refine ag Ar ?_;obtain⟨w4,m4⟩:=a4.c 3 rfl H.h H.f H.g;have g0:bV.gC (bV.gB 0)=216:=by decide
 have AD:bV.rF 0=1024:=by decide
 have Uz:∀p∈ae l4,p∈aD\/∃h,l5 z4 h p:=λp J=>(w4.2 p (ct J)).imp (λq=>q.1) λ⟨h',_,q⟩=>⟨h',q⟩;refine Um (N:=N+14) (Ax _ ("~;UiWqDuX8uaSoJUtVa4pYE" Y)) g4.e h4 Uz ("~3s9V30?zs_XsE^=LMPADq13?f1vvU65B73Db>mN7DsC?n6sJL?SGLZkRgVd^uD01" room fi gE s1 s2 s3 k AD) ("~5SbWzALkLUPZw" AB) ("~8G3E=2t68" AB) λz5 L5 g5 p5=>?_;rw[g0]at g5;have s5:=g5.f;refine bF (b:=!ca (.j nN) (.j nN)) (by rw[vT rfl];rfl) ?_;have te:=AC.trans g5.d;have AE:z5.b=0:=by rw[g5.i];exact AB
 refine HT (h:=2) (N:=N+16) (Aw _ ("~XPcqK73CIk6AQ|2|P5mrdcO" Y)) (by decide) g5.e (vu.gr te) (H0.gr te) (λ_=>⟨ho.2,ho.1⟩) (.inr ⟨H1.gr te,H2.gr te⟩) ok.2.2.2.2 ("~P;KTdInGffH<S;d5U^rfNRS6ydbOH^FzBk>RR?WXV;T_FGoehdqHT?xk1WW0mK=nby937_eq" room fi gE Az s1 s2 s3 k s5) ("~3q4<mK;<Mxh3OKnFF" AE) ("~8G3E=2t68" AE) λz6 r6 l6 L6 g6 p6 R6=>?_;rw[j]at g6;have s6:=g6.f;refine Av (free:=false) (e:=[27]) (f:=N+1) ("~KkZY8^fpNo^j" Y) (λM hM=>AT M ("~8Qs>azpMF" hM)) g6.e Ay w ("~1turbEo?X>FH5m?AM9>JY6PFraNn1BFR<1dvBn^EoeZ1kR^2GHUCP5^33zYx;4Bs5kuo1qb8" room fi gE s1 s2 s3 k s5 s6) nM ("~1udWq9C|KDF9" id) λz7 r7 l7 L7 g7 p7 h7 a7=>?_;have s7:=g7.f;have Ye:=g7.d;have e7:r6=r7:=by
  obtain⟨z8,I8,p8,u⟩:=wk g7.e (gq.b rc ra rx ry d);obtain⟨r8,H3⟩:=qr.mp u;have wl:z1.a <+:z8.a:=(((kL.d.trans te).trans g6.d).trans g7.d).trans p8;have hS:d8 z8 (.q c a x y d) [27] r8:=⟨rc,ra,rx,ry,H3,c1.gr wl,c2.gr wl,c3.gr wl,c4.gr wl⟩;have hf:=HO I8 (aA _) I8.a nM ok H.g hS;rw[lV I8 H3 (aA _)]at hf;have e1:=R6.c z8.a (g7.d.trans p8) I8.a;have e2:=a7.a z8.a p8 I8.a;have e3:l6=ae l7:=by rw[<-e1,<-e2];exact hf
  have h3:=R6.a.gr g7.d;rw[e3]at h3;exact gt.inj g7.e.a h3.c h7.c
 subst e7;refine ag Ar ?_;refine zR (N:=N+18) SX SY ok.1 ok.2.1 ("~VE0v|1WFQf" id) g7.e ("~m33H;;2rsjmXTYc|8iJn5YBaANiQ5p;CI52f4f?46m4uPFbZ^eLiMC|;fFBTst2ug1hsjlDlkT^YLNSu3" room fi gE s1 s2 s3 k s5 s6 s7) H.b λz8 oc oa ox oy L8 g8 p8 o1 o2 o3 o4=>?_;have s8:=g8.f;refine ju (n:=N+18) (r:=aV oc oa ox oy d) g8.e rfl (.inl (.b ..)) ("~QYh1h>9WpD89Sn5PjC4EswyA?g0hqra6bQHB6CzWBZhlg|6fVvj008m?7^ViaNMQvSYY4cVYcsUC8vBWaitu^yb" room fi gE s1 s2 s3 k s5 s6 s7 s8) λz9 own g9 AG=>?_;have s9:=g9.f;have mc:=g9.d;have pK:z9.b=0:=by rw[g9.i,g8.i,g7.i,g6.i];exact AE
 have H4:=Es.op (e:=e) (.inr H.h) H.f.1;refine HU (h:=2) (N:=N+14) (Aw _ ("~;UiWqDuX8uaSoJZ;Zy^7H_" Y)) (by decide) g9.e AG (((ok.1.op H.b).at o1).gr mc) (((ok.2.1.op H.b).at o2).gr mc) (λ_=>⟨H4.2,H4.1⟩) (.inr ⟨(wj g8.e H.b (.inr H.h) ok.2.2.1 H.f.2.2.1 H.g.1 o3).gr mc,(wj g8.e H.b (.inr H.h) ok.2.2.2.1 H.f.2.2.2 H.g.2 o4).gr mc⟩) ok.2.2.2.2 ("~1Pdl9fA<Yk;U0XsJp4tl6Ed0P5o>80DVwjJtpZ4JI9q0wX=aPwAp<SR44<KhDqQ<pglW0hAAhIJtDznHptSOa=6;qY=_aa;UYJxVJDsF|z" room fi gE Az s1 s2 s3 k s5 s6 s7 s8 s9) ("~3q4<mK;<Mxh3OKnFF" pK) ("~8G3E=2t68" pK) λUA H8 H9 UB gF AH wm=>?_;rw[j]at gF;have nO:=gF.f;refine Av (free:=false) (f:=N+1) ("~KkZY8^fpNo^j" Y) (λM hM=>AT M ("~8Qs>azpMF" hM)) gF.e Ay w ("~6FKAd_sMFgrF9YgVEYkxwPfcQ16p|4;el0iLgJYpIqjAij7k7kFLGApPQQtoRvgeFHppN|J_hXf2T>N6eEqP4Ka>7Sz_^35bYj<nbgsEp" room fi gE s1 s2 s3 k s5 s6 s7 s8 s9 nO) H.b ("~1udWq9C|KDF9" id) λwn H' H_ pL C Ia UC UD=>?_;have tf:=C.f;have UE:H8=H':=by
  have pM:=gF.d.trans C.d;have hS:d8 wn (.q c a x y d) e own:=⟨oc,oa,ox,oy,cH pM AG,o1.gr (mc.trans pM),o2.gr (mc.trans pM),o3.gr (mc.trans pM),o4.gr (mc.trans pM)⟩;have hf:=HO C.e (aA _) C.e.a H.b ok H.g hS;rw[lV C.e (cH pM AG) (aA _)]at hf;have e1:=wm.c wn.a C.d C.e.a;have e2:=UD.a wn.a (aA _) C.e.a;have e3:H9=ae H_:=by rw[<-e1,<-e2];exact hf
  have h3:=wm.a.gr C.d;rw[e3]at h3;exact gt.inj C.e.a h3.c UC.c
 subst UE;refine ag Ar ?_;refine bY ?_;refine ag (co (Z.bZ (c:=0) ("~350t;ObH?cwIE8<KaTp3gmpzN1aCW<MbKsoC8__0|XYoM;2xAlfw15MU4L5?wS3^1HiwUBuzAM4YrPGQkPH8M|<cX<Rv36oZYm1D<2bMmepyryVhW" room fi gE s1 s2 s3 k s5 s6 s7 s8 s9 nO tf)) (Us C.e)) ?_;refine i9 (n:=N+16) C.e ("~350t;ObH?cwIE8<KaTp3gmpzN1aCW<MbKsoC8__0|XYoM;2xAlfw15MU4L5?wS3^1HiwUBuzAM4YrPGQkPH8M|<cX<Rv36oZYm1D<2bMmeqWk4ri3" room fi gE s1 s2 s3 k s5 s6 s7 s8 s9 nO tf) (k0.part C.e) (by have v2:=k0.1;exact "~Kxz>GCZ<gXUY" v2) λpN g AI iv im hg=>?_;have Ib:=iv.f;have Ic:AI[pL.length]?=some .b:=aC bk im;refine u_ (p:=2) (v:=g) Ic ?_;rw[r0]at hg;have hG:At pN g G:=⟨hg,H.l.1,H.l.aD⟩;have UF:(AI.set pL.length (aI (some (2,g))))[pL.length]?=some (aI (some (2,g))):=aT Ic;have th:z4.a <+:pN.a:=((((((g5.d.trans g6.d).trans g7.d).trans g8.d).trans g9.d).trans gF.d).trans C.d).trans iv.d;have UG:Wf cl pN 3 nN:=Hl (h:=2) (h4.gr th) (w4.gr th);have UH:be G=false:=l9 (λq=>(jJ 27 (H.i 27 q)).2.2.1 rfl) λq=>(jJ 28 (H.i 28 q)).2.1 rfl;have UI:cl.gB 3=1331713:=by decide
 have Yf:cl.rP 3=249856:=by decide
 have AJ:pN.b=0:=by rw[iv.i,C.i,gF.i];exact pK
 refine az (f:=83) (ρ:=[some (.o 10),some (.j nN),some (.o (pL.length+14))]) rfl ?_;refine Uu (N+18) ("~d|msV<YiBAg8eAvm3yr1A" Y) pN _ nN pL.length (2,g) _ iv.e UG ⟨G,hG,H.m,rfl,UH⟩ UF (by lia) ("~4ZfKrAH5;swPogw" AJ) ("~8G3E=2t68" AJ) λpO Ie UJ AK iw Ig Ih=>?_;rw[UI]at iw;have UK:=iw.f;refine Ao k0 ok ("~7556CAkBlO0" Uy) c a x y d rfl pO AK _ iw.e (Z.bZ (c:=0) (by lia)) λYg Yh=>?_;refine HK (n:=N+16) iw.e (Z.bZ (c:=0) (by lia)) H.b k0 λUL td=>?_;rw[w0];have wO:∀o,df G0 o=df G o:=λo=>by induction o using aX with |none=>rfl |some l=>(show some _=some _;rw[w0])
 rw[wO c,wO a,HY w0 x,HY w0 y];have Yi:=H.v;have Ii:=H.t;refine(HJ (s:=bu G (.q c a x y d)) (free:=true) (N:=N+19) H.p Ii ("~7556CAkBlO0" Uw)).2 _ _ _ _ _ rfl pO UL _ (aQ G e) iw.e (show pO.sz+(bu G (.q c a x y d)).ac < 4194304 by lia) H.s λUM AL Yj me Yk AM=>?_;have me:Gr (bu G (.q c a x y d)).ac pO UM:=me;have Yl:=me.f;have UN:AL.length<=(bu G (.q c a x y d)).al:=AM.f;refine i9 (n:=N+16) me.e (by lia) AM.d ("~3N2Yxf9yno>81Zglesa" UN Ii) λIj UO UP nP Ym UQ=>?_;have UR:Ie=UO:=by
  have wo:=(iw.d.trans me.d).trans nP.d;obtain⟨i',ti,S⟩:=Up nP.e (hG.gr wo) H.i (by have v3:=H.m;exact "~V_Q_Uc37" v3);obtain⟨US,AO⟩:=m4 H.j H.o i' i'.a 2 g G ((th.trans wo).trans ti) S (by decide);have AO:=AO H.k;have e1:=Ih.c i'.a ((me.d.trans nP.d).trans ti) S.d;have e2:aW i'.a true (bu G (.q c a x y d)) (aQ G e)=AL:=AM.a i'.a (nP.d.trans ti) S.d;have e0:aK 3 i'.a (some (2,g)) nN=(ae l4).flatMap (FF i'.a 2 g):=by
   unfold aK;rw[(h4.gr ((th.trans wo).trans ti)).bR S.a S.b];rfl
  have B:ae ((ae l4).flatMap (FF i'.a 2 g))=ae (l4.flatMap (FF i'.a 2 g)):=by
   rcases H.k with cG |⟨lW,ns⟩
   .obtain⟨t0,UT⟩:=Aa H.b
    exact zW (t:=t0) (λp J UU=>by rw[pD S J,ab UU]) (US cG t0 UT)
   .have hk:=Ur (T:=i'.a) H.b H.h.1 lW ok H.f ns
    rw[a4.a i'.a (((th.trans wo).trans ti)) S.d]at hk;rw[sn (l:=ae l4) (λp J=>by rw[pD S (hk p (ct J)).1,ab (hk p (ct J)).2]),sn (l:=l4) (λp J=>by rw[pD S (hk p J).1,ab (hk p J).2]),eE]
  have e5:UJ=ae AL:=by rw[<-e1,<-e2,<-AO,<-B,<-e0]
  have h3:=Ih.a.gr (me.d.trans nP.d);rw[e5]at h3;exact gt.inj nP.e.a h3.c UQ.c
 subst UR;refine ag Au ?_;conv=>whnf
 have UV:Ij.b=0:=by rw[nP.i,me.i,iw.i];exact AJ
 rw[UV];exact q Ij UP
end
section
variable{z:Z}{L:List O}{n t i N h p r b:Nat}{Q:V->St->Prop}{e l S A G:List Nat}{σ:St}{T:Tb}
abbrev Ks(l:List Nat):Prop:=Kl l/\(l=[0]\/l=[1]\/l=[13]\/∀x∈l,x∈cf)
abbrev dS(S A:List Nat):Bool:=decide (A=[0]\/A=[1]\/A=[13])||FU S A
def Ks.cj(h:Ks l):∀x∈l,x∈Mine.Lake.cj:=λx H=>by
 rcases h.2 with e |e |e |e
 .rw[e,aB]at H;subst H;decide
 .rw[e,aB]at H;subst H;decide
 .rw[e,aB]at H;subst H;decide
 .exact Hh x (e x H)
def Ik(I:am z)(c:Ks S)(Y:Ks A)(q:∀z' L',Gr 0 z z'->L <+:L'->Q (.w (dS S A)) (st z' L')):ar (ai (n+1) 63 [.o 12,.r (aa S),.r (aa A)] (st z L)) Q:=by
 have h1:=c.1.2.1;have h2:=Y.1.2.1;unfold dS at q;have g:A=[0]\/A=[1]\/A=[13]->ar (ai (n+1) 63 [.o 12,.r (aa S),.r (aa A)] (st z L)) Q:=λf=>by
  rw[b4 f]at q;exact Hi (n:=n) ("~W8qSN|Tl" h1) f (q z L (Gr.refl I) (aA _))
 rcases Y.2 with e |e |e |e
 .exact g (.inl e)
 .exact g (.inr (.inl e))
 .exact g (.inr (.inr e))
 .have nt:¬ (A=[0]\/A=[1]\/A=[13]):=by
   rintro(h |h |h)
   .exact absurd (e 0 (by rw[h];simp)) (by decide)
   .exact absurd (e 1 (by rw[h];simp)) (by decide)
   .exact absurd (e 13 (by rw[h];simp)) (by decide)
  rw[cc nt]at q;exact Hj (n:=n) I (s_ e) e c.cj ("~Kxz>GCZ<gXUY" h2) ("~Kxz>GCZ<gXUY" h1) q
def Ks.at(h:Ks l)(C:aO z r (ae l)):At z r l:=Kl.at h.1 C
def UW(I:am z)(c:Ks S)(Y:Ks A)(j:At z b A):(lK b||iY S A)=dS S A:=by
 have a:=fE I (.inl rfl) j;have e1:=fE I (.inr (.inl rfl)) j;have m:=fE I (.inr (.inr rfl)) j;have f:lK b=decide (A=[0]\/A=[1]\/A=[13]):=by
  refine o9 ?_;unfold lK;rw[xo,tK,tK,aH,aH,aH,a,e1,m,or_assoc]
 unfold dS;rw[f];rcases Y.2 with e |e |e |e
 .rw[b4 (.inl e)];rfl
 .rw[b4 (.inr (.inl e))];rfl
 .rw[b4 (.inr (.inr e))];rfl
 .rw[F8 c.1.1 (s_ e) Y.1.1]
def tj(I:am z)(room:z.sz+2 < 4194304)(c:Ks S)(Y:Ks A)(U:At z p S)(j:At z b A)(q:∀z' L',Gr 2 z z'->L <+:L'->Q (.w (dS S A)) (st z' L')):ar (ai (n+5) 20 [.o 2,.j p,.j b] (st z L)) Q:=by
 have h1:=c.1.2.1;have h2:=Y.1.2.1;refine Fo (n:=n) I room U.c j.c ("~Q2Ntsb9XaW" h1) ("~Q2Ntsb9XaW" h2) λz' L' g E=>?_;rw[UW I c Y j];exact q z' L' g E
def wp(h:τ=0\/τ=1\/τ=13):Ks [τ]:=by
 have:[τ]=[0]\/[τ]=[1]\/[τ]=[13]:=by rcases h with rfl |rfl |rfl <;>simp
 refine⟨⟨cW,by simp,this.imp id λh=>h.imp id .inl⟩,this.imp id λh=>h.imp id .inl⟩
def Il:Ks []:=⟨nv,.inr (.inr (.inr λx H=>nomatch H))⟩
def UX:dS [] A=true:=by unfold dS FU;simp
def Im(h:τ=0\/τ=1\/τ=13):dS S [τ]=true:=by
 unfold dS;rw[b4 (show[τ]=[0]\/[τ]=[1]\/[τ]=[13]by rcases h with rfl |rfl |rfl <;>simp)];rfl
end
section
variable{z:Z}{L:List O}{n t i N h p r b:Nat}{Q:V->St->Prop}{e l S A G:List Nat}{σ:St}{T:Tb}
def AP(Y:∀x∈S,x∈cf)(J:p∈S):Ks [p]:=⟨⟨cW,by simp,.inr (.inr (.inr λx H=>by rw[aB]at H;subst H;exact .inl (Y x J)))⟩,.inr (.inr (.inr λx H=>by rw[aB]at H;subst H;exact Y x J))⟩
def wq(k:Ks A):be A=false:=by
 rcases k.2 with e |e |e |e
 .rw[e];rfl
 .rw[e];rfl
 .rw[e];rfl
 .exact l9 (λq=>absurd (e 27 q) (by decide)) λq=>absurd (e 28 q) (by decide)
def Io(Y:∀x∈S,x∈cf)(U:Ks A)(cG:A≠[13])(J:p∈S):ci T 1 [p] A c d9 I H=if dS [p] A=true then c else d9:=by
 have h0:[p]≠[0]:=λe=>by
  have:p=0:=by simpa using e
  subst this;exact absurd (Y 0 J) (by decide)
 unfold ci dS;rw[ab (by rw[wq (AP Y J)];decide),ab cG,ab (by rw[wq U];decide),ab (λq=>h0 q.1)];have:(A=[0]\/A=[1]\/FU [p] A=true)↔(decide (A=[0]\/A=[1]\/A=[13])||FU [p] A)=true:=by
  rw[tK,xo];constructor
  .rintro(q |q |q)
   .exact .inl (.inl q)
   .exact .inl (.inr (.inl q))
   .exact .inr q
  .rintro((q |q |q) |q)
   .exact .inl q
   .exact .inr (.inl q)
   .exact absurd q cG
   .exact .inr (.inr q)
 by_cases q:A=[0]\/A=[1]\/FU [p] A=true
 .rw[ah q,ah (this.mp q)]
 .rw[ab q,ab λk=>q (this.mpr k)]
theorem Ip:∀{S:List Nat},(S.flatMap λp=>if f p=true then[p]else[])=S.filter f
 |[]=>rfl|a::S=>by
  rw[dJ,jg,Ip];cases f a <;>rfl
theorem Iq{f:Nat->Bool}:∀{S:List Nat},(S.flatMap λp=>if f p=true then[]else[p])=S.filter λp=>!f p
 |[]=>rfl|a::S=>by
  rw[dJ,jg,Iq];cases f a <;>rfl
def UY:(S.filter f).length+(S.filter λp=>!f p).length=S.length:=by
 induction S with
 |nil=>
  exact rfl
 |cons a S ih=>
  have:=ih;rw[jg,jg];cases f a
  .simp only[Bool.not_false,qo,je,jf,bI];exact "~Bl2kL<qi5ObyB_>h" ih
  .simp only[Bool.not_true,qo,je,jf,bI];exact "~Bl2kL<qi5QyuatyE" ih
def UZ(Y:∀x∈S,x∈cf)(U:Ks A)(cG:A≠[13]):aW T true (.q none (some A) .T (.k []) 1) S=S.filter λp=>dS [p] A:=by
 rw[Ad (λq=>absurd (Y 13 (by rw[show S=[13]from q];simp)) (by decide)),<-Ip];exact i5 λp J=>Io Y U cG J
def U6(Y:∀x∈S,x∈cf)(U:Ks A)(cG:A≠[13]):aW T true (.q none (some A) (.k []) .T 1) S=S.filter λp=>!dS [p] A:=by
 rw[Ad (λq=>absurd (Y 13 (by rw[show S=[13]from q];simp)) (by decide)),<-Iq];exact i5 λp J=>Io Y U cG J
end
section
variable{z:Z}{L:List O}{n t i N h p r b:Nat}{Q:V->St->Prop}{e l S A G:List Nat}{σ:St}{T:Tb}
def U7{b:Bool}:dc .c (.w b) (.w b) σ=some (.w false,σ):=by induction b <;>rfl
def Ir{S:List Nat}(kS:Ks S)(kA:Ks A)(lS:S.length<=4)(It:A.length<=4)(N:Nat)(hN:119<=N):∀(z:Z) (L:List O) (Q:V->St->Prop),am z->z.sz<=100000->z.b=0->(∀z' L',Gr 10000 z z'->L <+:L'->Q (.w true) (st z' L'))->
  ar (ai (N+20) 72 [.o 12,.o 10,.r (aa S),.r (aa A)] (st z L)) Q:=by
 obtain⟨_,h0⟩:=sQ bV 0 (by decide);have Ax:=(h0 (by decide)).1;intro z L Q I room dp q;have lA:=kA.1.2.1;have g0:bV.gC (bV.gB 0)=216:=by decide
 have AD:bV.rF 0=1024:=by decide
 refine az (ρ:=[some (.o 12),some (.o 10),some (.r (aa S)),some (.r (aa A)),none,none,none,none,none,none,none,none,none,none,none]) rfl ?_;refine i9 (n:=N+16) I ("~GAIPBR9W9ScOp7" room) (kA.1.part I) ("~KkuxQaXFk4n7" It) λz1 b L1 g1 p1 hb=>?_;have s1:=g1.f;refine i9 (n:=N+16) g1.e ("~3N1r0gXGpuMAqJyuHoa" s1 room) (kS.1.part g1.e) ("~KkuxQaXFk4n7" lS) λz2 a L2 j p2 ha=>?_;have s2:=j.f;have hB:=(kA.at hb).gr j.d;have hA:=kS.at ha;refine tj (n:=N+14) j.e ("~X1imCKP9O1^6gEnySbE=EQd" s2 s1 room) kS kA hA hB λz3 E U p3=>?_;have s3:=U.f;refine Ik (n:=N+18) U.e kS kA λz4 L4 g4 p4=>?_;have s4:=g4.f;refine ag U7 ?_;have pu:=U.d.trans g4.d;have nk:At z4 13 [13]:=l8 g4.e (by decide);refine tj (n:=N+14) g4.e ("~zu^7XPmS8t?XF33j6q=R=0slzz^c?AgK" s4 s3 s2 s1 room) kS (wp (.inr (.inr rfl))) (hA.gr pu) nk λz5 L5 g5 p5=>?_;have s5:=g5.f;rw[Im (.inr (.inr rfl))];have a2:At z5 2 []:=⟨hY,rfl,λx hx=>nomatch hx⟩;refine tj (n:=N+14) g5.e ("~;r98h=J4VdRj84lQYRhQ6xF0ElLEXQ_>6CROw" room s1 s2 s3 s4 s5) Il kA a2 (hB.gr (pu.trans g5.d)) λz6 L6 g6 p6=>?_;have o:=g6.f;rw[UX];have a1:At z6 1 [1]:=l8 g6.e (by decide);have Iu:=(pu.trans g5.d).trans g6.d;refine tj (n:=N+14) g6.e ("~1jC>Tz6lIzEuPk4;91olhKLk9aII86NxolMYPUzw|n" room s1 s2 s3 s4 s5 o) kS (wp (.inr (.inl rfl))) (hA.gr Iu) a1 λz7 L7 g7 p7=>?_;have s7:=g7.f;rw[Im (.inr (.inl rfl))];have AQ:Gr 100 z z7:=((((((g1.trans j).trans U).trans g4).trans g5).trans g6).trans g7).mono ("~3LtmAQ_6hNQdqnocwUL>y" id);have Iv:L <+:L7:=(((((p1.trans p2).trans p3).trans p4).trans p5).trans p6).trans p7;refine ag (zP ("~Vs;5aRDG" lS)) ?_;have fin:∀z' L',L7 <+:L'->Gr 9000 z7 z'->Q (.w true) (st z' L'):=λz' L' p g=>q z' L' ((AQ.trans g).mono ("~43K9;MW?5xuOVJJ=jN=" id)) (Iv.trans p);have early:Q (.w true) (st z7 L7):=q z7 L7 (AQ.mono ("~6x87PUki?=wJg" id)) Iv;rcases kS.2 with e |e |e |hS
 .subst e;exact early
 .subst e;exact early
 .subst e;exact early
 refine ag (Hg (s_ hS)) ?_;refine ag (sZ (k:=13)) ?_;by_cases cG:A=[13]
 .rw[b4 cG];exact early
 rw[cc cG];have Iw:=Iu.trans g7.d;refine ag ((hZ (z:=z7) (L:=L7) (ts:=S) ("~Vs;5aRDG" lS)).a _ (aA _)) ?_;refine vL (M:=8) (c:=2) (d:=0) (g:=λp=>dS [p] A) (f:=λp=>.j p) (conds:=[.j 20 [.d 4,.d 13,.d 6]]) (e:=.d 13)
  (ρ:=[some (.o 12),some (.o 10),some (.r (aa S)),some (.r (aa A)),some (.o 2),some (.j 27),some (.j b),some (.j a),none,none,none,none,none,none,none]) (sl:=13) g7.e (by lia) ("~Vs;5aRDG" lS) (λp J z' L' Q' s p' B=>?_) (λp J G z' L' Q' s p' B=>B z' L' (Gr.refl s.e) (aA _)) λz8 L8 g8 p8=>?_
 .have:=s.f
  refine tj (n:=N+14) s.e ("~36U>U0yBc6HBo8IVchzQ0zOVANh<nXZ6dqCW;Dmvg8WOAsCqcSE" room s1 s2 s3 s4 s5 o s7 this) (AP hS J) kA (l8 s.e (vM p (hS p J))) (hB.gr (Iw.trans s.d)) λz2 L2 j p2=>?_;have:=B z2 L2 j p2;cases Y:dS [p] A <;>rw[Y]at this <;>exact this
 have s8:=g8.f;rw[wc];refine ag ((hZ (z:=z8) (L:=L8) (ts:=S) (by exact "~Vs;5aRDG" lS)).a _ (aA _)) ?_;refine vL (M:=0) (c:=0) (d:=0) (g:=λp=>!dS [p] A) (f:=λp=>.j p) (conds:=[.G (.j 63 [.d 0,.r true [.d 14],.d 3])]) (e:=.d 14)
  (ρ:=[some (.o 12),some (.o 10),some (.r (aa S)),some (.r (aa A)),some (.o 2),some (.j 27),some (.j b),some (.j a),some (.r (aa (S.filter λp=>dS [p] A))),none,none,none,none,none,none]) (sl:=14) g8.e (by lia) ("~Vs;5aRDG" lS) (λp J z' L' Q' s p' B=>?_) (λp J G z' L' Q' s p' B=>B z' L' (Gr.refl s.e) (aA _)) λz9 L9 g9 p9=>?_
 ·
  refine Ik (n:=N+18) (S:=[p]) s.e (AP hS J) kA λz2 L2 j p2=>?_;have:=B z2 L2 j p2;cases Y:dS [p] A <;>rw[Y]at this <;>exact this
 have s9:=g9.f;rw[wc];refine bY ?_;refine ag (co (Z.bZ (c:=0) ("~TZWKRtG0XW4bW1;jy=d^Z<<<dWeyEk^bjVoxrr5W|bZBYt;i2R_=OUk" room s1 s2 s3 s4 s5 o s7 s8 s9)) (HX g9.e)) ?_;refine u_ (p:=1) (v:=a) bk ?_;have hm:((L9++[O.b]).set L9.length (aI (some (1,a))))[L9.length]?=some (aI (some (1,a))):=aT bk;have pm:L9 <+:(L9++[O.b]).set L9.length (aI (some (1,a))):=bE bp (av _);generalize (L9++[O.b]).set L9.length (aI (some (1,a)))=Lm at hm pm;have wr:=(Iw.trans g8.d).trans g9.d;have pK:z9.b=0:=by rw[g9.i,g8.i,AQ.i];exact dp
 have AR:∀{z:Z},am z->At z 27 [27]:=λI=>l8 I (by decide);have t2:∀{z:Z},At z 2 []:=λ{z}=>⟨hY,rfl,λx hx=>nomatch hx⟩;have oc:bV.gy [27] 1:=λG=>⟨by decide,λG=>rfl⟩;have run:∀{z:Z} {L:List O} {Q:V->St->Prop} {x y:Nat} (I:am z),z2.a <+:z.a->z.sz<=200000->z.b=0->L[L9.length]?=some (aI (some (1,a)))->(x=27/\y=2\/x=2/\y=27)->
   (∀z' (r:Nat) l L',Gr 216 z z'->L <+:L'->bG z' (λT=>cJ T (aK 0 T) (some (1,a)) 27 b x y 1) (bV.b 1) r l->Q (.j r) (st z' L'))->ar (ai (N+19) 52 [.o 10,.p (aV 27 b x y 1),.o (L9.length+14)] (st z L)) Q:=λ{z L Q x y} I pz room dp hm H q=>by
  have Ix:Wf bV z 0 27:=kF (AR I) mb 0;have w2:Wf bV z 0 2:=kF t2 mb 0;refine vK (md:=bV) (m:=some (1,a)) (h:=0) (N:=N+17) (Ax _ ("~XPcqK73CNGUmC0G5GqzbUSI" hN)) (by decide) I (AR I) (hB.gr pz) oc mb (.inr ?_) (by decide) ⟨S,hA.gr pz,lS,rfl⟩ hm ("~Unld8Jfjh;u5gpD|IH_nXi6" AD room) ("~3q4<mK;<MtO^4QUV|" dp) ("~8G3E=2t68" dp) λz' r l L' g p R=>?_
  .rcases H with⟨rfl,rfl⟩ |⟨rfl,rfl⟩
   .exact⟨Ix,w2⟩
   .exact⟨w2,Ix⟩
  .rw[g0]at g;exact q z' r l L' g p R
 refine run (x:=27) (y:=2) g9.e wr ("~NvKoHIgxD?VuQ3^TYXVbG3u^MicE4R4y3>07rQi|HMMkOY=HsUz;o=c<o" room s1 s2 s3 s4 s5 o s7 s8 s9) pK hm (.inl ⟨rfl,rfl⟩) λUA H8 H9 UB gF AH wm=>?_;have nO:=gF.f;refine run (x:=2) (y:=27) gF.e (wr.trans gF.d) ("~tkBYdnH;|pM9rCJ<^P?hc9fmUVU=FX?_gmqQYBEfzwfs1j_LpWj<C8MPgtMBGGN7" room s1 s2 s3 s4 s5 o s7 s8 s9 nO) (by rw[gF.i];exact pK) (aC hm AH) (.inr ⟨rfl,rfl⟩) λwn H' H_ pL C Ia U8=>?_;have tf:=C.f;have kp:∀{z:Z},am z->∀{f:Nat->Bool},∀x∈S.filter f,b3 z x:=λ{z} I {f} x hx=>kS.1.part I x (c7.mp hx).1;have lf:∀f:Nat->Bool,(S.filter f).length<=S.length:=λf=>jR _ _;have Iy:=lf λp=>dS [p] A;have Iz:=lf λp=>!dS [p] A;refine i9 (n:=N+16) C.e ("~V4d5_num^PPoBnX4DbKbBx;1V735Q8rn46C4Ia?_f5ymehzKsgt9do9<PxdSgv008K7l^1" room s1 s2 s3 s4 s5 o s7 s8 s9 nO tf) (kp C.e) ("~4szw3oTTRm59p6i" lS Iy) λpN Yn AI iv im U9=>?_;have Ib:=iv.f;have IA:∀{x y:Sd} {xi yi:Nat} {z' dC:Z} {r' AS:Nat} {l' wt:List Nat},(x=.T/\xi=27/\y=.k []/\yi=2)\/(x=.k []/\xi=2/\y=.T/\yi=27)->z2.a <+:z'.a->z'.a <+:dC.a->am dC->
   bG z' (λT=>cJ T (aK 0 T) (some (1,a)) 27 b xi yi 1) (bV.b 1) r' l'->(∀T,aW T true (.q none (some A) x y 1) S=wt)->aO dC AS (ae wt)->r'=AS:=λ{x y xi yi z' dC r' AS l' wt} H pz AU IB R Y Ah=>by
  obtain⟨z5,I5,p5,u⟩:=wk IB (gq.b 27 b xi yi 1);obtain⟨r5,pJ⟩:=qr.mp u;have IC:=(pz.trans AU).trans p5;have l_:aO z5 27 (ae [27]):=by rw[cW];exact(AR I5).c
  have ID:aO z5 b (ae A):=by rw[kA.1.1];exact(hB.gr IC).c
  have eF:Ko (some A):=λl e=>by cases e;exact kA.1
  have tk:d8 z5 (.q none (some A) x y 1) [27] r5/\(Sd.q none (some A) x y 1).Ok/\(Sd.q none (some A) x y 1).Le 1/\(Sd.q none (some A) x y 1).eN/\(Sd.q none (some A) x y 1).Nt:=by
   have U':27∉A:=λq=>by
    have:=wq kA;unfold be at this;rw[bj.mpr q]at this;cases this
   have nA:No (some A):=λl e=>by cases e;exact⟨U',It⟩
   rcases H with⟨rfl,rfl,rfl,rfl⟩ |⟨rfl,rfl,rfl,rfl⟩
   .exact⟨⟨27,b,27,2,pJ,l_,ID,l_,hY⟩,⟨(λl e=>(nomatch e)),eF,trivial,nv,by decide⟩,⟨trivial,trivial⟩,⟨(λl e=>(nomatch e)),nA,trivial,by show 27∉[];simp⟩,⟨(λl e=>(nomatch e)),trivial,by simp[Sd.Nt]⟩⟩
   .exact⟨⟨27,b,2,27,pJ,l_,ID,hY,l_⟩,⟨(λl e=>(nomatch e)),eF,nv,trivial,by decide⟩,⟨trivial,trivial⟩,⟨(λl e=>(nomatch e)),nA,by show 27∉[];simp,trivial⟩,⟨(λl e=>(nomatch e)),by simp[Sd.Nt],trivial⟩⟩
  have hf:=HR I5 (aA _) I5.a kS.1 (hA.gr IC) tk.2.1 tk.2.2.1 tk.2.2.2.1 tk.2.2.2.2 tk.1;rw[lV I5 pJ (aA _),Y]at hf;have e1:=R.c z5.a (AU.trans p5) I5.a;have e3:l'=ae wt:=by rw[<-e1];exact hf
  have h3:=R.a.gr AU;rw[e3]at h3;exact gt.inj IB.a h3.c Ah.c
 have U_:=IA (.inl ⟨rfl,rfl,rfl,rfl⟩) (wr.trans gF.d) (C.d.trans iv.d) iv.e wm (λT=>UZ hS kA cG) U9;subst U_;refine ag Au ?_;refine i9 (n:=N+16) iv.e ("~G4e<UmzMJKAf0iXxHy_o;jB?;Nzn1Bx1IuU7lV>IPWG<Vh9UtpiAbhqMnX6HqpvpwZPdv6D32cc3" room s1 s2 s3 s4 s5 o s7 s8 s9 nO tf Ib) (kp iv.e) ("~4szw3oTTRm59p6i" lS Iz) λpO Ie AK iw Ig w=>?_;have UK:=iw.f;have Al:=IA (.inr ⟨rfl,rfl,rfl,rfl⟩) ((wr.trans gF.d).trans C.d) (iv.d.trans iw.d) iw.e U8 (λT=>U6 hS kA cG) w;subst Al;refine ag Au ?_;have len:∀{l:List Nat} {σ:St},l.length<=S.length->b1 .a (.r (aa l)) σ=some (.j l.length,σ):=λ{l σ} h=>by
  have:=l0 (σ:=σ) (l:=aa l) (by rw[cI];exact "~6zzXgV;L>^w" lS h);rwa [cI]at this
 refine aP (len Iy) ?_;refine aP (len Iz) ?_;refine aP (len (av _)) ?_;have Y:=UY (f:=λp=>dS [p] A) (S:=S);have done:=fin pO AK (((((p8.trans p9).trans pm).trans AH).trans Ia).trans (im.trans Ig)) ((((((g8.trans g9).trans gF).trans C).trans iv).trans iw).mono ("~2KUp3cU_Y3tKLK^26g^pRWr;R" id));rw[<-(vT (show(((S.filter λp=>dS [p] A).length:Int)+((S.filter λp=>!dS [p] A).length:Int))=(S.length:Int)by lia))]at done;exact done
end
section
variable{z:Z}{L:List O}{n t i N h p r b:Nat}{Q:V->St->Prop}{e l S A G:List Nat}{σ:St}{T:Tb}
structure cO(z:Z)(k:Nat):Prop where
 b:∃ns:List Nat,z.j=ns.map (λn:Nat=>V.j n)/\0 < ns.length/\ns.length<=40/\∀k∈ns,k < 99991
 a:∃p:Nat,z.i=p/\p+k<=1000
abbrev Dr(c:Nat)(z z':Z):Prop:=∃k:Nat,k<=c/\z'={z with i:=z.i+k}
def Dr.refl:Dr 0 z z:=⟨0,av _,by simp⟩
def Dr.trans(h:Dr a z z')(k:Dr b z' dC):Dr (a+b) z dC:=by
 obtain⟨i,hi,rfl⟩:=h;obtain⟨j,f,rfl⟩:=k;exact⟨i+j,by lia,by simp[Int.add_assoc]⟩
def Dr.mono(h:Dr a z z')(k:a<=b):Dr b z z':=let ⟨i,hi,e⟩:=h;⟨i,by lia,e⟩
def Dr.inv(h:Dr a z z')(I:am z):am z':=by
 obtain⟨k,_,rfl⟩:=h;exact⟨I.a,I.f,I.d,I.e,I.c,I.b⟩
def Dr.nums(h:Dr a z z')(I:cO z (a+k)):cO z' k:=by
 obtain⟨j,f,rfl⟩:=h;obtain⟨p,e,J⟩:=I.a;exact⟨I.b,p+j,by show z.i+j=_;rw[e];simp,by lia⟩
def Dr.rows(h:Dr a z z'):z'.a=z.a:=by obtain⟨k,_,rfl⟩:=h;rfl
def Dr.wh(h:Dr a z z'):z'.e=z.e:=by obtain⟨k,_,rfl⟩:=h;rfl
def Dr.dp(h:Dr a z z'):z'.b=z.b:=by obtain⟨k,_,rfl⟩:=h;rfl
def Dr.sz(h:Dr a z z'):z'.sz=z.sz:=by obtain⟨k,_,rfl⟩:=h;rfl
def cO.mono(h:cO z k)(e:k'<=k):cO z k':=⟨h.b,let ⟨p,q,r⟩:=h.a;⟨p,q,by lia⟩⟩
def IE(h:y≠0):iM .b (.j x) (.j y) σ=some (.j (x.fmod y),σ):=by
 exact dX (x:=t9 .b x y) (dr h)
def Va(h:y≠0)(k:y.natAbs < 1073741824):iM .e (.j x) (.j y) σ=some (.j (x.fdiv y),σ):=by
 exact dX (x:=t9 .e x y) (dr ⟨h,k⟩)
def Vb(h:fP x=true)(k:fP y=true):iM .d (.j x) (.j y) σ=some (.j (x*y),σ):=by
 exact dX (x:=t9 .d x y) (dr (by rw[h,k];rfl))
def AV(a b:Nat):(a:Int).fmod b=((a % b:Nat):Int):=by rw[XM _ (wZ b)];rfl
def Vc(a b:Nat):(a:Int).fdiv b=((a / b:Nat):Int):=by rw[Int.fdiv_eq_ediv_of_nonneg _ (wZ b)];rfl
def jL(U:cO z (k+1))(u:0 < n)(q:∀v z',v < n->Dr 1 z z'->cO z' k->Q (.j v) (st z' L)):ar (ai (N+1) 55 [.o 1,.j n] (st z L)) Q:=by
 obtain⟨⟨ns,e1,Y,H,E⟩,p,w,J⟩:=id U;refine az (ρ:=[some (.o 1),some (.j n),none]) rfl ?_;refine aP (a:=()) (σ:=st {z with i:=z.i+1} L) rfl ?_;have j:∀{σ:St},b1 .a (.r z.j) σ=some (.j ns.length,σ):=λ{σ}=>by
  rw[e1];have:=l0 (σ:=σ) (l:=ns.map λn:Nat=>V.j n) (by rw[bX];lia);rwa [bX]at this
 have I:(ns.length:Int)≠0:=by lia
 refine aP j ?_;refine ag (IE I) ?_;have hm:p % ns.length < ns.length:=Nat.mod_lt _ Y;have c:z.i.fmod ns.length=((p % ns.length:Nat):Int):=by rw[w,AV]
 have m:z.i.fdiv ns.length=((p / ns.length:Nat):Int):=by rw[w,Vc]
 have C:p / ns.length<=p:=Nat.div_le_self _ _;rw[c];refine ag (gn (b:=true) (l:=z.j) (t:=p % ns.length) (v:=.j (ns[p % ns.length]'hm)) rfl (by rw[e1,bX];lia) (by rw[e1,n1,iD hm];rfl)) ?_;refine aP j ?_;refine ag (Va I (by lia)) ?_;rw[m];refine ag (Vb rfl (yP (by lia))) ?_;refine ag rfl ?_;refine ag (IE (show(n:Int)≠0 by lia)) ?_;generalize ns[p % ns.length]'hm=a;have B:((a:Int)+7*((p / ns.length:Nat):Int)).fmod n=(((a+7*(p / ns.length)) % n:Nat):Int):=by
  rw[show(a:Int)+7*((p / ns.length:Nat):Int)=((a+7*(p / ns.length):Nat):Int)by simp,AV]
 have f:Dr 1 z {z with i:=z.i+1}:=⟨1,av _,rfl⟩;have:=q _ _ (Nat.mod_lt (a+7*(p / ns.length)) u) f (f.nums (U.mono (by lia)));rw[<-B]at this;exact this
end
section
variable{z:Z}{L B:List O}{n t i N h p r b j k:Nat}{Q:V->St->Prop}{e l S A G:List Nat}{σ:St}{T:Tb}
abbrev wu:List CS:=[.k (.w .a (.d 3) [.h (.h (.h (.d 1) (.u "store")) (.j 55 [.d 0,.g 19])) (.g 0)])]
def Vd(Y:v < 19):∃x:Nat,x∈cf/\∃y,(fZ.map λp=>V.p [.j p.1,.r (aa p.2)])[v]?=some (.p [.j x,y]):=by
 have h:v < fZ.length:=Y;refine⟨(fZ[v]).1,List.mem_map_of_mem (List.getElem_mem h),.r (aa (fZ[v]).2),?_⟩;rw[n1,iD h];rfl
def IF(U:cO z (k+1))(q:∀x z',x∈cf->Dr 1 z z'->cO z' k->Q (.j (x:Nat)) (st z' L)):ar (ai (N+1) 55 [.o 1,.j 19] (st z L)) λy σ=>bQ (di (.r (fZ.map λp=>V.p [.j p.1,.r (aa p.2)])) y σ) λx σ=>bQ (di x (.j 0) σ) Q:=by
 refine jL (n:=19) U (by decide) λv z' Y d g=>?_;obtain⟨x,H,y,e⟩:=Vd Y;refine ag (gn (b:=true) rfl (by decide) e) ?_;exact q x z' H d g
def Ve{b:V}(xs:List V):∀{z:Z} {L:List O} {out:List Nat} {J:Option V} {K:cY->ba->St->Prop},B <+:L->B.length<=j->L[j]?=some (.a (aa out))->(∀x∈out,x∈cf)->out.length+xs.length<=3->cO z (k+xs.length)->
  (∀c z' L' J,(∀x∈c,x∈cf)->c.length<=3->Dr xs.length z z'->cO z' k->B <+:L'->L'[j]?=some (.a (aa c))->K .a [some (.o 1),some (.o 12),some b,some (.o (j+14)),J] (st z' L'))->
  gm (λx ρ k σ=>bQ (fQ (.a 4) x ρ σ) λρ σ=>aM (ai (N+1)) wu ρ k σ) none xs [some (.o 1),some (.o 12),some b,some (.o (j+14)),J] K (st z L):=by
 induction xs with
 |nil=>
  intro z L out J K I E f ho Y U q;exact(q out z L J ho (by simpa using Y) Dr.refl U I f:_)
 |cons x xs ih=>
  intro z L out J K I E f ho Y U q;simp only[bI]at Y U q;show aM (ai (N+1)) wu [some (.o 1),some (.o 12),some b,some (.o (j+14)),some x] _ (st z L);refine ag (ec .a f (.inl rfl)) ?_;refine IF (k:=k+xs.length) (U.mono ("~PHpK4szRm?1F" id)) λy z' v d g=>?_;refine eb f (by rw[cI];exact "~1aDm^HvoMN4D" Y) ?_;refine ih (out:=out++[y]) (bE I E) E ?_ (λw H=>(aZ.mp H).elim (ho w) λh=>by rw[aB]at h;rw[h];exact v) (by rw[b_,Km];exact "~4v?tbU=wvrJl><F" Y) g λc z2 L2 J h1 h2 h3 h4 h5 h6=>q c z2 L2 J h1 h2 ((d.trans h3).mono ("~2DiI17x9Ar" id)) h4 h5 h6;rw[aT f,ic];rfl
structure Ls(w:Int)(l:List Nat):Prop where
 b:Ks l
 c:l.length<=3
 d:w≠0->l≠[13]
def IG(h:S.length<=3):(ae S).length<=3:=by
 induction S using bo with
 |nil=>decide|cons a l=>exact aL (m_ (by simp)) h
def II(h:∀x∈S,x∈cf)(Y:S.length<=3):Ls w (ae S)/\∀x∈ae S,x∈cf:=by
 have U:∀x∈ae S,x∈cf:=λx H=>h x (ct H);refine⟨⟨⟨⟨eE _,aL (IG Y) (by decide),.inr (.inr (.inr λx H=>.inl (U x H)))⟩,.inr (.inr (.inr U))⟩,IG Y,λJ e=>?_⟩,U⟩;exact absurd (U 13 (by rw[e];simp)) (by decide)
def Vf(h:τ=0\/τ=1\/τ=13)(e:w≠0->τ≠13):Ls w [τ]:=⟨wp h,by simp,λq Y=>e q (by simpa using Y)⟩
@[elab_as_elim] def Vg{p:Nat->Prop}(h0:p 0)(h1:p 1)(h2:p 2)(h3:p 3)(v:Nat)(h:v < 4):p v:=by
 have:v=0\/v=1\/v=2\/v=3:= "~<kbdwrbvwHfqqs>enLHajHErHxW?u>ktD7PS641D4L7>MGfAfKE2QukZ1dJ9GhYtHRS" h;rcases this with rfl |rfl |rfl |rfl
 .exact h0
 .exact h1
 .exact h2
 .exact h3
def pP(U:cO z (k+5))(I:am z)(hz:z.a.length < 4194304)(q:∀l z' L',Ls z.e l->(tops=false->∀x∈l,x∈cf)->Dr 5 z z'->cO z' k->L <+:L'->Q (.r (aa l)) (st z' L')):
  ar (ai (N+3) 59 [.o 1,.o 12,.w tops] (st z L)) Q:=by
 refine az (ρ:=[some (.o 1),some (.o 12),some (.w tops),none,none]) rfl ?_;have g:∀u,Dr 1 z u->cO u (k+4)->aM (ai (N+2)) [.g 3 (.r false []),.m (.a 4) (.b (.h (.r true [.g 2,.g 1,.g 3,.g 0]) (.j 55 [.d 0,.g 4]))) wu,
   .d (.j 57 [.h (.d 1) (.u "tab"),.d 3])] [some (.o 1),some (.o 12),some (.w tops),none,none] (dB Q) (st u L):=λu C U1=>by
  refine bY ?_;refine jL (k:=k+3) (n:=4) U1 (by decide) λv z2 Y d2 J=>?_;have a:=C.trans d2;have I2:=a.inv I;have fin:∀xs:List V,xs.length<=3->gm (λx ρ k σ=>bQ (fQ (.a 4) x ρ σ) λρ σ=>aM (ai (N+2)) wu ρ k σ) none xs [some (.o 1),some (.o 12),some (.w tops),some (.o (L.length+14)),none]
    (λf ρ σ=>match f with |.a=>aM (ai (N+2)) [.d (.j 57 [.h (.d 1) (.u "tab"),.d 3])] ρ (dB Q) σ |f=>dB Q f ρ σ) (st z2 (L++[.a []])):=λxs H=>by
   refine Ve (B:=L) (N:=N+1) (k:=k) xs (out:=[]) bp (av _) bk (λG h=>nomatch h) (by simpa using H) (J.mono ("~71>bAgxEV9V" H)) λout z3 E o4 h1 h2 h3 h4 h5 h6=>?_;have c:=a.trans h3;refine Hd (n:=N) (S:=out) (λL' p=>?_) (c.inv I) (by rw[c.rows];exact hz) (λx H=>(eG (c.inv I) (vM x (h1 x H))).d x br) ("~KeKoVn2KDpwt" h2) λL4 p4=>?_
   .exact iV (aC h6 p:L'[L.length]?=_)
   .have:=II (w:=z.e) h1 h2
    exact q _ z3 L4 this.1 (λG=>this.2) (c.mono ("~KeKp3d4pahYj" H)) h4 (h5.trans p4)
  exact Vg (fin _ (by decide)) (fin _ (by decide)) (fin _ (by decide)) (fin _ (by decide)) v Y
 refine bB (b:=tops) (λht=>?_) λht=>bF ht (DJ (g z (Dr.refl.mono (by decide)) (U.mono ("~2Dqt9pusjQ" id))))
 .refine jL (k:=k+4) (n:=7) U (by decide) λv u Y C U1=>?_
  refine bB (λo=>?_) λo=>DJ (g u C U1);have s:∀(m:Nat),m<=3->0 < m->(z.e≠0->m<=2)->ar (ai (N+2) 55 [.o 1,.j m] (st u L)) λy σ=>bQ (di (.r [.r [.j 0],.r [.j 1],.r [.j 13]]) y σ) λx σ=>oD x Q σ:=λm hm h0 hw=>by
   refine jL (N:=N+1) (k:=k+3) (n:=m) U1 h0 λv z2 Y d2 J=>?_;have fin:∀τ:Nat,(τ=0\/τ=1\/τ=13)->(z.e≠0->τ≠13)->Q (.r (aa [τ])) (st z2 L):=λτ h e=>q [τ] z2 L (Vf h e) (λe=>absurd (ht.symm.trans e) (by decide)) ((C.trans d2).mono ("~9wwzQerUy" id)) (J.mono ("~2hyEG<=^" id)) (aA _)
   match v,Y with
   |0,_=>exact fin 0 (.inl rfl) λG=>by decide
   |1,_=>exact fin 1 (.inr (.inl rfl)) λG=>by decide
   |2,Y=>exact fin 13 (.inr (.inr rfl)) λe=>by have:=hw e;lia
   |v+3,Y=>lia
  rw[<-C.wh]at s;refine bB (λhw=>?_) λhw=>?_
  .exact s 3 (by decide) (by decide) λe=>absurd (aH.mp hw) e
  .exact s 2 (by decide) (by decide) λe=>by decide
end
section
variable{z:Z}{L B:List O}{n t i N h p r b j k d:Nat}{Q:V->St->Prop}{e l S A G G0:List Nat}{σ:St}{T:Tb}{w:Int}{c a:Option (List Nat)}{x y s:Sd}
def Vh(n:cd l)(h:ae l=l):l.Pairwise (·<=·):=by
 rw[<-h,lQ n];exact kn.filter _
def Vi(h:ae l=l)(m:Nat):ae (l.take m)=l.take m:=by
 have sub:=List.take_sublist m l;rcases se h with n |⟨τ,Y,rfl⟩
 .have U:cd (l.take m):=⟨λq=>n.1 (sub.subset q),λq=>n.2.1 (sub.subset q),λq=>n.2.2 (sub.subset q)⟩
  have f:l.Nodup:=h▸ko;rw[lQ U];refine m8 (kn.filter _) ((Vh n h).sublist sub) (km.filter _) (f.sublist sub) λx=>?_;rw[c7,iW];refine⟨λq=>q.1,λq=>⟨q,?_⟩⟩;have H:x∈ae l:=h.symm▸sub.subset q;have:=((fD n).mp H).2;generalize e:aY (l.take m) x=E
  induction E using aS with
  |false=>rfl|true=>rw[vp (λy v=>sub.subset v) e]at this;cases this
 .induction m using dK with
  |zero=>rfl|succ m=>rw[Kn,BK];exact cW
def Vj(h:Ks l)(m:Nat):Ks (l.take m):=by
 have sub:=List.take_sublist m l;have one:∀τ:Nat,(τ=0\/τ=1\/τ=13)->Ks ([τ].take m):=λτ Y=>by
  induction m using dK with
  |zero=>exact Il|succ m=>rw[Kn,BK];exact wp Y
 rcases h.2 with e |e |e |e
 .subst e;exact one 0 (.inl rfl)
 .subst e;exact one 1 (.inr (.inl rfl))
 .subst e;exact one 13 (.inr (.inr rfl))
 .have U:∀x∈l.take m,x∈cf:=λx H=>e x (sub.subset H)
  exact⟨⟨Vi h.1.1 m,aL sub.length_le h.1.2.1,.inr (.inr (.inr λx H=>.inl (U x H)))⟩,.inr (.inr (.inr U))⟩
def Ls.take(h:Ls w l)(m:Nat):Ls w (l.take m):=by
 refine⟨Vj h.b m,aL (List.length_take_le' _ _) h.c,λY e=>?_⟩
 induction l using bo with
 |nil=>simp at e|cons a r=>
  induction m using dK with
  |zero=>cases e|succ m=>
   rw[Kn]at e;have U:a=13:=(jS e).1;subst U;rcases h.b.2 with q |q |q |q
   .exact absurd (jS q).1 (by decide)
   .exact absurd (jS q).1 (by decide)
   .exact h.d Y q
   .exact absurd (q 13 br) (by decide)
def iy(h:Ks l):27∉l/\28∉l:=by
 have:=wq h;unfold be at this;constructor <;>intro q <;>rw[bj.mpr q]at this <;>simp at this
structure As(w:Int)(l:List Nat):Prop where
 b:Kl l
 c:27∉l
 a:l.length<=4
 d:w≠0->l≠[13]
 q:28∈l->w=2\/w=3
def Ls.as(h:Ls w l):As w l:=⟨h.b.1,(iy h.b).1,aL h.c (by decide),h.d,λq=>absurd q (iy h.b).2⟩
def IJ(h:Ks l)(Y:l.length<=3):Kl (ae (l++[28]))/\27∉ae (l++[28])/\(ae (l++[28])).length<=4/\(ae (l++[28])=[13]->l=[13]):=by
 have U:(ae (l++[28])).length<=4:=aL (m_ (by simp)) (by simpa using Y);refine⟨⟨eE _,aL U (by decide),?_⟩,λq=>?_,U,λq=>?_⟩
 .rcases h.2 with e |e |e |e
  .subst e;exact .inl (by decide)
  .subst e;exact .inr (.inl (by decide))
  .subst e;exact .inr (.inr (.inl (by decide)))
  .refine .inr (.inr (.inr λx H=>?_))
   rcases aZ.mp (ct H)with q |q
   .exact .inl (e x q)
   .rw[aB]at q;exact .inr (.inr q)
 .rcases aZ.mp (ct q)with q |q
  .exact(iy h).1 q
  .rw[aB]at q;cases q
 .have:13∈ae (l++[28]):=by rw[q];simp
  rcases aZ.mp (ct this)with q |q
  .rcases h.2 with e |e |e |e
   .subst e;simp at q
   .subst e;simp at q
   .exact e
   .exact absurd (e 13 q) (by decide)
  .rw[aB]at q;cases q
def Vk(h:Ls w l)(Y:w=2\/w=3):As w (ae (l++[28])):=
 let ⟨h1,h2,h3,h4⟩:=IJ h.b h.c
 ⟨h1,h2,h3,λq e=>h.d q (h4 e),λJ=>Y⟩
abbrev eO(w:Int):Sd->Prop
 |.T=>True|.k l=>Ls w l/\∀x∈l,x∈cf|.b l=>Ls w l/\∀x∈l,x∈cf|.q c a x y d=>(∀l,c=some l->Ls w l)/\(∀l,a=some l->As w l)/\eO w x/\eO w y/\d<=1
theorem eO.ok:∀{s:Sd},eO w s->s.Ok
 |.T,_=>trivial|.k _,h=>h.1.b.1|.b _,h=>h.1.b.1|.q ..,⟨h1,h2,h3,h4,h5⟩=>⟨λl e=>(h1 l e).b.1,λl e=>(h2 l e).b,h3.ok,h4.ok,h5⟩
theorem eO.dk:∀{s:Sd},eO w s->s.eN
 |.T,_=>trivial|.k _,h=>(iy h.1.b).1|.b _,h=>(iy h.1.b).1|.q ..,⟨h1,h2,h3,h4,h5⟩=>⟨λl e=>⟨(iy (h1 l e).b).1,aL (h1 l e).c (by decide)⟩,λl e=>⟨(h2 l e).c,(h2 l e).a⟩,h3.dk,h4.dk⟩
theorem eO.nt:∀{s:Sd},eO w s->s.Nt
 |.T,_=>trivial|.k _,h=>h.2|.b _,h=>h.2|.q ..,⟨h1,h2,h3,h4,h5⟩=>⟨λl e=>(iy (h1 l e).b).2,h3.nt,h4.nt⟩
theorem eO.lW(Y:¬ (w=2\/w=3)):∀{s:Sd},eO w s->s.dx
 |.T,_=>trivial|.k _,h=>(iy h.1.b).2|.b _,h=>(iy h.1.b).2|.q ..,⟨h1,h2,h3,h4,h5⟩=>⟨λl e=>(iy (h1 l e).b).2,λl e q=>Y ((h2 l e).q q),h3.lW Y,h4.lW Y⟩
theorem eO.cG(Y:w≠0):∀{s:Sd},eO w s->s.ir
 |.T,_=>trivial|.k _,h=>trivial|.b _,h=>trivial|.q ..,⟨h1,h2,h3,h4,h5⟩=>⟨λe=>(h1 _ e).d Y rfl,λe=>(h2 _ e).d Y rfl,h3.cG Y,h4.cG Y⟩
abbrev bA:Nat->Nat |0=>12 |h+1=>6*(2*bA h+1)
abbrev bS:Nat->Nat |0=>1 |h+1=>2*bS h+3
abbrev bC:Nat->Nat |0=>0 |h+1=>6*(3+2*(bS h+bC h+1)+2*bC h)
theorem nQ:∀h,12<=bA h/\1<=bS h
 |0=>by decide
 |h+1=>by have:=nQ h;show 12<=6*(2*bA h+1)/\1<=2*bS h+3;exact "~1Y0aW0|KvpIKI7tjR=Fkw<m2Js;" this
theorem wv:∀{s:Sd} {h:Nat},s.Le h->s.al<=bA h/\s.sc<=bS h/\s.ac<=bC h
 |.T,h,_=>⟨(nQ h).1,(nQ h).2,bb _⟩|.k _,h,_=>⟨(nQ h).1,(nQ h).2,bb _⟩|.b _,h,_=>⟨(nQ h).1,(nQ h).2,bb _⟩|.q c a x y d,h+1,⟨h1,h2⟩=>by
  have v1:=wv h1;have v2:=wv h2;show 6*(x.al+y.al+1)<=6*(2*bA h+1)/\x.sc+y.sc+3<=2*bS h+3/\6*(3+(x.sc+x.ac+1)+(y.sc+y.ac+1)+x.ac+y.ac)<=6*(3+2*(bS h+bC h+1)+2*bC h);exact "~ByH?SaqRBmG|3qt2<xgw^YcN6rUb2SXHQaf1EG<vEBbBA6yL^M<;|C>4GdJaEZhTq6FEb6xvC^qCeh" v1 v2
theorem ww(g:List Nat):∀{s:Sd} {h:Nat},s.Le h->(bu g s).Le h
 |.T,_,_=>trivial|.k _,_,_=>trivial|.b _,_,_=>trivial|.q c a x y d,h+1,⟨h1,h2⟩=>⟨ww g h1,ww g h2⟩
def tm(C:Kl l)(n:l.length<=4)(Y:∀x∈G,x∈gv)(U:G.length<=2):Kl (aQ G l):=by
 unfold aQ
 split
 .rename_i h
  have hm:∀x∈l.filter (λt=>t !=28)++G,x∈cf\/x=27\/x=28:=λx H=>(aZ.mp H).elim (λq=>zZ C h x (c7.mp q).1) λq=>.inl (jJ x (Y x q)).2.2.2.2.2.2.2.2.2.2.2;refine⟨eE _,?_,.inr (.inr (.inr λx H=>hm x (ct H)))⟩;have hf:(l.filter λt=>t !=28).length<=l.length:=jR _ _;rcases Nat.eq_zero_or_pos (l.filter (λt=>t !=28)++G).length with q |q
  .rw[List.eq_nil_of_length_eq_zero q];decide
  .exact aL (m_ q) (by rw[b_];exact "~17toZcbK;deBPxVn" U n hf)
 .exact C
theorem AW(H:∀x∈G,x∈gv)(Y:G.length<=2):∀{s:Sd},eO w s->(bu G s).Ok
 |.T,_=>trivial|.k _,h=>tm h.1.b.1 (aL h.1.c (by decide)) H Y
 |.b _,h=>tm h.1.b.1 (aL h.1.c (by decide)) H Y
 |.q c a x y d,⟨h1,h2,h3,h4,h5⟩=>by
  refine⟨λl e=>?_,λl e=>?_,AW H Y h3,AW H Y h4,h5⟩
  .induction c using aX with
   |none=>cases e|some m=>cases e;exact tm (h1 m rfl).b.1 (aL (h1 m rfl).c (by decide)) H Y
  .induction a using aX with
   |none=>cases e|some m=>cases e;exact tm (h2 m rfl).b (h2 m rfl).a H Y
def Vl:aQ G0=aQ (ae G0):=funext λl=>by unfold aQ;rw[eD]
def Vm(Y:eO w (.q c a x y d))(le:(Sd.q c a x y d).Le 3)(C:Kl e)(v:Ne e)(J:28∈e->w=1)(kg:Kl G)(I:∀x∈G,x∈gv)(E:G.length<=2):HV c a x y d e G:=by
 have U:=wv le;have H:=wv (ww G le);have b1:bA 3=21678:=by decide
 have g:bS 3=29:=by decide
 have o:bC 3=26538:=by decide
 rw[b1,g,o]at U H;refine⟨Y.ok,Y.dk,Y.nt,le,?_,?_, "~55KdHTegV_XdqzI0q4HHe50Th8XNBz" U, "~5i7zjW;tR5Jb6l>EHWOa_OYnh=SW" U, "~55KdHTegV_XdqzI0q4HHe4v|Kq6vp1" U,C,v,kg,I,E,AW I E Y, "~55KdHTegV_XdqzI0q4HHe50Th8XNBz" H, "~55KdHTegV_XdqzI0q4HHe4v|Kq6vp1" H,tm C v.2 I E⟩
 .by_cases q:28∈e
  .exact .inr (Y.lW (by rw[J q];decide))
  .exact .inl q
 .by_cases q:w=0
  .exact .inr ⟨λk=>by rw[q]at J;exact absurd (J k) (by decide),Y.lW (by rw[q];decide)⟩
  .exact .inl (Y.cG q)
end
section
variable{z:Z}{L B:List O}{n t i N h p r b j k d:Nat}{Q:V->St->Prop}{e l S A G G0:List Nat}{σ:St}{T:Tb}{w:Int}{c a:Option (List Nat)}{x y s:Sd}
abbrev nD:Nat->Nat |0=>37 |m+1=>25+2*nD m
theorem IK:∀m,37<=nD m
 |0=>by decide
 |m+1=>by have:=IK m;show 37<=25+2*nD m;exact "~xo6NlmNCTN>?qfUc^" this
abbrev pQ(m N:Nat):Prop:=∀(i:Int) (z:Z) (L:List O) (Q:V->St->Prop) (k:Nat),i=m->cO z (k+nD m)->am z->z.a.length < 4194304->
 (∀c a x y d z' L',eO z.e (.q c a x y d)->(Sd.q c a x y d).Le (m+1)->Dr (nD m) z z'->cO z' k->L <+:L'->Q (cg c a x y d) (st z' L'))->ar (ai N 60 [.o 1,.o 12,.j i] (st z L)) Q
abbrev tn:List CS:=[.g 7 (.A .b (.A .a (.j 55 [.d 0,.g 6]) (.d 6)) (.g 6)),.h (.z [.n .b (.d 7) (.t [.g 1,.g 5]),.n .e (.d 2) (.d 6)]) [.k (.w .a (.d 5) [.t [.u "q",.j 60 [.d 0,.d 1,.A .c (.d 2) (.g 1)]]])]
 [.h (.n .a (.d 7) (.g 2)) [.k (.w .a (.d 5) [.t [.u "|",.j 59 [.d 0,.d 1,.B false]]])] [.k (.w .a (.d 5) [.C (.n .b (.d 7) (.t [.g 1,.g 3])) (.t [.u "k",.j 59 [.d 0,.d 1,.B false]]) (.t [.u "T",.r true []])])]]]
abbrev Vn(C:CT)(K:cY->ba->St->Prop):cY->ba->St->Prop:=λf ρ σ=>match f with |.a=>aM C [] ρ K σ |f=>K f ρ σ
abbrev sD(m:Nat):Nat:=match m with |0=>6 |m+1=>1+nD m
def IL{go:Nat}(IH:∀m',m=m'+1->pQ m' (N+3))(U:cO z (k+sD m))(I:am z)(hz:z.a.length < 4194304)(pB:B <+:L)(E:B.length<=j)(f:L[j]?=some (.a out))(Y:out.length < 4194304)
  (q:∀s z' L' o7,eO z.e s->s.Le m->Dr (sD m) z z'->cO z' k->B <+:L'->L'[j]?=some (.a (out++[dw s]))->K .a [some (.o 1),some (.o 12),some (.j m),some g,some o4,some (.o (j+14)),some (.j go),o7] (st z' L')):
  aM (ai (N+3)) tn [some (.o 1),some (.o 12),some (.j m),some g,some o4,some (.o (j+14)),some (.j go),o7] K (st z L):=by
 have o:6<=sD m:=by induction m using dK with |zero=>decide |succ m=>(have:=IK m;show 6<=1+nD m;exact "~KkQNVmEfczf<" this)
 refine jL (k:=k+(sD m - 1)) (n:=6) (U.mono ("~<eSrEM6C6VYLpysR=id>" ao o)) (by decide) λv z1 hv C U1=>?_
 suffices tl:∀u:Nat,aM (ai (N+3)) (tn.drop 1) [some (.o 1),some (.o 12),some (.j m),some g,some o4,some (.o (j+14)),some (.j go),some (.j u)] K (st z1 L)by
  have:=tl ((v+go) % 6);rw[<-AV (v+go) 6,show((v+go:Nat):Int)=(v:Int)+(go:Int)by simp]at this;exact this
 intro u;have I1:=C.inv I;have gM:z1.a.length < 4194304:=by rw[C.rows];exact hz
 have w1:=C.wh;have lst:∀(tg:String) (mk:List Nat->Sd),(∀l,dw (mk l)=.p [.u tg,.r (aa l)])->(∀l,Ls z.e l->(∀x∈l,x∈cf)->eO z.e (mk l)/\(mk l).Le m)->
   ar (ai (N+3) 59 [.o 1,.o 12,.w false] (st z1 L)) λv σ=>bm (cm .a (.o (j+14)) [.p [.u tg,v]] σ) λQ σ=>K .a [some (.o 1),some (.o 12),some (.j m),some g,some o4,some (.o (j+14)),some (.j go),some (.j u)] σ:=λtg mk hE hm=>by
  refine pP (tops:=false) (k:=k) (U1.mono ("~mODkaR2<Do8D6toxlez" ao o)) I1 gM λl z2 L2 IM rC d2 J p2=>?_;rw[w1]at IM;obtain⟨m1,m2⟩:=hm l IM (rC rfl);refine eb (aC f p2) Y ?_;rw[<-hE];exact q (mk l) z2 _ _ m1 m2 ((C.trans d2).mono ("~Pr9fPfhrqC" o)) J (bE (pB.trans p2) E) (aT (aC f p2))
 have leaf:aM (ai (N+3)) [.h (.n .a (.d 7) (.g 2)) [.k (.w .a (.d 5) [.t [.u "|",.j 59 [.d 0,.d 1,.B false]]])] [.k (.w .a (.d 5) [.C (.n .b (.d 7) (.t [.g 1,.g 3])) (.t [.u "k",.j 59 [.d 0,.d 1,.B false]]) (.t [.u "T",.r true []])])]]
   [some (.o 1),some (.o 12),some (.j m),some g,some o4,some (.o (j+14)),some (.j go),some (.j u)] (Vn (ai (N+3)) K) (st z1 L):=by
  refine bB (λQ=>?_) λQ=>?_
  .refine ag (ec .a f (.inl rfl)) ?_
   exact lst "|" .b (λQ=>rfl) λl h1 h2=>⟨⟨h1,h2⟩,trivial⟩
  .refine ag (ec .a f (.inl rfl)) ?_
   refine bB (λQ=>?_) λQ=>?_
   .exact lst "k" .k (λQ=>rfl) λl h1 h2=>⟨⟨h1,h2⟩,trivial⟩
   .refine eb f Y ?_
    exact q .T z1 _ _ trivial trivial (C.mono ("~Vuyjs5WQ" o)) (U1.mono ("~1CJ2KxGUpiM8IC" ao)) (bE pB E) (aT f)
 refine bB (λQ=>?_) λh=>bF h leaf;refine bB (λH=>?_) λQ=>leaf;have H:(go:Int) < m:=mq H;obtain⟨m',rfl⟩:∃m',m=m'+1:=⟨m - 1,by lia⟩;refine ag (ec .a f (.inl rfl)) ?_;refine IH m' rfl _ z1 L _ k ("~KmWkpL;JDSD1" id) (U1.mono (by show k+nD m'<=k+(1+nD m' - 1);exact "~44onYdJHjHITsA7ub" ao)) I1 gM λc a x y d z2 L2 hq le d2 J p2=>?_;rw[w1]at hq;refine eb (aC f p2) Y ?_;exact q (.q c a x y d) z2 _ _ hq le ((C.trans d2).mono (by show 1+nD m'<=1+nD m';exact "~2Dohr|yYrE" id)) J (bE (pB.trans p2) E) (aT (aC f p2))
end
section
variable{z:Z}{L B:List O}{n t i N h p r b j k d:Nat}{Q:V->St->Prop}{e l S A G G0:List Nat}{σ:St}{T:Tb}{w:Int}{c a:Option (List Nat)}{x y s:Sd}
abbrev wz:List CS:=[.g 5 (.r false []),.m (.a 6) (.b (.g 2)) tn,.d (.t [.d 3,.d 4,.h (.d 5) (.g 0),.h (.d 5) (.g 1),.h (.r true [.g 1,.g 1,.g 0]) (.j 55 [.d 0,.g 3])])]
abbrev IN:List CS:=[.g 4 (.t [.u "k",.j 57 [.h (.d 1) (.u "tab"),.A .a (.h (.d 4) (.g 1)) (.r true [.h (.d 1) (.u "q")])]])]
abbrev IP:List CS:=.g 4 (.t [.u "T",.r true []])::.h (.n .c (.j 55 [.d 0,.g 5]) (.g 4)) [.g 4 (.t [.u "k",.j 59 [.d 0,.d 1,.B true]]),
 .h (.D [.z [.n .a (.h (.d 1) (.u "where")) (.g 2),.n .a (.d 2) (.g 2)],.z [.n .a (.h (.d 1) (.u "where")) (.g 3),.n .f (.d 2) (.g 2)]]) IN []] []::wz
abbrev AX(C:CT)(r:List CS)(K:cY->ba->St->Prop):cY->ba->St->Prop:=λf ρ σ=>match f with |.a=>aM C r ρ K σ |f=>K f ρ σ
def Vo{C:CT}{r:List CS}(h:aM C r ρ K σ):aM C [] ρ (AX C r K) σ:=h
def AY(f:∀m',m=m'+1->pQ m' (n+3))(I:am z)(hz:z.a.length < 4194304)(o:∀l,c=some l->Ls z.e l)(ha:∀l,a=some l->As z.e l)(D:Dr 12 z u)(U:cO u (k+2*sD m+1))(g:L <+:L1)
  (q:∀c a x y d z' L',eO z.e (.q c a x y d)->(Sd.q c a x y d).Le (m+1)->Dr (nD m) z z'->cO z' k->L <+:L'->Q (cg c a x y d) (st z' L')):
  aM (ai (n+3)) wz [some (.o 1),some (.o 12),some (.j m),some (e9 c),some (e9 a),none,none,none] (dB Q) (st u L1):=by
 have hD:12+sD m+sD m+1<=nD m:=by induction m using dK with |zero=>decide |succ m=>(show 12+(1+nD m)+(1+nD m)+1<=25+2*nD m;exact "~3M3gpXH44x=nxRFLRnW61" id)
 have rows:∀{c:Nat} {z':Z},Dr c u z'->z'.a.length < 4194304:=λd=>by rw[d.rows,D.rows];exact hz
 refine bY ?_;show aM (ai (n+3)) tn [some (.o 1),some (.o 12),some (.j m),some (e9 c),some (e9 a),some (.o (L1.length+14)),some (.j (0:Nat)),none] _ (st u (L1++[.a []]));refine IL (k:=k+sD m+1) (B:=L1) (out:=[]) f (U.mono ("~5na4Je^yVXFeGUc" id)) (D.inv I) (rows Dr.refl) bp (av _) bk (by decide) λs1 z2 L2 o7 h1 h2 d2 J p2 j2=>?_;have w2:=D.wh;show aM (ai (n+3)) tn [some (.o 1),some (.o 12),some (.j m),some (e9 c),some (e9 a),some (.o (L1.length+14)),some (.j (1:Nat)),o7] _ (st z2 L2);refine IL (k:=k+1) (B:=L1) (out:=[dw s1]) f (J.mono ("~PHpLv5<45Wvs" id)) (d2.inv (D.inv I)) (rows d2) p2 (av _) j2 (by simp) λs2 z3 E H h3 h4 d3 U3 p3 j3=>?_;have hs:bt (st z3 E) (.o (L1.length+14))=some (true,[dw s1,dw s2]):=iV j3;show aM (ai (n+3)) [.d (.t [.d 3,.d 4,.h (.d 5) (.g 0),.h (.d 5) (.g 1),.h (.r true [.g 1,.g 1,.g 0]) (.j 55 [.d 0,.g 3])])] [some (.o 1),some (.o 12),some (.j m),some (e9 c),some (e9 a),some (.o (L1.length+14)),some (.j (1:Nat)),H] (dB Q) (st z3 E);refine ag (gn (t:=0) hs (bP rfl) rfl) ?_;refine ag (gn (t:=1) hs (bP rfl) rfl) ?_;refine jL (k:=k) (n:=3) U3 (by decide) λv z4 hv d4 C=>?_;rw[w2]at h1;rw[d2.wh,w2]at h3;have fin:∀d:Nat,d<=1->Q (cg c a s1 s2 d) (st z4 E):=λd Y=>q c a s1 s2 d z4 E ⟨o,ha,h1,h3,Y⟩ ⟨h2,h4⟩ ((((D.trans d2).trans d3).trans d4).mono hD) C (g.trans p3)
 match v,hv with
 |0,_=>exact fin 1 (by decide)|1,_=>exact fin 1 (by decide)|2,_=>exact fin 0 (by decide)
def IQ(f:∀m',m=m'+1->pQ m' (n+3))(I:am z)(hz:z.a.length < 4194304)(o:∀l,c=some l->Ls z.e l)(D:Dr 6 z u)(U:cO u (k+2*sD m+7))(g:L <+:L1)
  (q:∀c a x y d z' L',eO z.e (.q c a x y d)->(Sd.q c a x y d).Le (m+1)->Dr (nD m) z z'->cO z' k->L <+:L'->Q (cg c a x y d) (st z' L')):
  aM (ai (n+3)) IP [some (.o 1),some (.o 12),some (.j m),some (e9 c),none,none,none,none] (dB Q) (st u L1):=by
 refine jL (k:=k+2*sD m+6) (n:=5) U (by decide) λv z2 hv d2 J=>?_;refine bB (λG=>?_) λG=>AY (c:=c) (a:=none) f I hz o (λl e=>nomatch e) ((D.trans d2).mono ("~2E59_VTnLJ" id)) (J.mono ("~5n^Jz8TmmGDO3Xq" id)) g q;have rows:∀{c:Nat} {z':Z},Dr c z z'->z'.a.length < 4194304:=λd=>by rw[d.rows];exact hz
 have D2:=D.trans d2;refine pP (tops:=true) (k:=k+2*sD m+1) J (D2.inv I) (rows D2) λl z3 E Y G d3 U3 p3=>?_;have C:=D2.trans d3;have I3:=C.inv I;rw[D2.wh]at Y;have Vp:=C.wh;have no:aM (ai (n+3)) wz [some (.o 1),some (.o 12),some (.j m),some (e9 c),some (e9 (some l)),none,none,none] (dB Q) (st z3 E):=
  AY (c:=c) (a:=some l) f I hz o (λl' e=>by cases e;exact Y.as) C U3 (g.trans p3) q
 have add:(z3.e=2\/z3.e=3)->aM (ai (n+3)) IN [some (.o 1),some (.o 12),some (.j m),some (e9 c),some (e9 (some l)),none,none,none] (AX (ai (n+3)) [] (AX (ai (n+3)) wz (dB Q))) (st z3 E):=λhw=>by
  rw[Vp]at hw;have si:=Y.c;refine ag (jH (l:=l) (m:=[28]) (by simp;exact "~Pg|OryidVW" si)) ?_;refine sR (n:=n+1) (S:=l++[28]) I3 (rows C) (λx H=>?_) (by simp;exact "~GQbB7XVD;3LZ7I" si) λL4 p4=>?_
  .rcases aZ.mp H with h |h
   .exact Y.b.1.part I3 x h
   .rw[aB]at h;rw[h];exact(eG I3 (by decide:28∈aD)).d 28 br
  .exact AY (c:=c) (a:=some (ae (l++[28]))) f I hz o (λl' e=>by cases e;exact Vk Y hw) C U3 ((g.trans p3).trans p4) q
 refine bB (λh2=>?_) λh2=>?_
 .have hw:z3.e=2\/z3.e=3:=.inl (aH.mp h2)
  refine bB (λh=>?_) λh=>?_
  .exact bT h (add hw)
  .refine bB (λh3=>?_) λh3=>?_
   .refine bB (λh=>add hw) λh=>no
   .exact bF h3 no
 .refine bF h2 ?_
  refine bB (λh3=>?_) λh3=>?_
  .refine bB (λh=>add (.inr (aH.mp h3))) λh=>no
  .exact bF h3 no
def Vq{m:Nat}(Y:l.length<=3)(hm:m<=100):qT (.r (aa l)) .z (.j ((m:Int)+1)) σ=some (.r (aa (l.take (m+1))),σ):=by
 have U:fP ((m:Int)+1)=true:=yP (t:=m+1) (by lia);have J:qS (.j ((m:Int)+1))=some (some ((m:Int)+1)):=dr U;have e:iL (aa l) none (some ((m:Int)+1))=aa (l.take (m+1)):=by
  unfold iL og;simp only[List.drop_zero];rw[ab ("~1udVVCpUd2;l" id),show((m:Int)+1).toNat=m+1 from "~2mdO;qk1bL56lN2h76U0=ZpMy40^j;9BJsGk" oe];unfold aa;rw[<-List.map_take,bX];rcases w7 l.length (m+1)with h |h
  .rw[BG h,Kd,tG h]
  .rw[BH h]
 show(qS (.j ((m:Int)+1))).bind _=_;rw[J];refine dW (show(aa l).length < bs by rw[cI];exact fK Y (by decide)) ?_;show some (V.r (iL (aa l) none (some ((m:Int)+1))),σ)=_;rw[e]
def IS{m:Nat}(hm:m<=100)(f:∀m',m=m'+1->pQ m' (n+3)):pQ m (n+4):=λi z L Q k hi U I hz q=>by
 subst hi;have E:12+sD m+sD m+1<=nD m:=by induction m using dK with |zero=>decide |succ m=>(show 12+(1+nD m)+(1+nD m)+1<=25+2*nD m;exact "~3M3gpXH44x=nxRFLRnW61" id)
 refine az (ρ:=[some (.o 1),some (.o 12),some (.j m),none,none,none,none,none]) rfl ?_;refine jL (k:=k+2*sD m+12) (n:=3) (U.mono ("~e;uIJ32lS;=tKx|3V4^H<" E)) (by decide) λv u o C H=>?_;refine bB (λG=>?_) λG=>Vo (r:=IP) (IQ (c:=none) f I hz (λl e=>nomatch e) (C.mono (by decide)) (H.mono ("~1Hw739UEXH0qatmL" id)) (aA _) q);refine pP (tops:=true) (k:=k+2*sD m+7) H (C.inv I) (by rw[C.rows];exact hz) λl z2 L2 Y G d2 J p2=>?_;rw[C.wh]at Y;refine ag (Vq (m:=m) Y.c hm) ?_;have fin:=IQ (c:=some (l.take (m+1))) f I hz (λl' e=>by cases e;exact Y.take _) ((C.trans d2).mono (by decide)) (J.mono ("~5o4p5anyyAXBS50" id)) p2 q;exact fin
def Vr(hm:m<=100):∀{N:Nat},4+m<=N->pQ m N:=by
 induction m with
 |zero=>
  intro N h;obtain⟨n,rfl⟩:=eV (k:=4) (N:=N) ("~PoA7upV^Nl" h);exact IS hm λm' e=>by lia
 |succ m ih=>
  intro N h;obtain⟨n,rfl⟩:=eV (k:=4) (N:=N) ("~1b5y=FYjRFgy" h);refine IS hm λm' e=>?_;obtain rfl:m=m':= "~1ChNeWvXpz<>Wo" e;exact ih ("~GBzLhax9E2qT8K" hm) ("~47yzldmcs<stS;j^J" h)
end
def Vs:∀{ρ:ba} {σ:St},aM C (pre++rest) ρ K σ=aM C pre ρ (iQ (aM C rest) K) σ:=by
 induction pre with
 |nil=>
  intro ρ σ;exact rfl
 |cons s pre ih=>
  intro ρ σ;have:iQ (aM C (pre++rest)) K=iQ (aM C pre) (iQ (aM C rest) K):=funext λf=>funext λρ=>funext λσ=>by
   induction f using Mine.Lake.cY.casesOn with
   |a=>exact ih|_=>rfl
  show yg C s ρ (iQ (aM C (pre++rest)) K) σ=yg C s ρ (iQ (aM C pre) (iQ (aM C rest) K)) σ;rw[this]
def Vt(e:ol (bv f) args=some ρ)(T:(bv f).c=pre++rest)(J:∀K:Fl,aM (ai n) pre ρ K σ=K .a ρ1 A)(h:aM (ai n) rest ρ1 (dB Q) A):ar (ai (n+1) f args σ) Q:=
 az e (by rw[T,Vs,J];exact h)
abbrev zS(nums:List V):Z:=⟨0,nums,0,da,[.j 6,.j (-1),.j (-1)],[.j (-1),.j (-1),.j (-1)],[.u "R",.u "T",.u "Q"],0⟩
abbrev AZ:ba:=[some (.o 1),some (.o 2),some (.o 10),some (.r (fZ.map λp=>.p [.j p.1,.r (aa p.2)])),some (.o 12),some (.j 11),some (.r [.j 11]),none,none,none,none,none]
def Vu(N:Nat)(nums:List V)(K:Fl):jp (λp=>p) (uw (λp=>p) (N+20)) (qY.c.take 5) [some (.o 1),none,none,none,none,none,none,none,none,none,none,none] K [.d,.a [.j 0,.r nums]]=K .a AZ (st (zS nums) []):=by
 kernel_rfl
def Vv(N:Nat)(nums:List V)(K:Fl):aM (ai (N+20)) (qY.c.take 5) [some (.o 1),none,none,none,none,none,none,none,none,none,none,none] K [.d,.a [.j 0,.r nums]]=K .a AZ (st (zS nums) []):=by
 have:=Vu N nums K;rw[<-Of]at this;exact this
section
variable{z:Z}{L B:List O}{n t i N h p r b j k d:Nat}{Q:V->St->Prop}{e l S A G G0:List Nat}{σ:St}{T:Tb}{w:Int}{c a:Option (List Nat)}{x y s:Sd}
abbrev i_:Nat->Nat |0=>4 |h+1=>2*i_ h+6
abbrev pR:Nat->Nat |0=>4 |h+1=>pR h+2*i_ h+12
theorem jM:∀h,4<=i_ h/\4<=pR h
 |0=>by decide
 |h+1=>by have:=jM h;show 4<=2*i_ h+6/\4<=pR h+2*i_ h+12;exact "~3PyexUHO5m;qb__9Npk" id
theorem wA:∀{s:Sd} {h:Nat},s.Le h->s.hf<=i_ h/\s.AF<=pR h/\s.wf<=i_ h
 |.T,h,_=>⟨(jM h).1,(jM h).2,(jM h).1⟩|.k _,h,_=>⟨(jM h).1,(jM h).2,(jM h).1⟩|.b _,h,_=>⟨(jM h).1,(jM h).2,(jM h).1⟩|.q c a x y d,h+1,⟨h1,h2⟩=>by
  have v1:=wA h1;have v2:=wA h2;show x.hf+y.hf+6<=2*i_ h+6/\Nat.max x.AF y.AF+x.hf+y.hf+12<=pR h+2*i_ h+12/\x.wf+y.wf+4<=2*i_ h+6;lia
def cO.gr{c:Nat}(h:cO z k)(g:Gr c z z'):cO z' k:=⟨by rw[g.k];exact h.b,by rw[g.j];exact h.a⟩
def Vw(nums:List V):am (zS nums):=⟨show da.Nodup by decide+kernel,aA _,λt r h e=>by
  have:t < 29:=(bW.mp e).1;lia,⟨0,rfl⟩,rfl,rfl,rfl⟩
abbrev wB:CE:=.h (.h (.d 3) (.j 55 [.d 0,.g 19])) (.g 0)
theorem Vx:∀v:Nat,v < 5->∃G0:List Nat,([V.r [],.r [.j 5],.r [.j 4,.j 5],.r [.j 9,.j 8],.r [.j 3,.j 4]]:List V)[v]?=some (.r (aa G0))/\Kg G0/\Kl (ae G0)/\(∀x∈ae G0,x∈gv)/\(ae G0).length<=2
 |0,_=>⟨[],rfl,⟨by decide,by decide⟩,⟨by decide,by decide,.inr (.inr (.inr λx H=>nomatch H))⟩,by decide,by decide⟩
 |1,_=>⟨[5],rfl,⟨by decide,by decide⟩,⟨by decide,by decide,.inr (.inr (.inr (by decide)))⟩,by decide,by decide⟩
 |2,_=>⟨[4,5],rfl,⟨by decide,by decide⟩,⟨by decide,by decide,.inr (.inr (.inr (by decide)))⟩,by decide,by decide⟩
 |3,_=>⟨[9,8],rfl,⟨by decide,by decide⟩,⟨by decide,by decide,.inr (.inr (.inr (by decide)))⟩,by decide,by decide⟩
 |4,_=>⟨[3,4],rfl,⟨by decide,by decide⟩,⟨by decide,by decide,.inr (.inr (.inr (by decide)))⟩,by decide,by decide⟩
 |v+5,h=>by lia
def Vy(xs:List V):∀{z:Z} {L:List O} {out:List Nat} {K:St->Prop} {ρ:ba},ρ[3]?=some (some (.r (fZ.map λp=>.p [.j p.1,.r (aa p.2)])))->ρ[0]?=some (some (.o 1))->B <+:L->B.length<=j->L[j]?=some (.a (aa out))->(∀x∈out,x∈cf)->out.length+xs.length<=3->cO z (k+xs.length)->
  (∀J z' L',(∀x∈J,x∈cf)->J.length<=3->Dr xs.length z z'->cO z' k->B <+:L'->L'[j]?=some (.a (aa J))->K (st z' L'))->
  eu (λx k σ=>bK (ai (N+1)) wB (ρ.set 11 (some x)) (λv σ=>bm (cm .a (.o (j+14)) [v] σ) λQ σ=>k σ) σ) none xs K (st z L):=by
 induction xs with
 |nil=>
  intro z L out K ρ h3 h0 I E f ho Y U q;exact(q out z L ho (by simpa using Y) Dr.refl U I f:_)
 |cons x xs ih=>
  intro z L out K ρ h3 h0 I E f ho Y U q;simp only[bI]at Y U q;have H:(ρ.set 11 (some x))[3]?=some (some (.r (fZ.map λp=>.p [.j p.1,.r (aa p.2)]))):=by rw[qh (by decide)];exact h3
  have u:(ρ.set 11 (some x))[0]?=some (some (.o 1)):=by rw[qh (by decide)];exact h0
  show bK (ai (N+1)) wB (ρ.set 11 (some x)) (λv σ=>bm (cm .a (.o (j+14)) [v] σ) λQ σ=>eu _ none xs K σ) (st z L);unfold wB;have o:ar (ai (N+1) 55 [.o 1,.j 19] (st z L)) λy σ=>bQ (di (.r (fZ.map λp=>V.p [.j p.1,.r (aa p.2)])) y σ) λx' σ=>bQ (di x' (.j 0) σ) λv σ=>bm (cm .a (.o (j+14)) [v] σ) λQ σ=>eu (λx k σ=>bK (ai (N+1)) wB (ρ.set 11 (some x)) (λv σ=>bm (cm .a (.o (j+14)) [v] σ) λQ σ=>k σ) σ) none xs K σ:=by
   refine IF (k:=k+xs.length) (U.mono ("~PHpK4szRm?1F" id)) λy z' m d g=>?_;refine eb f (by rw[cI];exact "~1aDm^HvoMN4D" Y) ?_;refine ih (out:=out++[y]) h3 h0 (bE I E) E ?_ (λw hw=>(aZ.mp hw).elim (ho w) λh=>by rw[aB]at h;rw[h];exact m) (by rw[b_,Km];exact "~4v?tbU=wvrJl><F" Y) g λJ z2 L2 h1 h2 h3 h4 h5 h6=>q J z2 L2 h1 h2 ((d.trans h3).mono ("~2DiI17x9Ar" id)) h4 h5 h6;rw[aT f,ic];rfl
  refine yh (C:=ai (N+1)) H ?_;refine yh (C:=ai (N+1)) u ?_;exact o
end
section
variable{z:Z}{L B:List O}{n t i N h p r b j k d:Nat}{Q:V->St->Prop}{e l S A G G0:List Nat}{σ:St}{T:Tb}{w:Int}{c a:Option (List Nat)}{x y s:Sd}
abbrev IT:List CS:=[.g 10 (.h (.r true [.r true [],.r true [.p 5],.r true [.p 4,.p 5],.r true [.p 9,.p 8],.r true [.p 3,.p 4]]) (.j 55 [.d 0,.g 5])),
 .d (.j 71 [.d 4,.d 2,.j 60 [.d 0,.d 4,.g 2],.d 9,.d 10])]
def Vz(M:Nat)(Y:145<=M):∀(z:Z) (L:List O) (Q:V->St->Prop) (e:List Nat) (v3 v5 v6 v7 v8:V) (f:Option V),am z->z.sz<=90000->z.b=0->cO z 300->Kl e->Ne e->(28∈e->z.e=1)->(∀z' L',Q (.w true) (st z' L'))->
  aM (ai (M+20)) IT [some (.o 1),some (.o 2),some (.o 10),some v3,some (.o 12),some v5,some v6,some v7,some v8,some (.r (aa e)),none,f] (dB Q) (st z L):=by
 intro z L Q e v3 v5 v6 v7 v8 f I room dp U E ne hw q;refine jL (k:=299) (n:=5) U (by decide) λv u hv C U1=>?_;obtain⟨G0,e0,k0,kG,o,lG⟩:=Vx v hv;refine ag (gn (b:=true) (t:=v) rfl (bP rfl) e0) ?_;have n2:nD 2=223:=by decide
 refine Vr (m:=2) (by decide) (N:=M+20) ("~PHNl6|7kC9BW" id) 2 u L _ 0 rfl (by rw[n2];exact U1.mono (by decide)) (C.inv I) (Z.bZ (c:=0) (by rw[C.sz];exact "~GAEn9w6>1ARiIQ" room)) λc a x y d z2 L2 hq le d2 J p2=>?_;have H:28∈e->u.e=1:=by rw[C.wh];exact hw
 have f1:=wA le;have f2:=wA (ww (ae G0) le);have b1:i_ 3=74:=by decide
 have g:pR 3=144:=by decide
 rw[b1,g]at f1 f2;exact Ut (Vm hq le E ne H kG o lG) k0 rfl Vl M ⟨"~KkbRCFU<qBQ7" Y, "~1YN_W<qOb4e|NfZHHfPJ|UUyWJw" f1 Y, "~1YN_W<qOb4e|NfZHHfPJ|UUyWJw" f2 Y, "~1dnZpHe7o^8Wzbj;oewCLS2M4SX" f1 Y, "~1Y0dyWNYiyDkosxuOGA7yl<o3pi" f1 Y⟩ z2 L2 _ (d2.inv (C.inv I)) (by rw[d2.sz,C.sz];exact "~CjZCsZ>|e9tkz6EA" room) (by rw[d2.dp,C.dp];exact dp) q
end
section
variable{z:Z}{L B:List O}{n t i N h p r b j k d:Nat}{Q:V->St->Prop}{e l S A G G0:List Nat}{σ:St}{T:Tb}{w:Int}{c a:Option (List Nat)}{x y s:Sd}
def VA(I:am z):am {z with e:=v}:=⟨I.a,I.f,I.d,I.e,I.c,I.b⟩
abbrev vS:V:=.r (fZ.map λp=>.p [.j p.1,.r (aa p.2)])
abbrev VB:List CS:=.n (.d 4) (.u "where") (.j 55 [.d 0,.g 4])::.g 9 (.C (.n .a (.h (.d 4) (.u "where")) (.g 1)) (.j 57 [.d 1,.A .a (.d 7) (.r true [.h (.d 4) (.u "q")])]) (.d 7))::IT
def VC(M:Nat)(hM:145<=M):∀(z:Z) (L:List O) (Q:V->St->Prop) (S:List Nat) (v3 v5 v6 v8:V) (f:Option V),am z->z.sz<=90000->z.b=0->cO z 301->Ls 0 S->(∀z' L',Q (.w true) (st z' L'))->
  aM (ai (M+20)) VB [some (.o 1),some (.o 2),some (.o 10),some v3,some (.o 12),some v5,some v6,some (.r (aa S)),some v8,none,none,f] (dB Q) (st z L):=by
 intro z L Q S v3 v5 v6 v8 f I room dp U Y q;have o:=Vz M hM;refine jL (k:=300) (n:=4) U (by decide) λv u hv C U1=>?_;refine aP (a:=()) (σ:=st {u with e:=v} L) rfl ?_;have E:am {u with e:=v}:=VA (C.inv I);have g:({u with e:=v}:Z).sz<=90000:=by show u.sz<=_;rw[C.sz];exact room
 have IU:({u with e:=v}:Z).b=0:=by show u.b=0;rw[C.dp];exact dp
 have J:cO {u with e:=v} 300:=⟨U1.b,U1.a⟩;have h3:=Y.c;refine bB (λh1=>?_) λh1=>?_
 .refine ag (jH (l:=S) (m:=[28]) (by simp;exact "~Pg|OryidVW" h3)) ?_
  refine sR (n:=M+18) (S:=S++[28]) E (Z.bZ (c:=0) ("~GAEn9w6>1ARiIQ" g)) (λx H=>?_) (by simp;exact "~GQbB7XVD;3LZ7I" h3) λL2 p2=>?_
  .rcases aZ.mp H with h |h
   .exact Y.b.1.part E x h
   .rw[aB]at h;rw[h];exact(eG E (by decide:28∈aD)).d 28 br
  .obtain⟨k1,k2,k3,_⟩:=IJ Y.b h3
   exact o _ L2 Q (ae (S++[28])) v3 v5 v6 _ v8 f E g IU J k1 ⟨k2,k3⟩ (λG=>aH.mp h1) q
 .exact o _ L Q S v3 v5 v6 _ v8 f E g IU J Y.b.1 ⟨(iy Y.b).1,aL h3 (by decide)⟩ (λq=>absurd q (iy Y.b).2) q
def VD(M:Nat)(hM:145<=M):∀(ns:List Nat) (Q:V->St->Prop),0 < ns.length->ns.length<=40->(∀k∈ns,k < 99991)->(∀z' L',Q (.w true) (st z' L'))->
  ar (ai (M+21) 73 [.o 1] [.d,.a [.j 0,.r (ns.map λn:Nat=>V.j n)]]) Q:=by
 intro ns Q I VE hb q;refine Vt (n:=M+20) (pre:=qY.c.take 5) (rest:=qY.c.drop 5) rfl rfl (Vv M _) ?_;have I0:=Vw (ns.map λn:Nat=>V.j n);have U0:cO (zS (ns.map λn:Nat=>V.j n)) 400:=⟨⟨ns,rfl,I,VE,hb⟩,0,rfl,by decide⟩;have s0:(zS (ns.map λn:Nat=>V.j n)).sz=32:=rfl;have nn:(zS (ns.map λn:Nat=>V.j n)).b=0:=rfl;have w0:(zS (ns.map λn:Nat=>V.j n)).e=0:=rfl;generalize zS (ns.map λn:Nat=>V.j n)=z0 at*;unfold AZ;refine pP (N:=M+17) (tops:=true) (k:=395) U0 I0 (Z.bZ (c:=0) ("~5Sboq2KSqlSdI" s0)) λS u L1 hS G C U1 p1=>?_;rw[w0]at hS;refine pP (N:=M+17) (tops:=true) (k:=390) U1 (C.inv I0) (Z.bZ (c:=0) (by rw[C.sz];exact "~5Sboq2KSqlSdI" s0)) λA z2 L2 hA G d2 U2 p2=>?_;have D2:=C.trans d2;refine Ir hS.b hA.b (aL hS.c (by decide)) (aL hA.c (by decide)) M ("~KkbRCFU<qBQ7" hM) z2 L2 _ (D2.inv I0) (by rw[D2.sz];exact "~4Zf_bGh1ZWAocv7" s0) (by rw[D2.dp];exact nn) λz3 E U p3=>?_;have f:=U.f;rw[D2.sz,s0]at f;have IV:z3.b=0:=by rw[U.i,D2.dp];exact nn
 refine bY ?_;refine Vy (N:=M+19) (ρ:=[some (.o 1),some (.o 2),some (.o 10),some vS,some (.o 12),some (.j 11),some (.r [.j 11]),some (.r (aa S)),none,none,none,none]) (B:=E) (k:=387) (out:=[]) [.j 0,.j 1,.j 2] rfl rfl bp (av _) bk (λG h=>nomatch h) (by decide) (U2.gr U) λout z4 m h1 h2 d4 U4 p4 j4=>?_;refine f0 j4 ?_;have p5:E <+:m.set E.length .d:=bE p4 (av _);generalize m.set E.length .d=L5 at p5;have I4:=d4.inv U.e;have IW:z4.a.length < 4194304:=Z.bZ (c:=0) (by rw[d4.sz];exact "~?pYUUxintLsN3XQBZ_" f);refine sR (n:=M+18) (S:=out) I4 IW (λx H=>(eG I4 (vM x (h1 x H))).d x br) ("~KeKoVn2KDpwt" h2) λL6 p6=>?_;have lo:=II (w:=0) h1 h2;refine pP (N:=M+17) (tops:=false) (k:=382) U4 I4 IW λA2 g L7 IY G Y U5 p7=>?_;have D5:=d4.trans Y;refine Ir lo.1.b IY.b (aL lo.1.c (by decide)) (aL IY.c (by decide)) M ("~KkbRCFU<qBQ7" hM) g L7 _ (Y.inv I4) (by rw[D5.sz];exact "~=MHIk2xuO_pk^o8JAxLK" f) (by rw[D5.dp];exact IV) λz6 L8 J v=>?_;have o:=J.f;rw[D5.sz]at o;exact VC M hM z6 L8 Q S vS (.j 11) (.r [.j 11]) _ _ J.e ("~1M;MHpkOe77MRkjQZChmnH8;?8cPu" f o) (by rw[J.i,D5.dp];exact IV) ((U5.gr J).mono (by decide)) hS q
end
section
variable{z:Z}{L B:List O}{n t i N h p r b j k:Nat}{Q:V->St->Prop}
abbrev jN(i:Int):Nat:=(i % 99991).toNat
def VF(i:Int):i.fmod 99991=(jN i:Int):=by
 unfold jN;rw[XM _ (by decide),BJ (Int.emod_nonneg _ (by decide))]
def VG(i:Int):jN i < 99991:=by
 have v1:=Int.emod_lt_of_pos i (by decide:(0:Int) < 99991);have v2:=Int.emod_nonneg i (by decide:(99991:Int)≠0);unfold jN;lia
abbrev nV(l:List Nat):List V:=l.map λn:Nat=>V.j n
def VH(xs:List Int):∀{out:List Nat} {K:St->Prop},out.length+xs.length<=1000->(K [.a (nV (out++xs.map jN))])->
  eu (λx k σ=>bK C (.A .b (.d 2) (.g 99991)) [ρ0,ρ1,some x] (λv σ=>bm (cm .a (.o 0) [v] σ) λJ σ=>k σ) σ) none (xs.map .j) K [.a (nV out)]:=by
 induction xs with
 |nil=>
  intro out K Y q;rw[qs,b9]at q;exact q
 |cons x xs ih=>
  intro out K Y q;simp only[bI]at Y;have y:(nV out).length < bs:=by unfold nV;rw[bX];exact fK ("~18gANqRgpT|iy8FL" Y:out.length<=1000) (by decide)
  refine aP (a:=.z) (σ:=[.a (nV (out++[jN x]))]) ?_ (ih (out:=out++[jN x]) (by rw[b_,Km];exact "~3PY29bR5?Z?Ml>KHEhg" Y) (by rw[c6];exact q));show(if(nV out).length < bs then some (V.z,[O.a (nV out++[.j (x.fmod 99991)])])else none)=_;rw[ah y,VF];unfold nV;rw[kQ];rfl
def VI(Y:l.length<=100):qT (.r l) .z (.j 40) σ=some (.r (l.take 40),σ):=by
 have e:iL l none (some 40)=l.take 40:=by
  show List.drop 0 (List.take (min l.length 40) l)=_;rw[List.drop_zero];rcases w7 l.length 40 with h |h
  .rw[BG h,Kd,tG h]
  .rw[BH h]
 show(if l.length < bs then some (V.r (iL l none (some 40)),σ)else none)=_;rw[ah (fK Y (by decide)),e]
def VJ:∀c:List Int,c.length<=63->ar (ai 167 74 [.r (c.map .j)] []) λv Q=>v=.w true:=by
 intro c Y;have o:=VD 145 (by decide);refine az (ρ:=[some (.r (c.map .j)),none,none]) rfl ?_;refine ag (VI (by rw[bX];exact "~KMuVz^0FTQbj" Y)) ?_;rw[<-List.map_take];have f:(c.take 40).length<=40:=List.length_take_le _ _;generalize c.take 40=xs at f;have g:lm (.r (xs.map .j)) []=some ((none,xs.map V.j),[]):=by
  show(if(xs.map V.j).length < bs then some ((none,xs.map V.j),[])else none)=_;rw[ah (by rw[bX];exact fK f (by decide))]
 refine ag g ?_;refine aP (a:=.o 0) (σ:=[.a []]) rfl ?_;refine VH (C:=ai 166) (ρ0:=some (.r (c.map .j))) (ρ1:=none) xs (out:=[]) (by simp;exact "~KMGR4ls;;<>I" f) ?_;have T:∀k∈[]++xs.map jN,k < 99991:=λk U=>by
  rw[dh]at U;obtain⟨x,_,rfl⟩:=ea.mp U;exact VG x
 have u:([]++xs.map jN).length<=40:=by rw[dh,bX];exact f
 generalize []++xs.map jN=ns at T u;refine aP (a:=.r (nV ns)) (σ:=[.d]) rfl ?_;have J:b1 .a (.r (nV ns)) [.d]=some (.j ns.length,[.d]):=by
  have:=l0 (σ:=[.d]) (l:=nV ns) (by unfold nV;rw[bX];exact "~PL=4eOZdRO" u);unfold nV at this;rw[bX]at this;exact this
 refine aP J ?_;have G:∀(ns:List Nat),0 < ns.length->ns.length<=40->(∀k∈ns,k < 99991)->ar (ai 166 73 [.o 1] [.d,.a [.j 0,.r (nV ns)]]) λv σ=>oD v (λv Q=>v=.w true) σ:=λns h1 h2 h3=>o ns _ h1 h2 h3 λz' L'=>rfl;refine bB (λh=>?_) λh=>?_
 .refine aP (a:=.o 1) (σ:=[.d,.a [.j 0,.r (nV [0,0,0,4,1,1,2,2,5,1,0,0,3,1,2,0,1,0,6,3])]]) rfl ?_
  exact G _ (by decide) (by decide) (by decide)
 .have h0:ns.length≠0:=λe=>by rw[e]at h;cases h
  refine aP (a:=.o 1) (σ:=[.d,.a [.j 0,.r (nV ns)]]) rfl ?_;exact G ns ("~PSB?jA2a?5" h0) u T
end
end Mine.Lake
section
open PySem PyProof.Rows
namespace Mine.Lake.R
@[inline]abbrev SM:=StateT SortSt Sem
abbrev mf:Bool->Keyed->Array Keyed->Nat->Nat->Nat->SM (Option Nat):=sortPriv% PySem.Builtin.gallop
abbrev kv(p:Keyed):Int:=numOf p.1
abbrev iz(p:Keyed):Prop:=∃t,p.1=.int (kv p) t
section
variable{prog:Program}{w:World}{A:Around}{E:Value->Shared->Prop}{s:Shared}{st:SortSt}
def to(U:kindOf st=oneType')(H:iz x)(v:iz y)(h:Q (some (decide (kv x < kv y))) st):wpS (model prog w) A E s (lt' x y) Q st:=by
 obtain⟨t,H⟩:=H;obtain⟨u,v⟩:=v;rw[lt'_eq];refine aJ (kZ ?_);rw[U,keyLt'_oneType,H,v];exact aJ (wpS_lift (BX (oneLt_int ⟨rfl,a8 h⟩)))
def dT(h:a[i]?=some p)(q:Q p st):wpS (model prog w) A E s (elem' a i) Q st:=by
 rw[elem'_eq,h];exact a8 q
def cu[Decidable c](h:c)(k:wpS (model prog w) A E s a Q st):wpS (model prog w) A E s (if c then a else b) Q st:=by rw[ah h];exact k
def cA[Decidable c](h:¬ c)(k:wpS (model prog w) A E s b Q st):wpS (model prog w) A E s (if c then a else b) Q st:=by rw[ab h];exact k
abbrev tp(left:Bool)(key:Keyed)(arr:Array Keyed)(base i:Nat):SM (Option Bool):=do
 let x <-elem' arr (base+i)
 if left=true then lt' x key else do
  let r <-lt' key x
  pure (Option.map (λx=>!x) r)
abbrev A0(left:Bool)(key:Keyed)(arr:Array Keyed)(base n lo hi:Nat):SM (Option Nat):=do
 let r <-forIn [0:n] ((none,lo,hi):Option (Option Nat)×Nat×Nat) λJ c=>
  if c.2.1>=c.2.2 then pure (ForInStep.done (none,c.2.1,c.2.2))else do
   let x <-tp left key arr base (c.2.1+(c.2.2 - c.2.1) / 2)
   match x with
   |some Y=>if Y=true then pure (ForInStep.yield (none,c.2.1+(c.2.2 - c.2.1) / 2+1,c.2.2))else pure (ForInStep.yield (none,c.2.1,c.2.1+(c.2.2 - c.2.1) / 2))
   |_=>pure (ForInStep.done (some none,c.2.1,c.2.2))
 match r.1 with
 |some r=>pure r|none=>pure (some r.2.2)
abbrev VK(left:Bool)(key:Keyed)(arr:Array Keyed)(base n hint:Nat):SM (Option (Option Nat)×Nat×Nat):=
 forIn [0:n] ((none,0,1):Option (Option Nat)×Nat×Nat) λJ c=>
  if c.2.2>=n - hint then pure (ForInStep.done (none,c.2.1,c.2.2))else do
   let x <-tp left key arr base (hint+c.2.2)
   match x with
   |some Y=>if(!Y)=true then pure (ForInStep.done (none,c.2.1,c.2.2))else pure (ForInStep.yield (none,c.2.2,2*c.2.2+1))
   |_=>pure (ForInStep.done (some none,c.2.1,c.2.2))
abbrev VL(left:Bool)(key:Keyed)(arr:Array Keyed)(base n hint:Nat):SM (Option (Option Nat)×Nat×Nat):=
 forIn [0:n] ((none,0,1):Option (Option Nat)×Nat×Nat) λJ c=>
  if c.2.2>=hint+1 then pure (ForInStep.done (none,c.2.1,c.2.2))else do
   let x <-tp left key arr base (hint - c.2.2)
   match x with
   |some a=>if a=true then pure (ForInStep.done (none,c.2.1,c.2.2))else pure (ForInStep.yield (none,c.2.2,2*c.2.2+1))
   |_=>pure (ForInStep.done (some none,c.2.1,c.2.2))
def VM(left:Bool)(key:Keyed)(arr:Array Keyed)(base n hint:Nat):mf left key arr base n hint=(do
  let x <-tp left key arr base hint
  match x with
  |some right=>if right=true then(do
    let r <-VK left key arr base n hint
    match r.1 with
    |some r=>pure r|none=>A0 left key arr base n (hint+r.2.1+1) (hint+min r.2.2 (n - hint)))else(do
    let r <-VL left key arr base n hint
    match r.1 with
    |some r=>pure r|none=>A0 left key arr base n (hint+1 - min r.2.2 (hint+1)) (hint - r.2.1))
  |_=>pure none):=by kernel_rfl
abbrev ev(left:Bool)(key:Keyed)(arr:Array Keyed)(j:Nat):Bool:=match left with
 |true=>decide (K arr j < kv key)|false=>!decide (kv key < K arr j)
structure pS(arr:Array Keyed)(base n:Nat):Prop where
 b:∀i,i < n->∃p,arr[base+i]?=some p/\iz p/\kv p=K arr (base+i)
 a:∀i j,i<=j->j < n->K arr (base+i)<=K arr (base+j)
variable{left:Bool}{key:Keyed}{arr:Array Keyed}{base n hint:Nat}
def tq(g:pS arr base n)(h:i<=j)(f:j < n)(e:ev left key arr (base+j)=true):ev left key arr (base+i)=true:=by
 have:=g.a i j h f;unfold ev at*
 induction left using aS with
 |true=>exact b4 (Int.lt_of_le_of_lt this (mq e))|false=>
  rw[qu]at*;exact cc λq=>Cc e (Int.lt_of_lt_of_le q this)
def wC(U:kindOf st=oneType')(v:iz key)(g:pS arr base n)(hi:i < n)(h:Q (some (ev left key arr (base+i))) st):wpS (model prog w) A E s (tp left key arr base i) Q st:=by
 obtain⟨p,h1,h2,h3⟩:=g.b i hi;unfold ev at h;rw[<-h3]at h;refine aJ (dT h1 ?_)
 induction left using aS with
 |true=>exact to U h2 v h|false=>exact aJ (to U v h2 (a8 h))
abbrev tr(left:Bool)(key:Keyed)(arr:Array Keyed)(base n k:Nat):Prop:=k<=n/\(∀i,i < k->ev left key arr (base+i)=true)/\∀i,k<=i->i < n->ev left key arr (base+i)=false
inductive IZ{α:Type}(n m:Nat)(a b:Nat->Prop)(c:Option α×Nat×Nat):Prop
 |mk (l r:Nat) (e:c=(none,l,r)) (h1:l<=r) (h2:r<=n) (h3:r - l<=m) (h4:a l) (h5:b r)
inductive I9(x:Nat)(a b:Nat->Prop)(c:Option (Option Nat)×Nat×Nat):Prop
 |mk (l r:Nat) (e:c=(none,l,r)) (h0:x < r) (h1:l < r) (h2:a l) (h3:b l)
inductive I'(a b d:Nat->Prop)(c:Option (Option Nat)×Nat×Nat):Prop
 |mk (l r:Nat) (e:c=(none,l,r)) (h1:l < r) (h2:a l) (h3:b l) (h4:d r)
def I_(U:kindOf st=oneType')(v:iz key)(g:pS arr base n){lo:Nat}(h1:lo<=hi)(h2:hi<=n)(h3:∀i,i < lo->ev left key arr (base+i)=true)
  (h4:∀i,hi<=i->i < n->ev left key arr (base+i)=false) (h:∀k,tr left key arr base n k->Q (some k) st):wpS (model prog w) A E s (A0 left key arr base n lo hi) Q st:=by
 refine aJ (eS (gg (I:=λx c ak=>ak=st/\IZ n (n - x) (λl=>∀i,i < l->ev left key arr (base+i)=true) (λr=>∀i,r<=i->i < n->ev left key arr (base+i)=false) c)
  (Q:=λc ak=>ak=st/\∃k,c=(none,k,k)/\tr left key arr base n k) ?step ?fin ⟨rfl,lo,hi,rfl,h1,h2,aL (BU _ _) h2,h3,h4⟩) ?post)
 case post=>
  rintro c ak ⟨rfl,k,rfl,o⟩;exact a8 (h k o)
 case fin=>
  rintro c ak ⟨rfl,l,r,rfl,t,B,C,y,m⟩;obtain rfl:l=r:= "~rj5k7rL^uurXT1_DGhZi_WcpNw4Mr7^?3O457N8ah16>qrPXOHFKgzybt>kZcXRd2E|41=V8xPk|VwrVwmDA1L3XUYvvHw1p=EetdhLdTT8MxnLZtLCh?5V4ZRxQeHsDg6O7fiVsE6f9k" ao qK ao C t;exact⟨rfl,l,rfl,B,y,m⟩
 case step=>
  rintro x c ak _ H ⟨rfl,l,r,rfl,t,B,C,y,m⟩;by_cases a:l>=r
  .obtain rfl:l=r:=BP t a
   refine cu a ?_;exact a8 ⟨rfl,l,rfl,B,y,m⟩
  .refine cA a ?_
   have hm:l+(r - l) / 2 < r:= "~2eZKHqlgtBGoqrjetcQgJ" ao gZ a;refine aJ (wC U v g (gY hm B) ?_);generalize J:ev left key arr (base+(l+(r - l) / 2))=b
   induction b using aS with
   |true=>exact a8 ⟨rfl,_,_,rfl,hm,B, "~fJ^y<VAhd?;E;sG46krCkbDt03OXV4kWxzZRaK2EV_5UVsgD;=9G2^Jtd9XJxyQPT=kN<hk0DAQxY4|S;1N_7UH=djwZ<7Jm1Q^Eld3W8PyTt0TYUUfd7=qaS>I9pd5zzQwM>FhmkAr=equWbJ<y5i?7XQCpbNBI?DFY_O?ziwtMfzpcGrLcduK=V^oZGM" ao ao gZ ao ao C,λi hi=>tq g (w8 hi) (gY hm B) J,m⟩|false=>
    refine a8 ⟨rfl,_,_,rfl,eo _ _, "~1sL30;ulDSd3QtUQ5EVGfEUtE" ao gZ B hm, "~odgonu9K9|o_6veCE;ryG>_XgkDP5dnEoK<gdlcGfen4nXpSuX?QmRhG6XXz><0;kdbqaCIZr<UD1iuUR>AVtPVrOF=9PF85NsoJ5EJ3dLyWesAkYQcZrKp?PUx?QhX5HRQAOs126EXOpYixHwdiC4MiIxBj=FZXab0ww=9<Qqw=K?z3MzsjUhQe5>iC" ao ao gZ ao ao C,y,λi h1 h2=>?_⟩;generalize q:ev left key arr (base+i)=Y
    induction Y using aS with
    |false=>rfl|true=>rw[tq g h1 h2 q]at J;cases J
def pT(U:kindOf st=oneType')(v:iz key)(g:pS arr base n)(Y:hint < n)(h:∀k,tr left key arr base n k->Q (some k) st):wpS (model prog w) A E s (mf left key arr base n hint) Q st:=by
 rw[VM];refine aJ (wC U v g Y ?_);generalize J:ev left key arr (base+hint)=b;have f:∀{i j:Nat},i<=j->j < n->ev left key arr (base+i)=false->ev left key arr (base+j)=false:=λ{i j} h1 h2 e=>by
  generalize q:ev left key arr (base+j)=T
  induction T using aS with
  |false=>rfl|true=>rw[tq g h1 h2 q]at e;cases e
 induction b using aS with
 |true=>
  refine aJ (eS (gg (I:=λx c ak=>ak=st/\I9 x (λl=>hint+l < n) (λl=>ev left key arr (base+(hint+l))=true) c)
   (Q:=λc ak=>ak=st/\I' (λl=>hint+l < n) (λl=>ev left key arr (base+(hint+l))=true) (λr=>hint+r < n->ev left key arr (base+(hint+r))=false) c) ?step ?fin ⟨rfl,0,1,rfl,tP,tP,Y,J⟩) ?post)
  case post=>
   rintro c ak ⟨rfl,l,r,rfl,t,B,C,y⟩;refine I_ U v g ("~1bek4RTyXHQb4X=Ql38MtScaHbBkLuofcF5?e6S?Xi" ao fa B t) ("~vdwpgYxbP7ol67OCD6_Ycnxm5N0GhzMA" ao fa Y) (λi hi=>tq g (w8 hi) B C) (λi h1 h2=>?_) h;have v1:hint+min r (n - hint)<=i:=h1;clear h1;exact f (i:=hint+r) ("~W=jFa;Dysd9bloGB_26bP|BNtDbbNmgtb5lQrR" ao fa v1 h2) h2 (y ("~W=jF_yc7voCGsJaP|jY9>>nNOoZxM<^gOpM|Q|" ao fa v1 h2))
  case fin=>
   rintro c ak ⟨rfl,l,r,rfl,N,t,B,C⟩;exact⟨rfl,l,r,rfl,t,B,C,λq=>by lia⟩
  case step=>
   rintro x c ak _ H ⟨rfl,l,r,rfl,N,t,B,C⟩;by_cases a:r>=n - hint
   .refine cu a ?_
    exact a8 ⟨rfl,l,r,rfl,t,B,C,λq=>by lia⟩
   .refine cA a ?_
    have hm:hint+r < n:= "~4schncIjwR0?R0k" ao a;refine aJ (wC U v g hm ?_);generalize J:ev left key arr (base+(hint+r))=b
    induction b using aS with
    |true=>exact a8 ⟨rfl,_,_,rfl, "~Ksl0eQ7WP0DH" N, "~9wMgTXQi9" id,hm,J⟩|false=>exact a8 ⟨rfl,l,r,rfl,t,B,C,λG=>J⟩
 |false=>
  refine aJ (eS (gg (I:=λx c ak=>ak=st/\I9 x (λl=>l<=hint) (λl=>ev left key arr (base+(hint - l))=false) c)
   (Q:=λc ak=>ak=st/\I' (λl=>l<=hint) (λl=>ev left key arr (base+(hint - l))=false) (λr=>r<=hint->ev left key arr (base+(hint - r))=true) c) ?step ?fin ⟨rfl,0,1,rfl,tP,tP,bb _,J⟩) ?post)
  case post=>
   rintro c ak ⟨rfl,l,r,rfl,t,B,C,y⟩;refine I_ U v g ("~5N1n5nXPXIJsEdGGL|ulI=V_GuvnZVY1pec_4M7fAIYtFozxlqGppNUv_j3XGFR2WT3La33KyGJ" fa ao ao t) ("~4YU2NOHFKt?>UA6" ao Y) (λi hi=>?_) (λi h1 h2=>f h1 h2 C) h;have v1:i < hint+1 - min r (hint+1):=hi;clear hi;exact tq g (j:=hint - r) ("~7j0BoR6;e<WOhRATfPmq6auw1DtCiNh5<hKNL5xB?qI2H55=;BQxsCFjmmpYB;Zlu9EtQp=" fa ao ao v1) ("~4YULF>zJhFdlD<i" ao Y) (y ("~4AvMGQvd8RS_O_KBS|bRQ8x<MIsZNJG7" fa ao v1))
  case fin=>
   rintro c ak ⟨rfl,l,r,rfl,N,t,B,C⟩;exact⟨rfl,l,r,rfl,t,B,C,λq=>by lia⟩
  case step=>
   rintro x c ak _ H ⟨rfl,l,r,rfl,N,t,B,C⟩;by_cases a:r>=hint+1
   .refine cu a ?_
    exact a8 ⟨rfl,l,r,rfl,t,B,C,λq=>by lia⟩
   .refine cA a ?_
    have hm:hint - r < n:= "~4YULF>zJhFdlD<i" ao Y;refine aJ (wC U v g hm ?_);generalize J:ev left key arr (base+(hint - r))=b
    induction b using aS with
    |true=>exact a8 ⟨rfl,l,r,rfl,t,B,C,λG=>J⟩|false=>exact a8 ⟨rfl,_,_,rfl, "~Ksl0eQ7WP0DH" N, "~9wMgTXQi9" id, "~1xEl7pV4HP" a,J⟩
end
@[inline]abbrev up(x y:Keyed):Prop:=kv x<=kv y
@[inline]abbrev dn(x y:Keyed):Prop:=kv y<=kv x
structure Mg(le:Keyed->Keyed->Prop)(R O A B:List Keyed):Prop where
 c:(O++(A++B)).Perm R
 d:O.Pairwise le
 f:∀x∈O,∀y∈A,le x y
 e:∀x∈O,∀y∈B,le x y
 b:A.Pairwise le
 a:B.Pairwise le
abbrev Dn(le:Keyed->Keyed->Prop)(R l:List Keyed):Prop:=l.Perm R/\l.Pairwise le
section
variable{le:Keyed->Keyed->Prop}{R O A B A1 A2 B1 B2:List Keyed}{p:Keyed}
def Mg.tt(h:Mg le R O (A1++A2) B)(k:∀x∈A1,∀y∈B,le x y):Mg le R (O++A1) A2 B:=by
 obtain⟨h1,h2,h3,h4,h5,h6⟩:=h;obtain⟨t,Y,C⟩:=Cd.mp h5;refine⟨by rw[c6,<-c6 A1];exact h1,Cd.mpr ⟨h2,t,λx H y v=>h3 x H y (dy _ v)⟩,λx H y v=>?_,λx H y v=>?_,Y,h6⟩
 .exact(aZ.mp H).elim (λq=>h3 x q y (jh _ v)) λq=>C x q y v
 .exact(aZ.mp H).elim (λq=>h4 x q y v) λq=>k x q y v
def Mg.swap(h:Mg le R O A B):Mg le R O B A:=⟨(List.Perm.append_left O List.perm_append_comm).trans h.c,h.d,h.e,h.f,h.a,h.b⟩
def Mg.wD(h:Mg le R O A (B1++B2))(k:∀x∈B1,∀y∈A,le x y):Mg le R (O++B1) A B2:=(h.swap.tt k).swap
def Mg.all(h:Mg le R O A B)(k:∀x∈A,∀y∈B,le x y):Dn le R (O++A++B):=by
 rw[c6];exact⟨h.c,Cd.mpr ⟨h.d,Cd.mpr ⟨h.b,h.a,k⟩,λx H y v=>(aZ.mp v).elim (h.f x H y) (h.e x H y)⟩⟩
def VN{l:List Keyed}(h:x∈l.drop i):∃j,l[i+j]?=some x:=by
 obtain⟨j,e⟩:=qr.mp h;exact⟨j,by rw[<-tI];exact e⟩
def wE{l:List Keyed}(h:x∈(l.drop i).take k):∃j,j < k/\l[i+j]?=some x:=by
 obtain⟨j,e⟩:=qr.mp h;rw[xl]at e;by_cases q:j < k
 .rw[ah q,tI]at e;exact⟨j,q,e⟩
 .rw[ab q]at e;cases e
def mU{l:List Keyed}(h:l[i]?=some x):l.drop i=x::l.drop (i+1):=by
 obtain⟨q,e⟩:=bW.mp h;rw[Kq q,e]
def wG(l:List Keyed)(i k:Nat):l.drop i=(l.drop i).take k++l.drop (i+k):=by
 rw[<-Ce,qw]
def A3{l:List Keyed}(h:i=l.length):l.drop i=[]:=List.drop_of_length_le (gV h.symm)
end
section
variable{a:Array Keyed}{i:Nat}{p:Keyed}
def d_(h:a[i]?=some p):K a i=kv p:=by unfold K;rw[h];rfl
def cP(h:i < a.size):∃p,a[i]?=some p:=⟨_,xg h⟩
def wH(hi:∀p∈a.toList,iz p)(N:a.toList.Pairwise up)(h:base+n<=a.size):pS a base n:=by
 refine⟨λi u=>?_,λi j m f=>?_⟩
 .obtain⟨p,e⟩:=cP (a:=a) (i:=base+i) ("~KU271uT3T?_m" h u)
  exact⟨p,e,hi p (kV (by rw[eI];exact e)),(d_ e).symm⟩
 .obtain⟨p,e⟩:=cP (a:=a) (i:=base+i) ("~4sji3EnNeLnqZb3" h m f)
  obtain⟨q,e'⟩:=cP (a:=a) (i:=base+j) ("~KU271uT3T?_m" h f);rw[d_ e,d_ e'];rcases Kr m with rfl |rl
  .rw[e]at e';cases e';exact gS _
  .rw[<-eI]at e e'
   obtain⟨k1,rfl⟩:=bW.mp e;obtain⟨k2,rfl⟩:=bW.mp e';exact Kt.mp N _ _ k1 k2 (Ku rl base)
def VO(h:a[i]?=some p):(ev false key a i=true->kv p<=kv key)/\(ev false key a i=false->kv key<=kv p):=by
 unfold ev;rw[d_ h];exact⟨λq=>jP.mp (Cc ((qu _).mp q)),λq=>kO (mq ((Bool.not_eq_false' _).mp q))⟩
def VP(h:a[i]?=some p):(ev true key a i=true->kv p<=kv key)/\(ev true key a i=false->kv key<=kv p):=by
 unfold ev;rw[d_ h];exact⟨λq=>kO (mq q),λq=>jP.mp (Cc q)⟩
def mh(h:a[i]?=some p):(ev left key a i=true->kv p<=kv key)/\(ev left key a i=false->kv key<=kv p):=by
 induction left
 .exact VO h
 .exact VP h
def Ja{left:Bool}(c:tr left key a base n k)(u:base+n=a.size):(∀x∈(a.toList.drop base).take k,kv x<=kv key)/\∀x∈a.toList.drop (base+k),kv key<=kv x:=by
 obtain⟨c1,v,L⟩:=c;refine⟨λx H=>?_,λx H=>?_⟩
 .obtain⟨j,f,e⟩:=wE H
  rw[eI]at e;exact(mh e).1 (v j f)
 .obtain⟨j,e⟩:=VN H
  have:=(bW.mp e).1;rw[dF]at this;rw[eI,tC]at e;exact(mh e).2 (L (k+j) (eo _ _) ("~17_xMw7u0Vmim?Of" u this))
end
abbrev A4:Array Keyed->Array Keyed->SM (Array Keyed):=sortPriv% PySem.Builtin.mergeLo
abbrev tu:Nat->SM Unit:=sortPriv% PySem.Builtin.setMinGallop
abbrev dA(a b out:Array Keyed)(ia ib:Nat):Array Keyed:=out++a.extract ia a.size++b.extract ib b.size
abbrev lA(a b out:Array Keyed)(ia ib:Nat):Array Keyed:=out++b.extract ib b.size++a.extract ia a.size
@[inline]abbrev S6:=Option (Array Keyed)×Array Keyed×Nat×Nat×Nat×Nat
@[inline]abbrev S7:=Option (Array Keyed)×Array Keyed×Nat×Nat×Nat×Nat×Nat
@[inline]abbrev S5:=Option (Array Keyed)×Array Keyed×Nat×Nat×Nat
abbrev Jb(a b:Array Keyed)(mg:Nat)(d:S6):SM (ForInStep S6):=do
 let y <-elem' b d.2.2.2.1
 let x <-elem' a d.2.2.1
 let z <-lt' y x
 match z with
 |some c=>if c=true then(do
   let y <-elem' b d.2.2.2.1
   if(d.2.2.2.1+1==b.size)=true then pure (ForInStep.done (some (dA a b (d.2.1.push y) d.2.2.1 (d.2.2.2.1+1)),d.2.1.push y,d.2.2.1,d.2.2.2.1+1,0,d.2.2.2.2.2+1))
    else if d.2.2.2.2.2+1>=mg then pure (ForInStep.done (none,d.2.1.push y,d.2.2.1,d.2.2.2.1+1,0,d.2.2.2.2.2+1))else pure (ForInStep.yield (none,d.2.1.push y,d.2.2.1,d.2.2.2.1+1,0,d.2.2.2.2.2+1)))else(do
   let x <-elem' a d.2.2.1
   if(d.2.2.1+1+1==a.size)=true then pure (ForInStep.done (some (lA a b (d.2.1.push x) (d.2.2.1+1) d.2.2.2.1),d.2.1.push x,d.2.2.1+1,d.2.2.2.1,d.2.2.2.2.1+1,0))
    else if d.2.2.2.2.1+1>=mg then pure (ForInStep.done (none,d.2.1.push x,d.2.2.1+1,d.2.2.2.1,d.2.2.2.2.1+1,0))else pure (ForInStep.yield (none,d.2.1.push x,d.2.2.1+1,d.2.2.2.1,d.2.2.2.2.1+1,0)))
 |_=>pure (ForInStep.done (some (dA a b d.2.1 d.2.2.1 d.2.2.2.1),d.2.1,d.2.2.1,d.2.2.2.1,d.2.2.2.2.1,d.2.2.2.2.2))
abbrev A5(a b out:Array Keyed)(ia ib mg ac k:Nat):SM (ForInStep S7):=do
 let x <-elem' a ia
 if(ia+1+1==a.size)=true then pure (ForInStep.done (some (lA a b (out.push x) (ia+1) ib),out.push x,ia+1,ib,mg,ac,k))
  else if(decide (ac < 7)&&decide (k < 7))=true then pure (ForInStep.done (none,out.push x,ia+1,ib,mg,ac,k))else pure (ForInStep.yield (none,out.push x,ia+1,ib,mg,ac,k))
abbrev A6(a b out:Array Keyed)(ia ib mg ac bc:Nat):SM (ForInStep S7):=do
 let y <-elem' b ib
 if(ib+1==b.size)=true then pure (ForInStep.done (some (dA a b (out.push y) ia (ib+1)),out.push y,ia,ib+1,mg,ac,bc))else(do
  let x <-elem' a ia
  let z <-mf true x b (ib+1) (b.size - (ib+1)) 0
  match z with
  |some k=>if k>0 then(if(ib+1+k==b.size)=true then pure (ForInStep.done (some (dA a b (out.push y++b.extract (ib+1) (ib+1+k)) ia (ib+1+k)),out.push y++b.extract (ib+1) (ib+1+k),ia,ib+1+k,mg,ac,k))
    else A5 a b (out.push y++b.extract (ib+1) (ib+1+k)) ia (ib+1+k) mg ac k)else A5 a b (out.push y) ia (ib+1) mg ac k
  |_=>pure (ForInStep.done (some (dA a b (out.push y) ia (ib+1)),out.push y,ia,ib+1,mg,ac,bc)))
abbrev A7(a b out:Array Keyed)(ia ib mg ac bc:Nat):SM (ForInStep S7):=do
 tu mg
 let y <-elem' b ib
 let z <-mf false y a ia (a.size - ia) 0
 match z with
 |some k=>if k>0 then(if(ia+k+1==a.size)=true then pure (ForInStep.done (some (lA a b (out++a.extract ia (ia+k)) (ia+k) ib),out++a.extract ia (ia+k),ia+k,ib,mg,k,bc))
   else if(ia+k==a.size)=true then pure (ForInStep.done (some (dA a b (out++a.extract ia (ia+k)) (ia+k) ib),out++a.extract ia (ia+k),ia+k,ib,mg,k,bc))
   else A6 a b (out++a.extract ia (ia+k)) (ia+k) ib mg k bc)else A6 a b out ia ib mg k bc
 |_=>pure (ForInStep.done (some (dA a b out ia ib),out,ia,ib,mg,ac,bc))
abbrev VQ(a b:Array Keyed)(d:S7):SM (ForInStep S7):=
 if d.2.2.2.2.1>1 then A7 a b d.2.1 d.2.2.1 d.2.2.2.1 (d.2.2.2.2.1 - 1) d.2.2.2.2.2.1 d.2.2.2.2.2.2 else A7 a b d.2.1 d.2.2.1 d.2.2.2.1 d.2.2.2.2.1 d.2.2.2.2.2.1 d.2.2.2.2.2.2
abbrev VR(a b:Array Keyed)(c:S5):SM (ForInStep S5):=do
 let r <-forIn [0:a.size+b.size] ((none,c.2.1,c.2.2.1,c.2.2.2.1,0,0):S6) λJ d=>Jb a b c.2.2.2.2 d
 match r.1 with
 |some q=>pure (ForInStep.done (some q,r.2.1,r.2.2.1,r.2.2.2.1,c.2.2.2.2))
 |none=>do
  liftM (rule "list.sort.gallop" :Sem Unit)
  let r <-forIn [0:a.size+b.size] ((none,r.2.1,r.2.2.1,r.2.2.2.1,c.2.2.2.2+1,r.2.2.2.2.1,r.2.2.2.2.2):S7) λJ d=>VQ a b d
  match r.1 with
  |some q=>pure (ForInStep.done (some q,r.2.1,r.2.2.1,r.2.2.2.1,r.2.2.2.2.1))
  |none=>do
   tu (r.2.2.2.2.1+1)
   pure (ForInStep.yield (none,r.2.1,r.2.2.1,r.2.2.2.1,r.2.2.2.2.1+1))
def VS(a b:Array Keyed):A4 a b=(do
  liftM (rule "list.sort.merge-lo" :Sem Unit)
  let o <-elem' b 0
  if(1==b.size)=true then pure (dA a b #[o] 0 1)else if(0+1==a.size)=true then pure (lA a b #[o] 0 1)else(do
   let g <-get
   let r <-forIn [0:a.size+b.size] ((none,#[o],0,1,gallopOf g):S5) λJ c=>VR a b c
   match r.1 with
   |some q=>pure q|none=>liftM (unsupported "internal:list.sort.merge-bound" :Sem (Array Keyed)))):=by kernel_rfl
structure Cx(a b:Array Keyed):Prop where
 d:∀p∈a.toList,iz p
 c:∀p∈b.toList,iz p
 f:a.toList.Pairwise up
 e:b.toList.Pairwise up
 h:0 < a.size
 g:0 < b.size
 j:∀y,b[0]?=some y->∀x∈a.toList,kv y<=kv x
 i:∀x,a[a.size - 1]?=some x->∀y∈b.toList,kv y<=kv x
@[inline]abbrev LM(a b out:Array Keyed)(ia ib:Nat):Prop:=Mg up (a.toList++b.toList) out.toList (a.toList.drop ia) (b.toList.drop ib)
structure iA(a b out:Array Keyed)(ia ib:Nat):Prop where
 d:ia+1 < a.size
 e:ib < b.size
 c:LM a b out ia ib
@[inline]abbrev bG(a b r:Array Keyed):Prop:=Dn up (a.toList++b.toList) r.toList
section
variable{a b out:Array Keyed}{ia ib k i:Nat}{x y:Keyed}
def pI(a:Array Keyed)(i:Nat):(a.extract i a.size).toList=a.toList.drop i:=by
 rw[qx,qy,tG (by rw[Kh,dF];exact av _)]
def A8(a:Array Keyed)(i k:Nat):(a.extract i (i+k)).toList=(a.toList.drop i).take k:=by
 rw[qx,qy,Nat.add_sub_cancel_left]
def ja(h:a[i]?=some x):a.toList[i]?=some x:=by rw[eI];exact h
def fJ(h:a[i]?=some x):x∈a.toList:=kV (ja h)
def wI(N:(a.toList.drop i).Pairwise up)(h:a[i]?=some x):∀y∈a.toList.drop i,kv x<=kv y:=by
 rw[mU (ja h)]at N ⊢;intro y hy;rcases bH.mp hy with rfl |hy
 .exact gS _
 .exact(kW.mp N).1 y hy
def LM.pU(m:LM a b out ia ib)(H:a[ia]?=some x)(h:∀y∈b.toList.drop ib,kv x<=kv y):LM a b (out.push x) (ia+1) ib:=by
 unfold LM at*;rw[mU (ja H)]at m;rw[n6];exact Mg.tt (A1:=[x]) m λz hz=>by rw[aB.mp hz];exact h
def LM.pV(m:LM a b out ia ib)(H:b[ib]?=some x)(h:∀y∈a.toList.drop ia,kv x<=kv y):LM a b (out.push x) ia (ib+1):=by
 unfold LM at*;rw[mU (ja H)]at m;rw[n6];exact Mg.wD (B1:=[x]) m λz hz=>by rw[aB.mp hz];exact h
def LM.A9(m:LM a b out ia ib)(k:Nat)(h:∀x∈(a.toList.drop ia).take k,∀y∈b.toList.drop ib,kv x<=kv y):LM a b (out++a.extract ia (ia+k)) (ia+k) ib:=by
 unfold LM at*;rw[wG a.toList ia k]at m;rw[gW,A8];exact m.tt h
def LM.A'(m:LM a b out ia ib)(k:Nat)(h:∀x∈(b.toList.drop ib).take k,∀y∈a.toList.drop ia,kv x<=kv y):LM a b (out++b.extract ib (ib+k)) ia (ib+k):=by
 unfold LM at*;rw[wG b.toList ib k]at m;rw[gW,A8];exact m.wD h
def LM.done(m:LM a b out ia ib)(h:ia=a.size\/ib=b.size):bG a b (dA a b out ia ib):=by
 unfold bG dA;rw[gW,gW,pI,pI];refine Mg.all m λx H y v=>?_;rcases h with h |h
 .rw[A3 (by rw[dF];exact h)]at H;cases H
 .rw[A3 (by rw[dF];exact h)]at v;cases v
def LM.last(c:Cx a b)(m:LM a b out ia ib)(h:ia+1=a.size):bG a b (lA a b out ia ib):=by
 unfold bG lA;rw[gW,gW,pI,pI];obtain⟨p,J⟩:=cP (a:=a) (i:=ia) ("~1nchf6qsIJ" h);refine Mg.all m.swap λy v x H=>?_;rw[mU (ja J),A3 (by rw[dF];exact h),aB]at H;subst H;exact c.i _ (by rw[show a.size - 1=ia from "~1Y0TCZxNPpVs1bPsXkK7UdJYxT<" ao h];exact J) y (List.mem_of_mem_drop v)
def iA.lt(l:iA a b out ia ib):out.size < a.size+b.size:=by
 have h1:=l.c.c.length_eq;have h2:=l.d;simp only[b_,Kh,dF]at h1;exact "~19OrUTg_D5pKfEjo114I?wS7dAjhJw|6mDVveTSv0isze7" ao ao h1 h2
end
section
variable{prog:Program}{w:World}{A:Around}{E:Value->Shared->Prop}{s:Shared}{st:SortSt}{a b out:Array Keyed}{ia ib mg ac bc n0:Nat}
inductive I6(a b:Array Keyed)(n:Nat)(c:S6):Prop
 |mk (out:Array Keyed) (ia ib ac bc:Nat) (e:c=(none,out,ia,ib,ac,bc)) (h:iA a b out ia ib) (k:n<=out.size)
abbrev Q6(a b:Array Keyed)(n0:Nat)(c:S6):Prop:=(∃r q,c=(some r,q)/\bG a b r)\/I6 a b (n0+1) c
def VT(Y:kindOf st=oneType')(g:Cx a b)(l:iA a b out ia ib)(u:n0<=n)(ho:n<=out.size):
  wpS (model prog w) A E s (Jb a b mg (none,out,ia,ib,ac,bc)) (λr ak=>match r with |.done c'=>ak=st/\Q6 a b n0 c' |.yield c'=>ak=st/\I6 a b (n+1) c') st:=by
 obtain⟨G,T,m⟩:=l;obtain⟨x,H⟩:=cP (a:=a) (i:=ia) ("~8Qs>gYAQV" G);obtain⟨y,v⟩:=cP (a:=b) (i:=ib) T;refine aJ (dT v (aJ (dT H (aJ (to Y (g.c _ (fJ v)) (g.d _ (fJ H)) ?_)))));have sz:∀z:Keyed,n+1<=(out.push z).size:=λz=>by rw[qp];exact w9 ho
 by_cases U:kv y < kv x
 .rw[b4 U]
  have I:=m.pV v λz hz=>e_ (kO U) (wI m.b H z hz);refine aJ (dT v ?_);show wpS _ _ _ _ (if(ib+1==b.size)=true then _ else _) _ _;by_cases h1:ib+1=b.size
  .exact cu (aH.mpr h1) (a8 ⟨rfl,.inl ⟨_,_,rfl,I.done (.inr h1)⟩⟩)
  .refine cA (λq=>h1 (aH.mp q)) ?_
   have l2:iA a b (out.push y) ia (ib+1):=⟨G, "~17sC5Y2FWGYcskVL" T h1,I⟩
   split
   .exact a8 ⟨rfl,.inr ⟨_,_,_,_,_,rfl,l2,gY (ql u) (sz y)⟩⟩
   .exact a8 ⟨rfl,_,_,_,_,_,rfl,l2,sz y⟩
 .rw[cc U]
  have I:=m.pU H λz hz=>e_ (jP.mp U) (wI m.a v z hz);refine aJ (dT H ?_);show wpS _ _ _ _ (if(ia+1+1==a.size)=true then _ else _) _ _;by_cases h1:ia+1+1=a.size
  .exact cu (aH.mpr h1) (a8 ⟨rfl,.inl ⟨_,_,rfl,LM.last g I h1⟩⟩)
  .refine cA (λq=>h1 (aH.mp q)) ?_
   have l2:iA a b (out.push x) (ia+1) ib:=⟨"~dSVLlrHgqr2DfGCe<Iw^=" G h1,T,I⟩
   split
   .exact a8 ⟨rfl,.inr ⟨_,_,_,_,_,rfl,l2,gY (ql u) (sz x)⟩⟩
   .exact a8 ⟨rfl,_,_,_,_,_,rfl,l2,sz x⟩
structure Sm(st ak:SortSt):Prop where
 a:kindOf ak=kindOf st
 b:arrOf ak=arrOf st
 c:pendingOf ak=pendingOf st
 d:failedOf ak=failedOf st
def Sm.refl(st:SortSt):Sm st st:=⟨rfl,rfl,rfl,rfl⟩
def Sm.trans(h:Sm x y)(g:Sm y z):Sm x z:=⟨g.a.trans h.a,g.b.trans h.b,g.c.trans h.c,g.d.trans h.d⟩
def wJ(h:∀ak,Sm st ak->Q () ak):wpS (model prog w) A E s (tu g) Q st:=
 wpS_modify (f:=λs=>SortSt.mk' (kindOf s) (arrOf s) (pendingOf s) g (failedOf s)) (h _ ⟨rfl,rfl,rfl,rfl⟩)
inductive I7(a b:Array Keyed)(n:Nat)(c:S7):Prop
 |mk (out:Array Keyed) (ia ib mg ac bc:Nat) (e:c=(none,out,ia,ib,mg,ac,bc)) (h:iA a b out ia ib) (k:n<=out.size)
abbrev Q7(a b:Array Keyed)(n0:Nat)(c:S7):Prop:=(∃r q,c=(some r,q)/\bG a b r)\/I7 a b n0 c
@[inline]abbrev W7(a b:Array Keyed)(st:SortSt)(n:Nat):ForInStep S7->SortSt->Prop:=λr ak=>Sm st ak/\match r with |.done c'=>Q7 a b n c' |.yield c'=>Q7 a b n c'/\c'.1=none
variable{gO:SortSt}
def Jc(N:Sm gO st)(g:Cx a b)(l:iA a b out ia ib)(H:∀x,a[ia]?=some x->∀y∈b.toList.drop ib,kv x<=kv y)(ho:n0<=out.size):
  wpS (model prog w) A E s (A5 a b out ia ib mg ac bc) (W7 a b gO n0) st:=by
 obtain⟨G,T,m⟩:=l;obtain⟨x,e⟩:=cP (a:=a) (i:=ia) ("~8Qs>gYAQV" G);have I:=m.pU e (H x e);have sz:n0<=(out.push x).size:=by rw[qp];exact qn ho
 refine aJ (dT e ?_);by_cases h1:ia+1+1=a.size
 .exact cu (aH.mpr h1) (a8 ⟨N,.inl ⟨_,_,rfl,LM.last g I h1⟩⟩)
 .refine cA (λq=>h1 (aH.mp q)) ?_
  have l2:iA a b (out.push x) (ia+1) ib:=⟨"~dSVLlrHgqr2DfGCe<Iw^=" G h1,T,I⟩
  split
  .exact a8 ⟨N,.inr ⟨_,_,_,_,_,_,rfl,l2,sz⟩⟩
  .exact a8 ⟨N,.inr ⟨_,_,_,_,_,_,rfl,l2,sz⟩,rfl⟩
def Jd(N:Sm gO st)(U:kindOf st=oneType')(g:Cx a b)(l:iA a b out ia ib)(v:∀y,b[ib]?=some y->∀x∈a.toList.drop ia,kv y<=kv x)(ho:n0<=out.size):
  wpS (model prog w) A E s (A6 a b out ia ib mg ac bc) (W7 a b gO n0) st:=by
 obtain⟨G,T,m⟩:=l;obtain⟨y,e⟩:=cP (a:=b) (i:=ib) T;have I:=m.pV e (v y e);have sz:n0<=(out.push y).size:=by rw[qp];exact qn ho
 refine aJ (dT e ?_);by_cases h1:ib+1=b.size
 .exact cu (aH.mpr h1) (a8 ⟨N,.inl ⟨_,_,rfl,I.done (.inr h1)⟩⟩)
 .refine cA (λq=>h1 (aH.mp q)) ?_
  obtain⟨x,ex⟩:=cP (a:=a) (i:=ia) ("~8Qs>gYAQV" G);refine aJ (dT ex (aJ (pT U (g.d _ (fJ ex)) (wH g.c g.e (gV (k8 ("~8RHK;AKvN" T)))) ("~1Lp1Zn;EP14Ere55NtqCvERTz571K" ao T h1) λk o=>?_)));obtain⟨c1,Y⟩:=Ja o (k8 ("~8RHK;AKvN" T));have J:=o.1;have c:=I.A' k λz hz z' t=>e_ (c1 z hz) (wI m.b ex z' t);have key:∀(x':Keyed),a[ia]?=some x'->∀z∈b.toList.drop (ib+1+k),kv x'<=kv z:=λx' q=>by rw[ex]at q;cases q;exact Y
  show wpS _ _ _ _ (if k>0 then _ else _) _ _;by_cases h0:k>0
  .refine cu h0 ?_
   by_cases h2:ib+1+k=b.size
   .exact cu (aH.mpr h2) (a8 ⟨N,.inl ⟨_,_,rfl,c.done (.inr h2)⟩⟩)
   .refine cA (λq=>h2 (aH.mp q)) ?_
    exact Jc N g ⟨G, "~Ydah=r_VVn>WdEW6|<o7U1_<rk91SsPO0LI_KT" ao h0 J h2,c⟩ key (by rw[Cf];exact aL sz (eo _ _))
  .refine cA h0 ?_
   obtain rfl:k=0:=Nat.eq_zero_of_not_pos h0;exact Jc N g ⟨G, "~17sC5Y2FWGYcskVL" T h1,I⟩ key sz
def Je(N:Sm gO st)(U:kindOf st=oneType')(g:Cx a b)(l:iA a b out ia ib)(ho:n0<=out.size):
  wpS (model prog w) A E s (A7 a b out ia ib mg ac bc) (W7 a b gO n0) st:=by
 refine aJ (wJ λf_ h1=>?_);have N:=N.trans h1;have U:=h1.a.trans U;obtain⟨G,T,m⟩:=l;obtain⟨y,e⟩:=cP (a:=b) (i:=ib) T;refine aJ (dT e (aJ (pT U (g.c _ (fJ e)) (wH g.d g.f (gV (k8 ("~8Qs>gY8lN" G)))) ("~x6||yLT;a2P08T>Tj" ao G) λk o=>?_)));obtain⟨c1,v⟩:=Ja o (k8 ("~8Qs>gY8lN" G));have J:=o.1;have c:=m.A9 k λz hz z' t=>e_ (c1 z hz) (wI m.a e z' t);have key:∀(x':Keyed),b[ib]?=some x'->∀z∈a.toList.drop (ia+k),kv x'<=kv z:=λx' q=>by rw[e]at q;cases q;exact v
 show wpS _ _ _ _ (if k>0 then _ else _) _ _;by_cases h0:k>0
 .refine cu h0 ?_
  by_cases h2:ia+k+1=a.size
  .exact cu (aH.mpr h2) (a8 ⟨N,.inl ⟨_,_,rfl,LM.last g c h2⟩⟩)
  .refine cA (λq=>h2 (aH.mp q)) ?_
   by_cases h3:ia+k=a.size
   .exact cu (aH.mpr h3) (a8 ⟨N,.inl ⟨_,_,rfl,c.done (.inl h3)⟩⟩)
   .refine cA (λq=>h3 (aH.mp q)) ?_
    exact Jd N U g ⟨"~3s5<u6d^teadaaUOhK5afqMlTymX7bukF8vAex;^=<LoQxcyfdUBN33jfp_=xti=" ao h0 J h2 h3,T,c⟩ key (by rw[Cf];exact aL ho (eo _ _))
 .refine cA h0 ?_
  obtain rfl:k=0:=Nat.eq_zero_of_not_pos h0;exact Jd N U g ⟨G,T,m⟩ key ho
def VU(v:kindOf st=oneType')(g:Cx a b)(h:∀r ak,Sm st ak->bG a b r->Q r ak):wpS (model prog w) A E s (A4 a b) Q st:=by
 rw[VS];refine aJ (wpS_lift (gU ⟨rfl,?_⟩));obtain⟨y,e⟩:=cP (a:=b) (i:=0) g.g;have G:LM a b #[] 0 0:=⟨List.Perm.refl _,.nil,λ_ h=>(nomatch h),λ_ h=>(nomatch h),g.f,g.e⟩;have T:LM a b #[y] 0 1:=G.pV e (g.j y e);refine aJ (dT e ?_);by_cases h1:1=b.size
 .exact cu (aH.mpr h1) (a8 (h _ _ (.refl _) (T.done (.inr h1))))
 .refine cA (λq=>h1 (aH.mp q)) ?_
  by_cases h2:0+1=a.size
  .exact cu (aH.mpr h2) (a8 (h _ _ (.refl _) (LM.last g T h2)))
  .refine cA (λq=>h2 (aH.mp q)) ?_
   have v1:=g.h;have v2:=g.g;refine aJ (kZ (aJ (eS (gg (I:=λn c ak=>Sm st ak/\∃out ia ib mg,c=((none,out,ia,ib,mg):S5)/\iA a b out ia ib/\n < out.size)
    (Q:=λc ak=>Sm st ak/\∃r q,c=((some r,q):S5)/\bG a b r) ?step ?fin ⟨.refl _,_,_,_,_,rfl,⟨"~x5yrNLlyhHCs1^JFS" v1 h2, "~1I;4G41HkWhPp<" v2 h1,T⟩,tP⟩) ?post)))
   case post=>
    rintro c ak ⟨N,r,q,rfl,C⟩;exact a8 (h r ak N C)
   case fin=>
    rintro c ak ⟨N,out,ia,ib,mg,rfl,l,ho⟩;have v3:=l.lt;exact absurd ho (by lia)
   case step=>
    rintro n c ak _ u ⟨N,out,ia,ib,mg,rfl,l,ho⟩;have J:=N.a.trans v;refine aJ (eS (gg (I:=λx c f=>f=ak/\I6 a b (out.size+x) c) (Q:=λc f=>f=ak/\Q6 a b out.size c) ?s1 ?f1 ⟨rfl,_,_,_,_,_,rfl,l,av _⟩) ?p1)
    case f1=>
     rintro c f ⟨h1,o,i,j,x,y,h2,h3,h4⟩;exact⟨h1,.inr ⟨o,i,j,x,y,h2,h3, "~8gN>omVsipRU8yqRqWF1QOxj" qK h4 v1⟩⟩
    case s1=>
     rintro x c f _ _ ⟨rfl,o,i,j,x,y,rfl,h3,h4⟩;exact eS (VT J g h3 (eo _ _) h4) λr p k=>by induction r <;>exact k
    case p1=>
     rintro c f ⟨rfl,⟨r,q,rfl,C⟩ |⟨o,i,j,x,y,rfl,l2,B⟩⟩
     .exact a8 ⟨N,r,_,rfl,C⟩
     .refine aJ (wpS_lift (gU ⟨rfl,?_⟩))
      refine aJ (eS (gg (I:=λ_ c eH=>Sm f eH/\Q7 a b o.size c/\c.1=none) (Q:=λc eH=>Sm f eH/\Q7 a b o.size c) ?s2 ?f2 ⟨.refl _,.inr ⟨_,_,_,_,_,_,rfl,l2,av _⟩,rfl⟩) ?p2)
      case f2=>exact λc eH k=>⟨k.1,k.2.1⟩
      case s2=>
       rintro x c eH _ _ ⟨h1,⟨r,q,rfl,_⟩ |⟨o',L,j',Y,x',z,rfl,U,m⟩,hc⟩
       .cases hc
       .have t:=h1.a.trans J
        by_cases H:Y>1
        .exact cu H (eS (Je h1 t g U m) λr p k=>by induction r <;>exact k)
        .exact cA H (eS (Je h1 t g U m) λr p k=>by induction r <;>exact k)
      case p2=>
       rintro c eH ⟨h1,⟨r,q,rfl,C⟩ |⟨o',L,j',Y,x',z,rfl,U,m⟩⟩
       .exact a8 ⟨N.trans h1,r,_,rfl,C⟩
       .exact aJ (wJ λp h4=>a8 ⟨(N.trans h1).trans h4,_,_,_,_,rfl,U, "~Co7o=l|yvUuDMQrP" B m ho⟩)
end
abbrev A_:Array Keyed->Array Keyed->SM (Array Keyed):=sortPriv% PySem.Builtin.mergeHi
abbrev dH(a b out:Array Keyed)(na nb:Nat):Array Keyed:=a.extract 0 na++b.extract 0 nb++out.reverse
abbrev fH(a b out:Array Keyed)(na nb:Nat):Array Keyed:=b.extract 0 nb++a.extract 0 na++out.reverse
@[inline]abbrev H6:=Option (Array Keyed)×Nat×Nat×Array Keyed×Nat×Nat
@[inline]abbrev H7:=Option (Array Keyed)×Nat×Nat×Array Keyed×Nat×Nat×Nat
@[inline]abbrev H5:=Option (Array Keyed)×Nat×Nat×Array Keyed×Nat
abbrev gu(a b:Array Keyed)(mg na nb:Nat)(out:Array Keyed)(ac bc:Nat):SM (ForInStep H6):=do
 let y <-elem' b (nb - 1)
 let x <-elem' a (na - 1)
 let z <-lt' y x
 match z with
 |some c=>if c=true then(do
   let x <-elem' a (na - 1)
   if(na - 1==0)=true then pure (ForInStep.done (some (dH a b (out.push x) (na - 1) nb),na - 1,nb,out.push x,ac+1,0))
    else if ac+1>=mg then pure (ForInStep.done (none,na - 1,nb,out.push x,ac+1,0))else pure (ForInStep.yield (none,na - 1,nb,out.push x,ac+1,0)))else(do
   let y <-elem' b (nb - 1)
   if(nb - 1==1)=true then pure (ForInStep.done (some (fH a b (out.push y) na (nb - 1)),na,nb - 1,out.push y,0,bc+1))
    else if bc+1>=mg then pure (ForInStep.done (none,na,nb - 1,out.push y,0,bc+1))else pure (ForInStep.yield (none,na,nb - 1,out.push y,0,bc+1)))
 |_=>pure (ForInStep.done (some (dH a b out na nb),na,nb,out,ac,bc))
abbrev Ba(a b out:Array Keyed)(na nb mg ac k:Nat):SM (ForInStep H7):=do
 let x <-elem' a (na - 1)
 if(na - 1==0)=true then pure (ForInStep.done (some (dH a b (out.push x) (na - 1) nb),na - 1,nb,out.push x,mg,ac,k))
  else if(decide (ac < 7)&&decide (k < 7))=true then pure (ForInStep.done (none,na - 1,nb,out.push x,mg,ac,k))else pure (ForInStep.yield (none,na - 1,nb,out.push x,mg,ac,k))
abbrev Bb(a b out:Array Keyed)(na nb mg ac bc:Nat):SM (ForInStep H7):=do
 let y <-elem' b (nb - 1)
 if(nb - 1==1)=true then pure (ForInStep.done (some (fH a b (out.push y) na (nb - 1)),na,nb - 1,out.push y,mg,ac,bc))else(do
  let x <-elem' a (na - 1)
  let z <-mf true x b 0 (nb - 1) (nb - 1 - 1)
  match z with
  |some j=>if nb - 1 - j>0 then(if(j==1)=true then pure (ForInStep.done (some (fH a b (out.push y++(b.extract j (nb - 1)).reverse) na j),na,j,out.push y++(b.extract j (nb - 1)).reverse,mg,ac,nb - 1 - j))
    else if(j==0)=true then pure (ForInStep.done (some (dH a b (out.push y++(b.extract j (nb - 1)).reverse) na j),na,j,out.push y++(b.extract j (nb - 1)).reverse,mg,ac,nb - 1 - j))
    else Ba a b (out.push y++(b.extract j (nb - 1)).reverse) na j mg ac (nb - 1 - j))else Ba a b (out.push y) na (nb - 1) mg ac (nb - 1 - j)
  |_=>pure (ForInStep.done (some (dH a b (out.push y) na (nb - 1)),na,nb - 1,out.push y,mg,ac,bc)))
abbrev Bc(a b out:Array Keyed)(na nb mg ac bc:Nat):SM (ForInStep H7):=do
 tu mg
 let y <-elem' b (nb - 1)
 let z <-mf false y a 0 na (na - 1)
 match z with
 |some j=>if na - j>0 then(if(j==0)=true then pure (ForInStep.done (some (dH a b (out++(a.extract j na).reverse) j nb),j,nb,out++(a.extract j na).reverse,mg,na - j,bc))
   else Bb a b (out++(a.extract j na).reverse) j nb mg (na - j) bc)else Bb a b out na nb mg (na - j) bc
 |_=>pure (ForInStep.done (some (dH a b out na nb),na,nb,out,mg,ac,bc))
abbrev nh(a b:Array Keyed)(d:H7):SM (ForInStep H7):=
 if d.2.2.2.2.1>1 then Bc a b d.2.2.2.1 d.2.1 d.2.2.1 (d.2.2.2.2.1 - 1) d.2.2.2.2.2.1 d.2.2.2.2.2.2 else Bc a b d.2.2.2.1 d.2.1 d.2.2.1 d.2.2.2.2.1 d.2.2.2.2.2.1 d.2.2.2.2.2.2
abbrev VV(a b:Array Keyed)(c:H5):SM (ForInStep H5):=do
 let r <-forIn [0:a.size+b.size] ((none,c.2.1,c.2.2.1,c.2.2.2.1,0,0):H6) λJ d=>gu a b c.2.2.2.2 d.2.1 d.2.2.1 d.2.2.2.1 d.2.2.2.2.1 d.2.2.2.2.2
 match r.1 with
 |some q=>pure (ForInStep.done (some q,r.2.1,r.2.2.1,r.2.2.2.1,c.2.2.2.2))
 |none=>do
  liftM (rule "list.sort.gallop" :Sem Unit)
  let r <-forIn [0:a.size+b.size] ((none,r.2.1,r.2.2.1,r.2.2.2.1,c.2.2.2.2+1,r.2.2.2.2.1,r.2.2.2.2.2):H7) λJ d=>nh a b d
  match r.1 with
  |some q=>pure (ForInStep.done (some q,r.2.1,r.2.2.1,r.2.2.2.1,r.2.2.2.2.1))
  |none=>do
   tu (r.2.2.2.2.1+1)
   pure (ForInStep.yield (none,r.2.1,r.2.2.1,r.2.2.2.1,r.2.2.2.2.1+1))
def VW(a b:Array Keyed):A_ a b=(do
  liftM (rule "list.sort.merge-hi" :Sem Unit)
  let o <-elem' a (a.size - 1)
  if(a.size - 1==0)=true then pure (dH a b #[o] (a.size - 1) b.size)else if(b.size==1)=true then pure (fH a b #[o] (a.size - 1) b.size)else(do
   let g <-get
   let r <-forIn [0:a.size+b.size] ((none,a.size - 1,b.size,#[o],gallopOf g):H5) λJ c=>VV a b c
   match r.1 with
   |some q=>pure q|none=>liftM (unsupported "internal:list.sort.merge-bound" :Sem (Array Keyed)))):=by kernel_rfl
@[inline]abbrev HM(a b out:Array Keyed)(na nb:Nat):Prop:=Mg dn (a.toList++b.toList) out.toList (a.toList.take na).reverse (b.toList.take nb).reverse
structure iB(a b out:Array Keyed)(na nb:Nat):Prop where
 f:0 < na
 g:1 < nb
 e:na<=a.size
 d:nb<=b.size
 c:HM a b out na nb
section
variable{a b out:Array Keyed}{na nb k i j n:Nat}{x y:Keyed}
def wK{l:List Keyed}(h:l[i]?=some x):(l.take (i+1)).reverse=x::(l.take i).reverse:=by
 rw[List.take_add_one,h,tQ];rfl
def Jf(l:List Keyed)(h:j<=n):(l.take n).reverse=((l.drop j).take (n - j)).reverse++(l.take j).reverse:=by
 rw[<-tQ,<-List.take_add,k8 h]
def Jg(a:Array Keyed)(i j:Nat):((a.extract i j).reverse).toList=((a.toList.drop i).take (j - i)).reverse:=by
 rw[Kv,qx,qy]
def wL(a:Array Keyed)(j:Nat):(a.extract 0 j).toList=a.toList.take j:=by
 rw[qx,qy];rfl
def wM(N:((a.toList.take (i+1)).reverse).Pairwise dn)(h:a[i]?=some x):∀y∈(a.toList.take (i+1)).reverse,kv y<=kv x:=by
 rw[wK (ja h)]at N ⊢;intro y hy;rcases bH.mp hy with rfl |hy
 .exact gS _
 .exact(kW.mp N).1 y hy
def HM.pU(m:HM a b out (i+1) nb)(H:a[i]?=some x)(h:∀y∈(b.toList.take nb).reverse,kv y<=kv x):HM a b (out.push x) i nb:=by
 unfold HM at*;rw[wK (ja H)]at m;rw[n6];exact Mg.tt (A1:=[x]) m λz hz=>by rw[aB.mp hz];exact h
def HM.pV(m:HM a b out na (i+1))(H:b[i]?=some x)(h:∀y∈(a.toList.take na).reverse,kv y<=kv x):HM a b (out.push x) na i:=by
 unfold HM at*;rw[wK (ja H)]at m;rw[n6];exact Mg.wD (B1:=[x]) m λz hz=>by rw[aB.mp hz];exact h
def HM.A9(m:HM a b out na nb)(f:j<=na)(h:∀x∈((a.toList.drop j).take (na - j)).reverse,∀y∈(b.toList.take nb).reverse,kv y<=kv x):HM a b (out++(a.extract j na).reverse) j nb:=by
 unfold HM at*;rw[Jf a.toList f]at m;rw[gW,Jg];exact m.tt h
def HM.A'(m:HM a b out na nb)(f:j<=nb)(h:∀x∈((b.toList.drop j).take (nb - j)).reverse,∀y∈(a.toList.take na).reverse,kv y<=kv x):HM a b (out++(b.extract j nb).reverse) na j:=by
 unfold HM at*;rw[Jf b.toList f]at m;rw[gW,Jg];exact m.wD h
def Jh(h:Dn dn R l):Dn up R l.reverse:=⟨(Kw l).trans h.1,Kx.mpr h.2⟩
def HM.done(m:HM a b out na nb)(h:na=0\/nb=0):bG a b (dH a b out na nb):=by
 have:=Jh (Mg.all m.swap λx H y v=>by
  rcases h with rfl |rfl
  .rw[Ky]at v;cases v
  .rw[Ky]at H;cases H)
 unfold bG dH;rw[gW,gW,wL,wL,Kv];rw[tQ,tQ,Cg,Cg,<-c6]at this;exact this
def HM.last(c:Cx a b)(m:HM a b out na nb)(h:nb=1):bG a b (fH a b out na nb):=by
 subst h;obtain⟨p,J⟩:=cP (a:=b) (i:=0) c.g;have:=Jh (Mg.all m λx H y v=>by
  rw[wK (i:=0) (ja J),Ky,List.reverse_nil,aB]at v;subst v;exact c.j _ J x (List.mem_of_mem_take (tR.mp H)))
 unfold bG fH;rw[gW,gW,wL,wL,Kv];rw[tQ,tQ,Cg,Cg,<-c6]at this;exact this
def iB.lt(l:iB a b out na nb):out.size < a.size+b.size:=by
 have h1:=l.c.c.length_eq;have h2:=l.f;have h3:=l.e;have h4:=l.d;simp only[b_,List.length_reverse,Kz,dF]at h1;exact "~ni==I27QM6CKl|uaoBLS8w=F|dN?hBiCqDIL2BnSIsEKy1;It" fa fa h1 h3 h2
def Ji(c:tr left key a 0 n k)(u:n<=a.size):(∀x∈((a.toList.drop k).take (n - k)).reverse,kv key<=kv x)/\∀x∈(a.toList.take k).reverse,kv x<=kv key:=by
 obtain⟨c1,v,L⟩:=c;refine⟨λx H=>?_,λx H=>?_⟩
 .obtain⟨j,f,e⟩:=wE (tR.mp H)
  rw[eI]at e;have:=L (k+j) (eo _ _) ("~GFFarSXCIltmCP" ao f);rw[qf]at this;exact(mh e).2 this
 .obtain⟨j,f,e⟩:=wE (i:=0) (tR.mp H)
  rw[eI]at e;exact(mh e).1 (v j f)
end
section
variable{prog:Program}{w:World}{A:Around}{E:Value->Shared->Prop}{s:Shared}{st gO:SortSt}{a b out:Array Keyed}{na nb mg ac bc n0:Nat}
inductive J6(a b:Array Keyed)(n:Nat)(c:H6):Prop
 |mk (out:Array Keyed) (ia ib ac bc:Nat) (e:c=(none,ia,ib,out,ac,bc)) (h:iB a b out ia ib) (k:n<=out.size)
abbrev P6(a b:Array Keyed)(n0:Nat)(c:H6):Prop:=(∃r q,c=(some r,q)/\bG a b r)\/J6 a b (n0+1) c
def VX(Q:kindOf st=oneType')(g:Cx a b)(l:iB a b out na nb)(Y:n0<=n)(ho:n<=out.size):
  wpS (model prog w) A E s (gu a b mg na nb out ac bc) (λr ak=>match r with |.done c'=>ak=st/\P6 a b n0 c' |.yield c'=>ak=st/\J6 a b (n+1) c') st:=by
 obtain⟨G,T,la,u,m⟩:=l;obtain⟨i,rfl⟩:∃i,na=i+1:=⟨na - 1, "~1|VP0PdoOx_pbwt5LNmPYAYUN" ao G⟩;obtain⟨j,rfl⟩:∃j,nb=j+1:=⟨nb - 1, "~1|VP0PdbJBFmp>rJWiK=URw0D" ao T⟩;obtain⟨x,H⟩:=cP (a:=a) (i:=i) ("~8Qs>azw5N" la);obtain⟨y,v⟩:=cP (a:=b) (i:=j) ("~8Qs>azw5N" u);refine aJ (dT (i:=j) v (aJ (dT (i:=i) H (aJ (to Q (g.c _ (fJ v)) (g.d _ (fJ H)) ?_)))));have sz:∀z:Keyed,n+1<=(out.push z).size:=λz=>by rw[qp];exact w9 ho
 by_cases U:kv y < kv x
 .rw[b4 U]
  have I:=m.pU H λz hz=>e_ (wM m.a v z hz) (kO U);refine aJ (dT (i:=i) H ?_);show wpS _ _ _ _ (if(i==0)=true then _ else _) _ _;by_cases h1:i=0
  .exact cu (aH.mpr h1) (a8 ⟨rfl,.inl ⟨_,_,rfl,I.done (.inl h1)⟩⟩)
  .refine cA (λq=>h1 (aH.mp q)) ?_
   have l2:iB a b (out.push x) i (j+1):=⟨Ch h1,T,xp la,u,I⟩
   split
   .exact a8 ⟨rfl,.inr ⟨_,_,_,_,_,rfl,l2,gY (ql Y) (sz x)⟩⟩
   .exact a8 ⟨rfl,_,_,_,_,_,rfl,l2,sz x⟩
 .rw[cc U]
  have I:=m.pV v λz hz=>e_ (wM m.b H z hz) (jP.mp U);refine aJ (dT (i:=j) v ?_);show wpS _ _ _ _ (if(j==1)=true then _ else _) _ _;by_cases h1:j=1
  .exact cu (aH.mpr h1) (a8 ⟨rfl,.inl ⟨_,_,rfl,HM.last g I h1⟩⟩)
  .refine cA (λq=>h1 (aH.mp q)) ?_
   have l2:iB a b (out.push y) (i+1) j:=⟨G, "~BkkqYsXZhwvtz^bE" T h1,la,xp u,I⟩
   split
   .exact a8 ⟨rfl,.inr ⟨_,_,_,_,_,rfl,l2,gY (ql Y) (sz y)⟩⟩
   .exact a8 ⟨rfl,_,_,_,_,_,rfl,l2,sz y⟩
inductive J7(a b:Array Keyed)(n:Nat)(c:H7):Prop
 |mk (out:Array Keyed) (ia ib mg ac bc:Nat) (e:c=(none,ia,ib,out,mg,ac,bc)) (h:iB a b out ia ib) (k:n<=out.size)
abbrev P7(a b:Array Keyed)(n0:Nat)(c:H7):Prop:=(∃r q,c=(some r,q)/\bG a b r)\/J7 a b n0 c
@[inline]abbrev V7(a b:Array Keyed)(st:SortSt)(n:Nat):ForInStep H7->SortSt->Prop:=λr ak=>Sm st ak/\match r with |.done c'=>P7 a b n c' |.yield c'=>P7 a b n c'/\c'.1=none
def Jj(N:Sm gO st)(g:Cx a b)(l:iB a b out na nb)(H:∀x,a[na - 1]?=some x->∀y∈(b.toList.take nb).reverse,kv y<=kv x)(ho:n0<=out.size):
  wpS (model prog w) A E s (Ba a b out na nb mg ac bc) (V7 a b gO n0) st:=by
 obtain⟨G,T,la,u,m⟩:=l;obtain⟨i,rfl⟩:∃i,na=i+1:=⟨na - 1, "~1|VP0PdoOx_pbwt5LNmPYAYUN" ao G⟩;obtain⟨x,e⟩:=cP (a:=a) (i:=i) ("~8Qs>azw5N" la);have I:=m.pU e (H x e);have sz:n0<=(out.push x).size:=by rw[qp];exact qn ho
 refine aJ (dT (i:=i) e ?_);show wpS _ _ _ _ (if(i==0)=true then _ else _) _ _;by_cases h1:i=0
 .exact cu (aH.mpr h1) (a8 ⟨N,.inl ⟨_,_,rfl,I.done (.inl h1)⟩⟩)
 .refine cA (λq=>h1 (aH.mp q)) ?_
  have l2:iB a b (out.push x) i nb:=⟨Ch h1,T,xp la,u,I⟩
  split
  .exact a8 ⟨N,.inr ⟨_,_,_,_,_,_,rfl,l2,sz⟩⟩
  .exact a8 ⟨N,.inr ⟨_,_,_,_,_,_,rfl,l2,sz⟩,rfl⟩
def Jk(N:Sm gO st)(U:kindOf st=oneType')(g:Cx a b)(l:iB a b out na nb)(v:∀y,b[nb - 1]?=some y->∀x∈(a.toList.take na).reverse,kv x<=kv y)(ho:n0<=out.size):
  wpS (model prog w) A E s (Bb a b out na nb mg ac bc) (V7 a b gO n0) st:=by
 obtain⟨G,T,la,u,m⟩:=l;obtain⟨i,rfl⟩:∃i,na=i+1:=⟨na - 1, "~1|VP0PdoOx_pbwt5LNmPYAYUN" ao G⟩;obtain⟨j,rfl⟩:∃j,nb=j+1:=⟨nb - 1, "~1|VP0PdbJBFmp>rJWiK=URw0D" ao T⟩;obtain⟨y,e⟩:=cP (a:=b) (i:=j) ("~8Qs>azw5N" u);have I:=m.pV e (v y e);have sz:n0<=(out.push y).size:=by rw[qp];exact qn ho
 refine aJ (dT (i:=j) e ?_);show wpS _ _ _ _ (if(j==1)=true then _ else _) _ _;by_cases h1:j=1
 .exact cu (aH.mpr h1) (a8 ⟨N,.inl ⟨_,_,rfl,HM.last g I h1⟩⟩)
 .refine cA (λq=>h1 (aH.mp q)) ?_
  obtain⟨x,ex⟩:=cP (a:=a) (i:=i) ("~8Qs>azw5N" la);refine aJ (dT (i:=i) ex (aJ (pT (n:=j) U (g.d _ (fJ ex)) (wH g.c g.e ("~74kDBaFP6|y" u)) ("~;<fxB1vcWgzv?IRkhB^;=PJ0_fCzeasov_Nor" ao ao T) λk o=>?_)));have f:k<=j:=o.1;obtain⟨c1,Y⟩:=Ji o (xp u);have c:=I.A' f λz hz z' t=>e_ (wM m.b ex z' t) (c1 z hz);have key:∀k',k'<=k->∀(x':Keyed),a[i]?=some x'->∀z∈(b.toList.take k').reverse,kv z<=kv x':=λk' J x' q z hz=>by
   rw[ex]at q;cases q;exact Y z (tR.mpr ((List.take_subset_take_left _ J) (tR.mp hz)))
  show wpS _ _ _ _ (if j - k>0 then _ else _) _ _;by_cases h0:j - k>0
  .refine cu h0 ?_
   by_cases h2:k=1
   .exact cu (aH.mpr h2) (a8 ⟨N,.inl ⟨_,_,rfl,HM.last g c h2⟩⟩)
   .refine cA (λq=>h2 (aH.mp q)) ?_
    by_cases h3:k=0
    .exact cu (aH.mpr h3) (a8 ⟨N,.inl ⟨_,_,rfl,c.done (.inr h3)⟩⟩)
    .refine cA (λq=>h3 (aH.mp q)) ?_
     exact Jj N g ⟨G, "~3?5BY=_ukS3eQPv6fvb" h3 h2,la, "~1_WXg48Dl6d5" u f,c⟩ (key k (av _)) (by rw[Cf];exact aL sz (eo _ _))
  .refine cA h0 ?_
   obtain rfl:k=j:= "~JvhuRoh1y>EE2Dxvwvoam|i9nXb" ao f h0;exact Jj N g ⟨G, "~vf0|DUUl|yX_DmyaK>Pltsal59d?I<w?" ao T h1,la,xp u,I⟩ (key k (av _)) sz
def Jl(N:Sm gO st)(U:kindOf st=oneType')(g:Cx a b)(l:iB a b out na nb)(ho:n0<=out.size):
  wpS (model prog w) A E s (Bc a b out na nb mg ac bc) (V7 a b gO n0) st:=by
 refine aJ (wJ λf_ h1=>?_);have N:=N.trans h1;have U:=h1.a.trans U;obtain⟨G,T,la,u,m⟩:=l;obtain⟨j,rfl⟩:∃j,nb=j+1:=⟨nb - 1, "~1|VP0PdbJBFmp>rJWiK=URw0D" ao T⟩;obtain⟨y,e⟩:=cP (a:=b) (i:=j) ("~8Qs>azw5N" u);refine aJ (dT (i:=j) e (aJ (pT (n:=na) U (g.c _ (fJ e)) (wH g.d g.f ("~8RCgU|T=T" la)) ("~BgSL9sbRoN^=G<SJ" ao G) λk o=>?_)));have J:k<=na:=o.1;obtain⟨c1,v⟩:=Ji o la;have c:=m.A9 J λz hz z' t=>e_ (wM m.a e z' t) (c1 z hz);have key:∀(x':Keyed),b[j]?=some x'->∀z∈(a.toList.take k).reverse,kv z<=kv x':=λx' q=>by rw[e]at q;cases q;exact v
 show wpS _ _ _ _ (if na - k>0 then _ else _) _ _;by_cases h0:na - k>0
 .refine cu h0 ?_
  by_cases h3:k=0
  .exact cu (aH.mpr h3) (a8 ⟨N,.inl ⟨_,_,rfl,c.done (.inl h3)⟩⟩)
  .refine cA (λq=>h3 (aH.mp q)) ?_
   exact Jk N U g ⟨Ch h3,T,aL J la,u,c⟩ key (by rw[Cf];exact aL ho (eo _ _))
 .refine cA h0 ?_
  obtain rfl:k=na:= "~JvhuRoh1y>EE2Dxvwvoam|i9nXb" ao J h0;exact Jk N U g ⟨G,T,la,u,m⟩ key ho
def VY(hk:kindOf st=oneType')(g:Cx a b)(h:∀r ak,Sm st ak->bG a b r->Q r ak):wpS (model prog w) A E s (A_ a b) Q st:=by
 rw[VW];refine aJ (wpS_lift (gU ⟨rfl,?_⟩));obtain⟨n,u⟩:∃n,a.size=n+1:=⟨a.size - 1,by have v1:=g.h;exact "~1|VP0PdoOx_pbwt5LNmPYAYUN" ao v1⟩;obtain⟨x,e⟩:=cP (a:=a) (i:=a.size - 1) ("~3>D0JQq2bcP_L<kTH;Q" ao u);have G:HM a b #[] a.size b.size:=by
  unfold HM;rw[tG (by rw[dF];exact av _),tG (by rw[dF];exact av _)];exact⟨(show(a.toList.reverse++b.toList.reverse).Perm (a.toList++b.toList)from List.Perm.append (Kw _) (Kw _)),.nil,λ_ h=>(nomatch h),λ_ h=>(nomatch h),Kx.mpr g.f,Kx.mpr g.e⟩
 have T:HM a b #[x] (a.size - 1) b.size:=by
  rw[show a.size=(a.size - 1)+1 from "~1M=2W;8IzZ32mxbj2oHAy^_l_bzf^" ao u]at G;exact G.pU e λy v=>g.i x e y (List.mem_of_mem_take (tR.mp v))
 refine aJ (dT e ?_);by_cases h1:a.size - 1=0
 .exact cu (aH.mpr h1) (a8 (h _ _ (.refl _) (T.done (.inl h1))))
 .refine cA (λq=>h1 (aH.mp q)) ?_
  by_cases h2:b.size=1
  .exact cu (aH.mpr h2) (a8 (h _ _ (.refl _) (HM.last g T h2)))
  .refine cA (λq=>h2 (aH.mp q)) ?_
   have v2:=g.g;refine aJ (kZ (aJ (eS (gg (I:=λn c ak=>Sm st ak/\∃out ia ib mg,c=((none,ia,ib,out,mg):H5)/\iB a b out ia ib/\n < out.size)
    (Q:=λc ak=>Sm st ak/\∃r q,c=((some r,q):H5)/\bG a b r) ?step ?fin ⟨.refl _,_,_,_,_,rfl,⟨Ch h1, "~F2ylM3>_kWdsuG" v2 h2,BU _ _,av _,T⟩,tP⟩) ?post)))
   case post=>
    rintro c ak ⟨N,r,q,rfl,C⟩;exact a8 (h r ak N C)
   case fin=>
    rintro c ak ⟨N,out,ia,ib,mg,rfl,l,ho⟩;have v3:=l.lt;exact absurd ho (by lia)
   case step=>
    rintro n c ak _ u ⟨N,out,ia,ib,mg,rfl,l,ho⟩;have J:=N.a.trans hk;refine aJ (eS (gg (I:=λx c f=>f=ak/\J6 a b (out.size+x) c) (Q:=λc f=>f=ak/\P6 a b out.size c) ?s1 ?f1 ⟨rfl,_,_,_,_,_,rfl,l,av _⟩) ?p1)
    case f1=>
     rintro c f ⟨h1,o,i,j,x,y,h2,h3,h4⟩;exact⟨h1,.inr ⟨o,i,j,x,y,h2,h3,by lia⟩⟩
    case s1=>
     rintro x c f _ _ ⟨rfl,o,i,j,x,y,rfl,h3,h4⟩;exact eS (VX J g h3 (eo _ _) h4) λr p k=>by induction r <;>exact k
    case p1=>
     rintro c f ⟨rfl,⟨r,q,rfl,C⟩ |⟨o,i,j,x,y,rfl,l2,B⟩⟩
     .exact a8 ⟨N,r,_,rfl,C⟩
     .refine aJ (wpS_lift (gU ⟨rfl,?_⟩))
      refine aJ (eS (gg (I:=λ_ c eH=>Sm f eH/\P7 a b o.size c/\c.1=none) (Q:=λc eH=>Sm f eH/\P7 a b o.size c) ?s2 ?f2 ⟨.refl _,.inr ⟨_,_,_,_,_,_,rfl,l2,av _⟩,rfl⟩) ?p2)
      case f2=>exact λc eH k=>⟨k.1,k.2.1⟩
      case s2=>
       rintro x c eH _ _ ⟨h1,⟨r,q,rfl,_⟩ |⟨o',L,j',Y,x',z,rfl,U,m⟩,hc⟩
       .cases hc
       .have t:=h1.a.trans J
        by_cases H:Y>1
        .exact cu H (eS (Jl h1 t g U m) λr p k=>by induction r <;>exact k)
        .exact cA H (eS (Jl h1 t g U m) λr p k=>by induction r <;>exact k)
      case p2=>
       rintro c eH ⟨h1,⟨r,q,rfl,C⟩ |⟨o',L,j',Y,x',z,rfl,U,m⟩⟩
       .exact a8 ⟨N.trans h1,r,_,rfl,C⟩
       .exact aJ (wJ λp h4=>a8 ⟨(N.trans h1).trans h4,_,_,_,_,rfl,U, "~Co7o=l|yvUuDMQrP" B m ho⟩)
end
end Mine.Lake.R
end
set_option tactic.hygienic true
section
open PySem PyProof.Rows
namespace Mine.Lake.R
@[inline]abbrev PT:=Array (Nat×Nat×Nat)
structure Sb(a₀:Array Keyed)(P:PT)(st:SortSt):Prop where
 b:(arrOf st).Perm a₀
 a:kindOf st=oneType'
 c:failedOf st=none
 d:pendingOf st=P
abbrev cp(a:Array Keyed)(i j:Nat):Prop:=∀k l,i<=k->k<=l->l < j->K a k<=K a l
abbrev gc(a₀:Array Keyed):Prop:=∀p∈a₀.toList,iz p
section
variable{a₀:Array Keyed}{P:PT}{st:SortSt}{i j:Nat}
def Sb.size(h:Sb a₀ P st):(arrOf st).size=a₀.size:=h.b.size_eq
def Sb.ints(h:Sb a₀ P st)(h0:gc a₀):∀p∈(arrOf st).toList,iz p:=λp J=>h0 p ((KC.mp h.b).mem_iff.mp J)
def Sb.setArr(h:Sb a₀ P st)(J:xs.Perm (arrOf st)):Sb a₀ P (setArr st xs):=⟨J.trans h.b,h.a,h.c,h.d⟩
def cp.sub(h:cp a i j)(h1:i<=L)(h2:j'<=j):cp a L j':=λk l t B C=>h k l (aL h1 t) B (gY C h2)
def cp.one:cp a i (i+1):=λk l t B C=>by
 obtain rfl:k=l:= "~3q45G_BQ8CLLvidJv" t B C;exact gS _
def cp.snoc(h:cp a i (i+n))(u:1<=n)(k:K a (i+n - 1)<=K a (i+n)):cp a i (i+n+1):=λx y t B C=>by
 by_cases q:y < i+n
 .exact h x y t B q
 .obtain rfl:y=i+n:= "~?pljn2pOv10iWL5dkv" C q
  by_cases r:x=i+n
  .rw[r];exact gS _
  .exact e_ (h x (i+n - 1) t ("~1M<xDoextQXhbY89JJWblIi8^HZIq" ao B r) ("~3>D1I<usWpGr;zN=Ddd" ao u)) k
end
section
variable{prog:Program}{w:World}{A:Around}{E:Value->Shared->Prop}{s:Shared}{a₀:Array Keyed}{P:PT}{st:SortSt}{lo bO n:Nat}
def tv(h0:gc a₀)(b:Sb a₀ P st)(hi:i < a₀.size)(f:j < a₀.size)(h:Q (some (decide (K (arrOf st) i < K (arrOf st) j))) st):wpS (model prog w) A E s (ltAt' i j) Q st:=by
 obtain⟨p,e1⟩:=cP (a:=arrOf st) (i:=i) (by rw[b.size];exact hi);obtain⟨q,Y⟩:=cP (a:=arrOf st) (i:=j) (by rw[b.size];exact f);rw[d_ e1,d_ Y]at h;rw[ltAt'_eq];refine aJ (kZ ?_);exact aJ (dT e1 (aJ (dT Y (to b.a (b.ints h0 _ (fJ e1)) (b.ints h0 _ (fJ Y)) h))))
abbrev Be(lo a bO:Nat):SM AscSt:=
 forIn [a:bO] ((none,a):AscSt) λJ c=>do
  let x <-ltAt' (lo+c.2) (lo+c.2 - 1)
  match x with
  |some f=>if f=true then pure (ForInStep.done (none,c.2))else pure (ForInStep.yield (none,c.2+1))
  |_=>pure (ForInStep.done (some none,c.2))
abbrev tl(lo n bO:Nat):SM (Option Nat):=do
 reverseSlice' lo (lo+n)
 let c <-Be lo n bO
 match c.1 with
 |some r=>pure r|none=>pure (some c.2)
abbrev Jm(lo n bO:Nat):SM DescSt:=
 forIn [n:bO] ((none,n,0):DescSt) λJ c=>do
  let x <-ltAt' (lo+c.2.1) (lo+c.2.1 - 1)
  match x with
  |some f=>if f=true then(if c.2.2>0 then(do
     reverseSlice' (lo+c.2.1 - (c.2.2+1)) (lo+c.2.1)
     pure (ForInStep.yield (none,c.2.1+1,0)))else pure (ForInStep.yield (none,c.2.1+1,0)))else(do
    let y <-ltAt' (lo+c.2.1 - 1) (lo+c.2.1)
    match y with
    |some a=>if a=true then pure (ForInStep.done (none,c.2.1,c.2.2))else pure (ForInStep.yield (none,c.2.1+1,c.2.2+1))
    |_=>pure (ForInStep.done (some none,c.2.1,c.2.2)))
  |_=>pure (ForInStep.done (some none,c.2.1,c.2.2))
abbrev Bf(lo n bO:Nat):SM (Option Nat):=do
 liftM (rule "list.sort.descending-run" :Sem Unit)
 let c <-Jm lo (n+1) bO
 match c.1 with
 |some r=>pure r
 |none=>if c.2.2>0 then(do
   reverseSlice' (lo+c.2.1 - (c.2.2+1)) (lo+c.2.1)
   tl lo c.2.1 bO)else tl lo c.2.1 bO
def VZ(lo bO:Nat):countRun' lo bO=(do
  let c <-Be lo 1 bO
  match c.1 with
  |some r=>pure r
  |none=>if(c.2==bO)=true then pure (some c.2)else if c.2>1 then(do
    let x <-ltAt' lo (lo+c.2 - 1)
    match x with
    |some a=>if a=true then pure (some c.2)else(do
     reverseSlice' lo (lo+c.2)
     Bf lo c.2 bO)
    |_=>pure none)else Bf lo c.2 bO):=by kernel_rfl
@[inline]abbrev ge(lo:Nat)(st ak:SortSt):Prop:=∀k,k < lo->K (arrOf ak) k=K (arrOf st) k
def ge.refl:ge lo st st:=λJ J=>rfl
def ge.trans(h:ge lo f_ cM)(g:ge lo cM eH):ge lo f_ eH:=λk U=>(g k U).trans (h k U)
def Jn(h0:gc a₀)(b:Sb a₀ P st)(u:lo+bO<=a₀.size)(G:1<=a)(g:a<=bO)(N:cp (arrOf st) lo (lo+a))
  (h:∀n,a<=n->n<=bO->cp (arrOf st) lo (lo+n)->(n=bO\/K (arrOf st) (lo+n) < K (arrOf st) (lo+n - 1))->Q (none,n) st):wpS (model prog w) A E s (Be lo a bO) Q st:=by
 refine gg (I:=λx c ak=>ak=st/\c=(none,x)/\cp (arrOf st) lo (lo+x)) ?step ?fin ⟨rfl,rfl,N⟩
 case fin=>
  rintro c ak ⟨rfl,rfl,p⟩;rw[BI g]at p ⊢;exact h bO g (av _) p (.inl rfl)
 case step=>
  rintro x c ak o f ⟨rfl,rfl,p⟩;refine aJ (tv h0 b (i:=lo+x) (j:=lo+x - 1) ("~KU271uT3T?_m" u f) ("~ad^|jZ3GGzrF=zT?CB9fI" ao u f) ?_);by_cases Y:K (arrOf ak) (lo+x) < K (arrOf ak) (lo+x - 1)
  .rw[b4 Y];exact a8 (h x o (jQ f) p (.inr Y))
  .rw[cc Y];exact a8 ⟨rfl,rfl,p.snoc (aL G o) (jP.mp Y)⟩
abbrev pW(a:Array Keyed)(i j:Nat):Prop:=∀k l,i<=k->k<=l->l < j->K a l<=K a k
abbrev pX(a₀:Array Keyed)(P:PT)(lo bO:Nat)(st:SortSt)(Q:Option Nat->SortSt->Prop):Prop:=∀m ak,Sb a₀ P ak->1<=m->m<=bO->cp (arrOf ak) lo (lo+m)->ge lo st ak->Q (some m) ak
def pX.after(h:pX a₀ P lo bO st Q)(g:ge lo st f_):pX a₀ P lo bO f_ Q:=λm ak a b c d e=>h m ak a b c d (g.trans e)
def wN(hi:lo<=i)(f:j<=(arrOf st).size):ge lo st (setArr st (mirror (arrOf st) i j ((j - i) / 2))):=λk U=>by
 show K (mirror _ _ _ _) k=_;rw[K_mirror f,ab λq=>absurd q.1 (Nat.not_le.mpr (gY U hi))]
def Jo(h0:gc a₀)(b:Sb a₀ P st)(u:lo+bO<=a₀.size)(h1:1<=n)(a:n<=bO)(N:pW (arrOf st) lo (lo+n))(h:pX a₀ P lo bO st Q):wpS (model prog w) A E s (tl lo n bO) Q st:=by
 have hsz:lo+n<=(arrOf st).size:=by rw[b.size];exact "~KU1?W2lW91^q" u a
 refine aJ (wpS_reverse ?_);have g:Sb a₀ P (setArr st (mirror (arrOf st) lo (lo+n) ((lo+n - lo) / 2))):=b.setArr (mirror_perm _ _ _ _);refine aJ (Jn h0 g u h1 a (λk l t B C=>?_) λm U i j J=>a8 (h m _ g (aL h1 U) i j (wN (av _) hsz)));show K (mirror _ _ _ _) k<=K (mirror _ _ _ _) l;rw[K_mirror hsz,K_mirror hsz,ah ⟨t, "~KUoY0IFH5ID4" B C⟩,ah ⟨"~1vTB0xF7Vv" t B,C⟩];exact N _ _ ("~fQ>elY7L5Xl8T>?jmD5YmzfYeRE7f1AK9ZmK" ao ao C) ("~IbsHB_mNd?fVAyyx|ujcnrr8R;IfjUui5|qt92BBXjciE6OytfOPdOut6zR^OnaBKHQAgLVEA1" ao ao ao B) ("~1bek4aecVfZtXch;o<PaG6do^ELsqBQzJ?WJm|76yp" ao ao h1 t)
inductive V0{α:Type}(a₀:Array Keyed)(P:PT)(lo:Nat)(st:SortSt)(x:Nat)(c:Option α×Nat×Nat)(ak:SortSt):Prop
 |mk (q:Nat) (e:c=(none,x,q)) (b:Sb a₀ P ak) (s:pW (arrOf ak) lo (lo+x)) (h:q+1<=x) (k:∀i,lo+x - (q+1)<=i->i < lo+x->K (arrOf ak) i=K (arrOf ak) (lo+x - 1)) (l:ge lo st ak)
def V2(h0:gc a₀)(b:Sb a₀ P st)(u:lo+bO<=a₀.size)(h1:1<=n)(a:n<=bO)(N:pW (arrOf st) lo (lo+n))
  (h:∀m q ak,Sb a₀ P ak->n<=m->m<=bO->pW (arrOf ak) lo (lo+m)->q+1<=m->(∀i,lo+m - (q+1)<=i->i < lo+m->K (arrOf ak) i=K (arrOf ak) (lo+m - 1))->ge lo st ak->Q (none,m,q) ak):
  wpS (model prog w) A E s (Jm lo n bO) Q st:=by
 refine gg (I:=λx c ak=>V0 a₀ P lo st x c ak)
  ?step ?fin ⟨0,rfl,b,N,h1,λi t B=>by rw[show i=lo+n - 1 from "~<kamOTxkj8LDRP==LhkUgu67gPU3Fzqx_MGrWVBiHzjXBO_STZoYg6emBV05_OPZ3rn" ao ao t B],.refl⟩
 case fin=>
  rintro c ak ⟨q,rfl,G,p,L,J,Y⟩;rw[BI a]at*;exact h bO q ak G a (av _) p L J Y
 case step=>
  rintro x c ak o f ⟨q,rfl,G,p,L,J,Y⟩;have hsz:lo+x<=(arrOf ak).size:=by rw[G.size];exact "~KU271uT3T7ve" u f
  have grow:∀xs:Array Keyed,(∀k,K xs k=K (arrOf ak) k)->K (arrOf ak) (lo+x)<=K (arrOf ak) (lo+x - 1)->pW xs lo (lo+(x+1)):=λxs T y k l t B C=>by
   rw[T,T];by_cases r:l < lo+x
   .exact p k l t B r
   .obtain rfl:l=lo+x:= "~?pljn2pOu|iUh1d4gb" C r
    by_cases g:k=lo+x
    .rw[g];exact gS _
    .exact e_ y (p k (lo+x - 1) t ("~1M<xDoextQXhbY89JJWblIi8^HZIq" ao B g) ("~9kU^hn9dBRbLXj|Thk4GBg" ao h1 o))
  refine aJ (tv h0 G (i:=lo+x) (j:=lo+x - 1) ("~KU271uT3T?_m" u f) ("~ad^|jZ3GGzrF=zT?CB9fI" ao u f) ?_);by_cases U:K (arrOf ak) (lo+x) < K (arrOf ak) (lo+x - 1)
  .rw[b4 U]
   show wpS _ _ _ _ (if q>0 then _ else _) _ _;have one:∀xs:Array Keyed,∀i,lo+(x+1) - (0+1)<=i->i < lo+(x+1)->K xs i=K xs (lo+(x+1) - 1):=λxs i t B=>by rw[show i=lo+(x+1) - 1 from "~6sTPsHNq3usYLk^lS2=hcDrLzyK2Ru9xJRvrNL?XE9_CMEYmlR_tN7Y6vYmeRMal81ZA9BLH_" ao ao t B]
   split
   .refine aJ (wpS_reverse (a8 ⟨0,rfl,G.setArr (mirror_perm _ _ _ _),grow _ (xq hsz J) (kO U), "~VEUD;9Zx6_" id,one _,Y.trans (wN ("~=PgF1hIJhU9glrw^Igny" ao L) hsz)⟩))
   .exact a8 ⟨0,rfl,G,grow _ (λ_=>rfl) (kO U), "~VEUD;9Zx6_" id,one _,Y⟩
  .rw[cc U]
   refine aJ (tv h0 G (i:=lo+x - 1) (j:=lo+x) ("~ad^|jZ3GGzrF=zT?CB9fI" ao u f) ("~KU271uT3T?_m" u f) ?_);by_cases H:K (arrOf ak) (lo+x - 1) < K (arrOf ak) (lo+x)
   .rw[b4 H];exact a8 (h x q ak G o (jQ f) p L J Y)
   .rw[cc H]
    have v:K (arrOf ak) (lo+x)=K (arrOf ak) (lo+x - 1):=KD (jP.mp H) (jP.mp U);refine a8 ⟨q+1,rfl,G,grow _ (λ_=>rfl) (Int.le_of_eq v), "~4xhbUw3bjW4X8MB" L,λi t B=>?_,Y⟩;rw[show lo+(x+1) - 1=lo+x from "~9kUyV_Pqq8s36blkf_ykES" ao];by_cases r:i=lo+x
    .rw[r]
    .rw[v];exact J i ("~K|fv1Z;ujRdDsqcJC;9zix>yllTJWUqIMaHsmERUUJ" ao ao t) ("~x5zTDaULOcA_6ZScI" B r)
def Jp(h0:gc a₀)(b:Sb a₀ P st)(u:lo+bO<=a₀.size)(a:n+1<=bO)(N:pW (arrOf st) lo (lo+(n+1)))(h:pX a₀ P lo bO st Q):wpS (model prog w) A E s (Bf lo n bO) Q st:=by
 refine aJ (wpS_lift (gU ⟨rfl,?_⟩));refine aJ (V2 h0 b u (xm _ _) a N λm q ak G U i p L J Y=>?_);have hsz:lo+m<=(arrOf ak).size:=by rw[G.size];exact "~KU1?W2lW91^q" u i
 have h':=h.after Y;show wpS _ _ _ _ (if q>0 then _ else _) _ _
 split
 .refine aJ (wpS_reverse (Jo h0 (G.setArr (mirror_perm _ _ _ _)) u ("~1xEl7pL8qX" L) i (λk l t B C=>?_) (h'.after (wN ("~=PgF1hIJhU9glrw^Igny" ao L) hsz))))
  show K (mirror _ _ _ _) l<=K (mirror _ _ _ _) k;rw[xq hsz J,xq hsz J];exact p k l t B C
 .exact Jo h0 G u ("~1xEl7pL8qX" L) i p h'
def V3(h0:gc a₀)(b:Sb a₀ P st)(u:lo+bO<=a₀.size)(h1:1<=bO)(h:pX a₀ P lo bO st Q):wpS (model prog w) A E s (countRun' lo bO) Q st:=by
 rw[VZ];refine aJ (Jn h0 b u (av 1) h1 cp.one λn c i f j=>?_);show wpS _ _ _ _ (if(n==bO)=true then _ else _) _ _;by_cases a:n=bO
 .exact cu (aH.mpr a) (a8 (h n st b c i f .refl))
 .refine cA (λq=>a (aH.mp q)) ?_
  have U:=j.resolve_left a;by_cases H:n>1
  .refine cu H (aJ (tv h0 b ("~1_Xmzfc|qVDI" u h1) ("~DYI1vuZ9AnzuQBo^k=PfkysqRpyfMH>" ao u i a) ?_))
   by_cases C:K (arrOf st) lo < K (arrOf st) (lo+n - 1)
   .rw[b4 C];exact a8 (h n st b c i f .refl)
   .rw[cc C]
    have hsz:lo+n<=(arrOf st).size:=by rw[b.size];exact "~KU1?W2lW91^q" u i
    have all:∀k,lo<=k->k < lo+n->K (arrOf st) k=K (arrOf st) (lo+n - 1):=λk t B=>
     KD (f k (lo+n - 1) t ("~?t_ll=5ecP9GEczP>H" ao B) ("~3>D1I<usWpGr;zN=Ddd" ao c)) (e_ (jP.mp C) (f lo k (av _) t B))
    refine aJ (wpS_reverse (Jp h0 (b.setArr (mirror_perm _ _ _ _)) u ("~1I;4n0uRFk0cVq" i a) (λk l t B Y=>?_) (h.after (wN (av _) hsz))));show K (mirror _ _ _ _) l<=K (mirror _ _ _ _) k;rw[xq hsz all,xq hsz all];by_cases r:l < lo+n
    .rw[all k t ("~KUoY0IFH5ID4" B r),all l ("~1vTB0xF7Vv" t B) r];exact gS _
    .obtain rfl:l=lo+n:= "~?pljn2pOu|iUh1d4gb" Y r
     by_cases g:k=lo+n
     .rw[g];exact gS _
     .rw[all k t ("~17sCUHD?e;Btb_ab" B g)];exact kO U
  .refine cA H ?_
   obtain rfl:n=1:= "~F3FYr^7h6jV^YE" c H;refine Jp h0 b u (by lia) (λk l t B Y=>?_) h;by_cases r:k=l
   .rw[r];exact gS _
   .obtain rfl:k=lo:=by lia
    obtain rfl:l=k+1:=by lia
    exact kO U
end
end Mine.Lake.R
end
set_option tactic.hygienic false
section
open PySem PyProof.Rows
namespace Mine.Lake.R
section
variable{prog:Program}{w:World}{A:Around}{E:Value->Shared->Prop}{s:Shared}{a₀:Array Keyed}{P:PT}{st:SortSt}{lo bO n:Nat}
abbrev V4(lo k:Nat):SM (Option Bool×Nat×Nat):=
 forIn [0:k] ((none,0,k):Option Bool×Nat×Nat) λJ c=>
  if c.2.1>=c.2.2 then pure (ForInStep.done (none,c.2.1,c.2.2))else do
   let x <-ltAt' (lo+k) (lo+(c.2.1+c.2.2) / 2)
   match x with
   |some less=>if less=true then pure (ForInStep.yield (none,c.2.1,(c.2.1+c.2.2) / 2))else pure (ForInStep.yield (none,(c.2.1+c.2.2) / 2+1,c.2.2))
   |_=>pure (ForInStep.done (some false,c.2.1,c.2.2))
def V5(lo n ok:Nat):binarySort' lo n ok=(do
  let c <-forIn [max ok 1:n] ((none,()):Option Bool×Unit) λk c=>(do
   let r <-V4 lo k
   match r.1 with
   |some q=>pure (ForInStep.done (some q,()))
   |none=>do
    moveDown' (lo+k) (lo+r.2.1)
    pure (ForInStep.yield (none,())))
  match c.1 with
  |some r=>pure r|none=>pure true):=by kernel_rfl
def V6{f:Nat->Int}(Y:lo<=m)(hm:m<=k)(U:∀x,lo<=x->x < m->f x<=f k)(H:∀x,m<=x->x < k->f k<=f x)(N:∀i j,lo<=i->i<=j->j < k->f i<=f j)(c1:lo<=i)(v:i<=j)(L:j<=k):
  (if i=m then f k else if m < i/\i<=k then f (i - 1)else f i)<=if j=m then f k else if m < j/\j<=k then f (j - 1)else f j:=by
 rcases Nat.lt_trichotomy i m with h |h |h
 .rw[ab (n9 h),ab λq=>Nat.lt_asymm h q.1]
  rcases Nat.lt_trichotomy j m with g |g |g
  .rw[ab (n9 g),ab λq=>Nat.lt_asymm g q.1];exact N i j c1 v (gY g hm)
  .rw[ah g];exact U i c1 h
  .rw[ab (xj g),ah ⟨g,L⟩];exact N i (j - 1) c1 ("~3N5XJgvig6m83Mu5vnX" ao h g) ("~9kUyWNcugIdwrtsV>unoj<" ao hm L h)
 .rw[ah h]
  have g:m<=j:=h▸v;rcases Kr g with g |g
  .rw[ah g.symm];exact gS _
  .rw[ab (xj g),ah ⟨g,L⟩];exact H (j - 1) ("~17tS2KWsPdsZ;2qf" ao g) ("~3>D1MR_CMdLeOLdRGk8" ao L g)
 .have g:m < j:=gY h v
  rw[ab (xj h),ah ⟨h,aL v L⟩,ab (xj g),ah ⟨g,L⟩];exact N (i - 1) (j - 1) (aL Y (Nat.le_sub_one_of_lt h)) (Nat.sub_le_sub_right v 1) ("~9kU^ia_Sc5NL?=89WdSZp7" ao v L h)
inductive V8(n:Nat)(a b:Nat->Prop)(c:Option Bool×Nat×Nat):Prop
 |mk (l:Nat) (e:c=(none,l,l)) (h:l<=n) (h1:a l) (h2:b l)
def V9{Q:Bool->SortSt->Prop}(h0:gc a₀)(b:Sb a₀ P st)(u:lo+n<=a₀.size)(T:ok<=n)(h1:1<=ok)(N:cp (arrOf st) lo (lo+ok))
  (h:∀ak,Sb a₀ P ak->cp (arrOf ak) lo (lo+n)->ge lo st ak->Q true ak):wpS (model prog w) A E s (binarySort' lo n ok) Q st:=by
 rw[V5,Nat.max_eq_left h1];refine aJ (eS (gg (I:=λk c ak=>c=(none,())/\Sb a₀ P ak/\cp (arrOf ak) lo (lo+k)/\ge lo st ak)
  (Q:=λc ak=>c=(none,())/\Sb a₀ P ak/\cp (arrOf ak) lo (lo+n)/\ge lo st ak) ?step ?fin ⟨rfl,b,N,.refl⟩) ?post)
 case post=>
  rintro c ak ⟨rfl,G,p,Y⟩;exact a8 (h ak G p Y)
 case fin=>
  rintro c ak ⟨o,G,p,Y⟩;rw[BI T]at p;exact⟨o,G,p,Y⟩
 case step=>
  rintro k c ak Yo J ⟨rfl,G,p,Y⟩;refine aJ (eS (gg (I:=λx c f=>f=ak/\IZ k (k - x) (λl=>∀i,i < l->K (arrOf ak) (lo+i)<=K (arrOf ak) (lo+k)) (λr=>∀i,r<=i->i < k->K (arrOf ak) (lo+k)<=K (arrOf ak) (lo+i)) c)
   (Q:=λc f=>f=ak/\V8 k (λl=>∀i,i < l->K (arrOf ak) (lo+i)<=K (arrOf ak) (lo+k)) (λr=>∀i,r<=i->i < k->K (arrOf ak) (lo+k)<=K (arrOf ak) (lo+i)) c) ?istep ?ifin ⟨rfl,0,k,rfl,bb _,av _,av _,λi hi=>absurd hi (B' _),λi t B=>absurd t (Nat.not_le.mpr B)⟩) ?ipost)
  case ifin=>
   rintro c f ⟨rfl,l,r,rfl,t,B,C,a4,m⟩;obtain rfl:l=r:= "~rj5k7rL^uurXT1_DGhZi_WcpNw4Mr7^?3O457N8ah16>qrPXOHFKgzybt>kZcXRd2E|41=V8xPk|VwrVwmDA1L3XUYvvHw1p=EetdhLdTT8MxnLZtLCh?5V4ZRxQeHsDg6O7fiVsE6f9k" ao qK ao C t;exact⟨rfl,l,rfl,B,a4,m⟩
  case istep=>
   rintro x c f _ H ⟨rfl,l,r,rfl,t,B,C,a4,m⟩;by_cases a:l>=r
   .obtain rfl:l=r:=BP t a
    refine cu a ?_;exact a8 ⟨rfl,l,rfl,B,a4,m⟩
   .refine cA a ?_
    refine aJ (tv h0 G (i:=lo+k) (j:=lo+(l+r) / 2) ("~KU271uT3T?_m" u J) ("~4_knNRGTjWfSHtE>WBKffPv" gZ u B J a) ?_);by_cases U:K (arrOf f) (lo+k) < K (arrOf f) (lo+(l+r) / 2)
    .rw[b4 U]
     exact a8 ⟨rfl,l,(l+r) / 2,rfl, "~fscKL0U6g9>h" gZ a, "~9Nz|5Pna57Inuzy" gZ B a, "~odgonu9K9|o_6veCE;ryGELnyAJVc07O6jBFx22U9KerG^yC05oPYMkZeE=<Sg3?FZ><07aOCg8cNfE0EonnO|oiyCchi^x2OBWfIJ^VEPP1pwy<P3^U?Sghh7lbW3DmhT?4W?C36^V3IrRRd>^B1BKLWgXNrg7aheAB6qiEMnSvJ|_v;^LI02gHrBA7" ao ao gZ ao ao C,a4,λi b1 g=>e_ (kO U) (p _ _ (eo _ _) (Ci b1 _) (Ku g _))⟩
    .rw[cc U]
     exact a8 ⟨rfl,(l+r) / 2+1,r,rfl, "~_=jl>6dcSojplK" gZ a,B, "~fJ^y<VAhd?;E;sG46krCkbDt03s681uYDvPzIYjUo<2TUQg2FAPh|wst1qWZ2cM6Tf=J4ydfq;H6=U8zr^m8VGMgQ6RKE=zqGnDAcAJbykzh9DQCM?Ho>9Mz|8AxHMX<iy?Vv9rD^aUI|rBiUY=NNBJZtrsXoQTADi7dcqiXAztpn86q_lRmlIXLQBS13M" ao ao gZ ao ao C,λi b1=>e_ (p (lo+i) (lo+(l+r) / 2) (eo _ _) ("~BgSNU|399xzPo5T5" gZ b1) ("~1nvWUqG0UEvQP92Hr<" gZ B a)) (jP.mp U),m⟩
  case ipost=>
   rintro c f ⟨rfl,l,rfl,t,B,C⟩;show wpS _ _ _ _ (do moveDown' (lo+k) (lo+l);pure (ForInStep.yield (none,()))) _ _;rw[moveDown'_eq];have z:lo+k < (arrOf f).size:=by rw[G.size];exact "~KU271uT3T?_m" u J
   have q:∀x,K (bubble (arrOf f) (lo+k) (lo+k - (lo+l))) x=if x=lo+l then K (arrOf f) (lo+k)else if lo+l < x/\x<=lo+k then K (arrOf f) (x - 1)else K (arrOf f) x:=λx=>by
    rw[K_bubble z ("~1325g<tuJl>8PrG;" ao),show lo+k - (lo+k - (lo+l))=lo+l from "~6>ZW>g;e_Rt8;S;aGK3AFjidFkmN9FtKeJYhOGMGk=Pl2CM34y7quM=>SM" ao ao t]
   refine aJ (wpS_modify (a8 ⟨rfl,G.setArr (bubble_perm _ _ _),λi j c1 v L=>?_,Y.trans λx H=>?_⟩))
   .show K (bubble _ _ _) i<=K (bubble _ _ _) j
    rw[q,q];exact V6 (eo lo l) (Ci t lo) (λx d1 d2=>by obtain⟨y,rfl⟩:=Nat.exists_eq_add_of_le d1;exact B y (XN d2))
     (λx d1 d2=>by obtain⟨y,rfl⟩:=Nat.exists_eq_add_of_le (aL (eo lo l) d1);exact C y (Nat.le_of_add_le_add_left d1) (XN d2)) p c1 v ("~1_R>gqJqxz9_" L)
   .show K (bubble _ _ _) x=_
    rw[q,ab ("~1nd<toFynh" H),ab ("~1CnhbmHAbwrnBw" H)]
end
abbrev jb(a:Array Keyed)(i:Nat)(l:List Keyed)(n:Nat):Array Keyed:=(l.zipIdx n).foldl (λa x=>match x with |(p,j)=>a.setIfInBounds (i+j) p) a
theorem Bg:∀(l:List Keyed) (a:Array Keyed) (i n:Nat),i+n+l.length<=a.size->(jb a i l n).toList=a.toList.take (i+n)++(l++a.toList.drop (i+n+l.length))
 |[],a,i,n,_=>(qw _ _).symm|p::l,a,i,n,h=>by
  simp only[bI]at h;have e:jb a i (p::l) n=jb (a.setIfInBounds (i+n) p) i l (n+1):=rfl;have Y:i+n < a.toList.length:=by rw[dF];exact "~5yXlf<UXIY>Ls" h
  rw[e,Bg l _ i (n+1) (by rw[Array.size_setIfInBounds];exact "~D>PSDumUEZcVI2Vs" h),J8,bI];have e1:(a.toList.set (i+n) p).take (i+(n+1))=a.toList.take (i+n)++[p]:=by
   rw[show i+(n+1)=i+n+1 from "~5uQGfuMYHlqB2" id,List.take_add_one,qg Y,List.take_set_of_le (av _)];rfl
  have w:(a.toList.set (i+n) p).drop (i+(n+1)+l.length)=a.toList.drop (i+n+(l.length+1)):=by
   rw[List.drop_set_of_lt ("~1uoBawryRdM>" id),show i+(n+1)+l.length=i+n+(l.length+1)from "~18oJyCqdFWgQCJ<K" id]
  rw[e1,w,c6];rfl
abbrev mF(i:Nat)(r:Array Keyed):SM Bool:=do
 modify λs=>setArr s (jb (arrOf s) i r.toList 0)
 let g <-get
 pure (failedOf g).isNone
abbrev mA(s:SortSt)(i sa na pw sb nb:Nat):SM Bool:=do
 set (SortSt.mk' (kindOf s) (arrOf s) (((pendingOf s).setIfInBounds i (sa,na+nb,pw)).eraseIdxIfInBounds (i+1)) (gallopOf s) (failedOf s))
 let y <-elem' (arrOf s) sb
 let z <-mf false y (arrOf s) sa na 0
 match z with
 |some k=>if(na - k==0)=true then pure true else(do
   let x <-elem' (arrOf s) (sa+k+(na - k) - 1)
   let z <-mf true x (arrOf s) sb nb (nb - 1)
   match z with
   |some m=>if(m==0)=true then pure true else if na - k<=m then(do
      let r <-A4 ((arrOf s).extract (sa+k) sb) ((arrOf s).extract sb (sb+m))
      mF (sa+k) r)else(do
      let r <-A_ ((arrOf s).extract (sa+k) sb) ((arrOf s).extract sb (sb+m))
      mF (sa+k) r)
   |_=>pure false)
 |_=>pure false
def V'(i:Nat):mergeAt' i=(do
  let s <-get
  match((pendingOf s)[i]?,(pendingOf s)[i+1]?)with
  |(some (sa,na,pw),some (sb,nb,_))=>mA s i sa na pw sb nb|_=>liftM (unsupported "internal:list.sort.pending" :Sem Bool)):=by kernel_rfl
section
variable{a r:Array Keyed}{i j k n sa sb e:Nat}{z:Keyed}
def Jq(h:z∈(a.extract i j).toList):∃p,p < j - i/\a[i+p]?=some z:=by
 rw[qx,qy]at h;obtain⟨p,h1,h2⟩:=wE h;exact⟨p,h1,by rw[<-eI];exact h2⟩
def cp.join(h1:cp a sa sb)(h2:cp a sb e)(h3:sa < sb)(h:K a (sb - 1)<=K a sb):cp a sa e:=λk l t B C=>by
 by_cases q:l < sb
 .exact h1 k l t B q
 .by_cases r:sb<=k
  .exact h2 k l r B C
  .exact e_ (h1 k (sb - 1) t ("~Co3XWqdlAYY^mC6r" ao r) ("~13260b<acsi?|Y=v" ao h3)) (e_ h (h2 sb l (av _) ("~2GzKalDy" q) C))
def cp.pw(h:cp a i j)(f:j<=a.size):((a.extract i j).toList).Pairwise up:=by
 rw[Kt];intro p q J L U;have key:∀p z,(a.extract i j).toList[p]?=some z->kv z=K a (i+p)/\i+p < j:=λp z e=>by
  rw[qx,qy,xl]at e;by_cases q:p < j - i
  .rw[ah q,tI,eI]at e
   exact⟨(d_ e).symm, "~GFFarSXCIltmCP" ao q⟩
  .rw[ab q]at e;cases e
 obtain⟨k1,_⟩:=key p _ (iD J);obtain⟨k2,g⟩:=key q _ (iD L);show kv _<=kv _;rw[k1,k2];exact h _ _ (eo _ _) (Ci (jQ U) _) g
def V_(hi:i+r.size<=a.size):K (jb a i r.toList 0) j=if j < i then K a j else if j < i+r.size then K r (j - i)else K a j:=by
 have e:=Bg r.toList a i 0 (by rw[dF];exact hi);have Y:(a.toList.take (i+0)).length=i:=by rw[Kz,dF];exact "~1|XdzpZJQqXyr|;fiX3TFlo2R" fa hi
 have g:(jb a i r.toList 0)[j]?=if j < i then a[j]? else if j < i+r.size then r[j - i]? else a[j]?:=by
  rw[<-eI,e,List.getElem?_append,Y];by_cases h1:j < i
  .rw[ah h1,ah h1,xl,ah ("~8RH=NPo7Z" h1),eI]
  .rw[ab h1,ab h1,List.getElem?_append,dF]
   by_cases h2:j < i+r.size
   .rw[ah h2,ah ("~<eSv6Q=rw0q>rxFyK|?Z" ao h2 h1),eI]
   .rw[ab h2,ab ("~x6||yLaFEUucbU8SX" ao h2),tI,eI]
    congr 1;exact "~HdeB45LJD30VbgSrB8rZdYUMQPofJG0lBkFN0Xp8<|BYQZkJ2CYk7^0=V4O" ao ao h2
 by_cases h1:j < i
 .rw[ah h1]at g ⊢;exact K_congr g
 .rw[ab h1]at g ⊢
  by_cases h2:j < i+r.size
  .rw[ah h2]at g ⊢;exact K_congr g
  .rw[ab h2]at g ⊢;exact K_congr g
def Jr(h:j<=a.size):(a.extract i j).size=j - i:=by rw[Array.size_extract,BG h]
def Wa(h1:i<=sb)(h:sb+m<=a.size):a.toList=a.toList.take i++((a.extract i sb).toList++(a.extract sb (sb+m)).toList++a.toList.drop (sb+m)):=by
 rw[A8,qx,qy,c6,<-Ce,qw];have:a.toList.drop sb=(a.toList.drop i).drop (sb - i):=by rw[Ce,k8 h1]
 rw[this,qw,qw]
end
section
variable{prog:Program}{w:World}{A:Around}{E:Value->Shared->Prop}{s:Shared}{a₀:Array Keyed}{P:PT}{st:SortSt}{sa na pw sb nb i:Nat}
def Wc(h0:gc a₀)(b:Sb a₀ P st)(e:sa+na=sb)(T:sb+nb<=a₀.size)(pa:0 < na)(G:0 < nb)(s1:cp (arrOf st) sa sb)(s2:cp (arrOf st) sb (sb+nb))
  (h:∀ak,Sb a₀ ((P.setIfInBounds i (sa,na+nb,pw)).eraseIdxIfInBounds (i+1)) ak->cp (arrOf ak) sa (sb+nb)->(∀j,j < sa\/sb+nb<=j->K (arrOf ak) j=K (arrOf st) j)->Q true ak):
  wpS (model prog w) A E s (mA st i sa na pw sb nb) Q st:=by
 obtain⟨J,U,hf,u⟩:=b;subst u;have hsz:=J.size_eq;have hints:∀p∈(arrOf st).toList,iz p:=λp po=>h0 p ((KC.mp J).mem_iff.mp po);generalize Bh:SortSt.mk' (kindOf st) (arrOf st) (((pendingOf st).setIfInBounds i (sa,na+nb,pw)).eraseIdxIfInBounds (i+1)) (gallopOf st) (failedOf st)=f_;have b1:Sb a₀ (((pendingOf st).setIfInBounds i (sa,na+nb,pw)).eraseIdxIfInBounds (i+1)) f_:=by rw[<-Bh];exact⟨J,U,hf,rfl⟩
 have I:arrOf f_=arrOf st:=by rw[<-Bh]
 have start:∀{f:PUnit->SM Bool},wpS (model prog w) A E s (f ⟨⟩) Q f_->wpS (model prog w) A E s (set (SortSt.mk' (kindOf st) (arrOf st) (((pendingOf st).setIfInBounds i (sa,na+nb,pw)).eraseIdxIfInBounds (i+1)) (gallopOf st) (failedOf st))>>=f) Q st:=λ{f} q=>by
  rw[Bh];exact aJ (show wpAny _ _ ((set f_:SM PUnit).run st) _ _ _ by rw[StateT.run_set];exact aG ⟨rfl,q⟩)
 refine start ?_;have seg:∀{x n:Nat},x+n<=(arrOf st).size->cp (arrOf st) x (x+n)->pS (arrOf st) x n:=λ{x n} H N=>⟨λj hj=>by
  obtain⟨p,e⟩:=cP (a:=arrOf st) (i:=x+j) ("~KU271uT3T?_m" H hj);exact⟨p,e,hints p (fJ e),(d_ e).symm⟩,λj k t a2=>N _ _ (eo _ _) (Ci t _) (Ku a2 _)⟩
 obtain⟨y,ey⟩:=cP (a:=arrOf st) (i:=sb) ("~4rR|Fli8b7CKXcN" hsz T G);have g:=d_ ey;refine aJ (dT ey (aJ (pT b1.a (hints y (fJ ey)) (seg ("~tEvoupconfCcGd5NT" e hsz T) (by rw[e];exact s1)) pa λk o=>?_)));obtain⟨c1,c2,L⟩:=o;have Js:∀j,sa<=j->j < sa+k->K (arrOf st) j<=kv y:=λj C d2=>by
  obtain⟨p,ep⟩:=cP (a:=arrOf st) (i:=sa+(j - sa)) ("~1y0uumbIipPKzipf_pM^_6lJG?xtGVNZZ5bsQvRW" ao e T G hsz c1 d2);have:=(mh ep).1 (c2 (j - sa) ("~j28HEQJuqH=mVy<NKX=" ao C d2));rw[<-d_ ep,k8 C]at this;exact this
 have Wd:∀j,sa+k<=j->j < sb->kv y<=K (arrOf st) j:=λj C d2=>by
  obtain⟨p,ep⟩:=cP (a:=arrOf st) (i:=sa+(j - sa)) ("~=<_ClZUTvoT|ViM9vVuKMw3XM>9nEu;3>aB" ao e hsz T G d2);have:=(mh ep).2 (L (j - sa) ("~Co3XWqffq3nqYov2" ao C) ("~1sNDzLuCNYmaEL0x6>;<85k3<" ao e pa d2));rw[<-d_ ep,k8 ("~W<<tbm^G" C)]at this;exact this
 show wpS _ _ _ _ (if(na - k==0)=true then _ else _) _ _;by_cases hz:na - k=0
 .refine cu (aH.mpr hz) ?_
  refine a8 (h f_ b1 ?_ λj _=>by rw[I]);rw[I];exact s1.join s2 ("~I|rEd79IcBBj" e pa) (by rw[g];exact Js _ ("~;J|p^wE;0wTPLMP4gxIV5P" ao e pa) ("~35d^YFyvr>rYu<I;Z|6mKDCudH3ESmPCVtekM0wTG8Twa_OKrZ2" ao ao e hz pa))
 .refine cA (λq=>hz (aH.mp q)) ?_
  obtain⟨x,ex⟩:=cP (a:=arrOf st) (i:=sb - 1) ("~OoTYN>isroHTx8<xJ?ka0QtFC" ao hsz T G);have kx:=d_ ex;refine aJ (dT (by rw[show sa+k+(na - k) - 1=sb - 1 by lia];exact ex) (aJ (pT b1.a (hints x (fJ ex)) (seg ("~5o926To;=SX1?" hsz T) s2) ("~BgSL9sbRoN^=G<SJ" ao G) λm hm=>?_)));obtain⟨m1,m2,c⟩:=hm;have We:∀j,sb<=j->j < sb+m->K (arrOf st) j<=kv x:=λj C d2=>by
   obtain⟨p,ep⟩:=cP (a:=arrOf st) (i:=sb+(j - sb)) ("~3Hs=|67xJT7hZXcJ4^AZ8l?>6SRgn4rLi<" ao hsz T m1 G d2);have:=(mh ep).1 (m2 (j - sb) ("~j28HEQJuqH=mVy<NKX=" ao C d2));rw[<-d_ ep,k8 C]at this;exact this
  have Jt:∀j,sb+m<=j->j < sb+nb->kv x<=K (arrOf st) j:=λj C d2=>by
   obtain⟨p,ep⟩:=cP (a:=arrOf st) (i:=sb+(j - sb)) ("~16<z62rSi5cHgIC^Md?oNw1F|H_BxMg" ao hsz T G d2);have:=(mh ep).2 (c (j - sb) ("~Co3XWqffq3nqYov2" ao C) ("~<eSrEPNJ=LD^WxJsxGas" ao G d2));rw[<-d_ ep,k8 ("~W<<tbm^G" C)]at this;exact this
  show wpS _ _ _ _ (if(m==0)=true then _ else _) _ _;by_cases nR:m=0
  .refine cu (aH.mpr nR) ?_
   refine a8 (h f_ b1 ?_ λj _=>by rw[I]);rw[I];exact s1.join s2 ("~I|rEd79IcBBj" e pa) (by rw[kx];exact Jt _ ("~1nT3f2BlQF" nR) ("~8O_S;9UpZ" G))
  .rw[ab λq=>nR (aH.mp q)]
   have mX:∀z∈((arrOf st).extract (sa+k) sb).toList,z∈(arrOf st).toList/\kv y<=kv z/\kv z<=kv x:=λz hz=>by
    obtain⟨p,p1,p2⟩:=Jq hz;refine⟨fJ p2,?_,?_⟩
    .rw[<-d_ p2];exact Wd _ (eo _ _) ("~44kBD10KF3U0qzqoW" ao p1)
    .rw[<-d_ p2,<-kx];exact s1 _ _ ("~bQ3FY;S>" id) ("~l?rFXPls6TEWy^s9gc;MW8^X;W^AqOmoCR" ao ao p1) ("~9kUDhOL8HHuCLpA9<DfAk8" ao e pa)
   have mY:∀z∈((arrOf st).extract sb (sb+m)).toList,z∈(arrOf st).toList/\kv y<=kv z/\kv z<=kv x:=λz hz=>by
    obtain⟨p,p1,p2⟩:=Jq hz;refine⟨fJ p2,?_,?_⟩
    .rw[<-d_ p2,<-g];exact s2 _ _ (av _) (eo _ _) ("~<heAnC;R7B9e6lLMt31b" ao m1 p1)
    .rw[<-d_ p2];exact We _ (eo _ _) ("~44kBCf7m1hposYG9i" ao p1)
   have Bi:=Jr (a:=arrOf st) (i:=sa+k) (j:=sb) ("~1_3YN1s>i=lH" hsz T);have Ju:=Jr (a:=arrOf st) (i:=sb) (j:=sb+m) ("~17_WmZRK2PXEbWp3" hsz T m1);have cx:Cx ((arrOf st).extract (sa+k) sb) ((arrOf st).extract sb (sb+m)):=by
    refine⟨λp J=>hints p (mX p J).1,λp J=>hints p (mY p J).1,(s1.sub (eo _ _) (av _)).pw ("~1_3YN1s>i=lH" hsz T),(s2.sub (av _) ("~1xL3<KmOfG" m1)).pw ("~17_WmZRK2PXEbWp3" hsz T m1), "~BUdfrTs4wn5^YSeLS_rXs3pn4WWxH0wlGHSwR?rW0I5Adx<v>pMdOYLTk7k;UAlMDF|JUgspgjb3xO" ao ao e Bi hz, "~4C4HOoWu7|rFXJnHTi1xtPEV57Hfu5ha" ao Ju nR,λz hz v B=>?_,λz hz v B=>?_⟩
    .rw[Array.getElem?_extract,ah (by lia),Nat.add_zero,ey]at hz
     cases hz;exact(mX v B).2.1
    .rw[Bi,Array.getElem?_extract,ah (by lia),show sa+k+(sb - (sa+k) - 1)=sb - 1 by lia,ex]at hz
     cases hz;exact(mY v B).2.2
   have fin:∀r cM,Sm f_ cM->bG ((arrOf st).extract (sa+k) sb) ((arrOf st).extract sb (sb+m)) r->wpS (model prog w) A E s (mF (sa+k) r) Q cM:=λr cM sm res=>by
    have b2:Sb a₀ (((pendingOf st).setIfInBounds i (sa,na+nb,pw)).eraseIdxIfInBounds (i+1)) cM:=⟨by rw[sm.b];exact b1.b,sm.a.trans b1.a,sm.d.trans b1.c,sm.c.trans b1.d⟩;have Jv:arrOf cM=arrOf st:=sm.b.trans I;have hr:r.size=(sb - (sa+k))+m:=by
     have:=res.1.length_eq;rw[b_,dF,dF,dF,Bi,Ju]at this;exact "~Ap^e^_6bJxX^W6I1JIVH;OYaLhWvnB^5g0od_vcmVqYVK_G2EjDIn1Px>KS;Xc7" ao ao this
    have nj:sa+k+r.size=sb+m:= "~_jZ;|SgX_fkcWvihyS=2o|8H8730<UBVG2<Locfj2HrWOsqFs5gHosuf5yguEa8ia7uoOW3NlomAOGz|wT5B>u;Fn^izPLEH<DX>XP_ce8TzKKs96F6CKIWx8;zdycQ5n|YCE?3eHyNkAojjq" ao ao e hr hz;have mr:∀j,j < r.size->kv y<=K r j/\K r j<=kv x:=λj hj=>by
     obtain⟨p,ep⟩:=cP (a:=r) (i:=j) hj;rw[d_ ep];exact(aZ.mp (res.1.mem_iff.mp (fJ ep))).elim (λq=>(mX p q).2) λq=>(mY p q).2
    have sr:∀i j,i<=j->j < r.size->K r i<=K r j:=λi j h1 h2=>by
     obtain⟨p,ep⟩:=cP (a:=r) (i:=i) ("~1vTFg2BqE9" h1 h2);obtain⟨q,eq⟩:=cP (a:=r) (i:=j) h2;rw[d_ ep,d_ eq];rcases Kr h1 with rfl |rl
     .rw[ep]at eq;cases eq;exact gS _
     .obtain⟨k1,rfl⟩:=bW.mp (ja ep)
      obtain⟨k2,rfl⟩:=bW.mp (ja eq);exact Kt.mp res.2 _ _ k1 k2 rl
    have kb:∀j,K (jb (arrOf st) (sa+k) r.toList 0) j=if j < sa+k then K (arrOf st) j else if j < sb+m then K r (j - (sa+k))else K (arrOf st) j:=λj=>by
     rw[V_ ("~8=k>99v_uELT;C_y1xS6vxSm" nj hsz T m1),nj]
    refine aJ (wpS_modify (aJ (kZ ?_)));show wpS _ _ _ _ (pure (failedOf cM).isNone) _ (setArr cM (jb (arrOf cM) (sa+k) r.toList 0));rw[b2.c,Jv];refine a8 (h _ (b2.setArr ?_) (λi j C d2 d3=>?_) λj hj=>?_)
    .rw[Jv,KC,Bg _ _ _ _ (by rw[dF];exact "~6qlniHvnO;5vw3roEYBNRFAJiF" nj hsz T m1),Nat.add_zero,dF,nj]
     have:=Wa (a:=arrOf st) (i:=sa+k) (sb:=sb) (m:=m) ("~5SjisR47rUhv?" e c1) ("~17_WmZRK2PXEbWp3" hsz T m1);exact(List.Perm.append_left _ (List.Perm.append_right _ res.1)).trans (.of_eq this.symm)
    .show K (jb _ _ _ _) i<=K (jb _ _ _ _) j
     rw[kb,kb];by_cases q1:i < sa+k
     .rw[ah q1]
      by_cases Y:j < sa+k
      .rw[ah Y];exact s1 i j C d2 ("~13H5au=9dFQFJl?O" e c1 Y)
      .rw[ab Y]
       have:=Js i C q1;by_cases q3:j < sb+m
       .rw[ah q3];exact e_ this (mr _ ("~3m;OmxAA85q7_JvYto?TSP4|9Za?9=7E4OIYZJmRZ|CYgZr3DMfz;YO?GypNd8JiTSq_;l4ENiyfPb6" ao ao hr q3 nR)).1
       .rw[ab q3];exact e_ this (by rw[<-g];exact s2 _ _ (av _) ("~8TVX1pCgI" q3) d3)
     .rw[ab q1,ab (show¬ j < sa+k from "~1IFyosD5ix5ZZc" d2 q1)]
      by_cases Y:i < sb+m
      .rw[ah Y]
       by_cases q3:j < sb+m
       .rw[ah q3];exact sr _ _ ("~lAgz|Yu7qM^7TRkul3?bYnT<_rkh=W_UzR" ao ao d2) ("~3m;OmxAA85q7_JvYto?TSP4|9Za?9=7E4OIYZJmRZ|CYgZr3DMfz;YO?GypNd8JiTSq_;l4ENiyfPb6" ao ao hr q3 nR)
       .rw[ab q3];exact e_ (mr _ ("~3m;OmxAA85q7_JvYto?TSP4|9Za?9=7E4OIYZJmRZ|CYgZr3DMfz;YO?GypNd8JiTSq_;l4ENiyfPb6" ao ao hr Y nR)).2 (Jt j ("~Q4Cd4eFh<O" q3) d3)
      .rw[ab Y,ab (show¬ j < sb+m from "~1IFyosD5ix5ZZc" d2 Y)];exact s2 i j ("~8TVX1pCgI" Y) d2 d3
    .show K (jb _ _ _ _) j=_
     rw[kb];rcases hj with hj |hj
     .rw[ah ("~W1N1QDOG" hj)]
     .rw[ab ("~tE^VjH>k2oLbZlsiD" e hj c1),ab ("~5q0EHRcDVudWy" hj m1)]
   split
   .exact aJ (VU b1.a cx fin)
   .exact aJ (VY b1.a cx fin)
end
abbrev pl(P:List (Nat×Nat×Nat)):List (Nat×Nat):=P.map λp=>(p.1,p.2.1)
abbrev mj:Nat->List (Nat×Nat)->Nat->Prop
 |s,[],e=>s=e|s,p::r,e=>p.1=s/\0 < p.2/\mj (s+p.2) r e
theorem tw:∀{l r:List (Nat×Nat)} {s e:Nat},mj s (l++r) e↔∃m,mj s l m/\mj m r e
 |[],r,s,e=>⟨λh=>⟨s,rfl,h⟩,λ⟨m,h1,h2⟩=>by cases h1;exact h2⟩
 |p::l,r,s,e=>⟨λ⟨h1,h2,h3⟩=>let ⟨m,a,b⟩:=tw.mp h3;⟨m,⟨h1,h2,a⟩,b⟩,λ⟨m,⟨h1,h2,h3⟩,h4⟩=>⟨h1,h2,tw.mpr ⟨m,h3,h4⟩⟩⟩
theorem tx:∀{l:List (Nat×Nat)} {s e:Nat},mj s l e->s+l.length<=e/\∀p∈l,s<=p.1/\p.1+p.2<=e
 |[],s,e,h=>⟨gV h,λp hp=>nomatch hp⟩
 |q::l,s,e,⟨h1,h2,h3⟩=>by
  obtain⟨a,b⟩:=tx h3;refine⟨by rw[bI];exact "~Cp=>|6S;6gthoMqc" a h2,λp hp=>?_⟩;rcases bH.mp hp with rfl |hp
  .exact "~jB4o3bfHl6^Bl<c4WEQ" h1 a
  .have:=b p hp;exact "~3?930f;nGaRFLaCYPXh" this
structure Rk(a₀:Array Keyed)(lo n:Nat)(st:SortSt):Prop where
 a:Sb a₀ (pendingOf st) st
 d:mj 0 (pl (pendingOf st).toList) lo
 e:∀p∈pl (pendingOf st).toList,cp (arrOf st) p.1 (p.1+p.2)
 f:cp (arrOf st) lo (lo+n)
 c:lo+n<=a₀.size
def cp.eq(h:cp a i j)(e:∀k,i<=k->k < j->K b k=K a k):cp b i j:=λk l t B C=>by
 rw[e k t (fK B C),e l (aL t B) C];exact h k l t B C
section
variable{prog:Program}{w:World}{A:Around}{E:Value->Shared->Prop}{s:Shared}{a₀:Array Keyed}{st:SortSt}{lo n i:Nat}
def Jw(h0:gc a₀)(r:Rk a₀ lo n st)(hi:i+1 < (pendingOf st).size)(h:∀ak,Rk a₀ lo n ak->(pendingOf ak).size+1=(pendingOf st).size->Q true ak):
  wpS (model prog w) A E s (mergeAt' i) Q st:=by
 obtain⟨b,N,bw,run,le⟩:=r;obtain⟨⟨sa,na,pw⟩,e1⟩:∃p,(pendingOf st)[i]?=some p:=⟨_,xg (Nat.lt_of_succ_lt hi)⟩;obtain⟨⟨sb,nb,H⟩,U⟩:∃p,(pendingOf st)[i+1]?=some p:=⟨_,xg hi⟩;rw[V'];refine aJ (kZ ?_);rw[e1,U];have Y:(pendingOf st).toList=(pendingOf st).toList.take i++(sa,na,pw)::(sb,nb,H)::(pendingOf st).toList.drop (i+1+1):=by
  rw[<-eI]at e1 U;obtain⟨f,f1⟩:=bW.mp e1;obtain⟨I,f2⟩:=bW.mp U;rw[<-f1,<-f2,<-Kq I,<-Kq f,qw]
 have y:((pendingOf st).toList.take i).length=i:=by rw[Kz,dF];exact "~2B0A<KFjK=cAzq=k|wL8|n9" fa hi
 generalize (pendingOf st).toList.take i=l1 at Y y;generalize (pendingOf st).toList.drop (i+1+1)=l2 at Y;have o:(((pendingOf st).setIfInBounds i (sa,na+nb,pw)).eraseIdxIfInBounds (i+1)).toList=l1++(sa,na+nb,pw)::l2:=by
  rw[Array.toList_eraseIdxIfInBounds,J8,Y,List.set_append_right _ _ (gV y),y,Nat.sub_self,List.set_cons_zero,
   List.eraseIdx_append_of_length_le (by rw[y];exact tF i),y,Nat.add_sub_cancel_left]
  rfl
 have eP:pl (pendingOf st).toList=pl l1++(sa,na)::(sb,nb)::pl l2:=by rw[Y];unfold pl;rw[kQ];rfl
 have z:pl (l1++(sa,na+nb,pw)::l2)=pl l1++(sa,na+nb)::pl l2:=by unfold pl;rw[kQ];rfl
 rw[eP]at N bw;obtain⟨m,c1,v,L,g,u,j⟩:=tw.mp N;have v:sa=m:=v;have L:0 < na:=L;have c:sb=m+na:=g;have u:0 < nb:=u;have j:mj (m+na+nb) (pl l2) lo:=j;subst v;obtain⟨C,d2⟩:=tx c1;obtain⟨d3,T⟩:=tx j;refine Wc h0 b c.symm ("~2fJurRUhAY;30WNtNOKxX" g d3 le) L u (by rw[c];exact bw (sa,na) (jh _ (.head _))) (bw (sb,nb) (jh _ (.tail _ (.head _)))) λak G s' k'=>?_;have J:=G.d;refine h ak ⟨⟨G.b,G.a,G.c,rfl⟩,?_,λp a=>?_,run.eq λk t B=>k' k (.inr ("~jB75cZVQlzO4RMunbhd" g d3 t)),le⟩ ?_
 .rw[J,o,z]
  exact tw.mpr ⟨sa,c1,rfl,Nat.add_pos_left L _,by rw[<-tC];exact j⟩
 .rw[J,o,z]at a
  rcases aZ.mp a with q |q
  .have v1:=d2 p q
   exact(bw p (dy _ q)).eq λk t B=>k' k (.inl ("~Bl81ZV8ilkfLSBZs" v1 B))
  .rcases bH.mp q with rfl |q
   .show cp _ sa (sa+(na+nb))
    rw[<-tC,<-c];exact s'
   .have v2:=T p q
    exact(bw p (jh _ (.tail _ (.tail _ q)))).eq λk t B=>k' k (.inr ("~2KhvMIg=ErNdyeIOjV^04zH" v2 g t))
 .rw[J,<-dF,<-dF,o,Y,b_,b_]
  simp only[bI];exact "~48?6rJ9mkbF7KUW5o" id
abbrev Jx(size pw:Nat):SM (Option Unit×Unit):=
 forIn [0:size] ((none,()):Option Unit×Unit) λJ J=>do
  let g <-get
  match(if(pendingOf g).size>1 then(pendingOf g)[(pendingOf g).size - 2]? else none)with
  |some (_,_,a)=>if a<=pw then pure (ForInStep.done (none,()))else do
    let w <-mergeAt' ((pendingOf g).size - 2)
    if(!w)=true then pure (ForInStep.done (some (),()))else pure (ForInStep.yield (none,()))
  |_=>pure (ForInStep.done (none,()))
abbrev Bj(lo n:Nat):SM (ForInStep (Option Unit×Nat)):=do
 modify λs=>setPending s ((pendingOf s).push (lo,n,0))
 pure (ForInStep.yield (none,lo+n))
abbrev wP(size lo n:Nat):SM (ForInStep (Option Unit×Nat)):=do
 let g <-get
 match(pendingOf g).back? with
 |some (s1,H,_)=>do
  let c <-Jx size (power' size (2*s1+H) (2*s1+H+H+n) size)
  match c.1 with
  |some r=>pure (ForInStep.done (some r,lo))
  |none=>do
   modify λs=>setPending s ((pendingOf s).modify ((pendingOf s).size - 1) λ(st,j,_)=>(st,j,power' size (2*s1+H) (2*s1+H+H+n) size))
   Bj lo n
 |_=>Bj lo n
abbrev Jy(size:Nat):SM (Option Unit×Unit):=
 forIn [0:size] ((none,()):Option Unit×Unit) λJ J=>do
  let g <-get
  if(pendingOf g).size<=1 then pure (ForInStep.done (none,()))else do
   let w <-mergeAt' (if Option.any (λx=>decide (x < (pendingOf g)[(pendingOf g).size - 2+1]?.elim 0 λx=>x.2.1)) (if(pendingOf g).size - 2>0 then Option.map (λx=>x.2.1) (pendingOf g)[(pendingOf g).size - 2 - 1]? else none)=true then(pendingOf g).size - 2 - 1 else(pendingOf g).size - 2)
   if(!w)=true then pure (ForInStep.done (some (),()))else pure (ForInStep.yield (none,()))
def Wg:sortRuns'=(do
  let g <-get
  let c <-forIn [0:(arrOf g).size] ((none,0):Option Unit×Nat) λJ c=>
   if c.2>=(arrOf g).size then pure (ForInStep.done (none,c.2))else do
    let x <-countRun' c.2 ((arrOf g).size - c.2)
    match x with
    |some n=>if n < minRun' (arrOf g).size (arrOf g).size 0 then(do
      liftM (rule "list.sort.binary-insertion" :Sem Unit)
      let w <-binarySort' c.2 (min ((arrOf g).size - c.2) (minRun' (arrOf g).size (arrOf g).size 0)) n
      if(!w)=true then pure (ForInStep.done (some (),c.2))else wP (arrOf g).size c.2 (min ((arrOf g).size - c.2) (minRun' (arrOf g).size (arrOf g).size 0)))else wP (arrOf g).size c.2 n
    |_=>pure (ForInStep.done (some (),c.2))
  match c.1 with
  |some r=>pure r
  |none=>do
   let c <-Jy (arrOf g).size
   match c.1 with
   |some r=>pure r|none=>pure ()):=by kernel_rfl
end
section
variable{prog:Program}{w:World}{A:Around}{E:Value->Shared->Prop}{s:Shared}{a₀:Array Keyed}{st:SortSt}{lo n i:Nat}
def Rk.pend(r:Rk a₀ lo n st)(h:pl P.toList=pl (pendingOf st).toList):Rk a₀ lo n (setPending st P):=by
 obtain⟨b,N,bw,run,le⟩:=r;exact⟨⟨b.b,b.a,b.c,rfl⟩,by rw[<-h]at N;exact N,by rw[<-h]at bw;exact bw,run,le⟩
def Wh(h0:gc a₀)(r:Rk a₀ lo n st)(h:∀ak,Rk a₀ lo n ak->Q (none,()) ak):wpS (model prog w) A E s (Jx size pw) Q st:=by
 refine gg (I:=λJ c ak=>c=(none,())/\Rk a₀ lo n ak) ?step (λc ak k=>by rw[k.1];exact h ak k.2) ⟨rfl,r⟩;rintro x c ak _ _ ⟨rfl,r'⟩;refine aJ (kZ ?_);by_cases h2:(pendingOf ak).size>1
 .rw[ah h2]
  obtain⟨⟨a,b,o⟩,e⟩:∃p,(pendingOf ak)[(pendingOf ak).size - 2]?=some p:=⟨_,xg ("~BgSL9sbZbNFxkY5o" ao h2)⟩;rw[e];show wpS _ _ _ _ (if o<=pw then _ else _) _ _
  split
  .exact a8 (h ak r')
  .exact aJ (Jw h0 r' ("~>ykZpbGF4rlvBdxH3g" ao h2) λcM g J=>a8 ⟨rfl,g⟩)
 .rw[ab h2];exact a8 (h ak r')
def Jz(r:Rk a₀ lo n st)(u:0 < n)(h:∀ak,Rk a₀ (lo+n) 0 ak->Q (.yield (none,lo+n)) ak):wpS (model prog w) A E s (Bj lo n) Q st:=by
 obtain⟨b,N,bw,run,le⟩:=r;refine aJ (wpS_modify (a8 (h _ ⟨⟨b.b,b.a,b.c,rfl⟩,?_,λp J=>?_,λk l t B C=>absurd t (by lia),le⟩)))
 .show mj 0 (pl ((pendingOf st).push (lo,n,0)).toList) (lo+n)
  rw[n6];unfold pl;rw[kQ];exact tw.mpr ⟨lo,N,rfl,u,rfl⟩
 .have J:p∈pl ((pendingOf st).push (lo,n,0)).toList:=J
  rw[n6]at J;unfold pl at J;rw[kQ]at J;rcases aZ.mp J with q |q
  .exact bw p q
  .rw[aB.mp q];exact run
def Wi(P:PT)(i pw:Nat):pl (P.modify i λ(st,j,_)=>(st,j,pw)).toList=pl P.toList:=by
 unfold pl;rw[Array.toList_modify];refine List.ext_getElem? λk=>?_;rw[n1,n1,List.getElem?_modify]
 induction P.toList[k]? using aX with
 |none=>rfl|some p=>by_cases q:i=k <;>simp[q]
def Wj(h0:gc a₀)(r:Rk a₀ lo n st)(u:0 < n)(h:∀ak,Rk a₀ (lo+n) 0 ak->Q (.yield (none,lo+n)) ak):wpS (model prog w) A E s (wP size lo n) Q st:=by
 refine aJ (kZ ?_)
 induction (pendingOf st).back? using aX with
 |none=>exact Jz r u h|some p=>
  obtain⟨s1,H,o⟩:=p;exact aJ (Wh h0 r λak r'=>aJ (wpS_modify (Jz (r'.pend (Wi _ _ _)) u h)))
def Wk(h:a+max 0 b<=b):a<=1:=by rw[Nat.zero_max]at h;exact "~8RO=rxQ50" h
def Wl(h0:gc a₀)(r:Rk a₀ a₀.size 0 st)(h:∀ak,Rk a₀ a₀.size 0 ak->(pendingOf ak).size<=1->Q (none,()) ak):wpS (model prog w) A E s (Jy a₀.size) Q st:=by
 refine gg (I:=λx c ak=>c=(none,())/\Rk a₀ a₀.size 0 ak/\(pendingOf ak).size+x<=a₀.size) ?step (λc ak k=>by rw[k.1];exact h ak k.2.1 (Wk k.2.2)) ⟨rfl,r,?init⟩
 case init=>
  have:=(tx r.d).1;unfold pl at this;rw[bX,dF,qf]at this;exact this
 rintro x c ak _ _ ⟨rfl,r',H⟩;refine aJ (kZ ?_);by_cases h2:(pendingOf ak).size<=1
 .exact cu h2 (a8 (h ak r' h2))
 .refine cA h2 ?_
  refine aJ (Jw h0 r' (by split <;>lia) λcM g e=>a8 ⟨rfl,g, "~3q;Q9baO5mGJMuoYq" e H⟩)
def Wm(h0:gc a₀)(b:Sb a₀ #[] st)(h:∀ak,(arrOf ak).Perm a₀->failedOf ak=none->cp (arrOf ak) 0 a₀.size->Q () ak):wpS (model prog w) A E s sortRuns' Q st:=by
 rw[Wg];refine aJ (kZ ?_);rw[b.size];have q:∀{st:SortSt} {i:Nat},cp (arrOf st) i (i+0):=λ{st i} k l t B C=>absurd t (by lia);refine aJ (eS (gg (I:=λx c ak=>∃lo,c=(none,lo)/\Rk a₀ lo 0 ak/\x<=lo) (Q:=λc ak=>c=(none,a₀.size)/\Rk a₀ a₀.size 0 ak) ?step ?fin
  ⟨0,rfl,⟨⟨b.b,b.a,b.c,rfl⟩,by rw[b.d];rfl,by rw[b.d];exact λp J=>(nomatch J),q,bb _⟩,av _⟩) ?post)
 case fin=>
  rintro c ak ⟨lo,rfl,r,H⟩;have:=r.c;obtain rfl:lo=a₀.size:= "~1G70RIr8a^Zg||XKrw2?YOqTJjt0Y" qK this H;exact⟨rfl,r⟩
 case step=>
  rintro x c ak _ H ⟨lo,rfl,r,z⟩;have y:=r.c;show wpS _ _ _ _ (if lo>=a₀.size then _ else _) _ _;by_cases a:lo>=a₀.size
  .obtain rfl:lo=a₀.size:= "~1ChNjlEc|7V5sH" a y
   exact cu a (a8 ⟨rfl,r⟩)
  .refine cA a ?_
   obtain⟨b',N,bw,_,_⟩:=r;have j:∀{cM n},Sb a₀ (pendingOf ak) cM->cp (arrOf cM) lo (lo+n)->ge lo ak cM->lo+n<=a₀.size->Rk a₀ lo n cM:=λ{cM n} g s2 l2 h2=>
    ⟨⟨g.b,g.a,g.c,rfl⟩,by rw[g.d];exact N,λp J=>by
     rw[g.d]at J;exact(bw p J).eq λk t B=>l2 k (gY B ((tx N).2 p J).2),s2,h2⟩
   have G:∀{cM n},Rk a₀ lo n cM->0 < n->wpS (model prog w) A E s (wP a₀.size lo n) (λr eH=>match r with |.done c'=>c'=(none,a₀.size)/\Rk a₀ a₀.size 0 eH |.yield c'=>∃lo,c'=(none,lo)/\Rk a₀ lo 0 eH/\x+1<=lo) cM:=
    λ{cM n} r2 u=>Wj h0 r2 u λeH r3=>⟨_,rfl,r3, "~1IDvdOj0_rdDt^" z u⟩
   refine aJ (V3 h0 b' ("~BgSG0<Rd_US21QKp" ao a) ("~Co3XWqdlB8n0irRY" ao a) λm cM g T m2 s2 l2=>?_);show wpS _ _ _ _ (if m < _ then _ else _) _ _
   split
   .rename_i hm
    refine aJ (wpS_lift (gU ⟨rfl,?_⟩));refine aJ (V9 h0 g ("~cSe|4fl3lIqM3=QQ9lbdJbIsKnbsc>6nWhxk" ao fa T m2) ("~cTLdYVT7Y5O6^4Psh>TwjfoI>9luGtecfV5g" ao fa m2 hm) T s2 λeH o f U=>?_);exact eS (G (j o f (l2.trans U) ("~cSe|4fl3lIqM3=QQ9lbdJbIsKnbsc>6nWhxk" ao fa T m2)) ("~Q5hUaiclJgWDQtc8i18BAzIYWu^bFWwtTy9B06=6" ao fa T m2 hm)) λr Wn k=>by induction r <;>exact k
   .exact eS (G (j g s2 l2 ("~?tZikQ?yiYNwCn0pAH" ao T m2)) T) λr Wn k=>by induction r <;>exact k
 case post=>
  rintro c ak ⟨rfl,r⟩;refine aJ (Wl h0 r λcM r2 h1=>a8 (h cM r2.a.b r2.a.c ?_));have N:=r2.d;have bw:=r2.e;have Y:(pl (pendingOf cM).toList).length<=1:=by unfold pl;rw[bX,dF];exact h1
  generalize pl (pendingOf cM).toList=L at N bw Y
  match L,N,bw,Y with
  |[],N,_,_=>intro k l t B C;have:0=a₀.size:=N;lia|[p],⟨c1,v,c3⟩,bw,_=>
   have:=bw p (.head _);rw[c1]at this;have c3:0+p.2=a₀.size:=c3;rw[c3]at this;exact this
  |_::_::_,_,_,Y=>simp at Y
end
end Mine.Lake.R
end
section
open PySem PySem.W PyProof.Rows
namespace Mine.Lake.S
open Mine.Lake.R
section
variable{prog:Program}{w:World}{A:Around}{E:Value->Shared->Prop}{s:Shared}
def ints_of{a₀:Array Keyed}(h:IntKeys a₀):gc a₀:=λp J=>by
 obtain⟨n,t,e⟩:=h p J;exact⟨t,by unfold kv;rw[e];rfl⟩
def Wo{vs:List Value}(h:¬ vs.toArray.size < 2):∃a b r,vs=a::b::r:=by
 induction vs with
 |nil=>exact absurd (by decide) h|cons a r=>
  induction r with
  |nil=>exact absurd (Ka 1) h|cons b r=>exact⟨a,b,r,rfl⟩
def Wp(ho:s.heap.get? a=some (PyProof.Rows.seqObj "list" vs.toArray n))(L:IntsAre vs ns)(hz:vs.length<=sizeLine)
  (h:∀(out:Array Value) (g:List Int),IntsAre out.toList g->g.Perm ns->g.Pairwise (·<=·)->P (.done (.ret .none)) {s with heap:=sortedHeap s.heap a vs out}):
  wpAny (model prog w) A (Builtin.«list.sort» ⟨[.ref a],[]⟩) P E s:=by
 rw[list_sort_plain];have G:a < s.heap.objs.size:=jd ho;have p:vs.toArray.size<=sizeLine:=by rw[BV];exact hz
 refine aj (listItems_at ho rfl ?_);refine aj (listUpdate_at ho rfl ?_ p (bb _));obtain⟨e1,v⟩:∃e1,(s.heap.update a (Obj.mapSeq λY=>#[])).get? a=some (PyProof.Rows.seqObj "list" #[] e1):=⟨_,get?_update_seq ho (λY=>#[])⟩;refine aj (seqEpoch_at v rfl ?_);refine aj (wpAny_newTuple ?_ hz);refine aj (wpAny_newList ?_ (bb _));refine dm ?_;have c:(((s.heap.update a (Obj.mapSeq λY=>#[])).push (PyProof.Rows.seqObj "tuple" vs.toArray 0)).push (PyProof.Rows.seqObj "list" #[] 0)).get? a=some (PyProof.Rows.seqObj "list" #[] e1):=by
  rw[Heap.get?_push_ne _ _ _ (by rw[size_push',Heap.size_update];exact n9 (Kk G)),Heap.get?_push_ne _ _ _ (by rw[Heap.size_update];exact n9 G)];exact v
 show wpAny (model prog w) A _ P E {s with heap:=((s.heap.update a (Obj.mapSeq λY=>#[])).push (PyProof.Rows.seqObj "tuple" vs.toArray 0)).push (PyProof.Rows.seqObj "list" #[] 0)};have fin:∀ak:SortSt,(arrOf ak).Perm (pairsOf vs)->SortedTo (arrOf ak) (pairsOf vs).size->P (.done (.ret .none)) {s with heap:=sortedHeap s.heap a vs ((arrOf ak).map (·.2))}:=λak J N=>by
  obtain⟨g,h1,h2,h3⟩:=sorted_out L J N;exact h _ g h1 h2 h3
 by_cases h2:vs.toArray.size < 2
 .rw[ah h2,ah h2]
  refine aj (aG (aj ?_));rw[StateT.run_pure];refine aG ?_;refine aj (seqEpoch_at c rfl ?_);refine aj (listUpdate_at c rfl ?_ (bb _) (by rw[Array.size_map];show(pairsOf vs).size<=_;rw[pairsOf_size];exact qn hz));rw[bne_self_eq_false];refine aG (fin (SortSt.mk' general' (vs.toArray.zip vs.toArray) #[] 7 none) (Array.Perm.refl _) λi j m f=>?_);rw[pairsOf_size]at f;rw[BV]at h2;obtain rfl:i=j:= "~17tRi5>6lSbqtw7S" m f h2;exact gS _
 .rw[ab h2,ab h2]
  obtain⟨o,q,rest,rfl⟩:=Wo h2;rw[keyKind_ints L];refine aj (aG (aj (gX (Wm (a₀:=pairsOf (o::q::rest)) (st:=SortSt.mk' oneType' ((o::q::rest).toArray.zip (o::q::rest).toArray) #[] 7 none)
   (Q:=λY ak=>(arrOf ak).Perm (pairsOf (o::q::rest))/\failedOf ak=none/\cp (arrOf ak) 0 (pairsOf (o::q::rest)).size)
   (ints_of L.intKeys) ⟨Array.Perm.refl _,rfl,rfl,rfl⟩ λak t B C=>⟨t,B,C⟩) (λr s' k=>?_) λY Y e=>e)))
  obtain⟨u,ak⟩:=r;obtain⟨rfl,J,hf,N⟩:=k;refine aj (seqEpoch_at c rfl ?_);refine aj (listUpdate_at c rfl ?_ (bb _) (aL (gV ((Array.size_map ..).trans (J.size_eq.trans (pairsOf_size _)))) (qn hz)));dsimp only;rw[hf,bne_self_eq_false];exact aG (fin ak J λi j h1 h3=>N i j (bb _) h1 h3)
theorem Bk(x:Int):∀l:List Int,(ll x l).Perm (x::l)
 |[]=>.refl _|y::l=>by
  show(if x<=y then _ else _::ll x l).Perm _
  split
  .exact .refl _
  .exact((Bk x l).cons y).trans (.swap x y l)
theorem JA:∀l:List Int,(jU l).Perm l
 |[]=>.refl _|x::l=>(Bk x (jU l)).trans ((JA l).cons x)
theorem JB(x:Int):∀l:List Int,l.Pairwise (·<=·)->(ll x l).Pairwise (·<=·)
 |[],_=>List.pairwise_singleton _ _|y::l,h=>by
  obtain⟨h1,h2⟩:=kW.mp h;show(if x<=y then _ else _::ll x l).Pairwise _
  split
  .rename_i q
   exact kW.mpr ⟨λz hz=>(bH.mp hz).elim (λe=>e▸q) λhz=>e_ q (h1 z hz),h⟩
  .rename_i q
   exact kW.mpr ⟨λz hz=>(bH.mp ((Bk x l).mem_iff.mp hz)).elim (λe=>by rw[e];exact "~2I>Fbp7;" q) (h1 z),JB x l h2⟩
theorem JC:∀l:List Int,(jU l).Pairwise (·<=·)
 |[]=>.nil|x::l=>JB x _ (JC l)
def Wq(p:m.Perm l)(h:m.Pairwise (·<=·)):m=jU l:=
 (p.trans (JA l).symm).eq_of_pairwise (λJ J J J a b=>KD a b) h (JC l)
@[inline]abbrev wQ(h h':Heap):Prop:=∀b o,h.get? b=some o->h'.get? b=some o
def Wr(hz:ns.length<=sizeLine)
  (U:∀R:List Value->Shared->Prop,(∀h' N vs,wQ s.heap h'->IntsAre vs ns->R vs {s with heap:=h',toks:=N})->wpAny (model prog w) A.in1 (collect z) R E s)
  (h:∀h' N out l n,wQ s.heap h'->s.heap.get? l=none->h'.get? l=some (PyProof.Rows.seqObj "list" out n)->IntsAre out.toList (jU ns)->Q (.ref l) {s with heap:=h',toks:=N}):
  wpAny (model prog w) A (call (.builtin "sorted") [z]) Q E s:=by
 refine Calls.call_function_entry kind_sorted plain_sorted entry_sorted (args_sorted1 _) ?_;unfold Builtin.«sorted»;refine aj (m:=checkCount "sorted" 1 1 _) (aG ?_);refine aj (U _ λh1 N vs k L=>?_);have Y:vs.length=ns.length:=by rw[<-L.nums,bX]
 refine aj (wpAny_newList ?_ (by rw[Y];exact hz));have a:(h1.push (PyProof.Rows.seqObj "list" vs.toArray 0)).get? h1.objs.size=some (PyProof.Rows.seqObj "list" vs.toArray 0):=iE _ rfl;refine aj (dm (n5 slot_list_sort ⟨_,a,rfl⟩ entry_list_sort (Wp a L (by rw[Y];exact hz) λout g t B C=>⟨_,rfl,?_⟩) (args_list_sort _)));obtain⟨e,J⟩:=sortedHeap_at (out:=out) a;refine aG ⟨_,rfl,h _ N out _ e (λb o q=>?_) ?_ J (by rw[<-Wq B C];exact t)⟩
 .have f:=k b o q
  rw[sortedHeap_old (n9 (jd f)) (by rw[size_push'];exact Kk (jd f))];exact gf _ f
 .generalize q:s.heap.get? h1.objs.size=T
  induction T using aX with
  |none=>rfl|some o=>exact absurd (jd (k _ _ q)) (tD _)
end
section
variable{X:dj}{A:Around}{E:Value->Shared->Prop}{s:Shared}{σ:St}{μ:Mu}
def Ws{h:Heap}(r:IntsAre vs ns):b7 h ω μ (ns.map .j) vs:=by
 induction r with
 |nil=>exact .nil|cons n t _ ih=>exact .cons (.int n t) ih
def Wt{h:Heap}:∀{is:List Int} {vs:List Value},qU l=some is->b7 h ω μ l vs->IntsAre vs is:=by
 induction l with
 |nil=>intro is vs e r;rw[<-ay e,show vs=[]from r];exact .nil|cons v l ih=>
  intro is vs e r;obtain⟨i,hi,e⟩:=a9 (x:=gG v) e;obtain⟨m,hm,e⟩:=cD e;obtain⟨x,xs,ex,h1,t⟩:=r;rw[jm hi]at h1;obtain⟨u,a⟩:=h1;rw[ex,a,<-e];exact .cons i u (ih hm t)
def Wu{h:Heap}{n:Nat}(low:(a==sysModules)=false)(T:A.handled=none)(d:s.heap.DictOf (intKind X.a X.w) a kvs)(U:kvs.map (·.1)=es)(hz:kvs.length<=sizeLine)(R:List Value->Shared->Prop)
  (k:∀h' N vs,wQ s.heap h'->IntsAre vs es->R vs {s with heap:=h',toks:=N}):wpAny (model X.a X.w) A.in1 (collect (.ref a)) R E s:=by
 obtain⟨ep,f⟩:=d.dictAt;refine kdu_collect (A:=A.in1) (kdl_dict (knd:=intKind X.a X.w) (kvs:=kvs) (ep:=ep) low) T f hz λh' N acc J c=>k h' N acc.toList J ?_;subst U;have key:∀(kvs:List (Int×Value)) (vs:List Value),vs.length=kvs.length->(∀j v,vs[j]?=some v->∃k x,kvs[j]?=some (k,x)/\Value.isInt k v=true)->IntsAre vs (kvs.map (·.1)):=λkvs=>by
  induction kvs with
  |nil=>intro vs Y _;rw[xc.mp Y];exact .nil|cons p kvs ih=>
   intro vs Y B
   induction vs using bo with
   |nil=>cases Y|cons v vs=>
    obtain⟨k,x,e,hi⟩:=B 0 v rfl;have e:p=(k,x):=ay e;subst e;obtain⟨t,rfl⟩:=Value.isInt_shape hi;exact .cons _ t (ih vs (kU Y) λj u e=>B (j+1) u e)
 exact key kvs acc.toList (by rw[dF];exact c.1) λj v e=>c.2 j v (by rw[<-eI];exact e)
def Wv(low:∃o,X.b.get? sysModules=some o):mT X:=λ{A E s σ μ v r z aw Q n} j R H e c=>by
 obtain⟨is,hi,e⟩:=a9 (x:=mJ σ v) e;obtain⟨Y,e⟩:=bN e;have c:=c.of e;have fin:(∀R:List Value->Shared->Prop,(∀h' N vs,wQ s.heap h'->IntsAre vs is->R vs {s with heap:=h',toks:=N})->wpAny (model X.a X.w) A.in1 (collect z) R E s)->wpAny (model X.a X.w) A (call (.builtin "sorted") [z]) Q E s:=λw=>by
  refine Wr (gI Y) w λh' N out l n k u G L=>?_;obtain⟨I,E1⟩:=R.grow k;exact c {s with heap:=h',toks:=N} μ (.ref l) I E1 (.lst G (λq=>R.ou u q) (Ws L)) ⟨rfl,rfl⟩
 rcases li (x:=bt σ v) hi with h |h
 .obtain⟨p,hs,h⟩:=h
  obtain⟨J,h⟩:=bN h;obtain⟨a,vs,n,T,B,ra⟩:=jZ R hs H;rw[J]at B;have L:=Wt h ra;have y:vs.toList.length=is.length:=by rw[<-L.nums,bX]
  rw[T]at fin ⊢;refine fin λR' k=>?_;refine collect_list (vs:=vs.toList) ⟨_,B,rfl,n,rfl⟩ (k _ s.toks _ (λb o q=>?_) L) (by rw[y];exact gI Y);rw[xe _ _ _ _ (n9 (jd q))];exact gf _ q
 .obtain⟨o,ho,h⟩:=a9 h.2
  obtain⟨es,he,h⟩:=cD h;obtain⟨i,m,_,hi,hm,T,C⟩:=j0 R ho H;obtain⟨kvs,_,_,hd,U⟩:=lr he C;rw[T]at fin ⊢;have t:kvs.map (·.1)=is:=(a0.map_eq (f:=λp:Int×V=>p.1) (g:=λq:Int×Value=>q.1) (λ_ _ q=>q.1) U).trans h;exact fin (Wu (h:=s.heap) (n:=0) (rb low R hm) j.b hd t (by rw[<-bX (f:=λq:Int×Value=>q.1),t];exact gI Y))
end
end Mine.Lake.S
end
set_option genInjectivity true
set_option backward.match.sparseCases false
section
open PySem PySem.W
namespace Mine.Lake
@[inline]abbrev tO(l:List Value):Obj:=⟨.type "tuple",none,.seq ⟨l⟩ 0,#[]⟩
@[inline]abbrev fO(t:Value)(l:List Value):Obj:=⟨t,none,.fields ⟨l⟩,#[]⟩
@[inline]abbrev dO(l:List DictEntry)(n:Nat):Obj:=⟨.type "dict",none,.dict ⟨l⟩ n,#[]⟩
abbrev JD:Str:=Str.ofString "/claim/cut.py"
abbrev Bl:List Str->Nat->List Value
 |[],_=>[]|s::r,t=>.str s t::Bl r (t+1)
structure La where
 a:List Obj
 t:Nat
abbrev Bm(n q:Str)(a c f Y:Nat)(o:Bool)(B t id:Nat)(v1 v2 g:Value):Obj:=
 fO (.type "code") [.str n t,.str q (t+1),.str JD (t+2),.int a 0,.int c 0,.int 0 0,.int 0 0,.int f 0,.ref Y,.bool o,.int 181 0,.ref B,.none,v1,v2,g,.int id 0,.int a 0,.str JD (id+1)]
abbrev JE(st:Stmt)(q:Str)(i dv:Value)(f:Bool)(a t:Nat):La:=match st with
 |.FunctionDef n ps b _ _ _ sc _ _ pos=>
  let vs:=match f with |true=>(sc.names.filter λx=>x.2==.local||(x.2==.cell&&(ps.args.map (·.arg)).contains x.1)).map (·.1) |false=>[]
  let id:=t+3+vs.length
  let fd:FuncData:={name:=n,qualname:=q,params:=ps,body:=.stmts b,scope:=sc,globals:=builtinsNs,closure:=[],defaults:=.none,kwdefaults:=.none}
  let c:=match f with |true=>a+4 |false=>a+2
  let mid:=match f with |true=>[tO (Bl vs (t+3)),tO []] |false=>[]
  let v1:=match f with |true=>Value.ref (a+2) |false=>.none
  let v2:=match f with |true=>Value.ref (a+3) |false=>.none
  ⟨tO []::fO .none []::(mid++[⟨.none,none,.func fd,#[]⟩,Bm n q pos.line ps.args.length 3 a true (a+1) t id v1 v2 (.ref c),⟨.type "function",none,.func {fd with globals:=mainGlobals,defaults:=dv,pyModule:=i,code:=.ref (c+1)},#[]⟩]),id+2⟩
 |_=>⟨[],t⟩
abbrev Bn(x:Str):List DictEntry->Value
 |[]=>.none
 |⟨_,k,v⟩::r=>match k with
  |.str y _=>match x==y with |true=>v |false=>Bn x r
  |_=>Bn x r
@[inline]abbrev Ev:=Value×List Obj×Nat
abbrev pY(f:Expr->Nat->Nat->Ev):List Expr->Nat->Nat->List Value×List Obj×Nat
 |[],_,t=>([],[],t)|e::r,a,t=>
  let x:=f e a t
  let y:=pY f r (a+x.2.1.length) x.2.2
  (x.1::y.1,x.2.1++y.2.1,y.2.2)
abbrev ev(P:Params)(g:List DictEntry):Nat->Expr->Nat->Nat->Ev
 |0,_,_,t=>(.none,[],t)
 |m+1,e,a,t=>match e with
  |.Constant c _ _=>(match c with
   |.int i=>(.int i t,[],t+1)|.str s=>(.str s t,[],t+1)|_=>(.none,[],t))
  |.Name x _=>(match Bn x g with |.none=>(match x==Str.ofString "Exception" with |true=>(.type "Exception",[],t) |false=>(.none,[],t)) |v=>(v,[],t))
  |.UnaryOp _ (.Constant (.int i) _ _) _=>(.int (-i) (t+1),[],t+2)|.Tuple es _ _=>
   let r:=pY (ev P g m) es a t
   (.ref (a+r.2.1.length),r.2.1++[tO r.1],r.2.2)
  |.Dict I vs _=>
   let r:=pY (ev P g m) vs (a+1) t
   let es:=(I.zip r.1).filterMap λp=>p.1.map λk=>match(ev P g m k 0 0).1 with
    |.int i t=>(⟨i,.int i t,p.2⟩:DictEntry)|v=>⟨0,v,p.2⟩
   (.ref a,dO es es.length::r.2.1,r.2.2+es.length)
  |_=>(.none,[],t)
structure pZ where
 i:Nat
 n:Nat
 t:Nat
 g:List DictEntry
 f:List Value
 a:Value
 b:List DictEntry
 c:List (Addr×Addr)
 d:List (Addr×List Value)
abbrev Ww(a b:Str):Str:=a++Str.ofString "." ++b
@[inline]abbrev en(P:Params)(x:Str)(t:Nat)(v:Value):DictEntry:=⟨PyData.keyHash P x,.str x t,v⟩
structure Me where
 a:List Obj
 t:Nat
 b:List DictEntry
 f:List Value
abbrev Bo(P:Params)(g:List DictEntry)(cn:Str)(i:Value):List Stmt->Nat->Nat->Me
 |[],_,t=>⟨[],t,[],[]⟩
 |s::r,a,t=>match s with
  |.FunctionDef n ps b _ _ _ sc _ _ pos=>
   let dv:=pY (ev P g 5) ps.defaults a t
   let pre:=match dv.1 with |[]=>[] |l=>dv.2.1++[tO l]
   let d:=match dv.1 with |[]=>Value.none |_=>.ref (a+dv.2.1.length)
   let Y:=a+pre.length
   let x:=JE s (Ww cn n) i d true Y dv.2.2
   let B:=Y+x.a.length
   let y:=Bo P g cn i r B (x.t+1)
   ⟨pre++x.a++y.a,y.t,en P n x.t (.ref (B - 1))::y.b,[.int pos.line 0,.int pos.col 0,.ref (B - 2)]++y.f⟩
  |_=>Bo P g cn i r a t
abbrev Wx:List Nat:=[55,64,68,70,71,72,77,78,83,85,86,87,106,127,150,151,157,160,161,162]
abbrev Wy(P:Params)(s:Stmt)(c:pZ):List Obj×pZ:=match s with
 |.Assign ts e _=>
  let v:=ev P c.g 5 e c.n c.t
  let x:=match ts with |[.Name x _]=>x |_=>Str.ofString ""
  (v.2.1,{c with i:=c.i+1,n:=c.n+v.2.1.length,t:=v.2.2+1,g:=match x==Str.ofString "__name__" with |true=>c.g |false=>en P x v.2.2 v.1::c.g,a:=match x==Str.ofString "__name__" with |true=>v.1 |false=>c.a})
 |.FunctionDef n ps _ _ _ _ _ _ _ pos=>
  let dv:=pY (ev P c.g 5) ps.defaults c.n c.t
  let pre:=match dv.1 with |[]=>[] |l=>dv.2.1++[tO l]
  let d:=match dv.1 with |[]=>Value.none |_=>.ref (c.n+dv.2.1.length)
  let Y:=c.n+pre.length
  let x:=JE s n c.a d (!Wx.contains c.i) Y dv.2.2
  let B:=Y+x.a.length
  (pre++x.a,{c with i:=c.i+1,n:=B,t:=x.t+1,g:=en P n x.t (.ref (B - 1))::c.g,f:=.ref (B - 2)::.int pos.col 0::.int pos.line 0::c.f})
 |.ClassDef n I _ body _ _ _ _ _ sa pos=>
  let h:=(pY (ev P c.g 5) I c.n c.t).1
  let a:=c.n
  let t:=c.t
  let m:=Bo P c.g n c.a body (a+7) (t+12)
  let b:=a+7+m.a.length
  let k:=m.t+sa.length
  let C:=b+2
  let base:=match h with |[]=>Value.none |v::_=>v
  let gs:List (List Value):=match base with
   |.none=>[[.str (Str.ofString "__dict__") (k+1),.ref C,.builtin "function.__dict__",.builtin "function.__dict__#set"],[.str (Str.ofString "__weakref__") (k+3),.ref C,.builtin "ExceptionGroup.__weakref__",.none]]|.type _=>[[.str (Str.ofString "__weakref__") (k+1),.ref C,.builtin "ExceptionGroup.__weakref__",.none]]|_=>[]
  let j:=match base with
   |.none=>[en P (Str.ofString "__dict__") (k+2) (.ref (C+1)),en P (Str.ofString "__weakref__") (k+4) (.ref (C+2))]|.type _=>[en P (Str.ofString "__weakref__") (k+2) (.ref (C+1))]|_=>[]
  let d:=k+1+2*gs.length
  let e1:=en P (Str.ofString "__module__") (t+7) c.a
  let H:=en P (Str.ofString "__firstlineno__") (t+11) (.int pos.line (t+10))
  let es:=m.b++[en P (Str.ofString "__static_attributes__") k (.ref b)]
  let mro:=match base with
   |.none=>[Value.type "object"]|.ref x=>(c.d.lookup x).getD []|v=>[v,.type "BaseException",.type "object"]
  let new:=match mro.contains (.type "Exception")with |true=> "Exception.__new__" |false=> "object.__new__"
  let s2:=match base with |.type _=>2 |_=>0
  (tO h::fO (.type "builtin_function_or_method") [.builtin "type.__prepare__",.type "type"]::dO (e1::en P (Str.ofString "__qualname__") (t+9) (.str n (t+8))::H::es) (3+es.length)::tO []::fO .none m.f::
   Bm n n pos.line 0 0 (a+3) false (a+4) (t+2) (t+5) .none .none .none::
   ⟨.type "frame",none,.plain,#[some (.ref (a+5)),some (.ref 3),some (.ref (a+2)),none,some c.a,none,some (.ref 0)]⟩::
   (m.a++[tO (Bl sa m.t),dO (e1::H::(es++(j++[en P (Str.ofString "__doc__") d .none]))) (2+gs.length),
    ⟨.type "type",none,.cls {name:=n,bases:=(match h with |[]=>[.type "object"] |l=>l),mro:=.ref C::mro,ns:=b+1,qualname:=n},#[(match h with |[]=>none |_=>some (.ref a)),none,some (.str n t),some (.str n (t+8)),some (.builtin new),some (.bool true)]⟩]
    ++(gs.map (fO (.type "getset_descriptor"))++[fO (.type "super") [.ref C,.ref C,.ref C],fO (.type "builtin_function_or_method") [.builtin "object.__init_subclass__",.ref C]])),
   {c with
    i:=c.i+1,n:=C+3+gs.length,t:=d+s2+3,g:=en P n (d+s2+2) (.ref C)::c.g,f:=.ref (a+5)::.int pos.col 0::.int pos.line 0::c.f,
    c:=(match base with |.ref x=>c.c++[(x,C)] |_=>c.c),d:=(C,.ref C::mro)::c.d,
    b:=(match base with
     |.type x=>c.b++[en P (Str.ofString ("type.__subclasses__." ++x++ ".0")) (d+1) (.int C 0),en P (Str.ofString ("type.__subclasses__." ++x++ ".n")) (d+2) (.int 1 0)]|_=>c.b)})
 |_=>([],c)
abbrev JF(P:Params):List Stmt->pZ->List Obj×pZ
 |[],c=>([],c)|s::r,c=>
  let x:=Wy P s c
  let y:=JF P r x.2
  (x.1++y.1,y.2)
end Mine.Lake
end
set_option genInjectivity false
section
open PySem PySem.W
namespace Mine.Lake
@[inline]abbrev pw:Program:=PySem.Challenge.pw_xm0466_01
abbrev bd:List Stmt:=behindTheImports pw
abbrev wR:Env:={scope:=pw.main.scope,locals:=mainNs,globals:=mainNs,cells:=[],code:=.ref 13,frame:=some 14}
abbrev nS:Code:=.body bd wR
@[inline]abbrev q0:Pos:=⟨0,0,0,0⟩
abbrev g0(P:Params)(i:Value):List DictEntry:=match(boot_o_3 P).data with
 |.dict es _=>(match es.toList with |e::r=>{e with val:=i}::r |[]=>[])
 |_=>[]
abbrev Wz:pZ:=⟨0,15,187,[],[],.str (Str.ofString "__main__") 164,[],[],[]⟩
abbrev Bp:List Obj->List Obj
 |[]=>[]|a::r=>a::(match r with |[]=>[] |_::r=>Bp r)
abbrev Bq:Nat->List Obj->BT
 |0,_=>.nil
 |m+1,l=>match l with
  |[]=>.nil|o::r=>.node o (Bq m (Bp r)) (Bq m (Bp r.tail))
abbrev JG:List (Addr×Addr)->BT->BT
 |[],T=>T|(b,c)::r,T=>JG r (T.set b (Obj.mapCls λx=>{x with subclasses:=x.subclasses++[.ref c]}))
abbrev WA(P:Params)(c:pZ):List Obj:=
 [boot_o_0 P,boot_o_1 P,⟨.none,none,.dict ⟨c.b⟩ c.b.length,#[]⟩,dO (g0 P c.a++c.g.reverse) (9+c.g.length),boot_o_4 P,boot_o_5 P,boot_o_6 P,boot_o_7 P,boot_o_8 P,boot_o_9 P,boot_o_10 P,
  tO [],fO .none c.f.reverse,Bm (Str.ofString "<module>") (Str.ofString "<module>") 1 0 0 11 false 12 182 185 .none .none .none,
  ⟨.type "frame",none,.plain,#[some (.ref 13),some (.ref 3),some (.ref 3),none,some (.str (Str.ofString "__main__") 164),none,some (.ref 0)]⟩]
abbrev Br(k:Nat)(P:Params):BT:=
 let r:=JF P (bd.take k) Wz
 JG r.2.c (Bq 12 (WA P r.2++r.1))
@[inline]abbrev nT(k n t:Nat)(P:Params)(os:OsState):SharedT:=⟨Br k P,n,{},#[],boot_drawn,t,os⟩
abbrev Bs:Nat->Pos
 |0=>q0
 |k+1=>match bd[k]? with
  |some s=>(match s with |.Assign (t::_) _ _=>t.pos |s=>s.pos)
  |none=>q0
@[inline]abbrev ej(i m n0 n H f:Nat)(w:World)(os:OsState):Prop:=
 segRunT treeTable pw w 11 (some (.ref 6)) 1 1500 (nT i n0 n w.params os) (piecesOf ((bd.drop i).take m) wR nS (Bs i) [topFrame q0])=some (.next,nT (i+m) H f w.params os,nS,Bs (i+m))
def wG(l:List α)(i m:Nat):(l.drop i).take m++l.drop (i+m)=l.drop i:=by
 rw[<-Ce];exact qw ..
@[inline]abbrev Bt(i n t N:Nat)(w:World)(os:OsState)(r:Shared):Prop:=
 topRun treeTable pw w 11 (some (.ref 6)) N (nT i n t w.params os).abs (restOf (bd.drop i) wR nS (Bs i) [topFrame q0])=some r
def eQ{os:OsState}(h:ej i m n0 n H f w os)(k:Bt (i+m) H f N w os r):Bt i n0 n (1500+N) w os r:=by
 have:=piece_app (segRun_of h) k;rw[wG]at this;exact this
end Mine.Lake
end
section
open PySem PySem.W PyProof.Rows
namespace Mine.Lake.S
abbrev iC:List FN:=[0,1,2,3,4,5,6,7,8,9,10,11,12,13,14,15,16,17,18,19,20,21,22,23,24,25,26,27,28,29,30,31,32,33,34,35,36,37,38,39,40,41,42,43,44,45,46,47,48,49,50,51,52,53,54,55,56,57,58,59,60,61,62,63,64,65,66,67,68,69,70,71,72,73,74,75,76,77,78,79,80,81,82,83,84]
abbrev Bu:List Addr:=[154,206,213,220,227,234,241,248,253,267,274,279,286,296,301,308,315,322,339,346,353,358,365,370,387,394,401,408,416,431,438,450,457,464,471,485,492,499,506,541,548,555,562,569,576,583,590,616,623,630,637,644,651,658,845,906,913,920,927,934,941,948,953,958,965,972,979,986,993,998,1005,1012,1017,1022,1027,126,140,520,527,826,859,866,880,887,894]
abbrev WB:List (Nat×Nat):=[(50,0),(57,0),(58,0),(59,0),(60,0),(61,0),(62,0),(63,0),(64,0),(66,0),(67,0),(68,0),(69,0),(71,0),(72,0),(73,0),(74,0),(75,0),(78,0),(80,0),(81,0),(83,0),(84,0),(85,0),(88,0),(89,0),(90,0),(91,0),(94,0),(103,0),(104,0),(106,0),(107,0),(108,0),(109,0),(111,0),(112,0),(113,0),(114,0),(116,0),(117,0),(118,0),(119,0),(120,0),(121,0),(122,0),(123,0),(127,0),(128,0),(129,0),(130,0),(131,0),(132,0),(133,0),(140,0),(143,0),(144,0),(145,0),(146,0),(147,0),(148,0),(149,0),(150,0),(151,0),(152,0),(153,0),(154,0),(155,0),(156,0),(157,0),(158,0),(159,0),(160,0),(161,0),(162,0),(49,1),(49,3),(115,1),(115,2),(138,2),(141,1),(141,2),(141,4),(141,5),(141,6)]
abbrev gP(f:FN):Addr:=(Bu[f.val]?).getD 0
abbrev cQ(f:FN):Stmt:=match WB[f.val]? with
 |some (i,j)=>(match bd[i]? with
  |some s=>(match j with
   |0=>s|j+1=>(match s with |.ClassDef _ _ _ b _ _ _ _ _ _ _=>(b[j]?).getD (.Pass q0) |_=>.Pass q0))
  |none=>.Pass q0)
 |none=>.Pass q0
abbrev p0:Stmt->List Stmt
 |.FunctionDef _ _ b _ _ _ _ _ _ _=>b|_=>[]
abbrev Bv:Expr->List Str
 |.Name x _=>[x]|.Tuple l _ _=>l.filterMap λe=>match e with |.Name x _=>some x |_=>none
 |_=>[]
abbrev ml:Nat->List Stmt->List Str
 |0=>λJ=>[]
 |m+1=>λl=>match l with
  |[]=>[]
  |s::r=>(match s with
   |.Assign ts _ _=>ts.flatMap Bv|.AugAssign t _ _ _=>Bv t|.For t _ b _ _=>Bv t++ml m b|.If _ a b _=>ml m a++ml m b|.While _ a _ _=>ml m a|.Try a _ _ f _=>ml m a++ml m f|_=>[])++ml m r
abbrev WC(l:List Str):List Str:=l.foldl (λacc x=>if acc.contains x then acc else acc++[x]) []
abbrev gQ:Stmt->dN
 |.FunctionDef _ ps b _ _ _ sc _ _ _=>⟨(WC (ps.args.map (·.arg)++ml 100 b)).zipIdx.map λp=>(p.1,p.2,match sc.names.lookup p.1 with |some .cell=>true |_=>false),sc.names⟩
 |_=>⟨[],[]⟩
abbrev JH(g:List (Str×GV)):Nat->Expr->V
 |0=>λJ=>.z
 |m+1=>λx=>match x with
  |.Constant (.int i) _ _=>.j i|.Constant (.str s) _ _=>(match lC Str.ofString Ey s with |some s=>.u s |none=>.z)
  |.Name n _=>(match g.lookup n with |some (.e i)=>.j i |_=>.z)
  |.Tuple l _ _=>.p (l.map (JH g m))|_=>.z
abbrev JI:jo:=bd.filterMap λs=>match s with
 |.Assign [.Name n _] (.Constant (.int i) _ _) _=>some (n,.e i)|_=>none
abbrev WD:jo:=bd.filterMap λs=>match s with
 |.Assign [.Name n _] (.Tuple l a b) _=>(match JH JI 5 (.Tuple l a b)with |.p l=>some (n,.h l) |_=>none)
 |_=>none
abbrev Bw:jo:=(iC.take 75).map (λf=>(Str.ofString (FN.name f),.g f))++([0,1,2].map (λc=>(Str.ofString (CN.name c),.j c))++
 (["len", "any", "sorted", "isinstance"].map (λs=>(Str.ofString s,.b s))++(["tuple", "dict", "str", "range"].map (λs=>(Str.ofString s,.a s))++((Str.ofString "KID_SPANS",.d)::(JI++WD)))))
end Mine.Lake.S
end
set_option backward.match.sparseCases true
set_option tactic.hygienic true
section
open PySem PySem.W
namespace Mine.Lake
def WE(w:World)(os:OsState):ej 0 2 15 187 22 196 w os:=by kernel_rfl
def WG(w:World)(os:OsState):ej 2 1 22 196 43 227 w os:=by kernel_rfl
def WH(w:World)(os:OsState):ej 3 1 43 227 63 256 w os:=by kernel_rfl
def WI(w:World)(os:OsState):ej 4 1 63 256 83 283 w os:=by kernel_rfl
def WJ(w:World)(os:OsState):ej 5 41 83 283 83 365 w os:=by kernel_rfl
def WK(w:World)(os:OsState):ej 46 3 83 365 113 404 w os:=byRow2 "special-get-raises" (P:=λw=>ej 46 3 83 365 113 404 w os) (λw=>by kernel_rfl) (λw=>by kernel_rfl) w
def WL(w:World)(os:OsState):ej 49 1 113 404 148 459 w os:=by kernel_rfl
def WM(w:World)(os:OsState):ej 50 15 148 459 254 605 w os:=by kernel_rfl
def WN(w:World)(os:OsState):ej 65 15 254 605 340 715 w os:=by kernel_rfl
def WO(w:World)(os:OsState):ej 80 15 340 715 417 829 w os:=by kernel_rfl
def WP(w:World)(os:OsState):ej 95 20 417 829 507 979 w os:=by kernel_rfl
def WQ(w:World)(os:OsState):ej 115 1 507 979 535 1026 w os:=by kernel_rfl
def WR(w:World)(os:OsState):ej 116 15 535 1026 638 1164 w os:=by kernel_rfl
def WS(w:World)(os:OsState):ej 131 6 638 1164 659 1197 w os:=by kernel_rfl
def WT(w:World)(os:OsState):ej 137 1 659 1197 806 1383 w os:=by kernel_rfl
def WU(w:World)(os:OsState):ej 138 1 806 1383 839 1425 w os:=by kernel_rfl
def WV(w:World)(os:OsState):ej 139 2 839 1425 846 1435 w os:=by kernel_rfl
def WW(w:World)(os:OsState):ej 141 1 846 1435 900 1506 w os:=by kernel_rfl
def WX(w:World)(os:OsState):ej 142 21 900 1506 1028 1716 w os:=by kernel_rfl
@[inline]abbrev S0(w:World)(os:OsState):Shared:=⟨boot_heap w.params,Array.mk [],boot_drawn,boot_toks,os⟩
def WY(w:World)(os:OsState):topGo treeTable pw w 11 (some (.ref 6)) 12 (S0 w os) (topStub pw)=some ((nT 0 15 187 w.params os).abs,⟨denote treeTable nS,nS,q0,[topFrame q0]⟩):=by kernel_rfl
def WZ(w:World)(os:OsState):segRun treeTable pw w 11 (some (.ref 6)) 1 1 (nT 0 15 187 w.params os).abs (blockOf bd wR nS q0 [topFrame q0])=some (.next,(nT 0 15 187 w.params os).abs,nS,q0):=by kernel_rfl
def W0(w:World)(os:OsState):Bt 163 1028 1716 2 w os (nT 163 1028 1716 w.params os).abs:=by kernel_rfl
def W1:∀w:World,(fencedOpening treeTable pw w 40000).map (λs=>(s.heap,s.gens,s.drawn,s.toks))=some (boot_heap w.params,Array.mk [],boot_drawn,boot_toks):=
 boot_open (by kernel_rfl) (by kernel_rfl) (λs=>by kernel_rfl)
def W2(w:World):((boot_heap w.params).isNs mainGlobals&&(Array.mk []:Array GenState).size==0,(boot_heap w.params).objs.size,(boot_heap w.params).nsMap mainGlobals (Str.ofString "__annotations__"))=(true,11,some (.ref 6)):=by kernel_rfl
@[inline]abbrev nU(P:Params):Heap:=absHeap (Br 163 P) 1028 {}
def W3(w:World)(os:OsState):topRun treeTable pw w 11 (some (.ref 6)) 28515 (S0 w os) (topStub pw)=some ⟨nU w.params,#[],boot_drawn,1716,os⟩:=
 go_top (N:=28503) (WY w os) (piece_block (n:=1) (N:=28502) (WZ w os) (eQ (WE w os) (eQ (WG w os) (eQ (WH w os) (eQ (WI w os) (eQ (WJ w os) (eQ (WK w os) (eQ (WL w os) (eQ (WM w os) (eQ (WN w os) (eQ (WO w os) (eQ (WP w os) (eQ (WQ w os) (eQ (WR w os) (eQ (WS w os) (eQ (WT w os) (eQ (WU w os) (eQ (WV w os) (eQ (WW w os) (eQ (WX w os) (W0 w os)))))))))))))))))))))
abbrev qL:Program:=view pw [162]
abbrev p_:List Str:=(bd.map λs=>match s with
 |.FunctionDef n ..=>n|.ClassDef n ..=>n|.Assign (.Name n _::_) ..=>n|_=>Str.ofString "law").filter λn=>!(n==Str.ofString "law" ||n==Str.ofString "__name__")
def W4(w:World):(λos=>(staticsOk (importedModules pw.main.body) (boot_heap w.params) (nU w.params)&&namesBound pw (nU w.params)&&gensDone ⟨nU w.params,#[],boot_drawn,1716,os⟩&&laidKept (boot_heap w.params) (nU w.params)))=λJ=>true:=by kernel_rfl
def W5(w:World):(λos=>openSeen qL p_ (importedModules pw.main.body) (λJ=>true) true ⟨nU w.params,#[],boot_drawn,1716,os⟩)=λJ=>openGood qL p_:=by kernel_rfl
end Mine.Lake
end
section
open PySem PySem.W PyProof.Rows
namespace Mine.Lake.S
abbrev wT:List Addr:=[0,1,3,199,409,417,142,143,529,530,896,897,835,836,800,801]++((List.range 25).map (·+83)++(Bu++Bu.map (·- 1)))
abbrev dg(P:Params):Frag:=wT.map λa=>(a,((Br 163 P).get a).getD default)
abbrev kM(c:CN):Addr:=[143,530,897].getD c.1 0
abbrev JJ:List CN:=[0,1,2]
def nW:∀f:FN,f∈iC:=by decide+kernel
def JK:∀f:MN,f∈rG:=by decide+kernel
def W6:∀f:CN,f∈JJ:=by decide+kernel
def kN{α:Type}{l:List α}{p:α->Bool}{x:α}(h:l.all p=true)(e:x∈l):p x=true:=ek.mp h x e
abbrev vB(a b:Option (Option Value)):Bool:=a==b
abbrev JL(K:Frag)(c:CN):Bool:=j6.all (λa=>dM c a||q_ K (kM c) (Str.ofString a.name))&&(keepIn K (.ref (kM c))&&(makesIn K (kM c)&&(vB (findIn K (.ref (kM c)) "__init__") (some (some (.ref (gP (qO c)))))&&
 rG.all λm=>match tY c m with
  |none=>true|some f=>vB (findIn K (.ref (kM c)) "__getattribute__") (some (some (.builtin "object.__getattribute__")))&&(vB (findIn K (.ref (kM c)) "__getattr__") (some none)&&vB (findIn K (.ref (kM c)) (Str.ofString m.name)) (some (some (.ref (gP f))))))))
abbrev JM(K:Frag)(f:FN):Bool:=keepIn K (.ref (gP f))&&(typeIn K (.ref (gP f))==some (.type "function"))
abbrev W8:Bool:=rG.all λm=>j6.all λa=>!(m.name==a.name)
def W9(P:Params):(JJ.all λc=>JL (dg P) c)=true:=by kernel_rfl
def W'(P:Params):(iC.all λc=>JM (dg P) c)=true:=by kernel_rfl
def W_:W8=true:=by kernel_rfl
abbrev ty:Stmt->Arguments
 |.FunctionDef _ ps _ _ _ _ _ _ _ _=>ps|_=>⟨[],[],none,[],[],none,[]⟩
abbrev nY:Stmt->Scope
 |.FunctionDef _ _ _ _ _ _ sc _ _ _=>sc|_=>⟨.function,[],false,false,[]⟩
abbrev mm(f:FN):List Str:=(ty (cQ f)).args.map (·.arg)
abbrev tz(K:Frag)(a:Addr):Option FuncData:=match K.lookup a with
 |some ⟨_,_,.func fd,_⟩=>some fd|_=>none
abbrev Bx(f:FN):Value:=match(bv f).b with
 |[]=>.none|_=>.ref 199
structure mn where
 f:FuncBody
 e:List (Str×Addr)
 a:Scope
 g:Addr
 b:Addr
 c:Arguments
 d:Value
abbrev Xa(fd:FuncData):mn:=⟨fd.body,fd.closure,fd.scope,fd.globals,fd.builtins,fd.params,fd.defaults⟩
def Xb(P:Params):(iC.map λf=>(tz (dg P) (gP f)).map Xa)=iC.map λf=>some ⟨.stmts (p0 (cQ f)),[],nY (cQ f),mainGlobals,builtinsNs,ty (cQ f),Bx f⟩:=by kernel_rfl
abbrev By(K:Frag)(fd:FuncData):Bool:=match fd.code with
 |.ref c=>(match K.lookup c with
  |some ⟨_,_,.fields vs,_⟩=>(match vs.toList with
   |_::.str q _::_=>q==fd.qualname|_=>false)
  |_=>false)
 |_=>false
def Xc(P:Params):(iC.all λf=>(tz (dg P) (gP f)).all (By (dg P)))=true:=by kernel_rfl
abbrev Bz:List Str->Bool
 |[]=>true|a::r=>!r.contains a&&Bz r
theorem JN:∀{l:List Str},Bz l=true->l.Nodup
 |[],_=>iF|a::r,h=>by
  have h:=bh.mp h;refine fL.mpr ⟨λq=>?_,JN h.2⟩;have:=h.1;rw[bj.mpr q]at this;cases this
abbrev JO(f:FN):Bool:=
 let sc:=nY (cQ f)
 let c:=gQ (cQ f)
 let ns:=mm f
 let p:=ty (cQ f)
 !sc.isCoroutine&&(!sc.isGenerator&&((match sc.kind with |.function=>true |_=>false)&&(Bz ns&&((ns.length==(bv f).a)&&(Nat.ble (bv f).a (bv f).d&&(p.posonlyargs.isEmpty&&(p.vararg.isNone&&(p.kwonlyargs.isEmpty&&(p.kwarg.isNone&&
 (c.a.all (λe=>(!Nat.ble (e.2.1+1) (bv f).a||(ns[e.2.1]?==some e.1))&&((c.b.lookup e.1==some (if e.2.2 then NameKind.cell else .local))&&c.a.all λe'=>(!(e.1==e'.1)&&!(e.2.1==e'.2.1))||(e==e')))&&
 ns.all λx=>c.a.any λe=>e.1==x))))))))))
def Xd:(iC.all JO)=true:=by kernel_rfl
def kinds_ok:(iC.map λf=>(nY (cQ f)).names)=iC.map λf=>(gQ (cQ f)).b:=by kernel_rfl
def BA{α β:Type}{l:List α}{f g:α->β}{x:α}(h:l.map f=l.map g)(e:x∈l):f x=g x:=List.map_inj_left.mp h x e
def Xe{K:Frag}{h:Heap}{a:Addr}{fd:FuncData}(x:K.In h)(e:tz K a=some fd):∃o,h.get? a=some o/\o.data=.func fd:=by
 unfold tz at e
 split at e
 .rename_i q;cases e;exact⟨_,x _ _ q,rfl⟩
 .cases e
def Xf{K:Frag}{h:Heap}{fd:FuncData}(x:K.In h)(e:By K fd=true):h.CodeRec fd.code fd.qualname:=by
 unfold By at e
 split at e
 .rename_i c o
  split at e
  .rename_i vs _ q
   split at e
   .rename_i t _ B
    exact⟨c,_,_,t,o,x _ _ q,rfl,by rw[<-eI,B,aH.mp e];rfl⟩
   .cases e
  .cases e
 .cases e
structure Xg(f:FN):Prop where
 n:(nY (cQ f)).isCoroutine=false
 m:(nY (cQ f)).isGenerator=false
 l:(nY (cQ f)).kind=.function
 a:(mm f).Nodup
 c:(mm f).length=(bv f).a
 h:(bv f).a<=(bv f).d
 j:Em (ty (cQ f)) (mm f)
 g:∀x i b,(x,i,b)∈(gQ (cQ f)).a->i < (bv f).a->(mm f)[i]?=some x
 d:∀x i b,(x,i,b)∈(gQ (cQ f)).a->(gQ (cQ f)).b.lookup x=some (if b then .cell else .local)
 inj:∀e∈(gQ (cQ f)).a,∀e'∈(gQ (cQ f)).a,e.1=e'.1\/e.2.1=e'.2.1->e=e'
 k:∀x∈mm f,∃i b,(x,i,b)∈(gQ (cQ f)).a
def wU{α:Type}{o:Option α}(h:o.isNone=true):o=none:=XK.mp h
def BB{α:Type}{o:List α}(h:o.isEmpty=true):o=[]:=tB.mp h
def JP(f:FN):Xg f:=by
 have h:=kN Xd (nW f);unfold JO at h;simp only[mu]at h;obtain⟨h1,h2,h3,h4,h5,h6,h7,h8,h9,pA,c,r⟩:=h;have B:∀e∈(gQ (cQ f)).a,_:=λe J=>ek.mp c e J;refine⟨(qu _).mp h1,(qu _).mp h2,?_,JN h4,aH.mp h5,bP h6,⟨BB h7,rfl,wU h8,BB h9,wU pA⟩,λx i b J hi=>?_,λx i b J=>?_,λe J e' g q=>?_,λx H=>?_⟩
 .cases q:(nY (cQ f)).kind with
  |function=>rfl|_=>rw[q]at h3;cases h3
 .have:=(bh.mp (B _ J)).1
  rcases B9.mp this with k |k
  .rw[Nat.ble_eq_true_of_le (Nat.succ_le_of_lt hi)]at k;cases k
  .exact aH.mp k
 .exact aH.mp (bh.mp (bh.mp (B _ J)).2).1
 .have:=ek.mp (bh.mp (bh.mp (B _ J)).2).2 e' g
  rcases B9.mp this with k |k
  .obtain⟨k1,k2⟩:=bh.mp k
   rcases q with q |q
   .rw[q,jO]at k1;cases k1
   .rw[q,jO]at k2;cases k2
  .exact aH.mp k
 .obtain⟨e,J,k⟩:=qj.mp (ek.mp r x H)
  obtain⟨y,i,b⟩:=e;exact⟨i,b,by rw[<-aH.mp k];exact J⟩
def JQ{X:dj}{P:Params}(c:(dg P).In X.b)(hf:∀f,X.e f=gP f)(f:FN)(dv:List Value)(a:dv.length=(bv f).b.length)(i:∀h ω μ,b7 h ω μ (bv f).b dv)
  (bind:∀(fd:FuncData),tz (dg P) (gP f)=some fd->fd.params=ty (cQ f)->fd.defaults=Bx f->∀s xs,(∀b o,X.b.get? b=some o->s.heap.get? b=some o)->xs.length<=(bv f).a->(bv f).a<=xs.length+dv.length->BindsTo s fd ⟨xs,[]⟩ ((mm f).zip (xs++dv.drop (xs.length+dv.length - (bv f).a)))):
  ∃o fd names dv,uO X f (gQ (cQ f)) (p0 (cQ f)) o fd names dv:=by
 have h:=BA (Xb P) (nW f);obtain⟨fd,m,e⟩:=Option.map_eq_some_iff.mp h;obtain⟨o,ho,Y⟩:=Xe c m;have U:=kN (Xc P) (nW f);rw[m]at U;have b:=JP f;have e1:fd.body=_:=aE mn.f e;have w:fd.closure=_:=aE mn.e e;have H:fd.scope=_:=aE mn.a e;have B:fd.globals=_:=aE mn.g e;have g:fd.builtins=_:=aE mn.b e;have y:fd.params=_:=aE mn.c e;have j:fd.defaults=_:=aE mn.d e;exact⟨o,fd,mm f,dv,by rw[hf];exact ho,Y,Xf c U,e1,w,by rw[H];exact b.n,by rw[H];exact b.m,by rw[H];exact b.l,B,g,by rw[H];exact BA kinds_ok (nW f),b.a,b.c,a,i,bind fd m y j,b.g,b.k,b.d,b.inj,b.h⟩
def Xh:(iC.all λf=>(bv f).b.isEmpty||(f==1))=true:=by kernel_rfl
def Xi{X:dj}{P:Params}(T:(dg P).In X.b)(hf:∀f,X.e f=gP f)(f:FN):∃o fd names dv,uO X f (gQ (cQ f)) (p0 (cQ f)) o fd names dv:=by
 have L:=kN Xh (nW f);rcases B9.mp L with h |h
 .have h:=BB h
  refine JQ T hf f [] (by rw[h];rfl) (λQ Q Q=>by rw[h];exact .nil) λfd Q J Y s xs Q h1 h2=>?_;rw[BL,b9];have b:=JP f;refine P_ (by rw[J];exact b.j) b.a (by rw[Y];unfold Bx;rw[h]) (b.c.trans (BP h2 h1))
 .cases aH.mp h
  refine JQ T hf 1 [.int (-1) 535,.int (-1) 537] rfl (λQ Q Q=>.cons (.int _ _) (.cons (.int _ _) .nil)) λfd m J Y s xs U h1 h2=>?_;have B:(bv 1).a=4:=rfl;rw[B]at h1 h2;have i:(dg P).In s.heap:=T.keeps U;obtain⟨_,_,params,_,_,_,_,dflt,_,_,_,_,_,_,_⟩:=fd;dsimp only at J Y;subst J Y
  match xs,h1,h2 with
  |[a,b],_,_=>exact kp_binds i λS=>by kernel_rfl
  |[a,b,c],_,_=>exact kp_binds i λS=>by kernel_rfl
  |[a,b,c,d],_,_=>exact kp_binds i λS=>by kernel_rfl
  |[],_,h2=>exact absurd h2 (show¬ 4<=0+2 by decide)|[a],_,h2=>exact absurd h2 (show¬ 4<=1+2 by decide)|a::b::c::d::e::r,h1,_=>exact absurd h1 (by simp)
abbrev wV(K:Frag)(a:Addr):List DictEntry:=match K.lookup a with
 |some ⟨_,_,.dict es _,_⟩=>es.toList|_=>[]
abbrev nZ(x:Str):List DictEntry->Option Value
 |[]=>none
 |e::r=>match e.key.isStr x with
  |true=>some e.val|false=>nZ x r
def JR{K:Frag}{h:Heap}{a:Addr}{m:Str->Option Value}{es:List DictEntry}(c:K.In h)(n:h.Ns a m)(q:(K.lookup a).isSome=true)(e:wV K a=es)(x:Str):m x=nZ x es:=by
 obtain⟨o,q⟩:=qm.mp q;obtain⟨o',⟨l⟩,ep,h1,h2,h3,h4⟩:=n;rw[c _ _ q]at h1;cases h1;unfold wV at e;rw[q]at e;obtain⟨i,f,t,os⟩:=o;dsimp only at h2;subst h2
 induction e
 rw[<-h4 x];unfold nsFind findBy;rw[List.find?_toArray];show _=nZ x l;clear h4 q h3
 induction l with
 |nil=>rfl|cons e r ih=>
  show _=(match e.key.isStr x with |true=>_ |false=>nZ x r);rw[List.find?_cons];dsimp only
  induction e.key.isStr x using aS with
  |true=>rfl|false=>exact ih
abbrev qa(K:Frag):Nat->V->Value->Bool
 |0=>λJ J=>false
 |m+1=>λv x=>match v with
  |.j i=>(match x with |.int j _=>i==j |_=>false)
  |.u s=>(match x with |.str t _=>Str.ofString s==t |_=>false)
  |.p l=>(match x with
   |.ref a=>(match K.lookup a with
    |some ⟨.type "tuple",none,.seq vs _,f⟩=>f.isEmpty&&mM (qa K m) l vs.toList|_=>false)
   |_=>false)
  |_=>false
where mM (f:V->Value->Bool):List V->List Value->Bool
 |[],[]=>true|v::l,x::r=>f v x&&mM f l r|_,_=>false
theorem JS{h:Heap}{f:V->Value->Bool}(hf:∀v x,f v x=true->cU h v x):∀(l:List V) (r:List Value),qa.mM f l r=true->b7 h (λJ=>False) [] l r
 |[],[],_=>.nil|v::l,x::r,e=>.cons (hf v x (bh.mp e).1) (JS hf l r (bh.mp e).2)|[],_::_,e=>nomatch e|_::_,[],e=>nomatch e
theorem JT{K:Frag}{h:Heap}(c:K.In h):∀(m:Nat) (v:V) (x:Value),qa K m v x=true->cU h v x
 |0,_,_,e=>nomatch e|m+1,v,x,e=>by
  induction v using Mine.Lake.V.casesOn with
  |j i=>induction x using Cj with
   |int j t=>rw[aH.mp (show(i==j)=true from e)];exact .int _ _|_=>exact nomatch e
  |u s=>induction x using Cj with
   |str u t=>rw[<-aH.mp (show(Str.ofString s==u)=true from e)];exact .str _ _|_=>exact nomatch e
  |p l=>induction x using Cj with
   |ref a=>
    have e:(match K.lookup a with
    |some ⟨.type "tuple",none,.seq vs _,f⟩=>f.isEmpty&&qa.mM (qa K m) l vs.toList|_=>false)=true:=e
    split at e
    .rename_i vs n f q
     obtain⟨e1,w⟩:=bh.mp e;have:=c _ _ q;rw[Array.isEmpty_iff.mp e1]at this;exact .tup this id (JS (JT c m) _ _ w)
    .cases e
   |_=>exact nomatch e
  |_=>exact nomatch e
abbrev gB(K:Frag)(g b:List DictEntry)(p:Str×GV):Bool:=
 let y:=nZ p.1 g
 match p.2 with
 |.e i=>(match y with |some (.int j _)=>i==j |_=>false)
 |.h l=>(match y with |some x=>qa K 6 (.p l) x |none=>false)
 |.g f=>y==some (.ref (gP f))|.j c=>y==some (.ref (kM c))|.b id=>y.isNone&&(nZ p.1 b==some (.builtin id))|.a t=>y.isNone&&(nZ p.1 b==some (.type t))|.d=>y==some (.ref 107)
def Xj(P:Params):(Bw.all (gB (dg P) (wV (dg P) 3) (wV (dg P) 0)))=true:=by kernel_rfl
abbrev wW(e:DictEntry):Option Int:=match e.key with
 |.int i _=>if e.hash=hashInt i then some i else none
 |_=>none
def Xk{e:DictEntry}{i:Int}(h:wW e=some i):(∃t,e.key=.int i t)/\e.hash=hashInt i:=by
 unfold wW at h
 split at h
 .rename_i j t q
  split at h
  .rename_i Y;cases h;exact⟨⟨t,q⟩,Y⟩
  .cases h
 .cases h
def JU{k i:Int}{t:Tok}:Value.isInt k (.int i t)=(k==i):=BEq.comm
theorem JV:∀{es:List DictEntry} {l:List Int},es.map wW=l.map some->(∀e∈es,∃k,Value.isInt k e.key=true/\e.hash=hashInt k)/\∀k,(es.find? λe=>Value.isInt k e.key).isSome=l.contains k
 |[],[],_=>⟨λe he=>(nomatch he),λk=>rfl⟩
 |e::es,i::l,h=>by
  rw[eR,eR]at h;obtain⟨h1,h2⟩:=jS h;obtain⟨⟨t,f⟩,Y⟩:=Xk h1;obtain⟨a,b⟩:=JV h2;refine⟨λe' he=>?_,λk=>?_⟩
  .rcases bH.mp he with rfl |he
   .exact⟨i,by rw[f,JU];exact jO i,Y⟩
   .exact a e' he
  .rw[List.find?_cons,B_,f,JU]
   induction k==i using aS with
   |true=>rfl|false=>exact b k
 |[],_::_,h=>nomatch h|_::_,[],h=>nomatch h
def Xl(P:Params):((dg P).lookup 107).map (λo=>(o.cls,o.dict,o.slots.toList,(match o.data with |.dict es _=>some (es.toList.map wW) |_=>none)))=some (.type "dict",none,[],some (xK.map some)):=by kernel_rfl
def JW(P:Params):((dg P).lookup 1).isSome=true/\((dg P).lookup 3).isSome=true/\((dg P).lookup 0).isSome=true:=by exact⟨by kernel_rfl,by kernel_rfl,by kernel_rfl⟩
def JX{K:Frag}{h:Heap}(c:K.In h){a:Addr}(e:(K.lookup a).isSome=true):∃o,h.get? a=some o:=let ⟨o,q⟩:=qm.mp e;⟨o,c _ _ q⟩
def wX{a b:Option (Option Value)}(h:vB a b=true):a=b:=aH.mp h
@[inline]abbrev fx(w:World)(h:Heap)(mg z:Str->Option Value):dj:=⟨pw,w,dg w.params,h,mg,z,qL,p_,kM,gP⟩
def Xm{α:Type}{x:Str}{a:α}:∀{l:List (Str×α)},l.lookup x=some a->(x,a)∈l:=kj
def JY{w:World}{h:Heap}{mg z:Str->Option Value}(Q:(dg w.params).In h)(g:h.Ns mainGlobals mg)(b:h.Ns builtinsNs z)(u:h.NoLimit):re (fx w h mg z) Bw:=by
 obtain⟨l1,U,I⟩:=JW w.params;have N:∀c,JL (dg w.params) c=true:=λc=>kN (W9 w.params) (W6 c);have hf:∀c,JM (dg w.params) c=true:=λc=>kN (W' w.params) (nW c);refine⟨Q,JX Q l1,g,b,u,λc a G=>?_,λf=>(bh.mp (hf f)).1,λc=>?_,λc=>?_,λf=>aH.mp (bh.mp (hf f)).2,λc=>?_,λc m f e=>?_,λm a e=>?_,λx v e=>?_⟩
 .have:=kN (bh.mp (N c)).1 (xY a)
  rw[G]at this;exact this
 .exact(bh.mp (bh.mp (N c)).2).1
 .exact(bh.mp (bh.mp (bh.mp (N c)).2).2).1
 .exact wX (bh.mp (bh.mp (bh.mp (bh.mp (N c)).2).2).2).1
 .have:=kN (bh.mp (bh.mp (bh.mp (bh.mp (N c)).2).2).2).2 (JK m)
  rw[e]at this;obtain⟨h1,h2⟩:=bh.mp this;obtain⟨h2,h3⟩:=bh.mp h2;exact⟨wX h1,wX h2,wX h3⟩
 .have:=kN (kN (l:=rG) (p:=λm=>j6.all λa=>!(m.name==a.name)) W_ (JK m)) (xY a)
  rw[e,jO]at this;cases this
 .have h:=ek.mp (Xj w.params) _ (Xm e)
  have H:=JR (a:=3) Q g U rfl x;have T:=JR (a:=0) Q b I rfl x;unfold gB at h;dsimp only at h;rw[<-H]at h
  induction v using Mine.Lake.S.GV.casesOn with
  |e i=>
   dsimp only at h ⊢
   split at h
   .rename_i j t q;exact⟨t,by rw[aH.mp h];exact q⟩
   .cases h
  |h l=>
   dsimp only at h ⊢
   split at h
   .rename_i y q
    have r:=JT Q _ _ _ h;obtain⟨a,vs,n,e,g,w,A⟩:=r.eK;rw[e]at r q;exact⟨_,q,r⟩
   .cases h
  |g f=>exact aH.mp h|j c=>exact aH.mp h|b id=>
   obtain⟨h1,h2⟩:=bh.mp h;exact⟨wU h1,T.trans (aH.mp h2)⟩
  |a id=>
   obtain⟨h1,h2⟩:=bh.mp h;exact⟨wU h1,T.trans (aH.mp h2)⟩
  |d=>
   obtain⟨o,ho,e⟩:=Option.map_eq_some_iff.mp (Xl w.params);have e1:o.cls=_:=aE (·.1) e;have L:o.dict=_:=aE (·.2.1) e;have E:o.slots.toList=_:=aE (·.2.2.1) e;have B:=aE (·.2.2.2) e;dsimp only at B
   split at B
   .rename_i es ep Y
    obtain⟨k1,k2⟩:=JV (ay B);refine⟨107,_,aH.mp h,rfl,⟨o,es,ep,Q _ _ ho,⟨e1,L,Array.toList_inj.mp E⟩,Y,λe J=>k1 e (Array.mem_toList_iff.mpr J),λk=>rfl⟩,λk=>?_⟩;unfold findBy;rw[Option.isSome_map,<-Array.find?_toList];exact k2 k
   .cases B
end Mine.Lake.S
end
section
open PySem PySem.W
namespace Mine.Lake
@[inline]abbrev lw:OpenLaw:=PySem.Challenge.rw_xm0466_01
@[inline]abbrev gR:Program:=PySem.Challenge.pw_xm0466_01
def w1:(sreFenced gR.main&&((moduleNames gR.main.body).isEmpty||lookedIntoSs (moduleNames gR.main.body) gR.main.body))=true:=by kernel_rfl
def w2:namesResolve gR=true:=by kernel_rfl
def w3:gR.boundNames.all (λn=>!worldNames.contains n)=true:=by kernel_rfl
def w4:noRoadLSs {strict:=!(importedModules gR.main.body).all cThrough.contains,foot:=none,bare:=(["vars", "dir", "locals"]:List Str).filter (readsOut gR gR.main.body)} gR.main.body=true:=by kernel_rfl
def w5:(namesMeet gR gR.main.body λJ n=>attrL n)=true:=by kernel_rfl
def Xn:looksOpen gR=true:=cr (cr (cr (cr w1 w2) w3) w4) w5
def Yp{a b:Bool}(x:a=true)(y:b=true):(a&&b)=true:=cr x y
def Xo:lw.row.partSaid=true:=cr (cr (cr (cr (cr (cr (cr (cr (cr (cr (cr (cr (cr Xn rfl) rfl) rfl) rfl) rfl) rfl) (by kernel_rfl)) (by kernel_rfl)) rfl) rfl) rfl) rfl) rfl
def Xp:lw.row.wellSaid=true:=cr (cr Xo (by kernel_rfl)) (by kernel_rfl)
def v1:lw.footing.all footLine=true:=by kernel_rfl
def v2:noClassBlock lw.prog lw.footing=true:=by kernel_rfl
def v3:noRoadLSs {strict:=true,foot:=some lw.bound',writes:=lw.writes,may:=lw.may} lw.footing=true:=by kernel_rfl
def v4:(defStands lw.about lw.above&&lw.namesIt)=true:=by kernel_rfl
def v5:lw.bound'.all (λn=>!builtinNamed n||lw.about==[n]||!lw.reads n)=true:=by kernel_rfl
def v6:namesMeet lw.prog lw.footing (λsc n=>(!(["type", "isinstance", "issubclass", "getattr", "hasattr"]:List Str).contains n||sc.names.lookup n==some .globalImplicit)&&
  (lw.may !=some n||sc.kind==.module||sc.names.lookup n==some .globalImplicit))=true:=by kernel_rfl
def v7:(lw.own.contains lw.name&&(lw.own.eraseDups.length==lw.own.length)&&lw.own.all (λn=>!builtinNamed n))=true:=by kernel_rfl
def v8:namesMeet lw.prog lw.above (λJ n=>!lw.own.contains n)=true:=by kernel_rfl
def v9:(namesMeet lw.prog lw.footing λsc n=>sc.kind==.module||sc.names.lookup n !=some .globalExplicit)=true:=by kernel_rfl
def wY{a b:Bool}(h:(a&&b)=true):a=true:=(bh.mp h).1
def BC{a b:Bool}(h:(a&&b)=true):b=true:=(bh.mp h).2
def Xq:lw.wellSaid=true:=
 cr (cr (cr (cr (cr (cr (cr (cr (cr (cr (cr (cr (cr (cr (cr (cr (cr (cr Xp (by kernel_rfl)) v1) v2) (by kernel_rfl)) (by kernel_rfl)) v3) (wY v4)) (BC v4)) (by kernel_rfl)) v5) (by kernel_rfl)) (by kernel_rfl)) v6) (wY (wY v7))) (BC (wY v7))) (BC v7)) v8) v9
end Mine.Lake
end
section
open PySem PySem.W PyProof.Rows
namespace Mine.Lake.S
def Xr(w:World):(λ(_:OsState)=>wT.map (nU w.params).get?)=λJ=>(dg w.params).map λp=>some p.2:=by kernel_rfl
def Xs(P:Params):wT=(dg P).map (·.1):=by kernel_rfl
@[inline]abbrev tA:Hook:=kHook dg wT Xs
def Xu:LeftO pw qL p_ (λJ=>true) tA.obs tA.val 40000:=
 LeftO.of_pieces W1 W2 W3 (by kernel_rfl) λw=>funext λos=>Prod.ext (qd (W4 w) os) (Prod.ext (qd (W5 w) os) (qd (Xr w) os))
@[inline]abbrev qb:Str:=Str.ofString "law"
def Xv:(defOf qL qb).isSome=true:=by kernel_rfl
abbrev dL:DefRec:=((defOf qL qb).get Xv).1
def Xw:(chainsOk qL&&opensWell pw&&(frees PySem.Challenge.rw_xm0466_01.row.toRowW&&PySem.Challenge.rw_xm0466_01.row.within.isEmpty))=true:=by kernel_rfl
def Xx:defOf qL qb=some (dL,[]):=by kernel_rfl
def Xy:pw.theDef qb=some (dL.params,dL.body,dL.scope):=by kernel_rfl
def Xz:kwWritten? dL.params.kwonlyargs dL.params.kw_defaults=some []:=by kernel_rfl
def XA:pw.bare:=⟨rfl,rfl,rfl,rfl,rfl,by decide+kernel⟩
def XC:PySem.Challenge.rw_xm0466_01.row.toRowW.promised:=⟨[.list []],by decide+kernel,by decide+kernel⟩
def XD:(iC.map λf=>iT (cS Bw 60 (gQ (cQ f)) 40) (p0 (cQ f)))=iC.map λf=>(bv f).c:=by kernel_rfl
def XE{w:World}{h:Heap}{mg z:Str->Option Value}(c:(dg w.params).In h)(g:h.Ns mainGlobals mg)(b:h.Ns builtinsNs z)(u:h.NoLimit)(J:mT (fx w h mg z))(n:Nat):ux (fx w h mg z) (ai n) n:=
 Qh (JY c g b u) J (λf=>gQ (cQ f)) (λf=>p0 (cQ f)) (Xi c λQ=>rfl)
  (λB S f e1 Y H=>by
   have:=QF (B:=B) (S:=S) 60 40 (p0 (cQ f));rw[Y,H,BA XD (nW f)]at this;exact this) n
@[inline]abbrev BD:RowW:=PySem.Challenge.rw_xm0466_01.row.toRowW
def XF{args:List WData}(h:BD.claim.pre args=true):∃ns:List Int,args=[.list (ns.map .int)]/\ns.length<=63:=by
 obtain⟨h1,h2⟩:=pre_splitW h;obtain⟨d,r,rfl,h3,h4⟩:=hasAllW_cons h1;cases hasAllW_nil h4;obtain⟨xs,rfl,h5⟩:=hasW_list h3;obtain⟨ns,rfl⟩:=items_int h5;refine⟨ns,rfl,?_⟩;have e:BD.pre=.and (.not (.lt (.lit (.int 63)) (.len (.arg 0)))) (.lit (.bool true)):=rfl;rw[e]at h2;have k:decide ((63:Int) < ((ns.map WData.int).length:Int))=false:=by
  generalize q:decide ((63:Int) < ((ns.map WData.int).length:Int))=E
  induction E using aS with
  |false=>rfl|true=>
   have h2:(match(some (WData.bool (!decide ((63:Int) < ((ns.map WData.int).length:Int)))):Option WData)with
    |some (.bool false)=>some (WData.bool false)|some (.bool true)=>some (.bool true)|_=>none)=some (.bool true):=by
    revert h2;show(match(match(some (WData.bool (!decide ((63:Int) < ((ns.map WData.int).length:Int)))):Option WData)with
     |some (.bool false)=>some (WData.bool false)|some (.bool true)=>some (.bool true)|_=>none)with
     |some (.bool true)=>true|_=>false)=true->_
    rw[q];exact λh=>nomatch h
   rw[q]at h2;cases h2
 rw[bX]at k;have:=Cc k;exact "~18oJpcnu<c37EIFl" this
def XG{w:World}{h:Heap}{ω:Addr->Prop}{μ:Mu}{ns:List Int}:∀{vs:List Value},WellAll w.params h vs (ns.map .int)->b7 h ω μ (ns.map .j) vs:=by
 induction ns with
 |nil=>intro vs x;cases x;exact .nil|cons i ns ih=>
  intro vs x;obtain⟨v,o,e,h1,h2⟩:=wellAll_cons_inv x;obtain⟨t,a⟩:=Value.isInt_shape ((encInt pw w).is h1).1;rw[e,a];exact .cons (.int i t) (ih h2)
def XH{w:World}{s:Shared}{mg z:Str->Option Value}(c:(dg w.params).In s.heap)(g:s.heap.Ns mainGlobals mg)(b:s.heap.Ns builtinsNs z)(u:s.heap.NoLimit)(J:mT (fx w s.heap mg z))
  {ns:List Int} {vs:List Value} {L:Addr} (Y:ns.length<=63) (U:s.heap.get? L=some {cls:=.type "list",data:=.seq vs.toArray}) (B:WellAll w.params s.heap vs (ns.map .int)) {Q:Value->Shared->Prop} {E:Value->Shared->Prop}
  (q:∀s',(∀b o,s.heap.get? b=some o->s'.heap.get? b=some o)->s'.os=s.os->s'.gens=s.gens->Q (.bool true) s'):wpAny (model pw w) callerA (PySem.call (.ref (gP 74)) [.ref L]) Q E s:=by
 refine wpAny_call ?_;have no:∀a,¬ au [] [] a:=λa ⟨i,o,m,h,_⟩=>by simp at h
 have R:SR (fx w s.heap mg z) [] [] s.heap:=⟨λH H h=>h,rfl,λi m h=>by simp at h,λi j m m' H h=>by simp at h,λi o m h=>by simp at h⟩;refine XE c g b u J 167 74 callerA _ ⟨s,[],[]⟩ [.r (ns.map .j)] [.ref L] _ ⟨rfl,by decide,by decide⟩ R (.cons (.lst U (no L) (by rw[J5];exact XG B)) .nil) (VJ ns Y) λd' v x G r k=>?_;subst k;cases r;exact q d'.s G.j.k G.p.d G.p.e
def XI(J:∀w s mg z,(dg w.params).In (Shared.heap s)->mT (fx w s.heap mg z)){d:DefRec}(u:d.name=qb):WalkO qL p_ (λC C=>True) tA.says BD d [] λf vs=>PySem.call f vs:=by
 intro w k s₁ mg z G Y a o i L doc h j h1 h2 h3 h4 h5 H args Q as pre m reads g low;obtain⟨ns,rfl,U⟩:=XF pre;have c:(dg w.params).In s₁.heap:=Y;have st:=(JY c G.T.g G.T.b G.T.nolimit).b qb (.g 74) (by kernel_rfl);have I:a=gP 74:=by
  rw[u]at h5;have:=h5.symm.trans st;cases this;rfl
 subst I;cases g with
 |cons w1 w2=>cases w2 with
  |nil=>cases w1 with
   |list E B=>
    refine XH c G.T.g G.T.b G.T.nolimit (J w s₁ mg z c) U E B λs' keep os gens=>?_;exact⟨.inl ⟨_,_,[],rfl,λC=>rfl,ReadsW.bool true,by kernel_rfl,λC=>⟨iF,λC hm=>(nomatch hm)⟩⟩,OldK.of_keep keep,os,AllBare.of_eq (gens.trans H)⟩
end Mine.Lake.S
end
end
open PySem PySem.W PyProof.Rows
theorem PySem.Challenge.cw_xm0466_01_holds : PySem.Challenge.rw_xm0466_01.Holds :=
 holds_law Mine.Lake.Xq λk1=>holds_open (q:=Mine.Lake.qL) (loose:=Mine.Lake.p_) (Xt:=λJ=>true) (XP:=λJ J=>True) Mine.Lake.S.Xu Mine.Lake.S.tA.of Mine.Lake.S.tA.keeps (λJ J=>trivial) (λJ J J J J=>trivial) Mine.Lake.S.Xx Mine.Lake.S.Xy Mine.Lake.S.Xz
  (λJ J=>recFacts_nil rfl) rfl k1 Mine.Lake.S.Xw Mine.Lake.S.XA Mine.Lake.S.XC (Mine.Lake.S.XI (λw s mg z c=>Mine.Lake.S.Wv (Mine.Lake.S.JX c (Mine.Lake.S.JW w.params).1)) (by kernel_rfl))
