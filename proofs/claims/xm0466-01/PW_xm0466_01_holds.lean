import PyProof.Rows.All
import Open.Line
import Wide.FinOn
import OpenK.AllK
import Wide.All
import Lean
import PySem.Challenge.RW_xm0466_01
set_option Elab.async false
set_option linter.all false
set_option maxRecDepth 100000
set_option maxHeartbeats 0
set_option bootstrap.genMatcherCode false
set_option genSizeOf false
set_option compiler.extract_closed false
set_option compiler.reuse false
namespace Mine.Lake
@[elab_as_elim] theorem rwl{α:Sort _}{a b:α}{p:α->Prop}(h:a=b)(x:p b):p a:=h▸x
@[elab_as_elim] theorem rwr{α:Sort _}{a b:α}{p:α->Prop}(h:b=a)(x:p b):p a:=h▸x
theorem an2{A B G:Prop}(h:A/\B)(k:A->B->G):G:=k h.1 h.2
theorem an3{A B C G:Prop}(h:A/\B/\C)(k:A->B->C->G):G:=k h.1 h.2.1 h.2.2
theorem an4{A B C D G:Prop}(h:A/\B/\C/\D)(k:A->B->C->D->G):G:=an3 h.2 (k h.1)
theorem an5{A B C D E G:Prop}(h:A/\B/\C/\D/\E)(k:A->B->C->D->E->G):G:=an4 h.2 (k h.1)
theorem an6{A B C D E F G:Prop}(h:A/\B/\C/\D/\E/\F)(k:A->B->C->D->E->F->G):G:=an5 h.2 (k h.1)
theorem an7{A B C D E F H G:Prop}(h:A/\B/\C/\D/\E/\F/\H)(k:A->B->C->D->E->F->H->G):G:=an6 h.2 (k h.1)
theorem an8{A B C D E F H I G:Prop}(h:A/\B/\C/\D/\E/\F/\H/\I)(k:A->B->C->D->E->F->H->I->G):G:=an7 h.2 (k h.1)
theorem ex1{α:Sort _}{p:α->Prop}{G:Prop}(h:∃x,p x)(k:∀x,p x->G):G:=h.elim k
theorem ex2{α β:Sort _}{p:α->β->Prop}{G:Prop}(h:∃x y,p x y)(k:∀x y,p x y->G):G:=h.elim λx h=>h.elim (k x)
theorem ex3{α β a:Sort _}{p:α->β->a->Prop}{G:Prop}(h:∃x y z,p x y z)(k:∀x y z,p x y z->G):G:=h.elim λx h=>ex2 h (k x)
theorem ex4{α β a c:Sort _}{p:α->β->a->c->Prop}{G:Prop}(h:∃x y z w,p x y z w)(k:∀x y z w,p x y z w->G):G:=h.elim λx h=>ex3 h (k x)
theorem ex5{α β a c f:Sort _}{p:α->β->a->c->f->Prop}{G:Prop}(h:∃x y z w v,p x y z w v)(k:∀x y z w v,p x y z w v->G):G:=h.elim λx h=>ex4 h (k x)
end Mine.Lake
namespace Mine.Lake
open Lean
def dr(s:String)(l:List Syntax):Syntax:=.node .none s.toName l.toArray
def fv(s:String)(a b:Syntax):Syntax:=dr s [a,b]
def qA(s:String)(a b c:Syntax):Syntax:=dr s [a,b,c]
def iG(s:String):Syntax:=mkIdent s.toName
def qB(e:Syntax)(l:List Syntax):Syntax:=fv "Lean.Parser.Term.app" e (dr "null" l)
def qC(x:Syntax):MacroM Syntax:=bif x.isMissing then Macro.throwUnsupported else pure x
def qE(f:Syntax->Syntax):List Syntax->List Syntax
 |[]=>[]|a::l=>f a::qE f l
def qF(f e:Syntax):Syntax:=fv "Lean.Parser.Tactic.refine" e (qB f [e,fv "Lean.Parser.Term.syntheticHole" .missing .missing])
def Ck(l:List Syntax):Syntax:=fv "Lean.Parser.Tactic.first" .missing (dr "null" (qE (λt=>fv "null" t t) l))
def tN:List Syntax->Syntax
 |[]=>.missing|a::l=>qA "Lean.Parser.Tactic.«tactic_<;>_»" a .missing (tN l)
def k8:Syntax:=iG "zh"
def xm(s:String):Syntax:=fv ("Lean.Parser.Tactic." ++s) k8 (dr "null" [k8])
def Cm(p:Syntax):Syntax:=fv "null" (xm "intro") (dr "Lean.Parser.Tactic.obtain" [p,dr "null" [p],dr "null" [],fv "null" p (dr "null" [k8])])
def Cn(p:Syntax):Syntax:=qA "Lean.Parser.Tactic.rintro" p (dr "null" [p]) (dr "null" [])
def xn(p:Syntax):Bool:=p.getNumArgs==1&&p[0].isOfKind `Lean.Parser.Tactic.rcasesPat.tuple
def Ky(p:Syntax):Syntax:=bif xn p[0][0]then Cm p else Cn (dr "Lean.Parser.Tactic.rintroPat.one" [qA "Lean.Parser.Tactic.rcasesPat.paren" p p p])
def xo(e:Syntax)(ts:List Syntax):Nat->List Syntax
 |0=>[k8]|k+1=>
  let l:=ts.drop k
  let g:=iG s!"Mine.Lake.an{l.length}"
  bif k==0 then tN (qF g e::l)::xo e ts k
  else tN (qF (iG s!"Mine.Lake.ex{k}") e::ts.take k++bif l.length==1 then l else qA "null" (xm "intro") (qF g k8) (xm "clear")::l)::xo e ts k
def Kz(x:Syntax):Syntax:=
 let s:=x[2]
 let r:=s[1]
 let a:=r[0]
 let y (a:Array Syntax):Syntax:=x.setArg 2 (s.setArg 1 (mkNullNode a))
 bif x[3].getNumArgs+x[1][0].getNumArgs !=0 then .missing
 else bif r.getNumArgs !=1 then fv "null" (y #[a]) (y (r.getArgs.extract 2))
 else
  let f:=iG (bif a[0].getNumArgs==0 then "Mine.Lake.rwl" else "Mine.Lake.rwr")
  let e:=a[1]
  Ck [qF f (qB e [dr "Lean.Parser.Term.ellipsis" []]),qF f e,f]
def KC(x:Syntax):Syntax:=
 let m:=x[1][0][0]
 let l:=qE Ky m[0][1].getSepArgs.toList
 let n:=l.length
 bif x[2].getNumArgs==0&&x[3].getNumArgs !=0&&xn m&&Nat.ble 2 n&&Nat.ble n 8 then Ck (xo x[3][1][0] l (min n 6))else .missing
def Co(p:Syntax):Bool:=p.isOfKind `Lean.Parser.Tactic.rintroPat.one&&xn p
def Cp:List Syntax->Bool
 |[]=>false|a::l=>Co a||Cp l
def KD(x:Syntax):Syntax:=
 let l:=x[1].getArgs.toList
 bif Cp l&&x[2].getNumArgs==0 then tN (qE (λp=>bif Co p then Cm (dr "Lean.Parser.Tactic.rcasesPatMed" [dr "null" [p[0]]])else Cn p) l)else .missing
end Mine.Lake
open Lean Mine.Lake in
local macro_rules (kind:=Lean.Parser.Tactic.rewriteSeq)
 |x=>qC (Kz x)
open Lean Mine.Lake in
local macro_rules (kind:=Lean.Parser.Tactic.obtain)
 |x=>qC (KC x)
open Lean Mine.Lake in
local macro_rules (kind:=Lean.Parser.Tactic.rintro)
 |x=>qC (KD x)
namespace Mine.Lake
open Lean
def Sb(t x y:Nat):Prop:=y<=x/\x=t+y\/x<=y/\t=0
def Hf(t x:Nat):Prop:=2*t<=x/\x<=2*t+1
def Mn(t x y:Nat):Prop:=x<=y/\t=x\/y<=x/\t=y
def Mx(t x y:Nat):Prop:=x<=y/\t=y\/y<=x/\t=x
def fy(n:Nat):Nat×Nat:=
 bif Nat.blt (n % 16) 11 then(n % 16,n / 16)
 else bif Nat.beq (n % 16) 15 then(4194304,n / 16)
 else(λk=>((n / 16) % 16 ^ k,n / 16 / 16 ^ k)) ((n % 16 - 10)*(n % 16 - 9) / 2)
def xp(r:Nat->Nat->Syntax×Nat):List Char->Nat->List Syntax×Nat
 |[],m=>([],m)|k::l,m=>
  let x:=r (k.toNat % 16) m
  let y:=xp r l x.2
  (x.1::y.1,y.2)
def Cq:Nat->Nat->Nat->Syntax×Nat
 |0,_,n=>(.missing,n)|f+1,k,n=>
  let c:=n % 16
  let m:=n / 16
  let t:=iG (bif k==3 then "Nat" else "Int")
  let g (s:String) (l:List Syntax):=qB (fv "Lean.Parser.Term.explicit" t (iG s)) (t::l)
  let h:=dr "Lean.Parser.Term.hole" [t]
  bif Nat.ble 3 k then let a:=fy n;(g "OfNat.ofNat" [fv "rawNatLit" t (Syntax.mkNatLit a.1),h],a.2)
  else bif k==0&&c==15 then(iG s!"a{m % 16 + 11}",m / 16)
  else
   let p:=((("HAdd.hAdd,00 ,3 HMul.hMul,30 HMul.hMul,03 a0 a1 a2 a3 a4 a5 a6 a7 a8 a9 a10  HAdd.hAdd,11 ,4 HMul.hMul,41 HSub.hSub,11 Neg.neg,1 Nat.cast,0 a20 a21 a22 a23 a24 a25 a26 a27 a28 a29 LE.le,00 Eq,00 LE.le,11 Eq,11 False Not,2 And,22 Or,22 LT.lt,00 Mine.Lake.Sb,000 Mine.Lake.Hf,00 Mine.Lake.Mn,000 Mine.Lake.Mx,000".splitOn " ").getD (16*k+c) "").splitOn ",")
   let r:=xp (Cq f) (p.getD 1 "").toList m
   let s:=p.headD ""
   (bif s== "" then r.1.headD h else bif s== "Nat.cast" then g s (h::r.1)else qB (iG s) r.1,r.2)
def Cr(c:Char):List Char->Nat
 |[]=>0|a::l=>bif a==c then 0 else Cr c l+1
def Cs:List Char->Nat->Nat
 |[],n=>n|c::r,n=>Cs r (n*70+Cr c "0123456789;<=>?ABCDEFGHIJKLMNOPQRSTUVWXYZ_abcdefghijklmnopqrstuvwxyz|^".toList)
def Ct(t:Syntax):List Syntax->Syntax
 |[]=>t|h::l=>qA "Lean.Parser.Term.arrow" h t (Ct t l)
def Cu(o:Nat):Nat->List Syntax
 |0=>[]|k+1=>iG s!"a{o}" ::Cu (o+1) k
def Cv(t:String)(o k:Nat):Syntax:=dr "Lean.Parser.Term.strictImplicitBinder" [k8,dr "null" (Cu o k),fv "null" k8 (iG t),k8]
def KE(x:Syntax):Syntax:=
 match(x.isStrLit?.getD "").toList with
 |[]=>.missing|a::l=>
  bif a !='~' then .missing else
  let n:=Cs l 0
  let a:=fy n
  let q:=xp (Cq 99) (List.replicate (a.2 / 16 % 16+1) '2') (a.2 / 256)
  qB (iG "Mine.Lake.lie") [fv "rawNatLit" x (Syntax.mkNatLit n),dr "Lean.Parser.Term.forall" [x,fv "null" (Cv "Nat" 0 a.1) (Cv "Int" 20 (a.2 % 16)),dr "null" [],x,Ct (q.1.headD x) q.1.tail],fv "Lean.Parser.Term.byTactic" x (dr "tacticKernel_rfl" [x])]
end Mine.Lake
open Lean Mine.Lake in
local macro_rules (kind:=str)
 |x=>qC (KE x)
namespace Mine.Lake
open Lean
def Cw:Nat->Syntax->Syntax
 |0,x=>x
 |n+1,x=>match x with
  |.node _ k a=>.node .none k (qE (Cw n) a.toList).toArray|.atom _ s=>.atom .none s|.ident _ r v p=>.ident .none r v p|.missing=>.missing
def KG(x:Syntax):Syntax:=
 let m:=x[0]
 let d:=x[1]
 let c (s:String):=d.isOfKind (.str `Lean.Parser.Command s)
 let n:=x.setArg 0 ((m.setArg 1 mkNullNode).setArg 4 (dr "null" [dr "Lean.Parser.Command.noncomputable" [.atom .none "noncomputable"]]))
 bif m[4].getNumArgs !=0 then .missing
 else bif c "definition" then
  bif d[2][1].getNumArgs==0 then n else
  x.setArg 1 (dr "Lean.Parser.Command.theorem" [.atom .none "theorem",d[1],fv "Lean.Parser.Command.declSig" d[2][0] d[2][1][0],d[3]])
 else bif c "abbrev" then
  bif m[1].getNumArgs !=0 then n else n.setArg 1 (dr "Lean.Parser.Command.definition" [.atom .none "def",d[1],d[2],d[3],mkNullNode])
 else bif c "instance" then n
 else bif x.getPos?.isSome then Cw 9999 x
 else .missing
end Mine.Lake
open Lean Mine.Lake in
local macro_rules (kind:=Lean.Parser.Command.declaration)
 |x=>qC (KG x)
set_option genInjectivity false
set_option backward.match.sparseCases false
namespace Mine.Lake
def ab:=@if_neg
def ah:=@if_pos
def aj:=@PySem.wpAny_bind
def av:=@Nat.le_refl
def ay:=@Option.some.inj
def aA:=@List.prefix_refl
def aB:=@List.mem_singleton
def aE:=@congrArg
def aG:=@PySem.wpAny_pure
def aH:=@beq_iff_eq
def aJ:=@PyProof.Rows.wpS_bind
def aL:=@Nat.le_trans
def aZ:=@List.mem_append
def a8:=@PyProof.Rows.wpS_pure
def bb:=@Nat.zero_le
def bh:=@Bool.and_eq_true_iff
def bj:=@List.contains_iff_mem
def br:=@List.mem_cons_self
def bH:=@List.mem_cons
def bI:=@List.length_cons
def bP:=@Nat.le_of_ble_eq_true
def bW:=@List.getElem?_eq_some_iff
def bX:=@List.length_map
def b5:=@decide_eq_true
def b6:=@List.mem_cons_of_mem
def b_:=@List.append_nil
def ca:=@List.length_append
def cd:=@decide_eq_false
def cs:=@PySem.W.look_both
def cD:=@beq_eq_false_iff_ne
def cT:=@PySem.wpAny_standAt
def c7:=@List.append_assoc
def c8:=@List.mem_filter
def di:=@List.nil_append
def dq:=@PySem.wpAny_holding
def dz:=@List.mem_append_left
def dJ:=@Array.length_toList
def dK:=@List.length_nil
def dM:=@List.flatMap_cons
def dW:=@List.not_mem_nil
def dX:=@Bool.false_ne_true
def eb:=@List.mem_map
def el:=@List.all_eq_true
def eo:=@Bool.eq_false_iff
def er:=@Nat.le_add_right
def eJ:=@Array.getElem?_toList
def eS:=@List.map_cons
def eT:=@PyProof.Rows.wpS_mono
def fa:=@Int.le_trans
def fu:=@List.mem_flatMap
def fK:=@Nat.lt_of_le_of_lt
def fL:=@List.nodup_cons
def fM:=@Nat.mul_le_mul_right
def gg:=@PySem.Heap.get?_push_of_some
def gh:=@PyProof.Rows.wpS_forRange
def gS:=@Int.le_refl
def gU:=@PySem.wpAny_rule
def gV:=@Nat.le_of_eq
def gW:=@Array.toList_append
def gX:=@PySem.wpAny_mono
def gY:=@Nat.lt_of_lt_of_le
def iC:=@List.getElem?_eq_getElem
def iD:=@PySem.Heap.get?_push_size
def iE:=@List.nodup_nil
def iF:=@List.forall_mem_cons
def jb:=@List.length_set
def jc:=@PySem.Heap.lt_size
def jd:=@Bool.false_eq_true
def je:=@if_false
def jf:=@List.filter_cons
def jg:=@List.mem_append_right
def jh:=@List.flatMap_nil
def jN:=@beq_self_eq_true
def jO:=@Int.not_lt
def jP:=@Nat.le_of_lt
def jQ:=@List.length_filter_le
def jR:=@List.cons.inj
def kN:=@Int.le_of_lt
def kO:=@PySem.wpAny_field
def kP:=@List.map_append
def kQ:=@List.set_set
def kR:=@Nat.succ.inj
def kU:=@List.mem_of_getElem?
def kV:=@List.pairwise_cons
def kW:=@or_false
def kX:=@Nat.succ_mul
def kY:=@PyProof.Rows.wpS_get
def kZ:=@Nat.add_sub_cancel'
def mq:=@of_decide_eq_true
def ms:=@PySem.wpAny_of_eq
def mu:=@Bool.and_eq_true
def mv:=@List.lookup_cons
def mw:=@false_implies
def mx:=@implies_true
def my:=@and_true
def n4:=@List.getElem?_map
def n5:=@Nat.eq_of_beq_eq_true
def n6:=@PySem.wpAny_call_entry
def n7:=@Array.toList_push
def n8:=@List.getElem?_append_left
def n9:=@PySem.intKind_is
def n':=@Nat.ne_of_lt
def qe:=@congrFun
def qf:=@Function.comp_apply
def qg:=@Nat.zero_add
def qh:=@List.getElem?_set_self
def qi:=@List.getElem?_set_ne
def qj:=@PySem.sizeLine_eq
def qk:=@List.any_eq_true
def ql:=@List.map_map
def qm:=@Nat.lt_succ_of_le
def qn:=@Option.isSome_iff_exists
def qo:=@Nat.le_succ_of_le
def qp:=@if_true
def qr:=@Array.size_push
def qs:=@List.mem_iff_getElem?
def qt:=@List.map_nil
def qu:=@Bool.or_eq_false_iff
def qv:=@Bool.not_eq_true'
def qw:=@List.flatMap_append
def qx:=@List.take_append_drop
def qy:=@Array.toList_extract
def qz:=@List.extract_eq_take_drop
def tx:=@List.isEmpty_iff
def ty:=@Nat.add_assoc
def tz:=@Nat.lt_irrefl
def tA:=@PySem.strKind_is
def tB:=@Nat.le_succ
def tC:=@List.take_of_length_le
def tD:=@List.any_cons
def tE:=@List.getElem?_drop
def tF:=@Nat.not_lt
def tG:=@Bool.or_eq_true
def tH:=@Nat.one_le_pow
def tI:=@Nat.one_mul
def tJ:=@Nat.le_mul_of_pos_left
def tK:=@Nat.zero_lt_one
def tL:=@List.reverse_append
def tM:=@List.mem_reverse
def wU:=@Int.natCast_nonneg
def wV:=@Nat.le_total
def wW:=@Nat.le_of_lt_succ
def wX:=@Nat.succ_le_succ
def wY:=@PySem.wpAny_callSpecial?_slot
def wZ:=@PySem.wpAny_newObj_type
def w7:=@List.length_eq_zero_iff
def w8:=@PySem.Heap.get?_update_self
def w9:=@PySem.Heap.get?_update_ne
def w_:=@List.map_congr_left
def xa:=@Array.getElem?_eq_getElem
def xc:=@List.filter_eq_nil_iff
def xd:=@Nat.ne_of_gt
def xe:=@Bool.or_false
def xf:=@List.getElem?_take
def xg:=@Nat.le_add_left
def xh:=@Nat.pow_succ
def xj:=@decide_eq_true_iff
def xk:=@Nat.le_of_succ_le
def xl:=@PyProof.Rows.K_mirror_equal
def BG:=@Int.ofNat_inj
def BH:=@Nat.min_eq_left
def BI:=@Nat.min_eq_right
def BJ:=@Nat.max_eq_right
def BK:=@Int.toNat_of_nonneg
def BL:=@List.take_nil
def BM:=@List.drop_nil
def BN:=@PySem.F.slot_tuple_hash
def BO:=@PySem.wpAny_isInstance
def BP:=@Nat.le_of_succ_le_succ
def BQ:=@Nat.le_antisymm
def BR:=@Nat.le_of_not_lt
def BS:=@Int.not_le
def BU:=@PySem.F.slot_tuple_getitem
def BV:=@List.size_toArray
def BW:=@Bool.and_false
def BX:=@PySem.wpAny_attempt
def BY:=@PySem.F.plain_any_loop
def BZ:=@List.nodup_append
def B0:=@PySem.wpAny_operating
def B3:=@PySem.arm_eval_BoolOp
def B4:=@List.all_cons
def B5:=@PySem.Calls.spliced_cons
def B6:=@PySem.arm_eval_Call_Name'
def B7:=@PySem.wpAny_release
def B8:=@PySem.wpAny_execs_nil
def B9:=@Bool.or_eq_true_iff
def B':=@Nat.not_lt_zero
def B_:=@List.contains_cons
def Ca:=@Nat.zero_mul
def Cb:=@Nat.mul_comm
def Cc:=@of_decide_eq_false
def Cd:=@List.pairwise_append
def Ce:=@List.drop_drop
def Cf:=@Array.size_append
def Cg:=@List.reverse_reverse
def Ch:=@Nat.pos_of_ne_zero
def Ci:=@Nat.add_le_add_left
def JV:=@Classical.byContradiction
def JW:=@Nat.sub_add_cancel
def JX:=@PySem.Str.ofString_eq_toList
def JY:=@List.cons.injEq
def JZ:=@decide_eq_decide
def J0:=@PySem.wpAny_isNot_plain
def J1:=@List.toList_toArray
def J2:=@Array.toList_setIfInBounds
def J3:=@PySem.Calls.spliced_nil
def J4:=@PySem.Calls.evalArgs_plain
def J5:=@PySem.F.plainAttrs_list
def J8:=@Nat.lt_succ_self
def J9:=@Nat.not_succ_le_zero
def J':=@List.take_length
def J_:=@List.getElem?_append_right
def Ka:=@List.length_drop
def Kb:=@List.length_eq_one_iff
def Kd:=@List.filter_nil
def Kf:=@Nat.lt_succ_of_lt
def Kh:=@List.length_singleton
def Ki:=@List.take_succ_cons
def Kj:=@List.drop_eq_getElem_cons
def Kk:=@Nat.eq_or_lt_of_le
def Km:=@List.pairwise_iff_getElem
def Kn:=@Nat.add_lt_add_left
def Kq:=@Array.toList_reverse
def Kr:=@List.reverse_perm
def Kt:=@List.pairwise_reverse
def Ku:=@List.take_zero
def Kv:=@List.length_take
def Kw:=@Array.perm_iff_toList_perm
def Kx:=@Int.le_antisymm
def XC:=@List.getElem?_concat_length
def XD:=@Option.isNone_iff_eq_none
def XE:=@Int.fmod_eq_emod_of_nonneg
def XF:=@Nat.lt_of_add_lt_add_left
def bo:=@List.casesOn
def aX:=@Option.casesOn
def dN:=@Nat.casesOn
def aS:=@Bool.casesOn
def eK:=@PySem.Expr.casesOn
def Cj:=@PySem.Value.casesOn
set_option genCtorIdx false
inductive LX where |v (i:Nat) |k (n:Nat) |a (x y:LX) |m (n:Nat) (x:LX) |r (x:LX) (n:Nat)
inductive IX where |v (i:Nat) |k (n:Nat) |a (x y:IX) |s (x y:IX) |g (x:IX) |m (n:Nat) (x:IX) |u (x:LX)
inductive LF where |le (x y:LX) |eq (x y:LX) |il (x y:IX) |ie (x y:IX) |ff |no (p:LF) |an (p q:LF) |or (p q:LF)
structure Lv where
 c:List Nat
 d:List Int
section
abbrev LX.d(c:List Nat):LX->Nat
 |.v i=>c[i]?.getD 0|.k n=>n|.a x y=>x.d c+y.d c|.m n x=>n*x.d c|.r x n=>x.d c*n
abbrev IX.d(e:Lv):IX->Int
 |.v i=>e.d[i]?.getD 0|.k n=>n|.a x y=>x.d e+y.d e|.s x y=>x.d e - y.d e|.g x=>- x.d e|.m n x=>n*x.d e|.u x=>(x.d e.c:Nat)
abbrev LF.d(e:Lv):LF->Prop
 |.le x y=>x.d e.c<=y.d e.c|.eq x y=>x.d e.c=y.d e.c|.il x y=>x.d e<=y.d e|.ie x y=>x.d e=y.d e|.ff=>False|.no p=>¬ p.d e|.an p q=>p.d e/\q.d e|.or p q=>p.d e\/q.d e
@[inline]abbrev LL:=List Int×List Int
abbrev mz:List Int->List Int->List Int
 |[]=>λy=>y
 |a::x=>λy=>match y with |[]=>a::x |b::y=>(a+b)::mz x y
abbrev k9(x y:LL):LL:=(mz x.1 y.1,mz x.2 y.2)
abbrev k_(k:Int)(x:LL):LL:=(x.1.map (k*·),x.2.map (k*·))
abbrev qG(i:Nat):List Int:=List.replicate i 0++[1]
abbrev LX.l:LX->LL
 |.v i=>(0::qG i,[])|.k n=>([(n:Int)],[])|.a x y=>k9 x.l y.l|.m n x=>k_ n x.l|.r x n=>k_ n x.l
abbrev IX.l:IX->LL
 |.v i=>([],qG i)|.k n=>([(n:Int)],[])|.a x y=>k9 x.l y.l|.s x y=>k9 x.l (k_ (-1) y.l)|.g x=>k_ (-1) x.l|.m n x=>k_ n x.l|.u x=>x.l
abbrev cY:List Int->List Int->Int
 |[]=>λJ=>0
 |a::x=>λc=>a*(c.headD 0)+cY x c.tail
abbrev Lv.e(e:Lv)(x:LL):Int:=cY x.1 (1::e.c.map λ(n:Nat)=>(n:Int))+cY x.2 e.d
def Cy(x:List Int):∀y c,cY (mz x y) c=cY x c+cY y c:=by
 induction x with
 |nil=>exact λy c=>(Int.zero_add _).symm|cons a x ih=>
  intro y c;cases y with
  |nil=>exact(Int.add_zero _).symm|cons b y=>
   show(a+b)*_+cY (mz x y) c.tail=a*_+cY x c.tail+(b*_+cY y c.tail);rw[ih,Int.add_mul];omega
def Cz(k:Int)(x:List Int):∀c,cY (x.map (k*·)) c=k*cY x c:=by
 induction x with
 |nil=>exact λc=>(Int.mul_zero k).symm|cons a x ih=>
  intro c;show k*a*_+cY (x.map (k*·)) c.tail=k*(a*_+cY x c.tail);rw[ih,Int.mul_add,Int.mul_assoc]
def CA(i:Nat):∀c,cY (qG i) c=c[i]?.getD 0:=by
 induction i with
 |zero=>
  intro c;cases c with
  |nil=>rfl|cons a c=>show 1*a+0=a;omega
 |succ i ih=>
  intro c;show 0*_+cY (qG i) c.tail=_;rw[ih,Int.zero_mul,Int.zero_add];cases c <;>rfl
variable{e:Lv}
def Lv.add(x y:LL):e.e (k9 x y)=e.e x+e.e y:=by
 show cY (mz _ _) _+cY (mz _ _) _=cY _ _+cY _ _+(cY _ _+cY _ _);rw[Cy,Cy];omega
def Lv.sc(k:Int)(x:LL):e.e (k_ k x)=k*e.e x:=by
 show cY (List.map _ _) _+cY (List.map _ _) _=k*(cY _ _+cY _ _);rw[Cz,Cz,Int.mul_add]
def CB(n:Nat):e.e ([(n:Int)],[])=n:=by
 show(n:Int)*1+0+0=n;omega
def qH(x:LX):e.e x.l=(x.d e.c:Nat):=by
 induction x with
 |v i=>
  show 0*1+cY (qG i) (e.c.map _)+0=(((e.c)[i]?.getD 0:Nat):Int);rw[CA,n4];cases(e.c)[i]? <;>simp
 |k n=>exact CB n|a x y ih c=>exact(Lv.add ..).trans (by rw[ih,c];rfl)|m n x ih=>exact(Lv.sc ..).trans (by rw[ih];rfl)|r x n ih=>exact(Lv.sc ..).trans (by rw[ih,Int.mul_comm];rfl)
def tP(x:IX):e.e x.l=x.d e:=by
 induction x with
 |v i=>exact(Int.zero_add _).trans (CA i e.d)|k n=>exact CB n|a x y ih c=>exact(Lv.add ..).trans (by rw[ih,c];rfl)|s x y ih c=>exact(Lv.add ..).trans (by rw[Lv.sc,ih,c];show _=x.d e - y.d e;omega)|g x ih=>exact(Lv.sc ..).trans (by rw[ih];show _=- x.d e;omega)|m n x ih=>exact(Lv.sc ..).trans (by rw[ih];rfl)|u x=>exact qH x
abbrev n_(x y:LL):LL:=k9 y (k_ (-1) x)
abbrev qI(x y:LL):LL:=k9 (n_ x y) ([-1],[])
def tQ(x y:LL):e.e (n_ x y)=e.e y - e.e x:=by
 unfold n_;rw[Lv.add,Lv.sc];omega
def xq(x y:LL):e.e (qI x y)=e.e y - e.e x - 1:=by
 unfold qI;rw[Lv.add,tQ];show _+(-1*1+0+0)=_;omega
abbrev mB(b:Bool)(p:Prop):Prop:=match b with |true=>p |false=>¬ p
@[inline]abbrev mo:=List (Bool×LF)×List LL
abbrev od(x y:LL)(q:Bool)(b:Bool):List mo:=match q with
 |false=>(match b with |true=>[([],[n_ x y])] |false=>[([],[qI y x])])
 |true=>(match b with |true=>[([],[n_ x y,n_ y x])] |false=>[([],[qI x y]),([],[qI y x])])
abbrev LF.x:LF->Bool->List mo
 |.le x y=>od x.l y.l false|.eq x y=>od x.l y.l true|.il x y=>od x.l y.l false|.ie x y=>od x.l y.l true|.ff=>λb=>match b with |true=>[] |false=>[([],[])]
 |.no p=>λb=>[([(!b,p)],[])]
 |.an p q=>λb=>match b with |true=>[([(b,p),(b,q)],[])] |false=>[([(b,p)],[]),([(b,q)],[])]
 |.or p q=>λb=>match b with |false=>[([(b,p),(b,q)],[])] |true=>[([(b,p)],[]),([(b,q)],[])]
abbrev mC(e:Lv)(a:mo):Prop:=(∀t∈a.1,mB t.1 (t.2.d e))/\∀f∈a.2,0<=e.e f
def CC{x y:LL}{P:Prop}(h:P↔e.e x<=e.e y)(b:Bool)(J:mB b P):∃a∈od x y false b,mC e a:=by
 cases b with
 |true=>exact⟨_,.head _,nofun,λf hf=>by rw[aB.mp hf,tQ];have:=h.mp J;omega⟩|false=>exact⟨_,.head _,nofun,λf hf=>by rw[aB.mp hf,xq];have:=mt h.mpr J;omega⟩
def CD{x y:LL}{P:Prop}(h:P↔e.e x=e.e y)(b:Bool)(J:mB b P):∃a∈od x y true b,mC e a:=by
 cases b with
 |true=>exact⟨_,.head _,nofun,λf hf=>by
   have:=h.mp J;rcases bH.mp hf with hf |hf
   .rw[hf,tQ];omega
   .rw[aB.mp hf,tQ];omega⟩
 |false=>
  have:=mt h.mpr J;by_cases Y:e.e x < e.e y
  .exact⟨_,.head _,nofun,λf hf=>by rw[aB.mp hf,xq];omega⟩
  .exact⟨_,.tail _ (.head _),nofun,λf hf=>by rw[aB.mp hf,xq];omega⟩
def qJ{b:Bool}{p:LF}(h:mB b (p.d e)):mC e ([(b,p)],[]):=⟨λt i=>by rw[aB.mp i];exact h,nofun⟩
def CF{b:Bool}{p q:LF}(h:mB b (p.d e))(k:mB b (q.d e)):mC e ([(b,p),(b,q)],[]):=⟨λt i=>(bH.mp i).elim (λi=>by rw[i];exact h) λi=>by rw[aB.mp i];exact k,nofun⟩
def LF.KH(p:LF)(b:Bool)(h:mB b (p.d e)):∃a∈p.x b,mC e a:=by
 cases p with
 |le x y=>exact CC (by rw[qH,qH];exact Int.ofNat_le.symm) b h|eq x y=>exact CD (by rw[qH,qH];exact BG.symm) b h|il x y=>exact CC (by rw[tP,tP];exact Iff.rfl) b h|ie x y=>exact CD (by rw[tP,tP];exact Iff.rfl) b h|ff=>cases b with |true=>exact h.elim |false=>exact⟨_,.head _,nofun,nofun⟩
 |no p=>exact⟨_,.head _,qJ (by cases b with |true=>exact h |false=>exact Classical.not_not.mp h)⟩|an p q=>
  cases b with
  |true=>exact⟨_,.head _,CF h.1 h.2⟩|false=>
   by_cases J:p.d e
   .exact⟨_,.tail _ (.head _),qJ λL=>h ⟨J,L⟩⟩
   .exact⟨_,.head _,qJ J⟩
 |or p q=>
  cases b with
  |false=>exact⟨_,.head _,CF (λk=>h (.inl k)) λk=>h (.inr k)⟩|true=>exact Or.elim h (λk=>⟨_,.head _,qJ k⟩) λk=>⟨_,.tail _ (.head _),qJ k⟩
abbrev BF:List LL->List Nat->LL
 |[]=>λJ=>([-1],[])
 |f::r=>λI=>k9 (k_ (-(I.headD 0:Nat)) f) (BF r I.tail)
abbrev CG(x:LL):Bool:=x.1.all (λa=>decide (0<=a))&&x.2.all λa=>decide (a=0)
def KJ(fs:List LL):∀I,(∀f∈fs,0<=e.e f)->e.e (BF fs I)<=-1:=by
 induction fs with
 |nil=>intro I _;show -1*1+0+0<=(-1:Int);omega|cons f r ih=>
  intro I h;show e.e (k9 _ _)<=_;rw[Lv.add,Lv.sc];have h1:=ih I.tail λf hf=>h f (.tail _ hf);have h2:=Int.mul_nonneg (wU (I.headD 0)) (h f (.head _));rw[Int.neg_mul];omega
def KL{x c:List Int}:(∀a∈x,0<=a)->(∀a∈c,0<=a)->0<=cY x c:=by
 induction x generalizing c with
 |nil=>exact λJ J=>gS 0|cons a x ih=>
  intro h k;refine Int.add_nonneg (Int.mul_nonneg (h a (.head _)) ?_) (ih (λb q=>h b (.tail _ q)) λb q=>k b (List.mem_of_mem_tail q));cases c with
  |nil=>exact gS 0|cons b c=>exact k b (.head _)
def KO{x:List Int}:∀{c:List Int},(∀a∈x,a=0)->cY x c=0:=by
 induction x with
 |nil=>exact λJ=>rfl|cons a x ih=>
  intro c h;show a*_+cY x c.tail=0;rw[h a (.head _),ih λb q=>h b (.tail _ q),Int.zero_mul];rfl
def KP(x:LL)(h:CG x=true):0<=e.e x:=by
 have h:=bh.mp h;refine Int.add_nonneg (KL (λa q=>mq (el.mp h.1 a q)) λa q=>?_) (Int.le_of_eq (KO λa q=>mq (el.mp h.2 a q)).symm);rcases bH.mp q with q |q
 .rw[q];decide
 .obtain⟨n,_,rfl⟩:=eb.mp q;exact wU n
@[inline]abbrev Rf:=List Nat->Bool×List Nat
abbrev qK(i:mo->Rf):List mo->Rf
 |[]=>λI=>(true,I)
 |a::r=>λI=>match(i a I).1 with |true=>qK i r (i a I).2 |false=>(false,[])
abbrev xr:Nat->List (Bool×LF)->List LL->Rf
 |0=>λJ J I=>(false,I)
 |n+1=>λt fs=>match t with
  |[]=>λI=>(CG (BF fs I),I.drop fs.length)
  |q::t=>qK (λa=>xr n (a.1++t) (a.2++fs)) (q.2.x q.1)
def KQ{i:mo->Rf}{P:mo->Prop}(h:∀a I,(i a I).1=true->P a)(l:List mo):∀I,(qK i l I).1=true->∀a∈l,P a:=by
 induction l with
 |nil=>exact λJ J=>nofun|cons a r ih=>
  intro I U;cases q:(i a I).1 with
  |false=>exact absurd (show(match(i a I).1 with |true=>qK i r (i a I).2 |false=>(false,([]:List Nat))).1=true from U) (by rw[q];exact nofun)|true=>
   have U:(match(i a I).1 with |true=>qK i r (i a I).2 |false=>(false,([]:List Nat))).1=true:=U;rw[q]at U;exact λb T=>(bH.mp T).elim (λB=>B▸h a I q) (ih _ U b)
def KR(n:Nat):∀t fs I,(xr n t fs I).1=true->¬ mC e (t,fs):=by
 induction n with
 |zero=>exact λJ J J h=>nomatch h|succ n ih=>
  intro t fs I h ⟨h1,h2⟩;cases t with
  |nil=>
   have a:=KP (e:=e) _ h;have b:=KJ fs I h2;omega
  |cons q t=>
   obtain⟨a,G,k1,k2⟩:=q.2.KH q.1 (h1 q (.head _));refine KQ (P:=λa=>¬ mC e (a.1++t,a.2++fs)) (λa I k=>ih _ _ I k) _ I h a G ⟨λx H=>?_,λx H=>?_⟩
   .exact(aZ.mp H).elim (k1 x) λH=>h1 x (.tail _ H)
   .exact(aZ.mp H).elim (k2 x) (h2 x)
abbrev xt(g:LF):List LF->Lv->Prop
 |[]=>λe=>g.d e
 |f::r=>λe=>f.d e->xt g r e
abbrev xu(P:Lv->Prop):Nat->Lv->Prop
 |0=>P|n+1=>λe=>∀{x:Int},xu P n ⟨e.c,e.d++[x]⟩
abbrev xv(P:Lv->Prop):Nat->Lv->Prop
 |0=>P|n+1=>λe=>∀{x:Nat},xv P n ⟨e.c++[x],e.d⟩
def KU(g:LF)(N:List LF):((∀f∈N,f.d e)->g.d e)->xt g N e:=by
 induction N with
 |nil=>exact λq=>q nofun|cons f r ih=>exact λq h=>ih λk=>q λx H=>(bH.mp H).elim (λq=>q▸h) (k x)
def KW{P:Lv->Prop}(h:∀e,P e)(n:Nat):∀e,xu P n e:=by
 induction n with
 |zero=>exact h|succ n ih=>exact λe x=>ih _
def KX{P:Lv->Prop}(h:∀e,P e)(n:Nat):∀e,xv P n e:=by
 induction n with
 |zero=>exact h|succ n ih=>exact λe x=>ih _
abbrev eU:Nat->Nat->LX×Nat
 |0=>λn=>(.k 0,n)
 |f+1=>λn=>bif Nat.ble 4 (n % 16)then(bif Nat.beq (n % 16) 15 then(.v (n / 16 % 16+11),n / 256)else(.v (n % 16 - 4),n / 16))
  else bif Nat.beq (n % 16) 0 then(.a (eU f (n / 16)).1 (eU f (eU f (n / 16)).2).1,(eU f (eU f (n / 16)).2).2)
  else bif Nat.beq (n % 16) 1 then(.k (fy (n / 16)).1,(fy (n / 16)).2)
  else bif Nat.beq (n % 16) 2 then(.m (fy (n / 16)).1 (eU f (fy (n / 16)).2).1,(eU f (fy (n / 16)).2).2)
  else(.r (eU f (n / 16)).1 (fy (eU f (n / 16)).2).1,(fy (eU f (n / 16)).2).2)
abbrev fz:Nat->Nat->IX×Nat
 |0=>λn=>(.k 0,n)
 |f+1=>λn=>bif Nat.ble 6 (n % 16)then(.v (n % 16 - 6),n / 16)
  else bif Nat.beq (n % 16) 0 then(.a (fz f (n / 16)).1 (fz f (fz f (n / 16)).2).1,(fz f (fz f (n / 16)).2).2)
  else bif Nat.beq (n % 16) 1 then(.k (fy (n / 16)).1,(fy (n / 16)).2)
  else bif Nat.beq (n % 16) 2 then(.m (fy (n / 16)).1 (fz f (fy (n / 16)).2).1,(fz f (fy (n / 16)).2).2)
  else bif Nat.beq (n % 16) 3 then(.s (fz f (n / 16)).1 (fz f (fz f (n / 16)).2).1,(fz f (fz f (n / 16)).2).2)
  else bif Nat.beq (n % 16) 4 then(.g (fz f (n / 16)).1,(fz f (n / 16)).2)
  else(.u (eU 99 (n / 16)).1,(eU 99 (n / 16)).2)
abbrev mD{α:Type}(r:Nat->α×Nat)(g:α->α->LF)(n:Nat):LF×Nat:=(g (r n).1 (r (r n).2).1,(r (r n).2).2)
abbrev KY(k n:Nat):LF×Nat:=(λt=>(λx=>bif Nat.beq k 10 then(.an (.le (.m 2 t.1) x.1) (.le x.1 (.a (.m 2 t.1) (.k 1))),x.2)
 else(λy=>(bif Nat.beq k 9 then .or (.an (.le y.1 x.1) (.eq x.1 (.a t.1 y.1))) (.an (.le x.1 y.1) (.eq t.1 (.k 0)))
  else bif Nat.beq k 11 then .or (.an (.le x.1 y.1) (.eq t.1 x.1)) (.an (.le y.1 x.1) (.eq t.1 y.1))
  else .or (.an (.le x.1 y.1) (.eq t.1 y.1)) (.an (.le y.1 x.1) (.eq t.1 x.1)),y.2)) (eU 99 x.2)) (eU 99 t.2)) (eU 99 n)
abbrev oe:Nat->Nat->LF×Nat
 |0=>λn=>(.ff,n)
 |f+1=>λn=>bif Nat.beq (n % 16) 0 then mD (eU 99) .le (n / 16)else bif Nat.beq (n % 16) 1 then mD (eU 99) .eq (n / 16)
  else bif Nat.beq (n % 16) 2 then mD (fz 99) .il (n / 16)else bif Nat.beq (n % 16) 3 then mD (fz 99) .ie (n / 16)
  else bif Nat.beq (n % 16) 4 then(.ff,n / 16)else bif Nat.beq (n % 16) 5 then(.no (oe f (n / 16)).1,(oe f (n / 16)).2)
  else bif Nat.beq (n % 16) 6 then mD (oe f) .an (n / 16)else bif Nat.beq (n % 16) 7 then mD (oe f) .or (n / 16)
  else bif Nat.ble 9 (n % 16)then KY (n % 16) (n / 16)
  else mD (eU 99) (λx y=>.le (.a x (.k 1)) y) (n / 16)
abbrev tR{α:Type}(r:Nat->α×Nat):Nat->Nat->List α×Nat
 |0=>λn=>([],n)
 |k+1=>λn=>((r n).1::(tR r k (r n).2).1,(tR r k (r n).2).2)
abbrev xw(a c:Nat)(g:LF)(N:List LF×Nat):Prop×Bool:=
 (xv (xu (xt g N.1) c) a ⟨[],[]⟩,(xr 99 ((false,g)::N.1.map λf=>(true,f)) [] (tR fy 399 N.2).1).1)
abbrev CH(n:Nat):Prop×Bool:=(λa=>(λg=>xw a.1 (a.2 % 16) g.1 (tR (oe 99) (a.2 / 16 % 16) g.2)) (oe 99 (a.2 / 256))) (fy n)
abbrev KZ(n:Nat):Bool:=(CH n).2
def K0{a c:Nat}{g:LF}{N:List LF×Nat}(h:(xw a c g N).2=true):(xw a c g N).1:=by
 refine KX (λe=>KW (λe=>KU _ _ λk=>?_) _ e) _ _;refine JV λq=>KR (e:=e) _ _ _ _ h ⟨λt ht=>?_,nofun⟩;rcases bH.mp ht with ht |ht
 .rw[ht];exact q
 .obtain⟨f,hf,rfl⟩:=eb.mp ht;exact k f hf
def ao{x y:Nat}:y<=x/\x=x - y+y\/x<=y/\x - y=0:=(wV y x).imp (λh=>⟨h,(JW h).symm⟩) λh=>⟨h,Nat.sub_eq_zero_of_le h⟩
def gZ{x:Nat}:2*(x / 2)<=x/\x<=2*(x / 2)+1:=⟨Nat.mul_div_le x 2,wW (Nat.lt_mul_div_succ x (by decide:0 < 2))⟩
def fb{x y:Nat}:x<=y/\min x y=x\/y<=x/\min x y=y:=(wV x y).imp (λh=>⟨h,BH h⟩) λh=>⟨h,BI h⟩
def qM{x y:Nat}:x<=y/\max x y=y\/y<=x/\max x y=x:=(wV x y).imp (λh=>⟨h,BJ h⟩) λh=>⟨h,Nat.max_eq_left h⟩
def og{x:Int}:0<=x/\(x.toNat:Int)=x\/x<=0/\x.toNat=0:=(Int.le_total 0 x).imp (λh=>⟨h,BK h⟩) λh=>⟨h,Int.toNat_of_nonpos h⟩
def lie(n:Nat)(P:Prop)(h:CH n=(P,true)):P:=by
 have:=K0 (show KZ n=true from aE Prod.snd h);rw[<-show _=P from aE Prod.fst h];exact this
end
end Mine.Lake
set_option genInjectivity true
set_option tactic.hygienic false
set_option genCtorIdx false
section
namespace Mine.Lake
inductive V where
 |z |w (b:Bool) |j (i:Int) |u (s:String) |p (l:List V) |r (l:List V) |o (i:Nat)
abbrev V.ctorIdx(x:V):Nat:=@V.casesOn (λJ=>Nat) x 0 (λJ=>1) (λJ=>2) (λJ=>3) (λJ=>4) (λJ=>5) λJ=>6
instance:Inhabited V:=⟨.z⟩
abbrev V.gi(x:V):Int:=@V.casesOn (λJ=>Int) x 0 (λb=>cond b 1 0) (λi=>i) (λJ=>0) (λJ=>0) (λJ=>0) Int.ofNat
abbrev V.gs(x:V):String:=@V.casesOn (λJ=>String) x "" (λJ=> "") (λJ=> "") (λs=>s) (λJ=> "") (λJ=> "") λJ=> ""
abbrev V.gl(x:V):List V:=@V.casesOn (λJ=>List V) x [] (λJ=>[]) (λJ=>[]) (λJ=>[]) (λl=>l) (λl=>l) λJ=>[]
abbrev V.mk(k:Nat)(i:Int)(s:String)(l:List V):V:=[V.z,.w (i==1),.j i,.u s,.p l,.r l,.o i.toNat].getD k .z
def V.mk_eq(b:V):V.mk b.ctorIdx b.gi b.gs b.gl=b:=by
 induction b using V.casesOn with
 |w b=>induction b <;>rfl|_=>rfl
abbrev V.same(a b:V):Bool:=Nat.beq a.ctorIdx b.ctorIdx&&(decide (a.gi=b.gi)&&decide (a.gs=b.gs))
def V.qO{a b:V}(h:a.same b=true):V.mk a.ctorIdx a.gi a.gs b.gl=b:=by
 have h:=bh.mp h;have k:=bh.mp h.2;rw[n5 h.1,mq k.1,mq k.2];exact b.mk_eq
def V.same_refl(a:V):a.same a=true:=bh.mpr ⟨Nat.beq_refl _,bh.mpr ⟨b5 rfl,b5 rfl⟩⟩
mutual
noncomputable def V.beq:V->V->Bool
 |.p a=>λb=>Nat.beq b.ctorIdx 4&&V.lb a b.gl
 |.r a=>λb=>Nat.beq b.ctorIdx 5&&V.lb a b.gl
 |a=>a.same
noncomputable def V.lb:List V->List V->Bool
 |[]=>List.isEmpty|a::as=>λb=>b.head?.any (V.beq a)&&V.lb as b.tail
end
def V.tS(a:V):(∀b,V.beq a b=true->a=b)/\V.beq a a=true:=by
 refine@V.rec (λa=>(∀b,V.beq a b=true->a=b)/\V.beq a a=true) (λl=>(∀m,V.lb l m=true->l=m)/\V.lb l l=true) ?_ ?_ ?_ ?_ ?_ ?_ ?_ ?_ ?_ a
 .exact⟨λb h=>V.qO (a:=.z) h,V.same_refl _⟩
 .intro x;refine⟨λb h=>?_,V.same_refl _⟩
  have:=V.qO (a:=.w x) h
  induction x <;>exact this
 .exact λx=>⟨λb h=>V.qO (a:=.j x) h,V.same_refl _⟩
 .exact λx=>⟨λb h=>V.qO (a:=.u x) h,V.same_refl _⟩
 .intro l ih;refine⟨λb h=>?_,bh.mpr ⟨rfl,ih.2⟩⟩
  have h:=bh.mp h;rw[ih.1 _ h.2,<-V.mk_eq b,n5 h.1];rfl
 .intro l ih;refine⟨λb h=>?_,bh.mpr ⟨rfl,ih.2⟩⟩
  have h:=bh.mp h;rw[ih.1 _ h.2,<-V.mk_eq b,n5 h.1];rfl
 .exact λx=>⟨λb h=>V.qO (a:=.o x) h,V.same_refl _⟩
 .exact⟨λm h=>(tx.mp h).symm,rfl⟩
 .intro x l h k;refine⟨λm q=>?_,bh.mpr ⟨h.2,k.2⟩⟩
  have q:=bh.mp q
  induction m using bo with
  |nil=>exact nomatch q.1|cons y m=>rw[h.1 y q.1,k.1 m q.2]
def V.xx(l m:List V):V.lb l m=true↔l=m:=by
 refine⟨λh=>?_,λh=>?_⟩
 .induction l generalizing m with
  |nil=>exact(tx.mp h).symm|cons x l ih=>
   have q:=bh.mp h
   induction m using bo with
   |nil=>exact nomatch q.1|cons y m=>rw[x.tS.1 y q.1,ih m q.2]
 .induction h
  induction l with
  |nil=>rfl|cons x l ih=>exact bh.mpr ⟨x.tS.2,ih⟩
instance:DecidableEq V:=λa b=>if h:V.beq a b=true then isTrue (a.tS.1 b h)else isFalse λe=>h (e▸a.tS.2)
mutual
noncomputable def V.pure:V->Bool
 |.o _=>false|.p l=>V.eV l|.r l=>V.eV l|_=>true
noncomputable def V.eV:List V->Bool
 |[]=>true|a::as=>V.pure a&&V.eV as
end
mutual
noncomputable def cb:V->V->Bool
 |.z=>λb=>match b with |.z=>true |_=>false
 |.w a=>λb=>match b with |.w b=>a==b |.j b=>(if a then 1 else 0)==b |_=>false
 |.j a=>λb=>match b with |.j b=>a==b |.w b=>a==(if b then 1 else 0) |_=>false
 |.u a=>λb=>match b with |.u b=>a==b |_=>false
 |.p a=>λb=>match b with |.p b=>fA a b |_=>false
 |.r a=>λb=>match b with |.r b=>fA a b |_=>false
 |.o _=>λJ=>false
noncomputable def fA:List V->List V->Bool
 |[]=>λb=>match b with |[]=>true |_=>false
 |a::as=>λb=>match b with |b::I=>cb a b&&fA as I |[]=>false
end
mutual
noncomputable def V.key:V->Nat->Bool
 |.j _,_=>true|.u _,_=>true|.p l,d+1=>V.jS l d|_,_=>false
noncomputable def V.jS:List V->Nat->Bool
 |[],_=>true|a::as,d=>V.key a d&&V.jS as d
end
abbrev V.keys(l:List V):Bool:=V.jS l 6
mutual
noncomputable def fc:V->Nat
 |.p l=>ji l+1|.r l=>ji l+1|_=>0
noncomputable def ji:List V->Nat
 |[]=>0|a::as=>max (fc a) (ji as)
end
end Mine.Lake
set_option genInjectivity false
namespace Mine.Lake
@[inline]abbrev AN:=Fin 22
@[inline]abbrev MN:=Fin 7
@[inline]abbrev CN:=Fin 3
@[inline]abbrev FN:=Fin 85
abbrev AN.name(a:AN):String:=["bounds", "decls", "deep", "defaults", "done", "extra", "host", "index", "mapping", "most_deep", "most_rounds", "names", "origins", "part", "putting", "renamed", "rounds", "row", "rows", "shaping", "spent", "tab"].getD a ""
abbrev MN.name(a:MN):String:=["fits", "force", "further", "lay_row", "put", "put_cond", "put_in"].getD a ""
abbrev CN.name(a:CN):String:=["TypeTable", "CondStep", "UnitHost"].getD a ""
abbrev FN.name(f:FN):String:=["kind_of", "new_param", "parts_of", "whole_of_row", "regular_twin", "join_bools", "stays_beside", "top_of", "union", "is_fresh", "regular_one", "regular", "index_kids", "object_kids", "row_kids", "row_binds", "inner_kids", "reached", "free_params", "value_holds", "units_fit", "put_each", "put_cell", "put_shape", "without_own", "put_late", "plain_put", "plain_laid", "is_open", "bounds_ask", "kindcond_joined", "put_all", "holds_late", "may_fit", "put_strangers", "is_wrapped", "side_open", "judge", "lay_cond", "check_of", "laid_step", "wait", "part_step", "spread_check", "turn", "tell_branch", "take_branch", "through_aliases", "go_on", "finish", "run_step", "side_branch", "cond_under", "cond_kind", "case_kind", "_law_take", "_law_store", "_law_less", "_law_union", "_law_list", "_law_question", "_law_side", "_law_row", "_law_fits", "_law_open", "_law_answer", "_law_told", "_law_branch", "_law_waits", "_law_swap", "_law_swapped", "_law_asks", "_law_sieves", "_law_round", "law", "__init__", "put", "__init__", "further", "fits", "__init__", "force", "put_cond", "put_in", "lay_row"].getD f.val ""
abbrev tT(c:CN)(m:MN):Option FN:=([[none,none,none,none,some 76,none,none],[none,none,some 78,none,none,none,none],[some 79,some 81,none,some 84,none,some 82,some 83]]:List (List (Option FN)))[c.1]?.elim none λl=>l.getD m.1 none
abbrev qP(c:CN):FN:=([75,77,80]:List FN).getD c.1 74
end Mine.Lake
section
set_option genCtorIdx true
namespace Mine.Lake
inductive fN where |a |c |d |e |b
 deriving DecidableEq
inductive lg where |a |c |f |i |e |g |b |d |j |h
 deriving DecidableEq
inductive B1 where |a |b |c |d |e
 deriving DecidableEq
inductive iH where |a |b |d |c |e
 deriving DecidableEq
set_option genCtorIdx false
mutual
inductive CE where
 |J |K |N
 |B (b:Bool) |g (i:Nat) |I (i:Nat) |u (s:String)
 |d (i:Nat) |p (i:Int) |M (v:V)
 |q (o:CE) (a:AN) |h (o i:CE) |H (o lo hi:CE)
 |A (op:fN) (a b:CE) |n (op:lg) (a b:CE) |P (a:CE)
 |G (a:CE) |z (l:List CE) |D (l:List CE) |C (c a b:CE)
 |t (l:List CE) |r (fr:Bool) (l:List CE) |F (kvs:List CE)
 |E (e:CE) (i:Nat) (it:mE) (conds:List CE) |Q (k v:CE) (i:Nat) (it:mE)
 |j (f:FN) (l:List CE) |L (c:CN) (l:List CE) |y (o:CE) (m:MN) (l:List CE)
 |x (f:B1) (a:CE) |O (a:CE) |w (m:iH) (o:CE) (l:List CE)
inductive mE where
 |a (e:CE) |b (e:CE)
end
inductive qQ where |a (i:Nat) |b (is:List Nat)
inductive CS where
 |j |x |y |u |t
 |g (i:Nat) (e:CE) |r (is:List Nat) (e:CE) |l (o:CE) (a:AN) (e:CE) |n (o i e:CE)
 |s (o:CE) (a:AN) (op:fN) (e:CE) |w (o i:CE) (op:fN) (e:CE)
 |k (e:CE) |h (c:CE) (a b:List CS) |q (c:CE) (b:List CS) |m (p:qQ) (it:mE) (b:List CS)
 |d (e:CE) |v (b f:List CS)
structure aN where
 a:Nat
 d:Nat
 b:List V
 c:List CS
inductive O where
 |a (l:List V) |b |f (es:List (Int×V)) |h (es:List (String×V)) |g (es:List (List V×V))
 |e (c:CN) (fs:List (AN×V)) |d
abbrev O.ctorIdx(x:O):Nat:=@O.casesOn (λJ=>Nat) x (λJ=>0) 1 (λJ=>2) (λJ=>3) (λJ=>4) (λJ J=>5) 6
instance:Inhabited O:=⟨.d⟩
@[inline]abbrev St:=List O
abbrev M(α:Type):=St->Option (α×St)
@[inline]abbrev ba:=List (Option V)
inductive cZ where |a |d |c |b (v:V)
abbrev cZ.ctorIdx(x:cZ):Nat:=@cZ.casesOn (λJ=>Nat) x 0 1 2 λJ=>3
abbrev fP(i:Int):Bool:=Nat.ble i.natAbs 4611686018427387903
def CI{i:Int}:fP i=true↔-4611686018427387904 < i/\i < 4611686018427387904:=by
 unfold fP;rw[Nat.ble_eq];omega
abbrev bs:Nat:=4194304
abbrev cU{α:Type}[DecidableEq α]{β:Type}(k:α):List (α×β)->Option β
 |[]=>none|(a,b)::r=>if a=k then some b else cU k r
abbrev bn{α:Type}[DecidableEq α]{β:Type}(k:α)(v:β):List (α×β)->List (α×β)
 |[]=>[(k,v)]|(a,b)::r=>if a=k then(a,v)::r else(a,b)::bn k v r
def xy{α β:Type}[DecidableEq α]{k a:α}{b:β}{r:List (α×β)}:cU k ((a,b)::r)=if a=k then some b else cU k r:=rfl
def CJ{α β:Type}[DecidableEq α]{k a:α}{v b:β}{r:List (α×β)}:bn k v ((a,b)::r)=if a=k then(a,v)::r else(a,b)::bn k v r:=rfl
abbrev bq(p:Prop)[Decidable p]{α:Type}(x:Option α):Option α:=if p then x else none
def ds{p:Prop}[Decidable p]{α:Type}{x:Option α}(h:p):bq p x=x:=ah h
def bN{p:Prop}[Decidable p]{α:Type}{x:Option α}{r:α}(e:bq p x=some r):p/\x=some r:=by
 by_cases h:p
 .exact⟨h,(ds h).symm.trans e⟩
 .exact nomatch (show none=some r from(ab (t:=x) h).symm.trans e)
def dY{p:Prop}[Decidable p]{α:Type}{x r:Option α}(h:p)(q:x=r):bq p x=r:=(ds h).trans q
section
variable{α β:Type}{x:Option α}{a:α}{f:α->Option β}{g r:Option β}
def bg(h:x=some a)(q:f a=r):x.bind f=r:=by rw[h];exact q
def K1(h:x=some a)(q:f a=r):x.elim g f=r:=by rw[h];exact q
def xz(h:x=none)(q:g=r):x.elim g f=r:=by rw[h];exact q
def dZ{f:α->β}(h:x=some a):x.map f=some (f a):=by rw[h];rfl
def a9{r:β}(e:x.bind f=some r):∃a,x=some a/\f a=some r:=by
 induction x using aX with
 |none=>exact nomatch e|some a=>exact⟨a,rfl,e⟩
def cF{f:α->β}{r:β}(e:x.map f=some r):∃a,x=some a/\f a=r:=by
 induction x using aX with
 |none=>exact nomatch e|some a=>exact⟨a,rfl,ay e⟩
def lh{r:β}(e:x.elim g f=some r):(∃a,x=some a/\f a=some r)\/(x=none/\g=some r):=by
 induction x using aX with
 |none=>exact .inr ⟨rfl,e⟩|some a=>exact .inl ⟨a,rfl,e⟩
end
def eW{k N:Nat}(h:k<=N):∃n,N=n+k:=⟨N - k,(JW h).symm⟩
def bl{α:Type}{a:α}{P:Prop}(e:none=some a):P:=nomatch e
def b7{P:Prop}(e:false=true):P:=nomatch e
abbrev iI:V->Option Nat
 |.o i=>some i|_=>none
abbrev gG:V->Option Int
 |.j k=>some k|_=>none
abbrev mG:V->Option (List V)
 |.p l=>some l|_=>none
abbrev xA:V->Option (List V)
 |.r l=>some l|_=>none
abbrev fe:O->Option (List V)
 |.a l=>some l|_=>none
abbrev tU:O->Option (CN×List (AN×V))
 |.e c fs=>some (c,fs)|_=>none
abbrev gj:O->Option (List (Int×V))
 |.b=>some []|.f es=>some es|_=>none
abbrev qR:O->Option (List (String×V))
 |.b=>some []|.h es=>some es|_=>none
abbrev qS:O->Option (List (List V×V))
 |.b=>some []|.g es=>some es|_=>none
abbrev eX(σ:St)(v:V):Option O:=(iI v).bind λi=>σ[i]?
abbrev bt(σ:St):V->Option (Bool×List V)
 |.p l=>some (false,l)|.r l=>some (true,l)|.o i=>(σ[i]?).bind λo=>(fe o).map λl=>(true,l)
 |_=>none
abbrev xB(k:Bool)(l:List V):V:=bif k then .r l else .p l
abbrev gk(o:O):M V:=λσ=>some (.o σ.length,σ++[o])
abbrev dP(c:CN)(a:AN):Bool:=Nat.beq c.1 0&&Nat.beq a.1 (17:AN).1
abbrev tV(v:V)(a:AN):M V:=λσ=>(eX σ v).bind λo=>(tU o).bind λp=>bq (dP p.1 a=false) ((cU a p.2).map λx=>(x,σ))
abbrev mH(v:V)(a:AN)(x:V):M Unit:=λσ=>(iI v).bind λi=>(σ[i]?).bind λo=>(tU o).bind λp=>bq (dP p.1 a=false/\p.2.length < 100) (some ((),σ.set i (.e p.1 (bn a x p.2))))
abbrev tX(n:Nat)(k:Int):Option Nat:=bq (fP k=true) (if 0<=k then bq (k.toNat < n) (some k.toNat)else bq (0<=(n:Int)+k) (some ((n:Int)+k).toNat))
abbrev iJ(d:O)(k:V):Option (Option V):=match k with
 |.j k=>(gj d).map (cU k)|.u k=>(qR d).map (cU k)|.p k=>bq (V.keys k=true) ((qS d).map (cU k))|_=>none
abbrev mI(d:O)(k v:V):Option O:=match k with
 |.j k=>(gj d).bind λes=>bq (es.length < bs) (some (.f (bn k v es)))
 |.u k=>(qR d).bind λes=>bq (es.length < bs) (some (.h (bn k v es)))
 |.p k=>bq (V.keys k=true) ((qS d).bind λes=>bq (es.length < bs) (some (.g (bn k v es))))
 |_=>none
abbrev dj(o i:V):M V:=λσ=>(bt σ o).elim ((eX σ o).bind λd=>(iJ d i).bind λr=>r.map λx=>(x,σ))
 λp=>(gG i).bind λk=>(tX p.2.length k).bind λj=>(p.2[j]?).map λx=>(x,σ)
abbrev li(o i x:V):M Unit:=λσ=>(iI o).bind λr=>(σ[r]?).bind λd=>(fe d).elim ((mI d i x).map λd'=>((),σ.set r d'))
 λl=>(gG i).bind λk=>bq (0<=k) ((tX l.length k).map λj=>((),σ.set r (.a (l.set j x))))
abbrev tY(o i x:V):M Unit:=λσ=>(iI o).bind λr=>(gG i).bind λk=>(σ[r]?).bind λd=>(gj d).bind λes=>bq (es.length < bs) (some ((),σ.set r (.f (bn k x es))))
abbrev oi(n:Nat)(k:Int):Nat:=if k < 0 then((n:Int)+k).toNat else min n k.toNat
abbrev qT:V->Option (Option Int)
 |.z=>some none|.j k=>bq (fP k=true) (some (some k))|_=>none
abbrev iK(l:List V)(lo hi:Option Int):List V:=
 let n:=l.length
 let a:=match lo with |none=>0 |some k=>oi n k
 let b:=match hi with |none=>n |some k=>oi n k
 (l.take b).drop a
abbrev qU(o lo hi:V):M V:=λσ=>(bt σ o).bind λp=>(qT lo).bind λa=>(qT hi).bind λb=>bq (p.2.length < bs) (some (xB p.1 (iK p.2 a b),σ))
abbrev CK(a b:V):M V:=λσ=>(bt σ a).bind λp=>(bt σ b).bind λq=>bq (p.1=q.1/\p.2.length+q.2.length < bs) (some (xB p.1 (p.2++q.2),σ))
abbrev tZ(op:fN)(x y:Int):Option Int:=match op with
 |.a=>some (x+y)|.c=>some (x - y)|.d=>bq ((fP x&&fP y)=true) (some (x*y))|.e=>bq (y≠0/\y.natAbs < 1073741824) (some (x.fdiv y))|.b=>bq (y≠0) (some (x.fmod y))
abbrev iL(op:fN)(a b:V):M V:=λσ=>(gG a).elim (match op with |.a=>CK a b σ |_=>none) λx=>(gG b).bind λy=>(tZ op x y).map λi=>(.j i,σ)
abbrev g_(σ:St)(x c:V):Option Bool:=(bt σ c).elim ((eX σ c).bind λd=>(iJ d x).map λr=>r.isSome)
 λp=>bq ((V.eV p.2&&V.pure x&&decide (fc x<=8))=true) (some (p.2.any λy=>cb y x))
abbrev oj(a b:V)(g:Int->Int->Bool):Option Bool:=(gG a).bind λx=>(gG b).map (g x)
abbrev K2:V->Option Bool
 |.z=>some false|.j _=>some true|.u _=>some true|_=>none
abbrev K5:V->Bool
 |.z=>true|_=>false
abbrev K6(σ:St)(op:lg)(a b:V):Option Bool:=match op with
 |.a=>bq ((V.pure a&&V.pure b&&decide (fc b<=8))=true) (some (cb a b))|.c=>bq ((V.pure a&&V.pure b&&decide (fc b<=8))=true) (some (!cb a b))|.f=>oj a b λx y=>decide (x < y)
 |.i=>oj a b λx y=>decide (x<=y)
 |.e=>oj a b λx y=>decide (y < x)
 |.g=>oj a b λx y=>decide (y<=x)
 |.b=>g_ σ a b|.d=>bq ((mG a).isNone=true) ((g_ σ a b).map not)|.j=>none|.h=>bq (K5 b=true) (K2 a)
abbrev de(op:lg)(a b:V):M V:=λσ=>(K6 σ op a b).map λr=>(.w r,σ)
abbrev iM(σ:St):V->Option Bool
 |.z=>some false|.w b=>some b|.j i=>some (i !=0)|.u _=>none|v=>(bt σ v).bind λp=>bq (p.2.length < bs) (some (!p.2.isEmpty))
abbrev lj(x:Int):List Int->List Int
 |[]=>[x]|y::c=>if x<=y then x::y::c else y::lj x c
abbrev jT:List Int->List Int
 |[]=>[]|x::xs=>lj x (jT xs)
abbrev qV:List V->Option (List Int)
 |[]=>some []|x::r=>(gG x).bind λi=>(qV r).map λl=>i::l
abbrev qW(σ:St):List V->Option Bool
 |[]=>some false|x::r=>(iM σ x).bind λb=>(qW σ r).map λc=>b||c
abbrev mJ(σ:St)(v:V):Option (List Int):=(bt σ v).elim ((eX σ v).bind λo=>(gj o).map λes=>es.map (·.1)) λp=>bq (p.1=true) (qV p.2)
abbrev b1(f:B1)(v:V):M V:=λσ=>match f with
 |.a=>(bt σ v).elim ((eX σ v).bind λo=>(gj o).bind λes=>bq (es.length < bs) (some (.j es.length,σ))) λp=>bq (p.2.length < bs) (some (.j p.2.length,σ))
 |.b=>(bt σ v).bind λp=>bq (p.1=true/\p.2.length < bs) (some (.p p.2,σ))
 |.c=>(mJ σ v).bind λis=>bq (is.length < bs) (some (.r ((jT is).map .j),σ))
 |.d=>(eX σ v).bind λo=>(gj o).bind λes=>bq (es.length < bs) (gk o σ)
 |.e=>(bt σ v).bind λp=>bq (p.1=true/\p.2.length < bs) ((qW σ p.2).map λb=>(.w b,σ))
abbrev t6:V->Option Bool
 |.u _=>some true|.j _=>some false|_=>none
abbrev iN{α:Type}[DecidableEq α]{β:Type}:List (α×β)->List (α×β)->List (α×β)
 |es,[]=>es|es,(k,v)::r=>iN (bn k v es) r
abbrev t7:O->Bool
 |.b=>true|.f _=>true|.h _=>true|.g _=>true|_=>false
abbrev qX(m:iH)(o:O):Bool:=match m with
 |.c=>t7 o|.e=>(gj o).isSome|_=>(fe o).isSome
abbrev gH(m:iH)(v:V):M Unit:=λσ=>(eX σ v).bind λo=>bq (qX m o=true) (some ((),σ))
abbrev xC:List V->Option V
 |[x]=>some x|_=>none
abbrev K7:List V->Option (V×V)
 |[x,y]=>some (x,y)|_=>none
abbrev K8(m:iH)(i:Nat)(d:O)(args:List V)(σ:St):Option (V×St):=match m with
 |.a=>(xC args).bind λx=>(fe d).bind λl=>bq (l.length < bs) (some (.z,σ.set i (.a (l++[x]))))
 |.b=>(xC args).bind λx=>(fe d).bind λl=>(xA x).bind λk=>bq (l.length+k.length < bs) (some (.z,σ.set i (.a (l++k))))
 |.d=>(fe d).bind λl=>(l.getLast?).bind λx=>bq (l.length < bs) (some (x,σ.set i (.a l.dropLast)))
 |.c=>(K7 args).bind λp=>(iJ d p.1).map λr=>(r.getD p.2,σ)
 |.e=>(xC args).bind λx=>(iI x).bind λj=>bq (i≠j) ((σ[j]?).bind λe=>(gj d).bind λes=>(gj e).bind λt=>bq (es.length+t.length < bs) (some (.z,σ.set i (.f (iN es t)))))
abbrev cm(m:iH)(o:V)(args:List V):M V:=λσ=>(iI o).bind λi=>(σ[i]?).bind λd=>K8 m i d args σ
abbrev mK(σ:St)(v:V):Option (Nat×List V):=(iI v).bind λi=>(σ[i]?).bind λo=>(fe o).map λl=>(i,l)
abbrev hD(v:V):M V:=λσ=>some ((mK σ v).elim (v,σ) λp=>(.r p.2,σ.set p.1 .d))
abbrev ll(v:V):M (Option (Nat×List V)×List V):=λσ=>(bt σ v).bind λp=>bq (p.2.length < bs) (some (((iI v).map λi=>(i,p.2),p.2),σ))
abbrev lm(g:Option (Nat×List V)):M Unit:=λσ=>g.elim (some ((),σ)) λp=>(σ[p.1]?).bind λo=>(fe o).bind λl=>bq (V.lb p.2 l=true) (some ((),σ))
abbrev CL(v:V):M (Option (Nat×List V)×List V):=λσ=>(gG v).bind λn=>bq ((fP n&&decide (n.toNat < bs))=true) (some ((none,(List.range n.toNat).map λ(k:Nat)=>V.j (k:Int)),σ))
abbrev ol:Nat:=1000000
abbrev CM:V->Option String
 |.u s=>some s|_=>none
abbrev t8{α:Type}(g:V->Option α):List V->Option (List (α×V))
 |[]=>some []
 |k::r=>(match r with
  |v::r=>(g k).bind λa=>(t8 g r).map λl=>(a,v)::l
  |[]=>none)
abbrev xD(l:List V):Option (List (Int×V)):=t8 gG l
abbrev CO(l:List V):Option (List (String×V)):=t8 CM l
abbrev K9:O->Bool
 |.b=>true|_=>false
abbrev K_(vs:List V):Option O:=(xD vs).elim ((CO vs).map λl=>.h (iN [] l)) λl=>some (.f (iN [] l))
abbrev qY(r:V)(vs:List V):M Unit:=λσ=>(iI r).bind λi=>(σ[i]?).bind λo=>bq (K9 o=true) ((K_ vs).map λo=>((),σ.set i o))
abbrev mL:List Nat->List V->ba->Option ba
 |[],[],ρ=>some ρ|i::is,x::xs,ρ=>mL is xs (ρ.set i (some x))|_,_,_=>none
abbrev fQ(p:qQ)(x:V)(ρ:ba):M ba:=λσ=>match p with
 |.a i=>some (ρ.set i (some x),σ)|.b is=>(mG x).bind λl=>(mL is l ρ).map λρ=>(ρ,σ)
abbrev xE(v:V)(m:MN):M FN:=λσ=>(eX σ v).bind λo=>(tU o).bind λp=>(tT p.1 m).map λf=>(f,σ)
abbrev xF:List Int:=[11,14,15,16,17]
abbrev oo(f:aN)(args:List V):Option ba:=
 if args.length<=f.a/\f.a<=args.length+f.b.length then
  some ((args++f.b.drop (args.length+f.b.length - f.a)).map some++List.replicate (f.d - f.a) none)
 else none
abbrev CP:aN:=⟨2,2,[],[(.d (.h (.h (.q (.d 0) 18) (.d 1)) (.g 0)))]⟩
abbrev Lb:aN:=⟨4,5,[(.j (-1)),(.j (-1))],[(.g 4 (.x .a (.q (.d 0) 0))),(.k (.w .a (.q (.d 0) 0) [(.d 2)])),(.k (.w .a (.q (.d 0) 3) [(.d 3)])),(.k (.w .a (.q (.d 0) 11) [(.d 1)])),(.d (.y (.d 0) 4 [(.t [(.p 10),(.d 4)])]))]⟩
abbrev Lc:aN:=⟨2,3,[],[(.h (.n .a (.d 1) (.p 2)) [(.d (.t []))] []),(.g 2 (.h (.q (.d 0) 18) (.d 1))),(.h (.n .a (.h (.d 2) (.g 0)) (.p 6)) [(.d (.h (.d 2) (.g 1)))] []),(.d (.t [(.d 1)]))]⟩
abbrev Ld:aN:=⟨1,2,[],[(.g 1 (.h (.d 0) (.g 0))),(.h (.D [(.n .a (.d 1) (.p 3)),(.n .a (.d 1) (.p 18))]) [(.d (.p 6))] []),(.h (.n .a (.d 1) (.p 4)) [(.d (.p 7))] []),(.h (.n .a (.d 1) (.p 5)) [(.d (.C (.O (.h (.d 0) (.g 3))) (.p 6) (.p 7)))] []),(.d (.I 1))]⟩
abbrev Lf:aN:=⟨2,3,[],[(.g 2 (.h (.q (.d 0) 18) (.d 1))),(.h (.z [(.n .b (.h (.d 2) (.g 0)) (.M (.p [(.j 2),(.j 3),(.j 4),(.j 5),(.j 8)]))),(.n .a (.h (.d 2) (.I 1)) (.g 1))]) [(.d (.w .c (.q (.d 0) 7) [(.A .a (.H (.d 2) .K (.I 1)) (.t [(.g 0)])),(.I 1)]))] []),(.d (.I 1))]⟩
abbrev Lg:aN:=⟨1,1,[],[(.h (.z [(.D [(.n .b (.p 8) (.d 0)),(.n .b (.p 14) (.d 0))]),(.D [(.n .b (.p 9) (.d 0)),(.n .b (.p 15) (.d 0))])]) [(.n (.d 0) (.p 8) (.g 1)),(.n (.d 0) (.p 9) (.g 1))] [])]⟩
abbrev Lh:aN:=⟨3,3,[],[(.h (.n .b (.j 4 [(.d 0),(.d 2)]) (.d 1)) [(.d (.B false))] []),(.d (.n .d (.j 3 [(.h (.q (.d 0) 18) (.d 2))]) (.d 1)))]⟩
abbrev Li:aN:=⟨1,2,[],[(.m (.a 1) (.a (.t [(.p 0),(.p 13),(.p 1)])) [(.h (.n .b (.d 1) (.d 0)) [(.d (.d 1))] [])]),(.d (.I 1))]⟩
abbrev Lj:aN:=⟨2,8,[],[(.g 2 (.F [])),(.m (.a 3) (.a (.d 1)) [(.m (.a 4) (.a (.j 2 [(.d 0),(.d 3)])) [(.n (.d 2) (.d 4) (.g 1))])]),(.g 5 (.j 7 [(.d 2)])),(.h (.n .g (.d 5) (.g 0)) [(.d (.d 5))] []),(.k (.j 5 [(.d 2)])),(.g 6 (.E (.d 7) 7 (.a (.x .c (.d 2))) [(.j 6 [(.d 0),(.d 2),(.d 7)])])),(.h (.G (.d 6)) [(.d (.p 2))] []),(.h (.n .a (.x .a (.d 6)) (.g 1)) [(.d (.h (.d 6) (.g 0)))] []),(.h (.n .e (.x .a (.d 6)) (.p 400)) [.j] []),(.d (.y (.d 0) 4 [(.t [(.p 6),(.x .b (.d 6))])]))]⟩
abbrev Ll:aN:=⟨2,3,[],[(.g 2 (.h (.q (.d 0) 18) (.d 1))),(.d (.z [(.n .b (.h (.d 2) (.g 0)) (.M (.p [(.j 2),(.j 3),(.j 4),(.j 5),(.j 8)]))),(.n .a (.h (.d 2) (.I 1)) (.g 1))]))]⟩
abbrev Ln:aN:=⟨2,2,[],[(.h (.j 9 [(.d 0),(.d 1)]) [(.d (.y (.d 0) 4 [(.A .a (.H (.h (.q (.d 0) 18) (.d 1)) .K (.I 1)) (.t [(.g 0)]))]))] []),(.d (.d 1))]⟩
abbrev Lp:aN:=⟨2,3,[],[(.h (.n .a (.j 0 [(.d 0),(.d 1)]) (.p 6)) [(.d (.j 8 [(.d 0),(.E (.j 10 [(.d 0),(.d 2)]) 2 (.a (.j 2 [(.d 0),(.d 1)])) [])]))] []),(.d (.j 10 [(.d 0),(.d 1)]))]⟩
abbrev Lq:aN:=⟨1,1,[],[(.d (.C (.n .a (.d 0) (.t [])) (.r true []) (.r true [(.h (.d 0) (.g 0))])))]⟩
abbrev Lr:aN:=⟨1,4,[],[(.g 1 (.E (.h (.d 3) (.g 1)) 3 (.a (.h (.d 0) (.g 1))) [])),(.m (.a 2) (.a (.A .a (.h (.d 0) (.g 2)) (.h (.d 0) (.g 3)))) [.j]),(.d (.A .a (.A .a (.d 1) (.j 12 [(.h (.d 0) (.g 4))])) (.j 12 [(.h (.d 0) (.g 5))])))]⟩
abbrev Lu:aN:=⟨1,5,[],[(.g 1 (.h (.d 0) (.g 0))),(.h (.P (.d 1)) [.j] []),(.h (.D [(.n .a (.d 1) (.p 6)),(.n .a (.d 1) (.p 7))]) [(.d (.E (.d 4) 4 (.a (.h (.d 0) (.g 1))) []))] []),(.h (.n .a (.d 1) (.p 8)) [(.d (.j 13 [(.d 0)]))] []),(.h (.D [(.n .a (.d 1) (.p 9)),(.n .a (.d 1) (.p 19)),(.n .a (.d 1) (.p 18))]) [.j] []),(.h (.n .a (.d 1) (.p 12)) [.j] []),(.h (.n .a (.d 1) (.p 13)) [.j] []),(.d (.r true []))]⟩
abbrev Lw:aN:=⟨1,1,[],[(.h (.n .a (.h (.d 0) (.g 0)) (.p 13)) [.j] []),(.h (.n .a (.h (.d 0) (.g 0)) (.p 16)) [.j] []),(.h (.n .a (.h (.d 0) (.g 0)) (.p 17)) [.j] []),(.d (.t []))]⟩
abbrev Lx:aN:=⟨2,4,[],[(.g 2 (.j 14 [(.d 1)])),(.m (.a 3) (.a (.j 15 [(.d 1)])) [.j]),(.d (.d 2))]⟩
abbrev Ly:aN:=⟨2,5,[],[(.g 2 (.F [])),(.g 3 (.r false [(.d 1)])),(.q (.d 3) [(.g 4 (.w .d (.d 3) [])),(.h (.z [(.n .g (.d 4) (.g 0)),(.n .d (.d 4) (.d 2))]) [(.n (.d 2) (.d 4) (.g 1)),(.k (.w .b (.d 3) [(.j 16 [(.d 0),(.h (.q (.d 0) 18) (.d 4))])]))] [])]),(.d (.x .c (.d 2)))]⟩
abbrev Lz:aN:=⟨2,9,[],[(.h (.n .f (.d 1) (.g 0)) [.j] []),(.g 2 (.j 17 [(.d 0),(.d 1)])),(.h (.G (.x .e (.E (.j 15 [(.h (.q (.d 0) 18) (.d 7))]) 7 (.a (.d 2)) []))) [(.d (.x .b (.x .c (.E (.h (.h (.q (.d 0) 18) (.d 8)) (.g 1)) 8 (.a (.d 2)) [(.n .a (.h (.h (.q (.d 0) 18) (.d 8)) (.g 0)) (.p 10))]))))] []),.j]⟩
abbrev LA:aN:=⟨3,4,[],[(.h (.n .c (.h (.d 1) (.g 0)) (.p 5)) [(.d (.B false))] []),(.g 3 (.C (.O (.h (.d 1) (.g 3))) (.p 3) (.p 4))),(.d (.n .b (.w .c (.q (.d 0) 7) [(.t [(.d 3),(.h (.d 1) (.g 3)),(.g 0)]),(.I 1)]) (.d 2)))]⟩
abbrev LB:aN:=⟨3,7,[],[(.h (.D [(.n .a (.d 2) (.p 0)),(.n .a (.d 2) (.p 1)),(.n .a (.d 2) (.p 13))]) [(.d (.B true))] []),(.g 3 (.j 2 [(.d 0),(.j 11 [(.d 0),(.d 2)])])),(.m (.a 4) (.a (.j 2 [(.d 0),(.j 11 [(.d 0),(.d 1)])])) [(.g 5 (.h (.q (.d 0) 18) (.d 4))),(.g 6 (.D [(.n .b (.d 4) (.d 3)),(.n .b (.j 3 [(.d 5)]) (.d 3)),(.j 19 [(.d 0),(.d 5),(.d 3)])])),(.h (.z [(.G (.d 6)),(.G (.z [(.n .a (.d 4) (.p 4)),(.n .b (.p 3) (.d 3))]))]) [(.d (.B false))] [])]),(.d (.B true))]⟩
abbrev LC:aN:=⟨3,4,[],[(.d (.x .b (.E (.j 26 [(.d 0),(.d 3),(.d 2)]) 3 (.a (.d 1)) [])))]⟩
abbrev LD:aN:=⟨3,3,[],[(.d (.C (.n .a (.d 1) (.t [])) (.t []) (.t [(.j 26 [(.d 0),(.h (.d 1) (.g 0)),(.d 2)]),(.h (.d 1) (.g 1))])))]⟩
abbrev LG:aN:=⟨3,8,[],[(.g 3 (.x .b (.E (.t [(.h (.d 7) (.g 0)),(.j 26 [(.d 0),(.h (.d 7) (.g 1)),(.d 2)]),(.h (.d 7) (.g 2)),(.h (.d 7) (.g 3))]) 7 (.a (.h (.d 1) (.g 1))) []))),(.g 4 (.j 21 [(.d 0),(.h (.d 1) (.g 2)),(.d 2)])),(.g 5 (.j 21 [(.d 0),(.h (.d 1) (.g 3)),(.d 2)])),(.g 6 (.j 22 [(.d 0),(.h (.d 1) (.g 4)),(.d 2)])),(.d (.y (.q (.d 0) 21) 4 [(.t [(.p 8),(.d 3),(.d 4),(.d 5),(.d 6),(.j 22 [(.d 0),(.h (.d 1) (.g 5)),(.d 2)]),(.h (.d 1) (.g 6))])]))]⟩
abbrev LH:aN:=⟨2,4,[],[(.g 2 (.x .d (.d 0))),(.m (.a 3) (.a (.d 1)) [.j]),(.d (.d 2))]⟩
abbrev LI:aN:=⟨4,5,[],[(.h (.n .a (.h (.d 2) (.g 0)) (.p 15)) [.j] []),(.h (.n .a (.h (.d 2) (.g 0)) (.p 14)) [.j] []),(.h (.n .a (.h (.d 2) (.g 0)) (.p 18)) [.j] []),(.h (.n .a (.h (.d 2) (.g 0)) (.p 9)) [.j] []),(.h (.n .a (.h (.d 2) (.g 0)) (.p 19)) [.j] []),(.h (.n .a (.h (.d 2) (.g 0)) (.p 16)) [(.g 4 (.j 24 [(.d 3),(.h (.d 2) (.g 5))])),(.d (.C (.n .e (.x .a (.d 4)) (.g 0)) (.y (.d 0) 5 [(.d 2),(.d 4)]) (.d 1)))] []),(.d (.d 1))]⟩
abbrev LJ:aN:=⟨3,4,[],[(.h (.D [(.n .f (.d 1) (.g 0)),(.n .a (.x .a (.d 2)) (.g 0))]) [(.d (.d 1))] []),(.g 3 (.h (.q (.q (.d 0) 21) 18) (.d 1))),(.h (.n .a (.h (.d 3) (.g 0)) (.p 10)) [(.d (.w .c (.d 2) [(.h (.d 3) (.g 1)),(.d 1)]))] []),(.h (.n .a (.h (.d 3) (.g 0)) (.p 6)) [(.d (.j 8 [(.q (.d 0) 21),(.j 21 [(.d 0),(.h (.d 3) (.g 1)),(.d 2)])]))] []),(.h (.n .a (.h (.d 3) (.g 0)) (.p 11)) [.j] []),(.h (.n .a (.h (.d 3) (.g 0)) (.p 12)) [.j] []),(.h (.n .a (.h (.d 3) (.g 0)) (.p 8)) [(.d (.j 23 [(.d 0),(.d 3),(.d 2)]))] []),(.h (.n .a (.h (.d 3) (.g 0)) (.p 13)) [.j] []),(.d (.j 25 [(.d 0),(.d 1),(.d 3),(.d 2)]))]⟩
abbrev LK:aN:=⟨3,4,[],[(.g 3 (.j 24 [(.d 2),(.h (.d 1) (.g 5))])),(.d (.y (.q (.d 0) 21) 4 [(.A .a (.A .a (.H (.d 1) .K (.g 1)) (.j 21 [(.d 0),(.H (.d 1) (.g 1) (.g 5)),(.d 3)])) (.H (.d 1) (.g 5) .K))]))]⟩
abbrev LN:aN:=⟨2,6,[],[(.g 2 (.h (.q (.d 0) 18) (.d 1))),(.h (.n .b (.h (.d 2) (.g 0)) (.M (.p [(.j 10),(.j 14),(.j 15),(.j 16),(.j 17),(.j 19)]))) [(.d (.B true))] []),(.h (.D [(.n .a (.h (.d 2) (.g 0)) (.p 6)),(.n .a (.h (.d 2) (.g 0)) (.p 7))]) [(.m (.a 3) (.a (.h (.d 2) (.g 1))) [(.h (.j 28 [(.d 0),(.d 3)]) [(.d (.B true))] [])])] []),(.h (.n .a (.h (.d 2) (.g 0)) (.p 12)) [.j] []),(.h (.n .a (.h (.d 2) (.g 0)) (.p 18)) [.j] []),(.d (.B false))]⟩
abbrev LO:aN:=⟨3,5,[],[(.m (.a 3) (.a (.d 1)) [.j]),(.d (.B false))]⟩
abbrev LP:aN:=⟨2,3,[],[(.g 2 (.x .d (.d 0))),(.k (.w .e (.d 2) [(.d 1)])),(.d (.d 2))]⟩
abbrev LQ:aN:=⟨3,5,[],[(.g 3 (.j 18 [(.q (.d 0) 21),(.d 1)])),(.h (.n .a (.x .a (.d 3)) (.g 0)) [(.d (.d 1))] []),(.d (.y (.d 0) 6 [(.d 1),(.Q (.d 4) (.d 2) 4 (.a (.d 3)))]))]⟩
abbrev LR:aN:=⟨2,7,[],[(.g 2 (.F [])),(.g 3 (.r false [(.d 1)])),(.q (.n .e (.x .a (.d 3)) (.g 0)) [(.g 4 (.w .d (.d 3) [])),(.h (.D [(.n .f (.d 4) (.g 0)),(.n .b (.d 4) (.d 2))]) [.u] []),(.n (.d 2) (.d 4) (.g 1)),(.g 5 (.h (.q (.d 0) 18) (.d 4))),(.g 6 (.D [(.n .b (.h (.d 5) (.g 0)) (.M (.p [(.j 14),(.j 15),(.j 16),(.j 17),(.j 18),(.j 19)]))),(.z [(.n .a (.h (.d 5) (.g 0)) (.p 12)),(.j 28 [(.d 0),(.d 4)])])])),(.h (.z [(.d 6),(.n .e (.x .a (.j 18 [(.d 0),(.d 4)])) (.g 0))]) [.j] []),(.k (.w .b (.d 3) [(.j 14 [(.d 5)])]))]),(.d (.B false))]⟩
abbrev LS:aN:=⟨3,3,[],[(.h (.D [(.j 32 [(.q (.d 0) 21),(.d 1)]),(.j 32 [(.q (.d 0) 21),(.d 2)])]) [.j] []),(.d (.y (.d 0) 0 [(.j 31 [(.d 0),(.d 1),(.p 13)]),(.j 31 [(.d 0),(.d 2),(.p 13)])]))]⟩
abbrev LU:aN:=⟨3,6,[],[(.g 3 (.q (.d 0) 21)),(.g 4 (.F [])),(.m (.a 5) (.a (.j 18 [(.d 3),(.d 1)])) [(.h (.n .g (.h (.q (.d 3) 0) (.d 5)) (.g 0)) [(.h (.n .d (.d 5) (.d 2)) [(.n (.d 2) (.d 5) (.j 1 [(.d 3),(.h (.q (.d 3) 11) (.d 5)),(.I 1),(.I 1)]))] []),(.n (.d 4) (.d 5) (.h (.d 2) (.d 5)))] [])]),(.d (.C (.n .a (.x .a (.d 4)) (.g 0)) (.d 1) (.y (.d 0) 6 [(.d 1),(.d 4)])))]⟩
abbrev LV:aN:=⟨2,4,[],[(.g 2 (.h (.q (.d 0) 18) (.h (.d 1) (.g 1)))),(.g 3 (.h (.q (.d 0) 18) (.h (.d 1) (.g 2)))),(.h (.D [(.n .c (.h (.d 2) (.g 0)) (.p 12)),(.n .c (.h (.d 3) (.g 0)) (.p 12)),(.n .c (.x .a (.h (.d 2) (.g 1))) (.x .a (.h (.d 3) (.g 1))))]) [(.d (.B false))] []),.j]⟩
abbrev LW:aN:=⟨3,5,[],[(.g 3 (.q (.d 0) 21)),(.h (.j 28 [(.d 3),(.d 1)]) [(.d (.B true))] []),(.h (.D [(.G (.d 2)),(.n .c (.h (.h (.q (.d 3) 18) (.d 1)) (.g 0)) (.p 12))]) [(.d (.B false))] []),.j]⟩
abbrev LY:aN:=⟨4,8,[],[(.g 4 (.q (.d 0) 21)),(.h (.j 36 [(.d 0),(.d 2),(.d 3)]) [(.d (.p 3))] []),(.h (.D [(.n .a (.d 2) (.p 0)),(.n .a (.d 2) (.p 1))]) [(.d (.p 1))] []),(.h (.n .a (.d 1) (.p 0)) [(.d (.p 2))] []),(.h (.z [(.n .a (.x .a (.j 18 [(.d 4),(.d 1)])) (.g 0)),(.n .a (.x .a (.j 18 [(.d 4),(.d 2)])) (.g 0))]) [(.d (.C (.y (.d 0) 0 [(.d 1),(.d 2)]) (.p 1) (.p 0)))] []),(.h (.G (.j 33 [(.d 0),(.d 1),(.d 2)])) [(.d (.p 0))] []),(.g 5 (.F [])),(.g 6 (.j 34 [(.d 0),(.d 1),(.d 5)])),(.g 7 (.j 34 [(.d 0),(.d 2),(.d 5)])),(.d (.C (.y (.d 0) 0 [(.d 6),(.d 7)]) (.p 1) (.p 3)))]⟩
abbrev LZ:aN:=⟨3,3,[],[(.h (.n .a (.x .a (.d 2)) (.g 0)) [(.d (.y (.q (.d 0) 21) 4 [(.d 1)]))] []),(.d (.y (.d 0) 3 [(.d 1),(.d 2)]))]⟩
abbrev L_:aN:=⟨1,2,[],[(.g 1 (.q (.d 0) 6)),(.d (.y (.d 1) 1 [(.C (.n .g (.q (.d 0) 13) (.g 0)) (.q (.d 0) 13) (.y (.d 1) 6 [(.h (.q (.d 0) 17) (.g 1)),(.q (.d 0) 8)]))]))]⟩
abbrev Ma:aN:=⟨1,2,[],[(.h (.D [(.n .f (.q (.d 0) 13) (.g 0)),(.n .a (.x .a (.q (.d 0) 8)) (.g 0))]) [(.d (.j 38 [(.q (.d 0) 6),(.q (.d 0) 17),(.q (.d 0) 8)]))] []),(.g 1 (.j 38 [(.q (.d 0) 6),(.A .a (.t [(.p 16),(.p 2)]) (.H (.q (.d 0) 17) (.g 2) .K)),(.q (.d 0) 8)])),(.d (.y (.q (.q (.d 0) 6) 21) 4 [(.A .a (.t [(.p 16),(.q (.d 0) 13)]) (.H (.h (.q (.q (.q (.d 0) 6) 21) 18) (.d 1)) (.g 2) .K))]))]⟩
abbrev Mb:aN:=⟨1,1,[],[(.l (.d 0) 4 (.j 40 [(.d 0)]))]⟩
abbrev Mc:aN:=⟨2,6,[],[(.g 2 (.q (.d 0) 17)),(.g 3 (.h (.q (.q (.q (.d 0) 6) 21) 18) (.h (.d 2) (.g 1)))),(.h (.z [(.n .a (.h (.d 3) (.g 0)) (.p 10)),(.n .b (.h (.d 3) (.g 1)) (.q (.d 0) 8))]) [(.g 4 (.j 30 [(.q (.d 0) 8),(.F [(.h (.d 3) (.g 1)),(.d 1)])])),(.d (.L 1 [(.q (.d 0) 6),(.d 2),(.d 4),(.q (.d 0) 16),(.q (.d 0) 20)]))] []),(.g 5 (.L 1 [(.q (.d 0) 6),(.A .a (.t [(.p 16),(.d 1)]) (.H (.d 2) (.g 2) .K)),(.q (.d 0) 8),(.q (.d 0) 16),(.q (.d 0) 20)])),(.l (.d 5) 13 (.d 1)),(.d (.d 5))]⟩
abbrev Mf:aN:=⟨2,4,[],[(.g 2 (.r false [])),(.m (.a 3) (.a (.j 2 [(.q (.q (.d 0) 6) 21),(.d 1)])) [(.k (.w .a (.d 2) [(.j 50 [(.j 42 [(.d 0),(.d 3)])])]))]),(.l (.d 0) 4 (.j 8 [(.q (.q (.d 0) 6) 21),(.d 2)]))]⟩
abbrev Mh:aN:=⟨1,4,[],[(.g 1 (.q (.d 0) 6)),(.g 2 (.q (.d 0) 17)),(.g 3 (.j 39 [(.d 0)])),(.h (.n .a (.d 3) (.p 13)) [(.l (.d 0) 4 (.p 13))] [(.h (.z [(.n .a (.h (.d 2) (.g 6)) (.g 1)),(.n .a (.d 3) (.p 2))]) [(.l (.d 0) 4 (.p 2))] [(.h (.z [(.n .a (.h (.d 2) (.g 6)) (.g 1)),(.n .a (.j 0 [(.q (.d 1) 21),(.d 3)]) (.p 6))]) [(.k (.j 43 [(.d 0),(.d 3)]))] [(.h (.j 36 [(.d 1),(.d 3),(.j 35 [(.q (.d 1) 21),(.d 2)])]) [(.k (.j 41 [(.d 0)]))] [(.h (.j 29 [(.d 1),(.h (.d 2) (.g 5)),(.q (.d 0) 8)]) [.j] [(.k (.j 45 [(.d 0),(.d 2),(.d 3)]))])])])])])]⟩
abbrev Mi:aN:=⟨3,8,[],[(.g 3 (.q (.d 0) 6)),(.g 4 (.y (.d 3) 1 [(.y (.d 3) 6 [(.h (.d 1) (.g 2)),(.q (.d 0) 8)])])),(.g 5 (.q (.d 0) 8)),(.h (.n .e (.x .a (.h (.d 1) (.g 5))) (.g 0)) [.j] []),(.h (.n .a (.d 4) (.p 13)) [(.l (.d 0) 4 (.p 13)),.t] []),(.g 7 (.j 35 [(.q (.d 3) 21),(.d 1)])),(.k (.j 46 [(.d 0),(.j 37 [(.d 3),(.d 2),(.d 4),(.d 7)]),(.d 5)]))]⟩
abbrev Mj:aN:=⟨3,3,[],[(.h (.n .a (.d 1) (.p 3)) [(.k (.j 41 [(.d 0)]))] [(.h (.n .a (.d 1) (.p 1)) [(.k (.j 48 [(.d 0),(.h (.q (.d 0) 17) (.g 3)),(.d 2)]))] [(.h (.n .a (.d 1) (.p 2)) [(.k (.w .a (.q (.d 0) 5) [(.j 51 [(.d 0),(.h (.q (.d 0) 17) (.g 3)),(.d 2)])]))] []),(.k (.j 48 [(.d 0),(.h (.q (.d 0) 17) (.g 4)),(.q (.d 0) 8)]))])])]⟩
abbrev Mk:aN:=⟨3,10,[],[(.g 3 (.q (.d 0) 6)),(.g 4 (.q (.d 3) 21)),(.g 5 (.g 0)),(.q (.n .a (.h (.h (.q (.d 4) 18) (.d 1)) (.g 0)) (.p 19)) [.j]),(.d (.t [(.d 1),(.d 2)]))]⟩
abbrev Ml:aN:=⟨3,4,[],[(.r [1,2] (.j 47 [(.d 0),(.d 1),(.d 2)])),(.g 3 (.h (.q (.q (.q (.d 0) 6) 21) 18) (.d 1))),(.h (.n .c (.h (.d 3) (.g 0)) (.p 16)) [(.l (.d 0) 4 (.y (.q (.d 0) 6) 6 [(.d 1),(.d 2)])),.t] []),(.k (.y (.d 0) 2 [])),(.l (.d 0) 17 (.d 3)),(.l (.d 0) 8 (.d 2)),(.l (.d 0) 13 (.I 1))]⟩
abbrev Mm:aN:=⟨1,1,[],[(.q (.n .f (.q (.d 0) 4) (.g 0)) [(.k (.j 44 [(.d 0)]))]),(.h (.n .a (.x .a (.q (.d 0) 5)) (.g 0)) [(.d (.q (.d 0) 4))] []),(.d (.j 8 [(.q (.q (.d 0) 6) 21),(.A .a (.q (.d 0) 5) (.r true [(.q (.d 0) 4)]))]))]⟩
abbrev Mo:aN:=⟨1,2,[],[(.g 1 (.q (.d 0) 6)),(.h (.n .g (.q (.d 1) 2) (.q (.d 1) 9)) [.j] []),(.s (.d 1) 2 .a (.g 1)),(.v [(.d (.j 49 [(.d 0)]))] [(.s (.d 1) 2 .c (.g 1))])]⟩
abbrev Mq:aN:=⟨3,4,[],[(.g 3 (.L 1 [(.q (.d 0) 6),(.q (.d 0) 17),(.d 2),(.q (.d 0) 16),(.q (.d 0) 20)])),(.k (.j 48 [(.d 3),(.d 1),(.d 2)])),(.d (.C (.n .g (.q (.d 3) 4) (.g 0)) (.q (.d 3) 4) (.j 50 [(.d 3)])))]⟩
abbrev Mr:aN:=⟨3,3,[],[(.d (.j 50 [(.L 1 [(.d 0),(.d 1),(.j 24 [(.d 2),(.h (.d 1) (.g 5))]),(.g 0),(.r false [(.g 0)])])]))]⟩
abbrev Ms:aN:=⟨2,2,[],[(.d (.j 52 [(.d 0),(.d 1),(.F [])]))]⟩
abbrev Mt:aN:=⟨2,2,[],[(.h (.n .a (.h (.d 1) (.g 0)) (.p 16)) [(.d (.j 53 [(.d 0),(.d 1)]))] []),(.d (.y (.q (.d 0) 21) 4 [(.d 1)]))]⟩
abbrev Mv:aN:=⟨2,3,[],[(.g 2 (.h (.d 0) (.g 0))),(.n (.d 0) (.g 0) (.A .a (.d 2) (.g 1))),(.d (.A .b (.A .a (.h (.h (.d 0) (.g 1)) (.A .b (.d 2) (.x .a (.h (.d 0) (.g 1))))) (.A .d (.g 7) (.A .e (.d 2) (.x .a (.h (.d 0) (.g 1)))))) (.d 1)))]⟩
abbrev Mw:aN:=⟨1,11,[],[(.g 1 (.y (.d 0) 4 [(.t [(.p 3),(.u "a"),(.g 0)])])),(.g 2 (.y (.d 0) 4 [(.t [(.p 3),(.u "b"),(.g 0)])])),(.g 3 (.y (.d 0) 4 [(.t [(.p 4),(.g 0),(.g 0)])])),(.g 4 (.y (.d 0) 4 [(.t [(.p 4),(.g 1),(.g 0)])])),(.g 5 (.y (.d 0) 4 [(.t [(.p 5),(.g 1),(.u "A"),(.g 0),(.g 0)])])),(.g 6 (.y (.d 0) 4 [(.t [(.p 5),(.g 2),(.u "A"),(.g 0),(.g 0)])])),(.g 7 (.y (.d 0) 4 [(.t [(.p 5),(.g 1),(.u "B"),(.u "a"),(.g 0)])])),(.g 8 (.y (.d 0) 4 [(.t [(.p 8),(.t [(.t [(.u "p"),(.p 6),(.g 0),(.g 0)])]),(.t []),(.t []),(.t []),(.t []),(.g 0)])])),(.g 9 (.y (.d 0) 4 [(.t [(.p 8),(.t [(.t [(.u "p"),(.j 1 [(.d 0),(.u "R"),(.p 6)]),(.g 0),(.g 0)])]),(.t []),(.t []),(.t []),(.t []),(.g 0)])])),(.g 10 (.r false [(.t [(.d 5),(.r true [(.d 5),(.d 3),(.p 7)])]),(.t [(.d 1),(.r true [(.d 1),(.p 6)])]),(.t [(.d 3),(.r true [(.d 3),(.p 7)])]),(.t [(.p 6),(.r true [(.p 6)])]),(.t [(.d 6),(.r true [(.d 6),(.d 3),(.p 7)])])])),(.k (.w .b (.d 10) [(.r true [(.t [(.p 4),(.r true [(.p 4),(.p 3)])]),(.t [(.p 9),(.r true [(.p 9)])]),(.t [(.p 8),(.r true [(.p 8)])]),(.t [(.p 7),(.r true [(.p 7)])]),(.t [(.p 5),(.r true [(.p 5)])])])])),(.k (.w .b (.d 10) [(.r true [(.t [(.d 7),(.r true [(.d 7),(.d 1),(.p 6)])]),(.t [(.y (.d 0) 4 [(.t [(.p 3),(.u "a"),(.g 1)])]),(.r true [(.d 1),(.p 6)])]),(.t [(.d 8),(.r true [(.d 8)])]),(.t [(.p 3),(.r true [(.p 3)])])])])),(.k (.w .b (.d 10) [(.r true [(.t [(.d 2),(.r true [(.d 2),(.p 6)])]),(.t [(.d 4),(.r true [(.d 4),(.p 7)])]),(.t [(.d 9),(.r true [(.d 9)])]),(.t [(.p 10),(.r true [(.p 10)])]),(.t [(.p 11),(.r true [(.p 11)])])])])),(.d (.d 10))]⟩
abbrev My:aN:=⟨2,8,[],[(.m (.a 2) (.a (.t [(.p 0),(.p 13),(.p 1)])) [(.h (.n .b (.d 2) (.d 1)) [(.d (.r true [(.d 2)]))] [])]),(.g 3 (.r false [])),(.m (.a 4) (.a (.x .c (.d 1))) [(.g 5 (.h (.q (.d 0) 18) (.d 4))),(.g 6 (.C (.n .a (.h (.d 5) (.g 0)) (.p 5)) (.h (.d 5) (.g 3)) (.C (.n .b (.h (.d 5) (.g 0)) (.t [(.p 3),(.p 4)])) (.h (.d 5) (.g 1)) .N))),(.g 7 (.z [(.n .h (.d 6) .N),(.n .b (.C (.O (.d 6)) (.p 6) (.p 7)) (.d 1))])),(.h (.z [(.n .a (.h (.d 5) (.g 0)) (.p 3)),(.n .a (.h (.d 5) (.g 2)) (.g 1))]) [(.g 7 (.D [(.d 7),(.n .b (.y (.d 0) 4 [(.t [(.p 3),(.h (.d 5) (.g 1)),(.g 0)])]) (.d 1))]))] []),(.h (.z [(.G (.d 7)),(.n .d (.d 4) (.d 3))]) [(.k (.w .a (.d 3) [(.d 4)]))] [])]),(.d (.d 3))]⟩
abbrev Mz:aN:=⟨2,3,[],[(.g 2 (.j 57 [(.d 0),(.d 1)])),(.h (.n .a (.x .a (.d 2)) (.g 0)) [(.d (.p 2))] []),(.d (.C (.n .a (.x .a (.d 2)) (.g 1)) (.h (.d 2) (.g 0)) (.y (.d 0) 4 [(.t [(.p 6),(.x .b (.d 2))])])))]⟩
abbrev MA:aN:=⟨3,5,[],[(.h (.z [(.d 2),(.n .a (.j 55 [(.d 0),(.g 7)]) (.g 6))]) [(.d (.h (.r true [(.r true [(.p 0)]),(.r true [(.p 1)]),(.r true [(.p 13)])]) (.j 55 [(.d 0),(.C (.n .a (.h (.d 1) (.u "where")) (.g 0)) (.g 3) (.g 2))])))] []),(.g 3 (.r false [])),(.m (.a 4) (.b (.h (.r true [(.g 2),(.g 1),(.g 3),(.g 0)]) (.j 55 [(.d 0),(.g 4)]))) [(.k (.w .a (.d 3) [(.h (.h (.h (.d 1) (.u "store")) (.j 55 [(.d 0),(.g 19)])) (.g 0))]))]),(.d (.j 57 [(.h (.d 1) (.u "tab")),(.d 3)]))]⟩
abbrev MB:aN:=⟨3,8,[],[(.g 3 (.t [(.u "T"),(.r true [])])),(.h (.n .a (.j 55 [(.d 0),(.g 3)]) (.g 2)) [(.g 3 (.t [(.u "k"),(.H (.j 59 [(.d 0),(.d 1),(.B true)]) .K (.A .a (.d 2) (.g 1)))]))] []),(.g 4 (.t [(.u "T"),(.r true [])])),(.h (.n .c (.j 55 [(.d 0),(.g 5)]) (.g 4)) [(.g 4 (.t [(.u "k"),(.j 59 [(.d 0),(.d 1),(.B true)])])),(.h (.D [(.z [(.n .a (.h (.d 1) (.u "where")) (.g 2)),(.n .a (.d 2) (.g 2))]),(.z [(.n .a (.h (.d 1) (.u "where")) (.g 3)),(.n .f (.d 2) (.g 2))])]) [(.g 4 (.t [(.u "k"),(.j 57 [(.h (.d 1) (.u "tab")),(.A .a (.h (.d 4) (.g 1)) (.r true [(.h (.d 1) (.u "q"))]))])]))] [])] []),(.g 5 (.r false [])),(.m (.a 6) (.b (.g 2)) [(.g 7 (.A .b (.A .a (.j 55 [(.d 0),(.g 6)]) (.d 6)) (.g 6))),(.h (.z [(.n .b (.d 7) (.t [(.g 1),(.g 5)])),(.n .e (.d 2) (.d 6))]) [(.k (.w .a (.d 5) [(.t [(.u "q"),(.j 60 [(.d 0),(.d 1),(.A .c (.d 2) (.g 1))])])]))] [(.h (.n .a (.d 7) (.g 2)) [(.k (.w .a (.d 5) [(.t [(.u "|"),(.j 59 [(.d 0),(.d 1),(.B false)])])]))] [(.k (.w .a (.d 5) [(.C (.n .b (.d 7) (.t [(.g 1),(.g 3)])) (.t [(.u "k"),(.j 59 [(.d 0),(.d 1),(.B false)])]) (.t [(.u "T"),(.r true [])]))]))])])]),(.d (.t [(.d 3),(.d 4),(.h (.d 5) (.g 0)),(.h (.d 5) (.g 1)),(.h (.r true [(.g 1),(.g 1),(.g 0)]) (.j 55 [(.d 0),(.g 3)]))]))]⟩
abbrev MC:aN:=⟨3,5,[],[(.r [3,4] (.d 1)),(.h (.n .a (.d 3) (.u "q")) [(.d (.y (.h (.d 0) (.u "tab")) 4 [(.j 62 [(.d 0),(.d 4),(.d 2)])]))] []),(.d (.j 58 [(.h (.d 0) (.u "tab")),(.h (.F [(.u "T"),(.d 2),(.u "k"),(.d 4),(.u "|"),(.A .a (.d 2) (.d 4))]) (.d 3))]))]⟩
abbrev MD:aN:=⟨3,5,[],[(.g 3 (.x .b (.E (.j 61 [(.d 0),(.d 4),(.d 2)]) 4 (.a (.H (.d 1) .K (.g 4))) []))),(.d (.A .a (.A .a (.t [(.p 16)]) (.d 3)) (.t [(.t []),(.h (.d 1) (.g 4))])))]⟩
abbrev ME:aN:=⟨3,7,[],[(.h (.n .b (.H (.d 2) .K (.g 1)) (.t [(.r true [(.p 0)]),(.r true [(.p 1)]),(.r true [(.p 13)])])) [(.d (.B true))] []),(.g 3 (.r false [])),(.m (.a 4) (.a (.d 2)) [(.k (.w .a (.d 3) [(.h (.h (.h (.d 0) (.u "holders")) (.d 4)) (.g 0))]))]),(.d (.n .a (.x .a (.E (.d 5) 5 (.a (.d 1)) [(.n .a (.x .a (.E (.d 6) 6 (.a (.w .c (.h (.d 0) (.u "holders")) [(.d 5),(.r true [])])) [(.n .b (.d 6) (.d 3))])) (.g 0))])) (.g 0)))]⟩
abbrev MF:aN:=⟨2,2,[],[(.d (.D [(.n .b (.h (.d 0) (.u "q")) (.d 1)),(.n .b (.h (.d 0) (.u "t")) (.d 1))]))]⟩
abbrev MG:aN:=⟨4,5,[],[(.g 4 (.C (.n .a (.h (.h (.d 1) (.g 0)) (.g 0)) (.u "T")) (.d 2) (.h (.h (.d 1) (.g 0)) (.g 1)))),(.d (.j 66 [(.d 0),(.d 1),(.d 2),(.d 4),(.d 3)]))]⟩
abbrev MH:aN:=⟨5,8,[],[(.h (.n .a (.d 3) (.r true [(.p 13)])) [(.d (.r true [(.p 13)]))] []),(.h (.z [(.n .a (.h (.d 1) (.g 4)) (.g 1)),(.n .a (.d 3) (.r true []))]) [(.d (.r true []))] []),(.h (.z [(.n .a (.h (.d 1) (.g 4)) (.g 1)),(.n .e (.x .a (.d 3)) (.g 1))]) [(.g 5 (.r false [])),(.m (.a 6) (.a (.d 3)) [(.k (.w .b (.d 5) [(.j 66 [(.d 0),(.d 1),(.C (.z [(.d 4),(.n .a (.h (.h (.d 1) (.g 0)) (.g 0)) (.u "T"))]) (.r true [(.d 6)]) (.d 2)),(.r true [(.d 6)]),(.d 4)])]))]),(.d (.d 5))] []),(.g 7 (.C (.n .a (.h (.h (.d 1) (.g 1)) (.g 0)) (.u "T")) (.d 2) (.h (.h (.d 1) (.g 1)) (.g 1)))),(.h (.j 64 [(.d 0),(.d 3)]) [(.d (.r true [(.j 68 [(.d 0),(.d 1),(.d 2),(.d 3),(.d 4)])]))] []),(.h (.n .a (.d 7) (.r true [(.p 13)])) [(.d (.r true [(.p 13)]))] []),(.h (.j 64 [(.d 0),(.d 7)]) [(.d (.r true [(.j 68 [(.d 0),(.d 1),(.d 2),(.d 3),(.d 4)])]))] []),(.h (.z [(.n .a (.d 3) (.r true [(.p 0)])),(.n .d (.d 7) (.t [(.r true [(.p 0)]),(.r true [(.p 1)])]))]) [(.d (.A .a (.j 67 [(.d 0),(.h (.d 1) (.g 2)),(.d 2),(.d 4)]) (.j 67 [(.d 0),(.h (.d 1) (.g 3)),(.d 2),(.d 4)])))] []),(.d (.j 67 [(.d 0),(.C (.j 63 [(.d 0),(.d 3),(.d 7)]) (.h (.d 1) (.g 2)) (.h (.d 1) (.g 3))),(.d 2),(.d 4)]))]⟩
abbrev MI:aN:=⟨4,6,[],[(.r [4,5] (.d 1)),(.h (.n .a (.d 4) (.u "q")) [(.d (.j 65 [(.d 0),(.d 5),(.d 2),(.d 3)]))] []),(.d (.h (.F [(.u "T"),(.d 2),(.u "k"),(.d 5),(.u "|"),(.A .a (.d 2) (.d 5))]) (.d 4)))]⟩
abbrev MJ:aN:=⟨5,7,[],[(.g 5 (.r false [(.j 58 [(.h (.d 0) (.u "tab")),(.d 3)]),(.j 61 [(.d 0),(.h (.d 1) (.g 1)),(.d 2)])])),(.m (.a 6) (.a (.H (.d 1) (.g 2) (.g 4))) [(.h (.z [(.d 4),(.n .a (.h (.d 6) (.g 0)) (.u "q"))]) [(.k (.w .a (.d 5) [(.j 58 [(.h (.d 0) (.u "tab")),(.j 65 [(.d 0),(.h (.d 6) (.g 1)),(.d 2),(.d 4)])])]))] [(.k (.w .a (.d 5) [(.j 61 [(.d 0),(.d 6),(.d 2)])]))])]),(.d (.y (.h (.d 0) (.u "tab")) 4 [(.A .a (.A .a (.t [(.p 16)]) (.x .b (.d 5))) (.t [(.t []),(.h (.d 1) (.g 4))]))]))]⟩
abbrev MK:aN:=⟨3,4,[],[(.h (.n .d (.h (.d 0) (.u "q")) (.d 1)) [(.d (.d 1))] []),(.d (.j 57 [(.h (.d 0) (.u "tab")),(.A .a (.E (.d 3) 3 (.a (.d 1)) [(.n .c (.d 3) (.h (.d 0) (.u "q")))]) (.d 2))]))]⟩
abbrev ML:aN:=⟨3,6,[],[(.g 3 (.r false [])),(.m (.b [4,5]) (.a (.H (.d 1) .K (.g 4))) [(.k (.w .a (.d 3) [(.t [(.d 4),(.C (.n .a (.d 4) (.u "q")) (.j 70 [(.d 0),(.d 5),(.d 2)]) (.j 69 [(.d 0),(.d 5),(.d 2)]))])]))]),(.d (.t [(.h (.d 3) (.g 0)),(.h (.d 3) (.g 1)),(.h (.d 3) (.g 2)),(.h (.d 3) (.g 3)),(.h (.d 1) (.g 4))]))]⟩
abbrev MM:aN:=⟨5,11,[],[(.g 5 (.h (.d 0) (.u "tab"))),(.g 6 (.j 62 [(.d 0),(.d 2),(.r true [(.h (.d 0) (.u "t"))])])),(.g 7 (.j 52 [(.d 1),(.d 6),(.F [(.h (.h (.q (.d 5) 18) (.h (.d 0) (.u "t"))) (.g 1)),(.j 58 [(.d 5),(.d 3)])])])),(.h (.D [(.n .c (.d 7) (.j 58 [(.d 5),(.j 65 [(.d 0),(.d 2),(.d 3),(.B true)])])),(.n .c (.y (.d 1) 1 [(.d 7)]) (.d 7))]) [.j] []),(.h (.n .c (.j 53 [(.d 1),(.d 6)]) (.j 58 [(.d 5),(.j 65 [(.d 0),(.d 2),(.r true [(.h (.d 0) (.u "t"))]),(.B false)])])) [.j] []),(.g 8 (.y (.d 5) 4 [(.j 62 [(.d 0),(.d 2),(.d 3)])])),(.h (.n .c (.y (.d 1) 1 [(.d 8)]) (.j 58 [(.d 5),(.j 65 [(.d 0),(.d 2),(.d 3),(.B false)])])) [.j] []),(.g 9 (.y (.d 1) 6 [(.d 7),(.F [(.h (.h (.q (.d 5) 18) (.h (.d 0) (.u "q"))) (.g 1)),(.j 58 [(.d 5),(.d 4)])])])),(.g 10 (.j 65 [(.d 0),(.j 70 [(.d 0),(.d 2),(.d 4)]),(.j 69 [(.d 0),(.d 3),(.d 4)]),(.B true)])),(.d (.z [(.n .a (.d 9) (.j 58 [(.d 5),(.d 10)])),(.n .a (.q (.d 1) 2) (.g 0))]))]⟩
abbrev MO:aN:=⟨4,15,[],[(.g 4 (.h (.d 0) (.u "tab"))),(.g 5 (.h (.d 0) (.u "t"))),(.g 6 (.j 58 [(.d 4),(.d 3)])),(.g 7 (.j 58 [(.d 4),(.d 2)])),(.h (.n .c (.j 20 [(.d 4),(.d 7),(.d 6)]) (.j 63 [(.d 0),(.d 2),(.d 3)])) [.j] []),(.h (.D [(.n .c (.j 20 [(.d 4),(.d 7),(.p 13)]) (.B true)),(.n .c (.j 20 [(.d 4),(.p 2),(.d 6)]) (.B true)),(.G (.j 20 [(.d 4),(.d 7),(.p 1)]))]) [.j] []),(.h (.D [(.n .b (.H (.d 2) .K (.g 1)) (.t [(.r true [(.p 0)]),(.r true [(.p 1)]),(.r true [(.p 13)])])),(.n .a (.d 3) (.r true [(.p 13)]))]) [(.d (.B true))] []),(.g 8 (.E (.d 13) 13 (.a (.d 2)) [(.j 20 [(.d 4),(.d 13),(.d 6)])])),(.g 9 (.E (.d 14) 14 (.a (.d 2)) [(.G (.j 63 [(.d 0),(.r true [(.d 14)]),(.d 3)]))])),(.g 10 (.F [(.h (.h (.q (.d 4) 18) (.d 5)) (.g 1)),(.d 7)])),(.g 11 (.j 52 [(.d 1),(.t [(.p 16),(.d 5),(.d 6),(.d 5),(.p 2),(.t []),(.g 1)]),(.d 10)])),(.g 12 (.j 52 [(.d 1),(.t [(.p 16),(.d 5),(.d 6),(.p 2),(.d 5),(.t []),(.g 1)]),(.d 10)])),(.d (.z [(.n .a (.d 11) (.j 58 [(.d 4),(.d 8)])),(.n .a (.d 12) (.j 58 [(.d 4),(.d 9)])),(.n .a (.A .a (.x .a (.d 8)) (.x .a (.d 9))) (.x .a (.d 2)))]))]⟩
abbrev qZ:aN:=⟨1,12,[],[(.g 1 (.L 0 [])),(.g 2 (.L 2 [(.d 1)])),(.g 3 (.j 56 [(.d 1)])),(.g 4 (.F [(.u "tab"),(.d 1),(.u "store"),(.d 3),(.u "t"),(.j 1 [(.d 1),(.u "T")]),(.u "q"),(.j 1 [(.d 1),(.u "Q")]),(.u "where"),(.g 0),(.u "holders"),(.F [])])),(.m (.b [5,6]) (.a (.d 3)) [(.n (.h (.d 4) (.u "holders")) (.d 5) (.d 6))]),(.g 7 (.j 59 [(.d 0),(.d 4),(.B true)])),(.h (.G (.j 72 [(.d 4),(.d 2),(.d 7),(.j 59 [(.d 0),(.d 4),(.B true)])])) [.j] []),(.g 8 (.E (.h (.h (.d 3) (.j 55 [(.d 0),(.g 19)])) (.g 0)) 11 (.b (.g 3)) [])),(.h (.G (.j 72 [(.d 4),(.d 2),(.j 57 [(.d 1),(.d 8)]),(.j 59 [(.d 0),(.d 4),(.B false)])])) [.j] []),(.n (.d 4) (.u "where") (.j 55 [(.d 0),(.g 4)])),(.g 9 (.C (.n .a (.h (.d 4) (.u "where")) (.g 1)) (.j 57 [(.d 1),(.A .a (.d 7) (.r true [(.h (.d 4) (.u "q"))]))]) (.d 7))),(.g 10 (.h (.r true [(.r true []),(.r true [(.p 5)]),(.r true [(.p 4),(.p 5)]),(.r true [(.p 9),(.p 8)]),(.r true [(.p 3),(.p 4)])]) (.j 55 [(.d 0),(.g 5)]))),(.d (.j 71 [(.d 4),(.d 2),(.j 60 [(.d 0),(.d 4),(.g 2)]),(.d 9),(.d 10)]))]⟩
abbrev MP:aN:=⟨1,3,[],[(.g 1 (.E (.A .b (.d 2) (.g 99991)) 2 (.a (.H (.d 0) .K (.g 40))) [])),(.h (.n .a (.x .a (.d 1)) (.g 0)) [(.g 1 (.r true [(.g 0),(.g 0),(.g 0),(.g 4),(.g 1),(.g 1),(.g 2),(.g 2),(.g 5),(.g 1),(.g 0),(.g 0),(.g 3),(.g 1),(.g 2),(.g 0),(.g 1),(.g 0),(.g 6),(.g 3)]))] []),(.d (.j 73 [(.r false [(.g 0),(.d 1)])]))]⟩
abbrev MQ:aN:=⟨1,2,[],[(.l (.d 0) 18 (.r false [])),(.l (.d 0) 7 (.F [])),(.l (.d 0) 1 (.r true [.N])),(.l (.d 0) 0 (.r false [])),(.l (.d 0) 3 (.r false [])),(.l (.d 0) 11 (.r false [])),(.l (.d 0) 12 (.F [])),(.l (.d 0) 15 (.F [])),(.l (.d 0) 19 (.g 0)),(.l (.d 0) 14 (.g 0)),(.m (.a 1) (.a (.M (.p [(.p [(.j 1),(.u "any")]),(.p [(.j 1),(.u "unknown")]),(.p [(.j 1),(.u "never")]),(.p [(.j 1),(.u "void")]),(.p [(.j 1),(.u "undefined")]),(.p [(.j 1),(.u "null")]),(.p [(.j 1),(.u "string")]),(.p [(.j 1),(.u "number")]),(.p [(.j 2),(.j 0),(.j 0)]),(.p [(.j 2),(.j 1),(.j 0)]),(.p [(.j 1),(.u "object")]),(.p [(.j 8),(.p []),(.p []),(.p []),(.p []),(.p []),(.j 0)]),(.p [(.j 6),(.p [(.j 8),(.j 9)])]),(.p [(.j 1),(.u "error")]),(.p [(.j 2),(.j 0),(.j 1)]),(.p [(.j 2),(.j 1),(.j 1)])]))) [(.k (.y (.d 0) 4 [(.d 1)]))])]⟩
abbrev MR:aN:=⟨2,3,[],[(.h (.n .b (.d 1) (.q (.d 0) 7)) [(.d (.h (.q (.d 0) 7) (.d 1)))] []),(.g 2 (.x .a (.q (.d 0) 18))),(.k (.w .a (.q (.d 0) 18) [(.d 1)])),(.n (.q (.d 0) 7) (.d 1) (.d 2)),(.d (.d 2))]⟩
abbrev MS:aN:=⟨6,6,[],[(.l (.d 0) 6 (.d 1)),(.l (.d 0) 17 (.d 2)),(.l (.d 0) 8 (.d 3)),(.l (.d 0) 16 (.d 4)),(.l (.d 0) 20 (.d 5)),(.l (.d 0) 5 (.r false [])),(.l (.d 0) 13 (.I 1)),(.l (.d 0) 4 (.I 1))]⟩
abbrev MT:aN:=⟨1,1,[],[(.s (.d 0) 16 .a (.g 1)),(.w (.q (.d 0) 20) (.g 0) .a (.g 1)),(.h (.D [(.n .e (.q (.d 0) 16) (.q (.q (.d 0) 6) 10)),(.n .e (.h (.q (.d 0) 20) (.g 0)) (.p 4000))]) [.j] [])]⟩
abbrev MU:aN:=⟨3,3,[],[(.d (.j 20 [(.q (.d 0) 21),(.d 1),(.d 2)]))]⟩
abbrev MV:aN:=⟨2,2,[],[(.l (.d 0) 21 (.d 1)),(.l (.d 0) 2 (.g 0)),(.l (.d 0) 10 (.g 200)),(.l (.d 0) 9 (.g 40))]⟩
abbrev MW:aN:=⟨2,2,[],[(.d (.j 54 [(.d 0),(.h (.q (.q (.d 0) 21) 18) (.d 1))]))]⟩
abbrev MX:aN:=⟨3,3,[],[(.d (.j 52 [(.d 0),(.d 1),(.d 2)]))]⟩
abbrev MY:aN:=⟨3,3,[],[(.d (.j 26 [(.d 0),(.d 1),(.d 2)]))]⟩
abbrev MZ:aN:=⟨3,3,[],[(.d (.j 27 [(.d 0),(.d 1),(.d 2)]))]⟩
abbrev bv(f:FN):aN:=[CP,Lb,Lc,Ld,Lf,Lg,Lh,Li,Lj,Ll,Ln,Lp,Lq,Lr,Lu,Lw,Lx,Ly,Lz,LA,LB,LC,LD,LG,LH,LI,LJ,LK,LN,LO,LP,LQ,LR,LS,LU,LV,LW,LY,LZ,L_,Ma,Mb,Mc,Mf,Mh,Mi,Mj,Mk,Ml,Mm,Mo,Mq,Mr,Ms,Mt,Mv,Mw,My,Mz,MA,MB,MC,MD,ME,MF,MG,MH,MI,MJ,MK,ML,MM,MO,qZ,MP,MQ,MR,MS,MT,MU,MV,MW,MX,MY,MZ].getD f.val CP
end Mine.Lake
section
open PySem PySem.W PyProof.Rows
namespace Mine.Lake.S
@[inline]abbrev Mu:=List (Addr×Addr)
abbrev au(σ:St)(μ:Mu)(a:Addr):Prop:=∃(i:Nat) (o:O) (m:Addr×Addr),σ[i]?=some o/\o≠O.d/\μ[i]?=some m/\(a=m.1\/a=m.2)
@[inline]abbrev cc(t:String)(vs:Array Value)(n:Nat):Obj:={cls:=.type t,dict:=none,data:=.seq vs n,slots:=#[]}
abbrev a0(R:α->β->Prop):List α->List β->Prop
 |[]=>λc=>c=[]
 |a::as=>λc=>∃b I,c=b::I/\R a b/\a0 R as I
section
variable{α β:Type}{R R':α->β->Prop}
def a0.nil:a0 R [] []:=rfl
def a0.cons(h:R a b)(t:a0 R as I):a0 R (a::as) (b::I):=⟨b,I,rfl,h,t⟩
def a0.ind(P:List α->List β->Prop)(nil:P [] [])(cons:∀a b as I,R a b->a0 R as I->P as I->P (a::as) (b::I))(r:a0 R l m):P l m:=by
 revert m
 induction l with
 |nil=>exact λ{m} e=>(show m=[]from e)▸nil|cons a as ih=>
  intro m r;obtain⟨b,I,e,h,t⟩:=r;rw[e];exact cons a b as I h t (ih t)
def a0.mem(h:∀a b,a∈l->R a b->R' a b)(r:a0 R l m):a0 R' l m:=by
 induction l generalizing m with
 |nil=>exact r|cons a as ih=>obtain⟨b,I,e,h1,t⟩:=r;exact⟨b,I,e,h a b (.head _) h1,ih (λa b q=>h a b (.tail _ q)) t⟩
def a0.mono(h:∀a b,R a b->R' a b)(r:a0 R l m):a0 R' l m:=r.mem λa b J=>h a b
def a0.length(r:a0 R l m):l.length=m.length:=by
 refine r.ind (λ(l:List α) (m:List β)=>l.length=m.length) rfl λJ J J J J J ih=>?_;rw[bI,bI,ih]
def a0.map_eq(h:∀a b,R a b->g b=f a)(r:a0 R l m):m.map g=l.map f:=
 r.ind (λl m=>m.map g=l.map f) rfl λa b J J q J ih=>by rw[eS,eS,ih,h a b q]
def a0.get(r:a0 R l m){i:Nat}(e:l[i]?=some a):∃b,m[i]?=some b/\R a b:=by
 refine r.ind (λl m=>∀(i:Nat) (a:α),l[i]?=some a->∃b,m[i]?=some b/\R a b) (λi a e=>nomatch e) (λp b as I h t ih i a e=>?_) i a e
 induction i using dN with
 |zero=>exact⟨b,rfl,ay e▸h⟩|succ i=>exact ih i a e
def a0.append(r:a0 R l m)(r':a0 R l' m'):a0 R (l++l') (m++m'):=r.ind (λl m=>a0 R (l++l') (m++m')) r' λJ J J J h J ih=>.cons h ih
def a0.take(r:a0 R l m)(n:Nat):a0 R (l.take n) (m.take n):=by
 refine r.ind (λl m=>∀n,a0 R (l.take n) (m.take n)) (λn=>by rw[BL,BL];exact .nil) (λa b as I h t ih n=>?_) n
 induction n using dN with
 |zero=>exact .nil|succ n=>exact .cons h (ih n)
def a0.drop(r:a0 R l m)(n:Nat):a0 R (l.drop n) (m.drop n):=by
 refine r.ind (λl m=>∀n,a0 R (l.drop n) (m.drop n)) (λn=>by rw[BM,BM];exact .nil) (λa b as I h t ih n=>?_) n
 induction n using dN with
 |zero=>exact .cons h t|succ n=>exact ih n
def a0.set(r:a0 R l m)(i:Nat)(q:R a b):a0 R (l.set i a) (m.set i b):=by
 refine r.ind (λl m=>∀i,a0 R (l.set i a) (m.set i b)) (λn=>.nil) (λa b as I h t ih n=>?_) i
 induction n using dN with
 |zero=>exact .cons q t|succ n=>exact .cons h (ih n)
end
inductive fR(h:Heap)(ω:Addr->Prop)(t:String)(R:List Value->Prop)(x:Value):Prop
 |mk (a:Addr) (vs:Array Value) (n:Nat) (e:x=.ref a) (g:h.get? a=some (cc t vs n)) (w:¬ ω a) (r:R vs.toList)
mutual
noncomputable def aq(h:Heap)(ω:Addr->Prop)(μ:Mu):V->Value->Prop
 |.z=>λx=>x=.none
 |.w b=>λx=>x=.bool b
 |.j i=>λx=>∃t,x=.int i t
 |.u s=>λx=>∃t,x=.str (Str.ofString s) t
 |.p l=>fR h ω "tuple" (q4 h ω μ l)|.r l=>fR h ω "list" (q4 h ω μ l)|.o i=>λx=>∃m:Addr×Addr,μ[i]?=some m/\x=.ref m.1
noncomputable def q4(h:Heap)(ω:Addr->Prop)(μ:Mu):List V->List Value->Prop
 |[]=>λc=>c=[]
 |a::as=>λc=>∃b I,c=b::I/\aq h ω μ a b/\q4 h ω μ as I
end
@[inline]abbrev b8(h:Heap)(ω:Addr->Prop)(μ:Mu)(l:List V)(m:List Value):Prop:=a0 (aq h ω μ) l m
section
variable{h:Heap}{ω:Addr->Prop}{μ:Mu}
def mM:∀l:List V,q4 h ω μ l=b8 h ω μ l:=λl=>l.rec rfl λa as ih=>by
 show(λc=>∃b I,c=b::I/\aq h ω μ a b/\q4 h ω μ as I)=_;rw[ih];rfl
def aq.none:aq h ω μ .z .none:=rfl
def aq.bool(b:Bool):aq h ω μ (.w b) (.bool b):=rfl
def aq.int(i:Int)(t:Tok):aq h ω μ (.j i) (.int i t):=⟨t,rfl⟩
def aq.str(s:String)(t:Tok):aq h ω μ (.u s) (.str (Str.ofString s) t):=⟨t,rfl⟩
def aq.CR(l:List V):aq h ω μ (.p l)=fR h ω "tuple" (b8 h ω μ l):=aE (fR h ω "tuple") (mM l)
def aq.CU(l:List V):aq h ω μ (.r l)=fR h ω "list" (b8 h ω μ l):=aE (fR h ω "list") (mM l)
def aq.t9(r:fR h ω "tuple" (b8 h ω μ l) x):aq h ω μ (.p l) x:=cast (qe (aq.CR l).symm x) r
def aq.xG(r:fR h ω "list" (b8 h ω μ l) x):aq h ω μ (.r l) x:=cast (qe (aq.CU l).symm x) r
def aq.eL(r:aq h ω μ (.p l) x):fR h ω "tuple" (b8 h ω μ l) x:=cast (qe (aq.CR l) x) r
def aq.jU(r:aq h ω μ (.r l) x):fR h ω "list" (b8 h ω μ l) x:=cast (qe (aq.CU l) x) r
def aq.tup(e:h.get? a=some (cc "tuple" vs n))(w:¬ ω a)(r:b8 h ω μ l vs.toList):aq h ω μ (.p l) (.ref a):=aq.t9 ⟨a,vs,n,rfl,e,w,r⟩
def aq.lst(e:h.get? a=some (cc "list" vs n))(w:¬ ω a)(r:b8 h ω μ l vs.toList):aq h ω μ (.r l) (.ref a):=aq.xG ⟨a,vs,n,rfl,e,w,r⟩
def aq.ref(e:μ[i]?=some m):aq h ω μ (.o i) (.ref m.1):=⟨m,e,rfl⟩
end
def V.ind{P:V->Prop}(a:P .z)(b:∀b,P (.w b))(c:∀i,P (.j i))(d:∀s,P (.u s))(e:∀l,(∀v∈l,P v)->P (.p l))(f:∀l,(∀v∈l,P v)->P (.r l))(g:∀i,P (.o i))(v:V):P v:=
 v.rec (motive_2:=λl=>∀v∈l,P v) a b c d e f g (λJ q=>(dW q).elim) λJ J h t v q=>(bH.mp q).elim (λe=>e▸h) (t v)
def aq.mono{h:Heap}(U:∀a t vs n,h.get? a=some (cc t vs n)->¬ ω a->h'.get? a=some (cc t vs n)/\¬ bD a)
  (hm:∀(i:Nat) (m:Addr×Addr),μ[i]?=some m->aF[i]?=some m):∀{x:Value},aq h ω μ v x->aq h' bD aF v x:=by
 have seq:∀{t l x},(∀v∈l,∀x,aq h ω μ v x->aq h' bD aF v x)->fR h ω t (b8 h ω μ l) x->fR h' bD t (b8 h' bD aF l) x:=λih r=>by
  obtain⟨a,vs,n,e,g,w,r⟩:=r;exact⟨a,vs,n,e,(U a _ vs n g w).1,(U a _ vs n g w).2,r.mem λv x q=>ih v q x⟩
 exact λ{x}=>V.ind (P:=λv=>∀x,aq h ω μ v x->aq h' bD aF v x) (λJ r=>r) (λJ J r=>r) (λJ J r=>r) (λJ J r=>r)
  (λl ih x r=>aq.t9 (seq ih r.eL)) (λl ih x r=>aq.xG (seq ih r.jU)) (λi x r=>by obtain⟨m,e,q⟩:=r;exact⟨m,hm i m e,q⟩) v x
def b8.mono(U:∀a t vs n,h.get? a=some (cc t vs n)->¬ ω a->h'.get? a=some (cc t vs n)/\¬ bD a)
  (hm:∀(i:Nat) (m:Addr×Addr),μ[i]?=some m->aF[i]?=some m) (r:b8 h ω μ v x):b8 h' bD aF v x:=a0.mono (λJ J=>aq.mono U hm) r
structure dk where
 a:Program
 w:World
 K:Frag
 b:Heap
 d:Str->Option Value
 f:Str->Option Value
 p:Program
 g:List Str
 c:CN->Addr
 e:FN->Addr
@[inline]abbrev cy(f:α->β)(R:V->Value->Prop):List (α×V)->List (β×Value)->Prop:=a0 λp q=>q.1=f p.1/\R p.2 q.2
def cy.mono{α β:Type}{f:α->β}(h:∀v x,R v x->R' v x){l:List (α×V)}{m:List (β×Value)}(r:cy f R l m):cy f R' l m:=a0.mono (λJ J q=>⟨q.1,h _ _ q.2⟩) r
@[inline]abbrev eM(w:World)(R:V->Value->Prop):List (AN×V)->List DictEntry->Prop:=a0 λp e=>R p.2 e.val/\∃t,e=⟨PyData.keyHash w.params (Str.ofString p.1.name),.str (Str.ofString p.1.name) t,e.val⟩
def eM.mono(h:∀v x,R v x->R' v x)(r:eM w R l m):eM w R' l m:=a0.mono (λJ J q=>⟨h _ _ q.1,q.2⟩) r
def mN(h:Str.ofString s=Str.ofString t):s=t:=by
 rw[JX,JX]at h;simp only[Str.mk.injEq]at h;have h2:s.toList.map Char.toNat=t.toList.map Char.toNat:=by simpa using h
 have inj:∀a b:Char,a.toNat=b.toNat->a=b:=λa b e=>Char.ext (UInt32.toNat_inj.mp e);have h3:s.toList=t.toList:=by
  generalize s.toList=l at h2;generalize t.toList=m at h2
  induction l generalizing m with
  |nil=>induction m <;>simp_all|cons a l ih=>
   induction m using bo with
   |nil=>simp at h2|cons b m=>
    simp only[eS,JY]at h2;rw[inj a b h2.1,ih m h2.2]
 exact String.toList_inj.mp h3
mutual
noncomputable def dB:V->PyData
 |.z=>.none|.w b=>.bool b|.j i=>.int i|.u s=>.str (Str.ofString s)|.p l=>.tuple (eY l)|.r l=>.list (eY l)|.o _=>.none
noncomputable def eY:List V->List PyData
 |[]=>[]|a::as=>dB a::eY as
end
def M0(s:String):PyData.strOk (Str.ofString s)=true:=by
 rw[JX];simp only[PyData.strOk,List.all_toArray,List.all_map,el,qf,decide_eq_true_eq];intro c _;have h:=c.valid;simp only[UInt32.isValidChar,Nat.isValidChar]at h;show c.val.toNat < _;exact "~vwTQQd|_<mw?>Ufo;wW4V;ZQD95;t;k_" h
def V.both{P:V->Prop}{Q:List V->Prop}(a:P .z)(b:∀b,P (.w b))(c:∀i,P (.j i))(d:∀s,P (.u s))(e:∀l,Q l->P (.p l))(f:∀l,Q l->P (.r l))(g:∀i,P (.o i))(n:Q [])(k:∀x l,P x->Q l->Q (x::l)):(∀v,P v)/\∀l,Q l:=
 ⟨λv=>v.rec a b c d e f g n k,λl=>l.rec n λx l ih=>k x l (x.rec a b c d e f g n k) ih⟩
def CV:(∀v:V,(dB v).canLay0=true)/\∀l:List V,PyData.canLayAll0 (eY l)=true:=
 V.both rfl (λJ=>rfl) (λJ=>rfl) M0 (λJ h=>h) (λJ h=>h) (λJ=>rfl) rfl λJ J h t=>bh.mpr ⟨h,t⟩
def jj(v:V):(dB v).canLay0=true:=CV.1 v
def t_(l:List V):PyData.canLayAll0 (eY l)=true:=CV.2 l
def CW:(∀v:V,(dB v).depth=fc v)/\∀l:List V,PyData.depthAll (eY l)=ji l:=
 V.both rfl (λJ=>rfl) (λJ=>rfl) (λJ=>rfl) (λJ h=>aE (·+1) h) (λJ h=>aE (·+1) h) (λJ=>rfl) rfl λx l h t=>by
  show max (dB x).depth (PyData.depthAll (eY l))=max (fc x) (ji l);rw[h,t]
def q5(v:V):(dB v).depth=fc v:=CW.1 v
def XG(l:List V):PyData.depthAll (eY l)=ji l:=CW.2 l
def M1(s t:String):(Str.ofString s==Str.ofString t)=(s==t):=by
 by_cases h:s=t
 .rw[h,jN,jN]
 .rw[cD.mpr h];exact cD.mpr λe=>h (mN e)
def M2:(∀a b:V,a.pure=true->b.pure=true->PyData.eqv (dB a) (dB b)=cb a b)/\∀a b:List V,V.eV a=true->V.eV b=true->PyData.eqvAll (eY a) (eY b)=fA a b:=by
 refine V.both (P:=λa=>∀b:V,a.pure=true->b.pure=true->PyData.eqv (dB a) (dB b)=cb a b) (Q:=λa=>∀b:List V,V.eV a=true->V.eV b=true->PyData.eqvAll (eY a) (eY b)=fA a b) ?_ ?_ ?_ ?_ ?_ ?_ ?_ ?_ ?_
 .intro b _ T;induction b using Mine.Lake.V.casesOn <;>first |rfl |exact(dX T).elim
 .intro a b _ T;induction b using Mine.Lake.V.casesOn <;>first |rfl |exact(dX T).elim
 .intro a b _ T;induction b using Mine.Lake.V.casesOn <;>first |rfl |exact(dX T).elim
 .intro a b _ T;induction b using Mine.Lake.V.casesOn <;>first |rfl |exact(dX T).elim |exact M1 _ _
 .intro l ih b G T;induction b using Mine.Lake.V.casesOn <;>first |rfl |exact(dX T).elim |exact ih _ G T
 .intro l ih b G T;induction b using Mine.Lake.V.casesOn <;>first |rfl |exact(dX T).elim |exact ih _ G T
 .intro _ _ G;exact(dX G).elim
 .intro b _ _;induction b <;>rfl
 .intro x l H Y b G T
  induction b using bo with
  |nil=>rfl|cons y m=>
   have G:=bh.mp G;have T:=bh.mp T;show(PyData.eqv (dB x) (dB y)&&PyData.eqvAll (eY l) (eY m))=(cb x y&&fA l m);rw[H y G.1 T.1,Y m G.2 T.2]
def ua(a b:V):a.pure=true->b.pure=true->PyData.eqv (dB a) (dB b)=cb a b:=M2.1 a b
def xH(ih:∀v∈l,∀x,R v x->v.pure=true->∃as,Reads h x (dB v) as)(r:a0 R l m):V.eV l=true->∃as,ReadsAll h m (eY l) as:=by
 induction l generalizing m with
 |nil=>exact λQ=>⟨_,(show m=[]from r)▸ReadsAll.nil⟩|cons a l g=>
  intro J;obtain⟨b,I,e,h1,t⟩:=r;have J:=bh.mp J;obtain⟨as,ra⟩:=ih a (.head _) b h1 J.1;obtain⟨c,rc⟩:=g (λv q=>ih v (.tail _ q)) t J.2;rw[e];exact⟨_,.cons ra rc⟩
def aq.reads{ω μ}:aq h ω μ v x->v.pure=true->∃as,Reads h x (dB v) as:=by
 refine V.ind (P:=λv=>∀x,aq h ω μ v x->v.pure=true->∃as,Reads h x (dB v) as) ?_ ?_ ?_ ?_ ?_ ?_ ?_ v x
 .exact λx r Q=>⟨_,(show x=Value.none from r)▸Reads.none⟩
 .exact λb x r Q=>⟨_,(show x=Value.bool b from r)▸Reads.bool b⟩
 .intro i x r _;obtain⟨t,e⟩:=r;exact⟨_,e▸Reads.int i t⟩
 .intro i x r _;obtain⟨t,e⟩:=r;exact⟨_,e▸Reads.str _ t⟩
 .intro l ih x r J
  obtain⟨a,vs,n,e,g,w,r⟩:=r.eL;obtain⟨as,ra⟩:=xH ih r J;rw[e];exact⟨_,.tuple g rfl rfl ra⟩
 .intro l ih x r J
  obtain⟨a,vs,n,e,g,w,r⟩:=r.jU;obtain⟨as,ra⟩:=xH ih r J;rw[e];exact⟨_,.list g rfl rfl ra⟩
 .exact λQ Q Q J=>(dX J).elim
def xI:∀(l:List V) (d:Nat),V.jS l d=true->∀v∈l,V.key v d=true:=by
 intro l d h v hm
 induction l with
 |nil=>exact nomatch hm|cons a as ih=>
  have h:=bh.mp h;exact(bH.mp hm).elim (λe=>e▸h.1) (ih h.2)
def oq{P:V->Nat->Prop}(int:∀i d,P (.j i) d)(str:∀s d,P (.u s) d)(tup:∀l d,V.jS l d=true->P (.p l) (d+1)){v:V}(h:V.key v d=true):P v d:=by
 induction v using Mine.Lake.V.casesOn with
 |j i=>exact int i d|u s=>exact str s d|p l=>
  induction d using dN with
  |zero=>exact(dX h).elim|succ d=>exact tup l d h
 |_=>exact(dX h).elim
def mO{P:V->Nat->Prop}(int:∀i d,P (.j i) d)(str:∀s d,P (.u s) d)(tup:∀l d,V.jS l d=true->(∀v∈l,P v d)->P (.p l) (d+1)){v:V}(h:V.key v d=true):P v d:=by
 refine V.ind (P:=λv=>∀d,V.key v d=true->P v d) ?_ ?_ ?_ ?_ ?_ ?_ ?_ v d h
 .exact λJ h=>(dX h).elim
 .exact λJ J h=>(dX h).elim
 .exact λi d J=>int i d
 .exact λi d J=>str i d
 .intro l ih d h
  induction d using dN with
  |zero=>exact(dX h).elim|succ d=>exact tup l d h λv q=>ih v q d (xI l d h v q)
 .exact λJ J J h=>(dX h).elim
 .exact λJ J h=>(dX h).elim
def M3:∀{l:List V},(∀v∈l,v.pure=true)->V.eV l=true:=by
 intro l
 induction l with
 |nil=>exact λJ=>rfl|cons a l ih=>exact λh=>bh.mpr ⟨h a (.head _),ih λv q=>h v (.tail _ q)⟩
def V.q6(v:V)(d:Nat)(h:V.key v d=true):v.pure=true:=mO (P:=λv J=>v.pure=true) (λJ J=>rfl) (λJ J=>rfl) (λJ J J ih=>M3 ih) h
def M4:∀{m:List V},(∀a∈l,∀b∈m,cb a b=decide (a=b))->fA l m=decide (l=m):=by
 induction l with
 |nil=>intro m _;induction m <;>rfl|cons a l ih=>
  intro m h
  induction m using bo with
  |nil=>rfl|cons b m=>
   show(cb a b&&fA l m)=_;rw[h a (.head _) b (.head _),ih λa q b B=>h a (.tail _ q) b (.tail _ B)];simp only[JY,Bool.decide_and]
def M5(a b:V)(d e:Nat)(h:V.key a d=true):V.key b e=true->cb a b=decide (a=b):=by
 refine mO (P:=λa J=>∀b e,V.key b e=true->cb a b=decide (a=b)) ?_ ?_ ?_ h b e
 .refine λx J b e h=>oq (P:=λb J=>cb (.j x) b=decide (V.j x=b)) (λy J=>?_) (λJ J=>rfl) (λJ J J=>rfl) h
  show(x==y)=_;rw[JZ.mpr (show V.j x=.j y↔x=y from⟨V.j.inj,aE _⟩)];rfl
 .refine λx J b e h=>oq (P:=λb J=>cb (.u x) b=decide (V.u x=b)) (λJ J=>rfl) (λy J=>?_) (λJ J J=>rfl) h
  show(x==y)=_;rw[JZ.mpr (show V.u x=.u y↔x=y from⟨V.u.inj,aE _⟩)];rfl
 .refine λl d Y ih b e h=>oq (P:=λb J=>cb (.p l) b=decide (V.p l=b)) (λJ J=>rfl) (λJ J=>rfl) (λm e hm=>?_) h
  show fA l m=_;rw[M4 λa q b B=>ih a q b e (xI m e hm b B),JZ.mpr (show V.p l=.p m↔l=m from⟨V.p.inj,aE _⟩)]
@[inline]abbrev cV(h:Heap)(v:V)(x:Value):Prop:=aq h (λJ=>False) [] v x
def fR.ub(r:fR h ω t R x)(f:∀xs,R xs->R' xs):fR h (λJ=>False) t R' x:=by
 obtain⟨a,vs,n,e,g,w,r⟩:=r;exact⟨a,vs,n,e,g,id,f _ r⟩
def CX(h:V.eV l=true):∀v∈l,v.pure=true:=by
 induction l with
 |nil=>exact nofun|cons a l ih=>
  have h:=bh.mp h;exact λv q=>(bH.mp q).elim (λe=>e▸h.1) (ih h.2 v)
def aq.ub{ω μ}:aq h ω μ v x->v.pure=true->cV h v x:=by
 refine V.ind (P:=λv=>∀x,aq h ω μ v x->v.pure=true->cV h v x) ?_ ?_ ?_ ?_ ?_ ?_ ?_ v x
 .exact λQ r Q=>r
 .exact λQ Q r Q=>r
 .exact λQ Q r Q=>r
 .exact λQ Q r Q=>r
 .exact λl ih x r J=>.t9 (r.eL.ub λxs q=>q.mem λv x B q=>ih v B x q (CX J v B))
 .exact λl ih x r J=>.xG (r.jU.ub λxs q=>q.mem λv x B q=>ih v B x q (CX J v B))
 .exact λQ Q Q J=>(dX J).elim
def M6{h:Heap}{a:Addr}(e:h.get? a=some (cc t vs n))(e':h.get? a=some (cc t ws m)):vs=ws:=by
 have e:=e.symm.trans e';injection e with e
 injection e with _ _ e
 injection e
def M7(ih:∀v∈l,∀v'∈m,∀x,R v x->R v' x->v=v')(r:a0 R l xs)(r':a0 R m xs):l=m:=by
 induction l generalizing m xs with
 |nil=>
  induction m using bo with
  |nil=>rfl|cons b m=>
   obtain⟨y,c,e,_⟩:=r';exact nomatch (show xs=[]from r).symm.trans e
 |cons a l g=>
  obtain⟨x,h,e,h1,t⟩:=r
  induction m using bo with
  |nil=>exact nomatch e.symm.trans (show xs=[]from r')|cons b m=>
   obtain⟨y,c,e',u,w⟩:=r';injection e.symm.trans e' with p q
   rw[ih a (.head _) b (.head _) y (p▸h1) u,g (λv B v' f=>ih v (.tail _ B) v' (.tail _ f)) (q▸t) w]
def cV.inj{h:Heap}{v:V}(B:V.key v d=true)(f:V.key v' e=true):cV h v x->cV h v' x->v=v':=by
 refine mO (P:=λv Q=>∀v' e x,V.key v' e=true->cV h v x->cV h v' x->v=v') ?_ ?_ ?_ B v' e x f
 .intro i _ v' e x f r
  obtain⟨t,rfl⟩:=r;refine oq (P:=λv' Q=>cV h v' _->V.j i=v') (λj Q r=>?_) (λj Q r=>?_) (λl Q Q r=>?_) f
  .obtain⟨u,q⟩:=r;injection q with q;rw[q]
  .obtain⟨u,q⟩:=r;exact nomatch q
  .obtain⟨a,vs,n,q,_⟩:=r.eL;exact nomatch q
 .intro i _ v' e x f r
  obtain⟨t,rfl⟩:=r;refine oq (P:=λv' Q=>cV h v' _->V.u i=v') (λj Q r=>?_) (λj Q r=>?_) (λl Q Q r=>?_) f
  .obtain⟨u,q⟩:=r;exact nomatch q
  .obtain⟨u,q⟩:=r;injection q with q;rw[mN q]
  .obtain⟨a,vs,n,q,_⟩:=r.eL;exact nomatch q
 .intro l d Y ih v' e x f r
  obtain⟨a,vs,n,rfl,g,w,A⟩:=r.eL;refine oq (P:=λv' Q=>cV h v' _->V.p l=v') (λj Q r=>?_) (λj Q r=>?_) (λm e hm r'=>?_) f
  .obtain⟨u,q⟩:=r;exact nomatch q
  .obtain⟨u,q⟩:=r;exact nomatch q
  .obtain⟨p,o,J,q,s,c,r'⟩:=r'.eL
   injection q with q
   rw[<-q]at s;rw[<-M6 g s]at r';rw[M7 (λv B v' f x=>ih v B v' e x (xI m e hm v' f)) A r']
mutual
noncomputable def mP(w:World):V->Int
 |.j i=>hashInt i|.u s=>hashStr w (Str.ofString s)|.p l=>reduceHash (Builtin.Tuple.tupleHashOf (hO w l))|_=>0
noncomputable def hO(w:World):List V->List Int
 |[]=>[]|a::as=>mP w a::hO w as
end
mutual
noncomputable def jV:V->Nat
 |.p l=>jk l+1|_=>1
noncomputable def jk:List V->Nat
 |[]=>0|a::as=>jV a+jk as
end
section
variable{prog:Program}{w:World}
def cV.XH{s:Shared}{l:List V}(h:cV s.heap (.p l) (.ref a)):s.TypeIs (.ref a) "tuple" :=by
 obtain⟨p,_,_,e,g,_⟩:=h.eL;rw[e];exact⟨_,g,rfl⟩
def M8(w:World)(a:List V)(b:V):hO w (a++[b])=hO w a++[mP w b]:=by
 induction a with
 |nil=>rfl|cons c a ih=>show mP w c::hO w (a++[b])=_;rw[ih];rfl
def M9(a:List V)(b:V):jk (a++[b])=jk a+jV b:=by
 induction a with
 |nil=>exact(qg _).symm|cons c a ih=>show jV c+jk (a++[b])=jV c+jk a+jV b;rw[ih,ty]
def M'{v:V}{d:Nat}(U:V.key v d=true):∀(A:Around) (E:Value->Shared->Prop) (s:Shared) (x:Value) (Q:Int->Shared->Prop),
  A.units+2*d+4 < cLine->cV s.heap v x->Q (mP w v) {s with toks:=s.toks+jV v}->wpAny (model prog w) A (pyHash x) Q E s:=by
 refine mO (P:=λv d=>∀(A:Around) (E:Value->Shared->Prop) (s:Shared) (x:Value) (Q:Int->Shared->Prop),A.units+2*d+4 < cLine->cV s.heap v x->Q (mP w v) {s with toks:=s.toks+jV v}->wpAny (model prog w) A (pyHash x) Q E s) ?_ ?_ ?_ U
 .intro i d A E s x Q c C L
  obtain⟨t,e⟩:=C;rw[e];exact wpAny_pyHash_int L
 .intro i d A E s x Q c C L
  obtain⟨t,e⟩:=C;rw[e];exact wpAny_pyHash_str L
 .intro l d U ih A E s x Q c C h
  obtain⟨a,vs,n,e,ho,_,hi⟩:=C.eL;rw[e];have m:s.TypeIs (.ref a) "tuple" :=⟨_,ho,rfl⟩;unfold pyHash;unfold pyHashByItsType;refine aj (wpAny_cRoomFor_or (.inr ("~1JxOx<REn2JYUl" c)) ?_);refine aj (wpAny_specialOf m BN.lookup ?_);show wpAny _ _ (if(some (Value.builtin "tuple.__hash__")==some Value.none)=true then _ else _) Q E s;rw[ab (by rw[beq_builtin_none];exact dX)];refine aj (wpAny_specialOf m BN.lookup ?_);show wpAny _ _ (callSpecialIfBoundUnlessNone? (.ref a) "__hash__" _>>=_) Q E s;refine aj (wpAny_callSpecialIfBoundUnlessNone?_slot m BN (n6 BN m F.entry_tuple_hash ?_ (F.args_tuple_hash_1 _)));show wpAny _ _ (Builtin.Tuple.tupleItemsOf (.ref a)>>=_) _ _ s;refine aj (wpAny_tupleItemsOf ho rfl ?_);refine aj ?_;rw[<-Array.forIn_toList];refine wpAny_forIn_list _
   (λrest (b:Array Int) s'=>∃done left,l=done++left/\b8 s.heap (λH=>False) [] left rest/\b.toList=hO w done/\s'={s with toks:=s.toks+jk done})
   _ ?_ ?_ _ _ ⟨[],l,rfl,hi,rfl,rfl⟩
  .intro y rest b s' h
   obtain⟨done,left,J,Y,T,rfl⟩:=h
   induction left using bo with
   |nil=>exact nomatch (show y::rest=[]from Y)|cons v left=>
    obtain⟨z,o,e,h1,G⟩:=Y;injection e with e1 N
    rw[e1];refine aj (ih v (by rw[J];exact aZ.mpr (.inr (.head _))) _ _ _ _ _ (by show A.units+1+2*d+4 < cLine;exact "~=fB9Zq7DG9T7xo8?ITTY" c) h1 ?_);have fin:∃f g,l=f++g/\b8 s.heap (λH=>False) [] g rest/\(b.push (mP w v)).toList=hO w f/\({s with toks:=s.toks+jk done+jV v}:Shared)={s with toks:=s.toks+jk f}:=
     ⟨done++[v],left,by rw[J,c7];rfl,N▸G,by rw[n7,T,M8],by rw[M9,ty]⟩
    first
     |exact aG fin
     |exact aj (aG (aG fin))
  .intro b s' h'
   obtain⟨done,left,J,Y,T,rfl⟩:=h'
   induction left using bo with
   |cons v left=>obtain⟨_,_,e,_⟩:=Y;exact nomatch e|nil=>
   rw[b_]at J;rw[J]at h;show wpAny _ _ (retInt (Builtin.Tuple.tupleHashOf b.toList)) _ _ _;rw[T];refine wpAny_ret_mkInt ?_;show wpAny _ _ (if(decide (-(2:Int) ^ 63<=Builtin.Tuple.tupleHashOf (hO w done))&&decide (Builtin.Tuple.tupleHashOf (hO w done) < 2 ^ 63))=true then _ else _) Q E _;have h:Q (reduceHash (Builtin.Tuple.tupleHashOf (hO w done))) {s with toks:=s.toks+jk done+1}:=h;unfold reduceHash at h;by_cases C:(decide (-(2:Int) ^ 63<=Builtin.Tuple.tupleHashOf (hO w done))&&decide (Builtin.Tuple.tupleHashOf (hO w done) < 2 ^ 63))=true
   .rw[ah C]
    rw[ah C]at h;exact aG h
   .rw[ab C]
    rw[ab C]at h;exact aj (gU (aG h))
def M_{v:V}{d:Nat}(U:V.key v d=true):∀(n:Nat),d<=n->∀(A:Around) (E:Value->Shared->Prop) (s:Shared) (x:Value) (Q:Bool->Shared->Prop),
  cV s.heap v x->Q true s->wpAny (model prog w) A (eqIsQuiet n x) Q E s:=by
 refine mO (P:=λv d=>∀(n:Nat),d<=n->∀(A:Around) (E:Value->Shared->Prop) (s:Shared) (x:Value) (Q:Bool->Shared->Prop),cV s.heap v x->Q true s->wpAny (model prog w) A (eqIsQuiet n x) Q E s) ?_ ?_ ?_ U
 .intro i d n u A E s x Q C L
  obtain⟨t,e⟩:=C;rw[e,eqIsQuiet_byValue _ rfl];exact aG L
 .intro i d n u A E s x Q C L
  obtain⟨t,e⟩:=C;rw[e,eqIsQuiet_byValue _ rfl];exact aG L
 .intro l d U ih n u A E s x Q C h
  obtain⟨a,vs,m,e,ho,_,hi⟩:=C.eL;rw[e];have T:s.TypeIs (.ref a) "tuple" :=⟨_,ho,rfl⟩
  induction n using dN with
  |zero=>exact nomatch u|succ n=>
  unfold eqIsQuiet;refine aj (wpAny_specialOf T F.slot_tuple_eq.lookup ?_);show wpAny _ _ (isInstance (.ref a) (.type "tuple")>>=_) _ _ s;refine aj (BO T isSubtype_tuple_tuple ?_);rw[ab (show¬ ((!true)=true)from dX)];refine aj (wpAny_seqItems ho rfl ?_);refine aj ?_;show wpAny _ _ (forIn vs _ _) _ _ s;rw[<-Array.forIn_toList];refine wpAny_forIn_list _ (λrest r s'=>r.1=none/\s'=s/\∃left,(∀v∈left,v∈l)/\b8 s.heap (λH=>False) [] left rest) _ ?_ ?_ _ _ ⟨rfl,rfl,l,λH q=>q,hi⟩
  .intro y rest r s' h
   obtain⟨C,rfl,left,J,Y⟩:=h
   induction left using bo with
   |nil=>exact nomatch (show y::rest=[]from Y)|cons v left=>
    obtain⟨z,o,e,h1,G⟩:=Y;injection e with e1 N
    rw[e1];refine aj (ih v (J v (.head _)) n (BP u) _ _ _ _ _ h1 ?_);rw[ab (show¬ ((!true)=true)from dX)];exact aG ⟨rfl,rfl,left,λv q=>J v (.tail _ q),N▸G⟩
  .intro r s' h'
   obtain⟨I,g⟩:=r;obtain⟨k,rfl,_⟩:=h';have k:I=none:=k;subst k;exact aG h
end
def Na(h:∀v∈l,fc v<=d):ji l<=d:=by
 induction l with
 |nil=>exact bb _|cons a l ih=>exact Nat.max_le.mpr ⟨h a (.head _),ih λv q=>h v (.tail _ q)⟩
def Nb(v:V)(d:Nat)(h:V.key v d=true):fc v<=d:=mO (P:=λv d=>fc v<=d) (λJ J=>bb _) (λJ J=>bb _) (λJ J J ih=>wX (Na ih)) h
def Heap.SameBut.Nc{es ep}(ho:h.get? d=some o)(Y:o.data=.dict es ep)(N:Heap.SameBut d h h'):
  ∀a t vs n,h.get? a=some (cc t vs n)->¬ (λ_:Addr=>False) a->h'.get? a=some (cc t vs n)/\¬ (λ_:Addr=>False) a:=λa t vs n e J=>by
 refine⟨(N.2 a λq=>?_).trans e,id⟩;rw[q,ho]at e;simp only[Option.some.injEq]at e;rw[e]at Y;exact nomatch Y
abbrev jW(prog:Program)(w:World):HeapKind prog w (List V) where
 is h k a:=V.keys k=true/\cV h (.p k) (.ref a)
 hash k:=mP w (.p k)
 draws k:=jV (.p k)
 room A:=A.units+32 < cLine
 inj:=λ{h a x y} H T=>V.p.inj (cV.inj (v:=.p x) (d:=7) (e:=7) H.1 T.1 H.2 T.2)
 keeps:=λx ho Y N=>⟨x.1,x.2.mono (Heap.SameBut.Nc ho Y N) λJ J e=>e⟩
 pyHash:=λ{A E s k a Q} c U h=>M' (v:=.p k) (d:=7) U.1 A E s _ Q ("~D42UF7oa9GM_W^pB" c) U.2 h
 eqBool:=λ{A E s x y a b Q} c H T h=>by
  have kx:V.key (.p x) 7=true:=H.1;have g:V.key (.p y) 7=true:=T.1;obtain⟨as,ra⟩:=H.2.reads (V.q6 _ _ kx);obtain⟨I,m⟩:=T.2.reads (V.q6 _ _ g);refine SeqAt.eqBoolOverData prog w A E s _ _ _ _ as I Q ra m (jj _) (jj _) ?_ ?_
  .have:=Nb _ _ kx
   rw[q5,q5];have f:=Nat.min_le_left (fc (.p x)) (fc (.p y));exact "~8e=BOo^d>7YAEeQz?jpiSmEU" fb this c
  .rw[ua _ _ (V.q6 _ _ kx) (V.q6 _ _ g),M5 _ _ _ _ kx g]
   simpa using h
 quiet:=λ{A E s k a Q} U h=>M_ (v:=.p k) (d:=7) U.1 8 (by decide) A E s _ Q U.2 h
def cV.Nd(i:∀a vs n,h.get? a=some (cc "tuple" vs n)->h'.get? a=some (cc "tuple" vs n))(U:V.key v d=true):∀x,cV h v x->cV h' v x:=
 mO (P:=λv J=>∀x,cV h v x->cV h' v x) (λJ J J r=>r) (λJ J J r=>r) (λl d J ih x r=>by
  obtain⟨a,vs,n,e,g,w,r⟩:=r.eL;exact .t9 ⟨a,vs,n,e,i a vs n g,w,r.mem λv x B q=>ih v B x q⟩) U
@[inline]abbrev gm(R:V->Value->Prop):List (List V×V)->List (List V×Addr×Value)->Prop:=a0 λp q=>q.1=p.1/\R p.2 q.2.2
def gm.mono(h:∀v x,R v x->R' v x)(r:gm R l m):gm R' l m:=a0.mono (λJ J q=>⟨q.1,h _ _ q.2⟩) r
@[inline]abbrev uc(n:Nat):Obj:={cls:=.type "dict",dict:=none,data:=.dict #[] n,slots:=#[]}
variable(X:dk)
abbrev dt(h:Heap)(ω:Addr->Prop)(μ:Mu):O->Addr×Addr->Prop
 |.a l,m=>m.2=m.1/\∃vs n,h.get? m.1=some (cc "list" vs n)/\b8 h ω μ l vs.toList|.b,m=>m.2=m.1/\∃n,h.get? m.1=some (uc n)|.f es,m=>m.2=m.1/\∃kvs,h.DictOf (intKind X.a X.w) m.1 kvs/\cy id (aq h ω μ) es kvs|.h es,m=>m.2=m.1/\∃kvs,h.DictOf (strKind X.a X.w) m.1 kvs/\cy Str.ofString (aq h ω μ) es kvs|.g es,m=>m.2=m.1/\∃kvs,h.DictOfH (jW X.a X.w) m.1 kvs/\gm (aq h ω μ) es kvs|.e c fs,m=>m.1≠m.2/\h.get? m.1=some (instObj (X.c c) m.2)/\∃es n,h.get? m.2=some (dictOf es n)/\eM X.w (aq h ω μ) fs es|.d,_=>True
structure Kp(h h':Heap)(ω bD:Addr->Prop)(μ aF:Mu):Prop where
 b:∀a t vs n,h.get? a=some (cc t vs n)->¬ ω a->h'.get? a=some (cc t vs n)/\¬ bD a
 d:∀a vs n,h.get? a=some (cc "tuple" vs n)->h'.get? a=some (cc "tuple" vs n)
 c:∀(i:Nat) (m:Addr×Addr),μ[i]?=some m->aF[i]?=some m
def Kp.rep(k:Kp h h' ω bD μ aF){v x}(r:aq h ω μ v x):aq h' bD aF v x:=r.mono k.b k.c
def Kp.q7(k:Kp h h' ω bD μ aF){v x}(r:b8 h ω μ v x):b8 h' bD aF v x:=r.mono k.b k.c
def _root_.PySem.Heap.DictOf.at_{K:Type}[DecidableEq K]{knd:KeyKind prog w K}{h h':Heap}{a:Addr}{kvs:List (K×Value)}(x:h.DictOf knd a kvs)(e:h'.get? a=h.get? a):h'.DictOf knd a kvs:=
 by obtain⟨o,es,ep,ho,r⟩:=x;exact⟨o,es,ep,e.trans ho,r⟩
def dt.mono{ω bD:Addr->Prop}{μ aF:Mu}(k:Kp h h' ω bD μ aF){o:O}{m:Addr×Addr}(e1:h'.get? m.1=h.get? m.1)(w:h'.get? m.2=h.get? m.2)
  (r:dt X h ω μ o m):dt X h' bD aF o m:=by
 induction o using Mine.Lake.O.casesOn with
 |a l=>obtain⟨a,vs,n,b,c⟩:=r;exact⟨a,vs,n,e1.trans b,k.q7 c⟩|b=>obtain⟨a,n,b⟩:=r;exact⟨a,n,e1.trans b⟩|f es=>obtain⟨a,kvs,b,c⟩:=r;exact⟨a,kvs,b.at_ e1,cy.mono (λQ Q q=>k.rep q) c⟩|h es=>obtain⟨a,kvs,b,c⟩:=r;exact⟨a,kvs,b.at_ e1,cy.mono (λQ Q q=>k.rep q) c⟩|g es=>
  obtain⟨a,kvs,⟨o,t,ep,ho,J,Y,j,i,u⟩,c⟩:=r;exact⟨a,kvs,⟨o,t,ep,e1.trans ho,J,Y,j,λx H=>⟨(i x H).1,cV.Nd (v:=.p x.1) (d:=7) k.d (i x H).1 _ (i x H).2⟩,u⟩,gm.mono (λQ Q q=>k.rep q) c⟩
 |e c fs=>obtain⟨a,b,es,n,d,f⟩:=r;exact⟨a,e1.trans b,es,n,w.trans d,eM.mono (λQ Q q=>k.rep q) f⟩|d=>trivial
def ud{K:Type}[DecidableEq K]{knd:KeyKind prog w K}{h:Heap}{a:Addr}{kvs:List (K×Value)}(d:h.DictOf knd a kvs):∃o,h.get? a=some o/\o.cls=.type "dict" /\o.dict=none:=by
 obtain⟨o,_,_,ho,J,_⟩:=d;exact⟨o,ho,J.1,J.2.1⟩
def xJ{K:Type}[DecidableEq K]{knd:HeapKind prog w K}{h:Heap}{a:Addr}{kvs:List (K×Addr×Value)}(d:h.DictOfH knd a kvs):∃o,h.get? a=some o/\o.cls=.type "dict" /\o.dict=none:=by
 obtain⟨o,_,_,ho,J,_⟩:=d;exact⟨o,ho,J.1,J.2.1⟩
def ue(h:s≠t):Value.type s≠.type t:=λe=>h (by injection e)
def dt.at_{μ:Mu}{o:O}{m:Addr×Addr}(r:dt X h ω μ o m)(H:o≠.d){a:Addr}(G:a=m.1\/a=m.2):∃ob,h.get? a=some ob/\ob.cls≠.type "tuple" :=by
 have one:∀{ob},m.2=m.1->h.get? m.1=some ob->ob.cls≠.type "tuple" ->∃ob,h.get? a=some ob/\ob.cls≠.type "tuple" :=λq e n=>by
  rw[(G.elim id λh=>h.trans q:a=m.1)];exact⟨_,e,n⟩
 have j:m.2=m.1->(∃o,h.get? m.1=some o/\o.cls=.type "dict" /\o.dict=none)->∃ob,h.get? a=some ob/\ob.cls≠.type "tuple" :=λq e=>by
  obtain⟨o,e,c,_⟩:=e;exact one q e λz=>ue (by decide) (c.symm.trans z)
 induction o using Mine.Lake.O.casesOn with
 |a l=>obtain⟨q,vs,n,b,_⟩:=r;exact one q b (ue (by decide))|b=>obtain⟨q,n,b⟩:=r;exact one q b (ue (by decide))|f es=>obtain⟨q,kvs,d,_⟩:=r;exact j q (ud d)|h es=>obtain⟨q,kvs,d,_⟩:=r;exact j q (ud d)|g es=>obtain⟨q,kvs,d,_⟩:=r;exact j q (xJ d)|e c fs=>
  obtain⟨_,b,es,n,d,f⟩:=r;rcases G with e |e
  .rw[e];exact⟨_,b,nofun⟩
  .rw[e];exact⟨_,d,ue (by decide)⟩
 |d=>exact absurd rfl H
def dt.notTuple(r:dt X h ω μ o m)(H:o≠.d)(a:Addr)(G:a=m.1\/a=m.2)(vs n):h.get? a≠some (cc "tuple" vs n):=λe=>by
 obtain⟨ob,h1,h2⟩:=r.at_ X H G;exact h2 (aE Obj.cls (ay (h1.symm.trans e)))
structure SR(σ:St)(μ:Mu)(h:Heap):Prop where
 k:∀b o,X.b.get? b=some o->h.get? b=some o
 s:μ.length=σ.length
 p:∀(i:Nat) (m:Addr×Addr),μ[i]?=some m->X.b.get? m.1=none/\X.b.get? m.2=none/\(∃o,h.get? m.1=some o)/\(∃o,h.get? m.2=some o)
 u:∀(i j:Nat) (m m':Addr×Addr),i≠j->μ[i]?=some m->μ[j]?=some m'->m.1≠m'.1/\m.1≠m'.2/\m.2≠m'.1/\m.2≠m'.2
 g:∀(i:Nat) (o:O) (m:Addr×Addr),σ[i]?=some o->μ[i]?=some m->dt X h (au σ μ) μ o m
variable{X}
def SR.XI(R:SR X σ μ h){i:Nat}{o:O}(e:σ[i]?=some o):∃m,μ[i]?=some m:=by
 have:i < μ.length:=by rw[R.s];exact(bW.mp e).1
 exact⟨_,iC this⟩
def SR.xK(R:SR X σ μ h)(G:au σ μ a):X.b.get? a=none/\∃o,h.get? a=some o:=by
 obtain⟨i,o,m,_,_,hm,e⟩:=G;have:=R.p i m hm;rcases e with rfl |rfl
 .exact⟨this.1,this.2.2.1⟩
 .exact⟨this.2.1,this.2.2.2⟩
def SR.ou(R:SR X σ μ h)(G:au σ μ a)(vs n):h.get? a≠some (cc "tuple" vs n):=by
 obtain⟨i,o,m,ho,H,hm,e⟩:=G;exact(R.g i o m ho hm).notTuple X H a e vs n
structure bf(h:Heap)(σ:St)(μ:Mu)(h':Heap)(aw:St)(aF:Mu)(Z:Addr->Prop):Prop where
 d:∀(i:Nat) (m:Addr×Addr),μ[i]?=some m->aF[i]?=some m
 g:∀a o,h.get? a=some o->¬ au σ μ a->¬ Z a->h'.get? a=some o
 f:∀a,au aw aF a->au σ μ a\/h.get? a=none
 j:∀a o,h.get? a=some o->∃o',h'.get? a=some o'
 k:∀(i:Nat) (m:Addr×Addr),aF[i]?=some m->μ[i]?=some m\/(h.get? m.1=none/\h.get? m.2=none)
def bf.none_of{h σ μ h' aw aF Z}(a:bf h σ μ h' aw aF Z)(e:h'.get? c=none):h.get? c=none:=by
 generalize q:h.get? c=E
 induction E using aX with
 |none=>rfl|some o=>obtain⟨o',e'⟩:=a.j c o q;rw[e]at e';cases e'
def bf.refl(h σ μ Z):bf h σ μ h σ μ Z:=⟨λJ J e=>e,λJ J e J J=>e,λJ e=>.inl e,λJ o e=>⟨o,e⟩,λJ J e=>.inl e⟩
def bf.trans{h σ μ h' aw aF u p r Z}(a:bf h σ μ h' aw aF Z)(b:bf h' aw aF u p r Z):bf h σ μ u p r Z where
 d:=λi m e=>b.d i m (a.d i m e)
 g:=λc o e n z=>b.g c o (a.g c o e n z) (λq=>by
  rcases a.f c q with q |q
  .exact n q
  .rw[q]at e;cases e) z
 f:=λc q=>by
  rcases b.f c q with q |q
  .exact a.f c q
  .generalize e:h.get? c=E
   induction E using aX with
   |none=>exact .inr rfl|some o=>obtain⟨o',e'⟩:=a.j c o e;rw[q]at e';cases e'
 j:=λc o e=>let ⟨_,e'⟩:=a.j c o e;b.j c _ e'
 k:=λi m e=>(b.k i m e).elim (a.k i m) λq=>.inr ⟨a.none_of q.1,a.none_of q.2⟩
def bf.weaken{h σ μ h' aw aF}(a:bf h σ μ h' aw aF Z)(hz:∀c,Z c->Z' c):bf h σ μ h' aw aF Z':=
 ⟨a.d,λc o e n z=>a.g c o e n λq=>z (hz c q),a.f,a.j,a.k⟩
def bf.shrink{h σ μ h' aw aF}(a:bf h σ μ h' aw aF Z)(hz:∀c,Z c->Z' c\/h.get? c=none):bf h σ μ h' aw aF Z':=
 ⟨a.d,λc o e n z=>a.g c o e n λq=>(hz c q).elim z λq=>by(rw[q]at e;cases e),a.f,a.j,a.k⟩
abbrev cG(h:Heap)(Z:Addr->Prop):Prop:=∀a,Z a->∀t vs n,h.get? a≠some (cc t vs n)
@[inline]abbrev No:Addr->Prop:=λJ=>False
def cG.no(h:Heap):cG h No:=λJ f=>f.elim
def bf.kp{h σ μ h' aw aF Z}(R:SR X σ μ h)(a:bf h σ μ h' aw aF Z)(hz:cG h Z):Kp h h' (au σ μ) (au aw aF) μ aF where
 b:=λc t vs n e no=>⟨a.g c _ e no λq=>hz c q t vs n e,λq=>by
  rcases a.f c q with q |q
  .exact no q
  .rw[q]at e;cases e⟩
 d:=λc vs n e=>a.g c _ e (λq=>R.ou q vs n e) λq=>hz c q "tuple" vs n e
 c:=a.d
def aq.ext{h σ μ h' aw aF Z v x}(r:aq h (au σ μ) μ v x)(R:SR X σ μ h)(a:bf h σ μ h' aw aF Z)(hz:cG h Z):aq h' (au aw aF) aF v x:=(a.kp R hz).rep r
def b8.ext{h σ μ h' aw aF Z v x}(r:b8 h (au σ μ) μ v x)(R:SR X σ μ h)(a:bf h σ μ h' aw aF Z)(hz:cG h Z):b8 h' (au aw aF) aF v x:=(a.kp R hz).q7 r
def SR.frame(R:SR X σ μ h)(U:∀a o,h.get? a=some o->¬ Z a->h'.get? a=some o)
  (hz:∀a,Z a->¬ au σ μ a/\X.b.get? a=none) (N:cG h Z) (Y:∀a o,h.get? a=some o->∃o',h'.get? a=some o'):SR X σ μ h'/\bf h σ μ h' σ μ Z:=by
 have E:bf h σ μ h' σ μ Z:=⟨λJ J e=>e,λa o e J z=>U a o e z,λJ q=>.inl q,Y,λJ J e=>.inl e⟩;refine⟨⟨λb o e=>U b o (R.k b o e) λq=>by(rw[(hz b q).2]at e;cases e),R.s,λi m e=>?_,R.u,λi o m ho hm=>?_⟩,E⟩
 .obtain⟨h1,h2,⟨A,h3⟩,⟨C,h4⟩⟩:=R.p i m e
  exact⟨h1,h2,Y _ _ h3,Y _ _ h4⟩
 .by_cases H:o=.d
  .subst H;trivial
  have r:=R.g i o m ho hm;have live:∀a,(a=m.1\/a=m.2)->h'.get? a=h.get? a:=λa G=>by
   have v:au σ μ a:=⟨i,o,m,ho,H,hm,G⟩;obtain⟨ob,n,_⟩:=r.at_ X H G;rw[n];exact U a ob n λq=>(hz a q).1 v
  exact r.mono X (E.kp R N) (live _ (.inl rfl)) (live _ (.inr rfl))
def SR.xL(R:SR X σ μ h)(U:∀a o,h.get? a=some o->¬ Z a->h'.get? a=some o)
  (hz:∀a,Z a->¬ au σ μ a/\X.b.get? a=none) (N:cG h Z) (v:∀(i:Nat) (m:Addr×Addr),μ[i]?=some m->¬ Z m.1/\¬ Z m.2):SR X σ μ h'/\Kp h h' (au σ μ) (au σ μ) μ μ:=by
 have K:Kp h h' (au σ μ) (au σ μ) μ μ:=⟨λa t vs n e no=>⟨U a _ e λq=>N a q t vs n e,no⟩,λa vs n e=>U a _ e λq=>N a q _ vs n e,λJ J e=>e⟩;refine⟨⟨λb o e=>U b o (R.k b o e) λq=>by(rw[(hz b q).2]at e;cases e),R.s,λi m e=>?_,R.u,λi o m ho hm=>?_⟩,K⟩
 .obtain⟨h1,h2,⟨A,h3⟩,⟨C,h4⟩⟩:=R.p i m e
  exact⟨h1,h2,⟨A,U _ _ h3 (v i m e).1⟩,⟨C,U _ _ h4 (v i m e).2⟩⟩
 .obtain⟨h1,h2,⟨A,h3⟩,⟨C,h4⟩⟩:=R.p i m hm
  exact(R.g i o m ho hm).mono X K ((U _ _ h3 (v i m hm).1).trans h3.symm) ((U _ _ h4 (v i m hm).2).trans h4.symm)
def bf.Nf{σ:St}{i μ:Mu}{Z':Addr->Prop}(a:bf h₀ m i h σ μ Z)(hz:∀c,Z' c->h₀.get? c=none)(U:∀b o,h.get? b=some o->¬ Z' b->h'.get? b=some o):bf h₀ m i h' σ μ Z where
 d:=a.d
 g:=λc o e n z=>U c o (a.g c o e n z) λq=>by(rw[hz c q]at e;cases e)
 f:=a.f
 j:=λc o e=>let ⟨o',e'⟩:=a.j c o e;⟨o',U c o' e' λq=>by(rw[hz c q]at e;cases e)⟩
 k:=a.k
variable{X:dk}
def jX{l:List α}(e:l[i]?=some a):i < l.length:=(bW.mp e).1
def mQ{l:List α}(e:(l++[a])[i]?=some b):l[i]?=some b\/(i=l.length/\b=a):=by
 by_cases hi:i < l.length
 .rw[n8 hi]at e;exact .inl e
 .have h1:=jX e
  rw[ca]at h1;have h2:i=l.length:=BQ (wW h1) (BR hi);rw[h2,XC]at e;exact .inr ⟨h2,(ay e).symm⟩
def Ng{l:List α}{i:Nat}(e:l[i]?=some b):(l++[a])[i]?=some b:=by rw[n8 (jX e)];exact e
def CY{μ:Mu}{m':Addr×Addr}{i:Nat}(Y:μ.length=σ.length)(ho:(σ++[o])[i]?=some o')(hm:(μ++[m])[i]?=some m'):(σ[i]?=some o'/\μ[i]?=some m')\/(o'=o/\m'=m):=by
 rcases mQ ho with a |a
 .rcases mQ hm with b |b
  .exact .inl ⟨a,b⟩
  .exact absurd (jX a) (by rw[b.1,Y];exact tz _)
 .rcases mQ hm with b |b
  .exact absurd (jX b) (by rw[a.1,Y];exact tz _)
  .exact .inr ⟨a.2,b.2⟩
def au.append(Y:μ.length=σ.length)(h:au (σ++[o]) (μ++[m]) a):au σ μ a\/a=m.1\/a=m.2:=by
 obtain⟨i,o',m',ho,H,hm,e⟩:=h;rcases CY Y ho hm with h |h
 .exact .inl ⟨i,o',m',h.1,H,h.2,e⟩
 .rw[h.2]at e;exact .inr e
def uf{σ:St}{o:O}(e:(σ.set i o)[j]?=some o'):(i=j/\o'=o)\/(i≠j/\σ[j]?=some o'):=by
 by_cases G:i=j
 .refine .inl ⟨G,?_⟩
  have h:=jX e;rw[jb]at h;rw[G,qh h]at e;exact(ay e).symm
 .rw[qi G]at e;exact .inr ⟨G,e⟩
def au.set{σ:St}{μ:Mu}(f:σ[i]?=some I)(H:o≠.d)(J:I≠.d)(a:Addr):au (σ.set i o) μ a↔au σ μ a:=by
 constructor
 .intro h
  obtain⟨j,o',m',ho,w,hm,e⟩:=h;rcases uf ho with h |h
  .exact⟨i,I,m',f,J,h.1▸hm,e⟩
  .exact⟨j,o',m',h.2,w,hm,e⟩
 .intro h
  obtain⟨j,o',m',ho,w,hm,e⟩:=h;by_cases G:i=j
  .exact⟨i,o,m',qh (jX f),H,G▸hm,e⟩
  .exact⟨j,o',m',by rw[qi G];exact ho,w,hm,e⟩
def au.gone{σ:St}(h:au (σ.set i .d) μ a):au σ μ a/\∀m,μ[i]?=some m->(∀(j:Nat) m',i≠j->μ[j]?=some m'->m.1≠m'.1/\m.1≠m'.2/\m.2≠m'.1/\m.2≠m'.2)->a≠m.1/\a≠m.2:=by
 obtain⟨j,o',m',ho,w,hm,e⟩:=h;rcases uf ho with h |h
 .exact absurd h.2 w
 .refine⟨⟨j,o',m',h.2,w,hm,e⟩,λm f c=>?_⟩
  have:=c j m' h.1 hm;rcases e with e |e
  .rw[e];exact⟨Ne.symm this.1,Ne.symm this.2.2.1⟩
  .rw[e];exact⟨Ne.symm this.2.1,Ne.symm this.2.2.2⟩
def dt.live(r:dt X h ω μ o m)(H:o≠.d)(a:Addr)(G:a=m.1\/a=m.2):∃ob,h.get? a=some ob:=by
 obtain⟨ob,e,_⟩:=r.at_ X H G;exact⟨ob,e⟩
def dt.keep(K:Kp h h' ω bD μ aF)(r:dt X h ω μ o m)(U:∀a ob,(a=m.1\/a=m.2)->h.get? a=some ob->h'.get? a=some ob):dt X h' bD aF o m:=by
 by_cases H:o=.d
 .rw[H];trivial
 obtain⟨A,e1⟩:=r.live H m.1 (.inl rfl);obtain⟨C,w⟩:=r.live H m.2 (.inr rfl);exact r.mono X K ((U _ _ (.inl rfl) e1).trans e1.symm) ((U _ _ (.inr rfl) w).trans w.symm)
def SR.ln(R:SR X σ μ h)(e:h.get? a=none):X.b.get? a=none:=by
 generalize q:X.b.get? a=E
 induction E using aX with
 |none=>rfl|some o=>exact nomatch (R.k a o q).symm.trans e
def SR.alloc(R:SR X σ μ h)(U:∀a o,h.get? a=some o->h'.get? a=some o)
  {o:O} {m:Addr×Addr} (H:o≠.d) (h1:h.get? m.1=none) (h2:h.get? m.2=none)
  (L:∀bD aF,Kp h h' (au σ μ) bD μ aF->dt X h' bD aF o m):SR X (σ++[o]) (μ++[m]) h'/\bf h σ μ h' (σ++[o]) (μ++[m]) No:=by
 have E:bf h σ μ h' (σ++[o]) (μ++[m]) No:=⟨λi m' e=>Ng e,λa o e J J=>U a o e,
  λa q=>(au.append R.s q).imp id λq=>q.elim (λe=>e▸h1) λe=>e▸h2,λa o e=>⟨o,U a o e⟩,λi m' e=>
   (mQ e).imp id λq=>by rw[q.2];exact⟨h1,h2⟩⟩
 have K:=E.kp R (cG.no h);have n:=L _ _ K;have r:∀{a c},(∃o,h.get? a=some o)->h.get? c=none->a≠c:=λq e' z=>by
  obtain⟨o,e⟩:=q;rw[z,e']at e;exact nomatch e
 refine⟨⟨λb o e=>U b o (R.k b o e),by rw[ca,ca,R.s];rfl,λi m' e=>?_,λi j T I v e1 w=>?_,λi o' m' ho hm=>?_⟩,E⟩
 .rcases mQ e with e |q
  .obtain⟨a1,a2,C,y⟩:=R.p i m' e
   exact⟨a1,a2,E.j _ C.choose C.choose_spec,E.j _ y.choose y.choose_spec⟩
  .rw[q.2]
   exact⟨R.ln h1,R.ln h2,n.live H _ (.inl rfl),n.live H _ (.inr rfl)⟩
 .rcases mQ e1 with a1 |a1 <;>rcases mQ w with a2 |a2
  .exact R.u i j T I v a1 a2
  .obtain⟨_,_,f,Y⟩:=R.p i T a1
   rw[a2.2];exact⟨r f h1,r f h2,r Y h1,r Y h2⟩
  .obtain⟨_,_,f,Y⟩:=R.p j I a2
   rw[a1.2];exact⟨(r f h1).symm,(r Y h1).symm,(r f h2).symm,(r Y h2).symm⟩
  .exact absurd (a1.1.trans a2.1.symm) v
 .rcases CY R.s ho hm with q |q
  .exact(R.g i o' m' q.1 q.2).keep K λa ob J=>U a ob
  .rw[q.1,q.2];exact n
def SR.update{σ:St}(R:SR X σ μ h){o I:O}(f:σ[i]?=some I)(J:I≠.d)(hm:μ[i]?=some m)(H:o≠.d)
  (U:∀a ob,h.get? a=some ob->a≠m.1->a≠m.2->h'.get? a=some ob)
  (L:∀bD aF,Kp h h' (au σ μ) bD μ aF->dt X h' bD aF o m):SR X (σ.set i o) μ h'/\bf h σ μ h' (σ.set i o) μ No:=by
 have v:au σ μ m.1:=⟨i,I,m,f,J,hm,.inl rfl⟩;have Q:au σ μ m.2:=⟨i,I,m,f,J,hm,.inr rfl⟩;have Nh:Kp h h' (au σ μ) (au (σ.set i o) μ) μ μ:=⟨λc t vs n e no=>⟨U c _ e (λq=>no (q▸v)) (λq=>no (q▸Q)),λq=>no ((au.set f H J c).mp q)⟩,
  λc vs n e=>U c _ e (λq=>R.ou v vs n (q▸e)) (λq=>R.ou Q vs n (q▸e)),λ_ _ e=>e⟩
 have live:∀a,(a=m.1\/a=m.2)->∃ob,h'.get? a=some ob:=(L _ _ Nh).live H;have E:bf h σ μ h' (σ.set i o) μ No:=⟨λ_ _ e=>e,λa ob e n _=>U a ob e (λq=>n (q▸v)) (λq=>n (q▸Q)),λa q=>.inl ((au.set f H J a).mp q),λa ob e=>by
  by_cases q1:a=m.1
  .exact live a (.inl q1)
  .by_cases Y:a=m.2
   .exact live a (.inr Y)
   .exact⟨ob,U a ob e q1 Y⟩,λ_ _ e=>.inl e⟩
 have K:=E.kp R (cG.no h);refine⟨⟨λb ob e=>?_,by rw[jb];exact R.s,λj m' e=>?_,R.u,λj o' m' ho r=>?_⟩,E⟩
 .have:=R.p i m hm
  have T:=R.k b ob e;refine U b ob T (λq=>?_) (λq=>?_)
  .rw[q,this.1]at e;cases e
  .rw[q,this.2.1]at e;cases e
 .obtain⟨a1,B,⟨A,C⟩,⟨o2,y⟩⟩:=R.p j m' e
  exact⟨a1,B,E.j _ _ C,E.j _ _ y⟩
 .rcases uf ho with q |q
  .rw[<-q.1,hm]at r
   rw[q.2,<-ay r];exact L _ _ K
  .have N:=R.u i j m m' q.1 hm r
   exact(R.g j o' m' q.2 r).keep K λa ob G e=>U a ob e (λz=>G.elim (λw=>N.1 (z▸w)) λw=>N.2.1 (z▸w)) λz=>G.elim (λw=>N.2.2.1 (z▸w)) λw=>N.2.2.2 (z▸w)
def SR.freeze{σ:St}(R:SR X σ μ h){m:Addr×Addr}(f:σ[i]?=some (.a l))(hm:μ[i]?=some m):
  SR X (σ.set i .d) μ h/\bf h σ μ h (σ.set i .d) μ No/\aq h (au (σ.set i .d) μ) μ (.r l) (.ref m.1):=by
 have E:bf h σ μ h (σ.set i .d) μ No:=⟨λJ J e=>e,λa ob e n J=>e,λa q=>.inl (au.gone q).1,λa o e=>⟨o,e⟩,λJ J e=>.inl e⟩;have K:=E.kp R (cG.no h);refine⟨⟨R.k,by rw[jb];exact R.s,R.p,R.u,λj o' m' ho r=>?_⟩,E,?_⟩
 .rcases uf ho with q |q
  .rw[q.2];trivial
  .exact(R.g j o' m' q.2 r).mono X K rfl rfl
 .obtain⟨q,vs,n,b,c⟩:=R.g i _ m f hm
  exact .lst b (λq=>((au.gone q).2 m hm (λj m' G e=>R.u i j m m' G hm e)).1 rfl) (c.mono K.b K.c)
@[inline]abbrev mR:=List (Str×Nat×Bool)
abbrev c9(env:Env)(a:Addr):Prop:=a=env.locals\/∃x,env.cells.lookup x=some a
structure FR(X:dk)(env:Env)(vs:mR)(ρ:ba)(σ:St)(μ:Mu)(h:Heap):Prop where
 k:∃m,h.Ns env.locals m/\∀x i,(x,i,false)∈vs->∀v,ρ[i]?=some (some v)->∃y,m x=some y/\aq h (au σ μ) μ v y
 g:∀x i,(x,i,true)∈vs->∃a ov,env.cells.lookup x=some a/\h.IsCell a ov/\∀v,ρ[i]?=some (some v)->∃y,ov=some y/\aq h (au σ μ) μ v y
 j:∀a,c9 env a->¬ au σ μ a/\X.b.get? a=none
 d:cG h (c9 env)
 b:∀a,c9 env a->∃o,h.get? a=some o
 l:∀x a,env.cells.lookup x=some a->a≠env.locals
 p:∀x y a,env.cells.lookup x=some a->env.cells.lookup y=some a->x=y
def _root_.PySem.Heap.Ns.at_{h h':Heap}(x:h.Ns a m)(e:∀o,h.get? a=some o->h'.get? a=some o):h'.Ns a m:=
 by obtain⟨o,es,ep,ho,r⟩:=x;exact⟨o,es,ep,e o ho,r⟩
def _root_.PySem.Heap.IsCell.at_{h h':Heap}(x:h.IsCell c v)(e:∀o,h.get? c=some o->h'.get? c=some o):h'.IsCell c v:=
 by obtain⟨o,ho,Y⟩:=x;exact⟨o,e o ho,Y⟩
def FR.ext{env:Env}{vs:mR}{μ aF:Mu}(F:FR X env vs ρ σ μ h)(R:SR X σ μ h)(a:bf h σ μ h' aw aF Z)(hz:cG h Z)(Y:∀c,Z c->¬ c9 env c):
  FR X env vs ρ aw aF h':=by
 have K:=a.kp R hz;have live:∀c,c9 env c->∀o,h.get? c=some o->h'.get? c=some o:=λc U o e=>a.g c o e (F.j c U).1 λq=>Y c q U;refine⟨?_,λx i H=>?_,λc U=>⟨λq=>?_,(F.j c U).2⟩,λc U t vs n e=>?_,λc U=>?_,F.l,F.p⟩
 .obtain⟨m,hm,B⟩:=F.k
  exact⟨m,hm.at_ (live _ (.inl rfl)),λx i H v e=>(B x i H v e).imp λy q=>⟨q.1,K.rep q.2⟩⟩
 .obtain⟨c,ov,U,hi,B⟩:=F.g x i H
  exact⟨c,ov,U,hi.at_ (live _ (.inr ⟨x,U⟩)),λv e=>(B v e).imp λy q=>⟨q.1,K.rep q.2⟩⟩
 .rcases a.f c q with q |q
  .exact(F.j c U).1 q
  .obtain⟨o,ho⟩:=F.b c U
   rw[ho]at q;cases q
 .obtain⟨o,ho⟩:=F.b c U
  rw[live c U o ho]at e;exact F.d c U t vs n (ho.trans e)
 .obtain⟨o,ho⟩:=F.b c U
  exact⟨o,live c U o ho⟩
def FR.CZ(F:FR X env vs ρ σ μ h)(R:SR X σ μ h)(a:bf h σ μ h' aw aF No):FR X env vs ρ aw aF h':=
 F.ext R a (cG.no h) λJ f=>f.elim
structure fS(n:Nat)(A:Around):Prop where
 b:A.handled=none
 c:A.depth+3*n+3 < recursionLimit
 a:A.units+12*n+200 < cLine
structure et(s s':Shared):Prop where
 d:s'.os=s.os
 e:s'.gens=s.gens
def et.refl(s):et s s:=⟨rfl,rfl⟩
def et.trans{a b c:Shared}(x:et a b)(y:et b c):et a c:=⟨y.d.trans x.d,y.e.trans x.e⟩
abbrev cz(X:dk)(s:Shared)(σ:St)(μ:Mu)(aw:St)(v:V)(Q:Value->Shared->Prop):Prop:=
 ∀s' aF x,SR X aw aF s'.heap->bf s.heap σ μ s'.heap aw aF No->aq s'.heap (au aw aF) aF v x->et s s'->Q x s'
def cz.after{s s₁:Shared}{σ a j:St}{μ f:Mu}{v:V}{Q}(c:cz X s σ μ j v Q)(e:bf s.heap σ μ s₁.heap a f No)(q:et s s₁):cz X s₁ a f j v Q:=
 λs' aF x R E r S=>c s' aF x R (e.trans E) r (q.trans S)
def cz.here{s:Shared}{σ:St}{μ:Mu}{v:V}{Q}(c:cz X s σ μ σ v Q)(R:SR X σ μ s.heap){x:Value}(r:aq s.heap (au σ μ) μ v x)(t:Nat):Q x {s with toks:=t}:=
 c {s with toks:=t} μ x R (bf.refl ..) r ⟨rfl,rfl⟩
def SR.push{σ:St}{μ:Mu}{h:Heap}(R:SR X σ μ h)(o:Obj):SR X σ μ (h.push o)/\bf h σ μ (h.push o) σ μ No:=
 R.frame (λa ob e J=>gg _ e) (λJ f=>f.elim) (cG.no h) (λa ob e=>⟨ob,gg _ e⟩)
def SR.C0{σ:St}{μ:Mu}{h:Heap}(R:SR X σ μ h):¬ au σ μ h.objs.size:=λq=>let ⟨_,e⟩:=(R.xK q).2;tz _ (jc e)
def SR.ow{σ:St}{μ:Mu}{h:Heap}(R:SR X σ μ h){a:Addr}(e:h.get? a=none):¬ au σ μ a:=λq=>let ⟨_,e'⟩:=(R.xK q).2;by rw[e]at e';cases e'
def fT(h:Heap):h.get? h.objs.size=none:=by
 generalize e:h.get? h.objs.size=E
 induction E using aX with
 |none=>rfl|some o=>exact absurd (jc e) (tz _)
def cz.oz{s:Shared}{σ:St}{μ:Mu}{l:List V}{Q}(t:String){v:V}(c:cz X s σ μ σ v Q)(R:SR X σ μ s.heap){xs:Array Value}(B:v=.p l/\t= "tuple" \/v=.r l/\t= "list")
  (r:b8 s.heap (au σ μ) μ l xs.toList) (N:Nat):Q (.ref s.heap.objs.size) {s with heap:=s.heap.push {cls:=.type t,data:=.seq xs},toks:=N}:=by
 obtain⟨R',E'⟩:=R.push {cls:=.type t,data:=.seq xs};refine c _ μ _ R' E' ?_ ⟨rfl,rfl⟩;have H:(s.heap.push {cls:=.type t,data:=.seq xs}).get? s.heap.objs.size=some (cc t xs 0):=iD _ rfl;have ra:=r.ext R E' (cG.no _);rcases B with⟨rfl,rfl⟩ |⟨rfl,rfl⟩
 .exact .tup H R.C0 ra
 .exact .lst H R.C0 ra
def cz.of{s:Shared}{σ σ0 aw:St}{μ:Mu}{m v:V}{Q}(e:some (m,σ0)=some (v,aw))(c:cz X s σ μ aw v Q):cz X s σ μ σ0 m Q:=by cases e;exact c
def iO{h:Heap}{ω μ}{l:List V}{vs:Array Value}(r:b8 h ω μ l vs.toList):l.length=vs.size:=r.length
def ug{v:V}{i:Nat}(e:iI v=some i):v=.o i:=by
 induction v using Mine.Lake.V.casesOn with
 |o j=>exact aE V.o (ay e)|_=>exact bl e
def jl{v:V}{i:Int}(e:gG v=some i):v=.j i:=by
 induction v using Mine.Lake.V.casesOn with
 |j j=>exact aE V.j (ay e)|_=>exact bl e
def jm{o:O}{l:List V}(e:fe o=some l):o=.a l:=by
 induction o using Mine.Lake.O.casesOn with
 |a j=>exact aE O.a (ay e)|_=>exact bl e
def xM{o:O}{p:CN×List (AN×V)}(e:tU o=some p):o=.e p.1 p.2:=by
 induction o using Mine.Lake.O.casesOn with
 |e c fs=>exact ay e▸rfl|_=>exact bl e
inductive Ni(h:Heap)(σ:St)(μ:Mu)(p:Bool×List V)(x:Value):Prop
 |mk (a:Addr) (vs:Array Value) (n:Nat) (e:x=.ref a) (g:h.get? a=some (cc (if p.1 then "list" else "tuple") vs n)) (r:b8 h (au σ μ) μ p.2 vs.toList)
def jY{σ:St}{μ:Mu}{h:Heap}(R:SR X σ μ h){v:V}{x:Value}{p:Bool×List V}(e:bt σ v=some p)(r:aq h (au σ μ) μ v x):Ni h σ μ p x:=by
 induction v using Mine.Lake.V.casesOn with
 |p m=>obtain⟨a,vs,n,q,g,_,ra⟩:=r.eL;exact ay e▸⟨a,vs,n,q,g,ra⟩|r m=>obtain⟨a,vs,n,q,g,_,ra⟩:=r.jU;exact ay e▸⟨a,vs,n,q,g,ra⟩|o i=>
  obtain⟨m,hm,q⟩:=r;obtain⟨o,ho,e1⟩:=a9 (x:=σ[i]?) e;obtain⟨l,Y,w⟩:=cF e1;rw[jm Y]at ho;obtain⟨_,vs,n,b,c⟩:=R.g i _ m ho hm;exact w▸⟨m.1,vs,n,q,b,c⟩
 |_=>exact bl e
inductive Nj(X:dk)(h:Heap)(σ:St)(μ:Mu)(v:V)(o:O)(x:Value):Prop
 |mk (i:Nat) (m:Addr×Addr) (v:v=.o i) (ho:σ[i]?=some o) (hm:μ[i]?=some m) (e:x=.ref m.1) (r:dt X h (au σ μ) μ o m)
def jZ{σ:St}{μ:Mu}{h:Heap}(R:SR X σ μ h){v:V}{x:Value}{o:O}(e:eX σ v=some o)(r:aq h (au σ μ) μ v x):Nj X h σ μ v o x:=by
 induction v using Mine.Lake.V.casesOn with
 |o i=>obtain⟨m,hm,q⟩:=r;exact⟨i,m,rfl,e,hm,q,R.g i o m e hm⟩|_=>exact bl e
def aq.XJ{h ω μ i x}(r:aq h ω μ (.o i) x):∃m:Addr×Addr,μ[i]?=some m/\x=.ref m.1:=r
def aq.XK{h ω μ i x}(r:aq h ω μ (.j i) x):∃t,x=.int i t:=r
def aq.XM{h ω μ i x}(r:aq h ω μ (.u i) x):∃t,x=.str (Str.ofString i) t:=r
def Nk{k:Int}(h:fP k=true):-(2 ^ 63)<=k/\k < 2 ^ 63:=by
 rw[CI]at h;lia
structure Nl(n:Nat)(k:Int)(j:Nat):Prop where
 c:-(2 ^ 63)<=k
 a:k < 2 ^ 63
 f:seqIndex? k n=some j
 e:j < n
 b:0<=k->j=k.toNat
 d:k < 0->j=(k+n).toNat/\-(n:Int)<=k
def C1{n:Nat}{k:Int}{j:Nat}(h:tX n k=some j):Nl n k j:=by
 obtain⟨N,h⟩:=bN h;obtain⟨h1,h2⟩:=Nk N;by_cases f:0<=k
 .rw[ah f]at h
  obtain⟨h3,h⟩:=bN h;have h:=ay h;have U:¬ k < 0:=jO.mpr f;refine⟨h1,h2,?_,h▸h3,λJ=>h.symm,λq=>absurd q U⟩;unfold seqIndex?;rw[ab U,<-h];exact ah (by rw[b5 f,b5 (show k < n from "~LYxA;KW|DHSuLAEzEc8sc2dYmRy" og h3)];rfl)
 .rw[ab f]at h
  obtain⟨h3,h⟩:=bN h;have h:=ay h;have U:k < 0:=BS.mp f;rw[Int.add_comm]at h h3;refine⟨h1,h2,?_,by lia,λq=>absurd q f,λJ=>⟨h.symm,by lia⟩⟩;unfold seqIndex?;rw[ah U,<-h];exact ah (by rw[b5 h3,b5 (show k+n < n from "~5wzdw36|P=30W" f)];rfl)
section
variable{A:Around}{E:Value->Shared->Prop}{s:Shared}{σ:St}{μ:Mu}
abbrev fU{α β:Type}(R:α->β->Prop)(o:Option α):Option β->Prop:=λp=>match o with
 |none=>p=none|some a=>∃b,p=some b/\R a b
def C2{α β:Type}[DecidableEq α][DecidableEq β](f:α->β)(inj:∀a b,f a=f b->a=b){R:V->Value->Prop}{es:List (α×V)}{kvs:List (β×Value)}(r:cy f R es kvs)(k:α):fU R (cU k es) (valueAt kvs (f k)):=by
 refine a0.ind (λ(es:List (α×V)) (kvs:List (β×Value))=>fU R (cU k es) (valueAt kvs (f k))) rfl (λp q es kvs h J ih=>?_) r;obtain⟨a,v⟩:=p;obtain⟨b,x⟩:=q;have T:b=f a:=h.1;show fU R (if a=k then some v else cU k es) ((match decide (b=f k)with |true=>some (b,x) |false=>kvs.find? λkv=>decide (kv.1=f k)).map λ(p:β×Value)=>p.2);by_cases e:a=k
 .rw[ah e,b5 (T.trans (aE f e))];exact⟨x,rfl,h.2⟩
 .rw[ab e,cd λq=>e (inj _ _ (T.symm.trans q))];exact ih
def Nm{R:V->Value->Prop}{es:List (List V×V)}{kvs:List (List V×Addr×Value)}(r:gm R es kvs)(k:List V):fU (λv (p:Addr×Value)=>R v p.2) (cU k es) (atKey kvs k):=by
 refine a0.ind (λ(es:List (List V×V)) (kvs:List (List V×Addr×Value))=>fU (λv (p:Addr×Value)=>R v p.2) (cU k es) (atKey kvs k)) rfl (λp q es kvs h J ih=>?_) r;obtain⟨a,v⟩:=p;obtain⟨b,x⟩:=q;have T:b=a:=h.1;show fU (λv (p:Addr×Value)=>R v p.2) (if a=k then some v else cU k es) ((match decide (b=k)with |true=>some (b,x) |false=>kvs.find? λx=>decide (x.1=k)).map λ(p:List V×Addr×Value)=>p.2);by_cases e:a=k
 .rw[ah e,b5 (T.trans e)];exact⟨x,rfl,h.2⟩
 .rw[ab e,cd λq=>e (T.symm.trans q)];exact ih
def uh{prog:Program}{w:World}{K:Type}[DecidableEq K](knd:KeyKind prog w K){h:Heap}{a:Addr}{n:Nat}(e:h.get? a=some (uc n)):h.DictOf knd a []:=
 ⟨_,#[],n,e,⟨rfl,rfl,rfl⟩,rfl,λJ H=>by simp at H,.nil,iE⟩
def Nn{prog:Program}{w:World}{K:Type}[DecidableEq K](knd:HeapKind prog w K){h:Heap}{a:Addr}{n:Nat}(e:h.get? a=some (uc n)):h.DictOfH knd a []:=
 ⟨_,#[],n,e,⟨rfl,rfl,rfl⟩,rfl,rfl,λJ H=>by simp at H,iE⟩
inductive xN(o:O)(m:Addr×Addr){α:Type}(P:α->Prop):Prop
 |mk (k:α) (g:o≠.d) (q:m.2=m.1) (d:P k)
def lq{h:Heap}{ω:Addr->Prop}{o:O}{m:Addr×Addr}{es:List (Int×V)}(e:gj o=some es)(r:dt X h ω μ o m):xN o m λkvs=>h.DictOf (intKind X.a X.w) m.1 kvs/\cy id (aq h ω μ) es kvs:=by
 induction o using Mine.Lake.O.casesOn with
 |b=>obtain⟨q,n,b⟩:=r;exact⟨[],nofun,q,uh _ b,ay e▸a0.nil⟩|f es=>obtain⟨q,kvs,d,c⟩:=r;exact⟨kvs,nofun,q,d,ay e▸c⟩|_=>exact bl e
def C3{h:Heap}{ω:Addr->Prop}{o:O}{m:Addr×Addr}{es:List (String×V)}(e:qR o=some es)(r:dt X h ω μ o m):xN o m λkvs=>h.DictOf (strKind X.a X.w) m.1 kvs/\cy Str.ofString (aq h ω μ) es kvs:=by
 induction o using Mine.Lake.O.casesOn with
 |b=>obtain⟨q,n,b⟩:=r;exact⟨[],nofun,q,uh _ b,ay e▸a0.nil⟩|h es=>obtain⟨q,kvs,d,c⟩:=r;exact⟨kvs,nofun,q,d,ay e▸c⟩|_=>exact bl e
def C4{h:Heap}{ω:Addr->Prop}{o:O}{m:Addr×Addr}{es:List (List V×V)}(e:qS o=some es)(r:dt X h ω μ o m):xN o m λkvs=>h.DictOfH (jW X.a X.w) m.1 kvs/\gm (aq h ω μ) es kvs:=by
 induction o using Mine.Lake.O.casesOn with
 |b=>obtain⟨q,n,b⟩:=r;exact⟨[],nofun,q,Nn _ b,ay e▸a0.nil⟩|g es=>obtain⟨q,kvs,d,c⟩:=r;exact⟨kvs,nofun,q,d,ay e▸c⟩|_=>exact bl e
inductive xO(X:dk)(h:Heap)(ω:Addr->Prop)(μ:Mu)(d:Addr)(v:V)(y:Value)(ov:Option V):Prop
 |e (k t) (f:Int->Option Value) (ev:v=.j k) (ey:y=.int k t) (m:h.MapOf (intKind X.a X.w) d f) (r:fU (aq h ω μ) ov (f k))
 |c (k t) (f:Str->Option Value) (ev:v=.u k) (ey:y=.str (Str.ofString k) t) (m:h.MapOf (strKind X.a X.w) d f) (r:fU (aq h ω μ) ov (f (Str.ofString k)))
 |b (k a) (xs:List (List V×Addr×Value)) (ev:v=.p k) (ey:y=.ref a) (i:(jW X.a X.w).is h k a) (m:h.DictOfH (jW X.a X.w) d xs) (r:fU (λv (p:Addr×Value)=>aq h ω μ v p.2) ov (atKey xs k))
def C5{h:Heap}{ω:Addr->Prop}{μ:Mu}{k:List V}{x:Value}(U:V.keys k=true)(r:aq h ω μ (.p k) x):∃a,x=.ref a/\(jW X.a X.w).is h k a:=by
 obtain⟨a,vs,n,e,g,w,ra⟩:=(r.ub (V.q6 (.p k) 7 U)).eL;exact⟨a,e,U,.tup g w ra⟩
def xP{h:Heap}{ω:Addr->Prop}{d:O}{m:Addr×Addr}(C:dt X h ω μ d m){k:V}{x:Value}{ov:Option V}(e:iJ d k=some ov)(r:aq h ω μ k x):xO X h ω μ m.1 k x ov:=by
 induction k using Mine.Lake.V.casesOn with
 |j k=>
  obtain⟨es,J,e⟩:=cF (x:=gj d) e;obtain⟨kvs,_,_,Y,U⟩:=lq J C;obtain⟨t,ex⟩:=r;exact .e k t _ rfl ex Y.mapOf (e▸C2 id (λQ Q e=>e) U k)
 |u k=>
  obtain⟨es,J,e⟩:=cF (x:=qR d) e;obtain⟨kvs,_,_,Y,U⟩:=C3 J C;obtain⟨t,ex⟩:=r;exact .c k t _ rfl ex Y.mapOf (e▸C2 Str.ofString (λQ Q e=>mN e) U k)
 |p k=>
  obtain⟨y,e⟩:=bN (x:=(qS d).map (cU k)) e;obtain⟨es,J,e⟩:=cF e;obtain⟨kvs,_,_,Y,U⟩:=C4 J C;obtain⟨a,ex,hi⟩:=C5 (X:=X) y r;exact .b k a kvs rfl ex hi Y (e▸Nm U k)
 |_=>exact bl e
def C6{h:Heap}{ω:Addr->Prop}{d:Addr}{k x ov}(q:xO X h ω μ d k x ov):∃o,h.get? d=some o/\o.cls=.type "dict" :=by
 induction q with
 |e _ _ _ _ _ hm _=>obtain⟨o,es,ep,ho,J,_⟩:=hm;exact⟨o,ho,J.1⟩|c _ _ _ _ _ hm _=>obtain⟨o,es,ep,ho,J,_⟩:=hm;exact⟨o,ho,J.1⟩|b _ _ _ _ _ _ hm _=>obtain⟨o,ho,h1,_⟩:=xJ hm;exact⟨o,ho,h1⟩
def fS.tupK{n:Nat}(j:fS n A):A.in1.units+32 < cLine:=by
 have:=j.a;show A.units+1+32 < cLine;exact "~=eZJ?P^8VR0g74l|aifC" this
def C7{o i v:V}{x y:Value}{aw:St}{n:Nat}{Q:Value->Shared->Prop}(R:SR X σ μ s.heap)(hA:fS n A)(g:aq s.heap (au σ μ) μ o x)(ri:aq s.heap (au σ μ) μ i y)
  (e:dj o i σ=some (v,aw)) (c:cz X s σ μ aw v Q):
  ∃T id,s.TypeIs x T/\typeLookup (.type T) "__getitem__" =pure (some (.builtin id))/\wpAny (model X.a X.w) A (getItem x y) Q E s:=by
 rcases lh e with⟨p,N,e⟩ |⟨_,e⟩
 .obtain⟨a,vs,m,ex,G,ra⟩:=jY R N g
  obtain⟨ki,Np,e⟩:=a9 e;obtain⟨j,hj,e⟩:=a9 e;obtain⟨w,hw,e⟩:=cF e;rw[jl Np]at ri;obtain⟨t,ey⟩:=ri;have I:=C1 hj;obtain⟨z,hz,H⟩:=ra.get hw;rw[eJ]at hz;have hsz:=iO ra;rw[hsz]at I;have c:=(cz.of (aE some e) c).here R H;rw[ex,ey];generalize J:p.1=x_
  induction x_ using aS with
  |false=>
   rw[J]at G;exact⟨"tuple",_,⟨_,G,rfl⟩,BU.lookup,getItem_tuple ⟨_,G,rfl,m,rfl⟩ I.c I.a I.f hz (c _)⟩
  |true=>
   rw[J]at G;refine⟨"list",_,⟨_,G,rfl⟩,list_getitem_lookup,?_⟩;by_cases U:0<=ki
   .exact wpAny_getItem_list ⟨_,G,rfl,m,rfl⟩ U I.a (I.b U▸hz) (c _)
   .obtain⟨h7,h8⟩:=I.d (BS.mp U)
    exact wpAny_getItem_list_neg ⟨_,G,rfl,m,rfl⟩ (BS.mp U) h8 I.c (h7▸hz) (c _)
 .obtain⟨d,Y,e⟩:=a9 e
  obtain⟨r,C,e⟩:=a9 e;obtain⟨w,hw,e⟩:=cF e;obtain⟨L,m,_,ho,hm,ex,xQ⟩:=jZ R Y g;have q:=xP xQ C ri;obtain⟨ob,xR,h⟩:=C6 q;have c:=cz.of (aE some e) c;rw[ex];refine⟨"dict",_,⟨ob,xR,h⟩,slot_dict_getitem.lookup,?_⟩;rw[hw]at q
  induction q with
  |e k t f _ ey u B=>
   obtain⟨z,hz,H⟩:=B;rw[ey];exact wpAny_getItem_of (n9 _ _ _ _) u hz (c.here R H _)
  |c k t f _ ey u B=>
   obtain⟨z,hz,H⟩:=B;rw[ey];exact wpAny_getItem_of (tA _ _ _ _) u hz (c.here R H _)
  |b k a xs _ ey hi u B=>
   obtain⟨z,hz,H⟩:=B;rw[ey];exact wpAny_getItem_heap (knd:=Mine.Lake.S.jW X.a X.w) hA.tupK hi u hz (c.here R H _)
end
section
variable{A:Around}{E:Value->Shared->Prop}{s:Shared}{σ:St}{μ:Mu}
def Nq(H:x.pure=true):∀{l:List V},V.eV l=true->(eY l).any (λy=>PyData.eqv y (dB x))=l.any (λy=>cb y x):=by
 intro l
 induction l with
 |nil=>exact λJ=>rfl|cons a as ih=>
  intro h;have h:=bh.mp h;show(PyData.eqv (dB a) (dB x)||(eY as).any λy=>PyData.eqv y (dB x))=(cb a x||as.any λy=>cb y x);rw[ua a x h.1 H,ih h.2]
def C8(j:fS n A)(h:decide (k<=8)=true):A.units+1+min m k < cLine:=by
 have h1:=aL (Nat.min_le_right m k) (mq h);have:=j.a;exact "~Fpa??Bl0dh8WcD6lqtL;cw^h|h?mD" fb h1 this
def ui(h:(a&&b&&c)=true):a=true/\b=true/\c=true:=by
 have h1:=bh.mp h;have h2:=bh.mp h1.1;exact⟨h2.1,h2.2,h1.2⟩
def C9(low:∃o,X.b.get? sysModules=some o)(R:SR X σ μ s.heap)(j:fS n A)(rx:aq s.heap (au σ μ) μ v x)(rc:aq s.heap (au σ μ) μ c y)
  (e:g_ σ v c=some r):((∀t,Q (.bool r) {s with toks:=t})->wpAny (model X.a X.w) A (compareOp .In x y) Q E s)/\
   ((mG v).isNone=true->(∀t,Q (.bool (!r)) {s with toks:=t})->wpAny (model X.a X.w) A (compareOp .NotIn x y) Q E s):=by
 rcases lh e with h |h
 .obtain⟨p,N,e⟩:=h
  obtain⟨J,e⟩:=bN e;obtain⟨T,w,j0⟩:=ui J;obtain⟨a,vs,m,ex,G,ra⟩:=jY R N rc;obtain⟨as,g⟩:=xH (λv _ x q J=>q.reads J) ra T;obtain⟨I,uj⟩:=rx.reads w;have Y:A.units+1+min (PyData.depthAll (eY p.2)) (dB v).depth < cLine:=by
   rw[q5];exact C8 j j0
  rw[ex,<-ay e,<-Nq w T];generalize U:p.1=x_
  induction x_ using aS with
  |true=>
   rw[U]at G;exact⟨λc=>SeqAt.in_list_reads (.list G rfl rfl g) uj (t_ _) (jj v) Y (c _),λ_ c=>SeqAt.notIn_list_reads (.list G rfl rfl g) uj (t_ _) (jj v) Y (c _)⟩
  |false=>
   rw[U]at G;exact⟨λc=>SeqAt.in_tuple_reads (.tuple G rfl rfl g) uj (t_ _) (jj v) Y (c _),λ_ c=>SeqAt.notIn_tuple_reads (.tuple G rfl rfl g) uj (t_ _) (jj v) Y (c _)⟩
 .obtain⟨d,Y,e⟩:=a9 h.2
  obtain⟨ov,H,e⟩:=cF e;obtain⟨L,m,_,ho,hm,ey,C⟩:=jZ R Y rc;have z:(m.1==sysModules)=false:=by
   obtain⟨o,ho⟩:=low;exact cD.mpr λq=>bl ((R.p L m hm).1.symm.trans (q▸ho))
  have i:∀{β:Type} {P:V->β->Prop} {f:Option β},fU P ov f->f.isSome=r:=λ{β P f} h=>by
   rw[<-e]
   induction ov using aX with
   |none=>rw[show f=none from h];rfl|some v=>obtain⟨b,hb,_⟩:=h;rw[hb];rfl
  rw[ey];cases xP C H rx with
  |e k t f _ ex u B=>
   rw[ex];exact⟨λc=>wpAny_in_of (n9 _ _ _ _) z u (by rw[i B];exact c _),λ_ c=>wpAny_notIn_of (n9 _ _ _ _) z u (by rw[i B];exact c _)⟩
  |c k t f _ ex u B=>
   rw[ex];exact⟨λc=>wpAny_in_of (tA _ _ _ _) z u (by rw[i B];exact c _),λ_ c=>wpAny_notIn_of (tA _ _ _ _) z u (by rw[i B];exact c _)⟩
  |b k a xs ev ex hi u B=>
   rw[ex];refine⟨λc=>wpAny_in_heap (knd:=jW X.a X.w) j.tupK hi z u (by rw[i B];exact c _),λh=>?_⟩;rw[ev]at h;exact b7 h
abbrev q8:lg->CmpOp
 |.a=>.Eq |.c=>.NotEq |.f=>.Lt |.i=>.LtE |.e=>.Gt |.g=>.GtE |.b=>.In |.d=>.NotIn |.j=>.Is |.h=>.IsNot
def Nr(e:oj a b g=some r)(ra:aq h ω μ a x)(m:aq h ω μ b y):∃i j t u,x=.int i t/\y=.int j u/\g i j=r:=by
 obtain⟨i,hi,e⟩:=a9 e;obtain⟨j,G,e⟩:=cF e;rw[jl hi]at ra;rw[jl G]at m;obtain⟨t,ex⟩:=ra;obtain⟨u,ey⟩:=m;exact⟨i,j,t,u,ex,ey,e⟩
def C'(j:fS n A)(h:decide (fc b<=8)=true):A.units+min (dB a).depth (dB b).depth < cLine:=by
 rw[q5,q5];exact fK (Nat.add_le_add_right (tB _) _) (C8 j h)
def Nu(low:∃o,X.b.get? sysModules=some o)(R:SR X σ μ s.heap)(U:fS n A)(ra:aq s.heap (au σ μ) μ a x)(m:aq s.heap (au σ μ) μ b y)
  (e:de op a b σ=some (v,aw)) (c:cz X s σ μ aw v Q):wpAny (model X.a X.w) A (compareOp (q8 op) x y) Q E s:=by
 obtain⟨r,e,q⟩:=cF e;have c:∀t,Q (.bool r) {s with toks:=t}:=(cz.of (aE some q) c).here R (.bool _);have int:∀{g:Int->Int->Bool},oj a b g=some r->(∀i j t u,Q (.bool (g i j)) {s with toks:=s.toks}->wpAny (model X.a X.w) A (compareOp (q8 op) (.int i t) (.int j u)) Q E s)->wpAny (model X.a X.w) A (compareOp (q8 op) x y) Q E s:=λe k=>by
  obtain⟨i,j,t,u,ex,ey,q⟩:=Nr e ra m;rw[ex,ey];exact k i j t u (q▸c _)
 induction op using Mine.Lake.lg.casesOn with
 |a=>
  obtain⟨J,e⟩:=bN e;obtain⟨h1,h2,h3⟩:=ui J;obtain⟨as,Y⟩:=ra.reads h1;obtain⟨I,p⟩:=m.reads h2;exact SeqAt.compareEq_reads Y p (jj a) (jj b) (C' U h3) (by rw[ua a b h1 h2,ay e];exact c _)
 |c=>
  obtain⟨J,e⟩:=bN e;obtain⟨h1,h2,h3⟩:=ui J;obtain⟨as,Y⟩:=ra.reads h1;obtain⟨I,p⟩:=m.reads h2;exact SeqAt.compareNe_reads Y p (jj a) (jj b) (C' U h3) (by rw[ua a b h1 h2,ay e];exact c _)
 |f=>exact int e λH H H H=>PySem.P.lt_int|i=>exact int e λH H H H=>PySem.P.le_int|e=>exact int e λH H H H=>PySem.P.gt_int|g=>exact int e λH H H H=>PySem.P.ge_int|b=>exact(C9 low R U ra m e).1 c|d=>
  obtain⟨h1,e⟩:=bN e;obtain⟨r',e,q⟩:=cF e;exact(C9 low R U ra m e).2 h1 (q▸c)
 |j=>exact bl e|h=>
  obtain⟨h1,e⟩:=bN e;have c:=c s.toks
  induction b using Mine.Lake.V.casesOn with
  |z=>
   rw[show y=.none from m]
   induction a using Mine.Lake.V.casesOn with
   |z=>rw[<-ay e]at c;rw[show x=.none from ra];exact J0 rfl c|j i=>obtain⟨t,ex⟩:=ra;rw[<-ay e]at c;rw[ex];exact J0 rfl c|u i=>obtain⟨t,ex⟩:=ra;rw[<-ay e]at c;rw[ex];exact J0 rfl c|_=>exact bl e
  |_=>exact b7 h1
def C_{k:Int}(h:k < 0)(n:Nat):n - (-k).toNat=((n:Int)+k).toNat:=by
 have e:((-k).toNat:Int)=-k:=BK (Int.neg_nonneg_of_nonpos (kN h));rw[show(n:Int)+k=n - ((-k).toNat:Int)by rw[e,Int.sub_neg],Int.toNat_sub]
def Db(k:Int)(n:Nat):(if k < 0 then max (k+n) 0 else min k n)=((kms_lo (some k) n:Nat):Int):=by
 show _=(((if k < 0 then n - (-k).toNat else min k.toNat n):Nat):Int);by_cases h:k < 0
 .rw[ah h,ah h,C_ h,Int.add_comm];exact(Int.ofNat_toNat _).symm
 .rw[ab h,ab h,Lean.Omega.Int.ofNat_min,BK (jO.mp h)]
def Dc(k:Int)(n:Nat):kms_lo (some k) n=oi n k:=by
 show(if k < 0 then n - (-k).toNat else min k.toNat n)=if k < 0 then((n:Int)+k).toNat else min n k.toNat;by_cases h:k < 0
 .rw[ah h,ah h];exact C_ h n
 .rw[ab h,ab h,Nat.min_comm]
def Nv(hi:Option Int)(n:Nat):kms_hi hi n<=n:=by
 induction hi using aX with
 |none=>exact av _|some k=>
  show(if k < 0 then n - (-k).toNat else min k.toNat n)<=n;by_cases h:k < 0
  .rw[ah h];exact Nat.sub_le _ _
  .rw[ab h];exact Nat.min_le_right _ _
def Nw{ω μ}(r:b8 h ω μ l xs)(lo hi:Option Int):b8 h ω μ (iK l lo hi) (kms_pick xs lo hi):=by
 have e1:kms_lo lo xs.length=(match lo with |none=>0 |some k=>oi l.length k):=by
  rw[a0.length r];induction lo using aX with |none=>rfl |some k=>exact Dc k _
 have w:kms_hi hi xs.length=(match hi with |none=>l.length |some k=>oi l.length k):=by
  rw[a0.length r];induction hi using aX with |none=>rfl |some k=>exact Dc k _
 unfold kms_pick;rw[e1,w,<-List.drop_take];exact(r.take _).drop _
def uk(e:qT v=some b)(r:aq h ω μ v x):IsPart x b:=by
 induction v using Mine.Lake.V.casesOn with
 |z=>rw[show x=.none from r,<-ay e];exact .none|j k=>
  obtain⟨t,ex⟩:=r;rw[ex,<-ay (bN (x:=some (some k)) e).2];exact .int _ _
 |_=>exact bl e
def xS(B:IsPart v k)(h:Q k s):wpAny (model X.a X.w) A (Builtin.Slice.slicePartIndex v) Q E s:=by
 induction B with
 |none=>exact aG h|int i t=>exact slicePart_int h
def Nx(items:Array Value)(a n:Nat):((List.range n).filterMap λ(k:Nat)=>items[((a:Int)+(k:Int)*1).toNat]?)=(items.toList.drop a).take n:=by
 rw[<-pick_run items a n,List.filterMap_map];refine aE (λf=>(List.range n).filterMap f) (funext λk=>?_);rw[Int.mul_one];rfl
def Ny{items:Array Value}{lo:Option Int}(i:s.heap.get? t=some (cc "tuple" items n))
  (N:s.heap.IsSliceOf sl f r .none) (pl:IsPart f lo) (j:IsPart r hi)
  (h1:Q (.ref s.heap.objs.size) {s with heap:=s.heap.push {cls:=.type "tuple",data:=.seq (kms_pick items.toList lo hi).toArray}})
  (h2:kms_pick items.toList lo hi=items.toList->Q (.ref t) s)
  (hsz:items.size<=sizeLine):wpAny (model X.a X.w) A (getItem (.ref t) (.ref sl)) Q E s:=by
 obtain⟨os,c,o,g⟩:=id N;have p:s.TypeIs (.ref sl) "slice" :=⟨os,c,o⟩;have m:s.TypeIs (.ref t) "tuple" :=⟨_,i,rfl⟩;unfold getItem;try with_reducible refine dq ?_
 first |refine aj (aG ?_) |skip
 refine aj (wpAny_sequenceKey m (by decide) ?_);refine aj (wY (name:=Str.ofString "__getitem__") m BU
  (n6 BU m F.entry_tuple_getitem ?_ (F.args_tuple_getitem_2 _ _)))
 show wpAny _ _ (Builtin.Tuple.tupleItemsOf (.ref t)>>=_) _ _ s;refine aj (wpAny_tupleItemsOf i rfl ?_);refine aj (wpAny_typeOf p ?_);rw[ah (by decide)];refine aj ?_;unfold Builtin.Slice.sliceApplied Builtin.Slice.sliceFields;refine aj (aj (kO c g (x:=f) rfl (aj (kO c g (x:=r) rfl (aj (kO c g (x:=.none) rfl (aG ?_)))))));refine aj (xS .none ?_);simp only[Option.getD_none];rw[ab (by decide)];refine aj (xS pl (aj (xS j (aj (aG (aG ?_))))));have e1:Builtin.Slice.sliceAdjust lo hi 1 (items.size:Int)=(((kms_lo lo items.size:Nat):Int),((kms_hi hi items.size:Nat):Int)):=by
  refine Prod.ext ?_ ?_
  .induction lo using aX with
   |none=>rfl|some k=>exact Db k _
  .induction hi using aX with
   |none=>rfl|some k=>exact Db k _
 have w:Builtin.Slice.slicePlaces ((kms_lo lo items.size:Nat):Int) ((kms_hi hi items.size:Nat):Int) 1=kms_hi hi items.size - kms_lo lo items.size:=by
  show(if((kms_lo lo items.size:Nat):Int) < ((kms_hi hi items.size:Nat):Int)then(((kms_hi hi items.size:Nat):Int) - ((kms_lo lo items.size:Nat):Int) - 1) / 1+1 else 0).toNat=_;generalize kms_lo lo items.size=a;generalize kms_hi hi items.size=b;by_cases h:(a:Int) < b
  .rw[ah h];lia
  .rw[ab h];exact "~ZR9EKYBGHwA=;bHZRv4qlBRK2MQAR0Frw6jBBT5>QzUnh65?4aV2raR>9slNo=^TAuhu" og ao h
 have q:∀n,((List.range n).filterMap λ(k:Nat)=>items[(((kms_lo lo items.size:Nat):Int)+(k:Int)*1).toNat]?)=(items.toList.drop (kms_lo lo items.size)).take n:=Nx items _;have H:kms_pick items.toList lo hi=(items.toList.drop (kms_lo lo items.size)).take (kms_hi hi items.size - kms_lo lo items.size):=rfl;rw[H]at h1 h2;rw[e1];show wpAny _ _ (if(((kms_lo lo items.size:Nat):Int)==0&&(1:Int)==1&&Builtin.Slice.slicePlaces ((kms_lo lo items.size:Nat):Int) ((kms_hi hi items.size:Nat):Int) 1==items.size)=true then _ else _) _ _ s;rw[w];generalize kms_lo lo items.size=a at*;have T:=Nv hi items.size;generalize kms_hi hi items.size=b at*;by_cases Y:((a:Int)==0&&(1:Int)==1&&b - a==items.size)=true
 .rw[ah Y]
  refine aj ?_;unfold Builtin.Tuple.tupleIsExact;refine aj (wpAny_typeOf m (aG ?_));rw[ah (by decide)];have h2:=h2 (by
   obtain⟨w1,_,w2⟩:=ui Y;rw[Int.ofNat_eq_zero.mp (eq_of_beq w1)]at w2 ⊢;exact tC (gV (eq_of_beq w2).symm))
  first
   |exact aj (gU (aG ⟨_,rfl,aG h2⟩))
   |exact aj (gU (aj (aG (aG ⟨_,rfl,aG h2⟩))))
 .rw[ab Y]
  rw[q];unfold Builtin.Tuple.tupleExact;refine aj (wZ ?_ ?_)
  .first
    |exact aG ⟨_,rfl,aG h1⟩
    |exact aj (aG (aG ⟨_,rfl,aG h1⟩))
  .show((items.toList.drop a).take (b - a)).toArray.size<=sizeLine
   rw[BV];exact aL (List.length_take_le _ _) (aL (Nat.sub_le _ _) (aL T hsz))
def Nz{lo hi:V}(R:SR X σ μ s.heap)(g:aq s.heap (au σ μ) μ o x)(H:aq s.heap (au σ μ) μ lo f)(h:aq s.heap (au σ μ) μ hi r)
  (N:s.heap.IsSliceOf sl f r .none) (e:qU o lo hi σ=some (v,aw)) (c:cz X s σ μ aw v Q):
  ∃T id,s.TypeIs x T/\typeLookup (.type T) "__getitem__" =pure (some (.builtin id))/\wpAny (model X.a X.w) A (getItem x (.ref sl)) Q E s:=by
 obtain⟨p,n,e⟩:=a9 e;obtain⟨a,z,e⟩:=a9 e;obtain⟨b,i,e⟩:=a9 e;obtain⟨k,e⟩:=bN e;have c:=cz.of e c;obtain⟨ad,vs,m,ex,G,ra⟩:=jY R n g;have hsz:vs.size<=sizeLine:=by
  rw[<-iO ra,qj];exact aL (jP k) (by decide)
 have j:=Nw ra a b;rw[ex];generalize U:p.1=Y
 induction Y using aS with
 |true=>
  rw[U]at G c;refine⟨"list",_,⟨_,G,rfl⟩,list_getitem_lookup,?_⟩;refine wpAny_getItem_list_slice ⟨_,G,rfl,m,rfl⟩ N (uk z H) (uk i h) .none nofun ?_ hsz;rw[kms_pick_eq];exact c.oz "list" R (.inr ⟨rfl,rfl⟩) (by rw[J1];exact j) _
 |false=>
  rw[U]at G c;refine⟨"tuple",_,⟨_,G,rfl⟩,BU.lookup,?_⟩;refine Ny G N (uk z H) (uk i h) ?_ (λL=>?_) hsz
  .exact c.oz "tuple" R (.inl ⟨rfl,rfl⟩) (by rw[J1];exact j) _
  .rw[L]at j
   exact c.here R (.tup G (λq=>R.ou q _ _ G) j) _
abbrev xT:fN->Operator
 |.a=>.Add |.c=>.Sub |.d=>.Mult |.e=>.FloorDiv |.b=>.Mod
def NA(h:(fP x&&fP y)=true):IntMulOk x y:=by
 have h:=bh.mp h;have b:∀{z:Int},fP z=true->Builtin.Int.intBits z<=63:=λ{z} hz=>by
  rw[intBits_le_iff];exact fK (bP hz) (by decide)
 exact IntMulOk.of_le (b h.1) (b h.2) (by decide)
def NB(R:SR X σ μ s.heap)(ra:aq s.heap (au σ μ) μ a x)(m:aq s.heap (au σ μ) μ b y)
  (G:bt σ a=some p) (T:bt σ b=some q) (o:p.1=q.1) (Y:p.2.length+q.2.length < bs) (c:cz X s σ μ σ (xB p.1 (p.2++q.2)) Q):
  wpAny (model X.a X.w) A (binaryOp .Add x y) Q E s:=by
 obtain⟨f,vs,n,ex,J,j⟩:=jY R G ra;obtain⟨g,ws,i,ey,L,k⟩:=jY R T m;rw[<-o]at L;rw[ex,ey];have h1:=iO j;have h2:=iO k;have hsz:vs.size+ws.size<=sizeLine:=by rw[<-h1,<-h2,qj];exact aL (jP Y) (by decide)
 have rc:b8 s.heap (au σ μ) μ (p.2++q.2) (vs++ws).toList:=by rw[gW];exact j.append k
 have nil:∀{l:List V} {vs:Array Value},l.length=vs.size->vs.isEmpty=true->l=[]:=λh e=>w7.mp (h.trans (by simpa [Array.isEmpty]using e));generalize U:p.1=N
 induction N using aS with
 |true=>
  rw[U]at J L c;exact PySem.P.add_list J L (c.oz "list" R (.inr ⟨rfl,rfl⟩) rc _) hsz
 |false=>
  rw[U]at J L c;by_cases e1:vs.isEmpty=true
  .refine concat_meets ⟨_,J,rfl⟩ ⟨_,L,rfl⟩ noFill_tuple_add seq_tuple_add F.slot_tuple_add F.entry_tuple_add (F.args_tuple_add_2 _ _) (AutoSeq1.tuple___add___tuple_tuple_0 f vs n g ws i e1) ⟨J,L,?_⟩
   rw[nil h1 e1]at c;exact c.here R (.tup L (λz=>R.ou z _ _ L) k) _
  .by_cases w:ws.isEmpty=true
   .refine concat_meets ⟨_,J,rfl⟩ ⟨_,L,rfl⟩ noFill_tuple_add seq_tuple_add F.slot_tuple_add F.entry_tuple_add (F.args_tuple_add_2 _ _) (AutoSeq1.tuple___add___tuple_tuple_1 f vs n g ws i e1 w) ⟨J,L,?_⟩
    rw[nil h2 w,b_]at c;exact c.here R (.tup J (λz=>R.ou z _ _ J) j) _
   .exact PySem.P.add_tuple J L e1 w (c.oz "tuple" R (.inl ⟨rfl,rfl⟩) rc _) hsz
def NC(R:SR X σ μ s.heap)(ra:aq s.heap (au σ μ) μ a x)(m:aq s.heap (au σ μ) μ b y)
  (e:iL op a b σ=some (v,aw)) (c:cz X s σ μ aw v Q):wpAny (model X.a X.w) A (binaryOp (xT op) x y) Q E s:=by
 rcases lh e with h |h
 .obtain⟨i,hi,e⟩:=h
  obtain⟨j,G,e⟩:=a9 e;obtain⟨k,U,e⟩:=cF e;rw[jl hi]at ra;rw[jl G]at m;obtain⟨t,ex⟩:=ra;obtain⟨u,ey⟩:=m;have c:∀w t,Q (.int k w) {s with toks:=t}:=λw=>(cz.of (aE some e) c).here R (.int k w);rw[ex,ey]
  induction op using Mine.Lake.fN.casesOn with
  |a=>exact PySem.P.add_int (ay U▸c _ _)|c=>exact PySem.P.sub_int (ay U▸c _ _)|d=>obtain⟨h,U⟩:=bN U;exact PySem.P.mul_int (ay U▸c _ _) (NA h)|e=>obtain⟨h,U⟩:=bN U;exact floordiv_int h.1 (ay U▸c _ _) (.inl (PyProof.noPylong_small h.2))|b=>obtain⟨h,U⟩:=bN U;exact mod_int' h (ay U▸c _ _)
 .have e:=h.2
  induction op using Mine.Lake.fN.casesOn with
  |a=>
   obtain⟨p,J,e⟩:=a9 (x:=bt σ a) e;obtain⟨q,L,e⟩:=a9 e;obtain⟨h,e⟩:=bN e;exact NB R ra m J L h.1 h.2 (cz.of e c)
  |_=>exact bl e
end
abbrev j5:List AN:=[0,1,2,3,4,5,6,7,8,9,10,11,12,13,14,15,16,17,18,19,20,21]
abbrev xU(s:String):AN:=(j5.find? λa=>a.name==s).getD 0
def ND:(j5.all λa=>xU a.name==a)=true:=by kernel_rfl
def xV:∀f:AN,f∈j5:=by decide+kernel
def Dd(a:AN):xU a.name=a:=eq_of_beq (el.mp ND a (xV a))
def AN.De{b:AN}(h:Str.ofString a.name=Str.ofString b.name):a=b:=(Dd a).symm.trans ((aE xU (mN h)).trans (Dd b))
section
variable{A:Around}{E:Value->Shared->Prop}{s:Shared}{σ:St}{μ:Mu}
def ul{w:World}{R:V->Value->Prop}{p:AN×V}{e:DictEntry}(h:R p.2 e.val/\∃t,e=⟨PyData.keyHash w.params (Str.ofString p.1.name),.str (Str.ofString p.1.name) t,e.val⟩):(∀n,e.key.isStr n=(Str.ofString p.1.name==n))/\e.refKey=false:=by
 obtain⟨_,t,q⟩:=h;rw[q];exact⟨λJ=>rfl,rfl⟩
def eM.noRef{R:V->Value->Prop}{fs:List (AN×V)}{es:List DictEntry}(r:eM w R fs es):(es.any λe=>e.refKey)=false:=
 a0.ind (λ_ (es:List DictEntry)=>(es.any λe=>e.refKey)=false) rfl (λp e J es h J ih=>by rw[tD,ih,(ul h).2];rfl) r
def eM.find{R:V->Value->Prop}{fs:List (AN×V)}{es:List DictEntry}(r:eM w R fs es)(a:AN):fU (λv (e:DictEntry)=>R v e.val) (cU a fs) (es.find? λe=>e.key.isStr (Str.ofString a.name)):=by
 refine a0.ind (λ(fs:List (AN×V)) (es:List DictEntry)=>fU (λv (e:DictEntry)=>R v e.val) (cU a fs) (es.find? λe=>e.key.isStr (Str.ofString a.name))) rfl (λp e fs es h J ih=>?_) r;show fU (λv (e:DictEntry)=>R v e.val) (if p.1=a then some p.2 else cU a fs) (match e.key.isStr (Str.ofString a.name)with |true=>some e |false=>es.find? λe=>e.key.isStr (Str.ofString a.name));rw[(ul h).1];by_cases U:p.1=a
 .rw[ah U,U,jN];exact⟨e,rfl,h.1⟩
 .rw[ab U,cD.mpr λq=>U (AN.De q)];exact ih
def eM.get(r:eM w R fs es)(a:AN):∃o,getL (Str.ofString a.name) es=some o/\fU R (cU a fs) o:=by
 have h:=r.find a;unfold getL;generalize G:cU a fs=Y
 induction Y using aX with
 |none=>rw[G]at h;rw[show es.find? _=none from h,r.noRef];exact⟨none,rfl,rfl⟩|some v=>rw[G]at h;obtain⟨e,J,C⟩:=h;rw[J];exact⟨_,rfl,e.val,rfl,C⟩
def eM.put{R:V->Value->Prop}{fs:List (AN×V)}{es:List DictEntry}(r:eM w R fs es)(a:AN)(h:R v x)(t:Tok):
  eM w R (bn a v fs) (putL (Str.ofString a.name) (PyData.keyHash w.params (Str.ofString a.name)) (.str (Str.ofString a.name) t) x es):=by
 refine a0.ind (λ(fs:List (AN×V)) (es:List DictEntry)=>eM w R (bn a v fs) (putL (Str.ofString a.name) (PyData.keyHash w.params (Str.ofString a.name)) (.str (Str.ofString a.name) t) x es)) (.cons ⟨h,t,rfl⟩ .nil) (λp e fs es h' C ih=>?_) r;show eM w R (if p.1=a then(p.1,v)::fs else p::bn a v fs) (if e.key.isStr (Str.ofString a.name)then⟨e.hash,e.key,x⟩::es else e::putL _ _ _ x es);rw[(ul h').1];by_cases U:p.1=a
 .rw[ah U,U,jN,ah rfl]
  obtain⟨_,u,q⟩:=h';rw[q];exact .cons ⟨h,u,by rw[U]⟩ C
 .rw[ab U,cD.mpr λq=>U (AN.De q),ab dX]
  exact .cons h' ih
abbrev q_(K:Frag)(C:Addr)(name:Str):Bool:=
 plainGet K C name&&hasDictIn K C&&(match findIn K (.ref C) name with |some attr=>noGet K attr |none=>false)&&
 findIn K (.ref C) "__setattr__" ==some (some (.builtin "object.__setattr__"))&&plainOver K C&&(takerIn K C name==some none)
def aq.handed{h ω μ v x}(r:aq h ω μ v x):handedIn x=true:=by
 induction v using Mine.Lake.V.casesOn with
 |z=>rw[show x=.none from r];rfl|w b=>rw[show x=.bool b from r];rfl|j i=>obtain⟨t,e⟩:=r;rw[e];rfl|u i=>obtain⟨t,e⟩:=r;rw[e];rfl|p l=>obtain⟨a,_,_,e,_⟩:=r.eL;rw[e];rfl|r l=>obtain⟨a,_,_,e,_⟩:=r.jU;rw[e];rfl|o i=>obtain⟨m,_,e⟩:=r;rw[e];rfl
structure NE(K:Frag)(C:Addr)(name:Str):Prop where
 e:plainGet K C name=true
 a:hasDictIn K C=true
 f:∃attr,findIn K (.ref C) name=some attr/\noGet K attr=true
 c:findIn K (.ref C) "__setattr__" =some (some (.builtin "object.__setattr__"))
 d:plainOver K C=true
 b:takerIn K C name=some none
def Df{K:Frag}(h:q_ K C name=true):NE K C name:=by
 have h5:=bh.mp h;have h4:=bh.mp h5.1;have h3:=bh.mp h4.1;have h2:=bh.mp h3.1;have h1:=bh.mp h2.1;refine⟨h1.1,h1.2,?_,aH.mp h3.2,h4.2,aH.mp h5.2⟩;have h:=h2.2;generalize e:findIn K (.ref C) name=Y
 induction Y using aX with
 |none=>rw[e]at h;exact b7 h|some attr=>rw[e]at h;exact⟨attr,rfl,h⟩
def Dg{v:V}(aD:X.K.In X.b)(ok:∀c a,dP c a=false->q_ X.K (X.c c) (Str.ofString (AN.name a))=true)(R:SR X σ μ s.heap)(r:aq s.heap (au σ μ) μ v x)
  (e:tV v a σ=some (y,aw)) (c:cz X s σ μ aw y Q):wpAny (model X.a X.w) A (getAttr x (Str.ofString a.name) g) Q E s:=by
 obtain⟨o,ho,e⟩:=a9 e;obtain⟨p,J,e⟩:=a9 e;obtain⟨B,e⟩:=bN e;obtain⟨z,hz,e⟩:=cF e;rw[xM J]at ho;obtain⟨i,m,_,hi,hm,ex,C⟩:=jZ R ho r;obtain⟨w,H,es,n,Y,U⟩:=C;obtain⟨o',h2,h3⟩:=U.get a;rw[hz]at h3;obtain⟨x',h3,h4⟩:=h3;rw[h3]at h2;have T:=Df (ok p.1 a B);obtain⟨attr,G,f⟩:=T.f;rw[ex];exact get_value (aD.keeps R.k) ⟨H,rfl,rfl,Y⟩ (plainGet_of T.e).1 (findObj_own T.a G f (show lookIn _ (W.dictOf es n)=_ from h2)) h4.handed ((cz.of (aE some e) c).here R h4 _)
def NF{K:Frag}(m:K.In s.heap)
  (I:W.InstAt s.heap x f C (some (W.dictOf es n))) (U:f.dict=some k) (T:plainOver K C=true) (i:takerIn K C name=some none) (j:(clsIn K C).any (·.hasDict)=true)
  (Y:(lookIn name (W.dictOf es n)).isSome=true) (D:s.heap.get? k=some (W.dictOf es n)) (hz:es.length < 900)
  (h:R (.ok (.ret .none)) {s with heap:=s.heap.update k (Obj.putName name (PyData.keyHash w.params name) (.str name s.toks) v),toks:=s.toks+1}):
  codeAny (model prog w) A (.call (.builtin "object.__setattr__") ⟨[.ref x,.str name N,v],[]⟩) R s:=by
 refine osa_open m I T i λb=>?_;obtain⟨q,o,p⟩:=any_some j;have e':Obj.putName name (PyData.keyHash w.params name) (.str name s.toks) v (W.dictOf es n)=W.dictOf (putL name (PyData.keyHash w.params name) (.str name s.toks) v es) (putN name es n):=putName_dict ..;have y:(putL name (PyData.keyHash w.params name) (.str name s.toks) v es).length<=es.length+1:=by
  clear Y D hz h e' I
  induction es with
  |nil=>exact av _|cons e r ih=>
   show(if e.key.isStr name then _ else e::putL _ _ _ v r).length<=r.length+1+1;by_cases h:e.key.isStr name=true
   .rw[ah h];exact tB _
   .rw[ab h];exact wX ih
 have z:(s.heap.update k (Obj.putName name (PyData.keyHash w.params name) (.str name s.toks) v)).get? k=some (W.dictOf (putL name (PyData.keyHash w.params name) (.str name s.toks) v es) (putN name es n)):=by
  rw[<-e'];exact w8 _ D (by rw[e'];rfl)
 obtain⟨H,g,u,-⟩:=I;obtain⟨L,G,t,B⟩:=f;dsimp only at g U;subst g U;refine aj (aG (aj (aj (wpAny_loadPart H (aj ((looks_clsIn m o).here ?_))))));rw[p];refine aG (a:=some k) (aj (aG (aj ?_)));unfold nsSet;refine aj (aj (wpAny_askSetting (aG (aj (wpAny_mkText (aj (wpAny_loadPart D ?_)))))));have c:(!(es.toArray).any (·.key.isStr name)&&(es.toArray).any (·.refKey))=false:=by
  rw[List.any_toArray,List.any_toArray];rw[lookIn_dict]at Y;unfold getL at Y;generalize J:es.find? (·.key.isStr name)=Q
  induction Q using aX with
  |some en=>rw[qk.mpr ⟨en,List.mem_of_find?_eq_some J,List.find?_some J⟩];rfl|none=>
   rw[J]at Y;by_cases hz:es.any (·.refKey)=true
   .rw[hz]at Y;exact b7 Y
   .rw[eo.mpr hz,BW]
 simp only[W.dictOf];rw[aRefKeyMayBeTheName_at,c];refine wpAny_updatePart D ?_;refine aj (wpAny_lookBehind z (pastItsLine_dict (by rw[BV,qj];exact "~X3CwzGcJJ2B?Qb2GDlOj<Je" y hz)) ?_);exact aG h
abbrev lr(X:dk)(s:Shared)(σ:St)(μ:Mu)(aw:St)(Q:Unit->Shared->Prop):Prop:=∀s',SR X aw μ s'.heap->bf s.heap σ μ s'.heap aw μ No->et s s'->Q () s'
def lr.of{Q}(e:some (u,Y)=some (a,aw))(c:lr X s σ μ aw Q):lr X s σ μ Y Q:=by cases e;exact c
def NG{v:V}(aD:X.K.In X.b)(ok:∀c a,dP c a=false->q_ X.K (X.c c) (Str.ofString (AN.name a))=true)(R:SR X σ μ s.heap)(r:aq s.heap (au σ μ) μ v x)(ry:aq s.heap (au σ μ) μ y z)
  (e:mH v a y σ=some (u,aw)) (c:lr X s σ μ aw Q):wpAny (model X.a X.w) A (setAttr x (Str.ofString a.name) z) Q E s:=by
 obtain⟨i,B,e⟩:=a9 e;obtain⟨o,ho,e⟩:=a9 e;obtain⟨p,J,e⟩:=a9 e;obtain⟨j,e⟩:=bN e;rw[xM J]at ho;rw[ug B]at r;obtain⟨m,hm,ex⟩:=r;have c:=c.of e;obtain⟨w,H,es,n,Y,U⟩:=R.g i _ m ho hm;have T:=Df (ok p.1 a j.1);have N:=aD.keeps R.k;have I:W.InstAt s.heap m.1 (instObj (X.c p.1) m.2) (X.c p.1) (some (W.dictOf es n)):=⟨H,rfl,rfl,Y⟩;rw[ex];refine set_plain N I T.c (NF (s:={s with toks:=s.toks+1}) N I rfl T.d T.b T.a ?_ Y (by rw[<-a0.length U];exact Nat.lt_trans j.2 (by decide)) ?_)
 .obtain⟨o,h,_⟩:=U.get a
  rw[lookIn_dict,h];rfl
 .have key:=R.update (h':=s.heap.update m.2 (Obj.putName (Str.ofString a.name) (PyData.keyHash X.w.params (Str.ofString a.name)) (.str (Str.ofString a.name) (s.toks+1)) z)) (o:=.e p.1 (bn a y p.2)) ho nofun hm nofun
   (λb ob e h1 h2=>(w9 _ _ _ _ h2).trans e) (λbD aF K=>?_)
  .exact c _ key.1 key.2 ⟨rfl,rfl⟩
  .refine⟨w,(w9 _ _ _ _ w).trans H,putL (Str.ofString a.name) (PyData.keyHash X.w.params (Str.ofString a.name)) (.str (Str.ofString a.name) (s.toks+1)) z es,putN (Str.ofString a.name) es n,?_,?_⟩
   .rw[<-putName_dict];exact w8 _ Y (by rw[putName_dict];rfl)
   .exact(eM.mono (λG G q=>K.rep q) U).put a (K.rep ry) _
end
def NH{β:Type}[DecidableEq β]{b k:β}{kvs:List (β×Value)}(u:∀q∈kvs,q.1≠b):stored ((b,y)::kvs) k x=if b=k then(b,x)::kvs else(b,y)::stored kvs k x:=by
 by_cases e:b=k
 .rw[ah e]
  refine(ah (by rw[tD,b5 e];rfl)).trans ?_;rw[eS];refine congr (aE List.cons (ah e)) ((w_ λq L=>ab λz=>u q L (z.trans e.symm)).trans (List.map_id' _))
 .rw[ab e]
  unfold PySem.stored;rw[tD,cd e,Bool.false_or,eS,ab e];by_cases h:(kvs.any λkv=>decide (kv.1=k))=true
  .rw[ah h,ah h]
  .rw[ab h,ab h];rfl
def Dh{β:Type}{b:β}{kvs:List (β×a)}(u:(((b,y)::kvs).map (·.1)).Nodup):(∀q∈kvs,q.1≠b)/\(kvs.map (·.1)).Nodup:=by
 obtain⟨h1,h2⟩:=fL.mp (show(b::kvs.map (·.1)).Nodup from u);exact⟨λq L e=>h1 (e▸List.mem_map_of_mem L),h2⟩
def cy.stored{α β:Type}[DecidableEq α][DecidableEq β]{f:α->β}(inj:∀a b,f a=f b->a=b){es:List (α×V)}{kvs:List (β×Value)}(r:cy f R es kvs)
  (u:(kvs.map (·.1)).Nodup) (k:α) (h:R v x):cy f R (bn k v es) (stored kvs (f k) x):=by
 refine a0.ind (λ(es:List (α×V)) (kvs:List (β×Value))=>(kvs.map (·.1)).Nodup->cy f R (bn k v es) (PySem.stored kvs (f k) x)) (λJ=>.cons ⟨rfl,h⟩ .nil) (λp q es kvs h' C ih u=>?_) r u;obtain⟨a,w⟩:=p;obtain⟨b,y⟩:=q;obtain⟨h1,h2⟩:=Dh u;have T:b=f a:=h'.1;rw[NH h1];show cy f R (if a=k then(a,v)::es else(a,w)::bn k v es) _;by_cases e:a=k
 .rw[ah e,ah (T.trans (aE f e))];exact .cons ⟨T,h⟩ C
 .rw[ab e,ab λq=>e (inj _ _ (T.symm.trans q))];exact .cons h' (ih h2)
def NJ{k:List V}{x:Value}(u:∀q∈kvs,q.1≠b):storedH ((b,c,y)::kvs) k a x=if b=k then(b,c,x)::kvs else(b,c,y)::storedH kvs k a x:=by
 have U:atKey ((b,c,y)::kvs) k=((match decide (b=k)with |true=>some (b,c,y) |false=>kvs.find? λx=>decide (x.1=k)).map λ(p:List V×Addr×Value)=>p.2):=rfl;by_cases e:b=k
 .rw[ah e]
  rw[b5 e]at U;unfold storedH;rw[U];refine(ah rfl).trans ?_;rw[eS];exact congr (aE List.cons (ah e)) ((w_ λq L=>ab λz=>u q L (z.trans e.symm)).trans (List.map_id' _))
 .rw[ab e]
  rw[cd e]at U;have U:atKey ((b,c,y)::kvs) k=atKey kvs k:=U;unfold storedH;rw[U,eS,show putAt k x (b,c,y)=(b,c,y)from ab e];by_cases h:(atKey kvs k).isSome=true
  .rw[ah h,ah h]
  .rw[ab h,ab h];rfl
def gm.stored{R:V->Value->Prop}{kvs:List (List V×Addr×Value)}(r:gm R es kvs)
  (u:(kvs.map (·.1)).Nodup) (k:List V) (a:Addr) {x:Value} (h:R v x):gm R (bn k v es) (storedH kvs k a x):=by
 refine a0.ind (λ(es:List (List V×V)) (kvs:List (List V×Addr×Value))=>(kvs.map (·.1)).Nodup->gm R (bn k v es) (storedH kvs k a x)) (λJ=>.cons ⟨rfl,h⟩ .nil) (λp q es kvs h' C ih u=>?_) r u;obtain⟨b,w⟩:=p;obtain⟨G,c,y⟩:=q;obtain⟨h1,h2⟩:=Dh u;have T:G=b:=h'.1;rw[NJ h1];show gm R (if b=k then(b,v)::es else(b,w)::bn k v es) _;by_cases e:b=k
 .rw[ah e,ah (T.trans e)];exact .cons ⟨T,h⟩ C
 .rw[ab e,ab λq=>e (T.symm.trans q)];exact .cons h' (ih h2)
section
variable{A:Around}{E:Value->Shared->Prop}{s:Shared}{σ:St}{μ:Mu}
def NK{prog:Program}{items:Array Value}{k:Int}(Y:s.heap.get? l=some (cc "list" items n))
  (f:0<=k) (c:k < 2 ^ 63) (u:k < items.size)
  (a:Q () {s with heap:=s.heap.update l (Obj.mapSeq (·.setIfInBounds k.toNat v))}):
  wpAny (model prog w) A (setItem (.ref l) (.int k t) v) Q E s:=by
 have m:s.TypeIs (.ref l) "list" :=⟨_,Y,rfl⟩;unfold setItem;try with_reducible refine dq ?_
 first |refine aj (aG ?_) |skip
 refine aj (wpAny_sequenceKey m (by decide) ?_);refine aj (wY (name:=Str.ofString "__setitem__") m slot_list_setitem
  (n6 slot_list_setitem m entry_list_setitem ?_ (args_list_setitem _ _ _)))
 show wpAny _ _ (Builtin.List.listSubscript? (.int k t)>>=_) _ _ s;refine aj (wpAny_listSubscript_int (fitsIndex_of f c) ?_);clear c;obtain⟨j,rfl⟩:=Int.eq_ofNat_of_zero_le f;have G:j < items.size:= "~PyRTCQVLg;" u;have C:items[j]?=some items[j]:=xa G;show wpAny _ _ ((seqItemAt l j>>=λr=>pure (r.map (j,·)))>>=_) _ _ s;refine aj (aj (wpAny_seqItemAt Y rfl (aG ?_)));rw[C];show wpAny _ _ (setSeqItemAt l j v>>=_) _ _ s;refine aj (wpAny_setSeqItemAt Y rfl ?_)
 first
  |exact aj (aG (aG ⟨.none,rfl,aG a⟩))
  |exact aG ⟨.none,rfl,aG a⟩
def SR.NL(R:SR X σ μ h)(f:σ[i]?=some (.a l))(hm:μ[i]?=some m)(N:Heap.SameBut m.1 h h')
  (H:h'.get? m.1=some (cc "list" ws J)) (C:b8 h (au σ μ) μ l' ws.toList):SR X (σ.set i (.a l')) μ h'/\bf h σ μ h' (σ.set i (.a l')) μ No:=by
 obtain⟨q,_⟩:=R.g i _ m f hm;exact R.update (o:=.a l') f nofun hm nofun (λa ob e h1 Q=>(N.2 a h1).trans e) λbD aF K=>⟨q,ws,J,H,K.q7 C⟩
def Di{h:Heap}{items:Array Value}(Y:h.get? l=some (cc "list" items n))(f:Array Value->Array Value):
  ∃J,(h.update l (Obj.mapSeq f)).get? l=some (cc "list" (f items) J):=⟨_,w8 _ Y rfl⟩
def um{prog:Program}{K:Type}[DecidableEq K]{knd:KeyKind prog w K}{h:Heap}{a:Addr}{kvs:List (K×Value)}(d:h.DictOf knd a kvs):(kvs.map (·.1)).Nodup:=by
 obtain⟨_,_,_,_,_,_,_,_,u⟩:=d;exact u
def NM{prog:Program}{K:Type}[DecidableEq K]{knd:HeapKind prog w K}{h:Heap}{a:Addr}{kvs:List (K×Addr×Value)}(d:h.DictOfH knd a kvs):(kvs.map (·.1)).Nodup:=by
 obtain⟨_,_,_,_,_,_,_,_,u⟩:=d;exact u
def gI(h:n < bs):n<=sizeLine:=by rw[qj];exact aL (jP h) (by decide)
def SR.turn(R:SR X σ μ h)(Y:σ[i]?=some d)(hm:μ[i]?=some m)(H:d≠.d)(w:o≠.d)(N:Heap.SameBut m.1 h h')(L:∀bD aF,Kp h h' (au σ μ) bD μ aF->dt X h' bD aF o m):
  SR X (σ.set i o) μ h'/\bf h σ μ h' (σ.set i o) μ No:=R.update Y H hm w (λa ob e h1 J=>(N.2 a h1).trans e) L
def NN{d:O}{m:Addr×Addr}{k v:V}{x z:Value}(R:SR X σ μ s.heap)(hA:fS n A)(y:σ[i]?=some d)(hm:μ[i]?=some m)(e:mI d k v=some d')
  (T:aq s.heap (au σ μ) μ k x) (g:aq s.heap (au σ μ) μ v z) (c:lr X s σ μ (σ.set i d') Q):
  wpAny (model X.a X.w) A (setItem (.ref m.1) x z) Q E s:=by
 have C:=R.g i d m y hm;have fin:∀{h':Heap} {o:O},some o=some d'->d≠.d->o≠.d->Heap.SameBut m.1 s.heap h'->(∀bD aF,Kp s.heap h' (au σ μ) bD μ aF->dt X h' bD aF o m)->∀t,Q () {s with heap:=h',toks:=t}:=λ{h' o} q H w N L t=>by
  obtain⟨h,B⟩:=R.turn y hm H w N L;rw[ay q]at h B;exact c _ h B ⟨rfl,rfl⟩
 induction k using Mine.Lake.V.casesOn with
 |j k=>
  obtain⟨es,J,e⟩:=a9 (x:=gj d) e;obtain⟨Y,e⟩:=bN e;obtain⟨kvs,H,q,G,f⟩:=lq J C;obtain⟨t,ex⟩:=T;rw[ex];exact wpAny_setItem_pairs (n9 _ _ _ _) G (λh' I N=>fin e H nofun N (λbD aF K=>⟨q,_,I,cy.stored (λ_ _ e=>e) (cy.mono (λ_ _ r=>K.rep r) f) (um G) k (K.rep g)⟩) _) (by rw[<-a0.length f];exact gI Y)
 |u k=>
  obtain⟨es,J,e⟩:=a9 (x:=qR d) e;obtain⟨Y,e⟩:=bN e;obtain⟨kvs,H,q,G,f⟩:=C3 J C;obtain⟨t,ex⟩:=T;rw[ex];exact wpAny_setItem_pairs (tA _ _ _ _) G (λh' I N=>fin e H nofun N (λbD aF K=>⟨q,_,I,cy.stored (λ_ _ e=>mN e) (cy.mono (λ_ _ r=>K.rep r) f) (um G) k (K.rep g)⟩) _) (by rw[<-a0.length f];exact gI Y)
 |p k=>
  obtain⟨U,e⟩:=bN (p:=V.keys k=true) e;obtain⟨es,J,e⟩:=a9 (x:=qS d) e;obtain⟨Y,e⟩:=bN e;obtain⟨kvs,H,q,G,f⟩:=C4 J C;obtain⟨a,ex,hi⟩:=C5 (X:=X) U T;rw[ex];exact wpAny_setItem_heap (knd:=jW X.a X.w) hA.tupK hi G (λh' I N=>fin e H nofun N (λbD aF K=>⟨q,_,I,gm.stored (gm.mono (λ_ _ r=>K.rep r) f) (NM G) k a (K.rep g)⟩) _) (by rw[<-a0.length f];exact gI Y)
 |_=>exact bl e
def NP(R:SR X σ μ s.heap)(hA:fS n A)(g:aq s.heap (au σ μ) μ o x)(a:aq s.heap (au σ μ) μ i y)(L:aq s.heap (au σ μ) μ v z)
  (e:li o i v σ=some (u,aw)) (c:lr X s σ μ aw Q):wpAny (model X.a X.w) A (setItem x y z) Q E s:=by
 obtain⟨r,C,e⟩:=a9 e;obtain⟨d,Y,e⟩:=a9 e;rw[ug C]at g;obtain⟨m,hm,ex⟩:=g;rw[ex];rcases lh e with h |h
 .obtain⟨l,hl,e⟩:=h
  obtain⟨k,U,e⟩:=a9 e;obtain⟨f,e⟩:=bN e;obtain⟨j,G,e⟩:=cF e;have c:=lr.of (aE some e) c;rw[jm hl]at Y;rw[jl U]at a;obtain⟨t,ey⟩:=a;have I:=C1 G;obtain⟨q,vs,N,H,ra⟩:=R.g r _ m Y hm;have T:=I.b f;rw[ey];refine NK H f I.a (by have:=I.e;rw[iO ra]at this;exact "~4C4HOm|SZ?CvcP=f=hid^A_lcQjFp?^5" og T this) ?_;obtain⟨J,w⟩:=Di H (·.setIfInBounds k.toNat z);obtain⟨a1,B⟩:=R.NL (l':=l.set j v) Y hm (Heap.SameBut.update ..) w (by rw[J2,<-T];exact ra.set j L);exact c _ a1 B ⟨rfl,rfl⟩
 .obtain⟨d',p,e⟩:=cF h.2
  exact NN R hA Y hm p a L (lr.of (aE some e) c)
def oA(R:SR X σ μ s.heap)(r:aq s.heap (au σ μ) μ v x)(e:iM σ v=some b)(c:∀t,Q b {s with toks:=t}):
  wpAny (model X.a X.w) A (truthy x) Q E s:=by
 have seq:((bt σ v).bind λp=>bq (p.2.length < bs) (some (!p.2.isEmpty)))=some b->wpAny (model X.a X.w) A (truthy x) Q E s:=λe=>by
  obtain⟨p,N,e⟩:=a9 e;obtain⟨Y,e⟩:=bN e;obtain⟨a,vs,n,ex,G,ra⟩:=jY R N r;have y:=iO ra;have f:(vs.size:Int) < 2 ^ 63:=by rw[<-y];exact Int.lt_trans (Int.ofNat_lt.mpr Y) (by decide)
  have hi:(!vs.isEmpty)=b:=by
   rw[<-ay e];show(!decide (vs.size=0))=_;rw[<-y];cases p.2 <;>rfl
  rw[ex];generalize U:p.1=T
  induction T using aS with
  |true=>rw[U]at G;exact wpAny_truthy_list ⟨_,G,rfl,n,rfl⟩ f (by rw[hi];exact c _)|false=>rw[U]at G;exact truthy_tuple ⟨_,G,rfl,n,rfl⟩ f (by rw[hi];exact c _)
 induction v using Mine.Lake.V.casesOn with
 |z=>rw[show x=.none from r];exact truthy_none (ay e▸c _)|w L=>rw[show x=.bool L from r];exact wpAny_truthy_bool (ay e▸c _)|j i=>obtain⟨t,ex⟩:=r;rw[ex];exact PySem.P.truthy_int (ay e▸c _)|u _=>exact bl e|p l=>exact seq e|r l=>exact seq e|o i=>exact seq e
end
section
variable{A:Around}{E:Value->Shared->Prop}{s:Shared}{σ:St}{μ:Mu}
abbrev oB(it:Addr)(h h':Heap):Prop:=(∀b o,b≠it->h.get? b=some o->h'.get? b=some o)/\∃o,h'.get? it=some o
def xW{M:Model}(j:A.handled=none)
  (c:∀x h',(∀b o,s.heap.get? b=some o->h'.get? b=some o)->(∀t,Shared.TypeIs {s with heap:=h',toks:=t} x "StopIteration")->E x {s with heap:=h'}):
  wpAny M A (Builtin.SmallTypes.stopIteration:Sem α) Q E s:=by
 show wpAny _ _ (newExc (.type "StopIteration") []>>=λe=>raiseNew e) _ _ _;simp only[newExc,newTuple];refine aj (aj (wZ ?_ (by size_fits)));refine aj (m:=firstArgMember _ _) (ms (a:=Value.none) (by first |rfl |(simp only[firstArgMember];rfl)) ?_);refine wZ ?_ (by size_fits);simp only[raiseNew];refine aj (wpAny_handled ?_);rw[j];refine aj (aG (wpAny_throw ?_));exact c _ _ (λb o e=>gg _ (gg _ e)) λt=>⟨_,iD _ rfl,rfl⟩
def Dj{w:World}{items:Array Value}(j:A.handled=none)
  (N:s.heap.IsListIter it l i) (L:s.heap.IsList l items) (H:items[i]?=none)
  (a:∀h',oB it s.heap h'->Q none {s with heap:=h'}):wpAny (model prog w) A (pyNext (.ref it)) Q E s:=by
 obtain⟨o,ho,I,Y⟩:=id N;obtain⟨g,f,_,c,u⟩:=L;unfold pyNext;refine aj (BX (wY (name:=Str.ofString "__next__") N.typeIs slot_listiter_next
  (n6 slot_listiter_next N.typeIs entry_listiter_next ?_ (args_listiter_next _))))
 show wpAny _ _ (field (.ref it) 0>>=_) _ _ s;refine aj (kO ho Y (x:=.ref l) rfl ?_);refine aj (kO ho Y (x:=.int i 0) rfl ?_);refine aj (wpAny_seqItems f u ?_);simp only[Int.toNat_natCast,H];refine aj (gU (aj (wpAny_setField ho Y (by simp) (xW j λx h' U m=>?_))));refine aj (BO (T:= "StopIteration") (b:=true) (m _) isSubtype_stop ?_);exact aG (a _ ⟨λb o J e=>U b o ((w9 _ _ _ _ J).trans e),_,U _ _ (w8 _ ho (Obj.isFreed_of_fields (Obj.data_mapFields Y _)))⟩)
def NQ{w:World}{items:Array Value}(j:A.handled=none)
  (N:s.heap.IsTupleIter it l i) (L:s.heap.IsTuple l items) (H:items[i]?=none)
  (a:∀h',oB it s.heap h'->Q none {s with heap:=h'}):wpAny (model prog w) A (pyNext (.ref it)) Q E s:=by
 obtain⟨o,ho,I,Y⟩:=id N;obtain⟨g,f,_,c,u⟩:=L;unfold pyNext;refine aj (BX (wY (name:=Str.ofString "__next__") N.typeIs F.slot_tuple_iterator_next
  (n6 F.slot_tuple_iterator_next N.typeIs F.entry_tuple_iterator_next ?_ (F.args_tuple_iterator_next_1 _))))
 show wpAny _ _ (field (.ref it) 0>>=_) _ _ s;refine aj (kO ho Y (x:=.ref l) rfl ?_);refine aj (kO ho Y (x:=.int i 0) rfl ?_);refine aj (wpAny_seqItems f u ?_);simp only[Int.toNat_natCast,H];refine aj (gU (aj (wpAny_setField ho Y (by simp) (xW j λx h' U m=>?_))));refine aj (BO (T:= "StopIteration") (b:=true) (m _) isSubtype_stop ?_);exact aG (a _ ⟨λb o J e=>U b o ((w9 _ _ _ _ J).trans e),_,U _ _ (w8 _ ho (Obj.isFreed_of_fields (Obj.data_mapFields Y _)))⟩)
def NR{w:World}{step:Int}(j:A.handled=none)(N:IsRangeIter s.heap it x left step)(c:left<=0)
  (a:∀h',oB it s.heap h'->Q none {s with heap:=h'}):wpAny (model prog w) A (pyNext (.ref it)) Q E s:=by
 have m:s.TypeIs (.ref it) "range_iterator" :=⟨_,N,rfl⟩;unfold pyNext;refine aj (BX (wY (name:=Str.ofString "__next__") m F.slot_range_iterator_next
  (n6 F.slot_range_iterator_next m F.entry_range_iterator_next ?_ (F.args_range_iterator_next_1 _))))
 show wpAny _ _ (field (.ref it) 0>>=_) _ _ s;refine aj (kO N rfl (x:=rawInt x) rfl ?_);refine aj (kO N rfl (x:=rawInt left) rfl ?_);refine aj (kO N rfl (x:=rawInt step) rfl ?_);show wpAny _ _ (if left<=0 then _ else _) _ _ s;rw[ah c];refine aj (gU (aj (xW j λx h' U m=>?_)));refine aj (BO (T:= "StopIteration") (b:=true) (m _) isSubtype_stop ?_);exact aG (a _ ⟨λb o Y e=>U b o e,_,U _ _ N⟩)
end
inductive b9 where
 |d (l:List V) (a:Addr) |g (l:List V) (a:Addr) |c (i:Nat) (l:List V) (m:Addr×Addr) |f (n:Nat)
abbrev b9.items:b9->List V
 |.d l _=>l|.g l _=>l|.c _ l _=>l|.f n=>(List.range n).map λ(k:Nat)=>V.j (k:Int)
abbrev b9.guard:b9->Option (Nat×List V)
 |.c i l _=>some (i,l)|_=>none
abbrev b9.At(h:Heap)(I:Addr)(k:Nat):b9->Prop
 |.d _ a=>h.IsTupleIter I a k|.g _ a=>h.IsListIter I a k|.c _ _ m=>h.IsListIter I m.1 k|.f n=>IsRangeIter h I k ((n:Int) - k) 1
abbrev b9.Ok(h:Heap)(σ:St)(μ:Mu):b9->Prop
 |.d l a=>aq h (au σ μ) μ (.p l) (.ref a)|.g l a=>aq h (au σ μ) μ (.r l) (.ref a)|.c i l m=>μ[i]?=some m/\σ[i]?=some (.a l)|.f _=>True
def b9.At.at_{src:b9}(x:src.At h I k)(e:∀o,h.get? I=some o->h'.get? I=some o):src.At h' I k:=by
 induction src using Mine.Lake.S.b9.casesOn with
 |d l a=>obtain⟨o,ho,r⟩:=x;exact⟨o,e o ho,r⟩|g l a=>obtain⟨o,ho,r⟩:=x;exact⟨o,e o ho,r⟩|c i l m=>obtain⟨o,ho,r⟩:=x;exact⟨o,e o ho,r⟩|f n=>exact e _ x
def b9.At.live{src:b9}(x:src.At h I k):∃o,h.get? I=some o/\∀t vs n,o≠cc t vs n:=by
 have no:∀{o:Obj} {xs},o.data=.fields xs->∀t vs n,o≠cc t vs n:=λY t vs n e=>nomatch Y.symm.trans (aE Obj.data e)
 induction src using Mine.Lake.S.b9.casesOn with
 |d l a=>obtain⟨o,ho,_,Y⟩:=x;exact⟨o,ho,no Y⟩|g l a=>obtain⟨o,ho,_,Y⟩:=x;exact⟨o,ho,no Y⟩|c i l m=>obtain⟨o,ho,_,Y⟩:=x;exact⟨o,ho,no Y⟩|f n=>exact⟨_,x,no rfl⟩
def b9.Ok.ext{src:b9}(o:src.Ok h σ μ)(R:SR X σ μ h)(a:bf h σ μ h' σ μ Z)(hz:cG h Z):src.Ok h' σ μ:=by
 induction src using Mine.Lake.S.b9.casesOn with
 |d l b=>exact aq.ext o R a hz|g l b=>exact aq.ext o R a hz|c i l m=>exact o|f n=>trivial
def b9.XN{src:b9}(o:src.Ok h σ μ)(R:SR X σ μ h)(a:bf h σ μ h' aw aF Z)(hz:cG h Z)(e:lm src.guard aw=some (u,j)):
  src.Ok h' aw aF/\j=aw:=by
 have s:∀{x:Unit},some (x,aw)=some (u,j)->j=aw:=λe=>(aE Prod.snd (ay e)).symm
 induction src using Mine.Lake.S.b9.casesOn with
 |d l b=>exact⟨aq.ext o R a hz,s e⟩|g l b=>exact⟨aq.ext o R a hz,s e⟩|f n=>exact⟨trivial,s e⟩|c i l m=>
  obtain⟨ob,ho,e⟩:=a9 (x:=aw[i]?) e;obtain⟨l',Y,e⟩:=a9 e;obtain⟨T,e⟩:=bN e;rw[jm Y]at ho;exact⟨⟨a.d _ _ o.1,(V.xx l l').mp T▸ho⟩,s e⟩
section
variable{A:Around}{E:Value->Shared->Prop}{s:Shared}{σ:St}{μ:Mu}
def oC(R:SR X σ μ h)(T:X.b.get? it=none)(ho:¬ au σ μ it)(u:∀t vs n,h.get? it≠some (cc t vs n))(g:oB it h h'):
  SR X σ μ h'/\bf h σ μ h' σ μ (λa=>a=it):=
 R.frame (λa o e na=>g.1 a o na e) (λa G=>G▸⟨ho,T⟩) (λa G t vs n=>G▸u t vs n) λa o e=>by
  by_cases q:a=it
  .exact q▸g.2
  .exact⟨o,g.1 a o q e⟩
def xX{src:b9}{v:V}(R:SR X σ μ s.heap)(L:src.At s.heap I k)(ok:src.Ok s.heap σ μ)(T:X.b.get? I=none)(ho:¬ au σ μ I)
  (B:src.items[k]?=some v) (c:∀h' t x,SR X σ μ h'->bf s.heap σ μ h' σ μ (λa=>a=I)->src.At h' I (k+1)->aq h' (au σ μ) μ v x->Q (some x) {s with heap:=h',toks:=t}):
  wpAny (model X.a X.w) A (pyNext (.ref I)) Q E s:=by
 have z:∀t vs n,s.heap.get? I≠some (cc t vs n):=λt vs n e=>by
  obtain⟨o,h1,h2⟩:=L.live;exact h2 t vs n (ay (h1.symm.trans e))
 have grow:∀{h'},Heap.SameBut I s.heap h'->(∃o,h'.get? I=some o)->oB I s.heap h':=λN l=>⟨λb o T e=>(N.2 b T).trans e,l⟩;have h:cG s.heap λa=>a=I:=λa G t vs n=>G▸z t vs n
 induction src using Mine.Lake.S.b9.casesOn with
 |d l a=>
  obtain⟨_,vs,n,e,G,_,ra⟩:=aq.eL ok;injection e with e
  rw[<-e]at G;obtain⟨x,H,rx⟩:=ra.get B;rw[eJ]at H;refine wpAny_pyNext_tuple_item L ⟨_,G,rfl,n,rfl⟩ H λh' r N=>?_;obtain⟨R',E'⟩:=oC R T ho z (grow N (r.imp λJ q=>q.1));exact c h' s.toks x R' E' r (rx.ext R E' h)
 |g l a=>
  obtain⟨_,vs,n,e,G,_,ra⟩:=aq.jU ok;injection e with e
  rw[<-e]at G;obtain⟨x,H,rx⟩:=ra.get B;rw[eJ]at H;refine wpAny_pyNext_list_item L ⟨_,G,rfl,n,rfl⟩ H λh' r N=>?_;obtain⟨R',E'⟩:=oC R T ho z (grow N (r.imp λJ q=>q.1));exact c h' s.toks x R' E' r (rx.ext R E' h)
 |c i l m=>
  obtain⟨hm,Y⟩:=ok;obtain⟨_,vs,n,G,ra⟩:=R.g i _ m Y hm;obtain⟨x,H,rx⟩:=ra.get B;rw[eJ]at H;refine wpAny_pyNext_list_item L ⟨_,G,rfl,n,rfl⟩ H λh' r N=>?_;obtain⟨R',E'⟩:=oC R T ho z (grow N (r.imp λJ q=>q.1));exact c h' s.toks x R' E' r (rx.ext R E' h)
 |f n=>
  have B:((List.range n).map λ(k:Nat)=>V.j (k:Int))[k]?=some v:=B;have U:=jX B;rw[bX,List.length_range]at U;rw[n4,List.getElem?_range U]at B;rw[<-ay B]at c;refine wpAny_pyNext_range_item L ("~KslL49ddI<SJ" U) λh' r N=>?_;obtain⟨R',E'⟩:=oC R T ho z (grow N ⟨_,r⟩);refine c h' _ _ R' E' ?_ (.int _ _);show IsRangeIter h' I ((k+1:Nat):Int) ((n:Int) - (k+1:Nat)) 1;have e:(n:Int) - (k+1:Nat)=(n:Int) - k - 1:= "~18oJxAbowKFTr2Vq" id;rw[e];exact r
def xY{src:b9}{Q:Option Value->Shared->Prop}(j:A.handled=none)(R:SR X σ μ s.heap)(L:src.At s.heap I k)(ok:src.Ok s.heap σ μ)(T:X.b.get? I=none)(ho:¬ au σ μ I)
  (B:src.items.length<=k) (c:∀h' t,SR X σ μ h'->bf s.heap σ μ h' σ μ (λa=>a=I)->Q none {s with heap:=h',toks:=t}):
  wpAny (model X.a X.w) A (pyNext (.ref I)) Q E s:=by
 have z:∀t vs n,s.heap.get? I≠some (cc t vs n):=λt vs n e=>by
  obtain⟨o,h1,h2⟩:=L.live;exact h2 t vs n (ay (h1.symm.trans e))
 have fin:∀h',oB I s.heap h'->Q none {s with heap:=h'}:=λh' g=>c h' s.toks (oC R T ho z g).1 (oC R T ho z g).2;have N:∀{l:List V} {vs:Array Value} {h} {ω} {μ},b8 h ω μ l vs.toList->l.length<=k->vs[k]?=none:=λ{l vs h ω μ} r Y=>by
  exact Array.getElem?_eq_none (iO r▸Y)
 induction src using Mine.Lake.S.b9.casesOn with
 |d l a=>
  obtain⟨_,vs,n,e,G,_,ra⟩:=aq.eL ok;injection e with e
  exact NQ j L ⟨_,e▸G,rfl,n,rfl⟩ (N ra B) fin
 |g l a=>
  obtain⟨_,vs,n,e,G,_,ra⟩:=aq.jU ok;injection e with e
  exact Dj j L ⟨_,e▸G,rfl,n,rfl⟩ (N ra B) fin
 |c i l m=>
  obtain⟨hm,Y⟩:=ok;obtain⟨_,vs,n,G,ra⟩:=R.g i _ m Y hm;exact Dj j L ⟨_,G,rfl,n,rfl⟩ (N ra B) fin
 |f n=>
  have B:((List.range n).map λ(k:Nat)=>V.j (k:Int)).length<=k:=B;rw[bX,List.length_range]at B;exact NR j L ("~Pxy19LkJl4" B) fin
abbrev Dk(X:dk)(s:Shared)(x:Value)(src:b9):Prop:=
 ∀(A:Around) (E K:Value->Shared->Prop),(∀o,src.At (s.heap.push o) s.heap.objs.size 0->K (.ref s.heap.objs.size) {s with heap:=s.heap.push o})->wpAny (model X.a X.w) A (pyIter x) K E s
def Dl(R:SR X σ μ s.heap)(r:aq s.heap (au σ μ) μ v x)(e:ll v σ=some p):
  ∃src:b9,p=((src.guard,src.items),σ)/\src.Ok s.heap σ μ/\Dk X s x src:=by
 obtain⟨q,L,e⟩:=a9 e;obtain⟨Y,e⟩:=bN e
 induction v using Mine.Lake.V.casesOn with
 |o i=>
  obtain⟨m,hm,ex⟩:=r;obtain⟨o,ho,e1⟩:=a9 (x:=σ[i]?) L;obtain⟨l,Y,w⟩:=cF e1;rw[jm Y]at ho;rw[<-w]at e;obtain⟨_,vs,n,G,ra⟩:=R.g i _ m ho hm;rw[ex];exact⟨.c i l m,(ay e).symm,⟨hm,ho⟩,λA E K c=>wpAny_pyIter_list ⟨_,G,rfl,n,rfl⟩ (c _ ⟨_,iD _ rfl,rfl,rfl⟩)⟩
 |p l=>
  rw[<-ay L]at e;obtain⟨a,vs,n,ex,G,_,ra⟩:=r.eL;rw[ex]at r ⊢;exact⟨.d l a,(ay e).symm,r,λA E K c=>wpAny_pyIter_tuple ⟨_,G,rfl,n,rfl⟩ (c _ ⟨_,iD _ rfl,rfl,rfl⟩)⟩
 |r l=>
  rw[<-ay L]at e;obtain⟨a,vs,n,ex,G,_,ra⟩:=r.jU;rw[ex]at r ⊢;exact⟨.g l a,(ay e).symm,r,λA E K c=>wpAny_pyIter_list ⟨_,G,rfl,n,rfl⟩ (c _ ⟨_,iD _ rfl,rfl,rfl⟩)⟩
 |_=>exact bl L
end
section
variable{A:Around}{E:Value->Shared->Prop}{s:Shared}{σ:St}{μ:Mu}
def xZ(h:n < bs):(n:Int) < 2 ^ 63:=Int.lt_trans (Int.ofNat_lt.mpr h) (by decide)
def rb(low:∃o,X.b.get? sysModules=some o)(R:SR X σ μ h){i:Nat}(hm:μ[i]?=some m):(m.1==sysModules)=false:=
 cD.mpr λq=>by
  obtain⟨o,ho⟩:=low;exact bl ((R.p i m hm).1.symm.trans (q▸ho))
def SR.grow(R:SR X σ μ h)(U:∀b o,h.get? b=some o->h'.get? b=some o):SR X σ μ h'/\bf h σ μ h' σ μ No:=
 R.frame (λa o e J=>U a o e) (λJ f=>f.elim) (cG.no h) λa o e=>⟨o,U a o e⟩
def NS{r:V}(low:∃o,X.b.get? sysModules=some o)(R:SR X σ μ s.heap)(rx:aq s.heap (au σ μ) μ v x)
  (e:b1 .a v σ=some (r,aw)) (c:cz X s σ μ aw r Q):wpAny (model X.a X.w) A (call (.builtin "len") [x]) Q E s:=by
 rcases lh (x:=bt σ v) e with h |h
 .obtain⟨p,N,e⟩:=h
  obtain⟨Y,e⟩:=bN e;obtain⟨a,vs,n,ex,G,ra⟩:=jY R N rx;have c:=c.of e;rw[iO ra]at c Y;rw[ex];generalize U:p.1=T
  induction T using aS with
  |true=>rw[U]at G;exact PySem.Calls.call_len_list ⟨_,G,rfl,n,rfl⟩ (xZ Y) (c.here R (.int _ _) _)|false=>rw[U]at G;exact PySem.P.len_tuple G (BS.mpr (xZ Y)) (c.here R (.int _ _) _)
 .obtain⟨o,ho,e⟩:=a9 h.2
  obtain⟨es,J,e⟩:=a9 e;obtain⟨Y,e⟩:=bN e;obtain⟨i,m,_,hi,hm,ex,C⟩:=jZ R ho rx;obtain⟨kvs,_,_,L,U⟩:=lq J C;have c:=c.of e;rw[a0.length U]at c Y;rw[ex];exact call_len_dict (rb low R hm) L (xZ Y) (c.here R (.int _ _) _)
def NT(R:SR X σ μ s.heap)(rx:aq s.heap (au σ μ) μ v x)
  (e:b1 .b v σ=some (r,aw)) (c:cz X s σ μ aw r Q):wpAny (model X.a X.w) A (call (.type "tuple") [x]) Q E s:=by
 obtain⟨p,N,e⟩:=a9 (x:=bt σ v) e;obtain⟨Y,e⟩:=bN e;obtain⟨a,vs,n,ex,G,ra⟩:=jY R N rx;rw[Y.1]at G;rw[ex];refine call_tuple_list ⟨_,G,rfl,n,rfl⟩ (hsz:=gI (iO ra▸Y.2)) λh' U=>?_;obtain⟨I,z⟩:=R.grow U;exact((c.of e).after (s₁:={s with heap:=h'}) z ⟨rfl,rfl⟩).oz (v:=.p p.2) "tuple" I (.inl ⟨rfl,rfl⟩) (ra.ext R z (cG.no _)) _
def NU{h:Heap}(d:h.DictOf (intKind prog w) a []):∃n,h.get? a=some (uc n):=by
 obtain⟨o,es,ep,ho,⟨h1,h2,h3⟩,Y,j,J,u⟩:=d;have f:es.toList=[]:=by
  have:=J.length;exact w7.mp (by simpa using this)
 obtain rfl:es=#[]:=by simpa using f
 obtain⟨i,g,t,B⟩:=o;simp only at h1 h2 h3 Y;subst h1 h2 h3 Y;exact⟨ep,ho⟩
def NV{r:V}(low:∃o,X.b.get? sysModules=some o)(R:SR X σ μ s.heap)(rx:aq s.heap (au σ μ) μ v x)
  (e:b1 .d v σ=some (r,aw)) (c:cz X s σ μ aw r Q):wpAny (model X.a X.w) A (call (.type "dict") [x]) Q E s:=by
 obtain⟨o,ho,e⟩:=a9 (x:=eX σ v) e;obtain⟨es,J,e⟩:=a9 e;obtain⟨Y,e⟩:=bN e;obtain⟨i,m,_,hi,hm,ex,C⟩:=jZ R ho rx;obtain⟨kvs,H,_,T,U⟩:=lq J C;have c:=c.of e;rw[ex];refine kt_call_dict (rb low R hm) T (gI (by rw[<-a0.length U];exact Y)) λh' p N=>?_;obtain⟨I,z⟩:=R.alloc (h':=h') (o:=o) (m:=(s.heap.objs.size,s.heap.objs.size)) (λa ob e=>(N.2 a (n' (jc e))).trans (gg _ e)) H (fT _) (fT _) λbD aF K=>by
  induction o using Mine.Lake.O.casesOn with
  |b=>
   rw[<-ay J]at U;rw[show kvs=[]from U]at p;exact⟨rfl,NU p⟩
  |f t=>rw[<-ay J]at U;exact⟨rfl,kvs,p,cy.mono (λG G q=>K.rep q) U⟩|_=>exact bl J
 exact c _ _ _ I z (.ref (m:=(s.heap.objs.size,s.heap.objs.size)) (by rw[<-R.s,XC])) ⟨rfl,rfl⟩
def NW{src:b9}(j:A.handled=none)(T:X.b.get? I=none):∀(rest:List V) (k:Nat) (b:Bool) (s:Shared),src.items.drop k=rest->qW σ rest=some b->SR X σ μ s.heap->¬ au σ μ I->src.At s.heap I k->src.Ok s.heap σ μ->
  bf h₀ σ μ s.heap σ μ (λa=>a=I)->
  (∀h' t,SR X σ μ h'->bf h₀ σ μ h' σ μ (λa=>a=I)->R (.ok (.ret (.bool b))) {s with heap:=h',toks:=t})->
  codeAny (model X.a X.w) A (.builtin "any.loop" ⟨[.ref I],[]⟩) R s:=by
 intro rest
 induction rest with
 |nil=>
  intro k b s Y H m y L ok N c;rw[<-ay H]at c;refine codeAny_builtin PySem.F.entry_any_loop ?_;rw[Around.under_plainId BY _];show wpAny _ A.in1 (pyNext (.ref I)>>=_) _ _ s;refine aj (xY (A:=A.in1) j m L ok T y (by simpa using Y) λh' t Q z=>?_);exact aj (gU (aG (c h' t Q (N.trans z))))
 |cons v rest ih=>
  intro k b s Y H m y L ok N c;obtain⟨b1,i,e⟩:=a9 H;obtain⟨g,C,e⟩:=cF e;rw[<-e]at c;have U:src.items[k]?=some v:=by
   have:=aE (λl=>l[0]?) Y;rw[tE]at this;exact this
  have p:src.items.drop (k+1)=rest:=by
   have:=aE List.tail Y;rw[List.tail_drop]at this;exact this
  refine codeAny_builtin PySem.F.entry_any_loop ?_;rw[Around.under_plainId BY _];show wpAny _ A.in1 (pyNext (.ref I)>>=_) _ _ s;refine aj (xX (A:=A.in1) m L ok T y U λh' t x Q z r rx=>?_);have f:cG s.heap λa=>a=I:=λa G t vs n e=>by
   obtain⟨o,h1,h2⟩:=L.live;exact h2 t vs n (ay (h1.symm.trans (G▸e)))
  refine aj (dq (oA (s:={s with heap:=h',toks:=t}) Q rx i λw=>?_));refine aj (wpAny_letGo ?_)
  induction b1 using aS with
  |false=>
   rw[ab dX];have B:=ok.ext m z f;refine aG ⟨plainId_quiet BY _,ih (k+1) g _ p C Q y r B (N.trans z) λu J q h=>?_⟩;have:=c u J q h;rw[Bool.false_or]at this;exact this
  |true=>
   rw[ah rfl];exact aj (gU (aG (c h' _ Q (N.trans z))))
def NX(j:fS n A)(R:SR X σ μ s.heap)(rx:aq s.heap (au σ μ) μ v x)
  (e:b1 .e v σ=some (r,aw)) (c:cz X s σ μ aw r Q):wpAny (model X.a X.w) A (call (.builtin "any") [x]) Q E s:=by
 obtain⟨p,U,e⟩:=a9 (x:=bt σ v) e;obtain⟨Y,e⟩:=bN e;obtain⟨b,T,e⟩:=cF e;have c:=cz.of (aE some e) c;obtain⟨src,J,ok,g⟩:=Dl R rx (bg U (ds Y.2));have N:src.items=p.2:=(aE (·.1.2) J).symm;refine call_function_tree PySem.F.kind_any PySem.F.plain_any PySem.F.entry_any (PySem.F.args_any1 _) ?_;unfold Builtin.«any»;refine aj (m:=oneArg "any" _) (aG ?_);refine aj (g A.in1 E _ λo i=>?_);have y:=R.ow (fT s.heap);obtain⟨I,z⟩:=R.push o;refine aG ⟨plainId_quiet BY _,NW (h₀:=s.heap) j.b (R.ln (fT _)) p.2 0 b _ N T I y i (ok.ext R z (cG.no _)) (z.weaken λH f=>f.elim) λh' t q h=>?_⟩;exact c {s with heap:=h',toks:=t} μ _ q (h.shrink λa G=>.inr (G▸fT _)) (.bool _) ⟨rfl,rfl⟩
def NY(R:SR X σ μ s.heap)(rx:aq s.heap (au σ μ) μ v x)
  (e:t6 v=some b) (c:cz X s σ μ σ (.w b) Q):wpAny (model X.a X.w) A (call (.builtin "isinstance") [x,.type "str"]) Q E s:=by
 induction v using Mine.Lake.V.casesOn with
 |j i=>obtain⟨t,ex⟩:=rx;rw[ex];rw[<-ay e]at c;exact PySem.IsiPair.int_str (c.here R (.bool _) _)|u i=>obtain⟨t,ex⟩:=rx;rw[ex];rw[<-ay e]at c;exact PySem.IsiPair.str_str (c.here R (.bool _) _)|_=>exact bl e
end
def NZ{K:Type}[DecidableEq K](kvs:List (K×Value))(k:K)(x:Value)(u:(kvs.map (·.1)).Nodup):((stored kvs k x).map (·.1)).Nodup:=by
 unfold stored
 split
 .have:(kvs.map λkv=>if kv.1=k then(kv.1,x)else kv).map (·.1)=kvs.map (·.1):=by
   rw[ql];apply w_;intro a _;simp only[Function.comp];split <;>rfl
  rw[this];exact u
 .rename_i h
  rw[kP,BZ];refine⟨u,by simp,λa G b T=>?_⟩;simp at T;subst T;rintro rfl;obtain⟨kv,h1,h2⟩:=eb.mp G;exact h (qk.mpr ⟨kv,h1,by simpa using h2⟩)
def x0{α:Type}[DecidableEq α][DecidableEq β]{f:α->β}(inj:∀a b,f a=f b->a=b){t:List (α×V)}(r':cy f R t Y):∀{es:List (α×V)} {kvs:List (β×Value)},cy f R es kvs->(kvs.map (·.1)).Nodup->cy f R (iN es t) (merged kvs Y):=by
 intro es kvs;refine a0.ind (λ(t:List (α×V)) (Y:List (β×Value))=>∀es kvs,cy f R es kvs->(kvs.map (·.1)).Nodup->cy f R (iN es t) (merged kvs Y)) (λJ J r J=>r) (λp q J J h J ih es kvs r u=>?_) r' es kvs;obtain⟨a,v⟩:=p;obtain⟨b,x⟩:=q;have T:b=f a:=h.1;rw[T];exact ih _ _ (cy.stored inj r u a h.2) (NZ kvs _ x u)
section
variable{A:Around}{E:Value->Shared->Prop}{s:Shared}{σ:St}{μ:Mu}
def N1(R:SR X σ μ s.heap)(rx:aq s.heap (au σ μ) μ v x)(e:hD v σ=some (r,aw)):
  SR X aw μ s.heap/\bf s.heap σ μ s.heap aw μ No/\aq s.heap (au aw μ) μ r x:=by
 have e:(mK σ v).elim (v,σ) (λp=>(V.r p.2,σ.set p.1 .d))=(r,aw):=ay e;generalize h:mK σ v=U
 induction U using aX with
 |none=>
  rw[h]at e;rw[<-show _=r from aE Prod.fst e,<-show _=aw from aE Prod.snd e];exact⟨R,bf.refl ..,rx⟩
 |some p=>
  rw[h]at e;rw[<-show _=r from aE Prod.fst e,<-show _=aw from aE Prod.snd e];obtain⟨i,hi,h⟩:=a9 h;obtain⟨o,ho,h⟩:=a9 h;obtain⟨l,Y,h⟩:=cF h;rw[jm Y]at ho;rw[ug hi]at rx;obtain⟨m,hm,ex⟩:=rx;rw[ex,<-h];exact R.freeze ho hm
end
structure dQ where
 a:mR
 b:List (Str×NameKind)
structure eZ(env:Env)(c:dQ):Prop where
 a:env.scope.kind=.function
 f:env.globals=mainGlobals
 g:env.builtins=builtinsNs
 j:env.scope.names=c.b
 d:∀x i b,(x,i,b)∈c.a->c.b.lookup x=some (if b then .cell else .local)
 inj:∀e∈c.a,∀e'∈c.a,e.1=e'.1\/e.2.1=e'.2.1->e=e'
def eZ.kindOf(h:eZ env c)(x:Str):env.kindOf x=c.b.lookup x:=by unfold Env.kindOf;rw[h.j]
inductive GV where
 |e (i:Int) |h (l:List V) |g (f:FN) |j (c:CN) |b (id:String) |a (t:String) |d
@[inline]abbrev jn:=List (Str×GV)
structure re(X:dk)(G:jn):Prop where
 d:X.K.In X.b
 e:∃o,X.b.get? sysModules=some o
 p:X.b.Ns mainGlobals X.d
 r:X.b.Ns builtinsNs X.f
 u:X.b.NoLimit
 h:∀c a,dP c a=false->q_ X.K (X.c c) (Str.ofString (AN.name a))=true
 n:∀f,keepIn X.K (.ref (X.e f))=true
 v:∀c,keepIn X.K (.ref (X.c c))=true
 s:∀c,makesIn X.K (X.c c)=true
 j:∀f,typeIn X.K (.ref (X.e f))=some (.type "function")
 y:∀c,findIn X.K (.ref (X.c c)) "__init__" =some (some (.ref (X.e (qP c))))
 q:∀c m f,tT c m=some f->findIn X.K (.ref (X.c c)) "__getattribute__" =some (some (.builtin "object.__getattribute__"))/\findIn X.K (.ref (X.c c)) "__getattr__" =some none/\
  findIn X.K (.ref (X.c c)) (Str.ofString m.name)=some (some (.ref (X.e f)))
 z:∀(m:MN) (a:AN),m.name≠a.name
 b:∀x g,G.lookup x=some g->match g with
  |.e i=>∃t,X.d x=some (.int i t)|.h l=>∃a,X.d x=some (.ref a)/\cV X.b (.p l) (.ref a)|.g f=>X.d x=some (.ref (X.e f))|.j c=>X.d x=some (.ref (X.c c))|.b id=>X.d x=none/\X.f x=some (.builtin id)|.a t=>X.d x=none/\X.f x=some (.type t)|.d=>∃a f,X.d x=some (.ref a)/\(a==sysModules)=false/\X.b.MapOf (intKind X.a X.w) a f/\∀k,(f k).isSome=xF.contains k
section
variable{A:Around}{E:Value->Shared->Prop}{s:Shared}{σ:St}{μ:Mu}{G:jn}
def FR.N2(F:FR X env vs ρ σ μ s.heap)(H:(x,i,false)∈vs)(B:ρ[i]?=some (some v)):
  ∃m y,s.heap.Ns env.locals m/\m x=some y/\aq s.heap (au σ μ) μ v y:=by
 obtain⟨m,hm,h⟩:=F.k;obtain⟨y,h1,h2⟩:=h x i H v B;exact⟨m,y,hm,h1,h2⟩
def N3(t:eZ env c)(F:FR X env c.a ρ σ μ s.heap)(R:SR X σ μ s.heap)
  (H:(x,i,b)∈c.a) (Y:(x==Str.ofString "__debug__")=false) (B:ρ[i]?=some (some v)) (k:cz X s σ μ σ v Q):wpAny (model X.a X.w) A (eval (.Name x pos) env) Q E s:=by
 have U:=t.d x i b H;rw[<-t.kindOf]at U;refine wpAny_Name ?_ Y
 induction b using aS with
 |false=>
  obtain⟨m,y,h1,h2,h3⟩:=F.N2 H B;exact wpAny_loadName_local t.a U h1 h2 (k.here R h3 _)
 |true=>
  obtain⟨a,ov,h1,h2,h3⟩:=F.g x i H;obtain⟨y,h4,h5⟩:=h3 v B;subst h4;exact wpAny_loadName_cell t.a U h1 h2 (k.here R h5 _)
def N4(S:re X G)(t:eZ env c)(R:SR X σ μ s.heap)(U:c.b.lookup x=some .globalImplicit)
  (Y:(x==Str.ofString "__debug__")=false) (h:X.d x=some y\/(X.d x=none/\X.f x=some y)) (k:Q y s):wpAny (model X.a X.w) A (eval (.Name x pos) env) Q E s:=by
 rw[<-t.kindOf]at U;refine Calls.Name_function_global t.a U ?_ Y;have H:s.heap.Ns env.globals X.d:=by rw[t.f];exact S.p.keeps R.k
 have T:s.heap.Ns env.builtins X.f:=by rw[t.g];exact S.r.keeps R.k
 rcases h with h |⟨h1,h2⟩
 .exact Calls.loadGlobal_global H h k
 .exact Calls.loadGlobal_builtin H h1 T h2 k
def cV.rep(R:SR X σ μ h')(k:cV X.b (.p l) x):aq h' (au σ μ) μ (.p l) x:=by
 have T:∀a t vs n,X.b.get? a=some (cc t vs n)->¬ False->h'.get? a=some (cc t vs n)/\¬ au σ μ a:=λa t vs n e J=>⟨R.k a _ e,λq=>bl ((R.xK q).1.symm.trans e)⟩;exact aq.mono T (λi m e=>bl e) k
end
end Mine.Lake.S
end
set_option backward.match.sparseCases true
namespace Mine.Lake
abbrev bQ(m:Option (α×St))(Q:α->St->Prop):Prop:=match m with |some (a,σ)=>Q a σ |none=>False
structure Lk(p:Prop):Prop where
 h:p
@[inline]abbrev fg(W:Prop->Prop)(m:Option (α×St))(Q:α->St->Prop):Prop:=W (bQ m Q)
@[inline]abbrev bm(m:Option (α×St))(Q:α->St->Prop):Prop:=fg Lk m Q
def ag(h:m=some (a,σ))(q:Q a σ):bQ m Q:=by subst h;exact q
def aP(h:m=some (a,σ))(q:Q a σ):bm m Q:=Lk.mk (ag h q)
@[inline]abbrev CT:=FN->List V->St->(V->St->Prop)->Prop
@[inline]abbrev ar(m:(V->St->Prop)->Prop)(Q:V->St->Prop):Prop:=m Q
abbrev fh(b:Bool)(X Y:Prop):Prop:=match b with |true=>X |false=>Y
abbrev eu(σ:St)(v:V)(Q:Bool->Prop):Prop:=match iM σ v with |some b=>Q b |none=>False
abbrev Dm(W:Prop->Prop)(v:V)(Q:V->St->Prop)(σ:St):Prop:=match v with |.o i=>fg W (hD (.o i) σ) Q |v=>Q v σ
@[inline]abbrev oD(v:V)(Q:V->St->Prop)(σ:St):Prop:=Dm Lk v Q σ
abbrev ew(step:V->(St->Prop)->St->Prop)(g:Option (Nat×List V)):List V->(St->Prop)->St->Prop
 |[],Q,σ=>bQ (lm g σ) λJ σ=>Q σ
 |x::xs,Q,σ=>bQ (lm g σ) λJ σ=>step x (λσ=>ew step g xs Q σ) σ
abbrev un(k:ba->St->Prop)(Q:cZ->ba->St->Prop):cZ->ba->St->Prop
 |.a,ρ,σ=>k ρ σ|.c,ρ,σ=>k ρ σ|.d,ρ,σ=>Q .a ρ σ|.b v,ρ,σ=>Q (.b v) ρ σ
abbrev gn(body:V->ba->(cZ->ba->St->Prop)->St->Prop)(g:Option (Nat×List V)):List V->ba->(cZ->ba->St->Prop)->St->Prop
 |[],ρ,Q,σ=>bQ (lm g σ) λJ σ=>Q .a ρ σ
 |x::xs,ρ,Q,σ=>bQ (lm g σ) λJ σ=>body x ρ (un (λρ σ=>gn body g xs ρ Q σ) Q) σ
abbrev hU(t:ba->(Bool->St->Prop)->St->Prop)(body:ba->(cZ->ba->St->Prop)->St->Prop):Nat->ba->(cZ->ba->St->Prop)->St->Prop
 |0,_,_,_=>False|n+1,ρ,Q,σ=>t ρ (λb σ=>fh b (body ρ (un (λρ σ=>hU t body n ρ Q σ) Q) σ) (Q .a ρ σ)) σ
def x1(h:t ρ (λb σ=>fh b (body ρ (un (λρ σ=>hU t body n ρ Q σ) Q) σ) (Q .a ρ σ)) σ):hU t body (n+1) ρ Q σ:=h
@[inline]abbrev Tr(α:Type):=(α->St->Prop)->St->Prop
@[inline]abbrev k1(g:V->Tr V)(Q:V->St->Prop):V->St->Prop:=λx σ=>g x Q σ
@[inline]abbrev k2(m:Tr V)(g:V->V->Tr V)(Q:V->St->Prop):V->St->Prop:=λx σ=>m (k1 (g x) Q) σ
@[inline]abbrev k3(m m':Tr V)(g:V->V->V->Tr V)(Q:V->St->Prop):V->St->Prop:=λx σ=>m (k2 m' (g x) Q) σ
abbrev N5(a:AN)(x:V):Tr V:=λQ σ=>bQ (tV x a σ) Q
abbrev N6(x y:V):Tr V:=λQ σ=>bQ (dj x y σ) Q
abbrev N7(x a b:V):Tr V:=λQ σ=>bQ (qU x a b σ) Q
abbrev N8(op:fN)(x y:V):Tr V:=λQ σ=>bQ (iL op x y σ) Q
abbrev N9(op:lg)(x y:V):Tr V:=λQ σ=>bQ (de op x y σ) Q
abbrev N'(x:V):Tr V:=λQ σ=>match x with |.j k=>Q (.w (xF.contains k)) σ |_=>False
@[inline]abbrev x3(Q:V->St->Prop):V->St->Prop:=λx σ=>eu σ x λb=>Q (.w (!b)) σ
@[inline]abbrev kT(X Y:Prop):Bool->Prop:=λt=>fh t X Y
@[inline]abbrev x4(m m':Tr α)(Q:α->St->Prop):V->St->Prop:=λx σ=>eu σ x (kT (m Q σ) (m' Q σ))
@[inline]abbrev x5(m:Tr V)(Q:V->St->Prop):V->St->Prop:=λx σ=>eu σ x (kT (m Q σ) (Q x σ))
@[inline]abbrev x6(m:Tr V)(Q:V->St->Prop):V->St->Prop:=λx σ=>eu σ x (kT (Q x σ) (m Q σ))
@[inline]abbrev Dp(Q:V->St->Prop):List V->St->Prop:=λxs σ=>Q (.p xs) σ
@[inline]abbrev Dq(W:Prop->Prop)(fr:Bool)(Q:V->St->Prop):List V->St->Prop:=λxs σ=>fh fr (Q (.r xs) σ) (fg W (gk (.a xs) σ) Q)
@[inline]abbrev x7(W:Prop->Prop)(r:V)(Q:V->St->Prop):List V->St->Prop:=λvs σ=>fg W (qY r vs σ) λJ σ=>Q r σ
@[inline]abbrev Ds(c:List V->St->(V->St->Prop)->Prop)(Q:V->St->Prop):List V->St->Prop:=λxs σ=>ar (c xs σ) Q
@[inline]abbrev Dt(W:Prop->Prop)(c:CN)(C:CT)(Q:V->St->Prop):List V->St->Prop:=λxs σ=>fg W (gk (.e c []) σ) λr σ=>ar (C (qP c) (r::xs) σ) λv σ=>match v with |.z=>Q r σ |_=>False
@[inline]abbrev Du(C:CT)(m:MN)(l:Tr (List V))(Q:V->St->Prop):V->St->Prop:=λx σ=>bQ (xE x m σ) λf σ=>l (λxs σ=>ar (C f (x::xs) σ) Q) σ
abbrev Dv(W:Prop->Prop)(f:B1)(x:V):Tr V:=λQ σ=>fg W (b1 f x σ) Q
abbrev Dw(x:V):Tr V:=λQ σ=>match t6 x with |some b=>Q (.w b) σ |none=>False
@[inline]abbrev mS(W:Prop->Prop)(m:iH)(x:V)(Q:V->St->Prop):List V->St->Prop:=λxs σ=>fg W (cm m x xs σ) Q
@[inline]abbrev Dx(W:Prop->Prop)(m:iH)(l:Tr (List V))(Q:V->St->Prop):V->St->Prop:=λx σ=>bQ (gH m x σ) λJ σ=>l (mS W m x Q) σ
@[inline]abbrev x8(x:V)(Q:List V->St->Prop):List V->St->Prop:=λxs σ=>Q (x::xs) σ
@[inline]abbrev j6(m:Tr (List V))(Q:List V->St->Prop):V->St->Prop:=λx σ=>m (x8 x Q) σ
@[inline]abbrev Dy(m:Tr Bool)(Q:Bool->St->Prop):V->St->Prop:=λx σ=>eu σ x (kT (m Q σ) (Q false σ))
section
variable(W:Prop->Prop)(C:CT)
mutual
noncomputable def bJ:CE->ba->Tr V
 |.J=>λJ J J=>False
 |.K=>λJ Q σ=>Q .z σ
 |.N=>λJ Q σ=>Q .z σ
 |.B b=>λJ Q σ=>Q (.w b) σ
 |.g i=>λJ Q σ=>Q (.j i) σ
 |.I i=>λJ Q σ=>Q (.j (-(i:Int))) σ
 |.u s=>λJ Q σ=>Q (.u s) σ
 |.d i=>λρ Q σ=>(match ρ[i]? with |some (some v)=>Q v σ |_=>False)
 |.p i=>λJ Q σ=>Q (.j i) σ
 |.M v=>λJ Q σ=>Q v σ
 |.q o a=>λρ Q σ=>bJ o ρ (k1 (N5 a) Q) σ
 |.h o i=>λρ Q σ=>bJ o ρ (k2 (bJ i ρ) N6 Q) σ
 |.H o lo hi=>λρ Q σ=>bJ o ρ (k3 (bJ lo ρ) (bJ hi ρ) N7 Q) σ
 |.A op a b=>λρ Q σ=>bJ a ρ (k2 (bJ b ρ) (N8 op) Q) σ
 |.n op a b=>λρ Q σ=>bJ a ρ (k2 (bJ b ρ) (N9 op) Q) σ
 |.P a=>λρ Q σ=>bJ a ρ (k1 N' Q) σ
 |.G a=>λρ Q σ=>bJ a ρ (x3 Q) σ
 |.z l=>λρ Q σ=>x9 l ρ Q σ
 |.D l=>λρ Q σ=>ya l ρ Q σ
 |.C c a b=>λρ Q σ=>bJ c ρ (x4 (bJ a ρ) (bJ b ρ) Q) σ
 |.t l=>λρ Q σ=>j7 l ρ (Dp Q) σ
 |.r fr l=>λρ Q σ=>j7 l ρ (Dq W fr Q) σ
 |.F kvs=>λρ Q σ=>fg W (gk .b σ) λr σ=>match kvs with
  |[]=>Q r σ|kvs=>j7 kvs ρ (x7 W r Q) σ
 |.E e i it conds=>λρ Q σ=>uo it ρ (λg xs σ=>fg W (gk (.a []) σ) λr σ=>
   ew (λx k σ=>yb conds (ρ.set i (some x)) (λb σ=>fh b (bJ e (ρ.set i (some x)) (λv σ=>fg W (cm .a r [v] σ) λJ σ=>k σ) σ) (k σ)) σ) g xs
    (λσ=>fg W (hD r σ) Q) σ) σ
 |.Q k v i it=>λρ Q σ=>uo it ρ (λg xs σ=>fg W (gk .b σ) λr σ=>
   ew (λx K σ=>bJ k (ρ.set i (some x)) (λa σ=>bJ v (ρ.set i (some x)) (λy σ=>fg W (tY r a y σ) λJ σ=>K σ) σ) σ) g xs (λσ=>Q r σ) σ) σ
 |.j f l=>λρ Q σ=>j7 l ρ (Ds (C f) Q) σ
 |.L c l=>λρ Q σ=>j7 l ρ (Dt W c C Q) σ
 |.y o m l=>λρ Q σ=>bJ o ρ (Du C m (j7 l ρ) Q) σ
 |.x f a=>λρ Q σ=>bJ a ρ (k1 (Dv W f) Q) σ
 |.O a=>λρ Q σ=>bJ a ρ (k1 Dw Q) σ
 |.w m o l=>λρ Q σ=>bJ o ρ (Dx W m (j7 l ρ) Q) σ
noncomputable def j7:List CE->ba->Tr (List V)
 |[]=>λJ Q σ=>Q [] σ
 |e::r=>λρ Q σ=>bJ e ρ (j6 (j7 r ρ) Q) σ
noncomputable def x9:List CE->ba->Tr V
 |[]=>λJ J J=>False
 |e::r=>λρ Q σ=>match r with
  |[]=>bJ e ρ Q σ|_=>bJ e ρ (x5 (x9 r ρ) Q) σ
noncomputable def ya:List CE->ba->Tr V
 |[]=>λJ J J=>False
 |e::r=>λρ Q σ=>match r with
  |[]=>bJ e ρ Q σ|_=>bJ e ρ (x6 (ya r ρ) Q) σ
noncomputable def yb:List CE->ba->Tr Bool
 |[]=>λJ Q σ=>Q true σ
 |e::r=>λρ Q σ=>bJ e ρ (Dy (yb r ρ) Q) σ
noncomputable def uo:mE->ba->(Option (Nat×List V)->List V->St->Prop)->St->Prop
 |.a e=>λρ Q σ=>bJ e ρ (λx σ=>bQ (ll x σ) λp σ=>Q p.1 p.2 σ) σ
 |.b e=>λρ Q σ=>bJ e ρ (λx σ=>bQ (CL x σ) λp σ=>Q p.1 p.2 σ) σ
end
@[inline]abbrev Fl:=cZ->ba->St->Prop
@[inline]abbrev uq(i:Nat)(ρ:ba)(Q:Fl):V->St->Prop:=λx σ=>Q .a (ρ.set i (some x)) σ
@[inline]abbrev Dz(p:qQ)(ρ:ba)(Q:ba->St->Prop):V->St->Prop:=λx σ=>bQ (fQ p x ρ σ) Q
@[inline]abbrev oE(ρ:ba)(Q:Fl):α->St->Prop:=λJ σ=>Q .a ρ σ
@[inline]abbrev DA(W:Prop->Prop)(ρ:ba)(a:AN)(x:V)(Q:Fl):V->St->Prop:=λy σ=>fg W (mH y a x σ) (oE ρ Q)
@[inline]abbrev DB(W:Prop->Prop)(ρ:ba)(a:AN)(m:Tr V)(Q:Fl):V->St->Prop:=λx σ=>m (DA W ρ a x Q) σ
@[inline]abbrev DC(W:Prop->Prop)(ρ:ba)(Q:Fl):V->St->Prop:=λx σ=>Dm W x (λx σ=>Q (.b x) ρ σ) σ
@[inline]abbrev iP(m:ba->Fl->St->Prop)(Q:Fl):Fl:=λf ρ σ=>match f with |.a=>m ρ Q σ |f=>Q f ρ σ
@[inline]abbrev yc(m m':Fl->St->Prop)(Q:Fl):V->St->Prop:=λx σ=>eu σ x (kT (m Q σ) (m' Q σ))
mutual
noncomputable def DD:CS->ba->Fl->St->Prop
 |.j=>λJ J J=>False
 |.x=>λρ Q σ=>Q .a ρ σ
 |.y=>λρ Q σ=>Q .d ρ σ
 |.u=>λρ Q σ=>Q .c ρ σ
 |.t=>λρ Q σ=>Q (.b .z) ρ σ
 |.g i e=>λρ Q σ=>bJ W C e ρ (uq i ρ Q) σ
 |.r is e=>λρ Q σ=>bJ W C e ρ (Dz (.b is) ρ (Q .a)) σ
 |.l o a e=>λρ Q σ=>bJ W C e ρ (DB W ρ a (bJ W C o ρ) Q) σ
 |.n o i e=>λρ Q σ=>bJ W C e ρ (λx σ=>bJ W C o ρ (λy σ=>bJ W C i ρ (λk σ=>fg W (li y k x σ) (oE ρ Q)) σ) σ) σ
 |.s o a op e=>λρ Q σ=>bJ W C o ρ (λy σ=>bQ (tV y a σ) λI σ=>bJ W C e ρ (λv σ=>match I,v with
   |.j m,.j n=>bQ (iL op (.j m) (.j n) σ) λx σ=>fg W (mH y a x σ) (oE ρ Q)
   |_,_=>False) σ) σ
 |.w o i op e=>λρ Q σ=>bJ W C o ρ (λy σ=>bJ W C i ρ (λk σ=>bQ (dj y k σ) λI σ=>bJ W C e ρ (λv σ=>match I,v with
   |.j m,.j n=>bQ (iL op (.j m) (.j n) σ) λx σ=>fg W (li y k x σ) (oE ρ Q)
   |_,_=>False) σ) σ) σ
 |.k e=>λρ Q σ=>bJ W C e ρ (oE ρ Q) σ
 |.h c a b=>λρ Q σ=>bJ W C c ρ (yc (jo a ρ) (jo b ρ) Q) σ
 |.q c b=>λρ Q σ=>hU (λρ k σ=>bJ W C c ρ (λx σ=>eu σ x λt=>k t σ) σ) (λρ k σ=>jo b ρ k σ) ol ρ Q σ
 |.m p it b=>λρ Q σ=>uo W C it ρ (λg xs σ=>gn (λx ρ k σ=>bQ (fQ p x ρ σ) λρ σ=>jo b ρ k σ) g xs ρ Q σ) σ
 |.d e=>λρ Q σ=>bJ W C e ρ (DC W ρ Q) σ
 |.v b f=>λρ Q σ=>jo b ρ (λr ρ σ=>jo f ρ (λr' ρ σ=>match r' with |.a=>Q r ρ σ |_=>False) σ) σ
noncomputable def jo:List CS->ba->Fl->St->Prop
 |[]=>λρ Q σ=>Q .a ρ σ
 |s::r=>λρ Q σ=>DD s ρ (iP (jo r) Q) σ
end
end
@[inline]abbrev bK(C:CT):=bJ Lk C
@[inline]abbrev fV(C:CT):=j7 Lk C
@[inline]abbrev DE(C:CT):=x9 Lk C
@[inline]abbrev DF(C:CT):=ya Lk C
@[inline]abbrev fi(C:CT):=yb Lk C
@[inline]abbrev DG(C:CT):=uo Lk C
@[inline]abbrev yd(C:CT):=DD Lk C
@[inline]abbrev aM(C:CT):=jo Lk C
section
variable(W:Prop->Prop)(C:CT)
abbrev dC(Q:V->St->Prop):cZ->ba->St->Prop
 |.b v,_,σ=>Q v σ|.a,_,σ=>Q .z σ|_,_,_=>False
abbrev rf(f:aN)(args:List V)(Q:V->St->Prop)(σ:St):Prop:=match oo f args with
 |none=>False|some ρ=>jo W C f.c ρ (dC Q) σ
end
@[inline]abbrev DH(C:CT):=rf Lk C
abbrev ur(W:Prop->Prop):Nat->CT
 |0=>λJ J J J=>False
 |n+1=>λf args σ Q=>W (rf W (ur W n) (bv f) args Q σ)
abbrev ai:Nat->CT:=ur Lk
def N_(h:DH (ai n) (bv f) args Q σ):ar (ai (n+1) f args σ) Q:=Lk.mk h
def ye(h:ρ[i]?=some (some v))(q:Q v σ):bK C (.d i) ρ Q σ:=by
 show(match ρ[i]? with |some (some v)=>Q v σ |_=>False);rw[h];exact q
def XQ(h:bK C c ρ (yc (aM C a ρ) (aM C b ρ) (iP (aM C r) K)) σ):aM C (.h c a b::r) ρ K σ:=h
def DI(h:aM C r ρ K σ):aM C [] ρ (iP (aM C r) K) σ:=h
def Oa:Lk=λp=>p:=funext λp=>propext ⟨λh=>h.h,λh=>⟨h⟩⟩
end Mine.Lake
section
open PySem PySem.W PyProof.Rows
namespace Mine.Lake.S
def c5{K:α->St->Prop}(h:bQ m K):∃a σ,m=some (a,σ)/\K a σ:=by
 induction m using aX with
 |none=>exact h.elim|some p=>exact⟨p.1,p.2,rfl,h⟩
def iQ(h:eu σ v Q):∃b,iM σ v=some b/\Q b:=by
 unfold eu at h;generalize e:iM σ v=E
 induction E using aX with
 |none=>rw[e]at h;exact h.elim|some b=>rw[e]at h;exact⟨b,rfl,h⟩
structure D where
 s:Shared
 σ:St
 μ:Mu
@[inline]abbrev D.R(d:D)(v:V)(x:Value):Prop:=aq d.s.heap (au d.σ d.μ) d.μ v x
@[inline]abbrev D.Rs(d:D)(v:List V)(x:List Value):Prop:=b8 d.s.heap (au d.σ d.μ) d.μ v x
structure Go(X:dk)(Z:Addr->Prop)(d d':D):Prop where
 j:SR X d'.σ d'.μ d'.s.heap
 k:bf d.s.heap d.σ d.μ d'.s.heap d'.σ d'.μ Z
 p:et d.s d'.s
def Go.trans{Z}(g:Go X Z a b)(h:Go X Z b c):Go X Z a c:=⟨h.j,g.k.trans h.k,g.p.trans h.p⟩
def Go.weak(g:Go X Z a b)(h:∀c,Z c->Z' c):Go X Z' a b:=⟨g.j,g.k.weaken h,g.p⟩
def Go.no(g:Go X No a b):Go X Z a b:=g.weak λJ f=>f.elim
def Go.tok(R:SR X d.σ d.μ d.s.heap)(t:Nat):Go X Z d ⟨{d.s with toks:=t},d.σ,d.μ⟩:=⟨R,bf.refl ..,rfl,rfl⟩
def Go.rep(g:Go X No d d')(R:SR X d.σ d.μ d.s.heap)(r:d.R v x):d'.R v x:=aq.ext r R g.k (cG.no _)
def Go.DJ(g:Go X No d d')(R:SR X d.σ d.μ d.s.heap)(r:d.Rs v x):d'.Rs v x:=b8.ext r R g.k (cG.no _)
abbrev KV(X:dk)(d:D)(K:V->St->Prop)(Q:Value->Shared->Prop):Prop:=∀d' v x,Go X No d d'->d'.R v x->K v d'.σ->Q x d'.s
def KV.after{C:D}{K:V->St->Prop}{Q}(k:KV X d K Q)(g:Go X No d C):KV X C K Q:=λd' v x s=>k d' v x (g.trans s)
def KV.at_{K:V->St->Prop}{Q}{v:V}(k:KV X d K Q)(h:K v aw):cz X d.s d.σ d.μ aw v Q:=λs' aF x R E r S=>k ⟨s',aw,aF⟩ v x ⟨R,E,S⟩ r h
def KV.here{K:V->St->Prop}{Q}{v:V}(k:KV X d K Q)(R:SR X d.σ d.μ d.s.heap)(h:K v d.σ)(r:d.R v x)(t:Nat):Q x {d.s with toks:=t}:=k ⟨{d.s with toks:=t},d.σ,d.μ⟩ v x (Go.tok R t) r h
abbrev KT(X:dk)(d:D)(K:V->St->Prop)(Q:Bool->Shared->Prop):Prop:=∀d' v,Go X No d d'->K v d'.σ->∃b,iM d'.σ v=some b/\Q b d'.s
def KT.at_{C:D}{K:V->St->Prop}{Q}(k:KT X d K Q)(g:Go X No d C)(w:K v C.σ):∃b,iM C.σ v=some b/\∀t,Q b {C.s with toks:=t}:=by
 obtain⟨b,T,_⟩:=k C v g w;refine⟨b,T,λt=>?_⟩;obtain⟨G,H,q⟩:=k ⟨{C.s with toks:=t},C.σ,C.μ⟩ v (g.trans (Go.tok g.j t)) w;exact ay (H.symm.trans T)▸q
def KT.after{C:D}{K:V->St->Prop}{Q}(k:KT X d K Q)(g:Go X No d C):KT X C K Q:=λd' v s=>k d' v (g.trans s)
abbrev KA(X:dk)(d:D)(n:Nat)(K:List V->St->Prop)(Q:List Value->Shared->Prop):Prop:=∀d' v x,Go X No d d'->d'.Rs v x->x.length=n->K v d'.σ->Q x d'.s
abbrev us(X:dk)(C:CT)(n:Nat):Prop:=
 ∀(f:FN) (A:Around) (R:Result->Shared->Prop) (d:D) (vs:List V) (xs:List Value) (K:V->St->Prop),fS n A->SR X d.σ d.μ d.s.heap->d.Rs vs xs->C f vs d.σ K->
  KV X d K (λx s'=>R (.ok (.ret x)) s')->codeAny (model X.a X.w) A (.call (.ref (X.e f)) ⟨xs,[]⟩) R d.s
structure oF(n:Nat)(A:Around):Prop where
 b:A.handled=none
 d:A.depth+3*n+5 < recursionLimit
 c:A.units+12*n+206 < cLine
def oF.room(h:oF n A):fS n A:=⟨h.b,by have v1:=h.d;exact "~D;0r7JvhHioU7m6f" v1,by have v2:=h.c;exact "~eHJkAo39o|yjon2CCC>_h" v2⟩
abbrev mT(X:dk):Prop:=∀{A:Around} {E:Value->Shared->Prop} {s:Shared} {σ:St} {μ:Mu} {v r:V} {z:Value} {aw:St} {Q:Value->Shared->Prop} {n:Nat},fS n A->SR X σ μ s.heap->aq s.heap (au σ μ) μ v z->
 b1 .c v σ=some (r,aw)->cz X s σ μ aw r Q->wpAny (model X.a X.w) A (call (.builtin "sorted") [z]) Q E s
structure Bd where
 X:dk
 C:CT
 n:Nat
 A:Around
 G:jn
 a:re X G
 c:us X C n
 b:oF n A
 d:mT X
structure Sc where
 c:dQ
 a:Env
 b:eZ a c
@[inline]abbrev W(B:Bd)(t:Sem α)(Q:α->Shared->Prop)(E:Value->Shared->Prop)(d:D):Prop:=wpAny (model B.X.a B.X.w) B.A t Q E d.s
structure c_(B:Bd)(S:Sc)(d:D)(ρ:ba):Prop where
 j:FR B.X S.a S.c.a ρ d.σ d.μ d.s.heap
 f:SR B.X d.σ d.μ d.s.heap
def c_.after{B S ρ}(p:c_ B S d ρ)(g:Go B.X No d d'):c_ B S d' ρ:=⟨p.j.CZ p.f g.k,g.j⟩
abbrev SE(B:Bd)(S:Sc)(e:CE)(x:Expr):Prop:=∀E d ρ K Q,c_ B S d ρ->bK B.C e ρ K d.σ->KV B.X d K Q->W B (eval x S.a) Q E d
abbrev SB(B:Bd)(S:Sc)(e:CE)(x:Expr):Prop:=∀E d ρ K Q,c_ B S d ρ->bK B.C e ρ K d.σ->KT B.X d K Q->W B (PySem.isTrue x S.a (eval x S.a)) Q E d
structure aU(B:Bd)(S:Sc)(e:CE)(x:Expr):Prop where
 v:SE B S e x
 t:SB B S e x
variable{B:Bd}{S:Sc}{G:jn}
def dR(h:SE B S e x)(H:PySem.isTrue x S.a (eval x S.a)=(do let v <-eval x S.a;standAt x.pos;holding [v] (truthy v))):aU B S e x:=
 ⟨h,λE d ρ K Q p w k=>by
  unfold W;rw[H];refine aj (h E d ρ K _ p w λC v y g r w1=>?_);obtain⟨b,T,q⟩:=k.at_ g w1;exact aj (cT (dq (oA g.j r T q)))⟩
def Ob:aU B S .N (.Constant .none k pos):=dR (λE d ρ K Q p w k=>aG (k.here p.f w .none _)) rfl
def Oc{pos:Pos}:aU B S (.B b) (.Constant (.bool b) k pos):=dR (λE d ρ K Q p w k=>aG (k.here p.f w (.bool b) _)) rfl
def Od{pos:Pos}:aU B S (.g i) (.Constant (.int i) k pos):=dR (λE d ρ K Q p w k=>wpAny_mkInt (k.here p.f w (.int _ _) _)) rfl
def Oe{pos:Pos}:aU B S (.u i) (.Constant (.str (Str.ofString i)) k pos):=dR (λE d ρ K Q p w k=>wpAny_mkText (k.here p.f w (.str _ _) _)) rfl
def Of{pos n:Pos}:aU B S (.I i) (.UnaryOp .USub (.Constant (.int i) k pos) n):=dR (λE d ρ K Q p w k=>wpAny_UnaryOp (wpAny_mkInt (neg_int (k.here p.f w (.int _ _) _)))) rfl
def Og{ρ:ba}{K:V->St->Prop}(w:bK C (.d i) ρ K σ):∃v,ρ[i]?=some (some v)/\K v σ:=by
 have w:(match ρ[i]? with |some (some v)=>K v σ |_=>False):=w;generalize Y:ρ[i]?=E
 induction E using aX with
 |none=>rw[Y]at w;exact w.elim|some o=>
  induction o using aX with
  |none=>rw[Y]at w;exact w.elim|some v=>rw[Y]at w;exact⟨v,rfl,w⟩
def Oh(H:(x,i,b)∈S.c.a)(Y:(x==Str.ofString "__debug__")=false):aU B S (.d i) (.Name x pos):=dR (λE d ρ K Q p w k=>by
 obtain⟨v,U,h⟩:=Og w;exact N3 S.b p.j p.f H Y U (k.at_ h)) rfl
def j8{E d Q}(R:SR B.X d.σ d.μ d.s.heap)(U:S.c.b.lookup x=some .globalImplicit)
  (Y:(x==Str.ofString "__debug__")=false) (h:B.X.d x=some y\/(B.X.d x=none/\B.X.f x=some y)) (k:Q y d.s):W B (eval (.Name x pos) S.a) Q E d:=N4 B.a S.b R U Y h k
def Oi{pos:Pos}(H:B.G.lookup x=some (.e i))(U:S.c.b.lookup x=some .globalImplicit)(Y:(x==Str.ofString "__debug__")=false):
  aU B S (.p i) (.Name x pos):=dR (λE d ρ K Q p w k=>by
 obtain⟨t,T⟩:=B.a.b x _ H;exact j8 p.f U Y (.inl T) (k.here p.f w (.int _ _) _)) rfl
def Oj{pos:Pos}(H:B.G.lookup x=some (.h l))(U:S.c.b.lookup x=some .globalImplicit)(Y:(x==Str.ofString "__debug__")=false):
  aU B S (.M (.p l)) (.Name x pos):=dR (λE d ρ K Q p w k=>by
 obtain⟨a,T,C⟩:=B.a.b x _ H;exact j8 p.f U Y (.inl T) (k.here p.f w (cV.rep p.f C) _)) rfl
abbrev iR:Expr->Bool
 |.Call (.Name ..) [] [] _=>false|_=>true
def yf(h:iR x=true):attributeBase x a env w=w:=by
 induction x using eK with
 |Call f l j p=>
  induction f using eK with
  |Name n q=>
   induction l using bo with
   |nil=>
    induction j using bo with
    |nil=>exact b7 h|cons _ _=>rfl
   |cons _ _=>rfl
  |_=>rfl
 |_=>rfl
def Ol{x:Expr}{pos:Pos}(ho:SE B S o x)(T:iR x=true):aU B S (.q o a) (.Attribute x (Str.ofString a.name) pos):=dR (λE d ρ K Q p w k=>
 Attribute_any_ (ho E d ρ _ _ p w λC v y g r w1=>let ⟨_,_,e,h⟩:=c5 w1;Dg B.a.d B.a.h g.j r e ((k.after g).at_ h)) (by rw[arm_eval_Attribute,yf T])) rfl
abbrev rh(x:Expr):Bool:=x.ctorIdx !=26
def Om{x y:Expr}(ho:SE B S o x)(hi:SE B S i y)(N:rh y=true):aU B S (.h o i) (.Subscript x y pos):=dR (λE d ρ K Q p w k=>by
 refine Subscript_ (ho E d ρ _ _ p w λC u z U J w1=>hi E C ρ _ _ (p.after U) w1 λd2 v q j g w2=>?_);obtain⟨_,_,e,h⟩:=c5 w2;obtain⟨T,id,m,Y,h⟩:=C7 (A:=B.A) (E:=E) j.j B.b.room (j.rep U.j J) g e ((k.after (U.trans j)).at_ h);refine tail_any (ops:=[z,q]) m Y h ?_
 induction y using eK <;>first |rfl |exact b7 N) rfl
def On{b:CE}{x:Expr}(Y:SE B S a x)(T:SE B S b y):aU B S (.A op a b) (.BinOp x (xT op) y pos):=dR (λE d ρ K Q p w k=>
 wpAny_BinOp (Y E d ρ _ _ p w λC u z A J w1=>T E C ρ _ _ (p.after A) w1 λd2 v q j g w2=>
  let ⟨_,_,e,h⟩:=c5 w2;NC j.j (j.rep A.j J) g e ((k.after (A.trans j)).at_ h))) rfl
abbrev fW(x:Expr):Bool:=x.ctorIdx !=7
def DK(h:fW x=true)(y:Value):foldedSetIterable x env y=pure y:=by induction x using eK <;>first |rfl |exact b7 h
def DL(N:fW y=true):markedEach [op] [y] (evalEach [y] env)=[eval y env]:=by
 have:behindInMarks op y=false:=by induction y using eK <;>first |rfl |exact b7 N
 show[markedBehindIn op y (eval y env)]=_;unfold markedBehindIn;rw[this]
def DM{x y:Expr}(N:fW y=true) (c:∀E d ρ K Q,c_ B S d ρ->bK B.C e ρ K d.σ->KV B.X d K Q->
   W B (eval x S.a) (λl s₁=>wpAny (model B.X.a B.X.w) B.A (eval y S.a) (λr a=>wpAny (model B.X.a B.X.w) B.A (compareOp op l r) Q E a) E s₁) E d):aU B S e (.Compare x [op] [y] pos):=by
 refine⟨λE d ρ K Q p w k=>?_,λE d ρ K Q p w k=>?_⟩
 .unfold W
  rw[arm_eval_Compare,DL N];refine aj (gX (c E d ρ K Q p w k) (λl s1 h=>?_) λJ J e=>e);exact aj (dq (gX h (λr s2 h=>aj (cT (B0 h))) λJ J e=>e))
 .unfold W
  rw[arm_isTrue_Compare,DL N];refine aj (gX (c E d ρ K (λr s2=>wpAny (model B.X.a B.X.w) B.A (truthy r) Q E s2) p w λC v y g r w1=>?_) (λl s1 h=>?_) λJ J e=>e)
  .obtain⟨b,T,q⟩:=k.at_ g w1
   exact oA g.j r T q
  .refine aj (dq (gX h (λr s2 h=>?_) λJ J e=>e))
   exact aj (cT (aj (B0 (gX h (λq o h=>dq h) λJ J e=>e))))
def Oo{b:CE}{x:Expr}(Y:SE B S a x)(T:SE B S b y)(N:fW y=true):aU B S (.n op a b) (.Compare x [q8 op] [y] pos):=
 DM N λE d ρ K Q p w k=>Y E d ρ _ _ p w λC u z A J w1=>T E C ρ _ _ (p.after A) w1 λd2 v q j g w2=>
  let ⟨_,_,e,h⟩:=c5 w2;Nu B.a.e j.j B.b.room (j.rep A.j J) g e ((k.after (A.trans j)).at_ h)
def Op(T:SE B S a y)(H:B.G.lookup x=some .d)(U:S.c.b.lookup x=some .globalImplicit)(Y:(x==Str.ofString "__debug__")=false):
  aU B S (.P a) (.Compare y [.In] [.Name x n] pos):=
 DM rfl λE d ρ K Q p w k=>T E d ρ _ _ p w λC u z A J w1=>by
  obtain⟨a,f,h1,h2,h3,h4⟩:=B.a.b x _ H;refine j8 A.j U Y (.inl h1) ?_
  induction u using Mine.Lake.V.casesOn with
  |j i=>
   obtain⟨t,ex⟩:=J;obtain⟨o,es,ep,ho,r⟩:=h3;rw[ex];exact wpAny_in_of (knd:=intKind B.X.a B.X.w) (k:=i) (n9 _ _ _ _) h2 ⟨o,es,ep,A.j.k _ _ ho,r⟩ (by rw[h4];exact(k.after A).here A.j w1 (.bool _) _)
  |_=>exact(show False from w1).elim
def Oq(Y:aU B S a x):aU B S (.G a) (.UnaryOp .Not x pos):=by
 refine⟨λE d ρ K Q p w k=>?_,λE d ρ K Q p w k=>?_⟩
 .refine wpAny_UnaryOp (Y.v E d ρ (x3 K) _ p w λC u z A J w1=>?_)
  obtain⟨b,T,h⟩:=iQ w1;exact not_of (oA A.j J T λt=>(k.after A).here A.j h (.bool _) t)
 .show wpAny _ _ (do return !(<-PySem.isTrue x S.a (eval x S.a))) _ _ _
  refine aj (Y.t E d ρ (x3 K) _ p w λC u A w1=>?_);obtain⟨b,T,h⟩:=iQ w1;obtain⟨U,H,q⟩:=k C (.w !b) A h;exact⟨b,T,aG (ay H▸q)⟩
end Mine.Lake.S
namespace Mine.Lake.S
variable{B:Bd}{S:Sc}{f:Expr->CE}
def Ot(hf:∀x,aU B S (f x) x)(m:List Expr):aU B S (.z (m.map f)) (.BoolOp .And m pos):=by
 induction m with
 |nil=>exact⟨λE d ρ K Q p w k=>(show False from w).elim,λE d ρ K Q p w k=>(show False from w).elim⟩|cons x m ih=>
  refine⟨λE d ρ K Q p w k=>?_,λE d ρ K Q p w k=>?_⟩
  .induction m using bo with
   |nil=>exact(hf x).v E d ρ K Q p w k|cons y m=>
    unfold W;rw[B3];refine aj ((hf x).v E d ρ (x5 (DE B.C ((y::m).map f) ρ) K) _ p w λC v z g r w1=>aj (cT (aj (dq ?_))));obtain⟨b,T,h⟩:=iQ w1;refine oA g.j r T λt=>?_
    induction b using aS with
    |false=>exact aG ((k.after g).here g.j h r t)|true=>
     have j:=g.trans (Go.tok (Z:=No) g.j t);have:=ih.v E ⟨{C.s with toks:=t},C.σ,C.μ⟩ ρ K Q (p.after j) h (k.after j);unfold W at this;rw[B3]at this;exact this
  .show wpAny _ _ (PySem.isTrue x S.a (eval x S.a)>>=λt=>_) _ _ _
   induction m using bo with
   |nil=>
    refine aj ((hf x).t E d ρ K _ p w λC v g w1=>?_);obtain⟨b,T,q⟩:=k C v g w1;exact⟨b,T,by induction b <;>exact aG q⟩
   |cons y m=>
    refine aj ((hf x).t E d ρ (x5 (DE B.C ((y::m).map f) ρ) K) _ p w λC v g w1=>?_);obtain⟨b,T,h⟩:=iQ w1;refine⟨b,T,?_⟩
    induction b using aS with
    |false=>
     obtain⟨G,H,q⟩:=k C v g h;rw[T]at H;cases H;exact aG q
    |true=>exact ih.t E C ρ K Q (p.after g) h (k.after g)
def Ou(hf:∀x,aU B S (f x) x)(m:List Expr):aU B S (.D (m.map f)) (.BoolOp .Or m pos):=by
 induction m with
 |nil=>exact⟨λE d ρ K Q p w k=>(show False from w).elim,λE d ρ K Q p w k=>(show False from w).elim⟩|cons x m ih=>
  refine⟨λE d ρ K Q p w k=>?_,λE d ρ K Q p w k=>?_⟩
  .induction m using bo with
   |nil=>exact(hf x).v E d ρ K Q p w k|cons y m=>
    unfold W;rw[B3];refine aj ((hf x).v E d ρ (x6 (DF B.C ((y::m).map f) ρ) K) _ p w λC v z g r w1=>aj (cT (aj (dq ?_))));obtain⟨b,T,h⟩:=iQ w1;refine oA g.j r T λt=>?_
    induction b using aS with
    |true=>exact aG ((k.after g).here g.j h r t)|false=>
     have j:=g.trans (Go.tok (Z:=No) g.j t);have:=ih.v E ⟨{C.s with toks:=t},C.σ,C.μ⟩ ρ K Q (p.after j) h (k.after j);unfold W at this;rw[B3]at this;exact this
  .show wpAny _ _ (PySem.isTrue x S.a (eval x S.a)>>=λt=>_) _ _ _
   induction m using bo with
   |nil=>
    refine aj ((hf x).t E d ρ K _ p w λC v g w1=>?_);obtain⟨b,T,q⟩:=k C v g w1;exact⟨b,T,by induction b <;>exact aG q⟩
   |cons y m=>
    refine aj ((hf x).t E d ρ (x6 (DF B.C ((y::m).map f) ρ) K) _ p w λC v g w1=>?_);obtain⟨b,T,h⟩:=iQ w1;refine⟨b,T,?_⟩
    induction b using aS with
    |true=>
     obtain⟨G,H,q⟩:=k C v g h;rw[T]at H;cases H;exact aG q
    |false=>exact ih.t E C ρ K Q (p.after g) h (k.after g)
def Ov(L:SB B S q z)(G:aU B S a x)(T:aU B S b y):aU B S (.C q a b) (.IfExp z x y pos):=by
 refine⟨λE d ρ K Q p w k=>?_,λE d ρ K Q p w k=>?_⟩
 .refine wpAny_IfExp (L E d ρ (x4 (bK B.C a ρ) (bK B.C b ρ) K) _ p w λC v g w1=>?_)
  obtain⟨t,i,h⟩:=iQ w1;refine⟨t,i,?_⟩
  induction t using aS with
  |true=>exact G.v E C ρ K Q (p.after g) h (k.after g)|false=>exact T.v E C ρ K Q (p.after g) h (k.after g)
 .show wpAny _ _ (PySem.isTrue z S.a (eval z S.a)>>=λt=>if t=true then PySem.isTrue x S.a (eval x S.a)else PySem.isTrue y S.a (eval y S.a)) _ _ _
  refine aj (L E d ρ (x4 (bK B.C a ρ) (bK B.C b ρ) K) _ p w λC v g w1=>?_);obtain⟨t,i,h⟩:=iQ w1;refine⟨t,i,?_⟩
  induction t using aS with
  |true=>exact G.t E C ρ K Q (p.after g) h (k.after g)|false=>exact T.t E C ρ K Q (p.after g) h (k.after g)
abbrev cW(x:Expr):Bool:=x.ctorIdx !=22
theorem jp(pos:Pos)(env:Env):∀(m:List Expr),m.all cW=true->backTo pos (starEach m env)=m.map λx=>(false,eval x env)
 |[],_=>rfl|x::m,h=>by
  simp only[B4,mu]at h;have ih:=jp pos env m h.2;have:starEach (x::m) env=(false,eval x env)::starEach m env:=by
   induction x using eK <;>first |rfl |cases h.1
  rw[this];show(false,eval x env)::backTo pos (starEach m env)=_;rw[ih];rfl
def yg(hf:∀x,aU B S (f x) x)(m:List Expr):∀{E d ρ K Q},c_ B S d ρ->fV B.C (m.map f) ρ K d.σ->KA B.X d m.length K Q->W B (spliced (m.map λx=>(false,eval x S.a))) Q E d:=by
 induction m with
 |nil=>exact λ{E d ρ K Q} p w k=>J3 (k d [] [] ⟨p.f,bf.refl ..,et.refl _⟩ .nil rfl w)|cons x m ih=>exact λ{E d ρ K Q} p w k=>B5 ((hf x).v E d ρ (j6 (fV B.C (m.map f) ρ) K) _ p w λC v y g r w1=>
   ih (p.after g) w1 λd2 vs c j U Y w2=>k d2 (v::vs) (y::c) (g.trans j) (.cons (j.rep g.j r) U) (aE (·+1) Y) w2)
def yh(hf:∀x,aU B S (f x) x)(m:List Expr){E d ρ K}(p:c_ B S d ρ)(w:fV B.C (m.map f) ρ K d.σ)
  (k:KA B.X d m.length K λxs s'=>Q ⟨xs,[]⟩ s'):W B (evalArgs g true (m.map λx=>(false,eval x S.a)) []) Q E d:=by
 induction m using bo with
 |nil=>exact PySem.evalArgs_none (k d [] [] ⟨p.f,bf.refl ..,et.refl _⟩ .nil rfl w)|cons x m=>exact J4 (yg hf (x::m) p w k)
def KV.seq{K:V->St->Prop}{Q}(t:String)(k:KV X d K Q)(R:SR X d.σ d.μ d.s.heap)(Y:v=.p l/\t= "tuple" \/v=.r l/\t= "list")(r:d.Rs l xs.toList)(h:K v d.σ)(N:Nat):
  Q (.ref d.s.heap.objs.size) {d.s with heap:=d.s.heap.push {cls:=.type t,data:=.seq xs},toks:=N}:=(k.at_ h).oz t R Y r N
def ut(h:Nat.ble n 1000=true)(e:k=n):k<=sizeLine:=by rw[e,qj];exact aL (bP h) (by decide)
def Ow(hf:∀x,aU B S (f x) x){pos:Pos}(N:m.all cW=true)(Y:Nat.ble m.length 1000=true):aU B S (.t (m.map f)) (.Tuple m kd pos):=dR (λE d ρ K Q p w k=>by
 refine wpAny_Tuple ?_;rw[jp pos S.a m N];exact yg hf m p (K:=Dp K) w λC vs xs g r u w1=>⟨ut Y u,(k.after g).seq (v:=.p vs) "tuple" g.j (.inl ⟨rfl,rfl⟩) r w1 _⟩) rfl
def Go.alloc(R:SR X d.σ d.μ d.s.heap)(U:∀a ob,d.s.heap.get? a=some ob->h'.get? a=some ob)(H:o≠.d)(h1:d.s.heap.get? m.1=none)(h2:d.s.heap.get? m.2=none)
  (L:∀bD aF,Kp d.s.heap h' (au d.σ d.μ) bD d.μ aF->dt X h' bD aF o m):Go X No d ⟨{d.s with heap:=h'},d.σ++[o],d.μ++[m]⟩/\(d.μ++[m])[d.σ.length]?=some m:=
 let ⟨a,b⟩:=R.alloc U H h1 h2 L;⟨⟨a,b,rfl,rfl⟩,by rw[<-R.s];simp⟩
def Ox(hf:∀x,aU B S (f x) x){pos:Pos}(N:m.all cW=true)(Y:Nat.ble m.length 1000=true):aU B S (.r fr (m.map f)) (.List m pos):=dR (λE d ρ K Q p w k=>by
 refine wpAny_List ?_;rw[jp pos S.a m N];refine yg hf m p (K:=Dq Lk fr K) w λC vs xs g r u w1=>⟨ut Y u,?_⟩
 induction fr using aS with
 |true=>exact(k.after g).seq (v:=.r vs) "list" g.j (.inr ⟨rfl,rfl⟩) r w1 _|false=>
  obtain⟨j,hm⟩:=Go.alloc g.j (h':=C.s.heap.push {cls:=.type "list",data:=.seq xs.toArray}) (o:=.a vs) (m:=(C.s.heap.objs.size,C.s.heap.objs.size))
   (λa ob e=>gg _ e) nofun (fT _) (fT _) λbD aF K=>⟨rfl,xs.toArray,0,iD _ rfl,K.q7 r⟩
  exact k _ _ _ (g.trans j) (.ref hm) w1.h) rfl
abbrev PE(B:Bd)(S:Sc)(a:CE)(o:Option Expr):Prop:=∀E d ρ K Q,c_ B S d ρ->bK B.C a ρ K d.σ->KV B.X d K Q->W B (evalPart o S.a) Q E d
def Oy:PE B S .K none:=λE d ρ K Q p w k=>aG (k.here p.f w .none _)
def Oz{lo:CE}(ho:SE B S o x)(Y:PE B S lo l)(c:PE B S hi u):aU B S (.H o lo hi) (.Subscript x (.Slice l u none pos) n):=dR (λE d ρ K Q p w k=>by
 refine Subscript_ (ho E d ρ _ _ p w λC v1 z L J w1=>wpAny_Slice (Y E C ρ _ _ (p.after L) w1 λd2 v2 q j g w2=>c E d2 ρ _ _ ((p.after L).after j) w2 λd3 v3 i U s w3=>aG ?_));obtain⟨I,a⟩:=U.j.push {cls:=.type "slice",data:=.fields #[q,i,.none]};have H:Go B.X No d3 ⟨{d3.s with heap:=d3.s.heap.push {cls:=.type "slice",data:=.fields #[q,i,.none]}},d3.σ,d3.μ⟩:=⟨I,a,rfl,rfl⟩;have N:(d3.s.heap.push {cls:=.type "slice",data:=.fields #[q,i,.none]}).IsSliceOf d3.s.heap.objs.size q i .none:=⟨_,iD _ rfl,rfl,rfl⟩;obtain⟨_,_,e,h⟩:=c5 w3;have t:=U.trans H;obtain⟨T,id,m,r,h⟩:=Nz (A:=B.A) (E:=E) (Q:=Q) I ((j.trans t).rep L.j J) (t.rep j.j g) (H.rep U.j s) N e ((k.after (L.trans (j.trans t))).at_ h);exact tail_any (ops:=[.ref d3.s.heap.objs.size,z]) m r h rfl) rfl
def uu(m:List Expr)(env:Env):((m.map λx=>(false,eval x env)).any (·.1)||([]:List (Option Str×Sem Value)).any (·.1.isNone))=false:=by simp
def OA(hf:∀x,aU B S (f x) x)(H:B.G.lookup x=some (.g q))(U:S.c.b.lookup x=some .globalImplicit)(Y:(x==Str.ofString "__debug__")=false)
  (N:m.all cW=true):aU B S (.j q (m.map f)) (.Call (.Name x n) m [] pos):=dR (λE d ρ K Q p w k=>by
 unfold W;rw[B6,jp pos S.a m N];refine aj (j8 p.f U Y (.inl (B.a.b x _ H)) ?_);refine callWith_of (P:=λh=>B.X.K.In h) (uu m S.a) (keeps_K (B.a.n q)) (yh hf m (K:=Ds (B.C q) K) p w λC vs xs g r J w1=>⟨B.a.d.keeps g.j.k,?_⟩);exact wpAny_call (B.c q B.A _ C vs xs _ B.b.room g.j r w1 (k.after g))) rfl
def DN(hf:∀x,aU B S (f x) x)(H:(∃id,g=.builtin id/\B.G.lookup x=some (.b id))\/(∃t,g=.type t/\B.G.lookup x=some (.a t)))(U:S.c.b.lookup x=some .globalImplicit)(Y:(x==Str.ofString "__debug__")=false)
  (N:cW y=true) {E d ρ K Q} (p:c_ B S d ρ) (w:bK B.C (f y) ρ K d.σ) (k:KV B.X d K λz s1=>wpAny (model B.X.a B.X.w) B.A (call g [z]) Q E s1):W B (eval (.Call (.Name x n) [y] [] pos) S.a) Q E d:=by
 have hm:[y].all cW=true:=by simp[N]
 unfold W;rw[B6,jp pos S.a [y] hm];have i:wpAny (model B.X.a B.X.w) B.A (callWith pos g [] ([y].map λx=>(false,eval x S.a)) (backToKw pos (keywordEach [] S.a))) Q E d.s:=by
  refine callWith_of (P:=λJ=>True) (uu [y] S.a) (λh J=>⟨.machine,.inr (.inl rfl),?_⟩) (J4 (B5 ((hf y).v E d ρ K _ p w λC v z A r w1=>J3 ⟨trivial,k C v z A r w1⟩)));rcases H with⟨id,rfl,_⟩ |⟨t,rfl,_⟩ <;>exact .now
 rcases H with⟨id,rfl,H⟩ |⟨t,rfl,H⟩
 .exact aj (j8 p.f U Y (.inr (B.a.b x _ H)) i)
 .exact aj (j8 p.f U Y (.inr (B.a.b x _ H)) i)
def oF.under(h:oF n A)(a:Addr)(xs:List Value)(j:List (Str×Value)):fS n (A.under (.builtin "type.__call__" ⟨.ref a::xs,j⟩)):=by
 have Y:(Code.builtin "type.__call__" ⟨.ref a::xs,j⟩).weight=1:=by kernel_rfl
 have U:(Code.builtin "type.__call__" ⟨.ref a::xs,j⟩).cUnits=1:=by kernel_rfl
 refine⟨h.b,?_,?_⟩
 .show A.depth+(Code.builtin "type.__call__" ⟨.ref a::xs,j⟩).weight+3*n+3 < _
  rw[Y];have v1:=h.d;exact "~A<brNTO_c>mwPyPE9h" v1
 .show A.units+(Code.builtin "type.__call__" ⟨.ref a::xs,j⟩).cUnits+12*n+200 < _
  rw[U];have v2:=h.c;exact "~XiI^^yYOkDPlCgo<OQYiRoj" v2
def OB(hf:∀x,aU B S (f x) x)(H:B.G.lookup x=some (.j q))(hk:S.c.b.lookup x=some .globalImplicit)(Y:(x==Str.ofString "__debug__")=false)
  (N:m.all cW=true):aU B S (.L q (m.map f)) (.Call (.Name x n) m [] pos):=dR (λE d ρ K Q p w k=>by
 unfold W;rw[B6,jp pos S.a m N];refine aj (j8 p.f hk Y (.inl (B.a.b x _ H)) ?_);refine callWith_of (P:=λh=>B.X.K.In h) (uu m S.a) (keeps_K (B.a.v q)) (yh hf m (K:=Dt Lk q B.C K) p w λC vs xs g r _ w1=>⟨B.a.d.keeps g.j.k,?_⟩);refine wpAny_call ?_;have c:=B.a.d.keeps g.j.k;have k1:=k.after g;have I:=g.j;have w1:=w1.h;clear k g;obtain⟨⟨J,u,dd,t,os⟩,A,G⟩:=C;dsimp only at I r c w1;have U:((J.push emptyDict).push (instObj (B.X.c q) J.objs.size)).get? (J.objs.size+1)=some (instObj (B.X.c q) J.objs.size):=by
  have:=iD (J.push emptyDict) (o:=instObj (B.X.c q) J.objs.size) rfl;rw[size_push']at this;exact this
 have i:((J.push emptyDict).push (instObj (B.X.c q) J.objs.size)).get? J.objs.size=some emptyDict:=gg _ (iD _ rfl);have T:J.get? (J.objs.size+1)=none:=by
  generalize L:J.get? (J.objs.size+1)=x_
  induction x_ using aX with
  |none=>rfl|some o=>exact absurd (jc L) (tF.mpr (tB _))
 obtain⟨j,hm⟩:=Go.alloc (d:=⟨⟨J,u,dd,t,os⟩,A,G⟩) I (h':=(J.push emptyDict).push (instObj (B.X.c q) J.objs.size)) (o:=.e q []) (m:=(J.objs.size+1,J.objs.size))
  (λa ob e=>gg _ (gg _ e)) nofun T (fT _) λbD aF K=>⟨Nat.succ_ne_self _,U,[],0,i,.nil⟩
 refine make_core (makes_of c (B.a.s q)) (looks_findIn c (B.a.y q)) (λself=>bind_fn c self (B.a.j _)) (.inl rfl) ?_;refine B.c (qP q) _ _ _ (.o A.length::vs) _ _ (B.b.under _ _ _) j.j (.cons (.ref hm) (j.DJ I r)) w1 ?_;intro d3 v y g3 s w3
 induction v using Mine.Lake.V.casesOn with
 |z=>exact⟨s,k1 d3 _ _ (j.trans g3) (.ref (g3.k.d _ _ hm)) w3⟩|_=>exact(show False from w3).elim) rfl
def eM.OC(r:eM w R fs es)(nm:String)(h:∀a:AN,nm≠a.name)(k:Nat):
  shadowIn (some (W.dictOf es k)) (Str.ofString nm)=some false:=by
 have hf:(es.find? λe=>e.key.isStr (Str.ofString nm))=none:=by
  refine a0.ind (λ_ (es:List DictEntry)=>(es.find? λe=>e.key.isStr (Str.ofString nm))=none) rfl (λp e J es h' J ih=>?_) r;show(match e.key.isStr (Str.ofString nm)with |true=>some e |false=>es.find? λe=>e.key.isStr (Str.ofString nm))=none;rw[(ul h').1,cD.mpr λe=>h p.1 (mN e).symm];exact ih
 have Y:getL (Str.ofString nm) es=some none:=by
  unfold getL;rw[hf,r.noRef];rfl
 show Option.map (λx=>x.isSome) (getL (Str.ofString nm) es)=_;rw[Y];rfl
def OD(e:xE v m σ=some (g,aw)):aw=σ/\∃p:CN×List (AN×V),eX σ v=some (.e p.1 p.2)/\tT p.1 m=some g:=by
 obtain⟨o,ho,e⟩:=a9 e;obtain⟨p,J,e⟩:=a9 e;obtain⟨s,H,e⟩:=cF e;exact⟨(aE Prod.snd e).symm,p,xM J▸ho,H.trans (aE some (aE Prod.fst e))⟩
def DO{g:α->β}:∀m:List α,((m.map λx=>(false,g x)).all λx=>!x.1)=true:=λm=>by
 induction m with
 |nil=>rfl|cons a m ih=>exact ih
def OE(hf:∀x,aU B S (f x) x){x:Expr}(T:iR x=true)(q:(s.endLine==pos.line)=true)(hlen:Nat.ble m.length 29=true)
  (N:m.all cW=true):aU B S (.y (f x) n (m.map f)) (.Call (.Attribute x (Str.ofString n.name) s) m [] pos):=dR (λE d ρ K Q p w k=>by
 unfold W;rw[arm_eval_Call,yf T,jp pos S.a m N];refine aj ((hf x).v E d ρ (Du B.C n (fV B.C (m.map f) ρ) K) _ p w λC u y A J w1=>?_);refine aj (cT ?_);obtain⟨o,_,e,w2⟩:=c5 w1;obtain⟨t,r,L,hm⟩:=OD e;rw[t]at w2;obtain⟨i,z,ev,hi,XR,ey,hr⟩:=jZ A.j L J;rw[ev]at w2 J;rw[ey]at J ⊢;obtain⟨oG,H,es,kk,Y,U⟩:=hr;obtain⟨q1,q2,v⟩:=B.a.q r.1 n o hm;have c:=B.a.d.keeps A.j.k;have I:W.InstAt C.s.heap z.1 (instObj (B.X.c r.1) z.2) (B.X.c r.1) (some (W.dictOf es kk)):=⟨H,rfl,rfl,Y⟩;have OF:methodCallForm (m.length+([]:List Keyword).length) (m.map λx=>(false,eval x S.a)) (backToKw pos (keywordEach [] S.a))=true:=by
  have h2:m.length+0 < 30:=qm (bP hlen);show((m.map λx=>(false,eval x S.a)).all (λx=>!x.1)&&true&&decide (m.length+0 < 30))=true;rw[DO,b5 h2];rfl
 have G:methodCallPos true x S.a s pos=pure pos:=by unfold methodCallPos;simp[q]
 unfold methodCall;rw[OF];refine aj (dq ?_);show wpAny _ _ (getMethod _ _ _) _ _ _;refine method_fn c I q1 q2 v (B.a.j o) (U.OC n.name (λa=>B.a.z n a) kk) ?_;refine aj (ms G ?_);refine callWith_of (P:=λh=>B.X.K.In h) (uu m S.a) (keeps_K (B.a.n o)) (yh hf m (d:=C) (p.after A) w2 λd2 vs xs j g _ w2=>⟨B.a.d.keeps j.j.k,?_⟩);exact wpAny_call (B.c o B.A _ d2 (.o i::vs) (.ref z.1::xs) K B.b.room j.j (.cons (j.rep A.j J) g) w2 (k.after (A.trans j)))) rfl
def OG(hf:∀x,aU B S (f x) x)(H:B.G.lookup x=some (.b "isinstance"))(U:S.c.b.lookup x=some .globalImplicit)(Y:(x==Str.ofString "__debug__")=false)
  (c:B.G.lookup z=some (.a "str")) (a:S.c.b.lookup z=some .globalImplicit) (I:(z==Str.ofString "__debug__")=false) (N:cW y=true):
  aU B S (.O (f y)) (.Call (.Name x n) [y,.Name z p2] [] pos):=dR (λE d ρ K Q p w k=>by
 have hm:[y,.Name z p2].all cW=true:=by
  show(cW y&&(cW (.Name z p2)&&true))=true;rw[N];rfl
 unfold W;rw[B6,jp pos S.a _ hm];refine aj (j8 p.f U Y (.inr (B.a.b x _ H)) ?_);refine Calls.callWith_builtin (by rfl) (J4 (B5 ((hf y).v E d ρ (k1 Dw K) _ p w λC v u A J w1=>B5 ?_)));refine j8 A.j a I (.inr (B.a.b z _ c)) (J3 ?_);have w1:(match t6 v with |some b=>K (.w b) C.σ |none=>False):=w1;generalize T:t6 v=L
 induction L using aX with
 |none=>rw[T]at w1;exact w1.elim|some b=>rw[T]at w1;exact NY A.j J T ((k.after A).at_ w1)) rfl
abbrev lu:iH->Str
 |.a=> "append" |.b=> "extend" |.d=> "pop" |.c=> "get" |.e=> "update"
def OH(e:gH m v σ=some (u,aw)):aw=σ:=by
 obtain⟨o,ho,e⟩:=a9 e;obtain⟨_,e⟩:=bN e;exact(aE Prod.snd (ay e)).symm
def rj(hf:∀x,aU B S (f x) x){x:Expr}(T:iR x=true)(q:(s.endLine==pos.line)=true)
  (N:m.all cW=true) (Y:Nat.ble m.length 29=true)
  (c:∀E d ρ (K:V->St->Prop) Q v y,c_ B S d ρ->d.R v y->gH a v d.σ=some ((),d.σ)->fV B.C (m.map f) ρ (mS Lk a v K) d.σ->KV B.X d K Q->MethodOn B.X.a B.X.w B.A (lu a) pos y (m.map λx=>(false,eval x S.a)) Q E d.s):
  aU B S (.w a (f x) (m.map f)) (.Call (.Attribute x (lu a) s) m [] pos):=dR (λE d ρ K Q p w k=>by
 have ut:((backTo pos (starEach m S.a)).all (λx=>!x.1)&&(backToKw pos (keywordEach [] S.a)).all (λx=>x.1.isSome)
   &&decide (m.length+([]:List Keyword).length+(if([]:List Keyword).isEmpty then 0 else 1) < 30))=true:=by
  rw[jp pos S.a m N];have h2:m.length+0+0 < 30:=qm (bP Y);show((m.map λx=>(false,eval x S.a)).all (λx=>!x.1)&&true&&decide (m.length+0+0 < 30))=true;rw[DO,b5 h2];rfl
 refine wpAny_Call_method_late (yf T) ut q (jp pos S.a m N) ((hf x).v E d ρ (Dx Lk a (fV B.C (m.map f) ρ) K) _ p w λC v y A J w1=>?_);obtain⟨⟨⟩,_,e,w2⟩:=c5 w1;have es:=OH e;rw[es]at e w2;exact c E C ρ K Q v y (p.after A) J e w2 (k.after A)) rfl
def Go.upd(R:SR X d.σ d.μ d.s.heap)(t:Nat)(Y:d.σ[i]?=some I)(J:I≠.d)(hm:d.μ[i]?=some m)(H:o≠.d)
  (U:Heap.SameBut m.1 d.s.heap h') (L:∀bD aF,Kp d.s.heap h' (au d.σ d.μ) bD d.μ aF->dt X h' bD aF o m):Go X No d ⟨{d.s with heap:=h',toks:=t},d.σ.set i o,d.μ⟩:=
 have h:=R.update Y J hm H (λa ob e h1 Q=>(U.2 a h1).trans e) L;⟨h.1,h.2,rfl,rfl⟩
def Go.yj(R:SR X d.σ d.μ d.s.heap)(f:Array Value->Array Value)(Y:d.σ[i]?=some (.a l))(hm:d.μ[i]?=some m)(L:m.2=m.1)
  (G:d.s.heap.get? m.1=some (cc "list" vs n)) (C:d.Rs l' (f vs).toList):Go X No d ⟨{d.s with heap:=d.s.heap.update m.1 (Obj.mapSeq f)},d.σ.set i (.a l'),d.μ⟩:=
 Go.upd R _ Y nofun hm nofun (Heap.SameBut.update ..) λbD aF K=>⟨L,_,_,(Di G f).choose_spec,K.q7 C⟩
inductive DP(d:D)(v:V)(y:Value)(P:Addr×Addr->Prop):Prop
 |mk (i:Nat) (m:Addr×Addr) (ev:v=.o i) (hm:d.μ[i]?=some m) (ey:y=.ref m.1) (h:P m)
def DQ(e:gH m v σ=some u):∃o,eX σ v=some o/\qX m o=true:=by
 obtain⟨o,ho,e⟩:=a9 e;exact⟨o,ho,(bN e).1⟩
def yk(R:SR X d.σ d.μ d.s.heap)(r:d.R v y)(hm:∀o,qX m o=(fe o).isSome)(e:gH m v d.σ=some u):
  DP d v y λz=>∃vs n,d.s.heap.get? z.1=some (cc "list" vs n):=by
 obtain⟨o,ho,h⟩:=DQ e;rw[hm]at h;obtain⟨l,Y⟩:=qn.mp h;rw[jm Y]at ho;obtain⟨i,m,h1,h2,h3,h4,_,vs,n,h5,_⟩:=jZ R ho r;exact⟨i,m,h1,h3,h4,vs,n,h5⟩
def DR(R:SR X d.σ d.μ d.s.heap)(r:d.R v y)(hm:∀o,qX m o=true->t7 o=true)(e:gH m v d.σ=some u):
  DP d v y λz=>∃ob,d.s.heap.get? z.1=some ob/\ob.cls=.type "dict" /\ob.dict=none:=by
 obtain⟨o,ho,h⟩:=DQ e;obtain⟨i,m,h1,h2,h3,h4,C⟩:=jZ R ho r;refine⟨i,m,h1,h3,h4,?_⟩;have h:=hm o h
 induction o using Mine.Lake.O.casesOn with
 |b=>obtain⟨_,ep,h⟩:=C;exact⟨_,h,rfl,rfl⟩|f es=>obtain⟨_,kvs,h,_⟩:=C;exact ud h|h es=>obtain⟨_,kvs,h,_⟩:=C;exact ud h|g es=>obtain⟨_,kvs,h,_⟩:=C;exact xJ h|_=>exact b7 h
def uv{ω μ}{vs:Array Value}(r:b8 h ω μ l vs.toList):vs.size=l.length:=(iO r).symm
def OI(e:xA v=some l):v=.r l:=by
 induction v using Mine.Lake.V.casesOn with
 |r j=>exact aE V.r (ay e)|_=>exact bl e
def OJ{K:V->St->Prop}(w:bQ (cm .a (.o i) [u] σ) K):∃l,σ[i]?=some (.a l)/\l.length < bs/\K .z (σ.set i (.a (l++[u]))):=by
 obtain⟨v2,j,e,h⟩:=c5 w;obtain⟨o,ho,e⟩:=a9 (x:=σ[i]?) e;obtain⟨l,Y,e⟩:=a9 (x:=fe o) e;obtain⟨U,e⟩:=bN e;have e:=ay e;rw[<-show _=v2 from aE Prod.fst e,<-show _=j from aE Prod.snd e]at h;exact⟨l,jm Y▸ho,U,h⟩
def DS{K:V->St->Prop}(R:SR X d.σ d.μ d.s.heap)(hm:d.μ[i]?=some m)(r:d.R u z)(w:bm (cm .a (.o i) [u] d.σ) K)(k:KV X d K Q):
  ∃vs n,vs.size<=sizeLine/\d.s.heap.get? m.1=some (cc "list" vs n)/\Q .none {d.s with heap:=d.s.heap.update m.1 (Obj.mapSeq λxs=>xs.push z)}:=by
 obtain⟨l,ho,Y,h⟩:=OJ w.h;obtain⟨L,vs,n,G,ra⟩:=R.g i _ m ho hm;have g:=Go.yj R (l':=l++[u]) (λxs=>xs.push z) ho hm L G (by rw[n7];exact ra.append (.cons r .nil));exact⟨vs,n,gI (uv ra▸Y),G,k _ .z _ g .none h⟩
def OK(hf:∀x,aU B S (f x) x)(T:iR x=true)(q:(s.endLine==pos.line)=true)(N:[a].all cW=true):
  aU B S (.w .a (f x) ([a].map f)) (.Call (.Attribute x (lu .a) s) [a] [] pos):=rj hf T q N rfl λE d ρ K Q v y p r e w k=>by
 obtain⟨i,m,ev,hm,ey,vs,n,G⟩:=yk p.f r (λY=>rfl) e;rw[ev]at w;rw[ey];refine⟨"list", "list.append",J5,PySem.F.slot_list_append,PySem.F.type_list_append,⟨_,G,rfl⟩,λa I=>by injection I with I;exact⟨_,I▸G,rfl⟩,?_⟩;exact PySem.P.append_list ((hf a).v E d ρ (j6 (fV B.C [] ρ) (mS Lk .a (.o i) K)) _ p w λC u z A J w1=>DS A.j (A.k.d _ _ hm) J w1 (k.after A))
def OL(hf:∀x,aU B S (f x) x)(T:iR x=true)(q:(s.endLine==pos.line)=true)(N:[a].all cW=true):
  aU B S (.w .b (f x) ([a].map f)) (.Call (.Attribute x (lu .b) s) [a] [] pos):=rj hf T q N rfl λE d ρ K Q v y p r e w k=>by
 obtain⟨i,m,ev,hm,ey,vs,n,G⟩:=yk p.f r (λ_=>rfl) e;rw[ev]at w;rw[ey];refine⟨"list", "list.extend",J5,PySem.F.slot_list_extend,PySem.F.type_list_extend,⟨_,G,rfl⟩,λa I=>by injection I with I;exact⟨_,I▸G,rfl⟩,?_⟩;refine PySem.P.extend_list ((hf a).v E d ρ (j6 (fV B.C [] ρ) (mS Lk .b (.o i) K)) _ p w λH u z A J w1=>?_);have w1:bm (cm .b (.o i) [u] H.σ) K:=w1;obtain⟨v2,j,e,h⟩:=c5 w1.h;obtain⟨o,ho,e⟩:=a9 (x:=H.σ[i]?) e;obtain⟨l,Y,e⟩:=a9 (x:=fe o) e;obtain⟨l2,C,e⟩:=a9 (x:=xA u) e;obtain⟨U,e⟩:=bN e;have e:=ay e;rw[<-show _=v2 from aE Prod.fst e,<-show _=j from aE Prod.snd e]at h;rw[jm Y]at ho;rw[OI C]at J;obtain⟨L,vs,n,G,ra⟩:=A.j.g i _ m ho (A.k.d _ _ hm);obtain⟨b,ws,k',c,T,_,t⟩:=J.jU;have Y:vs.size+ws.size < bs:=by rw[uv ra,uv t];exact U
 have g:=Go.yj A.j (l':=l++l2) (λxs=>xs++ws) ho (A.k.d _ _ hm) L G (by rw[gW];exact ra.append t);have hz:=gI Y;rw[c];refine⟨b,vs,ws,n,k',aL (er _ _) hz,qo hz,?_,rfl,G,T,k _ .z _ (A.trans g) .none h⟩;have:Builtin.List.listTooLong (vs.size+ws.size)=false:=cd (tF.mpr (by rw[qj]at*;exact aL (jP Y) (by decide)));rw[this,BW];exact dX
def OM(hf:∀x,aU B S (f x) x)(T:iR x=true)(q:(s.endLine==pos.line)=true):
  aU B S (.w .d (f x) (([]:List Expr).map f)) (.Call (.Attribute x (lu .d) s) [] [] pos):=rj hf T q rfl rfl λE d ρ K Q v y p r e w k=>by
 obtain⟨i,m,ev,hm,ey,vs,n,G⟩:=yk p.f r (λC=>rfl) e;rw[ev]at w;rw[ey];refine⟨"list", "list.pop",J5,PySem.F.slot_list_pop,PySem.F.type_list_pop,⟨_,G,rfl⟩,λa I=>by injection I with I;exact⟨_,I▸G,rfl⟩,?_⟩;have w:bm (cm .d (.o i) [] d.σ) K:=w;obtain⟨v2,j,e,h⟩:=c5 w.h;obtain⟨o,ho,e⟩:=a9 (x:=d.σ[i]?) e;obtain⟨l,Y,e⟩:=a9 (x:=fe o) e;obtain⟨u,J,e⟩:=a9 e;obtain⟨U,e⟩:=bN e;have e:=ay e;rw[<-show _=v2 from aE Prod.fst e,<-show _=j from aE Prod.snd e]at h;rw[jm Y]at ho;obtain⟨L,vs,n,G,ra⟩:=p.f.g i _ m ho hm;have N:=uv ra;rw[List.getLast?_eq_getElem?]at J;obtain⟨z,hz,H⟩:=ra.get J;rw[eJ,<-N]at hz;refine PySem.P.pop_list G hz ?_ (gI (N▸U));have g:=Go.yj p.f (l':=l.dropLast) (λxs=>xs.eraseIdxIfInBounds (vs.size - 1)) ho hm L G (by
  have h1:(vs.eraseIdxIfInBounds (vs.size - 1)).toList=vs.toList.dropLast:=by
   rw[Array.eraseIdxIfInBounds_eq];by_cases h:vs.size - 1 < vs.size
   .rw[dif_pos h,Array.toList_eraseIdx,<-dJ,List.eraseIdx_length_sub_one]
   .have:vs.size=0:= "~Ue3R_nalsCEAq>M3kJikyHm" ao h
    rw[dif_neg h,Array.size_eq_zero_iff.mp this];rfl
  rw[h1,List.dropLast_eq_take,List.dropLast_eq_take,<-a0.length ra];exact ra.take (l.length - 1))
 exact k _ _ _ g (g.rep p.f H) h
def ON{K:V->St->Prop}(R:SR X d.σ d.μ d.s.heap)(hm:d.μ[i]?=some m)(ry:d.R kv y)(H:d.R u z)(w:bm (cm .c (.o i) [kv,u] d.σ) K)(k:KV X d K Q):
  ∃ov,xO X d.s.heap (au d.σ d.μ) d.μ m.1 kv y ov/\∀t w,(∀q,ov=some q->d.R q w)->(ov=none->w=z)->Q w {d.s with toks:=t}:=by
 obtain⟨v2,j,e,h⟩:=c5 w.h;obtain⟨o,ho,e⟩:=a9 (x:=d.σ[i]?) e;obtain⟨ov,L,e⟩:=cF (x:=iJ o kv) e;rw[<-show _=v2 from aE Prod.fst e,<-show _=j from aE Prod.snd e]at h;refine⟨ov,xP (R.g i _ m ho hm) L ry,λt w h1 h2=>?_⟩
 induction ov using aX with
 |some q=>exact k.here R h (h1 _ rfl) t|none=>rw[h2 rfl];exact k.here R h H t
def OO(hf:∀x,aU B S (f x) x)(T:iR x=true)(yl:(s.endLine==pos.line)=true)(N:[a,b].all cW=true):
  aU B S (.w .c (f x) ([a,b].map f)) (.Call (.Attribute x (lu .c) s) [a,b] [] pos):=rj hf T yl N rfl λE d ρ K Q v y p r e w k=>by
 obtain⟨i,m,ev,hm,ey,ob,n,ym,o⟩:=DR (m:=.c) p.f r (λ_ h=>h) e;rw[ev]at w;rw[ey];have z:=rb B.a.e p.f hm;refine⟨"dict", "dict.get",PySem.F.plainAttrs_dict,PySem.F.slot_dict_get,PySem.F.type_dict_get,⟨ob,n,ym⟩,λa I=>by injection I with I;exact⟨ob,I▸n,o⟩,?_⟩;refine method2_meetsIn PySem.F.slot_dict_get PySem.F.entry_dict_get ((hf a).v E d ρ (j6 (fV B.C [f b] ρ) (mS Lk .c (.o i) K)) _ p w λC v1 H A J w1=>
  (hf b).v E C ρ (j6 (fV B.C [] ρ) (x8 v1 (mS Lk .c (.o i) K))) _ (p.after A) w1 λd2 v2 Y j g w2=>?_)
 obtain⟨ov,U,L⟩:=ON j.j (j.k.d _ _ (A.k.d _ _ hm)) (j.rep A.j J) g w2 (k.after (A.trans j));obtain⟨o2,rk,G⟩:=C6 U;refine⟨⟨o2,rk,G⟩,F.args_dict_get_3 _ _ _,?_⟩;have fin:∀{fx:Option Value} (t:Nat),fU d2.R ov fx->Q (fx.getD Y) {d2.s with toks:=t}:=λ{fx} t hv=>by
  induction ov using aX with
  |none=>rw[show fx=none from hv];exact L _ _ (λq e=>bl e) λ_=>rfl|some q=>obtain⟨x,e,h3⟩:=hv;rw[e];exact L _ _ (λq' e=>ay e▸h3) λe=>bl e.symm
 induction U with
 |e kk t f _ ey u hv=>rw[ey]at*;exact⟨_,meets_dict_get_default (intKind B.X.a B.X.w) m.1 (n9 _ _ _ _) z Y,_,u,fin _ hv⟩|c kk t f _ ey u hv=>rw[ey]at*;exact⟨_,meets_dict_get_default (PySem.strKind B.X.a B.X.w) m.1 (tA _ _ _ _) z Y,_,u,fin _ hv⟩|b kk a xs _ ey hi u hv=>
  rw[ey]at*;refine⟨_,meetsH_dict_get_default (jW B.X.a B.X.w) m.1 a z Y,B.b.room.tupK,kk,xs,hi,u,fin (fx:=(atKey xs kk).map (·.2)) _ ?_⟩
  induction ov using aX with
  |none=>rw[show atKey xs kk=none from hv];rfl|some q=>obtain⟨x,e,h3⟩:=hv;rw[e];exact⟨x.2,rfl,h3⟩
def OP(hf:∀x,aU B S (f x) x)(T:iR x=true)(yl:(s.endLine==pos.line)=true)(N:[a].all cW=true):
  aU B S (.w .e (f x) ([a].map f)) (.Call (.Attribute x (lu .e) s) [a] [] pos):=rj hf T yl N rfl λE d ρ K Q v y p r e w k=>by
 obtain⟨i,m,ev,hm,ey,ob,n,ym,OQ⟩:=DR (m:=.e) p.f r (λo h=>by induction o <;>first |rfl |exact b7 h) e;rw[ev]at w;rw[ey];refine⟨"dict", "dict.update",PySem.F.plainAttrs_dict,PySem.F.slot_dict_update,PySem.F.type_dict_update,⟨ob,n,ym⟩,λa I=>by injection I with I;exact⟨ob,I▸n,OQ⟩,?_⟩;refine method1_meetsIn PySem.F.slot_dict_update PySem.F.entry_dict_update ((hf a).v E d ρ (j6 (fV B.C [] ρ) (mS Lk .e (.o i) K)) _ p w λC u z A J w1=>?_);have w1:bm (cm .e (.o i) [u] C.σ) K:=w1;obtain⟨v2,OR,e,h⟩:=c5 w1.h;obtain⟨o1,ho,e⟩:=a9 (x:=C.σ[i]?) e;obtain⟨j,G,e⟩:=a9 (x:=iI u) e;obtain⟨OS,e⟩:=bN e;obtain⟨o2,rk,e⟩:=a9 e;obtain⟨es,h1,e⟩:=a9 e;obtain⟨t,h2,e⟩:=a9 e;obtain⟨rl,e⟩:=bN e;have e:=ay e;rw[<-show _=v2 from aE Prod.fst e,<-show _=OR from aE Prod.snd e]at h;rw[ug G]at J;have U:=A.k.d _ _ hm;obtain⟨m',yn,ez⟩:=J;rw[ez];obtain⟨kvs,H,L,c,DT⟩:=lq h1 (A.j.g i o1 m ho U);obtain⟨Y,_,_,OU,DU⟩:=lq h2 (A.j.g j o2 m' rk yn);have ap:=A.j.u i j m m' OS U yn;refine⟨c.typeIs,PySem.F.args_dict_update_2 _ _,_,meets_dict_update (intKind B.X.a B.X.w) m.1 m'.1 ap.1 (rb B.a.e A.j yn),kvs,Y,c,OU,by rw[<-a0.length DT,<-a0.length DU];exact gI rl,λh' uw _ N=>?_⟩;have g:=Go.upd A.j (h':=h') (o:=.f (iN es t)) C.s.toks ho H U nofun N λbD aF K=>⟨L,_,uw,x0 (λ_ _ e=>e) (cy.mono (λ_ _ q=>K.rep q) DU) (cy.mono (λ_ _ q=>K.rep q) DT) (um c)⟩;exact k _ .z _ (A.trans g) .none h
def rm(hf:∀x,aU B S (f x) x)(H:(∃id,g=.builtin id/\B.G.lookup x=some (.b id))\/(∃t,g=.type t/\B.G.lookup x=some (.a t)))
  (U:S.c.b.lookup x=some .globalImplicit) (Y:(x==Str.ofString "__debug__")=false) (N:cW y=true)
  (h:∀{E:Value->Shared->Prop} {s:Shared} {σ:St} {μ:Mu} {v r:V} {z:Value} {aw:St} {Q:Value->Shared->Prop},SR B.X σ μ s.heap->aq s.heap (au σ μ) μ v z->b1 b v σ=some (r,aw)->cz B.X s σ μ aw r Q->wpAny (model B.X.a B.X.w) B.A (call g [z]) Q E s):
  aU B S (.x b (f y)) (.Call (.Name x n) [y] [] pos):=dR (λE d ρ K Q p w k=>
 DN hf H U Y N (K:=k1 (Dv Lk b) K) p w λC v z A J w1=>by
  obtain⟨_,_,e,h1⟩:=c5 (show bm (b1 b v C.σ) K from w1).h;exact h A.j J e ((k.after A).at_ h1)) rfl
end Mine.Lake.S
namespace Mine.Lake.S
variable{X:dk}{c:dQ}
def OV{ρ:ba}(h:i≠j):(ρ.set i v)[j]?=ρ[j]?:=qi h
def gJ{ρ:ba}(h:(ρ.set i (some v))[i]?=some (some w)):w=v:=by
 have hi:=jX h;rw[jb]at hi;rw[qh hi]at h;exact(ay (ay h)).symm
def Ns.ux{h:Heap}(x:h.Ns a m):∀t vs k,h.get? a≠some (cc t vs k):=λt vs k e=>by
 obtain⟨o,es,ep,ho,Y,_⟩:=x;exact nomatch Y.symm.trans (aE Obj.data (ay (ho.symm.trans e)))
def Ns.live{h:Heap}(x:h.Ns a m):∃o,h.get? a=some o:=by
 obtain⟨o,_,_,ho,_⟩:=x;exact⟨o,ho⟩
def uy{h:Heap}(x:h.IsCell a v):(∃o,h.get? a=some o)/\∀t vs k,h.get? a≠some (cc t vs k):=by
 obtain⟨o,ho,Y⟩:=x;exact⟨⟨o,ho⟩,λt vs k e=>nomatch Y.symm.trans (aE Obj.data (ay (ho.symm.trans e)))⟩
def eZ.apart(t:eZ env c)(H:(x,i,b)∈c.a)(C:(x',L,G)∈c.a):(x',L,G)=(x,i,b)\/(x'≠x/\i≠L):=by
 by_cases e:(x,i,b)=(x',L,G)
 .exact .inl e.symm
 .exact .inr ⟨λq=>e (t.inj _ H _ C (.inl q.symm)),λq=>e (t.inj _ H _ C (.inr q))⟩
section
variable{A:Around}{E:Value->Shared->Prop}{s:Shared}{σ:St}{μ:Mu}
abbrev j9(env:Env)(x:Str)(b:Bool)(a:Addr):Prop:=if b then env.cells.lookup x=some a else a=env.locals
def j9.jq(h:j9 env x b a):c9 env a:=by
 induction b with
 |false=>exact .inl h|true=>exact .inr ⟨x,h⟩
def OW{env:Env}(hE:eZ env c)(F:FR X env c.a ρ σ μ s.heap)(R:SR X σ μ s.heap)(H:(x,i,b)∈c.a)(r:aq s.heap (au σ μ) μ v y)
  (k:∀h' t,SR X σ μ h'->bf s.heap σ μ h' σ μ (j9 env x b)->FR X env c.a (ρ.set i (some v)) σ μ h'->Q () {s with heap:=h',toks:=t}):wpAny (model X.a X.w) A (storeName env x y) Q E s:=by
 have U:=hE.d x i b H;rw[<-hE.kindOf]at U;have N:=F.d;have go:∀{h':Heap} {a:Addr} (t:Nat),(∀z,j9 env x b z↔z=a)->Heap.SameBut a s.heap h'->(∃o,h'.get? a=some o)->(∀t vs k,h'.get? a≠some (cc t vs k))->
   (Kp s.heap h' (au σ μ) (au σ μ) μ μ->(∃m,h'.Ns env.locals m/\∀x' L,(x',L,false)∈c.a->∀w,(ρ.set i (some v))[L]?=some (some w)->∃y,m x'=some y/\aq h' (au σ μ) μ w y)/\
    ∀x' L,(x',L,true)∈c.a->∃a ov,env.cells.lookup x'=some a/\h'.IsCell a ov/\∀w,(ρ.set i (some v))[L]?=some (some w)->∃y,ov=some y/\aq h' (au σ μ) μ w y)->Q () {s with heap:=h',toks:=t}:=λ{h' a} t ht n G rn f=>by
  have h:∀b o,s.heap.get? b=some o->¬ j9 env x _ b->h'.get? b=some o:=λb o e na=>(n.2 b λq=>na ((ht b).mpr q)).trans e;have j:∀b o,s.heap.get? b=some o->∃o',h'.get? b=some o':=λb o e=>by
   by_cases q:b=a
   .exact q▸G
   .exact⟨o,(n.2 b q).trans e⟩
  have K:Kp s.heap h' (au σ μ) (au σ μ) μ μ:=⟨λa t vs k e no=>⟨h a _ e λq=>N a q.jq t vs k e,no⟩,λa vs k e=>h a _ e λq=>N a q.jq _ vs k e,λ_ _ e=>e⟩;obtain⟨R',E'⟩:=R.frame (Z:=j9 env x _) h (λa q=>F.j a q.jq) (λa q=>F.d a q.jq) j;obtain⟨f1,f2⟩:=f K;refine k h' t R' E' ⟨f1,f2,F.j,λb T t vs q e=>?_,λb T=>?_,F.l,F.p⟩
  .by_cases Y:b=a
   .rw[Y]at e;exact rn t vs q e
   .rw[n.2 b Y]at e;exact N b T t vs q e
  .obtain⟨o,ho⟩:=F.b b T;exact j b o ho
 have I:∀{h' L w} {o:Option Value},Kp s.heap h' (au σ μ) (au σ μ) μ μ->i≠L->(ρ.set i (some v))[L]?=some (some w)->(∀w,ρ[L]?=some (some w)->∃y,o=some y/\aq s.heap (au σ μ) μ w y)->∃y,o=some y/\aq h' (au σ μ) μ w y:=λK hi hw f=>by
  rw[OV hi]at hw;obtain⟨z,h1,h2⟩:=f _ hw;exact⟨z,h1,K.rep h2⟩
 induction b with
 |false=>
  obtain⟨m,hm,B⟩:=F.k;refine wpAny_storeName_local U hm (λh' g n=>?_) (by rw[hE.a];rfl);refine go _ (λz=>Iff.rfl) n (Ns.live g) (Ns.ux g) λK=>⟨⟨_,g,λx' L C w hw=>?_⟩,λx' L C=>?_⟩
  .rcases hE.apart H C with e |e
   .injection e with e1 e2
    injection e2 with e2
    rw[e2]at hw;rw[gJ hw,ah e1];exact⟨y,rfl,K.rep r⟩
   .rw[ab e.1];exact I K e.2 hw (B x' L C)
  .obtain⟨a,ov,h1,h2,h3⟩:=F.g x' L C
   refine⟨a,ov,h1,h2.at_ λo e=>(n.2 a (F.l x' a h1)).trans e,λw hw=>?_⟩;rcases hE.apart H C with e |e
   .exact nomatch e
   .exact I K e.2 hw h3
 |true=>
  obtain⟨a,ov,h1,h2,h3⟩:=F.g x i H;refine wpAny_storeName_cell hE.a U h1 h2 λh' g n=>?_;obtain⟨m,hm,B⟩:=F.k;refine go _ (λz=>⟨λq=>ay ((show env.cells.lookup x=some z from q).symm.trans h1),λq=>q▸h1⟩) n (uy g).1 (uy g).2 λK=>⟨⟨m,hm.at_ λo e=>(n.2 _ (Ne.symm (F.l x a h1))).trans e,λx' L C w hw=>?_⟩,λx' L C=>?_⟩
  .rcases hE.apart H C with e |e
   .exact nomatch e
   .exact I K e.2 hw (B x' L C)
  .rcases hE.apart H C with e |e
   .injection e with e1 e2
    injection e2 with e2
    refine⟨a,some y,e1▸h1,g,λw hw=>?_⟩;rw[e2]at hw;rw[gJ hw];exact⟨y,rfl,K.rep r⟩
   .obtain⟨p,OX,u,J,OY⟩:=F.g x' L C
    exact⟨p,OX,u,J.at_ λo e'=>(n.2 p λY=>e.1 (F.p x' x a (Y▸u) h1)).trans e',λw hw=>I K e.2 hw OY⟩
def DV(Y:eZ env c)(F:FR X env c.a ρ σ μ s.heap)(R:SR X σ μ s.heap)(H:(x,i,b)∈c.a)(r:aq s.heap (au σ μ) μ v y)
  (k:∀h' t,SR X σ μ h'->bf s.heap σ μ h' σ μ (j9 env x b)->FR X env c.a (ρ.set i (some v)) σ μ h'->Q () {s with heap:=h',toks:=t}):wpAny (model X.a X.w) A (assign (.Name x pos) env y) Q E s:=by
 rw[arm_assign_Name];exact aj (cT (wpAny_bindName (OW Y F R H r k)))
end
abbrev b9.Pre(h:Heap)(σ:St)(μ:Mu):b9->Prop
 |.d l a=>aq h (au σ μ) μ (.p l) (.ref a)|.g l a=>aq h (au σ μ) μ (.r l) (.ref a)|.c i l m=>μ[i]?=some m|.f _=>True
def b9.Ok.pre{h σ μ}{src:b9}(o:src.Ok h σ μ):src.Pre h σ μ:=by
 induction src with
 |c i l m=>exact o.1|_=>exact o
def b9.Pre.ext{h σ μ h' aw aF}{src:b9}(o:src.Pre h σ μ)(R:SR X σ μ h)(a:bf h σ μ h' aw aF Z)(hz:cG h Z):src.Pre h' aw aF:=by
 induction src with
 |d l b=>exact aq.ext o R a hz|g l b=>exact aq.ext o R a hz|c i l m=>exact a.d _ _ o|f _=>trivial
def b9.Pre.watch{h σ μ}{src:b9}(o:src.Pre h σ μ)(e:Mine.Lake.lm src.guard σ=some (u,j)):src.Ok h σ μ/\j=σ:=by
 have s:∀{x:Unit},some (x,σ)=some (u,j)->j=σ:=λe=>(aE Prod.snd (ay e)).symm
 induction src with
 |d l b=>exact⟨o,s e⟩|g l b=>exact⟨o,s e⟩|f n=>exact⟨trivial,s e⟩|c i l m=>
  obtain⟨ob,ho,e⟩:=a9 (x:=σ[i]?) e;obtain⟨l',Y,e⟩:=a9 e;obtain⟨T,e⟩:=bN e;rw[jm Y]at ho;exact⟨⟨o,(V.xx l l').mp T▸ho⟩,s e⟩
def b9.At.noSeq{src:b9}(x:src.At h I k):cG h λa=>a=I:=λa G t vs n e=>by
 obtain⟨o,h1,h2⟩:=x.live;exact h2 t vs n (ay (h1.symm.trans (G▸e)))
def OZ{src:b9}(h:src.At s.heap I k)(q:Q (.ref I) s):wpAny (model X.a X.w) A (pyIter (.ref I)) Q E s:=by
 induction src with
 |d l a=>exact wpAny_pyIter_tupleiter h q|g l a=>exact wpAny_pyIter_listiter h q|c i l m=>exact wpAny_pyIter_listiter h q|f n=>exact wpAny_pyIter_rangeiter h q
abbrev fX(env:Env):List (Str×NameKind)->List (Str×Addr)->List (Str×Addr)
 |[],acc=>acc|(x,k)::r,acc=>fX env r (if k==.free then(x,(env.cells.lookup x).getD 0)::acc else acc)
def DW(names:List (Str×NameKind)):∀(acc:List (Str×Addr)),(∀x a,acc.lookup x=some a->env.cells.lookup x=some a)->(∀x,(x,NameKind.free)∈names->(env.cells.lookup x).isSome=true)->
  (∀x a,(fX env names acc).lookup x=some a->env.cells.lookup x=some a)/\(∀x,((x,NameKind.free)∈names\/(acc.lookup x).isSome=true)->((fX env names acc).lookup x).isSome=true):=by
 induction names with
 |nil=>exact λacc h1 J=>⟨h1,λx H=>H.elim (λq=>nomatch q) id⟩|cons p r ih=>
  intro acc h1 h2;obtain⟨y,k⟩:=p;have C:∀x,(x,NameKind.free)∈r->(env.cells.lookup x).isSome=true:=λx H=>h2 x (b6 _ H);by_cases U:k=NameKind.free
  .rw[U]at h2 ⊢
   show(∀x a,(fX env r ((y,(env.cells.lookup y).getD 0)::acc)).lookup x=some a->_)/\∀x,_->((fX env r ((y,(env.cells.lookup y).getD 0)::acc)).lookup x).isSome=true;obtain⟨v,B⟩:=qn.mp (h2 y (.head _));obtain⟨a,b⟩:=ih ((y,(env.cells.lookup y).getD 0)::acc) (λx a h=>by
    rw[mv]at h;by_cases q:x=y
    .rw[q,jN,B]at h;rw[q,B];exact h
    .rw[cD.mpr q]at h;exact h1 x a h) C
   refine⟨a,λx H=>b x ?_⟩;by_cases q:x=y
   .right;rw[mv,q,jN];rfl
   .refine H.imp (λm=>(bH.mp m).elim (λe=>absurd (aE Prod.fst e) q) id) λm=>?_
    rw[mv,cD.mpr q];exact m
  .have f:(k==NameKind.free)=false:=cD.mpr U
   show(∀x a,(fX env r (if k==.free then _ else acc)).lookup x=some a->_)/\∀x,_->((fX env r (if k==.free then _ else acc)).lookup x).isSome=true;rw[f,ab dX];obtain⟨a,b⟩:=ih acc h1 C;exact⟨a,λx H=>b x (H.imp (λq=>(bH.mp q).elim (λe=>absurd (aE Prod.snd e).symm U) id) id)⟩
def O0(h:∀x,(x,NameKind.free)∈scope.names->(env.cells.lookup x).isSome=true):closureFor scope env=pure (fX env scope.names []):=by
 have i:∀(names:List (Str×NameKind)) (acc:List (Str×Addr)),(∀x,(x,NameKind.free)∈names->(env.cells.lookup x).isSome=true)->
   (forIn names acc λx Y=>if x.2==NameKind.free then(do let a <-cellOf env x.1;pure (.yield ((x.1,a)::Y)))else pure (.yield Y):Sem (List (Str×Addr)))=pure (fX env names acc):=λnames=>by
  induction names with
  |nil=>intro acc _;rfl|cons x r ih=>
   intro acc h;obtain⟨y,k⟩:=x;have C:=ih (if k==.free then(y,(env.cells.lookup y).getD 0)::acc else acc) λx H=>h x (b6 _ H);rw[List.forIn_cons];unfold fX;cases U:k==NameKind.free with
   |false=>rw[U]at C;simp only[U,jd,je,pure_bind]at C ⊢;exact C|true=>
    obtain rfl:k=NameKind.free:=by simpa using U
    obtain⟨v,B⟩:=qn.mp (h y (by simp));have o:cellOf env y=pure v:=by unfold cellOf;rw[B]
    rw[U]at C;simp only[U,qp,o,pure_bind,B,Option.getD_some]at C ⊢;exact C
 unfold closureFor;have:=i scope.names [] h;simp only[bind_pure];rw[<-this]
structure lz(scope:Scope)(c c':dQ)(x:Str)(i:Nat):Prop where
 a:scope.kind=.function
 m:∀y∈scope.names,y.2=.local->scope.names.lookup y.1=some .local
 l:∀y∈scope.names,y.2≠.cell
 f:∀y,(y,NameKind.free)∈scope.names->∃j,(y,j,true)∈c.a
 o:c'.b=scope.names.map λ(n,k)=>if(k==.free&&true&&c.b.lookup n==some .cell)then(n,.cell)else(n,k)
 g:(x,i,false)∈c'.a
 d:∀y j b,(y,j,b)∈c'.a->(b=false->j=i)/\(b=true->(y,j,true)∈c.a/\(y,NameKind.free)∈scope.names/\j≠i)
 h:∀y j b,(y,j,b)∈c'.a->c'.b.lookup y=some (if b then .cell else .local)
 inj:∀e∈c'.a,∀e'∈c'.a,e.1=e'.1\/e.2.1=e'.2.1->e=e'
abbrev XS(scope:Scope)(env:Env)(L:Addr):Env:={newEnv scope L env.globals (fX env scope.names []) env.qual none .none (some env) 0 with scope:=relabel scope env}
def O1(h:lz scope c c' x i)(t:eZ env c)(L:Addr)(b:Addr):eZ {newEnv scope L env.globals (fX env scope.names []) env.qual none .none (some env) b with scope:=relabel scope env} c' where
 a:=h.a
 f:=t.f
 g:=t.g
 j:=by
  show(relabel scope env).names=c'.b;rw[h.o];unfold relabel;dsimp only;apply w_;intro y _;obtain⟨n,k⟩:=y;dsimp only;rw[t.kindOf,t.a];rfl
 d:=h.h
 inj:=h.inj
def O2{scope:Scope}{h:Heap}(ok:lz scope c c' x i)(F:FR X env c.a ρ σ μ h')(R:SR X σ μ h')(Y:cenv.locals=L)(g:cenv.cells=fX env scope.names [])
  (E:h.get? L=none) (T:X.b.get? L=none) (ho:¬ au σ μ L) (N:∀a,c9 env a->∃o,h.get? a=some o) (u:h'.Ns L m):FR X cenv c'.a (ρ.set i none) σ μ h':=by
 have k:∀y,(y,NameKind.free)∈scope.names->(env.cells.lookup y).isSome=true:=λy U=>by
  obtain⟨j,Q⟩:=ok.f y U;obtain⟨a,_,h1,_⟩:=F.g y j Q;rw[h1];rfl
 obtain⟨f,J⟩:=DW (env:=env) scope.names [] (λx a e=>bl e) k;have I:∀y a,cenv.cells.lookup y=some a->c9 env a:=λy a e=>.inr ⟨y,f y a (g▸e)⟩;have r:∀a,c9 env a->a≠L:=λa G q=>by obtain⟨o,e⟩:=N a G;rw[q,E]at e;exact bl e
 refine⟨⟨m,Y▸u,λy j U v B=>?_⟩,λy j U=>?_,λa G=>?_,λa G t vs q e=>?_,λa G=>?_,λy a e=>?_,λy z a e e'=>F.p y z a (f y a (g▸e)) (f z a (g▸e'))⟩
 .have Q:=(ok.d y j false U).1 rfl
  rw[Q]at B;have hi:=jX B;rw[jb]at hi;rw[qh hi]at B;exact bl (ay B)
 .obtain⟨h1,h2,h3⟩:=(ok.d y j true U).2 rfl
  obtain⟨a,ov,e1,w,H⟩:=F.g y j h1;have s:=J y (.inl h2);obtain⟨p,n⟩:=qn.mp s;have:=ay ((f y p n).symm.trans e1);refine⟨a,ov,g▸this▸n,w,λv B=>H v ?_⟩;rw[qi (Ne.symm h3)]at B;exact B
 .rcases G with G |⟨y,U⟩
  .rw[G,Y];exact⟨ho,T⟩
  .exact F.j a (I y a U)
 .rcases G with G |⟨y,U⟩
  .rw[G,Y]at e;exact Ns.ux u t vs q e
  .exact F.d a (I y a U) t vs q e
 .rcases G with G |⟨y,U⟩
  .rw[G,Y];exact Ns.live u
  .exact F.b a (I y a U)
 .rw[Y];exact r a (I y a e)
end Mine.Lake.S
namespace Mine.Lake.S
variable{B:Bd}{S:Sc}{f:Expr->CE}
@[inline]abbrev KI:=Option (Nat×List V)->List V->St->Prop
abbrev SI(B:Bd)(S:Sc)(it:mE)(x:Expr):Prop:=∀E d ρ (K:KI) Q,c_ B S d ρ->DG B.C it ρ K d.σ->
 (∀d' y src,Go B.X No d d'->src.Ok d'.s.heap d'.σ d'.μ->Dk B.X d'.s y src->K src.guard src.items d'.σ->Q y d'.s)->W B (eval x S.a) Q E d
def yo(h:SE B S e x):SI B S (.a e) x:=λE d ρ K Q p w k=>
 h E d ρ (λx σ=>bQ (ll x σ) λp σ=>K p.1 p.2 σ) _ p w λC v y g r w1=>by
  obtain⟨q,σ,e,h1⟩:=c5 w1;obtain⟨src,L,T,N⟩:=Dl g.j r e;rw[show q=_ from aE Prod.fst L,show σ=C.σ from aE Prod.snd L]at h1;exact k C y src g T N h1
def O3(hf:∀x,aU B S (f x) x)(H:B.G.lookup x=some (.a "range"))(U:S.c.b.lookup x=some .globalImplicit)(Y:(x==Str.ofString "__debug__")=false)(N:cW y=true):
  SI B S (.b (f y)) (.Call (.Name x n) [y] [] pos):=λE d ρ K Q p w k=>
 DN hf (g:=.type "range") (.inr ⟨_,rfl,H⟩) U Y N (K:=λx σ=>bQ (CL x σ) λp σ=>K p.1 p.2 σ) p w λC v z g r w1=>by
  obtain⟨q,σ,e,h1⟩:=c5 w1;obtain⟨i,hi,e⟩:=a9 e;obtain⟨o,e⟩:=bN e;have e:=ay e;rw[<-show _=q from aE Prod.fst e,<-show _=σ from aE Prod.snd e]at h1;rw[jl hi]at r;obtain⟨t,T⟩:=r;rw[T];have j:=CI.mp (bh.mp o).1;refine call_range_1 ?_;obtain⟨L,J⟩:=g.j.push {cls:=.type "range",data:=.fields #[.int 0 C.s.toks,.int i t,.int 1 (C.s.toks+1)]};refine k ⟨_,_,_⟩ _ (.f i.toNat) (g.trans ⟨L,J,rfl,rfl⟩) trivial (λA E' K c=>?_) h1;have hsz:Builtin.Range.rangeSize 0 i 1=(i.toNat:Int):=by
   rw[rangeSize_one];by_cases h:(0:Int) < i
   .rw[ah h];exact "~fDAjbHr;;3SvCIV_0P3pjk3oO5^gT112BCM<" og h
   .rw[ab h];exact "~2ma7DWe_Wg|cN=kcJEQb>??cjuk3MGAsRy65" og h
  refine wpAny_pyIter_range (IsRange.new ..) (small_one (by decide) (by decide) (by lia) (by lia)) (c _ ?_);show IsRangeIter _ _ ((0:Nat):Int) ((i.toNat:Int) - (0:Nat)) 1;rw[hsz];show IsRangeIter _ _ (0:Int) ((i.toNat:Int) - (0:Int)) 1;rw[Int.sub_zero];exact iD _ rfl
structure yp(X:dk)(c:dQ)(env:Env)(src:b9)(I:Addr)(Φ:ba->Prop)(d:D)(k:Nat):Prop where
 a:SR X d.σ d.μ d.s.heap
 f:∃ρ,Φ ρ/\FR X env c.a ρ d.σ d.μ d.s.heap
 g:src.At d.s.heap I k
 b:src.Pre d.s.heap d.σ d.μ
 e:¬ au d.σ d.μ I
def uz{src:b9}(g:Go X Z d d')(R:SR X d.σ d.μ d.s.heap)(hz:cG d.s.heap Z)(L:src.At d.s.heap I k)(J:src.Pre d.s.heap d.σ d.μ)(ho:¬ au d.σ d.μ I)(N:¬ Z I):
  src.At d'.s.heap I k/\src.Pre d'.s.heap d'.σ d'.μ/\¬ au d'.σ d'.μ I:=
 ⟨L.at_ λo e=>g.k.g _ _ e ho N,J.ext R g.k hz,λq=>(g.k.f I q).elim ho λq=>by obtain⟨o,h1,_⟩:=L.live;exact bl (q.symm.trans h1)⟩
def mU{l:List α}(h:l.drop k=v::r):l[k]?=some v/\l.drop (k+1)=r/\k < l.length:=by
 have h1:l[k]?=some v:=by have:=aE (λl=>l[0]?) h;rw[tE]at this;exact this
 exact⟨h1,by have:=aE List.tail h;rw[List.tail_drop]at this;exact this,(bW.mp h1).1⟩
@[inline]abbrev oH(L I:Addr):Addr->Prop:=λa=>a=I\/a=L
def O4{I:Addr}{ρ:ba}(H:(x,i,false)∈S.c.a)(hb:B.X.b.get? I=none)(C:¬ c9 S.a I){step:V->(St->Prop)->St->Prop}
  {P:Shared->Prop} {Wb:Value->(Shared->Prop)->Shared->Prop}
  (yq:∀d v y (Kc:St->Prop) (Q:Shared->Prop),Go B.X (oH S.a.locals I) d0 d->c_ B S d (ρ.set i (some v))->step v Kc d.σ->(∀d',Go B.X No d d'->Kc d'.σ->Q d'.s)->Wb y Q d.s)
  (O5:∀d',Go B.X (oH S.a.locals I) d0 d'->Ke d'.σ->(∃m,d'.s.heap.Ns S.a.locals m)->P d'.s):
  ∃J:Nat->Shared->Prop,(∀m s,J m s->wpAny (model B.X.a B.X.w) B.A (pyNext (.ref I)) (λr s₁=>match r with
    |none=>P s₁|some v=>wpAny (model B.X.a B.X.w) B.A (assign (.Name x px) S.a v) (λ_ yr=>Wb v (λY=>∃m',m' < m/\J m' Y) yr) E' s₁) E' s)/\
   (∀d,yp B.X S.c S.a src I (λda=>∃w,da=ρ.set i w) d 0->Go B.X (oH S.a.locals I) d0 d->ew step src.guard src.items Ke d.σ->∃m,J m d.s):=by
 refine⟨λm s=>∃d k,d.s=s/\m+k=src.items.length+1/\yp B.X S.c S.a src I (λda=>∃w,da=ρ.set i w) d k/\Go B.X (oH S.a.locals I) d0 d/\ew step src.guard (src.items.drop k) Ke d.σ,?_,λd t g w=>⟨_,d,0,rfl,rfl,t,g,w⟩⟩;rintro m _ ⟨d,k,rfl,hm,⟨R,⟨_,⟨w0,rfl⟩,F⟩,L,hp,ho⟩,g0,w⟩;have ro:∀c,c=I->¬ c9 S.a c:=λc h=>h▸C;generalize hd:src.items.drop k=E
 induction E using bo with
 |nil=>
  rw[hd]at w;obtain⟨u,A,e,h⟩:=c5 w;obtain⟨T,rfl⟩:=hp.watch e;refine xY B.b.b R L T hb ho (by simpa using hd) λh' t R1 z=>?_;have F1:=F.ext R z L.noSeq ro;exact O5 ⟨{d.s with heap:=h',toks:=t},d.σ,d.μ⟩ (g0.trans ⟨R1,z.weaken λa G=>.inl G,rfl,rfl⟩) h (let ⟨m,h,_⟩:=F1.k;⟨m,h⟩)
 |cons v rest=>
  rw[hd]at w;obtain⟨hv,p,U⟩:=mU hd;obtain⟨u,A,e,h⟩:=c5 w;obtain⟨T,rfl⟩:=hp.watch e;refine xX R L T hb ho hv λh' t y R1 z O6 ry=>?_;have F1:=F.ext R z L.noSeq ro;refine DV (s:={d.s with heap:=h',toks:=t}) S.b F1 R1 H ry λh2 o q E2 N=>?_;rw[kQ]at N;have E2:=E2.weaken (Z':=λa=>a=S.a.locals) λa G=>G;have j:Go B.X (oH S.a.locals I) d ⟨{d.s with heap:=h2,toks:=o},d.σ,d.μ⟩:=⟨q,(z.weaken λa G=>Or.inl G).trans (E2.weaken λa G=>.inr G),rfl,rfl⟩;obtain⟨O7,ys,rk⟩:=uz (d:=⟨{d.s with heap:=h',toks:=t},d.σ,d.μ⟩) (d':=⟨{d.s with heap:=h2,toks:=o},d.σ,d.μ⟩) ⟨q,E2,rfl,rfl⟩ R1 (λa G=>F1.d a (.inl G)) O6 (hp.ext R z L.noSeq) ho λh=>C (.inl h);refine yq _ v y (λσ=>ew step src.guard rest Ke σ) _ (g0.trans j) ⟨N,q⟩ h λd3 g3 h3=>?_;obtain⟨mV,n,rp⟩:=uz g3 q (cG.no _) O7 ys rk (λf=>f);exact⟨m - 1, "~2B04E7ZgG>Z;j5235tI>VmZ" ao hm U,d3,k+1,rfl, "~2HhjUzIMjtQxKsmnTF?F3TOp30TTA_PkBKaLkV" ao hm U,⟨g3.j,⟨_,⟨_,rfl⟩,N.CZ q g3.k⟩,mV,n,rp⟩,(g0.trans j).trans g3.no,by rw[p];exact h3⟩
structure uA(X:dk)(d d':D)(r:Nat)(L a:Addr):Prop where
 f:Go X No d d'
 l:d'.μ[r]?=some (a,a)
 n:d.s.heap.get? L=none
 u:X.b.get? L=none
 k:¬ au d'.σ d'.μ L
 p:∀(i:Nat) (m:Addr×Addr),d'.μ[i]?=some m->m.1≠L/\m.2≠L
 h:∃m,d'.s.heap.Ns L m
def Yj{h h':Heap}(U:∀b o,h.get? b=some o->h'.get? b=some o)(e:h'.get? a=none):h.get? a=none:=by
 generalize q:h.get? a=E
 induction E using aX with
 |none=>rfl|some o=>exact bl (e.symm.trans (U a o q))
def DX{new:Sem Value}{x:Str}{E d ρ}{Q:Value->Shared->Prop}(ok:lz scope S.c c' x i)(N:SI B S it iter)(z:fW iter=true)
  (dD:clausesOf node=[⟨.Name x px,iter,ifs,0⟩]) (O8:∀{Q E s},Q (.ref s.heap.objs.size) {s with heap:=s.heap.push obj}->wpAny (model B.X.a B.X.w) B.A new Q E s) (xR:obj.isFreed=false) (O9:o0≠.d)
  (xQ:∀{h:Heap} {ω μ a},h.get? a=some obj->dt B.X h ω μ o0 (a,a))
  (Wb:Addr->Env->(Result->Shared->Prop)->Value->(Shared->Prop)->Shared->Prop)
  (rule:∀(I a:Addr) (cenv:Env) (R:Result->Shared->Prop) (s:Shared) (J:Nat->Shared->Prop) (m:Nat),(∀m s,J m s->wpAny (model B.X.a B.X.w) B.A (pyNext (.ref I)) (λr s₁=>match r with
    |none=>R (.ok .next) s₁|some v=>wpAny (model B.X.a B.X.w) B.A (assign (.Name x px) cenv v) (λ_ yr=>Wb a cenv R v (λY=>∃m',m' < m/\J m' Y) yr) (notedBy (model B.X.a B.X.w) B.A cenv λe s'=>R (.error e) s') s₁) (notedBy (model B.X.a B.X.w) B.A cenv λe s'=>R (.error e) s') s)->
   J m s->(∀{Q E},Q (.ref I) s->wpAny (model B.X.a B.X.w) B.A (pyIter (.ref I)) Q E s)->codeAny (model B.X.a B.X.w) B.A (.compStart node 0 (.ref I) (.ref a) cenv) R s)
  (step:V->V->(St->Prop)->St->Prop) (Ke:V->St->Prop)
  (yq:∀(T:Env) (t:eZ T c') (a:Addr) (R:Result->Shared->Prop) (r:Nat) d v y (Kc:St->Prop) (Q:Shared->Prop),d.μ[r]?=some (a,a)->c_ B ⟨c',T,t⟩ d (ρ.set i (some v))->step (.o r) v Kc d.σ->(∀d',Go B.X No d d'->Kc d'.σ->Q d'.s)->Wb a T R y Q d.s)
  (p:c_ B S d ρ) (w:DG B.C it ρ (λg xs σ=>bm (gk o0 σ) λr σ=>ew (step r) g xs (Ke r) σ) d.σ)
  (k:∀d' r L a,uA B.X d d' r L a->Ke (.o r) d'.σ->compPost (model B.X.a B.X.w) B.A E use Q (.ref a) L (.ok .next) d'.s):
  W B (comprehension node scope S.a pos' new false (eval iter S.a) use) Q E d:=by
 have DY:∀y,(y,NameKind.free)∈scope.names->(S.a.cells.lookup y).isSome=true:=λy hy=>by
  obtain⟨j,G⟩:=ok.f y hy;obtain⟨a,_,h1,_⟩:=p.j.g y j G;rw[h1];rfl
 refine wpAny_comprehension_free (g:=⟨.Name x px,iter,ifs,0⟩) (gs:=[]) dD (DK z) (O0 DY) ok.a ok.m ?_;refine N E d ρ _ _ p w λC y src A O' yt w1=>yt _ _ _ λo hI=>O8 ?_;have w1:ew (step (.o C.σ.length)) src.guard src.items (Ke (.o C.σ.length)) (C.σ++[o0]):=w1.h;obtain⟨R2,E2⟩:=A.j.push o;have g2:Go B.X No C ⟨{C.s with heap:=C.s.heap.push o},C.σ,C.μ⟩:=⟨R2,E2,rfl,rfl⟩;obtain⟨U,u⟩:=Go.alloc (d:=⟨{C.s with heap:=C.s.heap.push o},C.σ,C.μ⟩) R2 (h':=(C.s.heap.push o).push obj) (o:=o0) (m:=((C.s.heap.push o).objs.size,(C.s.heap.push o).objs.size))
  (λa ob e=>gg _ e) O9 (fT _) (fT _) λbD aF K=>xQ (iD _ xR)
 generalize hA:(C.s.heap.push o).objs.size=a at U u ⊢;dsimp only at U u ⊢;refine wpAny_newFunctionEnv ok.l (λy hy=>by simp at hy) (λh4 hn n=>?_) ok.a;dsimp only at hn n ⊢;generalize hL:((C.s.heap.push o).push obj).objs.size=L at hn n ⊢;generalize DZ:C.s.heap.objs.size=I at hI ⊢;have mW:((C.s.heap.push o).push obj).get? L=none:=hL▸fT _;have hIn:C.s.heap.get? I=none:=DZ▸fT _;have R3:=U.j;have D0:∀b ob,((C.s.heap.push o).push obj).get? b=some ob->h4.get? b=some ob:=λb ob q=>
  (n.2 b λe=>by rw[e,mW]at q;cases q).trans (gg _ q)
 obtain⟨R4,E4⟩:=R3.grow D0;have g4:Go B.X No C ⟨{C.s with heap:=h4,toks:=C.s.toks+0},C.σ++[o0],C.μ++[(a,a)]⟩:=⟨R4,(E2.trans U.k).trans E4,rfl,rfl⟩;have yu:d.s.heap.get? L=none:=((A.trans g2).trans U).k.none_of mW;have D1:d.s.heap.get? I=none:=A.k.none_of hIn;have bL:B.X.b.get? L=none:=R3.ln mW;have oL:¬ au (C.σ++[o0]) (C.μ++[(a,a)]) L:=R3.ow mW;have t:=O1 ok S.b L S.a.builtins;generalize yv:({newEnv scope L S.a.globals (fX S.a scope.names []) S.a.qual none .none (some S.a) S.a.builtins with scope:=relabel scope S.a}:Env)=cenv at t;have dD:cenv.locals=L:=by rw[<-yv];rfl
 have mZ:cenv.cells=fX S.a scope.names []:=by rw[<-yv];rfl
 have F4:=(p.after (A.trans g4)).j;have FI:=O2 (L:=L) (h:=d.s.heap) (cenv:=cenv) ok F4 R4 dD mZ yu bL oL p.j.b hn;have rq:src.At h4 I 0:=hI.at_ λob q=>D0 _ _ (gg _ q);have oI:¬ au (C.σ++[o0]) (C.μ++[(a,a)]) I:=λq=>(U.k.f I q).elim (A.j.ow hIn) λq=>by obtain⟨ob,h1,_⟩:=hI.live;rw[h1]at q;cases q
 have st:¬ c9 cenv I:=λq=>by
  rcases q with q |⟨y,hy⟩
  .obtain⟨ob,h1,_⟩:=hI.live
   have:=gg obj h1;rw[q,dD,mW]at this;cases this
  .obtain⟨q1,_⟩:=DW (env:=S.a) scope.names [] (λx a e=>by simp at e) DY
   obtain⟨ob,q⟩:=p.j.b I (.inr ⟨y,q1 y I (mZ▸hy)⟩);rw[D1]at q;cases q
 have live:h4.get? L≠none:=λq=>by obtain⟨_,_,_,q2,_⟩:=hn;rw[q]at q2;cases q2
 have ne3:∀(j:Nat) (m:Addr×Addr),(C.μ++[(a,a)])[j]?=some m->m.1≠L/\m.2≠L:=λj m q=>by
  obtain⟨_,_,⟨_,q1⟩,⟨_,q2⟩⟩:=R3.p j m q;exact⟨λe=>(by rw[e,mW]at q1;cases q1),λe=>(by rw[e,mW]at q2;cases q2)⟩
 obtain⟨J,turn,init⟩:=O4 (B:=B) (S:=⟨c',cenv,t⟩) (src:=src) (I:=I) (ρ:=ρ) (px:=px) ok.g (A.j.ln hIn) st (d0:=⟨{C.s with heap:=h4,toks:=C.s.toks+0},C.σ++[o0],C.μ++[(a,a)]⟩)
  (step:=step (.o C.σ.length)) (Ke:=Ke (.o C.σ.length)) (P:=λs'=>compPost (model B.X.a B.X.w) B.A E use Q (.ref a) L (.ok .next) s') (Wb:=Wb a cenv (compPost (model B.X.a B.X.w) B.A E use Q (.ref a) L))
  (E':=notedBy (model B.X.a B.X.w) B.A cenv λe s'=>compPost (model B.X.a B.X.w) B.A E use Q (.ref a) L (.error e) s')
  (λd5 v y Kc Q' H p5 w5 k5=>yq cenv t a _ C.σ.length d5 v y Kc Q' (H.k.d _ _ u) p5 w5 k5)
  (λd5 H w5 O_=>k d5 C.σ.length L a ⟨⟨H.j,(((A.trans g4).no (Z:=oH cenv.locals I)).trans H).k.shrink λc hc=>.inr (hc.elim (λq=>q▸D1) λq=>(q.trans dD)▸yu),(A.p.trans g4.p).trans H.p⟩,
   H.k.d _ _ u,yu,bL,λq=>(H.k.f L q).elim oL live,λj m hm=>(H.k.k j m hm).elim (ne3 j m) λq=>⟨λe=>live (e▸q.1),λe=>live (e▸q.2)⟩,dD▸O_⟩ w5)
 obtain⟨m,hJ⟩:=init ⟨{C.s with heap:=h4,toks:=C.s.toks+0},C.σ++[o0],C.μ++[(a,a)]⟩ ⟨R4,⟨_,⟨none,rfl⟩,FI⟩,rq,O'.pre.ext A.j g4.k (cG.no _),oI⟩ ⟨R4,bf.refl ..,rfl,rfl⟩ w1;have:=rule I a cenv _ _ J m turn hJ λ{Q E} q=>OZ (X:=B.X) rq q;rw[<-yv]at this;exact this
variable{f':Expr->CE}
def Pa(hf:∀x,aU B S (f x) x){m:List Expr}(Y:Nat.ble m.length 1=true){E d ρ K Q}(p:c_ B S d ρ)(w:fi B.C (m.map f) ρ K d.σ)(k:∀d' b,Go B.X No d d'->K b d'.σ->Q b d'.s):
  W B (forIn m true λc r=>if r=true then do let ok <-PySem.isTrue c S.a (eval c S.a);pure (ForInStep.yield ok)else pure (ForInStep.yield r)) Q E d:=by
 induction m using bo with
 |nil=>exact wpAny_tests_nil (k d true ⟨p.f,bf.refl ..,et.refl _⟩ w)|cons c m=>induction m using bo with
 |cons _ _=>exact b7 Y|nil=>
  refine wpAny_tests_one ((hf c).t E d ρ (Dy (fi B.C [] ρ) K) _ p w λC v g w1=>?_);obtain⟨b,T,h⟩:=iQ w1;exact⟨b,T,k C b g (by induction b <;>exact h)⟩
def Pb{K:V->St->Prop}{E Q}(R:SR B.X d.σ d.μ d.s.heap)(hm:d.μ[i]?=some m)(g:d.R v y)(w:bm (cm .a (.o i) [v] d.σ) K)(k:KV B.X d K Q):W B (call (.builtin "list.append") [.ref m.1,y]) Q E d:=by
 obtain⟨vs,n,hsz,G,L⟩:=DS R hm g w k;refine n6 slot_list_append ⟨_,G,rfl⟩ entry_list_append ?_ (args_list_append _ _);show wpAny _ _ (updateSeq m.1 (·.push y)>>=λJ=>ret .none) _ _ d.s;exact aj (wpAny_updateSeq G rfl (aG ⟨.none,rfl,L⟩) (hz:=hsz) (_hz':=by rw[qr];exact wX hsz))
def D4{it:mE}{E d ρ K}(q:∀T (t:eZ T c') x,aU B ⟨c',T,t⟩ (f' x) x)
  (ok:lz scope S.c c' x i) (N:SI B S it o) (rn:fW o=true) (hl:Nat.ble ifs.length 1=true) (p:c_ B S d ρ) (w:bK B.C (.E (f' H) i it (ifs.map f')) ρ K d.σ)
  (k:∀d' r L a,uA B.X d d' r L a->bm (hD (.o r) d'.σ) K->compPost (model B.X.a B.X.w) B.A E use Q (.ref a) L (.ok .next) d'.s):
  W B (comprehension (.ListComp H [⟨.Name x px,o,ifs,0⟩] scope pos) scope S.a n (newList []) false (eval o S.a) use) Q E d:=
 DX (o0:=.a []) (obj:={cls:=.type "list",data:=.seq ([]:List Value).toArray}) ok N rn rfl (λh=>wpAny_newList h) rfl nofun (λh=>⟨rfl,#[],0,h,.nil⟩)
  (λa cenv R v Q' s=>wpAny (model B.X.a B.X.w) B.A (forIn ifs true λc r=>if r=true then do let ok <-PySem.isTrue c cenv (eval c cenv);pure (ForInStep.yield ok)else pure (ForInStep.yield r)) (λok G=>
   if ok=true then wpAny (model B.X.a B.X.w) B.A (eval H cenv) (λx yw=>wpAny (model B.X.a B.X.w) B.A (call (.builtin "list.append") [.ref a,x]) (λ_ Y=>Q' Y)
    (notedBy (model B.X.a B.X.w) B.A cenv λe s'=>R (.error e) s') yw) (notedBy (model B.X.a B.X.w) B.A cenv λe s'=>R (.error e) s') G
   else Q' G) (notedBy (model B.X.a B.X.w) B.A cenv λe s'=>R (.error e) s') s)
  (λI a cenv R s J m turn hJ h=>codeAny_compStart_list (codeAny_compLoop_tests J turn m hJ) (h (codeAny_compLoop_tests J turn m hJ)))
  (λr x k σ=>fi B.C (ifs.map f') (ρ.set i (some x)) (λb σ=>fh b (bK B.C (f' H) (ρ.set i (some x)) (λv σ=>bm (cm .a r [v] σ) λ_ σ=>k σ) σ) (k σ)) σ) (λr σ=>bm (hD r σ) K)
  (λT t a R r d v y Kc Q hm p w k=>Pa (q T t) hl p w λC b A w1=>by
   induction b using aS with
   |false=>exact k C A w1|true=>exact(q T t H).v _ C _ _ _ (p.after A) w1 λd2 u z j g w2=>Pb (m:=(a,a)) j.j ((A.trans j).k.d _ _ hm) g w2 λd3 _ _ U _ w3=>k d3 ((A.trans j).trans U) w3) p w k
def Go.freeze(R:SR X d.σ d.μ d.s.heap)(rx:d.R v x)(e:hD v d.σ=some (r,aw)):Go X No d ⟨d.s,aw,d.μ⟩/\D.R ⟨d.s,aw,d.μ⟩ r x:=
 have h:=N1 R rx e;⟨⟨h.1,h.2.1,rfl,rfl⟩,h.2.2⟩
def uA.drop(c:uA X d d' r L a)(g:Go X Z d' d2)(hz:¬ Z L)(v:d2.μ=d'.μ)(T:Heap.SameBut L d2.s.heap h'):
  SR X d2.σ d2.μ h'/\Kp d2.s.heap h' (au d2.σ d2.μ) (au d2.σ d2.μ) d2.μ d2.μ/\bf d.s.heap d.σ d.μ h' d2.σ d2.μ Z:=by
 obtain⟨m,Q⟩:=c.h;have ho:¬ au d2.σ d2.μ L:=λq=>(g.k.f L q).elim c.k λq=>by obtain⟨_,Y⟩:=Ns.live Q;exact bl (q.symm.trans Y)
 have i:d2.s.heap.Ns L m:=Q.at_ λo e=>g.k.g _ _ e c.k hz;have U:∀b ob,d2.s.heap.get? b=some ob->¬ b=L->h'.get? b=some ob:=λb ob q nb=>(T.2 b nb).trans q;obtain⟨N,s⟩:=g.j.xL (h':=h') (Z:=λb=>b=L) U (λb H=>H▸⟨ho,c.u⟩) (λb H t vs q e=>Ns.ux i t vs q (H▸e)) λj m hm=>c.p j m (v▸hm);exact⟨N,s,(c.f.no.trans g).k.Nf (Z':=λb=>b=L) (λb H=>H▸c.n) U⟩
def D6(q:∀T (t:eZ T c') x,aU B ⟨c',T,t⟩ (f' x) x)
  (ok:lz scope S.c c' x i) (N:SI B S it o) (z:fW o=true) (Y:Nat.ble U.length 1=true):aU B S (.E (f' H) i it (U.map f')) (.ListComp H [⟨.Name x px,o,U,0⟩] scope pos):=dR (λE d ρ K Q p w k=>by
 unfold W;rw[arm_eval_ListComp];refine D4 q ok N z Y p w λC r L a c w1=>?_;obtain⟨m,u⟩:=c.h;refine⟨m,u,λh' n=>?_⟩;obtain⟨v,aw,e,h⟩:=c5 w1.h;obtain⟨j,g⟩:=Go.freeze c.f.j (.ref (m:=(a,a)) c.l) e;obtain⟨J,y,s⟩:=c.drop j (λf=>f) rfl n;exact k ⟨{C.s with heap:=h'},aw,C.μ⟩ v _ ⟨J,s,c.f.p.d,c.f.p.e⟩ (y.rep g) h) rfl
def Pc{K:Unit->St->Prop}{E}(R:SR B.X d.σ d.μ d.s.heap)(hm:d.μ[i]?=some m)(T:d.R k x)(g:d.R v y)(w:bm (tY (.o i) k v d.σ) K)
  (c:∀d',Go B.X No d d'->K () d'.σ->Q () d'.s):W B (dictSet m.1 x y) Q E d:=by
 obtain⟨_,aw,e,h⟩:=c5 w.h;obtain⟨j,G,e⟩:=a9 (x:=gG k) e;obtain⟨o,ho,e⟩:=a9 (x:=d.σ[i]?) e;obtain⟨es,J,e⟩:=a9 e;obtain⟨C,e⟩:=bN e;rw[<-show _=aw from aE Prod.snd (ay e)]at h;rw[jl G]at T;obtain⟨t,ex⟩:=T;obtain⟨kvs,H,L,Y,U⟩:=lq J (R.g i o m ho hm);rw[ex];exact wpAny_dictSet_pairs (knd:=intKind B.X.a B.X.w) (k:=j) (kvs:=kvs) (n9 _ _ _ _) Y (λh' I N=>
  c _ (Go.upd (o:=.f (bn j v es)) R _ ho H hm nofun N λbD aF K=>⟨L,_,I,cy.stored (λA A e=>e) (cy.mono (λA A r=>K.rep r) U) (um Y) j (K.rep g)⟩) h) (hsz:=a0.length U▸gI C)
def Pd(q:∀T (t:eZ T c') x,aU B ⟨c',T,t⟩ (f' x) x)
  (ok:lz scope S.c c' x i) (N:SI B S it o) (rn:fW o=true):aU B S (.Q (f' kx) (f' vx) i it) (.DictComp kx vx [⟨.Name x px,o,[],0⟩] scope pos):=dR (λE d ρ K Q p w k=>by
 unfold W;rw[arm_eval_DictComp];refine DX (o0:=.b) (obj:={cls:=.type "dict",data:=.dict #[]}) ok N rn rfl (λh=>wZ h) rfl nofun (λh=>⟨rfl,0,h⟩)
  (λa cenv R v Q' s=>wpAny (model B.X.a B.X.w) B.A (forIn ([]:List Expr) true λc r=>if r=true then do let ok <-PySem.isTrue c cenv (eval c cenv);pure (ForInStep.yield ok)else pure (ForInStep.yield r)) (λok G=>
   if ok=true then wpAny (model B.X.a B.X.w) B.A (eval kx cenv) (λkv yw=>wpAny (model B.X.a B.X.w) B.A (eval vx cenv) (λvv Y=>wpAny (model B.X.a B.X.w) B.A (dictSet a kv vv) (λ_ Pe=>Q' Pe) (notedBy (model B.X.a B.X.w) B.A cenv λe s'=>R (.error e) s') Y) (notedBy (model B.X.a B.X.w) B.A cenv λe s'=>R (.error e) s') yw) (notedBy (model B.X.a B.X.w) B.A cenv λe s'=>R (.error e) s') G
   else Q' G) (notedBy (model B.X.a B.X.w) B.A cenv λe s'=>R (.error e) s') s)
  (λI a cenv R s J m turn H h=>codeAny_compStart_dict (codeAny_compLoop_testsD J turn m H) (h (codeAny_compLoop_testsD J turn m H)))
  (λr x k σ=>bK B.C (f' kx) (ρ.set i (some x)) (λa σ=>bK B.C (f' vx) (ρ.set i (some x)) (λy σ=>bm (tY r a y σ) λ_ σ=>k σ) σ) σ) (λr σ=>K r σ)
  (λT t a R r d v y Kc Q hm p w k=>wpAny_tests_nil ((q T t kx).v _ d _ _ _ p w λC u z A r1 w1=>(q T t vx).v _ C _ _ _ (p.after A) w1 λd2 u2 z2 j g w2=>
   Pc (m:=(a,a)) j.j ((A.trans j).k.d _ _ hm) (j.rep A.j r1) g w2 λd3 U w3=>k d3 ((A.trans j).trans U) w3)) p w λC r L a c w1=>?_
 obtain⟨m,hn⟩:=c.h;refine⟨m,hn,λh' n=>?_⟩;obtain⟨R3,K3,E3⟩:=c.drop (d2:=C) (Z:=No) ⟨c.f.j,bf.refl ..,et.refl _⟩ (λf=>f) rfl n;exact k ⟨{C.s with heap:=h'},C.σ,C.μ⟩ _ _ ⟨R3,E3,c.f.p.d,c.f.p.e⟩ (.ref (m:=(a,a)) c.l) w1) rfl
end Mine.Lake.S
namespace Mine.Lake.S
variable{B:Bd}{S:Sc}{f:Expr->CE}
abbrev m0(f:Expr->CE):List (Option Expr)->List Expr->List CE
 |[]=>λJ=>[]
 |k::I=>λvs=>match vs with
  |[]=>[]|v::vs=>match k with |some k=>f k::f v::m0 f I vs |none=>[]
abbrev rt:List (Option Expr)->List Expr->Bool
 |[]=>λvs=>vs.isEmpty
 |k::I=>λvs=>match vs with
  |[]=>false|v::vs=>match k with |some k=>rt I vs |none=>false
abbrev uB(pos:Pos)(env:Env):List (Option Expr)->List Expr->List (Sem Value×Sem Value)
 |[]=>λJ=>[]
 |k::I=>λvs=>match vs with
  |[]=>[]|v::vs=>match k with |some k=>(eval k env,do let x <-eval v env;standAt pos;pure x)::uB pos env I vs |none=>[]
inductive ru(R:V->Value->Prop):List V->List (Value×Value)->Prop
 |a:ru R [] []
 |b {k v kx vx l m}:R k kx->R v vx->ru R l m->ru R (k::v::l) ((kx,vx)::m)
def Pf(pos:Pos)(env:Env):∀{I:List (Option Expr)} {vs:List Expr},rt I vs=true->(evalEachOpt I env).zip ((evalEach vs env).map λv=>do let x <-v;standAt pos;pure x)=(uB pos env I vs).map (λp=>(some p.1,p.2))/\(uB pos env I vs).length=I.length:=by
 intro I
 induction I with
 |nil=>exact λ{vs} h=>⟨rfl,rfl⟩|cons k I ih=>
  intro vs h
  induction vs using bo with
  |nil=>exact b7 h|cons v vs=>
   induction k using aX with
   |none=>exact b7 h|some k=>
    obtain⟨h1,h2⟩:=ih (vs:=vs) h;exact⟨aE ((some (eval k env),((do let x <-eval v env;standAt pos;pure x):Sem Value))::·) h1,aE (·+1) h2⟩
def Pg(hf:∀x,aU B S (f x) x):∀{I:List (Option Expr)} {vs:List Expr},rt I vs=true->∀{E d ρ K} {Q:List (Value×Value)->Shared->Prop},c_ B S d ρ->fV B.C (m0 f I vs) ρ K d.σ->
  (∀d' ws ps,Go B.X No d d'->ru d'.R ws ps->K ws d'.σ->Q ps d'.s)->W B (evalPairs (uB pos S.a I vs)) Q E d:=by
 intro I
 induction I with
 |nil=>exact λ{vs} _ {E d ρ K Q} p w k=>evalPairs_nil (k d [] [] ⟨p.f,bf.refl ..,et.refl _⟩ .a w)|cons k I ih=>
  intro vs h E d ρ K Q p w kk
  induction vs using bo with
  |nil=>exact b7 h|cons v vs=>
   induction k using aX with
   |none=>exact b7 h|some k=>
    refine evalPairs_cons ((hf k).v E d ρ (j6 (fV B.C (f v::m0 f I vs) ρ) K) _ p w λC u x A J w1=>aj ((hf v).v E C ρ (j6 (fV B.C (m0 f I vs) ρ) (x8 u K)) _ (p.after A) w1 λd2 a y j g w2=>aj (cT (aG ?_))));exact ih (vs:=vs) h ((p.after A).after j) w2 λd3 ws ps U s w3=>kk d3 (u::a::ws) _ ((A.trans j).trans U) (.b ((j.trans U).rep A.j J) (U.rep j.j g) s) w3
def D7[DecidableEq β]{knd:KeyKind prog w β}{f:α->β}(m:∀{k a x},g k=some a->R k x->knd.is (f a) x=true)(r:ru R ws ps):∀{l:List (α×V)},t8 g ws=some l->∃kvs,Carries knd ps kvs/\cy f R l kvs:=by
 induction r with
 |a=>intro l e;exact⟨[],trivial,ay e▸.nil⟩|@b k v kx vx ws ps G T C ih=>
  intro l e;obtain⟨a,U,e⟩:=a9 (x:=g k) e;obtain⟨l',Y,e⟩:=cF e;obtain⟨kvs,h1,h2⟩:=ih Y;exact⟨(f a,_)::kvs,⟨m U G,rfl,h1⟩,e▸.cons ⟨rfl,T⟩ h2⟩
def Ph(e:CM v=some i):v=.u i:=by
 induction v using Mine.Lake.V.casesOn with
 |u j=>exact aE V.u (ay e)|_=>exact bl e
def Pj(e:qY (.o i) ws σ=some (u,aw)):
  σ[i]?=some .b/\((∃l,xD ws=some l/\σ.set i (.f (iN [] l))=aw)\/∃l,CO ws=some l/\σ.set i (.h (iN [] l))=aw):=by
 obtain⟨o,ho,e⟩:=a9 (x:=σ[i]?) e;obtain⟨U,e⟩:=bN e;obtain⟨o',h,e⟩:=cF e;have e:σ.set i o'=aw:=aE Prod.snd e;rw[<-e];refine⟨by induction o <;>first |exact ho |exact b7 U,?_⟩;rcases lh (x:=xD ws) h with h |h
 .obtain⟨l,Y,h⟩:=h;exact .inl ⟨l,Y,by rw[<-ay h]⟩
 .obtain⟨l,Y,h⟩:=cF h.2;exact .inr ⟨l,Y,by rw[<-h]⟩
abbrev uC{K:Type}[DecidableEq K](knd:KeyKind prog w K)(D:Addr)(Q:Value->Shared->Prop)(vs:List (Value×Value))(s₁:Shared):Prop:=
 ∃kvs,Carries knd vs kvs/\s₁.heap.DictOf knd D []/\∀h',h'.DictOf knd D (merged [] kvs)->Heap.SameBut D s₁.heap h'->Q (.ref D) {s₁ with heap:=h',toks:=s₁.toks+vs.length}
def uC.store{K:Type}[DecidableEq K]{knd:KeyKind prog w K}{D:Addr}{vs:List (Value×Value)}{E}(h:uC knd D Q vs s₁)(Y:vs.length<=15):
  wpAny (model prog w) A (forIn vs PUnit.unit λ(x:Value×Value) (_:PUnit)=>(do dictSet D x.1 x.2;pure (ForInStep.yield PUnit.unit):Sem (ForInStep PUnit))) (λJ s=>Q (.ref D) s) E s₁:=by
 obtain⟨kvs,o,hm,a⟩:=h;exact wpAny_storeAll (knd:=knd) vs kvs [] s₁ _ o hm (by rw[dK,o.length,qj];exact "~|_4KXxHT<WqjAAVAQ" Y) a
def Pk{prog:Program}{E:Value->Shared->Prop}{env:Env}{g:List Expr}
  (j:(evalEachOpt keys env).zip ((evalEach g env).map λv=>do let x <-v;standAt pos;pure x)=a.map λp=>(some p.1,p.2)) (Y:a≠[]) (y:a.length<=15)
  (h:wpAny (model prog w) A (evalPairs a) (λvs s₁=>uC (intKind prog w) s.heap.objs.size Q vs s₁\/uC (PySem.strKind prog w) s.heap.objs.size Q vs s₁) E {s with heap:=s.heap.push {cls:=.type "dict",data:=.dict #[]}}):
  wpAny (model prog w) A (eval (.Dict keys g pos) env) Q E s:=by
 rw[arm_eval_Dict,j,dictDisplay_pairs a Y ("~7IiIsWkL3Kf" y)];refine aj (cT (aj ?_));unfold subDict;refine aj (wpAny_alloc ?_);refine aj (dq ?_);rw[ah y];refine aj (gX (wpAny_evalPairs_len h) (λvs s₁ c=>?_) λJ J e=>e);obtain⟨i,o⟩:=c;have:=o.elim (λh=>h.store (A:=A) (E:=E) (i▸y)) λh=>h.store (i▸y);exact dq (aj (gX this (λJ J h=>aG (aG (aG h))) λJ J e=>e))
def Pl(hf:∀x,aU B S (f x) x)(h:rt I vs=true)(y:Nat.ble I.length 15=true):aU B S (.F (m0 f I vs)) (.Dict I vs pos):=dR (λE d ρ K Q p w k=>by
 obtain⟨g,hm⟩:=Go.alloc p.f (h':=d.s.heap.push {cls:=.type "dict",data:=.dict #[]}) (o:=.b) (m:=(d.s.heap.objs.size,d.s.heap.objs.size))
   (λa ob e=>gg _ e) nofun (fT _) (fT _) λbD aF K=>⟨rfl,0,iD _ rfl⟩
 induction I using bo with
 |nil=>
  induction vs using bo with
  |cons=>exact b7 h|nil=>
   unfold W;rw[eval_Dict_empty];have w:bm (gk .b d.σ) K:=w;exact aj (cT (wZ (k _ _ _ g (.ref hm) w.h)))
 |cons kx I=>
  obtain⟨N,Y⟩:=Pf pos S.a h;refine Pk N (λe=>by rw[e]at Y;exact nomatch Y) (Y▸bP y) (Pg (K:=x7 Lk (.o d.σ.length) K) hf h (p.after g) ?_ λd2 ws ps j L w2=>?_)
  .induction vs using bo with
   |nil=>exact b7 h
   |cons v vs=>induction kx using aX with
    |none=>exact b7 h|some kx=>
     have w:bm (gk .b d.σ) λr σ=>fV B.C (f kx::f v::m0 f I vs) ρ (x7 Lk r K) σ:=w;exact w.h
  .have w2:bm (qY (.o d.σ.length) ws d2.σ) (λJ σ=>K (.o d.σ.length) σ):=w2
   obtain⟨_,aw,e,h⟩:=c5 w2.h;obtain⟨s,hc⟩:=Pj e;have i:=j.k.d _ _ hm;obtain⟨_,ep,T⟩:=j.j.g _ _ _ s i;rcases hc with hc |hc
   .obtain⟨l,Y,es⟩:=hc
    rw[<-es]at h;obtain⟨kvs,h1,h2⟩:=D7 (knd:=intKind B.X.a B.X.w) (f:=id) (λU r=>by rw[jl U]at r;obtain⟨t,e⟩:=r;rw[e];exact n9 _ _ _ _) L Y;exact .inl ⟨kvs,h1,uh _ T,λh' c n=>k _ _ _ (g.trans (j.trans (Go.upd j.j (o:=.f (iN [] l)) _ s nofun i nofun n λbD aF K=>⟨rfl,_,c,x0 (λJ J e=>e) (cy.mono (λJ J q=>K.rep q) h2) .nil .nil⟩))) (.ref i) h⟩
   .obtain⟨l,Y,es⟩:=hc
    rw[<-es]at h;obtain⟨kvs,h1,h2⟩:=D7 (knd:=PySem.strKind B.X.a B.X.w) (f:=Str.ofString) (λU r=>by rw[Ph U]at r;obtain⟨t,e⟩:=r;rw[e];exact tA _ _ _ _) L Y;exact .inr ⟨kvs,h1,uh _ T,λh' c n=>k _ _ _ (g.trans (j.trans (Go.upd j.j (o:=.h (iN [] l)) _ s nofun i nofun n λbD aF K=>⟨rfl,_,c,x0 (λJ J e=>mN e) (cy.mono (λJ J q=>K.rep q) h2) .nil .nil⟩))) (.ref i) h⟩) rfl
inductive oJ(h:Heap)(ω:Addr->Prop)(μ:Mu):cZ->Flow->Prop
 |a:oJ h ω μ .a .next
 |d:oJ h ω μ .d .brk
 |c:oJ h ω μ .c .cont
 |b {v x}:aq h ω μ v x->oJ h ω μ (.b v) (.ret x)
abbrev KS(B:Bd)(S:Sc)(d:D)(K:Fl)(Q:Flow->Shared->Prop):Prop:=∀d' fl da f,Go B.X (c9 S.a) d d'->FR B.X S.a S.c.a da d'.σ d'.μ d'.s.heap->oJ d'.s.heap (au d'.σ d'.μ) d'.μ fl f->K fl da d'.σ->Q f d'.s
def KS.after{K Q}(k:KS B S d K Q)(g:Go B.X (c9 S.a) d C):KS B S C K Q:=λd' fl da f s=>k d' fl da f (g.trans s)
def KS.here{K Q ρ fl Y}(k:KS B S d K Q)(p:c_ B S d ρ)(r:oJ d.s.heap (au d.σ d.μ) d.μ fl Y)(w:K fl ρ d.σ):Q Y d.s:=k d fl ρ Y ⟨p.f,bf.refl ..,et.refl _⟩ p.j r w
def KS.plain{K Q ρ}(k:KS B S d K Q)(p:c_ B S d ρ)(g:Go B.X No d C)(w:K .a ρ C.σ):Q .next C.s:=k C .a ρ .next g.no (p.after g).j .a w
abbrev SX(B:Bd)(S:Sc)(b:CS)(st:Stmt):Prop:=∀E d ρ K Q,c_ B S d ρ->yd B.C b ρ K d.σ->KS B S d K Q->W B (exec st S.a) Q E d
abbrev fY(B:Bd)(S:Sc)(b:List CS)(st:List Stmt):Prop:=∀E d ρ K Q,c_ B S d ρ->aM B.C b ρ K d.σ->KS B S d K Q->W B (execs st S.a) Q E d
def gK{st:Stmt}:SX B S .j st:=λE d ρ K Q p w k=>(show False from w).elim
def Pm:SX B S .x (.Pass pos):=λE d ρ K Q p w k=>by
 unfold W;rw[arm_exec_Pass];exact aj (cT (aG (k.here p .a w)))
def Pn:SX B S .y (.Break pos):=λE d ρ K Q p w k=>by
 unfold W;rw[arm_exec_Break];exact aj (cT (aG (k.here p .d w)))
def Po:SX B S .u (.Continue pos):=λE d ρ K Q p w k=>by
 unfold W;rw[arm_exec_Continue];exact aj (cT (aG (k.here p .c w)))
def Pp:SX B S .t (.Return none pos):=λE d ρ K Q p w k=>by
 unfold W;rw[arm_exec_Return];exact aj (cT (aG (k.here p (.b .none) w)))
def Pq{K:V->St->Prop}(R:SR B.X d.σ d.μ d.s.heap)(r:d.R v x)(w:oD v K d.σ):∃v' aw,Go B.X No d ⟨d.s,aw,d.μ⟩/\D.R ⟨d.s,aw,d.μ⟩ v' x/\K v' aw:=by
 induction v using Mine.Lake.V.casesOn with
 |o i=>
  have w:bm (hD (.o i) d.σ) K:=w;obtain⟨v',aw,e,h⟩:=c5 w.h;obtain⟨g,r'⟩:=Go.freeze R r e;exact⟨v',aw,g,r',h⟩
 |_=>exact⟨_,d.σ,⟨R,bf.refl ..,et.refl _⟩,r,w⟩
def Pr(G:SE B S a x):SX B S (.d a) (.Return (some x) pos):=λE d ρ K Q p w k=>by
 unfold W;rw[arm_exec_Return];refine aj (cT ?_);show wpAny _ _ (eval x S.a>>=λv=>pure (Flow.ret v)) _ _ _;refine aj (G E d ρ (DC Lk ρ K) _ p w λC v y g r w1=>aG ?_);obtain⟨v',aw,j,Y,h⟩:=Pq g.j r w1;exact k ⟨C.s,aw,C.μ⟩ (.b v') ρ _ (g.trans j).no (p.after (g.trans j)).j (.b Y) h
abbrev gL(x:Expr):Bool:=![8,9,10].contains x.ctorIdx
def yx(h:gL x=true):swapsWith x t l env=pure false:=by
 induction x using eK <;>first |rfl |exact b7 h
def Ps(G:SE B S a x)(H:gL x=true):SX B S (.k a) (.Expr x pos):=λE d ρ K Q p w k=>by
 have hi:interactive S.a=false:=by unfold interactive;rw[S.b.a];rfl
 unfold W;rw[arm_exec_Expr];refine aj (cT ?_);rw[hi];simp only[jd,je];refine aj (ms (yx H) ?_);simp only[jd,je];exact aj (G E d ρ (oE ρ K) _ p w λC v y g r w1=>wpAny_dropValue (k.plain p g w1))
abbrev yy(x:Expr):Bool:=[23,20,21].contains x.ctorIdx
def Pt(i:yy t=true):swappedStores [t] x env=pure none:=by induction t using eK <;>first |rfl |exact b7 i
def Pu(i:yy t=true):assignEach [t] env=[(false,assign t env)]:=by induction t using eK <;>first |rfl |exact b7 i
def yz{E d}(H:gL x=true)(i:yy t=true)
  (h:W B (eval x S.a) (λv s1=>wpAny (model B.X.a B.X.w) B.A (assign t S.a v) (λJ s2=>Q .next s2) E s1) E d):W B (exec (.Assign [t] x pos) S.a) Q E d:=by
 unfold W;rw[arm_exec_Assign];refine aj (cT (aj (ms (a:=false) (yx (t:=some t) (l:=pos.line) (env:=S.a) H) ?_)));simp only[jd,je];refine aj (gX h (λv s1 h1=>?_) λJ J e=>e);refine aj (ms (Pt i) ?_);rw[Pu i];show wpAny _ _ (assign t S.a v>>=λJ=>pure Flow.next) _ _ _;exact aj (gX h1 (λJ s2 h2=>aG h2) λJ J e=>e)
def rv{E}(Y:(nm,i,b)∈S.c.a)(p:c_ B S d ρ)(r:d.R v y)
  (k:∀d',d'.σ=d.σ->d'.μ=d.μ->Go B.X (j9 S.a nm b) d d'->c_ B S d' (ρ.set i (some v))->Q () d'.s):W B (assign (.Name nm np) S.a y) Q E d:=
 DV S.b p.j p.f Y r λh' t q h N=>k ⟨{d.s with heap:=h',toks:=t},d.σ,d.μ⟩ rfl rfl ⟨q,h,rfl,rfl⟩ ⟨N,q⟩
def Pw(Y:(nm,i,b)∈S.c.a)(G:SE B S a x)(H:gL x=true):SX B S (.g i a) (.Assign [.Name nm np] x pos):=λE d ρ K Q p w k=>
 yz H rfl (G E d ρ (uq i ρ K) _ p w λC v y g r w1=>rv Y (p.after g) r λd2 m J j p2=>k d2 .a _ .next (g.no.trans (j.weak λa G=>G.jq)) p2.j .a (m▸w1))
def D8{K:Unit->St->Prop}{E}(R:SR B.X d.σ d.μ d.s.heap)(r:d.R v x)(H:d.R u z)(w:bm (mH v a u d.σ) K)(k:∀d',Go B.X No d d'->K () d'.σ->Q () d'.s):
  W B (setAttr x (Str.ofString a.name) z) Q E d:=
 let ⟨_,aw,e,h⟩:=c5 w.h;NG B.a.d B.a.h R r H e λs' R' E' S'=>k ⟨s',aw,d.μ⟩ ⟨R',E',S'⟩ h
def D9{K:Unit->St->Prop}{E}(R:SR B.X d.σ d.μ d.s.heap)(g:d.R o x)(a:d.R i y)(H:d.R u z)(w:bm (li o i u d.σ) K)(k:∀d',Go B.X No d d'->K () d'.σ->Q () d'.s):
  W B (setItem x y z) Q E d:=
 let ⟨_,aw,e,h⟩:=c5 w.h;NP R B.b.room g a H e λs' R' E' S'=>k ⟨s',aw,d.μ⟩ ⟨R',E',S'⟩ h
def Px{pos:Pos}(ho:SE B S o y)(G:SE B S a x)(H:gL x=true):SX B S (.l o an a) (.Assign [.Attribute y (Str.ofString an.name) c] x pos):=λE d ρ K Q p w k=>by
 refine yz H rfl (G E d ρ (DB Lk ρ an (bK B.C o ρ) K) _ p w λC v Y A J w1=>?_);show wpAny _ _ (holding [Y] (eval y S.a)>>=λov=>_) _ _ _;refine aj (dq (ho E C ρ (DA Lk ρ an v K) _ (p.after A) w1 λd2 u z2 j g w2=>aj (cT (aj (dq ?_)))));exact D8 j.j g (j.rep A.j J) w2 λd3 U w3=>B7 (k.plain p ((A.trans j).trans U) w3)
def Py{pos:Pos}(ho:SE B S o y)(hi:SE B S i z)(G:SE B S a x)(H:gL x=true):SX B S (.n o i a) (.Assign [.Subscript y z c] x pos):=λE d ρ K Q p w k=>by
 refine yz H rfl (G E d ρ _ _ p w λC v Y A J w1=>?_);show wpAny _ _ (holding [Y] (eval y S.a)>>=λov=>_) _ _ _;refine aj (dq (ho E C ρ _ _ (p.after A) w1 λd2 u z2 j g w2=>?_));refine aj (dq (hi E d2 ρ _ _ ((p.after A).after j) w2 λd3 q r U s w3=>aj (cT (aj (dq ?_)))));exact D9 U.j (U.rep j.j g) s ((j.trans U).rep A.j J) w3 λT N w4=>B7 (k.plain p ((A.trans j).trans (U.trans N)) w4)
abbrev uD:fN->Option Operator
 |.a=>some .Add|.c=>some .Sub|_=>none
def D'{E d}{K:V->St->Prop}(ho:uD op=some o)(R:SR B.X d.σ d.μ d.s.heap)(ra:d.R (.j a) x)(m:d.R (.j b) y)
  (w:bQ (iL op (.j a) (.j b) d.σ) K) (k:KV B.X d K Q):W B (inplaceOp o x y) Q E d:=by
 obtain⟨t,ex⟩:=ra;obtain⟨u,ey⟩:=m;rw[ex,ey]
 induction op using Mine.Lake.fN.casesOn with
 |a=>rw[<-ay ho];exact AutoIntOps.iadd_0 (k.here R w (.int _ _) _)|c=>rw[<-ay ho];exact AutoIntOps.isub_0 (k.here R w (.int _ _) _)|_=>exact bl ho
def D_{v u:V}{P:Int->Int->Prop}(h:match v,u with |.j m,.j n=>P m n |_,_=>False):∃m n,v=.j m/\u=.j n/\P m n:=by
 induction v using Mine.Lake.V.casesOn with
 |j m=>induction u using Mine.Lake.V.casesOn with
  |j n=>exact⟨m,n,rfl,rfl,h⟩|_=>exact h.elim
 |_=>exact h.elim
def Pz{o a:CE}{y:Expr}(j:uD op=some t)(ho:SE B S o y)(G:SE B S a x):SX B S (.s o an op a) (.AugAssign (.Attribute y (Str.ofString an.name) c) t x pos):=λE d ρ K Q p w k=>by
 unfold W;rw[arm_exec_AugAssign_2];refine aj (cT (aj (ho E d ρ _ _ p w λC v1 u A J w1=>?_)));obtain⟨_,_,e,w1⟩:=c5 w1;refine aj (dq (aj (cT (aj (Dg B.a.d B.a.h A.j J e λs2 i z2 q h g N=>?_)))));have L:Go B.X No C ⟨s2,_,i⟩:=⟨q,h,N⟩;refine aj (dq (G E ⟨s2,_,i⟩ ρ _ _ ((p.after A).after L) w1 λd3 v3 r U s w3=>aj (cT (B0 ?_))));obtain⟨m,n,rfl,rfl,w3⟩:=D_ w3;refine D' j U.j (U.rep q g) s w3 λT v4 z I r4 w4=>?_;refine aj (cT (aj (dq ?_)));exact D8 I.j ((L.trans (U.trans I)).rep A.j J) r4 w4 λY H w5=>aj (B7 (aG (k.plain p ((A.trans L).trans ((U.trans I).trans H)) w5)))
def PA(h:rh z=true):augStore z u z0 p=(do holding [p,u,z0] (setItem u z0 p);release [p,u,z0] [];pure .next):=by induction z using eK <;>first |rfl |exact b7 h
def PB{o i:CE}{y z:Expr}(j:uD op=some Ea)(ho:SE B S o y)(hi:SE B S i z)(G:SE B S a x)(hz:rh z=true):SX B S (.w o i op a) (.AugAssign (.Subscript y z c) Ea x pos):=λE d ρ K Q p w k=>by
 unfold W;rw[arm_exec_AugAssign_3];refine aj (cT (aj (ho E d ρ _ _ p w λC v1 u g1 J w1=>?_)));refine aj (dq (hi E C ρ _ _ (p.after g1) w1 λd0 v0 z0 g0 r0 L=>?_));refine aj (dq (aj (cT (aj ?_))));obtain⟨_,_,e,L⟩:=c5 L;obtain⟨_,_,_,_,yA⟩:=C7 (A:=B.A) (E:=E) (Q:=λI s'=>wpAny (model B.X.a B.X.w) B.A (holding [I] (eval x S.a)>>=λv=>standAt pos>>=λ_=>operate [I,v] (inplaceOp Ea I v)) (λnew s'=>wpAny (model B.X.a B.X.w) B.A (standAt c>>=λ_=>augStore z u z0 new) Q E s') E s') g0.j B.b.room (g0.rep g1.j J) r0 e λs2 Eb z2 q h g N=>by
  have g2:Go B.X No d0 ⟨s2,_,Eb⟩:=⟨q,h,N⟩;refine aj (dq (G E ⟨s2,_,Eb⟩ ρ _ _ ((p.after (g1.trans g0)).after g2) L λd3 v3 r U s w3=>aj (cT (B0 ?_))));obtain⟨m,n,rfl,rfl,w3⟩:=D_ w3;refine D' j U.j (U.rep q g) s w3 λT v4 z4 g4 r4 w4=>?_;refine aj (cT ?_);rw[PA hz];refine aj (dq ?_);have t:=g2.trans (U.trans g4);exact D9 g4.j ((g0.trans t).rep g1.j J) (t.rep g0.j r0) r4 w4 λY H w5=>aj (B7 (aG (k.plain p (((g1.trans g0).trans t).trans H) w5)))
 exact yA
def PC:fY B S [] []:=λE d ρ K Q p w k=>B8 (k.here p .a w)
def PD{st:Stmt}(h:SX B S b st)(N:fY B S I Ec):fY B S (b::I) (st::Ec):=λE d ρ K Q p w k=>by
 refine wpAny_execs_cons (h E d ρ (iP (aM B.C I) K) _ p w λC fl ρ1 Y A s J w1=>?_)
 induction J with
 |a=>exact N E C ρ1 K _ ⟨s,A.j⟩ w1 (k.after A)|d=>exact k C _ ρ1 _ A s .d w1|c=>exact k C _ ρ1 _ A s .c w1|b r=>exact k C _ ρ1 _ A s (.b r) w1
def PF:fY B S (.j::I) Ec:=λE d ρ K Q p w k=>(show False from w).elim
def PG(L:SB B S q x)(G:fY B S a la)(T:fY B S b u):SX B S (.h q a b) (.If x la u pos):=λE d ρ K Q p w k=>by
 refine wpAny_If (L E d ρ (yc (aM B.C a ρ) (aM B.C b ρ) K) _ p w λC v A w1=>?_);obtain⟨t,i,h⟩:=iQ w1;refine⟨t,i,?_⟩
 induction t using aS with
 |true=>exact G E C ρ K Q (p.after A) h (k.after A.no)|false=>exact T E C ρ K Q (p.after A) h (k.after A.no)
def PH(L:SB B S q x)(T:fY B S b u):SX B S (.q q b) (.While x u [] pos):=λE d ρ K Q p w k=>by
 refine wpAny_While ?_;refine codeAny_whileLoop (λm s1=>∃C ρ1,C.s=s1/\c_ B S C ρ1/\Go B.X (c9 S.a) d C/\
  hU (λρ k σ=>bK B.C q ρ (λx σ=>eu σ x λt=>k t σ) σ) (λρ k σ=>aM B.C b ρ k σ) m ρ1 K C.σ) ?_ ol ⟨d,ρ,rfl,p,⟨p.f,bf.refl ..,et.refl _⟩,w⟩
 rintro m _ ⟨C,ρ1,rfl,p1,A,w1⟩
 induction m with
 |zero=>exact(show False from w1).elim|succ m=>
  refine L _ C ρ1 _ _ p1 w1 λd2 v j w2=>?_;obtain⟨t,i,w2⟩:=iQ w2;refine⟨t,i,?_⟩;have p2:=p1.after j;have j:=A.trans j.no
  induction t with
  |false=>exact B8 (k d2 .a ρ1 _ j p2.j .a w2)|true=>
   refine T _ d2 ρ1 _ _ p2 w2 λd3 fl g Y U N s w3=>?_
   induction s with
   |a=>exact⟨m,J8 m,d3,g,rfl,⟨N,U.j⟩,j.trans U,w3⟩|c=>exact⟨m,J8 m,d3,g,rfl,⟨N,U.j⟩,j.trans U,w3⟩|d=>exact k d3 .a g _ (j.trans U) N .a w3|b r=>exact k d3 _ g _ (j.trans U) N (.b r) w3
abbrev jr:Expr->Option Str
 |.Name nm _=>some nm|_=>none
def oK(e:jr x=some nm):∃np,x=.Name nm np:=by
 induction x using eK with
 |Name n p=>exact⟨p,by rw[<-ay e]⟩|_=>exact bl e
abbrev j_(vs:mR):List Expr->Option (List Nat)
 |[]=>some []|x::r=>(jr x).bind λnm=>(vs.lookup nm).bind λp=>(j_ vs r).map λl=>p.1::l
def rA{vs:mR}(h:vs.lookup x=some p):(x,p.1,p.2)∈vs:=by
 induction vs with
 |nil=>exact bl h|cons a r ih=>
  obtain⟨y,q⟩:=a;rw[mv]at h;cases T:x==y with
  |true=>rw[T]at h;rw[aH.mp T,<-ay h];exact .head _|false=>rw[T]at h;exact .tail _ (ih h)
def Ed(h:j_ vs (x::l)=some is):∃nm np p Y,x=.Name nm np/\vs.lookup nm=some p/\j_ vs l=some Y/\p.1::Y=is:=by
 obtain⟨nm,u,h⟩:=a9 h;obtain⟨p,J,h⟩:=a9 h;obtain⟨Y,hi,h⟩:=cF h;obtain⟨np,e⟩:=oK u;exact⟨nm,np,p,Y,e,J,hi,h⟩
def PI:∀{is:List Nat},j_ vs l=some is->(assignEach l env).length=is.length/\∀x∈assignEach l env,x.1=false:=by
 induction l with
 |nil=>intro is h;rw[<-ay h];exact⟨rfl,λx H=>nomatch H⟩|cons x l ih=>
  intro is h;obtain⟨nm,np,p,Y,e,h1,h2,h3⟩:=Ed h;obtain⟨a,b⟩:=ih h2;rw[e,<-h3];exact⟨aE (·+1) a,λy v=>(bH.mp v).elim (λe=>e▸rfl) (b y)⟩
def Ee(h:mL (i::is) vs ρ=some da):∃v o,vs=v::o/\mL is o (ρ.set i (some v))=some da:=by
 induction vs using bo with
 |nil=>exact bl h|cons v vs=>exact⟨v,vs,rfl,h⟩
def Ef(h:mL [] vs ρ=some da):vs=[]/\ρ=da:=by
 induction vs using bo with
 |nil=>exact⟨rfl,ay h⟩|cons v vs=>exact bl h
def PJ:∀{vs:List V} {ρ da:ba},mL is vs ρ=some da->is.length=vs.length:=by
 induction is with
 |nil=>intro vs ρ da h;obtain⟨rfl,_⟩:=Ef h;rfl|cons i is ih=>intro vs ρ da h;obtain⟨v,o,rfl,h⟩:=Ee h;exact aE (·+1) (ih h)
@[inline]abbrev KN(B:Bd)(S:Sc)(d:D)(ρ:ba)(Q:Unit->Shared->Prop):Prop:=∀d',d'.σ=d.σ->Go B.X (c9 S.a) d d'->c_ B S d' ρ->Q () d'.s
def PK{l:List Expr}:∀{is:List Nat},j_ S.c.a l=some is->∀{d ρ da vs} {xs:List Value} {E Q},c_ B S d ρ->mL is vs ρ=some da->d.Rs vs xs->KN B S d da Q->W B (assignInOrder ((assignEach l S.a).map (·.2)) xs) Q E d:=by
 induction l with
 |nil=>
  intro is h d ρ da vs xs E Q p e r k;rw[<-ay h]at e;obtain⟨e1,w⟩:=Ef e;rw[e1]at r;rw[show xs=[]from r];exact aG (k d rfl ⟨p.f,bf.refl ..,et.refl _⟩ (w▸p))
 |cons x l ih=>
  intro is h d ρ da vs xs E Q p e r k;obtain⟨nm,np,q,Y,ex,h1,h2,h3⟩:=Ed h;rw[<-h3]at e;obtain⟨v,o,ev,e⟩:=Ee e;rw[ev]at r;obtain⟨y,c,ey,J,rs⟩:=r;rw[ex,ey];refine aj (dq (rv (rA h1) p J λd2 h5 h6 j p2=>?_));have hz:cG d.s.heap (j9 S.a nm q.2):=λa G=>p.j.d a G.jq;exact ih h2 p2 e (b8.ext rs p.f j.k hz) λd3 h7 U s=>k d3 (h7.trans h5) ((j.weak λa G=>G.jq).trans U) s
inductive oM(c:dQ):qQ->Expr->Prop
 |d {nm i b pos}:(nm,i,b)∈c.a->oM c (.a i) (.Name nm pos)
 |a {is:List Nat} {l:List Expr} {kd pos}:j_ c.a l=some is->oM c (.b is) (.Tuple l kd pos)
def PL(e:mG v=some l):v=.p l:=by
 induction v using Mine.Lake.V.casesOn with
 |p j=>exact aE V.p (ay e)|_=>exact bl e
def Eg{d ρ}{K:ba->St->Prop}{E}(ok:oM S.c q t)(p:c_ B S d ρ)(r:d.R v y)
  (w:bQ (fQ q v ρ d.σ) K) (k:∀da,K da d.σ->KN B S d da Q):W B (assign t S.a y) Q E d:=by
 induction ok with
 |d N=>exact rv N p r λd2 h5 h6 j p2=>k _ w d2 h5 (j.weak λa G=>G.jq) p2|@a is l kd pos Y=>
  obtain⟨da,aw,e,h⟩:=c5 w;obtain⟨vs,N,e⟩:=a9 (x:=mG v) e;obtain⟨L,T,e⟩:=cF e;rw[<-show L=da from aE Prod.fst e,<-show d.σ=aw from aE Prod.snd e]at h;rw[PL N]at r;obtain⟨a,ws,kk,ey,G,_,ra⟩:=r.eL;rw[ey];show wpAny _ _ (standAt pos>>=λC=>unpack (.ref a) (assignEach l S.a)) _ _ _;obtain⟨H,i⟩:=PI (env:=S.a) Y;refine aj (cT (wpAny_unpack_tuple B.b.b ⟨_,G,rfl,kk,rfl⟩ ?_ ?_ λh' U=>?_))
  .rw[H,PJ T];exact iO ra
  .rw[List.findIdx?_eq_none_iff];exact i
  .obtain⟨I,z⟩:=p.f.grow (h':=h') λb o q=>U b o (n' (jc q)) q
   have A:Go B.X No d ⟨{d.s with heap:=h'},d.σ,d.μ⟩:=⟨I,z,rfl,rfl⟩;exact PK Y (p.after A) T (A.DJ p.f ra) λd3 h7 J s=>k L h d3 h7 (A.no.trans J) s
def PM(I:Nat->Shared->Prop)
  (turn:∀n s,I n s->wpAny (model prog w) A (pyNext it) (λr s₁=>match r with
   |none=>wpAny (model prog w) A (execs i env) (λf G=>R (.ok f) G) (notedBy (model prog w) A env λe s'=>R (.error e) s') s₁
   |some v=>wpAny (model prog w) A (letOwnedTupleGo j it v) (λJ k=>wpAny (model prog w) A (assign j env v) (λJ a=>wpAny (model prog w) A (execs body env) (λf G=>match f with
     |.next |.cont=>∃m,m < n/\I m G|.brk=>R (.ok .next) G|.ret v=>R (.ok (.ret v)) G) (notedBy (model prog w) A env λe s'=>R (.error e) s') a) (notedBy (model prog w) A env λe s'=>R (.error e) s') k) (notedBy (model prog w) A env λe s'=>R (.error e) s') s₁) (notedBy (model prog w) A env λe s'=>R (.error e) s') s)
  (n:Nat) (h:I n s):codeAny (model prog w) A (.forLoop j it body i env) R s:=by
 refine codeAny_loop' rfl I (λn s L=>?_) n h;show wpAny _ _ ((forTurn j it body i env).onRaise (λx=>do noteFrame x env;theTreesLotGoes x)) _ _ s;refine wpAny_noted ?_;simp only[forTurn];refine aj (cT (aj (wpAny_onRaise (gX (turn n s L) (λr s₁ c=>?_) λJ J h'=>cT h'))))
 induction r using aX with
 |none=>exact aG (.inr ⟨rfl,codeAny_block c⟩)|some v=>
  refine aj (gX c (λJ k h₀=>aj (gX h₀ (λJ a o=>aj (gX o (λf G g=>?_) λJ J h'=>h')) λJ J h'=>h')) λJ J h'=>h')
  induction f using PySem.Flow.casesOn with
  |next=>exact aG (.inl ⟨rfl,g⟩)|cont=>exact aG (.inl ⟨rfl,g⟩)|brk=>exact aG g|ret v=>exact aG g
def PN{E}{src:b9}{X:dk}(ok:oM c p j)(h:src.At s.heap I k)(q:Q () s):wpAny (model X.a X.w) A (letOwnedTupleGo j (.ref I) v) Q E s:=by
 induction ok with
 |d _=>exact aG q|@a is l kd pos _=>
  show wpAny _ _ (match((Value.ref I,v):Value×Value)with
   |(.ref r,.ref a)=>_|_=>pure ()) _ _ _
  induction v using Cj with
  |ref a=>
   have key:∀{o:Obj} {n:String} {vs:Array Value},s.heap.get? I=some o->o.cls=.type n->o.data=.fields vs->(["enumerate", "zip", "dict_itemiterator", "dict_reverseitemiterator", "odict_iterator", "itertools.zip_longest", "itertools.pairwise"].contains n)=false->
     wpAny (model X.a X.w) A (letOwnedTupleGo (.Tuple l kd pos) (.ref I) (.ref a)) Q E s:=λ{o n vs} ho U Y u=>by
    unfold letOwnedTupleGo;refine aj (wpAny_load ho ?_);rw[U,Y];simp only[u,Bool.false_and,jd,je];exact aG q
   induction src using Mine.Lake.S.b9.casesOn with
   |d l' b=>obtain⟨o,ho,U,Y⟩:=h;exact key ho U Y (by decide)|g l' b=>obtain⟨o,ho,U,Y⟩:=h;exact key ho U Y (by decide)|c i l' m=>obtain⟨o,ho,U,Y⟩:=h;exact key ho U Y (by decide)|f m=>exact key h rfl rfl (by decide)
  |_=>exact aG q
def PO{b:List CS}{x:Expr}(ok:oM S.c q t)(N:SI B S it x)(z:fW x=true)(hb:fY B S b u):SX B S (.m q it b) (.For t x u [] pos):=λE d ρ K Q p w k=>by
 refine wpAny_For (N E d ρ _ _ p w λC y src A T yt w1=>yt _ _ _ λo hI=>?_) (DK z);obtain⟨R2,E2⟩:=A.j.push o;have g2:Go B.X No C ⟨{C.s with heap:=C.s.heap.push o},C.σ,C.μ⟩:=⟨R2,E2,rfl,rfl⟩;have hIn:C.s.heap.get? C.s.heap.objs.size=none:=fT _;generalize DZ:C.s.heap.objs.size=I at hI hIn ⊢;have lI:d.s.heap.get? I=none:=A.k.none_of hIn;have rB:¬ c9 S.a I:=λq=>by obtain⟨ob,e⟩:=p.j.b I q;rw[lI]at e;cases e
 have ro:∀c,c=I->¬ c9 S.a c:=λc h=>h▸rB;have fin:∀{d'},Go B.X (λa=>a=I\/c9 S.a a) d d'->Go B.X (c9 S.a) d d':=λg=>⟨g.j,g.k.shrink λa G=>G.elim (λq=>.inr (q▸lI)) .inl,g.p⟩;refine PM (λm s2=>∃d2 j L,d2.s=s2/\m+j=src.items.length+1/\yp B.X S.c S.a src I (·=L) d2 j/\Go B.X (λa=>a=I\/c9 S.a a) d d2/\
  gn (λx ρ k σ=>bQ (fQ q x ρ σ) λρ σ=>aM B.C b ρ k σ) src.guard (src.items.drop j) L K d2.σ) ?_ (src.items.length+1)
  ⟨⟨{C.s with heap:=C.s.heap.push o},C.σ,C.μ⟩,0,ρ,rfl,rfl,⟨R2,⟨ρ,rfl,(p.after (A.trans g2)).j⟩,hI,T.pre.ext A.j E2 (cG.no _),A.j.ow hIn⟩,(A.trans g2).no,w1⟩
 rintro m _ ⟨d2,j,_,rfl,hm,⟨R3,⟨L,rfl,F3⟩,mV,n,rp⟩,g0,w⟩;generalize Y:src.items.drop j=x_
 induction x_ using bo with
 |nil=>
  rw[Y]at w;obtain⟨_,_,e,w⟩:=c5 w;obtain⟨yB,rfl⟩:=n.watch e;refine xY B.b.b R3 mV yB (A.j.ln hIn) rp (by simpa using Y) λh' t R4 E4=>?_;exact B8 (k ⟨{d2.s with heap:=h',toks:=t},d2.σ,d2.μ⟩ .a L .next (fin (g0.trans ⟨R4,E4.weaken λa G=>.inl G,rfl,rfl⟩)) (F3.ext R3 E4 mV.noSeq ro) .a w)
 |cons v rest=>
  rw[Y]at w;obtain⟨hv,uw,U⟩:=mU Y;obtain⟨_,_,e,w⟩:=c5 w;obtain⟨yB,rfl⟩:=n.watch e;refine xX R3 mV yB (A.j.ln hIn) rp hv λh' t y R4 E4 rq ry=>?_;have F4:=F3.ext R3 E4 mV.noSeq ro;have g4:Go B.X (λa=>a=I\/c9 S.a a) d2 ⟨{d2.s with heap:=h',toks:=t},d2.σ,d2.μ⟩:=⟨R4,E4.weaken λa G=>.inl G,rfl,rfl⟩;refine PN (X:=B.X) (s:={d2.s with heap:=h',toks:=t}) (src:=src) (k:=j+1) ok rq ?_;refine Eg (d:=⟨{d2.s with heap:=h',toks:=t},d2.σ,d2.μ⟩) ok ⟨F4,R4⟩ ry w λPP w4 d5 rC H i=>?_;obtain⟨PQ,PR,PU⟩:=uz H R4 F4.d rq (n.ext R3 E4 mV.noSeq) rp rB;refine hb _ d5 PP _ _ i (rC▸w4) λd6 fl oN fw J F6 r6 w6=>?_;obtain⟨Eh,Ei,Ej⟩:=uz J i.f i.j.d PQ PR PU rB;have uE:=(g0.trans g4).trans ((H.trans J).weak λa G=>.inr G)
  induction r6 with
  |a=>exact⟨m - 1, "~2B04E7ZgG>Z;j5235tI>VmZ" ao hm U,d6,j+1,oN,rfl, "~2HhjUzIMjtQxKsmnTF?F3TOp30TTA_PkBKaLkV" ao hm U,⟨J.j,⟨oN,rfl,F6⟩,Eh,Ei,Ej⟩,uE,by rw[uw];exact w6⟩|c=>exact⟨m - 1, "~2B04E7ZgG>Z;j5235tI>VmZ" ao hm U,d6,j+1,oN,rfl, "~2HhjUzIMjtQxKsmnTF?F3TOp30TTA_PkBKaLkV" ao hm U,⟨J.j,⟨oN,rfl,F6⟩,Eh,Ei,Ej⟩,uE,by rw[uw];exact w6⟩|d=>exact k d6 .a oN _ (fin uE) F6 .a w6|b r=>exact k d6 _ oN _ (fin uE) F6 (.b r) w6
variable{f':Expr->CE}
def PV{st:Stmt}(T:fY B S b u)(H:fY B S g (st::U)):SX B S (.v b g) (.Try u [] [] (st::U) pos):=λE d ρ K Q p w k=>by
 refine wpAny_Try_finally (T _ d ρ (λr ρ σ=>aM B.C g ρ (λr' ρ σ=>match r' with |.a=>K r ρ σ |_=>False) σ) _ p w λC fl ρ1 Y A s J w1=>?_);have i:∀{E'},wpAny (model B.X.a B.X.w) B.A (execs (st::U) S.a) (λg' s'=>match g' with |.next=>Q Y s' |g'=>Q g' s') E' C.s:=λ{E'}=>
  H E' C ρ1 (λr' ρ σ=>match r' with |.a=>K fl ρ σ |_=>False) _ ⟨s,A.j⟩ w1 λd2 h L m j N I w2=>by
   induction I with
   |a=>
    refine k d2 fl L Y (A.trans j) N ?_ w2
    induction J with
    |a=>exact .a|d=>exact .d|c=>exact .c|b r=>exact .b (aq.ext r A.j j.k s.d)
   |_=>exact(show False from w2).elim
 induction J with
 |a=>exact B8 i|_=>exact i
abbrev yC(x:Expr):Bool:=x.ctorIdx !=25
def PW(h:yC x=true):swappedStores [.Tuple l kd c] x env=pure none:=by induction x using eK <;>first |rfl |exact b7 h
def PX(Y:j_ S.c.a l=some is)(G:SE B S a x)(H:gL x=true)(i:yC x=true):SX B S (.r is a) (.Assign [.Tuple l kd c] x pos):=λE d ρ K Q p w k=>by
 unfold W;rw[arm_exec_Assign];refine aj (cT (aj (ms (a:=false) (yx (t:=some (.Tuple l kd c)) (l:=pos.line) (env:=S.a) H) ?_)));simp only[jd,je];refine aj (G E d ρ (Dz (.b is) ρ (K .a)) _ p w λC v y A J w1=>?_);refine aj (ms (PW i) ?_);show wpAny _ _ (assign (.Tuple l kd c) S.a y>>=λU=>pure Flow.next) _ _ _;exact aj (Eg (.a Y) (p.after A) J w1 λda w2 d2 m j p2=>aG (k d2 .a da .next (A.no.trans j) p2.j .a (m▸w2)))
def FR.xL{Z:Addr->Prop}(F:FR X env vs ρ σ μ h)(K:Kp h h' (au σ μ) (au σ μ) μ μ)(U:∀a o,h.get? a=some o->¬ Z a->h'.get? a=some o)(Y:∀c,Z c->¬ c9 env c):
  FR X env vs ρ σ μ h':=by
 have live:∀c,c9 env c->∀o,h.get? c=some o->h'.get? c=some o:=λc T o e=>U c o e λq=>Y c q T;refine⟨?_,λx i H=>?_,F.j,λc T t vs n e=>?_,λc T=>?_,F.l,F.p⟩
 .obtain⟨m,hm,Q⟩:=F.k
  exact⟨m,hm.at_ (live _ (.inl rfl)),λx i H v e=>let ⟨y,e1,r⟩:=Q x i H v e;⟨y,e1,K.rep r⟩⟩
 .obtain⟨c,ov,T,hi,Q⟩:=F.g x i H
  exact⟨c,ov,T,hi.at_ (live _ (.inr ⟨x,T⟩)),λv e=>let ⟨y,e1,r⟩:=Q v e;⟨y,e1,K.rep r⟩⟩
 .obtain⟨o,ho⟩:=F.b c T
  rw[live c T o ho]at e;exact F.d c T t vs n (ho.trans e)
 .obtain⟨o,ho⟩:=F.b c T
  exact⟨o,live c T o ho⟩
def PY(hv:(nm,j,b)∈S.c.a)(Ek:∀T (hE:eZ T c') x,aU B ⟨c',T,hE⟩ (f' x) x)
  (ok:lz scope S.c c' x i) (N:SI B S it iter) (z:fW iter=true) (Y:Nat.ble ifs.length 1=true):
  SX B S (.g j (.E (f' H) i it (ifs.map f'))) (.Assign [.Name nm np] (.ListComp H [⟨.Name x px,iter,ifs,0⟩] scope pos) pos'):=λE d ρ K Q p w k=>by
 have w:bK B.C (.E (f' H) i it (ifs.map f')) ρ (uq j ρ K) d.σ:=w;unfold W;rw[arm_exec_Assign];refine aj (cT ?_);show wpAny _ _ (swapsWith (.ListComp H [⟨.Name x px,iter,ifs,0⟩] scope pos) (some (.Name nm np)) pos'.line S.a>>=_) _ _ _;refine aj (ms (t:=swapsWith (.ListComp H [⟨.Name x px,iter,ifs,0⟩] scope pos) (some (.Name nm np)) pos'.line S.a) (rfl:_=pure (S.a.blockKind==.function&&S.a.kindOf nm==some .local&&np.line==pos.line&&!(scope.names.any λ(n,k)=>n==nm&&(k==.local||k==.cell)))) ?_);generalize hb:(S.a.blockKind==.function&&S.a.kindOf nm==some .local&&np.line==pos.line&&!(scope.names.any λ(n,k)=>n==nm&&(k==.local||k==.cell)))=x_
 induction x_ using aS with
 |false=>
  simp only[jd,je];refine aj ((D6 (px:=px) (pos:=pos) Ek ok N z Y).v E d ρ (uq j ρ K) _ p w λC v y A J w1=>?_);refine aj (ms (a:=none) (by rfl) ?_);show wpAny _ _ (assign (.Name nm np) S.a y>>=λ_=>pure Flow.next) _ _ _;exact aj (rv hv (p.after A) J λd2 rC _ g2 p2=>aG (k d2 .a _ .next (A.no.trans (g2.weak λa G=>G.jq)) p2.j .a (rC▸w1)))
 |true=>
  simp only[qp];rw[arm_evalThenUse_ListComp];refine aj (aj (D4 Ek ok N z Y p w λC r L a c w1=>?_));obtain⟨v,aw,e,h⟩:=c5 w1.h;obtain⟨g2,g⟩:=Go.freeze c.f.j (.ref (m:=(a,a)) c.l) e;have yD:¬ c9 S.a L:=λq=>by obtain⟨ob,e⟩:=p.j.b L q;rw[c.n]at e;cases e
  show wpAny _ _ (assign (.Name nm np) S.a (.ref a)) _ _ _;refine rv (d:=⟨C.s,aw,C.μ⟩) hv (p.after (c.f.trans g2)) g λd3 rC PZ U s=>?_;have uG:Go B.X (c9 S.a) C d3:=g2.no.trans (U.weak λa G=>G.jq);obtain⟨m,u⟩:=c.h;refine⟨m,u.at_ λo e=>uG.k.g _ _ e c.k yD,λh' El=>aG (aG ?_)⟩;obtain⟨I,K4,E4⟩:=c.drop uG yD PZ El;exact k ⟨{d3.s with heap:=h'},d3.σ,d3.μ⟩ .a _ .next ⟨I,E4,((c.f.p.trans uG.p).d),((c.f.p.trans uG.p).e)⟩ (FR.xL (Z:=λb=>b=L) s.j K4 (λb ob q nb=>(El.2 b nb).trans q) λb P0=>P0▸yD) .a (rC▸h)
end Mine.Lake.S
namespace Mine.Lake.S
def P1:∀{names:List Str} {zs:List Value} (pre:List (Str×Value)),names.length=zs.length->names.Nodup->(∀k∈names,pre.lookup k=none)->
  names.filterMap (λk=>((pre++names.zip zs).lookup k).map λv=>(k,v))=names.zip zs:=by
 intro names
 induction names with
 |nil=>intro zs pre _ _ _;rfl|cons a r ih=>
  intro zs pre Y u J
  induction zs with
  |nil=>cases Y|cons z zs=>
   obtain⟨c,i⟩:=fL.mp u;have G:(pre++(a::r).zip (z::zs)).lookup a=some z:=by
    rw[List.zip_cons_cons,List.lookup_append,J a (.head _),List.lookup_cons_self];rfl
   rw[List.filterMap_cons,G];have:=ih (zs:=zs) (pre++[(a,z)]) (kR Y) i λk U=>by
    have T:(k==a)=false:=cD.mpr λq=>c (q▸U);rw[List.lookup_append,J k (.tail _ U),mv,T];rfl
   rw[c7]at this;exact aE ((a,z)::·) this
structure Em(p:Arguments)(names:List Str):Prop where
 b:p.posonlyargs=[]
 e:p.args.map (·.arg)=names
 a:p.vararg=none
 c:p.kwonlyargs=[]
 d:p.kwarg=none
theorem En:∀{names:List Str} {zs:List Value},names.length<=zs.length->∀k∈names,((names.zip zs).lookup k).isNone=false
 |a::r,[],h,k,U=>absurd h (J9 _)|a::r,z::zs,h,k,U=>by
  rw[List.zip_cons_cons,mv];cases T:k==a with
  |true=>rfl|false=>exact En (BP h) k ((bH.mp U).resolve_left λq=>by rw[q,jN]at T;cases T)
def Eo{M:Model}[Decidable c]{E}(h:¬ c)(w:wpAny M A b Q E s):wpAny M A (if c then a else b) Q E s:=by rw[ab h];exact w
def P2(J:Em fd.params names)(u:names.Nodup)(N:fd.defaults=.none)(Y:names.length=xs.length):BindsTo s fd ⟨xs,[]⟩ (names.zip xs):=by
 obtain⟨_,_,params,_,_,_,_,dflt,_,_,_,_,_,_,_⟩:=fd;obtain⟨p1,p2,L,T,i,y,z⟩:=params;obtain⟨h1,h2,h3,h4,h5⟩:=J;dsimp only at h1 h2 h3 h4 h5 N;subst h1 h3 h4 h5 N h2;intro M A E Q q;generalize g:p2.map (·.arg)=names at*;refine aj (aG ?_);refine aj (aG ?_);refine Eo (c:=(decide (xs.length>(([]:List Str)++p2.map (·.arg)).length)&&(none:Option Arg).isNone)=true) ?_ ?_
 .rw[di,g,Y,mu,decide_eq_true_eq];exact λh=>tz _ h.1
 have H:(List.drop (([]:List Value).length - (([]:List Str)++p2.map (·.arg)).length) ([]:List Value))=[]:=BM;refine Eo (c:=(!((((([]:List Str)++p2.map (·.arg)).take ((([]:List Str)++p2.map (·.arg)).length - (List.drop (([]:List Value).length - (([]:List Str)++p2.map (·.arg)).length) ([]:List Value)).length)).filter λn=>(((([]:List Str)++p2.map (·.arg)).zip xs).lookup n).isNone).isEmpty))=true) ?_ ?_
 .rw[H,dK,Nat.sub_zero,di,g,J',xc.mpr λk U q=>by rw[En (gV Y) k U]at q;cases q]
  exact dX
 refine aj ?_;show wpAny M A (forIn ((List.drop ((([]:List Str)++p2.map (·.arg)).length - (List.drop (([]:List Value).length - (([]:List Str)++p2.map (·.arg)).length) ([]:List Value)).length) (([]:List Str)++p2.map (·.arg))).zip (List.drop (([]:List Value).length - (([]:List Str)++p2.map (·.arg)).length) ([]:List Value))) ((([]:List Str)++p2.map (·.arg)).zip xs) _) _ E s;rw[H,List.zip_nil_right];refine aG (aj (aG (aG ?_)));show Q (List.filterMap (λn=>(((([]:List Str)++p2.map (·.arg)).zip xs).lookup n).map λv=>(n,v)) ((([]:List Str)++p2.map (·.arg))++[])) s;rw[b_,di,g];exact(P1 (zs:=xs) [] Y u λG G=>rfl).symm▸q
variable{X:dk}{c:dQ}
theorem Ep:∀{a:List (Str×Value)} {m:Str->Option Value},x∉a.map (·.1)->bindL Y a m x=m x
 |[],_,_=>rfl|(y,v)::r,m,h=>by
  simp only[eS,bH,not_or]at h;unfold bindL;rw[Ep h.2]
  split
  .simp[h.1]
  .rfl
theorem Er(U:Y x=some .local):∀{a:List (Str×Value)} {m:Str->Option Value},(a.map (·.1)).Nodup->(x,z)∈a->bindL Y a m x=some z
 |[],_,_,h=>by simp at h
 |(y,v)::r,m,u,h=>by
  simp only[eS,fL]at u;unfold bindL;rcases bH.mp h with q |q
  .cases q
   rw[Ep u.1,ah U];simp
  .exact Er U u.2 q
theorem Et:∀{a:List (Str×Value)} {m:Str->Option Value},x∉a.map (·.1)->bindC Y a m x=m x
 |[],_,_=>rfl|(y,v)::r,m,h=>by
  simp only[eS,bH,not_or]at h;unfold bindC;rw[Et h.2]
  split
  .rfl
  .simp[h.1]
theorem Eu(U:Y x≠some .local):∀{a:List (Str×Value)} {m:Str->Option Value},(a.map (·.1)).Nodup->(x,z)∈a->bindC Y a m x=some z
 |[],_,_,h=>by simp at h
 |(y,v)::r,m,u,h=>by
  simp only[eS,fL]at u;unfold bindC;rcases bH.mp h with q |q
  .cases q
   rw[Et u.1,ab U];simp
  .exact Eu U u.2 q
theorem uH:∀(names:List (Str×NameKind)) (k:Nat) (acc:List (Str×Addr)) (x:Str),((x,NameKind.cell)∈names\/(acc.lookup x).isSome=true)->((cellsFrom k names acc).lookup x).isSome=true
 |[],k,acc,x,h=>h.elim (λq=>by simp at q) id
 |(y,kd)::r,k,acc,x,h=>by
  unfold cellsFrom
  split
  .rename_i U
   refine uH r _ _ x ?_;by_cases q:x=y
   .right;subst q;simp[mv]
   .rcases h with h |h
    .rcases bH.mp h with e |e
     .cases e;exact absurd rfl q
     .exact .inl e
    .right
     have T:(x==y)=false:=cD.mpr q;simp only[mv,T];exact h
  .rename_i U
   refine uH r _ _ x ?_;rcases h with h |h
   .rcases bH.mp h with e |e
    .cases e;simp at U
    .exact .inl e
   .exact .inr h
theorem kf:∀{l:List (Str×α)},l.lookup x=some a->(x,a)∈l
 |[],h=>by simp at h
 |(y,b)::r,h=>by
  rw[mv]at h
  split at h
  .rename_i q;cases h;rw[aH.mp q];simp
  .exact b6 _ (kf h)
structure uI(X:dk)(f:FN)(c:dQ)(z:List Stmt)(o:Obj)(fd:FuncData)(names:List Str)(dv:List Value):Prop where
 p:X.b.get? (X.e f)=some o
 u:o.data=.func fd
 v:X.b.CodeRec fd.code fd.qualname
 z:fd.body=.stmts z
 y:fd.closure=[]
 w:fd.scope.isCoroutine=false
 q:fd.scope.isGenerator=false
 j:fd.scope.kind=.function
 n:fd.globals=mainGlobals
 B:fd.builtins=builtinsNs
 d:fd.scope.names=c.b
 l:names.Nodup
 g:names.length=(bv f).a
 t:dv.length=(bv f).b.length
 r:∀h ω μ,b8 h ω μ (bv f).b dv
 A:∀s xs,(∀b o,X.b.get? b=some o->s.heap.get? b=some o)->xs.length<=(bv f).a->(bv f).a<=xs.length+dv.length->BindsTo s fd ⟨xs,[]⟩ (names.zip (xs++dv.drop (xs.length+dv.length - (bv f).a)))
 k:∀x i b,(x,i,b)∈c.a->i < (bv f).a->names[i]?=some x
 m:∀x∈names,∃i b,(x,i,b)∈c.a
 a:∀x i b,(x,i,b)∈c.a->c.b.lookup x=some (if b then .cell else .local)
 inj:∀e∈c.a,∀e'∈c.a,e.1=e'.1\/e.2.1=e'.2.1->e=e'
 C:(bv f).a<=(bv f).d
def P4{names:List Str}(g:∀x i b,(x,i,b)∈c.a->c.b.lookup x=some (if b then .cell else .local))
  (U:∀x,env.kindOf x=c.b.lookup x) (E:env.locals=s.heap.objs.size) (h:env.cells=cellsFrom (s.heap.objs.size+1) c.b []) (u:names.Nodup) (Y:names.length=np) (B:Q.length=np)
  (n:∀x i b,(x,i,b)∈c.a->i < np->names[i]?=some x) (R:SR X σ μ s.heap) (r:b8 s.heap (au σ μ) μ Q zs)
  (x:InCallC s env.locals (bindL env.kindOf (names.zip zs) λJ=>none) env.cells (bindC env.kindOf (names.zip zs) λJ=>none) s'):
  SR X σ μ s'.heap/\bf s.heap σ μ s'.heap σ μ No/\FR X env c.a (Q.map some++List.replicate (ns - np) none) σ μ s'.heap:=by
 obtain⟨I,N⟩:=R.grow x.toInCall.keep;refine⟨I,N,?_⟩;have f:zs.length=np:=by rw[<-r.length,B]
 have j:((names.zip zs).map (·.1)).Nodup:=by rw[List.map_fst_zip ("~6Y1utOxfQRA" Y f)];exact u
 have none_of:∀a,c9 env a->s.heap.get? a=none:=λa G=>by
  have:s.heap.objs.size<=a:=by
   rcases G with rfl |⟨y,T⟩
   .rw[E];exact av _
   .have:=x.above y a (kf T);rw[E]at this;exact jP this
  generalize e:s.heap.get? a=L
  induction L using aX with
  |none=>rfl|some o=>exact absurd (jc e) (tF.mpr this)
 have k:∀y i b v,(y,i,b)∈c.a->(Q.map some++List.replicate (ns - np) none)[i]?=some (some v)->∃z,(y,z)∈names.zip zs/\aq s'.heap (au σ μ) μ v z:=λy i b v T e=>by
  have hi:i < np:=by
   refine Nat.lt_of_not_le λq=>?_;rw[J_ (by rw[bX,B];exact q)]at e;exact nomatch List.eq_of_mem_replicate (kU e)
  rw[n8 (by rw[bX,B];exact hi),n4]at e;obtain⟨w,m,e⟩:=cF e
  .rw[ay e]at m
   obtain⟨z,hz,H⟩:=r.get m;refine⟨z,?_,H.ext R N (cG.no _)⟩;have h1:=n y i b T hi;have:(names.zip zs)[i]?=some (y,z):=by rw[List.getElem?_zip_eq_some];exact⟨h1,hz⟩
   exact kU this
 refine⟨⟨_,x.toInCall.ns,λy i T v e=>?_⟩,λy i T=>?_,λa G=>⟨R.ow (none_of a G),R.ln (none_of a G)⟩,λa G t vs q e=>?_,λa G=>?_,λy a e=>?_,λy z a e e'=>?_⟩
 .obtain⟨z,hz,H⟩:=k y i false v T e
  exact⟨z,Er (by rw[U];exact g y i false T) j hz,H⟩
 .have p:(y,NameKind.cell)∈c.b:=kf (g y i true T)
  have:=uH c.b (s.heap.objs.size+1) [] y (.inl p);obtain⟨a,G⟩:=qn.mp this;rw[<-h]at G;refine⟨a,_,G,x.cell y a G,λv e=>?_⟩;obtain⟨z,hz,H⟩:=k y i true v T e;exact⟨z,Eu (by rw[U,g y i true T];simp) j hz,H⟩
 .rcases G with rfl |⟨y,T⟩
  .exact Ns.ux x.toInCall.ns t vs q e
  .exact(uy (x.cell y a T)).2 t vs q e
 .rcases G with rfl |⟨y,T⟩
  .exact Ns.live x.toInCall.ns
  .exact(uy (x.cell y a T)).1
 .exact xd (x.above y a (kf e))
 .exact name_of_addr x.apart (kf e) (kf e')
def P5{C:CT}(st:re X G)(J:mT X)(hC:us X C n)(ok:uI X f c body o fd names dv)
  (T:∀(B:Bd) (S:Sc),B.X=X->B.G=G->S.c=c->fY B S (bv f).c body):
  ∀(A:Around) (R:Result->Shared->Prop) (d:D) (vs:List V) (xs:List Value) (K:V->St->Prop),fS (n+1) A->SR X d.σ d.μ d.s.heap->d.Rs vs xs->DH C (bv f) vs K d.σ->
   KV X d K (λx s'=>R (.ok (.ret x)) s')->codeAny (model X.a X.w) A (.call (.ref (X.e f)) ⟨xs,[]⟩) R d.s:=λA R d vs xs K j m r w k=>by
 have w:(match oo (bv f) vs with |none=>False |some ρ=>aM C (bv f).c ρ (dC K) d.σ):=w;by_cases U:vs.length<=(bv f).a/\(bv f).a<=vs.length+(bv f).b.length
 rotate_left
 .rw[show oo (bv f) vs=none from ab U]at w;exact w.elim
 rw[show oo (bv f) vs=_ from ah U]at w;have hlen:=r.length;have u:=ok.t;have rz:=r.append (a0.drop (ok.r d.s.heap (au d.σ d.μ) d.μ) (vs.length+(bv f).b.length - (bv f).a));generalize P8:vs++(bv f).b.drop (vs.length+(bv f).b.length - (bv f).a)=Q at rz w;have Ew:Q.length=(bv f).a:=by rw[<-P8,ca,Ka];exact "~tUJiVt=MOo0=BDYVj|EegDi5XfUg_f>;l?JD^6O7;c^Db^4iDguFB^7t816?NMrI" ao ao U
 have yE:=ok.A d.s xs m.k (hlen▸U.1) (by rw[u,<-hlen];exact U.2);rw[u,<-hlen]at yE;generalize xs++dv.drop (vs.length+(bv f).b.length - (bv f).a)=zs at rz yE;have P9:zs.length=(bv f).a:=by rw[<-rz.length,Ew]
 have P':names.length=zs.length:=ok.g.trans P9.symm;refine codeAny_call_function (by have:=j.c;exact "~1JvxQ8fE7C?rbl" this) (m.k _ _ ok.p) ok.u ok.w ok.q ok.z (ok.v.keeps m.k) (yE _ _ _ _ ?_);rw[ok.y];refine wpAny_newFunctionEnv_cells ok.j (λy v=>?_) λenv rD s1 H=>?_
 .have P_:y.1∈names:=by
   have:y.1∈(names.zip zs).map (·.1):=eb.mpr ⟨y,v,rfl⟩;rw[List.map_fst_zip (gV P')]at this;exact this
  obtain⟨i,b,hv⟩:=ok.m y.1 P_;have:=ok.a _ _ _ hv;rw[ok.d]
  induction b using aS with
  |false=>exact .inl this|true=>exact .inr ⟨this,uH _ _ _ _ (.inl (kf this))⟩
 .have E:env.locals=d.s.heap.objs.size:=by rw[rD];rfl
  have h:env.cells=cellsFrom (d.s.heap.objs.size+1) c.b []:=by rw[rD,<-ok.d];rfl
  have fj:env.scope=fd.scope:=by rw[rD];rfl
  have t:eZ env c:=⟨by rw[fj];exact ok.j,by rw[rD];exact ok.n,by rw[rD];exact ok.B,by rw[fj];exact ok.d,ok.a,ok.inj⟩;obtain⟨I,z,s⟩:=P4 (ns:=(bv f).d) ok.a t.kindOf E h ok.l ok.g Ew (λx i b H hi=>ok.k x i b H hi) m rz H;have Ex:et d.s s1:=by obtain⟨h',N,rfl,_⟩:=H.done;exact⟨rfl,rfl⟩
  refine⟨st.u.keeps λb ob q=>H.toInCall.keep b ob (m.k b ob q),codeAny_func ?_⟩;have Qa:oF n (A.deeper env):=⟨j.b,by show A.depth+1+3*n+5 < _;have:=j.c;exact "~=f2>63I8<WboVZz5dH1t" this,by show A.units+3+12*n+206 < _;have:=j.a;exact "~RKaxr;r00>_p7QhgSAdW8LFDn" this⟩;have g1:Go X No d ⟨s1,d.σ,d.μ⟩:=⟨I,z,Ex⟩;refine T ⟨X,C,n,A.deeper env,G,st,hC,Qa,J⟩ ⟨c,env,t⟩ rfl rfl rfl _ ⟨s1,d.σ,d.μ⟩ _ (dC K) _ ⟨s,I⟩ w λd2 fl L Y g2 F2 g w2=>?_;have aY:∀a,c9 env a->d.s.heap.get? a=none:=λa ha=>by
   have:d.s.heap.objs.size<=a:=by
    rcases ha with rfl |⟨y,v⟩
    .rw[E];exact av _
    .have:=H.above y a (kf v);rw[E]at this;exact jP this
   generalize e:d.s.heap.get? a=x_
   induction x_ using aX with
   |none=>rfl|some o=>exact absurd (jc e) (tF.mpr this)
  have p:Go X No d d2:=⟨g2.j,(g1.no.trans g2).k.shrink λa ha=>.inr (aY a ha),Ex.trans g2.p⟩
  induction g with
  |b rr=>exact k d2 _ _ p rr w2|a=>exact k d2 .z _ p .none w2|d=>exact(show False from w2).elim|c=>exact(show False from w2).elim
def Qb(st:re X G)(J:mT X)(a:FN->dQ)(body:FN->List Stmt)(ok:∀f,∃o fd names dv,uI X f (a f) (body f) o fd names dv)
  (T:∀(B:Bd) (S:Sc) (f:FN),B.X=X->B.G=G->S.c=a f->fY B S (bv f).c (body f)):∀n,us X (ai n) n:=by
 intro n
 induction n with
 |zero=>exact λf A R d vs xs K j m r w k=>(show False from w).elim|succ n ih=>
  intro f A R d vs xs K j m r w k;obtain⟨o,fd,names,dv,h⟩:=ok f;have w:Lk (rf Lk (ur Lk n) (bv f) vs K d.σ):=w;exact P5 st J ih h (λB S=>T B S f) A R d vs xs K j m r w.h k
end Mine.Lake.S
end
set_option backward.match.sparseCases false
section
open PySem PySem.W PyProof.Rows
namespace Mine.Lake.S
abbrev rE:List MN:=[0,1,2,3,4,5,6]
abbrev Ey:List String:=["A", "B", "Q", "R", "T", "a", "any", "b", "error", "holders", "k", "never", "null", "number", "object", "p", "q", "store", "string", "t", "tab", "undefined", "unknown", "void", "where", "|"]
abbrev Qc:List iH:=[.a,.b,.d,.c,.e]
abbrev yF:List Nat:=[186,212,217,224,226,228,232,234,236,241,273,277,328,333,335,337,339,341,355,357,361,377,381,402,433,438,459,466,506,544,553,591,624,872,874,877,887,889,907,910]
abbrev yG:List ((Nat×Nat)×Nat):=[((180,11),7),((199,26),2),((210,10),3),((220,15),4),((275,15),7),((276,28),8),((305,17),3),((309,18),7),((421,26),4),((811,18),4),((819,15),5),((819,40),6),((861,31),3),((892,13),13),((893,14),14),((908,10),11),((916,11),2)]
abbrev gd(b:Bool)(e:CE):CE:=match b with |true=>e |false=>.J
abbrev fk(o:Option α)(f:α->CE):CE:=match o with |some a=>f a |none=>.J
abbrev lB(nm:α->Str)(l:List α)(x:Str):Option α:=l.find? λa=>nm a==x
abbrev Ez:Operator->Option fN
 |.Add=>some .a |.Sub=>some .c |.Mult=>some .d |.FloorDiv=>some .e |.Mod=>some .b |_=>none
abbrev EA:CmpOp->Option lg
 |.Eq=>some .a |.NotEq=>some .c |.Lt=>some .f |.LtE=>some .i |.Gt=>some .e |.GtE=>some .g |.In=>some .b |.NotIn=>some .d |.Is=>some .j |.IsNot=>some .h
abbrev rG:Expr->Option Const
 |.Constant k _ _=>some k|_=>none
abbrev uJ:Const->Option Nat
 |.int (.ofNat n)=>some n|_=>none
abbrev Qd(x:Expr):Bool:=match(rG x).bind uJ with |some n=>Nat.beq n 0 |none=>false
abbrev Qe(x:Expr):Bool:=(rG x).isSome
abbrev Qf(rhs:Bool)(l:List Expr):Bool:=!(rhs&&!(l.all Qe&&!l.isEmpty))&&!((match l with |x::_=>Qd x |[]=>false)&&Nat.ble l.length 2)
abbrev uK(c:dQ)(x:Str):Option (Nat×Bool):=c.a.lookup x
abbrev lC(c:dQ)(x:Str):Bool:=(match c.b.lookup x with |some .globalImplicit=>true |_=>false)&&!(x==Str.ofString "__debug__")
abbrev lD(c:dQ)(s:Scope)(x:Str)(i:Nat):dQ where
 a:=(x,i,false)::s.names.filterMap λp=>match p.2==.free with |true=>(c.a.lookup p.1).map λq=>(p.1,q.1,true) |false=>none
 b:=s.names.map λ(n,k)=>if(k==.free&&true&&c.b.lookup n==some .cell)then(n,.cell)else(n,k)
abbrev EB(p:Str×Nat×Bool)(l:mR):Bool:=l.any λq=>q.1==p.1&&(Nat.beq q.2.1 p.2.1&&q.2.2==p.2.2)
abbrev EC(l:mR):Bool:=l.all λe=>l.all λe'=>!(e.1==e'.1||Nat.beq e.2.1 e'.2.1)||(e.1==e'.1&&(Nat.beq e.2.1 e'.2.1&&e.2.2==e'.2.2))
abbrev ED(c:dQ):Bool:=c.a.all λp=>c.b.lookup p.1==some (if p.2.2 then NameKind.cell else .local)
abbrev uL(s:Scope)(c:dQ)(x:Str)(i:Nat):Bool:=
 let c':=lD c s x i
 (s.kind==.function&&s.names.all λy=>!(y.2==.local)||s.names.lookup y.1==some .local)&&
 ((s.names.all λy=>!(y.2==.cell))&&((s.names.all λy=>!(y.2==.free)||c.a.any λq=>q.1==y.1&&q.2.2)&&
 ((c'.a.all λp=>(p.2.2||Nat.beq p.2.1 i)&&(!p.2.2||(EB p c.a&&(s.names.any λy=>y.1==p.1&&y.2==.free)&&!Nat.beq p.2.1 i)))&&(ED c'&&EC c'.a))))
abbrev EE:Expr->Option (List Expr)
 |.Tuple l _ _=>some l|_=>none
abbrev EF(c:dQ)(t:Expr):Option qQ:=(jr t).elim ((EE t).bind λl=>(j_ c.a l).map .b) λx=>(uK c x).map λp=>.a p.1
abbrev oO(G:jn)(n:Str)(s:String):Bool:=match G.lookup n with |some (.a t)=>t==s |_=>false
abbrev yH(G:jn)(n:Str):Bool:=match G.lookup n with |some .d=>true |_=>false
abbrev oP:List Expr->Option Expr
 |[y]=>some y|_=>none
abbrev EG:List Expr->Option (Expr×Expr)
 |[y,z]=>some (y,z)|_=>none
abbrev yI:Expr->Option (Str×Expr)
 |.Call g l j _=>(jr g).bind λn=>bq (j.isEmpty=true) ((oP l).map λy=>(n,y))
 |_=>none
abbrev uM:List Comprehension->Option (Str×Expr×List Expr)
 |[⟨t,it,f,k⟩]=>bq (k=0) ((jr t).map λx=>(x,it,f))
 |_=>none
abbrev Qg(s:String):Option B1:=if s= "len" then some .a else if s= "any" then some .e else if s= "sorted" then some .c else none
abbrev Qh(s:String):Option B1:=if s= "tuple" then some .b else if s= "dict" then some .d else none
abbrev EH:Expr->Option (Option Expr×Option Expr×Option Expr)
 |.Slice l u st _=>some (l,u,st)|_=>none
section
variable(G:jn)
abbrev oQ(c:dQ)(f:Expr->CE)(x:Expr):mE:=(yI x).elim (.a (f x)) λp=>match oO G p.1 "range" with
 |true=>(match lC c p.1&&cW p.2 with |true=>.b (f p.2) |false=>.a .J)
 |false=>.a (f x)
abbrev yJ(f:Expr->CE):Option Expr->CE
 |none=>.K|some x=>f x
abbrev EI(c:dQ)(f:Expr->CE)(n:Str)(l:List Expr):CE:=gd (lC c n&&l.all cW) (fk (G.lookup n) λg=>match g with
 |.g q=>.j q (l.map f)|.j q=>.L q (l.map f)|.b id=>(oP l).elim (fk (EG l) λp=>gd (id== "isinstance") (fk (jr p.2) λz=>gd (oO G z "str" &&lC c z) (.O (f p.1)))) λy=>fk (Qg id) λb=>.x b (f y)
 |.a t=>fk (oP l) λy=>fk (Qh t) λb=>.x b (f y)
 |_=>.J)
abbrev Qi(m:iH)(l:List Expr):Bool:=match m with
 |.d=>l.isEmpty|.c=>Nat.beq l.length 2|_=>Nat.beq l.length 1
abbrev EJ(f:Expr->CE)(o:Expr)(a:Str)(l:List Expr)(same:Bool):CE:=gd (iR o&&(same&&(l.all cW&&Nat.ble l.length 29))) ((lB lu Qc a).elim (fk (lB (λm=>Str.ofString (MN.name m)) rE a) λm=>.y (f o) m (l.map f))
 λm=>gd (Qi m l) (.w m (f o) (l.map f)))
abbrev cE:Nat->Bool->dQ->Expr->CE
 |0=>λJ J J=>.J
 |m+1=>λrhs c x=>match x with
  |.Constant k _ _=>(match k with
   |.none=>.N|.bool b=>.B b|.int i=>(match i with |.ofNat n=>.g n |_=>.J)
   |.str s=>fk (lB Str.ofString Ey s) .u|_=>.J)
  |.Name x _=>gd (!(x==Str.ofString "__debug__")) (match uK c x with
   |some p=>.d p.1|none=>gd (lC c x) (match G.lookup x with |some (.e i)=>.p i |some (.h l)=>.M (.p l) |_=>.J))
  |.Attribute o a _=>gd (iR o) (fk (lB (λa=>Str.ofString (AN.name a)) j5 a) (.q (cE m false c o)))
  |.Subscript o i _=>(EH i).elim (gd (rh i) (.h (cE m false c o) (cE m false c i))) λp=>gd p.2.2.isNone (.H (cE m false c o) (yJ (cE m false c) p.1) (yJ (cE m false c) p.2.1))
  |.BinOp a op b _=>fk (Ez op) λo=>.A o (cE m false c a) (cE m false c b)
  |.Compare a ops l _=>(match ops with
   |[op]=>(match l with
    |[y]=>((jr y).bind λn=>bq ((yH G n&&(lC c n&&op==.In))=true) (some ())).elim (gd (fW y) (fk (EA op) λo=>.n o (cE m false c a) (cE m false c y))) λJ=>.P (cE m false c a)
    |_=>.J)
   |_=>.J)
  |.UnaryOp op y _=>(match op with
   |.Not=>.G (cE m false c y)|.USub=>fk ((rG y).bind uJ) .I|_=>.J)
  |.BoolOp op l _=>(match op with |.And=>.z (l.map (cE m false c)) |.Or=>.D (l.map (cE m false c)))
  |.IfExp t a b _=>.C (cE m false c t) (cE m false c a) (cE m false c b)|.Tuple l _ _=>gd (l.all cW&&Nat.ble l.length 1000) (.t (l.map (cE m false c)))|.List l _=>gd (l.all cW&&Nat.ble l.length 1000) (.r (Qf rhs l) (l.map (cE m false c)))|.Dict I vs _=>gd (rt I vs&&Nat.ble I.length 15) (.F (m0 (cE m false c) I vs))|.ListComp e gs s pos=>fk (uM gs) λg=>fk (yG.lookup (pos.line,pos.col)) λi=>gd (uL s c g.1 i&&(fW g.2.1&&Nat.ble g.2.2.length 1)) (.E (cE m false (lD c s g.1 i) e) i (oQ G c (cE m false c) g.2.1) (g.2.2.map (cE m false (lD c s g.1 i))))
  |.DictComp k v gs s pos=>fk (uM gs) λg=>gd g.2.2.isEmpty (fk (yG.lookup (pos.line,pos.col)) λi=>gd (uL s c g.1 i&&fW g.2.1) (.Q (cE m false (lD c s g.1 i) k) (cE m false (lD c s g.1 i) v) i (oQ G c (cE m false c) g.2.1)))
  |.Call g l j pos=>(match j with
   |[]=>(match g with
    |.Name n _=>EI G c (cE m false c) n l|.Attribute o a N=>EJ (cE m false c) o a l (N.endLine==pos.line)|_=>.J)
   |_=>.J)
  |_=>.J
abbrev Qj:Expr->Option (Expr×List Comprehension×Scope×Pos)
 |.ListComp e gs s pos=>some (e,gs,s,pos)|_=>none
abbrev js(o:Option α)(f:α->CS):CS:=match o with |some a=>f a |none=>.j
abbrev lE(b:Bool)(e:CS):CS:=match b with |true=>e |false=>.j
abbrev EK(op:Operator):Option fN:=match op with |.Add=>some .a |.Sub=>some .c |_=>none
abbrev iS(f:Stmt->CS):List Stmt->List CS
 |[]=>[]
 |s::r=>match yF.contains s.pos.line with
  |true=>[.j]|false=>f s::iS f r
abbrev cS(m:Nat)(c:dQ):Nat->Stmt->CS
 |0=>λJ=>.j
 |k+1=>λs=>match s with
  |.Pass _=>.x|.Break _=>.y|.Continue _=>.u|.Return v _=>(match v with |none=>.t |some x=>.d (cE G m false c x))
  |.Expr x _=>lE (gL x) (.k (cE G m false c x))|.If t a b _=>.h (cE G m false c t) (iS (cS m c k) a) (iS (cS m c k) b)|.While t a b _=>(match b with |[]=>.q (cE G m false c t) (iS (cS m c k) a) |_=>.j)
  |.For t i a b _=>(match b with |[]=>js (EF c t) λp=>lE (fW i) (.m p (oQ G c (cE G m false c) i) (iS (cS m c k) a)) |_=>.j)
  |.Try a h o f _=>(match h with |[]=>(match o with |[]=>(match f with |st::f=>.v (iS (cS m c k) a) (iS (cS m c k) (st::f)) |[]=>.j) |_=>.j) |_=>.j)
  |.AugAssign t op x _=>js (EK op) λo=>(match t with
   |.Attribute y a _=>js (lB (λa=>Str.ofString (AN.name a)) j5 a) λan=>.s (cE G m false c y) an o (cE G m false c x)
   |.Subscript y i _=>lE (rh i) (.w (cE G m false c y) (cE G m false c i) o (cE G m false c x))|_=>.j)
  |.Assign ts x _=>(match ts with
   |[t]=>(match t with
    |.Name n _=>js (uK c n) λp=>(match gL x with
     |true=>.g p.1 (cE G m true c x)|false=>js (Qj x) λq=>js (uM q.2.1) λg=>js (yG.lookup (q.2.2.2.line,q.2.2.2.col)) λi=>lE (uL q.2.2.1 c g.1 i&&(fW g.2.1&&Nat.ble g.2.2.length 1)) (.g p.1 (.E (cE G m false (lD c q.2.2.1 g.1 i) q.1) i (oQ G c (cE G m false c) g.2.1) (g.2.2.map (cE G m false (lD c q.2.2.1 g.1 i))))))
    |.Tuple l _ _=>lE (gL x&&yC x) (js (j_ c.a l) λis=>.r is (cE G m false c x))
    |.Attribute y a _=>lE (gL x) (js (lB (λa=>Str.ofString (AN.name a)) j5 a) λan=>.l (cE G m false c y) an (cE G m true c x))
    |.Subscript y i _=>lE (gL x) (.n (cE G m false c y) (cE G m false c i) (cE G m false c x))|_=>.j)
   |_=>.j)
  |_=>.j
end
variable{B:Bd}{S:Sc}{f f':Expr->CE}
def fn:aU B S .J x:=⟨λE d ρ K Q p w k=>(show False from w).elim,λE d ρ K Q p w k=>(show False from w).elim⟩
def fo(h:b=true->aU B S e x):aU B S (gd b e) x:=by
 induction b with
 |false=>exact fn|true=>exact h rfl
def fB(h:∀a,o=some a->aU B S (g a) x):aU B S (fk o g) x:=by
 induction o with
 |none=>exact fn|some a=>exact h a rfl
def uN(h:∀a,o=some a->aU B S (g a) x)(Y:aU B S e x):aU B S (o.elim e g) x:=by
 induction o with
 |none=>exact Y|some a=>exact h a rfl
def m5(h:b=true->SX B S e x):SX B S (lE b e) x:=by
 induction b with
 |false=>exact gK|true=>exact h rfl
def kj(h:∀a,o=some a->SX B S (g a) x):SX B S (js o g) x:=by
 induction o with
 |none=>exact gK|some a=>exact h a rfl
def cf{a b:Bool}(h:(a&&b)=true):a=true/\b=true:=bh.mp h
def oR{α:Type}{nm:α->Str}{l:List α}{a:α}(h:lB nm l x=some a):nm a=x:=aH.mp (List.find?_some (p:=λa=>nm a==x) h)
def EL{x:Str}{b:Bool}(h:(!b)=true):b=false:=by induction b <;>first |rfl |exact b7 h
def rH{c:dQ}{x:Str}(h:lC c x=true):c.b.lookup x=some .globalImplicit/\(x==Str.ofString "__debug__")=false:=by
 obtain⟨a,b⟩:=cf h;refine⟨?_,EL (x:=x) b⟩;cases U:c.b.lookup x with
 |none=>rw[U]at a;exact b7 a|some k=>rw[U]at a;induction k <;>first |rfl |exact b7 a
def Qk(e:rG x=some k):∃a p,x=.Constant k a p:=by
 induction x using eK with
 |Constant k' a p=>exact⟨a,p,by rw[<-ay e]⟩|_=>exact bl e
def Ql(e:uJ k=some n):k=.int (.ofNat n):=by
 induction k with
 |int i=>induction i with
  |ofNat m=>rw[<-ay e]|negSucc _=>exact bl e
 |_=>exact bl e
def Qm(e:EE x=some l):∃a p,x=.Tuple l a p:=by
 induction x using eK with
 |Tuple l' a p=>exact⟨a,p,by rw[<-ay e]⟩|_=>exact bl e
def EM(h:oO G n s=true):G.lookup n=some (.a s):=by
 unfold oO at h;cases e:G.lookup n with
 |none=>rw[e]at h;exact b7 h|some g=>
  rw[e]at h
  induction g with
  |a t=>rw[eq_of_beq (show(t==s)=true from h)]|_=>exact b7 h
def Qn(h:yH G n=true):G.lookup n=some .d:=by
 unfold yH at h;cases e:G.lookup n with
 |none=>rw[e]at h;exact b7 h|some g=>
  rw[e]at h
  induction g with
  |d=>rfl|_=>exact b7 h
def yK(e:oP l=some y):l=[y]:=by
 induction l with
 |nil=>exact bl e
 |cons a l=>induction l with
  |nil=>rw[<-ay e]|cons _ _=>exact bl e
def Qo(e:EG l=some p):l=[p.1,p.2]:=by
 induction l with
 |nil=>exact bl e
 |cons a l=>induction l with
  |nil=>exact bl e
  |cons b l=>induction l with
   |nil=>rw[<-ay e]|cons _ _=>exact bl e
def Qp(e:yI x=some p):∃np pos,x=.Call (.Name p.1 np) [p.2] [] pos:=by
 induction x using eK with
 |Call g l j pos=>
  obtain⟨n,u,e⟩:=a9 (x:=jr g) e;obtain⟨U,e⟩:=bN e;obtain⟨y,v,e⟩:=cF e;obtain⟨np,H⟩:=oK u;rw[H,yK v,tx.mp U,<-e];exact⟨np,pos,rfl⟩
 |_=>exact bl e
def yL(e:uM gs=some p):∃np,gs=[⟨.Name p.1 np,p.2.1,p.2.2,0⟩]:=by
 induction gs with
 |nil=>exact bl e|cons g gs=>
  obtain⟨t,it,Y,k⟩:=g
  induction gs with
  |cons _ _=>exact bl e|nil=>
   obtain⟨U,e⟩:=bN (p:=k=0) e;obtain⟨n,u,e⟩:=cF e;obtain⟨np,i⟩:=oK u;rw[i,U,<-e];exact⟨np,rfl⟩
def uO(hf:∀x,aU B S (f x) x)(x:Expr):SI B S (oQ B.G S.c f x) x:=by
 unfold oQ;cases o:yI x with
 |none=>exact yo (hf _).v|some p=>
  show SI B S (match oO B.G p.1 "range" with |true=>(match lC S.c p.1&&cW p.2 with |true=>.b (f p.2) |false=>.a .J) |false=>.a (f x)) x;cases H:oO B.G p.1 "range" with
  |false=>exact yo (hf _).v|true=>
   cases h:lC S.c p.1&&cW p.2 with
   |false=>exact yo fn.v|true=>
    obtain⟨np,pos,e⟩:=Qp o;obtain⟨h1,h2⟩:=cf h;obtain⟨h3,h4⟩:=rH h1;rw[e];exact O3 hf (EM H) h3 h4 h2
def EN(hf:∀x,aU B S (f x) x)(o:Option Expr):PE B S (yJ f o) o:=by
 induction o with
 |none=>exact Oy|some x=>exact(hf x).v
def rI(h:[y].all cW=true):cW y=true:=(cf (a:=cW y) h).1
def Qq(hf:∀x,aU B S (f x) x)(n:Str)(l:List Expr)(np pos:Pos):aU B S (EI B.G S.c f n l) (.Call (.Name n np) l [] pos):=by
 refine fo λh=>fB λg H=>?_;obtain⟨h1,h2⟩:=cf h;obtain⟨h3,h4⟩:=rH h1
 induction g with
 |g q=>exact OA hf H h3 h4 h2|j q=>exact OB hf H h3 h4 h2|b id=>
  refine uN (o:=oP l) (λy v=>fB λb T=>?_) (fB λp J=>fo λhi=>fB λz hz=>fo λh=>?_)
  .rw[yK v]at h2 ⊢
   have T:(if id= "len" then some B1.a else if id= "any" then some .e else if id= "sorted" then some .c else none)=some b:=T;by_cases e1:id= "len"
   .rw[ah e1]at T;rw[<-ay T];rw[e1]at H
    exact rm hf (.inl ⟨_,rfl,H⟩) h3 h4 (rI h2) λR r e k=>NS B.a.e R r e k
   .rw[ab e1]at T
    by_cases w:id= "any"
    .rw[ah w]at T;rw[<-ay T];rw[w]at H
     exact rm hf (.inl ⟨_,rfl,H⟩) h3 h4 (rI h2) λR r e k=>NX B.b.room R r e k
    .rw[ab w]at T
     by_cases Y:id= "sorted"
     .rw[ah Y]at T;rw[<-ay T];rw[Y]at H
      exact rm hf (.inl ⟨_,rfl,H⟩) h3 h4 (rI h2) λR r e k=>B.d B.b.room R r e k
     .rw[ab Y]at T;exact bl T
  .rw[Qo J]at h2 ⊢
   rw[eq_of_beq hi]at H;obtain⟨i,c⟩:=oK hz;rw[c];obtain⟨h5,h6⟩:=cf h;obtain⟨h6,h7⟩:=rH h6;exact OG hf H h3 h4 (EM h5) h6 h7 (cf (a:=cW p.1) h2).1
 |a t=>
  refine fB (o:=oP l) λy v=>fB λb T=>?_;rw[yK v]at h2 ⊢;have T:(if t= "tuple" then some B1.b else if t= "dict" then some .d else none)=some b:=T;by_cases e1:t= "tuple"
  .rw[ah e1]at T;rw[<-ay T];rw[e1]at H
   exact rm hf (.inr ⟨_,rfl,H⟩) h3 h4 (rI h2) λR r e k=>NT R r e k
  .rw[ab e1]at T
   by_cases w:t= "dict"
   .rw[ah w]at T;rw[<-ay T];rw[w]at H
    exact rm hf (.inr ⟨_,rfl,H⟩) h3 h4 (rI h2) λR r e k=>NV B.a.e R r e k
   .rw[ab w]at T;exact bl T
 |_=>exact fn
def Qr(hf:∀x,aU B S (f x) x)(o:Expr)(a:Str)(l:List Expr)(N pos:Pos):aU B S (EJ f o a l (N.endLine==pos.line)) (.Call (.Attribute o a N) l [] pos):=by
 refine fo λh=>?_;obtain⟨h1,h2⟩:=cf h;obtain⟨h3,h4⟩:=cf h2;obtain⟨h5,h6⟩:=cf h4;refine uN (λm hm=>fo λY=>?_) (fB λm hm=>?_)
 .have one:Nat.beq l.length 1=true->∃x,l=[x]:=λh=>Kb.mp (n5 h)
  rw[<-oR hm]
  induction m with
  |a=>obtain⟨x,e⟩:=one Y;rw[e]at h5 ⊢;exact OK hf h1 h3 h5|b=>obtain⟨x,e⟩:=one Y;rw[e]at h5 ⊢;exact OL hf h1 h3 h5|e=>obtain⟨x,e⟩:=one Y;rw[e]at h5 ⊢;exact OP hf h1 h3 h5|d=>rw[tx.mp Y];exact OM hf h1 h3|c=>
   induction l with
   |nil=>exact b7 Y|cons x l=>
    obtain⟨y,e⟩:=Kb.mp (kR (n5 Y));rw[e]at h5 ⊢;exact OO hf h1 h3 h5
 .rw[<-oR hm];exact OE hf h1 h3 h6 h5
def Qs(h:EB p l=true):p∈l:=by
 obtain⟨q,L,h⟩:=qk.mp h;obtain⟨h1,h⟩:=cf h;obtain⟨h2,h3⟩:=cf h;obtain⟨a,b,c⟩:=q;obtain⟨x,y,z⟩:=p;obtain rfl:=aH.mp h1;obtain rfl:=n5 h2;obtain rfl:=aH.mp h3;exact L
def uP(h:(!a||b)=true)(G:a=true):b=true:=by subst G;exact h
def Qt(h:EC l=true):∀e∈l,∀e'∈l,e.1=e'.1\/e.2.1=e'.2.1->e=e':=λe J e' g L=>by
 have h:=el.mp (el.mp h e J) e' g;obtain⟨a,b,c⟩:=e;obtain⟨x,y,z⟩:=e';have h:=uP h (B9.mpr (L.imp (λq=>aH.mpr q) λq=>by rw[show b=y from q];exact Nat.beq_refl y));obtain⟨h1,h⟩:=cf h;obtain⟨h2,h3⟩:=cf h;obtain rfl:=aH.mp h1;obtain rfl:=n5 h2;obtain rfl:=aH.mp h3;rfl
def Qu(h:ED c=true):∀x i b,(x,i,b)∈c.a->c.b.lookup x=some (if b then .cell else .local):=λx i b H=>aH.mp (el.mp h _ H)
def yM(h:uL s c x i=true):lz s c (lD c s x i) x i:=by
 obtain⟨h1,h⟩:=cf h;obtain⟨h3,h⟩:=cf h;obtain⟨h4,h⟩:=cf h;obtain⟨h5,h⟩:=cf h;obtain⟨h6,h7⟩:=cf h;obtain⟨h1,h2⟩:=cf h1;refine⟨aH.mp h1,λy v U=>?_,λy v U=>?_,λy v=>?_,rfl,.head _,λy j b v=>?_,Qu h6,Qt h7⟩
 .exact aH.mp (uP (el.mp h2 y v) (aH.mpr U))
 .have:=el.mp h3 y v
  rw[U]at this;cases this
 .obtain⟨⟨a,j,b⟩,L,h⟩:=qk.mp (uP (el.mp h4 _ v) rfl)
  obtain⟨e1,w⟩:=cf h;obtain rfl:=aH.mp e1;dsimp only at w;subst w;exact⟨j,L⟩
 .obtain⟨e1,w⟩:=cf (el.mp h5 _ v)
  refine⟨λT=>?_,λT=>?_⟩
  .subst T;exact n5 e1
  .subst T
   obtain⟨w,H⟩:=cf (uP w rfl);obtain⟨Q,g⟩:=cf w;obtain⟨⟨a,k⟩,L,h⟩:=qk.mp g;obtain⟨N,Y⟩:=cf h;obtain rfl:=aH.mp N;obtain rfl:=aH.mp Y;exact⟨Qs Q,L,λq=>by rw[show j=i from q]at H;rw[Nat.beq_refl]at H;cases H⟩
def Qv(h:EF c t=some p):oM c p t:=by
 rcases lh (x:=jr t) h with h |h
 .obtain⟨nm,u,h⟩:=h
  obtain⟨q,L,h⟩:=cF h;obtain⟨np,e⟩:=oK u;rw[e,<-h];exact .d (rA L)
 .obtain⟨l,Y,h⟩:=a9 h.2
  obtain⟨is,hi,h⟩:=cF h;obtain⟨a,U,e⟩:=Qm Y;rw[e,<-h];exact .a hi
def Qw{op:Operator}{o:fN}(h:Ez op=some o):xT o=op:=by induction op <;>first |exact bl h |(rw[<-ay h];rfl)
def Qx{op:CmpOp}{o:lg}(h:EA op=some o):q8 o=op:=by induction op <;>first |exact bl h |(rw[<-ay h];rfl)
def EO{op:Operator}{o:fN}(h:EK op=some o):uD o=some op:=by induction op <;>first |exact bl h |(rw[<-ay h];rfl)
def EP(m:Nat):∀(rhs:Bool) (c:dQ) (env:Env) (Q:eZ env c) (x:Expr),aU B ⟨c,env,Q⟩ (cE B.G m rhs c x) x:=by
 induction m with
 |zero=>exact λw w w w w=>fn|succ m ih=>
  intro rhs c env Q x;have hf:=λx=>ih false c env Q x
  induction x using eK with
  |Constant k kd pos=>
   induction k with
   |none=>exact Ob|bool b=>exact Oc|int i=>
    induction i with
    |ofNat n=>exact Od|negSucc n=>exact fn
   |str s=>refine fB λt C=>?_;rw[<-oR C];exact Oe|_=>exact fn
  |Name x pos=>
   refine fo λh=>?_;cases J:uK c x with
   |some p=>exact Oh (rA J) (EL (x:=x) h)|none=>
    refine fo λh=>?_;obtain⟨h3,h4⟩:=rH h;cases H:B.G.lookup x with
    |none=>exact fn|some g=>
     induction g with
     |e i=>exact Oi H h3 h4|h l=>exact Oj H h3 h4|_=>exact fn
  |Attribute o a pos=>refine fo λh=>fB λan G=>?_;rw[<-oR G];exact Ol (hf o).v h|Subscript o i pos=>
   refine uN (o:=EH i) (λp J=>fo λh=>?_) (fo λh=>Om (hf o).v (hf _).v h)
   induction i using eK with
   |Slice l u st q=>
    rw[<-ay J]at h ⊢;obtain rfl:st=none:=XD.mp h;exact Oz (hf o).v (EN hf _) (EN hf _)
   |_=>exact bl J
  |BinOp a op b pos=>refine fB λq L=>?_;rw[<-Qw L];exact On (hf a).v (hf b).v|Compare a ops l pos=>
   induction ops with
   |nil=>exact fn|cons op r=>
    induction r with
    |cons=>exact fn|nil=>
     induction l with
     |nil=>exact fn|cons y r=>
      induction r with
      |cons=>exact fn|nil=>
       refine uN (λu E=>?_) (fo λh=>fB λq L=>?_)
       .obtain⟨n,Y,E⟩:=a9 (x:=jr y) E
        obtain⟨h,_⟩:=bN E;obtain⟨h1,h2⟩:=cf h;obtain⟨h2,h3⟩:=cf h2;obtain⟨h4,h5⟩:=rH h2;obtain⟨np,e⟩:=oK Y;rw[e,eq_of_beq h3];exact Op (hf a).v (Qn h1) h4 h5
       .rw[<-Qx L]
        exact Oo (hf a).v (hf y).v h
  |UnaryOp op y pos=>
   induction op with
   |Not=>exact Oq (hf y)|USub=>
    refine fB (o:=(rG y).bind uJ) λn Y=>?_;obtain⟨k,U,Y⟩:=a9 Y;obtain⟨a,p,e⟩:=Qk U;rw[e,Ql Y];exact Of
   |_=>exact fn
  |BoolOp op l pos=>
   induction op with
   |And=>exact Ot hf l|Or=>exact Ou hf l
  |IfExp t a b pos=>exact Ov (hf t).t (hf a) (hf b)|Tuple l kd pos=>exact fo λh=>Ow hf (cf h).1 (cf h).2|List l pos=>exact fo λh=>Ox hf (cf h).1 (cf h).2|Dict I vs pos=>exact fo λh=>Pl hf (cf h).1 (cf h).2|ListComp e gs s pos=>
   refine fB λg H=>fB λi w=>fo λh=>?_;obtain⟨h1,h2⟩:=cf h;obtain⟨h2,h3⟩:=cf h2;obtain⟨np,e⟩:=yL H;rw[e];exact D6 (λT A x=>ih false _ T A x) (yM h1) (uO hf _) h2 h3
  |DictComp k v gs s pos=>
   refine fB λg H=>fo λz=>fB λi w=>fo λh=>?_;obtain⟨h1,h2⟩:=cf h;obtain⟨np,e⟩:=yL H;rw[e,tx.mp z];exact Pd (λT A x=>ih false _ T A x) (yM h1) (uO hf _) h2
  |Call g l j pos=>
   induction j with
   |cons=>exact fn|nil=>
    induction g using eK with
    |Name n np=>exact Qq hf n l np pos|Attribute o a N=>exact Qr hf o a l N pos|_=>exact fn
  |_=>exact fn
end Mine.Lake.S
namespace Mine.Lake.S
variable{B:Bd}{S:Sc}
def EQ(hf:∀s,SX B S (f s) s)(l:List Stmt):fY B S (iS f l) l:=by
 induction l with
 |nil=>exact PC|cons s r ih=>
  show fY B S (match yF.contains s.pos.line with |true=>[.j] |false=>f s::iS f r) (s::r)
  induction yF.contains s.pos.line using aS with
  |true=>exact PF|false=>exact PD (hf s) ih
def Qy(m k:Nat):∀s,SX B S (cS B.G m S.c k s) s:=by
 have J:=λrhs x=>EP (B:=B) m rhs S.c S.a S.b x
 induction k with
 |zero=>exact λQ=>gK|succ k ih=>
  have N:=EQ ih;intro s
  induction s using PySem.Stmt.casesOn with
  |Pass p=>exact Pm|Break p=>exact Pn|Continue p=>exact Po|Return v p=>
   induction v using aX with
   |none=>exact Pp|some x=>exact Pr (J false x).v
  |Expr x p=>exact m5 λh=>Ps (J false x).v h|If t a b p=>exact PG (J false t).t (N a) (N b)|While t a b p=>
   induction b using bo with
   |nil=>exact PH (J false t).t (N a)|cons=>exact gK
  |For t i a b p=>
   induction b using bo with
   |nil=>exact kj λq L=>m5 λh=>PO (Qv L) (uO (λx=>J false x) i) h (N a)|cons=>exact gK
  |Try a h o f p=>
   induction h using bo with
   |cons=>exact gK|nil=>
    induction o using bo with
    |cons=>exact gK|nil=>
     induction f using bo with
     |nil=>exact gK|cons st f=>exact PV (N a) (N (st::f))
  |AugAssign t op x p=>
   refine kj λo ho=>?_
   induction t using eK with
   |Attribute y a c=>
    refine kj λan G=>?_;rw[<-oR G];exact Pz (EO ho) (J false _).v (J false x).v
   |Subscript y i c=>exact m5 λh=>PB (EO ho) (J false _).v (J false _).v (J false x).v h|_=>exact gK
  |Assign ts x p=>
   induction ts using bo with
   |nil=>exact gK|cons t r=>
    induction r using bo with
    |cons=>exact gK|nil=>
     induction t using eK with
     |Name n np=>
      refine kj λq L=>?_;generalize h:gL x=E
      induction E using aS with
      |true=>exact Pw (rA L) (J true x).v h|false=>
       refine kj λr C=>kj λg H=>kj λi Q=>m5 λh=>?_;obtain⟨h1,h2⟩:=cf h;obtain⟨h2,h3⟩:=cf h2;obtain⟨np,e⟩:=yL H
       induction x using eK with
       |ListComp e' gs s pos=>
        obtain rfl:=ay C;obtain rfl:gs=_:=e;exact PY (rA L) (λT A x=>EP m false _ T A x) (yM h1) (uO (λx=>J false x) _) h2 h3
       |_=>exact bl C
     |Tuple l kd c=>refine m5 λh=>kj λis hi=>?_;exact PX hi (J false x).v (cf h).1 (cf h).2|Attribute y a c=>
      refine m5 λh=>kj λan G=>?_;rw[<-oR G];exact Px (J false y).v (J true x).v h
     |Subscript y i c=>exact m5 λh=>Py (J false y).v (J false i).v (J false x).v h|_=>exact gK
  |_=>exact gK
def Qz(m k:Nat)(l:List Stmt):fY B S (iS (cS B.G m S.c k) l) l:=EQ (Qy m k) l
end Mine.Lake.S
end
set_option backward.match.sparseCases true
namespace Mine.Lake
structure Z where
 i:Int
 j:List V
 e:Int
 a:List (List V)
 d:List V
 f:List V
 g:List V
 b:Int
abbrev iT(rows:List (List V)):List (List V×V):=rows.zipIdx.map λp=>(p.1,.j p.2)
abbrev aa(l:List Nat):List V:=l.map λ(i:Nat)=>V.j (i:Int)
abbrev fZ:List (Nat×List Nat):=[(20,[20,18,7]),(16,[16,6]),(18,[18,7]),(6,[6]),(21,[21,18,7]),(4,[4,3]),(9,[9]),(8,[8]),(7,[7]),(5,[5]),
 (22,[22,16,6]),(26,[16,6]),(23,[23]),(3,[3]),(17,[17,6]),(19,[19,7]),(25,[25]),(10,[10]),(11,[11])]
abbrev st(z:Z)(L:List O):St:=
 .d::.a [.j z.i,.r z.j]::
 .e 0 [(18,.o 3),(7,.o 4),(1,.r [.z]),(0,.o 5),(3,.o 6),(11,.o 7),(12,.o 8),(15,.o 9),(19,.j 0),(14,.j 0)]::
 .a (z.a.map .p)::.g (iT z.a)::.a z.d::.a z.f::.a z.g::.b::.b::
 .e 2 [(21,.o 2),(2,.j z.b),(10,.j 200),(9,.j 40)]::.d::
 .h [("tab",.o 2),("store",.r (fZ.map λp=>.p [.j p.1,.r (aa p.2)])),("t",.j 27),("q",.j 28),("where",.j z.e),("holders",.o 13)]::
 .f (fZ.map λp=>((p.1:Int),V.r (aa p.2)))::L
def az(e:oo (bv f) args=some ρ)(h:aM (ai n) (bv f).c ρ (dC Q) σ):ar (ai (n+1) f args σ) Q:=
 N_ (by show rf Lk _ _ _ _ _;unfold rf;rw[e];exact h)
def bT(h:b=true)(x:X):fh b X Y:=by rw[h];exact x
def bF(h:b=false)(y:Y):fh b X Y:=by rw[h];exact y
def bB(h:b=true->X)(k:b=false->Y):fh b X Y:=by cases b;exact k rfl;exact h rfl
def tW(h:iM σ v=some b)(q:Q b):eu σ v Q:=by unfold eu;rw[h];exact q
section
variable{z:Z}{L:List O}{σ aw:St}{α β:Type}{i:Nat}{o:O}
def yN{t:Nat}(Y:t < 4611686018427387904):fP t=true:=by
 exact Nat.ble_eq.mpr (wW Y)
def QA(h:t < n)(Y:n < 4194304):tX n t=some t:=by
 exact dY (yN (by lia)) ((ah (wU t)).trans (ds h))
def gp{x:V}{t:Nat}(N:bt σ x=some (b,l))(Y:l.length < 4194304)(h:l[t]?=some v):dj x (.j t) σ=some (v,σ):=by
 have h2:t < l.length:=(bW.mp h).1;exact K1 N (bg rfl (bg (QA h2 Y) (dZ h)))
def iU(h:σ[i]?=some (.a l)):bt σ (.o i)=some (true,l):=bg h rfl
def uQ(h:σ[i]?=some o)(n:fe o=none):bt σ (.o i)=none:=by
 show(σ[i]?).bind _=_;rw[h];show(fe o).map _=_;rw[n];rfl
def yO(h:σ[i]?=some d)(Y:iJ d k=some r):cm .c (.o i) [k,x] σ=some (r.getD x,σ):=bg rfl (bg h (bg rfl (dZ Y)))
def yP(h:σ[i]?=some o)(ok:qX m o=true):gH m (.o i) σ=some ((),σ):=bg h (ds ok)
def rJ(N:bt σ v=some (b,l))(Y:l.length < 4194304):b1 .a v σ=some (.j l.length,σ):=by
 show(bt σ v).elim _ _=_;rw[N];exact ds Y
def yQ(N:bt σ v=some (true,l))(Y:l.length < 4194304):b1 .b v σ=some (.p l,σ):=by
 show(bt σ v).bind _=_;rw[N];exact ds ⟨rfl,Y⟩
def ER(N:bt σ v=none)(ho:eX σ v=some d)(Y:gj d=some es)(U:es.length < 4194304):b1 .a v σ=some (.j es.length,σ):=by
 show(bt σ v).elim _ _=_;rw[N,ho];exact bg Y (ds U)
def ES(h:σ[i]?=some (.a l))(Y:l.length < 4194304):cm .a (.o i) [x] σ=some (.z,σ.set i (.a (l++[x]))):=bg rfl (bg h (bg rfl (bg rfl (ds Y))))
def uR(N:bt σ c=none)(ho:eX σ c=some d)(Y:iJ d x=some r):de .b x c σ=some (.w r.isSome,σ):=by
 have:g_ σ x c=some r.isSome:=by unfold g_;rw[N,ho];exact dZ Y
 exact dZ this
def ET(H:mG x=none)(N:bt σ c=none)(ho:eX σ c=some d)(Y:iJ d x=some r):de .d x c σ=some (.w (!r.isSome),σ):=by
 have:g_ σ x c=some r.isSome:=by unfold g_;rw[N,ho];exact dZ Y
 exact dZ (show bq ((mG x).isNone=true) ((g_ σ x c).map not)=some (!r.isSome)by rw[H];exact dY rfl (dZ this))
def rK(N:bt σ c=none)(ho:eX σ c=some d)(Y:iJ d x=some (some v)):dj c x σ=some (v,σ):=by
 unfold dj;rw[N,ho];exact bg Y rfl
def cp{t:Nat}(Y:z.a.length < 4194304)(h:z.a[t]?=some r):dj (.o 3) (.j t) (st z L)=some (.p r,st z L):=
 gp (b:=true) (l:=z.a.map .p) rfl (by rw[bX];exact Y) (by rw[n4,h];rfl)
def EU(G:bt σ a=some (true,l))(T:bt σ b=some (true,m))(h:l.length+m.length < 4194304):iL .a a b σ=some (.r (l++m),σ):=by
 have:CK a b σ=some (.r (l++m),σ):=bg G (bg T (ds ⟨rfl,h⟩));exact xz (by induction a using Mine.Lake.V.casesOn <;>first |rfl |exact bl G) this
def XT:(st z L)[i+14]?=L[i]?:=rfl
def aC(h:L[i]?=some o)(p:L <+:L'):L'[i]?=some o:=by
 obtain⟨J,rfl⟩:=p;rw[n8 (bW.mp h).1];exact h
def bp:L <+:L++[o]:=⟨[o],rfl⟩
def bk:(L++[o])[L.length]?=some o:=by simp
def bE(p:L <+:L')(hi:L.length<=i):L <+:L'.set i o:=by
 obtain⟨J,rfl⟩:=p;rw[List.set_append_right _ _ hi];exact⟨_,rfl⟩
def aT(h:L[i]?=some o):(L.set i o')[i]?=some o':=by
 rw[qh (bW.mp h).1]
def bz(h:L[j]?=some o)(v:i≠j):(L.set i o')[j]?=some o:=by
 rw[qi v];exact h
def yR(h:L[i]?=some (.a l)):bt (st z L) (.o (i+14))=some (true,l):=iU (σ:=st z L) (i:=i+14) h
def oT(h:L[i]?=some o)(n:fe o=none):bt (st z L) (.o (i+14))=none:=uQ (σ:=st z L) (i:=i+14) h n
def XU:(st z L).set (i+14) o'=st z (L.set i o'):=rfl
def bY(q:Q (.o (L.length+14)) (st z (L++[o]))):bm (gk o (st z L)) Q:=aP rfl q
def lF(h:L[i]?=some o):eX (st z L) (.o (i+14))=some o:=h
def ec(h:L[i]?=some (.a l))(Y:l.length < 4194304)(q:Q .z (st z (L.set i (.a (l++[x]))))):bm (cm .a (.o (i+14)) [x] (st z L)) Q:=by
 exact aP (ES (σ:=st z L) h Y) q
def f0(h:L[i]?=some (.a l))(q:Q (.r l) (st z (L.set i .d))):bm (hD (.o (i+14)) (st z L)) Q:=by
 have h':mK (st z L) (.o (i+14))=some (i+14,l):=bg rfl (bg h rfl);refine aP (show some ((mK (st z L) (.o (i+14))).elim _ _)=_ from ?_) q;rw[h'];rfl
def gJ(h:L[i]?=some o):L.set i o=L:=by
 obtain⟨h1,h2⟩:=bW.mp h;rw[<-h2];exact List.set_getElem_self h1
def m6(h:L[i]?=some d)(Y:mI d k x=some d')(u:t7 d=true)(q:Q () (st z (L.set i d'))):bm (li (.o (i+14)) k x (st z L)) Q:=by
 exact aP (bg rfl (bg h (xz (by induction d <;>first |rfl |exact b7 u) (dZ Y)))) q
end
section
variable{z:Z}{L:List O}{n t:Nat}{k:Int}{r:List V}{Q:V->St->Prop}
def uS(hz:z.a.length < 4194304)(h:z.a[t]?=some (.j k::r))(q:Q (.j k) (st z L)):ar (ai (n+1) 0 [.o 2,.j t] (st z L)) Q:=by
 refine az (ρ:=[some (.o 2),some (.j t)]) rfl ?_;refine ag (cp hz h) ?_;exact q
def QB(q:Q (.p []) (st z L)):ar (ai (n+1) 2 [.o 2,.j 2] (st z L)) Q:=by
 refine az (ρ:=[some (.o 2),some (.j 2),none]) rfl ?_;exact q
def vT(h:a=b):cb (.j a) (.j b)=true:=by show(a==b)=true;exact aH.mpr h
def vF(h:a≠b):cb (.j a) (.j b)=false:=by show(a==b)=false;exact cD.mpr h
def QC{l:List V}(hz:z.a.length < 4194304)(i:t≠2)(h:z.a[t]?=some (.j 6::.p l::r))(q:Q (.p l) (st z L)):ar (ai (n+1) 2 [.o 2,.j t] (st z L)) Q:=by
 refine az (ρ:=[some (.o 2),some (.j t),none]) rfl ?_;refine bF (vF ("~KRpq2bT26d7E" i)) ?_;refine ag (cp hz h) ?_;exact q
def QD{k:Int}(hz:z.a.length < 4194304)(i:t≠2)(U:k≠6)(h:z.a[t]?=some (.j k::r))(q:Q (.p [.j t]) (st z L)):ar (ai (n+1) 2 [.o 2,.j t] (st z L)) Q:=by
 refine az (ρ:=[some (.o 2),some (.j t),none]) rfl ?_;refine bF (vF ("~KRpq2bT26d7E" i)) ?_;refine ag (cp hz h) ?_;refine bF (vF U) ?_;exact q
end
abbrev gq(x:Nat):List Nat->List Nat
 |[]=>[x]|y::c=>if x<=y then x::y::c else y::gq x c
def uT:gq x (y::l)=if x<=y then x::y::l else y::gq x l:=rfl
abbrev bw:List Nat->List Nat
 |[]=>[]|x::xs=>gq x (bw xs)
theorem uU:∀{l:List Nat},y∈gq x l↔y=x\/y∈l
 |[]=>by simp[gq]
 |z::l=>by
  rw[uT];split
  .simp
  .simp only[bH,uU (l:=l)]
   exact⟨λh=>h.elim (λe=>.inr (.inl e)) (λh=>h.elim .inl λh=>.inr (.inr h)),λh=>h.elim (λe=>.inr (.inl e)) (λh=>h.elim .inl λh=>.inr (.inr h))⟩
theorem m7:∀{l:List Nat},y∈bw l↔y∈l
 |[]=>Iff.rfl|x::l=>uU.trans (by rw[m7];exact bH.symm)
theorem EV:∀{l:List Nat},(gq x l).length=l.length+1
 |[]=>rfl|y::l=>by rw[uT];split <;>simp[EV]
theorem oU:∀{l:List Nat},(bw l).length=l.length
 |[]=>rfl|x::l=>EV.trans (aE (·+1) oU)
theorem EW:∀{l:List Nat},l.Pairwise (·<=·)->(gq x l).Pairwise (·<=·)
 |[],_=>by simp[gq]
 |y::l,h=>by
  have h2:=kV.mp h;rw[uT];split
  .rename_i H
   refine kV.mpr ⟨λa ha=>?_,h⟩;rcases bH.mp ha with e |ha
   .subst e;exact H
   .exact aL H (h2.1 a ha)
  .rename_i H
   refine kV.mpr ⟨λa ha=>?_,EW h2.2⟩;rcases uU.mp ha with e |ha
   .subst e;exact "~2Gy6<tG8" H
   .exact h2.1 a ha
theorem uV:∀{l:List Nat},(bw l).Pairwise (·<=·)
 |[]=>List.Pairwise.nil|x::l=>EW uV
theorem EX:∀{l:List Nat},x∉l->l.Nodup->(gq x l).Nodup
 |[],_,_=>by simp[gq]
 |y::l,h,u=>by
  have h2:=fL.mp u;rw[uT];split
  .exact fL.mpr ⟨h,u⟩
  .refine fL.mpr ⟨λq=>?_,EX (λq=>h (b6 _ q)) h2.2⟩
   rcases uU.mp q with e |q
   .exact h (by rw[e];exact br)
   .exact h2.1 q
theorem yS:∀{l:List Nat},l.Nodup->(bw l).Nodup
 |[],_=>by simp[bw]
 |x::l,h=>by
  have h2:=fL.mp h;exact EX (λq=>h2.1 (m7.mp q)) (yS h2.2)
theorem m8:∀{l m:List Nat},l.Pairwise (·<=·)->m.Pairwise (·<=·)->l.Nodup->m.Nodup->(∀x,x∈l↔x∈m)->l=m
 |[],[],_,_,_,_,_=>rfl|[],y::m,_,_,_,_,h=>absurd ((h y).mpr br) (by simp)
 |x::l,[],_,_,_,_,h=>absurd ((h x).mp br) (by simp)
 |x::l,y::m,pl,i,c,nm,h=>by
  have a:=kV.mp pl;have f:=kV.mp i;have g:=fL.mp c;have j:=fL.mp nm;have e:x=y:=by
   have h1:y<=x:=by
    rcases bH.mp ((h x).mp br)with e |e
    .exact gV e.symm
    .exact f.1 x e
   have h2:x<=y:=by
    rcases bH.mp ((h y).mpr br)with e |e
    .exact gV e.symm
    .exact a.1 y e
   exact "~1_2zK4hvrjk6" h2 h1
  subst e;rw[m8 a.2 f.2 g.2 j.2 λz=>⟨λhz=>by
   rcases bH.mp ((h z).mp (b6 _ hz))with e |e
   .subst e;exact absurd hz g.1
   .exact e,λhz=>by
   rcases bH.mp ((h z).mpr (b6 _ hz))with e |e
   .subst e;exact absurd hz j.1
   .exact e⟩]
abbrev dd:List Nat->List Nat->List Nat
 |acc,[]=>acc|acc,x::r=>if x∈acc then dd acc r else dd (acc++[x]) r
def oV:dd acc (x::l)=if x∈acc then dd acc l else dd (acc++[x]) l:=rfl
def fp:∀{acc:List Nat},y∈dd acc l↔y∈acc\/y∈l:=by
 induction l with
 |nil=>
  intro acc;simp[dd]
 |cons x l ih=>
  intro acc;rw[oV];split
  .rename_i h;rw[ih,bH]
   exact⟨λq=>q.imp id .inr,λq=>q.elim .inl λq=>q.elim (λe=>.inl (e▸h)) .inr⟩
  .rw[ih,aZ,aB,bH,or_assoc]
def m9:∀{acc:List Nat},acc.Nodup->(dd acc l).Nodup:=by
 induction l with
 |nil=>
  intro acc h;exact h
 |cons x l ih=>
  intro acc h;rw[oV];split
  .exact ih h
  .rename_i H
   refine ih (BZ.mpr ⟨h,by simp,λa G b T e=>?_⟩);rw[aB]at T;subst T;subst e;exact H G
abbrev wh(t:Nat):Nat:=if t∈[16,17,22,26]then 6 else if t∈[18,19,20,21]then 7 else 2
abbrev aY(S:List Nat)(t:Nat):Bool:=(wh t !=2&&S.contains (wh t))||(t==26&&S.contains 16)
abbrev sd(S:List Nat):List Nat:=bw (dd [] S)
abbrev ae(S:List Nat):List Nat:=if 0∈S then[0]else if 13∈S then[13]else if 1∈S then[1]else(sd S).filter λt=>!aY S t
def iV:y∈sd S↔y∈S:=by unfold sd;rw[m7,fp];simp
def kl:(sd S).Nodup:=yS (m9 iE)
def km:(sd S).Pairwise (·<=·):=uV
def QE(h:∀x,x∈S↔x∈S'):sd S=sd S':=m8 km km kl kl λx=>by rw[iV,iV];exact h x
def EY(h:∀x,x∈S↔x∈S')(t:Nat):aY S t=aY S' t:=by
 have c:∀x,S.contains x=S'.contains x:=λx=>by
  have:=h x;by_cases q:x∈S
  .rw[bj.mpr q,bj.mpr (this.mp q)]
  .have B:x∉S':=λe=>q (this.mpr e)
   rw[eo.mpr λe=>q (bj.mp e),eo.mpr λe=>B (bj.mp e)]
 unfold aY;rw[c,c]
def rL(h:∀x,x∈S↔x∈S'):ae S=ae S':=by
 unfold ae;simp only[h 0,h 13,h 1];rw[QE h];have:(λt=>!aY S t)=λt=>!aY S' t:=funext λt=>by rw[EY h]
 rw[this]
def kn:(ae S).Nodup:=by
 unfold ae;repeat' split
 all_goals first |exact kl.filter _ |exact fL.mpr ⟨dW,iE⟩
def EZ:∀{acc:List Nat},(dd acc l).length<=acc.length+l.length:=by
 induction l with
 |nil=>
  intro acc;exact av _
 |cons x l ih=>
  intro acc;rw[oV];split
  .exact aL ih (by simp only[bI];exact "~VEUM_uZbt8" id)
  .exact aL ih (by simp only[bI,ca,dK];exact "~KJUDDyzN<NOG86" id)
def m_(h:1<=S.length):(ae S).length<=S.length:=by
 unfold ae;repeat' split
 all_goals first |exact h |skip
 refine aL (jQ _ _) ?_;unfold sd;rw[oU];exact aL EZ (by simp)
def cu(h:x∈ae S):x∈S:=by
 unfold ae at h;repeat' split at h
 all_goals first |(rw[aB]at h;subst h;assumption) |exact iV.mp (c8.mp h).1
abbrev db:List (List V):=[[.j 1,.u "any"],[.j 1,.u "unknown"],[.j 1,.u "never"],[.j 1,.u "void"],[.j 1,.u "undefined"],[.j 1,.u "null"],[.j 1,.u "string"],[.j 1,.u "number"],
 [.j 2,.j 0,.j 0],[.j 2,.j 1,.j 0],[.j 1,.u "object"],[.j 8,.p [],.p [],.p [],.p [],.p [],.j 0],[.j 6,.p [.j 8,.j 9]],[.j 1,.u "error"],[.j 2,.j 0,.j 1],[.j 2,.j 1,.j 1],
 [.j 3,.u "a",.j 0],[.j 3,.u "b",.j 0],[.j 4,.j 0,.j 0],[.j 4,.j 1,.j 0],[.j 5,.j 1,.u "A",.j 0,.j 0],[.j 5,.j 2,.u "A",.j 0,.j 0],[.j 5,.j 1,.u "B",.u "a",.j 0],
 [.j 8,.p [.p [.u "p",.j 6,.j 0,.j 0]],.p [],.p [],.p [],.p [],.j 0],[.j 10,.j 0],[.j 8,.p [.p [.u "p",.j 24,.j 0,.j 0]],.p [],.p [],.p [],.p [],.j 0],[.j 3,.u "a",.j 1],[.j 10,.j 1],[.j 10,.j 2]]
abbrev du(l:List Nat):List V:=[.j 6,.p (aa l)]
abbrev aV(c a x y d:Nat):List V:=[.j 16,.j c,.j a,.j x,.j y,.p [],.j d]
abbrev dS(k:Nat):List V:=[.j 8,.p [.p [.u "p",.j k,.j 0,.j 0]],.p [],.p [],.p [],.p [],.j 0]
abbrev eN(k:Nat):List V:=[.j 10,.j k]
inductive dw:Nat->Bool->List V->Prop
 |j s:dw 2 false [.j 1,.u s]
 |v (b:Int):dw 2 false [.j 2,.j b,.j 0]
 |m s:dw 6 false [.j 3,.u s,.j 0]
 |l:dw 6 true [.j 3,.u "a",.j 1]
 |n (i:Int):dw 7 false [.j 4,.j i,.j 0]
 |q (e:Int) nm (i:Int):dw 7 false [.j 5,.j e,.u nm,.j i,.j 0]
 |o (e:Int) nm s:dw 6 false [.j 5,.j e,.u nm,.u s,.j 0]
 |t:dw 2 false [.j 8,.p [],.p [],.p [],.p [],.p [],.j 0]
 |f k:dw 2 false (dS k)
 |g k:dw 2 false (eN k)
 |u c a x y d:dw 2 false (aV c a x y d)
inductive gt:List V->Prop
 |e l:gt (du l)
 |g k:gt (dS k)
 |f k:gt (eN k)
 |b c a x y d:gt (aV c a x y d)
abbrev uW:List Nat:=[0,1,3,4,5,6,7,8,9,10,11,13,16,17,18,19,20,21,22,23,24,25,26,27,28]
structure am(z:Z):Prop where
 a:z.a.Nodup
 f:db <+:z.a
 d:∀t r,29<=t->z.a[t]?=some r->gt r
 e:∃m,z.d=.j 6::List.replicate (m+2) (.j (-1))
 c:z.g[0]?=some (.u "R")
 b:z.f.length=z.d.length/\z.g.length=z.d.length
abbrev Z.sz(z:Z):Nat:=z.a.length+z.d.length
structure Gr(c:Nat)(z z':Z):Prop where
 e:am z'
 d:z.a <+:z'.a
 f:z'.sz<=z.sz+c
 m:z.d.length<=z'.d.length
 j:z'.i=z.i
 k:z'.j=z.j
 l:z'.e=z.e
 i:z'.b=z.b
def Gr.refl(I:am z):Gr 0 z z:=⟨I,aA _,av _,av _,rfl,rfl,rfl,rfl⟩
def Gr.trans(a:Gr c z z')(b:Gr c' z' dE):Gr (c+c') z dE:=
 ⟨b.e,a.d.trans b.d,by have v1:=a.f;have v2:=b.f;exact "~4tFPMUcndaBsQ=x" v2 v1,aL a.m b.m,b.j.trans a.j,b.k.trans a.k,b.l.trans a.l,b.i.trans a.i⟩
def Gr.mono(a:Gr c z z')(h:c<=c'):Gr c' z z':=⟨a.e,a.d,by have:=a.f;exact "~KUoYMPRbpsUq" this h,a.m,a.j,a.k,a.l,a.i⟩
def cI{i:Nat}(p:l <+:l')(h:l[i]?=some a):l'[i]?=some a:=by
 obtain⟨J,rfl⟩:=p;rw[n8 (bW.mp h).1];exact h
def am.at(I:am z){t:Nat}(h:db[t]?=some r):z.a[t]?=some r:=cI I.f h
def uX{l:List α}(u:l.Nodup){j:Nat}(hi:l[i]?=some a)(G:l[j]?=some a):i=j:=by
 obtain⟨h1,e1⟩:=bW.mp hi;obtain⟨h2,w⟩:=bW.mp G;exact(List.getElem_inj u).mp (e1.trans w.symm)
abbrev iW:Nat->List (List V)->List (List V×V)
 |_,[]=>[]|k,r::rs=>(r,.j k)::iW (k+1) rs
theorem E0:∀(k:Nat) (rs:List (List V)),(rs.zipIdx k).map (λp=>(p.1,V.j (p.2:Nat)))=iW k rs
 |_,[]=>rfl|k,r::rs=>by rw[List.zipIdx_cons,eS,E0];rfl
def nc(rs:List (List V)):iT rs=iW 0 rs:=E0 0 rs
theorem E5:∀(k:Nat) (rs:List (List V)),(iW k rs).length=rs.length
 |_,[]=>rfl|k,r::rs=>aE (·+1) (E5 (k+1) rs)
theorem E6:∀{k:Nat} {rs:List (List V)} {r:List V},r∉rs->cU r (iW k rs)=none
 |_,[],_,_=>rfl|k,a::rs,r,h=>(ab λe=>h (by rw[e];exact br)).trans (E6 λq=>h (b6 _ q))
theorem rM:∀{k t:Nat} {rs:List (List V)} {r:List V},rs.Nodup->rs[t]?=some r->cU r (iW k rs)=some (.j ((k+t:Nat):Int))
 |_,_,[],_,_,h=>by simp at h
 |k,0,a::rs,r,_,h=>by
  have:a=r:=by simpa using h
  subst this;exact ah rfl
 |k,t+1,a::rs,r,u,h=>by
  have i:=fL.mp u;have h:rs[t]?=some r:=by simpa using h
  refine(ab λe=>i.1 (by rw[e];exact kU h)).trans ?_;rw[rM i.2 h]
  congr 2;exact "~GXLU?QZQ7u0b9w" id
theorem E7:∀{k:Nat} {rs:List (List V)} {r:List V},r∉rs->bn r (.j ((k+rs.length:Nat):Int)) (iW k rs)=iW k (rs++[r])
 |_,[],_,_=>rfl|k,a::rs,r,h=>by
  show bn r _ ((a,V.j k)::iW (k+1) rs)=(a,V.j k)::iW (k+1) (rs++[r]);refine(ab λe=>h (by rw[e];exact br)).trans ?_;have:=E7 (k:=k+1) (rs:=rs) (r:=r) λq=>h (b6 _ q);rw[show k+1+rs.length=k+(a::rs).length by simp;exact "~5uQGe4D1__e9=" id]at this;rw[this]
section
variable{z:Z}{L:List O}{n t:Nat}{Q:V->St->Prop}
def Z.bZ(h:z.sz+c < 4194304):z.a.length < 4194304:=by unfold Z.sz at h;exact "~7HcgsDv?NJ3" h
def XV:V.keys (aV c a x y d)=true:=rfl
theorem E8:∀(l:List Nat) (d:Nat),V.jS (aa l) d=true
 |[],_=>rfl|x::l,d=>by show(V.key (V.j x) d&&V.jS (aa l) d)=true;rw[E8 l d];rfl
def yT:V.keys (du l)=true:=by
 show(true&&(V.jS (aa l) 5&&true))=true;rw[E8];rfl
def gt.keys(h:gt r):V.keys r=true:=by induction h <;>first |exact yT |rfl
def ko(I:am z)(U:V.keys r=true)(hz:z.a.length < 4194304)(i:z.a[t]?=some r)(q:Q (.j t) (st z L)):ar (ai (n+1) 76 [.o 2,.p r] (st z L)) Q:=by
 refine az (ρ:=[some (.o 2),some (.p r),none]) rfl ?_;have T:cU r (iT z.a)=some (.j t):=by rw[nc,rM I.a i,qg]
 have Y:iJ (.g (iT z.a)) (.p r)=some (some (.j t)):=dY U (aE some T);have o:de .b (.p r) (.o 4) (st z L)=some (.w true,st z L):=uR rfl rfl Y;refine ag o ?_;have H:dj (.o 4) (.p r) (st z L)=some (.j t,st z L):=rK rfl rfl Y;refine ag H ?_;exact q
def jt(I:am z)(J:V.keys r=true)(C:gt r\/r∈z.a)(room:z.sz+1 < 4194304)
  (q:∀z' (t:Nat),Gr 1 z z'->z'.a[t]?=some r->Q (.j t) (st z' L)):ar (ai (n+1) 76 [.o 2,.p r] (st z L)) Q:=by
 have hz:=Z.bZ room;by_cases hm:r∈z.a
 .obtain⟨t,i⟩:=qs.mp hm
  exact ko I J hz i (q z t ((Gr.refl I).mono (bb _)) i)
 .refine az (ρ:=[some (.o 2),some (.p r),none]) rfl ?_
  have Y:cU r (iT z.a)=none:=by rw[nc,E6 hm]
  have o:de .b (.p r) (.o 4) (st z L)=some (.w false,st z L):=uR (r:=none) rfl rfl (dY J (aE some Y));refine ag o ?_;have y:b1 .a (.o 3) (st z L)=some (.j z.a.length,st z L):=by
   have:=rJ (σ:=st z L) (v:=.o 3) (l:=z.a.map .p) rfl (by rw[bX];exact hz);rw[bX]at this;exact this
  refine aP y ?_;have f:cm .a (.o 3) [.p r] (st z L)=some (.z,st {z with a:=z.a++[r]} L |>.set 4 (.g (iT z.a))):=by
   refine(ES (l:=z.a.map .p) rfl (by rw[bX];exact hz)).trans ?_;show some (V.z,_)=some (V.z,_)
   congr 2
   unfold st;simp only[List.set_cons_succ,List.set_cons_zero,kP,eS,qt]
  refine aP f ?_;have N:li (.o 4) (.p r) (.j z.a.length) ((st {z with a:=z.a++[r]} L).set 4 (.g (iT z.a)))=some ((),st {z with a:=z.a++[r]} L):=by
   have H:mI (.g (iT z.a)) (.p r) (.j z.a.length)=some (.g (iT (z.a++[r]))):=by
    refine dY J (bg rfl (dY (by rw[nc,E5];exact hz) ?_));have:=E7 (k:=0) hm;rw[qg]at this;rw[nc,nc,this]
   refine(bg rfl (bg rfl (xz rfl (dZ H)))).trans ?_;show some ((),_)=some ((),_)
   congr 2
  refine aP N ?_;have c:(z.a++[r])[z.a.length]?=some r:=by simp
  refine q {z with a:=z.a++[r]} z.a.length ⟨⟨BZ.mpr ⟨I.a,by simp,λa G b T e=>?_⟩,I.f.trans ⟨[r],rfl⟩,λt r' i h=>?_,I.e,I.c,I.b⟩,⟨[r],rfl⟩,?_,av _,rfl,rfl,rfl,rfl⟩ c
  .rw[aB]at T;subst T;subst e;exact hm G
  .by_cases U:t < z.a.length
   .exact I.d t r' i (by rw[<-h];exact(n8 U).symm)
   .have h':(z.a++[r])[t]?=some r':=h
    rw[J_ (tF.mp U),List.getElem?_singleton]at h'
    split at h' <;>cases h'
    exact C.resolve_right hm
  .unfold Z.sz;simp only[ca,bI,dK];exact "~KJUEo6hmljOPWV" id
end
abbrev b4(z:Z)(t:Nat):Prop:=t≠2/\∃r,z.a[t]?=some r/\dw (wh t) (t==26) r
def b4.gr(h:b4 z t)(p:z.a <+:z'.a):b4 z' t:=let ⟨a,r,b,c⟩:=h;⟨a,r,cI p b,c⟩
def b4.lt(h:b4 z t):t < z.a.length:=let ⟨_,_,b,_⟩:=h;(bW.mp b).1
def dw.head(h:dw w b r):∃k rest,r=.j k::rest/\k≠6:=by induction h <;>exact⟨_,_,rfl,by decide⟩
def nd(I:am z)(h:t∈uW):b4 z t:=by
 have k:∀t∈uW,t≠2/\∃r,db[t]?=some r/\dw (wh t) (t==26) r:=by
  unfold uW;simp only[iF,dW,mw,mx,my];refine⟨?_,?_,?_,?_,?_,?_,?_,?_,?_,?_,?_,?_,?_,?_,?_,?_,?_,?_,?_,?_,?_,?_,?_,?_,?_⟩ <;>refine⟨by decide,_,rfl,?_⟩
  all_goals first |exact .j _ |exact .v _ |exact .m _ |exact .n _ |exact .q _ _ _ |exact .o _ _ _ |exact .t |exact .f 6 |exact .f 24 |exact .g _ |exact .l |exact .par 0 |exact .par 1 |exact .par 2
 obtain⟨a,r,b,c⟩:=k t h;exact⟨a,r,I.at b,c⟩
def E9(I:am z)(h:29<=t)(e:z.a[t]?=some r)(C:∀l,r≠du l):b4 z t:=by
 have A:wh t=2:=by
  unfold wh;rw[ab (by simp;exact "~fE25Ym=XVXF0z?LyANcY1QMHjQUe=rtm>qNp" h),ab (by simp;exact "~fE25Ym=XVXF0we9xQcqZ;zt4Gv;UpDVBRknY" h)]
 have s:(t==26)=false:=cD.mpr ("~5t||BPAwdf>D9" h);refine⟨"~72rkUVSHlFl" h,r,e,?_⟩;rw[A,s];cases I.d t r h e with
 |e l=>exact absurd rfl (C l)|g k=>exact .f k|f k=>exact .g k|b c a x y d=>exact .u ..
def dw.nf(p:dw w b r):(cb (r.headD .z) (.j 2)&&cb (r.getD 2 .z) (.j 1))=false:=by induction p <;>rfl
def b4.no(I:am z)(h:b4 z t):t≠14/\t≠15:=by
 obtain⟨_,r,C,p⟩:=h;have k:∀{b:Int},z.a[t]?=some [.j 2,.j b,.j 1]->False:=λ{b} e=>by
  have v1:=p.nf;rw[ay (C.symm.trans e)]at v1;exact nomatch v1
 exact⟨λe=>k (b:=0) (e▸I.at (t:=14) rfl),λe=>k (b:=1) (e▸I.at (t:=15) rfl)⟩
abbrev gu(T:List (List V))(r:Nat)(l:List Nat):Prop:=(l=[]/\r=2)\/l=[r]\/(2<=l.length/\T[r]?=some (du l))
def gu.pre(h:gu T r l)(p:T <+:a):gu a r l:=h.imp id λh=>h.imp id λh=>⟨h.1,cI p h.2⟩
def gu.inj(u:T.Nodup)(h:gu T r l)(h':gu T r' l):r=r':=by
 rcases h with⟨e,a⟩ |e |⟨a,b⟩ <;>rcases h' with⟨e',p⟩ |e' |⟨p,G⟩
 .rw[a,p]
 .rw[e]at e';cases e'
 .rw[e]at p;simp at p
 .rw[e]at e';cases e'
 .rw[e]at e';cases e';rfl
 .rw[e]at p;simp at p
 .rw[e']at a;simp at a
 .rw[e']at a;simp at a
 .exact uX u b G
structure aO(z:Z)(r:Nat)(l:List Nat):Prop where
 c:gu z.a r l
 d:∀p∈l,b4 z p
 f:l.Nodup
def aO.gr(h:aO z r l)(p:z.a <+:z'.a):aO z' r l:=⟨h.c.pre p,λq L=>(h.d q L).gr p,h.f⟩
def fq(h:b4 z p):aO z p [p]:=⟨.inr (.inl rfl),λq L=>by rw[aB]at L;subst L;exact h,fL.mpr ⟨dW,iE⟩⟩
def hX:aO z 2 []:=⟨.inl ⟨rfl,rfl⟩,λq L=>(nomatch L),iE⟩
theorem E_:∀{l m:List Nat},aa l=aa m->l=m
 |[],[],_=>rfl|[],_::_,h=>by simp[aa]at h
 |_::_,[],h=>by simp[aa]at h
 |a::l,b::m,h=>by
  have h':V.j (a:Int)::aa l=V.j (b:Int)::aa m:=h;injection h' with h1 h2
  injection h1 with h1
  rw[E_ h2,BG.mp h1]
def QF(h:du l=du m):l=m:=by
 unfold du at h;injection h with _ h;injection h with h _;injection h with h;exact E_ h
def aO.fun(I:am z)(h:aO z r l)(h':aO z r m):l=m:=by
 have g:∀l,b4 z r->z.a[r]?=some (du l)->False:=λl J e=>by
  obtain⟨_,r',e',p⟩:=J;rw[e]at e';cases e';obtain⟨k,rest,e,U⟩:=p.head;unfold du at e;injection e with e _;injection e with e;exact U e.symm
 have i:∀l,r=2->z.a[r]?=some (du l)->False:=λl J e=>by
  subst J;rw[I.at (t:=2) (r:=[.j 1,.u "never"]) rfl]at e;unfold du at e;cases e
 rcases h.c with⟨e,a⟩ |e |⟨a,b⟩ <;>rcases h'.c with⟨e',Y⟩ |e' |⟨Y,G⟩
 .rw[e,e']
 .exact absurd a (h'.d r (by rw[e'];simp)).1
 .exact(i _ a G).elim
 .exact absurd Y (h.d r (by rw[e];simp)).1
 .rw[e,e']
 .exact(g _ (h.d r (by rw[e];simp)) G).elim
 .exact(i _ Y b).elim
 .exact(g _ (h'.d r (by rw[e'];simp)) b).elim
 .rw[b]at G;exact QF (ay G)
theorem ju:∀(n:Nat) {l:List Nat},l.Nodup->(∀x∈l,x < n)->l.length<=n
 |0,[],_,_=>av _|0,x::l,_,h=>absurd (h x br) (B' _)|n+1,l,u,h=>by
  by_cases hm:n∈l
  .have:=ju n (u.erase n) λx H=>by
    have C:=(u.mem_erase_iff).mp H;have:=h x C.2;have:=C.1;lia
   rw[List.length_erase_of_mem hm]at this;exact "~x6||yLaEub|NcVfEG" ao this
  .have:=ju n u λx H=>by
    have f:=h x H;have o:x≠n:=λe=>hm (e▸H);exact "~1I;4n0lXtd9Asm" f o
   exact "~8RCWsKrG0" this
section
variable{z:Z}{L:List O}{n t i:Nat}{Q:V->St->Prop}{l G:List Nat}
def rN(I:am z)(hz:z.a.length < 4194304)(h:aO z t l)(q:Q (.p (aa l)) (st z L)):ar (ai (n+1) 2 [.o 2,.j t] (st z L)) Q:=by
 rcases h.c with⟨e,a⟩ |e |⟨a,b⟩
 .subst e;subst a;exact QB q
 .obtain⟨h2,r,C,p⟩:=h.d t (by rw[e];simp)
  obtain⟨k,rest,rfl,U⟩:=p.head;rw[e]at q;exact QD hz h2 U C q
 .refine QC hz (λe=>?_) b q
  subst e;rw[I.at (t:=2) (r:=[.j 1,.u "never"]) rfl]at b;unfold du at b;cases b
abbrev oW(w:Nat):Int:=if w=2 then -1 else w
def Fa(h:dw w b r)(q:Q (.j (oW w)) σ):ar (ai (n+1) 3 [.p r] σ) Q:=by
 refine az (ρ:=[some (.p r),none]) rfl ?_
 induction h <;>exact q
def XW:∀{rs:List (List V)} {r:List V} {d:V},rs[t]?=some r->rs.Nodup->(cU r (iW k rs)).getD d=.j ((k+t:Nat):Int):=λh u=>by rw[rM u h];rfl
def QG(I:am z)(hz:z.a.length < 4194304)(h:b4 z t)(q:Q (.j (if t=26 then 16 else -1)) (st z L)):ar (ai (n+1) 4 [.o 2,.j t] (st z L)) Q:=by
 refine az (ρ:=[some (.o 2),some (.j t),none]) rfl ?_;by_cases s:t=26
 .rw[ah s]at q
  refine ag (cp (r:=[.j 3,.u "a",.j 1]) hz (s▸I.at (t:=26) rfl)) ?_;have H:cm .c (.o 4) [.p [.j 3,.u "a",.j 0],.j (-1)] (st z L)=some (.j 16,st z L):=by
   exact yO (r:=some (.j 16)) rfl (dY rfl (aE some (show cU _ (iT z.a)=_ by rw[nc,rM I.a (I.at (t:=16) rfl)];rfl)))
  exact aP H q
 .obtain⟨_,r,C,p⟩:=h
  refine ag (cp hz C) ?_;rw[ab s]at q;clear C;generalize wh t=w at p;generalize T:(t==26)=b at p
  induction p <;>first |exact q |exact absurd (aH.mp T) s
abbrev dI(G:List Nat):O:=match G with |[]=>.b |G=>.f (G.map λ(k:Nat)=>((k:Int),V.j 1))
theorem Fb:∀{G:List Nat},(cU x (G.map λ(k:Nat)=>((k:Int),V.j 1))).isSome=decide (∃k∈G,(k:Int)=x)
 |[]=>by show false=_;simp
 |k::G=>by
  rw[eS,xy];by_cases h:(k:Int)=x
  .rw[ah h];simp[h]
  .rw[ab h,Fb];simp[h]
def Fc:∃r,iJ (dI G) (.j x)=some r/\r.isSome=decide (∃k∈G,(k:Int)=x):=by
 induction G using bo with
 |nil=>exact⟨none,rfl,by simp⟩|cons g G=>exact⟨_,rfl,Fb⟩
def yU:fe (dI G)=none:=by induction G <;>rfl
def kr(h:L[i]?=some (dI G)):de .b (.j x) (.o (i+14)) (st z L)=some (.w (decide (∃k∈G,(k:Int)=x)),st z L):=by
 obtain⟨r,e,q⟩:=Fc (G:=G) (x:=x);rw[<-q];exact uR (uQ h yU) h e
def yV(h:L[i]?=some (dI G)):de .d (.j x) (.o (i+14)) (st z L)=some (.w (!decide (∃k∈G,(k:Int)=x)),st z L):=by
 obtain⟨r,e,q⟩:=Fc (G:=G) (x:=x);rw[<-q];exact ET rfl (uQ h yU) h e
def dF{x:Nat}:(∃k∈G,(k:Int)=(x:Int))↔x∈G:=⟨λ⟨k,h,e⟩=>by rw[<-BG.mp e];exact h,λh=>⟨x,h,rfl⟩⟩
def yW:¬ ∃k∈G,((k:Nat):Int)=-1:=λ⟨k,_,e⟩=>by lia
def rO{p:Nat}(Y:G.length < 4194304):mI (dI G) (.j p) (.j 1)=some (dI (dd G [p])):=by
 induction G using bo with
 |nil=>rfl|cons g G=>
  have key:∀H:List Nat,bn (p:Int) (V.j 1) (H.map λ(k:Nat)=>((k:Int),V.j 1))=(dd H [p]).map λ(k:Nat)=>((k:Int),V.j 1):=by
   intro H;show _=(if p∈H then H else H++[p]).map _
   induction H with
   |nil=>rfl|cons a H ih=>
    rw[eS,CJ];by_cases e:(a:Int)=(p:Int)
    .have e':=BG.mp e
     rw[ah e,ah (by rw[e'];exact br)];rfl
    .have e':p≠a:=λq=>e (by rw[q])
     rw[ab e,ih];by_cases hm:p∈H
     .rw[ah hm,ah (b6 _ hm)];rfl
     .rw[ab hm,ab (by simp[hm,e'])];rfl
  show(if((g::G).map λ(k:Nat)=>((k:Int),V.j 1)).length < bs then some (O.f (bn (p:Int) (V.j 1) ((g::G).map λ(k:Nat)=>((k:Int),V.j 1))))else none)=_;rw[ah (by rw[bX];exact Y),key];have w:dd (g::G) [p]≠[]:=λe=>by
   have:=fp (y:=g) (l:=[p]) (acc:=g::G);rw[e]at this;simp at this
  unfold dI;generalize e:dd (g::G) [p]=E
  induction E using bo with
  |nil=>exact absurd e w|cons a b=>rfl
def rQ:t7 (dI G)=true:=by induction G <;>rfl
def QH(I:am z)(hz:z.a.length < 4194304)(h:b4 z t)(H:L[i]?=some (dI G))(m:∀x∈G,b4 z x)(q:Q (.w (!aY G t)) (st z L)):
  ar (ai (n+2) 6 [.o 2,.o (i+14),.j t] (st z L)) Q:=by
 obtain⟨h2,r,C,p⟩:=id h;refine az (ρ:=[some (.o 2),some (.o (i+14)),some (.j t)]) rfl ?_;refine QG I hz h ?_;refine ag (kr H) ?_;by_cases hm:t=26/\16∈G
 .refine bT (b5 (by rw[ah hm.1];exact dF.mpr hm.2)) ?_
  have:aY G t=true:=by unfold aY;rw[hm.1,bj.mpr hm.2];simp
  rw[this]at q;exact q
 .refine bF (cd λe=>?_) ?_
  .split at e
   .rename_i s;exact hm ⟨s,dF.mp e⟩
   .exact yW e
  ·
   refine ag (cp hz C) ?_;refine Fa p ?_;refine ag (yV H) ?_;have e:aY G t=decide (∃k∈G,(k:Int)=oW (wh t)):=by
    have h1:(t==26&&G.contains 16)=false:=by
     rw[eo];intro q;rw[mu,aH,bj]at q;exact hm q
    unfold aY;rw[h1,xe];unfold oW;by_cases A:wh t=2
    .rw[ah A,cd yW,A];rfl
    .rw[ab A]
     have:(wh t !=2)=true:=by simpa using A
     rw[this,Bool.true_and];by_cases a:wh t∈G
     .rw[bj.mpr a,b5 (dF.mpr a)]
     .rw[cd λe=>a (dF.mp e)]
      exact eo.mpr λe=>a (bj.mp e)
   rw[<-e];exact q
end
theorem yX:∀l:List Nat,(jT (l.map λ(k:Nat)=>(k:Int)))=(bw l).map λ(k:Nat)=>(k:Int)
 |[]=>rfl|x::l=>by
  show lj _ (jT _)=(gq x (bw l)).map _;rw[yX];generalize bw l=m
  induction m with
  |nil=>rfl|cons y m ih=>
   show(if(x:Int)<=y then _ else _::lj _ _)=(if x<=y then x::y::m else y::gq x m).map _;by_cases h:x<=y
   .rw[ah ("~W17OLqUZ" h),ah h];rfl
   .rw[ab ("~1xL39al6N;" h),ab h,ih];rfl
def Fd(h:σ[i]?=some (dI S))(Y:S.length < 4194304):b1 .c (.o i) σ=some (.r (aa (bw S)),σ):=by
 have hi:mJ σ (.o i)=some (S.map λ(k:Nat)=>(k:Int)):=by
  unfold mJ;rw[uQ h yU,show eX σ (.o i)=some (dI S)from h]
  induction S using bo with
  |nil=>rfl|cons a r=>show some (((a::r).map λ(k:Nat)=>((k:Int),V.j 1)).map (·.1))=_;rw[ql];rfl
 refine bg hi (dY (by rw[bX];exact Y) ?_);rw[yX,ql];rfl
def uY:dd (dd acc [p]) l=dd acc (p::l):=by
 by_cases h:p∈acc
 .have:dd acc [p]=acc:=ah h
  rw[this,oV,ah h]
 .have:dd acc [p]=acc++[p]:=ab h
  rw[this,oV,ab h]
def QI:dd (dd acc l) m=dd acc (l++m):=by
 induction l generalizing acc with
 |nil=>rfl|cons x l ih=>rw[<-uY (p:=x) (l:=l),ih,uY];rfl
section
variable{C:CT}{z:Z}{L:List O}{n t i:Nat}{Q:V->St->Prop}{G:List Nat}
def kt(u:G.Nodup)(h:∀x∈G,b4 z x)(hz:z.a.length < 4194304):G.length < 4194304:=fK (ju z.a.length u λx H=>(h x H).lt) hz
def QJ:∀{G:List Nat} {L:List O} {o:Option V} {K:cZ->ba->St->Prop},L[i]?=some (dI G)->G.Nodup->(∀x∈G,b4 z x)->(∀x∈ps,b4 z x)->z.a.length < 4194304->
  (∀L' o',L'=L.set i (dI (dd G ps))->K .a [some (.o 2),a,some (.o (i+14)),b,o',c,d,e] (st z L'))->
  gn (λx ρ k σ=>bQ (fQ (.a 4) x ρ σ) λρ σ=>aM C [.n (.d 2) (.d 4) (.g 1)] ρ k σ) none (aa ps) [some (.o 2),a,some (.o (i+14)),b,o,c,d,e] K (st z L):=by
 induction ps with
 |nil=>
  intro G L o K H u m J hz q;exact(q L o (gJ H).symm:_)
 |cons p ps ih=>
  intro G L o K H u m J hz q;have s:=J p br;show bm (li (.o (i+14)) (.j p) (.j 1) (st z L)) _;refine m6 H (rO (kt u m hz)) rQ ?_;refine ih (aT H) (m9 u) (λx Y=>?_) (λx Y=>J x (b6 _ Y)) hz λL' o' e=>q L' o' ?_
  .rcases fp.mp Y with h |h
   .exact m x h
   .rw[aB]at h;subst h;exact s
  .rw[e,kQ,uY]
def QK{a:Option V}:∀{G:List Nat} {L:List O} {A U:Option V} {K:cZ->ba->St->Prop},L[i]?=some (dI G)->(∀G,lm g (st z (L.set i (dI G)))=some ((),st z (L.set i (dI G))))->G.Nodup->(∀x∈G,b4 z x)->am z->(∀x∈ts,aO z x (F x))->z.a.length < 4194304->
  (∀L' A U,L'=L.set i (dI (dd G (ts.flatMap F)))->K .a [some (.o 2),a,some (.o (i+14)),A,U,c,d,e] (st z L'))->
  gn (λx ρ k σ=>bQ (fQ (.a 3) x ρ σ) λρ σ=>aM (ai (n+1)) [.m (.a 4) (.a (.j 2 [.d 0,.d 3])) [.n (.d 2) (.d 4) (.g 1)]] ρ k σ) g (aa ts) [some (.o 2),a,some (.o (i+14)),A,U,c,d,e] K (st z L):=by
 induction ts with
 |nil=>
  intro G L A U K H T u m I J hz q;have f:=T G;rw[gJ H]at f;refine ag f ?_;exact q L A U (gJ H).symm
 |cons t ts ih=>
  intro G L A U K H T u m I J hz q;have s:=J t br;have f:=T G;rw[gJ H]at f;refine(ag f ?_:_);show ar (ai (n+1) 2 [.o 2,.j t] (st z L)) _;refine rN I hz s ?_;have N:ll (.p (aa (F t))) (st z L)=some ((none,aa (F t)),st z L):=by
   have Y:(aa (F t)).length < bs:=by
    unfold aa;rw[bX];exact kt s.f s.d hz
   show(if(aa (F t)).length < bs then some ((none,aa (F t)),st z L)else none)=_;rw[ah Y]
  refine ag N ?_;refine QJ H u m s.d hz λL' o' e=>?_;subst e;refine ih (aT H) (λG=>by rw[kQ];exact T G) (m9 u) (λx E=>?_) I (λx E=>J x (b6 _ E)) hz λL' A U e=>q L' A U ?_
  .rcases fp.mp E with h |h
   .exact m x h
   .exact s.d x h
  .rw[e,kQ,QI];rfl
def QL{σ:St}(H:L[i]?=some (dI G))(q:Q (.j (if 0∈G then 0 else if 13∈G then 13 else if 1∈G then 1 else -1)) (st z L)):ar (ai (n+1) 7 [.o (i+14)] (st z L)) Q:=by
 refine az (ρ:=[some (.o (i+14)),none]) rfl ?_;refine ag (kr (x:=0) H) ?_;by_cases f:0∈G
 .rw[ah f]at q
  exact bT (b5 (dF.mpr f)) q
 .rw[ab f]at q
  refine bF (cd λe=>f (dF.mp e)) ?_;refine ag (kr (x:=13) H) ?_;by_cases w:13∈G
  .rw[ah w]at q
   exact bT (b5 (dF.mpr w)) q
  .rw[ab w]at q
   refine bF (cd λe=>w (dF.mp e)) ?_;refine ag (kr (x:=1) H) ?_;by_cases h1:1∈G
   .rw[ah h1]at q
    exact bT (b5 (dF.mpr h1)) q
   .rw[ab h1]at q
    exact bF (cd λe=>h1 (dF.mp e)) q
def QM(H:L[i]?=some (dI G))(u:G.length < 4194304)(f:14∉G)(a:15∉G)(q:Q .z (st z L)):ar (ai (n+1) 5 [.o (i+14)] (st z L)) Q:=by
 refine az (ρ:=[some (.o (i+14))]) rfl ?_;have c:=cd (p:=∃k∈G,(k:Int)=14) λe=>f (dF.mp e);have g:=cd (p:=∃k∈G,(k:Int)=15) λe=>a (dF.mp e);refine ag (kr (x:=8) H) ?_;by_cases h8:8∈G
 .refine bT (b5 (dF.mpr h8)) ?_
  refine bT (b5 (dF.mpr h8)) ?_;refine ag (kr (x:=9) H) ?_;by_cases h9:9∈G
  .refine bT (b5 (dF.mpr h9)) ?_
   refine bT (b5 (dF.mpr h9)) ?_;have h:dd G [8]=G:=ah h8;have j:dd G [9]=G:=ah h9;refine m6 H (rO (p:=8) u) rQ ?_;rw[h,gJ H];refine m6 H (rO (p:=9) u) rQ ?_;rw[j,gJ H];exact q
  .refine bF (cd λe=>h9 (dF.mp e)) ?_
   refine ag (kr (x:=15) H) ?_;exact bF g q
 .refine bF (cd λe=>h8 (dF.mp e)) ?_
  refine ag (kr (x:=14) H) ?_;refine bF c ?_;exact bF c q
def QN{a:Option V}(I:am z)(hz:z.a.length < 4194304)(m:∀x∈G,b4 z x):∀{L:List O} {out:List Nat} {K:St->Prop},L[i]?=some (dI G)->L[j]?=some (.a (aa out))->i≠j->out.length+ps.length < 4194304->(∀x∈ps,b4 z x)->
  (∀L',L'=L.set j (.a (aa (out++ps.filter λt=>!aY G t)))->K (st z L'))->
  ew (λx k σ=>fi (ai (n+2)) [.j 6 [.d 0,.d 2,.d 7]] ([some (.o 2),a,some (.o (i+14)),c,d,e,f,g].set 7 (some x)) (λb σ=>fh b (bK (ai (n+2)) (.d 7) ([some (.o 2),a,some (.o (i+14)),c,d,e,f,g].set 7 (some x)) (λv σ=>bm (cm .a (.o (j+14)) [v] σ) λQ σ=>k σ) σ) (k σ)) σ) none (aa ps) K (st z L):=by
 induction ps with
 |nil=>
  intro L out K H ho T Y J q;refine(q L ?_:_);rw[Kd,b_];exact(gJ ho).symm
 |cons p ps ih=>
  intro L out K H ho T Y J q;show ar (ai (n+2) 6 [.o 2,.o (i+14),.j p] (st z L)) _;simp only[bI]at Y;refine QH I hz (J p br) H m ?_;generalize U:aY G p=E
  induction E using aS with
  |true=>
   refine ih H ho T ("~68TW_IaZws61|" Y) (λx N=>J x (b6 _ N)) λL' e=>q L' ?_;rw[e,jf,U];rfl
  |false=>
   refine ec ho (by unfold aa;rw[bX];exact "~1f<c=y4WPi=D" Y) ?_;have e1:aa out++[V.j (p:Int)]=aa (out++[p]):=by unfold aa;rw[kP];rfl
   rw[e1];refine ih (bz H (Ne.symm T)) (aT ho) T (by simp only[ca,bI,dK];exact "~4ENzm8VZBFXcdnB=y" Y) (λx N=>J x (b6 _ N)) λL' e=>q L' ?_;rw[e,kQ,jf,U];show L.set j _=L.set j _;rw[c7];rfl
structure uZ(z:Z)(L:List O)(x:V)(ts:List Nat)(g:Option (Nat×List V)):Prop where
 a:∀L',L <+:L'->ll x (st z L')=some ((g,aa ts),st z L')
 b:∀L',L <+:L'->lm g (st z L')=some ((),st z L')
def ng{ts:List Nat}(h:ts.length < 4194304):uZ z L (.p (aa ts)) ts none:=⟨λL' J=>ds (show(aa ts).length < bs by unfold aa;rw[bX];exact h),λJ J=>rfl⟩
def hY{ts:List Nat}(h:ts.length < 4194304):uZ z L (.r (aa ts)) ts none:=⟨λL' J=>ds (show(aa ts).length < bs by unfold aa;rw[bX];exact h),λJ J=>rfl⟩
def QO(l:List V):V.lb l l=true:=(V.xx l l).mpr rfl
def QP{ts:List Nat}(hi:L[i]?=some (.a (aa ts)))(h:ts.length < 4194304):uZ z L (.o (i+14)) ts (some (i+14,aa ts)):=⟨λL' p=>bg (iU (show(st z L')[i+14]?=some (.a (aa ts))from(aC hi p:L'[i]?=_))) (ds (show(aa ts).length < bs by unfold aa;rw[bX];exact h)),
 λL' p=>bg (show(st z L')[i+14]?=some (.a (aa ts))from(aC hi p:L'[i]?=_)) (bg rfl (ds (QO _)))⟩
def u0{ts:List Nat}(I:am z)(room:z.sz+1 < 4194304)(ha:uZ z L x ts g)(o:∀t∈ts,aO z t (F t))(s:(ae (ts.flatMap F)).length<=400)
  (q:∀z' (r:Nat) L',Gr 1 z z'->L <+:L'->aO z' r (ae (ts.flatMap F))->Q (.j r) (st z' L')):ar (ai (n+3) 8 [.o 2,x] (st z L)) Q:=by
 have hz:=Z.bZ room;refine az (ρ:=[some (.o 2),some x,none,none,none,none,none,none]) rfl ?_;refine bY ?_;refine ag (ha.a _ bp) ?_;have u3:∀G,L <+:(L++[dI []]).set L.length (dI G):=λG=>bE bp (av _);refine QK (F:=F) (G:=[]) bk (λG=>ha.b _ (u3 G)) iE (λx H=>nomatch H) I o hz λL1 A o2 e1=>?_;have T:L <+:L1:=by rw[e1];exact u3 _
 have lH:L1[L.length]?=some (dI (dd [] (ts.flatMap F))):=by rw[e1];exact aT bk
 clear e1;have hn:(dd [] (ts.flatMap F)).Nodup:=m9 iE;have hm:∀t,t∈dd [] (ts.flatMap F)↔t∈ts.flatMap F:=λt=>by rw[fp];simp
 have m:∀t∈dd [] (ts.flatMap F),b4 z t:=λt ht=>by
  obtain⟨u,hu,QQ⟩:=fu.mp ((hm t).mp ht);exact(o u hu).d t QQ
 have y:=kt hn m hz;refine QL (σ:=[]) lH ?_;simp only[hm];have fin:∀t,ae (ts.flatMap F)=[t]->t∈ts.flatMap F->Q (.j t) (st z L1):=λt e ht=>q z t L1 ((Gr.refl I).mono (bb _)) T (by rw[e];exact fq (m t ((hm t).mpr ht)));by_cases f:0∈ts.flatMap F
 .rw[ah f]
  have:=fin 0 (by unfold ae;rw[ah f]) f;exact this
 rw[ab f];by_cases w:13∈ts.flatMap F
 .rw[ah w]
  have:=fin 13 (by unfold ae;rw[ab f,ah w]) w;exact this
 rw[ab w];by_cases h1:1∈ts.flatMap F
 .rw[ah h1]
  have:=fin 1 (by unfold ae;rw[ab f,ab w,ah h1]) h1;exact this
 rw[ab h1];have QR:ae (ts.flatMap F)=(sd (ts.flatMap F)).filter λt=>!aY (ts.flatMap F) t:=by unfold ae;rw[ab f,ab w,ab h1]
 have QS:(λt=>!aY (dd [] (ts.flatMap F)) t)=λt=>!aY (ts.flatMap F) t:=funext λt=>by rw[EY hm]
 refine QM lH y (λh=>((m 14 h).no I).1 rfl) (λh=>((m 15 h).no I).2 rfl) ?_;have QT:b1 .c (.o (L.length+14)) (st z L1)=some (.r (aa (sd (ts.flatMap F))),st z L1):=by
  exact Fd (i:=L.length+14) lH y
 refine aP QT ?_;have rR:(sd (ts.flatMap F)).length < 4194304:=by unfold sd;rw[oU];exact y
 have N:ll (.r (aa (sd (ts.flatMap F)))) (st z L1)=some ((none,aa (sd (ts.flatMap F))),st z L1):=(hY (L:=L1) rR).a _ (aA _);refine ag N ?_;refine bY ?_;have U:L.length < L1.length:=(bW.mp lH).1;refine QN (j:=L1.length) (out:=[]) I hz m (aC lH bp) bk ("~TJx2T=<R" U) (by simpa using rR) (λx H=>m x ((hm x).mpr (iV.mp H))) λL2 e2=>?_;rw[di,QS,<-QR]at e2;have ys:L1 <+:L2:=by rw[e2];exact bE bp (av _)
 have B:L2[L1.length]?=some (.a (aa (ae (ts.flatMap F)))):=by rw[e2];exact aT bk
 clear e2;have k:∀p∈ae (ts.flatMap F),b4 z p:=λp J=>m p ((hm p).mpr (cu J));have gM:(ae (ts.flatMap F)).Nodup:=kn;generalize ae (ts.flatMap F)=c at q s B k gM;refine f0 B ?_;have j0:L <+:L2.set L1.length .d:=T.trans (bE ys (av _));generalize L2.set L1.length .d=E at j0
 match c,s,k,gM,q with
 |[],_,_,_,q=>
  exact q z 2 E ((Gr.refl I).mono (bb _)) j0 hX
 |[t],_,k,_,q=>
  refine aP (a:=.j 1) (σ:=st z E) rfl ?_;exact q z t E ((Gr.refl I).mono (bb _)) j0 (fq (k t br))
 |t::u::r,s,k,gM,q=>
  have Y:(aa (t::u::r)).length < bs:=by
   unfold aa;rw[bX];exact fK s (by decide)
  have ht:iM (st z E) (.r (aa (t::u::r)))=some true:=by
   show bq ((aa (t::u::r)).length < bs) (some true)=_;exact ds Y
  have y:b1 .a (.r (aa (t::u::r))) (st z E)=some (.j ((t::u::r).length:Nat),st z E):=by
   have:=rJ (σ:=st z E) (v:=.r (aa (t::u::r))) rfl Y;rw[show(aa (t::u::r)).length=(t::u::r).length from bX _]at this;exact this
  refine tW ht ?_;refine aP y ?_;refine aP y ?_;refine bF (cd ("~181P6IcIr2?SKc8p" s)) ?_;have QU:b1 .b (.r (aa (t::u::r))) (st z E)=some (.p (aa (t::u::r)),st z E):=yQ rfl Y;refine aP QU ?_;refine jt (n:=n+1) I yT (.inl (.e _)) room λz' t' g h=>?_;exact q z' t' E g j0 ⟨.inr (.inr ⟨by simp,h⟩),λp J=>(k p J).gr g.d,gM⟩
end
abbrev rg(t:Nat):Nat:=if t=26 then 16 else t
abbrev vh(t:Nat):Nat:=if t=20\/t=21 then 18 else if t=22 then 16 else 2
abbrev dT(A:List Nat)(p:Nat):Bool:=A.contains p||(wh p !=2&&A.contains (wh p))||(vh p !=2&&A.contains (vh p))||(p==4&&A.contains 3)
abbrev oX(l:List Nat):List Nat:=ae (l.map rg)
abbrev iX(ls lt:List Nat):Bool:=(oX ls).all (dT (oX lt))
theorem rS:∀l:List Nat,V.eV (aa l)=true
 |[]=>rfl|x::l=>by show(V.pure (.j x)&&V.eV (aa l))=true;rw[rS l];rfl
theorem Fe:∀{l:List Nat},(aa l).any (λy=>cb y (.j x))=decide (∃k∈l,(k:Int)=x)
 |[]=>by simp[aa]
 |k::l=>by
  show(cb (.j k) (.j x)||(aa l).any _)=_;rw[Fe];by_cases h:(k:Int)=x
  .rw[vT h];simp[h]
  .rw[vF h];simp[h]
section
variable{C:CT}{z:Z}{L:List O}{n t i:Nat}{Q:V->St->Prop}{l:List Nat}{σ:St}
def Ff(N:bt σ c=some (b,aa l)):g_ σ (.j x) c=some (decide (∃k∈l,(k:Int)=x)):=by
 unfold g_;rw[N];refine(ds ?_).trans (aE some (Fe (l:=l)));show(V.eV (aa l)&&true&&true)=true;rw[rS];rfl
def jw(N:bt σ c=some (b,aa l)):de .b (.j x) c σ=some (.w (decide (∃k∈l,(k:Int)=x)),σ):=dZ (show g_ σ (.j x) c=some (decide (∃k∈l,(k:Int)=x))from Ff N)
def Fg(N:bt σ c=some (b,aa l)):de .d (.j x) c σ=some (.w (!decide (∃k∈l,(k:Int)=x)),σ):=dZ (show bq _ ((g_ σ (.j x) c).map not)=some (!decide (∃k∈l,(k:Int)=x))from dY rfl (dZ (Ff N)))
def hZ{x:Nat}:decide (∃k∈l,(k:Int)=(x:Int))=l.contains x:=by
 by_cases h:x∈l
 .rw[b5 (dF.mpr h),bj.mpr h]
 .rw[cd λe=>h (dF.mp e)]
  exact(eo.mpr λe=>h (bj.mp e)).symm
def QV{w:Nat}:decide (∃k∈l,(k:Int)=oW w)=(w !=2&&l.contains w):=by
 unfold oW;by_cases A:w=2
 .rw[ah A,cd yW,A];rfl
 .rw[ab A,hZ,show(w !=2)=true by simpa using A,Bool.true_and]
def QW(hz:z.a.length < 4194304)(Y:z.a[t]?=some r)(h:dw w b r)(q:Q (.w b) (st z L)):ar (ai (n+1) 9 [.o 2,.j t] (st z L)) Q:=by
 refine az (ρ:=[some (.o 2),some (.j t),none]) rfl ?_;refine ag (cp hz Y) ?_
 induction h <;>exact q
def jx(I:am z):z.a[2]?=some [.j 1,.u "never"]:=I.at rfl
def oY(I:am z)(h:aO z t l):(∃r,z.a[t]?=some r/\dw (wh t) (t==26) r/\((t=2/\l=[])\/(t≠2/\l=[t])))\/(z.a[t]?=some (du l)/\2<=l.length/\t≠2):=by
 rcases h.c with⟨e,a⟩ |e |⟨a,b⟩
 .subst a;exact .inl ⟨_,jx I,.j _,.inl ⟨rfl,e⟩⟩
 .obtain⟨a,r,b,c⟩:=h.d t (by rw[e];simp)
  exact .inl ⟨r,b,c,.inr ⟨a,e⟩⟩
 .refine .inr ⟨b,a,λe=>?_⟩
  subst e;rw[jx I]at b;unfold du at b;cases b
def Fh(I:am z)(room:z.sz+1 < 4194304)(Y:z.a[t]?=some r)(h:dw (wh t) (t==26) r)(q:Q (.j (rg t)) (st z L)):ar (ai (n+2) 10 [.o 2,.j t] (st z L)) Q:=by
 have hz:=Z.bZ room;refine az (ρ:=[some (.o 2),some (.j t)]) rfl ?_;refine QW hz Y h ?_;unfold rg at q;by_cases s:t=26
 .subst s
  rw[I.at (t:=26) (r:=[.j 3,.u "a",.j 1]) rfl]at Y;cases Y;refine ag (cp hz (I.at (t:=26) rfl)) ?_;have U:=I.at (t:=16) (r:=[.j 3,.u "a",.j 0]) rfl;exact ko (n:=n) (r:=[.j 3,.u "a",.j 0]) I rfl hz U q
 .rw[cD.mpr s]
  rw[ab s]at q;exact q
def cX:ae [x]=[x]:=by
 unfold ae;by_cases f:0∈[x]
 .rw[ah f,aB.mp f]
 by_cases w:13∈[x]
 .rw[ab f,ah w,aB.mp w]
 by_cases h1:1∈[x]
 .rw[ab f,ab w,ah h1,aB.mp h1]
 rw[ab f,ab w,ab h1];have:aY [x] x=false:=by
  unfold aY wh;simp only[B_,List.contains_nil,xe];by_cases a:x∈[16,17,22,26]
  .simp only[bH,dW,kW]at a
   rcases a with rfl |rfl |rfl |rfl <;>decide
  .rw[ab a]
   by_cases b:x∈[18,19,20,21]
   .simp only[bH,dW,kW]at b
    rcases b with rfl |rfl |rfl |rfl <;>decide
   .rw[ab b]
    have:x≠26:=λe=>a (by rw[e];decide);rw[cD.mpr this];rfl
 show List.filter _ (bw (dd [] [x]))=_;unfold dd dd bw bw gq;simp[this]
def XX:ae []=[]:=rfl
def Fi(I:am z)(h:b4 z t):b4 z (rg t):=by
 unfold rg;split
 .exact nd I (by decide)
 .exact h
def Fj{f:Nat->Nat}{ρ:ba}:∀{L:List O} {out:List Nat} {K:St->Prop},L[j]?=some (.a (aa out))->out.length+ps.length < 4194304->
  (∀p∈ps,∀L (Q:V->St->Prop),(∀L',L <+:L'->Q (.j (f p)) (st z L'))->bK C e (ρ.set sl (some (.j p))) Q (st z L))->
  (∀L',L'[j]?=some (.a (aa (out++ps.map f)))->(∀i o,i≠j->L[i]?=some o->L'[i]?=some o)->L.length<=L'.length->K (st z L'))->
  ew (λx k σ=>fi C [] (ρ.set sl (some x)) (λb σ=>fh b (bK C e (ρ.set sl (some x)) (λv σ=>bm (cm .a (.o (j+14)) [v] σ) λH σ=>k σ) σ) (k σ)) σ) none (aa ps) K (st z L):=by
 induction ps with
 |nil=>
  intro L out K ho Y J q;refine(q L ?_ (λi o H h=>h) (av _):_);rw[qt,b_];exact ho
 |cons p ps ih=>
  intro L out K ho Y J q;simp only[bI]at Y;show bK C e (ρ.set sl (some (.j p))) _ (st z L);refine J p br L _ λL1 T=>?_;refine ec (aC ho T) (by unfold aa;rw[bX];exact "~1f<c=y4WPi=D" Y) ?_;have e1:aa out++[V.j (f p:Int)]=aa (out++[f p]):=by unfold aa;rw[kP];rfl
  rw[e1];refine ih (aT (aC ho T)) (by simp only[ca,bI,dK];exact "~4ENzm8VZBFXcdnB=y" Y) (λU a=>J U (b6 _ a)) λL' h1 h2 h3=>q L' ?_ (λi o hi h=>h2 i o hi (bz (aC h T) (Ne.symm hi))) ?_
  .rw[c7]at h1;exact h1
  .rw[jb]at h3;exact aL T.length_le h3
def rT(h:∀i o,i≠j->L[i]?=some o->L'[i]?=some o)(Y:L.length<=L'.length)(G:L.length<=j):L <+:L':=by
 have:L=L'.take L.length:=by
  apply List.ext_getElem?;intro i;by_cases hi:i < L.length
  .rw[xf,ah hi]
   obtain⟨o,ho⟩:∃o,L[i]?=some o:=⟨_,iC hi⟩;rw[ho,h i o ("~6Y3u1xF^Lnp" G hi) ho]
  .rw[xf,ab hi,List.getElem?_eq_none (tF.mp hi)]
 rw[this];exact List.take_prefix _ _
def Fk(I:am z)(room:z.sz+1 < 4194304)(h:aO z t l)(s:l.length<=400)
  (q:∀z' (r:Nat) L',Gr 1 z z'->L <+:L'->aO z' r (oX l)->Q (.j r) (st z' L')):ar (ai (n+4) 11 [.o 2,.j t] (st z L)) Q:=by
 have hz:=Z.bZ room;refine az (ρ:=[some (.o 2),some (.j t),none]) rfl ?_;rcases oY I h with⟨r,N,J,h2⟩ |⟨N,h2,h3⟩
 .obtain⟨k,rest,e,U⟩:=J.head
  subst e;refine uS hz N ?_;refine bF (vF U) ?_;refine Fh (n:=n+1) I room N J ?_;refine q z (rg t) L ((Gr.refl I).mono (bb _)) (aA _) ?_;rcases h2 with⟨e,w⟩ |⟨e,w⟩
  .rw[w];subst e;exact hX
  .rw[w]
   show aO z (rg t) (ae [rg t]);rw[cX];exact fq (Fi I (h.d t (by rw[w];simp)))
 .refine uS (k:=6) hz N ?_
  refine rN (n:=n+2) I hz h ?_;have Y:l.length < 4194304:=fK s (by decide);refine ag ((ng (z:=z) (L:=L) Y).a _ (aA _)) ?_;refine bY ?_;refine Fj (f:=rg) (out:=[]) (j:=L.length) (ρ:=[some (.o 2),some (.j t),none]) (sl:=2) (e:=.j 10 [.d 0,.d 2]) bk (by simpa using Y) (λp J L' y B=>?_) λL1 h1 h2 h3=>?_
  .obtain⟨_,r',v,a⟩:=h.d p J
   refine Fh (n:=n+1) I room v a ?_;exact B L' (aA _)
  .have T:L <+:L1:=rT (λi o hi h=>h2 i o hi (aC h bp)) (aL bp.length_le h3) (av _)
   refine f0 h1 ?_;rw[di];have G:(l.map rg).length < 4194304:=by rw[bX];exact Y
   have e:(l.map rg).flatMap (λx=>[x])=l.map rg:=by rw[List.flatMap_singleton']
   refine u0 (n:=n) (F:=λx=>[x]) I room (hY G) (λt A=>?_) ?_ λz' r L' g E H=>q z' r L' g ((bE T (av _)).trans E) (by rw[e]at H;exact H)
   .obtain⟨u,c,rfl⟩:=eb.mp A
    exact fq (Fi I (h.d u c))
   .rw[e]
    exact aL (m_ (by rw[bX];lia)) (by rw[bX];exact s)
def QX(I:am z)(hz:z.a.length < 4194304)(Y:z.a[t]?=some r)(ht:t < 29\/gt r)(h:dw (wh t) (t==26) r)(q:Q (.w (vh t !=2&&A.contains (vh t))) (st z L)):
  ar (ai (n+1) 19 [.o 2,.p r,.p (aa A)] (st z L)) Q:=by
 refine az (ρ:=[some (.o 2),some (.p r),some (.p (aa A)),none]) rfl ?_;have N:bt (st z L) (.p (aa A))=some (false,aa A):=rfl;have get:∀(r':List V) (i:Nat) {K:V->St->Prop},db[i]?=some r'->V.keys r'=true->K (.j i) (st z L)->bm (cm .c (.o 4) [.p r',.j (-1)] (st z L)) K:=λr' i K T U k=>by
  refine aP ?_ k;exact yO (r:=some (.j i)) rfl (dY U (aE some (show cU _ (iT z.a)=_ by rw[nc,rM I.a (I.at T),qg])))
 by_cases a:t=20
 .subst a
  rw[I.at (t:=20) rfl]at Y;cases Y;refine get [.j 4,.j 0,.j 0] 18 rfl rfl ?_;exact ag (jw N) (by rw[hZ];exact q)
 by_cases c:t=21
 .subst c
  rw[I.at (t:=21) rfl]at Y;cases Y;refine get [.j 4,.j 0,.j 0] 18 rfl rfl ?_;exact ag (jw N) (by rw[hZ];exact q)
 by_cases f:t=22
 .subst f
  rw[I.at (t:=22) rfl]at Y;cases Y;refine get [.j 3,.u "a",.j 0] 16 rfl rfl ?_;exact ag (jw N) (by rw[hZ];exact q)
 have B:vh t=2:=by unfold vh;rw[ab ("~5zP>SHkKu6T56U7UlukDWP=^JU|eOz<aLbwNQ=iRSqS" a c),ab f]
 rw[B]at q;have g:∀k rest,r=.j k::rest->k≠5:=by
  intro k rest e U;subst e;subst U;rcases ht with ht |ht
  .have T:db[t]?=some (.j 5::rest):=by
    obtain⟨r',T⟩:∃r',db[t]?=some r':=⟨_,iC (show t < db.length from ht)⟩;rw[I.at T]at Y;cases Y;exact T
   have key:∀i < 29,db[i]?.bind List.head?=some (.j 5)->i=20\/i=21\/i=22:=by decide
   rcases key t ht (by rw[T];rfl)with e |e |e
   .exact a e
   .exact c e
   .exact f e
  .cases ht
 generalize wh t=w at h;generalize (t==26)=b at h
 induction h <;>first |exact q |exact absurd rfl (g _ _ rfl)
end
section
variable{C:CT}{z:Z}{L:List O}{n t s i:Nat}{Q:V->St->Prop}{l ls lt:List Nat}{σ:St}
def Fn(I:am z)(h:z.a[t]?=some r):t < 29\/gt r:=by
 rcases Nat.lt_or_ge t 29 with h1 |h1
 .exact .inl h1
 .exact .inr (I.d t r h1 h)
abbrev yY:List CS:=[.g 5 (.h (.q (.d 0) 18) (.d 4)),.g 6 (.D [.n .b (.d 4) (.d 3),.n .b (.j 3 [.d 5]) (.d 3),.j 19 [.d 0,.d 5,.d 3]]),
 .h (.z [.G (.d 6),.G (.z [.n .a (.d 4) (.p 4),.n .b (.p 3) (.d 3)])]) [.d (.B false)] []]
def QY(I:am z)(hz:z.a.length < 4194304)(J:b4 z p)
  (f:dT A p=true->∀d e,K .a [some (.o 2),a,b,some (.p (aa A)),some (.j p),d,e] (st z L)) (Y:dT A p=false->∀ρ,K (.b (.w false)) ρ (st z L)):
  aM (ai (n+1)) yY [some (.o 2),a,b,some (.p (aa A)),some (.j p),d,e] K (st z L):=by
 obtain⟨h2,r,U,p1⟩:=id J;have N:bt (st z L) (.p (aa A))=some (false,aa A):=rfl;have c1:de .b (.j p) (.p (aa A)) (st z L)=some (.w (A.contains p),st z L):=by rw[jw N,hZ]
 have v:de .b (.j (oW (wh p))) (.p (aa A)) (st z L)=some (.w (wh p !=2&&A.contains (wh p)),st z L):=by rw[jw N,QV]
 have T:de .b (.j 3) (.p (aa A)) (st z L)=some (.w (A.contains 3),st z L):=by rw[jw N];congr 3;exact hZ (x:=3)
 have c:cb (.j p) (.j 4)=(p==4):=by
  by_cases h:p=4
  .subst h;rfl
  .rw[vF ("~KRq3eITDyQz3" h),cD.mpr h]
 unfold dT at f Y;refine ag (cp hz U) ?_;refine ag c1 ?_;generalize e1:A.contains p=E
 induction E using aS with
 |true=>rw[e1]at f;exact f rfl _ _|false=>
  rw[e1]at f Y;refine Fa (n:=n) p1 ?_;refine ag v ?_;generalize w:(wh p !=2&&A.contains (wh p))=E
  induction E using aS with
  |true=>rw[w]at f;exact f rfl _ _|false=>
   rw[w]at f Y;refine QX (n:=n) I hz U (Fn I U) p1 ?_;generalize H:(vh p !=2&&A.contains (vh p))=E
   induction E using aS with
   |true=>rw[H]at f;exact f rfl _ _|false=>
    rw[H]at f Y;conv=>whnf
    rw[c];generalize B:(p==4)=E
    induction E using aS with
    |false=>rw[B]at Y;exact Y rfl _|true=>
     rw[B]at f Y;refine ag T ?_;generalize g:A.contains 3=E
     induction E using aS with
     |true=>rw[g]at f;exact f rfl _ _|false=>rw[g]at Y;exact Y rfl _
def QZ(I:am z)(hz:z.a.length < 4194304):∀{c d e:Option V} {K:cZ->ba->St->Prop},(∀p∈ps,b4 z p)->
  (∀c d e,ps.all (dT A)=true->K .a [some (.o 2),a,b,some (.p (aa A)),c,d,e] (st z L))->(ps.all (dT A)=false->∀ρ,K (.b (.w false)) ρ (st z L))->
  gn (λx ρ k σ=>bQ (fQ (.a 4) x ρ σ) λρ σ=>aM (ai (n+1)) yY ρ k σ) none (aa ps) [some (.o 2),a,b,some (.p (aa A)),c,d,e] K (st z L):=by
 induction ps with
 |nil=>
  intro c d e K J f Y;exact(f c d e rfl:_)
 |cons p ps ih=>
  intro c d e K J f Y;show aM (ai (n+1)) yY [some (.o 2),a,b,some (.p (aa A)),some (.j p),d,e] _ (st z L);refine QY I hz (J p br) (λh d e=>?_) λh ρ=>?_
  .refine ih (λx H=>J x (b6 _ H)) (λc d e h'=>f c d e ?_) λh' ρ=>Y ?_ ρ
   .rw[B4,h,h'];rfl
   .rw[B4,h,h'];rfl
  .refine Y ?_ ρ
   rw[B4,h];rfl
abbrev lJ(t:Nat):Bool:=t==0||t==1||t==13
def Fo(I:am z)(room:z.sz+2 < 4194304)(N:aO z s ls)(U:aO z t lt)(h1:ls.length<=400)(h2:lt.length<=400)
  (q:∀z' L',Gr 2 z z'->L <+:L'->Q (.w (lJ t||iX ls lt)) (st z' L')):ar (ai (n+5) 20 [.o 2,.j s,.j t] (st z L)) Q:=by
 refine az (ρ:=[some (.o 2),some (.j s),some (.j t),none,none,none,none]) rfl ?_;unfold lJ at q;have c:∀k:Nat,cb (.j t) (.j k)=(t==k):=λk=>by
  by_cases h:t=k
  .subst h;rw[vT rfl];simp
  .rw[vF ("~1_Ou3jsFT<tJ" h),cD.mpr h]
 have q0:=q z L ((Gr.refl I).mono (bb _)) (aA _);conv=>whnf
 rw[show cb (.j t) (.j 0)=(t==0)from c 0];generalize a:(t==0)=E
 induction E using aS with
 |true=>rw[a]at q0;exact q0|false=>
  conv=>whnf
  rw[show cb (.j t) (.j 1)=(t==1)from c 1];generalize e1:(t==1)=E
  induction E using aS with
  |true=>rw[a,e1]at q0;exact q0|false=>
   conv=>whnf
   rw[show cb (.j t) (.j 13)=(t==13)from c 13];generalize f:(t==13)=E
   induction E using aS with
   |true=>rw[a,e1,f]at q0;exact q0|false=>
    rw[a,e1,f]at q;refine Fk (n:=n) I ("~LmftSEqj4z05" room) U h2 λu r L1 A T J=>?_;have o:u.sz<=z.sz+1:=A.f;refine rN (n:=n+3) A.e (Z.bZ (c:=0) ("~45ii4v1er_wentg2?" o room)) J ?_;refine Fk (n:=n) A.e ("~45ii4v1er_wez4FmP" o room) (N.gr A.d) h1 λz2 g L2 j w y=>?_;have m:z2.sz<=u.sz+1:=j.f;have p:=Z.bZ (z:=z2) (c:=0) ("~dTtCqaYBuY0>HN2rLXVht" m o room);refine rN (n:=n+3) j.e p y ?_;have Y:(oX ls).length < 4194304:=kt y.f y.d p;refine ag ((ng (z:=z2) (L:=L2) Y).a _ (aA _)) ?_;have fin:=q z2 L2 (A.trans j) (T.trans w);refine QZ (n:=n+3) j.e p y.d (λc d e h=>?_) λh ρ=>?_
    .unfold iX at fin;rw[h]at fin;exact fin
    .unfold iX at fin;rw[h]at fin;exact fin
end
section
variable{C:CT}{z:Z}{L:List O}{n t s i:Nat}{Q:V->St->Prop}{l ls lt:List Nat}{σ:St}
abbrev Fp(r:List V):Bool:=match r with |.j k::_=>k==10||k==16 |_=>false
abbrev iY(z:Z)(p:Nat):Bool:=match z.a[p]? with |some r=>Fp r |none=>false
def yZ(h:z.a[t]?=some r):iY z t=Fp r:=by unfold iY;rw[h]
def Fq(hz:z.a.length < 4194304)(Y:z.a[t]?=some r)(h:dw w b r)(q:Q (.w (iY z t)) (st z L)):ar (ai (n+1) 28 [.o 2,.j t] (st z L)) Q:=by
 rw[yZ Y]at q;refine az (ρ:=[some (.o 2),some (.j t),none,none,none,none]) rfl ?_;refine ag (cp hz Y) ?_
 induction h <;>exact q
abbrev Q0:List CS:=[.h (.j 28 [.d 0,.d 3]) [.d (.B true)] []]
def Q1(hz:z.a.length < 4194304):∀{c:Option V} {K:cZ->ba->St->Prop},(∀p∈ps,b4 z p)->
  (∀c,ps.any (iY z)=false->K .a [some (.o 2),a,b,c,d,e] (st z L))->(ps.any (iY z)=true->∀ρ,K (.b (.w true)) ρ (st z L))->
  gn (λx ρ k σ=>bQ (fQ (.a 3) x ρ σ) λρ σ=>aM (ai (n+1)) Q0 ρ k σ) none (aa ps) [some (.o 2),a,b,c,d,e] K (st z L):=by
 induction ps with
 |nil=>
  intro c K J f Y;exact(f c rfl:_)
 |cons p ps ih=>
  intro c K J f Y;obtain⟨_,r,U,p1⟩:=J p br;show ar (ai (n+1) 28 [.o 2,.j p] (st z L)) _;refine Fq hz U p1 ?_;rw[tD]at f Y;generalize e1:iY z p=E
  induction E using aS with
  |true=>rw[e1]at Y;exact Y rfl _|false=>
   rw[e1]at f Y;exact ih (λx H=>J x (b6 _ H)) f Y
def Q2(I:am z)(hz:z.a.length < 4194304)(h:aO z t l)(q:Q (.w (l.any (iY z))) (st z L)):ar (ai (n+2) 28 [.o 2,.j t] (st z L)) Q:=by
 rcases oY I h with⟨r,U,J,h2⟩ |⟨U,h2,h3⟩
 .refine Fq (n:=n+1) hz U J ?_
  rcases h2 with⟨e,w⟩ |⟨e,w⟩
  .subst e;rw[w]at q
   rw[yZ (jx I)];exact q
  .rw[w]at q
   rw[tD,List.any_nil,xe]at q;exact q
 .refine az (ρ:=[some (.o 2),some (.j t),none,none,none,none]) rfl ?_
  refine ag (cp hz U) ?_;have Y:l.length < 4194304:=kt h.f h.d hz;refine ag ((ng (z:=z) (L:=L) Y).a _ (aA _)) ?_;refine Q1 hz h.d (λc e=>?_) λe ρ=>?_
  .rw[e]at q;exact q
  .rw[e]at q;exact q
def Fs(I:am z)(hz:z.a.length < 4194304)(h:aO z t l)(q:Q (.w (l.any (iY z))) (st z L)):ar (ai (n+3) 36 [.o 10,.j t,.w false] (st z L)) Q:=by
 refine az (ρ:=[some (.o 10),some (.j t),some (.w false),none,none]) rfl ?_;refine Q2 I hz h ?_;generalize e:l.any (iY z)=E
 induction E using aS with
 |true=>rw[e]at q;exact q|false=>rw[e]at q;exact q
def Ft(I:am z)(h:aO z t l):∃k r,z.a[t]?=some (.j k::r)/\k≠12:=by
 rcases oY I h with⟨r,Y,J,h2⟩ |⟨Y,h2,h3⟩
 .generalize wh t=w at J
  generalize (t==26)=b at J
  induction J <;>exact⟨_,_,Y,by decide⟩
 .exact⟨6,_,Y,by decide⟩
def Fu(I:am z)(hz:z.a.length < 4194304)(o:aO z c lc)(G:aO z a la)(q:Q (.w false) (st z L)):
  ar (ai (n+1) 35 [.o 2,.p (k::.j c::.j a::rest)] (st z L)) Q:=by
 obtain⟨Y,rc,h1,h2⟩:=Ft I o;obtain⟨v,ra,h3,h4⟩:=Ft I G;refine az (ρ:=[some (.o 2),some (.p (k::.j c::.j a::rest)),none,none]) rfl ?_;refine ag (cp hz h1) ?_;refine ag (cp hz h3) ?_;conv=>whnf
 rw[vF h2];exact q
def Q3(q:Q (.w false) σ):ar (ai (n+1) 29 [.o 10,.p [],m] σ) Q:=by
 refine az (ρ:=[some (.o 10),some (.p []),some m,none,none]) rfl ?_;exact q
abbrev Q4:O->Bool
 |.a _=>false |_=>true
def u4(h:L[i]?=some o)(u:Q4 o=true)(q:Q (.o (i+14)) (st z L)):bm (hD (.o (i+14)) (st z L)) Q:=by
 have h':mK (st z L) (.o (i+14))=none:=by
  refine bg rfl (bg h ?_)
  induction o <;>first |rfl |exact b7 u
 refine aP (show some ((mK (st z L) (.o (i+14))).elim _ _)=_ from ?_) q;rw[h'];rfl
abbrev aI(m:Option (Nat×Nat)):O:=match m with |none=>.b |some (p,v)=>.f [((p:Int),.j v)]
def Fv(m:Option (Nat×Nat)):∃es,gj (aI m)=some es/\es.length < bs:=by
 induction m using aX with
 |none=>exact⟨_,rfl,bP rfl⟩|some p=>exact⟨_,rfl,bP rfl⟩
def Fw(h:L[i]?=some (aI m))(q:Q (.o (L.length+14)) (st z (L++[aI m]))):bm (b1 .d (.o (i+14)) (st z L)) Q:=by
 obtain⟨es,J,Y⟩:=Fv m;exact aP (bg h (bg J (ds Y))) q
def y0(h:L[i]?=some (aI m))(q:Q (.o (L.length+14)) (st z (L++[aI m]))):ar (ai (n+1) 24 [.o (i+14),.p []] (st z L)) Q:=by
 refine az (ρ:=[some (.o (i+14)),some (.p []),none,none]) rfl ?_;refine Fw h ?_;exact u4 bk (by induction m <;>rfl) q
def u5{Q:Unit->St->Prop}(h:L[i]?=some .b)(q:Q () (st z (L.set i (aI (some (p,v)))))):bm (qY (.o (i+14)) [.j p,.j v] (st z L)) Q:=by
 exact aP (bg rfl (bg h rfl)) q
def Q5(h:L[i]?=some (aI (some (p,v))))(G:L[j]?=some (aI (some (p,v'))))(q:Q (.o (L.length+14)) (st z ((L++[aI (some (p,v))]).set L.length (aI (some (p,v')))))):
  ar (ai (n+1) 30 [.o (i+14),.o (j+14)] (st z L)) Q:=by
 refine az (ρ:=[some (.o (i+14)),some (.o (j+14)),none]) rfl ?_;refine Fw h ?_;have T:(st z (L++[aI (some (p,v))]))[j+14]?=some (aI (some (p,v'))):=show(L++[aI (some (p,v))])[j]?=_ from aC G bp;have g:(st z (L++[aI (some (p,v))]))[L.length+14]?=some (aI (some (p,v))):=show(L++[aI (some (p,v))])[L.length]?=_ from bk;have a:gH .e (.o (L.length+14)) (st z (L++[aI (some (p,v))]))=some ((),st z (L++[aI (some (p,v))])):=yP g rfl;refine ag a ?_;have w:L.length+14≠j+14:=λe=>by
  have:=(bW.mp G).1;lia
 have c:cm .e (.o (L.length+14)) [.o (j+14)] (st z (L++[aI (some (p,v))]))=some (.z,st z ((L++[aI (some (p,v))]).set L.length (aI (some (p,v'))))):=by
  refine bg rfl (bg g (bg rfl (bg rfl (dY w (bg T (bg rfl (bg rfl (dY (bP rfl) ?_))))))));show some (V.z,(st z (L++[aI (some (p,v))])).set (L.length+14) (.f (bn (p:Int) (.j v') [((p:Int),.j v)])))=_;rw[CJ,ah rfl];rfl
 refine aP c ?_;exact u4 (aT bk) rfl q
structure Sp where
 e:List V
 c:Nat
 b:Nat
 a:Nat
 d:Nat
 f:Int
 g:Int
abbrev bM(s:Sp):O:=.e 1 [(6,.o 10),(17,.p s.e),(8,.o (s.c+14)),(16,.j s.b),(20,.o (s.a+14)),(5,.o (s.d+14)),(13,.j s.f),(4,.j s.g)]
def eB{Q:Unit->St->Prop}(h:L[i]?=some (.e c fs))(Y:fs.length < 100)(q:Q () (st z (L.set i (.e c (bn a x fs)))))(j:dP c a=false:=by rfl):bm (mH (.o (i+14)) a x (st z L)) Q:=by
 exact aP (bg rfl (bg h (bg rfl (ds ⟨j,Y⟩)))) q
def a_(h:L[i]?=some (.e c fs))(H:cU a fs=some x)(j:dP c a=false:=by rfl):tV (.o (i+14)) a (st z L)=some (x,st z L):=bg h (bg rfl (dY j (dZ H)))
def u6(q:∀L',L <+:L'->L.length < L'.length->L'[L.length]?=some (bM ⟨U,k,rd,a,L.length+1,-1,-1⟩)->L'[L.length+1]?=some (.a [])->Q (.o (L.length+14)) (st z L')):
  bm (gk (.e 1 []) (st z L)) λr σ=>ar (ai (n+1) (qP 1) (r::[.o 10,.p U,.o (k+14),.j rd,.o (a+14)]) σ) λv σ=>match v with |.z=>Q r σ |_=>False:=by
 refine bY ?_;refine az (f:=77) (ρ:=[some (.o (L.length+14)),some (.o 10),some (.p U),some (.o (k+14)),some (.j rd),some (.o (a+14))]) rfl ?_;have T:(L++[O.e 1 []])[L.length]?=some (.e 1 []):=bk;have Y:L <+:L++[O.e 1 []]:=bp;have I:(L++[O.e 1 []]).length=L.length+1:=by simp
 generalize L++[O.e 1 []]=L0 at T Y I;refine eB T (by decide) ?_;refine eB (aT T) (bP rfl) ?_;refine eB (aT (aT T)) (bP rfl) ?_;refine eB (aT (aT (aT T))) (bP rfl) ?_;refine eB (aT (aT (aT (aT T)))) (bP rfl) ?_;have h1:=aT (o':=.e 1 (bn 20 (.o (a+14)) (bn 16 (.j rd) (bn 8 (.o (k+14)) (bn 17 (.p U) (bn 6 (.o 10) [])))))) (aT (o':=.e 1 (bn 16 (.j rd) (bn 8 (.o (k+14)) (bn 17 (.p U) (bn 6 (.o 10) []))))) (aT (o':=.e 1 (bn 8 (.o (k+14)) (bn 17 (.p U) (bn 6 (.o 10) [])))) (aT (o':=.e 1 (bn 17 (.p U) (bn 6 (.o 10) []))) (aT (o':=.e 1 (bn 6 (.o 10) [])) T))));simp only[kQ]at h1 ⊢;have p1:L <+:L0.set L.length (.e 1 (bn 20 (.o (a+14)) (bn 16 (.j rd) (bn 8 (.o (k+14)) (bn 17 (.p U) (bn 6 (.o 10) [])))))):=bE Y (av _);have l1:(L0.set L.length (.e 1 (bn 20 (.o (a+14)) (bn 16 (.j rd) (bn 8 (.o (k+14)) (bn 17 (.p U) (bn 6 (.o 10) []))))))).length=L.length+1:=by rw[jb];exact I
 generalize L0.set L.length (.e 1 (bn 20 (.o (a+14)) (bn 16 (.j rd) (bn 8 (.o (k+14)) (bn 17 (.p U) (bn 6 (.o 10) []))))))=L1 at h1 p1 l1;refine bY ?_;have h2:(L1++[O.a []])[L.length]?=_:=aC h1 bp;have w:(L1++[O.a []])[L.length+1]?=some (.a []):=by rw[<-l1];exact bk
 have p2:L <+:L1++[O.a []]:=p1.trans bp;have l2:L.length < (L1++[O.a []]).length:=by rw[ca];simp;exact "~1_36^zc=f9se" l1
 rw[show L1.length+14=L.length+1+14 by rw[l1]];generalize L1++[O.a []]=L2 at h2 w p2 l2;refine eB h2 (bP rfl) ?_;refine eB (aT h2) (bP rfl) ?_;refine eB (aT (aT h2)) (bP rfl) ?_;simp only[kQ];exact q _ (bE p2 (av _)) (by rw[jb];exact l2) (aT h2) (bz w ("~7y5QJo18>" id))
def Q8{s:Sp}{k:Nat}(h:L[i]?=some (bM s))(N:L[s.a]?=some (.a [.j k]))(w:i≠s.a)(Y:s.b < 100)(U:k < 3000)
  (q:Q .z (st z ((L.set i (bM {s with b:=s.b+1})).set s.a (.a [.j (k+1:Nat)])))):ar (ai (n+1) 78 [.o (i+14)] (st z L)) Q:=by
 refine az (ρ:=[some (.o (i+14))]) rfl ?_;refine ag (a_ h rfl) ?_;refine eB h (by show 8 < 100;decide) ?_;have h1:(L.set i (bM {s with b:=s.b+1}))[i]?=some (bM {s with b:=s.b+1}):=aT h;have c:(L.set i (bM {s with b:=s.b+1}))[s.a]?=some (.a [.j k]):=bz N w;show aM _ _ _ _ (st z (L.set i (bM {s with b:=s.b+1})));generalize L.set i (bM {s with b:=s.b+1})=L1 at h1 c q;refine ag (a_ h1 rfl) ?_;have p:bt (st z L1) (.o (s.a+14))=some (true,[.j k]):=iU c;have H:dj (.o (s.a+14)) (.j 0) (st z L1)=some (.j k,st z L1):=gp (t:=0) p (bP rfl) rfl;refine ag H ?_;have f:li (.o (s.a+14)) (.j 0) (.j (k+1:Nat)) (st z L1)=some ((),st z (L1.set s.a (.a [.j (k+1:Nat)]))):=bg rfl (bg c rfl);refine aP f ?_;have h2:(L1.set s.a (.a [.j (k+1:Nat)]))[i]?=some (bM {s with b:=s.b+1}):=bz h1 (Ne.symm w);have a:(L1.set s.a (.a [.j (k+1:Nat)]))[s.a]?=some (.a [.j (k+1:Nat)]):=aT c;generalize L1.set s.a (.a [.j (k+1:Nat)])=L2 at h2 a q;refine ag (a_ h2 rfl) ?_;refine ag (a_ h2 rfl) ?_;refine bF (cd (by show¬ (200 < ((s.b+1:Nat):Int));exact "~wxki7EDk=tW0hHe4C" Y)) ?_;refine ag (a_ h2 rfl) ?_;have r:bt (st z L2) (.o (s.a+14))=some (true,[.j (k+1:Nat)]):=iU a;refine ag (gp (t:=0) r (bP rfl) rfl) ?_;refine bF (cd ("~zcnwT9=JU1rRoqYmC" U)) ?_;exact q
end
section
variable{C:CT}{z:Z}{L:List O}{n t s i:Nat}{Q:V->St->Prop}{l ls lt:List Nat}{σ:St}
inductive fC:List Nat->List V->Prop
 |c l:l.length < 4194304->fC l (du l)
 |a k:fC [k] (dS k)
 |j s:fC [] [.j 1,.u s]
 |p (b f:Int):fC [] [.j 2,.j b,.j f]
 |d s (f:Int):fC [] [.j 3,.u s,.j f]
 |h (i f:Int):fC [] [.j 4,.j i,.j f]
 |n (e:Int) nm (i f:Int):fC [] [.j 5,.j e,.u nm,.j i,.j f]
 |m (e:Int) nm s (f:Int):fC [] [.j 5,.j e,.u nm,.u s,.j f]
 |o:fC [] [.j 8,.p [],.p [],.p [],.p [],.p [],.j 0]
 |g k:fC [] (eN k)
def Q9{σ0:St}{ρ:ba}(g:sl < ρ.length)(Y:ps.length < 4194304)(q:∀L',L <+:L'->K (.r (aa ps)) (st z L')):
  bm (gk (.a []) (st z L)) λr σ=>ew (λx k σ=>fi C [] (ρ.set sl (some x)) (λb σ=>fh b (bK C (.d sl) (ρ.set sl (some x)) (λv σ=>bm (cm .a r [v] σ) λQ σ=>k σ) σ) (k σ)) σ) none (aa ps) (λσ=>bm (hD r σ) K) σ:=by
 refine bY ?_;refine Fj (f:=id) (out:=[]) (j:=L.length) bk (by simpa using Y) (λp J L' U B=>?_) λL1 h1 h2 h3=>?_
 .exact ye (qh g) (B L' (aA _))
 .rw[di,List.map_id]at h1
  refine f0 h1 (q _ ?_);exact bE (rT (λi o hi h=>h2 i o hi (aC h bp)) (aL bp.length_le h3) (av _)) (av _)
def u7(q:Q (.r []) σ):ar (ai (n+1) 12 [.p []] σ) Q:=by
 refine az (ρ:=[some (.p [])]) rfl ?_;exact q
def Q_(q:∀L',L <+:L'->Q (.r (aa [k])) (st z L')):ar (ai (n+2) 13 [.p (dS k)] (st z L)) Q:=by
 refine az (ρ:=[some (.p (dS k)),none,none,none]) rfl ?_;refine bY ?_;refine ec bk (by decide) ?_;refine f0 (aT bk) ?_;refine u7 ?_;refine u7 ?_;exact q _ (bE (bE bp (av _)) (av _))
def Ra(q:∀L',L <+:L'->Q (.r []) (st z L')):ar (ai (n+2) 13 [.p [.j 8,.p [],.p [],.p [],.p [],.p [],.j 0]] (st z L)) Q:=by
 refine az (ρ:=[some (.p [.j 8,.p [],.p [],.p [],.p [],.p [],.j 0]),none,none,none]) rfl ?_;refine bY ?_;refine f0 bk ?_;refine u7 ?_;refine u7 ?_;exact q _ (bE bp (av _))
def Fx{I:List Nat}(h:fC I r)(q:∀L',L <+:L'->Q (.r (aa I)) (st z L')):ar (ai (n+3) 14 [.p r] (st z L)) Q:=by
 refine az (ρ:=[some (.p r),none,none,none,none]) rfl ?_;cases h with
 |c _ Y=>
  refine ag ((ng (z:=z) (L:=L) Y).a _ (aA _)) ?_;exact Q9 (σ0:=[]) (ρ:=[some (.p (du I)),some (.j 6),none,none,none]) (by simp) Y q
 |a k=>
  exact Q_ q
 |o=>
  exact Ra q
 |_=>exact q L (aA _)
def Fy(h:fC I r)(q:Q (.p []) σ):ar (ai (n+1) 15 [.p r] σ) Q:=by
 refine az (ρ:=[some (.p r)]) rfl ?_
 induction h <;>exact q
def Rb(h:fC I r)(q:∀L',L <+:L'->Q (.r (aa I)) (st z L')):ar (ai (n+4) 16 [.o 2,.p r] (st z L)) Q:=by
 refine az (ρ:=[some (.o 2),some (.p r),none,none]) rfl ?_;refine Fx h λL1 h1=>?_;refine Fy (n:=n+2) h ?_;exact q L1 h1
structure u8(z:Z)(U:List Nat)(kd:Nat->List Nat):Prop where
 a:∀u∈U,∃r,z.a[u]?=some r/\fC (kd u) r
 d:∀u∈U,∀k∈kd u,k∈U
 c:U.length < 1000
 b:∀u∈U,(kd u).length < 500
abbrev jy(kd:Nat->List Nat)(S:List Nat):List Nat->Nat
 |[]=>0|u::U=>(if u∈S then 0 else(kd u).length)+jy kd S U
def rU:jy kd S (u::U)=(if u∈S then 0 else(kd u).length)+jy kd S U:=rfl
theorem Fz(h:∀x∈S,x∈S'):∀U,jy kd S' U<=jy kd S U
 |[]=>av _|u::U=>by
  have:=Fz (kd:=kd) h U;rw[rU,rU];by_cases h1:u∈S
  .rw[ah h1,ah (h u h1)];exact "~755BlxOtsY0" this
  .rw[ab h1];split <;>lia
theorem y1(h:∀x∈S,x∈S')(A:w∉S)(k:w∈S'):∀{U:List Nat},w∈U->jy kd S' U+(kd w).length<=jy kd S U
 |[],c=>by cases c
 |u::U,c=>by
  rw[rU,rU];by_cases e:w=u
  .subst e
   have v1:=Fz (kd:=kd) h U;rw[ab A,ah k];exact "~1b<?14G1hMIW" v1
  .have a:w∈U:=by
    rcases bH.mp c with q |q
    .exact absurd q e
    .exact q
   have v2:=y1 (kd:=kd) h A k a;by_cases h1:u∈S
   .rw[ah h1,ah (h u h1)];exact "~1Jz>ZIvJS<yYLb" v2
   .rw[ab h1];split <;>lia
def cJ:(aa l).length=l.length:=bX _
def h_:aa (l++m)=aa l++aa m:=kP
def Rc(h:L[i]?=some (.a (aa W)))(Y:W.length < 4194304):iM (st z L) (.o (i+14))=some (!W.isEmpty):=by
 refine(bg (iU (σ:=st z L) h) (dY (show(aa W).length < bs by rw[cJ];exact Y) rfl)).trans ?_
 induction W <;>rfl
def FA{W:List Nat}{w:Nat}(h:L[i]?=some (.a (aa (W++[w]))))(Y:W.length+1 < 4194304)(q:Q (.j w) (st z (L.set i (.a (aa W))))):bm (cm .d (.o (i+14)) [] (st z L)) Q:=by
 refine aP ?_ q;have e:(aa (W++[w])).getLast?=some (.j w):=by rw[h_];simp[aa]
 have U:(aa (W++[w])).dropLast=aa W:=by rw[h_];simp[aa]
 refine bg rfl (bg h (bg e (dY (by rw[cJ,ca];exact Y) ?_)));rw[U];rfl
def y3(h:L[i]?=some (.a (aa W)))(Y:W.length+I.length < 4194304)(q:Q .z (st z (L.set i (.a (aa (W++I)))))):bm (cm .b (.o (i+14)) [.r (aa I)] (st z L)) Q:=by
 refine aP ?_ q;refine bg rfl (bg h (bg rfl (bg rfl (bg rfl (dY (by rw[cJ,cJ];exact Y) ?_)))));rw[h_];rfl
def ed(m:iH)(h:L[i]?=some (.a W))(hm:m=.a\/m=.b\/m=.d):gH m (.o (i+14)) (st z L)=some ((),st z L):=by
 exact yP (σ:=st z L) h (by rcases hm with e |e |e <;>rw[e] <;>rfl)
structure FC(U:List Nat)(kd:Nat->List Nat)(S S':List Nat):Prop where
 a:∀x∈S',x∈U
 d:∀x∈S,x∈S'
 b:S'.Nodup
 c:∀x∈S',∀k∈kd x,k∈S'
abbrev FD:List CS:=[.g 4 (.w .d (.d 3) []),.h (.z [.n .g (.d 4) (.g 0),.n .d (.d 4) (.d 2)]) [.n (.d 2) (.d 4) (.g 1),.k (.w .b (.d 3) [.j 16 [.d 0,.h (.q (.d 0) 18) (.d 4)]])] []]
def Rd{U:List Nat}{kd:Nat->List Nat}(c:u8 z U kd)(hz:z.a.length < 4194304){a:Option V}(v:i≠j)(A:L0.length<=i)(T:L0.length<=j):∀{W S:List Nat} {L:List O} {o:Option V},W.length+jy kd S U < f->f<=1000000->L0 <+:L->
  L[i]?=some (dI S)->L[j]?=some (.a (aa W))->S.Nodup->(∀x∈S,x∈U)->(∀x∈W,x∈U)->(∀x∈S,∀k∈kd x,k∈S\/k∈W)->
  (∀L' S' o,L0 <+:L'->L'[i]?=some (dI S')->FC U kd (S++W) S'->K .a [some (.o 2),a,some (.o (i+14)),some (.o (j+14)),o] (st z L'))->
  hU (λρ k σ=>bK (ai (n+4)) (.d 3) ρ (λx σ=>eu σ x λt=>k t σ) σ) (λρ k σ=>aM (ai (n+4)) FD ρ k σ) f [some (.o 2),a,some (.o (i+14)),some (.o (j+14)),o] K (st z L):=by
 induction f with
 |zero=>
  intro W S L o hf _ _ _ _ _ _ _ _ _;exact absurd hf (B' _)
 |succ f ih=>
  intro W S L o hf g Y hi G u m hW hk q;have I:W.length < 4194304:= "~=PgQYChJbs>nUJZ4MVX7" g hf;show eu (st z L) (.o (j+14)) _;refine tW (Rc G I) ?_;rcases List.eq_nil_or_concat W with e |⟨J,w,e⟩
  .subst e
   refine q L S o Y hi ⟨m,λx H=>by simpa using H,u,λx H k y=>by simpa using hk x H k y⟩
  .rw[List.concat_eq_append]at e
   subst e;have oG:(!(J++[w]).isEmpty)=true:=by induction J <;>rfl
   rw[oG];simp only[ca,bI,dK]at hf;have N:=hW w (by simp);obtain⟨r,hr,Re⟩:=c.a w N;refine ag (ed .d G (.inr (.inr rfl))) ?_;refine FA G ("~7DZJWyB3ZMavwKv?Dw9o9Fqc;7" g hf) ?_;have gw:(L.set j (.a (aa J)))[i]?=some (dI S):=bz hi (Ne.symm v);have B:(L.set j (.a (aa J)))[j]?=some (.a (aa J)):=aT G;have p1:L0 <+:L.set j (.a (aa J)):=bE Y T;generalize L.set j (.a (aa J))=L1 at gw B p1;refine ag (yV gw) ?_;by_cases hm:w∈S
   .rw[b5 (dF.mpr hm)]
    refine ih ("~17ts6d9n17Q6|juz" hf) ("~?t<a<SpUFV=h5FkTRp" g) p1 gw B u m (λx H=>hW x (by simp[H])) (λx H k y=>?_) λL' S' o' h1 h2 h3=>q L' S' o' h1 h2 ⟨h3.a,λx H=>?_,h3.b,h3.c⟩
    .rcases hk x H k y with h |h
     .exact .inl h
     .rcases aZ.mp h with h |h
      .exact .inr h
      .rw[aB]at h;subst h;exact .inl hm
    .refine h3.d x ?_
     rcases aZ.mp H with h |h
     .simp[h]
     .rcases aZ.mp h with h |h
      .simp[h]
      .rw[aB]at h;subst h;simp[hm]
   .rw[cd λe=>hm (dF.mp e)]
    have y4:S.length < 4194304:=fK (ju z.a.length u λx H=>by
     obtain⟨r,hr,_⟩:=c.a x (m x H);exact(bW.mp hr).1) hz
    refine m6 gw (rO y4) rQ ?_;have nh:(L1.set i (dI (dd S [w])))[i]?=some (dI (dd S [w])):=aT gw;have p:(L1.set i (dI (dd S [w])))[j]?=some (.a (aa J)):=bz B v;have p2:L0 <+:L1.set i (dI (dd S [w])):=bE p1 A;generalize L1.set i (dI (dd S [w]))=L2 at nh p p2;refine ag (ed .b p (.inr (.inl rfl))) ?_;refine ag (cp hz hr) ?_;refine Rb Re λE p3=>?_;have y5:=c.b w N;refine y3 (aC p p3) ("~1<B1JeKgBr8zhGtQ8g1bfOHh_DidWcg" g hf y5) ?_;have y6:=y1 (kd:=kd) (S:=S) (S':=dd S [w]) (w:=w) (λx H=>fp.mpr (.inl H)) hm (fp.mpr (.inr (by simp))) N;refine ih (by simp only[ca];exact "~2r18h2aExfQl_^Eibxrut" y6 hf) ("~?t<a<SpUFV=h5FkTRp" g) (bE (p2.trans p3) T) (bz (aC nh p3) (Ne.symm v)) (aT (aC p p3)) (m9 u) (λx H=>?_) (λx H=>?_) (λx H k y=>?_) λL' S' o' h1 h2 h3=>q L' S' o' h1 h2 ⟨h3.a,λx H=>?_,h3.b,h3.c⟩
    .rcases fp.mp H with h |h
     .exact m x h
     .rw[aB]at h;subst h;exact N
    .rcases aZ.mp H with h |h
     .exact hW x (by simp[h])
     .exact c.d w N x h
    .rcases fp.mp H with h |h
     .rcases hk x h k y with h |h
      .exact .inl (fp.mpr (.inl h))
      .rcases aZ.mp h with h |h
       .exact .inr (by simp[h])
       .exact .inl (fp.mpr (.inr h))
     .rw[aB]at h;subst h;exact .inr (by simp[y])
    .refine h3.d x ?_
     rcases aZ.mp H with h |h
     .exact dz _ (fp.mpr (.inl h))
     .rcases aZ.mp h with h |h
      .simp[h]
      .exact dz _ (fp.mpr (.inr h))
end
section
variable{C:CT}{z:Z}{L:List O}{n t s i:Nat}{Q:V->St->Prop}{l ls lt:List Nat}{σ:St}
abbrev co:List Nat:=[0,1,3,4,5,6,7,8,9,10,11,13,16,17,18,19,20,21,22,23,25,26]
abbrev oZ(u:Nat):List Nat:=if u=23 then[6]else if u=25 then[24]else[]
def FE(I:am z)(h:u∈co\/u=2\/u=24):∃r,z.a[u]?=some r/\fC (oZ u) r:=by
 have k:∀u∈2::24::co,∃r,db[u]?=some r/\fC (oZ u) r:=by
  unfold co;simp only[iF,dW,mw,mx,my];refine⟨?_,?_,?_,?_,?_,?_,?_,?_,?_,?_,?_,?_,?_,?_,?_,?_,?_,?_,?_,?_,?_,?_,?_,?_⟩ <;>refine⟨_,rfl,?_⟩
  all_goals first |exact .j _ |exact .p _ _ |exact .d _ _ |exact .h _ _ |exact .n _ _ _ _ |exact .m _ _ _ _ |exact .o |exact .a 6 |exact .a 24 |exact .g 0
 obtain⟨r,a,b⟩:=k u (by rcases h with h |h |h <;>simp[h]);exact⟨r,I.at a,b⟩
abbrev lK(t:Nat)(l:List Nat):List Nat:=t::6::(l++if 25∈l then[24]else[])
abbrev lL(t:Nat)(l:List Nat)(u:Nat):List Nat:=if 2<=l.length/\u=t then l else oZ u
def lM:∀{l:List Nat},l.Nodup->(∀x∈l,x∈co)->l.length<=29:=λu h=>ju 29 u λx H=>by
 have:∀x∈co,x < 29:=by decide
 exact this x (h x H)
def u9(h:x∈lK t l):x=t\/x=6\/x∈l\/(x=24/\25∈l):=by
 unfold lK at h;rcases bH.mp h with h |h
 .exact .inl h
 .rcases bH.mp h with h |h
  .exact .inr (.inl h)
  .rcases aZ.mp h with h |h
   .exact .inr (.inr (.inl h))
   .split at h
    .rename_i m;rw[aB]at h;exact .inr (.inr (.inr ⟨h,m⟩))
    .cases h
def FG(I:am z)(h:aO z t l)(o:∀x∈l,x∈co):u8 z (lK t l) (lL t l):=by
 have Y:=lM h.f o;have f:∀u k,k∈oZ u->(u=23/\k=6)\/(u=25/\k=24):=λu k U=>by
  unfold oZ at U
  split at U
  .rename_i e;rw[aB]at U;exact .inl ⟨e,U⟩
  .split at U
   .rename_i e;rw[aB]at U;exact .inr ⟨e,U⟩
   .cases U
 have N:(l=[]/\t=2)\/l=[t]\/(2<=l.length/\z.a[t]?=some (du l)/\t∉l/\t≠6/\t≠24):=by
  rcases h.c with e |e |⟨a,b⟩
  .exact .inl e
  .exact .inr (.inl e)
  .refine .inr (.inr ⟨a,b,λq=>?_,λq=>?_,λq=>?_⟩)
   .obtain⟨_,r,H,J⟩:=h.d t q
    rw[b]at H;cases H;obtain⟨k,rest,e,U⟩:=J.head;unfold du at e;cases e;exact U rfl
   .subst q;rw[I.at (t:=6) rfl]at b;cases b
   .subst q;rw[I.at (t:=24) rfl]at b;cases b
 refine⟨λu c=>?_,λu c k U=>?_,?_,λu c=>?_⟩
 .unfold lL
  by_cases T:2<=l.length/\u=t
  .rw[ah T]
   rcases N with⟨e,_⟩ |e |⟨_,e,_⟩
   .rw[e]at T;simp at T
   .rw[e]at T;simp at T
   .rw[T.2];exact⟨_,e,.c l ("~PKqYpRW6m>" Y)⟩
  .rw[ab T]
   refine FE I ?_;rcases u9 c with e |e |e |⟨e,_⟩
   .subst e
    rcases N with⟨_,e⟩ |e |⟨e,_⟩
    .exact .inr (.inl e)
    .exact .inl (o u (by rw[e];simp))
    .exact absurd ⟨e,rfl⟩ T
   .subst e;exact .inl (by decide)
   .exact .inl (o u e)
   .exact .inr (.inr e)
 .unfold lL at U
  unfold lK
  split at U
  .exact b6 _ (b6 _ (dz _ U))
  .rename_i T
   rcases f u k U with⟨e1,w⟩ |⟨e1,w⟩
   .subst w;simp
   .subst w
    have m:25∈l:=by
     subst e1;rcases u9 c with e |e |e |⟨e,_⟩
     .subst e
      rcases N with⟨_,e⟩ |e |⟨e,_⟩
      .cases e
      .rw[e];simp
      .exact absurd ⟨e,rfl⟩ T
     .cases e
     .exact e
     .cases e
    rw[ah m];simp
 .unfold lK
  simp only[bI,ca]
  split
  .simp;exact "~?pz^fPCq9smCpZO_61" Y
  .simp;exact "~CjhzYQInN?oHNS|^" Y
 .unfold lL oZ
  split
  .exact "~KM1p7|qs>4kx" Y
  .split
   .decide
   .split <;>decide
def FH:(∀u∈U,(kd u).length < 500)->jy kd S U<=U.length*500:=by
 induction U with
 |nil=>
  intro _;exact bb _
 |cons u U ih=>
  intro h;have h1:=ih λx H=>h x (b6 _ H);have h2:=h u br;rw[rU];simp only[bI]
  split <;>lia
def Rg(c:u8 z U kd)(hz:z.a.length < 4194304)(J:t∈U)(q:∀L' S,L <+:L'->FC U kd [t] S->Q (.r (aa (bw S))) (st z L')):ar (ai (n+5) 17 [.o 2,.j t] (st z L)) Q:=by
 refine az (ρ:=[some (.o 2),some (.j t),none,none,none]) rfl ?_;refine bY ?_;refine bY ?_;have e1:(L++[O.b]++[.a [.j t]])[L.length]?=some (dI []):=aC bk bp;have w:(L++[O.b]++[.a [.j t]])[(L++[O.b]).length]?=some (.a (aa [t])):=bk;have Y:L <+:L++[O.b]++[.a [.j t]]:=bp.trans bp;have l1:(L++[O.b]).length=L.length+1:=by simp
 rw[l1]at w ⊢;generalize L++[O.b]++[.a [.j t]]=L1 at e1 w Y;have j:ol=1000000:=rfl;show hU (λρ k σ=>bK (ai (n+4)) (.d 3) ρ (λx σ=>eu σ x λt=>k t σ) σ) (λρ k σ=>aM (ai (n+4)) FD ρ k σ) ol [some (.o 2),some (.j t),some (.o (L.length+14)),some (.o (L.length+1+14)),none] _ (st z L1);have T:=FH (S:=[]) (U:=U) c.b;have N:=c.c;refine Rd (L0:=L) c hz ("~7y5QJo18>" id) (av _) ("~2ht<WbGf" id) (by simp only[bI,dK];exact "~H95NS?3Ra4dpv2^bBonFH4fTVgn3l" j T N) (av _) Y e1 w iE (λx H=>nomatch H) (λx H=>by rw[aB]at H;subst H;exact J) (λx H=>nomatch H) λL2 S o p2 h2 g=>?_;have y:S.length < 4194304:=fK (ju z.a.length g.b λx H=>by
  obtain⟨r,I,_⟩:=c.a x (g.a x H);exact(bW.mp I).1) hz
 have a:b1 .c (.o (L.length+14)) (st z L2)=some (.r (aa (bw S)),st z L2):=by
  exact Fd (i:=L.length+14) h2 y
 refine aP a ?_;exact q L2 S p2 g
def Rh{g:Nat->Bool}{ρ:ba}:∀{L:List O} {out:List V} {K:St->Prop},L[j]?=some (.a out)->out.length+ps.length < 4194304->
  (∀p∈ps,∀L (Q:Bool->St->Prop),(∀L',L <+:L'->Q (g p) (st z L'))->fi C conds (ρ.set sl (some (.j p))) Q (st z L))->
  (∀p∈ps,g p=true->∀L (Q:V->St->Prop),(∀L',L <+:L'->Q (f p) (st z L'))->bK C e (ρ.set sl (some (.j p))) Q (st z L))->
  (∀L',L'[j]?=some (.a (out++(ps.filter g).map f))->(∀i o,i≠j->L[i]?=some o->L'[i]?=some o)->L.length<=L'.length->K (st z L'))->
  ew (λx k σ=>fi C conds (ρ.set sl (some x)) (λb σ=>fh b (bK C e (ρ.set sl (some x)) (λv σ=>bm (cm .a (.o (j+14)) [v] σ) λG σ=>k σ) σ) (k σ)) σ) none (aa ps) K (st z L):=by
 induction ps with
 |nil=>
  intro L out K ho Y N J q;refine(q L ?_ (λi o G h=>h) (av _):_);rw[Kd,qt,b_];exact ho
 |cons p ps ih=>
  intro L out K ho Y N J q;simp only[bI]at Y;show fi C conds (ρ.set sl (some (.j p))) _ (st z L);refine N p br L _ λL1 T=>?_;rw[jf]at q;generalize H:g p=E
  induction E using aS with
  |false=>
   rw[H]at q;refine ih (aC ho T) ("~68TW_IaZws61|" Y) (λU a=>N U (b6 _ a)) (λU a=>J U (b6 _ a)) λL' h1 h2 h3=>q L' h1 (λi o hi h=>h2 i o hi (aC h T)) (aL T.length_le h3)
  |true=>
   rw[H]at q;refine J p br H L1 _ λL2 y=>?_;have r:=T.trans y;refine ec (aC ho r) ("~1f<c=y4WPi=D" Y) ?_;refine ih (aT (aC ho r)) (by simp only[ca,bI,dK];exact "~4ENzm8VZBFXcdnB=y" Y) (λU a=>N U (b6 _ a)) (λU a=>J U (b6 _ a)) λL' h1 h2 h3=>q L' ?_ (λi o hi h=>h2 i o hi (bz (aC h r) (Ne.symm hi))) ?_
   .rw[c7]at h1;exact h1
   .rw[jb]at h3;exact aL r.length_le h3
def y7{g:Nat->Bool}{ρ:ba}(Y:ps.length < 4194304)
  (U:∀p∈ps,∀L (Q:Bool->St->Prop),(∀L',L <+:L'->Q (g p) (st z L'))->fi C conds (ρ.set sl (some (.j p))) Q (st z L))
  (J:∀p∈ps,g p=true->∀L (Q:V->St->Prop),(∀L',L <+:L'->Q (f p) (st z L'))->bK C e (ρ.set sl (some (.j p))) Q (st z L))
  (q:∀L',L <+:L'->K (.r ((ps.filter g).map f)) (st z L')):
  bm (gk (.a []) (st z L)) λr σ=>ew (λx k σ=>fi C conds (ρ.set sl (some x)) (λb σ=>fh b (bK C e (ρ.set sl (some x)) (λv σ=>bm (cm .a r [v] σ) λH σ=>k σ) σ) (k σ)) σ) none (aa ps) (λσ=>bm (hD r σ) K) σ:=by
 refine bY ?_;refine Rh (g:=g) (f:=f) (out:=[]) (j:=L.length) bk (by simpa using Y) U J λL1 h1 h2 h3=>?_;rw[di]at h1;refine f0 h1 (q _ ?_);exact bE (rT (λi o hi h=>h2 i o hi (aC h bp)) (aL bp.length_le h3) (av _)) (av _)
theorem FJ:∀ps:List Nat,qW σ (ps.map λJ=>V.p [])=some false
 |[]=>rfl|p::ps=>bg (x:=iM σ (.p [])) (a:=false) (ds (show 0 < bs from bP rfl)) (dZ (FJ ps))
theorem FK:∀l:List Nat,qV (aa l)=some (l.map λ(k:Nat)=>(k:Int))
 |[]=>rfl|x::l=>by
  show(qV (aa l)).map _=_;rw[FK l];rfl
def Ri{v:V}{l:List V}(N:bt σ v=some (true,l))(Y:l.length < 4194304)(h:qW σ l=some b):b1 .e v σ=some (.w b,σ):=by
 show(bt σ v).bind _=_;rw[N];exact dY ⟨rfl,Y⟩ (dZ h)
def FL(h:bt σ v=some (true,aa S))(Y:S.length < 4194304):b1 .c v σ=some (.r (aa (bw S)),σ):=by
 have hi:mJ σ v=some (S.map λ(k:Nat)=>(k:Int)):=by
  unfold mJ;rw[h];exact(ds rfl).trans (FK S)
 show(mJ σ v).bind _=_;rw[hi];refine dY (by rw[bX];exact Y) ?_;rw[yX,ql];rfl
def Rj(Y:l.length < 4194304):b1 .c (.r (aa l)) σ=some (.r (aa (bw l)),σ):=by
 exact FL (S:=l) rfl Y
def y8{l:List V}(Y:l.length < 4194304):b1 .b (.r l) σ=some (.p l,σ):=by
 exact yQ rfl Y
abbrev d7(l:List Nat):List Nat:=if 25∈l then[0]else[]
def u'(I:am z)(hz:z.a.length < 4194304)(h:aO z t l)(o:∀x∈l,x∈co)(q:∀L',L <+:L'->Q (.p (aa (d7 l))) (st z L')):ar (ai (n+6) 18 [.o 2,.j t] (st z L)) Q:=by
 have c:=FG I h o;have Rl:t∈lK t l:=br;refine az (ρ:=[some (.o 2),some (.j t),none,none,none,none,none,none,none]) rfl ?_;refine Rg c hz Rl λL1 S p1 dD=>?_;have hS:∀x∈bw S,x∈lK t l:=λx H=>dD.a x (m7.mp H);have y:(bw S).length < 4194304:=by
  rw[oU];exact fK (ju z.a.length dD.b λx H=>by obtain⟨r,hr,_⟩:=c.a x (dD.a x H);exact(bW.mp hr).1) hz
 have j:(bw S).Nodup:=yS dD.b;have A:24∈bw S↔25∈l:=by
  rw[m7];refine⟨λq=>?_,λq=>?_⟩
  .rcases u9 (dD.a 24 q)with e |e |e |⟨_,e⟩
   .subst e
    rcases h.c with⟨_,e⟩ |e |⟨_,e⟩
    .cases e
    .exact absurd (o 24 (by rw[e];simp)) (by decide)
    .rw[I.at (t:=24) rfl]at e;cases e
   .cases e
   .exact absurd (o 24 e) (by decide)
   .exact e
  .have ht:=dD.d t (by simp)
   rcases h.c with⟨e,_⟩ |e |⟨a,b⟩
   .rw[e]at q;cases q
   .rw[e,aB]at q
    subst q;refine dD.c 25 ht 24 ?_;unfold lL;rw[ab (by rw[e];simp)];decide
   .have m:25∈S:=dD.c t ht 25 (by unfold lL;rw[ah ⟨a,rfl⟩];exact q)
    refine dD.c 25 m 24 ?_;unfold lL;rewrite (occs:=.all) [ab λe=>?_]
    .decide
    .rw[<-e.2]at b;rw[I.at (t:=25) rfl]at b;cases b
 have u:∀x∈bw S,∃r,z.a[x]?=some r/\((x=24/\r=[.j 10,.j 0])\/(x≠24/\∃k rest,r=.j k::rest/\k≠10)):=λx H=>by
  by_cases e:x=24
  .subst e;exact⟨_,I.at rfl,.inl ⟨rfl,rfl⟩⟩
  .obtain⟨r,hr,U⟩:=c.a x (hS x H)
   refine⟨r,hr,.inr ⟨e,?_⟩⟩;generalize lL t l x=kk at U
   induction U with
   |g k=>
    exfalso;rcases u9 (hS x H)with q |q |q |⟨q,_⟩
    .subst q
     rcases h.c with⟨_,e⟩ |e' |⟨_,e'⟩
     .subst e;rw[jx I]at hr;cases hr
     .have o6:=o x (by rw[e'];simp)
      have key:∀x∈co,∀k,db[x]?≠some (eN k):=by
       unfold co;simp only[iF,dW,mw,mx,my];refine⟨?_,?_,?_,?_,?_,?_,?_,?_,?_,?_,?_,?_,?_,?_,?_,?_,?_,?_,?_,?_,?_,?_⟩ <;>intro k e <;>cases e
      obtain⟨r',v,_⟩:=FE I (.inl o6);have T:∃r,db[x]?=some r:=⟨_,iC (show x < db.length from(by decide:∀x∈co,x < 29) x o6)⟩;obtain⟨r2,T⟩:=T;rw[I.at T]at hr;cases hr;exact key x o6 k T
     .rw[e']at hr;cases hr
    .subst q;rw[I.at (t:=6) rfl]at hr;cases hr
    .have key:∀x∈co,∀k,db[x]?≠some (eN k):=by
      unfold co;simp only[iF,dW,mw,mx,my];refine⟨?_,?_,?_,?_,?_,?_,?_,?_,?_,?_,?_,?_,?_,?_,?_,?_,?_,?_,?_,?_,?_,?_⟩ <;>intro k e <;>cases e
     have o6:=o x q;obtain⟨r2,T⟩:∃r,db[x]?=some r:=⟨_,iC (show x < db.length from(by decide:∀x∈co,x < 29) x o6)⟩;rw[I.at T]at hr;cases hr;exact key x o6 k T
    .exact e q
   |_=>exact⟨_,_,rfl,by decide⟩
 have N:∀L',ll (.r (aa (bw S))) (st z L')=some ((none,aa (bw S)),st z L'):=λL'=>(hY (L:=L') y).a _ (aA _);refine ag (N _) ?_;refine y7 (g:=λC=>true) (f:=λC=>.p []) (conds:=[]) (ρ:=[some (.o 2),some (.j t),some (.r (aa (bw S))),none,none,none,none,none,none]) (sl:=7) y (λp J L' Q' B=>B L' (aA _)) (λp J C L' Q' B=>?_) λL2 p2=>?_
 .obtain⟨r,hr,U⟩:=c.a p (hS p J)
  refine ag (cp hz hr) ?_;exact Fy (n:=n+4) U (B L' (aA _))
 .have Rm:b1 .e (.r (((bw S).filter λC=>true).map λC=>V.p [])) (st z L2)=some (.w false,st z L2):=by
   have G:(((bw S).filter λC=>true).map λC=>V.p []).length < bs:=by
    rw[bX];exact fK (jQ _ _) y
   exact Ri rfl G (FJ _)
  refine aP Rm ?_;refine ag (N _) ?_;refine y7 (g:=λx=>x==24) (f:=λC=>.j 0) (conds:=[.n .a (.h (.h (.q (.d 0) 18) (.d 8)) (.g 0)) (.p 10)]) (ρ:=[some (.o 2),some (.j t),some (.r (aa (bw S))),none,none,none,none,none,none]) (sl:=8) y (λp J L' Q' B=>?_) (λp J hg L' Q' B=>?_) λE p3=>?_
  .obtain⟨r,hr,U⟩:=u p J
   refine ag (cp hz hr) ?_;rcases U with⟨e,w⟩ |⟨e,k,rest,w,U⟩
   .subst w;subst e
    exact B L' (aA _)
   .subst w
    have:=B L' (aA _);rw[cD.mpr e]at this;exact bF (vF U) this
  .obtain⟨r,hr,U⟩:=u p J
   rcases U with⟨e,w⟩ |⟨e,_⟩
   ·
    refine ag (cp hz hr) ?_;subst w;exact B L' (aA _)
   .exact absurd (aH.mp hg) e
  .have Y:((bw S).filter λx=>x==24).map (λC=>V.j 0)=aa (d7 l):=by
    unfold d7;by_cases m:25∈l
    .rw[ah m]
     have hm:=A.mpr m;have:(bw S).filter (λx=>x==24)=[24]:=by
      refine m8 (uV.filter _) (by simp) (j.filter _) (by simp) λx=>?_;rw[c8,aB,aH];exact⟨λh=>h.2,λh=>by subst h;exact⟨hm,rfl⟩⟩
     rw[this];rfl
    .rw[ab m]
     have:(bw S).filter (λx=>x==24)=[]:=xc.mpr λx H e=>by
      rw[aH]at e;subst e;exact m (A.mp H)
     rw[this];rfl
   rw[Y];have ku:(d7 l).length < 4194304:=by unfold d7;split <;>decide
   refine aP (Rj ku) ?_;have hs:bw (d7 l)=d7 l:=by unfold d7;split <;>rfl
   rw[hs];refine aP (y8 (by rw[cJ];exact ku)) ?_;exact q E (p1.trans (p2.trans p3))
end
section
variable{C:CT}{z:Z}{L:List O}{n t s i:Nat}{Q:V->St->Prop}{l ls lt:List Nat}{σ:St}
abbrev y9:List CS:=[.g 4 (.w .d (.d 3) []),.h (.D [.n .f (.d 4) (.g 0),.n .b (.d 4) (.d 2)]) [.u] [],.n (.d 2) (.d 4) (.g 1),.g 5 (.h (.q (.d 0) 18) (.d 4)),
 .g 6 (.D [.n .b (.h (.d 5) (.g 0)) (.M (.p [.j 14,.j 15,.j 16,.j 17,.j 18,.j 19])),.z [.n .a (.h (.d 5) (.g 0)) (.p 12),.j 28 [.d 0,.d 4]]]),
 .h (.z [.d 6,.n .e (.x .a (.j 18 [.d 0,.d 4])) (.g 0)]) [.j] [],.k (.w .b (.d 3) [.j 14 [.d 5]])]
def Rn(c:u8 z U kd)(hz:z.a.length < 4194304)(v:i≠j)(Ro:L0.length<=i)(T:L0.length<=j):∀{W S:List Nat} {L:List O} {A o2 o3:Option V},W.length+jy kd S U < f->f<=1000000->L0 <+:L->
  L[i]?=some (dI S)->L[j]?=some (.a (aa W))->S.Nodup->(∀x∈S,x∈U)->(∀x∈W,x∈U)->
  (∀L' A o2 o3,L0 <+:L'->K .a [some (.o 2),a,some (.o (i+14)),some (.o (j+14)),A,o2,o3] (st z L'))->
  hU (λρ k σ=>bK (ai (n+3)) (.n .e (.x .a (.d 3)) (.g 0)) ρ (λx σ=>eu σ x λt=>k t σ) σ) (λρ k σ=>aM (ai (n+3)) y9 ρ k σ) f [some (.o 2),a,some (.o (i+14)),some (.o (j+14)),A,o2,o3] K (st z L):=by
 induction f with
 |zero=>
  intro W S L A o2 o3 hf _ _ _ _ _ _ _ _;exact absurd hf (B' _)
 |succ f ih=>
  intro W S L A o2 o3 hf g Y hi hj u m hW q;have I:W.length < 4194304:= "~=PgQYChJbs>nUJZ4MVX7" g hf;have y:b1 .a (.o (j+14)) (st z L)=some (.j W.length,st z L):=by
   have:=rJ (yR (z:=z) hj) (by rw[cJ];exact I);rw[cJ]at this;exact this
  show bm (b1 .a (.o (j+14)) (st z L)) _;refine aP y ?_;rcases List.eq_nil_or_concat W with e |⟨J,w,e⟩
  .subst e
   exact q L A o2 o3 Y
  .rw[List.concat_eq_append]at e
   subst e;have G:decide ((0:Int) < ((J++[w]).length:Nat))=true:=b5 (by simp only[ca,bI,dK];exact "~6x?|u7^9qJBa^" id);simp only[ca,bI,dK]at hf;have N:=hW w (by simp);obtain⟨r,hr,o⟩:=c.a w N;refine bT G ?_;refine ag (ed .d hj (.inr (.inr rfl))) ?_;refine FA hj ("~7DZJWyB3ZMavwKv?Dw9o9Fqc;7" g hf) ?_;have gw:(L.set j (.a (aa J)))[i]?=some (dI S):=bz hi (Ne.symm v);have B:(L.set j (.a (aa J)))[j]?=some (.a (aa J)):=aT hj;have p1:L0 <+:L.set j (.a (aa J)):=bE Y T;generalize L.set j (.a (aa J))=L1 at gw B p1;refine ag (kr gw) ?_;by_cases hm:w∈S
   .rw[b5 (dF.mpr hm)]
    exact ih ("~17ts6d9n17Q6|juz" hf) ("~?t<a<SpUFV=h5FkTRp" g) p1 gw B u m (λx H=>hW x (by simp[H])) q
   .rw[cd λe=>hm (dF.mp e)]
    have y4:S.length < 4194304:=fK (ju z.a.length u λx H=>by
     obtain⟨r,hr,_⟩:=c.a x (m x H);exact(bW.mp hr).1) hz
    refine m6 gw (rO y4) rQ ?_;have nh:(L1.set i (dI (dd S [w])))[i]?=some (dI (dd S [w])):=aT gw;have p:(L1.set i (dI (dd S [w])))[j]?=some (.a (aa J)):=bz B v;have p2:L0 <+:L1.set i (dI (dd S [w])):=bE p1 Ro;generalize L1.set i (dI (dd S [w]))=L2 at nh p p2;refine ag (cp hz hr) ?_;have y5:=c.b w N;have y6:=y1 (kd:=kd) (S:=S) (S':=dd S [w]) (w:=w) (λx H=>fp.mpr (.inl H)) hm (fp.mpr (.inr (by simp))) N;have key:∀(A o3:Option V),bK (ai (n+3)) (.w .b (.d 3) [.j 14 [.d 5]]) [some (.o 2),a,some (.o (i+14)),some (.o (j+14)),A,some (.p r),o3] (λQ σ=>hU (λρ k σ=>bK (ai (n+3)) (.n .e (.x .a (.d 3)) (.g 0)) ρ (λx σ=>eu σ x λt=>k t σ) σ) (λρ k σ=>aM (ai (n+3)) y9 ρ k σ) f [some (.o 2),a,some (.o (i+14)),some (.o (j+14)),A,some (.p r),o3] K σ) (st z L2):=by
     intro A o3;refine ag (ed .b p (.inr (.inl rfl))) ?_;refine Fx o λE p3=>?_;refine y3 (aC p p3) ("~1<B1JeKgBr8zhGtQ8g1bfOHh_DidWcg" g hf y5) ?_;refine ih (by simp only[ca];exact "~2r18h2aExfQl_^Eibxrut" y6 hf) ("~?t<a<SpUFV=h5FkTRp" g) (bE (p2.trans p3) T) (bz (aC nh p3) (Ne.symm v)) (aT (aC p p3)) (m9 u) (λx H=>?_) (λx H=>?_) q
     .rcases fp.mp H with h |h
      .exact m x h
      .rw[aB]at h;subst h;exact N
     .rcases aZ.mp H with h |h
      .exact hW x (by simp[h])
      .exact c.d w N x h
    generalize kd w=ks at o
    induction o <;>exact key _ _
def FM(I:am z)(hz:z.a.length < 4194304)(h:aO z t l)(o:∀x∈l,x∈co)(q:∀L',L <+:L'->Q (.w false) (st z L')):ar (ai (n+4) 32 [.o 2,.j t] (st z L)) Q:=by
 have c:=FG I h o;refine az (ρ:=[some (.o 2),some (.j t),none,none,none,none,none]) rfl ?_;refine bY ?_;refine bY ?_;have e1:(L++[O.b]++[.a [.j t]])[L.length]?=some (dI []):=aC bk bp;have w:(L++[O.b]++[.a [.j t]])[(L++[O.b]).length]?=some (.a (aa [t])):=bk;have Y:L <+:L++[O.b]++[.a [.j t]]:=bp.trans bp;have l1:(L++[O.b]).length=L.length+1:=by simp
 rw[l1]at w ⊢;generalize L++[O.b]++[.a [.j t]]=L1 at e1 w Y;have j:ol=1000000:=rfl;show hU (λρ k σ=>bK (ai (n+3)) (.n .e (.x .a (.d 3)) (.g 0)) ρ (λx σ=>eu σ x λt=>k t σ) σ) (λρ k σ=>aM (ai (n+3)) y9 ρ k σ) ol [some (.o 2),some (.j t),some (.o (L.length+14)),some (.o (L.length+1+14)),none,none,none] _ (st z L1);have T:=FH (S:=[]) (U:=lK t l) c.b;have N:=c.c;refine Rn (L0:=L) c hz ("~7y5QJo18>" id) (av _) ("~2ht<WbGf" id) (by simp only[bI,dK];exact "~H95NS?3Ra4dpv2^bBonFH4fTVgn3l" j T N) (av _) Y e1 w iE (λx H=>nomatch H) (λx H=>by rw[aB]at H;subst H;exact br) λL2 A J f p2=>?_;exact q L2 p2
end
section
variable{C:CT}{z:Z}{L:List O}{n t s i:Nat}{Q:V->St->Prop}{l ls lt:List Nat}{σ:St}
def ic(h:L[i]?=some (aI m)):b1 .a (.o (i+14)) (st z L)=some (.j (if m.isSome then 1 else 0),st z L):=by
 obtain⟨es,J,Y⟩:=Fv m;refine(ER (oT (z:=z) h (by induction m <;>rfl)) (lF h) J Y).trans ?_
 induction m <;>(cases J;rfl)
def Rp{k:Nat}(h:L[i]?=some (aI (some (p,v)))):cm .c (.o (i+14)) [.j k,.j t] (st z L)=some (.j (if p=k then v else t:Nat),st z L):=by
 refine(yO (σ:=st z L) (r:=cU (k:Int) [((p:Int),V.j v)]) h rfl).trans ?_;rw[xy];by_cases e:p=k
 .rw[ah ("~6Y2BDWIX1Z?" e),ah e];rfl
 .rw[ab ("~1_Ou3jsFT<tJ" e),ab e];rfl
def Rq(h:L[i]?=some (aI m)):gH .c (.o (i+14)) (st z L)=some ((),st z L):=by
 exact yP (σ:=st z L) h (by induction m <;>rfl)
inductive kw:List V->Prop
 |a s:kw [.j 1,.u s]
 |j (b f:Int):kw [.j 2,.j b,.j f]
 |c s (f:Int):kw [.j 3,.u s,.j f]
 |d (i f:Int):kw [.j 4,.j i,.j f]
 |h (e:Int) nm (i f:Int):kw [.j 5,.j e,.u nm,.j i,.j f]
 |g (e:Int) nm s (f:Int):kw [.j 5,.j e,.u nm,.u s,.j f]
def FO(h:L[i]?=some (aI none))(q:Q (.j t) (st z L)):ar (ai (n+1) 26 [.o 10,.j t,.o (i+14)] (st z L)) Q:=by
 refine az (ρ:=[some (.o 10),some (.j t),some (.o (i+14)),none]) rfl ?_;refine aP (ic h) ?_;exact q
def lN{v:Nat}(hz:z.a.length < 4194304)(h:L[i]?=some (aI (some (p,v))))(U:z.a[t]?=some r)(Y:kw r)(q:Q (.j t) (st z L)):ar (ai (n+2) 26 [.o 10,.j t,.o (i+14)] (st z L)) Q:=by
 refine az (ρ:=[some (.o 10),some (.j t),some (.o (i+14)),none]) rfl ?_;refine aP (ic h) ?_;refine ag (cp hz U) ?_
 induction Y <;>
  (refine az (ρ:=[some (.o 10),some (.j t),some (.p _),some (.o (i+14)),none]) rfl ?_
   exact q)
def u_{k:Nat}(hz:z.a.length < 4194304)(h:L[i]?=some (aI (some (p,v))))(Y:z.a[t]?=some (eN k))(q:Q (.j (if p=k then v else t:Nat)) (st z L)):ar (ai (n+1) 26 [.o 10,.j t,.o (i+14)] (st z L)) Q:=by
 refine az (ρ:=[some (.o 10),some (.j t),some (.o (i+14)),none]) rfl ?_;refine aP (ic h) ?_;refine ag (cp hz Y) ?_;refine ag (Rq h) ?_;refine aP (Rp h) ?_;exact q
def va(q:∀L',L <+:L'->Q (.p []) (st z L')):ar (ai (n+1) 21 [.o 10,.p [],m] (st z L)) Q:=by
 refine az (ρ:=[some (.o 10),some (.p []),some m,none]) rfl ?_;refine bY ?_;refine f0 bk ?_;refine aP (a:=.p []) rfl ?_;exact q _ (bE bp (av _))
def vb(q:Q (.p []) σ):ar (ai (n+1) 22 [.o 10,.p [],m] σ) Q:=by
 refine az (ρ:=[some (.o 10),some (.p []),some m]) rfl ?_;exact q
def y'(I:am z)(hz:z.a.length < 4194304)(h:L[i]?=some (aI (some (p,v))))(q:∀L',L <+:L'->Q (.j 11) (st z L')):ar (ai (n+3) 26 [.o 10,.j 11,.o (i+14)] (st z L)) Q:=by
 have c:=I.at (t:=11) (r:=[.j 8,.p [],.p [],.p [],.p [],.p [],.j 0]) rfl;refine az (ρ:=[some (.o 10),some (.j 11),some (.o (i+14)),none]) rfl ?_;refine aP (ic h) ?_;refine ag (cp hz c) ?_;refine az (ρ:=[some (.o 10),some (.p [.j 8,.p [],.p [],.p [],.p [],.p [],.j 0]),some (.o (i+14)),none,none,none,none,none]) rfl ?_;refine bY ?_;refine f0 bk ?_;refine aP (a:=.p []) rfl ?_;refine va (n:=n) λL1 p1=>?_;refine va (n:=n) λL2 p2=>?_;refine vb (n:=n) ?_;refine vb (n:=n) ?_;exact ko (n:=n) I rfl hz c (q L2 ((bE bp (av _)).trans (p1.trans p2)))
def rV{k':Nat}{R:Z->Nat->Prop}(hz:z.a.length < 4194304)(N:z.a[t]?=some (dS k))(h:L[i]?=some (aI (some (p,v))))
  (U:∀L' (Q:V->St->Prop),L <+:L'->(∀f,L' <+:f->Q (.j k') (st z f))->ar (ai (n+2) 26 [.o 10,.j k,.o (i+14)] (st z L')) Q)
  (J:∀L' (K:V->St->Prop),(∀z' (w:Nat),R z' w->K (.j w) (st z' L'))->ar (ai (n+2) 76 [.o 2,.p (dS k')] (st z L')) K)
  (q:∀z' (w:Nat) L',R z' w->L <+:L'->Q (.j w) (st z' L')):ar (ai (n+4) 26 [.o 10,.j t,.o (i+14)] (st z L)) Q:=by
 refine az (ρ:=[some (.o 10),some (.j t),some (.o (i+14)),none]) rfl ?_;refine aP (ic h) ?_;refine ag (cp hz N) ?_;refine az (ρ:=[some (.o 10),some (.p (dS k)),some (.o (i+14)),none,none,none,none,none]) rfl ?_;refine bY ?_;refine U _ _ bp λL1 p1=>?_;have h1:L1[L.length]?=some (.a []):=aC bk p1;refine ec h1 (by decide) ?_;refine f0 (aT h1) ?_;refine aP (a:=.p [.p [.u "p",.j k',.j 0,.j 0]]) rfl ?_;have p2:L <+:(L1.set L.length (O.a ([]++[V.p [V.u "p",V.j k',V.j 0,V.j 0]]))).set L.length .d:=bE (bE (bp.trans p1) (av _)) (av _);generalize y:(L1.set L.length (O.a ([]++[V.p [V.u "p",V.j k',V.j 0,V.j 0]]))).set L.length .d=L2 at p2;refine va (n:=n+1) λE I=>?_;refine va (n:=n+1) λY T=>?_;refine vb (n:=n+1) ?_;refine vb (n:=n+1) ?_;exact J Y _ λz' w r=>q z' w Y r (p2.trans (I.trans T))
abbrev aD:List Nat:=co++[27,28]
abbrev gx(pid v p:Nat):Nat:=if p=26+pid then v else p
def ni(I:am z)(h:p∈aD):∃r,z.a[p]?=some r/\(kw r\/p=11\/p=23\/p=25\/(p=27/\r=eN 1)\/(p=28/\r=eN 2)):=by
 have k:∀p∈aD,∃r,db[p]?=some r/\(kw r\/p=11\/p=23\/p=25\/(p=27/\r=eN 1)\/(p=28/\r=eN 2)):=by
  unfold aD co;simp only[List.cons_append,di,iF,dW,mw,mx,my];refine⟨?_,?_,?_,?_,?_,?_,?_,?_,?_,?_,?_,?_,?_,?_,?_,?_,?_,?_,?_,?_,?_,?_,?_,?_⟩ <;>refine⟨_,rfl,?_⟩
  all_goals first |exact .inl (.a _) |exact .inl (.j _ _) |exact .inl (.c _ _) |exact .inl (.d _ _) |exact .inl (.h _ _ _ _) |exact .inl (.g _ _ _ _) |(refine .inr ?_;simp[eN])
 obtain⟨r,a,b⟩:=k p h;exact⟨r,I.at a,b⟩
def jz(I:am z):z.a[23]?=some (dS 6):=I.at rfl
def lO(I:am z):z.a[25]?=some (dS 24):=I.at rfl
def FP(I:am z):z.a[24]?=some (eN 0):=I.at rfl
def y_(I:am z)(hz:z.a.length < 4194304)(G:pid=1\/pid=2)(h:L[i]?=some (aI (some (pid,v))))(J:p∈aD)(q:∀L',L <+:L'->Q (.j (gx pid v p)) (st z L')):
  ar (ai (n+4) 26 [.o 10,.j p,.o (i+14)] (st z L)) Q:=by
 obtain⟨r,Y,hk⟩:=ni I J;unfold gx at q;rcases hk with hk |hk |hk |hk |⟨hk,e⟩ |⟨hk,e⟩
 .refine lN (n:=n+2) hz h Y hk ?_
  have:p≠26+pid:=λe=>by
   rcases G with e' |e' <;>subst e' <;>subst e
   .rw[I.at (t:=27) (r:=[.j 10,.j 1]) rfl]at Y;cases Y;cases hk
   .rw[I.at (t:=28) (r:=[.j 10,.j 2]) rfl]at Y;cases Y;cases hk
  rw[ab this]at q;exact q L (aA _)
 .subst hk
  rw[ab ("~JF3<B7FAE^<E" id)]at q;exact y' (n:=n+1) I hz h q
 .subst hk
  rw[ab ("~1DpGY4uY<dY;ZC" id)]at q;exact rV (n:=n) (k':=6) (R:=λz' w=>z'=z/\w=23) hz (jz I) h (λL' K p k=>lN (n:=n) hz (aC h p) (I.at (t:=6) rfl) (.a _) (k L' (aA _)))
   (λL' K k=>ko (n:=n+1) I rfl hz (jz I) (k z 23 ⟨rfl,rfl⟩)) (λz' w L' r E=>by obtain⟨rfl,rfl⟩:=r;exact q L' E)
 .subst hk
  rw[ab ("~1DpGY4uY<zwL4h" id)]at q;refine rV (n:=n) (k':=24) (R:=λz' w=>z'=z/\w=25) hz (lO I) h (λL' K p k=>u_ (n:=n+1) hz (aC h p) (FP I) ?_)
   (λL' K k=>ko (n:=n+1) I rfl hz (lO I) (k z 25 ⟨rfl,rfl⟩)) (λz' w L' r E=>by obtain⟨rfl,rfl⟩:=r;exact q L' E)
  rw[ab ("~17ZDAYMPsoBck7zE" G)];exact k L' (aA _)
 .subst e;subst hk
  refine u_ (n:=n+3) hz h Y ?_;have e:(if pid=1 then v else 27)=if 27=26+pid then v else 27:=by
   rcases G with e |e <;>subst e <;>rfl
  rw[e];exact q L (aA _)
 .subst e;subst hk
  refine u_ (n:=n+3) hz h Y ?_;have e:(if pid=2 then v else 28)=if 28=26+pid then v else 28:=by
   rcases G with e |e <;>subst e <;>rfl
  rw[e];exact q L (aA _)
def FQ(I:am z)(room:z.sz+1 < 4194304)(h:L[i]?=some (aI (some (0,v))))(J:p∈co)
  (q:∀z' (U:Nat) L',Gr 1 z z'->L <+:L'->((p≠25/\U=p)\/(p=25/\z'.a[U]?=some (dS v)))->Q (.j U) (st z' L')):ar (ai (n+4) 26 [.o 10,.j p,.o (i+14)] (st z L)) Q:=by
 have hz:=Z.bZ room;obtain⟨r,Y,hk⟩:=ni I (p:=p) (dz _ J);have g0:Gr 1 z z:=(Gr.refl I).mono (bb _);rcases hk with hk |hk |hk |hk |⟨hk,e⟩ |⟨hk,e⟩
 .refine lN (n:=n+2) hz h Y hk (q z p L g0 (aA _) (.inl ⟨λe=>?_,rfl⟩))
  subst e;rw[lO I]at Y;cases Y;cases hk
 .subst hk;exact y' (n:=n+1) I hz h λL' p=>q z 11 L' g0 p (.inl ⟨by decide,rfl⟩)
 .subst hk
  exact rV (n:=n) (k':=6) (R:=λz' w=>z'=z/\w=23) hz (jz I) h (λL' K p k=>lN (n:=n) hz (aC h p) (I.at (t:=6) rfl) (.a _) (k L' (aA _)))
   (λL' K k=>ko (n:=n+1) I rfl hz (jz I) (k z 23 ⟨rfl,rfl⟩)) (λz' w L' r E=>by obtain⟨rfl,rfl⟩:=r;exact q _ 23 L' g0 E (.inl ⟨by decide,rfl⟩))
 .subst hk
  refine rV (n:=n) (k':=v) (R:=λz' w=>Gr 1 z z'/\z'.a[w]?=some (dS v)) hz (lO I) h (λL' K p k=>u_ (n:=n+1) hz (aC h p) (FP I) ?_)
   (λL' K k=>jt (n:=n+1) I rfl (.inl (.g v)) room λz' w g e=>k z' w ⟨g,e⟩) (λz' w L' r E=>q z' w L' r.1 E (.inr ⟨rfl,r.2⟩))
  rw[ah rfl];exact k L' (aA _)
 .subst hk;exact absurd J (by decide)
 .subst hk;exact absurd J (by decide)
end
abbrev rW:List V->List Nat
 |[]=>[]|.j i::r=>i.toNat::rW r|_::r=>rW r
abbrev bi(T:List (List V))(r:Nat):List Nat:=if r=2 then[]else match T[r]? with |some [.j 6,.p l]=>rW l |_=>[r]
theorem za:∀l:List Nat,rW (aa l)=l
 |[]=>rfl|x::l=>by show((x:Int).toNat)::rW (aa l)=_;rw[za l];rfl
def dw.parts(h:T[r]?=some s)(p:dw w b s)(h2:r≠2):bi T r=[r]:=by
 unfold bi;rw[ab h2,h]
 induction p <;>rfl
def aO.bi(I:am z)(h:aO z r l):bi z.a r=l:=by
 rcases oY I h with⟨s,C,J,h2⟩ |⟨C,h2,h3⟩
 .rcases h2 with⟨e,w⟩ |⟨e,w⟩
  .subst e;rw[w];rfl
  .rw[w];exact J.parts C e
 .unfold Mine.Lake.bi;rw[ab h3,C];exact za l
abbrev f9(R:Nat->Nat->Prop):List Nat->List Nat->Prop
 |[],[]=>True|p::ps,r::rs=>R p r/\f9 R ps rs|_,_=>False
theorem vc(h:∀p r,R p r->R' p r):∀{ps rs:List Nat},f9 R ps rs->f9 R' ps rs
 |[],[],_=>trivial|p::ps,r::rs,a=>⟨h p r a.1,vc h a.2⟩|[],_::_,a=>a.elim|_::_,[],a=>a.elim
theorem o8:∀{ps rs:List Nat},f9 R ps rs->rs.length=ps.length
 |[],[],_=>rfl|p::ps,r::rs,a=>aE (·+1) (o8 a.2)
 |[],_::_,a=>a.elim|_::_,[],a=>a.elim
theorem rX:∀{ps rs:List Nat},f9 R ps rs->∀r∈rs,∃p∈ps,R p r
 |[],[],_,r,h=>nomatch h|p::ps,r::rs,a,x,h=>by
  rcases bH.mp h with e |e
  .subst e;exact⟨p,br,a.1⟩
  .obtain⟨q,L,C⟩:=rX a.2 x e;exact⟨q,b6 _ L,C⟩
 |[],_::_,a,_,_=>a.elim|_::_,[],a,_,_=>a.elim
theorem FS:∀{ps rs:List Nat},f9 R ps rs->∀p∈ps,∃r∈rs,R p r
 |[],[],_,r,h=>nomatch h|p::ps,r::rs,a,x,h=>by
  rcases bH.mp h with e |e
  .subst e;exact⟨r,br,a.1⟩
  .obtain⟨q,L,C⟩:=FS a.2 x e;exact⟨q,b6 _ L,C⟩
 |[],_::_,a,_,_=>a.elim|_::_,[],a,_,_=>a.elim
abbrev d8(c:Nat->Nat):List Nat->Nat
 |[]=>0|p::ps=>c p+d8 c ps
section
variable{C:CT}{z:Z}{L:List O}{n t s i:Nat}{Q:V->St->Prop}{l ls lt:List Nat}{σ:St}
def Rr{R:Z->Nat->Nat->Prop}(m:∀c z z' p r,R z p r->Gr c z z'->R z' p r){ρ:ba}:∀{z:Z} {L:List O} {out:List Nat} {K:St->Prop},am z->Lo <+:L->Lo.length<=j->L[j]?=some (.a (aa out))->out.length+ps.length < 4194304->z.sz+d8 c ps<=B->
  (∀p∈ps,∀u L1 (Q:V->St->Prop),am u->u.sz+c p<=B->(∃d,Gr d z u)->Lo <+:L1->(∀z2 (r:Nat) L2,Gr (c p) u z2->L1 <+:L2->R z2 p r->Q (.j r) (st z2 L2))->bK C e (ρ.set sl (some (.j p))) Q (st u L1))->
  (∀z' L' rs,Gr (d8 c ps) z z'->Lo <+:L'->L'[j]?=some (.a (aa (out++rs)))->f9 (R z') ps rs->K (st z' L'))->
  ew (λx k σ=>fi C [] (ρ.set sl (some x)) (λb σ=>fh b (bK C e (ρ.set sl (some x)) (λv σ=>bm (cm .a (.o (j+14)) [v] σ) λ_ σ=>k σ) σ) (k σ)) σ) none (aa ps) K (st z L):=by
 induction ps with
 |nil=>
  intro z L out K I E G ho Y o J q;refine(q z L [] (Gr.refl I) E ?_ trivial:_);rw[b_];exact ho
 |cons p ps ih=>
  intro z L out K I E G ho Y o J q;simp only[bI]at Y;have T:z.sz+(c p+d8 c ps)<=B:=o;show bK C e (ρ.set sl (some (.j p))) _ (st z L);refine J p br z L _ I ("~78v;cMOUIWi" T) ⟨0,Gr.refl I⟩ E λz2 r L2 g p2 A=>?_;refine ec (aC ho p2) (by rw[cJ];exact "~1f<c=y4WPi=D" Y) ?_;rw[show aa out++[V.j (r:Int)]=aa (out++[r])by rw[h_];rfl];have N:=g.f;refine ih g.e (bE (E.trans p2) G) G (aT (aC ho p2)) (by simp only[ca,bI,dK];exact "~4ENzm8VZBFXcdnB=y" Y) ("~4t32eH8XQ4HFQAA" T N) (λU a u L1 Q y b1 d1 l1 f=>J U (b6 _ a) u L1 Q y b1 (let ⟨d,gd⟩:=d1;⟨_,g.trans gd⟩) l1 f) λz' L' rs H w h ha=>q z' L' (r::rs) (g.trans H) w ?_ ⟨m _ _ _ _ _ A H,ha⟩;rw[c7]at h;exact h
def FT{R:Z->Nat->Nat->Prop}(m:∀c z z' p r,R z p r->Gr c z z'->R z' p r)(I:am z){ps:List Nat}(Y:ps.length < 4194304)(o:z.sz+d8 c ps<=B)
  (J:∀p∈ps,∀u L1 (Q:V->St->Prop),am u->u.sz+c p<=B->(∃d,Gr d z u)->L <+:L1->(∀z2 (r:Nat) L2,Gr (c p) u z2->L1 <+:L2->R z2 p r->Q (.j r) (st z2 L2))->ar (ai n 26 [.o 10,.j p,.o (i+14)] (st u L1)) Q)
  (q:∀z' L' rs,Gr (d8 c ps) z z'->L <+:L'->f9 (R z') ps rs->Q (.p (aa rs)) (st z' L')):ar (ai (n+1) 21 [.o 10,.p (aa ps),.o (i+14)] (st z L)) Q:=by
 refine az (ρ:=[some (.o 10),some (.p (aa ps)),some (.o (i+14)),none]) rfl ?_;refine ag ((ng (z:=z) (L:=L) Y).a _ (aA _)) ?_;refine bY ?_;refine Rr (Lo:=L) (out:=[]) (c:=c) (B:=B) (j:=L.length) (ρ:=[some (.o 10),some (.p (aa ps)),some (.o (i+14)),none]) (sl:=3) (e:=.j 26 [.d 0,.d 3,.d 2]) m I bp (av _) bk (by simpa using Y) o (λp U u L1 N y b1 H l1 f=>?_) λz' L' rs g E ho G=>?_
 .exact J p U u L1 N y b1 H l1 f
 .rw[di]at ho
  refine f0 ho ?_;have T:=o8 G;refine aP (y8 (by rw[cJ,T];exact Y)) ?_;exact q z' _ rs g (bE E (av _)) G
def zb{R:Z->Nat->Nat->Prop}(m:∀c z z' p r,R z p r->Gr c z z'->R z' p r)(I:am z)(k:B < 4194303)(hm:L[i]?=some (aI (some (Y,v))))(h:aO z t l)(h2:2<=l.length)(o:z.sz+d8 c l<=B)
  (J:∀p∈l,∀u L1 (Q:V->St->Prop),am u->u.sz+c p<=B->(∃d,Gr d z u)->L <+:L1->(∀z2 (r:Nat) L2,Gr (c p) u z2->L1 <+:L2->R z2 p r->Q (.j r) (st z2 L2))->ar (ai (n+2) 26 [.o 10,.j p,.o (i+14)] (st u L1)) Q)
  (A:∀z p r,am z->R z p r->aO z r (bi z.a r)) (U:∀z' rs,Gr (d8 c l) z z'->f9 (R z') l rs->(ae (rs.flatMap (bi z'.a))).length<=400)
  (q:∀z' dE (r:Nat) L' rs,Gr (d8 c l) z z'->Gr 1 z' dE->L <+:L'->f9 (R z') l rs->aO dE r (ae (rs.flatMap (bi z'.a)))->Q (.j r) (st dE L')):ar (ai (n+4) 26 [.o 10,.j t,.o (i+14)] (st z L)) Q:=by
 have hz:z.a.length < 4194304:=Z.bZ (c:=0) ("~?uFih;E7f8rk7pISv>" o k);have H:z.a[t]?=some (du l):=by
  rcases h.c with⟨e,_⟩ |e |⟨_,e⟩
  .rw[e]at h2;simp at h2
  .rw[e]at h2;simp at h2
  .exact e
 refine az (ρ:=[some (.o 10),some (.j t),some (.o (i+14)),none]) rfl ?_;refine aP (ic hm) ?_;refine ag (cp hz H) ?_;refine FT m I (kt h.f h.d hz) o J λz' L' rs g E G=>?_;have N:=g.f;have y:z'.a.length < 4194304:=Z.bZ (c:=0) ("~;MrxF1F>7An<h<MD5QHkri" o N k);have T:=o8 G;refine u0 (n:=n) (F:=bi z'.a) g.e ("~;MrxF1F>7An<h<MD5aUK_y" o N k) (ng (by rw[T];exact kt h.f h.d hz)) (λr H=>?_) (U z' rs g G) λdE r f g' w j=>?_
 .obtain⟨p,_,a⟩:=rX G r H
  exact A z' p r g.e a
 .exact q z' dE r f rs g g' (E.trans w) G j
end
abbrev ce(l:List Nat):Prop:=0∉l/\13∉l/\1∉l
abbrev FU(S A:List Nat):Bool:=(S.map rg).all (dT (A.map rg))
def lP(h:ce S):ae S=(sd S).filter λt=>!aY S t:=by unfold ae;rw[ab h.1,ab h.2.1,ab h.2.2]
def fD(h:ce S):x∈ae S↔x∈S/\aY S x=false:=by
 rw[lP h,c8,iV];simp
def ky(x:Nat):wh x=2\/wh x=6\/wh x=7:=by unfold wh;split;(exact .inr (.inl rfl));split;(exact .inr (.inr rfl));(exact .inl rfl)
def zc(x:Nat):wh (wh x)=2:=by rcases ky x with h |h |h <;>rw[h] <;>rfl
def FV(x:Nat):wh (rg x)=wh x:=by unfold rg;split;(rename_i h;subst h;rfl);rfl
def FW(x:Nat)(H:wh x≠2):aY S (wh x)=false:=by
 unfold aY;rw[zc];have:(wh x==26)=false:=by rcases ky x with h |h |h <;>rw[h] <;>rfl
 rw[this];rfl
def ig(h:aY S x=true):(wh x≠2/\wh x∈S)\/(x=26/\16∈S):=by
 unfold aY at h;rw[tG,mu,mu,bj,bj,aH]at h;exact h.imp (λh=>⟨by simpa using h.1,h.2⟩) id
def o9(h:ce S)(H:wh x≠2)(hm:wh x∈S):wh x∈ae S:=(fD h).mpr ⟨hm,FW x H⟩
abbrev vd(i X:List Nat):Prop:=(∀x∈i,x∈X)/\∀x∈X,x∈i\/(wh x≠2/\wh x∈i)
def Rt(p:Nat)(h:vh p≠2):wh (vh p)=wh p:=by
 unfold vh at h ⊢
 split at h
 .rename_i e;rcases e with e |e <;>subst e <;>rfl
 .split at h
  .rename_i e;subst e;rfl
  .exact absurd rfl h
def rY:dT A p=true↔p∈A\/(wh p≠2/\wh p∈A)\/(vh p≠2/\vh p∈A)\/(p=4/\3∈A):=by
 unfold dT;simp only[tG,mu,bj,bne_iff_ne,aH,or_assoc]
def o_(h:a=true↔b=true):a=b:=by induction a <;>induction b <;>simp_all
def ve(h:vd i X)(p:Nat):dT i p=dT X p:=by
 refine o_ ?_;rw[rY,rY];refine⟨λq=>?_,λq=>?_⟩
 .rcases q with q |⟨a,q⟩ |⟨a,q⟩ |⟨a,q⟩
  .exact .inl (h.1 _ q)
  .exact .inr (.inl ⟨a,h.1 _ q⟩)
  .exact .inr (.inr (.inl ⟨a,h.1 _ q⟩))
  .exact .inr (.inr (.inr ⟨a,h.1 _ q⟩))
 .rcases q with q |⟨a,q⟩ |⟨a,q⟩ |⟨a,q⟩
  .exact(h.2 _ q).imp id .inl
  .rcases h.2 _ q with r |⟨r,_⟩
   .exact .inr (.inl ⟨a,r⟩)
   .exact absurd (zc p) r
  .rcases h.2 _ q with r |⟨r,g⟩
   .exact .inr (.inr (.inl ⟨a,r⟩))
   .rw[Rt p a]at r g;exact .inr (.inl ⟨r,g⟩)
  .rcases h.2 _ q with r |⟨r,_⟩
   .exact .inr (.inr (.inr ⟨a,r⟩))
   .exact absurd rfl r
def zd(h:ce X)(s:26∉X):vd (ae X) X:=by
 refine⟨λx H=>cu H,λx H=>?_⟩;generalize Y:aY X x=E
 induction E using aS with
 |false=>exact .inl ((fD h).mpr ⟨H,Y⟩)|true=>
  rcases ig Y with⟨a,b⟩ |⟨a,_⟩
  .exact .inr ⟨a,o9 h a b⟩
  .subst a;exact absurd H s
def FX(h:x≠26):rg x=x:=by unfold rg;rw[ab h]
def ze(h:ce A):vd ((ae A).map rg) (A.map rg):=by
 refine⟨λx H=>?_,λx H=>?_⟩
 .obtain⟨a,G,e⟩:=eb.mp H;exact eb.mpr ⟨a,cu G,e⟩
 .have key:∀a,a∈A->wh a≠2->wh a∈A->wh a∈(ae A).map rg:=λa G h1 h2=>by
   refine eb.mpr ⟨wh a,o9 h h1 h2,FX ?_⟩;rcases ky a with e |e |e <;>rw[e] <;>decide
  obtain⟨a,G,e⟩:=eb.mp H;subst e;generalize Y:aY A a=E
  induction E using aS with
  |false=>exact .inl (eb.mpr ⟨a,(fD h).mpr ⟨G,Y⟩,rfl⟩)|true=>
   rcases ig Y with⟨h1,h2⟩ |⟨h1,h2⟩
   .exact .inr ⟨by rw[FV];exact h1,by rw[FV];exact key a G h1 h2⟩
   .subst h1
    generalize C:aY A 16=E
    induction E using aS with
    |false=>exact .inl (eb.mpr ⟨16,(fD h).mpr ⟨h2,C⟩,rfl⟩)|true=>
     rcases ig C with⟨h3,h4⟩ |⟨h3,_⟩
     .exact .inr ⟨h3,key 16 h2 h3 h4⟩
     .cases h3
def zf{A:List Nat}:26∉A.map rg:=λh=>by
 obtain⟨a,_,e⟩:=eb.mp h;unfold rg at e;split at e <;>lia
def zg(h:ce A):ce (A.map rg):=by
 have k:∀x∈[0,13,1],x∉A->x∉A.map rg:=λx H u q=>by
  obtain⟨a,G,e⟩:=eb.mp q;unfold rg at e;split at e
  .subst e;revert H;decide
  .subst e;exact u G
 exact⟨k 0 (by decide) h.1,k 13 (by decide) h.2.1,k 1 (by decide) h.2.2⟩
def rZ(h:ce A):ce (ae A):=⟨λq=>h.1 (cu q),λq=>h.2.1 (cu q),λq=>h.2.2 (cu q)⟩
def Ru(h:wh x≠2)(q:dT A (wh x)=true):dT A x=true:=by
 rw[rY]at q ⊢;have B:vh (wh x)=2:=by rcases ky x with e |e |e <;>rw[e] <;>rfl
 have h4:wh x≠4:=by rcases ky x with e |e |e <;>rw[e] <;>decide
 rcases q with q |⟨a,_⟩ |⟨a,_⟩ |⟨a,_⟩
 .exact .inr (.inl ⟨h,q⟩)
 .exact absurd (zc x) a
 .exact absurd B a
 .exact absurd a h4
def FY(h:vd i X):i.all (dT A)=X.all (dT A):=by
 refine o_ ?_;rw[el,el];refine⟨λq x H=>?_,λq x H=>q x (h.1 x H)⟩;rcases h.2 x H with r |⟨r,g⟩
 .exact q x r
 .exact Ru r (q _ g)
def FZ{S:List Nat}(m:ce S)(j:ce A):iX (ae S) (ae A)=FU S A:=by
 unfold iX FU oX;have e1:dT (ae ((ae A).map rg))=dT (A.map rg):=funext λp=>by
  rw[ve (zd (zg (rZ j)) zf),ve (ze j)]
 rw[e1,FY (zd (zg (rZ m)) zf),FY (ze m)]
def F0{τ:Nat}(a:τ=0\/τ=1\/τ=13)(j:ce A):iX [τ] (ae A)=FU [τ] A:=by
 unfold iX FU oX;have e1:dT (ae ((ae A).map rg))=dT (A.map rg):=funext λp=>by
  rw[ve (zd (zg (rZ j)) zf),ve (ze j)]
 have w:[τ].map rg=[τ]:=by rcases a with e |e |e <;>subst e <;>rfl
 rw[e1,w,cX]
abbrev sw(e p:Nat):Nat:=if p=25 then e else p
def F5(N:∀x∈ls,x < 29)(i:∀x∈lt,x < 29)(h1:29<=e1)(h2:29<=w)(h:25∈ls->25∈lt->e1=w):FU (ls.map (sw e1)) (lt.map (sw w))=FU ls lt:=by
 unfold FU;rw[ql,List.all_map,List.all_map];refine o_ ?_;have g:∀x,x < 29->rg x < 29:=λx H=>by unfold rg;split <;>lia
 have c:∀x,29<=x->rg x=x:=λx H=>FX ("~5t||BPAwdf>D9" H);have mem:∀q,q < 29->q≠25->(q∈(lt.map (sw w)).map rg↔q∈lt.map rg):=λq L m=>by
  rw[ql,eb,eb];refine⟨λ⟨a,G,e⟩=>?_,λ⟨a,G,e⟩=>?_⟩
  .simp only[qf]at e
   unfold sw at e;split at e
   .rw[c w h2]at e;lia
   .exact⟨a,G,e⟩
  .refine⟨a,G,?_⟩
   have:a≠25:=λe'=>by subst e';exact m e.symm
   simp only[qf];unfold sw;rw[ab this];exact e
 have pw:∀p∈ls,dT ((lt.map (sw w)).map rg) (rg (sw e1 p))=dT (lt.map rg) (rg p):=λp J=>by
  refine o_ ?_;rw[rY,rY];by_cases m:p=25
  .subst m
   have e:sw e1 25=e1:=rfl;have j:rg 25=25:=rfl;rw[e,c e1 h1,j];have A:wh e1=2:=by unfold wh;rw[ab (by simp;exact "~fE25Ym=XVXF0z?LyANcY1QMHjQUe=rtm>qNp" h1),ab (by simp;exact "~fE25Ym=XVXF0we9xQcqZ;zt4Gv;UpDVBRknY" h1)]
   have B:vh e1=2:=by unfold vh;rw[ab ("~=MUCX1U|5Ujxy?7z8lIj" h1),ab ("~5t||BPAmP;7UU" h1)]
   have k:wh 25=2:=rfl;have f:vh 25=2:=rfl;rw[A,B,k,f];have T:e1∈(lt.map (sw w)).map rg↔25∈lt:=by
    rw[ql,eb];refine⟨λ⟨a,G,e⟩=>?_,λq=>⟨25,q,?_⟩⟩
    .simp only[qf]at e
     unfold sw at e;split at e
     .rename_i h';subst h';exact G
     .have:=g a (i a G);lia
    .simp only[qf]
     show rg (sw w 25)=e1;rw[h J q];exact c w h2
   have I:25∈lt.map rg↔25∈lt:=by
    rw[eb];refine⟨λ⟨a,G,e⟩=>?_,λq=>⟨25,q,rfl⟩⟩;unfold rg at e;split at e
    .cases e
    .subst e;exact G
   rw[T,I];have:e1≠4:= "~72rkUVnf|nA" h1;simp[this]
  .have e:sw e1 p=p:=by unfold sw;rw[ab m]
   rw[e];have U:=g p (N p J);have Y:rg p≠25:=by unfold rg;split <;>lia
   have w1:∀q,wh q < 29/\wh q≠25:=λq=>by rcases ky q with e |e |e <;>rw[e] <;>decide
   have v1:vh (rg p) < 29/\vh (rg p)≠25:=by unfold vh;split;(decide);(split <;>decide)
   rw[mem _ U Y,mem _ (w1 _).1 (w1 _).2,mem _ v1.1 v1.2,mem 3 (by decide) (by decide)]
 rw[el,el];exact⟨λq p J=>by have:=q p J;simp only[qf]at this ⊢;rw[<-pw p J];exact this,λq p J=>by have:=q p J;simp only[qf]at this ⊢;rw[pw p J];exact this⟩
def vf{l:List Nat}(h:25∉l):l.map (sw e)=l:=by
 rw[w_ (g:=id) λx H=>by unfold sw;rw[ab λq=>h (by rw[<-q];exact H)];rfl,List.map_id]
def r9(h:ce l)(J:29<=e):ce (l.map (sw e)):=by
 have k:∀x,x < 29->x≠25->x∉l->x∉l.map (sw e):=λx h1 h2 u q=>by
  obtain⟨a,G,e'⟩:=eb.mp q;unfold sw at e';split at e'
  .lia
  .subst e';exact u G
 exact⟨k 0 (by decide) (by decide) h.1,k 13 (by decide) (by decide) h.2.1,k 1 (by decide) (by decide) h.2.2⟩
def r_(h:ae l=l):ce l\/∃τ,(τ=0\/τ=1\/τ=13)/\l=[τ]:=by
 by_cases f:0∈l
 .refine .inr ⟨0,.inl rfl,?_⟩
  rw[<-h];unfold ae;rw[ah f]
 by_cases w:13∈l
 .refine .inr ⟨13,.inr (.inr rfl),?_⟩
  rw[<-h];unfold ae;rw[ab f,ah w]
 by_cases h1:1∈l
 .refine .inr ⟨1,.inr (.inl rfl),?_⟩
  rw[<-h];unfold ae;rw[ab f,ab w,ah h1]
 exact .inl ⟨f,w,h1⟩
def F7{ls:List Nat}(rs:ae ls=ls)(o:ce lt)(c:ae lt=lt)(N:∀x∈ls,x < 29)(i:∀x∈lt,x < 29)(h1:29<=e1)(h2:29<=w)(h:25∈ls->25∈lt->e1=w):
  iX (ae (ls.map (sw e1))) (ae (lt.map (sw w)))=FU ls lt:=by
 rcases r_ rs with n |⟨τ,a,e⟩
 .rw[FZ (r9 n h1) (r9 o h2),F5 N i h1 h2 h]
 .subst e
  have:[τ].map (sw e1)=[τ]:=vf (by rcases a with e |e |e <;>subst e <;>decide);rw[this,cX,F0 a (r9 o h2)];have:=F5 (ls:=[τ]) (lt:=lt) N i h1 h2 h;rw[vf (by rcases a with e |e |e <;>subst e <;>decide)]at this;exact this
def F8(rs:ae ls=ls)(o:ce lt)(c:ae lt=lt):iX ls lt=FU ls lt:=by
 rcases r_ rs with n |⟨τ,a,e⟩
 .have:=FZ n o
  rw[rs,c]at this;exact this
 .subst e
  have:=F0 a o;rw[c]at this;exact this
section
variable{C:CT}{z:Z}{L:List O}{n t s i:Nat}{Q:V->St->Prop}{l ls lt:List Nat}{σ:St}
def vg:∀x∈co,x < 29:=by decide
def zi(I:am z)(h6:v≠6)(A:v≠24)(h:z.a[e]?=some (dS v)):29<=e/\b4 z e:=by
 have f:29<=e:=by
  apply BR;intro U;obtain⟨r,T⟩:∃r,db[e]?=some r:=⟨_,iC (show e < db.length from U)⟩;rw[I.at T]at h;cases h;have inj:∀k:Nat,dS v=dS k->v=k:=λk q=>
   Int.ofNat.inj (V.j.inj (jR (jR (V.p.inj (jR (V.p.inj (jR (jR q).2).1)).1)).2).1)
  have key:∀r∈db,r.head?=some (.j 8)->r.tail.head?=some (.p [])\/r=dS 6\/r=dS 24:=by decide
  rcases key _ (kU T) rfl with q |q |q
  .exact List.cons_ne_nil _ _ (V.p.inj (ay q))
  .exact h6 (inj 6 q)
  .exact A (inj 24 q)
 exact⟨f,E9 I f h λl q=>by unfold dS du at q;cases q⟩
def F9(u:l.Nodup):d8 (λp=>if p=25 then 1 else 0) l<=1:=by
 induction l with
 |nil=>exact bb _|cons p l ih=>
  have h2:=fL.mp u;show(if p=25 then 1 else 0)+d8 _ l<=1;by_cases e:p=25
  .subst e
   have:d8 (λp=>if p=25 then 1 else 0) l=0:=by
    clear ih u;have u:=h2.1;clear h2
    induction l with
    |nil=>rfl|cons q l ih=>
     show(if q=25 then 1 else 0)+d8 _ l=0;rw[bH,not_or]at u;have h1:(if q=25 then 1 else 0)=0:=ab (Ne.symm u.1);rw[ih u.2];show(if q=25 then 1 else 0)+0=0;rw[h1]
   rw[this];exact av _
  .have:=ih h2.2
   show(if p=25 then 1 else 0)+_<=1;rw[ab e];lia
theorem F':∀{ps rs:List Nat},f9 R ps rs->(∀p r,p∈ps->R p r->r=sw e p)->rs=ps.map (sw e)
 |[],[],_,_=>rfl|p::ps,r::rs,a,h=>by rw[h p r br a.1,F' a.2 λp r J=>h p r (b6 _ J)];rfl
 |[],_::_,a,_=>a.elim|_::_,[],a,_=>a.elim
def F_(I:am z)(room:z.sz+2 < 4194303)(h6:v≠6)(A:v≠24)(hm:L[i]?=some (aI (some (0,v))))(h:aO z t l)(hc:∀x∈l,x∈co)(m:25∈l)
  (q:∀z' (r e:Nat) L',Gr 2 z z'->L <+:L'->29<=e->z'.a[e]?=some (dS v)->aO z' r (ae (l.map (sw e)))->Q (.j r) (st z' L')):ar (ai (n+6) 26 [.o 10,.j t,.o (i+14)] (st z L)) Q:=by
 rcases h.c with⟨e,_⟩ |e |⟨h2,_⟩
 .rw[e]at m;cases m
 .rw[e,aB]at m
  subst m;refine FQ (n:=n+2) I ("~C^PVwhmTvfq5;z|t" room) hm (by decide) λz' U L' g E j=>?_;rcases j with⟨a,_⟩ |⟨_,a⟩
  .exact absurd rfl a
  .obtain⟨b,c⟩:=zi g.e h6 A a
   refine q z' U U L' (g.mono (by decide)) E b a ?_;rw[e];show aO z' U (ae [U]);rw[cX];exact fq c
 .refine zb (n:=n+2) (R:=λz p r=>b4 z r/\((p≠25/\r=p)\/(p=25/\z.a[r]?=some (dS v)))) (c:=λp=>if p=25 then 1 else 0) (B:=z.sz+2) (λc z z' p r hr g=>⟨hr.1.gr g.d,hr.2.imp id λh=>⟨h.1,cI g.d h.2⟩⟩) I room hm h h2 (by have:=F9 h.f;exact "~6zbbfRdxwK|" this)
   (λp J u L1 Q' y b1 d1 l1 f=>?_) (λz p r I hr=>by rw[hr.1.2.choose_spec.2.parts hr.1.2.choose_spec.1 hr.1.1];exact fq hr.1) (λz' rs g G=>?_) λz' dE r L' rs g g' E G j=>?_
  .obtain⟨d,gd⟩:=d1
   have Rv:=(h.d p J).gr gd.d;by_cases e:p=25
   .rw[ah e]at b1
    refine FQ (n:=n) y ("~2LS20W6_7glCjkH4C5A8;x4" b1 room) (aC hm l1) (hc p J) λz' U L' g E j=>f z' U L' (by rw[ah e];exact g) E ?_;rcases j with⟨a,_⟩ |⟨_,a⟩
    .exact absurd e a
    .exact⟨(zi g.e h6 A a).2,.inr ⟨e,a⟩⟩
   .rw[ab e]at b1
    have o:u.a.length < 4194304:=Z.bZ (c:=0) ("~2LS20W6_7glCjiW4Wc1ALK=" b1 room);obtain⟨r,hr,hk⟩:=ni y (p:=p) (dz _ (hc p J));have fin:∀L',L1 <+:L'->Q' (.j p) (st u L'):=λL' E=>f u p L' (by rw[ab e];exact Gr.refl y) E ⟨Rv,.inl ⟨e,rfl⟩⟩;rcases hk with hk |hk |hk |hk |⟨hk,_⟩ |⟨hk,_⟩
    .exact lN (n:=n+2) o (aC hm l1) hr hk (fin L1 (aA _))
    .subst hk;exact y' (n:=n+1) y o (aC hm l1) fin
    .subst hk
     exact rV (n:=n) (k':=6) (R:=λz' w=>z'=u/\w=23) o (jz y) (aC hm l1) (λL' K p k=>lN (n:=n) o (aC (aC hm l1) p) (y.at (t:=6) rfl) (.a _) (k L' (aA _)))
      (λL' K k=>ko (n:=n+1) y rfl o (jz y) (k u 23 ⟨rfl,rfl⟩)) (λz' w L' r E=>by obtain⟨rfl,rfl⟩:=r;exact fin L' E)
    .exact absurd hk e
    .subst hk;exact absurd (hc _ J) (by decide)
    .subst hk;exact absurd (hc _ J) (by decide)
  .have Y:=lM h.f hc
   have e:rs.flatMap (bi z'.a)=rs:=by
    have:∀r∈rs,bi z'.a r=[r]:=λr hr=>by
     obtain⟨p,_,J⟩:=rX G r hr;exact J.1.2.choose_spec.2.parts J.1.2.choose_spec.1 J.1.1
    clear G
    induction rs with
    |nil=>rfl|cons a rs ih=>rw[dM,this a br,ih λr hr=>this r (b6 _ hr)];rfl
   have T:=o8 G;rw[e];exact aL (m_ ("~1_3VoT_Toqe6" T h2)) ("~13G|G|nyG5hJqtmL" T Y)
  .have N:=g.f
   obtain⟨e,he,Ga⟩:=FS G 25 m;have zj:z'.a[e]?=some (dS v):=by
    rcases Ga.2 with⟨a,_⟩ |⟨_,a⟩
    .exact absurd rfl a
    .exact a
   have nj:rs=l.map (sw e):=F' G λp r J zk=>by
    rcases zk.2 with⟨a,b⟩ |⟨a,b⟩
    .unfold sw;rw[ab a];exact b
    .unfold sw;rw[ah a];exact uX g.e.a b zj
   have e1:rs.flatMap (bi z'.a)=rs:=by
    have:∀r∈rs,bi z'.a r=[r]:=λr hr=>by
     obtain⟨p,_,J⟩:=rX G r hr;exact J.1.2.choose_spec.2.parts J.1.2.choose_spec.1 J.1.1
    clear G j nj he Ga
    induction rs with
    |nil=>rfl|cons a rs ih=>rw[dM,this a br,ih λr hr=>this r (b6 _ hr)];rfl
   rw[e1,nj]at j;have H:=F9 h.f;exact q dE r e L' ((g.trans g').mono ("~PSJaIF60lE" H)) E (zi g.e h6 A zj).1 (cI g'.d zj) j
def Rw{Q:Unit->St->Prop}(h:L[j]?=some .b)(q:Q () (st z (L.set j (aI (some (k,v)))))):bm (tY (.o (j+14)) (.j k) (.j v) (st z L)) Q:=by
 exact aP (bg rfl (bg rfl (bg h rfl))) q
def Gb{l:List V}(Y:l.length < 4194304):b1 .a (.p l) σ=some (.j l.length,σ):=by
 exact rJ rfl Y
def Gc(I:am z)(room:z.sz+2 < 4194303)(h:aO z t l)(H:ae l=l)(o:∀x∈l,x∈co)
  (q:∀z' (r e:Nat) L',Gr 2 z z'->L <+:L'->29<=e->(25∈l->z'.a[e]?=some (dS 13))->aO z' r (ae (l.map (sw e)))->Q (.j r) (st z' L')):ar (ai (n+8) 31 [.o 10,.j t,.j 13] (st z L)) Q:=by
 have hz:z.a.length < 4194304:=Z.bZ (c:=0) ("~C^PVwhmTvfpv|KBd" room);refine az (ρ:=[some (.o 10),some (.j t),some (.j 13),none,none]) rfl ?_;refine u' (n:=n+1) I hz h o λL1 p1=>?_;by_cases m:25∈l
 .unfold d7;rw[ah m]
  refine aP (a:=.j 1) (σ:=st z L1) rfl ?_;refine bY ?_;refine Rw (k:=0) (v:=13) bk ?_;refine az (f:=83) (ρ:=[some (.o 10),some (.j t),some (.o (L1.length+14))]) rfl ?_;refine F_ (n:=n) I room (by decide) (by decide) (aT bk) h o m λz' r e L' g E J A j=>?_;exact q z' r e L' g ((p1.trans (bE bp (av _))).trans E) J (λY=>A) j
 .unfold d7;rw[ab m]
  refine aP (a:=.j 0) (σ:=st z L1) rfl ?_;refine q z t 29 L1 ((Gr.refl I).mono (by decide)) p1 (av _) (λq=>absurd q m) ?_;rw[vf m,H];exact h
end
section
variable{C:CT}{z:Z}{L:List O}{n t s i:Nat}{Q:V->St->Prop}{l ls lt:List Nat}{σ:St}
def Rx(I:am z)(room:z.sz+3 < 4194304)(q:∀z' (k:Nat) L',Gr 2 z z'->L <+:L'->z'.a[k]?=some (eN z.d.length)->Q (.j k) (st z' L')):
  ar (ai (n+2) 1 [.o 2,.u "R",.j (-1),.j (-1)] (st z L)) Q:=by
 have T:z.d.length < 4194304:=by unfold Z.sz at room;exact "~1f<rp<2veuzo" room
 refine az (ρ:=[some (.o 2),some (.u "R"),some (.j (-1)),some (.j (-1)),none]) rfl ?_;have y:b1 .a (.o 5) (st z L)=some (.j z.d.length,st z L):=by
  show(if z.d.length < bs then some (V.j (z.d.length:Nat),st z L)else none)=_;rw[ah (show z.d.length < bs from T)]
 refine aP y ?_;have Y:cm .a (.o 5) [.j (-1)] (st z L)=some (.z,st {z with d:=z.d++[.j (-1)]} L):=by
  show(if z.d.length < bs then some (V.z,(st z L).set 5 (.a (z.d++[.j (-1)])))else none)=_;rw[ah (show z.d.length < bs from T)];rfl
 refine aP Y ?_;have B:cm .a (.o 6) [.j (-1)] (st {z with d:=z.d++[.j (-1)]} L)=some (.z,st {z with d:=z.d++[.j (-1)],f:=z.f++[.j (-1)]} L):=by
  show(if z.f.length < bs then some (V.z,(st {z with d:=z.d++[.j (-1)]} L).set 6 (.a (z.f++[.j (-1)])))else none)=_;rw[ah (show z.f.length < bs by rw[I.b.1];exact T)];rfl
 refine aP B ?_;have U:cm .a (.o 7) [.u "R"] (st {z with d:=z.d++[.j (-1)],f:=z.f++[.j (-1)]} L)=some (.z,st {z with d:=z.d++[.j (-1)],f:=z.f++[.j (-1)],g:=z.g++[.u "R"]} L):=by
  show(if z.g.length < bs then some (V.z,(st {z with d:=z.d++[.j (-1)],f:=z.f++[.j (-1)]} L).set 7 (.a (z.g++[.u "R"])))else none)=_;rw[ah (show z.g.length < bs by rw[I.b.2];exact T)];rfl
 refine aP U ?_;have p:am {z with d:=z.d++[.j (-1)],f:=z.f++[.j (-1)],g:=z.g++[.u "R"]}:=by
  refine⟨I.a,I.f,I.d,?_,?_,?_⟩
  .obtain⟨m,hm⟩:=I.e
   refine⟨m+1,?_⟩;show z.d++[.j (-1)]=_;rw[hm,List.cons_append,<-List.replicate_succ']
  .show(z.g++[V.u "R"])[0]?=_
   rw[n8 (bW.mp I.c).1];exact I.c
  .exact⟨by simp[I.b.1],by simp[I.b.2]⟩
 have N:Z.sz {z with d:=z.d++[.j (-1)],f:=z.f++[.j (-1)],g:=z.g++[.u "R"]}=z.sz+1:=by
  unfold Z.sz;simp only[ca,bI,dK];exact "~4wm44qHw6omISZX" id
 have A:Gr 1 z {z with d:=z.d++[.j (-1)],f:=z.f++[.j (-1)],g:=z.g++[.u "R"]}:=⟨p,aA _,gV N,by show z.d.length<=(z.d++[_]).length;simp,rfl,rfl,rfl,rfl⟩;refine jt (n:=n) (r:=eN z.d.length) p rfl (.inl (.f _)) ("~tFu<KOZcL0G^ahfAk" N room) λz' t g h=>?_;exact q z' t L (A.trans g) (aA _) h
abbrev pb(s:Option Nat):O:=aI (s.map λk=>(0,k))
def Gd{s:Option Nat}(I:am z)(room:z.sz+6 < 4194303)(hj:L[j]?=some (pb s))(N:∀k,s=some k->∃m,z.a[k]?=some (eN (m+1)))(h:aO z t l)(H:ae l=l)(hc:∀x∈l,x∈co)
  (q:∀z' (r e:Nat) L' s',Gr 4 z z'->(∀i o,i≠j->L[i]?=some o->L'[i]?=some o)->L.length<=L'.length->L'[j]?=some (pb s')->(∀k,s=some k->s'=some k)->(∀k,s'=some k->∃m,z'.a[k]?=some (eN (m+1)))->29<=e->(25∈l->∃k,s'=some k/\z'.a[e]?=some (dS k))->aO z' r (ae (l.map (sw e)))->Q (.j r) (st z' L')):
  ar (ai (n+8) 34 [.o 10,.j t,.o (j+14)] (st z L)) Q:=by
 have hz:z.a.length < 4194304:=Z.bZ (c:=0) ("~C^PVwhtcuUa4r2WE" room);refine az (ρ:=[some (.o 10),some (.j t),some (.o (j+14)),none,none,none]) rfl ?_;refine bY ?_;refine u' (n:=n+1) I hz h hc λL1 p1=>?_;have B:L1[j]?=some (pb s):=aC hj (bp.trans p1);have U:L1[L.length]?=some .b:=aC bk p1;have iZ:j < L.length:=(bW.mp hj).1;have ku:L.length < L1.length:=(bW.mp U).1;by_cases lQ:25∈l
 .unfold d7;rw[ah lQ]
  have T:dj (.o 5) (.j 0) (st z L1)=some (.j 6,st z L1):=by
   obtain⟨m,hm⟩:=I.e;refine gp (b:=true) (l:=z.d) (t:=0) rfl ?_ (by rw[hm];rfl);unfold Z.sz at room;exact "~18i2GX8Azkg4PPCF" room
  conv=>whnf
  refine ag T ?_;have fin:∀(z2:Z) (k:Nat) L2,Gr 2 z z2->(∀i o,i≠j->L1[i]?=some o->L2[i]?=some o)->L1.length<=L2.length->L2[j]?=some (pb (some k))->(∀k',s=some k'->k=k')->(∃m,z2.a[k]?=some (eN (m+1)))->
    aM (ai (n+7)) [.n (.d 4) (.d 5) (.h (.d 2) (.d 5))] [some (.o 10),some (.j t),some (.o (j+14)),some (.o 2),some (.o (L.length+14)),some (.j 0)]
     (un (λρ σ=>aM (ai (n+7)) [.d (.C (.n .a (.x .a (.d 4)) (.g 0)) (.d 1) (.y (.d 0) 6 [.d 1,.d 4]))] ρ (dC Q) σ) (λf ρ σ=>match f with |.a=>aM (ai (n+7)) [.d (.C (.n .a (.x .a (.d 4)) (.g 0)) (.d 1) (.y (.d 0) 6 [.d 1,.d 4]))] ρ (dC Q) σ |f=>dC Q f ρ σ)) (st z2 L2):=by
   intro z2 k L2 g2 w i0 p Ry se;have Rz:=g2.f;have i2:L2[L.length]?=some .b:=w _ _ ("~2GzJy?1k" iZ) U;have yA:dj (.o (j+14)) (.j 0) (st z2 L2)=some (.j k,st z2 L2):=rK (oT p rfl) (lF p) rfl;refine ag yA ?_;have Y:mI .b (.j 0) (.j k)=some (aI (some (0,k))):=rfl;refine m6 i2 Y rfl ?_;have u:(L2.set L.length (aI (some (0,k))))[L.length]?=some (aI (some (0,k))):=aT i2;have sf:(L2.set L.length (aI (some (0,k))))[j]?=some (pb (some k)):=bz p ("~2GzJy?1k" iZ);have j0:∀i o,i≠j->L[i]?=some o->(L2.set L.length (aI (some (0,k))))[i]?=some o:=λi o hi ho=>by
    have:i < L.length:=(bW.mp ho).1;exact bz (w i o hi (aC ho (bp.trans p1))) ("~2GzJy?1k" this)
   have Ge:L1.length<=(L2.set L.length (aI (some (0,k)))).length:=by rw[jb];exact i0
   generalize L2.set L.length (aI (some (0,k)))=L3 at u sf j0 Ge;refine aP (ic u) ?_;refine az (f:=83) (ρ:=[some (.o 10),some (.j t),some (.o (L.length+14))]) rfl ?_;obtain⟨m,a⟩:=se;have zl:k≠6:=λe=>by subst e;rw[g2.e.at (t:=6) rfl]at a;cases a
   have RA:k≠24:=λe=>by
    subst e;rw[g2.e.at (t:=24) rfl]at a;unfold eN at a;have:=ay a;simp only[JY,V.j.injEq]at this;lia
   refine F_ (n:=n) (v:=k) g2.e ("~1^;|dS0Zxd3zazUPzV7vX6KUN" Rz room) zl RA u (h.gr g2.d) hc lQ λz' r e L' g E J A hh=>?_;exact q z' r e L' (some k) (g2.trans g) (λi o hi ho=>aC (j0 i o hi ho) E) (aL (jP ku) (aL Ge E.length_le)) (aC sf E) (λk' e=>by rw[Ry k' e]) (λk' e=>by cases e;exact⟨m,cI g.d a⟩) J (λC=>⟨k,rfl,A⟩) hh
  induction s using aX with
  |none=>
   have zm:de .d (.j 0) (.o (j+14)) (st z L1)=some (.w true,st z L1):=yV (G:=[]) B;refine ag zm ?_;have RB:dj (.o 7) (.j 0) (st z L1)=some (.u "R",st z L1):=by
    refine gp (b:=true) (l:=z.g) (t:=0) rfl ?_ I.c;rw[I.b.2];unfold Z.sz at room;exact "~18i2GX8Azkg4PPCF" room
   refine ag RB ?_;refine Rx (n:=n+5) I ("~C^PVwhtcuUaXLslz" room) λz2 k L2 g2 y se=>?_;have p:L2[j]?=some .b:=aC B y;have Y:mI .b (.j 0) (.j k)=some (pb (some k)):=rfl;refine m6 p Y rfl ?_;obtain⟨m,hm⟩:=I.e;refine fin z2 k _ g2 (λi o hi ho=>bz (aC ho y) (Ne.symm hi)) (by rw[jb];exact y.length_le) (aT p) (λk' e=>nomatch e) ⟨m+2,?_⟩;rw[se,hm];simp
  |some k=>
   have zm:de .d (.j 0) (.o (j+14)) (st z L1)=some (.w false,st z L1):=ET (r:=some (.j k)) rfl (oT B rfl) (lF B) rfl;refine ag zm ?_;exact fin z k L1 ((Gr.refl I).mono (by decide)) (λi o C ho=>ho) (av _) B (λk' e=>by cases e;rfl) (N k rfl)
 .unfold d7;rw[ab lQ]
  have hlen:b1 .a (.o (L.length+14)) (st z L1)=some (.j 0,st z L1):=ER (oT U rfl) (lF U) rfl (bP rfl);refine aP hlen ?_;refine q z t 29 L1 s ((Gr.refl I).mono (by decide)) (λi o C ho=>aC ho (bp.trans p1)) (jP ku) B (λk e=>e) N (av _) (λq=>absurd q lQ) ?_;rw[vf lQ,H];exact h
end
section
variable{C:CT}{z:Z}{L:List O}{n t s i:Nat}{Q:V->St->Prop}{l ls lt:List Nat}{σ:St}
abbrev be(l:List Nat):Bool:=l.contains 27||l.contains 28
def Gf(I:am z):(∀x∈l,x∈aD)->l.any (iY z)=be l:=by
 induction l with
 |nil=>
  intro _;exact rfl
 |cons p l ih=>
  intro h;have ih:=ih λx H=>h x (b6 _ H);have J:iY z p=(27==p||28==p):=by
   obtain⟨r,Y,hk⟩:=ni I (h p br);rw[yZ Y];have no:p≠27->p≠28->(27==p||28==p)=false:=λa b=>by simp[Ne.symm a,Ne.symm b]
   rcases hk with hk |hk |hk |hk |⟨hk,e⟩ |⟨hk,e⟩
   .have c:p≠27:=λe=>by subst e;rw[I.at (t:=27) rfl]at Y;cases Y;cases hk
    have f:p≠28:=λe=>by subst e;rw[I.at (t:=28) rfl]at Y;cases Y;cases hk
    rw[no c f]
    induction hk <;>rfl
   .subst hk;rw[I.at (t:=11) rfl]at Y;cases Y;rfl
   .subst hk;rw[jz I]at Y;cases Y;rfl
   .subst hk;rw[lO I]at Y;cases Y;rfl
   .subst e;subst hk;rfl
   .subst e;subst hk;rfl
  rw[tD,ih,J];unfold be;rw[B_,B_];cases(27==p) <;>cases(28==p) <;>cases(l.contains 27) <;>cases(l.contains 28) <;>rfl
def Gg(h:∀x∈l,x∈aD)(ho:be l=false):∀x∈l,x∈co:=λx H=>by
 unfold be at ho;rw[qu]at ho;rcases aZ.mp (h x H)with e |e
 .exact e
 .simp only[bH,dW,kW]at e
  rcases e with e |e
  .subst e;rw[bj.mpr H]at ho;cases ho.1
  .subst e;rw[bj.mpr H]at ho;cases ho.2
def RC(h:aO z t l)(H:ae l=l)(f:t≠0)(h1:t≠1)(w:t≠13):ce l:=by
 rcases r_ H with n |⟨τ,a,e⟩
 .exact n
 .exfalso
  rcases h.c with⟨e',_⟩ |e' |⟨e',_⟩
  .rw[e]at e';cases e'
  .rw[e]at e';cases e'
   rcases a with e |e |e <;>contradiction
  .rw[e]at e';simp at e'
def zn:∀x∈aD,x < 29:=by decide
def Gh(u:l.Nodup)(h:∀x∈l,x∈aD):l.length<=29:=ju 29 u λx H=>zn x (h x H)
abbrev jv(c a:Nat)(lc la:List Nat):Nat:=if be la then 3 else if a=0\/a=1 then 1 else if c=0 then 2 else if FU lc la then 1 else 0
def zo(I:am z)(room:z.sz+2 < 4194304)(G:aO z a la)(T:aO z b u)(h1:la.length<=400)(h2:u.length<=400)(Y:lJ b=false)
  (q:∀z' L',Gr 2 z z'->L <+:L'->Q (.w (iX la u)) (st z' L')):ar (ai (n+6) 79 [.o 10,.j a,.j b] (st z L)) Q:=by
 refine az (ρ:=[some (.o 10),some (.j a),some (.j b)]) rfl ?_;refine Fo (n:=n) I room G T h1 h2 λz' L' g E=>?_;rw[Y,Bool.false_or];exact q z' L' g E
def zp(I:am z)(h:aO z r l)(n:ce l):lJ r=false:=by
 have key:∀τ,(τ=0\/τ=1\/τ=13)->r≠τ:=λτ a Y=>by
  subst Y;rcases h.c with⟨_,e⟩ |e |⟨_,e⟩
  .rcases a with q |q |q <;>lia
  .have:r∈l:=by rw[e];simp
   rcases a with q |q |q <;>subst q
   .exact n.1 this
   .exact n.2.2 this
   .exact n.2.1 this
  .rcases a with q |q |q <;>subst q
   .rw[I.at (t:=0) rfl]at e;cases e
   .rw[I.at (t:=1) rfl]at e;cases e
   .rw[I.at (t:=13) rfl]at e;cases e
 unfold lJ;rw[qu,qu];exact⟨⟨cD.mpr (key 0 (.inl rfl)),cD.mpr (key 1 (.inr (.inl rfl)))⟩,cD.mpr (key 13 (.inr (.inr rfl)))⟩
def vi(h:l.length<=29):(ae (l.map f)).length<=400:=by
 induction l using bo with
 |nil=>exact bb 400|cons a l=>exact aL (m_ (by simp)) (by rw[bX];exact "~KM1p7|au<vQz" h)
def RD(I:am z)(room:z.sz+6 < 4194303)(o:aO z c lc)(rc:ae lc=lc)(N:∀x∈lc,x∈co)(G:aO z a la)(ra:ae la=la)(v:∀x∈la,x∈co)(na:ce la)
  (q:∀z' L',Gr 6 z z'->L <+:L'->Q (.w (FU lc la)) (st z' L')):ar (ai (n+9) 33 [.o 10,.j c,.j a] (st z L)) Q:=by
 have hz:z.a.length < 4194304:=Z.bZ (c:=0) ("~C^PVwhtcuUa4r2WE" room);refine az (ρ:=[some (.o 10),some (.j c),some (.j a)]) rfl ?_;refine FM (n:=n+4) I hz o N λL1 p1=>?_;refine FM (n:=n+4) I hz G v λL2 p2=>?_;refine Gc (n:=n) I ("~=Z30WAvH;?v40mNPPgDW" room) o rc N λu J e1 E A p3 p k B=>?_;have s1:=A.f;refine Gc (n:=n) A.e ("~1^;|dS0Zxd3zazUPzV7vX6KUN" s1 room) (G.gr A.d) ra v λz2 g w L4 j T h y m=>?_;have s2:=j.f;refine zo (n:=n+2) j.e ("~Qn7e2dXrBdi4rfa<XgP>ghtwn" s2 s1 room) (B.gr j.d) m (vi (lM o.f N)) (vi (lM G.f v)) (zp j.e m (rZ (r9 na h))) λr L5 U p5=>?_;rw[F7 rc na ra (λx H=>vg x (N x H)) (λx H=>vg x (v x H)) p h λf Y=>uX j.e.a (cI j.d (k f)) (y Y)];exact q r L5 ((A.trans (j.trans U)).mono (by decide)) (p1.trans (p2.trans (p3.trans (T.trans p5))))
def RE(I:am z)(room:z.sz+20 < 4194303)(hc:aO z c lc)(rc:ae lc=lc)(kc:∀x∈lc,x∈co)(G:aO z a la)(ra:ae la=la)(v:∀x∈la,x∈aD)(nk:a≠13)
  (q:∀z' L',Gr 20 z z'->L <+:L'->Q (.j (jv c a lc la)) (st z' L')):ar (ai (n+10) 37 [.o 10,.j c,.j a,.w false] (st z L)) Q:=by
 have hz:z.a.length < 4194304:=Z.bZ (c:=0) ("~A2n0FaSmE?brkutLWU" room);refine az (ρ:=[some (.o 10),some (.j c),some (.j a),some (.w false),none,none,none,none]) rfl ?_;refine Fs (n:=n+6) I hz G ?_;rw[Gf I v];have q0:=q z L ((Gr.refl I).mono (by decide)) (aA _);unfold jv at q0 q;generalize ho:be la=E
 induction E using aS with
 |true=>rw[ho]at q0;exact q0|false=>
  rw[ho]at q0 q;have pc:=Gg v ho;conv=>whnf
  have cv:∀x k:Nat,cb (.j x) (.j k)=(x==k):=λx k=>by
   by_cases h:x=k
   .subst h;rw[vT rfl];simp
   .rw[vF ("~1_Ou3jsFT<tJ" h),cD.mpr h]
  rw[show cb (.j a) (.j 0)=(a==0)from cv a 0];by_cases N:a=0
  .rw[ab (by decide),ah (.inl N)]at q0
   rw[aH.mpr N];exact q0
  rw[cD.mpr N];conv=>whnf
  rw[show cb (.j a) (.j 1)=(a==1)from cv a 1];by_cases a1:a=1
  .rw[ab (by decide),ah (.inr a1)]at q0
   rw[aH.mpr a1];exact q0
  rw[cD.mpr a1];have na:=RC G ra N a1 nk;conv=>whnf
  rw[show cb (.j c) (.j 0)=(c==0)from cv c 0];by_cases c0:c=0
  .rw[ab (by decide),ab ("~=?wzM_gxQ;nE?BKg3tNnT>e_TuHPPBWbvZO" N a1),ah c0]at q0
   rw[aH.mpr c0];exact q0
  rw[cD.mpr c0];rw[ab (by decide),ab ("~=?wzM_gxQ;nE?BKg3tNnT>e_TuHPPBWbvZO" N a1),ab c0]at q;clear q0;refine u' (n:=n+3) I hz hc kc λL1 p1=>?_;have fl:∀l:List Nat,(aa (d7 l)).length < 4194304:=λl=>by rw[cJ];unfold d7;split <;>decide
  refine aP (Gb (fl lc)) ?_;have simple:∀L',L <+:L'->(∀z' f (b:Bool),Gr 20 z z'->L <+:f->b=FU lc la->Q (.j (if b then 1 else 0:Nat)) (st z' f))->True:=λC C C=>trivial;have Gi:∀L',L <+:L'->aM (ai (n+9)) [.h (.G (.j 33 [.d 0,.d 1,.d 2])) [.d (.p 0)] [],.g 5 (.F []),.g 6 (.j 34 [.d 0,.d 1,.d 5]),.g 7 (.j 34 [.d 0,.d 2,.d 5]),.d (.C (.y (.d 0) 0 [.d 6,.d 7]) (.p 1) (.p 3))]
    [some (.o 10),some (.j c),some (.j a),some (.w false),some (.o 2),none,none,none] (dC Q) (st z L'):=by
   intro L' pL;refine RD (n:=n) I ("~;Ud5^8BM3kGd=a2xapT5^f" room) hc rc kc G ra pc na λu L2 A p2=>?_;have s1:=A.f;generalize hf:FU lc la=E
   induction E using aS with
   |false=>rw[hf]at q;exact q u L2 (A.mono (by decide)) (pL.trans p2)|true=>
    rw[hf]at q;refine bY ?_;refine Gd (n:=n+1) (s:=none) A.e ("~1eHeV|jMrF71L|Ji0uV3taX;kka" s1 room) bk (λk e=>nomatch e) (hc.gr A.d) rc kc λz2 J e1 L3 RF j p3 l3 j3 m3 k3 p RG B=>?_;have s2:=j.f;refine Gd (n:=n+1) (s:=RF) j.e ("~DYgzqUUE?^w3pMtJXdvp6cqPxXGQw3p" s2 s1 room) j3 k3 (G.gr (A.d.trans j.d)) ra pc λr r2 w L4 XY U T l4 j4 m4 k4 sg y m=>?_;have s3:=U.f;refine zo (n:=n+3) U.e ("~4C4LC29m9?3zWrfINEyUubPpSpTnCVN4" s3 s2 s1 room) (B.gr U.d) m (vi (lM hc.f kc)) (vi (lM G.f pc)) (zp U.e m (rZ (r9 na sg))) λz4 L5 g4 p5=>?_;rw[F7 rc na ra (λx H=>vg x (kc x H)) (λx H=>vg x (pc x H)) p sg (λq1 Y=>by
     obtain⟨k1,e3,e4⟩:=RG q1;obtain⟨k2,g,e6⟩:=y Y;have:=m4 k1 e3;rw[this]at g;cases g;exact uX U.e.a (cI U.d e4) e6),hf]
    have pp:L <+:L5:=(pL.trans p2).trans ((rT (λi o hi h=>T i o hi (p3 i o hi (aC h bp))) (aL bp.length_le (aL l3 l4)) (av _)).trans p5);exact q z4 L5 ((A.trans (j.trans (U.trans g4))).mono (by decide)) pp
  by_cases lQ:25∈lc
  .have:d7 lc=[0]:=by unfold d7;rw[ah lQ]
   rw[this];exact Gi L1 p1
  .have:d7 lc=[]:=by unfold d7;rw[ab lQ]
   rw[this];refine u' (n:=n+3) I hz G pc λL2 p2=>?_;refine aP (Gb (fl la)) ?_;by_cases Gj:25∈la
   .have:d7 la=[0]:=by unfold d7;rw[ah Gj]
    rw[this];exact Gi L2 (p1.trans p2)
   .have:d7 la=[]:=by unfold d7;rw[ab Gj]
    rw[this];refine zo (n:=n+3) I ("~A2n0FaSmE?brlABa1z" room) hc G (by have:=lM hc.f kc;exact "~KM1p7|au<vQz" this) (by have:=lM G.f pc;exact "~KM1p7|au<vQz" this) (zp I G na) λu L3 A p3=>?_;rw[F8 rc na ra];generalize hf:FU lc la=E
    induction E using aS with
    |false=>rw[hf]at q;exact q u L3 (A.mono (by decide)) (p1.trans (p2.trans p3))|true=>rw[hf]at q;exact q u L3 (A.mono (by decide)) (p1.trans (p2.trans p3))
end
@[inline]abbrev Tb:=List (List V)
@[inline]abbrev Mp:=Option (Nat×Nat)
abbrev eD:Tb->List V->Nat
 |[],_=>0|a::T,r=>if a=r then 0 else eD T r+1
theorem lR:∀{T:Tb} {i:Nat} {r:List V},T.Nodup->T[i]?=some r->eD T r=i
 |[],_,_,_,h=>by simp at h
 |a::T,0,r,_,h=>by
  have:a=r:=by simpa using h
  exact ah this
 |a::T,i+1,r,u,h=>by
  have h2:=fL.mp u;have h':T[i]?=some r:=by simpa using h
  exact(ab λe=>h2.1 (by rw[e];exact kU h')).trans (aE (·+1) (lR h2.2 h'))
abbrev uF(T:Tb)(S:List Nat):Nat:=match ae S with
 |[]=>2|[x]=>x|l=>eD T (du l)
def kz(h:aO z r (ae S))(p:z.a <+:T)(u:T.Nodup):uF T S=r:=by
 unfold uF;rcases h.c with⟨e,w⟩ |e |⟨a,b⟩
 .rw[e,w]
 .rw[e]
 .match hm:ae S,a,b with
  |x::y::l,_,b=>exact lR u (cI p b)
def vj(h:∀x∈A,x∈B)(q:aY A t=true):aY B t=true:=by
 unfold aY at q ⊢;rw[tG,mu,mu,bj,bj]at q ⊢;exact q.imp (λq=>⟨q.1,h _ q.2⟩) (λq=>⟨q.1,h _ q.2⟩)
def gy(A B:List Nat):ae (ae A++B)=ae (A++B):=by
 have sub:∀x∈ae A++B,x∈A++B:=λx H=>by
  rcases aZ.mp H with h |h
  .exact dz _ (cu h)
  .exact jg _ h
 have g:∀τ,ae (ae A++B)=[τ]->ae (A++B)=[τ]->ae (ae A++B)=ae (A++B):=λτ h1 h2=>h1.trans h2.symm;by_cases f:0∈A++B
 .have m:0∈ae A++B:=by
   rcases aZ.mp f with h |h
   .refine dz _ ?_;unfold ae;rw[ah h];simp
   .exact jg _ h
  refine g 0 ?_ ?_ <;>(unfold ae;rw[ah];assumption)
 have m:0∉ae A++B:=λh=>f (sub 0 h);have N:0∉A:=λh=>f (dz _ h);by_cases w:13∈A++B
 .have k:13∈ae A++B:=by
   rcases aZ.mp w with h |h
   .refine dz _ ?_;unfold ae;rw[ab N,ah h];simp
   .exact jg _ h
  refine g 13 ?_ ?_
  .unfold ae at m k ⊢;rw[ab m,ah k]
  .unfold ae;rw[ab f,ah w]
 have k:13∉ae A++B:=λh=>w (sub 13 h);have j:13∉A:=λh=>w (dz _ h);by_cases h1:1∈A++B
 .have u:1∈ae A++B:=by
   rcases aZ.mp h1 with h |h
   .refine dz _ ?_;unfold ae;rw[ab N,ab j,ah h];simp
   .exact jg _ h
  refine g 1 ?_ ?_
  .unfold ae at m k u ⊢;rw[ab m,ab k,ah u]
  .unfold ae;rw[ab f,ab w,ah h1]
 have n:ce (A++B):=⟨f,w,h1⟩;have J:ce (ae A++B):=⟨m,k,λh=>h1 (sub 1 h)⟩;have c:ce A:=⟨N,j,λh=>h1 (dz _ h)⟩;have Y:∀t,aY (A++B) t=true->aY (ae A++B) t=true:=λt q=>by
  rcases ig q with⟨h1,h2⟩ |⟨h1,h2⟩
  .have:wh t∈ae A++B:=by
    rcases aZ.mp h2 with h |h
    .exact dz _ (o9 c h1 h)
    .exact jg _ h
   unfold aY;rw[bj.mpr this,show(wh t !=2)=true by simpa using h1];rfl
  .subst h1
   have:16∈ae A++B\/6∈ae A++B:=by
    rcases aZ.mp h2 with h |h
    .generalize i:aY A 16=E
     induction E using aS with
     |false=>exact .inl (dz _ ((fD c).mpr ⟨h,i⟩))|true=>
      rcases ig i with⟨a,b⟩ |⟨a,_⟩
      .exact .inr (dz _ (o9 c a b))
      .cases a
    .exact .inl (jg _ h)
   unfold aY;rcases this with h |h
   .rw[bj.mpr h];simp
   .rw[show wh 26=6 from rfl,bj.mpr h];rfl
 rw[lP n,lP J];refine m8 (km.filter _) (km.filter _) (kl.filter _) (kl.filter _) λx=>?_;rw[c8,c8,iV,iV];simp only[qv];refine⟨λ⟨h1,h2⟩=>⟨sub x h1,?_⟩,λ⟨h1,h2⟩=>⟨?_,?_⟩⟩
 .generalize q:aY (A++B) x=E
  induction E using aS with
  |false=>rfl|true=>rw[Y x q]at h2;cases h2
 .rcases aZ.mp h1 with h |h
  .refine dz _ ((fD c).mpr ⟨h,?_⟩)
   generalize q:aY A x=E
   induction E using aS with
   |false=>rfl|true=>rw[vj (λy v=>dz _ v) q]at h2;cases h2
  .exact jg _ h
 .generalize q:aY (ae A++B) x=E
  induction E using aS with
  |false=>rfl|true=>rw[vj sub q]at h2;cases h2
def Gk(A B:List Nat):ae (A++B)=ae (B++A):=rL λx=>by rw[aZ,aZ,or_comm]
def eE(A B:List Nat):ae (A++ae B)=ae (A++B):=by rw[Gk,gy,Gk]
def eF(A:List Nat):ae (ae A)=ae A:=by have:=gy A [];rwa [b_,b_]at this
def pe(f:α->List Nat)(l:List α):ae (l.flatMap λx=>ae (f x))=ae (l.flatMap f):=by
 induction l with
 |nil=>
  exact rfl
 |cons a l ih=>
  rw[dM,dM,gy,<-eE,ih,eE]
abbrev nI:V->Nat
 |.j i=>i.toNat|_=>0
abbrev RH:List V->Option (Nat×Nat×Nat×Nat×Nat)
 |[]=>none|k::r=>if k=.j 16 then some (nI (r.getD 0 .z),nI (r.getD 1 .z),nI (r.getD 2 .z),nI (r.getD 3 .z),nI (r.getD 5 .z))else none
abbrev ii(T:Tb)(p:Nat):Option (Nat×Nat×Nat×Nat×Nat):=match T[p]? with
 |some r=>RH r|none=>none
def zq(h:T[p]?=some (aV c a x y d)):ii T p=some (c,a,x,y,d):=by
 unfold ii;rw[h];rfl
abbrev zr:Mp->Nat->Nat
 |none,p=>p|some (pid,v),p=>gx pid v p
abbrev i3(T:Tb)(m:Mp)(i:Nat):List Nat:=(bi T i).flatMap λp=>bi T (zr m p)
abbrev dc(T:Tb)(m:Mp)(i:Nat):Nat:=match m with
 |none=>i|some _=>uF T (i3 T m i)
abbrev jA(m:Mp)(c p:Nat):Mp:=match m with
 |none=>none|some (pid,v)=>if c=26+pid then some (pid,p)else some (pid,v)
abbrev pf(T:Tb)(B:Mp->Nat->List Nat)(m:Mp)(i:Nat):Nat:=match m with
 |none=>i|some _=>uF T (B m i)
abbrev wF(T:Tb)(B:Mp->Nat->List Nat)(m:Mp)(c a x y d:Nat):Nat:=eD T (aV c (dc T m a) (pf T B m x) (pf T B m y) d)
abbrev cA(T:Tb)(B:Mp->Nat->List Nat)(m:Mp)(c a x y d:Nat):List Nat:=
 if be (bi T c)=true then[wF T B m c a x y d]else
 if dc T m a=13 then[13]else
 if jv c (dc T m a) (bi T c) (bi T (dc T m a))=3 then[wF T B m c a x y d]else
 if jv c (dc T m a) (bi T c) (bi T (dc T m a))=1 then B m x else
 if jv c (dc T m a) (bi T c) (bi T (dc T m a))=2 then B m x++B m y else B m y
abbrev cK(T:Tb)(B:Mp->Nat->List Nat)(m:Mp)(c a x y d:Nat):List Nat:=
 if dc T m c=13 then[13]else
 if d=1/\dc T m c=2 then[]else
 if d=1/\2<=(bi T (dc T m c)).length then(bi T (dc T m c)).flatMap λp=>cA T B (jA m c p) p a x y d else
 cA T B m (dc T m c) a x y d
abbrev aK:Nat->Tb->Mp->Nat->List Nat
 |0,T,m,i=>i3 T m i
 |h+1,T,none,i=>match ii T i with
  |some (c,a,x,y,d)=>cK T (aK h T) none c a x y d|none=>bi T i
 |h+1,T,some pv,i=>(bi T i).flatMap λp=>match ii T p with
  |some (c,a,x,y,d)=>cK T (aK h T) (some pv) c a x y d|none=>bi T (zr (some pv) p)
structure At(z:Z)(i:Nat)(l:List Nat):Prop where
 c:aO z i l
 f:ae l=l
 d:∀x∈l,x∈aD
def At.gr(h:At z i l)(p:z.a <+:z'.a):At z' i l:=⟨h.c.gr p,h.f,h.d⟩
structure Md where
 a:Bool
abbrev Md.kk(md:Md):Nat:=if md.a then 4 else 2
abbrev Md.gA(md:Md)(lc:List Nat)(d:Nat):Prop:=if md.a then(d=1->lc.length<=4/\(27∈lc->lc=[27]))else(27∉lc/\(d=1->lc.length<=1))
abbrev Md.eG(md:Md)(la:List Nat):Prop:=md.a=false->27∉la
abbrev Md.NI(md:Md)(h:Nat):Nat:=if md.a then 1 else 4 ^ h
abbrev Md.NO(md:Md)(h:Nat):Nat:=if md.a then 4 ^ h else 0
abbrev ct(l:List Nat):Nat:=(l.filter λx=>decide (29<=x)).length
inductive vk(md:Md)(z:Z)(W:Nat->Prop)(p:Nat):Prop
 |mk (c a x y d:Nat) (lc la:List Nat) (h1:z.a[p]?=some (aV c a x y d)) (h2:29<=p) (h3:At z c lc) (h4:At z a la) (h5:md.gA lc d) (h6:md.eG la) (h7:W x) (h8:W y) (h9:d<=1)
abbrev Wf(md:Md)(z:Z):Nat->Nat->Prop
 |0,i=>∃l,At z i l/\md.eG l|h+1,i=>∃l,aO z i l/\ae l=l/\ct l<=md.NI (h+1)/\∀p∈l,(p∈aD/\(md.a=false->p≠27))\/vk md z (Wf md z h) p
theorem Wf.gr(q:z.a <+:z'.a):∀{h i:Nat},Wf md z h i->Wf md z' h i
 |0,i,⟨l,a,b⟩=>⟨l,a.gr q,b⟩|h+1,i,⟨l,a,b,c,d⟩=>⟨l,a.gr q,b,c,λp J=>(d p J).imp id λk=>by
  obtain⟨c,a,x,y,d,lc,la,h1,h2,h3,h4,h5,h6,h7,h8,h9⟩:=k;exact⟨c,a,x,y,d,lc,la,cI q h1,h2,h3.gr q,h4.gr q,h5,h6,h7.gr q,h8.gr q,h9⟩⟩
abbrev Md.cL(md:Md)(z:Z)(m:Mp):Prop:=match m with
 |none=>md.a=true|some (pid,v)=>∃l,At z v l/\l.length<=md.kk/\if md.a then pid=1 else(pid=2/\be l=false)
def ij{md:Md}(h:md.cL z m)(p:z.a <+:z'.a):md.cL z' m:=by
 induction m using aX with
 |none=>exact h|some pv=>obtain⟨l,a,b,c⟩:=h;exact⟨l,a.gr p,b,c⟩
section
variable{C:CT}{z:Z}{L:List O}{n t s i:Nat}{Q:V->St->Prop}{l ls lt:List Nat}{σ:St}{T:Tb}{m:Mp}
def aO.bR(I:am z)(h:aO z t l)(p:z.a <+:T):Mine.Lake.bi T t=l:=by
 rcases oY I h with⟨U,Y,J,h2⟩ |⟨Y,h2,h3⟩
 .rcases h2 with⟨e,w⟩ |⟨e,w⟩
  .subst e;rw[w];rfl
  .rw[w];exact J.parts (cI p Y) e
 .unfold Mine.Lake.bi;rw[ab h3,cI p Y];exact za l
abbrev c6(m:Mp)(lv:List Nat)(l:List Nat):List Nat:=match m with
 |none=>l|some (pid,_)=>l.flatMap λp=>if p=26+pid then lv else[p]
def eH(I:am z)(h:p∈aD):aO z p [p]:=by
 refine fq (nd I ?_);have:∀p∈aD,p∈uW:=by decide
 exact this p h
def i4(h:∀x∈l,f x=g x):l.flatMap f=l.flatMap g:=by
 induction l with
 |nil=>rfl|cons a l ih=>rw[dM,dM,h a br,ih λx H=>h x (b6 _ H)]
def kB(I:am z)(h:At z i l)(B:At z v lv)(p:z.a <+:T):i3 T (some (pid,v)) i=c6 (some (pid,v)) lv l:=by
 unfold i3;rw[h.c.bR I p];unfold c6;refine i4 λx H=>?_;show Mine.Lake.bi T (gx pid v x)=_;unfold gx;by_cases e:x=26+pid
 .rw[ah e,ah e,B.c.bR I p]
 .rw[ab e,ab e,(eH I (h.d x H)).bR I p]
def RI(h:∀x∈l,x∈aD)(B:∀x∈lv,x∈aD):∀x∈c6 m lv l,x∈aD:=λx H=>by
 induction m using aX with
 |none=>exact h x H|some pv=>
  obtain⟨p,J,H⟩:=fu.mp H
  split at H
  .exact B x H
  .rw[aB]at H;subst H;exact h _ J
def Gl(I:am z)(h:At z t l)(h2:2<=l.length):z.a[t]?=some (du l):=by
 rcases h.c.c with⟨e,_⟩ |e |⟨_,e⟩
 .rw[e]at h2;simp at h2
 .rw[e]at h2;simp at h2
 .exact e
def sh(h:∀x∈l,f x=[x]):l.flatMap f=l:=by
 induction l with
 |nil=>rfl|cons a l ih=>rw[dM,h a br,ih λx H=>h x (b6 _ H)];rfl
def Gm(I:am z)(room:z.sz+1 < 4194303)(A:pid=1\/pid=2)(h:At z i l)(hv:At z v lv)(hm:L[k]?=some (aI (some (pid,v))))
  (q:∀z' (r:Nat) L',Gr 1 z z'->L <+:L'->At z' r (ae (c6 (some (pid,v)) lv l))->Q (.j r) (st z' L')):ar (ai (n+7) 26 [.o 10,.j i,.o (k+14)] (st z L)) Q:=by
 have hz:z.a.length < 4194304:=Z.bZ (c:=0) ("~C^PVwhkhv|LtD>N^" room);have U:=RI (m:=some (pid,v)) h.d hv.d;have g0:Gr 1 z z:=(Gr.refl I).mono (bb _);rcases h.c.c with⟨e,w⟩ |e |⟨h2,_⟩
 .subst w
  refine lN (n:=n+5) hz hm (jx I) (.a _) (q z 2 L g0 (aA _) ?_);rw[e];exact⟨hX,rfl,λx H=>nomatch H⟩
 .have hi:i∈aD:=h.d i (by rw[e];simp)
  refine y_ (n:=n+3) I hz A hm hi λL' E=>q z _ L' g0 E ?_;have e3:c6 (some (pid,v)) lv l=if i=26+pid then lv else[i]:=by
   rw[e];unfold c6;show(if i=26+pid then lv else[i])++[]=_;rw[b_]
  rw[e3];unfold gx;by_cases e4:i=26+pid
  .rw[ah e4,ah e4,hv.f];exact hv
  .rw[ab e4,ab e4,cX]
   exact⟨eH I hi,cX,λx H=>by rw[aB]at H;subst H;exact hi⟩
 .have Y:=Gh h.c.f h.d
  have N:∀ps:List Nat,d8 (λC=>0) ps=0:=λps=>by induction ps with
   |nil=>rfl|cons p ps ih=>show 0+d8 _ ps=0;rw[ih]
  have o:∀z' rs,Gr (d8 (λC=>0) l) z z'->f9 (λp r=>r=gx pid v p) l rs->rs.flatMap (Mine.Lake.bi z'.a)=c6 (some (pid,v)) lv l:=λz' rs g G=>by
   have e1:rs=l.map (gx pid v):=by
    clear g;generalize l=l at G
    induction l generalizing rs with
    |nil=>induction rs using bo with
     |nil=>rfl|cons=>exact G.elim
    |cons p l ih=>induction rs using bo with
     |nil=>exact G.elim|cons r rs=>rw[G.1,ih _ G.2];rfl
   rw[e1,List.flatMap_map];unfold c6;refine i4 λx H=>?_;show Mine.Lake.bi z'.a (gx pid v x)=_;unfold gx;by_cases e:x=26+pid
   .rw[ah e,ah e,hv.c.bR I g.d]
   .rw[ab e,ab e,(eH I (h.d x H)).bR I g.d]
  refine zb (n:=n+3) (R:=λz p r=>r=gx pid v p/\∃l',aO z r l') (c:=λC=>0) (B:=z.sz) (λc z z' p r hr g=>⟨hr.1,let ⟨l',a⟩:=hr.2;⟨l',a.gr g.d⟩⟩) I ("~A2n0FaUDRa<HqrtHfY" room) hm h.c h2 (by rw[N];exact "~2h|d536_" id)
   (λp J u L1 Q' y b1 d1 l1 f=>?_) (λu p r y hr=>?_) (λz' rs g G=>?_) λz' dE r L' rs g g' E G j=>?_
  .refine y_ (n:=n+1) y (Z.bZ (c:=0) (by have:u.sz+0<=z.sz:=b1;exact "~2r;MJgkU5aNQmZyvPO9PD" b1 room)) A (aC hm l1) (h.d p J) λL' E=>f u _ L' (Gr.refl y) E ⟨rfl,?_⟩
   obtain⟨d,gd⟩:=d1;unfold gx;split
   .exact⟨_,hv.c.gr gd.d⟩
   .exact⟨_,eH y (h.d p J)⟩
  .obtain⟨l',a⟩:=hr.2
   rw[a.bi y];exact a
  .rw[o z' rs g (vc (λp r h=>h.1) G)]
   generalize e:c6 (some (pid,v)) lv l=x_
   induction x_ using bo with
   |nil=>exact bb 400|cons a b=>
    rw[<-e];have:(ae (c6 (some (pid,v)) lv l)).length<=29:=Gh kn λx H=>U x (cu H);exact "~KM1p7|au<vQz" this
  .rw[o z' rs g (vc (λp r h=>h.1) G)]at j
   rw[N]at g;exact q dE r L' (g.trans g') E ⟨j,eF _,λx H=>U x (cu H)⟩
end
structure bG(z:Z)(val:Tb->List Nat)(b:Nat)(r:Nat)(l:List Nat):Prop where
 a:aO z r l
 e:ae l=l
 d:ct l<=b
 c:∀T,z.a <+:T->T.Nodup->ae (val T)=l
def bG.gr(h:bG z val b r l)(p:z.a <+:z'.a):bG z' val b r l:=⟨h.a.gr p,h.e,h.d,λT q n=>h.c T (p.trans q) n⟩
def bG.mono(h:bG z val b r l)(T:b<=G):bG z val G r l:=⟨h.a,h.e,aL h.d T,h.c⟩
def bG.uF(h:bG z val b r l)(p:z.a <+:T)(n:T.Nodup):uF T (val T)=r:=kz (by rw[h.c T p n];exact h.a) p n
def kC(h:∀x∈l,x∈aD):ct l=0:=by
 unfold ct;rw[xc.mpr λx H=>by have:=zn x (h x H);simp;exact "~KM1p92WAYVE7" this];rfl
def At.res(h:At z i l)(b:Nat)(e:∀T,z.a <+:T->T.Nodup->Mine.Lake.ae (val T)=l):bG z val b i l:=⟨h.c,h.f,by rw[kC h.d];exact bb _,e⟩
abbrev Fm(L L':List O)(ex:List Nat):Prop:=L.length<=L'.length/\∀j o,j∉ex->L[j]?=some o->L'[j]?=some o
def Fm.pre(p:L <+:L'):Fm L L' ex:=⟨p.length_le,λj o J h=>aC h p⟩
def Fm.trans(a:Fm L L' ex)(b:Fm L' f ex):Fm L f ex:=⟨aL a.1 b.1,λj o h1 h2=>b.2 j o h1 (a.2 j o h1 h2)⟩
def Fm.set(h:i∈ex):Fm L (L.set i o) ex:=⟨by rw[jb];exact av _,λj o' G e=>bz e λq=>G (q▸h)⟩
def Fm.mono(a:Fm L L' ex)(h:∀x∈ex,x∈si):Fm L L' si:=⟨a.1,λj o G=>a.2 j o λq=>G (h j q)⟩
def Fm.new(p:L <+:L1)(a:Fm L1 L' ex)(h:∀x∈ex,x < L.length->x∈si):Fm L L' si:=⟨aL p.length_le a.1,λj o G e=>a.2 j o (λq=>G (h j q (bW.mp e).1)) (aC e p)⟩
def Fm.then(a:Fm L L1 ex)(b:Fm L1 L' si)(h:∀x∈si,x < L.length->x∈ex):Fm L L' ex:=⟨aL a.1 b.1,λj o G e=>b.2 j o (λq=>G (h j q (bW.mp e).1)) (a.2 j o G e)⟩
abbrev Md.gC(md:Md)(g:Nat):Nat:=if md.a then 16*g+200 else 2*g+70
abbrev Md.gB(md:Md):Nat->Nat
 |0=>1|h+1=>md.NI (h+1)*md.gC (md.gB h)+1
abbrev Md.rF(md:Md)(h:Nat):Nat:=24*md.gB h+1000
abbrev Md.rP(md:Md):Nat->Nat
 |0=>10|h+1=>md.rF h
abbrev sp:Nat->Nat
 |0=>0|h+1=>4*(1+sp h)
def RJ(j:h<=3):sp h<=84:=by
 match h,j with
 |0,_=>decide|1,_=>decide|2,_=>decide|3,_=>decide
abbrev ft(md:Md)(h N:Nat):Prop:=∀(z:Z) (L:List O) (i k:Nat) (pv:Nat×Nat) (Q:V->St->Prop),am z->Wf md z h i->md.cL z (some pv)->L[k]?=some (aI (some pv))->z.sz+md.gB h+md.rP h<=4190000->z.b+3*h<=35->0<=z.b->
 (∀z' (r:Nat) l L',Gr (md.gB h) z z'->L <+:L'->bG z' (λT=>aK h T (some pv) i) (md.NO h) r l->Q (.j r) (st z' L'))->ar (ai N 26 [.o 10,.j i,.o (k+14)] (st z L)) Q
structure df(z:Z)(L:List O)(i:Nat)(s:Sp)(m:Mp)(E:List Nat)(k:Nat):Prop where
 a:L[i]?=some (bM s)
 b:L[s.c]?=some (aI m)
 c:L[s.a]?=some (.a [.j k])
 d:L[s.d]?=some (.a (aa E))
 f:s.a≠s.d
def df.ne1(h:df z L i s m E k):i≠s.a/\i≠s.d/\i≠s.c/\s.c≠s.a/\s.c≠s.d:=by
 have T:∀l,aI m≠.a l:=λl=>by induction m <;>simp[aI]
 have I:aI m≠bM s:=by induction m <;>simp[aI,bM]
 refine⟨λe=>?_,λe=>?_,λe=>?_,λe=>?_,λe=>?_⟩
 .have:=h.a;rw[e,h.c]at this;cases this
 .have:=h.a;rw[e,h.d]at this;cases this
 .have:=h.a;rw[e,h.b]at this;exact I (ay this)
 .have:=h.b;rw[e,h.c]at this;exact T _ (ay this).symm
 .have:=h.b;rw[e,h.d]at this;exact T _ (ay this).symm
def df.ext(h:df z L i s m E k)(p:L <+:L'):df z' L' i s m E k:=⟨aC h.a p,aC h.b p,aC h.c p,aC h.d p,h.f⟩
section
variable{C:CT}{z:Z}{L:List O}{n t i N k:Nat}{Q:V->St->Prop}{l ls lt E:List Nat}{σ:St}{T:Tb}{m:Mp}{s:Sp}{md:Md}
def RK(I:am z)(h:z.a[t]?=some r):V.keys r=true:=by
 rcases Fn I h with h1 |h1
 .obtain⟨r',Y⟩:∃r',db[t]?=some r':=⟨_,iC (show t < db.length from h1)⟩
  rw[I.at Y]at h;cases h;have:∀r∈db,V.keys r=true:=by
   unfold db;simp only[iF,dW,mw,mx,my];refine⟨?_,?_,?_,?_,?_,?_,?_,?_,?_,?_,?_,?_,?_,?_,?_,?_,?_,?_,?_,?_,?_,?_,?_,?_,?_,?_,?_,?_,?_⟩ <;>rfl
  exact this r (kU Y)
 .exact h1.keys
def sj(I:am z)(h:At z t l):∃k rest,z.a[t]?=some (.j k::rest)/\k≠16:=by
 rcases h.c.c with⟨_,e⟩ |e |⟨_,e⟩
 .subst e;exact⟨1,_,jx I,by decide⟩
 .obtain⟨r,Y,hk⟩:=ni I (h.d t (by rw[e];simp))
  rcases hk with hk |hk |hk |hk |⟨hk,e⟩ |⟨hk,e⟩
  .induction hk <;>exact⟨_,_,Y,by decide⟩
  .subst hk;exact⟨8,_,I.at rfl,by decide⟩
  .subst hk;exact⟨8,_,jz I,by decide⟩
  .subst hk;exact⟨8,_,lO I,by decide⟩
  .subst e;exact⟨10,_,Y,by decide⟩
  .subst e;exact⟨10,_,Y,by decide⟩
 .exact⟨6,_,e,by decide⟩
def vl(I:am z)(hz:z.a.length < 4194304){k:Int}(Y:z.a[t]?=some (.j k::rest))(U:k≠16)(q:Q (.j t) (st z L)):ar (ai (n+3) 81 [.o 10,.j t] (st z L)) Q:=by
 refine az (ρ:=[some (.o 10),some (.j t)]) rfl ?_;refine ag (cp hz Y) ?_;refine az (f:=54) (ρ:=[some (.o 10),some (.p (.j k::rest))]) rfl ?_;refine bF (vF U) ?_;exact ko (n:=n) I (RK I Y) hz Y q
def nl(h:md.cL z (some pv)):∃lv,At z pv.2 lv/\lv.length<=md.kk/\(pv.1=1\/pv.1=2)/\(md.a=true->pv.1=1)/\(md.a=false->pv.1=2/\be lv=false):=by
 obtain⟨l,a,b,c⟩:=h;refine⟨l,a,b,?_⟩;generalize ho:md.a=Y
 induction Y using aS with
 |true=>rw[ho]at c;exact⟨.inl c,λJ=>c,λh=>nomatch h⟩|false=>rw[ho]at c;exact⟨.inr c.1,(λh=>nomatch h),λJ=>c⟩
def Gn(I:am z)(room:z.sz+1 < 4194303)(h:At z c lc)(hm:L[U]?=some (aI m))(A:md.cL z m)
  (q:∀z' (r:Nat) L' l,Gr 1 z z'->L <+:L'->At z' r l->(∀T,z'.a <+:T->T.Nodup->dc T m c=r)->(m=none->r=c/\l=lc)->(∀pv lv,m=some pv->At z pv.2 lv->l=ae (c6 m lv lc))->Q (.j r) (st z' L')):ar (ai (n+8) 83 [.o 10,.j c,.o (U+14)] (st z L)) Q:=by
 refine az (ρ:=[some (.o 10),some (.j c),some (.o (U+14))]) rfl ?_
 induction m using aX with
 |none=>
  refine FO (n:=n+6) hm ?_;exact q z c L lc ((Gr.refl I).mono (bb _)) (aA _) h (λT H H=>rfl) (λH=>⟨rfl,rfl⟩) (λpv lv e=>nomatch e)
 |some pv=>
  obtain⟨pid,v⟩:=pv;obtain⟨lv,B,_,G,_⟩:=nl A;refine Gm (n:=n) I room G h B hm λz' r L' g J j=>?_;refine q z' r L' _ g J j (λT p u=>?_) (λe=>nomatch e) (λa Y e f=>?_)
  .show uF T (i3 T (some (pid,v)) c)=r
   rw[kB I h B (g.d.trans p)];exact kz j.c p u
  .cases e;rw[f.c.fun I B.c]
end
section
variable{C:CT}{z:Z}{L:List O}{n t i N h k c a x y d:Nat}{Q:V->St->Prop}{l ls lt E lc la:List Nat}{σ:St}{T:Tb}{m:Mp}{s:Sp}{md:Md}
structure Gp(z':Z)(m:Mp)(c:Nat)(lc:List Nat)(c':Nat)(lc':List Nat):Prop where
 b:At z' c' lc'
 a:∀T,z'.a <+:T->T.Nodup->dc T m c=c'
 d:m=none->c'=c/\lc'=lc
 e:∀pv lv,m=some pv->At z' pv.2 lv->lc'=ae (c6 m lv lc)
def Gq(I:am z)(room:z.sz+1 < 4194303)(G:L[i]?=some (bM s))(p:s.e=aV c a x y d)(J:s.f=-1)(hm:L[s.c]?=some (aI m))(A:md.cL z m)(o:At z c lc)
  (q:∀z' (c':Nat) L' lc',Gr 1 z z'->L <+:L'->Gp z' m c lc c' lc'->Q (.j c') (st z' L')):ar (ai (n+9) 39 [.o (i+14)] (st z L)) Q:=by
 refine az (ρ:=[some (.o (i+14)),none]) rfl ?_;refine ag (a_ G rfl) ?_;refine ag (a_ G rfl) ?_;rw[J];refine ag (a_ G rfl) ?_;rw[p];refine ag (a_ G rfl) ?_;refine Gn (n:=n) I room o hm A λz' r L' l g hL j e1 w H=>?_;have u:z'.a.length < 4194304:=Z.bZ (c:=0) (by have:=g.f;exact "~2r;MJgkU5aLrhDhzYuYdJ" this room);obtain⟨kk,rest,v,U⟩:=sj g.e j;refine vl (n:=n+5) g.e u v U ?_;refine q z' r L' l g hL ⟨j,e1,w,λpv lv em B=>?_⟩;subst em;obtain⟨Y,f,_⟩:=nl A;rw[H pv Y rfl f,(f.gr g.d).c.fun g.e B.c]
def RL{p:Nat}(I:am z)(hz:z.a.length < 4194304)(Y:L[i]?=some (bM s))(J:s.f=(p:Int))(o:At z p lc)
  (q:Q (.j p) (st z L)):ar (ai (n+4) 39 [.o (i+14)] (st z L)) Q:=by
 refine az (ρ:=[some (.o (i+14)),none]) rfl ?_;obtain⟨kk,rest,v,U⟩:=sj I o;refine ag (a_ Y rfl) ?_;refine ag (a_ Y rfl) ?_;rw[J];refine ag (a_ Y rfl) ?_;rw[J];exact vl (n:=n) I hz v U q
def zt(I:am z)(p:z.a <+:T)(H:x∈aD):ii T x=none:=by
 obtain⟨r,Y,hk⟩:=ni I H;have v:=cI p Y;unfold ii;rw[v];rcases hk with hk |hk |hk |hk |⟨hk,e⟩ |⟨hk,e⟩
 .induction hk <;>rfl
 .subst hk;rw[I.at (t:=11) rfl]at Y;cases Y;rfl
 .subst hk;rw[jz I]at Y;cases Y;rfl
 .subst hk;rw[lO I]at Y;cases Y;rfl
 .subst e;rfl
 .subst e;rfl
theorem sk(I:am z)(j:At z i l)(p:z.a <+:T):∀h,aK h T (some pv) i=i3 T (some pv) i
 |0=>rfl|h+1=>by
  unfold aK i3;rw[j.c.bR I p];exact i4 λx H=>by rw[zt I p (j.d x H)]
theorem kD(j:At z i l)(ho:md.eG l):∀h,Wf md z h i
 |0=>⟨l,j,ho⟩|h+1=>⟨l,j.c,j.f,by rw[kC j.d];exact bb _,λp J=>.inl ⟨j.d p J,λe q=>ho e (by rw[<-q];exact J)⟩⟩
def lT(I:am z)(A:z.a[w]?=some (aV c a x y d)):29<=w/\b4 z w:=by
 have f:29<=w:=by
  apply BR;intro U;obtain⟨r,Y⟩:∃r,db[w]?=some r:=⟨_,iC (show w < db.length from U)⟩;rw[I.at Y]at A;have key:(db.all λr=>!cb (r.headD .z) (.j 16))=true:=by decide+kernel
  have v1:=el.mp key r (kU Y);rw[ay A]at v1;exact b7 v1
 exact⟨f,E9 I f A λl q=>by unfold aV du at q;cases q⟩
theorem Gs:∀l:List Nat,d8 (λJ=>g) l=l.length*g
 |[]=>(Ca g).symm|p::l=>by show g+d8 _ l=_;rw[Gs l,bI,kX,Nat.add_comm]
def RM(h:l.length=4):∃a b c d,l=[a,b,c,d]:=by
 induction l using bo with
 |nil=>exact Nat.noConfusion h
 |cons a l=>induction l using bo with
  |nil=>exact Nat.noConfusion (kR h)
  |cons b l=>induction l using bo with
   |nil=>exact Nat.noConfusion (kR (kR h))|cons c l=>
    obtain⟨d,e⟩:=Kb.mp (kR (kR (kR h)));exact⟨a,b,c,d,by rw[e]⟩
def Gu(hP:ft md h N)(I:am z)(room:z.sz+4*md.gB h+md.rP h+2<=4190000)(dp:z.b+3*h<=35)(kE:0<=z.b)(om:md.cL z (some pv))(hm:L[mi]?=some (aI (some pv)))
  (o:Wf md z h c) (G:Wf md z h a) (H:Wf md z h x) (v:Wf md z h y)
  (q:∀z' (w rc ra rx ry:Nat) L',Gr (4*md.gB h+1) z z'->L <+:L'->z'.a[w]?=some (aV rc ra rx ry d)->(∀p r,(p=c/\r=rc)\/(p=a/\r=ra)\/(p=x/\r=rx)\/(p=y/\r=ry)->∃l,bG z' (λT=>aK h T (some pv) p) (md.NO h) r l)->Q (.j w) (st z' L')):
  ar (ai (N+2) 27 [.o 10,.p (aV c a x y d),.o (mi+14)] (st z L)) Q:=by
 refine az (ρ:=[some (.o 10),some (.p (aV c a x y d)),some (.o (mi+14)),none]) rfl ?_;refine y0 (n:=N) hm ?_;have U:(L++[aI (some pv)])[L.length]?=some (aI (some pv)):=bk;have p1:L <+:L++[aI (some pv)]:=bp;generalize L++[aI (some pv)]=L1 at U p1;have RN:∀p∈[c,a,x,y],Wf md z h p:=iF.mpr ⟨o,iF.mpr ⟨G,iF.mpr ⟨H,iF.mpr ⟨v,nofun⟩⟩⟩⟩;have sn:d8 (λC=>md.gB h) [c,a,x,y]=4*md.gB h:=Gs _;refine FT (n:=N) (ps:=[c,a,x,y]) (R:=λz p r=>∃l,bG z (λT=>aK h T (some pv) p) (md.NO h) r l) (c:=λC=>md.gB h) (B:=4190000 - md.rP h) (λc z z' p r hr g=>let ⟨l,a⟩:=hr;⟨l,a.gr g.d⟩) I (bP rfl) (by rw[sn];exact "~zu^7P9SXNME6607fxDWx^CWzNawvFDr;" ao room) (λp J u L2 Q' i1 b1 d1 l1 f=>?_) λu L2 rs A p2 so=>?_
 .obtain⟨dd,gd⟩:=d1
  exact hP u L2 p L.length pv Q' i1 ((RN p J).gr gd.d) (ij om gd.d) (aC U l1) (by have:u.sz+md.gB h<=4190000 - md.rP h:=b1;exact "~77OEtMG8MmdGgNv3AIZa<e^uxLjpzaTBm4tsEhqsd" ao room b1) (by rw[gd.i];exact dp) (by rw[gd.i];exact kE) λz2 r l L3 g p3 RO=>f z2 r L3 g p3 ⟨l,RO⟩
 .have vm:=o8 so
  obtain⟨rc,ra,rx,ry,rfl⟩:∃rc ra rx ry,rs=[rc,ra,rx,ry]:=RM vm
  .rw[sn]at A
   have hs:=A.f;refine jt (n:=N) (r:=aV rc ra rx ry d) A.e rfl (.inl (.b ..)) ("~Qp;Y_gUpwJfJ9rgSoCnd9rj_a" room hs) λz2 w j hw=>?_;refine q z2 w rc ra rx ry L2 (A.trans j) (p1.trans p2) hw λp r zk=>?_;obtain⟨h1,h2,h3,h4,_⟩:=so;rcases zk with⟨e1,e2⟩ |⟨e1,e2⟩ |⟨e1,e2⟩ |⟨e1,e2⟩ <;>rw[e1,e2]
   .obtain⟨l,Y⟩:=h1;exact⟨l,Y.gr j.d⟩
   .obtain⟨l,Y⟩:=h2;exact⟨l,Y.gr j.d⟩
   .obtain⟨l,Y⟩:=h3;exact⟨l,Y.gr j.d⟩
   .obtain⟨l,Y⟩:=h4;exact⟨l,Y.gr j.d⟩
def zu(I:am z)(o:At z c lc)(p:z.a <+:z'.a)(Y:bG z' (λT=>aK h T (some pv) c) b c' l):∀T,z'.a <+:T->T.Nodup->dc T (some pv) c=c':=λT q n=>by
 have:=Y.uF q n;rw[sk I o (p.trans q)]at this;exact this
def RP(hP:md.a=true->ft md h N)(I:am z)(room:z.sz+4*md.gB h+md.rP h+4<=4190000)(dp:z.b+3*h<=35)(B:0<=z.b)(j:md.a=true)(om:md.cL z m)
  (hs:L[i]?=some (bM s)) (hr:s.e=aV c a x y d) (hm:L[s.c]?=some (aI m))
  (J:(s.f=-1/\∀T,z.a <+:T->T.Nodup->dc T m c=c')\/(s.f=(c':Int)/\c=c')) (o:At z c lc) (cM:At z c' lc') (G:At z a la) (H:m=none\/(Wf md z h x/\Wf md z h y))
  (q:∀z' (w:Nat) L',Gr (4*md.gB h+4) z z'->L <+:L'->29<=w->aO z' w [w]->(∀T,z'.a <+:T->T.Nodup->wF T (aK h T) m c' a x y d=w)->Q (.j w) (st z' L')):
  ar (ai (N+5) 40 [.o (i+14)] (st z L)) Q:=by
 have hz:z.a.length < 4194304:=Z.bZ (c:=0) ("~=Z26O;Q8LZ9xv5ReFejK" room);have oa:∀l,md.eG l:=λl e=>by rw[j]at e;cases e
 refine az (ρ:=[some (.o (i+14)),none]) rfl ?_;refine ag (a_ hs rfl) ?_;have neg:(s.f=-1/\(∀T,z.a <+:T->T.Nodup->dc T m c=c')\/(m=none/\c=c'))->∀K:V->St->Prop,(∀z' (w:Nat) L',Gr (4*md.gB h+4) z z'->L <+:L'->29<=w->aO z' w [w]->(∀T,z'.a <+:T->T.Nodup->wF T (aK h T) m c' a x y d=w)->K (.j w) (st z' L'))->
   ar (ai (N+4) 38 [.o 10,.p (aV c a x y d),.o (s.c+14)] (st z L)) K:=by
  intro Gv K kq;refine az (ρ:=[some (.o 10),some (.p (aV c a x y d)),some (.o (s.c+14))]) rfl ?_;refine aP (ic hm) ?_
  induction m using aX with
  |none=>
   refine jt (n:=N+2) (r:=aV c a x y d) I rfl (.inl (.b ..)) ("~=Z26O;Q8LZ9xv5RpSES_" room) λz' w g A=>?_;obtain⟨f_,sq⟩:=lT g.e A;have e:c=c':=by
    rcases Gv with⟨_,e⟩ |⟨_,e⟩
    .exact e z.a (aA _) I.a
    .exact e
   exact kq z' w L (g.mono ("~2DojkWmgZh" id)) (aA _) f_ (fq sq) λT p u=>lR u (by rw[<-e];exact cI p A)
  |some pv=>
   refine az (f:=84) (ρ:=[some (.o 10),some (.p (aV c a x y d)),some (.o (s.c+14))]) rfl ?_;obtain⟨hx,v⟩:=H.resolve_left (λe=>(nomatch e));refine Gu (hP j) I ("~69g9ZKwdff3qKs1KRfy8|sR_U;zh" room) dp B om hm (kD o (oa _) h) (kD G (oa _) h) hx v λz' w rc ra rx ry L' g hL A Y=>?_;obtain⟨f_,sq⟩:=lT g.e A;obtain⟨l1,r1⟩:=Y c rc (.inl ⟨rfl,rfl⟩);obtain⟨l2,r2⟩:=Y a ra (.inr (.inl ⟨rfl,rfl⟩));obtain⟨U,r3⟩:=Y x rx (.inr (.inr (.inl ⟨rfl,rfl⟩)));obtain⟨l4,r4⟩:=Y y ry (.inr (.inr (.inr ⟨rfl,rfl⟩)));have mZ:rc=c':=by
    rcases Gv with⟨_,e⟩ |⟨e,_⟩
    .rw[<-zu I o g.d r1 z'.a (aA _) g.e.a]
     exact e z'.a g.d g.e.a
    .cases e
   refine kq z' w L' (g.mono ("~PJ2|yK?d0OwO" id)) hL f_ (fq sq) λT p u=>?_;unfold wF pf;rw[zu I G g.d r2 T p u];show eD T (aV c' ra (uF T (aK h T (some pv) x)) (uF T (aK h T (some pv) y)) d)=w;rw[r3.uF p u,r4.uF p u,<-mZ];exact lR u (cI p A)
 rcases J with⟨J,vn⟩ |⟨J,mZ⟩
 .rw[J]
  refine ag (a_ hs rfl) ?_;refine ag (a_ hs rfl) ?_;rw[hr];refine ag (a_ hs rfl) ?_;exact neg (.inl ⟨J,vn⟩) _ q
 .rw[J]
  refine ag (a_ hs rfl) ?_;refine aP (ic hm) ?_
  induction m using aX with
  |none=>
   refine ag (a_ hs rfl) ?_;refine ag (a_ hs rfl) ?_;rw[hr];refine ag (a_ hs rfl) ?_;exact neg (.inr ⟨rfl,mZ⟩) _ q
  |some pv=>
   subst mZ;refine ag (a_ hs rfl) ?_;refine ag (a_ hs rfl) ?_;rw[hr];refine ag (a_ hs rfl) ?_;refine az (f:=38) (ρ:=[some (.o 10),some (.p (aV 2 a x y d)),some (.o (s.c+14))]) rfl ?_;refine aP (ic hm) ?_;refine az (f:=84) (ρ:=[some (.o 10),some (.p (aV 2 a x y d)),some (.o (s.c+14))]) rfl ?_;have h2:At z 2 []:=⟨hX,rfl,λx hx=>nomatch hx⟩;obtain⟨hx,v⟩:=H.resolve_left (λe=>(nomatch e));refine Gu (c:=2) (hP j) I ("~69g9ZKwdff3qKs1KRfy8|sR_U;zh" room) dp B om hm (kD h2 (oa _) h) (kD G (oa _) h) hx v λz' w rc ra rx ry L' g hL A Y=>?_;have s1:=g.f;have RQ:z'.a.length < 4194304:=Z.bZ (c:=0) ("~LYxhoiTqSC>9Fthw6tPsbxEh^N0" room s1);obtain⟨l2,r2⟩:=Y a ra (.inr (.inl ⟨rfl,rfl⟩));obtain⟨U,r3⟩:=Y x rx (.inr (.inr (.inl ⟨rfl,rfl⟩)));obtain⟨l4,r4⟩:=Y y ry (.inr (.inr (.inr ⟨rfl,rfl⟩)));conv=>whnf
   refine ag (a_ (aC hs hL) rfl) ?_;conv=>whnf
   refine ag (a_ (aC hs hL) rfl) ?_;rw[J];refine ag (a_ (aC hs hL) rfl) ?_;conv=>whnf
   refine ag (cp RQ A) ?_;refine jt (n:=N+3) (r:=aV c ra rx ry d) g.e rfl (.inl (.b ..)) ("~LYxhoiTqSC>9Fthw6tPsbxPua;B" room s1) λdE w' g' vo=>?_;obtain⟨f_,sq⟩:=lT g'.e vo;refine q dE w' L' ((g.trans g').mono ("~KKVqeQ0f80mjhQ" id)) hL f_ (fq sq) λT p u=>?_;unfold wF pf;rw[zu I G g.d r2 T (g'.d.trans p) u];show eD T (aV c ra (uF T (aK h T (some pv) x)) (uF T (aK h T (some pv) y)) d)=w';rw[r3.uF (g'.d.trans p) u,r4.uF (g'.d.trans p) u];exact lR u (cI p vo)
end
section
variable{C:CT}{z:Z}{L:List O}{n t i N h k c a x y d:Nat}{Q:V->St->Prop}{l ls lt E lc la:List Nat}{σ:St}{T:Tb}{m:Mp}{s:Sp}{md:Md}
def Gw(I:am z)(h:At z t l):∃k rest,z.a[t]?=some (.j k::rest)/\k≠16/\k≠19:=by
 rcases h.c.c with⟨_,e⟩ |e |⟨_,e⟩
 .subst e;exact⟨1,_,jx I,by decide,by decide⟩
 .obtain⟨r,Y,hk⟩:=ni I (h.d t (by rw[e];simp))
  rcases hk with hk |hk |hk |hk |⟨hk,e⟩ |⟨hk,e⟩
  .induction hk <;>exact⟨_,_,Y,by decide,by decide⟩
  .subst hk;exact⟨8,_,I.at rfl,by decide,by decide⟩
  .subst hk;exact⟨8,_,jz I,by decide,by decide⟩
  .subst hk;exact⟨8,_,lO I,by decide,by decide⟩
  .subst e;exact⟨10,_,Y,by decide,by decide⟩
  .subst e;exact⟨10,_,Y,by decide,by decide⟩
 .exact⟨6,_,e,by decide,by decide⟩
def Gx{k:Int}(h:T[t]?=some (.j k::rest))(U:k≠16):ii T t=none:=by
 unfold ii;rw[h];exact ab λe=>U (V.j.inj e)
def RR(A:Wf md z h t):∃l,aO z t l/\ae l=l/\ct l<=md.NI h:=by
 induction h using dN with
 |zero=>obtain⟨l,a,_⟩:=A;exact⟨l,a.c,a.f,by rw[kC a.d];exact bb _⟩|succ h=>obtain⟨l,a,b,c,_⟩:=A;exact⟨l,a,b,c⟩
def RS(I:am z)(A:Wf md z h t):(∃k rest,z.a[t]?=some (.j k::rest)/\k≠16/\k≠19)\/∃h',h=h'+1/\vk md z (Wf md z h') t:=by
 induction h using dN with
 |zero=>obtain⟨l,a,_⟩:=A;exact .inl (Gw I a)|succ h=>
  obtain⟨l,a,b,_,c⟩:=A;rcases a.c with⟨_,e⟩ |e |⟨_,e⟩
  .subst e;exact .inl ⟨1,_,jx I,by decide,by decide⟩
  .rcases c t (by rw[e];simp)with⟨q,_⟩ |q
   .exact .inl (Gw I ⟨eH I q,cX,λx H=>by rw[aB]at H;subst H;exact q⟩)
   .exact .inr ⟨h,rfl,q⟩
  .exact .inl ⟨6,_,e,by decide,by decide⟩
def Gy(hz:z.a.length < 4194304)(J:L[i]?=some (bM s))(I:z.a[t]?=some (.j kk::rest))(U:kk≠19)(q:Q (.p [.j t,.o (Y+14)]) (st z L)):
  ar (ai (n+1) 47 [.o (i+14),.j t,.o (Y+14)] (st z L)) Q:=by
 refine az (ρ:=[some (.o (i+14)),some (.j t),some (.o (Y+14)),none,none,none,none,none,none,none]) rfl ?_;refine ag (a_ J rfl) ?_;show hU (λρ k σ=>bK (ai n) (.n .a (.h (.h (.q (.d 4) 18) (.d 1)) (.g 0)) (.p 19)) ρ (λx σ=>eu σ x λt=>k t σ) σ) _ (999999+1) [some (.o (i+14)),some (.j t),some (.o (Y+14)),some (.o 10),some (.o 2),some (.j 0),none,none,none,none] _ (st z L);refine x1 ?_;refine ag (cp hz I) ?_;refine bF (vF U) ?_;exact q
def Gz{mi:Nat}(hN:1<=N)(hP:∀pv,m=some pv->ft md h N)(I:am z)(room:z.sz+md.gB h+md.rP h<=4190000)(dp:z.b+3*h<=35)(B:0<=z.b)(om:md.cL z m)(A:Wf md z h t)
  (hs:L[i]?=some (bM s)) (u:L[s.a]?=some (.a [.j k])) (w:i≠s.a) (hm:L[mi]?=some (aI m)) (i5:s.b < 100) (U:k < 3000)
  (q:∀z' (r:Nat) l L1,Gr (md.gB h) z z'->L <+:L1->bG z' (λT=>aK h T m t) (if md.a then 4 ^ h else 0) r l->Q .z (st z' (L1.set i (bM {s with g:=r}))))
  (qN:∀h' c a x y d lc la,h=h'+1->z.a[t]?=some (aV c a x y d)->29<=t->At z c lc->At z a la->md.gA lc d->md.eG la->Wf md z h' x->Wf md z h' y->d<=1->
   Q .z (st z (((L.set i (bM {s with b:=s.b+1})).set s.a (.a [.j (k+1:Nat)])).set i (bM {s with b:=s.b+1,e:=aV c a x y d,c:=mi,f:=-1})))):
  ar (ai (N+2) 48 [.o (i+14),.j t,.o (mi+14)] (st z L)) Q:=by
 have hz:z.a.length < 4194304:=Z.bZ (c:=0) ("~47sfRge<LXEm?X7HE" room);refine az (ρ:=[some (.o (i+14)),some (.j t),some (.o (mi+14)),none]) rfl ?_;conv=>whnf
 rcases RS I A with⟨kk,rest,hr,vp,RT⟩ |⟨h',e,o⟩
 .refine Gy (n:=N) hz hs hr RT ?_
  conv=>whnf
  refine ag (a_ hs rfl) ?_;conv=>whnf
  refine ag (cp hz hr) ?_;have RU:(!cb (.j kk) (.j 16))=true:=by rw[vF vp];rfl
  refine bT RU ?_;refine ag (a_ hs rfl) ?_;refine az (f:=83) (ρ:=[some (.o 10),some (.j t),some (.o (mi+14))]) rfl ?_
  induction m using aX with
  |none=>
   obtain⟨n,rfl⟩:=eW (k:=1) (N:=N) ("~Vs2GDPTt" hN);refine FO (n:=n) hm ?_;obtain⟨l,hl,H,cl⟩:=RR A;have j:md.a=true:=om;have Y:bG z (λT=>aK h T none t) (if md.a then 4 ^ h else 0) t l:=by
    refine⟨hl,H,?_,λT p hn=>?_⟩
    .rw[j]
     show ct l<=4 ^ h;refine aL cl ?_;unfold Md.NI;rw[j];exact tH h 4 (by decide)
    .induction h using dN with
     |zero=>
      show ae ((bi T t).flatMap λp=>bi T p)=l;rw[hl.bR I p,sh λx hx=>(fq (hl.d x hx)).bR I p,H]
     |succ h=>
      show ae (match ii T t with |some (c,a,x,y,d)=>cK T (aK h T) none c a x y d |none=>bi T t)=l;rw[Gx (cI p hr) vp];show ae (bi T t)=l;rw[hl.bR I p,H]
   refine eB hs (bP rfl) ?_;exact q z t l L ((Gr.refl I).mono (bb _)) (aA _) Y
  |some pv=>
   refine hP pv rfl z L t mi pv _ I A om hm room dp B λz' r l L1 g hL hR=>?_;conv=>whnf
   refine eB (aC hs hL) (bP rfl) ?_;exact q z' r l L1 g hL hR
 .subst e
  obtain⟨c,a,x,y,d,lc,la,hr,f_,o,G,oc,J,hx,v,hd⟩:=o;refine Gy (n:=N) hz hs hr (by decide) ?_;conv=>whnf
  refine ag (a_ hs rfl) ?_;conv=>whnf
  refine ag (cp hz hr) ?_;have hf:xE (.o (i+14)) 2 (st z L)=some (78,st z L):=bg hs rfl;refine ag hf ?_;refine Q8 (n:=N) hs u w i5 U ?_;have h1:((L.set i (bM {s with b:=s.b+1})).set s.a (.a [.j (k+1:Nat)]))[i]?=some (bM {s with b:=s.b+1}):=bz (aT hs) (Ne.symm w);have hq:=qN h' c a x y d lc la rfl hr f_ o G oc J hx v hd;generalize (L.set i (bM {s with b:=s.b+1})).set s.a (.a [.j (k+1:Nat)])=L1 at h1 hq;refine eB h1 (bP rfl) ?_;refine eB (aT h1) (bP rfl) ?_;refine eB (aT (aT h1)) (bP rfl) ?_;simp only[kQ];exact hq
end
abbrev lU(md:Md)(z:Z)(h:Nat)(m:Mp)(d:Nat)(lc la:List Nat)(x y:Nat):Prop:=(m=none/\(d=1->lc.length<=1)/\(be lc=true\/be la=true))\/(Wf md z h x/\Wf md z h y)
def lU.gr(q:lU md z h m d lc la x y)(p:z.a <+:z'.a):lU md z' h m d lc la x y:=q.imp id λq=>⟨q.1.gr p,q.2.gr p⟩
abbrev e9(md:Md)(h N:Nat):Prop:=∀(z:Z) (L:List O) (i:Nat) (s:Sp) (m:Mp) (k c a x y d:Nat) (lc la:List Nat) (Q:V->St->Prop),am z->df z L i s m [] k->s.e=aV c a x y d->s.f=-1->s.g=-1->
 At z c lc->At z a la->md.gA lc d->md.eG la->lU md z h m d lc la x y->d<=1->md.cL z m->s.b+h<=90->k+2*sp (h+1)<=2700->z.sz+md.rF h<=4190000->z.b+3*(h+1)<=35->0<=z.b->
 (∀z' (r:Nat) l L' (k':Nat),Gr (md.gC (md.gB h)) z z'->Fm L L' [i,s.a,s.d]->L'[s.a]?=some (.a [.j k'])->k'<=k+sp (h+1)->bG z' (λT=>cK T (aK h T) m c a x y d) (if md.a then 4 ^ (h+1)else 0) r l->Q (.j r) (st z' L'))->
 ar (ai N 50 [.o (i+14)] (st z L)) Q
section
variable{C:CT}{z:Z}{L:List O}{n t i N h k c a x y d:Nat}{Q:V->St->Prop}{l ls lt E lc la:List Nat}{σ:St}{T:Tb}{m:Mp}{s:Sp}{md:Md}
def lV(I:am z)(Y:z.a[t]?=some (aV c a x y d))(p:z.a <+:T):aK (h+1) T m t=cK T (aK h T) m c a x y d:=by
 have o:=zq (cI p Y)
 induction m using aX with
 |none=>unfold aK;rw[o]|some pv=>
  unfold aK;rw[(fq (lT I Y).2).bR I p];show(match ii T t with |some (c,a,x,y,d)=>cK T (aK h T) (some pv) c a x y d |none=>_)++[]=_;rw[o,b_]
def RV:1<=md.NI h:=by unfold Md.NI;split;exact av _;exact tH _ _ (by decide)
def zv(h:Nat):md.gC (md.gB h)+1<=md.gB (h+1):=by
 show _<=md.NI (h+1)*md.gC (md.gB h)+1;have:=fM (md.gC (md.gB h)) (RV (md:=md) (h:=h+1));rw[tI]at this;exact "~7558MS^i8rR" this
def RW(Y:1<=N)(u:∀pv,m=some pv->ft md h N)(dG:∀h',h=h'+1->e9 md h' (N+2))(I:am z)(room:z.sz+md.gB h+md.rP h<=4190000)(dp:z.b+3*h<=34)(B:0<=z.b)(A:md.cL z m)(hw:Wf md z h t)
  (S:df z L i s m E k) (j:s.b+h<=90) (U:k+1+2*sp h<=2700)
  (q:∀z' (r:Nat) l L' (k':Nat),Gr (md.gB h) z z'->Fm L L' [s.a]->L'[s.a]?=some (.a [.j k'])->k'<=k+(1+sp h)->bG z' (λT=>aK h T m t) (if md.a then 4 ^ h else 0) r l->Q (.j r) (st z' L')):
  ar (ai (N+3) 51 [.o (i+14),.j t,.o (s.c+14)] (st z L)) Q:=by
 refine az (ρ:=[some (.o (i+14)),some (.j t),some (.o (s.c+14)),none]) rfl ?_;refine ag (a_ S.a rfl) ?_;refine ag (a_ S.a rfl) ?_;refine ag (a_ S.a rfl) ?_;refine ag (a_ S.a rfl) ?_;refine u6 (n:=N+1) λL1 p1 l1 nn RX=>?_;have w:=S.ext (z':=z) p1;have iZ:s.a < L.length:=(bW.mp S.c).1;have ss:s.c < L.length:=(bW.mp S.b).1;refine Gz (N:=N) (i:=L.length) (s:=⟨s.e,s.c,s.b,s.a,L.length+1,-1,-1⟩) Y u I room ("~3MDjKnUsaQV?MPX|OgO" dp) B A hw nn w.c (by show L.length≠s.a;exact "~2GzJy?1k" iZ) w.b (by show s.b < 100;exact "~1HwV^nMEDcjh4u" j) ("~4?h=^R7805SzSvLv8" U) (λz' r l L2 g p2 hR=>?_) (λh' c a x y d lc la eh hr f_ o G oc J H hy hd=>?_)
 .have gD:(L2.set L.length (bM {e:=s.e,c:=s.c,b:=s.b,a:=s.a,d:=L.length+1,f:=-1,g:=r}))[L.length]?=_:=aT (aC nn p2)
  have su:(L2.set L.length (bM {e:=s.e,c:=s.c,b:=s.b,a:=s.a,d:=L.length+1,f:=-1,g:=r}))[s.a]?=some (.a [.j k]):=bz (aC w.c p2) ("~2GzJy?1k" iZ);have sA:Fm L (L2.set L.length (bM {e:=s.e,c:=s.c,b:=s.b,a:=s.a,d:=L.length+1,f:=-1,g:=r})) [s.a]:=Fm.pre (bE (p1.trans p2) (av _));generalize L2.set L.length (bM {e:=s.e,c:=s.c,b:=s.b,a:=s.a,d:=L.length+1,f:=-1,g:=r})=L3 at gD su sA;refine ag (a_ gD rfl) ?_;refine ag (a_ gD rfl) ?_;exact q z' r l L3 k g sA su (er _ _) hR
 .subst eh
  have gD:=aT (o':=bM {e:=aV c a x y d,c:=s.c,b:=s.b+1,a:=s.a,d:=L.length+1,f:=-1,g:=-1}) (bz (o':=.a [.j (k+1:Nat)]) (i:=s.a) (aT (o':=bM {e:=s.e,c:=s.c,b:=s.b+1,a:=s.a,d:=L.length+1,f:=-1,g:=-1}) nn) ("~TJx2T=<R" iZ));have su:=bz (i:=L.length) (o':=bM {e:=aV c a x y d,c:=s.c,b:=s.b+1,a:=s.a,d:=L.length+1,f:=-1,g:=-1}) (aT (o':=.a [.j (k+1:Nat)]) (bz (i:=L.length) (o':=bM {e:=s.e,c:=s.c,b:=s.b+1,a:=s.a,d:=L.length+1,f:=-1,g:=-1}) w.c ("~2GzJy?1k" iZ))) ("~2GzJy?1k" iZ);have i2:=bz (i:=L.length) (o':=bM {e:=aV c a x y d,c:=s.c,b:=s.b+1,a:=s.a,d:=L.length+1,f:=-1,g:=-1}) (bz (i:=s.a) (o':=.a [.j (k+1:Nat)]) (bz (i:=L.length) (o':=bM {e:=s.e,c:=s.c,b:=s.b+1,a:=s.a,d:=L.length+1,f:=-1,g:=-1}) w.b ("~2GzJy?1k" ss)) (Ne.symm S.ne1.2.2.2.1)) ("~2GzJy?1k" ss);have sg:=bz (i:=L.length) (o':=bM {e:=aV c a x y d,c:=s.c,b:=s.b+1,a:=s.a,d:=L.length+1,f:=-1,g:=-1}) (bz (i:=s.a) (o':=.a [.j (k+1:Nat)]) (bz (i:=L.length) (o':=bM {e:=s.e,c:=s.c,b:=s.b+1,a:=s.a,d:=L.length+1,f:=-1,g:=-1}) RX ("~7y5QJo18>" id)) ("~NiHf4zuMs?" iZ)) ("~7y5QJo18>" id);have sA:Fm L (((L1.set L.length (bM {e:=s.e,c:=s.c,b:=s.b+1,a:=s.a,d:=L.length+1,f:=-1,g:=-1})).set s.a (.a [.j (k+1:Nat)])).set L.length (bM {e:=aV c a x y d,c:=s.c,b:=s.b+1,a:=s.a,d:=L.length+1,f:=-1,g:=-1})) [s.a]:=
   Fm.new p1 (((Fm.set (ex:=[L.length,s.a]) (by simp)).trans (Fm.set (by simp))).trans (Fm.set (by simp))) (λx H hl=>by
    simp only[bH,dW,kW]at H ⊢;rcases H with e |e
    .lia
    .exact e)
  generalize ((L1.set L.length (bM {e:=s.e,c:=s.c,b:=s.b+1,a:=s.a,d:=L.length+1,f:=-1,g:=-1})).set s.a (.a [.j (k+1:Nat)])).set L.length (bM {e:=aV c a x y d,c:=s.c,b:=s.b+1,a:=s.a,d:=L.length+1,f:=-1,g:=-1})=L3 at gD su i2 sg sA;have XZ:L.length < L3.length:=(bW.mp gD).1;refine ag (a_ gD rfl) ?_;have X0:sp (h'+1)=4*(1+sp h'):=rfl;have sB:=zv (md:=md) h';have v:md.rP (h'+1)=md.rF h':=rfl;refine dG h' rfl z L3 L.length ⟨aV c a x y d,s.c,s.b+1,s.a,L.length+1,-1,-1⟩ m (k+1) c a x y d lc la _ I ⟨gD,i2,su,sg,by show s.a≠L.length+1;exact "~NiHf4zuMs?" iZ⟩ rfl rfl rfl o G oc J (.inr ⟨H,hy⟩) hd A (by show s.b+1+h'<=90;exact "~3MR5uWQfn9WYkMEMNIg" j) ("~f4pPWd>GLFmyf1mAiJuLe" U) ("~Wu8qPZf0>wU|lcXBrGa1KIP" v room) ("~2KnUkO_D_Cpc8lvSoBs;bgl" dp) B λz' r l L' k' g hf RY jB hR=>?_;refine q z' r l L' k' (g.mono ("~8Qs>azpMF" sB)) (sA.then hf ?_) RY ("~1Js|50_0rQBKBA" jB) ⟨hR.a,hR.e,hR.d,λT p hn=>by rw[lV I hr (g.d.trans p)];exact hR.c T p hn⟩;intro x H hl;simp only[bH,dW,kW]at H ⊢;rcases H with e |e |e
  .lia
  .exact e
  .lia
end
abbrev jC(z:Z)(E S:List Nat):Prop:=(∀e∈E,∃l,aO z e l/\ae l=l)/\S=E.flatMap (bi z.a)
def jC.gr(I:am z)(h:jC z E S)(p:z.a <+:z'.a):jC z' E S:=by
 refine⟨λe J=>let ⟨l,a,b⟩:=h.1 e J;⟨l,a.gr p,b⟩,?_⟩;rw[h.2];exact i4 λe J=>by obtain⟨l,a,_⟩:=h.1 e J;rw[a.bR I p,a.bR I (aA _)]
abbrev bU(c:Nat):Nat:=if c=0 then 2 else 1
def vq:1<=bU c:=by unfold bU;split <;>decide
def pg:bU c<=2:=by unfold bU;split <;>decide
def vr:(bU c - 1)*X+X=bU c*X:=by rw[<-kX,Nat.succ_eq_add_one,JW vq]
def GA:(bU c - 1)*X<=X:=by have:=fM X (Nat.sub_le_sub_right (pg (c:=c)) 1);rw[tI]at this;exact this
def RZ:bU c*X<=2*X:=fM X pg
def nq(A B:List Nat):ct (A++B)=ct A+ct B:=by unfold ct;rw[List.filter_append,ca]
abbrev Md.b(md:Md)(h:Nat):Nat:=if md.a then 4 ^ h else 0
abbrev Md.gT(md:Md)(h nb:Nat):Nat:=if md.a then 4*md.gB h+30 else nb*md.gB h+30
section
variable{C:CT}{z:Z}{L:List O}{n t i N h k c a x y d:Nat}{Q:V->St->Prop}{l ls lt E lc la:List Nat}{σ:St}{T:Tb}{m:Mp}{s:Sp}{md:Md}
structure TD(z:Z)(L:List O)(i:Nat)(s:Sp)(E:List Nat)(k:Nat)(g b sv:Nat)(val:Tb->List Nat)(z':Z)(r:Nat)(L':List O)(k':Nat)(E' S:List Nat)(s':Sp):Prop where
 a:Gr g z z'
 t:Fm L L' [i,s.a,s.d]
 c:L'[i]?=some (bM s')
 f:s'.g=r
 w:s'.d=s.d
 x:L'[s.d]?=some (.a (aa (E++E')))
 l:L'[s.a]?=some (.a [.j k'])
 o:k'<=k+sv
 y:(E++E').length<=99
 d:jC z' (E'++[r]) S
 j:ct S<=b
 u:∀T,z'.a <+:T->T.Nodup->ae (val T)=ae S
structure TN(md:Md)(z:Z)(L:List O)(i:Nat)(s:Sp)(m:Mp)(E:List Nat)(k:Nat)(h en g b sv:Nat)(val:Tb->List Nat)(z':Z)(L':List O)(k':Nat)(E' S:List Nat)(h' c a x y d:Nat)(lc la:List Nat):Prop where
 v:h=h'+1
 f:Gr g z z'
 w:Fm L L' [i,s.a,s.d]
 q:df z' L' i {s with e:=aV c a x y d,b:=s.b+1,f:=-1} m (E++E') k'
 u:k'<=k+sv
 G:At z' c lc
 H:At z' a la
 r:md.gA lc d
 t:md.eG la
 o:Wf md z' h' x
 l:Wf md z' h' y
 C:d<=1
 B:E'.length<=en
 j:jC z' E' S
 F:ct S<=b
 A:∀T,z'.a <+:T->T.Nodup->ae (val T)=ae (S++cK T (aK h' T) m c a x y d)
def GB(hP:md.a=true->ft md h N)(I:am z)(room:z.sz+4*md.gB h+md.rP h+4<=4190000)(dp:z.b+3*h<=35)(B:0<=z.b)(j:md.a=true)(om:md.cL z m)(hE:E.length<=99)
  (S:df z L i s m E k) (hr:s.e=aV c a x y d)
  (hp:(s.f=-1/\∀T,z.a <+:T->T.Nodup->dc T m c=c')\/(s.f=(c':Int)/\c=c')) (o:At z c lc) (cM:At z c' lc') (G:At z a la) (H:m=none\/(Wf md z h x/\Wf md z h y))
  (Y:∀T,z.a <+:T->T.Nodup->val T=[wF T (aK h T) m c' a x y d])
  (q:∀z' r L' k' E' S' s',TD z L i s E k (4*md.gB h+4) 1 0 val z' r L' k' E' S' s'->Q .z (st z' L')):
  ar (ai (N+6) 41 [.o (i+14)] (st z L)) Q:=by
 refine az (ρ:=[some (.o (i+14))]) rfl ?_;refine RP (N:=N) hP I room dp B j om S.a hr S.b hp o cM G H λz' w L' g U f A heq=>?_;refine eB (aC S.a U) (bP rfl) ?_;have oG:=S.ne1;have v:=A.bR g.e (aA _);refine q z' w (L'.set i (bM {s with g:=w})) k [] [w] {s with g:=w} ⟨g,(Fm.pre U).trans (Fm.set (by simp)),aT (aC S.a U),rfl,rfl,?_,bz (aC S.c U) oG.1,av _,by rw[b_];exact hE,⟨λe J=>?_,?_⟩,?_,λT p u=>?_⟩
 .rw[b_];exact bz (aC S.d U) oG.2.1
 .rw[di,aB]at J;subst J;exact⟨_,A,cX⟩
 .rw[di,dM,jh,b_,v]
 .unfold ct;exact jQ _ _
 .rw[Y T (g.d.trans p) u,heq T p u]
def zw(Y:1<=N)(hP:∀pv,m=some pv->ft md h N)(I:am z)(room:z.sz+md.gB h+md.rP h<=4190000)(dp:z.b+3*h<=34)(B:0<=z.b)(A:md.cL z m)(hw:Wf md z h t)
  (S:df z L i s m E k) (j:s.b < 100) (hE:E.length<=99) (U:k < 3000)
  (q:∀z' r L' k' E' S' s',TD z L i s E k (md.gB h) (md.b h) 0 (λT=>aK h T m t) z' r L' k' E' S' s'->Q .z (st z' L'))
  (qN:∀z' L' k' E' S' h' c a x y d lc la,TN md z L i s m E k h 0 0 0 1 (λT=>aK h T m t) z' L' k' E' S' h' c a x y d lc la->Q .z (st z' L')):
  ar (ai (N+2) 48 [.o (i+14),.j t,.o (s.c+14)] (st z L)) Q:=by
 have w:=S.ne1;refine Gz Y hP I room ("~3MDjKnUsaQV?MPX|OgO" dp) B A hw S.a S.c w.1 S.b j U (λz' r l L1 g hL hR=>?_) (λh' c a x y d lc la eh hr f o G oc oa H v hd=>?_)
 .have hp:=hR.a.bR g.e (aA _)
  refine q z' r _ k [] l {s with g:=r} ⟨g,(Fm.pre hL).trans (Fm.set (by simp)),aT (aC S.a hL),rfl,rfl,?_,bz (aC S.c hL) w.1,av _,by rw[b_];exact hE,⟨λe J=>?_,?_⟩,hR.d,λT p u=>?_⟩
  .rw[b_];exact bz (aC S.d hL) w.2.1
  .rw[di,aB]at J;subst J;exact⟨_,hR.a,hR.e⟩
  .rw[di,dM,jh,b_,hp]
  .rw[hR.c T p u,hR.e]
 .subst eh
  refine qN z _ (k+1) [] [] h' c a x y d lc la ⟨rfl,Gr.refl I,((Fm.set (by simp)).trans (Fm.set (by simp))).trans (Fm.set (by simp)),⟨?_,?_,?_,?_,S.f⟩,av _,o,G,oc,oa,H,v,hd,av _,⟨λe J=>(nomatch J),rfl⟩,av _,λT p u=>?_⟩
  .exact aT (bz (aT S.a) (Ne.symm w.1))
  .exact bz (bz (bz S.b w.2.2.1) (Ne.symm w.2.2.2.1)) w.2.2.1
  .exact bz (aT (bz S.c w.1)) w.1
  .rw[b_]
   exact bz (bz (bz S.d w.2.1) S.f) w.2.1
  .rw[lV I hr p];rfl
def TD.mono(D:TD z L i s E k g b sv val z' r L' k' E' S' s')(H:g<=Y)(U:b<=G)(J:sv<=I)
  (B:∀T,z'.a <+:T->T.Nodup->ae (val' T)=ae (val T)):TD z L i s E k Y G I val' z' r L' k' E' S' s':=
 ⟨D.a.mono H,D.t,D.c,D.f,D.w,D.x,D.l,aL D.o ("~1xL3<KmOfG" J),D.y,D.d,aL D.j U,λT p n=>(B T p n).trans (D.u T p n)⟩
def TN.mono(D:TN md z L i s m E k h en g b sv val z' L' k' E' S' h' c a x y d lc la)(J:en<=Y)(U:g<=g')(hb:b<=b')(hs:sv<=I)
  (hv:∀T,z'.a <+:T->T.Nodup->ae (val' T)=ae (val T)):TN md z L i s m E k h Y g' b' I val' z' L' k' E' S' h' c a x y d lc la:=
 ⟨D.v,D.f.mono U,D.w,D.q,aL D.u ("~1xL3<KmOfG" hs),D.G,D.H,D.r,D.t,D.o,D.l,D.C,aL D.B J,D.j,aL D.F hb,λT p n=>(hv T p n).trans (D.A T p n)⟩
def TD.before(D:TD z L i s (E++I) k g b sv val z' r L' k' E' S' s')(A:Gr g0 z0 z)(f1:Fm L0 L [i,s.a,s.d])(U:k<=H+v)(Y:jC z I S0)(c0:ct S0<=q)
  (B:∀T,z'.a <+:T->T.Nodup->ae (val' T)=ae (S0++val T)):TD z0 L0 i s E H (g0+g) (q+b) (v+sv) val' z' r L' k' (I++E') (S0++S') s':=by
 have G:=Y.gr A.e D.a.d;refine⟨A.trans D.a,f1.trans D.t,D.c,D.f,D.w,by rw[<-c7];exact D.x,D.l,by have v1:=D.o;exact "~4tFPMUcndaBsQ=x" v1 U,by rw[<-c7];exact D.y,⟨λe J=>?_,?_⟩,by rw[nq];have v2:=D.j;exact "~KUoXt;JxMNP8" c0 v2,λT p n=>?_⟩
 .rw[c7]at J
  rcases aZ.mp J with h |h
  .exact G.1 e h
  .exact D.d.1 e h
 .rw[c7,qw,<-G.2,<-D.d.2]
 .rw[B T p n,<-eE,D.u T p n,eE]
def TN.before(D:TN md z L i s m (E++I) k h en g b sv val z' L' k' E' S' h' c a x y d lc la)(g1:Gr g0 z0 z)(f1:Fm L0 L [i,s.a,s.d])(U:k<=k0+v0)(Y:jC z I S0)(c0:ct S0<=b0)
  (hv:∀T,z'.a <+:T->T.Nodup->ae (val' T)=ae (S0++val T)):TN md z0 L0 i s m E k0 h (I.length+en) (g0+g) (b0+b) (v0+sv) val' z' L' k' (I++E') (S0++S') h' c a x y d lc la:=by
 have sC:=Y.gr g1.e D.f.d;refine⟨D.v,g1.trans D.f,f1.trans D.w,by rw[<-c7];exact D.q,by have v1:=D.u;exact "~4tFPMUcndaBsQ=x" v1 U,D.G,D.H,D.r,D.t,D.o,D.l,D.C,by rw[ca];have v2:=D.B;exact "~1xL3<KmOfG" v2,⟨λe J=>?_,?_⟩,by rw[nq];have v3:=D.F;exact "~KUoXt;JxMNP8" c0 v3,λT p n=>?_⟩
 .rcases aZ.mp J with h |h
  .exact sC.1 e h
  .exact D.j.1 e h
 .rw[qw,<-sC.2,<-D.j.2]
 .rw[hv T p n,c7,<-eE,D.A T p n,eE]
def R0{v:Nat}(hN:1<=N)(hf:f<=N)(u:∀N,f<=N->ft md h N)(dG:∀h',h=h'+1->∀N,f<=N->e9 md h' N)(I:am z)(room:z.sz+4*md.gB h+md.rP h+4<=4190000)(dp:z.b+3*h<=34)(B:0<=z.b)(A:md.cL z m)
  (S:df z L i s m E k) (hr:s.e=aV c a x y d) (j:s.b+h<=90) (hE:E.length < 99) (U:k+4*(1+sp h)<=2700)
  (hp:(s.f=-1/\∀T,z.a <+:T->T.Nodup->dc T m c=c')\/(s.f=(c':Int)/\c=c')) (o:At z c lc) (cM:At z c' lc') (G:At z a la) (H:(m=none/\v=3)\/(Wf md z h x/\Wf md z h y))
  (hv:v=0\/v=1\/v=2\/(v=3/\md.a=true))
  (g:∀T,z.a <+:T->T.Nodup->val T=if v=3 then[wF T (aK h T) m c' a x y d]else if v=1 then aK h T m x else if v=2 then aK h T m x++aK h T m y else aK h T m y)
  (ph:v=2->nb=2) (sE:1<=nb) (vt:nb<=2)
  (qD:∀z' r L' k' E' S' s',TD z L i s E k (if md.a then 4*md.gB h+4 else nb*md.gB h) (nb*(if md.a then 4 ^ h else 0)) (nb*(1+sp h)) val z' r L' k' E' S' s'->Q .z (st z' L'))
  (qN:∀z' L' k' E' S' h' c a x y d lc la,TN md z L i s m E k h 1 ((nb - 1)*md.gB h) ((nb - 1)*(if md.a then 4 ^ h else 0)) ((nb - 1)*(1+sp h)+1) val z' L' k' E' S' h' c a x y d lc la->Q .z (st z' L')):
  ar (ai (N+7) 46 [.o (i+14),.j v,.o (s.c+14)] (st z L)) Q:=by
 refine az (ρ:=[some (.o (i+14)),some (.j v),some (.o (s.c+14))]) rfl ?_;have w:=S.ne1;have b1:md.b h<=nb*(if md.a then 4 ^ h else 0):=by
  unfold Md.b;exact tJ _ sE
 have g1:md.gB h<=(if md.a then 4*md.gB h+4 else nb*md.gB h):=by
  split
  .exact "~9wnjNbJt<" id
  .exact tJ _ sE
 have s1:1+sp h<=nb*(1+sp h):=tJ _ sE;rcases hv with e |e |e |⟨e,jD⟩
 .subst e
  obtain⟨hx,hy⟩:=H.resolve_left (λq=>(nomatch q.2));refine ag (a_ S.a rfl) ?_;rw[hr];refine ag (a_ S.a rfl) ?_;refine zw (N:=N+4) (t:=y) ("~bOjFpuZS" id) (λpv C=>u _ ("~8RCdW1<7|" hf)) I ("~20XslX>O2hMio3jt62vfReZAK" room) dp B A hy S ("~1HwV^nMEDcjh4u" j) ("~KNooqSj8I^R^" hE) ("~4?h=^PUlOiIWIorzF" U) (λz' r L' k' E' S' s' D=>?_) (λz' L' k' E' S' h' c2 a2 x2 Y d2 ef eg D=>?_)
  .exact qD z' r L' k' E' S' s' (D.mono g1 b1 ("~jyJGaC" id) λT p n=>by rw[g T (D.a.d.trans p) n];rfl)
  .exact qN z' L' k' E' S' h' c2 a2 x2 Y d2 ef eg (D.mono (bb _) (bb _) (bb _) (xg _ _) λT p n=>by rw[g T (D.f.d.trans p) n];rfl)
 .subst e
  obtain⟨hx,hy⟩:=H.resolve_left (λq=>(nomatch q.2));refine ag (a_ S.a rfl) ?_;rw[hr];refine zw (N:=N+4) (t:=x) ("~bOjFpuZS" id) (λpv C=>u _ ("~8RCdW1<7|" hf)) I ("~20XslX>O2hMio3jt62vfReZAK" room) dp B A hx S ("~1HwV^nMEDcjh4u" j) ("~KNooqSj8I^R^" hE) ("~4?h=^PUlOiIWIorzF" U) (λz' r L' k' E' S' s' D=>?_) (λz' L' k' E' S' h' c2 a2 x2 Y d2 ef eg D=>?_)
  .exact qD z' r L' k' E' S' s' (D.mono g1 b1 ("~jyJGaC" id) λT p n=>by rw[g T (D.a.d.trans p) n];rfl)
  .exact qN z' L' k' E' S' h' c2 a2 x2 Y d2 ef eg (D.mono (bb _) (bb _) (bb _) (xg _ _) λT p n=>by rw[g T (D.f.d.trans p) n];rfl)
 .subst e
  have ph:=ph rfl;subst ph;obtain⟨hx,hy⟩:=H.resolve_left (λq=>(nomatch q.2));refine ag (a_ S.a rfl) ?_;have hex:gH .a (.o (s.d+14)) (st z L)=some ((),st z L):=ed .a S.d (.inl rfl);refine ag hex ?_;refine ag (a_ S.a rfl) ?_;rw[hr];refine RW (N:=N+3) (t:=x) ("~bO;NhYYz" id) (λpv C=>u _ ("~8RCa|9M=H" hf)) (λh' e=>dG h' e _ ("~755;UuZfQBP" hf)) I ("~20XslX>O2hMio3jt62vfReZAK" room) dp B A hx S j ("~f4pPWMNLp_vjkg1B^|kCN" U) λz1 J l1 L1 k1 i6 f1 R5 zx R1=>?_;have nn:=i6.f;have ga:L1[i]?=some (bM s):=f1.2 i _ (by simp;exact w.1) S.a;have R7:L1[s.c]?=some (aI m):=f1.2 _ _ (by simp;exact w.2.2.2.1) S.b;have ex1:L1[s.d]?=some (.a (aa E)):=f1.2 _ _ (by simp;exact Ne.symm S.f) S.d;have R8:Fm L L1 [i,s.a,s.d]:=f1.mono (by simp);refine ec ex1 (by rw[cJ];exact "~PM|71?7sN1" hE) ?_;rw[show aa E++[V.j (J:Int)]=aa (E++[J])by rw[h_];rfl];have S2:df z1 (L1.set s.d (.a (aa (E++[J])))) i s m (E++[J]) k1:=⟨bz ga (Ne.symm w.2.1),bz R7 (Ne.symm w.2.2.2.2),bz R5 (Ne.symm S.f),aT ex1,S.f⟩;have f2:Fm L (L1.set s.d (.a (aa (E++[J])))) [i,s.a,s.d]:=R8.trans (Fm.set (by simp));generalize L1.set s.d (.a (aa (E++[J])))=L2 at S2 f2;have GC:jC z1 [J] l1:=⟨λe he=>by rw[aB]at he;subst he;exact⟨_,R1.a,R1.e⟩,by rw[dM,jh,b_,R1.a.bR i6.e (aA _)]⟩;refine ag (a_ S2.a rfl) ?_;rw[hr];refine ag (a_ S2.a rfl) ?_;refine zw (N:=N+4) (t:=y) ("~bOjFpuZS" id) (λpv C=>u _ ("~8RCdW1<7|" hf)) i6.e ("~1MDXbOUry>IxgZirj5yKDGptW6H72" room nn) (by rw[i6.i];exact dp) (by rw[i6.i];exact B) (ij A i6.d) (hy.gr i6.d) S2 ("~1HwV^nMEDcjh4u" j) (by rw[ca];simp only[bI,dK];exact "~CkzGV0y7cdeD2gbf" hE) ("~2LUs|zxg6|N3rjrr06tj0Ep" U zx) (λz' r L' k' E' S' s' D=>?_) (λz' L' k' E' S' h' c2 a2 x2 Y d2 ef eg D=>?_)
  .refine qD z' r L' k' _ _ s' ((D.before (val':=val) i6 f2 zx GC R1.d λT p n=>?_).mono ?_ ?_ ("~6xT_y^JsZX3^Y" id) λT p n=>rfl)
   .rw[g T (i6.d.trans (D.a.d.trans p)) n]
    show ae (aK h T m x++aK h T m y)=_;rw[<-gy,R1.c T (D.a.d.trans p) n]
   .split <;>lia
   .unfold Md.b;exact "~bOlZE5HS" id
  .refine qN z' L' k' _ _ h' c2 a2 x2 Y d2 ef eg ((D.before (val':=val) i6 f2 zx GC R1.d λT p n=>?_).mono (av _) ?_ ?_ (by lia) λT p n=>rfl)
   .rw[g T (i6.d.trans (D.f.d.trans p)) n]
    show ae (aK h T m x++aK h T m y)=_;rw[<-gy,R1.c T (D.f.d.trans p) n]
   .lia
   .lia
 .subst e
  refine GB (N:=N) (val:=val) (λC=>u _ hf) I room ("~3MDjKnUsaQV?MPX|OgO" dp) B jD A ("~KNooqSj8I^R^" hE) S hr hp o cM G (H.imp (λq=>q.1) id) (λT p n=>by rw[g T p n];rfl) λz' r L' k' E' S' s' D=>?_;refine qD z' r L' k' E' S' s' (D.mono ?_ ?_ (bb _) λT p n=>rfl)
  .rw[jD];exact av _
  .rw[jD];exact aL (tH h 4 (by decide)) (tJ _ sE)
end
section
variable{C:CT}{z:Z}{L:List O}{n t i N h k c a x y d:Nat}{Q:V->St->Prop}{l ls lt E lc la:List Nat}{σ:St}{T:Tb}{m:Mp}{s:Sp}{md:Md}
def TD.grown(D:TD z L i s E k g b sv val z' r L' k' E' S' s')(A:Gr g0 z0 z)(p:L0 <+:L):TD z0 L0 i s E k (g0+g) b sv val z' r L' k' E' S' s':=
 ⟨A.trans D.a,(Fm.pre p).trans D.t,D.c,D.f,D.w,D.x,D.l,D.o,D.y,D.d,D.j,D.u⟩
def TN.grown(D:TN md z L i s m E k h en g b sv val z' L' k' E' S' h' c a x y d lc la)(Y:Gr g0 z0 z)(p:L0 <+:L):TN md z0 L0 i s m E k h en (g0+g) b sv val z' L' k' E' S' h' c a x y d lc la:=
 ⟨D.v,Y.trans D.f,(Fm.pre p).trans D.w,D.q,D.u,D.G,D.H,D.r,D.t,D.o,D.l,D.C,D.B,D.j,D.F,D.A⟩
def TD.zy(S:df z L i s m E k)(U:E.length<=99)(A:Gr g z z')(p:L <+:L')(B:At z' v lv)(J:∀T,z'.a <+:T->T.Nodup->ae (val T)=lv):
  TD z L i s E k g b sv val z' v (L'.set i (bM {s with g:=v})) k [] lv {s with g:=v}:=by
 have Y:=S.ne1;refine⟨A,(Fm.pre p).trans (Fm.set (by simp)),aT (aC S.a p),rfl,rfl,?_,bz (aC S.c p) Y.1,er _ _,by rw[b_];exact U,⟨λe J=>?_,?_⟩,by rw[kC B.d];exact bb _,λT q n=>by rw[J T q n,B.f]⟩
 .rw[b_];exact bz (aC S.d p) Y.2.1
 .rw[di,aB]at J;subst J;exact⟨_,B.c,B.f⟩
 .rw[di,dM,jh,b_,B.c.bR A.e (aA _)]
def GD(G:pid=2)(Y:27∉l)(B:be lv=false):be (c6 (some (pid,v)) lv l)=false:=by
 unfold be at B ⊢;rw[qu]at B ⊢;have dm:27∉lv:=λe=>by rw[bj.mpr e]at B;cases B.1
 have lW:28∉lv:=λe=>by rw[bj.mpr e]at B;cases B.2
 have key:∀q,q∉lv->(q∈l->q=28)->q∉c6 (some (pid,v)) lv l:=λq h1 h2 h3=>by
  obtain⟨p,J,H⟩:=fu.mp h3
  split at H
  .exact h1 H
  .rename_i w
   rw[aB]at H;subst H;have:=h2 J;lia
 exact⟨eo.mpr λe=>key 27 dm (λe=>absurd e Y) (bj.mp e),eo.mpr λe=>key 28 lW (λQ=>rfl) (bj.mp e)⟩
def GF(h:be l=false):be (ae l)=false:=by
 unfold be at h ⊢;rw[qu]at h ⊢;exact⟨eo.mpr λe=>by(rw[bj.mpr (cu (bj.mp e))]at h;cases h.1),eo.mpr λe=>by(rw[bj.mpr (cu (bj.mp e))]at h;cases h.2)⟩
abbrev GG:List CS:=[.h (.j 36 [.d 1,.d 3,.j 35 [.q (.d 1) 21,.d 2]]) [.k (.j 41 [.d 0])] [.h (.j 29 [.d 1,.h (.d 2) (.g 5),.q (.d 0) 8]) [.j] [.k (.j 45 [.d 0,.d 2,.d 3])]]]
def GH(zz:ρ=[some (.o (i+14)),some (.o 10),some (.p s.e),some (.j c')])(hN:1<=N)(hf:f<=N)(hP:∀N,f<=N->ft md h N)(dG:∀h',h=h'+1->∀N,f<=N->e9 md h' N)(I:am z)(pi:z.sz+4*md.gB h+md.rP h+30<=4190000)(dp:z.b+3*h<=34)(B:0<=z.b)(om:md.cL z m)
  (S:df z L i s m E k) (hr:s.e=aV c a x y d) (i5:s.b+h<=90) (hE:E.length < 99) (U:k+4*(1+sp h)<=2700)
  (J:(s.f=-1/\∀T,z.a <+:T->T.Nodup->dc T m c=c')\/(s.f=(c':Int)/\c=c')) (hc:At z c lc) (cM:At z c' lc') (G:At z a la) (oa:md.eG la) (H:(m=none/\(be lc'=true\/be la=true))\/(Wf md z h x/\Wf md z h y)) (dD:md.a=false->be lc'=false)
  (qD:∀z' r L' k' E' S' s',TD z L i s E k (md.gT h (bU c')) ((bU c')*(if md.a then 4 ^ h else 0)) ((bU c')*(1+sp h)) (λT=>cA T (aK h T) m c' a x y d) z' r L' k' E' S' s'->∀ρ,K .a ρ (st z' L'))
  (qN:∀z' L' k' E' S' h' v a2 x2 Y d2 ef eg,TN md z L i s m E k h 1 (((bU c') - 1)*md.gB h+21) (((bU c') - 1)*(if md.a then 4 ^ h else 0)) (((bU c') - 1)*(1+sp h)+1) (λT=>cA T (aK h T) m c' a x y d) z' L' k' E' S' h' v a2 x2 Y d2 ef eg->∀ρ,K .a ρ (st z' L')):
  aM (ai (N+11)) GG ρ K (st z L):=by
 subst zz;have hz:z.a.length < 4194304:=Z.bZ (c:=0) ("~;UcHMQ_1GWd_Af7YgNS=F3" pi);have pj:∀T,z.a <+:T->bi T c'=lc':=λT p=>cM.c.bR I p;rw[hr];refine Fu (n:=N+10) I hz hc.c G.c ?_;refine Fs (n:=N+8) I hz cM.c ?_;rw[Gf I cM.d];generalize ho:be lc'=x_
 induction x_ using aS with
 |true=>
  have jD:md.a=true:=by
   generalize e:md.a=x_
   induction x_ using aS with
   |true=>rfl|false=>rw[dD e]at ho;cases ho
  refine GB (N:=N+5) (val:=λT=>cA T (aK h T) m c' a x y d) (λQ=>hP _ ("~8RCg5ux3c" hf)) I ("~59=sgL?tfVnA72euf0CLm4gAFTSKyr" pi) ("~3MDjKnUsaQV?MPX|OgO" dp) B jD om ("~KNooqSj8I^R^" hE) S hr J hc cM G (H.imp (λq=>q.1) id) (λT p n=>by unfold cA;rw[pj T p,ho];rfl) λz' r L' k' E' S' s' D=>?_;refine qD z' r L' k' E' S' s' (D.mono ?_ ?_ (bb _) λT p n=>rfl) _
  .unfold Md.gT;rw[jD];show 4*md.gB h+4<=4*md.gB h+30;exact "~KJ=F6MBC4FClux" id
  .rw[jD]
   exact aL (tH h 4 (by decide)) (tJ _ vq)
 |false=>
  have kc:=Gg cM.d ho;refine ag (a_ S.a rfl) ?_;refine Q3 (n:=N+10) ?_;refine az (f:=45) (ρ:=[some (.o (i+14)),some (.p (aV c a x y d)),some (.j c'),none,none,none,none,none]) rfl ?_;refine ag (a_ S.a rfl) ?_;refine ag (a_ S.a rfl) ?_;refine Gn (n:=N+2) I ("~7J2;Apc<ogTUnuX3c^N?fj08>5" pi) G S.b om λu a' L1 pk A p1 sF e1 e2 e3=>?_;have s1:=A.f;have o:u.a.length < 4194304:=Z.bZ (c:=0) ("~1eCAaoMIL9NIX4TzcT0iotXp|^u" pi s1);obtain⟨kk,rest,zA,R9⟩:=sj A.e sF;have S1:=S.ext (z':=u) p1;have R_:md.a=false->be pk=false:=λe=>by
   induction m using aX with
   |none=>rw[show md.a=true from om]at e;cases e|some pv=>
    obtain⟨lv,hv,_,_,_,GI⟩:=nl om;rw[e3 pv lv rfl hv];exact GF (GD (GI e).1 (oa e) (GI e).2)
  refine vl (n:=N+7) A.e o zA R9 ?_;refine ag (a_ S1.a rfl) ?_;refine aP (a:=.j 0) (σ:=st u L1) rfl ?_;conv=>whnf
  have cv:cb (.j a') (.j 13)=(a'==13):=by
   by_cases h:a'=13
   .subst h;rfl
   .rw[vF ("~1I;8B4iIgVS>z3" h),cD.mpr h]
  rw[cv];by_cases w:a'=13
  .rw[aH.mpr w]
   refine eB S1.a (bP rfl) ?_;have nk:At u 13 [13]:=⟨fq (nd A.e (by decide)),cX,by decide⟩;refine qD u 13 _ k [] [13] {s with g:=13} (TD.zy S ("~KNooqSj8I^R^" hE) (A.mono ?_) p1 nk λT q n=>?_) _
   .unfold Md.gT;split <;>lia
   .show ae (cA T (aK h T) m c' a x y d)=_
    unfold cA;rw[pj T (A.d.trans q),ho,e1 T q n,w];rfl
  .rw[cD.mpr w]
   refine Fu (n:=N+9) A.e o (hc.gr A.d).c (G.gr A.d).c ?_;refine RE (n:=N) A.e ("~zv00RPKxH>>Dyiu?vc<7mDjJmTFhbgmZ" pi s1) (cM.gr A.d).c cM.f kc sF.c sF.f sF.d w λz2 L2 j p2=>?_;have s2:=j.f;have Sa:jv c' a' lc' pk=0\/jv c' a' lc' pk=1\/jv c' a' lc' pk=2\/(jv c' a' lc' pk=3/\md.a=true):=by
    unfold jv
    split
    .rename_i h
     refine .inr (.inr (.inr ⟨rfl,?_⟩));generalize e:md.a=x_
     induction x_ using aS with
     |true=>rfl|false=>rw[R_ e]at h;cases h
    .split
     .exact .inr (.inl rfl)
     .split
      .exact .inr (.inr (.inl rfl))
      .split
       .exact .inr (.inl rfl)
       .exact .inl rfl
   have j2:jv c' a' lc' pk=2->c'=0:=by
    unfold jv
    split
    .intro e;cases e
    .split
     .intro e;cases e
     .split
      .intro _;assumption
      .split <;>intro e <;>cases e
   have ik:z.a <+:z2.a:=A.d.trans j.d;refine R0 (f:=f) (N:=N+3) (c':=c') (lc':=lc') (val:=λT=>cA T (aK h T) m c' a x y d) (nb:=bU c') ("~bO;NhYYz" id) ("~8RCa|9M=H" hf) hP dG j.e ("~7ZPy<Om2gShdz0o^g0vu0cK8>gpO_vbMN?V01Ulu5" pi s1 s2) (by rw[j.i,A.i];exact dp) (by rw[j.i,A.i];exact B) (ij om ik) (S1.ext p2) hr i5 hE U
    (J.imp (λq=>⟨q.1,λT p n=>q.2 T (ik.trans p) n⟩) id) (hc.gr ik) (cM.gr ik) (G.gr ik) (H.imp (λq=>⟨q.1,by
     have e3:=(e2 q.1).2;unfold jv;rw[e3,ah (q.2.resolve_left λe=>by rw[ho]at e;cases e)]⟩) λq=>⟨q.1.gr ik,q.2.gr ik⟩) Sa (λT p n=>?_) (λe=>ah (j2 e)) vq pg (λz' r L' k' E' S' s' D=>?_) (λz' L' k' E' S' h' v a2 x2 Y d2 ef eg D=>?_)
   .unfold cA
    rw[pj T (ik.trans p),ho,e1 T (j.d.trans p) n,(sF.gr j.d).c.bR j.e p];rw[ab (by decide),ab w]
   .refine qD z' r L' k' E' S' s' ((D.grown (A.trans j) (p1.trans p2)).mono ?_ (av _) (av _) λT p n=>rfl) _
    unfold Md.gT;split <;>lia
   .exact qN z' L' k' E' S' h' v a2 x2 Y d2 ef eg ((D.grown (A.trans j) (p1.trans p2)).mono (av _) ("~1HgKsWBtNI4IDX>r" id) (av _) (av _) λT p n=>rfl) _
end
section
variable{C:CT}{z:Z}{L:List O}{n t i N h k c a x y d:Nat}{Q:V->St->Prop}{l ls lt E lc la:List Nat}{σ:St}{T:Tb}{m:Mp}{s:Sp}{md:Md}
abbrev vu:List CS:=[.h (.n .a (.d 3) (.p 13)) [.l (.d 0) 4 (.p 13)] [.h (.z [.n .a (.h (.d 2) (.g 6)) (.g 1),.n .a (.d 3) (.p 2)]) [.l (.d 0) 4 (.p 2)]
 [.h (.z [.n .a (.h (.d 2) (.g 6)) (.g 1),.n .a (.j 0 [.q (.d 1) 21,.d 3]) (.p 6)]) [.k (.j 43 [.d 0,.d 3])] GG]]]
def Se(I:am z)(h:At z t l)(h1:l.length<=1):∃k rest,z.a[t]?=some (.j k::rest)/\k≠6:=by
 rcases oY I h.c with⟨r,Y,J,_⟩ |⟨_,h2,_⟩
 .obtain⟨k,rest,e,U⟩:=J.head
  subst e;exact⟨k,rest,Y,U⟩
 .lia
def GJ(zz:ρ=[some (.o (i+14)),some (.o 10),some (.p s.e),some (.j c')])(hN:1<=N)(hf:f<=N)(u:∀N,f<=N->ft md h N)(dG:∀h',h=h'+1->∀N,f<=N->e9 md h' N)(I:am z)(p:z.sz+4*md.gB h+md.rP h+30<=4190000)(dp:z.b+3*h<=34)(B:0<=z.b)(A:md.cL z m)
  (S:df z L i s m E k) (hr:s.e=aV c a x y d) (j:s.b+h<=90) (hE:E.length < 99) (U:k+4*(1+sp h)<=2700)
  (J:(s.f=-1/\∀T,z.a <+:T->T.Nodup->dc T m c=c')\/(s.f=(c':Int)/\c=c')) (o:At z c lc) (cM:At z c' lc') (G:At z a la) (oa:md.eG la) (H:(m=none/\(be lc'=true\/be la=true))\/(Wf md z h x/\Wf md z h y)) (g:md.a=false->be lc'=false)
  (w:c'≠13) (jE:¬ (d=1/\c'=2)) (gM:¬ (d=1/\2<=lc'.length))
  (qD:∀z' r L' k' E' S' s',TD z L i s E k (md.gT h (bU c')) ((bU c')*(if md.a then 4 ^ h else 0)) ((bU c')*(1+sp h)) (λT=>cA T (aK h T) m c' a x y d) z' r L' k' E' S' s'->∀ρ,K .a ρ (st z' L'))
  (qN:∀z' L' k' E' S' h' v a2 q Y d2 ef eg,TN md z L i s m E k h 1 (((bU c') - 1)*md.gB h+21) (((bU c') - 1)*(if md.a then 4 ^ h else 0)) (((bU c') - 1)*(1+sp h)+1) (λT=>cA T (aK h T) m c' a x y d) z' L' k' E' S' h' v a2 q Y d2 ef eg->∀ρ,K .a ρ (st z' L')):
  aM (ai (N+11)) vu ρ K (st z L):=by
 subst zz;have hz:z.a.length < 4194304:=Z.bZ (c:=0) ("~;UcHMQ_1GWd_Af7YgNS=F3" p);rw[hr];refine bF (vF ("~1I;8B4iIgVS>z3" w)) ?_;by_cases hd:d=1
 .subst hd
  have GK:c'≠2:=λe=>jE ⟨rfl,e⟩;refine bF (vF ("~=PTImdM<v;e>2^Q2w7H1" jE)) ?_;obtain⟨kk,rest,zA,zl⟩:=Se I cM (by have:¬ 2<=lc'.length:=λe=>gM ⟨rfl,e⟩;exact "~17_P>JZz0RBAPHad" gM);refine uS (n:=N+10) hz zA ?_;refine bF (vF zl) ?_;refine GH (s:=s) (by rw[hr]) hN hf u dG I p dp B A S hr j hE U J o cM G oa H g (λz' r L' k' E' S' s' D ρ=>?_) (λz' L' k' E' S' h' v a2 q Y d2 ef eg D ρ=>?_)
  .exact qD z' r L' k' E' S' s' D _
  .exact qN z' L' k' E' S' h' v a2 q Y d2 ef eg D _
 .have hv:cb (.j d) (.j 1)=false:=vF ("~KRpiAlSvejfM" hd)
  refine bF hv ?_;refine bF hv ?_;refine bF hv ?_;refine bF hv ?_;refine GH (s:=s) (by rw[hr]) hN hf u dG I p dp B A S hr j hE U J o cM G oa H g (λz' r L' k' E' S' s' D ρ=>?_) (λz' L' k' E' S' h' v a2 q Y d2 ef eg D ρ=>?_)
  .exact qD z' r L' k' E' S' s' D _
  .exact qN z' L' k' E' S' h' v a2 q Y d2 ef eg D _
abbrev lX(N f i:Nat)(K:cZ->ba->St->Prop)(σ:St):Prop:=
 hU (λρ k σ=>bK (ai N) (.n .f (.q (.d 0) 4) (.g 0)) ρ (λx σ=>eu σ x λt=>k t σ) σ) (λρ k σ=>aM (ai N) [.k (.j 44 [.d 0])] ρ k σ) f [some (.o (i+14))] K σ
def GL{r:Nat}(h:L[i]?=some (bM s))(Y:s.g=(r:Int))(q:K .a [some (.o (i+14))] (st z L)):lX N (f+1) i K (st z L):=by
 refine x1 ?_;refine ag (a_ h rfl) ?_;rw[Y];exact q
def GN(h:L[i]?=some (bM s))(Y:s.g=-1)(q:∀Q:V->St->Prop,(∀σ,lX N f i K σ->Q .z σ)->ar (ai N 44 [.o (i+14)] (st z L)) Q):lX N (f+1) i K (st z L):=by
 refine x1 ?_;refine ag (a_ h rfl) ?_;rw[Y];refine q _ λσ U=>?_;exact U
abbrev kF(md:Md)(h N:Nat):Prop:=∀(f:Nat) (z:Z) (L:List O) (i:Nat) (s:Sp) (m:Mp) (E:List Nat) (k c a x y d:Nat) (lc la:List Nat) (K:cZ->ba->St->Prop),h+2<=f->am z->df z L i s m E k->s.e=aV c a x y d->s.f=-1->s.g=-1->
 At z c lc->At z a la->md.gA lc d->md.eG la->lU md z h m d lc la x y->d<=1->md.cL z m->s.b+h<=90->E.length+h < 90->k+2*sp (h+1)<=2700->z.sz+md.rF h<=4190000->z.b+3*(h+1)<=36->0<=z.b->
 (∀z' r L' k' E' S' s',TD z L i s E k (md.gC (md.gB h) - 1) (md.b (h+1)) (sp (h+1)) (λT=>cK T (aK h T) m c a x y d) z' r L' k' E' S' s'->K .a [some (.o (i+14))] (st z' L'))->lX N f i K (st z L)
def GO(h:Nat):md.gC (md.gB h)=if md.a then 16*md.gB h+200 else 2*md.gB h+70:=rfl
def GP{ef eg:List Nat}{val:Tb->List Nat}{u:Z}{L1:List O}{k1:Nat}{E1 w:List Nat}{K:cZ->ba->St->Prop}(o:h=h'+1->kF md h' N)(i7:s.g=-1)(A:md.cL z m)(hf:h+1<=f)
  (D:TN md z L i s m E k h en g b sv val u L1 k1 E1 w h' c2 a2 x2 Y d2 ef eg) (j:s.b+h<=90) (hE:E.length+en+h < 91) (U:k+sv+2*sp h<=2700) (room:z.sz+g+md.rP h<=4190000) (dp:z.b+3*h<=36) (B:0<=z.b)
  (H:g+md.gB h<=g') (hb:b+md.b h<=G) (hs:sv+sp h<=I)
  (q:∀z' r L' k' E' S' s',TD z L i s E k g' G I val z' r L' k' E' S' s'->K .a [some (.o (i+14))] (st z' L')):lX N f i K (st u L1):=by
 have hh:=D.v;subst hh;have v:=zv (md:=md) h';have Sf:md.rP (h'+1)=md.rF h':=rfl;have Sg:=D.f.f;have jB:=D.u;have Sh:=D.B;refine o rfl f u L1 i _ m (E++E1) k1 c2 a2 x2 Y d2 ef eg K ("~5vYelkpO;s0>F" hf) D.f.e D.q rfl rfl i7 D.G D.H D.r D.t (.inr ⟨D.o,D.l⟩) D.C (ij A D.f.d) (by show s.b+1+h'<=90;exact "~3MR5uWQfn9WYkMEMNIg" j) (by rw[ca];exact "~;MhWUhdx6GLJgzs>gEyhxq" Sh hE) ("~2LVKXOETSBw|b1IEmKGkg9u" U jB) ("~LS9<qYi0mDtGHBbxDJ0JFs1<1uG" Sf room Sg) (by rw[D.f.i];exact "~2Knr4zcF26HacCMn^IwXa6G" dp) (by rw[D.f.i];exact B) λz' r L' k' E' S' s' D2=>?_;have D3:TD z L i s E k (g+(md.gC (md.gB h') - 1)) (b+md.b (h'+1)) (sv+sp (h'+1)) val z' r L' k' (E1++E') (w++S') s':=by
  have sC:=D.j.gr D.f.e D2.a.d;refine⟨D.f.trans D2.a,D.w.trans D2.t,D2.c,D2.f,D2.w,by rw[<-c7];exact D2.x,D2.l,by have v1:=D2.o;exact "~4tFPMUcndaBsQ=x" v1 jB,by rw[<-c7];exact D2.y,⟨λe J=>?_,?_⟩,by rw[nq];have v2:=D2.j;have v3:=D.F;exact "~KUoXt;JxMNP8" v3 v2,λT p n=>?_⟩
  .rw[c7]at J
   rcases aZ.mp J with h |h
   .exact sC.1 e h
   .exact D2.d.1 e h
  .rw[c7,qw,<-sC.2,<-D2.d.2]
  .rw[D.A T (D2.a.d.trans p) n,<-eE,D2.u T p n,eE]
 exact q z' r L' k' _ _ s' (D3.mono ("~Ue0|KjK>mgLtx;8ux8aAJ^v" ao v H) ("~1xurQM03sQ" hb) ("~1xurQM03sQ" hs) λT p n=>rfl)
end
section
variable{C:CT}{z:Z}{L:List O}{n t i N h k c a x y d:Nat}{Q:V->St->Prop}{l ls lt E lc la:List Nat}{σ:St}{T:Tb}{m:Mp}{s:Sp}{md:Md}
abbrev pn(z:Z)(s:Sp)(m:Mp)(c c':Nat)(lc':List Nat):Prop:=(s.f=(c':Int)/\c=c'/\At z c' lc')\/(s.f=-1/\∃pid,(pid=1\/pid=2)/\m=some (pid,c')/\c=26+pid/\lc'=[c']/\At z c' [c'])
def Si(h:pn z s m c c' lc'):At z c' lc':=by
 rcases h with⟨_,_,h⟩ |⟨_,pid,_,_,_,e,h⟩
 .exact h
 .rw[e];exact h
def Sj(I:am z)(J:pid=1\/pid=2):At z (26+pid) [26+pid]:=by
 have U:26+pid∈aD:=by rcases J with e |e <;>subst e <;>decide
 exact⟨eH I U,cX,λx H=>by rw[aB]at H;subst H;exact U⟩
def Sk(I:am z)(room:z.sz+1 < 4194303)(S:df z L i s m E k)(U:s.e=aV c a x y d)(A:md.cL z m)(o:pn z s m c c' lc')
  (q:∀u L1,Gr 1 z u->L <+:L1->((s.f=-1/\∀T,u.a <+:T->T.Nodup->dc T m c=c')\/(s.f=(c':Int)/\c=c'))->Q (.j c') (st u L1)):ar (ai (n+9) 39 [.o (i+14)] (st z L)) Q:=by
 rcases o with⟨h1,h2,h3⟩ |⟨h1,pid,G,h2,h3,h4,h5⟩
 .exact RL (n:=n+5) I (Z.bZ (c:=0) ("~C^PVwhkhv|LtD>N^" room)) S.a h1 h3 (q z L ((Gr.refl I).mono (bb _)) (aA _) (.inr ⟨h1,h2⟩))
 .subst h3
  refine Gq (n:=n) I room S.a U h1 S.b A (Sj I G) λu c1 L1 l1 g p1 Y=>?_;have e:=Y.e _ [c'] h2 (h5.gr g.d);rw[h2]at e;have w:c6 (some (pid,c')) [c'] [26+pid]=[c']:=by
   unfold c6;show(if 26+pid=26+pid then[c']else[26+pid])++[]=_;rw[ah rfl];rfl
  rw[w,cX]at e;have H:c1=c':=gu.inj g.e.a (e▸Y.b.c.c) (h5.gr g.d).c.c;subst H;exact q u L1 g p1 (.inl ⟨h1,Y.a⟩)
def GQ(h1:nb<=2):md.gT h nb<=4*md.gB h+30:=by
 unfold Md.gT;split
 .exact av _
 .have:=fM (md.gB h) h1;exact "~y4s7Ju7?Vbu3xiERm" this
def Sl(Y:1<=N)(hf:f<=N)(u:∀N,f<=N->ft md h N)(dG:∀h',h=h'+1->∀N,f<=N->e9 md h' N)(im:∀h',h=h'+1->∀N,f<=N->kF md h' N)(g:h+2<=fl)(I:am z)(room:z.sz+4*md.gB h+md.rP h+40<=4190000)(dp:z.b+3*h<=34)(B:0<=z.b)(om:md.cL z m)
  (S:df z L i s m E k) (hr:s.e=aV c a x y d) (i7:s.g=-1) (j:s.b+h<=90) (hE:E.length+h < 89) (U:k+4*(1+sp h)<=2700)
  (o:At z c lc) (cM:pn z s m c c' lc') (G:At z a la) (J:md.eG la) (hx:Wf md z h x) (v:Wf md z h y) (dD:md.a=false->be lc'=false)
  (w:c'≠13) (jE:¬ (d=1/\c'=2)) (gM:¬ (d=1/\2<=lc'.length))
  (q:∀z' r L' k' E' S' s',TD z L i s E k (md.gT h (bU c')+1) ((bU c')*md.b h) ((bU c')*(1+sp h)) (λT=>cA T (aK h T) m c' a x y d) z' r L' k' E' S' s'->K .a [some (.o (i+14))] (st z' L')):
  lX (N+12) fl i K (st z L):=by
 obtain⟨fl,rfl⟩:=eW (k:=1) (N:=fl) ("~1xGuc^qDi?" g);have ph:bU c'<=2:=pg;have sE:1<=bU c':=vq;have sG:=GQ (md:=md) (h:=h) ph;refine GN S.a i7 λQ hQ=>?_;refine az (ρ:=[some (.o (i+14)),none,none,none]) rfl ?_;refine ag (a_ S.a rfl) ?_;refine ag (a_ S.a rfl) ?_;refine Sk (n:=N+2) I ("~7J2;Apc>o>RLL|cVvZ>E26yINA" room) S hr om cM λz1 L1 A p1 Sn=>?_;have s1:=A.f;have po:=(Si cM).gr A.d;refine GJ (s:=s) (md:=md) (h:=h) (lc':=lc') (la:=la) rfl Y hf u dG A.e ("~fQ?Er4Q0ZI4sZ?tYcV0uD^Wv3x|<Kw^Kn9M6" room s1) (by rw[A.i];exact dp) (by rw[A.i];exact B) (ij om A.d) (S.ext p1) hr j ("~1HwPReSVV9GwND" hE) U Sn (o.gr A.d) po (G.gr A.d) J (.inr ⟨hx.gr A.d,v.gr A.d⟩) dD w jE gM (λz' r L' k' E' S' s' D ρ=>?_) (λz' L' k' E' S' h' c2 a2 x2 y2 d2 ef eg D ρ=>?_)
 .have D2:=D.grown A p1
  refine hQ _ ?_;have hh:h+1<=fl:= "~5pbI>ga6GmX0;" g;obtain⟨X1,rfl⟩:∃n,fl=n+1:=⟨fl - 1, "~63RgBrOt^p>_flAj39OsdHsLyUgY" ao g⟩;refine GL D2.c D2.f (q z' r L' k' E' S' s' (D2.mono ("~2DiI17x9Ar" id) (av _) (av _) λT p n=>rfl))
 .have D2:=D.grown A p1
  refine hQ _ ?_;have hb:((bU c') - 1)*(if md.a then 4 ^ h else 0)+md.b h<=(bU c')*md.b h:=gV vr;have hs:((bU c') - 1)*(1+sp h)+1+sp h<=(bU c')*(1+sp h):=by rw[ty];exact gV vr
  have H:1+(((bU c') - 1)*md.gB h+21)+md.gB h<=md.gT h (bU c')+1:=by
   have e:=vr (c:=c') (X:=md.gB h);have e2:=RZ (c:=c') (X:=md.gB h);unfold Md.gT
   split <;>lia
  have gD:(bU c')*(1+sp h)<=2*(1+sp h):=fM _ ph;exact GP (λe=>im h' e _ ("~1xL7PVdVau" hf)) i7 om ("~5pbI>ga6GmX0;" g) D2 j ("~444WEldEd4VzykQQ=" hE) ("~olIZlzH3;YKrPc7M6woGlCTIrClt_Hjp=g" hs U gD) ("~<GlyqmrUrs35Wrl41Np=6S|ZwqBA>rb|Q42U^SVZIPf_TF1Bwxzf" room H sG) ("~3MDjKnUsaQVgYxNHfmx" dp) B H hb hs q
end
section
variable{C:CT}{z:Z}{L:List O}{n t i N h k c a x y d:Nat}{Q:V->St->Prop}{l ls lt E lc la:List Nat}{σ:St}{T:Tb}{m:Mp}{s:Sp}{md:Md}
def So:∀{m:List Nat},l.Nodup->(∀x∈l,x∈m)->l.length<=m.length:=by
 induction l with
 |nil=>
  intro _ _ _;exact bb _
 |cons a l ih=>
  intro m u h;have h2:=fL.mp u;have:=ih (m:=m.erase a) h2.2 λx H=>(List.mem_erase_of_ne λe=>h2.1 (by rw[<-e];exact H)).mpr (h x (b6 _ H));rw[List.length_erase_of_mem (h a br)]at this;have J:0 < m.length:=List.length_pos_of_mem (h a br);simp only[bI];exact "~ad^|jZ30lxrR9QdaQDw_d" ao this J
def nr:ct (ae S)<=ct S:=by
 unfold ct;refine So (kn.filter _) λx H=>?_;rw[c8]at H ⊢;exact⟨cu H.1,H.2⟩
def zB(u:l.Nodup):l.length<=ct l+29:=by
 have h1:(l.filter λx=>!decide (29<=x)).length<=29:=ju 29 (u.filter _) λx H=>by
  rw[c8]at H;have:=H.2;simp only[qv,decide_eq_false_iff_not,Nat.not_le]at this;exact this
 have h2:∀l:List Nat,l.length=(l.filter λx=>decide (29<=x)).length+(l.filter λx=>!decide (29<=x)).length:=λl=>by
  induction l with
  |nil=>rfl|cons a l ih=>
   rw[jf,jf];by_cases h:29<=a
   .simp only[h,decide_true,qp,bI,Bool.not_true,jd,je];exact "~Bl2kKpK31aAX956E" ih
   .simp only[h,decide_false,je,bI,Bool.not_false,qp,jd];exact "~Bl2kKpJT7LC3mQTr" ih
 have:=h2 l;unfold ct;exact "~?0XaSYGo1tWmP^|vyb" this h1
def jC.has(I:am z)(h:jC z E S):∀e∈E,aO z e (bi z.a e):=λe J=>by
 obtain⟨l,a,_⟩:=h.1 e J;rw[a.bR I (aA _)];exact a
def GR(hb:b<=300)(room:z.sz+g+1<=4190000)(S:df z L i s m [] k)
  (o:∀K:cZ->ba->St->Prop,(∀z' r L' k' E' S' s',TD z L i s [] k g b sv val z' r L' k' E' S' s'->K .a [some (.o (i+14))] (st z' L'))->lX (N+3) 1000000 i K (st z L))
  (q:∀z' (r:Nat) l L' (k':Nat),Gr (g+1) z z'->Fm L L' [i,s.a,s.d]->L'[s.a]?=some (.a [.j k'])->k'<=k+sv->bG z' val b r l->Q (.j r) (st z' L')):ar (ai (N+4) 49 [.o (i+14)] (st z L)) Q:=by
 refine az (ρ:=[some (.o (i+14))]) rfl ?_;refine o _ λz' r L' k' E' S' s' D=>?_;have G:E'.length < 4000000:=by have:=D.y;rw[di]at this;exact "~GBxuFp>vs8ASkt" this
 have sz:=D.a.f;have B:L'[s'.d]?=some (.a (aa E')):=by rw[D.w];have:=D.x;rwa [di]at this
 refine ag (a_ D.c rfl) ?_;have v:b1 .a (.o (s'.d+14)) (st z' L')=some (.j E'.length,st z' L'):=by
  have:=rJ (yR (z:=z') B) (by rw[cJ];exact Nat.lt_trans G (by decide));rw[cJ]at this;exact this
 refine aP v ?_
 induction A:E' using bo with
 |nil=>
  subst A;refine ag (a_ D.c rfl) ?_;rw[D.f];have J:=D.d;rw[di]at J;obtain⟨l,Y,H⟩:=J.1 r (by simp);have hS:S'=l:=by rw[J.2,dM,jh,b_,Y.bR D.a.e (aA _)]
  refine q z' r l L' k' (D.a.mono ("~2ht<WbGf" id)) D.t D.l D.o ⟨Y,H,by rw[<-hS];exact D.j,λT p n=>by rw[D.u T p n,hS,H]⟩
 |cons e0 I=>
  have w:(((e0::I).length:Nat):Int)≠0:=by simp only[bI];exact "~2Dg<lpSibf" id
  rw[<-A]at w ⊢;refine bF (vF w) ?_;conv=>whnf
  refine ag (a_ D.c rfl) ?_;conv=>whnf
  refine ag (a_ D.c rfl) ?_;refine ag (a_ D.c rfl) ?_;rw[D.f];have u:iL .a (.o (s'.d+14)) (.r [.j r]) (st z' L')=some (.r (aa (E'++[r])),st z' L'):=by
   have h':(st z' L')[s'.d+14]?=some (.a (aa E')):=B;rw[EU (l:=aa E') (m:=[.j r]) (iU h') rfl (by show(aa E').length+1 < 4194304;rw[cJ];exact gY (Nat.succ_lt_succ G) (by decide)),h_];rfl
  refine ag u ?_;have J:=D.d;refine u0 (n:=N) (F:=bi z'.a) D.a.e ("~dWF6tJT0JaTmLHgeFDx<d" room sz) (hY (by rw[ca];simp only[bI,dK];exact "~C|_Ie;OKo8jr6l|G" G)) (J.has D.a.e) ?_ λdE r' f g' U j=>?_
  .rw[<-J.2]
   have h1:=zB (kn (S:=S'));have h2:=nr (S:=S');have h3:=D.j;exact "~8gN?7gJSld=whAT5k9P341NZ" h1 h2 h3 hb
  .rw[<-J.2]at j
   refine q dE r' _ f k' (D.a.trans g') (D.t.trans (Fm.pre U)) (aC D.l U) D.o ⟨j,eF _,aL nr D.j,λT p n=>D.u T (g'.d.trans p) n⟩
def am.sH(I:am z)(v:Int):am {z with b:=v}:=⟨I.a,I.f,I.d,I.e,I.c,I.b⟩
def Gr.sH(h:Gr g {z with b:=v} z2):Gr g z {z2 with b:=z.b}:=
 ⟨h.e.sH _,h.d,h.f,h.m,h.j,h.k,h.l,rfl⟩
def GS(f:z.b < 40)(S:df z L i s m [] k)
  (U:∀K:V->St->Prop,(∀z' (r:Nat) l L' (k':Nat),Gr g {z with b:=z.b+1} z'->Fm L L' [i,s.a,s.d]->L'[s.a]?=some (.a [.j k'])->k'<=k+sv->bG z' val b r l->K (.j r) (st z' L'))->ar (ai N 49 [.o (i+14)] (st {z with b:=z.b+1} L)) K)
  (q:∀z' (r:Nat) l L' (k':Nat),Gr g z z'->Fm L L' [i,s.a,s.d]->L'[s.a]?=some (.a [.j k'])->k'<=k+sv->bG z' val b r l->Q (.j r) (st z' L')):ar (ai (N+1) 50 [.o (i+14)] (st z L)) Q:=by
 refine az (ρ:=[some (.o (i+14)),none]) rfl ?_;refine ag (a_ S.a rfl) ?_;refine bF (cd ("~4rZx;UNsm_G<_tX" f)) ?_;have h1:mH (.o 10) 2 (.j (z.b+1)) (st z L)=some ((),st {z with b:=z.b+1} L):=rfl;refine aP h1 ?_;refine U _ λz' r l L' k' gr J sp kk R=>?_;have h2:mH (.o 10) 2 (.j (z'.b - 1)) (st z' L')=some ((),st {z' with b:=z'.b - 1} L'):=rfl;refine aP h2 ?_;have Y:z'.b - 1=z.b:=by rw[gr.i];show z.b+1 - 1=z.b;exact "~PqoF369ajP" id
 rw[Y];exact q {z' with b:=z.b} r l L' k' gr.sH J sp kk (R.gr (z':={z' with b:=z.b}) (aA _))
end
section
variable{C:CT}{z:Z}{L:List O}{n t i N h k c a x y d:Nat}{Q:V->St->Prop}{l ls lt E lc la:List Nat}{σ:St}{T:Tb}{m:Mp}{s:Sp}{md:Md}
structure Sq(z:Z)(L L':List O)(s:Sp)(m:Mp)(k c a x y d p:Nat)(lp:List Nat)(j:Nat)(s':Sp)(c1:Nat):Prop where
 h:L <+:L'
 i:L.length<=j
 l:L.length<=s'.d
 e:s'.a=s.a
 g:s'.b=s.b
 n:s'.g=-1
 f:s'.e=aV c1 a x y d
 b:df z L' j s' (jA m c p) [] k
 o:pn z s' (jA m c p) c1 p lp
def Sr(h:L[i]?=some (aI (some (p,v)))):de .b (.j q) (.o (i+14)) (st z L)=some (.w (decide (p=q)),st z L):=by
 refine(uR (σ:=st z L) (r:=cU (q:Int) [((p:Int),V.j v)]) (oT h rfl) (lF h) rfl).trans ?_;rw[xy];by_cases e:p=q
 .rw[ah ("~6Y2BN1QH3tI" e),b5 e];rfl
 .rw[ab ("~1_OuXPZHMO=>" e),cd e];rfl
def Ss(I:am z)(hz:z.a.length < 4194304)(A:md.cL z m)(S:df z L i s m E k)(hr:s.e=aV c a x y d)(J:At z p [p])(o:At z c lc)
  (Y:(∃pid v,(pid=1\/pid=2)/\m=some (pid,v)/\c=26+pid)\/(2<=lc.length))
  (q:∀L' j s' c1,Sq z L L' s m k c a x y d p [p] j s' c1->(c1=c\/c1=p)->Q (.o (j+14)) (st z L')):ar (ai (n+3) 42 [.o (i+14),.j p] (st z L)) Q:=by
 have oG:=S.ne1;have ss:s.c < L.length:=(bW.mp S.b).1;have g:s.a < L.length:=(bW.mp S.c).1;refine az (ρ:=[some (.o (i+14)),some (.j p),none,none,none,none]) rfl ?_;refine ag (a_ S.a rfl) ?_;rw[hr];refine ag (a_ S.a rfl) ?_;conv=>whnf
 rcases Y with⟨pid,v,G,em,H⟩ |hl
 .have u:z.a[c]?=some (eN pid):=by
   rw[H];rcases G with e |e <;>subst e <;>exact I.at rfl
  subst em;refine ag (cp hz u) ?_;refine ag (a_ S.a rfl) ?_;refine ag (Sr (q:=pid) S.b) ?_;refine bT (b5 rfl) ?_;refine ag (a_ S.a rfl) ?_;refine bY ?_;refine u5 (p:=pid) (v:=p) bk ?_;have m1:((L++[O.b]).set L.length (aI (some (pid,p))))[L.length]?=some (aI (some (pid,p))):=aT bk;have p1:L <+:(L++[O.b]).set L.length (aI (some (pid,p))):=bE bp (av _);generalize (L++[O.b]).set L.length (aI (some (pid,p)))=L1 at m1 p1;have w:=S.ext (z':=z) p1;refine Q5 (n:=n+1) w.b m1 ?_;have m2:((L1++[aI (some (pid,v))]).set L1.length (aI (some (pid,p))))[L1.length]?=some (aI (some (pid,p))):=aT bk;have p2:L1 <+:(L1++[aI (some (pid,v))]).set L1.length (aI (some (pid,p))):=bE bp (av _);generalize (L1++[aI (some (pid,v))]).set L1.length (aI (some (pid,p)))=L2 at m2 p2;have S2:=w.ext (z':=z) p2;refine ag (a_ S2.a rfl) ?_;refine ag (a_ S2.a rfl) ?_;refine ag (a_ S2.a rfl) ?_;refine u6 (n:=n+1) λL3 p3 U r zC=>?_;have S3:=S2.ext (z':=z) p3;conv=>whnf
  refine u4 r rfl ?_;have B:jA (some (pid,v)) c p=some (pid,p):=by show(if c=26+pid then some (pid,p)else some (pid,v))=_;rw[ah H]
  have f:=p1.length_le;have i0:=p2.length_le;refine q L3 L2.length ⟨aV c a x y d,L1.length,s.b,s.a,L2.length+1,-1,-1⟩ c ⟨p1.trans (p2.trans p3), "~1vTB0xF7Vv" f i0,by show L.length<=L2.length+1;exact "~1__0t0M2jrtx" f i0,rfl,rfl,rfl,rfl,⟨r,by rw[B];exact aC m2 p3,S3.c,zC,by show s.a≠L2.length+1;exact "~13H4eQcEWd?gP|W6" f i0 g⟩,.inr ⟨rfl,pid,G,B,H,rfl,J⟩⟩ (.inl rfl)
 .have u:=Gl I o hl
  refine ag (cp hz u) ?_;have B:jA m c p=m:=by
   unfold jA
   induction m using aX with
   |none=>rfl|some pv=>
    show(if c=26+pv.1 then some (pv.1,p)else some (pv.1,pv.2))=_;refine ab λe=>?_;obtain⟨_,_,_,G,_⟩:=nl A;rcases G with e1 |e1
    .rw[e,e1,I.at (t:=27) rfl]at u;cases u
    .rw[e,e1,I.at (t:=28) rfl]at u;cases u
  refine ag (a_ S.a rfl) ?_;refine ag (a_ S.a rfl) ?_;refine ag (a_ S.a rfl) ?_;refine ag (a_ S.a rfl) ?_;refine u6 (n:=n+1) λL3 p3 U r zC=>?_;have S3:=S.ext (z':=z) p3;refine eB r (bP rfl) ?_;have GU:=aT (o':=.e 1 (bn 13 (.j p) [(6,.o 10),(17,.p ([V.j 16,V.j ↑p]++iK (aV c a x y d) (some ↑2) none)),(8,.o (s.c+14)),(16,.j s.b),(20,.o (s.a+14)),(5,.o (L.length+1+14)),(13,.j (-1)),(4,.j (-1))])) r;have p4:L <+:L3.set L.length (.e 1 (bn 13 (.j p) [(6,.o 10),(17,.p ([V.j 16,V.j ↑p]++iK (aV c a x y d) (some ↑2) none)),(8,.o (s.c+14)),(16,.j s.b),(20,.o (s.a+14)),(5,.o (L.length+1+14)),(13,.j (-1)),(4,.j (-1))])):=bE p3 (av _);refine u4 GU rfl ?_;refine q _ L.length ⟨aV p a x y d,s.c,s.b,s.a,L.length+1,p,-1⟩ p ⟨p4,av _,tB _,rfl,rfl,rfl,rfl,⟨GU,?_,aC S.c p4,bz zC (show L.length≠L.length+1 from "~7y5QJo18>" id),by show s.a≠L.length+1;exact "~NiHf4zuMs?" g⟩,.inl ⟨rfl,rfl,J⟩⟩ (.inr rfl);rw[B];exact aC S.b p4
def vw(j:h<=3):md.b h<=64:=by
 unfold Md.b;split
 .exact Nat.pow_le_pow_right (n:=4) (by decide) j
 .decide
def Su(Y:1<=N)(hf:f<=N)(u:∀N,f<=N->ft md h N)(dG:∀h',h=h'+1->∀N,f<=N->e9 md h' N)(im:∀h',h=h'+1->∀N,f<=N->kF md h' N)(hh:h<=3)(I:am z)(room:z.sz+4*md.gB h+md.rP h+50<=4190000)(dp:z.b+1+3*h<=34)(B:0<=z.b)(A:md.cL z m)
  (S:df z L j s' m [] k) (hr:s'.e=aV c1 a x y d) (i7:s'.g=-1) (i5:s'.b+h<=90) (U:k+4*(1+sp h)<=2700)
  (o:At z c1 vy) (cM:pn z s' m c1 p [p]) (G:At z a la) (J:md.eG la) (H:Wf md z h x) (v:Wf md z h y) (dD:md.a=false->be [p]=false)
  (w:p≠13) (h2:p≠2) (h0:p≠0)
  (q:∀z' (r:Nat) l L' (k':Nat),Gr (md.gT h 1+2) z z'->Fm L L' [j,s'.a,s'.d]->L'[s'.a]?=some (.a [.j k'])->k'<=k+(1+sp h)->bG z' (λT=>cA T (aK h T) m p a x y d) (md.b h) r l->Q (.j r) (st z' L')):
  ar (ai (N+14) 50 [.o (j+14)] (st z L)) Q:=by
 have sG:=GQ (md:=md) (h:=h) (nb:=1) (by decide);have hb:=vw (md:=md) hh;refine GS (g:=md.gT h 1+2) (b:=md.b h) (sv:=1+sp h) (val:=λT=>cA T (aK h T) m p a x y d) ("~mBEjug==;rqtJCNuQw^" dp) S (λK hK=>?_) q;have gz:z.a <+:({z with b:=z.b+1}:Z).a:=aA _;have S1:df {z with b:=z.b+1} L j s' m [] k:=S.ext (aA _);have Sv:pn {z with b:=z.b+1} s' m c1 p [p]:=by
  rcases cM with⟨a1,a2,a3⟩ |⟨a1,pid,a2,a3,a4,a5,a6⟩
  .exact .inl ⟨a1,a2,a3.gr gz⟩
  .exact .inr ⟨a1,pid,a2,a3,a4,a5,a6.gr gz⟩
 refine GR (N:=N+9) (g:=md.gT h 1+1) (b:=md.b h) (sv:=1+sp h) (val:=λT=>cA T (aK h T) m p a x y d) ("~KMwGzgvEBkf7" hb) (by show z.sz+_+1<=_;exact "~;qzaqEUEOo0MHYkyOeDgs9??jIvex6Y>3nnH=" room sG) S1 (λK' Sw=>?_) λz' r l L' k' g f1 s1 kk R=>hK z' r l L' k' g f1 s1 kk R;refine Sl (N:=N) (f:=f) (h:=h) (la:=la) (lc:=vy) (lc':=[p]) Y hf u dG im ("~GQb?sV57k=3g_3" hh) (I.sH _) (by show z.sz+_+_+40<=_;exact "~4FCLvF_r64SL4OU_j;25pK;mGKTpQBQC" room) dp (by show 0<=z.b+1;exact "~Q1qY>1oHZJ" B) (ij A gz) S1 hr i7 i5 (by simp only[dK];exact "~KeKmk3sVOzFW" hh) U (o.gr gz) Sv (G.gr gz) J (H.gr gz) (v.gr gz) dD w (λe=>h2 e.2) (λe=>by simp at e) λz' r L' k' E' S' s2 D=>?_;rw[show bU p=1 from ab h0]at D;rw[tI,tI]at D;exact Sw z' r L' k' E' S' s2 D
end
section
variable{C:CT}{z:Z}{L:List O}{n t i N h k c a x y d:Nat}{Q:V->St->Prop}{l ls lt E lc la:List Nat}{σ:St}{T:Tb}{m:Mp}{s:Sp}{md:Md}
def Sx(I:am z)(A:md.cL z m)(J:At z p [p])(g:md.a=false->be [p]=false):md.cL z (jA m c p):=by
 induction m using aX with
 |none=>exact A|some pv=>
  obtain⟨pid,v⟩:=pv;show md.cL z (if c=26+pid then some (pid,p)else some (pid,v))
  split
  .obtain⟨l,a,b,e⟩:=A
   refine⟨[p],J,by show 1<=md.kk;unfold Md.kk;split <;>decide,?_⟩;generalize ho:md.a=Y
   induction Y using aS with
   |true=>rw[ho]at e;exact e|false=>rw[ho]at e;exact⟨e.1,g ho⟩
  .exact A
abbrev Sy:List CS:=[.k (.w .a (.d 2) [.j 50 [.j 42 [.d 0,.d 3]]])]
def Sz(hN:1<=N)(hf:f<=N)(u:∀N,f<=N->ft md h N)(dG:∀h',h=h'+1->∀N,f<=N->e9 md h' N)(im:∀h',h=h'+1->∀N,f<=N->kF md h' N)(hh:h<=3)(hr:s.e=aV c a x y d)(i5:s.b+h<=90)(oa:md.eG la)(Y:(∃pid v,(pid=1\/pid=2)/\m=some (pid,v)/\c=26+pid)\/(2<=lc.length)):∀{z:Z} {L:List O} {k:Nat} {out:List Nat} {o:Option V} {K:cZ->ba->St->Prop},am z->df z L i s m E k->L[j]?=some (.a (aa out))->(j≠i/\j≠s.a/\j≠s.d/\j≠s.c)->out.length+ps.length < 1000->
  (∀p∈ps,At z p [p]/\p≠13/\p≠2/\p≠0/\(md.a=false->be [p]=false))->At z c lc->At z a la->Wf md z h x->Wf md z h y->md.cL z m->z.sz+ps.length*(md.gT h 1+2)+4*md.gB h+md.rP h+50<=4190000->z.b+1+3*h<=34->0<=z.b->k+ps.length*(1+sp h)+4*(1+sp h)<=2700->
  (∀z' L' (k':Nat) rs o,Gr (ps.length*(md.gT h 1+2)) z z'->Fm L L' [s.a,j]->L'[j]?=some (.a (aa (out++rs)))->L'[s.a]?=some (.a [.j k'])->k'<=k+ps.length*(1+sp h)->f9 (λp r=>∃l,bG z' (λT=>cA T (aK h T) (jA m c p) p a x y d) (md.b h) r l) ps rs->K .a [some (.o (i+14)),ck,some (.o (j+14)),o] (st z' L'))->
  gn (λx ρ k σ=>bQ (fQ (.a 3) x ρ σ) λρ σ=>aM (ai (N+15)) Sy ρ k σ) none (aa ps) [some (.o (i+14)),ck,some (.o (j+14)),o] K (st z L):=by
 induction ps with
 |nil=>
  intro z L k out o K I S G w hl kH hc ha H hy A room dp B U q;refine(q z L k [] o ?_ ⟨av _,λj o Q e=>e⟩ (by rw[b_];exact G) S.c ?_ trivial:_)
  .rw[dK,Ca];exact Gr.refl I
  .rw[dK,Ca];exact av _
 |cons p ps ih=>
  intro z L k out o K I S G w hl kH hc ha H hy A room dp B U q;obtain⟨J,io,h2,h0,g⟩:=kH p br;simp only[bI]at room U hl q;rw[kX]at room U q;rw[kX]at q;have hz:z.a.length < 4194304:=Z.bZ (c:=0) ("~1fTTIb=7aj>1Dthg_YWD1ce0B4>" room);have iZ:j < L.length:=(bW.mp G).1;have rR:s.a < L.length:=(bW.mp S.c).1;have zD:i < L.length:=(bW.mp S.a).1;have u3:gH .a (.o (j+14)) (st z L)=some ((),st z L):=ed .a G (.inl rfl);show bQ (gH .a (.o (j+14)) (st z L)) _;refine ag u3 ?_;refine Ss (n:=N+12) I hz A S hr J hc Y λL1 j1 s1 c1 PS po=>?_;have SA:=Sx (c:=c) I A J g;have zE:∃vy,At z c1 vy:=by
   rcases po with e |e
   .subst e;exact⟨_,hc⟩
   .subst e;exact⟨_,J⟩
  obtain⟨vy,zE⟩:=zE;refine Su (N:=N+1) (f:=f) (p:=p) (la:=la) ("~bM|cRvXx" id) ("~8RCWsKrG0" hf) u dG im hh I ("~fypY0m2|z2O6UOt2mIJ9j?uwM4zm3N2lBHGQ" room) dp B SA PS.b PS.f PS.n (by rw[PS.g];exact i5) ("~7VB_eVQbsvTx3Kk?Ynn7xLcsWG" U) zE PS.o ha oa H hy g io h2 h0 λz2 r l L2 k2 g2 f2 vz vA R2=>?_;have gD:=g2.f;rw[PS.e]at f2 vz;have fm:Fm L L2 [s.a]:=Fm.new PS.h f2 λx H sI=>by
   simp only[bH,dW,kW]at H ⊢;rcases H with e |e |e
   .have v1:=PS.i;lia
   .exact e
   .have v2:=PS.l;lia
  have GW:L2[j]?=some (.a (aa out)):=fm.2 j _ (by simp;exact w.2.1) G;refine ec GW (by rw[cJ];exact "~1J9OdKUgrmy;KF" hl) ?_;rw[show aa out++[V.j (r:Int)]=aa (out++[r])by rw[h_];rfl];have GX:=S.ne1;have S2:df z2 (L2.set j (.a (aa (out++[r])))) i s m E k2:=
   ⟨bz (fm.2 i _ (by simp;exact GX.1) S.a) w.1,bz (fm.2 _ _ (by simp;exact GX.2.2.2.1) S.b) w.2.2.2,bz vz w.2.1,bz (fm.2 _ _ (by simp;exact Ne.symm S.f) S.d) w.2.2.1,S.f⟩
  have GY:Fm L (L2.set j (.a (aa (out++[r])))) [s.a,j]:=(fm.mono (by simp)).trans (Fm.set (by simp));have sf:=aT (o':=.a (aa (out++[r]))) GW;generalize L2.set j (.a (aa (out++[r])))=L3 at S2 GY sf;refine ih g2.e S2 sf w (by simp only[ca,bI,dK];exact "~2t63r4ywrSsrXr4w9Si7Z" hl) (λp' pq=>?_) (hc.gr g2.d) (ha.gr g2.d) (H.gr g2.d) (hy.gr g2.d) (ij A g2.d) ("~1QLCuReYSx_SHNeEaedhctV58kw;v7Wq^dN;9Cy=HI7B" room gD) (by rw[g2.i];exact dp) (by rw[g2.i];exact B) ("~AWcps4XdD0cm7U|Mv3q|kDx;VFB<;Ts0V" U vA) λz' L' k' rs o' g' f' j' SD SF aR=>?_
  .obtain⟨a1,a2,a3,a4,a5⟩:=kH p' (b6 _ pq);exact⟨a1.gr g2.d,a2,a3,a4,a5⟩
  .refine q z' L' k' (r::rs) o' ((g2.trans g').mono ("~PIApAS^<nXZ2" id)) (GY.trans f') ?_ SD ("~3NRyr1mYruYCdL3L_|9" vA SF) ⟨⟨l,R2.gr g'.d⟩,aR⟩
   rw[c7]at j';exact j'
def SG:(∀x∈l,ct (f x)<=b)->ct (l.flatMap f)<=l.length*b:=by
 induction l with
 |nil=>
  intro _;exact bb _
 |cons a l ih=>
  intro h;rw[dM,nq,bI,kX];have h1:=h a br;have h2:=ih λx H=>h x (b6 _ H);exact "~KUoXt;Jw5gZN" h2 h1
theorem zF{V1:Nat->List Nat}{md:Md}{W:Nat->Tb->List Nat}(I:am z)(p:z.a <+:T)(u:T.Nodup):∀{ps rs:List Nat},f9 (λq r=>∃l,bG z (W q) b r l) ps rs->ae (ps.flatMap λq=>W q T)=ae (rs.flatMap (bi z.a))
 |[],[],_=>rfl|q::ps,r::rs,a=>by
  obtain⟨l,R⟩:=a.1;rw[dM,dM,<-gy,R.c T p u,<-eE,zF (V1:=V1) (md:=md) I p u a.2,eE,R.a.bR I (aA _)]
 |[],_::_,a=>a.elim|_::_,[],a=>a.elim
def SH{f:Nat}(hN:1<=N)(hf:f<=N)(u:∀N,f<=N->ft md h N)(dG:∀h',h=h'+1->∀N,f<=N->e9 md h' N)(im:∀h',h=h'+1->∀N,f<=N->kF md h' N)(hh:h<=2)(I:am z)(S:df z L i s m E k)(hE:E.length<=99)(hr:s.e=aV c a x y d)(i5:s.b+h<=90)(oa:md.eG la)
  (Y:(∃pid v,(pid=1\/pid=2)/\m=some (pid,v)/\c=26+pid)\/(2<=lc.length)) (o:At z c lc) (cM:At z c' lc') (h2:2<=lc'.length) (jB:lc'.length<=md.kk) (dD:md.a=false->be lc'=false) (G:At z a la) (H:Wf md z h x) (hy:Wf md z h y) (om:md.cL z m)
  (room:z.sz+md.kk*(md.gT h 1+2)+4*md.gB h+md.rP h+52<=4190000) (dp:z.b+1+3*h<=34) (kE:0<=z.b) (hk:k+sp (h+1)+4*(1+sp h)<=2700)
  (q:∀z' r L' k' E' S' s',TD z L i s E k (md.kk*(md.gT h 1+2)+1) (md.b (h+1)) (sp (h+1)) (λT=>lc'.flatMap λp=>cA T (aK h T) (jA m c p) p a x y d) z' r L' k' E' S' s'->Q .z (st z' L')):
  ar (ai (N+16) 43 [.o (i+14),.j c'] (st z L)) Q:=by
 have hz:z.a.length < 4194304:=Z.bZ (c:=0) ("~XPH5uMVIj1cYf=6oY9Wck7q" room);have w:=S.ne1;have zG:md.kk<=4:=by unfold Md.kk;split <;>decide
 have U:lc'.length*(md.gT h 1+2)<=md.kk*(md.gT h 1+2):=fM _ jB;have i2:lc'.length*(1+sp h)<=sp (h+1):=fM (1+sp h) (aL jB zG);have zH:md.kk*md.b h<=md.b (h+1):=by
  unfold Md.kk Md.b;split
  .rw[xh,Cb];exact av _
  .exact av _
 have SJ:=vw (md:=md) (h:=h+1) ("~P_<RtjkSD1" hh);refine az (ρ:=[some (.o (i+14)),some (.j c'),none,none]) rfl ?_;refine bY ?_;have B:(L++[O.a []])[L.length]?=some (.a (aa [])):=bk;have p1:L <+:L++[O.a []]:=bp;generalize L++[O.a []]=L1 at B p1;have S1:=S.ext (z':=z) p1;refine ag (a_ S1.a rfl) ?_;refine rN (n:=N+14) I hz cM.c ?_;refine ag ((ng (z:=z) (L:=L1) (kt cM.c.f cM.c.d hz)).a _ (aA _)) ?_;have zD:i < L.length:=(bW.mp S.a).1;have rR:s.a < L.length:=(bW.mp S.c).1;have sI:s.d < L.length:=(bW.mp S.d).1;have ss:s.c < L.length:=(bW.mp S.b).1;have nt:ce lc':=by
  rcases r_ cM.f with n |⟨τ,_,e⟩
  .exact n
  .rw[e]at h2;simp at h2
 refine Sz (f:=f) (ps:=lc') (out:=[]) (j:=L.length) (lc:=lc) (la:=la) hN hf u dG im ("~V_QYNuEY" hh) hr i5 oa Y I S1 B ⟨"~2GzJy?1k" zD, "~2GzJy?1k" rR, "~2GzJy?1k" sI, "~2GzJy?1k" ss⟩ (by rw[dK];exact "~4szw3oTQKWIk;wa" zG jB) (λp J=>?_) o G H hy om ("~;rv3|<mAup9fh3pQFt<1W^Shx^aV_TOw?Fgk>" room U) dp kE ("~1eKJE=BD;eCmoP0wPa_DNJdd9fP" hk i2) λz2 L2 k2 rs o2 g2 f2 j2 vz vA aR=>?_
 .have GZ:=cM.d p J
  refine⟨⟨eH I GZ,cX,λx H=>by rw[aB]at H;subst H;exact GZ⟩,λe=>nt.2.1 (e▸J),λe=>(cM.c.d p J).1 e,λe=>nt.1 (e▸J),λe=>?_⟩;have:=dD e;unfold be at this ⊢;rw[qu]at this ⊢;refine⟨eo.mpr λe=>?_,eo.mpr λe=>?_⟩
  .rw[bj,aB]at e;rw[e,bj.mpr J]at this;cases this.1
  .rw[bj,aB]at e;rw[e,bj.mpr J]at this;cases this.2
 .rw[di]at j2
  have gD:=g2.f;have cO:L2[i]?=some (bM s):=f2.2 i _ (by simp;exact⟨w.1, "~TJx2T=<R" zD⟩) S1.a;have ex2:L2[s.d]?=some (.a (aa E)):=f2.2 _ _ (by simp;exact⟨Ne.symm S.f, "~TJx2T=<R" sI⟩) S1.d;have vm:=o8 aR;have A:∀r∈rs,∃l,aO z2 r l/\ae l=l/\ct l<=md.b h:=λr hr=>by
   obtain⟨p,_,l,R⟩:=rX aR r hr;exact⟨l,R.a,R.e,R.d⟩
  have G1:ct (rs.flatMap (bi z2.a))<=md.b (h+1):=by
   refine aL (SG (b:=md.b h) λr hr=>?_) ?_
   .obtain⟨l,a1,_,a3⟩:=A r hr
    rw[a1.bR g2.e (aA _)];exact a3
   .rw[vm];exact aL (fM _ jB) zH
  refine ag (a_ cO rfl) ?_;refine u0 (n:=N+12) (F:=bi z2.a) g2.e ("~55NZCazy=L1M4E?HIjuba8PrGMLGCc" room U gD) (QP j2 (by rw[vm];exact "~6zzXgV;L>^w" zG jB)) (λr hr=>?_) ?_ λz3 r L3 g3 p3 hh=>?_
  .obtain⟨l,a1,_⟩:=A r hr
   rw[a1.bR g2.e (aA _)];exact a1
  .have h1:=zB (kn (S:=rs.flatMap (bi z2.a)))
   have h2:=nr (S:=rs.flatMap (bi z2.a));exact "~8gN<dgIv^E1TBVr3NrcEx8QT" h1 h2 G1 SJ
  ·
   refine eB (aC cO p3) (bP rfl) ?_;have fm:Fm L (L3.set i (bM {s with g:=r})) [i,s.a,s.d]:=
    (Fm.new (L1:=L1) (ex:=[s.a,L.length,i]) p1 (((f2.mono (by simp)).trans (Fm.pre p3)).trans (Fm.set (by simp))) λx H sI=>by
     simp only[bH,dW,kW]at H ⊢;rcases H with e |e |e
     .exact .inr (.inl e)
     .lia
     .exact .inl e)
   have SK:lc'.length*(md.gT h 1+2)+1<=md.kk*(md.gT h 1+2)+1:= "~7558MS^i8rR" U;refine q z3 r _ k2 [] (ae (rs.flatMap (bi z2.a))) {s with g:=r} ⟨(g2.trans g3).mono SK,fm,aT (aC cO p3),rfl,rfl,?_,bz (aC vz p3) w.1, "~KTacQAgaNU5q" i2 vA,by rw[b_];exact hE,⟨λe he=>?_,?_⟩,aL nr G1,λT p n=>?_⟩
   .rw[b_];exact bz (aC ex2 p3) w.2.1
   .rw[di,aB]at he;subst he;exact⟨_,hh,eF _⟩
   .rw[di,dM,jh,b_,hh.bR g3.e (aA _)]
   .rw[eF]
    exact zF (V1:=λC=>[]) (md:=md) (W:=λp T=>cA T (aK h T) (jA m c p) p a x y d) g2.e (g3.d.trans p) n aR
end
section
variable{C:CT}{z:Z}{L:List O}{n t i N h k c a x y d:Nat}{Q:V->St->Prop}{l ls lt E lc la:List Nat}{σ:St}{T:Tb}{m:Mp}{s:Sp}{md:Md}
def pr(h:26+pid∉l):c6 (some (pid,v)) lv l=l:=sh λx H=>ab λe=>h (by rw[<-e];exact H)
def vC:c6 (some (pid,v)) lv [26+pid]=lv:=by
 show(if 26+pid=26+pid then lv else[26+pid])++[]=lv;rw[ah rfl,b_]
def sJ(I:am z)(h:At z c [p]):c=p:=by
 rcases h.c.c with⟨e,_⟩ |e |⟨e,_⟩
 .cases e
 .exact(jR e).1.symm
 .simp at e
def G2(h:l.length<=1):l=[]\/∃p,l=[p]:=by
 induction l using bo with
 |nil=>exact .inl rfl|cons p l=>
  induction l using bo with
  |nil=>exact .inr ⟨p,rfl⟩|cons _ l=>exact(J9 _ (BP h)).elim
def SN(I:am z)(J:z.a <+:u.a)(A:md.cL z m)(o:At z c lc)(U:md.gA lc d)(ch:Gp u m c lc c' lc'):
  (md.a=false->be lc'=false)/\(d=1->lc'.length<=md.kk)/\(d=1->2<=lc'.length->(∃pid v,(pid=1\/pid=2)/\m=some (pid,v)/\c=26+pid)\/(2<=lc.length)):=by
 induction m using aX with
 |none=>
  have j:md.a=true:=A;have e:=(ch.d rfl).2;subst e;refine⟨λe=>(by rw[j]at e;cases e),λY=>?_,λQ h=>.inr h⟩;unfold Md.gA at U;rw[j]at U;unfold Md.kk;rw[j];exact(U Y).1
 |some pv=>
  obtain⟨pid,v⟩:=pv;obtain⟨lv,B,hl,G,ho,g⟩:=nl A;have e:=ch.e (pid,v) lv rfl (B.gr J);generalize j:md.a=x_
  induction x_ using aS with
  |true=>
   have H:pid=1:=ho j;unfold Md.gA at U;rw[j]at U;by_cases r:27∈lc
   .refine⟨λe=>(nomatch e),λY=>?_,λY h2=>?_⟩
    .have:=(U Y).2 r
     rw[e,this,show[27]=[26+pid]by rw[H],vC,B.f];exact hl
    .have:=(U Y).2 r
     rw[this]at o;exact .inl ⟨pid,v,G,rfl,by rw[sJ I o,H]⟩
   .have e2:lc'=lc:=by rw[e,pr (by rw[H];exact r),o.f]
    rw[e2];refine⟨λe=>(nomatch e),λY=>?_,λY h2=>.inr h2⟩;unfold Md.kk;rw[j];exact(U Y).1
  |false=>
   obtain⟨w,SO⟩:=g j;unfold Md.gA at U;rw[j]at U;refine⟨λQ=>?_,λY=>?_,λY h2=>?_⟩
   .rw[e];exact GF (GD w U.1 SO)
   .have ku:=U.2 Y
    rcases G2 ku with e0 |⟨p,e0⟩ <;>rw[e0]at e
    .rw[e];exact bb _
    .by_cases f:p=26+pid
     .rw[e,f,vC,B.f];exact hl
     .rw[e,pr (λq=>f (aB.mp q).symm),cX]
      show 1<=md.kk;unfold Md.kk;rw[j];decide
   .have ku:=U.2 Y
    rcases G2 ku with e0 |⟨p,e0⟩ <;>rw[e0]at e
    .rw[e]at h2;exact absurd h2 (show¬ 2<=(ae ([]:List Nat)).length by decide)
    .by_cases f:p=26+pid
     .rw[e0]at o;exact .inl ⟨pid,v,G,rfl,by rw[sJ I o];exact f⟩
     .rw[e,pr (λq=>f (aB.mp q).symm),cX]at h2
      exact absurd h2 (Nat.not_succ_le_self 1)
def G3(SP:1<=f)(hP:∀N,f<=N->ft md h N)(dG:∀h',h=h'+1->∀N,f<=N->e9 md h' N)(im:∀h',h=h'+1->∀N,f<=N->kF md h' N)(hh:h<=2):∀N,f+17<=N->kF md h N:=by
 intro N0 kI fl z L i s m E k c a x y d lc la K zI I S hr G4 i7 o G oc J H hd om j hE U room dp B q;obtain⟨N,rfl⟩:∃N,N0=N+17:=⟨N0 - 17, "~4Av7mcq>NY7V1F6Bl_RTddybz3z82h9K" ao kI⟩;have Y:f<=N:= "~4rS5t;PmFjQYS58" kI;obtain⟨fl,rfl⟩:=eW (k:=1) (N:=fl) ("~1xGuc^qDi?" zI);obtain⟨fl,rfl⟩:=eW (k:=1) (N:=fl) ("~1_R5ngqWpH0y" zI);have sB:=GO (md:=md) h;have lH:md.kk*(md.gT h 1+2)+3<=md.gC (md.gB h):=by
  rw[sB];unfold Md.kk Md.gT
  induction md.a using aS with
  |true=>show 4*(4*md.gB h+30+2)+3<=16*md.gB h+200;exact "~dDRpBY1pEdWZP2BYJ6dz0fA" id|false=>show 2*(1*md.gB h+30+2)+3<=2*md.gB h+70;exact "~m;2O2o?sCIL|<^mxW;c9r" id
 have SU:md.kk*(md.gT h 1+2)<=16*md.gB h+128:=by
  unfold Md.kk Md.gT
  induction md.a using aS with
  |true=>show 4*(4*md.gB h+30+2)<=16*md.gB h+128;exact "~m;>|9_fqwDMbDamBZUho^" id|false=>show 2*(1*md.gB h+30+2)<=16*md.gB h+128;exact "~m;>|9_fqwDMbDakSw4ao9" id
 have sK:md.rF h=24*md.gB h+1000:=rfl;have zJ:md.rP h+300<=4*md.gB h+1000:=by
  induction h using dN with
  |zero=>show 10+300<=4*1+1000;decide|succ h'=>
   show 24*md.gB h'+1000+300<=4*(md.NI (h'+1)*md.gC (md.gB h')+1)+1000;unfold Md.NI Md.gC
   induction md.a using aS with
   |true=>show 24*md.gB h'+1000+300<=4*(1*(16*md.gB h'+200)+1)+1000;exact "~1;t>ElyyLSj?0n_DwlZ0RidmqncMp870G" id|false=>
    show 24*md.gB h'+1000+300<=4*(4 ^ (h'+1)*(2*md.gB h'+70)+1)+1000;have h4:4<=4 ^ (h'+1):=by rw[xh];have v1:=tH h' 4 (by decide);exact "~2DB8Hz<q49" v1
    have v2:=fM (2*md.gB h'+70) h4;exact "~4o<^r?4_Zqq5x^GIroBt?rXdHn8RzcXX" v2
 have vD:sp (h+1)=4*(1+sp h):=rfl;refine GN S.a i7 λQ hQ=>?_;refine az (ρ:=[some (.o (i+14)),none,none,none]) rfl ?_;refine ag (a_ S.a rfl) ?_;refine ag (a_ S.a rfl) ?_;refine Gq (n:=N+7) I ("~n09;Z22TkzQv4rTy214" room) S.a hr G4 S.b om o λu c' L1 lc' A p1 ch=>?_;have s1:=A.f;have S1:=S.ext (z':=u) p1;have po:=o.gr A.d;have so:=G.gr A.d;obtain⟨k1,k2,k3⟩:=SN I A.d om o oc ch;have pj:∀T,u.a <+:T->bi T c'=lc':=λT p=>ch.b.c.bR A.e p;have done:∀z' r L' k' E' S' s',TD u L1 i s E k (md.gC (md.gB h) - 2) (md.b (h+1)) (sp (h+1)) (λT=>cK T (aK h T) m c a x y d) z' r L' k' E' S' s'->lX (N+17) (fl+1) i K (st z' L'):=λz' r L' k' E' S' s' D=>by
  have D2:=D.grown A p1;exact GL D2.c D2.f (q z' r L' k' E' S' s' (D2.mono ("~cSbQc8>1ICQA_PGUyqn2a5iWjHhQi0rY?8zi" ao ao lH) (av _) (av _) λT p n=>rfl))
 by_cases w:c'=13
 .subst w
  show aM (ai (N+16)) vu _ _ (st u L1);rw[hr];refine eB S1.a (bP rfl) ?_;have nk:At u 13 [13]:=⟨fq (nd A.e (by decide)),cX,by decide⟩;exact hQ _ (done u 13 _ k [] [13] {s with g:=13} (TD.zy S1 ("~1HwV^nNJ24n4ZL" hE) ((Gr.refl A.e).mono (bb _)) (aA _) nk λT p n=>by unfold cK;rw[ch.a T p n,ah rfl];rfl))
 by_cases jE:d=1/\c'=2
 .obtain⟨lY,h2⟩:=jE
  subst lY;subst h2;show aM (ai (N+16)) vu _ _ (st u L1);rw[hr];refine eB S1.a (bP rfl) ?_;have a2:At u 2 []:=⟨hX,rfl,λx hx=>nomatch hx⟩;exact hQ _ (done u 2 _ k [] [] {s with g:=2} (TD.zy S1 ("~1HwV^nNJ24n4ZL" hE) ((Gr.refl A.e).mono (bb _)) (aA _) a2 λT p n=>by unfold cK;rw[ch.a T p n,ab w,ah ⟨rfl,rfl⟩];rfl))
 by_cases gM:d=1/\2<=lc'.length
 .obtain⟨lY,h2⟩:=gM
  subst lY;obtain⟨hx,v⟩:=H.resolve_left λq=>by
   have e:=(ch.d q.1).2;have v3:=q.2.1 rfl;rw[e]at h2;lia
  have SV:=Gl A.e ch.b h2;have SW:u.a.length < 4194304:=Z.bZ (c:=0) ("~=PgQXxtz4jBI7YzMg2HY" room s1);have GK:c'≠2:=λe=>jE ⟨rfl,e⟩;show aM (ai (N+16)) vu _ _ (st u L1);rw[hr];refine bF (vF ("~1I;8B4iIgVS>z3" w)) ?_;refine bF (vF ("~=PTImdM<v;e>2^Q2w7H1" jE)) ?_;refine uS (n:=N+15) SW SV ?_;refine SH (N:=N) (f:=f) (h:=h) (la:=la) ("~3NB^HPnuyINQZ8Ebg14" kI SP) Y hP dG im hh A.e S1 ("~1HwV^nNJ24n4ZL" hE) hr j J (k3 rfl h2) po ch.b h2 (k2 rfl) k1 so (hx.gr A.d) (v.gr A.d) (ij om A.d) ("~BpWJ4<jbxQy1n1ZFiXc_jPo>Bn>xPLanFRQkcma39oeL3>v;U92Y^FK10jESwvV" sK zJ room SU s1) (by rw[A.i];exact "~2Knr4zdNCuzV2<Zjq5OTmSE" dp) (by rw[A.i];exact B) ("~LSL6l0vAbdNS<KXhCxU1fQFhfY^" vD U) λz' r L' k' E' S' s' D=>?_;refine hQ _ (done z' r L' k' E' S' s' (D.mono ("~mODkaR6a7cLdaswKlD<" ao lH) (av _) (av _) λT p n=>?_));unfold cK;rw[ch.a T (D.a.d.trans p) n,ab w,ab (λe=>GK e.2),pj T (D.a.d.trans p),ah ⟨rfl,h2⟩]
 .have lZ:∀T,u.a <+:T->T.Nodup->cK T (aK h T) m c a x y d=cA T (aK h T) m c' a x y d:=λT p n=>by
   unfold cK;rw[ch.a T p n,ab w,ab jE,pj T p,ab gM]
  have vt:bU c'<=2:=pg;have zH:(bU c')*(if md.a then 4 ^ h else 0)<=md.b (h+1):=by
   unfold Md.b
   induction md.a using aS with
   |true=>
    show _*4 ^ h<=4 ^ (h+1);rw[xh,Cb];exact Nat.mul_le_mul_left _ ("~V_QZ7o?5" vt)
   |false=>show _*0<=0;exact av _
  have nn:(bU c')*(1+sp h)<=sp (h+1):=fM (1+sp h) ("~V_QZ7o?5" vt);have sG:md.gT h (bU c')+2<=md.gC (md.gB h):=by
   rw[sB];unfold Md.gT;have v4:=fM (md.gB h) vt
   induction md.a using aS with
   |true=>show 4*md.gB h+30+2<=16*md.gB h+200;exact "~?oPhvozEuLVyRIrSwFnn" id|false=>show _*md.gB h+30+2<=2*md.gB h+70;exact "~nB0G18<_=K5N7Ez8_1Z" v4
  refine GJ (N:=N+5) (s:=s) (h:=h) (lc':=lc') (la:=la) (f:=f) rfl ("~bPH=yAZ^" id) ("~43l^tg6sp7FaUbeUw" kI) hP dG A.e ("~<DtjLsur2kQ9HTHNBs1Jjjtwu6_ifpyh7tRSqyapotE|I24adhxz" sK zJ room s1) (by rw[A.i];exact "~2qIy60f9e|Xx=r7djZN0C" dp) (by rw[A.i];exact B) (ij om A.d) S1 hr j ("~1HwV^nNJ24n<DT" hE) ("~7Bmh|6DLgZGR2YCgRnd8eIMZzK" vD U) (.inl ⟨G4,ch.a⟩) po ch.b so J (H.imp (λq=>⟨q.1,by rw[(ch.d q.1).2];exact q.2.2⟩) λq=>⟨q.1.gr A.d,q.2.gr A.d⟩) k1 w jE gM (λz' r L' k' E' S' s' D ρ=>?_) (λz' L' k' E' S' h' c2 a2 x2 y2 d2 ef eg D ρ=>?_)
  .exact hQ _ (done z' r L' k' E' S' s' (D.mono ("~x6||yLTY<iImKxuK>" ao sG) zH nn λT p n=>by rw[lZ T (D.a.d.trans p) n]))
  .have D2:=D.grown A p1
   refine hQ _ ?_;have hb:((bU c') - 1)*(if md.a then 4 ^ h else 0)+md.b h<=md.b (h+1):=by
    unfold Md.b
    induction md.a using aS with
    |true=>
     show _*4 ^ h+4 ^ h<=4 ^ (h+1);rw[xh,vr,Cb];exact Nat.mul_le_mul_left _ (aL pg (by decide))
    |false=>exact av 0
   have hs:(bU c' - 1)*(1+sp h)<=1+sp h:=GA;have hg:(bU c' - 1)*md.gB h<=md.gB h:=GA;have S4:1+(((bU c') - 1)*md.gB h+21)+md.gB h<=md.gC (md.gB h) - 1:=by
    rw[sB]
    induction md.a using aS with
    |true=>show _<=16*md.gB h+200 - 1;exact "~55L1<48Gtc9SAjGp1yjzbxaajLt_hS" ao hg|false=>show _<=2*md.gB h+70 - 1;exact "~658vQuOAUn6G61Dj^I;Hi>rC6Wyz" ao hg
   have D3:TN md z L i s m E k h 1 (1+(((bU c') - 1)*md.gB h+21)) (((bU c') - 1)*(if md.a then 4 ^ h else 0)) (((bU c') - 1)*(1+sp h)+1) (λT=>cK T (aK h T) m c a x y d) z' L' k' E' S' h' c2 a2 x2 y2 d2 ef eg:=
    D2.mono (av _) (av _) (av _) (av _) λT p n=>by rw[lZ T (D.f.d.trans p) n]
   exact GP (N:=N+17) (λe=>im h' e _ ("~3M?ff3ZOw_Nf7pFjHZD" kI)) i7 om ("~44op>w_HPQMZTrBp4" zI) D3 j ("~444pCBgiNg|E3SZng" hE) ("~4A|C3wEegDM67vI5b>KbPRCwR;A^EMpa" vD U hs) ("~35hglWxNh;m>A5G<7mBE<w9gexsDs2<SSt>0r0YP3XKWsEzGzDW" sK zJ room hg) ("~2qIy60f9e|Xx>pRdPDw>E" dp) B S4 hb ("~3MARxGFITg?Styf=eqQ" vD hs) q
end
section
variable{C:CT}{z:Z}{L:List O}{n t i N h k c a x y d:Nat}{Q:V->St->Prop}{l ls lt E lc la:List Nat}{σ:St}{T:Tb}{m:Mp}{s:Sp}{md:Md}
def S8:70<=md.gC (md.gB h):=by unfold Md.gC;split <;>lia
def G5(j:h<=2)(im:∀N,f1<=N->kF md h N):∀N,f1+5<=N->e9 md h N:=by
 intro o f z L i s m k c a x y d lc la Q I S hr u i7 hc G oc J H Y A i5 U room dp B q;obtain⟨N,rfl⟩:∃N,o=N+5:=⟨o - 5, "~7B_Aja7VKSuykkNVUHe;DC4yKl" ao f⟩;have gz:z.a <+:({z with b:=z.b+1}:Z).a:=aA _;have hb:=vw (md:=md) (h:=h+1) ("~P_<RtjkSD1" j);have v:=S8 (md:=md) (h:=h);have sK:md.rF h=24*md.gB h+1000:=rfl;have p:=GO (md:=md) h;have S9:md.gC (md.gB h)<=16*md.gB h+200:=by unfold Md.gC;split <;>lia
 refine GS (g:=md.gC (md.gB h)) (b:=md.b (h+1)) (sv:=sp (h+1)) (val:=λT=>cK T (aK h T) m c a x y d) ("~mBIXgcsZr2brVpBMd^n" dp) S (λK hK=>?_) q;refine GR (N:=N) (g:=md.gC (md.gB h) - 1) (b:=md.b (h+1)) (sv:=sp (h+1)) (val:=λT=>cK T (aK h T) m c a x y d) ("~KMwGzgvEBkf7" hb) (by show z.sz+_+1<=_;exact "~eNLtD_Chv6QwG3HNwbJI8Q3^YgrrsTOdS>vg=Z9AVdzX==Kz2cO" ao sK room S9) (S.ext (aA _)) (λK' w=>?_) λz' r l L' k' g f2 s2 kk R=>hK z' r l L' k' (g.mono ("~j285_4G|fp|fR9lTM1B" ao v)) f2 s2 kk R;exact im (N+3) ("~5v_EgMklnf0sT" f) 1000000 {z with b:=z.b+1} L i s m [] k c a x y d lc la K' ("~GL<6LA5l0y^8Jp" j) (I.sH _) (S.ext (aA _)) hr u i7 (hc.gr gz) (G.gr gz) oc J (H.gr gz) Y (ij A gz) i5 (by simp only[dK];exact "~KYqdpKgmr|XW" j) U room (by show z.b+1+3*_<=36;exact "~1|_Mw<3LMA?n?sN0lleNNNir7" dp) (by show 0<=z.b+1;exact "~Q1qY>1oHZJ" B) w
def vE(dG:e9 md h (N+1))(hh:h<=2)(I:am z)(hc:At z c lc)(G:At z a la)(oc:md.gA lc d)(J:md.eG la)(H:lU md z h m d lc la x y)(Y:d<=1)(A:md.cL z m)(hm:L[mi]?=some (aI m))
  (room:z.sz+md.rF h<=4190000) (dp:z.b+3*(h+1)<=35) (B:0<=z.b)
  (q:∀z' (r:Nat) l L',Gr (md.gC (md.gB h)) z z'->L <+:L'->bG z' (λT=>cK T (aK h T) m c a x y d) (md.b (h+1)) r l->Q (.j r) (st z' L')):
  ar (ai (N+2) 52 [.o 10,.p (aV c a x y d),.o (mi+14)] (st z L)) Q:=by
 refine az (ρ:=[some (.o 10),some (.p (aV c a x y d)),some (.o (mi+14))]) rfl ?_;refine y0 (n:=N) hm ?_;have m1:(L++[aI m])[L.length]?=some (aI m):=bk;have p1:L <+:L++[aI m]:=bp;generalize L++[aI m]=L1 at m1 p1;refine bY ?_;have w:(L1++[O.a [.j 0]])[L1.length]?=some (.a [.j (0:Nat)]):=bk;have p2:L1 <+:L1++[O.a [.j 0]]:=bp;have f:=(bW.mp m1).1;generalize L1++[O.a [.j 0]]=L2 at w p2;refine u6 (n:=N) (rd:=0) λL3 p3 U S_ p=>?_;have i0:=(bW.mp w).1;have u:sp (h+1)<=84:=RJ ("~P_<RtjkSD1" hh);refine dG z L3 L2.length ⟨aV c a x y d,L.length,0,L1.length,L2.length+1,-1,-1⟩ m 0 c a x y d lc la _ I ⟨S_,aC m1 (p2.trans p3),aC w p3,p,by show L1.length≠L2.length+1;exact "~NiHf4zuMs?" i0⟩ rfl rfl rfl hc G oc J H Y A (by show 0+h<=90;exact "~KYqdpKgmrtsO" hh) ("~1=B?cn||2lqEvR7v" u) room dp B λz' r l L' k' g f2 s2 kk R=>?_;refine q z' r l L' g ?_ R;have v:Fm L L' []:=Fm.new (p1.trans (p2.trans p3)) f2 λx hx sI=>by
  simp only[bH,dW,kW]at hx ⊢;have:=p1.length_le;rcases hx with e |e |e <;>lia
 exact rT (j:=L.length) (λi o hi ho=>v.2 i o (by simp) ho) v.1 (av _)
abbrev gb(h:Nat)(T:Tb)(pv:Nat×Nat)(p:Nat):List Nat:=match ii T p with
 |some (c,a,x,y,d)=>cK T (aK h T) (some pv) c a x y d|none=>bi T (zr (some pv) p)
def G6(I:am z)(hz:z.a.length < 4194304)(A:md.cL z (some pv))(hm:L[w]?=some (aI (some pv)))(J:p∈aD)
  (q:∀L' (r:Nat) l,L <+:L'->bG z (λT=>gb h T pv p) 0 r l->Q (.j r) (st z L')):ar (ai (n+4) 26 [.o 10,.j p,.o (w+14)] (st z L)) Q:=by
 obtain⟨pid,v⟩:=pv;obtain⟨lv,B,_,G,_⟩:=nl A;refine y_ (n:=n) I hz G hm J λL' U=>?_;have g:∀T,z.a <+:T->gb h T (pid,v) p=bi T (gx pid v p):=λT Y=>by unfold gb;rw[zt I Y J];rfl
 unfold gx at g ⊢;by_cases e:p=26+pid
 .rw[ah e]
  refine q L' v lv U (B.res 0 λT Y u=>?_);rw[g T Y,ah e,B.c.bR I Y,B.f]
 .rw[ab e]
  have j:At z p [p]:=⟨eH I J,cX,λx H=>by rw[aB]at H;subst H;exact J⟩;refine q L' p [p] U (j.res 0 λT Y u=>?_);rw[g T Y,ab e,j.c.bR I Y,cX]
def G7(U:e9 md h (N+1))(j:h<=2)(I:am z)(A:md.cL z (some pv))(hm:L[w]?=some (aI (some pv)))(J:vk md z (Wf md z h) p)
  (room:z.sz+md.rF h<=4190000) (dp:z.b+3*(h+1)<=35) (B:0<=z.b)
  (q:∀z' (r:Nat) l L',Gr (md.gC (md.gB h)) z z'->L <+:L'->bG z' (λT=>gb h T pv p) (md.b (h+1)) r l->Q (.j r) (st z' L')):ar (ai (N+5) 26 [.o 10,.j p,.o (w+14)] (st z L)) Q:=by
 obtain⟨c,a,x,y,d,lc,la,hr,f_,o,G,oc,oa,H,v,Y⟩:=J;have hz:z.a.length < 4194304:=Z.bZ (c:=0) ("~18hyZ7qPmvy|A;82" room);refine az (ρ:=[some (.o 10),some (.j p),some (.o (w+14)),none]) rfl ?_;refine aP (ic hm) ?_;refine ag (cp hz hr) ?_;refine az (f:=25) (ρ:=[some (.o 10),some (.j p),some (.p (aV c a x y d)),some (.o (w+14)),none]) rfl ?_;refine y0 (n:=N+2) hm ?_;have m1:(L++[aI (some pv)])[L.length]?=some (aI (some pv)):=bk;have p1:L <+:L++[aI (some pv)]:=bp;generalize L++[aI (some pv)]=L1 at m1 p1;refine aP (ic m1) ?_;refine az (f:=82) (ρ:=[some (.o 10),some (.p (aV c a x y d)),some (.o (L.length+14))]) rfl ?_;refine vE (N:=N) U j I o G oc oa (.inr ⟨H,v⟩) Y A m1 room dp B λz' r l L' g hL R=>?_;exact q z' r l L' g (p1.trans hL) ⟨R.a,R.e,R.d,λT hT u=>by
  unfold gb;rw[zq (cI (g.d.trans hT) hr)];exact R.c T hT u⟩
def zK(l:List Nat):d8 (λp=>if p < 29 then 0 else g) l=ct l*g:=by
 induction l with
 |nil=>
  exact(Ca g).symm
 |cons p l ih=>
  show(if p < 29 then 0 else g)+d8 _ l=_;rw[ih];unfold ct;rw[jf];by_cases h:29<=p
  .rw[ab ("~5t||BPB2HIqgh" h)]
   simp only[h,decide_true,qp,bI];rw[kX,Nat.add_comm]
  .rw[ah ("~5t||BPtk1tGw^" h)]
   simp only[h,decide_false,jd,je,qg]
theorem zL{W:Nat->Tb->List Nat}(I:am z):∀{ps rs:List Nat},f9 (λq r=>∃l,bG z (W q) (if q < 29 then 0 else b) r l) ps rs->ct (rs.flatMap (bi z.a))<=ct ps*b
 |[],[],_=>bb _|q::ps,r::rs,a=>by
  obtain⟨l,R⟩:=a.1;rw[dM,nq,R.a.bR I (aA _)];have h1:=R.d;have h2:=zL I a.2;have e:ct (q::ps)*b=(if q < 29 then 0 else b)+ct ps*b:=by rw[<-zK,<-zK];rfl
  lia
 |[],_::_,a=>a.elim|_::_,[],a=>a.elim
def Ta(j:h<=2)(dG:∀N,f<=N->e9 md h N):∀N,f+7<=N->ft md (h+1) N:=by
 intro o kI z L i mi pv Q I hw A hm room dp kE q;obtain⟨N,rfl⟩:∃N,o=N+7:=⟨o - 7, "~7B_Aja7VKSuykl6F4qNW7M45kY" ao kI⟩;obtain⟨l,Y,H,cl,G8⟩:=hw;have v:md.rP (h+1)=md.rF h:=rfl;have G9:md.gB (h+1)=md.NI (h+1)*md.gC (md.gB h)+1:=rfl;have hz:z.a.length < 4194304:=Z.bZ (c:=0) ("~47sfRge<LXEm?X7HE" room);have Tc:md.NO (h+1)=md.b (h+1):=rfl;have hb:=vw (md:=md) (h:=h+1) ("~P_<RtjkSD1" j);have Td:=zv (md:=md) h;have lZ:∀T,z.a <+:T->aK (h+1) T (some pv) i=l.flatMap (gb h T pv):=λT hT=>by
  unfold aK;rw[Y.bR I hT];rfl
 rcases Y.c with⟨e,w⟩ |e |⟨h2,_⟩
 .subst w
  refine lN (n:=N+5) hz hm (jx I) (.a _) (q z 2 [] L ((Gr.refl I).mono (bb _)) (aA _) ⟨hX,rfl,bb _,λT hT u=>?_⟩);rw[lZ T hT,e];rfl
 .have G_:∀T,z.a <+:T->aK (h+1) T (some pv) i=gb h T pv i:=λT hT=>by rw[lZ T hT,e,dM,jh,b_]
  rcases G8 i (by rw[e];simp)with⟨U,_⟩ |hc
  .refine G6 (n:=N+3) (h:=h) I hz A hm U λL' r l' hL R=>?_
   exact q z r l' L' ((Gr.refl I).mono (bb _)) hL ⟨R.a,R.e,aL R.d (bb _),λT hT u=>by rw[G_ T hT];exact R.c T hT u⟩
  .refine G7 (N:=N+2) (dG _ ("~4|A_azjTKR2gB??" kI)) j I A hm hc ("~Wu8qPZf0>wU|lcXBrGa1KIP" v room) ("~2KnfNgamGf58LGKfCC5bDGE" dp) kE λz' r l' L' g hL R=>?_
   exact q z' r l' L' (g.mono ("~8Qs>azpMF" Td)) hL ⟨R.a,R.e,R.d,λT hT u=>by rw[G_ T (g.d.trans hT)];exact R.c T hT u⟩
 .have sn:d8 (λp=>if p < 29 then 0 else md.gC (md.gB h)) l<=md.NI (h+1)*md.gC (md.gB h):=by rw[zK];exact fM _ cl
  have Ha:ct l*md.b (h+1)<=md.b (h+1):=by
   unfold Md.b;unfold Md.NI at cl;generalize ho:md.a=x_
   induction x_ using aS with
   |true=>rw[ho]at cl;have cl:ct l<=1:=cl;have:=fM (4 ^ (h+1)) cl;rw[tI]at this;exact this|false=>show ct l*0<=0;exact av _
  refine zb (n:=N+3) (R:=λz p r=>∃l,bG z (λT=>gb h T pv p) (if p < 29 then 0 else md.b (h+1)) r l) (c:=λp=>if p < 29 then 0 else md.gC (md.gB h)) (B:=4190000 - md.rF h) (λc z z' p r hr g=>let ⟨l,a⟩:=hr;⟨l,a.gr g.d⟩) I ("~2ebjXTIiZdQ|>ULcz7WWJ" ao) hm Y h2 ("~1bggX2EJ4pKbfim=SPSQzr;^ys_Mn_L23fUXKU?j=j" ao G9 v room sn)
   (λp J z1 L1 Q' i1 b1 d1 l1 q1=>?_) (λz1 p r i1 hr=>?_) (λz' rs g G=>?_) λz' dE r L' rs g g' hL G Te=>?_
  .obtain⟨dd,gd⟩:=d1
   have b1:z1.sz+(if p < 29 then 0 else md.gC (md.gB h))<=4190000 - md.rF h:=b1;rcases G8 p J with⟨U,_⟩ |hc
   .have f_:=zn p U
    refine G6 (n:=N+1) (h:=h) i1 (Z.bZ (c:=0) (by lia)) (ij A gd.d) (aC hm l1) U λL' r l' hL R=>q1 z1 r L' ((Gr.refl i1).mono (bb _)) hL ⟨l',?_⟩;rw[ah f_];exact R
   .have cM:vk md z1 (Wf md z1 h) p:=by
     obtain⟨c,a,x,y,d,lc,la,h1,h2,h3,h4,h5,h6,h7,h8,h9⟩:=hc;exact⟨c,a,x,y,d,lc,la,cI gd.d h1,h2,h3.gr gd.d,h4.gr gd.d,h5,h6,h7.gr gd.d,h8.gr gd.d,h9⟩
    have f_:29<=p:=by obtain⟨_,_,_,_,_,_,_,_,h,_⟩:=hc;exact h
    rw[ab ("~5t||BPB2HIqgh" f_)]at b1;refine G7 (N:=N) (dG _ ("~5yZC^dl3k>QTy" kI)) j i1 (ij A gd.d) (aC hm l1) cM ("~1bgoX6WNxLiTigmaHLZWYgT7LBzWqQ7E2MD5qjUhX7" ao v room b1) (by rw[gd.i];exact "~2KnfNgamGf58LGKfCC5bDGE" dp) (by rw[gd.i];exact kE) λz' r l' L' g hL R=>q1 z' r L' (by rw[ab ("~5t||BPB2HIqgh" f_)];exact g) hL ⟨l',?_⟩;rw[ab ("~5t||BPB2HIqgh" f_)];exact R
  .obtain⟨l',R⟩:=hr
   rw[R.a.bR i1 (aA _)];exact R.a
  .have h1:=zB (kn (S:=rs.flatMap (bi z'.a)))
   have h2:=nr (S:=rs.flatMap (bi z'.a));have h3:=zL (W:=λp T=>gb h T pv p) g.e G;exact "~1eC??vy_4Y9Je|kSmLBJF^rO1K3" Ha hb h1 h2 h3
  .refine q dE r _ L' ((g.trans g').mono ("~GADuh7Q6_JZb4v" G9 sn)) hL ⟨Te,eF _,?_,λT hT u=>?_⟩
   .have h2:=nr (S:=rs.flatMap (bi z'.a))
    have h3:=zL (W:=λp T=>gb h T pv p) g.e G;exact "~17_UiURyYEm??rzn" Tc Ha h3 h2
   .rw[lZ T (g.d.trans (g'.d.trans hT))]
    have Tf:=vc (R':=λp r=>∃l,bG z' (λT=>gb h T pv p) (md.b (h+1)) r l) (λp r hr=>by
     obtain⟨l',R⟩:=hr;exact⟨l',R.mono (by split <;>lia)⟩) G
    exact zF (V1:=λC=>[]) (md:=md) (W:=λp T=>gb h T pv p) g.e (g'.d.trans hT) u Tf
def Hb:∀N,7<=N->ft md 0 N:=by
 intro o f z L i mi pv Q I A U hm room dp H q;obtain⟨N,rfl⟩:∃N,o=N+7:=⟨o - 7, "~1|VP0PdoOx_pbxV_do1TVLIU4" ao f⟩;obtain⟨l,j,J⟩:=A;obtain⟨pid,v⟩:=pv;obtain⟨lv,B,_,G,_⟩:=nl U;have e1:md.gB 0=1:=rfl;have w:md.rP 0=10:=rfl;refine Gm (n:=N) I ("~2t;SReMkdfAbXe7z8z^zG" room) G j B hm λz' r L' g p Y=>?_;refine q z' r _ L' g p (Y.res _ λT hT u=>?_);show ae (i3 T (some (pid,v)) i)=_;rw[kB I j B (g.d.trans hT)]
theorem sL(md:Md):∀h,h<=3->(∀N,30*h+29<=N->ft md h N)/\(h<=2->(∀N,30*h+29<=N->e9 md h N)/\∀N,30*h+29<=N->kF md h N)
 |0,_=>by
  have o:=G3 (md:=md) (h:=0) (f:=7) (by decide) Hb (λh' e=>by lia) (λh' e=>by lia) (by decide);exact⟨λN Y=>Hb N ("~18i=R<IXh7;iKx9f" Y),λQ=>⟨λN Y=>G5 (by decide) o N ("~d|Vx1Qkd<EbFIjAqaUPe>" Y),λN Y=>o N ("~n0FCbw<cs_ZldqqraOz" Y)⟩⟩
 |h+1,j=>by
  obtain⟨u,g⟩:=sL md h ("~Pgu4;<;ov7" j);obtain⟨I,o⟩:=g ("~Pgu4;;Qu|_" j);have U:=Ta (md:=md) (h:=h) (f:=30*h+29) ("~Pgu4;;Qu|_" j) I;refine⟨λN Y=>U N ("~RC8kY;M|76Rwcf8UlaNncZy5s" Y),λh2=>?_⟩;have J:=G3 (md:=md) (h:=h+1) (f:=30*h+36) ("~1Zu3hHOuLy3sW<" id) U (λh' e N Y=>by cases e;exact I N ("~e;?_hLoLOFt>EGGbaDqnR" Y)) (λh' e N Y=>by cases e;exact o N ("~e;?_hLoLOFt>EGGbaDqnR" Y)) h2;exact⟨λN Y=>G5 h2 J N ("~HW>9;ywKV5RvUl<m75p^2Nc6=iJ5F" Y),λN Y=>J N ("~Lym43RkVov0aRDMwS2bIpCaPz1w" Y)⟩
end
section
variable{C:CT}{z:Z}{L:List O}{n t i N h:Nat}{Q:V->St->Prop}{l ls lt S:List Nat}{σ:St}
def Tg:∀{acc:List Nat},(acc++l).Pairwise (·<=·)->(dd acc l).Pairwise (·<=·):=by
 induction l with
 |nil=>
  intro acc h;rw[b_]at h;exact h
 |cons x l ih=>
  intro acc h;rw[oV];split
  .refine ih (h.sublist ?_)
   exact List.Sublist.append_left (List.sublist_cons_self _ _) _
  .refine ih ?_
   rw[c7];exact h
def Th(n:ce S):dd [] ((bw S).filter λt=>!aY S t)=ae S:=by
 rw[lP n];refine m8 (Tg (by rw[di];exact uV.filter _)) (km.filter _) (m9 iE) (kl.filter _) λx=>?_;rw[fp,c8,c8,m7,iV];simp
def Hc{x:Nat}:de .b (.j x) (.r (aa l)) σ=some (.w (l.contains x),σ):=by rw[jw (b:=true) (l:=l) rfl,hZ]
abbrev zM:List CS:=[.g 5 (.h (.q (.d 0) 18) (.d 4)),.g 6 (.C (.n .a (.h (.d 5) (.g 0)) (.p 5)) (.h (.d 5) (.g 3)) (.C (.n .b (.h (.d 5) (.g 0)) (.t [.p 3,.p 4])) (.h (.d 5) (.g 1)) .N)),
 .g 7 (.z [.n .h (.d 6) .N,.n .b (.C (.O (.d 6)) (.p 6) (.p 7)) (.d 1)]),.h (.z [.n .a (.h (.d 5) (.g 0)) (.p 3),.n .a (.h (.d 5) (.g 2)) (.g 1)]) [.g 7 (.D [.d 7,.n .b (.y (.d 0) 4 [.t [.p 3,.h (.d 5) (.g 1),.g 0]]) (.d 1)])] [],
 .h (.z [.G (.d 7),.n .d (.d 4) (.d 3)]) [.k (.w .a (.d 3) [.d 4])] []]
def Ti(hs:bt (st z L) v=some (true,aa S))(I:am z)(hz:z.a.length < 4194304)(J:b4 z p)(G:L[j]?=some (.a (aa out)))(Y:out.length < 4194303)
  (q:∀L' g H A,L'=L.set j (.a (aa (if aY S p then out else dd out [p])))->K .a [some (.o 2),some v,o2,some (.o (j+14)),some (.j p),g,H,A] (st z L')):
  aM (ai (n+1)) zM [some (.o 2),some v,o2,some (.o (j+14)),some (.j p),g,H,A] K (st z L):=by
 have U:∀x:Nat,de .b (.j x) v (st z L)=some (.w (S.contains x),st z L):=λx=>by rw[jw (b:=true) (l:=S) hs,hZ]
 have y:bt (st z L) (.o (j+14))=some (true,aa out):=iU G;have B:de .d (.j p) (.o (j+14)) (st z L)=some (.w (!out.contains p),st z L):=by rw[Fg y,hZ]
 have same:L=L.set j (.a (aa out)):=(gJ G).symm;have last:∀(b:Bool) g H,aY S p=b->aM (ai (n+1)) [.h (.z [.G (.d 7),.n .d (.d 4) (.d 3)]) [.k (.w .a (.d 3) [.d 4])] []] [some (.o 2),some v,o2,some (.o (j+14)),some (.j p),g,H,some (.w b)] K (st z L):=by
  intro b g H T;rw[T]at q
  induction b using aS with
  |true=>exact q L g H _ same|false=>
   refine ag B ?_;by_cases hm:p∈out
   .rw[bj.mpr hm]
    have e:dd out [p]=out:=ah hm;refine q L g H _ ?_;rw[ab (by decide),e];exact same
   .rw[eo.mpr λe=>hm (bj.mp e)]
    refine ag (ed .a G (.inl rfl)) ?_;refine ec G (by rw[cJ];exact "~KkM>ZLN6|avQ" Y) ?_;have e:dd out [p]=out++[p]:=ab hm;refine q _ g H _ ?_;rw[ab (by decide),e,h_];rfl
 by_cases s:p=26
 .have f:aY S p=(S.contains 6||S.contains 16):=by rw[s];rfl
  refine ag (cp (r:=[.j 3,.u "a",.j 1]) hz (s▸I.at (t:=26) rfl)) ?_;refine ag (U 6) ?_;generalize k:S.contains 6=E
  induction E using aS with
  |true=>
   exact last true _ _ (by rw[f,k];rfl)
  |false=>
   have vp:=I.at (t:=16) (r:=[.j 3,.u "a",.j 0]) rfl;refine ko (n:=n) (r:=[.j 3,.u "a",.j 0]) I rfl hz vp ?_;refine ag (U 16) ?_;exact last (S.contains 16) _ _ (by rw[f,k];rfl)
 .obtain⟨_,r,hr,u⟩:=J
  refine ag (cp hz hr) ?_;clear hr;have f:aY S p=(wh p !=2&&S.contains (wh p)):=by unfold aY;rw[cD.mpr s];simp
  generalize wh p=w at u f;generalize T:(p==26)=b at u
  induction u with
  |l=>exact absurd (aH.mp T) s|m a=>
   refine ag (U 6) ?_;exact last (S.contains 6) _ _ (by rw[f];simp)
  |n a=>
   refine ag (U 7) ?_;exact last (S.contains 7) _ _ (by rw[f];simp)
  |q a b c=>
   refine ag (U 7) ?_;exact last (S.contains 7) _ _ (by rw[f];simp)
  |o a b c=>
   refine ag (U 6) ?_;exact last (S.contains 6) _ _ (by rw[f];simp)
  |_=>exact last false _ _ (by rw[f];simp)
def Tj(u:∀L',B <+:L'->bt (st z L') v=some (true,aa S))(E:B.length<=j)(I:am z)(hz:z.a.length < 4194304):∀{L:List O} {out:List Nat} {U g o A:Option V} {K:cZ->ba->St->Prop},B <+:L->(∀p∈ps,b4 z p)->L[j]?=some (.a (aa out))->out.length+ps.length < 4194303->
  (∀L' U g o A,L'=L.set j (.a (aa (dd out (ps.filter λt=>!aY S t))))->K .a [some (.o 2),some v,y,some (.o (j+14)),U,g,o,A] (st z L'))->
  gn (λx ρ k σ=>bQ (fQ (.a 4) x ρ σ) λρ σ=>aM (ai (n+1)) zM ρ k σ) none (aa ps) [some (.o 2),some v,y,some (.o (j+14)),U,g,o,A] K (st z L):=by
 induction ps with
 |nil=>
  intro L out U g o A K r J G Y q;exact(q L U g o A (gJ G).symm:_)
 |cons p ps ih=>
  intro L out U g o A K r J G Y q;simp only[bI]at Y;show aM (ai (n+1)) zM [some (.o 2),some v,y,some (.o (j+14)),some (.j p),g,o,A] _ (st z L);refine Ti (u L r) I hz (J p br) G ("~n0><5KP|^^i|A8d<0Os" Y) λL' g o A e=>?_;have s:(dd out [p]).length<=out.length+1:=EZ;have T:L'[j]?=some (.a (aa (if aY S p then out else dd out [p]))):=by rw[e];exact aT G
  refine ih (by rw[e];exact bE r E) (λx H=>J x (b6 _ H)) T (by split <;>lia) λL2 U g o A w=>q L2 U g o A ?_;rw[w,e,kQ,jf]
  induction aY S p using aS with
  |true=>rfl|false=>show L.set j _=L.set j _;rw[ab (by decide),uY];rfl
def Hd(T:∀L',L <+:L'->bt (st z L') v=some (true,aa S))(I:am z)(hz:z.a.length < 4194304)(m:∀x∈S,b4 z x)(Y:S.length < 4194303)(q:∀L',L <+:L'->Q (.r (aa (ae S))) (st z L')):ar (ai (n+2) 57 [.o 2,v] (st z L)) Q:=by
 have U:∀x:Nat,de .b (.j x) v (st z L)=some (.w (S.contains x),st z L):=λx=>by rw[jw (b:=true) (l:=S) (T L (aA _)),hZ]
 refine az (ρ:=[some (.o 2),some v,none,none,none,none,none,none]) rfl ?_;refine ag (U 0) ?_;by_cases f:0∈S
 .rw[bj.mpr f]
  have:=q L (aA _);unfold ae at this;rw[ah f]at this;exact this
 rw[eo.mpr λe=>f (bj.mp e)];refine ag (U 13) ?_;by_cases w:13∈S
 .rw[bj.mpr w]
  have:=q L (aA _);unfold ae at this;rw[ab f,ah w]at this;exact this
 rw[eo.mpr λe=>w (bj.mp e)];refine ag (U 1) ?_;by_cases h1:1∈S
 .rw[bj.mpr h1]
  have:=q L (aA _);unfold ae at this;rw[ab f,ab w,ah h1]at this;exact this
 rw[eo.mpr λe=>h1 (bj.mp e)];refine bY ?_;refine aP (FL (T _ bp) ("~KkM>ZLN6|avQ" Y)) ?_;refine ag ((hY (z:=z) (L:=L++[.a []]) (ts:=bw S) (by rw[oU];exact "~KkM>ZLN6|avQ" Y)).a _ (aA _)) ?_;refine Tj (j:=L.length) (out:=[]) (B:=L) T (av _) I hz bp (λp J=>m p (m7.mp J)) bk (by rw[oU,dK];exact "~A2n0FaZMbgcwdyZdtv" Y) λL' H g o A e=>?_;rw[Th ⟨f,w,h1⟩]at e;have G:L'[L.length]?=some (.a (aa (ae S))):=by rw[e];exact aT bk
 have J:L <+:L':=by rw[e];exact bE bp (av _)
 refine f0 G (q _ (bE J (av _)))
def sM(I:am z)(hz:z.a.length < 4194304)(m:∀x∈S,b4 z x)(Y:S.length < 4194303)(q:∀L',L <+:L'->Q (.r (aa (ae S))) (st z L')):ar (ai (n+2) 57 [.o 2,.r (aa S)] (st z L)) Q:=Hd (λJ J=>rfl) I hz m Y q
def l0{l:List V}(Y:l.length < 4194304):b1 .a (.r l) σ=some (.j l.length,σ):=by
 show(if l.length < bs then some (V.j l.length,σ)else none)=_;rw[ah (show l.length < bs from Y)]
def i8(I:am z)(room:z.sz+1 < 4194304)(m:∀x∈S,b4 z x)(Y:S.length < 4194303)(q:∀z' (r:Nat) L',Gr 1 z z'->L <+:L'->aO z' r (ae S)->Q (.j r) (st z' L')):ar (ai (n+3) 58 [.o 2,.r (aa S)] (st z L)) Q:=by
 have hz:=Z.bZ room;refine az (ρ:=[some (.o 2),some (.r (aa S)),none]) rfl ?_;refine sM (n:=n) I hz m Y λL1 p1=>?_;have k:∀p∈ae S,b4 z p:=λp J=>m p (cu J);have j:=kn (S:=S);have T:(ae S).length < 4194304:=kt j k hz;generalize ae S=c at q k j T
 match c,q,k,j,T with
 |[],q,_,_,_=>
  refine aP (a:=.j 0) (σ:=st z L1) rfl ?_;exact q z 2 L1 ((Gr.refl I).mono (bb _)) p1 hX
 |[t],q,k,_,_=>
  refine aP (a:=.j 1) (σ:=st z L1) rfl ?_;refine aP (a:=.j 1) (σ:=st z L1) rfl ?_;exact q z t L1 ((Gr.refl I).mono (bb _)) p1 (fq (k t br))
 |t::u::r,q,k,j,T=>
  have y:=l0 (σ:=st z L1) (l:=aa (t::u::r)) (by rw[cJ];exact T);rw[cJ]at y;refine aP y ?_;refine aP y ?_;refine aP (y8 (by rw[cJ];exact T)) ?_;refine jt (n:=n+1) (r:=du (t::u::r)) I yT (.inl (.e _)) room λz' w g h=>?_;exact q z' w L1 g p1 ⟨.inr (.inr ⟨by simp,h⟩),λp J=>(k p J).gr g.d,j⟩
def X2:dj (.o 12) (.u "q") (st z L)=some (.j 28,st z L):=rfl
def X3:dj (.o 12) (.u "t") (st z L)=some (.j 27,st z L):=rfl
def w_tab:dj (.o 12) (.u "tab") (st z L)=some (.o 2,st z L):=rfl
def X4:dj (.o 12) (.u "holders") (st z L)=some (.o 13,st z L):=rfl
def He(q:Q (.w (be l)) (st z L)):ar (ai (n+1) 64 [.o 12,.r (aa l)] (st z L)) Q:=by
 refine az (ρ:=[some (.o 12),some (.r (aa l))]) rfl ?_;unfold be at q;refine ag (Hc (l:=l) (x:=28)) ?_;generalize a:l.contains 28=E
 induction E using aS with
 |true=>rw[a,Bool.or_true]at q;exact q|false=>
  rw[a,xe]at q;refine ag (Hc (l:=l) (x:=27)) ?_;exact q
end
section
variable{C:CT}{z:Z}{L:List O}{n t i N h:Nat}{Q:V->St->Prop}{l ls lt S A:List Nat}{σ:St}
abbrev gN(t:Nat):List Nat:=(fZ.lookup t).getD []
abbrev cg:List Nat:=fZ.map (·.1)
def Tk:∀t∈cg,dj (.o 13) (.j t) (st z L)=some (.r (aa (gN t)),st z L)/\∃r,aa (gN t)=.j (rg t)::r:=by
 unfold cg fZ;simp only[eS,qt,iF,dW,mw,mx,my];refine⟨?_,?_,?_,?_,?_,?_,?_,?_,?_,?_,?_,?_,?_,?_,?_,?_,?_,?_,?_⟩ <;>exact⟨rfl,_,rfl⟩
def Tl:∀t∈co,cm .c (.o 13) [.j t,.r []] (st z L)=some (.r (aa (gN t)),st z L):=by
 unfold co;simp only[iF,dW,mw,mx,my];refine⟨?_,?_,?_,?_,?_,?_,?_,?_,?_,?_,?_,?_,?_,?_,?_,?_,?_,?_,?_,?_,?_,?_⟩ <;>rfl
def zN:(a||(b||(c||false)))=(a||(true&&c)||(true&&b)||(false&&d)):=by induction a <;>induction b <;>induction c <;>rfl
def sN:(a||(b||false))=(a||(true&&b)||(false&&c)||(false&&d)):=by induction a <;>induction b <;>rfl
def Tm:(a||(b||false))=(a||(false&&c)||(false&&d)||(true&&b)):=by induction a <;>induction b <;>rfl
def jF:(a||false)=(a||(false&&b)||(false&&c)||(false&&d)):=by induction a <;>rfl
def zO(h:a=false):false=(a||(false&&b)||(false&&c)||(false&&d)):=by rw[h];rfl
def Tn(n:ce A):∀t∈co,(gN t).any A.contains=dT A (rg t):=by
 have f:A.contains 0=false:=eo.mpr λe=>n.1 (bj.mp e);have w:A.contains 13=false:=eo.mpr λe=>n.2.1 (bj.mp e);have h1:A.contains 1=false:=eo.mpr λe=>n.2.2 (bj.mp e);unfold co;simp only[iF,dW,mw,mx,my];exact⟨zO f,zO h1,jF,Tm,jF,jF,jF,jF,jF,jF,jF,zO w,sN,sN,sN,sN,zN,zN,zN,jF,jF,sN⟩
def To{z0:Z}{M:Nat}{conds:List CE}{ρ:ba}(G:B.length<=j){ps:List Nat}:∀{z:Z} {L:List O} {out:List V} {m:Nat} {K:St->Prop},Gr m z0 z->m+ps.length*(c+d)<=M->B <+:L->L[j]?=some (.a out)->out.length+ps.length < 4194304->
  (∀p∈ps,∀z L (Q:Bool->St->Prop),Gr M z0 z->B <+:L->(∀z' L',Gr c z z'->L <+:L'->Q (g p) (st z' L'))->fi C conds (ρ.set sl (some (.j p))) Q (st z L))->
  (∀p∈ps,g p=true->∀z L (Q:V->St->Prop),Gr M z0 z->B <+:L->(∀z' L',Gr d z z'->L <+:L'->Q (f p) (st z' L'))->bK C e (ρ.set sl (some (.j p))) Q (st z L))->
  (∀z' L',Gr M z0 z'->L'[j]?=some (.a (out++(ps.filter g).map f))->B <+:L'->K (st z' L'))->
  ew (λx k σ=>fi C conds (ρ.set sl (some x)) (λb σ=>fh b (bK C e (ρ.set sl (some x)) (λv σ=>bm (cm .a (.o (j+14)) [v] σ) λA σ=>k σ) σ) (k σ)) σ) none (aa ps) K (st z L):=by
 induction ps with
 |nil=>
  intro z L out m K H hm o ho Y hc J q;refine(q z L (H.mono ("~W<<tbm^G" hm)) ?_ o:_);rw[Kd,qt,b_];exact ho
 |cons p ps ih=>
  intro z L out m K H hm o ho Y hc J q;simp only[bI]at Y;rw[bI,kX]at hm;show fi C conds (ρ.set sl (some (.j p))) _ (st z L);refine hc p br z L _ (H.mono ("~7;oQUm8|MRK" hm)) o λu L1 g1 T=>?_;rw[jf]at q;have I:=H.trans g1;generalize w:g p=E
  induction E using aS with
  |false=>
   rw[w]at q;exact ih I ("~1Kg9FCWyR6u<2t" hm) (o.trans T) (aC ho T) ("~68TW_IaZws61|" Y) (λU a=>hc U (b6 _ a)) (λU a=>J U (b6 _ a)) q
  |true=>
   rw[w]at q;refine J p br w u L1 _ (I.mono ("~L<VQBpyrgFZG" hm)) (o.trans T) λz2 L2 g2 y=>?_;have r:=T.trans y;refine ec (aC ho r) ("~1f<c=y4WPi=D" Y) ?_;refine ih (I.trans g2) ("~4^y1|4;n43pwTn3" hm) (bE (o.trans r) G) (aT (aC ho r)) (by simp only[ca,bI,dK];exact "~4ENzm8VZBFXcdnB=y" Y) (λU a=>hc U (b6 _ a)) (λU a=>J U (b6 _ a)) λz' L' s h1 h2=>q z' L' s ?_ h2;rw[c7]at h1;exact h1
def vG{M d:Nat}{ρ:ba}{ps:List Nat}(I:am z)(G:ps.length*(c+d)<=M)(Y:ps.length < 4194304)
  (o:∀p∈ps,∀u L1 (Q:Bool->St->Prop),Gr M z u->L <+:L1->(∀z' L',Gr c u z'->L1 <+:L'->Q (g p) (st z' L'))->fi C conds (ρ.set sl (some (.j p))) Q (st u L1))
  (J:∀p∈ps,g p=true->∀u L1 (Q:V->St->Prop),Gr M z u->L <+:L1->(∀z' L',Gr d u z'->L1 <+:L'->Q (f p) (st z' L'))->bK C e (ρ.set sl (some (.j p))) Q (st u L1))
  (q:∀z' L',Gr M z z'->L <+:L'->K (.r ((ps.filter g).map f)) (st z' L')):
  bm (gk (.a []) (st z L)) λr σ=>ew (λx k σ=>fi C conds (ρ.set sl (some x)) (λb σ=>fh b (bK C e (ρ.set sl (some x)) (λv σ=>bm (cm .a r [v] σ) λH σ=>k σ) σ) (k σ)) σ) none (aa ps) (λσ=>bm (hD r σ) K) σ:=by
 refine bY ?_;refine To (g:=g) (f:=f) (out:=[]) (j:=L.length) (B:=L) (av _) (Gr.refl I) ("~8RCgU|T=T" G) bp bk (by simpa using Y) o J λz' L' s h1 h2=>?_;rw[di]at h1;exact f0 h1 (q _ _ s (bE h2 (av _)))
def zP(Y:l.length < 4194304):qU (.r (aa l)) .z (.j 1) σ=some (.r (aa (l.take 1)),σ):=by
 show(if(aa l).length < bs then some (V.r (iK (aa l) none (some 1)),σ)else none)=_;rw[ah (show(aa l).length < bs by rw[cJ];exact Y)]
 induction l using bo with
 |nil=>rfl|cons a r=>
  have:iK (aa (a::r)) none (some 1)=aa [a]:=by
   show List.drop 0 (List.take (min (aa (a::r)).length 1) (aa (a::r)))=_;rw[cJ,bI,BI ("~bM|cRvXx" id)];rfl
  rw[this];rfl
def Hg(n:ce l):de .b (.r (aa (l.take 1))) (.p [.r [.j 0],.r [.j 1],.r [.j 13]]) σ=some (.w false,σ):=by
 induction l using bo with
 |nil=>rfl|cons a r=>
  have f:(0==(a:Int))=false:=cD.mpr λe=>n.1 (by rw[show a=0 from "~1_35<wW6Uyh<" e];exact br);have h1:(1==(a:Int))=false:=cD.mpr λe=>n.2.2 (by rw[show a=1 from "~1_2zK5;On49z" e];exact br);have w:(13==(a:Int))=false:=cD.mpr λe=>n.2.1 (by rw[show a=13 from "~5o6qJ5muLTbM3" e];exact br);show some (V.w (((0==(a:Int))&&true)||(((1==(a:Int))&&true)||(((13==(a:Int))&&true)||false))),σ)=_;rw[f,h1,w];rfl
def Hh:∀t∈cg,t∈co:=by decide
def Tp(h:t∈cg):∃r,dj (.o 13) (.j t) (st z L)=some (.r (.j (rg t)::r),st z L):=by
 obtain⟨h1,r,h2⟩:=Tk (z:=z) (L:=L) t h;rw[h2]at h1;exact⟨r,h1⟩
def Tq:∀t∈co,(gN t).length < 4:=by decide
def Ts:∀{L:List O} {out:List Nat} {U:Option V} {K:cZ->ba->St->Prop},(∀p∈ps,p∈cg)->L[j]?=some (.a (aa out))->out.length+ps.length < 4194304->
  (∀L' U,L'=L.set j (.a (aa (out++ps.map rg)))->K .a [some (.o 12),o0,T,some (.o (j+14)),U,g,o] (st z L'))->
  gn (λx ρ k σ=>bQ (fQ (.a 4) x ρ σ) λρ σ=>aM C [.k (.w .a (.d 3) [.h (.h (.h (.d 0) (.u "holders")) (.d 4)) (.g 0)])] ρ k σ) none (aa ps) [some (.o 12),o0,T,some (.o (j+14)),U,g,o] K (st z L):=by
 induction ps with
 |nil=>
  intro L out U K J G Y q;refine(q L U ?_:_);rw[qt,b_];exact(gJ G).symm
 |cons p ps ih=>
  intro L out U K J G Y q;simp only[bI]at Y;obtain⟨r,I⟩:=Tp (z:=z) (L:=L) (J p br);show aM C [.k (.w .a (.d 3) [.h (.h (.h (.d 0) (.u "holders")) (.d 4)) (.g 0)])] [some (.o 12),o0,T,some (.o (j+14)),some (.j p),g,o] _ (st z L);refine ag (ed .a G (.inl rfl)) ?_;refine ag I ?_;refine ec G (by rw[cJ];exact "~1f<c=y4WPi=D" Y) ?_;refine ih (out:=out++[rg p]) (λx H=>J x (b6 _ H)) (by rw[aT G,h_];rfl) (by rw[ca];simp only[bI,dK];exact "~4ENzm8VZBFXcdnB=y" Y) λL' U e=>q L' U ?_;rw[e,kQ,c7,eS];rfl
def Hi(m:S.length < 4194304)(Y:A=[0]\/A=[1]\/A=[13])(q:Q (.w true) (st z L)):ar (ai (n+1) 63 [.o 12,.r (aa S),.r (aa A)] (st z L)) Q:=by
 refine az (ρ:=[some (.o 12),some (.r (aa S)),some (.r (aa A)),none,none,none,none]) rfl ?_;refine ag (zP (by rcases Y with rfl |rfl |rfl <;>decide)) ?_;rcases Y with rfl |rfl |rfl <;>exact q
def Hj(I:am z)(nt:ce A)(hA:∀a∈A,a∈cg)(m:∀s∈S,s∈co)(w:A.length < 4194303)(J:S.length < 4194303)
  (q:∀z' L',Gr 0 z z'->L <+:L'->Q (.w (FU S A)) (st z' L')):ar (ai (n+1) 63 [.o 12,.r (aa S),.r (aa A)] (st z L)) Q:=by
 refine az (ρ:=[some (.o 12),some (.r (aa S)),some (.r (aa A)),none,none,none,none]) rfl ?_;refine ag (zP ("~KkM>ZLN6|avQ" w)) ?_;refine ag (Hg nt) ?_;refine bY ?_;refine ag ((hY (z:=z) (L:=L++[.a []]) (ts:=A) ("~KkM>ZLN6|avQ" w)).a _ (aA _)) ?_;refine Ts (j:=L.length) (out:=[]) hA bk (by simpa using Kf w) λL1 o4 e1=>?_;rw[di]at e1;have G:L1[L.length]?=some (.a (aa (A.map rg))):=by rw[e1];exact aT bk
 have p1:L <+:L1:=by rw[e1];exact bE bp (av _)
 refine ag ((hY (z:=z) (L:=L1) (ts:=S) ("~KkM>ZLN6|avQ" J)).a _ (aA _)) ?_;refine vG (M:=0) (c:=0) (d:=0) (g:=λs=>decide (((gN s).filter (A.map rg).contains).length=0)) (f:=λs=>.j s)
  (conds:=[.n .a (.x .a (.E (.d 6) 6 (.a (.w .c (.h (.d 0) (.u "holders")) [.d 5,.r true []])) [.n .b (.d 6) (.d 3)])) (.g 0)])
  (e:=.d 5) (ρ:=[some (.o 12),some (.r (aa S)),some (.r (aa A)),some (.o (L.length+14)),o4,none,none]) (sl:=5) I (by lia) ("~KkM>ZLN6|avQ" J) (λs hs u L2 Q' g2 p2 B=>?_) (λs hs C u L2 Q' g2 p2 B=>B u L2 (Gr.refl g2.e) (aA _)) λz2 L2 g2 p2=>?_
 .have o:=m s hs
  have y:=Tq s o;refine aP (Tl s o) ?_;refine ag ((hY (z:=u) (L:=L2) (ts:=gN s) ("~Vs<K3JB9" y)).a _ (aA _)) ?_;refine vG (M:=0) (c:=0) (d:=0) (g:=(A.map rg).contains) (f:=λs=>.j s)
   (conds:=[.n .b (.d 6) (.d 3)])
   (e:=.d 6) (ρ:=[some (.o 12),some (.r (aa S)),some (.r (aa A)),some (.o (L.length+14)),o4,some (.j s),none]) (sl:=6) g2.e (by lia) ("~Vs<K3JB9" y) (λx H r E Y U p3 v=>?_) (λx H C r E Y U p3 v=>v r E (Gr.refl U.e) (aA _)) λr E U p3=>?_
  .have p:bt (st r E) (.o (L.length+14))=some (true,aa (A.map rg)):=iU (show E[L.length]?=_ from aC G (p2.trans p3))
   refine ag (jw (b:=true) (l:=A.map rg) p) ?_;rw[hZ];have:=v r E (Gr.refl U.e) (aA _);cases e:(A.map rg).contains x <;>rw[e]at this <;>exact this
  .have i0:(((gN s).filter (A.map rg).contains).map λs:Nat=>V.j s).length < 4194304:=by
    rw[bX];exact fK (jQ _ _) ("~Vs<K3JB9" y)
   refine aP (l0 i0) ?_;have:=B r E U p3;rw[bX];generalize ((gN s).filter (A.map rg).contains).length=k at this
   induction k using dN with
   |zero=>exact this|succ k=>exact this
 .have i0:((S.filter λs=>decide (((gN s).filter (A.map rg).contains).length=0)).map λs:Nat=>V.j s).length < 4194304:=by
   rw[bX];exact fK (jQ _ _) ("~KkM>ZLN6|avQ" J)
  refine aP (l0 i0) ?_;rw[bX];have key:decide ((S.filter λs=>decide (((gN s).filter (A.map rg).contains).length=0)).length=0)=FU S A:=by
   refine o_ ?_;have Tt:ce (A.map rg):=by
    have T:∀k,k≠16->k∈A.map rg->k∈A:=λk hk h=>by
     obtain⟨a,ha,e⟩:=eb.mp h;unfold rg at e;split at e
     .exact absurd e.symm hk
     .rw[<-e];exact ha
    exact⟨λh=>nt.1 (T 0 (by decide) h),λh=>nt.2.1 (T 13 (by decide) h),λh=>nt.2.2 (T 1 (by decide) h)⟩
   rw[xj,w7,xc];unfold FU;rw[el];have one:∀s∈S,(¬ decide (((gN s).filter (A.map rg).contains).length=0)=true)↔dT (A.map rg) (rg s)=true:=λs hs=>by
    rw[<-Tn Tt s (m s hs),xj,w7,xc,qk];simp
   constructor
   .intro h x H
    obtain⟨s,hs,e⟩:=eb.mp H;rw[<-e];exact(one s hs).mp (h s hs)
   .intro h s hs
    exact(one s hs).mpr (h (rg s) (eb.mpr ⟨s,hs,rfl⟩))
  have:=q z2 L2 g2 (p1.trans p2);rw[<-key]at this;generalize (S.filter λs=>decide (((gN s).filter (A.map rg).contains).length=0)).length=k at this
  induction k using dN with
  |zero=>exact this|succ k=>exact this
end
inductive Sd where
 |T |k (l:List Nat) |b (l:List Nat) |q (c a:Option (List Nat)) (x y:Sd) (d:Nat)
abbrev Sd.nu(s:Sd):Bool:=Sd.casesOn s false (λJ=>false) (λJ=>false) λJ J J J J=>true
abbrev e_:Option (List Nat)->V
 |none=>.p [.u "T",.r []]|some l=>.p [.u "k",.r (aa l)]
abbrev dx:Sd->V
 |.T=>.p [.u "T",.r []]|.k l=>.p [.u "k",.r (aa l)]|.b l=>.p [.u "|",.r (aa l)]
 |.q c a x y d=>.p [.u "q",.p [e_ c,e_ a,dx x,dx y,.j d]]
abbrev ci(c a:Option (List Nat))(x y:Sd)(d:Nat):V:=.p [e_ c,e_ a,dx x,dx y,.j d]
abbrev ax:Option (List Nat)->List Nat->List Nat
 |none,e=>e|some l,_=>l
abbrev Kl(l:List Nat):Prop:=ae l=l/\l.length<=6/\(l=[0]\/l=[1]\/l=[13]\/∀x∈l,x∈cg\/x=27\/x=28)
abbrev Ko(o:Option (List Nat)):Prop:=∀l,o=some l->Kl l
abbrev Sd.Ok:Sd->Prop
 |.T=>True|.k l=>Kl l|.b l=>Kl l|.q c a x y d=>Ko c/\Ko a/\x.Ok/\y.Ok/\d<=1
inductive SQ(z:Z)(c a:Option (List Nat))(d:Nat)(e:List Nat)(X Y:Nat->Prop)(r:Nat):Prop
 |mk (rc ra rx ry:Nat) (h1:z.a[r]?=some (aV rc ra rx ry d)) (h2:aO z rc (ae (ax c e))) (h3:aO z ra (ae (ax a e))) (h4:X rx) (h5:Y ry)
abbrev d9(z:Z):Sd->List Nat->Nat->Prop
 |.T,e,r=>aO z r (ae e)|.k l,e,r=>aO z r (ae l)|.b l,e,r=>aO z r (ae (e++l))|.q c a x y d,e,r=>SQ z c a d e (d9 z x e) (d9 z y e) r
def d9.gr(p:z.a <+:z'.a):∀{e:List Nat} {r:Nat},d9 z s e r->d9 z' s e r:=by
 induction s with
 |q c a x y d A U=>
  intro e r h;obtain⟨rc,ra,rx,ry,h1,h2,h3,h4,h5⟩:=h;exact⟨rc,ra,rx,ry,cI p h1,h2.gr p,h3.gr p,A h4,U h5⟩
 |_=>exact λh=>aO.gr (z:=z) h p
abbrev Sd.hf:Sd->Nat
 |.q _ _ x y _=>x.hf+y.hf+6|.T=>4|.k _=>4|.b _=>4
abbrev Sd.sc:Sd->Nat
 |.q _ _ x y _=>x.sc+y.sc+3|.T=>1|.k _=>1|.b _=>1
def vH:∀t∈cg,t∈aD:=by decide
def Kl.aD(h:Kl l):∀x∈l,x∈aD:=λx H=>by
 rcases h.2.2 with e |e |e |e
 .rw[e,aB]at H;subst H;decide
 .rw[e,aB]at H;subst H;decide
 .rw[e,aB]at H;subst H;decide
 .rcases e x H with e |e |e
  .exact vH x e
  .subst e;decide
  .subst e;decide
section
variable{C:CT}{z:Z}{L:List O}{n t i N h d:Nat}{Q:V->St->Prop}{l ls lt S A e:List Nat}{σ:St}{c a:Option (List Nat)}{x y s:Sd}
def Kl.part(I:am z)(h:Kl l):∀x∈l,b4 z x:=λx H=>(eH I (h.aD x H)).d x br
abbrev oS:Option (List Nat)->Sd |none=>.T |some l=>.k l
def jG(h:l.length+m.length < 4194304):iL .a (.r (aa l)) (.r (aa m)) σ=some (.r (aa (l++m)),σ):=by
 rw[EU (l:=aa l) (m:=aa m) rfl rfl (by rw[cJ,cJ];exact h),h_]
abbrev pt(a b c:V):O:=.h [("T",a),("k",b),("|",c)]
def pu{a c:V}{Q:Unit->St->Prop}(h:L[i]?=some .b)(q:Q () (st z (L.set i (pt a b c)))):bm (qY (.o (i+14)) [.u "T",a,.u "k",b,.u "|",c] (st z L)) Q:=by
 exact aP (bg rfl (bg h rfl)) q
def Hk{a c:V}(h:L[i]?=some (pt a b c)):dj (.o (i+14)) (.u "T") (st z L)=some (a,st z L)/\dj (.o (i+14)) (.u "k") (st z L)=some (b,st z L)/\dj (.o (i+14)) (.u "|") (st z L)=some (c,st z L):=by
 have Y:bt (st z L) (.o (i+14))=none:=oT h rfl;exact⟨rK Y (lF h) rfl,rK Y (lF h) rfl,rK Y (lF h) rfl⟩
def sO(I:am z)(room:z.sz+1 < 4194304)(E:Kl e)(T:Kl l)(v:V)(m:List Nat)(B:(v=.u "T" /\m=e)\/(v=.u "k" /\m=l)\/(v=.u "|" /\m=e++l))(q:∀z' (r:Nat) L',Gr 1 z z'->L <+:L'->aO z' r (ae m)->Q (.j r) (st z' L')):ar (ai (n+4) 61 [.o 12,.p [v,.r (aa l)],.r (aa e)] (st z L)) Q:=by
 have J:=E.2.1;have Y:=T.2.1;refine az (ρ:=[some (.o 12),some (.p [v,.r (aa l)]),some (.r (aa e)),none,none]) rfl ?_;have G:∀(L1:List O) (v':V),L <+:L1->v'=.r (aa m)->ar (ai (n+3) 58 [.o 2,v'] (st z L1)) (λx σ=>oD x Q σ):=λL1 v' p e'=>by
  subst e';refine i8 (n:=n) I room (λx H=>?_) ?_ λz' r L' g U h=>q z' r L' g (p.trans U) h
  .rcases B with⟨_,rfl⟩ |⟨_,rfl⟩ |⟨_,rfl⟩
   .exact E.part I x H
   .exact T.part I x H
   .exact(aZ.mp H).elim (E.part I x) (T.part I x)
  .rcases B with⟨_,rfl⟩ |⟨_,rfl⟩ |⟨_,rfl⟩
   .exact "~Kxz>GCZ<gXUY" J
   .exact "~Kxz>GCZ<gXUY" Y
   .rw[ca];exact "~459gxqdA0m>bKop|m" J Y
 have p1:L <+:(L++[O.b]).set L.length (pt (.r (aa e)) (.r (aa l)) (.r (aa (e++l)))):=bE bp (av _);have w:=Hk (z:=z) (aT (o':=pt (.r (aa e)) (.r (aa l)) (.r (aa (e++l)))) (bk (L:=L) (o:=O.b)));rcases B with⟨rfl,rfl⟩ |⟨rfl,rfl⟩ |⟨rfl,rfl⟩
 ·
  refine bY ?_;refine ag (jG ("~5q4SFGJ?eKsp|" J Y)) ?_;refine pu bk ?_;refine ag w.1 ?_;exact G _ _ p1 rfl
 ·
  refine bY ?_;refine ag (jG ("~5q4SFGJ?eKsp|" J Y)) ?_;refine pu bk ?_;refine ag w.2.1 ?_;exact G _ _ p1 rfl
 ·
  refine bY ?_;refine ag (jG ("~5q4SFGJ?eKsp|" J Y)) ?_;refine pu bk ?_;refine ag w.2.2 ?_;exact G _ _ p1 rfl
def nv:Kl []:=⟨rfl,by decide,.inr (.inr (.inr λx H=>nomatch H))⟩
end
section
variable{C:CT}{z:Z}{L:List O}{n t i N h d:Nat}{Q:V->St->Prop}{l ls lt S A e:List Nat}{σ:St}{c a:Option (List Nat)}{x y s:Sd}
abbrev jH(s:Sd)(N:Nat):Prop:=∀(z:Z) (L:List O) (Q:V->St->Prop) (e:List Nat),am z->z.sz+s.sc < 4194304->Kl e->
 (∀z' (r:Nat) L',Gr s.sc z z'->L <+:L'->d9 z' s e r->Q (.j r) (st z' L'))->ar (ai N 61 [.o 12,dx s,.r (aa e)] (st z L)) Q
def zQ(o:Ko c)(Y:4<=N):jH (oS c) N:=by
 intro z L Q e I room E q;obtain⟨n,rfl⟩:=eW (k:=4) (N:=N) ("~Vtmzk_UM" Y)
 induction c using aX with
 |none=>exact sO (n:=n) I room E nv (.u "T") e (.inl ⟨rfl,rfl⟩) q|some l=>exact sO (n:=n) I room E (o l rfl) (.u "k") l (.inr (.inl ⟨rfl,rfl⟩)) q
theorem nw:∀c,e_ c=dx (oS c) |none=>rfl |some _=>rfl
def vI{K:St->Prop}(U:jH s N)(I:am z)(room:z.sz+s.sc < 4194304)(E:Kl e)(o:B <+:L)(G:B.length<=j)(ho:L[j]?=some (.a out))(Y:out.length < 4194304)
  (q:∀z' (r:Nat) L',Gr s.sc z z'->B <+:L'->L'[j]?=some (.a (out++[.j r]))->d9 z' s e r->K (st z' L')):
  ar (ai N 61 [.o 12,dx s,.r (aa e)] (st z L)) λv σ=>bm (cm .a (.o (j+14)) [v] σ) λJ σ=>K σ:=by
 refine U z L _ e I room E λz' r L' g p h=>?_;refine ec (aC ho p) Y ?_;exact q z' r _ g (bE (o.trans p) G) (aT (aC ho p)) h
def zR(H:jH x N)(v:jH y N)(o:Ko c)(G:Ko a)(Y:4<=N)(I:am z)(room:z.sz+(x.sc+y.sc+2) < 4194304)(E:Kl e)
  (q:∀z' (rc ra rx ry:Nat) L',Gr (x.sc+y.sc+2) z z'->L <+:L'->aO z' rc (ae (ax c e))->aO z' ra (ae (ax a e))->d9 z' x e rx->d9 z' y e ry->Q (.p (aV rc ra rx ry d)) (st z' L')):
  ar (ai (N+1) 62 [.o 12,ci c a x y d,.r (aa e)] (st z L)) Q:=by
 have e1:(oS c).sc=1:=by induction c <;>rfl
 have w:(oS a).sc=1:=by induction a <;>rfl
 have J:∀{z:Z} {r:Nat} {c:Option (List Nat)},d9 z (oS c) e r->aO z r (ae (ax c e)):=λ{z r c} h=>by induction c <;>exact h
 refine az (ρ:=[some (.o 12),some (ci c a x y d),some (.r (aa e)),none,none]) rfl ?_;unfold ci;refine bY ?_;rw[nw c];refine vI (j:=L.length) (out:=[]) (B:=L) (zQ o Y) I (by rw[e1];exact "~58>HvqDgvb7OYwv" room) E bp (av _) bk (by decide) λu rc L1 g p1 o1 h1=>?_;rw[e1]at g;have v1:=g.f;rw[nw a];refine vI (j:=L.length) (B:=L) (zQ G Y) g.e (by rw[w];exact "~m_SQCeOjsq|ugxIaVpP" v1 room) E p1 (av _) o1 (by simp) λz2 ra L2 m p2 o2 h2=>?_;rw[w]at m;have v2:=m.f;refine vI (j:=L.length) (B:=L) H m.e ("~X2FgF?zx3_es;qq<iOiaAhE" v2 v1 room) E p2 (av _) o2 (by simp) λz3 rx L3 U p3 o3 h3=>?_;have v3:=U.f;refine vI (j:=L.length) (B:=L) v U.e ("~LYyrljifLEKD7VrP<|v^U0eIXW8" v2 v1 v3 room) E p3 (av _) o3 (by simp) λp ry L4 f T o4 h4=>?_;refine f0 o4 ?_;refine aP (a:=.p [.j rc,.j ra,.j rx,.j ry]) rfl ?_;have k:=U.d.trans f.d;exact q p rc ra rx ry _ ((((g.trans m).trans U).trans f).mono ("~KJr<ZjsWKisoUg" id)) (bE T (av _)) ((J h1).gr (m.d.trans k)) ((J h2).gr k) (h3.gr f.d) h4
theorem py:∀{s:Sd} {N:Nat},s.Ok->s.hf<=N->jH s N
 |.T,N,ok,Y=>λz L Q e I room E q=>by
  obtain⟨n,rfl⟩:=eW (show 4<=N from Y);exact sO (n:=n) I room E nv (.u "T") e (.inl ⟨rfl,rfl⟩) q
 |.k l,N,ok,Y=>λz L Q e I room E q=>by
  obtain⟨n,rfl⟩:=eW (show 4<=N from Y);exact sO (n:=n) I room E ok (.u "k") l (.inr (.inl ⟨rfl,rfl⟩)) q
 |.b l,N,ok,Y=>λz L Q e I room E q=>by
  obtain⟨n,rfl⟩:=eW (show 4<=N from Y);exact sO (n:=n) I room E ok (.u "|") (e++l) (.inr (.inr ⟨rfl,rfl⟩)) q
 |.q c a x y d,N,ok,Y=>λz L Q e I room E q=>by
  have Y:x.hf+y.hf+6<=N:=Y;obtain⟨n,rfl⟩:=eW (k:=6) (N:=N) ("~776Ju_mAmoj" Y);have H:jH x (n+4):=py ok.2.2.1 ("~Gg2_N2^y5Ts_aU" Y);have v:jH y (n+4):=py ok.2.2.2.1 ("~Gg2_N2^y5Tsm|j" Y);have room:z.sz+(x.sc+y.sc+3) < 4194304:=room;have q:∀z' (r:Nat) L',Gr (x.sc+y.sc+3) z z'->L <+:L'->d9 z' (.q c a x y d) e r->Q (.j r) (st z' L'):=q;show ar (ai (n+4+2) 61 [.o 12,.p [.u "q",ci c a x y d],.r (aa e)] (st z L)) Q;refine az (ρ:=[some (.o 12),some (.p [.u "q",ci c a x y d]),some (.r (aa e)),none,none]) rfl ?_;refine zR (d:=d) H v ok.1 ok.2.1 ("~bOjFz4YQ" id) I ("~|PkcqHTLV0Bn5Rf91" room) E λu rc ra rx ry L1 U p1 h1 h2 h3 h4=>?_;have:=U.f;refine jt (n:=n+4) (r:=aV rc ra rx ry d) U.e rfl (.inl (.b ..)) ("~;P<9ujEMB=eax_pwzHuTVF" this room) λz2 r j T=>?_;exact q z2 r L1 ((U.trans j).mono ("~KK>3KJtth;d=si" id)) p1 ⟨rc,ra,rx,ry,T,h1.gr j.d,h2.gr j.d,h3.gr j.d,h4.gr j.d⟩
end
abbrev ei(T:Tb):Sd->List Nat->Nat
 |.T,e=>uF T e|.k l,e=>uF T l|.b l,e=>uF T (e++l)|.q c a x y d,e=>eD T (aV (uF T (ax c e)) (uF T (ax a e)) (ei T x e) (ei T y e) d)
abbrev Sd.isQ:Sd->Bool
 |.q ..=>true|.T=>false|.k _=>false|.b _=>false
abbrev cj(T:Tb)(d:Nat)(held i c d_:List Nat)(n s:Nat):List Nat:=
 if be held=true then[eD T (aV (uF T held) (uF T i) n s d)]else
 if i=[13]then[13]else
 if be i=true then[eD T (aV (uF T held) (uF T i) n s d)]else
 if held=[0]/\i≠[0]/\i≠[1]then c++d_ else
 if i=[0]\/i=[1]\/FU held i=true then c else d_
abbrev eP(free:Bool)(c:Option (List Nat))(e:List Nat)(p:Nat):List Nat:=if free&&c.isNone then[p]else e
abbrev aW(T:Tb)(free:Bool):Sd->List Nat->List Nat
 |.T,e=>e|.k l,_=>l|.b l,e=>e++l|.q c a x y d,e=>
  if ax c e=[13]then[13]else
  if d=1/\ax c e=[]then[]else
  if d=1/\2<=(ax c e).length then(ax c e).flatMap λp=>cj T d [p] (ax a (eP free c e p)) (aW T free x (eP free c e p)) (aW T free y (eP free c e p))
   (if free&&x.isQ then uF T (aW T free x (eP free c e p))else ei T x (eP free c e p)) (if free&&y.isQ then uF T (aW T free y (eP free c e p))else ei T y (eP free c e p))
  else cj T d (ax c e) (ax a e) (aW T free x e) (aW T free y e)
   (if free&&x.isQ then uF T (aW T free x e)else ei T x e) (if free&&y.isQ then uF T (aW T free y e)else ei T y e)
abbrev Sd.ac:Sd->Nat
 |.q _ _ x y _=>6*(3+(x.sc+x.ac+1)+(y.sc+y.ac+1)+x.ac+y.ac)|.T=>0|.k _=>0|.b _=>0
abbrev Sd.al:Sd->Nat
 |.q _ _ x y _=>6*(x.al+y.al+1)|.T=>12|.k _=>12|.b _=>12
abbrev Sd.af:Sd->Nat
 |.q _ _ x y _=>x.af+y.af+x.hf+y.hf+8|.T=>4|.k _=>4|.b _=>4
abbrev wS(T:Tb)(free:Bool)(s:Sd)(e:List Nat):Nat:=if free&&s.isQ then uF T (aW T free s e)else ei T s e
def d9.ei(p:z.a <+:T)(u:T.Nodup):∀{e:List Nat} {r:Nat},d9 z s e r->ei T s e=r:=by
 induction s with
 |q c a x y d A U=>
  intro e r h;obtain⟨rc,ra,rx,ry,h1,h2,h3,h4,h5⟩:=h;show eD T (aV (uF T (ax c e)) (uF T (ax a e)) (Mine.Lake.ei T x e) (Mine.Lake.ei T y e) d)=r;rw[kz h2 p u,kz h3 p u,A h4,U h5];exact lR u (cI p h1)
 |_=>exact λh=>kz h p u
def zT(h:¬ 2<=l.length):l=[]\/∃p,l=[p]:=by
 induction l using bo with
 |nil=>exact .inl rfl|cons p l=>
  induction l using bo with
  |nil=>exact .inr ⟨p,rfl⟩|cons _ l=>exact absurd (xg 2 l.length) h
def Tu(h:l.length<=1)(k:x∈l):l=[x]:=by
 rcases zT (Nat.not_le_of_lt (qm h))with e |e
 .rw[e]at k;exact(dW k).elim
 .obtain⟨p,e⟩:=e;rw[e]at k ⊢;rw[aB.mp k]
abbrev cl:Md:=⟨false⟩
inductive l5(z:Z)(h p:Nat):Prop
 |mk (c a x y d:Nat) (lc la:List Nat) (h1:z.a[p]?=some (aV c a x y d)) (h2:29<=p) (h3:At z c lc) (h4:At z a la) (h5:cl.gA lc d) (h6:cl.eG la) (h7:Wf cl z h x) (h8:Wf cl z h y) (h9:d<=1) (pA:be lc=true\/be la=true/\lc≠[13]/\(d=1->lc≠[]))
def l5.gr(q:z.a <+:z'.a)(k:l5 z h p):l5 z' h p:=by
 obtain⟨c,a,x,y,d,lc,la,h1,h2,h3,h4,h5,h6,h7,h8,h9,pA⟩:=k;exact⟨c,a,x,y,d,lc,la,cI q h1,h2,h3.gr q,h4.gr q,h5,h6,h7.gr q,h8.gr q,h9,pA⟩
abbrev ip(z:Z)(b h:Nat)(l:List Nat):Prop:=ct l<=b/\∀p∈l,(p∈aD/\p≠27)\/∃h',h=h'+1/\l5 z h' p
def ip.gr(w:ip z b h l)(q:z.a <+:z'.a):ip z' b h l:=⟨w.1,λp J=>(w.2 p J).imp id λk=>k.imp λQ k=>⟨k.1,k.2.gr q⟩⟩
abbrev No(o:Option (List Nat)):Prop:=∀l,o=some l->27∉l/\l.length<=4
abbrev Sd.eO:Sd->Prop
 |.T=>True|.k l=>27∉l|.b l=>27∉l|.q c a x y d=>No c/\No a/\x.eO/\y.eO
abbrev Sd.Le:Sd->Nat->Prop
 |.q c a x y d,h+1=>x.Le h/\y.Le h|.q c a x y d,0=>False|.T,_=>True|.k _,_=>True|.b _,_=>True
abbrev Ne(e:List Nat):Prop:=27∉e/\e.length<=4
abbrev aQ(g l:List Nat):List Nat:=if 28∈l then ae ((l.filter λt=>t !=28)++g)else l
abbrev dg(g:List Nat):Option (List Nat)->Option (List Nat)
 |none=>none|some l=>some (aQ g l)
abbrev bu(g:List Nat):Sd->Sd
 |.T=>.T|.k l=>.k (aQ g l)|.b l=>.b (aQ g l)|.q c a x y d=>.q (dg g c) (dg g a) (bu g x) (bu g y) d
section
variable{z:Z}{t i N h r d:Nat}{l ls lt S A e held:List Nat}{c a:Option (List Nat)}{x y s:Sd}{T:Tb}{m:Mp}
def zU(I:am z)(C:aO z r (ae l))(U:∀x∈l,x∈aD)(Q:27∉l):Wf cl z h r:=by
 have f:∀x∈ae l,x∈aD:=λx H=>U x (cu H);have Y:27∉ae l:=λe=>Q (cu e)
 induction h using dN with
 |zero=>exact⟨ae l,⟨C,eF _,f⟩,λG=>Y⟩|succ h=>exact⟨ae l,C,eF _,by rw[kC f];exact bb _,λp J=>.inl ⟨f p J,λG e=>Y (e▸J)⟩⟩
def Hl(C:aO z r (ae l))(w:ip z (4 ^ (h+1)) (h+1) l):Wf cl z (h+1) r:=
 ⟨ae l,C,eF _,aL nr w.1,λp J=>(w.2 p (cu J)).imp (λa=>⟨a.1,λQ=>a.2⟩) λq=>by
  obtain⟨h',e,c,a,x,y,d,lc,la,h1,h2,h3,h4,h5,h6,h7,h8,h9,_⟩:=q;rw[kR e];exact⟨c,a,x,y,d,lc,la,h1,h2,h3,h4,h5,h6,h7,h8,h9⟩⟩
def sP(h:ae A=ae B):uF T A=uF T B:=by unfold uF;rw[h]
def fE(I:am z)(Y:τ=0\/τ=1\/τ=13)(h:At z i l):i=τ↔l=[τ]:=by
 have G:aO z τ [τ]:=fq (nd I (by rcases Y with rfl |rfl |rfl <;>decide));exact⟨λe=>by subst e;exact h.c.fun I G,λe=>by subst e;exact sJ I h⟩
def nz(I:am z)(h:At z i l):i=2↔l=[]:=
 ⟨λe=>by subst e;exact h.c.fun I hX,λe=>by
  subst e;rcases h.c.c with⟨_,e⟩ |e |⟨e,_⟩
  .exact e
  .cases e
  .simp at e⟩
def pC(h:At z i l)(p:z.a <+:T)(u:T.Nodup):uF T l=i:=kz (by rw[h.f];exact h.c) p u
def vJ{dP:Nat}(I:am z)(p:z.a <+:T)(u:T.Nodup)(L:At z dP held)(E:dc T m ra=U)(G:At z U Y)
  (H:ae (B m rx)=ae bx) (v:ae (B m ry)=ae d_) (lx:pf T B m rx=n) (ly:pf T B m ry=C):
  ae (cA T B m dP ra rx ry d)=ae (cj T d held Y bx d_ n C):=by
 have hw:wF T B m dP ra rx ry d=eD T (aV (uF T held) (uF T Y) n C d):=by
  unfold wF;rw[E,lx,ly,pC L p u,pC G p u]
 unfold cA cj;rw[L.c.bR I p,E,G.c.bR I p,hw];by_cases o:be held=true
 .rw[ah o,ah o]
 rw[ab o,ab o];by_cases w:Y=[13]
 .rw[ah ((fE I (.inr (.inr rfl)) G).mpr w),ah w]
 rw[ab λe=>w ((fE I (.inr (.inr rfl)) G).mp e),ab w];unfold jv;by_cases J:be Y=true
 .rw[ah J,ah J,ah rfl]
 rw[ab J,ab J];have Q:=fE I (.inl rfl) G;have e1:=fE I (.inr (.inl rfl)) G;have k:=fE I (.inl rfl) L;by_cases g:U=0\/U=1
 .rw[ah g,ab (by decide),ah rfl,ab (λq=>g.elim (λh=>q.2.1 (Q.mp h)) λh=>q.2.2 (e1.mp h)),ah (g.elim (λh=>.inl (Q.mp h)) λh=>.inr (.inl (e1.mp h)))]
  exact H
 rw[ab g];by_cases j:dP=0
 .rw[ah j,ab (by decide),ab (by decide),ah rfl,ah ⟨k.mp j,λq=>g (.inl (Q.mpr q)),λq=>g (.inr (e1.mpr q))⟩]
  rw[<-gy,H,gy,<-eE,v,eE]
 rw[ab j];rw[ab (λq:held=[0]/\Y≠[0]/\Y≠[1]=>j (k.mpr q.1))];by_cases f:FU held Y=true
 .rw[ah f,ab (by decide),ah rfl,ah (.inr (.inr f))];exact H
 .rw[ab f,ab (by decide),ab (by decide),ab (by decide),ab (λq=>q.elim (λq=>g (.inl (Q.mpr q))) λq=>q.elim (λq=>g (.inr (e1.mpr q))) f)];exact v
theorem zV(I:am z)(j:At z i l)(p:z.a <+:T):∀h,aK h T none i=l
 |0=>by
  show(bi T i).flatMap (λp=>bi T p)=l;rw[j.c.bR I p];exact sh λx H=>(eH I (j.d x H)).bR I p
 |h+1=>by
  obtain⟨k,rest,C,U⟩:=sj I j;have v:=cI p C;have:ii T i=none:=Gx v U;unfold aK;rw[this];exact j.c.bR I p
def Kl.at(h:Kl l)(C:aO z r (ae l)):At z r l:=by
 rw[h.1]at C;exact⟨C,h.1,h.aD⟩
end
abbrev nC(u:Nat):Prop:=u=0\/u=13\/u=1
abbrev OT(t:Nat)(l:List Nat):Prop:=∀u∈l,nC u->u=t
abbrev gv:List Nat:=[3,4,5,8,9]
abbrev FF(T:Tb)(k g p:Nat):List Nat:=gb k T (2,g) p
structure SC(z:Z)(T:Tb)(g:Nat)(G:List Nat):Prop where
 a:am z
 b:z.a <+:T
 d:T.Nodup
 f:∀l,(∀x∈l,x∈aD)->l.length<=20->∃i,At z i (ae l)
 e:At z g G
 c:∀x∈G,x∈gv
 h:G.length<=6
abbrev fF(o:Option (List Nat)):Prop:=∀l,o=some l->28∉l
abbrev Sd.Nt:Sd->Prop
 |.T=>True|.k l=>∀x∈l,x∈cg|.b l=>∀x∈l,x∈cg|.q c a x y d=>fF c/\x.Nt/\y.Nt
abbrev Sd.dy:Sd->Prop
 |.T=>True|.k l=>28∉l|.b l=>28∉l|.q c a x y d=>fF c/\fF a/\x.dy/\y.dy
abbrev Sd.iq:Sd->Prop
 |.q c a x y d=>c≠some [13]/\a≠some [13]/\x.iq/\y.iq|.T=>True|.k _=>True|.b _=>True
section
variable{z:Z}{t i N h r k g d:Nat}{l ls lt S A e held G X Y:List Nat}{c a:Option (List Nat)}{x y s:Sd}{T:Tb}{m:Mp}
def l8(I:am z)(L:q∈aD):At z q [q]:=⟨eH I L,cX,λx H=>by rw[aB]at H;subst H;exact L⟩
def vK(U:nC t)(hm:t∈S)(ho:OT t S):ae S=[t]:=by
 unfold ae;by_cases f:0∈S
 .rw[ah f,ho 0 f (.inl rfl)]
 rw[ab f];by_cases w:13∈S
 .rw[ah w,ho 13 w (.inr (.inl rfl))]
 rw[ab w];by_cases h1:1∈S
 .rw[ah h1,ho 1 h1 (.inr (.inr rfl))]
 rcases U with rfl |rfl |rfl
 .exact absurd hm f
 .exact absurd hm w
 .exact absurd hm h1
def Tv(n:ce (A++D))(h:∀d∈D,aY A d=true):ae (A++D)=ae A:=by
 have U:ce A:=⟨λq=>n.1 (dz _ q),λq=>n.2.1 (dz _ q),λq=>n.2.2 (dz _ q)⟩;have Q:∀x,aY (A++D) x=true->aY A x=true:=λx q=>by
  rcases ig q with⟨h1,h2⟩ |⟨h1,h2⟩
  .rcases aZ.mp h2 with h3 |h3
   .unfold aY;rw[bj.mpr h3,show(wh x !=2)=true by simpa using h1];rfl
   .have:=h _ h3;rw[FW x h1]at this;cases this
  .subst h1
   rcases aZ.mp h2 with h3 |h3
   .unfold aY;rw[bj.mpr h3];simp
   .rcases ig (h _ h3)with⟨h4,h5⟩ |⟨h4,_⟩
    .unfold aY;rw[show wh 26=6 from rfl,bj.mpr (show 6∈A from h5)];rfl
    .cases h4
 rw[lP n,lP U];refine m8 (km.filter _) (km.filter _) (kl.filter _) (kl.filter _) λx=>?_;rw[c8,c8,iV,iV];simp only[qv];refine⟨λ⟨h1,h2⟩=>?_,λ⟨h1,h2⟩=>⟨dz _ h1,?_⟩⟩
 .have h3:aY A x=false:=by
   generalize q:aY A x=E
   induction E using aS with
   |false=>rfl|true=>rw[vj (λy v=>dz _ v) q]at h2;cases h2
  rcases aZ.mp h1 with q |q
  .exact⟨q,h3⟩
  .rw[h x q]at h3;cases h3
 .generalize q:aY (A++D) x=E
  induction E using aS with
  |false=>rfl|true=>rw[Q x q]at h2;cases h2
def X5:∀x∈aD,x≠28->wh x≠28:=by decide
def Hm{x:Nat}(q:aY X x=true):x∈aD/\x≠28/\¬ nC x:=by
 have:∀x∈[16,17,22,26,18,19,20,21],x∈aD/\x≠28/\¬ (x=0\/x=13\/x=1):=by decide
 refine this x ?_;rcases ig q with⟨h1,_⟩ |⟨h1,_⟩
 .unfold wh at h1
  split at h1
  .rename_i h;simp only[bH,dW,kW]at h ⊢;lia
  .split at h1
   .rename_i h;simp only[bH,dW,kW]at h ⊢;lia
   .exact absurd rfl h1
 .subst h1;decide
def zW{F:Nat->List Nat}(o:∀p∈aD,p≠28->F p=[p])(ot:OT t (X.flatMap F)):ae ((ae X).flatMap F)=ae (X.flatMap F):=by
 have C:∀u,nC u->u∈aD/\u≠28:=λu Q=>by rcases Q with rfl |rfl |rfl <;>decide
 have self:∀p∈X,p∈aD->p≠28->p∈X.flatMap F:=λp J h1 h2=>fu.mpr ⟨p,J,by rw[o p h1 h2];simp⟩;by_cases Q:∃u∈X,nC u
 .obtain⟨u,Q,U⟩:=Q
  have f:∀v∈X,nC v->v=t:=λv B L=>ot v (self v B (C v L).1 (C v L).2) L;have e:=f u Q U;subst e;rw[vK U Q f,vK U (self u Q (C u U).1 (C u U).2) ot];show ae (F u++[])=_;rw[o u (C u U).1 (C u U).2,b_,cX]
 have nX:ce X:=⟨λq=>Q ⟨0,q,.inl rfl⟩,λq=>Q ⟨13,q,.inr (.inl rfl)⟩,λq=>Q ⟨1,q,.inr (.inr rfl)⟩⟩;have j:∀x,x∈X.flatMap F↔x∈(ae X).flatMap F++X.filter (aY X):=λx=>by
  rw[aZ,fu,fu,c8];constructor
  .rintro⟨p,J,H⟩
   generalize q:aY X p=E
   induction E using aS with
   |false=>exact .inl ⟨p,(fD nX).mpr ⟨J,q⟩,H⟩|true=>
    obtain⟨h1,h2,_⟩:=Hm q;rw[o p h1 h2,aB]at H;subst H;exact .inr ⟨J,q⟩
  .rintro(⟨p,J,H⟩ |⟨J,q⟩)
   .exact⟨p,cu J,H⟩
   .obtain⟨h1,h2,_⟩:=Hm q
    exact⟨x,J,by rw[o x h1 h2];simp⟩
 by_cases hB:∃u∈X.flatMap F,nC u
 .obtain⟨u,I,U⟩:=hB
  have e:=ot u I U;subst e;have hm:u∈(ae X).flatMap F:=by
   rcases aZ.mp ((j u).mp I)with q |q
   .exact q
   .exact absurd ⟨u,(c8.mp q).1,U⟩ Q
  rw[vK U I ot,vK U hm λv B=>ot v ((j v).mpr (dz _ B))]
 have nB:ce (X.flatMap F):=⟨λq=>hB ⟨0,q,.inl rfl⟩,λq=>hB ⟨13,q,.inr (.inl rfl)⟩,λq=>hB ⟨1,q,.inr (.inr rfl)⟩⟩;rw[rL j];have n:∀w,w∈ae X->w∈aD->w≠28->w∈(ae X).flatMap F:=λw h1 h2 h3=>fu.mpr ⟨w,h1,by rw[o w h2 h3];simp⟩;have k6:(6:Nat)∈aD/\(6:Nat)≠28:=by decide
 have k7:(7:Nat)∈aD/\(7:Nat)≠28:=by decide
 have Hn:(16:Nat)∈aD/\(16:Nat)≠28:=by decide
 refine(Tv ⟨λq=>nB.1 ((j _).mpr q),λq=>nB.2.1 ((j _).mpr q),λq=>nB.2.2 ((j _).mpr q)⟩ λd hd=>?_).symm;have Ho:∀w,wh w≠2->wh w∈aD/\wh w≠28:=λw hw=>by
  rcases ky w with q |q |q
  .exact absurd q hw
  .rw[q];exact k6
  .rw[q];exact k7
 rcases ig (c8.mp hd).2 with⟨h1,h2⟩ |⟨h1,h2⟩
 .have:=n _ (o9 nX h1 h2) (Ho d h1).1 (Ho d h1).2
  unfold aY;rw[bj.mpr this,show(wh d !=2)=true by simpa using h1];rfl
 .subst h1
  generalize q:aY X 16=E
  induction E using aS with
  |false=>
   have:=n 16 ((fD nX).mpr ⟨h2,q⟩) Hn.1 Hn.2;unfold aY;rw[bj.mpr this];simp
  |true=>
   rcases ig q with⟨h3,h4⟩ |⟨h3,_⟩
   .have:=n 6 (o9 nX h3 h4) k6.1 k6.2
    unfold aY;rw[show wh 26=6 from rfl,bj.mpr this];rfl
   .cases h3
end
section
variable{z z2:Z}{t i N h r k g d:Nat}{l ls lt S A e held G X Y:List Nat}{c a:Option (List Nat)}{x y s:Sd}{T:Tb}{m:Mp}
def jI:∀x∈gv,x∈aD/\x≠28/\x≠27/\wh x=2/\x≠26/\x≠6/\x≠7/\x≠16/\x≠13/\x≠0/\x≠1/\x∈cg:=by decide
def SC.aD(S:SC z T g G):∀x∈G,x∈aD:=λx H=>(jI x (S.c x H)).1
def SC.one(S:SC z T g G)(J:p∈G):SC z T p [p]:=⟨S.a,S.b,S.d,S.f,l8 S.a (S.aD p J),λx H=>by rw[aB]at H;subst H;exact S.c x J,by simp⟩
def pD(S:SC z T g G)(J:p∈aD):FF T k g p=if p=28 then G else[p]:=by
 unfold FF gb;rw[zt S.a S.b J];show Mine.Lake.bi T (if p=28 then g else p)=_;by_cases h:p=28
 .rw[ah h,ah h,S.e.c.bR S.a S.b]
 .rw[ab h,ab h,(eH S.a J).bR S.a S.b]
def Tw(S:SC z T g G)(j:∀x∈Y,x∈aD):Y.flatMap (FF T k g)=c6 (some (2,g)) G Y:=i4 λx H=>pD S (j x H)
def Tx(S:SC z T g G)(j:At z r Y):aK k T (some (2,g)) r=c6 (some (2,g)) G Y:=by
 rw[sk S.a j S.b,kB S.a j S.e S.b]
def sQ{x:Nat}:x∈c6 (some (2,g)) G Y↔(x∈Y/\x≠28)\/(28∈Y/\x∈G):=by
 show x∈Y.flatMap (λp=>if p=28 then G else[p])↔_;rw[fu];constructor
 .rintro⟨p,J,H⟩
  split at H
  .rename_i h;subst h;exact .inr ⟨J,H⟩
  .rename_i h;rw[aB]at H;subst H;exact .inl ⟨J,h⟩
 .rintro(⟨h1,h2⟩ |⟨h1,h2⟩)
  .exact⟨x,h1,by rw[ab h2];simp⟩
  .exact⟨28,h1,by rw[ah rfl];exact h2⟩
def gc(h:28∉Y):aQ G Y=Y:=by unfold aQ;rw[ab h]
def sR:ae (c6 (some (2,g)) G Y)=ae (aQ G Y):=by
 by_cases h:28∈Y
 .unfold aQ;rw[ah h,eF]
  refine rL λx=>?_;rw[sQ,aZ,c8];simp[h]
 .rw[gc h,pr (pid:=2) h]
def X6(C:Kl Y):ae (aQ G Y)=aQ G Y:=by
 unfold aQ;split
 .exact eF _
 .exact C.1
def X7(S:SC z T g G)(C:Kl Y):∀x∈aQ G Y,x∈aD:=λx H=>by
 unfold aQ at H;split at H
 .exact(aZ.mp (cu H)).elim (λh=>C.aD x (c8.mp h).1) (S.aD x)
 .exact C.aD x H
def zX(S:SC z T g G)(C:Kl Y)(j:At z r Y):∃id,dc T (some (2,g)) r=id/\At z id (aQ G Y):=by
 have e:dc T (some (2,g)) r=uF T (aQ G Y):=by
  show uF T (i3 T (some (2,g)) r)=_;rw[kB S.a j S.e S.b];exact sP sR
 by_cases h:28∈Y
 .obtain⟨i,hi⟩:=S.f ((Y.filter λt=>t !=28)++G) (λx H=>(aZ.mp H).elim (λh=>C.aD x (c8.mp h).1) (S.aD x)) (by
   have v1:=jQ (λt=>t !=28) Y;have v2:=C.2.1;have v3:=S.h;rw[ca];exact "~x7?7UBJiLfjQxs6Mp" v2 v3 v1)
  have w:aQ G Y=ae ((Y.filter λt=>t !=28)++G):=by unfold aQ;rw[ah h]
  rw[<-w]at hi;exact⟨i,by rw[e];exact pC hi S.b S.d,hi⟩
 .rw[gc h]at e ⊢
  exact⟨r,by rw[e];exact pC j S.b S.d,j⟩
def zY(S:SC z T g G)(h:OT t Y):OT t (c6 (some (2,g)) G Y):=λu Q U=>by
 rcases sQ.mp Q with⟨h1,_⟩ |⟨_,h1⟩
 .exact h u h1 U
 .have:=jI u (S.c u h1)
  rcases U with q |q |q
  .exact absurd q this.2.2.2.2.2.2.2.2.2.1
  .exact absurd q this.2.2.2.2.2.2.2.2.1
  .exact absurd q this.2.2.2.2.2.2.2.2.2.2.1
def zZ(C:Kl Y)(h:28∈Y):∀x∈Y,x∈cg\/x=27\/x=28:=by
 rcases C.2.2 with e |e |e |e
 .rw[e]at h;simp at h
 .rw[e]at h;simp at h
 .rw[e]at h;simp at h
 .exact e
def vL(S:SC z T g G)(C:Kl Y)(h:aQ G Y=[13]):Y=[13]:=by
 by_cases f:28∈Y
 .have hm:13∈aQ G Y:=by rw[h];simp
  unfold aQ at hm;rw[ah f]at hm;rcases aZ.mp (cu hm)with q |q
  .rcases zZ C f 13 (c8.mp q).1 with q |q |q
   .exact absurd q (by decide)
   .cases q
   .cases q
  .exact absurd rfl (jI 13 (S.c 13 q)).2.2.2.2.2.2.2.2.1
 .rw[gc f]at h;exact h
def vM(S:SC z T g G):aQ G [28]=G:=by
 unfold aQ;rw[ah (by simp)];show ae ([]++G)=G;rw[di,S.e.f]
def z_(h:fF a):dg G a=a:=by
 induction a using aX with
 |none=>rfl|some l=>show some (aQ G l)=_;rw[gc (h l rfl)]
def vN:s.dy->bu G s=s:=by
 induction s with
 |T=>
  intro _;exact rfl
 |k l=>
  intro h;show Sd.k (aQ G l)=_;rw[gc h]
 |b l=>
  intro h;show Sd.b (aQ G l)=_;rw[gc h]
 |q c a x y d Q U=>
  intro h;show Sd.q _ _ _ _ _=_;rw[z_ h.1,z_ h.2.1,Q h.2.2.1,U h.2.2.2]
def nE:ax (dg G a) (aQ G e)=aQ G (ax a e):=by induction a <;>rfl
def Tz:∀{r:List V},eD T r < T.length->T[eD T r]?=some r:=by
 induction T with
 |nil=>
  intro r h;simp[eD]at h
 |cons b T ih=>
  intro r h;rw[show eD (b::T) r=if b=r then 0 else eD T r+1 from rfl]at h ⊢;by_cases e:b=r
  .rw[ah e,e];rfl
  .rw[ab e]at h ⊢
   rw[List.getElem?_cons_succ];exact ih (by simpa using h)
def TA(I:am z)(p:z.a <+:T){c a x y:Nat}:29<=eD T (aV c a x y d):=by
 apply BR;intro U;have Q:29<=z.a.length:=I.f.length_le;have h2:=Tz (T:=T) (r:=aV c a x y d) (gY U (aL Q p.length_le));obtain⟨r',v⟩:∃r,z.a[eD T (aV c a x y d)]?=some r:=⟨_,iC (gY U Q)⟩;have h3:=cI p v;rw[h2]at h3;rw[<-ay h3]at v;have:=(lT I v).1;lia
def TB(h:29<=w):OT t [w]:=λu U Q=>by
 rw[aB]at U;subst U;rcases Q with q |q |q <;>lia
def vO(h1:OT t A)(h2:OT t B):OT t (A++B):=λu U=>(aZ.mp U).elim (h1 u) (h2 u)
def TC{B:Mp->Nat->List Nat}{dP:Nat}(I:am z)(p:z.a <+:T)(H:OT t (B m rx))(v:OT t (B m ry))(w:dc T m ra=13->t=13):OT t (cA T B m dP ra rx ry d):=by
 have U:OT t [wF T B m dP ra rx ry d]:=TB (TA I p);unfold cA
 split
 .exact U
 split
 .rename_i q;rw[w q];intro u Q _;rw[aB]at Q;exact Q
 split
 .exact U
 split
 .exact H
 split
 .exact vO H v
 .exact v
abbrev kJ(s:Sd)(e:List Nat)(z:Z)(r h:Nat):Prop:=∀(z2:Z) (T:Tb) (k g:Nat) (G:List Nat),z.a <+:z2.a->SC z2 T g G->h<=k->s.iq->
 (∀t,OT t e->OT t (aK k T (some (2,g)) r))/\ae (aK k T (some (2,g)) r)=ae (aW T true (bu G s) (aQ G e))
def kJ.gr(q:kJ s e z r h)(p:z.a <+:z'.a):kJ s e z' r h:=λz2 T k g G p2=>q z2 T k g G (p.trans p2)
abbrev fG(T:Tb)(G:List Nat)(a:Option (List Nat))(x y:Sd)(d:Nat)(e held:List Nat):List Nat:=
 if d=1/\held=[28]then G.flatMap λp=>cj T 1 [p] (ax a [p]) (aW T true x [p]) (aW T true y [p]) (wS T true x [p]) (wS T true y [p])
 else cj T d (aQ G held) (ax (dg G a) (aQ G e)) (aW T true (bu G x) (aQ G e)) (aW T true (bu G y) (aQ G e)) (wS T true (bu G x) (aQ G e)) (wS T true (bu G y) (aQ G e))
def Aa(C:Kl e):∃t,OT t e:=by
 have one:∀τ,e=[τ]->∃t,OT t e:=λτ h=>⟨τ,λu U J=>by rw[h,aB]at U;exact U⟩;rcases C.2.2 with h |h |h |h
 .exact one 0 h
 .exact one 1 h
 .exact one 13 h
 .refine⟨0,λu U Q=>?_⟩
  rcases h u U with q |q |q
  .rcases Q with e |e |e <;>subst e <;>exact absurd q (by decide)
  .rcases Q with e |e |e <;>lia
  .rcases Q with e |e |e <;>lia
end
section
variable{z z2:Z}{t i N h r k g w rc ra rx ry d:Nat}{l ls lt A e held G X Y:List Nat}{c a:Option (List Nat)}{x y s:Sd}{T:Tb}{m:Mp}
abbrev CQ(e held:List Nat)(d:Nat)(a:Option (List Nat))(x y:Sd):Prop:=28∈held->(fF a/\x.dy/\y.dy)/\(d=1->e=[28])
def l9(U:27∉Y)(f:28∉Y):be Y=false:=by
 unfold be;rw[eo.mpr λe=>U (bj.mp e),eo.mpr λe=>f (bj.mp e)];rfl
def vP:wS T true s e=uF T (aW T true s e):=by induction s <;>rfl
def TE(S:SC z T g G)(C:z.a[w]?=some (aV rc ra rx ry d))(o:At z rc held)(ha:At z ra (ax a e))(n:Kl held)(kA:Kl (ax a e))(dm:27∉held)(B:d=1->held.length<=1)
  (j:be held=true\/be (ax a e)=true/\held≠[13]/\(d=1->held≠[])) (E:CQ e held d a x y) (sx:kJ x e z rx h) (sy:kJ y e z ry h) (U:h<=k) (cH:a≠some [13]) (I:x.iq) (ny:y.iq):
  (∀t,OT t e->OT t (FF T k g w))/\ae (FF T k g w)=ae (fG T G a x y d e held):=by
 have one:∀{g':Nat} {G':List Nat} (S':SC z T g' G') {pE:Nat} {nF:List Nat},At z pE nF->ae (cA T (aK k T) (some (2,g')) pE ra rx ry d)=ae (cj T d nF (aQ G' (ax a e)) (aW T true (bu G' x) (aQ G' e)) (aW T true (bu G' y) (aQ G' e)) (wS T true (bu G' x) (aQ G' e)) (wS T true (bu G' y) (aQ G' e))):=λ{g' G'} S' {pE nF} Q=>by
  obtain⟨Hp,eA,hA⟩:=zX S' kA ha;have h1:=(sx z T k g' G' (aA _) S' U I).2;have h2:=(sy z T k g' G' (aA _) S' U ny).2;exact vJ S'.a S'.b S'.d Q eA hA h1 h2 (by rw[vP];exact sP h1) (by rw[vP];exact sP h2)
 have ot:∀t,OT t e->∀{g':Nat} {G':List Nat} (S':SC z T g' G') (pE:Nat),OT t (cA T (aK k T) (some (2,g')) pE ra rx ry d):=λt nG {g' G'} S' pE=>by
  refine TC S'.a S'.b ((sx z T k g' G' (aA _) S' U I).1 t nG) ((sy z T k g' G' (aA _) S' U ny).1 t nG) λq=>?_;obtain⟨Hp,eA,hA⟩:=zX S' kA ha;rw[eA]at q;have Hq:=vL S' kA ((fE S'.a (.inr (.inr rfl)) hA).mp q)
  induction a using aX with
  |none=>exact(nG 13 (by rw[show e=[13]from Hq];simp) (.inr (.inl rfl))).symm|some l=>exact absurd (aE some (show l=[13]from Hq)) cH
 obtain⟨dP,eC,hH⟩:=zX S n o;have Hr:d=1->28∈held->held=[28]:=λh1 h2=>by
  exact Tu (B h1) h2
 have TF:aQ G held≠[13]:=λq=>by
  have:=vL S n q;rcases j with h1 |h1
  .rw[this]at h1;cases h1
  .exact h1.2.1 this
 unfold FF gb;rw[zq (cI S.b C)];show(∀t,OT t e->OT t (cK T (aK k T) (some (2,g)) rc ra rx ry d))/\ae (cK T (aK k T) (some (2,g)) rc ra rx ry d)=_;unfold cK;rw[eC,hH.c.bR S.a S.b,ab λq=>TF ((fE S.a (.inr (.inr rfl)) hH).mp q)];by_cases f:d=1/\dP=2
 .rw[ah f]
  have he:=(nz S.a hH).mp f.2;refine⟨λt Y u hu=>(nomatch hu),?_⟩;have sS:28∈held:=by
   apply JV;intro q;rw[gc q]at he;rcases j with h1 |h1
   .rw[he]at h1;cases h1
   .exact h1.2.2 f.1 he
  have e1:=Hr f.1 sS;rw[e1,vM S]at he;unfold fG;rw[ah ⟨f.1,e1⟩,he];rfl
 rw[ab f];have spec:d=1->held=[28]->∀p∈G,cj T d [p] (aQ [p] (ax a e)) (aW T true (bu [p] x) (aQ [p] e)) (aW T true (bu [p] y) (aQ [p] e)) (wS T true (bu [p] x) (aQ [p] e)) (wS T true (bu [p] y) (aQ [p] e))=cj T 1 [p] (ax a [p]) (aW T true x [p]) (aW T true y [p]) (wS T true x [p]) (wS T true y [p]):=λh1 h2 p J=>by
  obtain⟨⟨c1,v,L⟩,c4⟩:=E (by rw[h2];simp);have ee:=c4 h1;have e1:aQ [p] e=[p]:=by rw[ee];exact vM (S.one J)
  have e2:aQ [p] (ax a e)=ax a [p]:=by
   induction a using aX with
   |none=>exact e1|some la=>exact gc (c1 la rfl)
  rw[e1,e2,vN v,vN L,h1]
 by_cases h2:d=1/\2<=(aQ G held).length
 .rw[ah h2]
  have sS:28∈held:=by
   apply JV;intro q;rw[gc q]at h2;have:=B h2.1;lia
  have e1:=Hr h2.1 sS;have e2:aQ G held=G:=by rw[e1];exact vM S
  have H:rc=28:=by rw[e1]at o;exact sJ S.a o
  rw[e2,H];unfold fG;rw[ah ⟨h2.1,e1⟩];refine⟨λt nG u hu=>?_,?_⟩
  .obtain⟨p,J,hu⟩:=fu.mp hu
   exact ot t nG (S.one J) p u hu
  .rw[<-pe,<-pe (λp=>cj T 1 [p] _ _ _ _ _)]
   congr 1
   refine i4 λp J=>?_;rw[<-spec h2.1 e1 p J];exact one (S.one J) (l8 S.a (S.aD p J))
 rw[ab h2];refine⟨λt nG=>ot t nG S dP,?_⟩;unfold fG;by_cases hs:d=1/\held=[28]
 .rw[ah hs]
  have e2:aQ G held=G:=by rw[hs.2];exact vM S
  rw[e2]at h2 hH;rcases zT λq=>h2 ⟨hs.1,q⟩with e |⟨p,e⟩
  .exact absurd ⟨hs.1,(nz S.a hH).mpr e⟩ f
  .have:=one S hH
   rw[e,spec hs.1 hs.2 p (by rw[e];exact br)]at this;rw[this,e];show _=ae (_++[]);rw[b_]
 .rw[ab hs,nE]
  exact one S hH
end
section
variable{z z2:Z}{t i N h r k g w rc ra rx ry d:Nat}{l ls lt A e held G X Y:List Nat}{c a:Option (List Nat)}{x y s:Sd}{T:Tb}{m:Mp}
abbrev nH(s:Sd)(e:List Nat)(z:Z)(l:List Nat)(h:Nat):Prop:=∀(z2:Z) (T:Tb) (k g:Nat) (G:List Nat),z.a <+:z2.a->SC z2 T g G->h<=k+1->
 (s.iq->∀t,OT t e->OT t (l.flatMap (FF T k g)))/\(s.iq\/(28∉e/\s.dy)->ae (l.flatMap (FF T k g))=ae (aW T true (bu G s) (aQ G e)))
def nH.gr(q:nH s e z l h)(p:z.a <+:z'.a):nH s e z' l h:=λz2 T k g G p2=>q z2 T k g G (p.trans p2)
abbrev nJ(e:List Nat)(s:Sd):Prop:=28∉e\/s.dy
abbrev XB(free:Bool)(s:Sd)(e:List Nat)(z:Z)(l:List Nat):Prop:=∀h,free=true->Ne e->s.eO->s.Le h->ip z (4 ^ h) h l/\(s.Nt->nJ e s->nH s e z l h)
def Hs(h:∀x∈l,x∈cg):OT t l:=λu U Q=>by
 rcases Q with q |q |q <;>subst q <;>exact absurd (h _ U) (by decide)
def Ht(S:SC z T g G)(E:Kl e)(s:Sd):∀{Y:List Nat},s.Ok->s.isQ=false->s.Nt->aW T true s e=Y->(∀t,OT t e->OT t (c6 (some (2,g)) G Y))/\ae (c6 (some (2,g)) G Y)=ae (aW T true (bu G s) (aQ G e)):=by
 induction s with
 |T=>
  intro Y ok q nt j;subst j;exact⟨λt Q=>zY S Q,sR⟩
 |k l=>
  intro Y ok q nt j;subst j;exact⟨λt Q=>zY S (Hs nt),sR⟩
 |b l=>
  intro Y ok q nt j;subst j;refine⟨λt Q=>zY S (vO Q (Hs nt)),?_⟩;show ae ((e++l).flatMap _)=ae (aQ G e++aQ G l);rw[qw];show ae (c6 (some (2,g)) G e++c6 (some (2,g)) G l)=_;rw[<-gy,<-eE,sR,sR,gy,eE]
 |q c a x y d L U=>
  intro Y ok q nt j;cases q
def Hu(E:Kl e):s.Ok->s.isQ=false->∀x∈aW T true s e,x∈aD:=by
 induction s with
 |T=>
  intro ok q;exact E.aD
 |k l=>
  intro ok q;exact Kl.aD ok
 |b l=>
  intro ok q;exact λx H=>(aZ.mp H).elim (E.aD x) (Kl.aD ok x)
 |q c a x y d Q U=>
  intro ok q;exact nomatch q
def Ab(E:Kl e)(ok:s.Ok)(q:s.isQ=false)(Q:∀T,aW T true s e=l)(nt:s.Nt):nH s e z l h:=λz2 T k g G p S U=>by
 have U:=Hu (T:=T) E ok q;rw[Q]at U;rw[Tw S U];have:=Ht S E s ok q nt (Q T);exact⟨λJ=>this.1,λJ=>this.2⟩
def Ac(E:Kl e)(ok:s.Ok)(q:s.isQ=false)(L:∀T,aW T true s e=l)(nt:s.Nt)(C:aO z r (ae l)):kJ s e z r h:=λz2 T k g G p S U cH=>by
 have f:=Hu (T:=T) E ok q;rw[L]at f;have j:At z2 r (ae l):=⟨C.gr p,eF _,λx H=>f x (cu H)⟩;rw[Tx S j];obtain⟨h1,h2⟩:=Ht S E s ok q nt (L T);obtain⟨n,o⟩:=Aa E;have e1:ae (c6 (some (2,g)) G (ae l))=ae (c6 (some (2,g)) G l):=zW (t:=n) (F:=λp=>if p=26+2 then G else[p]) (λp Y J=>ab J) (h1 n o);refine⟨λt I u B Q=>?_,e1.trans h2⟩;refine h1 t I u ?_ Q;rcases sQ.mp B with⟨a,b⟩ |⟨a,b⟩
 .exact sQ.mpr (.inl ⟨cu a,b⟩)
 .exact sQ.mpr (.inr ⟨cu a,b⟩)
def TG(E:Kl e)(C:aO z r (ae l))(I:nH s e z l (h+1)):kJ s e z r (h+1):=λz2 T k g G p S U cH=>by
 match k,U with
 |k+1,U=>
  have H:aK (k+1) T (some (2,g)) r=(ae l).flatMap (FF T k g):=by
   unfold aK;rw[(C.gr p).bR S.a S.b];rfl
  rw[H];obtain⟨h1,h2⟩:=I z2 T k g G p S ("~4sjWNk=pWrC=lF6" U);obtain⟨n,o⟩:=Aa E;refine⟨λt B u Q L=>?_,(zW (t:=n) (λp J f=>by rw[pD S J,ab f]) (h1 cH n o)).trans (h2 (.inl cH))⟩;obtain⟨p,J,Q⟩:=fu.mp Q;exact h1 cH t B u (fu.mpr ⟨p,cu J,Q⟩) L
abbrev sT(e:List Nat)(a:Option (List Nat))(x y:Sd):Prop:=28∉e\/(fF a/\x.dy/\y.dy)
abbrev pF(a:Option (List Nat))(x y:Sd):Prop:=a≠some [13]/\x.iq/\y.iq
abbrev TH(a:Option (List Nat))(x y:Sd)(d:Nat)(e held:List Nat)(z:Z)(l:List Nat)(h:Nat):Prop:=∀(z2:Z) (T:Tb) (k g:Nat) (G:List Nat),z.a <+:z2.a->SC z2 T g G->h<=k->
 (pF a x y->∀t,OT t e->OT t (l.flatMap (FF T k g)))/\(pF a x y\/(28∉e/\28∉held/\fF a/\x.dy/\y.dy)->ae (l.flatMap (FF T k g))=ae (fG T G a x y d e held))
abbrev XO(free:Bool)(x y:Sd)(a:Option (List Nat))(d:Nat)(e held:List Nat)(z:Z)(l:List Nat):Prop:=∀h,free=true->Ne e->27∉held->No a->x.eO->y.eO->x.Le h->y.Le h->
 ip z ((if held=[0]then 2 else 1)*4 ^ h) (h+1) l/\(x.Nt->y.Nt->CQ e held d a x y->sT e a x y->TH a x y d e held z l h)
end
section
variable{z z2:Z}{t i N h r k g w rc ra rx ry d:Nat}{l ls lt A e held G X Y:List Nat}{c a:Option (List Nat)}{x y s:Sd}{T:Tb}{m:Mp}
abbrev nK(T:Tb)(c a:Option (List Nat))(x y:Sd)(e:List Nat)(p:Nat):List Nat:=
 cj T 1 [p] (ax a (eP true c e p)) (aW T true x (eP true c e p)) (aW T true y (eP true c e p)) (wS T true x (eP true c e p)) (wS T true y (eP true c e p))
def vQ:aW T true (.q c a x y d) e=if ax c e=[13]then[13]else
  if d=1/\ax c e=[]then[]else
  if d=1/\2<=(ax c e).length then(ax c e).flatMap λp=>cj T d [p] (ax a (eP true c e p)) (aW T true x (eP true c e p)) (aW T true y (eP true c e p)) (wS T true x (eP true c e p)) (wS T true y (eP true c e p))
  else cj T d (ax c e) (ax a e) (aW T true x e) (aW T true y e) (wS T true x e) (wS T true y e):=rfl
def Hv(h:ax c e=[p]):eP true c e p=e:=by
 induction c using aX with
 |none=>exact h.symm|some l=>rfl
def Ad(U:ax c e≠[13]):aW T true (.q c a x y 1) e=(ax c e).flatMap (nK T c a x y e):=by
 rw[vQ,ab U]
 match Q:ax c e with
 |[]=>rw[ah ⟨rfl,rfl⟩];rfl|[p]=>
  rw[ab (λq=>nomatch q.2),ab (λq=>by have:=q.2;simp at this)];show _=nK T c a x y e p++[];unfold nK;rw[Hv Q,b_]
 |p::p2::r=>
  rw[ab (λq=>nomatch q.2),ah ⟨rfl,by simp⟩];rfl
def TJ(S:SC z T g G)(C:Kl Y)(f:28∈Y):ce ((Y.filter λt=>t !=28)++G)/\∀x∈(Y.filter λt=>t !=28)++G,aY ((Y.filter λt=>t !=28)++G) x=false:=by
 have k:=zZ C f;have Q:ce Y:=by
  refine⟨λq=>?_,λq=>?_,λq=>?_⟩ <;>rcases k _ q with q |q |q
  all_goals first |exact absurd q (by decide) |cases q
 have L:∀u,u=0\/u=13\/u=1->u∉G:=λu I q=>by
  have:=jI u (S.c u q);rcases I with e |e |e
  .exact this.2.2.2.2.2.2.2.2.2.1 e
  .exact this.2.2.2.2.2.2.2.2.1 e
  .exact this.2.2.2.2.2.2.2.2.2.2.1 e
 have nt:ce ((Y.filter λt=>t !=28)++G):=by
  refine⟨λq=>?_,λq=>?_,λq=>?_⟩ <;>rcases aZ.mp q with q |q
  .exact Q.1 (c8.mp q).1
  .exact L 0 (.inl rfl) q
  .exact Q.2.1 (c8.mp q).1
  .exact L 13 (.inr (.inl rfl)) q
  .exact Q.2.2 (c8.mp q).1
  .exact L 1 (.inr (.inr rfl)) q
 refine⟨nt,λx H=>?_⟩;generalize q:aY ((Y.filter λt=>t !=28)++G) x=E
 induction E using aS with
 |false=>rfl|true=>
  exfalso;have U:wh x≠2->wh x∉G:=λh1 h2=>by
   have:=jI _ (S.c _ h2);rcases ky x with e |e |e
   .exact h1 e
   .exact this.2.2.2.2.2.1 e
   .exact this.2.2.2.2.2.2.1 e
  have n:∀x∈Y,aY Y x=false:=λx H=>by
   have:=(fD Q).mp (by rw[C.1];exact H:x∈ae Y);exact this.2
  rcases aZ.mp H with h |h
  .have j:=n x (c8.mp h).1
   rcases ig q with⟨h1,h2⟩ |⟨h1,h2⟩
   .rcases aZ.mp h2 with h3 |h3
    .unfold aY at j
     rw[bj.mpr (c8.mp h3).1,show(wh x !=2)=true by simpa using h1]at j;cases j
    .exact U h1 h3
   .subst h1
    rcases aZ.mp h2 with h3 |h3
    .unfold aY at j
     rw[bj.mpr (c8.mp h3).1]at j;simp at j
    .exact(jI 16 (S.c 16 h3)).2.2.2.2.2.2.2.1 rfl
  .have J:=jI x (S.c x h)
   rcases ig q with⟨h1,_⟩ |⟨h1,_⟩
   .exact h1 J.2.2.2.1
   .exact J.2.2.2.2.1 h1
def Ae(S:SC z T g G)(C:Kl Y){x:Nat}:x∈aQ G Y↔(x∈Y/\x≠28)\/(28∈Y/\x∈G):=by
 by_cases f:28∈Y
 .obtain⟨nt,U⟩:=TJ S C f
  unfold aQ;rw[ah f,fD nt];constructor
  .rintro⟨h1,_⟩
   exact(aZ.mp h1).imp (λh=>by rw[c8]at h;simpa using h) λh=>⟨f,h⟩
  .intro q
   have:x∈(Y.filter λt=>t !=28)++G:=by
    rw[aZ,c8];exact q.imp (λh=>by simpa using h) λh=>h.2
   exact⟨this,U x this⟩
 .rw[gc f]
  exact⟨λh=>.inl ⟨h,λe=>f (e▸h)⟩,λh=>h.elim (λh=>h.1) λh=>absurd h.1 f⟩
def Af(S:SC z T g G)(n:Kl (ax c e))(E:ax c e≠[13])(C:28∈ax c e->(fF a/\x.dy/\y.dy)/\c=none):
  ae ((ax c e).flatMap λp=>fG T G a x y 1 (eP true c e p) [p])=ae (aW T true (bu G (.q c a x y 1)) (aQ G e)):=by
 show _=ae (aW T true (.q (dg G c) (dg G a) (bu G x) (bu G y) 1) (aQ G e));have I:ax (dg G c) (aQ G e)≠[13]:=by rw[nE];exact λq=>E (vL S n q)
 rw[Ad I,nE];have one:∀p∈ax c e,p≠28->fG T G a x y 1 (eP true c e p) [p]=nK T (dg G c) (dg G a) (bu G x) (bu G y) (aQ G e) p:=λp J h=>by
  have Q:28∉[p]:=λq=>h (aB.mp q).symm;have e1:aQ G (eP true c e p)=eP true (dg G c) (aQ G e) p:=by
   induction c using aX with
   |none=>exact gc Q|some l=>rfl
  unfold fG nK;rw[ab (λq=>h (by simpa using q.2)),gc Q,e1]
 have j:28∈ax c e->fG T G a x y 1 (eP true c e 28) [28]=G.flatMap (nK T (dg G c) (dg G a) (bu G x) (bu G y) (aQ G e)):=λh=>by
  obtain⟨⟨H,B,f⟩,o⟩:=C h;subst o;unfold fG;rw[ah ⟨rfl,rfl⟩];refine i4 λp J=>?_;unfold nK;rw[z_ H,vN B,vN f];rfl
 refine rL λu=>?_;rw[fu,fu];constructor
 .rintro⟨p,J,L⟩
  by_cases h:p=28
  .subst h
   rw[j J]at L;obtain⟨U,Q,L⟩:=fu.mp L;exact⟨U,(Ae S n).mpr (.inr ⟨J,Q⟩),L⟩
  .rw[one p J h]at L
   exact⟨p,(Ae S n).mpr (.inl ⟨J,h⟩),L⟩
 .rintro⟨p,J,L⟩
  rcases(Ae S n).mp J with⟨h1,h2⟩ |⟨h1,h2⟩
  .exact⟨p,h1,by rw[one p h1 h2];exact L⟩
  .exact⟨28,h1,by rw[j h1];exact fu.mpr ⟨p,h2,L⟩⟩
def TK(S:SC z T g G)(n:Kl (ax c e))(Q:ax c e≠[13]):fG T G a x y 0 e (ax c e)=aW T true (bu G (.q c a x y 0)) (aQ G e):=by
 have U:ax (dg G c) (aQ G e)≠[13]:=by rw[nE];exact λq=>Q (vL S n q)
 show _=aW T true (.q (dg G c) (dg G a) (bu G x) (bu G y) 0) (aQ G e);rw[vQ,ab U,ab (λq=>nomatch q.1),ab (λq=>nomatch q.1),nE];unfold fG;rw[ab (λq=>nomatch q.1)]
def vR(j:28∉held)(U:28∉ax a e):fG T G a x y d e held=cj T d held (ax a e) (aW T true (bu G x) (aQ G e)) (aW T true (bu G y) (aQ G e)) (wS T true (bu G x) (aQ G e)) (wS T true (bu G y) (aQ G e)):=by
 unfold fG;rw[ab (λq=>j (by rw[q.2];simp)),nE,gc j,gc U]
end
structure ir(z:Z)(val:Tb->List Nat)(b:Nat)(X:Z->List Nat->Prop)(l:List Nat):Prop where
 d:∀p∈l,b4 z p
 f:l.length<=b
 a:∀T,z.a <+:T->T.Nodup->val T=l
 c:X z l
section
variable{C:CT}{z:Z}{L:List O}{n t i N h d:Nat}{Q:V->St->Prop}{l ls lt S A e held:List Nat}{σ:St}{c a:Option (List Nat)}{x y s:Sd}{free:Bool}
abbrev sU(s:Sd)(free:Bool)(N:Nat):Prop:=∀(z:Z) (L:List O) (Q:V->St->Prop) (e:List Nat),am z->z.sz+s.ac < 4194304->Kl e->
 (∀z' l L',Gr s.ac z z'->L <+:L'->ir z' (λT=>aW T free s e) s.al (XB free s e) l->Q (.r (aa l)) (st z' L'))->ar (ai N 67 [.o 12,dx s,.r (aa e),.w free] (st z L)) Q
abbrev pG(c a:Option (List Nat))(x y:Sd)(d:Nat)(free:Bool)(N:Nat):Prop:=∀(z:Z) (L:List O) (Q:V->St->Prop) (e:List Nat),am z->z.sz+(Sd.q c a x y d).ac < 4194304->Kl e->
 (∀z' l L',Gr (Sd.q c a x y d).ac z z'->L <+:L'->ir z' (λT=>aW T free (.q c a x y d) e) (Sd.q c a x y d).al (XB free (.q c a x y d) e) l->Q (.r (aa l)) (st z' L'))->ar (ai N 65 [.o 12,ci c a x y d,.r (aa e),.w free] (st z L)) Q
abbrev nL(s:Sd)(free:Bool)(N:Nat):Prop:=jH s N/\∀c a x y d,s=.q c a x y d->pG c a x y d free N
def Ag(E:Kl e)(U:Kl l)(v:V)(m:List Nat)(B:(v=.u "T" /\m=e)\/(v=.u "k" /\m=l)\/(v=.u "|" /\m=e++l))(q:∀L',L <+:L'->Q (.r (aa m)) (st z L')):ar (ai (n+1) 67 [.o 12,.p [v,.r (aa l)],.r (aa e),.w free] (st z L)) Q:=by
 have J:=E.2.1;have Y:=U.2.1;refine az (ρ:=[some (.o 12),some (.p [v,.r (aa l)]),some (.r (aa e)),some (.w free),none,none]) rfl ?_;have p1:L <+:(L++[O.b]).set L.length (pt (.r (aa e)) (.r (aa l)) (.r (aa (e++l)))):=bE bp (av _);have H:=Hk (z:=z) (aT (o':=pt (.r (aa e)) (.r (aa l)) (.r (aa (e++l)))) (bk (L:=L) (o:=O.b)));rcases B with⟨rfl,rfl⟩ |⟨rfl,rfl⟩ |⟨rfl,rfl⟩
 ·
  refine bY ?_;refine ag (jG ("~5q4SFGJ?eKsp|" J Y)) ?_;refine pu bk ?_;refine ag H.1 ?_;exact q _ p1
 ·
  refine bY ?_;refine ag (jG ("~5q4SFGJ?eKsp|" J Y)) ?_;refine pu bk ?_;refine ag H.2.1 ?_;exact q _ p1
 ·
  refine bY ?_;refine ag (jG ("~5q4SFGJ?eKsp|" J Y)) ?_;refine pu bk ?_;refine ag H.2.2 ?_;exact q _ p1
abbrev TL:List CS:=[.h (.z [.d 4,.n .a (.h (.d 6) (.g 0)) (.u "q")]) [.k (.w .a (.d 5) [.j 58 [.h (.d 0) (.u "tab"),.j 65 [.d 0,.h (.d 6) (.g 1),.d 2,.d 4]]])] [.k (.w .a (.d 5) [.j 61 [.d 0,.d 6,.d 2]])]]
def Hw(hs:nL s free (N+3))(ok:s.Ok)(I:am z)(room:z.sz+(s.sc+s.ac+1) < 4194304)(w:s.al < 4194303)(E:Kl e)(o:B <+:L)(G:B.length<=j)(ho:L[j]?=some (.a out))(Y:out.length < 4194304)
  (q:∀z' (r:Nat) L',Gr (s.sc+s.ac+1) z z'->B <+:L'->L'[j]?=some (.a (out++[.j r]))->(∀T,z'.a <+:T->T.Nodup->wS T free s e=r)->(∀h,free=true->Ne e->s.eO->s.Le h->Wf cl z' h r/\(s.Nt->nJ e s->kJ s e z' r h))->K .a [some (.o 12),o1,some (.r (aa e)),f,some (.w free),some (.o (j+14)),some (dx s)] (st z' L')):
  aM (ai (N+3)) TL [some (.o 12),o1,some (.r (aa e)),f,some (.w free),some (.o (j+14)),some (dx s)] K (st z L):=by
 have side:(∀T,wS T free s e=ei T s e)->(∀z' r h,am z'->d9 z' s e r->free=true->Ne e->s.eO->s.Le h->Wf cl z' h r/\(s.Nt->nJ e s->kJ s e z' r h))->aM (ai (N+3)) [.k (.w .a (.d 5) [.j 61 [.d 0,.d 6,.d 2]])] [some (.o 12),o1,some (.r (aa e)),f,some (.w free),some (.o (j+14)),some (dx s)] K (st z L):=λhw hW=>by
  refine ag (ed .a ho (.inl rfl)) ?_;refine hs.1 z L _ e I ("~HM4H0AreDMe1JA" room) E λz' r L' g p h=>?_;refine ec (aC ho p) Y ?_;exact q z' r _ (g.mono ("~9wMjJMVb8" id)) (bE (o.trans p) G) (aT (aC ho p)) (λT m u=>by rw[hw,h.ei m u]) λh' f1 f2 v f4=>hW z' r h' g.e h f1 f2 v f4
 induction s using Mine.Lake.Sd.casesOn with
 |T=>induction free <;>exact side (λT=>rfl) λz' r h U hr Q J Q Q=>⟨zU U hr E.aD J.1,λnt Q=>Ac (s:=.T) E trivial rfl (λT=>rfl) nt hr⟩
 |k l=>induction free <;>exact side (λT=>rfl) λz' r h U hr Q J l_ Q=>⟨zU U hr (Kl.aD ok) l_,λnt Q=>Ac (s:=.k l) E ok rfl (λT=>rfl) nt hr⟩
 |b l=>induction free <;>exact side (λT=>rfl) λz' r h U hr Q J l_ Q=>⟨zU U hr (λx H=>(aZ.mp H).elim (E.aD x) (Kl.aD ok x)) (λH=>(aZ.mp H).elim J.1 l_),λnt Q=>Ac (s:=.b l) E ok rfl (λT=>rfl) nt hr⟩
 |q c a x y d=>
  induction free using aS with
  |false=>exact side (λT=>rfl) λz' r h U hr e=>nomatch e|true=>
   refine ag (ed .a ho (.inl rfl)) ?_;refine hs.2 c a x y d rfl z L _ e I ("~HM4H0AreDNJxDj" room) E λz' l L' g p h=>?_;have v1:=g.f;refine i8 (n:=N) g.e ("~3NqyW?3sP>e8r9|zeUD" v1 room) h.d (by have v2:=h.f;exact "~3NBj_BJJCr?_2MV5ej0" v2 w) λz2 r L2 g2 p2 h2=>?_;refine ec (aC ho (p.trans p2)) Y ?_;exact q z2 r _ ((g.trans g2).mono ("~8FR4oOvAv6;" id)) (bE (o.trans (p.trans p2)) G) (aT (aC ho (p.trans p2))) (λT m u=>by
    show uF T (aW T true (.q c a x y d) e)=r;rw[h.a T (g2.d.trans m) u,kz h2 m u]) λh' f1 f2 v f4=>by
     match h',f4 with
     |Ah+1,f4=>
      obtain⟨w1,w2⟩:=h.c (Ah+1) f1 f2 v f4;exact⟨Hl h2 (w1.gr g2.d),λnt q=>TG E h2 ((w2 nt q).gr g2.d)⟩
def TM{l:List V}(h:L[i]?=some (.a l))(Y:l.length < 4194304):b1 .b (.o (i+14)) (st z L)=some (.p l,st z L):=by
 exact yQ (yR h) Y
def TO(hx:nL x free (N+4))(hy:nL y free (N+4))(Ai:x.Ok)(Aj:y.Ok)(Y:d<=1)(lY:d=1->held.length<=1)(ha:Ko a)(kA:Kl (ax a e))(jD:be held=true\/be (ax a e)=true/\held≠[13]/\(d=1->held≠[]))(I:am z)(room:z.sz+(3+(x.sc+x.ac+1)+(y.sc+y.ac+1)) < 4194304)(vU:x.al < 4194303)(vV:y.al < 4194303)(E:Kl e)(kh:Kl held)
  (q:∀z' (r:Nat) L',Gr (3+(x.sc+x.ac+1)+(y.sc+y.ac+1)) z z'->L <+:L'->b4 z' r->(∀T,z'.a <+:T->T.Nodup->eD T (aV (uF T held) (uF T (ax a e)) (wS T free x e) (wS T free y e) d)=r)->(∀h,free=true->Ne e->27∉held->No a->x.eO->y.eO->x.Le h->y.Le h->l5 z' h r/\(x.Nt->y.Nt->CQ e held d a x y->sT e a x y->∀(z2:Z) (T:Tb) (k g:Nat) (G:List Nat),z'.a <+:z2.a->SC z2 T g G->h<=k->pF a x y->(∀t,OT t e->OT t (FF T k g r))/\ae (FF T k g r)=ae (fG T G a x y d e held)))->Q (.j r) (st z' L')):
  ar (ai (N+5) 68 [.o 12,ci c a x y d,.r (aa e),.r (aa held),.w free] (st z L)) Q:=by
 have w:(oS a).sc=1:=by induction a <;>rfl
 have J:∀{z:Z} {r:Nat} {c:Option (List Nat)},d9 z (oS c) e r->aO z r (ae (ax c e)):=λ{z r c} h=>by induction c <;>exact h
 refine az (ρ:=[some (.o 12),some (ci c a x y d),some (.r (aa e)),some (.r (aa held)),some (.w free),none,none]) rfl ?_;unfold ci;refine i8 (n:=N+1) I ("~fpTTu4|m3kZp66hDcfI=K" room) (kh.part I) (by have:=kh.2.1;exact "~Kxz>GCZ<gXUY" this) λz1 rc L1 g1 p1 h1=>?_;have o:=g1.f;rw[nw a];refine zQ ha ("~bOjFz4YQ" id) z1 L1 _ e g1.e (by rw[w];exact "~7F?IG^CRP|cr1nqu=Z0ZN5sFJm" o room) E λz2 ra L2 g2 p2 h2=>?_;rw[w]at g2;have t3:=g2.f;refine bY ?_;have pB:L <+:L2++[O.a [.j rc,.j ra]]:=(p1.trans p2).trans bp;have hj:L.length<=L2.length:=(p1.trans p2).length_le;refine Hw (j:=L2.length) (B:=L) (N:=N+1) hx Ai g2.e ("~AVb29qc5g;Te6FvHJvixVNL1iyyL^ZAp5" t3 o room) vU E pB hj bk (bP rfl) λz3 rx L3 U p3 o3 h3 w3=>?_;have t4:=U.f;refine Hw (j:=L2.length) (B:=L) (N:=N+1) hy Aj U.e ("~S;k?c3txQhrms4md0i>BVyjdO?uhz<38NHhGvdAy" t4 t3 o room) vV E p3 hj o3 (bP rfl) λz4 ry L4 f p4 o4 h4 w4=>?_;have t5:=f.f;refine aP (TM o4 (bP rfl)) ?_;refine jt (n:=N+3) (r:=aV rc ra rx ry d) f.e rfl (.inl (.b ..)) ("~5Fd^8NgJUG<3kQaE2wPxE9UWvy?3lV>KXktqxK1=<8g9U" t5 t4 t3 o room) λz5 r H hr=>?_;have vW:=(U.d.trans f.d).trans H.d;refine q z5 r L4 (((((g1.trans g2).trans U).trans f).trans H).mono ("~LPq;DWN<46SGn0eVwml^^bJMSO?Cu" id)) p4 (lT H.e hr).2 (λT m u=>?_) λh f1 f2 v f4 f5 f6 f7 f8=>?_
 .rw[kz h1 (g2.d.trans (vW.trans m)) u,kz (J h2) (vW.trans m) u,h3 T (f.d.trans (H.d.trans m)) u,h4 T (H.d.trans m) u]
  exact lR u (cI m hr)
 .have dm:27∉ax a e:=by
   induction a using aX with
   |none=>exact f2.1|some l=>exact(f4 l rfl).1
  have hc:At z5 rc held:=by
   have:=h1.gr (g2.d.trans vW);rw[kh.1]at this;exact⟨this,kh.1,kh.aD⟩
  have Hx:At z5 ra (ax a e):=by
   have:=(J h2).gr vW;rw[kA.1]at this;exact⟨this,kA.1,kA.aD⟩
  obtain⟨TP,TQ⟩:=w3 h f1 f2 f5 f7;obtain⟨TR,TS⟩:=w4 h f1 f2 f6 f8;refine⟨⟨rc,ra,rx,ry,d,held,ax a e,hr,(lT H.e hr).1,hc,Hx,⟨v,lY⟩,λC=>dm,TP.gr (f.d.trans H.d),TR.gr H.d,Y,jD⟩,λnx ny cq fI z2 T k g G p S hk ej=>?_⟩;exact TE (h:=h) S (cI p hr) (hc.gr p) (Hx.gr p) kh kA v lY jD cq ((TQ nx (fI.imp id λq=>q.2.1)).gr ((f.d.trans H.d).trans p)) ((TS ny (fI.imp id λq=>q.2.2)).gr (H.d.trans p)) hk ej.1 ej.2.1 ej.2.2
end
section
variable{C:CT}{z:Z}{L:List O}{n t i N h d:Nat}{Q:V->St->Prop}{l ls lt S A e held:List Nat}{σ:St}{c a:Option (List Nat)}{x y s:Sd}{free:Bool}
theorem TU{k:Nat}:∀l:List Nat,fA (aa l) [.j k]=decide (l=[k])
 |[]=>rfl|[a]=>by
  show((a:Int)==k&&true)=_;rw[Bool.and_true];by_cases h:a=k
  .rw[h];simp
  .rw[cD.mpr (show(a:Int)≠k from "~1_Ou3jsFT<tJ" h),cd];simpa using h
 |a::b::r=>by
  show((a:Int)==k&&false)=_;rw[BW,cd];simp
def sV{k:Nat}:de .a (.r (aa l)) (.r [.j k]) σ=some (.w (decide (l=[k])),σ):=by
 refine dZ (show bq _ (some (fA (aa l) [.j k]))=some (decide (l=[k]))from dY ?_ (aE some (TU l)));show(V.eV (aa l)&&true&&true)=true;rw[rS];rfl
def TV:de .d (.r (aa l)) (.p [.r [.j 0],.r [.j 1]]) σ=some (.w (!(decide (l=[0])||decide (l=[1]))),σ):=by
 have h:∀k:Nat,fA [.j k] (aa l)=decide (l=[k]):=λk=>by
  match l with
  |[]=>rfl|[a]=>
   show((k:Int)==a&&true)=_;rw[Bool.and_true];by_cases h:a=k
   .rw[h];simp
   .rw[cD.mpr (show(k:Int)≠a from "~I|IhKILdV_0?" h),cd];simpa using h
  |a::b::r=>
   show((k:Int)==a&&false)=_;rw[BW,cd];simp
 have Y:decide (fc (.r (aa l))<=8)=true:=by
  have:∀l:List Nat,ji (aa l)<=1:=λl=>by
   induction l with
   |nil=>exact bb _|cons a r ih=>show max 0 (ji (aa r))<=1 <;>exact "~3p5J0RTWal0ML<lxw" qM ih
  rw[xj];show ji (aa l)+1<=8;have:=this l;exact "~PSJdqan|oK" this
 refine dZ (show bq _ ((bq _ (some (fA [.j (0:Nat)] (aa l)||(fA [.j (1:Nat)] (aa l)||false)))).map not)=some (!(decide (l=[0])||decide (l=[1])))from dY rfl ?_);rw[h,h,xe];refine dZ (ds ?_);show(true&&V.eV (aa l)&&decide (fc (.r (aa l))<=8))=true;rw[Y,rS];rfl
abbrev Ak:List CS:=[.h (.j 64 [.d 0,.d 3]) [.d (.r true [.j 68 [.d 0,.d 1,.d 2,.d 3,.d 4]])] [],
 .h (.n .a (.d 7) (.r true [.p 13])) [.d (.r true [.p 13])] [],
 .h (.j 64 [.d 0,.d 7]) [.d (.r true [.j 68 [.d 0,.d 1,.d 2,.d 3,.d 4]])] [],
 .h (.z [.n .a (.d 3) (.r true [.p 0]),.n .d (.d 7) (.t [.r true [.p 0],.r true [.p 1]])]) [.d (.A .a (.j 67 [.d 0,.h (.d 1) (.g 2),.d 2,.d 4]) (.j 67 [.d 0,.h (.d 1) (.g 3),.d 2,.d 4]))] [],
 .d (.j 67 [.d 0,.C (.j 63 [.d 0,.d 3,.d 7]) (.h (.d 1) (.g 2)) (.h (.d 1) (.g 3)),.d 2,.d 4])]
def Kl.op(h:Kl l)(o:be l=false):l=[0]\/l=[1]\/l=[13]\/∀x∈l,x∈cg:=by
 refine h.2.2.imp id λh=>h.imp id λh=>h.imp id λh=>λx H=>?_;unfold be at o;rw[qu]at o;rcases h x H with e |e |e
 .exact e
 .subst e;rw[bj.mpr H]at o;cases o.1
 .subst e;rw[bj.mpr H]at o;cases o.2
def sW(h:∀x∈l,x∈cg):ce l:=⟨λq=>absurd (h _ q) (by decide),λq=>absurd (h _ q) (by decide),λq=>absurd (h _ q) (by decide)⟩
def Kl.co(h:Kl l)(o:be l=false):∀x∈l,x∈Mine.Lake.co:=λx H=>by
 rcases h.op o with e |e |e |e
 .rw[e,aB]at H;subst H;decide
 .rw[e,aB]at H;subst H;decide
 .rw[e,aB]at H;subst H;decide
 .exact Hh x (e x H)
abbrev qc(x y:Sd):Nat:=3+(x.sc+x.ac+1)+(y.sc+y.ac+1)+x.ac+y.ac
theorem Wf.up:∀{h i:Nat},Wf cl z h i->Wf cl z (h+1) i
 |0,i,⟨l,a,b⟩=>⟨l,a.c,a.f,by rw[kC a.d];exact bb _,λp J=>.inl ⟨a.d p J,λe q=>b e (q▸J)⟩⟩
 |h+1,i,⟨l,a,b,c,d⟩=>⟨l,a,b,aL c (Nat.pow_le_pow_right (by decide) (tB _)),λp J=>(d p J).imp id λk=>by
  obtain⟨c,a,x,y,d,lc,la,h1,h2,h3,h4,h5,h6,h7,h8,h9⟩:=k;exact⟨c,a,x,y,d,lc,la,h1,h2,h3,h4,h5,h6,h7.up,h8.up,h9⟩⟩
def ip.up(w:ip z b h l)(T:b<=G):ip z G (h+1) l:=
 ⟨aL w.1 T,λp J=>(w.2 p J).imp id λk=>by
  obtain⟨h',e,c,a,x,y,d,lc,la,h1,h2,h3,h4,h5,h6,h7,h8,h9,pA⟩:=k;rw[e];exact⟨_,rfl,c,a,x,y,d,lc,la,h1,h2,h3,h4,h5,h6,h7.up,h8.up,h9,pA⟩⟩
def Hy:ip z b h [13]:=⟨by rw[show ct [13]=0 from rfl];exact bb _,λp J=>by rw[aB]at J;subst J;exact .inl (by decide)⟩
def ma(h:be l=false):28∉l:=λq=>by
 unfold be at h;rw[bj.mpr q,Bool.or_true]at h;cases h
def vX(S:SC z T g G):[13].flatMap (FF T k g)=[13]:=by
 rw[dM,jh,b_,pD S (by decide)];rfl
def TW:1<=(if held=[0]then 2 else 1)*4 ^ h:=Nat.mul_le_mul (show 1<=(if held=[0]then 2 else 1)by split <;>decide) (tH h 4 (by decide))
def k_one:4 ^ h<=(if held=[0]then 2 else 1)*4 ^ h:=tJ _ (by split <;>decide)
def TX(Ai:x.Ok)(Aj:y.Ok)(Y:d<=1)(lY:d=1->held.length<=1)(TY:held≠[13])(TZ:d=1->held≠[])(Hz:sU x free (N+5))(HA:sU y free (N+5))(wx:nL x free (N+4))(wy:nL y free (N+4))(ha:Ko a)(ka:Kl A)(j:A=ax a e)(I:am z)(room:z.sz+qc x y < 4194304)(vU:x.al < 2000000)(vV:y.al < 2000000)(ke:Kl e)(kh:Kl held)
  (q:∀z' l L',Gr (qc x y) z z'->L <+:L'->ir z' (λT=>cj T d held A (aW T free x e) (aW T free y e) (wS T free x e) (wS T free y e)) (x.al+y.al+1) (XO free x y a d e held) l->Q (.r (aa l)) (st z' L')):
  aM (ai (N+5)) Ak [some (.o 12),some (ci c a x y d),some (.r (aa e)),some (.r (aa held)),some (.w free),o5,o,some (.r (aa A))] (dC Q) (st z L):=by
 unfold qc at room q;have T0:=ka.2.1;have HB:=kh.2.1;have wait:(be held=true\/be A=true)->(∀T bx d_,cj T d held A bx d_ (wS T free x e) (wS T free y e)=[eD T (aV (uF T held) (uF T (ax a e)) (wS T free x e) (wS T free y e) d)])->∀L1,L <+:L1->
   aM (ai (N+5)) [.d (.r true [.j 68 [.d 0,.d 1,.d 2,.d 3,.d 4]])] [some (.o 12),some (ci c a x y d),some (.r (aa e)),some (.r (aa held)),some (.w free),o5,o,some (.r (aa A))] (dC Q) (st z L1):=λhw B L1 p1=>by
  refine TO (N:=N) wx wy Ai Aj Y lY ha (j▸ka) (hw.imp id λh=>⟨j▸h,TY,TZ⟩) I ("~BH?gIEg|00Fp951L8es=hy6nIYjJBvP1Q" room) ("~Cru6>aGZ5;p<IEih" vU) ("~Cru6>aGZ5;p<IEih" vV) ke kh λz' r L' g p J hr hW=>?_;refine q z' [r] L' (g.mono ("~7BgR94twWv3keCu9K2SBlKx;FrOa" id)) (p1.trans p) ⟨λp' pq=>by rw[aB]at pq;subst pq;exact J,by simp,λT m hn=>by rw[B,hr T m hn],λh f1 f2 v f4 f5 f6 f7 f8=>?_⟩;obtain⟨w1,w2⟩:=hW h f1 f2 v f4 f5 f6 f7 f8;refine⟨⟨aL (show ct [r]<=1 from jQ _ _) TW,λp J=>by rw[aB]at J;subst J;exact .inr ⟨h,rfl,w1⟩⟩,λnx ny E fI z2 T k g G p2 S U=>?_⟩;have e1:[r].flatMap (FF T k g)=FF T k g r:=by rw[dM,jh,b_]
  rw[e1];refine⟨λej=>(w2 nx ny E fI z2 T k g G p2 S U ej).1,λq=>?_⟩;rcases q with ej |⟨H,n2,n3,_⟩
  .exact(w2 nx ny E fI z2 T k g G p2 S U ej).2
  .exfalso
   have nA:be A=false:=by
    rw[j]
    induction a using aX with
    |none=>exact l9 f2.1 H|some la=>exact l9 (f4 la rfl).1 (n3 la rfl)
   rcases hw with h1 |h1
   .rw[l9 v n2]at h1;cases h1
   .rw[nA]at h1;cases h1
 unfold Ak;refine He (n:=N+4) ?_;generalize oh:be held=x_
 induction x_ using aS with
 |true=>exact wait (.inl oh) (λT bx d_=>by unfold cj;rw[ah oh,j]) L (aA _)|false=>
  refine ag (sV (k:=13)) ?_;by_cases w:A=[13]
  .rw[b5 w]
   refine q z [13] L ((Gr.refl I).mono (bb _)) (aA _) ⟨λp J=>by rw[aB]at J;subst J;exact nd I (by decide),by simp,λT m hn=>by unfold cj;rw[ab (by rw[oh];decide),ah w],λh f1 f2 v f4 f5 f6 f7 f8=>⟨Hy,λnx ny E fI z2 T k g G p2 S U=>⟨λej t ht=>?_,λC=>?_⟩⟩⟩
   .rw[vX S]
    induction a using aX with
    |none=>intro u hu _;rw[aB]at hu;rw[hu];exact ht 13 (by rw[show e=[13]from j.symm.trans w];simp) (.inr (.inl rfl))|some la=>exact absurd (aE some (show la=[13]from j.symm.trans w)) ej.1
   .rw[vX S,vR (ma oh) (by rw[<-j,w];decide)]
    unfold cj;rw[ab (by rw[oh];decide),ah (j▸w)]
  rw[cd w];refine He (n:=N+4) ?_;generalize oa:be A=x_
  induction x_ using aS with
  |true=>exact wait (.inr oa) (λT bx d_=>by unfold cj;rw[ab (by rw[oh];decide),ab w,ah oa,j]) L (aA _)|false=>
   have B:∀(T:Tb) bx d_ wx wy,cj T d held A bx d_ wx wy=if held=[0]/\A≠[0]/\A≠[1]then bx++d_ else if A=[0]\/A=[1]\/FU held A=true then bx else d_:=λT bx d_ wx wy=>by
    unfold cj;rw[ab (by rw[oh];decide),ab w,ab (by rw[oa];decide)]
   have HC:∀z1 L1 (b:Bool),Gr 0 z z1->L <+:L1->(∀T bx d_ wx wy,cj T d held A bx d_ wx wy=if b=true then bx else d_)->ar (ai (N+5) 67 [.o 12,bif b then dx x else dx y,.r (aa e),.w free] (st z1 L1)) (λx σ=>oD x Q σ):=λz1 L1 b g1 p1 hb=>by
    have:=g1.f
    induction b using aS with
    |true=>exact Hz z1 L1 _ e g1.e ("~66TTAnp^ZLbp4Z6IFZ6tVpSO2=0m" this room) ke λz' l L' g p h=>q z' l L' ((g1.trans g).mono ("~?pizvemsxQoumNdwl3ZB" id)) (p1.trans p) ⟨h.d,by have:=h.f;exact "~Pxy;V6Varp" this,λT m hn=>by rw[hb,ah rfl];exact h.a T m hn,λh' f1 f2 v f4 f5 f6 f7 f8=>⟨((h.c h' f1 f2 f5 f7).1).up k_one,λnx ny E fI z2 T k g G p2 S U=>by
     obtain⟨s1,s2⟩:=(h.c h' f1 f2 f5 f7).2 nx (fI.imp id λq=>q.2.1) z2 T k g G p2 S ("~8RCWsKrG0" U);refine⟨λej=>s1 ej.2.1,λq=>?_⟩;rw[vR (ma oh) (j▸ma oa),<-j,hb,ah rfl];exact s2 (q.imp (λq=>q.2.1) λq=>⟨q.1,q.2.2.2.1⟩)⟩⟩
    |false=>exact HA z1 L1 _ e g1.e ("~66TTAnp^ZLbp4Z6IFZ6tVpSPO^ro" this room) ke λz' l L' g p h=>q z' l L' ((g1.trans g).mono ("~?p;sP_VRY8yp>aHnf;LZ" id)) (p1.trans p) ⟨h.d,by have:=h.f;exact "~Pxy;SgpQeM" this,λT m hn=>by rw[hb,ab (by decide)];exact h.a T m hn,λh' f1 f2 v f4 f5 f6 f7 f8=>⟨((h.c h' f1 f2 f6 f8).1).up k_one,λnx ny E fI z2 T k g G p2 S U=>by
     obtain⟨s1,s2⟩:=(h.c h' f1 f2 f6 f8).2 ny (fI.imp id λq=>q.2.2) z2 T k g G p2 S ("~8RCWsKrG0" U);refine⟨λej=>s1 ej.2.2,λq=>?_⟩;rw[vR (ma oh) (j▸ma oa),<-j,hb,ab (by decide)];exact s2 (q.imp (λq=>q.2.2) λq=>⟨q.1,q.2.2.2.2⟩)⟩⟩
   have last:¬ (held=[0]/\A≠[0]/\A≠[1])->aM (ai (N+5)) [.d (.j 67 [.d 0,.C (.j 63 [.d 0,.d 3,.d 7]) (.h (.d 1) (.g 2)) (.h (.d 1) (.g 3)),.d 2,.d 4])] [some (.o 12),some (ci c a x y d),some (.r (aa e)),some (.r (aa held)),some (.w free),o5,o,some (.r (aa A))] (dC Q) (st z L):=λHD=>by
    have top:A=[0]\/A=[1]->aM (ai (N+5)) [.d (.j 67 [.d 0,.C (.j 63 [.d 0,.d 3,.d 7]) (.h (.d 1) (.g 2)) (.h (.d 1) (.g 3)),.d 2,.d 4])] [some (.o 12),some (ci c a x y d),some (.r (aa e)),some (.r (aa held)),some (.w free),o5,o,some (.r (aa A))] (dC Q) (st z L):=λht=>by
     refine Hi (n:=N+4) ("~W8qSN|Tl" HB) (by rcases ht with h |h;exact .inl h;exact .inr (.inl h)) ?_;exact HC z L true (Gr.refl I) (aA _) λT bx d_ wx wy=>by rw[B,ab HD,ah (by rcases ht with h |h;exact .inl h;exact .inr (.inl h)),ah rfl]
    rcases ka.op oa with e0 |e1 |Al |hs
    .exact top (.inl e0)
    .exact top (.inr e1)
    .exact absurd Al w
    ·
     refine Hj (n:=N+4) I (sW hs) hs (kh.co oh) ("~Kxz>GCZ<gXUY" T0) ("~Kxz>GCZ<gXUY" HB) λz1 L1 g1 p1=>?_;have n0:A≠[0]:=λh=>absurd (hs 0 (by rw[h];simp)) (by decide);have H:A≠[1]:=λh=>absurd (hs 1 (by rw[h];simp)) (by decide);have:=HC z1 L1 (FU held A) g1 p1 λT bx d_ wx wy=>by
      rw[B,ab HD]
      induction FU held A using aS with
      |true=>rw[ah (.inr (.inr rfl)),ah rfl]|false=>rw[ab (by rintro(h |h |h);exact n0 h;exact H h;cases h),ab (by decide)]
     cases hF:FU held A <;>rw[hF]at this <;>exact this
   refine ag (sV (k:=0)) ?_;by_cases f:held=[0]
   .rw[b5 f]
    refine ag TV ?_;by_cases ht:A=[0]\/A=[1]
    .rw[show(decide (A=[0])||decide (A=[1]))=true by simpa using ht]
     exact last λh=>ht.elim h.2.1 h.2.2
    .rw[show(decide (A=[0])||decide (A=[1]))=false by simpa using ht]
     have HE:held=[0]/\A≠[0]/\A≠[1]:=⟨f,λh=>ht (.inl h),λh=>ht (.inr h)⟩;refine Hz z L _ e I ("~Y|UYc_h4mIxkb>GhPv_B_hb" room) ke λz1 l1 L1 g1 p1 a1=>?_;have:=g1.f;refine HA z1 L1 _ e g1.e ("~LdvLiz_pMiXo4dBkMM<<74>bNP;" this room) ke λz2 l2 L2 g2 p2 a2=>?_;have h1:=a1.f;have h2:=a2.f;refine ag (jG ("~7DZEptCP^QqK=2e0_ZP9naRUQP" h1 h2 vU vV)) ?_;refine q z2 (l1++l2) L2 ((g1.trans g2).mono ("~wqH=c5Ez^Scvv7znLGX" id)) (p1.trans p2) ⟨λp J=>(aZ.mp J).elim (λh=>(a1.d p h).gr g2.d) (a2.d p),by rw[ca];exact "~GHnEFa^FZtgNLZ" h1 h2,λT m hn=>?_,λh' f1 f2 v f4 f5 f6 f7 f8=>?_⟩
     .rw[B,ah HE,a1.a T (g2.d.trans m) hn,a2.a T m hn]
     .obtain⟨u1,v1⟩:=a1.c h' f1 f2 f5 f7
      obtain⟨u2,v2⟩:=a2.c h' f1 f2 f6 f8;have w1:=(u1.gr g2.d).up (av _);have w2:=u2.up (av _);refine⟨⟨?_,λp J=>(aZ.mp J).elim (w1.2 p) (w2.2 p)⟩,λnx ny E fI z3 T k g G p3 S U=>?_⟩
      .rw[ah f,nq]
       have t1:=w1.1;have t2:=w2.1;exact "~KT^O0VuYxCjW" t1 t2
      .obtain⟨s1,s2⟩:=v1 nx (fI.imp id λq=>q.2.1) z3 T k g G (g2.d.trans p3) S ("~8RCWsKrG0" U)
       obtain⟨s3,s4⟩:=v2 ny (fI.imp id λq=>q.2.2) z3 T k g G p3 S ("~8RCWsKrG0" U);rw[qw];refine⟨λej t ht=>vO (s1 ej.2.1 t ht) (s3 ej.2.2 t ht),λq=>?_⟩;rw[vR (ma oh) (j▸ma oa),<-j,B,ah HE,<-gy,s2 (q.imp (λq=>q.2.1) λq=>⟨q.1,q.2.2.2.1⟩),gy,<-eE,s4 (q.imp (λq=>q.2.2) λq=>⟨q.1,q.2.2.2.2⟩),eE]
   .rw[cd f]
    exact last λh=>f h.1
end
section
variable{C:CT}{z:Z}{L:List O}{n t i N h d:Nat}{Q:V->St->Prop}{l ls lt S A e held:List Nat}{σ:St}{c a:Option (List Nat)}{x y s:Sd}{free:Bool}
structure nM(x y:Sd)(free:Bool)(N:Nat):Prop where
 h:sU x free (N+5)
 g:sU y free (N+5)
 d:nL x free (N+4)
 c:nL y free (N+4)
 f:x.Ok
 e:y.Ok
 b:x.al < 300000
 a:y.al < 300000
def Ko.op(G:Ko a)(E:Kl e):Kl (ax a e):=by
 induction a using aX with
 |none=>exact E|some l=>exact G l rfl
def HF(S:nM x y free N)(G:Ko a)(I:am z)(room:z.sz+qc x y < 4194304)(E:Kl e)(U:Kl held)(w:held≠[13])(Y:d=0\/d=1/\∃p,held=[p])
  (q:∀z' l L',Gr (qc x y) z z'->L <+:L'->ir z' (λT=>cj T d held (ax a e) (aW T free x e) (aW T free y e) (wS T free x e) (wS T free y e)) (x.al+y.al+1) (XO free x y a d e held) l->Q (.r (aa l)) (st z' L')):
  ar (ai (N+6) 66 [.o 12,ci c a x y d,.r (aa e),.r (aa held),.w free] (st z L)) Q:=by
 have H:=S.b;have J:=S.a;refine az (ρ:=[some (.o 12),some (ci c a x y d),some (.r (aa e)),some (.r (aa held)),some (.w free),none,none,none]) rfl ?_;have g:∀v,v=V.r (aa (ax a e))->aM (ai (N+5)) Ak [some (.o 12),some (ci c a x y d),some (.r (aa e)),some (.r (aa held)),some (.w free),none,none,some v] (dC Q) (st z L):=λv B=>by
  subst B;exact TX S.f S.e (by rcases Y with h |⟨h,_⟩ <;>lia) (λh1=>by rcases Y with h |⟨_,p,h⟩;lia;rw[h];exact av _) w (λh1=>by rcases Y with h |⟨_,p,h⟩;lia;rw[h];exact λe=>nomatch e) S.h S.g S.d S.c G (G.op E) rfl I room ("~CkTArPv^mGpF3kyt" H) ("~CkTArPv^mGpF3kyt" J) E U q
 refine ag (sV (k:=13)) ?_;rw[cd w];rcases Y with rfl |⟨rfl,p,rfl⟩
 .induction a using aX with
  |none=>exact g _ rfl|some l=>exact g _ rfl
 ·
  refine aP (l0 (l:=aa [p]) (bP rfl)) ?_
  induction a using aX with
  |none=>exact g _ rfl|some l=>exact g _ rfl
abbrev Am:List CS:=[.k (.w .b (.d 5) [.j 66 [.d 0,.d 1,.C (.z [.d 4,.n .a (.h (.h (.d 1) (.g 0)) (.g 0)) (.u "T")]) (.r true [.d 6]) (.d 2),.r true [.d 6],.d 4]])]
def Kl.one(Y:Kl held)(h2:2<=held.length)(J:p∈held):Kl [p]/\[p]≠[13]/\[p]≠[0]:=by
 have k:∀x∈held,x∈cg\/x=27\/x=28:=by
  rcases Y.2.2 with e |e |e |e
  .rw[e]at h2;simp at h2
  .rw[e]at h2;simp at h2
  .rw[e]at h2;simp at h2
  .exact e
 refine⟨⟨cX,by simp,.inr (.inr (.inr λx H=>?_))⟩,λe=>?_,λe=>?_⟩
 .rw[aB]at H;subst H;exact k x J
 .have:p=13:=by simpa using e
  subst this;rcases k 13 J with h |h |h
  .exact absurd h (by decide)
  .cases h
  .cases h
 .have:p=0:=by simpa using e
  subst this;rcases k 0 J with h |h |h
  .exact absurd h (by decide)
  .cases h
  .cases h
abbrev XL(free:Bool)(x y:Sd)(a c:Option (List Nat))(e hl0 pd:List Nat)(z:Z)(l:List Nat):Prop:=∀h,free=true->Ne e->27∉hl0->No a->x.eO->y.eO->x.Le h->y.Le h->
 ip z (pd.length*4 ^ h) (h+1) l/\(x.Nt->y.Nt->(28∈hl0->(fF a/\x.dy/\y.dy)/\c=none)->sT e a x y->∀(z2:Z) (T:Tb) (k g:Nat) (G:List Nat),z.a <+:z2.a->SC z2 T g G->h<=k->
  (pF a x y->∀t,OT t e->OT t (l.flatMap (FF T k g)))/\(pF a x y\/(28∉e/\28∉hl0/\fF a/\x.dy/\y.dy)->ae (l.flatMap (FF T k g))=ae (pd.flatMap λp=>fG T G a x y 1 (eP true c e p) [p])))
def T1(Y:Kl held)(h2:2<=held.length):∀x∈held,x∈cg\/x=27\/x=28:=by
 rcases Y.2.2 with e |e |e |e
 .rw[e]at h2;simp at h2
 .rw[e]at h2;simp at h2
 .rw[e]at h2;simp at h2
 .exact e
def T2(h:p∈cg\/p=27\/p=28):OT t [p]:=λu U Y=>by
 rw[aB]at U;subst U;rcases h with h |h |h
 .rcases Y with q |q |q <;>subst q <;>exact absurd h (by decide)
 .rcases Y with q |q |q <;>lia
 .rcases Y with q |q |q <;>lia
def T3(S:nM x y free N)(ha:Ko a)(E:Kl e)(hj:B.length<=j){M:Nat}(kh:Kl hl0)(h2:2<=hl0.length)(room:z0.sz+M < 4194304):
  ∀{z:Z} {L:List O} {out:List Nat} {o:Option V} {val:Tb->List Nat} {m b:Nat} {pd:List Nat},Gr m z0 z->m+ps.length*qc x y<=M->b+ps.length*(x.al+y.al+1) < 4194304->(∀p∈ps,p∈hl0)->B <+:L->L[j]?=some (.a (aa out))->ir z val b (XL free x y a c e hl0 pd) out->
  (∀z' l L' o,Gr M z0 z'->B <+:L'->L'[j]?=some (.a (aa l))->ir z' (λT=>val T++ps.flatMap λp=>cj T 1 [p] (ax a (eP free c e p)) (aW T free x (eP free c e p)) (aW T free y (eP free c e p)) (wS T free x (eP free c e p)) (wS T free y (eP free c e p))) (b+ps.length*(x.al+y.al+1)) (XL free x y a c e hl0 (pd++ps)) l->
   K .a [some (.o 12),some (ci c a x y 1),some (.r (aa e)),some (.r (aa held)),some (.w free),some (.o (j+14)),o,o7] (st z' L'))->
  gn (λx ρ k σ=>bQ (fQ (.a 6) x ρ σ) λρ σ=>aM (ai (N+6)) Am ρ k σ) none (aa ps) [some (.o 12),some (ci c a x y 1),some (.r (aa e)),some (.r (aa held)),some (.w free),some (.o (j+14)),o,o7] K (st z L):=by
 induction ps with
 |nil=>
  intro z L out o val m b pd g hm hb kH hB ho hr q;refine(q z out L o (g.mono ("~W<<tbm^G" hm)) hB ho ⟨hr.d,by have:=hr.f;exact "~W17ZM0Ax" this,λT hT u=>?_,by rw[b_];exact hr.c⟩:_);rw[jh,b_];exact hr.a T hT u
 |cons p ps ih=>
  intro z L out o val m b pd g hm hb kH hB ho hr q;rw[bI,kX]at hm hb;have hsz:=g.f;obtain⟨kp,np,T4⟩:=kh.one h2 (kH p br);have pH:Kl (eP free c e p):=by unfold eP;split;exact kp;exact E
  have one:ar (ai (N+6) 66 [.o 12,ci c a x y 1,.r (aa (eP free c e p)),.r (aa [p]),.w free] (st z L)) (λv σ=>bm (cm .b (.o (j+14)) [v] σ) λQ σ=>gn (λx ρ k σ=>bQ (fQ (.a 6) x ρ σ) λρ σ=>aM (ai (N+6)) Am ρ k σ) none (aa ps) [some (.o 12),some (ci c a x y 1),some (.r (aa e)),some (.r (aa held)),some (.w free),some (.o (j+14)),some (.j p),o7] K σ):=by
   refine HF S ha g.e ("~=PsVDGjmNHYkHYZ=Uv0T" hm hsz room) pH kp np (.inr ⟨rfl,p,rfl⟩) λz1 l1 L1 g1 p1 a1=>?_;have h1:=a1.f;have h3:=hr.f;refine y3 (aC ho p1) ("~8gVissLA=OR|?ZhedD^RNa5w" h1 h3 hb) ?_;have T5:=aT (o':=.a (aa (out++l1))) (aC ho p1);refine ih (out:=out++l1) (val:=λT=>val T++cj T 1 [p] (ax a (eP free c e p)) (aW T free x (eP free c e p)) (aW T free y (eP free c e p)) (wS T free x (eP free c e p)) (wS T free y (eP free c e p))) (b:=b+(x.al+y.al+1)) (pd:=pd++[p]) (g.trans g1) ("~L4XyuJFDLlZB" hm) ("~>5I76uvKlN2=_|sxpG6|" hb) (λx H=>kH x (b6 _ H)) (bE (hB.trans p1) hj) T5 ⟨λx H=>(aZ.mp H).elim (λh=>(hr.d x h).gr g1.d) (a1.d x),by rw[ca];exact "~3NSeVQlkSU>BGOqCke9" h1 h3,λT hT u=>?_,λh f1 f2 f3 f4 f5 w f7 f8=>?_⟩ λz' l L' o g' p' o' r'=>q z' l L' o g' p' o' ⟨r'.d,by have:=r'.f;rw[bI,kX];exact "~3T=s;wWBV6Zk7P>Wvjf" this,λT hT u=>?_,by have:=r'.c;rw[c7]at this;exact this⟩
   .show val T++_=_
    rw[hr.a T (g1.d.trans hT) u,a1.a T hT u]
   .have HG:27∉[p]:=λq=>f3 (by rw[aB]at q;rw[q];exact kH p br)
    have ne:Ne (eP free c e p):=by unfold eP;split;exact⟨HG,by simp⟩;exact f2
    obtain⟨u1,v1⟩:=hr.c h f1 f2 f3 f4 f5 w f7 f8;obtain⟨w2,v2⟩:=a1.c h f1 ne HG f4 f5 w f7 f8;have w1:=u1.gr g1.d;rw[ab T4,tI]at w2;refine⟨⟨?_,λp J=>(aZ.mp J).elim (w1.2 p) (w2.2 p)⟩,λI ny hN fI z2 T k g G p2 SS U=>?_⟩
    .rw[nq,ca,show[p].length=1 from rfl,kX]
     have f:=w1.1;have t2:=w2.1;exact "~KUoXt;JxMNP8" f t2
    .have sX:=kH p br
     have se:=T1 kh h2 p sX;rw[f1]at v2;obtain⟨s1,s2⟩:=v1 I ny hN fI z2 T k g G (g1.d.trans p2) SS U;have T6:CQ (eP true c e p) [p] 1 a x y:=λq9=>by
      rw[aB]at q9;obtain⟨q1,Y⟩:=hN (q9▸sX);refine⟨q1,λQ=>?_⟩;rw[Y,<-q9];rfl
     have T7:sT (eP true c e p) a x y:=by
      induction c using aX with
      |none=>
       by_cases q:p=28
       .exact .inr (hN (q▸sX)).1
       .exact .inl λY=>q (aB.mp Y).symm
      |some lc=>exact fI
     obtain⟨s3,s4⟩:=v2 I ny T6 T7 z2 T k g G p2 SS U;rw[qw,qw];refine⟨λr t ht=>vO (s1 r t ht) (s3 r t ?_),λqq=>?_⟩
     .induction c using aX with
      |none=>exact T2 se|some lc=>exact ht
     .rw[<-gy,s2 qq,gy,<-eE,s4 (qq.imp id λq3=>⟨by
       induction c using aX with
       |none=>exact λY=>q3.2.1 (aB.mp Y▸sX)|some lc=>exact q3.1,λY=>q3.2.1 (aB.mp Y▸sX),q3.2.2⟩),eE,dM,jh,b_]
   .rw[dM,<-c7];exact r'.a T hT u
  show aM (ai (N+6)) Am [some (.o 12),some (ci c a x y 1),some (.r (aa e)),some (.r (aa held)),some (.w free),some (.o (j+14)),some (.j p),o7] _ (st z L);clear ih q hr S pH np kp
  induction free using aS with
  |true=>
   induction c using aX with
   |none=>
    refine ag (ed .b ho (.inr (.inl rfl))) ?_;exact one
   |some l=>
    refine ag (ed .b ho (.inr (.inl rfl))) ?_;exact one
  |false=>
   refine ag (ed .b ho (.inr (.inl rfl))) ?_;exact one
end
section
variable{C:CT}{z:Z}{L:List O}{n t i N h d:Nat}{Q:V->St->Prop}{l ls lt S A e held:List Nat}{σ:St}{c a:Option (List Nat)}{x y s:Sd}{free:Bool}
def T8:de .a (.r (aa l)) (.r []) σ=some (.w (decide (l=[])),σ):=by
 have e:fA (aa l) []=decide (l=[]):=by induction l <;>rfl
 refine dZ (show bq _ (some (fA (aa l) []))=some (decide (l=[]))from dY ?_ (aE some e));show(V.eV (aa l)&&true&&true)=true;rw[rS];rfl
def T9(S0:nM x y free N)(S1:nM x y free (N+1))(kc:Ko c)(ha:Ko a)(Y:d<=1)(I:am z)(T':z.sz+(Sd.q c a x y d).ac < 4194304)(E:Kl e)
  (q0:∀z' l L',Gr (Sd.q c a x y d).ac z z'->L <+:L'->ir z' (λT=>aW T free (.q c a x y d) e) (Sd.q c a x y d).al (XB free (.q c a x y d) e) l->Q (.r (aa l)) (st z' L')):
  ar (ai (N+7) 66 [.o 12,ci c a x y d,.r (aa e),.r (aa (ax c e)),.w free] (st z L)) Q:=by
 have T_:=S0.b;have Ua:=S0.a;have kh:=kc.op E;have room:z.sz+6*qc x y < 4194304:=T';have q:∀z' l L',Gr (6*qc x y) z z'->L <+:L'->ir z' (λT=>aW T free (.q c a x y d) e) (6*(x.al+y.al+1)) (XB free (.q c a x y d) e) l->Q (.r (aa l)) (st z' L'):=q0;have hv:∀T,aW T free (.q c a x y d) e=if ax c e=[13]then[13]else
  if d=1/\ax c e=[]then[]else
  if d=1/\2<=(ax c e).length then(ax c e).flatMap λp=>cj T d [p] (ax a (eP free c e p)) (aW T free x (eP free c e p)) (aW T free y (eP free c e p)) (wS T free x (eP free c e p)) (wS T free y (eP free c e p))
  else cj T d (ax c e) (ax a e) (aW T free x e) (aW T free y e) (wS T free x e) (wS T free y e):=λT=>rfl
 have HH:Ne e->No c->Ne (ax c e):=λh1 h2=>by
  induction c using aX with
  |none=>exact h1|some l=>exact h2 l rfl
 have xb:∀z' l,(∀h,free=true->Ne e->Ne (ax c e)->No a->x.eO->y.eO->x.Le h->y.Le h->ip z' (4*4 ^ h) (h+1) l/\(fF c->x.Nt->y.Nt->nJ e (.q c a x y d)->nH (.q c a x y d) e z' l (h+1)))->XB free (.q c a x y d) e z' l:=λz' l k h f1 f2 v f4=>by
  induction h using dN with
  |zero=>exact(show False from f4).elim|succ h=>
   obtain⟨k1,k2⟩:=k h f1 f2 (HH f2 v.1) v.2.1 v.2.2.1 v.2.2.2 f4.1 f4.2;rw[xh,Cb (4 ^ h)];exact⟨k1,λnt=>k2 nt.1 nt.2.1 nt.2.2⟩
 clear HH;generalize hH:ax c e=held at kh hv xb;have HI:fF c->28∈held->c=none:=λh1 h2=>by
  induction c using aX with
  |none=>rfl|some l=>rw[<-hH]at h2;exact absurd h2 (h1 l rfl)
 have cN:fF c->nJ e (.q c a x y d)->28∈held->(fF a/\x.dy/\y.dy)/\c=none:=λh1 h2 h3=>by
  have h4:=HI h1 h3;refine⟨?_,h4⟩;rw[<-hH,h4]at h3;rcases h2 with h2 |h2
  .exact absurd h3 h2
  .exact h2.2
 have cC:nJ e (.q c a x y d)->sT e a x y:=λh=>h.imp id λh=>h.2;have ej:(Sd.q c a x y d).iq->pF a x y:=λh=>h.2;have cE:28∉e/\(Sd.q c a x y d).dy->28∉e/\28∉held/\fF a/\x.dy/\y.dy:=λh=>⟨h.1,λq=>by
  have h4:=HI h.2.1 q;rw[<-hH,h4]at q;exact h.1 q,h.2.2⟩
 generalize lZ:(λT=>aW T free (.q c a x y d) e)=val at q;have sY:∀T,val T=aW T free (.q c a x y d) e:=λT=>by rw[<-lZ]
 have hv:=λT=>(sY T).trans (hv T);clear sY;by_cases io:held=[13]
 .refine az (ρ:=[some (.o 12),some (ci c a x y d),some (.r (aa e)),some (.r (aa held)),some (.w free),none,none,none]) rfl ?_
  subst io;refine q z [13] L ((Gr.refl I).mono (bb _)) (aA _) ⟨λp J=>by rw[aB]at J;subst J;exact nd I (by decide),by show 1<=_;exact "~8FR6obgCluT" id,λT hT hn=>by rw[hv,ah rfl],xb z _ λh C C C C C C C C=>⟨Hy,λH nx ny jJ z2 T k g G p S U=>⟨λcH t ht=>?_,λC=>?_⟩⟩⟩
  .rw[vX S]
   induction c using aX with
   |none=>intro u hu _;rw[aB]at hu;rw[hu];exact ht 13 (by rw[show e=[13]from hH];simp) (.inr (.inl rfl))|some lc=>exact absurd (aE some (show lc=[13]from hH)) cH.1
  .rw[vX S]
   show _=ae (aW T true (.q (dg G c) (dg G a) (bu G x) (bu G y) d) (aQ G e));rw[vQ,nE,hH,ah (gc (by decide))]
 by_cases f:d=0\/d=1/\∃p,held=[p]
 .refine HF S1 ha I ("~Lmlmdkmh=D5c" room) E kh io f λz' l L' g p r=>q z' l L' (g.mono ("~<tAoAuS" id)) p ⟨r.d,by have:=r.f;exact "~4sj|e1IaHyguvMl" this,λT hT hn=>?_,xb _ _ λh f1 f2 v f4 f5 f6 f7 f8=>?_⟩
  rotate_left
  .obtain⟨w,An⟩:=r.c h f1 f2 v.1 f4 f5 f6 f7 f8
   refine⟨⟨aL w.1 (fM _ (by split <;>decide)),w.2⟩,λH nx ny jJ z2 T k g G p2 S U=>?_⟩;have cq:CQ e held d a x y:=λh3=>by
    obtain⟨h4,h5⟩:=cN H jJ h3;refine⟨h4,λh6=>?_⟩;rcases f with f |⟨_,p,f⟩
    .lia
    .rw[f,aB]at h3
     rw[h5]at hH;rw[h3,<-f];exact hH
   obtain⟨s1,s2⟩:=An nx ny cq (cC jJ) z2 T k g G p2 S ("~6zc7iZhiDAR" U);refine⟨λcH=>s1 (ej cH),λq=>(s2 (q.imp ej cE)).trans ?_⟩;rcases f with f |⟨h1,p,f⟩
   .subst f
    rw[<-hH];rw[TK S (hH▸kh) (hH▸io)]
   .subst h1
    rw[<-Af S (hH▸kh) (hH▸io) (hH▸cN H jJ),hH,f,dM,jh,b_,Hv (hH.trans f)]
  have H:¬ (d=1/\held=[]):=by rintro⟨h1,h2⟩;rcases f with h |⟨_,p,h⟩;lia;rw[h2]at h;cases h
  have n2:¬ (d=1/\2<=held.length):=by rintro⟨h1,h2⟩;rcases f with h |⟨_,p,h⟩;lia;rw[h]at h2;simp at h2
  rw[hv,ab io,ab H,ab n2];exact r.a T hT hn
 obtain rfl:d=1:=by lia
 refine az (ρ:=[some (.o 12),some (ci c a x y 1),some (.r (aa e)),some (.r (aa held)),some (.w free),none,none,none]) rfl ?_;refine ag (sV (k:=13)) ?_;rw[cd io]
 induction held using bo with
 |nil=>
  exact q z [] L ((Gr.refl I).mono (bb _)) (aA _) ⟨λp J=>(nomatch J),bb _,λT hT hn=>by rw[hv,ab io,ah ⟨rfl,rfl⟩],xb _ _ λh C C C C C C C C=>⟨⟨bb _,λp J=>(nomatch J)⟩,λH nx ny jJ z2 T k g G p S U=>⟨λC t C u hu=>(nomatch hu),λC=>by rw[<-Af S (hH▸kh) (hH▸io) (hH▸cN H jJ),hH];rfl⟩⟩⟩
 |cons p r0=>
 induction r0 using bo with
 |nil=>exact absurd (.inr ⟨rfl,p,rfl⟩) f|cons p2 r=>
  have hlen:=kh.2.1;have hb:=l0 (σ:=st z L) (l:=aa (p::p2::r)) (by rw[cJ];exact "~W8qSN|Tl" hlen);rw[cJ]at hb;refine ag T8 ?_;refine aP hb ?_;refine bT (b5 (show(1:Int) < ((p::p2::r).length:Int)by simp only[bI];exact "~6xA0gxsQYGn?_" id)) ?_;refine bY ?_;refine ag ((hY (z:=z) (L:=L++[.a []]) (ts:=p::p2::r) ("~W8qSN|Tl" hlen)).a _ (aA _)) ?_;have hm:(p::p2::r).length*qc x y<=6*qc x y:=fM _ hlen;have i2:(p::p2::r).length*(x.al+y.al+1)<=6*(x.al+y.al+1):=fM _ hlen;refine T3 (c:=c) (j:=L.length) (B:=L) (z0:=z) (M:=6*qc x y) (hl0:=p::p2::r) (out:=[]) (val:=λC=>[]) (m:=0) (b:=0) (pd:=[]) S0 ha E (av _) kh (by simp) ("~1MyFftI24=Nr?2" room) (Gr.refl I) ("~1b?|zs6pyBJi" hm) ("~1O4FXJFe|rZ>y|B_NIjTcaDy9DARY" i2 T_ Ua) (λC h=>h) bp bk ⟨λp J=>(nomatch J),bb _,λT hT hn=>rfl,λh C C C C C C C C=>⟨⟨bb _,λp J=>(nomatch J)⟩,λC C C C z2 T k g G p S U=>⟨λC t C u hu=>(nomatch hu),λC=>rfl⟩⟩⟩ λz' l L' o g pB ho r'=>?_;refine f0 ho ?_;refine q z' l _ g (bE pB (av _)) ⟨r'.d,by have:=r'.f;exact "~2r;NCN0CDGjq13?Jnhs2w" i2 this,λT hT hn=>?_,xb _ _ λh f1 f2 v f4 f5 f6 f7 f8=>?_⟩
  rotate_left
  .obtain⟨w,An⟩:=r'.c h f1 f2 v.1 f4 f5 f6 f7 f8
   refine⟨⟨aL w.1 (fM _ v.2),w.2⟩,λH nx ny jJ z2 T k g G p2 S U=>?_⟩;obtain⟨s1,s2⟩:=An nx ny (cN H jJ) (cC jJ) z2 T k g G p2 S ("~6zc7iZhiDAR" U);refine⟨λcH=>s1 (ej cH),λq=>(s2 (q.imp ej cE)).trans ?_⟩;rw[<-Af S (hH▸kh) (hH▸io) (hH▸cN H jJ),hH];rfl
  have:=r'.a T hT hn;rw[di]at this;rw[hv,ab io,ab (by rintro⟨_,h⟩;cases h),ah ⟨rfl,by simp⟩];exact this
def Ub(S0:nM x y free N)(w:nM x y free (N+1))(T:Ko c)(G:Ko a)(Y:d<=1):pG c a x y d free (N+8):=by
 intro z L Q e I room E q;refine az (ρ:=[some (.o 12),some (ci c a x y d),some (.r (aa e)),some (.w free),none]) rfl ?_;have U:=T9 (L:=L) (Q:=λx σ=>oD x Q σ) S0 w T G Y I room E q
 induction c using aX with
 |none=>exact U|some l=>exact U
abbrev Sd.AF:Sd->Nat
 |.q _ _ x y _=>Nat.max x.AF y.AF+x.hf+y.hf+12|.T=>4|.k _=>4|.b _=>4
def HJ:∀{N:Nat},s.Ok->s.al < 300000->s.AF<=N->sU s free N/\∀c a x y d,s=.q c a x y d->pG c a x y d free N:=by
 induction s with
 |T=>
  intro N ok G Y;obtain⟨n,rfl⟩:=eW (aL (by decide:1<=4) (show 4<=N from Y));exact⟨λz L Q e I room E q=>Ag E nv (.u "T") e (.inl ⟨rfl,rfl⟩) λL' p=>q z e L' (Gr.refl I) p ⟨E.part I,aL E.2.1 (by decide:6<=12),λT m u=>rfl,λh f1 f2 v B=>⟨⟨by rw[kC (E.aD)];exact bb _,λp J=>.inl ⟨(E.aD) p J,λe=>f2.1 (e▸J)⟩⟩,λnt C=>Ab (s:=.T) E trivial rfl (λT=>rfl) nt⟩⟩,λc a x y d h=>b7 (aE Sd.nu h)⟩
 |k l=>
  intro N ok G Y;obtain⟨n,rfl⟩:=eW (aL (by decide:1<=4) (show 4<=N from Y));have ok:Kl l:=ok;exact⟨λz L Q e I room E q=>Ag E ok (.u "k") l (.inr (.inl ⟨rfl,rfl⟩)) λL' p=>q z l L' (Gr.refl I) p ⟨ok.part I,aL ok.2.1 (by decide:6<=12),λT m u=>rfl,λh f1 f2 v B=>⟨⟨by rw[kC (Kl.aD ok)];exact bb _,λp J=>.inl ⟨(Kl.aD ok) p J,λe=>v (e▸J)⟩⟩,λnt C=>Ab (s:=.k l) E ok rfl (λT=>rfl) nt⟩⟩,λc a x y d h=>b7 (aE Sd.nu h)⟩
 |b l=>
  intro N ok G Y;obtain⟨n,rfl⟩:=eW (aL (by decide:1<=4) (show 4<=N from Y));have ok:Kl l:=ok;exact⟨λz L Q e I room E q=>Ag E ok (.u "|") (e++l) (.inr (.inr ⟨rfl,rfl⟩)) λL' p=>q z (e++l) L' (Gr.refl I) p ⟨λx H=>(aZ.mp H).elim (E.part I x) (ok.part I x),by rw[ca];exact Nat.add_le_add E.2.1 ok.2.1,λT m u=>rfl,λh f1 f2 v B=>⟨⟨by rw[kC (λx H=>(aZ.mp H).elim (E.aD x) (Kl.aD ok x))];exact bb _,λp J=>.inl ⟨(λx H=>(aZ.mp H).elim (E.aD x) (Kl.aD ok x)) p J,λe=>(aZ.mp (e▸J:27∈_)).elim f2.1 v⟩⟩,λnt C=>Ab (s:=.b l) E ok rfl (λT=>rfl) nt⟩⟩,λc a x y d h=>b7 (aE Sd.nu h)⟩
 |q c a x y d w U=>
  intro N ok G Y;have Y:Nat.max x.AF y.AF+x.hf+y.hf+12<=N:=Y;have G:6*(x.al+y.al+1) < 300000:=G;have f:x.AF<=Nat.max x.AF y.AF:=Nat.le_max_left _ _;have g:y.AF<=Nat.max x.AF y.AF:=Nat.le_max_right _ _;generalize Nat.max x.AF y.AF=j at f g Y;have o:∀N,j+x.hf+y.hf<=N->nM x y free N:=λN Y=>by
   have h1:∀N,x.AF<=N->_:=λN Y=>w (N:=N) ok.2.2.1 ("~2qQA6czcutozDqkIZ4LmH" G) Y;have h2:∀N,y.AF<=N->_:=λN Y=>U (N:=N) ok.2.2.2.1 ("~2qQA6czcutozDqkIZ4Z;X" G) Y;exact⟨(h1 (N+5) ("~GGobo3mGR65NSn" Y f)).1,(h2 (N+5) ("~GGobo3mGR65NSn" Y g)).1,⟨py ok.2.2.1 ("~1c2RDH1;KmUy" Y),(h1 (N+4) ("~GGobo3mGOW>cX9" Y f)).2⟩,⟨py ok.2.2.2.1 ("~1c2RDH1;Kzu=" Y),(h2 (N+4) ("~GGobo3mGOW>cX9" Y g)).2⟩,ok.2.2.1,ok.2.2.2.1, "~2qQA6czcutozDqkIZ4LmH" G, "~2qQA6czcutozDqkIZ4Z;X" G⟩
  have r:∀N,j+x.hf+y.hf+8<=N->pG c a x y d free N:=λN Y=>by
   obtain⟨n,rfl⟩:=eW (k:=8) (N:=N) ("~L5EcCwqM1h4w" Y);exact Ub (o n ("~DD6ylvNxjQbmaHaw" Y)) (o (n+1) ("~ADM4v0D_JM_1h>NK76" Y)) ok.1 ok.2.1 ok.2.2.2.2
  refine⟨λz L Q e I room E q=>?_,λc a x y d h=>by cases h;exact r N ("~4<px8=UxbERH4ZK;4" Y)⟩;obtain⟨n,rfl⟩:=eW (k:=1) (N:=N) ("~5zcYVZ<gx;Gm=" Y);show ar (ai (n+1) 67 [.o 12,.p [.u "q",ci c a x y d],.r (aa e),.w free] (st z L)) Q;refine az (ρ:=[some (.o 12),some (.p [.u "q",ci c a x y d]),some (.r (aa e)),some (.w free),none,none]) rfl ?_;exact r n ("~3N6|?5YEpmwn4FQJ9dy" Y) z L _ e I room E q
end
section
variable{C:CT}{z:Z}{L:List O}{n t i N h d:Nat}{Q:V->St->Prop}{l ls lt S A e held g:List Nat}{σ:St}{c a:Option (List Nat)}{x y s:Sd}{free:Bool}
abbrev Kg(g:List Nat):Prop:=g.length<=6/\∀x∈g,x∈aD
def Kl.kg(h:Kl l):Kg l:=⟨h.2.1,h.aD⟩
def Kg.part(I:am z)(h:Kg l):∀x∈l,b4 z x:=λx H=>(eH I (h.2 x H)).d x br
theorem vY:∀l:List Nat,(l.map λt:Nat=>V.j t)=aa l
 |[]=>rfl|a::l=>by rw[eS,vY l];rfl
def HK(I:am z)(hz:z.a.length < 4194304)(T:Kl l)(kg:Kg g)(q:∀L',L <+:L'->Q (.r (aa (aQ g l))) (st z L')):ar (ai (n+3) 69 [.o 12,.r (aa l),.r (aa g)] (st z L)) Q:=by
 have h1:=T.2.1;have h2:=kg.1;refine az (ρ:=[some (.o 12),some (.r (aa l)),some (.r (aa g)),none]) rfl ?_;unfold aQ at q;refine ag (Fg (b:=true) (l:=l) rfl) ?_;have Y:decide (∃k∈l,(k:Int)=28)=l.contains 28:=hZ (x:=28);rw[Y];by_cases h:28∈l
 .rw[ah h]at q
  rw[bj.mpr h];refine ag ((hY (z:=z) (L:=L) (ts:=l) ("~W8qSN|Tl" h1)).a _ (aA _)) ?_;refine y7 (g:=λt=>t !=28) (f:=λt=>.j t) (conds:=[.n .c (.d 3) (.h (.d 0) (.u "q"))]) (e:=.d 3) (ρ:=[some (.o 12),some (.r (aa l)),some (.r (aa g)),none]) (sl:=3) ("~W8qSN|Tl" h1) (λp J L1 G U=>?_) (λp J C L1 G U=>U L1 (aA _)) λL1 p1=>?_
  .have:=U L1 (aA _)
   by_cases e:p=28
   .subst e
    exact this
   .rw[show(p !=28)=true by simpa using e]at this
    refine bT (b:=!cb (.j p) (.j 28)) (by rw[vF (show(p:Int)≠28 from "~CnlVAT;9TwK|ytqx" e)];rfl) ?_;exact this
  .rw[vY]
   have hf:(l.filter λt=>t !=28).length<=l.length:=jQ _ _;refine ag (jG ("~17tj8h>IzeEFJpPb" h1 h2 hf)) ?_;refine sM (n:=n) I hz (λx H=>?_) (by rw[ca];exact "~mOQMS3euR8E2KrF^iSO" h1 h2 hf) λL2 p2=>q L2 (p1.trans p2);exact(aZ.mp H).elim (λh=>T.part I x (c8.mp h).1) (kg.part I x)
 .rw[ab h]at q
  rw[eo.mpr λe=>h (bj.mp e)];exact q L (aA _)
abbrev Sd.wf:Sd->Nat
 |.q _ _ x y _=>x.wf+y.wf+4|.T=>4|.k _=>4|.b _=>4
abbrev Uc:List CS:=[.k (.w .a (.d 3) [.t [.d 4,.C (.n .a (.d 4) (.u "q")) (.j 70 [.d 0,.d 5,.d 2]) (.j 69 [.d 0,.d 5,.d 2])]])]
abbrev sZ(s:Sd)(g:List Nat)(N:Nat):Prop:=∀c a x y d,s=.q c a x y d->∀(z:Z) (L:List O) (Q:V->St->Prop),am z->z.a.length < 4194304->(∀L',L <+:L'->Q (ci (dg g c) (dg g a) (bu g x) (bu g y) d) (st z L'))->ar (ai N 70 [.o 12,ci c a x y d,.r (aa g)] (st z L)) Q
abbrev vZ:Sd->V
 |.T=>.r []|.k l=>.r (aa l)|.b l=>.r (aa l)|.q c a x y d=>ci c a x y d
abbrev v_:Sd->String
 |.T=> "T"|.k _=> "k"|.b _=> "|"
 |.q ..=> "q"
theorem wa:∀s,dx s=.p [.u (v_ s),vZ s]
 |.T=>rfl|.k _=>rfl|.b _=>rfl|.q ..=>rfl
def wb(ok:s.Ok)(kg:Kg g)(E:sZ s g (N+3))(I:am z)(hz:z.a.length < 4194304)(o:B <+:L)(G:B.length<=j)(ho:L[j]?=some (.a out))(Y:out.length < 4194304)
  (q:∀L',B <+:L'->L'[j]?=some (.a (out++[dx (bu g s)]))->K .a [some (.o 12),J,some (.r (aa g)),some (.o (j+14)),some (.u (v_ s)),some (vZ s)] (st z L')):
  aM (ai (N+3)) Uc [some (.o 12),J,some (.r (aa g)),some (.o (j+14)),some (.u (v_ s)),some (vZ s)] K (st z L):=by
 have U:∀l t,Kl l->(dx (bu g s)=.p [.u t,.r (aa (aQ g l))])->v_ s=t->vZ s=.r (aa l)->ar (ai (N+3) 69 [.o 12,.r (aa l),.r (aa g)] (st z L)) λv σ=>bm (cm .a (.o (j+14)) [.p [.u t,v]] σ) λQ σ=>K .a [some (.o 12),J,some (.r (aa g)),some (.o (j+14)),some (.u t),some (.r (aa l))] σ:=λl t u e1 w H=>by
  refine HK (n:=N) I hz u kg λL1 p1=>?_;refine ec (aC ho p1) Y ?_;rw[<-e1];have:=q _ (bE (o.trans p1) G) (aT (aC ho p1));rw[w,H]at this;exact this
 induction s using Mine.Lake.Sd.casesOn with
 |T=>
  refine ag (ed .a ho (.inl rfl)) ?_;exact U [] "T" nv rfl rfl rfl
 |k l=>
  refine ag (ed .a ho (.inl rfl)) ?_;exact U l "k" ok rfl rfl rfl
 |b l=>
  refine ag (ed .a ho (.inl rfl)) ?_;exact U l "|" ok rfl rfl rfl
 |q c a x y d=>
  refine ag (ed .a ho (.inl rfl)) ?_;refine E c a x y d rfl z L _ I hz λL1 p1=>?_;refine ec (aC ho p1) Y ?_;exact q _ (bE (o.trans p1) G) (aT (aC ho p1))
def HL(h:Ko c):(oS c).Ok:=by
 induction c using aX with
 |none=>exact trivial|some l=>exact h l rfl
theorem HN:∀c,bu g (oS c)=oS (dg g c) |none=>rfl |some _=>rfl
theorem Ao(kg:Kg g):∀{s:Sd} {N:Nat},s.Ok->s.wf<=N->sZ s g N
 |.T,N,ok,Y=>λc a x y d h=>b7 (aE Sd.nu h)
 |.k l,N,ok,Y=>λc a x y d h=>b7 (aE Sd.nu h)
 |.b l,N,ok,Y=>λc a x y d h=>b7 (aE Sd.nu h)
 |.q c a x y d,N,ok,Y=>λc' p x' o d' h z L Q I hz q=>by
  cases h;have Y:x.wf+y.wf+4<=N:=Y;obtain⟨n,rfl⟩:=eW (k:=4) (N:=N) ("~76sj=ed3Mqz" Y);have H:sZ x g (n+3):=Ao kg ok.2.2.1 ("~GW8IaG;cMDwDrK" Y);have v:sZ y g (n+3):=Ao kg ok.2.2.2.1 ("~GW8IaG;cMDwRA_" Y);have ho:∀c,sZ (oS c) g (n+3):=λc=>by induction c <;>exact λc a x y d h=>b7 (aE Sd.nu h)
  refine az (ρ:=[some (.o 12),some (ci c a x y d),some (.r (aa g)),none,none,none]) rfl ?_;unfold ci;refine bY ?_;rw[nw c,wa (oS c)];refine wb (j:=L.length) (B:=L) (N:=n) (HL ok.1) kg (ho c) I hz bp (av _) bk (bP rfl) λL1 p1 J=>?_;rw[HN]at J;rw[nw a,wa (oS a)];refine wb (j:=L.length) (B:=L) (N:=n) (HL ok.2.1) kg (ho a) I hz p1 (av _) J (bP rfl) λL2 p2 G=>?_;rw[HN]at G;rw[wa x];refine wb (j:=L.length) (B:=L) (N:=n) ok.2.2.1 kg H I hz p2 (av _) G (bP rfl) λE u f=>?_;rw[wa y];refine wb (j:=L.length) (B:=L) (N:=n) ok.2.2.2.1 kg v I hz u (av _) f (bP rfl) λw T r=>?_;have U:bt (st z w) (.o (L.length+14))=some (true,[dx (oS (dg g c)),dx (oS (dg g a)),dx (bu g x),dx (bu g y)]):=iU r;refine ag (gp (t:=0) U (bP rfl) rfl) ?_;refine ag (gp (t:=1) U (bP rfl) rfl) ?_;refine ag (gp (t:=2) U (bP rfl) rfl) ?_;refine ag (gp (t:=3) U (bP rfl) rfl) ?_;rw[<-nw,<-nw];exact q w T
end
section
variable{z:Z}{t i N h d:Nat}{l ls lt S A e held:List Nat}{c a:Option (List Nat)}{x y s:Sd}{T:Tb}{m:Mp}
def HO(I:am z)(p:z.a <+:T)(u:T.Nodup)(E:Kl e):∀{h r:Nat},s.Ok->s.Le h->d9 z s e r->ae (aK h T none r)=ae (aW T false s e):=by
 induction s with
 |T=>intro h r ok le C;rw[zV I (E.at C) p];rfl|k l=>intro h r ok le C;rw[zV I (Kl.at ok C) p];rfl|b l=>
  intro h r ok le C;have j:At z r (ae (e++l)):=⟨C,eF _,λx H=>(aZ.mp (cu H)).elim (E.aD x) (Kl.aD ok x)⟩;rw[zV I j p,eF];rfl
 |q c a x y d Y U=>
  intro h r ok le C
  induction h using dN with
  |zero=>exact(show False from le).elim|succ h=>
  obtain⟨rc,ra,rx,ry,h1,h2,h3,h4,h5⟩:=C;rw[lV I h1 p];have o:=(ok.1.op E).at h2;have G:=(ok.2.1.op E).at h3;have H:=Y ok.2.2.1 le.1 h4;have v:=U ok.2.2.2.1 le.2 h5;have n:=ok.1.op E;unfold cK;show ae (if rc=13 then[13]else if d=1/\rc=2 then[]else if d=1/\2<=(bi T rc).length then(bi T rc).flatMap λp=>cA T (aK h T) none p ra rx ry d else cA T (aK h T) none rc ra rx ry d)=ae (if ax c e=[13]then[13]else if d=1/\ax c e=[]then[]else if d=1/\2<=(ax c e).length then(ax c e).flatMap λp=>cj T d [p] (ax a e) (aW T false x e) (aW T false y e) (ei T x e) (ei T y e)else cj T d (ax c e) (ax a e) (aW T false x e) (aW T false y e) (ei T x e) (ei T y e));rw[o.c.bR I p];by_cases w:ax c e=[13]
  .rw[ah ((fE I (.inr (.inr rfl)) o).mpr w),ah w]
  rw[ab λq=>w ((fE I (.inr (.inr rfl)) o).mp q),ab w];by_cases f:d=1/\ax c e=[]
  .rw[ah ⟨f.1,(nz I o).mpr f.2⟩,ah f]
  rw[ab λq=>f ⟨q.1,(nz I o).mp q.2⟩,ab f];by_cases h2:d=1/\2<=(ax c e).length
  .rw[ah h2,ah h2,<-pe,<-pe (λp=>cj T d [p] _ _ _ _ _)]
   congr 1
   refine i4 λq L=>?_;have g:At z q [q]:=⟨eH I (n.aD q L),cX,λx H=>by rw[aB]at H;subst H;exact n.aD _ L⟩;exact vJ I p u g rfl G H v (h4.ei p u).symm (h5.ei p u).symm
  .rw[ab h2,ab h2]
   exact vJ I p u o rfl G H v (h4.ei p u).symm (h5.ei p u).symm
end
section
variable{z:Z}{t i N h d:Nat}{l ls lt S A e held:List Nat}{c a:Option (List Nat)}{x y s:Sd}{T:Tb}{m:Mp}
def HP{y:Nat}:aY (27::l) y=aY l y:=by
 unfold aY;have Y:(27::l).contains 16=l.contains 16:=by simp
 rcases ky y with h |h |h
 .rw[h,Y];rfl
 .rw[h,Y,show(27::l).contains 6=l.contains 6 by simp]
 .rw[h,Y,show(27::l).contains 7=l.contains 7 by simp]
def Ud(Y:∀x∈l,x∈cg):ae ((ae ([27]++l)).flatMap λp=>if p=27 then e else[p])=ae (e++l):=by
 have U:=sW Y;have dm:27∉l:=λq=>absurd (Y 27 q) (by decide);have nt:ce ([27]++l):=by
  refine⟨λq=>?_,λq=>?_,λq=>?_⟩ <;>rcases aZ.mp q with q |q
  .simp at q
  .exact U.1 q
  .simp at q
  .exact U.2.1 q
  .simp at q
  .exact U.2.2 q
 rw[<-eE e l];refine rL λx=>?_;rw[fu,aZ];constructor
 .rintro⟨p,J,H⟩
  obtain⟨h1,h2⟩:=(fD nt).mp J
  split at H
  .exact .inl H
  .rename_i Q
   rw[aB]at H;subst H;rcases aZ.mp h1 with q |q
   .rw[aB]at q;exact absurd q Q
   .exact .inr ((fD U).mpr ⟨q,by rw[<-HP];exact h2⟩)
 .rintro(q |q)
  .exact⟨27,(fD nt).mpr ⟨by simp,by unfold aY;rfl⟩,by rw[ah rfl];exact q⟩
  .obtain⟨h1,h2⟩:=(fD U).mp q
   refine⟨x,(fD nt).mpr ⟨jg _ h1,by show aY (27::l) x=false;rw[HP];exact h2⟩,?_⟩;rw[ab λq:x=27=>dm (q▸h1)];simp
def HQ(I:am z)(p:z.a <+:T)(u:T.Nodup)(E:Kl e)(B:At z v e)(Q:Ko c)(f:No c)(C:aO z rc (ae (ax c [27]))):
  ∃dP,dc T (some (1,v)) rc=dP/\At z dP (ax c e)/\((c=none/\rc=27)\/(c≠none/\rc≠27)):=by
 have U:ae [27]=[27]:=cX
 induction c using aX with
 |none=>
  have j:At z rc [27]:=⟨U▸C,U,by decide⟩;refine⟨v,?_,B,.inl ⟨rfl,sJ I j⟩⟩;show uF T (i3 T (some (1,v)) rc)=v;rw[kB I j B p,vC (pid:=1)];exact pC B p u
 |some l=>
  have j:At z rc l:=Kl.at (Q l rfl) C;have Y:=(f l rfl).1;refine⟨rc,?_,j,.inr ⟨(λq=>(nomatch q)),λq=>?_⟩⟩
  .show uF T (i3 T (some (1,v)) rc)=rc
   rw[kB I j B p,pr (pid:=1) Y];exact pC j p u
  .subst q
   have:aO z 27 [27]:=eH I (by decide);rw[j.c.fun I this]at Y;exact Y (by simp)
def HR(I:am z)(p:z.a <+:T)(u:T.Nodup):∀{h r v:Nat} {e:List Nat},Kl e->At z v e->s.Ok->s.Le h->s.eO->s.Nt->d9 z s [27] r->ae (aK h T (some (1,v)) r)=ae (aW T true s e):=by
 induction s with
 |T=>
  intro h r v e E B ok le dm nt C;have HS:ae [27]=[27]:=cX;have j:At z r [27]:=⟨HS▸C,HS,by decide⟩;rw[sk I j p,kB I j B p,vC (pid:=1)];rfl
 |k l=>
  intro h r v e E B ok le dm nt C;have j:At z r l:=Kl.at ok C;rw[sk I j p,kB I j B p,pr (pid:=1) dm];rfl
 |b l=>
  intro h r v e E B ok le dm nt C;have j:At z r (ae ([27]++l)):=⟨C,eF _,λx H=>(aZ.mp (cu H)).elim (λq=>by rw[aB]at q;subst q;decide) (Kl.aD ok x)⟩;rw[sk I j p,kB I j B p];exact Ud nt
 |q c a x y d ix U=>
  intro h r v e E B ok le dm nt C
  induction h using dN with
  |zero=>exact(show False from le).elim|succ h=>
  obtain⟨rc,ra,rx,ry,h1,h2,h3,h4,h5⟩:=C;rw[lV I h1 p];obtain⟨dP,eC,o,Y⟩:=HQ I p u E B ok.1 dm.1 h2;have n:=ok.1.op E;have one:∀{g v':Nat} {nF e':List Nat},Kl e'->At z v' e'->At z g nF->ae (cA T (aK h T) (some (1,v')) g ra rx ry d)=ae (cj T d nF (ax a e') (aW T true x e') (aW T true y e') (wS T true x e') (wS T true y e')):=λ{g v' nF e'} pH f Q=>by
   obtain⟨Hp,eA,G,_⟩:=HQ I p u pH f ok.2.1 dm.2.1 h3;have H:=ix pH f ok.2.2.1 le.1 dm.2.2.1 nt.2.1 h4;have hy:=U pH f ok.2.2.2.1 le.2 dm.2.2.2 nt.2.2 h5;exact vJ I p u Q eA G H hy (by rw[vP];exact sP H) (by rw[vP];exact sP hy)
  unfold cK;show _=ae (if ax c e=[13]then[13]else if d=1/\ax c e=[]then[]else if d=1/\2<=(ax c e).length then(ax c e).flatMap λp=>cj T d [p] (ax a (eP true c e p)) (aW T true x (eP true c e p)) (aW T true y (eP true c e p)) (wS T true x (eP true c e p)) (wS T true y (eP true c e p))else cj T d (ax c e) (ax a e) (aW T true x e) (aW T true y e) (wS T true x e) (wS T true y e));rw[eC,o.c.bR I p];by_cases w:ax c e=[13]
  .rw[ah ((fE I (.inr (.inr rfl)) o).mpr w),ah w]
  rw[ab λq=>w ((fE I (.inr (.inr rfl)) o).mp q),ab w];by_cases h0:d=1/\ax c e=[]
  .rw[ah ⟨h0.1,(nz I o).mpr h0.2⟩,ah h0]
  rw[ab λq=>h0 ⟨q.1,(nz I o).mp q.2⟩,ab h0];by_cases J:d=1/\2<=(ax c e).length
  .rw[ah J,ah J,<-pe,<-pe (λq=>cj T d [q] _ _ _ _ _)]
   congr 1
   refine i4 λq L=>?_;have Ap:=l8 I (n.aD q L);rcases Y with⟨e1,e2⟩ |⟨e1,e2⟩
   .subst e1
    show ae (cA T (aK h T) (if rc=26+1 then some (1,q)else some (1,v)) q ra rx ry d)=_;rw[ah e2];exact one (n.one J.2 L).1 Ap Ap
   .show ae (cA T (aK h T) (if rc=26+1 then some (1,q)else some (1,v)) q ra rx ry d)=_
    rw[ab e2];have:eP true c e q=e:=by
     induction c using aX with
     |none=>exact absurd rfl e1|some l=>rfl
    rw[this];exact one E B Ap
  .rw[ab J,ab J]
   exact one E B o
end
section
variable{C:CT}{z:Z}{L:List O}{n t i N h p r c a x y d:Nat}{Q:V->St->Prop}{l lc la:List Nat}{σ:St}{T:Tb}
abbrev bV:Md:=⟨true⟩
def Ue(h:aO z r [p]):r=p:=by
 rcases h.c with⟨e,_⟩ |e |⟨e,_⟩
 .cases e
 .exact(jR e).1.symm
 .simp at e
def HT(s:e9 bV h (N+1))(j:h<=2)(I:am z)(o:At z c lc)(G:At z a la)(U:bV.gA lc d)(H:lU bV z h none d lc la x y)(Y:d<=1)(room:z.sz+bV.rF h<=4190000)(dp:z.b+3*(h+1)<=35)(B:0<=z.b)
  (q:∀z' (r:Nat) l L',Gr (bV.gC (bV.gB h)) z z'->L <+:L'->bG z' (λT=>cK T (aK h T) none c a x y d) (bV.b (h+1)) r l->Q (.j r) (st z' L')):
  ar (ai (N+3) 53 [.o 10,.p (aV c a x y d)] (st z L)) Q:=by
 refine az (ρ:=[some (.o 10),some (.p (aV c a x y d))]) rfl ?_;refine bY ?_;have hm:(L++[O.b])[L.length]?=some (aI none):=bk;refine vE (N:=N) s j I o G U (λe=>nomatch e) H Y rfl hm room dp B λz' r l L' g p R=>?_;exact q z' r l L' g (bp.trans p) R
def HU(s:e9 bV h (N+1))(j:h<=2)(I:am z)(U:z.a[t]?=some (aV c a x y d))(o:At z c lc)(G:At z a la)(J:bV.gA lc d)(H:lU bV z h none d lc la x y)(Y:d<=1)(room:z.sz+bV.rF h<=4190000)(dp:z.b+3*(h+1)<=35)(B:0<=z.b)
  (q:∀z' (r:Nat) l L',Gr (bV.gC (bV.gB h)) z z'->L <+:L'->bG z' (λT=>cK T (aK h T) none c a x y d) (bV.b (h+1)) r l->Q (.j r) (st z' L')):
  ar (ai (N+5) 81 [.o 10,.j t] (st z L)) Q:=by
 have hz:z.a.length < 4194304:=Z.bZ (c:=0) ("~18hyZ7qPmvy|A;82" room);refine az (ρ:=[some (.o 10),some (.j t)]) rfl ?_;refine ag (cp hz U) ?_;refine az (f:=54) (ρ:=[some (.o 10),some (.p (aV c a x y d))]) rfl ?_;exact HT (N:=N) s j I o G J H Y room dp B q
def Uf(I:am z)(U:z.a <+:T)(u:T.Nodup)(Y:z.a[p]?=some (aV c a x y d))(o:At z c lc)(G:At z a la)(B:d=1->lc.length<=1)
  (j:be lc=true\/be la=true/\lc≠[13]/\(d=1->lc≠[])):cK T (aK h T) none c a x y d=[p]:=by
 have A:wF T (aK h T) none c a x y d=p:=lR u (cI U Y);have cH:c≠13:=λe=>by
  have:=(fE I (.inr (.inr rfl)) o).mp e;rcases j with h |h
  .rw[this]at h;cases h
  .exact h.2.1 this
 have H:¬ (d=1/\c=2):=λe=>by
  have:=(nz I o).mp e.2;rcases j with h |h
  .rw[this]at h;cases h
  .exact h.2.2 e.1 this
 unfold cK;show(if c=13 then[13]else if d=1/\c=2 then[]else if d=1/\2<=(bi T c).length then _ else cA T (aK h T) none c a x y d)=_;rw[ab cH,ab H,o.c.bR I U,ab λe=>by have:=B e.1;have:=e.2;lia];unfold cA;rw[o.c.bR I U,A];by_cases ho:be lc=true
 .rw[ah ho]
 rw[ab ho];have J:=(j.resolve_left ho).1;show(if a=13 then[13]else if jv c a lc (bi T a)=3 then[p]else _)=_;have na:a≠13:=λe=>by rw[(fE I (.inr (.inr rfl)) G).mp e]at J;cases J
 rw[ab na,G.c.bR I U];have:jv c a lc la=3:=by unfold jv;rw[ah J]
 rw[ah this]
def Ug(s:e9 bV 0 (N+1))(I:am z)(w:l5 z h p)(room:z.sz+bV.rF 0<=4190000)(dp:z.b+3<=35)(B:0<=z.b)
  (q:∀z' L',Gr (bV.gC (bV.gB 0)) z z'->L <+:L'->Q (.j p) (st z' L')):ar (ai (N+5) 81 [.o 10,.j p] (st z L)) Q:=by
 obtain⟨c,a,x,y,d,lc,la,A,f,o,G,E,J,H,v,Y,j⟩:=w;have E:27∉lc/\(d=1->lc.length<=1):=E;refine HU (N:=N) s (by decide) I A o G (λe=>⟨by have:=E.2 e;lia,λq=>absurd q E.1⟩) (.inl ⟨rfl,E.2,j.imp id λq=>q.1⟩) Y room dp B λz' r l L' g U R=>?_;have e:=R.c z'.a (aA _) g.e.a;rw[show cK z'.a (aK 0 z'.a) none c a x y d=[p]from Uf I g.d g.e.a A o G E.2 j,cX]at e;have m:=R.a;rw[<-e]at m;rw[Ue m];exact q z' L' g U
def Uh(s:e9 bV 0 (N+1))(I:am z)(H:aO z r l)(Y:∀p∈l,p∈aD\/∃h,l5 z h p)(room:z.sz+bV.rF 0<=4190000)(dp:z.b+3<=35)(B:0<=z.b)
  (q:∀z' L',Gr (bV.gC (bV.gB 0)) z z'->L <+:L'->Q (.j r) (st z' L')):ar (ai (N+5) 81 [.o 10,.j r] (st z L)) Q:=by
 have hz:z.a.length < 4194304:=Z.bZ (c:=0) ("~18hyZ7qPmvy|A;82" room);have plain:∀{k:Int} {rest:List V},z.a[r]?=some (.j k::rest)->k≠16->ar (ai (N+5) 81 [.o 10,.j r] (st z L)) Q:=λ{k rest} J U=>
  vl (n:=N+2) I hz J U (q z L ((Gr.refl I).mono (bb _)) (aA _))
 rcases H.c with⟨e,G⟩ |e |⟨e,J⟩
 .subst G;exact plain (jx I) (by decide)
 .rcases Y r (by rw[e];simp)with U |⟨h,w⟩
  .obtain⟨k,rest,J,U⟩:=sj I (l8 I U)
   exact plain J U
  .exact Ug s I w room dp B q
 .exact plain (k:=6) J (by decide)
end
section
variable{z:Z}{L:List O}{n t i N h p r d g:Nat}{Q:V->St->Prop}{e l lc la G:List Nat}{σ:St}{c a:Option (List Nat)}{x y s:Sd}{T:Tb}
abbrev Es(e:List Nat):Prop:=e=[27]\/Ne e
def Es.op(J:Es e)(C:No c):(27∈ax c e->ax c e=[27])/\(ax c e).length<=4:=by
 induction c using aX with
 |none=>
  rcases J with h |h
  .show(27∈e->e=[27])/\e.length<=4
   rw[h];exact⟨λQ=>rfl,by decide⟩
  .exact⟨λq=>absurd q h.1,h.2⟩
 |some l=>exact⟨λq=>absurd q (C l rfl).1,(C l rfl).2⟩
def mb:bV.eG l:=λq=>nomatch (show true=false from q)
def wc(I:am z)(E:Kl e)(Y:Es e):∀{h r:Nat},s.Ok->s.eO->s.Le h->d9 z s e r->Wf bV z h r:=by
 induction s with
 |T=>exact λok dm le C=>kD (E.at C) mb _|k l=>exact λok dm le C=>kD (Kl.at ok C) mb _|b l=>exact λok dm le C=>kD (l:=ae (e++l)) ⟨C,eF _,λx H=>(aZ.mp (cu H)).elim (E.aD x) (Kl.aD ok x)⟩ mb _|q c a x y d A U=>
  intro h r ok dm le C
  induction h using dN with
  |zero=>exact(show False from le).elim|succ h=>
  obtain⟨rc,ra,rx,ry,h1,h2,h3,h4,h5⟩:=C;obtain⟨f,J⟩:=lT I h1;have ho:=Y.op dm.1;refine⟨[r],fq J,cX,jQ _ _,λp J=>?_⟩;rw[aB]at J;subst J;exact .inr ⟨rc,ra,rx,ry,d,ax c e,ax a e,h1,f,(ok.1.op E).at h2,(ok.2.1.op E).at h3,λQ=>⟨ho.2,ho.1⟩,mb,A ok.2.2.1 dm.2.2.1 le.1 h4,U ok.2.2.2.1 dm.2.2.2 le.2 h5,ok.2.2.2.2⟩
def wd(I:am z)(C:gt Y):∃z',am z'/\z.a <+:z'.a/\Y∈z'.a:=by
 by_cases h:Y∈z.a
 .exact⟨z,I,aA _,h⟩
 .refine⟨{z with a:=z.a++[Y]},⟨?_,I.f.trans ⟨[Y],rfl⟩,λt r f J=>?_,I.e,I.c,I.b⟩,⟨[Y],rfl⟩,by simp⟩
  .exact BZ.mpr ⟨I.a,by simp,λa E b H e=>by rw[aB]at H;subst H;exact h (e▸E)⟩
  .rcases Nat.lt_or_ge t z.a.length with U |Ui
   .rw[show({z with a:=z.a++[Y]}:Z).a=z.a++[Y]from rfl,n8 U]at J
    exact I.d t r f J
   .rw[show({z with a:=z.a++[Y]}:Z).a=z.a++[Y]from rfl,J_ Ui]at J
    have:r∈[Y]:=kU J;rw[aB]at this;subst this;exact C
def pI{F:List (List Nat)}:∀{z:Z},am z->∃z',am z'/\z.a <+:z'.a/\∀l∈F,du l∈z'.a:=by
 induction F with
 |nil=>exact λ{z} I=>⟨z,I,aA _,λl Y=>(dW Y).elim⟩|cons l F ih=>
  intro z I;obtain⟨u,U,p1,h1⟩:=wd I (.e l);obtain⟨z2,E,p2,h2⟩:=ih U;refine⟨z2,E,p1.trans p2,λm hm=>?_⟩;rcases bH.mp hm with e |hm
  .subst e;obtain⟨J,H⟩:=p2;rw[<-H];exact dz _ h1
  .exact h2 m hm
abbrev Aq:Nat->List (List Nat)
 |0=>[[]]|n+1=>[]::aD.flatMap λx=>(Aq n).map (x::·)
def Uj:∀{n:Nat},(∀x∈l,x∈aD)->l.length<=n->l∈Aq n:=by
 induction l with
 |nil=>intro n _ _;induction n <;>exact br|cons x l ih=>
  intro n h Y
  induction n using dN with
  |zero=>exact(J9 _ Y).elim|succ n=>exact b6 _ (fu.mpr ⟨x,h x br,eb.mpr ⟨l,ih (λy v=>h y (b6 _ v)) (BP Y),rfl⟩⟩)
def Uk(I:am z)(H:At z g G)(m:∀x∈G,x∈gv)(Y:G.length<=6):∃z2:Z,z.a <+:z2.a/\SC z2 z2.a g G:=by
 obtain⟨z2,C,p,o⟩:=pI (F:=Aq 20) I;refine⟨z2,p,C,aA _,C.a,λl U J=>?_,H.gr p,m,Y⟩;have f:∀x∈ae l,x∈aD:=λx B=>U x (cu B);have parts:∀q∈ae l,b4 z2 q:=λq A=>(eH C (f q A)).d q br;have mk:∀i,gu z2.a i (ae l)->∃i,At z2 i (ae l):=λi w=>⟨i,⟨w,parts,kn⟩,eF _,f⟩;have E:(ae l).length<=20:=by
  induction l using bo with
  |nil=>exact bb _|cons a l=>exact aL (m_ (xg 1 _)) J
 by_cases h2:2<=(ae l).length
 .obtain⟨i,hi⟩:=qs.mp (o _ (Uj (n:=20) f E))
  exact mk i (.inr (.inr ⟨h2,hi⟩))
 .rcases zT h2 with e |e
  .exact mk 2 (.inl ⟨e,rfl⟩)
  .obtain⟨q,e⟩:=e;exact mk q (.inr (.inl e))
end
section
variable{z:Z}{L:List O}{n t i N h p r d g:Nat}{Q:V->St->Prop}{e l lc la G:List Nat}{σ:St}{c a:Option (List Nat)}{x y s:Sd}{T:Tb}
def ir.Ul(q:ir z val b (XB free s e) l)(p:z.a <+:z'.a):ir z' val b (XB free s e) l:=
 ⟨λx H=>(q.d x H).gr p,q.f,λT Y u=>q.a T (p.trans Y) u,λh f1 f2 v U=>let ⟨w,m⟩:=q.c h f1 f2 v U;⟨w.gr p,λnt k=>(m nt k).gr p⟩⟩
def nN:Kl [27]:=⟨cX,by decide,.inr (.inr (.inr λx H=>by rw[aB]at H;exact .inr (.inl H)))⟩
def Ar:de .c (.j r) (.j r) σ=some (.w false,σ):=by
 show(if V.pure (.j r)&&V.pure (.j r)&&decide (fc (.j r)<=8)then some (V.w (!cb (.j r) (.j r)),σ)else none)=_;rw[vT rfl];rfl
def Au:de .a (.j r) (.j r) σ=some (.w true,σ):=by
 show(if V.pure (.j r)&&V.pure (.j r)&&decide (fc (.j r)<=8)then some (V.w (cb (.j r) (.j r)),σ)else none)=_;rw[vT rfl];rfl
structure HV(c a:Option (List Nat))(x y:Sd)(d:Nat)(e G:List Nat):Prop where
 r:(Sd.q c a x y d).Ok
 f:(Sd.q c a x y d).eO
 j:(Sd.q c a x y d).Nt
 g:(Sd.q c a x y d).Le 3
 o:nJ e (.q c a x y d)
 k:(Sd.q c a x y d).iq\/(28∉e/\(Sd.q c a x y d).dy)
 u:(Sd.q c a x y d).al < 300000
 n:(Sd.q c a x y d).sc<=1000
 w:(Sd.q c a x y d).ac<=100000
 b:Kl e
 h:Ne e
 l:Kl G
 i:∀x∈G,x∈gv
 m:G.length<=2
 p:(bu G (.q c a x y d)).Ok
 t:(bu G (.q c a x y d)).al < 300000
 v:(bu G (.q c a x y d)).ac<=100000
 s:Kl (aQ G e)
def Av(hf:4<=f)(A:∀N,f<=N->pG c a x y d free N)(I:am z)(U:(Sd.q c a x y d).ac<=100000)(w:(Sd.q c a x y d).al < 300000)(room:z.sz<=4000000)(E:Kl e)(Y:f<=N)
  (q:∀z' (r:Nat) l L',Gr 100001 z z'->L <+:L'->aO z' r (ae l)->ir z' (λT=>aW T free (.q c a x y d) e) (Sd.q c a x y d).al (XB free (.q c a x y d) e) l->Q (.j r) (st z' L')):
  ar (ai N 65 [.o 12,ci c a x y d,.r (aa e),.w free] (st z L)) λv σ=>ar (ai N 58 [.o 2,v] σ) Q:=by
 refine A N Y z L _ e I ("~2r9n^XWDOmI|feS287_|u" U room) E λu l L1 J p1 H=>?_;have s1:=J.f;have C:=H.f;obtain⟨n,rfl⟩:=eW (k:=3) (N:=N) ("~6|4tMblKt>J" hf Y);refine i8 (n:=n) J.e ("~Qm|z4F03GX7rDqHC_F7I4QoPY" s1 room U) H.d ("~3N2Yxf9yno>81Zglesa" C w) λz2 r L2 j p2 h2=>?_;exact q z2 r l L2 ((J.trans j).mono ("~?puOkoWzmOlsIdQ9>I" U)) (p1.trans p2) h2 (H.Ul j.d)
end
section
variable{z:Z}{L:List O}{n t i N h p r d g:Nat}{Q:V->St->Prop}{e l lc la G:List Nat}{σ:St}{c a:Option (List Nat)}{x y s:Sd}{T:Tb}
def HW{P:Nat->Prop}(w:P 13)(Y:be held=false)(U:be A=false)(H:∀p∈I,P p)(v:∀p∈d_,P p):∀p∈cj T d held A I d_ E C,P p:=by
 unfold cj;rw[ab (by rw[Y];decide)]
 split
 .intro p J;rw[aB]at J;rw[J];exact w
 .rw[ab (by rw[U];decide)]
  split
  .intro p J;exact(aZ.mp J).elim (H p) (v p)
  .split
   .exact H
   .exact v
def Um:∀{e:List Nat},Kl e->27∉e->28∉e->s.Ok->s.eO->s.dy->∀p∈aW T true s e,p∈aD/\p≠28:=by
 induction s with
 |T=>
  intro e E h7 h8 ok Y f;exact λp J=>⟨E.aD p J,λq=>h8 (q▸J)⟩
 |k l=>
  intro e E h7 h8 ok Y f;exact λp J=>⟨Kl.aD ok p J,λq=>f (q▸J)⟩
 |b l=>
  intro e E h7 h8 ok Y f;exact λp J=>(aZ.mp J).elim (λJ=>⟨E.aD p J,λq=>h8 (q▸J)⟩) λJ=>⟨Kl.aD ok p J,λq=>f (q▸J)⟩
 |q c a x y d A U=>
  intro e E h7 h8 ok Y f;have op:∀{o:Option (List Nat)} {e:List Nat},27∉e->28∉e->No o->fF o->be (ax o e)=false:=λ{o e} h7 h8 H n2=>by
   induction o using aX with
   |none=>exact l9 h7 h8|some l=>exact l9 (H l rfl).1 (n2 l rfl)
  have C:=op h7 h8 Y.1 f.1;have kh:=ok.1.op E;have u:(13:Nat)∈aD/\(13:Nat)≠28:=by decide
  rw[vQ]
  split
  .intro p J;rw[aB]at J;rw[J];exact u
  split
  .intro p J;cases J
  split
  .rename_i h2
   intro p J;obtain⟨q,B,J⟩:=fu.mp J;obtain⟨kq,_⟩:=kh.one h2.2 B;have v:=ma C;have w:27∉ax c e:=λk=>by
    unfold be at C;rw[bj.mpr k,Bool.true_or]at C;cases C
   have I:27∉ax c e/\28∉ax c e:=⟨w,v⟩;have j:27∉eP true c e q:=by unfold eP;split;exact λk=>I.1 (by rw[aB]at k;rw[k];exact B);exact h7
   have e8:28∉eP true c e q:=by unfold eP;split;exact λk=>I.2 (by rw[aB]at k;rw[k];exact B);exact h8
   have m:Kl (eP true c e q):=by unfold eP;split;exact kq;exact E
   refine HW (P:=λp=>p∈aD/\p≠28) u (l9 (λk=>I.1 (by rw[aB]at k;rw[k];exact B)) λk=>I.2 (by rw[aB]at k;rw[k];exact B)) (op j e8 Y.2.1 f.2.1) (A m j e8 ok.2.2.1 Y.2.2.1 f.2.2.1) (U m j e8 ok.2.2.2.1 Y.2.2.2 f.2.2.2) p J
  .exact HW (P:=λp=>p∈aD/\p≠28) u C (op h7 h8 Y.2.1 f.2.1) (A E h7 h8 ok.2.2.1 Y.2.2.1 f.2.2.1) (U E h7 h8 ok.2.2.2.1 Y.2.2.2 f.2.2.2)
def HX(I:am z):z.a[27]?=some [.j 10,.j 1]:=I.at rfl
def Un(I:am z):z.a[28]?=some [.j 10,.j 2]:=I.at rfl
abbrev X8:List CS:=[.h (.n .c (.y (.d 1) 1 [.d 8]) (.j 58 [.d 5,.j 65 [.d 0,.d 2,.d 3,.B false]])) [.j] [],
 .g 9 (.y (.d 1) 6 [.d 7,.F [.h (.h (.q (.d 5) 18) (.h (.d 0) (.u "q"))) (.g 1),.j 58 [.d 5,.d 4]]]),
 .g 10 (.j 65 [.d 0,.j 70 [.d 0,.d 2,.d 4],.j 69 [.d 0,.d 3,.d 4],.B true]),
 .d (.z [.n .a (.d 9) (.j 58 [.d 5,.d 10]),.n .a (.q (.d 1) 2) (.g 0)])]
def HY{g:List Nat}(h:aQ g=aQ Y)(s:Sd):bu g s=bu Y s:=by
 induction s with
 |T=>
  exact rfl
 |k l=>
  show Sd.k _=Sd.k _;rw[h]
 |b l=>
  show Sd.b _=Sd.b _;rw[h]
 |q c a x y d A U=>
  have ho:∀o,dg g o=dg Y o:=λo=>by induction o using aX with |none=>rfl |some l=>(show some _=some _;rw[h])
  show Sd.q _ _ _ _ _=Sd.q _ _ _ _ _;rw[ho,ho,A,U]
def Uo{c:Option (List Nat)}{G:List Nat}(H:HV c a x y d e G)(k0:Kg G0)(r0:ae G0=G)(w0:aQ G0=aQ G)(N:Nat)(Y:119<=N/\(Sd.q c a x y d).AF<=N/\(bu G (.q c a x y d)).AF<=N/\(Sd.q c a x y d).hf<=N/\(Sd.q c a x y d).wf<=N):∀(z:Z) (L:List O) (Q:V->St->Prop),am z->z.sz<=100000->z.b=0->(∀z' L',Q (.w true) (st z' L'))->
  ar (ai (N+20) 71 [.o 12,.o 10,ci c a x y d,.r (aa e),.r (aa G0)] (st z L)) Q:=by
 obtain⟨_,h2⟩:=sL bV 2 (by decide);have Aw:=(h2 (by decide)).1;obtain⟨_,h0⟩:=sL bV 0 (by decide);have Ax:=(h0 (by decide)).1;obtain⟨Up,_⟩:=sL cl 3 (by decide);intro z L Q I room dp q;obtain⟨Y,Uq,Ur,Us,Ut⟩:=Y;have fj:=H.n;have Ay:=H.w;have w:=H.u;have ok:=H.r;have AT:∀{free:Bool},∀M,N<=M->pG c a x y d free M:=λ{free} M hM=>(HJ (s:=.q c a x y d) (N:=M) ok w ("~1vTB0xF7Vv" Uq hM)).2 c a x y d rfl;have HZ:x.hf+y.hf+6<=N:=by have:(Sd.q c a x y d).hf=x.hf+y.hf+6:=rfl;exact "~43nYaghIJw9nHDczD" this Us
 have gE:(Sd.q c a x y d).sc=x.sc+y.sc+3:=rfl;have SX:jH x (N+18):=py ok.2.2.1 ("~Ghc^f=|r2VVc2Y" HZ);have SY:jH y (N+18):=py ok.2.2.2.1 ("~Ghc^f=|r2VVpNn" HZ);have j:bV.gC (bV.gB 2)=58968:=by decide
 have Az:bV.rF 2=89152:=by decide
 refine az (ρ:=[some (.o 12),some (.o 10),some (ci c a x y d),some (.r (aa e)),some (.r (aa G0)),none,none,none,none,none,none]) rfl ?_;refine zR (N:=N+18) (e:=[27]) SX SY ok.1 ok.2.1 ("~VE0v|1WFQf" id) I ("~1Lp8PG9rgrQUo1_55W2Fj5iKT84uw" gE fj room) nN λz1 rc ra rx ry L1 A p1 c1 c2 c3 c4=>?_;have s1:=A.f;refine bY ?_;refine ag (cp (Z.bZ (c:=0) ("~AROG3UqpG=2SbVLABp4P2kd3corzAhEWE" gE fj s1 room)) (HX A.e)) ?_;refine i8 (n:=N+16) A.e ("~AROG3UqpG=2SbVLABp4P2kd3corzLtuEU" gE fj s1 room) (H.b.part A.e) (by have v1:=H.b.2.1;exact "~Kxz>GCZ<gXUY" v1) λz2 v L2 kK p2 hv=>?_;have s2:=kK.f;have d2:L2[L1.length]?=some .b:=aC bk p2;refine u5 (p:=1) (v:=v) d2 ?_;have sY:=hv;rw[H.b.1]at sY;have hV:At z2 v e:=⟨sY,H.b.1,H.b.aD⟩;have vn:At z2 rc (ax c [27]):=((ok.1.op nN).at c1).gr kK.d;have H0:At z2 ra (ax a [27]):=((ok.2.1.op nN).at c2).gr kK.d;have H1:Wf bV z2 2 rx:=(wc A.e nN (.inl rfl) ok.2.2.1 H.f.2.2.1 H.g.1 c3).gr kK.d;have H2:Wf bV z2 2 ry:=(wc A.e nN (.inl rfl) ok.2.2.2.1 H.f.2.2.2 H.g.2 c4).gr kK.d;have ho:=Es.op (e:=[27]) (.inl rfl) H.f.1;have hm:(L2.set L1.length (aI (some (1,v))))[L1.length]?=some (aI (some (1,v))):=aT d2;have AA:z2.b=0:=by rw[kK.i,A.i];exact dp
 refine vE (md:=bV) (m:=some (1,v)) (h:=2) (N:=N+17) (Aw _ ("~XPcqK73CNGUmC0G9ZvHWnBd" Y)) (by decide) kK.e vn H0 (λ_=>⟨ho.2,ho.1⟩) mb (.inr ⟨H1,H2⟩) ok.2.2.2.2 ⟨e,hV,H.h.2,rfl⟩ hm ("~3g^i7ujbG6XbR9g7Dp2=?>YkfglJjE|eiMGpQ8oE>suQh4ff1" room fj gE Az s1 s2) ("~3q4<mK;<Mxh3OKnFF" AA) ("~8G3E=2t68" AA) λz3 nO ls E U p3 R3=>?_;rw[j]at U;have s3:=U.f;refine Av (free:=true) (f:=N+1) ("~KkZY8^fpNo^j" Y) (λM hM=>AT M ("~8Qs>azpMF" hM)) U.e Ay w ("~B>7ZQyY5cGvxTR=;ShgaTZzJ_3|SrNh9c5MfGCVMTD?oTHK_" room fj gE s1 s2 s3) H.b ("~1udWq9C|KDF9" id) λz4 r4 l4 L4 g4 p4 h4 a4=>?_;have k:=g4.f;have AB:z4.b=0:=by rw[g4.i,U.i];exact AA
 have AC:z2.a <+:z4.a:=U.d.trans g4.d;have B:nO=r4:=by
  obtain⟨z5,I5,p5,u⟩:=wd g4.e (gt.b rc ra rx ry d);obtain⟨r5,pJ⟩:=qs.mp u;have s_:z1.a <+:z5.a:=(kK.d.trans AC).trans p5;have hS:d9 z5 (.q c a x y d) [27] r5:=⟨rc,ra,rx,ry,pJ,c1.gr s_,c2.gr s_,c3.gr s_,c4.gr s_⟩;have hf:=HR I5 (aA _) I5.a H.b (hV.gr (AC.trans p5)) ok H.g H.f H.j hS;rw[lV I5 pJ (aA _)]at hf;have e1:=R3.c z5.a (g4.d.trans p5) I5.a;have e2:=a4.a z5.a p5 I5.a;have e3:ls=ae l4:=by rw[<-e1,<-e2];exact hf
  have h3:=R3.a.gr g4.d;rw[e3]at h3;exact gu.inj g4.e.a h3.c h4.c
 subst B;refine ag Ar ?_;obtain⟨w4,m4⟩:=a4.c 3 rfl H.h H.f H.g;have g0:bV.gC (bV.gB 0)=216:=by decide
 have AD:bV.rF 0=1024:=by decide
 have Uu:∀p∈ae l4,p∈aD\/∃h,l5 z4 h p:=λp J=>(w4.2 p (cu J)).imp (λq=>q.1) λ⟨h',_,q⟩=>⟨h',q⟩;refine Uh (N:=N+14) (Ax _ ("~;UiWqDuX8uaSoJUtVa4pYE" Y)) g4.e h4 Uu ("~3s9V30?zs_XsE^=LMPADq13?f1vvU65B73Db>mN7DsC?n6sJL?SGLZkRgVd^uD01" room fj gE s1 s2 s3 k AD) ("~5SbWzALkLUPZw" AB) ("~8G3E=2t68" AB) λz5 L5 g5 p5=>?_;rw[g0]at g5;have s5:=g5.f;refine bF (b:=!cb (.j nO) (.j nO)) (by rw[vT rfl];rfl) ?_;have ta:=AC.trans g5.d;have AE:z5.b=0:=by rw[g5.i];exact AB
 refine HT (h:=2) (N:=N+16) (Aw _ ("~XPcqK73CIk6AQ|2|P5mrdcO" Y)) (by decide) g5.e (vn.gr ta) (H0.gr ta) (λ_=>⟨ho.2,ho.1⟩) (.inr ⟨H1.gr ta,H2.gr ta⟩) ok.2.2.2.2 ("~P;KTdInGffH<S;d5U^rfNRS6ydbOH^FzBk>RR?WXV;T_FGoehdqHT?xk1WW0mK=nby937_eq" room fj gE Az s1 s2 s3 k s5) ("~3q4<mK;<Mxh3OKnFF" AE) ("~8G3E=2t68" AE) λz6 r6 l6 L6 g6 p6 R6=>?_;rw[j]at g6;have s6:=g6.f;refine Av (free:=false) (e:=[27]) (f:=N+1) ("~KkZY8^fpNo^j" Y) (λM hM=>AT M ("~8Qs>azpMF" hM)) g6.e Ay w ("~1turbEo?X>FH5m?AM9>JY6PFraNn1BFR<1dvBn^EoeZ1kR^2GHUCP5^33zYx;4Bs5kuo1qb8" room fj gE s1 s2 s3 k s5 s6) nN ("~1udWq9C|KDF9" id) λz7 r7 l7 L7 g7 p7 h7 a7=>?_;have s7:=g7.f;have X9:=g7.d;have e7:r6=r7:=by
  obtain⟨z8,I8,p8,u⟩:=wd g7.e (gt.b rc ra rx ry d);obtain⟨r8,H3⟩:=qs.mp u;have we:z1.a <+:z8.a:=(((kK.d.trans ta).trans g6.d).trans g7.d).trans p8;have hS:d9 z8 (.q c a x y d) [27] r8:=⟨rc,ra,rx,ry,H3,c1.gr we,c2.gr we,c3.gr we,c4.gr we⟩;have hf:=HO I8 (aA _) I8.a nN ok H.g hS;rw[lV I8 H3 (aA _)]at hf;have e1:=R6.c z8.a (g7.d.trans p8) I8.a;have e2:=a7.a z8.a p8 I8.a;have e3:l6=ae l7:=by rw[<-e1,<-e2];exact hf
  have h3:=R6.a.gr g7.d;rw[e3]at h3;exact gu.inj g7.e.a h3.c h7.c
 subst e7;refine ag Ar ?_;refine zR (N:=N+18) SX SY ok.1 ok.2.1 ("~VE0v|1WFQf" id) g7.e ("~m33H;;2rsjmXTYc|8iJn5YBaANiQ5p;CI52f4f?46m4uPFbZ^eLiMC|;fFBTst2ug1hsjlDlkT^YLNSu3" room fj gE s1 s2 s3 k s5 s6 s7) H.b λz8 oc oa ox oy L8 g8 p8 o1 o2 o3 o4=>?_;have s8:=g8.f;refine jt (n:=N+18) (r:=aV oc oa ox oy d) g8.e rfl (.inl (.b ..)) ("~QYh1h>9WpD89Sn5PjC4EswyA?g0hqra6bQHB6CzWBZhlg|6fVvj008m?7^ViaNMQvSYY4cVYcsUC8vBWaitu^yb" room fj gE s1 s2 s3 k s5 s6 s7 s8) λz9 own g9 AG=>?_;have s9:=g9.f;have mc:=g9.d;have pK:z9.b=0:=by rw[g9.i,g8.i,g7.i,g6.i];exact AE
 have H4:=Es.op (e:=e) (.inr H.h) H.f.1;refine HU (h:=2) (N:=N+14) (Aw _ ("~;UiWqDuX8uaSoJZ;Zy^7H_" Y)) (by decide) g9.e AG (((ok.1.op H.b).at o1).gr mc) (((ok.2.1.op H.b).at o2).gr mc) (λ_=>⟨H4.2,H4.1⟩) (.inr ⟨(wc g8.e H.b (.inr H.h) ok.2.2.1 H.f.2.2.1 H.g.1 o3).gr mc,(wc g8.e H.b (.inr H.h) ok.2.2.2.1 H.f.2.2.2 H.g.2 o4).gr mc⟩) ok.2.2.2.2 ("~1Pdl9fA<Yk;U0XsJp4tl6Ed0P5o>80DVwjJtpZ4JI9q0wX=aPwAp<SR44<KhDqQ<pglW0hAAhIJtDznHptSOa=6;qY=_aa;UYJxVJDsF|z" room fj gE Az s1 s2 s3 k s5 s6 s7 s8 s9) ("~3q4<mK;<Mxh3OKnFF" pK) ("~8G3E=2t68" pK) λUv H8 H9 Uw gF AH wg=>?_;rw[j]at gF;have nP:=gF.f;refine Av (free:=false) (f:=N+1) ("~KkZY8^fpNo^j" Y) (λM hM=>AT M ("~8Qs>azpMF" hM)) gF.e Ay w ("~6FKAd_sMFgrF9YgVEYkxwPfcQ16p|4;el0iLgJYpIqjAij7k7kFLGApPQQtoRvgeFHppN|J_hXf2T>N6eEqP4Ka>7Sz_^35bYj<nbgsEp" room fj gE s1 s2 s3 k s5 s6 s7 s8 s9 nP) H.b ("~1udWq9C|KDF9" id) λwi H' H_ pM C Ia Ux Uy=>?_;have tb:=C.f;have Uz:H8=H':=by
  have pN:=gF.d.trans C.d;have hS:d9 wi (.q c a x y d) e own:=⟨oc,oa,ox,oy,cI pN AG,o1.gr (mc.trans pN),o2.gr (mc.trans pN),o3.gr (mc.trans pN),o4.gr (mc.trans pN)⟩;have hf:=HO C.e (aA _) C.e.a H.b ok H.g hS;rw[lV C.e (cI pN AG) (aA _)]at hf;have e1:=wg.c wi.a C.d C.e.a;have e2:=Uy.a wi.a (aA _) C.e.a;have e3:H9=ae H_:=by rw[<-e1,<-e2];exact hf
  have h3:=wg.a.gr C.d;rw[e3]at h3;exact gu.inj C.e.a h3.c Ux.c
 subst Uz;refine ag Ar ?_;refine bY ?_;refine ag (cp (Z.bZ (c:=0) ("~350t;ObH?cwIE8<KaTp3gmpzN1aCW<MbKsoC8__0|XYoM;2xAlfw15MU4L5?wS3^1HiwUBuzAM4YrPGQkPH8M|<cX<Rv36oZYm1D<2bMmepyryVhW" room fj gE s1 s2 s3 k s5 s6 s7 s8 s9 nP tb)) (Un C.e)) ?_;refine i8 (n:=N+16) C.e ("~350t;ObH?cwIE8<KaTp3gmpzN1aCW<MbKsoC8__0|XYoM;2xAlfw15MU4L5?wS3^1HiwUBuzAM4YrPGQkPH8M|<cX<Rv36oZYm1D<2bMmeqWk4ri3" room fj gE s1 s2 s3 k s5 s6 s7 s8 s9 nP tb) (k0.part C.e) (by have v2:=k0.1;exact "~Kxz>GCZ<gXUY" v2) λpO g AI iu ik hg=>?_;have Ib:=iu.f;have Ic:AI[pM.length]?=some .b:=aC bk ik;refine u5 (p:=2) (v:=g) Ic ?_;rw[r0]at hg;have hG:At pO g G:=⟨hg,H.l.1,H.l.aD⟩;have UA:(AI.set pM.length (aI (some (2,g))))[pM.length]?=some (aI (some (2,g))):=aT Ic;have tc:z4.a <+:pO.a:=((((((g5.d.trans g6.d).trans g7.d).trans g8.d).trans g9.d).trans gF.d).trans C.d).trans iu.d;have UB:Wf cl pO 3 nO:=Hl (h:=2) (h4.gr tc) (w4.gr tc);have UC:be G=false:=l9 (λq=>(jI 27 (H.i 27 q)).2.2.1 rfl) λq=>(jI 28 (H.i 28 q)).2.1 rfl;have UD:cl.gB 3=1331713:=by decide
 have X':cl.rP 3=249856:=by decide
 have AJ:pO.b=0:=by rw[iu.i,C.i,gF.i];exact pK
 refine az (f:=83) (ρ:=[some (.o 10),some (.j nO),some (.o (pM.length+14))]) rfl ?_;refine Up (N+18) ("~d|msV<YiBAg8eAvm3yr1A" Y) pO _ nO pM.length (2,g) _ iu.e UB ⟨G,hG,H.m,rfl,UC⟩ UA (by lia) ("~4ZfKrAH5;swPogw" AJ) ("~8G3E=2t68" AJ) λpP Ie UE AK iv Ig Ih=>?_;rw[UD]at iv;have UF:=iv.f;refine Ao k0 ok ("~7556CAkBlO0" Ut) c a x y d rfl pP AK _ iv.e (Z.bZ (c:=0) (by lia)) λX_ Ya=>?_;refine HK (n:=N+16) iv.e (Z.bZ (c:=0) (by lia)) H.b k0 λUG s_=>?_;rw[w0];have wO:∀o,dg G0 o=dg G o:=λo=>by induction o using aX with |none=>rfl |some l=>(show some _=some _;rw[w0])
 rw[wO c,wO a,HY w0 x,HY w0 y];have Yb:=H.v;have Ii:=H.t;refine(HJ (s:=bu G (.q c a x y d)) (free:=true) (N:=N+19) H.p Ii ("~7556CAkBlO0" Ur)).2 _ _ _ _ _ rfl pP UG _ (aQ G e) iv.e (show pP.sz+(bu G (.q c a x y d)).ac < 4194304 by lia) H.s λUH AL Yc me Yd AM=>?_;have me:Gr (bu G (.q c a x y d)).ac pP UH:=me;have Ye:=me.f;have UI:AL.length<=(bu G (.q c a x y d)).al:=AM.f;refine i8 (n:=N+16) me.e (by lia) AM.d ("~3N2Yxf9yno>81Zglesa" UI Ii) λIj UJ UK nQ Yf UL=>?_;have UM:Ie=UJ:=by
  have wj:=(iv.d.trans me.d).trans nQ.d;obtain⟨i9,td,S⟩:=Uk nQ.e (hG.gr wj) H.i (by have v3:=H.m;exact "~V_Q_Uc37" v3);obtain⟨UN,AO⟩:=m4 H.j H.o i9 i9.a 2 g G ((tc.trans wj).trans td) S (by decide);have AO:=AO H.k;have e1:=Ih.c i9.a ((me.d.trans nQ.d).trans td) S.d;have e2:aW i9.a true (bu G (.q c a x y d)) (aQ G e)=AL:=AM.a i9.a (nQ.d.trans td) S.d;have e0:aK 3 i9.a (some (2,g)) nO=(ae l4).flatMap (FF i9.a 2 g):=by
   unfold aK;rw[(h4.gr ((tc.trans wj).trans td)).bR S.a S.b];rfl
  have B:ae ((ae l4).flatMap (FF i9.a 2 g))=ae (l4.flatMap (FF i9.a 2 g)):=by
   rcases H.k with cH |⟨lW,ns⟩
   .obtain⟨t0,UO⟩:=Aa H.b
    exact zW (t:=t0) (λp J sS=>by rw[pD S J,ab sS]) (UN cH t0 UO)
   .have hk:=Um (T:=i9.a) H.b H.h.1 lW ok H.f ns
    rw[a4.a i9.a (((tc.trans wj).trans td)) S.d]at hk;rw[sh (l:=ae l4) (λp J=>by rw[pD S (hk p (cu J)).1,ab (hk p (cu J)).2]),sh (l:=l4) (λp J=>by rw[pD S (hk p J).1,ab (hk p J).2]),eF]
  have e5:UE=ae AL:=by rw[<-e1,<-e2,<-AO,<-B,<-e0]
  have h3:=Ih.a.gr (me.d.trans nQ.d);rw[e5]at h3;exact gu.inj nQ.e.a h3.c UL.c
 subst UM;refine ag Au ?_;conv=>whnf
 have UP:Ij.b=0:=by rw[nQ.i,me.i,iv.i];exact AJ
 rw[UP];exact q Ij UK
end
section
variable{z:Z}{L:List O}{n t i N h p r b:Nat}{Q:V->St->Prop}{e l S A G:List Nat}{σ:St}{T:Tb}
abbrev Ks(l:List Nat):Prop:=Kl l/\(l=[0]\/l=[1]\/l=[13]\/∀x∈l,x∈cg)
abbrev dU(S A:List Nat):Bool:=decide (A=[0]\/A=[1]\/A=[13])||FU S A
def Ks.co(h:Ks l):∀x∈l,x∈Mine.Lake.co:=λx H=>by
 rcases h.2 with e |e |e |e
 .rw[e,aB]at H;subst H;decide
 .rw[e,aB]at H;subst H;decide
 .rw[e,aB]at H;subst H;decide
 .exact Hh x (e x H)
def Ik(I:am z)(c:Ks S)(Y:Ks A)(q:∀z' L',Gr 0 z z'->L <+:L'->Q (.w (dU S A)) (st z' L')):ar (ai (n+1) 63 [.o 12,.r (aa S),.r (aa A)] (st z L)) Q:=by
 have h1:=c.1.2.1;have h2:=Y.1.2.1;unfold dU at q;have g:A=[0]\/A=[1]\/A=[13]->ar (ai (n+1) 63 [.o 12,.r (aa S),.r (aa A)] (st z L)) Q:=λU=>by
  rw[b5 U]at q;exact Hi (n:=n) ("~W8qSN|Tl" h1) U (q z L (Gr.refl I) (aA _))
 rcases Y.2 with e |e |e |e
 .exact g (.inl e)
 .exact g (.inr (.inl e))
 .exact g (.inr (.inr e))
 .have nt:¬ (A=[0]\/A=[1]\/A=[13]):=by
   rintro(h |h |h)
   .exact absurd (e 0 (by rw[h];simp)) (by decide)
   .exact absurd (e 1 (by rw[h];simp)) (by decide)
   .exact absurd (e 13 (by rw[h];simp)) (by decide)
  rw[cd nt]at q;exact Hj (n:=n) I (sW e) e c.co ("~Kxz>GCZ<gXUY" h2) ("~Kxz>GCZ<gXUY" h1) q
def Ks.at(h:Ks l)(C:aO z r (ae l)):At z r l:=Kl.at h.1 C
def UQ(I:am z)(c:Ks S)(Y:Ks A)(j:At z b A):(lJ b||iX S A)=dU S A:=by
 have a:=fE I (.inl rfl) j;have e1:=fE I (.inr (.inl rfl)) j;have f:=fE I (.inr (.inr rfl)) j;have U:lJ b=decide (A=[0]\/A=[1]\/A=[13]):=by
  refine o_ ?_;unfold lJ;rw[xj,tG,tG,aH,aH,aH,a,e1,f,or_assoc]
 unfold dU;rw[U];rcases Y.2 with e |e |e |e
 .rw[b5 (.inl e)];rfl
 .rw[b5 (.inr (.inl e))];rfl
 .rw[b5 (.inr (.inr e))];rfl
 .rw[F8 c.1.1 (sW e) Y.1.1]
def te(I:am z)(room:z.sz+2 < 4194304)(c:Ks S)(Y:Ks A)(m:At z p S)(j:At z b A)(q:∀z' L',Gr 2 z z'->L <+:L'->Q (.w (dU S A)) (st z' L')):ar (ai (n+5) 20 [.o 2,.j p,.j b] (st z L)) Q:=by
 have h1:=c.1.2.1;have h2:=Y.1.2.1;refine Fo (n:=n) I room m.c j.c ("~Q2Ntsb9XaW" h1) ("~Q2Ntsb9XaW" h2) λz' L' g E=>?_;rw[UQ I c Y j];exact q z' L' g E
def wk(h:τ=0\/τ=1\/τ=13):Ks [τ]:=by
 have:[τ]=[0]\/[τ]=[1]\/[τ]=[13]:=by rcases h with rfl |rfl |rfl <;>simp
 refine⟨⟨cX,by simp,this.imp id λh=>h.imp id .inl⟩,this.imp id λh=>h.imp id .inl⟩
def Il:Ks []:=⟨nv,.inr (.inr (.inr λx H=>nomatch H))⟩
def UR:dU [] A=true:=by unfold dU FU;simp
def Im(h:τ=0\/τ=1\/τ=13):dU S [τ]=true:=by
 unfold dU;rw[b5 (show[τ]=[0]\/[τ]=[1]\/[τ]=[13]by rcases h with rfl |rfl |rfl <;>simp)];rfl
end
section
variable{z:Z}{L:List O}{n t i N h p r b:Nat}{Q:V->St->Prop}{e l S A G:List Nat}{σ:St}{T:Tb}
def AP(m:∀x∈S,x∈cg)(J:p∈S):Ks [p]:=⟨⟨cX,by simp,.inr (.inr (.inr λx H=>by rw[aB]at H;subst H;exact .inl (m x J)))⟩,.inr (.inr (.inr λx H=>by rw[aB]at H;subst H;exact m x J))⟩
def wl(k:Ks A):be A=false:=by
 rcases k.2 with e |e |e |e
 .rw[e];rfl
 .rw[e];rfl
 .rw[e];rfl
 .exact l9 (λq=>absurd (e 27 q) (by decide)) λq=>absurd (e 28 q) (by decide)
def Io(m:∀x∈S,x∈cg)(Y:Ks A)(cH:A≠[13])(J:p∈S):cj T 1 [p] A c d_ U s=if dU [p] A=true then c else d_:=by
 have f:[p]≠[0]:=λe=>by
  have:p=0:=by simpa using e
  subst this;exact absurd (m 0 J) (by decide)
 unfold cj dU;rw[ab (by rw[wl (AP m J)];decide),ab cH,ab (by rw[wl Y];decide),ab (λq=>f q.1)];have:(A=[0]\/A=[1]\/FU [p] A=true)↔(decide (A=[0]\/A=[1]\/A=[13])||FU [p] A)=true:=by
  rw[tG,xj];constructor
  .rintro(q |q |q)
   .exact .inl (.inl q)
   .exact .inl (.inr (.inl q))
   .exact .inr q
  .rintro((q |q |q) |q)
   .exact .inl q
   .exact .inr (.inl q)
   .exact absurd q cH
   .exact .inr (.inr q)
 by_cases q:A=[0]\/A=[1]\/FU [p] A=true
 .rw[ah q,ah (this.mp q)]
 .rw[ab q,ab λk=>q (this.mpr k)]
theorem Ip:∀{S:List Nat},(S.flatMap λp=>if f p=true then[p]else[])=S.filter f
 |[]=>rfl|a::S=>by
  rw[dM,jf,Ip];cases f a <;>rfl
theorem Iq{f:Nat->Bool}:∀{S:List Nat},(S.flatMap λp=>if f p=true then[]else[p])=S.filter λp=>!f p
 |[]=>rfl|a::S=>by
  rw[dM,jf,Iq];cases f a <;>rfl
def US:(S.filter f).length+(S.filter λp=>!f p).length=S.length:=by
 induction S with
 |nil=>
  exact rfl
 |cons a S ih=>
  have:=ih;rw[jf,jf];cases f a
  .simp only[Bool.not_false,qp,jd,je,bI];exact "~Bl2kL<qi5ObyB_>h" ih
  .simp only[Bool.not_true,qp,jd,je,bI];exact "~Bl2kL<qi5QyuatyE" ih
def UT(m:∀x∈S,x∈cg)(Y:Ks A)(cH:A≠[13]):aW T true (.q none (some A) .T (.k []) 1) S=S.filter λp=>dU [p] A:=by
 rw[Ad (λq=>absurd (m 13 (by rw[show S=[13]from q];simp)) (by decide)),<-Ip];exact i4 λp J=>Io m Y cH J
def UU(m:∀x∈S,x∈cg)(Y:Ks A)(cH:A≠[13]):aW T true (.q none (some A) (.k []) .T 1) S=S.filter λp=>!dU [p] A:=by
 rw[Ad (λq=>absurd (m 13 (by rw[show S=[13]from q];simp)) (by decide)),<-Iq];exact i4 λp J=>Io m Y cH J
end
section
variable{z:Z}{L:List O}{n t i N h p r b:Nat}{Q:V->St->Prop}{e l S A G:List Nat}{σ:St}{T:Tb}
def UV{b:Bool}:de .c (.w b) (.w b) σ=some (.w false,σ):=by induction b <;>rfl
def Ir{S:List Nat}(kS:Ks S)(kA:Ks A)(lS:S.length<=4)(It:A.length<=4)(N:Nat)(hN:119<=N):∀(z:Z) (L:List O) (Q:V->St->Prop),am z->z.sz<=100000->z.b=0->(∀z' L',Gr 10000 z z'->L <+:L'->Q (.w true) (st z' L'))->
  ar (ai (N+20) 72 [.o 12,.o 10,.r (aa S),.r (aa A)] (st z L)) Q:=by
 obtain⟨_,h0⟩:=sL bV 0 (by decide);have Ax:=(h0 (by decide)).1;intro z L Q I room dp q;have lA:=kA.1.2.1;have g0:bV.gC (bV.gB 0)=216:=by decide
 have AD:bV.rF 0=1024:=by decide
 refine az (ρ:=[some (.o 12),some (.o 10),some (.r (aa S)),some (.r (aa A)),none,none,none,none,none,none,none,none,none,none,none]) rfl ?_;refine i8 (n:=N+16) I ("~GAIPBR9W9ScOp7" room) (kA.1.part I) ("~KkuxQaXFk4n7" It) λz1 b L1 g1 p1 hb=>?_;have s1:=g1.f;refine i8 (n:=N+16) g1.e ("~3N1r0gXGpuMAqJyuHoa" s1 room) (kS.1.part g1.e) ("~KkuxQaXFk4n7" lS) λz2 a L2 j p2 ha=>?_;have s2:=j.f;have hB:=(kA.at hb).gr j.d;have hA:=kS.at ha;refine te (n:=N+14) j.e ("~X1imCKP9O1^6gEnySbE=EQd" s2 s1 room) kS kA hA hB λz3 E U p3=>?_;have o:=U.f;refine Ik (n:=N+18) U.e kS kA λz4 L4 g4 p4=>?_;have s4:=g4.f;refine ag UV ?_;have AQ:=U.d.trans g4.d;have nk:At z4 13 [13]:=l8 g4.e (by decide);refine te (n:=N+14) g4.e ("~zu^7XPmS8t?XF33j6q=R=0slzz^c?AgK" s4 o s2 s1 room) kS (wk (.inr (.inr rfl))) (hA.gr AQ) nk λz5 L5 g5 p5=>?_;have s5:=g5.f;rw[Im (.inr (.inr rfl))];have a2:At z5 2 []:=⟨hX,rfl,λx hx=>nomatch hx⟩;refine te (n:=N+14) g5.e ("~;r98h=J4VdRj84lQYRhQ6xF0ElLEXQ_>6CROw" room s1 s2 o s4 s5) Il kA a2 (hB.gr (AQ.trans g5.d)) λz6 L6 g6 p6=>?_;have s6:=g6.f;rw[UR];have a1:At z6 1 [1]:=l8 g6.e (by decide);have Iu:=(AQ.trans g5.d).trans g6.d;refine te (n:=N+14) g6.e ("~1jC>Tz6lIzEuPk4;91olhKLk9aII86NxolMYPUzw|n" room s1 s2 o s4 s5 s6) kS (wk (.inr (.inl rfl))) (hA.gr Iu) a1 λz7 L7 g7 p7=>?_;have s7:=g7.f;rw[Im (.inr (.inl rfl))];have AR:Gr 100 z z7:=((((((g1.trans j).trans U).trans g4).trans g5).trans g6).trans g7).mono ("~3LtmAQ_6hNQdqnocwUL>y" id);have Iv:L <+:L7:=(((((p1.trans p2).trans p3).trans p4).trans p5).trans p6).trans p7;refine ag (zP ("~Vs;5aRDG" lS)) ?_;have fin:∀z' L',L7 <+:L'->Gr 9000 z7 z'->Q (.w true) (st z' L'):=λz' L' p g=>q z' L' ((AR.trans g).mono ("~43K9;MW?5xuOVJJ=jN=" id)) (Iv.trans p);have early:Q (.w true) (st z7 L7):=q z7 L7 (AR.mono ("~6x87PUki?=wJg" id)) Iv;rcases kS.2 with e |e |e |hS
 .subst e;exact early
 .subst e;exact early
 .subst e;exact early
 refine ag (Hg (sW hS)) ?_;refine ag (sV (k:=13)) ?_;by_cases cH:A=[13]
 .rw[b5 cH];exact early
 rw[cd cH];have Iw:=Iu.trans g7.d;refine ag ((hY (z:=z7) (L:=L7) (ts:=S) ("~Vs;5aRDG" lS)).a _ (aA _)) ?_;refine vG (M:=8) (c:=2) (d:=0) (g:=λp=>dU [p] A) (f:=λp=>.j p) (conds:=[.j 20 [.d 4,.d 13,.d 6]]) (e:=.d 13)
  (ρ:=[some (.o 12),some (.o 10),some (.r (aa S)),some (.r (aa A)),some (.o 2),some (.j 27),some (.j b),some (.j a),none,none,none,none,none,none,none]) (sl:=13) g7.e (by lia) ("~Vs;5aRDG" lS) (λp J z' L' Q' s p' B=>?_) (λp J G z' L' Q' s p' B=>B z' L' (Gr.refl s.e) (aA _)) λz8 L8 g8 p8=>?_
 .have:=s.f
  refine te (n:=N+14) s.e ("~36U>U0yBc6HBo8IVchzQ0zOVANh<nXZ6dqCW;Dmvg8WOAsCqcSE" room s1 s2 o s4 s5 s6 s7 this) (AP hS J) kA (l8 s.e (vH p (hS p J))) (hB.gr (Iw.trans s.d)) λz2 L2 j p2=>?_;have:=B z2 L2 j p2;cases Y:dU [p] A <;>rw[Y]at this <;>exact this
 have s8:=g8.f;rw[vY];refine ag ((hY (z:=z8) (L:=L8) (ts:=S) (by exact "~Vs;5aRDG" lS)).a _ (aA _)) ?_;refine vG (M:=0) (c:=0) (d:=0) (g:=λp=>!dU [p] A) (f:=λp=>.j p) (conds:=[.G (.j 63 [.d 0,.r true [.d 14],.d 3])]) (e:=.d 14)
  (ρ:=[some (.o 12),some (.o 10),some (.r (aa S)),some (.r (aa A)),some (.o 2),some (.j 27),some (.j b),some (.j a),some (.r (aa (S.filter λp=>dU [p] A))),none,none,none,none,none,none]) (sl:=14) g8.e (by lia) ("~Vs;5aRDG" lS) (λp J z' L' Q' s p' B=>?_) (λp J G z' L' Q' s p' B=>B z' L' (Gr.refl s.e) (aA _)) λz9 L9 g9 p9=>?_
 ·
  refine Ik (n:=N+18) (S:=[p]) s.e (AP hS J) kA λz2 L2 j p2=>?_;have:=B z2 L2 j p2;cases Y:dU [p] A <;>rw[Y]at this <;>exact this
 have s9:=g9.f;rw[vY];refine bY ?_;refine ag (cp (Z.bZ (c:=0) ("~TZWKRtG0XW4bW1;jy=d^Z<<<dWeyEk^bjVoxrr5W|bZBYt;i2R_=OUk" room s1 s2 o s4 s5 s6 s7 s8 s9)) (HX g9.e)) ?_;refine u5 (p:=1) (v:=a) bk ?_;have hm:((L9++[O.b]).set L9.length (aI (some (1,a))))[L9.length]?=some (aI (some (1,a))):=aT bk;have pm:L9 <+:(L9++[O.b]).set L9.length (aI (some (1,a))):=bE bp (av _);generalize (L9++[O.b]).set L9.length (aI (some (1,a)))=Lm at hm pm;have wm:=(Iw.trans g8.d).trans g9.d;have pK:z9.b=0:=by rw[g9.i,g8.i,AR.i];exact dp
 have AS:∀{z:Z},am z->At z 27 [27]:=λI=>l8 I (by decide);have t2:∀{z:Z},At z 2 []:=λ{z}=>⟨hX,rfl,λx hx=>nomatch hx⟩;have oc:bV.gA [27] 1:=λG=>⟨by decide,λG=>rfl⟩;have run:∀{z:Z} {L:List O} {Q:V->St->Prop} {x y:Nat} (I:am z),z2.a <+:z.a->z.sz<=200000->z.b=0->L[L9.length]?=some (aI (some (1,a)))->(x=27/\y=2\/x=2/\y=27)->
   (∀z' (r:Nat) l L',Gr 216 z z'->L <+:L'->bG z' (λT=>cK T (aK 0 T) (some (1,a)) 27 b x y 1) (bV.b 1) r l->Q (.j r) (st z' L'))->ar (ai (N+19) 52 [.o 10,.p (aV 27 b x y 1),.o (L9.length+14)] (st z L)) Q:=λ{z L Q x y} I pz room dp hm H q=>by
  have Ix:Wf bV z 0 27:=kD (AS I) mb 0;have w2:Wf bV z 0 2:=kD t2 mb 0;refine vE (md:=bV) (m:=some (1,a)) (h:=0) (N:=N+17) (Ax _ ("~XPcqK73CNGUmC0G5GqzbUSI" hN)) (by decide) I (AS I) (hB.gr pz) oc mb (.inr ?_) (by decide) ⟨S,hA.gr pz,lS,rfl⟩ hm ("~Unld8Jfjh;u5gpD|IH_nXi6" AD room) ("~3q4<mK;<MtO^4QUV|" dp) ("~8G3E=2t68" dp) λz' r l L' g p R=>?_
  .rcases H with⟨rfl,rfl⟩ |⟨rfl,rfl⟩
   .exact⟨Ix,w2⟩
   .exact⟨w2,Ix⟩
  .rw[g0]at g;exact q z' r l L' g p R
 refine run (x:=27) (y:=2) g9.e wm ("~NvKoHIgxD?VuQ3^TYXVbG3u^MicE4R4y3>07rQi|HMMkOY=HsUz;o=c<o" room s1 s2 o s4 s5 s6 s7 s8 s9) pK hm (.inl ⟨rfl,rfl⟩) λUv H8 H9 Uw gF AH wg=>?_;have nP:=gF.f;refine run (x:=2) (y:=27) gF.e (wm.trans gF.d) ("~tkBYdnH;|pM9rCJ<^P?hc9fmUVU=FX?_gmqQYBEfzwfs1j_LpWj<C8MPgtMBGGN7" room s1 s2 o s4 s5 s6 s7 s8 s9 nP) (by rw[gF.i];exact pK) (aC hm AH) (.inr ⟨rfl,rfl⟩) λwi H' H_ pM C Ia UW=>?_;have tb:=C.f;have kp:∀{z:Z},am z->∀{f:Nat->Bool},∀x∈S.filter f,b4 z x:=λ{z} I {f} x hx=>kS.1.part I x (c8.mp hx).1;have lf:∀f:Nat->Bool,(S.filter f).length<=S.length:=λf=>jQ _ _;have Iy:=lf λp=>dU [p] A;have Iz:=lf λp=>!dU [p] A;refine i8 (n:=N+16) C.e ("~V4d5_num^PPoBnX4DbKbBx;1V735Q8rn46C4Ia?_f5ymehzKsgt9do9<PxdSgv008K7l^1" room s1 s2 o s4 s5 s6 s7 s8 s9 nP tb) (kp C.e) ("~4szw3oTTRm59p6i" lS Iy) λpO Yg AI iu ik UX=>?_;have Ib:=iu.f;have IA:∀{x y:Sd} {xi yi:Nat} {z' dE:Z} {r' AU:Nat} {l' wn:List Nat},(x=.T/\xi=27/\y=.k []/\yi=2)\/(x=.k []/\xi=2/\y=.T/\yi=27)->z2.a <+:z'.a->z'.a <+:dE.a->am dE->
   bG z' (λT=>cK T (aK 0 T) (some (1,a)) 27 b xi yi 1) (bV.b 1) r' l'->(∀T,aW T true (.q none (some A) x y 1) S=wn)->aO dE AU (ae wn)->r'=AU:=λ{x y xi yi z' dE r' AU l' wn} H pz AV IB R Y Ah=>by
  obtain⟨z5,I5,p5,u⟩:=wd IB (gt.b 27 b xi yi 1);obtain⟨r5,pJ⟩:=qs.mp u;have IC:=(pz.trans AV).trans p5;have l_:aO z5 27 (ae [27]):=by rw[cX];exact(AS I5).c
  have ID:aO z5 b (ae A):=by rw[kA.1.1];exact(hB.gr IC).c
  have eG:Ko (some A):=λl e=>by cases e;exact kA.1
  have tf:d9 z5 (.q none (some A) x y 1) [27] r5/\(Sd.q none (some A) x y 1).Ok/\(Sd.q none (some A) x y 1).Le 1/\(Sd.q none (some A) x y 1).eO/\(Sd.q none (some A) x y 1).Nt:=by
   have UY:27∉A:=λq=>by
    have:=wl kA;unfold be at this;rw[bj.mpr q]at this;cases this
   have nA:No (some A):=λl e=>by cases e;exact⟨UY,It⟩
   rcases H with⟨rfl,rfl,rfl,rfl⟩ |⟨rfl,rfl,rfl,rfl⟩
   .exact⟨⟨27,b,27,2,pJ,l_,ID,l_,hX⟩,⟨(λl e=>(nomatch e)),eG,trivial,nv,by decide⟩,⟨trivial,trivial⟩,⟨(λl e=>(nomatch e)),nA,trivial,by show 27∉[];simp⟩,⟨(λl e=>(nomatch e)),trivial,by simp[Sd.Nt]⟩⟩
   .exact⟨⟨27,b,2,27,pJ,l_,ID,hX,l_⟩,⟨(λl e=>(nomatch e)),eG,nv,trivial,by decide⟩,⟨trivial,trivial⟩,⟨(λl e=>(nomatch e)),nA,by show 27∉[];simp,trivial⟩,⟨(λl e=>(nomatch e)),by simp[Sd.Nt],trivial⟩⟩
  have hf:=HR I5 (aA _) I5.a kS.1 (hA.gr IC) tf.2.1 tf.2.2.1 tf.2.2.2.1 tf.2.2.2.2 tf.1;rw[lV I5 pJ (aA _),Y]at hf;have e1:=R.c z5.a (AV.trans p5) I5.a;have e3:l'=ae wn:=by rw[<-e1];exact hf
  have h3:=R.a.gr AV;rw[e3]at h3;exact gu.inj IB.a h3.c Ah.c
 have UZ:=IA (.inl ⟨rfl,rfl,rfl,rfl⟩) (wm.trans gF.d) (C.d.trans iu.d) iu.e wg (λT=>UT hS kA cH) UX;subst UZ;refine ag Au ?_;refine i8 (n:=N+16) iu.e ("~G4e<UmzMJKAf0iXxHy_o;jB?;Nzn1Bx1IuU7lV>IPWG<Vh9UtpiAbhqMnX6HqpvpwZPdv6D32cc3" room s1 s2 o s4 s5 s6 s7 s8 s9 nP tb Ib) (kp iu.e) ("~4szw3oTTRm59p6i" lS Iz) λpP Ie AK iv Ig w=>?_;have UF:=iv.f;have Al:=IA (.inr ⟨rfl,rfl,rfl,rfl⟩) ((wm.trans gF.d).trans C.d) (iu.d.trans iv.d) iv.e UW (λT=>UU hS kA cH) w;subst Al;refine ag Au ?_;have len:∀{l:List Nat} {σ:St},l.length<=S.length->b1 .a (.r (aa l)) σ=some (.j l.length,σ):=λ{l σ} h=>by
  have:=l0 (σ:=σ) (l:=aa l) (by rw[cJ];exact "~6zzXgV;L>^w" lS h);rwa [cJ]at this
 refine aP (len Iy) ?_;refine aP (len Iz) ?_;refine aP (len (av _)) ?_;have Y:=US (f:=λp=>dU [p] A) (S:=S);have done:=fin pP AK (((((p8.trans p9).trans pm).trans AH).trans Ia).trans (ik.trans Ig)) ((((((g8.trans g9).trans gF).trans C).trans iu).trans iv).mono ("~2KUp3cU_Y3tKLK^26g^pRWr;R" id));rw[<-(vT (show(((S.filter λp=>dU [p] A).length:Int)+((S.filter λp=>!dU [p] A).length:Int))=(S.length:Int)by lia))]at done;exact done
end
section
variable{z:Z}{L:List O}{n t i N h p r b:Nat}{Q:V->St->Prop}{e l S A G:List Nat}{σ:St}{T:Tb}
structure cP(z:Z)(k:Nat):Prop where
 b:∃ns:List Nat,z.j=ns.map (λn:Nat=>V.j n)/\0 < ns.length/\ns.length<=40/\∀k∈ns,k < 99991
 a:∃p:Nat,z.i=p/\p+k<=1000
abbrev Dr(c:Nat)(z z':Z):Prop:=∃k:Nat,k<=c/\z'={z with i:=z.i+k}
def Dr.refl:Dr 0 z z:=⟨0,av _,by simp⟩
def Dr.trans(h:Dr a z z')(k:Dr b z' dE):Dr (a+b) z dE:=by
 obtain⟨i,hi,rfl⟩:=h;obtain⟨j,Y,rfl⟩:=k;exact⟨i+j,by lia,by simp[Int.add_assoc]⟩
def Dr.mono(h:Dr a z z')(k:a<=b):Dr b z z':=let ⟨i,hi,e⟩:=h;⟨i,by lia,e⟩
def Dr.inv(h:Dr a z z')(I:am z):am z':=by
 obtain⟨k,_,rfl⟩:=h;exact⟨I.a,I.f,I.d,I.e,I.c,I.b⟩
def Dr.nums(h:Dr a z z')(I:cP z (a+k)):cP z' k:=by
 obtain⟨j,Y,rfl⟩:=h;obtain⟨p,e,J⟩:=I.a;exact⟨I.b,p+j,by show z.i+j=_;rw[e];simp,by lia⟩
def Dr.rows(h:Dr a z z'):z'.a=z.a:=by obtain⟨k,_,rfl⟩:=h;rfl
def Dr.wh(h:Dr a z z'):z'.e=z.e:=by obtain⟨k,_,rfl⟩:=h;rfl
def Dr.dp(h:Dr a z z'):z'.b=z.b:=by obtain⟨k,_,rfl⟩:=h;rfl
def Dr.sz(h:Dr a z z'):z'.sz=z.sz:=by obtain⟨k,_,rfl⟩:=h;rfl
def cP.mono(h:cP z k)(e:k'<=k):cP z k':=⟨h.b,let ⟨p,q,r⟩:=h.a;⟨p,q,by lia⟩⟩
def IE(h:y≠0):iL .b (.j x) (.j y) σ=some (.j (x.fmod y),σ):=by
 exact dZ (x:=tZ .b x y) (ds h)
def U6(h:y≠0)(k:y.natAbs < 1073741824):iL .e (.j x) (.j y) σ=some (.j (x.fdiv y),σ):=by
 exact dZ (x:=tZ .e x y) (ds ⟨h,k⟩)
def U7(h:fP x=true)(k:fP y=true):iL .d (.j x) (.j y) σ=some (.j (x*y),σ):=by
 exact dZ (x:=tZ .d x y) (ds (by rw[h,k];rfl))
def AW(a b:Nat):(a:Int).fmod b=((a % b:Nat):Int):=by rw[XE _ (wU b)];rfl
def U8(a b:Nat):(a:Int).fdiv b=((a / b:Nat):Int):=by rw[Int.fdiv_eq_ediv_of_nonneg _ (wU b)];rfl
def jK(U:cP z (k+1))(u:0 < n)(q:∀v z',v < n->Dr 1 z z'->cP z' k->Q (.j v) (st z' L)):ar (ai (N+1) 55 [.o 1,.j n] (st z L)) Q:=by
 obtain⟨⟨ns,e1,Y,H,E⟩,p,w,J⟩:=id U;refine az (ρ:=[some (.o 1),some (.j n),none]) rfl ?_;refine aP (a:=()) (σ:=st {z with i:=z.i+1} L) rfl ?_;have j:∀{σ:St},b1 .a (.r z.j) σ=some (.j ns.length,σ):=λ{σ}=>by
  rw[e1];have:=l0 (σ:=σ) (l:=ns.map λn:Nat=>V.j n) (by rw[bX];lia);rwa [bX]at this
 have I:(ns.length:Int)≠0:=by lia
 refine aP j ?_;refine ag (IE I) ?_;have hm:p % ns.length < ns.length:=Nat.mod_lt _ Y;have c:z.i.fmod ns.length=((p % ns.length:Nat):Int):=by rw[w,AW]
 have m:z.i.fdiv ns.length=((p / ns.length:Nat):Int):=by rw[w,U8]
 have C:p / ns.length<=p:=Nat.div_le_self _ _;rw[c];refine ag (gp (b:=true) (l:=z.j) (t:=p % ns.length) (v:=.j (ns[p % ns.length]'hm)) rfl (by rw[e1,bX];lia) (by rw[e1,n4,iC hm];rfl)) ?_;refine aP j ?_;refine ag (U6 I (by lia)) ?_;rw[m];refine ag (U7 rfl (yN (by lia))) ?_;refine ag rfl ?_;refine ag (IE (show(n:Int)≠0 by lia)) ?_;generalize ns[p % ns.length]'hm=a;have B:((a:Int)+7*((p / ns.length:Nat):Int)).fmod n=(((a+7*(p / ns.length)) % n:Nat):Int):=by
  rw[show(a:Int)+7*((p / ns.length:Nat):Int)=((a+7*(p / ns.length):Nat):Int)by simp,AW]
 have f:Dr 1 z {z with i:=z.i+1}:=⟨1,av _,rfl⟩;have:=q _ _ (Nat.mod_lt (a+7*(p / ns.length)) u) f (f.nums (U.mono (by lia)));rw[<-B]at this;exact this
end
section
variable{z:Z}{L B:List O}{n t i N h p r b j k:Nat}{Q:V->St->Prop}{e l S A G:List Nat}{σ:St}{T:Tb}
abbrev wo:List CS:=[.k (.w .a (.d 3) [.h (.h (.h (.d 1) (.u "store")) (.j 55 [.d 0,.g 19])) (.g 0)])]
def U9(Y:v < 19):∃x:Nat,x∈cg/\∃y,(fZ.map λp=>V.p [.j p.1,.r (aa p.2)])[v]?=some (.p [.j x,y]):=by
 have h:v < fZ.length:=Y;refine⟨(fZ[v]).1,List.mem_map_of_mem (List.getElem_mem h),.r (aa (fZ[v]).2),?_⟩;rw[n4,iC h];rfl
def IF(U:cP z (k+1))(q:∀x z',x∈cg->Dr 1 z z'->cP z' k->Q (.j (x:Nat)) (st z' L)):ar (ai (N+1) 55 [.o 1,.j 19] (st z L)) λy σ=>bQ (dj (.r (fZ.map λp=>V.p [.j p.1,.r (aa p.2)])) y σ) λx σ=>bQ (dj x (.j 0) σ) Q:=by
 refine jK (n:=19) U (by decide) λv z' Y d g=>?_;obtain⟨x,H,y,e⟩:=U9 Y;refine ag (gp (b:=true) rfl (by decide) e) ?_;exact q x z' H d g
def U'{b:V}(xs:List V):∀{z:Z} {L:List O} {out:List Nat} {J:Option V} {K:cZ->ba->St->Prop},B <+:L->B.length<=j->L[j]?=some (.a (aa out))->(∀x∈out,x∈cg)->out.length+xs.length<=3->cP z (k+xs.length)->
  (∀c z' L' J,(∀x∈c,x∈cg)->c.length<=3->Dr xs.length z z'->cP z' k->B <+:L'->L'[j]?=some (.a (aa c))->K .a [some (.o 1),some (.o 12),some b,some (.o (j+14)),J] (st z' L'))->
  gn (λx ρ k σ=>bQ (fQ (.a 4) x ρ σ) λρ σ=>aM (ai (N+1)) wo ρ k σ) none xs [some (.o 1),some (.o 12),some b,some (.o (j+14)),J] K (st z L):=by
 induction xs with
 |nil=>
  intro z L out J K H E I ho Y U q;exact(q out z L J ho (by simpa using Y) Dr.refl U H I:_)
 |cons x xs ih=>
  intro z L out J K H E I ho Y U q;simp only[bI]at Y U q;show aM (ai (N+1)) wo [some (.o 1),some (.o 12),some b,some (.o (j+14)),some x] _ (st z L);refine ag (ed .a I (.inl rfl)) ?_;refine IF (k:=k+xs.length) (U.mono ("~PHpK4szRm?1F" id)) λy z' v d g=>?_;refine ec I (by rw[cJ];exact "~1aDm^HvoMN4D" Y) ?_;refine ih (out:=out++[y]) (bE H E) E ?_ (λw C=>(aZ.mp C).elim (ho w) λh=>by rw[aB]at h;rw[h];exact v) (by rw[ca,Kh];exact "~4v?tbU=wvrJl><F" Y) g λc z2 L2 J h1 h2 h3 h4 h5 h6=>q c z2 L2 J h1 h2 ((d.trans h3).mono ("~2DiI17x9Ar" id)) h4 h5 h6;rw[aT I,h_];rfl
structure Ls(w:Int)(l:List Nat):Prop where
 b:Ks l
 c:l.length<=3
 d:w≠0->l≠[13]
def IG(h:S.length<=3):(ae S).length<=3:=by
 induction S using bo with
 |nil=>decide|cons a l=>exact aL (m_ (by simp)) h
def II(h:∀x∈S,x∈cg)(Y:S.length<=3):Ls w (ae S)/\∀x∈ae S,x∈cg:=by
 have U:∀x∈ae S,x∈cg:=λx H=>h x (cu H);refine⟨⟨⟨⟨eF _,aL (IG Y) (by decide),.inr (.inr (.inr λx H=>.inl (U x H)))⟩,.inr (.inr (.inr U))⟩,IG Y,λJ e=>?_⟩,U⟩;exact absurd (U 13 (by rw[e];simp)) (by decide)
def U_(h:τ=0\/τ=1\/τ=13)(e:w≠0->τ≠13):Ls w [τ]:=⟨wk h,by simp,λq Y=>e q (by simpa using Y)⟩
@[elab_as_elim] def Va{p:Nat->Prop}(f:p 0)(h1:p 1)(h2:p 2)(h3:p 3)(v:Nat)(h:v < 4):p v:=by
 have:v=0\/v=1\/v=2\/v=3:= "~<kbdwrbvwHfqqs>enLHajHErHxW?u>ktD7PS641D4L7>MGfAfKE2QukZ1dJ9GhYtHRS" h;rcases this with rfl |rfl |rfl |rfl
 .exact f
 .exact h1
 .exact h2
 .exact h3
def pQ(U:cP z (k+5))(I:am z)(hz:z.a.length < 4194304)(q:∀l z' L',Ls z.e l->(tops=false->∀x∈l,x∈cg)->Dr 5 z z'->cP z' k->L <+:L'->Q (.r (aa l)) (st z' L')):
  ar (ai (N+3) 59 [.o 1,.o 12,.w tops] (st z L)) Q:=by
 refine az (ρ:=[some (.o 1),some (.o 12),some (.w tops),none,none]) rfl ?_;have g:∀u,Dr 1 z u->cP u (k+4)->aM (ai (N+2)) [.g 3 (.r false []),.m (.a 4) (.b (.h (.r true [.g 2,.g 1,.g 3,.g 0]) (.j 55 [.d 0,.g 4]))) wo,
   .d (.j 57 [.h (.d 1) (.u "tab"),.d 3])] [some (.o 1),some (.o 12),some (.w tops),none,none] (dC Q) (st u L):=λu C U1=>by
  refine bY ?_;refine jK (k:=k+3) (n:=4) U1 (by decide) λv z2 hv d2 J=>?_;have a:=C.trans d2;have s:=a.inv I;have fin:∀xs:List V,xs.length<=3->gn (λx ρ k σ=>bQ (fQ (.a 4) x ρ σ) λρ σ=>aM (ai (N+2)) wo ρ k σ) none xs [some (.o 1),some (.o 12),some (.w tops),some (.o (L.length+14)),none]
    (λf ρ σ=>match f with |.a=>aM (ai (N+2)) [.d (.j 57 [.h (.d 1) (.u "tab"),.d 3])] ρ (dC Q) σ |f=>dC Q f ρ σ) (st z2 (L++[.a []])):=λxs H=>by
   refine U' (B:=L) (N:=N+1) (k:=k) xs (out:=[]) bp (av _) bk (λG h=>nomatch h) (by simpa using H) (J.mono ("~71>bAgxEV9V" H)) λout z3 E o4 h1 h2 h3 h4 h5 h6=>?_;have c:=a.trans h3;refine Hd (n:=N) (S:=out) (λL' p=>?_) (c.inv I) (by rw[c.rows];exact hz) (λx H=>(eH (c.inv I) (vH x (h1 x H))).d x br) ("~KeKoVn2KDpwt" h2) λL4 p4=>?_
   .exact iU (aC h6 p:L'[L.length]?=_)
   .have:=II (w:=z.e) h1 h2
    exact q _ z3 L4 this.1 (λG=>this.2) (c.mono ("~KeKp3d4pahYj" H)) h4 (h5.trans p4)
  exact Va (fin _ (by decide)) (fin _ (by decide)) (fin _ (by decide)) (fin _ (by decide)) v hv
 refine bB (b:=tops) (λht=>?_) λht=>bF ht (DI (g z (Dr.refl.mono (by decide)) (U.mono ("~2Dqt9pusjQ" id))))
 .refine jK (k:=k+4) (n:=7) U (by decide) λv u hv C U1=>?_
  refine bB (λo=>?_) λo=>DI (g u C U1);have Y:∀(m:Nat),m<=3->0 < m->(z.e≠0->m<=2)->ar (ai (N+2) 55 [.o 1,.j m] (st u L)) λy σ=>bQ (dj (.r [.r [.j 0],.r [.j 1],.r [.j 13]]) y σ) λx σ=>oD x Q σ:=λm hm h0 hw=>by
   refine jK (N:=N+1) (k:=k+3) (n:=m) U1 h0 λv z2 hv d2 J=>?_;have fin:∀τ:Nat,(τ=0\/τ=1\/τ=13)->(z.e≠0->τ≠13)->Q (.r (aa [τ])) (st z2 L):=λτ h e=>q [τ] z2 L (U_ h e) (λe=>absurd (ht.symm.trans e) (by decide)) ((C.trans d2).mono ("~9wwzQerUy" id)) (J.mono ("~2hyEG<=^" id)) (aA _)
   match v,hv with
   |0,_=>exact fin 0 (.inl rfl) λG=>by decide
   |1,_=>exact fin 1 (.inr (.inl rfl)) λG=>by decide
   |2,hv=>exact fin 13 (.inr (.inr rfl)) λe=>by have:=hw e;lia
   |v+3,hv=>lia
  rw[<-C.wh]at Y;refine bB (λhw=>?_) λhw=>?_
  .exact Y 3 (by decide) (by decide) λe=>absurd (aH.mp hw) e
  .exact Y 2 (by decide) (by decide) λe=>by decide
end
section
variable{z:Z}{L B:List O}{n t i N h p r b j k d:Nat}{Q:V->St->Prop}{e l S A G G0:List Nat}{σ:St}{T:Tb}{w:Int}{c a:Option (List Nat)}{x y s:Sd}
def Vb(n:ce l)(h:ae l=l):l.Pairwise (·<=·):=by
 rw[<-h,lP n];exact km.filter _
def Vc(h:ae l=l)(m:Nat):ae (l.take m)=l.take m:=by
 have sub:=List.take_sublist m l;rcases r_ h with n |⟨τ,Y,rfl⟩
 .have U:ce (l.take m):=⟨λq=>n.1 (sub.subset q),λq=>n.2.1 (sub.subset q),λq=>n.2.2 (sub.subset q)⟩
  have f:l.Nodup:=h▸kn;rw[lP U];refine m8 (km.filter _) ((Vb n h).sublist sub) (kl.filter _) (f.sublist sub) λx=>?_;rw[c8,iV];refine⟨λq=>q.1,λq=>⟨q,?_⟩⟩;have H:x∈ae l:=h.symm▸sub.subset q;have:=((fD n).mp H).2;generalize e:aY (l.take m) x=E
  induction E using aS with
  |false=>rfl|true=>rw[vj (λy v=>sub.subset v) e]at this;cases this
 .induction m using dN with
  |zero=>rfl|succ m=>rw[Ki,BL];exact cX
def Vd(h:Ks l)(m:Nat):Ks (l.take m):=by
 have sub:=List.take_sublist m l;have one:∀τ:Nat,(τ=0\/τ=1\/τ=13)->Ks ([τ].take m):=λτ Y=>by
  induction m using dN with
  |zero=>exact Il|succ m=>rw[Ki,BL];exact wk Y
 rcases h.2 with e |e |e |e
 .subst e;exact one 0 (.inl rfl)
 .subst e;exact one 1 (.inr (.inl rfl))
 .subst e;exact one 13 (.inr (.inr rfl))
 .have U:∀x∈l.take m,x∈cg:=λx H=>e x (sub.subset H)
  exact⟨⟨Vc h.1.1 m,aL sub.length_le h.1.2.1,.inr (.inr (.inr λx H=>.inl (U x H)))⟩,.inr (.inr (.inr U))⟩
def Ls.take(h:Ls w l)(m:Nat):Ls w (l.take m):=by
 refine⟨Vd h.b m,aL (List.length_take_le' _ _) h.c,λY e=>?_⟩
 induction l using bo with
 |nil=>simp at e|cons a r=>
  induction m using dN with
  |zero=>cases e|succ m=>
   rw[Ki]at e;have U:a=13:=(jR e).1;subst U;rcases h.b.2 with q |q |q |q
   .exact absurd (jR q).1 (by decide)
   .exact absurd (jR q).1 (by decide)
   .exact h.d Y q
   .exact absurd (q 13 br) (by decide)
def iw(h:Ks l):27∉l/\28∉l:=by
 have:=wl h;unfold be at this;constructor <;>intro q <;>rw[bj.mpr q]at this <;>simp at this
structure As(w:Int)(l:List Nat):Prop where
 b:Kl l
 c:27∉l
 a:l.length<=4
 d:w≠0->l≠[13]
 q:28∈l->w=2\/w=3
def Ls.as(h:Ls w l):As w l:=⟨h.b.1,(iw h.b).1,aL h.c (by decide),h.d,λq=>absurd q (iw h.b).2⟩
def IJ(h:Ks l)(Y:l.length<=3):Kl (ae (l++[28]))/\27∉ae (l++[28])/\(ae (l++[28])).length<=4/\(ae (l++[28])=[13]->l=[13]):=by
 have U:(ae (l++[28])).length<=4:=aL (m_ (by simp)) (by simpa using Y);refine⟨⟨eF _,aL U (by decide),?_⟩,λq=>?_,U,λq=>?_⟩
 .rcases h.2 with e |e |e |e
  .subst e;exact .inl (by decide)
  .subst e;exact .inr (.inl (by decide))
  .subst e;exact .inr (.inr (.inl (by decide)))
  .refine .inr (.inr (.inr λx H=>?_))
   rcases aZ.mp (cu H)with q |q
   .exact .inl (e x q)
   .rw[aB]at q;exact .inr (.inr q)
 .rcases aZ.mp (cu q)with q |q
  .exact(iw h).1 q
  .rw[aB]at q;cases q
 .have:13∈ae (l++[28]):=by rw[q];simp
  rcases aZ.mp (cu this)with q |q
  .rcases h.2 with e |e |e |e
   .subst e;simp at q
   .subst e;simp at q
   .exact e
   .exact absurd (e 13 q) (by decide)
  .rw[aB]at q;cases q
def Ve(h:Ls w l)(Y:w=2\/w=3):As w (ae (l++[28])):=
 let ⟨h1,h2,h3,h4⟩:=IJ h.b h.c
 ⟨h1,h2,h3,λq e=>h.d q (h4 e),λJ=>Y⟩
abbrev eQ(w:Int):Sd->Prop
 |.T=>True|.k l=>Ls w l/\∀x∈l,x∈cg|.b l=>Ls w l/\∀x∈l,x∈cg|.q c a x y d=>(∀l,c=some l->Ls w l)/\(∀l,a=some l->As w l)/\eQ w x/\eQ w y/\d<=1
theorem eQ.ok:∀{s:Sd},eQ w s->s.Ok
 |.T,_=>trivial|.k _,h=>h.1.b.1|.b _,h=>h.1.b.1|.q ..,⟨h1,h2,h3,h4,h5⟩=>⟨λl e=>(h1 l e).b.1,λl e=>(h2 l e).b,h3.ok,h4.ok,h5⟩
theorem eQ.dm:∀{s:Sd},eQ w s->s.eO
 |.T,_=>trivial|.k _,h=>(iw h.1.b).1|.b _,h=>(iw h.1.b).1|.q ..,⟨h1,h2,h3,h4,h5⟩=>⟨λl e=>⟨(iw (h1 l e).b).1,aL (h1 l e).c (by decide)⟩,λl e=>⟨(h2 l e).c,(h2 l e).a⟩,h3.dm,h4.dm⟩
theorem eQ.nt:∀{s:Sd},eQ w s->s.Nt
 |.T,_=>trivial|.k _,h=>h.2|.b _,h=>h.2|.q ..,⟨h1,h2,h3,h4,h5⟩=>⟨λl e=>(iw (h1 l e).b).2,h3.nt,h4.nt⟩
theorem eQ.lW(Y:¬ (w=2\/w=3)):∀{s:Sd},eQ w s->s.dy
 |.T,_=>trivial|.k _,h=>(iw h.1.b).2|.b _,h=>(iw h.1.b).2|.q ..,⟨h1,h2,h3,h4,h5⟩=>⟨λl e=>(iw (h1 l e).b).2,λl e q=>Y ((h2 l e).q q),h3.lW Y,h4.lW Y⟩
theorem eQ.cH(Y:w≠0):∀{s:Sd},eQ w s->s.iq
 |.T,_=>trivial|.k _,h=>trivial|.b _,h=>trivial|.q ..,⟨h1,h2,h3,h4,h5⟩=>⟨λe=>(h1 _ e).d Y rfl,λe=>(h2 _ e).d Y rfl,h3.cH Y,h4.cH Y⟩
abbrev bA:Nat->Nat |0=>12 |h+1=>6*(2*bA h+1)
abbrev bS:Nat->Nat |0=>1 |h+1=>2*bS h+3
abbrev bC:Nat->Nat |0=>0 |h+1=>6*(3+2*(bS h+bC h+1)+2*bC h)
theorem nR:∀h,12<=bA h/\1<=bS h
 |0=>by decide
 |h+1=>by have:=nR h;show 12<=6*(2*bA h+1)/\1<=2*bS h+3;exact "~1Y0aW0|KvpIKI7tjR=Fkw<m2Js;" this
theorem wp:∀{s:Sd} {h:Nat},s.Le h->s.al<=bA h/\s.sc<=bS h/\s.ac<=bC h
 |.T,h,_=>⟨(nR h).1,(nR h).2,bb _⟩|.k _,h,_=>⟨(nR h).1,(nR h).2,bb _⟩|.b _,h,_=>⟨(nR h).1,(nR h).2,bb _⟩|.q c a x y d,h+1,⟨h1,h2⟩=>by
  have v1:=wp h1;have v2:=wp h2;show 6*(x.al+y.al+1)<=6*(2*bA h+1)/\x.sc+y.sc+3<=2*bS h+3/\6*(3+(x.sc+x.ac+1)+(y.sc+y.ac+1)+x.ac+y.ac)<=6*(3+2*(bS h+bC h+1)+2*bC h);exact "~ByH?SaqRBmG|3qt2<xgw^YcN6rUb2SXHQaf1EG<vEBbBA6yL^M<;|C>4GdJaEZhTq6FEb6xvC^qCeh" v1 v2
theorem wq(g:List Nat):∀{s:Sd} {h:Nat},s.Le h->(bu g s).Le h
 |.T,_,_=>trivial|.k _,_,_=>trivial|.b _,_,_=>trivial|.q c a x y d,h+1,⟨h1,h2⟩=>⟨wq g h1,wq g h2⟩
def th(C:Kl l)(n:l.length<=4)(Y:∀x∈G,x∈gv)(U:G.length<=2):Kl (aQ G l):=by
 unfold aQ
 split
 .rename_i h
  have hm:∀x∈l.filter (λt=>t !=28)++G,x∈cg\/x=27\/x=28:=λx H=>(aZ.mp H).elim (λq=>zZ C h x (c8.mp q).1) λq=>.inl (jI x (Y x q)).2.2.2.2.2.2.2.2.2.2.2;refine⟨eF _,?_,.inr (.inr (.inr λx H=>hm x (cu H)))⟩;have hf:(l.filter λt=>t !=28).length<=l.length:=jQ _ _;rcases Nat.eq_zero_or_pos (l.filter (λt=>t !=28)++G).length with q |q
  .rw[List.eq_nil_of_length_eq_zero q];decide
  .exact aL (m_ q) (by rw[ca];exact "~17toZcbK;deBPxVn" U n hf)
 .exact C
theorem AX(H:∀x∈G,x∈gv)(Y:G.length<=2):∀{s:Sd},eQ w s->(bu G s).Ok
 |.T,_=>trivial|.k _,h=>th h.1.b.1 (aL h.1.c (by decide)) H Y
 |.b _,h=>th h.1.b.1 (aL h.1.c (by decide)) H Y
 |.q c a x y d,⟨h1,h2,h3,h4,h5⟩=>by
  refine⟨λl e=>?_,λl e=>?_,AX H Y h3,AX H Y h4,h5⟩
  .induction c using aX with
   |none=>cases e|some m=>cases e;exact th (h1 m rfl).b.1 (aL (h1 m rfl).c (by decide)) H Y
  .induction a using aX with
   |none=>cases e|some m=>cases e;exact th (h2 m rfl).b (h2 m rfl).a H Y
def Vf:aQ G0=aQ (ae G0):=funext λl=>by unfold aQ;rw[eE]
def Vg(Y:eQ w (.q c a x y d))(le:(Sd.q c a x y d).Le 3)(E:Kl e)(v:Ne e)(J:28∈e->w=1)(kg:Kl G)(I:∀x∈G,x∈gv)(C:G.length<=2):HV c a x y d e G:=by
 have U:=wp le;have H:=wp (wq G le);have b1:bA 3=21678:=by decide
 have g:bS 3=29:=by decide
 have f:bC 3=26538:=by decide
 rw[b1,g,f]at U H;refine⟨Y.ok,Y.dm,Y.nt,le,?_,?_, "~55KdHTegV_XdqzI0q4HHe50Th8XNBz" U, "~5i7zjW;tR5Jb6l>EHWOa_OYnh=SW" U, "~55KdHTegV_XdqzI0q4HHe4v|Kq6vp1" U,E,v,kg,I,C,AX I C Y, "~55KdHTegV_XdqzI0q4HHe50Th8XNBz" H, "~55KdHTegV_XdqzI0q4HHe4v|Kq6vp1" H,th E v.2 I C⟩
 .by_cases q:28∈e
  .exact .inr (Y.lW (by rw[J q];decide))
  .exact .inl q
 .by_cases q:w=0
  .exact .inr ⟨λk=>by rw[q]at J;exact absurd (J k) (by decide),Y.lW (by rw[q];decide)⟩
  .exact .inl (Y.cH q)
end
section
variable{z:Z}{L B:List O}{n t i N h p r b j k d:Nat}{Q:V->St->Prop}{e l S A G G0:List Nat}{σ:St}{T:Tb}{w:Int}{c a:Option (List Nat)}{x y s:Sd}
abbrev nD:Nat->Nat |0=>37 |m+1=>25+2*nD m
theorem IK:∀m,37<=nD m
 |0=>by decide
 |m+1=>by have:=IK m;show 37<=25+2*nD m;exact "~xo6NlmNCTN>?qfUc^" this
abbrev pR(m N:Nat):Prop:=∀(i:Int) (z:Z) (L:List O) (Q:V->St->Prop) (k:Nat),i=m->cP z (k+nD m)->am z->z.a.length < 4194304->
 (∀c a x y d z' L',eQ z.e (.q c a x y d)->(Sd.q c a x y d).Le (m+1)->Dr (nD m) z z'->cP z' k->L <+:L'->Q (ci c a x y d) (st z' L'))->ar (ai N 60 [.o 1,.o 12,.j i] (st z L)) Q
abbrev ti:List CS:=[.g 7 (.A .b (.A .a (.j 55 [.d 0,.g 6]) (.d 6)) (.g 6)),.h (.z [.n .b (.d 7) (.t [.g 1,.g 5]),.n .e (.d 2) (.d 6)]) [.k (.w .a (.d 5) [.t [.u "q",.j 60 [.d 0,.d 1,.A .c (.d 2) (.g 1)]]])]
 [.h (.n .a (.d 7) (.g 2)) [.k (.w .a (.d 5) [.t [.u "|",.j 59 [.d 0,.d 1,.B false]]])] [.k (.w .a (.d 5) [.C (.n .b (.d 7) (.t [.g 1,.g 3])) (.t [.u "k",.j 59 [.d 0,.d 1,.B false]]) (.t [.u "T",.r true []])])]]]
abbrev Vh(C:CT)(K:cZ->ba->St->Prop):cZ->ba->St->Prop:=λf ρ σ=>match f with |.a=>aM C [] ρ K σ |f=>K f ρ σ
abbrev sD(m:Nat):Nat:=match m with |0=>6 |m+1=>1+nD m
def IL{go:Nat}(IH:∀m',m=m'+1->pR m' (N+3))(U:cP z (k+sD m))(I:am z)(hz:z.a.length < 4194304)(pB:B <+:L)(E:B.length<=j)(hj:L[j]?=some (.a out))(Y:out.length < 4194304)
  (q:∀s z' L' o7,eQ z.e s->s.Le m->Dr (sD m) z z'->cP z' k->B <+:L'->L'[j]?=some (.a (out++[dx s]))->K .a [some (.o 1),some (.o 12),some (.j m),some f,some o4,some (.o (j+14)),some (.j go),o7] (st z' L')):
  aM (ai (N+3)) ti [some (.o 1),some (.o 12),some (.j m),some f,some o4,some (.o (j+14)),some (.j go),o7] K (st z L):=by
 have g:6<=sD m:=by induction m using dN with |zero=>decide |succ m=>(have:=IK m;show 6<=1+nD m;exact "~KkQNVmEfczf<" this)
 refine jK (k:=k+(sD m - 1)) (n:=6) (U.mono ("~<eSrEM6C6VYLpysR=id>" ao g)) (by decide) λv z1 hv C U1=>?_
 suffices tl:∀u:Nat,aM (ai (N+3)) (ti.drop 1) [some (.o 1),some (.o 12),some (.j m),some f,some o4,some (.o (j+14)),some (.j go),some (.j u)] K (st z1 L)by
  have:=tl ((v+go) % 6);rw[<-AW (v+go) 6,show((v+go:Nat):Int)=(v:Int)+(go:Int)by simp]at this;exact this
 intro u;have I1:=C.inv I;have o:z1.a.length < 4194304:=by rw[C.rows];exact hz
 have w1:=C.wh;have lst:∀(tg:String) (mk:List Nat->Sd),(∀l,dx (mk l)=.p [.u tg,.r (aa l)])->(∀l,Ls z.e l->(∀x∈l,x∈cg)->eQ z.e (mk l)/\(mk l).Le m)->
   ar (ai (N+3) 59 [.o 1,.o 12,.w false] (st z1 L)) λv σ=>bm (cm .a (.o (j+14)) [.p [.u tg,v]] σ) λQ σ=>K .a [some (.o 1),some (.o 12),some (.j m),some f,some o4,some (.o (j+14)),some (.j go),some (.j u)] σ:=λtg mk hE hm=>by
  refine pQ (tops:=false) (k:=k) (U1.mono ("~mODkaR2<Do8D6toxlez" ao g)) I1 o λl z2 L2 IM rB d2 J p2=>?_;rw[w1]at IM;obtain⟨m1,m2⟩:=hm l IM (rB rfl);refine ec (aC hj p2) Y ?_;rw[<-hE];exact q (mk l) z2 _ _ m1 m2 ((C.trans d2).mono ("~Pr9fPfhrqC" g)) J (bE (pB.trans p2) E) (aT (aC hj p2))
 have leaf:aM (ai (N+3)) [.h (.n .a (.d 7) (.g 2)) [.k (.w .a (.d 5) [.t [.u "|",.j 59 [.d 0,.d 1,.B false]]])] [.k (.w .a (.d 5) [.C (.n .b (.d 7) (.t [.g 1,.g 3])) (.t [.u "k",.j 59 [.d 0,.d 1,.B false]]) (.t [.u "T",.r true []])])]]
   [some (.o 1),some (.o 12),some (.j m),some f,some o4,some (.o (j+14)),some (.j go),some (.j u)] (Vh (ai (N+3)) K) (st z1 L):=by
  refine bB (λQ=>?_) λQ=>?_
  .refine ag (ed .a hj (.inl rfl)) ?_
   exact lst "|" .b (λQ=>rfl) λl h1 h2=>⟨⟨h1,h2⟩,trivial⟩
  .refine ag (ed .a hj (.inl rfl)) ?_
   refine bB (λQ=>?_) λQ=>?_
   .exact lst "k" .k (λQ=>rfl) λl h1 h2=>⟨⟨h1,h2⟩,trivial⟩
   .refine ec hj Y ?_
    exact q .T z1 _ _ trivial trivial (C.mono ("~Vuyjs5WQ" g)) (U1.mono ("~1CJ2KxGUpiM8IC" ao)) (bE pB E) (aT hj)
 refine bB (λQ=>?_) λh=>bF h leaf;refine bB (λH=>?_) λQ=>leaf;have H:(go:Int) < m:=mq H;obtain⟨m',rfl⟩:∃m',m=m'+1:=⟨m - 1,by lia⟩;refine ag (ed .a hj (.inl rfl)) ?_;refine IH m' rfl _ z1 L _ k ("~KmWkpL;JDSD1" id) (U1.mono (by show k+nD m'<=k+(1+nD m' - 1);exact "~44onYdJHjHITsA7ub" ao)) I1 o λc a x y d z2 L2 hq le d2 J p2=>?_;rw[w1]at hq;refine ec (aC hj p2) Y ?_;exact q (.q c a x y d) z2 _ _ hq le ((C.trans d2).mono (by show 1+nD m'<=1+nD m';exact "~2Dohr|yYrE" id)) J (bE (pB.trans p2) E) (aT (aC hj p2))
end
section
variable{z:Z}{L B:List O}{n t i N h p r b j k d:Nat}{Q:V->St->Prop}{e l S A G G0:List Nat}{σ:St}{T:Tb}{w:Int}{c a:Option (List Nat)}{x y s:Sd}
abbrev wr:List CS:=[.g 5 (.r false []),.m (.a 6) (.b (.g 2)) ti,.d (.t [.d 3,.d 4,.h (.d 5) (.g 0),.h (.d 5) (.g 1),.h (.r true [.g 1,.g 1,.g 0]) (.j 55 [.d 0,.g 3])])]
abbrev IN:List CS:=[.g 4 (.t [.u "k",.j 57 [.h (.d 1) (.u "tab"),.A .a (.h (.d 4) (.g 1)) (.r true [.h (.d 1) (.u "q")])]])]
abbrev IP:List CS:=.g 4 (.t [.u "T",.r true []])::.h (.n .c (.j 55 [.d 0,.g 5]) (.g 4)) [.g 4 (.t [.u "k",.j 59 [.d 0,.d 1,.B true]]),
 .h (.D [.z [.n .a (.h (.d 1) (.u "where")) (.g 2),.n .a (.d 2) (.g 2)],.z [.n .a (.h (.d 1) (.u "where")) (.g 3),.n .f (.d 2) (.g 2)]]) IN []] []::wr
abbrev AY(C:CT)(r:List CS)(K:cZ->ba->St->Prop):cZ->ba->St->Prop:=λf ρ σ=>match f with |.a=>aM C r ρ K σ |f=>K f ρ σ
def Vi{C:CT}{r:List CS}(h:aM C r ρ K σ):aM C [] ρ (AY C r K) σ:=h
def AZ(IH:∀m',m=m'+1->pR m' (n+3))(I:am z)(hz:z.a.length < 4194304)(o:∀l,c=some l->Ls z.e l)(ha:∀l,a=some l->As z.e l)(D:Dr 12 z u)(U:cP u (k+2*sD m+1))(f:L <+:L1)
  (q:∀c a x y d z' L',eQ z.e (.q c a x y d)->(Sd.q c a x y d).Le (m+1)->Dr (nD m) z z'->cP z' k->L <+:L'->Q (ci c a x y d) (st z' L')):
  aM (ai (n+3)) wr [some (.o 1),some (.o 12),some (.j m),some (e_ c),some (e_ a),none,none,none] (dC Q) (st u L1):=by
 have H:12+sD m+sD m+1<=nD m:=by induction m using dN with |zero=>decide |succ m=>(show 12+(1+nD m)+(1+nD m)+1<=25+2*nD m;exact "~3M3gpXH44x=nxRFLRnW61" id)
 have rows:∀{c:Nat} {z':Z},Dr c u z'->z'.a.length < 4194304:=λd=>by rw[d.rows,D.rows];exact hz
 refine bY ?_;show aM (ai (n+3)) ti [some (.o 1),some (.o 12),some (.j m),some (e_ c),some (e_ a),some (.o (L1.length+14)),some (.j (0:Nat)),none] _ (st u (L1++[.a []]));refine IL (k:=k+sD m+1) (B:=L1) (out:=[]) IH (U.mono ("~5na4Je^yVXFeGUc" id)) (D.inv I) (rows Dr.refl) bp (av _) bk (by decide) λs1 z2 L2 o7 h1 h2 d2 J p2 g=>?_;have w2:=D.wh;show aM (ai (n+3)) ti [some (.o 1),some (.o 12),some (.j m),some (e_ c),some (e_ a),some (.o (L1.length+14)),some (.j (1:Nat)),o7] _ (st z2 L2);refine IL (k:=k+1) (B:=L1) (out:=[dx s1]) IH (J.mono ("~PHpLv5<45Wvs" id)) (d2.inv (D.inv I)) (rows d2) p2 (av _) g (by simp) λs2 z3 E C h3 h4 d3 U3 p3 j3=>?_;have hs:bt (st z3 E) (.o (L1.length+14))=some (true,[dx s1,dx s2]):=iU j3;show aM (ai (n+3)) [.d (.t [.d 3,.d 4,.h (.d 5) (.g 0),.h (.d 5) (.g 1),.h (.r true [.g 1,.g 1,.g 0]) (.j 55 [.d 0,.g 3])])] [some (.o 1),some (.o 12),some (.j m),some (e_ c),some (e_ a),some (.o (L1.length+14)),some (.j (1:Nat)),C] (dC Q) (st z3 E);refine ag (gp (t:=0) hs (bP rfl) rfl) ?_;refine ag (gp (t:=1) hs (bP rfl) rfl) ?_;refine jK (k:=k) (n:=3) U3 (by decide) λv z4 hv d4 U4=>?_;rw[w2]at h1;rw[d2.wh,w2]at h3;have fin:∀d:Nat,d<=1->Q (ci c a s1 s2 d) (st z4 E):=λd Y=>q c a s1 s2 d z4 E ⟨o,ha,h1,h3,Y⟩ ⟨h2,h4⟩ ((((D.trans d2).trans d3).trans d4).mono H) U4 (f.trans p3)
 match v,hv with
 |0,_=>exact fin 1 (by decide)|1,_=>exact fin 1 (by decide)|2,_=>exact fin 0 (by decide)
def IQ(IH:∀m',m=m'+1->pR m' (n+3))(I:am z)(hz:z.a.length < 4194304)(o:∀l,c=some l->Ls z.e l)(D:Dr 6 z u)(U:cP u (k+2*sD m+7))(f:L <+:L1)
  (q:∀c a x y d z' L',eQ z.e (.q c a x y d)->(Sd.q c a x y d).Le (m+1)->Dr (nD m) z z'->cP z' k->L <+:L'->Q (ci c a x y d) (st z' L')):
  aM (ai (n+3)) IP [some (.o 1),some (.o 12),some (.j m),some (e_ c),none,none,none,none] (dC Q) (st u L1):=by
 refine jK (k:=k+2*sD m+6) (n:=5) U (by decide) λv z2 hv d2 J=>?_;refine bB (λG=>?_) λG=>AZ (c:=c) (a:=none) IH I hz o (λl e=>nomatch e) ((D.trans d2).mono ("~2E59_VTnLJ" id)) (J.mono ("~5n^Jz8TmmGDO3Xq" id)) f q;have rows:∀{c:Nat} {z':Z},Dr c z z'->z'.a.length < 4194304:=λd=>by rw[d.rows];exact hz
 have D2:=D.trans d2;refine pQ (tops:=true) (k:=k+2*sD m+1) J (D2.inv I) (rows D2) λl z3 E Y G d3 U3 p3=>?_;have C:=D2.trans d3;have I3:=C.inv I;rw[D2.wh]at Y;have Vj:=C.wh;have no:aM (ai (n+3)) wr [some (.o 1),some (.o 12),some (.j m),some (e_ c),some (e_ (some l)),none,none,none] (dC Q) (st z3 E):=
  AZ (c:=c) (a:=some l) IH I hz o (λl' e=>by cases e;exact Y.as) C U3 (f.trans p3) q
 have add:(z3.e=2\/z3.e=3)->aM (ai (n+3)) IN [some (.o 1),some (.o 12),some (.j m),some (e_ c),some (e_ (some l)),none,none,none] (AY (ai (n+3)) [] (AY (ai (n+3)) wr (dC Q))) (st z3 E):=λhw=>by
  rw[Vj]at hw;have g:=Y.c;refine ag (jG (l:=l) (m:=[28]) (by simp;exact "~Pg|OryidVW" g)) ?_;refine sM (n:=n+1) (S:=l++[28]) I3 (rows C) (λx H=>?_) (by simp;exact "~GQbB7XVD;3LZ7I" g) λL4 p4=>?_
  .rcases aZ.mp H with h |h
   .exact Y.b.1.part I3 x h
   .rw[aB]at h;rw[h];exact(eH I3 (by decide:28∈aD)).d 28 br
  .exact AZ (c:=c) (a:=some (ae (l++[28]))) IH I hz o (λl' e=>by cases e;exact Ve Y hw) C U3 ((f.trans p3).trans p4) q
 refine bB (λh2=>?_) λh2=>?_
 .have hw:z3.e=2\/z3.e=3:=.inl (aH.mp h2)
  refine bB (λh=>?_) λh=>?_
  .exact bT h (add hw)
  .refine bB (λh3=>?_) λh3=>?_
   .refine bB (λh=>add hw) λh=>no
   .exact bF h3 no
 .refine bF h2 ?_
  refine bB (λh3=>?_) λh3=>?_
  .refine bB (λh=>add (.inr (aH.mp h3))) λh=>no
  .exact bF h3 no
def Vk{m:Nat}(Y:l.length<=3)(hm:m<=100):qU (.r (aa l)) .z (.j ((m:Int)+1)) σ=some (.r (aa (l.take (m+1))),σ):=by
 have U:fP ((m:Int)+1)=true:=yN (t:=m+1) (by lia);have J:qT (.j ((m:Int)+1))=some (some ((m:Int)+1)):=ds U;have e:iK (aa l) none (some ((m:Int)+1))=aa (l.take (m+1)):=by
  unfold iK oi;simp only[List.drop_zero];rw[ab ("~1udVVCpUd2;l" id),show((m:Int)+1).toNat=m+1 from "~2mdO;qk1bL56lN2h76U0=ZpMy40^j;9BJsGk" og];unfold aa;rw[<-List.map_take,bX];rcases wV l.length (m+1)with h |h
  .rw[BH h,J',tC h]
  .rw[BI h]
 show(qT (.j ((m:Int)+1))).bind _=_;rw[J];refine dY (show(aa l).length < bs by rw[cJ];exact fK Y (by decide)) ?_;show some (V.r (iK (aa l) none (some ((m:Int)+1))),σ)=_;rw[e]
def IS{m:Nat}(hm:m<=100)(E:∀m',m=m'+1->pR m' (n+3)):pR m (n+4):=λi z L Q k hi U I hz q=>by
 subst hi;have H:12+sD m+sD m+1<=nD m:=by induction m using dN with |zero=>decide |succ m=>(show 12+(1+nD m)+(1+nD m)+1<=25+2*nD m;exact "~3M3gpXH44x=nxRFLRnW61" id)
 refine az (ρ:=[some (.o 1),some (.o 12),some (.j m),none,none,none,none,none]) rfl ?_;refine jK (k:=k+2*sD m+12) (n:=3) (U.mono ("~e;uIJ32lS;=tKx|3V4^H<" H)) (by decide) λv u g C o=>?_;refine bB (λG=>?_) λG=>Vi (r:=IP) (IQ (c:=none) E I hz (λl e=>nomatch e) (C.mono (by decide)) (o.mono ("~1Hw739UEXH0qatmL" id)) (aA _) q);refine pQ (tops:=true) (k:=k+2*sD m+7) o (C.inv I) (by rw[C.rows];exact hz) λl z2 L2 Y G d2 J p2=>?_;rw[C.wh]at Y;refine ag (Vk (m:=m) Y.c hm) ?_;have fin:=IQ (c:=some (l.take (m+1))) E I hz (λl' e=>by cases e;exact Y.take _) ((C.trans d2).mono (by decide)) (J.mono ("~5o4p5anyyAXBS50" id)) p2 q;exact fin
def Vl(hm:m<=100):∀{N:Nat},4+m<=N->pR m N:=by
 induction m with
 |zero=>
  intro N h;obtain⟨n,rfl⟩:=eW (k:=4) (N:=N) ("~PoA7upV^Nl" h);exact IS hm λm' e=>by lia
 |succ m ih=>
  intro N h;obtain⟨n,rfl⟩:=eW (k:=4) (N:=N) ("~1b5y=FYjRFgy" h);refine IS hm λm' e=>?_;obtain rfl:m=m':= "~1ChNeWvXpz<>Wo" e;exact ih ("~GBzLhax9E2qT8K" hm) ("~47yzldmcs<stS;j^J" h)
end
def Vm:∀{ρ:ba} {σ:St},aM C (pre++rest) ρ K σ=aM C pre ρ (iP (aM C rest) K) σ:=by
 induction pre with
 |nil=>
  intro ρ σ;exact rfl
 |cons s pre ih=>
  intro ρ σ;have:iP (aM C (pre++rest)) K=iP (aM C pre) (iP (aM C rest) K):=funext λf=>funext λρ=>funext λσ=>by
   induction f using Mine.Lake.cZ.casesOn with
   |a=>exact ih|_=>rfl
  show yd C s ρ (iP (aM C (pre++rest)) K) σ=yd C s ρ (iP (aM C pre) (iP (aM C rest) K)) σ;rw[this]
def Vn(e:oo (bv f) args=some ρ)(T:(bv f).c=pre++rest)(J:∀K:Fl,aM (ai n) pre ρ K σ=K .a ρ1 A)(h:aM (ai n) rest ρ1 (dC Q) A):ar (ai (n+1) f args σ) Q:=
 az e (by rw[T,Vm,J];exact h)
abbrev zS(nums:List V):Z:=⟨0,nums,0,db,[.j 6,.j (-1),.j (-1)],[.j (-1),.j (-1),.j (-1)],[.u "R",.u "T",.u "Q"],0⟩
abbrev A0:ba:=[some (.o 1),some (.o 2),some (.o 10),some (.r (fZ.map λp=>.p [.j p.1,.r (aa p.2)])),some (.o 12),some (.j 11),some (.r [.j 11]),none,none,none,none,none]
def Vo(N:Nat)(nums:List V)(K:Fl):jo (λp=>p) (ur (λp=>p) (N+20)) (qZ.c.take 5) [some (.o 1),none,none,none,none,none,none,none,none,none,none,none] K [.d,.a [.j 0,.r nums]]=K .a A0 (st (zS nums) []):=by
 kernel_rfl
def Vp(N:Nat)(nums:List V)(K:Fl):aM (ai (N+20)) (qZ.c.take 5) [some (.o 1),none,none,none,none,none,none,none,none,none,none,none] K [.d,.a [.j 0,.r nums]]=K .a A0 (st (zS nums) []):=by
 have:=Vo N nums K;rw[<-Oa]at this;exact this
section
variable{z:Z}{L B:List O}{n t i N h p r b j k d:Nat}{Q:V->St->Prop}{e l S A G G0:List Nat}{σ:St}{T:Tb}{w:Int}{c a:Option (List Nat)}{x y s:Sd}
abbrev i':Nat->Nat |0=>4 |h+1=>2*i' h+6
abbrev pS:Nat->Nat |0=>4 |h+1=>pS h+2*i' h+12
theorem jL:∀h,4<=i' h/\4<=pS h
 |0=>by decide
 |h+1=>by have:=jL h;show 4<=2*i' h+6/\4<=pS h+2*i' h+12;exact "~3PyexUHO5m;qb__9Npk" id
theorem wt:∀{s:Sd} {h:Nat},s.Le h->s.hf<=i' h/\s.AF<=pS h/\s.wf<=i' h
 |.T,h,_=>⟨(jL h).1,(jL h).2,(jL h).1⟩|.k _,h,_=>⟨(jL h).1,(jL h).2,(jL h).1⟩|.b _,h,_=>⟨(jL h).1,(jL h).2,(jL h).1⟩|.q c a x y d,h+1,⟨h1,h2⟩=>by
  have v1:=wt h1;have v2:=wt h2;show x.hf+y.hf+6<=2*i' h+6/\Nat.max x.AF y.AF+x.hf+y.hf+12<=pS h+2*i' h+12/\x.wf+y.wf+4<=2*i' h+6;lia
def cP.gr{c:Nat}(h:cP z k)(g:Gr c z z'):cP z' k:=⟨by rw[g.k];exact h.b,by rw[g.j];exact h.a⟩
def Vq(nums:List V):am (zS nums):=⟨show db.Nodup by decide+kernel,aA _,λt r h e=>by
  have:t < 29:=(bW.mp e).1;lia,⟨0,rfl⟩,rfl,rfl,rfl⟩
abbrev wu:CE:=.h (.h (.d 3) (.j 55 [.d 0,.g 19])) (.g 0)
theorem Vr:∀v:Nat,v < 5->∃G0:List Nat,([V.r [],.r [.j 5],.r [.j 4,.j 5],.r [.j 9,.j 8],.r [.j 3,.j 4]]:List V)[v]?=some (.r (aa G0))/\Kg G0/\Kl (ae G0)/\(∀x∈ae G0,x∈gv)/\(ae G0).length<=2
 |0,_=>⟨[],rfl,⟨by decide,by decide⟩,⟨by decide,by decide,.inr (.inr (.inr λx H=>nomatch H))⟩,by decide,by decide⟩
 |1,_=>⟨[5],rfl,⟨by decide,by decide⟩,⟨by decide,by decide,.inr (.inr (.inr (by decide)))⟩,by decide,by decide⟩
 |2,_=>⟨[4,5],rfl,⟨by decide,by decide⟩,⟨by decide,by decide,.inr (.inr (.inr (by decide)))⟩,by decide,by decide⟩
 |3,_=>⟨[9,8],rfl,⟨by decide,by decide⟩,⟨by decide,by decide,.inr (.inr (.inr (by decide)))⟩,by decide,by decide⟩
 |4,_=>⟨[3,4],rfl,⟨by decide,by decide⟩,⟨by decide,by decide,.inr (.inr (.inr (by decide)))⟩,by decide,by decide⟩
 |v+5,h=>by lia
def Vs(xs:List V):∀{z:Z} {L:List O} {out:List Nat} {K:St->Prop} {ρ:ba},ρ[3]?=some (some (.r (fZ.map λp=>.p [.j p.1,.r (aa p.2)])))->ρ[0]?=some (some (.o 1))->B <+:L->B.length<=j->L[j]?=some (.a (aa out))->(∀x∈out,x∈cg)->out.length+xs.length<=3->cP z (k+xs.length)->
  (∀J z' L',(∀x∈J,x∈cg)->J.length<=3->Dr xs.length z z'->cP z' k->B <+:L'->L'[j]?=some (.a (aa J))->K (st z' L'))->
  ew (λx k σ=>bK (ai (N+1)) wu (ρ.set 11 (some x)) (λv σ=>bm (cm .a (.o (j+14)) [v] σ) λQ σ=>k σ) σ) none xs K (st z L):=by
 induction xs with
 |nil=>
  intro z L out K ρ h3 f u E I ho Y U q;exact(q out z L ho (by simpa using Y) Dr.refl U u I:_)
 |cons x xs ih=>
  intro z L out K ρ h3 f u E I ho Y U q;simp only[bI]at Y U q;have H:(ρ.set 11 (some x))[3]?=some (some (.r (fZ.map λp=>.p [.j p.1,.r (aa p.2)]))):=by rw[qi (by decide)];exact h3
  have o:(ρ.set 11 (some x))[0]?=some (some (.o 1)):=by rw[qi (by decide)];exact f
  show bK (ai (N+1)) wu (ρ.set 11 (some x)) (λv σ=>bm (cm .a (.o (j+14)) [v] σ) λQ σ=>ew _ none xs K σ) (st z L);unfold wu;have m:ar (ai (N+1) 55 [.o 1,.j 19] (st z L)) λy σ=>bQ (dj (.r (fZ.map λp=>V.p [.j p.1,.r (aa p.2)])) y σ) λx' σ=>bQ (dj x' (.j 0) σ) λv σ=>bm (cm .a (.o (j+14)) [v] σ) λQ σ=>ew (λx k σ=>bK (ai (N+1)) wu (ρ.set 11 (some x)) (λv σ=>bm (cm .a (.o (j+14)) [v] σ) λQ σ=>k σ) σ) none xs K σ:=by
   refine IF (k:=k+xs.length) (U.mono ("~PHpK4szRm?1F" id)) λy z' hy d g=>?_;refine ec I (by rw[cJ];exact "~1aDm^HvoMN4D" Y) ?_;refine ih (out:=out++[y]) h3 f (bE u E) E ?_ (λw hw=>(aZ.mp hw).elim (ho w) λh=>by rw[aB]at h;rw[h];exact hy) (by rw[ca,Kh];exact "~4v?tbU=wvrJl><F" Y) g λJ z2 L2 h1 h2 h3 h4 h5 h6=>q J z2 L2 h1 h2 ((d.trans h3).mono ("~2DiI17x9Ar" id)) h4 h5 h6;rw[aT I,h_];rfl
  refine ye (C:=ai (N+1)) H ?_;refine ye (C:=ai (N+1)) o ?_;exact m
end
section
variable{z:Z}{L B:List O}{n t i N h p r b j k d:Nat}{Q:V->St->Prop}{e l S A G G0:List Nat}{σ:St}{T:Tb}{w:Int}{c a:Option (List Nat)}{x y s:Sd}
abbrev IT:List CS:=[.g 10 (.h (.r true [.r true [],.r true [.p 5],.r true [.p 4,.p 5],.r true [.p 9,.p 8],.r true [.p 3,.p 4]]) (.j 55 [.d 0,.g 5])),
 .d (.j 71 [.d 4,.d 2,.j 60 [.d 0,.d 4,.g 2],.d 9,.d 10])]
def Vt(M:Nat)(Y:145<=M):∀(z:Z) (L:List O) (Q:V->St->Prop) (e:List Nat) (v3 v5 v6 v7 v8:V) (f:Option V),am z->z.sz<=90000->z.b=0->cP z 300->Kl e->Ne e->(28∈e->z.e=1)->(∀z' L',Q (.w true) (st z' L'))->
  aM (ai (M+20)) IT [some (.o 1),some (.o 2),some (.o 10),some v3,some (.o 12),some v5,some v6,some v7,some v8,some (.r (aa e)),none,f] (dC Q) (st z L):=by
 intro z L Q e v3 v5 v6 v7 v8 f I room dp U E ne hw q;refine jK (k:=299) (n:=5) U (by decide) λv u hv C U1=>?_;obtain⟨G0,e0,H,kG,o,lG⟩:=Vr v hv;refine ag (gp (b:=true) (t:=v) rfl (bP rfl) e0) ?_;have n2:nD 2=223:=by decide
 refine Vl (m:=2) (by decide) (N:=M+20) ("~PHNl6|7kC9BW" id) 2 u L _ 0 rfl (by rw[n2];exact U1.mono (by decide)) (C.inv I) (Z.bZ (c:=0) (by rw[C.sz];exact "~GAEn9w6>1ARiIQ" room)) λc a x y d z2 L2 hq le d2 J p2=>?_;have vo:28∈e->u.e=1:=by rw[C.wh];exact hw
 have f1:=wt le;have f2:=wt (wq (ae G0) le);have b1:i' 3=74:=by decide
 have g:pS 3=144:=by decide
 rw[b1,g]at f1 f2;exact Uo (Vg hq le E ne vo kG o lG) H rfl Vf M ⟨"~KkbRCFU<qBQ7" Y, "~1YN_W<qOb4e|NfZHHfPJ|UUyWJw" f1 Y, "~1YN_W<qOb4e|NfZHHfPJ|UUyWJw" f2 Y, "~1dnZpHe7o^8Wzbj;oewCLS2M4SX" f1 Y, "~1Y0dyWNYiyDkosxuOGA7yl<o3pi" f1 Y⟩ z2 L2 _ (d2.inv (C.inv I)) (by rw[d2.sz,C.sz];exact "~CjZCsZ>|e9tkz6EA" room) (by rw[d2.dp,C.dp];exact dp) q
end
section
variable{z:Z}{L B:List O}{n t i N h p r b j k d:Nat}{Q:V->St->Prop}{e l S A G G0:List Nat}{σ:St}{T:Tb}{w:Int}{c a:Option (List Nat)}{x y s:Sd}
def Vu(I:am z):am {z with e:=v}:=⟨I.a,I.f,I.d,I.e,I.c,I.b⟩
abbrev vS:V:=.r (fZ.map λp=>.p [.j p.1,.r (aa p.2)])
abbrev Vv:List CS:=.n (.d 4) (.u "where") (.j 55 [.d 0,.g 4])::.g 9 (.C (.n .a (.h (.d 4) (.u "where")) (.g 1)) (.j 57 [.d 1,.A .a (.d 7) (.r true [.h (.d 4) (.u "q")])]) (.d 7))::IT
def Vw(M:Nat)(hM:145<=M):∀(z:Z) (L:List O) (Q:V->St->Prop) (S:List Nat) (v3 v5 v6 v8:V) (f:Option V),am z->z.sz<=90000->z.b=0->cP z 301->Ls 0 S->(∀z' L',Q (.w true) (st z' L'))->
  aM (ai (M+20)) Vv [some (.o 1),some (.o 2),some (.o 10),some v3,some (.o 12),some v5,some v6,some (.r (aa S)),some v8,none,none,f] (dC Q) (st z L):=by
 intro z L Q S v3 v5 v6 v8 f I room dp U Y q;have o:=Vt M hM;refine jK (k:=300) (n:=4) U (by decide) λv u hv C U1=>?_;refine aP (a:=()) (σ:=st {u with e:=v} L) rfl ?_;have E:am {u with e:=v}:=Vu (C.inv I);have g:({u with e:=v}:Z).sz<=90000:=by show u.sz<=_;rw[C.sz];exact room
 have IU:({u with e:=v}:Z).b=0:=by show u.b=0;rw[C.dp];exact dp
 have J:cP {u with e:=v} 300:=⟨U1.b,U1.a⟩;have h3:=Y.c;refine bB (λh1=>?_) λh1=>?_
 .refine ag (jG (l:=S) (m:=[28]) (by simp;exact "~Pg|OryidVW" h3)) ?_
  refine sM (n:=M+18) (S:=S++[28]) E (Z.bZ (c:=0) ("~GAEn9w6>1ARiIQ" g)) (λx H=>?_) (by simp;exact "~GQbB7XVD;3LZ7I" h3) λL2 p2=>?_
  .rcases aZ.mp H with h |h
   .exact Y.b.1.part E x h
   .rw[aB]at h;rw[h];exact(eH E (by decide:28∈aD)).d 28 br
  .obtain⟨k1,k2,k3,_⟩:=IJ Y.b h3
   exact o _ L2 Q (ae (S++[28])) v3 v5 v6 _ v8 f E g IU J k1 ⟨k2,k3⟩ (λG=>aH.mp h1) q
 .exact o _ L Q S v3 v5 v6 _ v8 f E g IU J Y.b.1 ⟨(iw Y.b).1,aL h3 (by decide)⟩ (λq=>absurd q (iw Y.b).2) q
def Vx(M:Nat)(hM:145<=M):∀(ns:List Nat) (Q:V->St->Prop),0 < ns.length->ns.length<=40->(∀k∈ns,k < 99991)->(∀z' L',Q (.w true) (st z' L'))->
  ar (ai (M+21) 73 [.o 1] [.d,.a [.j 0,.r (ns.map λn:Nat=>V.j n)]]) Q:=by
 intro ns Q I Vy hb q;refine Vn (n:=M+20) (pre:=qZ.c.take 5) (rest:=qZ.c.drop 5) rfl rfl (Vp M _) ?_;have I0:=Vq (ns.map λn:Nat=>V.j n);have U0:cP (zS (ns.map λn:Nat=>V.j n)) 400:=⟨⟨ns,rfl,I,Vy,hb⟩,0,rfl,by decide⟩;have s0:(zS (ns.map λn:Nat=>V.j n)).sz=32:=rfl;have kE:(zS (ns.map λn:Nat=>V.j n)).b=0:=rfl;have w0:(zS (ns.map λn:Nat=>V.j n)).e=0:=rfl;generalize zS (ns.map λn:Nat=>V.j n)=z0 at*;unfold A0;refine pQ (N:=M+17) (tops:=true) (k:=395) U0 I0 (Z.bZ (c:=0) ("~5Sboq2KSqlSdI" s0)) λS u L1 m G C U1 p1=>?_;rw[w0]at m;refine pQ (N:=M+17) (tops:=true) (k:=390) U1 (C.inv I0) (Z.bZ (c:=0) (by rw[C.sz];exact "~5Sboq2KSqlSdI" s0)) λA z2 L2 hA G d2 U2 p2=>?_;have D2:=C.trans d2;refine Ir m.b hA.b (aL m.c (by decide)) (aL hA.c (by decide)) M ("~KkbRCFU<qBQ7" hM) z2 L2 _ (D2.inv I0) (by rw[D2.sz];exact "~4Zf_bGh1ZWAocv7" s0) (by rw[D2.dp];exact kE) λz3 E U p3=>?_;have o:=U.f;rw[D2.sz,s0]at o;have IV:z3.b=0:=by rw[U.i,D2.dp];exact kE
 refine bY ?_;refine Vs (N:=M+19) (ρ:=[some (.o 1),some (.o 2),some (.o 10),some vS,some (.o 12),some (.j 11),some (.r [.j 11]),some (.r (aa S)),none,none,none,none]) (B:=E) (k:=387) (out:=[]) [.j 0,.j 1,.j 2] rfl rfl bp (av _) bk (λG h=>nomatch h) (by decide) (U2.gr U) λout z4 L4 h1 h2 d4 U4 p4 j4=>?_;refine f0 j4 ?_;have p5:E <+:L4.set E.length .d:=bE p4 (av _);generalize L4.set E.length .d=L5 at p5;have I4:=d4.inv U.e;have IW:z4.a.length < 4194304:=Z.bZ (c:=0) (by rw[d4.sz];exact "~?pYUUxintLsN3XQBZ_" o);refine sM (n:=M+18) (S:=out) I4 IW (λx H=>(eH I4 (vH x (h1 x H))).d x br) ("~KeKoVn2KDpwt" h2) λL6 p6=>?_;have lo:=II (w:=0) h1 h2;refine pQ (N:=M+17) (tops:=false) (k:=382) U4 I4 IW λA2 f L7 IY G Y U5 p7=>?_;have D5:=d4.trans Y;refine Ir lo.1.b IY.b (aL lo.1.c (by decide)) (aL IY.c (by decide)) M ("~KkbRCFU<qBQ7" hM) f L7 _ (Y.inv I4) (by rw[D5.sz];exact "~=MHIk2xuO_pk^o8JAxLK" o) (by rw[D5.dp];exact IV) λz6 L8 J v=>?_;have g:=J.f;rw[D5.sz]at g;exact Vw M hM z6 L8 Q S vS (.j 11) (.r [.j 11]) _ _ J.e ("~1M;MHpkOe77MRkjQZChmnH8;?8cPu" o g) (by rw[J.i,D5.dp];exact IV) ((U5.gr J).mono (by decide)) m q
end
section
variable{z:Z}{L B:List O}{n t i N h p r b j k:Nat}{Q:V->St->Prop}
abbrev jM(i:Int):Nat:=(i % 99991).toNat
def Vz(i:Int):i.fmod 99991=(jM i:Int):=by
 unfold jM;rw[XE _ (by decide),BK (Int.emod_nonneg _ (by decide))]
def VA(i:Int):jM i < 99991:=by
 have v1:=Int.emod_lt_of_pos i (by decide:(0:Int) < 99991);have v2:=Int.emod_nonneg i (by decide:(99991:Int)≠0);unfold jM;lia
abbrev nV(l:List Nat):List V:=l.map λn:Nat=>V.j n
def VB(xs:List Int):∀{out:List Nat} {K:St->Prop},out.length+xs.length<=1000->(K [.a (nV (out++xs.map jM))])->
  ew (λx k σ=>bK C (.A .b (.d 2) (.g 99991)) [ρ0,ρ1,some x] (λv σ=>bm (cm .a (.o 0) [v] σ) λJ σ=>k σ) σ) none (xs.map .j) K [.a (nV out)]:=by
 induction xs with
 |nil=>
  intro out K Y q;rw[qt,b_]at q;exact q
 |cons x xs ih=>
  intro out K Y q;simp only[bI]at Y;have y:(nV out).length < bs:=by unfold nV;rw[bX];exact fK ("~18gANqRgpT|iy8FL" Y:out.length<=1000) (by decide)
  refine aP (a:=.z) (σ:=[.a (nV (out++[jM x]))]) ?_ (ih (out:=out++[jM x]) (by rw[ca,Kh];exact "~3PY29bR5?Z?Ml>KHEhg" Y) (by rw[c7];exact q));show(if(nV out).length < bs then some (V.z,[O.a (nV out++[.j (x.fmod 99991)])])else none)=_;rw[ah y,Vz];unfold nV;rw[kP];rfl
def VC(Y:l.length<=100):qU (.r l) .z (.j 40) σ=some (.r (l.take 40),σ):=by
 have e:iK l none (some 40)=l.take 40:=by
  show List.drop 0 (List.take (min l.length 40) l)=_;rw[List.drop_zero];rcases wV l.length 40 with h |h
  .rw[BH h,J',tC h]
  .rw[BI h]
 show(if l.length < bs then some (V.r (iK l none (some 40)),σ)else none)=_;rw[ah (fK Y (by decide)),e]
def VD:∀c:List Int,c.length<=63->ar (ai 167 74 [.r (c.map .j)] []) λv Q=>v=.w true:=by
 intro c Y;have o:=Vx 145 (by decide);refine az (ρ:=[some (.r (c.map .j)),none,none]) rfl ?_;refine ag (VC (by rw[bX];exact "~KMuVz^0FTQbj" Y)) ?_;rw[<-List.map_take];have J:(c.take 40).length<=40:=List.length_take_le _ _;generalize c.take 40=xs at J;have g:ll (.r (xs.map .j)) []=some ((none,xs.map V.j),[]):=by
  show(if(xs.map V.j).length < bs then some ((none,xs.map V.j),[])else none)=_;rw[ah (by rw[bX];exact fK J (by decide))]
 refine ag g ?_;refine aP (a:=.o 0) (σ:=[.a []]) rfl ?_;refine VB (C:=ai 166) (ρ0:=some (.r (c.map .j))) (ρ1:=none) xs (out:=[]) (by simp;exact "~KMGR4ls;;<>I" J) ?_;have T:∀k∈[]++xs.map jM,k < 99991:=λk U=>by
  rw[di]at U;obtain⟨x,_,rfl⟩:=eb.mp U;exact VA x
 have u:([]++xs.map jM).length<=40:=by rw[di,bX];exact J
 generalize []++xs.map jM=ns at T u;refine aP (a:=.r (nV ns)) (σ:=[.d]) rfl ?_;have I:b1 .a (.r (nV ns)) [.d]=some (.j ns.length,[.d]):=by
  have:=l0 (σ:=[.d]) (l:=nV ns) (by unfold nV;rw[bX];exact "~PL=4eOZdRO" u);unfold nV at this;rw[bX]at this;exact this
 refine aP I ?_;have H:∀(ns:List Nat),0 < ns.length->ns.length<=40->(∀k∈ns,k < 99991)->ar (ai 166 73 [.o 1] [.d,.a [.j 0,.r (nV ns)]]) λv σ=>oD v (λv Q=>v=.w true) σ:=λns h1 h2 h3=>o ns _ h1 h2 h3 λz' L'=>rfl;refine bB (λh=>?_) λh=>?_
 .refine aP (a:=.o 1) (σ:=[.d,.a [.j 0,.r (nV [0,0,0,4,1,1,2,2,5,1,0,0,3,1,2,0,1,0,6,3])]]) rfl ?_
  exact H _ (by decide) (by decide) (by decide)
 .have f:ns.length≠0:=λe=>by rw[e]at h;cases h
  refine aP (a:=.o 1) (σ:=[.d,.a [.j 0,.r (nV ns)]]) rfl ?_;exact H ns ("~PSB?jA2a?5" f) u T
end
end Mine.Lake
section
open PySem PyProof.Rows
namespace Mine.Lake.R
@[inline]abbrev SM:=StateT SortSt Sem
abbrev mf:Bool->Keyed->Array Keyed->Nat->Nat->Nat->SM (Option Nat):=sortPriv% PySem.Builtin.gallop
abbrev kv(p:Keyed):Int:=numOf p.1
abbrev iy(p:Keyed):Prop:=∃t,p.1=.int (kv p) t
section
variable{prog:Program}{w:World}{A:Around}{E:Value->Shared->Prop}{s:Shared}{st:SortSt}
def tj(U:kindOf st=oneType')(H:iy x)(v:iy y)(h:Q (some (decide (kv x < kv y))) st):wpS (model prog w) A E s (lt' x y) Q st:=by
 obtain⟨t,H⟩:=H;obtain⟨u,v⟩:=v;rw[lt'_eq];refine aJ (kY ?_);rw[U,keyLt'_oneType,H,v];exact aJ (wpS_lift (BX (oneLt_int ⟨rfl,a8 h⟩)))
def dV(h:a[i]?=some p)(q:Q p st):wpS (model prog w) A E s (elem' a i) Q st:=by
 rw[elem'_eq,h];exact a8 q
def cw[Decidable c](h:c)(k:wpS (model prog w) A E s a Q st):wpS (model prog w) A E s (if c then a else b) Q st:=by rw[ah h];exact k
def cB[Decidable c](h:¬ c)(k:wpS (model prog w) A E s b Q st):wpS (model prog w) A E s (if c then a else b) Q st:=by rw[ab h];exact k
abbrev tk(left:Bool)(key:Keyed)(arr:Array Keyed)(base i:Nat):SM (Option Bool):=do
 let x <-elem' arr (base+i)
 if left=true then lt' x key else do
  let r <-lt' key x
  pure (Option.map (λx=>!x) r)
abbrev A3(left:Bool)(key:Keyed)(arr:Array Keyed)(base n lo hi:Nat):SM (Option Nat):=do
 let r <-forIn [0:n] ((none,lo,hi):Option (Option Nat)×Nat×Nat) λJ c=>
  if c.2.1>=c.2.2 then pure (ForInStep.done (none,c.2.1,c.2.2))else do
   let x <-tk left key arr base (c.2.1+(c.2.2 - c.2.1) / 2)
   match x with
   |some Y=>if Y=true then pure (ForInStep.yield (none,c.2.1+(c.2.2 - c.2.1) / 2+1,c.2.2))else pure (ForInStep.yield (none,c.2.1,c.2.1+(c.2.2 - c.2.1) / 2))
   |_=>pure (ForInStep.done (some none,c.2.1,c.2.2))
 match r.1 with
 |some r=>pure r|none=>pure (some r.2.2)
abbrev VE(left:Bool)(key:Keyed)(arr:Array Keyed)(base n hint:Nat):SM (Option (Option Nat)×Nat×Nat):=
 forIn [0:n] ((none,0,1):Option (Option Nat)×Nat×Nat) λJ c=>
  if c.2.2>=n - hint then pure (ForInStep.done (none,c.2.1,c.2.2))else do
   let x <-tk left key arr base (hint+c.2.2)
   match x with
   |some Y=>if(!Y)=true then pure (ForInStep.done (none,c.2.1,c.2.2))else pure (ForInStep.yield (none,c.2.2,2*c.2.2+1))
   |_=>pure (ForInStep.done (some none,c.2.1,c.2.2))
abbrev VF(left:Bool)(key:Keyed)(arr:Array Keyed)(base n hint:Nat):SM (Option (Option Nat)×Nat×Nat):=
 forIn [0:n] ((none,0,1):Option (Option Nat)×Nat×Nat) λJ c=>
  if c.2.2>=hint+1 then pure (ForInStep.done (none,c.2.1,c.2.2))else do
   let x <-tk left key arr base (hint - c.2.2)
   match x with
   |some a=>if a=true then pure (ForInStep.done (none,c.2.1,c.2.2))else pure (ForInStep.yield (none,c.2.2,2*c.2.2+1))
   |_=>pure (ForInStep.done (some none,c.2.1,c.2.2))
def VG(left:Bool)(key:Keyed)(arr:Array Keyed)(base n hint:Nat):mf left key arr base n hint=(do
  let x <-tk left key arr base hint
  match x with
  |some right=>if right=true then(do
    let r <-VE left key arr base n hint
    match r.1 with
    |some r=>pure r|none=>A3 left key arr base n (hint+r.2.1+1) (hint+min r.2.2 (n - hint)))else(do
    let r <-VF left key arr base n hint
    match r.1 with
    |some r=>pure r|none=>A3 left key arr base n (hint+1 - min r.2.2 (hint+1)) (hint - r.2.1))
  |_=>pure none):=by kernel_rfl
abbrev ev(left:Bool)(key:Keyed)(arr:Array Keyed)(j:Nat):Bool:=match left with
 |true=>decide (K arr j < kv key)|false=>!decide (kv key < K arr j)
structure pT(arr:Array Keyed)(base n:Nat):Prop where
 b:∀i,i < n->∃p,arr[base+i]?=some p/\iy p/\kv p=K arr (base+i)
 a:∀i j,i<=j->j < n->K arr (base+i)<=K arr (base+j)
variable{left:Bool}{key:Keyed}{arr:Array Keyed}{base n hint:Nat}
def tm(g:pT arr base n)(h:i<=j)(G:j < n)(e:ev left key arr (base+j)=true):ev left key arr (base+i)=true:=by
 have:=g.a i j h G;unfold ev at*
 induction left using aS with
 |true=>exact b5 (Int.lt_of_le_of_lt this (mq e))|false=>
  rw[qv]at*;exact cd λq=>Cc e (Int.lt_of_lt_of_le q this)
def wv(U:kindOf st=oneType')(v:iy key)(g:pT arr base n)(hi:i < n)(h:Q (some (ev left key arr (base+i))) st):wpS (model prog w) A E s (tk left key arr base i) Q st:=by
 obtain⟨p,h1,h2,h3⟩:=g.b i hi;unfold ev at h;rw[<-h3]at h;refine aJ (dV h1 ?_)
 induction left using aS with
 |true=>exact tj U h2 v h|false=>exact aJ (tj U v h2 (a8 h))
abbrev tn(left:Bool)(key:Keyed)(arr:Array Keyed)(base n k:Nat):Prop:=k<=n/\(∀i,i < k->ev left key arr (base+i)=true)/\∀i,k<=i->i < n->ev left key arr (base+i)=false
def IZ(U:kindOf st=oneType')(v:iy key)(g:pT arr base n){lo:Nat}(h1:lo<=hi)(h2:hi<=n)(h3:∀i,i < lo->ev left key arr (base+i)=true)
  (h4:∀i,hi<=i->i < n->ev left key arr (base+i)=false) (h:∀k,tn left key arr base n k->Q (some k) st):wpS (model prog w) A E s (A3 left key arr base n lo hi) Q st:=by
 refine aJ (eT (gh (I:=λx c ak=>ak=st/\∃l r,c=(none,l,r)/\l<=r/\r<=n/\r - l<=n - x/\(∀i,i < l->ev left key arr (base+i)=true)/\∀i,r<=i->i < n->ev left key arr (base+i)=false)
  (Q:=λc ak=>ak=st/\∃k,c=(none,k,k)/\tn left key arr base n k) ?step ?fin ⟨rfl,lo,hi,rfl,h1,h2, "~vf0yzjyrfwLXOpBCLfd^uZ0rNQB=L_Cb" ao ao h2,h3,h4⟩) ?post)
 case post=>
  rintro c ak ⟨rfl,k,rfl,o⟩;exact a8 (h k o)
 case fin=>
  rintro c ak ⟨rfl,l,r,rfl,t,B,C,y,z⟩;obtain rfl:l=r:= "~rj5k7rL^uurXT1_DGhZi_WcpNw4Mr7^?3O457N8ah16>qrPXOHFKgzybt>kZcXRd2E|41=V8xPk|VwrVwmDA1L3XUYvvHw1p=EetdhLdTT8MxnLZtLCh?5V4ZRxQeHsDg6O7fiVsE6f9k" ao qM ao C t;exact⟨rfl,l,rfl,B,y,z⟩
 case step=>
  rintro x c ak _ H ⟨rfl,l,r,rfl,t,B,C,y,z⟩;by_cases a:l>=r
  .obtain rfl:l=r:=BQ t a
   refine cw a ?_;exact a8 ⟨rfl,l,rfl,B,y,z⟩
  .refine cB a ?_
   have hm:l+(r - l) / 2 < r:= "~2eZKHqlgtBGoqrjetcQgJ" ao gZ a;refine aJ (wv U v g (gY hm B) ?_);generalize J:ev left key arr (base+(l+(r - l) / 2))=b
   induction b using aS with
   |true=>exact a8 ⟨rfl,_,_,rfl,hm,B, "~fJ^y<VAhd?;E;sG46krCkbDt03OXV4kWxzZRaK2EV_5UVsgD;=9G2^Jtd9XJxyQPT=kN<hk0DAQxY4|S;1N_7UH=djwZ<7Jm1Q^Eld3W8PyTt0TYUUfd7=qaS>I9pd5zzQwM>FhmkAr=equWbJ<y5i?7XQCpbNBI?DFY_O?ziwtMfzpcGrLcduK=V^oZGM" ao ao gZ ao ao C,λi hi=>tm g (wW hi) (gY hm B) J,z⟩|false=>
    refine a8 ⟨rfl,_,_,rfl,er _ _, "~1sL30;ulDSd3QtUQ5EVGfEUtE" ao gZ B hm, "~odgonu9K9|o_6veCE;ryG>_XgkDP5dnEoK<gdlcGfen4nXpSuX?QmRhG6XXz><0;kdbqaCIZr<UD1iuUR>AVtPVrOF=9PF85NsoJ5EJ3dLyWesAkYQcZrKp?PUx?QhX5HRQAOs126EXOpYixHwdiC4MiIxBj=FZXab0ww=9<Qqw=K?z3MzsjUhQe5>iC" ao ao gZ ao ao C,y,λi h1 h2=>?_⟩;generalize q:ev left key arr (base+i)=Y
    induction Y using aS with
    |false=>rfl|true=>rw[tm g h1 h2 q]at J;cases J
def pU(U:kindOf st=oneType')(v:iy key)(g:pT arr base n)(Y:hint < n)(h:∀k,tn left key arr base n k->Q (some k) st):wpS (model prog w) A E s (mf left key arr base n hint) Q st:=by
 rw[VG];refine aJ (wv U v g Y ?_);generalize J:ev left key arr (base+hint)=b;have f:∀{i j:Nat},i<=j->j < n->ev left key arr (base+i)=false->ev left key arr (base+j)=false:=λ{i j} h1 h2 e=>by
  generalize q:ev left key arr (base+j)=T
  induction T using aS with
  |false=>rfl|true=>rw[tm g h1 h2 q]at e;cases e
 induction b using aS with
 |true=>
  refine aJ (eT (gh (I:=λx c ak=>ak=st/\∃l r,c=(none,l,r)/\x < r/\l < r/\hint+l < n/\ev left key arr (base+(hint+l))=true)
   (Q:=λc ak=>ak=st/\∃l r,c=(none,l,r)/\l < r/\hint+l < n/\ev left key arr (base+(hint+l))=true/\(hint+r < n->ev left key arr (base+(hint+r))=false)) ?step ?fin ⟨rfl,0,1,rfl,tK,tK,Y,J⟩) ?post)
  case post=>
   rintro c ak ⟨rfl,l,r,rfl,t,B,C,y⟩;refine IZ U v g ("~1bek4RTyXHQb4X=Ql38MtScaHbBkLuofcF5?e6S?Xi" ao fb B t) ("~vdwpgYxbP7ol67OCD6_Ycnxm5N0GhzMA" ao fb Y) (λi hi=>tm g (wW hi) B C) (λi h1 h2=>?_) h;have v1:hint+min r (n - hint)<=i:=h1;clear h1;exact f (i:=hint+r) ("~W=jFa;Dysd9bloGB_26bP|BNtDbbNmgtb5lQrR" ao fb v1 h2) h2 (y ("~W=jF_yc7voCGsJaP|jY9>>nNOoZxM<^gOpM|Q|" ao fb v1 h2))
  case fin=>
   rintro c ak ⟨rfl,l,r,rfl,N,t,B,C⟩;exact⟨rfl,l,r,rfl,t,B,C,λq=>by lia⟩
  case step=>
   rintro x c ak _ H ⟨rfl,l,r,rfl,N,t,B,C⟩;by_cases a:r>=n - hint
   .refine cw a ?_
    exact a8 ⟨rfl,l,r,rfl,t,B,C,λq=>by lia⟩
   .refine cB a ?_
    have hm:hint+r < n:= "~4schncIjwR0?R0k" ao a;refine aJ (wv U v g hm ?_);generalize J:ev left key arr (base+(hint+r))=b
    induction b using aS with
    |true=>exact a8 ⟨rfl,_,_,rfl, "~Ksl0eQ7WP0DH" N, "~9wMgTXQi9" id,hm,J⟩|false=>exact a8 ⟨rfl,l,r,rfl,t,B,C,λG=>J⟩
 |false=>
  refine aJ (eT (gh (I:=λx c ak=>ak=st/\∃l r,c=(none,l,r)/\x < r/\l < r/\l<=hint/\ev left key arr (base+(hint - l))=false)
   (Q:=λc ak=>ak=st/\∃l r,c=(none,l,r)/\l < r/\l<=hint/\ev left key arr (base+(hint - l))=false/\(r<=hint->ev left key arr (base+(hint - r))=true)) ?step ?fin ⟨rfl,0,1,rfl,tK,tK,bb _,J⟩) ?post)
  case post=>
   rintro c ak ⟨rfl,l,r,rfl,t,B,C,y⟩;refine IZ U v g ("~5N1n5nXPXIJsEdGGL|ulI=V_GuvnZVY1pec_4M7fAIYtFozxlqGppNUv_j3XGFR2WT3La33KyGJ" fb ao ao t) ("~4YU2NOHFKt?>UA6" ao Y) (λi hi=>?_) (λi h1 h2=>f h1 h2 C) h;have v1:i < hint+1 - min r (hint+1):=hi;clear hi;exact tm g (j:=hint - r) ("~7j0BoR6;e<WOhRATfPmq6auw1DtCiNh5<hKNL5xB?qI2H55=;BQxsCFjmmpYB;Zlu9EtQp=" fb ao ao v1) ("~4YULF>zJhFdlD<i" ao Y) (y ("~4AvMGQvd8RS_O_KBS|bRQ8x<MIsZNJG7" fb ao v1))
  case fin=>
   rintro c ak ⟨rfl,l,r,rfl,N,t,B,C⟩;exact⟨rfl,l,r,rfl,t,B,C,λq=>by lia⟩
  case step=>
   rintro x c ak _ H ⟨rfl,l,r,rfl,N,t,B,C⟩;by_cases a:r>=hint+1
   .refine cw a ?_
    exact a8 ⟨rfl,l,r,rfl,t,B,C,λq=>by lia⟩
   .refine cB a ?_
    have hm:hint - r < n:= "~4YULF>zJhFdlD<i" ao Y;refine aJ (wv U v g hm ?_);generalize J:ev left key arr (base+(hint - r))=b
    induction b using aS with
    |true=>exact a8 ⟨rfl,l,r,rfl,t,B,C,λG=>J⟩|false=>exact a8 ⟨rfl,_,_,rfl, "~Ksl0eQ7WP0DH" N, "~9wMgTXQi9" id, "~1xEl7pV4HP" a,J⟩
end
@[inline]abbrev up(x y:Keyed):Prop:=kv x<=kv y
@[inline]abbrev dn(x y:Keyed):Prop:=kv y<=kv x
structure Mg(le:Keyed->Keyed->Prop)(R O A B:List Keyed):Prop where
 c:(O++(A++B)).Perm R
 d:O.Pairwise le
 f:∀x∈O,∀y∈A,le x y
 e:∀x∈O,∀y∈B,le x y
 b:A.Pairwise le
 a:B.Pairwise le
abbrev Dn(le:Keyed->Keyed->Prop)(R l:List Keyed):Prop:=l.Perm R/\l.Pairwise le
section
variable{le:Keyed->Keyed->Prop}{R O A B A1 A2 B1 B2:List Keyed}{p:Keyed}
def Mg.to(h:Mg le R O (A1++A2) B)(k:∀x∈A1,∀y∈B,le x y):Mg le R (O++A1) A2 B:=by
 obtain⟨h1,h2,h3,h4,h5,h6⟩:=h;obtain⟨t,Y,C⟩:=Cd.mp h5;refine⟨by rw[c7,<-c7 A1];exact h1,Cd.mpr ⟨h2,t,λx H y v=>h3 x H y (dz _ v)⟩,λx H y v=>?_,λx H y v=>?_,Y,h6⟩
 .exact(aZ.mp H).elim (λq=>h3 x q y (jg _ v)) λq=>C x q y v
 .exact(aZ.mp H).elim (λq=>h4 x q y v) λq=>k x q y v
def Mg.swap(h:Mg le R O A B):Mg le R O B A:=⟨(List.Perm.append_left O List.perm_append_comm).trans h.c,h.d,h.e,h.f,h.a,h.b⟩
def Mg.ww(h:Mg le R O A (B1++B2))(k:∀x∈B1,∀y∈A,le x y):Mg le R (O++B1) A B2:=(h.swap.to k).swap
def Mg.all(h:Mg le R O A B)(k:∀x∈A,∀y∈B,le x y):Dn le R (O++A++B):=by
 rw[c7];exact⟨h.c,Cd.mpr ⟨h.d,Cd.mpr ⟨h.b,h.a,k⟩,λx H y v=>(aZ.mp v).elim (h.f x H y) (h.e x H y)⟩⟩
def VH{l:List Keyed}(h:x∈l.drop i):∃j,l[i+j]?=some x:=by
 obtain⟨j,e⟩:=qs.mp h;exact⟨j,by rw[<-tE];exact e⟩
def wz{l:List Keyed}(h:x∈(l.drop i).take k):∃j,j < k/\l[i+j]?=some x:=by
 obtain⟨j,e⟩:=qs.mp h;rw[xf]at e;by_cases q:j < k
 .rw[ah q,tE]at e;exact⟨j,q,e⟩
 .rw[ab q]at e;cases e
def mU{l:List Keyed}(h:l[i]?=some x):l.drop i=x::l.drop (i+1):=by
 obtain⟨q,e⟩:=bW.mp h;rw[Kj q,e]
def wA(l:List Keyed)(i k:Nat):l.drop i=(l.drop i).take k++l.drop (i+k):=by
 rw[<-Ce,qx]
def A4{l:List Keyed}(h:i=l.length):l.drop i=[]:=List.drop_of_length_le (gV h.symm)
end
section
variable{a:Array Keyed}{i:Nat}{p:Keyed}
def ea(h:a[i]?=some p):K a i=kv p:=by unfold K;rw[h];rfl
def cQ(h:i < a.size):∃p,a[i]?=some p:=⟨_,xa h⟩
def wB(hi:∀p∈a.toList,iy p)(N:a.toList.Pairwise up)(h:base+n<=a.size):pT a base n:=by
 refine⟨λi u=>?_,λi j v G=>?_⟩
 .obtain⟨p,e⟩:=cQ (a:=a) (i:=base+i) ("~KU271uT3T?_m" h u)
  exact⟨p,e,hi p (kU (by rw[eJ];exact e)),(ea e).symm⟩
 .obtain⟨p,e⟩:=cQ (a:=a) (i:=base+i) ("~4sji3EnNeLnqZb3" h v G)
  obtain⟨q,e'⟩:=cQ (a:=a) (i:=base+j) ("~KU271uT3T?_m" h G);rw[ea e,ea e'];rcases Kk v with rfl |rl
  .rw[e]at e';cases e';exact gS _
  .rw[<-eJ]at e e'
   obtain⟨k1,rfl⟩:=bW.mp e;obtain⟨k2,rfl⟩:=bW.mp e';exact Km.mp N _ _ k1 k2 (Kn rl base)
def VI(h:a[i]?=some p):(ev false key a i=true->kv p<=kv key)/\(ev false key a i=false->kv key<=kv p):=by
 unfold ev;rw[ea h];exact⟨λq=>jO.mp (Cc ((qv _).mp q)),λq=>kN (mq ((Bool.not_eq_false' _).mp q))⟩
def VJ(h:a[i]?=some p):(ev true key a i=true->kv p<=kv key)/\(ev true key a i=false->kv key<=kv p):=by
 unfold ev;rw[ea h];exact⟨λq=>kN (mq q),λq=>jO.mp (Cc q)⟩
def mh(h:a[i]?=some p):(ev left key a i=true->kv p<=kv key)/\(ev left key a i=false->kv key<=kv p):=by
 induction left
 .exact VI h
 .exact VJ h
def I2{left:Bool}(c:tn left key a base n k)(u:base+n=a.size):(∀x∈(a.toList.drop base).take k,kv x<=kv key)/\∀x∈a.toList.drop (base+k),kv key<=kv x:=by
 obtain⟨c1,v,L⟩:=c;refine⟨λx H=>?_,λx H=>?_⟩
 .obtain⟨j,G,e⟩:=wz H
  rw[eJ]at e;exact(mh e).1 (v j G)
 .obtain⟨j,e⟩:=VH H
  have:=(bW.mp e).1;rw[dJ]at this;rw[eJ,ty]at e;exact(mh e).2 (L (k+j) (er _ _) ("~17_xMw7u0Vmim?Of" u this))
end
abbrev A5:Array Keyed->Array Keyed->SM (Array Keyed):=sortPriv% PySem.Builtin.mergeLo
abbrev tp:Nat->SM Unit:=sortPriv% PySem.Builtin.setMinGallop
abbrev dA(a b out:Array Keyed)(ia ib:Nat):Array Keyed:=out++a.extract ia a.size++b.extract ib b.size
abbrev lA(a b out:Array Keyed)(ia ib:Nat):Array Keyed:=out++b.extract ib b.size++a.extract ia a.size
@[inline]abbrev S6:=Option (Array Keyed)×Array Keyed×Nat×Nat×Nat×Nat
@[inline]abbrev S7:=Option (Array Keyed)×Array Keyed×Nat×Nat×Nat×Nat×Nat
@[inline]abbrev S5:=Option (Array Keyed)×Array Keyed×Nat×Nat×Nat
abbrev I9(a b:Array Keyed)(mg:Nat)(d:S6):SM (ForInStep S6):=do
 let y <-elem' b d.2.2.2.1
 let x <-elem' a d.2.2.1
 let z <-lt' y x
 match z with
 |some c=>if c=true then(do
   let y <-elem' b d.2.2.2.1
   if(d.2.2.2.1+1==b.size)=true then pure (ForInStep.done (some (dA a b (d.2.1.push y) d.2.2.1 (d.2.2.2.1+1)),d.2.1.push y,d.2.2.1,d.2.2.2.1+1,0,d.2.2.2.2.2+1))
    else if d.2.2.2.2.2+1>=mg then pure (ForInStep.done (none,d.2.1.push y,d.2.2.1,d.2.2.2.1+1,0,d.2.2.2.2.2+1))else pure (ForInStep.yield (none,d.2.1.push y,d.2.2.1,d.2.2.2.1+1,0,d.2.2.2.2.2+1)))else(do
   let x <-elem' a d.2.2.1
   if(d.2.2.1+1+1==a.size)=true then pure (ForInStep.done (some (lA a b (d.2.1.push x) (d.2.2.1+1) d.2.2.2.1),d.2.1.push x,d.2.2.1+1,d.2.2.2.1,d.2.2.2.2.1+1,0))
    else if d.2.2.2.2.1+1>=mg then pure (ForInStep.done (none,d.2.1.push x,d.2.2.1+1,d.2.2.2.1,d.2.2.2.2.1+1,0))else pure (ForInStep.yield (none,d.2.1.push x,d.2.2.1+1,d.2.2.2.1,d.2.2.2.2.1+1,0)))
 |_=>pure (ForInStep.done (some (dA a b d.2.1 d.2.2.1 d.2.2.2.1),d.2.1,d.2.2.1,d.2.2.2.1,d.2.2.2.2.1,d.2.2.2.2.2))
abbrev A6(a b out:Array Keyed)(ia ib mg ac k:Nat):SM (ForInStep S7):=do
 let x <-elem' a ia
 if(ia+1+1==a.size)=true then pure (ForInStep.done (some (lA a b (out.push x) (ia+1) ib),out.push x,ia+1,ib,mg,ac,k))
  else if(decide (ac < 7)&&decide (k < 7))=true then pure (ForInStep.done (none,out.push x,ia+1,ib,mg,ac,k))else pure (ForInStep.yield (none,out.push x,ia+1,ib,mg,ac,k))
abbrev A7(a b out:Array Keyed)(ia ib mg ac bc:Nat):SM (ForInStep S7):=do
 let y <-elem' b ib
 if(ib+1==b.size)=true then pure (ForInStep.done (some (dA a b (out.push y) ia (ib+1)),out.push y,ia,ib+1,mg,ac,bc))else(do
  let x <-elem' a ia
  let z <-mf true x b (ib+1) (b.size - (ib+1)) 0
  match z with
  |some k=>if k>0 then(if(ib+1+k==b.size)=true then pure (ForInStep.done (some (dA a b (out.push y++b.extract (ib+1) (ib+1+k)) ia (ib+1+k)),out.push y++b.extract (ib+1) (ib+1+k),ia,ib+1+k,mg,ac,k))
    else A6 a b (out.push y++b.extract (ib+1) (ib+1+k)) ia (ib+1+k) mg ac k)else A6 a b (out.push y) ia (ib+1) mg ac k
  |_=>pure (ForInStep.done (some (dA a b (out.push y) ia (ib+1)),out.push y,ia,ib+1,mg,ac,bc)))
abbrev A8(a b out:Array Keyed)(ia ib mg ac bc:Nat):SM (ForInStep S7):=do
 tp mg
 let y <-elem' b ib
 let z <-mf false y a ia (a.size - ia) 0
 match z with
 |some k=>if k>0 then(if(ia+k+1==a.size)=true then pure (ForInStep.done (some (lA a b (out++a.extract ia (ia+k)) (ia+k) ib),out++a.extract ia (ia+k),ia+k,ib,mg,k,bc))
   else if(ia+k==a.size)=true then pure (ForInStep.done (some (dA a b (out++a.extract ia (ia+k)) (ia+k) ib),out++a.extract ia (ia+k),ia+k,ib,mg,k,bc))
   else A7 a b (out++a.extract ia (ia+k)) (ia+k) ib mg k bc)else A7 a b out ia ib mg k bc
 |_=>pure (ForInStep.done (some (dA a b out ia ib),out,ia,ib,mg,ac,bc))
abbrev VK(a b:Array Keyed)(d:S7):SM (ForInStep S7):=
 if d.2.2.2.2.1>1 then A8 a b d.2.1 d.2.2.1 d.2.2.2.1 (d.2.2.2.2.1 - 1) d.2.2.2.2.2.1 d.2.2.2.2.2.2 else A8 a b d.2.1 d.2.2.1 d.2.2.2.1 d.2.2.2.2.1 d.2.2.2.2.2.1 d.2.2.2.2.2.2
abbrev VL(a b:Array Keyed)(c:S5):SM (ForInStep S5):=do
 let r <-forIn [0:a.size+b.size] ((none,c.2.1,c.2.2.1,c.2.2.2.1,0,0):S6) λJ d=>I9 a b c.2.2.2.2 d
 match r.1 with
 |some q=>pure (ForInStep.done (some q,r.2.1,r.2.2.1,r.2.2.2.1,c.2.2.2.2))
 |none=>do
  liftM (rule "list.sort.gallop" :Sem Unit)
  let r <-forIn [0:a.size+b.size] ((none,r.2.1,r.2.2.1,r.2.2.2.1,c.2.2.2.2+1,r.2.2.2.2.1,r.2.2.2.2.2):S7) λJ d=>VK a b d
  match r.1 with
  |some q=>pure (ForInStep.done (some q,r.2.1,r.2.2.1,r.2.2.2.1,r.2.2.2.2.1))
  |none=>do
   tp (r.2.2.2.2.1+1)
   pure (ForInStep.yield (none,r.2.1,r.2.2.1,r.2.2.2.1,r.2.2.2.2.1+1))
def VM(a b:Array Keyed):A5 a b=(do
  liftM (rule "list.sort.merge-lo" :Sem Unit)
  let o <-elem' b 0
  if(1==b.size)=true then pure (dA a b #[o] 0 1)else if(0+1==a.size)=true then pure (lA a b #[o] 0 1)else(do
   let g <-get
   let r <-forIn [0:a.size+b.size] ((none,#[o],0,1,gallopOf g):S5) λJ c=>VL a b c
   match r.1 with
   |some q=>pure q|none=>liftM (unsupported "internal:list.sort.merge-bound" :Sem (Array Keyed)))):=by kernel_rfl
structure Cx(a b:Array Keyed):Prop where
 d:∀p∈a.toList,iy p
 c:∀p∈b.toList,iy p
 f:a.toList.Pairwise up
 e:b.toList.Pairwise up
 h:0 < a.size
 g:0 < b.size
 j:∀y,b[0]?=some y->∀x∈a.toList,kv y<=kv x
 i:∀x,a[a.size - 1]?=some x->∀y∈b.toList,kv y<=kv x
@[inline]abbrev LM(a b out:Array Keyed)(ia ib:Nat):Prop:=Mg up (a.toList++b.toList) out.toList (a.toList.drop ia) (b.toList.drop ib)
structure iz(a b out:Array Keyed)(ia ib:Nat):Prop where
 d:ia+1 < a.size
 e:ib < b.size
 c:LM a b out ia ib
@[inline]abbrev bG(a b r:Array Keyed):Prop:=Dn up (a.toList++b.toList) r.toList
section
variable{a b out:Array Keyed}{ia ib k i:Nat}{x y:Keyed}
def pI(a:Array Keyed)(i:Nat):(a.extract i a.size).toList=a.toList.drop i:=by
 rw[qy,qz,tC (by rw[Ka,dJ];exact av _)]
def A9(a:Array Keyed)(i k:Nat):(a.extract i (i+k)).toList=(a.toList.drop i).take k:=by
 rw[qy,qz,Nat.add_sub_cancel_left]
def i_(h:a[i]?=some x):a.toList[i]?=some x:=by rw[eJ];exact h
def fJ(h:a[i]?=some x):x∈a.toList:=kU (i_ h)
def wC(N:(a.toList.drop i).Pairwise up)(h:a[i]?=some x):∀y∈a.toList.drop i,kv x<=kv y:=by
 rw[mU (i_ h)]at N ⊢;intro y hy;rcases bH.mp hy with rfl |hy
 .exact gS _
 .exact(kV.mp N).1 y hy
def LM.pV(m:LM a b out ia ib)(H:a[ia]?=some x)(h:∀y∈b.toList.drop ib,kv x<=kv y):LM a b (out.push x) (ia+1) ib:=by
 unfold LM at*;rw[mU (i_ H)]at m;rw[n7];exact Mg.to (A1:=[x]) m λz hz=>by rw[aB.mp hz];exact h
def LM.pW(m:LM a b out ia ib)(H:b[ib]?=some x)(h:∀y∈a.toList.drop ia,kv x<=kv y):LM a b (out.push x) ia (ib+1):=by
 unfold LM at*;rw[mU (i_ H)]at m;rw[n7];exact Mg.ww (B1:=[x]) m λz hz=>by rw[aB.mp hz];exact h
def LM.A'(m:LM a b out ia ib)(k:Nat)(h:∀x∈(a.toList.drop ia).take k,∀y∈b.toList.drop ib,kv x<=kv y):LM a b (out++a.extract ia (ia+k)) (ia+k) ib:=by
 unfold LM at*;rw[wA a.toList ia k]at m;rw[gW,A9];exact m.to h
def LM.A_(m:LM a b out ia ib)(k:Nat)(h:∀x∈(b.toList.drop ib).take k,∀y∈a.toList.drop ia,kv x<=kv y):LM a b (out++b.extract ib (ib+k)) ia (ib+k):=by
 unfold LM at*;rw[wA b.toList ib k]at m;rw[gW,A9];exact m.ww h
def LM.done(m:LM a b out ia ib)(h:ia=a.size\/ib=b.size):bG a b (dA a b out ia ib):=by
 unfold bG dA;rw[gW,gW,pI,pI];refine Mg.all m λx H y v=>?_;rcases h with h |h
 .rw[A4 (by rw[dJ];exact h)]at H;cases H
 .rw[A4 (by rw[dJ];exact h)]at v;cases v
def LM.last(c:Cx a b)(m:LM a b out ia ib)(h:ia+1=a.size):bG a b (lA a b out ia ib):=by
 unfold bG lA;rw[gW,gW,pI,pI];obtain⟨p,J⟩:=cQ (a:=a) (i:=ia) ("~1nchf6qsIJ" h);refine Mg.all m.swap λy v x H=>?_;rw[mU (i_ J),A4 (by rw[dJ];exact h),aB]at H;subst H;exact c.i _ (by rw[show a.size - 1=ia from "~1Y0TCZxNPpVs1bPsXkK7UdJYxT<" ao h];exact J) y (List.mem_of_mem_drop v)
def iz.lt(l:iz a b out ia ib):out.size < a.size+b.size:=by
 have h1:=l.c.c.length_eq;have h2:=l.d;simp only[ca,Ka,dJ]at h1;exact "~19OrUTg_D5pKfEjo114I?wS7dAjhJw|6mDVveTSv0isze7" ao ao h1 h2
end
section
variable{prog:Program}{w:World}{A:Around}{E:Value->Shared->Prop}{s:Shared}{st:SortSt}{a b out:Array Keyed}{ia ib mg ac bc n0:Nat}
inductive I6(a b:Array Keyed)(n:Nat)(c:S6):Prop
 |mk (out:Array Keyed) (ia ib ac bc:Nat) (e:c=(none,out,ia,ib,ac,bc)) (h:iz a b out ia ib) (k:n<=out.size)
abbrev Q6(a b:Array Keyed)(n0:Nat)(c:S6):Prop:=(∃r q,c=(some r,q)/\bG a b r)\/I6 a b (n0+1) c
def VN(Y:kindOf st=oneType')(g:Cx a b)(l:iz a b out ia ib)(u:n0<=n)(ho:n<=out.size):
  wpS (model prog w) A E s (I9 a b mg (none,out,ia,ib,ac,bc)) (λr ak=>match r with |.done c'=>ak=st/\Q6 a b n0 c' |.yield c'=>ak=st/\I6 a b (n+1) c') st:=by
 obtain⟨G,T,m⟩:=l;obtain⟨x,H⟩:=cQ (a:=a) (i:=ia) ("~8Qs>gYAQV" G);obtain⟨y,v⟩:=cQ (a:=b) (i:=ib) T;refine aJ (dV v (aJ (dV H (aJ (tj Y (g.c _ (fJ v)) (g.d _ (fJ H)) ?_)))));have sz:∀z:Keyed,n+1<=(out.push z).size:=λz=>by rw[qr];exact wX ho
 by_cases U:kv y < kv x
 .rw[b5 U]
  have I:=m.pW v λz hz=>fa (kN U) (wC m.b H z hz);refine aJ (dV v ?_);show wpS _ _ _ _ (if(ib+1==b.size)=true then _ else _) _ _;by_cases h1:ib+1=b.size
  .exact cw (aH.mpr h1) (a8 ⟨rfl,.inl ⟨_,_,rfl,I.done (.inr h1)⟩⟩)
  .refine cB (λq=>h1 (aH.mp q)) ?_
   have l2:iz a b (out.push y) ia (ib+1):=⟨G, "~17sC5Y2FWGYcskVL" T h1,I⟩
   split
   .exact a8 ⟨rfl,.inr ⟨_,_,_,_,_,rfl,l2,gY (qm u) (sz y)⟩⟩
   .exact a8 ⟨rfl,_,_,_,_,_,rfl,l2,sz y⟩
 .rw[cd U]
  have I:=m.pV H λz hz=>fa (jO.mp U) (wC m.a v z hz);refine aJ (dV H ?_);show wpS _ _ _ _ (if(ia+1+1==a.size)=true then _ else _) _ _;by_cases h1:ia+1+1=a.size
  .exact cw (aH.mpr h1) (a8 ⟨rfl,.inl ⟨_,_,rfl,LM.last g I h1⟩⟩)
  .refine cB (λq=>h1 (aH.mp q)) ?_
   have l2:iz a b (out.push x) (ia+1) ib:=⟨"~dSVLlrHgqr2DfGCe<Iw^=" G h1,T,I⟩
   split
   .exact a8 ⟨rfl,.inr ⟨_,_,_,_,_,rfl,l2,gY (qm u) (sz x)⟩⟩
   .exact a8 ⟨rfl,_,_,_,_,_,rfl,l2,sz x⟩
structure Sm(st ak:SortSt):Prop where
 a:kindOf ak=kindOf st
 b:arrOf ak=arrOf st
 c:pendingOf ak=pendingOf st
 d:failedOf ak=failedOf st
def Sm.refl(st:SortSt):Sm st st:=⟨rfl,rfl,rfl,rfl⟩
def Sm.trans(h:Sm x y)(g:Sm y z):Sm x z:=⟨g.a.trans h.a,g.b.trans h.b,g.c.trans h.c,g.d.trans h.d⟩
def wD(h:∀ak,Sm st ak->Q () ak):wpS (model prog w) A E s (tp g) Q st:=
 wpS_modify (f:=λs=>SortSt.mk' (kindOf s) (arrOf s) (pendingOf s) g (failedOf s)) (h _ ⟨rfl,rfl,rfl,rfl⟩)
inductive I7(a b:Array Keyed)(n:Nat)(c:S7):Prop
 |mk (out:Array Keyed) (ia ib mg ac bc:Nat) (e:c=(none,out,ia,ib,mg,ac,bc)) (h:iz a b out ia ib) (k:n<=out.size)
abbrev Q7(a b:Array Keyed)(n0:Nat)(c:S7):Prop:=(∃r q,c=(some r,q)/\bG a b r)\/I7 a b n0 c
@[inline]abbrev W7(a b:Array Keyed)(st:SortSt)(n:Nat):ForInStep S7->SortSt->Prop:=λr ak=>Sm st ak/\match r with |.done c'=>Q7 a b n c' |.yield c'=>Q7 a b n c'/\c'.1=none
variable{gO:SortSt}
def I'(N:Sm gO st)(g:Cx a b)(l:iz a b out ia ib)(H:∀x,a[ia]?=some x->∀y∈b.toList.drop ib,kv x<=kv y)(ho:n0<=out.size):
  wpS (model prog w) A E s (A6 a b out ia ib mg ac bc) (W7 a b gO n0) st:=by
 obtain⟨G,T,m⟩:=l;obtain⟨x,e⟩:=cQ (a:=a) (i:=ia) ("~8Qs>gYAQV" G);have I:=m.pV e (H x e);have sz:n0<=(out.push x).size:=by rw[qr];exact qo ho
 refine aJ (dV e ?_);by_cases h1:ia+1+1=a.size
 .exact cw (aH.mpr h1) (a8 ⟨N,.inl ⟨_,_,rfl,LM.last g I h1⟩⟩)
 .refine cB (λq=>h1 (aH.mp q)) ?_
  have l2:iz a b (out.push x) (ia+1) ib:=⟨"~dSVLlrHgqr2DfGCe<Iw^=" G h1,T,I⟩
  split
  .exact a8 ⟨N,.inr ⟨_,_,_,_,_,_,rfl,l2,sz⟩⟩
  .exact a8 ⟨N,.inr ⟨_,_,_,_,_,_,rfl,l2,sz⟩,rfl⟩
def I_(N:Sm gO st)(U:kindOf st=oneType')(g:Cx a b)(l:iz a b out ia ib)(v:∀y,b[ib]?=some y->∀x∈a.toList.drop ia,kv y<=kv x)(ho:n0<=out.size):
  wpS (model prog w) A E s (A7 a b out ia ib mg ac bc) (W7 a b gO n0) st:=by
 obtain⟨G,T,m⟩:=l;obtain⟨y,e⟩:=cQ (a:=b) (i:=ib) T;have I:=m.pW e (v y e);have sz:n0<=(out.push y).size:=by rw[qr];exact qo ho
 refine aJ (dV e ?_);by_cases h1:ib+1=b.size
 .exact cw (aH.mpr h1) (a8 ⟨N,.inl ⟨_,_,rfl,I.done (.inr h1)⟩⟩)
 .refine cB (λq=>h1 (aH.mp q)) ?_
  obtain⟨x,ex⟩:=cQ (a:=a) (i:=ia) ("~8Qs>gYAQV" G);refine aJ (dV ex (aJ (pU U (g.d _ (fJ ex)) (wB g.c g.e (gV (kZ ("~8RHK;AKvN" T)))) ("~1Lp1Zn;EP14Ere55NtqCvERTz571K" ao T h1) λk o=>?_)));obtain⟨c1,Y⟩:=I2 o (kZ ("~8RHK;AKvN" T));have J:=o.1;have c:=I.A_ k λz hz z' t=>fa (c1 z hz) (wC m.b ex z' t);have key:∀(x':Keyed),a[ia]?=some x'->∀z∈b.toList.drop (ib+1+k),kv x'<=kv z:=λx' q=>by rw[ex]at q;cases q;exact Y
  show wpS _ _ _ _ (if k>0 then _ else _) _ _;by_cases f:k>0
  .refine cw f ?_
   by_cases h2:ib+1+k=b.size
   .exact cw (aH.mpr h2) (a8 ⟨N,.inl ⟨_,_,rfl,c.done (.inr h2)⟩⟩)
   .refine cB (λq=>h2 (aH.mp q)) ?_
    exact I' N g ⟨G, "~Ydah=r_VVn>WdEW6|<o7U1_<rk91SsPO0LI_KT" ao f J h2,c⟩ key (by rw[Cf];exact aL sz (er _ _))
  .refine cB f ?_
   obtain rfl:k=0:=Nat.eq_zero_of_not_pos f;exact I' N g ⟨G, "~17sC5Y2FWGYcskVL" T h1,I⟩ key sz
def Ja(N:Sm gO st)(U:kindOf st=oneType')(g:Cx a b)(l:iz a b out ia ib)(ho:n0<=out.size):
  wpS (model prog w) A E s (A8 a b out ia ib mg ac bc) (W7 a b gO n0) st:=by
 refine aJ (wD λga h1=>?_);have N:=N.trans h1;have U:=h1.a.trans U;obtain⟨G,T,m⟩:=l;obtain⟨y,e⟩:=cQ (a:=b) (i:=ib) T;refine aJ (dV e (aJ (pU U (g.c _ (fJ e)) (wB g.d g.f (gV (kZ ("~8Qs>gY8lN" G)))) ("~x6||yLT;a2P08T>Tj" ao G) λk o=>?_)));obtain⟨c1,v⟩:=I2 o (kZ ("~8Qs>gY8lN" G));have J:=o.1;have c:=m.A' k λz hz z' t=>fa (c1 z hz) (wC m.a e z' t);have key:∀(x':Keyed),b[ib]?=some x'->∀z∈a.toList.drop (ia+k),kv x'<=kv z:=λx' q=>by rw[e]at q;cases q;exact v
 show wpS _ _ _ _ (if k>0 then _ else _) _ _;by_cases f:k>0
 .refine cw f ?_
  by_cases h2:ia+k+1=a.size
  .exact cw (aH.mpr h2) (a8 ⟨N,.inl ⟨_,_,rfl,LM.last g c h2⟩⟩)
  .refine cB (λq=>h2 (aH.mp q)) ?_
   by_cases h3:ia+k=a.size
   .exact cw (aH.mpr h3) (a8 ⟨N,.inl ⟨_,_,rfl,c.done (.inl h3)⟩⟩)
   .refine cB (λq=>h3 (aH.mp q)) ?_
    exact I_ N U g ⟨"~3s5<u6d^teadaaUOhK5afqMlTymX7bukF8vAex;^=<LoQxcyfdUBN33jfp_=xti=" ao f J h2 h3,T,c⟩ key (by rw[Cf];exact aL ho (er _ _))
 .refine cB f ?_
  obtain rfl:k=0:=Nat.eq_zero_of_not_pos f;exact I_ N U g ⟨G,T,m⟩ key ho
def VO(v:kindOf st=oneType')(g:Cx a b)(h:∀r ak,Sm st ak->bG a b r->Q r ak):wpS (model prog w) A E s (A5 a b) Q st:=by
 rw[VM];refine aJ (wpS_lift (gU ⟨rfl,?_⟩));obtain⟨y,e⟩:=cQ (a:=b) (i:=0) g.g;have J:LM a b #[] 0 0:=⟨List.Perm.refl _,.nil,λ_ h=>(nomatch h),λ_ h=>(nomatch h),g.f,g.e⟩;have T:LM a b #[y] 0 1:=J.pW e (g.j y e);refine aJ (dV e ?_);by_cases h1:1=b.size
 .exact cw (aH.mpr h1) (a8 (h _ _ (.refl _) (T.done (.inr h1))))
 .refine cB (λq=>h1 (aH.mp q)) ?_
  by_cases h2:0+1=a.size
  .exact cw (aH.mpr h2) (a8 (h _ _ (.refl _) (LM.last g T h2)))
  .refine cB (λq=>h2 (aH.mp q)) ?_
   have v1:=g.h;have v2:=g.g;refine aJ (kY (aJ (eT (gh (I:=λn c ak=>Sm st ak/\∃out ia ib mg,c=((none,out,ia,ib,mg):S5)/\iz a b out ia ib/\n < out.size)
    (Q:=λc ak=>Sm st ak/\∃r q,c=((some r,q):S5)/\bG a b r) ?step ?fin ⟨.refl _,_,_,_,_,rfl,⟨"~x5yrNLlyhHCs1^JFS" v1 h2, "~1I;4G41HkWhPp<" v2 h1,T⟩,tK⟩) ?post)))
   case post=>
    rintro c ak ⟨N,r,q,rfl,C⟩;exact a8 (h r ak N C)
   case fin=>
    rintro c ak ⟨N,out,ia,ib,mg,rfl,l,ho⟩;have v3:=l.lt;exact absurd ho (by lia)
   case step=>
    rintro n c ak _ u ⟨N,out,ia,ib,mg,rfl,l,ho⟩;have f:=N.a.trans v;refine aJ (eT (gh (I:=λx c m=>m=ak/\I6 a b (out.size+x) c) (Q:=λc m=>m=ak/\Q6 a b out.size c) ?s1 ?f1 ⟨rfl,_,_,_,_,_,rfl,l,av _⟩) ?p1)
    case f1=>
     rintro c m ⟨h1,o,i,j,x,y,h2,h3,h4⟩;exact⟨h1,.inr ⟨o,i,j,x,y,h2,h3, "~8gN>omVsipRU8yqRqWF1QOxj" qM h4 v1⟩⟩
    case s1=>
     rintro x c m _ _ ⟨rfl,o,i,j,x,y,rfl,h3,h4⟩;exact eT (VN f g h3 (er _ _) h4) λr t k=>by induction r <;>exact k
    case p1=>
     rintro c m ⟨rfl,⟨r,q,rfl,C⟩ |⟨o,i,j,x,y,rfl,l2,B⟩⟩
     .exact a8 ⟨N,r,_,rfl,C⟩
     .refine aJ (wpS_lift (gU ⟨rfl,?_⟩))
      refine aJ (eT (gh (I:=λ_ c eI=>Sm m eI/\Q7 a b o.size c/\c.1=none) (Q:=λc eI=>Sm m eI/\Q7 a b o.size c) ?s2 ?f2 ⟨.refl _,.inr ⟨_,_,_,_,_,_,rfl,l2,av _⟩,rfl⟩) ?p2)
      case f2=>exact λc eI k=>⟨k.1,k.2.1⟩
      case s2=>
       rintro x c eI _ _ ⟨h1,⟨r,q,rfl,_⟩ |⟨o',L,j',Y,x',z,rfl,U,p⟩,hc⟩
       .cases hc
       .have G:=h1.a.trans f
        by_cases H:Y>1
        .exact cw H (eT (Ja h1 G g U p) λr t k=>by induction r <;>exact k)
        .exact cB H (eT (Ja h1 G g U p) λr t k=>by induction r <;>exact k)
      case p2=>
       rintro c eI ⟨h1,⟨r,q,rfl,C⟩ |⟨o',L,j',Y,x',z,rfl,U,p⟩⟩
       .exact a8 ⟨N.trans h1,r,_,rfl,C⟩
       .exact aJ (wD λt h4=>a8 ⟨(N.trans h1).trans h4,_,_,_,_,rfl,U, "~Co7o=l|yvUuDMQrP" B p ho⟩)
end
abbrev Ba:Array Keyed->Array Keyed->SM (Array Keyed):=sortPriv% PySem.Builtin.mergeHi
abbrev dH(a b out:Array Keyed)(na nb:Nat):Array Keyed:=a.extract 0 na++b.extract 0 nb++out.reverse
abbrev fH(a b out:Array Keyed)(na nb:Nat):Array Keyed:=b.extract 0 nb++a.extract 0 na++out.reverse
@[inline]abbrev H6:=Option (Array Keyed)×Nat×Nat×Array Keyed×Nat×Nat
@[inline]abbrev H7:=Option (Array Keyed)×Nat×Nat×Array Keyed×Nat×Nat×Nat
@[inline]abbrev H5:=Option (Array Keyed)×Nat×Nat×Array Keyed×Nat
abbrev gw(a b:Array Keyed)(mg na nb:Nat)(out:Array Keyed)(ac bc:Nat):SM (ForInStep H6):=do
 let y <-elem' b (nb - 1)
 let x <-elem' a (na - 1)
 let z <-lt' y x
 match z with
 |some c=>if c=true then(do
   let x <-elem' a (na - 1)
   if(na - 1==0)=true then pure (ForInStep.done (some (dH a b (out.push x) (na - 1) nb),na - 1,nb,out.push x,ac+1,0))
    else if ac+1>=mg then pure (ForInStep.done (none,na - 1,nb,out.push x,ac+1,0))else pure (ForInStep.yield (none,na - 1,nb,out.push x,ac+1,0)))else(do
   let y <-elem' b (nb - 1)
   if(nb - 1==1)=true then pure (ForInStep.done (some (fH a b (out.push y) na (nb - 1)),na,nb - 1,out.push y,0,bc+1))
    else if bc+1>=mg then pure (ForInStep.done (none,na,nb - 1,out.push y,0,bc+1))else pure (ForInStep.yield (none,na,nb - 1,out.push y,0,bc+1)))
 |_=>pure (ForInStep.done (some (dH a b out na nb),na,nb,out,ac,bc))
abbrev Bb(a b out:Array Keyed)(na nb mg ac k:Nat):SM (ForInStep H7):=do
 let x <-elem' a (na - 1)
 if(na - 1==0)=true then pure (ForInStep.done (some (dH a b (out.push x) (na - 1) nb),na - 1,nb,out.push x,mg,ac,k))
  else if(decide (ac < 7)&&decide (k < 7))=true then pure (ForInStep.done (none,na - 1,nb,out.push x,mg,ac,k))else pure (ForInStep.yield (none,na - 1,nb,out.push x,mg,ac,k))
abbrev Bc(a b out:Array Keyed)(na nb mg ac bc:Nat):SM (ForInStep H7):=do
 let y <-elem' b (nb - 1)
 if(nb - 1==1)=true then pure (ForInStep.done (some (fH a b (out.push y) na (nb - 1)),na,nb - 1,out.push y,mg,ac,bc))else(do
  let x <-elem' a (na - 1)
  let z <-mf true x b 0 (nb - 1) (nb - 1 - 1)
  match z with
  |some j=>if nb - 1 - j>0 then(if(j==1)=true then pure (ForInStep.done (some (fH a b (out.push y++(b.extract j (nb - 1)).reverse) na j),na,j,out.push y++(b.extract j (nb - 1)).reverse,mg,ac,nb - 1 - j))
    else if(j==0)=true then pure (ForInStep.done (some (dH a b (out.push y++(b.extract j (nb - 1)).reverse) na j),na,j,out.push y++(b.extract j (nb - 1)).reverse,mg,ac,nb - 1 - j))
    else Bb a b (out.push y++(b.extract j (nb - 1)).reverse) na j mg ac (nb - 1 - j))else Bb a b (out.push y) na (nb - 1) mg ac (nb - 1 - j)
  |_=>pure (ForInStep.done (some (dH a b (out.push y) na (nb - 1)),na,nb - 1,out.push y,mg,ac,bc)))
abbrev Be(a b out:Array Keyed)(na nb mg ac bc:Nat):SM (ForInStep H7):=do
 tp mg
 let y <-elem' b (nb - 1)
 let z <-mf false y a 0 na (na - 1)
 match z with
 |some j=>if na - j>0 then(if(j==0)=true then pure (ForInStep.done (some (dH a b (out++(a.extract j na).reverse) j nb),j,nb,out++(a.extract j na).reverse,mg,na - j,bc))
   else Bc a b (out++(a.extract j na).reverse) j nb mg (na - j) bc)else Bc a b out na nb mg (na - j) bc
 |_=>pure (ForInStep.done (some (dH a b out na nb),na,nb,out,mg,ac,bc))
abbrev nh(a b:Array Keyed)(d:H7):SM (ForInStep H7):=
 if d.2.2.2.2.1>1 then Be a b d.2.2.2.1 d.2.1 d.2.2.1 (d.2.2.2.2.1 - 1) d.2.2.2.2.2.1 d.2.2.2.2.2.2 else Be a b d.2.2.2.1 d.2.1 d.2.2.1 d.2.2.2.2.1 d.2.2.2.2.2.1 d.2.2.2.2.2.2
abbrev VP(a b:Array Keyed)(c:H5):SM (ForInStep H5):=do
 let r <-forIn [0:a.size+b.size] ((none,c.2.1,c.2.2.1,c.2.2.2.1,0,0):H6) λJ d=>gw a b c.2.2.2.2 d.2.1 d.2.2.1 d.2.2.2.1 d.2.2.2.2.1 d.2.2.2.2.2
 match r.1 with
 |some q=>pure (ForInStep.done (some q,r.2.1,r.2.2.1,r.2.2.2.1,c.2.2.2.2))
 |none=>do
  liftM (rule "list.sort.gallop" :Sem Unit)
  let r <-forIn [0:a.size+b.size] ((none,r.2.1,r.2.2.1,r.2.2.2.1,c.2.2.2.2+1,r.2.2.2.2.1,r.2.2.2.2.2):H7) λJ d=>nh a b d
  match r.1 with
  |some q=>pure (ForInStep.done (some q,r.2.1,r.2.2.1,r.2.2.2.1,r.2.2.2.2.1))
  |none=>do
   tp (r.2.2.2.2.1+1)
   pure (ForInStep.yield (none,r.2.1,r.2.2.1,r.2.2.2.1,r.2.2.2.2.1+1))
def VQ(a b:Array Keyed):Ba a b=(do
  liftM (rule "list.sort.merge-hi" :Sem Unit)
  let o <-elem' a (a.size - 1)
  if(a.size - 1==0)=true then pure (dH a b #[o] (a.size - 1) b.size)else if(b.size==1)=true then pure (fH a b #[o] (a.size - 1) b.size)else(do
   let g <-get
   let r <-forIn [0:a.size+b.size] ((none,a.size - 1,b.size,#[o],gallopOf g):H5) λJ c=>VP a b c
   match r.1 with
   |some q=>pure q|none=>liftM (unsupported "internal:list.sort.merge-bound" :Sem (Array Keyed)))):=by kernel_rfl
@[inline]abbrev HM(a b out:Array Keyed)(na nb:Nat):Prop:=Mg dn (a.toList++b.toList) out.toList (a.toList.take na).reverse (b.toList.take nb).reverse
structure iA(a b out:Array Keyed)(na nb:Nat):Prop where
 f:0 < na
 g:1 < nb
 e:na<=a.size
 d:nb<=b.size
 c:HM a b out na nb
section
variable{a b out:Array Keyed}{na nb k i j n:Nat}{x y:Keyed}
def wE{l:List Keyed}(h:l[i]?=some x):(l.take (i+1)).reverse=x::(l.take i).reverse:=by
 rw[List.take_add_one,h,tL];rfl
def Jb(l:List Keyed)(h:j<=n):(l.take n).reverse=((l.drop j).take (n - j)).reverse++(l.take j).reverse:=by
 rw[<-tL,<-List.take_add,kZ h]
def Jc(a:Array Keyed)(i j:Nat):((a.extract i j).reverse).toList=((a.toList.drop i).take (j - i)).reverse:=by
 rw[Kq,qy,qz]
def wG(a:Array Keyed)(j:Nat):(a.extract 0 j).toList=a.toList.take j:=by
 rw[qy,qz];rfl
def wH(N:((a.toList.take (i+1)).reverse).Pairwise dn)(h:a[i]?=some x):∀y∈(a.toList.take (i+1)).reverse,kv y<=kv x:=by
 rw[wE (i_ h)]at N ⊢;intro y hy;rcases bH.mp hy with rfl |hy
 .exact gS _
 .exact(kV.mp N).1 y hy
def HM.pV(m:HM a b out (i+1) nb)(H:a[i]?=some x)(h:∀y∈(b.toList.take nb).reverse,kv y<=kv x):HM a b (out.push x) i nb:=by
 unfold HM at*;rw[wE (i_ H)]at m;rw[n7];exact Mg.to (A1:=[x]) m λz hz=>by rw[aB.mp hz];exact h
def HM.pW(m:HM a b out na (i+1))(H:b[i]?=some x)(h:∀y∈(a.toList.take na).reverse,kv y<=kv x):HM a b (out.push x) na i:=by
 unfold HM at*;rw[wE (i_ H)]at m;rw[n7];exact Mg.ww (B1:=[x]) m λz hz=>by rw[aB.mp hz];exact h
def HM.A'(m:HM a b out na nb)(G:j<=na)(h:∀x∈((a.toList.drop j).take (na - j)).reverse,∀y∈(b.toList.take nb).reverse,kv y<=kv x):HM a b (out++(a.extract j na).reverse) j nb:=by
 unfold HM at*;rw[Jb a.toList G]at m;rw[gW,Jc];exact m.to h
def HM.A_(m:HM a b out na nb)(G:j<=nb)(h:∀x∈((b.toList.drop j).take (nb - j)).reverse,∀y∈(a.toList.take na).reverse,kv y<=kv x):HM a b (out++(b.extract j nb).reverse) na j:=by
 unfold HM at*;rw[Jb b.toList G]at m;rw[gW,Jc];exact m.ww h
def Jd(h:Dn dn R l):Dn up R l.reverse:=⟨(Kr l).trans h.1,Kt.mpr h.2⟩
def HM.done(m:HM a b out na nb)(h:na=0\/nb=0):bG a b (dH a b out na nb):=by
 have:=Jd (Mg.all m.swap λx H y v=>by
  rcases h with rfl |rfl
  .rw[Ku]at v;cases v
  .rw[Ku]at H;cases H)
 unfold bG dH;rw[gW,gW,wG,wG,Kq];rw[tL,tL,Cg,Cg,<-c7]at this;exact this
def HM.last(c:Cx a b)(m:HM a b out na nb)(h:nb=1):bG a b (fH a b out na nb):=by
 subst h;obtain⟨p,J⟩:=cQ (a:=b) (i:=0) c.g;have:=Jd (Mg.all m λx H y v=>by
  rw[wE (i:=0) (i_ J),Ku,List.reverse_nil,aB]at v;subst v;exact c.j _ J x (List.mem_of_mem_take (tM.mp H)))
 unfold bG fH;rw[gW,gW,wG,wG,Kq];rw[tL,tL,Cg,Cg,<-c7]at this;exact this
def iA.lt(l:iA a b out na nb):out.size < a.size+b.size:=by
 have h1:=l.c.c.length_eq;have h2:=l.f;have h3:=l.e;have h4:=l.d;simp only[ca,List.length_reverse,Kv,dJ]at h1;exact "~ni==I27QM6CKl|uaoBLS8w=F|dN?hBiCqDIL2BnSIsEKy1;It" fb fb h1 h3 h2
def Je(c:tn left key a 0 n k)(u:n<=a.size):(∀x∈((a.toList.drop k).take (n - k)).reverse,kv key<=kv x)/\∀x∈(a.toList.take k).reverse,kv x<=kv key:=by
 obtain⟨c1,v,L⟩:=c;refine⟨λx H=>?_,λx H=>?_⟩
 .obtain⟨j,G,e⟩:=wz (tM.mp H)
  rw[eJ]at e;have:=L (k+j) (er _ _) ("~GFFarSXCIltmCP" ao G);rw[qg]at this;exact(mh e).2 this
 .obtain⟨j,G,e⟩:=wz (i:=0) (tM.mp H)
  rw[eJ]at e;exact(mh e).1 (v j G)
end
section
variable{prog:Program}{w:World}{A:Around}{E:Value->Shared->Prop}{s:Shared}{st gO:SortSt}{a b out:Array Keyed}{na nb mg ac bc n0:Nat}
inductive J6(a b:Array Keyed)(n:Nat)(c:H6):Prop
 |mk (out:Array Keyed) (ia ib ac bc:Nat) (e:c=(none,ia,ib,out,ac,bc)) (h:iA a b out ia ib) (k:n<=out.size)
abbrev P6(a b:Array Keyed)(n0:Nat)(c:H6):Prop:=(∃r q,c=(some r,q)/\bG a b r)\/J6 a b (n0+1) c
def VR(Q:kindOf st=oneType')(g:Cx a b)(l:iA a b out na nb)(Y:n0<=n)(ho:n<=out.size):
  wpS (model prog w) A E s (gw a b mg na nb out ac bc) (λr ak=>match r with |.done c'=>ak=st/\P6 a b n0 c' |.yield c'=>ak=st/\J6 a b (n+1) c') st:=by
 obtain⟨G,T,la,u,m⟩:=l;obtain⟨i,rfl⟩:∃i,na=i+1:=⟨na - 1, "~1|VP0PdoOx_pbwt5LNmPYAYUN" ao G⟩;obtain⟨j,rfl⟩:∃j,nb=j+1:=⟨nb - 1, "~1|VP0PdbJBFmp>rJWiK=URw0D" ao T⟩;obtain⟨x,H⟩:=cQ (a:=a) (i:=i) ("~8Qs>azw5N" la);obtain⟨y,v⟩:=cQ (a:=b) (i:=j) ("~8Qs>azw5N" u);refine aJ (dV (i:=j) v (aJ (dV (i:=i) H (aJ (tj Q (g.c _ (fJ v)) (g.d _ (fJ H)) ?_)))));have sz:∀z:Keyed,n+1<=(out.push z).size:=λz=>by rw[qr];exact wX ho
 by_cases U:kv y < kv x
 .rw[b5 U]
  have I:=m.pV H λz hz=>fa (wH m.a v z hz) (kN U);refine aJ (dV (i:=i) H ?_);show wpS _ _ _ _ (if(i==0)=true then _ else _) _ _;by_cases h1:i=0
  .exact cw (aH.mpr h1) (a8 ⟨rfl,.inl ⟨_,_,rfl,I.done (.inl h1)⟩⟩)
  .refine cB (λq=>h1 (aH.mp q)) ?_
   have l2:iA a b (out.push x) i (j+1):=⟨Ch h1,T,xk la,u,I⟩
   split
   .exact a8 ⟨rfl,.inr ⟨_,_,_,_,_,rfl,l2,gY (qm Y) (sz x)⟩⟩
   .exact a8 ⟨rfl,_,_,_,_,_,rfl,l2,sz x⟩
 .rw[cd U]
  have I:=m.pW v λz hz=>fa (wH m.b H z hz) (jO.mp U);refine aJ (dV (i:=j) v ?_);show wpS _ _ _ _ (if(j==1)=true then _ else _) _ _;by_cases h1:j=1
  .exact cw (aH.mpr h1) (a8 ⟨rfl,.inl ⟨_,_,rfl,HM.last g I h1⟩⟩)
  .refine cB (λq=>h1 (aH.mp q)) ?_
   have l2:iA a b (out.push y) (i+1) j:=⟨G, "~BkkqYsXZhwvtz^bE" T h1,la,xk u,I⟩
   split
   .exact a8 ⟨rfl,.inr ⟨_,_,_,_,_,rfl,l2,gY (qm Y) (sz y)⟩⟩
   .exact a8 ⟨rfl,_,_,_,_,_,rfl,l2,sz y⟩
inductive J7(a b:Array Keyed)(n:Nat)(c:H7):Prop
 |mk (out:Array Keyed) (ia ib mg ac bc:Nat) (e:c=(none,ia,ib,out,mg,ac,bc)) (h:iA a b out ia ib) (k:n<=out.size)
abbrev P7(a b:Array Keyed)(n0:Nat)(c:H7):Prop:=(∃r q,c=(some r,q)/\bG a b r)\/J7 a b n0 c
@[inline]abbrev V7(a b:Array Keyed)(st:SortSt)(n:Nat):ForInStep H7->SortSt->Prop:=λr ak=>Sm st ak/\match r with |.done c'=>P7 a b n c' |.yield c'=>P7 a b n c'/\c'.1=none
def Jf(N:Sm gO st)(g:Cx a b)(l:iA a b out na nb)(H:∀x,a[na - 1]?=some x->∀y∈(b.toList.take nb).reverse,kv y<=kv x)(ho:n0<=out.size):
  wpS (model prog w) A E s (Bb a b out na nb mg ac bc) (V7 a b gO n0) st:=by
 obtain⟨G,T,la,u,m⟩:=l;obtain⟨i,rfl⟩:∃i,na=i+1:=⟨na - 1, "~1|VP0PdoOx_pbwt5LNmPYAYUN" ao G⟩;obtain⟨x,e⟩:=cQ (a:=a) (i:=i) ("~8Qs>azw5N" la);have I:=m.pV e (H x e);have sz:n0<=(out.push x).size:=by rw[qr];exact qo ho
 refine aJ (dV (i:=i) e ?_);show wpS _ _ _ _ (if(i==0)=true then _ else _) _ _;by_cases h1:i=0
 .exact cw (aH.mpr h1) (a8 ⟨N,.inl ⟨_,_,rfl,I.done (.inl h1)⟩⟩)
 .refine cB (λq=>h1 (aH.mp q)) ?_
  have l2:iA a b (out.push x) i nb:=⟨Ch h1,T,xk la,u,I⟩
  split
  .exact a8 ⟨N,.inr ⟨_,_,_,_,_,_,rfl,l2,sz⟩⟩
  .exact a8 ⟨N,.inr ⟨_,_,_,_,_,_,rfl,l2,sz⟩,rfl⟩
def Jg(N:Sm gO st)(U:kindOf st=oneType')(g:Cx a b)(l:iA a b out na nb)(v:∀y,b[nb - 1]?=some y->∀x∈(a.toList.take na).reverse,kv x<=kv y)(ho:n0<=out.size):
  wpS (model prog w) A E s (Bc a b out na nb mg ac bc) (V7 a b gO n0) st:=by
 obtain⟨G,T,la,u,m⟩:=l;obtain⟨i,rfl⟩:∃i,na=i+1:=⟨na - 1, "~1|VP0PdoOx_pbwt5LNmPYAYUN" ao G⟩;obtain⟨j,rfl⟩:∃j,nb=j+1:=⟨nb - 1, "~1|VP0PdbJBFmp>rJWiK=URw0D" ao T⟩;obtain⟨y,e⟩:=cQ (a:=b) (i:=j) ("~8Qs>azw5N" u);have I:=m.pW e (v y e);have sz:n0<=(out.push y).size:=by rw[qr];exact qo ho
 refine aJ (dV (i:=j) e ?_);show wpS _ _ _ _ (if(j==1)=true then _ else _) _ _;by_cases h1:j=1
 .exact cw (aH.mpr h1) (a8 ⟨N,.inl ⟨_,_,rfl,HM.last g I h1⟩⟩)
 .refine cB (λq=>h1 (aH.mp q)) ?_
  obtain⟨x,ex⟩:=cQ (a:=a) (i:=i) ("~8Qs>azw5N" la);refine aJ (dV (i:=i) ex (aJ (pU (n:=j) U (g.d _ (fJ ex)) (wB g.c g.e ("~74kDBaFP6|y" u)) ("~;<fxB1vcWgzv?IRkhB^;=PJ0_fCzeasov_Nor" ao ao T) λk o=>?_)));have h:k<=j:=o.1;obtain⟨c1,Q⟩:=Je o (xk u);have c:=I.A_ h λz hz z' t=>fa (wH m.b ex z' t) (c1 z hz);have key:∀k',k'<=k->∀(x':Keyed),a[i]?=some x'->∀z∈(b.toList.take k').reverse,kv z<=kv x':=λk' f x' q z hz=>by
   rw[ex]at q;cases q;exact Q z (tM.mpr ((List.take_subset_take_left _ f) (tM.mp hz)))
  show wpS _ _ _ _ (if j - k>0 then _ else _) _ _;by_cases Y:j - k>0
  .refine cw Y ?_
   by_cases h2:k=1
   .exact cw (aH.mpr h2) (a8 ⟨N,.inl ⟨_,_,rfl,HM.last g c h2⟩⟩)
   .refine cB (λq=>h2 (aH.mp q)) ?_
    by_cases h3:k=0
    .exact cw (aH.mpr h3) (a8 ⟨N,.inl ⟨_,_,rfl,c.done (.inr h3)⟩⟩)
    .refine cB (λq=>h3 (aH.mp q)) ?_
     exact Jf N g ⟨G, "~3?5BY=_ukS3eQPv6fvb" h3 h2,la, "~1_WXg48Dl6d5" u h,c⟩ (key k (av _)) (by rw[Cf];exact aL sz (er _ _))
  .refine cB Y ?_
   obtain rfl:k=j:= "~JvhuRoh1y>EE2Dxvwvoam|i9nXb" ao h Y;exact Jf N g ⟨G, "~vf0|DUUl|yX_DmyaK>Pltsal59d?I<w?" ao T h1,la,xk u,I⟩ (key k (av _)) sz
def Jh(N:Sm gO st)(U:kindOf st=oneType')(g:Cx a b)(l:iA a b out na nb)(ho:n0<=out.size):
  wpS (model prog w) A E s (Be a b out na nb mg ac bc) (V7 a b gO n0) st:=by
 refine aJ (wD λga h1=>?_);have N:=N.trans h1;have U:=h1.a.trans U;obtain⟨G,T,la,u,m⟩:=l;obtain⟨j,rfl⟩:∃j,nb=j+1:=⟨nb - 1, "~1|VP0PdbJBFmp>rJWiK=URw0D" ao T⟩;obtain⟨y,e⟩:=cQ (a:=b) (i:=j) ("~8Qs>azw5N" u);refine aJ (dV (i:=j) e (aJ (pU (n:=na) U (g.c _ (fJ e)) (wB g.d g.f ("~8RCgU|T=T" la)) ("~BgSL9sbRoN^=G<SJ" ao G) λk o=>?_)));have J:k<=na:=o.1;obtain⟨c1,v⟩:=Je o la;have c:=m.A' J λz hz z' t=>fa (wH m.a e z' t) (c1 z hz);have key:∀(x':Keyed),b[j]?=some x'->∀z∈(a.toList.take k).reverse,kv z<=kv x':=λx' q=>by rw[e]at q;cases q;exact v
 show wpS _ _ _ _ (if na - k>0 then _ else _) _ _;by_cases f:na - k>0
 .refine cw f ?_
  by_cases h3:k=0
  .exact cw (aH.mpr h3) (a8 ⟨N,.inl ⟨_,_,rfl,c.done (.inl h3)⟩⟩)
  .refine cB (λq=>h3 (aH.mp q)) ?_
   exact Jg N U g ⟨Ch h3,T,aL J la,u,c⟩ key (by rw[Cf];exact aL ho (er _ _))
 .refine cB f ?_
  obtain rfl:k=na:= "~JvhuRoh1y>EE2Dxvwvoam|i9nXb" ao J f;exact Jg N U g ⟨G,T,la,u,m⟩ key ho
def VS(hk:kindOf st=oneType')(g:Cx a b)(h:∀r ak,Sm st ak->bG a b r->Q r ak):wpS (model prog w) A E s (Ba a b) Q st:=by
 rw[VQ];refine aJ (wpS_lift (gU ⟨rfl,?_⟩));obtain⟨n,u⟩:∃n,a.size=n+1:=⟨a.size - 1,by have v1:=g.h;exact "~1|VP0PdoOx_pbwt5LNmPYAYUN" ao v1⟩;obtain⟨x,e⟩:=cQ (a:=a) (i:=a.size - 1) ("~3>D0JQq2bcP_L<kTH;Q" ao u);have J:HM a b #[] a.size b.size:=by
  unfold HM;rw[tC (by rw[dJ];exact av _),tC (by rw[dJ];exact av _)];exact⟨(show(a.toList.reverse++b.toList.reverse).Perm (a.toList++b.toList)from List.Perm.append (Kr _) (Kr _)),.nil,λ_ h=>(nomatch h),λ_ h=>(nomatch h),Kt.mpr g.f,Kt.mpr g.e⟩
 have T:HM a b #[x] (a.size - 1) b.size:=by
  rw[show a.size=(a.size - 1)+1 from "~1M=2W;8IzZ32mxbj2oHAy^_l_bzf^" ao u]at J;exact J.pV e λy v=>g.i x e y (List.mem_of_mem_take (tM.mp v))
 refine aJ (dV e ?_);by_cases h1:a.size - 1=0
 .exact cw (aH.mpr h1) (a8 (h _ _ (.refl _) (T.done (.inl h1))))
 .refine cB (λq=>h1 (aH.mp q)) ?_
  by_cases h2:b.size=1
  .exact cw (aH.mpr h2) (a8 (h _ _ (.refl _) (HM.last g T h2)))
  .refine cB (λq=>h2 (aH.mp q)) ?_
   have v2:=g.g;refine aJ (kY (aJ (eT (gh (I:=λn c ak=>Sm st ak/\∃out ia ib mg,c=((none,ia,ib,out,mg):H5)/\iA a b out ia ib/\n < out.size)
    (Q:=λc ak=>Sm st ak/\∃r q,c=((some r,q):H5)/\bG a b r) ?step ?fin ⟨.refl _,_,_,_,_,rfl,⟨Ch h1, "~F2ylM3>_kWdsuG" v2 h2,Nat.sub_le _ _,av _,T⟩,tK⟩) ?post)))
   case post=>
    rintro c ak ⟨N,r,q,rfl,C⟩;exact a8 (h r ak N C)
   case fin=>
    rintro c ak ⟨N,out,ia,ib,mg,rfl,l,ho⟩;have v3:=l.lt;exact absurd ho (by lia)
   case step=>
    rintro n c ak _ u ⟨N,out,ia,ib,mg,rfl,l,ho⟩;have f:=N.a.trans hk;refine aJ (eT (gh (I:=λx c m=>m=ak/\J6 a b (out.size+x) c) (Q:=λc m=>m=ak/\P6 a b out.size c) ?s1 ?f1 ⟨rfl,_,_,_,_,_,rfl,l,av _⟩) ?p1)
    case f1=>
     rintro c m ⟨h1,o,i,j,x,y,h2,h3,h4⟩;exact⟨h1,.inr ⟨o,i,j,x,y,h2,h3,by lia⟩⟩
    case s1=>
     rintro x c m _ _ ⟨rfl,o,i,j,x,y,rfl,h3,h4⟩;exact eT (VR f g h3 (er _ _) h4) λr t k=>by induction r <;>exact k
    case p1=>
     rintro c m ⟨rfl,⟨r,q,rfl,C⟩ |⟨o,i,j,x,y,rfl,l2,B⟩⟩
     .exact a8 ⟨N,r,_,rfl,C⟩
     .refine aJ (wpS_lift (gU ⟨rfl,?_⟩))
      refine aJ (eT (gh (I:=λ_ c eI=>Sm m eI/\P7 a b o.size c/\c.1=none) (Q:=λc eI=>Sm m eI/\P7 a b o.size c) ?s2 ?f2 ⟨.refl _,.inr ⟨_,_,_,_,_,_,rfl,l2,av _⟩,rfl⟩) ?p2)
      case f2=>exact λc eI k=>⟨k.1,k.2.1⟩
      case s2=>
       rintro x c eI _ _ ⟨h1,⟨r,q,rfl,_⟩ |⟨o',L,j',Y,x',z,rfl,U,p⟩,hc⟩
       .cases hc
       .have G:=h1.a.trans f
        by_cases H:Y>1
        .exact cw H (eT (Jh h1 G g U p) λr t k=>by induction r <;>exact k)
        .exact cB H (eT (Jh h1 G g U p) λr t k=>by induction r <;>exact k)
      case p2=>
       rintro c eI ⟨h1,⟨r,q,rfl,C⟩ |⟨o',L,j',Y,x',z,rfl,U,p⟩⟩
       .exact a8 ⟨N.trans h1,r,_,rfl,C⟩
       .exact aJ (wD λt h4=>a8 ⟨(N.trans h1).trans h4,_,_,_,_,rfl,U, "~Co7o=l|yvUuDMQrP" B p ho⟩)
end
end Mine.Lake.R
end
set_option tactic.hygienic true
section
open PySem PyProof.Rows
namespace Mine.Lake.R
@[inline]abbrev PT:=Array (Nat×Nat×Nat)
structure Sb(a₀:Array Keyed)(P:PT)(st:SortSt):Prop where
 b:(arrOf st).Perm a₀
 a:kindOf st=oneType'
 c:failedOf st=none
 d:pendingOf st=P
abbrev cr(a:Array Keyed)(i j:Nat):Prop:=∀k l,i<=k->k<=l->l < j->K a k<=K a l
abbrev ge(a₀:Array Keyed):Prop:=∀p∈a₀.toList,iy p
section
variable{a₀:Array Keyed}{P:PT}{st:SortSt}{i j:Nat}
def Sb.size(h:Sb a₀ P st):(arrOf st).size=a₀.size:=h.b.size_eq
def Sb.ints(h:Sb a₀ P st)(f:ge a₀):∀p∈(arrOf st).toList,iy p:=λp J=>f p ((Kw.mp h.b).mem_iff.mp J)
def Sb.setArr(h:Sb a₀ P st)(J:xs.Perm (arrOf st)):Sb a₀ P (setArr st xs):=⟨J.trans h.b,h.a,h.c,h.d⟩
def cr.sub(h:cr a i j)(h1:i<=L)(h2:j'<=j):cr a L j':=λk l t B C=>h k l (aL h1 t) B (gY C h2)
def cr.one:cr a i (i+1):=λk l t B C=>by
 obtain rfl:k=l:= "~3q45G_BQ8CLLvidJv" t B C;exact gS _
def cr.snoc(h:cr a i (i+n))(u:1<=n)(k:K a (i+n - 1)<=K a (i+n)):cr a i (i+n+1):=λx y t B C=>by
 by_cases q:y < i+n
 .exact h x y t B q
 .obtain rfl:y=i+n:= "~?pljn2pOv10iWL5dkv" C q
  by_cases r:x=i+n
  .rw[r];exact gS _
  .exact fa (h x (i+n - 1) t ("~1M<xDoextQXhbY89JJWblIi8^HZIq" ao B r) ("~3>D1I<usWpGr;zN=Ddd" ao u)) k
end
section
variable{prog:Program}{w:World}{A:Around}{E:Value->Shared->Prop}{s:Shared}{a₀:Array Keyed}{P:PT}{st:SortSt}{lo bO n:Nat}
def tq(f:ge a₀)(b:Sb a₀ P st)(hi:i < a₀.size)(G:j < a₀.size)(h:Q (some (decide (K (arrOf st) i < K (arrOf st) j))) st):wpS (model prog w) A E s (ltAt' i j) Q st:=by
 obtain⟨p,e1⟩:=cQ (a:=arrOf st) (i:=i) (by rw[b.size];exact hi);obtain⟨q,Y⟩:=cQ (a:=arrOf st) (i:=j) (by rw[b.size];exact G);rw[ea e1,ea Y]at h;rw[ltAt'_eq];refine aJ (kY ?_);exact aJ (dV e1 (aJ (dV Y (tj b.a (b.ints f _ (fJ e1)) (b.ints f _ (fJ Y)) h))))
abbrev Bf(lo a bO:Nat):SM AscSt:=
 forIn [a:bO] ((none,a):AscSt) λJ c=>do
  let x <-ltAt' (lo+c.2) (lo+c.2 - 1)
  match x with
  |some f=>if f=true then pure (ForInStep.done (none,c.2))else pure (ForInStep.yield (none,c.2+1))
  |_=>pure (ForInStep.done (some none,c.2))
abbrev tl(lo n bO:Nat):SM (Option Nat):=do
 reverseSlice' lo (lo+n)
 let c <-Bf lo n bO
 match c.1 with
 |some r=>pure r|none=>pure (some c.2)
abbrev Ji(lo n bO:Nat):SM DescSt:=
 forIn [n:bO] ((none,n,0):DescSt) λJ c=>do
  let x <-ltAt' (lo+c.2.1) (lo+c.2.1 - 1)
  match x with
  |some f=>if f=true then(if c.2.2>0 then(do
     reverseSlice' (lo+c.2.1 - (c.2.2+1)) (lo+c.2.1)
     pure (ForInStep.yield (none,c.2.1+1,0)))else pure (ForInStep.yield (none,c.2.1+1,0)))else(do
    let y <-ltAt' (lo+c.2.1 - 1) (lo+c.2.1)
    match y with
    |some a=>if a=true then pure (ForInStep.done (none,c.2.1,c.2.2))else pure (ForInStep.yield (none,c.2.1+1,c.2.2+1))
    |_=>pure (ForInStep.done (some none,c.2.1,c.2.2)))
  |_=>pure (ForInStep.done (some none,c.2.1,c.2.2))
abbrev Bg(lo n bO:Nat):SM (Option Nat):=do
 liftM (rule "list.sort.descending-run" :Sem Unit)
 let c <-Ji lo (n+1) bO
 match c.1 with
 |some r=>pure r
 |none=>if c.2.2>0 then(do
   reverseSlice' (lo+c.2.1 - (c.2.2+1)) (lo+c.2.1)
   tl lo c.2.1 bO)else tl lo c.2.1 bO
def VT(lo bO:Nat):countRun' lo bO=(do
  let c <-Bf lo 1 bO
  match c.1 with
  |some r=>pure r
  |none=>if(c.2==bO)=true then pure (some c.2)else if c.2>1 then(do
    let x <-ltAt' lo (lo+c.2 - 1)
    match x with
    |some a=>if a=true then pure (some c.2)else(do
     reverseSlice' lo (lo+c.2)
     Bg lo c.2 bO)
    |_=>pure none)else Bg lo c.2 bO):=by kernel_rfl
@[inline]abbrev gf(lo:Nat)(st ak:SortSt):Prop:=∀k,k < lo->K (arrOf ak) k=K (arrOf st) k
def gf.refl:gf lo st st:=λJ J=>rfl
def gf.trans(h:gf lo ga cO)(g:gf lo cO eI):gf lo ga eI:=λk U=>(g k U).trans (h k U)
def Jj(f:ge a₀)(b:Sb a₀ P st)(u:lo+bO<=a₀.size)(G:1<=a)(g:a<=bO)(N:cr (arrOf st) lo (lo+a))
  (h:∀n,a<=n->n<=bO->cr (arrOf st) lo (lo+n)->(n=bO\/K (arrOf st) (lo+n) < K (arrOf st) (lo+n - 1))->Q (none,n) st):wpS (model prog w) A E s (Bf lo a bO) Q st:=by
 refine gh (I:=λx c ak=>ak=st/\c=(none,x)/\cr (arrOf st) lo (lo+x)) ?step ?fin ⟨rfl,rfl,N⟩
 case fin=>
  rintro c ak ⟨rfl,rfl,p⟩;rw[BJ g]at p ⊢;exact h bO g (av _) p (.inl rfl)
 case step=>
  rintro x c ak v o ⟨rfl,rfl,p⟩;refine aJ (tq f b (i:=lo+x) (j:=lo+x - 1) ("~KU271uT3T?_m" u o) ("~ad^|jZ3GGzrF=zT?CB9fI" ao u o) ?_);by_cases Y:K (arrOf ak) (lo+x) < K (arrOf ak) (lo+x - 1)
  .rw[b5 Y];exact a8 (h x v (jP o) p (.inr Y))
  .rw[cd Y];exact a8 ⟨rfl,rfl,p.snoc (aL G v) (jO.mp Y)⟩
abbrev pX(a:Array Keyed)(i j:Nat):Prop:=∀k l,i<=k->k<=l->l < j->K a l<=K a k
abbrev pY(a₀:Array Keyed)(P:PT)(lo bO:Nat)(st:SortSt)(Q:Option Nat->SortSt->Prop):Prop:=∀m ak,Sb a₀ P ak->1<=m->m<=bO->cr (arrOf ak) lo (lo+m)->gf lo st ak->Q (some m) ak
def pY.after(h:pY a₀ P lo bO st Q)(g:gf lo st ga):pY a₀ P lo bO ga Q:=λm ak a b c d e=>h m ak a b c d (g.trans e)
def wI(hi:lo<=i)(G:j<=(arrOf st).size):gf lo st (setArr st (mirror (arrOf st) i j ((j - i) / 2))):=λk U=>by
 show K (mirror _ _ _ _) k=_;rw[K_mirror G,ab λq=>absurd q.1 (Nat.not_le.mpr (gY U hi))]
def Jk(f:ge a₀)(b:Sb a₀ P st)(u:lo+bO<=a₀.size)(h1:1<=n)(a:n<=bO)(N:pX (arrOf st) lo (lo+n))(h:pY a₀ P lo bO st Q):wpS (model prog w) A E s (tl lo n bO) Q st:=by
 have hsz:lo+n<=(arrOf st).size:=by rw[b.size];exact "~KU1?W2lW91^q" u a
 refine aJ (wpS_reverse ?_);have g:Sb a₀ P (setArr st (mirror (arrOf st) lo (lo+n) ((lo+n - lo) / 2))):=b.setArr (mirror_perm _ _ _ _);refine aJ (Jj f g u h1 a (λk l t B C=>?_) λm U i j J=>a8 (h m _ g (aL h1 U) i j (wI (av _) hsz)));show K (mirror _ _ _ _) k<=K (mirror _ _ _ _) l;rw[K_mirror hsz,K_mirror hsz,ah ⟨t, "~KUoY0IFH5ID4" B C⟩,ah ⟨"~1vTB0xF7Vv" t B,C⟩];exact N _ _ ("~fQ>elY7L5Xl8T>?jmD5YmzfYeRE7f1AK9ZmK" ao ao C) ("~IbsHB_mNd?fVAyyx|ujcnrr8R;IfjUui5|qt92BBXjciE6OytfOPdOut6zR^OnaBKHQAgLVEA1" ao ao ao B) ("~1bek4aecVfZtXch;o<PaG6do^ELsqBQzJ?WJm|76yp" ao ao h1 t)
def VU(f:ge a₀)(b:Sb a₀ P st)(u:lo+bO<=a₀.size)(h1:1<=n)(a:n<=bO)(N:pX (arrOf st) lo (lo+n))
  (h:∀m q ak,Sb a₀ P ak->n<=m->m<=bO->pX (arrOf ak) lo (lo+m)->q+1<=m->(∀i,lo+m - (q+1)<=i->i < lo+m->K (arrOf ak) i=K (arrOf ak) (lo+m - 1))->gf lo st ak->Q (none,m,q) ak):
  wpS (model prog w) A E s (Ji lo n bO) Q st:=by
 refine gh (I:=λx c ak=>∃q,c=(none,x,q)/\Sb a₀ P ak/\pX (arrOf ak) lo (lo+x)/\q+1<=x/\(∀i,lo+x - (q+1)<=i->i < lo+x->K (arrOf ak) i=K (arrOf ak) (lo+x - 1))/\gf lo st ak)
  ?step ?fin ⟨0,rfl,b,N,h1,λi t B=>by rw[show i=lo+n - 1 from "~<kamOTxkj8LDRP==LhkUgu67gPU3Fzqx_MGrWVBiHzjXBO_STZoYg6emBV05_OPZ3rn" ao ao t B],.refl⟩
 case fin=>
  rintro c ak ⟨q,rfl,G,p,L,J,Y⟩;rw[BJ a]at*;exact h bO q ak G a (av _) p L J Y
 case step=>
  rintro x c ak v o ⟨q,rfl,G,p,L,J,Y⟩;have hsz:lo+x<=(arrOf ak).size:=by rw[G.size];exact "~KU271uT3T7ve" u o
  have grow:∀xs:Array Keyed,(∀k,K xs k=K (arrOf ak) k)->K (arrOf ak) (lo+x)<=K (arrOf ak) (lo+x - 1)->pX xs lo (lo+(x+1)):=λxs z y k l t B C=>by
   rw[z,z];by_cases r:l < lo+x
   .exact p k l t B r
   .obtain rfl:l=lo+x:= "~?pljn2pOu|iUh1d4gb" C r
    by_cases g:k=lo+x
    .rw[g];exact gS _
    .exact fa y (p k (lo+x - 1) t ("~1M<xDoextQXhbY89JJWblIi8^HZIq" ao B g) ("~9kU^hn9dBRbLXj|Thk4GBg" ao h1 v))
  refine aJ (tq f G (i:=lo+x) (j:=lo+x - 1) ("~KU271uT3T?_m" u o) ("~ad^|jZ3GGzrF=zT?CB9fI" ao u o) ?_);by_cases U:K (arrOf ak) (lo+x) < K (arrOf ak) (lo+x - 1)
  .rw[b5 U]
   show wpS _ _ _ _ (if q>0 then _ else _) _ _;have one:∀xs:Array Keyed,∀i,lo+(x+1) - (0+1)<=i->i < lo+(x+1)->K xs i=K xs (lo+(x+1) - 1):=λxs i t B=>by rw[show i=lo+(x+1) - 1 from "~6sTPsHNq3usYLk^lS2=hcDrLzyK2Ru9xJRvrNL?XE9_CMEYmlR_tN7Y6vYmeRMal81ZA9BLH_" ao ao t B]
   split
   .refine aJ (wpS_reverse (a8 ⟨0,rfl,G.setArr (mirror_perm _ _ _ _),grow _ (xl hsz J) (kN U), "~VEUD;9Zx6_" id,one _,Y.trans (wI ("~=PgF1hIJhU9glrw^Igny" ao L) hsz)⟩))
   .exact a8 ⟨0,rfl,G,grow _ (λ_=>rfl) (kN U), "~VEUD;9Zx6_" id,one _,Y⟩
  .rw[cd U]
   refine aJ (tq f G (i:=lo+x - 1) (j:=lo+x) ("~ad^|jZ3GGzrF=zT?CB9fI" ao u o) ("~KU271uT3T?_m" u o) ?_);by_cases H:K (arrOf ak) (lo+x - 1) < K (arrOf ak) (lo+x)
   .rw[b5 H];exact a8 (h x q ak G v (jP o) p L J Y)
   .rw[cd H]
    have T:K (arrOf ak) (lo+x)=K (arrOf ak) (lo+x - 1):=Kx (jO.mp H) (jO.mp U);refine a8 ⟨q+1,rfl,G,grow _ (λ_=>rfl) (Int.le_of_eq T), "~4xhbUw3bjW4X8MB" L,λi t B=>?_,Y⟩;rw[show lo+(x+1) - 1=lo+x from "~9kUyV_Pqq8s36blkf_ykES" ao];by_cases r:i=lo+x
    .rw[r]
    .rw[T];exact J i ("~K|fv1Z;ujRdDsqcJC;9zix>yllTJWUqIMaHsmERUUJ" ao ao t) ("~x5zTDaULOcA_6ZScI" B r)
def Jl(f:ge a₀)(b:Sb a₀ P st)(u:lo+bO<=a₀.size)(a:n+1<=bO)(N:pX (arrOf st) lo (lo+(n+1)))(h:pY a₀ P lo bO st Q):wpS (model prog w) A E s (Bg lo n bO) Q st:=by
 refine aJ (wpS_lift (gU ⟨rfl,?_⟩));refine aJ (VU f b u (xg _ _) a N λm q ak G U i p L J Y=>?_);have hsz:lo+m<=(arrOf ak).size:=by rw[G.size];exact "~KU1?W2lW91^q" u i
 have h':=h.after Y;show wpS _ _ _ _ (if q>0 then _ else _) _ _
 split
 .refine aJ (wpS_reverse (Jk f (G.setArr (mirror_perm _ _ _ _)) u ("~1xEl7pL8qX" L) i (λk l t B C=>?_) (h'.after (wI ("~=PgF1hIJhU9glrw^Igny" ao L) hsz))))
  show K (mirror _ _ _ _) l<=K (mirror _ _ _ _) k;rw[xl hsz J,xl hsz J];exact p k l t B C
 .exact Jk f G u ("~1xEl7pL8qX" L) i p h'
def VV(f:ge a₀)(b:Sb a₀ P st)(u:lo+bO<=a₀.size)(h1:1<=bO)(h:pY a₀ P lo bO st Q):wpS (model prog w) A E s (countRun' lo bO) Q st:=by
 rw[VT];refine aJ (Jj f b u (av 1) h1 cr.one λn c i j m=>?_);show wpS _ _ _ _ (if(n==bO)=true then _ else _) _ _;by_cases a:n=bO
 .exact cw (aH.mpr a) (a8 (h n st b c i j .refl))
 .refine cB (λq=>a (aH.mp q)) ?_
  have U:=m.resolve_left a;by_cases H:n>1
  .refine cw H (aJ (tq f b ("~1_Xmzfc|qVDI" u h1) ("~DYI1vuZ9AnzuQBo^k=PfkysqRpyfMH>" ao u i a) ?_))
   by_cases C:K (arrOf st) lo < K (arrOf st) (lo+n - 1)
   .rw[b5 C];exact a8 (h n st b c i j .refl)
   .rw[cd C]
    have hsz:lo+n<=(arrOf st).size:=by rw[b.size];exact "~KU1?W2lW91^q" u i
    have all:∀k,lo<=k->k < lo+n->K (arrOf st) k=K (arrOf st) (lo+n - 1):=λk t B=>
     Kx (j k (lo+n - 1) t ("~?t_ll=5ecP9GEczP>H" ao B) ("~3>D1I<usWpGr;zN=Ddd" ao c)) (fa (jO.mp C) (j lo k (av _) t B))
    refine aJ (wpS_reverse (Jl f (b.setArr (mirror_perm _ _ _ _)) u ("~1I;4n0uRFk0cVq" i a) (λk l t B Y=>?_) (h.after (wI (av _) hsz))));show K (mirror _ _ _ _) l<=K (mirror _ _ _ _) k;rw[xl hsz all,xl hsz all];by_cases r:l < lo+n
    .rw[all k t ("~KUoY0IFH5ID4" B r),all l ("~1vTB0xF7Vv" t B) r];exact gS _
    .obtain rfl:l=lo+n:= "~?pljn2pOu|iUh1d4gb" Y r
     by_cases g:k=lo+n
     .rw[g];exact gS _
     .rw[all k t ("~17sCUHD?e;Btb_ab" B g)];exact kN U
  .refine cB H ?_
   obtain rfl:n=1:= "~F3FYr^7h6jV^YE" c H;refine Jl f b u (by lia) (λk l t B Y=>?_) h;by_cases r:k=l
   .rw[r];exact gS _
   .obtain rfl:k=lo:=by lia
    obtain rfl:l=k+1:=by lia
    exact kN U
end
end Mine.Lake.R
end
set_option tactic.hygienic false
section
open PySem PyProof.Rows
namespace Mine.Lake.R
section
variable{prog:Program}{w:World}{A:Around}{E:Value->Shared->Prop}{s:Shared}{a₀:Array Keyed}{P:PT}{st:SortSt}{lo bO n:Nat}
abbrev VW(lo k:Nat):SM (Option Bool×Nat×Nat):=
 forIn [0:k] ((none,0,k):Option Bool×Nat×Nat) λJ c=>
  if c.2.1>=c.2.2 then pure (ForInStep.done (none,c.2.1,c.2.2))else do
   let x <-ltAt' (lo+k) (lo+(c.2.1+c.2.2) / 2)
   match x with
   |some less=>if less=true then pure (ForInStep.yield (none,c.2.1,(c.2.1+c.2.2) / 2))else pure (ForInStep.yield (none,(c.2.1+c.2.2) / 2+1,c.2.2))
   |_=>pure (ForInStep.done (some false,c.2.1,c.2.2))
def VX(lo n ok:Nat):binarySort' lo n ok=(do
  let c <-forIn [max ok 1:n] ((none,()):Option Bool×Unit) λk c=>(do
   let r <-VW lo k
   match r.1 with
   |some q=>pure (ForInStep.done (some q,()))
   |none=>do
    moveDown' (lo+k) (lo+r.2.1)
    pure (ForInStep.yield (none,())))
  match c.1 with
  |some r=>pure r|none=>pure true):=by kernel_rfl
def VY{f:Nat->Int}(Y:lo<=m)(hm:m<=k)(U:∀x,lo<=x->x < m->f x<=f k)(H:∀x,m<=x->x < k->f k<=f x)(N:∀i j,lo<=i->i<=j->j < k->f i<=f j)(c1:lo<=i)(v:i<=j)(L:j<=k):
  (if i=m then f k else if m < i/\i<=k then f (i - 1)else f i)<=if j=m then f k else if m < j/\j<=k then f (j - 1)else f j:=by
 rcases Nat.lt_trichotomy i m with h |h |h
 .rw[ab (n' h),ab λq=>Nat.lt_asymm h q.1]
  rcases Nat.lt_trichotomy j m with g |g |g
  .rw[ab (n' g),ab λq=>Nat.lt_asymm g q.1];exact N i j c1 v (gY g hm)
  .rw[ah g];exact U i c1 h
  .rw[ab (xd g),ah ⟨g,L⟩];exact N i (j - 1) c1 ("~3N5XJgvig6m83Mu5vnX" ao h g) ("~9kUyWNcugIdwrtsV>unoj<" ao hm L h)
 .rw[ah h]
  have g:m<=j:=h▸v;rcases Kk g with g |g
  .rw[ah g.symm];exact gS _
  .rw[ab (xd g),ah ⟨g,L⟩];exact H (j - 1) ("~17tS2KWsPdsZ;2qf" ao g) ("~3>D1MR_CMdLeOLdRGk8" ao L g)
 .have g:m < j:=gY h v
  rw[ab (xd h),ah ⟨h,aL v L⟩,ab (xd g),ah ⟨g,L⟩];exact N (i - 1) (j - 1) (aL Y (Nat.le_sub_one_of_lt h)) (Nat.sub_le_sub_right v 1) ("~9kU^ia_Sc5NL?=89WdSZp7" ao v L h)
def VZ{Q:Bool->SortSt->Prop}(f:ge a₀)(b:Sb a₀ P st)(u:lo+n<=a₀.size)(T:ok<=n)(h1:1<=ok)(N:cr (arrOf st) lo (lo+ok))
  (h:∀ak,Sb a₀ P ak->cr (arrOf ak) lo (lo+n)->gf lo st ak->Q true ak):wpS (model prog w) A E s (binarySort' lo n ok) Q st:=by
 rw[VX,Nat.max_eq_left h1];refine aJ (eT (gh (I:=λk c ak=>c=(none,())/\Sb a₀ P ak/\cr (arrOf ak) lo (lo+k)/\gf lo st ak)
  (Q:=λc ak=>c=(none,())/\Sb a₀ P ak/\cr (arrOf ak) lo (lo+n)/\gf lo st ak) ?step ?fin ⟨rfl,b,N,.refl⟩) ?post)
 case post=>
  rintro c ak ⟨rfl,G,p,Y⟩;exact a8 (h ak G p Y)
 case fin=>
  rintro c ak ⟨o,G,p,Y⟩;rw[BJ T]at p;exact⟨o,G,p,Y⟩
 case step=>
  rintro k c ak Yh J ⟨rfl,G,p,Y⟩;refine aJ (eT (gh (I:=λx c m=>m=ak/\∃l r,c=(none,l,r)/\l<=r/\r<=k/\r - l<=k - x/\
    (∀i,i < l->K (arrOf ak) (lo+i)<=K (arrOf ak) (lo+k))/\(∀i,r<=i->i < k->K (arrOf ak) (lo+k)<=K (arrOf ak) (lo+i)))
   (Q:=λc m=>m=ak/\∃l,c=(none,l,l)/\l<=k/\
    (∀i,i < l->K (arrOf ak) (lo+i)<=K (arrOf ak) (lo+k))/\(∀i,l<=i->i < k->K (arrOf ak) (lo+k)<=K (arrOf ak) (lo+i))) ?istep ?ifin ⟨rfl,0,k,rfl,bb _,av _,av _,λi hi=>absurd hi (B' _),λi t B=>absurd t (Nat.not_le.mpr B)⟩) ?ipost)
  case ifin=>
   rintro c m ⟨rfl,l,r,rfl,t,B,C,a4,z⟩;obtain rfl:l=r:= "~rj5k7rL^uurXT1_DGhZi_WcpNw4Mr7^?3O457N8ah16>qrPXOHFKgzybt>kZcXRd2E|41=V8xPk|VwrVwmDA1L3XUYvvHw1p=EetdhLdTT8MxnLZtLCh?5V4ZRxQeHsDg6O7fiVsE6f9k" ao qM ao C t;exact⟨rfl,l,rfl,B,a4,z⟩
  case istep=>
   rintro x c m _ H ⟨rfl,l,r,rfl,t,B,C,a4,z⟩;by_cases a:l>=r
   .obtain rfl:l=r:=BQ t a
    refine cw a ?_;exact a8 ⟨rfl,l,rfl,B,a4,z⟩
   .refine cB a ?_
    refine aJ (tq f G (i:=lo+k) (j:=lo+(l+r) / 2) ("~KU271uT3T?_m" u J) ("~4_knNRGTjWfSHtE>WBKffPv" gZ u B J a) ?_);by_cases U:K (arrOf m) (lo+k) < K (arrOf m) (lo+(l+r) / 2)
    .rw[b5 U]
     exact a8 ⟨rfl,l,(l+r) / 2,rfl, "~fscKL0U6g9>h" gZ a, "~9Nz|5Pna57Inuzy" gZ B a, "~odgonu9K9|o_6veCE;ryGELnyAJVc07O6jBFx22U9KerG^yC05oPYMkZeE=<Sg3?FZ><07aOCg8cNfE0EonnO|oiyCchi^x2OBWfIJ^VEPP1pwy<P3^U?Sghh7lbW3DmhT?4W?C36^V3IrRRd>^B1BKLWgXNrg7aheAB6qiEMnSvJ|_v;^LI02gHrBA7" ao ao gZ ao ao C,a4,λi b1 g=>fa (kN U) (p _ _ (er _ _) (Ci b1 _) (Kn g _))⟩
    .rw[cd U]
     exact a8 ⟨rfl,(l+r) / 2+1,r,rfl, "~_=jl>6dcSojplK" gZ a,B, "~fJ^y<VAhd?;E;sG46krCkbDt03s681uYDvPzIYjUo<2TUQg2FAPh|wst1qWZ2cM6Tf=J4ydfq;H6=U8zr^m8VGMgQ6RKE=zqGnDAcAJbykzh9DQCM?Ho>9Mz|8AxHMX<iy?Vv9rD^aUI|rBiUY=NNBJZtrsXoQTADi7dcqiXAztpn86q_lRmlIXLQBS13M" ao ao gZ ao ao C,λi b1=>fa (p (lo+i) (lo+(l+r) / 2) (er _ _) ("~BgSNU|399xzPo5T5" gZ b1) ("~1nvWUqG0UEvQP92Hr<" gZ B a)) (jO.mp U),z⟩
  case ipost=>
   rintro c m ⟨rfl,l,rfl,t,B,C⟩;show wpS _ _ _ _ (do moveDown' (lo+k) (lo+l);pure (ForInStep.yield (none,()))) _ _;rw[moveDown'_eq];have V0:lo+k < (arrOf m).size:=by rw[G.size];exact "~KU271uT3T?_m" u J
   have q:∀x,K (bubble (arrOf m) (lo+k) (lo+k - (lo+l))) x=if x=lo+l then K (arrOf m) (lo+k)else if lo+l < x/\x<=lo+k then K (arrOf m) (x - 1)else K (arrOf m) x:=λx=>by
    rw[K_bubble V0 ("~1325g<tuJl>8PrG;" ao),show lo+k - (lo+k - (lo+l))=lo+l from "~6>ZW>g;e_Rt8;S;aGK3AFjidFkmN9FtKeJYhOGMGk=Pl2CM34y7quM=>SM" ao ao t]
   refine aJ (wpS_modify (a8 ⟨rfl,G.setArr (bubble_perm _ _ _),λi j c1 v L=>?_,Y.trans λx H=>?_⟩))
   .show K (bubble _ _ _) i<=K (bubble _ _ _) j
    rw[q,q];exact VY (er lo l) (Ci t lo) (λx d1 d2=>by obtain⟨y,rfl⟩:=Nat.exists_eq_add_of_le d1;exact B y (XF d2))
     (λx d1 d2=>by obtain⟨y,rfl⟩:=Nat.exists_eq_add_of_le (aL (er lo l) d1);exact C y (Nat.le_of_add_le_add_left d1) (XF d2)) p c1 v ("~1_R>gqJqxz9_" L)
   .show K (bubble _ _ _) x=_
    rw[q,ab ("~1nd<toFynh" H),ab ("~1CnhbmHAbwrnBw" H)]
end
abbrev ja(a:Array Keyed)(i:Nat)(l:List Keyed)(n:Nat):Array Keyed:=(l.zipIdx n).foldl (λa x=>match x with |(p,j)=>a.setIfInBounds (i+j) p) a
theorem Bh:∀(l:List Keyed) (a:Array Keyed) (i n:Nat),i+n+l.length<=a.size->(ja a i l n).toList=a.toList.take (i+n)++(l++a.toList.drop (i+n+l.length))
 |[],a,i,n,_=>(qx _ _).symm|p::l,a,i,n,h=>by
  simp only[bI]at h;have e:ja a i (p::l) n=ja (a.setIfInBounds (i+n) p) i l (n+1):=rfl;have Y:i+n < a.toList.length:=by rw[dJ];exact "~5yXlf<UXIY>Ls" h
  rw[e,Bh l _ i (n+1) (by rw[Array.size_setIfInBounds];exact "~D>PSDumUEZcVI2Vs" h),J2,bI];have e1:(a.toList.set (i+n) p).take (i+(n+1))=a.toList.take (i+n)++[p]:=by
   rw[show i+(n+1)=i+n+1 from "~5uQGfuMYHlqB2" id,List.take_add_one,qh Y,List.take_set_of_le (av _)];rfl
  have w:(a.toList.set (i+n) p).drop (i+(n+1)+l.length)=a.toList.drop (i+n+(l.length+1)):=by
   rw[List.drop_set_of_lt ("~1uoBawryRdM>" id),show i+(n+1)+l.length=i+n+(l.length+1)from "~18oJyCqdFWgQCJ<K" id]
  rw[e1,w,c7];rfl
abbrev mF(i:Nat)(r:Array Keyed):SM Bool:=do
 modify λs=>setArr s (ja (arrOf s) i r.toList 0)
 let g <-get
 pure (failedOf g).isNone
abbrev mA(s:SortSt)(i sa na pw sb nb:Nat):SM Bool:=do
 set (SortSt.mk' (kindOf s) (arrOf s) (((pendingOf s).setIfInBounds i (sa,na+nb,pw)).eraseIdxIfInBounds (i+1)) (gallopOf s) (failedOf s))
 let y <-elem' (arrOf s) sb
 let z <-mf false y (arrOf s) sa na 0
 match z with
 |some k=>if(na - k==0)=true then pure true else(do
   let x <-elem' (arrOf s) (sa+k+(na - k) - 1)
   let z <-mf true x (arrOf s) sb nb (nb - 1)
   match z with
   |some m=>if(m==0)=true then pure true else if na - k<=m then(do
      let r <-A5 ((arrOf s).extract (sa+k) sb) ((arrOf s).extract sb (sb+m))
      mF (sa+k) r)else(do
      let r <-Ba ((arrOf s).extract (sa+k) sb) ((arrOf s).extract sb (sb+m))
      mF (sa+k) r)
   |_=>pure false)
 |_=>pure false
def V2(i:Nat):mergeAt' i=(do
  let s <-get
  match((pendingOf s)[i]?,(pendingOf s)[i+1]?)with
  |(some (sa,na,pw),some (sb,nb,_))=>mA s i sa na pw sb nb|_=>liftM (unsupported "internal:list.sort.pending" :Sem Bool)):=by kernel_rfl
section
variable{a r:Array Keyed}{i j k n sa sb e:Nat}{z:Keyed}
def Jm(h:z∈(a.extract i j).toList):∃p,p < j - i/\a[i+p]?=some z:=by
 rw[qy,qz]at h;obtain⟨p,h1,h2⟩:=wz h;exact⟨p,h1,by rw[<-eJ];exact h2⟩
def cr.join(h1:cr a sa sb)(h2:cr a sb e)(h3:sa < sb)(h:K a (sb - 1)<=K a sb):cr a sa e:=λk l t B C=>by
 by_cases q:l < sb
 .exact h1 k l t B q
 .by_cases r:sb<=k
  .exact h2 k l r B C
  .exact fa (h1 k (sb - 1) t ("~Co3XWqdlAYY^mC6r" ao r) ("~13260b<acsi?|Y=v" ao h3)) (fa h (h2 sb l (av _) ("~2GzKalDy" q) C))
def cr.pw(h:cr a i j)(G:j<=a.size):((a.extract i j).toList).Pairwise up:=by
 rw[Km];intro p q J L U;have key:∀p z,(a.extract i j).toList[p]?=some z->kv z=K a (i+p)/\i+p < j:=λp z e=>by
  rw[qy,qz,xf]at e;by_cases q:p < j - i
  .rw[ah q,tE,eJ]at e
   exact⟨(ea e).symm, "~GFFarSXCIltmCP" ao q⟩
  .rw[ab q]at e;cases e
 obtain⟨k1,_⟩:=key p _ (iC J);obtain⟨k2,g⟩:=key q _ (iC L);show kv _<=kv _;rw[k1,k2];exact h _ _ (er _ _) (Ci (jP U) _) g
def V3(hi:i+r.size<=a.size):K (ja a i r.toList 0) j=if j < i then K a j else if j < i+r.size then K r (j - i)else K a j:=by
 have e:=Bh r.toList a i 0 (by rw[dJ];exact hi);have Y:(a.toList.take (i+0)).length=i:=by rw[Kv,dJ];exact "~1|XdzpZJQqXyr|;fiX3TFlo2R" fb hi
 have g:(ja a i r.toList 0)[j]?=if j < i then a[j]? else if j < i+r.size then r[j - i]? else a[j]?:=by
  rw[<-eJ,e,List.getElem?_append,Y];by_cases h1:j < i
  .rw[ah h1,ah h1,xf,ah ("~8RH=NPo7Z" h1),eJ]
  .rw[ab h1,ab h1,List.getElem?_append,dJ]
   by_cases h2:j < i+r.size
   .rw[ah h2,ah ("~<eSv6Q=rw0q>rxFyK|?Z" ao h2 h1),eJ]
   .rw[ab h2,ab ("~x6||yLaFEUucbU8SX" ao h2),tE,eJ]
    congr 1;exact "~HdeB45LJD30VbgSrB8rZdYUMQPofJG0lBkFN0Xp8<|BYQZkJ2CYk7^0=V4O" ao ao h2
 by_cases h1:j < i
 .rw[ah h1]at g ⊢;exact K_congr g
 .rw[ab h1]at g ⊢
  by_cases h2:j < i+r.size
  .rw[ah h2]at g ⊢;exact K_congr g
  .rw[ab h2]at g ⊢;exact K_congr g
def Jn(h:j<=a.size):(a.extract i j).size=j - i:=by rw[Array.size_extract,BH h]
def V4(h1:i<=sb)(h:sb+m<=a.size):a.toList=a.toList.take i++((a.extract i sb).toList++(a.extract sb (sb+m)).toList++a.toList.drop (sb+m)):=by
 rw[A9,qy,qz,c7,<-Ce,qx];have:a.toList.drop sb=(a.toList.drop i).drop (sb - i):=by rw[Ce,kZ h1]
 rw[this,qx,qx]
end
section
variable{prog:Program}{w:World}{A:Around}{E:Value->Shared->Prop}{s:Shared}{a₀:Array Keyed}{P:PT}{st:SortSt}{sa na pw sb nb i:Nat}
def V5(h0:ge a₀)(b:Sb a₀ P st)(e:sa+na=sb)(T:sb+nb<=a₀.size)(pa:0 < na)(G:0 < nb)(s1:cr (arrOf st) sa sb)(s2:cr (arrOf st) sb (sb+nb))
  (h:∀ak,Sb a₀ ((P.setIfInBounds i (sa,na+nb,pw)).eraseIdxIfInBounds (i+1)) ak->cr (arrOf ak) sa (sb+nb)->(∀j,j < sa\/sb+nb<=j->K (arrOf ak) j=K (arrOf st) j)->Q true ak):
  wpS (model prog w) A E s (mA st i sa na pw sb nb) Q st:=by
 obtain⟨J,U,hf,u⟩:=b;subst u;have hsz:=J.size_eq;have hints:∀p∈(arrOf st).toList,iy p:=λp pq=>h0 p ((Kw.mp J).mem_iff.mp pq);generalize Bi:SortSt.mk' (kindOf st) (arrOf st) (((pendingOf st).setIfInBounds i (sa,na+nb,pw)).eraseIdxIfInBounds (i+1)) (gallopOf st) (failedOf st)=ga;have b1:Sb a₀ (((pendingOf st).setIfInBounds i (sa,na+nb,pw)).eraseIdxIfInBounds (i+1)) ga:=by rw[<-Bi];exact⟨J,U,hf,rfl⟩
 have I:arrOf ga=arrOf st:=by rw[<-Bi]
 have start:∀{f:PUnit->SM Bool},wpS (model prog w) A E s (f ⟨⟩) Q ga->wpS (model prog w) A E s (set (SortSt.mk' (kindOf st) (arrOf st) (((pendingOf st).setIfInBounds i (sa,na+nb,pw)).eraseIdxIfInBounds (i+1)) (gallopOf st) (failedOf st))>>=f) Q st:=λ{f} q=>by
  rw[Bi];exact aJ (show wpAny _ _ ((set ga:SM PUnit).run st) _ _ _ by rw[StateT.run_set];exact aG ⟨rfl,q⟩)
 refine start ?_;have seg:∀{x n:Nat},x+n<=(arrOf st).size->cr (arrOf st) x (x+n)->pT (arrOf st) x n:=λ{x n} H N=>⟨λj hj=>by
  obtain⟨p,e⟩:=cQ (a:=arrOf st) (i:=x+j) ("~KU271uT3T?_m" H hj);exact⟨p,e,hints p (fJ e),(ea e).symm⟩,λj k t a2=>N _ _ (er _ _) (Ci t _) (Kn a2 _)⟩
 obtain⟨y,ey⟩:=cQ (a:=arrOf st) (i:=sb) ("~4rR|Fli8b7CKXcN" hsz T G);have g:=ea ey;refine aJ (dV ey (aJ (pU b1.a (hints y (fJ ey)) (seg ("~tEvoupconfCcGd5NT" e hsz T) (by rw[e];exact s1)) pa λk o=>?_)));obtain⟨c1,c2,L⟩:=o;have Jo:∀j,sa<=j->j < sa+k->K (arrOf st) j<=kv y:=λj C d2=>by
  obtain⟨p,ep⟩:=cQ (a:=arrOf st) (i:=sa+(j - sa)) ("~1y0uumbIipPKzipf_pM^_6lJG?xtGVNZZ5bsQvRW" ao e T G hsz c1 d2);have:=(mh ep).1 (c2 (j - sa) ("~j28HEQJuqH=mVy<NKX=" ao C d2));rw[<-ea ep,kZ C]at this;exact this
 have V6:∀j,sa+k<=j->j < sb->kv y<=K (arrOf st) j:=λj C d2=>by
  obtain⟨p,ep⟩:=cQ (a:=arrOf st) (i:=sa+(j - sa)) ("~=<_ClZUTvoT|ViM9vVuKMw3XM>9nEu;3>aB" ao e hsz T G d2);have:=(mh ep).2 (L (j - sa) ("~Co3XWqffq3nqYov2" ao C) ("~1sNDzLuCNYmaEL0x6>;<85k3<" ao e pa d2));rw[<-ea ep,kZ ("~W<<tbm^G" C)]at this;exact this
 show wpS _ _ _ _ (if(na - k==0)=true then _ else _) _ _;by_cases hz:na - k=0
 .refine cw (aH.mpr hz) ?_
  refine a8 (h ga b1 ?_ λj _=>by rw[I]);rw[I];exact s1.join s2 ("~I|rEd79IcBBj" e pa) (by rw[g];exact Jo _ ("~;J|p^wE;0wTPLMP4gxIV5P" ao e pa) ("~35d^YFyvr>rYu<I;Z|6mKDCudH3ESmPCVtekM0wTG8Twa_OKrZ2" ao ao e hz pa))
 .refine cB (λq=>hz (aH.mp q)) ?_
  obtain⟨x,ex⟩:=cQ (a:=arrOf st) (i:=sb - 1) ("~OoTYN>isroHTx8<xJ?ka0QtFC" ao hsz T G);have kx:=ea ex;refine aJ (dV (by rw[show sa+k+(na - k) - 1=sb - 1 by lia];exact ex) (aJ (pU b1.a (hints x (fJ ex)) (seg ("~5o926To;=SX1?" hsz T) s2) ("~BgSL9sbRoN^=G<SJ" ao G) λm hm=>?_)));obtain⟨m1,m2,c⟩:=hm;have V8:∀j,sb<=j->j < sb+m->K (arrOf st) j<=kv x:=λj C d2=>by
   obtain⟨p,ep⟩:=cQ (a:=arrOf st) (i:=sb+(j - sb)) ("~3Hs=|67xJT7hZXcJ4^AZ8l?>6SRgn4rLi<" ao hsz T m1 G d2);have:=(mh ep).1 (m2 (j - sb) ("~j28HEQJuqH=mVy<NKX=" ao C d2));rw[<-ea ep,kZ C]at this;exact this
  have Jp:∀j,sb+m<=j->j < sb+nb->kv x<=K (arrOf st) j:=λj C d2=>by
   obtain⟨p,ep⟩:=cQ (a:=arrOf st) (i:=sb+(j - sb)) ("~16<z62rSi5cHgIC^Md?oNw1F|H_BxMg" ao hsz T G d2);have:=(mh ep).2 (c (j - sb) ("~Co3XWqffq3nqYov2" ao C) ("~<eSrEPNJ=LD^WxJsxGas" ao G d2));rw[<-ea ep,kZ ("~W<<tbm^G" C)]at this;exact this
  show wpS _ _ _ _ (if(m==0)=true then _ else _) _ _;by_cases nS:m=0
  .refine cw (aH.mpr nS) ?_
   refine a8 (h ga b1 ?_ λj _=>by rw[I]);rw[I];exact s1.join s2 ("~I|rEd79IcBBj" e pa) (by rw[kx];exact Jp _ ("~1nT3f2BlQF" nS) ("~8O_S;9UpZ" G))
  .rw[ab λq=>nS (aH.mp q)]
   have mX:∀z∈((arrOf st).extract (sa+k) sb).toList,z∈(arrOf st).toList/\kv y<=kv z/\kv z<=kv x:=λz hz=>by
    obtain⟨p,p1,p2⟩:=Jm hz;refine⟨fJ p2,?_,?_⟩
    .rw[<-ea p2];exact V6 _ (er _ _) ("~44kBD10KF3U0qzqoW" ao p1)
    .rw[<-ea p2,<-kx];exact s1 _ _ ("~bQ3FY;S>" id) ("~l?rFXPls6TEWy^s9gc;MW8^X;W^AqOmoCR" ao ao p1) ("~9kUDhOL8HHuCLpA9<DfAk8" ao e pa)
   have mY:∀z∈((arrOf st).extract sb (sb+m)).toList,z∈(arrOf st).toList/\kv y<=kv z/\kv z<=kv x:=λz hz=>by
    obtain⟨p,p1,p2⟩:=Jm hz;refine⟨fJ p2,?_,?_⟩
    .rw[<-ea p2,<-g];exact s2 _ _ (av _) (er _ _) ("~<heAnC;R7B9e6lLMt31b" ao m1 p1)
    .rw[<-ea p2];exact V8 _ (er _ _) ("~44kBCf7m1hposYG9i" ao p1)
   have Bj:=Jn (a:=arrOf st) (i:=sa+k) (j:=sb) ("~1_3YN1s>i=lH" hsz T);have Jq:=Jn (a:=arrOf st) (i:=sb) (j:=sb+m) ("~17_WmZRK2PXEbWp3" hsz T m1);have cx:Cx ((arrOf st).extract (sa+k) sb) ((arrOf st).extract sb (sb+m)):=by
    refine⟨λp J=>hints p (mX p J).1,λp J=>hints p (mY p J).1,(s1.sub (er _ _) (av _)).pw ("~1_3YN1s>i=lH" hsz T),(s2.sub (av _) ("~1xL3<KmOfG" m1)).pw ("~17_WmZRK2PXEbWp3" hsz T m1), "~BUdfrTs4wn5^YSeLS_rXs3pn4WWxH0wlGHSwR?rW0I5Adx<v>pMdOYLTk7k;UAlMDF|JUgspgjb3xO" ao ao e Bj hz, "~4C4HOoWu7|rFXJnHTi1xtPEV57Hfu5ha" ao Jq nS,λz hz v B=>?_,λz hz v B=>?_⟩
    .rw[Array.getElem?_extract,ah (by lia),Nat.add_zero,ey]at hz
     cases hz;exact(mX v B).2.1
    .rw[Bj,Array.getElem?_extract,ah (by lia),show sa+k+(sb - (sa+k) - 1)=sb - 1 by lia,ex]at hz
     cases hz;exact(mY v B).2.2
   have fin:∀r cO,Sm ga cO->bG ((arrOf st).extract (sa+k) sb) ((arrOf st).extract sb (sb+m)) r->wpS (model prog w) A E s (mF (sa+k) r) Q cO:=λr cO sm res=>by
    have b2:Sb a₀ (((pendingOf st).setIfInBounds i (sa,na+nb,pw)).eraseIdxIfInBounds (i+1)) cO:=⟨by rw[sm.b];exact b1.b,sm.a.trans b1.a,sm.d.trans b1.c,sm.c.trans b1.d⟩;have Jr:arrOf cO=arrOf st:=sm.b.trans I;have hr:r.size=(sb - (sa+k))+m:=by
     have:=res.1.length_eq;rw[ca,dJ,dJ,dJ,Bj,Jq]at this;exact "~Ap^e^_6bJxX^W6I1JIVH;OYaLhWvnB^5g0od_vcmVqYVK_G2EjDIn1Px>KS;Xc7" ao ao this
    have nj:sa+k+r.size=sb+m:= "~_jZ;|SgX_fkcWvihyS=2o|8H8730<UBVG2<Locfj2HrWOsqFs5gHosuf5yguEa8ia7uoOW3NlomAOGz|wT5B>u;Fn^izPLEH<DX>XP_ce8TzKKs96F6CKIWx8;zdycQ5n|YCE?3eHyNkAojjq" ao ao e hr hz;have mr:∀j,j < r.size->kv y<=K r j/\K r j<=kv x:=λj hj=>by
     obtain⟨p,ep⟩:=cQ (a:=r) (i:=j) hj;rw[ea ep];exact(aZ.mp (res.1.mem_iff.mp (fJ ep))).elim (λq=>(mX p q).2) λq=>(mY p q).2
    have sr:∀i j,i<=j->j < r.size->K r i<=K r j:=λi j h1 h2=>by
     obtain⟨p,ep⟩:=cQ (a:=r) (i:=i) ("~1vTFg2BqE9" h1 h2);obtain⟨q,eq⟩:=cQ (a:=r) (i:=j) h2;rw[ea ep,ea eq];rcases Kk h1 with rfl |rl
     .rw[ep]at eq;cases eq;exact gS _
     .obtain⟨k1,rfl⟩:=bW.mp (i_ ep)
      obtain⟨k2,rfl⟩:=bW.mp (i_ eq);exact Km.mp res.2 _ _ k1 k2 rl
    have kb:∀j,K (ja (arrOf st) (sa+k) r.toList 0) j=if j < sa+k then K (arrOf st) j else if j < sb+m then K r (j - (sa+k))else K (arrOf st) j:=λj=>by
     rw[V3 ("~8=k>99v_uELT;C_y1xS6vxSm" nj hsz T m1),nj]
    refine aJ (wpS_modify (aJ (kY ?_)));show wpS _ _ _ _ (pure (failedOf cO).isNone) _ (setArr cO (ja (arrOf cO) (sa+k) r.toList 0));rw[b2.c,Jr];refine a8 (h _ (b2.setArr ?_) (λi j C d2 d3=>?_) λj hj=>?_)
    .rw[Jr,Kw,Bh _ _ _ _ (by rw[dJ];exact "~6qlniHvnO;5vw3roEYBNRFAJiF" nj hsz T m1),Nat.add_zero,dJ,nj]
     have:=V4 (a:=arrOf st) (i:=sa+k) (sb:=sb) (m:=m) ("~5SjisR47rUhv?" e c1) ("~17_WmZRK2PXEbWp3" hsz T m1);exact(List.Perm.append_left _ (List.Perm.append_right _ res.1)).trans (.of_eq this.symm)
    .show K (ja _ _ _ _) i<=K (ja _ _ _ _) j
     rw[kb,kb];by_cases q1:i < sa+k
     .rw[ah q1]
      by_cases Y:j < sa+k
      .rw[ah Y];exact s1 i j C d2 ("~13H5au=9dFQFJl?O" e c1 Y)
      .rw[ab Y]
       have:=Jo i C q1;by_cases q3:j < sb+m
       .rw[ah q3];exact fa this (mr _ ("~3m;OmxAA85q7_JvYto?TSP4|9Za?9=7E4OIYZJmRZ|CYgZr3DMfz;YO?GypNd8JiTSq_;l4ENiyfPb6" ao ao hr q3 nS)).1
       .rw[ab q3];exact fa this (by rw[<-g];exact s2 _ _ (av _) ("~8TVX1pCgI" q3) d3)
     .rw[ab q1,ab (show¬ j < sa+k from "~1IFyosD5ix5ZZc" d2 q1)]
      by_cases Y:i < sb+m
      .rw[ah Y]
       by_cases q3:j < sb+m
       .rw[ah q3];exact sr _ _ ("~lAgz|Yu7qM^7TRkul3?bYnT<_rkh=W_UzR" ao ao d2) ("~3m;OmxAA85q7_JvYto?TSP4|9Za?9=7E4OIYZJmRZ|CYgZr3DMfz;YO?GypNd8JiTSq_;l4ENiyfPb6" ao ao hr q3 nS)
       .rw[ab q3];exact fa (mr _ ("~3m;OmxAA85q7_JvYto?TSP4|9Za?9=7E4OIYZJmRZ|CYgZr3DMfz;YO?GypNd8JiTSq_;l4ENiyfPb6" ao ao hr Y nS)).2 (Jp j ("~Q4Cd4eFh<O" q3) d3)
      .rw[ab Y,ab (show¬ j < sb+m from "~1IFyosD5ix5ZZc" d2 Y)];exact s2 i j ("~8TVX1pCgI" Y) d2 d3
    .show K (ja _ _ _ _) j=_
     rw[kb];rcases hj with hj |hj
     .rw[ah ("~W1N1QDOG" hj)]
     .rw[ab ("~tE^VjH>k2oLbZlsiD" e hj c1),ab ("~5q0EHRcDVudWy" hj m1)]
   split
   .exact aJ (VO b1.a cx fin)
   .exact aJ (VS b1.a cx fin)
end
abbrev pl(P:List (Nat×Nat×Nat)):List (Nat×Nat):=P.map λp=>(p.1,p.2.1)
abbrev mj:Nat->List (Nat×Nat)->Nat->Prop
 |s,[],e=>s=e|s,p::r,e=>p.1=s/\0 < p.2/\mj (s+p.2) r e
theorem tr:∀{l r:List (Nat×Nat)} {s e:Nat},mj s (l++r) e↔∃m,mj s l m/\mj m r e
 |[],r,s,e=>⟨λh=>⟨s,rfl,h⟩,λ⟨m,h1,h2⟩=>by cases h1;exact h2⟩
 |p::l,r,s,e=>⟨λ⟨h1,h2,h3⟩=>let ⟨m,a,b⟩:=tr.mp h3;⟨m,⟨h1,h2,a⟩,b⟩,λ⟨m,⟨h1,h2,h3⟩,h4⟩=>⟨h1,h2,tr.mpr ⟨m,h3,h4⟩⟩⟩
theorem tt:∀{l:List (Nat×Nat)} {s e:Nat},mj s l e->s+l.length<=e/\∀p∈l,s<=p.1/\p.1+p.2<=e
 |[],s,e,h=>⟨gV h,λp hp=>nomatch hp⟩
 |q::l,s,e,⟨h1,h2,h3⟩=>by
  obtain⟨a,b⟩:=tt h3;refine⟨by rw[bI];exact "~Cp=>|6S;6gthoMqc" a h2,λp hp=>?_⟩;rcases bH.mp hp with rfl |hp
  .exact "~jB4o3bfHl6^Bl<c4WEQ" h1 a
  .have:=b p hp;exact "~3?930f;nGaRFLaCYPXh" this
structure Rk(a₀:Array Keyed)(lo n:Nat)(st:SortSt):Prop where
 a:Sb a₀ (pendingOf st) st
 d:mj 0 (pl (pendingOf st).toList) lo
 e:∀p∈pl (pendingOf st).toList,cr (arrOf st) p.1 (p.1+p.2)
 f:cr (arrOf st) lo (lo+n)
 c:lo+n<=a₀.size
def cr.eq(h:cr a i j)(e:∀k,i<=k->k < j->K b k=K a k):cr b i j:=λk l t B C=>by
 rw[e k t (fK B C),e l (aL t B) C];exact h k l t B C
section
variable{prog:Program}{w:World}{A:Around}{E:Value->Shared->Prop}{s:Shared}{a₀:Array Keyed}{st:SortSt}{lo n i:Nat}
def Js(f:ge a₀)(r:Rk a₀ lo n st)(hi:i+1 < (pendingOf st).size)(h:∀ak,Rk a₀ lo n ak->(pendingOf ak).size+1=(pendingOf st).size->Q true ak):
  wpS (model prog w) A E s (mergeAt' i) Q st:=by
 obtain⟨b,N,bw,run,le⟩:=r;obtain⟨⟨sa,na,pw⟩,e1⟩:∃p,(pendingOf st)[i]?=some p:=⟨_,xa (Nat.lt_of_succ_lt hi)⟩;obtain⟨⟨sb,nb,H⟩,U⟩:∃p,(pendingOf st)[i+1]?=some p:=⟨_,xa hi⟩;rw[V2];refine aJ (kY ?_);rw[e1,U];have Y:(pendingOf st).toList=(pendingOf st).toList.take i++(sa,na,pw)::(sb,nb,H)::(pendingOf st).toList.drop (i+1+1):=by
  rw[<-eJ]at e1 U;obtain⟨I,f1⟩:=bW.mp e1;obtain⟨q2,f2⟩:=bW.mp U;rw[<-f1,<-f2,<-Kj q2,<-Kj I,qx]
 have y:((pendingOf st).toList.take i).length=i:=by rw[Kv,dJ];exact "~2B0A<KFjK=cAzq=k|wL8|n9" fb hi
 generalize (pendingOf st).toList.take i=l1 at Y y;generalize (pendingOf st).toList.drop (i+1+1)=l2 at Y;have o:(((pendingOf st).setIfInBounds i (sa,na+nb,pw)).eraseIdxIfInBounds (i+1)).toList=l1++(sa,na+nb,pw)::l2:=by
  rw[Array.toList_eraseIdxIfInBounds,J2,Y,List.set_append_right _ _ (gV y),y,Nat.sub_self,List.set_cons_zero,
   List.eraseIdx_append_of_length_le (by rw[y];exact tB i),y,Nat.add_sub_cancel_left]
  rfl
 have eP:pl (pendingOf st).toList=pl l1++(sa,na)::(sb,nb)::pl l2:=by rw[Y];unfold pl;rw[kP];rfl
 have z:pl (l1++(sa,na+nb,pw)::l2)=pl l1++(sa,na+nb)::pl l2:=by unfold pl;rw[kP];rfl
 rw[eP]at N bw;obtain⟨m,c1,v,L,g,u,j⟩:=tr.mp N;have v:sa=m:=v;have L:0 < na:=L;have c:sb=m+na:=g;have u:0 < nb:=u;have j:mj (m+na+nb) (pl l2) lo:=j;subst v;obtain⟨C,d2⟩:=tt c1;obtain⟨d3,T⟩:=tt j;refine V5 f b c.symm ("~2fJurRUhAY;30WNtNOKxX" g d3 le) L u (by rw[c];exact bw (sa,na) (jg _ (.head _))) (bw (sb,nb) (jg _ (.tail _ (.head _)))) λak G s' k'=>?_;have J:=G.d;refine h ak ⟨⟨G.b,G.a,G.c,rfl⟩,?_,λp a=>?_,run.eq λk t B=>k' k (.inr ("~jB75cZVQlzO4RMunbhd" g d3 t)),le⟩ ?_
 .rw[J,o,z]
  exact tr.mpr ⟨sa,c1,rfl,Nat.add_pos_left L _,by rw[<-ty];exact j⟩
 .rw[J,o,z]at a
  rcases aZ.mp a with q |q
  .have v1:=d2 p q
   exact(bw p (dz _ q)).eq λk t B=>k' k (.inl ("~Bl81ZV8ilkfLSBZs" v1 B))
  .rcases bH.mp q with rfl |q
   .show cr _ sa (sa+(na+nb))
    rw[<-ty,<-c];exact s'
   .have v2:=T p q
    exact(bw p (jg _ (.tail _ (.tail _ q)))).eq λk t B=>k' k (.inr ("~2KhvMIg=ErNdyeIOjV^04zH" v2 g t))
 .rw[J,<-dJ,<-dJ,o,Y,ca,ca]
  simp only[bI];exact "~48?6rJ9mkbF7KUW5o" id
abbrev Jt(size pw:Nat):SM (Option Unit×Unit):=
 forIn [0:size] ((none,()):Option Unit×Unit) λJ J=>do
  let g <-get
  match(if(pendingOf g).size>1 then(pendingOf g)[(pendingOf g).size - 2]? else none)with
  |some (_,_,a)=>if a<=pw then pure (ForInStep.done (none,()))else do
    let w <-mergeAt' ((pendingOf g).size - 2)
    if(!w)=true then pure (ForInStep.done (some (),()))else pure (ForInStep.yield (none,()))
  |_=>pure (ForInStep.done (none,()))
abbrev Bk(lo n:Nat):SM (ForInStep (Option Unit×Nat)):=do
 modify λs=>setPending s ((pendingOf s).push (lo,n,0))
 pure (ForInStep.yield (none,lo+n))
abbrev wJ(size lo n:Nat):SM (ForInStep (Option Unit×Nat)):=do
 let g <-get
 match(pendingOf g).back? with
 |some (s1,H,_)=>do
  let c <-Jt size (power' size (2*s1+H) (2*s1+H+H+n) size)
  match c.1 with
  |some r=>pure (ForInStep.done (some r,lo))
  |none=>do
   modify λs=>setPending s ((pendingOf s).modify ((pendingOf s).size - 1) λ(st,j,_)=>(st,j,power' size (2*s1+H) (2*s1+H+H+n) size))
   Bk lo n
 |_=>Bk lo n
abbrev Ju(size:Nat):SM (Option Unit×Unit):=
 forIn [0:size] ((none,()):Option Unit×Unit) λJ J=>do
  let g <-get
  if(pendingOf g).size<=1 then pure (ForInStep.done (none,()))else do
   let w <-mergeAt' (if Option.any (λx=>decide (x < (pendingOf g)[(pendingOf g).size - 2+1]?.elim 0 λx=>x.2.1)) (if(pendingOf g).size - 2>0 then Option.map (λx=>x.2.1) (pendingOf g)[(pendingOf g).size - 2 - 1]? else none)=true then(pendingOf g).size - 2 - 1 else(pendingOf g).size - 2)
   if(!w)=true then pure (ForInStep.done (some (),()))else pure (ForInStep.yield (none,()))
def V9:sortRuns'=(do
  let g <-get
  let c <-forIn [0:(arrOf g).size] ((none,0):Option Unit×Nat) λJ c=>
   if c.2>=(arrOf g).size then pure (ForInStep.done (none,c.2))else do
    let x <-countRun' c.2 ((arrOf g).size - c.2)
    match x with
    |some n=>if n < minRun' (arrOf g).size (arrOf g).size 0 then(do
      liftM (rule "list.sort.binary-insertion" :Sem Unit)
      let w <-binarySort' c.2 (min ((arrOf g).size - c.2) (minRun' (arrOf g).size (arrOf g).size 0)) n
      if(!w)=true then pure (ForInStep.done (some (),c.2))else wJ (arrOf g).size c.2 (min ((arrOf g).size - c.2) (minRun' (arrOf g).size (arrOf g).size 0)))else wJ (arrOf g).size c.2 n
    |_=>pure (ForInStep.done (some (),c.2))
  match c.1 with
  |some r=>pure r
  |none=>do
   let c <-Ju (arrOf g).size
   match c.1 with
   |some r=>pure r|none=>pure ()):=by kernel_rfl
end
section
variable{prog:Program}{w:World}{A:Around}{E:Value->Shared->Prop}{s:Shared}{a₀:Array Keyed}{st:SortSt}{lo n i:Nat}
def Rk.pend(r:Rk a₀ lo n st)(h:pl P.toList=pl (pendingOf st).toList):Rk a₀ lo n (setPending st P):=by
 obtain⟨b,N,bw,run,le⟩:=r;exact⟨⟨b.b,b.a,b.c,rfl⟩,by rw[<-h]at N;exact N,by rw[<-h]at bw;exact bw,run,le⟩
def V'(f:ge a₀)(r:Rk a₀ lo n st)(h:∀ak,Rk a₀ lo n ak->Q (none,()) ak):wpS (model prog w) A E s (Jt size pw) Q st:=by
 refine gh (I:=λJ c ak=>c=(none,())/\Rk a₀ lo n ak) ?step (λc ak k=>by rw[k.1];exact h ak k.2) ⟨rfl,r⟩;rintro x c ak _ _ ⟨rfl,r'⟩;refine aJ (kY ?_);by_cases h2:(pendingOf ak).size>1
 .rw[ah h2]
  obtain⟨⟨a,b,o⟩,e⟩:∃p,(pendingOf ak)[(pendingOf ak).size - 2]?=some p:=⟨_,xa ("~BgSL9sbZbNFxkY5o" ao h2)⟩;rw[e];show wpS _ _ _ _ (if o<=pw then _ else _) _ _
  split
  .exact a8 (h ak r')
  .exact aJ (Js f r' ("~>ykZpbGF4rlvBdxH3g" ao h2) λcO g J=>a8 ⟨rfl,g⟩)
 .rw[ab h2];exact a8 (h ak r')
def Jv(r:Rk a₀ lo n st)(u:0 < n)(h:∀ak,Rk a₀ (lo+n) 0 ak->Q (.yield (none,lo+n)) ak):wpS (model prog w) A E s (Bk lo n) Q st:=by
 obtain⟨b,N,bw,run,le⟩:=r;refine aJ (wpS_modify (a8 (h _ ⟨⟨b.b,b.a,b.c,rfl⟩,?_,λp J=>?_,λk l t B C=>absurd t (by lia),le⟩)))
 .show mj 0 (pl ((pendingOf st).push (lo,n,0)).toList) (lo+n)
  rw[n7];unfold pl;rw[kP];exact tr.mpr ⟨lo,N,rfl,u,rfl⟩
 .have J:p∈pl ((pendingOf st).push (lo,n,0)).toList:=J
  rw[n7]at J;unfold pl at J;rw[kP]at J;rcases aZ.mp J with q |q
  .exact bw p q
  .rw[aB.mp q];exact run
def V_(P:PT)(i pw:Nat):pl (P.modify i λ(st,j,_)=>(st,j,pw)).toList=pl P.toList:=by
 unfold pl;rw[Array.toList_modify];refine List.ext_getElem? λk=>?_;rw[n4,n4,List.getElem?_modify]
 induction P.toList[k]? using aX with
 |none=>rfl|some p=>by_cases q:i=k <;>simp[q]
def Wa(f:ge a₀)(r:Rk a₀ lo n st)(u:0 < n)(h:∀ak,Rk a₀ (lo+n) 0 ak->Q (.yield (none,lo+n)) ak):wpS (model prog w) A E s (wJ size lo n) Q st:=by
 refine aJ (kY ?_)
 induction (pendingOf st).back? using aX with
 |none=>exact Jv r u h|some p=>
  obtain⟨s1,H,o⟩:=p;exact aJ (V' f r λak r'=>aJ (wpS_modify (Jv (r'.pend (V_ _ _ _)) u h)))
def Wc(h:a+max 0 b<=b):a<=1:=by rw[Nat.zero_max]at h;exact "~8RO=rxQ50" h
def Wd(f:ge a₀)(r:Rk a₀ a₀.size 0 st)(h:∀ak,Rk a₀ a₀.size 0 ak->(pendingOf ak).size<=1->Q (none,()) ak):wpS (model prog w) A E s (Ju a₀.size) Q st:=by
 refine gh (I:=λx c ak=>c=(none,())/\Rk a₀ a₀.size 0 ak/\(pendingOf ak).size+x<=a₀.size) ?step (λc ak k=>by rw[k.1];exact h ak k.2.1 (Wc k.2.2)) ⟨rfl,r,?init⟩
 case init=>
  have:=(tt r.d).1;unfold pl at this;rw[bX,dJ,qg]at this;exact this
 rintro x c ak _ _ ⟨rfl,r',H⟩;refine aJ (kY ?_);by_cases h2:(pendingOf ak).size<=1
 .exact cw h2 (a8 (h ak r' h2))
 .refine cB h2 ?_
  refine aJ (Js f r' (by split <;>lia) λcO g e=>a8 ⟨rfl,g, "~3q;Q9baO5mGJMuoYq" e H⟩)
def We(f:ge a₀)(b:Sb a₀ #[] st)(h:∀ak,(arrOf ak).Perm a₀->failedOf ak=none->cr (arrOf ak) 0 a₀.size->Q () ak):wpS (model prog w) A E s sortRuns' Q st:=by
 rw[V9];refine aJ (kY ?_);rw[b.size];have q:∀{st:SortSt} {i:Nat},cr (arrOf st) i (i+0):=λ{st i} k l t B C=>absurd t (by lia);refine aJ (eT (gh (I:=λx c ak=>∃lo,c=(none,lo)/\Rk a₀ lo 0 ak/\x<=lo) (Q:=λc ak=>c=(none,a₀.size)/\Rk a₀ a₀.size 0 ak) ?step ?fin
  ⟨0,rfl,⟨⟨b.b,b.a,b.c,rfl⟩,by rw[b.d];rfl,by rw[b.d];exact λp J=>(nomatch J),q,bb _⟩,av _⟩) ?post)
 case fin=>
  rintro c ak ⟨lo,rfl,r,H⟩;have:=r.c;obtain rfl:lo=a₀.size:= "~1G70RIr8a^Zg||XKrw2?YOqTJjt0Y" qM this H;exact⟨rfl,r⟩
 case step=>
  rintro x c ak _ H ⟨lo,rfl,r,z⟩;have y:=r.c;show wpS _ _ _ _ (if lo>=a₀.size then _ else _) _ _;by_cases a:lo>=a₀.size
  .obtain rfl:lo=a₀.size:= "~1ChNjlEc|7V5sH" a y
   exact cw a (a8 ⟨rfl,r⟩)
  .refine cB a ?_
   obtain⟨G,N,bw,_,_⟩:=r;have j:∀{cO n},Sb a₀ (pendingOf ak) cO->cr (arrOf cO) lo (lo+n)->gf lo ak cO->lo+n<=a₀.size->Rk a₀ lo n cO:=λ{cO n} g s2 l2 h2=>
    ⟨⟨g.b,g.a,g.c,rfl⟩,by rw[g.d];exact N,λp J=>by
     rw[g.d]at J;exact(bw p J).eq λk t B=>l2 k (gY B ((tt N).2 p J).2),s2,h2⟩
   have go:∀{cO n},Rk a₀ lo n cO->0 < n->wpS (model prog w) A E s (wJ a₀.size lo n) (λr eI=>match r with |.done c'=>c'=(none,a₀.size)/\Rk a₀ a₀.size 0 eI |.yield c'=>∃lo,c'=(none,lo)/\Rk a₀ lo 0 eI/\x+1<=lo) cO:=
    λ{cO n} r2 u=>Wa f r2 u λeI r3=>⟨_,rfl,r3, "~1IDvdOj0_rdDt^" z u⟩
   refine aJ (VV f G ("~BgSG0<Rd_US21QKp" ao a) ("~Co3XWqdlB8n0irRY" ao a) λm cO g T m2 s2 l2=>?_);show wpS _ _ _ _ (if m < _ then _ else _) _ _
   split
   .rename_i hm
    refine aJ (wpS_lift (gU ⟨rfl,?_⟩));refine aJ (VZ f g ("~cSe|4fl3lIqM3=QQ9lbdJbIsKnbsc>6nWhxk" ao fb T m2) ("~cTLdYVT7Y5O6^4Psh>TwjfoI>9luGtecfV5g" ao fb m2 hm) T s2 λeI b3 o U=>?_);exact eT (go (j b3 o (l2.trans U) ("~cSe|4fl3lIqM3=QQ9lbdJbIsKnbsc>6nWhxk" ao fb T m2)) ("~Q5hUaiclJgWDQtc8i18BAzIYWu^bFWwtTy9B06=6" ao fb T m2 hm)) λr Wg k=>by induction r <;>exact k
   .exact eT (go (j g s2 l2 ("~?tZikQ?yiYNwCn0pAH" ao T m2)) T) λr Wg k=>by induction r <;>exact k
 case post=>
  rintro c ak ⟨rfl,r⟩;refine aJ (Wd f r λcO r2 h1=>a8 (h cO r2.a.b r2.a.c ?_));have N:=r2.d;have bw:=r2.e;have Y:(pl (pendingOf cO).toList).length<=1:=by unfold pl;rw[bX,dJ];exact h1
  generalize pl (pendingOf cO).toList=L at N bw Y
  match L,N,bw,Y with
  |[],N,_,_=>intro k l t B C;have:0=a₀.size:=N;lia|[p],⟨c1,v,c3⟩,bw,_=>
   have:=bw p (.head _);rw[c1]at this;have c3:0+p.2=a₀.size:=c3;rw[c3]at this;exact this
  |_::_::_,_,_,Y=>simp at Y
end
end Mine.Lake.R
end
section
open PySem PySem.W PyProof.Rows
namespace Mine.Lake.S
open Mine.Lake.R
section
variable{prog:Program}{w:World}{A:Around}{E:Value->Shared->Prop}{s:Shared}
def ints_of{a₀:Array Keyed}(h:IntKeys a₀):ge a₀:=λp J=>by
 obtain⟨n,t,e⟩:=h p J;exact⟨t,by unfold kv;rw[e];rfl⟩
def Wh{vs:List Value}(h:¬ vs.toArray.size < 2):∃a b r,vs=a::b::r:=by
 induction vs with
 |nil=>exact absurd (by decide) h|cons a r=>
  induction r with
  |nil=>exact absurd (J8 1) h|cons b r=>exact⟨a,b,r,rfl⟩
def Wi(ho:s.heap.get? a=some (PyProof.Rows.seqObj "list" vs.toArray n))(L:IntsAre vs ns)(hz:vs.length<=sizeLine)
  (h:∀(out:Array Value) (g:List Int),IntsAre out.toList g->g.Perm ns->g.Pairwise (·<=·)->P (.done (.ret .none)) {s with heap:=sortedHeap s.heap a vs out}):
  wpAny (model prog w) A (Builtin.«list.sort» ⟨[.ref a],[]⟩) P E s:=by
 rw[list_sort_plain];have G:a < s.heap.objs.size:=jc ho;have o:vs.toArray.size<=sizeLine:=by rw[BV];exact hz
 refine aj (listItems_at ho rfl ?_);refine aj (listUpdate_at ho rfl ?_ o (bb _));obtain⟨e1,p⟩:∃e1,(s.heap.update a (Obj.mapSeq λH=>#[])).get? a=some (PyProof.Rows.seqObj "list" #[] e1):=⟨_,get?_update_seq ho (λH=>#[])⟩;refine aj (seqEpoch_at p rfl ?_);refine aj (wpAny_newTuple ?_ hz);refine aj (wpAny_newList ?_ (bb _));refine dq ?_;have c:(((s.heap.update a (Obj.mapSeq λH=>#[])).push (PyProof.Rows.seqObj "tuple" vs.toArray 0)).push (PyProof.Rows.seqObj "list" #[] 0)).get? a=some (PyProof.Rows.seqObj "list" #[] e1):=by
  rw[Heap.get?_push_ne _ _ _ (by rw[size_push',Heap.size_update];exact n' (Kf G)),Heap.get?_push_ne _ _ _ (by rw[Heap.size_update];exact n' G)];exact p
 show wpAny (model prog w) A _ P E {s with heap:=((s.heap.update a (Obj.mapSeq λH=>#[])).push (PyProof.Rows.seqObj "tuple" vs.toArray 0)).push (PyProof.Rows.seqObj "list" #[] 0)};have fin:∀ak:SortSt,(arrOf ak).Perm (pairsOf vs)->SortedTo (arrOf ak) (pairsOf vs).size->P (.done (.ret .none)) {s with heap:=sortedHeap s.heap a vs ((arrOf ak).map (·.2))}:=λak J N=>by
  obtain⟨g,h1,h2,h3⟩:=sorted_out L J N;exact h _ g h1 h2 h3
 by_cases h2:vs.toArray.size < 2
 .rw[ah h2,ah h2]
  refine aj (aG (aj ?_));rw[StateT.run_pure];refine aG ?_;refine aj (seqEpoch_at c rfl ?_);refine aj (listUpdate_at c rfl ?_ (bb _) (by rw[Array.size_map];show(pairsOf vs).size<=_;rw[pairsOf_size];exact qo hz));rw[bne_self_eq_false];refine aG (fin (SortSt.mk' general' (vs.toArray.zip vs.toArray) #[] 7 none) (Array.Perm.refl _) λi j v Y=>?_);rw[pairsOf_size]at Y;rw[BV]at h2;obtain rfl:i=j:= "~17tRi5>6lSbqtw7S" v Y h2;exact gS _
 .rw[ab h2,ab h2]
  obtain⟨f,m,rest,rfl⟩:=Wh h2;rw[keyKind_ints L];refine aj (aG (aj (gX (We (a₀:=pairsOf (f::m::rest)) (st:=SortSt.mk' oneType' ((f::m::rest).toArray.zip (f::m::rest).toArray) #[] 7 none)
   (Q:=λH ak=>(arrOf ak).Perm (pairsOf (f::m::rest))/\failedOf ak=none/\cr (arrOf ak) 0 (pairsOf (f::m::rest)).size)
   (ints_of L.intKeys) ⟨Array.Perm.refl _,rfl,rfl,rfl⟩ λak t B C=>⟨t,B,C⟩) (λr s' k=>?_) λH H e=>e)))
  obtain⟨u,ak⟩:=r;obtain⟨rfl,J,hf,N⟩:=k;refine aj (seqEpoch_at c rfl ?_);refine aj (listUpdate_at c rfl ?_ (bb _) (aL (gV ((Array.size_map ..).trans (J.size_eq.trans (pairsOf_size _)))) (qo hz)));dsimp only;rw[hf,bne_self_eq_false];exact aG (fin ak J λi j h1 h3=>N i j (bb _) h1 h3)
theorem Bl(x:Int):∀l:List Int,(lj x l).Perm (x::l)
 |[]=>.refl _|y::l=>by
  show(if x<=y then _ else _::lj x l).Perm _
  split
  .exact .refl _
  .exact((Bl x l).cons y).trans (.swap x y l)
theorem Jw:∀l:List Int,(jT l).Perm l
 |[]=>.refl _|x::l=>(Bl x (jT l)).trans ((Jw l).cons x)
theorem Jx(x:Int):∀l:List Int,l.Pairwise (·<=·)->(lj x l).Pairwise (·<=·)
 |[],_=>List.pairwise_singleton _ _|y::l,h=>by
  obtain⟨h1,h2⟩:=kV.mp h;show(if x<=y then _ else _::lj x l).Pairwise _
  split
  .rename_i q
   exact kV.mpr ⟨λz hz=>(bH.mp hz).elim (λe=>e▸q) λhz=>fa q (h1 z hz),h⟩
  .rename_i q
   exact kV.mpr ⟨λz hz=>(bH.mp ((Bl x l).mem_iff.mp hz)).elim (λe=>by rw[e];exact "~2I>Fbp7;" q) (h1 z),Jx x l h2⟩
theorem Jy:∀l:List Int,(jT l).Pairwise (·<=·)
 |[]=>.nil|x::l=>Jx x _ (Jy l)
def Wj(p:m.Perm l)(h:m.Pairwise (·<=·)):m=jT l:=
 (p.trans (Jw l).symm).eq_of_pairwise (λJ J J J a b=>Kx a b) h (Jy l)
@[inline]abbrev wK(h h':Heap):Prop:=∀b o,h.get? b=some o->h'.get? b=some o
def Wk(hz:ns.length<=sizeLine)
  (U:∀R:List Value->Shared->Prop,(∀h' N vs,wK s.heap h'->IntsAre vs ns->R vs {s with heap:=h',toks:=N})->wpAny (model prog w) A.in1 (collect z) R E s)
  (h:∀h' N out l n,wK s.heap h'->s.heap.get? l=none->h'.get? l=some (PyProof.Rows.seqObj "list" out n)->IntsAre out.toList (jT ns)->Q (.ref l) {s with heap:=h',toks:=N}):
  wpAny (model prog w) A (call (.builtin "sorted") [z]) Q E s:=by
 refine Calls.call_function_entry kind_sorted plain_sorted entry_sorted (args_sorted1 _) ?_;unfold Builtin.«sorted»;refine aj (m:=checkCount "sorted" 1 1 _) (aG ?_);refine aj (U _ λh1 N vs k L=>?_);have Y:vs.length=ns.length:=by rw[<-L.nums,bX]
 refine aj (wpAny_newList ?_ (by rw[Y];exact hz));have a:(h1.push (PyProof.Rows.seqObj "list" vs.toArray 0)).get? h1.objs.size=some (PyProof.Rows.seqObj "list" vs.toArray 0):=iD _ rfl;refine aj (dq (n6 slot_list_sort ⟨_,a,rfl⟩ entry_list_sort (Wi a L (by rw[Y];exact hz) λout g t B C=>⟨_,rfl,?_⟩) (args_list_sort _)));obtain⟨e,J⟩:=sortedHeap_at (out:=out) a;refine aG ⟨_,rfl,h _ N out _ e (λb o q=>?_) ?_ J (by rw[<-Wj B C];exact t)⟩
 .have f:=k b o q
  rw[sortedHeap_old (n' (jc f)) (by rw[size_push'];exact Kf (jc f))];exact gg _ f
 .generalize q:s.heap.get? h1.objs.size=T
  induction T using aX with
  |none=>rfl|some o=>exact absurd (jc (k _ _ q)) (tz _)
end
section
variable{X:dk}{A:Around}{E:Value->Shared->Prop}{s:Shared}{σ:St}{μ:Mu}
def Wl{h:Heap}(r:IntsAre vs ns):b8 h ω μ (ns.map .j) vs:=by
 induction r with
 |nil=>exact .nil|cons n t _ ih=>exact .cons (.int n t) ih
def Wm{h:Heap}:∀{is:List Int} {vs:List Value},qV l=some is->b8 h ω μ l vs->IntsAre vs is:=by
 induction l with
 |nil=>intro is vs e r;rw[<-ay e,show vs=[]from r];exact .nil|cons v l ih=>
  intro is vs e r;obtain⟨i,hi,e⟩:=a9 (x:=gG v) e;obtain⟨m,hm,e⟩:=cF e;obtain⟨x,xs,ex,h1,t⟩:=r;rw[jl hi]at h1;obtain⟨u,a⟩:=h1;rw[ex,a,<-e];exact .cons i u (ih hm t)
def Wn{h:Heap}{n:Nat}(low:(a==sysModules)=false)(T:A.handled=none)(d:s.heap.DictOf (intKind X.a X.w) a kvs)(U:kvs.map (·.1)=es)(hz:kvs.length<=sizeLine)(R:List Value->Shared->Prop)
  (k:∀h' N vs,wK s.heap h'->IntsAre vs es->R vs {s with heap:=h',toks:=N}):wpAny (model X.a X.w) A.in1 (collect (.ref a)) R E s:=by
 obtain⟨ep,g⟩:=d.dictAt;refine kdu_collect (A:=A.in1) (kdl_dict (knd:=intKind X.a X.w) (kvs:=kvs) (ep:=ep) low) T g hz λh' N acc f c=>k h' N acc.toList f ?_;subst U;have key:∀(kvs:List (Int×Value)) (vs:List Value),vs.length=kvs.length->(∀j v,vs[j]?=some v->∃k x,kvs[j]?=some (k,x)/\Value.isInt k v=true)->IntsAre vs (kvs.map (·.1)):=λkvs=>by
  induction kvs with
  |nil=>intro vs Y _;rw[w7.mp Y];exact .nil|cons p kvs ih=>
   intro vs Y B
   induction vs using bo with
   |nil=>cases Y|cons v vs=>
    obtain⟨k,x,e,hi⟩:=B 0 v rfl;have e:p=(k,x):=ay e;subst e;obtain⟨t,rfl⟩:=Value.isInt_shape hi;exact .cons _ t (ih vs (kR Y) λj u e=>B (j+1) u e)
 exact key kvs acc.toList (by rw[dJ];exact c.1) λj v e=>c.2 j v (by rw[<-eJ];exact e)
def Wo(low:∃o,X.b.get? sysModules=some o):mT X:=λ{A E s σ μ v r z aw Q n} j R H e c=>by
 obtain⟨is,hi,e⟩:=a9 (x:=mJ σ v) e;obtain⟨Y,e⟩:=bN e;have c:=c.of e;have fin:(∀R:List Value->Shared->Prop,(∀h' N vs,wK s.heap h'->IntsAre vs is->R vs {s with heap:=h',toks:=N})->wpAny (model X.a X.w) A.in1 (collect z) R E s)->wpAny (model X.a X.w) A (call (.builtin "sorted") [z]) Q E s:=λw=>by
  refine Wk (gI Y) w λh' N out l n k u G L=>?_;obtain⟨I,E1⟩:=R.grow k;exact c {s with heap:=h',toks:=N} μ (.ref l) I E1 (.lst G (λq=>R.ow u q) (Wl L)) ⟨rfl,rfl⟩
 rcases lh (x:=bt σ v) hi with h |h
 .obtain⟨p,hs,h⟩:=h
  obtain⟨J,h⟩:=bN h;obtain⟨a,vs,n,T,B,ra⟩:=jY R hs H;rw[J]at B;have L:=Wm h ra;have y:vs.toList.length=is.length:=by rw[<-L.nums,bX]
  rw[T]at fin ⊢;refine fin λR' k=>?_;refine collect_list (vs:=vs.toList) ⟨_,B,rfl,n,rfl⟩ (k _ s.toks _ (λb o q=>?_) L) (by rw[y];exact gI Y);rw[w9 _ _ _ _ (n' (jc q))];exact gg _ q
 .obtain⟨o,ho,h⟩:=a9 h.2
  obtain⟨es,he,h⟩:=cF h;obtain⟨i,m,_,hi,hm,T,C⟩:=jZ R ho H;obtain⟨kvs,_,_,hd,U⟩:=lq he C;rw[T]at fin ⊢;have t:kvs.map (·.1)=is:=(a0.map_eq (f:=λp:Int×V=>p.1) (g:=λq:Int×Value=>q.1) (λ_ _ q=>q.1) U).trans h;exact fin (Wn (h:=s.heap) (n:=0) (rb low R hm) j.b hd t (by rw[<-bX (f:=λq:Int×Value=>q.1),t];exact gI Y))
end
end Mine.Lake.S
end
set_option genInjectivity true
set_option backward.match.sparseCases false
section
open PySem PySem.W
namespace Mine.Lake
@[inline]abbrev tO(l:List Value):Obj:=⟨.type "tuple",none,.seq ⟨l⟩ 0,#[]⟩
@[inline]abbrev fO(t:Value)(l:List Value):Obj:=⟨t,none,.fields ⟨l⟩,#[]⟩
@[inline]abbrev dO(l:List DictEntry)(n:Nat):Obj:=⟨.type "dict",none,.dict ⟨l⟩ n,#[]⟩
abbrev Jz:Str:=Str.ofString "/claim/cut.py"
abbrev Bm:List Str->Nat->List Value
 |[],_=>[]|s::r,t=>.str s t::Bm r (t+1)
structure La where
 a:List Obj
 t:Nat
abbrev Bn(n q:Str)(a c f Y:Nat)(o:Bool)(B t id:Nat)(v1 v2 g:Value):Obj:=
 fO (.type "code") [.str n t,.str q (t+1),.str Jz (t+2),.int a 0,.int c 0,.int 0 0,.int 0 0,.int f 0,.ref Y,.bool o,.int 181 0,.ref B,.none,v1,v2,g,.int id 0,.int a 0,.str Jz (id+1)]
abbrev JA(st:Stmt)(q:Str)(i dv:Value)(f:Bool)(a t:Nat):La:=match st with
 |.FunctionDef n ps b _ _ _ sc _ _ pos=>
  let vs:=match f with |true=>(sc.names.filter λx=>x.2==.local||(x.2==.cell&&(ps.args.map (·.arg)).contains x.1)).map (·.1) |false=>[]
  let id:=t+3+vs.length
  let fd:FuncData:={name:=n,qualname:=q,params:=ps,body:=.stmts b,scope:=sc,globals:=builtinsNs,closure:=[],defaults:=.none,kwdefaults:=.none}
  let c:=match f with |true=>a+4 |false=>a+2
  let mid:=match f with |true=>[tO (Bm vs (t+3)),tO []] |false=>[]
  let v1:=match f with |true=>Value.ref (a+2) |false=>.none
  let v2:=match f with |true=>Value.ref (a+3) |false=>.none
  ⟨tO []::fO .none []::(mid++[⟨.none,none,.func fd,#[]⟩,Bn n q pos.line ps.args.length 3 a true (a+1) t id v1 v2 (.ref c),⟨.type "function",none,.func {fd with globals:=mainGlobals,defaults:=dv,pyModule:=i,code:=.ref (c+1)},#[]⟩]),id+2⟩
 |_=>⟨[],t⟩
abbrev Bo(x:Str):List DictEntry->Value
 |[]=>.none
 |⟨_,k,v⟩::r=>match k with
  |.str y _=>match x==y with |true=>v |false=>Bo x r
  |_=>Bo x r
@[inline]abbrev Ev:=Value×List Obj×Nat
abbrev pZ(f:Expr->Nat->Nat->Ev):List Expr->Nat->Nat->List Value×List Obj×Nat
 |[],_,t=>([],[],t)|e::r,a,t=>
  let x:=f e a t
  let y:=pZ f r (a+x.2.1.length) x.2.2
  (x.1::y.1,x.2.1++y.2.1,y.2.2)
abbrev ev(P:Params)(g:List DictEntry):Nat->Expr->Nat->Nat->Ev
 |0,_,_,t=>(.none,[],t)
 |m+1,e,a,t=>match e with
  |.Constant c _ _=>(match c with
   |.int i=>(.int i t,[],t+1)|.str s=>(.str s t,[],t+1)|_=>(.none,[],t))
  |.Name x _=>(match Bo x g with |.none=>(match x==Str.ofString "Exception" with |true=>(.type "Exception",[],t) |false=>(.none,[],t)) |v=>(v,[],t))
  |.UnaryOp _ (.Constant (.int i) _ _) _=>(.int (-i) (t+1),[],t+2)|.Tuple es _ _=>
   let r:=pZ (ev P g m) es a t
   (.ref (a+r.2.1.length),r.2.1++[tO r.1],r.2.2)
  |.Dict I vs _=>
   let r:=pZ (ev P g m) vs (a+1) t
   let es:=(I.zip r.1).filterMap λp=>p.1.map λk=>match(ev P g m k 0 0).1 with
    |.int i t=>(⟨i,.int i t,p.2⟩:DictEntry)|v=>⟨0,v,p.2⟩
   (.ref a,dO es es.length::r.2.1,r.2.2+es.length)
  |_=>(.none,[],t)
structure p0 where
 i:Nat
 n:Nat
 t:Nat
 g:List DictEntry
 f:List Value
 a:Value
 b:List DictEntry
 c:List (Addr×Addr)
 d:List (Addr×List Value)
abbrev Wp(a b:Str):Str:=a++Str.ofString "." ++b
@[inline]abbrev en(P:Params)(x:Str)(t:Nat)(v:Value):DictEntry:=⟨PyData.keyHash P x,.str x t,v⟩
structure Me where
 a:List Obj
 t:Nat
 b:List DictEntry
 f:List Value
abbrev Bp(P:Params)(g:List DictEntry)(cn:Str)(i:Value):List Stmt->Nat->Nat->Me
 |[],_,t=>⟨[],t,[],[]⟩
 |s::r,a,t=>match s with
  |.FunctionDef n ps b _ _ _ sc _ _ pos=>
   let dv:=pZ (ev P g 5) ps.defaults a t
   let pre:=match dv.1 with |[]=>[] |l=>dv.2.1++[tO l]
   let d:=match dv.1 with |[]=>Value.none |_=>.ref (a+dv.2.1.length)
   let Y:=a+pre.length
   let x:=JA s (Wp cn n) i d true Y dv.2.2
   let B:=Y+x.a.length
   let y:=Bp P g cn i r B (x.t+1)
   ⟨pre++x.a++y.a,y.t,en P n x.t (.ref (B - 1))::y.b,[.int pos.line 0,.int pos.col 0,.ref (B - 2)]++y.f⟩
  |_=>Bp P g cn i r a t
abbrev Wq:List Nat:=[55,64,68,70,71,72,77,78,83,85,86,87,106,127,150,151,157,160,161,162]
abbrev Wr(P:Params)(s:Stmt)(c:p0):List Obj×p0:=match s with
 |.Assign ts e _=>
  let v:=ev P c.g 5 e c.n c.t
  let x:=match ts with |[.Name x _]=>x |_=>Str.ofString ""
  (v.2.1,{c with i:=c.i+1,n:=c.n+v.2.1.length,t:=v.2.2+1,g:=match x==Str.ofString "__name__" with |true=>c.g |false=>en P x v.2.2 v.1::c.g,a:=match x==Str.ofString "__name__" with |true=>v.1 |false=>c.a})
 |.FunctionDef n ps _ _ _ _ _ _ _ pos=>
  let dv:=pZ (ev P c.g 5) ps.defaults c.n c.t
  let pre:=match dv.1 with |[]=>[] |l=>dv.2.1++[tO l]
  let d:=match dv.1 with |[]=>Value.none |_=>.ref (c.n+dv.2.1.length)
  let Y:=c.n+pre.length
  let x:=JA s n c.a d (!Wq.contains c.i) Y dv.2.2
  let B:=Y+x.a.length
  (pre++x.a,{c with i:=c.i+1,n:=B,t:=x.t+1,g:=en P n x.t (.ref (B - 1))::c.g,f:=.ref (B - 2)::.int pos.col 0::.int pos.line 0::c.f})
 |.ClassDef n I _ body _ _ _ _ _ sa pos=>
  let h:=(pZ (ev P c.g 5) I c.n c.t).1
  let a:=c.n
  let t:=c.t
  let m:=Bp P c.g n c.a body (a+7) (t+12)
  let b:=a+7+m.a.length
  let k:=m.t+sa.length
  let C:=b+2
  let base:=match h with |[]=>Value.none |v::_=>v
  let gs:List (List Value):=match base with
   |.none=>[[.str (Str.ofString "__dict__") (k+1),.ref C,.builtin "function.__dict__",.builtin "function.__dict__#set"],[.str (Str.ofString "__weakref__") (k+3),.ref C,.builtin "ExceptionGroup.__weakref__",.none]]|.type _=>[[.str (Str.ofString "__weakref__") (k+1),.ref C,.builtin "ExceptionGroup.__weakref__",.none]]|_=>[]
  let j:=match base with
   |.none=>[en P (Str.ofString "__dict__") (k+2) (.ref (C+1)),en P (Str.ofString "__weakref__") (k+4) (.ref (C+2))]|.type _=>[en P (Str.ofString "__weakref__") (k+2) (.ref (C+1))]|_=>[]
  let d:=k+1+2*gs.length
  let e1:=en P (Str.ofString "__module__") (t+7) c.a
  let H:=en P (Str.ofString "__firstlineno__") (t+11) (.int pos.line (t+10))
  let es:=m.b++[en P (Str.ofString "__static_attributes__") k (.ref b)]
  let mro:=match base with
   |.none=>[Value.type "object"]|.ref x=>(c.d.lookup x).getD []|v=>[v,.type "BaseException",.type "object"]
  let new:=match mro.contains (.type "Exception")with |true=> "Exception.__new__" |false=> "object.__new__"
  let s2:=match base with |.type _=>2 |_=>0
  (tO h::fO (.type "builtin_function_or_method") [.builtin "type.__prepare__",.type "type"]::dO (e1::en P (Str.ofString "__qualname__") (t+9) (.str n (t+8))::H::es) (3+es.length)::tO []::fO .none m.f::
   Bn n n pos.line 0 0 (a+3) false (a+4) (t+2) (t+5) .none .none .none::
   ⟨.type "frame",none,.plain,#[some (.ref (a+5)),some (.ref 3),some (.ref (a+2)),none,some c.a,none,some (.ref 0)]⟩::
   (m.a++[tO (Bm sa m.t),dO (e1::H::(es++(j++[en P (Str.ofString "__doc__") d .none]))) (2+gs.length),
    ⟨.type "type",none,.cls {name:=n,bases:=(match h with |[]=>[.type "object"] |l=>l),mro:=.ref C::mro,ns:=b+1,qualname:=n},#[(match h with |[]=>none |_=>some (.ref a)),none,some (.str n t),some (.str n (t+8)),some (.builtin new),some (.bool true)]⟩]
    ++(gs.map (fO (.type "getset_descriptor"))++[fO (.type "super") [.ref C,.ref C,.ref C],fO (.type "builtin_function_or_method") [.builtin "object.__init_subclass__",.ref C]])),
   {c with
    i:=c.i+1,n:=C+3+gs.length,t:=d+s2+3,g:=en P n (d+s2+2) (.ref C)::c.g,f:=.ref (a+5)::.int pos.col 0::.int pos.line 0::c.f,
    c:=(match base with |.ref x=>c.c++[(x,C)] |_=>c.c),d:=(C,.ref C::mro)::c.d,
    b:=(match base with
     |.type x=>c.b++[en P (Str.ofString ("type.__subclasses__." ++x++ ".0")) (d+1) (.int C 0),en P (Str.ofString ("type.__subclasses__." ++x++ ".n")) (d+2) (.int 1 0)]|_=>c.b)})
 |_=>([],c)
abbrev JB(P:Params):List Stmt->p0->List Obj×p0
 |[],c=>([],c)|s::r,c=>
  let x:=Wr P s c
  let y:=JB P r x.2
  (x.1++y.1,y.2)
end Mine.Lake
end
set_option genInjectivity false
section
open PySem PySem.W
namespace Mine.Lake
@[inline]abbrev pw:Program:=PySem.Challenge.pw_xm0466_01
abbrev bd:List Stmt:=behindTheImports pw
abbrev wL:Env:={scope:=pw.main.scope,locals:=mainNs,globals:=mainNs,cells:=[],code:=.ref 13,frame:=some 14}
abbrev nT:Code:=.body bd wL
@[inline]abbrev q0:Pos:=⟨0,0,0,0⟩
abbrev g0(P:Params)(i:Value):List DictEntry:=match(boot_o_3 P).data with
 |.dict es _=>(match es.toList with |e::r=>{e with val:=i}::r |[]=>[])
 |_=>[]
abbrev Ws:p0:=⟨0,15,187,[],[],.str (Str.ofString "__main__") 164,[],[],[]⟩
abbrev Bq:List Obj->List Obj
 |[]=>[]|a::r=>a::(match r with |[]=>[] |_::r=>Bq r)
abbrev Br:Nat->List Obj->BT
 |0,_=>.nil
 |m+1,l=>match l with
  |[]=>.nil|o::r=>.node o (Br m (Bq r)) (Br m (Bq r.tail))
abbrev JC:List (Addr×Addr)->BT->BT
 |[],T=>T|(b,c)::r,T=>JC r (T.set b (Obj.mapCls λx=>{x with subclasses:=x.subclasses++[.ref c]}))
abbrev Wt(P:Params)(c:p0):List Obj:=
 [boot_o_0 P,boot_o_1 P,⟨.none,none,.dict ⟨c.b⟩ c.b.length,#[]⟩,dO (g0 P c.a++c.g.reverse) (9+c.g.length),boot_o_4 P,boot_o_5 P,boot_o_6 P,boot_o_7 P,boot_o_8 P,boot_o_9 P,boot_o_10 P,
  tO [],fO .none c.f.reverse,Bn (Str.ofString "<module>") (Str.ofString "<module>") 1 0 0 11 false 12 182 185 .none .none .none,
  ⟨.type "frame",none,.plain,#[some (.ref 13),some (.ref 3),some (.ref 3),none,some (.str (Str.ofString "__main__") 164),none,some (.ref 0)]⟩]
abbrev Bs(k:Nat)(P:Params):BT:=
 let r:=JB P (bd.take k) Ws
 JC r.2.c (Br 12 (Wt P r.2++r.1))
@[inline]abbrev nU(k n t:Nat)(P:Params)(os:OsState):SharedT:=⟨Bs k P,n,{},#[],boot_drawn,t,os⟩
abbrev Bt:Nat->Pos
 |0=>q0
 |k+1=>match bd[k]? with
  |some s=>(match s with |.Assign (t::_) _ _=>t.pos |s=>s.pos)
  |none=>q0
@[inline]abbrev ek(i m n0 n H f:Nat)(w:World)(os:OsState):Prop:=
 segRunT treeTable pw w 11 (some (.ref 6)) 1 1500 (nU i n0 n w.params os) (piecesOf ((bd.drop i).take m) wL nT (Bt i) [topFrame q0])=some (.next,nU (i+m) H f w.params os,nT,Bt (i+m))
def wA(l:List α)(i m:Nat):(l.drop i).take m++l.drop (i+m)=l.drop i:=by
 rw[<-Ce];exact qx ..
@[inline]abbrev Bu(i n t N:Nat)(w:World)(os:OsState)(r:Shared):Prop:=
 topRun treeTable pw w 11 (some (.ref 6)) N (nU i n t w.params os).abs (restOf (bd.drop i) wL nT (Bt i) [topFrame q0])=some r
def eR{os:OsState}(h:ek i m n0 n H f w os)(k:Bu (i+m) H f N w os r):Bu i n0 n (1500+N) w os r:=by
 have:=piece_app (segRun_of h) k;rw[wA]at this;exact this
end Mine.Lake
end
section
open PySem PySem.W PyProof.Rows
namespace Mine.Lake.S
abbrev iB:List FN:=[0,1,2,3,4,5,6,7,8,9,10,11,12,13,14,15,16,17,18,19,20,21,22,23,24,25,26,27,28,29,30,31,32,33,34,35,36,37,38,39,40,41,42,43,44,45,46,47,48,49,50,51,52,53,54,55,56,57,58,59,60,61,62,63,64,65,66,67,68,69,70,71,72,73,74,75,76,77,78,79,80,81,82,83,84]
abbrev Bv:List Addr:=[154,206,213,220,227,234,241,248,253,267,274,279,286,296,301,308,315,322,339,346,353,358,365,370,387,394,401,408,416,431,438,450,457,464,471,485,492,499,506,541,548,555,562,569,576,583,590,616,623,630,637,644,651,658,845,906,913,920,927,934,941,948,953,958,965,972,979,986,993,998,1005,1012,1017,1022,1027,126,140,520,527,826,859,866,880,887,894]
abbrev Wu:List (Nat×Nat):=[(50,0),(57,0),(58,0),(59,0),(60,0),(61,0),(62,0),(63,0),(64,0),(66,0),(67,0),(68,0),(69,0),(71,0),(72,0),(73,0),(74,0),(75,0),(78,0),(80,0),(81,0),(83,0),(84,0),(85,0),(88,0),(89,0),(90,0),(91,0),(94,0),(103,0),(104,0),(106,0),(107,0),(108,0),(109,0),(111,0),(112,0),(113,0),(114,0),(116,0),(117,0),(118,0),(119,0),(120,0),(121,0),(122,0),(123,0),(127,0),(128,0),(129,0),(130,0),(131,0),(132,0),(133,0),(140,0),(143,0),(144,0),(145,0),(146,0),(147,0),(148,0),(149,0),(150,0),(151,0),(152,0),(153,0),(154,0),(155,0),(156,0),(157,0),(158,0),(159,0),(160,0),(161,0),(162,0),(49,1),(49,3),(115,1),(115,2),(138,2),(141,1),(141,2),(141,4),(141,5),(141,6)]
abbrev gP(f:FN):Addr:=(Bv[f.val]?).getD 0
abbrev cR(f:FN):Stmt:=match Wu[f.val]? with
 |some (i,j)=>(match bd[i]? with
  |some s=>(match j with
   |0=>s|j+1=>(match s with |.ClassDef _ _ _ b _ _ _ _ _ _ _=>(b[j]?).getD (.Pass q0) |_=>.Pass q0))
  |none=>.Pass q0)
 |none=>.Pass q0
abbrev p_:Stmt->List Stmt
 |.FunctionDef _ _ b _ _ _ _ _ _ _=>b|_=>[]
abbrev Bw:Expr->List Str
 |.Name x _=>[x]|.Tuple l _ _=>l.filterMap λe=>match e with |.Name x _=>some x |_=>none
 |_=>[]
abbrev ml:Nat->List Stmt->List Str
 |0=>λJ=>[]
 |m+1=>λl=>match l with
  |[]=>[]
  |s::r=>(match s with
   |.Assign ts _ _=>ts.flatMap Bw|.AugAssign t _ _ _=>Bw t|.For t _ b _ _=>Bw t++ml m b|.If _ a b _=>ml m a++ml m b|.While _ a _ _=>ml m a|.Try a _ _ f _=>ml m a++ml m f|_=>[])++ml m r
abbrev Wv(l:List Str):List Str:=l.foldl (λacc x=>if acc.contains x then acc else acc++[x]) []
abbrev gQ:Stmt->dQ
 |.FunctionDef _ ps b _ _ _ sc _ _ _=>⟨(Wv (ps.args.map (·.arg)++ml 100 b)).zipIdx.map λp=>(p.1,p.2,match sc.names.lookup p.1 with |some .cell=>true |_=>false),sc.names⟩
 |_=>⟨[],[]⟩
abbrev JD(g:List (Str×GV)):Nat->Expr->V
 |0=>λJ=>.z
 |m+1=>λx=>match x with
  |.Constant (.int i) _ _=>.j i|.Constant (.str s) _ _=>(match lB Str.ofString Ey s with |some s=>.u s |none=>.z)
  |.Name n _=>(match g.lookup n with |some (.e i)=>.j i |_=>.z)
  |.Tuple l _ _=>.p (l.map (JD g m))|_=>.z
abbrev JE:jn:=bd.filterMap λs=>match s with
 |.Assign [.Name n _] (.Constant (.int i) _ _) _=>some (n,.e i)|_=>none
abbrev Ww:jn:=bd.filterMap λs=>match s with
 |.Assign [.Name n _] (.Tuple l a b) _=>(match JD JE 5 (.Tuple l a b)with |.p l=>some (n,.h l) |_=>none)
 |_=>none
abbrev Bx:jn:=(iB.take 75).map (λf=>(Str.ofString (FN.name f),.g f))++([0,1,2].map (λc=>(Str.ofString (CN.name c),.j c))++
 (["len", "any", "sorted", "isinstance"].map (λs=>(Str.ofString s,.b s))++(["tuple", "dict", "str", "range"].map (λs=>(Str.ofString s,.a s))++((Str.ofString "KID_SPANS",.d)::(JE++Ww)))))
end Mine.Lake.S
end
set_option backward.match.sparseCases true
set_option tactic.hygienic true
section
open PySem PySem.W
namespace Mine.Lake
def Wx(w:World)(os:OsState):ek 0 2 15 187 22 196 w os:=by kernel_rfl
def Wy(w:World)(os:OsState):ek 2 1 22 196 43 227 w os:=by kernel_rfl
def Wz(w:World)(os:OsState):ek 3 1 43 227 63 256 w os:=by kernel_rfl
def WA(w:World)(os:OsState):ek 4 1 63 256 83 283 w os:=by kernel_rfl
def WB(w:World)(os:OsState):ek 5 41 83 283 83 365 w os:=by kernel_rfl
def WC(w:World)(os:OsState):ek 46 3 83 365 113 404 w os:=byRow2 "special-get-raises" (P:=λw=>ek 46 3 83 365 113 404 w os) (λw=>by kernel_rfl) (λw=>by kernel_rfl) w
def WD(w:World)(os:OsState):ek 49 1 113 404 148 459 w os:=by kernel_rfl
def WE(w:World)(os:OsState):ek 50 15 148 459 254 605 w os:=by kernel_rfl
def WG(w:World)(os:OsState):ek 65 15 254 605 340 715 w os:=by kernel_rfl
def WH(w:World)(os:OsState):ek 80 15 340 715 417 829 w os:=by kernel_rfl
def WI(w:World)(os:OsState):ek 95 20 417 829 507 979 w os:=by kernel_rfl
def WJ(w:World)(os:OsState):ek 115 1 507 979 535 1026 w os:=by kernel_rfl
def WK(w:World)(os:OsState):ek 116 15 535 1026 638 1164 w os:=by kernel_rfl
def WL(w:World)(os:OsState):ek 131 6 638 1164 659 1197 w os:=by kernel_rfl
def WM(w:World)(os:OsState):ek 137 1 659 1197 806 1383 w os:=by kernel_rfl
def WN(w:World)(os:OsState):ek 138 1 806 1383 839 1425 w os:=by kernel_rfl
def WO(w:World)(os:OsState):ek 139 2 839 1425 846 1435 w os:=by kernel_rfl
def WP(w:World)(os:OsState):ek 141 1 846 1435 900 1506 w os:=by kernel_rfl
def WQ(w:World)(os:OsState):ek 142 21 900 1506 1028 1716 w os:=by kernel_rfl
@[inline]abbrev S0(w:World)(os:OsState):Shared:=⟨boot_heap w.params,Array.mk [],boot_drawn,boot_toks,os⟩
def WR(w:World)(os:OsState):topGo treeTable pw w 11 (some (.ref 6)) 12 (S0 w os) (topStub pw)=some ((nU 0 15 187 w.params os).abs,⟨denote treeTable nT,nT,q0,[topFrame q0]⟩):=by kernel_rfl
def WS(w:World)(os:OsState):segRun treeTable pw w 11 (some (.ref 6)) 1 1 (nU 0 15 187 w.params os).abs (blockOf bd wL nT q0 [topFrame q0])=some (.next,(nU 0 15 187 w.params os).abs,nT,q0):=by kernel_rfl
def WT(w:World)(os:OsState):Bu 163 1028 1716 2 w os (nU 163 1028 1716 w.params os).abs:=by kernel_rfl
def WU:∀w:World,(fencedOpening treeTable pw w 40000).map (λs=>(s.heap,s.gens,s.drawn,s.toks))=some (boot_heap w.params,Array.mk [],boot_drawn,boot_toks):=
 boot_open (by kernel_rfl) (by kernel_rfl) (λs=>by kernel_rfl)
def WV(w:World):((boot_heap w.params).isNs mainGlobals&&(Array.mk []:Array GenState).size==0,(boot_heap w.params).objs.size,(boot_heap w.params).nsMap mainGlobals (Str.ofString "__annotations__"))=(true,11,some (.ref 6)):=by kernel_rfl
@[inline]abbrev nW(P:Params):Heap:=absHeap (Bs 163 P) 1028 {}
def WW(w:World)(os:OsState):topRun treeTable pw w 11 (some (.ref 6)) 28515 (S0 w os) (topStub pw)=some ⟨nW w.params,#[],boot_drawn,1716,os⟩:=
 go_top (N:=28503) (WR w os) (piece_block (n:=1) (N:=28502) (WS w os) (eR (Wx w os) (eR (Wy w os) (eR (Wz w os) (eR (WA w os) (eR (WB w os) (eR (WC w os) (eR (WD w os) (eR (WE w os) (eR (WG w os) (eR (WH w os) (eR (WI w os) (eR (WJ w os) (eR (WK w os) (eR (WL w os) (eR (WM w os) (eR (WN w os) (eR (WO w os) (eR (WP w os) (eR (WQ w os) (WT w os)))))))))))))))))))))
abbrev qL:Program:=view pw [162]
abbrev qa:List Str:=(bd.map λs=>match s with
 |.FunctionDef n ..=>n|.ClassDef n ..=>n|.Assign (.Name n _::_) ..=>n|_=>Str.ofString "law").filter λn=>!(n==Str.ofString "law" ||n==Str.ofString "__name__")
def WX(w:World):(λos=>(staticsOk (importedModules pw.main.body) (boot_heap w.params) (nW w.params)&&namesBound pw (nW w.params)&&gensDone ⟨nW w.params,#[],boot_drawn,1716,os⟩&&laidKept (boot_heap w.params) (nW w.params)))=λJ=>true:=by kernel_rfl
def WY(w:World):(λos=>openSeen qL qa (importedModules pw.main.body) (λJ=>true) true ⟨nW w.params,#[],boot_drawn,1716,os⟩)=λJ=>openGood qL qa:=by kernel_rfl
end Mine.Lake
end
section
open PySem PySem.W PyProof.Rows
namespace Mine.Lake.S
abbrev wM:List Addr:=[0,1,3,199,409,417,142,143,529,530,896,897,835,836,800,801]++((List.range 25).map (·+83)++(Bv++Bv.map (·- 1)))
abbrev dh(P:Params):Frag:=wM.map λa=>(a,((Bs 163 P).get a).getD default)
abbrev kL(c:CN):Addr:=[143,530,897].getD c.1 0
abbrev JF:List CN:=[0,1,2]
def nY:∀f:FN,f∈iB:=by decide+kernel
def JG:∀f:MN,f∈rE:=by decide+kernel
def WZ:∀f:CN,f∈JF:=by decide+kernel
def kM{α:Type}{l:List α}{p:α->Bool}{x:α}(h:l.all p=true)(e:x∈l):p x=true:=el.mp h x e
abbrev vB(a b:Option (Option Value)):Bool:=a==b
abbrev JH(K:Frag)(c:CN):Bool:=j5.all (λa=>dP c a||q_ K (kL c) (Str.ofString a.name))&&(keepIn K (.ref (kL c))&&(makesIn K (kL c)&&(vB (findIn K (.ref (kL c)) "__init__") (some (some (.ref (gP (qP c)))))&&
 rE.all λm=>match tT c m with
  |none=>true|some f=>vB (findIn K (.ref (kL c)) "__getattribute__") (some (some (.builtin "object.__getattribute__")))&&(vB (findIn K (.ref (kL c)) "__getattr__") (some none)&&vB (findIn K (.ref (kL c)) (Str.ofString m.name)) (some (some (.ref (gP f))))))))
abbrev JI(K:Frag)(f:FN):Bool:=keepIn K (.ref (gP f))&&(typeIn K (.ref (gP f))==some (.type "function"))
abbrev W0:Bool:=rE.all λm=>j5.all λa=>!(m.name==a.name)
def W1(P:Params):(JF.all λc=>JH (dh P) c)=true:=by kernel_rfl
def W2(P:Params):(iB.all λc=>JI (dh P) c)=true:=by kernel_rfl
def W3:W0=true:=by kernel_rfl
abbrev tu:Stmt->Arguments
 |.FunctionDef _ ps _ _ _ _ _ _ _ _=>ps|_=>⟨[],[],none,[],[],none,[]⟩
abbrev nZ:Stmt->Scope
 |.FunctionDef _ _ _ _ _ _ sc _ _ _=>sc|_=>⟨.function,[],false,false,[]⟩
abbrev mm(f:FN):List Str:=(tu (cR f)).args.map (·.arg)
abbrev tv(K:Frag)(a:Addr):Option FuncData:=match K.lookup a with
 |some ⟨_,_,.func fd,_⟩=>some fd|_=>none
abbrev By(f:FN):Value:=match(bv f).b with
 |[]=>.none|_=>.ref 199
structure mn where
 f:FuncBody
 e:List (Str×Addr)
 a:Scope
 g:Addr
 b:Addr
 c:Arguments
 d:Value
abbrev W4(fd:FuncData):mn:=⟨fd.body,fd.closure,fd.scope,fd.globals,fd.builtins,fd.params,fd.defaults⟩
def W5(P:Params):(iB.map λf=>(tv (dh P) (gP f)).map W4)=iB.map λf=>some ⟨.stmts (p_ (cR f)),[],nZ (cR f),mainGlobals,builtinsNs,tu (cR f),By f⟩:=by kernel_rfl
abbrev Bz(K:Frag)(fd:FuncData):Bool:=match fd.code with
 |.ref c=>(match K.lookup c with
  |some ⟨_,_,.fields vs,_⟩=>(match vs.toList with
   |_::.str q _::_=>q==fd.qualname|_=>false)
  |_=>false)
 |_=>false
def W6(P:Params):(iB.all λf=>(tv (dh P) (gP f)).all (Bz (dh P)))=true:=by kernel_rfl
abbrev BA:List Str->Bool
 |[]=>true|a::r=>!r.contains a&&BA r
theorem JJ:∀{l:List Str},BA l=true->l.Nodup
 |[],_=>iE|a::r,h=>by
  have h:=bh.mp h;refine fL.mpr ⟨λq=>?_,JJ h.2⟩;have:=h.1;rw[bj.mpr q]at this;cases this
abbrev JK(f:FN):Bool:=
 let sc:=nZ (cR f)
 let c:=gQ (cR f)
 let ns:=mm f
 let p:=tu (cR f)
 !sc.isCoroutine&&(!sc.isGenerator&&((match sc.kind with |.function=>true |_=>false)&&(BA ns&&((ns.length==(bv f).a)&&(Nat.ble (bv f).a (bv f).d&&(p.posonlyargs.isEmpty&&(p.vararg.isNone&&(p.kwonlyargs.isEmpty&&(p.kwarg.isNone&&
 (c.a.all (λe=>(!Nat.ble (e.2.1+1) (bv f).a||(ns[e.2.1]?==some e.1))&&((c.b.lookup e.1==some (if e.2.2 then NameKind.cell else .local))&&c.a.all λe'=>(!(e.1==e'.1)&&!(e.2.1==e'.2.1))||(e==e')))&&
 ns.all λx=>c.a.any λe=>e.1==x))))))))))
def W8:(iB.all JK)=true:=by kernel_rfl
def kinds_ok:(iB.map λf=>(nZ (cR f)).names)=iB.map λf=>(gQ (cR f)).b:=by kernel_rfl
def BB{α β:Type}{l:List α}{f g:α->β}{x:α}(h:l.map f=l.map g)(e:x∈l):f x=g x:=List.map_inj_left.mp h x e
def W9{K:Frag}{h:Heap}{a:Addr}{fd:FuncData}(x:K.In h)(e:tv K a=some fd):∃o,h.get? a=some o/\o.data=.func fd:=by
 unfold tv at e
 split at e
 .rename_i q;cases e;exact⟨_,x _ _ q,rfl⟩
 .cases e
def W'{K:Frag}{h:Heap}{fd:FuncData}(x:K.In h)(e:Bz K fd=true):h.CodeRec fd.code fd.qualname:=by
 unfold Bz at e
 split at e
 .rename_i c o
  split at e
  .rename_i vs _ q
   split at e
   .rename_i t _ B
    exact⟨c,_,_,t,o,x _ _ q,rfl,by rw[<-eJ,B,aH.mp e];rfl⟩
   .cases e
  .cases e
 .cases e
structure W_(f:FN):Prop where
 n:(nZ (cR f)).isCoroutine=false
 m:(nZ (cR f)).isGenerator=false
 l:(nZ (cR f)).kind=.function
 a:(mm f).Nodup
 c:(mm f).length=(bv f).a
 h:(bv f).a<=(bv f).d
 j:Em (tu (cR f)) (mm f)
 g:∀x i b,(x,i,b)∈(gQ (cR f)).a->i < (bv f).a->(mm f)[i]?=some x
 d:∀x i b,(x,i,b)∈(gQ (cR f)).a->(gQ (cR f)).b.lookup x=some (if b then .cell else .local)
 inj:∀e∈(gQ (cR f)).a,∀e'∈(gQ (cR f)).a,e.1=e'.1\/e.2.1=e'.2.1->e=e'
 k:∀x∈mm f,∃i b,(x,i,b)∈(gQ (cR f)).a
def wN{α:Type}{o:Option α}(h:o.isNone=true):o=none:=XD.mp h
def BC{α:Type}{o:List α}(h:o.isEmpty=true):o=[]:=tx.mp h
def JL(f:FN):W_ f:=by
 have h:=kM W8 (nY f);unfold JK at h;simp only[mu]at h;obtain⟨h1,h2,h3,h4,h5,h6,h7,h8,h9,pA,c,r⟩:=h;have B:∀e∈(gQ (cR f)).a,_:=λe J=>el.mp c e J;refine⟨(qv _).mp h1,(qv _).mp h2,?_,JJ h4,aH.mp h5,bP h6,⟨BC h7,rfl,wN h8,BC h9,wN pA⟩,λx i b J hi=>?_,λx i b J=>?_,λe J e' g q=>?_,λx H=>?_⟩
 .cases q:(nZ (cR f)).kind with
  |function=>rfl|_=>rw[q]at h3;cases h3
 .have:=(bh.mp (B _ J)).1
  rcases B9.mp this with k |k
  .rw[Nat.ble_eq_true_of_le (Nat.succ_le_of_lt hi)]at k;cases k
  .exact aH.mp k
 .exact aH.mp (bh.mp (bh.mp (B _ J)).2).1
 .have:=el.mp (bh.mp (bh.mp (B _ J)).2).2 e' g
  rcases B9.mp this with k |k
  .obtain⟨k1,k2⟩:=bh.mp k
   rcases q with q |q
   .rw[q,jN]at k1;cases k1
   .rw[q,jN]at k2;cases k2
  .exact aH.mp k
 .obtain⟨e,J,k⟩:=qk.mp (el.mp r x H)
  obtain⟨y,i,b⟩:=e;exact⟨i,b,by rw[<-aH.mp k];exact J⟩
def JM{X:dk}{P:Params}(c:(dh P).In X.b)(hf:∀f,X.e f=gP f)(f:FN)(dv:List Value)(a:dv.length=(bv f).b.length)(i:∀h ω μ,b8 h ω μ (bv f).b dv)
  (bind:∀(fd:FuncData),tv (dh P) (gP f)=some fd->fd.params=tu (cR f)->fd.defaults=By f->∀s xs,(∀b o,X.b.get? b=some o->s.heap.get? b=some o)->xs.length<=(bv f).a->(bv f).a<=xs.length+dv.length->BindsTo s fd ⟨xs,[]⟩ ((mm f).zip (xs++dv.drop (xs.length+dv.length - (bv f).a)))):
  ∃o fd names dv,uI X f (gQ (cR f)) (p_ (cR f)) o fd names dv:=by
 have h:=BB (W5 P) (nY f);obtain⟨fd,m,e⟩:=Option.map_eq_some_iff.mp h;obtain⟨o,ho,Y⟩:=W9 c m;have U:=kM (W6 P) (nY f);rw[m]at U;have b:=JL f;have e1:fd.body=_:=aE mn.f e;have w:fd.closure=_:=aE mn.e e;have H:fd.scope=_:=aE mn.a e;have B:fd.globals=_:=aE mn.g e;have g:fd.builtins=_:=aE mn.b e;have k:fd.params=_:=aE mn.c e;have j:fd.defaults=_:=aE mn.d e;exact⟨o,fd,mm f,dv,by rw[hf];exact ho,Y,W' c U,e1,w,by rw[H];exact b.n,by rw[H];exact b.m,by rw[H];exact b.l,B,g,by rw[H];exact BB kinds_ok (nY f),b.a,b.c,a,i,bind fd m k j,b.g,b.k,b.d,b.inj,b.h⟩
def Xa:(iB.all λf=>(bv f).b.isEmpty||(f==1))=true:=by kernel_rfl
def Xb{X:dk}{P:Params}(T:(dh P).In X.b)(hf:∀f,X.e f=gP f)(f:FN):∃o fd names dv,uI X f (gQ (cR f)) (p_ (cR f)) o fd names dv:=by
 have L:=kM Xa (nY f);rcases B9.mp L with h |h
 .have h:=BC h
  refine JM T hf f [] (by rw[h];rfl) (λQ Q Q=>by rw[h];exact .nil) λfd Q J Y s xs Q h1 h2=>?_;rw[BM,b_];have b:=JL f;refine P2 (by rw[J];exact b.j) b.a (by rw[Y];unfold By;rw[h]) (b.c.trans (BQ h2 h1))
 .cases aH.mp h
  refine JM T hf 1 [.int (-1) 535,.int (-1) 537] rfl (λQ Q Q=>.cons (.int _ _) (.cons (.int _ _) .nil)) λfd m J Y s xs U h1 h2=>?_;have B:(bv 1).a=4:=rfl;rw[B]at h1 h2;have i:(dh P).In s.heap:=T.keeps U;obtain⟨_,_,params,_,_,_,_,dflt,_,_,_,_,_,_,_⟩:=fd;dsimp only at J Y;subst J Y
  match xs,h1,h2 with
  |[a,b],_,_=>exact kp_binds i λS=>by kernel_rfl
  |[a,b,c],_,_=>exact kp_binds i λS=>by kernel_rfl
  |[a,b,c,d],_,_=>exact kp_binds i λS=>by kernel_rfl
  |[],_,h2=>exact absurd h2 (show¬ 4<=0+2 by decide)|[a],_,h2=>exact absurd h2 (show¬ 4<=1+2 by decide)|a::b::c::d::e::r,h1,_=>exact absurd h1 (by simp)
abbrev wP(K:Frag)(a:Addr):List DictEntry:=match K.lookup a with
 |some ⟨_,_,.dict es _,_⟩=>es.toList|_=>[]
abbrev n1(x:Str):List DictEntry->Option Value
 |[]=>none
 |e::r=>match e.key.isStr x with
  |true=>some e.val|false=>n1 x r
def JN{K:Frag}{h:Heap}{a:Addr}{m:Str->Option Value}{es:List DictEntry}(c:K.In h)(n:h.Ns a m)(q:(K.lookup a).isSome=true)(e:wP K a=es)(x:Str):m x=n1 x es:=by
 obtain⟨o,q⟩:=qn.mp q;obtain⟨o',⟨l⟩,ep,h1,h2,h3,h4⟩:=n;rw[c _ _ q]at h1;cases h1;unfold wP at e;rw[q]at e;obtain⟨i,g,t,os⟩:=o;dsimp only at h2;subst h2
 induction e
 rw[<-h4 x];unfold nsFind findBy;rw[List.find?_toArray];show _=n1 x l;clear h4 q h3
 induction l with
 |nil=>rfl|cons e r ih=>
  show _=(match e.key.isStr x with |true=>_ |false=>n1 x r);rw[List.find?_cons];dsimp only
  induction e.key.isStr x using aS with
  |true=>rfl|false=>exact ih
abbrev qb(K:Frag):Nat->V->Value->Bool
 |0=>λJ J=>false
 |m+1=>λv x=>match v with
  |.j i=>(match x with |.int j _=>i==j |_=>false)
  |.u s=>(match x with |.str t _=>Str.ofString s==t |_=>false)
  |.p l=>(match x with
   |.ref a=>(match K.lookup a with
    |some ⟨.type "tuple",none,.seq vs _,f⟩=>f.isEmpty&&mM (qb K m) l vs.toList|_=>false)
   |_=>false)
  |_=>false
where mM (f:V->Value->Bool):List V->List Value->Bool
 |[],[]=>true|v::l,x::r=>f v x&&mM f l r|_,_=>false
theorem JO{h:Heap}{f:V->Value->Bool}(hf:∀v x,f v x=true->cV h v x):∀(l:List V) (r:List Value),qb.mM f l r=true->b8 h (λJ=>False) [] l r
 |[],[],_=>.nil|v::l,x::r,e=>.cons (hf v x (bh.mp e).1) (JO hf l r (bh.mp e).2)|[],_::_,e=>nomatch e|_::_,[],e=>nomatch e
theorem JP{K:Frag}{h:Heap}(c:K.In h):∀(m:Nat) (v:V) (x:Value),qb K m v x=true->cV h v x
 |0,_,_,e=>nomatch e|m+1,v,x,e=>by
  induction v using Mine.Lake.V.casesOn with
  |j i=>induction x using Cj with
   |int j t=>rw[aH.mp (show(i==j)=true from e)];exact .int _ _|_=>exact nomatch e
  |u s=>induction x using Cj with
   |str u t=>rw[<-aH.mp (show(Str.ofString s==u)=true from e)];exact .str _ _|_=>exact nomatch e
  |p l=>induction x using Cj with
   |ref a=>
    have e:(match K.lookup a with
    |some ⟨.type "tuple",none,.seq vs _,f⟩=>f.isEmpty&&qb.mM (qb K m) l vs.toList|_=>false)=true:=e
    split at e
    .rename_i vs n f q
     obtain⟨e1,w⟩:=bh.mp e;have:=c _ _ q;rw[Array.isEmpty_iff.mp e1]at this;exact .tup this id (JO (JP c m) _ _ w)
    .cases e
   |_=>exact nomatch e
  |_=>exact nomatch e
abbrev gB(K:Frag)(g b:List DictEntry)(p:Str×GV):Bool:=
 let y:=n1 p.1 g
 match p.2 with
 |.e i=>(match y with |some (.int j _)=>i==j |_=>false)
 |.h l=>(match y with |some x=>qb K 6 (.p l) x |none=>false)
 |.g f=>y==some (.ref (gP f))|.j c=>y==some (.ref (kL c))|.b id=>y.isNone&&(n1 p.1 b==some (.builtin id))|.a t=>y.isNone&&(n1 p.1 b==some (.type t))|.d=>y==some (.ref 107)
def Xc(P:Params):(Bx.all (gB (dh P) (wP (dh P) 3) (wP (dh P) 0)))=true:=by kernel_rfl
abbrev wQ(e:DictEntry):Option Int:=match e.key with
 |.int i _=>if e.hash=hashInt i then some i else none
 |_=>none
def Xd{e:DictEntry}{i:Int}(h:wQ e=some i):(∃t,e.key=.int i t)/\e.hash=hashInt i:=by
 unfold wQ at h
 split at h
 .rename_i j t q
  split at h
  .rename_i Y;cases h;exact⟨⟨t,q⟩,Y⟩
  .cases h
 .cases h
def JQ{k i:Int}{t:Tok}:Value.isInt k (.int i t)=(k==i):=BEq.comm
theorem JR:∀{es:List DictEntry} {l:List Int},es.map wQ=l.map some->(∀e∈es,∃k,Value.isInt k e.key=true/\e.hash=hashInt k)/\∀k,(es.find? λe=>Value.isInt k e.key).isSome=l.contains k
 |[],[],_=>⟨λe he=>(nomatch he),λk=>rfl⟩
 |e::es,i::l,h=>by
  rw[eS,eS]at h;obtain⟨h1,h2⟩:=jR h;obtain⟨⟨t,f⟩,Y⟩:=Xd h1;obtain⟨a,b⟩:=JR h2;refine⟨λe' he=>?_,λk=>?_⟩
  .rcases bH.mp he with rfl |he
   .exact⟨i,by rw[f,JQ];exact jN i,Y⟩
   .exact a e' he
  .rw[List.find?_cons,B_,f,JQ]
   induction k==i using aS with
   |true=>rfl|false=>exact b k
 |[],_::_,h=>nomatch h|_::_,[],h=>nomatch h
def Xe(P:Params):((dh P).lookup 107).map (λo=>(o.cls,o.dict,o.slots.toList,(match o.data with |.dict es _=>some (es.toList.map wQ) |_=>none)))=some (.type "dict",none,[],some (xF.map some)):=by kernel_rfl
def JS(P:Params):((dh P).lookup 1).isSome=true/\((dh P).lookup 3).isSome=true/\((dh P).lookup 0).isSome=true:=by exact⟨by kernel_rfl,by kernel_rfl,by kernel_rfl⟩
def JT{K:Frag}{h:Heap}(c:K.In h){a:Addr}(e:(K.lookup a).isSome=true):∃o,h.get? a=some o:=let ⟨o,q⟩:=qn.mp e;⟨o,c _ _ q⟩
def wR{a b:Option (Option Value)}(h:vB a b=true):a=b:=aH.mp h
@[inline]abbrev fx(w:World)(h:Heap)(mg z:Str->Option Value):dk:=⟨pw,w,dh w.params,h,mg,z,qL,qa,kL,gP⟩
def Xf{α:Type}{x:Str}{a:α}:∀{l:List (Str×α)},l.lookup x=some a->(x,a)∈l:=kf
def JU{w:World}{h:Heap}{mg z:Str->Option Value}(Q:(dh w.params).In h)(g:h.Ns mainGlobals mg)(b:h.Ns builtinsNs z)(u:h.NoLimit):re (fx w h mg z) Bx:=by
 obtain⟨l1,U,I⟩:=JS w.params;have N:∀c,JH (dh w.params) c=true:=λc=>kM (W1 w.params) (WZ c);have hf:∀c,JI (dh w.params) c=true:=λc=>kM (W2 w.params) (nY c);refine⟨Q,JT Q l1,g,b,u,λc a G=>?_,λf=>(bh.mp (hf f)).1,λc=>?_,λc=>?_,λf=>aH.mp (bh.mp (hf f)).2,λc=>?_,λc m f e=>?_,λm a e=>?_,λx v e=>?_⟩
 .have:=kM (bh.mp (N c)).1 (xV a)
  rw[G]at this;exact this
 .exact(bh.mp (bh.mp (N c)).2).1
 .exact(bh.mp (bh.mp (bh.mp (N c)).2).2).1
 .exact wR (bh.mp (bh.mp (bh.mp (bh.mp (N c)).2).2).2).1
 .have:=kM (bh.mp (bh.mp (bh.mp (bh.mp (N c)).2).2).2).2 (JG m)
  rw[e]at this;obtain⟨h1,h2⟩:=bh.mp this;obtain⟨h2,h3⟩:=bh.mp h2;exact⟨wR h1,wR h2,wR h3⟩
 .have:=kM (kM (l:=rE) (p:=λm=>j5.all λa=>!(m.name==a.name)) W3 (JG m)) (xV a)
  rw[e,jN]at this;cases this
 .have h:=el.mp (Xc w.params) _ (Xf e)
  have H:=JN (a:=3) Q g U rfl x;have T:=JN (a:=0) Q b I rfl x;unfold gB at h;dsimp only at h;rw[<-H]at h
  induction v using Mine.Lake.S.GV.casesOn with
  |e i=>
   dsimp only at h ⊢
   split at h
   .rename_i j t q;exact⟨t,by rw[aH.mp h];exact q⟩
   .cases h
  |h l=>
   dsimp only at h ⊢
   split at h
   .rename_i y q
    have r:=JP Q _ _ _ h;obtain⟨a,vs,n,e,g,w,A⟩:=r.eL;rw[e]at r q;exact⟨_,q,r⟩
   .cases h
  |g f=>exact aH.mp h|j c=>exact aH.mp h|b id=>
   obtain⟨h1,h2⟩:=bh.mp h;exact⟨wN h1,T.trans (aH.mp h2)⟩
  |a id=>
   obtain⟨h1,h2⟩:=bh.mp h;exact⟨wN h1,T.trans (aH.mp h2)⟩
  |d=>
   obtain⟨o,ho,e⟩:=Option.map_eq_some_iff.mp (Xe w.params);have e1:o.cls=_:=aE (·.1) e;have L:o.dict=_:=aE (·.2.1) e;have E:o.slots.toList=_:=aE (·.2.2.1) e;have B:=aE (·.2.2.2) e;dsimp only at B
   split at B
   .rename_i es ep Y
    obtain⟨k1,k2⟩:=JR (ay B);refine⟨107,_,aH.mp h,rfl,⟨o,es,ep,Q _ _ ho,⟨e1,L,Array.toList_inj.mp E⟩,Y,λe J=>k1 e (Array.mem_toList_iff.mpr J),λk=>rfl⟩,λk=>?_⟩;unfold findBy;rw[Option.isSome_map,<-Array.find?_toList];exact k2 k
   .cases B
end Mine.Lake.S
end
section
open PySem PySem.W
namespace Mine.Lake
@[inline]abbrev lw:OpenLaw:=PySem.Challenge.rw_xm0466_01
@[inline]abbrev gR:Program:=PySem.Challenge.pw_xm0466_01
def w1:(sreFenced gR.main&&((moduleNames gR.main.body).isEmpty||lookedIntoSs (moduleNames gR.main.body) gR.main.body))=true:=by kernel_rfl
def w2:namesResolve gR=true:=by kernel_rfl
def w3:gR.boundNames.all (λn=>!worldNames.contains n)=true:=by kernel_rfl
def w4:noRoadLSs {strict:=!(importedModules gR.main.body).all cThrough.contains,foot:=none,bare:=(["vars", "dir", "locals"]:List Str).filter (readsOut gR gR.main.body)} gR.main.body=true:=by kernel_rfl
def w5:(namesMeet gR gR.main.body λJ n=>attrL n)=true:=by kernel_rfl
def Xg:looksOpen gR=true:=cs (cs (cs (cs w1 w2) w3) w4) w5
def Yi{a b:Bool}(x:a=true)(y:b=true):(a&&b)=true:=cs x y
def Xh:lw.row.partSaid=true:=cs (cs (cs (cs (cs (cs (cs (cs (cs (cs (cs (cs (cs Xg rfl) rfl) rfl) rfl) rfl) rfl) (by kernel_rfl)) (by kernel_rfl)) rfl) rfl) rfl) rfl) rfl
def Xi:lw.row.wellSaid=true:=cs (cs Xh (by kernel_rfl)) (by kernel_rfl)
def v1:lw.footing.all footLine=true:=by kernel_rfl
def v2:noClassBlock lw.prog lw.footing=true:=by kernel_rfl
def v3:noRoadLSs {strict:=true,foot:=some lw.bound',writes:=lw.writes,may:=lw.may} lw.footing=true:=by kernel_rfl
def v4:(defStands lw.about lw.above&&lw.namesIt)=true:=by kernel_rfl
def v5:lw.bound'.all (λn=>!builtinNamed n||lw.about==[n]||!lw.reads n)=true:=by kernel_rfl
def v6:namesMeet lw.prog lw.footing (λsc n=>(!(["type", "isinstance", "issubclass", "getattr", "hasattr"]:List Str).contains n||sc.names.lookup n==some .globalImplicit)&&
  (lw.may !=some n||sc.kind==.module||sc.names.lookup n==some .globalImplicit))=true:=by kernel_rfl
def v7:(lw.own.contains lw.name&&(lw.own.eraseDups.length==lw.own.length)&&lw.own.all (λn=>!builtinNamed n))=true:=by kernel_rfl
def v8:namesMeet lw.prog lw.above (λJ n=>!lw.own.contains n)=true:=by kernel_rfl
def v9:(namesMeet lw.prog lw.footing λsc n=>sc.kind==.module||sc.names.lookup n !=some .globalExplicit)=true:=by kernel_rfl
def wT{a b:Bool}(h:(a&&b)=true):a=true:=(bh.mp h).1
def BD{a b:Bool}(h:(a&&b)=true):b=true:=(bh.mp h).2
def Xj:lw.wellSaid=true:=
 cs (cs (cs (cs (cs (cs (cs (cs (cs (cs (cs (cs (cs (cs (cs (cs (cs (cs Xi (by kernel_rfl)) v1) v2) (by kernel_rfl)) (by kernel_rfl)) v3) (wT v4)) (BD v4)) (by kernel_rfl)) v5) (by kernel_rfl)) (by kernel_rfl)) v6) (wT (wT v7))) (BD (wT v7))) (BD v7)) v8) v9
end Mine.Lake
end
section
open PySem PySem.W PyProof.Rows
namespace Mine.Lake.S
def Xk(w:World):(λ(_:OsState)=>wM.map (nW w.params).get?)=λJ=>(dh w.params).map λp=>some p.2:=by kernel_rfl
def Xl(P:Params):wM=(dh P).map (·.1):=by kernel_rfl
@[inline]abbrev tw:Hook:=kHook dh wM Xl
def Xm:LeftO pw qL qa (λJ=>true) tw.obs tw.val 40000:=
 LeftO.of_pieces WU WV WW (by kernel_rfl) λw=>funext λos=>Prod.ext (qe (WX w) os) (Prod.ext (qe (WY w) os) (qe (Xk w) os))
@[inline]abbrev qd:Str:=Str.ofString "law"
def Xn:(defOf qL qd).isSome=true:=by kernel_rfl
abbrev dL:DefRec:=((defOf qL qd).get Xn).1
def Xo:(chainsOk qL&&opensWell pw&&(frees PySem.Challenge.rw_xm0466_01.row.toRowW&&PySem.Challenge.rw_xm0466_01.row.within.isEmpty))=true:=by kernel_rfl
def Xp:defOf qL qd=some (dL,[]):=by kernel_rfl
def Xq:pw.theDef qd=some (dL.params,dL.body,dL.scope):=by kernel_rfl
def Xr:kwWritten? dL.params.kwonlyargs dL.params.kw_defaults=some []:=by kernel_rfl
def Xs:pw.bare:=⟨rfl,rfl,rfl,rfl,rfl,by decide+kernel⟩
def Xu:PySem.Challenge.rw_xm0466_01.row.toRowW.promised:=⟨[.list []],by decide+kernel,by decide+kernel⟩
def Xv:(iB.map λf=>iS (cS Bx 60 (gQ (cR f)) 40) (p_ (cR f)))=iB.map λf=>(bv f).c:=by kernel_rfl
def Xw{w:World}{h:Heap}{mg z:Str->Option Value}(c:(dh w.params).In h)(g:h.Ns mainGlobals mg)(b:h.Ns builtinsNs z)(u:h.NoLimit)(J:mT (fx w h mg z))(n:Nat):us (fx w h mg z) (ai n) n:=
 Qb (JU c g b u) J (λf=>gQ (cR f)) (λf=>p_ (cR f)) (Xb c λQ=>rfl)
  (λB S f e1 Y H=>by
   have:=Qz (B:=B) (S:=S) 60 40 (p_ (cR f));rw[Y,H,BB Xv (nY f)]at this;exact this) n
@[inline]abbrev BE:RowW:=PySem.Challenge.rw_xm0466_01.row.toRowW
def Xx{args:List WData}(h:BE.claim.pre args=true):∃ns:List Int,args=[.list (ns.map .int)]/\ns.length<=63:=by
 obtain⟨h1,h2⟩:=pre_splitW h;obtain⟨d,r,rfl,h3,h4⟩:=hasAllW_cons h1;cases hasAllW_nil h4;obtain⟨xs,rfl,h5⟩:=hasW_list h3;obtain⟨ns,rfl⟩:=items_int h5;refine⟨ns,rfl,?_⟩;have e:BE.pre=.and (.not (.lt (.lit (.int 63)) (.len (.arg 0)))) (.lit (.bool true)):=rfl;rw[e]at h2;have k:decide ((63:Int) < ((ns.map WData.int).length:Int))=false:=by
  generalize q:decide ((63:Int) < ((ns.map WData.int).length:Int))=E
  induction E using aS with
  |false=>rfl|true=>
   have h2:(match(some (WData.bool (!decide ((63:Int) < ((ns.map WData.int).length:Int)))):Option WData)with
    |some (.bool false)=>some (WData.bool false)|some (.bool true)=>some (.bool true)|_=>none)=some (.bool true):=by
    revert h2;show(match(match(some (WData.bool (!decide ((63:Int) < ((ns.map WData.int).length:Int)))):Option WData)with
     |some (.bool false)=>some (WData.bool false)|some (.bool true)=>some (.bool true)|_=>none)with
     |some (.bool true)=>true|_=>false)=true->_
    rw[q];exact λh=>nomatch h
   rw[q]at h2;cases h2
 rw[bX]at k;have:=Cc k;exact "~18oJpcnu<c37EIFl" this
def Xy{w:World}{h:Heap}{ω:Addr->Prop}{μ:Mu}{ns:List Int}:∀{vs:List Value},WellAll w.params h vs (ns.map .int)->b8 h ω μ (ns.map .j) vs:=by
 induction ns with
 |nil=>intro vs x;cases x;exact .nil|cons i ns ih=>
  intro vs x;obtain⟨v,o,e,h1,h2⟩:=wellAll_cons_inv x;obtain⟨t,a⟩:=Value.isInt_shape ((encInt pw w).is h1).1;rw[e,a];exact .cons (.int i t) (ih h2)
def Xz{w:World}{s:Shared}{mg z:Str->Option Value}(c:(dh w.params).In s.heap)(g:s.heap.Ns mainGlobals mg)(b:s.heap.Ns builtinsNs z)(u:s.heap.NoLimit)(J:mT (fx w s.heap mg z))
  {ns:List Int} {vs:List Value} {L:Addr} (Y:ns.length<=63) (U:s.heap.get? L=some {cls:=.type "list",data:=.seq vs.toArray}) (B:WellAll w.params s.heap vs (ns.map .int)) {Q:Value->Shared->Prop} {E:Value->Shared->Prop}
  (q:∀s',(∀b o,s.heap.get? b=some o->s'.heap.get? b=some o)->s'.os=s.os->s'.gens=s.gens->Q (.bool true) s'):wpAny (model pw w) callerA (PySem.call (.ref (gP 74)) [.ref L]) Q E s:=by
 refine wpAny_call ?_;have no:∀a,¬ au [] [] a:=λa ⟨i,o,m,h,_⟩=>by simp at h
 have R:SR (fx w s.heap mg z) [] [] s.heap:=⟨λH H h=>h,rfl,λi m h=>by simp at h,λi j m m' H h=>by simp at h,λi o m h=>by simp at h⟩;refine Xw c g b u J 167 74 callerA _ ⟨s,[],[]⟩ [.r (ns.map .j)] [.ref L] _ ⟨rfl,by decide,by decide⟩ R (.cons (.lst U (no L) (by rw[J1];exact Xy B)) .nil) (VD ns Y) λd' v x G r k=>?_;subst k;cases r;exact q d'.s G.j.k G.p.d G.p.e
def XA(J:∀w s mg z,(dh w.params).In (Shared.heap s)->mT (fx w s.heap mg z)){d:DefRec}(u:d.name=qd):WalkO qL qa (λC C=>True) tw.says BE d [] λf vs=>PySem.call f vs:=by
 intro w k s₁ mg z G Y a o i q doc h j h1 h2 h3 h4 h5 H args Q as pre m reads g low;obtain⟨ns,rfl,U⟩:=Xx pre;have c:(dh w.params).In s₁.heap:=Y;have st:=(JU c G.T.g G.T.b G.T.nolimit).b qd (.g 74) (by kernel_rfl);have I:a=gP 74:=by
  rw[u]at h5;have:=h5.symm.trans st;cases this;rfl
 subst I;cases g with
 |cons w1 w2=>cases w2 with
  |nil=>cases w1 with
   |list E B=>
    refine Xz c G.T.g G.T.b G.T.nolimit (J w s₁ mg z c) U E B λs' keep os gens=>?_;exact⟨.inl ⟨_,_,[],rfl,λC=>rfl,ReadsW.bool true,by kernel_rfl,λC=>⟨iE,λC hm=>(nomatch hm)⟩⟩,OldK.of_keep keep,os,AllBare.of_eq (gens.trans H)⟩
end Mine.Lake.S
theorem PySem.Challenge.cw_xm0466_01_holds : PySem.Challenge.rw_xm0466_01.Holds :=
 holds_law Mine.Lake.Xj λk1=>holds_open (q:=Mine.Lake.qL) (loose:=Mine.Lake.qa) (Xt:=λJ=>true) (XP:=λJ J=>True) Mine.Lake.S.Xm Mine.Lake.S.tw.of Mine.Lake.S.tw.keeps (λJ J=>trivial) (λJ J J J J=>trivial) Mine.Lake.S.Xp Mine.Lake.S.Xq Mine.Lake.S.Xr
  (λJ J=>recFacts_nil rfl) rfl k1 Mine.Lake.S.Xo Mine.Lake.S.Xs Mine.Lake.S.Xu (Mine.Lake.S.XA (λw s mg z c=>Mine.Lake.S.Wo (Mine.Lake.S.JT c (Mine.Lake.S.JS w.params).1)) (by kernel_rfl))
end
