import PyProof.Rows.All
import Wide.All
import OpenK.AllK
import Wide.FinOn
import Lean
import PySem.Challenge.RW_nu0074_01
set_option Elab.async false
set_option maxRecDepth 100000
set_option linter.all false
set_option genSizeOf false
set_option genInjectivity false
set_option bootstrap.genMatcherCode false
set_option compiler.extract_closed false
set_option maxHeartbeats 4000000
set_option tactic.hygienic false
set_option genCtorIdx false
namespace Mine.Internal
open PySem PySem.W PySem.Calls PyProof.Rows
open Sem (wp)
def YI:=@Option.map_eq_some_iff
def hH:=@Nat.add_le_add
def d9:=@Nat.le_of_ble_eq_true
def be:=@Nat.le_trans
def hJ:=@Nat.add_le_add_right
def ed:=@Nat.add_le_add_left
def nz:=@Nat.mul_le_mul_left
def u4:=@Nat.ne_of_lt
def Da:=@Nat.not_lt
def fp:=@Nat.le_of_eq
def On:=@Nat.le_antisymm
def BN:=@Nat.ne_of_gt
def RI:=@Nat.lt_irrefl
def fS:=@Nat.lt_succ_self
def kP:=@Nat.sub_add_cancel
def Pc:=@Nat.zero_le
def kQ:=@Nat.le_of_not_lt
def wn:=@Nat.lt_of_le_of_lt
def Pd:=@Nat.le_add_right
def ef:=@Int.ofNat_lt
def dF:=@Nat.succ_pos
def l9:=@congrArg
def Co:=@Nat.le_of_lt
def e7:=@Nat.le_add_left
def u8:=@Ne.symm
def lv:=@Nat.le_refl
def nA:=@Nat.le_succ_of_le
def xe:=@wpAny_mono
def AT:=@Exists.elim
def nE:=@Bool.and_eq_true_iff
def ej:=@Nat.eq_of_beq_eq_true
def ue:=@of_decide_eq_true
def r8:=@Heap.lt_size
def to:=@Or.elim
def LB:=@List.mem_cons
def qE:=@Option.isSome_iff_exists
def an:=@Option.some.inj
def al:=@if_neg
def bn:=@if_pos
def qF:=@List.getElem?_set_self
def kR:=@List.getElem?_set_ne
def BB:=@List.getElem?_eq_some_iff
def AL:=@Heap.get?_push_of_some
def DO:=@Heap.size_push
def s4:=@Nat.le_succ
def LF:=@Heap.get?_push_size
def kU:=@List.length_cons
def KT:=@List.size_toArray
def fT:=@Nat.not_lt_zero
def nG:=@Option.bind_eq_some_iff
def e8:=@List.mem_map
def hO:=@beq_eq_false_iff_ne
def Op:=@Nat.lt_of_lt_of_le
def bJ:=@Bool.false_ne_true
def ff:=@wpAny_bind
def i8:=@wpAny_pure
def GS:=@List.getElem?_eq_getElem
def Mn:=@wpAny_holding
def GG:=@List.getElem?_map
def qG:=@List.mem_of_find?_eq_some
def cN:=@List.map_cons
def hU:=@sizeLine_eq
def FB:=@List.length_map
def kW:=@List.find?_eq_none
def jf:=@List.mem_map_of_mem
def wb:=@List.mem_singleton
def nH:=@List.contains_cons
def hX:=@wpAny_loadPart_at
def nJ:=@Heap.get?_update_other
def fU:=@Heap.get?_update_self
def jg:=@Option.bind_some
def Ll:=@List.length_append
def FM:=@List.mem_cons_of_mem
def wS:=@List.mem_cons_self
def hZ:=@PySem.mem_of_lookup
def ci:=@wpAny_standAt
def jh:=@wpAny_execs_cons
def qH:=@Calls.callWith_builtin
def kX:=@wpAny_loadName_local
def kY:=@wpAny_execs_nil
def cO:=@List.nodup_cons
def Lm:=@List.mem_of_getElem?
def LG:=@List.all_eq_true
def bK:=@List.map_congr_left
def nK:=@List.length_range
def eA:=@List.foldl_cons
def qI:=@List.getLast?_eq_getElem?
def ic:=@wpAny_toks_of
def kZ:=@wpAny_truthy_bool
def qJ:=@PySem.F.plainAttrs_str
def SZ:=@List.length_set
def Pe:=@Nat.succ_le_succ
def Pf:=@List.mem_append
def nM:=@Obj.data_mapFields
def xl:=@Array.getElem?_eq_some_iff
def ji:=@List.getElem?_cons_succ
def lb:=@List.getElem?_of_mem
def fV:=@List.getElem?_append_left
def e9:=@List.nodup_nil
def RS:=@List.isEmpty_iff
def qK:=@Nat.lt_succ_iff_lt_or_eq
def fW:=@Nat.succ.inj
def jj:=@List.mem_of_getLast?
def nN:=@List.length_dropLast
def jk:=@Nat.le_of_lt_succ
@[elab_as_elim] theorem er {c:Sort _} {a b:c} {P:c->Prop} (h:a=b) (q:P b):P a:=h▸q
local macro_rules | `(tactic| rw [$rs,*]) => do
  let f (r : Lean.TSyntax `Lean.Parser.Tactic.rwRule) : Lean.MacroM (Lean.TSyntax `tactic) := do
    let e : Lean.Term := ⟨r.raw[1]⟩
    let e : Lean.Term := if r.raw[0].getNumArgs = 0 then e else Lean.Syntax.mkApp (Lean.mkIdent `Eq.symm) #[e]
    `(tactic| first | refine er $e ?_ | rewrite [$r])
  let out ← rs.getElems.mapM f
  `(tactic| ($[$out];*; try (with_reducible rfl)))
theorem s3 {G:Prop} (h:∀P:Prop,(G->P)->P):G:=h G id
theorem HA {g:Type} {M:Model} {A:Around} {t:Sem g} {d:g->Shared->Prop} {E:Value->Shared->Prop} {s:Shared} (h:∀(F:g->Shared->Prop) (G:Value->Shared->Prop),(∀a c,d a c->F a c)->(∀e c,E e c->G e c)->wpAny M A t F G s):wpAny M A t d E s:=h d E (λ_ _ x=>x) λ_ _ x=>x
local macro_rules | `(tactic| wide_open with [$ts,*]) => do
  let ns := ("U5 EP JE RB Hl Pa M6 IV Jy Nv SX GY Q6 Ha Mp Ta Sq GF WK Kj Sy HJ QJ Md XX Qy Io K5 Xs XO Ss KN L8 RP Mj RY Wj WM Le FP Xg Si Mh Ng Mf FN Ep Mz UL Yz Vq L9 G8 Pb GW Ql Wz RK Nw RX Gn Kk GK Qa Uv OI Xq Ff Xc Nc RQ TC IX Q2 IA Ot Ym K7 HZ F3 My RN H0 Ex GJ Li Gb Wm M9 IE MJ Kz W7 Fd Ko U8 SU Qz WH EY Fm O9 Hz QU IU RD Ug Ri K1 GU Tn F6 Ht NR Ku SW IQ Eo Uw RH WP R6 O4 cT cF Ov QV Tr Tp nT nF Og Rw Gh Hu JU XB Wx MA SM FD PH NS Oq PR P9 RZ JI Tf Ry Vw Ul E3 GX G4 VA N2 WW MH yi Pu Rt N3 LY Rk Ol Vr Lj WU Oc La TX Tz Nn Jw O7 UH B4 Ct nx lx JA Xh Ua EJ NX XQ Hm WR Gf Ic Ig QZ JS Ks Tv Mm CU PW R9 xY F9 Q9 XK Dz YS EE Rv ER Ve Oh PZ Er Yo TG LQ Yx I7 RM It Fi H7 Yg Ti Fy EQ LJ PO Ke VN Px Km Ja QK Rd JL Ur Fo Hc MG N6 Ik UM FY UG YC NN Lf Qh IZ Yb Gs NU Mu Oa RW TF Ob Fe Uq QL Yh TL Mi UD O3 I8 Ow Xx GD Lp Ml Vf VW Oy L5 ND Qu QS RT Ky Yp VP QF NQ En Pz An Gy wi Tq XJ Kv Xr Hs W5 T9 NW Nq D5 GC NK QA Kw U4 W4 Pm OD Ts UQ Tj O2 Oo JT SH F4 rE F2 L4 Yl Ju VF UV WQ OY MB Vn Np Lv NT Uc MI Th X3 Sh FC TZ I9 J4 ED MK Qj Hy Mt L6 Jk VM Yt QQ HS E7 FH KU TJ K9 JX Hx OQ IJ KX Wu Rq JD Ru UX PU Un Nh Jo Ww VU Jv Wo Yv SN Yq Mx U6 Gu OX Jc JO R3 OL Xy N0 Ny Gi Wy FU HP Im Rn Ys Fc UY Qq Vo WC KH Ki Tb Se O6 T4 Ou Q0 UZ Xm HB LR Ly YM TR YP Up Pq KZ IC Xb Xi R7 Wg He Fj Xa Gz UW Gv TP OM J8 Wf W1 Ub Ji Qp Yc HY Ho X4 LN V6 EW N8 LV Hb f0 UN JR FK LK PT L2 YL N9 HV Ft TA EH X2 UI N5 IR KA lO nQ xT bM F5 KY Jm Kp Rp XA V5 gT gR gN gC gA gS fm tL PN u6 ck R4 Ud Kq HM vR xD LA gD Q1 Fq UO Mb Qe".splitOn " ").map fun s => ("Internal." ++ s).toName
  let os := ("Nat.reduceBEq Nat.reduceSub List.getElem?_cons_zero List.getElem?_cons_succ Option.isSome_some reduceCtorEq true_and and_true if_true if_false Bool.not_true Bool.not_false reduceIte decide_eq_true_eq Nat.reduceEqDiff Bool.false_eq_true List.all_cons List.all_nil Bool.and_true decide_true decide_false Nat.reduceLT Nat.reduceAdd Option.bind_some Option.map_some List.set_cons_zero List.set_cons_succ List.length_cons List.length_nil List.mem_cons List.not_mem_nil forall_eq_or_imp List.nodup_cons or_false forall_eq not_false_eq_true List.nodup_nil Bool.not_eq_true' decide_eq_false_iff_not not_true_eq_false".splitOn " ").map String.toName
  let ids : Array (Lean.TSyntax `term) := (ns ++ os).toArray.map fun n => ⟨(Lean.mkIdent n).raw⟩
  let all := ids ++ ts.getElems
  `(tactic| simp only [$[$all:term],*])
theorem aa {P Q:Prop} {G:Prop} (k:P->Q->G) (h:P/\Q):G:=k h.1 h.2
theorem am {a:Sort _} {P:a->Prop} {G:Prop} (k:∀x,P x->G) (h:∃x,P x):G:=h.elim λx h=>k x h
theorem im {P Q R:Prop} {G:Prop} (k:P->Q->R->G) (h:P/\Q/\R):G:=k h.1 h.2.1 h.2.2
theorem ac {a:Sort _} {P Q:a->Prop} {G:Prop} (k:∀x,P x->Q x->G) (h:∃x,P x/\Q x):G:=h.elim λx h=>k x h.1 h.2
theorem EN {c a:Sort _} {P:c->a->Prop} {G:Prop} (k:∀x y,P x y->G) (h:∃x y,P x y):G:=h.elim λx h=>h.elim λy h=>k x y h
theorem pt {P Q R S:Prop} {G:Prop} (k:P->Q->R->S->G) (h:P/\Q/\R/\S):G:=k h.1 h.2.1 h.2.2.1 h.2.2.2
theorem nw {a:Sort _} {P Q R:a->Prop} {G:Prop} (k:∀x,P x->Q x->R x->G) (h:∃x,P x/\Q x/\R x):G:=h.elim λx h=>k x h.1 h.2.1 h.2.2
theorem tz {c a:Sort _} {P Q:c->a->Prop} {G:Prop} (k:∀x y,P x y->Q x y->G) (h:∃x y,P x y/\Q x y):G:=h.elim λx h=>h.elim λy h=>k x y h.1 h.2
theorem fc {d c a:Sort _} {P:d->c->a->Prop} {G:Prop} (k:∀x y z,P x y z->G) (h:∃x y z,P x y z):G:=h.elim λx h=>h.elim λy h=>h.elim λz h=>k x y z h
theorem gY {P Q R S T:Prop} {G:Prop} (k:P->Q->R->S->T->G) (h:P/\Q/\R/\S/\T):G:=k h.1 h.2.1 h.2.2.1 h.2.2.2.1 h.2.2.2.2
theorem At {a:Sort _} {P Q R S:a->Prop} {G:Prop} (k:∀x,P x->Q x->R x->S x->G) (h:∃x,P x/\Q x/\R x/\S x):G:=h.elim λx h=>k x h.1 h.2.1 h.2.2.1 h.2.2.2
theorem pi {c a:Sort _} {P Q R:c->a->Prop} {G:Prop} (k:∀x y,P x y->Q x y->R x y->G) (h:∃x y,P x y/\Q x y/\R x y):G:=h.elim λx h=>h.elim λy h=>k x y h.1 h.2.1 h.2.2
theorem xy {d c a:Sort _} {P Q:d->c->a->Prop} {G:Prop} (k:∀x y z,P x y z->Q x y z->G) (h:∃x y z,P x y z/\Q x y z):G:=h.elim λx h=>h.elim λy h=>h.elim λz h=>k x y z h.1 h.2
theorem CH {e d a c:Sort _} {P:e->d->a->c->Prop} {G:Prop} (k:∀x y z u,P x y z u->G) (h:∃x y z u,P x y z u):G:=h.elim λx h=>h.elim λy h=>h.elim λz h=>h.elim λu h=>k x y z u h
theorem dk {P Q R S T U:Prop} {G:Prop} (k:P->Q->R->S->T->U->G) (h:P/\Q/\R/\S/\T/\U):G:=k h.1 h.2.1 h.2.2.1 h.2.2.2.1 h.2.2.2.2.1 h.2.2.2.2.2
theorem dp {a:Sort _} {P Q R S T:a->Prop} {G:Prop} (k:∀x,P x->Q x->R x->S x->T x->G) (h:∃x,P x/\Q x/\R x/\S x/\T x):G:=h.elim λx h=>k x h.1 h.2.1 h.2.2.1 h.2.2.2.1 h.2.2.2.2
theorem Cc {c a:Sort _} {P Q R S:c->a->Prop} {G:Prop} (k:∀x y,P x y->Q x y->R x y->S x y->G) (h:∃x y,P x y/\Q x y/\R x y/\S x y):G:=h.elim λx h=>h.elim λy h=>k x y h.1 h.2.1 h.2.2.1 h.2.2.2
theorem l6 {d c a:Sort _} {P Q R:d->c->a->Prop} {G:Prop} (k:∀x y z,P x y z->Q x y z->R x y z->G) (h:∃x y z,P x y z/\Q x y z/\R x y z):G:=h.elim λx h=>h.elim λy h=>h.elim λz h=>k x y z h.1 h.2.1 h.2.2
theorem xw {e d a c:Sort _} {P Q:e->d->a->c->Prop} {G:Prop} (k:∀x y z u,P x y z u->Q x y z u->G) (h:∃x y z u,P x y z u/\Q x y z u):G:=h.elim λx h=>h.elim λy h=>h.elim λz h=>h.elim λu h=>k x y z u h.1 h.2
theorem rb {d c a g e:Sort _} {P:d->c->a->g->e->Prop} {G:Prop} (k:∀x y z u v,P x y z u v->G) (h:∃x y z u v,P x y z u v):G:=h.elim λx h=>h.elim λy h=>h.elim λz h=>h.elim λu h=>h.elim λv h=>k x y z u v h
section
open PySem
noncomputable def xu (x:Expr) (k:BoolOp->List Expr->Pos->Bool):Bool:=if h:x.ctorIdx=0 then Expr.BoolOp.elim x h k else false
noncomputable def z7 (x:Expr) (k:Expr->Operator->Expr->Pos->Bool):Bool:=if h:x.ctorIdx=2 then Expr.BinOp.elim x h k else false
noncomputable def qw (x:Expr) (k:UnaryOp->Expr->Pos->Bool):Bool:=if h:x.ctorIdx=3 then Expr.UnaryOp.elim x h k else false
noncomputable def Cu (x:Expr) (k:Arguments->Expr->Scope->Pos->Bool):Bool:=if h:x.ctorIdx=4 then Expr.Lambda.elim x h k else false
noncomputable def zY (x:Expr) (k:Expr->Expr->Expr->Pos->Bool):Bool:=if h:x.ctorIdx=5 then Expr.IfExp.elim x h k else false
noncomputable def vO (x:Expr) (k:List (Option Expr)->List Expr->Pos->Bool):Bool:=if h:x.ctorIdx=6 then Expr.Dict.elim x h k else false
noncomputable def wN (x:Expr) (k:Expr->List Comprehension->Scope->Pos->Bool):Bool:=if h:x.ctorIdx=8 then Expr.ListComp.elim x h k else false
noncomputable def yV (x:Expr) (k:Expr->Expr->List Comprehension->Scope->Pos->Bool):Bool:=if h:x.ctorIdx=10 then Expr.DictComp.elim x h k else false
noncomputable def wg (x:Expr) (k:Expr->List CmpOp->List Expr->Pos->Bool):Bool:=if h:x.ctorIdx=15 then Expr.Compare.elim x h k else false
noncomputable def mU (x:Expr) (k:Expr->List Expr->List Keyword->Pos->Bool):Bool:=if h:x.ctorIdx=16 then Expr.Call.elim x h k else false
noncomputable def mw (x:Expr) (k:Const->Nat->Pos->Bool):Bool:=if h:x.ctorIdx=19 then Expr.Constant.elim x h k else false
noncomputable def kh (x:Expr) (k:Expr->Str->Pos->Bool):Bool:=if h:x.ctorIdx=20 then Expr.Attribute.elim x h k else false
noncomputable def qa (x:Expr) (k:Expr->Expr->Pos->Bool):Bool:=if h:x.ctorIdx=21 then Expr.Subscript.elim x h k else false
noncomputable def cq (x:Expr) (k:Str->Pos->Bool):Bool:=if h:x.ctorIdx=23 then Expr.Name.elim x h k else false
noncomputable def D7 (x:Expr) (k:List Expr->Pos->Bool):Bool:=if h:x.ctorIdx=24 then Expr.List.elim x h k else false
noncomputable def mh (x:Expr) (k:List Expr->Nat->Pos->Bool):Bool:=if h:x.ctorIdx=25 then Expr.Tuple.elim x h k else false
noncomputable def y6 (x:Expr) (k:Option Expr->Option Expr->Option Expr->Pos->Bool):Bool:=if h:x.ctorIdx=26 then Expr.Slice.elim x h k else false
noncomputable def uw (x:Stmt) (k:Option Expr->Pos->Bool):Bool:=if h:x.ctorIdx=3 then Stmt.Return.elim x h k else false
noncomputable def vj (x:Stmt) (k:List Expr->Expr->Pos->Bool):Bool:=if h:x.ctorIdx=5 then Stmt.Assign.elim x h k else false
noncomputable def Eb (x:Stmt) (k:Expr->Operator->Expr->Pos->Bool):Bool:=if h:x.ctorIdx=7 then Stmt.AugAssign.elim x h k else false
noncomputable def Ag (x:Stmt) (k:Expr->Expr->List Stmt->List Stmt->Pos->Bool):Bool:=if h:x.ctorIdx=9 then Stmt.For.elim x h k else false
noncomputable def D1 (x:Stmt) (k:Expr->List Stmt->List Stmt->Pos->Bool):Bool:=if h:x.ctorIdx=11 then Stmt.While.elim x h k else false
noncomputable def Cj (x:Stmt) (k:Expr->List Stmt->List Stmt->Pos->Bool):Bool:=if h:x.ctorIdx=12 then Stmt.If.elim x h k else false
noncomputable def zR (x:Stmt) (k:Option Expr->Option Expr->Pos->Bool):Bool:=if h:x.ctorIdx=16 then Stmt.Raise.elim x h k else false
noncomputable def n8 (x:Stmt) (k:Expr->Pos->Bool):Bool:=if h:x.ctorIdx=24 then Stmt.Expr.elim x h k else false
noncomputable def onStr (x:Const) (k:Str->Bool):Bool:=if h:x.ctorIdx=5 then Const.str.elim x h k else false
noncomputable def uo (x:Const) (k:Int->Bool):Bool:=if h:x.ctorIdx=2 then Const.int.elim x h k else false
noncomputable def sO (x:Const) (k:Bool->Bool):Bool:=if h:x.ctorIdx=1 then Const.bool.elim x h k else false
noncomputable def NH (l:List c) (k:c->Bool):Bool:=match l with| [a]=>k a|_=>false
noncomputable def dJ (l:List c) (k:c->c->Bool):Bool:=match l with| [a,b]=>k a b|_=>false
noncomputable def AS (o:Option c) (k:c->Bool):Bool:=match o with|some a=>k a|none=>false
noncomputable def lB:List Nat->List Nat->Bool| [],b=>b.isEmpty|a::r,b=>match b with| []=>false|x::y=>Nat.beq a x&&lB r y
noncomputable def sB (a b:Str):Bool:=lB a.cps.toList b.cps.toList
noncomputable def ot (x:Expr) (k:Str->Bool):Bool:=mw x λc _ _=>onStr c k
noncomputable def oU (n:Int) (e:Expr):Bool:=mw e λc _ _=>uo c λi=>decide (i=n)
noncomputable def pF (e:Expr):Bool:=qw e λop a _=>decide (op= .USub)&&oU 1 a
end
set_option genInjectivity true in inductive Loc where|tree|aV|node (i:Nat)|ch (i:Nat)|at' (i:Nat)|ns (i:Nat)|res|au|has|pend (i:Nat)|src|ag|el (i:Nat)|ea (i:Nat)|ec (i:Nat)|aD (i k:Nat)|code (i:Nat)
inductive MV where|none|bool (b:Bool)|int (i:Int)|str (s:Str)|af (l:Loc)|tup (l:List MV)|lst (l:List MV)|aQ (ks:List Str) (vs:List MV)|bq (ks:List Int) (vs:List MV)|bb (ks:List (List Str)) (vs:List MV)
noncomputable def UU:List Str:=["rows","kind","name","uri","local","value","parent","children","attributes","namespaces","tree","root","open","has_children","pending","message"].map Str.ofString
noncomputable def wT (i:Nat):Str:=UU.getD i Str.empty
set_option genCtorIdx true in inductive BI where|len|ord|str|list|dict|sorted|isStr|bH|max|min|int
set_option genCtorIdx true in inductive BM where|append|pop|get|d7|split|join|lower|rpartition
set_option genCtorIdx true in inductive BO where|add|sub|mul|mod|fdiv|pow
set_option genCtorIdx true in inductive CO where|eq|ne|lt|le|gt|ge|is|gB|cS|gq
set_option genCtorIdx true in inductive SK where|rev|fP|fY|iG
mutual
inductive PE where
 |ae (i:Nat)|ah (v:MV)|glob (i:Nat)
 |attr (e:PE) (f:Nat)
 |aE (f:Nat) (as:BY)
 |ay (e:PE) (f:Nat) (as:BY)
 |new (f:Nat) (as:BY)
 |bi (b:BI) (as:BY)
 |bm (b:BM) (e:PE) (as:BY)
 |eB (e:PE) (y z:Str)
 |bin (o:BO) (a b:PE)|cmp (o:CO) (a b:PE)|chain (Y3 Y4:CO) (a b c:PE)
 |aI (and:Bool) (es:BY)|bF (a:PE)|neg (a:PE)|ite (c a b:PE)
 |sub (a i:PE)|slice (k:SK) (a:PE)
 |tup (es:BY)|list (es:BY)|dict (ks:List Str) (es:BY)|iD
 |cg (i:Nat) (it el:PE)|f6 (i:Nat) (it k v:PE)
 |refused (i:Nat) (P:Addr) (q:Str) (e:PE)
 |bad
inductive BY where
 |nil|cons (e:PE) (es:BY)
end
inductive Na where|ae (i:Nat)|attr (e:PE) (f:Nat)|sub (e i:PE)|tup (ts:List Na)
inductive IK where|plain (e:PE)|range (e:PE)|zip (a b:PE)
inductive PS where|assign (t:Na) (e:PE)|iC (iy i:Nat) (it el:PE)|dG (is:List Nat) (es:BY)|aug (i:Nat) (o:BO) (e:PE)|expr (e:PE)|ret (e:PE)|aB (c:PE) (a b:PS)|cG (c:PE) (b:PS)|aS (t:Na) (it:IK) (b:PS)|raise (e:PE)|seq (a b:PS)|skip|bad
section
noncomputable def mz:BO->Operator| .add=> .Add| .sub=> .Sub| .mul=> .Mult| .mod=> .Mod| .fdiv=> .FloorDiv| .pow=> .Pow
end
section
open PySem PySem.W PySem.Calls PyProof.Rows PySem.SeqAt
noncomputable def OF:CO->CmpOp| .eq=> .Eq| .ne=> .NotEq| .lt=> .Lt| .le=> .LtE| .gt=> .Gt| .ge=> .GtE| .is=> .Is| .gB=> .IsNot| .cS=> .In| .gq=> .NotIn
end
section
variable {K:Frag}
section
noncomputable def eI (o:Expr):Bool:= !mU o λ_ c a _=>c.isEmpty&&a.isEmpty
end
end
section
open PySem.Builtin.Str
noncomputable def vd:BM->String| .append=>"append" | .pop=>"pop" | .get=>"get" | .d7=>"pop" | .split=>"split" | .join=>"join" | .lower=>"lower" | .rpartition=>"rpartition"
end
section
variable {K:Frag}
noncomputable def Cm (v:MV) (c:Const):Bool:=match v with| .none=>decide (c.ctorIdx=0)| .bool a=>sO c λb=>decide (b=a)| .int a=>uo c λb=>decide (b=a)| .str a=>onStr c λb=>sB b a|_=>false
noncomputable def rq (k:SK) (e:Expr):Bool:=y6 e λl u st _=>match k with| .rev=>l.isNone&&(u.isNone&&AS st pF)| .fP=>l.isNone&&(AS u (oU 0)&&AS st pF)| .fY=>u.isNone&&(st.isNone&&AS l pF)| .iG=>u.isNone&&(st.isNone&&AS l (oU 1))
noncomputable def aJ (e:Expr):Bool:= !Nat.beq e.ctorIdx 22
noncomputable def cw:BI->Str| .len=>"len" | .ord=>"ord" | .str=>"str" | .list=>"list" | .dict=>"dict" | .sorted=>"sorted" | .isStr=>"isinstance" | .bH=>"isinstance" | .max=>"max" | .min=>"min" | .int=>"int"
noncomputable def bT:BI->Str| .bH=>"dict" |_=>"str"
noncomputable def nq:List (Option Expr)->List Str->Bool| [],a=>a.isEmpty|k::r,a=>match a with| []=>false|x::c=>AS k (λe=>ot e λy=>sB y x)&&nq r c
noncomputable def eT (and:Bool):BoolOp:=if and then .And else .Or
noncomputable def jM (e:Expr):Bool:= !(Nat.ble 8 e.ctorIdx&&Nat.ble e.ctorIdx 10)
structure MC where
 kd:List (Str×NameKind)
 names:List Str
 aX:Option (Nat×Addr×Str)
structure MT where
 fa:Nat->Addr
 fn:Nat->Str
 aF:Nat->Addr
 cC:Nat->Str
 dH:List (Str×MV)
 fields:List (Addr×Nat)
 gf:List Nat
 mf:List Nat
 nf:List Nat
noncomputable def fw:List (Str×NameKind)->Str->Option NameKind| [],_=>none|p::r,x=>if sB x p.1 then some p.2 else fw r x
noncomputable def V8 (k:NameKind) (o:Option NameKind):Bool:=decide (o=some k)
noncomputable def MC.is (c:MC) (x:Str) (k:NameKind):Bool:=V8 k (fw c.kd x)
noncomputable def MC.bound (c:MC) (x:Str):Bool:=AS (fw c.kd x) λk=>Nat.ble k.ctorIdx 2
noncomputable def MC.nm (c:MC) (i:Nat) (x:Str):Bool:=AS c.names[i]? λy=>sB y x
noncomputable def lK (x:Str):Bool:= !sB x "__debug__" && !sB x "__classdict__"
noncomputable def oq (e:Expr):Bool:= !Nat.beq e.ctorIdx 7
noncomputable def u3 (a:List (Str×NameKind)) (sc:Scope):Bool:=sc.names.all (λy=> !decide (y.2= .free)||decide (a.lookup y.1=some .cell)||decide (a.lookup y.1=some .free))
noncomputable def j3 (a:List (Str×NameKind)) (sc:Scope) (x:Str):Bool:=decide (sc.kind= .function)&&sc.names.all (λy=>decide (y.2≠ .cell))&&sc.names.all (λy=> !decide (y.2= .local)||decide (sc.names.lookup y.1=some .local))&&decide (sc.names.lookup x=some .local)&&sc.names.all (λy=> !decide (y.2= .local)||decide (y.1=x)||decide (y.1=".0"))&&u3 a sc
noncomputable def AY (sc:Scope) (a:List (Str×NameKind)):List (Str×NameKind):=sc.names.map λ(n,k)=>if (k== .free&&true&&a.lookup n==some .cell) then (n,.cell) else (n,k)
noncomputable def MC.comp (c:MC) (sc:Scope):MC:={kd:=AY sc c.kd,names:=c.names,aX:=none}
noncomputable def rx (a:List (Str×NameKind)) (sc:Scope):Bool:=decide (sc.kind= .function)&& !sc.isCoroutine&& !sc.isGenerator&&sc.names.all (λy=>decide (y.2= .free)||decide (y.2= .globalImplicit))&&u3 a sc
noncomputable def sW (p:Arguments):Bool:=p.posonlyargs.isEmpty&&p.args.isEmpty&&p.vararg.isNone&&p.kwonlyargs.isEmpty&&p.kw_defaults.isEmpty&&p.kwarg.isNone&&p.defaults.isEmpty
noncomputable def mq:BI->Bool| .isStr| .bH=>true|_=>false
noncomputable def fA (x:Expr) (k:Str->List Expr->Bool):Bool:=mU x λg c a _=>a.isEmpty&&cq g λn _=>k n c
noncomputable def pL (x:Expr) (k:Expr->Str->List Expr->Bool):Bool:=mU x λg d a p=>a.isEmpty&&kh g λo n c=>eI o&&c.endLine==p.line&&k o n d
noncomputable def vr (l:List Expr) (k:Expr->List Expr->Bool):Bool:=match l with| []=>false|a::r=>k a r
noncomputable def oY (a:List Comprehension) (k:Str->Expr->Bool):Bool:=NH a λg=>cq g.target λn _=>g.ifs.isEmpty&&decide (g.is_async=0)&&oq g.iter&&k n g.iter
end
section
variable (t:MT)
mutual
noncomputable def mX:PE->Bool->MC->Expr->Bool
 | .ae i,_,c,x=>cq x λx _=>c.nm i x&&(c.bound x&&lK x)
 | .ah v,b,_,x=> !b&&mw x λk _ _=>Cm v k
 | .glob i,b,c,x=> !b&&cq x λx _=>AS t.dH[i]? (λp=>sB p.1 x)&&(c.is x .globalImplicit&&lK x)
 | .attr e f,b,c,x=> !b&&kh x λC a _=>sB a (wT f)&&(mX e false c C&&eI C)
 | .aE f n,_,c,x=>fA x λx g=>sB x (t.fn f)&&(t.gf.contains f&&(c.is (t.fn f) .globalImplicit&&(lK (t.fn f)&&(g.all aJ&&VT n false c g))))
 | .ay e f n,_,c,x=>pL x λo x g=>sB x (t.fn f)&&(t.mf.contains f&&(g.all aJ&&(Nat.blt g.length 30&&(mX e false c o&&VT n false c g))))
 | .new f n,b,c,x=> !b&&fA x λx g=>sB x (t.cC f)&&(t.nf.contains f&&(c.is (t.cC f) .globalImplicit&&(lK (t.cC f)&&(g.all aJ&&VT n false c g))))
 | .bi b n,j,c,x=>fA x λx g=>sB x (cw b)&&(c.is (cw b) .globalImplicit&&(if mq b then dJ g λC y=>cq y λy _=>sB y (bT b)&&(aJ C&&(c.is (bT b) .globalImplicit&&VT n false c [C])) else !j&&(g.all aJ&&VT n false c g)))
 | .bm b e n,j,c,x=> !j&&pL x λo x g=>sB x (vd b)&&(g.all aJ&&(Nat.blt g.length 30&&(mX e false c o&&VT n false c g)))
 | .eB e y z,j,c,x=> !j&&pL x λo x g=>dJ g λu v=>ot u λJ=>ot v λL=>sB x "replace" &&(sB J y&&(sB L z&&mX e false c o))
 | .bin o a b,j,c,x=> !j&&z7 x λl op r _=>decide (op=mz o)&&(mX a false c l&&mX b false c r)
 | .cmp o a b,_,c,x=>wg x λl B rs _=>NH B λop=>NH rs λr=>decide (op=OF o)&&(!behindInMarks (OF o) r&&(mX a false c l&&mX b false c r))
 | .chain w A a b d,_,c,x=>wg x λl B rs _=>dJ B λp q=>dJ rs λr v=>decide (p=OF w)&&(decide (q=OF A)&&(!lastMarks [OF w,OF A] [r,v]&&(mX a false c l&&(mX b false c r&&mX d false c v))))
 | .aI and g,b,c,x=>xu x λop m _=>decide (op=eT and)&&(Nat.blt 0 m.length&&VT g b c m)
 | .bF a,b,c,x=>qw x λop e _=>decide (op= .Not)&&mX a b c e
 | .neg a,j,c,x=> !j&&qw x λop e _=>decide (op= .USub)&&mX a false c e
 | .ite d a b,j,c,x=> !j&&zY x λQ E M _=>mX d true c Q&&(mX a false c E&&mX b false c M)
 | .sub a i,_,c,x=>qa x λE H _=>mX a false c E&&mX i false c H
 | .slice k a,j,c,x=> !j&&qa x λE H _=>mX a false c E&&rq k H
 | .tup g,j,c,x=> !j&&mh x λm _ _=>Nat.ble m.length 100&&(m.all aJ&&VT g false c m)
 | .list g,j,c,x=> !j&&D7 x λm _=>Nat.ble m.length 100&&(m.all aJ&&VT g false c m)
 | .dict R g,j,c,x=> !j&&vO x λkeys m _=>nq keys R&&(Nat.beq keys.length m.length&&(Nat.blt 0 m.length&&(Nat.ble m.length 15&&VT g false c m)))
 | .iD,j,_,x=> !j&&vO x λkeys m _=>keys.isEmpty&&m.isEmpty
 | .cg i N el,j,c,x=> !j&&wN x λF O sc _=>oY O λx iter=>c.nm i x&&(j3 c.kd sc x&&(mX N false c iter&&mX el false (c.comp sc) F))
 | .f6 _ _ _ _,_,_,_=>false
 | .refused i P q e,_,c,x=>fA x λx g=>NH g λl=>Cu l λI b sc _=>sB x "_law_refused" &&(AS c.aX (λp=>Nat.beq p.1 i&&(Nat.beq p.2.1 P&&sB p.2.2 q))&&(c.is "_law_refused" .globalImplicit&&(rx c.kd sc&&(sW I&&mX e false {kd:=sc.names,names:=c.names,aX:=none} b))))
 | .bad,_,_,_=>false
noncomputable def VT:BY->Bool->MC->List Expr->Bool
 | .nil,_,_,d=>d.isEmpty
 | .cons e r,b,c,d=>vr d λg a=>mX e b c g&&VT r b c a
end
noncomputable def mE (p:PE):MC->Expr->Bool:=mX t p false
noncomputable def mT (p:PE):MC->Expr->Bool:=mX t p true
noncomputable def jc (a:List (Str×NameKind)):Env:={scope:={kind:= .function,names:=a,isGenerator:=false,isCoroutine:=false},locals:=0,globals:=0,cells:=[]}
end
noncomputable def pureOf (t:Sem a):Option a:=if h:t.ctorIdx=0 then Sem.pure.elim t h some else none
noncomputable def wR (g c:Expr) (a:List (Str×NameKind)):Bool:=AS (pureOf (swappedStores [g] c (jc a))) λo=>o.isNone
noncomputable def y9 (g c:Expr) (sp:Pos) (a:List (Str×NameKind)):Bool:=decide (pureOf (swapsWith c (some g) sp.line (jc a))=some true)
noncomputable def tW:PS->Bool| .seq .. | .skip=>false|_=>true
noncomputable def lU (a:Na) (k:Nat->Bool):Bool:=match a with| .ae i=>k i|_=>false
noncomputable def xV:BO->Bool| .add=>true|_=>false
noncomputable def AF (e:PE) (k:Nat->PE->PE->Bool):Bool:=match e with| .cg i a b=>k i a b|_=>false
noncomputable def DB (e:PE) (k:Nat->PE->PE->PE->Bool):Bool:=match e with| .f6 i a b c=>k i a b c|_=>false
section
variable (t:MT)
noncomputable def MC.st (c:MC) (i:Nat) (x:Str):Bool:=c.nm i x&&(c.is x .local||c.is x .cell)
noncomputable def tI:Na->MC->Expr->Bool| .ae i,c,x=>cq x λx _=>c.st i x| .attr e f,c,x=>kh x λd a _=>sB a (wT f)&&mE t e c d| .sub e i,c,x=>qa x λd g _=>mE t e c d&&mE t i c g| .tup _,_,_=>false
noncomputable def sF:List Na->MC->List Expr->Bool| [],_,a=>a.isEmpty|d::ts,c,a=>vr a λe a=>tI t d c e&&sF ts c a
noncomputable def mG:Na->MC->Expr->Bool| .tup ts,c,x=>mh x λa _ _=>a.all aJ&&sF t ts c a|d,c,e=>tI t d c e
noncomputable def u5 (e:Expr) (i l:Nat) (c:MC) (j:Expr->Bool) (a:MC->Expr->Bool) (g:Expr) (sp:Pos):Bool:=y9 g e sp c.kd&&(cq g λy _=>c.nm l y&&(c.is y .local&&wN e λd k sc _=>oY k λx iter=>c.nm i x&&(j3 c.kd sc x&&(j iter&&a (c.comp sc) d))))
noncomputable def xA (e:Expr) (i n:Nat) (c:MC) (d:Expr->Bool) (a m:MC->Expr->Bool) (g:Expr) (sp:Pos):Bool:=y9 g e sp c.kd&&(cq g λy _=>c.nm n y&&(c.is y .local&&yV e λl j k sc _=>oY k λx iter=>c.nm i x&&(j3 c.kd sc x&&(d iter&&(a (c.comp sc) l&&m (c.comp sc) j)))))
noncomputable def De (d:Na) (e:PE) (c:MC) (g a:Expr):Bool:=jM a&&(wR g a c.kd&&(aJ g&&(mE t e c a&&mG t d c g)))
noncomputable def Gk (d:Na) (e:PE) (c:MC) (g l:Expr) (sp:Pos):Bool:=AF e (λi a el=>lU d λj=>u5 l i j c (mE t a c) (mE t el) g sp)|| (DB e (λi a k v=>lU d λj=>xA l i j c (mE t a c) (mE t k) (mE t v) g sp)||De t d e c g l)
noncomputable def Rm (is:List Nat) (e:BY) (c:MC) (g d:Expr):Bool:=dJ is λi j=>AS (pureOf (swappedStores [g] d (jc c.kd))) λo=>AS o λl=>dJ l λx y=>c.nm i x&&(c.nm j y&&(c.is x .local&&(c.is y .local&&(!Nat.beq i j&&mh d λa _ _=>Nat.ble a.length 100&&(a.all aJ&&VT t e false c a)))))
noncomputable def Ka (m:Na) (o:IK) (c:MC) (g iter:Expr):Bool:=match o with| .plain e=>lU m λi=>cq g λx _=>c.st i x&&(oq iter&&mE t e c iter)| .range e=>lU m λi=>cq g λx _=>c.st i x&&fA iter λr j=>sB r "range" &&(c.is "range" .globalImplicit&&NH j λn=>aJ n&&mE t e c n)| .zip d l=>mh g λj k p=>mG t m c (.Tuple j k p)&&fA iter λr j=>sB r "zip" &&(c.is "zip" .globalImplicit&&dJ j λa b=>aJ a&&(aJ b&&(mE t d c a&&mE t l c b)))
noncomputable def xW (l:List Stmt) (k:Stmt->List Stmt->Bool):Bool:=match l with| []=>false|a::r=>k a r
noncomputable def pY (s:List Stmt) (k:Expr->Expr->Pos->Bool):Bool:=NH s λst=>vj st λa e p=>NH a λg=>k g e p
noncomputable def mS:PS->MC->List Stmt->Bool| .skip,_,s=>s.isEmpty| .bad,_,s=>NH s λ_=>true| .seq a b,c,s=>xW s λst p=>tW a&&(mS a c [st]&&mS b c p)| .assign n e,c,s=>pY s λg j sp=>Gk t n e c g j sp| .iC w i m el,c,s=>pY s λg j sp=>u5 j i w c (mE t m c) (mE t el) g sp| .dG is l,c,s=>pY s λg j _=>Rm t is l c g j| .aug i o e,c,s=>NH s λst=>Eb st λg v j _=>xV o&&(decide (v= .Add)&&cq g λx _=>c.nm i x&&(c.is x .local&&mE t e c j))| .expr e,c,s=>NH s λst=>n8 st λj _=>jM j&&mE t e c j| .ret e,c,s=>NH s λst=>uw st λo _=>AS o λj=>mE t e c j| .aB d a b,c,s=>NH s λst=>Cj st λq y k _=>mT t d c q&&(mS a c y&&mS b c k)| .cG d b,c,s=>NH s λst=>D1 st λq k o _=>o.isEmpty&&(mT t d c q&&mS b c k)| .aS n m b,c,s=>NH s λst=>Ag st λg iter body o _=>o.isEmpty&&(Ka t n m c g iter&&mS b c body)| .raise e,c,s=>NH s λst=>zR st λo u _=>u.isNone&&AS o λx=>fA x λr l=>sB r "SheetFault" &&(c.is "SheetFault" .globalImplicit&&NH l λj=>aJ j&&mE t e c j)
structure gv where
 fa:Addr
 fn:Str
 ca:Addr
 cn:Str
 ps:List Str
 rest:List Str
 body:PS
 aX:Option (Nat×Addr×Str)
noncomputable def zo (x:Value) (k:Int->Tok->Bool):Bool:=if h:x.ctorIdx=4 then Value.int.elim x h k else false
noncomputable def rP (x:Value) (k:Str->Tok->Bool):Bool:=if h:x.ctorIdx=6 then Value.str.elim x h k else false
noncomputable def n6 (x:Value) (k:String->Bool):Bool:=if h:x.ctorIdx=8 then Value.type.elim x h k else false
noncomputable def tu (x:Value) (k:String->Bool):Bool:=if h:x.ctorIdx=9 then Value.builtin.elim x h k else false
noncomputable def i7 (x:Value) (k:Addr->Bool):Bool:=if h:x.ctorIdx=10 then Value.ref.elim x h k else false
noncomputable def yq (x:Data) (k:Array Value->Nat->Bool):Bool:=if h:x.ctorIdx=2 then Data.seq.elim x h k else false
noncomputable def Aq (x:Data) (k:FuncData->Bool):Bool:=if h:x.ctorIdx=7 then Data.func.elim x h k else false
noncomputable def DF (x:Data) (k:ClassData->Bool):Bool:=if h:x.ctorIdx=8 then Data.cls.elim x h k else false
noncomputable def oi (x:FuncBody) (k:List Stmt->Bool):Bool:=match x with| .stmts b=>k b| .expr _=>false
noncomputable def pd (o:Option Obj) (k:Value->FuncData->Bool):Bool:=AS o λb=>Aq b.data (k b.cls)
noncomputable def sJ:List Str->Bool| []=>true|a::r=>r.all (λb=> !sB b a)&&sJ r
noncomputable def AU (l:List Str):Bool:=l.all (λx=> !sB x ".0")
noncomputable def uB:List Arg->List Str->Bool| [],l=>l.isEmpty|a::r,l=>match l with| []=>false|x::y=>sB a.arg x&&uB r y
noncomputable def C0 (a:FuncData) (c:List Str):Bool:=a.params.posonlyargs.isEmpty&&(uB a.params.args c&&(a.params.kwonlyargs.isEmpty&&(a.params.vararg.isNone&&(a.params.kwarg.isNone&&decide (a.defaults.ctorIdx=0)))))
noncomputable def Vg (a:List (Str×NameKind)):Bool:=a.all λy=>decide (y.2≠ .free)
noncomputable def Ck (a:List (Str×NameKind)) (c:List Str):Bool:=c.all λx=>AS (fw a x) λk=>Nat.ble k.ctorIdx 1
noncomputable def oh (K:Frag) (a:FuncData) (d c:List Str):Bool:=codeIn K a.code a.qualname&&(Nat.beq a.globals mainGlobals&&(Nat.beq a.builtins builtinsNs&&(a.closure.isEmpty&&(decide (a.scope.kind= .function)&&(!a.scope.isCoroutine&&(!a.scope.isGenerator&&(C0 a d&&(Ck a.scope.names d&&(Vg a.scope.names&&(sJ (d++c)&&AU (d++c)))))))))))
noncomputable def xG (K:Frag) (c:FuncData) (a:Option (Nat×Addr×Str)):Bool:=match a with|none=>true|some (_,P,q)=>i7 c.code λd=>codeHdIn K d P&&sB (c.qualname++".<locals>." ++"<lambda>") q
end
noncomputable def jC (t:MT) (K:Frag) (r:gv):Bool:=pd (K.lookup r.fa) λ_ a=>oi a.body (λbody=>mS t r.body ⟨a.scope.names,r.ps++r.rest,r.aX⟩ body)&&(oh K a r.ps r.rest&&xG K a r.aX)
noncomputable def b0:PS:=(.ret (.chain .le .le (.ah (.str "a")) (.ae 0) (.ah (.str "z"))))
noncomputable def b1:PS:=(.seq (.aB (.cmp .lt (.bi .ord (.cons (.ae 0) .nil)) (.glob 2)) (.ret (.aI false (.cons (.aE 0 (.cons (.ae 0) .nil)) (.cons (.chain .le .le (.ah (.str "A")) (.ae 0) (.ah (.str "Z"))) (.cons (.cmp .eq (.ae 0) (.ah (.str "_"))) (.cons (.cmp .eq (.ae 0) (.ah (.str ":"))) .nil)))))) .skip) .bad)
noncomputable def b2:PS:=(.seq (.aB (.aE 1 (.cons (.ae 0) .nil)) (.ret (.ah (.bool true))) .skip) (.seq (.aB (.cmp .lt (.bi .ord (.cons (.ae 0) .nil)) (.glob 2)) (.ret (.aI false (.cons (.chain .le .le (.ah (.str "0")) (.ae 0) (.ah (.str "9"))) (.cons (.cmp .eq (.ae 0) (.ah (.str "-"))) (.cons (.cmp .eq (.ae 0) (.ah (.str "."))) .nil))))) .skip) .bad))
noncomputable def b3:PS:=(.seq (.aS (.ae 1) (.plain (.ae 0)) (.aB (.bF (.aE 2 (.cons (.ae 1) .nil))) (.ret (.ah (.bool false))) .skip)) (.ret (.cmp .ne (.ae 0) (.ah (.str "")))))
noncomputable def b4:PS:=(.ret (.aI true (.cons (.cmp .ne (.ae 0) (.ah (.str ""))) (.cons (.aE 1 (.cons (.sub (.ae 0) (.ah (.int 0))) .nil)) (.cons (.aE 3 (.cons (.ae 0) .nil)) .nil)))))
noncomputable def b5:PS:=(.ret (.aI true (.cons (.cmp .gq (.ah (.str ":")) (.ae 0)) (.cons (.aE 4 (.cons (.ae 0) .nil)) .nil))))
noncomputable def b6:PS:=(.seq (.assign (.ae 1) (.bm .split (.ae 0) (.cons (.ah (.str ":")) .nil))) (.seq (.aB (.cmp .gt (.bi .len (.cons (.ae 1) .nil)) (.ah (.int 2))) .bad .skip) (.seq (.aS (.ae 2) (.plain (.ae 1)) (.aB (.bF (.aE 5 (.cons (.ae 2) .nil))) .bad .skip)) (.seq (.aB (.cmp .eq (.bi .len (.cons (.ae 1) .nil)) (.ah (.int 1))) (.ret (.tup (.cons (.ah (.str "")) (.cons (.ae 0) .nil)))) .skip) (.ret (.tup (.cons (.sub (.ae 1) (.ah (.int 0))) (.cons (.sub (.ae 1) (.ah (.int 1))) .nil))))))))
noncomputable def b7:PS:=(.seq (.assign (.ae 2) (.list .nil)) (.seq (.cG (.cmp .gB (.ae 1) (.ah .none)) (.seq (.expr (.bm .append (.ae 2) (.cons (.ae 1) .nil))) (.assign (.ae 1) (.ay (.ae 0) 51 (.cons (.ae 1) .nil))))) (.ret (.slice .rev (.ae 2)))))
noncomputable def b8:PS:=(.seq (.assign (.ae 2) (.list .nil)) (.seq (.assign (.ae 3) (.slice .rev (.ay (.ae 0) 52 (.cons (.ae 1) .nil)))) (.seq (.cG (.cmp .ne (.ae 3) (.list .nil)) (.seq (.assign (.ae 4) (.bm .pop (.ae 3) .nil)) (.seq (.expr (.bm .append (.ae 2) (.cons (.ae 4) .nil))) (.assign (.ae 3) (.bin .add (.ae 3) (.slice .rev (.ay (.ae 0) 52 (.cons (.ae 4) .nil)))))))) (.ret (.ae 2)))))
noncomputable def b9:PS:=(.seq (.assign (.ae 2) (.dict ["xml"] (.cons (.glob 0) .nil))) (.seq (.aS (.ae 3) (.plain (.aE 7 (.cons (.ae 0) (.cons (.ae 1) .nil)))) (.aS (.ae 4) (.plain (.ay (.ae 0) 54 (.cons (.ae 3) .nil))) (.seq (.dG [5,6] (.cons (.ay (.ae 0) 47 (.cons (.ae 4) .nil)) (.cons (.ay (.ae 0) 50 (.cons (.ae 4) .nil)) .nil))) (.aB (.cmp .ne (.ae 6) (.ah (.str ""))) (.assign (.sub (.ae 2) (.ae 5)) (.ae 6)) (.aB (.cmp .cS (.ae 5) (.ae 2)) (.expr (.bm .d7 (.ae 2) (.cons (.ae 5) .nil))) .skip))))) (.ret (.ae 2))))
noncomputable def sA:PS:=(.seq (.assign (.ae 3) (.ay (.ae 0) 36 (.cons (.ae 1) .nil))) (.seq (.assign (.ae 4) (.ay (.ae 0) 38 (.cons (.ae 2) (.cons (.attr (.ae 3) 1) (.cons (.attr (.ae 3) 2) (.cons (.attr (.ae 3) 3) (.cons (.attr (.ae 3) 4) (.cons (.attr (.ae 3) 5) .nil)))))))) (.seq (.aS (.ae 5) (.plain (.attr (.ae 3) 9)) (.expr (.ay (.ae 0) 45 (.cons (.ae 4) (.cons (.ay (.ae 0) 47 (.cons (.ae 5) .nil)) (.cons (.ay (.ae 0) 50 (.cons (.ae 5) .nil)) .nil)))))) (.seq (.aS (.ae 5) (.plain (.attr (.ae 3) 8)) (.seq (.assign (.ae 6) (.ay (.ae 0) 36 (.cons (.ae 5) .nil))) (.expr (.ay (.ae 0) 44 (.cons (.ae 4) (.cons (.attr (.ae 6) 2) (.cons (.attr (.ae 6) 3) (.cons (.attr (.ae 6) 4) (.cons (.attr (.ae 6) 5) .nil))))))))) (.ret (.ae 4))))))
noncomputable def wu:PS:=(.seq (.assign (.ae 3) (.ay (.ae 0) 46 (.cons (.ae 1) .nil))) (.seq (.aB (.cmp .eq (.ae 3) (.ah (.str "attribute"))) (.seq .bad .bad) .skip) (.seq (.aB (.cmp .eq (.ae 3) (.ah (.str "namespace"))) .bad .skip) (.seq (.aB (.cmp .eq (.ae 3) (.ah (.str "root"))) (.seq .bad .bad) .skip) (.seq (.assign (.ae 6) (.f6 7 (.bin .add (.list (.cons (.ae 1) .nil)) (.aE 8 (.cons (.ae 0) (.cons (.ae 1) .nil)))) (.ae 7) (.ay (.ae 0) 52 (.cons (.ae 7) .nil)))) (.seq (.assign (.ae 8) (.aE 10 (.cons (.ae 0) (.cons (.ae 1) (.cons (.ae 2) .nil))))) (.seq (.aB (.cmp .eq (.ae 3) (.ah (.str "element"))) (.expr (.aE 12 (.cons (.ae 0) (.cons (.aE 9 (.cons (.ae 0) (.cons (.ae 1) .nil))) (.cons (.ae 8) .nil))))) .skip) (.seq (.iC 9 5 (.slice .rev (.sub (.ae 6) (.ae 1))) (.tup (.cons (.ae 5) (.cons (.ae 8) .nil)))) (.seq (.cG (.cmp .ne (.ae 9) (.list .nil)) (.seq (.assign (.tup [(.ae 10),(.ae 11)]) (.bm .pop (.ae 9) .nil)) (.seq (.assign (.ae 12) (.aE 10 (.cons (.ae 0) (.cons (.ae 10) (.cons (.ae 11) .nil))))) (.assign (.ae 9) (.bin .add (.ae 9) (.cg 5 (.slice .rev (.sub (.ae 6) (.ae 10))) (.tup (.cons (.ae 5) (.cons (.ae 12) .nil))))))))) (.ret (.ae 8)))))))))))
noncomputable def wW:PS:=(.seq (.assign (.ae 3) (.aE 9 (.cons (.ae 0) (.cons (.ae 2) .nil)))) (.seq (.aS (.ae 4) (.plain (.bi .sorted (.cons (.ae 1) .nil))) (.aB (.cmp .ne (.bm .get (.ae 3) (.cons (.ae 4) .nil)) (.sub (.ae 1) (.ae 4))) (.expr (.ay (.ae 0) 45 (.cons (.ae 2) (.cons (.ae 4) (.cons (.sub (.ae 1) (.ae 4)) .nil))))) .skip)) (.aB (.aI true (.cons (.cmp .cS (.ah (.str "")) (.ae 3)) (.cons (.cmp .gq (.ah (.str "")) (.ae 1)) .nil))) (.expr (.ay (.ae 0) 45 (.cons (.ae 2) (.cons (.ah (.str "")) (.cons (.ah (.str "")) .nil))))) .skip)))
noncomputable def uL:PS:=(.seq (.assign (.attr (.ae 0) 10) (.ae 1)) (.seq (.assign (.attr (.ae 0) 11) (.ae 2)) (.seq (.assign (.attr (.ae 0) 12) (.list (.cons (.ae 2) .nil))) (.seq (.assign (.attr (.ae 0) 13) (.list (.cons (.ah (.bool false)) .nil))) (.assign (.attr (.ae 0) 14) (.list .nil))))))
noncomputable def ub:PS:=(.ret (.sub (.attr (.ae 0) 12) (.neg (.ah (.int 1)))))
noncomputable def s8:PS:=(.ret (.bin .sub (.bi .len (.cons (.attr (.ae 0) 12) .nil)) (.ah (.int 1))))
noncomputable def tE:PS:=(.aB (.cmp .ne (.attr (.ae 0) 14) (.list .nil)) (.seq (.expr (.ay (.attr (.ae 0) 10) 40 (.cons (.ay (.ae 0) 14 .nil) (.cons (.bm .join (.ah (.str "")) (.cons (.attr (.ae 0) 14) .nil)) .nil)))) (.assign (.attr (.ae 0) 14) (.list .nil))) .skip)
noncomputable def sU:PS:=(.seq (.expr (.ay (.ae 0) 16 .nil)) (.assign (.sub (.attr (.ae 0) 13) (.neg (.ah (.int 1)))) (.ah (.bool true))))
noncomputable def si:PS:=(.seq (.expr (.ay (.ae 0) 17 .nil)) (.seq (.assign (.tup [(.ae 3),(.ae 4)]) (.aE 6 (.cons (.ae 1) .nil))) (.seq (.assign (.ae 5) (.ay (.attr (.ae 0) 10) 39 (.cons (.ay (.ae 0) 14 .nil) (.cons (.ae 1) (.cons (.ae 2) (.cons (.ae 4) .nil)))))) (.seq (.expr (.bm .append (.attr (.ae 0) 12) (.cons (.ae 5) .nil))) (.seq (.expr (.bm .append (.attr (.ae 0) 13) (.cons (.ah (.bool false)) .nil))) (.seq (.aB (.cmp .ne (.ay (.ae 0) 21 (.cons (.ae 3) .nil)) (.ae 2)) (.expr (.ay (.ae 0) 22 (.cons (.ae 3) (.cons (.ae 2) .nil)))) .skip) (.ret (.ae 5))))))))
noncomputable def tO:PS:=(.seq (.aB (.cmp .eq (.bi .len (.cons (.attr (.ae 0) 12) .nil)) (.ah (.int 1))) (.raise (.ah (.str "no element is open"))) .skip) (.seq (.expr (.ay (.ae 0) 16 .nil)) (.seq (.expr (.bm .pop (.attr (.ae 0) 12) .nil)) (.expr (.bm .pop (.attr (.ae 0) 13) .nil)))))
noncomputable def su:PS:=(.seq (.aB (.cmp .ne (.bi .len (.cons (.attr (.ae 0) 12) .nil)) (.ah (.int 1))) (.raise (.ah (.str "an element is still open"))) .skip) (.seq (.expr (.ay (.ae 0) 16 .nil)) (.ret (.attr (.ae 0) 11))))
noncomputable def uk:PS:=(.seq (.aB (.cmp .eq (.ae 1) (.ah (.str "xml"))) (.ret (.glob 1)) .skip) (.seq (.aS (.ae 2) (.plain (.slice .fP (.attr (.ae 0) 12))) (.aS (.ae 3) (.plain (.ay (.attr (.ae 0) 10) 54 (.cons (.ae 2) .nil))) (.aB (.cmp .eq (.ay (.attr (.ae 0) 10) 47 (.cons (.ae 3) .nil)) (.ae 1)) (.ret (.ay (.attr (.ae 0) 10) 50 (.cons (.ae 3) .nil))) .skip))) (.ret (.ah (.str "")))))
noncomputable def rH:PS:=(.seq (.aB (.aI true (.cons (.cmp .ne (.ae 1) (.ah (.str ""))) (.cons (.cmp .eq (.ae 2) (.ah (.str ""))) .nil))) (.raise (.bin .add (.bin .add (.ah (.str "the prefix ")) (.ae 1)) (.ah (.str " cannot be unbound")))) .skip) (.expr (.ay (.attr (.ae 0) 10) 45 (.cons (.ay (.ae 0) 14 .nil) (.cons (.ae 1) (.cons (.ae 2) .nil))))))
noncomputable def vX:PS:=(.ret (.cmp .cS (.ae 1) (.cg 2 (.ay (.attr (.ae 0) 10) 54 (.cons (.ay (.ae 0) 14 .nil) .nil)) (.ay (.attr (.ae 0) 10) 47 (.cons (.ae 2) .nil)))))
noncomputable def rQ:PS:=(.seq (.aB (.aI false (.cons (.cmp .cS (.ae 1) (.tup (.cons (.ah (.str "")) (.cons (.ah (.str "xml")) (.cons (.ah (.str "xmlns")) .nil))))) (.cons (.ay (.ae 0) 23 (.cons (.ae 1) .nil)) .nil))) (.ret (.ah (.bool true))) .skip) (.seq (.assign (.ae 2) (.bin .add (.list (.cons (.ay (.ae 0) 14 .nil) .nil)) (.ay (.attr (.ae 0) 10) 53 (.cons (.ay (.ae 0) 14 .nil) .nil)))) (.ret (.cmp .cS (.ae 1) (.cg 3 (.ae 2) (.sub (.aE 6 (.cons (.ay (.attr (.ae 0) 10) 47 (.cons (.ae 3) .nil)) .nil)) (.ah (.int 0))))))))
noncomputable def vE:PS:=(.seq (.assign (.ae 1) (.ah (.int 0))) (.seq (.cG (.cmp .ne (.ay (.ae 0) 21 (.cons (.bin .add (.ah (.str "ns")) (.bi .str (.cons (.ae 1) .nil))) .nil)) (.ah (.str ""))) (.aug 1 .add (.ah (.int 1)))) (.ret (.bin .add (.ah (.str "ns")) (.bi .str (.cons (.ae 1) .nil))))))
noncomputable def tJ:PS:=(.seq (.aB (.aI true (.cons (.cmp .ne (.ae 1) (.ah (.str ""))) (.cons (.cmp .eq (.ay (.ae 0) 21 (.cons (.ae 1) .nil)) (.ae 2)) .nil))) (.ret (.ae 1)) .skip) (.seq (.aS (.ae 3) (.plain (.slice .fP (.attr (.ae 0) 12))) (.aS (.ae 4) (.plain (.ay (.attr (.ae 0) 10) 54 (.cons (.ae 3) .nil))) (.seq (.assign (.ae 5) (.ay (.attr (.ae 0) 10) 47 (.cons (.ae 4) .nil))) (.aB (.aI true (.cons (.cmp .ne (.ae 5) (.ah (.str ""))) (.cons (.cmp .eq (.ay (.attr (.ae 0) 10) 50 (.cons (.ae 4) .nil)) (.ae 2)) (.cons (.cmp .eq (.ay (.ae 0) 21 (.cons (.ae 5) .nil)) (.ae 2)) .nil)))) (.ret (.ae 5)) .skip)))) (.seq (.aB (.ay (.ae 0) 24 (.cons (.ae 1) .nil)) (.assign (.ae 1) (.ay (.ae 0) 25 .nil)) .skip) (.seq (.expr (.ay (.ae 0) 22 (.cons (.ae 1) (.cons (.ae 2) .nil)))) (.ret (.ae 1))))))
noncomputable def tY:PS:=(.seq (.aB (.cmp .eq (.bi .len (.cons (.attr (.ae 0) 12) .nil)) (.ah (.int 1))) (.raise (.bin .add (.ae 1) (.ah (.str " without an element")))) .skip) (.aB (.sub (.attr (.ae 0) 13) (.neg (.ah (.int 1)))) (.raise (.bin .add (.ae 1) (.ah (.str " behind children")))) .skip))
noncomputable def ww:PS:=(.seq (.expr (.ay (.ae 0) 27 (.cons (.ah (.str "an attribute")) .nil))) (.seq (.aB (.aI true (.cons (.cmp .eq (.ae 1) (.ah (.str "xmlns"))) (.cons (.cmp .eq (.ae 2) (.ah (.str ""))) .nil))) (.raise (.ah (.str "an attribute may not be called xmlns"))) .skip) (.seq (.assign (.tup [(.ae 4),(.ae 5)]) (.aE 6 (.cons (.ae 1) .nil))) (.seq (.aB (.cmp .eq (.ae 2) (.ah (.str ""))) (.ret (.ay (.attr (.ae 0) 10) 44 (.cons (.ay (.ae 0) 14 .nil) (.cons (.ae 5) (.cons (.ah (.str "")) (.cons (.ae 5) (.cons (.ae 3) .nil))))))) .skip) (.seq (.aB (.cmp .eq (.ae 2) (.glob 1)) (.ret (.ay (.attr (.ae 0) 10) 44 (.cons (.ay (.ae 0) 14 .nil) (.cons (.bin .add (.ah (.str "xml:")) (.ae 5)) (.cons (.ae 2) (.cons (.ae 5) (.cons (.ae 3) .nil))))))) .skip) (.ret (.ay (.attr (.ae 0) 10) 44 (.cons (.ay (.ae 0) 14 .nil) (.cons (.bin .add (.bin .add (.ay (.ae 0) 26 (.cons (.ae 4) (.cons (.ae 2) .nil))) (.ah (.str ":"))) (.ae 5)) (.cons (.ae 2) (.cons (.ae 5) (.cons (.ae 3) .nil))))))))))))
noncomputable def qZ:PS:=(.aB (.cmp .ne (.ae 1) (.ah (.str ""))) (.seq (.expr (.bm .append (.attr (.ae 0) 14) (.cons (.ae 1) .nil))) (.assign (.sub (.attr (.ae 0) 13) (.neg (.ah (.int 1)))) (.ah (.bool true)))) .skip)
noncomputable def sZ:PS:=(.seq (.expr (.ay (.ae 0) 17 .nil)) (.seq (.cG (.cmp .cS (.ah (.str "--")) (.ae 1)) (.assign (.ae 1) (.eB (.ae 1) "--" "- -"))) (.seq (.aB (.cmp .eq (.slice .fY (.ae 1)) (.ah (.str "-"))) (.assign (.ae 1) (.bin .add (.ae 1) (.ah (.str " ")))) .skip) (.ret (.ay (.attr (.ae 0) 10) 41 (.cons (.ay (.ae 0) 14 .nil) (.cons (.ae 1) .nil)))))))
noncomputable def vC:PS:=(.seq (.aB (.aI false (.cons (.bF (.aE 5 (.cons (.ae 1) .nil))) (.cons (.cmp .eq (.bm .lower (.ae 1) .nil) (.ah (.str "xml"))) .nil))) (.raise (.bin .add (.ah (.str "no target of an instruction: ")) (.ae 1))) .skip) (.seq (.expr (.ay (.ae 0) 17 .nil)) (.ret (.ay (.attr (.ae 0) 10) 42 (.cons (.ay (.ae 0) 14 .nil) (.cons (.ae 1) (.cons (.eB (.ae 2) "?>" "? >") .nil)))))))
noncomputable def rS:PS:=(.seq (.assign (.ae 2) (.ay (.attr (.ae 0) 10) 46 (.cons (.ae 1) .nil))) (.aB (.cmp .eq (.ae 2) (.ah (.str "text"))) .bad (.aB (.cmp .eq (.ae 2) (.ah (.str "attribute"))) .bad (.aB (.cmp .eq (.ae 2) (.ah (.str "namespace"))) .bad (.aB (.cmp .eq (.ae 2) (.ah (.str "root"))) .bad (.seq (.expr (.ay (.ae 0) 17 .nil)) (.expr (.aE 11 (.cons (.attr (.ae 0) 10) (.cons (.ae 1) (.cons (.ay (.ae 0) 14 .nil) .nil)))))))))))
noncomputable def qV:PS:=(.seq (.assign (.attr (.ae 0) 1) (.ae 1)) (.seq (.assign (.attr (.ae 0) 2) (.ae 2)) (.seq (.assign (.attr (.ae 0) 3) (.ae 3)) (.seq (.assign (.attr (.ae 0) 4) (.ae 4)) (.seq (.assign (.attr (.ae 0) 5) (.ae 5)) (.seq (.assign (.attr (.ae 0) 6) (.ae 6)) (.seq (.assign (.attr (.ae 0) 7) (.list .nil)) (.seq (.assign (.attr (.ae 0) 8) (.list .nil)) (.assign (.attr (.ae 0) 9) (.list .nil))))))))))
noncomputable def zL:PS:=(.assign (.attr (.ae 0) 0) (.list .nil))
noncomputable def wG:PS:=(.seq (.expr (.bm .append (.attr (.ae 0) 0) (.cons (.new 33 (.cons (.ae 1) (.cons (.ae 2) (.cons (.ae 3) (.cons (.ae 4) (.cons (.ae 5) (.cons (.ae 6) .nil))))))) .nil))) (.ret (.bin .sub (.bi .len (.cons (.attr (.ae 0) 0) .nil)) (.ah (.int 1)))))
noncomputable def rK:PS:=(.seq (.aB (.bF (.chain .le .lt (.ah (.int 0)) (.ae 1) (.bi .len (.cons (.attr (.ae 0) 0) .nil)))) .bad .skip) (.ret (.sub (.attr (.ae 0) 0) (.ae 1))))
noncomputable def qL:PS:=(.ret (.ay (.ae 0) 35 (.cons (.ah (.str "root")) (.cons (.ah (.str "")) (.cons (.ah (.str "")) (.cons (.ah (.str "")) (.cons (.ah (.str "")) (.cons (.ah .none) .nil))))))))
noncomputable def sg:PS:=(.seq (.aB (.aI true (.cons (.cmp .gB (.ae 1) (.ah .none)) (.cons (.cmp .gq (.attr (.ay (.ae 0) 36 (.cons (.ae 1) .nil)) 1) (.glob 3)) .nil))) .bad .skip) (.seq (.assign (.ae 7) (.ay (.ae 0) 35 (.cons (.ae 2) (.cons (.ae 3) (.cons (.ae 4) (.cons (.ae 5) (.cons (.ae 6) (.cons (.ae 1) .nil)))))))) (.seq (.aB (.cmp .gB (.ae 1) (.ah .none)) (.expr (.bm .append (.attr (.sub (.attr (.ae 0) 0) (.ae 1)) 7) (.cons (.ae 7) .nil))) .skip) (.ret (.ae 7)))))
noncomputable def qU:PS:=(.ret (.ay (.ae 0) 38 (.cons (.ae 1) (.cons (.ah (.str "element")) (.cons (.ae 2) (.cons (.ae 3) (.cons (.ae 4) (.cons (.ah (.str "")) .nil))))))))
noncomputable def vF:PS:=(.ret (.ay (.ae 0) 38 (.cons (.ae 1) (.cons (.ah (.str "text")) (.cons (.ah (.str "")) (.cons (.ah (.str "")) (.cons (.ah (.str "")) (.cons (.ae 2) .nil))))))))
noncomputable def wq:PS:=(.ret (.ay (.ae 0) 38 (.cons (.ae 1) (.cons (.ah (.str "comment")) (.cons (.ah (.str "")) (.cons (.ah (.str "")) (.cons (.ah (.str "")) (.cons (.ae 2) .nil))))))))
noncomputable def uT:PS:=(.ret (.ay (.ae 0) 38 (.cons (.ae 1) (.cons (.ah (.str "instruction")) (.cons (.ae 2) (.cons (.ah (.str "")) (.cons (.ae 2) (.cons (.ae 3) .nil))))))))
noncomputable def rT:PS:=(.seq (.assign (.ae 2) (.ay (.ae 0) 36 (.cons (.ae 1) .nil))) (.seq (.aB (.cmp .ne (.attr (.ae 2) 1) (.ah (.str "element"))) .bad .skip) (.ret (.ae 2))))
noncomputable def qT:PS:=(.seq (.assign (.ae 6) (.ay (.ae 0) 43 (.cons (.ae 1) .nil))) (.seq (.aS (.ae 7) (.plain (.attr (.ae 6) 8)) (.seq (.assign (.ae 8) (.sub (.attr (.ae 0) 0) (.ae 7))) (.aB (.aI true (.cons (.cmp .eq (.attr (.ae 8) 3) (.ae 3)) (.cons (.cmp .eq (.attr (.ae 8) 4) (.ae 4)) .nil))) (.seq (.assign (.attr (.ae 8) 2) (.ae 2)) (.seq (.assign (.attr (.ae 8) 5) (.ae 5)) (.ret (.ae 7)))) .skip))) (.seq (.assign (.ae 7) (.ay (.ae 0) 35 (.cons (.ah (.str "attribute")) (.cons (.ae 2) (.cons (.ae 3) (.cons (.ae 4) (.cons (.ae 5) (.cons (.ae 1) .nil)))))))) (.seq (.expr (.bm .append (.attr (.ae 6) 8) (.cons (.ae 7) .nil))) (.ret (.ae 7))))))
noncomputable def wQ:PS:=(.seq (.assign (.ae 4) (.ay (.ae 0) 43 (.cons (.ae 1) .nil))) (.seq (.aS (.ae 5) (.plain (.attr (.ae 4) 9)) (.aB (.cmp .eq (.attr (.sub (.attr (.ae 0) 0) (.ae 5)) 2) (.ae 2)) (.seq (.assign (.attr (.sub (.attr (.ae 0) 0) (.ae 5)) 5) (.ae 3)) (.ret (.ae 5))) .skip)) (.seq (.assign (.ae 5) (.ay (.ae 0) 35 (.cons (.ah (.str "namespace")) (.cons (.ae 2) (.cons (.ah (.str "")) (.cons (.ae 2) (.cons (.ae 3) (.cons (.ae 1) .nil)))))))) (.seq (.expr (.bm .append (.attr (.ae 4) 9) (.cons (.ae 5) .nil))) (.ret (.ae 5))))))
noncomputable def ve:PS:=(.ret (.attr (.ay (.ae 0) 36 (.cons (.ae 1) .nil)) 1))
noncomputable def wh:PS:=(.ret (.attr (.ay (.ae 0) 36 (.cons (.ae 1) .nil)) 2))
noncomputable def ur:PS:=(.ret (.attr (.ay (.ae 0) 36 (.cons (.ae 1) .nil)) 3))
noncomputable def vg:PS:=(.ret (.attr (.ay (.ae 0) 36 (.cons (.ae 1) .nil)) 4))
noncomputable def vk:PS:=(.ret (.attr (.ay (.ae 0) 36 (.cons (.ae 1) .nil)) 5))
noncomputable def r9:PS:=(.ret (.attr (.ay (.ae 0) 36 (.cons (.ae 1) .nil)) 6))
noncomputable def tP:PS:=(.ret (.bi .list (.cons (.attr (.ay (.ae 0) 36 (.cons (.ae 1) .nil)) 7) .nil)))
noncomputable def rh:PS:=(.ret (.bi .list (.cons (.attr (.ay (.ae 0) 36 (.cons (.ae 1) .nil)) 8) .nil)))
noncomputable def vh:PS:=(.ret (.bi .list (.cons (.attr (.ay (.ae 0) 36 (.cons (.ae 1) .nil)) 9) .nil)))
noncomputable def rm:PS:=(.seq (.assign (.ae 4) (.bin .mod (.bi .int (.cons (.bin .mul (.bin .add (.bin .add (.bin .add (.bin .mod (.bi .int (.cons (.ae 3) .nil)) (.ah (.int 2147483629))) (.bin .mul (.bin .mul (.ah (.int 7919)) (.ae 1)) (.ae 1))) (.bin .mul (.ah (.int 31)) (.ae 1))) (.ah (.int 17))) (.ah (.int 48271))) .nil)) (.ah (.int 2147483647)))) (.ret (.list (.cons (.bin .mul (.ae 3) (.bi .int (.cons (.cmp .ge (.ae 3) (.bin .pow (.ah (.int 10)) (.ah (.int 18)))) .nil))) (.cons (.ae 4) .nil)))))
noncomputable def Bc:PS:=(.seq (.assign (.ae 3) (.bi .max (.cons (.bi .int (.cons (.ae 2) .nil)) (.cons (.bi .int (.cons (.bin .sub (.neg (.ah (.int 1))) (.ae 2)) .nil)) .nil)))) rm)
noncomputable def rU:PS:= .seq (.assign (.ae 2) (.ite (.cmp .lt (.ae 1) (.bi .len (.cons (.ae 0) .nil))) (.sub (.ae 0) (.ae 1)) (.ah (.int 0)))) Bc
noncomputable def rk:PS:=(.seq (.aB (.cmp .gt (.sub (.ae 0) (.ah (.int 0))) (.ah (.int 0))) (.seq (.assign (.ae 2) (.bin .mod (.bi .int (.cons (.sub (.ae 0) (.ah (.int 0))) .nil)) (.ae 1))) (.seq (.assign (.sub (.ae 0) (.ah (.int 0))) (.bin .fdiv (.sub (.ae 0) (.ah (.int 0))) (.ae 1))) (.ret (.ae 2)))) .skip) (.seq (.assign (.sub (.ae 0) (.ah (.int 1))) (.bin .mod (.bi .int (.cons (.bin .add (.bin .mul (.sub (.ae 0) (.ah (.int 1))) (.ah (.int 39373))) (.ah (.int 7))) .nil)) (.ah (.int 2147483647)))) (.ret (.bin .mod (.bi .int (.cons (.bin .fdiv (.bin .mod (.bi .int (.cons (.bin .mul (.sub (.ae 0) (.ah (.int 1))) (.sub (.ae 0) (.ah (.int 1)))) .nil)) (.ah (.int 2147483629))) (.ah (.int 32))) .nil)) (.ae 1)))))
noncomputable def wF:PS:=(.ret (.sub (.ae 1) (.aE 56 (.cons (.ae 0) (.cons (.bi .len (.cons (.ae 1) .nil)) .nil)))))
noncomputable def rV:PS:=(.ret (.dict ["name","attributes","children"] (.cons (.tup (.cons (.ae 0) (.cons (.ae 1) .nil))) (.cons .iD (.cons (.list .nil) .nil)))))
noncomputable def uj:PS:=(.aB (.cmp .ne (.ae 1) (.ah (.str ""))) (.aB (.aI true (.cons (.cmp .ne (.sub (.ae 0) (.ah (.str "children"))) (.list .nil)) (.cons (.bi .isStr (.cons (.sub (.sub (.ae 0) (.ah (.str "children"))) (.neg (.ah (.int 1)))) .nil)) .nil))) (.assign (.sub (.sub (.ae 0) (.ah (.str "children"))) (.neg (.ah (.int 1)))) (.bin .add (.sub (.sub (.ae 0) (.ah (.str "children"))) (.neg (.ah (.int 1)))) (.ae 1))) (.expr (.bm .append (.sub (.ae 0) (.ah (.str "children"))) (.cons (.ae 1) .nil)))) .skip)
noncomputable def vQ:PS:=(.seq (.expr (.ay (.ae 1) 18 (.cons (.bin .add (.ae 6) (.ae 8)) (.cons (.ae 7) .nil)))) (.seq (.expr (.bm .append (.ae 2) (.cons (.aE 58 (.cons (.ae 7) (.cons (.ae 8) .nil))) .nil))) (.seq (.expr (.bm .append (.sub (.ae 5) (.ah (.str "children"))) (.cons (.sub (.ae 2) (.neg (.ah (.int 1)))) .nil))) (.ret (.ah (.bool true))))))
noncomputable def wc:PS:=(.seq (.aB (.cmp .eq (.bi .len (.cons (.ae 2) .nil)) (.ah (.int 1))) (.ret (.refused 0 602 "_law_call_right.<locals>.<lambda>" (.ay (.ae 1) 19 .nil))) .skip) (.seq (.expr (.bm .pop (.ae 2) .nil)) (.ret (.cmp .is (.ay (.ae 1) 19 .nil) (.ah .none)))))
noncomputable def uy:PS:=(.seq (.aB (.aI false (.cons (.cmp .eq (.bi .len (.cons (.ae 2) .nil)) (.ah (.int 1))) (.cons (.cmp .ne (.sub (.ae 5) (.ah (.str "children"))) (.list .nil)) .nil))) (.ret (.refused 0 602 "_law_call_right.<locals>.<lambda>" (.ay (.ae 1) 28 (.cons (.bin .add (.ae 6) (.ae 8)) (.cons (.ae 7) (.cons (.ah (.str "x")) .nil)))))) .skip) (.seq (.assign (.ae 9) (.aE 57 (.cons (.ae 0) (.cons (.list (.cons (.ah (.str "1")) (.cons (.ah (.str "2")) (.cons (.ah (.str "3")) .nil)))) .nil)))) (.seq (.expr (.ay (.ae 1) 28 (.cons (.bin .add (.ae 6) (.ae 8)) (.cons (.ae 7) (.cons (.ae 9) .nil))))) (.seq (.assign (.sub (.sub (.ae 5) (.ah (.str "attributes"))) (.tup (.cons (.ae 7) (.cons (.ae 8) .nil)))) (.ae 9)) (.ret (.ah (.bool true)))))))
noncomputable def uE:PS:= .seq (.assign (.ae 7) (.ite (.cmp .ne (.ae 6) (.ah (.str ""))) (.ae 7) (.ah (.str "")))) uy
noncomputable def vu:PS:=(.seq (.assign (.ae 10) (.aE 57 (.cons (.ae 0) (.cons (.list (.cons (.ah (.str "")) (.cons (.ah (.str "t")) (.cons (.ah (.str "u ")) (.cons (.ah (.str "<")) .nil))))) .nil)))) (.seq (.expr (.aE 59 (.cons (.ae 5) (.cons (.ae 10) .nil)))) (.ret (.cmp .is (.ay (.ae 1) 29 (.cons (.ae 10) .nil)) (.ah .none)))))
noncomputable def t8:PS:=(.seq (.assign (.ae 10) (.aE 57 (.cons (.ae 0) (.cons (.list (.cons (.ah (.str "c")) (.cons (.ah (.str "a--b")) (.cons (.ah (.str "---")) (.cons (.ah (.str "-")) .nil))))) .nil)))) (.seq (.expr (.ay (.ae 1) 30 (.cons (.ae 10) .nil))) (.seq (.expr (.bm .append (.sub (.ae 5) (.ah (.str "children"))) (.cons (.tup (.cons (.ah (.str "comment")) (.cons (.eB (.ae 10) " " "") .nil))) .nil))) (.ret (.refused 0 602 "_law_call_right.<locals>.<lambda>" (.ay (.ae 1) 31 (.cons (.aE 57 (.cons (.ae 0) (.cons (.list (.cons (.ah (.str "xml")) (.cons (.ah (.str "1a")) (.cons (.ah (.str "XML")) (.cons (.ah (.str "")) .nil))))) .nil))) (.cons (.ah (.str "d")) .nil))))))))
noncomputable def sq:PS:=(.seq (.aB (.cmp .eq (.aE 56 (.cons (.ae 0) (.cons (.ah (.int 2)) .nil))) (.ah (.int 0))) (.seq (.expr (.ay (.ae 1) 32 (.cons (.sub (.ae 3) (.ah (.int 0))) .nil))) (.expr (.bm .append (.sub (.ae 5) (.ah (.str "children"))) (.cons (.sub (.ae 3) (.ah (.int 1))) .nil)))) (.seq (.assign (.ae 11) (.aE 57 (.cons (.ae 0) (.cons (.list (.cons (.ah (.str "a?>b")) (.cons (.ah (.str "")) (.cons (.ah (.str "??>>")) (.cons (.ah (.str " d ")) .nil))))) .nil)))) (.seq (.expr (.ay (.ae 1) 31 (.cons (.bin .add (.ah (.str "i-")) (.ae 8)) (.cons (.ae 11) .nil)))) (.expr (.bm .append (.sub (.ae 5) (.ah (.str "children"))) (.cons (.tup (.cons (.ah (.str "instruction")) (.cons (.bin .add (.ah (.str "i-")) (.ae 8)) (.cons (.bm .join (.ah (.str "? >")) (.cons (.bm .split (.ae 11) (.cons (.ah (.str "?>")) .nil)) .nil)) .nil)))) .nil)))))) (.ret (.ah (.bool true))))
noncomputable def qt:PS:=(.seq (.aB (.cmp .lt (.ae 4) (.ah (.int 3))) vQ .skip) (.seq (.aB (.cmp .eq (.ae 4) (.ah (.int 3))) wc .skip) (.seq (.aB (.cmp .lt (.ae 4) (.ah (.int 7))) uE .skip) (.seq (.aB (.cmp .lt (.ae 4) (.ah (.int 10))) vu .skip) (.seq (.aB (.cmp .eq (.ae 4) (.ah (.int 10))) t8 .skip) sq)))))
noncomputable def wa:PS:=(.seq (.dG [4,5] (.cons (.aE 56 (.cons (.ae 0) (.cons (.ah (.int 12)) .nil))) (.cons (.sub (.ae 2) (.neg (.ah (.int 1)))) .nil))) (.seq (.assign (.tup [(.ae 6),(.ae 7)]) (.tup (.cons (.aE 57 (.cons (.ae 0) (.cons (.list (.cons (.ah (.str "")) (.cons (.ah (.str "")) (.cons (.ah (.str "p:")) (.cons (.ah (.str "q:")) .nil))))) .nil))) (.cons (.aE 57 (.cons (.ae 0) (.cons (.list (.cons (.ah (.str "u")) (.cons (.ah (.str "v")) .nil))) .nil))) .nil)))) (.seq (.assign (.ae 8) (.aE 57 (.cons (.ae 0) (.cons (.list (.cons (.ah (.str "a")) (.cons (.ah (.str "b")) (.cons (.ah (.str "c")) .nil)))) .nil)))) (.seq (.assign (.ae 7) (.ite (.cmp .ne (.ae 6) (.ah (.str ""))) (.ae 7) (.aE 57 (.cons (.ae 0) (.cons (.list (.cons (.ah (.str "")) (.cons (.ah (.str "u")) .nil))) .nil))))) qt))))
noncomputable def tx:PS:=(.seq (.assign (.ae 2) (.aE 9 (.cons (.ae 0) (.cons (.ae 1) .nil)))) (.seq (.aS (.ae 3) (.plain (.bin .add (.list (.cons (.ae 1) .nil)) (.ay (.ae 0) 53 (.cons (.ae 1) .nil)))) (.seq (.assign (.tup [(.ae 4),(.ae 5),(.ae 6)]) (.bm .rpartition (.ay (.ae 0) 47 (.cons (.ae 3) .nil)) (.cons (.ah (.str ":")) .nil))) (.seq (.assign (.ae 7) (.ay (.ae 0) 48 (.cons (.ae 3) .nil))) (.seq (.aB (.aI false (.cons (.cmp .ne (.ae 6) (.ay (.ae 0) 49 (.cons (.ae 3) .nil))) (.cons (.aI true (.cons (.cmp .ne (.ae 4) (.ah (.str ""))) (.cons (.cmp .ne (.bm .get (.ae 2) (.cons (.ae 4) .nil)) (.ae 7)) .nil))) .nil))) (.ret (.ah (.bool false))) .skip) (.aB (.aI true (.cons (.cmp .eq (.ae 4) (.ah (.str ""))) (.cons (.cmp .ne (.ae 7) (.ite (.cmp .eq (.ae 3) (.ae 1)) (.bm .get (.ae 2) (.cons (.ah (.str "")) (.cons (.ah (.str "")) .nil))) (.ah (.str "")))) .nil))) (.ret (.ah (.bool false))) .skip))))) (.ret (.ah (.bool true)))))
noncomputable def vi:PS:=(.seq (.assign (.ae 3) (.bi .dict (.cons (.cg 4 (.ay (.ae 0) 53 (.cons (.ae 1) .nil)) (.tup (.cons (.tup (.cons (.ay (.ae 0) 48 (.cons (.ae 4) .nil)) (.cons (.ay (.ae 0) 49 (.cons (.ae 4) .nil)) .nil))) (.cons (.ay (.ae 0) 50 (.cons (.ae 4) .nil)) .nil)))) .nil))) (.seq (.assign (.ae 5) (.ay (.ae 0) 52 (.cons (.ae 1) .nil))) (.seq (.aB (.aI false (.cons (.cmp .ne (.ae 3) (.sub (.ae 2) (.ah (.str "attributes")))) (.cons (.cmp .ne (.bi .len (.cons (.ae 5) .nil)) (.bi .len (.cons (.sub (.ae 2) (.ah (.str "children"))) .nil))) (.cons (.bF (.aE 61 (.cons (.ae 0) (.cons (.ae 1) .nil)))) .nil)))) (.ret (.ah (.bool false))) .skip) (.seq (.aS (.tup [(.ae 6),(.ae 7)]) (.zip (.ae 5) (.sub (.ae 2) (.ah (.str "children")))) (.seq (.dG [8,9] (.cons (.ay (.ae 0) 46 (.cons (.ae 6) .nil)) (.cons (.ay (.ae 0) 50 (.cons (.ae 6) .nil)) .nil))) (.aB (.bi .isStr (.cons (.ae 7) .nil)) (.aB (.aI false (.cons (.cmp .ne (.ae 8) (.ah (.str "text"))) (.cons (.cmp .ne (.ae 9) (.ae 7)) .nil))) (.ret (.ah (.bool false))) .skip) (.aB (.bi .bH (.cons (.ae 7) .nil)) (.seq (.aB (.aI false (.cons (.cmp .ne (.ae 8) (.ah (.str "element"))) (.cons (.cmp .ne (.tup (.cons (.ay (.ae 0) 48 (.cons (.ae 6) .nil)) (.cons (.ay (.ae 0) 49 (.cons (.ae 6) .nil)) .nil))) (.sub (.ae 7) (.ah (.str "name")))) .nil))) (.ret (.ah (.bool false))) .skip) (.aB (.bF (.aE 62 (.cons (.ae 0) (.cons (.ae 6) (.cons (.ae 7) .nil))))) (.ret (.ah (.bool false))) .skip)) (.aB (.aI false (.cons (.cmp .ne (.ae 8) (.sub (.ae 7) (.ah (.int 0)))) (.cons (.aI true (.cons (.cmp .eq (.ae 8) (.ah (.str "comment"))) (.cons (.aI false (.cons (.cmp .cS (.ah (.str "--")) (.ae 9)) (.cons (.cmp .eq (.slice .fY (.ae 9)) (.ah (.str "-"))) .nil))) .nil))) .nil))) (.ret (.ah (.bool false))) (.aB (.aI true (.cons (.cmp .eq (.ae 8) (.ah (.str "comment"))) (.cons (.cmp .ne (.eB (.ae 9) " " "") (.sub (.ae 7) (.ah (.int 1)))) .nil))) (.ret (.ah (.bool false))) (.aB (.aI true (.cons (.cmp .eq (.ae 8) (.ah (.str "instruction"))) (.cons (.cmp .ne (.tup (.cons (.ay (.ae 0) 47 (.cons (.ae 6) .nil)) (.cons (.ae 9) .nil))) (.slice .iG (.ae 7))) .nil))) (.ret (.ah (.bool false))) .skip))))))) (.ret (.ah (.bool true)))))))
noncomputable def tX:PS:=(.seq (.expr (.ay (.ae 0) 18 (.cons (.ah (.str "a")) (.cons (.ah (.str "")) .nil)))) (.seq (.expr (.bm .append (.ae 1) (.cons (.aE 58 (.cons (.ah (.str "")) (.cons (.ah (.str "a")) .nil))) .nil))) (.seq (.expr (.bm .append (.sub (.sub (.ae 1) (.ah (.int 0))) (.ah (.str "children"))) (.cons (.sub (.ae 1) (.ah (.int 1))) .nil))) (.seq (.expr (.ay (.ae 0) 28 (.cons (.ah (.str "b")) (.cons (.ah (.str "")) (.cons (.ah (.str "1")) .nil))))) (.seq (.assign (.sub (.sub (.sub (.ae 1) (.ah (.int 1))) (.ah (.str "attributes"))) (.tup (.cons (.ah (.str "")) (.cons (.ah (.str "b")) .nil)))) (.ah (.str "1"))) (.seq (.expr (.ay (.ae 0) 29 (.cons (.ah (.str "t")) .nil))) (.seq (.expr (.bm .append (.sub (.sub (.ae 1) (.ah (.int 1))) (.ah (.str "children"))) (.cons (.ah (.str "t")) .nil))) (.ret (.refused 1 621 "_law_begun_right.<locals>.<lambda>" (.ay (.ae 0) 28 (.cons (.ah (.str "c")) (.cons (.ah (.str "")) (.cons (.ah (.str "2")) .nil)))))))))))))
noncomputable def n4:PS:=(.aB (.aI false (.cons (.cmp .ne (.ay (.ae 6) 20 .nil) (.attr (.ae 6) 11)) (.cons (.bF (.aE 62 (.cons (.ae 3) (.cons (.attr (.ae 6) 11) (.cons (.sub (.ae 7) (.ah (.int 0))) .nil))))) .nil))) (.ret (.ah (.bool false))) .skip)
noncomputable def uC:PS:=(.cG (.cmp .gt (.bi .len (.cons (.ae 7) .nil)) (.ah (.int 1))) (.seq (.expr (.ay (.ae 6) 19 .nil)) (.expr (.bm .pop (.ae 7) .nil))))
noncomputable def uS:PS:=(.seq (.aB (.aI true (.cons (.cmp .gt (.bi .len (.cons (.ae 7) .nil)) (.ah (.int 1))) (.cons (.bF (.refused 2 628 "law.<locals>.<lambda>" (.ay (.ae 6) 20 .nil))) .nil))) (.ret (.ah (.bool false))) .skip) (.seq uC n4))
noncomputable def Ba:PS:=(.aB (.aI false (.cons (.bF (.aE 60 (.cons (.ae 2) (.cons (.ae 6) (.cons (.ae 7) (.cons (.list (.cons (.ae 5) (.cons (.ae 4) .nil))) .nil)))))) (.cons (.cmp .ne (.ay (.ae 6) 15 .nil) (.bin .sub (.bi .len (.cons (.ae 7) .nil)) (.ah (.int 1)))) .nil))) (.ret (.ah (.bool false))) .skip)
noncomputable def rD:PS:= .seq (.aS (.ae 8) (.range (.bin .add (.ah (.int 8)) (.aE 56 (.cons (.ae 2) (.cons (.ah (.int 9)) .nil))))) Ba) uS
noncomputable def sM:PS:=(.seq (.assign (.ae 2) (.aE 55 (.cons (.ae 0) (.cons (.ae 1) .nil)))) (.seq (.dG [3,4] (.cons (.new 34 .nil) (.cons (.aE 58 (.cons (.ah (.str "w")) (.cons (.ah (.str "e")) .nil))) .nil))) (.seq (.assign (.ae 5) (.ay (.ae 3) 39 (.cons (.ay (.ae 3) 37 .nil) (.cons (.ah (.str "r:e")) (.cons (.ah (.str "w")) (.cons (.ah (.str "e")) .nil)))))) (.seq (.expr (.ay (.ae 3) 45 (.cons (.ae 5) (.cons (.ah (.str "r")) (.cons (.ah (.str "w")) .nil))))) (.seq (.expr (.ay (.ae 3) 44 (.cons (.ae 5) (.cons (.ah (.str "n")) (.cons (.ah (.str "")) (.cons (.ah (.str "n")) (.cons (.ah (.str "5")) .nil))))))) (.seq (.expr (.ay (.ae 3) 40 (.cons (.ae 5) (.cons (.ah (.str "deep")) .nil)))) (.seq (.assign (.tup [(.sub (.sub (.ae 4) (.ah (.str "attributes"))) (.tup (.cons (.ah (.str "")) (.cons (.ah (.str "n")) .nil)))),(.sub (.ae 4) (.ah (.str "children")))]) (.tup (.cons (.ah (.str "5")) (.cons (.list (.cons (.ah (.str "deep")) .nil)) .nil)))) (.seq (.assign (.tup [(.ae 6),(.ae 7)]) (.tup (.cons (.new 13 (.cons (.ae 3) (.cons (.ay (.ae 3) 37 .nil) .nil))) (.cons (.list (.cons (.aE 58 (.cons (.ah (.str "")) (.cons (.ah (.str "")) .nil))) .nil)) .nil)))) (.seq (.aB (.bF (.aE 63 (.cons (.ae 6) (.cons (.ae 7) .nil)))) (.ret (.ah (.bool false))) .skip) rD)))))))))
noncomputable def nR:PS:=(.seq (.aS (.ae 1) (.range (.bi .max (.cons (.ah (.int 1)) (.cons (.bi .min (.cons (.bi .len (.cons (.ae 0) .nil)) (.cons (.ah (.int 2)) .nil))) .nil)))) sM) (.ret (.ah (.bool true))))
noncomputable def WJ:List gv:=[⟨108,"is_small_letter",0,"",["sign"],[],b0,none⟩,⟨115,"is_name_start",0,"",["sign"],[],b1,none⟩,⟨122,"is_name_char",0,"",["sign"],[],b2,none⟩,⟨129,"is_nmtoken",0,"",["text"],["sign"],b3,none⟩,⟨136,"is_name",0,"",["text"],[],b4,none⟩,⟨143,"is_ncname",0,"",["text"],[],b5,none⟩,⟨150,"split_name",0,"",["name"],["parts","part"],b6,none⟩,⟨157,"lines_down",0,"",["tree","node"],["found"],b7,none⟩,⟨164,"beneath",0,"",["tree","node"],["found","left","here"],b8,none⟩,⟨171,"scope_of",0,"",["tree","element"],["found","above","node","prefix","uri"],b9,none⟩,⟨178,"copy_head",0,"",["tree","node","parent"],["row","found","other","known"],sA,none⟩,⟨183,"copy_into",0,"",["tree","node","parent"],["kind","row","child","inner","one","found","left","here","above","copied"],wu,none⟩,⟨190,"bring_names",0,"",["tree","wanted","element"],["known","prefix"],wW,none⟩,⟨204,"__init__",343,"Result",["self","tree","root"],[],uL,none⟩,⟨211,"here",343,"Result",["self"],[],ub,none⟩,⟨218,"depth",343,"Result",["self"],[],s8,none⟩,⟨225,"settle",343,"Result",["self"],[],tE,none⟩,⟨232,"child_comes",343,"Result",["self"],[],sU,none⟩,⟨239,"start",343,"Result",["self","name","uri"],["prefix","local","element"],si,none⟩,⟨246,"end",343,"Result",["self"],[],tO,none⟩,⟨253,"close",343,"Result",["self"],[],su,none⟩,⟨260,"bound_uri",343,"Result",["self","prefix"],["element","node"],uk,none⟩,⟨267,"bind",343,"Result",["self","prefix","uri"],[],rH,none⟩,⟨272,"is_bound_here",343,"Result",["self","prefix"],["node"],vX,none⟩,⟨277,"is_taken",343,"Result",["self","prefix"],["nodes","node"],rQ,none⟩,⟨291,"free_prefix",343,"Result",["self"],["number"],vE,none⟩,⟨298,"prefix_for",343,"Result",["self","prefix","uri"],["element","node","told"],tJ,none⟩,⟨305,"check_ahead",343,"Result",["self","what"],[],tY,none⟩,⟨312,"attribute",343,"Result",["self","name","uri","value"],["prefix","local"],ww,none⟩,⟨319,"text",343,"Result",["self","text"],[],qZ,none⟩,⟨326,"comment",343,"Result",["self","text"],[],sZ,none⟩,⟨333,"instruction",343,"Result",["self","target","data"],[],vC,none⟩,⟨340,"copy",343,"Result",["self","node"],["kind","child"],rS,none⟩,⟨362,"__init__",365,"NodeRow",["self","kind","name","uri","local","value","parent"],[],qV,none⟩,⟨383,"__init__",554,"Tree",["self"],[],zL,none⟩,⟨390,"new_row",554,"Tree",["self","kind","name","uri","local","value","parent"],[],wG,none⟩,⟨397,"row",554,"Tree",["self","node"],[],rK,none⟩,⟨404,"new_root",554,"Tree",["self"],[],qL,none⟩,⟨411,"add_child",554,"Tree",["self","parent","kind","name","uri","local","value"],["node"],sg,none⟩,⟨418,"add_element",554,"Tree",["self","parent","name","uri","local"],[],qU,none⟩,⟨425,"add_text",554,"Tree",["self","parent","value"],[],vF,none⟩,⟨432,"add_comment",554,"Tree",["self","parent","value"],[],wq,none⟩,⟨439,"add_instruction",554,"Tree",["self","parent","target","data"],[],uT,none⟩,⟨446,"element_row",554,"Tree",["self","element"],["row"],rT,none⟩,⟨453,"set_attribute",554,"Tree",["self","element","name","uri","local","value"],["row","node","known"],qT,none⟩,⟨460,"add_namespace",554,"Tree",["self","element","prefix","uri"],["row","node"],wQ,none⟩,⟨474,"kind",554,"Tree",["self","node"],[],ve,none⟩,⟨481,"name",554,"Tree",["self","node"],[],wh,none⟩,⟨488,"uri",554,"Tree",["self","node"],[],ur,none⟩,⟨495,"local",554,"Tree",["self","node"],[],vg,none⟩,⟨502,"value",554,"Tree",["self","node"],[],vk,none⟩,⟨509,"parent",554,"Tree",["self","node"],[],r9,none⟩,⟨516,"children",554,"Tree",["self","node"],[],tP,none⟩,⟨523,"attributes",554,"Tree",["self","node"],[],rh,none⟩,⟨530,"namespaces",554,"Tree",["self","node"],[],vh,none⟩,⟨565,"_law_pool",0,"",["script","k"],["cell","big","mixed"],rU,none⟩,⟨572,"_law_take",0,"",["source","top"],["drawn"],rk,none⟩,⟨579,"_law_one",0,"",["source","things"],[],wF,none⟩,⟨593,"_law_element",0,"",["uri","local"],[],rV,none⟩,⟨600,"_law_add_text",0,"",["row","text"],[],uj,none⟩,⟨607,"_law_call_right",0,"",["source","result","rows","copied"],["way","here","prefix","uri","local","value","text","told"],wa,(some (0,602,"_law_call_right.<locals>.<lambda>"))⟩,⟨614,"_law_names_right",0,"",["tree","element"],["scope","node","prefix","colon","local","uri"],tx,none⟩,⟨619,"_law_like",0,"",["tree","node","row"],["attributes","one","children","child","due","kind","value"],vi,none⟩,⟨626,"_law_begun_right",0,"",["result","rows"],[],tX,(some (1,621,"_law_begun_right.<locals>.<lambda>"))⟩,⟨633,"law",0,"",["script"],["k","source","tree","row","origin","result","rows","turn"],nR,(some (2,628,"law.<locals>.<lambda>"))⟩]
noncomputable def yl:List Nat:=[0,1,2,3,4,5,6,7,8,9,10,11,12,55,56,57,58,59,60,61,62,63,64]
noncomputable def Ds:List Nat:=[14,15,16,17,18,19,20,21,22,23,24,25,26,27,28,29,30,31,32,35,36,37,38,39,40,41,42,43,44,45,46,47,48,49,50,51,52,53,54]
noncomputable def C6:List Nat:=[13,33,34]
noncomputable def rI:List (Addr×Nat):=[(343,10),(343,11),(343,12),(343,13),(343,14),(365,1),(365,2),(365,3),(365,4),(365,5),(365,6),(365,7),(365,8),(365,9),(554,0)]
noncomputable def B5:List (Str×MV):=[("XML_URI_order",.str "http://www.w3.org/XML/1998/namespace"),("XML_URI_result",.str "http://www.w3.org/XML/1998/namespace"),("FIRST_BEYOND",.int 128),("PARENTS",.tup [.str "root",.str "element"])]
noncomputable def mt:MT:={fa:=λf=>(WJ[f]?.map (·.fa)).getD 0,fn:=λf=>(WJ[f]?.map (·.fn)).getD Str.empty,aF:=λf=>(WJ[f]?.map (·.ca)).getD 0,cC:=λf=>(WJ[f]?.map (·.cn)).getD Str.empty,dH:=B5,fields:=rI,gf:=yl,mf:=Ds,nf:=C6}
noncomputable def fH (r:Option (Option Value)) (a:Addr):Bool:=AS r λo=>AS o λv=>i7 v λb=>Nat.beq b a
noncomputable def fZ (r:Option (Option Value)):Bool:=AS r λo=>o.isNone
noncomputable def pK (r:Option (Option Value)) (n:String):Bool:=AS r λo=>AS o λv=>tu v λi=>decide (i=n)
noncomputable def pB (K:Frag) (a:Addr):Bool:=AS (typeIn K (.ref a)) λv=>n6 v λt=>decide (t="function")
noncomputable def XU (K:Frag) (f:Nat):Bool:=fH (nsIn K mainGlobals (mt.fn f)) (mt.fa f)&&keepIn K (.ref (mt.fa f))
noncomputable def Kt (K:Frag) (f:Nat):Bool:=pK (findIn K (.ref (mt.aF f)) "__getattribute__") "object.__getattribute__" &&(fZ (findIn K (.ref (mt.aF f)) "__getattr__")&&(fH (findIn K (.ref (mt.aF f)) (mt.fn f)) (mt.fa f)&&(pB K (mt.fa f)&&keepIn K (.ref (mt.fa f)))))
noncomputable def HH (K:Frag) (f:Nat):Bool:=fH (nsIn K mainGlobals (mt.cC f)) (mt.aF f)&&(keepIn K (.ref (mt.aF f))&&(makesIn K (mt.aF f)&&(fH (findIn K (.ref (mt.aF f)) "__init__") (mt.fa f)&&pB K (mt.fa f))))
noncomputable def yz (K:Frag):Bool:=yl.all (XU K)&&(Ds.all (Kt K)&&C6.all (HH K))
noncomputable def ui (K:Frag) (p:Addr×Nat):Bool:=plainGet K p.1 (wT p.2)&&(hasDictIn K p.1&&AS (findIn K (.ref p.1) (wT p.2)) (noGet K))
noncomputable def xd (K:Frag) (p:Addr×Nat):Bool:=AS (clsIn K p.1) (λa=>a.hasDict&&(onlyObject a.mro&& !a.mro.isEmpty))&&(pK (findIn K (.ref p.1) "__setattr__") "object.__setattr__" &&fZ (takerIn K p.1 (wT p.2)))
noncomputable def iF (K:Frag) (x:Str) (k:Value->Bool):Bool:=AS (nsIn K mainGlobals x) λo=>AS o k
noncomputable def wt:List Value->List Str->Bool| [],l=>l.isEmpty|v::r,l=>match l with| []=>false|s::l=>rP v (λt _=>sB t s)&&wt r l
noncomputable def q8 (K:Frag) (x s:Str):Bool:=iF K x λv=>rP v λt _=>sB t s
noncomputable def yw (K:Frag) (x:Str) (i:Int):Bool:=iF K x λv=>zo v λj _=>decide (j=i)
noncomputable def Ce (o:Option Obj) (t:String) (k:Array Value->Bool):Bool:=AS o λb=>n6 b.cls (λu=>decide (u=t))&&yq b.data λa _=>k a
noncomputable def xq (K:Frag) (x:Str) (l:List Str):Bool:=iF K x λv=>i7 v λa=>Ce (K.lookup a) "tuple" λc=>wt c.toList l
noncomputable def Cv (K:Frag):Bool:=q8 K "XML_URI_order" "http://www.w3.org/XML/1998/namespace" &&(q8 K "XML_URI_result" "http://www.w3.org/XML/1998/namespace" &&(yw K "FIRST_BEYOND" 128&&xq K "PARENTS" ["root","element"]))
noncomputable def AR (x:Stmt) (k:List Stmt->List ExceptHandler->List Stmt->List Stmt->Bool):Bool:=if h:x.ctorIdx=17 then Stmt.Try.elim x h (λa b c d _=>k a b c d) else false
noncomputable def iT (s:Str) (e:Expr):Bool:=cq e λx _=>sB x s
noncomputable def rn (r:Bool) (s:Stmt):Bool:=uw s λo _=>AS o λe=>mw e λc _ _=>sO c λb=>decide (b=r)
noncomputable def DH (s:Str) (x:ExceptHandler):Bool:=match x with| .ExceptHandler t n b _=>n.isNone&&(AS t (iT s)&&NH b (rn true))
noncomputable def MX (l:List Stmt):Bool:=dJ l λs r=>rn false r&&AR s λa b c d=>c.isEmpty&&(d.isEmpty&&(NH b (DH "SheetFault")&&NH a λe=>n8 e λe _=>fA e λn g=>sB n "call" &&g.isEmpty))
noncomputable def Ea (K:Frag):Bool:=pd (K.lookup 586) (λ_ a=>oi a.body MX&&(oh K a ["call"] []&&(decide (a.scope.names.lookup ("call" :Str)=some .local)&&decide (a.scope.names.lookup ("SheetFault" :Str)=some .globalImplicit))))&&(fH (nsIn K mainGlobals "_law_refused") 586&&(keepIn K (.ref 586)&&fH (nsIn K mainGlobals "SheetFault") 75))
noncomputable def iX (s:String) (v:Value):Bool:=n6 v λt=>decide (t=s)
noncomputable def zg (l:List Value):Bool:=match l with| [a,b,c,d,e]=>i7 a (λn=>Nat.beq n 75)&&(i7 b (λ_=>true)&&(iX "Exception" c&&(iX "BaseException" d&&iX "object" e)))|_=>false
noncomputable def Am (l:List (Option Value)):Bool:=match l with| [_,_,_,_,o,_]=>AS o λv=>tu v λb=>decide (b="Exception.__new__")|_=>false
noncomputable def D3 (o:Obj):Bool:=DF o.data λa=>iX "type" o.cls&&(zg a.mro&&(a.hasDict&&(!a.hasDel&&Am o.slots.toList)))
noncomputable def yJ (l:List Stmt):Bool:=dJ l λs r=>n8 s (λe _=>mU e λf j c p5=>c.isEmpty&&(dJ j (λa b=>iT "self" a&&iT "message" b)&&kh f λa b p2=>iT "Exception" a&&(sB b "__init__" &&p2.endLine==p5.line)))&&vj r λd v _=>NH d λg=>iT "message" v&&kh g λa b _=>sB b "message" &&iT "self" a
noncomputable def Dm (K:Frag):Bool:=pd (K.lookup 35) λc a=>iX "function" c&&(oi a.body yJ&&(oh K a ["self","message"] []&&(decide (a.scope.names.lookup ("self" :Str)=some .local)&&(decide (a.scope.names.lookup ("message" :Str)=some .local)&&decide (a.scope.names.lookup ("Exception" :Str)=some .globalImplicit)))))
noncomputable def B7 (K:Frag):Bool:=match findCls K (.type "Exception") (.type "type") "__init__" with|some (.val (.builtin b))=>decide (b="Exception.__init__")|_=>false
noncomputable def zz (K:Frag):Bool:=AS (K.lookup 75) D3&&(fH (findIn K (.ref 75) "__init__") 35&&(pK (findIn K (.ref 75) "__setattr__") "object.__setattr__" &&(fZ (takerIn K 75 "message")&&(fZ (nsIn K mainGlobals "Exception")&&(B7 K&&Dm K)))))
noncomputable def B9:List BI:=[.len,.ord,.str,.list,.dict,.sorted,.isStr,.bH,.max,.min,.int]
noncomputable def rL (K:Frag):Bool:=iF K "__builtins__" λv=>i7 v λb=> !Nat.beq b builtinsNs&&(!Nat.beq b mainGlobals&&AS (K.lookup b) λo=>iX "module" o.cls&&(decide (o.data.ctorIdx=0)&&AS o.dict λd=>Nat.beq d builtinsNs))
noncomputable def j4 (K:Frag):Nat->List gv->Bool|_,[]=>true|n,r::l=>jC mt K r&&j4 K (n+1) l
noncomputable def yT (K:Frag):Bool:=yz K&&rI.all (λp=>ui K p&&xd K p)&&Cv K&&Ea K&&zz K&&rL K&&B9.all (λb=>fZ (nsIn K mainGlobals (cw b)))&&fZ (nsIn K mainGlobals "range")&&fZ (nsIn K mainGlobals "zip")&&keepIn K (.ref 75)&&fH (nsIn K mainGlobals "law") 633
noncomputable def K0:List Nat:=[3,343,342,365,364,554,553,75,74,4,34,35,37,38,107,108,114,115,121,122,128,129,135,136,142,143,149,150,156,157,163,164,170,171,177,178,182,183,189,190,203,204,210,211,217,218,224,225,231,232,238,239,245,246,252,253,259,260,266,267,271,272,276,277,290,291,297,298,304,305,311,312,318,319,325,326,332,333,339,340,348,361,362,382,383,389,390,396,397,403,404,410,411,417,418,424,425,431,432,438,439,445,446,452,453,459,460,473,474,480,481,487,488,494,495,501,502,508,509,515,516,522,523,529,530,564,565,571,572,578,579,585,586,592,593,599,600,606,607,613,614,618,619,625,626,632,633]
noncomputable def fL (h:Heap):Frag:=K0.filterMap λi=>(h.get? i).map λo=>(i,o)
noncomputable def Bv (v:Value):Bool:=match v with| .none=>true|_=>false
noncomputable def By (d:Data):Bool:=match d with| .fields a=>Nat.beq a.size 0|_=>false
noncomputable def mO (h:Heap) (P:Addr):Bool:=AS (h.get? P) λo=>Bv o.cls&&(o.dict.isNone&&(By o.data&&Nat.beq o.slots.size 0))
noncomputable def Bt (s:Shared):Bool:=j4 (fL s.heap) 0 WJ
noncomputable def yG (s:Shared):Bool:=Nat.blt 0 s.toks&&yT (fL s.heap)&&mO s.heap 602&&mO s.heap 621&&mO s.heap 628
noncomputable def pk (s:Shared):Bool:=Bt s&&yG s
section
set_option maxHeartbeats 0
section
variable {tb:String->Option Builtin} {p:Program} {w:World} {du:Nat} {dD:Option Value}
noncomputable def lE (tb:String->Option Builtin) (p:Program) (w:World) (du:Nat) (dD:Option Value):Nat->SharedT->Thread->Option SharedT|0,_,_=>none|n+1,s,t=>match through t with|true=>some s|false=>match stepOk du dD t with|false=>none|true=>match stepT (denote tb) p w s t with|some (a,c)=>lE tb p w du dD n a c|none=>none
theorem yB:∀{n:Nat} {s a:SharedT} {t:Thread},lE tb p w du dD n s t=some a->topRun tb p w du dD n s.abs t=some a.abs|0,_,_,_,h=>by cases h|n+1,s,a,t,h=>by unfold lE at h;unfold topRun;cases j:through t with|true=>rw [j] at h;cases h;rfl|false=>rw [j] at h;cases d:stepOk du dD t with|false=>rw [d] at h;cases h|true=>rw [d] at h;cases c:stepT (denote tb) p w s t with|none=>rw [c] at h;cases h|some r=>obtain ⟨g,e⟩:=r;rw [c] at h;rw [stepT_spec c];exact yB h
noncomputable def gi (tb:String->Option Builtin) (p:Program) (w:World) (du:Nat) (dD:Option Value):Nat->SharedT->Thread->Option SharedT|0,_,_=>none|n+1,s,t=>match through t with|true=>some s|false=>match PySem.W.Fast.tw6613529449190102663 du dD t with|false=>none|true=>match PySem.W.Fast.tw10156331382660048174 (PySem.W.Fast.tw11892475500146522536 tb) p w s t with|some (a,c)=>gi tb p w du dD n a c|none=>none
theorem D0:∀(n:Nat) (s:SharedT) (t:Thread),lE tb p w du dD n s t=gi tb p w du dD n s t|0,_,_=>rfl|n+1,s,t=>by unfold lE gi;rw [PySem.W.Fast.te6613529449190102663,PySem.W.Fast.te10156331382660048174,PySem.W.Fast.te11892475500146522536];cases through t with|true=>rfl|false=>dsimp only;cases PySem.W.Fast.tw6613529449190102663 du dD t with|false=>rfl|true=>dsimp only;cases PySem.W.Fast.tw10156331382660048174 (PySem.W.Fast.tw11892475500146522536 tb) p w s t with|none=>rfl|some r=>exact D0 n r.1 r.2
end
noncomputable def AZ:List Obj->Nat->BT->BT| [],_,t=>t|o::r,n,t=>AZ r (n+1) (t.ins n o)
noncomputable def NA (P:Params):BT:=AZ (boot_heap P).objs.toList 0 .nil
noncomputable def boot (w:World) (os:OsState):SharedT:=⟨NA w.params,11,{},#[],boot_drawn,boot_toks,os⟩
theorem boot_abs (w:World) (os:OsState):(boot w os).abs=⟨boot_heap w.params,#[],boot_drawn,boot_toks,os⟩:=by kernel_rfl
noncomputable abbrev Re:Program:=PySem.Challenge.pw_nu0074_01
noncomputable def seenQ {c a:Type} (f:Shared->c) (g:Shared->a) (h:Shared->Bool) (r:Option SharedT):Option (Bool×c×a):=match r with|some s=>some (h s.abs,f s.abs,g s.abs)|none=>none
theorem LeftO.T8 {p q:Program} {j:List Str} {E:Shared->Bool} {H:Type} {F:Shared->H} {J:World->H} {N:Nat} {g0:Bool} (B:treeTable=PySem.W.Fast.tw14364793385576792824) (e:opening p=plainProg p.main.scope.names) (Q:Nat.ble 600 N=true) (f:∀s,fenceModules? p s=some s) (run:∀w os,seenQ (openSeen q j (importedModules p.main.body) E g0) F (λs=>staticsOk (importedModules p.main.body) (boot_heap w.params) s.heap&&namesBound p s.heap&&gensDone s&&laidKept (boot_heap w.params) s.heap) (gi PySem.W.Fast.tw14364793385576792824 p w 11 (some (.ref 6)) N (boot w os) (topStub p))=some (true,openGood q j,J w)) (size:∀P:Params,((boot_heap P).isNs mainGlobals&&(#[]:Array GenState).size==0,(boot_heap P).objs.size,(boot_heap P).nsMap mainGlobals "__annotations__")=(true,11,some (.ref 6))):LeftO p q j E F J N g0:=λw=>by
 obtain ⟨⟨h,U,d,k,os⟩,e,L⟩:=YI.mp (boot_open e Q f w);obtain ⟨rfl,rfl,rfl,rfl⟩:h=boot_heap w.params/\U=#[]/\d=boot_drawn/\k=boot_toks:=by simpa using L
 obtain ⟨R,S,Z⟩:_/\_/\_:=by simpa only [Prod.mk.injEq] using size w.params
 have A:=run w os;cases y:gi PySem.W.Fast.tw14364793385576792824 p w 11 (some (.ref 6)) N (boot w os) (topStub p) with|none=>rw [y] at A;cases A|some s=>rw [y] at A;(obtain ⟨Y,l2,V⟩:_/\_/\_:=by simpa only [seenQ,Option.some.injEq,Prod.mk.injEq] using A);rw [<- D0] at y;have I:=yB y;rw [boot_abs,<- B] at I;unfold openEnds;rw [e];show Option.map _ (topFrom treeTable p w N _)=_;unfold topFrom;dsimp only;rw [R,S,Z];dsimp only;rw [I];dsimp only [Option.bind];rw [Y];dsimp only [Option.map];rw [l2,V]
theorem RE (P:Params):((boot_heap P).isNs mainGlobals&&(#[]:Array GenState).size==0,(boot_heap P).objs.size,(boot_heap P).nsMap mainGlobals "__annotations__")=(true,11,some (.ref 6)):=by kernel_rfl
end
section
set_option maxHeartbeats 0
noncomputable abbrev Fl:List Nat:=[0,2,3,4,5,7,8,9,10,11,12,13,14,15,16,17,19,20,21,22,24,25,26,28,29,31,32,33,35,36,37,38,39,40,41,42,43,44,45]
noncomputable def fC:Program:=view Re Fl
noncomputable abbrev dQ:OpenRow:=PySem.Challenge.rw_nu0074_01.row
theorem JN:opening Re=plainProg Re.main.scope.names:=by kernel_rfl
theorem Lc (s):fenceModules? Re s=some s:=by kernel_rfl
theorem TQ {d:Type} {f:Shared->d} {g c h:Shared->Bool} {r:Option SharedT} {a:d} (x:seenQ f g h r=some (true,a,true)) (y:seenQ f c h r=some (true,a,true)):seenQ f (λs=>g s&&c s) h r=some (true,a,true):=by induction r using Option.casesOn with|none=>exact nomatch x|some s=>injection x with x;injection y with y;injection x with e x;injection x with j l;injection y with _ y;injection y with _ k;show some (h s.abs,f s.abs,g s.abs&&c s.abs)=_;rw [e,j,l,k];rfl
theorem LU (w os):seenQ (openSeen fC [] (importedModules Re.main.body) (λ_=>true) true) Bt (λs=>staticsOk (importedModules Re.main.body) (boot_heap w.params) s.heap&&namesBound Re s.heap&&gensDone s&&laidKept (boot_heap w.params) s.heap) (gi PySem.W.Fast.tw14364793385576792824 Re w 11 (some (.ref 6)) 8112 (boot w os) (topStub Re))=some (true,openGood fC [],true):=by kernel_rfl
theorem FX (w os):seenQ (openSeen fC [] (importedModules Re.main.body) (λ_=>true) true) yG (λs=>staticsOk (importedModules Re.main.body) (boot_heap w.params) s.heap&&namesBound Re s.heap&&gensDone s&&laidKept (boot_heap w.params) s.heap) (gi PySem.W.Fast.tw14364793385576792824 Re w 11 (some (.ref 6)) 8112 (boot w os) (topStub Re))=some (true,openGood fC [],true):=by kernel_rfl
theorem Jh (w os):seenQ (openSeen fC [] (importedModules Re.main.body) (λ_=>true) true) pk (λs=>staticsOk (importedModules Re.main.body) (boot_heap w.params) s.heap&&namesBound Re s.heap&&gensDone s&&laidKept (boot_heap w.params) s.heap) (gi PySem.W.Fast.tw14364793385576792824 Re w 11 (some (.ref 6)) 8112 (boot w os) (topStub Re))=some (true,openGood fC [],true):=TQ (LU w os) (FX w os)
end
section
theorem dw i j m n (h:x+i<=y+j) (e:Nat.ble (m+j) (n+i)=true):x+m<=y+n:=by refine Nat.le_of_add_le_add_right (b:=i+j) ?_;rw [Nat.add_add_add_comm x m i j,Nat.add_comm i j,Nat.add_add_add_comm y n j i];exact hH h (d9 e)
theorem dc i j k l m n (h:x+i<=y+j) (a:y+k<=z+l) (e:Nat.ble (m+(j+l)) (n+(i+k))=true):x+m<=z+n:=by refine dw (i+k) (j+l) m n ?_ e;rw [<- Nat.add_assoc];refine be (hJ h k) ?_;rw [Nat.add_right_comm,Nat.add_comm j l,<- Nat.add_assoc];exact hJ a j
theorem lm c m d n (h:a<=k) (e:Nat.ble (c+m*k+d) n=true):c+m*a+d<=n:=be (hJ (ed (nz m h) c) d) (d9 e)
theorem dr i j (e:Nat.ble i j=true):x+i<=x+j:=ed (d9 e) x
theorem US {b:Nat} (c:a<b):¬a=b:=(u4 c)
theorem jP {b:Nat} (c:a<b):a≠b:=(u4 c)
theorem ku (c:a<=b):a+3<=b+3:=(dw (x:=a) (y:=b) 0 0 3 3 c rfl)
theorem lY (d:b<=20) (c:a<=b+3):a<900:=(dc (x:=a) (y:=b) (z:=0) 0 3 0 20 1 900 c d rfl)
theorem pW (c:a+8<=400):a+1<=400:=(dw (x:=a) (y:=0) 8 400 1 400 c rfl)
theorem qj:a+1+1<=a+2:=(dr 2 2 (x:=a) rfl)
theorem qk {a:Nat}:(a:Int)=1↔a=1:=Int.ofNat_inj (n:=1)
theorem sQ (d:6<=b) (c:a<5):a<b:=(dc (x:=a) (y:=0) (z:=b) 1 5 6 0 1 0 c d rfl)
theorem qe (d:5<=b) (c:a<5):a≠b:=(u4 (dc (x:=a) (y:=0) (z:=b) 1 5 5 0 1 0 c d rfl))
theorem qu (d:a+b=c) (e:b<c):a - 1+(b+1)=c:=by cases a with|zero=>exact absurd e (Da.mpr (fp (d.symm.trans (Nat.zero_add b))))|succ n=>exact (Nat.succ_add_eq_add_succ n b).symm.trans d
theorem tj (c:b=a) (d:¬b=1):a≠1:=(λe=>(d (On (dc (x:=b) (y:=a) (z:=0) 0 0 0 1 0 1 (fp c) (fp e) rfl) (dc (x:=0) (y:=a) (z:=b) 1 0 0 0 1 0 (fp e.symm) (fp c.symm) rfl))))
theorem tB (e:a=c+1) (d:c<=b):a<=b+1:=(dc (x:=a) (y:=c) (z:=b) 0 1 0 0 0 1 (fp e) d rfl)
theorem rd (c:b=a+1):a<=b:=(dw (x:=a) (y:=b) 1 0 0 0 (fp c.symm) rfl)
theorem tG (d:b<990) (c:a=b+1):a<1000:=(dc (x:=a) (y:=b) (z:=0) 0 1 1 990 1 1000 (fp c) d rfl)
theorem sf (e:a<c) (d:b=c+1):¬a=b:=(u4 (dc (x:=a) (y:=c) (z:=b) 1 0 1 0 1 0 e (fp d.symm) rfl))
theorem IH (c:6<=a):a≠5:=(BN c)
theorem wA {b:Nat} (d:a<b) (c:a=b):False:=(RI a (dc (x:=a) (y:=b) (z:=a) 1 0 0 0 1 0 d (fp c.symm) rfl))
theorem we (c:a<900):a<=1000:=(dw (x:=a) (y:=0) 1 900 0 1000 c rfl)
theorem tK (e:a+b=c) (d:b<c):a - 1<a:=by cases a with|zero=>exact absurd d (Da.mpr (fp (e.symm.trans (Nat.zero_add b))))|succ n=>exact fS n
theorem tC (c:a+2<b):a<b:=(dw (x:=a) (y:=b) 3 0 1 0 c rfl)
theorem sX {c:Nat} (e:c=b) (d:a<c):a<b:=(dc (x:=a) (y:=c) (z:=b) 1 0 0 0 1 0 d (fp e) rfl)
theorem xS (d:b=a) (c:b=1):a=1:=(On (dc (x:=a) (y:=b) (z:=0) 0 0 0 1 0 1 (fp d.symm) (fp c) rfl) (dc (x:=0) (y:=b) (z:=a) 1 0 0 0 1 0 (fp c.symm) (fp d) rfl))
theorem Dx (e:c=b+1) (d:b<=a) (g:a<c):a=b:=(On (dc (x:=a) (y:=c) (z:=b) 1 0 0 1 0 0 g (fp e) rfl) d)
theorem DL (e:a=b+1) (d:b<=c) (g:c<=400):a<900:=(dc (x:=a) (y:=c) (z:=0) 0 1 0 400 1 900 (dc (x:=a) (y:=b) (z:=c) 0 1 0 0 0 1 (fp e) d rfl) g rfl)
theorem Dg (c:b=a+1):¬a=b:=(u4 (fp c.symm))
theorem B3 (e:b<990) (d:c=b+1) (g:a<=c+1):a<1000:=(dc (x:=a) (y:=b) (z:=0) 0 2 1 990 1 1000 (dc (x:=a) (y:=c) (z:=b) 0 1 0 1 0 2 g (fp d) rfl) e rfl)
theorem xr (d:b<=20) (c:a<=b+3):a<=30:=(dc (x:=a) (y:=b) (z:=0) 0 3 0 20 0 30 c d rfl)
theorem Yu (c:6<=a):¬a=5:=(BN c)
theorem xP (c:6<=a):5<=a/\a<=a:=⟨(dw (x:=0) (y:=a) 6 0 5 0 c rfl),(dr 0 0 (x:=a) rfl)⟩
theorem D2 {a:Nat}:(a:Int)+1=((a+1:Nat):Int):=rfl
theorem Bm:a<=a+1+1:=(dr 0 2 (x:=a) rfl)
theorem BK (d:b<a) (c:a<=b+1):a=b+1:=(On c d)
theorem yv (e:c=b+1) (d:¬a=b) (g:a<c):a<b:=(Nat.lt_of_le_of_ne (dc (x:=a) (y:=c) (z:=b) 1 0 0 1 0 0 g (fp e) rfl) d)
theorem yY (j:c=d) (g:e=d) (l:a+1=c) (k:b+1=e):a=b:=(On (dc (x:=a) (y:=e) (z:=b) 1 0 0 1 0 0 (dc (x:=a) (y:=d) (z:=e) 1 0 0 0 1 0 (dc (x:=a) (y:=c) (z:=d) 1 0 0 0 1 0 (fp l) (fp j) rfl) (fp g.symm) rfl) (fp k.symm) rfl) (dc (x:=b) (y:=c) (z:=a) 1 0 0 1 0 0 (dc (x:=b) (y:=d) (z:=c) 1 0 0 0 1 0 (dc (x:=b) (y:=e) (z:=d) 1 0 0 0 1 0 (fp k) (fp g) rfl) (fp j.symm) rfl) (fp l.symm) rfl))
theorem zX (c:a<=b):2*a<=2*b:=nz 2 c
theorem VS (c:0<a):a - 1<a:=Nat.sub_lt c Nat.one_pos
theorem Ax (c:b<a):a - b=a -(b+1)+1:=(kP (Nat.sub_pos_of_lt c)).symm
theorem Ed (c:a+8<=400):a+1+1<=400:=(dw (x:=a) (y:=0) 8 400 2 400 c rfl)
theorem x9:a+1+1<=a+8:=(dr 2 8 (x:=a) rfl)
theorem BJ (d:a<=b+1) (c:b<=20):a<100:=(dc (x:=a) (y:=b) (z:=0) 0 1 0 20 1 100 d c rfl)
theorem DN (e:a=b) (d:c+1=b):0<a:=(dc (x:=0) (y:=b) (z:=a) 1 0 0 0 1 0 (dc (x:=0) (y:=c) (z:=b) 0 0 1 0 1 0 (Pc c) (fp d) rfl) (fp e.symm) rfl)
theorem zj {b:Nat} (c:¬b<a):a<=b:=(kQ c)
theorem C8 (c:a+8<=400):a+2<=400:=(dw (x:=a) (y:=0) 8 400 2 400 c rfl)
theorem yu (c:a+4*(b+1)<=901):a<1000:=wn (be (Pd ..) c) (by decide)
theorem A4 {c:Nat} (d:a=b):a<=b+c:=be (fp d) (Pd ..)
theorem yI (c:a<100):a - 1<1000:=wn (Nat.sub_le ..) (Nat.lt_trans c (by decide))
theorem zW (d:a+1<b) (c:a+1=b):False:=(RI a (dc (x:=a) (y:=b) (z:=a) 2 0 0 1 1 0 d (fp c.symm) rfl))
theorem CI {a:Int} (c:0<a):0<=a:=Int.le_of_lt c
theorem Dy {c:Nat} (d:c<c):a=b:=absurd d (RI _)
theorem Bh:a+1≠a:=(BN (dr 1 1 (x:=a) rfl))
theorem yX:a+2≠a:=(BN (dr 1 2 (x:=a) rfl))
theorem NF (c:a+8<=400):a+1+2<=400:=(dw (x:=a) (y:=0) 8 400 3 400 c rfl)
theorem NE (d:a<b) (c:b=0):False:=(RI 0 (dc (x:=0) (y:=b) (z:=0) 1 0 0 0 1 0 (dc (x:=0) (y:=a) (z:=b) 0 0 1 0 1 0 (Pc a) d rfl) (fp c) rfl))
theorem M7:a+1+2<=a+8:=(dr 3 8 (x:=a) rfl)
theorem PJ (d:a<=b+1) (c:b<=20):a+1<100:=(dc (x:=a) (y:=b) (z:=0) 0 1 0 20 2 100 d c rfl)
theorem IP (g:a=b) (e:c<=d+1) (k:d<=20) (j:b=c):a+1<100:=(dc (x:=a) (y:=d) (z:=0) 0 1 0 20 2 100 (dc (x:=a) (y:=c) (z:=d) 0 0 0 1 0 1 (dc (x:=a) (y:=b) (z:=c) 0 0 0 0 0 0 (fp g) (fp j) rfl) e rfl) k rfl)
theorem PY (d:b<=20) (c:a<=b+1):a+1<=30:=(dc (x:=a) (y:=b) (z:=0) 0 1 0 20 1 30 c d rfl)
theorem Es (c:5<=a):1≠a:=(u4 (dw (x:=0) (y:=a) 5 0 2 0 c rfl))
theorem Qx (c:5<=a):2≠a:=(u4 (dw (x:=0) (y:=a) 5 0 3 0 c rfl))
theorem Q5 (c:5<=a):3≠a:=(u4 (dw (x:=0) (y:=a) 5 0 4 0 c rfl))
theorem Xd (c:5<=a):4≠a:=(u4 c)
theorem Ge (d:a<=b) (c:b<=400):a+3<980:=(dc (x:=a) (y:=b) (z:=0) 0 0 0 400 4 980 d c rfl)
theorem HN:a<a+1:=(dr 1 1 (x:=a) rfl)
theorem GA:a<a+2:=(dr 1 2 (x:=a) rfl)
theorem X7:a<a+3:=(dr 1 3 (x:=a) rfl)
theorem Ij (g:c<=b) (e:c+2<d/\d<=c+4) (j:a=d+1):a<=b+5:=(dc (x:=a) (y:=c) (z:=b) 0 5 0 0 0 5 (dc (x:=a) (y:=d) (z:=c) 0 1 0 4 0 5 (fp j) e.2 rfl) g rfl)
theorem IL (e:a+2<c/\c<=a+4) (d:b=c+1):a<=b:=(dc (x:=a) (y:=c) (z:=b) 3 0 1 0 0 0 e.1 (fp d.symm) rfl)
theorem U2 (d:b<=20) (c:a<=b+1):a+1<=26:=(dc (x:=a) (y:=b) (z:=0) 0 1 0 20 1 26 c d rfl)
theorem IB (e:c<b) (d:5<=a/\a<=c):5<=a/\a<=b:=⟨d.1,(dc (x:=a) (y:=c) (z:=b) 0 0 1 0 0 0 d.2 e rfl)⟩
theorem QI:¬a+2=a:=(BN (dr 1 2 (x:=a) rfl))
theorem LX {b:Nat} (c:b<a):0<(a:Int) -(b:Int):=Int.sub_pos.mpr (ef.mpr c)
theorem Pj {b:Nat} (c:a<=b):(a:Int) -(b:Int)<=0:=Int.sub_nonpos_of_le (Int.ofNat_le.mpr c)
theorem PP {b:Nat} (d:a=b) (c:a<b):False:=(RI a (dc (x:=a) (y:=b) (z:=a) 1 0 0 0 1 0 c (fp d.symm) rfl))
theorem Ni (e:c<b) (d:5<=a/\a<=c):a≠b:=(u4 (dc (x:=a) (y:=c) (z:=b) 0 0 1 0 1 0 d.2 e rfl))
theorem Uu (c:5<a):5≠a:=(u4 c)
theorem Sw (d:a<5) (c:6<=b):a<b:=(dc (x:=a) (y:=0) (z:=b) 1 5 6 0 1 0 d c rfl)
theorem Rr (d:5<a) (c:1=a):False:=(RI 0 (dc (x:=0) (y:=a) (z:=0) 6 0 0 1 1 0 d (fp c.symm) rfl))
theorem GR (d:5<b) (c:a<5):a≠b:=(u4 (dc (x:=a) (y:=0) (z:=b) 1 5 6 0 1 0 c d rfl))
theorem AX (e:b<50) (d:a+c=b):a<50:=wn (be (Pd ..) (fp d)) e
theorem Xj {c:Nat} (d:a+c=b):a<=b:=be (Pd ..) (fp d)
theorem Qr (d:b - a=0) (c:a<=b):a=b:=On c (Nat.le_of_sub_eq_zero d)
theorem Nm (d:b - a=c+1):a<b:=Nat.lt_of_sub_pos (d▸dF c)
theorem X5 {c:Nat} (e:b=c) (d:a<c):a<b:=(dc (x:=a) (y:=c) (z:=b) 1 0 0 0 1 0 d (fp e.symm) rfl)
theorem Jl {c:Nat} (d:b<=c):min a b<=c:=be (Nat.min_le_right ..) d
theorem Sl (d:a - b=c+1):a -(b+1)=c:=(Nat.sub_succ ..).trans (l9 Nat.pred d)
theorem Yr (c:a+8<b):a+1+2<b:=(dw (x:=a) (y:=b) 9 0 4 0 c rfl)
theorem Sj:a - 0=a:=rfl
theorem NM (e:c+1=b) (d:a=c):a+1=b:=(On (dc (x:=a) (y:=c) (z:=b) 0 0 1 0 1 0 (fp d) (fp e) rfl) (dc (x:=b) (y:=c) (z:=a) 0 1 0 0 0 1 (fp e.symm) (fp d.symm) rfl))
theorem Yi {a:Int} (c:¬a<0):0<=a:=Int.not_lt.mp c
theorem Xu {a:Nat}:0<=8+(a:Int):=Int.add_nonneg (by decide) (Int.natCast_nonneg a)
theorem LZ {a:Nat} (c:a<9):8+(a:Int)<=1000:=Int.le_trans (Int.add_le_add_left (Int.ofNat_le.mpr (Co c)) 8) (by decide)
theorem Sv (d:b<100) (c:b=a):a<100:=(dc (x:=a) (y:=b) (z:=0) 0 0 1 100 1 100 (fp c.symm) d rfl)
theorem Fh {a b:Nat} (c:b=a):(a:Int) - 1=(b:Int) - 1:=by rw [c]
theorem TB (c:a<64):a<=16777216:=(dw (x:=a) (y:=0) 1 64 0 16777216 c rfl)
theorem EL (d:b<=20) (c:a<=2*b):a<=1000:=be c (be (nz 2 d) (by decide))
theorem HD (d:b<=20) (c:a<=b+3):a<=1000:=(dc (x:=a) (y:=b) (z:=0) 0 3 0 20 0 1000 c d rfl)
theorem Nz (c:a+8<=400):a+1+5<=400:=(dw (x:=a) (y:=0) 8 400 6 400 c rfl)
theorem Qm:a+1+5<=a+8:=(dr 6 8 (x:=a) rfl)
theorem Q3 {a:Nat} (c:¬a=0):¬(a:Int)=0:=λe=>c (Int.ofNat_inj.mp e)
theorem Qc {c:Nat} (e:c+a=b) (d:b<=a):a=b:=On (e▸e7 ..) d
theorem EF {a:Nat} (c:0<a):0<(a:Int):=ef.mpr c
theorem Vh {a b:Nat} (c:(a:Int)<(b:Int)):a<b:=ef.mp c
theorem Ga (c:0<a):a - 1+1=a:=kP c
theorem Fg (g:b+1=c) (e:a+1=d) (j:d=c):a=b:=(On (dc (x:=a) (y:=c) (z:=b) 1 0 0 1 0 0 (dc (x:=a) (y:=d) (z:=c) 1 0 0 0 1 0 (fp e) (fp j) rfl) (fp g.symm) rfl) (dc (x:=b) (y:=d) (z:=a) 1 0 0 1 0 0 (dc (x:=b) (y:=c) (z:=d) 1 0 0 0 1 0 (fp g) (fp j.symm) rfl) (fp e.symm) rfl))
theorem VL (e:b<=2*c) (d:a<=2):a+b<=2*(c+1):=be (hH d e) (fp (Nat.add_comm ..))
theorem LI (e:b<=c+1) (d:a=b) (g:c<=20):a<100:=(dc (x:=a) (y:=c) (z:=0) 0 1 0 20 1 100 (dc (x:=a) (y:=b) (z:=c) 0 0 0 1 0 1 (fp d) e rfl) g rfl)
theorem KJ (e:b<=20) (d:c<=b) (g:a<=2*c):a<=10000:=be g (be (nz 2 (be d e)) (by decide))
theorem X8 (j:c<=b) (g:a=d) (l:d<=e+1) (k:c=e):a<=b+1:=(dc (x:=a) (y:=c) (z:=b) 0 1 0 0 0 1 (dc (x:=a) (y:=e) (z:=c) 0 1 0 0 0 1 (dc (x:=a) (y:=d) (z:=e) 0 0 0 1 0 1 (fp g) l rfl) (fp k.symm) rfl) j rfl)
theorem Jg {a:Nat}:¬(a:Int)<0:=Int.not_lt.mpr (Int.natCast_nonneg a)
theorem LW (d:¬b=a) (c:¬b<a):a+1<=b:=(Nat.lt_of_le_of_ne (kQ c) (u8 d))
theorem W8 (d:a<=2*b) (c:b<=20):a<=1000:=be d (be (nz 2 c) (by decide))
theorem Qw (d:6<=b) (c:a=b+1):6<=a:=(dc (x:=0) (y:=b) (z:=a) 6 0 1 0 6 0 d (fp c.symm) rfl)
theorem Mw (g:a+1=c) (e:b=d) (j:c=d):a<b:=(dc (x:=a) (y:=d) (z:=b) 1 0 0 0 1 0 (dc (x:=a) (y:=c) (z:=d) 1 0 0 0 1 0 (fp g) (fp j) rfl) (fp e.symm) rfl)
theorem Om {b:Nat} (c:a≠b):(a:Int)≠(b:Int):=λe=>c (Int.ofNat_inj.mp e)
theorem Hh {a:Nat}:a<=a:=(dr 0 0 (x:=a) rfl)
theorem IG (g:b<1000) (e:c=d) (k:c=a) (j:d<=b+1):a<=1000:=(dc (x:=a) (y:=b) (z:=0) 0 1 1 1000 0 1000 (dc (x:=a) (y:=d) (z:=b) 0 0 0 1 0 1 (dc (x:=a) (y:=c) (z:=d) 0 0 0 0 0 0 (fp k.symm) (fp e) rfl) j rfl) g rfl)
theorem QC (e:b=c) (d:b=a) (g:c=1):a<=1000:=(dc (x:=a) (y:=c) (z:=0) 0 0 0 1 0 1000 (dc (x:=a) (y:=b) (z:=c) 0 0 0 0 0 0 (fp d.symm) (fp e) rfl) (fp g) rfl)
theorem Xe (c:0<a):¬a=0:=(BN c)
theorem PG:5<=5/\5<=5:=⟨(dr 5 5 (x:=0) rfl),(dr 5 5 (x:=0) rfl)⟩
theorem IM (c:a+1<1):False:=(RI 0 (dc (x:=0) (y:=a) (z:=0) 0 0 2 1 1 0 (Pc a) c rfl))
theorem U0 (c:a=2):a≠1:=(BN (fp c.symm))
theorem YH {b:Nat} (c:a=b):(a:Int)=(b:Int):=l9 _ c
theorem Yw {b:Nat} (c:¬a=b):¬(a:Int)=(b:Int):=λe=>c (Int.ofNat_inj.mp e)
theorem JH (e:b<=2) (d:a<=2*c):a+b<=2*(c+1):=hH d e
theorem PL (g:a=b) (e:c=b) (j:d+1=c) (k:d+1≠a):False:=(k (On (dc (x:=d) (y:=b) (z:=a) 1 0 0 0 1 0 (dc (x:=d) (y:=c) (z:=b) 1 0 0 0 1 0 (fp j) (fp e) rfl) (fp g.symm) rfl) (dc (x:=a) (y:=c) (z:=d) 0 0 0 1 0 1 (dc (x:=a) (y:=b) (z:=c) 0 0 0 0 0 0 (fp g) (fp e.symm) rfl) (fp j.symm) rfl)))
theorem PA (c:a<1000):a<=1048575:=(dw (x:=a) (y:=0) 1 1000 0 1048575 c rfl)
theorem Lg (e:c=b+1) (d:b+1<a) (g:a<=c+1):a=b+2:=(On (dc (x:=a) (y:=c) (z:=b) 0 1 0 1 0 2 g (fp e) rfl) d)
theorem UK (e:b=c+1) (d:a<c):¬a=b:=(u4 (dc (x:=a) (y:=c) (z:=b) 1 0 1 0 1 0 d (fp e.symm) rfl))
theorem XG (e:a<=b) (d:¬b=a) (j:c=a+1) (g:b<c):False:=(d (On (dc (x:=b) (y:=c) (z:=a) 1 0 0 1 0 0 g (fp j) rfl) e))
theorem YD (e:b<=a) (d:¬a=b) (j:c=b+2) (g:a<c):a=b+1:=(On (dc (x:=a) (y:=c) (z:=b) 1 0 0 2 0 1 g (fp j) rfl) (Nat.lt_of_le_of_ne e (u8 d)))
theorem Nt (e:c<a/\a<=c+2) (d:c<=b):a<=b+2:=(dc (x:=a) (y:=c) (z:=b) 0 2 0 0 0 2 e.2 d rfl)
theorem TH (d:6<=b) (c:b<a/\a<=b+2):6<=a:=(dc (x:=0) (y:=b) (z:=a) 6 0 1 0 6 0 d c.1 rfl)
theorem OB {c:Nat} (e:a=b) (d:c<b) (g:c=a):False:=(RI a (dc (x:=a) (y:=b) (z:=a) 1 0 0 0 1 0 (dc (x:=a) (y:=c) (z:=b) 0 0 1 0 1 0 (fp g.symm) d rfl) (fp e.symm) rfl))
theorem Iw {c:Nat} (e:a=b) (d:c=b) (g:c<a):False:=(RI a (dc (x:=a) (y:=c) (z:=a) 0 0 1 0 1 0 (dc (x:=a) (y:=b) (z:=c) 0 0 0 0 0 0 (fp e) (fp d.symm) rfl) g rfl))
theorem RO (d:5<=a/\a<=c) (e:c<b):5<=a/\a<=b:=⟨d.1,(dc (x:=a) (y:=c) (z:=b) 0 0 1 0 0 0 d.2 e rfl)⟩
theorem GP (j:c=d) (g:e=d) (l:a+1=e) (k:b+1=c):a=b:=(On (dc (x:=a) (y:=c) (z:=b) 1 0 0 1 0 0 (dc (x:=a) (y:=d) (z:=c) 1 0 0 0 1 0 (dc (x:=a) (y:=e) (z:=d) 1 0 0 0 1 0 (fp l) (fp g) rfl) (fp j.symm) rfl) (fp k.symm) rfl) (dc (x:=b) (y:=e) (z:=a) 1 0 0 1 0 0 (dc (x:=b) (y:=d) (z:=e) 1 0 0 0 1 0 (dc (x:=b) (y:=c) (z:=d) 1 0 0 0 1 0 (fp k) (fp j) rfl) (fp g.symm) rfl) (fp l.symm) rfl))
theorem X6 (g:a=b) (e:c=b) (k:d+1≠c) (j:d+1=a):False:=(k (On (dc (x:=d) (y:=b) (z:=c) 1 0 0 0 1 0 (dc (x:=d) (y:=a) (z:=b) 1 0 0 0 1 0 (fp j) (fp g) rfl) (fp e.symm) rfl) (dc (x:=c) (y:=a) (z:=d) 0 0 0 1 0 1 (dc (x:=c) (y:=b) (z:=a) 0 0 0 0 0 0 (fp e) (fp g.symm) rfl) (fp j.symm) rfl)))
theorem Kd {d:Nat} (g:a=b) (e:c=b) (k:d<c) (j:d=a):False:=(RI a (dc (x:=a) (y:=b) (z:=a) 1 0 0 0 1 0 (dc (x:=a) (y:=c) (z:=b) 1 0 0 0 1 0 (dc (x:=a) (y:=d) (z:=c) 0 0 1 0 1 0 (fp j.symm) k rfl) (fp e) rfl) (fp g.symm) rfl))
theorem Eu {d:Nat} (g:a=b) (e:c=b) (k:d=c) (j:d<a):False:=(RI a (dc (x:=a) (y:=d) (z:=a) 0 0 1 0 1 0 (dc (x:=a) (y:=c) (z:=d) 0 0 0 0 0 0 (dc (x:=a) (y:=b) (z:=c) 0 0 0 0 0 0 (fp g) (fp e.symm) rfl) (fp k.symm) rfl) j rfl))
theorem Lh (c:b<a):a≠0:=(BN (dc (x:=0) (y:=b) (z:=a) 0 0 1 0 1 0 (Pc b) c rfl))
theorem XT (d:0<a) (c:a<=0):False:=(RI 0 (dc (x:=0) (y:=a) (z:=0) 1 0 0 0 1 0 d c rfl))
theorem Nk (d:a<=b+1) (c:b<a):a=b+1:=(On d c)
theorem Hn (e:c=b+1) (d:a<=c+1):a<=b+1+1:=(dc (x:=a) (y:=c) (z:=b) 0 1 0 1 0 2 d (fp e) rfl)
theorem VO (e:c<=b+1) (d:c=a+2):¬a=b:=(u4 (dc (x:=a) (y:=c) (z:=b) 2 0 0 1 1 0 (fp d.symm) e rfl))
theorem QT (e:c=b+2) (d:a<=c+1):a<=b+2+1:=(dc (x:=a) (y:=c) (z:=b) 0 1 0 2 0 3 d (fp e) rfl)
theorem JF (g:c<=b+1) (e:c=d+3) (j:a<d):¬a=b:=(u4 (dc (x:=a) (y:=c) (z:=b) 4 0 0 1 1 0 (dc (x:=a) (y:=d) (z:=c) 1 0 3 0 4 0 j (fp e.symm) rfl) g rfl))
theorem SR (j:c<=b+1) (g:d<=c+1) (l:d=e+3) (k:a<e):¬a=b:=(u4 (dc (x:=a) (y:=c) (z:=b) 4 1 0 1 1 0 (dc (x:=a) (y:=d) (z:=c) 4 0 0 1 4 1 (dc (x:=a) (y:=e) (z:=d) 1 0 3 0 4 0 k (fp l.symm) rfl) g rfl) j rfl))
theorem J9 (g:a<c) (e:d<=b+1) (j:d=c+3):¬a=b:=(u4 (dc (x:=a) (y:=d) (z:=b) 4 0 0 1 1 0 (dc (x:=a) (y:=c) (z:=d) 1 0 3 0 4 0 g (fp j.symm) rfl) e rfl))
theorem RV (j:a<c) (g:d<=b+1) (l:e<=d+1) (k:e=c+3):¬a=b:=(u4 (dc (x:=a) (y:=d) (z:=b) 4 1 0 1 1 0 (dc (x:=a) (y:=e) (z:=d) 4 0 0 1 4 1 (dc (x:=a) (y:=c) (z:=e) 1 0 3 0 4 0 j (fp k.symm) rfl) l rfl) g rfl))
theorem M1 (e:c<=b+1) (d:c=a+3):¬a=b:=(u4 (dc (x:=a) (y:=c) (z:=b) 3 0 0 1 1 0 (fp d.symm) e rfl))
theorem KI (e:c<=b+1) (d:c=a+3):¬a+1=b:=(u4 (dc (x:=a) (y:=c) (z:=b) 3 0 0 1 2 0 (fp d.symm) e rfl))
theorem M8:¬a+1=a:=(BN (dr 1 1 (x:=a) rfl))
theorem KW {c:Nat} (e:b=c) (d:a<c):¬a=b:=(u4 (dc (x:=a) (y:=c) (z:=b) 1 0 0 0 1 0 d (fp e.symm) rfl))
theorem W0 (e:c=b) (d:a=c+1):a=b+1:=(On (dc (x:=a) (y:=c) (z:=b) 0 1 0 0 0 1 (fp d) (fp e) rfl) (dc (x:=b) (y:=c) (z:=a) 0 0 1 0 1 0 (fp e.symm) (fp d.symm) rfl))
theorem Sz (e:c+2<b) (d:a<c):a<b:=(dc (x:=a) (y:=c) (z:=b) 1 0 3 0 1 0 d e rfl)
theorem Fn (e:a<c) (d:c+2<b):a<b:=(dc (x:=a) (y:=c) (z:=b) 1 0 3 0 1 0 e d rfl)
theorem XC (e:b=c) (d:a+2<c):¬a=b:=(u4 (dc (x:=a) (y:=c) (z:=b) 3 0 0 0 1 0 d (fp e.symm) rfl))
theorem FZ:a+3≠a:=(BN (dr 1 3 (x:=a) rfl))
theorem Nf (e:c=b+3) (d:a<=c+1):a<=b+3+1:=(dc (x:=a) (y:=c) (z:=b) 0 1 0 3 0 4 d (fp e) rfl)
theorem K2 (e:c<=b+1) (d:c=a+4):¬a=b:=(u4 (dc (x:=a) (y:=c) (z:=b) 4 0 0 1 1 0 (fp d.symm) e rfl))
theorem Uy:a+2<a+4:=(dr 3 4 (x:=a) rfl)
theorem P4:a+2<a+3:=(dr 3 3 (x:=a) rfl)
theorem Ph {c:Nat} (e:c<=a) (d:b<c):a≠b:=(BN (dc (x:=b) (y:=c) (z:=a) 1 0 0 0 1 0 d e rfl))
theorem TU (j:a+1=c) (g:b+1=d) (l:c=e) (k:d=e):a=b:=(On (dc (x:=a) (y:=d) (z:=b) 1 0 0 1 0 0 (dc (x:=a) (y:=e) (z:=d) 1 0 0 0 1 0 (dc (x:=a) (y:=c) (z:=e) 1 0 0 0 1 0 (fp j) (fp l) rfl) (fp k.symm) rfl) (fp g.symm) rfl) (dc (x:=b) (y:=c) (z:=a) 1 0 0 1 0 0 (dc (x:=b) (y:=e) (z:=c) 1 0 0 0 1 0 (dc (x:=b) (y:=d) (z:=e) 1 0 0 0 1 0 (fp g) (fp k) rfl) (fp l.symm) rfl) (fp j.symm) rfl))
theorem HC (k:a+1≠b) (e:a+1=c) (j:b=d) (g:c=d):False:=(k (On (dc (x:=a) (y:=d) (z:=b) 1 0 0 0 1 0 (dc (x:=a) (y:=c) (z:=d) 1 0 0 0 1 0 (fp e) (fp g) rfl) (fp j.symm) rfl) (dc (x:=b) (y:=c) (z:=a) 0 0 0 1 0 1 (dc (x:=b) (y:=d) (z:=c) 0 0 0 0 0 0 (fp j) (fp g.symm) rfl) (fp e.symm) rfl)))
theorem Kx (e:b+1=c) (d:a=c):0<a:=(dc (x:=0) (y:=c) (z:=a) 1 0 0 0 1 0 (dc (x:=0) (y:=b) (z:=c) 0 0 1 0 1 0 (Pc b) (fp e) rfl) (fp d.symm) rfl)
theorem Nj (e:b<=c+1) (d:c<=20) (g:a=b):a<100:=(dc (x:=a) (y:=c) (z:=0) 0 1 0 20 1 100 (dc (x:=a) (y:=b) (z:=c) 0 0 0 1 0 1 (fp g) e rfl) d rfl)
theorem Ez (c:b+1=a):0<a:=(dc (x:=0) (y:=b) (z:=a) 0 0 1 0 1 0 (Pc b) (fp c) rfl)
theorem Py (c:5<a):¬a=5:=(BN c)
theorem J3 (d:5<a) (c:a=5):False:=(RI 0 (dc (x:=0) (y:=a) (z:=0) 6 0 0 5 1 0 d (fp c) rfl))
theorem YQ (e:a<=b) (d:b+1<=c) (g:a=c):False:=(RI a (dc (x:=a) (y:=c) (z:=a) 1 0 0 0 1 0 (dc (x:=a) (y:=b) (z:=c) 0 0 1 0 1 0 e d rfl) (fp g.symm) rfl))
theorem Rf (c:5<a):a≠5:=(BN c)
theorem Gr (e:a<=c+1/\c<=a) (d:c<=b):a<=b+1:=(dc (x:=a) (y:=c) (z:=b) 0 1 0 0 0 1 e.1 d rfl)
theorem M3 (c:b<=a+1/\a<=b):a<=b:=c.2
theorem JK {b:Nat} (c:b<a):a≠b:=(BN c)
theorem QG (d:b=1) (c:b=a):a=1:=(On (dc (x:=a) (y:=b) (z:=0) 0 0 0 1 0 1 (fp c.symm) (fp d) rfl) (dc (x:=0) (y:=b) (z:=a) 1 0 0 0 1 0 (fp d.symm) (fp c) rfl))
theorem Gg (d:a=b) (c:0<b) (e:0=a):False:=(RI 0 (dc (x:=0) (y:=a) (z:=0) 1 0 0 0 1 0 (dc (x:=0) (y:=b) (z:=a) 1 0 0 0 1 0 c (fp d.symm) rfl) (fp e.symm) rfl))
theorem Il (e:b=c) (d:c<=15) (g:a=b):a<=15:=(dc (x:=a) (y:=c) (z:=0) 0 0 0 15 0 15 (dc (x:=a) (y:=b) (z:=c) 0 0 0 0 0 0 (fp g) (fp e) rfl) d rfl)
theorem Kc (c:a=b+1):0<a:=(dc (x:=0) (y:=b) (z:=a) 0 0 1 0 1 0 (Pc b) (fp c.symm) rfl)
end
section
open PySem
theorem Runs.size_le (h:Runs M y p t fs s e j):s.heap.objs.size<=j.heap.objs.size:=by induction h<;>(try simp only [Shared.setGen,Heap.size_update,Heap.size_push] at*)<;>(first|assumption|exact Co (by assumption)|exact be (by assumption) (by assumption)|exact Hh)
theorem Wakes.size_le (h:Wakes M B p g r s res A):s.heap.objs.size<=A.heap.objs.size:=by
 revert h;unfold Wakes;generalize s.gens[g]? =x;haveI k:∀{B:Ctx} {p:Pos} {t:Sem Fin} {fs:List Frame},(∃j y,Runs M B p t fs (s.setGen g .running) j y/\j.quiet=true/\res=j.result/\A=y.setGen g j.genState)->s.heap.objs.size<=A.heap.objs.size:=by refine Cc λj y E Y Y=>?_;rintro rfl;exact (Runs.size_le E:(s.setGen g .running).heap.objs.size<=y.heap.objs.size)
 induction x using Option.casesOn with|none=>exact False.elim|some st=>induction st using GenState.casesOn with|fresh c=>(induction r using Resume.casesOn with|send v=>(induction v using Value.casesOn with|none=>exact k|_=>exact λh=>h.2▸lv _)|throw=>exact λh=>h.2▸lv s.heap.objs.size)|suspended=>exact k|_=>exact λh=>h.2▸lv _
theorem Pr M v n t:∀(Q:A->Pos->Shared->Prop) (E:Value->Pos->Shared->Prop) (p:Pos) (s:Shared),n<=s.heap.objs.size->Sem.wp M v t Q E p s->Sem.wp M v t (λa u l=>n<=l.heap.objs.size/\Q a u l) (λe u l=>n<=l.heap.objs.size/\E e u l) p s:=by induction t with|pure a=>intro Q E p s d h;exact ⟨d,h⟩|raise e=>intro Q E p s d h;exact ⟨d,h⟩|unsupported _=>intro Q E p s _ h;exact h|finish _=>intro Q E p s _ h;exact h|rule _ k j=>intro Q E p s d h;exact j () Q E p s d h|«at» u k j=>intro Q E p s d h;exact j () Q E u s d h|load a _ k j=>intro Q E p s d;refine ac λo z h=>?_;exact ⟨o,z,j o Q E p s d h⟩|update a _ f k j=>intro Q E p s d h;exact ⟨h.1,j () Q E p _ (by simpa only [Heap.size_update] using d) h.2⟩|loadIfAlive a k j=>intro Q E p s d h;exact j _ Q E p s d h|point _ k j=>intro Q E p s d h;exact j () Q E p s d h|register _ _=>intro Q E p s _ h;exact h|alloc o k j=>intro Q E p s d h;exact j _ Q E p _ (by simp only [Heap.size_push];exact nA d) h|fresh k j=>intro Q E p s d h;exact j _ Q E p _ d h|ask k j=>intro Q E p s d h;exact j _ Q E p s d h|choose Y6 m k j=>intro Q E p s d h;exact ⟨h.1,j _ Q E p _ d h.2⟩|os q _ k j=>intro Q E p s d h;exact j _ Q E p _ d h|call c hd _ _ k j=>intro Q E p s d;refine tz λr l x h=>?_;exact ⟨r,l,x,j r Q E p l (be d (Runs.size_le x)) h⟩|handled own k j=>intro Q E p s d h;exact j _ Q E p s d h|genState g k j=>intro Q E p s d;refine ac λst y h=>?_;exact ⟨st,y,j _ Q E p s d h⟩|newGen c k j=>intro Q E p s d h;exact j _ Q E p _ d h|resume g r _ k j=>intro Q E p s d;refine tz λres l w h=>?_;exact ⟨res,l,w,j res Q E p l (be d (Wakes.size_le w)) h⟩|yield _ _ _ _=>intro Q E p s _ h;exact h|stack k j=>intro Q E p s d h;exact j _ Q E p s d h|fork _ _=>intro Q E p s _ h;exact h|thread k j=>intro Q E p s d h;exact j _ Q E p s d h|await _ _ _ _ _=>intro Q E p s _ h;exact h
section
theorem Zp (h:wpAny M A t (λa c=>s.heap.objs.size<=c.heap.objs.size->Q a c) E s):wpAny M A t Q E s:=xe (show wpAny M A t (λa c=>s.heap.objs.size<=c.heap.objs.size/\(s.heap.objs.size<=c.heap.objs.size->Q a c)) (λe c=>s.heap.objs.size<=c.heap.objs.size/\E e c) s from λg p d=>Pr M g _ t _ _ p s (lv _) (h g p d)) (λ_ _ x=>x.2 x.1) λ_ _ x=>x.2
end
end
section
open PySem
theorem AE [Decidable c] {f:c->Bool} (h:(if e:c then f e else false)=true):∃e:c,f e=true:=by by_cases e:c;rw [dif_pos e] at h;exact ⟨e,h⟩;rw [dif_neg e] at h;injection h
@[elab_as_elim] theorem yK {x k} {P:Expr->Prop} (h:xu x k=true) (f:∀a b c,k a b c=true->P (.BoolOp a b c)):P x:=AT (AE h) λe h=>Expr.BoolOp.elim (motive_1:=λx=>(e:x.ctorIdx=0)->(Expr.BoolOp.elim x e k:Bool)=true->P x) x e (λa b c _ h=>f a b c h) e h
@[elab_as_elim] theorem Gx {x k} {P:Expr->Prop} (h:z7 x k=true) (f:∀a b c d,k a b c d=true->P (.BinOp a b c d)):P x:=AT (AE h) λe h=>Expr.BinOp.elim (motive_1:=λx=>(e:x.ctorIdx=2)->(Expr.BinOp.elim x e k:Bool)=true->P x) x e (λa b c d _ h=>f a b c d h) e h
@[elab_as_elim] theorem nX {x k} {P:Expr->Prop} (h:qw x k=true) (f:∀a b c,k a b c=true->P (.UnaryOp a b c)):P x:=AT (AE h) λe h=>Expr.UnaryOp.elim (motive_1:=λx=>(e:x.ctorIdx=3)->(Expr.UnaryOp.elim x e k:Bool)=true->P x) x e (λa b c _ h=>f a b c h) e h
@[elab_as_elim] theorem KG {x k} {P:Expr->Prop} (h:Cu x k=true) (f:∀a b c d,k a b c d=true->P (.Lambda a b c d)):P x:=AT (AE h) λe h=>Expr.Lambda.elim (motive_1:=λx=>(e:x.ctorIdx=4)->(Expr.Lambda.elim x e k:Bool)=true->P x) x e (λa b c d _ h=>f a b c d h) e h
@[elab_as_elim] theorem Q8 {x k} {P:Expr->Prop} (h:zY x k=true) (f:∀a b c d,k a b c d=true->P (.IfExp a b c d)):P x:=AT (AE h) λe h=>Expr.IfExp.elim (motive_1:=λx=>(e:x.ctorIdx=5)->(Expr.IfExp.elim x e k:Bool)=true->P x) x e (λa b c d _ h=>f a b c d h) e h
@[elab_as_elim] theorem AH {x k} {P:Expr->Prop} (h:vO x k=true) (f:∀a b c,k a b c=true->P (.Dict a b c)):P x:=AT (AE h) λe h=>Expr.Dict.elim (motive_1:=λx=>(e:x.ctorIdx=6)->(Expr.Dict.elim x e k:Bool)=true->P x) x e (λa b c _ h=>f a b c h) e h
@[elab_as_elim] theorem Dn {x k} {P:Expr->Prop} (h:wN x k=true) (f:∀a b c d,k a b c d=true->P (.ListComp a b c d)):P x:=AT (AE h) λe h=>Expr.ListComp.elim (motive_1:=λx=>(e:x.ctorIdx=8)->(Expr.ListComp.elim x e k:Bool)=true->P x) x e (λa b c d _ h=>f a b c d h) e h
@[elab_as_elim] theorem QB {x k} {P:Expr->Prop} (h:yV x k=true) (f:∀a b c d e,k a b c d e=true->P (.DictComp a b c d e)):P x:=AT (AE h) λe h=>Expr.DictComp.elim (motive_1:=λx=>(e:x.ctorIdx=10)->(Expr.DictComp.elim x e k:Bool)=true->P x) x e (λa b c d e _ h=>f a b c d e h) e h
@[elab_as_elim] theorem ql {x k} {P:Expr->Prop} (h:wg x k=true) (f:∀a b c d,k a b c d=true->P (.Compare a b c d)):P x:=AT (AE h) λe h=>Expr.Compare.elim (motive_1:=λx=>(e:x.ctorIdx=15)->(Expr.Compare.elim x e k:Bool)=true->P x) x e (λa b c d _ h=>f a b c d h) e h
@[elab_as_elim] theorem wd {x k} {P:Expr->Prop} (h:mU x k=true) (f:∀a b c d,k a b c d=true->P (.Call a b c d)):P x:=AT (AE h) λe h=>Expr.Call.elim (motive_1:=λx=>(e:x.ctorIdx=16)->(Expr.Call.elim x e k:Bool)=true->P x) x e (λa b c d _ h=>f a b c d h) e h
@[elab_as_elim] theorem pH {x k} {P:Expr->Prop} (h:mw x k=true) (f:∀a b c,k a b c=true->P (.Constant a b c)):P x:=AT (AE h) λe h=>Expr.Constant.elim (motive_1:=λx=>(e:x.ctorIdx=19)->(Expr.Constant.elim x e k:Bool)=true->P x) x e (λa b c _ h=>f a b c h) e h
@[elab_as_elim] theorem lI {x k} {P:Expr->Prop} (h:kh x k=true) (f:∀a b c,k a b c=true->P (.Attribute a b c)):P x:=AT (AE h) λe h=>Expr.Attribute.elim (motive_1:=λx=>(e:x.ctorIdx=20)->(Expr.Attribute.elim x e k:Bool)=true->P x) x e (λa b c _ h=>f a b c h) e h
@[elab_as_elim] theorem tQ {x k} {P:Expr->Prop} (h:qa x k=true) (f:∀a b c,k a b c=true->P (.Subscript a b c)):P x:=AT (AE h) λe h=>Expr.Subscript.elim (motive_1:=λx=>(e:x.ctorIdx=21)->(Expr.Subscript.elim x e k:Bool)=true->P x) x e (λa b c _ h=>f a b c h) e h
@[elab_as_elim] theorem cW {x k} {P:Expr->Prop} (h:cq x k=true) (f:∀a b,k a b=true->P (.Name a b)):P x:=AT (AE h) λe h=>Expr.Name.elim (motive_1:=λx=>(e:x.ctorIdx=23)->(Expr.Name.elim x e k:Bool)=true->P x) x e (λa b _ h=>f a b h) e h
@[elab_as_elim] theorem Uh {x k} {P:Expr->Prop} (h:D7 x k=true) (f:∀a b,k a b=true->P (.List a b)):P x:=AT (AE h) λe h=>Expr.List.elim (motive_1:=λx=>(e:x.ctorIdx=24)->(Expr.List.elim x e k:Bool)=true->P x) x e (λa b _ h=>f a b h) e h
@[elab_as_elim] theorem oE {x k} {P:Expr->Prop} (h:mh x k=true) (f:∀a b c,k a b c=true->P (.Tuple a b c)):P x:=AT (AE h) λe h=>Expr.Tuple.elim (motive_1:=λx=>(e:x.ctorIdx=25)->(Expr.Tuple.elim x e k:Bool)=true->P x) x e (λa b c _ h=>f a b c h) e h
@[elab_as_elim] theorem OG {x k} {P:Expr->Prop} (h:y6 x k=true) (f:∀a b c d,k a b c d=true->P (.Slice a b c d)):P x:=AT (AE h) λe h=>Expr.Slice.elim (motive_1:=λx=>(e:x.ctorIdx=26)->(Expr.Slice.elim x e k:Bool)=true->P x) x e (λa b c d _ h=>f a b c d h) e h
@[elab_as_elim] theorem z8 {x k} {P:Stmt->Prop} (h:uw x k=true) (f:∀a b,k a b=true->P (.Return a b)):P x:=AT (AE h) λe h=>Stmt.Return.elim (motive_2:=λx=>(e:x.ctorIdx=3)->(Stmt.Return.elim x e k:Bool)=true->P x) x e (λa b _ h=>f a b h) e h
@[elab_as_elim] theorem CW {x k} {P:Stmt->Prop} (h:vj x k=true) (f:∀a b c,k a b c=true->P (.Assign a b c)):P x:=AT (AE h) λe h=>Stmt.Assign.elim (motive_2:=λx=>(e:x.ctorIdx=5)->(Stmt.Assign.elim x e k:Bool)=true->P x) x e (λa b c _ h=>f a b c h) e h
@[elab_as_elim] theorem V9 {x k} {P:Stmt->Prop} (h:Eb x k=true) (f:∀a b c d,k a b c d=true->P (.AugAssign a b c d)):P x:=AT (AE h) λe h=>Stmt.AugAssign.elim (motive_2:=λx=>(e:x.ctorIdx=7)->(Stmt.AugAssign.elim x e k:Bool)=true->P x) x e (λa b c d _ h=>f a b c d h) e h
@[elab_as_elim] theorem SQ {x k} {P:Stmt->Prop} (h:Ag x k=true) (f:∀a b c d e,k a b c d e=true->P (.For a b c d e)):P x:=AT (AE h) λe h=>Stmt.For.elim (motive_2:=λx=>(e:x.ctorIdx=9)->(Stmt.For.elim x e k:Bool)=true->P x) x e (λa b c d e _ h=>f a b c d e h) e h
@[elab_as_elim] theorem PX {x k} {P:Stmt->Prop} (h:D1 x k=true) (f:∀a b c d,k a b c d=true->P (.While a b c d)):P x:=AT (AE h) λe h=>Stmt.While.elim (motive_2:=λx=>(e:x.ctorIdx=11)->(Stmt.While.elim x e k:Bool)=true->P x) x e (λa b c d _ h=>f a b c d h) e h
@[elab_as_elim] theorem Xn {x k} {P:Stmt->Prop} (h:Cj x k=true) (f:∀a b c d,k a b c d=true->P (.If a b c d)):P x:=AT (AE h) λe h=>Stmt.If.elim (motive_2:=λx=>(e:x.ctorIdx=12)->(Stmt.If.elim x e k:Bool)=true->P x) x e (λa b c d _ h=>f a b c d h) e h
@[elab_as_elim] theorem J6 {x k} {P:Stmt->Prop} (h:zR x k=true) (f:∀a b c,k a b c=true->P (.Raise a b c)):P x:=AT (AE h) λe h=>Stmt.Raise.elim (motive_2:=λx=>(e:x.ctorIdx=16)->(Stmt.Raise.elim x e k:Bool)=true->P x) x e (λa b c _ h=>f a b c h) e h
@[elab_as_elim] theorem wK {x k} {P:Stmt->Prop} (h:n8 x k=true) (f:∀a b,k a b=true->P (.Expr a b)):P x:=AT (AE h) λe h=>Stmt.Expr.elim (motive_2:=λx=>(e:x.ctorIdx=24)->(Stmt.Expr.elim x e k:Bool)=true->P x) x e (λa b _ h=>f a b h) e h
@[elab_as_elim] theorem yd {x k} {P:Const->Prop} (h:onStr x k=true) (f:∀a,k a=true->P (.str a)):P x:=AT (AE h) λe h=>Const.str.elim (motive:=λx=>(e:x.ctorIdx=5)->(Const.str.elim x e k:Bool)=true->P x) x e (λa _ h=>f a h) e h
@[elab_as_elim] theorem Ap {x k} {P:Const->Prop} (h:uo x k=true) (f:∀a,k a=true->P (.int a)):P x:=AT (AE h) λe h=>Const.int.elim (motive:=λx=>(e:x.ctorIdx=2)->(Const.int.elim x e k:Bool)=true->P x) x e (λa _ h=>f a h) e h
@[elab_as_elim] theorem yZ {x k} {P:Const->Prop} (h:sO x k=true) (f:∀a,k a=true->P (.bool a)):P x:=AT (AE h) λe h=>Const.bool.elim (motive:=λx=>(e:x.ctorIdx=1)->(Const.bool.elim x e k:Bool)=true->P x) x e (λa _ h=>f a h) e h
@[elab_as_elim] theorem Nl {k} {P:List c->Prop} (h:NH l k=true) (f:∀a,k a=true->P [a]):P l:=by induction l using List.casesOn with|nil=>injection h|cons a r=>induction r using List.casesOn with|nil=>exact f a h|cons=>injection h
@[elab_as_elim] theorem dj {k} {P:List c->Prop} (h:dJ l k=true) (f:∀a b,k a b=true->P [a,b]):P l:=by induction l using List.casesOn with|nil=>injection h|cons a r=>induction r using List.casesOn with|nil=>injection h|cons b r=>induction r using List.casesOn with|nil=>exact f a b h|cons=>injection h
@[elab_as_elim] theorem AM {k} {P:Option c->Prop} (h:AS o k=true) (f:∀a,k a=true->P (some a)):P o:=by induction o using Option.casesOn with|none=>injection h|some a=>exact f a h
theorem Cy:∀{a b:List Nat},lB a b=true->a=b| [],[],_=>rfl| [],_::_,h=>nomatch h|_::_,[],h=>nomatch h|a::r,x::y,h=>by haveI c:=nE.mp h;rw [ej c.1,Cy c.2]
theorem CJ:∀a:List Nat,lB a a=true| []=>rfl|a::r=>nE.mpr ⟨Nat.beq_refl a,CJ r⟩
theorem cj {a:Str} (h:sB a b=true):a=b:=by obtain ⟨⟨a⟩⟩:=a;obtain ⟨⟨b⟩⟩:=b;rw [show a=b from Cy h]
theorem ml {a:Str} (h:sB a b=false):a≠b:=λe=>by rw [e] at h;exact absurd ((CJ _).symm.trans h) (by decide)
theorem aL (h:(a&&b)=true):a=true:=(nE.mp h).1
theorem aR (h:(a&&b)=true):b=true:=(nE.mp h).2
@[elab_as_elim] theorem T0 {a:Str} {P:Str->Prop} (h:(sB a b&&k)=true) (f:k=true->P b):P a:=Eq.mpr (l9 P (cj (aL h))) (f (aR h))
@[elab_as_elim] theorem s7 {x k} {P:Expr->Prop} (h:ot x k=true) (f:∀s a b,k s=true->P (.Constant (.str s) a b)):P x:=pH h λ_ a b h=>yd (P:=λc=>P (.Constant c a b)) h λs h=>f s a b h
@[elab_as_elim] theorem uW {n:Int} {P:Expr->Prop} (h:oU n e=true) (f:∀k p,P (.Constant (.int n) k p)):P e:=pH h λc k p h=>Ap (P:=λc=>P (.Constant c k p)) h λi h=>by rw [show i=n from ue h];exact f k p
@[elab_as_elim] theorem q7 {P:Expr->Prop} (h:pF e=true) (f:∀k p q,P (.UnaryOp .USub (.Constant (.int 1) k p) q)):P e:=nX h λop a q h=>by rw [show op= .USub from ue (aL h)];exact uW (aR h) λk p=>f k p q
end
set_option backward.eqns.nonrecursive false in noncomputable def Loc.tag:Loc->Nat| .tree=>0| .aV=>1| .node _=>2| .ch _=>3| .at' _=>4| .ns _=>5| .res=>6| .au=>7| .has=>8| .pend _=>9| .src=>10| .ag=>11| .el _=>12| .ea _=>13| .ec _=>14| .aD .. =>15| .code _=>16
noncomputable def Loc.i1:Loc->Nat| .tree=>0| .aV=>0| .node i=>i| .ch i=>i| .at' i=>i| .ns i=>i| .res=>0| .au=>0| .has=>0| .pend i=>i| .src=>0| .ag=>0| .el i=>i| .ea i=>i| .ec i=>i| .aD i _=>i| .code i=>i
noncomputable def Loc.i2:Loc->Nat| .tree=>0| .aV=>0| .node _=>0| .ch _=>0| .at' _=>0| .ns _=>0| .res=>0| .au=>0| .has=>0| .pend _=>0| .src=>0| .ag=>0| .el _=>0| .ea _=>0| .ec _=>0| .aD _ k=>k| .code _=>0
noncomputable def Loc.beq (x y:Loc):Bool:=bif x.tag==y.tag then x.i1==y.i1&&x.i2==y.i2 else false
noncomputable def Loc.Fp (t i k:Nat):Loc:=[.tree,.aV,.node i,.ch i,.at' i,.ns i,.res,.au,.has,.pend i,.src,.ag,.el i,.ea i,.ec i,.aD i k,.code i].getD t .tree
theorem Loc.yW x:Fp x.tag x.i1 x.i2=x:=by induction x using Loc.casesOn<;>rfl
theorem Loc.yh (x:Loc):x.beq x=true:=by simp [beq]
theorem Loc.DZ {x:Loc} (h:x.beq y=true):x=y:=by unfold beq at h;cases e:x.tag==y.tag<;>rw [e] at h;injection h;haveI j:(x.i1==y.i1&&x.i2==y.i2)=true:=h;rw [Bool.and_eq_true] at j;rw [<- yW x,eq_of_beq e,eq_of_beq j.1,eq_of_beq j.2,yW]
noncomputable instance:DecidableEq Loc:=λx y=>if h:x.beq y=true then .isTrue (Loc.DZ h) else .isFalse λe=>h (e▸Loc.yh x)
inductive OV where|list (l:List MV)|inst (c:Addr) (fs:List (Nat×MV))|aM (ks:List Str) (vs:List MV)|aT (ks:List (List Str)) (vs:List MV)|j0 (ks:List Int) (vs:List MV)|tab (P:Addr) (q:Str)
abbrev GH:=Loc->Option OV
structure G where
 ι:Loc->Addr
 δ:Loc->Addr
 C:GH
 pv:List Addr
def G.aH (g:G) (l:Loc) (a:Addr):Prop:=(g.C l).isSome=true/\(a=g.ι l\/a=g.δ l)
def G.aK (g:G) (a:Addr):Prop:=(∃l,g.aH l a)\/a∈g.pv
noncomputable abbrev Cn (a:List Value) (n:Nat):Obj:=⟨.type "list",none,.seq a.toArray n,#[]⟩
noncomputable abbrev nO (c:List Value) (n:Nat) (d:Option Addr) (a:Array (Option Value)):Obj:=⟨.type "tuple",d,.seq c.toArray n,a⟩
section
variable (ao:Program) (w:World)
mutual
def VR (g:G) (h:Heap):MV->Value->Prop
 | .none,v=>v= .none
 | .bool b,v=>v= .bool b
 | .int i,v=>∃t,v= .int i t
 | .str s,v=>∃t,v= .str s t
 | .af l,v=>v= .ref (g.ι l)/\(g.C l).isSome=true
 | .tup l,v=>∃a n d o e,v= .ref a/\h.get? a=some (nO e n d o)/\¬g.aK a/\br g h l e
 | .lst l,v=>∃a n e,v= .ref a/\h.get? a=some (Cn e n)/\¬g.aK a/\br g h l e
 | .aQ k j,v=>∃a c,v= .ref a/\h.DictOf (strKind ao w) a c/\sysModules<a/\¬g.aK a/\c.map (·.1)=k/\br g h j (c.map (·.2))
 | .bq k j,v=>∃a c,v= .ref a/\h.DictOf (intKind ao w) a c/\sysModules<a/\¬g.aK a/\c.map (·.1)=k/\br g h j (c.map (·.2))
 | .bb k j,v=>∃a m,v= .ref a/\h.DictOfH (tupleKind (strKind ao w)) a m/\sysModules<a/\¬g.aK a/\m.map (·.1)=k/\br g h j (m.map (·.2.2))
def br (g:G) (h:Heap):List MV->List Value->Prop
 | [],a=>a=[]
 |m::l,a=>∃v r,a=v::r/\VR g h m v/\br g h l r
end
def qm (g:G) (h:Heap) (q:Str) (d:Value):Prop:=∃c o a t,d= .ref c/\h.get? c=some o/\o.cls= .type "code" /\o.data= .fields a/\a[1]? =some (.str q t)/\¬g.aK c
def EM (g:G) (h:Heap) (l:Loc):OV->Prop| .list d=>g.δ l=g.ι l/\∃n o,h.get? (g.ι l)=some (Cn o n)/\br ao w g h d o| .inst c p=>g.δ l≠g.ι l/\∃r a,h.get? (g.ι l)=some ⟨.ref c,some (g.δ l),.plain,r⟩/\h.DictOf (strKind ao w) (g.δ l) a/\a.map (·.1)=p.map (λf=>wT f.1)/\br ao w g h (p.map (·.2)) (a.map (·.2))| .aM e d=>g.δ l=g.ι l/\∃a,h.DictOf (strKind ao w) (g.ι l) a/\a.map (·.1)=e/\br ao w g h d (a.map (·.2))| .aT e d=>g.δ l=g.ι l/\∃k,h.DictOfH (tupleKind (strKind ao w)) (g.ι l) k/\k.map (·.1)=e/\br ao w g h d (k.map (·.2.2))| .j0 e d=>g.δ l=g.ι l/\∃a,h.DictOf (intKind ao w) (g.ι l) a/\a.map (·.1)=e/\br ao w g h d (a.map (·.2))| .tab P q=>g.δ l=g.ι l/\g.ι l=P/\∃j,h.get? P=some (tabObj j)/\TriplesOk j.toList/\∀pos m,codeAmong pos j.toList=some m->qm g h q m
def P3 (o:Obj):Prop:=o.cls= .type "tuple" /\∃a n,o.data= .seq a n/\∀v∈a.toList,∃s t,v= .str s t
theorem P3.not {o:Obj} (h:o.cls≠ .type "tuple"):¬P3 o:=λq=>h q.1
structure f8 (dL:Heap) (g:G) (h:Heap):Prop where
 at_:∀l ov,g.C l=some ov->EM ao w g h l ov
 inj:∀l l' a,g.aH l a->g.aH l' a->l=l'
 above:∀l a,g.aH l a->dL.get? a=none/\(dL.objs.size<=a\/sysModules<a)
 base:dL.StaysIn h
 sz:dL.objs.size<=h.objs.size
 aG:∀a∈g.pv,(∀l,¬g.aH l a)/\dL.objs.size<=a/\∃o,h.get? a=some o/\o.cls≠ .type "frame" /\¬P3 o/\∀v,o.data≠ .cell v
structure ga (S:Addr->Prop) (g:G) (h:Heap) (g':G) (h':Heap):Prop where
 keep:∀a o,h.get? a=some o->¬g.aK a->¬S a->h'.get? a=some o\/(o.cls= .type "frame" /\∃sl,h'.get? a=some {o with slots:=sl})
 af:∀l,(g.C l).isSome=true->(g'.C l).isSome=true/\g'.ι l=g.ι l/\g'.δ l=g.δ l
 new:∀l a,g.C l=none->g'.aH l a->h.objs.size<=a
 size:h.objs.size<=h'.objs.size
 pv:g'.pv=g.pv
 aY:∀a o,a∈g.pv->(∀l,¬g.aH l a)->h.get? a=some o->¬S a->h'.get? a=some o
theorem ga.refl S g h:ga S g h g h:=⟨λ_ _ e _ _=> .inl e,λ_ e=>⟨e,rfl,rfl⟩,λ_ _ e o=>(by have:=o.1;rw [e] at this;injection this),lv _,rfl,λ_ _ _ _ e _=>e⟩
theorem ga.wY (x:ga S g h y B) (hn:∀l,¬g.aH l a) (hl:a<h.objs.size):∀l,¬y.aH l a:=by intro l;refine aa λA j=>?_;cases hc:g.C l with|none=>exact absurd hl (Da.mpr (x.new l a hc ⟨A,j⟩))|some E=>refine im (λY e1 e2=>?_) (x.af l (by rw [hc];rfl));exact hn l ⟨by rw [hc];rfl,by rw [<- e1,<- e2];exact j⟩
theorem ga.own (x:ga S g h j y) (hn:¬g.aK a) (hl:a<h.objs.size):¬j.aK a:=by rintro (⟨l,q⟩|q);exact x.wY (λl q=>hn (.inl ⟨l,q⟩)) hl l q;exact hn (.inr (x.pv▸q))
theorem ga.trans (x:ga S g h L Q) (y:ga S L Q H I):ga S g h H I:=by
 refine ⟨λa o e hn B=>?_,λl hl=>?_,λl a hc N=>?_,be x.size y.size,y.pv.trans x.pv,λa o hp hn e B=>?_⟩;haveI E:=x.own hn (r8 e);refine to (x.keep a o e hn B) (λF=>?_) λt=>?_;exact y.keep a o F E B;revert t;refine aa λhc=>am λU F=>?_;rcases y.keep a _ F E B with j|t;exact .inr ⟨hc,U,j⟩;revert t;refine aa λY=>am λJ j=>?_;exact .inr ⟨hc,J,j⟩;refine im (λV R P=>?_) (x.af l hl);refine im (λb1 b2 b3=>?_) (y.af l V);exact ⟨b1,b2.trans R,b3.trans P⟩;cases A:L.C l with|none=>exact be x.size (y.new l a A N)|some Z=>refine im (λb1 b2 b3=>?_) (y.af l (by rw [A];rfl));exact x.new l a hc ⟨by rw [A];rfl,by rw [<- b2,<- b3];exact N.2⟩
 exact y.aY a o (x.pv▸hp) (x.wY hn (r8 e)) (x.aY a o hp hn e B) B
theorem ga.mono (x:ga S g h A E) (y:∀a,S a->B a):ga B g h A E:=⟨λa o e hn j=>x.keep a o e hn λq=>j (y a q),x.af,x.new,x.size,x.pv,λa o hp hn e j=>x.aY a o hp hn e λq=>j (y a q)⟩
theorem ga.young (x:ga S g h y A) (j:∀a,S a->h.objs.size<=a):ga (λ_=>False) g h y A:=⟨λa o e hn _=>x.keep a o e hn λq=>absurd (r8 e) (Da.mpr (j a q)),x.af,x.new,x.size,x.pv,λa o hp hn e _=>x.aY a o hp hn e λq=>absurd (r8 e) (Da.mpr (j a q))⟩
def bA (S:Addr->Prop) (g:G) (h:Heap):Prop:=∀a o,S a->h.get? a=some o->o.cls= .type "frame" \/(∃v,o.data= .cell v)\/a∈g.pv
end
theorem Heap.iH {K:Type} [DecidableEq K] {j:KeyKind E w K} {h F:Heap} {y:List (K×Value)} (x:h.DictOf j a y) (e:∀o A B,h.get? a=some o->o.cls= .type "dict" ->o.data= .dict A B->F.get? a=some o):F.DictOf j a y:=let ⟨o,A,B,H,he,hd,r⟩:=x;⟨o,A,B,e o A B H he.1 hd,he,hd,r⟩
section
variable {ao:Program} {w:World}
def fG (o:Obj):Prop:=o.cls= .type "list" \/o.cls= .type "tuple" \/o.cls= .type "dict" \/o.cls= .type "code"
theorem fG.l {o:Obj} (h:o.cls= .type "list"):fG o:= .inl h
theorem fG.t {o:Obj} (h:o.cls= .type "tuple"):fG o:= .inr (.inl h)
theorem fG.d {o:Obj} (h:o.cls= .type "dict"):fG o:= .inr (.inr (.inl h))
theorem fG.c {o:Obj} (h:o.cls= .type "code"):fG o:= .inr (.inr (.inr h))
structure Mv (g:G) (h:Heap) (g':G) (h':Heap):Prop where
 af:∀l,(g.C l).isSome=true->(g'.C l).isSome=true/\g'.ι l=g.ι l
 keep:∀a o,h.get? a=some o->¬g.aK a->o.cls≠ .type "frame" ->(∀v,o.data≠ .cell v)->fG o->h'.get? a=some o/\¬g'.aK a
 tup:∀a o,h.get? a=some o->P3 o->¬g.aK a
theorem ga.at {S:Addr->Prop} {g y:G} (x:ga S g h y E) (F:bA S g h) (e:h.get? a=some o) (hn:¬g.aK a) (j:o.cls≠ .type "frame") (A:∀v,o.data≠ .cell v):E.get? a=some o:=by rcases x.keep a o e hn (λq=>(F a o q e).elim j λz=>z.elim (λ⟨v,z⟩=>A v z) λz=>hn (.inr z)) with B|⟨q,_⟩;exact B;exact absurd q j
theorem ga.mv {S:Addr->Prop} {g j:G} (x:ga S g h j E) (F:bA S g h) (y:∀a o,h.get? a=some o->P3 o->¬g.aK a):Mv g h j E:=⟨λl hl=>let ⟨a,b,_⟩:=x.af l hl;⟨a,b⟩,λa o e hn A B _=>⟨x.at F e hn A B,x.own hn (r8 e)⟩,y⟩
theorem FA (h:ItemsAre (strKind ao w) j g):∀v∈g,∃s t,v=Value.str s t:=by induction h with|nil=>intro v a;cases a|cons c _ d=>intro v a;rcases LB.mp a with rfl|a;refine am (λt e=>?_) (Value.isStrOf_shape c);exact ⟨_,t,e⟩;exact d v a
theorem Mv.qB {g:G} (x:Mv g h B A) (hk:IsTupleKey (strKind ao w) h k a):IsTupleKey (strKind ao w) A k a:=by revert hk;refine l6 λo j n y hc=>aa λhd r=>?_;exact ⟨o,j,n,(x.keep a o y (x.tup a o y ⟨hc,j,n,hd,FA r⟩) (by rw [hc];simp) (by rw [hd];simp) (.t hc)).1,hc,hd,r⟩
theorem qm.mv {g j:G} {A:Heap} (x:Mv g h j A) (y:qm g h q E):qm j A q E:=by revert y;refine xw λc o H t e=>gY λF hc hd B hn=>?_;refine aa (λa b=>?_) (x.keep c o F hn (by rw [hc];simp) (by rw [hd];simp) (.c hc));exact ⟨c,o,H,t,e,a,hc,hd,B,b⟩
theorem f8.tF {g:G} (R:f8 ao w L g h) (e:h.get? a=some o) (A:∃l,g.aH l a):(o.cls= .type "list" /\∃x n,o.data= .seq x n)\/(o.cls= .type "dict" /\∃x n,o.data= .dict x n)\/((∃c,o.cls= .ref c)/\o.data= .plain)\/(o.cls= .none/\∃x,o.data= .fields x/\TriplesOk x.toList):=by revert A;refine ac λl U A=>?_;refine am (λQ J=>?_) (qE.mp U);have:=R.at_ l Q J;induction Q using OV.casesOn with|list H=>revert this;refine aa λq=>tz λn V I Y=>?_;(have:a=g.ι l:=by rcases A with r|r;exact r;exact r.trans q);rw [this,I] at e;obtain rfl:=an e;exact .inl ⟨rfl,_,_,rfl⟩|inst c fs=>revert this;refine aa λY=>pi λZ B I hd Y=>?_;rcases A with r|r;rw [r,I] at e;obtain rfl:=an e;exact .inr (.inr (.inl ⟨⟨c,rfl⟩,rfl⟩));revert hd;refine l6 λF Y Y j E=>aa λy Y=>?_;rw [r,j] at e;obtain rfl:=an e;exact .inr (.inl ⟨E.1,_,_,y⟩)|aM ks H=>revert this;refine aa λq=>ac λB hd Y=>?_;(have:a=g.ι l:=by rcases A with r|r;exact r;exact r.trans q);revert hd;refine l6 λF Y Y j E=>aa λy Y=>?_;rw [this,j] at e;obtain rfl:=an e;exact .inr (.inl ⟨E.1,_,_,y⟩)|aT ks H=>revert this;refine aa λq=>ac λB hd Y=>?_;(have:a=g.ι l:=by rcases A with r|r;exact r;exact r.trans q);revert hd;refine l6 λF Y Y j E=>aa λy Y=>?_;rw [this,j] at e;obtain rfl:=an e;exact .inr (.inl ⟨E.1,_,_,y⟩)|j0 ks H=>revert this;refine aa λq=>ac λB hd Y=>?_;(have:a=g.ι l:=by rcases A with r|r;exact r;exact r.trans q);revert hd;refine l6 λF Y Y j E=>aa λy Y=>?_;rw [this,j] at e;obtain rfl:=an e;exact .inr (.inl ⟨E.1,_,_,y⟩)|tab P q=>revert this;refine im λq N=>nw λps S ht Y=>?_;(have:a=P:=by rcases A with r|r;exact r.trans N;exact (r.trans q).trans N);rw [this,S] at e;obtain rfl:=an e;exact .inr (.inr (.inr ⟨rfl,_,rfl,ht⟩))
theorem f8.v9 {g:G} (R:f8 ao w B g h) (e:h.get? a=some o) (j:g.aK a):o.cls≠ .type "frame" /\¬P3 o/\∀v,o.data≠ .cell v:=by refine to j (λj=>?_) λj=>?_;rcases R.tF e j with ⟨z,_,_,y⟩|⟨z,_,_,y⟩|⟨⟨c,z⟩,y⟩|⟨z,_,y,_⟩<;>exact ⟨by rw [z];simp,P3.not (by rw [z];simp),by rw [y];simp⟩;refine im (λY Y=>ac λE A c=>?_) (R.aG a j);rw [e] at A;obtain rfl:=an A;exact c
theorem f8.cE {g:G} (R:f8 ao w j g h) a o (e:h.get? a=some o) (hc:P3 o):¬g.aK a:=λq=>(R.v9 e q).2.1 hc
theorem eG (h:a≠b):Value.type a≠ .type b:=λe=>h (by injection e)
mutual
theorem VR.mv {g J:G} {h Q:Heap} (x:Mv g h J Q):∀{m:MV} {v:Value},VR ao w g h m v->VR ao w J Q m v
 | .none,_,y=>y
 | .bool _,_,y=>y
 | .int _,_,y=>y
 | .str _,_,y=>y
 | .af l,_,y=>by
  refine aa (λZ U=>?_) (x.af l y.2)
  exact ⟨by rw [U];exact y.1,Z⟩
 | .tup l,_,y=>by
  revert y
  refine rb λa n d V P=>pt ?_
  rintro rfl e hn z
  exact ⟨a,n,d,V,P,rfl,(x.keep _ _ e hn (eG (by decide)) (λ_ q=>nomatch q) (.t rfl)).1,(x.keep _ _ e hn (eG (by decide)) (λ_ q=>nomatch q) (.t rfl)).2,br.mv x z⟩
 | .lst l,_,y=>by
  revert y
  refine l6 λa n P=>?_
  rintro rfl e
  refine aa λhn z=>?_
  exact ⟨a,n,P,rfl,(x.keep _ _ e hn (eG (by decide)) (λ_ q=>nomatch q) (.l rfl)).1,(x.keep _ _ e hn (eG (by decide)) (λ_ q=>nomatch q) (.l rfl)).2,br.mv x z⟩
 | .aQ ks R,_,y=>by
  revert y
  refine Cc λa B=>?_
  rintro rfl hd lo
  refine im λhn e z=>?_
  have E:¬J.aK a:=by refine l6 (λo H I F A=>aa λj Y=>?_) (id hd);exact (x.keep _ _ F hn (by rw [A.1];simp) (by rw [j];simp) (.d A.1)).2
  exact ⟨a,B,rfl,Heap.iH hd λo H I e c L=>(x.keep _ _ e hn (by rw [c];simp) (by rw [L];simp) (.d c)).1,lo,E,e,br.mv x z⟩
 | .bq ks R,_,y=>by
  revert y
  refine Cc λa B=>?_
  rintro rfl hd lo
  refine im λhn e z=>?_
  have E:¬J.aK a:=by refine l6 (λo H I F A=>aa λj Y=>?_) (id hd);exact (x.keep _ _ F hn (by rw [A.1];simp) (by rw [j];simp) (.d A.1)).2
  exact ⟨a,B,rfl,Heap.iH hd λo H I e c L=>(x.keep _ _ e hn (by rw [c];simp) (by rw [L];simp) (.d c)).1,lo,E,e,br.mv x z⟩
 | .bb ks R,_,y=>by
  revert y
  refine Cc λa S=>?_
  rintro rfl hd lo
  refine im λhn e z=>?_
  revert hd
  refine l6 λo H I F A=>pt λj he hk N=>?_
  exact ⟨a,S,rfl,⟨o,H,I,(x.keep _ _ F hn (by rw [A.1];simp) (by rw [j];simp) (.d A.1)).1,A,j,he,λy hy=>x.qB (hk y hy),N⟩,lo,(x.keep _ _ F hn (by rw [A.1];simp) (by rw [j];simp) (.d A.1)).2,e,br.mv x z⟩
theorem br.mv {g j:G} (x:Mv g h j A):∀{m:List MV} {v:List Value},br ao w g h m v->br ao w j A m v
 | [],_,y=>y
 |m::l,_,y=>by
  revert y
  refine pi λv r=>?_
  rintro rfl a b
  exact ⟨v,r,rfl,VR.mv x a,br.mv x b⟩
end
theorem f8.mv (R:f8 ao w j g h) (x:ga S g h y B) (A:bA S g h):Mv g h y B:=x.mv A R.cE
theorem VR.ext (x:ga S g h A E) (B:bA S g h) (R:f8 ao w j g h) (y:VR ao w g h m v):VR ao w A E m v:=VR.mv (R.mv x B) y
theorem br.ext (x:ga S g h A E) (B:bA S g h) (R:f8 ao w j g h) (y:br ao w g h m v):br ao w A E m v:=br.mv (R.mv x B) y
theorem ga.qB (x:ga S g h B A) (y:bA S g h) (R:f8 ao w j g h) (hk:IsTupleKey (strKind ao w) h k a):IsTupleKey (strKind ao w) A k a:=(R.mv x y).qB hk
noncomputable def up (C:GH) (l:Loc) (a:OV):GH:=λx=>bif x.beq l then some a else C x
theorem bM (C:GH) l a:up C l a l=some a:=by unfold up;rw [Loc.yh];rfl
theorem Rs {C:GH} (h:x≠l):up C l a x=C x:=by unfold up;cases e:x.beq l;rfl;exact absurd (Loc.DZ e) h
theorem VY {C:GH} (h:(C x).isSome=true):(up C l a x).isSome=true:=by unfold up;cases x.beq l;exact h;rfl
theorem cP {C D:GH} (h:D l=some a) (k:x≠l->C x=D x):up C l a x=D x:=if q:x=l then (l9 _ q).trans ((bM ..).trans (h.symm.trans (l9 _ q.symm))) else (Rs q).trans (k q)
theorem TM {C:GH} (h:D l=some a) (k:∀x,x≠l->C x=D x):up C l a=D:=funext λx=>cP h (k x)
theorem xT (C:GH) l a b:up (up C l a) l b=up C l b:=TM (bM ..) λ_ h=>(Rs h).trans (Rs h).symm
theorem lO {C:GH}:up C l a x=bif x.beq l then some a else C x:=rfl
theorem nQ {x:Loc}:x.beq y=bif x.tag==y.tag then x.i1==y.i1&&x.i2==y.i2 else false:=rfl
noncomputable def G.upd (g:G) (l:Loc) (j:OV):G:={g with C:=up g.C l j}
noncomputable def G.add (g:G) (l:Loc) (j:OV) (a d:Addr):G:={ι:=λx=>if x=l then a else g.ι x,δ:=λx=>if x=l then d else g.δ x,C:=up g.C l j,pv:=g.pv}
theorem G.mR {g:G} (hl:(g.C l).isSome=true):(g.upd l j).aH x a↔g.aH x a:=by unfold G.aH G.upd;dsimp only;by_cases e:x=l;subst e;rw [bM];simp [hl];rw [Rs e]
theorem ga.grow (k:∀a o,h.get? a=some o->j.get? a=some o) (hz:h.objs.size<=j.objs.size):ga S g h g j:=⟨λa o e _ _=> .inl (k a o e),λ_ e=>⟨e,rfl,rfl⟩,λ_ _ e o=>(by have:=o.1;rw [e] at this;injection this),hz,rfl,λa o _ _ e _=>k a o e⟩
theorem IS:bA (λ_=>False) g h:=λ_ _ q=>q.elim
end
section
theorem EM.mv (x:Mv g h E L) (e1:E.ι l=g.ι l) (e2:E.δ l=g.δ l) (k:∀a o,(a=g.ι l\/a=g.δ l)->h.get? a=some o->L.get? a=some o) (y:EM A w g h l Q):EM A w E L l Q:=by induction Q using OV.casesOn with|list I=>revert y;refine aa λq=>tz λn R J z=>?_;exact ⟨by rw [e1,e2,q],n,R,by rw [e1];exact k _ _ (.inl rfl) J,br.mv x z⟩|inst c fs=>revert y;refine aa λq=>Cc λZ j J hd hk z=>?_;exact ⟨by rw [e1,e2];exact q,Z,j,by rw [e1,e2];exact k _ _ (.inl rfl) J,by rw [e2];exact Heap.iH hd λo _ _ e _ _=>k _ _ (.inr rfl) e,hk,br.mv x z⟩|aM ks I=>revert y;refine aa λq=>nw λj hd hk z=>?_;exact ⟨by rw [e1,e2,q],j,by rw [e1];exact Heap.iH hd λo _ _ e _ _=>k _ _ (.inl rfl) e,hk,br.mv x z⟩|j0 ks I=>revert y;refine aa λq=>nw λj hd hk z=>?_;exact ⟨by rw [e1,e2,q],j,by rw [e1];exact Heap.iH hd λo _ _ e _ _=>k _ _ (.inl rfl) e,hk,br.mv x z⟩|aT ks I=>revert y;refine aa λq=>nw λY hd hk z=>?_;revert hd;refine l6 λo V ep ho U=>pt λB he H F=>?_;exact ⟨by rw [e1,e2,q],Y,⟨o,V,ep,by rw [e1];exact k _ _ (.inl rfl) ho,U,B,he,λy hy=>x.qB (H y hy),F⟩,hk,br.mv x z⟩|tab P q=>revert y;refine im λS N=>nw λps hP ht hc=>?_;exact ⟨by rw [e1,e2,S],by rw [e1,N],ps,k _ _ (.inl N.symm) hP,ht,λpos cv e=>(hc pos cv e).mv x⟩
theorem EM.ext (x:ga S g h A E) (H:bA S g h) (R:f8 j w B g h) (e1:A.ι l=g.ι l) (e2:A.δ l=g.δ l) (k:∀a o,(a=g.ι l\/a=g.δ l)->h.get? a=some o->E.get? a=some o) (y:EM j w g h l F):EM j w A E l F:=EM.mv (R.mv x H) e1 e2 k y
theorem f8.lt (R:f8 I w J g h) (o:g.aH l a):∃S,h.get? a=some S:=by refine s3 λ_ U=>?_;revert o;refine aa λZ A=>?_;refine am (λN H=>?_) (qE.mp Z);have:=R.at_ l N H;refine U ?_;induction N using OV.casesOn with|list F=>revert this;refine aa λq=>tz λn ws B Y=>?_;refine to A (λr=>?_) λr=>?_;exact ⟨_,by rw [r];exact B⟩;exact ⟨_,by rw [r,q];exact B⟩|inst c fs=>revert this;refine aa λY=>pi λsl y B=>xy λE Y Y j Y Y=>?_;rcases A with r|r;exact ⟨_,by rw [r];exact B⟩;exact ⟨_,by rw [r];exact j⟩|aM ks F=>revert this;refine aa λq=>ac λy=>xy λE Y Y j Y Y=>?_;rcases A with r|r;exact ⟨_,by rw [r];exact j⟩;exact ⟨_,by rw [r,q];exact j⟩|j0 ks F=>revert this;refine aa λq=>ac λy=>xy λE Y Y j Y Y=>?_;rcases A with r|r;exact ⟨_,by rw [r];exact j⟩;exact ⟨_,by rw [r,q];exact j⟩|aT ks F=>revert this;refine aa λq=>ac λy=>xy λE Y Y j Y Y=>?_;rcases A with r|r;exact ⟨_,by rw [r];exact j⟩;exact ⟨_,by rw [r,q];exact j⟩|tab P q=>revert this;refine im λV L=>ac λps Q Y=>?_;refine to A (λr=>?_) λr=>?_;exact ⟨_,by rw [r,L];exact Q⟩;exact ⟨_,by rw [r,V,L];exact Q⟩
theorem f8.grow (R:f8 j w y g h) (k:∀a o,h.get? a=some o->A.get? a=some o) (hz:h.objs.size<=A.objs.size):f8 j w y g A:=⟨λl B e=>EM.ext (ga.grow (S:=λ_=>False) k hz) IS R rfl rfl (λa o _ q=>k a o q) (R.at_ l B e),R.inj,R.above,λa o e=>k a o (R.base a o e),be R.sz hz,λa ha=>let ⟨p,q,o,e,c⟩:=R.aG a ha;⟨p,q,o,k _ _ e,c⟩⟩
theorem f8.same (R:f8 y w j g h) (x:ga S g h g A) (F:bA S g h) (k:∀a o,g.aK a->h.get? a=some o->A.get? a=some o) (hb:j.StaysIn A):f8 y w j g A:=⟨λl E e=>EM.ext x F R rfl rfl (λa o q B=>k a o (.inl ⟨l,by rw [e];rfl,q⟩) B) (R.at_ l E e),R.inj,R.above,hb,be R.sz x.size,λa ha=>let ⟨p,q,o,e,c⟩:=R.aG a ha;⟨p,q,o,k _ _ (.inr ha) e,c⟩⟩
theorem ga.set {S:Addr->Prop} (hl:(g.C l).isSome=true) (k:∀a o,¬g.aH l a->h.get? a=some o->j.get? a=some o) (hz:h.objs.size<=j.objs.size):ga S g h (g.upd l ov) j:=⟨λa o e hn _=> .inl (k a o (λq=>hn (.inl ⟨l,q⟩)) e),λx e=>⟨VY e,rfl,rfl⟩,λx a e o=>by have:=((G.mR hl).mp o).1;rw [e] at this;exact Bool.noConfusion this,hz,rfl,λa o _ hn e _=>k a o (hn l) e⟩
theorem f8.set {g:G} (R:f8 j w y g h) (hl:(g.C l).isSome=true) (k:∀a o,¬g.aH l a->h.get? a=some o->E.get? a=some o) (hz:h.objs.size<=E.objs.size) (new:EM j w (g.upd l ov) E l ov):f8 j w y (g.upd l ov) E:=by have F:∀x,x≠l->∀a,g.aH x a->¬g.aH l a:=λx A a o q=>A (R.inj x l a o q);refine ⟨λx B e=>?_,λx L a o H=>R.inj x L a ((G.mR hl).mp o) ((G.mR hl).mp H),λx a o=>R.above x a ((G.mR hl).mp o),λa o e=>k a o (λq=>?_) (R.base a o e),be R.sz hz,λa ha=>let ⟨p,q,o,e,c⟩:=R.aG a ha;⟨λI H=>p I ((G.mR hl).mp H),q,o,k _ _ (p l) e,c⟩⟩;by_cases A:x=l;subst A;rw [show (g.upd x ov).C x=some ov from bM ..] at e;obtain rfl:=an e;exact new;rw [show (g.upd l ov).C x=g.C x from Rs A] at e;refine EM.ext (ga.set (S:=λ_=>False) hl k hz) IS R rfl rfl (λa o q J=>k a o (F x A a ⟨by rw [e];rfl,q⟩) J) (R.at_ x B e);rw [(R.above l a q).1] at e;injection e
theorem ga.add {S:Addr->Prop} (hl:g.C l=none) (k:∀a o,h.get? a=some o->A.get? a=some o) (hz:h.objs.size<=A.objs.size) (ha:h.objs.size<=a) (hd:h.objs.size<=d):ga S g h (g.add l y a d) A:=by
 refine ⟨λa o e _ _=> .inl (k a o e),λx e=>?_,λx b e o=>?_,hz,rfl,λa o _ _ e _=>k a o e⟩;have j:x≠l:=λq=>by rw [q,hl] at e;injection e
 exact ⟨by show (up g.C l y x).isSome=true;rw [Rs j];exact e,al j,al j⟩;by_cases j:x=l;subst j;rcases o.2 with q|q;rw [q];show _<=if x=x then a else _;rw [bn rfl];exact ha;rw [q];show _<=if x=x then d else _;rw [bn rfl];exact hd;have:=o.1;rw [show (g.add l y a d).C x=g.C x from Rs j,e] at this;injection this
theorem G.bc {g:G}:(g.add l j a d).ι l=a:=bn rfl
theorem G.gU {g:G}:(g.add l j a d).δ l=d:=bn rfl
theorem G.kI {g:G}:(g.add l j a d).C=up g.C l j:=rfl
theorem G.dY {g:G} (o:(g.add l y a d).aH x b):(x=l/\(b=a\/b=d))\/(x≠l/\g.aH x b):=by by_cases j:x=l;subst j;exact .inl ⟨rfl,by simpa [G.aH,G.add] using o.2⟩;refine .inr ⟨j,?_⟩;haveI B:=o.1;haveI A:=o.2;rw [show (g.add l y a d).C x=g.C x from Rs j] at B;rw [show (g.add l y a d).ι x=g.ι x from al j,show (g.add l y a d).δ x=g.δ x from al j] at A;exact ⟨B,A⟩
theorem f8.add {g:G} (R:f8 j w A g h) (hl:g.C l=none) (k:∀a o,h.get? a=some o->H.get? a=some o) (hz:h.objs.size<=H.objs.size) (ha:h.objs.size<=a) (hd:h.objs.size<=d) (new:EM j w (g.add l B a d) H l B):f8 j w A (g.add l B a d) H:=by
 have E:ga (λ_=>False) g h (g.add l B a d) H:=ga.add hl k hz ha hd;refine ⟨λx J e=>?_,λx U b o L=>?_,λx b o=>?_,λa o e=>k a o (R.base a o e),be R.sz hz,λb hb=>?_⟩;by_cases I:x=l;subst I;rw [show (g.add x B a d).C x=some B from bM ..] at e;obtain rfl:=an e;exact new;rw [show (g.add l B a d).C x=g.C x from Rs I] at e;exact EM.ext E IS R (al I) (al I) (λa o _ Q=>k a o Q) (R.at_ x J e);have lo:∀y,g.aH y b->b<h.objs.size:=λy o=>by refine am (λS e=>?_) (R.lt o);exact r8 e
 have N:(b=a\/b=d)->h.objs.size<=b:=λq=>by rcases q with q|q<;>rw [q]<;>assumption
 rcases G.dY o with ⟨q,r⟩|⟨q,r⟩<;>rcases G.dY L with ⟨P,F⟩|⟨P,F⟩;rw [q,P];exact absurd (lo _ F) (Da.mpr (N r));exact absurd (lo _ r) (Da.mpr (N F));exact R.inj _ _ _ r F;refine to (G.dY o) (aa (λq r=>?_)) λt=>?_;haveI up:A.objs.size<=b:=by rcases r with r|r<;>rw [r];exact be R.sz ha;exact be R.sz hd
 exact ⟨Heap.get?_none_of_le up,.inl up⟩;revert t;refine aa λq r=>?_;exact R.above _ _ r;refine im (λp q=>ac λo e c=>?_) (R.aG b hb);refine ⟨λx L=>?_,q,o,k _ _ e,c⟩;refine to (G.dY L) (λt=>?_) λt=>?_;revert t;refine aa λY r=>?_;have:=r8 e;rcases r with r|r<;>(rw [r] at this;exact absurd this (Da.mpr (by assumption)));revert t;refine aa λY r=>?_;exact p x r
noncomputable def G.aA (g:G) (l:List Addr):G:={g with pv:=l}
noncomputable abbrev G.hide (g:G) (D:Addr):G:=g.aA (D::g.pv)
theorem jt {g:G} (sub:∀a∈l,a∈g.pv) (q:(g.aA l).aK a):g.aK a:=by refine to q (λq=>?_) λq=>?_;exact .inl q;exact .inr (sub a q)
def GT (o:Obj):Prop:=o.cls≠ .type "frame" /\¬P3 o/\∀v,o.data≠ .cell v
theorem uO {g:G} (R:f8 c w d g h) (sub:∀a∈l,a∈g.pv):Mv g h (g.aA l) h:=⟨λ_ e=>⟨e,rfl⟩,λa o e j _ _ _=>⟨e,λq=>j (jt sub q)⟩,R.cE⟩
theorem f8.aA {g:G} (R:f8 j w y g h) (sub:∀a∈l,a∈g.pv):f8 j w y (g.aA l) h:=by have mv:=uO R sub;exact ⟨λx A e=>EM.mv mv rfl rfl (λ_ _ _ e=>e) (R.at_ x A e),R.inj,R.above,R.base,R.sz,λa ha=>R.aG a (sub a ha)⟩
theorem VR.aA {g:G} (R:f8 j w y g h) (sub:∀a∈l,a∈g.pv) (V:VR j w g h m v):VR j w (g.aA l) h m v:=VR.mv (uO R sub) V
theorem br.aA {g:G} (R:f8 j w y g h) (sub:∀a∈l,a∈g.pv) (V:br j w g h m v):br j w (g.aA l) h m v:=br.mv (uO R sub) V
theorem oQ {g:G} (R:f8 c w d g h) (k:∀a o,h.get? a=some o->m.get? a=some o) (l:h.objs.size<=D):Mv g h (g.hide D) m:=⟨λ_ e=>⟨e,rfl⟩,λa o e j _ _ _=>⟨k a o e,λq=>by refine to q (λq=>?_) λq=>?_;exact j (.inl q);refine to (LB.mp q) (λq=>?_) λq=>?_;rw [q] at e;exact absurd (r8 e) (Da.mpr l);exact j (.inr q)⟩,R.cE⟩
theorem f8.hide {g:G} (R:f8 j w y g h) (k:∀a o,h.get? a=some o->A.get? a=some o) (hz:h.objs.size<=A.objs.size) (hD:h.objs.size<=D) (F:A.get? D=some o) (hp:GT o):f8 j w y (g.hide D) A:=by
 have H:∀l,¬g.aH l D:=λl q=>by refine am (λI e=>?_) (R.lt q);exact absurd (r8 e) (Da.mpr hD)
 refine ⟨λx B e=>EM.mv (oQ R k hD) rfl rfl (λa o _ e=>k a o e) (R.at_ x B e),R.inj,R.above,λa o e=>k a o (R.base a o e),be R.sz hz,λa ha=>?_⟩;rcases LB.mp ha with rfl|ha;exact ⟨H,be R.sz hD,o,F,hp⟩;refine im (λp q=>ac λE e c=>?_) (R.aG a ha);exact ⟨p,q,E,k _ _ e,c⟩
theorem VR.hide {g:G} (R:f8 j w y g h) (k:∀a o,h.get? a=some o->A.get? a=some o) (hD:h.objs.size<=D) (V:VR j w g h m v):VR j w (g.hide D) A m v:=VR.mv (oQ R k hD) V
theorem br.hide {g:G} (R:f8 j w y g h) (k:∀a o,h.get? a=some o->A.get? a=some o) (hD:h.objs.size<=D) (V:br j w g h m v):br j w (g.hide D) A m v:=br.mv (oQ R k hD) V
theorem ga.aZ (y:Heap.SameBut D h A):ga (λa=>a=D) g h g A:=⟨λa o e _ j=> .inl ((y.2 a j).trans e),λ_ e=>⟨e,rfl,rfl⟩,λ_ _ e o=>(by have:=o.1;rw [e] at this;injection this),fp y.1.symm,rfl,λa o _ _ e j=>(y.2 a j).trans e⟩
theorem dP (c:D∈g.pv):bA (λa=>a=D) g h:=λa o q _=> .inr (.inr (q▸c))
theorem f8.aZ (R:f8 j w A g h) (hD:D∈g.pv) (B:Heap.SameBut D h E) (Q:E.get? D=some o) (hp:GT o):f8 j w A g E:=by refine im (λp q=>ac λS I c=>?_) (R.aG D hD);haveI hz:h.objs.size<=E.objs.size:=fp B.1.symm;refine ⟨λx N e=>EM.ext (ga.aZ B) (dP hD) R rfl rfl (λa o z I=>(B.2 a λy=>p x ⟨by rw [e];rfl,y▸z⟩).trans I) (R.at_ x N e),R.inj,R.above,λa o e=>?_,be R.sz hz,λa ha=>?_⟩;exact (B.2 a λy=>absurd (r8 e) (Da.mpr (y▸q))).trans (R.base a o e);refine im (λJ L=>ac λF H P=>?_) (R.aG a ha);by_cases y:a=D;subst y;exact ⟨J,L,o,Q,hp⟩;exact ⟨J,L,F,(B.2 a y).trans H,P⟩
theorem ga.back (x:ga S (g.aA l) j B E) (k:∀a o,h.get? a=some o->j.get? a=some o) (hz:h.objs.size<=j.objs.size) (hl:∀a∈l,a∈g.pv\/h.objs.size<=a) (F:∀a∈g.pv,a∈l):ga S g h (B.aA g.pv) E:=by refine ⟨λa o e hn A=>x.keep a o (k a o e) (λq=>?_) A,x.af,λy a e o=>be hz (x.new y a e o),be hz x.size,rfl,λa o ha hn e A=>x.aY a o (F a ha) hn (k a o e) A⟩;refine to q (λq=>?_) λq=>?_;exact hn (.inl q);refine to (hl a q) (λq=>?_) λq=>?_;exact hn (.inr q);exact absurd (r8 e) (Da.mpr q)
abbrev ee:=List (Option MV)
def uQ (a:List Str):Prop:=a.Nodup/\(".0" :Str)∉a
end
section
variable (ao:Program) (w:World)
structure FR (g:G) (h:Heap) (ba:Env) (aj:List Str) (ρ:ee):Prop where
 ns:∃m,h.Ns ba.locals m/\∀(i:Nat) (x:Str) (mv:MV),aj[i]? =some x->ρ[i]? =some (some mv)->ba.kindOf x=some .local->∃v,m x=some v/\VR ao w g h mv v
 own:∀l,¬g.aH l ba.locals
 cell:∀(i:Nat) (x:Str) (mv:MV),aj[i]? =some x->ρ[i]? =some (some mv)->(ba.kindOf x=some .cell\/ba.kindOf x=some .free)->∃c v,ba.cells.lookup x=some c/\h.IsCell c (some v)/\VR ao w g h mv v
 cells:∀(x:Str),(ba.kindOf x=some .cell\/ba.kindOf x=some .free)->∃c vo,ba.cells.lookup x=some c/\h.IsCell c vo
 apart:∀(x y:Str) (c:Addr),ba.kindOf x=some .cell->ba.cells.lookup x=some c->ba.cells.lookup y=some c->x=y
 nd:uQ aj
def Cf (a h:Heap) (l:List Env):Prop:=∀e∈l,e.scope.kind= .function/\∃L o d c,e.frame=some L/\h.get? L=some o/\o.cls= .type "frame" /\o.data= .dict d c/\a.objs.size<=L
structure i4 (dL:Heap) (A:Around) (ba:Env) (aj:List Str) (ρ:ee) (g:G) (s:Shared):Prop where
 rel:f8 ao w dL g s.heap
 fr:FR ao w g s.heap ba aj ρ
 fs:∃sV Ek,A.frames=some (sV::Ek)/\sV.frame=ba.frame/\Cf dL s.heap (sV::Ek)
def MW (c:Env) (a:Addr):Prop:=a=c.locals\/∃x,c.kindOf x=some .cell/\c.cells.lookup x=some a
structure NJ (r:Bool) (A:Around) (n:Nat):Prop where
 handled:A.handled=none
 depth:A.depth+(if r then 2 else 0)+4*n<=900
 units:A.units+(if r then 20 else 0)+40*n<=9000
structure fM (A:Around) (n:Nat):Prop where
 handled:A.handled=none
 depth:A.depth+4*n<=901
 units:A.units+40*n<=9010
theorem NJ.call (a:NJ r A n):fM A n:=⟨a.handled,by have:=a.depth;split at this<;>(first|exact be (by assumption) (by decide)|lia),by have:=a.units;split at this<;>(first|exact be (by assumption) (by decide)|lia)⟩
theorem NJ.inner (a:NJ true A n):NJ false ((A.deeper e).deeper j) n:=⟨a.handled,by have:=a.depth;simp only [Around.deeper,if_true,Bool.false_eq_true,if_false] at this⊢;assumption,by have:=a.units;simp only [Around.deeper_units,if_true,Bool.false_eq_true,if_false] at this⊢;lia⟩
theorem fM.body (a:fM A (n+1)):NJ true (A.deeper e) n:=⟨a.handled,by have:=a.depth;simp only [Around.deeper,if_true] at this⊢;lia,by have:=a.units;simp only [Around.deeper_units,if_true] at this⊢;lia⟩
end
section
theorem f8.cu (R:f8 j w y g h) (x:h.IsCell c v):¬g.aK c:=λq=>by revert x;refine ac λo A hd=>?_;exact (R.v9 A q).2.2 v hd
theorem f8.mF (R:f8 j w y g h) (x:h.get? c=some o) (hc:o.cls= .type "frame"):¬g.aK c:=λq=>(R.v9 x q).1 hc
theorem ga.ns (x:ga S g h H F) (hn:h.Ns L m) (E:∀l,¬g.aH l L) (B:¬S L):F.Ns L m:=by revert hn;refine l6 λo y j e hd r=>?_;by_cases hp:L∈g.pv;exact ⟨o,y,j,x.aY L o hp E e B,hd,r⟩;rcases x.keep L o e (λq=>q.elim (λ⟨l,q⟩=>E l q) hp) B with A|⟨_,I,A⟩;exact ⟨o,y,j,A,hd,r⟩;exact ⟨_,y,j,A,hd,r⟩
theorem ga.jm (x:ga S g h E y) (hc:h.IsCell c v) (B:¬g.aK c) (A:¬S c):y.IsCell c v:=by revert hc;refine ac λo e hd=>?_;rcases x.keep c o e B A with j|t;exact ⟨o,j,hd⟩;revert t;refine aa λY=>am λF j=>?_;exact ⟨_,j,hd⟩
theorem Cf.ext {S:Addr->Prop} {g:G} (x:ga S g h P J) (R:f8 H w j g h) (N:∀e∈l,∀L,e.frame=some L->¬S L) (F:Cf j h l):Cf j J l:=λe he=>by refine aa (λk=>xw λL o E B A=>pt λI hc hd lo=>?_) (F e he);rcases x.keep L o I (R.mF I hc) (N e he L A) with y|t;exact ⟨k,L,o,E,B,A,y,hc,hd,lo⟩;revert t;refine aa λY=>am λQ y=>?_;exact ⟨k,L,_,E,B,A,y,hc,hd,lo⟩
theorem FR.ext {g:G} (x:ga (λ_=>False) g h I L) (R:f8 j w E g h) (F:FR j w g h A aj P):FR j w I L A aj P:=by
 obtain ⟨⟨m,hn,J⟩,H,hc,B,ha,nd⟩:=F;haveI N:A.locals<h.objs.size:=by revert hn;refine xy λo Y Y e Y=>?_;exact r8 e
 refine ⟨⟨m,x.ns hn H id,λi y mv e1 e2 e3=>?_⟩,x.wY H N,λi y mv e1 e2 e3=>?_,λy e=>?_,ha,nd⟩;refine ac (λv a b=>?_) (J i y mv e1 e2 e3);exact ⟨v,a,VR.ext x IS R b⟩;refine pi (λc v a b d=>?_) (hc i y mv e1 e2 e3);exact ⟨c,v,a,x.jm b (R.cu b) id,VR.ext x IS R d⟩;refine tz (λc Q a b=>?_) (B y e);exact ⟨c,Q,a,x.jm b (R.cu b) id⟩
theorem i4.ext {A:Around} {B:Env} (x:ga (λ_=>False) g s.heap E F.heap) (H:f8 j w y E F.heap) (T:i4 j w y A B aj I g s):i4 j w y A B aj I E F:=⟨H,T.fr.ext x T.rel,let ⟨e,o,a,b,c⟩:=T.fs;⟨e,o,a,b,c.ext x T.rel λ_ _ _ _ q=>q⟩⟩
theorem FR.Yd {g:G} (R:f8 H w ab g h) (F:FR H w g h A aj ρ) (Q:aj[i]? =some x) (hk:A.kindOf x=some .local) (hz:i<ρ.length) (hm:h.Ns A.locals m) (Z:h'.Ns A.locals (λy=>if y=x then some v else m y)) (E:ga (λa=>a=A.locals) g h g h') (S:bA (λa=>a=A.locals) g h) (hv:VR H w g h mv v):FR H w g h' A aj (ρ.set i (some mv)):=by
 refine s3 λ_ kk=>?_;obtain ⟨⟨m',hn,U⟩,ho,hc,V,ha,nd⟩:=F;haveI hL:A.locals<h.objs.size:=by revert hn;refine xy λo Y Y e Y=>?_;exact r8 e
 have em:m'=m:=funext λy=>by revert hn;refine l6 λo es ep e hd=>aa λY hf=>?_;revert hm;refine l6 λo' ak ai L B=>aa λY P=>?_;rw [e] at L;obtain rfl:=an L;rw [hd] at B;injection B with B;subst B;rw [<- hf y,<- P y]
 refine kk ?_;subst em;have J:∀c N,h.IsCell c N->c≠A.locals:=λc N ⟨o,e,hd⟩ q=>by revert hn;refine l6 λo' Y Y L B Y=>?_;rw [q,L] at e;obtain rfl:=an e;rw [B] at hd;injection hd
 refine ⟨⟨_,Z,λj y I e1 e2 e3=>?_⟩,ho,λj y I e1 e2 e3=>?_,λy e=>?_,ha,nd⟩;by_cases hj:j=i;subst hj;rw [Q] at e1;obtain rfl:=an e1;rw [qF hz] at e2;cases e2;exact ⟨v,bn rfl,VR.ext E S R hv⟩;rw [kR (u8 hj)] at e2;have hy:y≠x:=λq=>hj (by subst q;exact (List.getElem?_inj (BB.mp e1).1 nd.1).mp (e1.trans Q.symm));refine ac (λu a b=>?_) (U j y I e1 e2 e3);exact ⟨u,by rw [al hy];exact a,VR.ext E S R b⟩;haveI hj:j≠i:=λq=>by subst q;rw [Q] at e1;obtain rfl:=an e1;rw [hk] at e3;rcases e3 with e3|e3<;>contradiction
 rw [kR (u8 hj)] at e2;refine pi (λc u a b d=>?_) (hc j y I e1 e2 e3);exact ⟨c,u,a,E.jm b (R.cu b) (J c _ b),VR.ext E S R d⟩;refine tz (λc N a b=>?_) (V y e);exact ⟨c,N,a,E.jm b (R.cu b) (J c _ b)⟩
theorem FR.M5 {g:G} (R:f8 A w ab g h) (F:FR A w g h B aj ρ) (P:aj[i]? =some x) (hk:B.kindOf x=some .cell) (hz:i<ρ.length) (hl:B.cells.lookup x=some c) (U:h.IsCell c vo) (I:h'.IsCell c (some v)) (E:ga (λa=>a=c) g h g h') (Q:bA (λa=>a=c) g h) (hv:VR A w g h mv v):FR A w g h' B aj (ρ.set i (some mv)):=by
 obtain ⟨⟨m',hn,S⟩,ho,hc,Z,ha,nd⟩:=F;have N:B.locals≠c:=λq=>by revert U;refine ac λo e hd=>?_;revert hn;refine l6 λo' Y Y e' L Y=>?_;rw [<- q,e'] at e;obtain rfl:=an e;rw [L] at hd;injection hd
 refine ⟨⟨m',E.ns hn ho N,λj y H e1 e2 e3=>?_⟩,ho,λj y H e1 e2 e3=>?_,λy e=>?_,ha,nd⟩;haveI hj:j≠i:=λq=>by subst q;rw [P] at e1;obtain rfl:=an e1;rw [hk] at e3;contradiction
 rw [kR (u8 hj)] at e2;refine ac (λu a b=>?_) (S j y H e1 e2 e3);exact ⟨u,a,VR.ext E Q R b⟩;by_cases hj:j=i;subst hj;rw [P] at e1;obtain rfl:=an e1;rw [qF hz] at e2;cases e2;exact ⟨c,v,hl,I,VR.ext E Q R hv⟩;rw [kR (u8 hj)] at e2;have J:y≠x:=λq=>hj (by subst q;exact (List.getElem?_inj (BB.mp e1).1 nd.1).mp (e1.trans P.symm));refine pi (λd u a b z=>?_) (hc j y H e1 e2 e3);exact ⟨d,u,a,E.jm b (R.cu b) (λq=>J (ha x y c hk hl (q▸a)).symm),VR.ext E Q R z⟩;by_cases J:y=x;subst J;exact ⟨c,some v,hl,I⟩;refine tz (λd V a b=>?_) (Z y e);exact ⟨d,V,a,E.jm b (R.cu b) (λq=>J (ha x y c hk hl (q▸a)).symm)⟩
mutual
noncomputable def dS (D:Loc->Bool):MV->Bool
 | .af l=> !D l
 | .tup l=>NO D l
 | .lst l=>NO D l
 | .aQ _ a=>NO D a
 | .bq _ a=>NO D a
 | .bb _ a=>NO D a
 |_=>true
noncomputable def NO (D:Loc->Bool):List MV->Bool
 | []=>true
 |m::l=>dS D m&&NO D l
end
noncomputable def jA (D:Loc->Bool):OV->Bool| .list a=>NO D a| .inst _ c=>NO D (c.map (·.2))| .aM _ a=>NO D a| .aT _ a=>NO D a| .j0 _ a=>NO D a| .tab .. =>true
noncomputable def cut (D:Loc->Bool) (C:GH):GH:=λl=>if D l then none else C l
def kN (a:GH) (D:Loc->Bool) (C:GH):Prop:=(∀l,D l=true->a l=none)/\∀l c,C l=some c->D l=false->jA D c=true
set_option backward.eqns.nonrecursive false in noncomputable def gM (D:Loc->Bool):Option MV->Option MV|some m=>if dS D m then some m else none|none=>none
inductive Dr (wL:GH) (N:ee->GH->Prop) (ρ:ee) (C:GH):Prop|inl (h:N ρ C)|inr (D:Loc->Bool) (h:kN wL D C) (q:N (ρ.map (gM D)) (cut D C))
noncomputable def m4 (D:Loc->Bool) (C:GH):MV->Option MV| .af l=>if D l then (match C l with|some (.list a)=>if NO D a then some (.lst a) else none|some (.aM c a)=>if NO D a then some (.aQ c a) else none|_=>none) else some (.af l)|m=>if dS D m then some m else none
inductive Fz (wL:GH) (Q:MV->GH->Prop) (v:MV) (C:GH):Prop|inl (h:Q v C)|inr (D:Loc->Bool) (v':MV) (h:kN wL D C) (e:m4 D C v=some v') (q:Q v' (cut D C))
abbrev Spec:=List MV->GH->(MV->GH->Prop)->(GH->Prop)->Prop
def oP (o:Option a) (Q:a->Prop):Prop:=match o with|some v=>Q v|none=>False
noncomputable def mQ:Option OV->Option (List MV):=λo=>match o with|some (.list a)=>some a|_=>none
noncomputable def cp:Option OV->Option (List Str×List MV):=λo=>match o with|some (.aM c a)=>some (c,a)|_=>none
noncomputable def jG:Option OV->Option (List (List Str)×List MV):=λo=>match o with|some (.aT c a)=>some (c,a)|_=>none
theorem ow {x} (h:mQ o=some x):o=some (.list x):=by induction o using Option.casesOn with|none=>injection h|some o=>induction o using OV.casesOn<;>first| (obtain rfl:=an h;rfl)|injection h
theorem lP {x} (h:cp o=some x):o=some (.aM x.1 x.2):=by induction o using Option.casesOn with|none=>injection h|some o=>induction o using OV.casesOn<;>first| (obtain rfl:=an h;rfl)|injection h
theorem zK {x} (h:jG o=some x):o=some (.aT x.1 x.2):=by induction o using Option.casesOn with|none=>injection h|some o=>induction o using OV.casesOn<;>first| (obtain rfl:=an h;rfl)|injection h
noncomputable def uu (C:GH):MV->Option (List MV)| .lst l=>some l| .af l=>mQ (C l)|_=>none
noncomputable def wE (C:GH):MV->Option (List MV)| .tup l=>some l|v=>uu C v
noncomputable def bL (C:GH):MV->Option (List Str×List MV)| .aQ c a=>some (c,a)| .af l=>cp (C l)|_=>none
noncomputable def pE (C:GH):MV->Option (List (List Str)×List MV)| .bb c a=>some (c,a)| .af l=>jG (C l)|_=>none
def vI (v:MV) (k:Int->Prop):Prop:=match v with| .int a=>k a|_=>False
def vS (v:MV) (k:Str->Prop):Prop:=match v with| .str a=>k a|_=>False
def vL (v:MV) (k:Loc->Prop):Prop:=match v with| .af a=>k a|_=>False
def vT (v:MV) (k:List MV->Prop):Prop:=match v with| .tup a=>k a|_=>False
def vN (v:MV) (k:Prop):Prop:=match v with| .none=>k|_=>False
def w1 (l:List MV) (k:MV->Prop):Prop:=match l with| [a]=>k a|_=>False
def w2 (l:List MV) (k:MV->MV->Prop):Prop:=match l with| [a,b]=>k a b|_=>False
theorem kq {v k} (h:vI v k):∃a,v= .int a/\k a:=by induction v using MV.casesOn<;>first|exact ⟨_,rfl,h⟩|exact h.elim
theorem vz {a b:MV} {k:Int->Int->Prop} (q:vI a λa=>vI b λb=>k a b):∃x y,a= .int x/\b= .int y/\k x y:=by refine ac (λx e q=>?_) (kq q);refine ac (λy c q=>?_) (kq (v:=b) q);exact ⟨x,y,e,c,q⟩
theorem bV {v k} (h:vS v k):∃a,v= .str a/\k a:=by induction v using MV.casesOn<;>first|exact ⟨_,rfl,h⟩|exact h.elim
theorem jq {v k} (h:vL v k):∃a,v= .af a/\k a:=by induction v using MV.casesOn<;>first|exact ⟨_,rfl,h⟩|exact h.elim
theorem VJ {v k} (h:vT v k):∃a,v= .tup a/\k a:=by induction v using MV.casesOn<;>first|exact ⟨_,rfl,h⟩|exact h.elim
theorem qs {v k} (h:vN v k):v= .none/\k:=by induction v using MV.casesOn<;>first|exact ⟨rfl,h⟩|exact h.elim
theorem Dv {l k} (h:w1 l k):∃a,l=[a]/\k a:=by rcases l with _|⟨a,_|⟨b,r⟩⟩<;>first|exact ⟨_,rfl,h⟩|exact h.elim
theorem G3 {l k} (h:w2 l k):∃a b,l=[a,b]/\k a b:=by rcases l with _|⟨a,_|⟨b,_|⟨c,r⟩⟩⟩<;>first|exact ⟨_,_,rfl,h⟩|exact h.elim
noncomputable def re {a d:Type} [DecidableEq a] (k:a):List a->List d->Option d| [],_=>none|x::e,c=>match c with| []=>none|u::c=>if x=k then some u else re k e c
noncomputable def pb {c e:Type} [DecidableEq c] (k:c) (v:e):List c->List e->List c×List e| [],_=>([k],[v])|x::d,a=>match a with| []=>([k],[v])|u::a=>if x=k then (x::d,v::a) else (x::(pb k v d a).1,u::(pb k v d a).2)
noncomputable def DD {c e:Type} [DecidableEq c] (k:c):List c->List e->List c×List e| [],_=>([],[])|x::d,a=>match a with| []=>([],[])|u::a=>if x=k then (d,a) else (x::(DD k d a).1,u::(DD k d a).2)
end
section
variable [DecidableEq κ] {xs:List κ}
theorem co (e:x=k):re k (x::xs) (u::a)=some u:=bn e
theorem ZB (e:¬x=k):re k (x::xs) (u::a)=re k xs a:=al e
theorem fb (e:x=k):pb k v (x::xs) (u::a)=(x::xs,v::a):=bn e
theorem dv (e:¬x=k):pb k v (x::xs) (u::a)=(x::(pb k v xs a).1,u::(pb k v xs a).2):=al e
theorem lL (e:x=k):DD k (x::xs) (u::a)=(xs,a):=bn e
theorem ng (e:¬x=k):DD k (x::xs) (u::a)=(x::(DD k xs a).1,u::(DD k xs a).2):=al e
end
noncomputable def dO (f:Nat):List (Nat×MV)->Option MV| []=>none|p::r=>bif p.1==f then some p.2 else dO f r
noncomputable def bp (f:Nat) (v:MV):List (Nat×MV)->List (Nat×MV)| []=>[(f,v)]|p::r=>bif p.1==f then (p.1,v)::r else p::bp f v r
noncomputable def oI (v:MV) (k:Int->Option c):Option c:=match v with| .int a=>k a|_=>none
noncomputable def oS (v:MV) (k:Str->Option c):Option c:=match v with| .str a=>k a|_=>none
theorem JV (h:oI v k=some r):∃a,v= .int a/\k a=some r:=by induction v using MV.casesOn<;>first|exact ⟨_,rfl,h⟩|injection h
theorem sH (h:oS v k=some r):∃a,v= .str a/\k a=some r:=by induction v using MV.casesOn<;>first|exact ⟨_,rfl,h⟩|injection h
noncomputable def iJ (a b:MV):Option Bool:=match a with| .int x=>oI b λy=>some (decide (x=y))| .str x=>oS b λy=>some (decide (x=y))|_=>none
noncomputable def rC (a b:Option Bool):Option Bool:=a.bind λx=>b.map (x&& ·)
noncomputable def ik:List MV->List MV->Option Bool| [],bs=>(match bs with| []=>some true|_::_=>none)|a::c,bs=>match bs with| []=>none|b::bs=>rC (iJ a b) (ik c bs)
noncomputable def Ej (a b:MV):Option Bool:=match a with| .none=>(match b with| .none=>some true| .str _=>some false|_=>none)| .str x=>(match b with| .none=>some false| .str y=>some (decide (x=y))|_=>none)| .tup x=>(match b with| .tup y=>ik x y|_=>none)| .int x=>(match b with| .int y=>some (decide (x=y))|_=>none)|_=>none
noncomputable def GE:List MV->Option (List Str)| []=>some []|m::r=>oS m λs=>(GE r).map (s:: ·)
inductive NG (vs:List MV) (C:GH) (Q:MV->GH->Prop):Prop|inl (q:Q (.lst vs) C)|inr (l:Loc) (h:C l=none) (q:Q (.af l) (up C l (.list vs)))
inductive dm (C:GH) (ov:OV) (Q:Loc->GH->Prop):Prop|mk (l:Loc) (h:C l=none) (q:Q l (up C l ov))
inductive eX (B:ee->GH->MV->(ee->GH->Prop)->Prop) (dr:(ee->GH->Prop)->ee->GH->Prop) (N:ee->GH->Prop) (xs:List MV) (n:Nat) (lR:GH->Prop) (ρ:ee) (C:GH):Prop|mk (I:Nat->ee->GH->Prop) (h:I 0 ρ C) (s:∀k x cQ C',xs[k]? =some x->I k cQ C'->lR C'/\B cQ C' x (dr (I (k+1)))) (e:∀cQ C',I n cQ C'->lR C'/\N cQ C')
inductive wO (B:Nat->(Nat->ee->GH->Prop)->ee->GH->Prop) (ρ:ee) (C:GH):Prop|mk (I:Nat->ee->GH->Prop) (h:∃n,I n ρ C) (s:∀n cQ C',I n cQ C'->B n I cQ C')
noncomputable def gz:Nat:=2^20
def Y1 (a b:MV) (C:GH) (Q:MV->GH->Prop):Prop:=match a with| .int a=>vI b λb=>Q (.int (a+b)) C| .str a=>vS b λb=>a.length+b.length<=gz/\Q (.str (a++b)) C|a=>oP (uu C a) λx=>oP (uu C b) λy=>x.length+y.length<=gz/\NG (x++y) C Q
def bU (o:BO) (a b:MV) (C:GH) (Q:MV->GH->Prop):Prop:=match o with| .add=>Y1 a b C Q| .sub=>vI a λa=>vI b λb=>Q (.int (a - b)) C| .mul=>vI a λa=>vI b λb=>(a.natAbs<2^63\/b.natAbs<2^63)/\Q (.int (a*b)) C| .mod=>vI a λa=>vI b λb=>0<b/\b<2^62/\Q (.int (a%b)) C| .fdiv=>vI a λa=>vI b λb=>0<b/\b<2^62/\Q (.int (a/b)) C| .pow=>vI a λa=>vI b λb=>a.natAbs<2^60/\0<=b/\b<=1000/\Q (.int (a^b.toNat)) C
def bN (a b:MV) (C:GH) (Q:Bool->Prop):Prop:=match b with| .lst l=>(match l with| []=>oP (uu C a) λx=>x.length<=gz/\Q (decide (x=[]))|_::_=>False)| .af l=>(match a with| .bb c e=>oP (pE C (.af l)) λd=>oP (GE e) λj=>oP (GE d.2) λg=>c.length<=gz/\d.1.length<=gz/\Q (decide (c.length=d.1.length/\∀p∈c.zip j,p∈d.1.zip g))|_=>False)|b=>oP (Ej a b) Q
noncomputable def d8:MV->Bool| .none=>true|_=>false
def cz (a:Str) (b:MV) (C:GH) (Q:Bool->Prop):Prop:=match b with| .str b=>Q (Txt.contains b a)| .aQ e _=>Q (decide (a∈e))| .af l=>oP (cp (C l)) λd=>Q (decide (a∈d.1))| .lst l=>oP (GE l) λc=>c.length<=gz/\Q (decide (a∈c))| .tup l=>oP (GE l) λc=>c.length<=gz/\Q (decide (a∈c))|_=>False
def TY (a b:MV) (Q:Bool->Prop):Prop:=match a with| .int a=>vI b λb=>Q (decide (a<=b))| .str a=>vS b λb=>Q (!decide (b.cps.toList<a.cps.toList))|_=>False
def Go (o:CO) (a b:MV) (C:GH) (Q:Bool->Prop):Prop:=match o with| .eq=>bN a b C Q| .ne=>bN a b C λr=>Q (!r)| .lt=>vI a λa=>vI b λb=>Q (decide (a<b))| .le=>TY a b Q| .gt=>vI a λa=>vI b λb=>Q (decide (b<a))| .ge=>vI a λa=>vI b λb=>Q (decide (b<=a))| .is=>vN b (Q (d8 a))| .gB=>vN b (Q (!d8 a))| .cS=>vS a λa=>cz a b C Q| .gq=>vS a λa=>cz a b C λr=>Q (!r)
noncomputable def Ei (v:MV):Option (List MV×MV):=match v with| .tup l=>(match l with| [k,v]=>(match k with| .tup a=>some (a,v)|_=>none)|_=>none)|_=>none
noncomputable def pairsOf:List MV->Option (List (List Str)×List MV)| []=>some ([],[])|m::r=>(Ei m).bind λp=>(GE p.1).bind λk=>(pairsOf r).map λq=>(k::q.1,p.2::q.2)
def DS (v:MV) (C:GH) (s d:Bool) (Q:Bool->Prop):Prop:=match v with| .str _=>Q s| .tup _=>Q false| .af l=>oP (cp (C l)) λ_=>Q d|_=>False
def OJ (v:MV) (Q:Int->Prop):Prop:=match v with| .int a=>Q a| .bool a=>Q (if a then 1 else 0)|_=>False
def MR (v:MV) (C:GH) (Q:MV->GH->Prop):Prop:=match v with| .aQ c _=>c.length<64/\∀a:List Str,a.Perm c->sortedS a=true->Q (.lst (a.map .str)) C|_=>False
def Uj (s:Str) (Q:Int->Prop):Prop:=match s.cps.toList with| [c]=>Q c|_=>False
def LP (b:BI) (e:List MV) (C:GH) (Q:MV->GH->Prop):Prop:=match b with| .len=>w1 e λv=>oP (wE C v) λx=>x.length<=gz/\Q (.int x.length) C| .ord=>w1 e λv=>vS v λs=>Uj s λc=>Q (.int c) C| .str=>w1 e λv=>vI v λi=>i.natAbs<10^9/\Q (.str (Str.ofString (toString i))) C| .list=>w1 e λv=>oP (uu C v) λx=>x.length<=gz/\NG x C Q| .dict=>w1 e λv=>oP (uu C v) λx=>oP (pairsOf x) λd=>d.1.Nodup/\x.length<=1000/\Q (.bb d.1 d.2) C| .sorted=>w1 e λv=>MR v C Q| .isStr=>w1 e λv=>DS v C true false λr=>Q (.bool r) C| .bH=>w1 e λv=>DS v C false true λr=>Q (.bool r) C| .max=>w2 e λa b=>vI a λa=>vI b λb=>Q (.int (max a b)) C| .min=>w2 e λa b=>vI a λa=>vI b λb=>Q (.int (min a b)) C| .int=>w1 e λv=>OJ v λa=>Q (.int a) C
noncomputable def gX (x y:Str):MV:=match Builtin.Str.lastOccurrence x y 0 x.length with|some i=> .tup [.str (Builtin.Str.strSub x 0 i),.str y,.str (Builtin.Str.strSub x (i+y.length) x.length)]|none=> .tup [.str Str.empty,.str Str.empty,.str x]
def Ls (c:List MV) (k:Str->MV->Prop):Prop:=match c with| [a]=>vS a λs=>k s .none| [a,u]=>vS a λs=>k s u|_=>False
def bQ (b:BM) (v:MV) (a:List MV) (C:GH) (Q:MV->GH->Prop):Prop:=match b with| .append=>vL v λl=>w1 a λx=>oP (uu C (.af l)) λc=>c.length<gz/\Q .none (up C l (.list (c++[x])))| .pop=>vL v λl=>a=[]/\oP (uu C (.af l)) λc=>oP c.getLast? λx=>c.length<gz/\Q x (up C l (.list c.dropLast))| .get=>Ls a λk u=>oP (bL C v) λd=>Q ((re k d.1 d.2).getD u) C| .d7=>vL v λl=>w1 a λk=>vS k λk=>oP (cp (C l)) λd=>oP (re k d.1 d.2) λx=>d.1.length<=1000/\Q x (up C l (.aM (DD k d.1 d.2).1 (DD k d.1 d.2).2))| .split=>vS v λs=>w1 a λy=>vS y λy=>0<y.length/\s.length<=gz/\NG ((Txt.split s y).map .str) C Q| .join=>vS v λs=>w1 a λv=>oP (uu C v) λx=>oP (GE x) λe=>x.length<=gz/\(e.map (·.length)).sum+e.length*s.length<=gz/\Q (.str (Txt.join s e)) C| .lower=>vS v λs=>a=[]/\(Txt.lower s).length<=gz/\Q (.str (Txt.lower s)) C| .rpartition=>vS v λs=>w1 a λy=>vS y λy=>0<y.length/\s.length<=gz/\Q (gX s y) C
def Wh (a:MV) (k:Int) (C:GH) (Q:MV->GH->Prop):Prop:=match a with| .str s=>s.length<=gz/\oP ((seqIndex? k s.length).bind λj=>s.cps[j]?) λc=>Q (.str ⟨#[c]⟩) C| .bq e d=>oP (re k e d) λx=>Q x C|a=>oP (wE C a) λx=>x.length<=gz/\oP ((seqIndex? k x.length).bind λj=>x[j]?) λv=>Q v C
def dn (a i:MV) (C:GH) (Q:MV->GH->Prop):Prop:=match i with| .int k=>Wh a k C Q| .str k=>oP (bL C a) λd=>oP (re k d.1 d.2) λx=>Q x C|_=>False
def eO (k:SK) (a:MV) (C:GH) (Q:MV->GH->Prop):Prop:=match k with| .rev=>oP (uu C a) λx=>x.length<=gz/\NG x.reverse C Q| .fP=>oP (uu C a) λx=>x.length<=gz/\NG (x.drop 1).reverse C Q| .fY=>vS a λs=>s.length<=gz/\Q (.str (Txt.slice s (some (-1)) none)) C| .iG=>vT a λl=>1<=l.length/\l.length<=gz/\Q (.tup (l.drop 1)) C
def gb (a i x:MV) (C:GH) (Q:GH->Prop):Prop:=vL a λl=>match i with| .int k=>oP (uu C (.af l)) λc=>c.length<=gz/\oP (seqIndex? k c.length) λj=>Q (up C l (.list (c.set j x)))| .str k=>oP (cp (C l)) λd=>d.1.length<=1000/\Q (up C l (.aM (pb k x d.1 d.2).1 (pb k x d.1 d.2).2))| .tup t=>oP (jG (C l)) λd=>oP (GE t) λk=>d.1.length<=1000/\Q (up C l (.aT (pb k x d.1 d.2).1 (pb k x d.1 d.2).2))|_=>False
noncomputable def slot:ee->Nat->Option MV| [],_=>none|a::_,0=>a|_::r,i+1=>slot r i
theorem AO (h:slot c i=some v):c[i]? =some (some v):=by induction c generalizing i with|nil=>injection h|cons a r d=>induction i using Nat.casesOn with|zero=>exact l9 some h|succ i=>exact d h
noncomputable def gy:ee->Nat->MV->Option ee| [],_,_=>none|_::r,0,v=>some (some v::r)|a::r,i+1,v=>(gy r i v).map (a:: ·)
theorem KE (h:gy d i v=some c):i<d.length/\d.set i (some v)=c:=by induction d generalizing i c with|nil=>injection h|cons a r g=>induction i using Nat.casesOn with|zero=>exact ⟨Nat.zero_lt_succ _,an h⟩|succ i=>refine ac (λx e j=>?_) (YI.mp h);exact ⟨Nat.succ_lt_succ (g e).1,(l9 (a:: ·) (g e).2).trans j⟩
def OP (i:Nat) (v:MV) (c:ee) (N:ee->GH->Prop) (C:GH):Prop:=oP (gy c i v) λa=>N a C
theorem mP {N:ee->GH->Prop} (h:OP i v a N C):i<a.length/\N (a.set i (some v)) C:=by unfold OP at h;cases e:gy a i v with|none=>rw [e] at h;exact h.elim|some r=>rw [e] at h;refine aa (λc=>?_) (KE e);rintro rfl;exact ⟨c,h⟩
def bW (b:Bool) (P:Prop):Prop:=bif b then P else False
theorem cT:(bif true then a else b)=a:=rfl
theorem cF:(bif false then a else b)=b:=rfl
theorem Ov:(bif true then a else b)=a:=rfl
theorem QV:(bif false then a else b)=b:=rfl
theorem Tr:(true&&b)=b:=rfl
theorem Tp:(false&&b)=false:=rfl
theorem nT:(!true)=false:=rfl
theorem nF:(!false)=true:=rfl
theorem R6:bW true P=P:=rfl
theorem Qq:Loc.tag (.tree:Loc)=0:=rfl
theorem TR:Loc.i1 (.tree:Loc)=0:=rfl
theorem OM:Loc.i2 (.tree:Loc)=0:=rfl
theorem Vo:Loc.tag (.aV:Loc)=1:=rfl
theorem YP:Loc.i1 (.aV:Loc)=0:=rfl
theorem J8:Loc.i2 (.aV:Loc)=0:=rfl
theorem WC:Loc.tag (.node i:Loc)=2:=rfl
theorem Up:Loc.i1 (.node i:Loc)=i:=rfl
theorem Wf:Loc.i2 (.node i:Loc)=0:=rfl
theorem KH:Loc.tag (.ch i:Loc)=3:=rfl
theorem Pq:Loc.i1 (.ch i:Loc)=i:=rfl
theorem W1:Loc.i2 (.ch i:Loc)=0:=rfl
theorem Ki:Loc.tag (.at' i:Loc)=4:=rfl
theorem KZ:Loc.i1 (.at' i:Loc)=i:=rfl
theorem Ub:Loc.i2 (.at' i:Loc)=0:=rfl
theorem Tb:Loc.tag (.ns i:Loc)=5:=rfl
theorem IC:Loc.i1 (.ns i:Loc)=i:=rfl
theorem Ji:Loc.i2 (.ns i:Loc)=0:=rfl
theorem Se:Loc.tag (.res:Loc)=6:=rfl
theorem Xb:Loc.i1 (.res:Loc)=0:=rfl
theorem Qp:Loc.i2 (.res:Loc)=0:=rfl
theorem O6:Loc.tag (.au:Loc)=7:=rfl
theorem Xi:Loc.i1 (.au:Loc)=0:=rfl
theorem Yc:Loc.i2 (.au:Loc)=0:=rfl
theorem T4:Loc.tag (.has:Loc)=8:=rfl
theorem R7:Loc.i1 (.has:Loc)=0:=rfl
theorem HY:Loc.i2 (.has:Loc)=0:=rfl
theorem Ou:Loc.tag (.pend i:Loc)=9:=rfl
theorem Wg:Loc.i1 (.pend i:Loc)=i:=rfl
theorem Ho:Loc.i2 (.pend i:Loc)=0:=rfl
theorem Q0:Loc.tag (.src:Loc)=10:=rfl
theorem He:Loc.i1 (.src:Loc)=0:=rfl
theorem X4:Loc.i2 (.src:Loc)=0:=rfl
theorem UZ:Loc.tag (.ag:Loc)=11:=rfl
theorem Fj:Loc.i1 (.ag:Loc)=0:=rfl
theorem LN:Loc.i2 (.ag:Loc)=0:=rfl
theorem Xm:Loc.tag (.el i:Loc)=12:=rfl
theorem Xa:Loc.i1 (.el i:Loc)=i:=rfl
theorem V6:Loc.i2 (.el i:Loc)=0:=rfl
theorem HB:Loc.tag (.ea i:Loc)=13:=rfl
theorem Gz:Loc.i1 (.ea i:Loc)=i:=rfl
theorem EW:Loc.i2 (.ea i:Loc)=0:=rfl
theorem LR:Loc.tag (.ec i:Loc)=14:=rfl
theorem UW:Loc.i1 (.ec i:Loc)=i:=rfl
theorem N8:Loc.i2 (.ec i:Loc)=0:=rfl
theorem Ly:Loc.tag (.aD i k:Loc)=15:=rfl
theorem Gv:Loc.i1 (.aD i k:Loc)=i:=rfl
theorem LV:Loc.i2 (.aD i k:Loc)=k:=rfl
theorem YM:Loc.tag (.code i:Loc)=16:=rfl
theorem TP:Loc.i1 (.code i:Loc)=i:=rfl
theorem Hb:Loc.i2 (.code i:Loc)=0:=rfl
theorem qc (h:bW b P):b=true/\P:=by induction b using Bool.casesOn;exact h.elim;exact ⟨rfl,h⟩
noncomputable def eE:Option OV->Option (Addr×List (Nat×MV)):=λo=>match o with|some (.inst c a)=>some (c,a)|_=>none
theorem uh {x} (h:eE o=some x):o=some (.inst x.1 x.2):=by induction o using Option.casesOn with|none=>injection h|some o=>induction o using OV.casesOn<;>first| (obtain rfl:=an h;rfl)|injection h
noncomputable def me (C:GH):MV->Option (Addr×List (Nat×MV))| .af l=>eE (C l)|_=>none
def FF (W:MV->(MV->Prop)->Prop):List MV->(List MV->Prop)->Prop| [],Q=>Q []|x::r,Q=>W x λy=>FF W r λa=>Q (y::a)
theorem vy {W:MV->(MV->Prop)->Prop}:FF W [] Q=Q []:=rfl
theorem DT {W:MV->(MV->Prop)->Prop}:FF W (x::r) Q=W x λy=>FF W r λa=>Q (y::a):=rfl
noncomputable def Mo (p:MV):Option (Int×MV):=match p with| .tup l=>(match l with|a::r=>oI a λk=>(match r with| [v]=>some (k,v)|_=>none)| []=>none)|_=>none
noncomputable def Uf (a:List Int×List MV) (p:MV):List Int×List MV:=match Mo p with|some q=>pb q.1 q.2 a.1 a.2|none=>a
noncomputable def YU (a:List MV):List Int×List MV:=a.foldl Uf ([],[])
structure eQ where
 Δ:Nat->Spec
 fa:Nat->Addr
 fn:Nat->Str
 aF:Nat->Addr
 cC:Nat->Str
 dH:List (Str×MV)
 fields:List (Addr×Nat)
noncomputable def lQ (b:BM) (v:MV) (C:GH):Bool:=match b with| .append| .pop=>(uu C v).isSome| .get| .d7=>(bL C v).isSome|_=>(match v with| .str _=>true|_=>false)
def oX (T:eQ) (v:MV) (f:Nat) (C:GH) (Q:MV->GH->Prop):Prop:=vL v λl=>oP (eE (C l)) λp=>bW (T.fields.contains (p.1,f)) (oP (dO f p.2) λx=>Q x C)
def oO (T:eQ) (v:MV) (f:Nat) (x:MV) (C:GH) (Q:GH->Prop):Prop:=vL v λl=>oP (eE (C l)) λp=>bW (T.fields.contains (p.1,f)&&(p.2.all (λp=>p.1 - 15==0)&&(f - 15==0&&p.2.length - 99==0))) (Q (up C l (.inst p.1 (bp f x p.2))))
structure W2 where
 e:ee->GH->(MV->GH->Prop)->(GH->Prop)->Prop
 t:ee->GH->(Bool->GH->Prop)->(GH->Prop)->Prop
structure W3 where
 one:Bool
 s:ee->GH->(List MV->GH->Prop)->(GH->Prop)->Prop
 b:Bool->ee->GH->(Bool->GH->Prop)->(GH->Prop)->Prop
 t:Bool->ee->GH->(Bool->GH->Prop)->(GH->Prop)->Prop
def Ps (Q:Bool->GH->Prop):MV->GH->Prop:=λv C=>match v with| .bool b=>Q b C|_=>False
def rN (Q:Int->GH->Prop):MV->GH->Prop:=λv C=>match v with| .int b=>Q b C|_=>False
def tl (Q:Str->GH->Prop):MV->GH->Prop:=λv C=>match v with| .str b=>Q b C|_=>False
noncomputable def IN (f:ee->GH->(MV->GH->Prop)->(GH->Prop)->Prop):W2:=⟨f,λa C Q X=>f a C (Ps Q) X⟩
section
variable (T:eQ)
mutual
noncomputable def We:PE->W2
 | .ae i=>IN λj C Q _=>oP (slot j i) λv=>Q v C
 | .ah v=>IN λ_ C Q _=>Q v C
 | .glob i=>IN λ_ C Q _=>oP (T.dH[i]?) λp=>Q p.2 C
 | .attr e f=>IN λj C Q X=>(We e).e j C (λv d=>oX T v f d Q) X
 | .aE f w=>IN λj C Q X=>(Tl w).s j C (λt d=>T.Δ f t d Q X) X
 | .ay e f w=>IN λj C Q X=>(We e).e j C (λv n=>oP (me n v) λi=>bW (Nat.beq i.1 (T.aF f)&&i.2.all λp=>wT p.1 !=T.fn f) ((Tl w).s j n (λt d=>T.Δ f (v::t) d Q X) X)) X
 | .new f w=>IN λj C Q X=>(Tl w).s j C (λt d=>dm d (.inst (T.aF f) []) λl m=>T.Δ f (.af l::t) m (λr g=>vN r (Q (.af l) g)) X) X
 | .bi b w=>IN λj C Q X=>(Tl w).s j C (λt d=>LP b t d Q) X
 | .eB e y z=>IN λj C Q X=>(We e).e j C (tl λs d=>y≠z/\s.length+(s.length+1)*z.length<=gz/\Q (.str (Txt.replace s y z)) d) X
 | .bm b e w=>IN λj C Q X=>(We e).e j C (λv n=>bW (lQ b v n) ((Tl w).s j n (λt d=>bQ b v t d Q) X)) X
 | .bin o a b=>IN λj C Q X=>(We a).e j C (λu d=>(We b).e j d (λv g=>bU o u v g Q) X) X
 | .cmp o a b=>IN λj C Q X=>(We a).e j C (λu d=>(We b).e j d (λv g=>Go o u v g λr=>Q (.bool r) g) X) X
 | .chain F B a b c=>IN λj C Q X=>(We a).e j C (λu d=>(We b).e j d (λv g=>Go F u v g λr=>if r then (We c).e j g (λx m=>Go B v x m λr=>Q (.bool r) m) X else Q (.bool false) g) X) X
 | .aI and A=>⟨λj C Q X=>(Tl A).b and j C (λb d=>Q (.bool b) d) X,(Tl A).t and⟩
 | .bF a=>⟨λj C Q X=>(We a).e j C (Ps λb d=>Q (.bool (!b)) d) X,λj C Q X=>(We a).t j C (λb d=>Q (!b) d) X⟩
 | .neg a=>IN λj C Q X=>(We a).e j C (rN λi d=>Q (.int (-i)) d) X
 | .ite c a b=>IN λj C Q X=>(We c).t j C (λr d=>if r then (We a).e j d Q X else (We b).e j d Q X) X
 | .sub a i=>IN λj C Q X=>(We a).e j C (λu d=>(We i).e j d (λv g=>dn u v g Q) X) X
 | .slice k a=>IN λj C Q X=>(We a).e j C (λu d=>eO k u d Q) X
 | .tup A=>IN λj C Q X=>(Tl A).s j C (λt d=>Q (.tup t) d) X
 | .list A=>IN λj C Q X=>(Tl A).s j C (λt d=>NG t d Q) X
 | .dict J A=>IN λj C Q X=>(Tl A).s j C (λt d=>J.Nodup/\dm d (.aM J t) λl g=>Q (.af l) g) X
 | .iD=>IN λ_ C Q _=>dm C (.aT [] []) λl g=>Q (.af l) g
 | .cg i H el=>IN λj C Q X=>(We H).e j C (λv d=>oP (wE d v) λE=>E.length<=1000/\
  FF (λx K=>(We el).e (j.set i (some x)) d (λy g=>g=d/\K y) λ_=>False) E λL=>Q (.lst L) d) X
 | .f6 i H k e=>IN λj C Q X=>(We H).e j C (λv d=>oP (wE d v) λE=>E.length<=1000/\
  FF (λx K=>(We k).e (j.set i (some x)) d (λu g=>g=d/\(match u with| .int _=>True|_=>False)/\(We e).e (j.set i (some x)) d (λy m=>m=d/\K (.tup [u,y])) λ_=>False) λ_=>False) E
   λI=>Q (.bq (YU I).1 (YU I).2) d) X
 | .refused i P q e=>IN λj C Q _=>C (.code i)=some (.tab P q)/\(We e).e j C (λ_ d=>Q (.bool false) d) (λd=>Q (.bool true) d)
 | .bad=>IN λ_ _ _ _=>False
noncomputable def Tl:BY->W3
 | .nil=>⟨true,λ_ C Q _=>Q [] C,λand _ C Q _=>Q and C,λand _ C Q _=>Q and C⟩
 | .cons e g=>⟨false,λc C Q X=>(We e).e c C (λv a=>(Tl g).s c a (λj d=>Q (v::j) d) X) X,
  λand c C Q X=>bif (Tl g).one then (We e).e c C (Ps Q) X else (We e).e c C (Ps λb a=>if b=and then (Tl g).b and c a Q X else Q b a) X,
  λand c C Q X=>(We e).t c C (λb a=>if b=and then (Tl g).t and c a Q X else Q b a) X⟩
end
def ir (p:PE):ee->GH->(MV->GH->Prop)->(GH->Prop)->Prop:=(We T p).e
def LM (p:PE):ee->GH->(Bool->GH->Prop)->(GH->Prop)->Prop:=(We T p).t
def wP (p:BY):ee->GH->(List MV->GH->Prop)->(GH->Prop)->Prop:=(Tl T p).s
def i9 (and:Bool) (p:BY):ee->GH->(Bool->GH->Prop)->(GH->Prop)->Prop:=(Tl T p).b and
def ip (and:Bool) (p:BY):ee->GH->(Bool->GH->Prop)->(GH->Prop)->Prop:=(Tl T p).t and
def OR:Na->ee->GH->MV->(ee->GH->Prop)->Prop| .ae i,a,C,v,Q=>OP i v a Q C| .attr e f,a,C,v,Q=>ir T e a C (λu c=>oO T u f v c (Q a)) λ_=>False| .sub e i,a,C,v,Q=>ir T e a C (λu c=>ir T i a c (λk d=>gb u k v d (Q a)) λ_=>False) λ_=>False| .tup ts,a,C,v,Q=>(match v with| .tup g=>ts.length=g.length/\gV ts g a C Q|_=>False) where gV:List Na->List MV->ee->GH->(ee->GH->Prop)->Prop|t::ts,v::g,a,C,Q=>OR t a C v λj l=>gV ts g j l Q|_,_,a,C,Q=>Q a C
noncomputable def gG:List Nat->List MV->ee->ee| [],_,a=>a|i::is,c,a=>match c with| []=>a|v::c=>gG is c (a.set i (some v))
set_option backward.eqns.nonrecursive false in noncomputable def isInt:MV->Bool| .int _=>true|_=>false
noncomputable def chars (s:Str):List MV:=s.cps.toList.map λc=> .str ⟨#[c]⟩
def mN:IK->ee->GH->(List MV->(GH->Prop)->GH->Prop)->Prop| .plain e,k,C,Q=>ir T e k C (λv c=>(match v with| .str s=>s.length<=gz/\Q (chars s) (λ_=>True) c|v=>oP (wE c v) λg=>g.length<=gz/\Q g (λd=>wE d v=some g) c)) λ_=>False| .range e,k,C,Q=>ir T e k C (λv c=>(match v with| .int n=>0<=n/\n<=1000/\Q ((List.range n.toNat).map λi:Nat=> .int i) (λ_=>True) c|_=>False)) λ_=>False| .zip a b,k,C,Q=>ir T a k C (λu c=>ir T b k c (λv d=>oP (uu d u) λg=>oP (uu d v) λl=>g.length=l.length/\g.length<=gz/\g.all isInt=true/\Q ((g.zip l).map λp=> .tup [p.1,p.2]) (λj=>uu j u=some g/\uu j v=some l) d) λ_=>False) λ_=>False
def lF (c:IK) (a:GH) (N:ee->GH->Prop):ee->GH->Prop:=match c with| .range _=>Dr a N|_=>N
def io:PS->ee->GH->(ee->GH->Prop)->(MV->GH->Prop)->(GH->Prop)->Prop| .assign t e,g,C,N,_,X=>ir T e g C (λv d=>OR T t g d v N) X| .iC J i A el,g,C,N,_,X=>ir T A g C (λv d=>oP (wE d v) λz=>z.length<=1000/\FF (λx K=>ir T el (g.set i (some x)) d (λy j=>j=d/\K y) λ_=>False) z λH=>dm d (.list H) λl j=>OP J (.af l) g N j) X| .dG is F,g,C,N,_,X=>wP T F g C (λE d=>E.length=is.length/\(∀i∈is,i<g.length)/\is.Nodup/\N (gG is E g) d) X| .aug i o e,g,C,N,_,X=>oP (slot g i) λu=>ir T e g C (λv d=>match o,u,v with| .add,.int a,.int b=>OP i (.int (a+b)) g N d|_,_,_=>False) X| .expr e,g,C,N,_,X=>ir T e g C (λ_ d=>N g d) X| .ret e,g,C,_,R,X=>ir T e g C R X| .aB c a b,g,C,N,R,X=>LM T c g C (λr d=>if r then io a g d N R X else io b g d N R X) X| .cG c b,g,C,N,R,_=>wO (λn I p B=>LM T c p B (λr d=>if r then io b p d (λk j=>∃m,m<n/\I m k j) R (λ_=>False) else N p d) λ_=>False) g C| .aS t A b,g,C,N,R,_=>mN T A g C λz w d=>eX (λp B x K=>OR T t p B x λk j=>io b k j K R λ_=>False) (lF A d) N z z.length w g d| .raise e,g,C,_,_,X=>ir T e g C (λ_ d=>X d) X| .seq a b,g,C,N,R,X=>io a g C (λq d=>io b q d N R X) R X| .skip,g,C,N,_,_=>N g C| .bad,_,_,_,_,_=>False
end
section
variable (ao:Program) (w:World) (dL:Heap)
structure sK (g:G) (s:Shared) (g':G) (s':Shared):Prop where
 rel:f8 ao w dL g' s'.heap
 ext:ga (λ_=>False) g s.heap g' s'.heap
 gens:s'.gens=s.gens
 os:s'.os=s.os
inductive fk (h base:Heap) (e X:Addr) (a0:Value):Prop|mk (oe:Obj) (vs:Array Value) (T:Addr) (oT:Obj) (ts:Array Value) (_:h.get? e=some oe) (_:oe.cls= .ref X/\vs[0]? =some a0) (_:oe.data= .fields vs) (_:vs[1]? =some (.ref T)) (_:base.get? T=none) (_:T≠e) (_:h.get? T=some oT) (_:oT.cls= .type "traceback") (_:oT.data= .fields ts) (_:ts[3]? =some .none)
inductive Dt (X:Addr) (h:Heap) (e:Addr) (a0:Value):Prop|mk (oe:Obj) (vs:Array Value) (_:h.get? e=some oe) (_:oe.cls= .ref X) (_:oe.data= .fields vs) (_:vs[1]? =some .none) (_:vs[0]? =some a0)
inductive dh (X:Addr) (h:Heap) (e:Value) (s':Shared):Prop|mk (ea:Addr) (a0:Value) (_:e= .ref ea) (_:h.get? ea=none) (_:Dt X s'.heap ea a0\/fk s'.heap h ea X a0)
inductive u7 (g:G) (s:Shared) (Q:MV->GH->Prop) (v:Value) (s':Shared):Prop|mk (g':G) (mv:MV) (_:sK ao w dL g s g' s') (_:VR ao w g' s'.heap mv v) (_:Q mv g'.C)
inductive iR (g:G) (s:Shared) (Q:GH->Prop) (s':Shared):Prop|mk (g':G) (_:sK ao w dL g s g' s') (_:Q g'.C)
inductive EU (X:Addr) (g:G) (s:Shared) (Q:GH->Prop) (e:Value) (s':Shared):Prop|mk (g':G) (_:sK ao w dL g s g' s') (_:dh X s.heap e s') (_:Q g'.C)
end
section
variable {ao:Program} {w:World} {dL:Heap}
theorem ga.alive (x:ga S g h E y) (B:f8 ao w dL E y) (L:∀a,S a->∃o,y.get? a=some o) (e:h.get? a=some o):∃A,y.get? a=some A:=by by_cases q:g.aK a;refine to q (λt=>?_) λq=>?_;revert t;refine ac λl H N=>?_;refine im (λJ I F=>?_) (x.af l H);exact B.lt (l:=l) ⟨J,by rw [I,F];exact N⟩;refine im (λY Y=>ac λA j Y=>?_) (B.aG a (x.pv▸q));exact ⟨A,j⟩;by_cases r:S a;exact L a r;refine to (x.keep a o e q r) (λj=>?_) λt=>?_;exact ⟨_,j⟩;revert t;refine aa λY=>am λP j=>?_;exact ⟨_,j⟩
theorem sK.refl (R:f8 ao w dL g s.heap):sK ao w dL g s g s:=⟨R,.refl _ _ _,rfl,rfl⟩
theorem sK.trans (x:sK ao w dL g s B E) (y:sK ao w dL B E j A):sK ao w dL g s j A:=⟨y.rel,x.ext.trans y.ext,y.gens.trans x.gens,y.os.trans x.os⟩
theorem VR.post (P:sK ao w dL g s j y) (R:f8 ao w dL g s.heap) (x:VR ao w g s.heap m v):VR ao w j y.heap m v:=VR.ext P.ext IS R x
theorem br.post (P:sK ao w dL g s j y) (R:f8 ao w dL g s.heap) (x:br ao w g s.heap m v):br ao w j y.heap m v:=br.ext P.ext IS R x
theorem i4.post (P:sK ao w dL g s y B) (S:i4 ao w dL A j aj E g s):i4 ao w dL A j aj E y B:=S.ext P.ext P.rel
theorem u7.trans (P:sK ao w dL g s A B) (x:u7 ao w dL A B Q v y):u7 ao w dL g s Q v y:=let ⟨j,mv,a,b,c⟩:=x;⟨j,mv,P.trans a,b,c⟩
theorem iR.trans (P:sK ao w dL g s A B) (x:iR ao w dL A B Q y):iR ao w dL g s Q y:=let ⟨j,a,c⟩:=x;⟨j,P.trans a,c⟩
theorem dh.qv (P:sK ao w dL g s Q A) (x:dh X A.heap e j):dh X s.heap e j:=by
 have old:∀a,A.heap.get? a=none->s.heap.get? a=none:=λa q=>by cases h:s.heap.get? a with|none=>rfl|some o=>refine am (λR y=>?_) (P.ext.alive P.rel (λ_ q=>q.elim) h);rw [q] at y;injection y
 obtain ⟨ea,L,rfl,hn,h⟩:=x;refine ⟨ea,L,rfl,old _ hn,h.imp id λh=>?_⟩;obtain ⟨H,N,T,oT,ts,a,b,c,d,f,I,B,J,F,E⟩:=h;exact ⟨H,N,T,oT,ts,a,b,c,d,old _ f,I,B,J,F,E⟩
theorem EU.trans (P:sK ao w dL g s A B) (x:EU ao w dL X A B Q e y):EU ao w dL X g s Q e y:=let ⟨j,a,b,c⟩:=x;⟨j,P.trans a,b.qv P,c⟩
theorem sK.toks (R:f8 ao w dL g s.heap):sK ao w dL g s g {s with toks:=j}:=⟨R,.refl _ _ _,rfl,rfl⟩
theorem u7.val (R:f8 ao w dL g s.heap) (V:VR ao w g s.heap mv v) (q:Q mv g.C):u7 ao w dL g s Q v {s with toks:=j}:=⟨g,mv,.toks R,V,q⟩
theorem u7.here (R:f8 ao w dL g s.heap) (V:VR ao w g s.heap mv v) (q:Q mv g.C):u7 ao w dL g s Q v s:=⟨g,mv,.refl R,V,q⟩
theorem f8.rA (R:f8 ao w dL g h) (ha:h.get? a=none):¬g.aK a:=by rintro (⟨l,q⟩|q);refine am (λo e=>?_) (R.lt q);rw [ha] at e;injection e;refine im (λY Y=>ac λo e Y=>?_) (R.aG _ q);rw [ha] at e;injection e
theorem f8.fresh (R:f8 ao w dL g h):¬g.aK h.objs.size:=R.rA (by cases e:h.get? h.objs.size with|none=>rfl|some o=>exact absurd (r8 e) (RI _))
theorem f8.push (R:f8 ao w dL g h) o:f8 ao w dL g (h.push o):=R.grow (λ_ _ e=>AL _ e) (by rw [DO];exact s4 _)
theorem ga.push o:ga S g h g (h.push o):= .grow (λ_ _ e=>AL _ e) (by rw [DO];exact s4 _)
theorem zh (R:f8 ao w dL g s.heap) (V:br ao w g s.heap d c) (q:NG d g.C Q):u7 ao w dL g s Q (.ref s.heap.objs.size) {s with heap:=s.heap.push (Cn c n),toks:=tk}:=by
 have k:∀a o,s.heap.get? a=some o->(s.heap.push (Cn c n)).get? a=some o:=λ_ _ e=>AL _ e;have j:s.heap.objs.size<=(s.heap.push (Cn c n)).objs.size:=by rw [DO];exact s4 _
 haveI p:(s.heap.push (Cn c n)).get? s.heap.objs.size=some (Cn c n):=LF _ rfl;rcases q with q|⟨l,m,q⟩;refine ⟨g,.lst d,⟨R.push _,.push _,rfl,rfl⟩,?_,q⟩;exact ⟨_,n,c,rfl,p,R.fresh,br.ext (ga.push (Cn c n)) IS R V⟩;haveI E:ga (λ_=>False) g s.heap (g.add l (.list d) s.heap.objs.size s.heap.objs.size) (s.heap.push (Cn c n)):=ga.add m k j (lv _) (lv _);have r:f8 ao w dL (g.add l (.list d) s.heap.objs.size s.heap.objs.size) (s.heap.push (Cn c n)):=R.add m k j (lv _) (lv _) ⟨by rw [G.bc,G.gU],n,c,by rw [G.bc];exact p,br.ext E IS R V⟩;exact ⟨_,.af l,⟨r,E,rfl,rfl⟩,⟨by rw [G.bc],by rw [G.kI,bM];rfl⟩,q⟩
end
section
theorem cR:VR a w g h (.int i) (.int i t):=(⟨t,rfl⟩:∃c,Value.int i t= .int i c)
theorem mo:VR a w g h (.bool b) (.bool b):=(rfl:Value.bool b= .bool b)
theorem A3:VR a w g h .none .none:=(rfl:Value.none= .none)
theorem fO:VR a w g h (.str x) (.str x t):=(⟨t,rfl⟩:∃c,Value.str x t= .str x c)
theorem br.len:∀{l:List MV} {A:List Value},br j w g h l A->A.length=l.length| [],_,y=>by rw [y];rfl|m::l,_,y=>by revert y;refine pi λv r=>?_;rintro rfl Y b;rw [kU,kU,br.len b]
theorem br.append:∀{l B:List MV} {E j:List Value},br A w g h l E->br A w g h B j->br A w g h (l++B) (E++j)| [],_,_,_,y,z=>by rw [y];exact z|m::l,B,_,j,y,z=>by refine pi (λv r=>?_) y;rintro rfl a b;exact ⟨v,r++j,rfl,a,br.append b z⟩
theorem br.nil:br j w g h [] []:=rfl
theorem br.cons (a:VR j w g h m v) (b:br j w g h l y):br j w g h (m::l) (v::y):=by exact ⟨v,y,rfl,a,b⟩
theorem br.one (a:VR j w g h m v):br j w g h [m] [v]:= .cons a .nil
theorem br.get:∀{l:List MV} {A:List Value} {i:Nat} {m:MV},br j w g h l A->l[i]? =some m->∃v,A[i]? =some v/\VR j w g h m v| [],_,_,_,_,e=>by simp at e|m::l,_,i,B,y,e=>by revert y;refine pi λv r=>?_;rintro rfl a b;induction i using Nat.casesOn with|zero=>simp only [List.getElem?_cons_zero,Option.some.injEq] at e⊢;subst e;exact ⟨v,rfl,a⟩|succ i=>simp only [List.getElem?_cons_succ] at e⊢;exact br.get b e
theorem br.set:∀{l:List MV} {A:List Value} {i:Nat} {m:MV} {v:Value},br j w g h l A->VR j w g h m v->br j w g h (l.set i m) (A.set i v)| [],_,i,_,_,y,_=>by rw [y];induction i using Nat.casesOn<;>exact .nil|m::l,_,i,B,E,y,z=>by revert y;refine pi λv r=>?_;rintro rfl a b;induction i using Nat.casesOn with|zero=>exact .cons z b|succ i=>exact .cons a (br.set b z)
theorem br.drop:∀{l:List MV} {A:List Value} (n:Nat),br j w g h l A->br j w g h (l.drop n) (A.drop n)|_,_,0,y=>y| [],_,n+1,y=>by rw [y];exact .nil|m::l,_,n+1,y=>by revert y;refine pi λv r=>?_;rintro rfl a b;exact br.drop n b
theorem br.take:∀{l:List MV} {A:List Value} (n:Nat),br j w g h l A->br j w g h (l.take n) (A.take n)|_,_,0,y=> .nil| [],_,n+1,y=>by rw [y];exact .nil|m::l,_,n+1,y=>by revert y;refine pi λv r=>?_;rintro rfl a b;exact .cons a (br.take n b)
theorem br.reverse:∀{l:List MV} {A:List Value},br j w g h l A->br j w g h l.reverse A.reverse| [],_,y=>by rw [y];exact .nil|m::l,_,y=>by revert y;refine pi λv r=>?_;rintro rfl a b;rw [List.reverse_cons,List.reverse_cons];exact (br.reverse b).append (.one a)
theorem Tm (R:f8 c w k g h) (V:VR c w g h m v) (e:uu g.C m=some x):∃a n d,v= .ref a/\h.get? a=some (Cn d n)/\br c w g h x d:=by induction m using MV.casesOn with|af l=>revert V;refine aa ?_;rintro rfl Y;refine aa (λY=>tz λn d j z=>?_) (R.at_ l _ (ow e));exact ⟨_,n,d,rfl,j,z⟩|lst l=>obtain rfl:=an e;revert V;refine l6 λa n d r j=>aa λY z=>?_;exact ⟨a,n,d,r,j,z⟩|_=>cases (show (none:Option (List MV))=some x from e)
theorem s5 (h:oP o Q):∃x,o=some x/\Q x:=by induction o using Option.casesOn with|none=>exact h.elim|some x=>exact ⟨x,rfl,h⟩
theorem int64 (h:a.natAbs<2^63):Builtin.Int.intBits a<=64:=by unfold Builtin.Int.intBits;split;exact Pc _;rename_i q;have:a.natAbs≠0:=λz=>q (by simp [Int.natAbs_eq_zero.mp z]);have:=(Nat.log2_lt this).mpr h;exact be (by assumption) (by decide)
theorem Lw {b:Int} (h:0<b):a.fdiv b=a/b:=by rw [Int.fdiv_eq_ediv_of_nonneg _ (CI h)]
theorem Ip {b:Int} (h:0<b):a.fmod b=a%b:=by rw [Int.fmod_eq_emod_of_nonneg _ (CI h)]
theorem Kb {b:Int} (a:0<b) (c:b<2^62):b.natAbs.log2<9000:=by haveI d:b.natAbs≠0:=Int.natAbs_ne_zero.mpr (Int.ne_of_gt a);have:=(Nat.log2_lt d).mpr (show b.natAbs<2^62 from ef.mp ((Int.natAbs_of_nonneg (Int.le_of_lt a)).symm▸c));exact be (by assumption) (by decide)
theorem bO:gz<=sizeLine:=by unfold gz sizeLine;decide
theorem MY {o:BO} (R:f8 j w p g s.heap) (C:VR j w g s.heap a u) (F:VR j w g s.heap b v) (q:bU o a b g.C Q):wpAny (model j w) A (binaryOp (mz o) u v) (u7 j w p g s Q) E s:=by
 have B:∀{k:Int->Int->Prop} {G:Prop},(vI a λa=>vI b λb=>k a b)->(∀x y t m,u= .int x t->v= .int y m->k x y->G)->G:=λq f=>by refine pi (λx y=>?_) (vz q);rintro rfl rfl q;revert C;refine am λt e=>?_;revert F;refine am λm l=>?_;exact f x y t m e l q
 induction o using BO.casesOn with|add=>((have r:(oP (uu g.C a) λx=>oP (uu g.C b) λy=>x.length+y.length<=gz/\NG (x++y) g.C Q)->wpAny (model j w) A (binaryOp (mz .add) u v) (u7 j w p g s Q) E s:=λq=>by refine ac (λx L q=>?_) (s5 q);refine ac (λy J q=>?_) (s5 q);refine l6 (λc n S=>?_) (Tm R C L);rintro rfl N H;refine l6 (λd T M=>?_) (Tm R F J);rintro rfl hd I;refine P.add_list N hd ?_ (by rw [KT,KT,H.len,I.len];exact be q.1 bO);have:=zh (tk:=s.toks) (n:=0) R (H.append I) q.2;rw [List.append_toArray];exact this);induction a using MV.casesOn with|int x=>refine ac (λy=>?_) (kq q);rintro rfl q;revert C;refine am λt=>?_;rintro rfl;revert F;refine am λm=>?_;rintro rfl;exact wpAny_add_int (.val R cR q)|str x=>refine ac (λy=>?_) (bV q);rintro rfl q;revert C;refine am λt=>?_;rintro rfl;revert F;refine am λm=>?_;rintro rfl;exact PyProof.Rows.add_str (λm O=> .val R fO q.2) (be q.1 bO)|_=>exact r q)|sub=>exact B q λx y t m e l q=>by rw [e,l];exact P.sub_int (.val R cR q)|mul=>exact B q λx y t m e l q=>by rw [e,l];exact mul_int (.val R cR q.2) (q.1.elim (λz=> .of_left (int64 z)) λz=> .of_right (int64 z))|mod=>exact B q λx y t m e l q=>by rw [e,l];exact mod_int' (Int.ne_of_gt q.1) (.val R (by rw [Ip q.1];exact cR) q.2.2)|fdiv=>exact B q λx y t m e l q=>by rw [e,l];exact floordiv_int (Int.ne_of_gt q.1) (.val R (by rw [Lw q.1];exact cR) q.2.2) (.inl (PyProof.noPylong_of_log2 (Kb q.1 q.2.1)))|pow=>exact B q λx y t m e l q=>by rw [e,l];exact pow_int_small q.2.1 (by lia) (by lia) (.val R cR q.2.2.2)
end
section
open PySem PySem.W PySem.Calls PyProof.Rows PySem.SeqAt
section
set_option tactic.hygienic true in theorem tZ (e:iJ a b=some r) (j:VR c w g h a u) (d:VR c w g h b v):EqAt A s u v r/\RcAt A s u v r/\RcNeAt A s u v (!r):=by
 induction a using MV.casesOn<;>try injection e
 rename_i x;refine ac (λy=>?_) (JV e);rintro rfl e;revert j;refine am λt=>?_;rintro rfl;revert d;refine am λk=>?_;rintro rfl;obtain rfl:=an e;haveI q:decide (x=y)=(x==y):=rfl;exact ⟨λc w E Q h=>wpAny_eqBool_int h,.int_int _ _ _ _,.int_int _ _ _ _⟩;rename_i x;refine ac (λy=>?_) (sH e);rintro rfl e;revert j;refine am λt=>?_;rintro rfl;revert d;refine am λk=>?_;rintro rfl;obtain rfl:=an e;have q:decide (x=y)=(x==y):=by by_cases z:x=y<;>simp [z]
 rw [q];exact ⟨λc w E Q h=>wpAny_eqBool_str (q▸h),.str_str _ _ _ _,.str_str _ _ _ _⟩
theorem Ld (e:ik a b=some r) (y:br d w g h a c) (z:br d w g h b k):c.length=k.length/\∃f:Nat->Bool,(∀(j:Nat) (l:j<c.length) (m:j<k.length),EqAt A s c[j] k[j] (f j))/\(List.range c.length).all f=r:=by induction a generalizing b c k r with|nil=>(induction b using List.casesOn with|nil=>subst y z;obtain rfl:=an e;exact ⟨rfl,λ_=>true,λj l=>absurd l (fT _),rfl⟩|cons _ _=>injection e)|cons a H t=>induction b using List.casesOn with|nil=>injection e|cons b bs=>refine s3 λ_ p=>?_;revert y;refine pi λu c=>?_;rintro rfl x y;revert z;refine pi λv k=>?_;rintro rfl E z;refine ac (λn e1 e=>?_) (nG.mp e);refine ac (λF q=>?_) (YI.mp e);rintro rfl;refine aa (λB=>ac λf C o=>?_) (t q y z);refine p ?_;refine ⟨l9 (· +1) B,λj=>match j with|0=>n|j+1=>f j,λj l m=>?_,?_⟩;(induction j using Nat.casesOn with|zero=>exact (tZ e1 x E).1|succ j=>exact C j (Nat.lt_of_succ_lt_succ l) (Nat.lt_of_succ_lt_succ m));rw [kU,List.range_succ_eq_map,List.all_cons,List.all_map,<- o];rfl
theorem Jq (I:A.units<cLine) (e:Ej a b=some r) (p:VR m w g s.heap a u) (l:VR m w g s.heap b v):RcAt A s u v r/\RcNeAt A s u v (!r):=by have no:∀{G:Prop},(none:Option Bool)=some r->G:=λe=>nomatch e;induction a using MV.casesOn with|none=>(obtain rfl:=p;induction b using MV.casesOn with|none=>obtain rfl:=l;obtain rfl:=an e;exact ⟨.none_none,.none_none⟩|str y=>revert l;refine am λt=>?_;rintro rfl;obtain rfl:=an e;exact ⟨.none_str _ _,.none_str _ _⟩|_=>exact no e)|str x=>(induction b using MV.casesOn with|none=>revert p;refine am λt=>?_;rintro rfl;obtain rfl:=l;obtain rfl:=an e;exact ⟨.str_none _ _,.str_none _ _⟩|str y=>exact (tZ (show iJ (.str x) (.str y)=some r from e) p l).2|_=>exact no e)|int x=>(induction b using MV.casesOn with|int y=>exact (tZ (show iJ (.int x) (.int y)=some r from e) p l).2|_=>exact no e)|tup x=>(induction b using MV.casesOn with|tup y=>refine s3 λ_ L=>?_;revert p;refine rb λc n d T o=>pt ?_;rintro rfl S Y y;revert l;refine rb λP N U O k=>pt ?_;rintro rfl B Y z;refine aa (λR=>ac λf M Q=>?_) (Ld (A:=A.in1) (s:=s) e y z);haveI F:s.heap.IsTuple c o.toArray:=⟨_,S,rfl,n,rfl⟩;haveI H:s.heap.IsTuple P k.toArray:=⟨_,B,rfl,N,rfl⟩;(haveI q:((List.range (min o.toArray.size k.toArray.size)).all f&&o.toArray.size==k.toArray.size)=r:=by rw [KT,KT,<- R,Nat.min_self,Q];simp);have E:∀(j:Nat) (J:j<o.toArray.size) (C:j<k.toArray.size),EqAt A.in1 s o.toArray[j] k.toArray[j] (f j):=λj J C=>M j (by simpa using J) (by simpa using C);refine L ?_;exact ⟨q▸RcAt.tuples F H I E,q▸RcNeAt.tuples F H I E⟩|_=>exact no e)|_=>exact no e
theorem lA (e:GE l=some a) (y:br c w g h l d):StrsAre d a:=by induction l generalizing d a with|nil=>obtain rfl:=y;obtain rfl:=an e;exact .nil|cons m l j=>refine ac (λx=>?_) (sH e);rintro rfl e;revert y;refine pi λv r=>?_;rintro rfl;refine am λt=>?_;rintro rfl z;refine ac (λa e1=>?_) (YI.mp e);rintro rfl;exact .cons x t (j e1 z)
theorem oB (a:List Str) x:a.any (· ==x)=decide (x∈a):=List.any_beq'.trans (List.elem_eq_mem ..)
theorem yp {x:Str}:(valueAt a x).isSome=decide (x∈a.map (·.1)):=by unfold valueAt;rw [Option.isSome_map,Bool.eq_iff_iff,List.find?_isSome,decide_eq_true_iff,e8];exact exists_congr λp=>and_congr_right λ_=>decide_eq_true_iff
theorem jY (R:f8 j w k g h) (lo:sysModules<k.objs.size) (V:VR j w g h m v) (e:bL g.C m=some d):∃a c,v= .ref a/\h.DictOf (strKind j w) a c/\(a==sysModules)=false/\c.map (·.1)=d.1/\br j w g h d.2 (c.map (·.2)):=by induction m using MV.casesOn with|af l=>revert V;refine aa ?_;rintro rfl Y;haveI q:=lP e;refine aa (λY=>nw λc hd n z=>?_) (R.at_ l _ q);refine ⟨_,c,rfl,hd,?_,n,z⟩;have:=R.above l (g.ι l) ⟨by rw [q];rfl,.inl rfl⟩;exact hO.mpr (BN (this.2.elim (Op lo) id))|aQ t p=>obtain rfl:=an e;revert V;refine Cc λa c r hd o=>im λY n z=>?_;exact ⟨a,c,r,hd,hO.mpr (BN o),n,z⟩|_=>cases (show (none:Option (List Str×List MV))=some d from e)
theorem XY {a:Str} {b:MV} (R:f8 j w m g s.heap) (lo:sysModules<m.objs.size) (V:VR j w g s.heap b v) (q:cz a b g.C Q) (k:∀r B,Q r->P (.bool r) {s with toks:=B}):wpAny (model j w) A (compareOp .In (.str a t) v) P E s:=by
 have dict:∀(d:List Str×List MV),bL g.C b=some d->Q (decide (a∈d.1))->wpAny (model j w) A (compareOp .In (.str a t) v) P E s:=λd e q=>by refine Cc (λc y=>?_) (jY R lo V e);rintro rfl hd o;refine aa λC Y=>?_;exact wpAny_in_of (strKind_is j w a t) o hd.mapOf (k _ _ (by rw [yp,C];exact q))
 induction b using MV.casesOn with|str x=>revert V;refine am λH=>?_;rintro rfl;exact SB.contains (k _ s.toks q)|aQ L J=>exact dict _ rfl q|af l=>refine ac (λd e q=>?_) (s5 q);exact dict d e q|lst l=>refine ac (λF e q=>?_) (s5 q);revert V;refine l6 λc n u=>?_;rintro rfl p;refine aa λY z=>?_;exact in_list_strs ⟨_,p,rfl,n,rfl⟩ (lA e z) (by rw [oB];exact k _ s.toks q.2)|tup l=>refine ac (λF e q=>?_) (s5 q);revert V;refine rb λc n d I u=>pt ?_;rintro rfl p Y z;exact in_tuple_strs (items:=u.toArray) ⟨_,p,rfl,n,rfl⟩ (lA e z) (by rw [oB];exact k _ s.toks q.2)|_=>exact q.elim
theorem XH {a:Str} {b:MV} (R:f8 j w m g s.heap) (lo:sysModules<m.objs.size) (V:VR j w g s.heap b v) (q:cz a b g.C Q) (k:∀r B,Q r->P (.bool (!r)) {s with toks:=B}):wpAny (model j w) A (compareOp .NotIn (.str a t) v) P E s:=by
 have dict:∀(d:List Str×List MV),bL g.C b=some d->Q (decide (a∈d.1))->wpAny (model j w) A (compareOp .NotIn (.str a t) v) P E s:=λd e q=>by refine Cc (λc y=>?_) (jY R lo V e);rintro rfl hd o;refine aa λC Y=>?_;exact wpAny_notIn_of (strKind_is j w a t) o hd.mapOf (k _ _ (by rw [yp,C];exact q))
 induction b using MV.casesOn with|str x=>revert V;refine am λH=>?_;rintro rfl;exact SB.notContains (k _ s.toks q)|aQ L J=>exact dict _ rfl q|af l=>refine ac (λd e q=>?_) (s5 q);exact dict d e q|lst l=>refine ac (λF e q=>?_) (s5 q);revert V;refine l6 λc n u=>?_;rintro rfl p;refine aa λY z=>?_;exact notin_list_strs ⟨_,p,rfl,n,rfl⟩ (lA e z) (by rw [oB];exact k _ s.toks q.2)|tup l=>refine ac (λF e q=>?_) (s5 q);revert V;refine rb λc n d I u=>pt ?_;rintro rfl p Y z;exact notin_tuple_strs (items:=u.toArray) ⟨_,p,rfl,n,rfl⟩ (lA e z) (by rw [oB];exact k _ s.toks q.2)|_=>exact q.elim
theorem QP (l:A.units<cLine) (v:s.heap.get? c=some (Cn o n)) (hd:s.heap.get? d=some (Cn [] u)) (z:br q w g s.heap x o):RcAt A s (.ref c) (.ref d) (decide (x=[]))/\RcNeAt A s (.ref c) (.ref d) (!decide (x=[])):=by have m:s.heap.IsList c o.toArray:=⟨_,v,rfl,n,rfl⟩;have k:s.heap.IsList d ([]:List Value).toArray:=⟨_,hd,rfl,u,rfl⟩;have t:=z.len;induction x using List.casesOn with|nil=>(have:o=[]:=by simpa using t);subst this;exact ⟨RcAt.lists (e:=λ_=>true) m k rfl l λj p=>absurd p (fT _),RcNeAt.lists (e:=λ_=>true) m k rfl l λj p=>absurd p (fT _)⟩|cons a r=>(have:(o.toArray.size !=([]:List Value).toArray.size)=true:=by rw [KT,t];rfl);exact ⟨RcAt.lists_lengths m k this l,RcNeAt.lists_lengths m k this l⟩
end
end
section
open PySem PySem.W PySem.Calls PyProof.Rows PySem.SeqAt
section
variable {K:Type} [DecidableEq K] {eZ:HeapKind ao w K}
inductive c9 (A:Around) (s:Shared) (kb:List (K×Addr×Value)):List (K×Addr×Value)->Bool->Prop|nil:c9 A s kb [] true|miss {k:K} {c:Addr} {v:Value} {r:List (K×Addr×Value)}:atKey kb k=none->c9 A s kb ((k,c,v)::r) false|hit {k:K} {c d:Addr} {v y:Value} {r:List (K×Addr×Value)} {e b:Bool}:atKey kb k=some (d,y)->EqAt A s v y e->c9 A s kb r b->c9 A s kb ((k,c,v)::r) (e&&b)
theorem c9.inv {r:List (K×Addr×Value)} (h:c9 A s j ((k,c,v)::r) b):(atKey j k=none/\b=false)\/∃d y e B,atKey j k=some (d,y)/\EqAt A s v y e/\c9 A s j r B/\b=(e&&B):=by cases h with|miss hn=>exact .inl ⟨hn,rfl⟩|hit E he F=>exact .inr ⟨_,_,_,_,E,he,F,rfl⟩
theorem ye {M:List (K×Addr×Value)} (hu:eZ.room A) (ha:(a==sysModules)=false) (hb:(b==sysModules)=false) (da:s.heap.DictOfH eZ a C) (db:s.heap.DictOfH eZ b M) (ab:C.length=M.length->c9 A s M C r) (h:Q (C.length==M.length&&r) s):wpAny (model ao w) A (Builtin.Dict.samePairs nm a b) Q E s:=by
 revert da;refine l6 λoa l ep B Y=>pt λz S as Y=>?_;revert db;refine l6 λob V a0 O Y=>pt λF N ar ai=>?_;have u:=(size_of_entries S).symm;have Z:=(size_of_entries N).symm;rw [u,Z] at h;unfold Builtin.Dict.samePairs Builtin.Dict.showsAll;rw [al (show ¬(a==sysModules)=true by rw [ha];exact bJ),al (show ¬(b==sysModules)=true by rw [hb];exact bJ)];refine ff (i8 (ff (i8 ?_)));refine ff (wpAny_dictEntries B z ?_);dsimp only;refine ff (wpAny_dictEntries O F ?_);by_cases o:l.size=V.size;case neg=>rw [bn (by simpa using o)];(haveI ax:(l.size==V.size)=false:=by simpa using o);rw [ax,Bool.false_and] at h;exact ff (wpAny_rule (i8 h))
 case pos=>(have T:Q r s:=by simpa [o] using h);have J:=ab (by rw [u,Z];exact o);rw [al (by rw [o];simp)];refine ff (wpAny_dictEpoch B z ?_);refine ff ?_;rw [Std.Legacy.Range.forIn_eq_forIn_range'];refine er (show Std.Legacy.Range.size [:l.size]=l.size from Nat.div_one _) ?_;refine wpAny_forIn_list _ (λn q s'=>s'=s/\q=(none,())/\∃i,n=List.range' i (l.size - i)/\i<=l.size/\c9 A s M (C.drop i) r) _ ?_ ?_ _ _ ⟨rfl,rfl,0,rfl,Pc _,J⟩;intro x n q s';refine im ?_;rintro rfl rfl;refine nw λi P hi g=>?_;(have I:i<l.size:=by refine to (Nat.lt_or_ge i l.size) (λh=>?_) λh=>?_;exact h;rw [Nat.sub_eq_zero_of_le h] at P;simp at P);refine s3 λ_ kk=>?_;(obtain ⟨rfl,R⟩:x=i/\n=List.range' (i+1) (l.size -(i+1)):=by haveI e:=Ax I;rw [e,List.range'_succ] at P;injection P with h1 h2;exact ⟨h1,h2⟩);(have m:x<C.length:=by rw [u];exact I);obtain ⟨k,c,v,L⟩:∃k c v,C[x]=(k,c,v):=⟨_,_,_,rfl⟩;(have H:C.drop x=(k,c,v)::C.drop (x+1):=by rw [<- L];exact List.drop_eq_getElem_cons m);(haveI av:l[x]? =some (entryOfKey eZ (k,c,v)):=by rw [entry_at S x,GS m,L];rfl);refine kk ?_;refine ff (wpAny_dictEntries B z ?_);rw [av];rw [H] at g;haveI W:=as (k,c,v) (L▸List.getElem_mem m);show wpAny _ _ (holding [.ref c,v] _>>=_) _ _ _;refine ff (Mn (ff (wpAny_dictFind_heap hu W O F N ar ai (λak=>?_) λj p hj=>?_)));haveI hn:atKey M k=none:=atKey_none_of_get ak;rcases g.inv with t|t;revert t;refine aa λY er=>?_;rw [er] at T;refine i8 ?_;show wpAny _ _ (if (!false)=true then _ else _) _ _ _;rw [bn (by decide)];exact i8 (i8 T);revert t;refine xw λY y Y Y hy Y=>?_;replace hy:=hn▸hy;injection hy;haveI U:atKey M k=some p:=atKey_of_get ai hj;refine ff (wpAny_dictEntries O F ?_);rw [entry_at N j,hj];refine to g.inv (aa (λhn Y=>?_)) λt=>?_;rw [U] at hn;injection hn;revert t;refine xw λd y e b' hy=>im λhe X er=>?_;haveI ey:=an (U.symm.trans hy);subst ey;refine Mn (he ao w _ _ ?_);(induction e using Bool.casesOn with|false=>rw [er,Bool.false_and] at T;show wpAny _ _ (if (!false)=true then _ else _) _ _ _;rw [bn (by decide)];exact i8 (i8 T)|true=>rw [Bool.true_and] at er;rw [<- er] at X;show wpAny _ _ (if (!true)=true then _ else _) _ _ _;rw [al (by decide)];refine ff (wpAny_dictEpoch B z ?_);rw [al (by simp)];exact i8 ⟨rfl,rfl,x+1,R,I,X⟩);intro q s';refine im ?_;rintro rfl rfl;refine nw λi P hi g=>?_;(have ap:i=l.size:=by refine to (Nat.lt_or_ge i l.size) (λh=>?_) λh=>?_;haveI e:=Ax h;rw [e,List.range'_succ] at P;injection P;exact On hi h);refine i8 ?_;rw [ap,<- u,List.drop_length] at g;cases g;exact T
theorem N4 (j:eZ.room A.in1) (m:(a==sysModules)=false) (n:(b==sysModules)=false) (d:s.heap.DictOfH eZ a g) (e:s.heap.DictOfH eZ b k) (l:A.units<cLine) (c:g.length=k.length->c9 A.in1 s k g r) (h:Q (.bool (g.length==k.length&&r)) s):wpAny (model ao w) A (compareOp .Eq (.ref a) (.ref b)) Q E s:=by refine wpAny_richCompare_same_room (op:= .Eq) d.typeIs e.typeIs PySem.F.slot_dict_eq (wpAny_call_entry PySem.F.slot_dict_eq d.typeIs PySem.F.entry_dict_eq ?_ (PySem.F.args_dict_eq_2 _ _)) l;show wpAny _ _ (Builtin.Dict.dictSlotArgs "__eq__" ⟨[.ref a,.ref b],[]⟩>>=_) _ _ s;refine ff ?_;unfold Builtin.Dict.dictSlotArgs;refine ff (wpAny_notOrdered_dict d.typeIs ?_);show wpAny _ _ (pure (Value.ref a,Value.ref b)) _ _ s;refine i8 ?_;refine ff (wpAny_isInstance (T:="dict") e.typeIs PySem.F.sub_dict_dict ?_);simp only [Bool.not_true,Bool.false_eq_true,if_false];refine ff (i8 (ff (i8 ?_)));refine ff (ye j m n d e c ?_);refine i8 ⟨_,rfl,?_,?_⟩;exact λx=>nomatch x;simpa using h
theorem HF (j:eZ.room A.in1) (m:(a==sysModules)=false) (n:(b==sysModules)=false) (d:s.heap.DictOfH eZ a g) (e:s.heap.DictOfH eZ b k) (l:A.units<cLine) (c:g.length=k.length->c9 A.in1 s k g r) (h:Q (.bool (!(g.length==k.length&&r))) s):wpAny (model ao w) A (compareOp .NotEq (.ref a) (.ref b)) Q E s:=by refine wpAny_richCompare_same_room (op:= .NotEq) d.typeIs e.typeIs PySem.F.slot_dict_ne (wpAny_call_entry PySem.F.slot_dict_ne d.typeIs PySem.F.entry_dict_ne ?_ (PySem.F.args_dict_ne_2 _ _)) l;show wpAny _ _ (Builtin.Dict.dictSlotArgs "__ne__" ⟨[.ref a,.ref b],[]⟩>>=_) _ _ s;refine ff ?_;unfold Builtin.Dict.dictSlotArgs;refine ff (wpAny_notOrdered_dict d.typeIs ?_);show wpAny _ _ (pure (Value.ref a,Value.ref b)) _ _ s;refine i8 ?_;refine ff (wpAny_isInstance (T:="dict") e.typeIs PySem.F.sub_dict_dict ?_);simp only [Bool.not_true,Bool.false_eq_true,if_false];refine ff (i8 (ff (i8 ?_)));refine ff (ye j m n d e c ?_);refine i8 ⟨_,rfl,?_,?_⟩;exact λx=>nomatch x;simpa using h
end
section
theorem y0 (R:f8 c w k g h) (lo:sysModules<k.objs.size) (V:VR c w g h m v) (e:pE g.C m=some d):∃a j,v= .ref a/\h.DictOfH (tupleKind (strKind c w)) a j/\(a==sysModules)=false/\j.map (·.1)=d.1/\br c w g h d.2 (j.map (·.2.2)):=by induction m using MV.casesOn with|af l=>revert V;refine aa ?_;rintro rfl Y;haveI q:=zK e;refine aa (λY=>nw λj hd n z=>?_) (R.at_ l _ q);refine ⟨_,j,rfl,hd,?_,n,z⟩;have:=R.above l (g.ι l) ⟨by rw [q];rfl,.inl rfl⟩;exact hO.mpr (BN (this.2.elim (Op lo) id))|bb t p=>obtain rfl:=an e;revert V;refine Cc λa j r hd o=>im λY n z=>?_;exact ⟨a,j,r,hd,hO.mpr (BN o),n,z⟩|_=>cases (show (none:Option (List (List Str)×List MV))=some d from e)
theorem strs_map (e:GE l=some a) (y:br c w g h l d):∃ts:List (Str×Tok),ts.map (·.1)=a/\d=ts.map λp=> .str p.1 p.2:=by induction l generalizing d a with|nil=>obtain rfl:=y;obtain rfl:=an e;exact ⟨[],rfl,rfl⟩|cons m l j=>refine ac (λx=>?_) (sH e);rintro rfl e;revert y;refine pi λv r=>?_;rintro rfl;refine am λt=>?_;rintro rfl z;refine ac (λa e1=>?_) (YI.mp e);rintro rfl;refine ac (λts=>?_) (j e1 z);rintro rfl rfl;exact ⟨(x,t)::ts,rfl,rfl⟩
theorem Vp {J:List (Str×Tok)} (hn:(a.map (·.1)).Nodup) (T:J.map (·.1)=C) (Z:a.map (·.2.2)=J.map λp=> .str p.1 p.2):∀{n:List (List Str×Addr×Value)} {F:List Str} {m:List (Str×Tok)},m.map (·.1)=F->n.map (·.2.2)=(m.map λp=> .str p.1 p.2)->c9 A s a n (decide (∀p∈(n.map (λx:List Str×Addr×Value=>x.1)).zip F,p∈(a.map (λx:List Str×Addr×Value=>x.1)).zip C)):=by intro n;induction n with|nil=>intro F m _ _;simp;exact .nil|cons x r ih=>obtain ⟨k,c,v⟩:=x;intro F m hu N;induction m using List.casesOn with|nil=>simp at N|cons p m=>simp only [List.map_cons,List.cons.injEq] at N;revert N;refine aa λe1 e2=>?_;subst hu e1;simp only [List.map_cons,List.zip_cons_cons,List.forall_mem_cons];(have L:∀{q:List Str×Addr×Value} {j:Nat},a[j]? =some q->∃u t,J[j]? =some (u,t)/\q.2.2= .str u t/\((a.map (·.1)).zip C)[j]? =some (q.1,u):=λ{q j} o=>by (have g:(a.map (·.2.2))[j]? =some q.2.2:=by rw [GG,o];rfl);rw [Z,GG] at g;obtain ⟨⟨u,t⟩,U,l⟩:=YI.mp g;refine ⟨u,t,U,l.symm,?_⟩;rw [List.getElem?_zip_eq_some];exact ⟨by rw [GG,o];rfl,by rw [<- T,GG,U];rfl⟩);cases B:atKey a k with|none=>(have H:¬((k,p.1)∈(a.map (·.1)).zip C):=λI=>by refine ac (λy P e=>?_) (e8.mp (List.of_mem_zip I).1);(have:(atKey a k).isSome=true:=by unfold atKey;rw [Option.isSome_map,List.find?_isSome];exact ⟨y,P,by simpa using e⟩);rw [B] at this;injection this);rw [decide_eq_false (λq=>H q.1)];exact .miss B|some dy=>refine s3 λ_ X=>?_;obtain ⟨d,y⟩:=dy;(obtain ⟨q,V,eq⟩:∃q∈a,q.1=k/\q.2=(d,y):=by unfold atKey at B;refine ac (λq g l=>?_) (YI.mp B);exact ⟨q,qG g,by simpa using List.find?_some g,l⟩);refine am (λj o=>?_) (List.mem_iff_getElem?.mp V);refine pi (λu t g l W=>?_) (L o);(haveI P:y= .str u t:=by rw [eq.2] at l;exact l);refine X ?_;subst P;(have iff:((k,p.1)∈(a.map (·.1)).zip C)↔p.1=u:=by constructor;intro I;refine am (λi M=>?_) (List.mem_iff_getElem?.mp I);rw [List.getElem?_zip_eq_some] at M;(obtain ⟨z,hz,ez⟩:∃z,a[i]? =some z/\z.1=k:=by have:=M.1;rw [GG] at this;exact YI.mp this);(haveI O:i=j:=by (haveI S:(a.map (·.1))[i]? =some k:=by rw [GG,hz];exact l9 some ez);(haveI Y:(a.map (·.1))[j]? =some k:=by rw [GG,o];exact l9 some eq.1);exact (List.getElem?_inj (BB.mp S).1 hn).mp (S.trans Y.symm));subst O;have:=M.2;rw [<- T,GG,g] at this;exact (an this).symm;rintro rfl;exact List.mem_iff_getElem?.mpr ⟨j,by rw [W,eq.1]⟩);rw [Bool.decide_and,decide_eq_decide.mpr iff];exact .hit B (λR w E Q h=>wpAny_eqBool_str h) (ih rfl e2)
end
end
section
open PySem PySem.W PySem.Calls PyProof.Rows PySem.SeqAt
section
theorem Ak (H:A.units+2<cLine) (R:f8 j w y g s.heap) (lo:sysModules<y.objs.size) (M:VR j w g s.heap a u) (C:VR j w g s.heap b v) (q:bN a b g.C Q):(∀{P:Value->Shared->Prop},(∀r,Q r->P (.bool r) s)->wpAny (model j w) A (compareOp .Eq u v) P E s)/\∀{P:Value->Shared->Prop},(∀r,Q r->P (.bool (!r)) s)->wpAny (model j w) A (compareOp .NotEq u v) P E s:=by
 have both:∀r,RcAt A s u v r/\RcNeAt A s u v (!r)->Q r->(∀{P:Value->Shared->Prop},(∀r,Q r->P (.bool r) s)->wpAny (model j w) A (compareOp .Eq u v) P E s)/\∀{P:Value->Shared->Prop},(∀r,Q r->P (.bool (!r)) s)->wpAny (model j w) A (compareOp .NotEq u v) P E s:=λr h q=>⟨λk=>h.1 j w _ _ (k r q),λk=>h.2 j w _ _ (k r q)⟩;have nil:∀x,uu g.C a=some x->VR j w g s.heap (.lst []) v->RcAt A s u v (decide (x=[]))/\RcNeAt A s u v (!decide (x=[])):=λx e C=>by refine l6 (λc n J=>?_) (Tm R M e);rintro rfl I z;revert C;refine l6 λd n' ab=>?_;rintro rfl hd;refine aa λY L=>?_;subst L;exact QP (tC H) I hd z
 induction b using MV.casesOn with|lst l=>(induction l using List.casesOn with|cons=>exact q.elim|nil=>refine ac (λx e q=>?_) (s5 q);exact both _ (nil x e C) q.2)|af l=>(induction a using MV.casesOn with|bb S vs=>refine s3 λ_ W=>?_;refine ac (λd e q=>?_) (s5 q);refine ac (λT e1 q=>?_) (s5 q);refine ac (λJ e2 q=>?_) (s5 q);refine Cc (λc N=>?_) (y0 R lo M rfl);rintro rfl I U;refine aa λO z=>?_;refine Cc (λc' F=>?_) (y0 R lo C e);rintro rfl o B;refine aa λt L=>?_;refine ac (λta X Z=>?_) (strs_map e1 z);refine ac (λtb t3 t4=>?_) (strs_map e2 L);haveI hn:(F.map (·.1)).Nodup:=let ⟨_,_,_,_,_,_,_,_,n⟩:=o;n;haveI m:=Vp (A:=A.in1) (s:=s) hn t3 t4 X Z;(have len:(N.length==F.length&&decide (∀p∈(N.map (λx:List Str×Addr×Value=>x.1)).zip T,p∈(F.map (λx:List Str×Addr×Value=>x.1)).zip J))=decide (S.length=d.1.length/\∀p∈S.zip T,p∈d.1.zip J):=by rw [Bool.decide_and];(have h1:S.length=N.length:=by have:=l9 List.length O;simpa using this.symm);(have V:d.1.length=F.length:=by have:=l9 List.length t;simpa using this.symm);rw [h1,V];congr 1;exact decide_eq_decide.mpr (by dsimp only at O t;rw [O,t]));refine W ?_;refine ⟨λk=>N4 (show A.in1.units<cLine by rw [Around.in1_units];exact Co (by assumption)) U B I o (tC H) (λ_=>m) ?_,λk=>HF (show A.in1.units<cLine by rw [Around.in1_units];exact Co (by assumption)) U B I o (tC H) (λ_=>m) ?_⟩;rw [len];exact k _ q.2.2;rw [len];exact k _ q.2.2|_=>exact q.elim)|_=>refine ac (λr e q=>?_) (s5 q);exact both r (Jq (wn (Pd ..) H) e M C) q
theorem wB (C:A.units+2<cLine) (R:f8 c w j g s.heap) (lo:sysModules<j.objs.size) (d:VR c w g s.heap a u) (m:VR c w g s.heap b v) (q:Go o a b g.C λr=>Q (.bool r) g.C):wpAny (model c w) A (compareOp (OF o) u v) (u7 c w j g s Q) E s:=by
 haveI F:∀{r:Bool} {B:Nat},Q (.bool r) g.C->u7 c w j g s Q (.bool r) {s with toks:=B}:=λq=> .val R mo q;have l:∀{r:Bool},Q (.bool r) g.C->u7 c w j g s Q (.bool r) s:=λq=> .here R mo q;have plain:plainIs u .none=true/\(u== .none)=d8 a:=by induction a using MV.casesOn with|none=>obtain rfl:=d;exact ⟨rfl,rfl⟩|bool=>obtain rfl:=d;exact ⟨rfl,rfl⟩|int=>revert d;refine am λt=>?_;rintro rfl;exact ⟨rfl,rfl⟩|str=>revert d;refine am λt=>?_;rintro rfl;exact ⟨rfl,rfl⟩|af=>revert d;refine aa ?_;rintro rfl Y;exact ⟨rfl,rfl⟩|tup=>revert d;refine rb λY Y Y Y Y=>aa ?_;rintro rfl Y;exact ⟨rfl,rfl⟩|lst=>revert d;refine xy λY Y Y=>?_;rintro rfl Y;exact ⟨rfl,rfl⟩|aQ=>revert d;refine tz λY Y=>?_;rintro rfl Y;exact ⟨rfl,rfl⟩|bq=>revert d;refine tz λY Y=>?_;rintro rfl Y;exact ⟨rfl,rfl⟩|bb=>revert d;refine tz λY Y=>?_;rintro rfl Y;exact ⟨rfl,rfl⟩
 have z:∀{k:Int->Int->Prop} {G:Prop},(vI a λa=>vI b λb=>k a b)->(∀x y t n,u= .int x t->v= .int y n->k x y->G)->G:=λq f=>by refine pi (λx y=>?_) (vz q);rintro rfl rfl q;revert d;refine am λt e=>?_;revert m;refine am λn p=>?_;exact f x y t n e p q
 induction o using CO.casesOn with|eq=>exact (Ak (Q:=λr=>Q (.bool r) g.C) C R lo d m q).1 λr h=>l h|ne=>exact (Ak (Q:=λr=>Q (.bool (!r)) g.C) C R lo d m q).2 λr h=>l h|lt=>exact z q λx y t n e p q=>by rw [e,p];exact P.lt_int (l q)|gt=>exact z q λx y t n e p q=>by rw [e,p];exact P.gt_int (l q)|ge=>exact z q λx y t n e p q=>by rw [e,p];exact P.ge_int (l q)|le=>(induction a using MV.casesOn with|int x=>refine ac (λy=>?_) (kq q);rintro rfl q;revert d;refine am λt=>?_;rintro rfl;revert m;refine am λn=>?_;rintro rfl;exact P.le_int (l q)|str x=>refine ac (λy=>?_) (bV q);rintro rfl q;revert d;refine am λt=>?_;rintro rfl;revert m;refine am λn=>?_;rintro rfl;exact P.le_str (l q)|_=>exact q.elim)|is=>refine aa ?_ (qs q);rintro rfl q;obtain rfl:=m;exact wpAny_is_plain plain.1 (by rw [plain.2];exact l q)|gB=>refine aa ?_ (qs q);rintro rfl q;obtain rfl:=m;exact wpAny_isNot_plain plain.1 (by rw [plain.2];exact l q)|cS=>refine ac (λx=>?_) (bV q);rintro rfl q;revert d;refine am λt=>?_;rintro rfl;exact XY (Q:=λr=>Q (.bool r) g.C) R lo m q λr B h=>F h|gq=>refine ac (λx=>?_) (bV q);rintro rfl q;revert d;refine am λt=>?_;rintro rfl;exact XH (Q:=λr=>Q (.bool (!r)) g.C) R lo m q λr B h=>F h
end
end
section
open PySem PySem.W PySem.Calls PyProof.Rows PySem.SeqAt
section
variable {ao:Program} {w:World} {s:Shared}
theorem br.tM (V:br ao w g h [m] j):∃v,j=[v]/\VR ao w g h m v:=by revert V;refine pi λv Y=>?_;rintro rfl a rfl;exact ⟨v,rfl,a⟩
theorem br.o6 (V:br ao w g h [m,y] A):∃v j,A=[v,j]/\VR ao w g h m v/\VR ao w g h y j:=by revert V;refine pi λv Y=>?_;rintro rfl a;refine pi λj Y=>?_;rintro rfl b rfl;exact ⟨v,j,rfl,a,b⟩
noncomputable def mK:BI->Value| .len=> .builtin "len" | .ord=> .builtin "ord" | .str=> .type "str" | .list=> .type "list" | .dict=> .type "dict" | .sorted=> .builtin "sorted" | .isStr=> .builtin "isinstance" | .bH=> .builtin "isinstance" | .max=> .builtin "max" | .min=> .builtin "min" | .int=> .type "int"
noncomputable def jy:BI->List Value| .isStr=>[.type "str"]| .bH=>[.type "dict"]|_=>[]
theorem o8 (R:f8 ao w a g s.heap) (k:∀b o,s.heap.get? b=some o->d.get? b=some o) (c:s.heap.objs.size<=d.objs.size):sK ao w a g s g {s with heap:=d,toks:=tk}:=⟨R.grow k c,ga.grow k c,rfl,rfl⟩
theorem Au (R:f8 ao w k g s.heap) (V:VR ao w g s.heap m v) (e:wE g.C m=some x):(∃a n c,v= .ref a/\s.heap.get? a=some (Cn c n)/\br ao w g s.heap x c)\/(∃a n d j c,v= .ref a/\s.heap.get? a=some (nO c n d j)/\br ao w g s.heap x c):=by induction m using MV.casesOn with|tup l=>obtain rfl:=an e;revert V;refine rb λa n d j c=>pt λr o Y z=>?_;exact .inr ⟨a,n,d,j,c,r,o,z⟩|_=>exact .inl (Tm R V e)
theorem Iy {a:List (Str×Value)} (e:c=strKind ao w):∀{l:List Value},l.length=a.length->(∀(i:Nat) (v:Value),l[i]? =some v->∃k x,a[i]? =some (k,x)/\c.is k v=true)->StrsAre l (a.map (·.1)):=by subst e;induction a with|nil=>(intro l h _;induction l using List.casesOn with|nil=>exact .nil|cons _ _=>simp at h)|cons p r j=>intro l h k;induction l using List.casesOn with|nil=>simp at h|cons v l=>refine tz (λg x e d=>?_) (k 0 v rfl);simp only [List.getElem?_cons_zero,Option.some.injEq] at e;refine am (λt=>?_) (Value.isStrOf_shape d);rintro rfl;rw [cN,e];exact .cons _ t (j (by simpa using h) λi v e=>k (i+1) v (by simpa using e))
theorem C3:∀{l:List Value} {a:List Str},StrsAre l a->br ao w g h (a.map .str) l|_,_,.nil=> .nil|_,_,.cons x t r=>by rw [cN];exact .cons (by exact ⟨_,rfl⟩) (C3 r)
theorem Sf {g:List (Str×Value)} (H:A.handled=none) (lo:sysModules<d) (hd:s.heap.DictOf (strKind ao w) d g) (I:g.length<=sizeLine) (h:∀j m B,(∀b o,s.heap.get? b=some o->j.get? b=some o)->s.heap.objs.size<=j.objs.size->StrsAre B (g.map (·.1))->Q B {s with heap:=j,toks:=m}):wpAny (model ao w) A (collect (.ref d)) Q E s:=by
 obtain ⟨q,p⟩:∃q,s.heap.DictAt (strKind ao w) d g q:=let ⟨o,F,q,r⟩:=hd;⟨q,o,F,r⟩;haveI y:(d==sysModules)=false:=by simp;exact BN lo
 haveI K:=kdl_dict (prog:=ao) (w:=w) (knd:=strKind ao w) (kvs:=g) (ep:=q) y;have z:∀b o,s.heap.get? b=some o->(s.heap.push (seqObj "list" #[] 0)).get? b=some o:=λ_ _ e=>AL _ e;haveI n:=K.there _ p;haveI C:(s.heap.push (seqObj "list" #[] 0)).get? s.heap.objs.size=some {cls:= .type "list",data:= .seq #[] 0}:=LF _ rfl;have u:∀R:Result->Shared->Prop,(∀j m (a:Array Value) t,(∀b o,s.heap.get? b=some o->j.get? b=some o)->j.get? s.heap.objs.size=some {cls:= .type "list",dict:=none,data:= .seq a t,slots:=#[]}->StrsAre a.toList (g.map (·.1))->R (.ok (.ret (.ref s.heap.objs.size))) {s with heap:=j,toks:=m})->codeAny (model ao w) A (.builtin "proto.collect" ⟨[.ref d],[]⟩) R s:=λR k=>by refine codeAny_builtin entry_proto_collect' ?_;show wpAny _ _ (do again (.builtin "list.__iadd__" ⟨[<- newList [],.ref d],[]⟩)) _ _ s;refine ff (wpAny_newList (i8 ⟨Code.quiet_builtin _ (by decide+kernel),codeAny_builtin entry_list_iadd' ?_⟩));show wpAny _ _ (Builtin.List.listExtendWith (.ref s.heap.objs.size) (.ref d) (.ref s.heap.objs.size)) _ _ {s with heap:=s.heap.push (seqObj "list" #[] 0)};rw [Around.under_plainId (id:="list.__iadd__") (by decide+kernel) _];refine kdl_extend (A:=A) (s:={s with heap:=s.heap.push (seqObj "list" #[] 0)}) K H (K.keep _ _ p λb _ o e=>z b o e) s.heap.objs.size (BN n.1) (BN n.1) _ 0 C (λj m a t x l c=>?_) I;exact k j m a t (λb o e=>x b o (u4 (r8 e)) (z b o e)) l (Iy rfl (by rw [Array.length_toList];exact c.1) λi v e=>c.2 i v (by rw [<- Array.getElem?_toList];exact e))
 unfold collect;refine ff (wpAny_runValue (u _ λj m a t x l c=>?_));exact ff (wpAny_load l (i8 (h j m _ x (Co (r8 l)) c)))
theorem UA (L:A.handled=none) (lo:sysModules<d) (hd:s.heap.DictOf (strKind ao w) d l) (C:l.length<64) (h:∀u r (a:Addr) (n:Nat) (out:List Value) (j:List Str),(∀b o,s.heap.get? b=some o->u.get? b=some o)->s.heap.get? a=none->u.get? a=some (Cn out n)->StrsAre out j->j.Perm (l.map (·.1))->sortedS j=true->Q (.ref a) {s with heap:=u,toks:=r}):wpAny (model ao w) A (call (.builtin "sorted") [.ref d]) Q E s:=by
 refine Calls.call_function_entry kind_sorted plain_sorted entry_sorted (args_sorted1 _) ?_;unfold Builtin.«sorted»;refine ff (m:=checkCount "sorted" 1 1 _) (i8 ?_);refine ff (Sf (A:=A.in1) L lo hd (by rw [hU];exact TB C) λc r p g _ t=>?_);have N:p.length<64:=by rw [t.len_eq,FB];exact C
 refine ff (wpAny_newList ?_);have k:(c.push (seqObj "list" p.toArray 0)).get? c.objs.size=some (seqObj "list" p.toArray 0):=LF _ rfl;have fin:∀(out:Array Value) (j:List Str),StrsAre out.toList j->j.Perm (l.map (·.1))->sortedS j=true->Q (.ref c.objs.size) {s with heap:=sortedHeap (c.push (seqObj "list" p.toArray 0)) c.objs.size p out,toks:=r}:=λout j x v M=>by refine am (λe I=>?_) (sortedHeap_at (a:=c.objs.size) (vs:=p) (out:=out) k);refine h _ r c.objs.size e out.toList j (λb o q=>?_) ?_ ?_ x v M;haveI y:=r8 (g b o q);rw [sortedHeap_old (u4 y) (by rw [DO];exact Nat.lt_succ_of_lt y),Heap.get?_push_ne _ _ _ (u4 y)];exact g b o q;(cases q:s.heap.get? c.objs.size with|none=>rfl|some o=>exact absurd (r8 (g _ _ q)) (RI _));exact I
 refine ff (Mn (wpAny_call_entry slot_list_sort ⟨_,k,rfl⟩ entry_list_sort (list_sort_treeK strKind_oneLt k t.keysOf (λH F B e=>keyKind_strs (by rw [<- e];exact t)) N λJ x v=>⟨_,rfl,?_⟩) (args_list_sort _)));refine nw (λz b1 b2 b3=>?_) (sorted_out_str t x v);exact i8 ⟨_,rfl,fin _ z b1 b2 b3⟩
end
end
section
open PySem PySem.W PySem.Calls PyProof.Rows PySem.SeqAt
section
theorem YN:typeLookup (.type "list") "keys" =pure none:=by rw [typeLookup_type,builtinLookup_eq_fast];kernel_rfl
theorem Jt (x:s.heap.get? a=some o) (y:o.cls= .type "list") (j:o.data= .seq H k) (hd:o.dict=none) (l:typeLookup (.type "list") name=pure none) (m:(["__module__","__name__","__qualname__","__doc__","__annotations__"]:List Str).contains name=false) (J:A.handled=none) (h:∀q t e,Heap.NewExcOf s.heap q e "AttributeError" ->Q none {s with heap:=q,toks:=t}) (r:name.length+100<=sizeLine):wpAny (model u w) A (getAttr? (.ref a) name) Q E s:=by
 obtain ⟨c,B,z,I⟩:=o;simp only at y j hd;subst y j hd;obtain ⟨C,g,d,t,os⟩:=s;have v:∀p,(⟨C,g,d,p,os⟩:Shared).TypeIs (.ref a) "list" :=λ_=>⟨_,x,rfl⟩;haveI f1:=sub_AttributeError;haveI L:=F.slot_list_getattribute.lookup;haveI O:=F.slot_list_getattribute.bind (.ref a);haveI R:=am_list_getattr_none;unfold getAttr? getAttrBy? getAttrBy;repeat (any_goals (first|assumption|exact v _| ((with_reducible show wpAny _ _ (call (Value.builtin "list.__getattribute__") _ _) _ _ _);refine call_meets F.slot_list_getattribute (v _) am_entry_list_getattribute (F.args_list_getattribute_2 _ _) (meets_getattribute_miss_list a H k I name _ l m r) ⟨x,J,λq p e n=>?_⟩)|wp_step))
 refine EN (λP N M=>?_) n.there;unfold getattributeRaised;repeat (any_goals (first|assumption|wp_step))
 exact h _ _ _ n.of
theorem pn:plainId "dict.update.loop" =true:=by decide+kernel
theorem zV:entryFor table "dict.update.loop" =some Builtin.«dict.update.loop»:=entryFor_of_fast (by kernel_rfl)
def iw (a:Program) (w:World) (h:Heap) (x:List Str×Addr×Value) (v:Value):Prop:=∃p n d c,v= .ref p/\h.get? p=some (nO [.ref x.2.1,x.2.2] n d c)/\IsTupleKey (strKind a w) h x.1 x.2.1
theorem iw.at {v:Value} (P:iw j w h x v) (k:∀a o,h.get? a=some o->o.cls= .type "tuple" ->A.get? a=some o):iw j w A x v:=by revert P;refine xw λp n d B e=>aa λhp=>l6 λo y E F hc r=>?_;exact ⟨p,n,d,B,e,k _ _ hp rfl,o,y,E,k _ _ F hc,hc,r⟩
theorem FJ {k:List Str} (h:k∉a.map (·.1)):atKey a k=none:=by unfold atKey;rw [kW.mpr (λx c=>by simp only [decide_eq_true_eq];exact λe=>h (e▸jf c))];rfl
theorem Pn {I:Addr} {items:Array Value} {full:List (List Str×Addr×Value)} (hh:A.handled=none) (hu:A.units+2<cLine) (as:ax≠I) (ai:D≠I) (a4:D≠ax) (F:full.length=items.size) (X:full.length<=sizeLine) (a0:(full.map (·.1)).Nodup):∀(k i:Nat) (s:Shared) (t:Tok),items.size - i=k->i<=items.size->s.heap.IsListIter I ax i->s.heap.IsList ax items->s.heap.DictOfH (tupleKind (strKind c w)) D (full.take i)->(∀(j:Nat) x v,full[j]? =some x->items[j]? =some v->iw c w s.heap x v)->(∀N U,(∀b o,b≠I->b≠D->s.heap.get? b=some o->N.get? b=some o)->N.DictOfH (tupleKind (strKind c w)) D full->R (.ok (.ret res)) {s with heap:=N,toks:=U})->codeAny (model c w) A (.builtin "dict.update.loop" ⟨[.ref D,.ref I,.int i t,res],[]⟩) R s:=by haveI W:=Walks.list (prog:=c) (w:=w) (A:=A.in1) hh I ax as items;intro k;induction k with|zero=>intro i s t hk hi hit hl hD hP hR;haveI av:=Qr hk hi;subst av;refine codeAny_builtin zV ?_;rw [Around.under_plainId pn _];refine ff (W.done s _ _ ⟨hit,hl⟩ λN U k'=>?_);refine i8 (hR N U (λb o h1 _ e=>k' b o (by simpa using h1) e) ?_);rw [<- F,List.take_length] at hD;revert hD;refine l6 λo es ep S H=>pt λM he Q hn=>?_;refine ⟨o,es,ep,k' _ _ (by simpa using ai) S,H,M,he,λx B=>?_,hn⟩;refine l6 (λo' P n' g y=>aa λO r'=>?_) (Q x B);refine ⟨o',P,n',k' _ _ (λq=>?_) g,y,O,r'⟩;rw [wb] at q;subst q;revert hit;refine nw λo2 h2 c2 Y=>?_;rw [h2] at g;obtain rfl:=an g;rw [c2] at y;simp at y|succ k ih=>intro i s t hk hi hit hl hD hP hR;have V:=Nm hk;refine codeAny_builtin zV ?_;rw [Around.under_plainId pn _];refine ff (W.item i s _ _ V ⟨hit,hl⟩ λv E U hv st u=>?_);have a1:=X5 F V;haveI H:=GS a1;generalize full[i]=x at H;(have J:∀{a:Addr} {o:Obj},s.heap.get? a=some o->o.cls≠ .type "list_iterator" ->a∉[I]:=λe z q=>by rw [wb] at q;cases q.symm;revert hit;refine nw λo2 h2 c2 Y=>?_;rw [h2] at e;obtain rfl:=an e;exact z c2);have L:∀(j:Nat) x v,full[j]? =some x->items[j]? =some v->iw c w E x v:=λj x v e1 e2=>(hP j x v e1 e2).at λa o e z=>u a o (J e (by rw [z];simp)) e;refine xw (λp n d sl=>?_) (L i x v H hv);rintro rfl;refine aa λhp Z=>?_;refine ff (Mn ?_);refine ff (wpAny_tryCatch ?_);refine ff (wpAny_typeOf (T:="tuple") ⟨_,hp,rfl⟩ ?_);rw [bn (by decide)];refine ff (wpAny_seqItems hp rfl ?_);refine i8 ?_;(have C:E.DictOfH (tupleKind (strKind c w)) D (full.take i):=by revert hD;refine l6 λo es ep S H=>pt λM he Q hn=>?_;refine ⟨o,es,ep,u _ _ (by simpa using ai) S,H,M,he,λx B=>?_,hn⟩;refine l6 (λo' P n' g y=>aa λO r'=>?_) (Q x B);exact ⟨o',P,n',u _ _ (J g (by rw [y];simp)) g,y,O,r'⟩);refine Mn (wpAny_dictSet_heap (knd:=tupleKind (strKind c w)) (k:=x.1) (A:=A.in1) (by show A.in1.units<cLine;rw [Around.in1_units];exact Co (by assumption)) Z C (λab m sb=>?_) (by rw [List.length_take];exact Jl X));refine i8 ⟨plainId_quiet pn _,?_⟩;(have ak:x.1∉(full.take i).map (·.1):=λq=>by rw [List.map_take] at q;refine am (λj hj=>?_) (List.mem_iff_getElem?.mp q);rw [List.getElem?_take] at hj;split at hj;rename_i a2;(have:(full.map (·.1))[i]? =some x.1:=by rw [GG,H];rfl);have:=(List.getElem?_inj (BB.mp hj).1 a0).mp (hj.trans this.symm);exact wA a2 this;injection hj);rw [storedH_new (FJ ak)] at m;(have et:full.take i++[(x.1,x.2.1,x.2.2)]=full.take (i+1):=by rw [List.take_add_one,H];rfl);rw [et] at m;have l:∀{a:Addr} {o:Obj},E.get? a=some o->o.cls≠ .type "dict" ->ab.get? a=some o:=λ{a o} e z=>(sb.2 a (λq=>by cases q.symm;revert C;refine l6 λo' Y Y g B Y=>?_;rw [g] at e;obtain rfl:=an e;exact z B.1)).trans e;have e1:(i:Int)+1=((i+1:Nat):Int):=D2;show codeAny _ _ (.builtin "dict.update.loop" ⟨[.ref D,.ref I,.int ((i:Int)+1) 0,res],[]⟩) _ _;rw [e1];refine ih (i+1) _ 0 (Sl hk) (by assumption) ?_ ?_ m (λj x v e1 e2=>(L j x v e1 e2).at λa o e z=>l e (by rw [z];simp)) λN U k' a3=>hR N U (λb o ap ar e=>k' b o ap ar ((sb.2 b ar).trans (u b o (by simpa using ap) e))) a3;refine nw (λo S z r=>?_) st.1;exact ⟨o,l S (by rw [z];simp),z,r⟩;refine nw (λo S z r=>?_) st.2;exact ⟨o,l S (by rw [z];simp),z,r⟩
theorem E6 {R:Nat} {full:List (List Str×Addr×Value)} (U:A.handled=none) (Y:A.units+8<cLine) (N:s.heap.get? a=some o) (O:o.cls= .type "list") (n:o.data= .seq items R) (M:o.dict=none) (t:full.length=items.size) (y:full.length<=sizeLine) (H:(full.map (·.1)).Nodup) (hP:∀(j:Nat) x v,full[j]? =some x->items[j]? =some v->iw d w s.heap x v) (h:∀u P,(∀b o,s.heap.get? b=some o->u.get? b=some o)->u.DictOfH (tupleKind (strKind d w)) s.heap.objs.size full->Q (.ref s.heap.objs.size) {s with heap:=u,toks:=P}):wpAny (model d w) A (call (.type "dict") [.ref a]) Q E s:=by refine callType_codes (Q₁:=λobj p=>obj= .ref s.heap.objs.size/\p={s with heap:=s.heap.push {cls:= .type "dict",data:= .dict #[]}}) F.kt_called_dict (F.kt_typeCall_dict_1 _) F.entry_dict_init (kt_code_dict_new _ ⟨rfl,rfl⟩) ?_;intro obj p;refine aa ?_;rintro rfl rfl;have q:(s.heap.push {cls:= .type "dict",data:= .dict #[]}).DictOfH (tupleKind (strKind d w)) s.heap.objs.size []:=Heap.DictOfH.new s.heap;have l:∀b o,s.heap.get? b=some o->(s.heap.push {cls:= .type "dict",data:= .dict #[]}).get? b=some o:=λb o e=>AL _ e;have k:=l _ _ N;have S:(⟨s.heap.push {cls:= .type "dict",data:= .dict #[]},s.gens,s.drawn,s.toks,s.os⟩:Shared).TypeIs (.ref s.heap.objs.size) "dict" :=q.typeIs;refine ⟨S,F.args_dict_init_2 _ _,?_⟩;unfold Builtin.«dict.__init__»;refine ff ?_;unfold Builtin.Dict.selfAndRest;refine ff (wpAny_notOrdered_dict S ?_);show wpAny _ _ (pure (s.heap.objs.size,[Value.ref a])) _ _ _;refine i8 ?_;show wpAny _ _ (Builtin.Dict.updateFrom "dict.__init__" s.heap.objs.size (.ref a) [] .none) _ _ _;unfold Builtin.Dict.updateFrom;refine ff (wpAny_typeOf (T:="list") ⟨o,k,O⟩ ?_);rw [bn (by decide)];refine ff (Zp (Jt k O n M YN (by decide) (by show A.in1.in1.handled=none;exact U) (λc P e z=>λL=>?_) (by size_fits)));rw [bn (by rfl)];refine ff (wpAny_rule ?_);have g:c.IsList a items:=⟨o,z.keeps _ _ k,O,R,n⟩;refine ff (wpAny_pyIter_list g ?_);have r:s.heap.objs.size<c.objs.size:=Op (by rw [DO];exact fS _) L;refine i8 ⟨plainId_quiet pn _,?_⟩;have m:∀b o,s.heap.get? b=some o->(c.push {cls:= .type "list_iterator",data:= .fields #[.ref a,.int 0 0]}).get? b=some o:=λb o e=>AL _ (z.keeps _ _ (l b o e));refine Pn (I:=c.objs.size) (D:=s.heap.objs.size) (ax:=a) (items:=items) (full:=full) (by exact U) (by show A.in1.units+2<cLine;rw [Around.in1_units];exact Yr Y) ?_ (u4 r) ?_ t y H items.size 0 _ 0 Sj (Pc _) ⟨_,LF _ rfl,rfl,rfl⟩ (g.push _) ?_ (λj x v e1 e2=>(hP j x v e1 e2).at λb o e _=>m b o e) λu J X W=>?_;exact u4 (Nat.lt_trans (r8 N) r);exact BN (r8 N);revert q;refine l6 λo' Z ep k C=>pt λB V ab hn=>?_;exact ⟨o',Z,ep,AL _ (z.keeps _ _ k),C,B,V,λx z=>by simp at z,hn⟩;refine ⟨rfl,h u J (λb o e=>X b o ?_ ?_ (m b o e)) W⟩;exact u4 (Nat.lt_trans (r8 e) r);exact u4 (r8 e)
end
end
section
open PySem PySem.W PySem.Calls PyProof.Rows PySem.SeqAt
section
theorem Ar:∀{l:List Value} {a:List Str},StrsAre l a->ItemsAre (strKind c w) a l|_,_,.nil=> .nil|_,_,.cons x t r=> .cons (by simp [PySem.strKind,Value.isStrOf]) (Ar r)
theorem O1 (h:Ei m=some p):m= .tup [.tup p.1,p.2]:=by induction m using MV.casesOn with|tup l=>((rcases l with _|⟨k,_|⟨v,_|⟨x,r⟩⟩⟩<;>first|cases h|skip);induction k using MV.casesOn<;>first| (obtain rfl:=an h;rfl)|injection h)|_=>injection h
theorem Jd (h:Internal.pairsOf (m::l)=some d):∃(p:List MV×MV) (k:List Str) (q:List (List Str)×List MV),m= .tup [.tup p.1,p.2]/\GE p.1=some k/\Internal.pairsOf l=some q/\d=(k::q.1,p.2::q.2):=by refine ac (λp e1 h=>?_) (nG.mp h);refine ac (λk c h=>?_) (nG.mp h);refine ac (λq a h=>?_) (YI.mp h);exact ⟨p,k,q,O1 e1,c,a,h.symm⟩
theorem Dl (e:GE m=some k) (V:VR a w g h (.tup m) u):∃c,u= .ref c/\IsTupleKey (strKind a w) h k c:=by revert V;refine rb λc n d o l=>pt ?_;rintro rfl j Y z;exact ⟨c,rfl,_,l.toArray,n,j,rfl,rfl,Ar (lA e z)⟩
theorem Jr:∀{x:List MV} {o:List Value} {d:List (List Str)×List MV},Internal.pairsOf x=some d->br c w g h x o->∃full:List (List Str×Addr×Value),full.length=o.length/\full.map (·.1)=d.1/\br c w g h d.2 (full.map (·.2.2))/\∀(j:Nat) x v,full[j]? =some x->o[j]? =some v->iw c w h x v:=by intro x;induction x with|nil=>intro o d e V;obtain rfl:=an e;obtain rfl:=V;exact ⟨[],rfl,rfl,.nil,λj x v e=>nomatch e⟩|cons m l H=>intro o d e V;refine s3 λ_ E=>?_;revert V;refine pi λv r=>?_;rintro rfl C I;refine l6 (λp k q=>?_) (Jd e);rintro rfl e1;refine aa λt=>?_;rintro rfl;refine At (λfull f1 f2 N L=>?_) (H t I);revert C;refine rb λa n A J o=>pt ?_;rintro rfl y Y z;refine pi (λu P=>?_) (br.o6 z);rintro rfl B M;refine ac (λO=>?_) (Dl e1 B);rintro rfl F;refine E ?_;refine ⟨(k,O,P)::full,l9 (· +1) f1,l9 (k:: ·) f2,.cons M N,λj x v e1 t=>?_⟩;induction j using Nat.casesOn with|zero=>obtain rfl:=an e1;obtain rfl:=an t;exact ⟨a,n,A,J,rfl,y,F⟩|succ j=>exact L j x v e1 t
theorem qf (R:f8 c w d g s.heap) (V:br c w g s.heap p r) (k:∀b o,s.heap.get? b=some o->h'.get? b=some o) (m:s.heap.objs.size<=h'.objs.size) (t:h'.get? a=some (Cn r n)) (j:s.heap.objs.size<=a) (q:NG p g.C Q):u7 c w d g s Q (.ref a) {s with heap:=h',toks:=tk}:=by rcases q with q|⟨l,u,q⟩;refine ⟨g,.lst p,o8 (tk:=tk) R k m,?_,q⟩;exact ⟨a,n,r,rfl,t,R.rA (by cases e:s.heap.get? a with|none=>rfl|some o=>exact absurd (r8 e) (Da.mpr j)),br.ext (ga.grow k m) IS R V⟩;haveI v:ga (λ_=>False) g s.heap (g.add l (.list p) a a) h':=ga.add u k m j j;haveI x:f8 c w d (g.add l (.list p) a a) h':=R.add u k m j j ⟨by rw [G.bc,G.gU],n,r,by rw [G.bc];exact t,br.ext v IS R V⟩;exact ⟨_,.af l,⟨x,v,rfl,rfl⟩,⟨by rw [G.bc],by rw [G.kI,bM];rfl⟩,q⟩
theorem Uk {i:Int} (h:i.natAbs<10^9):i.natAbs.log2<1920:=by by_cases z:i.natAbs=0;rw [z];decide;exact Op ((Nat.log2_lt z).mpr (show i.natAbs<2^30 by exact be (by assumption) (by decide))) (by decide)
theorem yx (Z:A.handled=none) (hu:A.units+8<cLine) (lo:sysModules<H.objs.size) (R:f8 p w H g s.heap) (V:br p w g s.heap vs J) (q:LP b vs g.C Q):wpAny (model p w) A (call (mK b) (J++jy b)) (u7 p w H g s Q) E s:=by
 haveI bl:gz<2^63:=by unfold gz;decide
 haveI M:∀{U:Heap} {X:Nat},(∀b o,s.heap.get? b=some o->U.get? b=some o)->s.heap.objs.size<=U.objs.size->∀{i:Int} {t:Tok},Q (.int i) g.C->u7 p w H g s Q (.int i t) {s with heap:=U,toks:=X}:=λk I i t q=>⟨g,_,o8 R k I,cR,q⟩;have bf:∀{b:Bool},Q (.bool b) g.C->u7 p w H g s Q (.bool b) s:=λq=> .here R mo q;haveI bt:∀{b:Bool},Q (.bool b) g.C->u7 p w H g s Q (.bool b) {s with toks:=s.toks+1}:=λq=> .val R mo q;have one:∀{k:MV->Prop} {G:Prop},w1 vs k->(∀m v,J=[v]->VR p w g s.heap m v->k m->G)->G:=λq f=>by refine s3 λ_ kk=>?_;refine ac (λm=>?_) (Dv q);rintro rfl q;refine ac (λv e V=>?_) V.tM;refine kk ?_;exact f m v e V q
 have ii:∀{k:Int->Int->Prop} {G:Prop},(w2 vs λa b=>vI a λa=>vI b λb=>k a b)->(∀x y t N,J=[.int x t,.int y N]->k x y->G)->G:=λq f=>by refine tz (λa b=>?_) (G3 q);rintro rfl q;refine pi (λx y=>?_) (vz q);rintro rfl rfl q;refine pi (λu v=>?_) V.o6;rintro rfl;refine am λt=>?_;rintro rfl;refine am λN=>?_;rintro rfl;exact f x y t N rfl q
 induction b using BI.casesOn with|len=>refine one q λm v C B q=>?_;subst C;refine ac (λx e q=>?_) (s5 q);refine to (Au R B e) (l6 (λa n J=>?_)) λt=>?_;rintro rfl L z;(haveI I:(J.toArray.size:Int)=x.length:=by rw [KT,z.len]);refine len_list (l:=a) (items:=J.toArray) ⟨_,L,rfl,n,rfl⟩ (by rw [I];lia) (.val R ?_ q.2);rw [I];exact cR;revert t;refine rb λa n d sl J=>im ?_;rintro rfl L z;(haveI I:(J.toArray.size:Int)=x.length:=by rw [KT,z.len]);refine PyProof.Rows.len_tuple (t:=a) (items:=J.toArray) ⟨_,L,rfl,n,rfl⟩ (by rw [I];lia) (.val R ?_ q.2);rw [I];exact cR|ord=>refine one q λm v C B q=>?_;subst C;obtain ⟨⟨⟨cs⟩⟩,rfl,q⟩:=bV q;revert B;refine am λt=>?_;rintro rfl;rcases cs with _|⟨c,_|⟨d,r⟩⟩;exact q.elim;exact P.ord_of_char (.val R cR q);exact q.elim|str=>refine one q λm v C B q=>?_;subst C;refine ac (λi=>?_) (kq q);rintro rfl q;revert B;refine am λt=>?_;rintro rfl;exact P.str_of_int (Uk q.1) (.val R fO q.2)|list=>refine one q λm v C B q=>?_;subst C;refine ac (λx e q=>?_) (s5 q);refine l6 (λa n J=>?_) (Tm R B e);rintro rfl L z;refine Zp (call_list_seq a (.inl rfl) L rfl rfl (λU c' k hn I=>?_) (by rw [KT,z.len];exact be q.1 bO));exact qf R z k I hn (lv _) q.2|dict=>refine one q λm v C B q=>?_;subst C;refine ac (λx e q=>?_) (s5 q);refine At (λd e' nd hl q=>?_) (s5 q);refine l6 (λa n J=>?_) (Tm R B e);rintro rfl L z;refine At (λfull f1 f2 f3 f4=>?_) (Jr e' z);refine Zp (E6 (full:=full) (items:=J.toArray) Z hu L rfl rfl rfl (by rw [KT,f1]) ?_ (by rw [f2];exact nd) (λj x v e1 e2=>f4 j x v e1 (by simpa using e2)) λU X k hd I=>?_);rw [f1,z.len];exact be (be hl (by decide)) bO;haveI O:=I;exact ⟨g,.bb d.1 d.2,o8 R k O,⟨_,full,rfl,hd,Op lo R.sz,R.fresh,f2,br.ext (ga.grow k O) IS R f3⟩,q⟩|sorted=>(refine one q λm v C B q=>?_;subst C;induction m using MV.casesOn with|aQ ks us=>revert B;refine Cc λa S=>?_;rintro rfl hd la;refine im λY ek Y=>?_;(haveI W:S.length<64:=by rw [<- FB (f:=(·.1)) (as:=S),ek];exact q.1);refine Zp (UA Z la hd W λU X b n out ss k hb ab hS hp hs I=>?_);haveI O:=I;exact ⟨g,.lst (ss.map .str),o8 R k O,⟨b,n,out,rfl,ab,R.rA hb,C3 hS⟩,q.2 ss (by rw [<- ek];exact hp) hs⟩|_=>exact q.elim)|isStr=>(refine one q λm v C B q=>?_;subst C;induction m using MV.casesOn with|str x=>revert B;refine am λt=>?_;rintro rfl;exact call_isinstance_yes (Tx:="str") (typeIs_str s _ t) F.isi_meta_str F.isi_self_str (bf q)|tup l=>revert B;refine rb λa n d sl J=>im ?_;rintro rfl L Y;exact call_isinstance (isinstance_false_tuple (T:="str") (by decide) F.isi_meta_str (by rw [isSubtype_type];kernel_rfl)) ⟨⟨_,L,rfl⟩,bt q⟩|af l=>refine ac (λd e q=>?_) (s5 q);revert B;refine aa ?_;rintro rfl Y;refine aa (λY=>ac λS=>l6 λo Y Y ho hx Y Y=>?_) (R.at_ _ _ (lP e));exact call_isinstance (isinstance_false_dict (T:="str") (by decide) F.isi_meta_str (by rw [isSubtype_type];kernel_rfl)) ⟨⟨_,ho,hx.1⟩,bt q⟩|_=>exact q.elim)|bH=>(refine one q λm v C B q=>?_;subst C;induction m using MV.casesOn with|str x=>revert B;refine am λt=>?_;rintro rfl;exact call_isinstance (isinstance_false_str (T:="dict") (by decide) F.isi_meta_dict (by rw [isSubtype_type];kernel_rfl)) (.val R mo q)|tup l=>revert B;refine rb λa n d sl J=>im ?_;rintro rfl L Y;exact call_isinstance (isinstance_false_tuple (T:="dict") (by decide) F.isi_meta_dict (by rw [isSubtype_type];kernel_rfl)) ⟨⟨_,L,rfl⟩,bt q⟩|af l=>refine ac (λd e q=>?_) (s5 q);revert B;refine aa ?_;rintro rfl Y;refine aa (λY=>ac λS=>l6 λo Y Y ho hx Y Y=>?_) (R.at_ _ _ (lP e));exact call_isinstance_yes (Tx:="dict") ⟨o,ho,hx.1⟩ F.isi_meta_dict (by rw [isSubtype_type];kernel_rfl) (bf q)|_=>exact q.elim)|max=>refine ii q λx y t N C q=>?_;subst C;refine Zp (max_two_ints Z λU X k I=>?_);(have e:(if y>x then Value.int y N else Value.int x t)=Value.int (max x y) (if y>x then N else t):=by by_cases c:y>x;rw [bn c,bn c,Int.max_eq_right (Int.le_of_lt c)];rw [al c,al c,Int.max_eq_left (Int.not_lt.mp c)]);rw [e];exact M k I q|min=>refine ii q λx y t N C q=>?_;subst C;refine Zp (min_two_ints Z λU X k I=>?_);(have e:(if y<x then Value.int y N else Value.int x t)=Value.int (min x y) (if y<x then N else t):=by by_cases c:y<x;rw [bn c,bn c,Int.min_eq_right (Int.le_of_lt c)];rw [al c,al c,Int.min_eq_left (Int.not_lt.mp c)]);rw [e];exact M k I q|int=>refine one q λm v C B q=>?_;subst C;induction m using MV.casesOn with|int i=>revert B;refine am λt=>?_;rintro rfl;exact call_int_int (.here R cR q)|bool b=>obtain rfl:=B;exact call_int_bool (.val R cR q)|_=>exact q.elim
end
end
structure iI (bm:List Value):Prop where
 exc:bm.contains (.type "Exception")=true
 base:bm.contains (.type "BaseException")=true
 obj:bm.contains (.type "object")=true
 noAttr:bm.contains (.type "AttributeError")=false
 noName:bm.contains (.type "NameError")=false
abbrev FE:=PySem.F.excBase_Exception
section
variable {os:OsState}
variable {sub:List Value}
theorem E5 (T:iI bm) (c:h.get? C=some (excClassObj n q C N bs bm j y sub o m u v r x p w "Exception.__new__")) (l:Q () ⟨h,g,d,t,os⟩):wpAny M A (checkBuiltinCall "Exception.__new__" ⟨.ref C::k,[]⟩) Q E ⟨h,g,d,t,os⟩:=by
 have F:=FE;haveI a:(Value.ref C::bm).contains (.type "Exception")=true:=by rw [nH,T.exc,Bool.or_true]
 have e:=F.noStar;unfold checkBuiltinCall;rw [F.newKind];dsimp only;rw [F.newSplit];dsimp only;rw [F.newRow];dsimp only;repeat (first|refine hX c ?_| (refine wpAny_isSubtype_exc c ?_;rw [a])|refine wpAny_staticBase_exc c ?_|refine wpAny_madeBy_exc c ?_|rw [bne_self_eq_false,al bJ]|wp_step)
 exact l
theorem Ey (T:iI bm) (l:h.get? C=some (excClassObj v q C N bs bm o J sub E u z B H I y x "Exception.__new__")) (r:R (.ok (.ret (.ref (h.objs.size+1)))) ⟨(h.push {cls:= .type "tuple",data:= .seq a.toArray}).push {cls:= .ref C,data:= .fields #[.ref h.objs.size,.none,.none,.none,.bool false,.none]},g,d,t,os⟩) (m:a.length<=sizeLine):codeAny (model n w) A (.builtin "Exception.__new__" ⟨.ref C::a,[]⟩) R ⟨h,g,d,t,os⟩:=by
 have F:=FE;have k:=F.ends;have e:(Value.ref C::bm).contains (.type "Exception")=true:=by rw [nH,T.exc,Bool.or_true]
 have c:(Value.ref C::bm).contains (.type "AttributeError")=false:=by rw [nH,T.noAttr];rfl
 have j:(Value.ref C::bm).contains (.type "NameError")=false:=by rw [nH,T.noName];rfl
 refine codeAny_builtinAt F.entry ?_;unfold Builtin.«BaseException.__new__»;refine PySem.wpAt_bind ?_;refine PySem.wpAt_bind (PySem.wpAt_stack λp below=>PySem.wpAt_of_wpAny ?_);wp_walk;refine PySem.wpAt_of_wpAny ?_;rw [F.owner];repeat (first|with_reducible refine wpAny_madeHere_exc F.canon l ?_|with_reducible refine hX l ?_| (with_reducible refine wpAny_isSubtype_exc l ?_;first|rw (config:={}) [e]|rw (config:={}) [c]|rw (config:={}) [j])|wp_step)
 show R _ _;rw [DO];exact r
end
section
variable {d:Drawn} {t:Nat} {os:OsState}
variable {nm:Str} {C N:Addr} {bs bm:List Value} {uX:Bool} {sn:List Str} {sub:List Value} {ab:Bool} {ny:Option Bool} {dd:Option Addr} {k0 k1 k2 k3 k5:Option Value}
theorem check_init (T:iI bm) (m:h.get? C=some (excClassObj nm q C N bs bm uX sn sub ab ny dd k0 k1 k2 k3 k5 "Exception.__new__")) (r:h.get? e=some p) (j:p.cls= .ref C) (o:Q () ⟨h,g,d,t,os⟩):wpAny M A (checkBuiltinCall "Exception.__init__" ⟨.ref e::c,[]⟩) Q E ⟨h,g,d,t,os⟩:=by
 haveI F:=FE;have l:(Value.ref C::bm).contains (.type "Exception")=true:=by rw [nH,T.exc,Bool.or_true]
 have k:=F.noStar;unfold checkBuiltinCall;rw [F.initKind];dsimp only;rw [F.initSplit];dsimp only;rw [F.initRow];dsimp only;repeat (first| (with_reducible refine hX r ?_;rw [j])|with_reducible refine hX m ?_| (with_reducible refine wpAny_isSubtype_exc m ?_;rw [l])|wp_step)
 refine wpAny_onRaise ?_;rw [show ∀(a b:String) (n:Nat),Bind.check ⟨.positional,"*","Exception",.self,[⟨"args",.varPos,false⟩]⟩ a b n (List.map (λx=>x.fst) ({pos:=Value.ref e::c}:Args).kw)=pure () from λa b n=>check_star_args _ _ _ _ _ _];exact i8 o
theorem IY (T:iI bm) {oI:Obj} (n:h.get? C=some (excClassObj nm q C N bs bm uX sn sub ab ny dd k0 k1 k2 k3 k5 "Exception.__new__")) (J:∀M,Looks M h (typeLookup (.ref C) "__init__") (some (.ref z))) (v:h.get? z=some oI) (u:oI.cls= .type "function") (H:∀y e,Heap.MadeExcOf h y e (.ref C) a->wpAny (model m w) A (call (.ref z) (.ref e::a)) (λr B=>r= .none/\Q (.done (.ret (.ref e))) B) E ⟨y,g,d,t,os⟩) (DW:a.length<=sizeLine):wpAny (model m w) A (Builtin.«type.__call__» ⟨.ref C::a,[]⟩) Q E ⟨h,g,d,t,os⟩:=by
 have F:=FE;repeat (first|with_reducible refine hX n ?_|with_reducible refine wpAny_madeBy_exc n ?_|wp_step)
 refine codeAny_call_builtin_code (Code.quiet_builtin _ F.quiet) (E5 T n ?_);refine Ey T n ?_ DW;have k:∀b o,h.get? b=some o->((h.push {cls:= .type "tuple",data:= .seq a.toArray}).push {cls:= .ref C,data:= .fields #[.ref h.objs.size,.none,.none,.none,.bool false,.none]}).get? b=some o:=λb o e=>AL _ (AL _ e);have l:=k _ _ n;have c:=k _ _ v;have j:((h.push {cls:= .type "tuple",data:= .seq a.toArray}).push {cls:= .ref C,data:= .fields #[.ref h.objs.size,.none,.none,.none,.bool false,.none]}).get? (h.objs.size+1)=some {cls:= .ref C,data:= .fields #[.ref h.objs.size,.none,.none,.none,.bool false,.none]}:=by heap_get
 have p:(Value.ref C::bm).contains (.ref C)=true:=by simp
 unfold isInstance;repeat (first|with_reducible refine hX j ?_| (with_reducible refine wpAny_isSubtype_exc l ?_;rw [p])|wp_step)
 show wpAny _ _ (typeLookup (.ref C) _) _ _ _;refine ((J _).keeps k).here ?_;refine Mn (ff ?_);unfold bindSpecial;refine ff (wpAny_typeOf (T:="function") ⟨_,c,u⟩ ?_);rw [bn (by decide)];refine i8 (ff (xe (H _ (h.objs.size+1) ⟨k,Heap.get?_none_of_le (s4 _),h.objs.size,j,Heap.get?_none_of_le (lv _),?_⟩) (λr B L=>?_) λ_ _ x=>x));exact AL _ (Heap.get?_push_at rfl rfl);revert L;refine aa ?_;rintro rfl I;wp_walk;exact I
theorem call_exc (T:iI bm) {oI:Obj} (l:h.get? C=some (excClassObj nm q C N bs bm uX sn sub ab ny dd k0 k1 k2 k3 k5 "Exception.__new__")) (v:∀M,Looks M h (typeLookup (.ref C) "__init__") (some (.ref o))) (n:h.get? o=some oI) (m:oI.cls= .type "function") (p:∀k e,Heap.MadeExcOf h k e (.ref C) a->wpAny (model j w) (A.under (.builtin "type.__call__" ⟨.ref C::a,[]⟩)) (call (.ref o) (.ref e::a)) (λr x=>r= .none/\Q (.ref e) x) E ⟨k,g,d,t,os⟩) (c:a.length<=sizeLine):wpAny (model j w) A (call (.ref C) a) Q E ⟨h,g,d,t,os⟩:=by
 have f1:=tc_lookup;have f2:=tc_bind (.ref C);have y:(⟨h,g,d,t,os⟩:Shared).TypeIs (.ref C) "type" :=⟨_,l,rfl⟩;refine wpAny_call (codeAny_of_tree ?_);show wpAny _ _ (callAny (.ref C) _) _ _ _;repeat (any_goals (first|assumption|with_reducible refine hX l ?_|wp_step))
 refine ⟨rfl,?_⟩;refine codeAny_call_builtin_at (Code.quiet_builtin _ (by decide+kernel)) entry_typeCall (wpAny_check_type_call_sub l (IY (DW:=c) T l v n m λk e u=>?_));exact p k e u
end
section
variable {os:OsState}
variable {sub:List Value}
noncomputable abbrev jT (C t:Addr) (a:Option Addr):Obj:={cls:= .ref C,dict:=a,data:= .fields #[.ref t,.none,.none,.none,.bool false,.none]}
theorem HR (T:iI bm) (p:h.get? C=some (excClassObj x q C N bs bm k O sub J u H I L M B z "Exception.__new__")) (j:h.get? e=some (jT C y none)) (l:∀a r,(∀b o,b≠e->h.get? b=some o->a.get? b=some o)->a.get? e=some (jT C r none)->Q .none ⟨a,g,d,t,os⟩):wpAny (model c w) A (call (.builtin "Exception.__init__") [.ref e,v]) Q E ⟨h,g,d,t,os⟩:=by haveI F:=FE;refine wpAny_call (codeAny_call_builtin F.init.plain F.initEntry (check_init T p j rfl ?_));wp_walk;refine l _ h.objs.size (λb o m n=>?_) ?_;rw [nJ _ _ (u8 m)];exact AL _ n;rw [fU _ (AL _ j) rfl];rfl
theorem nj k v:v.isStr k=Value.isStrOf k v:=by induction v using Value.casesOn<;>rfl
theorem zM (W:s.heap.DictOf (PySem.strKind g w) d q) (T:∀J,J.DictOf (PySem.strKind g w) d (stored q k v)->Heap.SameBut d s.heap J->Q () {s with heap:=J,toks:=s.toks+1}):wpAny (model g w) A (nsSet d k v) Q E s:=by
 revert W;refine l6 λo m y P hc=>pt λhd N M O=>?_;have u:∀t,(PySem.strKind g w).is k (.str k t)=true:=λt=>by simp [PySem.strKind,Value.isStrOf]
 have n:(m.findIdx? λe=>e.key.isStr k)=q.findIdx? λH=>decide (H.1=k):=by rw [<- M.findIdx k];obtain ⟨l⟩:=m;have e:(λe:DictEntry=>e.key.isStr k)=λe=>(PySem.strKind g w).is k e.key:=funext λe=>nj _ _;rw [e];simp
 have C:m.any (·.refKey)=false:=by rw [Array.any_eq_false];intro i x;refine ac (λk' R Y=>?_) (N m[i] (Array.getElem_mem x));refine am (λt e=>?_) (Value.isStrOf_shape R);simp [DictEntry.refKey,e]
 unfold nsSet strHash;refine ff (ff (wpAny_askSetting (i8 (ff (wpAny_mkText (ff (wpAny_loadPart P ?_)))))));rw [hd];dsimp only;rw [aRefKeyMayBeTheName_at,C,Bool.and_false];have B:∀j:Int,Obj.putName k j (.str k s.toks) v o=match m.findIdx? (·.key.isStr k) with|some i=>{o with data:= .dict (m.modify i λe=>{e with val:=v}) y}|none=>{o with data:= .dict (m.push ⟨j,.str k s.toks,v⟩) (y+1)}:=λj=>by obtain ⟨c,dd,F,sl⟩:=o;simp only at hd;subst hd;rw [Obj.putName_eq];unfold Obj.putNameByArray;dsimp only;cases m.findIdx? (·.key.isStr k)<;>rfl
 refine wpAny_updatePart P ?_;haveI I:∀F,Obj.ExactDict {o with data:=F}:=λ_=>hc;have up:∀f:Obj->Obj,(f o).isFreed=false->(s.heap.update d f).get? d=some (f o):=λf U=>fU _ P U;cases x:m.findIdx? λe=>e.key.isStr k with|some i=>(have p:∀j:Int,Obj.putName k j (.str k s.toks) v o={o with data:= .dict (m.modify i λe=>{e with val:=v}) y}:=λj=>by rw [B,x]);refine T _ ⟨{o with data:= .dict (m.modify i λe=>{e with val:=v}) y},_,y,(up _ ?_).trans (by rw [p]),I _,rfl,N.modify _ _,?_,?_⟩ (Heap.SameBut.update ..);rw [p];rfl;rw [stored,bn (any_of_findIdx_some (n▸x))];(have Z:(m.toList.findIdx? λe=>(PySem.strKind g w).is k e.key)=some i:=by have e:(λe:DictEntry=>e.key.isStr k)=λe=>(PySem.strKind g w).is k e.key:=funext λe=>nj _ _;rw [<- x,e];obtain ⟨l⟩:=m;simp);have:=M.modify O Z v;obtain ⟨l⟩:=m;simpa using this;rw [stored,bn (any_of_findIdx_some (n▸x)),keys_map_store];exact O|none=>haveI r:k∉q.map (·.1):=not_mem_of_findIdx_none (n▸x);(have z:¬(q.any λH=>decide (H.1=k))=true:=by rw [List.any_eq_true];refine ac λH L V=>?_;exact r (e8.mpr ⟨H,L,ue V⟩));(have p:∀j:Int,Obj.putName k j (.str k s.toks) v o={o with data:= .dict (m.push ⟨j,.str k s.toks,v⟩) (y+1)}:=λj=>by rw [B,x]);refine T _ ⟨{o with data:= .dict (m.push ⟨(PySem.strKind g w).hash k,.str k s.toks,v⟩) (y+1)},_,y+1,(up _ ?_).trans (by rw [p];rfl),I _,rfl,N.push (u _) _,?_,?_⟩ (Heap.SameBut.update ..);rw [p];rfl;rw [stored,al z];have:=M.append (u s.toks) ((PySem.strKind g w).hash k) v;obtain ⟨l⟩:=m;simpa using this;rw [stored,al z,List.map_append,List.nodup_append];refine ⟨O,by simp,?_⟩;intro a X b S;simp only [List.map_cons,List.map_nil,List.mem_singleton] at S;cases S.symm;exact λe=>r (e▸X)
end
section
open PySem PySem.W PySem.Calls PyProof.Rows PySem.Builtin PySem.Builtin.ObjectAttr
section
variable {K:Frag}
theorem Dc (X:K.In s.heap) (n:∀M,Looks M s.heap (typeOf (.ref x)) (.ref C)) (p:clsIn K C=some k) (m:k.mro.isEmpty=false) (g:k.mro.contains (.type "object")=true) (d:refuseLoop (.ref x) "__setattr__" k.mro=pure ()) (z:takerIn K C name=some none) (h:∀b,wpAny (model c w) A.in1 (storeInOwnDict (.ref x) (.ref C) (.str name l) name v b) (λfin j=>match fin with| .done f=>R (.ok f) j| .again o=>o.quiet=true/\codeAny (model c w) A o R j) (λe j=>R (.error e) j) s):codeAny (model c w) A (.call (.builtin "object.__setattr__") ⟨[.ref x,.str name l,v],[]⟩) R s:=by
 haveI SF:=PySem.F.store_object;haveI sub:Looks (model c w) s.heap (isInstance (.ref x) (.type "object")) true:=(n _).andThen (looks_mroIn X (by unfold mroIn;rw [p,jg,al (by rw [m];decide),g]));refine codeAny_call_builtin SF.slot.plain SF.entry (@check_slot (model c w) _ _ s "object.__setattr__" "object" "__setattr__" (.ref x) [.str name l,v] [] _ SF.kind SF.split sub (SF.args (.ref x) (.str name l) v) ?_);refine ac (λattr r y=>?_) (nG.mp z);haveI q:Looks (model c w) s.heap (mroOf (.ref C)) k.mro:=(looks_clsIn X p).andThen .now;haveI t:Looks (model c w) s.heap (storeTaker? attr) none:=by induction attr using Option.casesOn with|none=>exact .now|some a=>refine ac (λb u e=>?_) (YI.mp y);refine (looks_takesIn X u).andThen ?_;induction b using Bool.casesOn;exact .now;injection e
 rw [osa_eq,refuse_eq];refine ff (ff ((n _).here (ff (q.here ?_))));rw [d];refine i8 (ff ((n _).here (ff ((looks_findIn X r).here (ff (t.here ?_))))));exact h _
theorem BC (X:K.In s.heap) (g:∀M,Looks M s.heap (typeOf (.ref x)) (.ref C)) (d:findIn K (.ref C) "__setattr__" =some (some (.builtin "object.__setattr__"))) (h:codeAny (model a w) A (.call (.builtin "object.__setattr__") ⟨[.ref x,.str name s.toks,v],[]⟩) (λr c=>match r with| .ok (.ret _)=>Q () c| .ok _=>False| .error e=>E e c) {s with toks:=s.toks+1}):wpAny (model a w) A (setAttr (.ref x) name v) Q E s:=by refine ff (wpAny_mkText (ff (ff (ff ((g _) _ _ _ _ (λ_ _ e=>e) (looks_findIn X d _ _ _ _ (λ_ _ e=>e) (Mn ?_)))))));rw [PySem.F.store_object.slot.bind];refine ff (i8 (ff (wpAny_call (codeAny_mono h λr c z=>?_))));rcases r with e| (v|_|_|_)<;>first|exact z|exact i8 (i8 z)
structure mx (K:Frag) (C:Addr) (name:Str):Prop where
 cls:∃cd,clsIn K C=some cd/\cd.hasDict=true/\cd.mro.isEmpty=false/\cd.mro.contains (.type "object")=true/\∀x,refuseLoop (.ref x) "__setattr__" cd.mro=pure ()
 slot:findIn K (.ref C) "__setattr__" =some (some (.builtin "object.__setattr__"))
 pA:takerIn K C name=some none
theorem y8 (h:a.size<=1000):(Data.dict a n).pastItsLine=none:=pastItsLine_dict (by rw [hU];exact be (by assumption) (by decide))
theorem F7 (X:K.In s.heap) (S:mx K C name) (u:s.heap.get? x=some ⟨.ref C,some m,F,W⟩) (hd:s.heap.DictOf (PySem.strKind d w) m c) (P:c.length<1000) (O:∀j z,j.DictOf (PySem.strKind d w) m (stored c name v)->Heap.SameBut m s.heap j->Q () {s with heap:=j,toks:=z}):wpAny (model d w) A (setAttr (.ref x) name v) Q E s:=by
 refine s3 λ_ B=>?_;refine dp (λU y l q g e=>?_) S.cls;have t:∀M,Looks M s.heap (typeOf (.ref x)) (.ref C):=λM=>(Looks.ld u).andThen .now;refine B ?_;refine BC X t S.slot (Dc (s:={s with toks:=s.toks+1}) X t y q g (e x) S.pA λb=>?_);unfold storeInOwnDict;refine ff (i8 (ff (ff (wpAny_loadPart u (ff ((looks_clsIn X y).at ?_))))));rw [l];refine i8 (a:=some m) (ff (i8 (ff ?_)));refine zM (s:={s with toks:=s.toks+1}) hd λj k R=>?_;refine l6 (λo p Y T H=>pt λn V I J=>?_) (id k);have r:p.size<=1000:=by have e1:=I.length;(have L:p.toList.length=p.size:=by simp);(haveI N:(stored c name v).length<=c.length+1:=by unfold stored;split;rw [FB];exact Pd _ _;rw [Ll];simp);exact IG P e1 L N
 refine ff (wpAny_lookBehind T (by rw [n];exact y8 r) ?_);exact i8 (O j _ k R)
theorem GZ (X:K.In s.heap) (S:mx K C name) (p:s.heap.get? x=some ⟨.ref C,none,.fields B,z⟩) (hQ:∀j P U,(∀b o,b≠x->s.heap.get? b=some o->j.get? b=some o)->j.get? x=some ⟨.ref C,some U,.fields B,z⟩->Q () {s with heap:=j,toks:=P}):wpAny (model c w) A (setAttr (.ref x) name v) Q E s:=by
 refine dp (λcd O k F g d=>?_) S.cls;have L:∀M,Looks M s.heap (typeOf (.ref x)) (.ref C):=λM=>(Looks.ld p).andThen .now;refine BC X L S.slot (Dc (s:={s with toks:=s.toks+1}) X L O F g (d x) S.pA λb=>?_);unfold storeInOwnDict;refine ff (i8 (ff (ff (wpAny_loadPart p (ff ((looks_clsIn X O).at ?_))))));rw [k];have y:(s.heap.push emptyDict).DictOf (PySem.strKind c w) s.heap.objs.size []:=Heap.DictOf.new s.heap;have m:(s.heap.push emptyDict).get? x=some ⟨.ref C,none,.fields B,z⟩:=AL _ p;have n:=r8 p;refine ff (wpAny_alloc (ff (wpAny_updatePart m ?_)));refine i8 (a:=some s.heap.objs.size) (ff (i8 (ff ?_)));have I:((s.heap.push emptyDict).update x λo=>{o with dict:=some s.heap.objs.size}).get? x=some ⟨.ref C,some s.heap.objs.size,.fields B,z⟩:=fU _ m rfl;have l:Heap.SameBut x (s.heap.push emptyDict) ((s.heap.push emptyDict).update x λo=>{o with dict:=some s.heap.objs.size}):=Heap.SameBut.update ..;have J:((s.heap.push emptyDict).update x λo=>{o with dict:=some s.heap.objs.size}).DictOf (PySem.strKind c w) s.heap.objs.size []:=Heap.iH y λo q ep e _ _=>(l.2 _ (BN n)).trans e;refine zM (s:={s with heap:=(s.heap.push emptyDict).update x λo=>{o with dict:=some s.heap.objs.size},toks:=s.toks+1}) J λj t N=>?_;refine l6 (λo q ep ho T=>pt λr hk V W=>?_) (id t);have H:q.size<=1000:=by have e1:=V.length;(have Y:q.toList.length=q.size:=by simp);haveI Z:(stored ([]:List (Str×Value)) name v).length=1:=rfl;exact QC e1 Y Z
 refine ff (wpAny_lookBehind ho (by rw [r];exact y8 H) ?_);refine i8 (hQ j _ s.heap.objs.size (λb o R e=>?_) ?_);haveI u:=u4 (r8 e);exact (N.2 b u).trans ((l.2 b R).trans (AL _ e));exact (N.2 x (u4 n)).trans I
end
end
def bZ (c:Value) (h:Heap) (a:Addr) (m:Str->Option Value):Prop:=h.Ns a m/\∃o,h.get? a=some o/\o.cls=c
abbrev Cr:=bZ (.type "frame")
theorem bZ.keeps {h:Heap} {m} (x:bZ c h a m) (k:∀b o,h.get? b=some o->j.get? b=some o):bZ c j a m:=⟨x.1.keeps k,let ⟨o,e,c⟩:=x.2;⟨o,k _ _ e,c⟩⟩
theorem bZ.sameBut {h:Heap} {m} (x:bZ c h a m) (y:Heap.SameBut b h A) (j:a≠b):bZ c A a m:=⟨x.1.sameBut y j,let ⟨o,e,c⟩:=x.2;⟨o,(y.2 a j).trans e,c⟩⟩
section
theorem Oz name a e v o:(Obj.putName name a e v o).cls=o.cls:=by obtain ⟨c,d,j,k⟩:=o;rw [Obj.putName_eq];unfold Obj.putNameByArray;induction j using Data.casesOn with|dict g=>show Obj.cls (match g.findIdx? _ with|some i=>_|none=>_)=c;generalize g.findIdx? _=x;induction x using Option.casesOn<;>rfl|_=>rfl
theorem XZ {a:Addr} {m} (N:bZ c s.heap a m) (L:∀u,bZ c u a (λx=>if x=name then some v else m x)->Heap.SameBut a s.heap u->Q () {s with heap:=u,toks:=s.toks+1}):wpAny M A (nsSet a name v) Q E s:=by
 revert N;refine aa (l6 λo l B j hd=>aa λw z=>ac λO p k=>?_);rw [j] at p;obtain rfl:=an p;haveI r:l.any (·.refKey)=false:=by rw [Array.any_eq_false'];intro e C;refine EN (λn t h=>?_) (w e C);simp [DictEntry.refKey,h]
 unfold nsSet strHash;refine ff (ff (wpAny_askSetting (i8 (ff (wpAny_mkText (ff (wpAny_loadPart j ?_)))))));rw [hd];dsimp only;rw [aRefKeyMayBeTheName_at,r,Bool.and_false];refine wpAny_updatePart j ?_;have H:∀q,(Obj.putName name q (.str name s.toks) v o).cls=c:=λq=>(Oz ..).trans k;refine L _ ⟨?_,⟨_,fU _ j ?_,H _⟩⟩ (Heap.SameBut.update ..);obtain ⟨I,d,F,J⟩:=o;simp only at hd;subst hd;cases g:l.findIdx? (·.key.isStr name) with|some i=>refine ⟨_,_,B,fU _ j (by simp only [Obj.putName_eq,Obj.putNameByArray,g];rfl),by simp only [Obj.putName_eq,Obj.putNameByArray,g];rfl,w.modify _ _,λx=>?_⟩;show _=if x=name then some v else m x;rw [<- z];exact findBy_modify (λn v=>v.isStr n) Value.isStr_inj l name x v i g|none=>refine ⟨_,_,B+1,fU _ j (by simp only [Obj.putName_eq,Obj.putNameByArray,g];rfl),by simp only [Obj.putName_eq,Obj.putNameByArray,g];rfl,w.push _ _ _ _,λx=>?_⟩;show _=if x=name then some v else m x;rw [<- z];exact findBy_push (λn v=>v.isStr n) l name x _ _ v (λy=>by show (name==y)=decide (y=name);by_cases h:y=name;cases h.symm;simp;have:¬name=y:=λe=>h e.symm;simp [h,this]) g
 obtain ⟨I,d,F,J⟩:=o;simp only at hd;subst hd;cases g:l.findIdx? (·.key.isStr name)<;>(simp only [Obj.putName_eq,Obj.putNameByArray,g];rfl)
theorem rZ {a:Env} {m} (j:a.kindOf name=some .local) (e:a.scope.kind= .function) (g:bZ c s.heap a.locals m) (h:∀d,bZ c d a.locals (λx=>if x=name then some v else m x)->Heap.SameBut a.locals s.heap d->Q () {s with heap:=d,toks:=s.toks+1}):wpAny M A (storeName a name v) Q E s:=by rw [storeName_local j (by rw [e];rfl)];exact XZ g h
structure UF (iM:Shared) (ba:Env) (m cm:Str->Option Value) (s:Shared):Prop where
 same:∃h tk,s={iM with heap:=h,toks:=tk}
 ns:Cr s.heap ba.locals m
 keep:∀b o,iM.heap.get? b=some o->s.heap.get? b=some o
 fresh:iM.heap.objs.size<=ba.locals
 cell:∀n c,ba.kindOf n=some .cell->ba.cells.lookup n=some c->s.heap.IsCell c (cm n)/\ba.locals<c
 has:∀n,ba.kindOf n=some .cell->∃c,ba.cells.lookup n=some c
 apart:∀n n' c,ba.kindOf n=some .cell->ba.cells.lookup n=some c->ba.cells.lookup n'=some c->n=n'
theorem UF.bind {ba:Env} f (Y:∀n v u,f (n,v) u=(do storeName ba n v;pure (.yield ⟨⟩))) (hk:ba.scope.kind= .function):∀(j:List (Str×Value)) (m P:Str->Option Value) (s:Shared) (Q:PUnit->Shared->Prop),UF iM ba m P s->(∀x∈j,ba.kindOf x.1=some .local\/ba.kindOf x.1=some .cell)->(∀s',UF iM ba (bindL ba.kindOf j m) (bindC ba.kindOf j P) s'->Q ⟨⟩ s')->wpAny M A (forIn j ⟨⟩ f) Q E s| [],m,P,s,Q,x,_,h=>by rw [List.forIn_nil];exact i8 (h s x)| (n,v)::r,m,P,s,Q,x,H,h=>by rw [List.forIn_cons,Y];have hr:∀y∈r,ba.kindOf y.1=some .local\/ba.kindOf y.1=some .cell:=λy hy=>H y (FM _ hy);rcases H (n,v) wS with hl|hl;refine ff (ff (rZ hl hk x.ns λV Z B=>i8 (UF.bind f Y hk r _ P _ Q ⟨?_,Z,?_,x.fresh,?_,x.has,x.apart⟩ hr λI J=>h I ?_)));refine EN (λU tk=>?_) x.same;rintro rfl;exact ⟨V,_,rfl⟩;exact λb o e=>B.extBut b o (u4 (Op (r8 e) x.fresh)) (x.keep b o e);exact λk c hk hc=>let y:=x.cell k c hk hc;⟨y.1.sameBut B (BN y.2),y.2⟩;unfold bindL bindC;rw [bn hl,bn hl];exact J;refine am (λc hc=>?_) (x.has n hl);refine aa (λN R=>?_) (x.cell n c hl hc);(have S:¬ba.kindOf n=some .local:=by rw [hl];decide);refine ff (ff (wpAny_storeName_cell hk hl hc N λV F B=>i8 (UF.bind f Y hk r m (λy=>if y=n then some v else P y) _ Q ⟨?_,x.ns.sameBut B (u4 R),?_,x.fresh,?_,x.has,x.apart⟩ hr λI J=>h I ?_)));refine EN (λU tk=>?_) x.same;rintro rfl;exact ⟨V,_,rfl⟩;exact λb o e=>B.extBut b o (u4 (Nat.lt_trans (Op (r8 e) x.fresh) R)) (x.keep b o e);intro k c' ab F;have y:=x.cell k c' ab F;refine ⟨?_,y.2⟩;by_cases L:k=n;subst L;rw [hc] at F;obtain rfl:=an F;simpa using ‹V.IsCell c (some v)›;dsimp only;rw [al L];exact y.1.sameBut B λe=>L (x.apart n k c hl hc (e▸F)).symm;unfold bindL bindC;rw [al S,al S];exact J
theorem vA c:∀{a:List (Str×NameKind)} (_:∀x∈a,x.2≠ .cell) (k:Nat),cellsFrom k a c=c| [],_,_=>rfl| (y,d)::r,h,k=>by unfold cellsFrom;rw [al (by simpa using h (y,d) wS)];exact vA c (λx e=>h x (FM _ e)) k
theorem vP {globals:Addr} {code:Value} (z:scope.kind= .function) (l:∀x∈nv,scope.names.lookup x.1=some .local\/scope.names.lookup x.1=some .cell) (m:je=[]\/∀x∈scope.names,x.2≠ .cell) (B:∀d p,d=newEnv scope s.heap.objs.size globals d.cells j func code none a->(je=[]\/d.cells=je)->UF s d (bindL d.kindOf nv λ_=>none) (bindC d.kindOf nv λ_=>none) p->Q d p):wpAny M A (newFunctionEnv scope globals je nv j func code none a) Q E s:=by simp only [newFunctionEnv,Option.isSome_none,Bool.false_eq_true,if_false];refine ff (wpAny_alloc ?_);refine ff (wpAny_layCells _ (λname r w=>by cases u:r==NameKind.cell<;>simp [u]) _ _ _ _ ?_);haveI v:({s with heap:=s.heap.push {cls:= .type "frame",data:= .dict #[]}}:Shared).heap.objs.size=s.heap.objs.size+1:=DO ..;rw [v];haveI q:Cr (pushCells (s.heap.push {cls:= .type "frame",data:= .dict #[]}) scope.names) s.heap.objs.size (λ_=>none):=bZ.keeps ⟨Heap.Ns.new s.heap (.type "frame"),_,LF _ rfl,rfl⟩ (pushCells_keeps _ _);haveI y:∀b o,s.heap.get? b=some o->(pushCells (s.heap.push {cls:= .type "frame",data:= .dict #[]}) scope.names).get? b=some o:=λb o e=>pushCells_keeps _ _ b o (AL _ e);rcases m with rfl|m;have ok:=cellsFrom_ok scope.names (s.heap.push {cls:= .type "frame",data:= .dict #[]}) (s.heap.objs.size+1) [] ⟨λ_ _ F=>(nomatch F),List.Pairwise.nil⟩ (by rw [DO];exact lv _);rw [DO] at ok;refine ff (UF.bind (iM:=s) (ba:=newEnv scope s.heap.objs.size globals (cellsFrom (s.heap.objs.size+1) scope.names []) j func code none a) _ (λ_ _ _=>rfl) z nv (λ_=>none) (λ_=>none) _ _ ⟨⟨_,_,rfl⟩,q,y,lv _,λn c _ J=>?_,λn I=>?_,λn L c _ H C=>name_of_addr ok.apart (mem_of_lookup H) (mem_of_lookup C)⟩ l λp x=>i8 (B _ p rfl (.inl rfl) x));exact (ok.empty n c (mem_of_lookup J));exact qE.mp (cellsFrom_some _ _ _ (.inl I));have g:∀n,scope.names.lookup n≠some .cell:=λn e=>m _ (hZ e) rfl;have t:∀k,cellsFrom k scope.names je=je:=vA je m;rw [t];refine ff (UF.bind (iM:=s) (ba:=newEnv scope s.heap.objs.size globals je j func code none a) _ (λ_ _ _=>rfl) z nv (λ_=>none) (λ_=>none) _ _ ⟨⟨_,_,rfl⟩,q,y,lv _,λn c h=>absurd h (g n),λn h=>absurd h (g n),λn _ _ h=>absurd h (g n)⟩ l λp x=>i8 (B _ p rfl (.inr rfl) x))
end
section
variable {K:Frag}
theorem Ux (X:K.In s.heap) (l:typeOf (.type T)=pure (.type "type")) (k:Manifest.isStub T=false) (e:findCls K (.type T) (.type "type") name=some (.val v)) (m:handedIn v=true) (h:Q (v,[]) {s with toks:=s.toks+1}):wpAny (model a w) A (getMethod (.type T) name n) Q E s:=by
 haveI c:opaqueClassAbove (.type T)=pure none:=by unfold opaqueClassAbove;dsimp only;rw [k];rfl
 haveI d:Looks (model a w) s.heap (typeOf (.type T)) (.type "type"):=Looks.of_pure l;haveI g:findIn K (.type "type") "__getattribute__" =some (some (.builtin "type.__getattribute__")):=type_tga;unfold getMethod specialOf;refine ff (ff (d.here ((looks_findIn X g).here ?_)));dsimp only;rw [bn canon_tga];refine ff (xe (Q:=λv=>Q (v,[])) (E:=E) ?_ (λ_ _ z=>i8 z) λ_ _ z=>z);haveI j:Looks (model a w) s.heap (opaqueClassAbove (.type T)) none:=Looks.of_pure c;refine cls_open X j d g (looks_hook X (r:=none) (by rfl)) (by show subIn K _ _=_;rfl) e (i8 (by show wpAny _ _ (handedOut v) _ _ _;rw [handedOut_of m];exact i8 h))
structure Cx (K:Frag) (h:Heap):Prop where
 X:K.In h
 g:∃mg,h.Ns mainGlobals mg
 b:∃mb,h.Ns builtinsNs mb/\∀x:Str,x≠"__name__" ->mb x=bootBuiltins x
 nolimit:h.NoLimit
theorem Cx.keeps (C:Cx K h) (k:∀b o,h.get? b=some o->j.get? b=some o):Cx K j:=⟨C.X.keeps k,let ⟨m,x⟩:=C.g;⟨m,x.keeps k⟩,let ⟨m,x,y⟩:=C.b;⟨m,x.keeps k,y⟩,C.nolimit.keeps k⟩
section
theorem jQ (C:Cx K s.heap) (c:a.scope.kind= .function) (j:a.globals=mainGlobals) (d:a.kindOf x=some .globalImplicit) (hd:(x==("__debug__" :Str))=false) (e:nsIn K mainGlobals x=some (some v)) (h:Q v s):wpAny M A (eval (.Name x pos) a) Q E s:=by refine am (λk g=>?_) C.g;exact Name_function_global c d (loadGlobal_global (by rw [j];exact g) (mg_of C.X g e) h) hd
theorem jD (C:Cx K s.heap) (j:a.scope.kind= .function) (m:a.globals=mainGlobals) (n:a.builtins=builtinsNs) (l:a.kindOf x=some .globalImplicit) (hd:(x==("__debug__" :Str))=false) (e:nsIn K mainGlobals x=some none) (d:bootBuiltins x=some v) (k:x≠"__name__") (h:Q v s):wpAny M A (eval (.Name x pos) a) Q E s:=by refine am (λp g=>?_) C.g;refine ac (λo b c=>?_) C.b;exact Name_function_global j l (loadGlobal_builtin (by rw [m];exact g) (mg_none_of C.X g e) (by rw [n];exact b) ((c x k).trans d) h) hd
end
structure sL (K:Frag) (fa:Addr) (fd:FuncData) (body:List Stmt):Prop where
 obj:∃c d sl,K.lookup fa=some ⟨c,d,.func fd,sl⟩
 body:fd.body= .stmts body
 code:codeIn K fd.code fd.qualname=true
 globals:fd.globals=mainGlobals
 builtins:fd.builtins=builtinsNs
 closure:fd.closure=[]
 kind:fd.scope.kind= .function
 pZ:fd.scope.isCoroutine=false
 og:fd.scope.isGenerator=false
theorem Um (C:Cx K s.heap) (F:sL K y p body) (m:A.depth<recursionLimit) (r:bindArgs p ⟨o,[]⟩=pure g) (l:∀x∈g,p.scope.names.lookup x.1=some .local\/p.scope.names.lookup x.1=some .cell) (h:∀a k,a.scope=p.scope->a.globals=mainGlobals->a.builtins=builtinsNs->a.frame=some a.locals->UF s a (bindL a.kindOf g λ_=>none) (bindC a.kindOf g λ_=>none) k->wpAny (model j w) (A.deeper a) (execs body a) (λf k=>R (.ok (.ret (match f with| .ret v=>v|_=> .none))) k) (λe k=>wpAny (model j w) (A.deeper a) (leaving a e) (λ_ n=>R (.error e) n) (λq n=>R (.error q) n) k) k):codeAny (model j w) A (.call (.ref y) ⟨o,[]⟩) R s:=by
 refine fc (λc d E u=>?_) F.obj;refine codeAny_call_function m (C.X _ _ u) rfl F.pZ F.og F.body (codeRec_of C.X F.code) ?_;rw [r];refine i8 ?_;refine vP F.kind l (.inl F.closure) λa k t H x=>⟨?_,codeAny_func (h a k ?_ ?_ ?_ ?_ x)⟩;refine EN (λB z=>?_) x.same;rintro rfl;exact C.nolimit.keeps x.keep;all_goals rw [t]
 rfl;exact F.globals;exact F.builtins;rfl
structure i5 (K:Frag) (C:Addr) (fI:Addr):Prop where
 cls:∃nm q N bs D sn sub ab ny dd k0 k1 k2 k3 k5,K.lookup C=some (excClassObj nm q C N bs [.ref D,.type "Exception",.type "BaseException",.type "object"] true sn sub ab ny dd k0 k1 k2 k3 k5 "Exception.__new__")
 init:findIn K (.ref C) "__init__" =some (some (.ref fI))
 slot:findIn K (.ref C) "__setattr__" =some (some (.builtin "object.__setattr__"))
 pA:takerIn K C "message" =some none
 exc:nsIn K mainGlobals "Exception" =some none
 ay:findCls K (.type "Exception") (.type "type") "__init__" =some (.val (.builtin "Exception.__init__"))
 code:∃fd p1 p2 p3 p4 p5 p6 p7 p8 p9 vD,sL K fI fd [.Expr (.Call (.Attribute (.Name "Exception" p1) "__init__" p2) [.Name "self" p3,.Name "message" p4] [] p5) p6,.Assign [.Attribute (.Name "self" p7) "message" p8] (.Name "message" p9) vD]/\
  (p2.endLine==p5.line)=true/\(∀u v,bindArgs fd ⟨[u,v],[]⟩=pure [(("self" :Str),u),(("message" :Str),v)])/\fd.scope.names.lookup ("self" :Str)=some .local/\fd.scope.names.lookup ("message" :Str)=some .local/\fd.scope.names.lookup ("Exception" :Str)=some .globalImplicit/\
  (∃c d sl,K.lookup fI=some ⟨c,d,.func fd,sl⟩/\c= .type "function")
section
theorem BQ (h:eI o=true):attributeBase o attr d whole=whole:=by induction o using Expr.casesOn with|Call f c a p=>(induction c using List.casesOn with|nil=>(induction a using List.casesOn with|nil=>injection h|cons=>induction f using Expr.casesOn<;>rfl)|cons=>induction f using Expr.casesOn<;>rfl)|_=>rfl
noncomputable def vH (a:List (Bool×Sem Value)):Bool:=a.all (λx=> !x.1)
theorem o9 {o:Expr} (r:eI o=true) (n:vH (backTo pos (starEach a c))=true) (p:a.length<30) (q:(apos.endLine==pos.line)=true) (h:wpAny M A (eval o c) (λm d=>wpAny M A (getMethod m name (do return (<- importBound o c).getD true)) (λk e=>wpAny M A (callWith pos k.1 k.2 (backTo pos (starEach a c)) []) Q E e) E d) E s):wpAny M A (eval (.Call (.Attribute o name apos) a [] pos) c) Q E s:=by
 rw [arm_eval_Call,BQ r];refine ff (xe h (λm d j=>ff (ci ?_)) λ_ _ x=>x);haveI e0:backToKw pos (keywordEach [] c)=[]:=rfl;haveI l:methodCallForm (a.length+([]:List Keyword).length) (backTo pos (starEach a c)) (backToKw pos (keywordEach [] c))=true:=by rw [e0];unfold methodCallForm;simp only [List.all_nil,Bool.and_true,List.isEmpty_nil,if_true,Nat.add_zero,List.length_nil,Bool.and_eq_true,decide_eq_true_eq];exact ⟨n,p⟩
 unfold methodCall calleeOf methodCallPos;rw [l];rw [q];exact ff (Mn (xe j (λk e g=>ff (i8 g)) λ_ _ x=>x))
end
theorem Bs D:iI [.ref D,.type "Exception",.type "BaseException",.type "object"]:=⟨by rfl,by rfl,by rfl,by rfl,by rfl⟩
theorem UJ (e:f a=some .local) (d:f b=some .local) (c:b≠a):bindL f [(a,u),(b,v)] (λ_=>none) a=some u/\bindL f [(a,u),(b,v)] (λ_=>none) b=some v:=by unfold bindL bindL bindL;rw [bn e,bn d];exact ⟨by simp [Ne.symm c],by simp⟩
theorem F1 (F:i5 K C fI) (j:Cx K d) (st:d.StaysIn s.heap) (ak:d.get? e=none) (H:A.depth<recursionLimit) (he:s.heap.get? e=some (jT C t0 none)) (hR:∀W V Z X,(∀b o,b≠e->s.heap.get? b=some o->W.get? b=some o)->W.get? e=some (jT C Z (some X))->R (.ok (.ret .none)) {s with heap:=W,toks:=V}):codeAny (model ap w) A (.call (.ref fI) ⟨[.ref e,v],[]⟩) R s:=by
 refine s3 λ_ t=>?_;refine rb (λfd p1 p2 p3 p4=>rb λp5 p6 p7 p8 p9=>dp λav fn hl T ks=>im λkm kx Y=>?_) F.code;refine rb (λnm q N bs D=>rb λsn sub ax as dd=>rb λk0 k1 k2 k3 k5 hC=>?_) F.cls;refine t ?_;refine Um (j.keeps st) fn H (T _ _) (λx U=>?_) λc ar e1 e2 e3 e4 x=>?_;rcases LB.mp U with rfl|U;exact .inl ks;rw [wb] at U;subst U;exact .inl km;haveI t:c.scope.kind= .function:=by rw [e1];exact fn.kind
 have a:c.kindOf "self" =some .local:=by unfold Env.kindOf;rw [e1];exact ks
 have k:c.kindOf "message" =some .local:=by unfold Env.kindOf;rw [e1];exact km
 haveI M:c.kindOf "Exception" =some .globalImplicit:=by unfold Env.kindOf;rw [e1];exact kx
 refine aa (λm1 m2=>?_) (UJ (u:=Value.ref e) (v:=v) a k (by decide));refine EN (λhh V=>?_) x.same;rintro rfl;have L:=x.ns.1;haveI I:=x.keep _ _ he;have l:d.StaysIn hh:=λb o q=>x.keep _ _ (st b o q);have m:Cx K hh:=j.keeps l;have ab:c.locals≠e:=BN (Op (r8 he) x.fresh);refine jh ?_;refine wpAny_Expr (o9 rfl (by rfl) (by show 2<30;decide) hl ?_) (by unfold interactive;rw [t];rfl) (by rfl);refine jD (s:={s with heap:=hh,toks:=V}) m t e2 e3 M (by decide) F.exc (by decide+kernel:bootBuiltins "Exception" =some (.type "Exception")) (by decide) ?_;refine Ux m.X (by kernel_rfl) (by decide+kernel) F.ay (by decide+kernel) ?_;refine qH rfl (evalArgs_plain ?_);refine spliced_cons (wpAny_Name (kX t a L m1 ?_) (by decide));refine spliced_cons (wpAny_Name (kX t k L m2 ?_) (by decide));refine spliced_nil ?_;show wpAny _ _ (call (.builtin "Exception.__init__") [.ref e,v]) _ _ _;refine HR (Bs D) (m.X _ _ hC) I λn Z p B=>?_;show wpAny _ _ _ _ _ _;have E:d.StaysIn n:=λb o q=>p b o (λz=>by rw [z,ak] at q;injection q) (l b o q);haveI Q:Cx K n:=j.keeps E;have g:n.Ns c.locals (bindL c.kindOf [(("self" :Str),Value.ref e),(("message" :Str),v)] λ_=>none):=by revert L;refine xy λo es ep ho r=>?_;exact ⟨o,es,ep,p _ _ ab ho,r⟩
 refine jh (plainObj_wpAny_Assign_Attribute ?_ (by rfl));refine wpAny_Name (kX t k g m2 ?_) (by decide);refine wpAny_Name (kX t a g m1 ?_) (by decide);have S:mx K C "message" :=by refine ⟨⟨_,by unfold clsIn;rw [hC],rfl,rfl,by rfl,λy=>?_⟩,F.slot,F.pA⟩;rw [refuseLoop_ref,refuseLoop_ref];exact PySem.F.store_Exception.passes _
 refine GZ Q.X S B λO ai X P J=>?_;refine kY ?_;exact hR O ai Z X (λb o T q=>P b o T (p b o T (x.keep b o q))) J
theorem MF (F:i5 K C fI) (j:Cx K a) (st:a.StaysIn s.heap) (l:A.depth+1<recursionLimit) (S:∀p u e y x,(∀b o,s.heap.get? b=some o->p.get? b=some o)->s.heap.get? e=none->p.get? e=some (jT C y (some x))->Q (.ref e) {s with heap:=p,toks:=u}):wpAny (model H w) A (call (.ref C) [v]) Q E s:=by
 refine s3 λ_ I=>?_;refine rb (λT q N bs D=>rb λsn sub ab R Z=>rb λk0 k1 k2 W V O=>?_) F.cls;refine rb (λY Y Y Y Y=>rb λY Y Y Y Y=>dp λY Y Y Y Y=>im λY Y=>xy λc d sl L P=>?_) F.code;have X:=j.keeps st;obtain ⟨hh,g,dr,u,os⟩:=s;refine I ?_;refine call_exc (Bs D) (X.X _ _ O) (λM=>looks_findIn X.X F.init) (X.X _ _ L) P (λp e n=>wpAny_call ?_) (by rw [hU];show 1<=_;exact e7 _ _);have B:a.get? e=none:=by cases q:a.get? e with|none=>rfl|some o=>have:=st _ _ q;rw [n.new] at this;injection this
 refine nw (λU J Y Y=>?_) n.there;refine F1 (s:=⟨p,g,dr,u,os⟩) F j (λb o q=>n.keeps _ _ (st b o q)) B (by rw [depth_under_make];exact l) J λr m y x t k=>?_;refine ⟨rfl,S r m e y x (λb o q=>t b o (λz=>?_) (n.keeps b o q)) n.new k⟩;cases z.symm;have:=n.new;rw [q] at this;injection this
end
structure CX (K:Frag) (C:Addr) (name:Str):Prop where
 get:plainGet K C name=true
 dict:hasDictIn K C=true
 attr:∃a,findIn K (.ref C) name=some a/\noGet K a=true
structure GM (ao:Program) (w:World) (K:Frag) (dL:Heap) (T:eQ):Prop where
 cx:Cx K dL
 lo:sysModules<dL.objs.size
 attr:∀c f,T.fields.contains (c,f)=true->CX K c (wT f)
 set:∀c f,T.fields.contains (c,f)=true->mx K c (wT f)
 glob:∀(i:Nat) x v,T.dH[i]? =some (x,v)->∃u,nsIn K mainGlobals x=some (some u)/\∀g h,f8 ao w dL g h->VR ao w g h v u
section
variable {K:Frag} {s:Shared}
theorem DG [DecidableEq d]:∀{a:List (d×Value)} {i:Nat} {k:d} {v:Value},(a.map (·.1)).Nodup->a[i]? =some (k,v)->valueAt a k=some v| [],_,_,_,_,e=>by simp at e| (y,u)::r,i,k,v,c,e=>by rw [cN,cO] at c;unfold valueAt;rw [List.find?_cons];induction i using Nat.casesOn with|zero=>simp only [List.getElem?_cons_zero,Option.some.injEq,Prod.mk.injEq] at e;revert e;refine aa ?_;rintro rfl rfl;simp|succ i=>have g:y≠k:=λq=>c.1 (by rw [q];exact e8.mpr ⟨_,Lm e,rfl⟩);simp only [g,decide_false];exact DG c.2 e
theorem M0 (e:dO f c=some x):∃i:Nat,c[i]? =some (f,x):=by induction c with|nil=>injection e|cons p r g=>haveI a:(bif p.1==f then some p.2 else dO f r)=some x:=e;cases h:p.1==f<;>rw [h] at a;refine am (λi d=>?_) (g a);exact ⟨i+1,d⟩;exact ⟨0,l9 some (Prod.ext (eq_of_beq h) (an a))⟩
theorem L1:∀{c:List DictEntry},Pairs (PySem.strKind d w) c a->valueAt a k=some v->∃e,c.find? (·.key.isStr k)=some e/\e.val=v:=by induction a with|nil=>intro c l e;cases l;simp [valueAt] at e|cons p r t=>intro c l e;cases l with| @cons j _ c _ m n o=>unfold valueAt at e;rw [List.find?_cons] at e⊢;by_cases g:p.1=k;simp only [g,decide_true] at e;(have:j.key.isStr k=true:=by rw [nj,<- g];exact m);rw [this];exact ⟨j,rfl,by rw [n];simpa using e⟩;simp only [g,decide_false] at e;(have:j.key.isStr k=false:=by cases q:j.key.isStr k with|false=>rfl|true=>exact absurd ((PySem.strKind d w).inj _ _ _ m (by rw [nj] at q;exact q)) g);rw [this];exact t o e
theorem W9 {h:Heap} (hd:h.DictOf (PySem.strKind j w) d c) (n:h.get? d=some o) (e:valueAt c k=some v):lookIn k o=some (some v):=by revert hd;refine l6 λr p q a Y=>pt λg Y l Y=>?_;rw [n] at a;obtain rfl:=an a;refine ac (λt e1 m=>?_) (L1 l e);unfold lookIn;rw [g];dsimp only;rw [e1];dsimp only;rw [m]
theorem Dp (R:f8 d w n g s.heap) (e:g.C l=some (.inst c o)):∃m a k,s.heap.get? (g.ι l)=some ⟨.ref c,some (g.δ l),.plain,m⟩/\s.heap.DictOf (PySem.strKind d w) (g.δ l) a/\s.heap.get? (g.δ l)=some k/\a.map (·.1)=o.map (λf=>wT f.1)/\br d w g s.heap (o.map (·.2)) (a.map (·.2))/\InstAt s.heap (g.ι l) ⟨.ref c,some (g.δ l),.plain,m⟩ c (some k):=by refine s3 λ_ q=>?_;refine aa (λY=>Cc λm a p hd t z=>?_) (R.at_ l _ e);refine xy (λk u v j r=>?_) (id hd);refine q ?_;exact ⟨m,a,k,p,hd,j,t,z,p,rfl,rfl,j⟩
theorem Ib (V:VR a w g h m v):handedIn v=true:=by induction m using MV.casesOn;subst V;rfl;subst V;rfl;revert V;refine am λt=>?_;rintro rfl;rfl;revert V;refine am λt=>?_;rintro rfl;rfl;rw [V.1];rfl;revert V;refine rb λY Y Y Y Y=>aa ?_;rintro rfl Y;rfl;revert V;refine xy λY Y Y=>?_;rintro rfl Y;rfl;revert V;refine tz λY Y=>?_;rintro rfl Y;rfl;revert V;refine tz λY Y=>?_;rintro rfl Y;rfl;revert V;refine tz λY Y=>?_;rintro rfl Y;rfl
theorem Vd (t:GM d w K k T) (R:f8 d w k g s.heap) (V:VR d w g s.heap v u) (q:oX T v f g.C Q):wpAny (model d w) A (getAttr u (wT f) true) (u7 d w k g s Q) E s:=by
 refine s3 λ_ M=>?_;refine ac (λl=>?_) (jq q);rintro rfl q;obtain ⟨⟨c,W⟩,e,q⟩:=s5 q;haveI e:=uh e;refine aa (λo q=>?_) (qc q);refine ac (λx N q=>?_) (s5 q);revert V;refine aa ?_;rintro rfl Y;refine l6 (λX j U Z hd=>pt λH P z I=>?_) (Dp R e);refine am (λi J=>?_) (M0 N);refine ac (λy B L=>?_) (br.get z (i:=i) (m:=x) (by rw [GG,J];rfl));haveI C:j[i]? =some (wT f,y):=by (have r:(j.map (·.1))[i]? =some (wT f):=by rw [P,GG,J];rfl);rw [GG] at r B;cases q:j[i]? with|none=>rw [q] at r;injection r|some p=>rw [q] at r B;simp only [Option.map_some,Option.some.injEq] at r B;rw [<- r,<- B]
 haveI S:(j.map (·.1)).Nodup:=let ⟨_,_,_,_,_,_,_,_,n⟩:=hd;n;refine ac (λa O F=>?_) ((t.attr c f o).attr);refine M ?_;refine get_value (t.cx.X.keeps R.base) I (plainGet_of (t.attr c f o).get).1 (findObj_own (t.attr c f o).dict O F (W9 hd H (DG S C))) (Ib L) ?_;exact .val R L q
theorem uH (h:(a - b==0)=true):a<b+1:=Nat.lt_succ_of_le (Nat.le_of_sub_eq_zero (eq_of_beq h))
theorem T6:∀a,a<16->∀b,b<16->wT a=wT b->a=b:=by
 haveI h:(List.range 16).all (λa=>(List.range 16).all λb=> !(wT a==wT b)||a==b)=true:=by decide+kernel
 intro a j b g e;haveI d:=LG.mp h a (List.mem_range.mpr j);haveI c:=LG.mp d b (List.mem_range.mpr g);rw [e] at c;simpa using c
theorem Pt (E:f<16) (V:VR c w g h x v) (j:(d.all λp=>p.1 - 15==0)=true) (n:a.map (·.1)=d.map (λp=>wT p.1)) (L:(a.map (·.1)).Nodup) (z:br c w g h (d.map (·.2)) (a.map (·.2))):(stored a (wT f) v).map (·.1)=(bp f x d).map (λp=>wT p.1)/\br c w g h ((bp f x d).map (·.2)) ((stored a (wT f) v).map (·.2)):=by induction d generalizing a with|nil=>(induction a using List.casesOn with|nil=>exact ⟨rfl,.one V⟩|cons _ _=>injection n)|cons q r J=>induction a using List.casesOn with|nil=>injection n|cons p a=>refine s3 λ_ A=>?_;refine aa (λm t=>?_) (List.cons.inj n);obtain ⟨k,b⟩:=p;revert z;refine pi λO N C B u=>?_;refine aa ?_ (List.cons.inj C);rintro rfl rfl;refine aa (λH M=>?_) (cO.mp L);haveI j:(q.1 - 15==0&&r.all λp=>p.1 - 15==0)=true:=j;refine A ?_;show (stored ((k,b)::a) (wT f) v).map (·.1)=(bif q.1==f then (q.1,x)::r else q::bp f x r).map _/\br c w g h ((bif q.1==f then (q.1,x)::r else q::bp f x r).map (·.2)) _;cases e:q.1==f with|true=>haveI e:=eq_of_beq e;have l:k=wT f:=m.trans (l9 wT e);(haveI e1:stored ((k,b)::a) (wT f) v=(wT f,v)::a:=by unfold stored;rw [bn (by simp [l])];simp only [List.map_cons,l,if_true,List.cons.injEq,true_and];refine bK (λq y=>?_)|>.trans (List.map_id _);rw [al (λe:q.1=wT f=>H (e8.mpr ⟨q,y,e.trans l.symm⟩))];rfl);rw [e1];exact ⟨congr (l9 List.cons (l9 wT e.symm)) t,.cons V u⟩|false=>have o:k≠wT f:=λz=>ne_of_beq_false e (T6 _ (uH (aL j)) f E (m.symm.trans z));(have e1:stored ((k,b)::a) (wT f) v=(k,b)::stored a (wT f) v:=by unfold stored;simp only [List.any_cons,o,decide_false,Bool.false_or,List.map_cons,if_false];split<;>rfl);refine aa (λF I=>?_) (J (aR j) t M u);rw [e1];exact ⟨congr (l9 List.cons m) F,.cons B I⟩
end
section
variable {K:Frag}
theorem pX {e:Heap} {tk:Nat} (R:f8 c w d g s.heap) (m:(g.C l).isSome=true) (k:∀a o,¬g.aH l a->s.heap.get? a=some o->e.get? a=some o) (j:s.heap.objs.size<=e.objs.size) (new:EM c w (g.upd l ov) e l ov) (q:Q (up g.C l ov)):iR c w d g s Q {s with heap:=e,toks:=tk}:=⟨g.upd l ov,⟨R.set m k j new,ga.set m k j,rfl,rfl⟩,q⟩
theorem r7 {e:Heap} {tk:Nat} (R:f8 c w d g s.heap) (n:(g.C l).isSome=true) (k:∀a o,¬g.aH l a->s.heap.get? a=some o->e.get? a=some o) (j:s.heap.objs.size<=e.objs.size) (new:EM c w (g.upd l ov) e l ov) (V:VR c w g s.heap m v) (q:Q m (up g.C l ov)):u7 c w d g s Q v {s with heap:=e,toks:=tk}:=⟨g.upd l ov,m,⟨R.set n k j new,ga.set n k j,rfl,rfl⟩,VR.ext (ga.set (S:=λ_=>False) n k j) IS R V,q⟩
theorem Zs {d:Addr} {h:Heap} (a:Heap.SameBut d h c):h.objs.size<=c.objs.size:=fp a.1.symm
theorem YT {v x:MV} (N:GM d w K j T) (R:f8 d w j g s.heap) (V:VR d w g s.heap v u) (P:VR d w g s.heap x y) (q:oO T v f x g.C Q):wpAny (model d w) A (setAttr u (wT f) y) (λ_=>iR d w j g s Q) E s:=by
 refine s3 λ_ U=>?_;refine ac (λl=>?_) (jq q);rintro rfl q;obtain ⟨⟨c,M⟩,e,q⟩:=s5 q;haveI e:=uh e;refine aa (λt q=>?_) (qc q);haveI F:=aL t;haveI H:=aL (aR t);haveI X:=uH (aL (aR (aR t)));haveI m:=uH (aR (aR (aR t)));revert V;refine aa ?_;rintro rfl J;refine aa (λr=>Cc λsl p O hd L z=>?_) (R.at_ l _ e);haveI hn:=let ⟨_,_,_,_,_,_,_,_,n⟩:=hd;n;haveI I:p.length<1000:=by rw [show p.length=M.length by have:=l9 List.length L;rwa [FB,FB] at this];exact Nat.lt_trans m (by decide)
 refine U ?_;refine F7 (N.cx.X.keeps R.base) (N.set c f F) O hd I λW tk C B=>?_;have k:∀a o,¬g.aH l a->s.heap.get? a=some o->W.get? a=some o:=λa o Z ea=>(B.2 a λq=>Z ⟨J,.inr q⟩).trans ea;refine aa (λs1 Y=>?_) (Pt (f:=f) X P H L hn z);refine pX (ov:= .inst c (bp f x M)) R J k (Zs B) ⟨r,sl,_,(B.2 _ (u8 r)).trans O,C,s1,?_⟩ q;exact br.ext (ga.set (S:=λ_=>False) J k (Zs B)) IS R Y
noncomputable def fF {a d:Type} [DecidableEq d] (c:a->d) (up:a->a) (new:a) (k:d) (l:List a):List a:=if (l.any λe=>decide (c e=k))=true then l.map up else l++[new]
theorem BR {m n:Type} [DecidableEq n] {k:n} {aU:m->n} {val:m->Value} {up:m->m} {new:m} (V:VR c w g h x v) (J:∀e,aU (up e)=aU e) (I:∀e,aU e=k->val (up e)=v) (o:∀e,aU e≠k->up e=e) (F:aU new=k) (N:val new=v) {l:List m} (M:(l.map aU).Nodup) (z:br c w g h d (l.map val)):(fF aU up new k l).map aU=(pb k x (l.map aU) d).1/\br c w g h (pb k x (l.map aU) d).2 ((fF aU up new k l).map val):=by induction l generalizing d with|nil=>(induction d using List.casesOn with|nil=>exact ⟨l9 (λa=>[a]) F,.one (N▸V:VR c w g h x (val new))⟩|cons _ _=>revert z;refine tz λY Y e Y=>?_;injection e)|cons p l L=>induction d using List.casesOn with|nil=>injection z|cons u d=>refine s3 λ_ y=>?_;revert z;refine pi λQ P B A r=>?_;refine aa ?_ (List.cons.inj B);rintro rfl rfl;refine aa (λC O=>?_) (cO.mp M);refine y ?_;by_cases j:aU p=k;(have e1:fF aU up new k (p::l)=up p::l:=by unfold fF;rw [bn (by simp [j])];exact l9 (up p:: ·) ((bK λq t=>o q λe=>C (e8.mpr ⟨q,t,e.trans j.symm⟩)).trans (List.map_id' _)));rw [e1,show pb k x ((p::l).map aU) (u::d)=(aU p::l.map aU,x::d) from fb j];exact ⟨l9 (· ::_) (J p),.cons ((I p j)▸V:VR c w g h x (val (up p))) r⟩;(have e1:fF aU up new k (p::l)=p::fF aU up new k l:=by unfold fF;simp only [List.any_cons,j,decide_false,Bool.false_or,List.map_cons,o p j];split<;>rfl);refine aa (λE H=>?_) (L O r);rw [e1,show pb k x ((p::l).map aU) (u::d)=(aU p::(pb k x (l.map aU) d).1,u::(pb k x (l.map aU) d).2) from dv j];exact ⟨l9 (aU p:: ·) E,.cons A H⟩
theorem BF {d:Type} [DecidableEq d] {h:Heap} {k:d} {x:MV} (V:VR c w g h x v) {l:List d} {m:List MV} {a:List (d×Value)} (n:a.map (·.1)=l) (o:(a.map (·.1)).Nodup) (z:br c w g h m (a.map (·.2))):(stored a k v).map (·.1)=(pb k x l m).1/\br c w g h (pb k x l m).2 ((stored a k v).map (·.2)):=n▸BR (aU:=(·.1)) (up:=λj=>if j.1=k then (j.1,v) else j) (new:=(k,v)) V (λe=>by split<;>rfl) (λe q=>by rw [bn q]) (λe q=>al q) rfl rfl o z
theorem Js {h:Heap} {k:List Str} {x:MV} (V:VR a w g h x v) {d:List MV} {c:List (List Str×Addr×Value)} (l:c.map (·.1)=j) (m:(c.map (·.1)).Nodup) (z:br a w g h d (c.map (·.2.2))):(storedH c k ka v).map (·.1)=(pb k x j d).1/\br a w g h (pb k x j d).2 ((storedH c k ka v).map (·.2.2)):=by
 subst l;haveI e:storedH c k ka v=fF (·.1) (putAt k v) (k,ka,v) k c:=by unfold storedH atKey fF;rw [Option.isSome_map,List.isSome_find?]
 rw [e];exact BR (aU:=(·.1)) (up:=putAt k v) (new:=(k,ka,v)) V (λe=>by unfold putAt;split<;>rfl) (λe q=>by unfold putAt;rw [bn q]) (λe q=>by unfold putAt;rw [al q]) rfl rfl m z
noncomputable def dZ (k:Int) (n:Nat):Int:=if k<0 then k+n else k
theorem CB {k:Int} {j:Nat} (h:seqIndex? k n=some j):0<=dZ k n/\dZ k n<n/\(dZ k n).toNat=j:=by haveI h:(if (decide (0<=dZ k n)&&decide (dZ k n<n))=true then some (dZ k n).toNat else none)=some j:=h;by_cases q:(decide (0<=dZ k n)&&decide (dZ k n<n))=true;rw [bn q] at h;exact ⟨ue (aL q),ue (aR q),an h⟩;rw [al q] at h;injection h
theorem Mg {k n:Int} (h:0<=k+n): -n<=k:=by lia
theorem UB {k:Int} {n:Nat} (h:0<=k+n) (a:n<=gz): -(2^63)<=k:=by unfold gz at a;lia
theorem Jf {k:Int} {n:Nat} (h:k<n) (a:n<=gz):k<2^63:=by unfold gz at a;lia
theorem EX {a:List Value} {j:Nat}:(a.toArray.setIfInBounds j v)=(a.set j v).toArray:=by simp
theorem Lq {a i x:MV} {y:Value} (hu:A.units+2<cLine) (lo:sysModules<v.objs.size) (R:f8 c w v g s.heap) (Va:VR c w g s.heap a u) (Y:VR c w g s.heap i j) (T:VR c w g s.heap x y) (q:gb a i x g.C Q):wpAny (model c w) A (setItem u j y) (λ_=>iR c w v g s Q) E s:=by refine ac (λl=>?_) (jq q);rintro rfl q;revert Va;refine aa ?_;rintro rfl J;have L:∀{F:Heap},Heap.SameBut (g.ι l) s.heap F->∀a o,¬g.aH l a->s.heap.get? a=some o->F.get? a=some o:=λr a o na ea=>(r.2 a λq=>na ⟨J,.inl q⟩).trans ea;induction i using MV.casesOn with|int k=>revert Y;refine am λt=>?_;rintro rfl;refine nw (λI e V q=>?_) (s5 q);refine ac (λn O q=>?_) (s5 q);refine aa (λB=>tz λm U Z z=>?_) (R.at_ l _ (ow e));haveI p:=z.len;haveI ai:I.length<2^62:=wn V (by unfold gz;decide);(haveI fin:∀F,F=s.heap.update (g.ι l) (Obj.mapSeq (·.setIfInBounds n y))->iR c w v g s Q {s with heap:=F}:=λF eh=>by subst eh;haveI r:Heap.SameBut (g.ι l) s.heap (s.heap.update (g.ι l) (Obj.mapSeq (·.setIfInBounds n y))):=Heap.SameBut.update ..;refine pX (tk:=s.toks) (ov:= .list (I.set n x)) R J (L r) (Zs r) ⟨B,(if ((U.set n y).toArray.size==U.toArray.size)=true then m else m+1),U.set n y,?_,br.ext (ga.set (S:=λ_=>False) J (L r) (Zs r)) IS R (z.set T)⟩ q;rw [fU _ Z rfl];simp only [Obj.mapSeq,EX]);refine im (λN P=>?_) (CB O);rintro rfl;by_cases C:k<0;rw [show dZ k I.length=k+I.length from bn C] at N P fin;exact ki_setBack (n:=m) Z C (by rw [KT,p];exact Mg N) (UB N V) (fin _ (by rw [KT,p]));rw [show dZ k I.length=k from al C] at N P fin;exact ki_setAt (n:=m) Z N (Jf P V) (by rw [KT,p];exact P) (fin _ rfl)|str k=>revert Y;refine am λt=>?_;rintro rfl;refine ac (λd e q=>?_) (s5 q);refine aa (λB=>nw λX hd C z=>?_) (R.at_ l _ (lP e));haveI O:=let ⟨_,_,_,_,_,_,_,_,n⟩:=hd;n;(haveI p:X.length=d.1.length:=by rw [<- C,FB]);refine wpAny_setItem_pairs (knd:=PySem.strKind c w) (k:=k) (by simp [PySem.strKind,Value.isStrOf]) hd (λF H r=>?_) (by rw [p,hU];lia);refine aa (λs1 W=>?_) (BF (k:=k) T C O z);exact pX (ov:= .aM (pb k x d.1 d.2).1 (pb k x d.1 d.2).2) R J (L r) (Zs r) ⟨B,_,H,s1,br.ext (ga.set (S:=λ_=>False) J (L r) (Zs r)) IS R W⟩ q.2|tup t=>refine ac (λd e' q=>?_) (s5 q);refine ac (λk e q=>?_) (s5 q);refine ac (λab=>?_) (Dl e Y);rintro rfl M;refine aa (λB=>nw λI hd C z=>?_) (R.at_ l _ (zK e'));haveI O:=let ⟨_,_,_,_,_,_,_,_,n⟩:=hd;n;(haveI p:I.length=d.1.length:=by rw [<- C,FB]);refine wpAny_setItem_heap (knd:=tupleKind (PySem.strKind c w)) (k:=k) (by show A.in1.units<cLine;rw [Around.in1_units];exact Co (by assumption)) M hd (λF H r=>?_) (by rw [p,hU];lia);refine aa (λs1 W=>?_) (Js (k:=k) (ka:=ab) T C O z);exact pX (ov:= .aT (pb k x d.1 d.2).1 (pb k x d.1 d.2).2) R J (L r) (Zs r) ⟨B,_,H,s1,br.ext (ga.set (S:=λ_=>False) J (L r) (Zs r)) IS R W⟩ q.2|_=>exact q.elim
set_option tactic.hygienic true in theorem fq {value slice:Expr} {T id:String} (l:s.TypeIs o T) (k:typeLookup (.type T) "__getitem__" =pure (some (.builtin id))) (j:wpAny (model d w) A (getItem o i) Q E s):wpAny (model d w) A (subscriptTail value slice o i) Q E s:=by
 have:∃g,subscripted slice false o i=operate g (getItem o i):=by induction slice using Expr.casesOn<;>first|exact ⟨_,rfl⟩| (rename_i a b c p;induction c using Option.casesOn<;>exact ⟨_,rfl⟩)
 revert this;refine am λg e=>?_;exact tail_any l k j e
theorem sj {k:Int} {j:Nat} (h:seqIndex? k n=some j) (d:n<=gz): -(2^63)<=k/\k<2^63/\j<n:=by refine im (λa c g=>?_) (CB h);have d:(n:Int)<=2^62:=Int.le_trans (Int.ofNat_le.mpr d) (by decide);have e:=g▸(Int.toNat_lt a).mpr c;revert a c;unfold dZ;by_cases q:k<0;rw [bn q];exact λa _=>⟨Int.le_trans (Int.le_trans (b:= -(2^62)) (by decide) (Int.neg_le_neg d)) (Int.add_nonneg_iff_neg_le.mp a),Int.lt_trans q (by decide),e⟩;rw [al q];exact λa c=>⟨Int.le_trans (by decide) a,Int.lt_of_lt_of_le c (Int.le_trans d (by decide)),e⟩
theorem B2 {j:Type} [DecidableEq j] {h:Heap} {k:j} {a:List (j×Value)} (z:br d w g h c (a.map (·.2))):(re k (a.map (·.1)) c=none/\valueAt a k=none)\/∃x v,re k (a.map (·.1)) c=some x/\valueAt a k=some v/\VR d w g h x v:=by induction a generalizing c with|nil=>exact .inl ⟨rfl,rfl⟩|cons p a n=>induction c using List.casesOn with|nil=>injection z|cons u c=>refine s3 λ_ l=>?_;revert z;refine pi λr t q m o=>?_;refine aa ?_ (List.cons.inj q);rintro rfl rfl;refine l ?_;by_cases e:p.1=k;exact .inr ⟨u,p.2,bn e,by simp [valueAt,e],m⟩;rw [show re k ((p::a).map (·.1)) (u::c)=re k (a.map (·.1)) c from al e,show valueAt (p::a) k=valueAt a k by simp [valueAt,e]];exact n o
theorem oM {j:Type} [DecidableEq j] {h:Heap} {k:j} {l:List j} {c:List (j×Value)} (m:c.map (·.1)=l) (z:br d w g h n (c.map (·.2))) (e:re k l n=some x):∃v,valueAt c k=some v/\VR d w g h x v:=by subst m;rcases B2 (k:=k) z with ⟨a,_⟩|⟨_,v,a,b⟩<;>rw [e] at a<;>cases a;exact ⟨v,b⟩
theorem Ut {d:Type} [DecidableEq d] {h:Heap} {k:d} {l:List d} {m:List MV} {c:List (d×Value)} (n:c.map (·.1)=l) (z:br j w g h m (c.map (·.2))) (e:re k l m=none):valueAt c k=none:=by subst n;refine to (B2 (k:=k) z) (λt=>?_) λt=>?_;revert t;refine aa λY b=>?_;exact b;revert t;refine tz λY v a b=>?_;rw [e] at a;injection a
theorem P7 (q:s.heap.get? a=some (Cn e n)) (r:e.length<=gz) (c:seqIndex? k e.length=some j) (l:e[j]? =some y) (h:Q y s):wpAny (model g w) A (getItem (.ref a) (.int k t)) Q E s:=by refine im (λu p v=>?_) (sj c r);haveI m:s.heap.IsList a e.toArray:=⟨_,q,rfl,n,rfl⟩;unfold seqIndex? at c;by_cases d:k<0;simp only [d,if_true] at c;split at c;rename_i o;simp only [Bool.and_eq_true,decide_eq_true_eq] at o;obtain rfl:=an c;exact wpAny_getItem_list_neg m d (by rw [KT];lia) u (by rw [KT];simpa using l) h;exact nomatch c;simp only [d,if_false] at c;split at c;obtain rfl:=an c;exact wpAny_getItem_list m (Yi d) p (by simpa using l) h;exact nomatch c
theorem JZ (lo:sysModules<o.objs.size) (R:f8 l w o g s.heap) (B:VR l w g s.heap a u) (U:VR l w g s.heap i j) (q:dn a i g.C Q):wpAny (model l w) A (subscriptTail value slice u j) (u7 l w o g s Q) E s:=by
 have items:∀{k:Int},(oP (wE g.C a) λx=>x.length<=gz/\oP ((seqIndex? k x.length).bind λj=>x[j]?) λv=>Q v g.C)->∀p,wpAny (model l w) A (subscriptTail value slice u (.int k p)) (u7 l w o g s Q) E s:=λq p=>by refine nw (λx e r q=>?_) (s5 q);refine ac (λy F q=>?_) (s5 q);refine ac (λn e1 L=>?_) (nG.mp F);rcases Au R B e with t|t;revert t;refine l6 λd m S=>?_;rintro rfl hd z;refine ac (λv I C=>?_) (z.get L);exact fq (T:="list") ⟨_,hd,rfl⟩ list_getitem_lookup (P7 hd (by rw [z.len];exact r) (by rw [z.len];exact e1) I (.here R C q));revert t;refine rb λd m X Z S=>im ?_;rintro rfl hd z;refine ac (λv I C=>?_) (z.get L);refine im (λH N W=>?_) (sj e1 r);exact fq (T:="tuple") ⟨_,hd,rfl⟩ PySem.F.slot_tuple_getitem.lookup (PyProof.Rows.getItem_tuple (items:=S.toArray) ⟨_,hd,rfl,m,rfl⟩ H N (by rw [KT,z.len];exact e1) (by simpa using I) (.here R C q))
 induction i using MV.casesOn with|int k=>(revert U;refine am λp=>?_;rintro rfl;induction a using MV.casesOn with|str x=>revert q;refine aa λr q=>?_;refine ac (λc e q=>?_) (s5 q);revert B;refine am λt=>?_;rintro rfl;refine ac (λn e1 L=>?_) (nG.mp e);refine im (λH N W=>?_) (sj e1 r);exact fq (typeIs_str s _ _) PySem.F.slot_str_getitem.lookup (PySem.P.getItem_str (Bool.or_eq_false_iff.mpr ⟨decide_eq_false (Int.not_lt.mpr H),decide_eq_false (Int.not_le.mpr N)⟩) (by rw [e]) (.val R fO q))|bq ks vs=>refine ac (λx e q=>?_) (s5 q);revert B;refine Cc λd M=>?_;rintro rfl hd ld;refine im λY J z=>?_;refine ac (λy O P=>?_) (oM J z e);exact fq hd.typeIs slot_dict_getitem.lookup (wpAny_getItem_of (knd:=PySem.intKind l w) (by simp [PySem.intKind,Value.isInt]) hd.mapOf O (.val R P q))|_=>exact items q p)|str k=>refine s3 λ_ V=>?_;refine ac (λd e q=>?_) (s5 q);refine ac (λx F q=>?_) (s5 q);revert U;refine am λp=>?_;rintro rfl;refine Cc (λc M=>?_) (jY R lo B e);rintro rfl hd ld;refine aa λJ z=>?_;refine ac (λy O P=>?_) (oM J z F);refine V ?_;exact fq hd.typeIs slot_dict_getitem.lookup (wpAny_getItem_of (knd:=PySem.strKind l w) (by simp [PySem.strKind,Value.isStrOf]) hd.mapOf O (.val R P q))|_=>exact q.elim
theorem FQ (n:Nat):sliceRange (min ((n:Int) - 1) ((n:Int) - 1)) 0 (-1)=(List.range (n - 1)).map λk=>n - 1 - k:=by
 unfold sliceRange;haveI a:¬((-1:Int)>0):=by decide
 rw [Int.min_self];by_cases h:(n:Int) - 1>0;have e:((n:Int) - 1 - 0 - -1 - 1)/(- -1)=((n - 1:Nat):Int):=by rw [show (- -1:Int)=1 by decide,Int.ediv_one];induction n using Nat.casesOn with|zero=>exact absurd h (by decide)|succ m=>show ((m:Int)+1) - 1 - 0 - -1 - 1=(m:Int);rw [Int.add_sub_cancel,Int.sub_zero,Int.sub_neg,Int.add_sub_cancel]
 simp only [a,if_false,h,if_true,e,Int.toNat_natCast];apply bK;intro k c;have:=List.mem_range.mp c;induction n using Nat.casesOn with|zero=>exact absurd this (fT _)|succ m=>show ((m:Int)+1 - 1+ -1*(k:Int)).toNat=m - k;rw [Int.add_sub_cancel,Int.neg_one_mul,<- Int.sub_eq_add_neg,<- Int.ofNat_sub (Co this)];rfl
 have e:n - 1=0:=by induction n using Nat.casesOn with|zero=>rfl|succ m=>induction m using Nat.casesOn with|zero=>rfl|succ k=>exact absurd (show (((k+1:Nat):Int)+1) - 1>0 from (Int.add_sub_cancel ..).symm▸ef.mpr (dF k)) h
 simp only [a,if_false,h,e];rfl
theorem MM (items:Array Value):slicePick items none (some 0) (some (-1))=(items.toList.drop 1).reverse.toArray:=by
 unfold slicePick;haveI g:sliceBounds none (some 0) (some (-1)) items.size=((items.size:Int) - 1,max (-1) (min 0 ((items.size:Int) - 1)), -1):=by simp [sliceBounds]
 rw [g];obtain ⟨l⟩:=items;dsimp only;induction l using List.casesOn with|nil=>rfl|cons a l=>(haveI e0:max (-1) (min (0:Int) (((⟨a::l⟩:Array Value).size:Int) - 1))=0:=by show max (-1) (min 0 ((l.length:Int)+1 - 1))=0;rw [Int.add_sub_cancel,Int.min_eq_left (Int.natCast_nonneg _)];rfl);rw [e0];have:=FQ (⟨a::l⟩:Array Value).size;rw [Int.min_self] at this;rw [this];apply l9 List.toArray;rw [KT,kU,Nat.add_sub_cancel];(haveI d:(List.range l.length).map (λk=>l.length - k)=((List.range l.length).map (· +1)).reverse:=by apply List.ext_getElem;simp;intro i c m;rw [List.getElem_map,List.getElem_reverse,List.getElem_map,List.getElem_range,List.getElem_range];rw [FB,nK] at c;rw [FB,nK,Nat.sub_right_comm];exact (kP (Nat.sub_pos_of_lt c)).symm);rw [d,List.filterMap_reverse,List.filterMap_map];apply l9 List.reverse;rw [show List.drop 1 (a::l)=l from rfl];(haveI e:(List.range l.length).filterMap ((λj:Nat=>(⟨a::l⟩:Array Value)[j]?)∘(· +1))=(List.range l.toArray.size).filterMap (l.toArray[·]?):=by rw [KT];exact l9 (λf=>(List.range l.length).filterMap f) (funext λk=>by simp));exact e.trans (krv_all l.toArray)
def Eh:SK->Value->Value->Value->Prop| .rev,l,u,st=>l= .none/\u= .none/\∃t,st= .int (-1) t| .fP,l,u,st=>l= .none/\(∃t,u= .int 0 t)/\∃t,st= .int (-1) t| .fY,l,u,st=>(∃t,l= .int (-1) t)/\u= .none/\st= .none| .iG,l,u,st=>(∃t,l= .int 1 t)/\u= .none/\st= .none
theorem Yy {st:Value} (R:f8 c w p g s.heap) (r:VR c w g s.heap a u) (B:s.heap.IsSliceOf P l v st) (y:Eh k l v st) (q:eO k a g.C Q):wpAny (model c w) A (subscriptTail value slice u (.ref P)) (u7 c w p g s Q) E s:=by have H:∀(o:Obj) b C,s.heap.get? b=some C->(s.heap.push o).get? b=some C:=λo b C e=>AL _ e;induction k using SK.casesOn with|rev=>refine nw (λx e m q=>?_) (s5 q);revert y;refine im ?_;rintro rfl rfl;refine am λt=>?_;rintro rfl;refine l6 (λd n j=>?_) (Tm R r e);rintro rfl hd z;have F:s.heap.IsList d j.toArray:=⟨_,hd,rfl,n,rfl⟩;refine fq (T:="list") ⟨_,hd,rfl⟩ list_getitem_lookup (wpAny_getItem_list_slice F B .none .none (.int _ _) (by decide) ?_ (by rw [KT,z.len];exact be m bO));rw [krv_pick];exact qf (h':=s.heap.push (Cn j.reverse 0)) (tk:=s.toks) R z.reverse (H _) (by rw [DO];exact s4 _) (LF _ rfl) (lv _) q|fP=>refine nw (λx e m q=>?_) (s5 q);revert y;refine im ?_;rintro rfl;refine am λI=>?_;rintro rfl;refine am λt=>?_;rintro rfl;refine l6 (λd n j=>?_) (Tm R r e);rintro rfl hd z;haveI F:s.heap.IsList d j.toArray:=⟨_,hd,rfl,n,rfl⟩;refine fq (T:="list") ⟨_,hd,rfl⟩ list_getitem_lookup (wpAny_getItem_list_slice F B .none (.int _ _) (.int _ _) (by decide) ?_ (by rw [KT,z.len];exact be m bO));rw [MM];exact qf (h':=s.heap.push (Cn (j.drop 1).reverse 0)) (tk:=s.toks) R (z.drop 1).reverse (H _) (by rw [DO];exact s4 _) (LF _ rfl) (lv _) q|fY=>refine nw (λx=>?_) (bV q);rintro rfl m q;revert y;refine im (am λt=>?_);rintro rfl rfl rfl;revert r;refine am λI=>?_;rintro rfl;refine fq (typeIs_str s _ _) PySem.F.slot_str_getitem.lookup (wpAny_getItem_str_slice (l:=some (-1,t)) (u:=none) (st:=none) B rfl (post_val_or_str ⟨be (Txt.slice_le _ _ _) (be m bO),λI S=>?_⟩));exact .val R fO q|iG=>refine At (λL=>?_) (VJ q);rintro rfl O m q;revert y;refine im (am λt=>?_);rintro rfl rfl rfl;revert r;refine rb λd n U N j=>pt ?_;rintro rfl hd Y z;(haveI M:1<=j.length:=by rw [z.len];exact O);refine fq (T:="tuple") ⟨_,hd,rfl⟩ PySem.F.slot_tuple_getitem.lookup (getItem_tuple_from (items:=j.toArray) (a:=1) ⟨_,hd,rfl,n,rfl⟩ B (lv _) (by rw [KT];exact M) ?_ (by rw [KT,z.len];exact be m bO));haveI J:=R.push {cls:= .type "tuple",data:= .seq (j.drop 1).toArray};exact ⟨g,.tup (L.drop 1),⟨J,.push _,rfl,rfl⟩,⟨_,0,none,#[],j.drop 1,rfl,LF _ rfl,R.fresh,br.ext (ga.push _) IS R (z.drop 1)⟩,q⟩
end
section
open PySem.Builtin.Str
noncomputable def tA:BM->String| .append| .pop=>"list" | .get| .d7=>"dict" | .split| .join| .lower| .rpartition=>"str"
noncomputable def wD:BM->String| .append=>"list.append" | .pop=>"list.pop" | .get=>"dict.get" | .d7=>"dict.pop" | .split=>"str.split" | .join=>"str.join" | .lower=>"str.lower" | .rpartition=>"str.rpartition"
section
variable {g:G}
theorem Aj:∀{l:List (Str×Tok)},br a w g h (l.map λp=> .str p.1) (strValues l)| []=> .nil| (x,t)::r=>by show br a w g h (.str x::r.map λp=> .str p.1) (.str x t::strValues r);exact .cons (by exact ⟨t,rfl⟩) Aj
theorem Kr (R:f8 a w c g s.heap) (p:0<y.length) (r:x.length<=gz) (o:(partsBetween x (occurrences x y 0 x.length (x.length+1)) y.length).length<=sizeLine) (q:NG ((Txt.split x y).map .str) g.C Q):wpAny (model a w) A (call (.builtin "str.split") [.str x t,.str y u]) (u7 a w c g s Q) E s:=by
 have j:(y.length==0)=false:=by simp only [beq_eq_false_iff_ne,ne_eq];exact Xe p
 have fin:∀(l:List (Str×Tok)) m,l.map (·.1)=Txt.split x y->u7 a w c g s Q (.ref s.heap.objs.size) {s with toks:=m,heap:=s.heap.push {cls:= .type "list",data:= .seq (strValues l).toArray}}:=λl m e=>by (haveI V:br a w g s.heap ((Txt.split x y).map .str) (strValues l):=by rw [<- e,List.map_map];exact Aj);exact qf (h':=s.heap.push (Cn (strValues l) 0)) (tk:=m) R V (λ_ _ e=>AL _ e) (by rw [DO];exact s4 _) (LF _ rfl) (lv _) q
 haveI n:=be r bO;cases d:(decide (x.length<y.length)||decide (PySem.Builtin.Str.strKind x<PySem.Builtin.Str.strKind y));cases k:(occurrences x y 0 x.length (x.length+1)).isEmpty;refine call_meets PySem.F.slot_str_split (typeIs_str _ _ _) PySem.F.entry_str_split (PySem.F.args_str_split_2 _ _) (meets_str_split_sep x y t u d j k n o) ?_;show wants _ E _ {s with toks:=_,heap:=s.heap.push {cls:= .type "list",data:= .seq (strsFrom s.toks (partsBetween x (occurrences x y 0 x.length (x.length+1)) y.length)).toArray}};rw [strsFrom_eq];exact fin (numbered s.toks _) _ ((numbered_texts _ _).trans ((al (ne_true_of_eq_false d)).trans (al (ne_true_of_eq_false k))).symm);exact call_meets PySem.F.slot_str_split (typeIs_str _ _ _) PySem.F.entry_str_split (PySem.F.args_str_split_2 _ _) (meets_str_split_not_found x y t u d j k) (fin [(x,t)] _ ((al (ne_true_of_eq_false d)).trans (bn k)).symm);exact call_meets PySem.F.slot_str_split (typeIs_str _ _ _) PySem.F.entry_str_split (PySem.F.args_str_split_2 _ _) (meets_str_split_cannot_occur x y t u d) (fin [(x,t)] _ (bn d).symm)
theorem JY (h:(c.map (·.length)).sum+c.length*sep.length<=gz):JoinOk sep c=true:=by
 unfold JoinOk;haveI e:∀(l:List Str) (a:Nat),l.foldl (λa x=>a+x.length+sep.length) a=a+(l.map (·.length)).sum+l.length*sep.length:=by intro l;induction l with|nil=>intro a;simp|cons x r d=>intro a;rw [eA,d,cN,List.sum_cons,kU,Nat.succ_mul];lia
 haveI e0:c.toArray.foldl (λa x=>a+x.length+sep.length) 0=c.foldl (λa x=>a+x.length+sep.length) 0:=by simp
 rw [show c.toArray.foldl (· + ·.length+sep.length) 0=c.toArray.foldl (λa x=>a+x.length+sep.length) 0 from rfl,e0,e];unfold tooLong;rw [Bool.not_eq_true',decide_eq_false_iff_not];have:=bO;lia
theorem TS {a:List (Str×Value)} (n:a.map (·.1)=l) (r:(a.map (·.1)).Nodup) (z:br d w g h c (a.map (·.2))):(without a k).map (·.1)=(DD k l c).1/\br d w g h (DD k l c).2 ((without a k).map (·.2)):=by subst n;induction a generalizing c with|nil=>exact ⟨rfl,.nil⟩|cons p a t=>induction c using List.casesOn with|nil=>injection z|cons u c=>refine s3 λ_ m=>?_;revert z;refine pi λB C y q j=>?_;refine aa ?_ (List.cons.inj y);rintro rfl rfl;refine aa (λo A=>?_) (cO.mp r);refine m ?_;by_cases e:p.1=k;haveI e1:without (p::a) k=a:=(List.filter_cons_of_neg (by simp [e])).trans (without_of_not_mem a k (e▸o));rw [e1,show DD k ((p::a).map (·.1)) (u::c)=(a.map (·.1),c) from bn e];exact ⟨rfl,j⟩;have e1:without (p::a) k=p::without a k:=List.filter_cons_of_pos (by simp [e]);refine aa (λx v=>?_) (t A j);rw [e1,show DD k ((p::a).map (·.1)) (u::c)=(p.1::(DD k (a.map (·.1)) c).1,u::(DD k (a.map (·.1)) c).2) from al e];exact ⟨l9 (p.1:: ·) x,.cons q v⟩
theorem own (a:(g.C l).isSome=true):g.aH l (g.ι l):=⟨a,.inl rfl⟩
theorem Xw {I:List Value} (lo:sysModules<B.objs.size) (R:f8 j w B g s.heap) (V:VR j w g s.heap m v) (Vs:br j w g s.heap Z I) (q:bQ b m Z g.C Q):wpAny (model j w) A (call (.builtin (wD b)) (v::I)) (u7 j w B g s Q) E s:=by
 have one:∀{k:MV->Prop} {G:Prop},w1 Z k->(∀m v,I=[v]->VR j w g s.heap m v->k m->G)->G:=λq f=>by refine ac (λm=>?_) (Dv q);rintro rfl q;refine ac (λv e V=>?_) Vs.tM;exact f m v e V q
 have J:∀{k:Str->Prop} {G:Prop},(w1 Z λm=>vS m k)->(∀x t,I=[.str x t]->k x->G)->G:=λq f=>one q λm v e V q=>by refine ac (λx=>?_) (bV q);rintro rfl q;revert V;refine am λt=>?_;rintro rfl;exact f x t e q
 have nil:Z=[]->I=[]:=λe=>by subst e;exact Vs
 have X:∀{l:Loc} {Y:Heap},g.aH l (g.ι l)->Heap.SameBut (g.ι l) s.heap Y->∀a o,¬g.aH l a->s.heap.get? a=some o->Y.get? a=some o:=λF C a o na ea=>(C.2 a λq=>na (q▸F)).trans ea;induction b using BM.casesOn with|append=>refine ac (λl=>?_) (jq q);rintro rfl q;revert V;refine aa ?_;rintro rfl F;refine one q λx y N O q=>?_;subst N;refine nw (λT e hb q=>?_) (s5 q);refine aa (λH=>tz λn I ho z=>?_) (R.at_ l _ (ow e));refine append_at ho (λY C W=>?_) (by rw [KT,z.len];exact be (Co hb) bO);haveI k:=X (own F) C;refine r7 (tk:=s.toks) (m:= .none) (ov:= .list (T++[x])) R F k (Zs C) ⟨H,n+1,I++[y],?_,br.ext (ga.set (S:=λ_=>False) F k (Zs C)) IS R (z.append (.one O))⟩ A3 q;rw [show (g.upd l (.list (T++[x]))).ι l=g.ι l from rfl,W];simp|pop=>refine nw (λl=>?_) (jq q);rintro rfl ev q;revert V;refine aa ?_;rintro rfl F;rw [nil ev];refine ac (λT e q=>?_) (s5 q);refine nw (λx L hb q=>?_) (s5 q);refine aa (λH=>tz λn I ho z=>?_) (R.at_ l _ (ow e));refine ac (λy hy O=>?_) (z.get (i:=T.length - 1) (m:=x) (by rw [<- qI];exact L));refine Copied.pop_at ho (y:=y) (by rw [KT,z.len];simpa using hy) (λY C W=>?_) (by rw [KT,z.len];exact be (Co hb) bO);have k:=X (own F) C;(have zd:br j w g s.heap T.dropLast I.dropLast:=by rw [List.dropLast_eq_take,List.dropLast_eq_take,z.len];exact z.take _);refine r7 (tk:=s.toks) (m:=x) (ov:= .list T.dropLast) R F k (Zs C) ⟨H,n+1,I.dropLast,?_,br.ext (ga.set (S:=λ_=>False) F k (Zs C)) IS R zd⟩ O q;rw [show (g.upd l (.list T.dropLast)).ι l=g.ι l from rfl,W];simp|get=>(have fin:∀{c:Addr} {p:List (Str×Value)} {d:List Str×List MV} {k:Str} {u:MV} {uv:Value},p.map (·.1)=d.1->br j w g s.heap d.2 (p.map (·.2))->(∀P,VR j w g {s with toks:=P}.heap u uv)->Q ((re k d.1 d.2).getD u) g.C->∀P,u7 j w B g s Q ((valueAt p k).getD uv) {s with toks:=P}:=λ{c p d k u uv} M z Vu q P=>by cases L:re k d.1 d.2 with|none=>rw [L] at q;rw [Ut M z L];exact .val R (Vu P) q|some x=>rw [L] at q;refine ac (λu' hu ak=>?_) (oM M z L);rw [hu];exact .val R ak q);rcases Z with _|⟨a,_|⟨b,_|⟨x,r⟩⟩⟩;exact q.elim;refine ac (λy=>?_) Vs.tM;rintro rfl O;refine ac (λk=>?_) (bV q);rintro rfl q;refine ac (λd e q=>?_) (s5 q);revert O;refine am λt=>?_;rintro rfl;refine Cc (λc p=>?_) (jY R lo V e);rintro rfl hd ld;refine aa λM z=>?_;exact call_meetsIn PySem.F.slot_dict_get hd.typeIs PySem.F.entry_dict_get (PySem.F.args_dict_get_2 _ _) (meets_dict_get (PySem.strKind j w) c (k:=k) (key:= .str k t) (by simp [PySem.strKind,Value.isStrOf]) ld) ⟨_,hd.mapOf,fin (c:=c) M z (λ_=>A3) q _⟩;refine pi (λy u=>?_) Vs.o6;rintro rfl O Vu;refine ac (λk=>?_) (bV q);rintro rfl q;refine ac (λd e q=>?_) (s5 q);revert O;refine am λt=>?_;rintro rfl;refine Cc (λc p=>?_) (jY R lo V e);rintro rfl hd ld;refine aa λM z=>?_;exact call_meetsIn PySem.F.slot_dict_get hd.typeIs PySem.F.entry_dict_get (PySem.F.args_dict_get_3 _ _ _) (meets_dict_get_default (PySem.strKind j w) c (k:=k) (key:= .str k t) (by simp [PySem.strKind,Value.isStrOf]) ld _) ⟨_,hd.mapOf,fin (c:=c) M z (λ_=>Vu) q _⟩;exact q.elim|d7=>refine ac (λl=>?_) (jq q);rintro rfl q;revert V;refine aa ?_;rintro rfl F;refine J q λk t N q=>?_;subst N;refine ac (λd e q=>?_) (s5 q);refine nw (λx L ar q=>?_) (s5 q);refine aa (λH=>nw λp hd M z=>?_) (R.at_ l _ (lP e));have hn:=let ⟨_,_,_,_,_,_,_,_,n⟩:=hd;n;(have U:p.length=d.1.length:=by rw [<- M,FB]);refine ac (λu hu Vu=>?_) (oM M z L);refine call_meetsIn PySem.F.slot_dict_pop hd.typeIs PySem.F.entry_dict_pop (PySem.F.args_dict_pop_2 _ _) (meets_dict_pop_there (PySem.strKind j w) (g.ι l) (k:=k) (key:= .str k t) (by simp [PySem.strKind,Value.isStrOf]) [] (.inl rfl) rfl) ⟨p,u,hd,by rw [U,hU];exact be (by assumption) (by decide),hu,λY ab C=>?_⟩;have kl:=X (own F) C;refine aa (λs1 s2=>?_) (TS (k:=k) M hn z);exact r7 (m:=x) (ov:= .aM (DD k d.1 d.2).1 (DD k d.1 d.2).2) R F kl (Zs C) ⟨H,_,ab,s1,br.ext (ga.set (S:=λ_=>False) F kl (Zs C)) IS R s2⟩ Vu q|split=>refine ac (λx=>?_) (bV q);rintro rfl q;revert V;refine am λt'=>?_;rintro rfl;refine J q λy' t N q=>?_;subst N;refine Kr R q.1 q.2.1 ?_ q.2.2;rw [length_partsBetween];have h1:=StrLaws.occ_length_le x y' 0 x.length (x.length+1);have h2:=q.2.1;rw [hU];unfold gz at h2;lia|join=>refine ac (λx=>?_) (bV q);rintro rfl q;revert V;refine am λt=>?_;rintro rfl;refine one q λm y N O q=>?_;subst N;refine s3 λ_ X=>?_;refine ac (λT e q=>?_) (s5 q);refine At (λys L as ap q=>?_) (s5 q);refine l6 (λa n I=>?_) (Tm R O e);rintro rfl ha z;refine ac (λts t1 t2=>?_) (strs_map L z);refine X ?_;exact SC.join (D:=a) (l:=ts) (texts:=ys) ⟨_,ha,rfl,n,by rw [t2];rfl⟩ t1 (JY ap) λt' k=> .val R fO q|lower=>refine nw (λx=>?_) (bV q);rintro rfl ev q;revert V;refine am λt=>?_;rintro rfl;rw [nil ev];exact SC.lower (decide_eq_false (Da.mpr (be q.1 bO))) (.val R fO q.2)|rpartition=>refine ac (λx=>?_) (bV q);rintro rfl q;revert V;refine am λt'=>?_;rintro rfl;refine J q λy t N q=>?_;subst N;have ai:=hO.mpr (BN q.1);refine call_meets PySem.F.slot_str_rpartition (typeIs_str _ _ _) PySem.F.entry_str_rpartition (PySem.F.args_str_rpartition_2 _ _) (meets_str_rpartition x y t' t ai (be q.2.1 bO)) ?_;have fin:∀(a b c:Str) ta tb tc P,Q (.tup [.str a,.str b,.str c]) g.C->u7 j w B g s Q (.ref s.heap.objs.size) {s with toks:=P,heap:=s.heap.push {cls:= .type "tuple",data:= .seq [.str a ta,.str b tb,.str c tc].toArray}}:=λa b c ta tb tc P q=>have V3:br j w g s.heap [.str a,.str b,.str c] [.str a ta,.str b tb,.str c tc]:= .cons fO (.cons fO (.one fO));⟨g,.tup [.str a,.str b,.str c],⟨R.push _,.push _,rfl,rfl⟩,⟨_,0,none,#[],_,rfl,LF _ rfl,R.fresh,br.ext (ga.push _) IS R V3⟩,q⟩;have q:=q.2.2;unfold gX at q;cases e:Builtin.Str.lastOccurrence x y 0 x.length with|some i=>rw [e] at q;exact fin _ _ _ _ _ _ _ q|none=>rw [e] at q;exact fin _ _ _ _ _ _ _ q
end
end
section
variable (ao:Program) (w:World) (dL:Heap) (l8:Addr) (A:Around) (ba:Env) (aj:List Str) (ρ:ee)
def ES (e:Expr) (W:GH->(MV->GH->Prop)->(GH->Prop)->Prop):Prop:=∀g s Q X,i4 ao w dL A ba aj ρ g s->0<s.toks->W g.C Q X->wpAny (model ao w) A (eval e ba) (u7 ao w dL g s Q) (EU ao w dL l8 g s X) s
def IF (j:List Expr) (W:GH->(List MV->GH->Prop)->(GH->Prop)->Prop):Prop:=∀g s Q X {k:List Value->Shared->Prop} {E:Value->Shared->Prop} (pos:Pos),i4 ao w dL A ba aj ρ g s->0<s.toks->W g.C Q X->(∀d a c l,d.length=j.length->0<a.toks->i4 ao w dL A ba aj ρ c a->sK ao w dL g s c a->br ao w c a.heap l d->Q l c.C->k d a)->(∀e a,EU ao w dL l8 g s X e a->E e a)->wpAny (model ao w) A (spliced (backTo pos (starEach j ba))) k E s
def ET (e:Expr) (W:GH->(Bool->GH->Prop)->(GH->Prop)->Prop):Prop:=∀g s Q X,i4 ao w dL A ba aj ρ g s->0<s.toks->W g.C Q X->wpAny (model ao w) A (isTrue e ba (eval e ba)) (λb c=>∃a,sK ao w dL g s a c/\Q b a.C) (EU ao w dL l8 g s X) s
end
section
variable {K:Frag}
theorem ES.go {W:GH->(MV->GH->Prop)->(GH->Prop)->Prop} (h:ES j w y I A F aj J e W) (S:i4 j w y A F aj J g s) (t:0<s.toks) (R:W g.C Q X) (k:∀v B H mv,0<B.toks->i4 j w y A F aj J H B->sK j w y g s H B->VR j w H B.heap mv v->Q mv H.C->N v B) (hE:∀e B,EU j w y I g s X e B->E e B):wpAny (model j w) A (eval e F) N E s:=xe (ic t (h g s Q X S t R)) (λv B ⟨L,H,mv,P,V,q⟩=>k v B H mv L (S.post P) P V q) λe B ⟨_,x⟩=>hE e B x
theorem ET.go {W:GH->(Bool->GH->Prop)->(GH->Prop)->Prop} (h:ET j w y I A F aj J e W) (S:i4 j w y A F aj J g s) (t:0<s.toks) (R:W g.C Q X) (k:∀b B H,0<B.toks->i4 j w y A F aj J H B->sK j w y g s H B->Q b H.C->N b B) (hE:∀e B,EU j w y I g s X e B->E e B):wpAny (model j w) A (isTrue e F (eval e F)) N E s:=xe (ic t (h g s Q X S t R)) (λv B ⟨L,H,P,q⟩=>k v B H L (S.post P) P q) λe B ⟨_,x⟩=>hE e B x
structure YO (ba:Env):Prop where
 kind:ba.scope.kind= .function
 glob:ba.globals=mainGlobals
 j7:ba.builtins=builtinsNs
theorem ES.ae {x:Str} (E:YO j) (B:aj[i]? =some x) (hk:j.kindOf x=some .local\/j.kindOf x=some .cell\/j.kindOf x=some .free) (hd:(x==("__debug__" :Str))=false) (hc:(x==("__classdict__" :Str))=false):ES F w H I A j aj N (.Name x pos) (λC Q _=>oP (slot N i) λv=>Q v C):=λg s Q X S t L=>by refine ac (λv e q=>?_) (s5 L);haveI y:=AO e;rcases hk with hk|hk|hk;refine ac (λm hn J=>?_) S.fr.ns;refine ac (λu hu V=>?_) (J i x v B y hk);exact wpAny_Name (kX E.kind hk hn hu (.here S.rel V q)) hd;refine pi (λc u hl hu V=>?_) (S.fr.cell i x v B y (.inl hk));exact wpAny_Name (wpAny_loadName_cell E.kind hk hl hu (.here S.rel V q)) hd;refine pi (λc u hl hu V=>?_) (S.fr.cell i x v B y (.inr hk));exact wpAny_Name (wpAny_loadName_free E.kind hk hl hu (.here S.rel V q) hc) hd
theorem ES.ah {v:MV} {c:Const} (h:Cm v c=true):ES j w E F A B aj H (.Constant c k pos) (λC Q _=>Q v C):=λg s Q X S t y=>by induction v using MV.casesOn with|none=>exact Const.none.elim (motive:=λc=>wpAny (model j w) A (eval (.Constant c k pos) B) _ _ s) c (ue h) (wpAny_Constant_none (.here S.rel (by rfl) y))|bool a=>exact yZ h λb h=>by rw [show b=a from ue h];exact wpAny_Constant_bool (.here S.rel (by rfl) y)|int a=>exact Ap h λb h=>by rw [show b=a from ue h];exact wpAny_Constant_int (.val S.rel (by exact ⟨_,rfl⟩) y)|str a=>exact yd h λb h=>by rw [cj h];exact wpAny_Constant_str (.val S.rel (by exact ⟨_,rfl⟩) y)|_=>injection h
theorem ES.glob {i:Nat} {x:Str} (TK:GM j w K y T) (I:YO B) (H:T.dH[i]? =some (x,v)) (hk:B.kindOf x=some .globalImplicit) (hd:(x==("__debug__" :Str))=false):ES j w y F A B aj J (.Name x pos) (λC Q _=>oP (T.dH[i]?) λp=>Q p.2 C):=λg s Q X S t E=>by replace E:=H▸E;refine ac (λu hu V=>?_) (TK.glob i x v H);exact jQ (TK.cx.keeps S.rel.base) I.kind I.glob hk hd hu (.here S.rel (V _ _ S.rel) E)
theorem EG (h:eI value=true):eval (.Attribute value attr pos) a=(do let o<- eval value a;standAt pos.atName;let r<- holding [o] (getAttr o attr true);letTemporaryGo value o r;pure r):=by show (do let o<- attributeBase value attr a (eval value a);standAt pos.atName;let r<- holding [o] (getAttr o attr true);letTemporaryGo value o r;pure r)=_;rw [BQ h]
theorem ES.attr {W:GH->(MV->GH->Prop)->(GH->Prop)->Prop} (TK:GM j w K y T) (he:ES j w y l8 A E aj I e W) (J:eI e=true) (ha:a=wT f):ES j w y l8 A E aj I (.Attribute e a pos) (λC Q X=>W C (λv B=>oX T v f B Q) X):=λg s Q X S t H=>by subst ha;exact Attribute_any_ (he.go S t H (λv N L mv t' F P V q=>xe (Vd TK F.rel V q) (λ_ _ x=>x.trans P) λ_ _ x=>x) λ_ _ x=>x) (EG J)
theorem ES.bin {r':Expr} (hl:ES j w y B A F aj ρ l Wl) (hr:ES j w y B A F aj ρ r' Wr):ES j w y B A F aj ρ (.BinOp l (mz o) r' pos) (λC Q X=>Wl C (λu R=>Wr R (λv Z=>bU o u v Z Q) X) X):=λg s Q X S t hw=>by show wpAny _ _ (do let a<- eval l F;let b<- holding [a] (eval r' F);standAt pos;operate [a,b] (binaryOp (mz o) a b)) _ _ _;refine ff (hl.go S t hw (λu as ap m L H I P U=>?_) λ_ _ x=>x);refine ff (Mn (hr.go H L U (λv ar ak ab ai Y J V N=>?_) λ_ _ x=>x.trans I));refine ff (ci (wpAny_operate' ?_));exact xe (MY (E:=EU j w y B g s X) Y.rel (P.post J H.rel) V N) (λ_ _ x=>x.trans (I.trans J)) λ_ _ x=>x
theorem ES.cmp {r':Expr} (TK:GM j w K y T) (hu:A.units+2<cLine) (hl:ES j w y B A P aj ρ l Wl) (hr:ES j w y B A P aj ρ r' Wr) (hm:behindInMarks (OF o) r'=false):ES j w y B A P aj ρ (.Compare l [OF o] [r'] pos) (λC Q X=>Wl C (λu U=>Wr U (λv J=>Go o u v J λb=>Q (.bool b) J) X) X):=λg s Q X S t hw=>by refine wpAny_Compare1 (hl.go S t hw (λu as ap m L F H R V=>?_) λ_ _ x=>x) hm;refine hr.go F L V (λv ar ak ab ai Z I Y N=>?_) λ_ _ x=>x.trans H;exact xe (wB (E:=EU j w y B g s X) hu Z.rel TK.lo (R.post I F.rel) Y N) (λ_ _ x=>x.trans (H.trans I)) λ_ _ x=>x
abbrev WE:=GH->(MV->GH->Prop)->(GH->Prop)->Prop
theorem ET.plain (he:ES j w y B A F aj J e W) (hp:∀whole,isTrue e F whole=(do let v<- whole;standAt e.pos;holding [v] (truthy v))):ET j w y B A F aj J e (λC Q X=>W C (λv E=>match v with| .bool b=>Q b E|_=>False) X):=λg s Q X S t I=>by
 refine isTrue_plain (he.go S t I (λv N H mv t' L P V q=>?_) λ_ _ x=>x) (hp _);induction mv using MV.casesOn<;>try exact q.elim
 obtain rfl:=V;exact kZ ⟨H,P,q⟩
theorem ES.vt (he:ES j w y B A F aj J e W):ES j w y B A F aj J (.UnaryOp .Not e pos) (λC Q X=>W C (λv E=>match v with| .bool b=>Q (.bool (!b)) E|_=>False) X):=λg s Q X S t I=>by
 refine wpAny_UnaryOp (he.go S t I (λv N L mv t' H P V q=>?_) λ_ _ x=>x);induction mv using MV.casesOn<;>try exact q.elim
 obtain rfl:=V;exact not_of (kZ (u7.trans P (.here H.rel (by rfl) q)))
theorem ES.neg (he:ES j w y B A F aj J e W):ES j w y B A F aj J (.UnaryOp .USub e pos) (λC Q X=>W C (λv E=>match v with| .int i=>Q (.int (-i)) E|_=>False) X):=λg s Q X S t I=>by
 refine wpAny_UnaryOp (he.go S t I (λv N L mv t' H P V q=>?_) λ_ _ x=>x);induction mv using MV.casesOn<;>try exact q.elim
 revert V;refine am λt=>?_;rintro rfl;exact PySem.P.neg_int (u7.trans P (.val H.rel (by exact ⟨_,rfl⟩) q))
theorem ES.ite (hc:ET y w B E A N aj Y c Wc) (ha:ES y w B E A N aj Y a Wa) (hb:ES y w B E A N aj Y b Wb):ES y w B E A N aj Y (.IfExp c a b pos) (λC Q X=>Wc C (λr L=>if r then Wa L Q X else Wb L Q X) X):=λg s Q X S t hw=>by refine wpAny_IfExp (hc.go S t hw (λr s' g' t' Z P q=>?_) λ_ _ x=>x);induction r using Bool.casesOn;exact hb.go Z t' q (λv V I j R U J H F=>⟨I,j,P.trans J,H,F⟩) λ_ _ x=>x.trans P;exact ha.go Z t' q (λv V I j R U J H F=>⟨I,j,P.trans J,H,F⟩) λ_ _ x=>x.trans P
theorem ES.sub (TK:GM j w K y T) (ha:ES j w y l8 A L aj ρ a Wa) (hi:ES j w y l8 A L aj ρ i Wi):ES j w y l8 A L aj ρ (.Subscript a i pos) (λC Q X=>Wa C (λu P=>Wi P (λv Y=>dn u v Y Q) X) X):=λg s Q X S t hw=>by refine PyProof.Rows.Subscript_ (ha.go S t hw (λu ar ak m I B F N R=>?_) λ_ _ x=>x);refine hi.go B I R (λv ap ai Z ab V H U J=>?_) λ_ _ x=>x.trans F;exact xe (JZ (E:=EU j w y l8 g s X) TK.lo V.rel (N.post H B.rel) U J) (λ_ _ x=>x.trans (F.trans H)) λ_ _ x=>x
theorem dU (h:o.isNone=true):o=none:=Option.isNone_iff_eq_none.mp h
theorem PB {k:SK} (h:rq k e=true) (d:∀l u st c,Eh k l u st->r (.ref s.heap.objs.size) {s with heap:=s.heap.push {cls:= .type "slice",data:= .fields #[l,u,st]},toks:=c}):wpAny (model g w) A (eval e n) r E s:=by have one:∀{p v:Pos} {j:Nat} {i:Int} {s:Shared} {Q:Value->Shared->Prop},(∀t c,Q (.int (-i) t) {s with toks:=c})->wpAny (model g w) A (eval (.UnaryOp .USub (.Constant (.int i) j p) v) n) Q E s:=λq=>wpAny_UnaryOp (wpAny_Constant_int (PySem.P.neg_int (q _ _)));refine OG h λl u st p h=>?_;induction k using SK.casesOn with|rev=>rw [dU (aL h),dU (aL (aR h))];exact AM (aR (aR h)) λa h=>q7 h λ_ _ _=>wpAny_Slice (i8 (i8 (one λt c=>d _ _ _ c ⟨rfl,rfl,t,rfl⟩)))|fP=>rw [dU (aL h)];exact AM (aL (aR h)) λa o=>uW o λj m=>AM (aR (aR h)) λa h=>q7 h λ_ _ _=>wpAny_Slice (i8 (wpAny_Constant_int (k:=j) (pos:=m) (one λt c=>d _ _ _ c ⟨rfl,⟨_,rfl⟩,t,rfl⟩)))|fY=>rw [dU (aL h),dU (aL (aR h))];exact AM (aR (aR h)) λa h=>q7 h λ_ _ _=>wpAny_Slice (one λt c=>i8 (i8 (d _ _ _ c ⟨⟨t,rfl⟩,rfl,rfl⟩)))|iG=>rw [dU (aL h),dU (aL (aR h))];exact AM (aR (aR h)) λa h=>uW h λj m=>wpAny_Slice (wpAny_Constant_int (k:=j) (pos:=m) (i8 (i8 (d _ _ _ _ ⟨⟨_,rfl⟩,rfl,rfl⟩))))
theorem sK.push (R:f8 j w y g s.heap):sK j w y g s g {s with heap:=s.heap.push o,toks:=tk}:=⟨R.push o,.push o,rfl,rfl⟩
theorem ES.slice {k:SK} (ha:ES B w F H A P aj ρ a Wa) (hi:rq k i=true):ES B w F H A P aj ρ (.Subscript a i pos) (λC Q X=>Wa C (λu I=>eO k u I Q) X):=λg s Q X S t Y=>by refine PyProof.Rows.Subscript_ (ha.go S t Y (λu U V m R y J L N=>?_) λ_ _ x=>x);refine PB hi λl v st Z hp=>?_;haveI j:=sK.push (o:={cls:= .type "slice",data:= .fields #[l,v,st]}) (tk:=Z) y.rel;exact xe (Yy (E:=EU B w F H g s X) j.rel (L.post j y.rel) (Heap.IsSliceOf.new _ _ _ _) hp N) (λ_ _ x=>x.trans (J.trans j)) λ_ _ x=>x
theorem IF.nil:IF j w y B A H aj J [] (λC Q _=>Q [] C):=λg s Q X I E pos S t F k hE=>i8 (k [] s g [] rfl t S (.refl S.rel) .nil F)
theorem kr {e:Expr} (h:aJ e=true):starEach (e::c) a=(false,eval e a)::starEach c a:=by induction e using Expr.casesOn<;>first|rfl|injection h
theorem IF.cons {e:Expr} (hs:aJ e=true) (he:ES y w B F A j aj ρ e W) (as:IF y w B F A j aj ρ es Ws):IF y w B F A j aj ρ (e::es) (λC Q X=>W C (λv U=>Ws U (λvs ar=>Q (v::vs) ar) X) X):=λg s Q X Φ E pos S t hw k hE=>by rw [kr hs];show wpAny _ _ (spliced ((false,eval e j)::backTo pos (starEach es j))) _ _ _;refine spliced_cons (he.go S t hw (λv ap ai m L H I R V=>?_) hE);exact as ai ap _ X pos H L V (λvs ak Z ms hl P ab J Y N=>k (v::vs) ak Z (m::ms) (by rw [kU,kU,hl]) P ab (I.trans J) (.cons (R.post J H.rel) Y) N) λe s' x=>hE e s' (x.trans I)
theorem ES.list (hn:H.length<=100) (E:IF ao w y j A F aj R H N):ES ao w y j A F aj R (.List H pos) (λC Q X=>N C (λI B=>NG I B Q) X):=λg s Q X S t L=>by refine wpAny_List (E g s _ X pos S t L (λI U Y Z hl t' J P V q=>⟨?_,?_⟩) λ_ _ x=>x);rw [hl,hU];exact be (by assumption) (by decide);exact u7.trans P (zh (tk:=U.toks) (n:=0) J.rel V q)
theorem ES.tup (hn:N.length<=100) (J:IF y w E B A L aj ρ N Z):ES y w E B A L aj ρ (.Tuple N k pos) (λC Q X=>Z C (λH F=>Q (.tup H) F) X):=λg s Q X S t Y=>by refine wpAny_Tuple (J g s _ X pos S t Y (λH s' R U hl t' I P V q=>⟨?_,?_⟩) λ_ _ x=>x);rw [hl,hU];exact be (by assumption) (by decide);haveI j:=sK.push (o:={cls:= .type "tuple",data:= .seq H.toArray}) (tk:=s'.toks) I.rel;refine ⟨R,.tup U,P.trans j,?_,q⟩;exact ⟨_,0,none,#[],H,rfl,LF _ rfl,I.rel.fresh,V.post j I.rel⟩
abbrev BV:=GH->(List MV->GH->Prop)->(GH->Prop)->Prop
theorem cK (g:d.all aJ=true):(backTo pos (starEach d c)).any (·.1)=false/\vH (backTo pos (starEach d c))=true:=by induction d with|nil=>exact ⟨rfl,rfl⟩|cons e d j=>rw [List.all_cons,Bool.and_eq_true] at g;rw [kr g.1];refine aa (λa b=>?_) (j g.2);exact ⟨by show (false|| (backTo pos (starEach d c)).any (·.1))=false;rw [a];rfl,by show (true&&vH (backTo pos (starEach d c)))=true;rw [b];rfl⟩
theorem eH (g:a.all aJ=true) (h:wpAny M A (spliced (backTo pos (starEach a c))) (λj d=>k ⟨j,[]⟩ d) E s):wpAny M A (evalArgs f true (backTo pos (starEach a c)) []) k E s:=by induction a using List.casesOn with|nil=>refine ff (xe h (λj d l=>?_) λ_ _ x=>x);exact Mn (i8 l)|cons e a=>rw [List.all_cons,Bool.and_eq_true] at g;rw [kr g.1] at h⊢;exact evalArgs_plain h
theorem ES.Wq {W':GH->List MV->(MV->GH->Prop)->Prop} (hf:(∃id,N= .builtin id)\/∃T,N= .type T) (hs:Z.all aJ=true) (Y:IF j w y B A F aj ρ Z Ws) (I:∀(g:G) (s:Shared) {Φ:Value->Shared->Prop} {E:Value->Shared->Prop},f8 j w y g s.heap->Φ N s->wpAny (model j w) A (eval (.Name x np) F) Φ E s) (H:∀(g:G) (s:Shared) {E:Value->Shared->Prop} J U Q,f8 j w y g s.heap->br j w g s.heap U J->W' g.C U Q->wpAny (model j w) A (call N J) (u7 j w y g s Q) E s):ES j w y B A F aj ρ (.Call (.Name x np) Z [] pos) (λC Q X=>Ws C (λJ L=>W' L J Q) X):=λg s Q X S t hw=>by refine ff (I g s S.rel ?_);have fin:wpAny (model j w) A (evalArgs N true (backTo pos (starEach Z F)) []) (λa R=>wpAny (model j w) A (call N ([]++a.pos) a.kw) (u7 j w y g s Q) (EU j w y B g s X) R) (EU j w y B g s X) s:=eH hs (Y g s _ X pos S t hw (λJ s' g' U _ t' S' P V q=>xe (H (E:=EU j w y B g s X) g' s' J U Q S'.rel V q) (λ_ _ x=>x.trans P) λ_ _ x=>x) λ_ _ x=>x);rcases hf with t|t;revert t;refine am λid=>?_;rintro rfl;exact qH (cK hs).1 fin;revert t;refine am λT=>?_;rintro rfl;exact PySem.callWith_type (cK hs).1 fin
theorem rc b:bootBuiltins (cw b)=some (mK b)/\cw b≠"__name__" /\(cw b==("__debug__" :Str))=false:=by induction b using BI.casesOn<;>exact ⟨by kernel_rfl,by decide+kernel,by decide+kernel⟩
theorem Hk b:(∃id,mK b= .builtin id)\/∃T,mK b= .type T:=by induction b using BI.casesOn<;>first|exact .inl ⟨_,rfl⟩|exact .inr ⟨_,rfl⟩
theorem ES.bi (TK:GM j w K y T) (N:YO F) (a:NJ r A n) (B:nsIn K mainGlobals (cw b)=some none) (hk:F.kindOf (cw b)=some .globalImplicit) (U:jy b=[]) (Z:P.all aJ=true) (L:IF j w y H A F aj Y P S):ES j w y H A F aj Y (.Call (.Name (cw b) np) P [] pos) (λC Q X=>S C (λJ I=>LP b J I Q) X):=ES.Wq (W':=λC J Q=>LP b J C Q) (Hk b) Z L (λg s _ _ R h=>jD (TK.cx.keeps R.base) N.kind N.glob N.j7 hk (rc b).2.2 B (rc b).1 (rc b).2.1 h) (λg s E J ms Q R V q=>by have:=yx (A:=A) (E:=E) a.handled (by have:=a.units;show A.units+8<9900;split at this<;>lia) TK.lo R V q;rwa [U,List.append_nil] at this)
theorem ES.E4 (TK:GM j w K y T) (L:YO B) (a:NJ r A n) (hb:b= .isStr\/b= .bH) (J:nsIn K mainGlobals "isinstance" =some none) (F:nsIn K mainGlobals (bT b)=some none) (hk:B.kindOf "isinstance" =some .globalImplicit) (ab:B.kindOf (bT b)=some .globalImplicit) (hs:aJ e=true) (he:ES j w y H A B aj ρ e W):ES j w y H A B aj ρ (.Call (.Name "isinstance" np) [e,.Name (bT b) Z] [] pos) (λC Q X=>W C (λv P=>LP b [v] P Q) X):=λg s Q X S t hw=>by
 have cx:∀{g':G} {s':Shared},f8 j w y g' s'.heap->Cx K s'.heap:=λR=>TK.cx.keeps R.base;haveI boot:∀{b},b= .isStr\/b= .bH->bootBuiltins (bT b)=some ((jy b).headD .none)/\bT b≠"__name__" /\(bT b==("__debug__" :Str))=false/\mK b= .builtin "isinstance" /\jy b=[(jy b).headD .none]:=by rintro b (rfl|rfl)<;>exact ⟨by kernel_rfl,by decide+kernel,by decide+kernel,rfl,rfl⟩
 refine gY (λb1 b2 b3 b4 b5=>?_) (boot hb);refine ff (jD (cx S.rel) L.kind L.glob L.j7 hk (by decide+kernel) J (by kernel_rfl:bootBuiltins "isinstance" =some (.builtin "isinstance")) (by decide+kernel) ?_);haveI Y:[e,Expr.Name (bT b) Z].all aJ=true:=by rw [List.all_cons,hs];rfl
 refine qH (cK Y).1 (eH Y ?_);rw [kr hs,kr (e:= .Name (bT b) Z) rfl];show wpAny _ _ (spliced ((false,eval e B)::(false,eval (.Name (bT b) Z) B)::[])) _ _ _;refine spliced_cons (he.go S t hw (λv ap ak m ai I V N U=>?_) λ_ _ x=>x);refine spliced_cons (jD (cx I.rel) L.kind L.glob L.j7 ab b3 F b1 b2 (spliced_nil ?_));have:=yx (A:=A) (E:=EU j w y H g s X) a.handled (by have:=a.units;show A.units+8<9900;split at this<;>lia) TK.lo I.rel (.one N) U;rw [b4,b5] at this;exact xe this (λ_ _ x=>x.trans V) λ_ _ x=>x
theorem Yj b:PlainAttrs (tA b)/\Slot (tA b) (vd b) (wD b)/\typeOf (.builtin (wD b))=pure (.type "method_descriptor"):=by induction b using BM.casesOn;exact ⟨PySem.F.plainAttrs_list,PySem.F.slot_list_append,PySem.F.type_list_append⟩;exact ⟨PySem.F.plainAttrs_list,PySem.F.slot_list_pop,PySem.F.type_list_pop⟩;exact ⟨PySem.F.plainAttrs_dict,PySem.F.slot_dict_get,PySem.F.type_dict_get⟩;exact ⟨PySem.F.plainAttrs_dict,PySem.F.slot_dict_pop,PySem.F.type_dict_pop⟩;exact ⟨qJ,PySem.F.slot_str_split,PySem.F.type_str_split⟩;exact ⟨qJ,PySem.F.slot_str_join,PySem.F.type_str_join⟩;exact ⟨qJ,PySem.F.slot_str_lower,PySem.F.type_str_lower⟩;exact ⟨qJ,PySem.F.slot_str_rpartition,PySem.F.type_str_rpartition⟩
theorem NI {s:Shared} (lo:sysModules<j.objs.size) (R:f8 d w j g s.heap) (V:VR d w g s.heap m v) (h:lQ b m g.C=true):s.TypeIs v (tA b)/\∀a,v= .ref a->∃o,s.heap.get? a=some o/\o.dict=none:=by
 have L:(uu g.C m).isSome=true->s.TypeIs v "list" /\∀a,v= .ref a->∃o,s.heap.get? a=some o/\o.dict=none:=λh=>by refine am (λx e=>?_) (qE.mp h);refine l6 (λa n A=>?_) (Tm R V e);rintro rfl k Y;exact ⟨⟨_,k,rfl⟩,λq c=>by injection c with c;subst c;exact ⟨_,k,rfl⟩⟩
 have D:(bL g.C m).isSome=true->s.TypeIs v "dict" /\∀a,v= .ref a->∃o,s.heap.get? a=some o/\o.dict=none:=λh=>by refine am (λx e=>?_) (qE.mp h);refine pi (λa r=>?_) (jY R lo V e);rintro rfl;refine l6 λo y z p l Y Y=>?_;exact ⟨⟨o,p,l.1⟩,λq c=>by injection c with c;subst c;exact ⟨o,p,l.2.1⟩⟩
 have u:lQ .split m g.C=true->s.TypeIs v "str" /\∀a,v= .ref a->∃o,s.heap.get? a=some o/\o.dict=none:=λh=>by induction m using MV.casesOn with|str x=>revert V;refine am λt=>?_;rintro rfl;exact ⟨typeIs_str _ _ _,λq c=>by cases c⟩|_=>injection h
 induction b using BM.casesOn with|append=>exact L h|pop=>exact L h|get=>exact D h|d7=>exact D h|_=>exact u h
theorem ES.bm {pos:Pos} (TK:GM j w K y T) (ho:eI o=true) (hs:es.all aJ=true) (hn:es.length<30) (hl:(apos.endLine==pos.line)=true) (he:ES j w y B A U aj ρ o W) (ak:IF j w y B A U aj ρ es Ws):ES j w y B A U aj ρ (.Call (.Attribute o (vd b) apos) es [] pos) (λC Q X=>W C (λv J=>bW (lQ b v J) (Ws J (λvs V=>bQ b v vs V Q) X)) X):=λg s Q X S t hw=>by refine im (λf1 f2 f3=>?_) (Yj b);refine o9 ho (cK hs).2 hn hl (he.go S t hw (λv ai ab m P F L I H=>?_) λ_ _ x=>x);refine aa (λhr H=>?_) (qc H);refine aa (λhT hd=>?_) (NI TK.lo F.rel I hr);refine getMethod_builtin hT f1 f2 f3 hd ?_;refine qH (cK hs).1 (eH hs ?_);refine ak ab ai _ X pos F P H (λvs as ar ms _ ap Z N Y R=>?_) λ_ _ x=>x.trans L;exact xe (Xw (E:=EU j w y B g s X) TK.lo Z.rel (I.post N F.rel) Y R) (λ_ _ x=>x.trans (L.trans N)) λ_ _ x=>x
theorem ES.eB (ho:eI o=true) (hl:(apos.endLine==pos.line)=true) (he:ES I w J L A E aj ρ o W):ES I w J L A E aj ρ (.Call (.Attribute o "replace" apos) [.Constant (.str y) k p,.Constant (.str z) k' Y] [] pos) (λC Q X=>W C (λv N=>match v with| .str s=>y≠z/\s.length+(s.length+1)*z.length<=gz/\Q (.str (Txt.replace s y z)) N|_=>False) X):=λg s Q X S t Z=>by
 refine o9 ho rfl (by show 2<30;decide) hl (he.go S t Z (λv j V m H F P R B=>?_) λ_ _ x=>x);induction m using MV.casesOn<;>try exact B.elim
 revert B;refine im λU hb q=>?_;revert R;refine am λt=>?_;rintro rfl;refine getMethod_builtin (typeIs_str _ _ _) qJ PySem.F.slot_str_replace PySem.F.type_str_replace (λa e=>by injection e) ?_;refine qH rfl (evalArgs_plain ?_);refine spliced_cons ?_;show wpAny _ _ (eval (.Constant (.str y) k p) E) _ _ _;refine wpAny_Constant_str (spliced_cons ?_);show wpAny _ _ (eval (.Constant (.str z) k' Y) E) _ _ _;refine wpAny_Constant_str (spliced_nil ?_);refine SC.replace (BN H:j.toks≠0) (Nat.succ_ne_zero j.toks:j.toks+1≠0) (u4 (fS _):j.toks≠j.toks+1) (by simpa using U) (by unfold gz at hb;exact be (by assumption) (by decide)) λt' k=>?_;exact u7.trans P (.val F.rel (by exact ⟨_,rfl⟩) q)
end
section
variable (ao:Program) (w:World) (dL:Heap) (l8:Addr)
def BU (g:G) (s:Shared) (Q:MV->GH->Prop) (X:GH->Prop) (r:Result) (a:Shared):Prop:=match r with| .ok (.ret v)=>u7 ao w dL g s Q v a| .ok _=>False| .error e=>EU ao w dL l8 g s X e a
def iL (T:eQ) (n:Nat):Prop:=∀f A g s d e Q X,fM A n->f8 ao w dL g s.heap->(∃c a,A.frames=some (c::a)/\Cf dL s.heap (c::a))->0<s.toks->br ao w g s.heap d e->T.Δ f d g.C Q X->codeAny (model ao w) A (.call (.ref (T.fa f)) ⟨e,[]⟩) (BU ao w dL l8 g s Q X) s
structure m6 (K:Frag) (T:eQ) (gf mf nf:List Nat):Prop where
 gf:∀f∈gf,nsIn K mainGlobals (T.fn f)=some (some (.ref (T.fa f)))/\keepIn K (.ref (T.fa f))=true
 mf:∀f∈mf,findIn K (.ref (T.aF f)) "__getattribute__" =some (some (.builtin "object.__getattribute__"))/\findIn K (.ref (T.aF f)) "__getattr__" =some none/\findIn K (.ref (T.aF f)) (T.fn f)=some (some (.ref (T.fa f)))/\
  typeIn K (.ref (T.fa f))=some (.type "function")/\keepIn K (.ref (T.fa f))=true
 nf:∀f∈nf,nsIn K mainGlobals (T.cC f)=some (some (.ref (T.aF f)))/\keepIn K (.ref (T.aF f))=true/\makesIn K (T.aF f)=true/\findIn K (.ref (T.aF f)) "__init__" =some (some (.ref (T.fa f)))/\typeIn K (.ref (T.fa f))=some (.type "function")
end
section
variable {K:Frag}
theorem Bd {f:Nat} {p:List Value} (CO:iL c w d o T n) (a:fM A n) (R:f8 c w d g s.heap) (C:∃l j,A.frames=some (l::j)/\Cf d s.heap (l::j)) (t:0<s.toks) (V:br c w g s.heap u p) (q:T.Δ f u g.C Q X) (k:∀v m,u7 c w d g s Q v m->y v m) (z:∀e m,EU c w d o g s X e m->E e m):wpAny (model c w) A (call (.ref (T.fa f)) p) y E s:=wpAny_call (codeAny_mono (CO f A g s u p Q X a R C t V q) λr m x=>by rcases r with e|B;exact z e m x;induction B using Flow.casesOn<;>first|exact k _ m x|exact x.elim)
theorem i4.frames (S:i4 E w B A F aj H g s):∃y j,A.frames=some (y::j)/\Cf B s.heap (y::j):=let ⟨e,o,a,_,c⟩:=S.fs;⟨e,o,a,c⟩
theorem ES.aE {f:Nat} {U:BV} (TK:GM y w K B T) (FT:m6 K T gf mf nf) (CO:iL y w B E T n) (L:YO j) (a:NJ r A n) (Z:f∈gf) (hk:j.kindOf (T.fn f)=some .globalImplicit) (hd:(T.fn f==("__debug__" :Str))=false) (N:H.all aJ=true) (I:IF y w B E A j aj ρ H U):ES y w B E A j aj ρ (.Call (.Name (T.fn f) np) H [] pos) (λC Q X=>U C (λR F=>T.Δ f R F Q X) X):=λg s Q X S t hw=>by show wpAny _ _ (do callWith pos (<- eval (.Name (T.fn f) np) j) [] (backTo pos (starEach H j)) (backToKw pos (keywordEach [] j))) _ _ _;refine aa (λh1 Y=>?_) (FT.gf f Z);refine ff (jQ (TK.cx.keeps S.rel.base) L.kind L.glob hk hd h1 ?_);refine callWith_of (P:=K.In) (show ((backTo pos (starEach H j)).any (·.1)||_)=false by rw [(cK N).1];rfl) (keeps_K Y) (eH N ?_);refine I g s _ X pos S t hw (λR s' g' ms _ t' J P V q=>⟨TK.cx.X.keeps J.rel.base,?_⟩) λ_ _ x=>x;exact Bd CO a.call J.rel J.frames t' V q (λ_ _ x=>x.trans P) λ_ _ x=>x.trans P
theorem shadow_of {g:G} {s:Shared} {F:List (Nat×MV)} (hd:s.heap.DictOf (PySem.strKind c w) d a) (O:s.heap.get? d=some o) (L:a.map (·.1)=F.map (λf=>wT f.1)) (v:(F.all λp=>wT p.1 !=name)=true):shadowIn (some o) name=some false:=by
 revert hd;refine l6 λT k U u Y=>pt λy l r Y=>?_;rw [O] at u;obtain rfl:=an u;have z:name∉a.map (·.1):=λq=>by rw [L] at q;refine ac (λp r e=>?_) (e8.mp q);have:=LG.mp v p r;rw [e] at this;simp at this
 haveI m:k.toList.find? (·.key.isStr name)=none:=by rw [kW];intro e j q;(haveI B:∀{k:List DictEntry} {a:List (Str×Value)},Pairs (PySem.strKind c w) k a->∀e∈k,∃x∈a,(PySem.strKind c w).is x.1 e.key=true:=by intro k a r;induction r with|nil=>intro e j;contradiction| @cons R x k a J P Q M=>intro e j;rcases LB.mp j with rfl|j;exact ⟨x,wS,J⟩;refine ac (λC H i=>?_) (M e j);exact ⟨C,FM _ H,i⟩);refine ac (λx A i=>?_) (B r e j);rw [nj] at q;have:=(PySem.strKind c w).inj _ _ _ i q;exact z (this▸jf A)
 haveI n:k.toList.any (·.refKey)=false:=by rw [List.any_eq_false];intro e j;refine ac (λS E Y=>?_) (l e (by simpa using j));refine am (λt I=>?_) (Value.isStrOf_shape E);simp [DictEntry.refKey,I]
 haveI N:lookIn name o=some none:=by unfold lookIn;rw [y];dsimp only;rw [m,n];rfl
 unfold shadowIn;dsimp only;rw [N];rfl
set_option tactic.hygienic true in theorem ES.ay {f:Nat} {o:Expr} {pos:Pos} (TK:GM j w K y T) (FT:m6 K T gf mf nf) (CO:iL j w y E T n) (a:NJ r A n) (hf:f∈mf) (ho:eI o=true) (hs:es.all aJ=true) (hn:es.length<30) (hl:(apos.endLine==pos.line)=true) (he:ES j w y E A Y aj ρ o W) (av:IF j w y E A Y aj ρ es Ws):ES j w y E A Y aj ρ (.Call (.Attribute o (T.fn f) apos) es [] pos) (λC Q X=>W C (λv U=>oP (me U v) λi=>bW (Nat.beq i.1 (T.aF f)&&i.2.all λp=>wT p.1 !=T.fn f) (Ws U (λvs ak=>T.Δ f (v::vs) ak Q X) X)) X):=λg s Q X S t hw=>by
 refine gY (λh1 h2 h3 h4 h5=>?_) (FT.mf f hf);refine o9 ho (cK hs).2 hn hl (he.go S t hw (λv ar R m Z B H L N=>?_) λ_ _ x=>x);obtain ⟨⟨c,fs⟩,e,q0⟩:=s5 N;refine aa (λhb qq=>?_) (qc q0);clear N;obtain rfl:=ej (aL hb);haveI as:=aR hb;induction m using MV.casesOn<;>try injection e
 rename_i l;haveI hC:=uh e;haveI V:=L;revert L;refine aa ?_;rintro rfl a2;refine l6 (λsl a3 od a4 hd=>pt λax hk z I=>?_) (Dp B.rel hC);refine method_fn (TK.cx.X.keeps B.rel.base) I h1 h2 h3 h4 (shadow_of (g:=R) hd ax hk as) ?_;refine callWith_of (P:=K.In) (show ((backTo pos (starEach es Y)).any (·.1)||_)=false by rw [(cK hs).1];rfl) (keeps_K h5) (eH hs ?_);refine av R ar _ X pos B Z qq (λvs a1 a0 ms _ ai F J ap ab=>⟨TK.cx.X.keeps F.rel.base,?_⟩) λ_ _ x=>x.trans H;exact Bd CO a.call F.rel F.frames ai (.cons (V.post J B.rel) ap) ab (λ_ _ x=>x.trans (H.trans J)) λ_ _ x=>x.trans (H.trans J)
theorem ES.new {f:Nat} {Ws:BV} (TK:GM y w K B T) (FT:m6 K T gf mf nf) (CO:iL y w B I T n) (EI:YO F) (a:NJ r A n) (hf:f∈nf) (hk:F.kindOf (T.cC f)=some .globalImplicit) (hd:(T.cC f==("__debug__" :Str))=false) (hs:Y.all aJ=true) (ab:IF y w B I A F aj ρ Y Ws):ES y w B I A F aj ρ (.Call (.Name (T.cC f) np) Y [] pos) (λC Q X=>Ws C (λvs N=>dm N (.inst (T.aF f) []) λl L=>T.Δ f (.af l::vs) L (λr Z=>vN r (Q (.af l) Z)) X) X):=λg s Q X S t hw=>by
 show wpAny _ _ (do callWith pos (<- eval (.Name (T.cC f) np) F) [] (backTo pos (starEach Y F)) (backToKw pos (keywordEach [] F))) _ _ _;refine gY (λh1 h2 h3 h4 h5=>?_) (FT.nf f hf);refine ff (jQ (TK.cx.keeps S.rel.base) EI.kind EI.glob hk hd h1 ?_);refine callWith_of (P:=K.In) (show ((backTo pos (starEach Y F)).any (·.1)||_)=false by rw [(cK hs).1];rfl) (keeps_K h2) (eH hs ?_);refine ab g s _ X pos S t hw (λvs s' J ms _ t' R P V q=>⟨TK.cx.X.keeps R.rel.base,?_⟩) λ_ _ x=>x;obtain ⟨l,hl,q⟩:=q;obtain ⟨j,gg,dd,tt,oo⟩:=s';have X':K.In j:=TK.cx.X.keeps R.rel.base;refine wpAny_call (make_core (makes_of X' h3) (looks_findIn X' h4) (λself=>bind_fn X' self h5) (.inl rfl) ?_);have k:∀b o,j.get? b=some o->((j.push emptyDict).push (instObj (T.aF f) j.objs.size)).get? b=some o:=λb o e=>AL _ (AL _ e);have hz:j.objs.size<=((j.push emptyDict).push (instObj (T.aF f) j.objs.size)).objs.size:=by rw [DO,DO];exact Bm
 haveI ak:(j.push emptyDict).objs.size=j.objs.size+1:=DO ..;haveI hx:((j.push emptyDict).push (instObj (T.aF f) j.objs.size)).get? (j.objs.size+1)=some (instObj (T.aF f) j.objs.size):=by rw [<- ak];exact LF _ rfl
 haveI ai:((j.push emptyDict).push (instObj (T.aF f) j.objs.size)).DictOf (PySem.strKind y w) j.objs.size []:=Heap.iH (Heap.DictOf.new j) λo Y ep e _ _=>AL _ e;haveI E1:ga (λ_=>False) J j (J.add l (.inst (T.aF f) []) (j.objs.size+1) j.objs.size) ((j.push emptyDict).push (instObj (T.aF f) j.objs.size)):=ga.add hl k hz (s4 _) (lv _);have R1:f8 y w B (J.add l (.inst (T.aF f) []) (j.objs.size+1) j.objs.size) ((j.push emptyDict).push (instObj (T.aF f) j.objs.size)):=by refine R.rel.add hl k hz (s4 _) (lv _) ⟨?_,#[],[],?_,?_,rfl,.nil⟩;rw [G.bc,G.gU];exact u4 (fS _);rw [G.bc,G.gU];exact hx;rw [G.gU];exact ai
 have P1:sK y w B J ⟨j,gg,dd,tt,oo⟩ (J.add l (.inst (T.aF f) []) (j.objs.size+1) j.objs.size) ⟨(j.push emptyDict).push (instObj (T.aF f) j.objs.size),gg,dd,tt,oo⟩:=⟨R1,E1,rfl,rfl⟩;haveI S1:=R.post P1;have Vl:VR y w (J.add l (.inst (T.aF f) []) (j.objs.size+1) j.objs.size) ((j.push emptyDict).push (instObj (T.aF f) j.objs.size)) (.af l) (.ref (j.objs.size+1)):=by exact ⟨by rw [G.bc],by rw [G.kI,bM];rfl⟩
 haveI a':fM (A.under (.builtin "type.__call__" ⟨.ref (T.aF f)::vs,[]⟩)) n:=by refine ⟨a.handled,?_,?_⟩;rw [depth_under_make];have:=a.depth;split at this<;>lia;show A.units+1+40*n<=9010;have:=a.units;split at this<;>lia
 haveI ap:∃H E,(A.under (.builtin "type.__call__" ⟨.ref (T.aF f)::vs,[]⟩)).frames=some (H::E)/\Cf B ((j.push emptyDict).push (instObj (T.aF f) j.objs.size)) (H::E):=by refine tz (λH E e f1=>?_) S1.frames;exact ⟨H,E,e,f1⟩
 refine codeAny_mono (CO f _ _ _ (.af l::ms) _ _ X a' R1 ap t' (.cons Vl (V.post P1 R.rel)) q) λr ar x=>?_;rcases r with e|fl;exact EU.trans (P.trans P1) x;induction fl using Flow.casesOn<;>first|exact x.elim|skip
 refine s3 λ_ kk=>?_;obtain ⟨U,mv,P2,V2,q⟩:=x;refine aa ?_ (qs q);rintro rfl q;refine kk ?_;exact ⟨V2,u7.trans (P.trans P1) ⟨U,.af l,P2,Vl.post P2 R1,q⟩⟩
noncomputable def pairTrees (a:Env) (pos:Pos):List (Option Expr)->List Expr->List (Sem Value×Sem Value)|some k::d,e::c=>(eval k a,do let x<- eval e a;standAt pos;pure x)::pairTrees a pos d c|_,_=>[]
end
section
variable (ao:Program) (w:World) (dL:Heap) (l8:Addr) (A:Around) (ba:Env) (aj:List Str) (ρ:ee)
def bR (j:List Expr) (W:GH->(List MV->GH->Prop)->(GH->Prop)->Prop):Prop:=∀keys n,nq keys n=true->keys.length=j.length->∀g s Q X {k:List (Value×Value)->Shared->Prop} {E:Value->Shared->Prop} (pos:Pos),i4 ao w dL A ba aj ρ g s->0<s.toks->W g.C Q X->(∀m a d l c,Carries (PySem.strKind ao w) m c->c.map (·.1)=n->0<a.toks->i4 ao w dL A ba aj ρ d a->sK ao w dL g s d a->br ao w d a.heap l (c.map (·.2))->Q l d.C->k m a)->(∀e a,EU ao w dL l8 g s X e a->E e a)->wpAny (model ao w) A (evalPairs (pairTrees ba pos keys j)) k E s
end
section
variable {ba:Env}
theorem bR.nil:bR j w y B A ba aj I [] (λC Q _=>Q [] C):=λkeys ks hk hl g s Q X H E pos S t F k hE=>by induction keys using List.casesOn with|nil=>(induction ks using List.casesOn with|nil=>exact i8 (k [] s g [] [] trivial rfl t S (.refl S.rel) .nil F)|cons _ _=>injection hk)|cons _ _=>simp at hl
theorem bR.cons {es:List Expr} (he:ES j w y B A ba aj ρ e W) (ar:bR j w y B A ba aj ρ es Ws):bR j w y B A ba aj ρ (e::es) (λC Q X=>W C (λv R=>Ws R (λvs ap=>Q (v::vs) ap) X) X):=λkeys ks hk hl g s Q X Φ E pos S t hw k hE=>by induction keys using List.casesOn with|nil=>simp at hl|cons ky keys=>induction ks using List.casesOn with|nil=>injection hk|cons x xs=>refine AM (aL hk) λke h1=>s7 h1 λkk kn kp h1=>?_;haveI hk:=aR hk;show wpAny _ _ (do let kv<- eval (.Constant (.str kk) kn kp) ba;let vv<- holding [kv] (do let x<- eval e ba;standAt pos;pure x);return (kv,vv)::(<- holding [kv,vv] (evalPairs (pairTrees ba pos keys es)))) _ _ _;refine ff (wpAny_Constant_str ?_);have P0:sK j w y g s g {s with toks:=s.toks+1}:= .toks S.rel;refine ff (Mn (ff (he.go (S.post P0) (dF _) hw (λv ak ab m J F H P U=>?_) λe s' x=>hE e s' (x.trans P0))));refine ff (ci (i8 ?_));refine ff (Mn ?_);refine ar keys xs hk (by simpa using hl) ab ak _ X pos F J U (λvs ai Y ms av hc as N Z I V L=>?_) λe s' x=>hE e s' (x.trans (P0.trans H));exact i8 (k _ ai Y (m::ms) ((kk,v)::av) ⟨by simp [PySem.strKind,Value.isStrOf],rfl,hc⟩ (by rw [cN,as];exact l9 (· ::xs) (cj h1)) N Z (P0.trans (H.trans I)) (.cons (P.post I F.rel) V) L)
theorem zA:∀{keys:List (Option Expr)} {g:List Str} {a:List Expr},nq keys g=true->keys.length=a.length->(evalEachOpt keys ba).zip ((evalEach a ba).map λv=>do let x<- v;standAt pos;pure x)=(pairTrees ba pos keys a).map (λp=>(some p.1,p.2))/\(pairTrees ba pos keys a).length=keys.length| [],_,[],_,_=>⟨rfl,rfl⟩| [],_,_::_,_,c=>by simp at c|_::_,_,[],_,c=>by simp at c|n::keys,g,e::a,d,c=>by induction g using List.casesOn with|nil=>injection d|cons x m=>refine aa (λj k=>?_) (zA (pos:=pos) (aR d) (show keys.length=a.length by simpa using c));refine AM (aL d) λl _=>⟨?_,l9 (· +1) k⟩;show (some _,_)::((evalEachOpt keys ba).zip ((evalEach a ba).map λv=>do let x<- v;standAt pos;pure x))=_;rw [j];rfl
theorem XM {a:List (Str×Value)} (c:(a.map (·.1)).Nodup):merged [] a=a:=merged_nil_of_nodup a c
theorem FL (R:f8 c w d g s.heap) (n:g.C l=none) (k:∀b o,s.heap.get? b=some o->j.get? b=some o) (m:s.heap.objs.size<=j.objs.size) (e:s.heap.objs.size<=a) (new:EM c w (g.add l ov a a) j l ov) (q:Q (.af l) (up g.C l ov)):u7 c w d g s Q (.ref a) {s with heap:=j,toks:=tk}:=⟨g.add l ov a a,.af l,⟨R.add n k m e e new,ga.add n k m e e,rfl,rfl⟩,by exact ⟨by rw [G.bc],by rw [G.kI,bM];rfl⟩,q⟩
theorem t7:GT {cls:= .type "dict",data:= .dict a n}:=⟨by simp,P3.not (by simp),λv q=>by cases q⟩
theorem Ah:GT {cls:= .type "list",data:= .seq a n}:=⟨by simp,P3.not (by simp),λv q=>by cases q⟩
theorem rX (R:f8 k w m g h) (c:g.pv=D::j) (A:g.C l=none) (z:Heap.SameBut D h v):Mv g h ((g.aA j).add l y D D) v:=by
 have sub:∀a∈j,a∈g.pv:=λa u=>by rw [c];exact FM _ u
 have n:D∈g.pv:=by rw [c];exact wS
 refine ⟨λx e=>?_,λa o e d _ _ _=>⟨(z.2 a λq=>d (q▸ .inr n)).trans e,λq=>?_⟩,R.cE⟩;have p:x≠l:=λq=>by rw [q,A] at e;injection e
 exact ⟨by show (up g.C l y x).isSome=true;rw [Rs p];exact e,al p⟩;refine to q (λt=>?_) λq=>?_;revert t;refine am λx q=>?_;refine to (G.dY q) (λt=>?_) λt=>?_;revert t;refine aa λY r=>?_;exact d (by rcases r with r|r<;>(rw [r];exact .inr n));revert t;refine aa λY r=>?_;exact d (.inl ⟨x,r⟩);exact d (.inr (sub a q))
theorem f8.adopt (R:f8 j w E g h) (y:g.pv=D::l') (hl:g.C l=none) (F:D∉l') (H:Heap.SameBut D h h') (hz:h.objs.size<=h'.objs.size) (new:EM j w ((g.aA l').add l ov D D) h' l ov):f8 j w E ((g.aA l').add l ov D D) h'/\(∀{m:List MV} {v:List Value},br j w g h m v->br j w ((g.aA l').add l ov D D) h' m v):=by
 have sub:∀a∈l',a∈g.pv:=λa ha=>by rw [y];exact FM _ ha
 haveI hD:D∈g.pv:=by rw [y];exact wS
 refine im (λN A=>ac λZ eD U=>?_) (R.aG D hD);haveI mv:Mv g h ((g.aA l').add l ov D D) h':=rX R y hl H;refine ⟨⟨λx J e=>?_,λx S b o L=>?_,λx b o=>?_,λa o e=>?_,be R.sz hz,λa ha=>?_⟩,λV=>br.mv mv V⟩;by_cases I:x=l;subst I;rw [show ((g.aA l').add x ov D D).C x=some ov from bM ..] at e;obtain rfl:=an e;exact new;rw [show ((g.aA l').add l ov D D).C x=g.C x from Rs I] at e;exact EM.mv mv (al I) (al I) (λa o z Q=>(H.2 a λq=>N x ⟨by rw [e];rfl,q▸z⟩).trans Q) (R.at_ x J e);rcases G.dY o with ⟨q,r⟩|⟨q,r⟩<;>rcases G.dY L with ⟨P,B⟩|⟨P,B⟩;rw [q,P];exact absurd B (by rcases r with r|r<;>(rw [r];exact N S));exact absurd r (by rcases B with B|B<;>(rw [B];exact N x));exact R.inj _ _ _ r B;refine to (G.dY o) (aa (λq r=>?_)) λt=>?_;rcases r with r|r<;>(rw [r];exact ⟨Heap.get?_none_of_le A,.inl A⟩);revert t;refine aa λq r=>?_;exact R.above _ _ r;exact (H.2 a λq=>absurd (r8 e) (Da.mpr (q▸A))).trans (R.base a o e);refine im (λp q=>ac λo e c=>?_) (R.aG a (sub a ha));refine ⟨λx L=>?_,q,o,(H.2 a λz=>F (z▸ha)).trans e,c⟩;refine to (G.dY L) (λt=>?_) λt=>?_;revert t;refine aa λY r=>?_;exact F (by rcases r with r|r<;>(rw [<- r];exact ha));revert t;refine aa λY r=>?_;exact p x r
theorem ga.adopt (x:ga S g h B j) (hl:B.C l=none) (hD:h.objs.size<=D) (A:Heap.SameBut D j h'):ga S g h (B.add l ov D D) h':=by
 have ne:∀{a o},h.get? a=some o->a≠D:=λe q=>absurd (r8 e) (Da.mpr (q▸hD));refine ⟨λa o e hn I=>?_,λy e=>?_,λy a e o=>?_,be x.size (fp A.1.symm),x.pv,λa o hp hn e I=>(A.2 a (ne e)).trans (x.aY a o hp hn e I)⟩;rcases x.keep a o e hn I with E|t;exact .inl ((A.2 a (ne e)).trans E);revert t;refine aa λc=>am λN E=>?_;exact .inr ⟨c,N,(A.2 a (ne e)).trans E⟩;refine im (λF L J=>?_) (x.af y e);have H:y≠l:=λq=>by rw [q,hl] at F;injection F
 exact ⟨by show (up B.C l ov y).isSome=true;rw [Rs H];exact F,(al H).trans L,(al H).trans J⟩;refine to (G.dY o) (λt=>?_) λt=>?_;revert t;refine aa λY r=>?_;rcases r with r|r<;>(rw [r];exact hD);revert t;refine aa λY r=>?_;exact x.new y a e r
theorem FR.mv (x:Mv g h B E) (k:∀a o,h.get? a=some o->E.get? a=some o) (I:∀l,¬B.aH l ba.locals) (F:FR j w g h ba aj J):FR j w B E ba aj J:=by obtain ⟨⟨m,hn,H⟩,N,hc,A,ha,nd⟩:=F;refine ⟨⟨m,hn.keeps k,λi y mv e1 e2 e3=>?_⟩,I,λi y mv e1 e2 e3=>?_,λy e=>?_,ha,nd⟩;refine ac (λv a b=>?_) (H i y mv e1 e2 e3);exact ⟨v,a,VR.mv x b⟩;refine pi (λc v a b d=>?_) (hc i y mv e1 e2 e3);exact ⟨c,v,a,b.keeps k,VR.mv x d⟩;refine tz (λc L a b=>?_) (A y e);exact ⟨c,L,a,b.keeps k⟩
theorem Cf.keeps (k:∀a o,h.get? a=some o->B.get? a=some o) (F:Cf j h l):Cf j B l:=λe he=>by refine aa (λkd=>xw λL o A y E=>pt λH hc hd lo=>?_) (F e he);exact ⟨kd,L,o,A,y,E,k _ _ H,hc,hd,lo⟩
theorem i4.hide (S:i4 j w y A ba aj E g s) (k:∀a o,s.heap.get? a=some o->B.get? a=some o) (hz:s.heap.objs.size<=B.objs.size) (hD:s.heap.objs.size<=D) (F:B.get? D=some o) (hp:GT o):i4 j w y A ba aj E (g.hide D) {s with heap:=B,toks:=tk}:=by refine ⟨S.rel.hide k hz hD F hp,S.fr.mv (oQ S.rel k hD) k S.fr.own,let ⟨e,o,a,b,c⟩:=S.fs;⟨e,o,a,b,c.keeps k⟩⟩
theorem f8.cY (R:f8 j w y g h) (hD:h.objs.size<=D):D∉g.pv:=λq=>by refine im (λY Y=>ac λo e Y=>?_) (R.aG D q);exact absurd (r8 e) (Da.mpr hD)
theorem sK.back (P:sK y w A (g.aA l) {s with heap:=j,toks:=H} E F) (k:∀a o,s.heap.get? a=some o->j.get? a=some o) (hz:s.heap.objs.size<=j.objs.size) (hl:∀a∈l,a∈g.pv\/s.heap.objs.size<=a) (B:∀a∈g.pv,a∈l):sK y w A g s (E.aA g.pv) F:=⟨P.rel.aA λa ha=>by rw [P.ext.pv];exact B a ha,ga.back P.ext k hz hl B,P.gens,P.os⟩
theorem EU.back (x:EU A w B E (g.aA l) {s with heap:=j,toks:=tk} X e R) (k:∀a o,s.heap.get? a=some o->j.get? a=some o) (hz:s.heap.objs.size<=j.objs.size) (hl:∀a∈l,a∈g.pv\/s.heap.objs.size<=a) (V:∀a∈g.pv,a∈l):EU A w B E g s X e R:=by
 obtain ⟨I,P,⟨ea,Y,rfl,hn,H⟩,q⟩:=x;haveI F:s.heap.get? ea=none:=by cases y:s.heap.get? ea with|none=>rfl|some o=>have:=k _ _ y;rw [hn] at this;injection this
 refine ⟨I.aA g.pv,P.back k hz hl V,⟨ea,Y,rfl,F,H.imp id λH=>?_⟩,q⟩;obtain ⟨Q,Z,T,oT,ts,a,b,c,d,f,S,J,U,N,L⟩:=H;refine ⟨Q,Z,T,oT,ts,a,b,c,d,?_,S,J,U,N,L⟩;cases y:s.heap.get? T with|none=>rfl|some o=>have:=k _ _ y;rw [f] at this;injection this
theorem ES.dict {keys:List (Option Expr)} {ks:List Str} (hk:nq keys ks=true) (hl:keys.length=F.length) (h0:0<F.length) (ap:F.length<=15) (ab:bR j w H I A ba aj ρ F Ws):ES j w H I A ba aj ρ (.Dict keys F pos) (λC Q X=>Ws C (λvs R=>ks.Nodup/\dm R (.aM ks vs) λl Z=>Q (.af l) Z) X):=λg s Q X S t hw=>by
 refine aa (λz1 z2=>?_) (zA (ba:=ba) (pos:=pos) hk hl);refine wpAny_Dict_pairs (knd:=PySem.strKind j w) z1 (λe=>by rw [e] at z2;simp at z2;exact Gg hl h0 z2) (Il hl ap z2) ?_;have k:∀a o,s.heap.get? a=some o->(s.heap.push {cls:= .type "dict",data:= .dict #[]}).get? a=some o:=λ_ _ e=>AL _ e;have hz:s.heap.objs.size<=(s.heap.push {cls:= .type "dict",data:= .dict #[]}).objs.size:=by rw [DO];exact s4 _
 have y:(s.heap.push {cls:= .type "dict",data:= .dict #[]}).get? s.heap.objs.size=some {cls:= .type "dict",data:= .dict #[]}:=LF _ rfl;have S1:=S.hide (tk:=s.toks) k hz (lv _) y t7;have sl:∀a∈s.heap.objs.size::g.pv,a∈g.pv\/s.heap.objs.size<=a:=λa ha=>by rcases LB.mp ha with rfl|ha;exact .inr (lv _);exact .inl ha
 have ss:∀a∈g.pv,a∈s.heap.objs.size::g.pv:=λa ha=>FM _ ha;refine ab keys ks hk hl _ _ _ X pos S1 t hw (λvs s' g' ms E hc U t' S' P V q=>?_) λe s' x=>x.back k hz sl ss;obtain ⟨hn,l,B,q⟩:=q;have N:=P.ext.pv;haveI J:=(S1.rel.aG _ wS).1;haveI ar:s'.heap.get? s.heap.objs.size=some {cls:= .type "dict",data:= .dict #[]}:=P.ext.aY _ _ wS J y id;have ak:s'.heap.DictOf (PySem.strKind j w) s.heap.objs.size []:=by refine xy (λo F ep ho r=>?_) (Heap.DictOf.new (knd:=PySem.strKind j w) s.heap);rw [y] at ho;obtain rfl:=an ho;exact ⟨_,F,ep,ar,r⟩
 refine ⟨E,hc,ak,λh' L sb=>?_⟩;rw [XM (by rw [U];exact hn)] at L;haveI P':=P.back k hz sl ss;haveI ai:=Zs sb;haveI adopt:=f8.adopt (l:=l) (ov:= .aM ks ms) (l':=g.pv) S'.rel N B (S.rel.cY (lv _)) sb ai;haveI Vs:br j w ((g'.aA g.pv).add l (.aM ks ms) s.heap.objs.size s.heap.objs.size) h' ms (E.map (·.2)):=by haveI mv:Mv g' s'.heap ((g'.aA g.pv).add l (.aM ks ms) s.heap.objs.size s.heap.objs.size) h':=rX S'.rel N B sb;exact br.mv mv V
 refine aa (λR' Y=>?_) (adopt ⟨by rw [G.bc,G.gU],E,by rw [G.bc];exact L,U,Vs⟩);exact ⟨_,.af l,⟨R',ga.adopt P'.ext B (lv _) sb,P'.gens,P'.os⟩,by exact ⟨by rw [G.bc],by rw [G.kI,bM];rfl⟩,q⟩
theorem ES.iD:ES y w B E A ba aj I (.Dict [] [] pos) (λC Q _=>dm C (.aT [] []) λl j=>Q (.af l) j):=λg s Q X S t F=>by obtain ⟨l,H,q⟩:=F;rw [eval_Dict_empty];refine ff (ci ?_);show wpAny _ _ (newObj (.type "dict") (.dict #[])) _ _ _;refine wpAny_newObj_type ?_;refine FL (tk:=s.toks) (ov:= .aT [] []) S.rel H (λ_ _ e=>AL _ e) (by rw [DO];exact s4 _) (lv _) ⟨by rw [G.bc,G.gU],[],?_,rfl,.nil⟩ q;rw [G.bc];exact Heap.DictOfH.new s.heap
end
section
variable (ao:Program) (w:World) (dL:Heap) (l8:Addr) (A:Around) (ba:Env) (aj:List Str) (ρ:ee)
abbrev WB:=GH->(Bool->GH->Prop)->(GH->Prop)->Prop
def EB (and:Bool) (a:List Expr) (W:WB):Prop:=∀pos g s Q X,i4 ao w dL A ba aj ρ g s->0<s.toks->W g.C Q X->wpAny (model ao w) A (boolOp pos (eT and) (evalEach a ba)) (u7 ao w dL g s λv C=>∃b,v= .bool b/\Q b C) (EU ao w dL l8 g s X) s
def EA (and:Bool) (d:List Expr) (W:WB):Prop:=∀g s Q X,i4 ao w dL A ba aj ρ g s->0<s.toks->W g.C Q X->wpAny (model ao w) A (allTrue (eT and) d ba) (λb c=>∃a,sK ao w dL g s a c/\Q b a.C) (EU ao w dL l8 g s X) s
end
section
variable {K:Frag}
set_option tactic.hygienic true in theorem EB.one {and:Bool} (he:ES j w y B A F aj J e W):EB j w y B A F aj J and [e] (λC Q X=>W C (λv E=>match v with| .bool b=>Q b E|_=>False) X):=λpos g s Q X S t I=>by
 refine he.go S t I (λv N H mv t' L P V q=>?_) λ_ _ x=>x;induction mv using MV.casesOn<;>try exact q.elim
 rename_i b;exact ⟨H,.bool b,P,V,b,rfl,q⟩
set_option tactic.hygienic true in theorem EB.cons {and:Bool} (he:ES j w y E A B aj U e W) (H:EB j w y E A B aj U and (N::L) Z):EB j w y E A B aj U and (e::N::L) (λC Q X=>W C (λv F=>match v with| .bool b=>if b=and then Z F Q X else Q b F|_=>False) X):=λpos g s Q X S t Y=>by
 show wpAny _ _ (do let v<- eval e B;standAt pos;let t<- holding [v] (truthy v);match eT and,t with| .And,false| .Or,true=>pure v|_,_=>boolOp pos (eT and) (evalEach (N::L) B)) _ _ _;refine ff (he.go S t Y (λv J I mv t' R P V q=>?_) λ_ _ x=>x);induction mv using MV.casesOn<;>try exact q.elim
 rename_i b;obtain rfl:=V;refine ff (ci (ff (Mn (kZ ?_))));dsimp only at q;have here:Q b I.C->u7 j w y g s (λv C=>∃b,v= .bool b/\Q b C) (.bool b) J:=λq=>⟨I,.bool b,P,rfl,b,rfl,q⟩;induction and using Bool.casesOn<;>induction b using Bool.casesOn;rw [bn rfl] at q;exact xe (H pos I J Q X R t' q) (λ_ _ x=>x.trans P) λ_ _ x=>x.trans P;rw [al (by decide)] at q;exact i8 (here q);rw [al (by decide)] at q;exact i8 (here q);rw [bn rfl] at q;exact xe (H pos I J Q X R t' q) (λ_ _ x=>x.trans P) λ_ _ x=>x.trans P
theorem ES.aI {and:Bool} (F:EB j w B y A H aj N and J R):ES j w B y A H aj N (.BoolOp (eT and) J pos) (λC Q X=>R C (λb E=>Q (.bool b) E) X):=λg s Q X S t L=>by exact xe (F pos g s _ X S t L) (λv U ⟨I,mv,P,V,b,e,q⟩=>⟨I,mv,P,V,by rw [e];exact q⟩) λ_ _ x=>x
theorem EA.nil {and:Bool}:EA j w y B A F aj H and [] (λC Q _=>Q and C):=λg s Q X S t E=>by refine i8 ⟨g,.refl S.rel,?_⟩;induction and using Bool.casesOn<;>exact E
theorem EA.cons {and:Bool} (he:ET j w y E A B aj V e W) (U:EA j w y E A B aj V and R Y):EA j w y E A B aj V and (e::R) (λC Q X=>W C (λb F=>if b=and then Y F Q X else Q b F) X):=λg s Q X S t hw=>by show wpAny _ _ (do match eT and,<- isTrue e B (eval e B) with| .And,false=>pure false| .Or,true=>pure true|_,_=>allTrue (eT and) R B) _ _ _;refine ff (he.go S t hw (λb N H t' Z P q=>?_) λ_ _ x=>x);have qD:Y H.C Q X->wpAny (model j w) A (allTrue (eT and) R B) (λb N=>∃H,sK j w y g s H N/\Q b H.C) (EU j w y E g s X) N:=λq=>xe (U H N Q X Z t' q) (λ_ _ ⟨L,J,I⟩=>⟨L,P.trans J,I⟩) λ_ _ x=>x.trans P;induction and using Bool.casesOn<;>induction b using Bool.casesOn;rw [bn rfl] at q;exact qD q;rw [al (by decide)] at q;exact i8 ⟨H,P,q⟩;rw [al (by decide)] at q;exact i8 ⟨H,P,q⟩;rw [bn rfl] at q;exact qD q
theorem ET.aI {and:Bool} (E:EA j w B y A F aj J and H L):ET j w B y A F aj J (.BoolOp (eT and) H pos) L:=λg s Q X S t I=>E g s Q X S t I
theorem ET.vt (he:ET j w y B A F aj J e W):ET j w y B A F aj J (.UnaryOp .Not e pos) (λC Q X=>W C (λb E=>Q (!b) E) X):=λg s Q X S t I=>by exact ff (he.go S t I (λb N H t' L P q=>i8 ⟨H,P,q⟩) λ_ _ x=>x)
theorem fN (h:∀x,Q x->a x) (q:oP o Q):oP o a:=by induction o using Option.casesOn with|none=>exact q.elim|some x=>exact h x q
theorem zG (h:∀x,Q x->c x) (q:bN a b C Q):bN a b C c:=by induction b using MV.casesOn with|lst l=>(induction l using List.casesOn with|nil=>exact fN (λx q=>⟨q.1,h _ q.2⟩) q|cons=>exact q.elim)|af l=>(induction a using MV.casesOn with|bb j g=>exact fN (λd q=>fN (λk q=>fN (λe q=>⟨q.1,q.2.1,h _ q.2.2⟩) q) q) q|_=>exact q.elim)|_=>exact fN h q
theorem Dd (h:∀x,Q x->e x) (q:cz a b C Q):cz a b C e:=by induction b using MV.casesOn with|str=>exact h _ q|aQ=>exact h _ q|af=>exact fN (λd q=>h _ q) q|lst=>exact fN (λc q=>⟨q.1,h _ q.2⟩) q|tup=>exact fN (λc q=>⟨q.1,h _ q.2⟩) q|_=>exact q.elim
theorem ig (h:∀x,k x->a x) (q:vI v k):vI v a:=by refine ac (λx=>?_) (kq q);rintro rfl q;exact h x q
theorem qW (h:∀x,k x->a x) (q:vS v k):vS v a:=by refine ac (λx=>?_) (bV q);rintro rfl q;exact h x q
theorem BG (h:k->a) (q:vN v k):vN v a:=by refine aa ?_ (qs q);rintro rfl q;exact h q
theorem B1 (q:Go o a b C Q) (h:∀x,Q x->c x):Go o a b C c:=by induction o using CO.casesOn with|eq=>exact zG h q|ne=>exact zG (λx=>h _) q|lt=>exact ig (λx=>ig λy=>h _) q|gt=>exact ig (λx=>ig λy=>h _) q|ge=>exact ig (λx=>ig λy=>h _) q|le=>(induction a using MV.casesOn with|int=>exact ig (λy=>h _) q|str=>exact qW (λy=>h _) q|_=>exact q.elim)|is=>exact BG (h _) q|gB=>exact BG (h _) q|cS=>exact qW (λx=>Dd h) q|gq=>exact qW (λx=>Dd λy=>h _) q
theorem WT (h:behindInMarks o e=false) t:markedBehindIn o e t=t:=by unfold markedBehindIn;rw [h]
theorem ET.cmp (TK:GM j w K y T) (hu:A.units+2<cLine) (hl:ES j w y B A R aj ρ l Wl) (hr:ES j w y B A R aj ρ r' Wr) (hm:behindInMarks (OF o) r'=false):ET j w y B A R aj ρ (.Compare l [OF o] [r'] pos) (λC Q X=>Wl C (λu V=>Wr V (λv J=>Go o u v J λb=>Q b J) X) X):=λg s Q X S t hw=>by rw [isTrue_Compare1,WT hm];refine ff (hl.go S t hw (λu a1 av m L F H U Y=>?_) λ_ _ x=>x);refine ff (Mn (hr.go F L Y (λv a0 as ap ar ab I Z N=>?_) λ_ _ x=>x.trans H));refine ff (ci (ff (wpAny_operate' ?_)));refine xe (wB (E:=EU j w y B g s X) (Q:=λv C=>∃b,v= .bool b/\Q b C) hu ab.rel TK.lo (U.post I F.rel) Z ?_) (λv ax x=>?_) λ_ _ x=>x;exact B1 N λb h=>⟨b,rfl,h⟩;obtain ⟨ai,mv,ak,P,b,rfl,q⟩:=x;obtain rfl:=P;exact Mn (kZ ⟨ai,H.trans (I.trans ak),q⟩)
theorem qd (r:GM d w K e T) (n:A.units+2<cLine) (R:f8 d w e g s.heap) (B:VR d w g s.heap a u) (H:VR d w g s.heap b v) (q:Go o a b g.C Q) (t:0<s.toks) (k:∀c j l,0<j.toks->sK d w e g s l j->l.C=g.C->Q c->p (.bool c) j):wpAny (model d w) A (compareOp (OF o) u v) p E s:=by have:=wB (A:=A) (E:=E) (Q:=λm C=>C=g.C/\∃c,m= .bool c/\Q c) n R r.lo B H (B1 q λc h=>⟨rfl,c,rfl,h⟩);refine xe (ic t this) (λx j y=>?_) λ_ _ x=>x.2;obtain ⟨z,l,I,P,V,F,c,rfl,q⟩:=y;obtain rfl:=V;exact k c j l z P F q
theorem ES.chain (TK:GM B w K E T) (hu:A.units+2<cLine) (hl:ES B w E I A ab aj ρ l Wl) (hb:ES B w E I A ab aj ρ b Wb) (hc:ES B w E I A ab aj ρ c Wc) (hm:lastMarks [OF Y,OF Z] [b,c]=false):ES B w E I A ab aj ρ (.Compare l [OF Y,OF Z] [b,c] pos) (λC Q X=>Wl C (λu a0=>Wb a0 (λv L=>Go Y u v L λr=>if r then Wc L (λx P=>Go Z v x P λr=>Q (.bool r) P) X else Q (.bool false) L) X) X):=λg s Q X S t hw=>by refine Compare_chain (hl.go S t hw (λu bv bf m ak R F ax a1=>?_) λ_ _ x=>x) hm;refine chain_link (hb.go R ak a1 (λv bm bd a8 av J H U ap=>?_) λ_ _ x=>x.trans F);refine qd TK hu J.rel (ax.post H R.rel) U ap av λd bi a4 a7 j hC y=>kZ ?_;induction d using Bool.casesOn;rw [al (by decide)] at y⊢;exact ⟨a4,.bool false,F.trans (H.trans j),rfl,by rw [hC];exact y⟩;rw [bn rfl] at y⊢;rw [<- hC] at y;have V:=J.post j;refine chain_last (hc.go V a7 y (λx ca bt bB a5 as N a3 a2=>?_) λ_ _ x=>x.trans (F.trans (H.trans j)));refine qd TK hu as.rel ((U.post j J.rel).post N V.rel) a3 a2 a5 λd a9 a6 bh ar hC ai=>?_;exact ⟨a6,.bool d,F.trans (H.trans (j.trans (N.trans ar))),rfl,by rw [hC];exact ai⟩
theorem ET.chain (TK:GM B w K E T) (hu:A.units+2<cLine) (hl:ES B w E I A ab aj ρ l Wl) (hb:ES B w E I A ab aj ρ b Wb) (hc:ES B w E I A ab aj ρ c Wc) (hm:lastMarks [OF Y,OF Z] [b,c]=false):ET B w E I A ab aj ρ (.Compare l [OF Y,OF Z] [b,c] pos) (λC Q X=>Wl C (λu a0=>Wb a0 (λv L=>Go Y u v L λr=>if r then Wc L (λx P=>Go Z v x P λr=>Q r P) X else Q false L) X) X):=λg s Q X S t hw=>by refine isTrue_chain (hl.go S t hw (λu bv bf m ak R F ax a1=>?_) λ_ _ x=>x) hm;refine test_link (hb.go R ak a1 (λv bm bd a8 av J H U ap=>?_) λ_ _ x=>x.trans F);refine qd TK hu J.rel (ax.post H R.rel) U ap av λd bi a4 a7 j hC y=>kZ ?_;induction d using Bool.casesOn;rw [al (by decide)] at y⊢;exact ⟨a4,F.trans (H.trans j),by rw [hC];exact y⟩;rw [bn rfl] at y⊢;rw [<- hC] at y;have V:=J.post j;refine test_last (hc.go V a7 y (λx ca bt bB a5 as N a3 a2=>?_) λ_ _ x=>x.trans (F.trans (H.trans j)));refine qd TK hu as.rel ((U.post j J.rel).post N V.rel) a3 a2 a5 λd a9 a6 bh ar hC ai=>kZ ?_;exact ⟨a6,F.trans (H.trans (j.trans (N.trans ar))),by rw [hC];exact ai⟩
end
section
variable {s:Shared}
theorem yU (R:f8 c w d g h) (m:I∈g.pv) (sub:∀a∈l,a∈g.pv) (k:∀a o,a≠I->h.get? a=some o->h'.get? a=some o):Mv g h (g.aA l) h':=⟨λ_ e=>⟨e,rfl⟩,λa o e j _ _ _=>⟨k a o (λq=>j (q▸ .inr m)) e,λq=>j (jt sub q)⟩,R.cE⟩
theorem f8.drop (R:f8 j w y g h) (E:I∈g.pv) (sub:∀a∈l',a∈g.pv) (hn:I∉l') (k:∀a o,a≠I->h.get? a=some o->h'.get? a=some o) (hz:h.objs.size<=h'.objs.size):f8 j w y (g.aA l') h':=by refine im (λH A Y=>?_) (R.aG I E);refine ⟨λx B e=>EM.mv (yU R E sub k) rfl rfl (λa o z F=>k a o (λq=>H x ⟨by rw [show g.C x=some B from e];rfl,q▸z⟩) F) (R.at_ x B e),R.inj,R.above,λa o e=>k a o (λq=>absurd (r8 e) (Da.mpr (q▸A))) (R.base a o e),be R.sz hz,λa ha=>?_⟩;refine im (λp q=>ac λo e c=>?_) (R.aG a (sub a ha));exact ⟨p,q,o,k _ _ (λz=>hn (z▸ha)) e,c⟩
def bx (m:MV) (u:Value) (h:Heap) (I:Addr) (k:Nat):Prop:=∃a,u= .ref a/\(match m with| .tup _=>h.IsTupleIter I a k|_=>h.IsListIter I a k)
noncomputable def YV:MV->Bool| .tup _=>true|_=>false
theorem sa (R:f8 c w o g s.heap) (V:VR c w g s.heap m u) (e:wE g.C m=some p):(∃l a n j d k,m= .tup l/\u= .ref a/\s.heap.get? a=some (nO j n d k)/\br c w g s.heap p j)\/((∀l,m≠ .tup l)/\∃a n j,u= .ref a/\s.heap.get? a=some (Cn j n)/\br c w g s.heap p j):=by induction m using MV.casesOn with|tup l=>obtain rfl:=an e;revert V;refine rb λa n d k j=>pt ?_;rintro rfl r Y z;exact .inl ⟨_,a,n,j,d,k,rfl,rfl,r,z⟩|_=>exact .inr ⟨(λl q=>bJ (l9 YV q)),Tm R V e⟩
theorem BP {T:String} (a:T="list_iterator" \/T="tuple_iterator"):GT {cls:= .type T,data:= .fields c}:=by rcases a with rfl|rfl<;>exact ⟨by simp,P3.not (by simp),λv q=>by cases q⟩
theorem t9 {m:MV} {u:Value} {y:List MV} (R:f8 c w r g s.heap) (V:VR c w g s.heap m u) (e:wE g.C m=some y) (j:∀o,GT o->bx m u (s.heap.push o) s.heap.objs.size 0->(s.heap.push o).get? s.heap.objs.size=some o->x (.ref s.heap.objs.size) {s with heap:=s.heap.push o}):wpAny (model c w) A (pyIter u) x E s:=by refine to (sa R V e) (λt=>?_) λt=>?_;revert t;refine rb λl a n p d=>At λB=>?_;rintro rfl rfl k z;haveI q:s.heap.IsTuple a p.toArray:=⟨_,k,rfl,n,rfl⟩;exact wpAny_pyIter_tuple q (j _ (BP (.inr rfl)) ⟨a,rfl,_,LF _ rfl,rfl,rfl⟩ (LF _ rfl));revert t;refine aa λv=>l6 λa n p=>?_;rintro rfl k z;haveI q:s.heap.IsList a p.toArray:=⟨_,k,rfl,n,rfl⟩;refine wpAny_pyIter_list q (j _ (BP (.inl rfl)) ⟨a,rfl,?_⟩ (LF _ rfl));induction m using MV.casesOn<;>first|exact absurd rfl (v _)|exact ⟨_,LF _ rfl,rfl,rfl⟩
theorem yN {m:MV} {u:Value} {xs:List MV} (R:f8 c w P g s.heap) (V:VR c w g s.heap m u) (e:wE g.C m=some xs) (B:bx m u s.heap I k) (S:xs[k]? =some x) (q:∀v p o,Heap.SameBut I s.heap p->bx m u p I (k+1)->p.get? I=some o->GT o->VR c w g s.heap x v->T (some v) {s with heap:=p}):wpAny (model c w) A (pyNext (.ref I)) T E s:=by
 revert B;refine ac λr=>?_;rintro rfl B;refine to (sa R V e) (rb (λl a n C d=>At λU=>?_)) λt=>?_;rintro rfl ea J z;injection ea with ea;subst ea;refine ac (λv L H=>?_) (z.get S);haveI F:s.heap.IsTuple r C.toArray:=⟨_,J,rfl,n,rfl⟩;refine wpAny_pyNext_tuple_item B F (by simpa using L) λp j M=>?_;refine nw (λo O y hd=>?_) (id j);exact q v p o M ⟨r,rfl,j⟩ O ⟨by rw [y];simp,P3.not (by rw [y];simp),by rw [hd];simp⟩ H;revert t;refine aa λQ=>l6 λa n C ea J z=>?_;injection ea with ea;subst ea;refine ac (λv L H=>?_) (z.get S);haveI F:s.heap.IsList r C.toArray:=⟨_,J,rfl,n,rfl⟩;haveI N:s.heap.IsListIter I r k:=by induction m using MV.casesOn<;>first|exact absurd rfl (Q _)|exact B
 refine wpAny_pyNext_list_item N F (by simpa using L) λp j M=>?_;refine nw (λo O y hd=>?_) (id j);exact q v p o M ⟨r,rfl,by induction m using MV.casesOn<;>first|exact absurd rfl (Q _)|exact j⟩ O ⟨by rw [y];simp,P3.not (by rw [y];simp),by rw [hd];simp⟩ H
theorem uc {m:MV} {u:Value} {xs:List MV} (L:A.handled=none) (R:f8 c w H g s.heap) (V:VR c w g s.heap m u) (e:wE g.C m=some xs) (q:bx m u s.heap I k) (J:xs.length<=k) (p:∀j,(∀a o,a≠I->s.heap.get? a=some o->j.get? a=some o)->s.heap.objs.size<=j.objs.size->N none {s with heap:=j}):wpAny (model c w) A (pyNext (.ref I)) N E s:=by
 revert q;refine ac λF=>?_;rintro rfl q;rcases sa R V e with t|t;revert t;refine rb λl a n x d=>At λO=>?_;rintro rfl ea r z;injection ea with ea;subst ea;haveI C:s.heap.IsTuple F x.toArray:=⟨_,r,rfl,n,rfl⟩;exact Zp (wpAny_pyNext_tuple_end L q C (by simp [z.len];exact J) λj y v=>p j y v);revert t;refine aa λM=>l6 λa n x ea r z=>?_;injection ea with ea;subst ea;have C:s.heap.IsList F x.toArray:=⟨_,r,rfl,n,rfl⟩;haveI B:s.heap.IsListIter I F k:=by induction m using MV.casesOn<;>first|exact absurd rfl (M _)|exact q
 exact Zp (wpAny_pyNext_list_end L B C (by simp [z.len];exact J) λj y v=>p j y v)
end
section
theorem i4.aZ (S:i4 E w H A I aj ρ g s) (hD:D∈g.pv) (aW:I.locals≠D) (B:Heap.SameBut D s.heap P) (ho:P.get? D=some o) (hp:GT o):i4 E w H A I aj ρ g {s with heap:=P,toks:=tk}:=by have R:=S.rel;have E1:ga (λa=>a=D) g s.heap g P:=ga.aZ B;have mv:=R.mv E1 (dP hD);have Q:∀{a:Addr},¬g.aK a->a≠D:=λhn q=>hn (q▸ .inr hD);refine ⟨R.aZ hD B ho hp,?_,?_⟩;obtain ⟨⟨m,hn,hv⟩,N,hc,V,ha,nd⟩:=S.fr;refine ⟨⟨m,hn.sameBut B aW,λi y j e1 e2 e3=>?_⟩,N,λi y j e1 e2 e3=>?_,λy e=>?_,ha,nd⟩;refine ac (λv a b=>?_) (hv i y j e1 e2 e3);exact ⟨v,a,VR.mv mv b⟩;refine pi (λc v a b d=>?_) (hc i y j e1 e2 e3);exact ⟨c,v,a,b.sameBut B (Q (R.cu b)),VR.mv mv d⟩;refine tz (λc vo a b=>?_) (V y e);exact ⟨c,vo,a,b.sameBut B (Q (R.cu b))⟩;refine pi (λe o' a b F=>?_) S.fs;refine ⟨e,o',a,b,λe' U=>?_⟩;refine aa (λkd=>xw λL Y es ep Z=>pt λJ hc hd lo=>?_) (F e' U);exact ⟨kd,L,Y,es,ep,Z,(B.2 L (Q (R.mF J hc))).trans J,hc,hd,lo⟩
theorem zB (S:i4 r w B A q k P g s) (O:k[i]? =some x) (U:i<P.length) (T:s.heap.Ns OE.locals m) (M:m x=some v) (V:VR r w g s.heap R v) (H:∀l,¬g.aH l OE.locals) (N:OE.kindOf x=some .local) (C:∀y,OE.kindOf y=some .local->y=x\/y=".0") (n:∀y,(OE.kindOf y=some .cell\/OE.kindOf y=some .free)->(q.kindOf y=some .cell\/q.kindOf y=some .free)/\OE.cells.lookup y=q.cells.lookup y) (p:∀(y z:Str) (c:Addr),OE.kindOf y=some .cell->OE.cells.lookup y=some c->OE.cells.lookup z=some c->y=z) (Q:OE.frame=q.frame):i4 r w B A OE k (P.set i (some R)) g s:=by refine ⟨S.rel,⟨⟨m,T,λj y F e1 E t=>?_⟩,H,λj y F e1 E t=>?_,λy e=>?_,p,S.fr.nd⟩,?_⟩;have:=(C y t).resolve_right λz=>S.fr.nd.2 (z▸Lm e1);subst this;have I:=(List.getElem?_inj (BB.mp e1).1 S.fr.nd.1).mp (e1.trans O.symm);subst I;rw [qF U] at E;cases E;exact ⟨v,M,V⟩;refine aa (λL J=>?_) (n y t);by_cases I:j=i;subst I;rw [O] at e1;obtain rfl:=an e1;rw [N] at t;rcases t with t|t<;>cases t;rw [kR (u8 I)] at E;refine pi (λc u a b d=>?_) (S.fr.cell j y F e1 E L);exact ⟨c,u,by rw [J];exact a,b,d⟩;refine aa (λL J=>?_) (n y e);refine tz (λc W a b=>?_) (S.fr.cells y L);exact ⟨c,W,by rw [J];exact a,b⟩;refine pi (λe o a b c=>?_) S.fs;exact ⟨e,o,a,b.trans Q.symm,c⟩
theorem HO {aj:List (Str×NameKind)}:∀d:List (Str×Addr),(∀y∈aj,y.2= .free->∃c,ba.cells.lookup y.1=some c)->∃l,(forIn aj d (λ(x:Str×NameKind) (d:List (Str×Addr))=>(do if x.2== .free then pure (ForInStep.yield ((x.1,<- cellOf ba x.1)::d)) else pure (ForInStep.yield d):Sem (ForInStep (List (Str×Addr))))))=pure l/\(∀y c,(y,c)∈l->(y,c)∈d\/((y,NameKind.free)∈aj/\ba.cells.lookup y=some c))/\(∀y,(y,NameKind.free)∈aj->(∀c,(y,c)∈d->ba.cells.lookup y=some c)->l.lookup y=ba.cells.lookup y)/\(∀y,(y,NameKind.free)∉aj->l.lookup y=d.lookup y):=by induction aj with|nil=>exact λd _=>⟨d,rfl,λy c h=> .inl h,λy h=>(List.not_mem_nil h).elim,λy _=>rfl⟩|cons B r w=>intro d h;obtain ⟨a,k⟩:=B;rw [List.forIn_cons];by_cases u:k= .free;subst u;refine am (λv j=>?_) (h (a,.free) wS rfl);refine At (λl e p1 p2 p3=>?_) (w ((a,v)::d) λy g=>h y (FM _ g));refine ⟨l,?_,λy c p=>?_,λy g n=>?_,λy g=>?_⟩;(have ec:cellOf ba a=pure v:=by unfold cellOf;rw [j]);show (cellOf ba a>>=_)>>=_=_;rw [ec];exact e;refine to (p1 y c p) (λq=>?_) λt=>?_;refine to (LB.mp q) (λq=>?_) λq=>?_;cases q;exact .inr ⟨wS,j⟩;exact .inl q;revert t;refine aa λq A=>?_;exact .inr ⟨FM _ q,A⟩;by_cases o:(y,NameKind.free)∈r;refine p2 y o λc z=>?_;refine to (LB.mp z) (λq=>?_) λq=>?_;cases q;exact j;exact n c q;(have m:y=a:=by refine to (LB.mp g) (λq=>?_) λq=>?_;cases q;rfl;exact absurd q o);subst m;rw [p3 y o,j];exact List.lookup_cons_self;have o:(y,NameKind.free)∉r:=λq=>g (FM _ q);have m:¬(y==a)=true:=λq=>g (by rw [beq_iff_eq.mp q];exact wS);rw [p3 y o,List.lookup_cons,Bool.eq_false_iff.mpr m];refine At (λl e p1 p2 p3=>?_) (w d λy g=>h y (FM _ g));refine ⟨l,?_,λy c p=>?_,λy g n=>?_,λy g=>?_⟩;(have:(k==NameKind.free)=false:=by simpa using u);rw [this];exact e;exact (p1 y c p).imp id λq=>⟨FM _ q.1,q.2⟩;refine p2 y ?_ n;refine to (LB.mp g) (λq=>?_) λq=>?_;cases q;exact absurd rfl u;exact q;exact p3 y λq=>g (FM _ q)
theorem mL {scope:Scope} (h:∀y∈scope.names,y.2= .free->∃c,ba.cells.lookup y.1=some c):∃a,closureFor scope ba=pure a/\(∀y,(y,NameKind.free)∈scope.names->a.lookup y=ba.cells.lookup y)/\(∀y c,(y,c)∈a->ba.cells.lookup y=some c):=by refine At (λa e p1 p2 Y=>?_) (HO (ba:=ba) (aj:=scope.names) [] h);refine ⟨a,?_,(λy g=>p2 y g (λc d=>nomatch d)),λy c d=>?_⟩;unfold closureFor;exact (bind_pure _).trans e;refine to (p1 y c d) (λq=>?_) λq=>?_;exact nomatch q;exact q.2
end
section
variable {ba:Env}
theorem DM:∀{d:List (Str×NameKind)},(d.map λ(n,k)=>if (k==NameKind.free&&ba.scope.kind== .function&&ba.kindOf n==some .cell) then (n,NameKind.cell) else (n,k)).lookup y=some g->∃k,d.lookup y=some k/\g=if (k==NameKind.free&&ba.scope.kind== .function&&ba.kindOf y==some .cell) then NameKind.cell else k| [],h=>by simp at h| (a,k)::r,h=>by (have e:(((a,k)::r).map λ(n,k)=>if (k==NameKind.free&&ba.scope.kind== .function&&ba.kindOf n==some .cell) then (n,NameKind.cell) else (n,k))=(a,if (k==NameKind.free&&ba.scope.kind== .function&&ba.kindOf a==some .cell) then NameKind.cell else k)::(r.map λ(n,k)=>if (k==NameKind.free&&ba.scope.kind== .function&&ba.kindOf n==some .cell) then (n,NameKind.cell) else (n,k)):=by rw [cN];congr 1;dsimp only;split<;>rfl);rw [e,List.lookup_cons] at h;rw [List.lookup_cons];cases c:y==a with|true=>replace h:=c▸h;simp only [Option.some.injEq] at h;have:=beq_iff_eq.mp c;subst this;exact ⟨k,rfl,h.symm⟩|false=>replace h:=c▸h;exact DM h
structure dI (ba:Env) (scope:Scope) (x:Str):Prop where
 kind:scope.kind= .function
 pM:∀y∈scope.names,y.2≠ .cell
 locals:∀y∈scope.names,y.2= .local->scope.names.lookup y.1=some .local
 af:scope.names.lookup x=some .local
 only:∀y,scope.names.lookup y=some .local->y=x\/y=".0"
 free:∀y∈scope.names,y.2= .free->ba.kindOf y.1=some .cell\/ba.kindOf y.1=some .free
theorem yo (n:∀y∈c.names,y.2≠ .cell) (q:∀d,{d with scope:=relabel c ba}=compEnvC c l s.heap.objs.size ba->Q d {s with heap:=s.heap.push {cls:= .type "dict",data:= .dict #[]}}):wpAny M A (newFunctionEnv c ba.globals l [] ba.qual none .none (some ba)) Q E s:=by
 simp only [newFunctionEnv,Option.isSome_some,if_true];refine ff (wpAny_alloc ?_);refine ff (wpAny_layCells _ (λname e j=>by cases v:e==NameKind.cell<;>simp) _ _ _ _ ?_);rw [vA l n];haveI o:∀(h:Heap),pushCells h c.names=h:=by intro h;(have:∀(g:List (Str×NameKind)),(∀y∈g,y.2≠ .cell)->pushCells h g=h:=by intro g;induction g with|nil=>intro _;rfl|cons p r t=>intro m;obtain ⟨a,k⟩:=p;unfold pushCells;rw [al (by simpa using m (a,k) wS)];exact t λy u=>m y (FM _ u));exact this _ n
 rw [o];refine ff ?_;rw [List.forIn_nil];exact i8 (i8 (q _ rfl))
theorem ga.but (k:∀a o,¬S a->h.get? a=some o->y.get? a=some o) (hz:h.objs.size<=y.objs.size):ga S g h g y:=⟨λa o e _ j=> .inl (k a o j e),λ_ e=>⟨e,rfl,rfl⟩,λ_ _ e o=>(by have:=o.1;rw [e] at this;injection this),hz,rfl,λa o _ _ e j=>k a o j e⟩
theorem rR (o:dI ba a x) (q:∀y,(y,NameKind.free)∈a.names->j.lookup y=ba.cells.lookup y) (r:∀y c,(y,c)∈j->ba.cells.lookup y=some c):(compEnvC a j C ba).kindOf x=some .local/\(∀y,(compEnvC a j C ba).kindOf y=some .local->y=x\/y=".0")/\(∀y,((compEnvC a j C ba).kindOf y=some .cell\/(compEnvC a j C ba).kindOf y=some .free)->(ba.kindOf y=some .cell\/ba.kindOf y=some .free)/\(compEnvC a j C ba).cells.lookup y=ba.cells.lookup y)/\(∀y,(compEnvC a j C ba).kindOf y=some .cell->ba.kindOf y=some .cell):=by
 have n:∀{y m},(compEnvC a j C ba).kindOf y=some m->∃k,a.names.lookup y=some k/\m=if (k==NameKind.free&&ba.scope.kind== .function&&ba.kindOf y==some .cell) then NameKind.cell else k:=λh=>DM h;have d:∀{y m},(compEnvC a j C ba).kindOf y=some m->(m= .cell\/m= .free)->(y,NameKind.free)∈a.names:=λ{y m} h t=>by refine ac (λk e g=>?_) (n h);haveI l:=hZ e;split at g;rename_i p;simp only [Bool.and_eq_true,beq_iff_eq] at p;rw [p.1.1] at l;exact l;subst g;rcases t with rfl|rfl;exact absurd rfl (o.pM _ l);exact l
 refine ⟨lookup_relabel_local o.af,λy h=>?_,λy h=>?_,λy h=>?_⟩;refine ac (λk e g=>?_) (n h);split at g;injection g;subst g;exact o.only y e;haveI l:=h.elim (λh=>d h (.inl rfl)) λh=>d h (.inr rfl);exact ⟨o.free _ l rfl,q y l⟩;refine ac (λk e g=>?_) (n h);split at g;rename_i p;simp only [Bool.and_eq_true,beq_iff_eq] at p;exact p.2;subst g;exact absurd rfl (o.pM _ (hZ e))
end
section
theorem Dq (a:o.cls= .type "dict") (hd:o.data= .dict c n):GT o:=⟨by rw [a];simp,P3.not (by rw [a];simp),λv q=>by rw [hd] at q;cases q⟩
structure SO (ao:Program) (w:World) (dL:Heap) (A:Around) (ba:Env) (aj:List Str) (ρ:ee) (S:Addr->Prop) (gC:G) (sC:Shared) (P5:GH) (m:MV) (u:Value) (I C:Addr) (k:Nat) (g':G) (s':Shared):Prop where
 aO:i4 ao w dL A ba aj ρ g' s'
 toks:0<s'.toks
 ext:ga S gC sC.heap g' s'.heap
 gens:s'.gens=sC.gens
 os:s'.os=sC.os
 gh:g'.C=P5
 it:bx m u s'.heap I k
 val:VR ao w g' s'.heap m u
 ns:∃mm,bZ (.type "dict") s'.heap C mm
 lo:∀a,S a->ba.locals≠a
theorem SO.eval (c:SO j w y A J aj ρ S gC Z B m u I C k H V) (Y:I∈H.pv) (U:C∈H.pv) (t:0<E.toks) (P:sK j w y H V F E) (e:F.C=B):SO j w y A J aj ρ S gC Z B m u I C k F E:=by have R:=c.aO.rel;have L:∀{a o},a∈H.pv->V.heap.get? a=some o->E.heap.get? a=some o:=λha e=>P.ext.aY _ _ ha (R.aG _ ha).1 e id;refine ⟨c.aO.post P,t,c.ext.trans (P.ext.mono λ_ h=>h.elim),P.gens.trans c.gens,P.os.trans c.os,e,?_,c.val.post P R,?_,c.lo⟩;refine ac (λa=>?_) c.it;rintro rfl it;refine ⟨a,rfl,?_⟩;induction m using MV.casesOn<;>(revert it;refine nw λo Q hc hd=>?_;exact ⟨o,L Y Q,hc,hd⟩);refine ac (λmm=>xy λo es ep Q r=>ac λo' N hc=>?_) c.ns;exact ⟨mm,⟨o,es,ep,L U Q,r⟩,o',L U N,hc⟩
theorem SO.write (c:SO j w y A J aj R S gC Q B m u I C k F H) (hD:D∈F.pv) (P:S D) (N:Heap.SameBut D H.heap E) (U:E.get? D=some o) (hp:GT o) (t:0<tk) (it:bx m u E I k) (ns:∃V,bZ (.type "dict") E C V):SO j w y A J aj R S gC Q B m u I C k F {H with heap:=E,toks:=tk}:=by have L:ga (λa=>a=D) F H.heap F E:=ga.aZ N;exact ⟨c.aO.aZ hD (c.lo D P) N U hp,t,c.ext.trans (L.mono λa q=>q▸P),c.gens,c.os,c.gh,it,VR.ext L (dP hD) c.aO.rel c.val,ns,c.lo⟩
theorem bx.Cd (it:bx m u s.heap I k) (h:y (.ref I) s):wpAny (model j w) A (pyIter (.ref I)) y E s:=by revert it;refine ac λa=>?_;rintro rfl it;induction m using MV.casesOn<;>first|exact wpAny_pyIter_listiter it h|exact wpAny_pyIter_tupleiter it h
theorem bx.keeps (it:bx m u h I k) (j:∀o,h.get? I=some o->A.get? I=some o):bx m u A I k:=by revert it;refine ac λa=>?_;rintro rfl it;refine ⟨a,rfl,?_⟩;induction m using MV.casesOn<;>(revert it;refine nw λo y hc hd=>?_;exact ⟨o,j _ y,hc,hd⟩)
structure gw (ao:Program) (w:World) (dL:Heap) (A:Around) (ba:Env) (aj:List Str) (ρ:ee) (pe:G) (fE:Shared) (oD:Obj) (I D C:Addr) (m:MV) (u:Value) (gC:G) (sC:Shared):Prop where
 st:SO ao w dL A ba aj ρ (λa=>a=I\/a=D\/a=C) gC sC pe.C m u I C 0 gC sC
 hD:sC.heap.get? D=some oD
 pv:gC.pv=C::D::I::pe.pv
 ne1:D≠I
 ne2:C≠I
 ne3:C≠D
 lo:fE.heap.objs.size<=I/\fE.heap.objs.size<=D/\fE.heap.objs.size<=C
 keeps:∀a o,fE.heap.get? a=some o->sC.heap.get? a=some o
 size:fE.heap.objs.size<=sC.heap.objs.size
 wX:gC=pe.aA (C::D::I::pe.pv)
 gens:sC.gens=fE.gens
 os:sC.os=fE.os
theorem AC {oI:Obj} (g:i4 j w r A t l U d c) (p:0<c.toks) (v:VR j w d c.heap m u) (W:GT oI) (M:GT oD) (P:bx m u (c.heap.push oI) c.heap.objs.size 0) (H:(c.heap.push oI).get? c.heap.objs.size=some oI) (Q:L={cls:= .type "dict",data:= .dict #[]}) (C:oD.isFreed=false):gw j w r A t l U d c oD c.heap.objs.size (c.heap.objs.size+1) (c.heap.objs.size+2) m u (d.aA ((c.heap.objs.size+2)::(c.heap.objs.size+1)::c.heap.objs.size::d.pv)) {c with heap:=((c.heap.push oI).push oD).push L}:=by
 subst Q;haveI n:(c.heap.push oI).objs.size=c.heap.objs.size+1:=DO ..;have k:((c.heap.push oI).push oD).objs.size=c.heap.objs.size+2:=by rw [DO,n]
 have J:(((c.heap.push oI).push oD).push {cls:= .type "dict",data:= .dict #[]}).objs.size=c.heap.objs.size+3:=by rw [DO,k]
 have F:∀a o,c.heap.get? a=some o->(c.heap.push oI).get? a=some o:=λ_ _ e=>AL _ e;have B:∀a o,(c.heap.push oI).get? a=some o->((c.heap.push oI).push oD).get? a=some o:=λ_ _ e=>AL _ e;have x:∀a o,((c.heap.push oI).push oD).get? a=some o->(((c.heap.push oI).push oD).push {cls:= .type "dict",data:= .dict #[]}).get? a=some o:=λ_ _ e=>AL _ e;have z:((c.heap.push oI).push oD).get? (c.heap.objs.size+1)=some oD:=by rw [<- n];exact LF _ C
 haveI y:(((c.heap.push oI).push oD).push {cls:= .type "dict",data:= .dict #[]}).get? (c.heap.objs.size+2)=some {cls:= .type "dict",data:= .dict #[]}:=by rw [<- k];exact LF _ rfl
 haveI I:=g.hide (tk:=c.toks) F (by rw [n];exact s4 _) (lv _) H W;haveI R:=VR.hide g.rel F (lv _) v;have SD:=I.hide (tk:=c.toks) B (by rw [n,k];exact s4 _) (by rw [n];exact lv _) z M;haveI T:=VR.hide I.rel B (by rw [n];exact lv _) R;haveI O:=SD.hide (tk:=c.toks) x (by rw [J,k];exact s4 _) (by rw [k];exact lv _) y t7;haveI N:=VR.hide SD.rel x (by rw [k];exact lv _) T;refine ⟨⟨O,p,.refl _ _ _,rfl,rfl,rfl,P.keeps λo e=>x _ _ (B _ _ e),N,⟨λ_=>none,?_,_,y,rfl⟩,?_⟩,x _ _ z,rfl,BN (fS _),BN (Nat.lt_succ_of_lt (fS _)),BN (fS _),⟨lv _,s4 _,Pd _ 2⟩,λa o e=>x _ _ (B _ _ (F _ _ e)),by show _<=(((c.heap.push oI).push oD).push {cls:= .type "dict",data:= .dict #[]}).objs.size;rw [J];exact Pd _ 3,rfl,rfl,rfl⟩;have:=Heap.Ns.new ((c.heap.push oI).push oD) (.type "dict");rw [k] at this;exact this;haveI V:t.locals<c.heap.objs.size:=by refine ac (λY=>xy λY Y Y e Y Y=>?_) g.fr.ns;exact r8 e
 intro a S q;haveI E:c.heap.objs.size<=a:=by rcases S with rfl|rfl|rfl<;>first|exact lv _|exact s4 _|exact Pd _ 2
 exact absurd (q▸V) (Da.mpr E)
theorem yM {Ψ:Value->Shared->Prop} (c:SO d w l A H g ρ S gC sC z m u I C k t F) (X:I∈t.pv) (hC:C∈t.pv) (N:C≠I) (SI:S I) (SC:S C) (e:wE z m=some ar) (hx:ar[k]? =some xv) (hk:OE.kindOf x=some .local) (hf:OE.scope.kind= .function) (O:OE.locals=C) (W:∀v J U,0<U->SO d w l A H g ρ S gC sC z m u I C (k+1) t {F with heap:=J,toks:=U}->(∃mm,J.Ns C mm/\mm x=some v)->VR d w t J xv v->(∀a o,a≠I->a≠C->F.heap.get? a=some o->J.get? a=some o)->Ψ v {F with heap:=J,toks:=U}) (Z:∀v B,wpAny (model d w) A (assign (.Name x px) OE v) (λ_ Q=>Ψ v Q) E B->Φ (some v) B):wpAny (model d w) A (pyNext (.ref I)) Φ E F:=by
 subst O;have R:=c.aO.rel;refine yN (xs:=ar) R c.val (c.gh▸e) c.it hx λv r oI T ab ap pI Vx=>?_;haveI V:ga (λa=>a=I) t F.heap t r:=ga.aZ T;haveI n:i4 d w l A H g ρ t {F with heap:=r}:=c.aO.aZ X (c.lo _ SI) T ap pI;refine am (λmm ak=>?_) c.ns;haveI M:=ak.sameBut T N;refine Z _ _ (wpAny_assign_Name (rZ hk hf M λp j y=>?_));refine ac (λoc P ai=>?_) j.2;haveI pC:GT oc:=by refine l6 (λo es ep ho hd Y=>?_) j.1;rw [P] at ho;obtain rfl:=an ho;exact Dq ai hd
 haveI E2:ga (λa=>a=OE.locals) t r t p:=ga.aZ y;haveI L:i4 d w l A H g ρ t {F with heap:=p,toks:=F.toks+1}:=n.aZ hC (c.lo _ SC) y P pC;refine W v p _ (dF _) ⟨L,dF _,(c.ext.trans (V.mono λa q=>q▸SI)).trans (E2.mono λa q=>q▸SC),c.gens,c.os,c.gh,?_,?_,⟨_,j⟩,c.lo⟩ ⟨_,j.1,bn rfl⟩ ?_ λa o h1 h2 e=>(y.2 a h2).trans ((T.2 a h1).trans e);exact ab.keeps λo e=>(y.2 _ (u8 N)).trans e;exact VR.ext E2 (dP hC) n.rel (VR.ext V (dP X) R c.val);exact VR.ext E2 (dP hC) n.rel (VR.ext V (dP X) R Vx)
theorem TV (t:i4 j w r A F y T d z) (b:gw j w r A F y T d z oD I D C m u gC sC) (c:SO j w r A F y T (λa=>a=I\/a=D\/a=C) gC sC N m u I C k n B) (U:∀a o,a≠I->B.heap.get? a=some o->E.get? a=some o) (Q:B.heap.objs.size<=E.objs.size) (H:Heap.SameBut C E g) (ho:B.heap.get? D=some o):sK j w r d z (n.aA d.pv) {B with heap:=g}/\(∀{m v},VR j w n B.heap m v->VR j w (n.aA d.pv) g m v)/\(∀{m v},br j w n B.heap m v->br j w (n.aA d.pv) g m v)/\g.get? D=some o/\¬(n.aA d.pv).aK D:=by
 have R:=c.aO.rel;have x:=c.ext.pv.trans b.pv;have S:I∈n.pv:=by rw [x];simp
 have Y:D∈n.pv:=by rw [x];simp
 have W:C∈n.pv:=by rw [x];simp
 have sub:∀a∈d.pv,a∈n.pv:=λa p=>by rw [x];simp [p]
 haveI nI:=t.rel.cY b.lo.1;haveI nD:=t.rel.cY b.lo.2.1;haveI X:=t.rel.cY b.lo.2.2;have L:∀a o,a≠I->a≠C->B.heap.get? a=some o->g.get? a=some o:=λa o e1 e2 e=>(H.2 a e2).trans (U a o e1 e);haveI Z:=be Q (fp H.1.symm);haveI M:Mv n B.heap (n.aA d.pv) g:=⟨λ_ e=>⟨e,rfl⟩,λa o e J _ _ _=>⟨L a o (λq=>J (q▸ .inr S)) (λq=>J (q▸ .inr W)) e,λq=>J (jt sub q)⟩,R.cE⟩;haveI Ra:=R.drop (l':=C::D::d.pv) S (λa p=>by rw [x];simp only [List.mem_cons] at p⊢;rcases p with h|h|h<;>simp [h]) (by simp only [List.mem_cons,not_or];exact ⟨u8 b.ne2,u8 b.ne1,nI⟩) U Q;haveI Rb:=Ra.drop (l':=d.pv) (I:=C) (h':=g) (by simp [G.aA]) (λa p=>by simp [G.aA,p]) X (λa o e1 e=>(H.2 a e1).trans e) (fp H.1.symm);haveI P:=c.ext;rw [b.wX] at P;haveI x2:=ga.back (h:=z.heap) P b.keeps b.size (λa p=>by simp only [List.mem_cons] at p;rcases p with h|h|h|h;exact .inr (h▸b.lo.2.2);exact .inr (h▸b.lo.2.1);exact .inr (h▸b.lo.1);exact .inl h) (λa p=>by simp [p]);haveI x3:ga (λa=>a=I\/a=D\/a=C) (n.aA d.pv) B.heap (n.aA d.pv) g:=ga.but (λa o O e=>L a o (λq=>O (.inl q)) (λq=>O (.inr (.inr q))) e) Z;haveI x4:=(x2.trans x3).young λa p=>by rcases p with h|h|h;exact h▸b.lo.1;exact h▸b.lo.2.1;exact h▸b.lo.2.2
 refine ⟨⟨Rb,x4,c.gens.trans b.gens,c.os.trans b.os⟩,λV=>VR.mv M V,λV=>br.mv M V,L D o b.ne1 (u8 b.ne3) ho,?_⟩;rintro (⟨l,q⟩|q);exact (R.aG D Y).1 l q;exact nD q
theorem Ci {a:List MV} (g:a[k]? =some x) (h:FF W (a.drop k) l):W x λy=>FF W (a.drop (k+1)) λd=>l (y::d):=by haveI c:=(BB.mp g);revert c;refine am λj e=>?_;rw [List.drop_eq_getElem_cons j,e] at h;exact h
theorem DJ (F:FR m w g h d k r) (p:dI d a x) (l:∀y,(y,NameKind.free)∈a.names->j.lookup y=d.cells.lookup y) (e:∀y c,(y,c)∈j->d.cells.lookup y=some c):∀(y z:Str) (c:Addr),(compEnvC a j C d).kindOf y=some .cell->(compEnvC a j C d).cells.lookup y=some c->(compEnvC a j C d).cells.lookup z=some c->y=z:=λy z c n e1 o=>by refine pt (λY Y Y q=>?_) (rR (C:=C) p l e);exact F.apart y z c (q y n) (e y c (hZ e1)) (e z c (hZ o))
def lW (We:MV->WE) (C:GH) (x:MV) (K:MV->Prop):Prop:=We x C (λy a=>a=C/\K y) λ_=>False
theorem RL {el iter:Expr} {pos:Pos} {We:MV->WE} (hh:A.handled=none) (hx:r[i]? =some x) (hi:i<ρ.length) (CK:dI p d x) (ar:∀y,(y,NameKind.free)∈d.names->cl.lookup y=p.cells.lookup y) (S:∀y c,(y,c)∈cl->p.cells.lookup y=some c) (b:gw j w M A p r ρ g av oD I D C m u gC sC) (bf:oD=Cn [] 0) (e:wE g.C m=some Q) (Y:Q.length<=1000) (a9:∀xv,ES j w M bm A (compEnvC d cl C p) r (ρ.set i (some xv)) el (We xv)) (hw:FF (lW We g.C) Q Qf) (a2:∀k F H t J O cnt,SO j w M A p r ρ (λa=>a=I\/a=D\/a=C) gC sC g.C m u I C k F H->(∀a o,a≠I->H.heap.get? a=some o->t.get? a=some o)->H.heap.objs.size<=t.objs.size->H.heap.get? D=some (Cn O cnt)->br j w F H.heap J O->Qf J->R (.ok .next) {H with heap:=t}):codeAny (model j w) A (.compLoop (.ListComp el [⟨.Name x px,iter,[],0⟩] d pos) 0 (.ref I) (.ref D) (compEnvC d cl C p)) R sC:=by
 refine codeAny_compLoop_list (λn H=>∃k F J O cnt,n+k=Q.length/\SO j w M A p r ρ (λa=>a=I\/a=D\/a=C) gC sC g.C m u I C k F H/\H.heap.get? D=some (Cn O cnt)/\br j w F H.heap J O/\J.length=k/\FF (lW We g.C) (Q.drop k) (λzs=>Qf (J++zs))) ?_ Q.length ⟨0,gC,[],[],0,rfl,b.st,bf▸b.hD,.nil,rfl,hw⟩;intro n H;refine rb λk F J O cnt=>dk λhn c ho Vy hl hq=>?_;have Z:=c.ext.pv.trans b.pv;have mI:I∈F.pv:=by rw [Z];simp
 have mD:D∈F.pv:=by rw [Z];simp
 have mC:C∈F.pv:=by rw [Z];simp
 by_cases hk:k<Q.length;have as:=GS hk;refine pt (λf1 f2 f3 f4=>?_) (rR (C:=C) CK ar S);refine yM (OE:=compEnvC d cl C p) c mI mC b.ne2 (.inl rfl) (.inr (.inr rfl)) e as f1 (by show (relabel d p).kind=_;exact CK.kind) rfl (Ψ:=λv bh=>_) (λv U bt a7 l W Vx kp=>?_) λv av h=>h;revert W;refine ac λmm W a8=>?_;haveI a3:=zB (OE:=compEnvC d cl C p) l.aO hx hi W a8 Vx (l.aO.rel.aG C mC).1 f1 f2 f3 (DJ l.aO.fr CK ar S) rfl;haveI q1:=Ci as hq;haveI bd:We Q[k] F.C (λy a0=>a0=g.C/\FF (lW We g.C) (Q.drop (k+1)) (λzs=>Qf (J++y::zs))) (λ_=>False):=by rw [l.gh];exact q1
 haveI V:=kp _ _ b.ne1 (u8 b.ne3) ho;haveI ai:br j w F U J O:=by haveI mv:Mv F H.heap F U:=⟨λ_ e=>⟨e,rfl⟩,λa o e hn _ _ _=>⟨kp a o (λq=>hn (q▸ .inr mI)) (λq=>hn (q▸ .inr mC)) e,hn⟩,c.aO.rel.cE⟩;exact br.mv mv Vy
 refine (a9 _).go a3 a7 bd (λv' a5 a4 mv T bi E ax L=>?_) λ_ _ ⟨_,_,_,q⟩=>q.elim;revert L;refine aa λeC L=>?_;have B:=l.eval mI mC T E eC;haveI P:=E.ext.pv;have X:=E.ext.aY _ _ mD (l.aO.rel.aG D mD).1 V id;haveI ab:=ai.post E l.aO.rel;haveI wl:=Vy.len;refine append_at X (λap sb ak=>?_) (by rw [KT,wl,hl];exact be (Co hk) (be Y (by decide)));have N:=P▸mD;have z:ap.get? D=some (Cn (O++[v']) (cnt+1)):=by rw [ak];simp
 haveI a6:=B.write (tk:=a5.toks) N (.inr (.inl rfl)) sb z Ah T (B.it.keeps λo e=>(sb.2 _ (u8 b.ne1)).trans e) (by refine am (λmm h=>?_) B.ns;exact ⟨mm,h.sameBut sb b.ne3⟩);refine ⟨n - 1,tK hn hk,k+1,a4,J++[mv],O++[v'],cnt+1,qu hn hk,a6,z,?_,by simp [hl],?_⟩;exact br.ext (ga.aZ sb) (dP N) B.aO.rel (ab.append (.one ax));simpa [List.append_assoc] using L;haveI a1:=kQ hk;have R:=c.aO.rel;refine uc (xs:=Q) hh R c.val (c.gh▸e) c.it a1 λt k1 hz=>?_;rw [List.drop_eq_nil_of_le a1] at hq;exact a2 k F H t J O cnt c k1 hz ho Vy (List.append_nil J▸(show Qf (J++[]) from hq))
theorem i4.drop (S:i4 B w E A H aj ρ g s) (U:I∈g.pv) (sub:∀a∈l',a∈g.pv) (hn:I∉l') (aW:H.locals≠I) (k:∀a o,a≠I->s.heap.get? a=some o->h'.get? a=some o) (hz:s.heap.objs.size<=h'.objs.size):i4 B w E A H aj ρ (g.aA l') {s with heap:=h',toks:=tk}:=by have R:=S.rel;have mv:=yU (h':=h') R U sub k;have P:∀{a:Addr},¬g.aK a->a≠I:=λhn q=>hn (q▸ .inr U);refine ⟨R.drop U sub hn k hz,?_,?_⟩;obtain ⟨⟨m,ab,hv⟩,N,hc,Z,ha,nd⟩:=S.fr;refine ⟨⟨m,ab.at' λo e=>k _ o aW e,λi y j e1 e2 e3=>?_⟩,N,λi y j e1 e2 e3=>?_,λy e=>?_,ha,nd⟩;refine ac (λv a b=>?_) (hv i y j e1 e2 e3);exact ⟨v,a,VR.mv mv b⟩;refine pi (λc v a b d=>?_) (hc i y j e1 e2 e3);haveI V:=P (R.cu b);revert b;refine ac λo Q hd=>?_;exact ⟨c,v,a,⟨o,k _ o V Q,hd⟩,VR.mv mv d⟩;refine tz (λc vo a b=>?_) (Z y e);haveI V:=P (R.cu b);revert b;refine ac λo Q hd=>?_;exact ⟨c,vo,a,⟨o,k _ o V Q,hd⟩⟩;refine pi (λe o' a b F=>?_) S.fs;refine ⟨e,o',a,b,λe' Y=>?_⟩;refine aa (λkd=>xw λL ob es ep hf=>pt λJ hc hd lo=>?_) (F e' Y);exact ⟨kd,L,ob,es,ep,hf,k L ob (P (R.mF J hc)) J,hc,hd,lo⟩
theorem uf {We:MV->WE} {Y:Value->Addr->Result->Shared->Prop} (hh:A.handled=none) (hx:n[i]? =some x) (hi:i<ρ.length) (CK:dI l g x) (ab:∀y,(y,NameKind.free)∈g.names->L.lookup y=l.cells.lookup y) (S:∀y c,(y,c)∈L->l.cells.lookup y=some c) (B:i4 j w v A l n ρ p d) (M:0<d.toks) (F:VR j w p d.heap m u) (e:wE p.C m=some xs) (J:xs.length<=1000) (ai:∀C xv,ES j w v ap A (compEnvC g L C l) n (ρ.set i (some xv)) el (We xv)) (hw:FF (lW We p.C) xs Qf) (N:∀I D C gC sC k g' H r Z X cnt,gw j w v A l n ρ p d (Cn [] 0) I D C m u gC sC->SO j w v A l n ρ (λa=>a=I\/a=D\/a=C) gC sC p.C m u I C k g' H->(∀a o,a≠I->H.heap.get? a=some o->r.get? a=some o)->H.heap.objs.size<=r.objs.size->H.heap.get? D=some (Cn X cnt)->br j w g' H.heap Z X->Qf Z->Y (.ref D) C (.ok .next) {H with heap:=r}):wpAny (model j w) A (pyIter u) (λit U=>wpAny (model j w) A (newList []) (λQ T=>wpAny (model j w) A (newFunctionEnv g l.globals L [] l.qual none .none (some l)) (λt W=>codeAny (model j w) A (.compStart (.ListComp el [⟨.Name x ar,iter,[],0⟩] g pos) 0 it Q {t with scope:=relabel g l}) (Y Q t.locals) W) E T) E U) E d:=by
 refine t9 B.rel F e λoI pI it ak=>?_;refine wpAny_newList ?_;haveI b:=AC (oI:=oI) (oD:=Cn [] 0) B M F pI Ah it ak rfl rfl;refine yo CK.pM λt z=>?_;haveI z1:(d.heap.push oI).objs.size=d.heap.objs.size+1:=DO ..;haveI z2:((d.heap.push oI).push (Cn [] 0)).objs.size=d.heap.objs.size+2:=by rw [DO,z1]
 haveI O:t.locals=d.heap.objs.size+2:=by have:=l9 Env.locals z;exact this.trans z2
 rw [z,O];haveI he:compEnvC g L ((d.heap.push oI).push (Cn [] 0)).objs.size l=compEnvC g L (d.heap.objs.size+2) l:=by rw [z2]
 show codeAny _ _ (.compStart _ 0 (.ref d.heap.objs.size) (.ref (d.heap.push oI).objs.size) (compEnvC g L ((d.heap.push oI).push (Cn [] 0)).objs.size l)) (Y (.ref (d.heap.push oI).objs.size) _) _;rw [he,z1];haveI P:=RL (px:=ar) (pos:=pos) (iter:=iter) (R:=Y (.ref (d.heap.objs.size+1)) (d.heap.objs.size+2)) hh hx hi CK ab S b rfl e J (ai _) hw (λk g' H r Z X cnt c k1 hz ho V q=>N _ _ _ _ _ k g' H r Z X cnt b c k1 hz ho V q);exact codeAny_compStart_list P (bx.Cd b.st.it P)
theorem ES.cg {We:MV->WE} (hh:A.handled=none) (hx:aj[i]? =some x) (hi:i<ρ.length) (CK:dI B scope x) (hs:∀x,foldedSetIterable iter B x=pure x) (hit:ES F w H J A B aj ρ iter Wi) (ap:∀cl C xv,ES F w H J A (compEnvC scope cl C B) aj (ρ.set i (some xv)) el (We xv)):ES F w H J A B aj ρ (.ListComp el [⟨.Name x px,iter,[],0⟩] scope pos) (λC Q X=>Wi C (λv j=>oP (wE j v) λxs=>xs.length<=1000/\FF (λx K=>We x j (λy ai=>ai=j/\K y) λ_=>False) xs λys=>Q (.lst ys) j) X):=λg s Q X S t hw=>by
 obtain ⟨cl,R,ak,Z⟩:=mL (ba:=B) (scope:=scope) λy hy hk=>by refine tz (λc Y e Y=>?_) (S.fr.cells y.1 (CK.free y hy hk));exact ⟨c,e⟩
 rw [eval_ListComp];refine wpAny_comprehension_free (use:=none) rfl hs R CK.kind CK.locals ?_;refine hit.go S t hw (λv ax N m U L ab V E=>?_) λ_ _ x=>x;refine nw (λxs e hb E=>?_) (s5 E);refine uf hh hx hi CK ak Z L U V e hb (ap cl) E λI D C gC sC k g' s' av ys ws cnt b c k1 hz ho Vy q=>?_;refine am (λmm ar=>?_) c.ns;refine ⟨mm,(ar.1.at' λo e=>k1 _ o b.ne2 e),λas sb=>?_⟩;refine gY (λP Y tr hD nD=>?_) (TV L b c k1 hz sb ho);exact ⟨_,.lst ys,ab.trans P,by exact ⟨D,cnt,ws,rfl,hD,nD,tr Vy⟩,by rw [show (g'.aA N.pv).C=N.C from c.gh];exact q⟩
structure FS (dL:Heap) (ba:Env):Prop extends YO ba where
 fr:ba.frame=some ba.locals
 cl:∀y c,ba.kindOf y=some .cell->ba.cells.lookup y=some c->dL.objs.size<=c
end
section
variable (ao:Program) (w:World) (dL:Heap)
structure Ev (ba:Env) (g:G) (s:Shared) (g':G) (s':Shared):Prop where
 rel:f8 ao w dL g' s'.heap
 ext:ga (MW ba) g s.heap g' s'.heap
 gens:s'.gens=s.gens
 os:s'.os=s.os
end
section
theorem sK.toF (P:sK j w y g s A B):Ev j w y E g s A B:=⟨P.rel,P.ext.mono λ_ h=>h.elim,P.gens,P.os⟩
theorem Ev.refl (R:f8 j w y g s.heap):Ev j w y A g s g s:=(sK.refl R).toF
theorem Ev.trans (x:Ev j w A B g s H I) (y:Ev j w A B H I E F):Ev j w A B g s E F:=⟨y.rel,x.ext.trans y.ext,y.gens.trans x.gens,y.os.trans x.os⟩
theorem i4.vp (FE:FS y E) (S:i4 J w y A E aj R g s):bA (MW E) g s.heap:=λa o q e=>by rcases q with q|t;refine pi (λj H Y b F=>?_) S.fs;refine aa (λY=>xw λL P Y Y N=>pt λI hc Y Y=>?_) (F j wS);rw [b,FE.fr] at N;obtain rfl:=an N;rw [q,I] at e;obtain rfl:=an e;exact .inl hc;revert t;refine ac λx hk hl=>?_;refine tz (λc Q B=>ac λP I hd=>?_) (S.fr.cells x (.inl hk));rw [hl] at B;obtain rfl:=an B;rw [I] at e;obtain rfl:=an e;exact .inr (.inl ⟨_,hd⟩)
theorem VR.jJ (FE:FS y B) (S:i4 j w y A B aj H g s) (P:Ev j w y B g s E F) (x:VR j w g s.heap m v):VR j w E F.heap m v:=VR.ext P.ext (S.vp FE) S.rel x
theorem br.jJ (FE:FS y B) (S:i4 j w y A B aj H g s) (P:Ev j w y B g s E F) (x:br j w g s.heap m v):br j w E F.heap m v:=br.ext P.ext (S.vp FE) S.rel x
theorem i4.locals (FE:FS j y) (S:i4 J w j A y aj U g s):∃o H E,s.heap.get? y.locals=some o/\o.cls= .type "frame" /\o.data= .dict H E/\j.objs.size<=y.locals:=by refine s3 λ_ P=>?_;refine pi (λB I Y b F=>?_) S.fs;refine aa (λY=>xw λL Q H E N=>pt λR hc hd lo=>?_) (F B wS);rw [b,FE.fr] at N;obtain rfl:=an N;refine P ?_;exact ⟨Q,H,E,R,hc,hd,lo⟩
theorem Ai (S:i4 j w d A m l r g s) (R:f8 j w d q n.heap) (F:FR j w q n.heap m l p) (k:Cf d s.heap (A.frames.getD [])->Cf d n.heap (A.frames.getD [])):i4 j w d A m l p q n:=by refine pi (λe o a b c=>?_) S.fs;have:=k (by rw [a];exact c);exact ⟨R,F,e,o,a,b,by rw [a] at this;exact this⟩
theorem i4.vU (FE:FS B j) (S:i4 y w B A j aj ρ g s) (hi:aj[i]? =some x) (hk:j.kindOf x=some .local\/j.kindOf x=some .cell) (hz:i<ρ.length) (V:VR y w g s.heap mv v) (t:0<s.toks) (k:∀s',(∃a,MW j a/\Heap.SameBut a s.heap s'.heap)->Ev y w B j g s g s'->i4 y w B A j aj (ρ.set i (some mv)) g s'->0<s'.toks->Q () s'):wpAny (model y w) A (storeName j x v) Q E s:=by
 haveI hS:=S.vp FE;refine l6 (λo es ep ak ai=>aa λa3 ap=>?_) (S.locals FE);rcases hk with hk|hk;refine ac (λm hn Y=>?_) (id S.fr.ns);refine rZ (c:= .type "frame") hk FE.kind ⟨hn,o,ak,ai⟩ λh' ab J=>?_;have Z:ga (λa=>a=j.locals) g s.heap g h':=ga.aZ J;have H:bA (λa=>a=j.locals) g s.heap:=λa o q e=>hS a o (.inl q) e;have nL:∀a,g.aK a->a≠j.locals:=λa q e=>S.rel.mF ak ai (e▸q);have R':=S.rel.same Z H (λa o q e=>(J.2 a (nL a q)).trans e) λa o e=>(J.2 a λq=>absurd (r8 e) (Da.mpr (q▸ap))).trans (S.rel.base a o e);refine k _ ⟨_,.inl rfl,J⟩ ⟨R',Z.mono λa q=> .inl q,rfl,rfl⟩ (Ai S R' (S.fr.Yd S.rel hi hk hz hn ab.1 Z H V) λF e he=>?_) (dF _);refine aa (λkd=>xw λL ob es ep hf=>pt λP hc hd lo=>?_) (F e he);by_cases hL:L=j.locals;subst hL;refine s3 λ_ kk=>?_;revert ab;refine aa (l6 λo' as ar I N Y=>ac λa2 U a0=>?_);rw [I] at U;obtain rfl:=an U;refine kk ?_;exact ⟨kd,_,o',as,ar,hf,I,a0,N,lo⟩;exact ⟨kd,L,ob,es,ep,hf,(J.2 L hL).trans P,hc,hd,lo⟩;refine tz (λc vo hl R=>?_) (S.fr.cells x (.inl hk));refine wpAny_storeName_cell FE.kind hk hl R λh' ax J=>?_;haveI Z:ga (λa=>a=c) g s.heap g h':=ga.aZ J;have H:bA (λa=>a=c) g s.heap:=λa o q e=>hS a o (.inr ⟨x,hk,q▸hl⟩) e;have av:=FE.cl x c hk hl;have R':=S.rel.same Z H (λa o q e=>(J.2 a λz=>S.rel.cu R (z▸q)).trans e) λa o e=>(J.2 a λq=>absurd (r8 e) (Da.mpr (q▸av))).trans (S.rel.base a o e);refine k _ ⟨_,.inr ⟨x,hk,hl⟩,J⟩ ⟨R',Z.mono λa q=> .inr ⟨x,hk,q▸hl⟩,rfl,rfl⟩ (Ai S R' (S.fr.M5 S.rel hi hk hz hl R ax Z H V) λF e he=>?_) t;refine aa (λkd=>xw λL ob es ep hf=>pt λP a1 hd lo=>?_) (F e he);have hL:L≠c:=λq=>by revert R;refine ac λo' I N=>?_;rw [<- q,P] at I;obtain rfl:=an I;rw [hd] at N;injection N
 exact ⟨kd,L,ob,es,ep,hf,(J.2 L hL).trans P,a1,hd,lo⟩
theorem i4.store (FE:FS B y) (S:i4 j w B A y aj H g s) (I:aj[i]? =some x) (hk:y.kindOf x=some .local\/y.kindOf x=some .cell) (hz:i<H.length) (V:VR j w g s.heap mv v) (t:0<s.toks) (k:∀F,Ev j w B y g s g F->i4 j w B A y aj (H.set i (some mv)) g F->0<F.toks->Q () F):wpAny (model j w) A (storeName y x v) Q E s:=S.vU FE I hk hz V t λF _=>k F
end
section
variable (ao:Program) (w:World) (dL:Heap) (A:Around) (ba:Env) (aj:List Str)
def SG (t:Expr) (W:ee->GH->MV->(ee->GH->Prop)->Prop):Prop:=∀e g s k v (Q:ee->GH->Prop) (j:Unit->Shared->Prop) (E:Value->Shared->Prop),i4 ao w dL A ba aj e g s->e.length=aj.length->0<s.toks->VR ao w g s.heap k v->W e g.C k Q->(∀c d a,Ev ao w dL ba g s d c->i4 ao w dL A ba aj a d c->a.length=aj.length->0<c.toks->Q a d.C->j () c)->wpAny (model ao w) A (assign t ba v) j E s
end
section
variable {K:Frag}
theorem wpAny_release (h:Q () s):wpAny M A (release c keep) Q E s:=λa p _=>by rw [Sem.wp_release];exact h
theorem SG.ae {x:Str} (FE:FS y j) (I:aj[i]? =some x) (hk:j.kindOf x=some .local\/j.kindOf x=some .cell):SG B w y A j aj (.Name x pos) (λF C v Q=>OP i v F Q C):=λF g s mv v Q L E S hl t V q k=>have q:=mP q;wpAny_assign_Name (S.store FE I hk q.1 V t λJ P H t'=>k J g _ P H (by rw [SZ];exact hl) t' q.2)
theorem SG.attr {W:ee->WE} (TK:GM B w K F T) (he:∀j,j.length=aj.length->ES B w F l8 A ab aj j e (W j)) (ha:a=wT f):SG B w F A ab aj (.Attribute e a pos) (λj C v Q=>W j C (λu L=>oO T u f v L (Q j)) λ_=>False):=λj g s mv v Q Φ E S hl t V q k=>by subst ha;rw [arm_assign_Attribute];refine ff (Mn ((he j hl).go S t q (λu ai ak m J y H N P=>?_) λ_ _ ⟨_,_,_,z⟩=>z.elim));refine ff (ci (ff (Mn (xe (ic J (YT (E:=E) TK y.rel N (V.post H S.rel) P)) (λ_ Y z=>?_) λ_ _ z=>z.2))));obtain ⟨Z,U,I,R⟩:=z;exact wpAny_release (k Y U j (H.trans I).toF (y.post I) hl Z R)
theorem SG.sub {i:Expr} {We Wi:ee->WE} (TK:GM B w K F T) (hu:A.units+2<cLine) (he:∀y,y.length=aj.length->ES B w F l8 A Y aj y e (We y)) (hi:∀y,y.length=aj.length->ES B w F l8 A Y aj y i (Wi y)):SG B w F A Y aj (.Subscript e i pos) (λy C v Q=>We y C (λu ab=>Wi y ab (λk ax=>gb u k v ax (Q y)) λ_=>False) λ_=>False):=λy g s mv v Q Φ E S hl t V q k=>by rw [arm_assign_Subscript];refine ff (Mn ((he y hl).go S t q (λu a4 a2 m P H N Z ai=>?_) λ_ _ ⟨_,_,_,z⟩=>z.elim));refine ff (Mn ((hi y hl).go H P ai (λj a3 a1 a0 U J I ak R=>?_) λ_ _ ⟨_,_,_,z⟩=>z.elim));refine ff (ci (ff (Mn (xe (ic U (Lq (E:=E) hu TK.lo J.rel (Z.post I H.rel) ak ((V.post N S.rel).post I H.rel) R)) (λ_ ar z=>?_) λ_ _ z=>z.2))));obtain ⟨as,ap,L,av⟩:=z;exact wpAny_release (k ar ap y (N.trans (I.trans L)).toF ((J.post L)) hl as av)
def bX (c:Program) (w:World) (d:Heap) (A:Around) (e:Env) (a:List Str) (ts:List Expr) (W:List MV->ee->GH->(ee->GH->Prop)->Prop):Prop:=∀n g s m p (Q:ee->GH->Prop) (o:Unit->Shared->Prop) (E:Value->Shared->Prop),i4 c w d A e a n g s->n.length=a.length->0<s.toks->br c w g s.heap m p->m.length=ts.length->W m n g.C Q->(∀k l j,Ev c w d e g s l k->i4 c w d A e a j l k->j.length=a.length->0<k.toks->Q j l.C->o () k)->wpAny (model c w) A (assignInOrder (ts.map λt=>assign t e) p) o E s
theorem bX.nil:bX y w B A H aj [] (λ_ j C Q=>Q j C):=λj g s F J Q I E S hl t V hm q k=>by have:F=[]:=List.length_eq_zero_iff.mp hm;subst this;obtain rfl:=V;exact i8 (k s g j (.refl S.rel) S hl t q)
theorem bX.cons {ts:List Expr} (FE:FS j y) (he:SG B w j A y aj e W) (hs:bX B w j A y aj ts Ws):bX B w j A y aj (e::ts) (λN ρ C Q=>match N with|v::vs=>W ρ C v λav C'=>Ws vs av C' Q| []=>False):=λρ g s N vs Q Φ E S hl t V hm q k=>by induction N using List.casesOn with|nil=>exact q.elim|cons m N=>revert V;refine pi λv r=>?_;rintro rfl V1 V2;show wpAny _ _ (do holding r (assign e y v);assignInOrder (ts.map λt=>assign t y) r) _ _ _;refine ff (Mn (he ρ g s m v _ _ E S hl t V1 q λar ak H F Y U J Z=>?_));exact hs H ak ar N r Q Φ E Y U J (V2.jJ FE S F) (by simpa using hm) Z λap ab I as ai P R L=>k ap ab I (F.trans as) ai P R L
theorem YY {j} (o:A.handled=none) (n:s.heap.IsTuple t items) (m:(assignEach a d).length=items.size) (c:(assignEach a d).findIdx? (·.1)=none) (h:∀g,Heap.ExtBut s.heap.objs.size s.heap g->s.heap.objs.size<=g.objs.size->wpAny (model e w) A (assignInOrder ((assignEach a d).map (·.2)) items.toList) Q E {s with heap:=g}):wpAny (model e w) A (assign (.Tuple a j pos) d (.ref t)) Q E s:=by rw [arm_assign_Tuple];refine ff (ci ?_);unfold unpack;rw [m,c];exact ff (Mn (Zp (wpAny_unpackItems_tuple o n λg l k=>h g l k)))
set_option tactic.hygienic true in theorem SG.tup {n:Nat} (hh:A.handled=none) (hn:ts.length=n) (Z:(assignEach ts j).map (·.2)=ts.map (λt=>assign t j)) (hf:(assignEach ts j).findIdx? (·.1)=none) (hs:bX B w F A j aj ts Ws):SG B w F A j aj (.Tuple ts k pos) (λρ C v Q=>match v with| .tup vs=>n=vs.length/\Ws vs ρ C Q|_=>False):=λρ g s mv v Q Φ E S hl t V q kk=>by
 subst hn;induction mv using MV.casesOn<;>try exact q.elim
 rename_i ms;revert q;refine aa λy q=>?_;revert V;refine rb λa cnt d sl ws=>pt ?_;rintro rfl ha Y Vs;haveI he:(assignEach ts j).length=ts.length:=by have:=l9 List.length Z;simpa using this
 refine YY hh ⟨_,ha,rfl,cnt,rfl⟩ (by rw [he,KT,Vs.len];exact y) hf λh' eb hz=>?_;have k1:∀a o,s.heap.get? a=some o->h'.get? a=some o:=λa o e=>eb a o (u4 (r8 e)) e;have P:sK B w F g s g {s with heap:=h'}:=⟨S.rel.grow k1 hz,ga.grow k1 hz,rfl,rfl⟩;rw [Z];exact hs ρ g _ ms ws Q Φ E (S.post P) hl t (Vs.post P S.rel) y.symm q λU N H ab R J L I=>kk U N H (P.toF.trans ab) R J L I
abbrev WS:=ee->GH->(ee->GH->Prop)->(MV->GH->Prop)->(GH->Prop)->Prop
end
section
variable (ao:Program) (w:World) (dL:Heap) (l8:Addr) (A:Around) (ba:Env) (aj:List Str)
inductive kj (g:G) (s:Shared) (N:ee->GH->Prop) (s':Shared):Prop|mk (g':G) (cQ:ee) (_:Ev ao w dL ba g s g' s') (_:i4 ao w dL A ba aj cQ g' s') (_:cQ.length=aj.length) (_:0<s'.toks) (_:N cQ g'.C)
inductive FG (g:G) (s:Shared) (R:MV->GH->Prop) (v:Value) (s':Shared):Prop|mk (g':G) (mv:MV) (_:Ev ao w dL ba g s g' s') (_:VR ao w g' s'.heap mv v) (_:R mv g'.C)
def cJ (g:G) (s:Shared) (N:ee->GH->Prop) (R:MV->GH->Prop) (f:Flow) (a:Shared):Prop:=match f with| .next=>kj ao w dL A ba aj g s N a| .ret v=>FG ao w dL ba g s R v a|_=>False
inductive dM (g:G) (s:Shared) (X:GH->Prop) (e:Value) (s':Shared):Prop|mk (g':G) (_:Ev ao w dL ba g s g' s') (_:Cf dL s'.heap (A.frames.getD [])) (_:dh l8 s.heap e s') (_:X g'.C)
def SS (st:Stmt) (W:WS):Prop:=∀a g s N R X,i4 ao w dL A ba aj a g s->a.length=aj.length->0<s.toks->W a g.C N R X->wpAny (model ao w) A (exec st ba) (cJ ao w dL A ba aj g s N R) (dM ao w dL l8 A ba g s X) s
def HT (a:List Stmt) (W:WS):Prop:=∀c g s N R X,i4 ao w dL A ba aj c g s->c.length=aj.length->0<s.toks->W c g.C N R X->wpAny (model ao w) A (execs a ba) (cJ ao w dL A ba aj g s N R) (dM ao w dL l8 A ba g s X) s
end
section
theorem kj.trans (P:Ev j w y F g s I J) (x:kj j w y A F aj I J N H):kj j w y A F aj g s N H:=let ⟨E,B,a,b1,b2,b3,b4⟩:=x;⟨E,B,P.trans a,b1,b2,b3,b4⟩
theorem cJ.trans {R:MV->GH->Prop} (P:Ev j w y E g s H I) (x:cJ j w y A E aj H I N R f F):cJ j w y A E aj g s N R f F:=by induction f using Flow.casesOn with|next=>exact kj.trans P x|ret v=>obtain ⟨B,mv,a,b,c⟩:=x;exact ⟨B,mv,P.trans a,b,c⟩|brk=>exact x|cont=>exact x
theorem dh.Jp (P:Ev j w B H g s S I) (L:i4 j w B A H aj ρ S I) (x:dh X I.heap e F):dh X s.heap e F:=by
 have old:∀a,I.heap.get? a=none->s.heap.get? a=none:=λa q=>by cases h:s.heap.get? a with|none=>rfl|some o=>obtain ⟨o',J⟩:=P.ext.alive P.rel (λa Q=>by rcases Q with rfl|t;refine ac (λY=>xy λo Y Y e Y Y=>?_) L.fr.ns;exact ⟨o,e⟩;revert t;refine ac λy hk hl=>?_;refine tz (λc vo E=>ac λo e Y=>?_) (L.fr.cells y (.inl hk));rw [hl] at E;obtain rfl:=an E;exact ⟨o,e⟩) h;rw [q] at J;injection J
 obtain ⟨ea,R,rfl,hn,h⟩:=x;refine ⟨ea,R,rfl,old _ hn,h.imp id λh=>?_⟩;obtain ⟨V,vs,T,oT,ts,a,b,c,d,f,N,r2,Z,U,r5⟩:=h;exact ⟨V,vs,T,oT,ts,a,b,c,d,old _ f,N,r2,Z,U,r5⟩
theorem dM.trans (P:Ev j w y B g s I J) (L:i4 j w y A B aj N I J) (x:dM j w y E A B I J X e H):dM j w y E A B g s X e H:=let ⟨F,a,f,b,c⟩:=x;⟨F,P.trans a,f,b.Jp P L,c⟩
theorem i4.fst (S:i4 y w j A B aj E g s):Cf j s.heap (A.frames.getD []):=by refine pi (λe o a Y c=>?_) S.fs;rw [a];exact c
theorem EU.toF (S:i4 j w y A F aj I g s) (x:EU j w y B g s X e H):dM j w y B A F g s X e H:=let ⟨E,a,b,c⟩:=x;⟨E,a.toF,S.fst.ext a.ext S.rel λ_ _ _ _ q=>q,b,c⟩
theorem HT.nil:HT y w B E A F aj [] (λj C N _ _=>N j C):=λj g s N R X S hl t q=>kY ⟨g,j,.refl S.rel,S,hl,t,q⟩
theorem HT.cons {st:Stmt} (h:SS E w F H A Y aj st W) (hs:HT E w F H A Y aj Z Ws):HT E w F H A Y aj (st::Z) (λρ C N R X=>W ρ C (λj I=>Ws j I N R X) R X):=λρ g s N R X S hl t q=>by refine jh (xe (h ρ g s _ R X S hl t q) (λf J x=>?_) λ_ _ x=>x);induction f using Flow.casesOn with|next=>obtain ⟨Q,j,B,y,V,L,P⟩:=x;exact xe (hs j Q J N R X y V L P) (λf U x=>x.trans B) λe U x=>x.trans B y|ret v=>exact x|brk=>exact x|cont=>exact x
theorem HT.one {st:Stmt} (h:SS j w y B A E aj st W):HT j w y B A E aj [st] W:=λH g s N R X S hl t q=>by refine jh (xe (h H g s N R X S hl t q) (λf F x=>?_) λ_ _ x=>x);induction f using Flow.casesOn with|next=>exact kY x|ret v=>exact x|brk=>exact x|cont=>exact x
theorem SS.bad {st:Stmt}:SS j w y B A E aj st (λ_ _ _ _ _=>False):=λF g s N R X S hl t q=>q.elim
abbrev SE (c:Program) (w:World) (d:Heap) (g:Addr) (A:Around) (k:Env) (a:List Str) (e:Expr) (W:ee->WE):Prop:=∀j,j.length=a.length->ES c w d g A k a j e (W j)
abbrev ST (c:Program) (w:World) (d:Heap) (g:Addr) (A:Around) (k:Env) (a:List Str) (e:Expr) (W:ee->GH->(Bool->GH->Prop)->(GH->Prop)->Prop):Prop:=∀j,j.length=a.length->ET c w d g A k a j e (W j)
theorem Ad (c:YO a):interactive a=false:=by unfold interactive;rw [c.kind];rfl
theorem qb {e:Expr} (h:jM e=true):swapsWith e t l a=pure false:=by induction e using Expr.casesOn<;>first|rfl|injection h
theorem SS.expr {e:Expr} (Y:YO Q) (hc:jM e=true) (he:SE B w F E A Q aj e W):SS B w F E A Q aj (.Expr e pos) (λL C N _ X=>W L C (λ_ H=>N L H) X):=λL g s N R X S hl t q=>wpAny_Expr_any ((he L hl).go S t q (λv U P m y j I V J=>⟨P,L,I.toF,j,hl,y,J⟩) λe Z x=>x.toF S) (Ad Y) (qb hc)
theorem SS.ret (he:SE j w y B A L aj e W):SS j w y B A L aj (.Return (some e) pos) (λJ C _ R X=>W J C R X):=λJ g s N R X S hl t q=>wpAny_Return_some ((he J hl).go S t q (λv U I m Q P E F H=>⟨I,m,E.toF,F,H⟩) λe V x=>x.toF S)
theorem SS.aB (hc:ST B w E F A V aj c Z) (ha:HT B w E F A V aj a Y) (hb:HT B w E F A V aj b Wb):SS B w E F A V aj (.If c a b pos) (λU C N R X=>Z U C (λr J=>if r then Y U J N R X else Wb U J N R X) X):=λU g s N R X S hl t q=>by refine wpAny_If ((hc U hl).go S t q (λr L Q I j y P=>?_) λe s' x=>x.toF S);induction r using Bool.casesOn with|true=>exact xe (ha U Q L N R X j hl I P) (λf H x=>x.trans y.toF) λe H x=>x.trans y.toF j|false=>exact xe (hb U Q L N R X j hl I P) (λf H x=>x.trans y.toF) λe H x=>x.trans y.toF j
theorem SS.assign {e:Expr} {We:ee->WE} (hc:jM e=true) (hw:swappedStores [tg] e j=pure none) (ar:(assignEach [tg] j).map (·.2)=[PySem.assign tg j]) (he:SE y w B H A j aj e We) (ht:SG y w B A j aj tg Wt):SS y w B H A j aj (.Assign [tg] e pos) (λρ C N _ X=>We ρ C (λv U=>Wt ρ U v N) X):=λρ g s N R X S hl t q=>by refine wpAny_Assign_stores ((he ρ hl).go S t q (λv ak ab m F P ai Q V=>?_) λe s' x=>x.toF S) (qb hc) hw;rw [ar];exact ht ρ ab ak m v N _ _ P hl F Q V λas Y E ap Z J L I=>⟨Y,E,ai.toF.trans ap,Z,J,L,I⟩
set_option tactic.hygienic true in theorem SS.dG {e:Expr} {We:ee->WE} {i:Nat} (FE:FS H B) (hh:A.handled=none) (hc:jM e=true) (hw:swappedStores [tg] e B=pure (some [x,y])) (hi:aj[i]? =some x) (hj:aj[j]? =some y) (a0:i≠j) (kx:B.kindOf x=some .local) (ky:B.kindOf y=some .local) (he:SE J w H V A B aj e We):SS J w H V A B aj (.Assign [tg] e pos) (λρ C N _ X=>We ρ C (λv ap=>match v with| .tup vs=>vs.length=[i,j].length/\(∀k∈[i,j],k<ρ.length)/\[i,j].Nodup/\N (gG [i,j] vs ρ) ap|_=>False) X):=λρ g s N R X S hl t q=>by
 rw [exec_Assign_arm];refine ff (ci ?_);show wpAny _ _ (swapsWith e (some tg) pos.line B>>=_) _ _ _;rw [qb hc];refine ff (i8 ?_);rw [al (by decide)];refine ff ((he ρ hl).go S t q (λv I L m U E av ak F=>?_) λe s' x=>x.toF S);rw [hw];refine ff (i8 ?_);induction m using MV.casesOn<;>try exact F.elim
 rename_i ms;refine s3 λ_ kk=>?_;revert F;refine pt λQ ab Y F=>?_;revert ak;refine rb λa cnt d sl ws=>pt ?_;rintro rfl ha Y Vs;obtain ⟨m1,m2,rfl⟩:∃m1 m2,ms=[m1,m2]:=by match ms,Q with| [a,b],_=>exact ⟨a,b,rfl⟩
 revert Vs;refine pi λv1 r1=>?_;rintro rfl V1;refine pi λv2 r2=>?_;rintro rfl V2 rfl;have li:=ab i (by simp);have lj:=ab j (by simp);refine kk ?_;refine ff (wpAny_rule ?_);refine ff (Zp (wpAny_unpackItems_tuple (items:=[v1,v2].toArray) hh ⟨_,ha,rfl,cnt,rfl⟩ λh' eb hz=>?_));have k1:∀a o,I.heap.get? a=some o->h'.get? a=some o:=λa o e=>eb a o (u4 (r8 e)) e;have P2:sK J w H L I L {I with heap:=h'}:=⟨E.rel.grow k1 hz,ga.grow k1 hz,rfl,rfl⟩;haveI S2:=E.post P2;refine ff (ff (Mn (wpAny_bindName (S2.store FE hj (.inl ky) lj (V2.post P2 E.rel) U λa1 P ax as=>?_))));refine (show wpAny _ _ (do holding [] (bindName B x v1);pure ()) _ _ _ from ff (Mn (wpAny_bindName (ax.store FE hi (.inl kx) (by rw [SZ];exact li) ((V1.post P2 E.rel).jJ FE S2 P) as λa2 Z ai ar=>i8 (i8 ?_)))));refine ⟨_,_,av.toF.trans (P2.toF.trans (P.trans Z)),ai,by rw [SZ,SZ];exact hl,ar,?_⟩;rw [List.set_comm _ _ (u8 a0)];exact F
theorem SS.aug {We:ee->WE} {p:Pos} (FE:FS y J) (hi:aj[i]? =some x) (kx:J.kindOf x=some .local) (he:SE E w y L A J aj e We):SS E w y L A J aj (.AugAssign (.Name x p) .Add e pos) (λρ C N _ X=>oP (slot ρ i) λu=>We ρ C (λv Q=>match u,v with| .int a,.int b=>OP i (.int (a+b)) ρ N Q|_,_=>False) X):=λρ g s N R X S hl t hw=>by refine ac (λu e' q=>?_) (s5 hw);haveI e':=AO e';refine ac (λm hn hv=>?_) S.fr.ns;refine ac (λu' hu V=>?_) (hv i x u hi e' kx);refine wpAny_AugAssign_Name (kX FE.kind kx hn hu ?_);refine (he ρ hl).go S t q (λv B H U ai F I P j=>?_) λe s' x=>x.toF S;haveI V':=V.post I S.rel;induction u using MV.casesOn with|int a=>(induction U using MV.casesOn with|int b=>revert V';refine am λta=>?_;rintro rfl;revert P;refine am λtb=>?_;rintro rfl;have j:=mP j;refine PySem.AutoIntOps.iadd_0 ?_;haveI P2:sK E w y H B H {B with toks:=B.toks+1}:= .toks F.rel;exact (F.post P2).store FE hi (.inl kx) j.1 (by exact ⟨_,rfl⟩) (dF _) λak Y ab Z=>⟨_,_,I.toF.trans (P2.toF.trans Y),ab,by rw [SZ];exact hl,Z,j.2⟩|_=>exact j.elim)|_=>exact j.elim
theorem SS.cG {pos:Pos} (hc:ST y w B J A Z aj c Wc) (hb:HT y w B J A Z aj b Wb):SS y w B J A Z aj (.While c b [] pos) (λρ C N R _=>wO (λn I Y C'=>Wc Y C' (λr Q=>if r then Wb Y Q (λai a5=>∃m,m<n/\I m ai a5) R (λ_=>False) else N Y Q) λ_=>False) ρ C):=λρ g s N R X S hl t q=>by obtain ⟨I,⟨n,q0⟩,hI⟩:=q;refine wpAny_While (codeAny_whileLoop (λn s'=>kj y w B A Z aj g s (I n) s') ?_ n ⟨g,ρ,.refl S.rel,S,hl,t,q0⟩);intro n a7 t;obtain ⟨av,j,F,ar,E,ak,as⟩:=t;refine (hc j E).go ar ak (hI n j av.C as) (λr a3 U P V H L=>?_) λ_ _ ⟨_,_,_,z⟩=>z.elim;induction r using Bool.casesOn with|false=>exact kY ⟨U,j,F.trans H.toF,V,E,P,L⟩|true=>refine xe (hb j U a3 _ R _ V E P L) (λf a6 x=>?_) λ_ _ ⟨_,_,_,_,z⟩=>z.elim;induction f using Flow.casesOn with|next=>refine s3 λ_ kk=>?_;obtain ⟨ax,ab,a0,a4,ap,a1,m,hm,a2⟩:=x;refine kk ?_;exact ⟨m,hm,ax,ab,F.trans (H.toF.trans a0),a4,ap,a1,a2⟩|ret v=>exact cJ.trans (F.trans H.toF) x|brk=>exact x.elim|cont=>exact x.elim
end
section
variable {K:Frag}
theorem Ma (F:i5 K c S) (C:A.handled=none) (h:wpAny (model k w) A x (λv a=>∃e t p,v= .ref e/\K.In a.heap/\a.heap.get? e=some (jT c t (some p))/\E (.ref e) a) E s):wpAny (model k w) A (raiseStmt u (some x) none) Q E s:=by
 refine rb (λH q N bs D=>rb λV sub R B O=>rb λP T U L J m=>?_) F.cls;haveI j:[Value.ref D,.type "Exception",.type "BaseException",.type "object"].contains (.type "BaseException")=true:=by rfl
 haveI n:(Value.ref c::[Value.ref D,.type "Exception",.type "BaseException",.type "object"]).contains (.type "BaseException")=true:=by rw [nH,j,Bool.or_true]
 unfold raiseStmt;refine ff (xe h (λv a l=>?_) λ_ _ x=>x);revert l;refine l6 λe t p=>?_;rintro rfl z;refine aa λr y=>?_;haveI o:=z _ _ m;obtain ⟨M,g,d,I,os⟩:=a;repeat (first|with_reducible refine hX r ?_|with_reducible refine hX o ?_| (with_reducible refine wpAny_isSubtype_exc o ?_;rw [n])|wp_step)
 exact wpAny_raiseNew_none C y
theorem SS.raise {We:ee->WE} (TK:GM E w K H T) (F:i5 K B fI) (EI:YO y) (a:NJ r A n) (hg:nsIn K mainGlobals x=some (some (.ref B))) (U:keepIn K (.ref B)=true) (hk:y.kindOf x=some .globalImplicit) (hd:(x==("__debug__" :Str))=false) (hs:aJ e=true) (he:SE E w H B A y aj e We):SS E w H B A y aj (.Raise (some (.Call (.Name x np) [e] [] j)) none pos) (λZ C _ _ X=>We Z C (λ_ I=>X I) X):=λZ g s N R X S hl t q=>by
 haveI L:[e].all aJ=true:=by simp [hs]
 rw [arm_exec_Raise];refine ff (ci ?_);show wpAny _ _ (raiseStmt y (some (do let v<- eval (.Call (.Name x np) [e] [] j) y;standAt pos;pure v)) none) _ _ _;refine Ma F a.handled (ff ?_);show wpAny _ _ (do callWith j (<- eval (.Name x np) y) [] (backTo j (starEach [e] y)) (backToKw j (keywordEach [] y))) _ _ _;refine ff (jQ (TK.cx.keeps S.rel.base) EI.kind EI.glob hk hd hg ?_);refine callWith_of (P:=K.In) (show ((backTo j (starEach [e] y)).any (·.1)||_)=false by rw [(cK L).1];rfl) (keeps_K U) (eH L ?_);refine (IF.cons hs (he Z hl) .nil) g s (λ_ I=>X I) X j S t q (λvs s' Y ms J t' Q P V q=>⟨TK.cx.X.keeps Q.rel.base,?_⟩) λ_ _ x=>x.toF S;refine am (λv=>?_) (List.length_eq_one_iff.mp J);rintro rfl;refine Zp (MF F TK.cx Q.rel.base (by have:=a.depth;rw [show recursionLimit=1000 from rfl];split at this<;>lia) λh' tk e t' dx k1 hn he hz=>?_);refine ff (ci (i8 ?_));have P2:sK E w H Y s' Y {s' with heap:=h',toks:=tk}:=⟨Q.rel.grow k1 hz,ga.grow k1 hz,rfl,rfl⟩;haveI S2:=Q.post P2;refine ⟨e,t',dx,rfl,TK.cx.X.keeps S2.rel.base,he,Y,(P.trans P2).toF,S2.fst,?_,q⟩;exact dh.qv P ⟨e,.ref t',rfl,hn,.inl ⟨_,_,he,rfl,rfl,rfl,rfl⟩⟩
end
section
theorem ga.wH (x:ga S g h B E) (F:∀a,S a->y a\/h.objs.size<=a):ga y g h B E:=by have A:∀{a o},h.get? a=some o->¬y a->¬S a:=λe hn q=>(F _ q).elim hn λq=>absurd (r8 e) (Da.mpr q);exact ⟨λa o e hn j=>x.keep a o e hn (A e j),x.af,x.new,x.size,x.pv,λa o hp hn e j=>x.aY a o hp hn e (A e j)⟩
theorem i4.uV (S:i4 E w F A B aj H g s) (h:MW B a):a<s.heap.objs.size:=by rcases h with rfl|t;refine ac (λY=>xy λo Y Y e Y Y=>?_) S.fr.ns;exact r8 e;revert t;refine ac λy hk hl=>?_;refine tz (λc I j=>ac λo e Y=>?_) (S.fr.cells y (.inl hk));rw [hl] at j;obtain rfl:=an j;exact r8 e
theorem zu {Q:Shared->Prop} (FE:FS p n) (av:j[iy]? =some y) (ky:n.kindOf y=some .local) (ak:iy<Z.length) (x:i4 g w p A n j Z d H) (b:gw g w p A n j Z d H oD I D C m u gC sC) (c:SO g w p A n j Z (λa=>a=I\/a=D\/a=C) gC sC a1 m u I C k t L) (k1:∀a o,a≠I->L.heap.get? a=some o->F.get? a=some o) (hz:L.heap.objs.size<=F.objs.size) (ho:L.heap.get? D=some o) (hV:∀gE h,Mv t L.heap gE h->h.get? D=some o->¬gE.aK D->VR g w gE h sk (.ref D)) (hQ:∀B gF,Ev g w p n d H gF B->i4 g w p A n j (Z.set iy (some sk)) gF B->0<B.toks->gF.C=t.C->Q B):wpAny (model g w) A (assign (.Name y py) n (.ref D)) (λ_ T=>∃m,T.heap.Ns C m/\∀a0,Heap.SameBut C T.heap a0->Q {T with heap:=a0}) E {L with heap:=F}:=by
 have R:=c.aO.rel;have M:=c.ext.pv.trans b.pv;have mI:I∈t.pv:=by rw [M];simp
 have mD:D∈t.pv:=by rw [M];simp
 have mC:C∈t.pv:=by rw [M];simp
 have nI:=x.rel.cY b.lo.1;have nD:=x.rel.cY b.lo.2.1;have nC:=x.rel.cY b.lo.2.2;have sub:∀a∈C::d.pv,a∈t.pv:=λa J=>by rw [M];rcases LB.mp J with h|h<;>simp [h]
 have ap:I∉C::d.pv:=by simp only [List.mem_cons,not_or];exact ⟨u8 b.ne2,nI⟩
 have Sa:i4 g w p A n j Z (t.aA (C::d.pv)) {L with heap:=F}:=c.aO.drop (tk:=L.toks) mI sub ap (c.lo I (.inl rfl)) k1 hz;have mv:Mv t L.heap (t.aA (C::d.pv)) F:=⟨λ_ e=>⟨e,rfl⟩,λa o e hn _ _ _=>⟨k1 a o (λq=>hn (q▸ .inr mI)) e,λq=>hn (jt sub q)⟩,R.cE⟩;have as:=k1 D o b.ne1 ho;have ai:¬(t.aA (C::d.pv)).aK D:=by rintro (⟨l,q⟩|q);exact (R.aG D mD).1 l q;refine to (LB.mp q) (λq=>?_) λq=>?_;exact b.ne3 q.symm;exact nD q
 have V:=hV _ _ mv as ai;refine am (λmm ax=>?_) c.ns;have Y:=ax.1.at' λo e=>k1 _ o b.ne2 e;have ar:¬MW n C:=λq=>absurd (x.uV q) (Da.mpr b.lo.2.2);refine wpAny_assign_Name (Sa.vU FE av (.inl ky) ak V c.toks λX ⟨a,J,v⟩ S W U=>?_);have ab:C≠a:=λq=>ar (q▸J);refine ⟨mm,Y.sameBut v ab,λO r=>?_⟩;have N:(t.aA (C::d.pv)).pv=C::d.pv:=rfl;have P:=W.drop (tk:=X.toks) (I:=C) (l':=d.pv) (h':=O) (by rw [N];simp) (λa J=>by rw [N];simp [J]) nC (c.lo C (.inr (.inr rfl))) (λa o e1 e=>(r.2 a e1).trans e) (fp r.1.symm);have x1:=c.ext;rw [b.wX] at x1;have x2:ga (λa=>a=I\/a=D\/a=C) d H.heap (t.aA d.pv) L.heap:=ga.back (h:=H.heap) x1 b.keeps b.size (λa J=>by simp only [List.mem_cons] at J;rcases J with h|h|h|h;exact .inr (h▸b.lo.2.2);exact .inr (h▸b.lo.2.1);exact .inr (h▸b.lo.1);exact .inl h) (λa J=>by simp [J]);have x3:ga (λz=>(z=I\/z=D\/z=C)\/MW n z) (t.aA d.pv) L.heap (t.aA d.pv) O:=ga.but (λz o hS e=>by have z1:z≠I:=λq=>hS (.inl (.inl q));have z2:z≠C:=λq=>hS (.inl (.inr (.inr q)));have z3:z≠a:=λq=>hS (.inr (q▸J));exact (r.2 z z2).trans ((v.2 z z3).trans (k1 z o z1 e))) (be hz (by rw [<- r.1.symm,<- v.1.symm];exact lv _));have x4:=((x2.mono λa q=> .inl q).trans x3).wH λa J=>by rcases J with (h|h|h)|h;exact .inr (h▸b.lo.1);exact .inr (h▸b.lo.2.1);exact .inr (h▸b.lo.2.2);exact .inl h
 exact hQ _ (t.aA d.pv) ⟨P.rel,x4,S.gens.trans (c.gens.trans b.gens),S.os.trans (c.os.trans b.os)⟩ P U rfl
theorem K3 {cnt:Nat} {Q:Shared->Prop} (FE:FS p v) (a7:n[iy]? =some y) (ky:v.kindOf y=some .local) (a0:iy<X.length) (L:i4 g w p A v n X d H) (b:gw g w p A v n X d H oD I D C m u gC sC) (c:SO g w p A v n X (λa=>a=I\/a=D\/a=C) gC sC bd m u I C k F O) (k1:∀a o,a≠I->O.heap.get? a=some o->j.get? a=some o) (hz:O.heap.objs.size<=j.objs.size) (ho:O.heap.get? D=some (Cn ws cnt)) (Vy:br g w F O.heap P ws) (hl:F.C l=none) (hQ:∀M gF,Ev g w p v d H gF M->i4 g w p A v n (X.set iy (some (.af l))) gF M->0<M.toks->gF.C=up F.C l (.list P)->Q M):wpAny (model g w) A (assign (.Name y py) v (.ref D)) (λ_ W=>∃m,W.heap.Ns C m/\∀a9,Heap.SameBut C W.heap a9->Q {W with heap:=a9}) E {O with heap:=j}:=by
 have R:=c.aO.rel;have ab:=c.ext.pv.trans b.pv;have mI:I∈F.pv:=by rw [ab];simp
 have nI:=L.rel.cY b.lo.1;have nD:=L.rel.cY b.lo.2.1;have nC:=L.rel.cY b.lo.2.2;have sub:∀a∈D::C::d.pv,a∈F.pv:=λa N=>by rw [ab];rcases LB.mp N with h|h;simp [h];rcases LB.mp h with h|h<;>simp [h]
 have a1:I∉D::C::d.pv:=by simp only [List.mem_cons,not_or];exact ⟨u8 b.ne1,u8 b.ne2,nI⟩
 have Sb:i4 g w p A v n X (F.aA (D::C::d.pv)) {O with heap:=j}:=c.aO.drop (tk:=O.toks) mI sub a1 (c.lo I (.inl rfl)) k1 hz;have mv:Mv F O.heap (F.aA (D::C::d.pv)) j:=⟨λ_ e=>⟨e,rfl⟩,λa o e hn _ _ _=>⟨k1 a o (λq=>hn (q▸ .inr mI)) e,λq=>hn (jt sub q)⟩,R.cE⟩;have a4:=k1 D _ b.ne1 ho;have a2:=br.mv mv Vy;have as:=hl;have a6:D∉C::d.pv:=by simp only [List.mem_cons,not_or];exact ⟨u8 b.ne3,nD⟩
 have ak:Mv (F.aA (D::C::d.pv)) j (((F.aA (D::C::d.pv)).aA (C::d.pv)).add l (.list P) D D) j:=rX Sb.rel rfl as (Heap.SameBut.refl ..);refine aa (λRa Y=>?_) (Sb.rel.adopt (l:=l) (ov:= .list P) (l':=C::d.pv) (h':=j) rfl as a6 (Heap.SameBut.refl ..) (lv _) ⟨by rw [G.bc,G.gU],cnt,ws,by rw [G.bc];exact a4,br.mv ak a2⟩);have a5:=c.lo D (.inr (.inl rfl));have Sa:i4 g w p A v n X (((F.aA (D::C::d.pv)).aA (C::d.pv)).add l (.list P) D D) {O with heap:=j}:=⟨Ra,Sb.fr.mv ak (λ_ _ e=>e) (λx q=>by refine to (G.dY q) (λt=>?_) λt=>?_;revert t;refine aa λY r=>?_;exact a5 (by rcases r with r|r<;>exact r);revert t;refine aa λY r=>?_;exact Sb.fr.own x r),Sb.fs⟩;have V:VR g w (((F.aA (D::C::d.pv)).aA (C::d.pv)).add l (.list P) D D) j (.af l) (.ref D):=by exact ⟨by rw [G.bc],by rw [G.kI,bM];rfl⟩
 refine am (λmm a8=>?_) c.ns;have ar:=a8.1.at' λo e=>k1 _ o b.ne2 e;have a3:¬MW v C:=λq=>absurd (L.uV q) (Da.mpr b.lo.2.2);refine wpAny_assign_Name (Sa.vU FE a7 (.inl ky) a0 V c.toks λap ⟨a,N,J⟩ U ai Z=>?_);have av:C≠a:=λq=>a3 (q▸N);refine ⟨mm,ar.sameBut J av,λS B=>?_⟩;have T:=ai.drop (tk:=ap.toks) (I:=C) (l':=d.pv) (h':=S) (by show C∈C::d.pv;simp) (λa N=>by show a∈C::d.pv;simp [N]) nC (c.lo C (.inr (.inr rfl))) (λa o e1 e=>(B.2 a e1).trans e) (fp B.1.symm);have x1:=c.ext;rw [b.wX] at x1;have x2:ga (λa=>a=I\/a=D\/a=C) d H.heap (F.aA d.pv) O.heap:=ga.back (h:=H.heap) x1 b.keeps b.size (λa N=>by simp only [List.mem_cons] at N;rcases N with h|h|h|h;exact .inr (h▸b.lo.2.2);exact .inr (h▸b.lo.2.1);exact .inr (h▸b.lo.1);exact .inl h) (λa N=>by simp [N]);have ax:ga (λa=>a=I\/a=D\/a=C) d H.heap ((F.aA d.pv).add l (.list P) D D) O.heap:=x2.adopt hl b.lo.2.1 (Heap.SameBut.refl ..);have x3:ga (λz=>(z=I\/z=D\/z=C)\/MW v z) ((F.aA d.pv).add l (.list P) D D) O.heap ((F.aA d.pv).add l (.list P) D D) S:=ga.but (λz o hS e=>by have z1:z≠I:=λq=>hS (.inl (.inl q));have z2:z≠C:=λq=>hS (.inl (.inr (.inr q)));have z3:z≠a:=λq=>hS (.inr (q▸N));exact (B.2 z z2).trans ((J.2 z z3).trans (k1 z o z1 e))) (be hz (by rw [<- B.1.symm,<- J.1.symm];exact lv _));have x4:=((ax.mono λa q=> .inl q).trans x3).wH λa N=>by rcases N with (h|h|h)|h;exact .inr (h▸b.lo.1);exact .inr (h▸b.lo.2.1);exact .inr (h▸b.lo.2.2);exact .inl h
 exact hQ _ ((F.aA d.pv).add l (.list P) D D) ⟨T.rel,x4,U.gens.trans (c.gens.trans b.gens),U.os.trans (c.os.trans b.os)⟩ T Z rfl
theorem SS.NC {We:ee->MV->WE} (FE:FS B j) (hh:A.handled=none) (hx:aj[i]? =some x) (CK:dI j scope x) (hs:∀x,foldedSetIterable iter j x=pure x) (a2:swapsWith (.ListComp el [⟨.Name x px,iter,[],0⟩] scope pos) (some (.Name y py)) ak.line j=pure true) (a4:aj[iy]? =some y) (ky:j.kindOf y=some .local) (hit:SE F w B U A j aj iter Wi) (a3:∀J,J.length=aj.length->∀cl C xv,ES F w B U A (compEnvC scope cl C j) aj (J.set i (some xv)) el (We J xv)):SS F w B U A j aj (.Assign [.Name y py] (.ListComp el [⟨.Name x px,iter,[],0⟩] scope pos) ak) (λJ C N _ X=>Wi J C (λv E=>oP (wE E v) λxs=>xs.length<=1000/\FF (λx K=>We J x E (λy L=>L=E/\K y) λ_=>False) xs λys=>dm E (.list ys) λl L=>OP iy (.af l) J N L) X):=λJ g s N R X S hl t hw=>by
 have hi:i<J.length:=by rw [hl];exact (BB.mp hx).1
 obtain ⟨cl,Z,a0,ar⟩:=mL (ba:=j) (scope:=scope) λy hy hk=>by refine tz (λc Y e Y=>?_) (S.fr.cells y.1 (CK.free y hy hk));exact ⟨c,e⟩
 rw [exec_Assign_Name_used _ _ _ _ a2];refine ff (ci (ff ?_));show wpAny _ A (do let _<- comprehension (.ListComp el [⟨.Name x px,iter,[],0⟩] scope pos) scope j _ (newList []) false (eval iter j) (some (PySem.assign (.Name y py) j))) _ _ s;refine ff (xe (wpAny_comprehension_free (use:=some (PySem.assign (.Name y py) j)) (Q:=λ_ s'=>cJ F w B A j aj g s N R .next s') rfl hs Z CK.kind CK.locals ?_) (λ_ s' hq=>i8 (i8 hq)) λ_ _ e=>e);refine (hit J hl).go S t hw (λv a8 a5 m ai V av ap H=>?_) λ_ _ x=>x.toF S;refine nw (λxs e hb H=>?_) (s5 H);refine uf hh hx hi CK a0 ar V ai ap e hb (a3 J hl cl) H λI D C gC sC k g' s' a7 ys ws cnt b c k1 hz ho Vy q=>?_;obtain ⟨l,a1,q⟩:=q;refine aa (λab q=>?_) (mP q);refine K3 FE a4 ky ab V b c k1 hz ho Vy (l:=l) (by rw [c.gh];exact a1) λa6 gF P ax as eC=>?_;exact ⟨gF,_,av.toF.trans P,ax,by rw [SZ];exact hl,as,by rw [eC,c.gh];exact q⟩
theorem SS.HI {We:ee->MV->WE} (FE:FS B j) (hh:A.handled=none) (hx:aj[i]? =some x) (CK:dI j scope x) (hs:∀x,foldedSetIterable iter j x=pure x) (a0:swapsWith (.ListComp el [⟨.Name x px,iter,[],0⟩] scope pos) (some (.Name y py)) ab.line j=pure true) (a2:aj[iy]? =some y) (ky:j.kindOf y=some .local) (hit:SE F w B L A j aj iter Wi) (a1:∀J,J.length=aj.length->∀cl C xv,ES F w B L A (compEnvC scope cl C j) aj (J.set i (some xv)) el (We J xv)):SS F w B L A j aj (.Assign [.Name y py] (.ListComp el [⟨.Name x px,iter,[],0⟩] scope pos) ab) (λJ C N _ X=>Wi J C (λv E=>oP (wE E v) λxs=>xs.length<=1000/\FF (λx K=>We J x E (λy av=>av=E/\K y) λ_=>False) xs λys=>OP iy (.lst ys) J N E) X):=λJ g s N R X S hl t hw=>by
 have hi:i<J.length:=by rw [hl];exact (BB.mp hx).1
 obtain ⟨cl,V,ax,ak⟩:=mL (ba:=j) (scope:=scope) λy hy hk=>by refine tz (λc Y e Y=>?_) (S.fr.cells y.1 (CK.free y hy hk));exact ⟨c,e⟩
 rw [exec_Assign_Name_used _ _ _ _ a0];refine ff (ci (ff ?_));show wpAny _ A (do let _<- comprehension (.ListComp el [⟨.Name x px,iter,[],0⟩] scope pos) scope j _ (newList []) false (eval iter j) (some (PySem.assign (.Name y py) j))) _ _ s;refine ff (xe (wpAny_comprehension_free (use:=some (PySem.assign (.Name y py) j)) (Q:=λ_ s'=>cJ F w B A j aj g s N R .next s') rfl hs V CK.kind CK.locals ?_) (λ_ s' hq=>i8 (i8 hq)) λ_ _ e=>e);refine (hit J hl).go S t hw (λv a6 a3 m Z U ar ai H=>?_) λ_ _ x=>x.toF S;refine nw (λxs e hb H=>?_) (s5 H);refine uf hh hx hi CK ax ak U Z ai e hb (a1 J hl cl) H λI D C gC sC k g' s' a5 ys ws cnt b c k1 hz ho Vy q=>?_;have q:=mP q;refine zu FE a2 ky q.1 U b c k1 hz ho (sk:= .lst ys) (λgE h mv hD nD=>by exact ⟨D,cnt,ws,rfl,hD,nD,br.mv mv Vy⟩) λa4 gF P as ap eC=>?_;exact ⟨gF,_,ar.toF.trans P,as,by rw [SZ];exact hl,ap,by rw [eC,c.gh];exact q.2⟩
theorem Bb {d j:Type} [DecidableEq d] (k:d) (v:j) c a:(pb k v c a).1.length<=c.length+1:=by induction c generalizing a with|nil=>exact lv _|cons x l g=>induction a using List.casesOn with|nil=>exact e7 1 _|cons u a=>by_cases e:x=k;rw [fb e];exact s4 _;rw [dv e];exact Pe (g a)
def G2:MV->Prop| .int _=>True|_=>False
def dK (d:MV->WE) (C:GH) (x:MV) (K:MV->Prop) (u:MV) (c:GH):Prop:=c=C/\G2 u/\d x C (λy a=>a=C/\K (.tup [u,y])) λ_=>False
def dW (a c:MV->WE) (C:GH) (x:MV) (K:MV->Prop):Prop:=a x C (dK c C x K) λ_=>False
set_option tactic.hygienic true in theorem Iz {iter:Expr} {x:Str} (hh:A.handled=none) (hx:z[i]? =some x) (hi:i<ρ.length) (CK:dI p g x) (bh:∀y,(y,NameKind.free)∈g.names->cl.lookup y=p.cells.lookup y) (ai:∀y c,(y,c)∈cl->p.cells.lookup y=some c) (b:gw d w M A p z ρ l bm oD I D C m u gC sC) (c3:sC.heap.DictOf (PySem.intKind d w) D []) (e:wE l.C m=some Q) (a7:Q.length<=1000) (hk:∀xv,ES d w M cd A (compEnvC g cl C p) z (ρ.set i (some xv)) kx (Wk xv)) (hv:∀xv,ES d w M cd A (compEnvC g cl C p) z (ρ.set i (some xv)) vx (Wv xv)) (hw:FF (dW Wk Wv l.C) Q Qf) (cn:∀k N P F t j,SO d w M A p z ρ (λa=>a=I\/a=D\/a=C) gC sC l.C m u I C k N P->(∀a o,a≠I->P.heap.get? a=some o->F.get? a=some o)->P.heap.objs.size<=F.objs.size->P.heap.DictOf (PySem.intKind d w) D j->j.map (·.1)=(t.foldl Uf ([],[])).1->br d w N P.heap (t.foldl Uf ([],[])).2 (j.map (·.2))->Qf t->R (.ok .next) {P with heap:=F}):codeAny (model d w) A (.compLoop (.DictComp kx vx [⟨.Name x px,iter,[],0⟩] g pos) 0 (.ref I) (.ref D) (compEnvC g cl C p)) R sC:=by
 refine codeAny_compLoop_testsD (λn P=>∃k N t j,n+k=Q.length/\SO d w M A p z ρ (λa=>a=I\/a=D\/a=C) gC sC l.C m u I C k N P/\P.heap.DictOf (PySem.intKind d w) D j/\j.map (·.1)=(t.foldl Uf ([],[])).1/\br d w N P.heap (t.foldl Uf ([],[])).2 (j.map (·.2))/\j.length<=k/\FF (dW Wk Wv l.C) (Q.drop k) (λzs=>Qf (t++zs))) ?_ Q.length ⟨0,gC,[],[],rfl,b.st,c3,rfl,.nil,lv _,hw⟩;intro n P;refine xw λk N t j hn=>dk λc ho a5 Vy hl hq=>?_;have a8:=c.ext.pv.trans b.pv;have mI:I∈N.pv:=by rw [a8];simp
 have mD:D∈N.pv:=by rw [a8];simp
 have mC:C∈N.pv:=by rw [a8];simp
 by_cases S:k<Q.length;have bi:=GS S;refine pt (λf1 f2 f3 f4=>?_) (rR (C:=C) CK bh ai);refine yM (OE:=compEnvC g cl C p) c mI mC b.ne2 (.inl rfl) (.inr (.inr rfl)) e bi f1 (by show (relabel g p).kind=_;exact CK.kind) rfl (Ψ:=λv c5=>_) (λv X db cD B a2 Vx kp=>?_) λv bm h=>h;revert a2;refine ac λmm a2 c0=>?_;have cr:=zB (OE:=compEnvC g cl C p) B.aO hx hi a2 c0 Vx (B.aO.rel.aG C mC).1 f1 f2 f3 (DJ B.aO.fr CK bh ai) rfl;have q1:=Ci bi hq;have c2:Wk Q[k] N.C (dK Wv l.C Q[k] λy=>FF (dW Wk Wv l.C) (Q.drop (k+1)) λzs=>Qf (t++y::zs)) (λ_=>False):=B.gh.symm▸q1;have ar:X.DictOf (PySem.intKind d w) D j:=by revert ho;refine xy λo es ep e' r=>?_;exact ⟨o,es,ep,kp _ _ b.ne1 (u8 b.ne3) e',r⟩
 have bd:br d w N X (t.foldl Uf ([],[])).2 (j.map (·.2)):=by have mv:Mv N P.heap N X:=⟨λ_ e=>⟨e,rfl⟩,λa o e hn _ _ _=>⟨kp a o (λq=>hn (q▸ .inr mI)) (λq=>hn (q▸ .inr mC)) e,hn⟩,c.aO.rel.cE⟩;exact br.mv mv Vy
 refine wpAny_tests_nil ?_;show wpAny _ _ _ _ _ _;refine (hk _).go cr cD c2 (λkv cx cv mk ak cc L bt T=>?_) λ_ _ ⟨_,_,_,q⟩=>q.elim;revert T;refine im λeC hint T=>?_;have U:=B.eval mI mC ak L eC;have E:=L.ext.pv;have H:=E▸mD;have a6:cx.heap.DictOf (PySem.intKind d w) D j:=by revert ar;refine xy λo es ep e' r=>?_;exact ⟨o,es,ep,L.ext.aY _ _ mD (B.aO.rel.aG D mD).1 e' id,r⟩
 have a9:=bd.post L B.aO.rel;have a1:Wv Q[k] cv.C (λy bv=>bv=l.C/\FF (dW Wk Wv l.C) (Q.drop (k+1)) λzs=>Qf (t++MV.tup [mk,y]::zs)) (λ_=>False):=eC.symm▸T;refine (hv _).go cc ak a1 (λvv ap ca mv bB c6 J cs V=>?_) λ_ _ ⟨_,_,_,q⟩=>q.elim;revert V;refine aa λa3 V=>?_;have a4:=E▸mI;have av:=E▸mC;have O:=U.eval a4 av bB J a3;have ab:=J.ext.pv;have W:=ab▸H;have Z:ap.heap.DictOf (PySem.intKind d w) D j:=by revert a6;refine xy λo es ep e' r=>?_;exact ⟨o,es,ep,J.ext.aY _ _ H (U.aO.rel.aG D H).1 e' id,r⟩
 have ax:=a9.post J U.aO.rel;induction mk using MV.casesOn<;>try exact hint.elim
 rename_i ki;revert bt;refine am λda=>?_;rintro rfl;refine wpAny_dictSet_pairs (knd:=PySem.intKind d w) (k:=ki) (by simp [PySem.intKind,Value.isInt]) Z (λc7 hd sb=>?_) (be hl (be (Co S) (be a7 (by decide))));refine s3 λ_ kk=>?_;refine l6 (λc8 c4 c1 ch as=>aa λa0 Y=>?_) (id hd);have bf:=O.write (tk:=ap.toks+1) W (.inr (.inl rfl)) sb ch (Dq as.1 a0) (dF _) (O.it.keeps λo e=>(sb.2 _ (u8 b.ne1)).trans e) (by refine am (λmm h=>?_) O.ns;exact ⟨mm,h.sameBut sb b.ne3⟩);have nd:(j.map (·.1)).Nodup:=by revert Z;refine l6 λY Y Y Y Y=>pt λY Y Y nd=>?_;exact nd
 refine aa (λd1 d2=>?_) (BF (k:=ki) cs a5 nd ax);have hf:(t++[MV.tup [.int ki,mv]]).foldl Uf ([],[])=pb ki mv (t.foldl Uf ([],[])).1 (t.foldl Uf ([],[])).2:=by rw [List.foldl_append];rfl
 refine kk ?_;refine ⟨n - 1,tK hn S,k+1,ca,t++[MV.tup [.int ki,mv]],_,qu hn S,bf,hd,by rw [hf];exact d1,?_,?_,?_⟩;rw [hf];exact br.ext (ga.aZ sb) (dP W) O.aO.rel d2;have e1:(stored j ki vv).length=((pb ki mv (t.foldl Uf ([],[])).1 (t.foldl Uf ([],[])).2).1).length:=by rw [<- d1];simp
 have e2:=Bb ki mv (t.foldl Uf ([],[])).1 (t.foldl Uf ([],[])).2;have e3:j.length=(t.foldl Uf ([],[])).1.length:=by rw [<- a5];simp
 exact X8 hl e1 e2 e3;simpa [List.append_assoc] using V;have cm:=kQ S;have R:=c.aO.rel;refine uc (xs:=Q) hh R c.val (c.gh▸e) c.it cm λF k1 hz=>?_;rw [List.drop_eq_nil_of_le cm] at hq;exact cn k N P F t j c k1 hz ho a5 Vy (List.append_nil t▸(show Qf (t++[]) from hq))
end
section
variable {K:Frag}
theorem Yk {RR:Value->Addr->Result->Shared->Prop} (hh:A.handled=none) (hx:n[i]? =some x) (hi:i<ρ.length) (CK:dI l j x) (ai:∀y,(y,NameKind.free)∈j.names->L.lookup y=l.cells.lookup y) (X:∀y c,(y,c)∈L->l.cells.lookup y=some c) (F:i4 g w t A l n ρ p d) (N:0<d.toks) (H:VR g w p d.heap m u) (e:wE p.C m=some xs) (M:xs.length<=1000) (hk:∀C S,ES g w t O A (compEnvC j L C l) n (ρ.set i (some S)) kx (Wk S)) (hv:∀C S,ES g w t O A (compEnvC j L C l) n (ρ.set i (some S)) vx (Wv S)) (hw:FF (dW Wk Wv p.C) xs Qf) (P:∀I D C av gC sC k g' J r Q B,gw g w t A l n ρ p d av I D C m u gC sC->SO g w t A l n ρ (λa=>a=I\/a=D\/a=C) gC sC p.C m u I C k g' J->(∀a o,a≠I->J.heap.get? a=some o->r.get? a=some o)->J.heap.objs.size<=r.objs.size->J.heap.DictOf (PySem.intKind g w) D B->B.map (·.1)=(Q.foldl Uf ([],[])).1->br g w g' J.heap (Q.foldl Uf ([],[])).2 (B.map (·.2))->Qf Q->RR (.ref D) C (.ok .next) {J with heap:=r}):wpAny (model g w) A (pyIter u) (λit Z=>wpAny (model g w) A newDict (λW Y=>wpAny (model g w) A (newFunctionEnv j l.globals L [] l.qual none .none (some l)) (λv ab=>codeAny (model g w) A (.compStart (.DictComp kx vx [⟨.Name x as,iter,[],0⟩] j pos) 0 it W {v with scope:=relabel j l}) (RR W v.locals) ab) E Y) E Z) E d:=by
 refine t9 F.rel H e λoI pI it ar=>?_;refine wpAny_newObj_type ?_;haveI b:=AC (oI:=oI) (oD:={cls:= .type "dict",data:= .dict #[]}) F N H pI t7 it ar rfl rfl;refine yo CK.pM λv z=>?_;haveI z1:(d.heap.push oI).objs.size=d.heap.objs.size+1:=DO ..;haveI z2:((d.heap.push oI).push {cls:= .type "dict",data:= .dict #[]}).objs.size=d.heap.objs.size+2:=by rw [DO,z1]
 haveI U:v.locals=d.heap.objs.size+2:=by have:=l9 Env.locals z;exact this.trans z2
 rw [z,U];haveI he:compEnvC j L ((d.heap.push oI).push {cls:= .type "dict",data:= .dict #[]}).objs.size l=compEnvC j L (d.heap.objs.size+2) l:=by rw [z2]
 show codeAny _ _ (.compStart _ 0 (.ref d.heap.objs.size) (.ref (d.heap.push oI).objs.size) (compEnvC j L ((d.heap.push oI).push {cls:= .type "dict",data:= .dict #[]}).objs.size l)) (RR (.ref (d.heap.push oI).objs.size) _) _;rw [he,z1];haveI ak:(((d.heap.push oI).push {cls:= .type "dict",data:= .dict #[]}).push {cls:= .type "dict",data:= .dict #[]}).DictOf (PySem.intKind g w) (d.heap.objs.size+1) []:=by have:=Heap.DictOf.push (knd:=PySem.intKind g w) (Heap.DictOf.new (knd:=PySem.intKind g w) (d.heap.push oI)) {cls:= .type "dict",data:= .dict #[]};rw [z1] at this;exact this
 haveI T:=Iz (px:=as) (pos:=pos) (iter:=iter) (R:=RR (.ref (d.heap.objs.size+1)) (d.heap.objs.size+2)) hh hx hi CK ai X b ak e M (hk _) (hv _) hw (λk g' J r Q B c k1 hz ho ap V q=>P _ _ _ _ _ _ k g' J r Q B b c k1 hz ho ap V q);exact codeAny_compStart_dict T (bx.Cd b.st.it T)
theorem SS.Kl {Wk Wv:ee->MV->WE} (TK:GM F w K B T) (FE:FS B j) (hh:A.handled=none) (hx:aj[i]? =some x) (CK:dI j scope x) (hs:∀x,foldedSetIterable iter j x=pure x) (a2:swapsWith (.DictComp kx vx [⟨.Name x px,iter,[],0⟩] scope pos) (some (.Name y py)) ab.line j=pure true) (a4:aj[iy]? =some y) (ky:j.kindOf y=some .local) (hit:SE F w B J A j aj iter Wi) (hk:∀H,H.length=aj.length->∀cl C xv,ES F w B J A (compEnvC scope cl C j) aj (H.set i (some xv)) kx (Wk H xv)) (hv:∀H,H.length=aj.length->∀cl C xv,ES F w B J A (compEnvC scope cl C j) aj (H.set i (some xv)) vx (Wv H xv)):SS F w B J A j aj (.Assign [.Name y py] (.DictComp kx vx [⟨.Name x px,iter,[],0⟩] scope pos) ab) (λH C N _ X=>Wi H C (λv E=>oP (wE E v) λxs=>xs.length<=1000/\FF (λx K=>Wk H x E (λu ax=>ax=E/\(match u with| .int _=>True|_=>False)/\Wv H x E (λy ai=>ai=E/\K (.tup [u,y])) λ_=>False) λ_=>False) xs λps=>OP iy (.bq (YU ps).1 (YU ps).2) H N E) X):=λH g s N R X S hl t hw=>by
 have hi:i<H.length:=by rw [hl];exact (BB.mp hx).1
 obtain ⟨cl,V,a0,ap⟩:=mL (ba:=j) (scope:=scope) λy hy hk=>by refine tz (λc Y e Y=>?_) (S.fr.cells y.1 (CK.free y hy hk));exact ⟨c,e⟩
 rw [exec_Assign_Name_used _ _ _ _ a2];refine ff (ci (ff ?_));show wpAny _ A (do let _<- comprehension (.DictComp kx vx [⟨.Name x px,iter,[],0⟩] scope pos) scope j _ newDict false (eval iter j) (some (PySem.assign (.Name y py) j))) _ _ s;refine ff (xe (wpAny_comprehension_free (use:=some (PySem.assign (.Name y py) j)) (Q:=λ_ s'=>cJ F w B A j aj g s N R .next s') rfl hs V CK.kind CK.locals ?_) (λ_ s' hq=>i8 (i8 hq)) λ_ _ e=>e);refine (hit H hl).go S t hw (λv a8 a5 m Z L as ak U=>?_) λ_ _ x=>x.toF S;refine nw (λxs e hb U=>?_) (s5 U);refine Yk hh hx hi CK a0 ap L Z ak e hb (hk H hl cl) (hv H hl cl) U λI D C oD gC sC k g' s' a7 ps a3 b c k1 hz hd a1 Vy q=>?_;refine xy (λo es ep ho r=>?_) (id hd);haveI q:=mP q;refine zu FE a4 ky q.1 L b c k1 hz ho (sk:= .bq (YU ps).1 (YU ps).2) (λgE h mv hD nD=>by exact ⟨D,a3,rfl,⟨o,es,ep,hD,r⟩,Op TK.lo (be L.rel.sz b.lo.2.1),nD,a1,br.mv mv Vy⟩) λa6 gF P av ar eC=>?_;exact ⟨gF,_,as.toF.trans P,av,by rw [SZ];exact hl,ar,by rw [eC,c.gh];exact q.2⟩
theorem qC (R:f8 c w d g h) (k:∀a o,h.get? a=some o->m.get? a=some o) (l:∀a∈Is,h.objs.size<=a):Mv g h (g.aA (Is++g.pv)) m:=⟨λ_ e=>⟨e,rfl⟩,λa o e j _ _ _=>⟨k a o e,λq=>by refine to q (λq=>?_) λq=>?_;exact j (.inl q);refine to (Pf.mp q) (λq=>?_) λq=>?_;exact absurd (r8 e) (Da.mpr (l a q));exact j (.inr q)⟩,R.cE⟩
theorem f8.jE (R:f8 j w y g h) (k:∀a o,h.get? a=some o->A.get? a=some o) (hz:h.objs.size<=A.objs.size) (hD:∀a∈Is,h.objs.size<=a) (F:∀a∈Is,∃o,A.get? a=some o/\GT o):f8 j w y (g.aA (Is++g.pv)) A:=by refine ⟨λx B e=>EM.mv (qC R k hD) rfl rfl (λa o _ e=>k a o e) (R.at_ x B e),R.inj,R.above,λa o e=>k a o (R.base a o e),be R.sz hz,λa ha=>?_⟩;rcases Pf.mp ha with ha|ha;refine ac (λo e p=>?_) (F a ha);exact ⟨λl q=>by refine am (λH e=>?_) (R.lt q);exact absurd (r8 e) (Da.mpr (hD a ha)),be R.sz (hD a ha),o,e,p⟩;refine im (λp q=>ac λE e c=>?_) (R.aG a ha);exact ⟨p,q,E,k _ _ e,c⟩
theorem i4.jE (S:i4 j w y A E aj F g s) (k:∀a o,s.heap.get? a=some o->B.get? a=some o) (hz:s.heap.objs.size<=B.objs.size) (hD:∀a∈Is,s.heap.objs.size<=a) (H:∀a∈Is,∃o,B.get? a=some o/\GT o):i4 j w y A E aj F (g.aA (Is++g.pv)) {s with heap:=B,toks:=tk}:=⟨S.rel.jE k hz hD H,S.fr.mv (qC S.rel k hD) k S.fr.own,let ⟨e,o,a,b,c⟩:=S.fs;⟨e,o,a,b,c.keeps k⟩⟩
theorem uq {Is:List Addr} (R:f8 c w d g h) (m:∀a∈Is,a∈g.pv) (sub:∀a∈l,a∈g.pv) (k:∀a o,a∉Is->h.get? a=some o->h'.get? a=some o):Mv g h (g.aA l) h':=⟨λ_ e=>⟨e,rfl⟩,λa o e j _ _ _=>⟨k a o (λq=>j (.inr (m a q))) e,λq=>j (jt sub q)⟩,R.cE⟩
theorem f8.qi {Is:List Addr} (R:f8 j w y g h) (E:∀a∈Is,a∈g.pv) (sub:∀a∈l',a∈g.pv) (k:∀a o,a∉Is->h.get? a=some o->B.get? a=some o) (hz:h.objs.size<=B.objs.size) (J:∀a∈Is,a∈l'->∃o,B.get? a=some o/\GT o):f8 j w y (g.aA l') B:=by refine ⟨λx F e=>EM.mv (uq R E sub k) rfl rfl (λa o z A=>k a o (λq=>(R.aG a (E a q)).1 x ⟨by rw [show g.C x=some F from e];rfl,z⟩) A) (R.at_ x F e),R.inj,R.above,λa o e=>k a o (λq=>absurd (r8 e) (Da.mpr (R.aG a (E a q)).2.1)) (R.base a o e),be R.sz hz,λa ha=>?_⟩;refine im (λp q=>ac λo e c=>?_) (R.aG a (sub a ha));by_cases hm:a∈Is;refine ac (λI A H=>?_) (J a hm ha);exact ⟨p,q,I,A,H⟩;exact ⟨p,q,o,k _ _ hm e,c⟩
theorem i4.qi {Is:List Addr} {H:Heap} (S:i4 B w E A I aj ρ g s) (U:∀a∈Is,a∈g.pv) (sub:∀a∈l',a∈g.pv) (aW:I.locals∉Is) (k:∀a o,a∉Is->s.heap.get? a=some o->H.get? a=some o) (hz:s.heap.objs.size<=H.objs.size) (ho:∀a∈Is,a∈l'->∃o,H.get? a=some o/\GT o):i4 B w E A I aj ρ (g.aA l') {s with heap:=H,toks:=tk}:=by haveI R:=S.rel;have mv:=uq (h':=H) R U sub k;have P:∀{a:Addr},¬g.aK a->a∉Is:=λhn q=>hn (.inr (U _ q));refine ⟨R.qi U sub k hz ho,?_,?_⟩;obtain ⟨⟨m,ab,hv⟩,N,hc,Z,ha,nd⟩:=S.fr;refine ⟨⟨m,ab.at' λo e=>k _ o aW e,λi y j e1 e2 e3=>?_⟩,N,λi y j e1 e2 e3=>?_,λy e=>?_,ha,nd⟩;refine ac (λv a b=>?_) (hv i y j e1 e2 e3);exact ⟨v,a,VR.mv mv b⟩;refine pi (λc v a b d=>?_) (hc i y j e1 e2 e3);haveI V:=P (R.cu b);revert b;refine ac λo Q hd=>?_;exact ⟨c,v,a,⟨o,k _ o V Q,hd⟩,VR.mv mv d⟩;refine tz (λc vo a b=>?_) (Z y e);haveI V:=P (R.cu b);revert b;refine ac λo Q hd=>?_;exact ⟨c,vo,a,⟨o,k _ o V Q,hd⟩⟩;refine pi (λe o' a b F=>?_) S.fs;refine ⟨e,o',a,b,λe' Y=>?_⟩;refine aa (λkd=>xw λL ob es ep hf=>pt λJ hc hd lo=>?_) (F e' Y);exact ⟨kd,L,ob,es,ep,hf,k L ob (P (R.mF J hc)) J,hc,hd,lo⟩
noncomputable def G.cut (g:G) (D:Loc->Bool):G:={g with C:=Internal.cut D g.C}
theorem G.fX {g:G} (q:(g.cut D).aH l a):g.aH l a:=by revert q;refine aa λh o=>?_;refine ⟨?_,o⟩;unfold G.cut Internal.cut at h;dsimp only at h;split at h;injection h;exact h
theorem G.jU {g:G} (q:(g.cut D).aK a):g.aK a:=q.imp (λ⟨l,q⟩=>⟨l,G.fX q⟩) id
theorem G.XS {g:G} (e:(g.cut D).C l=some j):D l=false/\g.C l=some j:=by unfold G.cut Internal.cut at e;dsimp only at e;split at e;injection e;rename_i hd;exact ⟨Bool.eq_false_iff.mpr hd,e⟩
mutual
theorem VR.cut {h:Heap}:∀{m:MV} {v:Value},dS D m=true->VR B w g h m v->VR B w (g.cut D) h m v
 | .none,_,_,y=>y
 | .bool _,_,_,y=>y
 | .int _,_,_,y=>y
 | .str _,_,_,y=>y
 | .af l,_,e,y=>by
  replace e:D l=false:=(Bool.not_eq_true' _).mp e
  refine ⟨y.1,?_⟩
  show (Internal.cut D g.C l).isSome=true
  unfold Internal.cut
  rw [e];exact y.2
 | .tup l,_,e,y=>by
  revert y
  refine rb λa n d J H=>pt λe1 e2 e3 A=>?_
  exact ⟨a,n,d,J,H,e1,e2,λq=>e3 (G.jU q),br.cut e A⟩
 | .lst l,_,e,y=>by
  revert y
  refine l6 λa n H e1 e2=>aa λe3 A=>?_
  exact ⟨a,n,H,e1,e2,λq=>e3 (G.jU q),br.cut e A⟩
 | .aQ _ I,_,e,y=>by
  revert y
  refine Cc λa j e1 e2 e3=>im λA E F=>?_
  exact ⟨a,j,e1,e2,e3,λq=>A (G.jU q),E,br.cut e F⟩
 | .bq _ I,_,e,y=>by
  revert y
  refine Cc λa j e1 e2 e3=>im λA E F=>?_
  exact ⟨a,j,e1,e2,e3,λq=>A (G.jU q),E,br.cut e F⟩
 | .bb _ I,_,e,y=>by
  revert y
  refine Cc λa j e1 e2 e3=>im λA E F=>?_
  exact ⟨a,j,e1,e2,e3,λq=>A (G.jU q),E,br.cut e F⟩
theorem br.cut {h:Heap}:∀{m:List MV} {v:List Value},NO D m=true->br j w g h m v->br j w (g.cut D) h m v
 | [],_,_,y=>y
 |m::l,_,e,y=>by
  revert y
  refine pi λv r e1 e2 e3=>?_
  exact ⟨v,r,e1,VR.cut (aL e) e2,br.cut (aR e) e3⟩
end
theorem EM.cut {h:Heap} (e:jA D B=true) (x:EM y w g h l B):EM y w (g.cut D) h l B:=by induction B using OV.casesOn with|list A=>revert x;refine aa λq=>tz λn I a b=>?_;exact ⟨q,n,I,a,b.cut e⟩|inst c fs=>revert x;refine aa λq=>Cc λL j a b c d=>?_;exact ⟨q,L,j,a,b,c,d.cut e⟩|aM ks A=>revert x;refine aa λq=>nw λj a b c=>?_;exact ⟨q,j,a,b,c.cut e⟩|aT ks A=>revert x;refine aa λq=>nw λj a b c=>?_;exact ⟨q,j,a,b,c.cut e⟩|j0 ks A=>revert x;refine aa λq=>nw λj a b c=>?_;exact ⟨q,j,a,b,c.cut e⟩|tab P q=>revert x;refine im λa b=>nw λps c d f=>?_;exact ⟨a,b,ps,c,d,λpos F z=>let ⟨c,o,A,t,H,J,R,E,N,Q⟩:=f pos F z;⟨c,o,A,t,H,J,R,E,N,λq=>Q (G.jU q)⟩⟩
theorem f8.cut {h:Heap} (R:f8 j w y g h) (c:kN A D g.C):f8 j w y (g.cut D) h:=⟨λl B e=>let ⟨a,b⟩:=G.XS e;(R.at_ l B b).cut (c.2 l B b a),λl E a q F=>R.inj l E a (G.fX q) (G.fX F),λl a q=>R.above l a (G.fX q),R.base,R.sz,λa ha=>let ⟨p,q⟩:=R.aG a ha;⟨λl o=>p l (G.fX o),q⟩⟩
theorem i4.cut {D:Loc->Bool} (S:i4 B w E A P aj H g s) (c:kN Q D g.C):i4 B w E A P aj (H.map (gM D)) (g.cut D) s:=by
 have inv:∀{i mv},(H.map (gM D))[i]? =some (some mv)->H[i]? =some (some mv)/\dS D mv=true:=λ{i mv} e=>by rw [GG] at e;cases h:H[i]? with|none=>rw [h] at e;injection e|some o=>replace e:=h▸e;simp only [Option.map_some,Option.some.injEq] at e;induction o using Option.casesOn with|none=>injection e|some m=>simp only [gM] at e;by_cases hm:dS D m=true;rw [bn hm] at e;obtain rfl:=an e;exact ⟨rfl,hm⟩;rw [al hm] at e;injection e
 refine ⟨S.rel.cut c,?_,S.fs⟩;refine s3 λ_ U=>?_;obtain ⟨⟨m,N,R⟩,F,hc,L,ha,nd⟩:=S.fr;refine U ?_;refine ⟨⟨m,N,λi y j e1 e2 e3=>?_⟩,λl q=>F l (G.fX q),λi y j e1 e2 e3=>?_,L,ha,nd⟩;refine aa (λI J=>?_) (inv e2);refine ac (λv a b=>?_) (R i y j e1 I e3);exact ⟨v,a,b.cut J⟩;refine aa (λI J=>?_) (inv e2);refine pi (λc v a b d=>?_) (hc i y j e1 I e3);exact ⟨c,v,a,b,d.cut J⟩
theorem ga.cut {S:Addr->Prop} (x:ga S j h g y) (hD:∀l,D l=true->j.C l=none):ga S j h (g.cut D) y:=by refine ⟨x.keep,λl e=>?_,λl a e o=>x.new l a e (G.fX o),x.size,x.pv,x.aY⟩;refine im (λa b c=>?_) (x.af l e);refine ⟨?_,b,c⟩;show (Internal.cut D g.C l).isSome=true;unfold Internal.cut;split;rename_i hd;rw [hD l hd] at e;injection e;exact a
end
section
variable (ao:Program) (w:World) (dL:Heap) (A:Around) (ba:Env) (aj:List Str)
structure g8 (Is:List Addr) (g:G) (s s':Shared):Prop where
 aO:∀ρ,i4 ao w dL A ba aj ρ g s->i4 ao w dL A ba aj ρ g s'
 ext:ga (λa=>a∈Is) g s.heap g s'.heap
 gens:s'.gens=s.gens
 os:s'.os=s.os
 toks:s.toks<=s'.toks
structure cI (YZ:Expr) (I:Addr) (Is:List Addr) (xs:List MV) (lR:GH->Prop) (St:Nat->G->Heap->Prop):Prop where
 keep:∀k ρ g s g' s',(∀a∈Is,a∈g.pv)->(∀a∈Is,¬MW ba a)->i4 ao w dL A ba aj ρ g s->Ev ao w dL ba g s g' s'->St k g s.heap->St k g' s'.heap
 next:∀k x ρ g s (Φ:Value->Shared->Prop) (E:Value->Shared->Prop),xs[k]? =some x->i4 ao w dL A ba aj ρ g s->(∀a∈Is,a∈g.pv)->ba.locals∉Is->lR g.C->St k g s.heap->
  (∀v s',g8 ao w dL A ba aj Is g s s'->St (k+1) g s'.heap->VR ao w g s'.heap x v->Φ v s')->
  wpAny (model ao w) A (pyNext (.ref I)) (λr fE=>∃v,r=some v/\wpAny (model ao w) A (letOwnedTupleGo YZ (.ref I) v) (λ_ GN=>Φ v GN) E fE) E s
 stop:∀k ρ g s (Φ:Option Value->Shared->Prop) (E:Value->Shared->Prop),xs.length<=k->i4 ao w dL A ba aj ρ g s->(∀a∈Is,a∈g.pv)->lR g.C->St k g s.heap->
  (∀h',(∀a o,a∉Is->s.heap.get? a=some o->h'.get? a=some o)->s.heap.objs.size<=h'.objs.size->Φ none {s with heap:=h'})->wpAny (model ao w) A (pyNext (.ref I)) Φ E s
end
section
theorem B8 (x:ga (λa=>MW l a\/a∈Is) (c.aA (Is++c.pv)) g r t) (u:∀a o,d.get? a=some o->g.get? a=some o) (n:d.objs.size<=g.objs.size) (p:∀a∈Is,d.objs.size<=a) (k:∀a o,a∉Is->t.get? a=some o->j.get? a=some o) (w:t.objs.size<=j.objs.size):ga (MW l) c d (r.aA c.pv) j:=by haveI v:ga (λa=>MW l a\/a∈Is) c d (r.aA c.pv) t:=ga.back x u n (λa m=>by rcases Pf.mp m with h|h;exact .inr (p a h);exact .inl h) (λa m=>Pf.mpr (.inr m));haveI y:ga (λa=>MW l a\/a∈Is) (r.aA c.pv) t (r.aA c.pv) j:=ga.but (λa o z e=>k a o (λq=>z (.inr q)) e) w;exact (v.trans y).wH λa m=>m.imp id λq=>p a q
def fB (e:ee->GH->MV->(ee->GH->Prop)->Prop) (g:WS) (R:MV->GH->Prop):ee->GH->MV->(ee->GH->Prop)->Prop:=λd C x K=>e d C x λa c=>g a c K R λ_=>False
theorem qp {Q:Expr} {St:Nat->G->Heap->Prop} (FE:FS F p) (a0:i4 y w F A p j ρ d O) (bd:i4 y w F A p j ρ (d.aA (Is++d.pv)) u) (hl:ρ.length=j.length) (cm:0<u.toks) (cc:∀a o,O.heap.get? a=some o->u.heap.get? a=some o) (a2:O.heap.objs.size<=u.heap.objs.size) (ai:∀a∈Is,O.heap.objs.size<=a) (a1:u.gens=O.gens) (os:u.os=O.os) (cs:St 0 (d.aA (Is++d.pv)) u.heap) (IT:cI y w F A p j Q I Is xs a7 St) (ht:SG y w F A p j Q Wt) (hb:HT y w F cx A p j body Wb) (hK:∀N ρ C,Kn N ρ C->N ρ C\/(drop=true/\∃D,kN d.C D C/\N (ρ.map (gM D)) (cut D C))) (ca:drop=true->∀k g h D,St k g h->St k (g.cut D) h) (f:eX (fB Wt Wb R) Kn N xs xs.length a7 ρ d.C) (ap:sK y w F g s d O):codeAny (model y w) A (.forLoop Q (.ref I) body [] p) (λr W=>match r with| .ok f=>cJ y w F A p j g s N R f W| .error e=>cameBackBy (model y w) A p E e W) u:=by
 obtain ⟨Iv,i0,a9,cl⟩:=f;have nS:∀a∈Is,¬MW p a:=λa Y q=>absurd (a0.uV q) (Da.mpr (ai a Y));have nL:p.locals∉Is:=λq=>nS _ q (.inl rfl);refine codeAny_forLoop_any (λn W=>∃k S J,n+k=xs.length/\ga (λa=>MW p a\/a∈Is) (d.aA (Is++d.pv)) u.heap S W.heap/\W.gens=u.gens/\W.os=u.os/\i4 y w F A p j J S W/\J.length=j.length/\0<W.toks/\St k S W.heap/\Iv k J S.C) ?_ xs.length ⟨0,_,ρ,rfl,.refl _ _ _,rfl,rfl,bd,hl,cm,cs,i0⟩;intro n W;refine l6 λk S J hn x=>dk λeg eo S' cD t'=>aa λst iv=>?_;haveI cn:S.pv=Is++d.pv:=x.pv;have mI:∀a∈Is,a∈S.pv:=λa Y=>by rw [cn];exact Pf.mpr (.inl Y)
 have sub:∀a∈d.pv,a∈S.pv:=λa Y=>by rw [cn];exact Pf.mpr (.inr Y)
 have cv:∀a∈Is,a∉d.pv:=λa Y=>a0.rel.cY (ai a Y);by_cases hk:k<xs.length;have bf:=GS hk;refine aa (λa5 q=>?_) (a9 k _ J S.C bf iv);refine xe (IT.next k _ J S W (λv H=>g8 y w F A p j Is S W H/\St (k+1) S H.heap/\VR y w S H.heap xs[k] v) _ bf S' mI nL a5 st λv H a b c=>⟨a,b,c⟩) (λr H z=>?_) λ_ _ z=>z;revert z;refine ac λv=>?_;rintro rfl z;refine xe z (λ_ H z=>?_) λ_ _ z=>z;revert z;refine im λP a6 V=>?_;haveI ax:=P.aO J S';haveI bB:=Op t' P.toks;refine ht J S H xs[k] v _ _ _ ax cD bB V q λX T Z B av cr bv bt=>?_;haveI a4:=IT.keep (k+1) J S H T X mI nS ax B a6;have a8:∀a∈Is,a∈T.pv:=λa Y=>by rw [B.ext.pv];exact mI a Y
 refine xe (hb Z T X _ R _ av cr bv bt) (λf ch z=>?_) λ_ _ ⟨_,_,_,_,z⟩=>z.elim;haveI bi:ga (λa=>MW p a\/a∈Is) (d.aA (Is++d.pv)) u.heap T X.heap:=(x.trans (P.ext.mono λa q=> .inr q)).trans (B.ext.mono λa q=> .inl q);induction f using Flow.casesOn with|next=>obtain ⟨M,a3,m,as,ar,ak,L⟩:=z;have ab:=IT.keep (k+1) Z T X M ch a8 nS av m a4;have x5:=bi.trans (m.ext.mono λa (q:MW p a)=>(.inl q:MW p a\/a∈Is));refine ⟨n - 1,tK hn hk,?_⟩;refine to (hK _ _ _ L) (λL=>?_) λt=>?_;exact ⟨k+1,M,a3,qu hn hk,x5,m.gens.trans (B.gens.trans (P.gens.trans eg)),m.os.trans (B.os.trans (P.os.trans eo)),as,ar,ak,ab,L⟩;revert t;refine aa λhd=>ac λD hc L=>?_;exact ⟨k+1,M.cut D,_,qu hn hk,x5.cut (λl hl=>hc.1 l hl),m.gens.trans (B.gens.trans (P.gens.trans eg)),m.os.trans (B.os.trans (P.os.trans eo)),as.cut hc,by rw [FB];exact ar,ak,ca hd _ _ _ D ab,L⟩|ret v=>obtain ⟨M,mv,m,bm,L⟩:=z;haveI x5:=bi.trans (m.ext.mono λa (q:MW p a)=>(.inl q:MW p a\/a∈Is));(have U:∀a∈d.pv,a∈M.pv:=λa Y=>by rw [x5.pv];exact Pf.mpr (.inr Y));exact cJ.trans (f:= .ret v) ap.toF ⟨M.aA d.pv,mv,⟨m.rel.aA U,B8 x5 cc a2 ai (λ_ _ _ e=>e) (lv _),m.gens.trans (B.gens.trans (P.gens.trans (eg.trans a1))),m.os.trans (B.os.trans (P.os.trans (eo.trans os)))⟩,VR.aA m.rel U bm,L⟩|brk=>exact z.elim|cont=>exact z.elim
 haveI cd:=kQ hk;have ek:=Qc hn cd;subst ek;refine aa (λa5 q=>?_) (cl J S.C iv);refine IT.stop _ J S W _ _ cd S' mI a5 st λh' kk hz=>?_;haveI bh:=S'.qi (tk:=W.toks) (l':=d.pv) mI sub nL kk hz (λa Y hm=>absurd hm (cv a Y));exact kY (cJ.trans (f:= .next) ap.toF ⟨S.aA d.pv,J,⟨bh.rel,B8 x cc a2 ai kk hz,eg.trans a1,eo.trans os⟩,bh,cD,t',q⟩)
end
section
variable {K:Frag}
theorem g8.one (J:I∈g.pv) (L:j.locals≠I) (F:Heap.SameBut I s.heap E) (H:E.get? I=some o) (hp:GT o) (ht:s.toks<=tk):g8 y w B A j aj [I] g s {s with heap:=E,toks:=tk}:=⟨λN S=>S.aZ J L F H hp,(ga.aZ F).mono λa q=>q▸wS,rfl,rfl,ht⟩
theorem cI.seq (hh:A.handled=none) (FE:FS H J):cI F w H A J aj (.Name x px) I [I] R (λC=>wE C m=some R) (λk g h=>bx m u h I k/\VR F w g h m u):=by refine ⟨λk Z g s g' s' L nS S P st=>?_,λk y Z g s Φ E hy S L nL e st j=>?_,λk Z g s Φ E hk S L e st j=>?_⟩;have B:=L I wS;exact ⟨st.1.keeps λo e=>P.ext.aY _ _ B (S.rel.aG _ B).1 e (nS I wS),st.2.jJ FE S P⟩;have B:=L I wS;have Q:J.locals≠I:=λq=>nL (q▸wS);refine yN (xs:=R) S.rel st.2 e st.1 hy λv N o Y it ho hp V=>⟨v,rfl,?_⟩;have U:ga (λa=>a=I) g s.heap g N:=ga.aZ Y;exact i8 (j v _ (g8.one (tk:=s.toks) B Q Y ho hp (lv _)) ⟨it,VR.ext U (dP B) S.rel st.2⟩ (VR.ext U (dP B) S.rel V));exact uc (xs:=R) hh S.rel st.2 e st.1 hk λN k hz=>j N (λa o hn e=>k a o (λq=>hn (q▸wS)) e) hz
theorem vb {T:String} (a:T="str_ascii_iterator" \/T="str_iterator") (c:o.cls= .type T) (hd:o.data= .fields d):GT o:=by refine ⟨?_,P3.not ?_,λv q=>by rw [hd] at q;cases q⟩<;>(rw [c];rcases a with rfl|rfl<;>simp)
theorem Rl {k:Nat} (h:(chars x)[k]? =some y):∃c,x.cps[k]? =some c/\y= .str ⟨#[c]⟩:=by unfold chars at h;rw [GG,Array.getElem?_toList] at h;cases e:x.cps[k]? with|none=>rw [e] at h;exact nomatch h|some c=>rw [e] at h;simp only [Option.map_some,Option.some.injEq] at h;exact ⟨c,rfl,h.symm⟩
theorem AW (h:(chars x).length<=k):x.cps[k]? =none:=by unfold chars at h;rw [FB,Array.length_toList] at h;exact Array.getElem?_eq_none h
theorem cI.str {x:Str} (J:ty="str_ascii_iterator" \/ty="str_iterator") (hh:A.handled=none):cI Y w Z A U aj (.Name y px) I [I] (chars x) (λ_=>True) (λk g h=>h.IsStrIter I ty x t k):=by refine ⟨λk ρ g s g' s' Q nS S P st=>?_,λk y ρ g s Φ E hy S Q nL e st j=>?_,λk ρ g s Φ E hk S Q e st j=>?_⟩;have L:=Q I wS;revert st;refine ac λo N r=>?_;exact ⟨o,P.ext.aY _ _ L (S.rel.aG _ L).1 N (nS I wS),r⟩;have L:=Q I wS;have H:U.locals≠I:=λq=>nL (q▸wS);refine ac (λc hc=>?_) (Rl hy);rintro rfl;rcases J with rfl|rfl;refine wpAny_pyNext_ascii_item st hc λF it V=>⟨_,rfl,i8 ?_⟩;refine nw (λo N B hd=>?_) (id it);exact j _ _ (g8.one L H V N (vb (.inl rfl) B hd) (s4 _)) it (by exact ⟨_,rfl⟩);refine wpAny_pyNext_wide_item st hc λF it V=>⟨_,rfl,i8 ?_⟩;refine nw (λo N B hd=>?_) (id it);exact j _ _ (g8.one L H V N (vb (.inr rfl) B hd) (s4 _)) it (by exact ⟨_,rfl⟩);rcases J with rfl|rfl;exact Zp (wpAny_pyNext_ascii_end hh st (AW hk) λF R hz=>j F (λa o hn e=>R a o (λq=>hn (q▸wS)) e) hz);exact Zp (wpAny_pyNext_wide_end hh st (AW hk) λF R hz=>j F (λa o hn e=>R a o (λq=>hn (q▸wS)) e) hz)
theorem SV (h:((List.range n).map λi:Nat=>MV.int i)[k]? =some y):k<n/\y= .int k:=by rw [GG] at h;cases e:(List.range n)[k]? with|none=>rw [e] at h;exact nomatch h|some c=>rw [e] at h;simp only [Option.map_some,Option.some.injEq] at h;refine am (λd a=>?_) (BB.mp e);rw [List.getElem_range] at a;subst a;exact ⟨by simpa using d,h.symm⟩
theorem z0 (h:o={cls:= .type "range_iterator",dict:=none,data:= .fields a,slots:=#[]}):GT o:=by subst h;exact ⟨by simp,P3.not (by simp),λv q=>by cases q⟩
theorem cI.range (hh:A.handled=none):cI L w N A H aj (.Name y px) I [I] ((List.range n).map λi:Nat=> .int i) (λ_=>True) (λk g h=>IsRangeIter h I (k:Int) ((n:Int) - k) 1):=by
 refine ⟨λk R g s g' s' B Y S P st=>?_,λk y R g s Z E hy S B V e st j=>?_,λk R g s Z E hk S B e st j=>?_⟩;have F:=B I wS;exact P.ext.aY _ _ F (S.rel.aG _ F).1 st (Y I wS);have F:=B I wS;have J:H.locals≠I:=λq=>V (q▸wS);refine aa (λhk=>?_) (SV hy);rintro rfl;refine wpAny_pyNext_range_item st (LX hk) λQ it sb=>⟨_,rfl,i8 ?_⟩;refine j _ _ (g8.one F J sb it (z0 rfl) (s4 _)) ?_ (by exact ⟨_,rfl⟩);have e1:(n:Int) - k - 1=(n:Int) -(k+1:Nat):=by lia
 have e2:(k:Int)+1=((k+1:Nat):Int):=D2;dsimp only;rw [e1,e2] at it;exact it;simp only [List.length_map,List.length_range] at hk;exact Zp (wpAny_pyNext_range_end hh st (Pj hk) λQ U hz=>j Q (λa o hn e=>U a o (λq=>hn (q▸wS)) e) hz)
theorem SS.Lb {We:ee->WE} (FE:FS F B) (hh:A.handled=none) (hx:aj[i]? =some x) (hk:B.kindOf x=some .local\/B.kindOf x=some .cell) (hs:∀x,foldedSetIterable iter B x=pure x) (he:SE y w F J A B aj iter We) (hb:HT y w F J A B aj body Wb):SS y w F J A B aj (.For (.Name x px) iter body [] pos) (λL C N R _=>We L C (λv U=>(match v with| .str s=>s.length<=gz/\eX (fB (λL C v Q=>OP i v L Q C) Wb R) (λK=>K) N (chars s) (chars s).length (λ_=>True) L U|v=>oP (wE U v) λxs=>xs.length<=gz/\eX (fB (λL C v Q=>OP i v L Q C) Wb R) (λK=>K) N xs xs.length (λZ=>wE Z v=some xs) L U)) λ_=>False):=λL g s N R X S hl t q=>by
 refine wpAny_For ((he L hl).go S t q (λv j ai m ab H ak P I=>?_) λ_ _ ⟨_,_,_,z⟩=>z.elim) hs;by_cases hm:∃z,m= .str z;revert hm;refine am λz=>?_;rintro rfl;revert I;refine aa λY I=>?_;revert P;refine am λar=>?_;rintro rfl;have go:∀ty,(ty="str_ascii_iterator" \/ty="str_iterator")->codeAny (model y w) A (.forLoop (.Name x px) (.ref j.heap.objs.size) body [] B) (λr s'=>match r with| .ok f=>cJ y w F A B aj g s N R f s'| .error e=>cameBackBy (model y w) A B (dM y w F J A B g s X) e s') {j with heap:=j.heap.push {cls:= .type ty,data:= .fields #[.str z ar,.int 0 0]}}:=λty av=>by have k1:∀a o,j.heap.get? a=some o->(j.heap.push {cls:= .type ty,data:= .fields #[.str z ar,.int 0 0]}).get? a=some o:=λ_ _ e=>AL _ e;(have hz:j.heap.objs.size<=(j.heap.push {cls:= .type ty,data:= .fields #[.str z ar,.int 0 0]}).objs.size:=by rw [DO];exact s4 _);have ho:(j.heap.push {cls:= .type ty,data:= .fields #[.str z ar,.int 0 0]}).get? j.heap.objs.size=some {cls:= .type ty,data:= .fields #[.str z ar,.int 0 0]}:=LF _ rfl;have V:=H.jE (tk:=j.toks) (Is:=[j.heap.objs.size]) k1 hz (λa ha=>by rw [wb.mp ha];exact lv _) (λa ha=>by rw [wb.mp ha];exact ⟨_,ho,vb av rfl rfl⟩);exact qp (E:=dM y w F J A B g s X) (drop:=false) (Kn:=λN=>N) FE H V hl ab k1 hz (λa ha=>by rw [wb.mp ha];exact lv _) rfl rfl ⟨_,ho,rfl,rfl⟩ (cI.str av hh) (SG.ae FE hx hk) hb (λ_ _ _ h=> .inl h) (λh=>by cases h) I ak
 by_cases ha:z.cps.all (· <128)=true;exact wpAny_pyIter_ascii ha (go _ (.inl rfl));exact wpAny_pyIter_wide (by simpa using ha) (go _ (.inr rfl));replace I:oP (wE ai.C m) λxs=>xs.length<=gz/\eX (fB (λL C v Q=>OP i v L Q C) Wb R) (λK=>K) N xs xs.length (λZ=>wE Z m=some xs) L ai.C:=by induction m using MV.casesOn<;>first|exact absurd ⟨_,rfl⟩ hm|exact I
 refine nw (λxs e Y as=>?_) (s5 I);refine t9 H.rel P e λoI pI it ax=>?_;have k1:∀a o,j.heap.get? a=some o->(j.heap.push oI).get? a=some o:=λ_ _ e=>AL _ e;have hz:j.heap.objs.size<=(j.heap.push oI).objs.size:=by rw [DO];exact s4 _
 have ap:∀a∈[j.heap.objs.size],j.heap.objs.size<=a:=λa ha=>by rw [wb.mp ha];exact lv _
 have V:=H.jE (tk:=j.toks) (Is:=[j.heap.objs.size]) k1 hz ap (λa ha=>by rw [wb.mp ha];exact ⟨_,ax,pI⟩);exact qp (E:=dM y w F J A B g s X) (drop:=false) (Kn:=λN=>N) FE H V hl ab k1 hz ap rfl rfl ⟨it,VR.mv (qC H.rel k1 ap) P⟩ (cI.seq hh FE) (SG.ae FE hx hk) hb (λ_ _ _ h=> .inl h) (λh=>by exact nomatch h) as ak
def u9 (i:Nat) (d:WS) (c:ee) (N:ee->GH->Prop) (R:MV->GH->Prop) (v:MV) (a:GH):Prop:=match v with| .int n=>0<=n/\n<=1000/\eX (fB (λc C v Q=>OP i v c Q C) d R) (Dr a) N ((List.range n.toNat).map λi:Nat=> .int i) ((List.range n.toNat).map λi:Nat=>MV.int i).length (λ_=>True) c a|_=>False
set_option tactic.hygienic true in theorem SS.Lz {np:Pos} {We:ee->WE} (TK:GM F w K B T) (FE:FS B y) (hh:A.handled=none) (hx:aj[i]? =some x) (hk:y.kindOf x=some .local\/y.kindOf x=some .cell) (ax:y.kindOf "range" =some .globalImplicit) (hg:nsIn K mainGlobals "range" =some none) (hs:aJ e=true) (he:SE F w B J A y aj e We) (hb:HT F w B J A y aj body Wb):SS F w B J A y aj (.For (.Name x px) (.Call (.Name "range" np) [e] [] H) body [] pos) (λρ C N R _=>We ρ C (λv L=>u9 i Wb ρ N R v L) λ_=>False):=λρ g s N R X S hl t q=>by
 have ar:[e].all aJ=true:=by simp [hs]
 refine wpAny_For ?_ (λ_=>rfl);show wpAny _ _ (do callWith H (<- eval (.Name "range" np) y) [] (backTo H (starEach [e] y)) (backToKw H (keywordEach [] y))) _ _ _;refine ff (jD (TK.cx.keeps S.rel.base) FE.kind FE.glob FE.j7 ax (by decide) hg (by decide+kernel:bootBuiltins "range" =some (.type "range")) (by decide) ?_);refine PySem.callWith_type (cK ar).1 (eH ar ?_);refine (IF.cons hs (he ρ hl) .nil) g s (λvs L=>u9 i Wb ρ N R (vs.headD .none) L) (λ_=>False) H S t q (λvs j ap ms Z a1 Q as Vs I=>?_) λ_ _ ⟨_,_,_,z⟩=>z.elim;refine am (λv=>?_) (List.length_eq_one_iff.mp Z);rintro rfl;induction ms using List.casesOn with|nil=>cases Vs|cons m ms=>revert Vs;refine pi λv' r' ev V Y=>?_;cases ev;unfold u9 at I;dsimp only [List.headD] at I;(induction m using MV.casesOn<;>try exact I.elim);rename_i cnt;revert I;refine im λh0 a0 ab=>?_;revert V;refine am λtv=>?_;rintro rfl;refine call_range_1 ?_;have hr:=IsRange.new j.heap 0 cnt 1 j.toks tv (j.toks+1);generalize a2:({cls:= .type "range",data:= .fields #[.int 0 j.toks,.int cnt tv,.int 1 (j.toks+1)]}:Obj)=P at hr⊢;refine wpAny_pyIter_range (t:=j.toks) (u:=tv) (v:=j.toks+1) hr (small_one (by decide) (by decide) (by lia) (by lia)) ?_;rw [rangeSize_one];(have er:(if (0:Int)<cnt then cnt - 0 else 0)=cnt:=by split<;>lia);rw [er];generalize U:({cls:= .type "range_iterator",data:= .fields #[rawInt 0,rawInt cnt,rawInt 1]}:Obj)=oI;have z1:(j.heap.push P).objs.size=j.heap.objs.size+1:=DO ..;have k1:∀a o,j.heap.get? a=some o->((j.heap.push P).push oI).get? a=some o:=λ_ _ e=>AL _ (AL _ e);(have hz:j.heap.objs.size<=((j.heap.push P).push oI).objs.size:=by rw [DO,z1];exact Bm);have ho:((j.heap.push P).push oI).get? (j.heap.push P).objs.size=some oI:=LF _ (by rw [<- U];rfl);(have ai:∀a∈[(j.heap.push P).objs.size],j.heap.objs.size<=a:=λa ha=>by rw [wb.mp ha,z1];exact s4 _);have ak:=Q.jE (tk:=j.toks+1+1) (Is:=[(j.heap.push P).objs.size]) k1 hz ai (λa ha=>by rw [wb.mp ha];exact ⟨_,ho,z0 U.symm⟩);(have av:IsRangeIter ((j.heap.push P).push oI) (j.heap.push P).objs.size ((0:Nat):Int) (((cnt.toNat:Nat):Int) -(0:Nat)) 1:=by (have e1:((cnt.toNat:Nat):Int) -(0:Nat)=cnt:=by lia);rw [e1,show ((0:Nat):Int)=0 from rfl];exact ho.trans (by rw [<- U]));exact qp (E:=dM F w B J A y g s X) (drop:=true) (Kn:=Dr ap.C) FE Q ak hl (dF _) k1 hz ai rfl rfl av (cI.range (n:=cnt.toNat) hh) (SG.ae FE hx hk) hb (λ_ _ _ h=>by rcases h with h|⟨D,h,q⟩;exact .inl h;exact .inr ⟨rfl,D,h,q⟩) (λ_ _ _ _ _ h=>h) ab as
theorem B6 (h:o={cls:= .type "zip",dict:=none,data:= .fields a,slots:=#[]}):GT o:=by subst h;exact ⟨by simp,P3.not (by simp),λv q=>by cases q⟩
theorem o3 (h:o={cls:= .type "tuple",data:= .seq #[a,b]}) (c:∀s t,a≠ .str s t):GT o:=by subst h;refine ⟨by simp,?_,λv q=>by cases q⟩;refine aa λY=>tz λd n e q=>?_;cases e;refine EN (λs t e=>?_) (q a (by simp));exact c s t e
theorem oz {h:Heap} (c:h.IsListIter i l k):∃o,h.get? i=some o/\GT o:=by revert c;refine nw λo d a hd=>?_;exact ⟨o,d,by rw [a];simp,P3.not (by rw [a];simp),λv q=>by rw [hd] at q;cases q⟩
def NZ (c:Program) (w:World) (z e d l n m j:Addr) (o p:MV) (k:Nat) (g:G) (h:Heap):Prop:=IsZip h z e d .none/\IsPair h e (.ref l) (.ref n)/\(∃a b,IsPair h d a b)/\h.IsListIter l m k/\h.IsListIter n j k/\VR c w g h o (.ref m)/\VR c w g h p (.ref j)
theorem cI.zip (hh:A.handled=none) (FE:FS ak a0) (D:ZipApart z TI TO i1 i2 bd a9) (ab:xs.length=ys.length) (hint:xs.all isInt=true):cI ai w ak A a0 aj (.Tuple a8 J tp) z [z,TI,TO,i1,i2] ((xs.zip ys).map λp=> .tup [p.1,p.2]) (λC=>uu C mu=some xs/\uu C mv=some ys) (NZ ai w z TI TO i1 i2 bd a9 mu mv):=by
 refine ⟨λk ρ g s g' s' hI nS S P st=>?_,λk y ρ g s Φ E hy S hI nL e st U=>?_,λk ρ g s Φ E hk S hI e st U=>?_⟩;revert st;refine dk λhz j=>EN λa b I h1 h2=>aa λV1 V2=>?_;have kp:∀{c o},c∈[z,TI,TO,i1,i2]->s.heap.get? c=some o->s'.heap.get? c=some o:=λhc e=>P.ext.aY _ _ (hI _ hc) (S.rel.aG _ (hI _ hc)).1 e (nS _ hc);exact ⟨kp (by simp) hz,kp (by simp) j,⟨a,b,kp (by simp) I⟩,h1.at λo e=>kp (by simp) e,h2.at λo e=>kp (by simp) e,V1.jJ FE S P,V2.jJ FE S P⟩;revert st;refine dk λhz j=>EN λa b I h1 h2=>aa λV1 V2=>?_;refine l6 (λl1 n1 a7 e1 Y z1=>?_) (Tm S.rel V1 e.1);refine l6 (λl2 n2 a2 e2 V z2=>?_) (Tm S.rel V2 e.2);cases e1;cases e2;rw [GG] at hy;cases Z:(xs.zip ys)[k]? with|none=>rw [Z] at hy;exact nomatch hy|some p=>rw [Z] at hy;simp only [Option.map_some,Option.some.injEq] at hy;subst hy;refine s3 λ_ J=>?_;obtain ⟨px,py⟩:=p;refine aa (λav a3=>?_) (List.getElem?_zip_eq_some.mp Z);refine ac (λv1 ax as=>?_) (z1.get av);refine ac (λv2 a1 a4=>?_) (z2.get a3);have a5:=LG.mp hint px (Lm av);(have ap:∀s t,v1≠ .str s t:=λs' t' q=>by induction px using MV.casesOn<;>simp only [isInt,Bool.false_eq_true] at a5;revert as;refine am λt e=>?_;rw [e] at q;cases q);refine J ?_;refine wpAny_pyNext_zip_item D hz j I h1 h2 ⟨_,Y,rfl,n1,rfl⟩ ⟨_,V,rfl,n2,rfl⟩ (x:=v1) (y:=v2) (by simpa using ax) (by simpa using a1) λh' b1 b2 b3 b4 b5 b6 b7=>⟨_,rfl,?_⟩;refine wpAny_letOwnedTupleGo_zip b1 λB R sb=>?_;(have J:∀c o,c∉[z,TI,TO,i1,i2]->s.heap.get? c=some o->B.get? c=some o:=λc o hc e=>by simp only [List.mem_cons,List.not_mem_nil,or_false,not_or] at hc;exact sb.extBut _ _ hc.1 (b7 c o hc.1 hc.2.2.1 hc.2.2.2.1 hc.2.2.2.2 e));(have L:s.heap.objs.size<=B.objs.size:=by rw [sb.1,b6];exact s4 _);have H:IsPair B TI (.ref i1) (.ref i2):=sb.extBut _ _ D.TIz (b7 _ _ D.TIz D.TITO D.TIi1 D.TIi2 j);have F:IsPair B TO v1 v2:=sb.extBut _ _ D.TOz b2;have N:=b3.extBut sb.extBut D.i1z;have Q:=b4.extBut sb.extBut D.i2z;have ar:=sb.extBut _ _ (BN (r8 hz)) b5;(have ho:∀a∈[z,TI,TO,i1,i2],a∈g.pv->∃o,B.get? a=some o/\GT o:=λa ha _=>by simp only [List.mem_cons,List.not_mem_nil,or_false] at ha;rcases ha with rfl|rfl|rfl|rfl|rfl;exact ⟨_,R,B6 rfl⟩;exact ⟨_,H,o3 rfl λ_ _ q=>by cases q⟩;exact ⟨_,F,o3 rfl ap⟩;exact oz N;exact oz Q);have mv:=uq S.rel hI (λa h=>h) J;refine U _ _ ⟨λρ S=>S.qi (l':=g.pv) hI (λa h=>h) nL J L ho,ga.but (λa o hn e=>J a o hn e) L,rfl,rfl,lv _⟩ ⟨R,H,⟨_,_,F⟩,N,Q,VR.mv mv V1,VR.mv mv V2⟩ ?_;refine ⟨s.heap.objs.size,_,none,#[],[v1,v2],rfl,ar,S.rel.fresh,?_⟩;exact br.mv mv (.cons as (.cons a4 .nil))
 revert st;refine dk λhz j=>EN λa b I h1 h2=>aa λV1 V2=>?_;refine s3 λ_ J=>?_;refine l6 (λl1 n1 a7 e1 Y z1=>?_) (Tm S.rel V1 e.1);refine l6 (λl2 n2 a2 e2 V z2=>?_) (Tm S.rel V2 e.2);refine J ?_;cases e1;cases e2;have a6:xs.length<=k:=by simpa [ab] using hk
 refine Zp (wpAny_pyNext_zip_end hh D hz j I h1 h2 ⟨_,Y,rfl,n1,rfl⟩ ⟨_,V,rfl,n2,rfl⟩ (.inl (by simp [z1.len];exact a6)) λh' J L=>U h' (λc o hc e=>?_) L);simp only [List.mem_cons,List.not_mem_nil,or_false,not_or] at hc;exact J c o hc.1 hc.2.2.1 hc.2.2.2.1 hc.2.2.2.2 e
def uD (j:ee->GH->MV->(ee->GH->Prop)->Prop) (k:WS) (g:ee) (N:ee->GH->Prop) (R:MV->GH->Prop) (u v:MV) (a:GH):Prop:=oP (uu a u) λd=>oP (uu a v) λe=>d.length=e.length/\d.length<=gz/\d.all isInt=true/\eX (fB j k R) (λK=>K) N ((d.zip e).map λp=> .tup [p.1,p.2]) ((d.zip e).map λp=>MV.tup [p.1,p.2]).length (λc=>uu c u=some d/\uu c v=some e) g a
theorem AQ (h:l.length=2):∃a b,l=[a,b]:=by rcases l with _|⟨a,_|⟨b,_|⟨c,r⟩⟩⟩<;>first|exact ⟨_,_,rfl⟩|cases h
theorem SS.OW (TK:GM F w K j T) (FE:FS j B) (hh:A.handled=none) (bm:B.kindOf "zip" =some .globalImplicit) (hg:nsIn K mainGlobals "zip" =some none) (V:aJ L=true) (Z:aJ P=true) (ap:SE F w j I A B aj L a3) (ai:SE F w j I A B aj P ax) (ht:SG F w j A B aj (.Tuple bf kk tp) Wt) (hb:HT F w j I A B aj body Wb):SS F w j I A B aj (.For (.Tuple bf kk tp) (.Call (.Name "zip" np) [L,P] [] J) body [] pos) (λρ C N R _=>a3 ρ C (λu U=>ax ρ U (λv bh=>uD Wt Wb ρ N R u v bh) λ_=>False) λ_=>False):=λρ g s N R X S hl t q=>by
 have a2:[L,P].all aJ=true:=by simp [V,Z]
 refine wpAny_For ?_ (λ_=>rfl);show wpAny _ _ (do callWith J (<- eval (.Name "zip" np) B) [] (backTo J (starEach [L,P] B)) (backToKw J (keywordEach [] B))) _ _ _;refine ff (jD (TK.cx.keeps S.rel.base) FE.kind FE.glob FE.j7 bm (by decide) hg (by decide+kernel:bootBuiltins "zip" =some (.type "zip")) (by decide) ?_);refine PySem.callWith_type (cK a2).1 (eH a2 ?_);refine (IF.cons V (ap ρ hl) (IF.cons Z (ai ρ hl) .nil)) g s (λvs U=>uD Wt Wb ρ N R (vs.headD .none) (vs.tail.headD .none) U) (λ_=>False) J S t q (λvs Q bt ms ab as H a8 Vs y=>?_) λ_ _ ⟨_,_,_,z⟩=>z.elim;refine EN (λv1 v2=>?_) (AQ ab);rintro rfl;refine EN (λm1 m2=>?_) (AQ (Vs.len.symm.trans ab));rintro rfl;refine pi (λx1 x2 ev V1 V2=>?_) Vs.o6;cases ev;unfold uD at y;dsimp only [List.headD,List.tail] at y;refine s3 λ_ kk=>?_;refine ac (λxs ex y=>?_) (s5 y);refine ac (λys ey y=>?_) (s5 y);revert y;refine pt λak Y hint av=>?_;refine l6 (λbB n1 cc=>?_) (Tm H.rel V1 ex);rintro rfl a5 z1;refine l6 (λbv n2 ca=>?_) (Tm H.rel V2 ey);rintro rfl a4 z2;refine kk ?_;refine call_zip_2 ⟨_,a5,rfl,n1,rfl⟩ ⟨_,a4,rfl,n2,rfl⟩ λh' hz bd a9 a0 a6 bi k1=>?_;refine wpAny_pyIter_zip hz ?_;have l1:=r8 a5;have l2:=r8 a4;generalize hS:Q.heap.objs.size=S0 at*;have D:ZipApart (S0+4) (S0+2) (S0+3) S0 (S0+1) bB bv:=by have n1:=u4 l1;have n2:=u4 l2;refine ⟨?_,?_,?_,?_,?_,?_,?_,?_,?_,?_,?_,?_,?_,?_,?_,?_,?_,?_⟩<;>first|exact n1|exact n2| (apply u4;first|exact Nat.lt_add_of_pos_right (by decide)|exact Op l1 (Pd _ _)|exact Op l2 (Pd _ _)|exact Nat.add_lt_add_left (by decide) _)| (apply BN;first|exact Nat.lt_add_of_pos_right (by decide)|exact Nat.add_lt_add_left (by decide) _)
 have ar:∀a∈[S0+4,S0+2,S0+3,S0,S0+1],Q.heap.objs.size<=a:=λa ha=>by rw [hS];simp only [List.mem_cons,List.not_mem_nil,or_false] at ha;rcases ha with rfl|rfl|rfl|rfl|rfl<;>first|exact lv _|exact Pd _ _
 have a7:Q.heap.objs.size<=h'.objs.size:=by rw [bi,hS];exact Pd _ _
 have ho:∀a∈[S0+4,S0+2,S0+3,S0,S0+1],∃o,h'.get? a=some o/\GT o:=λa ha=>by simp only [List.mem_cons,List.not_mem_nil,or_false] at ha;rcases ha with rfl|rfl|rfl|rfl|rfl;exact ⟨_,hz,B6 rfl⟩;exact ⟨_,bd,o3 rfl λ_ _ q=>by cases q⟩;exact ⟨_,a9,o3 rfl λ_ _ q=>by cases q⟩;exact oz a0;exact oz a6
 have a1:=H.jE (tk:=Q.toks) (Is:=[S0+4,S0+2,S0+3,S0,S0+1]) k1 a7 ar ho;have mv:=qC (Is:=[S0+4,S0+2,S0+3,S0,S0+1]) H.rel k1 ar;exact qp (E:=dM F w j I A B g s X) (drop:=false) (Kn:=λN=>N) FE H a1 hl as k1 a7 ar rfl rfl ⟨hz,bd,⟨_,_,a9⟩,a0,a6,VR.mv mv V1,VR.mv mv V2⟩ (cI.zip hh FE D ak hint) ht hb (λ_ _ _ h=> .inl h) (λh=>by exact nomatch h) av a8
inductive om (h base:Heap) (e X:Addr) (a0 fl:Value):Prop|mk (oe:Obj) (vs:Array Value) (T:Addr) (oT:Obj) (ts:Array Value) (_:h.get? e=some oe) (_:oe.cls= .ref X/\vs[0]? =some a0) (_:oe.data= .fields vs) (_:vs[1]? =some (.ref T)) (_:base.get? T=none) (_:T≠e) (_:h.get? T=some oT) (_:oT.cls= .type "traceback") (_:oT.data= .fields ts) (_:ts[3]? =some fl)
theorem fk.f (x:fk h base e X L):om h base e X L .none:=let ⟨a,b,c,d,f,J,N,j,B,I,F,H,y,A,E⟩:=x;⟨a,b,c,d,f,J,N,j,B,I,F,H,y,A,E⟩
def LH (base:Heap) (X lo:Addr) (h a:Heap):Prop:=h.objs.size<=a.objs.size/\∀b o,h.get? b=some o->a.get? b=some o\/(o.cls= .type "frame" /\lo<=b/\∃e,a.get? b=some {o with slots:=e})\/(base.get? b=none/\(o.cls= .ref X\/o.cls= .type "traceback")/\(∃d,o.data= .fields d)/\∃c,a.get? b=some c/\c.cls=o.cls/\∃d,c.data= .fields d)
theorem LH.refl (base:Heap) X lo (h:Heap):LH base X lo h h:=⟨lv _,λ_ _ e=> .inl e⟩
theorem LH.trans {base:Heap} {lo:Addr} (x:LH base X lo h B) (y:LH base X lo B A):LH base X lo h A:=by refine ⟨be x.1 y.1,λb o e=>?_⟩;rcases x.2 b o e with e1|t|t;exact y.2 b o e1;revert t;refine im λc l=>am λH e1=>?_;rcases y.2 b _ e1 with e2|t|t;exact .inr (.inl ⟨c,l,H,e2⟩);revert t;refine im λY Y=>am λF e2=>?_;exact .inr (.inl ⟨c,l,F,e2⟩);revert t;refine im λn c2 Y=>?_;exfalso;haveI j:=c2;rw [c] at j;refine to (j) (λq=>?_) λq=>?_;injection q;exact eG (by decide) q;revert t;refine pt λn c d=>nw λL e1 E I=>?_;rcases y.2 b _ e1 with e2|t|t;exact .inr (.inr ⟨n,c,d,L,e2,E,I⟩);revert t;refine aa λc2 Y=>?_;exfalso;rw [E] at c2;rw [c2] at c;refine to (c) (λq=>?_) λq=>?_;injection q;exact eG (by decide) q;revert t;refine pt λY Y Y=>nw λo2 e2 c2 J=>?_;exact .inr (.inr ⟨n,c,d,o2,e2,c2.trans E,J⟩)
theorem Ay:∀{l:List Env},Cf a h l->h.FunFrames {} l| [],_=>trivial|e::l,F=>by refine aa (λk=>xw λL o n m d=>pt λg r hd lo=>?_) (F e wS);exact ⟨by rw [k];decide,⟨L,o,d,rfl,g,λp q=>by replace q:=hd▸q;cases q⟩,Ay λc j=>F c (FM _ j)⟩
theorem AD (F:Cf a h l) (j:b∈l.filterMap (·.frame)):∃o g d,h.get? b=some o/\o.cls= .type "frame" /\o.data= .dict g d/\a.objs.size<=b:=by refine ac (λe p m=>?_) (List.mem_filterMap.mp j);refine aa (λk=>xw λL o g d c=>pt λn q hd lo=>?_) (F e p);rw [m] at c;obtain rfl:=an c;exact ⟨o,g,d,n,q,hd,lo⟩
theorem CZ {base:Heap} {X:Addr} (R:A.frames=some (m::j)) (F:Cf v s.heap (m::j)) (hf:m.frame=some L) (kb:∀b o,base.get? b=some o->∃S,s.heap.get? b=some S) (O:s.heap.get? e=some Z) (V:base.get? e=none) (W:Z.cls= .ref X) (hd:Z.data= .fields T) (C:1<T.size) (h0:T[0]? =some a0) (k:∀J,LH base X v.objs.size s.heap J->om J base e X a0 (rawInt L)->Q () {s with heap:=J}):wpAny M A (do let a<- frameOf m;let I<- entryPlaceOf L y;let b<- EntryCells.newEntry head a .none (rawInt L) .none I;setField (.ref e) 1 b) Q E s:=by
 have hl:=Ay F;have x:e∉(m::j).filterMap (·.frame):=λH=>by refine l6 (λo Y Y ho r Y=>?_) (AD F H);rw [O] at ho;obtain rfl:=an ho;rw [W] at r;injection r
 refine ff (wpAny_frameOf_fun R hl hf λc d=>?_);refine ff (wpAny_entryPlaceOf λI N=>?_);refine ff (wpAny_newObj_type ?_ (N.sizeOk5 _ _ _ _ _));generalize U:([head,.ref L,.none,rawInt L,.none]++(if I.isEmpty then List.replicate 6 Value.none else I)).toArray=ts;haveI h3:ts[3]? =some (rawInt L):=by rw [<- U];simp
 have n:=(d.2.1 e x).trans O;haveI l:=AL (h:=c) {cls:= .type "traceback",dict:=none,data:= .fields ts} n;refine wpAny_setField l hd C ?_;have z:=BN (r8 n);have g:=nM hd (·.setIfInBounds 1 (Value.ref c.objs.size));have p:=fU (Obj.mapFields (·.setIfInBounds 1 (Value.ref c.objs.size))) l (Obj.isFreed_of_fields g);have u:=(nJ (c.push {cls:= .type "traceback",dict:=none,data:= .fields ts}) (Obj.mapFields (·.setIfInBounds 1 (Value.ref c.objs.size))) (u8 z)).trans (LF c rfl);have P:base.get? c.objs.size=none:=by cases q:base.get? c.objs.size with|none=>rfl|some o=>refine am (λS e'=>?_) (kb _ o q);have:=r8 e';rw [d.1] at this;exact absurd this (RI _)
 refine k _ ⟨?_,λb o w=>?_⟩ ⟨_,_,c.objs.size,_,ts,p,⟨(Obj.cls_mapFields _ _).trans W,?_⟩,g,?_,P,z,u,rfl,rfl,h3⟩;rw [Heap.size_update,DO,d.1];exact Pd _ _;by_cases t:b=e;subst t;rw [O] at w;obtain rfl:=an w;exact .inr (.inr ⟨V,.inl W,⟨T,hd⟩,_,p,Obj.cls_mapFields _ _,_,g⟩);by_cases H:b∈(m::j).filterMap (·.frame);refine l6 (λS es ep B r=>aa λab lo=>?_) (AD F H);rw [w] at B;obtain rfl:=an B;refine am (λsl hs=>?_) (d.2.2 b o w);refine .inr (.inl ⟨r,lo,sl,?_⟩);rw [nJ _ _ (u8 t)];exact AL _ hs;refine .inl ?_;rw [nJ _ _ (u8 t)];exact AL _ ((d.2.1 b H).trans w);rw [Array.getElem?_setIfInBounds_ne (by decide)];exact h0;simp [C]
theorem r6 {base:Heap} {lo:Addr} (x:om s.heap base e X y fl) (k:∀q,LH base X lo s.heap q->fk q base e X y->Q () {s with heap:=q}):wpAny M A (setFlight (.ref e) none) Q E s:=by obtain ⟨w,z,T,oT,ts,u,m,hd,t,l,d,r,n,a,v⟩:=x;haveI c:=(xl.mp v).1;have other:∀b,b≠T->(s.heap.update T (Obj.mapFields (·.setIfInBounds 3 ((none:Option Addr).elim Value.none λf=>rawInt f)))).get? b=s.heap.get? b:=λb p=>nJ _ _ (u8 p);have g:=fU (Obj.mapFields (·.setIfInBounds 3 ((none:Option Addr).elim Value.none λf=>rawInt f))) r (Obj.isFreed_of_fields (nM a _));refine ff (wpAny_field u hd t ?_);rw [bn (show (Value.ref T !=Value.none)=true from rfl)];refine wpAny_setField r a c (k _ ⟨by rw [Heap.size_update];exact lv _,λb o p=>?_⟩ ?_);by_cases j:b=T;subst j;rw [r] at p;obtain rfl:=an p;exact .inr (.inr ⟨l,.inr n,⟨ts,a⟩,_,g,Obj.cls_mapFields _ _,_,nM a _⟩);exact .inl ((other b j).trans p);exact ⟨w,z,T,_,_,(other e (u8 d)).trans u,m,hd,t,l,d,g,(Obj.cls_mapFields _ _).trans n,nM a _,by simp [c]⟩
def rp (h base:Heap) (X e:Addr) (a:Value):Prop:=Dt X h e a\/fk h base e X a
theorem zF {base:Heap} {X:Addr} (w:A.frames=some (g::d)) (F:Cf a s.heap (g::d)) (H:g.frame=some L) (kb:∀b o,base.get? b=some o->∃R,s.heap.get? b=some R) (B:base.get? e=none) (x:rp s.heap base X e a0) (k:∀j,LH base X a.objs.size s.heap j->om j base e X a0 (rawInt L)->Q () {s with heap:=j}):wpAny M A (noteFrame (.ref e) g) Q E s:=by
 refine to x (λt=>?_) λt=>?_;obtain ⟨oe,vs,p,C,hd,v,P⟩:=t;unfold noteFrame;simp only [H];refine ff (wpAny_field p hd v ?_);rw [al (by decide)];exact CZ w F H kb p B C hd (xl.mp v).1 P k;obtain ⟨oe,vs,T,oT,ts,p,⟨l,P⟩,hd,v,u,S,n,y,c,Y⟩:=t;unfold noteFrame;simp only [H];refine ff (wpAny_field p hd v ?_);rw [bn (show (Value.ref T !=Value.none)=true from rfl)];refine ff (wpAny_field n c Y ?_);rw [al (by simp [rawInt]:¬((Value.none==rawInt L)=true))];refine ff (wpAny_setField n c (xl.mp Y).1 ?_);have other:∀b,b≠T->(s.heap.update T (Obj.mapFields (·.setIfInBounds 3 Value.none))).get? b=s.heap.get? b:=λb m=>nJ _ _ (u8 m);have O:=fU (Obj.mapFields (·.setIfInBounds 3 Value.none)) n (Obj.isFreed_of_fields (nM c _));have st:LH base X a.objs.size s.heap (s.heap.update T (Obj.mapFields (·.setIfInBounds 3 Value.none))):=⟨by rw [Heap.size_update];exact lv _,λb o m=>by by_cases r:b=T;subst r;rw [n] at m;obtain rfl:=an m;exact .inr (.inr ⟨u,.inr y,⟨ts,c⟩,_,O,Obj.cls_mapFields _ _,_,nM c _⟩);exact .inl ((other b r).trans m)⟩;have F':Cf a (s.heap.update T (Obj.mapFields (·.setIfInBounds 3 Value.none))) (g::d):=λJ U=>by refine aa (λkd=>xw λZ o es ep I=>pt λW C V lo=>?_) (F J U);refine ⟨kd,Z,o,es,ep,I,(other Z λq=>?_).trans W,C,V,lo⟩;rw [q,n] at W;obtain rfl:=an W;rw [y] at C;exact eG (by decide) C
 refine CZ (base:=base) w F' H (λb o q=>?_) ((other e (u8 S)).trans p) B l hd (xl.mp v).1 P λj N ht=>k j (st.trans N) ht;refine am (λR J=>?_) (kb b o q);exact ⟨R,(other b λz=>by rw [z,u] at q;injection q).trans J⟩
theorem Al {base:Heap} {X:Addr} (j:A.frames=some (d::c)) (F:Cf a s.heap (d::c)) (t:d.frame=some L) (v:∀b o,base.get? b=some o->∃u,s.heap.get? b=some u) (n:base.get? e=none) (x:rp s.heap base X e q) (k:∀g,LH base X a.objs.size s.heap g->fk g base e X q->Q () {s with heap:=g}):wpAny M A (leaving d (.ref e)) Q E s:=by exact ff (zF j F t v n x λg st r=>r6 (lo:=a.objs.size) r λm l p=>k m (st.trans l) p)
theorem LH.own {lo:Addr} (st:LH base X lo h B) (R:f8 j w y g h) (hl:∃l,g.aH l a) (e:h.get? a=some o):B.get? a=some o:=by rcases st.2 a o e with A|t|t;exact A;revert t;refine aa λc Y=>?_;rcases R.tF e hl with ⟨z,_⟩|⟨z,_⟩|⟨⟨_,z⟩,_⟩|⟨z,_⟩<;>(rw [c] at z;first| (exact absurd z (eG (by decide)))|injection z);revert t;refine pt λY c=>am λE d Y=>?_;rcases R.tF e hl with t|t|t|t;revert t;refine aa λY=>EN λY Y z=>?_;rw [d] at z;injection z;revert t;refine aa λY=>EN λY Y z=>?_;rw [d] at z;injection z;revert t;refine aa λY z=>?_;rw [d] at z;injection z;revert t;refine aa λz Y=>?_;rw [z] at c;rcases c with c|c<;>injection c
theorem LH.mv {lo:Addr} (st:LH base X lo h E) (R:f8 j w y g h):Mv g h g E:=⟨λ_ e=>⟨e,rfl⟩,λa o e hn A F hk=>⟨by rcases st.2 a o e with B|t|t;exact B;revert t;refine aa λc Y=>?_;exact absurd c A;revert t;refine im λY c Y=>?_;rcases hk with q|q|q|q<;>rw [q] at c<;>rcases c with c|c<;>first|cases c|exact absurd c (eG (by decide)),hn⟩,R.cE⟩
theorem f8.bY {base:Heap} (R:f8 A w j g h) (st:LH base X j.objs.size h B) (hb:j.StaysIn base) (hp:∀a∈g.pv,∃o,base.get? a=some o):f8 A w j g B:=by refine ⟨λl E e=>EM.mv (st.mv R) rfl rfl (λa o z y=>st.own R ⟨l,by rw [e];rfl,z⟩ y) (R.at_ l E e),R.inj,R.above,λa o e=>?_,be R.sz st.1,λa ha=>?_⟩;rcases st.2 a o (R.base a o e) with y|t|t;exact y;revert t;refine im λY lo Y=>?_;exact absurd (r8 e) (Da.mpr lo);revert t;refine aa λq Y=>?_;rw [hb a o e] at q;injection q;refine im (λp q=>ac λo e c=>?_) (R.aG a ha);refine ⟨p,q,o,?_,c⟩;rcases st.2 a o e with y|t|t;exact y;revert t;refine aa λz Y=>?_;exact absurd z c.1;revert t;refine aa λz Y=>?_;refine am (λF y=>?_) (hp a ha);rw [y] at z;injection z
theorem Cf.bY {lo:Addr} (F:Cf j h l) (st:LH base X lo h H):Cf j H l:=λe he=>by refine aa (λk=>xw λL o B A E=>pt λI hc hd lo=>?_) (F e he);rcases st.2 L o I with y|t|t;exact ⟨k,L,o,B,A,E,y,hc,hd,lo⟩;revert t;refine im λY Y=>am λJ y=>?_;exact ⟨k,L,_,B,A,E,y,hc,hd,lo⟩;revert t;refine im λY c Y=>?_;rw [hc] at c;rcases c with c|c;injection c;exact absurd c (eG (by decide))
theorem ga.bY {lo:Addr} (x:ga S g h I j) (st:LH h X lo j J) (R:f8 E w F g h):ga S g h I J:=by refine ⟨λa o e hn B=>?_,x.af,x.new,be x.size st.1,x.pv,λa o hp hn e B=>?_⟩;rcases x.keep a o e hn B with e1|t;rcases st.2 a o e1 with e2|t|t;exact .inl e2;revert t;refine im λc Y=>am λy e2=>?_;exact .inr ⟨c,y,e2⟩;revert t;refine aa λq Y=>?_;rw [e] at q;injection q;revert t;refine aa λc=>am λy e1=>?_;rcases st.2 a _ e1 with e2|t|t;exact .inr ⟨c,y,e2⟩;revert t;refine im λY Y=>am λA e2=>?_;exact .inr ⟨c,A,e2⟩;revert t;refine aa λq Y=>?_;rw [e] at q;injection q;haveI e1:=x.aY a o hp hn e B;rcases st.2 a o e1 with e2|t|t;exact e2;revert t;refine aa λc Y=>?_;refine im (λY Y=>nw λN H L Y=>?_) (R.aG a hp);rw [e] at H;obtain rfl:=an H;exact absurd c L;revert t;refine aa λq Y=>?_;rw [e] at q;injection q
theorem f8.CL (R:f8 j w y g h) (x:ga S g h A B):∀a∈A.pv,∃o,h.get? a=some o:=λa ha=>by refine im (λY Y=>ac λo e Y=>?_) (R.aG a (x.pv▸ha));exact ⟨o,e⟩
theorem Ev.bY {B:G} (R:f8 y w j g s.heap) (P:Ev y w j A g s B E) (st:LH s.heap X j.objs.size E.heap F):Ev y w j A g s B {E with heap:=F,toks:=tk}:=⟨P.rel.bY st R.base (R.CL P.ext),P.ext.bY st R,P.gens,P.os⟩
theorem sK.bY {A:G} (R:f8 y w j g s.heap) (P:sK y w j g s A B) (st:LH s.heap X j.objs.size B.heap E):sK y w j g s A {B with heap:=E,toks:=tk}:=⟨P.rel.bY st R.base (R.CL P.ext),P.ext.bY st R,P.gens,P.os⟩
theorem Heap.Hr {lo:Addr} (st:LH base X lo h B) (x:h.Ns L m):B.Ns L m:=by revert x;refine l6 λo A y e hd r=>?_;rcases st.2 L o e with j|t|t;exact ⟨o,A,y,j,hd,r⟩;revert t;refine im λY Y=>am λE j=>?_;exact ⟨_,A,y,j,hd,r⟩;revert t;refine pt λY Y=>am λF q Y=>?_;rw [hd] at q;injection q
theorem Heap.C9 {lo:Addr} (st:LH base X lo h y) (x:h.IsCell c v):y.IsCell c v:=by revert x;refine ac λo e hd=>?_;rcases st.2 c o e with j|t|t;exact ⟨o,j,hd⟩;revert t;refine im λY Y=>am λA j=>?_;exact ⟨_,j,hd⟩;revert t;refine pt λY Y=>am λB q Y=>?_;rw [hd] at q;injection q
theorem FR.bY {lo:Addr} (F:FR j w g h B aj J) (R:f8 j w E g h) (st:LH base X lo h I):FR j w g I B aj J:=by obtain ⟨⟨m,hn,H⟩,N,hc,A,ha,nd⟩:=F;refine ⟨⟨m,Heap.Hr st hn,λi y mv e1 e2 e3=>?_⟩,N,λi y mv e1 e2 e3=>?_,λy e=>?_,ha,nd⟩;refine ac (λv a b=>?_) (H i y mv e1 e2 e3);exact ⟨v,a,VR.mv (st.mv R) b⟩;refine pi (λc v a b d=>?_) (hc i y mv e1 e2 e3);exact ⟨c,v,a,Heap.C9 st b,VR.mv (st.mv R) d⟩;refine tz (λc L a b=>?_) (A y e);exact ⟨c,L,a,Heap.C9 st b⟩
theorem dh.here (x:dh X h e E):∃ea j,e= .ref ea/\h.get? ea=none/\rp E.heap h X ea j:=let ⟨ea,j,y,A,B⟩:=x;⟨ea,j,y,A,B⟩
theorem fk.any (hn:h.get? ea=none) (x:fk y.heap h ea X j):dh X h (.ref ea) y:=⟨ea,j,rfl,hn,.inr x⟩
theorem yn {c:List Str} (j:d.length=c.length) (g:c.Nodup):∀{i:Nat} {x:Str},c[i]? =some x->∃v,d[i]? =some v/\(c.zip d).lookup x=some v:=by induction c generalizing d with|nil=>intro i x h;simp at h|cons p c k=>induction d using List.casesOn with|nil=>simp at j|cons v d=>intro i x h;rw [cO] at g;rw [List.zip_cons_cons,List.lookup_cons];induction i using Nat.casesOn with|zero=>simp only [List.getElem?_cons_zero,Option.some.injEq] at h;subst h;exact ⟨v,rfl,by simp⟩|succ i=>rw [ji] at h;refine ac (λu a b=>?_) (k (by simpa using j) g.2 h);(haveI e:(x==p)=false:=by rw [hO];rintro rfl;exact g.1 (Lm h));rw [e];exact ⟨u,by rw [ji];exact a,b⟩
theorem WG:∀{c:List Str} {d:List Value},d.length=c.length->c.Nodup->c.filterMap (λn=>((c.zip d).lookup n).map (n,·))=c.zip d:=by
 haveI g:∀(l:List (Str×Value)) (c:List Str) (d:List Value),d.length=c.length->(∀(i:Nat) (x:Str),c[i]? =some x->∃v,d[i]? =some v/\l.lookup x=some v)->c.filterMap (λn=>(l.lookup n).map (n,·))=c.zip d:=by intro l c;induction c with|nil=>intro d e _;simp|cons p c k=>intro d e h;induction d using List.casesOn with|nil=>simp at e|cons v d=>refine ac (λu a b=>?_) (h 0 p rfl);obtain rfl:=an a;rw [List.filterMap_cons,b,List.zip_cons_cons];show (p,v)::c.filterMap (λn=>(l.lookup n).map (n,·))=_;rw [k d (by simpa using e) λi x j=>by refine ac (λu a b=>?_) (h (i+1) x (by rw [ji];exact j));exact ⟨u,by rw [ji] at a;exact a,b⟩]
 intro c d e m;exact g _ _ _ e λi x j=>yn e m j
structure rO (fd:FuncData) (ps:List Str):Prop where
 pos:fd.params.posonlyargs=[]
 args:fd.params.args.map (·.arg)=ps
 kw:fd.params.kwonlyargs=[]
 va:fd.params.vararg=none
 ka:fd.params.kwarg=none
 df:fd.defaults= .none
theorem Eg [Decidable c] (h:¬c) (k:b=r):(if c then a else b)=r:=(al h).trans k
theorem s9 {g:FuncData} (P:rO g ps) (w:ps.Nodup) (j:d.length=ps.length):bindArgs g ⟨d,[]⟩=pure (ps.zip d):=by
 obtain ⟨B,U,⟨po,a,Q,H,I,F,C⟩,E,sc,L,N,J,A,T,O,V,S,M,R⟩:=g;obtain ⟨q,k,o,t,p,r⟩:=P;dsimp only at q k o t p r;subst q k o t p r;haveI miss:((a.map (·.arg)).filter λn=>(((a.map (·.arg)).zip d).lookup n).isNone)=[]:=List.filter_eq_nil_iff.mpr λx z=>by refine am (λi y=>?_) (lb z);refine ac (λv Y e=>?_) (yn j w y);rw [e];exact bJ
 haveI fin:(a.map (·.arg)).filterMap (λn=>(((a.map (·.arg)).zip d).lookup n).map (n,·))=(a.map (·.arg)).zip d:=WG j w;have u:∀n,List.drop n ([]:List Value)=[]:=λn=>List.drop_nil;refine Eg (c:=(decide (d.length>(a.map (·.arg)).length)&&true)=true) ?_ (Eg ?_ ?_);rw [j];simp;show ¬(!(List.filter (λn=>(((a.map (·.arg)).zip d).lookup n).isNone) ((a.map (·.arg)).take ((a.map (·.arg)).length -(List.drop (0 -(a.map (·.arg)).length) ([]:List Value)).length))).isEmpty)=true;rw [u,List.length_nil,Nat.sub_zero,List.take_length,miss];exact bJ;refine Eq.trans (l9 (λl=>forIn (m:=Sem) l _ _>>=_) (show List.zip _ (List.drop (0 -(a.map Arg.arg).length) ([]:List Value))=[] by rw [u,List.zip_nil_right])) ?_;show (pure:_->Sem (List (Str×Value))) (((a.map Arg.arg)++[]).filterMap (λn=>(((a.map Arg.arg).zip d).lookup n).map (n,·)))=_;rw [List.append_nil,fin]
theorem CQ:∀{bs:List (Str×Value)} {m:Str->Option Value},x∉bs.map (·.1)->bindL f bs m x=m x| [],_,_=>rfl| (n,v)::r,m,h=>by simp only [List.map_cons,List.mem_cons,not_or] at h;rw [CQ h.2];split;exact al h.1;rfl
theorem DK:∀{bs:List (Str×Value)} {m:Str->Option Value},x∉bs.map (·.1)->bindC f bs m x=m x| [],_,_=>rfl| (n,v)::r,m,h=>by simp only [List.map_cons,List.mem_cons,not_or] at h;rw [DK h.2];split;rfl;exact al h.1
theorem ug {a:List Str} {c:List Value} (d:c.length=a.length):(a.zip c).map (·.1)=a:=by rw [List.map_fst_zip];exact fp (Eq.symm (by assumption))
theorem wI {x:Str} (g:f x=some .local):∀{ps:List Str} {vs:List Value} {i:Nat} {m:Str->Option Value} {v:Value},vs.length=ps.length->ps.Nodup->ps[i]? =some x->vs[i]? =some v->bindL f (ps.zip vs) m x=some v| [],_,_,_,_,_,_,h,_=>by simp at h|p::ps,[],_,_,_,e,_,_,_=>by simp at e|p::ps,u::vs,i,m,v,e,d,h,c=>by rw [cO] at d;rw [List.zip_cons_cons];unfold bindL;(have a:vs.length=ps.length:=by simpa using e);induction i using Nat.casesOn with|zero=>simp only [List.getElem?_cons_zero,Option.some.injEq] at h c;subst h;subst c;rw [CQ (by rw [ug a];exact d.1),bn g,bn rfl]|succ i=>rw [ji] at h c;exact wI g a d.2 h c
theorem zx {x:Str} (k:f x=some .cell):∀{a:List Str} {d:List Value} {i:Nat} {m:Str->Option Value} {v:Value},d.length=a.length->a.Nodup->a[i]? =some x->d[i]? =some v->bindC f (a.zip d) m x=some v| [],_,_,_,_,_,_,h,_=>by simp at h|p::a,[],_,_,_,j,_,_,_=>by simp at j|p::a,u::d,i,m,v,j,g,h,e=>by rw [cO] at g;rw [List.zip_cons_cons];unfold bindC;(have c:d.length=a.length:=by simpa using j);induction i using Nat.casesOn with|zero=>simp only [List.getElem?_cons_zero,Option.some.injEq] at h e;subst h;subst e;rw [DK (by rw [ug c];exact g.1),al (by rw [k];decide),bn rfl]|succ i=>rw [ji] at h e;exact zx k c g.2 h e
theorem br.at:∀{B:List MV} {A:List Value} {i:Nat} {m:MV},br j w g h B A->B[i]? =some m->∃v,A[i]? =some v/\VR j w g h m v| [],_,_,_,_,e=>by simp at e|a::l,A,i,m,V,e=>by revert V;refine pi λv r=>?_;rintro rfl x y;induction i using Nat.casesOn with|zero=>simp only [List.getElem?_cons_zero,Option.some.injEq] at e;subst e;exact ⟨v,rfl,x⟩|succ i=>rw [ji] at e;refine ac (λu a b=>?_) (br.at y e);exact ⟨u,by rw [ji];exact a,b⟩
noncomputable def cb (a:List Str) (c:List MV):ee:=c.map some++List.replicate (a.length - c.length) none
theorem Bl {c:List MV} (h:c.length<=a.length):(cb a c).length=a.length:=by unfold cb;rw [Ll,FB,List.length_replicate];exact Nat.add_sub_of_le h
theorem RJ {a:List MV} {i:Nat} (h:(cb c a)[i]? =some (some g)):a[i]? =some g:=by
 unfold cb at h;by_cases d:i<a.length;rw [fV (by rw [FB];exact d),GG] at h;cases e:a[i]? with|none=>rw [e] at h;injection h|some x=>rw [e] at h;simpa using h
 rw [List.getElem?_append_right (by rw [FB];exact zj d)] at h;have:=Lm h;rw [List.mem_replicate] at this;cases this.2
theorem DI {s C:Shared} (R:f8 p w L g s.heap) (V:br p w g s.heap B M) (O:B.length=r.length) (P:uQ (r++j)) (x:UF s m (bindL m.kindOf (r.zip M) λ_=>none) (bindC m.kindOf (r.zip M) λ_=>none) C) (W:s.heap.objs.size<=C.heap.objs.size) (d:∀y,m.kindOf y≠some .free):FR p w g C.heap m (r++j) (cb (r++j) B):=by
 have N:=V.len.trans O;have t:=(List.nodup_append.mp P.1).1;haveI E:ga (λ_=>False) g s.heap g C.heap:= .grow x.keep W;have n:∀{i:Nat} {y:Str} {A:MV},(r++j)[i]? =some y->(cb (r++j) B)[i]? =some (some A)->r[i]? =some y/\B[i]? =some A:=λe1 u=>by haveI k:=RJ u;haveI T:=(BB.mp k).1;rw [fV (sX O T)] at e1;exact ⟨e1,k⟩
 refine ⟨⟨_,x.ns.1,λi y A e1 u k=>?_⟩,λl q=>?_,λi y A e1 u k=>?_,λy e=>?_,λa b c U Q S=>x.apart a b c U Q S,P⟩;refine aa (λJ F=>?_) (n e1 u);refine ac (λv I H=>?_) (V.at F);exact ⟨v,wI k N t J I,VR.ext E IS R H⟩;refine am (λo e=>?_) (R.lt q);exact absurd (r8 e) (Da.mpr x.fresh);refine aa (λJ F=>?_) (n e1 u);refine ac (λv I H=>?_) (V.at F);rcases k with k|k;refine am (λc z=>?_) (x.has y k);have:=(x.cell y c k z).1;rw [zx k N t J I] at this;exact ⟨c,v,z,this,VR.ext E IS R H⟩;exact absurd k (d y);rcases e with e|e;refine am (λc z=>?_) (x.has y e);exact ⟨c,_,z,(x.cell y c e z).1⟩;exact absurd e (d y)
theorem jF (e:(if b=true then some m else none)=some a):b=true/\m=a:=by induction b using Bool.casesOn with|true=>exact ⟨rfl,an e⟩|false=>injection e
theorem VE (V:VR a w g h m u) (e:(if dS D m=true then some m else none)=some c):VR a w (g.cut D) h c u:=(jF e).2▸VR.cut (jF e).1 V
set_option tactic.hygienic true in theorem Ca (lo:sysModules<j.objs.size) (R:f8 a w j g h) (V:VR a w g h v u) (e:m4 D g.C v=some y):VR a w (g.cut D) h y u:=by induction v using MV.casesOn with|af l=>revert V;refine aa ?_;rintro rfl o;by_cases k:D l=true;revert e;show ite (D l=true) _ _=some y->_;rw [bn k];(have c:¬(g.cut D).aK (g.ι l):=by rintro (⟨x,q⟩|q);haveI F:=R.inj x l _ (G.fX q) ⟨o,.inl rfl⟩;subst F;have:=q.1;rw [show (g.cut D).C x=none from bn k] at this;injection this;exact (R.aG _ q).1 l ⟨o,.inl rfl⟩);(cases A:g.C l with|none=>exact λe=>nomatch e|some E=>induction E using OV.casesOn with|list H=>intro e;refine aa (λt d=>?_) (jF e);subst d;refine aa (λY=>tz λn C r z=>?_) (R.at_ l _ A);exact ⟨_,n,C,rfl,r,c,br.cut t z⟩|aM I H=>intro e;refine aa (λt d=>?_) (jF e);subst d;refine aa (λY=>nw λp r B z=>?_) (R.at_ l _ A);exact ⟨_,p,rfl,r,(R.above l _ ⟨o,.inl rfl⟩).2.elim (Op lo) id,c,B,br.cut t z⟩|_=>exact λe=>nomatch e);obtain rfl:=an ((al k).symm.trans e);exact VR.cut (m:= .af l) (Bool.eq_false_iff.mpr k▸rfl:(!D l)=true) (⟨rfl,o⟩:_=_/\_)|_=>exact VE V e
structure kJ (K:Frag) (fa:Addr) (fd:FuncData) (body:List Stmt) (ps qD:List Str):Prop where
 is:sL K fa fd body
 aC:rO fd ps
 kinds:∀x∈ps,fd.scope.names.lookup x=some .local\/fd.scope.names.lookup x=some .cell
 xB:∀y,fd.scope.names.lookup y≠some .free
 nd:uQ (ps++qD)
structure sP (dL:Heap) (fd:FuncData) (ba:Env):Prop extends FS dL ba where
 scope:ba.scope=fd.scope
 code:ba.code=fd.code
 qual:ba.qual=fd.qualname++".<locals>."
theorem qQ (C:Cx K s.heap) (F:kJ K E z body r u) (l:A.depth<recursionLimit) (H:0<s.toks) (M:dL.objs.size<=s.heap.objs.size) (B:k.length=r.length) (h:∀a g,sP dL z a->0<g.toks->UF s a (bindL a.kindOf (r.zip k) λ_=>none) (bindC a.kindOf (r.zip k) λ_=>none) g->wpAny (model j w) (A.deeper a) (execs body a) (λf g=>R (.ok (.ret (match f with| .ret v=>v|_=> .none))) g) (λe g=>wpAny (model j w) (A.deeper a) (leaving a e) (λ_ m=>R (.error e) m) (λI m=>R (.error I) m) g) g):codeAny (model j w) A (.call (.ref E) ⟨k,[]⟩) R s:=by
 obtain ⟨F,P,L,_,S⟩:=F;refine fc (λc d W T=>?_) F.obj;have p:=(List.nodup_append.mp S.1).1;refine codeAny_call_function l (C.X _ _ T) rfl F.pZ F.og F.body (codeRec_of C.X F.code) ?_;rw [s9 P p B];refine i8 ?_;refine xe (ic H (vP (Q:=λa g=>g.heap.NoLimit/\(0<g.toks->codeAny (model j w) A (.func body a) R g)) F.kind (λx J=>L x.1 ?_) (.inl F.closure) λa g n X x=>⟨?_,λt=>codeAny_func (h a g ?_ t x)⟩)) (λa g q=>⟨q.2.1,q.2.2 q.1⟩) λ_ _ q=>q.2;have:=jf (f:=(·.1)) J;rw [ug B] at this;exact this;refine EN (λV U=>?_) x.same;rintro rfl;exact C.nolimit.keeps x.keep;have o:a.scope=z.scope:=by rw [n];rfl
 refine ⟨⟨⟨by rw [o];exact F.kind,by rw [n];exact F.globals,by rw [n];exact F.builtins⟩,by rw [n];rfl,λy c N O=>?_⟩,o,by rw [n];rfl,by rw [n];rfl⟩;exact be M (be x.fresh (Co (x.cell y c N O).2))
theorem XE (TK:GM d w K c T) (F:kJ K fa fd body M B) (a:fM A (n+1)) (R:f8 d w c g s.heap) (fs:∃m l,A.frames=some (m::l)/\Cf c s.heap (m::l)) (t:0<s.toks) (V:br d w g s.heap vs ws) (hv:vs.length=M.length) (Z:∀A' j,NJ true A' n->sP c fd j->HT d w c J A' j (M++B) body W) (hw:W (cb (M++B) vs) g.C (λ_ C'=>Fz g.C Q .none C') (Fz g.C Q) X):codeAny (model d w) A (.call (.ref fa) ⟨ws,[]⟩) (BU d w c J g s Q X) s:=by
 have ab:=V.len.trans hv;refine qQ (dL:=c) (TK.cx.keeps R.base) F (by have:=a.depth;rw [show recursionLimit=1000 from rfl];exact yu this) t R.sz ab λj H N t' x=>?_;revert fs;refine tz λm l ai hF=>?_;have hL:j.locals<H.heap.objs.size:=by refine aa (xy λo Y Y e Y Y=>?_) x.ns;exact r8 e
 have hz:=Co (wn x.fresh hL);have O:sK d w c g s g H:=⟨R.grow x.keep hz,.grow x.keep hz,by refine EN (λY Y e=>?_) x.same;rw [e],by refine EN (λY Y e=>?_) x.same;rw [e]⟩;have C:(A.deeper j).frames=some (j::m::l):=Around.frames_deeper ai;have F':Cf c H.heap (j::m::l):=λe he=>by rcases LB.mp he with rfl|he;refine aa (l6 λo es ep e hd Y=>ac λo' e' hc=>?_) x.ns;rw [e] at e';obtain rfl:=an e';exact ⟨N.kind,_,o,es,ep,N.fr,e,hc,hd,be R.sz x.fresh⟩;refine aa (λk=>xw λL o es ep h1=>aa λh2 h3=>?_) (hF e he);exact ⟨k,L,o,es,ep,h1,x.keep _ _ h2,h3⟩
 have S:i4 d w c (A.deeper j) j (M++B) (cb (M++B) vs) g H:=⟨O.rel,DI R V hv F.nd x hz λy=>by show j.scope.names.lookup y≠_;rw [N.scope];exact F.xB y,⟨j,m::l,C,rfl,F'⟩⟩;have I:∀{S:Addr->Prop} {z U},ga (MW j) g H.heap z U->ga (λ_=>False) g s.heap z U:=λ{S z U} y=>((O.ext.mono λ_ h=>h.elim).trans y).young λb Z=>by rcases Z with rfl|t;exact x.fresh;revert t;refine ac λy hk hl=>?_;exact be x.fresh (Co (x.cell y b hk hl).2)
 have p:∀{z r},Ev d w c j g H z r->sK d w c g s z r:=λP=>⟨P.rel,I (S:=λ_=>False) P.ext,P.gens.trans O.gens,P.os.trans O.os⟩;have fin:∀{z r v u},Ev d w c j g H z r->VR d w z r.heap v u->Fz g.C Q v z.C->u7 d w c g s Q u r:=λ{z r v u} P V q=>by rcases q with q|⟨D,v',hD,e,q⟩;exact ⟨z,v,p P,V,q⟩;have E:=p P;exact ⟨z.cut D,v',⟨E.rel.cut hD,E.ext.cut hD.1,E.gens,E.os⟩,Ca TK.lo E.rel V e,q⟩
 refine xe (Z (A.deeper j) j a.body N _ g H _ _ X S (Bl (by rw [Ll];exact A4 hv)) t' hw) (λf r y=>?_) λe r y=>?_;induction f using Flow.casesOn with|next=>obtain ⟨z,ak,P,_,_,_,q⟩:=y;exact fin P (by rfl) q|ret v=>obtain ⟨z,mv,P,V',q⟩:=y;exact fin P V' q|brk=>exact y.elim|cont=>exact y.elim
 obtain ⟨z,P,Fs,hx,q⟩:=y;have E:=p P;refine pi (λea a0=>?_) ((hx.qv O).here);rintro rfl hn hx;replace Fs:=C▸Fs;refine Al (base:=s.heap) C Fs N.fr (λb o e=>E.ext.alive E.rel (λ_ q=>q.elim) e) hn hx λU st ht=>?_;exact ⟨z,E.bY R st,ht.any hn,q⟩
theorem Rx l (h:TriplesOk l) (e:codeAmong pos (l++[rawInt a,rawInt b,c])=some g):codeAmong pos l=some g\/g=c:=by fun_induction TriplesOk l with|case1=>simp only [List.nil_append,rawInt,codeAmong] at e;split at e;obtain rfl:=an e;exact .inr rfl;simp [codeAmong] at e|case2 p t o u x j k=>simp only [List.cons_append,codeAmong] at e⊢;split at e;rename_i d;rw [bn d];exact .inl e;rename_i d;rw [al d];exact k h e|case3 l m n=>exact h.elim
end
section
variable {mg:Str->Option Value}
 {pq:List (Str×Addr)} {Q:Value->Shared->Prop}
theorem Fx (W:closureFor scope j=pure pq) (I:j.globals=mainGlobals) (hg:s.heap.Ns mainGlobals mg) (v:j.code= .ref c) (C:CodeHd s.heap c P) (hP:s.heap.get? P=some (tabObj S)) (ht:TriplesOk S.toList) (ab:codeAmong pos S.toList=none) (X:mainGlobals≠P) (hb:s.heap.BuiltinsAt mg P) (h:∀p o J t pm l m L,Heap.ExtBut P s.heap m->s.heap.objs.size<=p->p<m.objs.size->m.get? p=some o->o.cls= .type "code" ->o.data= .fields J->J[1]? =some (.str g t)->m.get? P=some (tabObj (S++ #[rawInt pos.line,rawInt pos.col,.ref p]))->Q (.ref m.objs.size) {s with heap:=m.push (kla_obj name g params body scope pq pm p l),toks:=L}):wpAny M A (makeFunction name g params (.expr body) scope j [] [] [] pos d) Q E s:=by
 revert hb;refine Cc λbm ob O y Y=>gY λx N z w u=>?_;haveI F:∀a:Shared,(∀b o,s.heap.get? b=some o->a.heap.get? b=some o)->s.heap.objs.size<=a.heap.objs.size->(∃hh,a={s with heap:=hh})->∀l,wpAny M A (do let cd<- functionCode j pos d name g params scope (.expr body);let bt<- builtinsFor mainGlobals j.builtins;let pm<- nsGet mainGlobals "__name__";let U<-(pure .none:Sem Value);newObj (.type "function") (.func {name,qualname:=g,params,body:= .expr body,scope,globals:=mainGlobals,closure:=pq,closureTuple:=l,code:=cd,builtins:=bt,defaults:= .none,kwdefaults:= .none,annotations:=none,pyModule:=pm.getD .none,doc:=U})) Q E a:=by intro a k hz;refine am λhh=>?_;rintro rfl;intro l;refine ff (wpAny_functionCodeX v ((C.keeps k).code (k _ _ hP) ht) ((C.keeps k).tab (k _ _ hP)) ab λp m L T ai R _ B Z V=>?_);haveI H:=(hg.keeps k).extBut T X;refine ff (wpAny_builtinsFor H O y (T _ _ x (k _ _ N)) z w u ?_);refine ff (wpAny_nsGet H ?_);revert B;refine xw λak o J t n=>im λho hd hv=>?_;injection n with n;subst n;revert V;refine At λP' Y Y=>Cc λo' ap e1 n e3 Y Y=>?_;rw [ho] at e1;obtain rfl:=an e1;exact ff (i8 (wpAny_newObj_type (h p o J t _ l m L (λb o e1 n=>T b o e1 (k b o n)) (be hz ai) R ho n hd hv Z.2) (by size_fits)))
 rw [makeFunction_eq];simp only [List.zip_nil_right,List.filterMap_nil,List.isEmpty_nil,if_true,pure_bind];unfold makeTail;rw [W,I];refine ff (i8 ?_);induction pq using List.casesOn with|nil=>simp only [List.isEmpty_nil,if_true];exact ff (i8 (F s (λ_ _ e=>e) (lv _) ⟨_,rfl⟩ _))|cons q r=>simp only [List.isEmpty_cons,Bool.false_eq_true,if_false];exact ff (wpAny_newTextTuple (F _ (λ_ _ e=>AL _ e) (by show _<=(Heap.push _ _).objs.size;rw [DO];exact s4 _) ⟨_,rfl⟩ _))
structure mH (K:Frag):Prop where
 bm:∃b sl,nsIn K mainGlobals "__builtins__" =some (some (.ref b))/\b≠builtinsNs/\b≠mainGlobals/\K.lookup b=some ⟨.type "module",some builtinsNs,.plain,sl⟩
end
section
variable {K:Frag}
structure vK (ba:Env) (scope:Scope):Prop where
 kind:scope.kind= .function
 pZ:scope.isCoroutine=false
 og:scope.isGenerator=false
 kinds:∀y∈scope.names,y.2= .free\/y.2= .globalImplicit
 free:∀y∈scope.names,y.2= .free->ba.kindOf y.1=some .cell\/ba.kindOf y.1=some .free
def D4 (h:Heap) (f:Addr) (q:Str) (a:Arguments) (body:Expr) (c:Scope) (g:List (Str×Addr)):Prop:=∃j e d,h.get? f=some {cls:= .type "function",data:= .func (kla_fn "<lambda>" q a body c g j e d)}/\h.CodeRec e q
theorem GO {i:Nat} (TK:GM r w K n T) (LC:mH K) (EI:YO p) (I:p.code= .ref c) (C:CodeHd n c P) (hq:p.qual++"<lambda>" =q) (S:i4 r w n A p a0 ρ g s) (t:0<s.toks) (hC:g.C (.code i)=some (.tab P q)) (LO:vK p j) (U:defaultsOf d p=([],[])) (k:∀f B F,sK r w n g s g B->0<B.toks->D4 B.heap f q d body j F->s.heap.objs.size<=f->(∀y,(y,NameKind.free)∈j.names->F.lookup y=p.cells.lookup y)->Φ (.ref f) B):wpAny (model r w) A (eval (.Lambda d body j pos) p) Φ E s:=by
 refine kla_eval U ?_;rw [hq];refine s3 λ_ kk=>?_;refine am (λW O=>?_) TK.cx.g;refine Cc (λbm a4 b1 b2 b3 b4=>?_) LC.bm;refine im (λd1 d2=>nw λps hP L X=>?_) (S.rel.at_ _ _ hC);have ab:n.get? P=none:=by have:=(S.rel.above (.code i) P ⟨by rw [hC];rfl,.inl d2.symm⟩).1;exact this
 have a2:mainGlobals≠P:=λz=>by revert O;refine xy λo Y Y e Y=>?_;rw [z,ab] at e;injection e
 haveI ax:bm≠P:=λz=>by have:=TK.cx.X _ _ b4;rw [z,ab] at this;injection this
 haveI as:=mg_of TK.cx.X O b1;have st:=S.rel.base;have M:=O.keeps st;have ap:∀y∈j.names,y.2= .free->∃c,p.cells.lookup y.1=some c:=λy hy e=>by refine tz (λc vo a Y=>?_) (S.fr.cells y.1 (LO.free y hy e));exact ⟨c,a⟩
 refine nw (λF Z l1 l2=>?_) (mL ap);have BA:s.heap.BuiltinsAt W P:=⟨bm,_,as,b2,b3,ax,st _ _ (TK.cx.X _ _ b4),rfl,rfl,rfl⟩;refine kk ?_;cases hf:codeAmong pos ps.toList with|some cv=>refine xe (ic (Q:=λv B=>0<B.toks->Φ v B) t ?_) (λv B x=>x.2 x.1) λ_ _ x=>x.2;refine kla_makeFunctionHit (mg:=W) Z EI.glob M I (C.keeps st) hP L hf BA λm N tk kp hz tp=>?_;have u:∀b o,s.heap.get? b=some o->(N.push {cls:= .type "function",data:= .func (kla_fn "<lambda>" q d body j F ((W "__name__").getD .none) cv m)}).get? b=some o:=λb o e=>AL _ (kp b o e);(haveI H:s.heap.objs.size<=(N.push {cls:= .type "function",data:= .func (kla_fn "<lambda>" q d body j F ((W "__name__").getD .none) cv m)}).objs.size:=by rw [DO];exact nA (by assumption));refine k _ _ F ⟨S.rel.grow u H,.grow u H,rfl,rfl⟩ tp ⟨_,cv,m,LF _ rfl,?_⟩ hz l1;refine s3 λ_ kk=>?_;refine xw (λJ o vs t' e1=>gY λe2 Y e4 e5 Y=>?_) (X _ _ hf);refine kk ?_;exact ⟨J,o,vs,t',e1,u _ _ e2,e4,e5⟩|none=>refine xe (ic (Q:=λv B=>0<B.toks->Φ v B) t ?_) (λv B x=>x.2 x.1) λ_ _ x=>x.2;refine Fx (mg:=W) Z EI.glob M I (C.keeps st) hP L hf a2 BA λJ o vs t' pm m N tk hx R av ho a1 ak ai a3 tp=>?_;(have hl:(g.C (.code i)).isSome=true:=by rw [hC];rfl);(have eC:g.upd (.code i) (.tab P q)=g:=by show G.mk _ _ _ _=g;have:up g.C (.code i) (.tab P q)=g.C:=TM hC λ_ _=>rfl;rw [this]);have V:∀a,g.aH (.code i) a↔a=P:=λa=>⟨λz=>by rcases z.2 with z|z;exact z.trans d2;exact (z.trans d1).trans d2,λz=>⟨hl,.inl (z.trans d2.symm)⟩⟩;haveI hz:=be R (Co av);have u:∀b o',¬g.aH (.code i) b->s.heap.get? b=some o'->(N.push (kla_obj "<lambda>" q d body j F pm J m)).get? b=some o':=λb o' hn e=>AL _ (hx b o' (λz=>hn ((V b).mpr z)) e);(haveI H:s.heap.objs.size<=(N.push (kla_obj "<lambda>" q d body j F pm J m)).objs.size:=by rw [DO];exact nA (by assumption));(have E1:ga (λ_=>False) g s.heap g (N.push (kla_obj "<lambda>" q d body j F pm J m)):=by have:=ga.set (S:=λ_=>False) (ov:= .tab P q) hl u H;rwa [eC] at this);(haveI R1:f8 r w n g (N.push (kla_obj "<lambda>" q d body j F pm J m)):=by have:=S.rel.set (ov:= .tab P q) hl u H ?_;rwa [eC] at this;rw [eC];refine ⟨d1,d2,_,AL _ a3,?_,λar cv e=>?_⟩;simpa using TriplesOk_snoc pos.line pos.col (.ref J) _ L;(have e':codeAmong ar (ps.toList++[rawInt pos.line,rawInt pos.col,.ref J])=some cv:=by simpa using e);refine to (Rx _ L e') (λe'=>?_) λe'=>?_;exact (X _ _ e').mv (S.rel.mv E1 IS);subst e';refine ⟨J,o,vs,t',rfl,AL _ ho,a1,ak,ai,?_⟩;rintro (⟨l,z⟩|z);refine am (λob e=>?_) (S.rel.lt z);exact absurd (r8 e) (Da.mpr R);exact S.rel.cY R z);refine k _ _ F ⟨R1,E1,rfl,rfl⟩ tp ⟨pm,_,m,LF _ rfl,J,o,vs,t',rfl,AL _ ho,ak,ai⟩ hz l1
end
structure sy (K:Frag) (l8:Addr) (fr:Addr) (fd:FuncData):Prop where
 code:∃p1 p2 p3 p4 k1 p5 p6 p7 p8 k2 p9 vD,kJ K fr fd [.Try [.Expr (.Call (.Name "call" p1) [] [] p2) p3] [.ExceptHandler (some (.Name "SheetFault" p4)) none [.Return (some (.Constant (.bool true) k1 p5)) p6] p7] [] [] p8,.Return (some (.Constant (.bool false) k2 p9)) vD] ["call"] []
 name:nsIn K mainGlobals "_law_refused" =some (some (.ref fr))
 keep:keepIn K (.ref fr)=true
 exc:nsIn K mainGlobals "SheetFault" =some (some (.ref l8))
 kc:fd.scope.names.lookup ("call" :Str)=some .local
 ks:fd.scope.names.lookup ("SheetFault" :Str)=some .globalImplicit
section
variable {K:Frag}
theorem Qi (F:Cf a h l) (R:f8 c w a g h) (x:ga (λ_=>False) g h e d):Cf a d l:=F.ext x R λ_ _ _ _ q=>q
theorem Cf.cons (F:Cf y s.heap l) (hz:y.objs.size<=s.heap.objs.size) (hk:j.scope.kind= .function) (P:j.frame=some j.locals) (x:UF s j m Q N):Cf y N.heap (j::l):=λe he=>by rcases LB.mp he with rfl|he;refine aa (l6 λo B A e hd Y=>ac λR E hc=>?_) x.ns;rw [e] at E;obtain rfl:=an E;exact ⟨hk,_,o,B,A,P,e,hc,hd,be hz x.fresh⟩;refine aa (λk=>xw λL o B A H=>aa λI J=>?_) (F e he);exact ⟨k,L,o,B,A,H,x.keep _ _ I,J⟩
theorem UF.size (x:UF s y m A j):s.heap.objs.size<=j.heap.objs.size:=by refine aa (xy λo Y Y e Y Y=>?_) x.ns;exact Co (wn x.fresh (r8 e))
theorem UF.post (x:UF s B m E A) (R:f8 j w y g s.heap):sK j w y g s g A:=⟨R.grow x.keep x.size,.grow x.keep x.size,by refine EN (λY Y e=>?_) x.same;rw [e],by refine EN (λY Y e=>?_) x.same;rw [e]⟩
theorem Hg (a:NJ r A n):A.depth<=900:=by have:=a.depth;split at this<;>lia
theorem ES.refused (TK:GM J w K I T) (LC:mH K) (RF:sy K a3 fr fd) (FI:i5 K a3 fI) (EI:YO V) (a:NJ true A n) (hk:V.kindOf "_law_refused" =some .globalImplicit) (cd:V.code= .ref c) (C:CodeHd I c P) (hq:V.qual++"<lambda>" =q) (LO:vK V scope) (cn:defaultsOf H V=([],[])) (as:H.posonlyargs=[]/\H.args=[]/\H.kwonlyargs=[]/\H.vararg=none/\H.kwarg=none) (hb:∀A' bd,NJ false A' n->YO bd->bd.scope=scope->ES J w I a3 A' bd aj ρ body W):ES J w I a3 A V aj ρ (.Call (.Name "_law_refused" np) [.Lambda H body scope a4] [] pos) (λC Q _=>C (.code i)=some (.tab P q)/\W C (λ_ ar=>Q (.bool false) ar) (λar=>Q (.bool true) ar)):=λg s Q X S t hw=>by
 refine s3 λ_ kk=>?_;revert hw;refine aa λhC hw=>?_;refine rb (λp1 p2 p3 p4 k1=>rb λp5 p6 p7 p8 k2=>EN λp9 ds FO=>?_) RF.code;refine kk ?_;show wpAny _ _ (do callWith pos (<- eval (.Name "_law_refused" np) V) [] (backTo pos (starEach [.Lambda H body scope a4] V)) (backToKw pos (keywordEach [] V))) _ _ _;refine ff (jQ (TK.cx.keeps S.rel.base) EI.kind EI.glob hk (by decide+kernel) RF.name ?_);have hs:[Expr.Lambda H body scope a4].all aJ=true:=rfl;refine callWith_of (P:=K.In) (show ((backTo pos (starEach [.Lambda H body scope a4] V)).any (·.1)||_)=false by rw [(cK hs).1];rfl) (keeps_K RF.keep) (eH hs ?_);rw [kr rfl];show wpAny _ _ (spliced ((false,eval (.Lambda H body scope a4) V)::[])) _ _ _;refine spliced_cons (GO TK LC EI cd C hq S t hC LO cn λf d0 cl Z cr hL hf cs=>spliced_nil ⟨TK.cx.X.keeps Z.rel.base,?_⟩);have c0:=S.post Z;refine tz (λbi ax bm hF=>?_) c0.frames;have cv:=Hg a;have rl:recursionLimit=1000:=rfl;refine wpAny_call (codeAny_mono (R:=λr s'=>match r with| .ok (.ret v)=>u7 J w I g s Q v s'|_=>False) ?_ λr s' x=>by rcases r with e|cc;exact x.elim;induction cc using Flow.casesOn<;>exact x);refine qQ (dL:=I) (TK.cx.keeps Z.rel.base) FO (by rw [rl];exact wn (by assumption) (by decide)) cr Z.rel.sz rfl λB bv EO c6 x=>?_;have av:=Z.trans (x.post Z.rel);have a5:(A.deeper B).frames=some (B::bi::ax):=Around.frames_deeper bm;have cD:=hF.cons Z.rel.sz EO.kind EO.fr x;have kc:B.kindOf "call" =some .local:=by show B.scope.names.lookup _=_;rw [EO.scope];exact RF.kc
 have ks:B.kindOf "SheetFault" =some .globalImplicit:=by show B.scope.names.lookup _=_;rw [EO.scope];exact RF.ks
 have hm:bindL B.kindOf (([("call" :Str)]:List Str).zip [Value.ref f]) (λ_=>none) ("call" :Str)=some (.ref f):=wI (ps:=[("call" :Str)]) (vs:=[Value.ref f]) kc rfl (by decide) (i:=0) rfl rfl;have dx:D4 bv.heap f q H body scope cl:=by revert hL;refine xy λpm dV c1 e hc=>?_;exact ⟨pm,dV,c1,x.keep _ _ e,hc.keeps x.keep⟩
 revert dx;refine xy λpm dV c1 c2 df=>?_;have c8:∀{s':Shared},u7 J w I g s Q (.bool false) s'->wpAny (model J w) (A.deeper B) (execs [.Return (some (.Constant (.bool false) k2 p9)) ds] B) (λcc s'=>(match (Except.ok (.ret (match cc with| .ret v=>v|_=> .none)):Result) with| .ok (.ret v)=>u7 J w I g s Q v s'|_=>False)) (λ_ _=>False) s':=λh=>jh (wpAny_Return_some (wpAny_Constant_bool h));refine xe (Q:=λcc s'=>(match (Except.ok (.ret (match cc with| .ret v=>v|_=> .none)):Result) with| .ok (.ret v)=>u7 J w I g s Q v s'|_=>False)) (E:=λ_ _=>False) ?_ (λ_ _ y=>y) λ_ _ y=>y.elim;refine jh (wpAny_Try_except (HA λ_ _ kf ke=>?_));refine jh (wpAny_Expr_any ?_ (Ad EO.toYO) (qb rfl));show wpAny _ _ (do callWith p2 (<- eval (.Name "call" p1) B) [] (backTo p2 (starEach [] B)) (backToKw p2 (keywordEach [] B))) _ _ _;refine ff (wpAny_Name (kX EO.kind kc x.ns.1 hm ?_) (by decide+kernel));refine callWith_F0 ⟨_,_,_,_,c2⟩ ?_;refine wpAny_call (codeAny_mono (R:=λr s'=>match r with| .ok (.ret v)=>u7 J w I g s (λ_ ar=>Q (.bool false) ar) v s'| .error e=>∃g' ea db,e= .ref ea/\s.heap.get? ea=none/\sK J w I g s g' s'/\fk s'.heap s.heap ea a3 db/\Cf I s'.heap (B::bi::ax)/\Q (.bool true) g'.C|_=>False) ?_ λr s' y=>?_);refine kla_callFunE (show A.depth+1<1000 from wn (Pe cv) (by decide)) c2 rfl LO.pZ LO.og rfl df ?_;rw [s9 (ps:=[]) ⟨as.1,by show H.args.map _=[];rw [as.2.1];rfl,as.2.2.1,as.2.2.2.1,as.2.2.2.2,rfl⟩ e9 rfl];refine i8 ?_;refine xe (ic c6 (vP (s:=bv) (scope:=scope) (je:=cl) (nv:=[]) (Q:=λF s'=>s'.heap.NoLimit/\(0<s'.toks->codeAny (model J w) (A.deeper B) (.expr body F) _ s')) LO.kind (λx hx=>by cases hx) (.inr λy hy=>by rcases LO.kinds y hy with e|e<;>rw [e]<;>decide) λF ca he hc ai=>⟨?_,λc3=>kla_codeExpr ?_⟩)) (λ_ _ q=>⟨q.2.1,q.2.2 q.1⟩) λ_ _ q=>q.2;refine EN (λh' em=>?_) ai.same;rintro rfl;exact (TK.cx.keeps av.rel.base).nolimit.keeps ai.keep;have ap:F.scope=scope:=by rw [he];rfl
 have a7:YO F:=⟨by rw [ap];exact LO.kind,by rw [he];rfl,by rw [he];rfl⟩;have a2:F.frame=some F.locals:=by rw [he];rfl
 have ak:=av.trans (ai.post av.rel);have a6:((A.deeper B).deeper F).frames=some (F::B::bi::ax):=Around.frames_deeper a5;have bB:=cD.cons av.rel.sz a7.kind a2 ai;have U:∀{y k},F.kindOf y=some k->k= .free\/k= .globalImplicit:=λ{y k} e=>LO.kinds (y,k) (hZ (by rw [<- ap];exact e));have ab:∀{y},F.kindOf y=some .free->F.cells.lookup y=V.cells.lookup y/\(V.kindOf y=some .cell\/V.kindOf y=some .free):=λ{y} e=>by have a9:(y,NameKind.free)∈scope.names:=hZ (by rw [<- ap];exact e);have bm:=LO.free _ a9 rfl;refine ⟨?_,bm⟩;refine tz (λep Y e0 Y=>?_) (S.fr.cells y bm);rw [<- cs y a9];rcases hc with hc|hc;have:=cs y a9;rw [hc,e0] at this;exact nomatch this;rw [hc]
 have c7:=S.fr.ext ak.ext S.rel;have cx:i4 J w I ((A.deeper B).deeper F) F aj ρ g ca:=by refine ⟨ak.rel,⟨⟨_,ai.ns.1,λj y mv _ _ e3=>?_⟩,λl z=>?_,λj y mv e1 e2 e3=>?_,λy e=>?_,λy y' c' h1 _ _=>?_,S.fr.nd⟩,⟨F,_,a6,rfl,bB⟩⟩;rcases U e3 with z|z<;>cases z;refine am (λo e=>?_) (av.rel.lt z);exact absurd (r8 e) (Da.mpr ai.fresh);rcases e3 with e3|e3;rcases U e3 with z|z<;>cases z;refine aa (λdd dy=>?_) (ab e3);refine pi (λc' v b1 b2 b3=>?_) (c7.cell j y mv e1 e2 dy);exact ⟨c',v,dd.trans b1,b2,b3⟩;rcases e with e|e;rcases U e with z|z<;>cases z;refine aa (λdd dy=>?_) (ab e);refine tz (λc' v b1 b2=>?_) (c7.cells y dy);exact ⟨c',v,dd.trans b1,b2⟩;rcases U h1 with z|z<;>cases z
 refine xe (hb ((A.deeper B).deeper F) F a.inner a7 ap g ca _ _ cx c3 hw) (λv da y=>?_) λe da y=>?_;exact y.trans ak;obtain ⟨g',L,hx,q⟩:=y;have a0:=ak.trans L;refine pi (λea db=>?_) ((hx.qv ak).here);rintro rfl hn hx;have a1:=Qi bB ak.rel L.ext;refine Al (base:=s.heap) a6 a1 a2 (λb o e=>a0.ext.alive a0.rel (λ_ q=>q.elim) e) hn hx λh' st ht=>?_;exact ⟨g',ea,db,rfl,hn,a0.bY S.rel st,ht,λe he=>(a1.bY st) e (FM _ he),q⟩;rcases r with e|cc;revert y;refine l6 λg' ea db=>?_;rintro rfl hn;refine pt λL ht a1 q=>?_;refine ke _ _ ?_;refine zF (base:=s.heap) a5 a1 EO.fr (λb o e=>L.ext.alive L.rel (λ_ q=>q.elim) e) hn (.inr ht) λd3 bf ch=>?_;refine r6 (lo:=I.objs.size) ch λd2 bh a8=>?_;have bt:=L.bY (tk:=s'.toks) S.rel (bf.trans bh);refine wpAny_handleBy_cons (codeAny_handlers_test ?_) (by intro q;cases q);refine jQ (TK.cx.keeps bt.rel.base) EO.kind EO.glob ks (by decide+kernel) RF.exc ?_;refine s3 λ_ kk=>?_;refine rb (λnm qq N bs D=>rb λsn sub eo ek el=>rb λeb ec ei eg eh c5=>?_) FI.cls;obtain ⟨oe,en,T',oT,ts,he,⟨dt,_⟩,_⟩:=id a8;refine kk ?_;refine wpAny_excMatches_sub_self (TK.cx.X.keeps bt.rel.base _ _ c5) he dt (by rfl) (codeAny_handlers_suite ?_);refine r6 (lo:=I.objs.size) (fl:= .none) a8.f λd1 cm dz=>?_;refine jh (wpAny_Return_some (wpAny_Constant_bool ?_));have c4:=L.bY (tk:=s'.toks) S.rel ((bf.trans bh).trans cm);exact ⟨g',.bool true,c4,rfl,q⟩;induction cc using Flow.casesOn<;>first|exact y.elim|skip
 obtain ⟨g',mv,L,d4,q⟩:=y;exact kY (kf _ _ (kY (c8 ⟨g',.bool false,L,rfl,q⟩)))
noncomputable abbrev MT.T (t:MT) (Δ:Nat->Spec):eQ:={Δ,fa:=t.fa,fn:=t.fn,aF:=t.aF,cC:=t.cC,dH:=t.dH,fields:=t.fields}
theorem pN x:∀a:List (Str×NameKind),fw a x=a.lookup x| []=>rfl|p::r=>by rw [List.lookup_cons,<- pN x r];show (if sB x p.1 then some p.2 else fw r x)=_;cases h:sB x p.1 with|true=>rw [cj h,beq_self_eq_true];rfl|false=>rw [hO.mpr (ml h)];rfl
theorem MC.cV {c:MC} (h:c.nm i x=true):c.names[i]? =some x:=AM h λy h=>by rw [cj h]
@[elab_as_elim] theorem zv {k} {P:List Expr->Prop} (h:vr l k=true) (f:∀a r,k a r=true->P (a::r)):P l:=by induction l using List.casesOn with|nil=>cases h|cons a r=>exact f a r h
@[elab_as_elim] theorem gI {k} {P:Expr->Prop} (h:fA x k=true) (f:∀n p a q,k n a=true->P (.Call (.Name n p) a [] q)):P x:=wd h λg a c q h=>by rw [RS.mp (aL h)];exact cW (aR h) λn p h=>f n p a q h
@[elab_as_elim] theorem wj {k} {P:Expr->Prop} (h:pL x k=true) (f:∀o n c a q,eI o=true->(c.endLine==q.line)=true->k o n a=true->P (.Call (.Attribute o n c) a [] q)):P x:=wd h λg a d q h=>by rw [RS.mp (aL h)];exact lI (aR h) λo n p h=>f o n p a q (aL (aL h)) (aR (aL h)) (aR h)
@[elab_as_elim] theorem rg {e:List Comprehension} {k} {P:List Comprehension->Prop} (h:oY e k=true) (f:∀n p c,oq c=true->k n c=true->P [⟨.Name n p,c,[],0⟩]):P e:=Nl h λ⟨g,c,d,a⟩ h=>cW (x:=g) h λn p h=>by rw [show d=[] from RS.mp (aL (aL (aL h))),show a=0 from ue (aR (aL (aL h)))];exact f n p c (aR (aL h)) (aR h)
end
structure WF (ao:Program) (w:World) (dL:Heap) (l8:Addr) (K:Frag) (t:MT) (Δ:Nat->Spec) (fr:Addr) (fd:FuncData) (fI:Addr):Prop where
 TK:GM ao w K dL (t.T Δ)
 FT:m6 K (t.T Δ) t.gf t.mf t.nf
 LC:mH K
 RF:sy K l8 fr fd
 FI:i5 K l8 fI
 bi:∀b,nsIn K mainGlobals (cw b)=some none
 Pg:nsIn K mainGlobals "range" =some none
 zip:nsIn K mainGlobals "zip" =some none
 exc:keepIn K (.ref l8)=true
structure KM (dL:Heap) (n:Nat) (c:MC) (A:Around) (ba:Env):Prop where
 a:∃r,NJ r A n/\(c.aX.isSome=true->r=true)
 ei:YO ba
 kd:ba.scope.names=c.kd
 aX:∀i P q,c.aX=some (i,P,q)->∃cc,ba.code= .ref cc/\CodeHd dL cc P/\ba.qual++"<lambda>" =q
section
theorem KM.kind (F:KM y n c A j) x:j.kindOf x=fw c.kd x:=by show j.scope.names.lookup x=_;rw [F.kd,pN]
theorem KM.is (F:KM y n c A j) (h:c.is x k=true):j.kindOf x=some k:=(F.kind x).trans (ue h)
theorem KM.bound (F:KM y n c A j) (h:c.bound x=true):j.kindOf x=some .local\/j.kindOf x=some .cell\/j.kindOf x=some .free:=by rw [F.kind];unfold MC.bound at h;generalize fw c.kd x=o at h⊢;exact AM h λk h=>by induction k using NameKind.casesOn<;>first|exact .inl rfl|exact .inr (.inl rfl)|exact .inr (.inr rfl)|injection h
theorem mM (h:lK x=true):(x==("__debug__" :Str))=false/\(x==("__classdict__" :Str))=false:=haveI h:=nE.mp h;⟨hO.mpr (ml (by simpa using h.1)),hO.mpr (ml (by simpa using h.2))⟩
theorem DV (F:KM d n c A a) (h:u3 c.kd sc=true) (g:y∈sc.names) (e:y.2= .free):a.kindOf y.1=some .cell\/a.kindOf y.1=some .free:=by have:=LG.mp h y g;simp only [e,decide_true,Bool.not_true,Bool.false_or,Bool.or_eq_true,decide_eq_true_eq] at this;rw [F.kind,pN];exact this
theorem l0 (F:KM g n c A d) (h:j3 c.kd sc x=true):dI d sc x:=by simp only [j3,Bool.and_eq_true,decide_eq_true_eq,List.all_eq_true,Bool.or_eq_true,Bool.not_eq_true',decide_eq_false_iff_not] at h;revert h;refine aa (aa (aa (aa (aa λj k l o p m=>?_))));refine ⟨j,k,λy a e=>(l y a).resolve_left (λq=>q e),o,λy e=>?_,λy a e=>DV F m a e⟩;rcases p (y,.local) (hZ e) with (q|q)|q;exact absurd rfl q;exact .inl q;exact .inr q
theorem KM.comp (F:KM B n c A j) (h:j3 c.kd sc x=true) cl C:KM B n (c.comp sc) A (compEnvC sc cl C j):=by
 refine ac (λr a Y=>?_) F.a;refine ⟨⟨r,a,λz=>by cases z⟩,⟨(l0 F h).kind,F.ei.glob,F.ei.j7⟩,?_,λi P q z=>by cases z⟩;show (relabel sc j).names=AY sc c.kd;haveI e1:(j.scope.kind==ScopeKind.function)=true:=by rw [F.ei.kind];rfl
 refine bK λy _=>?_;obtain ⟨y,k⟩:=y;rw [e1];show (if (k==NameKind.free&&true&&j.scope.names.lookup y==some .cell)=true then _ else _)=_;rw [F.kd]
theorem Q7 (F:KM d n c A a) (h:rx c.kd sc=true):vK a sc:=by simp only [rx,Bool.and_eq_true,decide_eq_true_eq,List.all_eq_true,Bool.or_eq_true,Bool.not_eq_true',decide_eq_false_iff_not] at h;revert h;refine aa (aa (aa (aa λg j k l o=>?_)));exact ⟨g,j,k,l,λy m e=>DV F o m e⟩
theorem SY (h:sW p=true):defaultsOf p ba=([],[])/\p.posonlyargs=[]/\p.args=[]/\p.kwonlyargs=[]/\p.vararg=none/\p.kwarg=none:=by obtain ⟨a,b,c,d,e,f,g⟩:=p;simp only [sW,Bool.and_eq_true,List.isEmpty_iff,Option.isNone_iff_eq_none] at h;revert h;refine aa (aa (aa (aa (aa (aa ?_)))));rintro rfl rfl rfl rfl rfl rfl rfl;exact ⟨rfl,rfl,rfl,rfl,rfl,rfl⟩
def Pl (e:Expr) (a:Env):Prop:=∀whole:Sem Value,isTrue e a whole=(do let v<- whole;standAt e.pos;holding [v] (truthy v))
theorem lG (h:oq e=true) x:foldedSetIterable e a x=pure x:=by induction e using Expr.casesOn<;>first|rfl|injection h
theorem lw (a:NJ r A n):A.units+2<cLine:=by have:=a.units;haveI e:cLine=9900:=rfl;split at this<;>lia
structure Cz (ao:Program) (w:World) (dL:Heap) (l8:Addr) (K:Frag) (t:MT) (Δ:Nat->Spec) (n:Nat) (fr:Addr) (fd:FuncData) (fI:Addr):Prop where
 G:WF ao w dL l8 K t Δ fr fd fI
 CO:iL ao w dL l8 (t.T Δ) n
end
section
variable {K:Frag}
theorem ES.df (h:ES j w y B A E aj F e W) (k:W=H):ES j w y B A E aj F e H:=k▸h
theorem ET.df (h:ET j w y B A E aj F e W) (k:W=H):ET j w y B A E aj F e H:=k▸h
theorem IF.df (h:IF j w y B A E aj H F W) (k:W=I):IF j w y B A E aj H F I:=k▸h
theorem bR.df (h:bR j w y B A E aj H F W) (k:W=I):bR j w y B A E aj H F I:=k▸h
theorem P6 (h:¬mq b=true):jy b=[]:=by induction b using BI.casesOn<;>first|rfl|exact absurd rfl h
theorem VQ (h:mq b=true):b= .isStr\/b= .bH:=by induction b using BI.casesOn<;>first|exact .inl rfl|exact .inr rfl|injection h
variable (Z:Cz ao w dL l8 K t Δ n fr fd fI)
def JJ (_:Cz ao w dL l8 K t Δ n fr fd fI) (p:PE):Prop:=∀{c:MC} {A:Around} {a:Env} {d:ee} {e:Expr},KM dL n c A a->d.length=c.names.length->mX t p false c e=true->ES ao w dL l8 A a c.names d e (ir (t.T Δ) p d)
def sm (_:Cz ao w dL l8 K t Δ n fr fd fI) (p:PE):Prop:=∀{c:MC} {A:Around} {a:Env} {d:ee} {e:Expr},KM dL n c A a->d.length=c.names.length->mX t p true c e=true->ET ao w dL l8 A a c.names d e (LM (t.T Δ) p d)
def KR (_:Cz ao w dL l8 K t Δ n fr fd fI) (p:PE):Prop:=∀{b:Bool} {c:MC} {A:Around} {a:Env} {d:ee} {e:Expr},KM dL n c A a->d.length=c.names.length->mX t p b c e=true->ES ao w dL l8 A a c.names d e (ir (t.T Δ) p d)/\(b=true->Pl e a)
def Cs (Z:Cz ao w dL l8 K t Δ n fr fd fI) (p:PE):Prop:=JJ Z p/\sm Z p
def bE (_:Cz ao w dL l8 K t Δ n fr fd fI) (p:BY):Prop:=∀{c:MC} {A:Around} {a:Env} {d:ee} {e:List Expr},KM dL n c A a->d.length=c.names.length->VT t p false c e=true->(e.all aJ=true->IF ao w dL l8 A a c.names d e (wP (t.T Δ) p d))/\bR ao w dL l8 A a c.names d e (wP (t.T Δ) p d)/\∀and,0<e.length->EB ao w dL l8 A a c.names d and e (i9 (t.T Δ) and p d)
def kL (_:Cz ao w dL l8 K t Δ n fr fd fI) (p:BY):Prop:=∀(and:Bool) {c:MC} {A:Around} {a:Env} {d:ee} {e:List Expr},KM dL n c A a->d.length=c.names.length->VT t p true c e=true->EA ao w dL l8 A a c.names d and e (ip (t.T Δ) and p d)
def iA (Z:Cz ao w dL l8 K t Δ n fr fd fI):BY->Prop| .nil=>True| .cons e _=>JJ Z e
variable {Z}
theorem XV (h:JJ Z p) (no:∀{c x},mX t p true c x=false):Cs Z p:=⟨h,λ_ _ e=>by replace e:=no▸e;cases e⟩
theorem j9 (h:KR Z p) (e:∀d,(λC Q X=>ir (t.T Δ) p d C (λv a=>match v with| .bool b=>Q b a|_=>False) X:WB)=LM (t.T Δ) p d):Cs Z p:=⟨λF c m=>(h F c m).1,λF c m=>ET.df (ET.plain (h F c m).1 ((h F c m).2 rfl)) (e _)⟩
theorem Fk:Cs Z (.ae i):=j9 (λ{b c A a d x} F e h=>cW h λx _ h=>⟨ES.df (ES.ae F.ei (MC.cV (aL h)) (F.bound (aL (aR h))) (mM (aR (aR h))).1 (mM (aR (aR h))).2) rfl,λ_ _=>rfl⟩) λ_=>rfl
theorem HL:Cs Z (.ah v):=XV (λ{c A a d x} F e h=>pH h λk _ _ h=>ES.df (ES.ah h) rfl) rfl
theorem L7:Cs Z (.glob i):=XV (λ{c A d g x} F j h=>cW h λx _ h=>by have a:=aL h;generalize e:t.dH[i]? =o at a;induction o using Option.casesOn with|none=>injection a|some p=>exact ES.df (ES.glob Z.G.TK F.ei (show t.dH[i]? =some (x,p.2) by rw [e,<- cj a]) (F.is (aL (aR h))) (mM (aR (aR h))).1) rfl) rfl
theorem Oj (j:JJ Z e):Cs Z (.attr e f):=XV (λ{c A g l x} F d h=>lI h λk a _ h=>T0 h λh=>ES.df (ES.attr Z.G.TK (j F d (aL h)) (aR h) rfl) rfl) rfl
theorem Jn (g:bE Z k):Cs Z (.aE f k):=j9 (λ{b c A l o x} F j h=>gI h λx p m q h=>T0 h λh=>by refine ac (λr a u=>?_) F.a;haveI d:=aR h;have e:=aR (aR d);exact ⟨ES.df (ES.aE Z.G.TK Z.G.FT Z.CO F.ei a (List.contains_iff_mem.mp (aL h)) (F.is (aL d)) (mM (aL (aR d))).1 (aL e) ((g F j (aR e)).1 (aL e))) rfl,λ_ _=>rfl⟩) λ_=>rfl
theorem Gd (p:JJ Z e) (j:bE Z l):Cs Z (.ay e f l):=j9 (λ{b c A m y x} F k h=>wj h λo x v u q g1 g2 h=>T0 h λh=>by refine ac (λr a z=>?_) F.a;haveI d:=aR h;haveI g:=aR d;exact ⟨ES.df (ES.ay Z.G.TK Z.G.FT Z.CO a (List.contains_iff_mem.mp (aL h)) g1 (aL d) (d9 (aL g)) g2 (p F k (aL (aR g))) ((j F k (aR (aR g))).1 (aL d))) rfl,λ_ _=>rfl⟩) λ_=>rfl
theorem JW (g:bE Z k):Cs Z (.new f k):=XV (λ{c A l o x} F j h=>gI h λx p m q h=>T0 h λh=>by refine ac (λr a u=>?_) F.a;have d:=aR h;have e:=aR (aR d);exact ES.df (ES.new Z.G.TK Z.G.FT Z.CO F.ei a (List.contains_iff_mem.mp (aL h)) (F.is (aL d)) (mM (aL (aR d))).1 (aL e) ((g F j (aR e)).1 (aL e))) rfl) rfl
theorem IW (h:VT t a false c [y]=true):∃e,a= .cons e .nil/\mX t e false c y=true:=by induction a using BY.casesOn with|nil=>injection h|cons e r=>haveI d:=h;induction r using BY.casesOn with|nil=>exact ⟨e,rfl,aL d⟩|cons g j=>exact absurd (aR d) bJ
theorem Hj (F:KM dL n c A j) (C:m.length=c.names.length) (a:NJ r A n) (d:mq b=true) (k:c.is (cw b) .globalImplicit=true) (y:aJ l=true) (u:c.is (bT b) .globalImplicit=true) (v:VT t o false c [l]=true) (g:iA Z o):ES ao w dL l8 A j c.names m (.Call (.Name (cw b) p) [l,.Name (bT b) H] [] q) (ir (t.T Δ) (.bi b o) m):=by
 haveI d:=VQ d;refine ac (λe=>?_) (IW v);rintro rfl E;haveI x:JJ Z e:=g;haveI B:cw b="isinstance" :=by rcases d with rfl|rfl<;>rfl
 have z:nsIn K mainGlobals (bT b)=some none:=by rcases d with rfl|rfl;exact Z.G.bi .str;exact Z.G.bi .dict
 rw [B] at k⊢;exact ES.df (ES.E4 Z.G.TK F.ei a d (Z.G.bi .isStr) z (F.is k) (F.is u) y (x F C E)) rfl
theorem Qo (g:bE Z k) (j:iA Z k):Cs Z (.bi b k):=j9 (λ{z c A m B x} F l h=>gI h λx p o q h=>T0 h λh=>by refine ac (λr a C=>?_) F.a;haveI d:=aR h;by_cases e:mq b=true;rw [bn e] at d;exact dj d λu y d=>cW d λy v d=>T0 d λd=>⟨Hj F l a e (aL h) (aL d) (aL (aR d)) (aR (aR d)) j,λ_ _=>rfl⟩;rw [al e] at d;exact ⟨ES.df (ES.bi Z.G.TK F.ei a (Z.G.bi _) (F.is (aL h)) (P6 e) (aL (aR d)) ((g F l (aR (aR d))).1 (aL (aR d)))) rfl,λ_ _=>rfl⟩) λ_=>rfl
theorem Sn (k:JJ Z e) (a:bE Z g):Cs Z (.bm b e g):=XV (λ{c A j p x} F d h=>wj h λo x m l q g1 g2 h=>T0 h λh=>ES.df (ES.bm Z.G.TK g1 (aL h) (d9 (aL (aR h))) g2 (k F d (aL (aR (aR h)))) ((a F d (aR (aR (aR h)))).1 (aL h))) rfl) rfl
theorem Oi (g:JJ Z e):Cs Z (.eB e y z):=XV (λ{c A d m x} F a h=>wj h λo x l k q g1 g2 h=>dj h λu v h=>s7 h λp _ _ h=>s7 h λj _ _ h=>T0 h λh=>T0 h λh=>T0 h λh=>ES.df (ES.eB g1 g2 (g F a h)) rfl) rfl
theorem JP (e:JJ Z a) (g:JJ Z b):Cs Z (.bin o a b):=XV (λ{c A j k x} F d h=>Gx h λl op r _ h=>by obtain rfl:=ue (aL h);exact ES.df (ES.bin (e F d (aL (aR h))) (g F d (aR (aR h)))) rfl) rfl
theorem nB (h:(!b)=true):b=false:=by induction b using Bool.casesOn<;>first|rfl|injection h
theorem WY (j:JJ Z x) (k:JJ Z y):Cs Z (.cmp o x y):=⟨λ{c A g m x} F d h=>ql h λl e rs _ h=>Nl h λop h=>Nl h λr h=>by refine ac (λY a Y=>?_) F.a;obtain rfl:=ue (aL h);have h:=aR h;exact ES.df (ES.cmp Z.G.TK (lw a) (j F d (aL (aR h))) (k F d (aR (aR h))) (nB (aL h))) rfl,λ{c A g m x} F d h=>ql h λl e rs _ h=>Nl h λop h=>Nl h λr h=>by refine ac (λY a Y=>?_) F.a;obtain rfl:=ue (aL h);have h:=aR h;exact ET.df (ET.cmp Z.G.TK (lw a) (j F d (aL (aR h))) (k F d (aR (aR h))) (nB (aL h))) rfl⟩
theorem NP (m:JJ Z x) (u:JJ Z y) (k:JJ Z z):Cs Z (.chain o B x y z):=⟨λ{c A j C x} F e h=>ql h λl g rs _ h=>dj h λp q h=>dj h λr v h=>by refine ac (λY a Y=>?_) F.a;obtain rfl:=ue (aL h);have h:=aR h;obtain rfl:=ue (aL h);have h:=aR h;have d:=aR h;exact ES.df (ES.chain Z.G.TK (lw a) (m F e (aL d)) (u F e (aL (aR d))) (k F e (aR (aR d))) (nB (aL h))) rfl,λ{c A j C x} F e h=>ql h λl g rs _ h=>dj h λp q h=>dj h λr v h=>by refine ac (λY a Y=>?_) F.a;obtain rfl:=ue (aL h);have h:=aR h;obtain rfl:=ue (aL h);have h:=aR h;have d:=aR h;exact ET.df (ET.chain Z.G.TK (lw a) (m F e (aL d)) (u F e (aL (aR d))) (k F e (aR (aR d))) (nB (aL h))) rfl⟩
theorem Us {and:Bool} (d:bE Z j) (a:kL Z j):Cs Z (.aI and j):=⟨λ{c A g l x} F e h=>yK h λop k _ h=>by obtain rfl:=ue (aL h);exact ES.df (ES.aI ((d F e (aR (aR h))).2.2 _ (d9 (aL (aR h))))) rfl,λ{c A g l x} F e h=>yK h λop k _ h=>by obtain rfl:=ue (aL h);exact ET.df (ET.aI (a _ F e (aR (aR h)))) rfl⟩
theorem N1 (j:Cs Z a):Cs Z (.bF a):=⟨λ{c A d k x} F g h=>nX h λop e _ h=>by obtain rfl:=ue (aL h);exact ES.df (ES.vt (j.1 F g (aR h))) rfl,λ{c A d k x} F g h=>nX h λop e _ h=>by obtain rfl:=ue (aL h);exact ET.df (ET.vt (j.2 F g (aR h))) rfl⟩
theorem RA (d:JJ Z a):Cs Z (.neg a):=XV (λ{c A g k x} F j h=>nX h λop e _ h=>by obtain rfl:=ue (aL h);exact ES.df (ES.neg (d F j (aR h))) rfl) rfl
theorem QD (id:sm Z d) (g:JJ Z a) (j:JJ Z b):Cs Z (.ite d a b):=XV (λ{c A k m x} F e h=>Q8 h λo p l _ h=>ES.df (ES.ite (id F e (aL h)) (g F e (aL (aR h))) (j F e (aR (aR h)))) rfl) rfl
theorem LL (g:JJ Z a) (e:JJ Z i):Cs Z (.sub a i):=j9 (λ{b c A j k x} F d h=>tQ h λm l _ h=>⟨ES.df (ES.sub Z.G.TK (g F d (aL h)) (e F d (aR h))) rfl,λ_ _=>rfl⟩) λ_=>rfl
theorem UR (d:JJ Z a):Cs Z (.slice k a):=XV (λ{c A g j x} F e h=>tQ h λm l _ h=>ES.df (ES.slice (d F e (aL h)) (aR h)) rfl) rfl
theorem Qt (a:bE Z d):Cs Z (.tup d):=XV (λ{c A g k x} F e h=>oE h λj _ _ h=>ES.df (ES.tup (d9 (aL h)) ((a F e (aR (aR h))).1 (aL (aR h)))) rfl) rfl
theorem VG (a:bE Z d):Cs Z (.list d):=XV (λ{c A g k x} F e h=>Uh h λj _ h=>ES.df (ES.list (d9 (aL h)) ((a F e (aR (aR h))).1 (aL (aR h)))) rfl) rfl
theorem YJ (a:bE Z d):Cs Z (.dict l d):=XV (λ{c A g k x} F e h=>AH h λkeys j _ h=>ES.df (ES.dict (aL h) (ej (aL (aR h))) (d9 (aL (aR (aR h)))) (d9 (aL (aR (aR (aR h))))) (a F e (aR (aR (aR (aR h))))).2.1) rfl) rfl
theorem PC:Cs Z .iD:=XV (λ{c A a d x} F g h=>AH h λkeys e _ h=>by rw [RS.mp (aL h),RS.mp (aR h)];exact ES.df ES.iD rfl) rfl
theorem F8 (e:JJ Z q) (d:JJ Z el):Cs Z (.cg i q el):=XV (λ{c A v B x} F j h=>Dn h λo z sc _ h=>rg h λx p iter g h=>by refine ac (λr a E=>?_) F.a;haveI k:=MC.cV (aL h);have l:=aL (aR h);have m:=aR (aR h);exact ES.df (ES.cg a.handled k (by rw [j];exact (BB.mp k).1) (l0 F l) (lG g) (e F j (aL m)) λu C y=>d (c:=c.comp _) (F.comp l u C) (by rw [SZ];exact j) (aR m)) rfl) rfl
theorem Mk (E:JJ Z e):Cs Z (.refused i P q e):=j9 (λ{b c A j U x} F N h=>gI h λx p T Q h=>Nl h λl h=>KG h λO b sc _ h=>T0 h λh=>by refine ac (λr a M=>?_) F.a;haveI d:=aL h;haveI g:=aR h;have v:=aR (aR g);generalize el:c.aX=o at d;induction o using Option.casesOn with|none=>injection d|some k=>refine s3 λ_ B=>?_;(have e0:c.aX=some (i,P,q):=by rw [el,<- ej (aL d),<- ej (aL (aR d)),<- cj (aR (aR d))]);refine nw (λS e1 J L=>?_) (F.aX _ _ _ e0);haveI er:=M (by rw [e0];rfl);subst er;refine aa (λC I=>?_) (SY (ba:=j) (aL v));refine B ?_;exact ⟨ES.df (ES.refused Z.G.TK Z.G.LC Z.G.RF Z.G.FI F.ei a (F.is (aL g)) e1 J L (Q7 F (aL (aR g))) C I λR y H m u=>E (c:={kd:=_,names:=c.names,aX:=none}) ⟨⟨false,H,λz=>by cases z⟩,m,by rw [u],λ_ _ _ z=>by cases z⟩ N (aR v)) rfl,λ_ _=>rfl⟩) λ_=>rfl
theorem x8:bE Z .nil/\kL Z .nil/\iA Z .nil:=⟨λ{c A d j a} F k h=>by rw [RS.mp (show a.isEmpty=true from h)];exact ⟨λ_=>IF.df IF.nil rfl,bR.df bR.nil rfl,λand z=>absurd z (RI 0)⟩,λand {c A d j a} F k h=>by rw [RS.mp (show a.isEmpty=true from h)];exact λg s Q X S t e=>EA.nil g s Q X S t e,trivial⟩
theorem xU (p:Cs Z e) (d:bE Z a/\kL Z a/\iA Z a):bE Z (.cons e a)/\kL Z (.cons e a)/\iA Z (.cons e a):=⟨λ{c A o z r} F k h=>zv h λx m h=>by have l:=p.1 F k (aL h);refine im (λy C u=>?_) (d.1 F k (aR h));refine ⟨λq=>IF.df (IF.cons (aL q) l (y (aR q))) rfl,bR.df (bR.cons l C) rfl,λand _=>?_⟩;induction m using List.casesOn with|nil=>(induction a using BY.casesOn with|nil=>exact λpos g s Q X S t j=>EB.one l pos g s Q X S t j|cons=>exact absurd (aR h) bJ)|cons v m=>induction a using BY.casesOn with|nil=>exact absurd (aR h) bJ|cons E B=>exact λpos g s Q X S t j=>EB.cons l (u and (dF _)) pos g s Q X S t j,λand {c A o z r} F k h=>zv h λx m h=>λg s Q X S t j=>EA.cons (p.2 F k (aL h)) (d.2.1 and F k (aR h)) g s Q X S t j,p.1⟩
theorem zE (e:∀{b c x},mX t p b c x=false):Cs Z p:=XV (λ_ _ h=>by rw [e] at h;injection h) e
theorem vM (Z:Cz ao w dL l8 K t Δ n fr fd fI) p:Cs Z p:=PE.rec (motive_1:=Cs Z) (motive_2:=λp=>bE Z p/\kL Z p/\iA Z p) (λ_=>Fk) (λ_=>HL) (λ_=>L7) (λ_ _ i=>Oj i.1) (λ_ _ i=>Jn i.1) (λ_ _ _ i j=>Gd i.1 j.1) (λ_ _ i=>JW i.1) (λ_ _ i=>Qo i.1 i.2.2) (λ_ _ _ i j=>Sn i.1 j.1) (λ_ _ _ i=>Oi i.1) (λ_ _ _ i j=>JP i.1 j.1) (λ_ _ _ i j=>WY i.1 j.1) (λ_ _ _ _ _ i j k=>NP i.1 j.1 k.1) (λ_ _ i=>Us i.1 i.2.1) (λ_ i=>N1 i) (λ_ i=>RA i.1) (λ_ _ _ i j k=>QD i.2 j.1 k.1) (λ_ _ i j=>LL i.1 j.1) (λ_ _ i=>UR i.1) (λ_ i=>Qt i.1) (λ_ i=>VG i.1) (λ_ _ i=>YJ i.1) PC (λ_ _ _ i j=>F8 i.1 j.1) (λ_ _ _ _ _ _ _=>zE rfl) (λ_ _ _ _ i=>Mk i.1) (zE rfl) x8 (λ_ _ i j=>xU i j) p
theorem xK (Z:Cz ao w dL l8 K t Δ n fr fd fI):∀p:BY,bE Z p/\kL Z p/\iA Z p| .nil=>x8| .cons e r=>xU (vM Z e) (xK Z r)
theorem sE (Z:Cz ao w dL l8 K t Δ n fr fd fI) p:JJ Z p:=(vM Z p).1
theorem sT (Z:Cz ao w dL l8 K t Δ n fr fd fI) p:sm Z p:=(vM Z p).2
theorem R0 (Z:Cz ao w dL l8 K t Δ n fr fd fI) (p:BY):bE Z p:=(xK Z p).1
end
theorem Az (h:pureOf t=some a):t=pure a:=by by_cases e:t.ctorIdx=0;exact Sem.pure.elim (motive:=λt=>pureOf t=some a->t=pure a) t e (λb h=>by rw [an (h:some b=some a)];rfl) h;rw [show pureOf t=none from dif_neg e] at h;injection h
section
theorem Bz (h:pureOf (swappedStores a value (jc kd))=some r) (g:c.scope.kind= .function) (hd:c.scope.names=kd):swappedStores a value c=pure r:=by rw [<- Az h];obtain ⟨⟨e,d⟩⟩:=c;cases g;cases hd;rfl
theorem zy (h:pureOf (swapsWith e g l (jc k))=some r) (j:a.scope.kind= .function) (hd:a.scope.names=k):swapsWith e g l a=pure r:=by rw [<- Az h];obtain ⟨⟨d,c⟩⟩:=a;cases j;cases hd;rfl
theorem rr:∀{ts:List Expr},ts.all aJ=true->(assignEach ts ba).map (·.2)=ts.map (λt=>PySem.assign t ba)/\(assignEach ts ba).findIdx? (·.1)=none| [],_=>⟨rfl,rfl⟩|t::ts,h=>by refine aa (λa c=>?_) (rr (ba:=ba) (aR h));(haveI e:assignEach (t::ts) ba=(false,PySem.assign t ba)::assignEach ts ba:=by induction t using Expr.casesOn<;>first|rfl|injection h);rw [e,List.findIdx?_cons,c];exact ⟨l9 (_:: ·) a,rfl⟩
theorem H9 (h:wR g d c=true) (e:a.scope.kind= .function) (hd:a.scope.names=c):swappedStores [g] d a=pure none:=by refine Bz (kd:=c) ?_ e hd;unfold wR at h;generalize pureOf (swappedStores [g] d (jc c))=o at h⊢;exact AM h λo h=>by induction o using Option.casesOn<;>first|rfl|injection h
@[elab_as_elim] theorem oZ {a:Na} {k} {P:Na->Prop} (h:lU a k=true) (f:∀i,k i=true->P (.ae i)):P a:=by induction a using Na.casesOn with|ae i=>exact f i h|_=>injection h
theorem Iu (h:xV o=true):o= .add:=by induction o using BO.casesOn with|add=>rfl|_=>injection h
@[elab_as_elim] theorem QR {e:PE} {k} {P:PE->Prop} (h:AF e k=true) (f:∀i a b,k i a b=true->P (.cg i a b)):P e:=by induction e using PE.casesOn with|cg i a b=>exact f i a b h|_=>injection h
@[elab_as_elim] theorem KV {e:PE} {k} {P:PE->Prop} (h:DB e k=true) (f:∀i a b c,k i a b c=true->P (.f6 i a b c)):P e:=by induction e using PE.casesOn with|f6 i a b c=>exact f i a b c h|_=>injection h
end
section
variable (t:MT)
@[elab_as_elim] theorem Rg {k} {P:List Stmt->Prop} (h:xW l k=true) (f:∀a r,k a r=true->P (a::r)):P l:=by induction l using List.casesOn with|nil=>injection h|cons a r=>exact f a r h
@[elab_as_elim] theorem tS {k} {P:List Stmt->Prop} (h:pY s k=true) (f:∀g e p,k g e p=true->P [.Assign [g] e p]):P s:=Nl h λst h=>CW h λa e p h=>Nl (P:=λa=>P [.Assign a e p]) h λg h=>f g e p h
end
section
variable {K:Frag} (Z:Cz ao w dL l8 K t Δ n fr fd fI)
theorem SG.df (h:SG ao w dL A j aj e W) (k:W=y):SG ao w dL A j aj e y:=k▸h
theorem bX.of (h:bX ao w dL A B aj F W) (k:∀j y C Q,j.length=F.length->J j y C Q->W j y C Q):bX ao w dL A B aj F J:=λy g s I j Q H E S hl t V hm q=>h y g s I j Q H E S hl t V hm (k _ _ _ _ hm q)
theorem SS.df {st:Stmt} (h:SS ao w dL l8 A j aj st W) (k:W=y):SS ao w dL l8 A j aj st y:=k▸h
theorem SS.of {st:Stmt} (h:SS ao w dL l8 A y aj st W) (k:∀j C N R X,B j C N R X->W j C N R X):SS ao w dL l8 A y aj st B:=λj g s N R X S hl t q=>h j g s N R X S hl t (k _ _ _ _ _ q)
theorem HT.df (h:HT ao w dL l8 A y aj j W) (k:W=B):HT ao w dL l8 A y aj j B:=k▸h
theorem ju (F:KM dL n c A a) (h:c.st i x=true):c.names[i]? =some x/\(a.kindOf x=some .local\/a.kindOf x=some .cell):=⟨MC.cV (aL h),(Bool.or_eq_true_iff.mp (aR h)).imp F.is F.is⟩
include Z
theorem Ee (F:KM dL n c A g) (FE:FS dL g) (h:tI t j c e=true):SG ao w dL A g c.names e (OR (t.T Δ) j):=by refine ac (λr a Y=>?_) F.a;induction j using Na.casesOn with|ae i=>exact cW h λx _ h=>SG.df (SG.ae FE (ju F h).1 (ju F h).2) rfl|attr p f=>exact lI h λl x _ h=>T0 h λh=>SG.df (SG.attr (l8:=l8) Z.G.TK (λk d=>sE Z _ F d h) rfl) rfl|sub p i=>exact tQ h λl m _ h=>SG.df (SG.sub (l8:=l8) Z.G.TK (lw a) (λk d=>sE Z _ F d (aL h)) λk d=>sE Z _ F d (aR h)) rfl|tup=>injection h
theorem WX (F:KM dL n c A d) (FE:FS dL d) ts:∀{a:List Expr},sF t ts c a=true->bX ao w dL A d c.names a (OR.gV (t.T Δ) ts)/\ts.length=a.length:=by induction ts with|nil=>intro a h;rw [RS.mp (h:a.isEmpty=true)];exact ⟨bX.of bX.nil λg m C Q j q=>q,rfl⟩|cons p ts k=>intro a h;induction a using List.casesOn with|nil=>injection h|cons e a=>haveI h:=h;refine aa (λl o=>?_) (k (aR h));refine ⟨bX.of (bX.cons FE (Ee Z F FE (aL h)) l) λg m C Q j q=>?_,l9 (· +1) o⟩;induction g using List.casesOn with|nil=>injection j|cons v g=>exact q
theorem sG (F:KM dL n c A d) (FE:FS dL d) (h:mG t g c e=true):SG ao w dL A d c.names e (OR (t.T Δ) g):=by refine ac (λr a Y=>?_) F.a;induction g using Na.casesOn with|tup ts=>exact oE h λm _ _ h=>by refine aa (λk l=>?_) (WX Z F FE ts (aR h));refine aa (λe1 j=>?_) (rr (ba:=d) (aL h));exact SG.df (SG.tup a.handled l.symm e1 j k) rfl|_=>exact Ee Z F FE h
end
section
variable {K:Frag}
def yf (_:Cz a w d e K t k n l m o) (p:PS) (c:MC) (A:Around) (j:Env) (g:List Stmt):Prop:=HT a w d e A j c.names g (io (t.T k) p)/\(tW p=true->∀st,g=[st]->SS a w d e A j c.names st (io (t.T k) p))
def Os (Z:Cz g w a j K t l n k m o) (p:PS):Prop:=∀{c:MC} {A:Around} {d:Env} {e:List Stmt},KM a n c A d->FS a d->mS t p c e=true->yf Z p c A d e
variable {Z:Cz ao w dL l8 K t Δ n fr fd fI}
theorem bC {st:Stmt} (x:SS ao w dL l8 A d c.names st (io (t.T Δ) p)):yf Z p c A d [st]:=⟨HT.one x,λ_ e a=>by injection a with a;subst a;exact x⟩
theorem PK:Os Z .skip:=λ{c A d a} F FE h=>by rw [RS.mp (h:a.isEmpty=true)];exact ⟨HT.df HT.nil rfl,λz=>by cases z⟩
theorem Oe:Os Z .bad:=λ{c A d a} F FE h=>Nl h λst _=>bC (SS.df SS.bad rfl)
theorem E8 (g:Os Z a) (e:Os Z b):Os Z (.seq a b):=λ{c A j d} F FE h=>Rg h λst d h=>⟨HT.df (HT.cons ((g F FE (aL (aR h))).2 (aL h) _ rfl) (e F FE (aR (aR h))).1) rfl,λz=>by cases z⟩
section
variable (a:NJ r A n) (F:KM dL n c A ba) (FE:FS dL ba)
include Z a F FE
theorem CC (h:u5 o i v c (mE t p c) (mE t el) g sp=true):SS ao w dL l8 A ba c.names (.Assign [g] o sp) (io (t.T Δ) (.assign (.ae v) (.cg i p el)))/\SS ao w dL l8 A ba c.names (.Assign [g] o sp) (io (t.T Δ) (.iC v i p el)):=by haveI sw:=zy (ue (aL h)) F.ei.kind F.kd;have h:=aR h;revert sw;refine cW h λy py h=>?_;haveI q:=F.is (aL (aR h));refine Dn (aR (aR h)) λz H sc I e=>rg e λx E iter u e sw=>?_;have j:=aL (aR e);have k:=aR (aR e);exact ⟨SS.df (SS.HI FE a.handled (MC.cV (aL e)) (l0 F j) (lG u) sw (MC.cV (aL h)) q (λm d=>sE Z _ F d (aL k)) λm d l C B=>sE Z (c:=c.comp _) _ (F.comp j l C) (by rw [SZ];exact d) (aR k)) rfl,SS.df (SS.NC FE a.handled (MC.cV (aL e)) (l0 F j) (lG u) sw (MC.cV (aL h)) q (λm d=>sE Z _ F d (aL k)) λm d l C B=>sE Z (c:=c.comp _) _ (F.comp j l C) (by rw [SZ];exact d) (aR k)) rfl⟩
theorem Fu (h:xA p i E c (mE t q c) (mE t k) (mE t v) g sp=true):SS ao w dL l8 A ba c.names (.Assign [g] p sp) (io (t.T Δ) (.assign (.ae E) (.f6 i q k v))):=by haveI sw:=zy (ue (aL h)) F.ei.kind F.kd;haveI h:=aR h;revert sw;refine cW h λy py h=>?_;haveI u:=F.is (aL (aR h));refine QB (aR (aR h)) λL I J sc M d=>rg d λx H iter z d sw=>?_;haveI j:=aL (aR d);have l:=aR (aR d);exact SS.df (SS.Kl Z.G.TK FE a.handled (MC.cV (aL d)) (l0 F j) (lG z) sw (MC.cV (aL h)) u (λo e=>sE Z _ F e (aL l)) (λo e m C B=>sE Z (c:=c.comp _) _ (F.comp j m C) (by rw [SZ];exact e) (aL (aR l))) λo e m C B=>sE Z (c:=c.comp _) _ (F.comp j m C) (by rw [SZ];exact e) (aR (aR l))) rfl
omit a in theorem Tu (h:De t tg e c g e'=true):SS ao w dL l8 A ba c.names (.Assign [g] e' sp) (io (t.T Δ) (.assign tg e)):=by have h2:=aR (aR h);have UT:=(rr (ba:=ba) (ts:=[g]) (nE.mpr ⟨aL h2,rfl⟩)).1;exact SS.df (SS.assign (aL h) (H9 (aL (aR h)) F.ei.kind F.kd) UT (λρ hl=>sE Z _ F hl (aL (aR h2))) (sG Z F FE (aR (aR h2)))) rfl
end
theorem K4:Os Z (.assign p e):=λ{c A m j} F FE h=>tS h λg o sp h=>by refine ac (λr a Y=>?_) F.a;rcases Bool.or_eq_true_iff.mp h with h|h;exact QR h λi d el h=>oZ h λl h=>bC (CC (Z:=Z) a F FE h).1;refine to (Bool.or_eq_true_iff.mp h) (λh=>?_) λh=>?_;exact KV h λi d k v h=>oZ h λl h=>bC (Fu (Z:=Z) a F FE h);exact bC (Tu (Z:=Z) F FE h)
theorem O8:Os Z (.iC l i k el):=λ{c A e d} F FE h=>tS h λg j sp h=>by refine ac (λr a Y=>?_) F.a;exact bC (CC (Z:=Z) a F FE h).2
theorem UC:Os Z (.dG is E):=λ{c A C z} F FE h=>tS h λg v sp h=>by refine ac (λr a Y=>?_) F.a;refine dj h λi j h=>?_;generalize d:pureOf (swappedStores [g] v (jc c.kd))=o at h;revert d;refine AM h λo h=>AM h λl h=>dj h λx y h d=>?_;haveI q:=aR h;haveI u:=aR q;haveI e:=aR u;revert d;refine oE (aR (aR e)) λH k p m d=>?_;exact bC (SS.df (SS.dG FE a.handled rfl (Bz d F.ei.kind F.kd) (MC.cV (aL h)) (MC.cV (aL q)) (Nat.ne_of_beq_eq_false (nB (aL (aR e)))) (F.is (aL u)) (F.is (aL e)) (λI B=>ES.tup (d9 (aL m)) ((R0 Z _ F B (aR (aR m))).1 (aL (aR m))))) rfl)
theorem WZ:Os Z (.aug i o e):=λ{c A m j} F FE h=>Nl h λst h=>V9 h λg r p _ h=>by obtain rfl:=Iu (aL h);obtain rfl:=ue (aL (aR h));exact cW (aR (aR h)) λx _ h=>bC (SS.of (SS.aug FE (MC.cV (aL h)) (F.is (aL (aR h))) (λd l=>sE Z _ F l (aR (aR h)))) λd C N R X q=>fN (λu q=>Eq.mp (l9 (λk=>ir (t.T Δ) _ d C k X) (funext λv=>funext λa=>by induction u using MV.casesOn with|int=>induction v using MV.casesOn<;>rfl|_=>rfl)) q) q)
theorem Td:Os Z (.expr e):=λ{c A g a} F FE h=>Nl h λst h=>wK h λj _ h=>bC (SS.df (SS.expr F.ei (aL h) (λk d=>sE Z _ F d (aR h))) rfl)
theorem R2:Os Z (.ret e):=λ{c A g a} F FE h=>Nl h λst h=>z8 h λo _ h=>AM h λj h=>bC (SS.df (SS.ret (λk d=>sE Z _ F d h)) rfl)
theorem Sr (e:Os Z a) (g:Os Z b):Os Z (.aB d a b):=λ{c A l j} F FE h=>Nl h λst h=>Xn h λp q m _ h=>bC (SS.df (SS.aB (λo k=>sT Z _ F k (aL h)) (e F FE (aL (aR h))).1 (g F FE (aR (aR h))).1) rfl)
theorem Tc (a:Os Z b):Os Z (.cG d b):=λ{c A j e} F FE h=>Nl h λst h=>PX h λm k o _ h=>by rw [RS.mp (aL h)];exact bC (SS.df (SS.cG (λl g=>sT Z _ F g (aL (aR h))) (a F FE (aR (aR h))).1) rfl)
theorem Qd (B:Os Z b):Os Z (.aS I z b):=λ{c A E C} F FE h=>Nl h λst h=>SQ h λg iter body o _ h=>by refine ac (λr a Y=>?_) F.a;rw [RS.mp (aL h)];have q:=(B F FE (aR (aR h))).1;have h:=aL (aR h);induction z using IK.casesOn with|plain e=>exact oZ h λi h=>cW h λx _ h=>bC (SS.df (SS.Lb FE a.handled (ju F (aL h)).1 (ju F (aL h)).2 (lG (aL (aR h))) (λm l=>sE Z _ F l (aR (aR h))) q) rfl)|range e=>exact oZ h λi h=>cW h λx _ h=>gI (aR h) λr _ u _ d=>T0 d λd=>Nl (aR d) λH j=>bC (SS.df (SS.Lz Z.G.TK FE a.handled (ju F (aL h)).1 (ju F (aL h)).2 (F.is (aL d)) Z.G.Pg (aL j) (λm l=>sE Z _ F l (aR j)) q) rfl)|zip v y=>exact oE h λu k p h=>gI (aR h) λr _ u _ d=>T0 d λd=>dj (aR d) λe1 J j=>bC (SS.df (SS.OW Z.G.TK FE a.handled (F.is (aL d)) Z.G.zip (aL j) (aL (aR j)) (λm l=>sE Z _ F l (aL (aR (aR j)))) (λm l=>sE Z _ F l (aR (aR (aR j)))) (sG Z F FE (aL h)) q) rfl)
theorem VB:Os Z (.raise e):=λ{c A k g} F FE h=>Nl h λst h=>J6 h λo u _ h=>by refine ac (λr a Y=>?_) F.a;rw [Option.isNone_iff_eq_none.mp (aL h)];exact AM (aR h) λx h=>gI h λr _ l _ h=>T0 h λh=>Nl (aR h) λm d=>bC (SS.df (SS.raise Z.G.TK Z.G.FI F.ei a Z.G.RF.exc Z.G.exc (F.is (aL h)) (by decide+kernel) (aL d) (λp j=>sE Z _ F j (aR d))) rfl)
theorem QH (Z:Cz ao w dL l8 K t Δ n fr fd fI) p:Os Z p:=by induction p with|assign=>exact K4|iC=>exact O8|dG=>exact UC|aug=>exact WZ|expr=>exact Td|ret=>exact R2|aB _ _ _ c a=>exact Sr c a|cG _ _ a=>exact Tc a|aS _ _ _ a=>exact Qd a|raise=>exact VB|seq _ _ c a=>exact E8 c a|skip=>exact PK|bad=>exact Oe
theorem sS (G:WF ao w dL l8 K t Δ fr fd fI) (CO:iL ao w dL l8 (t.T Δ) n) p (F:KM dL n c A a) (FE:FS dL a) (h:mS t p c d=true):HT ao w dL l8 A a c.names d (io (t.T Δ) p)/\(tW p=true->∀st,d=[st]->SS ao w dL l8 A a c.names st (io (t.T Δ) p)):=QH ⟨G,CO⟩ p F FE h
end
@[elab_as_elim] theorem GB {x k} {P:Value->Prop} (h:zo x k=true) (f:∀i t,k i t=true->P (.int i t)):P x:=AT (AE h) λe h=>Value.int.elim (motive:=λx=>(e:x.ctorIdx=4)->(Value.int.elim x e k:Bool)=true->P x) x e (λi t _ h=>f i t h) e h
@[elab_as_elim] theorem y7 {x k} {P:Value->Prop} (h:rP x k=true) (f:∀s t,k s t=true->P (.str s t)):P x:=AT (AE h) λe h=>Value.str.elim (motive:=λx=>(e:x.ctorIdx=6)->(Value.str.elim x e k:Bool)=true->P x) x e (λs t _ h=>f s t h) e h
@[elab_as_elim] theorem q9 {x k} {P:Value->Prop} (h:n6 x k=true) (f:∀t,k t=true->P (.type t)):P x:=AT (AE h) λe h=>Value.type.elim (motive:=λx=>(e:x.ctorIdx=8)->(Value.type.elim x e k:Bool)=true->P x) x e (λt _ h=>f t h) e h
@[elab_as_elim] theorem BE {x k} {P:Value->Prop} (h:tu x k=true) (f:∀b,k b=true->P (.builtin b)):P x:=AT (AE h) λe h=>Value.builtin.elim (motive:=λx=>(e:x.ctorIdx=9)->(Value.builtin.elim x e k:Bool)=true->P x) x e (λb _ h=>f b h) e h
@[elab_as_elim] theorem jl {x k} {P:Value->Prop} (h:i7 x k=true) (f:∀a,k a=true->P (.ref a)):P x:=AT (AE h) λe h=>Value.ref.elim (motive:=λx=>(e:x.ctorIdx=10)->(Value.ref.elim x e k:Bool)=true->P x) x e (λa _ h=>f a h) e h
@[elab_as_elim] theorem YF {x k} {P:Data->Prop} (h:yq x k=true) (f:∀v n,k v n=true->P (.seq v n)):P x:=AT (AE h) λe h=>Data.seq.elim (motive:=λx=>(e:x.ctorIdx=2)->(Data.seq.elim x e k:Bool)=true->P x) x e (λv n _ h=>f v n h) e h
@[elab_as_elim] theorem Qs {x k} {P:Data->Prop} (h:Aq x k=true) (f:∀d,k d=true->P (.func d)):P x:=AT (AE h) λe h=>Data.func.elim (motive:=λx=>(e:x.ctorIdx=7)->(Data.func.elim x e k:Bool)=true->P x) x e (λd _ h=>f d h) e h
@[elab_as_elim] theorem M4 {x k} {P:Data->Prop} (h:DF x k=true) (f:∀c,k c=true->P (.cls c)):P x:=AT (AE h) λe h=>Data.cls.elim (motive:=λx=>(e:x.ctorIdx=8)->(Data.cls.elim x e k:Bool)=true->P x) x e (λc _ h=>f c h) e h
@[elab_as_elim] theorem tf {x k} {P:FuncBody->Prop} (h:oi x k=true) (f:∀b,k b=true->P (.stmts b)):P x:=by induction x using FuncBody.casesOn with|stmts b=>exact f b h|expr=>injection h
@[elab_as_elim] theorem wU {o k} {P:Option Obj->Prop} (h:pd o k=true) (f:∀c d a e,k c a=true->P (some ⟨c,d,.func a,e⟩)):P o:=AM h λ⟨c,d,x,e⟩ h=>Qs (x:=x) h λa h=>f c d a e h
theorem DC:∀{l:List Str},sJ l=true->l.Nodup| [],_=>e9|a::r,h=>cO.mpr ⟨λq=>absurd rfl (ml (nB (LG.mp (aL h) a q))),DC (aR h)⟩
theorem Qv {l:List Str} (h:AU l=true):(".0" :Str)∉l:=λq=>absurd rfl (ml (nB (LG.mp h _ q)))
theorem zD:∀{c:List Arg} {l:List Str},uB c l=true->c.map (·.arg)=l| [],l,h=>(RS.mp (h:l.isEmpty=true)).symm|a::r,[],h=>nomatch h|a::r,x::y,h=>by rw [cN,zD (aR h),cj (aL h)]
theorem Qk {a:FuncData} (h:C0 a c=true):rO a c:=⟨RS.mp (aL h),zD (aL (aR h)),RS.mp (aL (aR (aR h))),dU (aL (aR (aR (aR h)))),dU (aL (aR (aR (aR (aR h))))),Value.none.elim (motive:=λv=>v= .none) a.defaults (ue (aR (aR (aR (aR (aR h)))))) rfl⟩
theorem MD {c:List Str} (h:Ck a c=true):∀x∈c,a.lookup x=some .local\/a.lookup x=some .cell:=λx d=>by have:=LG.mp h x d;rw [<- pN];generalize fw a x=o at this⊢;exact AM this λk h=>by induction k using NameKind.casesOn<;>first|exact .inl rfl|exact .inr rfl|injection h
theorem rG {K:Frag} {j:Addr} (n:∃c d l,K.lookup j=some ⟨c,d,.func g,l⟩) (m:g.body= .stmts body) (h:oh K g k a=true):kJ K j g body k a:=⟨⟨n,m,aL h,ej (aL (aR h)),ej (aL (aR (aR h))),RS.mp (aL (aR (aR (aR h)))),ue (aL (aR (aR (aR (aR h))))),nB (aL (aR (aR (aR (aR (aR h)))))),nB (aL (aR (aR (aR (aR (aR (aR h)))))))⟩,Qk (aL (aR (aR (aR (aR (aR (aR (aR h)))))))),MD (aL (aR (aR (aR (aR (aR (aR (aR (aR h))))))))),λy e=>absurd rfl (ue (LG.mp (aL (aR (aR (aR (aR (aR (aR (aR (aR (aR h)))))))))) (y,.free) (hZ e))),DC (aL (aR (aR (aR (aR (aR (aR (aR (aR (aR (aR h))))))))))),Qv (aR (aR (aR (aR (aR (aR (aR (aR (aR (aR (aR h)))))))))))⟩
theorem qN {t:MT} {K:Frag} (h:jC t K r=true):∃a body,kJ K r.fa a body r.ps r.rest/\mS t r.body ⟨a.scope.names,r.ps++r.rest,r.aX⟩ body=true/\∀i P q,r.aX=some (i,P,q)->∃g,a.code= .ref g/\codeHdIn K g P=true/\a.qualname++".<locals>." ++"<lambda>" =q:=by unfold jC at h;generalize l:K.lookup r.fa=o at h;revert l;refine wU h λc d a p h l=>?_;haveI m:=aL h;generalize k:a.body=b at m;revert k;refine tf m λbody n k=>⟨a,body,rG ⟨_,_,_,l⟩ k (aL (aR h)),n,λi P q e=>?_⟩;haveI j:=aR (aR h);rw [e] at j;unfold xG at j;generalize a.code=v at j;exact jl j λg h=>⟨g,rfl,aL h,cj (aR h)⟩
section
variable {K:Frag}
theorem DY {rows:List gv} {Δ:Nat->Nat->Spec} (x:∀f d C Q X,¬Δ 0 f d C Q X) (G:∀n,WF j w k l K t (Δ n) Z Y fI) (fn:∀f r,rows[f]? =some r->r.fa=t.fa f/\jC t K r=true) (y:∀n f d C Q X,Δ (n+1) f d C Q X->∃r,rows[f]? =some r/\d.length=r.ps.length/\io (t.T (Δ n)) r.body (cb (r.ps++r.rest) d) C (λ_ T=>Fz C Q .none T) (Fz C Q) X):∀n,iL j w k l (t.T (Δ n)) n|0=>λf A g s d B Q X a R v u V h=>absurd h (x _ _ _ _ _)|n+1=>λf A g s d B Q X a R v u V h=>by refine s3 λ_ z=>?_;refine nw (λr S U J=>?_) (y n f d g.C Q X h);refine aa (λe E=>?_) (fn f r S);refine pi (λp body M I m=>?_) (qN E);refine z ?_;show codeAny _ _ (.call (.ref (t.fa f)) _) _ _;rw [<- e];refine XE (G n).TK M a R v u V U (λW F L o=>?_) J;refine (sS (c:=⟨p.scope.names,r.ps++r.rest,r.aX⟩) (G n) (DY x G fn y n) r.body ⟨⟨true,L,λ_=>rfl⟩,o.toYO,by rw [o.scope],λi P q e=>?_⟩ o.toFS I).1;refine nw (λH e1 N O=>?_) (m i P q e);exact ⟨H,by rw [o.code];exact e1,codeHd_of_K (G n).TK.cx.X N,by rw [o.qual];exact O⟩
structure Nd where
 kind:Str
 name:Str
 aq:Str
 af:Str
 val:Str
 aC:Option Nat
 ch:List Nat
 at_:List Nat
 ns:List Nat
inductive Ch where|txt (s:Str)|el (i:Nat)|tup (l:List Str)
structure El where
 aq:Str
 af:Str
 ak:List (List Str)
 av:List Str
 ch:List Ch
structure YX where
 root:Nat
 au:List Nat
 has:List Bool
 pre:List (List Str)
 az:List Str
structure Sg where
 tree:Option (List Nd)
 res:Option YX
 src:Option (Int×Int)
 ag:List El
 rows:Option (List Nat)
 aD:Nat->Nat->Option OV
 raw:Bool
noncomputable def pu (l:List Nat):List MV:=l.map λi:Nat=> .int i
noncomputable def te (l:List Str):List MV:=l.map .str
noncomputable def dB:Option Nat->MV|none=> .none|some p=> .int p
set_option backward.eqns.nonrecursive false in noncomputable def ze:Ch->MV| .txt s=> .str s| .el i=> .af (.el i)| .tup l=> .tup (te l)
noncomputable def jH:List (Nat×MV):=[(0,.af .aV)]
noncomputable def iu (a p:Nat):List (Nat×MV):=[(10,.af .tree),(11,.int a),(12,.af .au),(13,.af .has),(14,.af (.pend p))]
noncomputable def bG (i:Nat) (n:Nd):List (Nat×MV):=[(1,.str n.kind),(2,.str n.name),(3,.str n.aq),(4,.str n.af),(5,.str n.val),(6,dB n.aC),(7,.af (.ch i)),(8,.af (.at' i)),(9,.af (.ns i))]
noncomputable def cX:Nat->Option (Addr×Str)|0=>some (602,"_law_call_right.<locals>.<lambda>")|1=>some (621,"_law_begun_right.<locals>.<lambda>")|2=>some (628,"law.<locals>.<lambda>")|_=>none
theorem qo:cX 0=some (602,("_law_call_right.<locals>.<lambda>" :Str)):=rfl
theorem qg:cX 1=some (621,("_law_begun_right.<locals>.<lambda>" :Str)):=rfl
theorem oL:cX 2=some (628,("law.<locals>.<lambda>" :Str)):=rfl
noncomputable def ce:List Str:=["name","attributes","children"]
noncomputable def dA (r:Bool) (i:Nat) (e:El):MV:=if r=true/\i=0 then .lst (e.ch.map ze) else .af (.ec i)
noncomputable def gQ (r:Bool) (i:Nat) (e:El):List MV:=if r=true/\i=0 then [] else e.ch.map ze
noncomputable def ct (r:Bool) (i:Nat) (e:El):List MV:=[.tup [.str e.aq,.str e.af],.af (.ea i),dA r i e]
set_option backward.eqns.nonrecursive false in noncomputable def gh (a:Sg):GH| .tree=>a.tree.map λ_=> .inst 554 jH| .aV=>a.tree.map λc=> .list ((List.range c.length).map λi=> .af (.node i))| .node i=>a.tree.bind λc=>c[i]?.map λn=> .inst 365 (bG i n)| .ch i=>a.tree.bind λc=>c[i]?.map λn=> .list (pu n.ch)| .at' i=>a.tree.bind λc=>c[i]?.map λn=> .list (pu n.at_)| .ns i=>a.tree.bind λc=>c[i]?.map λn=> .list (pu n.ns)| .res=>a.res.map λr=> .inst 343 (iu r.root r.pre.length)| .au=>a.res.map λr=> .list (pu r.au)| .has=>a.res.map λr=> .list (r.has.map .bool)| .pend i=>a.res.bind λr=>(r.pre++[r.az])[i]?.map λl=> .list (te l)| .src=>a.src.map λp=> .list [.int p.1,.int p.2]| .ag=>a.rows.map λl=> .list (l.map λi=> .af (.el i))| .el i=>a.ag[i]?.map λe=> .aM ce (ct a.raw i e)| .ea i=>a.ag[i]?.map λe=> .aT e.ak (te e.av)| .ec i=>a.ag[i]?.map λe=> .list (gQ a.raw i e)| .aD i k=>a.aD i k| .code i=>(cX i).map λp=> .tab p.1 p.2
theorem M6:oP (some v) Q=Q v:=rfl
theorem IV:oP none Q=False:=rfl
theorem x0 (l:List Nat):(pu l).length=l.length:=FB ..
theorem CG (l:List Nat) (i:Nat):(pu l)[i]? =l[i]?.map λi:Nat=> .int i:=GG ..
theorem N5:dO f (p::r)=bif p.1==f then some p.2 else dO f r:=rfl
theorem IR:bp f v (p::r)=bif p.1==f then (p.1,v)::r else p::bp f v r:=rfl
theorem KA:bp f v []=[(f,v)]:=rfl
noncomputable def tU:List Nat:=[1,2,3,4,5,6,7,3,3,4,4,6,5,1,1,1,5,6,8,6,6,3,4,3,8,4,9,1,10,1,7,7,7,1,1,2,1,3,3,4,4,4,4,2,3,3,2,2,2,2,2,2,2,2,2,1,1,2,1,1,12,5,20,12,100]
noncomputable def d5 (f:Nat):Nat:=tU.getD f 1
theorem Rj f:0<d5 f:=by have h:tU.all (λn=>Nat.blt 0 n)=true:=rfl;unfold d5;rw [List.getD_eq_getElem?_getD];cases e:tU[f]? with|none=>exact Nat.one_pos|some n=>exact d9 (LG.mp h n (Lm e))
noncomputable def Sg.t (j:Sg) (nd:List Nd):Sg:={j with tree:=some nd}
noncomputable def cA (a:List Nd):List MV:=(List.range a.length).map λi=> .af (.node i)
theorem gD (c:Sg) a:(c.t a).tree=some a:=rfl
theorem pP (c:Sg) a b:(c.t a).t b=c.t b:=rfl
theorem O4 (i:Nat):(i==i)=true:=by simp
theorem bg (h:n<1000):n<=gz:=be (Co h) (by decide)
theorem bl (h:n<1000):n<gz:=Op h (by decide)
theorem gT a:gh a .tree=a.tree.map λ_=> .inst 554 jH:=rfl
theorem gR (a:Sg):gh a .aV=a.tree.map λc=> .list (cA c):=rfl
theorem gN a i:gh a (.node i)=a.tree.bind λc=>c[i]?.map λn=> .inst 365 (bG i n):=rfl
theorem gC a i:gh a (.ch i)=a.tree.bind λc=>c[i]?.map λn=> .list (pu n.ch):=rfl
theorem gA a i:gh a (.at' i)=a.tree.bind λc=>c[i]?.map λn=> .list (pu n.at_):=rfl
theorem gS a i:gh a (.ns i)=a.tree.bind λc=>c[i]?.map λn=> .list (pu n.ns):=rfl
theorem gO a:gh a .au=a.res.map λr=> .list (pu r.au):=rfl
theorem gP a i:gh a (.pend i)=a.res.bind λr=>(r.pre++[r.az])[i]?.map λl=> .list (te l):=rfl
theorem R4 a:gh a .src=a.src.map λp=> .list [.int p.1,.int p.2]:=rfl
theorem Ud a:gh a .ag=a.rows.map λl=> .list (l.map λi=> .af (.el i)):=rfl
theorem Kq a i:gh a (.el i)=a.ag[i]?.map λe=> .aM ce (ct a.raw i e):=rfl
theorem HM a i:gh a (.ea i)=a.ag[i]?.map λe=> .aT e.ak (te e.av):=rfl
theorem vR a i:gh a (.ec i)=a.ag[i]?.map λe=> .list (gQ a.raw i e):=rfl
theorem xD a i k:gh a (.aD i k)=a.aD i k:=rfl
theorem LA a i:gh a (.code i)=(cX i).map λp=> .tab p.1 p.2:=rfl
theorem Q1:(if True then a else b)=a:=bn trivial
theorem Fq:(if False then a else b)=b:=al id
structure St where
 root:Nat
 nd:List Nd
 au:List Nat
 has:List Bool
 pre:List (List Str)
 az:List Str
noncomputable def Sg.s (j:Sg) (S:St):Sg:={j with tree:=some S.nd,res:=some ⟨S.root,S.au,S.has,S.pre,S.az⟩}
theorem ck (a:Sg) (S:St):(a.s S).tree=some S.nd:=rfl
theorem yy (c:Sg) (S:St) a:(c.s S).t a=c.s {S with nd:=a}:=rfl
theorem fm (a:Sg) (S:St):gh (a.s S) .res=some (.inst 343 (iu S.root S.pre.length)):=rfl
theorem tL (a:Sg) (S:St):gh (a.s S) .au=some (.list (pu S.au)):=rfl
theorem PN (a:Sg) (S:St):gh (a.s S) .has=some (.list (S.has.map .bool)):=rfl
theorem u6 (a:Sg) (S:St):gh (a.s S) (.pend S.pre.length)=some (.list (te S.az)):=by rw [gP];simp [Sg.s]
def kF:GH->Prop:=λ_=>False
end
section
variable (T:eQ)
def kV (Q:MV->GH->Prop) (C:GH):MV->Prop:=λv=>Q v C
def PM (f:Nat) (Q:MV->GH->Prop):MV->GH->Prop:=λv C=>oX T v f C Q
def Br (f:Nat) (Q:MV->GH->Prop) (X:GH->Prop):List MV->GH->Prop:=λa C=>T.Δ f a C Q X
def rM (v:MV) (K:List MV->GH->Prop):List MV->GH->Prop:=λa C=>K (v::a) C
def kA (c:BY) (a:ee) (K:List MV->GH->Prop) (X:GH->Prop):MV->GH->Prop:=λv C=>wP T c a C (rM v K) X
def Lu (f:Nat) (v:MV) (Q:MV->GH->Prop) (X:GH->Prop):List MV->GH->Prop:=λa C=>T.Δ f (v::a) C Q X
def uZ (f:Nat) (c:BY) (a:ee) (v:MV) (Q:MV->GH->Prop) (X:GH->Prop) (C:GH):Addr×List (Nat×MV)->Prop:=λi=>bW (Nat.beq i.1 (T.aF f)&&i.2.all λp=>wT p.1 !=T.fn f) (wP T c a C (Lu T f v Q X) X)
def xp (f:Nat) (c:BY) (a:ee) (Q:MV->GH->Prop) (X:GH->Prop):MV->GH->Prop:=λv C=>oP (me C v) (uZ T f c a v Q X C)
def rj (l:Loc) (Q:MV->GH->Prop):MV->GH->Prop:=λr C=>vN r (Q (.af l) C)
def yL (f:Nat) (a:List MV) (Q:MV->GH->Prop) (X:GH->Prop):Loc->GH->Prop:=λl C=>T.Δ f (.af l::a) C (rj l Q) X
abbrev zS (f:Nat) (a:List MV) (C:GH) (Q:MV->GH->Prop) (X:GH->Prop):Prop:=dm C (.inst (T.aF f) []) (yL T f a Q X)
def xX (f:Nat) (Q:MV->GH->Prop) (X:GH->Prop):List MV->GH->Prop:=λa C=>zS T f a C Q X
def yc (b:BI) (Q:MV->GH->Prop):List MV->GH->Prop:=λa C=>LP b a C Q
def A9 (y z:Str) (Q:MV->GH->Prop):Str->GH->Prop:=λs C=>y≠z/\s.length+(s.length+1)*z.length<=gz/\Q (.str (Txt.replace s y z)) C
def eU (b:BM) (v:MV) (Q:MV->GH->Prop):List MV->GH->Prop:=λa C=>bQ b v a C Q
def fo (b:BM) (c:BY) (a:ee) (Q:MV->GH->Prop) (X:GH->Prop):MV->GH->Prop:=λv C=>bW (lQ b v C) (wP T c a C (eU b v Q) X)
def vl (o:BO) (u:MV) (Q:MV->GH->Prop):MV->GH->Prop:=λv C=>bU o u v C Q
def AG (o:BO) (b:PE) (a:ee) (Q:MV->GH->Prop) (X:GH->Prop):MV->GH->Prop:=λu C=>ir T b a C (vl o u Q) X
def uU (Q:MV->GH->Prop) (C:GH):Bool->Prop:=λr=>Q (.bool r) C
def sY (B:Bool->Prop):Bool->Prop:=λr=>B (!r)
def my (o:CO) (u:MV) (Q:MV->GH->Prop):MV->GH->Prop:=λv C=>Go o u v C (uU Q C)
def CF (o:CO) (b:PE) (a:ee) (Q:MV->GH->Prop) (X:GH->Prop):MV->GH->Prop:=λu C=>ir T b a C (my o u Q) X
def oK (a:CO) (c:PE) (d:ee) (v:MV) (Q:MV->GH->Prop) (X:GH->Prop) (C:GH):Bool->Prop:=λr=>if r then ir T c d C (my a v Q) X else Q (.bool false) C
def rv (a d:CO) (c:PE) (e:ee) (u:MV) (Q:MV->GH->Prop) (X:GH->Prop):MV->GH->Prop:=λv C=>Go a u v C (oK T d c e v Q X C)
def BL (a d:CO) (b c:PE) (e:ee) (Q:MV->GH->Prop) (X:GH->Prop):MV->GH->Prop:=λu C=>ir T b e C (rv T a d c e u Q X) X
def yF (Q:MV->GH->Prop):Bool->GH->Prop:=λb C=>Q (.bool b) C
def kB (and:Bool) (c:BY) (a:ee) (Q:Bool->GH->Prop) (X:GH->Prop):Bool->GH->Prop:=λb C=>if b=and then i9 T and c a C Q X else Q b C
def zf (Q:MV->GH->Prop):Bool->GH->Prop:=λb C=>Q (.bool (!b)) C
def Cq (Q:Bool->GH->Prop):Bool->GH->Prop:=λb C=>Q (!b) C
def Bu (Q:MV->GH->Prop):Int->GH->Prop:=λi C=>Q (.int (-i)) C
def uY (a b:PE) (c:ee) (Q:MV->GH->Prop) (X:GH->Prop):Bool->GH->Prop:=λr C=>if r then ir T a c C Q X else ir T b c C Q X
def um (u:MV) (Q:MV->GH->Prop):MV->GH->Prop:=λv C=>dn u v C Q
def Do (i:PE) (a:ee) (Q:MV->GH->Prop) (X:GH->Prop):MV->GH->Prop:=λu C=>ir T i a C (um u Q) X
def Bq (k:SK) (Q:MV->GH->Prop):MV->GH->Prop:=λu C=>eO k u C Q
def Bw (Q:MV->GH->Prop):List MV->GH->Prop:=λa C=>Q (.tup a) C
def Aa (Q:MV->GH->Prop):List MV->GH->Prop:=λa C=>NG a C Q
def rW (Q:MV->GH->Prop):Loc->GH->Prop:=λl C=>Q (.af l) C
abbrev CV (c:List Str) (a:List MV) (C:GH) (Q:MV->GH->Prop):Prop:=dm C (.aM c a) (rW Q)
def Bf (a:List Str) (Q:MV->GH->Prop):List MV->GH->Prop:=λc C=>a.Nodup/\CV a c C Q
abbrev QX (C:GH) (Q:MV->GH->Prop):Prop:=dm C (.aT [] []) (rW Q)
def qY (C:GH) (K:MV->Prop):MV->GH->Prop:=λy a=>a=C/\K y
def mJ (el:PE) (i:Nat) (a:ee) (C:GH):MV->(MV->Prop)->Prop:=λx K=>ir T el (a.set i (some x)) C (qY C K) kF
def tD (Q:MV->GH->Prop) (C:GH):List MV->Prop:=λa=>Q (.lst a) C
def wV (i:Nat) (el:PE) (c:ee) (Q:MV->GH->Prop) (C:GH):List MV->Prop:=λa=>a.length<=1000/\FF (mJ T el i c C) a (tD Q C)
def Bx (i:Nat) (el:PE) (a:ee) (Q:MV->GH->Prop):MV->GH->Prop:=λv C=>oP (wE C v) (wV T i el a Q C)
def wJ (C:GH) (u:MV) (K:MV->Prop):MV->GH->Prop:=λy a=>a=C/\K (.tup [u,y])
def ut (e:PE) (c:ee) (C:GH) (K:MV->Prop):MV->GH->Prop:=λu a=>a=C/\(match u with| .int _=>True|_=>False)/\ir T e c C (wJ C u K) kF
def uJ (k e:PE) (i:Nat) (a:ee) (C:GH):MV->(MV->Prop)->Prop:=λx K=>ir T k (a.set i (some x)) C (ut T e (a.set i (some x)) C K) kF
def wm (Q:MV->GH->Prop) (C:GH):List MV->Prop:=λa=>Q (.bq (YU a).1 (YU a).2) C
def uN (i:Nat) (k e:PE) (c:ee) (Q:MV->GH->Prop) (C:GH):List MV->Prop:=λa=>a.length<=1000/\FF (uJ T k e i c C) a (wm Q C)
def CA (i:Nat) (k e:PE) (a:ee) (Q:MV->GH->Prop):MV->GH->Prop:=λv C=>oP (wE C v) (uN T i k e a Q C)
def yb (b:Bool) (Q:MV->GH->Prop):MV->GH->Prop:=λ_ C=>Q (.bool b) C
def C5 (Q:MV->GH->Prop):GH->Prop:=λC=>Q (.bool true) C
def lV (and:Bool) (c:BY) (a:ee) (Q:Bool->GH->Prop) (X:GH->Prop):Bool->GH->Prop:=λb C=>if b=and then ip T and c a C Q X else Q b C
def AA (N:ee->GH->Prop) (C:GH):ee->Prop:=λa=>N a C
def Ab (f:Nat) (v:MV) (K:GH->Prop):MV->GH->Prop:=λu C=>oO T u f v C K
def vw (u v:MV) (K:GH->Prop):MV->GH->Prop:=λk C=>gb u k v C K
def yA (i:PE) (a:ee) (v:MV) (K:GH->Prop):MV->GH->Prop:=λu C=>ir T i a C (vw u v K) kF
def yR (ts:List Na) (c:List MV) (N:ee->GH->Prop):ee->GH->Prop:=λa C=>OR.gV T ts c a C N
def yt (t:Na) (a:ee) (N:ee->GH->Prop):MV->GH->Prop:=λv C=>OR T t a C v N
def Av (a:Nat) (c:ee) (N:ee->GH->Prop):Loc->GH->Prop:=λl C=>OP a (.af l) c N C
abbrev CD (c:Nat) (a:List MV) (d:ee) (N:ee->GH->Prop) (C:GH):Prop:=dm C (.list a) (Av c d N)
def vG (c:Nat) (d:ee) (N:ee->GH->Prop) (C:GH):List MV->Prop:=λa=>CD c a d N C
def wz (d i:Nat) (el:PE) (c:ee) (N:ee->GH->Prop) (C:GH):List MV->Prop:=λa=>a.length<=1000/\FF (mJ T el i c C) a (vG d c N C)
def Ae (a i:Nat) (el:PE) (c:ee) (N:ee->GH->Prop):MV->GH->Prop:=λv C=>oP (wE C v) (wz T a i el c N C)
def AJ (is:List Nat) (c:ee) (N:ee->GH->Prop):List MV->GH->Prop:=λa C=>a.length=is.length/\(∀i∈is,i<c.length)/\is.Nodup/\N (gG is a c) C
def wM (o:BO) (i:Nat) (u:MV) (c:ee) (N:ee->GH->Prop):MV->GH->Prop:=λv C=>match o,u,v with| .add,.int a,.int b=>OP i (.int (a+b)) c N C|_,_,_=>False
def yH (o:BO) (i:Nat) (e:PE) (a:ee) (N:ee->GH->Prop) (C:GH) (X:GH->Prop):MV->Prop:=λu=>ir T e a C (wM o i u a N) X
def Di (a:ee) (N:ee->GH->Prop):MV->GH->Prop:=λ_ C=>N a C
def zr (X:GH->Prop):MV->GH->Prop:=λ_ C=>X C
def Nx (b:PS) (N:ee->GH->Prop) (R:MV->GH->Prop) (X:GH->Prop):ee->GH->Prop:=λa C=>io T b a C N R X
def Ix (a b:PS) (c:ee) (N:ee->GH->Prop) (R:MV->GH->Prop) (X:GH->Prop):Bool->GH->Prop:=λr C=>if r then io T a c C N R X else io T b c C N R X
def Lx (b:PS) (K:ee->GH->Prop) (R:MV->GH->Prop):ee->GH->Prop:=λa C=>io T b a C K R kF
def DA (t:Na) (b:PS) (R:MV->GH->Prop):ee->GH->MV->(ee->GH->Prop)->Prop:=λa C x K=>OR T t a C x (Lx T b K R)
abbrev zH (t:Na) (d:IK) (b:PS) (g:ee) (N:ee->GH->Prop) (R:MV->GH->Prop) (e:List MV) (n:Nat) (c:GH->Prop) (a:GH):Prop:=eX (DA T t b R) (lF d a) N e n c g a
def zT (t:Na) (d:IK) (b:PS) (e:ee) (N:ee->GH->Prop) (R:MV->GH->Prop):List MV->(GH->Prop)->GH->Prop:=λc a C=>zH T t d b e N R c c.length a C
abbrev A7 (I:Nat->ee->GH->Prop) (n:Nat):ee->GH->Prop:=λa C=>∃m,m<n/\I m a C
def Wn (b:PS) (I:Nat->ee->GH->Prop) (n:Nat) (c:ee) (N:ee->GH->Prop) (R:MV->GH->Prop):Bool->GH->Prop:=λr a=>if r then io T b c a (A7 I n) R kF else N c a
def DP (c:PE) (b:PS) (N:ee->GH->Prop) (R:MV->GH->Prop):Nat->(Nat->ee->GH->Prop)->ee->GH->Prop:=λn I a C=>LM T c a C (Wn T b I n a N R) kF
abbrev Vc (c:PE) (b:PS) (a:ee) (C:GH) (N:ee->GH->Prop) (R:MV->GH->Prop):Prop:=wO (DP T c b N R) a C
def qy (v:MV) (Q:List MV->(GH->Prop)->GH->Prop) (C:GH):List MV->Prop:=λc=>c.length<=gz/\Q c (λa=>wE a v=some c) C
def lh (Q:List MV->(GH->Prop)->GH->Prop):MV->GH->Prop:=λv C=>match v with| .str s=>s.length<=gz/\Q (chars s) (λ_=>True) C|v=>oP (wE C v) λc=>c.length<=gz/\Q c (λa=>wE a v=some c) C
def Dj (Q:List MV->(GH->Prop)->GH->Prop):MV->GH->Prop:=λv C=>match v with| .int n=>0<=n/\n<=1000/\Q ((List.range n.toNat).map λi:Nat=> .int i) (λ_=>True) C|_=>False
def wC (u v:MV) (Q:List MV->(GH->Prop)->GH->Prop) (C:GH):List MV->List MV->Prop:=λc d=>c.length=d.length/\c.length<=gz/\c.all isInt=true/\Q ((c.zip d).map λp=> .tup [p.1,p.2]) (λa=>uu a u=some c/\uu a v=some d) C
def vm (u v:MV) (Q:List MV->(GH->Prop)->GH->Prop) (C:GH):List MV->Prop:=λa=>oP (uu C v) (wC u v Q C a)
def qR (u:MV) (Q:List MV->(GH->Prop)->GH->Prop):MV->GH->Prop:=λv C=>oP (uu C u) (vm u v Q C)
def xO (b:PE) (a:ee) (Q:List MV->(GH->Prop)->GH->Prop):MV->GH->Prop:=λu C=>ir T b a C (qR u Q) kF
noncomputable def dE (a b:Str):Bool:= !decide (b.cps.toList<a.cps.toList)
end
def ti (T:eQ) (f:Nat) (Q:MV->GH->Prop) (C:GH):Addr×List (Nat×MV)->Prop:=λp=>bW (T.fields.contains (p.1,f)) (oP (dO f p.2) (kV Q C))
def AB (T:eQ) (f:Nat) (x:MV) (K:GH->Prop) (C:GH) (l:Loc):Addr×List (Nat×MV)->Prop:=λp=>bW (T.fields.contains (p.1,f)&&(p.2.all (λp=>p.1 - 15==0)&&(f - 15==0&&p.2.length - 99==0))) (K (up C l (.inst p.1 (bp f x p.2))))
noncomputable def oW (i:Nat) (a:List Nd):Option Nd:=a[i]?
noncomputable def dq (a:Sg) (i:Nat):Option Nd:=a.tree.bind (oW i)
noncomputable def AI (f i:Nat) (n:Nd):MV:=(dO f (bG i n)).getD .none
def Pi (f i:Nat) (Q:MV->GH->Prop) (a:Sg):Nd->Prop:=λn=>Q (AI f i n) (gh a)
def AP (Q:MV->GH->Prop) (a:Sg):List Nd->Prop:=λ_=>Q (.af .aV) (gh a)
def No (a:Nat->Spec) (f:Nat) (e:BY) (c:ee) (Q:MV->GH->Prop) (X:GH->Prop) (d:Sg):List Nd->Prop:=λ_=>wP (mt.T a) e c (gh d) (Lu (mt.T a) f (.af .tree) Q X) X
def xo (Q:MV->GH->Prop) (C:GH):List MV->Prop:=λx=>x.length<=gz/\Q (.int x.length) C
def Df (B:Bool->Prop):List MV->Prop:=λx=>x.length<=gz/\B (decide (x=[]))
def DR (a:List (List Str)) (c:List MV) (B:Bool->Prop):List (List Str)×List MV->Prop:=λd=>oP (GE c) λg=>oP (GE d.2) λe=>a.length<=gz/\d.1.length<=gz/\B (decide (a.length=d.1.length/\∀p∈a.zip g,p∈d.1.zip e))
def rt (a:Str) (B:Bool->Prop):List Str->Prop:=λc=>c.length<=gz/\B (decide (a∈c))
def Cg (a:Str) (B:Bool->Prop):List Str×List MV->Prop:=λd=>B (decide (a∈d.1))
def zm (Q:MV->GH->Prop) (C:GH):List Nat->Prop:=λl=>match l with| [c]=>Q (.int c) C|_=>False
def wx (Q:MV->GH->Prop) (C:GH) (n:Nat):List (List Str)×List MV->Prop:=λd=>d.1.Nodup/\n<=1000/\Q (.bb d.1 d.2) C
def xC (Q:MV->GH->Prop) (C:GH):List MV->Prop:=λx=>oP (pairsOf x) (wx Q C x.length)
abbrev SJ (c:List Str) (Q:MV->GH->Prop) (C:GH):Prop:=c.length<64/\∀a:List Str,a.Perm c->sortedS a=true->Q (.lst (a.map .str)) C
def td (b:Bool) (Q:MV->GH->Prop) (C:GH):List Str×List MV->Prop:=λ_=>Q (.bool b) C
def zt (x:MV) (Q:MV->GH->Prop) (C:GH) (l:Loc):List MV->Prop:=λa=>a.length<gz/\Q .none (up C l (.list (a++[x])))
def vB (a:List MV) (Q:MV->GH->Prop) (C:GH) (l:Loc):MV->Prop:=λx=>a.length<gz/\Q x (up C l (.list a.dropLast))
def CY (Q:MV->GH->Prop) (C:GH) (l:Loc):List MV->Prop:=λa=>oP a.getLast? (vB a Q C l)
def rF (k:Str) (u:MV) (Q:MV->GH->Prop) (C:GH):List Str×List MV->Prop:=λd=>Q ((re k d.1 d.2).getD u) C
def uM (k:Str) (a:List Str) (c:List MV) (Q:MV->GH->Prop) (C:GH) (l:Loc):MV->Prop:=λx=>a.length<=1000/\Q x (up C l (.aM (DD k a c).1 (DD k a c).2))
def xM (k:Str) (Q:MV->GH->Prop) (C:GH) (l:Loc):List Str×List MV->Prop:=λd=>oP (re k d.1 d.2) (uM k d.1 d.2 Q C l)
def t6 (s:Str) (n:Nat) (Q:MV->GH->Prop) (C:GH):List Str->Prop:=λa=>n<=gz/\(a.map (·.length)).sum+a.length*s.length<=gz/\Q (.str (Txt.join s a)) C
def xF (s:Str) (Q:MV->GH->Prop) (C:GH):List MV->Prop:=λx=>oP (GE x) (t6 s x.length Q C)
def xJ (Q:MV->GH->Prop) (C:GH):Nat->Prop:=λc=>Q (.str ⟨#[c]⟩) C
noncomputable def lN (k:Int) (a:List MV):Option MV:=(seqIndex? k a.length).bind λj=>a[j]?
def CE (k:Int) (Q:MV->GH->Prop) (C:GH):List MV->Prop:=λx=>x.length<=gz/\oP (lN k x) (kV Q C)
def Bo (k:Str) (Q:MV->GH->Prop) (C:GH):List Str×List MV->Prop:=λd=>oP (re k d.1 d.2) (kV Q C)
def ua (a:List MV) (x:MV) (K:GH->Prop) (C:GH) (l:Loc):Nat->Prop:=λj=>K (up C l (.list (a.set j x)))
def yk (k:Int) (x:MV) (K:GH->Prop) (C:GH) (l:Loc):List MV->Prop:=λa=>a.length<=gz/\oP (seqIndex? k a.length) (ua a x K C l)
def Du (k:Str) (x:MV) (K:GH->Prop) (C:GH) (l:Loc):List Str×List MV->Prop:=λd=>d.1.length<=1000/\K (up C l (.aM (pb k x d.1 d.2).1 (pb k x d.1 d.2).2))
def rz (x:MV) (K:GH->Prop) (C:GH) (l:Loc) (d:List (List Str)×List MV):List Str->Prop:=λk=>d.1.length<=1000/\K (up C l (.aT (pb k x d.1 d.2).1 (pb k x d.1 d.2).2))
def C4 (t:List MV) (x:MV) (K:GH->Prop) (C:GH) (l:Loc):List (List Str)×List MV->Prop:=λd=>oP (GE t) (rz x K C l d)
section
variable {K:GH->Prop} {σ:Sg}
 {e a b c:PE} {es as:BY} {f i k:Nat} {v u x:MV} {vs xs ys:List MV} {l:Loc} {s y z:Str} {m n:Int}
theorem Jy:kF C=False:=rfl
theorem Nv:ir T (.ae i) d C Q X=oP (slot d i) (kV Q C):=rfl
theorem SX:kV Q C v=Q v C:=rfl
theorem GY:slot (d::r) 0=d:=rfl
theorem Q6:slot (d::r) (i+1)=slot r i:=rfl
theorem Ha:ir T (.ah v) d C Q X=Q v C:=rfl
theorem Mp:ir (mt.T d) (.glob 0) g C Q X=Q (.str "http://www.w3.org/XML/1998/namespace") C:=rfl
theorem Ta:ir (mt.T d) (.glob 1) g C Q X=Q (.str "http://www.w3.org/XML/1998/namespace") C:=rfl
theorem Sq:ir (mt.T d) (.glob 2) g C Q X=Q (.int 128) C:=rfl
theorem GF:ir (mt.T d) (.glob 3) g C Q X=Q (.tup [.str "root",.str "element"]) C:=rfl
theorem WK:ir T (.attr e f) d C Q X=ir T e d C (PM T f Q) X:=rfl
theorem Kj:ir T (.aE f as) d C Q X=wP T as d C (Br T f Q X) X:=rfl
theorem Sy:Br (mt.T d) f Q X vs C=d f vs C Q X:=rfl
theorem HJ:wP T .nil d C V X=V [] C:=rfl
theorem QJ:wP T (.cons e es) d C V X=ir T e d C (kA T es d V X) X:=rfl
theorem Md:kA T es d V X v C=wP T es d C (rM v V) X:=rfl
theorem XX:rM v V vs C=V (v::vs) C:=rfl
theorem Qy:ir T (.ay e f as) d C Q X=ir T e d C (xp T f as d Q X) X:=rfl
theorem Io:Lu (mt.T d) f v Q X vs C=d f (v::vs) C Q X:=rfl
theorem K5:ir T (.new f as) d C Q X=wP T as d C (xX T f Q X) X:=rfl
theorem Xs:xX T f Q X vs C=zS T f vs C Q X:=rfl
theorem XO:rj l Q .none C=Q (.af l) C:=rfl
theorem Ss:ir T (.bi d as) g C Q X=wP T as g C (yc d Q) X:=rfl
theorem KN:ir T (.eB e y z) d C Q X=ir T e d C (tl (A9 y z Q)) X:=rfl
theorem L8:tl d (.str s) C=d s C:=rfl
theorem RP:rN d (.int n) C=d n C:=rfl
theorem Mj:Ps P (.bool r) C=P r C:=rfl
theorem RY:A9 y z Q s C=(y≠z/\s.length+(s.length+1)*z.length<=gz/\Q (.str (Txt.replace s y z)) C):=rfl
theorem Wj:ir T (.bm g e as) d C Q X=ir T e d C (fo T g as d Q X) X:=rfl
theorem WM:fo T .split as d Q X (.str s) C=wP T as d C (eU .split (.str s) Q) X:=rfl
theorem Le:fo T .join as d Q X (.str s) C=wP T as d C (eU .join (.str s) Q) X:=rfl
theorem FP:fo T .lower as d Q X (.str s) C=wP T as d C (eU .lower (.str s) Q) X:=rfl
theorem Xg:fo T .rpartition as d Q X (.str s) C=wP T as d C (eU .rpartition (.str s) Q) X:=rfl
theorem Si:fo T .append as d Q X v C=bW (uu C v).isSome (wP T as d C (eU .append v Q) X):=rfl
theorem Mh:fo T .pop as d Q X v C=bW (uu C v).isSome (wP T as d C (eU .pop v Q) X):=rfl
theorem Ng:fo T .get as d Q X v C=bW (bL C v).isSome (wP T as d C (eU .get v Q) X):=rfl
theorem Mf:fo T .d7 as d Q X v C=bW (bL C v).isSome (wP T as d C (eU .d7 v Q) X):=rfl
theorem FN:ir T (.bin o a b) d C Q X=ir T a d C (AG T o b d Q X) X:=rfl
theorem Ep:AG T o b d Q X u C=ir T b d C (vl o u Q) X:=rfl
theorem Mz:ir T (.cmp o a b) d C Q X=ir T a d C (CF T o b d Q X) X:=rfl
theorem UL:CF T o b d Q X u C=ir T b d C (my o u Q) X:=rfl
theorem Yz:uU Q C r=Q (.bool r) C:=rfl
theorem Vq:sY B r=B (!r):=rfl
theorem L9:ir T (.chain o g a b c) d C Q X=ir T a d C (BL T o g b c d Q X) X:=rfl
theorem G8:BL T o g b c d Q X u C=ir T b d C (rv T o g c d u Q X) X:=rfl
theorem Pb:rv T o d c g u Q X v C=Go o u v C (oK T d c g v Q X C):=rfl
theorem GW:oK T d c g v Q X C true=ir T c g C (my d v Q) X:=rfl
theorem Ql:oK T d c g v Q X C false=Q (.bool false) C:=rfl
theorem Wz:ir T (.aI r es) d C Q X=i9 T r es d C (yF Q) X:=rfl
theorem RK:yF Q r C=Q (.bool r) C:=rfl
theorem Nw:i9 T r (.cons e .nil) d C P X=ir T e d C (Ps P) X:=rfl
theorem RX:i9 T r (.cons e (.cons g es)) d C P X=ir T e d C (Ps (kB T r (.cons g es) d P X)) X:=rfl
theorem Gn:kB T true es d P X true C=i9 T true es d C P X:=rfl
theorem Kk:lV T true es d P X true C=ip T true es d C P X:=rfl
theorem GK:kB T true es d P X false C=P false C:=rfl
theorem Qa:lV T true es d P X false C=P false C:=rfl
theorem Uv:kB T false es d P X false C=i9 T false es d C P X:=rfl
theorem OI:lV T false es d P X false C=ip T false es d C P X:=rfl
theorem Xq:kB T false es d P X true C=P true C:=rfl
theorem Ff:lV T false es d P X true C=P true C:=rfl
theorem Xc:ir T (.bF a) d C Q X=ir T a d C (Ps (zf Q)) X:=rfl
theorem Nc:zf Q r C=Q (.bool (!r)) C:=rfl
theorem RQ:LM T (.bF a) d C P X=LM T a d C (Cq P) X:=rfl
theorem TC:Cq P r C=P (!r) C:=rfl
theorem IX:ir T (.neg a) d C Q X=ir T a d C (rN (Bu Q)) X:=rfl
theorem Q2:Bu Q n C=Q (.int (-n)) C:=rfl
theorem IA:ir T (.ite c a b) d C Q X=LM T c d C (uY T a b d Q X) X:=rfl
theorem Ot:uY T a b d Q X true C=ir T a d C Q X:=rfl
theorem Ym:uY T a b d Q X false C=ir T b d C Q X:=rfl
theorem K7:ir T (.sub a b) d C Q X=ir T a d C (Do T b d Q X) X:=rfl
theorem HZ:Do T b d Q X u C=ir T b d C (um u Q) X:=rfl
theorem F3:ir T (.slice q a) d C Q X=ir T a d C (Bq q Q) X:=rfl
theorem My:ir T (.tup es) d C Q X=wP T es d C (Bw Q) X:=rfl
theorem RN:Bw Q vs C=Q (.tup vs) C:=rfl
theorem H0:ir T (.list es) d C Q X=wP T es d C (Aa Q) X:=rfl
theorem Ex:Aa Q vs C=NG vs C Q:=rfl
theorem GJ:ir T (.dict g es) d C Q X=wP T es d C (Bf g Q) X:=rfl
theorem Li:Bf d Q vs C=(d.Nodup/\CV d vs C Q):=rfl
theorem Gb:ir T .iD d C Q X=QX C Q:=rfl
theorem Wm:ir T (.cg i a e) d C Q X=ir T a d C (Bx T i e d Q) X:=rfl
theorem M9:Bx T i e d Q v C=oP (wE C v) (wV T i e d Q C):=rfl
theorem IE:wV T i e d Q C xs=(xs.length<=1000/\FF (mJ T e i d C) xs (tD Q C)):=rfl
theorem MJ:mJ T e i d C x J=ir T e (d.set i (some x)) C (qY C J) kF:=rfl
theorem Kz:qY C J v C=J v:=propext ⟨λh=>h.2,λh=>⟨rfl,h⟩⟩
theorem W7:tD Q C vs=Q (.lst vs) C:=rfl
theorem Fd:ir T (.f6 i a b e) d C Q X=ir T a d C (CA T i b e d Q) X:=rfl
theorem Ko:CA T i b e d Q v C=oP (wE C v) (uN T i b e d Q C):=rfl
theorem U8:uN T i b e d Q C xs=(xs.length<=1000/\FF (uJ T b e i d C) xs (wm Q C)):=rfl
theorem SU:uJ T b e i d C x J=ir T b (d.set i (some x)) C (ut T e (d.set i (some x)) C J) kF:=rfl
theorem Qz:ut T e d C J (.int n) C=ir T e d C (wJ C (.int n) J) kF:=propext ⟨λh=>h.2.2,λh=>⟨rfl,trivial,h⟩⟩
theorem WH:wJ C u J v C=J (.tup [u,v]):=propext ⟨λh=>h.2,λh=>⟨rfl,h⟩⟩
theorem EY:wm Q C vs=Q (.bq (YU vs).1 (YU vs).2) C:=rfl
theorem Fm:ir T (.refused i p q e) d C Q X=(C (.code i)=some (.tab p q)/\ir T e d C (yb false Q) (C5 Q)):=rfl
theorem O9:yb r Q v C=Q (.bool r) C:=rfl
theorem Hz:C5 Q C=Q (.bool true) C:=rfl
theorem QU:LM T (.aI r es) d C P X=ip T r es d C P X:=rfl
theorem IU:ip T r .nil d C P X=P r C:=rfl
theorem RD:ip T r (.cons e es) d C P X=LM T e d C (lV T r es d P X) X:=rfl
theorem Ug:LM T (.ae i) d C P X=ir T (.ae i) d C (Ps P) X:=rfl
theorem Ri:LM T (.ah v) d C P X=ir T (.ah v) d C (Ps P) X:=rfl
theorem K1:LM T (.attr e f) d C P X=ir T (.attr e f) d C (Ps P) X:=rfl
theorem GU:LM T (.aE f as) d C P X=ir T (.aE f as) d C (Ps P) X:=rfl
theorem Tn:LM T (.ay e f as) d C P X=ir T (.ay e f as) d C (Ps P) X:=rfl
theorem F6:LM T (.bi d as) g C P X=ir T (.bi d as) g C (Ps P) X:=rfl
theorem Ht:LM T (.bm d e as) g C P X=ir T (.bm d e as) g C (Ps P) X:=rfl
theorem NR:LM T (.cmp o a b) d C P X=ir T (.cmp o a b) d C (Ps P) X:=rfl
theorem Ku:LM T (.chain o d a b c) g C P X=ir T (.chain o d a b c) g C (Ps P) X:=rfl
theorem SW:LM T (.sub a b) d C P X=ir T (.sub a b) d C (Ps P) X:=rfl
theorem IQ:LM T (.refused i p q e) d C P X=ir T (.refused i p q e) d C (Ps P) X:=rfl
theorem Eo:gy (d::r) 0 v=some (some v::r):=rfl
theorem Uw:gy (d::r) (i+1) v=(gy r i v).map (d:: ·):=rfl
theorem RH:OP i v d N C=oP (gy d i v) (AA N C):=rfl
theorem WP:AA N C d=N d C:=rfl
theorem Mx:gG [] vs d=d:=rfl
theorem U6:gG (i::is) (v::vs) d=gG is vs (d.set i (some v)):=rfl
theorem Gu:d8 .none=true:=rfl
theorem OX:d8 (.str s)=false:=rfl
theorem Jc:d8 (.int n)=false:=rfl
theorem JO:d8 (.af l)=false:=rfl
theorem R3:d8 (.tup vs)=false:=rfl
theorem OL:d8 (.lst vs)=false:=rfl
theorem Xy:ik [] []=some true:=rfl
theorem N0:ik (v::vs) (u::d)=rC (iJ v u) (ik vs d):=rfl
theorem Ny:iJ (.int m) (.int n)=some (decide (m=n)):=rfl
theorem Gi:iJ (.str s) (.str t)=some (decide (s=t)):=rfl
theorem Wy {a b:Bool}:rC (some a) (some b)=some (a&&b):=rfl
theorem FU {k:Str->Option d}:oS (.str s) k=k s:=rfl
theorem HP {k:Int->Option d}:oI (.int n) k=k n:=rfl
theorem Im:GE []=some []:=rfl
theorem Rn:GE (.str s::vs)=(GE vs).map (s:: ·):=rfl
theorem Ys:lF (.range e) C N=Dr C N:=rfl
theorem Fc:lF (.plain e) C N=N:=rfl
theorem UY:lF (.zip a b) C N=N:=rfl
theorem Og:OR T (.ae i) d C v N=OP i v d N C:=rfl
theorem Rw:OR T (.attr e f) d C v N=ir T e d C (Ab T f v (N d)) kF:=rfl
theorem Gh:OR T (.sub e a) d C v N=ir T e d C (yA T a d v (N d)) kF:=rfl
theorem Hu:yA T a d v K u C=ir T a d C (vw u v K) kF:=rfl
theorem JU:vw u v K x C=gb u x v C K:=rfl
theorem XB:OR T (.tup ts) d C (.tup vs) N=(ts.length=vs.length/\OR.gV T ts vs d C N):=rfl
theorem Wx:OR.gV T (t::ts) (v::vs) d C N=OR T t d C v (yR T ts vs N):=rfl
theorem MA:OR.gV T [] [] d C N=N d C:=rfl
theorem SM:yR T ts vs N d C=OR.gV T ts vs d C N:=rfl
theorem FD:io T (.assign t e) d C N R X=ir T e d C (yt T t d N) X:=rfl
theorem PH:yt T t d N v C=OR T t d C v N:=rfl
theorem NS:io T (.iC i k a e) d C N R X=ir T a d C (Ae T i k e d N) X:=rfl
theorem Oq:Ae T i k e d N v C=oP (wE C v) (wz T i k e d N C):=rfl
theorem PR:wz T i k e d N C xs=(xs.length<=1000/\FF (mJ T e k d C) xs (vG i d N C)):=rfl
theorem P9:vG i d N C ys=CD i ys d N C:=rfl
theorem RZ:io T (.dG is es) d C N R X=wP T es d C (AJ is d N) X:=rfl
theorem JI:AJ is d N vs C=(vs.length=is.length/\(∀i∈is,i<d.length)/\is.Nodup/\N (gG is vs d) C):=rfl
theorem Tf:io T (.aug i o e) d C N R X=oP (slot d i) (yH T o i e d N C X):=rfl
theorem Ry:yH T o i e d N C X u=ir T e d C (wM o i u d N) X:=rfl
theorem Vw:wM .add i (.int m) d N (.int n) C=OP i (.int (m+n)) d N C:=rfl
theorem Ul:io T (.expr e) d C N R X=ir T e d C (Di d N) X:=rfl
theorem E3:Di d N v C=N d C:=rfl
theorem GX:io T (.ret e) d C N R X=ir T e d C R X:=rfl
theorem G4:io T (.aB c p q) d C N R X=LM T c d C (Ix T p q d N R X) X:=rfl
theorem VA:Ix T p q d N R X true C=io T p d C N R X:=rfl
theorem N2:Ix T p q d N R X false C=io T q d C N R X:=rfl
theorem WW:io T (.aS t d p) g C N R X=mN T d g C (zT T t d p g N R):=rfl
theorem MH:zT T t d p g N R xs J C=zH T t d p g N R xs xs.length J C:=rfl
theorem yi:io T (.cG c p) d C N R X=Vc T c p d C N R:=rfl
theorem Pu:Wn T p J k d N R true C=io T p d C (A7 J k) R kF:=rfl
theorem Rt:Wn T p J k d N R false C=N d C:=rfl
theorem N3:mN T (.plain e) d C F=ir T e d C (lh F) kF:=rfl
theorem LY:mN T (.range e) d C F=ir T e d C (Dj F) kF:=rfl
theorem Rk:mN T (.zip a b) d C F=ir T a d C (xO T b d F) kF:=rfl
theorem Ol:lh F (.str s) C=(s.length<=gz/\F (chars s) (λ_=>True) C):=rfl
theorem Vr:lh F (.af l) C=oP (wE C (.af l)) (qy (.af l) F C):=rfl
theorem Lj:lh F (.lst xs) C=oP (wE C (.lst xs)) (qy (.lst xs) F C):=rfl
theorem WU:lh F (.tup xs) C=oP (wE C (.tup xs)) (qy (.tup xs) F C):=rfl
theorem Oc:qy v F C xs=(xs.length<=gz/\F xs (λd=>wE d v=some xs) C):=rfl
theorem La:Dj F (.int n) C=(0<=n/\n<=1000/\F ((List.range n.toNat).map λi:Nat=> .int i) (λ_=>True) C):=rfl
theorem TX:xO T b d F u C=ir T b d C (qR u F) kF:=rfl
theorem Tz:qR u F v C=oP (uu C u) (vm u v F C):=rfl
theorem Nn:vm u v F C xs=oP (uu C v) (wC u v F C xs):=rfl
theorem Jw:wC u v F C xs ys=(xs.length=ys.length/\xs.length<=gz/\xs.all isInt=true/\F ((xs.zip ys).map λp=> .tup [p.1,p.2]) (λd=>uu d u=some xs/\uu d v=some ys) C):=rfl
theorem O7:io T (.raise e) d C N R X=ir T e d C (zr X) X:=rfl
theorem UH:zr X v C=X C:=rfl
theorem B4:io T (.seq p q) d C N R X=io T p d C (Nx T q N R X) R X:=rfl
theorem Ct:io T .skip d C N R X=N d C:=rfl
theorem nx:Nx T p N R X d C=io T p d C N R X:=rfl
theorem lx:Lx T p J R d C=io T p d C J R kF:=rfl
theorem JA:DA T t p R d C x J=OR T t d C x (Lx T p J R):=rfl
theorem Xh:DP T c p N R k J d C=LM T c d C (Wn T p J k d N R) kF:=rfl
theorem Ua:yL T f vs Q X l C=T.Δ f (.af l::vs) C (rj l Q) X:=rfl
theorem EJ:rW Q l C=Q (.af l) C:=rfl
theorem NX:Av i d N l C=OP i (.af l) d N C:=rfl
theorem XQ:yc d Q vs C=LP d vs C Q:=rfl
theorem Hm:eU d v Q vs C=bQ d v vs C Q:=rfl
theorem WR:vl o u Q v C=bU o u v C Q:=rfl
theorem Gf:my o u Q v C=Go o u v C (uU Q C):=rfl
theorem Ic:um u Q v C=dn u v C Q:=rfl
theorem Ig:Bq q Q v C=eO q v C Q:=rfl
theorem QZ:mQ (some (.list vs))=some vs:=rfl
theorem JS:cp (some (.aM d vs))=some (d,vs):=rfl
theorem Ks:jG (some (.aT d vs))=some (d,vs):=rfl
theorem Tv {c:Addr}:eE (some (.inst c d))=some (c,d):=rfl
theorem Mm:uu C (.lst vs)=some vs:=rfl
theorem CU:uu C (.af l)=mQ (C l):=rfl
theorem PW:wE C (.tup vs)=some vs:=rfl
theorem R9:wE C (.lst vs)=some vs:=rfl
theorem xY:wE C (.af l)=mQ (C l):=rfl
theorem F9:bL C (.aQ d vs)=some (d,vs):=rfl
theorem Q9:bL C (.af l)=cp (C l):=rfl
theorem XK:pE C (.af l)=jG (C l):=rfl
theorem Dz:me C (.af l)=eE (C l):=rfl
theorem YS:xp T f as d Q X v (up C l o)=oP (me (up C l o) v) (uZ T f as d v Q X (up C l o)):=rfl
theorem EE {c:Addr}:uZ T f as g v Q X C (c,d)=bW (Nat.beq c (T.aF f)&&d.all λp=>wT p.1 !=T.fn f) (wP T as g C (Lu T f v Q X) X):=rfl
theorem sI:PM T f Q (.af l) C=oP (eE (C l)) (ti T f Q C):=rfl
theorem Rv:PM T f Q (.af d) (up C l o)=oP (eE (up C l o d)) (ti T f Q (up C l o)):=rfl
theorem ER {c:Addr}:ti T f Q C (c,d)=bW (T.fields.contains (c,f)) (oP (dO f d) (kV Q C)):=rfl
theorem Ve:Ab T f v K (.af l) C=oP (eE (C l)) (AB T f v K C l):=rfl
theorem Oh {c:Addr}:AB T f v K C l (c,d)=bW (T.fields.contains (c,f)&&(d.all (λp=>p.1 - 15==0)&&(f - 15==0&&d.length - 99==0))) (K (up C l (.inst c (bp f v d)))):=rfl
theorem PZ:oW i d=d[i]? :=rfl
theorem Er:dq σ i=σ.tree.bind (oW i):=rfl
theorem fR (h:mt.fields.contains (365,f)=true) (j:∀i n,dO f (bG i n)=some (AI f i n)):PM (mt.T g) f Q (.af (.node i)) (gh σ)=oP (dq σ i) (Pi f i Q σ):=by rw [sI,gN];unfold dq oW;cases σ.tree with|none=>rfl|some d=>show oP (eE (d[i]?.map _)) _=oP (d[i]?) _;cases d[i]? with|none=>rfl|some n=>show bW ((mt.T g).fields.contains (365,f)) (oP (dO f (bG i n)) (kV Q (gh σ)))=_;rw [j,show (mt.T g).fields.contains (365,f)=true from h];rfl
theorem Yo:PM (mt.T d) 1 Q (.af (.node i)) (gh σ)=oP (dq σ i) (Pi 1 i Q σ):=fR rfl λ_ _=>rfl
theorem TG:Pi 1 i Q σ d=Q (.str d.kind) (gh σ):=rfl
theorem LQ:PM (mt.T d) 2 Q (.af (.node i)) (gh σ)=oP (dq σ i) (Pi 2 i Q σ):=fR rfl λ_ _=>rfl
theorem Yx:Pi 2 i Q σ d=Q (.str d.name) (gh σ):=rfl
theorem I7:PM (mt.T d) 3 Q (.af (.node i)) (gh σ)=oP (dq σ i) (Pi 3 i Q σ):=fR rfl λ_ _=>rfl
theorem RM:Pi 3 i Q σ d=Q (.str d.aq) (gh σ):=rfl
theorem It:PM (mt.T d) 4 Q (.af (.node i)) (gh σ)=oP (dq σ i) (Pi 4 i Q σ):=fR rfl λ_ _=>rfl
theorem Fi:Pi 4 i Q σ d=Q (.str d.af) (gh σ):=rfl
theorem H7:PM (mt.T d) 5 Q (.af (.node i)) (gh σ)=oP (dq σ i) (Pi 5 i Q σ):=fR rfl λ_ _=>rfl
theorem Yg:Pi 5 i Q σ d=Q (.str d.val) (gh σ):=rfl
theorem Ti:PM (mt.T d) 6 Q (.af (.node i)) (gh σ)=oP (dq σ i) (Pi 6 i Q σ):=fR rfl λ_ _=>rfl
theorem Fy:Pi 6 i Q σ d=Q (dB d.aC) (gh σ):=rfl
theorem EQ:PM (mt.T d) 7 Q (.af (.node i)) (gh σ)=oP (dq σ i) (Pi 7 i Q σ):=fR rfl λ_ _=>rfl
theorem LJ:Pi 7 i Q σ d=Q (.af (.ch i)) (gh σ):=rfl
theorem PO:PM (mt.T d) 8 Q (.af (.node i)) (gh σ)=oP (dq σ i) (Pi 8 i Q σ):=fR rfl λ_ _=>rfl
theorem Ke:Pi 8 i Q σ d=Q (.af (.at' i)) (gh σ):=rfl
theorem VN:PM (mt.T d) 9 Q (.af (.node i)) (gh σ)=oP (dq σ i) (Pi 9 i Q σ):=fR rfl λ_ _=>rfl
theorem Px:Pi 9 i Q σ d=Q (.af (.ns i)) (gh σ):=rfl
theorem Km:PM (mt.T d) 0 Q (.af .tree) (gh σ)=oP σ.tree (AP Q σ):=by rw [sI,gT];cases σ.tree<;>rfl
theorem Ja:AP Q σ d=Q (.af .aV) (gh σ):=rfl
theorem QK:PM (mt.T d) 10 Q (.af .res) (gh (σ.s S))=Q (.af .tree) (gh (σ.s S)):=rfl
theorem Rd:PM (mt.T d) 11 Q (.af .res) (gh (σ.s S))=Q (.int S.root) (gh (σ.s S)):=rfl
theorem JL:PM (mt.T d) 12 Q (.af .res) (gh (σ.s S))=Q (.af .au) (gh (σ.s S)):=rfl
theorem Ur:PM (mt.T d) 13 Q (.af .res) (gh (σ.s S))=Q (.af .has) (gh (σ.s S)):=rfl
theorem Fo:PM (mt.T d) 14 Q (.af .res) (gh (σ.s S))=Q (.af (.pend S.pre.length)) (gh (σ.s S)):=rfl
theorem ON (h:(Nat.beq 554 (mt.aF f)&&jH.all λp=>wT p.1 !=mt.fn f)=true):xp (mt.T d) f as g Q X (.af .tree) (gh σ)=oP σ.tree (No d f as g Q X σ):=by unfold xp;rw [Dz,gT];cases σ.tree with|none=>rfl|some j=>show bW (Nat.beq 554 (mt.aF f)&&jH.all λp=>wT p.1 !=mt.fn f) _=_;rw [h];rfl
theorem Hc:No d f as g Q X σ j=wP (mt.T d) as g (gh σ) (Lu (mt.T d) f (.af .tree) Q X) X:=rfl
theorem MG:xp (mt.T d) 35 as g Q X (.af .tree) (gh σ)=oP σ.tree (No d 35 as g Q X σ):=ON rfl
theorem N6:xp (mt.T d) 36 as g Q X (.af .tree) (gh σ)=oP σ.tree (No d 36 as g Q X σ):=ON rfl
theorem Ik:xp (mt.T d) 37 as g Q X (.af .tree) (gh σ)=oP σ.tree (No d 37 as g Q X σ):=ON rfl
theorem UM:xp (mt.T d) 38 as g Q X (.af .tree) (gh σ)=oP σ.tree (No d 38 as g Q X σ):=ON rfl
theorem FY:xp (mt.T d) 39 as g Q X (.af .tree) (gh σ)=oP σ.tree (No d 39 as g Q X σ):=ON rfl
theorem UG:xp (mt.T d) 40 as g Q X (.af .tree) (gh σ)=oP σ.tree (No d 40 as g Q X σ):=ON rfl
theorem YC:xp (mt.T d) 41 as g Q X (.af .tree) (gh σ)=oP σ.tree (No d 41 as g Q X σ):=ON rfl
theorem NN:xp (mt.T d) 42 as g Q X (.af .tree) (gh σ)=oP σ.tree (No d 42 as g Q X σ):=ON rfl
theorem Lf:xp (mt.T d) 43 as g Q X (.af .tree) (gh σ)=oP σ.tree (No d 43 as g Q X σ):=ON rfl
theorem Qh:xp (mt.T d) 44 as g Q X (.af .tree) (gh σ)=oP σ.tree (No d 44 as g Q X σ):=ON rfl
theorem IZ:xp (mt.T d) 45 as g Q X (.af .tree) (gh σ)=oP σ.tree (No d 45 as g Q X σ):=ON rfl
theorem Yb:xp (mt.T d) 46 as g Q X (.af .tree) (gh σ)=oP σ.tree (No d 46 as g Q X σ):=ON rfl
theorem Gs:xp (mt.T d) 47 as g Q X (.af .tree) (gh σ)=oP σ.tree (No d 47 as g Q X σ):=ON rfl
theorem NU:xp (mt.T d) 48 as g Q X (.af .tree) (gh σ)=oP σ.tree (No d 48 as g Q X σ):=ON rfl
theorem Mu:xp (mt.T d) 49 as g Q X (.af .tree) (gh σ)=oP σ.tree (No d 49 as g Q X σ):=ON rfl
theorem Oa:xp (mt.T d) 50 as g Q X (.af .tree) (gh σ)=oP σ.tree (No d 50 as g Q X σ):=ON rfl
theorem RW:xp (mt.T d) 51 as g Q X (.af .tree) (gh σ)=oP σ.tree (No d 51 as g Q X σ):=ON rfl
theorem TF:xp (mt.T d) 52 as g Q X (.af .tree) (gh σ)=oP σ.tree (No d 52 as g Q X σ):=ON rfl
theorem Ob:xp (mt.T d) 53 as g Q X (.af .tree) (gh σ)=oP σ.tree (No d 53 as g Q X σ):=ON rfl
theorem Fe:xp (mt.T d) 54 as g Q X (.af .tree) (gh σ)=oP σ.tree (No d 54 as g Q X σ):=ON rfl
theorem Uq:xp (mt.T d) 14 as g Q X (.af .res) (gh (σ.s S))=wP (mt.T d) as g (gh (σ.s S)) (Lu (mt.T d) 14 (.af .res) Q X) X:=rfl
theorem QL:xp (mt.T d) 15 as g Q X (.af .res) (gh (σ.s S))=wP (mt.T d) as g (gh (σ.s S)) (Lu (mt.T d) 15 (.af .res) Q X) X:=rfl
theorem Yh:xp (mt.T d) 16 as g Q X (.af .res) (gh (σ.s S))=wP (mt.T d) as g (gh (σ.s S)) (Lu (mt.T d) 16 (.af .res) Q X) X:=rfl
theorem TL:xp (mt.T d) 17 as g Q X (.af .res) (gh (σ.s S))=wP (mt.T d) as g (gh (σ.s S)) (Lu (mt.T d) 17 (.af .res) Q X) X:=rfl
theorem Mi:xp (mt.T d) 18 as g Q X (.af .res) (gh (σ.s S))=wP (mt.T d) as g (gh (σ.s S)) (Lu (mt.T d) 18 (.af .res) Q X) X:=rfl
theorem UD:xp (mt.T d) 19 as g Q X (.af .res) (gh (σ.s S))=wP (mt.T d) as g (gh (σ.s S)) (Lu (mt.T d) 19 (.af .res) Q X) X:=rfl
theorem O3:xp (mt.T d) 20 as g Q X (.af .res) (gh (σ.s S))=wP (mt.T d) as g (gh (σ.s S)) (Lu (mt.T d) 20 (.af .res) Q X) X:=rfl
theorem I8:xp (mt.T d) 21 as g Q X (.af .res) (gh (σ.s S))=wP (mt.T d) as g (gh (σ.s S)) (Lu (mt.T d) 21 (.af .res) Q X) X:=rfl
theorem Ow:xp (mt.T d) 22 as g Q X (.af .res) (gh (σ.s S))=wP (mt.T d) as g (gh (σ.s S)) (Lu (mt.T d) 22 (.af .res) Q X) X:=rfl
theorem Xx:xp (mt.T d) 23 as g Q X (.af .res) (gh (σ.s S))=wP (mt.T d) as g (gh (σ.s S)) (Lu (mt.T d) 23 (.af .res) Q X) X:=rfl
theorem GD:xp (mt.T d) 24 as g Q X (.af .res) (gh (σ.s S))=wP (mt.T d) as g (gh (σ.s S)) (Lu (mt.T d) 24 (.af .res) Q X) X:=rfl
theorem Lp:xp (mt.T d) 25 as g Q X (.af .res) (gh (σ.s S))=wP (mt.T d) as g (gh (σ.s S)) (Lu (mt.T d) 25 (.af .res) Q X) X:=rfl
theorem Ml:xp (mt.T d) 26 as g Q X (.af .res) (gh (σ.s S))=wP (mt.T d) as g (gh (σ.s S)) (Lu (mt.T d) 26 (.af .res) Q X) X:=rfl
theorem Vf:xp (mt.T d) 27 as g Q X (.af .res) (gh (σ.s S))=wP (mt.T d) as g (gh (σ.s S)) (Lu (mt.T d) 27 (.af .res) Q X) X:=rfl
theorem VW:xp (mt.T d) 28 as g Q X (.af .res) (gh (σ.s S))=wP (mt.T d) as g (gh (σ.s S)) (Lu (mt.T d) 28 (.af .res) Q X) X:=rfl
theorem Oy:xp (mt.T d) 29 as g Q X (.af .res) (gh (σ.s S))=wP (mt.T d) as g (gh (σ.s S)) (Lu (mt.T d) 29 (.af .res) Q X) X:=rfl
theorem L5:xp (mt.T d) 30 as g Q X (.af .res) (gh (σ.s S))=wP (mt.T d) as g (gh (σ.s S)) (Lu (mt.T d) 30 (.af .res) Q X) X:=rfl
theorem ND:xp (mt.T d) 31 as g Q X (.af .res) (gh (σ.s S))=wP (mt.T d) as g (gh (σ.s S)) (Lu (mt.T d) 31 (.af .res) Q X) X:=rfl
theorem Qu:xp (mt.T d) 32 as g Q X (.af .res) (gh (σ.s S))=wP (mt.T d) as g (gh (σ.s S)) (Lu (mt.T d) 32 (.af .res) Q X) X:=rfl
theorem QS:bU .add (.int m) (.int n) C Q=Q (.int (m+n)) C:=rfl
theorem RT:bU .add (.str s) (.str z) C Q=(s.length+z.length<=gz/\Q (.str (s++z)) C):=rfl
theorem Ky:bU .add (.lst vs) (.lst xs) C Q=(vs.length+xs.length<=gz/\NG (vs++xs) C Q):=rfl
theorem Yp:bU .add (.af l) (.lst xs) C Q=oP (uu C (.af l)) λx=>x.length+xs.length<=gz/\NG (x++xs) C Q:=rfl
theorem VP:bU .sub (.int m) (.int n) C Q=Q (.int (m - n)) C:=rfl
theorem QF:bU .mul (.int m) (.int n) C Q=((m.natAbs<2^63\/n.natAbs<2^63)/\Q (.int (m*n)) C):=rfl
theorem NQ:bU .mod (.int m) (.int n) C Q=(0<n/\n<2^62/\Q (.int (m%n)) C):=rfl
theorem En:bU .fdiv (.int m) (.int n) C Q=(0<n/\n<2^62/\Q (.int (m/n)) C):=rfl
theorem Pz:bU .pow (.int m) (.int n) C Q=(m.natAbs<2^60/\0<=n/\n<=1000/\Q (.int (m^n.toNat)) C):=rfl
theorem An:Go .eq u v C B=bN u v C B:=rfl
theorem Gy:Go .ne u v C B=bN u v C (sY B):=rfl
theorem wi:Go .lt (.int m) (.int n) C B=B (decide (m<n)):=rfl
theorem Tq:Go .le (.int m) (.int n) C B=B (decide (m<=n)):=rfl
theorem XJ:Go .gt (.int m) (.int n) C B=B (decide (n<m)):=rfl
theorem Kv:Go .ge (.int m) (.int n) C B=B (decide (n<=m)):=rfl
theorem Xr:Go .le (.str s) (.str z) C B=B (dE s z):=rfl
theorem Hs:Go .is v .none C B=B (d8 v):=rfl
theorem W5:Go .gB v .none C B=B (!d8 v):=rfl
theorem T9:Go .cS (.str s) v C B=cz s v C B:=rfl
theorem NW:Go .gq (.str s) v C B=cz s v C (sY B):=rfl
theorem Nq:bN (.int m) (.int n) C B=B (decide (m=n)):=rfl
theorem D5:bN (.str s) (.str z) C B=B (decide (s=z)):=rfl
theorem GC:bN .none (.str s) C B=B false:=rfl
theorem NK:bN (.tup vs) (.tup xs) C B=oP (ik vs xs) B:=rfl
theorem QA:bN (.af l) (.lst []) C B=oP (uu C (.af l)) (Df B):=rfl
theorem Kw:bN (.lst xs) (.lst []) C B=(xs.length<=gz/\B (decide (xs=[]))):=rfl
theorem U4:Df B xs=(xs.length<=gz/\B (decide (xs=[]))):=rfl
theorem W4:bN (.bb d vs) (.af l) C B=oP (pE C (.af l)) (DR d vs B):=rfl
theorem Pm:DR g vs B (d,xs)=oP (GE vs) λo=>oP (GE xs) λj=>g.length<=gz/\d.length<=gz/\B (decide (g.length=d.length/\∀p∈g.zip o,p∈d.zip j)):=rfl
theorem OD:cz s (.str z) C B=B (Txt.contains z s):=rfl
theorem Ts:cz s (.aQ d vs) C B=B (decide (s∈d)):=rfl
theorem UQ:cz s (.af l) C B=oP (cp (C l)) (Cg s B):=rfl
theorem Tj:Cg s B (d,vs)=B (decide (s∈d)):=rfl
theorem O2:cz s (.lst vs) C B=oP (GE vs) (rt s B):=rfl
theorem Oo:cz s (.tup vs) C B=oP (GE vs) (rt s B):=rfl
theorem JT:rt s B d=(d.length<=gz/\B (decide (s∈d))):=rfl
theorem SH:LP .len [v] C Q=oP (wE C v) (xo Q C):=rfl
theorem F4:xo Q C xs=(xs.length<=gz/\Q (.int xs.length) C):=rfl
theorem rE:LP .ord [.str s] C Q=zm Q C s.cps.toList:=rfl
theorem F2:zm Q C [i]=Q (.int i) C:=rfl
theorem L4:LP .str [.int m] C Q=(m.natAbs<10^9/\Q (.str (Str.ofString (toString m))) C):=rfl
theorem Yl:LP .list [v] C Q=oP (uu C v) λx=>x.length<=gz/\NG x C Q:=rfl
theorem Ju:LP .dict [v] C Q=oP (uu C v) (xC Q C):=rfl
theorem VF:xC Q C xs=oP (pairsOf xs) (wx Q C xs.length):=rfl
theorem UV:wx Q C k (d,vs)=(d.Nodup/\k<=1000/\Q (.bb d vs) C):=rfl
theorem WQ:LP .sorted [.aQ d vs] C Q=SJ d Q C:=rfl
theorem OY:LP .isStr [.str s] C Q=Q (.bool true) C:=rfl
theorem MB:LP .isStr [.tup vs] C Q=Q (.bool false) C:=rfl
theorem Vn:LP .isStr [.af l] C Q=oP (cp (C l)) (td false Q C):=rfl
theorem Np:LP .bH [.str s] C Q=Q (.bool false) C:=rfl
theorem Lv:LP .bH [.tup vs] C Q=Q (.bool false) C:=rfl
theorem NT:LP .bH [.af l] C Q=oP (cp (C l)) (td true Q C):=rfl
theorem Uc:td r Q C d=Q (.bool r) C:=rfl
theorem MI:LP .max [.int m,.int n] C Q=Q (.int (max m n)) C:=rfl
theorem Th:LP .min [.int m,.int n] C Q=Q (.int (min m n)) C:=rfl
theorem X3:LP .int [.int m] C Q=Q (.int m) C:=rfl
theorem Sh:LP .int [.bool r] C Q=Q (.int (if r then 1 else 0)) C:=rfl
theorem FC:bQ .append (.af l) [x] C Q=oP (uu C (.af l)) (zt x Q C l):=rfl
theorem TZ:zt x Q C l xs=(xs.length<gz/\Q .none (up C l (.list (xs++[x])))):=rfl
theorem I9:bQ .pop (.af l) [] C Q=oP (uu C (.af l)) (CY Q C l):=propext ⟨λh=>h.2,λh=>⟨rfl,h⟩⟩
theorem J4:CY Q C l xs=oP xs.getLast? (vB xs Q C l):=rfl
theorem ED:vB xs Q C l x=(xs.length<gz/\Q x (up C l (.list xs.dropLast))):=rfl
theorem MK:bQ .get v [.str s] C Q=oP (bL C v) (rF s .none Q C):=rfl
theorem Qj:bQ .get v [.str s,u] C Q=oP (bL C v) (rF s u Q C):=rfl
theorem Hy:rF s u Q C (d,vs)=Q ((re s d vs).getD u) C:=rfl
theorem Mt:bQ .d7 (.af l) [.str s] C Q=oP (cp (C l)) (xM s Q C l):=rfl
theorem L6:xM s Q C l (d,vs)=oP (re s d vs) (uM s d vs Q C l):=rfl
theorem Jk:uM s d vs Q C l x=(d.length<=1000/\Q x (up C l (.aM (DD s d vs).1 (DD s d vs).2))):=rfl
theorem VM:bQ .split (.str s) [.str y] C Q=(0<y.length/\s.length<=gz/\NG ((Txt.split s y).map .str) C Q):=rfl
theorem Yt:bQ .join (.str s) [v] C Q=oP (uu C v) (xF s Q C):=rfl
theorem QQ:xF s Q C xs=oP (GE xs) (t6 s xs.length Q C):=rfl
theorem HS:t6 s k Q C d=(k<=gz/\(d.map (·.length)).sum+d.length*s.length<=gz/\Q (.str (Txt.join s d)) C):=rfl
theorem E7:bQ .lower (.str s) [] C Q=((Txt.lower s).length<=gz/\Q (.str (Txt.lower s)) C):=propext ⟨λh=>h.2,λh=>⟨rfl,h⟩⟩
theorem FH:bQ .rpartition (.str s) [.str y] C Q=(0<y.length/\s.length<=gz/\Q (gX s y) C):=rfl
theorem KU:dn (.str s) (.int m) C Q=(s.length<=gz/\oP ((seqIndex? m s.length).bind λj=>s.cps[j]?) (xJ Q C)):=rfl
theorem TJ:xJ Q C i=Q (.str ⟨#[i]⟩) C:=rfl
theorem K9:dn (.bq d vs) (.int m) C Q=oP (re m d vs) (kV Q C):=rfl
theorem JX:dn (.af l) (.int m) C Q=oP (wE C (.af l)) (CE m Q C):=rfl
theorem Hx:dn (.lst xs) (.int m) C Q=(xs.length<=gz/\oP (lN m xs) (kV Q C)):=rfl
theorem OQ:dn (.tup xs) (.int m) C Q=(xs.length<=gz/\oP (lN m xs) (kV Q C)):=rfl
theorem IJ:CE m Q C xs=(xs.length<=gz/\oP (lN m xs) (kV Q C)):=rfl
theorem KX:lN m xs=(seqIndex? m xs.length).bind λj=>xs[j]? :=rfl
theorem U5:seqIndex? 0 1=some 0:=rfl
theorem EP:seqIndex? 0 2=some 0:=rfl
theorem JE:seqIndex? 1 2=some 1:=rfl
theorem RB:seqIndex? 0 3=some 0:=rfl
theorem Hl:seqIndex? 1 3=some 1:=rfl
theorem Pa:seqIndex? 2 3=some 2:=rfl
theorem Wu:dn (.af l) (.str s) C Q=oP (bL C (.af l)) (Bo s Q C):=rfl
theorem Rq:Bo s Q C (d,vs)=oP (re s d vs) (kV Q C):=rfl
theorem JD:dn (.aQ d vs) (.str s) C Q=oP (re s d vs) (kV Q C):=rfl
theorem Ru:eO .rev (.af l) C Q=oP (uu C (.af l)) λx=>x.length<=gz/\NG x.reverse C Q:=rfl
theorem UX:eO .rev (.lst xs) C Q=(xs.length<=gz/\NG xs.reverse C Q):=rfl
theorem PU:eO .fP (.af l) C Q=oP (uu C (.af l)) λx=>x.length<=gz/\NG (x.drop 1).reverse C Q:=rfl
theorem Un:eO .fY (.str s) C Q=(s.length<=gz/\Q (.str (Txt.slice s (some (-1)) none)) C):=rfl
theorem Nh:eO .iG (.tup xs) C Q=(1<=xs.length/\xs.length<=gz/\Q (.tup (xs.drop 1)) C):=rfl
theorem Jo:gb (.af l) (.int m) x C K=oP (uu C (.af l)) (yk m x K C l):=rfl
theorem Ww:yk m x K C l xs=(xs.length<=gz/\oP (seqIndex? m xs.length) (ua xs x K C l)):=rfl
theorem VU:ua xs x K C l i=K (up C l (.list (xs.set i x))):=rfl
theorem Jv:gb (.af l) (.str s) x C K=oP (cp (C l)) (Du s x K C l):=rfl
theorem Wo:Du s x K C l (d,vs)=(d.length<=1000/\K (up C l (.aM (pb s x d vs).1 (pb s x d vs).2))):=rfl
theorem Yv:gb (.af l) (.tup xs) x C K=oP (jG (C l)) (C4 xs x K C l):=rfl
theorem SN:C4 xs x K C l (d,vs)=oP (GE xs) (rz x K C l (d,vs)):=rfl
theorem Yq:rz x K C l (d,vs) g=(d.length<=1000/\K (up C l (.aT (pb g x d vs).1 (pb g x d vs).2))):=rfl
def Walk (d:Nat->Spec) (k:Nat) (vs:List MV) (C:GH) (Q:MV->GH->Prop) (X:GH->Prop):Prop:=∃r,WJ[k]? =some r/\vs.length=r.ps.length/\io (mt.T d) r.body (cb (r.ps++r.rest) vs) C (λ_ g=>Fz C Q .none g) (Fz C Q) X
theorem pc {k:Nat} (e:WJ[k]? =some r) (l:vs.length=r.ps.length) (h:io (mt.T d) r.body (cb (r.ps++r.rest) vs) C (λ_ g=>Fz C Q .none g) (Fz C Q) X):Walk d k vs C Q X:=⟨r,e,l,h⟩
def Meets (d:Nat->Spec) (k:Nat) (S:Spec):Prop:=∀{vs C Q X},S vs C Q X->d k vs C Q X
theorem f0:mt.fields.contains (554,0)=true:=rfl
theorem UN:mt.fields.contains (365,1)=true:=rfl
theorem JR:mt.fields.contains (365,2)=true:=rfl
theorem FK:mt.fields.contains (365,3)=true:=rfl
theorem LK:mt.fields.contains (365,4)=true:=rfl
theorem PT:mt.fields.contains (365,5)=true:=rfl
theorem L2:mt.fields.contains (365,6)=true:=rfl
theorem YL:mt.fields.contains (365,7)=true:=rfl
theorem N9:mt.fields.contains (365,8)=true:=rfl
theorem HV:mt.fields.contains (365,9)=true:=rfl
theorem Ft:mt.fields.contains (343,10)=true:=rfl
theorem TA:mt.fields.contains (343,11)=true:=rfl
theorem EH:mt.fields.contains (343,12)=true:=rfl
theorem X2:mt.fields.contains (343,13)=true:=rfl
theorem UI:mt.fields.contains (343,14)=true:=rfl
theorem F5 i n x:bp 2 (.str x) (bG i n)=bG i {n with name:=x}:=rfl
theorem KY i n x:bp 5 (.str x) (bG i n)=bG i {n with val:=x}:=rfl
theorem Jm a b j:bp 14 (.af (.pend j)) (iu a b)=iu a j:=rfl
theorem Kp i n:((bG i n).all λp=>p.1 - 15==0)=true:=rfl
theorem Rp a b:((iu a b).all λp=>p.1 - 15==0)=true:=rfl
theorem XA i n:(bG i n).length=9:=rfl
theorem V5 a b:(iu a b).length=5:=rfl
theorem UO:mt.aF 13=343:=rfl
theorem Mb:mt.aF 33=365:=rfl
theorem Qe:mt.aF 34=554:=rfl
end
section
theorem gZ a:(cA a).length=a.length:=by simp [cA]
theorem lq (h:i<a.length):(cA a)[i]? =some (.af (.node i)):=by simp [cA,h]
theorem g9 {n:Nat} (h:i<n):seqIndex? (i:Int) n=some i:=by unfold seqIndex?;haveI a:¬((i:Int)<0):=Jg;simp [a,h]
inductive YE (vs:List MV) (C:GH) (Q:MV->GH->Prop) (X:GH->Prop):Prop|mk (σ:Sg) (nd:List Nd) (i:Nat) (_:C=gh σ) (_:σ.tree=some nd) (_:nd.length<=gz) (_:i<nd.length) (_:vs=[.af .tree,.int (i:Nat)]) (_:Q (.af (.node i)) C)
theorem TN (h:YE e C Q X):Walk c 36 e C Q X:=by obtain ⟨k,j,i,rfl,d,g,a,rfl,q⟩:=h;refine pc rfl rfl ?_;show io (mt.T c) rK [some (.af .tree),some (.int (i:Nat))] _ _ _ _;delta rK;wide_open with [d,gZ,g,Int.natCast_nonneg,Int.ofNat_lt,a,g9 a,lq a];exact .inl q
inductive SF (f:Nd->MV) (vs:List MV) (C:GH) (Q:MV->GH->Prop) (X:GH->Prop):Prop|mk (σ:Sg) (nd:List Nd) (i:Nat) (n:Nd) (_:C=gh σ) (_:σ.tree=some nd) (_:nd.length<=gz) (_:nd[i]? =some n) (_:vs=[.af .tree,.int (i:Nat)]) (_:Q (f n) C)
theorem s0 {a:List Nd} (h:a[i]? =some n):i<a.length:=(BB.mp h).1
theorem di (c:Meets e 36 YE) {a:Sg} {i:Nat} (k:a.tree=some d) (j:d.length<=gz) (g:d[i]? =some n) (q:Q (.af (.node i)) (gh a)):e 36 [.af .tree,.int (i:Nat)] (gh a) Q X:=c ⟨a,d,i,rfl,k,j,s0 g,rfl,q⟩
theorem FV (c:Meets d 36 YE) (h:SF (λn=> .str n.kind) g C Q X):Walk d 46 g C Q X:=by obtain ⟨l,k,i,n,rfl,a,j,e,rfl,q⟩:=h;refine pc rfl rfl ?_;show io (mt.T d) ve [some (.af .tree),some (.int (i:Nat))] _ _ _ _;delta ve;wide_open with [a];refine di c a j e ?_;wide_open with [a,e];exact .inl q
theorem Fw (c:Meets d 36 YE) (h:SF (λn=> .str n.name) g C Q X):Walk d 47 g C Q X:=by obtain ⟨l,k,i,n,rfl,a,j,e,rfl,q⟩:=h;refine pc rfl rfl ?_;show io (mt.T d) wh [some (.af .tree),some (.int (i:Nat))] _ _ _ _;delta wh;wide_open with [a];refine di c a j e ?_;wide_open with [a,e];exact .inl q
theorem KD (c:Meets d 36 YE) (h:SF (λn=> .str n.aq) g C Q X):Walk d 48 g C Q X:=by obtain ⟨l,k,i,n,rfl,a,j,e,rfl,q⟩:=h;refine pc rfl rfl ?_;show io (mt.T d) ur [some (.af .tree),some (.int (i:Nat))] _ _ _ _;delta ur;wide_open with [a];refine di c a j e ?_;wide_open with [a,e];exact .inl q
theorem RG (c:Meets d 36 YE) (h:SF (λn=> .str n.af) g C Q X):Walk d 49 g C Q X:=by obtain ⟨l,k,i,n,rfl,a,j,e,rfl,q⟩:=h;refine pc rfl rfl ?_;show io (mt.T d) vg [some (.af .tree),some (.int (i:Nat))] _ _ _ _;delta vg;wide_open with [a];refine di c a j e ?_;wide_open with [a,e];exact .inl q
theorem Iq (c:Meets d 36 YE) (h:SF (λn=> .str n.val) g C Q X):Walk d 50 g C Q X:=by obtain ⟨l,k,i,n,rfl,a,j,e,rfl,q⟩:=h;refine pc rfl rfl ?_;show io (mt.T d) vk [some (.af .tree),some (.int (i:Nat))] _ _ _ _;delta vk;wide_open with [a];refine di c a j e ?_;wide_open with [a,e];exact .inl q
theorem MS (c:Meets d 36 YE) (h:SF (λn=>dB n.aC) g C Q X):Walk d 51 g C Q X:=by obtain ⟨l,k,i,n,rfl,a,j,e,rfl,q⟩:=h;refine pc rfl rfl ?_;show io (mt.T d) r9 [some (.af .tree),some (.int (i:Nat))] _ _ _ _;delta r9;wide_open with [a];refine di c a j e ?_;wide_open with [a,e];exact .inl q
inductive SL (f:Nd->List Nat) (vs:List MV) (C:GH) (Q:MV->GH->Prop) (X:GH->Prop):Prop|mk (σ:Sg) (nd:List Nd) (i:Nat) (n:Nd) (_:C=gh σ) (_:σ.tree=some nd) (_:nd.length<=gz) (_:nd[i]? =some n) (_:(f n).length<=gz) (_:vs=[.af .tree,.int (i:Nat)]) (_:Q (.lst (pu (f n))) C)
theorem R8 (c:Meets d 36 YE) (h:SL (λn=>n.ch) g C Q X):Walk d 52 g C Q X:=by obtain ⟨m,l,i,n,rfl,a,j,e,k,rfl,q⟩:=h;refine pc rfl rfl ?_;show io (mt.T d) tP [some (.af .tree),some (.int (i:Nat))] _ _ _ _;delta tP;wide_open with [a];refine di c a j e ?_;wide_open with [a,e];exact ⟨by rw [x0];exact k,.inl (.inl q)⟩
theorem HW (c:Meets d 36 YE) (h:SL (λn=>n.at_) g C Q X):Walk d 53 g C Q X:=by obtain ⟨m,l,i,n,rfl,a,j,e,k,rfl,q⟩:=h;refine pc rfl rfl ?_;show io (mt.T d) rh [some (.af .tree),some (.int (i:Nat))] _ _ _ _;delta rh;wide_open with [a];refine di c a j e ?_;wide_open with [a,e];exact ⟨by rw [x0];exact k,.inl (.inl q)⟩
theorem Pp (c:Meets d 36 YE) (h:SL (λn=>n.ns) g C Q X):Walk d 54 g C Q X:=by obtain ⟨m,l,i,n,rfl,a,j,e,k,rfl,q⟩:=h;refine pc rfl rfl ?_;show io (mt.T d) vh [some (.af .tree),some (.int (i:Nat))] _ _ _ _;delta vh;wide_open with [a];refine di c a j e ?_;wide_open with [a,e];exact ⟨by rw [x0];exact k,.inl (.inl q)⟩
theorem cB:(l++[a])[i]? =if i=l.length then some a else l[i]? :=by by_cases h:i=l.length;subst h;simp;rw [al h];by_cases c:i<l.length;rw [fV c];rw [List.getElem?_eq_none (by simp;exact LW h c),List.getElem?_eq_none (zj c)]
theorem Xf (h:i≠l.length):(l++[a])[i]?.map f=(l++[b])[i]?.map f:=by rw [cB,cB,al h,al h]
theorem rJ (h:i≠l.length):l[i]?.map f=(l++[b])[i]?.map f:=by rw [cB,al h]
theorem fh l (a:c) (f:c->d):(l++[a])[l.length]?.map f=some (f a):=by rw [cB,bn rfl];rfl
theorem end_none {l:List a}:l[l.length]?.map f=none:=by rw [List.getElem?_eq_none (lv _)];rfl
theorem iZ {l:List c} (h:j≠i):l[j]?.map f=(l.set i a)[j]?.map f:=by rw [kR (u8 h)]
theorem jz (h:a.tree=some d):∃c:Sg,a=c.t d:=⟨a,by induction a using Sg.casesOn;cases h;rfl⟩
theorem Uz {l:List a} (h:l[i]? =some e):(l.set i x)[j]?.map f=if j=i then some (f x) else l[j]?.map f:=by by_cases q:j=i;rw [bn q,q,qF (BB.mp h).1];rfl;rw [al q,kR (u8 q)]
theorem bI {l:List a} {j:Nat} (h:l[i]? =some e) {f:a->d} (c:f x=f e):l[j]?.map f=(l.set i x)[j]?.map f:=by rw [Uz h];by_cases q:j=i;rw [bn q,q,h,c];rfl;rw [al q]
theorem iW {l:List a} (h:l[i]? =some e) (x:a) (f:a->c):(l.set i x)[i]?.map f=some (f x):=by rw [qF (BB.mp h).1];rfl
noncomputable def kO (c:Sg) (a:List Nd) (n:Nd):GH:=up (gh (c.t (a++[n]))) .aV (.list (cA a))
noncomputable def on (a name c af val:Str) (d:Option Nat):Nd:=⟨a,name,c,af,val,d,[],[],[]⟩
inductive tN (vs:List MV) (C:GH) (Q:MV->GH->Prop) (X:GH->Prop):Prop|mk (σ:Sg) (nd:List Nd) (kind:Str) (name:Str) (aq:Str) (af:Str) (val:Str) (aC:Option Nat) (_:C=up (gh σ) (.node nd.length) (.inst 365 [])) (_:σ.tree=some nd) (_:vs=[.af (.node nd.length),.str kind,.str name,.str aq,.str af,.str val,dB aC]) (_:Q .none (kO σ nd (on kind name aq af val aC)))
theorem JM (h:tN m C Q X):Walk l 33 m C Q X:=by obtain ⟨n,d,a,name,k,af,val,j,rfl,c,rfl,q⟩:=h;refine am (λn=>?_) (jz c);rintro rfl;refine pc rfl rfl ?_;show io (mt.T l) qV [some (.af (.node d.length)),some (.str a),some (.str name),some (.str k),some (.str af),some (.str val),some (dB j)] _ _ _ _;delta qV;wide_open with [c];refine .inr (.ch d.length) end_none ?_;wide_open with [c];refine .inr (.at' d.length) end_none ?_;wide_open with [c];refine .inr (.ns d.length) end_none ?_;wide_open with [c];refine .inl (Eq.mpr (l9 (Q .none) ?_) q);refine TM (fh ..) λx g=>cP (fh ..) λo=>(Rs g).trans (cP (fh ..) λp=>(Rs g).trans (cP (fh ..) λr=>(Rs g).trans ?_));induction x using Loc.casesOn<;>first|rfl|exact rJ λe=>by subst e;contradiction
theorem YW (c:Sg) a n:up (kO c a n) .aV (.list (cA a++[.af (.node a.length)]))=gh (c.t (a++[n])):=by unfold kO;rw [xT];exact TM (by simp [gh,Sg.t,cA,List.range_succ]) λ_ _=>rfl
inductive kH (vs:List MV) (C:GH) (Q:MV->GH->Prop) (X:GH->Prop):Prop|mk (σ:Sg) (nd:List Nd) (kind:Str) (name:Str) (aq:Str) (af:Str) (val:Str) (aC:Option Nat) (_:C=gh σ) (_:σ.tree=some nd) (_:nd.length<gz) (_:vs=[.af .tree,.str kind,.str name,.str aq,.str af,.str val,dB aC]) (_:Q (.int nd.length) (gh (σ.t (nd++[on kind name aq af val aC]))))
theorem OU (j:Meets l 33 tN) (h:kH o C Q X):Walk l 35 o C Q X:=by
 obtain ⟨k,e,a,name,d,af,val,c,rfl,g,m,rfl,q⟩:=h;refine pc rfl rfl ?_;show io (mt.T l) wG [some (.af .tree),some (.str a),some (.str name),some (.str d),some (.str af),some (.str val),some (dB c)] _ _ _ _;delta wG;wide_open with [g];refine ⟨.node e.length,by simp [gh,g],j ⟨k,e,a,name,d,af,val,c,rfl,g,rfl,?_⟩⟩;haveI e1:kO k e (on a name d af val c) .aV=some (.list (cA e)):=bM ..;haveI n:kO k e (on a name d af val c) .tree=some (.inst 554 jH):=by unfold kO;rw [Rs (by decide)];simp [gh,Sg.t]
 wide_open with [e1];refine ⟨by rw [gZ];exact m,?_⟩;wide_open with [n,sI];refine ⟨by rw [Ll,gZ];exact m,.inl ?_⟩;rw [YW];have:((cA e++[MV.af (Loc.node e.length)]).length:Int) - 1=(e.length:Int):=by rw [Ll,gZ];simp
 rw [this];exact q
noncomputable def dR (a:List Nd) (i:Nat) (f:Nd->Nd):List Nd:=match a[i]? with|some n=>a.set i (f n)|none=>a
theorem lC {n:Nd} (h:a[i]? =some n) f:dR a i f=a.set i (f n):=by unfold dR;rw [h]
set_option tactic.hygienic true in theorem jR a i j (f:Nd->Nd):(dR a i f)[j]? =if i=j then a[j]?.map f else a[j]? :=by unfold dR;cases h:a[i]? with|some n=>show (a.set i (f n))[j]? =_;rw [List.getElem?_set];by_cases e:i=j;subst e;rw [bn rfl,bn rfl,bn (s0 h),h];rfl;rw [al e,al e]|none=>by_cases e:i=j;subst e;rw [bn rfl,h];rfl;rw [al e]
theorem kz a i (f:Nd->Nd):(dR a i f).length=a.length:=by unfold dR;cases a[i]? with|none=>rfl|some n=>exact SZ
noncomputable def tw (a:List Nd) (p:Nat) (new:Nd):List Nd:=dR (a++[new]) p λn=>{n with ch:=n.ch++[a.length]}
noncomputable def setAt (a:List Nd) (e:Nat) (name c af val:Str):List Nd:=match a[e]? with|none=>a|some n=>match n.at_.find? (λj=>a[j]?.any λm=>decide (m.aq=c)&&decide (m.af=af)) with|some j=>dR a j λm=>{m with name:=name,val:=val}|none=>dR (a++[on "attribute" name c af val (some e)]) e λn=>{n with at_:=n.at_++[a.length]}
noncomputable def B0 (c:List Nd) (e:Nat) (a d:Str):List Nd:=match c[e]? with|none=>c|some n=>match n.ns.find? (λj=>c[j]?.any λm=>decide (m.name=a)) with|some j=>dR c j λm=>{m with val:=d}|none=>dR (c++[on "namespace" a "" a d (some e)]) e λn=>{n with ns:=n.ns++[c.length]}
theorem qz:some (OV.list (cA a))=some (OV.list (cA (a.set i m))):=by unfold cA;rw [SZ]
theorem VZ (g:a.tree=some c) (h:c[i]? =some n) l:up (gh a) (.ch i) (.list (pu l))=gh (a.t (c.set i {n with ch:=l})):=by refine am (λa=>?_) (jz g);rintro rfl;refine TM (iW h _ _) λx d=>?_;induction x using Loc.casesOn with|node j=>exact bI (f:=λn=>OV.inst 365 (bG j n)) h rfl|ch j=>exact iZ λe=>d (l9 Loc.ch e)|at' j=>exact bI (f:=λn=>OV.list (pu n.at_)) h rfl|ns j=>exact bI (f:=λn=>OV.list (pu n.ns)) h rfl|aV=>exact qz|_=>rfl
theorem X9 (g:a.tree=some c) (h:c[i]? =some n) l:up (gh a) (.at' i) (.list (pu l))=gh (a.t (c.set i {n with at_:=l})):=by refine am (λa=>?_) (jz g);rintro rfl;refine TM (iW h _ _) λx d=>?_;induction x using Loc.casesOn with|node j=>exact bI (f:=λn=>OV.inst 365 (bG j n)) h rfl|at' j=>exact iZ λe=>d (l9 Loc.at' e)|ch j=>exact bI (f:=λn=>OV.list (pu n.ch)) h rfl|ns j=>exact bI (f:=λn=>OV.list (pu n.ns)) h rfl|aV=>exact qz|_=>rfl
theorem HQ (g:a.tree=some c) (h:c[i]? =some n) l:up (gh a) (.ns i) (.list (pu l))=gh (a.t (c.set i {n with ns:=l})):=by refine am (λa=>?_) (jz g);rintro rfl;refine TM (iW h _ _) λx d=>?_;induction x using Loc.casesOn with|node j=>exact bI (f:=λn=>OV.inst 365 (bG j n)) h rfl|ns j=>exact iZ λe=>d (l9 Loc.ns e)|ch j=>exact bI (f:=λn=>OV.list (pu n.ch)) h rfl|at' j=>exact bI (f:=λn=>OV.list (pu n.at_)) h rfl|aV=>exact qz|_=>rfl
theorem xR (g:a.tree=some c) (h:c[i]? =some n) (e1:m.ch=n.ch) (d:m.at_=n.at_) (k:m.ns=n.ns):up (gh a) (.node i) (.inst 365 (bG i m))=gh (a.t (c.set i m)):=by refine am (λa=>?_) (jz g);rintro rfl;refine TM (iW h _ _) λx o=>?_;induction x using Loc.casesOn with|node j=>exact iZ λe=>o (l9 Loc.node e)|ch j=>exact bI (f:=λn=>OV.list (pu n.ch)) h (l9 (λl=>OV.list (pu l)) e1)|at' j=>exact bI (f:=λn=>OV.list (pu n.at_)) h (l9 (λl=>OV.list (pu l)) d)|ns j=>exact bI (f:=λn=>OV.list (pu n.ns)) h (l9 (λl=>OV.list (pu l)) k)|aV=>exact qz|_=>rfl
theorem zJ {dr:(ee->GH->Prop)->ee->GH->Prop} (h:a C/\N d C):eX B dr N [] 0 a d C:=⟨λ_ c g=>c=d/\g=C,⟨rfl,rfl⟩,(λ_ _ _ _ h=>nomatch h),λ_ _ e=>e.1▸e.2▸h⟩
theorem yC {dr:(ee->GH->Prop)->ee->GH->Prop} R (h:c C/\B j C x (dr R)) (e:∀a d,R a d->c d/\N a d):eX B dr N [x] 1 c j C:=⟨λk=>match k with|0=>λa d=>a=j/\d=C|_+1=>R,⟨rfl,rfl⟩,(λk y a d g i=>by induction k using Nat.casesOn with|zero=>obtain rfl:=an g;revert i;refine aa ?_;rintro rfl rfl;exact h|succ k=>cases g),e⟩
theorem lS l a:pu l++[.int a]=pu (l++[a]):=by simp [pu]
inductive ph (vs:List MV) (C:GH) (Q:MV->GH->Prop) (X:GH->Prop):Prop|mk (σ:Sg) (_:C=up (gh σ) .tree (.inst 554 [])) (_:σ.tree=none) (_:vs=[.af .tree]) (_:Q .none (gh (σ.t [])))
theorem JB (h:ph c C Q X):Walk g 34 c C Q X:=by obtain ⟨j,rfl,a,rfl,q⟩:=h;refine pc rfl rfl ?_;delta zL;wide_open with [a];refine .inr .aV (by rw [lO,gR,a];rfl) ?_;wide_open with [a];refine .inl (Eq.mpr (l9 (Q .none) ?_) q);refine TM rfl λx d=>cP rfl λe=>?_;induction x using Loc.casesOn<;>first|rfl|contradiction|exact l9 (Option.bind · _) a
inductive nW (vs:List MV) (C:GH) (Q:MV->GH->Prop) (X:GH->Prop):Prop|mk (σ:Sg) (nd:List Nd) (_:C=gh σ) (_:σ.tree=some nd) (_:nd.length<1000) (_:vs=[.af .tree]) (_:Q (.int nd.length) (gh (σ.t (nd++[on "root" "" "" "" "" none]))))
theorem E9 (a:Meets c 35 kH) (h:nW k C Q X):Walk c 37 k C Q X:=by obtain ⟨e,j,rfl,d,g,rfl,q⟩:=h;refine pc rfl rfl ?_;show io (mt.T c) qL [some (.af .tree)] _ _ _ _;delta qL;wide_open with [d];exact a ⟨e,j,"root","","","","",none,rfl,d,bl g,rfl,.inl q⟩
def fQ (n:Nd):Prop:=n.kind="root" \/n.kind="element"
inductive gp (vs:List MV) (C:GH) (Q:MV->GH->Prop) (X:GH->Prop):Prop|mk (σ:Sg) (nd:List Nd) (p:Nat) (n:Nd) (kind name aq af val:Str) (_:C=gh σ) (_:σ.tree=some nd) (_:nd.length<1000) (_:nd[p]? =some n) (_:fQ n) (_:n.ch.length<1000) (_:vs=[.af .tree,.int (p:Nat),.str kind,.str name,.str aq,.str af,.str val]) (_:Q (.int nd.length) (gh (σ.t (tw nd p (on kind name aq af val (some p))))))
theorem Gm (t:Meets l 36 YE) (o:Meets l 35 kH) (h:gp y C Q X):Walk l 38 y C Q X:=by
 obtain ⟨u,k,p,n,a,name,c,af,val,rfl,g,r,j,w,z,rfl,q⟩:=h;refine pc rfl rfl ?_;show io (mt.T l) sg [some (.af .tree),some (.int (p:Nat)),some (.str a),some (.str name),some (.str c),some (.str af),some (.str val),none] _ _ _ _;delta sg;wide_open with [g];refine di t g (Co (bl r)) j ?_;wide_open with [g,j];haveI m:n.kind=("root" :Str)\/n.kind=("element" :Str):=w;wide_open with [m];refine ⟨by decide,?_⟩;wide_open with [g];refine o ⟨u,k,a,name,c,af,val,some p,rfl,g,bl r,rfl,?_⟩;have v:=s0 j;have d:(k++[on a name c af val (some p)])[p]? =some n:=by rw [fV v];exact j
 haveI e:=s0 d;haveI x:(k++[on a name c af val (some p)]).length<=gz:=by rw [Ll];unfold gz;simp;exact PA r
 wide_open with [gZ,g9 e,lq e,d,x,x0,bl z,lS];refine .inl ?_;rw [VZ (gD ..) d,pP,<- lC d (λn=>{n with ch:=n.ch++[k.length]})];exact q
theorem lr (g:Meets j 38 gp) {e:Sg} (o:e.tree=some d) (m:d.length<1000) (l:d[p]? =some n) (k:fQ n) (r:n.ch.length<1000) (q:Q (.int d.length) (gh (e.t (tw d p (on a name c af val (some p)))))):j 38 [.af .tree,.int (p:Nat),.str a,.str name,.str c,.str af,.str val] (gh e) Q X:=g ⟨e,d,p,n,a,name,c,af,val,rfl,o,m,l,k,r,rfl,q⟩
inductive o7 (Y0:List Str) (new:Nat->Nd) (vs:List MV) (C:GH) (Q:MV->GH->Prop) (X:GH->Prop):Prop|mk (σ:Sg) (nd:List Nd) (p:Nat) (n:Nd) (_:C=gh σ) (_:σ.tree=some nd) (_:nd.length<1000) (_:nd[p]? =some n) (_:fQ n) (_:n.ch.length<1000) (_:vs=[.af .tree,.int (p:Nat)]++te Y0) (_:Q (.int nd.length) (gh (σ.t (tw nd p (new p)))))
inductive mY (vs:List MV) (C:GH) (Q:MV->GH->Prop) (X:GH->Prop):Prop|mk (name:Str) (aq:Str) (af:Str) (_:o7 [name,aq,af] (λp=>on "element" name aq af "" (some p)) vs C Q X)
theorem Jj (c:Meets d 38 gp) (h:mY k C Q X):Walk d 39 k C Q X:=by obtain ⟨name,a,af,r,o,p,n,rfl,e,l,j,g,m,rfl,q⟩:=h;refine pc rfl rfl ?_;show io (mt.T d) qU [some (.af .tree),some (.int (p:Nat)),some (.str name),some (.str a),some (.str af)] _ _ _ _;delta qU;wide_open with [e];exact lr c e l j g m (.inl q)
inductive mr (vs:List MV) (C:GH) (Q:MV->GH->Prop) (X:GH->Prop):Prop|mk (val:Str) (_:o7 [val] (λp=>on "text" "" "" "" val (some p)) vs C Q X)
theorem Pk (a:Meets c 38 gp) (h:mr j C Q X):Walk c 40 j C Q X:=by obtain ⟨val,o,m,p,n,rfl,d,k,g,e,l,rfl,q⟩:=h;refine pc rfl rfl ?_;show io (mt.T c) vF [some (.af .tree),some (.int (p:Nat)),some (.str val)] _ _ _ _;delta vF;wide_open with [d];exact lr a d k g e l (.inl q)
inductive qM (vs:List MV) (C:GH) (Q:MV->GH->Prop) (X:GH->Prop):Prop|mk (val:Str) (_:o7 [val] (λp=>on "comment" "" "" "" val (some p)) vs C Q X)
theorem Ii (a:Meets c 38 gp) (h:qM j C Q X):Walk c 41 j C Q X:=by obtain ⟨val,o,m,p,n,rfl,d,k,g,e,l,rfl,q⟩:=h;refine pc rfl rfl ?_;show io (mt.T c) wq [some (.af .tree),some (.int (p:Nat)),some (.str val)] _ _ _ _;delta wq;wide_open with [d];exact lr a d k g e l (.inl q)
inductive uP (vs:List MV) (C:GH) (Q:MV->GH->Prop) (X:GH->Prop):Prop|mk (name:Str) (val:Str) (_:o7 [name,val] (λp=>on "instruction" name "" name val (some p)) vs C Q X)
theorem J5 (a:Meets c 38 gp) (h:uP j C Q X):Walk c 42 j C Q X:=by obtain ⟨name,val,o,m,p,n,rfl,d,k,g,e,l,rfl,q⟩:=h;refine pc rfl rfl ?_;show io (mt.T c) uT [some (.af .tree),some (.int (p:Nat)),some (.str name),some (.str val)] _ _ _ _;delta uT;wide_open with [d];exact lr a d k g e l (.inl q)
inductive ou (vs:List MV) (C:GH) (Q:MV->GH->Prop) (X:GH->Prop):Prop|mk (σ:Sg) (nd:List Nd) (i:Nat) (n:Nd) (_:C=gh σ) (_:σ.tree=some nd) (_:nd.length<1000) (_:nd[i]? =some n) (_:n.kind=("element" :Str)) (_:vs=[.af .tree,.int (i:Nat)]) (_:Q (.af (.node i)) C)
theorem Hq (c:Meets d 36 YE) (h:ou j C Q X):Walk d 43 j C Q X:=by obtain ⟨m,l,i,n,rfl,a,k,e,g,rfl,q⟩:=h;refine pc rfl rfl ?_;show io (mt.T d) rT [some (.af .tree),some (.int (i:Nat)),none] _ _ _ _;delta rT;wide_open with [a];refine di c a (Co (bl k)) e ?_;wide_open with [a,e,g];exact .inl q
theorem xf {l:List d} (h:∀(k:Nat) (x:d),l[k]? =some x->p x=false):l.find? p=none:=kW.mpr λx c=>by refine am (λk a=>?_) (lb c);rw [h k x a];decide
theorem xh {l:List n} (h:∀(k:Nat) (y:n),k<j->l[k]? =some y->p y=false) (c:l[j]? =some x) (d:p x=true):l.find? p=some x:=by induction l generalizing j with|nil=>injection c|cons a r m=>induction j using Nat.casesOn with|zero=>simp only [List.getElem?_cons_zero,Option.some.injEq] at c;subst c;simp [d]|succ j=>rw [List.find?_cons,h 0 a (dF _) rfl];exact m (λk y g e=>h (k+1) y (Nat.succ_lt_succ g) e) c
theorem eN {k:Nat} (h:(pu l)[k]? =some x):∃j:Nat,l[k]? =some j/\x= .int j:=by rw [CG] at h;cases e:l[k]? with|none=>rw [e] at h;injection h|some j=>rw [e] at h;obtain rfl:=an h;exact ⟨j,rfl,rfl⟩
def OK (a:List Nd) (l:List Nat):Prop:=∀(k j:Nat),l[k]? =some j->∃m,a[j]? =some m
inductive kD (vs:List MV) (C:GH) (Q:MV->GH->Prop) (X:GH->Prop):Prop|mk (σ:Sg) (nd:List Nd) (e:Nat) (n:Nd) (name aq af val:Str) (_:C=gh σ) (_:σ.tree=some nd) (_:nd.length<1000) (_:nd[e]? =some n) (_:n.kind=("element" :Str)) (_:n.at_.length<1000) (_:OK nd n.at_) (_:vs=[.af .tree,.int (e:Nat),.str name,.str aq,.str af,.str val]) (_:∀j:Nat,Q (.int j) (gh (σ.t (setAt nd e name aq af val))))
theorem Gw (H:Meets F 43 ou) (L:Meets F 35 kH) (h:kD V C Q X):Walk F 44 V C Q X:=by
 obtain ⟨E,t,e,n,name,c,af,val,rfl,g,A,d,T,P,J,rfl,q⟩:=h;refine pc rfl rfl ?_;show io (mt.T F) qT [some (.af .tree),some (.int (e:Nat)),some (.str name),some (.str c),some (.str af),some (.str val),none,none,none] _ _ _ _;delta qT;wide_open with [g];refine H ⟨E,t,e,n,rfl,g,A,d,T,rfl,?_⟩;wide_open with [g,d];refine ⟨by rw [x0];exact bg P,λk W M=>M=gh E/\(∃a b,W=[some (.af .tree),some (.int (e:Nat)),some (.str name),some (.str c),some (.str af),some (.str val),some (.af (.node e)),a,b])/\∀(i j:Nat),i<k->n.at_[i]? =some j->(t[j]?.any λm=>decide (m.aq=c)&&decide (m.af=af))=false,⟨rfl,⟨_,_,rfl⟩,λi j h=>absurd h (fT _)⟩,?_,?_⟩;intro k x B M v;refine im ?_;rintro rfl;refine EN λa b=>?_;rintro rfl l;refine ac (λj I=>?_) (eN v);rintro rfl;refine am (λm o=>?_) (J k j I);haveI O:=s0 o;wide_open with [g,d,gZ,g9 O,lq O,bg A,o];have u:¬(m.aq=c/\m.af=af)->∀(i j:Nat),i<k+1->n.at_[i]? =some j->(t[j]?.any λm=>decide (m.aq=c)&&decide (m.af=af))=false:=λN i U R p=>by rcases qK.mp R with h|rfl;exact l i U h p;rw [I] at p;obtain rfl:=an p;simp only [o,Option.any_some,Bool.and_eq_false_iff,decide_eq_false_iff_not];exact Decidable.not_and_iff_or_not.mp N
 by_cases w:m.aq=c;by_cases z:m.af=af;subst w;subst z;wide_open with [g,d,o];refine .inl ?_;have:=q j;unfold setAt at this;rw [d] at this;dsimp only at this;rw [xh (λk y h e=>l k y h e) I (by simp [o])] at this;dsimp only at this;rw [lC o] at this;exact Eq.mpr (l9 (Q _) (xR (m:={m with name:=name,val:=val}) g o rfl rfl rfl)) this;wide_open with [w,z,g,d,o];exact ⟨⟨_,_,rfl⟩,u λq=>z q.2⟩;wide_open with [w,g,d,o];exact ⟨⟨_,_,rfl⟩,u λq=>w q.1⟩;intro B M;refine im ?_;rintro rfl;refine EN λa b=>?_;rintro rfl l;wide_open with [g,d];refine L ⟨E,t,"attribute",name,c,af,val,some e,rfl,g,bl A,rfl,?_⟩;haveI S:=s0 d;haveI r:(t++[on "attribute" name c af val (some e)])[e]? =some n:=by rw [fV S];exact d
 wide_open with [r,x0,bl P,lS];refine .inl ?_;have:=q t.length;unfold setAt at this;rw [d] at this;dsimp only at this;rw [xf λi x v=>l i x (by rw [x0];exact (BB.mp v).1) v] at this;dsimp only at this;rw [lC r] at this;rw [X9 (gD ..) r,pP];exact this
inductive iS (vs:List MV) (C:GH) (Q:MV->GH->Prop) (X:GH->Prop):Prop|mk (σ:Sg) (nd:List Nd) (e:Nat) (n:Nd) (un aq:Str) (_:C=gh σ) (_:σ.tree=some nd) (_:nd.length<1000) (_:nd[e]? =some n) (_:n.kind=("element" :Str)) (_:n.ns.length<1000) (_:OK nd n.ns) (_:vs=[.af .tree,.int (e:Nat),.str un,.str aq]) (_:∀j:Nat,Q (.int j) (gh (σ.t (B0 nd e un aq))))
theorem R5 (F:Meets E 43 ou) (M:Meets E 35 kH) (h:iS V C Q X):Walk E 45 V C Q X:=by
 obtain ⟨B,u,e,n,c,d,rfl,o,v,g,T,P,L,rfl,q⟩:=h;refine pc rfl rfl ?_;show io (mt.T E) wQ [some (.af .tree),some (.int (e:Nat)),some (.str c),some (.str d),none,none] _ _ _ _;delta wQ;wide_open with [o];refine F ⟨B,u,e,n,rfl,o,v,g,T,rfl,?_⟩;wide_open with [o,g];refine ⟨by rw [x0];exact bg P,λk W N=>N=gh B/\(∃a,W=[some (.af .tree),some (.int (e:Nat)),some (.str c),some (.str d),some (.af (.node e)),a])/\∀(i j:Nat),i<k->n.ns[i]? =some j->(u[j]?.any λm=>decide (m.name=c))=false,⟨rfl,⟨_,rfl⟩,λi j h=>absurd h (fT _)⟩,?_,?_⟩;intro k x A N w;refine im ?_;rintro rfl;refine am λa=>?_;rintro rfl l;refine ac (λj J=>?_) (eN w);rintro rfl;refine am (λm p=>?_) (L k j J);haveI z:=s0 p;wide_open with [o,g,gZ,g9 z,lq z,bg v,p];have H:¬m.name=c->∀(i j:Nat),i<k+1->n.ns[i]? =some j->(u[j]?.any λm=>decide (m.name=c))=false:=λO i U R r=>by rcases qK.mp R with h|rfl;exact l i U h r;rw [J] at r;obtain rfl:=an r;simp only [p,Option.any_some,decide_eq_false_iff_not];exact O
 by_cases I:m.name=c;subst I;wide_open with [o,g,gZ,g9 z,lq z,bg v,p];refine .inl ?_;have:=q j;unfold B0 at this;rw [g] at this;dsimp only at this;rw [xh (λk y h e=>l k y h e) J (by simp [p])] at this;dsimp only at this;rw [lC p] at this;exact Eq.mpr (l9 (Q _) (xR (m:={m with val:=d}) o p rfl rfl rfl)) this;wide_open with [I,o,g,p];exact ⟨⟨_,rfl⟩,H I⟩;intro A N;refine im ?_;rintro rfl;refine am λa=>?_;rintro rfl l;wide_open with [o,g];refine M ⟨B,u,"namespace",c,"",c,d,some e,rfl,o,bl v,rfl,?_⟩;have S:=s0 g;have t:(u++[on "namespace" c "" c d (some e)])[e]? =some n:=by rw [fV S];exact g
 wide_open with [t,x0,bl P,lS];refine .inl ?_;have:=q u.length;unfold B0 at this;replace this:=g▸this;dsimp only at this;rw [xf λi x w=>l i x (by rw [x0];exact (BB.mp w).1) w] at this;dsimp only at this;rw [lC t] at this;rw [HQ (gD ..) t,pP];exact this
noncomputable def Sg.w (j:Sg) (i k:Nat) (o:Option OV):Sg:={j with aD:=λa b=>if a=i/\b=k then o else j.aD a b}
theorem jW (a:Sg) i k (o:Option OV):(a.w i k o).tree=a.tree:=rfl
theorem eW (a:Sg) i k (o:Option OV):(a.w i k o).aD i k=o:=by simp [Sg.w]
theorem fu (d:Sg) i k (c:OV):up (gh d) (.aD i k) c=gh (d.w i k (some c)):=by refine TM (bn ⟨rfl,rfl⟩) λx g=>?_;induction x using Loc.casesOn with|aD a b=>exact (al λe=>g (by rw [e.1,e.2])).symm|_=>rfl
theorem oy (c:Sg) i k (a b:Option OV):(c.w i k a).w i k b=c.w i k b:=by unfold Sg.w;congr 1;funext x y;dsimp only;split<;>rfl
def YA (c:Sg):Prop:=∀i k a,c.aD i k=some a->∀D,jA D a=true
theorem YA.w {y:Sg} (h:YA y) {k:Nat} {j:OV} (e:∀D,jA D j=true):YA (y.w i k (some j)):=λa b o q D=>by unfold Sg.w at q;dsimp only at q;split at q;obtain rfl:=an q;exact e D;exact h _ _ _ q D
theorem ja {f:c->MV} (h:∀a,dS D (f a)=true) (l:List c):NO D (l.map f)=true:=by induction l with|nil=>rfl|cons a l d=>show (dS D (f a)&&NO D (l.map f))=true;rw [h a,d];rfl
theorem tV D l:NO D (pu l)=true:=ja (λ_=>rfl) l
theorem mZ D l:NO D (te l)=true:=ja (λ_=>rfl) l
noncomputable def jw (f:Nat->Nat->Bool):Loc->Bool| .aD a b=>f a b|_=>false
theorem cZ {o:Option c} {f:c->d} (h:o.map f=some r):∃a,f a=r:=by induction o using Option.casesOn with|none=>injection h|some a=>exact ⟨a,an h⟩
theorem sh {c:Type} {o:Option e} {g:e->Option d} {f:d->c} {r:c} (h:(o.bind λa=>(g a).map f)=some r):∃a,f a=r:=by induction o using Option.casesOn with|none=>injection h|some a=>exact cZ h
theorem ra {σ:Sg} (h:YA σ) f {l:Loc} {c:OV} (e:gh σ l=some c):jA (jw f) c=true:=by
 haveI ch:∀l:List Ch,NO (jw f) (l.map ze)=true:=ja λx=>by induction x using Ch.casesOn<;>first|rfl|exact mZ _ _
 induction l using Loc.casesOn with|aD a b=>exact h _ _ _ e _|tree=>refine am (λY=>?_) (cZ e);rintro rfl;rfl|res=>refine am (λY=>?_) (cZ e);rintro rfl;rfl|src=>refine am (λY=>?_) (cZ e);rintro rfl;rfl|code _=>refine am (λY=>?_) (cZ e);rintro rfl;rfl|aV=>refine am (λY=>?_) (cZ e);rintro rfl;exact ja (λ_=>rfl) _|ag=>refine am (λY=>?_) (cZ e);rintro rfl;exact ja (λ_=>rfl) _|has=>refine am (λY=>?_) (cZ e);rintro rfl;exact ja (λ_=>rfl) _|au=>refine am (λY=>?_) (cZ e);rintro rfl;exact tV _ _|ea _=>refine am (λY=>?_) (cZ e);rintro rfl;exact mZ _ _|ec _=>refine am (λY=>?_) (cZ e);rintro rfl;show NO _ (gQ ..)=true;unfold gQ;split;rfl;exact ch _|el _=>refine am (λx=>?_) (cZ e);rintro rfl;show (true&&(true&&(dS _ (dA ..)&&true)))=true;unfold dA;split;exact (Bool.and_true _).trans (ch _);rfl|node _=>obtain ⟨⟨_,_,_,_,_,p,_,_,_⟩,rfl⟩:=sh e;induction p using Option.casesOn<;>rfl|pend _=>refine am (λY=>?_) (sh e);rintro rfl;exact mZ _ _|_=>refine am (λY=>?_) (sh e);rintro rfl;exact tV _ _
theorem tq (r:∀l,D l=true->d l=none) (n:∀l,D l=true->gh g l=none) (j:∀l,D l=false->gh c l=gh g l) (t:∀l m,gh g l=some m->jA D m=true) (p:m4 D (gh c) v=some k) (q:Q k (gh g)):Fz d Q v (gh c):=by
 haveI e:cut D (gh c)=gh g:=by funext l;unfold cut;cases q:D l;exact j l q;exact (n l q).symm
 exact .inr D k ⟨r,λl o a b=>t l o (by rw [<- j l b];exact a)⟩ p (e.symm▸q)
theorem DU {σ:Sg} (h:∀a b,f a b=true->σ.aD a b=none):∀l,jw f l=true->gh σ l=none:=λl e=>by induction l using Loc.casesOn<;>first|cases e|exact h _ _ e
noncomputable abbrev qP (i k:Nat):Loc->Bool:=jw λa b=>decide (a=i/\b=k)
theorem w_eq {a:Sg} {k:Nat} {o:Option OV} (c:f i k=true):∀l,jw f l=false->gh (a.w i k o) l=gh a l:=λl e=>by
 induction l using Loc.casesOn<;>try rfl
 exact al λq=>by rw [q.1,q.2] at e;exact Bool.noConfusion (c.symm.trans e)
theorem D6 {c:Sg} (n:YA c) {k:Nat} (h:c.aD i k=none) {d:OV} (j:m4 (qP i k) (gh (c.w i k (some d))) v=some m) (q:Q m (gh c)):Fz (gh c) Q v (gh (c.w i k (some d))):=haveI g:=DU (σ:=c) (f:=λa b=>decide (a=i/\b=k)) λa b e=>(by refine aa ?_ (ue e);rintro rfl rfl;exact h);tq g g (w_eq (decide_eq_true ⟨rfl,rfl⟩)) (λl d e=>ra n _ e) j q
theorem FW {a:Sg} (j:YA a) {k:Nat} (h:a.aD i k=none) {d:List Str} {c:List Str} (q:Q (.aQ d (te c)) (gh a)):Fz (gh a) Q (.af (.aD i k)) (gh (a.w i k (some (.aM d (te c))))):=D6 j h (by haveI e:qP i k (.aD i k)=true:=decide_eq_true ⟨rfl,rfl⟩;haveI g:gh (a.w i k (some (.aM d (te c)))) (.aD i k)=some (.aM d (te c)):=eW ..;show (if qP i k (.aD i k)=true then _ else _)=_;rw [bn e,g];exact bn (mZ _ _)) q
theorem UE:dB none= .none:=rfl
theorem NV p:dB (some p)= .int p:=rfl
theorem uG l:(pu l).reverse=pu l.reverse:=by simp [pu]
inductive CS (nd:List Nd):Option Nat->List Nat->Prop|nil:CS nd none []|cons {p:Nat} {n:Nd} {l:List Nat} (h:nd[p]? =some n) (r:CS nd n.aC l):CS nd (some p) (l++[p])
inductive S7 (vs:List MV) (C:GH) (Q:MV->GH->Prop) (X:GH->Prop):Prop|mk (σ:Sg) (nd:List Nd) (i:Nat) (l:List Nat) (_:C=gh σ) (_:σ.tree=some nd) (_:nd.length<1000) (_:YA σ) (_:σ.aD 0 0=none) (_:CS nd (some i) l) (_:l.length<1000) (_:vs=[.af .tree,.int (i:Nat)]) (_:Q (.lst (pu l)) C)
set_option tactic.hygienic true in theorem w7 (e:Meets k 51 (SF λn=>dB n.aC)) (h:S7 B C Q X):Walk k 7 B C Q X:=by
 obtain ⟨g,x,i,l,rfl,d,y,H,u,A,w,rfl,q⟩:=h;refine pc rfl rfl ?_;show io (mt.T k) b7 [some (.af .tree),some (.int (i:Nat)),none] _ _ _ _;delta b7;wide_open with [d];refine .inr (.aD 0 0) u ?_;rw [show up (gh g) (.aD 0 0) (.list [])=gh (g.w 0 0 (some (.list (pu [])))) from fu ..];wide_open with [d];refine ⟨λn F v=>∃o a done,F=[some (.af .tree),some (dB o),some (.af (.aD 0 0))]/\v=gh (g.w 0 0 (some (.list (pu done))))/\CS x o a/\a++done.reverse=l/\a.length=n,⟨l.length,some i,l,[],rfl,rfl,A,by simp,rfl⟩,?_⟩;intro n z v;refine l6 λo a done=>?_;rintro rfl rfl;refine im λj c E=>?_;have hd:done.length<1000:=by rw [<- c] at w;simp at w;lia
 cases j with|nil=>rw [UE];wide_open with [eW,x0,bg hd];refine .inl ?_;rw [uG,show done.reverse=l from c];exact D6 H u (bn (tV _ _)) q|cons h r=>rename_i p t m;rw [NV];wide_open with [eW,x0,bl hd,lS,fu,oy,jW,d];refine e ⟨_,x,p,t,rfl,d,bg y,h,rfl,?_⟩;wide_open with [];refine ⟨m.length,by rw [<- E];simp,t.aC,m,done++[p],rfl,rfl,r,?_,rfl⟩;rw [<- c];simp
theorem nV k (c a:List Str):re k c (te a)=(re k c a).map .str:=by induction c generalizing a with|nil=>rfl|cons x j d=>induction a using List.casesOn with|nil=>rfl|cons u g=>by_cases e:x=k;exact (co e).trans (l9 (Option.map _) (co e).symm);exact ((ZB e).trans (d g)).trans (l9 (Option.map _) (ZB e).symm)
theorem m3 [DecidableEq g] (k:g) v c a:pb k (.str v) c (te a)=((pb k v c a).1,te (pb k v c a).2):=by induction c generalizing a with|nil=>rfl|cons x j l=>induction a using List.casesOn with|nil=>rfl|cons u d=>by_cases e:x=k;refine (fb e).trans ?_;rw [fb e];rfl;refine (dv e).trans ?_;rw [dv e,show pb k (MV.str v) j (d.map MV.str)=_ from l d];rfl
theorem QM k (c a:List Str):DD k c (te a)=((DD k c a).1,te (DD k c a).2):=by induction c generalizing a with|nil=>rfl|cons x g j=>induction a using List.casesOn with|nil=>rfl|cons u d=>by_cases e:x=k;refine (lL e).trans ?_;rw [lL e];rfl;refine (ng e).trans ?_;rw [ng e,show DD k g (d.map MV.str)=_ from j d];rfl
theorem Aw k v (c a:List Str) (h:c.length=a.length):(pb k v c a).1.length<=c.length+1/\(pb k v c a).1.length=(pb k v c a).2.length:=by refine ⟨Bb ..,?_⟩;induction c generalizing a with|nil=>rfl|cons x j d=>induction a using List.casesOn with|nil=>injection h|cons u g=>by_cases e:x=k;rw [fb e];exact h;rw [dv e];exact l9 Nat.succ (d g (fW h))
theorem sv k (d c:List Str) (h:d.length=c.length):(DD k d c).1.length<=d.length/\(DD k d c).1.length=(DD k d c).2.length:=by induction d generalizing c with|nil=>exact ⟨lv _,rfl⟩|cons x l g=>induction c using List.casesOn with|nil=>injection h|cons u j=>by_cases e:x=k;rw [lL e];exact ⟨s4 _,fW h⟩;rw [ng e];refine aa (λa b=>?_) (g j (fW h));exact ⟨Pe a,l9 Nat.succ b⟩
theorem SA {c a:List Str} (h:c.length=a.length) (m:k∈c):∃v,re k c a=some v:=by induction c generalizing a with|nil=>contradiction|cons x g d=>induction a using List.casesOn with|nil=>injection h|cons u j=>by_cases e:x=k;exact ⟨_,co e⟩;refine am (λv q=>?_) (d (fW h) ((LB.mp m).resolve_left (u8 e)));exact ⟨v,(ZB e).trans q⟩
abbrev SD:=List Str×List Str
noncomputable def WI:Str:="http://www.w3.org/XML/1998/namespace"
noncomputable def Lo (a:List Nd) (d:SD) (j:Nat):SD:=match a[j]? with|none=>d|some m=>if m.val≠"" then pb m.name m.val d.1 d.2 else if m.name∈d.1 then DD m.name d.1 d.2 else d
noncomputable def qr (c:List Nd) (a:Nat):List Nat:=(c[a]?.map (·.ns)).getD []
noncomputable def cL (c:List Nd) (d:SD) (a:Nat):SD:=(qr c a).foldl (Lo c) d
noncomputable def xz (a:List Nd) (l:List Nat):SD:=l.foldl (cL a) (["xml"],[WI])
noncomputable def iE (d:SD):OV:= .aM d.1 (te d.2)
theorem OH {nd:List Nd} {d:SD} {j:Nat} (h:d.1.length=d.2.length):(Lo nd d j).1.length<=d.1.length+1/\(Lo nd d j).1.length=(Lo nd d j).2.length:=by unfold Lo;cases nd[j]? with|none=>exact ⟨s4 _,h⟩|some m=>dsimp only;by_cases e:m.val≠"";rw [bn e];exact Aw _ _ _ _ h;rw [al e];by_cases e:m.name∈d.1;rw [bn e];exact ⟨nA (sv _ _ _ h).1,(sv _ _ _ h).2⟩;rw [al e];exact ⟨s4 _,h⟩
theorem vq {nd:List Nd}:∀{l:List Nat} {d:SD},d.1.length=d.2.length->(l.foldl (Lo nd) d).1.length<=d.1.length+l.length/\(l.foldl (Lo nd) d).1.length=(l.foldl (Lo nd) d).2.length| [],d,h=>⟨lv _,h⟩|j::r,d,h=>by haveI a:=OH (nd:=nd) (j:=j) h;haveI b:=vq (nd:=nd) (l:=r) a.2;refine ⟨?_,b.2⟩;exact be b.1 (be (hJ a.1 _) (fp (by rw [Nat.add_assoc,Nat.add_comm 1];rfl)))
theorem xn {nd:List Nd}:∀{l:List Nat} {d:SD},(∀a∈l,(qr nd a).length<=30)->d.1.length=d.2.length->(l.foldl (cL nd) d).1.length<=d.1.length+30*l.length/\(l.foldl (cL nd) d).1.length=(l.foldl (cL nd) d).2.length| [],d,_,h=>⟨lv _,h⟩|j::r,d,e,h=>by haveI a:=vq (nd:=nd) (l:=qr nd j) h;haveI b:=xn (nd:=nd) (l:=r) (d:=cL nd d j) (λa q=>e a (FM _ q)) a.2;haveI c:=e j (wS ..);refine ⟨?_,b.2⟩;simp only [List.foldl_cons,List.length_cons];exact be b.1 (be (hJ (be a.1 (ed c _)) _) (fp (by rw [Nat.mul_succ,Nat.add_assoc,Nat.add_comm 30])))
theorem AV {f:a->c->a} {b:a} {l:List c} (h:l[k]? =some x):(l.take (k+1)).foldl f b=f ((l.take k).foldl f b) x:=by rw [List.take_add_one,h,List.foldl_append];rfl
theorem de:∀{o:Option Nat} {l:List Nat},CS c o l->∀a∈l,∃n,c[a]? =some n|_,_,.nil,a,h=>by contradiction|_,_,.cons (p:=p) e r,a,h=>by rcases Pf.mp h with h|h;exact de r a h;rw [wb.mp h];exact ⟨_,e⟩
inductive S9 (vs:List MV) (C:GH) (Q:MV->GH->Prop) (X:GH->Prop):Prop|mk (σ:Sg) (nd:List Nd) (i:Nat) (l:List Nat) (_:C=gh σ) (_:σ.tree=some nd) (_:nd.length<1000) (_:YA σ) (_:σ.aD 0 0=none) (_:σ.aD 1 0=none) (_:CS nd (some i) l) (_:l.length<=30) (_:(∀a∈l,OK nd (qr nd a)/\(qr nd a).length<=30)) (_:vs=[.af .tree,.int (i:Nat)]) (_:Q (.aQ (xz nd l).1 (te (xz nd l).2)) C)
theorem w9 (h7:Meets w 7 S7) (S:Meets w 54 (SL λn=>n.ns)) (O:Meets w 47 (SF λn=> .str n.name)) (N:Meets w 50 (SF λn=> .str n.val)) (h:S9 vs C Q X):Walk w 9 vs C Q X:=by
 obtain ⟨H,g,i,l,rfl,o,F,hc,h0,W,Z,hl,E,rfl,q⟩:=h;refine pc rfl rfl ?_;show io (mt.T w) b9 [some (.af .tree),some (.int (i:Nat)),none,none,none,none,none] _ _ _ _;delta b9;wide_open with [o];refine ⟨.aD 1 0,W,?_⟩;rw [show up (gh H) (.aD 1 0) (.aM ["xml"] [.str "http://www.w3.org/XML/1998/namespace"])=gh (H.w 1 0 (some (iE (["xml"],[WI])))) from fu ..];wide_open with [jW,o];refine h7 ⟨_,g,i,l,rfl,o,F,hc.w λD=>mZ D [WI],by simp [Sg.w,h0],Z,by exact wn (by assumption) (by decide),rfl,?_⟩;wide_open with [x0];refine ⟨bg (by exact wn (by assumption) (by decide)),λk P r=>r=gh (H.w 1 0 (some (iE (xz g (l.take k)))))/\∃a b c d,P=[some (.af .tree),some (.int (i:Nat)),some (.af (.aD 1 0)),a,b,c,d],⟨rfl,_,_,_,_,rfl⟩,?_,?_⟩;intro k x p r hx;refine aa ?_;rintro rfl;refine CH λa b c d=>?_;rintro rfl;refine ac (λe T=>?_) (eN hx);rintro rfl;have z:=Lm T;refine am (λm V=>?_) (de Z e z);refine aa (λB y=>?_) (E e z);have A:qr g e=m.ns:=by unfold qr;rw [V];rfl
 rw [A] at B y;have sz:=xn (nd:=g) (l:=l.take k) (d:=(["xml"],[WI])) (λa h=>(E a (List.mem_of_mem_take h)).2) rfl;haveI sl:(l.take k).length<=30:=be (by rw [List.length_take];exact Nat.min_le_right _ _) hl;haveI s1:(xz g (l.take k)).1.length<=1+30*30:=be sz.1 (ed (nz _ sl) _);haveI s2:(xz g (l.take k)).1.length=(xz g (l.take k)).2.length:=sz.2;wide_open with [o,jW];refine S ⟨_,g,e,m,rfl,o,bg F,V,bg (show m.ns.length<1000 by exact wn (by assumption) (by decide)),rfl,?_⟩;wide_open with [x0];refine ⟨bg (by exact wn (by assumption) (by decide)),λv P r=>r=gh (H.w 1 0 (some (iE ((m.ns.take v).foldl (Lo g) (xz g (l.take k))))))/\∃b c d,P=[some (.af .tree),some (.int (i:Nat)),some (.af (.aD 1 0)),some (.int e),b,c,d],⟨rfl,_,_,_,rfl⟩,?_,?_⟩;intro v x' p r M;refine aa ?_;rintro rfl;refine fc λb c d=>?_;rintro rfl;refine ac (λj Y=>?_) (eN M);rintro rfl;refine am (λI t=>?_) (B v j Y);haveI U:=vq (nd:=g) (l:=m.ns.take v) s2;haveI t2:(m.ns.take v).length<=30:=be (by rw [List.length_take];exact Nat.min_le_right _ _) y;haveI t3:=AV (f:=Lo g) (b:=xz g (l.take k)) Y;generalize hd:(m.ns.take v).foldl (Lo g) (xz g (l.take k))=dd at U t3;have R:dd.1.length<=1000:=by lia
 wide_open with [o,jW];refine O ⟨_,g,j,I,rfl,o,bg F,t,rfl,?_⟩;wide_open with [o,jW];refine N ⟨_,g,j,I,rfl,o,bg F,t,rfl,?_⟩;wide_open with [eW,iE,m3,R];rw [t3];unfold Lo;rw [t];dsimp only;by_cases L:I.val="";by_cases J:I.name∈dd.1;refine am (λu hu=>?_) (SA U.2 J);wide_open with [L,J,ne_eq,QM,nV,hu,fu,oy,eW,iE,R];exact ⟨_,_,_,rfl⟩;wide_open with [L,J,ne_eq,eW,iE];exact ⟨_,_,_,rfl⟩;wide_open with [L,ne_eq,fu,oy,eW,iE,m3,R];exact ⟨_,_,_,rfl⟩;intro p r;refine aa ?_;rintro rfl;refine fc λb c d=>?_;rintro rfl;simp only [x0,true_and,nx,Ct];rw [List.take_length];have:=AV (f:=cL g) (b:=(["xml"],[WI])) T;refine ⟨?_,_,_,_,_,rfl⟩;unfold xz;rw [this];unfold cL;rw [A];intro p r;refine aa ?_;rintro rfl;refine CH λa b c d=>?_;rintro rfl;rw [List.take_length];wide_open with [eW];exact FW hc W q
noncomputable abbrev ll (i:Nat):Loc->Bool:=jw λa _=>decide (a=i)
theorem nP (h:∀k,σ.aD i k=none):∀l,ll i l=true->gh σ l=none:=DU λa b e=>ue e▸h b
theorem XD (j:YA c) (h:∀k,c.aD i k=none) (m:∀l,ll i l=false->gh a l=gh c l) (d:m4 (ll i) (gh a) v=some g) (q:Q g (gh c)):Fz (gh c) Q v (gh a):=tq (nP h) (nP h) m (λl n e=>ra j _ e) d q
theorem Vk:∀l,ll i l=false->gh (a.w i k o) l=gh a l:=w_eq (decide_eq_true rfl)
section
theorem d6 (h:Meets d k (SL f)) (j:c.tree=some a) (m:a.length<1000) (g:a[i]? =some n) (e:f n=l) (o:l.length<1000) (q:Q (.lst (pu l)) (gh c)):d k [.af .tree,.int (i:Nat)] (gh c) Q X:=by subst e;exact h ⟨c,a,i,n,rfl,j,bg m,g,bg o,rfl,q⟩
theorem Of (h:Meets d k (SF f)) (j:c.tree=some a) (l:a.length<1000) (g:a[i]? =some n) (e:f n=v) (q:Q v (gh c)):d k [.af .tree,.int (i:Nat)] (gh c) Q X:=by subst e;exact h ⟨c,a,i,n,rfl,j,bg l,g,rfl,q⟩
theorem ya (a:Meets e 36 YE) (j:d.tree=some c) (k:c.length<1000) (g:c[i]? =some n) (q:Q (.af (.node i)) (gh d)):e 36 [.af .tree,.int (i:Nat)] (gh d) Q X:=di a j (bg k) g q
end
theorem iV c:pu [c]=[.int c]:=rfl
theorem lZ:pu []=[]:=rfl
noncomputable def Sg.p (j:Sg) (i:Nat) (a b:Option OV):Sg:={j with aD:=λx y=>if x=i then (if y=0 then a else if y=1 then b else j.aD x y) else j.aD x y}
theorem Be (c:Sg) i a b:(c.p i a b).tree=c.tree:=rfl
theorem Te (c:Sg) i a b:(c.p i a b).aD i 0=a:=by simp [Sg.p]
theorem uA (c:Sg) i a b:(c.p i a b).aD i 1=b:=by simp [Sg.p]
theorem yj (d:Sg) i a b c:up (gh (d.p i a b)) (.aD i 0) c=gh (d.p i (some c) b):=by rw [fu];congr 1;unfold Sg.w Sg.p;congr 1;funext x y;dsimp only;by_cases q:x=i;by_cases r:y=0<;>simp [q,r];simp [q]
theorem Dh (d:Sg) i a b c:up (gh (d.p i a b)) (.aD i 1) c=gh (d.p i a (some c)):=by rw [fu];congr 1;unfold Sg.w Sg.p;congr 1;funext x y;dsimp only;by_cases q:x=i;by_cases r:y=1;subst r;simp [q];simp [q,r];simp [q]
theorem Rh {a:Sg} (h:∀k,a.aD i k=none):a.p i none none=a:=by induction a using Sg.casesOn;unfold Sg.p;congr 1;funext x y;dsimp only at h⊢;split;rename_i e;subst e;simp [h];rfl
theorem YR {c:Sg}:∀l,ll i l=false->gh (c.p i a b) l=gh c l:=λl e=>by
 induction l using Loc.casesOn<;>try rfl
 exact al (of_decide_eq_false e)
inductive S8 (vs:List MV) (C:GH) (Q:MV->GH->Prop) (X:GH->Prop):Prop|mk (σ:Sg) (nd:List Nd) (i c:Nat) (n m:Nd) (_:C=gh σ) (_:σ.tree=some nd) (_:nd.length<1000) (_:YA σ) (_:(∀k,σ.aD 2 k=none)) (_:nd[i]? =some n) (_:n.ch=[c]) (_:nd[c]? =some m) (_:m.ch=[]) (_:vs=[.af .tree,.int (i:Nat)]) (_:Q (.lst [.int c]) C)
theorem bz:0<gz/\1<gz/\2<gz/\3<gz/\0<=gz/\1<=gz/\2<=gz/\3<=gz/\4<=gz/\5<=gz:=by decide
theorem w8 (d:Meets p 52 (SL λn=>n.ch)) (h:S8 x C Q X):Walk p 8 x C Q X:=by obtain ⟨e,A,i,c,n,m,rfl,a,u,z,g,w,o,v,j,rfl,q⟩:=h;refine pc rfl rfl ?_;show io (mt.T p) b8 [some (.af .tree),some (.int (i:Nat)),none,none,none] _ _ _ _;delta b8;wide_open with [a];refine .inr (.aD 2 0) (g 0) ?_;rw [show up (gh e) (.aD 2 0) (.list [])=gh (e.p 2 (some (.list [])) none) by rw [<- yj e 2 none none,Rh g]];wide_open with [Be,a];refine d6 d a u w o (by simp) ?_;wide_open with [iV,List.length_singleton,List.reverse_singleton];refine ⟨bz.2.2.2.2.2.1,.inr (.aD 2 1) (by rw [xD,uA]) ?_⟩;rw [Dh];wide_open with [];refine ⟨λn r l=>(n=1/\r=[some (.af .tree),some (.int i),some (.af (.aD 2 0)),some (.af (.aD 2 1)),none]/\l=gh (e.p 2 (some (.list [])) (some (.list [.int c]))))\/(n=0/\r=[some (.af .tree),some (.int i),some (.af (.aD 2 0)),some (.lst []),some (.int c)]/\l=gh (e.p 2 (some (.list [.int c])) (some (.list [])))),⟨1,.inl ⟨rfl,rfl,rfl⟩⟩,?_⟩;rintro k y l (t|t);revert t;refine im ?_;rintro rfl rfl rfl;wide_open with [];refine .inl ?_;wide_open with [Te,uA,yj,Dh,List.length_singleton,List.getLast?_singleton,List.dropLast_singleton,List.nil_append,Be,a,bz,List.cons_ne_nil,List.length_nil,ite_self];refine d6 d a u v j (by decide) ?_;wide_open with [lZ,bz,List.length_nil,List.reverse_nil];refine .inl ?_;wide_open with [uA,List.nil_append,List.length_nil,bz];refine .inl ?_;wide_open with [];exact ⟨0,by decide,.inr ⟨rfl,rfl,rfl⟩⟩;revert t;refine im ?_;rintro rfl rfl rfl;wide_open with [];refine .inl ?_;wide_open with [List.length_nil];refine ⟨by decide,?_⟩;exact XD z g YR rfl q
theorem dg (a:p<nd.length) j:(tw nd p new)[j]? =if j=nd.length then some new else if j=p then nd[j]?.map (λn=>{n with ch:=n.ch++[nd.length]}) else nd[j]? :=by unfold tw;rw [jR,cB];by_cases e:j=nd.length;subst e;rw [al (u4 a),bn rfl,bn rfl];rw [al e,al e];by_cases q:j=p;subst q;simp;rw [al q,al (u8 q)]
theorem iP a p new:(tw a p new).length=a.length+1:=by unfold tw;rw [kz,Ll];rfl
theorem jN c e a b:(B0 c e a b).length<=c.length+1:=by unfold B0;cases c[e]? with|none=>exact s4 _|some n=>dsimp only;cases n.ns.find? _ with|some j=>exact be (fp (kz ..)) (s4 _)|none=>exact fp ((kz ..).trans Ll)
theorem sd g e a b c d:(setAt g e a b c d).length<=g.length+1:=by unfold setAt;cases g[e]? with|none=>exact s4 _|some n=>dsimp only;cases n.at_.find? _ with|some j=>exact be (fp (kz ..)) (s4 _)|none=>exact fp ((kz ..).trans Ll)
theorem qX (h:c[e]? =some n) (d:n.ns=[]) a b j:(B0 c e a b)[j]? =if j=c.length then some (on "namespace" a "" a b (some e)) else if j=e then some {n with ns:=[c.length]} else c[j]? :=by have g:=s0 h;unfold B0;rw [h];dsimp only;rw [d];dsimp only [List.find?_nil];rw [jR,cB];by_cases q:j=c.length;subst q;rw [al (u4 g),bn rfl,bn rfl];rw [al q,al q];by_cases r:j=e;subst r;rw [bn rfl,bn rfl,h];simp [d];rw [al r,al (u8 r)]
theorem Ec (h:g[e]? =some n) (k:n.at_=[]) a b c d j:(setAt g e a b c d)[j]? =if j=g.length then some (on "attribute" a b c d (some e)) else if j=e then some {n with at_:=[g.length]} else g[j]? :=by have l:=s0 h;unfold setAt;rw [h];dsimp only;rw [k];dsimp only [List.find?_nil];rw [jR,cB];by_cases q:j=g.length;subst q;rw [al (u4 l),bn rfl,bn rfl];rw [al q,al q];by_cases r:j=e;subst r;rw [bn rfl,bn rfl,h];simp [k];rw [al r,al (u8 r)]
noncomputable def AN (n:Nd) (p:Nat):Nd:=on n.kind n.name n.aq n.af n.val (some p)
inductive vf (vs:List MV) (C:GH) (Q:MV->GH->Prop) (X:GH->Prop):Prop|mk (σ:Sg) (nd:List Nd) (i p:Nat) (n np:Nd) (_:C=gh σ) (_:σ.tree=some nd) (_:nd.length<990) (_:nd[i]? =some n) (_:nd[p]? =some np) (_:fQ np) (_:np.ch.length<1000) (_:i≠p) (_:vs=[.af .tree,.int (i:Nat),.int (p:Nat)]) (_:((n.ns=[]/\n.at_=[]/\Q (.int nd.length) (gh (σ.t (tw nd p (AN n p)))))\/(n.kind="element" /\∃(j a:Nat) (mj ma:Nd),n.ns=[j]/\n.at_=[a]/\nd[j]? =some mj/\nd[a]? =some ma/\j≠p/\a≠p/\Q (.int nd.length) (gh (σ.t (setAt (B0 (tw nd p (AN n p)) nd.length mj.name mj.val) nd.length ma.name ma.aq ma.af ma.val))))))
theorem Xk (E:Meets u 36 YE) (Z:Meets u 38 gp) (L:Meets u 45 iS) (V:Meets u 44 kD) (W:Meets u 47 (SF λn=> .str n.name)) (T:Meets u 50 (SF λn=> .str n.val)) (h:vf vs C Q X):Walk u 10 vs C Q X:=by
 obtain ⟨F,d,i,p,n,np,rfl,H,y,J,hp,hk,hc,Y,rfl,h⟩:=h;refine pc rfl rfl ?_;show io (mt.T u) sA [some (.af .tree),some (.int (i:Nat)),some (.int (p:Nat)),none,none,none,none] _ _ _ _;have I:=s0 J;have m:=s0 hp;delta sA;wide_open with [H];refine ya E H (by exact be (by assumption) (by decide)) J ?_;wide_open with [H,J];refine lr Z H (by exact be (by assumption) (by decide)) hp hk hc ?_;rw [show on n.kind n.name n.aq n.af n.val (some p)=AN n p from rfl];have g1:(tw d p (AN n p))[i]? =some n:=by rw [dg m,al (u4 I),al Y];exact J
 have l:=iP d p (AN n p);rcases h with t|t;revert t;refine im λe1 v q=>?_;generalize tw d p (AN n p)=c at q g1 l⊢;wide_open with [g1,e1,v,lZ,List.length_nil,bz];refine zJ ?_;wide_open with [g1,e1,v,lZ,List.length_nil,bz];refine zJ ?_;wide_open with [g1,e1,v,lZ,List.length_nil,bz];exact .inl q;revert t;refine aa λz=>xw λj a e g e1=>dk λv R S U P q=>?_;have g2:(tw d p (AN n p))[d.length]? =some (AN n p):=by rw [dg m,bn rfl]
 have g3:(tw d p (AN n p))[j]? =some e:=by rw [dg m,al (u4 (s0 R)),al U];exact R
 have g4:(tw d p (AN n p))[a]? =some g:=by rw [dg m,al (u4 (s0 S)),al P];exact S
 have ab:=s0 R;have A:=s0 S;generalize tw d p (AN n p)=c at q g1 g2 g3 g4 l⊢;wide_open with [g1,e1,iV,List.length_singleton,bz];refine yC (λρ B=>B=gh (F.t (B0 c d.length e.name e.val))/\∃o,ρ=[some (.af .tree),some (.int (i:Nat)),some (.int (p:Nat)),some (.af (.node i)),some (.int d.length),o,none]) ?_ λM B t=>?_;wide_open with [g1,e1,iV];refine Of W (gD ..) (tG y l) g3 rfl ?_;wide_open with [];refine Of T (gD ..) (tG y l) g3 rfl ?_;exact L ⟨F.t c,c,d.length,AN n p,e.name,e.val,rfl,rfl,tG y l,g2,z,Nat.zero_lt_succ _,(λk j h=>nomatch h),rfl,λ_=>⟨rfl,_,rfl⟩⟩;revert t;refine aa ?_;rintro rfl;refine am λo=>?_;rintro rfl;have f1:=λx=>qX g2 (show (AN n p).ns=[] from rfl) e.name e.val x;have N:=jN c d.length e.name e.val;have w:(B0 c d.length e.name e.val)[i]? =some n:=by rw [f1,al (sf I l),al (US I)];exact g1
 have k2:(B0 c d.length e.name e.val)[d.length]? =some {AN n p with ns:=[c.length]}:=by rw [f1,al (Dg l),bn rfl]
 have O:(B0 c d.length e.name e.val)[a]? =some g:=by rw [f1,al (sf A l),al (US A)];exact g4
 generalize B0 c d.length e.name e.val=r at q w k2 O N⊢;wide_open with [w,e1,v,iV,List.length_singleton,bz];refine yC (λρ B=>B=gh (F.t (setAt r d.length g.name g.aq g.af g.val))/\∃o o',ρ=[some (.af .tree),some (.int (i:Nat)),some (.int (p:Nat)),some (.af (.node i)),some (.int d.length),o,o']) ?_ λM B t=>?_;wide_open with [w,e1,v,iV];refine ya E (gD ..) (B3 y l N) O ?_;wide_open with [O];exact V ⟨F.t r,r,d.length,_,g.name,g.aq,g.af,g.val,rfl,rfl,B3 y l N,k2,z,Nat.zero_lt_succ _,(λk j h=>nomatch h),rfl,λ_=>⟨rfl,_,_,rfl⟩⟩;revert t;refine aa ?_;rintro rfl;refine EN λo o'=>?_;rintro rfl;have k5:(setAt r d.length g.name g.aq g.af g.val)[i]? =some n:=by rw [Ec k2 (show (AN n p).at_=[] from rfl),al (by have:=s0 w;exact US this),al (US I)];exact w
 wide_open with [k5,v,iV];exact .inl q
theorem N7 {a:Sg} (h:a.tree=some c):a.t c=a:=by induction a using Sg.casesOn;simp only at h;subst h;rfl
def f9 (c:List Nd) (l:List Nat):Prop:=l.length<=30/\∀a∈l,OK c (qr c a)/\(qr c a).length<=30
theorem m9 (o:Meets g 9 S9) {a:List Nd} (p:c.tree=some a) (n:a.length<1000) (r:YA c) (m:∀k,c.aD 0 k=none) (e:∀k,c.aD 1 k=none) (j:CS a (some i) l) (d:f9 a l) (q:Q (.aQ (xz a l).1 (te (xz a l).2)) (gh c)):g 9 [.af .tree,.int (i:Nat)] (gh c) Q X:=o ⟨c,a,i,l,rfl,p,n,r,m 0,e 0,j,d.1,d.2,rfl,q⟩
noncomputable def eY (c:List Nd) (f:Nat) (a:List Str):List Nd:=if ("" :Str)∈a then B0 c f "" "" else c
inductive vn (vs:List MV) (C:GH) (Q:MV->GH->Prop) (X:GH->Prop):Prop|mk (σ:Sg) (nd:List Nd) (f:Nat) (nf:Nd) (l:List Nat) (wk wv:List Str) (_:C=gh σ) (_:σ.tree=some nd) (_:nd.length<1000) (_:YA σ) (_:(∀k,σ.aD 0 k=none)) (_:(∀k,σ.aD 1 k=none)) (_:CS nd (some f) l) (_:f9 nd l) (_:nd[f]? =some nf) (_:nf.kind="element") (_:nf.ns.length<1000) (_:OK nd nf.ns) (_:(∀k∈wk,∃v,re k wk wv=some v/\re k (xz nd l).1 (xz nd l).2=some v)) (_:("" :Str)∉wk) (_:wk.length<64) (_:vs=[.af .tree,.aQ wk (te wv),.int (f:Nat)]) (_:Q .none (gh (σ.t (eY nd f (xz nd l).1))))
theorem F0 (M:Meets n 9 S9) (g:Meets n 45 iS) (h:vn R C Q X):Walk n 12 R C Q X:=by obtain ⟨z,I,f,U,l,E,H,rfl,a,y,W,P,N,O,T,J,d,r,t,A,c,j,rfl,q⟩:=h;refine pc rfl rfl ?_;show io (mt.T n) wW [some (.af .tree),some (.aQ E (te H)),some (.int (f:Nat)),none,none] _ _ _ _;delta wW;wide_open with [];refine m9 M a y W P N O T ?_;generalize xz I l=u at A q;wide_open with [];refine ⟨j,λY F _=>⟨by rw [FB,F.length_eq];exact bg (by exact be (by assumption) (by decide)),λk S w=>w=gh z/\∃o,S=[some (.af .tree),some (.aQ E (te H)),some (.int (f:Nat)),some (.aQ u.1 (te u.2)),o],⟨rfl,_,rfl⟩,?_,?_⟩⟩;intro k x m w B;refine aa ?_;rintro rfl;refine am λo=>?_;rintro rfl;rw [GG] at B;refine ac (λs p=>?_) (YI.mp B);rintro rfl;refine ac (λv V L=>?_) (A s (F.mem_iff.mp (Lm p)));wide_open with [nV,V,L,Option.getD_some];exact ⟨_,rfl⟩;intro m w;refine aa ?_;rintro rfl;refine am λo=>?_;rintro rfl;unfold eY at q;by_cases e:("" :Str)∈u.1;rw [bn e] at q;wide_open with [e,c,a];exact g ⟨z,I,f,U,"","",rfl,a,y,J,d,r,t,rfl,λ_=> .inl q⟩;rw [al e,N7 a] at q;wide_open with [e,c,a];exact .inl q
noncomputable def ID (c:List Nd) (n d a:Nd) (p:Nat):List Nd:=setAt (B0 (tw c p (AN n p)) c.length d.name d.val) c.length a.name a.aq a.af a.val
theorem NB (h:i≠c) A B:re i (YU [.tup [.int i,A],.tup [.int c,B]]).1 (YU [.tup [.int i,A],.tup [.int c,B]]).2=some A/\re c (YU [.tup [.int i,A],.tup [.int c,B]]).1 (YU [.tup [.int i,A],.tup [.int c,B]]).2=some B:=by have e:pb c B [i] [A]=([i,c],[A,B]):=dv h;show re i (pb c B [i] [A]).1 (pb c B [i] [A]).2=_/\re c (pb c B [i] [A]).1 (pb c B [i] [A]).2=_;rw [e];exact ⟨co rfl,(ZB h).trans (co rfl)⟩
structure Cp (σ:Sg) (nd:List Nd) (i p:Nat) (n np mj ma mc nf i6:Nd) (j a c:Nat) (li l1:List Nat):Prop where
 ht:σ.tree=some nd
 hb:nd.length<970
 hc:YA σ
 tm:∀i k,σ.aD i k=none
 hn:nd[i]? =some n
 hp:nd[p]? =some np
 hk:fQ np
 CT:np.ch.length<1000
 aW:i≠p
 ke:n.kind="element"
 e1:n.ns=[j]
 e2:n.at_=[a]
 e3:n.ch=[c]
 hj:nd[j]? =some mj
 ha:nd[a]? =some ma
 hm:nd[c]? =some mc
 Dw:j≠p
 Ao:a≠p
 Gq:c≠p
 c1:mc.ns=[]
 c2:mc.at_=[]
 c3:mc.ch=[]
 n1:(ID nd n mj ma p).length<980
 As:i≠c
 p1:CS (ID nd n mj ma p) (some i) li
 o1:f9 (ID nd n mj ma p) li
 p2:CS (ID nd n mj ma p) (some nd.length) l1
 o2:f9 (ID nd n mj ma p) l1
 f1:(ID nd n mj ma p)[nd.length]? =some nf
 f2:nf.kind="element"
 f3:nf.ns.length<1000
 f4:OK (ID nd n mj ma p) nf.ns
 w1:∀k∈(xz (ID nd n mj ma p) li).1,∃v,re k (xz (ID nd n mj ma p) li).1 (xz (ID nd n mj ma p) li).2=some v/\re k (xz (ID nd n mj ma p) l1).1 (xz (ID nd n mj ma p) l1).2=some v
 w2:("" :Str)∉(xz (ID nd n mj ma p) li).1
 w3:(xz (ID nd n mj ma p) li).1.length<64
 g1:(eY (ID nd n mj ma p) nd.length (xz (ID nd n mj ma p) l1).1)[nd.length]? =some i6
 g2:fQ i6
 g3:i6.ch.length<1000
 g4:(eY (ID nd n mj ma p) nd.length (xz (ID nd n mj ma p) l1).1)[c]? =some mc
 g5:c≠nd.length
noncomputable def iB (a:List Nd) (n d c e:Nd) (p:Nat) (g:List Nat):List Nd:=tw (eY (ID a n d c p) a.length (xz (ID a n d c p) g).1) a.length (AN e a.length)
inductive ud (vs:List MV) (C:GH) (Q:MV->GH->Prop) (X:GH->Prop):Prop|mk (σ:Sg) (nd:List Nd) (i p:Nat) (n np mj ma mc nf i6:Nd) (j a c:Nat) (li l1:List Nat) (_:C=gh σ) (_:Cp σ nd i p n np mj ma mc nf i6 j a c li l1) (_:vs=[.af .tree,.int (i:Nat),.int (p:Nat)]) (_:Q (.int nd.length) (gh (σ.t (iB nd n mj ma mc p l1))))
theorem G7 (N:Meets u 46 (SF λn=> .str n.kind)) (E:Meets u 52 (SL λn=>n.ch)) (h8:Meets u 8 S8) (h9:Meets u 9 S9) (A:Meets u 10 vf) (I:Meets u 12 vn) (h:ud vs C Q X):Walk u 11 vs C Q X:=by
 obtain ⟨o,d,i,p,n,np,B,v,w,nf,M,j,a,c,li,L,rfl,H,rfl,q⟩:=h;refine pc rfl rfl ?_;show io (mt.T u) wu [some (.af .tree),some (.int (i:Nat)),some (.int (p:Nat)),none,none,none,none,none,none,none,none,none,none] _ _ _ _;have r:=H.ht;have hb:=H.hb;delta wu;wide_open with [r];refine Of N r (by exact be (by assumption) (by decide)) H.hn rfl ?_;wide_open with [H.ke];have Z:(("element" :Str)="attribute")=False:=by decide
 have d2:(("element" :Str)="namespace")=False:=by decide
 have d3:(("element" :Str)="root")=False:=by decide
 wide_open with [Z,d2,d3];refine .inl ?_;refine h8 ⟨o,d,i,c,n,w,rfl,r,by exact be (by assumption) (by decide),H.hc,H.tm 2,H.hn,H.e3,H.hm,H.c3,rfl,?_⟩;wide_open with [List.cons_append,List.nil_append,bz];refine .inl ?_;wide_open with [vy,DT,r];refine ⟨by decide,d6 E r (by exact be (by assumption) (by decide)) H.hn H.e3 (by simp) ⟨rfl,?_⟩⟩;refine d6 E r (by exact be (by assumption) (by decide)) H.hm H.c3 (by decide) ⟨rfl,?_⟩;rcases NB (i:=(i:Int)) (c:=(c:Int)) (by have:=H.As;exact Om this) (.lst (pu [c])) (.lst (pu [])) with ⟨P,S⟩;generalize YU [.tup [.int (i:Int),.lst (pu [c])],.tup [.int (c:Int),.lst (pu [])]]=F at P S⊢;refine A ⟨o,d,i,p,n,np,rfl,r,by exact be (by assumption) (by decide),H.hn,H.hp,H.hk,H.CT,H.aW,rfl,.inr ⟨H.ke,j,a,B,v,H.e1,H.e2,H.hj,H.ha,H.Dw,H.Ao,?_⟩⟩;rw [show setAt (B0 (tw d p (AN n p)) d.length B.name B.val) d.length v.name v.aq v.af v.val=ID d n B v p from rfl];have n1:=H.n1;unfold iB at q;refine s3 λ_ V=>?_;refine dk (λp1 o1 p2 T f1=>dk λf2 W R w1 w2=>gY λw3 g1 g2 g3 J=>?_) (⟨H.p1,H.o1,H.p2,H.o2,H.f1,H.f2,H.f3,H.f4,H.w1,H.w2,H.w3,H.g1,H.g2,H.g3,H.g4⟩:_/\_/\_/\_/\_/\_/\_/\_/\_/\_/\_/\_/\_/\_/\_);refine V ?_;generalize ID d n B v p=m at n1 q p1 o1 p2 T f1 R w1 w2 w3 g1 J⊢;wide_open with [];refine m9 h9 (gD ..) (by exact be (by assumption) (by decide)) H.hc (H.tm 0) (H.tm 1) p1 o1 ?_;refine I ⟨o.t m,m,d.length,nf,L,_,_,rfl,rfl,by exact be (by assumption) (by decide),H.hc,H.tm 0,H.tm 1,p2,T,f1,f2,W,R,w1,w2,w3,rfl,?_⟩;rw [pP];have n2:(eY m d.length (xz m L).1).length<990:=by unfold eY;split;exact wn (jN ..) (by exact wn (by assumption) (by decide));exact be (by assumption) (by decide)
 generalize eY m d.length (xz m L).1=g at n2 q g1 J⊢;wide_open with [P,iV,List.reverse_singleton,List.length_singleton,bz];refine .inl ?_;wide_open with [vy,DT,List.length_singleton];refine ⟨by decide,.aD 3 0,H.tm 3 0,?_⟩;rw [fu];wide_open with [];refine ⟨λn U O=>(n=1/\U=[some (.af .tree),some (.int i),some (.int p),some (.str "element"),none,none,some (.bq F.1 F.2),none,some (.int d.length),some (.af (.aD 3 0)),none,none,none]/\O=gh ((o.t g).w 3 0 (some (.list [.tup [.int c,.int d.length]]))))\/(n=0/\(∃x y z,U=[some (.af .tree),some (.int i),some (.int p),some (.str "element"),none,none,some (.bq F.1 F.2),none,some (.int d.length),some (.lst []),x,y,z])/\O=gh ((o.t (tw g d.length (AN w d.length))).w 3 0 (some (.list [])))),⟨1,.inl ⟨rfl,rfl,rfl⟩⟩,?_⟩;rintro k Y O (t|t);revert t;refine im ?_;rintro rfl rfl rfl;wide_open with [];refine .inl ?_;wide_open with [eW,List.length_singleton,List.getLast?_singleton,List.dropLast_singleton,List.cons_ne_nil,bz,fu,oy,jW];refine A ⟨(o.t g).w 3 0 (some (.list [])),g,c,d.length,w,M,rfl,rfl,by assumption,J,g1,g2,g3,H.g5,rfl,.inl ⟨H.c1,H.c2,?_⟩⟩;wide_open with [S,lZ,List.reverse_nil,List.length_nil,bz];refine .inl ?_;rw [show ((o.t g).w 3 0 (some (OV.list []))).t (tw g d.length (AN w d.length))=(o.t (tw g d.length (AN w d.length))).w 3 0 (some (.list [])) from rfl];wide_open with [vy,List.length_nil,eW,List.append_nil,bz];refine ⟨by decide,.inl ?_⟩;wide_open with [];refine ⟨0,by decide,.inr ⟨rfl,⟨_,_,_,rfl⟩,rfl⟩⟩;revert t;refine im ?_;rintro rfl;refine fc λx y z=>?_;rintro rfl rfl;wide_open with [];refine .inl ?_;wide_open with [List.length_nil,bz];refine tq (nP (H.tm 3)) (nP (σ:=o.t (tw g d.length (AN w d.length))) (H.tm 3)) Vk (λl ov e=>ra (σ:=o.t (tw g d.length (AN w d.length))) H.hc _ e) ?_ q;rfl
noncomputable def p0 (s:Str):Bool:=dE "a" s&&dE s "z"
noncomputable def p1 (s:Str):Bool:=p0 s|| (dE "A" s&&dE s "Z")||decide (s="_")||decide (s=":")
noncomputable def p2 (s:Str):Bool:=p1 s|| (dE "0" s&&dE s "9")||decide (s="-")||decide (s=".")
noncomputable def p3 (s:Str):Bool:=(s.cps.toList.all λc=>p2 ⟨#[c]⟩)&& !decide (s="")
noncomputable def p4 (s:Str):Bool:=match s.cps.toList with| []=>false|c::_=>p1 ⟨#[c]⟩&&p3 s
noncomputable def p5 (s:Str):Bool:= !Txt.contains s ":" &&p4 s
noncomputable def ft (s:Str):Bool:=s.cps.toList.all λc=>decide ((c:Int)<128)
inductive S0 (vs:List MV) (C:GH) (Q:MV->GH->Prop) (X:GH->Prop):Prop|mk (s:Str) (_:vs=[.str s]) (_:Q (.bool (p0 s)) C)
theorem w0 (h:S0 d C Q X):Walk c 0 d C Q X:=by obtain ⟨s,rfl,q⟩:=h;refine pc rfl rfl ?_;show io (mt.T c) b0 [some (.str s)] _ _ _ _;wide_open with [b0];unfold p0 at q;cases a:dE "a" s;rw [a] at q;wide_open with [];exact .inl q;rw [a] at q;wide_open with [];exact .inl q
def S1:Spec:=λa C Q X=>∃s c,a=[.str s]/\s.cps.toList=[c]/\(c:Int)<128/\Q (.bool (p1 s)) C
theorem Ui (l:Meets d 0 S0) (h:S1 m C Q X):Walk d 1 m C Q X:=by revert h;refine Cc λs c=>?_;rintro rfl n k q;refine pc rfl rfl ?_;show io (mt.T d) b1 [some (.str s)] _ _ _ _;wide_open with [b1,rE,n,wi,k,decide_true];refine l ⟨s,rfl,?_⟩;unfold p1 at q;cases e:p0 s<;>replace q:=e▸q;wide_open with [An,D5];cases g:dE "A" s<;>rw [g] at q;wide_open with [];cases a:decide (s="_")<;>rw [a] at q;wide_open with [];exact .inl q;wide_open with [];exact .inl q;wide_open with [];cases j:dE s "Z" <;>replace q:=j▸q;wide_open with [];cases a:decide (s="_")<;>rw [a] at q;wide_open with [];exact .inl q;wide_open with [];exact .inl q;wide_open with [];exact .inl q;wide_open with [];exact .inl q
def S2:Spec:=λa C Q X=>∃s c,a=[.str s]/\s.cps.toList=[c]/\(c:Int)<128/\Q (.bool (p2 s)) C
theorem Sp (e:Meets j 1 S1) (h:S2 m C Q X):Walk j 2 m C Q X:=by revert h;refine Cc λs c=>?_;rintro rfl d a q;refine pc rfl rfl ?_;show io (mt.T j) b2 [some (.str s)] _ _ _ _;wide_open with [b2,rE,d,wi,a,decide_true];refine e ⟨s,c,rfl,d,a,?_⟩;unfold p2 at q;cases e:p1 s<;>replace q:=e▸q;wide_open with [d,a];cases k:dE "0" s<;>replace q:=k▸q;wide_open with [d,a];cases g:decide (s="-")<;>rw [g] at q;wide_open with [d,a];exact .inl q;wide_open with [d,a];exact .inl q;wide_open with [d,a];cases l:dE s "9" <;>replace q:=l▸q;wide_open with [d,a];cases g:decide (s="-")<;>rw [g] at q;wide_open with [d,a];exact .inl q;wide_open with [d,a];exact .inl q;wide_open with [d,a];exact .inl q;wide_open with [d,a];exact .inl q
inductive S3 (vs:List MV) (C:GH) (Q:MV->GH->Prop) (X:GH->Prop):Prop|mk (s:Str) (_:vs=[.str s]) (_:ft s=true) (_:s.length<=gz) (_:Q (.bool (p3 s)) C)
theorem w3 (t:Meets r 2 S2) (h:S3 z C Q X):Walk r 3 z C Q X:=by
 obtain ⟨s,rfl,u,y,q⟩:=h;refine pc rfl rfl ?_;show io (mt.T r) b3 [some (.str s),none] _ _ _ _;delta b3;wide_open with [y];refine ⟨λk w m=>m=C/\(∃o,w=[some (.str s),o])/\∀i c,i<k->s.cps.toList[i]? =some c->p2 ⟨#[c]⟩=true,⟨rfl,⟨_,rfl⟩,λi c h=>absurd h (fT _)⟩,?_,?_⟩;intro k x p m n;refine im ?_;rintro rfl;refine am λo=>?_;rintro rfl a;unfold chars at n;rw [GG] at n;refine ac (λc g=>?_) (YI.mp n);rintro rfl;have l:=ue (LG.mp u c (Lm g));wide_open with [];refine t ⟨_,c,rfl,rfl,l,?_⟩;cases e:p2 ⟨#[c]⟩;wide_open with [];have:p3 s=false:=by unfold p3;rw [Bool.and_eq_false_iff];exact .inl (List.all_eq_false.mpr ⟨c,Lm g,by rw [e];decide⟩)
 rw [this] at q;exact .inl q;wide_open with [Bool.true_eq_false];refine ⟨⟨_,rfl⟩,λi v j d=>?_⟩;rcases qK.mp j with h|rfl;exact a i v h d;rw [g] at d;obtain rfl:=an d;exact e;intro p m;refine im ?_;rintro rfl;refine am λo=>?_;rintro rfl a;wide_open with [];have:(s.cps.toList.all λc=>p2 ⟨#[c]⟩)=true:=LG.mpr λc g=>by refine am (λi j=>?_) (lb g);exact a i c (by have:=(BB.mp j).1;simpa [chars] using this) j
 unfold p3 at q;rw [this,Bool.true_and] at q;exact .inl q
theorem WL {s:Str} (h:s.cps.toList=[]):s="" :=by obtain ⟨⟨l⟩⟩:=s;dsimp only at h;subst h;rfl
theorem RC {s:Str} (h:s.cps.toList=c::r):s≠"" /\s.cps[0]? =some c/\s.length=r.length+1:=by obtain ⟨⟨l⟩⟩:=s;dsimp only at h;subst h;refine ⟨λe=>?_,rfl,rfl⟩;have:=l9 (λs:Str=>s.cps.toList) e;injection this
inductive S4 (vs:List MV) (C:GH) (Q:MV->GH->Prop) (X:GH->Prop):Prop|mk (s:Str) (_:vs=[.str s]) (_:ft s=true) (_:s.length<=gz) (_:Q (.bool (p4 s)) C)
theorem w4 (l:Meets d 1 S1) (n:Meets d 3 S3) (h:S4 u C Q X):Walk d 4 u C Q X:=by obtain ⟨s,rfl,g,k,q⟩:=h;refine pc rfl rfl ?_;show io (mt.T d) b4 [some (.str s)] _ _ _ _;delta b4;cases a:s.cps.toList with|nil=>unfold p4 at q;rw [a] at q;wide_open with [WL a];exact .inl q|cons c r=>refine im (λo t m=>?_) (RC a);(haveI p:(seqIndex? 0 s.length).bind (λj=>s.cps[j]?)=some c:=by rw [show seqIndex? 0 s.length=some 0 from g9 (i:=0) (Kc m)];exact t);unfold p4 at q;rw [a] at q;dsimp only at q;wide_open with [o,k,p];refine l ⟨_,c,rfl,rfl,ue (LG.mp g c (by rw [a];exact wS ..)),?_⟩;cases e:p1 ⟨#[c]⟩<;>rw [e] at q;wide_open with [];exact .inl q;wide_open with [];refine n ⟨s,rfl,g,k,.inl q⟩
inductive S5 (vs:List MV) (C:GH) (Q:MV->GH->Prop) (X:GH->Prop):Prop|mk (s:Str) (_:vs=[.str s]) (_:ft s=true) (_:s.length<=gz) (_:Q (.bool (p5 s)) C)
theorem w5 (d:Meets a 4 S4) (h:S5 j C Q X):Walk a 5 j C Q X:=by obtain ⟨s,rfl,c,g,q⟩:=h;refine pc rfl rfl ?_;show io (mt.T a) b5 [some (.str s)] _ _ _ _;delta b5;unfold p5 at q;cases e:Txt.contains s ":" <;>rw [e] at q;wide_open with [e];exact d ⟨s,rfl,c,g,.inl q⟩;wide_open with [e];exact .inl q
noncomputable def Dk (s:Str) (l:List Str):Option (Str×Str):=match l with| [a]=>if p5 a then some ("",s) else none| [a,b]=>if p5 a&&p5 b then some (a,b) else none|_=>none
noncomputable def eV (s:Str):Option (Str×Str):=Dk s (Txt.split s ":")
theorem QE (c:Dk s d=some (a,b)):(∃x,d=[x]/\p5 x=true/\a="" /\b=s)\/(d=[a,b]/\p5 a=true/\p5 b=true):=by induction d using List.casesOn with|nil=>injection c|cons x r=>induction r using List.casesOn with|nil=>refine aa (λh e=>?_) (jF c);injection e with e1 g;exact .inl ⟨x,rfl,h,e1.symm,g.symm⟩|cons y r=>induction r using List.casesOn with|nil=>refine aa (λh e=>?_) (jF c);injection e with e1 g;subst e1 g;exact .inr ⟨rfl,aL h,aR h⟩|cons=>injection c
noncomputable def fe (s:Str):Bool:=decide (s.length<=1000)&&(Txt.split s ":").all λx=>ft x&&decide (x.length<=1000)
def S6:Spec:=λc C Q X=>∃s a b,c=[.str s]/\fe s=true/\eV s=some (a,b)/\Q (.tup [.str a,.str b]) C
set_option tactic.hygienic true in theorem w6 (H:Meets B 5 S5) (h:S6 I C Q X):Walk B 6 I C Q X:=by
 revert h;refine l6 λs a b=>?_;rintro rfl w;refine aa λg q=>?_;refine pc rfl rfl ?_;show io (mt.T B) b6 [some (.str s),none,none] _ _ _ _;delta b6;unfold fe at w;simp only [Bool.and_eq_true,decide_eq_true_eq,List.all_eq_true] at w;revert w;refine aa λL t=>?_;haveI F:s.length<=gz:=be L (by decide);unfold eV at g;haveI z:(0<(":" :Str).length)=True:=by decide
 wide_open with [F,z];refine .inl ?_;generalize Txt.split s ":" =l at t g⊢;haveI g:=QE g;haveI d:(∀x∈l,p5 x=true)/\l.length<=2:=by refine to g (At λx e h _ _=>?_) (im λe h A=>?_);subst e;exact ⟨λy m=>wb.mp m▸h,s4 1⟩;subst e;exact ⟨λy m=>to (LB.mp m) (· ▸h) λm=>wb.mp m▸A,lv _⟩
 revert d;refine aa λd j=>?_;have u:l.length<=gz:=be j (by decide);have r:((2:Int)<(l.length:Int))=False:=by simp;omega
 wide_open with [List.length_map,u,r];refine ⟨λk J v=>v=C/\∃o,J=[some (.str s),some (.lst (l.map .str)),o],⟨rfl,_,rfl⟩,?_,?_⟩;intro k x n v E;refine aa ?_;rintro rfl;refine am λo=>?_;rintro rfl;rw [GG] at E;refine ac (λc M=>?_) (YI.mp E);rintro rfl;have p:=Lm M;wide_open with [];refine H ⟨c,rfl,(t c p).1,be (t c p).2 (by decide),?_⟩;rw [d c p];wide_open with [];exact ⟨_,rfl⟩;intro n v;refine aa ?_;rintro rfl;refine am λo=>?_;rintro rfl;refine to g (At λx e h _ _=>?_) (im λe h A=>?_);subst e;subst a b;wide_open with [List.length_map,List.map_cons,List.map_nil,bz];wide_open with [show decide (((1:Nat):Int)=1)=true from rfl,bz];exact .inl q;subst e;wide_open with [List.length_map,List.map_cons,List.map_nil,bz];wide_open with [show decide (((2:Nat):Int)=1)=false from rfl,show seqIndex? 0 2=some 0 from rfl,show seqIndex? 1 2=some 1 from rfl,List.getElem?_cons_zero,List.getElem?_cons_succ,List.length_map,List.map_cons,List.map_nil,bz];exact .inl q
theorem Xv (a:Sg) S:gh (a.s S) (.pend (S.pre.length+1))=none:=by simp [gP,Sg.s]
theorem CN (a:Sg) S l:up (gh (a.s S)) .au (.list (pu l))=gh (a.s {S with au:=l}):=by funext x;induction x using Loc.casesOn<;>rfl
theorem n9 (a:Sg) S l:up (gh (a.s S)) .has (.list (l.map .bool))=gh (a.s {S with has:=l}):=by funext x;induction x using Loc.casesOn<;>rfl
theorem XN (a:Sg) S l:up (gh (a.s S)) (.pend S.pre.length) (.list (te l))=gh (a.s {S with az:=l}):=TM (fh ..) λx c=>by induction x using Loc.casesOn<;>first|rfl|exact (fm ..).trans (fm ..).symm|exact Xf λe=>c (l9 Loc.pend e)
theorem KO (a:Sg) S:up (up (gh (a.s S)) (.pend (S.pre.length+1)) (.list [])) .res (.inst 343 (iu S.root (S.pre.length+1)))=gh (a.s {S with pre:=S.pre++[S.az],az:=[]}):=have e:(S.pre++[S.az]).length=S.pre.length+1:=Ll;TM ((fm ..).trans (by rw [e])) λx c=>cP (e▸fh (S.pre++[S.az]) [] _) λd=>by induction x using Loc.casesOn<;>first|rfl|exact absurd rfl c|exact rJ λq=>d (l9 Loc.pend (q.trans e))
theorem iY (h:0<n):seqIndex? (-1) n=some (n - 1):=by
 have e:(if (-1:Int)<0 then -1+(n:Int) else -1)=((n - 1:Nat):Int):=by rw [bn (by decide)];induction n using Nat.casesOn with|zero=>exact absurd h (RI 0)|succ m=>show -1+((m:Int)+1)=m;rw [Int.add_comm,Int.add_assoc];exact Int.add_zero _
 unfold seqIndex?;simp only [e];simp;lia
theorem j1 {l:List a} (h:l.getLast? =some t):0<l.length/\l[l.length - 1]? =some t:=by rw [qI] at h;refine ⟨?_,h⟩;have:=(BB.mp h).1;exact wn (Pc _) (by assumption)
theorem K6 {t:Nat} (h:l.getLast? =some t):((seqIndex? (-1) l.length).bind λj=>(pu l)[j]?)=some (.int t):=by refine aa (λa b=>?_) (j1 h);rw [iY a,jg,CG,b];rfl
structure NL (S:St) (t:Nat) (n:Nd):Prop where
 l:S.au.getLast? =some t
 o:S.au.length<100
 h:S.has.length<100
 hp:0<S.has.length
 p:S.az.length<100
 s:(S.az.map (·.length)).sum<=10000
 b:S.nd.length<900
 g:S.nd[t]? =some n
 k:fQ n
 c:n.ch.length<900
noncomputable def settle (S:St) (t:Nat):St:=if S.az=[] then S else {S with nd:=tw S.nd t (on "text" "" "" "" (Txt.join "" S.az) (some t)),pre:=S.pre++[S.az],az:=[]}
theorem iQ:∀l:List Str,GE (te l)=some l| []=>rfl|s::r=>by show (GE (te r)).map _=_;rw [iQ r];rfl
theorem jX l:(te l).length=l.length:=FB ..
theorem G0:(te l=[])=(l=[]):=by induction l using List.casesOn<;>simp [te]
inductive dC (vs:List MV) (C:GH) (Q:MV->GH->Prop) (X:GH->Prop):Prop|mk (σ:Sg) (S:St) (t:Nat) (_:C=gh (σ.s S)) (_:S.au.getLast? =some t) (_:S.au.length<100) (_:vs=[.af .res]) (_:Q (.int t) C)
theorem Ln (h:dC c C Q X):Walk a 14 c C Q X:=by obtain ⟨g,S,t,rfl,d,e,rfl,q⟩:=h;refine pc rfl rfl ?_;show io (mt.T a) ub [some (.af .res)] _ _ _ _;delta ub;wide_open with [fm,tL,x0,K6 d,bg (show S.au.length<1000 by exact Nat.le_trans (by assumption) (by decide))];exact .inl q
inductive mi (vs:List MV) (C:GH) (Q:MV->GH->Prop) (X:GH->Prop):Prop|mk (σ:Sg) (S:St) (_:C=gh (σ.s S)) (_:S.au.length<100) (_:vs=[.af .res]) (_:Q (.int (S.au.length - 1)) C)
theorem QW (h:mi c C Q X):Walk a 15 c C Q X:=by obtain ⟨d,S,rfl,e,rfl,q⟩:=h;refine pc rfl rfl ?_;show io (mt.T a) s8 [some (.af .res)] _ _ _ _;delta s8;wide_open with [fm,tL,x0,bg (show S.au.length<1000 by exact Nat.le_trans (by assumption) (by decide))];exact .inl q
theorem dT (a:Meets d 14 dC) {c:Sg} (T:NL S t n) (q:Q (.int t) (gh (c.s S))):d 14 [.af .res] (gh (c.s S)) Q X:=a ⟨c,S,t,rfl,T.l,T.o,rfl,q⟩
inductive jB (vs:List MV) (C:GH) (Q:MV->GH->Prop) (X:GH->Prop):Prop|mk (σ:Sg) (S:St) (t:Nat) (n:Nd) (_:C=gh (σ.s S)) (_:NL S t n) (_:vs=[.af .res]) (_:Q .none (gh (σ.s (settle S t))))
theorem OZ (g:Meets d 14 dC) (a:Meets d 40 mr) (h:jB k C Q X):Walk d 16 k C Q X:=by obtain ⟨c,S,t,n,rfl,T,rfl,q⟩:=h;refine pc rfl rfl ?_;show io (mt.T d) tE [some (.af .res)] _ _ _ _;have l:=T.p;delta tE;wide_open with [];refine .inl ?_;wide_open with [fm,u6,jX,G0,bg (show S.az.length<1000 by exact Nat.le_trans (by assumption) (by decide))];unfold settle at q;by_cases e:S.az=[];rw [bn e] at q;wide_open with [e];exact .inl q;rw [al e] at q;wide_open with [e,ck];refine dT g T ?_;wide_open with [fm,u6,iQ,jX,bg (show S.az.length<1000 by exact Nat.le_trans (by assumption) (by decide))];refine ⟨be (hH T.s (fp (Nat.mul_zero _))) (by decide),?_⟩;refine a ⟨_,c.s S,S.nd,t,n,rfl,rfl,by have:=T.b;exact be (by assumption) (by decide),T.g,T.k,by have:=T.c;exact be (by assumption) (by decide),rfl,?_⟩;rw [yy];wide_open with [];refine .inr (.pend (S.pre.length+1)) (Xv _ {S with nd:=_}) ?_;have e1:=fm c {S with nd:=tw S.nd t (on "text" "" "" "" (Txt.join "" S.az) (some t))};dsimp only at e1;wide_open with [e1,show (5<100)=True by decide,show (14<16)=True by decide];have j:=KO c {S with nd:=tw S.nd t (on "text" "" "" "" (Txt.join "" S.az) (some t))};dsimp only at j;rw [j];exact .inl q
noncomputable def zw (l:List Bool) (b:Bool):List Bool:=l.set (l.length - 1) b
noncomputable def comes (S:St) (t:Nat):St:={settle S t with has:=zw S.has true}
theorem jo S t:(settle S t).has=S.has:=by unfold settle;split<;>rfl
theorem zI S t:(settle S t).au=S.au:=by unfold settle;split<;>rfl
theorem qh S t:(settle S t).root=S.root:=by unfold settle;split<;>rfl
theorem CM (l:List Bool) b:(l.map MV.bool).set (l.length - 1) (.bool b)=(zw l b).map .bool:=by unfold zw;rw [List.map_set]
theorem wy (a:Meets d 16 jB) {c:Sg} (T:NL S t n) (q:Q .none (gh (c.s (settle S t)))):d 16 [.af .res] (gh (c.s S)) Q X:=a ⟨c,S,t,n,rfl,T,rfl,q⟩
inductive iO (vs:List MV) (C:GH) (Q:MV->GH->Prop) (X:GH->Prop):Prop|mk (σ:Sg) (S:St) (t:Nat) (n:Nd) (_:C=gh (σ.s S)) (_:NL S t n) (_:vs=[.af .res]) (_:Q .none (gh (σ.s (comes S t))))
theorem MO (a:Meets c 16 jB) (h:iO g C Q X):Walk c 17 g C Q X:=by obtain ⟨j,S,t,n,rfl,T,rfl,q⟩:=h;refine pc rfl rfl ?_;show io (mt.T c) sU [some (.af .res)] _ _ _ _;delta sU;wide_open with [];refine wy a T ?_;haveI k:=T.h;haveI e:=T.hp;haveI d:=jo S t;wide_open with [d,List.length_map,bg (show S.has.length<1000 by exact Nat.le_trans (by assumption) (by decide)),iY e,CM,n9];exact .inl q
noncomputable def WA (c:List Nd) (d:Str) (a:Nat):Option Str:=((qr c a).find? λj=>c[j]?.any λm=>decide (m.name=d)).bind λj=>c[j]?.map (·.val)
noncomputable def bu (c:List Nd) (au:List Nat) (a:Str):Str:=if a="xml" then WI else ((au.drop 1).reverse.findSome? (WA c a)).getD ""
structure jZ (S:St):Prop where
 o:S.au.length<100
 b:S.nd.length<900
 g:∀a∈S.au,∃n,S.nd[a]? =some n/\n.ns.length<900/\OK S.nd n.ns
theorem Bk l k:(pu l).drop k=pu (l.drop k):=by simp [pu]
theorem Vj {l:List d} (h:∀(k:Nat) (x:d),l[k]? =some x->f x=none):l.findSome? f=none:=List.findSome?_eq_none_iff.mpr λx c=>by refine am (λk a=>?_) (lb c);exact h k x a
theorem VV {l:List n} (h:∀(k:Nat) (z:n),k<j->l[k]? =some z->f z=none) (c:l[j]? =some x) (d:f x=some y):l.findSome? f=some y:=by induction l generalizing j with|nil=>injection c|cons a r m=>induction j using Nat.casesOn with|zero=>simp only [List.getElem?_cons_zero,Option.some.injEq] at c;subst c;simp [d]|succ j=>rw [List.findSome?_cons,h 0 a (dF _) rfl];exact m (λk y g e=>h (k+1) y (Nat.succ_lt_succ g) e) c
inductive lM (vs:List MV) (C:GH) (Q:MV->GH->Prop) (X:GH->Prop):Prop|mk (σ:Sg) (S:St) (un:Str) (_:C=gh (σ.s S)) (_:jZ S) (_:vs=[.af .res,.str un]) (_:Q (.str (bu S.nd S.au un)) C)
theorem Hp (N:Meets w 54 (SL λn=>n.ns)) (L:Meets w 47 (SF λn=> .str n.name)) (H:Meets w 50 (SF λn=> .str n.val)) (h:lM W C Q X):Walk w 21 W C Q X:=by
 obtain ⟨P,S,c,rfl,O,rfl,q⟩:=h;refine pc rfl rfl ?_;show io (mt.T w) uk [some (.af .res),some (.str c),none,none] _ _ _ _;haveI Z:=O.o;haveI hb:=O.b;unfold bu at q;delta uk;by_cases y:c="xml";rw [bn y] at q;wide_open with [y];exact .inl q;rw [al y] at q;wide_open with [y,x0,bg (show S.au.length<1000 by exact Nat.le_trans (by assumption) (by decide)),Bk,uG];refine .inl ?_;have U:∀a∈(S.au.drop 1).reverse,∃n,S.nd[a]? =some n/\n.ns.length<900/\OK S.nd n.ns:=λa h=>O.g a (List.mem_of_mem_drop (List.mem_reverse.mp h));haveI V:(S.au.drop 1).reverse.length<1000:=by simp;exact yI Z
 generalize (S.au.drop 1).reverse=l at q U V⊢;wide_open with [x0,bg V];refine ⟨λk M t=>t=gh (P.s S)/\(∃a b,M=[some (.af .res),some (.str c),a,b])/\∀(i j:Nat),i<k->l[i]? =some j->WA S.nd c j=none,⟨rfl,⟨_,_,rfl⟩,λi j h=>absurd h (fT _)⟩,?_,?_⟩;intro k x r t A;refine im ?_;rintro rfl;refine EN λa b=>?_;rintro rfl p;refine ac (λe z=>?_) (eN A);rintro rfl;refine nw (λm R Y J=>?_) (U e (Lm z));haveI v:qr S.nd e=m.ns:=by unfold qr;rw [R];rfl
 wide_open with [];refine d6 N (ck ..) (by exact be (by assumption) (by decide)) R rfl (show m.ns.length<1000 by exact be (by assumption) (by decide)) ?_;wide_open with [x0,bg (show m.ns.length<1000 by exact Nat.le_trans (by assumption) (by decide))];refine ⟨λE M t=>t=gh (P.s S)/\(∃b,M=[some (.af .res),some (.str c),some (.int e),b])/\∀(i j:Nat),i<E->m.ns[i]? =some j->(S.nd[j]?.any λm=>decide (m.name=c))=false,⟨rfl,⟨_,rfl⟩,λi j h=>absurd h (fT _)⟩,?_,?_⟩;intro E x' r t u;refine im ?_;rintro rfl;refine am λb=>?_;rintro rfl g;refine ac (λj F=>?_) (eN u);rintro rfl;refine am (λT o=>?_) (J E j F);wide_open with [];refine Of L (ck ..) (by exact be (by assumption) (by decide)) o rfl ?_;by_cases e1:T.name=c;wide_open with [e1];refine Of H (ck ..) (by exact be (by assumption) (by decide)) o rfl (.inl ?_);have:WA S.nd c e=some T.val:=by unfold WA;rw [v,xh g F (by simp [o,e1]),jg,o];rfl
 rw [VV p z this] at q;exact q;wide_open with [e1];refine ⟨⟨_,rfl⟩,λi I B d=>?_⟩;rcases qK.mp B with h|rfl;exact g i I h d;rw [F] at d;obtain rfl:=an d;simp [o,e1];intro r t;refine im ?_;rintro rfl;refine am λb=>?_;rintro rfl g;wide_open with [];refine ⟨⟨_,_,rfl⟩,λi I B d=>?_⟩;rcases qK.mp B with h|rfl;exact p i I h d;rw [z] at d;obtain rfl:=an d;unfold WA;rw [v,xf λi x h=>g i x (BB.mp h).1 h];rfl;intro r t;refine im ?_;rintro rfl;refine EN λa b=>?_;rintro rfl p;rw [Vj λi x h=>p i x (BB.mp h).1 h] at q;wide_open with [];exact .inl q
structure TopE (S:St) (t:Nat) (n:Nd):Prop extends NL S t n where
 e:n.kind="element"
 ns:n.ns.length<900
 tn:OK S.nd n.ns
 at_:n.at_.length<900
 ta:OK S.nd n.at_
inductive pG (vs:List MV) (C:GH) (Q:MV->GH->Prop) (X:GH->Prop):Prop|mk (σ:Sg) (S:St) (t:Nat) (n:Nd) (un aq:Str) (_:C=gh (σ.s S)) (_:TopE S t n) (_:¬(un≠"" /\aq="")) (_:vs=[.af .res,.str un,.str aq]) (_:Q .none (gh (σ.s {S with nd:=B0 S.nd t un aq})))
theorem MN (k:Meets d 14 dC) (m:Meets d 45 iS) (h:pG p C Q X):Walk d 22 p C Q X:=by
 obtain ⟨j,S,t,n,c,a,rfl,T,l,rfl,q⟩:=h;refine pc rfl rfl ?_;show io (mt.T d) rH [some (.af .res),some (.str c),some (.str a)] _ _ _ _;delta rH;have fin:d 14 [.af .res] (gh (j.s S)) (λv e=>d 45 [.af .tree,v,.str c,.str a] e (λ_ g=>Fz (gh (j.s S)) Q .none g) X) X:=by refine dT k T.toNL ?_;exact m ⟨j.s S,S.nd,t,n,c,a,rfl,rfl,by have:=T.b;exact be (by assumption) (by decide),T.g,T.e,by have:=T.ns;exact be (by assumption) (by decide),T.tn,rfl,λ_=> .inl q⟩
 by_cases e1:c="";wide_open with [e1];rw [e1] at fin;exact fin;have o:¬a="" :=λh=>l ⟨e1,h⟩;wide_open with [e1,o];exact fin
theorem pg:∀{l:List Nat},(∀j∈l,∀K:MV->Prop,K (g j)->W (.int j) K)->R (l.map g)->FF W (pu l) R| [],_,q=>q|j::r,h,q=>by show W (.int j) _;refine h j (wS ..) _ ?_;exact pg (R:=λa=>R (g j::a)) (λj c=>h j (FM _ c)) q
noncomputable def KF (a:List Nd) (j:Nat):Str:=(a[j]?.map (·.name)).getD ""
theorem bS {a:List Nd} {j:Nat} (h:a[j]? =some m):KF a j=m.name:=by unfold KF;rw [h];rfl
theorem xN f (l:List Nat):l.map (λj=>MV.str (f j))=te (l.map f):=by simp [te]
noncomputable def mA (c:List Nd) (t:Nat) (a:Str):Bool:=decide (a∈(qr c t).map (KF c))
inductive ux (vs:List MV) (C:GH) (Q:MV->GH->Prop) (X:GH->Prop):Prop|mk (σ:Sg) (S:St) (t:Nat) (n:Nd) (un:Str) (_:C=gh (σ.s S)) (_:TopE S t n) (_:vs=[.af .res,.str un]) (_:Q (.bool (mA S.nd t un)) C)
theorem HU (d:Meets a 14 dC) (o:Meets a 54 (SL λn=>n.ns)) (e:Meets a 47 (SF λn=> .str n.name)) (h:ux w C Q X):Walk a 23 w C Q X:=by
 obtain ⟨x,S,t,n,l,rfl,T,rfl,q⟩:=h;refine pc rfl rfl ?_;show io (mt.T a) vX [some (.af .res),some (.str l),none] _ _ _ _;delta vX;wide_open with [];refine dT d T.toNL ?_;refine d6 o (ck ..) (by have:=T.b;exact be (by assumption) (by decide)) T.g rfl (by have:=T.ns;exact be (by assumption) (by decide)) ?_;haveI c:qr S.nd t=n.ns:=by unfold qr;rw [T.g];rfl
 wide_open with [x0];refine ⟨by have:=T.ns;exact we this,pg (g:=λj=> .str (KF S.nd j)) (λj u K r=>?_) ?_⟩;refine am (λk v=>?_) (lb u);refine am (λm p=>?_) (T.tn k j v);rw [bS p] at r;wide_open with [];refine Of e (ck ..) (by have:=T.b;exact be (by assumption) (by decide)) p rfl ⟨rfl,r⟩;rw [xN];wide_open with [iQ,List.length_map,bg (show n.ns.length<1000 by have:=T.ns;exact Nat.le_trans (by assumption) (by decide))];unfold mA at q;rw [c] at q;exact .inl q
noncomputable def kM (a:List Nd) (j:Nat):Str:=((eV (KF a j)).map (·.1)).getD ""
def Ac (c:List Nd) (j:Nat):Prop:=∃m a b,c[j]? =some m/\fe m.name=true/\eV m.name=some (a,b)
noncomputable def taken (d:List Nd) (t:Nat) (c:List Nat) (a:Str):Bool:=decide (a∈[("" :Str),"xml","xmlns"])||mA d t a||decide (a∈(t::c).map (kM d))
inductive ry (vs:List MV) (C:GH) (Q:MV->GH->Prop) (X:GH->Prop):Prop|mk (σ:Sg) (S:St) (t:Nat) (n:Nd) (un:Str) (_:C=gh (σ.s S)) (_:TopE S t n) (_:(∀j∈t::n.at_,Ac S.nd j)) (_:vs=[.af .res,.str un]) (_:Q (.bool (taken S.nd t n.at_ un)) C)
theorem XW (l:Meets k 14 dC) (r:Meets k 23 ux) (p:Meets k 53 (SL λn=>n.at_)) (u:Meets k 47 (SF λn=> .str n.name)) (A:Meets k 6 S6) (h:ry E C Q X):Walk k 24 E C Q X:=by
 obtain ⟨z,S,t,n,c,rfl,T,H,rfl,q⟩:=h;refine pc rfl rfl ?_;show io (mt.T k) rQ [some (.af .res),some (.str c),none,none] _ _ _ _;delta rQ;haveI L:=T.at_;haveI J:=T.b;unfold taken at q;haveI y:(3<=gz)=True:=by simp [bz]
 by_cases o:c=("" :Str)\/c=("xml" :Str)\/c=("xmlns" :Str);have d:decide (c∈[("" :Str),"xml","xmlns"])=true:=decide_eq_true (by simpa using o);rw [d] at q;wide_open with [o,bz];exact .inl q;have d:decide (c∈[("" :Str),"xml","xmlns"])=false:=decide_eq_false (by simpa using o);rw [d,Bool.false_or] at q;wide_open with [o,bz];refine r ⟨z,S,t,n,c,rfl,T,rfl,?_⟩;cases e:mA S.nd t c<;>rw [e] at q;wide_open with [];refine dT l T.toNL ?_;refine .inl ?_;wide_open with [];refine dT l T.toNL ?_;refine d6 p (ck ..) (by exact be (by assumption) (by decide)) T.g rfl (by exact be (by assumption) (by decide)) ?_;wide_open with [x0,List.length_singleton];refine ⟨by unfold gz;lia,.inl ?_⟩;rw [show [MV.int (t:Nat)]++pu n.at_=pu (t::n.at_) from rfl];wide_open with [x0];refine ⟨by exact be (by assumption) (by decide),pg (g:=λj=> .str (kM S.nd j)) (λj B K w=>?_) ?_⟩;refine l6 (λm a b v I x=>?_) (H j B);haveI F:kM S.nd j=a:=by unfold kM;rw [bS v,x];rfl
 rw [F] at w;wide_open with [];refine Of u (ck ..) (by exact be (by assumption) (by decide)) v rfl ?_;refine A ⟨m.name,a,b,rfl,I,x,?_⟩;wide_open with [List.length_cons,List.length_nil,bz];exact w;rw [xN];wide_open with [iQ,List.length_map];exact ⟨by unfold gz;exact be (by assumption) (by decide),.inl q⟩;wide_open with [];exact .inl q
noncomputable def Fa (k:Nat):Str:="ns" ++Str.ofString (toString (k:Int))
theorem Ro:∀k:Fin 50,("ns" :Str).length+(Str.ofString (toString (k.1:Int))).length<=10:=by decide+kernel
inductive rB (vs:List MV) (C:GH) (Q:MV->GH->Prop) (X:GH->Prop):Prop|mk (σ:Sg) (S:St) (N:Nat) (_:C=gh (σ.s S)) (_:jZ S) (_:N<50) (_:bu S.nd S.au (Fa N)="") (_:vs=[.af .res]) (_:(∀M,M<=N->bu S.nd S.au (Fa M)="" ->Q (.str (Fa M)) C))
theorem OS (c:Meets d 21 lM) (h:rB t C Q X):Walk d 25 t C Q X:=by
 obtain ⟨p,S,N,rfl,O,g,r,rfl,q⟩:=h;refine pc rfl rfl ?_;show io (mt.T d) vE [some (.af .res),none] _ _ _ _;delta vE;wide_open with [];refine ⟨λn u j=>j=gh (p.s S)/\∃k,k+n=N/\u=[some (.af .res),some (.int (k:Nat))],⟨N,rfl,0,Nat.zero_add N,rfl⟩,?_⟩;intro n v j;refine aa ?_;rintro rfl;refine ac λk a=>?_;rintro rfl;haveI o:=Ro ⟨k,AX g a⟩;dsimp only at o;haveI e1:("ns" :Str).length+(Str.ofString (toString (k:Int))).length<=gz:=be o (by decide);have l:(k:Int).natAbs<10^9:=by rw [Int.natAbs_natCast];exact Nat.lt_trans (AX g a) (by decide)
 wide_open with [e1,l];refine c ⟨p,S,Fa k,rfl,O,rfl,?_⟩;by_cases e:bu S.nd S.au (Fa k)="";wide_open with [e,e1,l];exact .inl (q k (Xj a) e);wide_open with [e];have:k≠N:=λh=>e (by rw [h];exact r);haveI m:0<n:=Nat.pos_of_ne_zero λz=>this (by subst z;exact a);exact ⟨n - 1,Nat.sub_lt m Nat.one_pos,rfl,k+1,by rw [Nat.add_assoc,Nat.add_comm 1,kP m];exact a,rfl⟩
def PF (S:St) (t:Nat) (n:Nd) (c d:Str) (N:Nat) (a:Str) (e:List Nd):Prop:=(a≠"" /\bu S.nd S.au a=d/\e=S.nd)\/(e=B0 S.nd t a d/\((a=c/\taken S.nd t n.at_ c=false)\/∃M,M<=N/\a=Fa M/\bu S.nd S.au (Fa M)=""))
structure rY (S:St) (t:Nat) (n:Nd) (aq:Str) (N:Nat):Prop where
 O:jZ S
 T:TopE S t n
 M:∀j∈t::n.at_,Ac S.nd j
 lt:N<50
 z:bu S.nd S.au (Fa N)=""
 u:aq≠""
inductive uz (vs:List MV) (C:GH) (Q:MV->GH->Prop) (X:GH->Prop):Prop|mk (σ:Sg) (S:St) (t:Nat) (n:Nd) (un aq:Str) (N:Nat) (_:C=gh (σ.s S)) (_:rY S t n aq N) (_:vs=[.af .res,.str un,.str aq]) (_:∀pr nd,PF S t n un aq N pr nd->Q (.str pr) (gh (σ.s {S with nd:=nd})))
noncomputable def sR:PS:=(.seq (.aS (.ae 3) (.plain (.slice .fP (.attr (.ae 0) 12))) (.aS (.ae 4) (.plain (.ay (.attr (.ae 0) 10) 54 (.cons (.ae 3) .nil))) (.seq (.assign (.ae 5) (.ay (.attr (.ae 0) 10) 47 (.cons (.ae 4) .nil))) (.aB (.aI true (.cons (.cmp .ne (.ae 5) (.ah (.str ""))) (.cons (.cmp .eq (.ay (.attr (.ae 0) 10) 50 (.cons (.ae 4) .nil)) (.ae 2)) (.cons (.cmp .eq (.ay (.ae 0) 21 (.cons (.ae 5) .nil)) (.ae 2)) .nil)))) (.ret (.ae 5)) .skip)))) (.seq (.aB (.ay (.ae 0) 24 (.cons (.ae 1) .nil)) (.assign (.ae 1) (.ay (.ae 0) 25 .nil)) .skip) (.seq (.expr (.ay (.ae 0) 22 (.cons (.ae 1) (.cons (.ae 2) .nil)))) (.ret (.ae 1)))))
theorem Hv:tJ= .seq (.aB (.aI true (.cons (.cmp .ne (.ae 1) (.ah (.str ""))) (.cons (.cmp .eq (.ay (.ae 0) 21 (.cons (.ae 1) .nil)) (.ae 2)) .nil))) (.ret (.ae 1)) .skip) sR:=rfl
theorem Kf (y:Meets p 21 lM) (z:Meets p 22 pG) (V:Meets p 24 ry) (H:Meets p 25 rB) (U:Meets p 54 (SL λn=>n.ns)) (R:Meets p 47 (SF λn=> .str n.name)) (I:Meets p 50 (SF λn=> .str n.val)) (h:uz vs C Q X):Walk p 26 vs C Q X:=by
 obtain ⟨o,S,t,n,d,g,N,rfl,P,rfl,q⟩:=h;refine pc rfl rfl ?_;show io (mt.T p) tJ [some (.af .res),some (.str d),some (.str g),none,none,none] _ _ _ _;rw [Hv];have O:=P.O;have ho:=O.o;have hb:=O.b;have u:∀a b c,io (mt.T p) sR [some (.af .res),some (.str d),some (.str g),a,b,c] (gh (o.s S)) (λ_ r=>Fz (gh (o.s S)) Q .none r) (Fz (gh (o.s S)) Q) X:=by intro a b c;delta sR;wide_open with [x0,bg (show S.au.length<1000 by exact Nat.le_trans (by assumption) (by decide)),Bk,uG];refine .inl ?_;have Y:∀a∈(S.au.drop 1).reverse,∃n,S.nd[a]? =some n/\n.ns.length<900/\OK S.nd n.ns:=λa h=>O.g a (List.mem_of_mem_drop (List.mem_reverse.mp h));(have Z:(S.au.drop 1).reverse.length<1000:=by simp;exact yI ho);generalize (S.au.drop 1).reverse=l at Y Z⊢;wide_open with [x0,bg Z];refine ⟨λk T r=>r=gh (o.s S)/\(∃a b c,T=[some (.af .res),some (.str d),some (.str g),a,b,c]),⟨rfl,⟨_,_,_,rfl⟩⟩,?_,?_⟩;intro k x v r F;refine aa ?_;rintro rfl;refine fc λa b c=>?_;rintro rfl;refine ac (λe he=>?_) (eN F);rintro rfl;refine nw (λm hm ab L=>?_) (Y e (Lm he));wide_open with [];refine d6 U (ck ..) (by exact be (by assumption) (by decide)) hm rfl (show m.ns.length<1000 by exact be (by assumption) (by decide)) ?_;wide_open with [x0,bg (show m.ns.length<1000 by exact Nat.le_trans (by assumption) (by decide))];refine ⟨λW T r=>r=gh (o.s S)/\(∃b c,T=[some (.af .res),some (.str d),some (.str g),some (.int e),b,c]),⟨rfl,⟨_,_,rfl⟩⟩,?_,?_⟩;intro W x' v r A;refine aa ?_;rintro rfl;refine EN λb c=>?_;rintro rfl;refine ac (λj hj=>?_) (eN A);rintro rfl;refine am (λB E=>?_) (L W j hj);wide_open with [];refine Of R (ck ..) (by exact be (by assumption) (by decide)) E rfl ?_;by_cases e1:B.name="";wide_open with [e1];exact ⟨_,_,rfl⟩;wide_open with [e1];refine Of I (ck ..) (by exact be (by assumption) (by decide)) E rfl ?_;by_cases w:B.val=g;wide_open with [w];refine y ⟨o,S,B.name,rfl,O,rfl,?_⟩;by_cases J:bu S.nd S.au B.name=g;wide_open with [J];exact .inl (q B.name S.nd (.inl ⟨e1,J,rfl⟩));wide_open with [J];exact ⟨_,_,rfl⟩;wide_open with [w];exact ⟨_,_,rfl⟩;intro v r;refine aa ?_;rintro rfl;refine EN λb c=>?_;rintro rfl;wide_open with [];exact ⟨_,_,_,rfl⟩;intro v r;refine aa ?_;rintro rfl;refine fc λa b c=>?_;rintro rfl;wide_open with [];refine V ⟨o,S,t,n,d,rfl,P.T,P.M,rfl,?_⟩;cases e:taken S.nd t n.at_ d;wide_open with [];exact z ⟨o,S,t,n,d,g,rfl,P.T,λh=>P.u h.2,rfl,Fz.inl (q _ _ (Or.inr ⟨rfl,Or.inl ⟨rfl,e⟩⟩))⟩;wide_open with [];refine H ⟨o,S,N,rfl,O,P.lt,P.z,rfl,λM hM hz=>?_⟩;wide_open with [];exact z ⟨o,S,t,n,Fa M,g,rfl,P.T,λh=>P.u h.2,rfl,Fz.inl (q _ _ (Or.inr ⟨rfl,Or.inr ⟨M,hM,rfl,hz⟩⟩))⟩
 by_cases e:d="";wide_open with [e];have:=u none none none;rw [e] at this;exact this;wide_open with [e];refine y ⟨o,S,d,rfl,O,rfl,?_⟩;by_cases w:bu S.nd S.au d=g;wide_open with [w];exact .inl (q d S.nd (.inl ⟨e,w,rfl⟩));wide_open with [w];exact u none none none
inductive sD (vs:List MV) (C:GH) (Q:MV->GH->Prop) (X:GH->Prop):Prop|mk (σ:Sg) (S:St) (w:Str) (b:Bool) (_:C=gh (σ.s S)) (_:S.au.length<100) (_:S.has.length<100) (_:S.has.getLast? =some b) (_:w.length<100) (_:vs=[.af .res,.str w]) (_:(if S.au.length=1\/b=true then X C else Q .none C))
theorem Ms {l:List Bool} (h:l.getLast? =some t):((seqIndex? (-1) l.length).bind λj=>(l.map MV.bool)[j]?)=some (.bool t):=by refine aa (λa b=>?_) (j1 h);rw [iY a,jg,GG,b];rfl
theorem WN (h:sD d C Q X):Walk c 27 d C Q X:=by
 obtain ⟨l,S,w,b,rfl,k,m,g,a,rfl,q⟩:=h;refine pc rfl rfl ?_;show io (mt.T c) tY [some (.af .res),some (.str w)] _ _ _ _;delta tY;have w1:w.length+(" without an element" :Str).length<=gz:=be (hJ (Co a) _) (by decide);have w2:w.length+(" behind children" :Str).length<=gz:=be (hJ (Co a) _) (by decide);have j:((S.au.length:Int)=1)=(S.au.length=1):=by apply propext;exact qk
 by_cases e:S.au.length=1;rw [bn (.inl e)] at q;wide_open with [x0,bg (show S.au.length<1000 by exact Nat.le_trans (by assumption) (by decide)),show decide ((S.au.length:Int)=1)=true from by simp [e],w1];exact q;wide_open with [x0,bg (show S.au.length<1000 by exact Nat.le_trans (by assumption) (by decide)),j,e,List.length_map,Ms g,bg (show S.has.length<1000 by exact Nat.le_trans (by assumption) (by decide)),w2];induction b using Bool.casesOn;rw [al (by simp [e])] at q;wide_open with [];exact .inl q;rw [bn (.inr rfl)] at q;wide_open with [];exact ⟨w2,q⟩
theorem qS {l:List Nat}:((l.length:Int)=1)=(l.length=1):=by apply propext;exact qk
def uR (S:St) (t:Nat) (n:Nd) (name:Str) (p af:Str):Prop:=TopE S t n/\S.au.length≠1/\S.has.getLast? =some false/\name≠"xmlns" /\fe name=true/\eV name=some (p,af)
def ox (a:List Nd) (t:Nat) (d af:Str):Prop:=∃c,a[t]? =some c/\c.kind="element" /\c.at_.length<1000/\OK a c.at_/\a.length<1000/\d.length<=100/\af.length<=100
inductive jK (vs:List MV) (C:GH) (Q:MV->GH->Prop) (X:GH->Prop):Prop|mk (σ:Sg) (S:St) (name aq val:Str) (_:C=gh (σ.s S)) (_:vs=[.af .res,.str name,.str aq,.str val]) (_:((∃b,S.au.length<100/\S.has.length<100/\S.has.getLast? =some b/\(S.au.length=1\/b=true)/\X C)\/(∃t n p af,uR S t n name p af/\aq="" /\∀j:Nat,Q (.int j) (gh (σ.s {S with nd:=setAt S.nd t af "" af val})))\/(∃t n p af N,uR S t n name p af/\aq≠WI/\rY S t n aq N/\∀pr BS,PF S t n p aq N pr BS->ox BS t pr af/\∀j:Nat,Q (.int j) (gh (σ.s {S with nd:=setAt BS t (pr++":" ++af) aq af val})))))
theorem II (d:Meets g 27 sD) (B:Meets g 6 S6) (l:Meets g 14 dC) (m:Meets g 44 kD) (z:Meets g 26 uz) (h:jK W C Q X):Walk g 28 W C Q X:=by
 obtain ⟨e,S,name,a,val,rfl,rfl,h⟩:=h;refine pc rfl rfl ?_;show io (mt.T g) ww [some (.af .res),some (.str name),some (.str a),some (.str val),none,none] _ _ _ _;delta ww;rcases h with t|t|t;revert t;refine dp λb ho Y Z F q=>?_;wide_open with [];exact d ⟨e,S,_,b,rfl,ho,Y,Z,by decide,rfl,by rw [bn F];exact q⟩;revert t;refine xw λt n p af=>dk λT w o r y v=>aa ?_;rintro rfl q;wide_open with [];refine d ⟨e,S,_,false,rfl,T.o,T.h,o,by decide,rfl,?_⟩;rw [al (by simp [w])];wide_open with [r];refine B ⟨name,p,af,rfl,y,v,?_⟩;wide_open with [];refine dT l T.toNL ?_;exact m ⟨e.s S,S.nd,t,n,af,"",af,val,rfl,rfl,by have:=T.b;exact be (by assumption) (by decide),T.g,T.e,by have:=T.at_;exact be (by assumption) (by decide),T.ta,rfl,λj=> .inl (q j)⟩;revert t;refine rb λt n p af N=>pt (dk λT w o r y v O P q=>?_);have V:=P.u;have u:¬a=("http://www.w3.org/XML/1998/namespace" :Str):=O;wide_open with [];refine d ⟨e,S,_,false,rfl,T.o,T.h,o,by decide,rfl,?_⟩;rw [al (by simp [w])];wide_open with [r];refine B ⟨name,p,af,rfl,y,v,?_⟩;wide_open with [V,u];refine dT l T.toNL ?_;wide_open with [];refine z ⟨e,S,t,n,p,a,N,rfl,P,rfl,λk c x=>?_⟩;refine s3 λ_ E=>?_;refine aa (dp λR g1 g2 g3 H=>im λJ A U I=>?_) (q k c x);have L:k.length+(":" :Str).length<=gz:=be (hJ A _) (by decide);have M:(k++(":" :Str)).length+af.length<=gz:=by have:(k++(":" :Str)).length=k.length+1:=Str.length_append _ _;rw [this];exact be (hH (Pe A) U) (by decide)
 refine E ?_;wide_open with [L,M];exact m ⟨e.s {S with nd:=c},c,t,R,_,a,af,val,rfl,rfl,J,g1,g2,g3,H,rfl,λj=> .inl (I j)⟩
noncomputable def txt (S:St) (s:Str):St:=if s="" then S else {S with az:=S.az++[s],has:=zw S.has true}
inductive kG (vs:List MV) (C:GH) (Q:MV->GH->Prop) (X:GH->Prop):Prop|mk (σ:Sg) (S:St) (s:Str) (_:C=gh (σ.s S)) (_:S.has.length<100) (_:0<S.has.length) (_:S.az.length<100) (_:vs=[.af .res,.str s]) (_:Q .none (gh (σ.s (txt S s))))
theorem Wp (h:kG d C Q X):Walk a 29 d C Q X:=by obtain ⟨j,S,s,rfl,k,c,g,rfl,q⟩:=h;refine pc rfl rfl ?_;show io (mt.T a) qZ [some (.af .res),some (.str s)] _ _ _ _;delta qZ;unfold txt at q;by_cases e:s="";rw [bn e] at q;wide_open with [e];exact .inl q;rw [al e] at q;wide_open with [e,jX,bl (show S.az.length<1000 by exact Nat.le_trans (by assumption) (by decide)),show te S.az++[.str s]=te (S.az++[s]) by simp [te],XN,List.length_map,bg (show S.has.length<1000 by exact Nat.le_trans (by assumption) (by decide)),iY c,CM,n9];exact .inl q
theorem qx (a:Meets d 17 iO) {c:Sg} (T:NL S t n) (q:Q .none (gh (c.s (comes S t)))):d 17 [.af .res] (gh (c.s S)) Q X:=a ⟨c,S,t,n,rfl,T,rfl,q⟩
theorem Cb S t:(settle S t).az=[]:=by unfold settle;split<;>first|assumption|rfl
inductive Reach:Nat->Str->Str->Prop|stop {s:Str} (h:Txt.contains s "--" =false) (l:s.length<=100):Reach 0 s s|step {n:Nat} {s f:Str} (h:Txt.contains s "--" =true) (l:s.length<=100) (r:Reach n (Txt.replace s "--" "- -") f):Reach (n+1) s f
noncomputable def dN (f:Str):Str:=if Txt.slice f (some (-1)) none="-" then f++" " else f
noncomputable def pJ (S:St) (t:Nat) (new:Nd):St:={S with nd:=tw S.nd t new}
inductive lJ (vs:List MV) (C:GH) (Q:MV->GH->Prop) (X:GH->Prop):Prop|mk (σ:Sg) (S:St) (t:Nat) (n n':Nd) (s f:Str) (k:Nat) (_:C=gh (σ.s S)) (_:NL S t n) (_:NL (comes S t) t n') (_:Reach k s f) (_:vs=[.af .res,.str s]) (_:∀j:Nat,Q (.int j) (gh (σ.s (pJ (comes S t) t (on "comment" "" "" "" (dN f) (some t))))))
theorem EV (r:Reach n s f):f.length<=100:=by induction r with|stop h l=>exact l|step h l r a=>exact a
set_option tactic.hygienic true in theorem Pw (p:Meets a 17 iO) (o:Meets a 14 dC) (u:Meets a 41 qM) (h:lJ E C Q X):Walk a 30 E C Q X:=by
 obtain ⟨g,S,t,n,z,s,f,k,rfl,T,c,r,rfl,q⟩:=h;refine pc rfl rfl ?_;show io (mt.T a) sZ [some (.af .res),some (.str s)] _ _ _ _;delta sZ;wide_open with [];refine qx p T ?_;generalize comes S t=j at c q⊢;have fin:∀v,v=dN f->a 14 [.af .res] (gh (g.s j)) (λw d=>a 41 [.af .tree,w,.str v] d (Fz (gh (g.s S)) Q) X) X:=by rintro v rfl;refine dT o c ?_;exact u ⟨_,g.s j,j.nd,t,z,rfl,rfl,by have:=c.b;exact be (by assumption) (by decide),c.g,c.k,by have:=c.c;exact be (by assumption) (by decide),rfl,.inl (q _)⟩
 refine ⟨λn A x=>x=gh (g.s j)/\∃s,Reach n s f/\A=[some (.af .res),some (.str s)],⟨k,rfl,s,r,rfl⟩,?_⟩;intro m B x;refine aa ?_;rintro rfl;refine ac λF y=>?_;rintro rfl;have H:=EV r;cases y with|stop h l=>wide_open with [h,Nat.le_trans l (show 100<=gz by decide)];by_cases e:Txt.slice f (some (-1)) none="-";wide_open with [e,Nat.le_trans (Nat.add_le_add_right l (" " :Str).length) (show 100+(" " :Str).length<=gz by decide)];exact fin _ (by unfold dN;rw [bn e]);wide_open with [e];exact fin _ (by unfold dN;rw [al e])|step h l r=>rename_i m;wide_open with [h];refine ⟨by decide,?_,m,fS _,_,r,rfl⟩;refine be (hH l (Nat.mul_le_mul_right _ (Pe l))) (by decide)
inductive jV (vs:List MV) (C:GH) (Q:MV->GH->Prop) (X:GH->Prop):Prop|mk (σ:Sg) (S:St) (g d:Str) (_:C=gh (σ.s S)) (_:ft g=true) (_:g.length<=100) (_:(Txt.lower g).length<=1000) (_:d.length<=100) (_:vs=[.af .res,.str g,.str d]) (_:((p5 g=false/\X C)\/(p5 g=true/\Txt.lower g="xml" /\X C)\/(p5 g=true/\Txt.lower g≠"xml" /\∃t n n',NL S t n/\NL (comes S t) t n'/\∀j:Nat,Q (.int j) (gh (σ.s (pJ (comes S t) t (on "instruction" g "" g (Txt.replace d "?>" "? >") (some t))))))))
theorem Mr (A:Meets c 5 S5) (m:Meets c 17 iO) (k:Meets c 14 dC) (l:Meets c 42 uP) (h:jV z C Q X):Walk c 31 z C Q X:=by obtain ⟨w,S,g,d,rfl,x,u,o,hd,rfl,h⟩:=h;refine pc rfl rfl ?_;show io (mt.T c) vC [some (.af .res),some (.str g),some (.str d)] _ _ _ _;delta vC;wide_open with [];refine A ⟨g,rfl,x,be u (by decide),?_⟩;have v:("no target of an instruction: " :Str).length+g.length<=gz:=be (ed u _) (by decide);have p:(Txt.lower g).length<=gz:=be o (by decide);rcases h with t|t|t;revert t;refine aa λe q=>?_;rw [e];wide_open with [v];exact q;revert t;refine im λe j q=>?_;rw [e];rw [j] at p;wide_open with [j,v,p];exact q;revert t;refine im λe j=>l6 λt n y T a q=>?_;rw [e];wide_open with [j,p];refine qx m T ?_;generalize comes S t=r at a q⊢;wide_open with [];refine dT k a ?_;refine ⟨by decide,be (hH hd (Nat.mul_le_mul_right _ (Pe hd))) (by decide),?_⟩;exact l ⟨_,_,w.s r,r.nd,t,y,rfl,rfl,by have:=a.b;exact be (by assumption) (by decide),a.g,a.k,by have:=a.c;exact be (by assumption) (by decide),rfl,.inl (q _)⟩
inductive lT (vs:List MV) (C:GH) (Q:MV->GH->Prop) (X:GH->Prop):Prop|mk (σ:Sg) (S:St) (t:Nat) (n n':Nd) (i:Nat) (m mj ma mc nf i6:Nd) (j a c:Nat) (li l1:List Nat) (_:C=gh (σ.s S)) (_:NL S t n) (_:NL (comes S t) t n') (_:S.nd[i]? =some m) (_:m.kind="element") (_:Cp (σ.s (comes S t)) (comes S t).nd i t m n' mj ma mc nf i6 j a c li l1) (_:vs=[.af .res,.int (i:Nat)]) (_:Q .none (gh (σ.s {comes S t with nd:=iB (comes S t).nd m mj ma mc t l1})))
theorem Wd (k:Meets d 46 (SF λn=> .str n.kind)) (l:Meets d 17 iO) (o:Meets d 14 dC) (g:Meets d 11 ud) (h:lT J C Q X):Walk d 32 J C Q X:=by
 obtain ⟨u,S,t,n,y,i,m,A,w,L,M,e,j,a,c,I,r,rfl,T,E,x,F,H,rfl,q⟩:=h;refine pc rfl rfl ?_;show io (mt.T d) rS [some (.af .res),some (.int (i:Nat)),none,none] _ _ _ _;have v:(("element" :Str)="attribute")=False:=by decide
 have z:(("element" :Str)="namespace")=False:=by decide
 have B:(("element" :Str)="root")=False:=by decide
 have p:(("element" :Str)="text")=False:=by decide
 delta rS;wide_open with [];refine Of k (ck ..) (by have:=T.b;exact be (by assumption) (by decide)) x rfl ?_;wide_open with [F,v,z,B,p];refine qx l T ?_;wide_open with [];refine dT o E ?_;exact g ⟨u.s (comes S t),(comes S t).nd,i,t,m,y,A,w,L,M,e,j,a,c,I,r,rfl,H,rfl,.inl q⟩
noncomputable def TW (S:St) (t:Nat) (name a af:Str):St:=⟨S.root,tw S.nd t (on "element" name a af "" (some t)),S.au++[S.nd.length],S.has++[false],S.pre,S.az⟩
noncomputable def XR (S:St) (a:List Nd):St:=⟨S.root,a,S.au,S.has,S.pre,S.az⟩
noncomputable def eF (S:St) (e:Nat) (a c:Str):St:=if bu S.nd S.au a=c then S else XR S (B0 S.nd e a c)
noncomputable def ni (S:St) (t:Nat) (name a c af:Str):St:=eF (TW (comes S t) t name a af) (comes S t).nd.length c a
inductive jO (vs:List MV) (C:GH) (Q:MV->GH->Prop) (X:GH->Prop):Prop|mk (σ:Sg) (S:St) (t:Nat) (n n1 n2:Nd) (name aq un af:Str) (_:C=gh (σ.s S)) (_:NL S t n) (_:NL (comes S t) t n1) (_:fe name=true) (_:eV name=some (un,af)) (_:jZ (TW (comes S t) t name aq af)) (_:TopE (TW (comes S t) t name aq af) (comes S t).nd.length n2) (_:¬(un≠"" /\aq="")) (_:vs=[.af .res,.str name,.str aq]) (_:∀j:Nat,Q (.int j) (gh (σ.s (ni S t name aq un af))))
theorem G6 l b:l.map MV.bool++[.bool b]=(l++[b]).map .bool:=by simp
theorem QN (o:Meets j 17 iO) (x:Meets j 6 S6) (p:Meets j 14 dC) (u:Meets j 39 mY) (l:Meets j 21 lM) (m:Meets j 22 pG) (h:jO z C Q X):Walk j 18 z C Q X:=by obtain ⟨k,S,t,n,w,B,name,a,d,af,rfl,T,g,A,y,O,E,r,rfl,q⟩:=h;refine pc rfl rfl ?_;show io (mt.T j) si [some (.af .res),some (.str name),some (.str a),none,none,none] _ _ _ _;delta si;wide_open with [];refine qx o T ?_;unfold ni at q;generalize comes S t=c at g O E q⊢;refine x ⟨name,d,af,rfl,A,y,?_⟩;wide_open with [];refine dT p g ?_;refine u ⟨_,_,_,k.s c,c.nd,t,w,rfl,rfl,by have:=g.b;exact be (by assumption) (by decide),g.g,g.k,by have:=g.c;exact be (by assumption) (by decide),rfl,?_⟩;have H:=g.o;have F:=g.h;rw [yy];wide_open with [x0,bl (show c.au.length<1000 by exact Nat.le_trans (by assumption) (by decide)),lS,CN,List.length_map,bl (show c.has.length<1000 by exact Nat.le_trans (by assumption) (by decide)),G6,n9];show j 21 _ (gh (k.s (TW c t name a af))) _ _;unfold eF at q;have v:gh (k.s ⟨c.root,tw c.nd t (on "element" name a af "" (some t)),c.au++[c.nd.length],c.has++[false],c.pre,c.az⟩)=gh (k.s (TW c t name a af)):=rfl;generalize TW c t name a af=S2 at O E q v⊢;refine l ⟨k,S2,d,rfl,O,rfl,?_⟩;by_cases e:bu S2.nd S2.au d=a;rw [bn e] at q;wide_open with [e];exact .inl (q _);rw [al e] at q;wide_open with [e];exact m ⟨k,S2,_,B,d,a,rfl,E,r,rfl,.inl (q _)⟩
noncomputable def jp (S:St) (t:Nat):St:=⟨S.root,(settle S t).nd,S.au.dropLast,S.has.dropLast,(settle S t).pre,(settle S t).az⟩
inductive fD (vs:List MV) (C:GH) (Q:MV->GH->Prop) (X:GH->Prop):Prop|mk (σ:Sg) (S:St) (_:C=gh (σ.s S)) (_:vs=[.af .res]) (_:((S.au.length=1/\X C)\/(S.au.length≠1/\∃t n,NL S t n/\Q .none (gh (σ.s (jp S t))))))
theorem Qg {t:Nat} (h:l.getLast? =some t):(pu l).getLast? =some (.int t)/\(pu l).dropLast=pu l.dropLast:=by unfold pu;exact ⟨by rw [List.getLast?_map,h];rfl,by rw [List.map_dropLast]⟩
theorem H8 (a:Meets c 16 jB) (h:fD j C Q X):Walk c 19 j C Q X:=by
 obtain ⟨p,S,rfl,rfl,h⟩:=h;refine pc rfl rfl ?_;show io (mt.T c) tO [some (.af .res)] _ _ _ _;delta tO;rcases h with t|t;revert t;refine aa λe q=>?_;wide_open with [x0,qS,e,bz];exact q;revert t;refine aa λe=>tz λt n T q=>?_;have o:=T.o;have r:=T.h;wide_open with [x0,qS,e,bg (show S.au.length<1000 by exact Nat.le_trans (by assumption) (by decide))];refine wy a T ?_;have e1:=zI S t;have d:=jo S t;have g:=qh S t;refine aa (λp1 p2=>?_) (Qg T.l);have k:∃b,S.has.getLast? =some b:=by cases e:S.has.getLast? with|some b=>exact ⟨b,rfl⟩|none=>rw [List.getLast?_eq_none_iff] at e;have:=T.hp;rw [e] at this;exact nomatch this
 revert k;refine am λb l=>?_;have p3:(S.has.map MV.bool).getLast? =some (.bool b):=by rw [List.getLast?_map,l];rfl
 have p4:(S.has.map MV.bool).dropLast=S.has.dropLast.map .bool:=by rw [List.map_dropLast]
 unfold jp at q;generalize settle S t=m at q e1 d g⊢;wide_open with [e1,d,p1,p2,p3,p4,x0,bl (show S.au.length<1000 by exact Nat.le_trans (by assumption) (by decide)),CN,List.length_map,bl (show S.has.length<1000 by exact Nat.le_trans (by assumption) (by decide)),n9];rw [<- g] at q;exact .inl q
inductive jb (vs:List MV) (C:GH) (Q:MV->GH->Prop) (X:GH->Prop):Prop|mk (σ:Sg) (S:St) (_:C=gh (σ.s S)) (_:S.au.length<100) (_:vs=[.af .res]) (_:((S.au.length≠1/\X C)\/(S.au.length=1/\∃t n,NL S t n/\Q (.int S.root) (gh (σ.s (settle S t))))))
theorem JQ (a:Meets c 16 jB) (h:jb g C Q X):Walk c 20 g C Q X:=by obtain ⟨l,S,rfl,k,rfl,h⟩:=h;refine pc rfl rfl ?_;show io (mt.T c) su [some (.af .res)] _ _ _ _;delta su;rcases h with t|t;revert t;refine aa λe q=>?_;wide_open with [x0,qS,e,bg (show S.au.length<1000 by exact Nat.le_trans (by assumption) (by decide))];exact q;revert t;refine aa λe=>tz λt n T q=>?_;wide_open with [x0,show decide ((S.au.length:Int)=1)=true from by simp [e],bg (show S.au.length<1000 by exact Nat.le_trans (by assumption) (by decide))];refine wy a T ?_;have d:=qh S t;generalize settle S t=j at q d⊢;wide_open with [d];exact .inl q
inductive oG (vs:List MV) (C:GH) (Q:MV->GH->Prop) (X:GH->Prop):Prop|mk (σ:Sg) (nd:List Nd) (xj:Nat) (_:C=up (gh σ) .res (.inst 343 [])) (_:σ.tree=some nd) (_:σ.res=none) (_:vs=[.af .res,.af .tree,.int xj]) (_:Q .none (gh (σ.s ⟨xj,nd,[xj],[false],[],[]⟩)))
theorem Hw (h:oG j C Q X):Walk e 13 j C Q X:=by obtain ⟨k,o,a,rfl,g,c,rfl,q⟩:=h;refine am (λk=>?_) (jz g);rintro rfl;refine pc rfl rfl ?_;show io (mt.T e) uL [some (.af .res),some (.af .tree),some (.int a)] _ _ _ _;delta uL;wide_open with [];refine .inr .au (by simp [lO,nQ,gh,c,Loc.tag]) ?_;wide_open with [];refine .inr .has (by simp [lO,nQ,gh,c,Loc.tag]) ?_;wide_open with [];refine .inr (.pend 0) (by simp [lO,nQ,gh,c,Loc.tag]) ?_;wide_open with [];refine .inl (Eq.mpr (l9 (Q .none) ?_) q);refine TM rfl λx d=>cP rfl λl=>(Rs d).trans (cP rfl λm=>(Rs d).trans (cP rfl λn=>(Rs d).trans ?_));induction x using Loc.casesOn with|pend i=>(induction i using Nat.casesOn with|zero=>contradiction|succ _=>exact l9 (Option.bind · _) c)|_=>first|rfl|contradiction
inductive dX (vs:List MV) (C:GH) (Q:MV->GH->Prop) (X:GH->Prop):Prop|mk (σ:Sg) (a b:Int) (cM:Nat) (_:C=gh σ) (_:σ.src=some (a,b)) (_:0<=a) (_:0<=b) (_:b<2147483647) (_:0<cM) (_:cM<1000) (_:vs=[.af .src,.int cM]) (_:∀(d:Nat) (a' b':Int),d<cM->0<=a'->0<=b'->b'<2147483647->Q (.int d) (gh {σ with src:=some (a',b')}))
theorem xZ c p a b (h:c.src=some p):up (gh c) .src (.list [.int a,.int b])=gh {c with src:=some (a,b)}:=by funext x;induction x using Loc.casesOn<;>rfl
theorem jS:seqIndex? 0 2=some 0:=by decide
theorem gn:seqIndex? 1 2=some 1:=by decide
theorem O0 (h:dX y C Q X):Walk u 56 y C Q X:=by
 obtain ⟨t,a,b,c,rfl,k,r,A,n,x,m,rfl,q⟩:=h;refine pc rfl rfl ?_;show io (mt.T u) rk [some (.af .src),some (.int c),none] _ _ _ _;delta rk;have d:=EF x;have o:=Int.lt_trans (ef.mpr m) (by decide:(1000:Int)<2^62);by_cases e:0<a;wide_open with [k,List.length_cons,List.length_nil,jS,gn,Option.bind_some,List.getElem?_cons_zero,List.getElem?_cons_succ,e,d,o,bz,List.set_cons_zero,xZ t (a,b) _ _ k];have g:=Int.emod_nonneg a (Int.ne_of_gt d);have j:=Int.emod_lt_of_pos a d;have:=q (a%c).toNat (a/c) b ((Int.toNat_lt g).mpr j) (Int.ediv_nonneg r (Int.le_of_lt d)) A n;rw [Int.toNat_of_nonneg g] at this;exact .inl this;have w:(39373:Int).natAbs<2^63:=by decide
 wide_open with [k,List.length_cons,List.length_nil,jS,gn,Option.bind_some,List.getElem?_cons_zero,List.getElem?_cons_succ,e,d,o,bz,List.set_cons_zero,List.set_cons_succ,xZ t (a,b) _ _ k];have g:=Int.emod_nonneg (b*39373+7) (show (2147483647:Int)≠0 by decide);have j:=Int.emod_lt_of_pos (b*39373+7) (show (0:Int)<2147483647 by decide);generalize (b*39373+7)%2147483647=l at g j⊢;generalize l*l%2147483629/32=z;have p:=Int.emod_nonneg z (Int.ne_of_gt d);have v:=Int.emod_lt_of_pos z d;have:=q (z%c).toNat a l ((Int.toNat_lt p).mpr v) r g j;rw [Int.toNat_of_nonneg p] at this;exact ⟨.inr w,by decide,by decide,.inl (ef.mp (by rw [Int.natAbs_of_nonneg g];exact Int.lt_trans j (by decide))),by decide,by decide,by decide,by decide,.inl this⟩
def jL (c:Sg):Prop:=∃a b,c.src=some (a,b)/\0<=a/\0<=b/\b<2147483647
noncomputable def Sg.q (j:Sg) (a b:Int):Sg:={j with src:=some (a,b)}
theorem YB (k:Meets o 56 dX) {e:Sg} (g:jL e) (u:0<c) (n:c<1000) (q:∀(d:Nat) (a b:Int),d<c->jL (e.q a b)->Q (.int d) (gh (e.q a b))):o 56 [.af .src,.int c] (gh e) Q X:=by revert g;refine Cc λa b g p v j=>?_;exact k ⟨e,a,b,c,rfl,g,p,v,j,u,n,rfl,λd m l hd r w t=>q d m l hd ⟨m,l,rfl,r,w,t⟩⟩
inductive fj (vs:List MV) (C:GH) (Q:MV->GH->Prop) (X:GH->Prop):Prop|mk (σ:Sg) (l:List MV) (_:C=gh σ) (_:jL σ) (_:0<l.length) (_:l.length<1000) (_:vs=[.af .src,.lst l]) (_:∀(v:MV) (a b:Int),v∈l->jL (σ.q a b)->Q v (gh (σ.q a b)))
theorem KC (e:Meets g 56 dX) (h:fj k C Q X):Walk g 57 k C Q X:=by obtain ⟨p,l,rfl,n,m,c,rfl,q⟩:=h;refine pc rfl rfl ?_;show io (mt.T g) wF [some (.af .src),some (.lst l)] _ _ _ _;delta wF;wide_open with [bg c];refine YB e n m c λd a b hd o=>?_;have j:=GS hd;wide_open with [bg c,g9 hd,Option.bind_some,j];exact .inl (q _ a b (List.getElem_mem hd) o)
inductive oH (vs:List MV) (C:GH) (Q:MV->GH->Prop) (X:GH->Prop):Prop|mk (σ:Sg) (sc:List Int) (k:Nat) (_:C=gh σ) (_:σ.src=none) (_:sc.length<1000) (_:k<2) (_:vs=[.lst (sc.map .int),.int k]) (_:∀a b:Int,jL (σ.q a b)->Q (.af .src) (gh (σ.q a b)))
theorem Tw (c:Sg) a b:up (gh c) .src (.list [.int a,.int b])=gh (c.q a b):=by funext x;induction x using Loc.casesOn<;>rfl
section
variable {sc:List Int} {k:Nat} {Nx:ee->GH->Prop}
theorem Xz (l:d.src=none) (p:k<2) (q:∀a b:Int,jL (d.q a b)->Q (.af .src) (gh (d.q a b))) {c:Int} (n:0<=m):io (mt.T o) rm [some (.lst (sc.map .int)),some (.int k),some (.int c),some (.int m),none] (gh d) Nx (Fz (gh d) Q) X:=by
 delta rm;wide_open with [];have e:=Int.emod_nonneg ((m%2147483629+7919*(k:Int)*(k:Int)+31*(k:Int)+17)*48271) (show (2147483647:Int)≠0 by decide);have g:=Int.emod_lt_of_pos ((m%2147483629+7919*(k:Int)*(k:Int)+31*(k:Int)+17)*48271) (show (0:Int)<2147483647 by decide);have j:(k:Int).natAbs<2^63:=by rw [Int.natAbs_natCast];exact be (by assumption) (by decide)
 refine ⟨by decide,by decide,.inl (by decide),.inr j,.inl (by decide),.inr (by decide),by decide,by decide,by decide,by decide,by decide,.inr ?_,.inr .src (by simp [gh,l]) ?_⟩;split<;>decide;rw [Tw];refine .inl (q _ _ ⟨_,_,rfl,?_,e,g⟩);split;lia;lia
theorem Od (q:∀m,0<=m->io (mt.T a) b [some (.lst (sc.map .int)),some (.int k),some (.int c),some (.int m),none] C Nx R X):io (mt.T a) (.seq (.assign (.ae 3) (.bi .max (.cons (.bi .int (.cons (.ae 2) .nil)) (.cons (.bi .int (.cons (.bin .sub (.neg (.ah (.int 1))) (.ae 2)) .nil)) .nil)))) b) [some (.lst (sc.map .int)),some (.int k),some (.int c),none,none] C Nx R X:=by wide_open with [];exact q _ (by lia)
theorem Qn (a:sc.length<1000) (q:∀c:Int,io (mt.T g) b [some (.lst (sc.map .int)),some (.int k),some (.int c),none,none] C Nx R X):io (mt.T g) (.seq (.assign (.ae 2) (.ite (.cmp .lt (.ae 1) (.bi .len (.cons (.ae 0) .nil))) (.sub (.ae 0) (.ae 1)) (.ah (.int 0)))) b) [some (.lst (sc.map .int)),some (.int k),none,none,none] C Nx R X:=by
 by_cases e:(k:Int)<(sc.length:Int);have d:=Vh e;have j:(sc.map MV.int)[k]? =some (.int sc[k]):=by rw [GG,GS d];rfl
 wide_open with [List.length_map,e,g9 d,j];exact ⟨bg a,bg a,q _⟩;wide_open with [List.length_map,e];exact ⟨bg a,q _⟩
end
theorem Rz (h:oH g C Q X):Walk a 55 g C Q X:=by obtain ⟨n,sc,k,rfl,l,j,e,rfl,q⟩:=h;refine pc rfl rfl ?_;show io (mt.T a) rU [some (.lst (sc.map .int)),some (.int k),none,none,none] _ _ _ _;delta rU Bc;exact Qn j λc=>Od λm d=>Xz l e q d
noncomputable def Sg.e (j:Sg) (l:List El):Sg:={j with ag:=l}
noncomputable def xb (a af:Str):El:=⟨a,af,[],[],[]⟩
inductive gK (vs:List MV) (C:GH) (Q:MV->GH->Prop) (X:GH->Prop):Prop|mk (σ:Sg) (aq af:Str) (_:C=gh σ) (_:¬(σ.raw=true/\σ.ag.length=0)) (_:vs=[.str aq,.str af]) (_:Q (.af (.el σ.ag.length)) (gh (σ.e (σ.ag++[xb aq af]))))
theorem Ye (h:gK m C Q X):Walk k 58 m C Q X:=by obtain ⟨d,g,af,rfl,c,rfl,q⟩:=h;have j:d.raw=true->¬d.ag=[]:=λa b=>c ⟨a,by rw [b];rfl⟩;refine pc rfl rfl ?_;show io (mt.T k) rV [some (.str g),some (.str af)] _ _ _ _;delta rV;wide_open with [];refine ⟨.ea d.ag.length,end_none,?_⟩;refine .inr (.ec d.ag.length) end_none ?_;wide_open with [];refine ⟨by decide,.el d.ag.length,end_none,.inl (Eq.mpr (l9 (Q _) ?_) q)⟩;refine TM ?_ λx n=>cP ((fh ..).trans (l9 (λl=>some (OV.list l)) (al c))) λo=>cP (fh ..) λp=>?_;show ((d.ag++[xb g af])[d.ag.length]?.map λe=>OV.aM ce (ct d.raw d.ag.length e))=_;rw [fh];unfold ct dA;rw [al c];rfl;induction x using Loc.casesOn<;>first|rfl|exact rJ λe=>(by subst e;contradiction)
theorem xQ r i e:re ("children" :Str) ce (ct r i e)=some (dA r i e):=by
 have a:¬("name" :Str)="children" :=by decide
 have c:¬("attributes" :Str)="children" :=by decide
 exact (ZB a).trans ((ZB c).trans (co rfl))
theorem pO (h:¬(r=true/\i=0)) e:gQ r i e=e.ch.map ze:=al h
theorem Af (h:¬(r=true/\i=0)) e:re ("children" :Str) ce (ct r i e)=some (.af (.ec i)):=by rw [xQ];unfold dA;rw [al h]
theorem mn r i e:re ("attributes" :Str) ce (ct r i e)=some (.af (.ea i)):=by
 have a:¬("name" :Str)="attributes" :=by decide
 exact (ZB a).trans (co rfl)
theorem Nb r i e:re ("name" :Str) ce (ct r i e)=some (.tup [.str e.aq,.str e.af]):=co rfl
noncomputable def ls (a:Sg) (i:Nat) (e:El) (ch:List Ch):Sg:=a.e (a.ag.set i {e with ch:=ch})
theorem ly {σ:Sg} {e:El} (a:¬(σ.raw=true/\i=0)) (h:σ.ag[i]? =some e) ch:up (gh σ) (.ec i) (.list (ch.map ze))=gh (ls σ i e ch):=by refine TM ((iW h _ _).trans ?_) λx c=>?_;unfold gQ;rw [al a];induction x using Loc.casesOn with|el j=>by_cases q:j=i;subst q;refine Eq.trans (l9 (Option.map _) h) (Eq.trans ?_ (iW h _ _).symm);unfold ct dA;rw [Option.map_some,al a,al a];exact iZ q|ea j=>exact bI (f:=λe=>OV.aT e.ak (te e.av)) h rfl|ec j=>exact iZ λe=>c (l9 Loc.ec e)|_=>rfl
noncomputable def oF:Ch->Bool| .txt _=>true|_=>false
noncomputable def cH (ch:List Ch) (s:Str):List Ch:=if s="" then ch else match ch.getLast? with|some (.txt u)=>ch.set (ch.length - 1) (.txt (u++s))|_=>ch++[.txt s]
def Gc (a:Sg) (ch:List Ch):Prop:=∀j,Ch.el j∈ch->j<a.ag.length
inductive nh (vs:List MV) (C:GH) (Q:MV->GH->Prop) (X:GH->Prop):Prop|mk (σ:Sg) (i:Nat) (e:El) (s:Str) (_:C=gh σ) (_:¬(σ.raw=true/\i=0)) (_:σ.ag[i]? =some e) (_:e.ch.length<1000) (_:Gc σ e.ch) (_:(∀u,Ch.txt u∈e.ch->u.length<=1000)) (_:s.length<=100) (_:vs=[.af (.el i),.str s]) (_:Q .none (gh (ls σ i e (cH e.ch s))))
theorem M2 (h:nh J C Q X):Walk A 59 J C Q X:=by
 obtain ⟨p,i,e,s,rfl,a,d,m,v,E,H,rfl,q⟩:=h;have g:=Af a e;have k:=pO a e;refine pc rfl rfl ?_;show io (mt.T A) uj [some (.af (.el i)),some (.str s)] _ _ _ _;delta uj;unfold cH at q;have same:ls p i e e.ch=p:=by unfold ls Sg.e;(have:p.ag.set i {e with ch:=e.ch}=p.ag:=by apply List.ext_getElem?;intro j;rw [List.getElem?_set];have B:=(BB.mp d).1;by_cases q:i=j;subst q;rw [bn rfl,bn B,d];rw [al q]);rw [this]
 by_cases r:s="";rw [bn r,same] at q;wide_open with [r];exact .inl q;rw [al r] at q;wide_open with [r,d,g,k];refine .inl ?_;wide_open with [d,List.length_map,bg m];cases t:e.ch.getLast? with|none=>have z:=List.getLast?_eq_none_iff.mp t;rw [t,z] at q;wide_open with [z,List.map_nil,d,g,k,List.length_nil,bz,List.nil_append];rw [show ([MV.str s]:List MV)=[Ch.txt s].map ze from rfl,ly a d];exact .inl q|some c=>refine aa (λo w=>?_) (j1 t);have y:=Lm w;(have x:(e.ch.map ze=[])=False:=by simp;intro h;rw [h] at o;cases o);(have M:(seqIndex? (-1) e.ch.length).bind (λj=>(e.ch.map ze)[j]?)=some (ze c):=by rw [iY o,jg,GG,w];rfl);rw [t] at q;(have n:e.ch.map ze++[.str s]=(e.ch++[Ch.txt s]).map ze:=by simp [ze]);wide_open with [x,d,g,k,List.length_map,bg m,M];induction c using Ch.casesOn with|txt u=>have I:u.length+s.length<=gz:=be (hH (E u y) H) (by decide);(have L:(e.ch.map ze)[e.ch.length - 1]? =some (.str u):=by rw [GG,w];rfl);simp only [ze];wide_open with [d,g,k,List.length_map,bg m,I,iY o,Option.bind_some,L];rw [show (e.ch.map ze).set (e.ch.length - 1) (.str (u++s))=(e.ch.set (e.ch.length - 1) (.txt (u++s))).map ze by rw [List.map_set];rfl,ly a d];exact .inl q|el j=>have F:=GS (v j y);simp only [ze];wide_open with [F,d,g,k,List.length_map,bl m,n];rw [ly a d];exact .inl q|tup l=>simp only [ze];wide_open with [d,g,k,List.length_map,bl m,n];rw [ly a d];exact .inl q
def ul (a:List Nd) (sc:SD) (e j:Nat):Prop:=∃m p c,a[j]? =some m/\m.name.length<=1000/\gX m.name ":" = .tup [.str p,.str c,.str m.af]/\(p≠"" ->re p sc.1 sc.2=some m.aq)/\(p="" ->m.aq=if j=e then (re ("" :Str) sc.1 sc.2).getD "" else "")
inductive tH (vs:List MV) (C:GH) (Q:MV->GH->Prop) (X:GH->Prop):Prop|mk (σ:Sg) (nd:List Nd) (e:Nat) (n:Nd) (l:List Nat) (_:C=gh σ) (_:σ.tree=some nd) (_:nd.length<1000) (_:YA σ) (_:(∀i k,σ.aD i k=none)) (_:CS nd (some e) l) (_:f9 nd l) (_:nd[e]? =some n) (_:n.at_.length<900) (_:(∀j∈e::n.at_,ul nd (xz nd l) e j)) (_:vs=[.af .tree,.int (e:Nat)]) (_:Q (.bool true) C)
theorem O5 (U:Meets t 9 S9) (z:Meets t 53 (SL λn=>n.at_)) (H:Meets t 47 (SF λn=> .str n.name)) (E:Meets t 48 (SF λn=> .str n.aq)) (I:Meets t 49 (SF λn=> .str n.af)) (h:tH Z C Q X):Walk t 61 Z C Q X:=by
 obtain ⟨S,nd,e,n,l,rfl,g,v,hc,w,Y,hl,hn,ha,O,rfl,q⟩:=h;refine pc rfl rfl ?_;show io (mt.T t) tx [some (.af .tree),some (.int (e:Nat)),none,none,none,none,none,none] _ _ _ _;delta tx;wide_open with [];refine m9 U g v hc (w 0) (w 1) Y hl ?_;generalize xz nd l=sc at O;wide_open with [];refine .inl ?_;wide_open with [g];refine d6 z g v hn rfl (by exact be (by assumption) (by decide)) ?_;wide_open with [x0,List.length_singleton];refine ⟨by unfold gz;lia,.inl ?_⟩;rw [show [MV.int (e:Nat)]++pu n.at_=pu (e::n.at_) from rfl];wide_open with [x0];refine ⟨by unfold gz;exact be (by assumption) (by decide),λk ρ J=>J=gh S/\∃a b c d f,ρ=[some (.af .tree),some (.int (e:Nat)),some (.aQ sc.1 (te sc.2)),a,b,c,d,f],⟨rfl,_,_,_,_,_,rfl⟩,?_,?_⟩;intro k x A J T;refine aa ?_;rintro rfl;refine rb λa b c d f=>?_;rintro rfl;refine s3 λ_ R=>?_;refine ac (λj W=>?_) (eN T);rintro rfl;refine l6 (λm p cc B L=>im λF V P=>?_) (O j (Lm W));have M:(0<(":" :Str).length)=True:=by decide
 refine R ?_;wide_open with [g];refine Of H g v B rfl ?_;wide_open with [M,Nat.le_trans L (show 1000<=gz by decide),F,g];refine Of E g v B rfl ?_;wide_open with [g];refine Of I g v B rfl ?_;by_cases e1:p="";have o:=P e1;wide_open with [e1];by_cases y:j=e;rw [bn y] at o;have r:=YH y;wide_open with [r,nV];cases N:re ("" :Str) sc.1 sc.2 with|none=>rw [N] at o;wide_open with [Option.map_none,Option.getD_none];rw [show m.aq="" from o];wide_open with [];exact ⟨_,_,_,_,_,rfl⟩|some u=>rw [N] at o;wide_open with [Option.map_some,Option.getD_some];rw [show m.aq=u from o];wide_open with [];exact ⟨_,_,_,_,_,rfl⟩
 rw [al y] at o;have r:=Yw y;wide_open with [r,o];exact ⟨_,_,_,_,_,rfl⟩;have o:=V e1;wide_open with [e1,nV,o,Option.map_some,Option.getD_some];exact ⟨_,_,_,_,_,rfl⟩;intro A J;refine aa ?_;rintro rfl;refine rb λa b c d f=>?_;rintro rfl;wide_open with [];exact .inl q
noncomputable def Me (a:List Nd) (j:Nat):Str:=(a[j]?.map (·.aq)).getD ""
noncomputable def LS (a:List Nd) (j:Nat):Str:=(a[j]?.map (·.af)).getD ""
noncomputable def valOf (a:List Nd) (j:Nat):Str:=(a[j]?.map (·.val)).getD ""
structure Su (nd:List Nd) (e:Nat) (n:Nd) (E:El) (l:List Nat):Prop where
 p:CS nd (some e) l
 o:f9 nd l
 a:n.at_.length<900
 c:n.ch.length<900
 r:∀j∈e::n.at_,ul nd (xz nd l) e j
 ta:OK nd n.at_
 tc:OK nd n.ch
 k:E.ak=n.at_.map λj=>[Me nd j,LS nd j]
 v:E.av=n.at_.map λj=>valOf nd j
 d:E.ak.Nodup
 z:E.ch.length=n.ch.length
def gm (P:Nat->Nat->Prop) (a:List Nd) (ag:List El) (i:Nat) (c:Ch):Prop:=∃m,a[i]? =some m/\m.val.length<=1000/\match c with| .txt s=>m.kind="text" /\m.val=s| .el e=>m.kind="element" /\(∃E,ag[e]? =some E/\m.aq=E.aq/\m.af=E.af)/\P i e| .tup t=>(∃x,t=[("comment" :Str),x]/\m.kind="comment" /\Txt.contains m.val "--" =false/\Txt.slice m.val (some (-1)) none≠"-" /\Txt.replace m.val " " "" =x)\/(t=[("instruction" :Str),m.name,m.val]/\m.kind="instruction")
def Lk (d:List Nd) (ag:List El):Nat->Nat->Nat->Prop|0,_,_=>False|h+1,e,i=>∃n E l,d[e]? =some n/\ag[i]? =some E/\Su d e n E l/\∀(k a:Nat) (c:Ch),n.ch[k]? =some a->E.ch[k]? =some c->gm (Lk d ag h) d ag a c
inductive eR (h:Nat) (vs:List MV) (C:GH) (Q:MV->GH->Prop) (X:GH->Prop):Prop|mk (σ:Sg) (nd:List Nd) (e i:Nat) (_:C=gh σ) (_:σ.tree=some nd) (_:nd.length<1000) (_:YA σ) (_:(∀i k,σ.aD i k=none)) (_:Lk nd σ.ag h e i) (_:vs=[.af .tree,.int (e:Nat),.af (.el i)]) (_:Q (.bool true) C)
noncomputable def oj (k:List Str) (v:Str):MV:= .tup [.tup (te k),.str v]
theorem xE:∀(c:List (List Str)) (a:List Str),c.length=a.length->pairsOf ((c.zip a).map λp=>oj p.1 p.2)=some (c,te a)| [],[],_=>rfl|k::c,v::a,h=>by have d:=xE c a (fW h);show ((GE (te k)).bind λk=>(pairsOf ((c.zip a).map λp=>oj p.1 p.2)).map λq=>(k::q.1,MV.str v::q.2))=_;rw [iQ,d];rfl
theorem yg (f:c->e) (g:c->d):∀l:List c,(l.map f).zip (l.map g)=l.map λa=>(f a,g a)| []=>rfl|a::r=>by simp [yg f g r]
theorem GI {hh:Nat} (T:Meets y 62 (eR hh)) (ap:Meets y 61 tH) (S:Meets y 53 (SL λn=>n.at_)) (as:Meets y 52 (SL λn=>n.ch)) (ak:Meets y 46 (SF λn=> .str n.kind)) (av:Meets y 47 (SF λn=> .str n.name)) (F:Meets y 48 (SF λn=> .str n.aq)) (M:Meets y 49 (SF λn=> .str n.af)) (I:Meets y 50 (SF λn=> .str n.val)) (h:eR (hh+1) vs C Q X):Walk y 62 vs C Q X:=by
 obtain ⟨w,r,e,i,rfl,o,u,hc,O,⟨n,E,l,hn,B,L,ab⟩,rfl,q⟩:=h;refine pc rfl rfl ?_;show io (mt.T y) vi [some (.af .tree),some (.int (e:Nat)),some (.af (.el i)),none,none,none,none,none,none,none] _ _ _ _;have V:=xQ w.raw i E;have kt:wE (gh w) (dA w.raw i E)=some (E.ch.map ze):=by unfold dA;by_cases q:w.raw=true/\i=0;rw [bn q];rfl;rw [al q,xY,vR,B,Option.map_some,pO q];rfl
 have A:uu (gh w) (dA w.raw i E)=some (E.ch.map ze):=by unfold dA;by_cases q:w.raw=true/\i=0;rw [bn q];rfl;rw [al q,CU,vR,B,Option.map_some,pO q];rfl
 generalize dA w.raw i E=kv at V kt A;have ha:=L.a;have a0:=L.c;delta vi;wide_open with [o];refine d6 S o u hn rfl (by exact be (by assumption) (by decide)) ?_;wide_open with [x0];refine ⟨we ha,pg (g:=λj=>oj [Me r j,LS r j] (valOf r j)) (λj hj K hK=>?_) ?_⟩;refine am (λk hk=>?_) (lb hj);refine am (λm v=>?_) (L.ta k j hk);have e1:Me r j=m.aq:=by unfold Me;rw [v];rfl
 have e2:LS r j=m.af:=by unfold LS;rw [v];rfl
 have e3:valOf r j=m.val:=by unfold valOf;rw [v];rfl
 rw [e1,e2,e3] at hK;wide_open with [o];refine Of F o u v rfl ?_;wide_open with [o];refine Of M o u v rfl ?_;wide_open with [o];exact Of I o u v rfl ⟨rfl,hK⟩;have ek:E.ak=n.at_.map λj=>[Me r j,LS r j]:=L.k;have ev:E.av=n.at_.map λj=>valOf r j:=L.v;have ep:pairsOf (n.at_.map λj=>oj [Me r j,LS r j] (valOf r j))=some (E.ak,te E.av):=by rw [<- xE E.ak E.av (by rw [ek,ev,FB,FB]),ek,ev,yg,List.map_map];rfl
 have el:E.ak.length<=gz:=by rw [ek,FB];exact bg (by exact be (by assumption) (by decide))
 have ez:=L.z;wide_open with [ep,L.d,List.length_map,o];refine ⟨we ha,d6 as o u hn rfl (by exact be (by assumption) (by decide)) ?_⟩;have tr:∀L:List (List Str×Str),(∀p:List Str×Str,p∈L->p∈L)=True:=λL=>eq_true λ_ h=>h;wide_open with [tr,B,mn,V,kt,A,iQ,el,x0,List.length_map,ez,bg (show n.ch.length<1000 by exact Nat.le_trans (by assumption) (by decide)),o];refine ap ⟨w,r,e,n,l,rfl,o,u,hc,O,L.p,L.o,hn,ha,L.r,rfl,?_⟩;have ax:(pu n.ch).all isInt=true:=LG.mpr λx P=>by refine ac (λY Y=>?_) (e8.mp P);rintro rfl;rfl
 wide_open with [B,V,kt,A,List.length_map,ez,ax,x0,bg (show n.ch.length<1000 by exact Nat.le_trans (by assumption) (by decide)),o];refine ⟨λk N C'=>C'=gh w/\∃a b c d f,N=[some (.af .tree),some (.int (e:Nat)),some (.af (.el i)),some (.bb E.ak (te E.av)),a,some (.lst (pu n.ch)),b,c,d,f],⟨rfl,_,_,_,_,_,rfl⟩,?_,?_⟩;intro k x U C' P;refine aa ?_;rintro rfl;refine rb λa b c d f=>?_;rintro rfl;rw [GG] at P;obtain ⟨⟨xa,xc⟩,hz,rfl⟩:=YI.mp P;refine aa (λz1 z2=>?_) (List.getElem?_zip_eq_some.mp hz);refine ac (λj hj=>?_) (eN z1);rintro rfl;rw [GG] at z2;refine ac (λch J=>?_) (YI.mp z2);rintro rfl;refine nw (λm v W R=>?_) (ab k j ch hj J);wide_open with [o,B,A];refine Of ak o u v rfl ?_;wide_open with [o];refine Of I o u v rfl ?_;have fin:∀(N:ee) v0 v1 Z v3 v4,N=[some (.af .tree),some (.int (e:Nat)),some (.af (.el i)),some (.bb E.ak (te E.av)),v0,some (.lst (pu n.ch)),v1,Z,v3,v4]->∃a b c d f,N=[some (.af .tree),some (.int (e:Nat)),some (.af (.el i)),some (.bb E.ak (te E.av)),a,some (.lst (pu n.ch)),b,c,d,f]:=λN v0 v1 Z v3 v4 h=>⟨v0,v1,Z,v3,v4,h⟩;induction ch using Ch.casesOn with|txt s=>revert R;refine aa λz k2=>?_;simp only [ze];wide_open with [z,k2];exact ⟨_,_,_,_,_,rfl⟩|el e'=>refine s3 λ_ kk=>?_;revert R;refine im λz=>nw λE' H u1 u2 ai=>?_;refine kk ?_;simp only [ze];wide_open with [z,H,o];refine Of F o u v rfl ?_;wide_open with [o];refine Of M o u v rfl ?_;wide_open with [H,Nb,u1,u2,o];refine T ⟨w,r,j,e',rfl,o,u,hc,O,ai,rfl,?_⟩;wide_open with [];exact ⟨_,_,_,_,_,rfl⟩|tup t=>simp only [ze];rcases R with t|t;revert t;refine dp λx=>?_;rintro rfl z k2 k3 k4;(have d1:(("comment" :Str)="instruction")=False:=by decide);(have d2:((" " :Str)≠"")=True:=by decide);(have d3:("" :Str).length=0:=by decide);have d4:m.val.length<=gz:=be W (by decide);wide_open with [z,show te [("comment" :Str),x]=[.str "comment",.str x] from rfl,List.length_cons,List.length_nil,jS,gn,Option.bind_some,List.getElem?_cons_zero,List.getElem?_cons_succ,k2,k3,k4,d1,d2,d3,d4,bz,Nat.mul_zero,Nat.add_zero];exact ⟨_,_,_,_,_,rfl⟩;revert t;refine aa ?_;rintro rfl z;(have d1:(("instruction" :Str)="comment")=False:=by decide);(have ar:seqIndex? 0 3=some 0:=by decide);wide_open with [z,show te [("instruction" :Str),m.name,m.val]=[.str "instruction",.str m.name,.str m.val] from rfl,List.length_cons,List.length_nil,ar,Option.bind_some,List.getElem?_cons_zero,List.getElem?_cons_succ,d1,bz,o];refine Of av o u v rfl ?_;wide_open with [List.length_cons,List.length_nil,List.drop_succ_cons,List.drop_zero,bz];exact ⟨by decide,_,_,_,_,_,rfl⟩
 intro U C';refine aa ?_;rintro rfl;refine rb λa b c d f=>?_;rintro rfl;refine ⟨A,?_⟩;wide_open with [];exact .inl q
theorem Tg {a:List Str} (h:re k a b=some w):k∈a:=by induction a generalizing b with|nil=>cases h|cons y d c=>induction b using List.casesOn with|nil=>cases h|cons z e=>by_cases r:y=k;exact r▸wS ..;exact FM _ (c ((ZB r).symm.trans h))
theorem BH {a b:List Str} (h:k∉a):re k a b=none:=by cases e:re k a b with|none=>rfl|some w=>exact absurd (Tg e) h
theorem G9 k c v (d a:List Str) (h:d.length=a.length):re k (pb c v d a).1 (pb c v d a).2=if c=k then some v else re k d a:=by induction d generalizing a with|nil=>rfl|cons x l g=>induction a using List.casesOn with|nil=>cases h|cons u j=>by_cases e:x=c;subst e;rw [fb rfl];by_cases q:x=k;rw [bn q];exact co q;rw [al q];exact (ZB q).trans (ZB q).symm;rw [dv e];by_cases q:x=k;rw [al λz=>e (q.trans z.symm)];exact (co q).trans (co q).symm;exact (ZB q).trans ((g j (fW h)).trans (l9 (ite (c=k) (some v)) (ZB q).symm))
theorem Qb k d (c a:List Str) (h:c.length=a.length) (l:c.Nodup):re k (DD d c a).1 (DD d c a).2=if d=k then none else re k c a:=by induction c generalizing a with|nil=>exact (ite_self _).symm|cons x o m=>induction a using List.casesOn with|nil=>cases h|cons u n=>refine aa (λg j=>?_) (cO.mp l);by_cases e:x=d;subst e;rw [lL rfl];by_cases q:x=k;rw [bn q];exact BH (q▸g);rw [al q];exact (ZB q).symm;rw [ng e];by_cases q:x=k;rw [al λz=>e (q.trans z.symm)];exact (co q).trans (co q).symm;exact (ZB q).trans ((m n (fW h) j).trans (l9 (ite (d=k) none) (ZB q).symm))
theorem Uo k v {c:List Str} (h:c.length=d.length) (g:c.Nodup):(pb k v c d).1.Nodup/\∀x,x∈(pb k v c d).1->x=k\/x∈c:=by induction c generalizing d with|nil=>exact ⟨cO.mpr ⟨List.not_mem_nil,e9⟩,λx m=> .inl (wb.mp m)⟩|cons y r o=>induction d using List.casesOn with|nil=>cases h|cons u t=>refine aa (λl n=>?_) (cO.mp g);by_cases e:y=k;rw [fb e];exact ⟨g,λx m=> .inr m⟩;rw [dv e];refine aa (λp j=>?_) (o (fW h) n);refine ⟨cO.mpr ⟨λq=>(j y q).elim e l,p⟩,λx m=>?_⟩;refine to (LB.mp m) (λa=>?_) λa=>?_;exact .inr (a▸wS ..);exact (j x a).imp id (FM _)
theorem V7 k {a:List Str} (h:a.length=c.length):(DD k a c).1.Sublist a:=by induction a generalizing c with|nil=>exact .refl _|cons y g d=>induction c using List.casesOn with|nil=>cases h|cons u j=>by_cases e:y=k;rw [lL e];exact List.sublist_cons_self _ _;rw [ng e];exact (d (fW h)).cons_cons _
abbrev Sc:=Str->Option Str
noncomputable def Mc (a:List Nd) (f:Sc) (j:Nat):Sc:=match a[j]? with|none=>f|some m=>λk=>if m.name=k then (if m.val="" then none else some m.val) else f k
noncomputable def fJ (c:List Nd) (f:Sc) (a:Nat):Sc:=(qr c a).foldl (Mc c) f
noncomputable def sc (a:List Nd) (l:List Nat):Sc:=l.foldl (fJ a) λk=>if ("xml" :Str)=k then some WI else none
def iN (d:SD):Prop:=d.1.length=d.2.length/\d.1.Nodup
theorem A0 {a:List Nd} {d:SD} (h:iN d) (e:∀k,re k d.1 d.2=f k) j:iN (Lo a d j)/\∀k,re k (Lo a d j).1 (Lo a d j).2=Mc a f j k:=by unfold Lo Mc;cases c:a[j]? with|none=>exact ⟨h,e⟩|some m=>dsimp only;by_cases v:m.val="";rw [al (λq=>q v)];by_cases w:m.name∈d.1;rw [bn w];refine ⟨⟨(sv _ _ _ h.1).2,(V7 _ h.1).nodup h.2⟩,λk=>?_⟩;rw [Qb _ _ _ _ h.1 h.2,e k];by_cases q:m.name=k<;>simp [q,v];rw [al w];refine ⟨h,λk=>?_⟩;by_cases q:m.name=k;subst q;rw [bn rfl,bn v];exact BH w;rw [al q];exact e k;rw [bn v];refine ⟨⟨(Aw _ _ _ _ h.1).2,(Uo _ _ h.1 h.2).1⟩,λk=>?_⟩;rw [G9 _ _ _ _ _ h.1,e k];by_cases q:m.name=k<;>simp [q,v]
theorem sN {a:List Nd}:∀{l:List Nat} {d:SD} {f:Sc},iN d->(∀k,re k d.1 d.2=f k)->iN (l.foldl (Lo a) d)/\∀k,re k (l.foldl (Lo a) d).1 (l.foldl (Lo a) d).2=l.foldl (Mc a) f k| [],_,_,h,e=>⟨h,e⟩|j::r,d,f,h,e=>sN (l:=r) (A0 h e j).1 (A0 h e j).2
theorem D9 {a:List Nd}:∀{l:List Nat} {d:SD} {f:Sc},iN d->(∀k,re k d.1 d.2=f k)->iN (l.foldl (cL a) d)/\∀k,re k (l.foldl (cL a) d).1 (l.foldl (cL a) d).2=l.foldl (fJ a) f k| [],_,_,h,e=>⟨h,e⟩|j::r,d,f,h,e=>D9 (l:=r) (sN (l:=qr a j) h e).1 (sN (l:=qr a j) h e).2
theorem nU (a:List Nd) (l:List Nat):iN (xz a l)/\∀k,re k (xz a l).1 (xz a l).2=sc a l k:=D9 ⟨rfl,by decide⟩ λ_=>rfl
theorem jx c (l:List Nat) a:sc c (l++[a])=fJ c (sc c l) a:=by simp [sc]
structure lD (nd:List Nd) (a:Nat):Prop where
 t:∀j∈qr nd a,∃m,nd[j]? =some m
 u:((qr nd a).map (KF nd)).Nodup
theorem zU:∀{l:List Nat} {f:Sc},(∀j∈l,∃m,a[j]? =some m)->k∉l.map (KF a)->l.foldl (Mc a) f k=f k| [],_,_,_=>rfl|j::r,f,d,h=>by refine am (λm c=>?_) (d j (wS ..));have g:m.name≠k:=λe=>h (by rw [cN,bS c,e];exact wS ..);have n:k∉r.map (KF a):=λe=>h (by rw [cN];exact FM _ e);rw [eA,zU (λj o=>d j (FM _ o)) n];unfold Mc;rw [c];dsimp only;rw [al g]
theorem C1:∀{l:List Nat} {f:Sc},(∀j∈l,∃m,a[j]? =some m)->(l.map (KF a)).Nodup->l.foldl (Mc a) f k=(match (l.find? λj=>a[j]?.any λm=>decide (m.name=k)).bind (λj=>a[j]?.map (·.val)) with|some v=>if v="" then none else some v|none=>f k)| [],_,_,_=>rfl|j::r,f,n,g=>by refine am (λm d=>?_) (n j (wS ..));rw [cN,bS d] at g;refine aa (λq p=>?_) (cO.mp g);have c:∀j∈r,∃m,a[j]? =some m:=λj o=>n j (FM _ o);rw [eA,List.find?_cons];by_cases e:m.name=k;subst e;rw [zU c q];unfold Mc;simp [d];rw [C1 c p];(have:(a[j]?.any λm=>decide (m.name=k))=false:=by simp [d,e]);rw [this];dsimp only;(have:Mc a f j k=f k:=by unfold Mc;rw [d];dsimp only;rw [al e]);rw [this]
theorem yO (w:lD c a) (f:Sc) k:fJ c f a k=match WA c k a with|some v=>if v="" then none else some v|none=>f k:=by unfold fJ WA;exact C1 w.t w.u
theorem U7 {k:Str} (m:k≠"xml"):∀{l:List Nat},(∀a∈l,lD g a)->(l.reverse.findSome? (WA g k)).getD "" =(sc g l k).getD "" :=by intro l;induction h:l.length generalizing l with|zero=>intro _;rw [List.length_eq_zero_iff.mp h];simp [sc,Ne.symm m]|succ n o=>intro j;(have c:l≠[]:=λe=>by rw [e] at h;cases h);obtain ⟨r,a,rfl⟩:∃r a,l=r++[a]:=⟨l.dropLast,l.getLast c,(List.dropLast_concat_getLast c).symm⟩;have d:=o (l:=r) (by simpa using h) λb p=>j b (List.mem_append_left _ p);rw [List.reverse_append,jx,yO (j a (by simp))];rw [List.reverse_singleton,List.singleton_append,List.findSome?_cons];cases e:WA g k a with|none=>exact d|some v=>dsimp only;by_cases q:v="";simp [q];simp [q]
theorem A5 {k:Str} (m:k≠"xml") (e:qr c r=[]) (o:∀a∈l,lD c a):bu c (r::l) k=(sc c (r::l) k).getD "" :=by
 unfold bu;rw [al m];have n:lD c r:=⟨λj g=>(by rw [e] at g;exact nomatch g),by rw [e];exact e9⟩;rw [<- U7 m (l:=r::l) λa d=>by rcases LB.mp d with rfl|d;exact n;exact o a d];have:WA c k r=none:=by unfold WA;rw [e];rfl
 simp [List.findSome?_append,this]
theorem BZ (h:∀a∈l,qr c a=qr e a/\∀j∈qr e a,c[j]? =e[j]?):xz c l=xz e l:=by
 have one:∀(g:List Nat) (d:SD),(∀j∈g,c[j]? =e[j]?)->g.foldl (Lo c) d=g.foldl (Lo e) d:=by intro g;induction g with|nil=>intros;rfl|cons j r k=>intro d m;rw [eA,eA];(have:Lo c d j=Lo e d j:=by unfold Lo;rw [m j (wS ..)]);rw [this];exact k _ λj h=>m j (FM _ h)
 unfold xz;generalize ((["xml"],[WI]):SD)=d;induction l generalizing d with|nil=>rfl|cons a r k=>rw [eA,eA];(have:cL c d a=cL e d a:=by unfold cL;rw [(h a (wS ..)).1];exact one _ _ (h a (wS ..)).2);rw [this];exact k (λa n=>h a (FM _ n)) _
set_option tactic.hygienic true in theorem jd (p:CS q o l) (h:∀a∈l,∀n,q[a]? =some n->∃d,c[a]? =some d/\d.aC=n.aC):CS c o l:=by induction p with|nil=>exact .nil|cons e r k=>rename_i p n l;refine ac (λd e1 j=>?_) (h p (by simp) n e);have:=k λa g n m=>h a (List.mem_append_left _ g) n m;rw [<- j] at this;exact .cons e1 this
theorem Hf (h:CS a (some p) l):l.getLast? =some p:=by cases h;simp
theorem vJ (h:CS k o l) (d:CS k o a):l=a:=by induction h generalizing a with|nil=>cases d;rfl|cons e r j=>cases d with|cons c g=>rw [e] at c;obtain rfl:=an c;rw [j g]
noncomputable def PD:List Str:=[("" :Str),"p","q","r"]++(List.range 24).map Fa
noncomputable def LD:List Str:=["a","b","c","e","n"]
noncomputable def mk (p l:Str):Str:=if p="" then l else p++":" ++l
noncomputable def oV (s p l:Str):Bool:=match Builtin.Str.lastOccurrence s ":" 0 s.length with|some i=>decide (Builtin.Str.strSub s 0 i=p)&&decide (Builtin.Str.strSub s (i+(":" :Str).length) s.length=l)|none=>decide (p="")&&decide (l=s)
theorem Cw (h:oV s p l=true):∃c,gX s ":" = .tup [.str p,.str c,.str l]:=by unfold oV at h;unfold gX;cases a:Builtin.Str.lastOccurrence s ":" 0 s.length with|some i=>rw [a] at h;obtain rfl:=ue (aL h);obtain rfl:=ue (aR h);exact ⟨":",rfl⟩|none=>rw [a] at h;obtain rfl:=ue (aL h);obtain rfl:=ue (aR h);exact ⟨Str.empty,rfl⟩
noncomputable def Bi (p l:Str):Bool:=fe (mk p l)&&decide (eV (mk p l)=some (p,l))&&oV (mk p l) p l&&decide ((mk p l).length<=100)&&decide (p.length<=10)&&decide (l.length<=10)
theorem RU:(PD.all λp=>LD.all λl=>Bi p l)=true:=by decide+kernel
structure BX (p l:Str):Prop where
 n:fe (mk p l)=true
 s:eV (mk p l)=some (p,l)
 r:∃c,gX (mk p l) ":" = .tup [.str p,.str c,.str l]
 z:(mk p l).length<=100
 zp:p.length<=10
 zl:l.length<=10
theorem iU (j:p∈PD) (g:l∈LD):BX p l:=by have h:=LG.mp (LG.mp RU p j) l g;unfold Bi at h;simp only [Bool.and_eq_true,decide_eq_true_eq] at h;revert h;refine aa (aa (aa (aa (aa λa b c d e f=>?_))));exact ⟨a,b,Cw c,d,e,f⟩
theorem KQ:∀a b:Fin 50,Fa a.1=Fa b.1->a=b:=by decide+kernel
theorem hG:∀a:Fin 50,Fa a.1≠"" /\Fa a.1≠"xml" /\Fa a.1≠"p" /\Fa a.1≠"q" /\Fa a.1≠"r" :=by decide+kernel
theorem X0:("xml" :Str)∉PD:=by decide+kernel
structure CR (B C:Nat) (nd:List Nd):Prop where
 ch:∀(i:Nat) (n:Nd),nd[i]? =some n->∀j∈n.ch,∃m,nd[j]? =some m/\m.aC=some i/\m.kind≠"attribute" /\m.kind≠"namespace"
 at_:∀(i:Nat) (n:Nd),nd[i]? =some n->∀j∈n.at_,∃m,nd[j]? =some m/\m.aC=some i/\m.kind="attribute"
 ns:∀(i:Nat) (n:Nd),nd[i]? =some n->∀j∈n.ns,∃m,nd[j]? =some m/\m.aC=some i/\m.kind="namespace" /\m.name∈PD/\(m.val="" ->m.name="")/\∀k:Nat,B<=k->k<50->m.name≠Fa k
 nu:∀(i:Nat) (n:Nd),nd[i]? =some n->(n.ns.map (KF nd)).Nodup
 aC:∀(i:Nat) (n:Nd) (p:Nat),nd[i]? =some n->n.aC=some p->p<i
 zc:∀(i:Nat) (n:Nd),nd[i]? =some n->n.ch.length<=C
 za:∀(i:Nat) (n:Nd),nd[i]? =some n->n.at_.length<=B+3
 zn:∀(i:Nat) (n:Nd),nd[i]? =some n->n.ns.length<=B+3
theorem xL (h:c[a]? =some n):qr c a=n.ns:=by unfold qr;rw [h];rfl
theorem se (h:c[a]? =none):qr c a=[]:=by unfold qr;rw [h];rfl
theorem CR.tR (W:CR B C nd) a:lD nd a:=by cases h:nd[a]? with|none=>exact ⟨λj hj=>(by rw [se h] at hj;exact nomatch hj),by rw [se h];exact e9⟩|some n=>exact ⟨λj hj=>(by rw [xL h] at hj;refine ac (λm hm Y=>?_) (W.ns a n h j hj);exact ⟨m,hm⟩),by rw [xL h];exact W.nu a n h⟩
theorem CR.mono (W:CR B C nd) (h:B<=E) (y:C<=A):CR E A nd:=⟨W.ch,W.at_,λi n e j hj=>let ⟨m,a,b,c,d,f,q⟩:=W.ns i n e j hj;⟨m,a,b,c,d,f,λk hk=>q k (be h hk)⟩,W.nu,W.aC,λi n e=>be (W.zc i n e) y,λi n e=>be (W.za i n e) (ku h),λi n e=>be (W.zn i n e) (ku h)⟩
def jv (a:List Nd) (f:Sc) (e j:Nat):Prop:=∃m p,a[j]? =some m/\((e≠5/\p∈PD/\m.af∈LD/\m.name=mk p m.af)\/(e=5/\p="" /\m.name="" /\m.af=""))/\(p≠"" ->f p=some m.aq/\m.aq≠"")/\(p="" ->m.aq=if j=e then (f "").getD "" else "")
theorem K8:oV "" "" "" =true:=by decide+kernel
theorem jv.right {nd:List Nd} {l:List Nat} (h:jv nd (sc nd l) e j):ul nd (xz nd l) e j:=by
 revert h;refine Cc λm p hm hn A B=>?_;have y:=(nU nd l).2;have E:m.name.length<=1000/\∃c,gX m.name ":" = .tup [.str p,.str c,.str m.af]:=by rcases hn with t|t;revert t;refine pt λY hp hl hn=>?_;have:=iU hp hl;rw [hn];exact ⟨be this.z (by decide),this.r⟩;revert t;refine pt λY=>?_;rintro rfl hn hl;rw [hn,hl];exact ⟨by decide,Cw K8⟩
 revert E;refine aa λhz=>am λc hc=>?_;refine ⟨m,p,c,hm,hz,hc,λq=>?_,λq=>?_⟩;rw [y];exact (A q).1;rw [y];exact B q
structure Sm (nd:List Nd) (ag:List El) (g:Nat->Option Nat) (e i:Nat) (n:Nd) (E:El) (l:List Nat) (base:List Ch):Prop where
 hn:nd[e]? =some n
 hE:ag[i]? =some E
 kd:n.kind=if e=5 then "root" else "element"
 p:CS nd (some e) l
 lz:l.length<=26
 l5:∀a∈l,5<=a/\a<=e
 r:∀j∈e::n.at_,jv nd (sc nd l) e j
 k:E.ak=n.at_.map λj=>[Me nd j,LS nd j]
 v:E.av=n.at_.map λj=>valOf nd j
 d:E.ak.Nodup
 z:base.length=n.ch.length
 c:∀(k a:Nat) (c:Ch),n.ch[k]? =some a->base[k]? =some c->gm (λa c=>g a=some c) nd ag a c
def fi (m a:Nd):Prop:=a.kind=m.kind/\a.name=m.name/\a.aq=m.aq/\a.af=m.af/\a.val=m.val
def fy (ag a:List El):Prop:=∀(c:Nat) (E:El),ag[c]? =some E->∃d,a[c]? =some d/\d.aq=E.aq/\d.af=E.af
structure Kept (nd BS:List Nd) (l:List Nat) (n n':Nd) (e:Nat):Prop where
 s:∀a∈l,qr BS a=qr nd a/\∀j∈qr nd a,BS[j]? =nd[j]?
 pr:∀a∈l,∀m,nd[a]? =some m->∃m',BS[a]? =some m'/\m'.aC=m.aC
 e:BS[e]? =some n'
 lk:fi n n'
 a:n'.at_=n.at_
 at_:∀j∈n.at_,BS[j]? =nd[j]?
 c:∀j∈n.ch,∀m,nd[j]? =some m->∃m',BS[j]? =some m'/\fi m m'
theorem YG {P:Nat->Nat->Prop} (M:∀m,r[a]? =some m->∃j,k[a]? =some j/\fi m j) (w:fy ag e) (N:∀a c,P a c->O a c) (h:gm P r ag a c):gm O k e a c:=by revert h;refine nw λm z F h=>?_;refine dp (λj o g Q C=>aa λA d=>?_) (M m z);refine ⟨j,o,by rw [d];exact F,?_⟩;induction c using Ch.casesOn with|txt s=>exact ⟨by rw [g];exact h.1,by rw [d];exact h.2⟩|el i=>refine s3 λ_ q=>?_;revert h;refine im λv=>nw λE y u L B=>?_;refine nw (λJ l b1 b2=>?_) (w i E y);refine q ?_;exact ⟨by rw [g];exact v,⟨J,l,by rw [C,b1];exact u,by rw [A,b2];exact L⟩,N _ _ B⟩|tup t=>rcases h with t|t;revert t;refine dp λx e1 n I H p=>?_;exact .inl ⟨x,e1,by rw [g];exact n,by rw [d];exact I,by rw [d];exact H,by rw [d];exact p⟩;revert t;refine aa λe1 n=>?_;exact .inr ⟨by rw [Q,d];exact e1,by rw [g];exact n⟩
theorem pU (h:∀a∈l,qr c a=qr d a/\∀j∈qr d a,c[j]? =d[j]?):sc c l=sc d l:=by funext k;rw [<-(nU c l).2 k,<-(nU d l).2 k,BZ h]
theorem pQ {nd:List Nd} (n:∀m,nd[j]? =some m->∃a,c[j]? =some a/\fi m a) (h:jv nd f e j):jv c f e j:=by revert h;refine Cc λm p o t k l=>?_;refine dp (λa d v r g=>aa λq u=>?_) (n m o);exact ⟨a,p,d,by rw [r,q];exact t,by rw [g];exact k,by rw [g];exact l⟩
theorem eK (m:Nd):fi m m:=⟨rfl,rfl,rfl,rfl,rfl⟩
theorem Sm.keep {nd:List Nd} (T:Sm nd ag g e i n E l base) (K:Kept nd B l n F e) (hE:A[i]? =some H) (L:H.ak=E.ak) (R:H.av=E.av) (he:fy ag A) (S:∀a c,g a=some c->I a=some c) (hz:y.length=F.ch.length) (hc:∀(k a:Nat) (c:Ch),F.ch[k]? =some a->y[k]? =some c->(n.ch[k]? =some a/\base[k]? =some c)\/gm (λa c=>I a=some c) B A a c):Sm B A I e i F H l y where hn:=K.e;hE:=hE;kd:=(by rw [K.lk.1];exact T.kd);p:=jd T.p K.pr;lz:=T.lz;l5:=T.l5;r:=λj hj=>(by rw [K.a] at hj;rw [pU K.s];refine pQ (λm hm=>?_) (T.r j hj);rcases LB.mp hj with rfl|hj;rw [T.hn] at hm;obtain rfl:=an hm;exact ⟨F,K.e,K.lk⟩;exact ⟨m,by rw [K.at_ j hj];exact hm,eK m⟩);k:=(by rw [L,T.k,K.a];refine bK λj hj=>?_;unfold Me LS;rw [K.at_ j hj]);v:=(by rw [R,T.v,K.a];refine bK λj hj=>?_;unfold valOf;rw [K.at_ j hj]);d:=(by rw [L];exact T.d);z:=hz;c:=λk a c N P=>by rcases hc k a c N P with t|h;revert t;refine aa λJ Q=>?_;exact YG (K.c a (Lm J)) he S (T.c k a c J Q);exact h
noncomputable def aN:List Nd:=[⟨"root","","","","",none,[1],[],[]⟩,⟨"element","r:e","w","e","",some 0,[4],[3],[2]⟩,⟨"namespace","r","","r","w",some 1,[],[],[]⟩,⟨"attribute","n","","n","5",some 1,[],[],[]⟩,⟨"text","","","","deep",some 1,[],[],[]⟩]
noncomputable def KB:El:=⟨"w","e",[["","n"]],["5"],[.txt "deep"]⟩
noncomputable def Sk (p:List Str):List Ch:=if p=[] then [] else [.txt (Txt.join "" p)]
structure Inv (B N C:Nat) (S:St) (ag:List El) (rows:List Nat) (g:Nat->Option Nat) (t i:Nat):Prop where
 W:CR B C S.nd
 aN:∀j,j<5->S.nd[j]? =aN[j]?
 sz:S.nd.length<=N
 zN:N<=400
 zC:C<=400
 s6:6<=S.nd.length
 bB:B<=20
 root:S.root=5
 o5:∃r,S.au=5::r
 n5:qr S.nd 5=[]
 ol:S.au.length<=B+1
 top:S.au.getLast? =some t
 aP:rows.getLast? =some i
 path:CS S.nd (some t) S.au
 rl:rows.length=S.au.length
 hl:S.has.length=S.au.length
 gr:∀(k a i:Nat),S.au[k]? =some a->rows[k]? =some i->g a=some i
 pz:S.az.length<=B
 ps:∀s∈S.az,s.length<=2/\s≠""
 pj:(Txt.join "" S.az).length<=2*B
 tr:∀e c,g e=some c->∃n E l base,Sm S.nd ag g e c n E l base/\if e=t then E.ch=base++Sk S.az else E.ch=base
 has:∀(k c:Nat) (b:Bool) (E:El),S.has[k]? =some b->rows[k]? =some c->ag[c]? =some E->(b=true↔E.ch≠[])
 low:∀(k c:Nat) (E:El),k+1<rows.length->rows[k]? =some c->ag[c]? =some E->∃x,E.ch.getLast? =some (.el x)
 ord:S.has.getLast? =some false->∀e c,g e=some c->e<=t
 inj:∀e e' c,g e=some c->g e'=some c->c≠0->e=e'
 r0:∀c∈rows,c≠0
 e0:ag[0]? =some KB
def So (S:St) (ag:List El) (i:Nat):Prop:=S.az=[]->∀E s,ag[i]? =some E->E.ch.getLast? ≠some (.txt s)
structure bw (nd BS:List Nd) (t:Nat) (nt:Nd) (f:Nat):Prop where
 ht:nd[t]? =some nt
 o:∀(j:Nat) (n:Nd),j≠t->nd[j]? =some n->BS[j]? =some n
 t':BS[t]? =some {nt with ch:=nt.ch++[f]}
theorem lg (d:c[t]? =some e) new:bw c (tw c t new) t e c.length:=by have a:=s0 d;refine ⟨d,λj n g h=>?_,?_⟩;rw [dg a,al (u4 (s0 h)),al g];exact h;rw [dg a,al (u4 a),bn rfl,d];rfl
noncomputable def cy (t f e:Nat) (n:Nd):Nd:=if e=t then {n with ch:=n.ch++[f]} else n
theorem bw.get {nd:List Nd} (G:bw nd y t A f) (h:nd[j]? =some m):y[j]? =some (cy t f j m):=by unfold cy;by_cases e:j=t;subst e;rw [bn rfl];rw [G.ht] at h;obtain rfl:=an h;exact G.t';rw [al e];exact G.o j m e h
theorem TT (t f e:Nat) n:fi n (cy t f e n)/\(cy t f e n).aC=n.aC/\(cy t f e n).at_=n.at_/\(cy t f e n).ns=n.ns:=by unfold cy;split<;>exact ⟨⟨rfl,rfl,rfl,rfl,rfl⟩,rfl,rfl,rfl⟩
theorem bw.kept {B:Nat} (G:bw nd A t H f) (W:CR B C nd) (I:H.kind≠"attribute") (J:H.kind≠"namespace") (T:Sm nd ag g e i n E l base):Kept nd A l n (cy t f e n) e where s:=λa ha=>(by refine am (λm hm=>?_) (de T.p a ha);rw [xL hm,xL (G.get hm),(TT ..).2.2.2];refine ⟨rfl,λj hj=>?_⟩;refine At (λF y Y hk Y=>?_) (W.ns a m hm j hj);(have:j≠t:=λq=>by subst q;rw [G.ht] at y;obtain rfl:=an y;exact J hk);rw [y];exact G.o j F this y);pr:=λa ha m hm=>⟨_,G.get hm,(TT ..).2.1⟩;e:=G.get T.hn;lk:=(TT ..).1;a:=(TT ..).2.2.1;at_:=λj hj=>(by refine nw (λF y Y hk=>?_) (W.at_ e n T.hn j hj);(have:j≠t:=λq=>by subst q;rw [G.ht] at y;obtain rfl:=an y;exact I hk);rw [y];exact G.o j F this y);c:=λj hj m hm=>⟨_,G.get hm,(TT ..).1⟩
theorem Bn ag:fy ag ag:=λc E h=>⟨E,h,rfl,rfl⟩
theorem Sm.vZ {B:Nat} (G:bw nd y t F f) (W:CR B C nd) (Q:F.kind≠"attribute") (R:F.kind≠"namespace") (T:Sm nd ag g e i n E l base) (h:e≠t) (hE:j[i]? =some A) (P:A.ak=E.ak) (L:A.av=E.av) (he:fy ag j) (N:∀a c,g a=some c->H a=some c):Sm y j H e i n A l base:=by have K:=G.kept W Q R T;unfold cy at K;rw [al h] at K;exact T.keep K hE P L he N T.z λk a c I J=> .inl ⟨I,J⟩
theorem Sm.ro {B:Nat} (G:bw nd F t J f) (W:CR B C nd) (R:J.kind≠"attribute") (S:J.kind≠"namespace") (T:Sm nd ag g t i n E l base) (hE:j[i]? =some H) (Q:H.ak=E.ak) (L:H.av=E.av) (he:fy ag j) (P:∀a c,g a=some c->I a=some c) (N:gm (λa c=>I a=some c) F j f x):Sm F j I t i {n with ch:=n.ch++[f]} H l (base++[x]):=by have K:=G.kept W R S T;unfold cy at K;rw [bn rfl] at K;refine T.keep K hE Q L he P (by simp [T.z]) λk a c A y=>?_;rw [cB] at A y;rw [T.z] at y;by_cases q:k=n.ch.length;rw [bn q] at A y;obtain rfl:=an A;obtain rfl:=an y;exact .inr N;rw [al q] at A y;exact .inl ⟨A,y⟩
structure f7 (B C:Nat) (nd:List Nd) (i:Nat) (n:Nd):Prop where
 ch:∀j∈n.ch,∃m,nd[j]? =some m/\m.aC=some i/\m.kind≠"attribute" /\m.kind≠"namespace"
 at_:∀j∈n.at_,∃m,nd[j]? =some m/\m.aC=some i/\m.kind="attribute"
 ns:∀j∈n.ns,∃m,nd[j]? =some m/\m.aC=some i/\m.kind="namespace" /\m.name∈PD/\(m.val="" ->m.name="")/\∀k:Nat,B<=k->k<50->m.name≠Fa k
 nu:(n.ns.map (KF nd)).Nodup
 aC:∀p,n.aC=some p->p<i
 zc:n.ch.length<=C
 za:n.at_.length<=B+3
 zn:n.ns.length<=B+3
theorem f7.leaf (E:n.ch=[]) (F:n.at_=[]) (y:n.ns=[]) (hp:n.aC=some p) (A:p<i):f7 B C nd i n where ch:=λj h=>(by rw [E] at h;cases h);at_:=λj h=>(by rw [F] at h;cases h);ns:=λj h=>(by rw [y] at h;cases h);nu:=(by rw [y];exact e9);aC:=λq e=>(by rw [hp] at e;obtain rfl:=an e;exact A);zc:=(by rw [E];exact Pc _);za:=(by rw [F];exact Pc _);zn:=by rw [y];exact Pc _
theorem CR.m8 (h:∀(i:Nat) (n:Nd),nd[i]? =some n->f7 B C nd i n):CR B C nd:=⟨λi n e=>(h i n e).ch,λi n e=>(h i n e).at_,λi n e=>(h i n e).ns,λi n e=>(h i n e).nu,λi n p e=>(h i n e).aC p,λi n e=>(h i n e).zc,λi n e=>(h i n e).za,λi n e=>(h i n e).zn⟩
theorem bw.back (G:bw nd y t B f) (hj:j<nd.length) (h:y[j]? =some A):∃m,nd[j]? =some m/\A=cy t f j m:=by have e:=GS hj;have:=G.get e;rw [h] at this;exact ⟨_,e,an this⟩
theorem HK (h:∀m,g[j]? =some m->∃d,c[j]? =some d/\fi m d) (a:∃m,g[j]? =some m):KF c j=KF g j:=by revert a;refine am λm a=>?_;refine At (λd e Y k Y=>?_) (h m a);rw [bS a,bS e,k]
theorem CR.grow (W:CR B C nd) (G:bw nd y t N f) (J:B<=P) (V:C<=I) (hz:N.ch.length+1<=I) (U:∃m,y[f]? =some m/\m.aC=some t/\m.kind≠"attribute" /\m.kind≠"namespace") (H:∀(j:Nat) (m:Nd),nd.length<=j->y[j]? =some m->f7 P I y j m):CR P I y:=by
 refine .m8 λi R h=>?_;by_cases Q:nd.length<=i;exact H i R Q h;refine ac (λn hn=>?_) (G.back (Nat.lt_of_not_le Q) h);rintro rfl;refine pt (λL e1 e2 e3=>?_) (TT t f i n);have up:∀(j:Nat) (m:Nd),nd[j]? =some m->∃A,y[j]? =some A/\fi m A/\A.aC=m.aC:=λj m hm=>⟨_,G.get hm,(TT ..).1,(TT ..).2.1⟩;refine ⟨λj hj=>?_,λj hj=>?_,λj hj=>?_,?_,λp hp=>?_,?_,?_,?_⟩;have:j∈n.ch\/(i=t/\j=f):=by unfold cy at hj;by_cases q:i=t;rw [bn q] at hj;rcases Pf.mp hj with h|h;exact .inl h;exact .inr ⟨q,wb.mp h⟩;rw [al q] at hj;exact .inl hj
 rcases this with hj|t;refine At (λm hm a b c=>?_) (W.ch i n hn j hj);refine nw (λA E k F=>?_) (up j m hm);exact ⟨A,E,by rw [F];exact a,by rw [k.1];exact b,by rw [k.1];exact c⟩;revert t;refine aa ?_;rintro rfl rfl;exact U;rw [e2] at hj;refine nw (λm hm a b=>?_) (W.at_ i n hn j hj);refine nw (λA E k F=>?_) (up j m hm);exact ⟨A,E,by rw [F];exact a,by rw [k.1];exact b⟩;rw [e3] at hj;refine dp (λm hm a b c=>aa λd q=>?_) (W.ns i n hn j hj);refine nw (λA E k F=>?_) (up j m hm);exact ⟨A,E,by rw [F];exact a,by rw [k.1];exact b,by rw [k.2.1];exact c,by rw [k.2.1,k.2.2.2.2];exact d,by rw [k.2.1];exact λx S=>q x (be J S)⟩;rw [e3];have:n.ns.map (KF y)=n.ns.map (KF nd):=bK λj hj=>by refine ac (λm hm Y=>?_) (W.ns i n hn j hj);exact HK (λm hm=>let ⟨A,a,b,_⟩:=up j m hm;⟨A,a,b⟩) ⟨m,hm⟩
 rw [this];exact W.nu i n hn;rw [e1] at hp;exact W.aC i n p hn hp;unfold cy;by_cases q:i=t;rw [bn q];subst q;rw [G.ht] at hn;obtain rfl:=an hn;show (N.ch++[f]).length<=I;rw [Ll];exact hz;rw [al q];exact be (W.zc i n hn) V;rw [e2];exact be (W.za i n hn) (ku J);rw [e3];exact be (W.zn i n hn) (ku J)
theorem bo {c:Type} {l:List c} {t:c} (h:l.getLast? =some t):∃k,k+1=l.length/\l[k]? =some t:=by refine aa (λa b=>?_) (j1 h);exact ⟨l.length - 1,Ga a,b⟩
theorem Inv.gt (I:Inv B N C S ag rows g t i):g t=some i:=by refine ac (λk y A=>?_) (bo I.top);refine ac (λj E F=>?_) (bo I.aP);have:=I.rl;have e:j=k:=Fg y E this;subst e;exact I.gr j t i A F
theorem Inv.bk (I:Inv B N C S ag rows g t i):∃n E base,Sm S.nd ag g t i n E S.au base/\E.ch=base++Sk S.az:=by refine xw (λn E l base T h=>?_) (I.tr t i I.gt);rw [bn rfl] at h;rw [vJ T.p I.path] at T;exact ⟨n,E,base,T,h⟩
theorem Inv.t5 (I:Inv B N C S ag rows g t i):5<=t:=by refine xy (λn E base T h=>?_) I.bk;exact (T.l5 t (jj I.top)).1
theorem eJ {n:Nd} (h:n.kind=if e=5 then "root" else "element"):fQ n/\n.kind≠"attribute" /\n.kind≠"namespace" :=by rw [h];unfold fQ;rw [h];split;exact ⟨.inl rfl,by decide,by decide⟩;exact ⟨.inr rfl,by decide,by decide⟩
theorem A8:∀{l:List Str},(∀s∈l,s.length<=2)->(l.map (·.length)).sum<=2*l.length| [],_=>lv _|a::r,h=>by have:=A8 (l:=r) λs c=>h s (FM _ c);have:=h a (wS ..);simp only [List.map_cons,List.sum_cons,List.length_cons];exact VL (by assumption) this
theorem Inv.bj (I:Inv B N C S ag rows g t i):∃n,NL S t n:=by refine xy (λn E base T h=>?_) I.bk;have a:=I.ol;have b:=I.hl;have c:=I.bB;have d:=I.pz;have e:=I.sz;have f:=I.zN;have q:=I.zC;have s:=I.s6;refine ac (λk j A=>?_) (bo I.top);refine ⟨n,I.top,BJ a c,LI a b c,DN b j,by exact wn (by assumption) (wn (by assumption) (by decide)),?_,by exact wn (by assumption) (wn (by assumption) (by decide)),T.hn,(eJ T.kd).1,?_⟩;have:=A8 λs y=>(I.ps s y).1;exact KJ c d this;have:=I.W.zc t n T.hn;exact wn (by assumption) (wn (by assumption) (by decide))
theorem Inv.mono (I:Inv B N C S ag rows g t i) (F:N<=y) (H:C<=j) (A:y<=400) (E:j<=400):Inv B y j S ag rows g t i:={I with W:=I.W.mono (lv _) H,sz:=be I.sz F,zN:=A,zC:=E}
theorem tT (G:bw d c t g f) (h:a<d.length):qr c a=qr d a:=by have e:=GS h;rw [xL e,xL (G.get e),(TT ..).2.2.2]
theorem Inv.settle (I:Inv B N C S ag rows g t i) (Q:N+1<=400) (V:C+1<=400):Inv B (N+1) (C+1) (settle S t) ag rows g t i/\(settle S t).az=[]/\(settle S t).au=S.au/\(settle S t).has=S.has:=by
 refine ⟨?_,Cb S t,zI S t,jo S t⟩;unfold Internal.settle;by_cases e:S.az=[];rw [bn e];exact I.mono (s4 _) (s4 _) Q V;rw [al e];refine xy (λZ Et bt F J=>?_) I.bk;refine im (λk0 L Y=>?_) (eJ F.kd);have G:=lg F.hn (on "text" "" "" "" (Txt.join "" S.az) (some t));have hl:=s0 F.hn;have H:(tw S.nd t (on "text" "" "" "" (Txt.join "" S.az) (some t)))[S.nd.length]? =some (on "text" "" "" "" (Txt.join "" S.az) (some t)):=by rw [dg hl,bn rfl]
 have y:=iP S.nd t (on "text" "" "" "" (Txt.join "" S.az) (some t));have t5:=I.t5;have s6:=I.s6;have P:=I.W.grow G (lv _) (s4 C) (Pe (I.W.zc t Z F.hn)) ⟨_,H,rfl,by show ("text" :Str)≠_;decide,by show ("text" :Str)≠_;decide⟩ λj m hj hm=>by (have:j=S.nd.length:=by have:=s0 hm;exact Dx y hj this);subst this;rw [H] at hm;obtain rfl:=an hm;exact .leaf rfl rfl rfl rfl hl
 have hv:(Txt.join "" S.az).length<=1000:=by have:=I.pj;have:=I.bB;exact W8 (by assumption) this
 generalize tw S.nd t (on "text" "" "" "" (Txt.join "" S.az) (some t))=A at G H y P⊢;exact {W:=P,aN:=λj hj=>by rw [G.o j _ (qe t5 hj) (GS (sQ s6 hj)),<- I.aN j hj,GS],sz:=by show A.length<=_;rw [y];exact Pe I.sz,zN:=Q,zC:=V,s6:=by show 6<=A.length;exact Qw s6 y,bB:=I.bB,root:=I.root,o5:=I.o5,n5:=by show qr A 5=[];rw [tT G (by assumption)];exact I.n5,ol:=I.ol,top:=I.top,aP:=I.aP,path:=jd I.path λa ha n hn=>⟨_,G.get hn,(TT ..).2.1⟩,rl:=I.rl,hl:=I.hl,gr:=I.gr,pz:=Pc _,ps:=λs h=>(by cases h),pj:=Pc _,tr:=λR c U=>by by_cases q:R=t;cases q.symm;(have:c=i:=by have:=I.gt;rw [U] at this;exact an this);subst this;refine ⟨_,Et,S.au,bt++[.txt (Txt.join "" S.az)],F.ro (x:= .txt (Txt.join "" S.az)) G I.W L Y F.hE rfl rfl (Bn _) (λ_ _ h=>h) ⟨_,H,hv,rfl,rfl⟩,?_⟩;rw [bn rfl,J];unfold Sk;rw [al e];simp;refine xw (λn E l base T h=>?_) (I.tr R c U);rw [al q] at h;exact ⟨n,E,l,base,T.vZ G I.W L Y q T.hE rfl rfl (Bn _) (λ_ _ h=>h),by rw [al q];exact h⟩,has:=I.has,low:=I.low,ord:=I.ord,inj:=I.inj,r0:=I.r0,e0:=I.e0}
set_option tactic.hygienic true in theorem uK (W:CR B C k) (p:CS k o l):(∀q,o=some q->∀a∈l,a<=q)/\l.Pairwise (· < ·):=by induction p with|nil=>exact ⟨λq h=>(by cases h),List.Pairwise.nil⟩|cons e r g=>rename_i p n l;(have lt:∀a∈l,a<p:=λa c=>by cases d:n.aC with|none=>rw [d] at r;cases r;cases c|some q=>exact wn (g.1 q d a c) (W.aC p n q e d));refine ⟨λq h a c=>?_,?_⟩;obtain rfl:=an h;rcases Pf.mp c with h|h;exact Co (lt a h);rw [wb.mp h];exact lv _;rw [List.pairwise_append];exact ⟨g.2,List.pairwise_singleton _ _,λa c b j=>by rw [wb.mp j];exact lt a c⟩
theorem Inv.mV (I:Inv B N C S ag rows g t i) (h:rows[k]? =some i):k+1=rows.length:=by
 have hk:=(BB.mp h).1;have j:k<S.au.length:=by rw [<- I.rl];exact hk
 have F:=GS j;have P:=I.gr k _ i F h;have L:i≠0:=I.r0 i (Lm h);have e:=I.inj _ _ i P I.gt L;rw [e] at F;refine ac (λA H J=>?_) (bo I.top);have E:=(uK I.W I.path).2;rw [List.pairwise_iff_getElem] at E;have y:A<S.au.length:=by exact fp (by assumption)
 have e1:S.au[k]=t:=(BB.mp F).2;have e2:S.au[A]=t:=(BB.mp J).2;rw [I.rl];rcases Nat.lt_trichotomy k A with q|q|q;have:=E k A j y q;lia;exact NM H q;have:=E A k y j q;lia
theorem SP {l:List c} (h:l[i]? =some b):(l.set i a)[j]? =if i=j then some a else l[j]? :=by rw [List.getElem?_set];split;rw [bn (BB.mp h).1];rfl
theorem zO {l:List d} {y:Nat} (c:l[y]? =some a) (h:l[x]? =some m) (q:x=y):m=a:=an (h.symm.trans (q▸c))
theorem mB {l:List Nd} {x:Nat} {m:Nd} (c:l[y]? =some a) (h:l[x]? =some m) (q:x=y) (d:m.kind=s):a.kind=s:=zO c h q▸d
@[elab_as_elim] theorem eM {l:List g} {y:Nat} {P:Nat->g->Prop} (e:l[y]? =some a) (h:l[x]? =some m) (d:P y a) (c:x≠y->P x m):P x m:=if q:x=y then by subst q;exact zO e h rfl▸d else c q
theorem pS (h:(zw l b)[k]? =some x):(k+1=l.length/\x=b)\/(k+1≠l.length/\l[k]? =some x):=by
 unfold zw at h;have a:k<l.length:=by have:=(BB.mp h).1;simpa using this
 rw [List.getElem?_set] at h;by_cases e:l.length - 1=k;rw [bn e,bn (e▸a)] at h;exact .inl ⟨e▸kP (Nat.zero_lt_of_lt a),(an h).symm⟩;rw [al e] at h;exact .inr ⟨λq=>e (q▸rfl),h⟩
theorem gu l b:(zw l b).length=l.length:=by unfold zw;simp
theorem yE (h:0<l.length):(zw l b).getLast? =some b:=by unfold zw;rw [qI,SZ,List.getElem?_set,bn rfl,bn (VS h)]
theorem Inv.child (I:Inv B N C S ag rows g t i) (hp:S.az=[]) (A:ag[i]? =some P) (G:bw S.nd y t nt S.nd.length) (W':CR B' C' y) (hB:B<=B') (bB:B'<=20) (sz:y.length<=N') (zN:N'<=400) (zC:C'<=400) (ap:S.nd.length<=y.length) (hg:∀a c,g a=some c->g' a=some c) (hx:gm (λa c=>g' a=some c) y (ag.set i {P with ch:=P.ch++[x]}) S.nd.length x) (L:∀e c,g' e=some c->g e=some c\/(S.nd.length<=e/\c=0/\∃n E l base,Sm y (ag.set i {P with ch:=P.ch++[x]}) g' e c n E l base/\E.ch=base)) (ai:∀s,x≠ .txt s):Inv B' N' C' ⟨S.root,y,S.au,zw S.has true,S.pre,[]⟩ (ag.set i {P with ch:=P.ch++[x]}) rows g' t i/\So ⟨S.root,y,S.au,zw S.has true,S.pre,[]⟩ (ag.set i {P with ch:=P.ch++[x]}) i:=by
 refine xy (λn0 R bt Tt ab=>?_) I.bk;have e0:R=P:=by have:=Tt.hE;rw [A] at this;exact (an this).symm
 subst e0;have en:n0=nt:=by have:=Tt.hn;rw [G.ht] at this;exact (an this).symm
 subst en;refine im (λk0 k1 k2=>?_) (eJ Tt.kd);have s6:=I.s6;have t5:=I.t5;have i0:i≠0:=I.r0 i (jj I.aP);have Q:fy ag (ag.set i {R with ch:=R.ch++[x]}):=λc E h=>by rw [SP A];refine eM A h ?_ λq=>?_;exact ⟨_,bn rfl,rfl,rfl⟩;exact ⟨E,by rw [al (u8 q)];exact h,rfl,rfl⟩
 have V:(ag.set i {R with ch:=R.ch++[x]})[i]? =some {R with ch:=R.ch++[x]}:=by rw [SP A,bn rfl]
 have hb:R.ch=bt:=by rw [ab,hp];simp [Sk]
 refine ⟨{W:=W',aN:=λj hj=>by rw [G.o j _ (qe t5 hj) (GS (sQ s6 hj)),<- I.aN j hj,GS],sz:=sz,zN:=zN,zC:=zC,s6:=by show 6<=y.length;exact Op (by assumption) (by assumption),bB:=bB,root:=I.root,o5:=I.o5,n5:=by show qr y 5=[];rw [tT G (by assumption)];exact I.n5,ol:=be I.ol (by exact Pe (by assumption)),top:=I.top,aP:=I.aP,path:=jd I.path λa ha n hn=>⟨_,G.get hn,(TT ..).2.1⟩,rl:=I.rl,hl:=by show (zw S.has true).length=_;rw [gu];exact I.hl,gr:=λk a c H J=>hg _ _ (I.gr k a c H J),pz:=Pc _,ps:=λs h=>(by cases h),pj:=Pc _,tr:=λU c ak=>by rcases L U c ak with h|t;by_cases q:U=t;subst q;(have:c=i:=by have:=I.gt;rw [h] at this;exact an this);cases this.symm;refine ⟨_,_,S.au,bt++[x],Tt.ro G I.W k1 k2 V rfl rfl Q hg hx,?_⟩;rw [bn rfl,hb];simp [Sk];refine xw (λn E l base T Z=>?_) (I.tr U c h);rw [al q] at Z;have hc:i≠c:=λz=>q (I.inj U t c h (by rw [<- z];exact I.gt) (by rw [<- z];exact i0));exact ⟨n,E,l,base,T.vZ G I.W k1 k2 q (by rw [SP A,al hc];exact T.hE) rfl rfl Q hg,by rw [al q];exact Z⟩;revert t;refine im λH J=>xw λn E l base T h=>?_;(have q:U≠t:=by have:=s0 G.ht;exact Ph H this);exact ⟨n,E,l,base,T,by rw [al q];exact h⟩,has:=λk c b E H J F=>by rw [SP A] at F;rcases pS H with t|t;revert t;refine aa λq=>?_;rintro rfl;(have:c=i:=by refine ac (λk2 a1 a2=>?_) (bo I.aP);(have:k=k2:=by have:=I.hl;have:=I.rl;exact TU q a1 (by assumption) this);subst this;rw [J] at a2;exact an a2);rw [bn this.symm] at F;obtain rfl:=an F;simp;revert t;refine aa λq H=>?_;by_cases z:i=c;subst z;have:=I.mV J;have:=I.hl;have:=I.rl;exact (HC q (by assumption) (by assumption) this).elim;rw [al z] at F;exact I.has k c b E H J F,low:=λk c E H J F=>by rw [SP A] at F;by_cases z:i=c;subst z;have:=I.mV J;exact (zW H this).elim;rw [al z] at F;exact I.low k c E H J F,ord:=λh=>(by (have:0<S.has.length:=by refine ac (λk2 a1 a2=>?_) (bo I.top);have:=I.hl;exact Kx a1 this);have Z:(zw S.has true).getLast? =some false:=h;rw [yE this] at Z;exact nomatch Z),inj:=λe U c H J F=>by rcases L e c H with a|t;refine to (L U c J) (λb=>?_) λt=>?_;exact I.inj e U c a b F;revert t;refine im λY b Y=>?_;exact absurd b F;revert t;refine im λY a Y=>?_;exact absurd a F,r0:=I.r0,e0:=by rw [SP A,al i0];exact I.e0},λ_ E s h=>?_⟩;rw [V] at h;obtain rfl:=an h;simp [ai]
set_option tactic.hygienic true in theorem Inv.close (I:Inv B N C S ag rows g t i) (hp:S.az=[]) (J:S.au.length≠1):∃t' i',Inv B N C ⟨S.root,S.nd,S.au.dropLast,S.has.dropLast,S.pre,S.az⟩ ag rows.dropLast g t' i'/\So ⟨S.root,S.nd,S.au.dropLast,S.has.dropLast,S.pre,S.az⟩ ag i':=by have U:=I.rl;have V:=I.hl;have ab:=I.path;have o5:=I.o5;generalize ho:S.au=op at ab o5 U V J;cases ab with|cons hn r=>rename_i n l;(have ld:(l++[t]).dropLast=l:=by simp);(have A:l.length+1=rows.length:=by rw [U];simp);(have Z:S.has.length=l.length+1:=by rw [V];simp);have aW:l≠[]:=λe=>J (by rw [e];rfl);(obtain ⟨t',ai⟩:∃t',n.aC=some t':=by cases e:n.aC with|none=>rw [e] at r;cases r;exact absurd rfl aW|some q=>exact ⟨q,rfl⟩);rw [ai] at r;have y:=Hf r;have F:0<l.length:=List.length_pos_iff.mpr aW;have hk:l.length - 1<rows.length:=Nat.lt_of_lt_of_eq (Nat.lt_succ_of_le (Nat.sub_le ..)) A;have P:=GS hk;(have R:∀{α:Type} (L:List α) (k:Nat) (a:α),L.dropLast[k]? =some a->L[k]? =some a/\k+1<L.length:=λL k a h=>by rw [List.getElem?_dropLast] at h;split at h;exact ⟨h,Nat.add_lt_of_lt_sub (by assumption)⟩;exact nomatch h);(have ak:rows.dropLast.getLast? =some rows[l.length - 1]:=by rw [qI,List.getElem?_dropLast,nN,bn (show rows.length - 1 - 1<rows.length - 1 from A▸Nat.sub_lt F Nat.one_pos),<- P];congr 1;exact A▸rfl);(have H:∀e c,g e=some c->∃n E l base,Sm S.nd ag g e c n E l base/\E.ch=base:=λe c hg=>by refine xw (λn E l base T h=>?_) (I.tr e c hg);refine ⟨n,E,l,base,T,?_⟩;split at h;rw [h,hp];simp [Sk];exact h);(have j:∃E,ag[rows[l.length - 1]]? =some E:=by have hg:=I.gr (l.length - 1) t' rows[l.length - 1] (by rw [ho,fV (Nat.sub_lt F Nat.one_pos)];exact (j1 y).2) P;refine xw (λn E l base T Y=>?_) (H _ _ hg);exact ⟨E,T.hE⟩);revert j;refine am λE' j=>?_;obtain ⟨x,hx⟩:=I.low (l.length - 1) _ E' (wn (fp (kP F)) (Nat.lt_of_lt_of_eq (fS _) A)) P j;refine ⟨t',rows[l.length - 1],{I with o5:= ?_,ol:= ?_,top:= ?_,aP:=ak,path:= ?_,rl:= ?_,hl:= ?_,gr:= ?_,tr:= ?_,has:= ?_,low:= ?_,ord:= ?_,r0:= ?_},λ_ E s h e=>?_⟩;rw [ld];revert o5;refine am λr5 h5=>?_;(induction l using List.casesOn with|nil=>exact absurd rfl aW|cons a b=>rw [List.cons_append] at h5;cases h5;exact ⟨b,rfl⟩);rw [ld];show l.length<=B+1;have:=I.ol;rw [ho] at this;simp at this;exact nA (by assumption);rw [ld];exact y;rw [ld];exact r;rw [ld,nN];show rows.length - 1=l.length;exact A▸rfl;rw [ld];show S.has.dropLast.length=l.length;rw [nN];exact Z▸rfl;rw [ld];intro k a c J Q;have:k<l.length:=(BB.mp J).1;exact I.gr k a c (by rw [ho,fV this];exact J) (R _ _ _ Q).1;intro e c hg;refine xw (λn E l base T h=>?_) (H e c hg);refine ⟨n,E,l,base,T,?_⟩;rw [hp];split;simp [Sk,h];exact h;intro k c b E J Q h3;exact I.has k c b E (R _ _ _ J).1 (R _ _ _ Q).1 h3;intro k c E J Q h3;exact I.low k c E (by rw [nN] at J;exact Op J (Nat.sub_le ..)) (R _ _ _ Q).1 h3;intro h;exfalso;have h':S.has.dropLast.getLast? =some false:=h;refine ac (λk a1 a2=>?_) (bo h');rw [nN] at a1;have ek:k=l.length - 1:=Nat.eq_sub_of_add_eq (a1.trans (Z▸rfl));subst ek;have:=(I.has _ _ _ E' (R _ _ _ a2).1 P j).mpr (λq=>by rw [q] at hx;cases hx);cases this;intro c hc;exact I.r0 c ((List.dropLast_sublist _).subset hc);rw [j] at h;obtain rfl:=an h;rw [hx] at e;exact bJ (l9 oF (an e))
theorem xi l:Txt.join "" l=Str.join "" l:=StrLaws.glued_eq_join ..
theorem KL {b:Str} (h:a.cps.toList=b.cps.toList):a=b:=by obtain ⟨⟨a⟩⟩:=a;obtain ⟨⟨b⟩⟩:=b;dsimp only at h;subst h;rfl
theorem xk (a b:Str):(a++b).cps.toList=a.cps.toList++b.cps.toList:=by show (a.cps++b.cps).toList=_;simp
theorem join_list:∀l:List Str,(Str.join "" l).cps.toList=(l.map λs=>s.cps.toList).flatten| []=>rfl| [x]=>by simp [Str.join]|x::y::r=>by have a:=join_list (y::r);rw [Str.join,xk,xk,a];simp [show (("" :Str).cps.toList=[]) from rfl];intro h;cases h
theorem Ef (l:List Str) (s:Str):Txt.join "" (l++[s])=Txt.join "" l++s:=by rw [xi,xi];refine KL ?_;rw [xk,join_list,join_list];simp
theorem C7 (a b:Str):(a++b).length=a.length+b.length:=Str.length_append _ _
theorem Inv.same (I:Inv B N C S ag rows g t i) (y:ag[i]? =some A) (he:j=ag.set i {A with ch:=ch}):fy ag j/\j[i]? =some {A with ch:=ch}/\∀c,c≠i->j[c]? =ag[c]? :=by subst he;refine ⟨λc E h=>?_,by rw [SP y,bn rfl],λc q=>by rw [SP y,al (u8 q)]⟩;rw [SP y];by_cases q:i=c;subst q;rw [y] at h;obtain rfl:=an h;exact ⟨_,bn rfl,rfl,rfl⟩;exact ⟨E,by rw [al q];exact h,rfl,rfl⟩
theorem AK (W:CR B C c) (T:Sm c ag g e i n E l base):Kept c c l n n e:=⟨λ_ _=>⟨rfl,λ_ _=>rfl⟩,λa k m d=>⟨m,d,rfl⟩,T.hn,eK n,rfl,λ_ _=>rfl,λj _ m d=>⟨m,d,eK m⟩⟩
noncomputable def xI (name a af:Str) (t:Nat) (nl:List Nat):Nd:={on "element" name a af "" (some t) with ns:=nl}
structure mW (nd BS:List Nd) (t:Nat) (nt:Nd) (au:List Nat) (name aq af un:Str) (nl:List Nat):Prop where
 G:bw nd BS t nt nd.length
 e:BS[nd.length]? =some (xI name aq af t nl)
 c:(nl=[]/\BS.length=nd.length+1/\bu BS (au++[nd.length]) un=aq)\/(nl=[nd.length+1]/\BS.length=nd.length+2/\BS[nd.length+1]? =some (on "namespace" un "" un aq (some nd.length)))
theorem OC (o:S.nd[t]? =some r) name c af d:∃g nl,mW S.nd g t r S.au name c af d nl/\eF (TW S t name c af) S.nd.length d c=⟨S.root,g,S.au++[S.nd.length],S.has++[false],S.pre,S.az⟩:=by
 have l:=s0 o;have G:=lg o (on "element" name c af "" (some t));have k:(tw S.nd t (on "element" name c af "" (some t)))[S.nd.length]? =some (on "element" name c af "" (some t)):=by rw [dg l,bn rfl]
 have a:=iP S.nd t (on "element" name c af "" (some t));unfold eF TW;dsimp only;generalize tw S.nd t (on "element" name c af "" (some t))=e at G k a⊢;by_cases m:bu e (S.au++[S.nd.length]) d=c;rw [bn m];exact ⟨e,[],⟨G,k,.inl ⟨rfl,a,m⟩⟩,rfl⟩;rw [al m];have gt:=qX k rfl d c;have v:(B0 e S.nd.length d c).length=S.nd.length+2:=by have p:=gt (S.nd.length+1);rw [bn a.symm] at p;have:=s0 p;have:=jN e S.nd.length d c;exact Lg a (by assumption) this
 refine ⟨B0 e S.nd.length d c,[S.nd.length+1],⟨⟨o,λj n u q=>?_,?_⟩,?_,.inr ⟨rfl,v,?_⟩⟩,rfl⟩;have:=s0 q;rw [gt,al (UK a this),al (US this)];exact G.o j n u q;rw [gt,al (sf l a),al (US l)];exact G.t';rw [gt,al (Dg a),bn rfl,a];rfl;rw [gt,bn a.symm]
theorem mW.wf (O:mW nd A t H au name aq af y nl) (W:CR B C nd) (hp:y∈[("" :Str),"p","q"]) (hu:y≠"" ->aq≠""):CR B (C+1) A:=by
 have hl:=s0 O.G.ht;refine W.grow O.G (lv _) (s4 _) (Pe (W.zc _ _ O.G.ht)) ⟨_,O.e,rfl,by show ("element" :Str)≠_;decide,by show ("element" :Str)≠_;decide⟩ λj m hj hm=>?_;have he:=O.e;have E:y∈PD:=by simp only [List.mem_cons,List.not_mem_nil,or_false] at hp;rcases hp with rfl|rfl|rfl<;>decide+kernel
 have F:∀k:Nat,B<=k->k<50->y≠Fa k:=λk _ hk=>by have:=hG ⟨k,hk⟩;simp only [List.mem_cons,List.not_mem_nil,or_false] at hp;rcases hp with rfl|rfl|rfl;exact λh=>this.1 h.symm;exact λh=>this.2.2.1 h.symm;exact λh=>this.2.2.2.1 h.symm
 by_cases q:j=nd.length;subst q;rw [he] at hm;obtain rfl:=an hm;have leaf:f7 B (C+1) A nd.length (xI name aq af t []):= .leaf rfl rfl rfl rfl hl;rcases O.c with t|t;revert t;refine im ?_;rintro rfl Y Y;exact leaf;revert t;refine im ?_;rintro rfl Y hn;refine {leaf with ns:=λj hj=>?_,nu:= ?_,zn:= ?_};have:j=nd.length+1:=wb.mp hj;subst this;exact ⟨_,hn,rfl,rfl,E,λh=>Classical.byContradiction λhp=>hu hp h,F⟩;show ([nd.length+1].map (KF A)).Nodup;simp;show ([nd.length+1]:List Nat).length<=B+3;simp;rcases O.c with t|t;revert t;refine im ?_;rintro rfl z Y;have:=s0 hm;exact (XG hj q z this).elim;revert t;refine im ?_;rintro rfl z hn;have:j=nd.length+1:=by have:=s0 hm;exact YD hj q z this
 subst this;rw [hn] at hm;obtain rfl:=an hm;exact .leaf rfl rfl rfl rfl (fS _)
theorem mW.scope (O:mW nd j t F (5::r) name aq af y nl) (W:CR B C j) (E:qr j 5=[]) (A:y≠"xml"):(sc j (5::r++[nd.length]) y).getD "" =aq:=by rcases O.c with t|t;revert t;refine im ?_;rintro rfl z hb;rw [List.cons_append] at hb⊢;rw [A5 A E λa _=>W.tR a] at hb;exact hb;revert t;refine im ?_;rintro rfl z hn;rw [jx];have e:qr j nd.length=[nd.length+1]:=xL O.e;unfold fJ;rw [e];show (Mc j _ (nd.length+1) y).getD "" =aq;unfold Mc;rw [hn];show (if y=y then (if aq="" then none else some aq) else _:Option Str).getD "" =aq;rw [bn rfl];by_cases q:aq="";rw [bn q,q];rfl;rw [al q];rfl
theorem lH {c:Type} {l:List c} {a b:c} (h:(l++[a])[k]? =some b):(k<l.length/\l[k]? =some b)\/(k=l.length/\b=a):=by rw [cB] at h;split at h;rename_i e;obtain rfl:=an h;exact .inr ⟨e,rfl⟩;exact .inl ⟨(BB.mp h).1,h⟩
theorem Inv.start (I:Inv B N C S ag rows g t i) (V:S.az=[]) (hB:B+1<=20) (hN:N+2<=400) (hC:C+1<=400) (ab:ag[i]? =some Et) {un af aq:Str} (hp:un∈[("" :Str),"p","q"]) (a6:af∈LD) (hu:un≠"" ->aq≠""):Inv (B+1) (N+2) (C+1) (eF (TW ⟨S.root,S.nd,S.au,zw S.has true,S.pre,S.az⟩ t (Internal.mk un af) aq af) S.nd.length un aq) (ag.set i {Et with ch:=Et.ch++[.el ag.length]}++[xb aq af]) (rows++[ag.length]) (λa=>if a=S.nd.length then some ag.length else g a) S.nd.length ag.length:=by
 refine xy (λnt H bt Tt a4=>?_) I.bk;have e0:H=Et:=by have:=Tt.hE;rw [ab] at this;exact (an this).symm
 subst e0;refine im (λk0 k1 k2=>?_) (eJ Tt.kd);have s6:=I.s6;have t5:=I.t5;have i0:=I.r0 i (jj I.aP);have il:=(BB.mp ab).1;refine tz (λF nl O hS=>?_) (OC (S:=⟨S.root,S.nd,S.au,zw S.has true,S.pre,S.az⟩) Tt.hn (Internal.mk un af) aq af un);dsimp only at O hS;rw [hS];have G:=O.G;have W':=O.wf I.W hp hu;have ak:S.nd.length<F.length/\F.length<=S.nd.length+2:=by rcases O.c with ⟨_,z,_⟩|⟨_,z,_⟩<;>lia
 have h5:qr F 5=[]:=by rw [tT G (by assumption)];exact I.n5
 refine am (λr5 o5=>?_) I.o5;have hx:un≠"xml" /\un∈PD:=by simp only [List.mem_cons,List.not_mem_nil,or_false] at hp;rcases hp with rfl|rfl|rfl<;>exact ⟨by decide,by decide+kernel⟩
 have U:(sc F (S.au++[S.nd.length]) un).getD "" =aq:=by have O':=O;rw [o5] at O'⊢;exact O'.scope W' h5 hx.1
 have hg:∀a c,g a=some c->a<S.nd.length/\c<ag.length:=λa c h=>by refine xw (λn E l base T Y=>?_) (I.tr a c h);exact ⟨s0 T.hn,(BB.mp T.hE).1⟩
 have ai:∀a c,g a=some c->(λa=>if a=S.nd.length then some ag.length else g a) a=some c:=λa c h=>by have:=(hg a c h).1;show (if a=S.nd.length then some ag.length else g a)=some c;rw [al (US this)];exact h
 have y:∀a c,(λa=>if a=S.nd.length then some ag.length else g a) a=some c->(a=S.nd.length/\c=ag.length)\/(a≠S.nd.length/\g a=some c):=λa c h=>by have h':(if a=S.nd.length then some ag.length else g a)=some c:=h;by_cases q:a=S.nd.length;rw [bn q] at h';obtain rfl:=an h';exact .inl ⟨q,rfl⟩;rw [al q] at h';exact .inr ⟨q,h'⟩
 have P:∀c,c<ag.length->(ag.set i {H with ch:=H.ch++[.el ag.length]}++[xb aq af])[c]? =if i=c then some {H with ch:=H.ch++[.el ag.length]} else ag[c]? :=λc hc=>by rw [fV (by rw [SZ];exact hc),SP ab]
 have Q:(ag.set i {H with ch:=H.ch++[.el ag.length]}++[xb aq af])[ag.length]? =some (xb aq af):=by have:=SZ (as:=ag) (i:=i) (a:={H with ch:=H.ch++[.el ag.length]});rw [cB,this,bn rfl]
 have a0:(ag.set i {H with ch:=H.ch++[.el ag.length]}++[xb aq af]).length=ag.length+1:=by simp
 generalize ag.set i {H with ch:=H.ch++[.el ag.length]}++[xb aq af]=av at P Q a0⊢;generalize a7:(λa=>if a=S.nd.length then some ag.length else g a)=g' at ai y⊢;have gL:g' S.nd.length=some ag.length:=by rw [<- a7];exact bn rfl
 have ap:fy ag av:=λc E h=>by rw [P c (BB.mp h).1];refine eM ab h ?_ λq=>?_;exact ⟨_,bn rfl,rfl,rfl⟩;exact ⟨E,by rw [al (u8 q)];exact h,rfl,rfl⟩
 have a1:av[i]? =some {H with ch:=H.ch++[.el ag.length]}:=by rw [P i il,bn rfl]
 have hb:H.ch=bt:=by rw [a4,V];simp [Sk]
 have rl:=I.rl;have hl:=I.hl;have ol:=I.ol;have a5:CS F (some S.nd.length) (S.au++[S.nd.length]):= .cons O.e (jd I.path λa ha n hn=>⟨_,G.get hn,(TT ..).2.1⟩);exact {W:=W'.mono (s4 _) (lv _),aN:=λj hj=>by rw [G.o j _ (qe t5 hj) (GS (sQ s6 hj)),<- I.aN j hj,GS],sz:=by have:=I.sz;show F.length<=_;exact Nt ak this,zN:=hN,zC:=hC,s6:=by show 6<=F.length;exact TH s6 ak,bB:=hB,root:=I.root,o5:=⟨r5++[S.nd.length],by show S.au++_=_;rw [o5];rfl⟩,n5:=h5,ol:=by show (S.au++[S.nd.length]).length<=_;rw [Ll];exact Pe ol,top:=by show (S.au++[S.nd.length]).getLast? =_;simp,aP:=by simp,path:=a5,rl:=by show (rows++[ag.length]).length=(S.au++[S.nd.length]).length;simp [rl],hl:=by show (zw S.has true++[false]).length=(S.au++[S.nd.length]).length;simp [gu,hl],gr:=λk a c L A=>by have Z:(S.au++[S.nd.length])[k]? =some a:=L;rcases lH Z with ⟨z,L⟩|⟨z,rfl⟩<;>rcases lH A with ⟨R,A⟩|⟨R,rfl⟩;exact ai _ _ (I.gr k a c L A);exact (OB rl z R).elim;exact (Iw rl z R).elim;exact gL,pz:=by show S.az.length<=_;rw [V];exact Pc _,ps:=λs h=>(by have h':s∈S.az:=h;rw [V] at h';cases h'),pj:=by show (Txt.join "" S.az).length<=_;rw [V];exact Pc _,tr:=λe' c hc=>by rcases y e' c hc with t|t;revert t;refine aa ?_;rintro rfl rfl;refine ⟨_,_,_,[],⟨O.e,Q,?_,a5,?_,?_,?_,rfl,rfl,e9,rfl,λk a c h=>by cases h⟩,?_⟩;rw [al (Yu s6)];rfl;rw [Ll];have:=I.bB;show S.au.length+1<=26;exact wn (by assumption) (wn (by assumption) (by decide));intro a ha;rcases Pf.mp ha with h|h;have:=Tt.l5 a h;have:=s0 Tt.hn;exact RO (by assumption) this;rw [wb.mp h];exact xP s6;intro j hj;have:j=S.nd.length:=wb.mp hj;subst this;refine ⟨_,un,O.e,.inl ⟨IH s6,hx.2,a6,rfl⟩,λq=>?_,λq=>?_⟩;have a3:=hu q;refine ⟨?_,a3⟩;(cases hs:sc F (S.au++[S.nd.length]) un with|none=>rw [hs] at U;exact absurd U.symm a3|some v=>rw [hs] at U;exact l9 some U);have ar:=U;rw [q] at ar;rw [bn rfl];exact ar.symm;rw [bn rfl];show []=[]++Sk S.az;rw [V];rfl;revert t;refine aa λq0 h=>?_;by_cases q:e'=t;subst q;(have:c=i:=by have:=I.gt;rw [h] at this;exact an this);cases this.symm;refine ⟨_,_,S.au,bt++[.el ag.length],Tt.ro (x:= .el ag.length) G I.W k1 k2 a1 rfl rfl ap ai ⟨_,O.e,by show (0:Nat)<=1000;decide,rfl,⟨_,Q,rfl,rfl⟩,gL⟩,?_⟩;rw [al q0,hb];refine xw (λn E l base T h'=>?_) (I.tr e' c h);rw [al q] at h';have hc:i≠c:=λz=>q (I.inj e' t c h (by rw [<- z];exact I.gt) (by rw [<- z];exact i0));exact ⟨n,E,l,base,T.vZ G I.W k1 k2 q (by rw [P c (hg e' c h).2,al hc];exact T.hE) rfl rfl ap ai,by rw [al q0];exact h'⟩,has:=λk c b E L A J=>by have Z:(zw S.has true++[false])[k]? =some b:=L;rcases lH Z with ⟨z,L⟩|⟨z,rfl⟩<;>rcases lH A with ⟨R,A⟩|⟨R,rfl⟩;(have ax:c<ag.length:=by have ho:=sX rl R;exact (hg _ _ (I.gr k _ c (GS ho) A)).2);rw [P c ax] at J;rcases pS L with t|t;revert t;refine aa λq=>?_;rintro rfl;(have:c=i:=by refine ac (λk2 a8 a2=>?_) (bo I.aP);have:k=k2:=GP rl hl q a8;subst this;rw [A] at a2;exact an a2);rw [bn this.symm] at J;obtain rfl:=an J;simp;revert t;refine aa λq L=>?_;by_cases z:i=c;subst z;have:=I.mV A;exact (X6 rl hl q this).elim;rw [al z] at J;exact I.has k c b E L A J;rw [gu] at z;exact (Kd rl hl z R).elim;rw [gu] at z;exact (Eu rl hl z R).elim;rw [Q] at J;obtain rfl:=an J;simp [xb],low:=λk c E L A J=>by rw [Ll] at L;(have Z:k<rows.length:=by simp at L;exact L);rcases lH A with t|t;revert t;refine aa λR A=>?_;have ho:=sX rl R;have ax:=(hg _ _ (I.gr k _ c (GS ho) A)).2;rw [P c ax] at J;by_cases z:i=c;subst z;rw [bn rfl] at J;obtain rfl:=an J;exact ⟨ag.length,by simp⟩;rw [al z] at J;refine I.low k c E ?_ A J;refine ac (λk2 a8 a2=>?_) (bo I.aP);(have:k≠k2:=λq=>by subst q;rw [A] at a2;exact z (an a2).symm);lia;revert t;refine aa λR=>?_;rintro rfl;exact (wA Z R).elim,ord:=λ_ e c h=>by rcases y e c h with t|t;revert t;refine aa ?_;rintro rfl Y;exact lv _;revert t;refine aa λY h=>?_;exact Co (hg e c h).1,inj:=λe e' c L A J=>by rcases y e c L with ⟨rfl,rfl⟩|⟨_,a⟩<;>rcases y e' _ A with ⟨rfl,q⟩|⟨_,b⟩;rfl;have:=(hg _ _ b).2;exact Dy this;subst q;have:=(hg _ _ a).2;exact Dy this;exact I.inj e e' c a b J,r0:=λc hc=>by rcases Pf.mp hc with h|h;exact I.r0 c h;rw [wb.mp h];exact Lh il,e0:=by rw [P 0 (by exact wn (Pc _) (by assumption)),al i0];exact I.e0}
theorem Inv.fK (I:Inv B N C S ag rows g t i) (h:B<=j) (y:j<=20):Inv j N C S ag rows g t i:={I with W:=I.W.mono h (lv _),bB:=y,ol:=be I.ol (by exact Pe (by assumption)),pz:=be I.pz h,pj:=be I.pj (zX h)}
theorem xg {c:Type} {l:List c} {a:c} (h:l[i]? =some a):l.set i a=l:=by apply List.ext_getElem?;intro j;rw [SP h];by_cases q:i=j;subst q;rw [bn rfl,h];rw [al q]
theorem join_one s:Txt.join "" [s]=s:=by rw [xi];simp [Str.join]
set_option tactic.hygienic true in theorem Inv.txt (I:Inv B N C S ag rows g t i) (X:So S ag i) (hB:B+1<=20) (P:ag[i]? =some Et) {s:Str} (hs:s.length<=2):Inv (B+1) N C (txt S s) (ag.set i {Et with ch:=cH Et.ch s}) rows g t i/\So (txt S s) (ag.set i {Et with ch:=cH Et.ch s}) i:=by
 unfold Internal.txt;by_cases e:s="";have:cH Et.ch s=Et.ch:=bn e;rw [bn e,this,show ag.set i ⟨Et.aq,Et.af,Et.ak,Et.av,Et.ch⟩=ag from xg P];exact ⟨I.fK (s4 _) hB,X⟩;rw [al e];refine xy (λnt L Y Tt H=>?_) I.bk;have e0:L=Et:=by have:=Tt.hE;rw [P] at this;exact (an this).symm
 subst e0;have i0:=I.r0 i (jj I.aP);have U:cH L.ch s=Y++[.txt (Txt.join "" (S.az++[s]))]:=by unfold cH;rw [al e];by_cases hp:S.az=[];have:=X hp L;rw [hp] at H;(have hb:L.ch=Y:=by rw [H];simp [Sk]);rw [hp,List.nil_append,join_one,<- hb];(cases hq:L.ch.getLast? with|none=>rfl|some c=>induction c using Ch.casesOn with|txt u=>exact absurd hq (this u P)|_=>rfl);(have hb:L.ch=Y++[.txt (Txt.join "" S.az)]:=by rw [H];unfold Sk;rw [al hp]);rw [hb,Ef,List.getLast?_concat];dsimp only;simp
 have aW:cH L.ch s≠[]:=by rw [U];simp
 have V:cH L.ch s=Y++Sk (S.az++[s]):=by rw [U];unfold Sk;rw [al (by simp)]
 generalize cH L.ch s=Z at U aW V⊢;refine im (λA F j=>?_) (I.same P (ch:=Z) rfl);generalize ag.set i {L with ch:=Z}=ab at A F j⊢;have hl:=I.hl;have rl:=I.rl;refine ⟨{W:=I.W.mono (s4 _) (lv _),aN:=I.aN,sz:=I.sz,zN:=I.zN,zC:=I.zC,s6:=I.s6,bB:=hB,root:=I.root,o5:=I.o5,n5:=I.n5,ol:=nA I.ol,top:=I.top,aP:=I.aP,path:=I.path,rl:=I.rl,hl:=by show (zw S.has true).length=_;rw [gu];exact I.hl,gr:=I.gr,pz:=by show (S.az++[s]).length<=_;rw [Ll];exact Pe I.pz,ps:=λu h=>by rcases Pf.mp h with h|h;exact I.ps u h;rw [wb.mp h];exact ⟨hs,e⟩,pj:=by show (Txt.join "" (S.az++[s])).length<=_;rw [Ef,C7];have:=I.pj;exact JH hs this,tr:=λe' c hg=>by by_cases q:e'=t;subst q;(have:c=i:=by have:=I.gt;rw [hg] at this;exact an this);cases this.symm;exact ⟨_,_,_,Y,Tt.keep (AK I.W Tt) F rfl rfl A (λ_ _ h=>h) Tt.z (λk a c y J=> .inl ⟨y,J⟩),by rw [bn rfl];exact V⟩;refine xw (λn E l base T R=>?_) (I.tr e' c hg);rw [al q] at R;have hc:c≠i:=λz=>q (I.inj e' t c hg (by rw [z];exact I.gt) (by rw [z];exact i0));exact ⟨n,E,l,base,T.keep (AK I.W T) (by rw [j c hc];exact T.hE) rfl rfl A (λ_ _ h=>h) T.z (λk a c y J=> .inl ⟨y,J⟩),by rw [al q];exact R⟩,has:=λk c b E y J Q=>by by_cases z:c=i;subst z;have:=I.mV J;rcases pS y with t|t;revert t;refine aa λq=>?_;rintro rfl;rw [F] at Q;obtain rfl:=an Q;simp [aW];revert t;refine aa λq y=>?_;exact (PL hl rl this q).elim;rw [j c z] at Q;rcases pS y with t|t;revert t;refine aa λq=>?_;rintro rfl;refine ac (λk2 a1 a2=>?_) (bo I.aP);have:k=k2:=yY hl rl q a1;subst this;rw [J] at a2;exact absurd (an a2) z;revert t;refine aa λq y=>?_;exact I.has k c b E y J Q,low:=λk c E y J Q=>by by_cases z:c=i;subst z;have:=I.mV J;exact (zW y this).elim;rw [j c z] at Q;exact I.low k c E y J Q,ord:=λh=>(by (have:0<S.has.length:=by refine ac (λk2 a1 a2=>?_) (bo I.top);exact DN hl a1);have R:(zw S.has true).getLast? =some false:=h;rw [yE this] at R;exact nomatch R),inj:=I.inj,r0:=I.r0,e0:=by rw [j 0 (u8 i0)];exact I.e0},λh=>?_⟩;have R:S.az++[s]=[]:=h;simp at R
theorem OT {c:List (List Str)} (h:c.length=a.length) (d:k∉c):pb k v c a=(c++[k],a++[v]):=by induction c generalizing a with|nil=>(induction a using List.casesOn with|nil=>rfl|cons _ _=>cases h)|cons x g e=>induction a using List.casesOn with|nil=>cases h|cons u j=>rw [dv λq=>d (by rw [<- q];exact wS ..),e (fW h) λq=>d (FM _ q)];rfl
theorem To {k:Nat->List Str} {l:List Nat} (hd:(l.map k).Nodup) (h:j∈l):pb (k j) x (l.map k) (l.map v)=(l.map k,l.map λa=>if a=j then x else v a):=by induction l with|nil=>cases h|cons a r g=>refine aa (λc n=>?_) (cO.mp hd);by_cases e:a=j;subst e;refine (fb rfl).trans (l9 (Prod.mk _) (congr (l9 List.cons (bn rfl).symm) (bK λb m=>(al λq=>?_).symm)));cases q.symm;exact c (jf m);have d:=(LB.mp h).resolve_left (u8 e);refine (dv λq=>c (by rw [q];exact jf d)).trans ?_;rw [g n d];exact l9 (Prod.mk _) (l9 (· ::_) (al e).symm)
theorem Inv.nk (I:Inv B N C S ag rows g t i) (j:S.au.length≠1):5<t:=by refine am (λr A=>?_) I.o5;have y:=(uK I.W I.path).2;have cM:=I.top;rw [A] at y cM j;induction r using List.casesOn with|nil=>exact absurd rfl j|cons a b=>(have:t∈a::b:=by rw [List.getLast?_cons_cons] at cM;exact jj cM);exact (List.pairwise_cons.mp y).1 t this
theorem Inv.here (I:Inv B N C S ag rows g t i) (V:S.au.length≠1) (hf:S.has.getLast? =some false) (A:ag[i]? =some E) (hB:B<=B') (bB:B'<=20) (zN:N'<=400) (W2:CR B' C y) (sz:y.length<=N') (s6:S.nd.length<=y.length) (ho:∀(j:Nat) (n:Nd),S.nd[j]? =some n->∃J,y[j]? =some J/\J.aC=n.aC/\(j≠t->J.ns=n.ns/\((n.kind="attribute" /\n.aC=some t)\/J=n))/\(n.kind≠"attribute" ->fi n J)) (ec:E2.ch=E.ch) (eu:E2.aq=E.aq) (el:E2.af=E.af) (ht:∀n bt,Sm S.nd ag g t i n E S.au bt->bt=[]->n.ch=[]->CS y (some t) S.au->∃J,Sm y (ag.set i E2) g t i J E2 S.au []):Inv B' N' C ⟨S.root,y,S.au,S.has,S.pre,S.az⟩ (ag.set i E2) rows g t i:=by
 refine s3 λ_ kk=>?_;refine xy (λnt E0 bt Z R=>?_) I.bk;have e0:E0=E:=by have:=Z.hE;rw [A] at this;exact (an this).symm
 subst e0;refine im (λk0 k1 k2=>?_) (eJ Z.kd);have t5:=I.nk V;have i0:=I.r0 i (jj I.aP);have as:=I.hl;have rl:=I.rl;have ai:E0.ch=[]:=by refine ac (λk a1 a2=>?_) (bo hf);refine ac (λk' b1 b2=>?_) (bo I.aP);have:k=k':=yY as rl a1 b1;subst this;have:=I.has k i false E0 a2 b2 A;by_cases q:E0.ch=[];exact q;exact absurd (this.mpr q) (by decide)
 have U:bt=[]/\Sk S.az=[]:=by rw [ai] at R;exact List.append_eq_nil_iff.mp R.symm
 have ax:nt.ch=[]:=by have:=Z.z;rw [U.1] at this;exact List.length_eq_zero_iff.mp this.symm
 have ak:∀{o:Option Nat} {l:List Nat},CS S.nd o l->CS y o l:=λp=>jd p λa ha n hn=>by refine nw (λJ L x2 Y=>?_) (ho a n hn);exact ⟨J,L,x2⟩
 have P:fy ag (ag.set i E2):=λc E h=>by rw [SP A];refine eM A h ?_ λq=>?_;exact ⟨_,bn rfl,eu,el⟩;exact ⟨E,by rw [al (u8 q)];exact h,rfl,rfl⟩
 have same:∀{j:Nat} {n:Nd},S.nd[j]? =some n->j≠t->¬(n.kind="attribute" /\n.aC=some t)->y[j]? =some n:=λ{j n} hn hj hk=>by refine At (λJ L Y x3 Y=>?_) (ho j n hn);rcases (x3 hj).2 with h|h;exact absurd h hk;rw [L,h]
 have kept:∀{e c:Nat} {n:Nd} {E:El} {l:List Nat} {base:List Ch},e<t->Sm S.nd ag g e c n E l base->Kept S.nd y l n n e:=λ{e c n E l base} he T=>by have kn:=(eJ T.kd).2.1;refine ⟨λa ha=>?_,λa ha m hm=>?_,same T.hn (jP he) λh=>kn h.1,eK n,rfl,λj hj=>?_,λj hj m hm=>?_⟩;have:=T.l5 a ha;refine am (λm hm=>?_) (de T.p a ha);refine At (λm' L Y x3 Y=>?_) (ho a m hm);rw [xL hm,xL L];refine ⟨(x3 (Ni he this)).1,λj hj=>?_⟩;refine At (λmj H Y y2 Y=>?_) (I.W.ns a m hm j hj);rw [H];refine same H (λq=>?_) λh=>?_;cases q.symm;rw [Z.hn] at H;obtain rfl:=an H;exact k2 y2;rw [y2] at h;exact absurd h.1 (by decide);refine nw (λm' L x2 Y=>?_) (ho a m hm);exact ⟨m',L,x2⟩;refine nw (λmj H y2 y3=>?_) (I.W.at_ e n T.hn j hj);rw [H];refine same H (λq=>?_) λh=>?_;cases q.symm;rw [Z.hn] at H;obtain rfl:=an H;exact k1 y3;rw [y2] at h;have:=an h.2;exact wA he this;refine At (λmj H Y y3 Y=>?_) (I.W.ch e n T.hn j hj);rw [hm] at H;obtain rfl:=an H;refine At (λm' L Y Y x4=>?_) (ho j m hm);exact ⟨m',L,x4 y3⟩
 have Q:(ag.set i E2)[i]? =some E2:=by rw [SP A,bn rfl]
 have F:∀c,c≠i->(ag.set i E2)[c]? =ag[c]? :=λc q=>by rw [SP A,al (u8 q)]
 refine am (λn2 T2=>?_) (ht nt bt Z U.1 ax (ak I.path));have ar:E2.ch=[]:=by rw [ec,ai]
 refine kk ?_;generalize ag.set i E2=ap at P Q F T2⊢;have ab:∀(c:Nat) (E:El),ap[c]? =some E->∃E',ag[c]? =some E'/\E.ch=E'.ch:=λc E h=>by refine eM Q h ?_ λq=>?_;exact ⟨_,A,ec⟩;rw [F c q] at h;exact ⟨E,h,rfl⟩
 have o5:=I.o5;have a0:∃c,g 5=some c:=by revert o5;refine am λr h5=>?_;(have hr:0<rows.length:=by rw [rl,h5];exact dF _);exact ⟨_,I.gr 0 5 _ (by rw [h5];rfl) (GS hr)⟩
 have n5:qr y 5=[]:=by revert a0;refine am λc hc=>?_;refine xw (λn E l base T Y=>?_) (I.tr 5 c hc);rw [xL (same T.hn (Uu t5) λh=>(eJ T.kd).2.1 h.1),<- xL T.hn];exact I.n5
 exact {W:=W2,aN:=λj hj=>by (have av:j<S.nd.length:=by have:=I.s6;exact Sw hj this);have e:=GS av;have e2:=I.aN j hj;(have hx:∀m,S.nd[j]? =some m->¬(m.kind="attribute" /\m.aC=some t):=λm hm h=>by rw [e2] at hm;(have:j=0\/j=1\/j=2\/j=3\/j=4:=by lia);rcases this with rfl|rfl|rfl|rfl|rfl<;>simp [Internal.aN] at hm<;>subst hm;(all_goals first|exact absurd h.1 (by decide)|skip);have:=an h.2;exact Rr t5 this);rw [same e (GR t5 hj) (hx _ e),<- e2,e],sz:=sz,zN:=zN,zC:=I.zC,s6:=be I.s6 s6,bB:=bB,root:=I.root,o5:=I.o5,n5:=n5,ol:=be I.ol (by exact Pe (by assumption)),top:=I.top,aP:=I.aP,path:=ak I.path,rl:=I.rl,hl:=I.hl,gr:=I.gr,pz:=be I.pz hB,ps:=I.ps,pj:=be I.pj (zX hB),tr:=λe' c hg=>by by_cases q:e'=t;cases q.symm;(have:c=i:=by have:=I.gt;rw [hg] at this;exact an this);cases this.symm;exact ⟨n2,E2,S.au,[],T2,by rw [bn rfl,ar];exact U.2.symm⟩;refine xw (λn E l base T h'=>?_) (I.tr e' c hg);rw [al q] at h';have hc:c≠i:=λz=>q (I.inj e' t c hg (by rw [z];exact I.gt) (by rw [z];exact i0));have lt:=Nat.lt_of_le_of_ne (I.ord hf e' c hg) q;exact ⟨n,E,l,base,T.keep (kept lt T) (by rw [F c hc];exact T.hE) rfl rfl P (λ_ _ h=>h) T.z (λk a c V h2=> .inl ⟨V,h2⟩),by rw [al q];exact h'⟩,has:=λk c b E V h2 h3=>by refine ac (λE' h4 h5=>?_) (ab c E h3);rw [h5];exact I.has k c b E' V h2 h4,low:=λk c E V h2 h3=>by refine ac (λE' h4 h5=>?_) (ab c E h3);rw [h5];exact I.low k c E' V h2 h4,ord:=I.ord,inj:=I.inj,r0:=I.r0,e0:=by rw [F 0 (u8 i0)];exact I.e0}
theorem A6 (h:c[e]? =some n) a b (g:n.ns.find? (λj=>c[j]?.any λm=>decide (m.name=a))=none) j:(B0 c e a b)[j]? =if j=c.length then some (on "namespace" a "" a b (some e)) else if j=e then some {n with ns:=n.ns++[c.length]} else c[j]? :=by have d:=s0 h;unfold B0;rw [h];dsimp only;rw [g];dsimp only;rw [jR,cB];by_cases q:j=c.length;subst q;rw [al (u4 d),bn rfl,bn rfl];rw [al q,al q];by_cases r:j=e;subst r;rw [bn rfl,bn rfl,h];rfl;rw [al r,al (u8 r)]
theorem JG (h:g[e]? =some n) a b c d (l:n.at_.find? (λj=>g[j]?.any λm=>decide (m.aq=b)&&decide (m.af=c))=none) j:(setAt g e a b c d)[j]? =if j=g.length then some (on "attribute" a b c d (some e)) else if j=e then some {n with at_:=n.at_++[g.length]} else g[j]? :=by have k:=s0 h;unfold setAt;rw [h];dsimp only;rw [l];dsimp only;rw [jR,cB];by_cases q:j=g.length;subst q;rw [al (u4 k),bn rfl,bn rfl];rw [al q,al q];by_cases r:j=e;subst r;rw [bn rfl,bn rfl,h];rfl;rw [al r,al (u8 r)]
theorem CR.carry (W:CR B C nd) (up:∀(j:Nat) (m:Nd),nd[j]? =some m->∃y,H[j]? =some y/\y.kind=m.kind/\y.aC=m.aC/\(m.kind="namespace" ->y.name=m.name/\y.val=m.val)) (J:B<=B') (L:C<=C') (h:nd[i]? =some n):f7 B' C' H i n where ch:=λj hj=>(by refine At (λm hm a b c=>?_) (W.ch i n h j hj);refine At (λy A E I Y=>?_) (up j m hm);exact ⟨y,A,by rw [I];exact a,by rw [E];exact b,by rw [E];exact c⟩);at_:=λj hj=>(by refine nw (λm hm a b=>?_) (W.at_ i n h j hj);refine At (λy A E I Y=>?_) (up j m hm);exact ⟨y,A,by rw [I];exact a,by rw [E];exact b⟩);ns:=λj hj=>(by refine dp (λm hm a b c=>aa λd q=>?_) (W.ns i n h j hj);refine At (λy A E I F=>?_) (up j m hm);exact ⟨y,A,by rw [I];exact a,by rw [E];exact b,by rw [(F b).1];exact c,by rw [(F b).1,(F b).2];exact d,by rw [(F b).1];exact λk hk=>q k (be J hk)⟩);nu:=(by (have:n.ns.map (KF H)=n.ns.map (KF nd):=bK λj hj=>by refine At (λm hm Y b Y=>?_) (W.ns i n h j hj);refine At (λy A Y Y F=>?_) (up j m hm);rw [bS hm,bS A,(F b).1]);rw [this];exact W.nu i n h);aC:=λp hp=>W.aC i n p h hp;zc:=be (W.zc i n h) L;za:=be (W.za i n h) (ku J);zn:=be (W.zn i n h) (ku J)
theorem MU {e:Str} (p:e≠"") (x:d[t]? =some g) (q:c[t]? =some {g with ns:=g.ns++[d.length]}) (v:c[d.length]? =some (on "namespace" o "" o e (some t))) (w:∀a∈l,qr c a=qr d a/\∀j∈qr d a,c[j]? =d[j]?) (n:∀j∈g.ns,c[j]? =d[j]?) k:sc c (l++[t]) k=if o=k then some e else sc d (l++[t]) k:=by
 rw [jx,jx,pU w];unfold fJ;rw [xL q,xL x];show List.foldl (Mc c) (sc d l) (g.ns++[d.length]) k=_;rw [List.foldl_append];have:∀(m:List Nat) (f:Sc),(∀j∈m,c[j]? =d[j]?)->m.foldl (Mc c) f=m.foldl (Mc d) f:=by intro m;induction m with|nil=>intros;rfl|cons j r u=>intro f n;rw [eA,eA];(have:Mc c f j=Mc d f j:=by unfold Mc;rw [n j (wS ..)]);rw [this];exact u _ λj h=>n j (FM _ h)
 rw [this g.ns _ n];show Mc c _ d.length k=_;unfold Mc;rw [v];show (if o=k then (if e="" then none else some e) else _:Option Str)=_;rw [al p]
set_option tactic.hygienic true in theorem Inv.bind (I:Inv B N C S ag rows g t i) (Z:S.au.length≠1) (hf:S.has.getLast? =some false) (hB:B+1<=20) (hN:N+1<=400) (y:S.nd[t]? =some nt) {aq:Str} (hu:aq≠"") (as:pr∈PD) (ai:pr≠"") (ap:∀k:Nat,B+1<=k->k<50->pr≠Fa k) (J:pr∉(qr S.nd t).map (KF S.nd)) (ar:∀j∈t::nt.at_,∀m p,S.nd[j]? =some m->p∈PD->m.af∈LD->m.name=Internal.mk p m.af->(p≠"" ->∃v,sc S.nd S.au p=some v/\v≠"")->p≠pr):Inv (B+1) (N+1) C ⟨S.root,B0 S.nd t pr aq,S.au,S.has,S.pre,S.az⟩ ag rows g t i/\sc (B0 S.nd t pr aq) S.au pr=some aq/\(B0 S.nd t pr aq)[t]? =some {nt with ns:=nt.ns++[S.nd.length]}:=by
 refine xy (λn0 E bt Tt ax=>?_) I.bk;have e0:n0=nt:=by have:=Tt.hn;rw [y] at this;exact (an this).symm
 subst e0;have H:=Tt.hE;refine im (λk0 k1 k2=>?_) (eJ Tt.kd);have t5:=I.nk Z;have R:=s0 y;have gt:=A6 y pr aq (by refine kW.mpr λj hj=>?_;refine ac (λm hm Y=>?_) (I.W.ns t n0 y j hj);rw [hm];show ¬(decide (m.name=pr)=true);rw [decide_eq_true_eq];intro q;refine J ?_;rw [xL y,<- q,<- bS hm];exact jf hj);have F:(B0 S.nd t pr aq).length=S.nd.length+1:=by have Z:=gt S.nd.length;rw [bn rfl] at Z;have:=s0 Z;have:=jN S.nd t pr aq;exact BK (by assumption) this
 generalize B0 S.nd t pr aq=A at gt F⊢;have gL:A[S.nd.length]? =some (on "namespace" pr "" pr aq (some t)):=by rw [gt,bn rfl]
 have gT:A[t]? =some {n0 with ns:=n0.ns++[S.nd.length]}:=by rw [gt,al (US R),bn rfl]
 have gO:∀(j:Nat) (m:Nd),S.nd[j]? =some m->j≠t->A[j]? =some m:=λj m hm q=>by have:=s0 hm;rw [gt,al (US this),al q];exact hm
 have L:∀{a:Nat} {n:Nd},S.nd[a]? =some n->∀j∈n.ns,A[j]? =S.nd[j]? :=λ{a n} hn j hj=>by refine At (λm hm Y hk Y=>?_) (I.W.ns a n hn j hj);rw [hm];exact gO j m hm λq=>k2 (mB y hm q hk)
 have U:∀j∈n0.at_,A[j]? =S.nd[j]? :=λj hj=>by refine nw (λm hm Y hk=>?_) (I.W.at_ t n0 y j hj);rw [hm];exact gO j m hm λq=>k1 (mB y hm q hk)
 have up:∀(j:Nat) (m:Nd),S.nd[j]? =some m->∃m',A[j]? =some m'/\m'.kind=m.kind/\m'.aC=m.aC/\(m.kind="namespace" ->m'.name=m.name/\m'.val=m.val):=λj m hm=>by refine eM y hm ?_ λq=>?_;exact ⟨_,gT,rfl,rfl,λ_=>⟨rfl,rfl⟩⟩;exact ⟨m,gO j m hm q,rfl,rfl,λ_=>⟨rfl,rfl⟩⟩
 have W2:CR (B+1) C A:= .m8 λj m hm=>by by_cases q:j=S.nd.length;subst q;rw [gL] at hm;obtain rfl:=an hm;exact .leaf rfl rfl rfl rfl R;(have hj:j<S.nd.length:=by have:=s0 hm;exact yv F q this);have ak:=GS hj;by_cases q':j=t;subst q';rw [gT] at hm;obtain rfl:=an hm;have cr:=I.W.carry (B':=B+1) (C':=C) up (s4 _) (lv _) y;refine {ch:=cr.ch,at_:=cr.at_,aC:=cr.aC,zc:=cr.zc,za:=cr.za,ns:=λa ha=>?_,nu:= ?_,zn:= ?_};rcases Pf.mp ha with h|h;exact cr.ns a h;rw [wb.mp h];exact ⟨_,gL,rfl,rfl,as,λh=>absurd h hu,ap⟩;show ((n0.ns++[S.nd.length]).map (KF A)).Nodup;rw [List.map_append,List.nodup_append];refine ⟨cr.nu,by simp,λa ha b hb=>?_⟩;rw [cN,List.map_nil,wb,bS gL] at hb;subst hb;(have:n0.ns.map (KF A)=n0.ns.map (KF S.nd):=bK λx hx=>by unfold KF;rw [L y x hx]);rw [this,<- xL y] at ha;exact λq=>J (by rw [q] at ha;exact ha);show (n0.ns++[S.nd.length]).length<=_;rw [Ll];have:=I.W.zn j n0 y;simp;assumption;rw [gO j _ ak q'] at hm;obtain rfl:=an hm;exact I.W.carry up (s4 _) (lv _) ak
 have P:∀k,sc A S.au k=if pr=k then some aq else sc S.nd S.au k:=by have Q:=I.path;have lt:=(uK I.W Q).2;generalize S.au=op at Q lt⊢;cases Q with|cons hn r=>rename_i n l;refine MU hu y gT gL (λa ha=>?_) (L y);refine am (λm hm=>?_) (de r a ha);(have:a≠t:=λq=>by rw [List.pairwise_append] at lt;have:=lt.2.2 a ha t (wb.mpr rfl);exact PP q this);rw [xL hm,xL (gO a m hm this)];exact ⟨rfl,L hm⟩
 refine ⟨?_,by rw [P,bn rfl],gT⟩;have:=I.here (E2:=E) (B':=B+1) (N':=N+1) Z hf H (s4 _) hB hN W2 (by have:=I.sz;exact tB F this) (rd F) (λj n hn=>?_) rfl rfl rfl λn bt T hb hc hp=>?_;rw [xg H] at this;exact this;by_cases q:j=t;cases q.symm;rw [y] at hn;obtain rfl:=an hn;exact ⟨_,gT,rfl,λh=>absurd rfl h,λ_=>⟨rfl,rfl,rfl,rfl,rfl⟩⟩;exact ⟨n,gO j n hn q,rfl,λ_=>⟨rfl,.inr rfl⟩,λ_=>eK n⟩;have en:n=n0:=by have:=T.hn;rw [y] at this;exact (an this).symm
 subst en;refine ⟨_,gT,by rw [xg H];exact H,T.kd,hp,T.lz,T.l5,λj hj=>?_,?_,?_,T.d,by show 0=n.ch.length;rw [hc];rfl,λk a c h=>by have h':n.ch[k]? =some a:=h;rw [hc] at h';cases h'⟩;have V:j∈t::n.at_:=hj;refine Cc (λm p hm ab a1 a2=>?_) (T.r j V);have av:p≠pr:=by refine to ab (λt=>?_) λt=>?_;revert t;refine pt λY x1 x2 x3=>?_;exact ar j V m p hm x1 x2 x3 λh=>⟨_,a1 h⟩;revert t;refine im λY x1 Y=>?_;rw [x1];exact u8 ai
 refine pQ (nd:=S.nd) (λm hm=>?_) ⟨m,p,hm,ab,λh=>?_,λh=>?_⟩;refine eM y hm ?_ λq=>?_;exact ⟨_,gT,rfl,rfl,rfl,rfl,rfl⟩;exact ⟨m,gO j m hm q,eK m⟩;rw [P,al (u8 av)];exact a1 h;rw [P,al ai];exact a2 h;show E.ak=n.at_.map _;rw [T.k];exact bK λj hj=>by unfold Me LS;rw [U j hj]
 show E.av=n.at_.map _;rw [T.v];exact bK λj hj=>by unfold valOf;rw [U j hj]
theorem Inv.setAt (I:Inv B N C S ag rows g t i) (h1:S.au.length≠1) (hf:S.has.getLast? =some false) (hN:N+1<=400) (F:S.nd[t]? =some nt) (R:ag[i]? =some E) (hz:nt.at_.length+1<=B+3) {aq:Str} val (hp:pr∈PD) (a4:af∈LD) (hs:(pr="" /\aq="")\/(pr≠"" /\aq≠"" /\sc S.nd S.au pr=some aq)):Inv B (N+1) C ⟨S.root,Internal.setAt S.nd t (Internal.mk pr af) aq af val,S.au,S.has,S.pre,S.az⟩ (ag.set i ⟨E.aq,E.af,(pb [aq,af] val E.ak E.av).1,(pb [aq,af] val E.ak E.av).2,E.ch⟩) rows g t i:=by
 refine xy (λn0 U bt Z a5=>?_) I.bk;have e0:n0=nt:=by have:=Z.hn;rw [F] at this;exact (an this).symm
 subst e0;have e1:U=E:=by have:=Z.hE;rw [R] at this;exact (an this).symm
 subst e1;refine im (λk0 k1 k2=>?_) (eJ Z.kd);have t5:=I.nk h1;have ak:=s0 F;have ai:∀{A:List Nd} {j:Nat} {m:Nd},j≠t->A[j]? =some m->m.name=Internal.mk pr af->m.aq=aq->m.af=af->(∀k,sc A S.au k=sc S.nd S.au k)->jv A (sc A S.au) t j:=λ{A j m} hj hm a b c P=>by refine ⟨m,pr,hm,.inl ⟨Rf t5,hp,by rw [c];exact a4,by rw [a,c]⟩,λh=>?_,λh=>?_⟩;rcases hs with t|t;revert t;refine aa λx Y=>?_;exact absurd x h;revert t;refine im λY x y=>?_;rw [b,P];exact ⟨y,x⟩;rw [al hj,b];rcases hs with t|t;revert t;refine aa λY x=>?_;exact x;revert t;refine aa λx Y=>?_;exact absurd h x
 have there:∀j∈n0.at_,∃m,S.nd[j]? =some m/\m.kind="attribute" /\m.aC=some t/\j≠t:=λj hj=>by refine nw (λm hm ax hk=>?_) (I.W.at_ t n0 F j hj);exact ⟨m,hm,hk,ax,λq=>k1 (mB F hm q hk)⟩
 have zk:U.ak.length=U.av.length:=by rw [Z.k,Z.v,FB,FB]
 cases L:n0.at_.find? (λj=>S.nd[j]?.any λm=>decide (m.aq=aq)&&decide (m.af=af)) with|some j=>refine At (λmj J Q ar as=>?_) (there j (qG L));(have hu:mj.aq=aq/\mj.af=af:=by have:=List.find?_some L;rw [J] at this;simpa using this);(have gt:∀x,(Internal.setAt S.nd t (Internal.mk pr af) aq af val)[x]? =if j=x then S.nd[x]?.map (λm=>{m with name:=Internal.mk pr af,val:=val}) else S.nd[x]? :=λx=>by unfold Internal.setAt;rw [F];dsimp only;rw [L];exact jR ..);(have H:(Internal.setAt S.nd t (Internal.mk pr af) aq af val).length<=S.nd.length+1/\S.nd.length<=(Internal.setAt S.nd t (Internal.mk pr af) aq af val).length:=by refine ⟨sd ..,?_⟩;unfold Internal.setAt;rw [F];dsimp only;rw [L];dsimp only;rw [kz];exact lv _);generalize Internal.setAt S.nd t (Internal.mk pr af) aq af val=A at gt H⊢;(have gJ:A[j]? =some {mj with name:=Internal.mk pr af,val:=val}:=by rw [gt,bn rfl,J];rfl);(have gO:∀(x:Nat) (m:Nd),S.nd[x]? =some m->x≠j->A[x]? =some m:=λx m hm q=>by rw [gt,al (u8 q)];exact hm);have gT:=gO t n0 F (u8 as);(have up:∀(x:Nat) (m:Nd),S.nd[x]? =some m->∃V,A[x]? =some V/\V.kind=m.kind/\V.aC=m.aC/\(m.kind="namespace" ->V.name=m.name/\V.val=m.val):=λx m hm=>by refine eM J hm ?_ λq=>?_;exact ⟨_,gJ,rfl,rfl,λh=>by rw [Q] at h;exact absurd h (by decide)⟩;exact ⟨m,gO x m hm q,rfl,rfl,λ_=>⟨rfl,rfl⟩⟩);(have W2:CR B C A:= .m8 λx m hm=>by (have hx:x<S.nd.length:=by rw [gt] at hm;cases hq:S.nd[x]? with|some y=>exact s0 hq|none=>rw [hq] at hm;split at hm<;>exact nomatch hm);have ab:=GS hx;have cr:=I.W.carry (B':=B) (C':=C) up (lv _) (lv _) ab;by_cases q:x=j;cases q.symm;rw [J] at ab;rw [<- an ab] at cr;rw [gJ] at hm;obtain rfl:=an hm;exact ⟨cr.ch,cr.at_,cr.ns,cr.nu,cr.aC,cr.zc,cr.za,cr.zn⟩;rw [gO x _ ab q] at hm;obtain rfl:=an hm;exact cr);(have ap:∀{a:Nat} {n:Nd},S.nd[a]? =some n->∀x∈n.ns,A[x]? =S.nd[x]? :=λ{a n} hn x hx=>by refine At (λm hm Y hk Y=>?_) (I.W.ns a n hn x hx);rw [hm];exact gO x m hm λq=>by cases q.symm;rw [J] at hm;obtain rfl:=an hm;rw [hk] at Q;exact absurd Q (by decide));(have P:=pU λa ha=>by refine am (λm hm=>?_) (de I.path a ha);refine ⟨?_,by rw [xL hm];exact ap hm⟩;by_cases q:a=j;cases q.symm;rw [xL hm,xL gJ];rw [J] at hm;obtain rfl:=an hm;rfl;rw [xL hm,xL (gO a m hm q)]);(have a2:[Me S.nd j,LS S.nd j]=[aq,af]:=by unfold Me LS;rw [J];show [mj.aq,mj.af]=_;rw [hu.1,hu.2]);have ds:=To (k:=λj=>[Me S.nd j,LS S.nd j]) (v:=valOf S.nd) (j:=j) (x:=val) (l:=n0.at_) (by have:=Z.d;rw [Z.k] at this;exact this) (qG L);have ek:U.ak=n0.at_.map λj=>[Me S.nd j,LS S.nd j]:=Z.k;have ev:U.av=n0.at_.map (valOf S.nd):=Z.v;rw [a2,<- ek,<- ev] at ds;rw [ds];dsimp only;refine I.here h1 hf R (lv _) I.bB hN W2 (by have:=I.sz;exact Gr H this) (M3 H) (λx n hn=>?_) rfl rfl rfl λn bt T hb hc hp=>?_;by_cases q:x=j;cases q.symm;rw [J] at hn;obtain rfl:=an hn;exact ⟨_,gJ,rfl,λ_=>⟨rfl,.inl ⟨Q,ar⟩⟩,λh=>absurd Q h⟩;exact ⟨n,gO x n hn q,rfl,λ_=>⟨rfl,.inr rfl⟩,λ_=>eK n⟩;(have en:n=n0:=by have:=T.hn;rw [F] at this;exact (an this).symm);cases en.symm;(have fld:∀x,Me A x=Me S.nd x/\LS A x=LS S.nd x:=λx=>by unfold Me LS;rw [gt];by_cases q:j=x;cases q.symm;rw [bn rfl,J];exact ⟨rfl,rfl⟩;rw [al q];exact ⟨rfl,rfl⟩);refine ⟨n0,gT,by rw [SP R,bn rfl],T.kd,hp,T.lz,T.l5,λx hx=>?_,?_,?_,T.d,by show 0=n0.ch.length;rw [hc];rfl,λk a c h=>by rw [hc] at h;cases h⟩;by_cases q:x=j;cases q.symm;(exact ai as gJ rfl hu.1 hu.2 λk=>by rw [P]);rw [P];exact pQ (λm hm=>⟨m,gO x m hm q,eK m⟩) (T.r x hx);show U.ak=_;rw [T.k];(exact bK λx hx=>by rw [(fld x).1,(fld x).2]);show n0.at_.map _=_;exact bK λx hx=>by unfold valOf;by_cases q:x=j;cases q.symm;rw [bn rfl,gJ];rfl;rw [al q,gt,al (u8 q)]|none=>have gt:=JG F (Internal.mk pr af) aq af val L;(have H:(Internal.setAt S.nd t (Internal.mk pr af) aq af val).length=S.nd.length+1:=by have h1:=gt S.nd.length;rw [bn rfl] at h1;have:=s0 h1;have:=sd S.nd t (Internal.mk pr af) aq af val;exact BK (by assumption) this);generalize Internal.setAt S.nd t (Internal.mk pr af) aq af val=A at gt H⊢;(have gL:A[S.nd.length]? =some (on "attribute" (Internal.mk pr af) aq af val (some t)):=by rw [gt,bn rfl]);(have gT:A[t]? =some {n0 with at_:=n0.at_++[S.nd.length]}:=by rw [gt,al (US ak),bn rfl]);(have gO:∀(j:Nat) (m:Nd),S.nd[j]? =some m->j≠t->A[j]? =some m:=λj m hm q=>by have:=s0 hm;rw [gt,al (US this),al q];exact hm);(have ap:∀{a:Nat} {n:Nd},S.nd[a]? =some n->∀j∈n.ns,A[j]? =S.nd[j]? :=λ{a n} hn j hj=>by refine At (λm hm Y hk Y=>?_) (I.W.ns a n hn j hj);rw [hm];exact gO j m hm λq=>k2 (mB F hm q hk));(have av:∀j∈n0.at_,A[j]? =S.nd[j]? :=λj hj=>by refine At (λm hm Y Y q=>?_) (there j hj);rw [hm];exact gO j m hm q);(have up:∀(j:Nat) (m:Nd),S.nd[j]? =some m->∃V,A[j]? =some V/\V.kind=m.kind/\V.aC=m.aC/\(m.kind="namespace" ->V.name=m.name/\V.val=m.val):=λj m hm=>by refine eM F hm ?_ λq=>?_;exact ⟨_,gT,rfl,rfl,λ_=>⟨rfl,rfl⟩⟩;exact ⟨m,gO j m hm q,rfl,rfl,λ_=>⟨rfl,rfl⟩⟩);(have W2:CR B C A:= .m8 λj m hm=>by by_cases q:j=S.nd.length;cases q.symm;rw [gL] at hm;obtain rfl:=an hm;exact .leaf rfl rfl rfl rfl ak;(have hj:j<S.nd.length:=by have:=s0 hm;exact yv H q this);have J:=GS hj;by_cases q':j=t;cases q'.symm;rw [gT] at hm;obtain rfl:=an hm;have cr:=I.W.carry (B':=B) (C':=C) up (lv _) (lv _) F;refine {ch:=cr.ch,at_:=λa ha=>?_,aC:=cr.aC,zc:=cr.zc,za:= ?_,ns:=cr.ns,nu:=cr.nu,zn:=cr.zn};rcases Pf.mp ha with h|h;exact cr.at_ a h;rw [wb.mp h];exact ⟨_,gL,rfl,rfl⟩;show (n0.at_++[S.nd.length]).length<=_;rw [Ll];exact hz;rw [gO j _ J q'] at hm;obtain rfl:=an hm;exact I.W.carry up (lv _) (lv _) J);(have P:=pU λa ha=>by refine am (λm hm=>?_) (de I.path a ha);refine ⟨?_,by rw [xL hm];exact ap hm⟩;by_cases q:a=t;cases q.symm;rw [xL hm,xL gT];rw [F] at hm;obtain rfl:=an hm;rfl;rw [xL hm,xL (gO a m hm q)]);have ek:U.ak=n0.at_.map λj=>[Me S.nd j,LS S.nd j]:=Z.k;(have a0:[aq,af]∉U.ak:=λh=>by rw [ek] at h;refine ac (λj hj e=>?_) (e8.mp h);refine ac (λm hm Y=>?_) (there j hj);have:=kW.mp L j hj;rw [hm] at this;unfold Me LS at e;rw [hm] at e;have e':[m.aq,m.af]=[aq,af]:=e;simp at e';exact this (by show (decide (m.aq=aq)&&decide (m.af=af))=true;rw [e'.1,e'.2];simp));have ds:=OT (v:=val) zk a0;rw [ds];dsimp only;refine I.here h1 hf R (lv _) I.bB hN W2 (by have:=I.sz;exact tB H this) (rd H) (λj n hn=>?_) rfl rfl rfl λn bt T hb hc hp=>?_;by_cases q:j=t;cases q.symm;rw [F] at hn;obtain rfl:=an hn;exact ⟨_,gT,rfl,λh=>absurd rfl h,λ_=>⟨rfl,rfl,rfl,rfl,rfl⟩⟩;exact ⟨n,gO j n hn q,rfl,λ_=>⟨rfl,.inr rfl⟩,λ_=>eK n⟩;(have en:n=n0:=by have:=T.hn;rw [F] at this;exact (an this).symm);cases en.symm;refine ⟨_,gT,by rw [SP R,bn rfl],T.kd,hp,T.lz,T.l5,λx hx=>?_,?_,?_,?_,by show 0=n0.ch.length;rw [hc];rfl,λk a c h=>by have h':n0.ch[k]? =some a:=h;rw [hc] at h';cases h'⟩;(have a3:x∈t::n0.at_\/x=S.nd.length:=by have a1:x∈t::(n0.at_++[S.nd.length]):=hx;rw [<- List.cons_append] at a1;rcases Pf.mp a1 with h|h;exact .inl h;exact .inr (wb.mp h));rcases a3 with h|rfl;rw [P];refine pQ (λm hm=>?_) (T.r x h);refine eM F hm ?_ λq=>?_;exact ⟨_,gT,rfl,rfl,rfl,rfl,rfl⟩;exact ⟨m,gO x m hm q,eK m⟩;(exact ai (JK ak) gL rfl rfl rfl λk=>by rw [P]);show U.ak++_=(n0.at_++[S.nd.length]).map _;rw [List.map_append,T.k];congr 1;(exact bK λj hj=>by unfold Me LS;rw [av j hj]);show [[aq,af]]=[[Me A S.nd.length,LS A S.nd.length]];unfold Me LS;rw [gL];rfl;show U.av++_=(n0.at_++[S.nd.length]).map _;rw [List.map_append,T.v];congr 1;(exact bK λj hj=>by unfold valOf;rw [av j hj]);show [val]=[valOf A S.nd.length];unfold valOf;rw [gL];rfl;show (U.ak++[[aq,af]]).Nodup;rw [List.nodup_append];exact ⟨T.d,by simp,λa ha b hb q=>by rw [wb.mp hb] at q;rw [q] at ha;exact a0 ha⟩
theorem zq {k:Str} (p:k≠"xml") (h:bu c au k≠""):∃a,∃j∈qr c a,∃m,c[j]? =some m/\m.name=k:=by unfold bu at h;rw [al p] at h;cases n:(au.drop 1).reverse.findSome? (WA c k) with|none=>rw [n] at h;exact absurd rfl h|some v=>refine ac (λa Y l=>?_) (List.exists_of_findSome?_eq_some n);unfold WA at l;cases e:(qr c a).find? λj=>c[j]?.any λm=>decide (m.name=k) with|none=>rw [e] at l;exact nomatch l|some j=>have d:=List.find?_some e;have o:=qG e;cases g:c[j]? with|none=>rw [g] at d;cases d|some m=>rw [g] at d;exact ⟨a,j,o,m,g,ue d⟩
theorem CR.qA (W:CR B C nd) (hj:j∈qr nd a) (hm:nd[j]? =some m):m.name∈PD/\(m.val="" ->m.name="")/\∀k:Nat,B<=k->k<50->m.name≠Fa k:=by cases h:nd[a]? with|none=>rw [se h] at hj;exact nomatch hj|some n=>rw [xL h] at hj;refine At (λA y Y Y x=>?_) (W.ns a n h j hj);rw [hm] at y;obtain rfl:=an y;exact x
theorem Inv.BW (I:Inv B N C S ag rows g t i) {k:Str} (j:k≠"xml"):bu S.nd S.au k=(sc S.nd S.au k).getD "" :=by refine am (λr y=>?_) I.o5;rw [y];exact A5 j I.n5 λa _=>I.W.tR a
theorem CR.there (W:CR B C nd) {a:Nat} (h:nd[a]? =some n):OK nd n.ns/\OK nd n.at_/\OK nd n.ch:=⟨λk j hj=>let ⟨m,hm,_⟩:=W.ns a n h j (Lm hj);⟨m,hm⟩,λk j hj=>let ⟨m,hm,_⟩:=W.at_ a n h j (Lm hj);⟨m,hm⟩,λk j hj=>let ⟨m,hm,_⟩:=W.ch a n h j (Lm hj);⟨m,hm⟩⟩
theorem Inv.Jx (I:Inv B N C S ag rows g t i):jZ S:=by have a:=I.ol;have b:=I.bB;have c:=I.sz;have d:=I.zN;refine ⟨BJ a b,by exact wn (by assumption) (wn (by assumption) (by decide)),λx j=>?_⟩;refine am (λn hn=>?_) (de I.path x j);have:=I.W.zn x n hn;exact ⟨n,hn,lY b this,(I.W.there hn).1⟩
theorem Inv.oJ (I:Inv B N C S ag rows g t i) (H:S.au.length≠1) (j:S.nd[t]? =some y):TopE S t y:=by refine am (λn T=>?_) I.bj;have:=T.g;rw [j] at this;obtain rfl:=an this;refine xy (λn0 E J A Y=>?_) I.bk;have:=A.hn;rw [j] at this;obtain rfl:=an this;have t5:=I.nk H;have kd:=A.kd;rw [al (Py t5)] at kd;have b:=I.bB;have zn:=I.W.zn t y j;have za:=I.W.za t y j;have F:=I.W.there j;exact {toNL:=T,e:=kd,ns:=lY b zn,tn:=F.1,at_:=lY b za,ta:=F.2.1}
theorem Inv.W6 (I:Inv B N C S ag rows g t i) (F:S.au.length≠1) (y:S.nd[t]? =some L) {aq:Str} (hu:aq≠""):rY S t L aq B:=by refine xy (λn0 E R H Y=>?_) I.bk;have:=H.hn;rw [y] at this;obtain rfl:=an this;have t5:=I.nk F;have b:=I.bB;refine ⟨I.Jx,I.oJ F y,λj hj=>?_,by exact wn (by assumption) (by decide),?_,hu⟩;refine pi (λm p hm A Y=>?_) (H.r j hj);rcases A with t|t;revert t;refine pt λY P Q J=>?_;have:=iU P Q;exact ⟨m,p,m.af,hm,by rw [J];exact this.n,by rw [J];exact this.s⟩;revert t;refine aa λx Y=>?_;exact (J3 t5 x).elim;refine Classical.byContradiction λq=>?_;obtain ⟨a,j,hj,m,hm,e⟩:=zq (hG ⟨B,by exact wn (by assumption) (by decide)⟩).2.1 q;exact (I.W.qA hj hm).2.2 B (lv _) (by exact wn (by assumption) (by decide)) e
theorem yQ {p:Str} (h:p≠""):mk p l=p++":" ++l:=al h
set_option tactic.hygienic true in theorem Inv.attr (I:Inv B N C S ag rows g t i) (L:S.au.length≠1) (hf:S.has.getLast? =some false) (hB:B+1<=20) (hN:N+2<=400) {nt:Nd} {E:El} (F:S.nd[t]? =some nt) (ai:ag[i]? =some E) {af:Str} val (hp:p∈[("p" :Str),"q"]) (V:af∈LD) (hu:aq∈[("u" :Str),"v"]) (P:PF S t nt p aq B pr A):ox A t pr af/\Inv (B+1) (N+2) C ⟨S.root,Internal.setAt A t (pr++":" ++af) aq af val,S.au,S.has,S.pre,S.az⟩ (ag.set i ⟨E.aq,E.af,(pb [aq,af] val E.ak E.av).1,(pb [aq,af] val E.ak E.av).2,E.ch⟩) rows g t i:=by
 have b:=I.bB;have a3:=I.W.za t nt F;have H:aq≠"" /\aq≠WI:=by simp only [List.mem_cons,List.not_mem_nil,or_false] at hu;rcases hu with rfl|rfl<;>exact ⟨by decide,by decide⟩
 have Z:p∈PD/\p≠"" /\∀k:Nat,k<50->p≠Fa k:=by simp only [List.mem_cons,List.not_mem_nil,or_false] at hp;rcases hp with rfl|rfl;exact ⟨by decide+kernel,by decide,λk hk h=>(hG ⟨k,hk⟩).2.2.1 h.symm⟩;exact ⟨by decide+kernel,by decide,λk hk h=>(hG ⟨k,hk⟩).2.2.2.1 h.symm⟩
 have ok:∀{B' N':Nat} {A:List Nd} {ab:Nd} {pr:Str},pr∈PD->Inv B' N' C ⟨S.root,A,S.au,S.has,S.pre,S.az⟩ ag rows g t i->A[t]? =some ab->ox A t pr af:=λ{B' N' A ab pr} ax J hn=>by have T:=J.oJ L hn;have nm:=iU ax V;have:=T.at_;have:=T.toNL.b;exact ⟨ab,hn,T.e,by exact be (by assumption) (by decide),T.ta,Op this (by decide),be nm.zp (by decide),be nm.zl (by decide)⟩
 have ap:pr∈PD->pr≠"" ->(∀k:Nat,B+1<=k->k<50->pr≠Fa k)->pr∉(qr S.nd t).map (KF S.nd)->(∀j∈t::nt.at_,∀m p,S.nd[j]? =some m->p∈PD->m.af∈LD->m.name=Internal.mk p m.af->(p≠"" ->∃v,sc S.nd S.au p=some v/\v≠"")->p≠pr)->ox (B0 S.nd t pr aq) t pr af/\Inv (B+1) (N+2) C ⟨S.root,Internal.setAt (B0 S.nd t pr aq) t (pr++":" ++af) aq af val,S.au,S.has,S.pre,S.az⟩ (ag.set i ⟨E.aq,E.af,(pb [aq,af] val E.ak E.av).1,(pb [aq,af] val E.ak E.av).2,E.ch⟩) rows g t i:=λa1 a2 a6 a4 a5=>by obtain ⟨J,U,hn⟩:=I.bind L hf hB (by exact Co (by assumption)) F H.1 a1 a2 a6 a4 a5;rw [<- yQ a2];exact ⟨ok a1 J hn,J.setAt L hf hN hn ai (by show nt.at_.length+1<=_;exact Pe (by assumption)) val a1 V (.inr ⟨a2,H.1,U⟩)⟩
 rcases P with ⟨q1,R,rfl⟩|⟨rfl,⟨rfl,q⟩|⟨M,hM,rfl,q⟩⟩;have hx:pr≠"xml" :=λh=>by rw [h] at R;exact H.2 R.symm
 refine tz (λa j hj=>ac λm hm e=>?_) (zq hx (by rw [R];exact H.1));have a1:pr∈PD:=by rw [<- e];exact (I.W.qA hj hm).1
 have U:sc S.nd S.au pr=some aq:=by rw [I.BW hx] at R;cases h:sc S.nd S.au pr with|none=>rw [h] at R;exact absurd R.symm H.1|some v=>rw [h] at R;exact l9 some R
 rw [<- yQ q1];exact ⟨ok a1 I F,((I.fK (s4 _) hB).mono (s4 N) (lv _) (by exact Co (by assumption)) I.zC).setAt L hf hN F ai (by exact Pe (by assumption)) val a1 V (.inr ⟨q1,H.1,U⟩)⟩;unfold taken at q;simp only [Bool.or_eq_false_iff,decide_eq_false_iff_not] at q;revert q;refine aa (aa λY R q3=>?_);unfold mA at R;refine ap Z.1 Z.2.1 (λk _ hk=>Z.2.2 k hk) (of_decide_eq_false R) λj hj m p hm x1 x2 x3 _ e=>q3 ?_;rw [<- e];have:kM S.nd j=p:=by unfold kM;rw [bS hm,x3,(iU x1 x2).s];rfl
 rw [<- this];exact jf hj;have hb:M<50:=by exact wn (by assumption) (wn (by assumption) (by decide))
 have aW:=hG ⟨M,hb⟩;have hx:=aW.2.1;rw [I.BW hx] at q;refine ap (List.mem_append_right _ (jf (List.mem_range.mpr (by exact wn (by assumption) (wn (by assumption) (by decide)))))) aW.1 (λk h h' e=>?_) (λh=>?_) λj hj m p hm x1 x2 x3 x4 e=>?_;have:=KQ ⟨M,hb⟩ ⟨k,h'⟩ e;have:=Fin.mk.inj this;exact YQ hM h this;rw [xL F] at h;refine ac (λj hj e=>?_) (e8.mp h);have ar:=I.path;generalize S.au=op at ar q;cases ar with|cons hn r=>rename_i n l;rw [jx,yO (I.W.tR t)] at q;(have av:j∈qr S.nd t:=by rw [xL F];exact hj);cases Q:WA S.nd (Fa M) t with|none=>(unfold WA at Q;cases y:(qr S.nd t).find? λj=>S.nd[j]?.any λm=>decide (m.name=Fa M) with|none=>have:=kW.mp y j av;refine ac (λm hm Y=>?_) (I.W.ns t nt F j hj);rw [bS hm] at e;rw [hm] at this;exact this (by show decide (m.name=Fa M)=true;rw [e];simp)|some j2=>rw [y] at Q;have L:=List.find?_some y;cases hm:S.nd[j2]? with|none=>rw [hm] at L;cases L|some m=>rw [jg,hm] at Q;exact nomatch Q)|some v=>rw [Q] at q;(have ak:v≠"" :=λz=>by unfold WA at Q;cases y:(qr S.nd t).find? λj=>S.nd[j]?.any λm=>decide (m.name=Fa M) with|none=>rw [y] at Q;cases Q|some j2=>rw [y] at Q;have L:=List.find?_some y;have h2:=qG y;cases hm:S.nd[j2]? with|none=>rw [hm] at L;cases L|some m=>rw [jg,hm] at Q;rw [hm] at L;have as:m.val=v:=an Q;have a0:=ue L;have:=(I.W.qA h2 hm).2.1 (by rw [as,z]);exact aW.1 (by rw [<- this];exact a0.symm));dsimp only at q;rw [al ak] at q;exact ak q
 subst e;refine ac (λv y1 y2=>?_) (x4 aW.1);rw [y1] at q;exact y2 q
theorem Inv.Bp (I:Inv B N C S ag rows g t i) (F:S.au.length≠1) (Q:S.has.getLast? =some false) (P:B+1<=20) (J:N+2<=400) (j:S.nd[t]? =some H) (A:ag[i]? =some E) val (y:af∈LD):Inv (B+1) (N+2) C ⟨S.root,Internal.setAt S.nd t af "" af val,S.au,S.has,S.pre,S.az⟩ (ag.set i ⟨E.aq,E.af,(pb [("" :Str),af] val E.ak E.av).1,(pb [("" :Str),af] val E.ak E.av).2,E.ch⟩) rows g t i:=by have L:=I.W.za t H j;exact ((I.fK (s4 _) P).mono (s4 N) (lv _) (by exact Co (by assumption)) I.zC).setAt (pr:="") F Q J j A (by exact Pe (by assumption)) val (by decide+kernel) y (.inl ⟨rfl,rfl⟩)
def uF (m:Nd) (t:List Str):Prop:=m.val.length<=1000/\((∃x,t=[("comment" :Str),x]/\m.kind="comment" /\Txt.contains m.val "--" =false/\Txt.slice m.val (some (-1)) none≠"-" /\Txt.replace m.val " " "" =x)\/(t=[("instruction" :Str),m.name,m.val]/\m.kind="instruction"))
theorem Inv.leaf (I:Inv B N C S ag rows g t i) (hp:S.az=[]) (Z:N+1<=400) (hC:C+1<=400) {E:El} (J:ag[i]? =some E) (hk:uF new x) (P:new.aC=some t) (R:new.ch=[]) (V:new.at_=[]) (h4:new.ns=[]):Inv B (N+1) (C+1) ⟨S.root,tw S.nd t new,S.au,zw S.has true,S.pre,[]⟩ (ag.set i {E with ch:=E.ch++[.tup x]}) rows g t i/\So ⟨S.root,tw S.nd t new,S.au,zw S.has true,S.pre,[]⟩ (ag.set i {E with ch:=E.ch++[.tup x]}) i:=by
 refine xy (λU E0 bt L Y=>?_) I.bk;have F:=s0 L.hn;have G:=lg L.hn new;have H:(tw S.nd t new)[S.nd.length]? =some new:=by rw [dg F,bn rfl]
 have A:=iP S.nd t new;generalize tw S.nd t new=ab at G H A⊢;have Q:new.kind≠"attribute" /\new.kind≠"namespace" :=by rcases hk.2 with ⟨y,_,e,_⟩|⟨_,e⟩<;>rw [e]<;>exact ⟨by decide,by decide⟩
 have W':=I.W.grow G (lv _) (s4 _) (Pe (I.W.zc t U L.hn)) ⟨_,H,P,Q.1,Q.2⟩ λj m hj hm=>by (have:j=S.nd.length:=by have:=s0 hm;exact Dx A hj this);subst this;rw [H] at hm;obtain rfl:=an hm;exact .leaf R V h4 P F
 exact I.child hp J G W' (lv _) I.bB (by have:=I.sz;exact tB A this) Z hC (rd A) (λ_ _ h=>h) ⟨new,H,hk.1,hk.2⟩ (λe c h=> .inl h) λs h=>bJ (l9 oF h)
theorem D8 S t new:pJ (comes S t) t new=⟨(settle S t).root,tw (settle S t).nd t new,(settle S t).au,zw (settle S t).has true,(settle S t).pre,[]⟩:=by unfold pJ comes;dsimp only;rw [Cb,jo]
theorem NL.comes (T:NL (settle S t) t n):NL (comes S t) t n:=⟨T.l,T.o,by show (zw S.has true).length<100;rw [gu,<- jo S t];exact T.h,by show 0<(zw S.has true).length;rw [gu,<- jo S t];exact T.hp,T.p,T.s,T.b,T.g,T.k,T.c⟩
theorem Lr:∀s∈[("c" :Str),"a--b","---","-"],∃k f,Reach k s f/\∀t:Nat,uF (on "comment" "" "" "" (dN f) (some t)) [("comment" :Str),Txt.replace s " " ""]:=by
 have fin:∀s f:Str,(decide ((dN f).length<=1000)&&(Txt.contains (dN f) "--" ==false)&& !decide (Txt.slice (dN f) (some (-1)) none="-")&&decide (Txt.replace (dN f) " " "" =Txt.replace s " " ""))=true->∀t:Nat,uF (on "comment" "" "" "" (dN f) (some t)) [("comment" :Str),Txt.replace s " " ""]:=λs f h t=>by simp only [Bool.and_eq_true,decide_eq_true_eq,Bool.not_eq_true',decide_eq_false_iff_not,beq_iff_eq] at h;revert h;refine aa (aa (aa λa b c d=>?_));exact ⟨a,.inl ⟨_,rfl,rfl,b,c,d⟩⟩
 intro s e;simp only [List.mem_cons,List.not_mem_nil,or_false] at e;rcases e with rfl|rfl|rfl|rfl;exact ⟨0,"c",.stop (by decide+kernel) (by decide+kernel),fin _ _ (by decide+kernel)⟩;exact ⟨1,"a- -b",.step (by decide+kernel) (by decide+kernel) (by rw [show Txt.replace "a--b" "--" "- -" =("a- -b" :Str) by decide+kernel];exact .stop (by decide+kernel) (by decide+kernel)),fin _ _ (by decide+kernel)⟩;exact ⟨2,"- - -",.step (by decide+kernel) (by decide+kernel) (by rw [show Txt.replace "---" "--" "- -" =("- --" :Str) by decide+kernel];exact .step (by decide+kernel) (by decide+kernel) (by rw [show Txt.replace "- --" "--" "- -" =("- - -" :Str) by decide+kernel];exact .stop (by decide+kernel) (by decide+kernel))),fin _ _ (by decide+kernel)⟩;exact ⟨0,"-",.stop (by decide+kernel) (by decide+kernel),fin _ _ (by decide+kernel)⟩
noncomputable def nZ:List Str:=["a?>b","","??>>"," d "]
theorem XF:(LD.all λl=>nZ.all λd=>decide (Txt.join "? >" (Txt.split d "?>")=Txt.replace d "?>" "? >")&&decide ((Txt.replace d "?>" "? >").length<=1000)&&decide (d.length<=100)&&ft ("i-" ++l)&&decide (("i-" ++l).length<=100)&&decide ((Txt.lower ("i-" ++l)).length<=1000)&&p5 ("i-" ++l)&& !decide (Txt.lower ("i-" ++l)="xml"))=true:=by decide+kernel
theorem Kg (k:l∈LD) (hd:d∈nZ):Txt.join "? >" (Txt.split d "?>")=Txt.replace d "?>" "? >" /\(Txt.replace d "?>" "? >").length<=1000/\d.length<=100/\ft ("i-" ++l)=true/\("i-" ++l).length<=100/\(Txt.lower ("i-" ++l)).length<=1000/\p5 ("i-" ++l)=true/\Txt.lower ("i-" ++l)≠"xml" :=by have:=LG.mp (LG.mp XF l k) d hd;simp only [Bool.and_eq_true,decide_eq_true_eq,Bool.not_eq_true',decide_eq_false_iff_not] at this;refine s3 λ_ j=>?_;revert this;refine aa (aa (aa (aa (aa (aa (aa λa b c d e f g h=>?_))))));refine j ?_;exact ⟨a,b,c,d,e,f,g,h⟩
theorem Xp:([("xml" :Str),"1a","XML",""].all λg=>ft g&&decide (g.length<=100)&&decide ((Txt.lower g).length<=1000)&&(!p5 g||decide (Txt.lower g="xml")))=true:=by decide+kernel
theorem XI {g:Str} (h:g∈[("xml" :Str),"1a","XML",""]):ft g=true/\g.length<=100/\(Txt.lower g).length<=1000/\(p5 g=false\/(p5 g=true/\Txt.lower g="xml")):=by have:=LG.mp Xp g h;simp only [Bool.and_eq_true,decide_eq_true_eq,Bool.or_eq_true,Bool.not_eq_true'] at this;revert this;refine aa (aa (aa λa b c d=>?_));refine ⟨a,b,c,?_⟩;cases e:p5 g with|false=>exact .inl rfl|true=>rw [e] at d;exact .inr ⟨rfl,d.resolve_left (by decide)⟩
theorem Inv.DX (I:Inv B N C S ag rows g t i) (hp:S.az=[]) (V:B+1<=20) has (Q:has.length=S.has.length) name aq af:jZ (TW ⟨S.root,S.nd,S.au,has,S.pre,S.az⟩ t name aq af)/\∃P,TopE (TW ⟨S.root,S.nd,S.au,has,S.pre,S.az⟩ t name aq af) S.nd.length P:=by
 refine xy (λR Z U H Y=>?_) I.bk;have F:=s0 H.hn;unfold TW;dsimp only;have G:=lg H.hn (on "element" name aq af "" (some t));have E:(tw S.nd t (on "element" name aq af "" (some t)))[S.nd.length]? =some (on "element" name aq af "" (some t)):=by rw [dg F,bn rfl]
 have y:=iP S.nd t (on "element" name aq af "" (some t));generalize tw S.nd t (on "element" name aq af "" (some t))=A at G E y⊢;have a:=I.ol;have b:=I.bB;have c:=I.sz;have d:=I.zN;have e:=I.hl;have J:(S.au++[S.nd.length]).length<100:=by rw [Ll];show S.au.length+1<100;exact PJ a b
 have nil:∀nd,OK nd []:=λnd k j h=>by cases h
 refine ⟨⟨J,by show A.length<900;exact DL y c d,λx L=>?_⟩,on "element" name aq af "" (some t),⟨⟨by simp,J,?_,?_,?_,?_,by show A.length<900;exact DL y c d,E,.inr rfl,by show (0:Nat)<900;exact e7 _ _⟩,rfl,by show (0:Nat)<900;exact e7 _ _,nil _,by show (0:Nat)<900;exact e7 _ _,nil _⟩⟩;rcases Pf.mp L with h|h;refine am (λn hn=>?_) (de I.path x h);have z:=I.W.zn x n hn;refine ⟨_,G.get hn,?_,?_⟩;rw [(TT ..).2.2.2];exact lY b z;rw [(TT ..).2.2.2];intro k j hj;refine am (λm hm=>?_) ((I.W.there hn).1 k j hj);exact ⟨_,G.get hm⟩;rw [wb.mp h];exact ⟨_,E,by show (0:Nat)<900;exact e7 _ _,nil _⟩;show (has++[false]).length<100;rw [Ll];show has.length+1<100;exact IP Q a b e;show 0<(has++[false]).length;rw [Ll];show 0<has.length+1;exact e7 _ _;show S.az.length<100;rw [hp];decide;show (S.az.map (·.length)).sum<=10000;rw [hp];decide
theorem sx:∀{c:List Nat} {f:Sc},(∀j∈c,∀m,a[j]? =some m->m.name≠k)->c.foldl (Mc a) f k=f k| [],_,_=>rfl|j::r,f,h=>by rw [eA,sx λj d=>h j (FM _ d)];unfold Mc;cases e:a[j]? with|none=>rfl|some m=>dsimp only;rw [al (h j (wS ..) m e)]
theorem z9:∀{l:List Nat} {f:Sc},(∀a∈l,∀j∈qr c a,∀m,c[j]? =some m->m.name≠k)->l.foldl (fJ c) f k=f k| [],_,_=>rfl|a::r,f,h=>by rw [eA,z9 λa d=>h a (FM _ d)];exact sx (h a (wS ..))
noncomputable def o0:Nd:=⟨"root","","","","",none,[1],[],[]⟩
noncomputable def o1:Nd:=⟨"element","r:e","w","e","",some 0,[4],[3],[2]⟩
noncomputable def oN:Nd:=⟨"namespace","r","","r","w",some 1,[],[],[]⟩
noncomputable def oA:Nd:=⟨"attribute","n","","n","5",some 1,[],[],[]⟩
noncomputable def oT:Nd:=⟨"text","","","","deep",some 1,[],[],[]⟩
noncomputable def iq (t L:Nat) (ch a:List Nat):Nd:=⟨"element","r:e","w","e","",some t,ch,[L+2],(L+1)::a⟩
structure xH (nd BS:List Nd) (t:Nat) (nt:Nd) (M:Nat) (xs:List Nat):Prop where
 G:bw nd BS t nt nd.length
 e:BS[nd.length]? =some (iq t nd.length [M] xs)
 n:BS[nd.length+1]? =some (on "namespace" "r" "" "r" "w" (some nd.length))
 a:BS[nd.length+2]? =some (on "attribute" "n" "" "n" "5" (some nd.length))
 x:(xs=[]/\M=nd.length+3)\/(xs=[nd.length+3]/\M=nd.length+4/\BS[nd.length+3]? =some (on "namespace" "" "" "" "" (some nd.length)))
 m:BS[M]? =some (on "text" "" "" "" "deep" (some nd.length))
 z:BS.length=M+1
structure Hd (nd BS:List Nd) (t:Nat) (nt:Nd):Prop where
 G:bw nd BS t nt nd.length
 e:BS[nd.length]? =some (iq t nd.length [] [])
 n:BS[nd.length+1]? =some (on "namespace" "r" "" "r" "w" (some nd.length))
 a:BS[nd.length+2]? =some (on "attribute" "n" "" "n" "5" (some nd.length))
 z:BS.length=nd.length+3
theorem vV {a:List Nd} (h:a.length<=k+1) (e:a[k]? =some m):a.length=k+1:=by have:=s0 e;exact Nk h this
theorem Kh {a:List Nd} (r:a[t]? =some v):Hd a (ID a o1 oN oA t) t v:=by
 have m:=s0 r;unfold ID;have q:=lg r (AN o1 t);have e1:(tw a t (AN o1 t))[a.length]? =some (AN o1 t):=by rw [dg m,bn rfl]
 have k:=iP a t (AN o1 t);generalize tw a t (AN o1 t)=g at q e1 k⊢;have g2:=qX e1 rfl oN.name oN.val;have o:=jN g a.length oN.name oN.val;generalize B0 g a.length oN.name oN.val=c at g2 o⊢;have l:c.length=a.length+2:=vV (Hn k o) (by rw [g2,bn k.symm]);have x:c[a.length]? =some {AN o1 t with ns:=[g.length]}:=by rw [g2,al (VO o l),bn rfl]
 have g3:=Ec x rfl oA.name oA.aq oA.af oA.val;have d:=sd c a.length oA.name oA.aq oA.af oA.val;generalize setAt c a.length oA.name oA.aq oA.af oA.val=p at g3 d⊢;have e:p.length=a.length+3:=vV (QT l d) (by rw [g3,bn l.symm]);refine ⟨⟨r,λj n w u=>?_,?_⟩,?_,?_,?_,e⟩;have:=s0 u;rw [g3,al (JF d e this),al (US this),g2,al (SR o d e this),al (US this)];exact q.o j n w u;rw [g3,al (J9 m d e),al (US m),g2,al (RV m o d e),al (US m)];exact q.t';rw [g3,al (M1 d e),bn rfl,k,l];rfl;rw [g3,al (KI d e),al M8,g2,bn k.symm];rfl;rw [g3,bn l.symm];rfl
theorem U1 {e:List Nd} (H:Hd e g t L) k:∃d M l,eY g e.length k=d/\d.length=M/\d[e.length]? =some (iq t e.length [] l)/\(∀j m,j≠e.length->g[j]? =some m->d[j]? =some m)/\xH e (tw d e.length (AN oT e.length)) t L M l:=by
 have F:=s0 H.G.ht;have fin:∀(d:List Nd) (M:Nat) (l:List Nat),d.length=M->e.length+2<M->d[e.length]? =some (iq t e.length [] l)->(∀j m,j≠e.length->g[j]? =some m->d[j]? =some m)->((l=[]/\M=e.length+3)\/(l=[e.length+3]/\M=e.length+4/\d[e.length+3]? =some (on "namespace" "" "" "" "" (some e.length))))->xH e (tw d e.length (AN oT e.length)) t L M l:=λd M l q o I x S=>by have w:=λj=>dg (nd:=d) (p:=e.length) (new:=AN oT e.length) (s0 I) j;have Q:=iP d e.length (AN oT e.length);generalize tw d e.length (AN oT e.length)=C at w Q⊢;(have old:∀j m,j≠e.length->j<M->d[j]? =some m->C[j]? =some m:=λj m z u R=>by rw [w,al (KW q u),al z];exact R);refine ⟨⟨H.G.ht,λj n A P=>?_,?_⟩,?_,?_,?_,?_,?_,W0 q Q⟩;have:=s0 P;exact old j n (jP this) (Sz o this) (x j n (jP this) (H.G.o j n A P));exact old t _ (jP F) (Fn F o) (x t _ (jP F) H.G.t');rw [w,al (XC q o),bn rfl,I,q];rfl;exact old _ _ Bh (by exact Co (by assumption)) (x _ _ Bh H.n);exact old _ _ yX (by assumption) (x _ _ yX H.a);rcases S with h|t;exact .inl h;revert t;refine im λa b c=>?_;exact .inr ⟨a,b,old _ _ FZ (by exact fp (Eq.symm (by assumption))) c⟩;rw [w,bn q.symm];rfl
 have r:=H.z;unfold eY;by_cases h:("" :Str)∈k;rw [bn h];have v:=A6 H.e "" "" (by refine kW.mpr λj A=>?_;have y:=A;rw [wb.mp y,H.n];show ¬(decide (("r" :Str)="")=true);decide);have E:=jN g e.length "" "";generalize B0 g e.length "" "" =d at v E⊢;have N:d[e.length+3]? =some (on "namespace" "" "" "" "" (some e.length)):=by rw [v,bn r.symm]
 have B:d.length=e.length+4:=vV (Nf r E) N;have O:d[e.length]? =some (iq t e.length [] [e.length+3]):=by rw [v,al (K2 E B),bn rfl,r];rfl
 have J:∀j m,j≠e.length->g[j]? =some m->d[j]? =some m:=λj m z u=>by have:=s0 u;rw [v,al (US this),al z];exact u
 exact ⟨d,e.length+4,[e.length+3],rfl,B,O,J,fin d _ _ B Uy O J (.inr ⟨rfl,rfl,N⟩)⟩;rw [al h];exact ⟨g,e.length+3,[],rfl,r,H.e,λj m _ h=>h,fin g _ _ r P4 H.e (λj m _ h=>h) (.inl ⟨rfl,rfl⟩)⟩
theorem WD:xz aN [0,1]=((["xml","r"],[WI,"w"]):SD):=by decide+kernel
theorem Inv.copy (I:Inv B N C S ag rows g t i) (hp:S.az=[]) (hN:N+5<=400) (hC:C+1<=400) (ai:ag[i]? =some Et):∃nt nf a6 y,S.nd[t]? =some nt/\S.nd[1]? =some o1/\iB S.nd o1 oN oA oT t (S.au++[S.nd.length])=y/\(∀(σ:Sg),YA σ->(∀i k,σ.aD i k=none)->σ.tree=some S.nd->Cp σ S.nd 1 t o1 nt oN oA oT nf a6 2 3 4 [0,1] (S.au++[S.nd.length]))/\Inv B (N+5) (C+1) ⟨S.root,y,S.au,zw S.has true,S.pre,[]⟩ (ag.set i {Et with ch:=Et.ch++[.el 0]}) rows (λa=>if a=S.nd.length then some 0 else g a) t i/\So ⟨S.root,y,S.au,zw S.has true,S.pre,[]⟩ (ag.set i {Et with ch:=Et.ch++[.el 0]}) i:=by
 refine s3 λ_ kk=>?_;refine xy (λnt E0 bt Q Y=>?_) I.bk;refine im (λk0 k1 k2=>?_) (eJ Q.kd);have ak:=s0 Q.hn;have t5:=I.t5;have s6:=I.s6;have sz:=I.sz;have bB:=I.bB;have ol:=I.ol;have i0:=I.r0 i (jj I.aP);have H:=Kh Q.hn;refine l6 (λar M P L z4=>im λe4 o4 D=>?_) (U1 H (xz (ID S.nd o1 oN oA t) (S.au++[S.nd.length])).1);have a3:iB S.nd o1 oN oA oT t (S.au++[S.nd.length])=tw ar S.nd.length (AN oT S.nd.length):=by unfold iB;rw [L]
 have bi:=I.aN;refine kk ?_;generalize Z:ID S.nd o1 oN oA t=A at H L o4;have J:∀j,j<5->A[j]? =Internal.aN[j]? :=λj hj=>by rw [<- I.aN j hj];have e:=GS (show j<S.nd.length by lia);rw [e];exact H.G.o j _ (qe t5 hj) e
 have p1:CS A (some 1) [0,1]:= .cons (p:=1) (n:=o1) (l:=[0]) (by rw [J 1 (by decide)];rfl) (.cons (p:=0) (n:=o0) (l:=[]) (by rw [J 0 (by decide)];rfl) .nil);have p2:CS A (some S.nd.length) (S.au++[S.nd.length]):= .cons H.e (jd I.path λa ha n hn=>⟨_,H.G.get hn,(TT ..).2.1⟩);have ab:∀(a:Nat) (n:Nd),S.nd[a]? =some n->qr A a=n.ns:=λa n hn=>by rw [xL (H.G.get hn),(TT ..).2.2.2]
 have av:∀(a:Nat) (n:Nd),S.nd[a]? =some n->∀j∈n.ns,A[j]? =S.nd[j]? :=λa n hn j hj=>by refine At (λm hm Y hk Y=>?_) (I.W.ns a n hn j hj);rw [hm];exact H.G.o j m (λq=>k2 (mB Q.hn hm q hk)) hm
 have so:xz A [0,1]=((["xml","r"],[WI,"w"]):SD):=by rw [<- WD];refine BZ λa ha=>?_;(have F:a=0\/a=1:=by simpa using ha);(have e0:qr A 0=[]:=by rw [xL (n:=o0) (by rw [J 0 (by decide)];rfl)];rfl);(have e1:qr A 1=[2]:=by rw [xL (n:=o1) (by rw [J 1 (by decide)];rfl)];rfl);rcases F with rfl|rfl;exact ⟨e0,λj hj=>by cases hj⟩;refine ⟨e1,λj hj=>?_⟩;have:j=2:=wb.mp hj;subst this;exact J 2 (by decide)
 have one:qr A S.nd.length=[S.nd.length+1]:=xL H.e;have U:f9 A [0,1]:=⟨by decide,λa ha=>by (have F:a=0\/a=1:=by simpa using ha);rcases F with rfl|rfl;rw [xL (n:=o0) (by rw [J 0 (by decide)];rfl)];exact ⟨(λk j h=>by cases h),(by decide)⟩;rw [xL (n:=o1) (by rw [J 1 (by decide)];rfl)];refine ⟨λk j h=>?_,by decide⟩;have:j=2:=wb.mp (Lm h);subst this;exact ⟨oN,by rw [J 2 (by decide)];rfl⟩⟩;have R:f9 A (S.au++[S.nd.length]):=by refine ⟨(by rw [Ll];show S.au.length+1<=30;exact PY bB ol),λa ha=>?_⟩;rcases Pf.mp ha with h|h;refine am (λn hn=>?_) (de I.path a h);rw [ab a n hn];have:=I.W.zn a n hn;refine ⟨λk j hj=>?_,xr bB this⟩;refine am (λm hm=>?_) ((I.W.there hn).1 k j hj);exact ⟨m,by rw [av a n hn j (Lm hj)];exact hm⟩;rw [wb.mp h,one];refine ⟨λk j hj=>?_,by show 1<=30;decide⟩;have:j=S.nd.length+1:=wb.mp (Lm hj);subst this;exact ⟨_,H.n⟩
 have s2:=(nU A (S.au++[S.nd.length])).2;have as:sc A (S.au++[S.nd.length]) "xml" =some WI:=by unfold sc;rw [z9];rw [bn rfl];intro a ha j hj m hm;rcases Pf.mp ha with h|h;refine am (λn hn=>?_) (de I.path a h);rw [ab a n hn] at hj;rw [av a n hn j hj] at hm;have:=(I.W.qA (a:=a) (by rw [xL hn];exact hj) hm).1;exact λq=>X0 (by rw [q] at this;exact this);rw [wb.mp h,one] at hj;rw [wb.mp hj,H.n] at hm;obtain rfl:=an hm;show ("r" :Str)≠"xml";decide
 have ap:∀{y:List Nd} (l:List Nat) (P:List Nat),qr y S.nd.length=(S.nd.length+1)::P->(∀j∈P,∀m,y[j]? =some m->m.name≠"r")->y[S.nd.length+1]? =some (on "namespace" "r" "" "r" "w" (some S.nd.length))->sc y (l++[S.nd.length]) "r" =some ("w" :Str):=λ{y} l P h1 h2 h3=>by rw [jx];unfold fJ;rw [h1,eA,sx h2];unfold Mc;rw [h3];show (if ("r" :Str)="r" then (if ("w" :Str)="" then none else some ("w" :Str)) else _:Option Str)=_;rw [bn rfl,al (by decide)]
 have zc:=I.W.zc t nt Q.hn;have zN:=I.zN;have zC:=I.zC;have V:=I.aN 1 (by decide);refine ⟨nt,iq t S.nd.length [] [],iq t S.nd.length [] P,_,Q.hn,V,a3,λσ hc tm ht=>?_,?_⟩;rw [<- Z] at p1 p2 so one U R s2 as L;have nil:∀nd,OK nd []:=λnd k j h=>by cases h
 exact {ht:=ht,hb:=by exact wn (by assumption) (wn (by assumption) (by decide)),hc:=hc,tm:=tm,hn:=V,hp:=Q.hn,hk:=k0,CT:=by exact wn (by assumption) (wn (by assumption) (by decide)),aW:=Es t5,ke:=rfl,e1:=rfl,e2:=rfl,e3:=rfl,hj:=I.aN 2 (by decide),ha:=I.aN 3 (by decide),hm:=I.aN 4 (by decide),Dw:=Qx t5,Ao:=Q5 t5,Gq:=Xd t5,c1:=rfl,c2:=rfl,c3:=rfl,n1:=by rw [Z,H.z];exact Ge sz zN,As:=by decide,p1:=p1,o1:=U,p2:=p2,o2:=R,f1:=by rw [Z];exact H.e,f2:=rfl,f3:=by show 1<1000;decide,f4:=by rw [Z];intro k j hj;have:j=S.nd.length+1:=wb.mp (Lm hj);subst this;exact ⟨_,H.n⟩,w1:=by rw [so];intro k hk;(have bh:k="xml" \/k="r" :=by simpa using hk);rcases bh with rfl|rfl;exact ⟨WI,by decide,by rw [s2];exact as⟩;refine ⟨"w",by decide,?_⟩;rw [s2,Z];exact ap S.au [] (xL H.e) (λj h=>by cases h) H.n,w2:=by rw [so];show ("" :Str)∉[("xml" :Str),"r"];decide,w3:=by rw [so];show 2<64;decide,g1:=by rw [Z] at L⊢;rw [L];exact e4,g2:= .inr rfl,g3:=by show 0<1000;decide,g4:=by rw [Z] at L⊢;rw [L];exact o4 4 oT (by lia) (by rw [J 4 (by decide)];rfl),g5:=by lia};generalize tw ar S.nd.length (AN oT S.nd.length)=y at D;have hM:S.nd.length+2<M/\M<=S.nd.length+4:=by rcases D.x with ⟨_,a⟩|⟨_,a,_⟩<;>lia
 have dz:=D.z;have a5:∀j∈P,∀m,y[j]? =some m->m.name="" /\m=on "namespace" "" "" "" "" (some S.nd.length):=λj hj m hm=>by refine to (D.x) (λt=>?_) λt=>?_;revert t;refine aa λa Y=>?_;rw [a] at hj;cases hj;revert t;refine im λa Y b=>?_;rw [a] at hj;rw [wb.mp hj,b] at hm;obtain rfl:=an hm;exact ⟨rfl,rfl⟩
 have a7:∀k:Nat,B<=k->k<50->("" :Str)≠Fa k:=λk _ hk h=>(hG ⟨k,hk⟩).1 h.symm;have a4:∀k:Nat,B<=k->k<50->("r" :Str)≠Fa k:=λk _ hk h=>(hG ⟨k,hk⟩).2.2.2.2 h.symm;have ax:("" :Str)∈PD:=by decide+kernel
 have a1:("r" :Str)∈PD:=by decide+kernel
 have W':CR B (C+1) y:=I.W.grow D.G (lv _) (s4 _) (Pe zc) ⟨_,D.e,rfl,by show ("element" :Str)≠_;decide,by show ("element" :Str)≠_;decide⟩ λj m hj hm=>by have a0:=s0 hm;have lf:∀{j:Nat} (kind name aq af val:Str),S.nd.length<j->f7 B (C+1) y j (on kind name aq af val (some S.nd.length)):=λkind name aq af val h=> .leaf rfl rfl rfl rfl h;(have bd:P.length<=1/\(((S.nd.length+1)::P).map (KF y)).Nodup:=by refine to (D.x) (λt=>?_) λt=>?_;revert t;refine aa λa Y=>?_;rw [a];exact ⟨by decide,by simp⟩;revert t;refine im λa Y b=>?_;rw [a];refine ⟨lv _,?_⟩;rw [cN,cN,List.map_nil,bS D.n,bS b];show [("r" :Str),""].Nodup;decide);by_cases q0:j=S.nd.length;subst q0;rw [D.e] at hm;obtain rfl:=an hm;refine ⟨λa ha=>?_,λa ha=>?_,λa ha=>?_,bd.2,λp hp=>?_,?_,?_,?_⟩;have F:=wb.mp ha;subst F;exact ⟨_,D.m,rfl,by show ("text" :Str)≠_;decide,by show ("text" :Str)≠_;decide⟩;have F:=wb.mp ha;subst F;exact ⟨_,D.a,rfl,rfl⟩;rcases LB.mp ha with rfl|F;exact ⟨_,D.n,rfl,rfl,a1,λh=>absurd h (by show ¬("w" :Str)="";decide),a4⟩;refine to (D.x) (λt=>?_) λt=>?_;revert t;refine aa λb Y=>?_;rw [b] at F;exact nomatch F;revert t;refine im λb Y c=>?_;rw [b] at F;rw [wb.mp F];exact ⟨_,c,rfl,rfl,ax,λ_=>rfl,a7⟩;obtain rfl:=an hp;exact ak;show 1<=C+1;exact e7 _ _;show 1<=B+3;exact e7 _ _;show P.length+1<=B+3;lia;by_cases q1:j=S.nd.length+1;subst q1;rw [D.n] at hm;obtain rfl:=an hm;exact lf _ _ _ _ _ HN;by_cases q2:j=S.nd.length+2;subst q2;rw [D.a] at hm;obtain rfl:=an hm;exact lf _ _ _ _ _ GA;refine eM D.m hm ?_ λq3=>?_;exact lf _ _ _ _ _ (by lia);rcases D.x with t|t;revert t;refine aa λY b=>?_;lia;revert t;refine im λY b c=>?_;(have:j=S.nd.length+3:=by lia);subst this;rw [c] at hm;obtain rfl:=an hm;exact lf _ _ _ _ _ X7
 have a2:(ag.set i {Et with ch:=Et.ch++[.el 0]})[0]? =some KB:=by rw [SP ai,al i0];exact I.e0
 have a9:∀a c,g a=some c->a≠S.nd.length:=λa c h=>by refine xw (λn E l base T Y=>?_) (I.tr a c h);have:=s0 T.hn;exact jP this
 have hg:∀a c,g a=some c->(λa=>if a=S.nd.length then some 0 else g a) a=some c:=λa c h=>by show (if a=S.nd.length then some 0 else g a)=some c;rw [al (a9 a c h)];exact h
 have bf:CS y (some S.nd.length) (S.au++[S.nd.length]):= .cons D.e (jd I.path λa ha n hn=>⟨_,D.G.get hn,(TT ..).2.1⟩);refine I.child (x:= .el 0) (N':=N+5) hp ai D.G W' (lv _) bB (Ij sz hM dz) hN hC (IL hM dz) hg ⟨_,D.e,by show 0<=1000;decide,rfl,⟨KB,a2,rfl,rfl⟩,bn rfl⟩ (λe c h=>?_) λs h=>bJ (l9 oF h);have h':=h;by_cases q:e=S.nd.length;rw [bn q] at h';obtain rfl:=an h';subst q;refine .inr ⟨lv _,rfl,_,KB,_,[.txt "deep"],⟨D.e,a2,?_,bf,?_,?_,?_,?_,?_,?_,rfl,?_⟩,rfl⟩;rw [al (by lia)];rfl;rw [Ll];show S.au.length+1<=26;exact U2 bB ol;intro a ha;refine to (Pf.mp ha) (λh=>?_) λh=>?_;have:=Q.l5 a h;exact IB ak this;rw [wb.mp h];exact xP s6;intro j hj;have a8:j=S.nd.length\/j=S.nd.length+2:=by have a0:j∈[S.nd.length,S.nd.length+2]:=hj;simpa using a0
 rcases a8 with rfl|rfl;refine ⟨_,"r",D.e,.inl ⟨by lia,a1,by show ("e" :Str)∈LD;decide,by show ("r:e" :Str)=Internal.mk "r" "e";decide⟩,λ_=>⟨?_,by show ("w" :Str)≠"";decide⟩,λh=>absurd h (by decide)⟩;exact ap S.au P (xL D.e) (λj hj m hm=>by rw [(a5 j hj m hm).1];decide) D.n;refine ⟨_,"",D.a,.inl ⟨by lia,ax,by show ("n" :Str)∈LD;decide,by show ("n" :Str)=Internal.mk "" "n";decide⟩,λh=>absurd rfl h,λ_=>?_⟩;rw [al QI];rfl;show [[("" :Str),"n"]]=[[Me y (S.nd.length+2),LS y (S.nd.length+2)]];unfold Me LS;rw [D.a];rfl;show [("5" :Str)]=[valOf y (S.nd.length+2)];unfold valOf;rw [D.a];rfl;show [[("" :Str),"n"]].Nodup;simp;intro k a c h1 h2;induction k using Nat.casesOn with|succ k=>cases h1|zero=>obtain rfl:=an h1;obtain rfl:=an h2;exact ⟨_,D.m,by show 4<=1000;decide,rfl,rfl⟩
 rw [al q] at h';exact .inl h'
noncomputable def bs (ag:List El) (rows:List Nat) (a b:Int):Sg:=⟨none,none,some (a,b),ag,some rows,λ_ _=>none,true⟩
def TD (a b:Int):Prop:=0<=a/\0<=b/\b<2147483647
noncomputable def cf (l:List Nat):List MV:=l.map λi=> .af (.el i)
section
variable (ag:List El) (rows:List Nat) (a b:Int) (S:St)
theorem b_rows:((bs ag rows a b).s S).rows=some rows:=rfl
theorem b_elsl:((bs ag rows a b).s S).ag=ag:=rfl
theorem b_raw:((bs ag rows a b).s S).raw=true:=rfl
theorem b_src:((bs ag rows a b).s S).src=some (a,b):=rfl
theorem rowM_def (l:List Nat):(l.map λi=>MV.af (.el i))=cf l:=rfl
theorem pT (l:List Nat):up (gh ((bs ag rows a b).s S)) .ag (.list (cf l))=gh ((bs ag l a b).s S):=by funext x;induction x using Loc.casesOn<;>rfl
end
theorem j8 (c:i≠0) (h:ag[i]? =some e) ch:up (gh ((bs ag rows a b).s S)) (.ec i) (.list (ch.map ze))=gh ((bs (ag.set i {e with ch:=ch}) rows a b).s S):=ly (σ:=(bs ag rows a b).s S) (λq=>c q.2) h ch
theorem ri (h:ag[i]? =some e) c d:up (gh ((bs ag rows a b).s S)) (.ea i) (.aT c (te d))=gh ((bs (ag.set i ⟨e.aq,e.af,c,d,e.ch⟩) rows a b).s S):=by refine TM (iW h _ _) λx g=>?_;induction x using Loc.casesOn with|el j=>exact bI (f:=λe=>OV.aM ce (ct true j e)) h rfl|ec j=>exact bI (f:=λe=>OV.list (gQ true j e)) h rfl|ea j=>exact iZ λe=>g (l9 Loc.ea e)|_=>rfl
theorem Pv (l:List Nat):(cf l).length=l.length:=FB ..
theorem CP (l:List Nat) i:cf l++[.af (.el i)]=cf (l++[i]):=by simp [cf]
theorem zZ {l:List Nat} (h:l.getLast? =some i):((seqIndex? (-1) l.length).bind λj=>(cf l)[j]?)=some (.af (.el i)):=by refine aa (λa b=>?_) (j1 h);rw [iY a,jg];unfold cf;rw [GG,b];rfl
theorem yD {l:List Nat} (h:l.getLast? =some i):(cf l).getLast? =some (.af (.el i))/\(cf l).dropLast=cf l.dropLast:=by unfold cf;exact ⟨by rw [List.getLast?_map,h];rfl,by rw [List.map_dropLast]⟩
theorem ru (j:Meets l 56 dX) {ag:List El} (g:TD a b) (o:0<cM) (k:cM<1000) (q:∀(d:Nat) (e c:Int),d<cM->TD e c->Q (.int d) (gh ((bs ag rows e c).s S))):l 56 [.af .src,.int cM] (gh ((bs ag rows a b).s S)) Q X:=j ⟨(bs ag rows a b).s S,a,b,cM,rfl,rfl,g.1,g.2.1,g.2.2,o,k,rfl,λd e c hd m p n=>q d e c hd ⟨m,p,n⟩⟩
theorem fz (j:Meets m 57 fj) {ag:List El} (d:TD a b) (r:0<l.length) (k:l.length<1000) (q:∀(s:Str) (g c:Int),s∈l->TD g c->Q (.str s) (gh ((bs ag rows g c).s S))):m 57 [.af .src,.lst (te l)] (gh ((bs ag rows a b).s S)) Q X:=j ⟨(bs ag rows a b).s S,te l,rfl,⟨a,b,rfl,d.1,d.2.1,d.2.2⟩,by rw [jX];exact r,by rw [jX];exact k,rfl,λv g c o t=>by refine ac (λs d=>?_) (e8.mp o);rintro rfl;revert t;refine tz λp b2 e x=>?_;have n:some (g,c)=some (p,b2):=e;cases n;exact q s g c d x⟩
def gj (B N C:Nat) (R:MV->GH->Prop):Prop:=∀(S:St) (ag:List El) (rows:List Nat) (a b:Int) (g:Nat->Option Nat) (t i:Nat),Inv (B+1) (N+8) (C+2) S ag rows g t i->So S ag i->TD a b->R (.bool true) (gh ((bs ag rows a b).s S))
inductive md (vs:List MV) (C:GH) (Q:MV->GH->Prop) (X:GH->Prop):Prop|mk (S:St) (ag:List El) (rows:List Nat) (a b:Int) (B N K:Nat) (g:Nat->Option Nat) (t i:Nat) (_:C=gh ((bs ag rows a b).s S)) (_:Inv B N K S ag rows g t i) (_:So S ag i) (_:TD a b) (_:B+1<=20) (_:N+8<=400) (_:K+2<=400) (_:vs=[.af .src,.af .res,.af .ag,.lst [.int 1,.af (.el 0)]]) (_:gj B N K Q)
theorem cU (h:i≠0) e:re ("children" :Str) ce (ct true i e)=some (.af (.ec i)):=Af (λq=>h q.2) e
theorem bP (h:i≠0) e:gQ true i e=e.ch.map ze:=pO (λq=>h q.2) e
structure Ue (S:St) (ag:List El) (rows:List Nat) (i:Nat) (E:El):Prop where
 e:ag[i]? =some E
 n0:i≠0
 c:E.ch.length<1000
 r:rows.length<100
 r0:0<rows.length
 l:rows.getLast? =some i
theorem Inv.eP {K:Nat} (I:Inv B N K S ag rows g t i):∃E,Ue S ag rows i E:=by
 refine xy (λn E base T h=>?_) I.bk;have a:=I.W.zc t n T.hn;have b:=I.zC;have c:=T.z;have d:=I.ol;have e:=I.bB;have f:=I.rl;refine ⟨E,T.hE,I.r0 i (jj I.aP),?_,Nj d e f,?_,I.aP⟩;rw [h,Ll];have:(Sk S.az).length<=1:=by unfold Sk;split<;>simp
 lia;refine ac (λk j Y=>?_) (bo I.aP);exact Ez j
end
local macro_rules | `(tactic| wide_open with [$ts,*]) => do
  if ts.getElems.any (fun t => t.raw.getId.eraseMacroScopes == `b_rows) then Lean.Macro.throwUnsupported
  `(tactic| wide_open with [b_rows, b_elsl, b_raw, b_src, rowM_def, $ts,*])
section
structure jI (d:Nat) (p un aq af:Str):Prop where
 hp:p∈[("" :Str),"p","q"]
 he:(un="")=(p="")
 hm:un++af=mk p af
 hl:af∈LD
 hu:aq∈[("" :Str),"u","v"]
 Bj:p≠"" ->aq∈[("u" :Str),"v"]
 hz:un.length+af.length<=gz
noncomputable def Po (i d:Nat) (a c af:Str):ee:=[some (.af .src),some (.af .res),some (.af .ag),some (.lst [.int 1,.af (.el 0)]),some (.int d),some (.af (.el i)),some (.str a),some (.str c),some (.str af),none,none,none]
theorem jI.nm (D:jI d p j aq af):BX p af/\(p≠"" ->aq≠""):=by have hp:=D.hp;refine ⟨iU ?_ D.hl,λh=>?_⟩;simp only [List.mem_cons,List.not_mem_nil,or_false] at hp;rcases hp with e|e|e<;>rw [e]<;>decide+kernel;have:=D.Bj h;simp only [List.mem_cons,List.not_mem_nil,or_false] at this;rcases this with e|e<;>rw [e]<;>decide
variable {K:Nat}
theorem KP (m:Meets x 18 jO) (o:Meets x 58 gK) {Nx:ee->GH->Prop} (I:Inv B N K S ag rows g t i) (V:TD a b) (H:B+1<=20) (F:N+8<=400) (Z:K+2<=400) (D:jI d p u c af) (q:gj B N K Q):io (mt.T x) vQ (Po i d u c af) (gh ((bs ag rows a b).s S)) Nx Q X:=by
 refine s3 λ_ M=>?_;refine am (λE A=>?_) I.eP;refine am (λn T=>?_) I.bj;obtain ⟨r,p0,o0,z⟩:=I.settle (pW F) (by exact Co (by assumption));refine am (λR L=>?_) r.bj;refine aa (λO=>am λY W=>?_) (r.DX p0 H (zw S.has true) (by rw [gu,z]) (mk p af) c af);refine aa (λv y=>?_) D.nm;have w:=r.start p0 H (NF F) (by assumption) A.e D.hp D.hl y;have hr:=A.r;have l:=(BB.mp A.e).1;have e:(ag++[xb c af])[i]? =some E:=by rw [fV l];exact A.e
 refine M ?_;delta vQ Po;wide_open with [D.hz,D.hm];refine m ⟨bs ag rows a b,S,t,n,R,Y,mk p af,c,p,af,rfl,T,L.comes,v.n,v.s,O,W,λh=>y h.1 h.2,rfl,λj=>?_⟩;have P:ni S t (mk p af) c p af=eF (TW ⟨(settle S t).root,(settle S t).nd,(settle S t).au,zw (settle S t).has true,(settle S t).pre,(settle S t).az⟩ t (mk p af) c af) (settle S t).nd.length p c:=by unfold ni comes;dsimp only;rw [z]
 rw [P];have C:So (eF (TW ⟨(settle S t).root,(settle S t).nd,(settle S t).au,zw (settle S t).has true,(settle S t).pre,(settle S t).az⟩ t (mk p af) c af) (settle S t).nd.length p c) (ag.set i {E with ch:=E.ch++[.el ag.length]}++[xb c af]) ag.length:=λ_ E' s h=>by rw [cB,SZ,bn rfl] at h;obtain rfl:=an h;exact λh=>by cases h
 generalize eF (TW ⟨(settle S t).root,(settle S t).nd,(settle S t).au,zw (settle S t).has true,(settle S t).pre,(settle S t).az⟩ t (mk p af) c af) (settle S t).nd.length p c=S1 at w C⊢;wide_open with [];refine o ⟨(bs ag rows a b).s S1,c,af,rfl,λh=>(by have J:ag.length=0:=h.2;exact NE l J),rfl,?_⟩;rw [show ((bs ag rows a b).s S1).ag=ag from rfl,show ((bs ag rows a b).s S1).e (ag++[xb c af])=(bs (ag++[xb c af]) rows a b).s S1 from rfl];wide_open with [Pv,bl (show rows.length<1000 by exact Nat.le_trans (by assumption) (by decide)),CP,pT,e,cU A.n0,bP A.n0];wide_open with [Pv,List.length_append,List.length_singleton,bg (show rows.length+1<1000 by exact Nat.lt_of_le_of_lt (by assumption) (by decide))];have k:(rows++[ag.length]).getLast? =some ag.length:=by simp
 have:=zZ k;rw [Ll,List.length_singleton] at this;wide_open with [this,e,bP A.n0,List.length_map,bl A.c];rw [show E.ch.map ze++[.af (.el ag.length)]=(E.ch++[Ch.el ag.length]).map ze by simp [ze],j8 A.n0 e];have U:(ag++[xb c af]).set i {E with ch:=E.ch++[.el ag.length]}=ag.set i {E with ch:=E.ch++[.el ag.length]}++[xb c af]:=List.set_append_left _ _ l;rw [U];exact q _ _ _ _ _ _ _ _ (w.mono M7 qj (by assumption) (by assumption)) C V
theorem ML (c:Meets m 19 fD) {Nx:ee->GH->Prop} (I:Inv B N K S ag rows g t i) (H:So S ag i) (l:TD a b) (k:B+1<=20) (p:N+8<=400) (F:K+2<=400) (q:gj B N K Q):io (mt.T m) wc (Po i d un aq af) (gh ((bs ag rows a b).s S)) Nx Q X:=by
 refine am (λE A=>?_) I.eP;have L:=A.r;have j:=I.rl;delta wc Po;have e1:((rows.length:Int)=1)=(rows.length=1):=by apply propext;exact qk
 by_cases e:rows.length=1;wide_open with [Pv,bg (show rows.length<1000 by exact Nat.le_trans (by assumption) (by decide)),e1,eq_true e,qo,qg,oL];refine c ⟨bs ag rows a b,S,rfl,rfl,.inl ⟨xS j e,?_⟩⟩;exact q _ _ _ _ _ _ _ _ ((I.fK (s4 _) k).mono (by exact Pd _ _) (by exact Pd _ _) (by assumption) (by assumption)) H l;refine am (λn T=>?_) I.bj;refine s3 λ_ r=>?_;obtain ⟨u,p0,o0,y⟩:=I.settle (pW p) (by exact Co (by assumption));obtain ⟨C,J,v,w⟩:=u.close p0 (by rw [o0];exact tj j e);refine aa (λz o=>?_) (yD A.l);refine r ?_;wide_open with [Pv,bg (show rows.length<1000 by exact Nat.le_trans (by assumption) (by decide)),e1,e,z,o,bl (show rows.length<1000 by exact Nat.le_trans (by assumption) (by decide)),pT];refine c ⟨bs ag rows.dropLast a b,S,rfl,rfl,.inr ⟨tj j e,t,n,T,?_⟩⟩;wide_open with [];have x:jp S t=⟨(settle S t).root,(settle S t).nd,(settle S t).au.dropLast,(settle S t).has.dropLast,(settle S t).pre,(settle S t).az⟩:=by unfold jp;rw [o0,y,qh]
 rw [x];exact q _ _ _ _ _ _ _ _ ((v.fK (s4 _) k).mono (by exact ed (by decide) _) (by exact ed (by decide) _) (by assumption) (by assumption)) w l
end
section
variable {K:Nat}
theorem Inv.kids (I:Inv B N K S ag rows g t i) (hE:ag[i]? =some E):(∀j,Ch.el j∈E.ch->j<ag.length)/\(∀u,Ch.txt u∈E.ch->u.length<=1000)/\E.ak.length<=1000:=by
 refine xy (λn A base T h=>?_) I.bk;have e0:A=E:=by have:=T.hE;rw [hE] at this;exact (an this).symm
 subst e0;have old:∀x∈base,∃a,gm (λa c=>g a=some c) S.nd ag a x:=λx y=>by refine am (λk hk=>?_) (lb y);have hl:=(BB.mp hk).1;have hn:=GS (show k<n.ch.length by rw [<- T.z];exact hl);exact ⟨_,T.c k _ x hn hk⟩
 have hm:∀x∈A.ch,x∈base\/x= .txt (Txt.join "" S.az):=λx y=>by rw [h] at y;refine to (Pf.mp y) (λq=>?_) λq=>?_;exact .inl q;unfold Sk at q;split at q;exact nomatch q;exact .inr (wb.mp q)
 have b1:=I.bB;refine ⟨λj hj=>?_,λu hu=>?_,?_⟩;refine to (hm _ hj) (λq=>?_) λq=>?_;refine Cc (λa m Y Y Y=>aa (ac λE hE Y Y=>?_)) (old _ q);exact (BB.mp hE).1;exact (bJ (l9 oF q)).elim;refine to (hm _ hu) (λq=>?_) λq=>?_;refine Cc (λa m Y F Y e=>?_) (old _ q);rw [<- e];exact F;cases q;have:=I.pj;exact EL b1 this;have:=I.W.za t n T.hn;rw [T.k,FB];exact HD b1 this
theorem QY (m:Meets j 57 fj) (k:Meets j 59 nh) (p:Meets j 29 kG) {Nx:ee->GH->Prop} (I:Inv B N K S ag rows g t i) (H:So S ag i) (z:TD a b) (x:B+1<=20) (C:N+8<=400) (F:K+2<=400) (q:gj B N K Q):io (mt.T j) vu (Po i d un aq af) (gh ((bs ag rows a b).s S)) Nx Q X:=by
 refine s3 λ_ v=>?_;refine am (λE A=>?_) I.eP;refine am (λn T=>?_) I.bj;refine im (λw y Y=>?_) (I.kids A.e);refine v ?_;delta vu Po;wide_open with [];refine .inl (fz (l:=["","t","u ","<"]) m z (by decide) (by decide) λs e c u o=>?_);have r:s.length<=2:=by (have:∀s∈[("" :Str),"t","u ","<"],s.length<=2:=by decide);exact this s u
 have J:=I.txt H x A.e r;wide_open with [];refine k ⟨(bs ag rows e c).s S,i,E,s,rfl,λh=>A.n0 h.2,A.e,A.c,w,y,be r (by decide),rfl,?_⟩;rw [show ls ((bs ag rows e c).s S) i E (cH E.ch s)=(bs (ag.set i {E with ch:=cH E.ch s}) rows e c).s S from rfl];wide_open with [];refine p ⟨bs (ag.set i {E with ch:=cH E.ch s}) rows e c,S,s,rfl,T.h,T.hp,T.p,rfl,?_⟩;wide_open with [];exact q _ _ _ _ _ _ _ _ (J.1.mono (by exact Pd _ _) (by exact Pd _ _) (by assumption) (by assumption)) J.2 o
theorem Ew (c:Meets m 57 fj) (o:Meets m 30 lJ) (u:Meets m 31 jV) {Nx:ee->GH->Prop} (I:Inv B N K S ag rows g t i) (V:TD a b) (Z:B+1<=20) (z:N+8<=400) (hC:K+2<=400) (q:gj B N K Q):io (mt.T m) t8 (Po i d un aq af) (gh ((bs ag rows a b).s S)) Nx Q X:=by
 refine s3 λ_ F=>?_;refine am (λE A=>?_) I.eP;refine am (λn T=>?_) I.bj;obtain ⟨y,p0,o0,h0⟩:=I.settle (pW z) (by exact Co (by assumption));refine am (λP C=>?_) y.bj;refine F ?_;delta t8 Po;wide_open with [];refine .inl (fz (l:=["c","a--b","---","-"]) c V (by decide) (by decide) λs R L x p=>?_);wide_open with [];refine tz (λk f r U=>?_) (Lr s x);have J:=y.leaf p0 (Ed z) (by assumption) A.e (U t) rfl rfl rfl rfl;refine o ⟨bs ag rows R L,S,t,n,P,s,f,k,rfl,T,C.comes,r,rfl,λj=>?_⟩;rw [D8];generalize (⟨(settle S t).root,tw (settle S t).nd t (on "comment" "" "" "" (dN f) (some t)),(settle S t).au,zw (settle S t).has true,(settle S t).pre,[]⟩:St)=S1 at J⊢;have W:s.length+(s.length+1)*("" :Str).length<=gz:=by (have:∀s∈[("c" :Str),"a--b","---","-"],s.length+(s.length+1)*("" :Str).length<=gz:=by decide);exact this s x
 have M:((" " :Str)≠"")=True:=by decide
 wide_open with [A.e,cU A.n0,bP A.n0,List.length_map,bl A.c,W,M];rw [show E.ch.map ze++[.tup [.str "comment",.str (Txt.replace s " " "")]]=(E.ch++[Ch.tup ["comment",Txt.replace s " " ""]]).map ze by simp [ze,te],j8 A.n0 A.e];refine ⟨rfl,NG.inl (fz (l:=["xml","1a","XML",""]) c p (by decide) (by decide) λO H b2 v e=>?_)⟩;wide_open with [];refine pt (λw1 w2 w3 w4=>?_) (XI v);have fin:=q _ _ _ _ _ _ _ _ ((J.1.fK (s4 _) Z).mono x9 qj (by assumption) (by assumption)) J.2 e;refine u ⟨bs _ rows H b2,S1,O,"d",rfl,w1,w2,w3,by decide,rfl,?_⟩;rcases w4 with w|t;exact .inl ⟨w,fin⟩;revert t;refine aa λw Y=>?_;exact .inr (.inl ⟨w,Y,fin⟩)
theorem Gp:∀d∈nZ,(Txt.split d "?>").length<=1000/\((Txt.split d "?>").map (·.length)).sum+(Txt.split d "?>").length*("? >" :Str).length<=gz:=by decide+kernel
theorem P8 (O:Meets r 56 dX) (H:Meets r 57 fj) (y:Meets r 32 lT) (F:Meets r 31 jV) {Nx:ee->GH->Prop} (I:Inv B N K S ag rows g t i) (hs:TD a b) (hB:B+1<=20) (L:N+8<=400) (hC:K+2<=400) (z:af∈LD) (q:gj B N K Q):io (mt.T r) sq (Po i d un aq af) (gh ((bs ag rows a b).s S)) Nx Q X:=by
 refine am (λE A=>?_) I.eP;refine am (λn T=>?_) I.bj;obtain ⟨C,p0,o0,h0⟩:=I.settle (pW L) (by exact Co (by assumption));refine am (λU v=>?_) C.bj;have o:seqIndex? 0 2=some 0:=by decide
 delta sq Po;wide_open with [];refine ru O hs (by decide) (by decide) λc V P hc p=>?_;by_cases e:c=0;subst e;refine s3 λ_ kk=>?_;obtain ⟨W,nf,w,m,g1,g2,g3,g4,J⟩:=C.copy p0 (Nz L) (by assumption) A.e;have en:W=U:=by have:=v.g;rw [g1] at this;exact an this
 subst en;have M:S.nd[1]? =some o1:=I.aN 1 (by decide);refine kk ?_;wide_open with [show decide (((0:Nat):Int)=0)=true from rfl,o,gn,bz,Option.bind_some,List.getElem?_cons_zero,List.getElem?_cons_succ];refine y ⟨bs ag rows V P,S,t,n,W,1,o1,oN,oA,oT,nf,w,2,3,4,[0,1],_,rfl,T,v.comes,M,rfl,g4 ((bs ag rows V P).s (comes S t)) (λi k ov e=>by cases e) (λi k=>rfl) rfl,rfl,?_⟩;rw [show ({comes S t with nd:=iB (comes S t).nd o1 oN oA oT t ((settle S t).au++[(settle S t).nd.length])}:St)=⟨(settle S t).root,m,(settle S t).au,zw (settle S t).has true,(settle S t).pre,[]⟩ by rw [<- g3,h0];unfold comes;dsimp only;rw [p0]];generalize (⟨(settle S t).root,m,(settle S t).au,zw (settle S t).has true,(settle S t).pre,[]⟩:St)=S1 at J⊢;wide_open with [A.e,cU A.n0,bP A.n0,List.length_map,bl A.c,o,gn,bz,Option.bind_some,List.getElem?_cons_zero,List.getElem?_cons_succ];rw [show E.ch.map ze++[.af (.el 0)]=(E.ch++[Ch.el 0]).map ze by simp [ze],j8 A.n0 A.e];exact q _ _ _ _ _ _ _ _ ((J.1.fK (s4 _) hB).mono Qm qj (by assumption) (by assumption)) J.2 p;have e':=Q3 e;wide_open with [e'];refine .inl (fz (l:=nZ) H p (by decide) (by decide) λs a2 b2 R u=>?_);refine dk (λv1 v2 Y v4 v5=>im λv6 v7 v8=>?_) (Kg z R);refine aa (λu1 u2=>?_) (Gp s R);have Z:("i-" :Str).length+af.length<=gz:=by rw [<- C7];exact be v5 (by decide)
 have J:=C.leaf (new:=on "instruction" ("i-" ++af) "" ("i-" ++af) (Txt.replace s "?>" "? >") (some t)) (x:=["instruction","i-" ++af,Txt.replace s "?>" "? >"]) p0 (Ed L) (by assumption) A.e ⟨v2,.inr ⟨rfl,rfl⟩⟩ rfl rfl rfl rfl;wide_open with [Z];refine F ⟨bs ag rows a2 b2,S,"i-" ++af,s,rfl,v4,v5,v6,Y,rfl,.inr (.inr ⟨v7,v8,t,n,U,T,v.comes,λj=>?_⟩)⟩;rw [D8];generalize (⟨(settle S t).root,tw (settle S t).nd t (on "instruction" ("i-" ++af) "" ("i-" ++af) (Txt.replace s "?>" "? >") (some t)),(settle S t).au,zw (settle S t).has true,(settle S t).pre,[]⟩:St)=S1 at J⊢;have d3:(0<("?>" :Str).length)=True:=by decide
 wide_open with [A.e,cU A.n0,bP A.n0,List.length_map,bl A.c,Z,d3,Nat.le_trans Y (show 100<=gz by decide)];refine .inl ?_;wide_open with [iQ,show ∀l:List Str,l.map MV.str=te l from λ_=>rfl,jX,Nat.le_trans u1 (show 1000<=gz by decide),u2,v1,A.e,bP A.n0,List.length_map,bl A.c];rw [show E.ch.map ze++[.tup [.str "instruction",.str ("i-" ++af),.str (Txt.replace s "?>" "? >")]]=(E.ch++[Ch.tup ["instruction","i-" ++af,Txt.replace s "?>" "? >"]]).map ze by simp [ze,te],j8 A.n0 A.e];exact q _ _ _ _ _ _ _ _ ((J.1.fK (s4 _) hB).mono x9 qj (by assumption) (by assumption)) J.2 u
theorem Ih:∀p∈[("" :Str),"p","q"],∀l∈LD,mk p l≠"xmlns" :=by decide+kernel
theorem Inv.sr (I:Inv B N K S ag rows g t i) (hE:ag[i]? =some E):∃b,S.has.getLast? =some b/\(b=true↔E.ch≠[]):=by
 refine ac (λk y A=>?_) (bo I.aP);have F:k<S.has.length:=by have:=I.hl;have:=I.rl;exact Mw y (by assumption) this
 have j:=GS F;refine ⟨S.has[k],?_,I.has k i _ E j A hE⟩;rw [qI,<- j];congr 1;have:=I.hl;have:=I.rl;lia
theorem Fb (ar:Meets V 57 fj) (z:Meets V 28 jK) {Nx:ee->GH->Prop} (I:Inv B N K S ag rows g t i) (H:So S ag i) (hs:TD a b) (hB:B+1<=20) (hN:N+8<=400) (hC:K+2<=400) (D:jI d p r M af) (q:gj B N K Q):io (mt.T V) uE (Po i d r M af) (gh ((bs ag rows a b).s S)) Nx Q X:=by
 refine s3 λ_ kk=>?_;refine am (λE A=>?_) I.eP;refine am (λn T=>?_) I.bj;refine im (λY Y c3=>?_) (I.kids A.e);refine ac (λR U l2=>?_) (I.sr A.e);refine aa (λnm Y=>?_) D.nm;have hr:=A.r;have rl:=I.rl;have m:=T.g;have e1:((rows.length:Int)=1)=(rows.length=1):=by apply propext;exact qk
 refine kk ?_;have v:∀u:Str,(p="" ->u="")->(p≠"" ->u∈[("u" :Str),"v"])->io (mt.T V) uy (Po i d r u af) (gh ((bs ag rows a b).s S)) Nx Q X:=by intro u ak ap;delta uy;have w:(S.au.length=1\/R=true)->V 28 [.af .res,.str (mk p af),.str u,.str "x"] (gh ((bs ag rows a b).s S)) (λ_ c=>Q (.bool false) c) (λc=>Q (.bool true) c):=λh=>z ⟨bs ag rows a b,S,mk p af,u,"x",rfl,rfl,.inl ⟨R,T.o,T.h,U,h,q _ _ _ _ _ _ _ _ ((I.fK (s4 _) hB).mono (by exact Pd _ _) (by exact Pd _ _) (by assumption) (by assumption)) H hs⟩⟩;delta Po;by_cases e:rows.length=1;wide_open with [Pv,bg (show rows.length<1000 by exact Nat.le_trans (by assumption) (by decide)),e1,eq_true e,D.hz,D.hm,qo,qg,oL];exact w (.inl (xS rl e));by_cases ec:E.ch=[];(have as:R=false:=by cases R;rfl;exact absurd ec (l2.mp rfl));subst as;have O:=tj rl e;wide_open with [Pv,bg (show rows.length<1000 by exact Nat.le_trans (by assumption) (by decide)),e1,e,A.e,cU A.n0,bP A.n0,List.length_map,bg A.c,List.map_eq_nil_iff,ec,decide_false,List.map_nil,bz];refine .inl ?_;wide_open with [A.e,cU A.n0,bP A.n0,List.length_map,List.map_eq_nil_iff,ec,decide_false,List.map_nil,bz];refine .inl (fz (l:=["1","2","3"]) ar hs (by decide) (by decide) λs a' Z hm ai=>?_);wide_open with [D.hz,D.hm];(have fin:∀k,Inv (B+1) (N+2) K ⟨S.root,k,S.au,S.has,S.pre,S.az⟩ (ag.set i ⟨E.aq,E.af,(pb [u,af] s E.ak E.av).1,(pb [u,af] s E.ak E.av).2,E.ch⟩) rows g t i->Q (.bool true) (gh ((bs (ag.set i ⟨E.aq,E.af,(pb [u,af] s E.ak E.av).1,(pb [u,af] s E.ak E.av).2,E.ch⟩) rows a' Z).s ⟨S.root,k,S.au,S.has,S.pre,S.az⟩)):=λk J=>by refine q _ _ _ _ _ _ _ _ (J.mono (by exact ed (by decide) _) (by exact Pd _ _) (by assumption) (by assumption)) (λ_ E' x h=>?_) ai;rw [SP A.e,bn rfl] at h;obtain rfl:=an h;show E.ch.getLast? ≠_;rw [ec];exact λh=>by cases h);have C:uR S t n (mk p af) p af:=⟨I.oJ O m,O,U,Ih p D.hp af D.hl,nm.n,nm.s⟩;by_cases o:p="";have L:=ak o;subst L;(have em:mk p af=af:=by unfold mk;rw [bn o]);refine z ⟨bs ag rows a' Z,S,mk p af,"",s,rfl,rfl,.inr (.inl ⟨t,n,p,af,C,rfl,λj=>?_⟩)⟩;wide_open with [A.e,mn,m3,c3,ri A.e];exact fin _ (I.Bp O U hB (C8 hN) m A.e s D.hl);have L:=ap o;(have F:u≠"" /\u≠WI:=by simp only [List.mem_cons,List.not_mem_nil,or_false] at L;rcases L with rfl|rfl<;>exact ⟨by decide,by decide⟩);have ab:=(LB.mp D.hp).resolve_left o;refine z ⟨bs ag rows a' Z,S,mk p af,u,s,rfl,rfl,.inr (.inr ⟨t,n,p,af,B,C,F.2,I.W6 O m F.1,λpr k P=>?_⟩)⟩;obtain ⟨J1,J2⟩:=I.attr O U hB (C8 hN) m A.e s ab D.hl L P;refine ⟨J1,λj=>?_⟩;wide_open with [A.e,mn,m3,c3,ri A.e];exact fin _ J2;have W:=l2.mpr ec;wide_open with [Pv,bg (show rows.length<1000 by exact Nat.le_trans (by assumption) (by decide)),e1,e,A.e,cU A.n0,bP A.n0,List.length_map,bg A.c,List.map_eq_nil_iff,ec,decide_false,D.hz,D.hm];refine .inl ?_;wide_open with [Pv,bg (show rows.length<1000 by exact Nat.le_trans (by assumption) (by decide)),e1,e,A.e,cU A.n0,bP A.n0,List.length_map,bg A.c,List.map_eq_nil_iff,ec,decide_false,D.hz,D.hm,qo,qg,oL];exact w (.inr W)
 delta uE;by_cases o:p="";have:=v "" (λ_=>rfl) (λh=>absurd o h);have y:r="" :=by rw [D.he];exact o
 unfold Po at this⊢;rw [y] at this⊢;wide_open with [];exact this;have:=v M (λh=>absurd h o) D.Bj;have y:¬r="" :=by rw [D.he];exact o
 unfold Po at this⊢;wide_open with [y];exact this
theorem Ia (L:Meets c 18 jO) (M:Meets c 58 gK) (E:Meets c 19 fD) (k:Meets c 57 fj) (R:Meets c 28 jK) (U:Meets c 59 nh) (T:Meets c 29 kG) (F:Meets c 30 lJ) (z:Meets c 31 jV) (V:Meets c 56 dX) (J:Meets c 32 lT) {Nx:ee->GH->Prop} (I:Inv B N K S ag rows g t i) (H:So S ag i) (r:TD a b) (w:B+1<=20) (u:N+8<=400) (l:K+2<=400) (D:jI d p j e af) (q:gj B N K Q):io (mt.T c) qt (Po i d j e af) (gh ((bs ag rows a b).s S)) Nx Q X:=by have kS:=λNx=>KP (Nx:=Nx) (X:=X) L M I r w u l D q;have kE:=λNx=>ML (d:=d) (un:=j) (aq:=e) (af:=af) (Nx:=Nx) (X:=X) E I H r w u l q;have kA:=λNx=>Fb (Nx:=Nx) (X:=X) k R I H r w u l D q;have Z:=λNx=>QY (d:=d) (un:=j) (aq:=e) (af:=af) (Nx:=Nx) (X:=X) k U T I H r w u l q;have Y:=λNx=>Ew (d:=d) (un:=j) (aq:=e) (af:=af) (Nx:=Nx) (X:=X) k F z I r w u l q;have W:=λNx=>P8 (d:=d) (un:=j) (aq:=e) (af:=af) (Nx:=Nx) (X:=X) V k J z I r w u l D.hl q;delta qt;unfold Po at kS kE kA Z Y W⊢;have v:((d:Int)<3)=(d<3):=propext (ef (m:=3));have y:((d:Int)=3)=(d=3):=propext (Int.ofNat_inj (n:=3));have C:((d:Int)<7)=(d<7):=propext (ef (m:=7));have P:((d:Int)<10)=(d<10):=propext (ef (m:=10));have c5:((d:Int)=10)=(d=10):=propext (Int.ofNat_inj (n:=10));by_cases o:d<3;wide_open with [v,o];exact kS _;by_cases x:d=3;wide_open with [v,o,y,eq_true x];exact kE _;by_cases A:d<7;wide_open with [v,o,y,x,C,A];exact kA _;by_cases O:d<10;wide_open with [v,o,y,x,C,A,P,O];exact Z _;by_cases h5:d=10;wide_open with [v,o,y,x,C,A,P,O,c5,eq_true h5];exact Y _;wide_open with [v,o,y,x,C,A,P,O,c5,h5];exact W _
theorem JC:∀a∈[("" :Str),"","p:","q:"],∃p,p∈[("" :Str),"p","q"]/\(a="")=(p="")/\(∀l∈LD,a++l=mk p l)/\a.length<=2:=by intro a h;simp only [List.mem_cons,List.not_mem_nil,or_false] at h;rcases h with rfl|rfl|rfl|rfl;exact ⟨"",by decide,rfl,by decide+kernel,by decide⟩;exact ⟨"",by decide,rfl,by decide+kernel,by decide⟩;exact ⟨"p",by decide,by decide,by decide+kernel,by decide⟩;exact ⟨"q",by decide,by decide,by decide+kernel,by decide⟩
theorem U3 (U:Meets c 18 jO) (V:Meets c 58 gK) (J:Meets c 19 fD) (e:Meets c 57 fj) (W:Meets c 28 jK) (Z:Meets c 59 nh) (Y:Meets c 29 kG) (P:Meets c 30 lJ) (ab:Meets c 31 jV) (y:Meets c 56 dX) (T:Meets c 32 lT) (h:md vs C Q X):Walk c 60 vs C Q X:=by
 obtain ⟨S,ag,rows,a,b,B,N,K,g,t,i,rfl,I,H,hs,hB,hN,hC,rfl,q⟩:=h;refine pc rfl rfl ?_;show io (mt.T c) wa [some (.af .src),some (.af .res),some (.af .ag),some (.lst [.int 1,.af (.el 0)]),none,none,none,none,none,none,none,none] _ _ _ _;delta wa;refine am (λE A=>?_) I.eP;have hr:=A.r;wide_open with [];refine ru y hs (by decide) (by decide) λd a1 b1 hd O=>?_;wide_open with [Pv,bg (show rows.length<1000 by exact Nat.le_trans (by assumption) (by decide)),zZ A.l];refine .inl (fz (l:=["","","p:","q:"]) e O (by decide) (by decide) λj a2 b2 ai L=>?_);refine At (λp p1 p2 p3 p4=>?_) (JC j ai);wide_open with [];refine .inl (fz (l:=["u","v"]) e L (by decide) (by decide) λu a3 b3 o R=>?_);wide_open with [];refine .inl (fz (l:=["a","b","c"]) e R (by decide) (by decide) λaf a4 b4 v w=>?_);have F:af∈LD:=by (have:∀x∈[("a" :Str),"b","c"],x∈LD:=by decide+kernel);exact this af v
 have hz:j.length+af.length<=gz:=by (have:∀x∈[("a" :Str),"b","c"],x.length<=1:=by decide);exact be (hH p4 (this af v)) (by decide)
 have fin:∀(n:Str) (r b5:Int),TD r b5->jI d p j n af->io (mt.T c) qt (Po i d j n af) (gh ((bs ag rows r b5).s S)) (λ_ C'=>Fz (gh ((bs ag rows a b).s S)) Q .none C') (Fz (gh ((bs ag rows a b).s S)) Q) X:=λn r b5 k D=>Ia U V J e W Z Y P ab y T I H k hB hN hC D λS' z m a' b' g' t' i' I' H' o'=> .inl (q S' z m a' b' g' t' i' I' H' o');unfold Po at fin;by_cases hp:j="";subst hp;wide_open with [];refine .inl (fz (l:=["","u"]) e w (by decide) (by decide) λu2 r b5 M k=>?_);wide_open with [];refine fin u2 r b5 k ⟨p1,p2,p3 af F,F,?_,λh=>absurd (p2.mp rfl) h,hz⟩;have:∀x∈[("" :Str),"u"],x∈[("" :Str),"u","v"]:=by decide
 exact this u2 M;wide_open with [hp];exact fin u a4 b4 w ⟨p1,p2,p3 af F,F,FM _ o,λ_=>o,hz⟩
noncomputable def bD:List Nd:=aN++[on "root" "" "" "" "" none]
noncomputable def Db:St:=⟨5,bD,[5],[false],[],[]⟩
noncomputable def fg:List El:=[KB,xb "" ""]
noncomputable def g0 (a:Nat):Option Nat:=if a=5 then some 1 else none
theorem HG (h:bD[j]? =some n):j=0\/j=1\/j=2\/j=3\/j=4\/j=5:=by have:=s0 h;exact (show ∀j:Nat,j<6->j=0\/j=1\/j=2\/j=3\/j=4\/j=5 by decide) j this
theorem MZ:CR 0 1 bD:= .m8 λj n h=>by
 have no:∀{p:Nd->Prop} {q:Nat->Prop},(∀j∈([]:List Nat),∃m,bD[j]? =some m/\p m):=λ{p q} j h=>by cases h
 have leaf:∀{i p:Nat} (k d u l v:Str),p<i->f7 0 1 bD i ⟨k,d,u,l,v,some p,[],[],[]⟩:=λk d u l v h=> .leaf rfl rfl rfl rfl h;rcases HG h with rfl|rfl|rfl|rfl|rfl|rfl;obtain rfl:=an h;refine ⟨λj a=>?_,(λj a=>by cases a),(λj a=>by cases a),e9,λp c=>(by cases c),(by decide),(by decide),(by decide)⟩;have:j=1:=wb.mp a;subst this;exact ⟨_,rfl,rfl,by decide,by decide⟩;obtain rfl:=an h;refine ⟨λj a=>?_,λj a=>?_,λj a=>?_,(by show [_].Nodup;simp),λp c=>(by obtain rfl:=an c;decide),(by decide),(by decide),(by decide)⟩;have:j=4:=wb.mp a;subst this;exact ⟨_,rfl,rfl,by decide,by decide⟩;have:j=3:=wb.mp a;subst this;exact ⟨_,rfl,rfl,rfl⟩;have:j=2:=wb.mp a;subst this;exact ⟨_,rfl,rfl,rfl,by decide+kernel,λh=>absurd h (by decide),λk _ e h=>(hG ⟨k,e⟩).2.2.2.2 h.symm⟩;obtain rfl:=an h;exact leaf _ _ _ _ _ (by decide);obtain rfl:=an h;exact leaf _ _ _ _ _ (by decide);obtain rfl:=an h;exact leaf _ _ _ _ _ (by decide);obtain rfl:=an h;exact ⟨(λj a=>by cases a),(λj a=>by cases a),(λj a=>by cases a),e9,λp c=>(by cases c),(by decide),(by decide),(by decide)⟩
theorem Ox:Inv 0 6 1 Db fg [1] g0 5 1/\So Db fg 1:=by
 have m:∀e c,g0 e=some c->e=5/\c=1:=λe c h=>by unfold g0 at h;by_cases q:e=5;rw [bn q] at h;exact ⟨q,(an h).symm⟩;rw [al q] at h;exact nomatch h
 have g:CS bD (some 5) [5]:= .cons (p:=5) (l:=[]) (n:=on "root" "" "" "" "" none) rfl .nil;refine ⟨{W:=MZ,aN:=λj r=>by have:=(show ∀j:Nat,j<5->j=0\/j=1\/j=2\/j=3\/j=4 by decide) j r;rcases this with rfl|rfl|rfl|rfl|rfl<;>rfl,sz:=lv _,zN:=by decide,zC:=by decide,s6:=lv _,bB:=by decide,root:=rfl,o5:=⟨[],rfl⟩,n5:=rfl,ol:=lv _,top:=rfl,aP:=rfl,path:=g,rl:=rfl,hl:=rfl,gr:=λk a i d o=>(by induction k using Nat.casesOn with|zero=>obtain rfl:=an d;obtain rfl:=an o;rfl|succ k=>cases d),pz:=lv _,ps:=λs h=>(by cases h),pj:=lv _,tr:=λe c h=>by refine aa ?_ (m e c h);rintro rfl rfl;refine ⟨_,_,_,[],⟨rfl,rfl,rfl,g,by decide,λa x=>?_,λj r=>?_,rfl,rfl,e9,rfl,λk a c h=>by cases h⟩,?_⟩;rw [wb.mp x];exact PG;rw [wb.mp r];refine ⟨_,"",rfl,.inr ⟨rfl,rfl,rfl,rfl⟩,λh=>absurd rfl h,λ_=>?_⟩;rw [bn rfl];show ("" :Str)=(if ("xml" :Str)="" then some WI else none:Option Str).getD "";rw [al (by decide)];rfl;rw [bn rfl];rfl,has:=λk c b E d o v=>(by induction k using Nat.casesOn with|zero=>obtain rfl:=an d;obtain rfl:=an o;obtain rfl:=an v;simp [xb]|succ k=>cases d),low:=λk c E d=>by have t:=d;exact (IM t).elim,ord:=λ_ e c h=>by rw [(m e c h).1];exact lv _,inj:=λe w c h u _=>by rw [(m e c h).1,(m w c u).1],r0:=λc y=>by rw [wb.mp y];decide,e0:=rfl},λ_ E s h=>?_⟩;have u:=h;obtain rfl:=an u;exact λh=>by cases h
inductive pV (vs:List MV) (C:GH) (Q:MV->GH->Prop) (X:GH->Prop):Prop|mk (a b:Int) (_:C=gh ((bs fg [1] a b).s Db)) (_:vs=[.af .res,.af .ag]) (_:∀(S:St) (ag:List El) (rows:List Nat) (g:Nat->Option Nat) (t i:Nat),Inv 3 12 4 S ag rows g t i->So S ag i->Q (.bool true) (gh ((bs ag rows a b).s S)))
theorem Sd (y:Meets g 18 jO) (z:Meets g 58 gK) (m:Meets g 28 jK) (F:Meets g 29 kG) (h:pV vs C Q X):Walk g 63 vs C Q X:=by
 obtain ⟨a,b,rfl,rfl,q⟩:=h;refine pc rfl rfl ?_;show io (mt.T g) tX [some (.af .res),some (.af .ag)] _ _ _ _;refine s3 λ_ r=>?_;refine aa (λI H=>?_) Ox;refine am (λn T=>?_) I.bj;refine aa (λO=>am λn2 V=>?_) (I.DX rfl (by decide) (zw Db.has true) rfl (mk "" "a") "" "a");have J:=iU (p:="") (l:="a") (by decide+kernel) (by decide+kernel);have t:=I.start (Et:=xb "" "") (un:="") (af:="a") (aq:="") rfl (by decide) (by decide) (by decide) rfl (by decide) (by decide+kernel) (λh=>absurd rfl h);have Y:mk "" "a" ="a" :=bn rfl;rw [Y] at O V t;have S:fe "a" =true/\eV "a" =some (("","a"):Str×Str):=by rw [<- Y];exact ⟨J.n,J.s⟩
 have es:settle Db 5=Db:=bn rfl;refine r ?_;delta tX;wide_open with [];refine y ⟨bs fg [1] a b,Db,5,n,n,n2,"a","","","a",rfl,T,(by rw [es];exact T:NL (settle Db 5) 5 n).comes,S.1,S.2,?_,?_,λh=>absurd rfl h.1,rfl,λj=>?_⟩;exact O;exact V;have eS:ni Db 5 "a" "" "" "a" =eF (TW ⟨Db.root,Db.nd,Db.au,zw Db.has true,Db.pre,Db.az⟩ 5 "a" "" "a") Db.nd.length "" "" :=rfl;rw [eS];generalize eF (TW ⟨Db.root,Db.nd,Db.au,zw Db.has true,Db.pre,Db.az⟩ 5 "a" "" "a") Db.nd.length "" "" =S1 at t⊢;have k:=t;wide_open with [];refine z ⟨(bs fg [1] a b).s S1,"","a",rfl,λh=>absurd (show (2:Nat)=0 from h.2) (by decide),rfl,?_⟩;rw [show ((bs fg [1] a b).s S1).ag.length=2 from rfl,show ((bs fg [1] a b).s S1).e (((bs fg [1] a b).s S1).ag++[xb "" "a"])=(bs [KB,⟨"","",[],[],[]⟩,⟨"","a",[],[],[]⟩] [1] a b).s S1 from rfl];wide_open with [Pv,bz,CP];rw [show ([1]++[2]:List Nat)=[1,2] from rfl,pT];have c:cf [1,2]=[.af (.el 1),.af (.el 2)]:=rfl;wide_open with [c,Pv,bz,jS,gn,Option.bind_some,List.getElem?_cons_zero,List.getElem?_cons_succ,cU (show 1≠0 by decide),bP (show 1≠0 by decide),cU (show 2≠0 by decide),bP (show 2≠0 by decide),List.map_nil,List.nil_append];rw [show ([MV.af (.el 2)]:List MV)=[Ch.el 2].map ze from rfl,j8 (by decide) (e:=⟨"","",[],[],[]⟩) rfl];rw [show ([KB,⟨"","",[],[],[]⟩,⟨"","a",[],[],[]⟩]:List El).set 1 ⟨"","",[],[],[.el 2]⟩=[KB,⟨"","",[],[],[.el 2]⟩,⟨"","a",[],[],[]⟩] from rfl];refine s3 λ_ r=>?_;refine am (λn3 R=>?_) k.bj;have ol:=k.rl.symm;have B:=U0 ol;refine ac (λN P l2=>?_) (k.sr (E:=⟨"","a",[],[],[]⟩) rfl);have A:N=false:=by induction N using Bool.casesOn;rfl;exact absurd rfl (l2.mp rfl)
 subst A;have L:=iU (p:="") (l:="b") (by decide+kernel) (by decide+kernel);have o:mk "" "b" ="b" :=bn rfl;have d:fe "b" =true/\eV "b" =some (("","b"):Str×Str):=by rw [<- o];exact ⟨L.n,L.s⟩
 have W:=k.Bp B P (by decide) (by decide) R.g (E:=⟨"","a",[],[],[]⟩) rfl (af:="b") "1" (by decide+kernel);refine r ?_;refine m ⟨bs _ [1,2] a b,S1,"b","","1",rfl,rfl,.inr (.inl ⟨_,n3,"","b",⟨k.oJ B R.g,B,P,by decide,d.1,d.2⟩,rfl,λj=>?_⟩)⟩;generalize ab:(⟨S1.root,Internal.setAt S1.nd Db.nd.length "b" "" "b" "1",S1.au,S1.has,S1.pre,S1.az⟩:St)=S2 at W;have M:=W;refine am (λn5 x=>?_) M.bj;have H4:So S2 [KB,⟨"","",[],[],[.el 2]⟩,⟨"","a",[["","b"]],["1"],[]⟩] 2:=λ_ E s h=>by have Z:=h;obtain rfl:=an Z;exact λh=>by cases h
 refine aa (λI5 H5=>?_) (M.txt H4 (by decide) (Et:=⟨"","a",[["","b"]],["1"],[]⟩) rfl (s:="t") (by decide));have v:=I5;have H6:=H5;refine am (λn7 U=>?_) v.bj;refine ac (λw l7 m7=>?_) (v.sr (E:=⟨"","a",[["","b"]],["1"],[.txt "t"]⟩) rfl);have u:=m7.mpr (by decide);wide_open with [c,Pv,bz,jS,gn,Option.bind_some,List.getElem?_cons_zero,List.getElem?_cons_succ,mn,m3];refine ⟨by decide,?_⟩;rw [ri (e:=⟨"","a",[],[],[]⟩) rfl];refine F ⟨bs [KB,⟨"","",[],[],[.el 2]⟩,⟨"","a",[["","b"]],["1"],[]⟩] [1,2] a b,S2,"t",rfl,x.h,x.hp,x.p,rfl,?_⟩;wide_open with [c,Pv,bz,jS,gn,Option.bind_some,List.getElem?_cons_zero,List.getElem?_cons_succ,cU (show 1≠0 by decide),bP (show 1≠0 by decide),cU (show 2≠0 by decide),bP (show 2≠0 by decide),List.map_nil,List.nil_append];rw [show ([MV.str "t"]:List MV)=[Ch.txt "t"].map ze from rfl,j8 (by decide) (e:=⟨"","a",[["","b"]],["1"],[]⟩) rfl];refine ⟨rfl,m ⟨bs [KB,⟨"","",[],[],[.el 2]⟩,⟨"","a",[["","b"]],["1"],[.txt "t"]⟩] [1,2] a b,Internal.txt S2 "t","c","","2",rfl,rfl,.inl ⟨w,U.o,U.h,l7,.inr u,.inl ?_⟩⟩⟩;exact q _ _ _ _ _ _ (v.mono (by decide) (by decide) (by decide) (by decide)) H6
theorem Inv.lk (I:Inv B N K S ag rows g t i) (hp:S.az=[]):∀(h e c:Nat) (l:List Nat),g e=some c->CS S.nd (some e) l->27<=h+l.length->Lk S.nd ag h e c|0,e,c,l,J,p,hz=>by refine xw (λn E R base T Y=>?_) (I.tr e c J);have:=vJ p T.p;subst this;exact absurd (Nat.zero_add l.length▸hz) (Nat.not_le_of_lt (Nat.lt_succ_of_le T.lz))|h+1,e,c,l,J,p,hz=>by refine xw (λn E R base T hE=>?_) (I.tr e c J);have:=vJ p T.p;subst this;(have A:E.ch=base:=by split at hE;rw [hE,hp];simp [Sk];exact hE);have bB:=I.bB;have zC:=I.zC;have za:=I.W.za e n T.hn;have zc:=I.W.zc e n T.hn;have Q:=I.W.there T.hn;have lz:=T.lz;refine ⟨n,E,l,T.hn,T.hE,⟨T.p,⟨by exact be (by assumption) (by decide),λa ha=>?_⟩,lY bB za,by exact wn (by assumption) (wn (by assumption) (by decide)),λj hj=>(T.r j hj).right,Q.2.1,Q.2.2,T.k,T.v,T.d,by rw [A];exact T.z⟩,λk a x L P=>?_⟩;refine am (λm hm=>?_) (de T.p a ha);rw [xL hm];have:=I.W.zn a m hm;exact ⟨(I.W.there hm).1,xr bB this⟩;rw [A] at P;refine nw (λm hm V H=>?_) (T.c k a x L P);refine ⟨m,hm,V,?_⟩;induction x using Ch.casesOn with|txt s=>exact H|tup s=>exact H|el j=>revert H;refine im λU Z x3=>?_;refine ⟨U,Z,?_⟩;refine nw (λm' F y Y=>?_) (I.W.ch e n T.hn a (Lm L));rw [hm] at F;obtain rfl:=an F;have pa:CS S.nd (some a) (l++[a]):= .cons hm (by rw [y];exact T.p);exact I.lk hp h a j (l++[a]) x3 pa (by rw [Ll];show 27<=h+(l.length+1);lia)
noncomputable def Tk (sc:List Int) (k:Int) (a:Option MV):ee:=[some (.lst (sc.map .int)),some (.int k),some (.af .src),some (.af .tree),some (.af (.el 0)),some (.int 1),some (.af .res),some (.af .ag),a]
theorem Q4 (p:Meets z 20 jb) (m:Meets z 62 (eR 26)) {sc:List Int} {Nx:ee->GH->Prop} (I:Inv B N K S ag rows g t i) (L:N+1<=400) (F:K+1<=400) (o:rows.length=1) (q:∀(S:St) (ag:List El) (rows:List Nat) (a b:Int),Nx (Tk sc k A) (gh ((bs ag rows a b).s S))):io (mt.T z) n4 (Tk sc k A) (gh ((bs ag rows a b).s S)) Nx Q X:=by
 refine am (λn T=>?_) I.bj;refine pt (λj p0 o0 O=>?_) (I.settle L F);have l:=I.rl;have w:S.au=[5]:=by refine am (λr H=>?_) I.o5;rw [H] at l⊢;induction r using List.casesOn with|nil=>rfl|cons x y=>rw [o] at l;simp at l
 have C:t=5:=by have:=I.top;rw [w] at this;exact (an this).symm
 subst C;have er:rows=[i]:=by have:=I.aP;match rows,o,this with| [x],_,h=>exact l9 (λy=>[y]) (an h)
 have d:=j.root;have c:=I.root;have v:CS (settle S 5).nd (some 5) [5]:=by have:=j.path;rw [o0,w] at this;exact this
 have J:=j.lk p0 26 5 i [5] j.gt v (by decide);have P:=j.sz;have E:cf [i]=[.af (.el i)]:=rfl;have u:seqIndex? 0 1=some 0:=by decide
 unfold n4 Tk at*;wide_open with [];refine p ⟨bs ag rows a b,S,rfl,T.o,rfl,.inr ⟨QG o l,5,n,T,?_⟩⟩;generalize settle S 5=S1 at*;subst er;wide_open with [d,c,E,List.length_cons,List.length_nil,bz,u,Option.bind_some,List.getElem?_cons_zero];refine m ⟨(bs ag [i] a b).s S1,S1.nd,5,i,rfl,rfl,by exact wn (by assumption) (wn (by assumption) (by decide)),λi k M e=>(by cases e),λi k=>rfl,J,rfl,?_⟩;exact q _ _ _ _ _
theorem x7 (n:Nat):((1:Int)<(n:Int))=(1<n):=propext (ef (n:=1))
theorem ym {a:Nat} (h:n<=21):a<=a+40 - n:=Nat.le_sub_of_add_le (ed (be h (by decide)) a)
theorem pR {a:Nat} (h:a+50<=400):a+40 - n<=400:=be (Nat.sub_le ..) (be (ed (by decide) a) h)
theorem nY {a:Nat} (h:a+50<=400):a+40 - n+1<=400:=be (Pe (Nat.sub_le ..)) (be (ed (n:=41) (by decide) a) h)
theorem zP {a:Nat} (h:1<n) (k:n<=40):a+40 - n+1<=a+40 -(n - 1):=by induction n using Nat.casesOn with|zero=>exact absurd h (fT _)|succ m=>exact fp ((kP (Nat.sub_pos_of_lt (Op k (e7 40 a)))))
theorem UP (u:Meets w 20 jb) (z:Meets w 19 fD) (C:Meets w 62 (eR 26)) {sc:List Int} {Nx:ee->GH->Prop} (I:Inv B N K S ag rows g t i) (y:N+50<=400) (x:K+50<=400) (q:∀(S:St) (ag:List El) (rows:List Nat) (a b:Int),Nx (Tk sc k J) (gh ((bs ag rows a b).s S))):io (mt.T w) uS (Tk sc k J) (gh ((bs ag rows a b).s S)) Nx Q X:=by
 refine am (λE A=>?_) I.eP;have hr:=A.r;have V:=A.r0;have F:=I.rl;have ol:=I.ol;haveI d:rows.length<=21:=F▸be ol (Pe I.bB);have j:io (mt.T w) (.seq uC n4) (Tk sc k J) (gh ((bs ag rows a b).s S)) Nx Q X:=by delta uC;rw [B4,yi];refine ⟨λn ρ O=>n<=40/\ρ=Tk sc k J/\∃S ag rows g tt i,O=gh ((bs ag rows a b).s S)/\rows.length=n/\Inv B (N+40 - n) (K+40 - n) S ag rows g tt i,⟨rows.length,be d (by decide),rfl,S,ag,rows,g,t,i,rfl,rfl,I.mono (ym d) (ym d) (pR y) (pR x)⟩,?_⟩;intro n U O;refine im λH=>?_;rintro rfl;refine rb λS1 r c g1 l=>nw λi1=>?_;rintro rfl rfl m;refine am (λE1 o=>?_) m.eP;have Y:=o.r;have L:=o.r0;have p:=m.rl;have v:((1:Int)<(c.length:Int))=(1<c.length):=x7 _;by_cases e:1<c.length;refine am (λn2 T=>?_) m.bj;obtain ⟨I2,p2,M,R⟩:=m.settle (nY y) (nY x);obtain ⟨t3,i3,I3,H3⟩:=I2.close p2 (by rw [M,<- p];exact BN e);refine aa (λZ r2=>?_) (yD o.l);delta Tk;wide_open with [Pv,bg (show c.length<1000 by exact Nat.le_trans (by assumption) (by decide)),v,e];refine z ⟨bs r c a b,S1,rfl,rfl,.inr ⟨by rw [<- p];exact BN e,l,n2,T,?_⟩⟩;(have W:jp S1 l=⟨(settle S1 l).root,(settle S1 l).nd,(settle S1 l).au.dropLast,(settle S1 l).has.dropLast,(settle S1 l).pre,(settle S1 l).az⟩:=by unfold jp;rw [M,R,qh]);rw [W];wide_open with [Z,r2,Pv,bl (show c.length<1000 by exact Nat.le_trans (by assumption) (by decide)),pT];exact ⟨c.length - 1,Nat.sub_lt o.r0 Nat.one_pos,be (Nat.sub_le ..) H,rfl,_,_,_,_,_,_,rfl,by rw [nN],I3.mono (zP e H) (zP e H) (pR y) (pR x)⟩;have fin:=Q4 (X:=X) (Q:=Q) (a:=a) (b:=b) u C m (nY y) (nY x) (On (kQ e) o.r0) q;unfold Tk at fin⊢;wide_open with [Pv,bg (show c.length<1000 by exact Nat.le_trans (by assumption) (by decide)),v,e];exact fin
 have v:((1:Int)<(rows.length:Int))=(1<rows.length):=x7 _;have rf:∀P Q:Prop,P->(if False then Q else P):=λP Q h=>by rw [al id];exact h
 delta uS;unfold Tk at*;by_cases e:1<rows.length;wide_open with [Pv,bg (show rows.length<1000 by exact Nat.le_trans (by assumption) (by decide)),v,e,qo,qg,oL];refine u ⟨bs ag rows a b,S,rfl,by rw [<- F];exact wn d (by decide),rfl,.inl ⟨by rw [<- F];exact BN e,?_⟩⟩;exact j;wide_open with [Pv,bg (show rows.length<1000 by exact Nat.le_trans (by assumption) (by decide)),v,e];exact j
theorem V4 (N:Meets n 56 dX) (B:Meets n 60 md) (M:Meets n 15 mi) (L:Meets n 20 jb) (u:Meets n 19 fD) (y:Meets n 62 (eR 26)) {sc:List Int} {Nx:ee->GH->Prop} (I:Inv 3 12 4 S ag rows g t i) (H:So S ag i) (hs:TD a b) (q:∀(tn:Option MV) (S:St) (ag:List El) (rows:List Nat) (a b:Int),Nx (Tk sc k tn) (gh ((bs ag rows a b).s S))):io (mt.T n) rD (Tk sc k tn) (gh ((bs ag rows a b).s S)) Nx Q λ_=>False:=by
 delta rD Tk;wide_open with [];refine ru (cM:=9) N hs (by decide) (by decide) λd Z W hd F=>?_;wide_open with [];refine ⟨Xu,LZ hd,λm ρ C=>∃S ag rows a b g t i tn,Inv (3+m) (12+8*m) (4+2*m) S ag rows g t i/\So S ag i/\TD a b/\ρ=Tk sc k tn/\C=gh ((bs ag rows a b).s S),⟨S,ag,rows,Z,W,g,t,i,tn,I,H,F,rfl,rfl⟩,?_,?_⟩;intro m x z C' X;refine rb λS1 l e P b1=>xw λg1 R T r w=>pt λU o=>?_;rintro rfl rfl;have A:m<16:=by have:=(BB.mp X).1;rw [FB,nK] at this;exact Op this (jk (show (8+(d:Int)).toNat<17 from Nat.add_lt_add_left hd 8))
 refine ⟨trivial,?_⟩;delta Ba Tk;wide_open with [];refine .inl (B ⟨S1,l,e,P,b1,_,_,_,g1,R,T,rfl,w,U,o,be (hJ (ed (jk A) 3) 1) (by decide),lm 12 8 8 400 (jk A) rfl,lm 4 2 2 400 (jk A) rfl,rfl,?_⟩);intro S2 j c O b2 g2 t2 Y J V v;refine am (λE2 A2=>?_) J.eP;have E:=A2.r;have p:=J.rl;wide_open with [];refine M ⟨bs j c O b2,S2,rfl,Sv E p,rfl,?_⟩;have e2:((S2.au.length:Int) - 1=(c.length:Int) - 1)=True:=by apply eq_true;exact Fh p
 wide_open with [Pv,bg (show c.length<1000 by exact Nat.le_trans (by assumption) (by decide)),e2];exact .inl ⟨S2,j,c,O,b2,g2,t2,Y,_,J,V,v,rfl,rfl⟩;intro z C';refine rb λS1 l e P b1=>xw λg1 R T r w=>pt λU o=>?_;rintro rfl rfl;refine ⟨trivial,UP L u y w ?_ ?_ (q r)⟩;rw [FB,nK];exact lm 12 8 50 400 (jk (show (8+(d:Int)).toNat<17 from Nat.add_lt_add_left hd 8)) rfl;rw [FB,nK];exact lm 4 2 50 400 (jk (show (8+(d:Int)).toNat<17 from Nat.add_lt_add_left hd 8)) rfl
noncomputable def Zl:Sg:=⟨none,none,none,[],none,λ_ _=>none,false⟩
noncomputable def s1 (c:Option (List Nd)) (a b:Int) (ag:List El) (r:Bool):Sg:=⟨c,none,some (a,b),ag,none,λ_ _=>none,r⟩
section
variable (nd:Option (List Nd)) (a b:Int) (ag:List El) (r:Bool)
theorem gH:(s1 nd a b ag r).tree=nd:=rfl
theorem Fv:(s1 nd a b ag r).ag=ag:=rfl
theorem Hi:(s1 nd a b ag r).raw=r:=rfl
end
noncomputable def e0:Nd:=on "root" "" "" "" "" none
noncomputable def e1:Nd:=on "element" "r:e" "w" "e" "" (some 0)
noncomputable def jr:List Nd:=[{e0 with ch:=[1]},e1]
noncomputable def jn:List Nd:=B0 jr 1 "r" "w"
noncomputable def lX:List Nd:=setAt jn 1 "n" "" "n" "5"
theorem J7 a b:up (up (gh (s1 (some aN) a b [xb "w" "e"] false)) (.ea 0) (.aT [["","n"]] [.str "5"])) (.el 0) (.aM ce [.tup [.str "w",.str "e"],.af (.ea 0),.lst [.str "deep"]])=gh (s1 (some aN) a b [KB] true):=by refine TM rfl λx c=>cP rfl λd=>?_;induction x using Loc.casesOn with|el i=>(induction i using Nat.casesOn with|zero=>contradiction|succ _=>rfl)|ea i=>(induction i using Nat.casesOn with|zero=>contradiction|succ _=>rfl)|ec i=>induction i using Nat.casesOn<;>rfl|_=>rfl
theorem GV a b:up (gh (((s1 (some bD) a b [KB] true).s Db).e [KB,xb "" ""])) .ag (.list [.af (.el 1)])=gh ((bs fg [1] a b).s Db):=by funext x;induction x using Loc.casesOn<;>rfl
theorem MP (B:Meets l 55 oH) (p:Meets l 34 ph) (n:Meets l 58 gK) (M:Meets l 39 mY) (m:Meets l 37 nW) (u:Meets l 45 iS) (E:Meets l 44 kD) (C:Meets l 40 mr) (F:Meets l 13 oG) (y:Meets l 63 pV) (L:Meets l 56 dX) (w:Meets l 60 md) (A:Meets l 15 mi) (z:Meets l 20 jb) (o:Meets l 19 fD) (r:Meets l 62 (eR 26)) {sc:List Int} {k:Nat} {Nx:ee->GH->Prop} (V:sc.length<=63) (hk:k<2) (q:∀(J:Option MV) (S:St) (ag:List El) (rows:List Nat) (a b:Int),Nx (Tk sc k J) (gh ((bs ag rows a b).s S))):io (mt.T l) sM [some (.lst (sc.map .int)),some (.int (k:Nat)),c,d,e,f,g,h,J] (gh Zl) Nx Q λ_=>False:=by
 delta sM;wide_open with [];refine B ⟨Zl,sc,k,rfl,rfl,by exact wn (by assumption) (by decide),hk,rfl,λa b ok=>?_⟩;have hs:TD a b:=by revert ok;refine tz λR b2 e x=>?_;have U:some (a,b)=some (R,b2):=e;cases U;exact x
 rw [show Zl.q a b=s1 none a b [] false from rfl];wide_open with [];refine ⟨.tree,rfl,p ⟨s1 none a b [] false,rfl,rfl,rfl,?_⟩⟩;have nil:∀N,OK N []:=λN k j h=>by cases h
 wide_open with [gH];refine n ⟨s1 (some []) a b [] false,"w","e",rfl,(λh=>(by cases h.1)),rfl,?_⟩;rw [show (s1 (some []) a b [] false).e ((s1 (some []) a b [] false).ag++[xb "w" "e"])=s1 (some []) a b [xb "w" "e"] false from rfl,show (s1 (some []) a b [] false).ag.length=0 from rfl];wide_open with [gH];refine m ⟨s1 (some []) a b [xb "w" "e"] false,[],rfl,rfl,by decide,rfl,?_⟩;rw [show (s1 (some []) a b [xb "w" "e"] false).t ([]++[on "root" "" "" "" "" none])=s1 (some [e0]) a b [xb "w" "e"] false from rfl];wide_open with [gH];refine M ⟨"r:e","w","e",s1 (some [e0]) a b [xb "w" "e"] false,[e0],0,e0,rfl,rfl,by decide,rfl,.inl rfl,by decide,rfl,?_⟩;rw [show (s1 (some [e0]) a b [xb "w" "e"] false).t (tw [e0] 0 (on "element" "r:e" "w" "e" "" (some 0)))=s1 (some jr) a b [xb "w" "e"] false from rfl];wide_open with [gH];refine u ⟨s1 (some jr) a b [xb "w" "e"] false,jr,1,e1,"r","w",rfl,rfl,by decide,rfl,rfl,by decide,nil _,rfl,λ_=>?_⟩;rw [show (s1 (some jr) a b [xb "w" "e"] false).t (B0 jr 1 "r" "w")=s1 (some jn) a b [xb "w" "e"] false from rfl];wide_open with [gH];refine E ⟨s1 (some jn) a b [xb "w" "e"] false,jn,1,{e1 with ns:=[2]},"n","","n","5",rfl,rfl,by decide,rfl,rfl,by decide,nil _,rfl,λ_=>?_⟩;rw [show (s1 (some jn) a b [xb "w" "e"] false).t (setAt jn 1 "n" "" "n" "5")=s1 (some lX) a b [xb "w" "e"] false from rfl];wide_open with [gH];refine C ⟨"deep",s1 (some lX) a b [xb "w" "e"] false,lX,1,{e1 with ns:=[2],at_:=[3]},rfl,rfl,by decide,rfl,.inr rfl,by decide,rfl,?_⟩;rw [show (s1 (some lX) a b [xb "w" "e"] false).t (tw lX 1 (on "text" "" "" "" "deep" (some 1)))=s1 (some aN) a b [xb "w" "e"] false from rfl];wide_open with [gH];refine .inl ?_;have P:gh (s1 (some aN) a b [xb "w" "e"] false) (.el 0)=some (.aM ce (ct false 0 (xb "w" "e"))):=rfl;have k2:gh (s1 (some aN) a b [xb "w" "e"] false) (.ea 0)=some (.aT [] []):=rfl;have T:∀v,pb ("children" :Str) v ce (ct false 0 (xb "w" "e"))=(ce,[.tup [.str "w",.str "e"],.af (.ea 0),v]):=λv=>by (have X:¬("name" :Str)="children" :=by decide);(have O:¬("attributes" :Str)="children" :=by decide);exact (dv X).trans (by rw [dv O,fb rfl];rfl)
 have W:pb ([("" :Str),"n"]:List Str) (.str "5") [] []=(([["","n"]],[.str "5"]):List (List Str)×List MV):=rfl;have Y:ce.length<=1000:=by decide
 have Z:gh (s1 (some aN) a b [KB] true) .tree=some (.inst 554 jH):=rfl;wide_open with [Fv,Hi,P,k2,mn,T,W,Y,J7,Z];refine ⟨by decide,?_⟩;wide_open with [gH];refine m ⟨s1 (some aN) a b [KB] true,aN,rfl,rfl,by decide,rfl,?_⟩;rw [show (s1 (some aN) a b [KB] true).t (aN++[on "root" "" "" "" "" none])=s1 (some bD) a b [KB] true from rfl];wide_open with [];refine ⟨.res,rfl,F ⟨s1 (some bD) a b [KB] true,bD,5,rfl,rfl,rfl,rfl,?_⟩⟩;wide_open with [];refine n ⟨(s1 (some bD) a b [KB] true).s Db,"","",rfl,(λh=>absurd (show 1=0 from h.2) (by decide)),rfl,?_⟩;wide_open with [];refine .inr .ag rfl ?_;rw [show ((s1 (some bD) a b [KB] true).s Db).e (((s1 (some bD) a b [KB] true).s Db).ag++[xb "" ""])=((s1 (some bD) a b [KB] true).s Db).e [KB,xb "" ""] from rfl,show ((s1 (some bD) a b [KB] true).s Db).ag.length=1 from rfl,GV];wide_open with [];refine y ⟨a,b,rfl,rfl,λS ag rows g t i I H=>?_⟩;have fin:=V4 (tn:=J) (Q:=Q) L w A z o r I H hs q;unfold Tk at fin;wide_open with [Bool.true_eq_false];exact fin
noncomputable def gW:Loc->Bool| .code _=>false|_=>true
theorem Xo a:cut gW (gh a)=gh Zl:=by funext l;induction l using Loc.casesOn<;>rfl
set_option tactic.hygienic true in theorem Xl g:kN (gh Zl) gW (gh g):=by
 refine ⟨λl h=>?_,λl e a c=>?_⟩;induction l using Loc.casesOn<;>first|rfl|exact absurd h (by decide)| (cases h;done)
 induction l using Loc.casesOn<;>first|cases c|skip
 rename_i i;have d:(cX i).map (λp=>OV.tab p.1 p.2)=some e:=a;refine ac (λp Y=>?_) (YI.mp d);rintro rfl;rfl
theorem WO D:∀l:List Int,NO D (l.map .int)=true:=ja λ_=>rfl
inductive yS (vs:List MV) (C:GH) (Q:MV->GH->Prop) (X:GH->Prop):Prop|mk (sc:List Int) (_:C=gh Zl) (_:sc.length<=63) (_:vs=[.lst (sc.map .int)]) (_:Q (.bool true) (gh Zl))
theorem WV (H:Meets c 55 oH) (e:Meets c 34 ph) (z:Meets c 58 gK) (P:Meets c 39 mY) (g:Meets c 37 nW) (l:Meets c 45 iS) (J:Meets c 44 kD) (I:Meets c 40 mr) (N:Meets c 13 oG) (v:Meets c 63 pV) (O:Meets c 56 dX) (p:Meets c 60 md) (F:Meets c 15 mi) (E:Meets c 20 jb) (d:Meets c 19 fD) (j:Meets c 62 (eR 26)) (h:yS W C Q X):Walk c 64 W C Q X:=by
 obtain ⟨sc,rfl,w,rfl,q⟩:=h;refine pc rfl rfl ?_;show io (mt.T c) nR [some (.lst (sc.map .int)),none,none,none,none,none,none,none,none] _ _ _ _;delta nR;have hl:(sc.map MV.int).length=sc.length:=FB ..;wide_open with [hl];have R:max 1 (min (sc.length:Int) 2)<=2:=Int.max_le.mpr ⟨by decide,Int.min_le_right ..⟩;have hn:=Int.toNat_le.mpr R;refine ⟨bg (by exact wn (by assumption) (by decide)),Int.le_trans (by decide) (Int.le_max_left ..),Int.le_trans R (by decide),λm Z C=>C=gh Zl/\∃L n M B A k t y,Z=[some (.lst (sc.map .int)),L,n,M,B,A,k,t,y],⟨rfl,_,_,_,_,_,_,_,_,rfl⟩,?_,?_⟩;intro m x o Y u;refine aa ?_;rintro rfl;refine rb λL n M B A=>fc λk t y=>?_;rintro rfl;have U:m<(max 1 (min (sc.length:Int) 2)).toNat:=by have:=(BB.mp u).1;rw [FB,nK] at this;exact this
 have T:x= .int (m:Nat):=by rw [GG,List.getElem?_range U] at u;exact (an u).symm
 subst T;refine ⟨trivial,?_⟩;wide_open with [];refine MP H e z P g l J I N v O p F E d j w (by exact be (by assumption) (be (by assumption) (by decide))) λtn S ag rows a b=> .inr gW (Xl _) ⟨Xo _,?_⟩;have e1:gM gW (some (.lst (sc.map .int)))=some (.lst (sc.map .int)):=by show (if dS gW (.lst (sc.map .int))=true then some (MV.lst (sc.map .int)) else none)=_;exact bn (WO gW sc)
 have V:∀r:ee,(some (MV.lst (sc.map .int))::r).map (gM gW)=some (.lst (sc.map .int))::r.map (gM gW):=λr=>by rw [cN,e1]
 exact ⟨_,_,_,_,_,_,_,_,V _⟩;intro o Y;refine aa ?_;rintro rfl;refine rb λL n M B A=>fc λk t y=>?_;rintro rfl;refine ⟨trivial,?_⟩;wide_open with [];exact .inl q
def C2:Spec:=λ_ _ _ _=>False
noncomputable def xx:List Spec:=[S0,S1,S2,S3,S4,S5,S6,S7,S8,S9,vf,ud,vn,oG,dC,mi,jB,iO,jO,fD,jb,lM,pG,ux,ry,rB,uz,sD,jK,kG,lJ,jV,lT,tN,ph,kH,YE,nW,gp,mY,mr,qM,uP,ou,kD,iS,SF (λn=> .str n.kind),SF (λn=> .str n.name),SF (λn=> .str n.aq),SF (λn=> .str n.af),SF (λn=> .str n.val),SF (λn=>dB n.aC),SL (λn=>n.ch),SL (λn=>n.at_),SL (λn=>n.ns),oH,dX,fj,gK,nh,md,tH,C2,pV,yS]
def vY:List Spec->Nat->Spec| [],_=>C2|S::_,0=>S|_::r,i+1=>vY r i
def sp (f:Nat):Spec:=vY xx f
def D (n f:Nat):Spec:=λa C Q X=>if f=62 then ∃h,20+h<=n/\eR h a C Q X else d5 f<=n/\sp f a C Q X
theorem ij (a:d5 f<=n+1) j (e:(j !=62&&decide (d5 j<d5 f))=true):Meets (D n) j (sp j):=λh=>by
 have e1:j≠62:=λq=>by rw [q] at e;exact Bool.noConfusion e
 unfold D;rw [al e1];exact ⟨jk (Op (ue (aR e)) a),h⟩
theorem xt (a:20+h<=n):Meets (D n) 62 (eR h):=λq=>by unfold D;rw [bn rfl];exact ⟨h,a,q⟩
abbrev Ok (n k:Nat) (S:Spec):Prop:=d5 k<=n+1->∀{a C Q X},S a C Q X->Walk (D n) k a C Q X
def j6 (n:Nat):Nat->List Spec->Prop|_,[]=>True|k,S::r=>Ok n k S/\j6 n (k+1) r
theorem aw {n:Nat} (h:Ok n k S) (t:j6 n (k+1) r):j6 n k (S::r):=⟨h,t⟩
theorem j6.get (a:j6 n k L) i {vs C Q X} (hl:d5 (k+i)<=n+1) (q:vY L i vs C Q X):Walk (D n) (k+i) vs C Q X:=by induction L generalizing k i with|nil=>exact q.elim|cons S r j=>induction i using Nat.casesOn with|zero=>exact a.1 hl q|succ i=>rw [<- Nat.succ_add_eq_add_succ] at hl⊢;exact j a.2 i hl q
theorem OA n:j6 n 0 xx:=aw (λ_=>w0)<|aw (λa=>Ui (ij a 0 rfl))<|aw (λa=>Sp (ij a 1 rfl))<|aw (λa=>w3 (ij a 2 rfl))<|aw (λa=>w4 (ij a 1 rfl) (ij a 3 rfl))<|aw (λa=>w5 (ij a 4 rfl))<|aw (λa=>w6 (ij a 5 rfl))<|aw (λa=>w7 (ij a 51 rfl))<|aw (λa=>w8 (ij a 52 rfl))<|aw (λa=>w9 (ij a 7 rfl) (ij a 54 rfl) (ij a 47 rfl) (ij a 50 rfl))<|aw (λa=>Xk (ij a 36 rfl) (ij a 38 rfl) (ij a 45 rfl) (ij a 44 rfl) (ij a 47 rfl) (ij a 50 rfl))<|aw (λa=>G7 (ij a 46 rfl) (ij a 52 rfl) (ij a 8 rfl) (ij a 9 rfl) (ij a 10 rfl) (ij a 12 rfl))<|aw (λa=>F0 (ij a 9 rfl) (ij a 45 rfl))<|aw (λ_=>Hw)<|aw (λ_=>Ln)<|aw (λ_=>QW)<|aw (λa=>OZ (ij a 14 rfl) (ij a 40 rfl))<|aw (λa=>MO (ij a 16 rfl))<|aw (λa=>QN (ij a 17 rfl) (ij a 6 rfl) (ij a 14 rfl) (ij a 39 rfl) (ij a 21 rfl) (ij a 22 rfl))<|aw (λa=>H8 (ij a 16 rfl))<|aw (λa=>JQ (ij a 16 rfl))<|aw (λa=>Hp (ij a 54 rfl) (ij a 47 rfl) (ij a 50 rfl))<|aw (λa=>MN (ij a 14 rfl) (ij a 45 rfl))<|aw (λa=>HU (ij a 14 rfl) (ij a 54 rfl) (ij a 47 rfl))<|aw (λa=>XW (ij a 14 rfl) (ij a 23 rfl) (ij a 53 rfl) (ij a 47 rfl) (ij a 6 rfl))<|aw (λa=>OS (ij a 21 rfl))<|aw (λa=>Kf (ij a 21 rfl) (ij a 22 rfl) (ij a 24 rfl) (ij a 25 rfl) (ij a 54 rfl) (ij a 47 rfl) (ij a 50 rfl))<|aw (λ_=>WN)<|aw (λa=>II (ij a 27 rfl) (ij a 6 rfl) (ij a 14 rfl) (ij a 44 rfl) (ij a 26 rfl))<|aw (λ_=>Wp)<|aw (λa=>Pw (ij a 17 rfl) (ij a 14 rfl) (ij a 41 rfl))<|aw (λa=>Mr (ij a 5 rfl) (ij a 17 rfl) (ij a 14 rfl) (ij a 42 rfl))<|aw (λa=>Wd (ij a 46 rfl) (ij a 17 rfl) (ij a 14 rfl) (ij a 11 rfl))<|aw (λ_=>JM)<|aw (λ_=>JB)<|aw (λa=>OU (ij a 33 rfl))<|aw (λ_=>TN)<|aw (λa=>E9 (ij a 35 rfl))<|aw (λa=>Gm (ij a 36 rfl) (ij a 35 rfl))<|aw (λa=>Jj (ij a 38 rfl))<|aw (λa=>Pk (ij a 38 rfl))<|aw (λa=>Ii (ij a 38 rfl))<|aw (λa=>J5 (ij a 38 rfl))<|aw (λa=>Hq (ij a 36 rfl))<|aw (λa=>Gw (ij a 43 rfl) (ij a 35 rfl))<|aw (λa=>R5 (ij a 43 rfl) (ij a 35 rfl))<|aw (λa=>FV (ij a 36 rfl))<|aw (λa=>Fw (ij a 36 rfl))<|aw (λa=>KD (ij a 36 rfl))<|aw (λa=>RG (ij a 36 rfl))<|aw (λa=>Iq (ij a 36 rfl))<|aw (λa=>MS (ij a 36 rfl))<|aw (λa=>R8 (ij a 36 rfl))<|aw (λa=>HW (ij a 36 rfl))<|aw (λa=>Pp (ij a 36 rfl))<|aw (λ_=>Rz)<|aw (λ_=>O0)<|aw (λa=>KC (ij a 56 rfl))<|aw (λ_=>Ye)<|aw (λ_=>M2)<|aw (λa=>U3 (ij a 18 rfl) (ij a 58 rfl) (ij a 19 rfl) (ij a 57 rfl) (ij a 28 rfl) (ij a 59 rfl) (ij a 29 rfl) (ij a 30 rfl) (ij a 31 rfl) (ij a 56 rfl) (ij a 32 rfl))<|aw (λa=>O5 (ij a 9 rfl) (ij a 53 rfl) (ij a 47 rfl) (ij a 48 rfl) (ij a 49 rfl))<|aw (λ_ _ _ _ _ q=>q.elim)<|aw (λa=>Sd (ij a 18 rfl) (ij a 58 rfl) (ij a 28 rfl) (ij a 29 rfl))<|aw (λa=>WV (ij a 55 rfl) (ij a 34 rfl) (ij a 58 rfl) (ij a 39 rfl) (ij a 37 rfl) (ij a 45 rfl) (ij a 44 rfl) (ij a 40 rfl) (ij a 13 rfl) (ij a 63 rfl) (ij a 56 rfl) (ij a 60 rfl) (ij a 15 rfl) (ij a 20 rfl) (ij a 19 rfl) (xt (jk (Op (show 46<d5 64 by decide) a)))) trivial
theorem QO (a:d5 62<=n+1) (d:20+h<=n) (q:eR (h+1) c C Q X):Walk (D n) 62 c C Q X:=GI (xt d) (ij a 61 rfl) (ij a 53 rfl) (ij a 52 rfl) (ij a 46 rfl) (ij a 47 rfl) (ij a 48 rfl) (ij a 49 rfl) (ij a 50 rfl) q
theorem Nu f (c:d5 f<=n+1) (h:sp f a C Q X):Walk (D n) f a C Q X:=by have:=(OA n).get f (vs:=a) (C:=C) (Q:=Q) (X:=X);rw [Nat.zero_add] at this;exact this c h
theorem zQ (h:D (n+1) f g C Q X):Walk (D n) f g C Q X:=by
 unfold D at h;by_cases e:f=62;subst e;rw [bn rfl] at h;revert h;refine ac λc j a=>?_;induction c using Nat.casesOn with|zero=>obtain ⟨k,l,e,i,_,_,_,_,_,d,_⟩:=a;exact d.elim|succ c=>exact QO (by show 20<=n+1;lia) (by lia) a
 rw [al e] at h;exact Nu f h.1 h.2
theorem VH f:¬D 0 f c C Q X:=λh=>by unfold D at h;split at h;revert h;refine ac λd a Y=>?_;lia;have:=Rj f;have:=h.1;exact XT (by assumption) this
theorem gx (h:fH r a=true):r=some (some (.ref a)):=AM h λo h=>AM h λv h=>jl h λb h=>by rw [ej h]
theorem iK {r:Option (Option Value)} (h:fZ r=true):r=some none:=AM h λo h=>by rw [dU h]
theorem vW (h:pK r n=true):r=some (some (.builtin n)):=AM h λo h=>AM h λv h=>BE h λb h=>by rw [ue h]
end
theorem xm {K:Frag} (h:pB K a=true):typeIn K (.ref a)=some (.type "function"):=by unfold pB at h;generalize typeIn K (.ref a)=o at h⊢;exact AM h λv h=>q9 h λb h=>by rw [ue h]
theorem Gl {K:Frag} (h:yz K=true):m6 K (mt.T c) mt.gf mt.mf mt.nf:=⟨λf a=>have h:=LG.mp (aL h) f a;⟨gx (aL h),aR h⟩,λf a=>have h:=LG.mp (aL (aR h)) f a;⟨vW (aL h),iK (aL (aR h)),gx (aL (aR (aR h))),xm (aL (aR (aR (aR h)))),aR (aR (aR (aR h)))⟩,λf a=>have h:=LG.mp (aR (aR h)) f a;⟨gx (aL h),aL (aR h),aL (aR (aR h)),gx (aL (aR (aR (aR h)))),xm (aR (aR (aR (aR h))))⟩⟩
theorem EZ {K:Frag} {p:Addr×Nat} (h:ui K p=true):CX K p.1 (wT p.2):=by have a:=aR (aR h);generalize e:findIn K (.ref p.1) (wT p.2)=o at a;revert e;exact AM a λx q e=>⟨aL h,aL (aR h),x,e,q⟩
theorem MQ {K:Frag} {p:Addr×Nat} (h:xd K p=true):mx K p.1 (wT p.2):=by have a:=aL h;generalize e:clsIn K p.1=o at a;revert e;exact AM a λc q e=>⟨⟨c,e,aL q,nB (aR (aR q)),only_has (aL (aR q)),λx=>refuse_only _ (aL (aR q))⟩,vW (aL (aR h)),iK (aR (aR h))⟩
@[elab_as_elim] theorem YK {o t k} {P:Option Obj->Prop} (h:Ce o t k=true) (f:∀d a n e,k a=true->P (some ⟨.type t,d,.seq a n,e⟩)):P o:=AM h λ⟨c,d,x,e⟩ h=>q9 (x:=c) (aL h) λu q=>YF (x:=x) (aR h) λa n h=>by rw [show u=t from ue q];exact f d a n e h
section
variable {K:Frag}
theorem BD:∀{d:List Value} {l:List Str},wt d l=true->br a w g h (te l) d| [],l,e=>by rw [RS.mp (show l.isEmpty=true from e)];exact .nil|v::r,[],e=>nomatch e|v::r,s::l,e=>y7 (aL e) λt c q=> .cons (show VR a w g h (.str s) (.str t c) from ⟨c,by rw [cj q]⟩) (BD (aR e))
theorem qO (h:iF K x k=true) (q:∀v,k v=true->∀g h,f8 a w c g h->VR a w g h m v):∃u,nsIn K mainGlobals x=some (some u)/\∀g h,f8 a w c g h->VR a w g h m u:=by unfold iF at h;generalize nsIn K mainGlobals x=o at h⊢;exact AM h λo h=>AM h λv h=>⟨v,rfl,q v h⟩
theorem zb (h:q8 K x s=true):∃u,nsIn K mainGlobals x=some (some u)/\∀g h,f8 a w c g h->VR a w g h (.str s) u:=qO h λv h=>y7 h λt d h g e _=>⟨d,by rw [cj h]⟩
theorem Mq (h:yw K x i=true):∃u,nsIn K mainGlobals x=some (some u)/\∀g h,f8 a w c g h->VR a w g h (.int i) u:=qO h λv h=>GB h λt d h g e _=>⟨d,by rw [ue h]⟩
theorem OO {x:Str} (X:K.In e) (h:xq K x l=true):∃u,nsIn K mainGlobals x=some (some u)/\∀g h,f8 c w e g h->VR c w g h (.tup (te l)) u:=qO h λv h=>jl h λa h=>by generalize j:K.lookup a=o at h;revert j;refine YK h λd k n m h j g p R=>⟨a,n,d,m,k.toList,rfl,by rw [R.base _ _ (X _ _ j)],?_,BD h⟩;have e0:=X _ _ j;rintro (⟨l,q⟩|q);have:=(R.above l a q).1;rw [e0] at this;cases this;exact absurd (R.aG a q).2.1 (Nat.not_le.mpr (r8 e0))
theorem Yn (X:K.In k) (h:Cv K=true):∀(i:Nat) x v,B5[i]? =some (x,v)->∃u,nsIn K mainGlobals x=some (some u)/\∀g h,f8 j w k g h->VR j w g h v u:=by have a:=aL h;have b:=aL (aR h);have c:=aL (aR (aR h));have d:=aR (aR (aR h));intro i x v e;match i,e with|0,e=>cases e;exact zb a|1,e=>cases e;exact zb b|2,e=>cases e;exact Mq c|3,e=>cases e;exact OO X d|i+4,e=>cases e
@[elab_as_elim] theorem Nr {x k} {P:Stmt->Prop} (h:AR x k=true) (f:∀a b c d e,k a b c d=true->P (.Try a b c d e)):P x:=AT (AE h) λe h=>Stmt.Try.elim (motive_2:=λx=>(e:x.ctorIdx=17)->(Stmt.Try.elim x e (λa b c d _=>k a b c d):Bool)=true->P x) x e (λa b c d e _ h=>f a b c d e h) e h
@[elab_as_elim] theorem j5 {P:Expr->Prop} (h:iT s e=true) (f:∀p,P (.Name s p)):P e:=cW h λx p h=>by rw [cj h];exact f p
@[elab_as_elim] theorem DQ {P:Stmt->Prop} (h:rn r s=true) (f:∀k p q,P (.Return (some (.Constant (.bool r) k p)) q)):P s:=z8 h λo q h=>AM (P:=λo=>P (.Return o q)) h λe h=>pH h λc k p h=>yZ (P:=λc=>P (.Return (some (.Constant c k p)) q)) h λb h=>by rw [show b=r from ue h];exact f k p q
@[elab_as_elim] theorem NY {P:ExceptHandler->Prop} (h:DH s x=true) (f:∀p k q r u,P (.ExceptHandler (some (.Name s p)) none [.Return (some (.Constant (.bool true) k q)) r] u)):P x:=by obtain ⟨t,n,b,u⟩:=x;rw [show n=none from dU (aL h)];exact AM (o:=t) (P:=λt=>P (.ExceptHandler t none b u)) (aL (aR h)) λe a=>j5 a λp=>Nl (l:=b) (aR (aR h)) λs c=>DQ c λk q r=>f p k q r u
end
theorem ME {K:Frag} (h:Ea K=true):∃m,sy K 75 586 m:=by have g:=aL h;generalize t:K.lookup 586=o at g;revert t;refine wU g λc d m B g t=>?_;have j:=aL g;generalize q:m.body=b at j;revert q;refine tf j λl j=>dj j λs r j=>DQ (aL j) λF p1 p2=>Nr (aR j) λa b c d u p=>?_;rw [RS.mp (aL p),RS.mp (aL (aR p))];refine Nl (aL (aR (aR p))) λx v=>NY v λA z y C E=>Nl (aR (aR (aR p))) λe k=>wK k λe p3 k=>gI k λn p4 w p5 k=>?_;rw [cj (aL k),RS.mp (aR k)];exact λq=>⟨m,⟨_,_,_,_,_,_,_,_,_,_,_,_,rG ⟨_,_,_,t⟩ q (aL (aR g))⟩,gx (aL (aR h)),aL (aR (aR h)),gx (aR (aR (aR h))),ue (aL (aR (aR g))),ue (aR (aR (aR g)))⟩
theorem kg (h:iX s v=true):v= .type s:=q9 h λt h=>by rw [show t=s from ue h]
theorem Jz (h:zg l=true):∃D,l=[.ref 75,.ref D,.type "Exception",.type "BaseException",.type "object"]:=by
 rcases l with _|⟨a,_|⟨b,_|⟨c,_|⟨d,_|⟨e,_|⟨x,r⟩⟩⟩⟩⟩⟩<;>first|cases h|skip
 rw [kg (aL (aR (aR h))),kg (aL (aR (aR (aR h)))),kg (aR (aR (aR (aR h))))];exact jl (x:=a) (aL h) λn g=>jl (x:=b) (aL (aR h)) λD _=>⟨D,by rw [ej g]⟩
theorem PQ (h:Am l=true):∃a b c d e,l=[a,b,c,d,some (.builtin "Exception.__new__"),e]:=by
 rcases l with _|⟨a,_|⟨b,_|⟨c,_|⟨d,_|⟨o,_|⟨e,_|⟨x,r⟩⟩⟩⟩⟩⟩⟩<;>first|cases h|skip
 exact AM (o:=o) h λv h=>BE (x:=v) h λs h=>⟨a,b,c,d,e,by rw [show s=_ from ue h]⟩
theorem GQ {o:Obj} (h:D3 o=true):∃m q N bs D p sub n g v w B C t A,o=excClassObj m q 75 N bs [.ref D,.type "Exception",.type "BaseException",.type "object"] true p sub n g v w B C t A "Exception.__new__" :=by obtain ⟨cls,dict,data,⟨z⟩⟩:=o;refine M4 (x:=data) h λ⟨m,bs,k,N,q,hd,p,sub,n,g,del⟩ h=>?_;refine am (λD j=>?_) (Jz (aL (aR h)));refine rb (λa b c d e l=>?_) (PQ (aR (aR (aR (aR h)))));have u:hd=true:=aL (aR (aR h));have y:del=false:=nB (aL (aR (aR (aR h))));have j:k=_:=j;have l:z=_:=l;have r:cls=_:=kg (aL h);subst j l r u y;exact ⟨_,_,_,_,_,_,_,_,_,_,_,_,_,_,_,rfl⟩
theorem Ir (h:yJ l=true):∃p1 p2 p3 p4 p5 n p o m c,l=[.Expr (.Call (.Attribute (.Name "Exception" p1) "__init__" p2) [.Name "self" p3,.Name "message" p4] [] p5) n,.Assign [.Attribute (.Name "self" p) "message" o] (.Name "message" m) c]/\(p2.endLine==p5.line)=true:=dj h λs r h=>wK (aL h) λe n d=>wd d λf x w p5 d=>by rw [RS.mp (aL d)];exact dj (aL (aR d)) λa b q=>j5 (aL q) λp3=>j5 (aR q) λp4=>lI (aR (aR d)) λa b p2 t=>j5 (aL t) λp1=>T0 (aR t) λu=>CW (aR h) λy v c j=>Nl j λg j=>j5 (aL j) λm=>lI (aR j) λa b o k=>T0 k λk=>j5 k λp=>⟨p1,p2,p3,p4,p5,n,p,o,m,c,rfl,u⟩
theorem U9 {K:Frag} (h:zz K=true):i5 K 75 35:=by
 refine ⟨?_,gx (aL (aR h)),vW (aL (aR (aR h))),iK (aL (aR (aR (aR h)))),iK (aL (aR (aR (aR (aR h))))),?_,?_⟩;have a:=aL h;generalize e:K.lookup 75=o at a;revert e;refine AM a λo a e=>?_;refine rb (λz w N C H=>rb λL I y E b1=>rb λb2 b3 b4 b5 b6=>?_) (GQ a);rintro rfl;exact ⟨z,w,N,C,H,L,I,y,E,b1,b2,b3,b4,b5,b6,rfl⟩;have g:=aL (aR (aR (aR (aR (aR h)))));unfold B7 at g;generalize findCls K (.type "Exception") (.type "type") "__init__" =o at g⊢;induction o using Option.casesOn with|none=>cases g|some x=>induction x using W.CFound.casesOn with|val v=>(induction v using Value.casesOn<;>first|cases g|rw [ue g])|_=>cases g
 have n:=aR (aR (aR (aR (aR (aR h)))));unfold Dm at n;generalize p:K.lookup 35=o at n;revert p;refine wU n λc d q O h p=>?_;have a:=aL (aR h);generalize k:q.body=b at a;revert k;refine tf a λl a k=>?_;refine s3 λ_ t=>?_;refine rb (λp1 p2 p3 p4 p5=>rb λB M A J m=>aa ?_) (Ir a);rintro rfl r;have j:=aR (aR h);have F:=rG ⟨_,_,_,p⟩ k (aL j);refine t ?_;exact ⟨q,p1,p2,p3,p4,p5,B,M,A,J,m,F.is,r,λu v=>s9 F.aC (by decide) rfl,ue (aL (aR j)),ue (aL (aR (aR j))),ue (aR (aR (aR j))),_,_,_,rfl,kg (aL h)⟩
theorem PI b:b∈B9:=Lm (i:=b.ctorIdx) (by induction b using BI.casesOn<;>rfl)
theorem HE {K:Frag} (h:rL K=true):mH K:=by unfold rL iF at h;generalize e:nsIn K mainGlobals "__builtins__" =o at h;revert e;refine AM h λo h=>AM h λv h=>jl h λb h e=>?_;have g:=aR (aR h);generalize a:K.lookup b=o at g;revert a;refine AM g λ⟨c,d,x,j⟩ g a=>?_;have e1:c=_:=kg (aL g);subst e1;refine Data.plain.elim (motive:=λx=>K.lookup b=some ⟨_,d,x,j⟩->mH K) x (ue (aL (aR g))) (λa=>?_) a;revert a;exact AM (o:=d) (aR (aR g)) λd q a=>⟨b,j,e,Nat.ne_of_beq_eq_false (nB (aL h)),Nat.ne_of_beq_eq_false (nB (aL (aR h))),by rw [a,ej q]⟩
theorem q6 {K:Frag}:∀{l:List gv} {n:Nat},j4 K n l=true->∀(i:Nat) (r:gv),l[i]? =some r->jC mt K r=true| [],_,_,i,r,e=>by cases e|x::l,n,h,i,r,e=>by induction i using Nat.casesOn with|zero=>obtain rfl:=an e;exact aL h|succ i=>exact q6 (l:=l) (n:=n+1) (aR h) i r e
noncomputable def allB (K:Frag):Bool:=j4 K 0 WJ&&yT K
theorem yP {K:Frag} (C:Cx K a) (lo:sysModules<a.objs.size) (h:allB K=true):∃d,∀k:Nat->Spec,WF ao w a 75 K mt k 586 d 35:=by
 haveI m:=aL (aL (aL (aL (aL (aL (aL (aL (aL (aL (aR h))))))))));haveI n:=aR (aL (aL (aL (aL (aL (aL (aL (aL (aL (aR h))))))))));haveI q:=aR (aL (aL (aL (aL (aL (aL (aL (aL (aR h)))))))));haveI t:=aR (aL (aL (aL (aL (aL (aL (aL (aR h))))))));haveI o:=aR (aL (aL (aL (aL (aL (aL (aR h)))))));haveI p:=aR (aL (aL (aL (aL (aL (aR h))))));haveI u:=aR (aL (aL (aL (aL (aR h)))));haveI r:=aR (aL (aL (aL (aR h))));haveI j:=aR (aL (aL (aR h)));haveI g:=aR (aL (aR h));refine am (λd R=>?_) (ME t);have l:∀c f,rI.contains (c,f)=true->ui K (c,f)=true/\xd K (c,f)=true:=λc f e=>by have:=LG.mp n (c,f) (List.contains_iff_mem.mp e);exact ⟨aL this,aR this⟩
 exact ⟨d,λk=>⟨⟨C,lo,λc f e=>EZ (l c f e).1,λc f e=>MQ (l c f e).2,Yn C.X q⟩,Gl m,HE p,R,U9 o,λb=>iK (LG.mp u b (PI b)),iK r,iK j,g⟩⟩
section
variable {K:Frag}
theorem J0 (TK:GM c w K d T) (F:kJ K fa fd body C p) (a:fM A (n+1)) (R:f8 c w d g s.heap) (fs:A.frames=some []) (t:0<s.toks) (V:br c w g s.heap X ws) (U:X.length=C.length) (M:∀A' j,NJ true A' n->sP d fd j->HT c w d l8 A' j (C++p) body W) (hw:W (cb (C++p) X) g.C (λ_ C'=>Fz g.C Q .none C') (Fz g.C Q) λ_=>False):codeAny (model c w) A (.call (.ref fa) ⟨ws,[]⟩) (λr z=>∃v,r= .ok (.ret v)/\u7 c w d g s Q v z) s:=by
 have N:=V.len.trans U;refine qQ (dL:=d) (TK.cx.keeps R.base) F (by have:=a.depth;rw [show recursionLimit=1000 from rfl];exact yu this) t R.sz N λj z I t' x=>?_;have hL:j.locals<z.heap.objs.size:=by refine aa (xy λo Y Y e Y Y=>?_) x.ns;exact r8 e
 have Z:=Co (wn x.fresh hL);have J:sK c w d g s g z:=⟨R.grow x.keep Z,.grow x.keep Z,by refine EN (λY Y e=>?_) x.same;rw [e],by refine EN (λY Y e=>?_) x.same;rw [e]⟩;have E:(A.deeper j).frames=some (j::[]):=Around.frames_deeper fs;have F':Cf d z.heap [j]:=λe O=>by rcases LB.mp O with rfl|O;refine aa (l6 λo es ep e hd Y=>ac λo' e' hc=>?_) x.ns;rw [e] at e';obtain rfl:=an e';exact ⟨I.kind,_,o,es,ep,I.fr,e,hc,hd,be R.sz x.fresh⟩;cases O
 have S:i4 c w d (A.deeper j) j (C++p) (cb (C++p) X) g z:=⟨J.rel,DI R V U F.nd x Z λy=>by show j.scope.names.lookup y≠_;rw [I.scope];exact F.xB y,⟨j,[],E,rfl,F'⟩⟩;have B:∀{S:Addr->Prop} {l L},ga (MW j) g z.heap l L->ga (λ_=>False) g s.heap l L:=λ{S l L} y=>((J.ext.mono λ_ h=>h.elim).trans y).young λb M=>by rcases M with rfl|t;exact x.fresh;revert t;refine ac λy hk hl=>?_;exact be x.fresh (Co (x.cell y b hk hl).2)
 have m:∀{l k},Ev c w d j g z l k->sK c w d g s l k:=λP=>⟨P.rel,B (S:=λ_=>False) P.ext,P.gens.trans J.gens,P.os.trans J.os⟩;have fin:∀{l k v u},Ev c w d j g z l k->VR c w l k.heap v u->Fz g.C Q v l.C->u7 c w d g s Q u k:=λ{l k v u} P V q=>by rcases q with q|⟨D,v',hD,e,q⟩;exact ⟨l,v,m P,V,q⟩;have H:=m P;exact ⟨l.cut D,v',⟨H.rel.cut hD,H.ext.cut hD.1,H.gens,H.os⟩,Ca TK.lo H.rel V e,q⟩
 refine xe (M (A.deeper j) j a.body I _ g z _ _ (λ_=>False) S (Bl (by rw [Ll];exact A4 U)) t' hw) (λf k y=>?_) λe k y=>?_;induction f using Flow.casesOn with|next=>obtain ⟨l,ab,P,_,_,_,q⟩:=y;exact ⟨_,rfl,fin P (by rfl) q⟩|ret v=>obtain ⟨l,mv,P,V',q⟩:=y;exact ⟨_,rfl,fin P V' q⟩|brk=>exact y.elim|cont=>exact y.elim
 obtain ⟨l,P,Fs,hx,q⟩:=y;exact q.elim
theorem VX:fM callerA 100:=⟨rfl,by decide,by decide⟩
theorem EC:WJ[64]? =some ⟨633,"law",0,"",["script"],["k","source","tree","row","origin","result","rows","turn"],nR,some (2,628,"law.<locals>.<lambda>")⟩:=rfl
end
theorem HX {K:Frag} (C:Cx K a) (lo:sysModules<a.objs.size) (y:allB K=true) (R:f8 ao w a g s.heap) (J:g.C=gh Zl) (t:0<s.toks) {sc:List Int} (V:br ao w g s.heap [.lst (sc.map .int)] A) (m:sc.length<=63):codeAny (model ao w) callerA (.call (.ref 633) ⟨A,[]⟩) (λr T=>∃v,r= .ok (.ret v)/\u7 ao w a g s (λj C=>j= .bool true/\C=gh Zl) v T) s:=by
 refine s3 λ_ z=>?_;refine am (λY G=>?_) (yP (ao:=ao) (w:=w) C lo y);have d:∀f r,WJ[f]? =some r->r.fa=mt.fa f/\jC mt K r=true:=λf r e=>by refine ⟨?_,q6 (aL y) f r e⟩;show r.fa=(WJ[f]?.map (·.fa)).getD 0;rw [e];rfl
 have CO:=DY (rows:=WJ) (Δ:=D) (λf O C Q X=>VH f) (λn=>G (D n)) d (λn f O C Q X h=>zQ h);obtain ⟨r,u,U,I⟩:Walk (D 99) 64 [.lst (sc.map .int)] (gh Zl) (λj C=>j= .bool true/\C=gh Zl) (λ_=>False):=zQ (n:=99) (f:=64) (by unfold D;rw [al (by decide)];exact ⟨lv _,sc,rfl,m,rfl,rfl,rfl⟩);refine aa (λe B=>?_) (d 64 r u);refine pi (λp body M H k=>?_) (qN B);have o:r.fa=633:=by rw [EC] at u;obtain rfl:=an u;rfl
 refine z ?_;rw [<- o];have x:io (mt.T (D 99)) r.body (cb (r.ps++r.rest) [.lst (sc.map .int)]) g.C (λ_ S=>Fz g.C (λj C=>j= .bool true/\C=gh Zl) .none S) (Fz g.C λj C=>j= .bool true/\C=gh Zl) (λ_=>False):=by rw [J];exact I
 refine J0 (l8:=75) (G (D 99)).TK M VX R rfl t V U (λW E L l=>?_) x;refine (sS (c:=⟨p.scope.names,r.ps++r.rest,r.aX⟩) (G (D 99)) (CO 99) r.body ⟨⟨true,L,λ_=>rfl⟩,l.toYO,by rw [l.scope],λi P q e=>?_⟩ l.toFS H).1;refine nw (λF e1 o N=>?_) (k i P q e);exact ⟨F,by rw [l.code];exact e1,codeHd_of_K (G (D 99)).TK.cx.X o,by rw [l.qual];exact N⟩
theorem V0 {v:Value} (h:Bv v=true):v= .none:=by induction v using Value.casesOn<;>first|rfl|cases h
theorem Ie (h:By d=true):d= .fields #[]:=by induction d using Data.casesOn<;>first|cases h|exact l9 _ (Array.eq_empty_of_size_eq_zero (ej h))
theorem Bg {h:Heap} (e:(fL h).lookup a=some o):h.get? a=some o/\a∉([602,621,628]:List Addr):=by refine ac (λi d g=>?_) (List.mem_filterMap.mp (mem_of_lookupK e));refine ac (λk j q=>?_) (YI.mp g);cases q;refine ⟨j,λc=>?_⟩;have h:=LG.mp (show K0.all (λi=> !Nat.beq i 602&&(!Nat.beq i 621&& !Nat.beq i 628))=true from rfl) a d;simp only [List.mem_cons,List.not_mem_nil,or_false] at c;rcases c with rfl|rfl|rfl<;>cases h
theorem uI {h:Heap} (e:mO h P=true):h.get? P=some (tabObj #[]):=by unfold mO at e;refine AM e λo e=>?_;obtain ⟨c,d,a,g⟩:=o;obtain rfl:c= .none:=V0 (aL e);obtain rfl:d=none:=Option.isNone_iff_eq_none.mp (aL (aR e));obtain rfl:a= .fields #[]:=Ie (aL (aR (aR e)));obtain rfl:g=#[]:=Array.eq_empty_of_size_eq_zero (ej (aR (aR (aR e))));rfl
noncomputable abbrev eL:List Addr:=[602,621,628]
noncomputable def m5:G:=⟨λl=>match l with| .code i=>((cX i).map (·.1)).getD 0|_=>0,λl=>match l with| .code i=>((cX i).map (·.1)).getD 0|_=>0,gh Zl,[]⟩
theorem pf (h:m5.aH l a):∃i,l= .code i/\((i=0/\a=602)\/(i=1/\a=621)\/(i=2/\a=628)):=by revert h;refine aa λe g=>?_;have d:=e;induction l using Loc.casesOn with|code i=>(refine ⟨i,rfl,?_⟩;(have c:a=((cX i).map (·.1)).getD 0:=by rcases g with h|h<;>exact h);match i,d,c with|0,_,c=>exact .inl ⟨rfl,c⟩|1,_,c=>exact .inr (.inl ⟨rfl,c⟩)|2,_,c=>exact .inr (.inr ⟨rfl,c⟩)|i+3,h,_=>cases h)|_=>cases d
section
variable {ao:Program} {w:World}
theorem wo (x:h.Ns a m) (g:a∉eL):(hideAll h eL).Ns a m:=let ⟨o,d,c,e,hd,r⟩:=x;⟨o,d,c,hideAll_get _ e g,hd,r⟩
theorem GL (p:h.get? 602=some (tabObj #[])) (k:h.get? 621=some (tabObj #[])) (g:h.get? 628=some (tabObj #[])):f8 ao w (hideAll h eL) m5 h where at_:=λl A e=>(by have d:=e;have tab:∀(P:Addr) (q:Str),h.get? P=some (tabObj #[])->l= .code 0\/l= .code 1\/l= .code 2->m5.ι l=P->EM ao w m5 h l (.tab P q):=λP q u v t=>⟨by rcases v with rfl|rfl|rfl<;>rfl,t,#[],u,trivial,λpos z x=>by cases x⟩;induction l using Loc.casesOn with|code i=>(match i,d with|0,e=>obtain rfl:=an e;exact tab _ _ p (.inl rfl) rfl|1,e=>obtain rfl:=an e;exact tab _ _ k (.inr (.inl rfl)) rfl|2,e=>obtain rfl:=an e;exact tab _ _ g (.inr (.inr rfl)) rfl|i+3,e=>cases e)|_=>cases d);inj:=λl y a c m=>(by refine ac (λi=>?_) (pf c);rintro rfl q;refine ac (λj=>?_) (pf m);rintro rfl r;rcases q with ⟨rfl,rfl⟩|⟨rfl,rfl⟩|⟨rfl,rfl⟩<;>rcases r with ⟨rfl,r⟩|⟨rfl,r⟩|⟨rfl,r⟩<;>first|rfl| (exact absurd r (by decide)));above:=λl a c=>(by refine ac (λi=>?_) (pf c);rintro rfl q;rcases q with ⟨rfl,rfl⟩|⟨rfl,rfl⟩|⟨rfl,rfl⟩<;>exact ⟨hideAll_none _ (by decide),.inr (by decide)⟩);base:=λb o e=>of_hideAll _ e;sz:=fp (hideAll_size _ _);aG:=λa n=>by cases n
set_option tactic.hygienic true in theorem Em:∀(sc:List Int) (s:Shared) (r:List Value×Shared),layAllW R k P ord (sc.map .int) s=some r->r.2.heap=s.heap/\s.toks<=r.2.toks/\∀g h,br ao w g h (sc.map .int) r.1| [],s,r,e=>by have d:=e;obtain rfl:=an d;exact ⟨rfl,lv _,λg h=>by exact br.nil⟩|i::sc,s,r,e=>by have d:(match layAllW R k P ord (sc.map .int) {s with toks:=s.toks+1} with|some q=>some (Value.int i s.toks::q.1,q.2)|none=>none)=some r:=e;cases j:layAllW R k P ord (sc.map .int) {s with toks:=s.toks+1} with|none=>rw [j] at d;exact nomatch d|some q=>rw [j] at d;obtain rfl:=an d;refine im (λa b c=>?_) (Em sc _ _ j);exact ⟨a,be (s4 _) b,λg h=> .cons ⟨_,rfl⟩ (c g h)⟩
theorem KS {sc:List Int} (e:layAllW R l P ord [.list (sc.map .int)] s=some (n,d)):∃m,n=[.ref s.heap.objs.size]/\d.heap=s.heap.push (Cn m 0)/\s.toks<=d.toks/\∀g h,br ao w g h (sc.map .int) m:=by have j:(match (match layAllW R l P ord (sc.map .int) s with|some r=>some (Value.ref r.2.heap.objs.size,{r.2 with heap:=r.2.heap.push {cls:= .type "list",data:= .seq r.1.toArray}})|none=>none) with|some a=>some ([a.1],a.2)|none=>none)=some (n,d):=e;cases k:layAllW R l P ord (sc.map .int) s with|none=>rw [k] at j;exact nomatch j|some r=>rw [k] at j;refine im (λa b c=>?_) (Em (ao:=ao) (w:=w) sc s r k);cases j;exact ⟨r.1,by rw [a],by show r.2.heap.push _=_;rw [a],b,c⟩
theorem Vt {c:ClaimW} {sc:List Int} (E:pk g=true) (j:∀b o,g.heap.get? b=some o->d.heap.get? b=some o) (T:Top p ai ak mg mb d.heap) (L:d.gens=#[]) (W:layAllW R cl P ord [.list (sc.map .int)] g=some (vs,d)) (ab:sc.length<=63) (ha:mg "law" =some (.ref a)) (M:c.post k (.bool true) k=true) (nr:∀cls,c.raises k cls=false):wpAny (model ao w) callerA (PySem.call (.ref a) vs) (λv u=>GoodWG c cl I k d (.ok (.ret v)) u) (λe u=>GoodWG c cl I k d (.error e) u) d:=by
 haveI y1:=aL (aL (aL (aL (aR E))));haveI yr:=aR (aL (aL (aL (aR E))));have y2:allB (fL g.heap)=true:=by show (j4 (fL g.heap) 0 WJ&&_)=true;rw [show j4 (fL g.heap) 0 WJ=true from aL E,yr];rfl
 haveI y3:=aR (aL (aL (aR E)));haveI y4:=aR (aL (aR E));haveI y5:=aR (aR E);have F:0<g.toks:=by simpa using y1
 have u0:=uI y3;have u1:=uI y4;have u2:=uI y5;have U:=j _ _ u0;have t1:=j _ _ u1;have t2:=j _ _ u2;have S:(fL g.heap).In (hideAll d.heap eL):=λb o e=>by refine aa (λq1 q2=>?_) (Bg e);exact hideAll_get _ (j _ _ q1) q2
 have B:(fL g.heap).In d.heap:=λb o e=>j _ _ (Bg e).1;have z:=mg_of B T.g (gx (aR yr));rw [ha] at z;cases z;have C:Cx (fL g.heap) (hideAll d.heap eL):=⟨S,⟨mg,wo T.g (by decide)⟩,⟨mb,wo T.b (by decide),T.builtins⟩,let ⟨mc,x,y⟩:=T.nolimit;⟨mc,wo x (by decide),y⟩⟩;have lo:sysModules<(hideAll d.heap eL).objs.size:=by rw [hideAll_size];exact Nat.lt_trans (by decide) (r8 U)
 refine At (λws=>?_) (KS (ao:=ao) (w:=w) W);rintro rfl hh X hV;have ap:628<g.heap.objs.size:=r8 u2;have V:br ao w m5 d.heap [.lst (sc.map .int)] [.ref g.heap.objs.size]:=by refine ⟨_,_,rfl,?_,rfl⟩;refine ⟨_,0,ws,rfl,by rw [hh];exact LF _ rfl,?_,hV _ _⟩;rintro (⟨l,q⟩|q);refine ac (λi Y q=>?_) (pf q);(have:g.heap.objs.size<=628:=by rcases q with t|t|t;revert t;refine aa λY q=>?_;exact be (fp q) (by decide);revert t;refine aa λY q=>?_;exact be (fp q) (by decide);revert t;refine aa λY q=>?_;exact fp q);exact absurd ap (Da.mpr this);cases q
 have run:=HX (ao:=ao) (w:=w) C lo y2 (GL (ao:=ao) (w:=w) U t1 t2) rfl (Op F X) V ab;refine wpAny_call (codeAny_mono run λr u ⟨v,e,g',mv,O,hv,Z,hC⟩=>?_);subst Z;subst e;have ev:v= .bool true:=by exact hv
 subst ev;have tb:∀(i:Nat) (A:Addr) (q:Str),cX i=some (A,q)->∃H,u.heap.get? A=some (tabObj H):=λi A q h=>by (have e1:g'.C (.code i)=some (.tab A q):=by rw [hC];show (cX i).map (λp=>OV.tab p.1 p.2)=_;rw [h];rfl);refine im (λY Y=>ac λH N Y=>?_) (O.rel.at_ _ _ e1);exact ⟨H,N⟩
 refine am (λfr G=>?_) (yP (ao:=ao) (w:=w) C lo y2);have code:∀(f:Nat) (r:gv) (i:Nat) (A:Addr) (q:Str),WJ[f]? =some r->r.aX=some (i,A,q)->isCodeTable d.heap A:=λf r i A q hr hl=>by refine pi (λar body FO hm J=>?_) (qN (q6 (aL E) f r hr));refine nw (λcc Y Q Y=>?_) (J i A q hl);refine rb (λo vs Y Y Y=>xw λY Y Y Y e1=>pt λe2 e3 e4 Y=>?_) (codeHd_of_K B Q);exact ⟨cc,o,vs,e1,e2,e3,e4⟩
 have m:∀b o,b∈eL->d.heap.get? b=some o->asItWas d.heap u.heap b o/\∃o',u.heap.get? b=some o':=λb o n e=>by (have fin:∀(i f:Nat) (r:gv) (q:Str),cX i=some (b,q)->WJ[f]? =some r->r.aX=some (i,b,q)->d.heap.get? b=some (tabObj #[])->asItWas d.heap u.heap b o/\∃o',u.heap.get? b=some o':=λi f r q h1 Q h3 h4=>by rw [e] at h4;obtain rfl:=an h4;refine am (λH N=>?_) (tb i b q h1);exact ⟨.inr (.inl ⟨code f r i b q Q h3,rfl,#[],H,rfl,by rw [Array.empty_append];exact N⟩),_,N⟩);simp only [List.mem_cons,List.not_mem_nil,or_false] at n;rcases n with rfl|rfl|rfl;exact fin 0 60 _ _ rfl rfl rfl U;exact fin 1 63 _ _ rfl rfl rfl t1;exact fin 2 64 _ _ rfl rfl rfl t2
 have same:∀b o,b∉eL->d.heap.get? b=some o->u.heap.get? b=some o:=λb o n e=>O.rel.base b o (hideAll_get _ e n);refine ⟨.inl ⟨_,.bool true,[],rfl,nr,.bool true,M,λ_=>⟨e9,λa h=>by cases h⟩⟩,⟨λb o e=>?_,λb o e=>?_⟩,O.os,.of_eq (O.gens.trans L)⟩;by_cases n:b∈eL;exact (m b o n e).1;exact .inl (same b o n e);by_cases n:b∈eL;exact (m b o n e).2;exact ⟨o,same b o n e⟩
end
section
set_option maxHeartbeats 0
theorem EK:LeftO dQ.prog fC [] (λ_=>true) pk (λ_=>true) 8112:=LeftO.T8 PySem.W.Fast.te14364793385576792824 JN rfl Lc Jh RE
theorem DE:∀{a:List WData},WShape.hasItems [] a .int=true->∃sc:List Int,a=sc.map .int| [],_=>⟨[],rfl⟩|x::a,h=>by rw [WShape.hasItems,Bool.and_eq_true] at h;refine am (λsc=>?_) (DE h.2);rintro rfl;induction x using WData.casesOn with|int i=>exact ⟨i::sc,rfl⟩|_=>exact absurd (show false=true from h.1) bJ
theorem Je {a:List WData} (h:dQ.toRowW.claim.pre a=true):∃sc:List Int,a=[.list (sc.map .int)]/\sc.length<=63:=by refine aa (λl m=>?_) (pre_splitW h);refine pi (λd r=>?_) (hasAllW_cons (e:= .list .int) (es:=[]) l);rintro rfl j n;cases r with|cons x c=>cases n|nil=>induction d using WData.casesOn with|list c=>(have g:WShape.hasItems [] c .int=true:=by exact (Bool.or_false _).symm.trans (show (WShape.hasItems [] c .int||false)=true from j));refine am (λsc=>?_) (DE g);rintro rfl;refine ⟨sc,rfl,?_⟩;refine kQ λq=>?_;have k:WTm.holds [] (.and (.not (.lit (.bool (decide ((63:Int)<((sc.map WData.int).length:Int)))))) (.lit (.bool true))) {args:=[]}=true:=m;rw [FB,decide_eq_true (show (63:Int)<(sc.length:Int) from ef.mpr q)] at k;exact bJ k|_=>exact absurd (show false=true from j) bJ
theorem Gj (a after:List WData):dQ.toRowW.claim.post a (.bool true) after=true:=by
 have c:WShape.has [] (.bool true) .bool=true:=by decide+kernel
 have d:WTm.holds [] (.eq .res (.lit (.bool true))) {args:=a,res:=some (.bool true),after:=after}=true:=by kernel_rfl
 show (WShape.has [] (.bool true) .bool&&WTm.holds [] (.eq .res (.lit (.bool true))) {args:=a,res:=some (.bool true),after:=after})=true;rw [c,d];rfl
theorem PV:dQ.toRowW.promised:=⟨[.list []],by decide+kernel,by decide+kernel⟩
theorem G5:(chainsOk fC&&opensWell dQ.prog&&(frees dQ.toRowW&&dQ.within.isEmpty))=true:=by decide+kernel
theorem VK:dQ.prog.bare:=⟨rfl,rfl,rfl,rfl,rfl,by decide+kernel⟩
theorem Rc:PySem.Challenge.rw_nu0074_01.wellSaid=true:=by kernel_rfl
theorem Jb (d:dQ.wellSaid=true):dQ.Holds:=by refine holds_openX (q:=fC) (loose:=[]) (Xt:=λ_=>true) (XP:=λ_ _=>True) (Yf:=pk) (Ya:=λ_=>true) (N:=8112) EK (λ_ _=>trivial) (λ_ _ _ _ _=>trivial) (by rfl) (by rfl) (by rfl) (λs _=>recFacts_nil rfl) (by rfl) d G5 VK PV ?_;intro w n t B I G u a o M E x J kV F z A H y e m r C L c p v k l;refine ac (λsc=>?_) (Je c);rintro rfl j;refine ac (λord Y g=>?_) L.laid;exact Vt (ao:=dQ.prog) u L.keeps G.T e g j y (Gj _ _) (λ_=>rfl)
end
end Mine.Internal
theorem PySem.Challenge.cw_nu0074_01_holds : PySem.Challenge.rw_nu0074_01.Holds := by
 exact PySem.W.holds_law Mine.Internal.Rc Mine.Internal.Jb
