import PyProof.Rows.All
import PyProof.TableCode
import PyProof.Raises
import PyProof.Calls
import PyProof.AssignAttr
import PyProof.Methods
import PyProof.Rules3
import PyProof.SliceList
import PyProof.ForAny
import PyProof.CallRoads
import PyProof.Cells
import PyProof.CompFree
import PyProof.PureInt
import PyProof.DictIter
import PyProof.DictTable
import PyProof.DictWalks
import PyProof.StrBlock
import PyProof.RangeIter
import PyProof.WalksMore
import PyProof.ForRange
import PyProof.IsiPairs
import PyProof.Rows.TupIter
import PyProof.Rows.TupAssign
import PyProof.Rows.TupSub
import PyProof.Rows.ListAppend
import PyProof.Rows.Exc
import PyProof.Rows.RuleB_mod
import PyProof.Rows.StrKeys3
import PyProof.Rows.StrTemp
import PyProof.Rows.TupMore
import PyProof.Rows.SeqSliceW
import PyProof.RulesFinally
import PyProof.RulesAssignMore
import PyProof.Rows.TupDisplay
import PyProof.Rows.TupAdd
import PyProof.TupleOfSeq
import PyProof.Rows.SortShell
import PyProof.Rows.SortWalk
import PyProof.Rows.Range3
import PyProof.Rows.SortStr
import OpenK.KMake
import Open.FastLooks
import OpenK.KWalk
import Open.Pieces
import KE.KDictSum
import KE.KEqDict
import OpenK.KApp
import Wide.FinOn
import OpenK.AllK
import Lean
import PySem.Challenge.RW_xw0130_01
set_option Elab.async false
set_option linter.all false
set_option maxRecDepth 100000
set_option maxHeartbeats 0
set_option compiler.extract_closed false
set_option bootstrap.genMatcherCode false
set_option tactic.hygienic false
set_option genSizeOf false
set_option genInjectivity false
set_option genCtorIdx false
namespace Mine.Internal.Mine
section
open PySem PySem.W PyProof.Rows PySem.SeqAt
open Sem (wp)
noncomputable abbrev dG:=@List.all_eq_true
noncomputable abbrev bK:=@PySem.wpAny_bind
noncomputable abbrev dX:=@Bool.and_eq_true
noncomputable abbrev kX:=@List.getElem?_eq_some_iff
noncomputable abbrev ez:=@decide_eq_true
noncomputable abbrev fH:=@decide_eq_false
noncomputable abbrev ig:=@Option.some.inj
noncomputable abbrev cW:=@PySem.wpAny_pure
noncomputable abbrev jx:=@of_decide_eq_true
noncomputable abbrev mH:=@Nat.le_of_ble_eq_true
noncomputable abbrev aI:=@if_pos
noncomputable abbrev aG:=@if_neg
noncomputable abbrev cH:=@List.mem_cons
noncomputable abbrev eZ:=@List.mem_singleton
noncomputable abbrev bX:=@Nat.le_refl
noncomputable abbrev fV:=@List.length_append
noncomputable abbrev fU:=@List.length_map
noncomputable abbrev mZ:=@List.getElem?_append_left
noncomputable abbrev gj:=@List.mem_append
noncomputable abbrev iu:=@decide_eq_decide
noncomputable abbrev k8:=@PySem.Heap.get?_push_of_some
noncomputable abbrev d9:=@Nat.le_trans
noncomputable abbrev fT:=@List.map_cons
noncomputable abbrev eY:=@List.mem_map
noncomputable abbrev pJ:=@List.getElem?_eq_getElem
noncomputable abbrev dN:=@PySem.wpAny_mono
noncomputable abbrev je:=@Bool.or_eq_true
noncomputable abbrev jt:=@List.mem_range
noncomputable abbrev lW:=@decide_eq_true_eq
noncomputable abbrev mY:=@List.size_toArray
noncomputable abbrev j3:=@PySem.Heap.size_push
noncomputable abbrev vg:=@List.getElem?_append_right
noncomputable abbrev lU:=@List.append_nil
noncomputable abbrev j0:=@PySem.wpAny_holding
noncomputable abbrev jr:=@PySem.Heap.lt_size
noncomputable abbrev ve:=@Option.map_eq_some_iff
noncomputable abbrev sH:=@PySem.Heap.get?_push_size
noncomputable abbrev qn:=@List.not_mem_nil
noncomputable abbrev ql:=@List.length_cons
noncomputable abbrev sG:=@List.pairwise_cons
noncomputable abbrev vd:=@Nat.eq_of_beq_eq_true
noncomputable abbrev qS:=@List.lookup_cons
noncomputable abbrev vc:=@List.mem_of_getElem?
noncomputable abbrev jE:=@beq_iff_eq
noncomputable abbrev zW:=@Option.isSome_iff_exists
noncomputable abbrev uu:=@Nat.lt_of_lt_of_le
noncomputable abbrev yf:=@List.length_singleton
noncomputable abbrev lT:=@Nat.le_succ
noncomputable abbrev ye:=@List.mem_cons_of_mem
noncomputable abbrev nk:=@Nat.le_of_eq
noncomputable abbrev u9:=@List.getElem?_map
noncomputable abbrev qk:=@PySem.mem_of_lookup
noncomputable abbrev qR:=@Nat.ne_of_lt
noncomputable abbrev u8:=@List.nodup_cons
noncomputable abbrev sF:=@PySem.wpAny_standAt
noncomputable abbrev yd:=@List.mem_flatMap
noncomputable abbrev By:=@List.forall_mem_cons
noncomputable abbrev yc:=@PySem.wpAny_call_entry
noncomputable abbrev zV:=@Bool.not_eq_true'
noncomputable abbrev yb:=@List.mem_filter
noncomputable abbrev ya:=@List.cons.injEq
noncomputable abbrev GY:=@List.getElem?_eq_none_iff
noncomputable abbrev qj:=@Nat.not_lt
noncomputable abbrev Bx:=@Nat.lt_of_le_of_lt
noncomputable abbrev Bw:=@Bool.false_eq_true
noncomputable abbrev zU:=@List.forIn_cons
noncomputable abbrev zT:=@List.foldl_cons
noncomputable abbrev Bv:=@List.getElem_mem
end
section
open PySem
section
section
variable{x y z u a b c e k m n p:Nat}
theorem dU(h:x<=y)(g:y<=z):x<=z:=d9 h g
theorem iG(h:x<=y)(g:y<z):x<z:=Bx h g
theorem acN(h:x<y):x<=y:=Nat.le_of_lt h
theorem OT(h:x<=y):x<y+1:=Nat.lt_succ_of_le h
theorem pH(q:Nat.ble a b=true):a<=b:=mH q
theorem gP(q:Nat.ble (a+1) b=true):a<b:=pH q
theorem mX:0<=x:=Nat.zero_le x
theorem lR:x<=x:=bX x
theorem iY:x<=x+k:=Nat.le_add_right x k
theorem VH:x<=x+a+b:=d9 iY iY
theorem aZ(h:x<=y):x<=y+k:=d9 h iY
theorem jD(h:x<=y):x+k<=y+k:=Nat.add_le_add_right h k
theorem ur(h:x+m<n):x<n:=iG iY h
theorem jd(h:x<m)(q:Nat.ble m n=true):x<n:=uu h (pH q)
theorem GR(h:x<m)(q:Nat.ble m (n+1)=true):x<=n:=Nat.le_of_lt_succ (jd h q)
theorem qO(h:x<=m)(q:Nat.ble m n=true):x<=n:=dU h (pH q)
theorem qh(h:x<=m)(q:Nat.ble (m+1) n=true):x<n:=iG h (pH q)
theorem lS(q:Nat.ble k m=true):x+k<=x+m:=Nat.add_le_add_left (pH q) x
theorem uY(h:x+m<n)(q:Nat.ble k m=true):x+k<n:=iG (lS q) h
theorem xY(h:x+m<n)(q:Nat.ble (n+k) (p+m)=true):x+k<p:=
 Nat.lt_of_add_lt_add_right (uu (Nat.add_right_comm x k m▸Nat.add_lt_add_right h k) (pH q))
theorem xX(h:x+m<n)(q:Nat.ble n (p+m)=true):x<p:=xY (k:=0) h q
theorem OL(h:x<=m)(q:Nat.ble (m+k) n=true):x+k<=n:=dU (jD h) (pH q)
theorem Br(h:x<=y):z+x<=z+y:=Nat.add_le_add_left h z
theorem Jt(h:x<=y)(g:a<=b):x+a<=y+b:=Nat.add_le_add h g
theorem zQ(h:x<=y+c)(g:y+(c+k)<p):x+k<p:=iG (jD h) (Nat.add_assoc y c k▸g)
theorem Jx(h:x<=y)(g:y+m<n):x<n:=iG h (ur g)
theorem xZ(h:x<=y)(g:y+m<n)(q:Nat.ble k m=true):x+k<n:=iG (jD h) (uY g q)
theorem qP(h:x<=y+c)(g:y+m<n)(q:Nat.ble (c+k) m=true):x+k<n:=zQ h (uY g q)
theorem GV(h:x<=z+c)(f:z<=y)(g:y+m<n)(q:Nat.ble (c+k) m=true):x+k<n:=qP (dU h (jD f)) g q
theorem Bs(h:x<=z+c)(f:z<=y+e)(g:y+m<n)(q:Nat.ble (e+(c+k)) m=true):x+k<n:=zQ h (zQ f (uY g q))
theorem OM(h:x<=y+a)(i:y<=z+b)(f:z<=u+c)(g:u+m<n)(q:Nat.ble (c+(b+(a+k))) m=true):x+k<n:=zQ h (zQ i (zQ f (uY g q)))
theorem acz(h:x<=y+a)(i:y<=z+b)(f:z<=u)(g:u+m<n)(q:Nat.ble (b+(a+k)) m=true):x+k<n:=zQ h (zQ i (iG (jD f) (uY g q)))
theorem acL(h:x<=y+c)(q:Nat.ble c m=true):x<=y+m:=dU h (lS q)
theorem VL(h:x<=z+c)(f:z<=y+e)(q:Nat.ble (e+c) m=true):x<=y+m:=dU h (dU (jD f) (Nat.add_assoc y e c▸lS q))
theorem ahv(h:x<=y+c)(g:y+m<n)(q:Nat.ble (n+(c+k)) (p+m)=true):x+k<p:=zQ h (xY g q)
theorem VK(h:x<=y)(g:y+m<n)(q:Nat.ble (n+k) (p+m)=true):x+k<p:=iG (jD h) (xY g q)
theorem OS(h:x<=y+c)(g:y<n)(q:Nat.ble (n+c) p=true):x<p:=iG h (jd (Nat.add_lt_add_right g c) q)
theorem uZ(h:x<=y+c)(g:y<=z):x<=z+c:=dU h (jD g)
theorem Jv(h:Nat.max a b<=x):a<=x:=dU (Nat.le_max_left a b) h
theorem OQ(h:Nat.max a b<=x):b<=x:=dU (Nat.le_max_right a b) h
theorem Ju(h:a<=x)(g:b<=x):Nat.max a b<=x:=Nat.max_le.mpr ⟨h,g⟩
theorem DB(h:k<=x)(q:Nat.ble m k=true):x=x - m+m:=(Nat.sub_add_cancel (dU (pH q) h)).symm
theorem acH(h:a<=x)(g:k<=a)(q:Nat.ble m k=true):x=x - m+m:=DB (dU g h) q
theorem Jw(h:Nat.max a b<=x)(g:k<=a)(q:Nat.ble m k=true):x=x - m+m:=acH (Jv h) g q
theorem ahu(h:Nat.max a b+c<=x)(g:k<=a)(q:Nat.ble m k=true):x=x - m+m:=Jw (dU iY h) g q
theorem acK(h:x+c<=y+c):x<=y:=Nat.le_of_add_le_add_right h
theorem VJ(h:x+c<=y+e)(q:Nat.ble e (k+c)=true):x<=y+k:=acK (c:=c) (Nat.add_assoc y k c▸dU h (lS q))
theorem aht(h:Nat.max a b+c<=y+e)(q:Nat.ble e (k+c)=true):a<=y+k:=Jv (VJ h q)
theorem ahs(h:Nat.max a b+c<=y+e)(q:Nat.ble e (k+c)=true):b<=y+k:=OQ (VJ h q)
theorem ahr(h:x<=a):x<=Nat.max a b+c:=aZ (dU h (Nat.le_max_left a b))
theorem acJ(h:k<=x)(q:Nat.ble m k=true):m<=x:=dU (pH q) h
theorem ahp(h:x<y):x≠y:=qR h
theorem acG(h:¬x<y):y<=x:=qj.mp h
theorem acF(h:x≠0):0<x:=Nat.pos_of_ne_zero h
theorem OR(h:x=y):x<=y:=nk h
theorem Jy:x+(a+b+m)=x+a+b+m:=(Nat.add_assoc x (a+b) m).symm.trans (congrArg (·+m) (Nat.add_assoc x a b).symm)
theorem acM(h:x+(a+b+m)+n<p):x+a+b+(m+n)<p:=iG (nk ((Nat.add_assoc (x+a+b) m n).symm.trans (congrArg (·+n) Jy.symm))) h
theorem VN:x+a+k+b+e=x+a+b+(k+e):=(congrArg (·+e) (Nat.add_right_comm (x+a) k b)).trans (Nat.add_assoc (x+a+b) k e)
theorem VM(h:x+b+m<n):x+m<n:=iG (jD iY) h
theorem OP(q:Nat.ble k m=true):x+a+b+k<=x+(a+b+m):=dU (lS q) (nk Jy.symm)
theorem ahm:x+a+b<=x+(a+b+m):=dU iY (nk Jy.symm)
theorem acE(q:Nat.ble (k+e) m=true):x+a+k+b+e<=x+(a+b+m):=dU (nk VN) (OP q)
theorem Js(q:Nat.ble k m=true):x+(a+k)<=x+(a+m):=Br (lS q)
theorem acD(q:Nat.ble (k+e) m=true):x+(a+k)+e<=x+(a+m):=dU (nk ((Nat.add_assoc x (a+k) e).trans (congrArg (x+·) (Nat.add_assoc a k e)))) (Js q)
theorem OO(h:x+(a+b+m)+n<p)(q:Nat.ble (p+k) (c+(m+n))=true):x+a+b+k<c:=xY (acM h) q
theorem acC(h:x+(a+b+m)+n<p)(q:Nat.ble (p+k) (c+(m+n))=true):x+(a+b+k)<c:=iG (nk Jy) (OO h q)
theorem ahl(h:x+(a+b+m)+n<p)(q:Nat.ble (p+k) (c+(m+n))=true):x+a+k<c:=xY (VM (acM h)) q
theorem ahk(h:x+(a+b+m)+n<p)(q:Nat.ble (p+(k+e)) (c+(m+n))=true):x+a+k+b+e<c:=iG (nk VN) (OO h q)
theorem ahj(h:x+(a+b+1)<n):x+1+a+b<n:=iG (nk ((congrArg (·+b) (Nat.add_right_comm x 1 a)).trans ((Nat.add_right_comm (x+a) 1 b).trans Jy.symm))) h
theorem fR(h:x+a+b<n):x+b<n:=VM h
theorem acB(h:x+a+b+m<n)(q:Nat.ble (n+(k+e)) (p+m)=true):x+a+k+b+e<p:=iG (nk VN) (xY h q)
theorem ON(h:x+a+m<n)(q:Nat.ble (n+k) (p+m)=true):x+k<p:=xY (VM h) q
theorem acA(h:x<=y+(a+b+c))(g:y+(a+b+m)+n<p)(q:Nat.ble (p+c) (e+(m+n))=true):x<e:=iG h (acC g q)
theorem Jr(h:x+a+m<n)(q:Nat.ble (n+k) (p+m)=true):x+a+k<p:=xY h q
theorem Bq(h:x<34):x / 2<17:=Nat.div_lt_of_lt_mul h
theorem acw(h:x=3/\a=7\/x=5/\a=6):x=3\/x=5:=h.imp And.left And.left
theorem acy(h:x=3/\a=7\/x=5/\a=6):x<17:=(acw h).elim (fun h=>h▸gP rfl) fun h=>h▸gP rfl
theorem ahi(h:¬x<n)(g:x<n+1):x=n:=Nat.le_antisymm (Nat.le_of_lt_succ g) (acG h)
theorem GU(h:0<x):(0:Int)<x:=Int.natCast_pos.mpr h
theorem acI(h:x=0):¬(x:Int)>0:=h▸Int.lt_irrefl 0
theorem VI(h:¬x=0):(x:Int)>0:=GU (acF h)
theorem ahq(h:0<x):(x:Int)≠0:=Int.ne_of_gt (GU h)
theorem aho(h:x=0\/(a<x/\x<=y)):x<=y:=h.elim (fun h=>h▸mX) And.right
theorem ahn(h:x=0\/(a<x/\x<=y)):x=0\/x<=y:=h.imp id And.right
theorem GS(h:y=z+k)(g:x=0\/x<=z):x=0\/x<=y:=g.imp id fun g=>h▸aZ g
end
end
end
section
open PySem PySem.W
abbrev pw:Program:=PySem.Challenge.pw_xw0130_01
noncomputable def pb:List Stmt:=behindTheImports pw
noncomputable def ZT:Stmt:=.Pass ⟨0,0,0,0⟩
noncomputable def ZS:List Stmt->Nat->Stmt:=fun l=> @List.rec Stmt (fun Z=>Nat->Stmt) (fun Z=>ZT) (fun x Z ih n=> @Nat.rec (fun Z=>Stmt) x (fun m Z=>ih m) n) l
noncomputable def yo(i:Nat):Stmt:=ZS pb i
noncomputable def YH(i j:Nat):Stmt:=match yo i with
 | .ClassDef _ _ _ b _ _ _ _ _ _ _=>ZS b j
 |_=>ZT
noncomputable def fP:Stmt->Arguments
 | .FunctionDef _ a _ _ _ _ _ _ _ _=>a
 |_=>⟨[],[],none,[],[],none,[]⟩
noncomputable def fB:Stmt->List Stmt
 | .FunctionDef _ _ b _ _ _ _ _ _ _=>b
 |_=>[]
noncomputable def fS:Stmt->Scope
 | .FunctionDef _ _ _ _ _ _ s _ _ _=>s
 |_=>pw.main.scope
noncomputable def fd(st:Stmt)(n q:Str)(g:Addr)(cl:List (Str×Addr))(d k doc m:Value)(an:Option Addr)(cd ct:Value)(bt:Addr):Data:=
 .func ⟨n,q,fP st,.stmts (fB st),fS st,g,cl,d,k,doc,m,an,cd,ct,bt⟩
noncomputable def sp(l:List Obj):List Obj×List Obj:=@List.rec Obj (fun Z=>List Obj×List Obj) ([],[]) (fun x Z p=>(x::p.2,p.1)) l
noncomputable def bt(n:Nat):List Obj->BT:=@Nat.rec (fun Z=>List Obj->BT) (fun Z=>.nil) (fun Z ih l=> @List.rec Obj (fun Z=>BT) .nil (fun x r Z=>.node x (ih (sp r).1) (ih (sp r).2)) l) n
noncomputable def ai:Env:={scope:=pw.main.scope,locals:=mainNs,globals:=mainNs,cells:=[],code:=.ref 13,frame:=some 14}
abbrev fr:Frame:=topFrame ⟨0,0,0,0⟩
abbrev EL:Option Value:=some (.ref 6)
abbrev GW(i c N:Nat)(q q':Pos)(S S':World->OsState->SharedT)(w:World):Prop:=∀(p:Program) (b:List Stmt) (os:OsState),
 PySem.W.Fast.tw10110043849684766642 PySem.W.Fast.tw14364793385576792824 p w 11 EL 1 N (S w os) (piecesOf ((pb.drop i).take c) ai (.body b ai) q [fr])=some (.next,S' w os,.body b ai,q')
abbrev Go(i c N:Nat)(q q':Pos)(S S':World->OsState->SharedT):Prop:=∀w:World,GW i c N q q' S S' w
theorem X4(row:String){i c N:Nat}{q q':Pos}{S S':World->OsState->SharedT}(hf:∀w:World,GW i c N q q' S S' (w.withFollow row false))(ht:∀w:World,GW i c N q q' S S' (w.withFollow row true)):
  Go i c N q q' S S':=fun w=>byRow2 row (P:=GW i c N q q' S S') hf ht w
noncomputable section
variable(P:Params)
noncomputable def A0:=PySem.W.SL.s2766695959194262286x5
noncomputable def A1:=PySem.W.SL.s5856160107412720595x4
noncomputable def A2:=PySem.W.SL.s658472552662922059x5
noncomputable def A3:=PySem.W.SL.s7097527257260152453x26
noncomputable def A4:=PySem.W.SL.s14018661285674007319x4
noncomputable def A5:=PySem.W.SL.s7174869446012820540x8
noncomputable def A6:=PySem.W.SL.s5946037652744460706x9
noncomputable def A7:=PySem.W.SL.s11030030927630378310x26
noncomputable def A8:=PySem.W.SL.s10062305145149207511x16
noncomputable def A9:=PySem.W.SL.s17162191345867700912x4
noncomputable def ZF:=PySem.W.SL.s4278001404047624695x13
noncomputable def pW:=PySem.W.SL.s2742458400755230247x6
noncomputable def ZE:=PySem.W.SL.s5160863994218179198x17
noncomputable def A13:=PySem.W.SL.s14755015743595814543x17
noncomputable def A14:=PySem.W.SL.s10220274742760427390x26
noncomputable def A15:=PySem.W.SL.s4290257624100764138x5
noncomputable def A16:=PySem.W.SL.s4860613602091757760x24
noncomputable def Bh:=PySem.W.SL.s11443829558043349243x14
noncomputable def A18:=PySem.W.SL.s6511155373996960695x17
noncomputable def A19:=PySem.W.SL.s12411053484034534018x21
noncomputable def dec(n:Nat):List Nat:=@Nat.rec (fun Z=>Nat->List Nat->List Nat) (fun Z a=>a) (fun Z ih n a=>cond (Nat.beq n 0) a (ih (Nat.div n 128) (Nat.mod n 128::a))) 99 n []
noncomputable def z(n:Nat):Str:=⟨⟨dec n⟩⟩
noncomputable def k(n:Str)(t:Nat)(v:Value)(P:Params):DictEntry:=⟨PyData.keyHash P n,.str n t,v⟩
noncomputable def kr(n:Str)(t r:Nat)(P:Params):DictEntry:=⟨PyData.keyHash P n,.str n t,.ref r⟩
noncomputable def ob(t:Value)(d:Data):Obj:=⟨t,none,d,⟨[]⟩⟩
noncomputable def q(l:List Value):=ob (.type A0) (.seq ⟨l⟩ 0)
noncomputable def g(l:List Value):=ob .none (.fields ⟨l⟩)
noncomputable def dd(l:List DictEntry)(n:Nat):=ob (.type A4) (.dict ⟨l⟩ n)
noncomputable def ty(t:String)(l:List Value):=ob (.type t) (.fields ⟨l⟩)
noncomputable def sq(l:List Str):Nat->List Value:=@List.rec Str (fun Z=>Nat->List Value) (fun Z=>[]) (fun x Z ih t=>.str x t::ih (t+1)) l
noncomputable def qs(t:Nat)(l:List Str):=q (sq l t)
noncomputable def cl(l:List (Params->List Obj)):List Obj:=@List.rec (Params->List Obj) (fun Z=>List Obj) [] (fun x Z ih=>x P++ih) l
noncomputable def m(l:List (Params->DictEntry)):List DictEntry:=@List.rec (Params->DictEntry) (fun Z=>List DictEntry) [] (fun x Z ih=>x P::ih) l
noncomputable def bf(l:List (Params->List Obj)):=bt 14 (cl P l)
noncomputable def sh(T:Params->BT)(a b:Nat)(w:World)(os:OsState):SharedT:=⟨T w.params,a,{},⟨[]⟩,{},b,os⟩
noncomputable def n1:=z 0x2fc7b30e9dabf1f5e8bb879
noncomputable def cod(a b:Str)(r t k:Nat)(L X:Int)(u:List Value):=ob (.type A1) (.fields ⟨[.str a t,.str b (t+1),.str n1 (t+2),.int L 0,.int X 0,.int 0 0,.int 0 0,.int 3 0,.ref r,.bool true,.int 181 0,.ref (r+1),.none]++u++[.int k 0,.int L 0,.str n1 (k+1)]⟩)
noncomputable def Fg(s:Stmt)(a b:Str)(r t:Nat)(L X:Int)(l:List Str)(m d:Value)(o:List Obj):List Obj:=q []::g []::qs (t+3) l::q []::ob .none (fd s a b 0 [] .none .none .none .none none .none .none 0)::cod a b r t (t+3+l.length) L X [.ref (r+2),.ref (r+3),.ref (r+4)]::ob (.type A5) (fd s a b 3 [] d .none .none m none (.ref (r+5)) .none 0)::o
noncomputable def G(s:Stmt)(a b:Str)(r t:Nat)(L X:Int)(m d:Value)(o:List Obj):List Obj:=q []::g []::ob .none (fd s a b 0 [] .none .none .none .none none .none .none 0)::cod a b r t (t+3) L X [.none,.none,.ref (r+2)]::ob (.type A5) (fd s a b 3 [] d .none .none m none (.ref (r+3)) .none 0)::o
noncomputable def F(i j:Nat)(a b:Str)(r t:Nat)(L X:Int)(l:List Str)(m:Value)(o:List Obj):List Obj:=Fg (YH i j) a b r t L X l m .none o
noncomputable def E(i:Nat)(a:Str)(r t:Nat)(L X:Int)(l:List Str)(m:Value)(o:List Obj):List Obj:=Fg (yo i) a a r t L X l m .none o
noncomputable def cc(a:Str)(t:Nat)(L:Int)(r:Nat):=ob (.type A1) (.fields ⟨[.str a t,.str a (t+1),.str n1 (t+2),.int L 0,.int 0 0,.int 0 0,.int 0 0,.int 0 0,.ref r,.bool false,.int 181 0,.ref (r+1),.none,.none,.none,.none,.int (t+3) 0,.int L 0,.str n1 (t+4)]⟩)
noncomputable def u0(c:List Obj)(l:List DictEntry)(n:Nat)(v:List Value):List Obj:=(c.set 3 (dd l n)).set 12 (g v)
noncomputable def pn(a b:Nat)(m:Value):Obj:=⟨.type A2,none,.plain,⟨[some (.ref a),some (.ref 3),some (.ref b),none,some m,none,some (.ref 0)]⟩⟩
noncomputable def ks(n:Str)(b m:List Value)(d:Nat)(s:List Value)(x:Option Value)(t u:Nat)(v:String):Obj:=⟨.type A9,none,.cls ⟨n,b,m,d,n,true,[],s,false,none,false⟩,⟨[x,none,some (.str n t),some (.str n u),some (.builtin v),some (.bool true)]⟩⟩
noncomputable def ko(n:Str)(r d:Nat)(s:List Value)(t u:Nat):=ks n [.type pW] [.ref r,.type pW] d s none t u Bh
noncomputable def rr(a:Nat):=ty A15 [.ref a,.ref a,.ref a]
noncomputable def rb(a:Nat):=ty A7 [.builtin A16,.ref a]
noncomputable def rt:=ty A7 [.builtin A8,.type A9]
noncomputable def wn(n:Str)(t r:Nat):=ty A13 [.str n t,.ref r,.builtin A14,.none]
noncomputable def wd(n:Str)(t r:Nat):=ty A13 [.str n t,.ref r,.builtin A18,.builtin A19]
noncomputable def tr(l:List (Int×Int×Nat)):List Value:=@List.rec (Int×Int×Nat) (fun Z=>List Value) [] (fun x Z ih=>.int x.1 0::.int x.2.1 0::.ref x.2.2::ih) l
noncomputable def c0:List Obj:=[PySem.W.boot_o_0 P,PySem.W.boot_o_1 P,PySem.W.boot_o_2 P,PySem.W.boot_o_3 P,PySem.W.boot_o_4 P,PySem.W.boot_o_5 P,PySem.W.boot_o_6 P,PySem.W.boot_o_7 P,PySem.W.boot_o_8 P,PySem.W.boot_o_9 P,PySem.W.boot_o_10 P,q [],g ([]),ty A1 ([.str (z 0x79b77e4ebb32be) 182,.str (z 0x79b77e4ebb32be) 183,.str n1 184,.int 1 0,.int 0 0,.int 0 0,.int 0 0,.int 0 0,.ref 11,.bool false,.int 181 0,.ref 12,.none,.none,.none,.none,.int 185 0,.int 1 0,.str n1 186]),pn 13 3 (.str (z 0xbf7f6e1d3bafdf) 164)]
noncomputable def T0:BT:=bt 14 (c0 P)
noncomputable def S0:=sh T0 15 187
noncomputable def n5:=z 0xbf7f761db96fdf
noncomputable def n6:=z 0x35e9dd935e5cbc1764d3873f3
noncomputable def M7:Value:=.str n6 194
noncomputable def n7:=z 0x17efe4df8efdf
noncomputable def Gk:=z 0x4bcb97845e5cb7f2
noncomputable def Z9:=m P [(k n5 165 (.str n6 194)),(k n7 166 .none),(k (z 0x17eff0c38f5e1cf96fdf) 167 .none),(k (z 0x2fdfd9bf0e4cbcafdf) 168 (.builtin A3)),(k (z 0xbf7f9f0cb8efdf) 169 .none),(kr (z 0x17efe1ddbb7f4c3d34efddcefdf) 170 6),(kr (z 0xbf7f175d3b3a69ddcefdf) 171 4),(k (z 0xbf7f369d996fdf) 173 (.str n1 172)),(k (z 0x2fdfc7871e8cb92fdf) 174 .none),(kr (z 0x5fef8766c) 193 21),(k (z 0x55bf06759) 197 (.int 1 196)),(k (z 0x2adf8b3aacd) 199 (.int 10 198)),(kr Gk 230 39)]
noncomputable def Sh(P:Params):List Value:=[.int 1 0,.int 0 0,.ref 20,.int 7 0,.int 0 0,.ref 27]
noncomputable def acg:List Obj:=(((c0 P).set 2 (⟨.none,none,.dict ⟨(m P [(k (z 0x1d3cf0cabafdfe7d7163d9879f3cbcefdf5d17c63cbc3a69dfb9730) 227 (.int 39 0)),(k (z 0x1d3cf0cabafdfe7d7163d9879f3cbcefdf5d17c63cbc3a69dfb976e) 228 (.int 1 0))])⟩ 2,⟨[]⟩⟩)).set 3 (dd (Z9 P) 13)).set 12 (g (Sh P))
noncomputable def iz:=z 0x2fdfdbbf275d996fdf
noncomputable def rT:=z 0xbf7f8f5c3b3761db96fdf
noncomputable def iy:=z 0x17efe6d3cb9f4d9a7765ddbefdf
noncomputable def kR:=z 0xbf7f4eed3d2fdf
noncomputable def iw:=z 0x5fbfcfa61e9a71dfc3d3a72d38baf4cbcefdf
noncomputable def n25:Str:=⟨⟨[]⟩⟩
noncomputable def cP:=z 0xe797666
noncomputable def Rf:=z 0xe997c74
noncomputable def zD:=z 0x3775db8b2f2
noncomputable def m5:=z 0x17eff7cb875f2cb9afdf
noncomputable def c1:List Obj:=E 0 (z 0x5fef8766c) 15 187 1 1 [(z 0x6b)] (.str (z 0xbf7f6e1d3bafdf) 164) (q [.type A6]::rt::dd (m P [(k iz 207 (.str n6 194)),(k rT 209 (.str Gk 208)),(k iy 211 (.int 7 210)),(kr kR 220 36),(kr iw 223 37)]) 5::q []::g (tr [(9,4,35)])::cc Gk 202 7 25::pn 27 24 M7::qs 212 [n25]::Fg (YH 4 0) kR (z 0x25e5cbc22f2e5bf92ebf7f4eed3d2fdf) 30 213 9 2 [cP,Rf] M7 (.ref 29) ([qs 221 [zD,Rf],dd (m P [(k iz 207 (.str n6 194)),(k iy 211 (.int 7 210)),(kr kR 220 36),(kr iw 223 37),(kr m5 225 40),(k n7 226 .none)]) 3,ks Gk [.type A6] [.ref 39,.type A6,.type ZF,.type pW] 38 [] (some (.ref 22)) 200 208 ZE,wn m5 224 39,rr 39,rb 39]))
noncomputable def T1:=bf P [acg,c1]
noncomputable def S1:=sh T1 43 231
theorem p0:Go 0 5 288 ⟨0,0,0,0⟩ ⟨7,0,11,24⟩ S0 S1:=fun w p b os=>by kernel_rfl
noncomputable def Zh:=z 0x1537ef89972f0
noncomputable def Z8:=Z9 P++m P [(kr Zh 259 60)]
noncomputable def Sg:=Sh P++tr [(12,0,48)]
noncomputable def acf:=u0 (acg P) (Z8 P) 14 (Sg P)
noncomputable def ab5:List Obj:=(c1 P).set 24 (⟨.type A9,none,.cls ⟨Gk,[.type A6],[.ref 39,.type A6,.type ZF,.type pW],38,Gk,true,[],[.ref 60],false,none,false⟩,⟨[some (.ref 22),none,some (.str Gk 200),some (.str Gk 208),some (.builtin ZE),some (.bool true)]⟩⟩)
noncomputable def c2:List Obj:=q [.ref 39]::rt::dd (m P [(k iz 238 (.str n6 194)),(k rT 240 (.str Zh 239)),(k iy 242 (.int 12 241)),(kr kR 253 57),(kr iw 256 58)]) 5::q []::g (tr [(14,4,56)])::cc Zh 233 12 46::pn 48 45 M7::q [.int 2589 243,.str n25 244]::Fg (YH 5 0) kR (z 0xa9bf7c4cb9782ebf7f4eed3d2fdf) 51 245 14 3 [cP,zD,Rf] M7 (.ref 50) ([qs 254 [zD,Rf],dd (m P [(k iz 238 (.str n6 194)),(k iy 242 (.int 12 241)),(kr kR 253 57),(kr iw 256 58),(k n7 257 .none)]) 2,ks Zh [.ref 39] [.ref 60,.ref 39,.type A6,.type ZF,.type pW] 59 [] (some (.ref 43)) 231 239 ZE,rr 60,rb 60])
noncomputable def T2:=bf P [acf,ab5,c2]
noncomputable def S2:=sh T2 63 260
theorem p1:Go 5 1 251 ⟨7,0,11,24⟩ ⟨12,0,16,24⟩ S1 S2:=fun w p b os=>by kernel_rfl
noncomputable def Zg:=z 0x48dfcfa46c3d7674
noncomputable def Z7:=Z8 P++m P [(kr Zg 286 80)]
noncomputable def Sf:=Sg P++tr [(17,0,68)]
noncomputable def ace:=u0 (acf P) (Z7 P) 15 (Sf P)
noncomputable def fQ:List Obj:=(ab5 P).set 24 (⟨.type A9,none,.cls ⟨Gk,[.type A6],[.ref 39,.type A6,.type ZF,.type pW],38,Gk,true,[],[.ref 60,.ref 80],false,none,false⟩,⟨[some (.ref 22),none,some (.str Gk 200),some (.str Gk 208),some (.builtin ZE),some (.bool true)]⟩⟩)
noncomputable def c3:List Obj:=q [.ref 39]::rt::dd (m P [(k iz 267 (.str n6 194)),(k rT 269 (.str Zg 268)),(k iy 271 (.int 17 270)),(kr kR 280 77),(kr iw 283 78)]) 5::q []::g (tr [(19,4,76)])::cc Zg 262 17 66::pn 68 65 M7::qs 272 [n25]::Fg (YH 6 0) kR (z 0x246fe7d2361ebb3a2ebf7f4eed3d2fdf) 71 273 19 2 [cP,Rf] M7 (.ref 70) ([qs 281 [zD,Rf],dd (m P [(k iz 267 (.str n6 194)),(k iy 271 (.int 17 270)),(kr kR 280 77),(kr iw 283 78),(k n7 284 .none)]) 2,ks Zg [.ref 39] [.ref 80,.ref 39,.type A6,.type ZF,.type pW] 79 [] (some (.ref 63)) 260 268 ZE,rr 80,rb 80])
noncomputable def T3:=bf P [ace,fQ,c2,c3]
noncomputable def S3:=sh T3 83 287
theorem p2:Go 6 1 249 ⟨12,0,16,24⟩ ⟨17,0,21,24⟩ S2 S3:=fun w p b os=>by kernel_rfl
noncomputable def Zf:=z 0x89a70e7
noncomputable def Z6:=Z7 P++m P [(kr Zf 328 106)]
noncomputable def Se:=Sf P++tr [(22,0,88)]
noncomputable def acd:=u0 (ace P) (Z6 P) 16 (Se P)
noncomputable def zC:=z 0x1cb7f7
noncomputable def Dm:=z 0x30f4
noncomputable def Ze:=z 0xc3cb3f3
noncomputable def YG:=z 0xcda7665
noncomputable def oj:=z 0xbf7f269c7d2fdf
noncomputable def c4:List Obj:=q []::rt::dd (m P [(k iz 294 (.str n6 194)),(k rT 296 (.str Zf 295)),(k iy 298 (.int 22 297)),(kr kR 309 96),(kr zC 316 103),(kr iw 321 104)]) 6::q []::g (tr [(24,4,95),(30,4,102)])::cc Zf 289 22 86::pn 88 85 M7::F 7 0 kR (z 0x44d3873aebf7f4eed3d2fdf) 90 299 24 5 [cP,zD,Dm,Ze,YG] M7 (F 7 1 zC (z 0x89a70e75dcb7f7) 97 310 30 1 [cP] M7 ([qs 317 [Ze,Dm,YG,zD],dd (m P [(k iz 294 (.str n6 194)),(k iy 298 (.int 22 297)),(kr kR 309 96),(kr zC 316 103),(kr iw 321 104),(kr oj 323 107),(kr m5 325 108),(k n7 326 .none)]) 4,ko Zf 106 105 [] 287 295,wd oj 322 106,wn m5 324 106,rr 106,rb 106]))
noncomputable def T4:=bf P [acd,fQ,c2,c3,c4]
noncomputable def S4:=sh T4 111 329
theorem p3:Go 7 1 260 ⟨17,0,21,24⟩ ⟨22,0,31,48⟩ S3 S4:=fun w p b os=>by kernel_rfl
noncomputable def Zd:=z 0x44d3873f3
noncomputable def Z5:=Z6 P++m P [(kr Zd 375 140)]
noncomputable def Sc:=Se P++tr [(32,0,116)]
noncomputable def ab':=u0 (acd P) (Z5 P) 17 (Sc P)
noncomputable def Nx:=z 0x1c3af4
noncomputable def c5:List Obj:=q []::rt::dd (m P [(k iz 336 (.str n6 194)),(k rT 338 (.str Zd 337)),(k iy 340 (.int 32 339)),(kr kR 349 125),(kr Nx 359 132),(kr (z 0x1bbaedc597973) 365 137),(kr iw 368 138)]) 7::q []::g (tr [(34,4,124),(38,4,131),(41,4,136)])::cc Zd 331 32 114::pn 116 113 M7::qs 341 [n25]::Fg (YH 8 0) kR (z 0x2269c39f9aebf7f4eed3d2fdf) 119 342 34 2 [cP,YG] M7 (.ref 118) (F 8 1 Nx (z 0x44d3873f35dc3af4) 126 350 38 4 [cP,zD,Dm,Ze] M7 (G (YH 8 2) (z 0x1bbaedc597973) (z 0x44d3873f35dbbaedc597973) 133 360 41 1 M7 .none ([qs 366 [YG,(z 0xe5bfbf3)],dd (m P [(k iz 336 (.str n6 194)),(k iy 340 (.int 32 339)),(kr kR 349 125),(kr Nx 359 132),(kr (z 0x1bbaedc597973) 365 137),(kr iw 368 138),(kr oj 370 141),(kr m5 372 142),(k n7 373 .none)]) 4,ko Zd 140 139 [] 329 337,wd oj 369 140,wn m5 371 140,rr 140,rb 140])))
noncomputable def T5:=bf P [ab',fQ,c2,c3,c4,c5]
noncomputable def S5:=sh T5 145 376
theorem p4:Go 8 1 288 ⟨22,0,31,48⟩ ⟨32,0,42,50⟩ S4 S5:=fun w p b os=>by kernel_rfl
noncomputable def YF:=z 0x35e9dd935e5cbc1774f3c32f3
noncomputable def M5:Value:=.str YF 430
noncomputable def Zc:=z 0x4edfd32f3
noncomputable def Z4:=(k n5 165 (.str YF 430)) P::(Z5 P).drop 1++m P [(kr Zc 429 182),(k (z 0x59bf2e2d9) 433 (.int 1 432)),(k (z 0x2cdf853e7cc) 435 (.int 2 434)),(k (z 0x59bf4ea52) 437 (.int 3 436)),(k (z 0x59bf3aacd) 439 (.int 4 438)),(k (z 0x2cdf8b3aacd) 441 (.int 5 440)),(k (z 0x166fd59d267ce) 443 (.int 6 442)),(k (z 0x59bf3e14a) 445 (.int 8 444)),(k (z 0x166fc1a54a0d9) 447 (.int 11 446))]
noncomputable def Sb:=Sc P++tr [(43,0,150)]
noncomputable def ab9:=u0 (ab' P) (Z4 P) 26 (Sb P)
noncomputable def Zb:=z 0x63df932f3
noncomputable def c6:List Obj:=q []::rt::dd (m P [(k iz 383 (.str n6 194)),(k rT 385 (.str Zc 384)),(k iy 387 (.int 43 386)),(kr kR 394 158),(kr Nx 403 165),(kr Zb 413 172),(kr (z 0x63d9970ee) 420 179),(kr iw 422 180)]) 8::q []::g (tr [(45,4,157),(48,4,164),(51,4,171),(57,4,178)])::cc Zc 378 43 148::pn 150 147 M7::F 9 0 kR (z 0x276fe9979aebf7f4eed3d2fdf) 152 388 45 1 [cP] M7 (F 9 1 Nx (z 0x4edfd32f35dc3af4) 159 395 48 3 [cP,(z 0xc7bf265),Dm] M7 (F 9 2 Zb (z 0x13b7f4cbcd763df932f3) 166 404 51 1 [cP,(z 0x66dfd7764),(z 0xc7bf265),Dm] M7 (F 9 3 (z 0x63d9970ee) (z 0x13b7f4cbcd763d9970ee) 173 414 57 1 [cP] M7 ([qs 421 [(z 0xe5bfbf3)],dd (m P [(k iz 383 (.str n6 194)),(k iy 387 (.int 43 386)),(kr kR 394 158),(kr Nx 403 165),(kr Zb 413 172),(kr (z 0x63d9970ee) 420 179),(kr iw 422 180),(kr oj 424 183),(kr m5 426 184),(k n7 427 .none)]) 4,ko Zc 182 181 [] 376 384,wd oj 423 182,wn m5 425 182,rr 182,rb 182]))))
noncomputable def T6:=bf P [ab9,fQ,c2,c3,c4,c5,c6]
noncomputable def S6:=sh T6 187 448
theorem p5:Go 9 10 401 ⟨32,0,42,50⟩ ⟨67,0,67,7⟩ S5 S6:=fun w p b os=>by kernel_rfl
noncomputable def Z3:=Z4 P++m P [(k (z 0x59bf5284c) 449 (.int 18 448)),(k (z 0x106759) 451 (.int 0 450)),(k (z 0x15674b9d3ebce) 453 (.int 1 452)),(k (z 0x4e8b5a2d2) 455 (.int 2 454)),(k (z 0xad3e4c4) 457 (.int 3 456)),(k (z 0x559d122c6) 459 (.int 4 458)),(k (z 0x4eab32654) 461 (.int 5 460)),(k (z 0x29d4a526747) 463 (.int 6 462)),(k (z 0x27559b0a2d2) 465 (.int 7 464)),(k (z 0x11a0cca716fd4) 467 (.int 8 466)),(k (z 0x2a52ab16fd4) 469 (.int 9 468)),(k (z 0x13e14a8b0ea54) 471 (.int 10 470)),(k (z 0x10a7cf99160ce) 473 (.int 12 472)),(k (z 0x116952) 475 (.int 13 474)),(k (z 0x11a945a722fc6) 477 (.int 14 476)),(k (z 0x11a945a722fd4) 479 (.int 15 478)),(k (z 0x285fa5160c49f3a659) 481 (.int 2 480)),(k (z 0x225f8b3aacd) 483 (.int 5 482)),(k (z 0x4d8362fd59d267ce) 485 (.int 400 484)),(kr (z 0x2349a54ea5fa53ebd3) 507 209),(kr (z 0x1360d2971625fa53ebd3) 508 210)]
noncomputable def ab8:List Obj:=(ab9 P).set 3 (dd (Z3 P) 47)
noncomputable def n93:=z 0x75dd932e6d3bb2e4
noncomputable def n94:=z 0xddd766c
noncomputable def c7(P:Params):List Obj:=[q [.int 1 432,.str (z 0x187779) 486],q [.int 1 432,.str (z 0x1d776bddbfbee) 487],q [.int 1 432,.str (z 0x6ecbdb2f2) 488],q [.int 1 432,.str (z 0xedbf4e4) 489],q [.int 1 432,.str n93 490],q [.int 1 432,.str n94 491],q [.int 1 432,.str (z 0x39f4e5a7767) 492],q [.int 1 432,.str zD 493],q [.int 2 434,.int 0 494,.int 0 495],q [.int 2 434,.int 1 496,.int 0 497],q [.int 1 432,.str (z 0x37e2d5971f4) 498],q [],q [],q [],q [],q [],q [.int 8 444,.ref 198,.ref 199,.ref 200,.ref 201,.ref 202,.int 0 499],q [.int 8 500,.int 9 501],q [.int 6 442,.ref 204],q [.int 1 432,.str (z 0x65e5cb7f2) 502],q [.int 2 434,.int 0 503,.int 1 504],q [.int 2 434,.int 1 505,.int 1 506],q [.ref 187,.ref 188,.ref 189,.ref 190,.ref 191,.ref 192,.ref 193,.ref 194,.ref 195,.ref 196,.ref 197,.ref 203,.ref 205,.ref 206,.ref 207,.ref 208],q [.int 2 434,.int 3 436,.int 4 438,.int 5 440,.int 8 444]]
noncomputable def T7:=bf P [ab8,fQ,c2,c3,c4,c5,c6,c7]
noncomputable def S7:=sh T7 211 509
theorem p6:Go 19 21 299 ⟨67,0,67,7⟩ ⟨88,0,88,11⟩ S6 S7:=fun w p b os=>by kernel_rfl
noncomputable def Za:=z 0x54f3c32d4c38b665
noncomputable def Z2:=Z3 P++m P [(kr Za 563 241)]
noncomputable def Sa:=Sb P++tr [(89,0,216)]
noncomputable def ab7:=u0 (ab8 P) (Z2 P) 48 (Sa P)
noncomputable def cC:=z 0x74
noncomputable def ZV:=z 0x69dd932f8
noncomputable def c8:List Obj:=q []::rt::dd (m P [(k iz 516 (.str YF 430)),(k rT 518 (.str Za 517)),(k iy 520 (.int 89 519)),(kr kR 528 224),(kr zC 536 231),(kr Nx 545 238),(kr iw 556 239)]) 7::q []::g (tr [(91,4,223),(105,4,230),(108,4,237)])::cc Za 511 89 214::pn 216 213 M5::F 40 0 kR (z 0x2a79e196a61c5b32aebf7f4eed3d2fdf) 218 521 91 1 [cP,zC] M5 (F 40 1 zC (z 0x54f3c32d4c38b6655dcb7f7) 225 529 105 2 [cP,cC] M5 (F 40 2 Nx (z 0x54f3c32d4c38b6655dc3af4) 232 537 108 2 [cP,zC,cC] M5 ([qs 546 [(z 0x316febbb273),(z 0x64cb8f673),(z 0xc997361ebb3a73),ZV,(z 0x6ec3b72f3),(z 0x1bf969cfa7773),(z 0x1c3af4e9a7767),(z 0x1cb2eec3b72e4),(z 0xe5bfbf3),(z 0x1cf461e1a7767)],dd (m P [(k iz 516 (.str YF 430)),(k iy 520 (.int 89 519)),(kr kR 528 224),(kr zC 536 231),(kr Nx 545 238),(kr iw 556 239),(kr oj 558 242),(kr m5 560 243),(k n7 561 .none)]) 4,ko Za 241 240 [] 509 517,wd oj 557 241,wn m5 559 241,rr 241,rb 241])))
noncomputable def T8:=bf P [ab7,fQ,c2,c3,c4,c5,c6,c7,c8]
noncomputable def S8:=sh T8 246 564
theorem p7:Go 40 1 297 ⟨88,0,88,11⟩ ⟨89,0,114,16⟩ S7 S8:=fun w p b os=>by kernel_rfl
noncomputable def Jg:=z 0x89971ec
noncomputable def mU:=z 0x1af4eec97f7e6
noncomputable def Ov:=z 0xe7d395fe9e7865
noncomputable def Ou:=z 0xddd76dfe9e7865
noncomputable def Ot:=z 0x1b72edc59795fe9e7865
noncomputable def Z1:=Z2 P++m P [(kr Jg 608 262),(kr mU 616 273),(kr Ov 626 281),(kr Ou 636 289),(kr Ot 651 297)]
noncomputable def R9:=Sa P++tr [(115,0,251),(133,0,272),(135,0,280),(137,0,288),(139,0,296)]
noncomputable def ab6:=u0 (ab7 P) (Z1 P) 53 (R9 P)
noncomputable def rZ:=z 0xd7a7764
noncomputable def Du:=z 0xdd876e5
noncomputable def kB:=z 0x1d30e2
noncomputable def Dt:=z 0x66e5979e8
noncomputable def Os:=z 0x6fe9a32f2
noncomputable def c9:List Obj:=q []::rt::dd (m P [(k iz 571 (.str YF 430)),(k rT 573 (.str Jg 572)),(k iy 575 (.int 115 574)),(kr kR 585 259),(kr iw 601 260)]) 5::q []::g (tr [(117,4,258)])::cc Jg 566 115 249::pn 251 248 M5::F 41 0 kR (z 0x44cb8f62ebf7f4eed3d2fdf) 253 576 117 4 [cP,(z 0x1934e4),rZ,Du] M5 (qs 586 [(z 0xc38b9f4e5871f4),Dm,(z 0x62c3cf2f3),(z 0xc5bf279),(z 0xc5d79f9),(z 0x1934e4),(z 0x65f1d32eec9cefe3d9879f3),YG,rZ,(z 0x1b72edc597973),Du,(z 0x1bb4e4),(z 0x3861e5876f3),(z 0x39f4c3d34e3),(z 0x76c3cb4e1dd8f2f3)]::dd (m P [(k iz 571 (.str YF 430)),(k iy 575 (.int 115 574)),(kr kR 585 259),(kr iw 601 260),(kr oj 603 263),(kr m5 605 264),(k n7 606 .none)]) 4::ko Jg 262 261 [] 564 572::wd oj 602 262::wn m5 604 262::rr 262::rb 262::E 42 mU 267 609 133 2 [kB,cC] M5 (q [.int 0 617]::Fg (yo 43) Ov Ov 275 618 135 3 [kB,Rf,Dt] M5 (.ref 274) (q [.int 0 627]::Fg (yo 44) Ou Ou 283 628 137 3 [kB,(z 0x6e),Dt] M5 (.ref 282) (q [.int 0 637]::Fg (yo 45) Ot Ot 291 638 139 5 [kB,(z 0x1934e4),Du,(z 0x76c3b3ae5),Dt,(z 0xe9bf664),Os,(z 0xd197664)] M5 (.ref 290) ([])))))
noncomputable def T9:=bf P [ab6,fQ,c2,c3,c4,c5,c6,c7,c8,c9]
noncomputable def S9:=sh T9 298 652
theorem p8:Go 41 5 373 ⟨89,0,114,16⟩ ⟨139,0,144,53⟩ S8 S9:=fun w p b os=>by kernel_rfl
noncomputable def Oq:=z 0x30f2e587cdfe9e7865
noncomputable def UM:=z 0xefa37eccb7f7e6bfcb7f7
noncomputable def UL:=z 0xe5973f5d98795fe9df4ee
noncomputable def UK:=z 0x356fd3bafe2dfbf673
noncomputable def UJ:=z 0xe7d30f9e77f165e7a7265
noncomputable def Oo:=z 0x75dda77ee
noncomputable def UI:=z 0x1cb2e7ebb30f2bfbf765
noncomputable def On:=z 0x1cb2e7ebb30f2
noncomputable def Om:=z 0x65ddd76dfe9e7865
noncomputable def R8:=Z1 P++m P [(kr Oq 661 305),(kr (z 0xdd97bdfc9971ec) 671 312),(kr (z 0xe187974e77f7e6) 680 319),(kr UM 688 326),(kr UL 697 333),(kr UK 704 340),(kr UJ 713 347),(kr (z 0x3a6fe17f7e6) 721 354),(kr Oo 727 359),(kr (z 0xd3cefe6e5979e8) 736 366),(kr UI 744 373),(kr On 750 378),(kr Om 756 383)]
noncomputable def KV:=R9 P++tr [(145,0,304),(147,0,311),(151,0,318),(158,0,325),(167,0,332),(172,0,339),(176,0,346),(180,0,353),(185,0,358),(202,0,365),(205,0,372),(209,0,377),(213,0,382)]
noncomputable def Tj:=u0 (ab6 P) (R8 P) 66 (KV P)
noncomputable def ug(P:Params):List Obj:=q [.int 0 652]::Fg (yo 46) Oq Oq 299 653 145 3 [kB,(z 0xcbb32ed),(z 0x396f)] M5 (.ref 298) (E 47 (z 0xdd97bdfc9971ec) 306 662 147 3 [kB,rZ,Du,(z 0xc9971ec)] M5 (E 48 (z 0xe187974e77f7e6) 313 672 151 2 [kB,cC,zC] M5 (E 49 UM 320 681 158 1 [zC,rZ] M5 (E 50 UL 327 689 167 2 [kB,cC,zC] M5 (E 51 UK 334 698 172 1 [(z 0x19f7f4)] M5 (E 52 UJ 341 705 176 3 [kB,(z 0x19f7f4),cC] M5 (E 53 (z 0x3a6fe17f7e6) 348 714 180 1 [(z 0x19f7f4),cC] M5 (G (yo 54) Oo Oo 355 722 185 2 M5 .none (E 55 (z 0xd3cefe6e5979e8) 360 728 202 2 [kB,cC,zC] M5 (E 56 UI 367 737 205 2 [kB,cC] M5 (G (yo 57) On On 374 745 209 2 M5 .none (G (yo 58) Om Om 379 751 213 2 M5 .none ([])))))))))))))
noncomputable def T10:=bf P [Tj,fQ,c2,c3,c4,c5,c6,c7,c8,c9,ug]
noncomputable def S10:=sh T10 384 757
theorem p9:Go 46 13 387 ⟨139,0,144,53⟩ ⟨213,0,217,91⟩ S9 S10:=fun w p b os=>by kernel_rfl
noncomputable def Ol:=z 0x35e9dd935e5cbc176edf932f3
noncomputable def M0:Value:=.str Ol 773
noncomputable def Oj:=z 0x18b0f3cb7f7e6bfb34f4cbcb0ec
noncomputable def R7:=(k n5 165 (.str Ol 773)) P::(R8 P).drop 1++m P [(kr (z 0xefa37eccb7f7e6) 766 390),(kr Oj 772 395),(k (z 0x4bbf3aacd) 776 (.int 1 775)),(k (z 0x4bbf4ea52) 778 (.int 2 777)),(k (z 0x25dfa94aac5) 780 (.int 4 779)),(k (z 0x12efc683329c5) 782 (.int 5 781)),(k (z 0x25df9d5664c) 784 (.int 6 783)),(k (z 0x12efd59d122c6) 786 (.int 7 785)),(k (z 0x25df9d066c5) 788 (.int 8 787)),(k (z 0x977e1499d06959) 790 (.int 23 789))]
noncomputable def KU:=KV P++tr [(218,0,389),(226,0,394)]
noncomputable def Ti:=u0 (Tj P) (R7 P) 76 (KU P)
noncomputable def uz(P:Params):List Obj:=E 59 (z 0xefa37eccb7f7e6) 384 757 218 2 [kB,cC,zC,(z 0x77d1bf665)] M5 (G (yo 60) Oj Oj 391 767 226 2 M5 .none ([]))
noncomputable def T11:=bf P [Ti,fQ,c2,c3,c4,c5,c6,c7,c8,c9,ug,uz]
noncomputable def S11:=sh T11 396 791
theorem p10:Go 59 11 140 ⟨213,0,217,91⟩ ⟨236,0,236,8⟩ S10 S11:=fun w p b os=>by kernel_rfl
noncomputable def R6:=R7 P++m P [(kr (z 0x274f8916fd79f4a253) 1058 396)]
noncomputable def Th:List Obj:=(Ti P).set 3 (dd (R6 P) 77)
noncomputable def ag8(P:Params):DictEntry:=⟨(1),.int 1 791,.str zD 792⟩
noncomputable def ag7(P:Params):DictEntry:=⟨(2),.int 2 794,.str Rf 795⟩
noncomputable def agr:=z 0xe9976f0d987a65
noncomputable def ag6(P:Params):DictEntry:=⟨(3),.int 3 797,.str agr 798⟩
noncomputable def agq:=z 0xe9cbae5
noncomputable def ag5(P:Params):DictEntry:=⟨(4),.int 4 800,.str agq 801⟩
noncomputable def agp:=z 0x66c3b39e5
noncomputable def ag4(P:Params):DictEntry:=⟨(5),.int 5 803,.str agp 804⟩
noncomputable def ag3(P:Params):DictEntry:=⟨(6),.int 6 806,.str n94 807⟩
noncomputable def ag2(P:Params):DictEntry:=⟨(7),.int 7 809,.str n93 810⟩
noncomputable def ag1(P:Params):DictEntry:=⟨(8),.int 8 812,.str Du 813⟩
noncomputable def ago:=z 0xe9a34f3
noncomputable def ag0(P:Params):DictEntry:=⟨(9),.int 9 815,.str ago 816⟩
noncomputable def agn:=z 0x73ebc32f2
noncomputable def agZ(P:Params):DictEntry:=⟨(10),.int 10 818,.str agn 819⟩
noncomputable def agm:=z 0x61e5cb0f941b34f4cbcb0ec
noncomputable def agY(P:Params):DictEntry:=⟨(11),.int 11 821,.str agm 822⟩
noncomputable def agl:=z 0x37e2d5971f441b34f4cbcb0ec
noncomputable def agX(P:Params):DictEntry:=⟨(12),.int 12 824,.str agl 825⟩
noncomputable def agk:=z 0xe1cb7f0cbcba79
noncomputable def agW(P:Params):DictEntry:=⟨(13),.int 13 827,.str agk 828⟩
noncomputable def agj:=z 0x39e8dfcba20e1cb7f0cbcba79
noncomputable def agV(P:Params):DictEntry:=⟨(14),.int 14 830,.str agj 831⟩
noncomputable def Oi:=z 0x39f0e5970e4
noncomputable def agU(P:Params):DictEntry:=⟨(15),.int 15 833,.str Oi 834⟩
noncomputable def agi:=z 0x36e5db8b2f2
noncomputable def agT(P:Params):DictEntry:=⟨(16),.int 16 836,.str agi 837⟩
noncomputable def agS(P:Params):DictEntry:=⟨(17),.int 17 839,.str ZV 840⟩
noncomputable def agh:=z 0xc78766c
noncomputable def ab1(P:Params):DictEntry:=⟨(18),.int 18 842,.str agh 843⟩
noncomputable def ZU:=z 0x1bb2f7
noncomputable def ab0(P:Params):DictEntry:=⟨(19),.int 19 845,.str ZU 846⟩
noncomputable def agg:=z 0x37f0e9a77eec3b1063d1874ee
noncomputable def abZ(P:Params):DictEntry:=⟨(20),.int 20 848,.str agg 849⟩
noncomputable def agf:=z 0x3aeec3cbca0dfc32f2c3d37f2
noncomputable def abY(P:Params):DictEntry:=⟨(21),.int 21 851,.str agf 852⟩
noncomputable def age:=z 0x3af0c987a65
noncomputable def abX(P:Params):DictEntry:=⟨(22),.int 22 854,.str age 855⟩
noncomputable def agd:=z 0x18b4eec3cbca0dfc32f2c3d37f2
noncomputable def abW(P:Params):DictEntry:=⟨(23),.int 23 857,.str agd 858⟩
noncomputable def agc:=z 0xd9bf3e9c787620dfc32f2c3d37f2
noncomputable def abV(P:Params):DictEntry:=⟨(24),.int 24 860,.str agc 861⟩
noncomputable def agb:=z 0x30f3e7a73eedb97774
noncomputable def abU(P:Params):DictEntry:=⟨(25),.int 25 863,.str agb 864⟩
noncomputable def aga:=z 0x31e8dfa71e5
noncomputable def abT(P:Params):DictEntry:=⟨(26),.int 26 866,.str aga 867⟩
noncomputable def af':=z 0xcdd7763e9a77ee
noncomputable def abS(P:Params):DictEntry:=⟨(27),.int 27 869,.str af' 870⟩
noncomputable def af9:=z 0x70c3cb0edcbd32f2
noncomputable def abR(P:Params):DictEntry:=⟨(28),.int 28 872,.str af9 873⟩
noncomputable def af8:=z 0x30f3
noncomputable def abQ(P:Params):DictEntry:=⟨(29),.int 29 875,.str af8 876⟩
noncomputable def af7:=z 0xc3cd063dfbb9f4
noncomputable def abP(P:Params):DictEntry:=⟨(30),.int 30 878,.str af7 879⟩
noncomputable def af6:=z 0x73c3d34f3cda72f3
noncomputable def abO(P:Params):DictEntry:=⟨(31),.int 31 881,.str af6 882⟩
noncomputable def af5:=z 0x6edfb96eeebb3620db8796b
noncomputable def abN(P:Params):DictEntry:=⟨(32),.int 32 884,.str af5 885⟩
noncomputable def af4:=z 0x1c30f2cbbba68cbcf2f3
noncomputable def abM(P:Params):DictEntry:=⟨(33),.int 33 887,.str af4 888⟩
noncomputable def af3:=z 0x37e2d5971f441c30f4e99796e
noncomputable def abL(P:Params):DictEntry:=⟨(34),.int 34 890,.str af3 891⟩
noncomputable def af2:=z 0x61e5cb0f941c30f4e99796e
noncomputable def abK(P:Params):DictEntry:=⟨(35),.int 35 893,.str af2 894⟩
noncomputable def af1:=z 0x18b4eec9a7767
noncomputable def abJ(P:Params):DictEntry:=⟨(36),.int 36 896,.str af1 897⟩
noncomputable def abI(P:Params):DictEntry:=⟨(40),.int 40 899,.str YG 900⟩
noncomputable def af0:=z 0x3b61e5a70e2d995073e987a65db97774
noncomputable def abH(P:Params):DictEntry:=⟨(41),.int 41 902,.str af0 903⟩
noncomputable def afZ:=z 0x3265c7b30f2c3d37f2
noncomputable def abG(P:Params):DictEntry:=⟨(42),.int 42 905,.str afZ 906⟩
noncomputable def afY:=z 0xcbe3872cbcf9e9dfb9073e987a65db97774
noncomputable def abF(P:Params):DictEntry:=⟨(43),.int 43 908,.str afY 909⟩
noncomputable def afX:=z 0x34e6
noncomputable def abE(P:Params):DictEntry:=⟨(44),.int 44 911,.str afX 912⟩
noncomputable def afW:=z 0x77d1a7665
noncomputable def abD(P:Params):DictEntry:=⟨(45),.int 45 914,.str afW 915⟩
noncomputable def afV:=z 0x326f
noncomputable def abC(P:Params):DictEntry:=⟨(46),.int 46 917,.str afV 918⟩
noncomputable def afU:=z 0x19b7f2
noncomputable def abB(P:Params):DictEntry:=⟨(47),.int 47 920,.str afU 921⟩
noncomputable def afT:=z 0x336fe4837e6
noncomputable def abA(P:Params):DictEntry:=⟨(48),.int 48 923,.str afT 924⟩
noncomputable def afS:=z 0x336fe4834ee
noncomputable def abz(P:Params):DictEntry:=⟨(49),.int 49 926,.str afS 927⟩
noncomputable def afR:=z 0x39f7d3d31e8
noncomputable def aby(P:Params):DictEntry:=⟨(50),.int 50 929,.str afR 930⟩
noncomputable def afQ:=z 0xc7879e5
noncomputable def abx(P:Params):DictEntry:=⟨(51),.int 51 932,.str afQ 933⟩
noncomputable def afP:=z 0x3965e9d796e
noncomputable def abw(P:Params):DictEntry:=⟨(52),.int 52 935,.str afP 936⟩
noncomputable def afO:=z 0x62e5970eb
noncomputable def abv(P:Params):DictEntry:=⟨(53),.int 53 938,.str afO 939⟩
noncomputable def afN:=z 0xc7bf774d3bbae5
noncomputable def abu(P:Params):DictEntry:=⟨(54),.int 54 941,.str afN 942⟩
noncomputable def afM:=z 0x6cc38b2ec
noncomputable def abt(P:Params):DictEntry:=⟨(55),.int 55 944,.str afM 945⟩
noncomputable def afL:=z 0x74d1cb7f7
noncomputable def abr(P:Params):DictEntry:=⟨(56),.int 56 947,.str afL 948⟩
noncomputable def afK:=z 0x1d3979
noncomputable def abq(P:Params):DictEntry:=⟨(57),.int 57 950,.str afK 951⟩
noncomputable def afJ:=z 0x63c3d31e8
noncomputable def abp(P:Params):DictEntry:=⟨(58),.int 58 953,.str afJ 954⟩
noncomputable def afI:=z 0x62d9bf1eb
noncomputable def abo(P:Params):DictEntry:=⟨(59),.int 59 956,.str afI 957⟩
noncomputable def afH:=z 0x1976f0e9e5073e987a65db97774
noncomputable def abn(P:Params):DictEntry:=⟨(60),.int 60 959,.str afH 960⟩
noncomputable def afG:=z 0x63d9879f3
noncomputable def abm(P:Params):DictEntry:=⟨(61),.int 61 962,.str afG 963⟩
noncomputable def afF:=z 0x66d397664
noncomputable def abl(P:Params):DictEntry:=⟨(62),.int 62 965,.str afF 966⟩
noncomputable def afE:=z 0x1a7764cbe1073d39f761e9d7965
noncomputable def abk(P:Params):DictEntry:=⟨(63),.int 63 968,.str afE 969⟩
noncomputable def afD:=z 0x69ddd32f2cd871e5
noncomputable def abj(P:Params):DictEntry:=⟨(64),.int 64 971,.str afD 972⟩
noncomputable def afC:=z 0x3a79e195061d9a70f3
noncomputable def abi(P:Params):DictEntry:=⟨(65),.int 65 974,.str afC 975⟩
noncomputable def afB:=z 0xcbbbaed
noncomputable def abh(P:Params):DictEntry:=⟨(66),.int 66 977,.str afB 978⟩
noncomputable def afA:=z 0x197775da836e5db8b2f2
noncomputable def abg(P:Params):DictEntry:=⟨(67),.int 67 980,.str afA 981⟩
noncomputable def afz:=z 0x34ede1bf974
noncomputable def abf(P:Params):DictEntry:=⟨(68),.int 68 983,.str afz 984⟩
noncomputable def afy:=z 0x69dbc37f2e997220dd876e5
noncomputable def abe(P:Params):DictEntry:=⟨(69),.int 69 986,.str afy 987⟩
noncomputable def afx:=z 0x32f8e1bf974
noncomputable def abd(P:Params):DictEntry:=⟨(70),.int 70 989,.str afx 990⟩
noncomputable def afw:=z 0xe5bfba0df9906edf932f3
noncomputable def abc(P:Params):DictEntry:=⟨(71),.int 71 992,.str afw 993⟩
noncomputable def afv:=z 0xd797cf7dfcb220e9e7865
noncomputable def abb(P:Params):DictEntry:=⟨(80),.int 80 995,.str afv 996⟩
noncomputable def afu:=z 0x74f3c32a0dd876e5
noncomputable def aba(P:Params):DictEntry:=⟨(81),.int 81 998,.str afu 999⟩
noncomputable def aft:=z 0xd9a7a65e587620e9e7865
noncomputable def aa'(P:Params):DictEntry:=⟨(82),.int 82 1001,.str aft 1002⟩
noncomputable def afs:=z 0x3aeed3bf720e9e7865
noncomputable def aa9(P:Params):DictEntry:=⟨(83),.int 83 1004,.str afs 1005⟩
noncomputable def afr:=z 0x69ddd32f2e7971f4d3bf720e9e7865
noncomputable def aa8(P:Params):DictEntry:=⟨(84),.int 84 1007,.str afr 1008⟩
noncomputable def afq:=z 0x30f2e587ca0e9e7865
noncomputable def aa7(P:Params):DictEntry:=⟨(85),.int 85 1010,.str afq 1011⟩
noncomputable def afp:=z 0x3a75e1b32a0e9e7865
noncomputable def aa6(P:Params):DictEntry:=⟨(86),.int 86 1013,.str afp 1014⟩
noncomputable def afo:=z 0x74ebc36654197665db97774
noncomputable def aa5(P:Params):DictEntry:=⟨(87),.int 87 1016,.str afo 1017⟩
noncomputable def afn:=z 0x1bf16acb8fa20e9e7865
noncomputable def aa4(P:Params):DictEntry:=⟨(88),.int 88 1019,.str afn 1020⟩
noncomputable def afm:=z 0x6bcbe77e6
noncomputable def aa3(P:Params):DictEntry:=⟨(89),.int 89 1022,.str afm 1023⟩
noncomputable def afl:=z 0xd3bb265f197220e9e7865
noncomputable def aa2(P:Params):DictEntry:=⟨(90),.int 90 1025,.str afl 1026⟩
noncomputable def afk:=z 0x1b70f0e197220e9e7865
noncomputable def aa1(P:Params):DictEntry:=⟨(91),.int 91 1028,.str afk 1029⟩
noncomputable def afj:=z 0xc7bf764d3d34efdd87620e9e7865
noncomputable def aa0(P:Params):DictEntry:=⟨(92),.int 92 1031,.str afj 1032⟩
noncomputable def afi:=z 0x69dd9b2f2
noncomputable def aaZ(P:Params):DictEntry:=⟨(93),.int 93 1034,.str afi 1035⟩
noncomputable def afh:=z 0x74cbb786cc3d32a0e9e7865
noncomputable def aaY(P:Params):DictEntry:=⟨(94),.int 94 1037,.str afh 1038⟩
noncomputable def afg:=z 0x1d3cf0cbbf320e9e7865
noncomputable def aaX(P:Params):DictEntry:=⟨(95),.int 95 1040,.str afg 1041⟩
noncomputable def afe:=z 0x70e597269c787a65
noncomputable def aaW(P:Params):DictEntry:=⟨(96),.int 96 1043,.str afe 1044⟩
noncomputable def afd:=z 0x72cb8726fddb3ca0e9e7865
noncomputable def aaV(P:Params):DictEntry:=⟨(97),.int 97 1046,.str afd 1047⟩
noncomputable def afc:=z 0xe9e786541c30f2cbbba68cbcf2f3
noncomputable def aaU(P:Params):DictEntry:=⟨(98),.int 98 1048,.str afc 1049⟩
noncomputable def afb:=z 0x3872dfc32f2e9e5073d39f761e9d7965
noncomputable def aaT(P:Params):DictEntry:=⟨(99),.int 99 1050,.str afb 1051⟩
noncomputable def afa:=z 0x3a79e195070c3cb0edcbd32f2
noncomputable def aaS(P:Params):DictEntry:=⟨(100),.int 100 1052,.str afa 1053⟩
noncomputable def PJ:=m P [ag8,ag7,ag6,ag5,ag4,ag3,ag2,ag1,ag0,agZ,agY,agX,agW,agV,agU,agT,agS,ab1,ab0,abZ,abY,abX,abW,abV,abU,abT,abS,abR,abQ,abP,abO,abN,abM,abL,abK,abJ,abI,abH,abG,abF,abE,abD,abC,abB,abA,abz,aby,abx,abw,abv,abu,abt,abr,abq,abp,abo,abn,abm,abl,abk,abj,abi,abh,abg,abf,abe,abd,abc,abb,aba,aa',aa9,aa8,aa7,aa6,aa5,aa4,aa3,aa2,aa1,aa0,aaZ,aaY,aaX,aaW,aaV,aaU,aaT,aaS]
noncomputable def PI:=m P [ab1,ab0,abZ,abY,abX,abW,abV,abU,abT,abS,abR,abQ,abP,abO,abN,abM,abL]
noncomputable def PG:=m P [abK,abJ,abI,abH,abG,abF,abE,abD,abC,abB,abA,abz,aby,abx,abw,abv,abu]
noncomputable def PF:=m P [abt,abr,abq,abp,abo,abn,abm,abl,abk,abj,abi,abh,abg,abf,abe,abd,abc]
noncomputable def PE:=m P [abb,aba,aa',aa9,aa8,aa7,aa6,aa5,aa4,aa3,aa2,aa1,aa0,aaZ,aaY,aaX,aaW]
noncomputable def PD:=m P [aaV,aaU,aaT,aaS]
noncomputable def uT:List Obj:=[dd (PJ P) 89,dd (PI P) 17,dd (PG P) 17,dd (PF P) 17,dd (PE P) 17,dd (PD P) 4]
noncomputable def T12:=bf P [Th,fQ,c2,c3,c4,c5,c6,c7,c8,c9,ug,uz,uT]
noncomputable def S12:=sh T12 402 1059
theorem ae'(w:World):GW 70 1 1635 ⟨236,0,236,8⟩ ⟨237,0,237,10⟩ S11 S12 (w.withFollow "special-get-raises" false):=fun p b os=>by kernel_rfl
theorem ae9(w:World):GW 70 1 1635 ⟨236,0,236,8⟩ ⟨237,0,237,10⟩ S11 S12 (w.withFollow "special-get-raises" true):=fun p b os=>by kernel_rfl
theorem p11:Go 70 1 1635 ⟨236,0,236,8⟩ ⟨237,0,237,10⟩ S11 S12:=X4 "special-get-raises" ae' ae9
noncomputable def jY:=z 0x35e9dd935e5cbc1763c7bf965
noncomputable def M1:Value:=.str jY 1107
noncomputable def Jf:=z 0x9dbf265
noncomputable def R5:=(k n5 165 (.str jY 1107)) P::(R6 P).drop 1++m P [(kr Jf 1096 418),(kr (z 0xe9df4e7) 1106 429),(k (z 0x4d9f4ea5f89162d0) 1110 (.int 50 1109))]
noncomputable def KS:=KU P++tr [(238,0,407),(247,0,428)]
noncomputable def Tf:=u0 (Th P) (R5 P) 80 (KS P)
noncomputable def xG:List Obj:=q []::rt::dd (m P [(k iz 1066 (.str Ol 773)),(k rT 1068 (.str Jf 1067)),(k iy 1070 (.int 238 1069)),(kr kR 1082 415),(kr iw 1089 416)]) 5::q []::g (tr [(240,4,414)])::cc Jf 1061 238 405::pn 407 404 M0::F 71 0 kR (z 0x4edf932aebf7f4eed3d2fdf) 409 1071 240 6 [cP,rZ,(z 0x61),(z 0xd7a7273),(z 0x66d9873f3),Dm] M0 (qs 1083 [(z 0x61),Dm,(z 0x66d9873f3),(z 0xd7a7273),rZ,(z 0x1bb4e4)]::dd (m P [(k iz 1066 (.str Ol 773)),(k iy 1070 (.int 238 1069)),(kr kR 1082 415),(kr iw 1089 416),(kr oj 1091 419),(kr m5 1093 420),(k n7 1094 .none)]) 4::ko Jf 418 417 [] 1059 1067::wd oj 1090 418::wn m5 1092 418::rr 418::rb 418::E 72 (z 0xe9df4e7) 423 1097 247 4 [rZ,(z 0x61),(z 0xd7a7273),Dm] M0 ([]))
noncomputable def T13:=bf P [Tf,fQ,c2,c3,c4,c5,c6,c7,c8,c9,ug,uz,uT,xG]
noncomputable def S13:=sh T13 430 1111
theorem p12:Go 71 4 282 ⟨237,0,237,10⟩ ⟨250,0,250,9⟩ S12 S13:=fun w p b os=>by kernel_rfl
noncomputable def kq:=z 0x8be3872a5d7665
noncomputable def R4:=R5 P++m P [(kr kq 1140 446)]
noncomputable def KR:=KS P++tr [(251,0,435)]
noncomputable def Te:=u0 (Tf P) (R4 P) 81 (KR P)
noncomputable def dH:=z 0x31f8
noncomputable def dz:=z 0xddbf265
noncomputable def xP:=z 0xef87774
noncomputable def Dr:List Obj:=q []::rt::dd (m P [(k iz 1118 (.str jY 1107)),(k rT 1120 (.str kq 1119)),(k iy 1122 (.int 251 1121)),(kr mU 1132 443),(kr iw 1133 444)]) 5::q []::g (tr [(253,4,442)])::cc kq 1113 251 433::pn 435 432 M1::F 75 0 mU (z 0x8be3872a5d76655daf4eec97f7e6) 437 1123 253 4 [cP,dH,dz,xP] M1 ([q [],dd (m P [(k iz 1118 (.str jY 1107)),(k iy 1122 (.int 251 1121)),(kr mU 1132 443),(kr iw 1133 444),(kr oj 1135 447),(kr m5 1137 448),(k n7 1138 .none)]) 4,ko kq 446 445 [] 1111 1119,wd oj 1134 446,wn m5 1136 446,rr 446,rb 446])
noncomputable def T14:=bf P [Te,fQ,c2,c3,c4,c5,c6,c7,c8,c9,ug,uz,uT,xG,Dr]
noncomputable def S14:=sh T14 451 1141
theorem p13:Go 75 1 224 ⟨250,0,250,9⟩ ⟨251,0,254,18⟩ S13 S14:=fun w p b os=>by kernel_rfl
noncomputable def Je:=z 0x47eb87964
noncomputable def RZ:=R4 P++m P [(kr Je 1192 481)]
noncomputable def KQ:=KR P++tr [(255,0,456)]
noncomputable def Td:=u0 (Te P) (RZ P) 82 (KQ P)
noncomputable def yq:List Obj:=q []::rt::dd (m P [(k iz 1148 (.str jY 1107)),(k rT 1150 (.str Je 1149)),(k iy 1152 (.int 255 1151)),(kr (z 0x30e3c7979f3) 1163 464),(kr (z 0xe5970e4dfbb679) 1173 471),(kr (z 0x1cb2e3d7bf773) 1184 478),(kr iw 1185 479)]) 7::q []::g (tr [(257,4,463),(260,4,470),(263,4,477)])::cc Je 1143 255 454::pn 456 453 M1::F 76 0 (z 0x30e3c7979f3) (z 0x8fd70f2c8bb0e3c7979f3) 458 1153 257 5 [cP,dH,dz,zC,(z 0x1bf16a)] M1 (F 76 1 (z 0xe5970e4dfbb679) (z 0x23f5c3cb22ee5970e4dfbb679) 465 1164 260 4 [cP,dH,(z 0x3a61e59f2f4),zC] M1 (F 76 2 (z 0x1cb2e3d7bf773) (z 0x47eb879645dcb2e3d7bf773) 472 1174 263 5 [cP,dH,dz,zC,(z 0x1bf16a)] M1 ([q [],dd (m P [(k iz 1148 (.str jY 1107)),(k iy 1152 (.int 255 1151)),(kr (z 0x30e3c7979f3) 1163 464),(kr (z 0xe5970e4dfbb679) 1173 471),(kr (z 0x1cb2e3d7bf773) 1184 478),(kr iw 1185 479),(kr oj 1187 482),(kr m5 1189 483),(k n7 1190 .none)]) 4,ko Je 481 480 [] 1141 1149,wd oj 1186 481,wn m5 1188 481,rr 481,rb 481])))
noncomputable def T15:=bf P [Td,fQ,c2,c3,c4,c5,c6,c7,c8,c9,ug,uz,uT,xG,Dr,yq]
noncomputable def S15:=sh T15 486 1193
theorem p14:Go 76 1 294 ⟨251,0,254,18⟩ ⟨255,0,264,16⟩ S14 S15:=fun w p b os=>by kernel_rfl
noncomputable def Jd:=z 0x52df87273
noncomputable def RY:=RZ P++m P [(kr Jd 1231 509)]
noncomputable def KP:=KQ P++tr [(265,0,491)]
noncomputable def Tc:=u0 (Td P) (RY P) 83 (KP P)
noncomputable def Bl:=z 0x67d3db2ee
noncomputable def zG:List Obj:=q []::rt::dd (m P [(k iz 1200 (.str jY 1107)),(k rT 1202 (.str Jd 1201)),(k iy 1204 (.int 265 1203)),(kr kR 1211 499),(kr (z 0x75ddcf2f4) 1222 506),(kr iw 1224 507)]) 6::q []::g (tr [(267,4,498),(270,4,505)])::cc Jd 1195 265 489::pn 491 488 M1::F 77 0 kR (z 0x296fc3939aebf7f4eed3d2fdf) 493 1205 267 1 [cP] M1 (F 77 1 (z 0x75ddcf2f4) (z 0x14b7e1c9cd775ddcf2f4) 500 1212 270 5 [cP,dH,(z 0xcdb37f7),Du,(z 0xc9971ecc3cb2e4)] M1 ([qs 1223 [Bl],dd (m P [(k iz 1200 (.str jY 1107)),(k iy 1204 (.int 265 1203)),(kr kR 1211 499),(kr (z 0x75ddcf2f4) 1222 506),(kr iw 1224 507),(kr oj 1226 510),(kr m5 1228 511),(k n7 1229 .none)]) 4,ko Jd 509 508 [] 1193 1201,wd oj 1225 509,wn m5 1227 509,rr 509,rb 509]))
noncomputable def T16:=bf P [Tc,fQ,c2,c3,c4,c5,c6,c7,c8,c9,ug,uz,uT,xG,Dr,yq,zG]
noncomputable def S16:=sh T16 514 1232
theorem p15:Go 77 1 257 ⟨255,0,264,16⟩ ⟨265,0,271,16⟩ S15 S16:=fun w p b os=>by kernel_rfl
noncomputable def zN:=z 0x4aeb933e5
noncomputable def RX:=RY P++m P [(kr zN 1350 593)]
noncomputable def KO:=KP P++tr [(272,0,519)]
noncomputable def SZ:=u0 (Tc P) (RX P) 84 (KO P)
noncomputable def rY:=z 0xcda7a73
noncomputable def zM:=z 0xd9a72f3
noncomputable def GJ:=z 0x6dcb97a73
noncomputable def zL:=z 0x77dfcb273
noncomputable def fO:=z 0x73
noncomputable def c17:List Obj:=q []::rt::dd (m P [(k iz 1239 (.str jY 1107)),(k rT 1241 (.str zN 1240)),(k iy 1243 (.int 272 1242)),(kr kR 1250 527),(kr rY 1260 534),(kr zM 1270 541),(kr (z 0x32f8c7979f3) 1280 548),(kr GJ 1290 555),(kr (z 0xe7876e5) 1300 562),(kr (z 0x1cb2e4eb8f2e4) 1310 569),(kr (z 0x1b72f4) 1319 576),(kr zL 1328 583),(kr (z 0x197c70d9874ee) 1341 590),(kr iw 1343 591)]) 14::q []::g (tr [(274,4,526),(277,4,533),(280,4,540),(283,4,547),(286,4,554),(289,4,561),(292,4,568),(295,4,575),(298,4,582),(301,4,589)])::cc zN 1234 272 517::pn 519 516 M1::F 78 0 kR (z 0x2575c99f2aebf7f4eed3d2fdf) 521 1244 274 1 [cP] M1 (F 78 1 rY (z 0x2575c99f2aecda7a73) 528 1251 277 4 [cP,dH,fO,cC] M1 (F 78 2 zM (z 0x2575c99f2aed9a72f3) 535 1261 280 4 [cP,dH,fO,cC] M1 (F 78 3 (z 0x32f8c7979f3) (z 0x95d7267cabb2f8c7979f3) 542 1271 283 4 [cP,dH,fO,cC] M1 (F 78 4 GJ (z 0x12bae4cf9576dcb97a73) 549 1281 286 4 [cP,dH,fO,cC] M1 (F 78 5 (z 0xe7876e5) (z 0x2575c99f2aee7876e5) 556 1291 289 4 [cP,dH,fO,cC] M1 (F 78 6 (z 0x1cb2e4eb8f2e4) (z 0x4aeb933e55dcb2e4eb8f2e4) 563 1301 292 4 [cP,dH,dz,(z 0x70c3cba73)] M1 (F 78 7 (z 0x1b72f4) (z 0x4aeb933e55db72f4) 570 1311 295 3 [cP,dH,(z 0x70c3cba73)] M1 (F 78 8 zL (z 0x12bae4cf95777dfcb273) 577 1320 298 3 [cP,dH,cC] M1 (F 78 9 (z 0x197c70d9874ee) (z 0x4aeb933e55d97c70d9874ee) 584 1329 301 7 [cP,dH,dz,fO,cC,Dm,zD] M1 ([qs 1342 [Bl],dd (m P [(k iz 1239 (.str jY 1107)),(k iy 1243 (.int 272 1242)),(kr kR 1250 527),(kr rY 1260 534),(kr zM 1270 541),(kr (z 0x32f8c7979f3) 1280 548),(kr GJ 1290 555),(kr (z 0xe7876e5) 1300 562),(kr (z 0x1cb2e4eb8f2e4) 1310 569),(kr (z 0x1b72f4) 1319 576),(kr zL 1328 583),(kr (z 0x197c70d9874ee) 1341 590),(kr iw 1343 591),(kr oj 1345 594),(kr m5 1347 595),(k n7 1348 .none)]) 4,ko zN 593 592 [] 1232 1240,wd oj 1344 593,wn m5 1346 593,rr 593,rb 593]))))))))))
noncomputable def T17:=bf P [SZ,fQ,c2,c3,c4,c5,c6,c7,c8,c9,ug,uz,uT,xG,Dr,yq,zG,c17]
noncomputable def S17:=sh T17 598 1351
theorem p16:Go 78 1 529 ⟨265,0,271,16⟩ ⟨272,0,302,55⟩ S16 S17:=fun w p b os=>by kernel_rfl
noncomputable def Jc:=z 0x286cc3a774aeb933e5
noncomputable def UH:=z 0x386cc3a775fe187974
noncomputable def RW:=RX P++m P [(kr Jc 1406 635),(kr UH 1415 644)]
noncomputable def KN:=KO P++tr [(303,0,603),(316,0,643)]
noncomputable def SY:=u0 (SZ P) (RW P) 86 (KN P)
noncomputable def fj:List Obj:=(c17 P).set 79 (⟨.type A9,none,.cls ⟨zN,[.type pW],[.ref 593,.type pW],592,zN,true,[],[.ref 635],false,none,false⟩,⟨[none,none,some (.str zN 1232),some (.str zN 1240),some (.builtin Bh),some (.bool true)]⟩⟩)
noncomputable def Bf:List Obj:=q [.ref 593]::rt::dd (m P [(k iz 1358 (.str jY 1107)),(k rT 1360 (.str Jc 1359)),(k iy 1362 (.int 303 1361)),(kr rY 1372 611),(kr zM 1382 618),(kr GJ 1392 625),(kr (z 0xe7876e5) 1402 632),(kr iw 1403 633)]) 8::q []::g (tr [(305,4,610),(308,4,617),(311,4,624),(314,4,631)])::cc Jc 1353 303 601::pn 603 600 M1::F 79 0 rY (z 0x143661d3ba575c99f2aecda7a73) 605 1363 305 4 [cP,dH,fO,cC] M1 (F 79 1 zM (z 0x143661d3ba575c99f2aed9a72f3) 612 1373 308 4 [cP,dH,fO,cC] M1 (F 79 2 GJ (z 0xa1b30e9dd2bae4cf9576dcb97a73) 619 1383 311 4 [cP,dH,fO,cC] M1 (F 79 3 (z 0xe7876e5) (z 0x143661d3ba575c99f2aee7876e5) 626 1393 314 4 [cP,dH,fO,cC] M1 (q []::dd (m P [(k iz 1358 (.str jY 1107)),(k iy 1362 (.int 303 1361)),(kr rY 1372 611),(kr zM 1382 618),(kr GJ 1392 625),(kr (z 0xe7876e5) 1402 632),(kr iw 1403 633),(k n7 1404 .none)]) 2::ks Jc [.ref 593] [.ref 635,.ref 593,.type pW] 634 [] (some (.ref 598)) 1351 1359 Bh::rr 635::rb 635::E 80 UH 638 1407 316 3 [kB,fO,cC] M1 ([])))))
noncomputable def T18:=bf P [SY,fQ,c2,c3,c4,c5,c6,c7,c8,c9,ug,uz,uT,xG,Dr,yq,zG,fj,Bf]
noncomputable def S18:=sh T18 645 1416
theorem p17:Go 79 2 380 ⟨272,0,302,55⟩ ⟨316,0,323,41⟩ S17 S18:=fun w p b os=>by kernel_rfl
noncomputable def UG:=z 0xc78f7f2cb7f86cc3a775fcda7a73
noncomputable def UF:=z 0x63c7bf965bfc3661d3bafedcb97a73
noncomputable def Jb:=z 0xa187a74cbcb773
noncomputable def RV:=RW P++m P [(kr UG 1428 651),(kr UF 1439 658),(kr Jb 1490 689)]
noncomputable def KM:=KN P++tr [(324,0,650),(337,0,657),(345,0,664)]
noncomputable def SX:=u0 (SY P) (RV P) 89 (KM P)
noncomputable def Dn:List Obj:=E 81 UG 645 1416 324 3 [kB,fO,cC,Zb,(z 0xe187974),(z 0xd197664),Os] M1 (E 82 UF 652 1429 337 3 [kB,fO,cC,(z 0xe187974),Os] M1 (q []::rt::dd (m P [(k iz 1447 (.str jY 1107)),(k rT 1449 (.str Jb 1448)),(k iy 1451 (.int 345 1450)),(kr Oi 1462 672),(kr (z 0x197665db97774) 1472 679),(kr (z 0x6ec3b72f3) 1482 686),(kr iw 1483 687)]) 7::q []::g (tr [(347,4,671),(353,4,678),(356,4,685)])::cc Jb 1442 345 662::pn 664 661 M1::F 83 0 Oi (z 0x1430f4e99796ee6bb9f0e5970e4) 666 1452 347 5 [cP,dH,(z 0x1c30f4e99796e),cC,(z 0xe7a776b)] M1 (F 83 1 (z 0x197665db97774) (z 0xa187a74cbcb7735d97665db97774) 673 1463 353 4 [cP,dH,dz,cC] M1 (F 83 2 (z 0x6ec3b72f3) (z 0x2861e9d32f2ddcd76ec3b72f3) 680 1473 356 4 [cP,dH,dz,cC] M1 ([q [],dd (m P [(k iz 1447 (.str jY 1107)),(k iy 1451 (.int 345 1450)),(kr Oi 1462 672),(kr (z 0x197665db97774) 1472 679),(kr (z 0x6ec3b72f3) 1482 686),(kr iw 1483 687),(kr oj 1485 690),(kr m5 1487 691),(k n7 1488 .none)]) 4,ko Jb 689 688 [] 1440 1448,wd oj 1484 689,wn m5 1486 689,rr 689,rb 689])))))
noncomputable def T19:=bf P [SX,fQ,c2,c3,c4,c5,c6,c7,c8,c9,ug,uz,uT,xG,Dr,yq,zG,fj,Bf,Dn]
noncomputable def S19:=sh T19 694 1491
theorem p18:Go 81 3 361 ⟨316,0,323,41⟩ ⟨345,0,357,21⟩ S18 S19:=fun w p b os=>by kernel_rfl
noncomputable def Ja:=z 0x47d3db2f2
noncomputable def RU:=RV P++m P [(kr Ja 1520 710)]
noncomputable def KL:=KM P++tr [(358,0,699)]
noncomputable def SW:=u0 (SX P) (RU P) 90 (KL P)
noncomputable def Dq:List Obj:=q []::rt::dd (m P [(k iz 1498 (.str jY 1107)),(k rT 1500 (.str Ja 1499)),(k iy 1502 (.int 358 1501)),(kr Bl 1512 707),(kr iw 1513 708)]) 5::q []::g (tr [(360,4,706)])::cc Ja 1493 358 697::pn 699 696 M1::F 84 0 Bl (z 0x11f4f6cbc9767d3db2ee) 701 1503 360 4 [cP,dH,dz,(z 0x1af2f9)] M1 ([q [],dd (m P [(k iz 1498 (.str jY 1107)),(k iy 1502 (.int 358 1501)),(kr Bl 1512 707),(kr iw 1513 708),(kr oj 1515 711),(kr m5 1517 712),(k n7 1518 .none)]) 4,ko Ja 710 709 [] 1491 1499,wd oj 1514 710,wn m5 1516 710,rr 710,rb 710])
noncomputable def T20:=bf P [SW,fQ,c2,c3,c4,c5,c6,c7,c8,c9,ug,uz,uT,xG,Dr,yq,zG,fj,Bf,Dn,Dq]
noncomputable def S20:=sh T20 715 1521
theorem p19:Go 84 1 224 ⟨345,0,357,21⟩ ⟨358,0,361,17⟩ S19 S20:=fun w p b os=>by kernel_rfl
noncomputable def I9:=z 0x286cc38f2f3
noncomputable def RT:=RU P++m P [(kr I9 1558 738)]
noncomputable def KJ:=KL P++tr [(362,0,720)]
noncomputable def SV:=u0 (SW P) (RT P) 91 (KJ P)
noncomputable def GI:=z 0x73cbb335fd7a7764
noncomputable def GH:=z 0x62c3cf2dfd7a7764
noncomputable def EK:List Obj:=q []::rt::dd (m P [(k iz 1528 (.str jY 1107)),(k rT 1530 (.str I9 1529)),(k iy 1532 (.int 362 1531)),(kr GI 1541 728),(kr GH 1550 735),(kr iw 1551 736)]) 6::q []::g (tr [(364,4,727),(367,4,734)])::cc I9 1523 362 718::pn 720 717 M1::F 85 0 GI (z 0xa1b30e3cbcd773cbb335fd7a7764) 722 1533 364 3 [cP,dH,dz] M1 (F 85 1 GH (z 0xa1b30e3cbcd762c3cf2dfd7a7764) 729 1542 367 3 [cP,dH,dz] M1 ([q [],dd (m P [(k iz 1528 (.str jY 1107)),(k iy 1532 (.int 362 1531)),(kr GI 1541 728),(kr GH 1550 735),(kr iw 1551 736),(kr oj 1553 739),(kr m5 1555 740),(k n7 1556 .none)]) 4,ko I9 738 737 [] 1521 1529,wd oj 1552 738,wn m5 1554 738,rr 738,rb 738]))
noncomputable def T21:=bf P [SV,fQ,c2,c3,c4,c5,c6,c7,c8,c9,ug,uz,uT,xG,Dr,yq,zG,fj,Bf,Dn,Dq,EK]
noncomputable def S21:=sh T21 743 1559
theorem p20:Go 85 1 256 ⟨358,0,361,17⟩ ⟨362,0,368,16⟩ S20 S21:=fun w p b os=>by kernel_rfl
noncomputable def I8:=z 0x8dd7763a5d7665
noncomputable def RS:=RT P++m P [(kr I8 1588 759)]
noncomputable def KI:=KJ P++tr [(369,0,748)]
noncomputable def SR:=u0 (SV P) (RS P) 92 (KI P)
noncomputable def Gu:List Obj:=q []::rt::dd (m P [(k iz 1566 (.str jY 1107)),(k rT 1568 (.str I8 1567)),(k iy 1570 (.int 369 1569)),(kr (z 0x63d1971eb) 1580 756),(kr iw 1581 757)]) 5::q []::g (tr [(371,4,755)])::cc I8 1561 369 746::pn 748 745 M1::F 86 0 (z 0x63d1971eb) (z 0x2375dd8e975d995763d1971eb) 750 1571 371 4 [cP,dH,dz,xP] M1 ([q [],dd (m P [(k iz 1566 (.str jY 1107)),(k iy 1570 (.int 369 1569)),(kr (z 0x63d1971eb) 1580 756),(kr iw 1581 757),(kr oj 1583 760),(kr m5 1585 761),(k n7 1586 .none)]) 4,ko I8 759 758 [] 1559 1567,wd oj 1582 759,wn m5 1584 759,rr 759,rb 759])
noncomputable def T22:=bf P [SR,fQ,c2,c3,c4,c5,c6,c7,c8,c9,ug,uz,uT,xG,Dr,yq,zG,fj,Bf,Dn,Dq,EK,Gu]
noncomputable def S22:=sh T22 764 1589
theorem p21:Go 86 1 224 ⟨362,0,368,16⟩ ⟨369,0,372,16⟩ S21 S22:=fun w p b os=>by kernel_rfl
noncomputable def IZ:=z 0x53d1972f4
noncomputable def RQ:=RS P++m P [(kr IZ 1888 941)]
noncomputable def KH:=KI P++tr [(373,0,769)]
noncomputable def SQ:=u0 (SR P) (RQ P) 93 (KH P)
noncomputable def aaR:=kr (z 0x1932e3d987965c97f7e6) 1689 833
noncomputable def IY:=z 0x62dfd7764
noncomputable def Il:List Obj:=q []::rt::dd (m P [(k iz 1596 (.str jY 1107)),(k rT 1598 (.str IZ 1597)),(k iy 1600 (.int 373 1599)),(kr kR 1614 777),(kr (z 0xcbe3872) 1623 784),(kr (z 0xe7d36f4) 1631 791),(kr (z 0x74f3c32e4) 1639 798),(kr (z 0xe5970e4) 1649 805),(kr (z 0x77c3bba73) 1660 812),(kr rY 1672 819),(kr (z 0xcdd7763) 1681 826),aaR,(kr (z 0x66c3d7674) 1699 840),(kr (z 0xe99766c) 1710 847),(kr zL 1718 854),(kr (z 0xddbfa65) 1727 861),(kr (z 0xd7972f0) 1736 868),(kr (z 0x1932e3d987965) 1745 875),(kr (z 0xdb8796b) 1753 882),(kr (z 0xc5871eb) 1761 889),(kr (z 0x74e5a72e4) 1770 896),(kr Bl 1779 903),(kr GI 1787 910),(kr GH 1795 917),(kr (z 0x73dfb34e4) 1804 924),(kr (z 0x73d1bf974) 1813 931),(kr (z 0xe5bf0e4) 1822 938),(kr iw 1881 939)]) 28::q []::g (tr [(375,4,776),(435,4,783),(438,4,790),(441,4,797),(444,4,804),(447,4,811),(450,4,818),(453,4,825),(456,4,832),(459,4,839),(462,4,846),(468,4,853),(471,4,860),(474,4,867),(479,4,874),(482,4,881),(486,4,888),(489,4,895),(492,4,902),(495,4,909),(498,4,916),(501,4,923),(504,4,930),(507,4,937)])::cc IZ 1591 373 767::pn 769 766 M1::F 87 0 kR (z 0x29e8cb97a2ebf7f4eed3d2fdf) 771 1601 375 8 [cP,kB,(z 0xd1bf9f4),IY,(z 0x67e587868),(z 0x6ec3b72f2),(z 0x64d3873f3),(z 0x6edfd32f3)] M1 (F 87 1 (z 0xcbe3872) (z 0x29e8cb97a2ecbe3872) 778 1615 435 3 [cP,dz,xP] M1 (F 87 2 (z 0xe7d36f4) (z 0x29e8cb97a2ee7d36f4) 785 1624 438 2 [cP,dz] M1 (F 87 3 (z 0x74f3c32e4) (z 0x14f465cbd1774f3c32e4) 792 1632 441 2 [cP,dz] M1 (F 87 4 (z 0xe5970e4) (z 0x29e8cb97a2ee5970e4) 799 1640 444 4 [cP,dz,(z 0x1af2f9),(z 0xc9971ecc3cb2e4)] M1 (F 87 5 (z 0x77c3bba73) (z 0x14f465cbd1777c3bba73) 806 1650 447 5 [cP,fO,cC,Dm,zD] M1 (F 87 6 rY (z 0x29e8cb97a2ecda7a73) 813 1661 450 6 [cP,dz,fO,cC,Dm,zD] M1 (F 87 7 (z 0xcdd7763) (z 0x29e8cb97a2ecdd7763) 820 1673 453 3 [cP,dz,xP] M1 (F 87 8 (z 0x1932e3d987965c97f7e6) (z 0x53d1972f45d932e3d987965c97f7e6) 827 1682 456 2 [cP,(z 0x1cf4e4)] M1 (F 87 9 (z 0x66c3d7674) (z 0x14f465cbd1766c3d7674) 834 1690 459 4 [cP,zD,dz,Ze] M1 (F 87 10 (z 0xe99766c) (z 0x29e8cb97a2ee99766c) 841 1700 462 4 [cP,zD,Dm,Ze,(z 0xc9a70e7)] M1 (F 87 11 zL (z 0x14f465cbd1777dfcb273) 848 1711 468 2 [cP,cC] M1 (F 87 12 (z 0xddbfa65) (z 0x29e8cb97a2eddbfa65) 855 1719 471 3 [cP,(z 0xc7bf265),dz] M1 (F 87 13 (z 0xd7972f0) (z 0x29e8cb97a2ed7972f0) 862 1728 474 3 [cP,dz,cC] M1 (F 87 14 (z 0x1932e3d987965) (z 0x53d1972f45d932e3d987965) 869 1737 479 3 [cP,(z 0x1cf4e4),cC] M1 (F 87 15 (z 0xdb8796b) (z 0x29e8cb97a2edb8796b) 876 1746 482 1 [cP,(z 0xe9bf664)] M1 (F 87 16 (z 0xc5871eb) (z 0x29e8cb97a2ec5871eb) 883 1754 486 2 [cP,(z 0xdb8796b)] M1 (F 87 17 (z 0x74e5a72e4) (z 0x14f465cbd1774e5a72e4) 890 1762 489 3 [cP,dz,xP] M1 (F 87 18 Bl (z 0x14f465cbd1767d3db2ee) 897 1771 492 3 [cP,dz,(z 0x1af2f9)] M1 (F 87 19 GI (z 0x14f465cbd1773cbb335fd7a7764) 904 1780 495 2 [cP,dz] M1 (F 87 20 GH (z 0x14f465cbd1762c3cf2dfd7a7764) 911 1788 498 2 [cP,dz] M1 (F 87 21 (z 0x73dfb34e4) (z 0x14f465cbd1773dfb34e4) 918 1796 501 3 [cP,dz,cC] M1 (F 87 22 (z 0x73d1bf974) (z 0x14f465cbd1773d1bf974) 925 1805 504 3 [cP,dz,cC] M1 (F 87 23 (z 0xe5bf0e4) (z 0x29e8cb97a2ee5bf0e4) 932 1814 507 3 [cP,dz,cC] M1 ([qs 1823 [(z 0x61e7af2f2),(z 0x3161dd9f2e4),IY,(z 0x18b7f5dd92fe4cb8f673),(z 0xc5d79f9),(z 0x31e1d9b32e4),(z 0x18f0ecd9972f3),(z 0x31e8c3a7773),(z 0x18f7eee7d2fe5ddd76f3),(z 0x31efddcfa73),(z 0xc9971ecc3cb2e4),(z 0xc9972f0),(z 0x64d3873f3),(z 0x64e587bee),(z 0x19396fe1c32e4),(z 0x65f1c3973),(z 0x19baeec77f0f4),(z 0x66ebbb1f3),(z 0x67d3db2f2),(z 0x19f66fc587673),(z 0x33efe97f179),(z 0x67e587868),(z 0x67eb87964),(z 0x19fae5e7cf2f3),(z 0x68cb87273),(z 0xd1bf9f4),(z 0x69dda7a73),(z 0x34eee7a7265),(z 0x6aeb933e5),(z 0xd987a65),(z 0x6cc3d32f2),(z 0xd997774),(z 0x6cdfbf873),(z 0x6dc3cb5f3),(z 0x6ec3b72f2),(z 0x6edfd32f3),(z 0x37f7dd97973),(z 0x3861d3cb2e4),(z 0xe187a74cbcb773),(z 0x386cc38f2f3),(z 0x3872cbcf2f4),(z 0x72cb87279),(z 0xe597a73),(z 0x72df87273),(z 0x72dfbfa73),(z 0x396febbb273),(z 0x73cbb3b65e77f7e6),(z 0xe7a73f3),(z 0x73dfcba73),(z 0x73e9b7a73),(z 0x73e9bf873),kB,(z 0x1d30f2cf97a73),(z 0x1d3469e77f7e6),(z 0x3a6fd992feec3b72f3),(z 0x74e5874ec),(z 0x74f3c32f3),(z 0x75dd932f2)],dd (m P [(k iz 1596 (.str jY 1107)),(k iy 1600 (.int 373 1599)),(kr kR 1614 777),(kr (z 0xcbe3872) 1623 784),(kr (z 0xe7d36f4) 1631 791),(kr (z 0x74f3c32e4) 1639 798),(kr (z 0xe5970e4) 1649 805),(kr (z 0x77c3bba73) 1660 812),(kr rY 1672 819),(kr (z 0xcdd7763) 1681 826),aaR,(kr (z 0x66c3d7674) 1699 840),(kr (z 0xe99766c) 1710 847),(kr zL 1718 854),(kr (z 0xddbfa65) 1727 861),(kr (z 0xd7972f0) 1736 868),(kr (z 0x1932e3d987965) 1745 875),(kr (z 0xdb8796b) 1753 882),(kr (z 0xc5871eb) 1761 889),(kr (z 0x74e5a72e4) 1770 896),(kr Bl 1779 903),(kr GI 1787 910),(kr GH 1795 917),(kr (z 0x73dfb34e4) 1804 924),(kr (z 0x73d1bf974) 1813 931),(kr (z 0xe5bf0e4) 1822 938),(kr iw 1881 939),(kr oj 1883 942),(kr m5 1885 943),(k n7 1886 .none)]) 4,ko IZ 941 940 [] 1589 1597,wd oj 1882 941,wn m5 1884 941,rr 941,rb 941]))))))))))))))))))))))))
noncomputable def T23:=bf P [SQ,fQ,c2,c3,c4,c5,c6,c7,c8,c9,ug,uz,uT,xG,Dr,yq,zG,fj,Bf,Dn,Dq,EK,Gu,Il]
noncomputable def S23:=sh T23 946 1889
theorem p22:Go 87 1 1046 ⟨369,0,372,16⟩ ⟨373,0,508,19⟩ S22 S23:=fun w p b os=>by kernel_rfl
noncomputable def uq:=z 0x6bd3bb26bcb9782ec7bf873
noncomputable def M2:Value:=.str uq 1937
noncomputable def UE:=z 0x65f1c395fd7a7764
noncomputable def Oh:=z 0x39f4c3e79dfe9bf664
noncomputable def Og:=z 0x74c3af2dfc5871eb
noncomputable def UD:=z 0x33e9ed9775fd7a7764
noncomputable def ng:=z 0x27f0a5d7665
noncomputable def RP:=(k n5 165 (.str uq 1937)) P::(RQ P).drop 1++m P [(kr UE 1898 952),(kr Oh 1904 957),(kr Og 1910 962),(kr UD 1921 969),(kr (z 0xef87774bf9b4f4) 1936 976),(kr ng 1970 993)]
noncomputable def KG:=KH P++tr [(509,0,951),(524,0,956),(528,0,961),(547,0,968),(560,0,975),(571,0,982)]
noncomputable def SP:=u0 (SQ P) (RP P) 99 (KG P)
noncomputable def uo:=z 0x3965e7d7674
noncomputable def IX:=z 0xd997374
noncomputable def IW:=z 0x72d39f474
noncomputable def c24:List Obj:=E 88 UE 946 1889 509 3 [dH,dz,xP,cC] M1 (G (yo 89) Oh Oh 953 1899 524 2 M1 .none (G (yo 90) Og Og 958 1905 528 2 M1 .none (E 91 UD 963 1911 547 3 [dH,dz,(z 0x1af2f9),(z 0xdb8796b),(z 0x31e8c3a7773)] M1 (E 92 (z 0xef87774bf9b4f4) 970 1922 560 6 [dH,dz,fO,cC,Dm,zD,rY,Zb,(z 0xc7bf265)] M1 (q []::rt::dd (m P [(k iz 1946 (.str uq 1937)),(k rT 1948 (.str ng 1947)),(k iy 1950 (.int 571 1949)),(kr uo 1962 990),(kr iw 1963 991)]) 5::q []::g (tr [(573,4,989)])::cc ng 1941 571 980::pn 982 979 M2::F 94 0 uo (z 0x4fe14baeccabb965e7d7674) 984 1951 573 6 [cP,dH,dz,(z 0x37f0),IX,IW] M2 ([q [],dd (m P [(k iz 1946 (.str uq 1937)),(k iy 1950 (.int 571 1949)),(kr uo 1962 990),(kr iw 1963 991),(kr oj 1965 994),(kr m5 1967 995),(k n7 1968 .none)]) 4,ko ng 993 992 [] 1939 1947,wd oj 1964 993,wn m5 1966 993,rr 993,rb 993]))))))
noncomputable def T24:=bf P [SP,fQ,c2,c3,c4,c5,c6,c7,c8,c9,ug,uz,uT,xG,Dr,yq,zG,fj,Bf,Dn,Dq,EK,Gu,Il,c24]
noncomputable def S24:=sh T24 998 1971
theorem p23:Go 88 7 389 ⟨373,0,508,19⟩ ⟨571,0,574,18⟩ S23 S24:=fun w p b os=>by kernel_rfl
noncomputable def UC:=z 0x1b32f4e77f775db8b2f2
noncomputable def UB:=z 0x6ccbd39dfe997c74
noncomputable def UA:=z 0x1bb2e5c97f775db8b2f2
noncomputable def IV:=z 0x83cb4f4d1b72f4d38e7f0
noncomputable def RO:=RP P++m P [(kr UC 1978 1004),(kr UB 1986 1011),(kr UA 1996 1018),(kr IV 2024 1035),(kr (z 0xdfc2fe6c3d7674) 2035 1044)]
noncomputable def KE:=KG P++tr [(575,0,1003),(577,0,1010),(579,0,1017),(585,0,1024),(591,0,1043)]
noncomputable def SO:=u0 (SP P) (RO P) 104 (KE P)
noncomputable def Li:List Obj:=(c24 P).set 47 (⟨.type A9,none,.cls ⟨ng,[.type pW],[.ref 993,.type pW],992,ng,true,[],[.ref 1035],false,none,false⟩,⟨[none,none,some (.str ng 1939),some (.str ng 1947),some (.builtin Bh),some (.bool true)]⟩⟩)
noncomputable def Nn:List Obj:=E 95 UC 998 1971 575 2 [dH,cC] M2 (E 96 UB 1005 1979 577 2 [dH,cC] M2 (E 97 UA 1012 1987 579 4 [dH,dz,cC,zD] M2 (q [.ref 993]::rt::dd (m P [(k iz 2004 (.str uq 1937)),(k rT 2006 (.str IV 2005)),(k iy 2008 (.int 585 2007)),(kr uo 2020 1032),(kr iw 2021 1033)]) 5::q []::g (tr [(587,4,1031)])::cc IV 1999 585 1022::pn 1024 1021 M2::F 98 0 uo (z 0x107969e9a36e5e9a71cfe0bb965e7d7674) 1026 2009 587 6 [cP,dH,dz,(z 0x37f0),IX,IW] M2 (q []::dd (m P [(k iz 2004 (.str uq 1937)),(k iy 2008 (.int 585 2007)),(kr uo 2020 1032),(kr iw 2021 1033),(k n7 2022 .none)]) 2::ks IV [.ref 993] [.ref 1035,.ref 993,.type pW] 1034 [] (some (.ref 1019)) 1997 2005 Bh::rr 1035::rb 1035::E 99 (z 0xdfc2fe6c3d7674) 1038 2025 591 5 [dH,dz,(z 0x37f0),fO,cC] M2 ([])))))
noncomputable def T25:=bf P [SO,fQ,c2,c3,c4,c5,c6,c7,c8,c9,ug,uz,uT,xG,Dr,yq,zG,fj,Bf,Dn,Dq,EK,Gu,Il,Li,Nn]
noncomputable def S25:=sh T25 1045 2036
theorem p24:Go 95 5 374 ⟨571,0,574,18⟩ ⟨591,0,593,14⟩ S24 S25:=fun w p b os=>by kernel_rfl
noncomputable def IU:=z 0x13f964cbca7f0
noncomputable def RN:=RO P++m P [(kr IU 2065 1061),(kr (z 0x1bf964cbcb2e4) 2076 1070)]
noncomputable def KD:=KE P++tr [(594,0,1050),(604,0,1069)]
noncomputable def SN:=u0 (SO P) (RN P) 106 (KD P)
noncomputable def Lh:List Obj:=(Li P).set 47 (⟨.type A9,none,.cls ⟨ng,[.type pW],[.ref 993,.type pW],992,ng,true,[],[.ref 1035,.ref 1061],false,none,false⟩,⟨[none,none,some (.str ng 1939),some (.str ng 1947),some (.builtin Bh),some (.bool true)]⟩⟩)
noncomputable def NQ:List Obj:=q [.ref 993]::rt::dd (m P [(k iz 2043 (.str uq 1937)),(k rT 2045 (.str IU 2044)),(k iy 2047 (.int 594 2046)),(kr uo 2061 1058),(kr iw 2062 1059)]) 5::q []::g (tr [(596,4,1057)])::cc IU 2038 594 1048::pn 1050 1047 M2::F 100 0 uo (z 0x27f2c99794fe0bb965e7d7674) 1052 2048 596 6 [cP,dH,dz,(z 0x37f0),IX,IW,fO,cC] M2 (q []::dd (m P [(k iz 2043 (.str uq 1937)),(k iy 2047 (.int 594 2046)),(kr uo 2061 1058),(kr iw 2062 1059),(k n7 2063 .none)]) 2::ks IU [.ref 993] [.ref 1061,.ref 993,.type pW] 1060 [] (some (.ref 1045)) 2036 2044 Bh::rr 1061::rb 1061::E 101 (z 0x1bf964cbcb2e4) 1064 2066 604 3 [dH,fO,cC,(z 0x1bf765),Os] M2 ([]))
noncomputable def T26:=bf P [SN,fQ,c2,c3,c4,c5,c6,c7,c8,c9,ug,uz,uT,xG,Dr,yq,zG,fj,Bf,Dn,Dq,EK,Gu,Il,Lh,Nn,NQ]
noncomputable def S26:=sh T26 1071 2077
theorem p25:Go 100 2 284 ⟨591,0,593,14⟩ ⟨604,0,611,85⟩ S25 S26:=fun w p b os=>by kernel_rfl
noncomputable def IT:=z 0x1178f5c3b27f0
noncomputable def RM:=RN P++m P [(kr IT 2107 1087)]
noncomputable def KC:=KD P++tr [(612,0,1076)]
noncomputable def SM:=u0 (SN P) (RM P) 107 (KC P)
noncomputable def nM:List Obj:=(Lh P).set 47 (⟨.type A9,none,.cls ⟨ng,[.type pW],[.ref 993,.type pW],992,ng,true,[],[.ref 1035,.ref 1061,.ref 1087],false,none,false⟩,⟨[none,none,some (.str ng 1939),some (.str ng 1947),some (.builtin Bh),some (.bool true)]⟩⟩)
noncomputable def Rm:List Obj:=q [.ref 993]::rt::dd (m P [(k iz 2084 (.str uq 1937)),(k rT 2086 (.str IT 2085)),(k iy 2088 (.int 612 2087)),(kr uo 2103 1084),(kr iw 2104 1085)]) 5::q []::g (tr [(614,4,1083)])::cc IT 2079 612 1074::pn 1076 1073 M2::F 102 0 uo (z 0x22f1eb8764fe0bb965e7d7674) 1078 2089 614 6 [cP,dH,dz,(z 0x37f0),IX,IW,fO,cC,(z 0x1bf765)] M2 ([q [],dd (m P [(k iz 2084 (.str uq 1937)),(k iy 2088 (.int 612 2087)),(kr uo 2103 1084),(kr iw 2104 1085),(k n7 2105 .none)]) 2,ks IT [.ref 993] [.ref 1087,.ref 993,.type pW] 1086 [] (some (.ref 1071)) 2077 2085 Bh,rr 1087,rb 1087])
noncomputable def T27:=bf P [SM,fQ,c2,c3,c4,c5,c6,c7,c8,c9,ug,uz,uT,xG,Dr,yq,zG,fj,Bf,Dn,Dq,EK,Gu,Il,nM,Nn,NQ,Rm]
noncomputable def S27:=sh T27 1090 2108
theorem p26:Go 102 1 252 ⟨604,0,611,85⟩ ⟨612,0,622,22⟩ S26 S27:=fun w p b os=>by kernel_rfl
noncomputable def Bk:=z 0x35e9dd935e5cbc1763cbe3872
noncomputable def M3:Value:=.str Bk 2152
noncomputable def IS:=z 0x2169dd87979a5d7665
noncomputable def Uz:=z 0x18b4eec3cbcdfd7a7764
noncomputable def RL:=(k n5 165 (.str Bk 2152)) P::(RM P).drop 1++m P [(kr IS 2141 1113),(kr Uz 2151 1122)]
noncomputable def KB:=KC P++tr [(623,0,1095),(630,0,1121)]
noncomputable def SK:=u0 (SM P) (RL P) 109 (KB P)
noncomputable def Lm:List Obj:=(Dr P).set 16 (⟨.type A9,none,.cls ⟨kq,[.type pW],[.ref 446,.type pW],445,kq,true,[],[.ref 1113],false,none,false⟩,⟨[none,none,some (.str kq 1111),some (.str kq 1119),some (.builtin Bh),some (.bool true)]⟩⟩)
noncomputable def TV:List Obj:=q [.ref 446]::rt::dd (m P [(k iz 2115 (.str uq 1937)),(k rT 2117 (.str IS 2116)),(k iy 2119 (.int 623 2118)),(kr kR 2126 1103),(kr mU 2136 1110),(kr iw 2138 1111)]) 6::q []::g (tr [(625,4,1102),(628,4,1109)])::cc IS 2110 623 1093::pn 1095 1092 M2::F 103 0 kR (z 0x10b4eec3cbcd2ebb32aebf7f4eed3d2fdf) 1097 2120 625 1 [cP] M2 (F 103 1 mU (z 0x2169dd87979a5d76655daf4eec97f7e6) 1104 2127 628 4 [cP,dH,dz,xP] M2 (qs 2137 [(z 0x1bf873)]::dd (m P [(k iz 2115 (.str uq 1937)),(k iy 2119 (.int 623 2118)),(kr kR 2126 1103),(kr mU 2136 1110),(kr iw 2138 1111),(k n7 2139 .none)]) 2::ks IS [.ref 446] [.ref 1113,.ref 446,.type pW] 1112 [] (some (.ref 1090)) 2108 2116 Bh::rr 1113::rb 1113::E 104 Uz 1116 2142 630 4 [dH,(z 0xe5d7665),dz,(z 0x37f0)] M2 ([])))
noncomputable def T28:=bf P [SK,fQ,c2,c3,c4,c5,c6,c7,c8,c9,ug,uz,uT,xG,Lm,yq,zG,fj,Bf,Dn,Dq,EK,Gu,Il,nM,Nn,NQ,Rm,TV]
noncomputable def S28:=sh T28 1123 2154
theorem p27:Go 103 3 320 ⟨612,0,622,22⟩ ⟨635,0,635,8⟩ S27 S28:=fun w p b os=>by kernel_rfl
noncomputable def IR:=z 0x13baeda5d7665
noncomputable def RK:=RL P++m P [(kr IR 2179 1139)]
noncomputable def KA:=KB P++tr [(636,0,1128)]
noncomputable def SJ:=u0 (SK P) (RK P) 110 (KA P)
noncomputable def Ll:List Obj:=(Lm P).set 16 (⟨.type A9,none,.cls ⟨kq,[.type pW],[.ref 446,.type pW],445,kq,true,[],[.ref 1113,.ref 1139],false,none,false⟩,⟨[none,none,some (.str kq 1111),some (.str kq 1119),some (.builtin Bh),some (.bool true)]⟩⟩)
noncomputable def YS:List Obj:=q [.ref 446]::rt::dd (m P [(k iz 2161 (.str Bk 2152)),(k rT 2163 (.str IR 2162)),(k iy 2165 (.int 636 2164)),(kr mU 2175 1136),(kr iw 2176 1137)]) 5::q []::g (tr [(638,4,1135)])::cc IR 2156 636 1126::pn 1128 1125 M3::F 106 0 mU (z 0x13baeda5d76655daf4eec97f7e6) 1130 2166 638 4 [cP,dH,dz,xP] M3 ([q [],dd (m P [(k iz 2161 (.str Bk 2152)),(k iy 2165 (.int 636 2164)),(kr mU 2175 1136),(kr iw 2176 1137),(k n7 2177 .none)]) 2,ks IR [.ref 446] [.ref 1139,.ref 446,.type pW] 1138 [] (some (.ref 1123)) 2154 2162 Bh,rr 1139,rb 1139])
noncomputable def T29:=bf P [SJ,fQ,c2,c3,c4,c5,c6,c7,c8,c9,ug,uz,uT,xG,Ll,yq,zG,fj,Bf,Dn,Dq,EK,Gu,Il,nM,Nn,NQ,Rm,TV,YS]
noncomputable def S29:=sh T29 1142 2180
theorem p28:Go 106 1 247 ⟨635,0,635,8⟩ ⟨636,0,639,42⟩ S28 S29:=fun w p b os=>by kernel_rfl
noncomputable def IQ:=z 0x14fa72a5d7665
noncomputable def RJ:=RK P++m P [(kr IQ 2205 1158)]
noncomputable def Kz:=KA P++tr [(640,0,1147)]
noncomputable def SI:=u0 (SJ P) (RJ P) 111 (Kz P)
noncomputable def Lj:List Obj:=(Ll P).set 16 (⟨.type A9,none,.cls ⟨kq,[.type pW],[.ref 446,.type pW],445,kq,true,[],[.ref 1113,.ref 1139,.ref 1158],false,none,false⟩,⟨[none,none,some (.str kq 1111),some (.str kq 1119),some (.builtin Bh),some (.bool true)]⟩⟩)
noncomputable def Zz:List Obj:=q [.ref 446]::rt::dd (m P [(k iz 2187 (.str Bk 2152)),(k rT 2189 (.str IQ 2188)),(k iy 2191 (.int 640 2190)),(kr mU 2201 1155),(kr iw 2202 1156)]) 5::q []::g (tr [(642,4,1154)])::cc IQ 2182 640 1145::pn 1147 1144 M3::F 107 0 mU (z 0x14fa72a5d76655daf4eec97f7e6) 1149 2192 642 4 [cP,dH,dz,xP] M3 ([q [],dd (m P [(k iz 2187 (.str Bk 2152)),(k iy 2191 (.int 640 2190)),(kr mU 2201 1155),(kr iw 2202 1156),(k n7 2203 .none)]) 2,ks IQ [.ref 446] [.ref 1158,.ref 446,.type pW] 1157 [] (some (.ref 1142)) 2180 2188 Bh,rr 1158,rb 1158])
noncomputable def T30:=bf P [SI,fQ,c2,c3,c4,c5,c6,c7,c8,c9,ug,uz,uT,xG,Lj,yq,zG,fj,Bf,Dn,Dq,EK,Gu,Il,nM,Nn,NQ,Rm,TV,YS,Zz]
noncomputable def S30:=sh T30 1161 2206
theorem p29:Go 107 1 247 ⟨636,0,639,42⟩ ⟨640,0,643,42⟩ S29 S30:=fun w p b os=>by kernel_rfl
noncomputable def Of:=z 0x35e9dd935e5cbc1768dfcfa73
noncomputable def M4:Value:=.str Of 2232
noncomputable def IP:=z 0xafbf964a5d7665
noncomputable def RI:=(k n5 165 (.str Of 2232)) P::(RJ P).drop 1++m P [(kr IP 2231 1177),(k (z 0x1367d3a97e94fab3a253) 2235 (.int 200 2234)),(k (z 0x1367d3a97e9c883422d3) 2237 (.int 40 2236))]
noncomputable def Ky:=Kz P++tr [(644,0,1166)]
noncomputable def SH:=u0 (SI P) (RI P) 114 (Ky P)
noncomputable def Aj:List Obj:=(Lj P).set 16 (⟨.type A9,none,.cls ⟨kq,[.type pW],[.ref 446,.type pW],445,kq,true,[],[.ref 1113,.ref 1139,.ref 1158,.ref 1177],false,none,false⟩,⟨[none,none,some (.str kq 1111),some (.str kq 1119),some (.builtin Bh),some (.bool true)]⟩⟩)
noncomputable def c31:List Obj:=q [.ref 446]::rt::dd (m P [(k iz 2213 (.str Bk 2152)),(k rT 2215 (.str IP 2214)),(k iy 2217 (.int 644 2216)),(kr mU 2227 1174),(kr iw 2228 1175)]) 5::q []::g (tr [(646,4,1173)])::cc IP 2208 644 1164::pn 1166 1163 M3::F 108 0 mU (z 0xafbf964a5d76655daf4eec97f7e6) 1168 2218 646 4 [cP,dH,dz,xP] M3 ([q [],dd (m P [(k iz 2213 (.str Bk 2152)),(k iy 2217 (.int 644 2216)),(kr mU 2227 1174),(kr iw 2228 1175),(k n7 2229 .none)]) 2,ks IP [.ref 446] [.ref 1177,.ref 446,.type pW] 1176 [] (some (.ref 1161)) 2206 2214 Bh,rr 1177,rb 1177])
noncomputable def T31:=bf P [SH,fQ,c2,c3,c4,c5,c6,c7,c8,c9,ug,uz,uT,xG,Aj,yq,zG,fj,Bf,Dn,Dq,EK,Gu,Il,nM,Nn,NQ,Rm,TV,YS,Zz,c31]
noncomputable def S31:=sh T31 1180 2238
theorem p30:Go 108 4 274 ⟨640,0,643,42⟩ ⟨654,0,654,11⟩ S30 S31:=fun w p b os=>by kernel_rfl
noncomputable def IM:=z 0xa9a34ee
noncomputable def RH:=RI P++m P [(kr IM 2423 1322)]
noncomputable def Kx:=Ky P++tr [(655,0,1185)]
noncomputable def SG:=u0 (SH P) (RH P) 115 (Kx P)
noncomputable def aaQ:=kr (z 0xe1d7a5fc997365e5cb2e4) 2273 1207
noncomputable def aaP:=kr (z 0x39e8c3c32dfcda7a73) 2353 1270
noncomputable def aaO:=kr (z 0x3669e7d2fe9dd932f8) 2395 1305
noncomputable def aaN:=kr (z 0x197972dfcafe3d9879f3) 2410 1319
noncomputable def c32:List Obj:=q []::rt::dd (m P [(k iz 2245 (.str Of 2232)),(k rT 2247 (.str IM 2246)),(k iy 2249 (.int 655 2248)),(kr kR 2257 1193),(kr (z 0x66dfcb1e5) 2265 1200),aaQ,(kr (z 0xe1d7a5fc7bf764) 2282 1214),(kr (z 0x1b30f9bfcb7f7) 2291 1221),(kr IY 2299 1228),(kr (z 0x73d187865) 2307 1235),(kr rY 2316 1242),(kr zM 2325 1249),(kr (z 0x34eecd97973) 2335 1256),(kr (z 0xe9c365fcda7a73) 2344 1263),aaP,(kr (z 0x3875e97f4ee) 2362 1277),(kr (z 0x1bfbeebfcf4e7) 2371 1284),(kr (z 0x336fe59f2f4) 2378 1291),(kr (z 0x6cd3cfa5fe1cb7f0) 2387 1298),aaO,(kr (z 0xcbb32edbfb72f4) 2403 1312),aaN,(kr iw 2416 1320)]) 23::q []::g (tr [(657,4,1192),(664,4,1199),(667,4,1206),(670,4,1213),(673,4,1220),(676,4,1227),(679,4,1234),(682,4,1241),(685,4,1248),(688,4,1255),(691,4,1262),(694,4,1269),(697,4,1276),(700,4,1283),(703,4,1290),(706,4,1297),(709,4,1304),(712,4,1311),(715,4,1318)])::cc IM 2240 655 1183::pn 1185 1182 M4::F 112 0 kR (z 0x54d1a772ebf7f4eed3d2fdf) 1187 2250 657 2 [cP,kB] M4 (F 112 1 (z 0x66dfcb1e5) (z 0x2a68d3b9766dfcb1e5) 1194 2258 664 2 [cP,cC] M4 (F 112 2 (z 0xe1d7a5fc997365e5cb2e4) (z 0x54d1a772ee1d7a5fc997365e5cb2e4) 1201 2266 667 2 [cP,zC] M4 (F 112 3 (z 0xe1d7a5fc7bf764) (z 0x54d1a772ee1d7a5fc7bf764) 1208 2274 670 3 [cP,zC,(z 0x1b70f0e1a7767)] M4 (F 112 4 (z 0x1b30f9bfcb7f7) (z 0xa9a34ee5db30f9bfcb7f7) 1215 2283 673 3 [cP,zC,(z 0x1b70f0e1a7767)] M4 (F 112 5 IY (z 0x2a68d3b9762dfd7764) 1222 2292 676 2 [cP,cC] M4 (F 112 6 (z 0x73d187865) (z 0x2a68d3b9773d187865) 1229 2300 679 2 [cP,cC] M4 (F 112 7 rY (z 0x54d1a772ecda7a73) 1236 2308 682 3 [cP,fO,cC] M4 (F 112 8 zM (z 0x54d1a772ed9a72f3) 1243 2317 685 3 [cP,fO,cC] M4 (F 112 9 (z 0x34eecd97973) (z 0x153469dcbb4eecd97973) 1250 2326 688 4 [cP,(z 0xe1a7273),(z 0x63d1971eb),(z 0x197c74)] M4 (F 112 10 (z 0xe9c365fcda7a73) (z 0x54d1a772ee9c365fcda7a73) 1257 2336 691 3 [cP,fO,cC] M4 (F 112 11 (z 0x39e8c3c32dfcda7a73) (z 0x153469dcbb9e8c3c32dfcda7a73) 1264 2345 694 3 [cP,fO,cC] M4 (F 112 12 (z 0x3875e97f4ee) (z 0x153469dcbb875e97f4ee) 1271 2354 697 3 [cP,cC,(z 0x1b70f0e1a7767)] M4 (F 112 13 (z 0x1bfbeebfcf4e7) (z 0xa9a34ee5dbfbeebfcf4e7) 1278 2363 700 3 [cP,fO,(z 0x32f2c3cf2e4)] M4 (F 112 14 (z 0x336fe59f2f4) (z 0x153469dcbb36fe59f2f4) 1285 2372 703 1 [cP] M4 (F 112 15 (z 0x6cd3cfa5fe1cb7f0) (z 0x2a68d3b976cd3cfa5fe1cb7f0) 1292 2379 706 3 [cP,cC,Du] M4 (F 112 16 (z 0x3669e7d2fe9dd932f8) (z 0x153469dcbb669e7d2fe9dd932f8) 1299 2388 709 2 [cP,cC] M4 (F 112 17 (z 0xcbb32edbfb72f4) (z 0x54d1a772ecbb32edbfb72f4) 1306 2396 712 2 [cP,(z 0x6bd3bb273)] M4 (F 112 18 (z 0x197972dfcafe3d9879f3) (z 0xa9a34ee5d97972dfcafe3d9879f3) 1313 2404 715 1 [cP] M4 ([qs 2411 [(z 0xc9972f0),(z 0x1b34e2),(z 0x6ddfcfa5fc9972f0),(z 0x1b77f3e97f96febbb273),kB],dd (m P [(k iz 2245 (.str Of 2232)),(k iy 2249 (.int 655 2248)),(kr kR 2257 1193),(kr (z 0x66dfcb1e5) 2265 1200),aaQ,(kr (z 0xe1d7a5fc7bf764) 2282 1214),(kr (z 0x1b30f9bfcb7f7) 2291 1221),(kr IY 2299 1228),(kr (z 0x73d187865) 2307 1235),(kr rY 2316 1242),(kr zM 2325 1249),(kr (z 0x34eecd97973) 2335 1256),(kr (z 0xe9c365fcda7a73) 2344 1263),aaP,(kr (z 0x3875e97f4ee) 2362 1277),(kr (z 0x1bfbeebfcf4e7) 2371 1284),(kr (z 0x336fe59f2f4) 2378 1291),(kr (z 0x6cd3cfa5fe1cb7f0) 2387 1298),aaO,(kr (z 0xcbb32edbfb72f4) 2403 1312),aaN,(kr iw 2416 1320),(kr oj 2418 1323),(kr m5 2420 1324),(k n7 2421 .none)]) 4,ko IM 1322 1321 [] 2238 2246,wd oj 2417 1322,wn m5 2419 1322,rr 1322,rb 1322])))))))))))))))))))
noncomputable def T32:=bf P [SG,fQ,c2,c3,c4,c5,c6,c7,c8,c9,ug,uz,uT,xG,Aj,yq,zG,fj,Bf,Dn,Dq,EK,Gu,Il,nM,Nn,NQ,Rm,TV,YS,Zz,c31,c32]
noncomputable def S32:=sh T32 1327 2424
theorem p31:Go 112 1 812 ⟨654,0,654,11⟩ ⟨655,0,716,17⟩ S31 S32:=fun w p b os=>by kernel_rfl
noncomputable def M6:Value:=.str (z 0x6cc3deff8eec18b3617d831) 2424
noncomputable def Uy:=z 0x5fd987bdfe1d766c
noncomputable def Ux:=z 0x2fecc3defe3c3bb7ee
noncomputable def Oe:=z 0x5fd987bdfd7a7764
noncomputable def Od:=z 0x17f661ef7f775db8b2f2
noncomputable def Uw:=z 0x17f661ef7fb61d9d72f3
noncomputable def Uv:=z 0x5fd987bdfc5879e5
noncomputable def Oc:=z 0x2fecc3defedcb97a73
noncomputable def Oa:=z 0x5fd987bdfcfbf2f3
noncomputable def RG:=(k n5 165 (.str (z 0x6cc3deff8eec18b3617d831) 2424)) P::(RH P).drop 1++m P [(kr (z 0xbfb30f7bfbfbee) 2490 1327),(kr (z 0x2fecc3deff7dfcb273) 2505 1328),(kr Uy 2515 1335),(kr Ux 2528 1342),(kr Oe 2534 1347),(kr (z 0xbfb30f7bfbf765) 2544 1354),(kr Od 2550 1359),(kr Uw 2564 1366),(kr Uv 2575 1373),(kr Oc 2581 1378),(kr Oa 2587 1383)]
noncomputable def Kw:=Kx P++tr [(720,0,1334),(727,0,1341),(736,0,1346),(748,0,1353),(765,0,1358),(767,0,1365),(776,0,1372),(782,0,1377),(789,0,1382)]
noncomputable def SD:=u0 (SG P) (RG P) 126 (Kw P)
noncomputable def GG:=z 0xefbf964
noncomputable def c33(P:Params):List Obj:=q [.int 0 2426,.int 0 2427,.int 0 2428,.int 1 2429,.int 0 2430,.int 4 2431,.int 2 2432,.int 0 2433,.int 4 2434,.int 3 2435,.int 0 2436,.int 6 2437,.int 11 2438,.int 4 2439,.int 0 2440,.int 0 2441,.int 6 2442,.int 0 2443,.int 5 2444,.int 1 2445,.int 2 2446,.int 5 2447,.int 1 2448,.int 6 2449,.int 0 2450,.int 0 2451,.int 3 2452,.int 0 2453,.int 3 2454,.int 9 2455,.int 1 2456,.int 2 2457,.int 1 2458,.int 0 2459,.int 3 2460,.int 2 2461,.int 0 2462,.int 5 2463,.int 1 2464,.int 0 2465,.int 4 2466,.int 7 2467,.int 3 2468,.int 2 2469,.int 1 2470,.int 1 2471,.int 3 2472,.int 0 2473,.int 3 2474,.int 6 2475,.int 0 2476,.int 3 2477,.int 1 2478,.int 2 2479,.int 0 2480,.int 9 2481,.int 12 2482,.int 3 2483,.int 1 2484,.int 4 2485,.int 5 2486,.int 5 2487,.int 2 2488,.int 6 2489]::qs 2491 [(z 0x4e),(z 0x53),(z 0x54),(z 0x46),(z 0x30),(z 0x55),(z 0x56),(z 0x4f),(z 0x4c),(z 0x3730),(z 0x3731),(z 0x39e1),(z 0x32c1),(z 0x32c2)]::E 116 Uy 1329 2506 720 2 [fO,(z 0x6e),Dm,(z 0x78)] M6 (E 117 Ux 1336 2516 727 2 [zL,Dt,(z 0xd197664),(z 0xc5bfa68),(z 0x1bfaf4),GG,ZU] M6 (G (yo 118) Oe Oe 1343 2529 736 1 M6 .none (E 119 (z 0xbfb30f7bfbf765) 1348 2535 748 3 [kB,GG,Dt,(z 0xe9bf664)] M6 (G (yo 120) Od Od 1355 2545 765 2 M6 .none (E 121 Uw 1360 2551 767 1 [rZ,(z 0x1bbaedc597973),(z 0x74cbe3a73),(z 0xdbbf9f4),(z 0x68dfb3273),(z 0x1bfaf4),GG,Dt] M6 (E 122 Uv 1367 2565 776 1 [rZ,(z 0x3be8dfb32f3),zL,GG,Dt] M6 (G (yo 123) Oc Oc 1374 2576 782 3 M6 .none (G (yo 124) Oa Oa 1379 2582 789 3 M6 .none ([])))))))))
noncomputable def T33:=bf P [SD,fQ,c2,c3,c4,c5,c6,c7,c8,c9,ug,uz,uT,xG,Aj,yq,zG,fj,Bf,Dn,Dq,EK,Gu,Il,nM,Nn,NQ,Rm,TV,YS,Zz,c31,c32,c33]
noncomputable def S33:=sh T33 1384 2588
theorem p32:Go 113 12 380 ⟨655,0,716,17⟩ ⟨789,0,795,67⟩ S32 S33:=fun w p b os=>by kernel_rfl
noncomputable def N9:=z 0xbfb30f7bfbf964cbcb2e4
noncomputable def Uu:=z 0x5fd987bdfd9874e4
noncomputable def Ut:=z 0x5fd987bdfd9970e6
noncomputable def Us:=z 0xbfb30f7bfb34f4cbcb0ec
noncomputable def Ur:=z 0x5fd987bdfe7a7265
noncomputable def Uq:=z 0x5fd987bdfe9bf664
noncomputable def N8:=z 0x2fecc3defe1e7af2e4
noncomputable def Up:=z 0x5fd987bdfef8766b
noncomputable def Uo:=z 0x2fecc3deff3d1972f4
noncomputable def GF:=z 0x1b30f7
noncomputable def aeF:=u0 (SD P) (RG P++m P [(kr N9 2593 1388),(kr Uu 2605 1395),(kr Ut 2619 1402),(kr Us 2629 1409),(kr Ur 2641 1416),(kr Uq 2651 1423),(kr N8 2657 1428),(kr Up 2669 1435),(kr Uo 2682 1442),(kr GF 2688 1447)]) 136 (Kw P++tr [(796,0,1387),(803,0,1394),(808,0,1401),(821,0,1408),(824,0,1415),(835,0,1422),(838,0,1427),(853,0,1434),(873,0,1441),(885,0,1446)])
noncomputable def c34(P:Params):List Obj:=G (yo 125) N9 N9 1384 2588 796 3 M6 .none (E 126 Uu 1389 2594 803 5 [fO,rZ,(z 0x61),(z 0xd7a7273),(z 0x1bfbee),dz] M6 (E 127 Ut 1396 2606 808 1 [fO,dz,rZ,zD,(z 0x1a37f7),GG,(z 0x77d1bf665),(z 0x1e72f3)] M6 (E 128 Us 1403 2620 821 1 [fO,rZ,(z 0x61),GG] M6 (E 129 Ur 1410 2630 824 1 [fO,(z 0x1a37f7),IX,IW,(z 0x1bfbee),(z 0xe7a73ee)] M6 (E 130 Uq 1417 2642 835 4 [fO,zD,Dm,zL] M6 (G (yo 131) N8 N8 1424 2652 838 2 M6 .none (E 132 Up 1429 2658 853 2 [fO,(z 0x65),dz,rZ,(z 0xe7a7265),zD] M6 (E 133 Uo 1436 2670 873 1 [(z 0x65e3d70ec),kB,(z 0xc9971ec),dH,(z 0xe5d7665),(z 0x6fe5932f2),(z 0x77dfcb279)] M6 (G (yo 134) GF GF 1443 2683 885 1 M6 .none ([]))))))))))
noncomputable def bZ:=bf P [aeF,fQ,c2,c3,c4,c5,c6,c7,c8,c9,ug,uz,uT,xG,Aj,yq,zG,fj,Bf,Dn,Dq,EK,Gu,Il,nM,Nn,NQ,Rm,TV,YS,Zz,c31,c32,c33,c34]
noncomputable def ZB:=sh bZ 1448 2689
theorem p33:Go 125 10 316 ⟨789,0,795,67⟩ ⟨885,0,912,92⟩ S33 ZB:=fun w p b os=>by kernel_rfl
noncomputable def iQ:List Str:=[(z 0x5fef8766c),(z 0x55bf06759),(z 0x2adf8b3aacd),Gk,Zh,Zg,Zf,Zd,Zc,(z 0x59bf2e2d9),(z 0x2cdf853e7cc),(z 0x59bf4ea52),(z 0x59bf3aacd),(z 0x2cdf8b3aacd),(z 0x166fd59d267ce),(z 0x59bf3e14a),(z 0x166fc1a54a0d9),(z 0x59bf5284c),(z 0x106759),(z 0x15674b9d3ebce),(z 0x4e8b5a2d2),(z 0xad3e4c4),(z 0x559d122c6),(z 0x4eab32654),(z 0x29d4a526747),(z 0x27559b0a2d2),(z 0x11a0cca716fd4),(z 0x2a52ab16fd4),(z 0x13e14a8b0ea54),(z 0x10a7cf99160ce),(z 0x116952),(z 0x11a945a722fc6),(z 0x11a945a722fd4),(z 0x285fa5160c49f3a659),(z 0x225f8b3aacd),(z 0x4d8362fd59d267ce),(z 0x2349a54ea5fa53ebd3),(z 0x1360d2971625fa53ebd3),Za,Jg,mU,Ov,Ou,Ot,Oq,(z 0xdd97bdfc9971ec),(z 0xe187974e77f7e6),UM,UL,UK,UJ,(z 0x3a6fe17f7e6),Oo,(z 0xd3cefe6e5979e8),UI,On,Om,(z 0xefa37eccb7f7e6),Oj,(z 0x4bbf3aacd),(z 0x4bbf4ea52),(z 0x25dfa94aac5),(z 0x12efc683329c5),(z 0x25df9d5664c),(z 0x12efd59d122c6),(z 0x25df9d066c5),(z 0x977e1499d06959),(z 0x274f8916fd79f4a253),Jf,(z 0xe9df4e7),(z 0x4d9f4ea5f89162d0),kq,Je,Jd,zN,Jc,UH,UG,UF,Jb,Ja,I9,I8,IZ,UE,Oh,Og,UD,(z 0xef87774bf9b4f4),ng,UC,UB,UA,IV,(z 0xdfc2fe6c3d7674),IU,(z 0x1bf964cbcb2e4),IT,IS,Uz,IR,IQ,IP,(z 0x1367d3a97e94fab3a253),(z 0x1367d3a97e9c883422d3),IM,(z 0xbfb30f7bfbfbee),(z 0x2fecc3deff7dfcb273),Uy,Ux,Oe,(z 0xbfb30f7bfbf765),Od,Uw,Uv,Oc,Oa,N9,Uu,Ut,Us,Ur,Uq,N8,Up,Uo]
end
noncomputable abbrev zY:String->Option Builtin:=PySem.W.Fast.tw14364793385576792824
theorem Sw:treeTable=zY:=PySem.W.Fast.te14364793385576792824
theorem agQ: @segRunT=PySem.W.Fast.tw10110043849684766642:=PySem.W.Fast.te10110043849684766642
theorem conv{p:Program}{w:World}{N:Nat}{s:SharedT}{t:Thread}{r}(h:PySem.W.Fast.tw10110043849684766642 zY p w 11 EL 1 N s t=r):segRunT treeTable p w 11 EL 1 N s t=r:=by
 rw[Sw,agQ];exact h
theorem step{i c N M:Nat}{q q':Pos}{S S':World->OsState->SharedT}{w:World}{os:OsState}{r:Shared}(h:Go i c N q q' S S')
  (k:topRun treeTable pw w 11 EL M (S' w os).abs (restOf (pb.drop (i+c)) ai (.body pb ai) q' [fr])=some r):
  topRun treeTable pw w 11 EL (N+M) (S w os).abs (restOf (pb.drop i) ai (.body pb ai) q [fr])=some r:=by
 have e:=piece_app (segRun_of (conv (h w pw pb os))) k
 rw[<-List.drop_drop,List.take_append_drop]at e
 exact e
theorem V7:pb.drop 135=[]:=by kernel_rfl
theorem fm(w:World)(os:OsState):topRun treeTable pw w 11 EL 2 (ZB w os).abs (restOf (pb.drop 135) ai (.body pb ai) ⟨885,0,912,92⟩ [fr])=some (ZB w os).abs:=by
 rw[V7]
 exact piece_nil (by kernel_rfl)
noncomputable abbrev IE:Nat:=(288+(251+(249+(260+(288+(401+(299+(297+(373+(387+(140+(1635+(282+(224+(294+(257+(529+(380+(361+(224+(256+(224+(1046+(389+(374+(284+(252+(320+(247+(247+(274+(812+(380+(316+2))))))))))))))))))))))))))))))))))
theorem Pb(w:World)(os:OsState):topRun treeTable pw w 11 EL IE (S0 w os).abs (restOf (pb.drop 0) ai (.body pb ai) ⟨0,0,0,0⟩ [fr])=some (ZB w os).abs:=
 step p0 (step p1 (step p2 (step p3 (step p4 (step p5 (step p6 (step p7 (step p8 (step p9 (step p10 (step p11 (step p12 (step p13 (step p14 (step p15 (step p16 (step p17 (step p18 (step p19 (step p20 (step p21 (step p22 (step p23 (step p24 (step p25 (step p26 (step p27 (step p28 (step p29 (step p30 (step p31 (step p32 (step p33 (fm w os))))))))))))))))))))))))))))))))))
theorem eGo: @topGo=PySem.W.Fast.tw15667345088766844465:=PySem.W.Fast.te15667345088766844465
theorem agR: @denote=PySem.W.Fast.tw11892475500146522536:=PySem.W.Fast.te11892475500146522536
noncomputable abbrev s00(w:World)(os:OsState):Shared:=⟨boot_heap w.params,⟨[]⟩,boot_drawn,boot_toks,os⟩
theorem LX(w:World)(os:OsState):PySem.W.Fast.tw15667345088766844465 zY pw w 11 EL 12 (s00 w os) (topStub pw)=
  some ((S0 w os).abs,⟨PySem.W.Fast.tw11892475500146522536 zY (.body pb ai),.body pb ai,⟨0,0,0,0⟩,[fr]⟩):=by kernel_rfl
theorem pre(w:World)(os:OsState):topGo treeTable pw w 11 EL 12 (s00 w os) (topStub pw)=some ((S0 w os).abs,⟨denote treeTable (.body pb ai),.body pb ai,⟨0,0,0,0⟩,[fr]⟩):=by
 rw[Sw,eGo,agR];exact LX w os
theorem aeH(w:World)(os:OsState):segRun treeTable pw w 11 EL 1 1 (S0 w os).abs (blockOf pb ai (.body pb ai) ⟨0,0,0,0⟩ [fr])=some (.next,(S0 w os).abs,.body pb ai,⟨0,0,0,0⟩):=by kernel_rfl
theorem Pa(w:World)(os:OsState):topRun treeTable pw w 11 EL (12+(1+IE)) (s00 w os) (topStub pw)=some (ZB w os).abs:=
 go_top (pre w os) (piece_block (aeH w os) (Pb w os))
noncomputable abbrev lP:OpenLaw:=PySem.Challenge.rw_xw0130_01
noncomputable def qv:Program:=view pw [134]
noncomputable def EQ:Stmt:=yo 134
noncomputable def nH:DefRec:=⟨GF,fP EQ,fB EQ,fS EQ,match EQ with| .FunctionDef _ _ _ _ _ _ _ _ _ p=>p|_=>⟨0,0,0,0⟩⟩
theorem Pz:defOf qv lP.row.name=some (nH,[]):=by kernel_rfl
theorem Px:lP.row.prog.theDef lP.row.name=some (nH.params,nH.body,nH.scope):=by kernel_rfl
theorem Wm:kwWritten? nH.params.kwonlyargs nH.params.kw_defaults=some []:=by kernel_rfl
theorem ok1:(chainsOk qv&&opensWell lP.row.prog&&(frees lP.row.toRowW&&lP.row.within.isEmpty))=true:=by kernel_rfl
noncomputable def H1(P:Params):Heap:=absHeap (bZ P) 1448 {}
noncomputable abbrev s1(w:World)(os:OsState):Shared:=⟨H1 w.params,⟨[]⟩,{},2689,os⟩
theorem sz(w:World):((boot_heap w.params).isNs mainGlobals&&(⟨[]⟩:Array GenState).size==0,(boot_heap w.params).objs.size,(boot_heap w.params).nsMap mainGlobals "__annotations__")=(true,11,EL):=by kernel_rfl
theorem adb:opening pw=plainProg pw.main.scope.names:=by kernel_rfl
theorem Xd(s:Shared):fenceModules? pw s=some s:=by kernel_rfl
theorem ae3(w:World)(os:OsState):topRun treeTable pw w 11 EL (12+(1+IE)) ⟨boot_heap w.params,⟨[]⟩,boot_drawn,boot_toks,os⟩ (topStub pw)=some ⟨H1 w.params,⟨[]⟩,{},2689,os⟩:=
 (Pa w os).trans (by kernel_rfl)
theorem PV:Nat.ble (12+(1+IE)) 30000=true:=by kernel_rfl
theorem aeG:∀w:World,(fencedOpening treeTable pw w 30000).map (fun s=>(s.heap,s.gens,s.drawn,s.toks))=some (boot_heap w.params,Array.mk [],boot_drawn,boot_toks):=
 boot_open adb (by kernel_rfl) Xd
theorem Wk(w:World):(fun os:OsState=>((staticsOk (importedModules pw.main.body) (boot_heap w.params) (H1 w.params)&&namesBound pw (H1 w.params)&&gensDone ⟨H1 w.params,⟨[]⟩,{},2689,os⟩&&laidKept (boot_heap w.params) (H1 w.params)),
    openSeen qv iQ (importedModules pw.main.body) (fun Z=>true) true ⟨H1 w.params,⟨[]⟩,{},2689,os⟩,(fun s:Shared=>s.heap) ⟨H1 w.params,⟨[]⟩,{},2689,os⟩))=fun Z=>(true,openGood qv iQ,(fun w:World=>H1 w.params) w):=by kernel_rfl
theorem adi:LeftO pw qv iQ (fun Z=>true) (fun s=>s.heap) (fun w=>H1 w.params) 30000 true:=
 @LeftO.of_pieces pw qv iQ (fun Z=>true) Heap (fun s=>s.heap) (fun w=>H1 w.params) 30000 true boot_heap H1 ⟨[]⟩ ⟨[]⟩ boot_drawn {} boot_toks 2689 11 EL (12+(1+IE))
  aeG sz ae3 PV Wk
theorem h_and{a b:Bool}(h:a=true)(k:b=true):(a&&b)=true:=by rw[h,k];rfl
theorem Hq:PySem.W.Fast.tw9446332074065402090 lP=true:=by
 delta PySem.W.Fast.tw9446332074065402090
 repeat' with_reducible refine h_and ?_ ?_
 all_goals as_aux_lemma=>kernel_rfl
theorem ae2:lP.wellSaid=true:=by
 have e: @OpenLaw.wellSaid=PySem.W.Fast.tw9446332074065402090:=PySem.W.Fast.te9446332074065402090
 rw[e];exact Hq
theorem aeI:lP.row.prog.bare:=⟨by kernel_rfl,by kernel_rfl,by kernel_rfl,by kernel_rfl,by kernel_rfl,by kernel_rfl⟩
theorem ac7:lP.row.toRowW.promised:=⟨[.list []],by kernel_rfl,by kernel_rfl⟩
noncomputable abbrev rN(w:World)(h:Heap):Prop:=∀b o,(H1 w.params).get? b=some o->h.get? b=some o
noncomputable abbrev wI:Prop:=WalkO qv iQ (fun Z Z=>True) rN lP.row.toRowW nH [] fun f vs=>PySem.call f vs
theorem hY1(w:World)(s:Shared)(e:(fun s:Shared=>s.heap) s=(fun w:World=>H1 w.params) w):rN w s.heap:=fun b o h=>by
 have e':s.heap=H1 w.params:=e
 rw[e'];exact h
theorem HO(call:wI)(k1:lP.row.wellSaid=true):lP.row.Holds:=
 @holds_open lP.row qv iQ (fun Z=>true) (fun Z Z=>True) Heap (fun s=>s.heap) (fun w=>H1 w.params) rN nH [] 30000 adi
  hY1 (fun w h h' y k b o e=>k b o (y b o e)) (fun Z Z=>trivial) (fun Z Z Z Z Z=>trivial) Pz Px Wm (fun s Z=>recFacts_nil rfl) (by kernel_rfl) k1 ok1 aeI ac7 call
theorem aeO(call:wI):PySem.Challenge.rw_xw0130_01.Holds:=holds_law ae2 (HO call)
end
section
open PySem
theorem dw{A B:Prop}{Z0:Prop}(h:A/\B)(k:A->B->Z0):Z0:=by obtain⟨a0,a1⟩:=h;exact k a0 a1
theorem bR{α:Sort _}{A:α->Prop}{Z0:Prop}(h:∃x,A x)(k:∀x,A x->Z0):Z0:=by obtain⟨a0,a1⟩:=h;exact k a0 a1
theorem iX{A B C:Prop}{Z0:Prop}(h:A/\B/\C)(k:A->B->C->Z0):Z0:=by obtain⟨a0,a1,a2⟩:=h;exact k a0 a1 a2
theorem aaM{α:Sort _}{A:Prop}{B:α->Prop}{Z0:Prop}(h:A/\∃x,B x)(k:A->∀x,B x->Z0):Z0:=by obtain⟨a0,a1,a2⟩:=h;exact k a0 a1 a2
theorem aD{α:Sort _}{A B:α->Prop}{Z0:Prop}(h:∃x,A x/\B x)(k:∀x,A x->B x->Z0):Z0:=by obtain⟨a0,a1,a2⟩:=h;exact k a0 a1 a2
theorem Vy{α β:Sort _}{A:α->β->Prop}{Z0:Prop}(h:∃x,∃y,A x y)(k:∀x,∀y,A x y->Z0):Z0:=by obtain⟨a0,a1,a2⟩:=h;exact k a0 a1 a2
theorem iA{A B C D:Prop}{Z0:Prop}(h:A/\B/\C/\D)(k:A->B->C->D->Z0):Z0:=by obtain⟨a0,a1,a2,a3⟩:=h;exact k a0 a1 a2 a3
theorem dF{α:Sort _}{A B C:α->Prop}{Z0:Prop}(h:∃x,A x/\B x/\C x)(k:∀x,A x->B x->C x->Z0):Z0:=by obtain⟨a0,a1,a2,a3⟩:=h;exact k a0 a1 a2 a3
theorem lu{α β:Sort _}{A B:α->β->Prop}{Z0:Prop}(h:∃x,∃y,A x y/\B x y)(k:∀x,∀y,A x y->B x y->Z0):Z0:=by obtain⟨a0,a1,a2,a3⟩:=h;exact k a0 a1 a2 a3
theorem tQ{α β γ:Sort _}{A:α->β->γ->Prop}{Z0:Prop}(h:∃x,∃y,∃z,A x y z)(k:∀x,∀y,∀z,A x y z->Z0):Z0:=by obtain⟨a0,a1,a2,a3⟩:=h;exact k a0 a1 a2 a3
theorem Ai{A B C D E:Prop}{Z0:Prop}(h:A/\B/\C/\D/\E)(k:A->B->C->D->E->Z0):Z0:=by obtain⟨a0,a1,a2,a3,a4⟩:=h;exact k a0 a1 a2 a3 a4
theorem l0{α:Sort _}{A B C:Prop}{D:α->Prop}{Z0:Prop}(h:A/\B/\C/\∃x,D x)(k:A->B->C->∀x,D x->Z0):Z0:=by obtain⟨a0,a1,a2,a3,a4⟩:=h;exact k a0 a1 a2 a3 a4
theorem sO{α:Sort _}{A B:Prop}{C D:α->Prop}{Z0:Prop}(h:A/\B/\∃x,C x/\D x)(k:A->B->∀x,C x->D x->Z0):Z0:=by obtain⟨a0,a1,a2,a3,a4⟩:=h;exact k a0 a1 a2 a3 a4
theorem DV{α:Sort _}{A:Prop}{B C D:α->Prop}{Z0:Prop}(h:A/\∃x,B x/\C x/\D x)(k:A->∀x,B x->C x->D x->Z0):Z0:=by obtain⟨a0,a1,a2,a3,a4⟩:=h;exact k a0 a1 a2 a3 a4
theorem vQ{α β:Sort _}{A:Prop}{B C:α->β->Prop}{Z0:Prop}(h:A/\∃x,∃y,B x y/\C x y)(k:A->∀x,∀y,B x y->C x y->Z0):Z0:=by obtain⟨a0,a1,a2,a3,a4⟩:=h;exact k a0 a1 a2 a3 a4
theorem eH{α:Sort _}{A B C D:α->Prop}{Z0:Prop}(h:∃x,A x/\B x/\C x/\D x)(k:∀x,A x->B x->C x->D x->Z0):Z0:=by obtain⟨a0,a1,a2,a3,a4⟩:=h;exact k a0 a1 a2 a3 a4
theorem nJ{α β:Sort _}{A B:α->Prop}{C:α->β->Prop}{Z0:Prop}(h:∃x,A x/\B x/\∃y,C x y)(k:∀x,A x->B x->∀y,C x y->Z0):Z0:=by obtain⟨a0,a1,a2,a3,a4⟩:=h;exact k a0 a1 a2 a3 a4
theorem Xi{α β:Sort _}{A:α->Prop}{B C:α->β->Prop}{Z0:Prop}(h:∃x,A x/\∃y,B x y/\C x y)(k:∀x,A x->∀y,B x y->C x y->Z0):Z0:=by obtain⟨a0,a1,a2,a3,a4⟩:=h;exact k a0 a1 a2 a3 a4
theorem aW{α β:Sort _}{A B C:α->β->Prop}{Z0:Prop}(h:∃x,∃y,A x y/\B x y/\C x y)(k:∀x,∀y,A x y->B x y->C x y->Z0):Z0:=by obtain⟨a0,a1,a2,a3,a4⟩:=h;exact k a0 a1 a2 a3 a4
theorem sN{α β γ:Sort _}{A B:α->β->γ->Prop}{Z0:Prop}(h:∃x,∃y,∃z,A x y z/\B x y z)(k:∀x,∀y,∀z,A x y z->B x y z->Z0):Z0:=by obtain⟨a0,a1,a2,a3,a4⟩:=h;exact k a0 a1 a2 a3 a4
theorem Xh{α β γ δ:Sort _}{A:α->β->γ->δ->Prop}{Z0:Prop}(h:∃x,∃y,∃z,∃u,A x y z u)(k:∀x,∀y,∀z,∀u,A x y z u->Z0):Z0:=by obtain⟨a0,a1,a2,a3,a4⟩:=h;exact k a0 a1 a2 a3 a4
theorem ju{A B C D E F:Prop}{Z0:Prop}(h:A/\B/\C/\D/\E/\F)(k:A->B->C->D->E->F->Z0):Z0:=by obtain⟨a0,a1,a2,a3,a4,a5⟩:=h;exact k a0 a1 a2 a3 a4 a5
theorem FZ{α:Sort _}{A B:Prop}{C D E:α->Prop}{Z0:Prop}(h:A/\B/\∃x,C x/\D x/\E x)(k:A->B->∀x,C x->D x->E x->Z0):Z0:=by obtain⟨a0,a1,a2,a3,a4,a5⟩:=h;exact k a0 a1 a2 a3 a4 a5
theorem FY{α β:Sort _}{A:Prop}{B C D:α->β->Prop}{Z0:Prop}(h:A/\∃x,∃y,B x y/\C x y/\D x y)(k:A->∀x,∀y,B x y->C x y->D x y->Z0):Z0:=by obtain⟨a0,a1,a2,a3,a4,a5⟩:=h;exact k a0 a1 a2 a3 a4 a5
theorem Qy{α β:Sort _}{A:α->Prop}{B C D:α->β->Prop}{Z0:Prop}(h:∃x,A x/\∃y,B x y/\C x y/\D x y)(k:∀x,A x->∀y,B x y->C x y->D x y->Z0):Z0:=by obtain⟨a0,a1,a2,a3,a4,a5⟩:=h;exact k a0 a1 a2 a3 a4 a5
theorem d7{α β:Sort _}{A B C D:α->β->Prop}{Z0:Prop}(h:∃x,∃y,A x y/\B x y/\C x y/\D x y)(k:∀x,∀y,A x y->B x y->C x y->D x y->Z0):Z0:=by obtain⟨a0,a1,a2,a3,a4,a5⟩:=h;exact k a0 a1 a2 a3 a4 a5
theorem AI{α β γ:Sort _}{A B C:α->β->γ->Prop}{Z0:Prop}(h:∃x,∃y,∃z,A x y z/\B x y z/\C x y z)(k:∀x,∀y,∀z,A x y z->B x y z->C x y z->Z0):Z0:=by obtain⟨a0,a1,a2,a3,a4,a5⟩:=h;exact k a0 a1 a2 a3 a4 a5
theorem lB{A B C D E F G:Prop}{Z0:Prop}(h:A/\B/\C/\D/\E/\F/\G)(k:A->B->C->D->E->F->G->Z0):Z0:=by obtain⟨a0,a1,a2,a3,a4,a5,a6⟩:=h;exact k a0 a1 a2 a3 a4 a5 a6
theorem CT{α β:Sort _}{A B C:Prop}{D E:α->β->Prop}{Z0:Prop}(h:A/\B/\C/\∃x,∃y,D x y/\E x y)(k:A->B->C->∀x,∀y,D x y->E x y->Z0):Z0:=by obtain⟨a0,a1,a2,a3,a4,a5,a6⟩:=h;exact k a0 a1 a2 a3 a4 a5 a6
theorem MC{α β:Sort _}{A B C:α->Prop}{D E:α->β->Prop}{Z0:Prop}(h:∃x,A x/\B x/\C x/\∃y,D x y/\E x y)(k:∀x,A x->B x->C x->∀y,D x y->E x y->Z0):Z0:=by obtain⟨a0,a1,a2,a3,a4,a5,a6⟩:=h;exact k a0 a1 a2 a3 a4 a5 a6
theorem nS{α β γ:Sort _}{A B C D:α->β->γ->Prop}{Z0:Prop}(h:∃x,∃y,∃z,A x y z/\B x y z/\C x y z/\D x y z)(k:∀x,∀y,∀z,A x y z->B x y z->C x y z->D x y z->Z0):Z0:=by obtain⟨a0,a1,a2,a3,a4,a5,a6⟩:=h;exact k a0 a1 a2 a3 a4 a5 a6
theorem fD{α β:Sort _}{A B C D:α->Prop}{E F:α->β->Prop}{Z0:Prop}(h:∃x,A x/\B x/\C x/\D x/\∃y,E x y/\F x y)(k:∀x,A x->B x->C x->D x->∀y,E x y->F x y->Z0):Z0:=by obtain⟨a0,a1,a2,a3,a4,a5,a6,a7⟩:=h;exact k a0 a1 a2 a3 a4 a5 a6 a7
theorem dm{α β γ:Sort _}{A B C:α->Prop}{D E:α->β->γ->Prop}{Z0:Prop}(h:∃x,A x/\B x/\C x/\∃y,∃z,D x y z/\E x y z)(k:∀x,A x->B x->C x->∀y,∀z,D x y z->E x y z->Z0):Z0:=by obtain⟨a0,a1,a2,a3,a4,a5,a6,a7⟩:=h;exact k a0 a1 a2 a3 a4 a5 a6 a7
theorem jz{α β γ δ:Sort _}{A B C D:α->β->γ->δ->Prop}{Z0:Prop}(h:∃x,∃y,∃z,∃u,A x y z u/\B x y z u/\C x y z u/\D x y z u)(k:∀x,∀y,∀z,∀u,A x y z u->B x y z u->C x y z u->D x y z u->Z0):Z0:=by obtain⟨a0,a1,a2,a3,a4,a5,a6,a7⟩:=h;exact k a0 a1 a2 a3 a4 a5 a6 a7
theorem qB{α β:Sort _}{A B C D:α->Prop}{E F G:α->β->Prop}{Z0:Prop}(h:∃x,A x/\B x/\C x/\D x/\∃y,E x y/\F x y/\G x y)(k:∀x,A x->B x->C x->D x->∀y,E x y->F x y->G x y->Z0):Z0:=by obtain⟨a0,a1,a2,a3,a4,a5,a6,a7,a8⟩:=h;exact k a0 a1 a2 a3 a4 a5 a6 a7 a8
theorem Ew{α β γ:Sort _}{A B C D E F:α->β->γ->Prop}{Z0:Prop}(h:∃x,∃y,∃z,A x y z/\B x y z/\C x y z/\D x y z/\E x y z/\F x y z)(k:∀x,∀y,∀z,A x y z->B x y z->C x y z->D x y z->E x y z->F x y z->Z0):Z0:=by obtain⟨a0,a1,a2,a3,a4,a5,a6,a7,a8⟩:=h;exact k a0 a1 a2 a3 a4 a5 a6 a7 a8
theorem Ev{α β γ δ:Sort _}{A B C D E:α->β->γ->δ->Prop}{Z0:Prop}(h:∃x,∃y,∃z,∃u,A x y z u/\B x y z u/\C x y z u/\D x y z u/\E x y z u)(k:∀x,∀y,∀z,∀u,A x y z u->B x y z u->C x y z u->D x y z u->E x y z u->Z0):Z0:=by obtain⟨a0,a1,a2,a3,a4,a5,a6,a7,a8⟩:=h;exact k a0 a1 a2 a3 a4 a5 a6 a7 a8
theorem Dj{α β γ δ ε Z:Sort _}{A B C D:α->β->γ->δ->ε->Z->Prop}{Z0:Prop}(h:∃x,∃y,∃z,∃u,∃v,∃w,A x y z u v w/\B x y z u v w/\C x y z u v w/\D x y z u v w)(k:∀x,∀y,∀z,∀u,∀v,∀w,A x y z u v w->B x y z u v w->C x y z u v w->D x y z u v w->Z0):Z0:=by obtain⟨a0,a1,a2,a3,a4,a5,a6,a7,a8,a9⟩:=h;exact k a0 a1 a2 a3 a4 a5 a6 a7 a8 a9
theorem mF{α β γ δ ε:Sort _}{A B C D E F:α->β->γ->δ->ε->Prop}{Z0:Prop}(h:∃x,∃y,∃z,∃u,∃v,A x y z u v/\B x y z u v/\C x y z u v/\D x y z u v/\E x y z u v/\F x y z u v)(k:∀x,∀y,∀z,∀u,∀v,A x y z u v->B x y z u v->C x y z u v->D x y z u v->E x y z u v->F x y z u v->Z0):Z0:=by obtain⟨a0,a1,a2,a3,a4,a5,a6,a7,a8,a9,qJ⟩:=h;exact k a0 a1 a2 a3 a4 a5 a6 a7 a8 a9 qJ
theorem pS{α β γ δ ε Z:Sort _}{A B C D E F:α->β->γ->δ->ε->Z->Prop}{Z0:Prop}(h:∃x,∃y,∃z,∃u,∃v,∃w,A x y z u v w/\B x y z u v w/\C x y z u v w/\D x y z u v w/\E x y z u v w/\F x y z u v w)(k:∀x,∀y,∀z,∀u,∀v,∀w,A x y z u v w->B x y z u v w->C x y z u v w->D x y z u v w->E x y z u v w->F x y z u v w->Z0):Z0:=by obtain⟨a0,a1,a2,a3,a4,a5,a6,a7,a8,a9,qJ,rX⟩:=h;exact k a0 a1 a2 a3 a4 a5 a6 a7 a8 a9 qJ rX
theorem tP{α β γ δ ε Z:Sort _}{A B C D E F G H I:α->β->γ->δ->ε->Z->Prop}{Z0:Prop}(h:∃x,∃y,∃z,∃u,∃v,∃w,A x y z u v w/\B x y z u v w/\C x y z u v w/\D x y z u v w/\E x y z u v w/\F x y z u v w/\G x y z u v w/\H x y z u v w/\I x y z u v w)(k:∀x,∀y,∀z,∀u,∀v,∀w,A x y z u v w->B x y z u v w->C x y z u v w->D x y z u v w->E x y z u v w->F x y z u v w->G x y z u v w->H x y z u v w->I x y z u v w->Z0):Z0:=by obtain⟨a0,a1,a2,a3,a4,a5,a6,a7,a8,a9,qJ,rX,a12,a13,a14⟩:=h;exact k a0 a1 a2 a3 a4 a5 a6 a7 a8 a9 qJ rX a12 a13 a14
theorem CS{α:Sort _}{A:Prop}{B C D E F:α->Prop}{Z0:Prop}(h:A/\∃x,B x/\C x/\D x/\E x/\F x)(k:A->∀x,B x->C x->D x->E x->F x->Z0):Z0:=by obtain⟨a0,a1,a2,a3,a4,a5,a6⟩:=h;exact k a0 a1 a2 a3 a4 a5 a6
theorem F5{α:Sort _}{A B C:Prop}{D E:α->Prop}{Z0:Prop}(h:A/\B/\C/\∃x,D x/\E x)(k:A->B->C->∀x,D x->E x->Z0):Z0:=by obtain⟨a0,a1,a2,a3,a4,a5⟩:=h;exact k a0 a1 a2 a3 a4 a5
theorem zj{α:Sort _}{A B C D E F G:α->Prop}{Z0:Prop}(h:∃x,A x/\B x/\C x/\D x/\E x/\F x/\G x)(k:∀x,A x->B x->C x->D x->E x->F x->G x->Z0):Z0:=by obtain⟨a0,a1,a2,a3,a4,a5,a6,a7⟩:=h;exact k a0 a1 a2 a3 a4 a5 a6 a7
theorem adM{α β:Sort _}{A:α->Prop}{B:α->β->Prop}{Z0:Prop}(h:∃x,A x/\∃y,B x y)(k:∀x,A x->∀y,B x y->Z0):Z0:=by obtain⟨a0,a1,a2,a3⟩:=h;exact k a0 a1 a2 a3
theorem Qx{α β γ:Sort _}{A B:α->β->Prop}{C:α->β->γ->Prop}{Z0:Prop}(h:∃x,∃y,A x y/\B x y/\∃z,C x y z)(k:∀x,∀y,A x y->B x y->∀z,C x y z->Z0):Z0:=by obtain⟨a0,a1,a2,a3,a4,a5⟩:=h;exact k a0 a1 a2 a3 a4 a5
theorem Sv{α:Sort _}{A:Prop}{B C:α->Prop}{Z0:Prop}(h:A/\∃x,B x/\C x)(k:A->∀x,B x->C x->Z0):Z0:=by obtain⟨a0,a1,a2,a3⟩:=h;exact k a0 a1 a2 a3
theorem dQ{α β:Sort _}{A B C D E:α->β->Prop}{Z0:Prop}(h:∃x,∃y,A x y/\B x y/\C x y/\D x y/\E x y)(k:∀x,∀y,A x y->B x y->C x y->D x y->E x y->Z0):Z0:=by obtain⟨a0,a1,a2,a3,a4,a5,a6⟩:=h;exact k a0 a1 a2 a3 a4 a5 a6
set_option genInjectivity true in
set_option genCtorIdx true in
inductive V where
 |none|bool (b:Bool)|int (i:Int)|str (s:List Nat)|ak (xs:List V)|ref (i:Nat)|gu
mutual
noncomputable def V.YM:V->V->Bool
 | .none,.none=>true
 | .bool a,.bool b=>a==b
 | .int a,.int b=>decide (a=b)
 | .str a,.str b=>decide (a=b)
 | .ak a,.ak b=>V.GP a b
 | .ref a,.ref b=>decide (a=b)
 | .gu,.gu=>true
 |_,_=>false
noncomputable def V.GP:List V->List V->Bool
 |[],[]=>true
 |a::r,b::t=>V.YM a b&&V.GP r t
 |_,_=>false
end
theorem V.MB(a:V):V.YM a a=true:=
 @V.rec (fun a=>V.YM a a=true) (fun l=>V.GP l l=true) rfl (fun b=>beq_self_eq_true b) (fun i=>ez rfl) (fun s=>ez rfl) (fun xs h=>h) (fun i=>ez rfl) rfl rfl
  (fun x r h1 h2=>(congrArg (·&&V.GP r r) h1).trans h2) a
theorem V.Xf(a:V):∀b,V.YM a b=true->a=b:=by
 refine @V.rec (fun a=>∀b,V.YM a b=true->a=b) (fun l=>∀b,V.GP l b=true->l=b) ?_ (fun x=> ?_) (fun x=> ?_) (fun x=> ?_) (fun x ih=> ?_) (fun x=> ?_) ?_ ?_ (fun x r h1 h2=> ?_) a
 ·intro b h;cases b with|none=>rfl|_=>exact absurd h Bool.false_ne_true
 ·intro b h;cases b with|bool y=>exact congrArg V.bool (eq_of_beq h)|_=>exact absurd h Bool.false_ne_true
 ·intro b h;cases b with|int y=>exact congrArg V.int (jx h)|_=>exact absurd h Bool.false_ne_true
 ·intro b h;cases b with|str y=>exact congrArg V.str (jx h)|_=>exact absurd h Bool.false_ne_true
 ·intro b h;cases b with|ak y=>exact congrArg V.ak (ih y h)|_=>exact absurd h Bool.false_ne_true
 ·intro b h;cases b with|ref y=>exact congrArg V.ref (jx h)|_=>exact absurd h Bool.false_ne_true
 ·intro b h;cases b with|gu=>rfl|_=>exact absurd h Bool.false_ne_true
 ·intro b h;cases b with|nil=>rfl|cons y t=>exact absurd h Bool.false_ne_true
 ·intro b h;cases b with
  |nil=>exact absurd h Bool.false_ne_true
  |cons y t=>
   have h:(V.YM x y&&V.GP r t)=true:=h
   exact(congrArg (·::r) (h1 y ((dX _ _).mp h).1)).trans (congrArg (y::·) (h2 t ((dX _ _).mp h).2))
noncomputable instance:DecidableEq V:=fun a b=>decidable_of_iff _ ⟨V.Xf a b,fun h=>h▸V.MB a⟩
inductive Ob where
 |list (xs:List V)|dict (k:Nat) (es:List (V×V))|bE (c:Nat) (fs:List (Nat×V))
noncomputable abbrev H:=List Ob
noncomputable abbrev aO:=List (Nat×V)
set_option genCtorIdx true in
inductive Op where
 |eq|ne|lt|le|gt|ge|cZ|gw
set_option genCtorIdx true in
inductive Ar where
 |add|sub|mod
mutual
inductive Ex where
 |cst (v:V)
 |aC (x:Nat) (v:V)
 |ah (x:Nat)
 |aq (e:Ex) (a:Nat)
 |call (f:Nat) (args:List Ex)
 |new (c:Nat) (args:List Ex)
 |bM (e:Ex) (m:Nat) (args:List Ex)
 |rV (e x:Ex)
 |ext (e x:Ex)
 |sy (e k d:Ex)
 |len (e:Ex)
 |pB (e:Ex)
 |tuple (e:Ex)
 |pX (e:Ex)
 |isStr (e:Ex)
 |bF (op:Op) (a b:Ex)
 |eW (all:Bool) (es:List Ex)
 |not (e:Cd)
 |ar (op:Ar) (a b:Ex)
 |bO (a i:Ex)
 |Gs (a:Ex) (n:Nat)
 |jm (a:Ex)
 |ite (c:Cd) (a b:Ex)
 |ak (es:List Ex)
 |list (es:List Ex)
 |dict (AY:List Ex)
 |comp (el:Ex) (tg:List Nat) (it:Ex) (jb:List Nat) (cond:List Cd)
inductive Cd where
 |ex (e:Ex)
 |not (c:Cd)
 |eW (all:Bool) (cs:List Cd)
end
inductive Tg where
 |nm (x:Nat)|ak (xs:List Nat)|aq (e:Ex) (a:Nat)|sub (e k:Ex)
inductive St where
 |expr (e:Ex)
 |aQ (t:Tg) (e:Ex)
 |sE (e:Ex) (a:Nat) (op:Ar) (x:Ex)
 |sD (e:Ex) (k:Ex) (op:Ar) (x:Ex)
 |Gw
 |ifs (c:Cd) (a b:List St)
 |Na (x:Nat) (n:Nat) (body:List St)
 |cY (tg:List Nat) (it:Ex) (body:List St)
 |ret (e:Ex)
 |zH (body fm:List St)
set_option genCtorIdx true in
inductive Fl where
 |next|ret (v:V)
structure Fn where
 params:List Nat
 j8:List V
 body:List St
structure b5 where
 z4:List Int
 fn:Nat->Option Fn
 pD:Nat->Option Nat
 bM:Nat->Nat->Option Nat
 gI:Nat->Nat->Bool
noncomputable def ay{α:Type}(x:Nat):List (Nat×α)->Option α
 |[]=>.none
 |(y,v)::r=>if x=y then some v else ay x r
noncomputable def eX{α:Type}(x:Nat)(v:α):List (Nat×α)->List (Nat×α)
 |[]=>[(x,v)]
 |(y,u)::r=>if x=y then(x,v)::r else(y,u)::eX x v r
noncomputable def aT(k:V):List (V×V)->Option V
 |[]=>.none
 |(y,v)::r=>if k=y then some v else aT k r
noncomputable def dM(k v:V):List (V×V)->List (V×V)
 |[]=>[(k,v)]
 |(y,u)::r=>if k=y then(y,v)::r else(y,u)::dM k v r
mutual
noncomputable def V.d8:Nat->V->Bool
 |_,.int _=>true
 |_,.str s=>s.all fun c=>Nat.blt c 1114112
 |0,.ak _=>false
 |n+1,.ak xs=>V.cX n xs
 |_,.none=>false
 |_,.bool _=>false
 |_,.ref _=>false
 |_,.gu=>false
noncomputable def V.cX:Nat->List V->Bool
 |_,[]=>true
 |n,x::r=>V.d8 n x&&V.cX n r
end
noncomputable def V.aS(v:V):Bool:=V.d8 6 v
noncomputable def V.kind(v:V):Nat:=if v.aS then(match v with| .int _=>1| .str _=>2| .ak _=>3|_=>0)else 0
noncomputable def V.vO:V->Bool
 | .bool _=>true
 |_=>false
noncomputable def V.cG(a b:V):Bool:=(a.aS&&b.aS)||(a.vO&&b.vO)
noncomputable def aJ:Nat:=100000
noncomputable def k9(σ:H):V->Option Bool
 | .bool b=>some b
 | .ref i=>match σ[i]? with
  |some (.list xs)=>if xs.length<aJ then some (!xs.isEmpty)else .none
  |_=>.none
 |_=>.none
noncomputable def jN(a b:List (V×V)):Bool:=a.length==b.length&&a.all fun e=>aT e.1 b==some e.2
noncomputable def eqv(σ:H):V->V->Option Bool
 | .ref i,.ref j=>match σ[i]?,σ[j]? with
  |some (.list xs),some (.list ys)=>if xs.all V.aS&&ys.all V.aS then some (decide (xs=ys))else .none
  |some (.dict k xs),some (.dict l ys)=>if k==1&&l==1&&xs.all (fun e=>e.2.aS)&&ys.all (fun e=>e.2.aS)then some (jN xs ys)else .none
  |_,_=>.none
 |a,b=>if a.cG b then some (decide (a=b))else .none
noncomputable def bD(σ:H)(v:V):V->Option Bool
 | .ak xs=>if v.cG v&&xs.all v.cG then some (decide (v∈xs))else .none
 | .ref i=>match σ[i]? with
  |some (.list xs)=>if v.cG v&&xs.all v.cG then some (decide (v∈xs))else .none
  |some (.dict k es)=>if v.kind !=0&&(k==0||v.kind==k)then some (aT v es).isSome else .none
  |_=>.none
 |_=>.none
noncomputable def xJ(f:Int->Int->Option V)(a b:V):Option V:=match a with
 | .int i=>(match b with
  | .int j=>f i j
  |_=>.none)
 |_=>.none
noncomputable def xH(σ:H)(op:Op)(a b:V):Option V:=match op with
 | .eq=>(eqv σ a b).map .bool
 | .ne=>(eqv σ a b).map fun r=>.bool !r
 | .cZ=>(bD σ a b).map .bool
 | .gw=>(bD σ a b).map fun r=>.bool !r
 | .lt=>xJ (fun a b=>some (.bool (decide (a<b)))) a b
 | .le=>xJ (fun a b=>some (.bool (decide (a<=b)))) a b
 | .gt=>xJ (fun a b=>some (.bool (decide (a>b)))) a b
 | .ge=>xJ (fun a b=>some (.bool (decide (a>=b)))) a b
noncomputable def NR(op:Ar)(a b:V):Option V:=match op with
 | .sub=>xJ (fun a b=>some (.int (a - b))) a b
 | .mod=>xJ (fun a b=>if 0<b then some (.int (a % b))else .none) a b
 | .add=>match a with
  | .ak xs=>(match b with
   | .ak ys=>if xs.length+ys.length<aJ&& !xs.isEmpty&& !ys.isEmpty then some (.ak (xs++ys))else .none
   |_=>.none)
  |a=>xJ (fun a b=>some (.int (a+b))) a b
noncomputable def sC(op:Ar)(a b:V):Option V:=match op with
 | .add=>xJ (fun a b=>some (.int (a+b))) a b
 | .sub=>xJ (fun a b=>some (.int (a - b))) a b
 | .mod=>.none
noncomputable def nth(xs:List V)(i:Int):Option V:=if 0<=i then xs[i.toNat]? else if -(xs.length:Int)<=i then xs[(i+xs.length).toNat]? else .none
noncomputable def item(σ:H):V->V->Option V
 | .ak xs,.int i=>if xs.length<aJ then nth xs i else .none
 | .str s,.int i=>if 0<=i/\s.length<aJ then(s[i.toNat]?).map fun c=>.str [c]else .none
 | .ref r,v=>match σ[r]? with
  |some (.list xs)=>(match v with
   | .int i=>if 0<=i/\xs.length<aJ then xs[i.toNat]? else .none
   |_=>.none)
  |some (.dict k es)=>if v.kind==k&&k !=0 then aT v es else .none
  |_=>.none
 |_,_=>.none
noncomputable def j7(σ:H)(o k d:V):Option V:=match o with
 | .ref r=>match σ[r]? with
  |some (.dict n es)=>if k.kind !=0&&(n==0||k.kind==n)then some ((aT k es).getD d)else .none
  |_=>.none
 |_=>.none
noncomputable def yt:V->Option V
 | .int n=>if n.natAbs<10^9 then some (.str ((toString n).toList.map Char.toNat))else .none
 |_=>.none
noncomputable def Af:V->Option V
 | .str _=>some (.bool true)
 | .int _=>some (.bool false)
 |_=>.none
noncomputable def ao(σ:H):V->Option (List V)
 | .ak xs=>if xs.length<aJ then some xs else .none
 | .ref i=>match σ[i]? with
  |some (.list xs)=>if xs.length<aJ then some xs else .none
  |some (.dict k es)=>if es.length<aJ&&(k==1||k==0)then some (es.map (·.1))else .none
  |_=>.none
 |_=>.none
noncomputable def fX(σ:H):V->Nat
 | .ref i=>match σ[i]? with
  |some (.dict _ es)=>es.length+1
  |_=>0
 |_=>0
noncomputable def ny(σ:H):V->Option (List V)
 | .ak xs=>some xs
 | .ref i=>match σ[i]? with
  |some (.list xs)=>some xs
  |some (.dict k es)=>if k==0||k==1 then some (es.map (·.1))else .none
  |_=>.none
 |_=>.none
noncomputable def uh(σ:H):V->Option (List V)
 | .ak xs=>if xs.length<aJ then some xs else .none
 | .ref i=>match σ[i]? with
  |some (.list xs)=>if xs.length<aJ then some xs else .none
  |_=>.none
 |_=>.none
noncomputable def vA(σ:H):V->Option (List V)
 | .ref i=>match σ[i]? with
  |some (.list xs)=>if xs.length<aJ then some xs else .none
  |_=>.none
 |_=>.none
noncomputable def dD(σ:H)(d k v:V):Option H:=match d with
 | .ref i=>match σ[i]? with
  |some (.dict n es)=>if(n==k.kind||n==0)&&k.kind !=0&&es.length<aJ then some (σ.set i (.dict k.kind (dM k v es)))else .none
  |_=>.none
 |_=>.none
noncomputable def nh(σ:H)(o:V)(a:Nat):Option V:=match o with
 | .ref i=>match σ[i]? with
  |some (.bE _ fs)=>ay a fs
  |_=>.none
 |_=>.none
noncomputable def lO(gI:Nat->Nat->Bool)(σ:H)(o:V)(a:Nat)(v:V):Option H:=match o with
 | .ref i=>match σ[i]? with
  |some (.bE c fs)=>if fs.length<500&&gI c a then some (σ.set i (.bE c (eX a v fs)))else .none
  |_=>.none
 |_=>.none
noncomputable def push(σ:H)(o x:V):Option H:=match o with
 | .ref i=>match σ[i]? with
  |some (.list xs)=>if xs.length<aJ then some (σ.set i (.list (xs++[x])))else .none
  |_=>.none
 |_=>.none
noncomputable def lZ(σ:H)(o x:V):Option H:=match o,x with
 | .ref i,.ak ys=>match σ[i]? with
  |some (.list xs)=>if xs.length+ys.length<aJ then some (σ.set i (.list (xs++ys)))else .none
  |_=>.none
 |_,_=>.none
noncomputable def Gl(σ:H)(o:V):Bool:=match o with
 | .ref i=>match σ[i]? with
  |some (.list _)=>true
  |_=>false
 |_=>false
noncomputable def NF(σ:H)(o:V):Bool:=match o with
 | .ref i=>match σ[i]? with
  |some (.dict _ _)=>true
  |_=>false
 |_=>false
noncomputable def V.lt:V->V->Bool
 | .int a,.int b=>decide (a<b)
 | .str a,.str b=>decide (a<b)
 |_,_=>false
noncomputable def Gm(x:V):List V->List V
 |[]=>[x]
 |y::r=>if V.lt x y then x::y::r else y::Gm x r
noncomputable def qW(xs:List V):List V:=xs.foldl (fun bV x=>Gm x bV) []
noncomputable def Ak:List V->Bool:=fun xs=>xs.all fun v=>match v with| .int _=>true|_=>false
noncomputable def DZ:List V->Bool:=fun xs=>xs.all fun v=>match v with| .str _=>true|_=>false
noncomputable def sorted(xs:List V):Option (List V):=if(Ak xs||DZ xs)&&decide (xs.length<64)then some (qW xs)else .none
noncomputable def bindL:List Nat->List V->List V->Option aO
 |[],[],_=>some []
 |x::xs,v::vs,ds=>(bindL xs vs ds).map fun r=>(x,v)::r
 |xs,[],ds=>if xs.length<=ds.length then some (xs.zip (ds.drop (ds.length - xs.length)))else .none
 |_,_,_=>.none
noncomputable def cT:List Nat->V->Option aO
 |[x],v=>some [(x,v)]
 |xs,.ak vs=>if xs.length=vs.length then some (xs.zip vs)else .none
 |_,_=>.none
theorem gk{α:Type}{x y:Nat}{v:α}{r:List (Nat×α)}:ay x ((y,v)::r)=if x=y then some v else ay x r:=rfl
theorem yu{α:Type}{x y:Nat}{v u:α}{r:List (Nat×α)}:eX x v ((y,u)::r)=if x=y then(x,v)::r else(y,u)::eX x v r:=rfl
theorem eO{k y v:V}{r:List (V×V)}:aT k ((y,v)::r)=if k=y then some v else aT k r:=rfl
theorem l5{k y v u:V}{r:List (V×V)}:dM k v ((y,u)::r)=if k=y then(y,v)::r else(y,u)::dM k v r:=rfl
theorem kI{n:Nat}{xs:List V}:V.d8 (n+1) (.ak xs)=V.cX n xs:=rfl
theorem PM{n:Nat}:V.cX n []=true:=rfl
theorem vM{n:Nat}{i:Int}:V.d8 n (.int i)=true:=by cases n<;>rfl
theorem b7{n:Nat}{x:V}{r:List V}:V.cX n (x::r)=(V.d8 n x&&V.cX n r):=rfl
theorem ET{x y:V}{r:List V}:Gm x (y::r)=if V.lt x y then x::y::r else y::Gm x r:=rfl
section
noncomputable abbrev Calls:=Nat->List V->H->Option (V×H)
section
variable(P:b5)(c:Calls)
noncomputable def BB(cl:Nat)(vs:List V)(σ:H):Option (V×H):=
 match P.pD cl with
 |some f=>match c f (.ref σ.length::vs) (σ++[.bE cl []])with
  |some (.none,aK)=>some (.ref σ.length,aK)
  |_=>.none
 | .none=>match vs with
  |[]=>some (.ref σ.length,σ++[.bE cl []])
  |_=>.none
noncomputable def iJ(o:V)(m:Nat)(σ:H):Option Nat:=match o with
 | .ref i=>match σ[i]? with
  |some (.bE cl fs)=>match ay m fs with
   | .none=>P.bM cl m
   |some _=>.none
  |_=>.none
 |_=>.none
noncomputable def kH:List V->H->V->Option H
 |k::v::r,σ,d=>match dD σ d k v with
  |some aK=>kH r aK d
  | .none=>.none
 |[],σ,_=>some σ
 |_,_,_=>.none
noncomputable def cI(σ:H)(s:V)(n k:Nat):Option (Option V):=match s with
 | .ak xs=>if xs.length<aJ then some xs[k]? else .none
 | .ref i=>match σ[i]? with
  |some (.list xs)=>if xs.length<aJ&&n==0 then some xs[k]? else .none
  |some (.dict d es)=>if es.length+1==n&&decide (n<aJ)&&(d==1||d==0)then some ((es[k]?).map (·.1))else .none
  |_=>.none
 |_=>.none
noncomputable def compLoop(fN:V->H->Option (Option V×H))(s:V)(n:Nat):Nat->Nat->H->Option (List V×H)
 |0,_,_=>.none
 |j+1,k,σ=>match cI σ s n k with
  | .none=>.none
  |some .none=>some ([],σ)
  |some (some v)=>match fN v σ with
   | .none=>.none
   |some (r,σ1)=>match compLoop fN s n j (k+1) σ1 with
    | .none=>.none
    |some (vs,aX)=>some (r.toList++vs,aX)
mutual
noncomputable def gK:Ex->aO->H->Option (V×H)
 | .cst v,_,σ=>some (v,σ)
 | .aC _ v,_,σ=>some (v,σ)
 | .ah x,ρ,σ=>match ay x ρ with|some v=>some (v,σ)| .none=>.none
 | .aq e a,ρ,σ=>match gK e ρ σ with
  |some (o,σ1)=>(match nh σ1 o a with|some v=>some (v,σ1)| .none=>.none)
  | .none=>.none
 | .call f args,ρ,σ=>match zE args ρ σ with
  |some (vs,σ1)=>c f vs σ1
  | .none=>.none
 | .new cl args,ρ,σ=>match zE args ρ σ with
  |some (vs,σ1)=>BB P c cl vs σ1
  | .none=>.none
 | .bM e m args,ρ,σ=>match gK e ρ σ with
  |some (o,σ1)=>(match iJ P o m σ1 with
   |some f=>(match zE args ρ σ1 with
    |some (vs,aX)=>c f (o::vs) aX
    | .none=>.none)
   | .none=>.none)
  | .none=>.none
 | .rV e x,ρ,σ=>match gK e ρ σ with
  |some (o,σ1)=>if Gl σ1 o then(match gK x ρ σ1 with
   |some (v,aX)=>(match push aX o v with|some kU=>some (.none,kU)| .none=>.none)
   | .none=>.none)else .none
  | .none=>.none
 | .ext e x,ρ,σ=>match gK e ρ σ with
  |some (o,σ1)=>if Gl σ1 o then(match gK x ρ σ1 with
   |some (v,aX)=>(match lZ aX o v with|some kU=>some (.none,kU)| .none=>.none)
   | .none=>.none)else .none
  | .none=>.none
 | .sy e k d,ρ,σ=>match gK e ρ σ with
  |some (o,σ1)=>if NF σ1 o then(match gK k ρ σ1 with
   |some (kv,aX)=>(match gK d ρ aX with
    |some (dv,kU)=>(match j7 kU o kv dv with|some v=>some (v,kU)| .none=>.none)
    | .none=>.none)
   | .none=>.none)else .none
  | .none=>.none
 | .len e,ρ,σ=>match gK e ρ σ with
  |some (o,σ1)=>(match uh σ1 o with|some xs=>some (.int xs.length,σ1)| .none=>.none)
  | .none=>.none
 | .pB e,ρ,σ=>match gK e ρ σ with
  |some (o,σ1)=>(match ny σ1 o with
   |some xs=>(match sorted xs with|some ys=>some (.ref σ1.length,σ1++[.list ys])| .none=>.none)
   | .none=>.none)
  | .none=>.none
 | .tuple e,ρ,σ=>match gK e ρ σ with
  |some (o,σ1)=>(match vA σ1 o with|some xs=>some (.ak xs,σ1)| .none=>.none)
  | .none=>.none
 | .pX e,ρ,σ=>match gK e ρ σ with
  |some (v,σ1)=>(match yt v with|some t=>some (t,σ1)| .none=>.none)
  | .none=>.none
 | .isStr e,ρ,σ=>match gK e ρ σ with
  |some (v,σ1)=>(match Af v with|some t=>some (t,σ1)| .none=>.none)
  | .none=>.none
 | .bF op a b,ρ,σ=>match gK a ρ σ with
  |some (x,σ1)=>(match gK b ρ σ1 with
   |some (y,aX)=>(match xH aX op x y with|some v=>some (v,aX)| .none=>.none)
   | .none=>.none)
  | .none=>.none
 | .eW all es,ρ,σ=>evB all es ρ σ
 | .not e,ρ,σ=>match TR e ρ σ with
  |some (b,σ1)=>some (.bool !b,σ1)
  | .none=>.none
 | .ar op a b,ρ,σ=>match gK a ρ σ with
  |some (x,σ1)=>(match gK b ρ σ1 with
   |some (y,aX)=>(match NR op x y with|some v=>some (v,aX)| .none=>.none)
   | .none=>.none)
  | .none=>.none
 | .bO a i,ρ,σ=>match gK a ρ σ with
  |some (x,σ1)=>(match gK i ρ σ1 with
   |some (y,aX)=>(match item aX x y with|some v=>some (v,aX)| .none=>.none)
   | .none=>.none)
  | .none=>.none
 | .Gs a n,ρ,σ=>match gK a ρ σ with
  |some (o,σ1)=>(match o with
   | .gu=>some (.ref σ1.length,σ1++[.list ((P.z4.take n).map .int)])
   |_=>.none)
  | .none=>.none
 | .jm a,ρ,σ=>match gK a ρ σ with
  |some (o,σ1)=>(match o with
   | .ak xs=>if xs.length<aJ&& !xs.isEmpty then some (.ak xs.dropLast,σ1)else .none
   |_=>.none)
  | .none=>.none
 | .ite t a b,ρ,σ=>match TR t ρ σ with
  |some (t,σ1)=>if t then gK a ρ σ1 else gK b ρ σ1
  | .none=>.none
 | .ak es,ρ,σ=>match zE es ρ σ with
  |some (vs,σ1)=>some (.ak vs,σ1)
  | .none=>.none
 | .list es,ρ,σ=>match zE es ρ σ with
  |some (vs,σ1)=>some (.ref σ1.length,σ1++[.list vs])
  | .none=>.none
 | .dict AY,ρ,σ=>match zE AY ρ σ with
  |some (vs,σ1)=>(match kH vs (σ1++[.dict 0 []]) (.ref σ1.length)with
   |some aX=>some (.ref σ1.length,aX)
   | .none=>.none)
  | .none=>.none
 | .comp el tg it jb cond,ρ,σ=>match gK it ρ σ with
  |some (s,σ1)=>(match ao σ1 s with
   |some xs=>(match compLoop (fun v σ=>match cT tg v with
     | .none=>.none
     |some b=>match Nm true cond (b++ρ.filter fun e=>jb.contains e.1) σ with
      | .none=>.none
      |some (t,σ1)=>if t then(match gK el (b++ρ.filter fun e=>jb.contains e.1) σ1 with
        |some (v,aX)=>some (some v,aX)
        | .none=>.none)else some (.none,σ1)) s (fX σ1 s) (xs.length+1) 0 σ1 with
    |some (vs,aX)=>some (.ref aX.length,aX++[.list vs])
    | .none=>.none)
   | .none=>.none)
  | .none=>.none
noncomputable def zE:List Ex->aO->H->Option (List V×H)
 |[],_,σ=>some ([],σ)
 |e::r,ρ,σ=>match gK e ρ σ with
  |some (v,σ1)=>(match zE r ρ σ1 with|some (vs,aX)=>some (v::vs,aX)| .none=>.none)
  | .none=>.none
noncomputable def evB:Bool->List Ex->aO->H->Option (V×H)
 |_,[],_,_=>.none
 |all,e::r,ρ,σ=>match gK e ρ σ with
   |some (v,σ1)=>if r.isEmpty then some (v,σ1)else(match k9 σ1 v with
    |some b=>if b==all then evB all r ρ σ1 else some (v,σ1)
    | .none=>.none)
   | .none=>.none
noncomputable def TR:Cd->aO->H->Option (Bool×H)
 | .ex e,ρ,σ=>match gK e ρ σ with
  |some (v,σ1)=>(match k9 σ1 v with|some b=>some (b,σ1)| .none=>.none)
  | .none=>.none
 | .not e,ρ,σ=>match TR e ρ σ with
  |some (b,σ1)=>some (!b,σ1)
  | .none=>.none
 | .eW all es,ρ,σ=>Nm all es ρ σ
noncomputable def Nm:Bool->List Cd->aO->H->Option (Bool×H)
 |all,[],_,σ=>some (all,σ)
 |all,e::r,ρ,σ=>match TR e ρ σ with
  |some (b,σ1)=>if b==all then Nm all r ρ σ1 else some (b,σ1)
  | .none=>.none
end
noncomputable def forLoop(fN:V->aO->H->Option (Fl×aO×H))(s:V)(n:Nat):Nat->Nat->aO->H->Option (Fl×aO×H)
 |0,_,_,_=>.none
 |j+1,k,ρ,σ=>match cI σ s n k with
  | .none=>.none
  |some .none=>some (.next,ρ,σ)
  |some (some v)=>match fN v ρ σ with
   | .none=>.none
   |some (.next,cu,σ1)=>forLoop fN s n j (k+1) cu σ1
   |some (.ret v,cu,σ1)=>some (.ret v,cu,σ1)
noncomputable def aQ(t:Tg)(v:V)(ρ:aO)(σ:H):Option (aO×H):=match t with
 | .nm x=>some ((x,v)::ρ,σ)
 | .ak xs=>match v with
  | .ak vs=>if xs.length=vs.length then some ((xs.zip vs).reverse++ρ,σ)else .none
  |_=>.none
 | .aq e a=>match gK P c e ρ σ with
  |some (o,σ1)=>(match lO P.gI σ1 o a v with|some aX=>some (ρ,aX)| .none=>.none)
  | .none=>.none
 | .sub e k=>match gK P c e ρ σ with
  |some (o,σ1)=>(match gK P c k ρ σ1 with
   |some (kv,aX)=>(match dD aX o kv v with|some kU=>some (ρ,kU)| .none=>.none)
   | .none=>.none)
  | .none=>.none
mutual
noncomputable def exS:St->aO->H->Option (Fl×aO×H)
 | .expr e,ρ,σ=>match gK P c e ρ σ with
  |some (_,σ1)=>some (.next,ρ,σ1)
  | .none=>.none
 | .aQ t e,ρ,σ=>match gK P c e ρ σ with
  |some (v,σ1)=>(match aQ P c t v ρ σ1 with|some (cu,aX)=>some (.next,cu,aX)| .none=>.none)
  | .none=>.none
 | .sE e a op x,ρ,σ=>match gK P c e ρ σ with
  |some (o,σ1)=>(match nh σ1 o a with
   |some u=>(match gK P c x ρ σ1 with
    |some (v,aX)=>(match sC op u v with
     |some w=>(match lO P.gI aX o a w with|some kU=>some (.next,ρ,kU)| .none=>.none)
     | .none=>.none)
    | .none=>.none)
   | .none=>.none)
  | .none=>.none
 | .sD e k op x,ρ,σ=>match gK P c e ρ σ with
  |some (o,σ1)=>(match gK P c k ρ σ1 with
   |some (kv,aX)=>(match item aX o kv with
    |some u=>(match gK P c x ρ aX with
     |some (v,kU)=>(match sC op u v with
      |some w=>(match dD kU o kv w with|some TA=>some (.next,ρ,TA)| .none=>.none)
      | .none=>.none)
     | .none=>.none)
    | .none=>.none)
   | .none=>.none)
  | .none=>.none
 | .ifs t a b,ρ,σ=>match TR P c t ρ σ with
  |some (t,σ1)=>if t then kW a ρ σ1 else kW b ρ σ1
  | .none=>.none
 | .Na x n body,ρ,σ=>forLoop (fun v ρ σ=>kW body ((x,v)::ρ) σ) (.ak ((List.range n).map fun i=>.int (Int.ofNat i))) 0 (n+1) 0 ρ σ
 | .cY tg it body,ρ,σ=>match gK P c it ρ σ with
  |some (s,σ1)=>(match ao σ1 s with
   |some xs=>forLoop (fun v ρ σ=>match cT tg v with
     |some b=>kW body (b.reverse++ρ) σ
     | .none=>.none) s (fX σ1 s) (xs.length+1) 0 ρ σ1
   | .none=>.none)
  | .none=>.none
 | .ret e,ρ,σ=>match gK P c e ρ σ with
  |some (v,σ1)=>some (.ret v,ρ,σ1)
  | .none=>.none
 | .Gw,_,_=>.none
 | .zH body fm,ρ,σ=>match kW body ρ σ with
  |some (f,cu,σ1)=>(match kW fm cu σ1 with
   |some (.next,xD,aX)=>some (f,xD,aX)
   |_=>.none)
  | .none=>.none
noncomputable def kW:List St->aO->H->Option (Fl×aO×H)
 |[],ρ,σ=>some (.next,ρ,σ)
 |s::r,ρ,σ=>match exS s ρ σ with
  |some (.next,cu,σ1)=>kW r cu σ1
  |some (.ret v,cu,σ1)=>some (.ret v,cu,σ1)
  | .none=>.none
end
end
noncomputable def bC(P:b5):Nat->Calls
 |0,_,_,_=>.none
 |d+1,f,vs,σ=>match P.fn f with
  | .none=>.none
  |some fn=>match bindL fn.params vs fn.j8 with
   | .none=>.none
   |some ρ=>match kW P (bC P d) fn.body ρ σ with
    |some (.ret v,_,σ1)=>some (v,σ1)
    |some (.next,_,σ1)=>some (.none,σ1)
    | .none=>.none
theorem Ry{P:b5}{d f:Nat}{vs:List V}{σ:H}:bC P (d+1) f vs σ=(match P.fn f with
  | .none=>.none
  |some fn=>match bindL fn.params vs fn.j8 with
   | .none=>.none
   |some ρ=>match kW P (bC P d) fn.body ρ σ with
    |some (.ret v,_,σ1)=>some (v,σ1)
    |some (.next,_,σ1)=>some (.none,σ1)
    | .none=>.none):=rfl
end
theorem bB{γ:Type}{o:Option (V×H)}{f:V->H->Option γ}{r:γ}{G:Prop}(h:(match o with|some (a,b)=>f a b|none=>none)=some r)(k:∀a b,o=some (a,b)->f a b=some r->G):G:=by
 rcases o with _|⟨a,b⟩
 ·cases h
 ·exact k a b rfl h
theorem sj{γ:Type}{o:Option (V)}{f:V->Option γ}{r:γ}{G:Prop}(h:(match o with|some a=>f a|none=>none)=some r)(k:∀a,o=some a->f a=some r->G):G:=by
 rcases o with _|a
 ·cases h
 ·exact k a rfl h
theorem lq{γ:Type}{o:Option (List V×H)}{f:List V->H->Option γ}{r:γ}{G:Prop}(h:(match o with|some (a,b)=>f a b|none=>none)=some r)(k:∀a b,o=some (a,b)->f a b=some r->G):G:=by
 rcases o with _|⟨a,b⟩
 ·cases h
 ·exact k a b rfl h
theorem adm{γ:Type}{o:Option (List V×H)}{f:List V->H->Option γ}{r:γ}{G:Prop}(h:(match o with|none=>none|some (a,b)=>f a b)=some r)(k:∀a b,o=some (a,b)->f a b=some r->G):G:=by
 rcases o with _|⟨a,b⟩
 ·cases h
 ·exact k a b rfl h
theorem Dv{γ:Type}{o:Option (H)}{f:H->Option γ}{r:γ}{G:Prop}(h:(match o with|some a=>f a|none=>none)=some r)(k:∀a,o=some a->f a=some r->G):G:=by
 rcases o with _|a
 ·cases h
 ·exact k a rfl h
theorem yx{γ:Type}{o:Option (Bool×H)}{f:Bool->H->Option γ}{r:γ}{G:Prop}(h:(match o with|some (a,b)=>f a b|none=>none)=some r)(k:∀a b,o=some (a,b)->f a b=some r->G):G:=by
 rcases o with _|⟨a,b⟩
 ·cases h
 ·exact k a b rfl h
theorem adn{γ:Type}{o:Option (Bool×H)}{f:Bool->H->Option γ}{r:γ}{G:Prop}(h:(match o with|none=>none|some (a,b)=>f a b)=some r)(k:∀a b,o=some (a,b)->f a b=some r->G):G:=by
 rcases o with _|⟨a,b⟩
 ·cases h
 ·exact k a b rfl h
theorem OB{γ:Type}{o:Option (Bool)}{f:Bool->Option γ}{r:γ}{G:Prop}(h:(match o with|some a=>f a|none=>none)=some r)(k:∀a,o=some a->f a=some r->G):G:=by
 rcases o with _|a
 ·cases h
 ·exact k a rfl h
theorem GK{γ:Type}{o:Option (List V)}{f:List V->Option γ}{r:γ}{G:Prop}(h:(match o with|some a=>f a|none=>none)=some r)(k:∀a,o=some a->f a=some r->G):G:=by
 rcases o with _|a
 ·cases h
 ·exact k a rfl h
theorem agC{γ:Type}{o:Option (Nat)}{f:Nat->Option γ}{r:γ}{G:Prop}(h:(match o with|some a=>f a|none=>none)=some r)(k:∀a,o=some a->f a=some r->G):G:=by
 rcases o with _|a
 ·cases h
 ·exact k a rfl h
theorem agD{γ:Type}{o:Option (aO)}{f:aO->Option γ}{r:γ}{G:Prop}(h:(match o with|some a=>f a|none=>none)=some r)(k:∀a,o=some a->f a=some r->G):G:=by
 rcases o with _|a
 ·cases h
 ·exact k a rfl h
theorem aae{γ:Type}{o:Option (aO)}{f:aO->Option γ}{r:γ}{G:Prop}(h:(match o with|none=>none|some a=>f a)=some r)(k:∀a,o=some a->f a=some r->G):G:=by
 rcases o with _|a
 ·cases h
 ·exact k a rfl h
theorem JF{γ:Type}{o:Option (aO×H)}{f:aO->H->Option γ}{r:γ}{G:Prop}(h:(match o with|some (a,b)=>f a b|none=>none)=some r)(k:∀a b,o=some (a,b)->f a b=some r->G):G:=by
 rcases o with _|⟨a,b⟩
 ·cases h
 ·exact k a b rfl h
theorem agE{γ:Type}{o:Option (Fn)}{f:Fn->Option γ}{r:γ}{G:Prop}(h:(match o with|none=>none|some a=>f a)=some r)(k:∀a,o=some a->f a=some r->G):G:=by
 rcases o with _|a
 ·cases h
 ·exact k a rfl h
theorem adl{γ:Type}{o:Option (Option V×H)}{f:Option V->H->Option γ}{r:γ}{G:Prop}(h:(match o with|none=>none|some (a,b)=>f a b)=some r)(k:∀a b,o=some (a,b)->f a b=some r->G):G:=by
 rcases o with _|⟨a,b⟩
 ·cases h
 ·exact k a b rfl h
theorem lK{γ:Type}{p:Prop} [Decidable p]{x:Option γ}{r:γ}{G:Prop}(h:(if p then x else none)=some r)(k:p->x=some r->G):G:=by
 by_cases q:p
 ·rw[aI q]at h;exact k q h
 ·rw[aG q]at h;cases h
@[elab_as_elim] theorem kT{α β:Type}{a c:α}{b d:β}{G:α->β->Prop}(h:some (a,b)=some (c,d))(k:G a b):G c d:=by cases h;exact k
@[elab_as_elim] theorem Ij{α β γ:Type}{a c:α}{b d:β}{e f:γ}{G:α->β->γ->Prop}(h:some (a,b,e)=some (c,d,f))(k:G a b e):G c d f:=by cases h;exact k
@[elab_as_elim] theorem xF{α:Type}{a b:α}{G:α->Prop}(h:some a=some b)(k:G a):G b:=by cases h;exact k
theorem i8{f:Int->Int->Option V}{a b z:V}{G:Prop}(h:xJ f a b=some z)(k:∀i j,a=.int i->b=.int j->f i j=some z->G):G:=by
 cases a with
 |int i=>cases b with
  |int j=>exact k i j rfl rfl h
  |_=>exact nomatch h
 |_=>exact nomatch h
theorem bJ{α:Type}{a:α}{G:Prop}(h:none=some a):G:=nomatch h
theorem ado{o:Option (Fl×aO×H)}{g:aO->H->Option (Fl×aO×H)}{r:Fl×aO×H}{G:Prop}(h:(match o with|some (f,cu,σ1)=>(match g cu σ1 with|some (.next,xD,aX)=>some (f,xD,aX)|_=>none)|none=>none)=some r)
  (k:∀f cu σ1 xD aX,o=some (f,cu,σ1)->g cu σ1=some (.next,xD,aX)->some (f,xD,aX)=some r->G):G:=by
 cases o with
 |none=>exact bJ h
 |some p=>
  cases p with|mk f p=>
  cases p with|mk cu σ1=>
  have h:(match g cu σ1 with|some (.next,xD,aX)=>some (f,xD,aX)|_=>none)=some r:=h
  cases e:g cu σ1 with
  |none=>rw[e]at h;exact bJ h
  |some q=>
   rw[e]at h
   cases q with|mk f2 q=>
   cases f2 with
   |next=>exact k f cu σ1 q.1 q.2 rfl e h
   |ret v=>exact bJ h
theorem adp{o:Option (Fl×aO×H)}{g:aO->H->Option (Fl×aO×H)}{r:Fl×aO×H}{G:Prop}(h:(match o with|some (.next,cu,σ1)=>g cu σ1|some (.ret v,cu,σ1)=>some (.ret v,cu,σ1)|none=>none)=some r)
  (k1:∀cu σ1,o=some (.next,cu,σ1)->g cu σ1=some r->G)(k2:∀v cu σ1,o=some (.ret v,cu,σ1)->some (.ret v,cu,σ1)=some r->G):G:=by
 cases o with
 |none=>exact bJ h
 |some p=>
  cases p with|mk f p=>
  cases f with
  |next=>exact k1 p.1 p.2 rfl h
  |ret v=>exact k2 v p.1 p.2 rfl h
theorem rB{Q:b5}{c:Calls}{x:Ex}{ρ:aO}{σ σ1:H}{a:V}(e:gK Q c x ρ σ=some (a,σ1)):zE Q c [x] ρ σ=some ([a],σ1):=by
 show(match gK Q c x ρ σ with|some (v,σ1)=>(match zE Q c [] ρ σ1 with|some (vs,aX)=>some (v::vs,aX)|none=>none)|none=>none)=_
 rw[e];rfl
theorem Bc{α β:Type}{a c:α}{b d:β}(h:some (a,b)=some (c,d)):a=c:=congrArg Prod.fst (ig h)
theorem AX{α β:Type}{a c:α}{b d:β}(h:some (a,b)=some (c,d)):b=d:=congrArg Prod.snd (ig h)
theorem Bd{p:Prop}(h:∀q:Prop,(p->q)->q):p:=h p id
theorem Wu{T:V->H->Option (Option V×H)}{s:V}{n m k:Nat}{σ aK:H}{vs:List V}{G:Prop}(h:compLoop T s n m k σ=some (vs,aK))
  (k0:∀j,m=j+1->cI σ s n k=some .none->some ([],σ)=some (vs,aK)->G)
  (k1:∀j v r σ1 us aX,m=j+1->cI σ s n k=some (some v)->T v σ=some (r,σ1)->compLoop T s n j (k+1) σ1=some (us,aX)->some (r.toList++us,aX)=some (vs,aK)->G):G:=by
 cases m with
 |zero=>exact bJ h
 |succ j=>
  have h:(match cI σ s n k with|none=>none|some none=>some ([],σ)|some (some v)=>(match T v σ with|none=>none|some (r,σ1)=>(match compLoop T s n j (k+1) σ1 with|none=>none|some (us,aX)=>some (r.toList++us,aX))))=some (vs,aK):=h
  revert h
  cases e:cI σ s n k with
  |none=>exact bJ
  |some o=>cases o with
   |none=>exact k0 j rfl e
   |some v=>exact fun h=>adl h fun r σ1 e1 h=>adm h fun us aX e2 h=>k1 j v r σ1 us aX rfl e e1 e2 h
theorem adx{T:V->aO->H->Option (Fl×aO×H)}{s:V}{n m k:Nat}{ρ:aO}{σ:H}{x:Fl×aO×H}{G:Prop}(h:forLoop T s n m k ρ σ=some x)
  (k0:∀j,m=j+1->cI σ s n k=some .none->some (Fl.next,ρ,σ)=some x->G)
  (k1:∀j v fl cu σ1,m=j+1->cI σ s n k=some (some v)->T v ρ σ=some (fl,cu,σ1)->(fl=.next->forLoop T s n j (k+1) cu σ1=some x)->(∀u,fl=.ret u->some (Fl.ret u,cu,σ1)=some x)->G):G:=by
 cases m with
 |zero=>exact bJ h
 |succ j=>
  have h:(match cI σ s n k with|none=>none|some none=>some (Fl.next,ρ,σ)|some (some v)=>(match T v ρ σ with|none=>none|some (.next,cu,σ1)=>forLoop T s n j (k+1) cu σ1|some (.ret v,cu,σ1)=>some (.ret v,cu,σ1)))=some x:=h
  revert h
  cases e:cI σ s n k with
  |none=>exact bJ
  |some o=>cases o with
   |none=>exact k0 j rfl e
   |some v=>
    dsimp only
    cases e1:T v ρ σ with
    |none=>exact bJ
    |some p=>cases p with|mk f p=>cases p with|mk cu σ1=>cases f with
     |next=>exact fun h=>k1 j v .next cu σ1 rfl e e1 (fun _=>h) nofun
     |ret u=>exact fun h=>k1 j v (.ret u) cu σ1 rfl e e1 nofun fun _ q=>by cases q;exact h
theorem JH{σ:H}{s:V}{n k:Nat}{r:Option V}{G:Prop}(h:cI σ s n k=some r)(k1:∀xs,s=.ak xs->xs.length<aJ->xs[k]? =r->G)
  (k2:∀i xs,s=.ref i->σ[i]? =some (.list xs)->xs.length<aJ->n=0->xs[k]? =r->G)
  (k3:∀i d es,s=.ref i->σ[i]? =some (.dict d es)->es.length+1=n->n<aJ->(d=1\/d=0)->(es[k]?).map (·.1)=r->G):G:=by
 cases s with
 |ak xs=>exact lK h fun q h=>k1 xs rfl q (ig h)
 |none=>exact bJ h
 |bool=>exact bJ h
 |int=>exact bJ h
 |str=>exact bJ h
 |gu=>exact bJ h
 |ref i=>
  have h:(match σ[i]? with|some (.list xs)=>if xs.length<aJ&&n==0 then some xs[k]? else none|some (.dict d es)=>if es.length+1==n&&decide (n<aJ)&&(d==1||d==0)then some ((es[k]?).map (·.1))else none|_=>none)=some r:=h
  revert h
  cases e:σ[i]? with
  |none=>exact bJ
  |some o=>cases o with
   |list xs=>exact fun h=>lK h fun q h=>k2 i xs rfl e (jx (Bool.and_eq_true_iff.mp q).1) (eq_of_beq (Bool.and_eq_true_iff.mp q).2) (ig h)
   |dict d es=>exact fun h=>lK h fun q h=>k3 i d es rfl e (eq_of_beq (Bool.and_eq_true_iff.mp (Bool.and_eq_true_iff.mp q).1).1) (jx (Bool.and_eq_true_iff.mp (Bool.and_eq_true_iff.mp q).1).2) ((Bool.or_eq_true_iff.mp (Bool.and_eq_true_iff.mp q).2).imp eq_of_beq eq_of_beq) (ig h)
   |bE=>exact bJ
theorem PO{σ:H}{s:V}{r:List V}{G:Prop}(h:ao σ s=some r)(k1:∀xs,s=.ak xs->G)(k2:∀i xs,s=.ref i->σ[i]? =some (.list xs)->G)
  (k3:∀i d es,s=.ref i->σ[i]? =some (.dict d es)->(d=1\/d=0)->G):G:=by
 cases s with
 |none=>exact bJ h
 |bool=>exact bJ h
 |int=>exact bJ h
 |str=>exact bJ h
 |gu=>exact bJ h
 |ak xs=>exact k1 xs rfl
 |ref i=>
  have h:(match σ[i]? with|some (.list xs)=>if xs.length<aJ then some xs else none|some (.dict k es)=>if es.length<aJ&&(k==1||k==0)then some (es.map (·.1))else none|_=>none)=some r:=h
  revert h
  cases e:σ[i]? with
  |none=>exact bJ
  |some o=>cases o with
   |list xs=>exact fun _=>k2 i xs rfl e
   |dict d es=>exact fun h=>lK h fun q _=>k3 i d es rfl e ((Bool.or_eq_true_iff.mp (Bool.and_eq_true_iff.mp q).2).imp eq_of_beq eq_of_beq)
   |bE=>exact bJ
theorem ads{o:Option (Fl×aO×H)}{r:V×H}{G:Prop}(h:(match o with|some (.ret v,_,σ1)=>some (v,σ1)|some (.next,_,σ1)=>some (.none,σ1)|none=>none)=some r)(k:∀fl cu σ1,o=some (fl,cu,σ1)->some ((match fl with| .ret v=>v| .next=>.none),σ1)=some r->G):G:=by
 cases o with
 |none=>exact bJ h
 |some p=>cases p with|mk f p=>cases p with|mk cu σ1=>cases f with
  |next=>exact k .next cu σ1 rfl h
  |ret u=>exact k (.ret u) cu σ1 rfl h
theorem adz{σ:H}{a b:V}{r:Bool}{G:Prop}(h:eqv σ a b=some r)(k1:a.cG b=true->decide (a=b)=r->G)
  (k2:∀i j xs ys,a=.ref i->b=.ref j->σ[i]? =some (.list xs)->σ[j]? =some (.list ys)->xs.all V.aS=true->ys.all V.aS=true->decide (xs=ys)=r->G)
  (k3:∀i j xs ys,a=.ref i->b=.ref j->σ[i]? =some (.dict 1 xs)->σ[j]? =some (.dict 1 ys)->xs.all (fun e=>e.2.aS)=true->ys.all (fun e=>e.2.aS)=true->jN xs ys=r->G):G:=by
 have k:(if a.cG b then some (decide (a=b))else none)=some r->G:=fun h=>lK h fun q h=>k1 q (ig h)
 clear k1
 cases a with
 |none=>exact k h
 |bool=>exact k h
 |int=>exact k h
 |str=>exact k h
 |ak=>exact k h
 |gu=>exact k h
 |ref i=>cases b with
  |none=>exact k h
  |bool=>exact k h
  |int=>exact k h
  |str=>exact k h
  |ak=>exact k h
  |gu=>exact k h
  |ref j=>
   have h:(match σ[i]?,σ[j]? with|some (.list xs),some (.list ys)=>if xs.all V.aS&&ys.all V.aS then some (decide (xs=ys))else none|some (.dict k xs),some (.dict l ys)=>if k==1&&l==1&&xs.all (fun e=>e.2.aS)&&ys.all (fun e=>e.2.aS)then some (jN xs ys)else none|_,_=>none)=some r:=h
   revert h
   cases e1:σ[i]? with
   |none=>exact bJ
   |some o=>cases o with
    |bE=>exact bJ
    |list xs=>cases e2:σ[j]? with
     |none=>exact bJ
     |some p=>cases p with
      |bE=>exact bJ
      |dict=>exact bJ
      |list ys=>exact fun h=>lK h fun q h=>k2 i j xs ys rfl rfl e1 e2 (Bool.and_eq_true_iff.mp q).1 (Bool.and_eq_true_iff.mp q).2 (ig h)
    |dict k xs=>cases e2:σ[j]? with
     |none=>exact bJ
     |some p=>cases p with
      |bE=>exact bJ
      |list=>exact bJ
      |dict l ys=>
       intro h
       refine lK h fun q h2=> ?_
       have q:=Bool.and_eq_true_iff.mp q
       have q1:=Bool.and_eq_true_iff.mp q.1
       have q2:=Bool.and_eq_true_iff.mp q1.1
       have q3:k=1:=eq_of_beq q2.1
       have q4:l=1:=eq_of_beq q2.2
       subst q3 q4
       exact k3 i j xs ys rfl rfl e1 e2 q1.2 q.2 (ig h2)
theorem adu{σ:H}{v y:V}{r:Bool}{G:Prop}(h:bD σ v y=some r)(k1:∀xs,y=.ak xs->(v.cG v&&xs.all v.cG)=true->decide (v∈xs)=r->G)
  (k2:∀i xs,y=.ref i->σ[i]? =some (.list xs)->(v.cG v&&xs.all v.cG)=true->decide (v∈xs)=r->G)
  (k3:∀i k es,y=.ref i->σ[i]? =some (.dict k es)->(v.kind !=0&&(k==0||v.kind==k))=true->(aT v es).isSome=r->G):G:=by
 cases y with
 |none=>exact bJ h
 |bool=>exact bJ h
 |int=>exact bJ h
 |str=>exact bJ h
 |gu=>exact bJ h
 |ak xs=>exact lK h fun q h=>k1 xs rfl q (ig h)
 |ref i=>
  have h:(match σ[i]? with|some (.list xs)=>if v.cG v&&xs.all v.cG then some (decide (v∈xs))else none|some (.dict k es)=>if v.kind !=0&&(k==0||v.kind==k)then some (aT v es).isSome else none|_=>none)=some r:=h
  revert h
  cases e:σ[i]? with
  |none=>exact bJ
  |some o=>cases o with
   |list xs=>exact fun h=>lK h fun q h=>k2 i xs rfl e q (ig h)
   |dict k es=>exact fun h=>lK h fun q h=>k3 i k es rfl e q (ig h)
   |bE=>exact bJ
theorem Wt{σ:H}{x y z:V}{G:Prop}(h:item σ x y=some z)(k1:∀xs i,x=.ak xs->y=.int i->xs.length<aJ->nth xs i=some z->G)
  (k2:∀s i,x=.str s->y=.int i->0<=i/\s.length<aJ->(s[i.toNat]?).map (fun c=>V.str [c])=some z->G)
  (k3:∀r xs i,x=.ref r->y=.int i->σ[r]? =some (.list xs)->0<=i/\xs.length<aJ->xs[i.toNat]? =some z->G)
  (k4:∀r k es,x=.ref r->σ[r]? =some (.dict k es)->y.kind=k->k≠0->aT y es=some z->G):G:=by
 cases x with
 |none=>exact bJ h
 |bool=>exact bJ h
 |int=>exact bJ h
 |gu=>exact bJ h
 |ak xs=>cases y with
  |int i=>exact lK h fun q h=>k1 xs i rfl rfl q h
  |_=>exact bJ h
 |str s=>cases y with
  |int i=>exact lK h fun q h=>k2 s i rfl rfl q h
  |_=>exact bJ h
 |ref r=>
  have h:(match σ[r]? with|some (.list xs)=>(match(generalizing:=false) y with| .int i=>if 0<=i/\xs.length<aJ then xs[i.toNat]? else none|_=>none)|some (.dict k es)=>if y.kind==k&&k !=0 then aT y es else none|_=>none)=some z:=h
  revert h
  cases e:σ[r]? with
  |none=>exact bJ
  |some o=>cases o with
   |list xs=>cases y with
    |int i=>exact fun h=>lK h fun q h=>k3 r xs i rfl rfl e q h
    |_=>exact bJ
   |dict k es=>exact fun h=>lK h fun q h=>k4 r k es rfl e (eq_of_beq (Bool.and_eq_true_iff.mp q).1) (bne_iff_ne.mp (Bool.and_eq_true_iff.mp q).2) h
   |bE=>exact bJ
theorem PN{σ:H}{x:V}{r:Bool}{G:Prop}(h:k9 σ x=some r)(k1:x=.bool r->G)(k2:∀i xs,x=.ref i->σ[i]? =some (.list xs)->xs.length<aJ->(!xs.isEmpty)=r->G):G:=by
 cases x with
 |none=>exact bJ h
 |int=>exact bJ h
 |str=>exact bJ h
 |ak=>exact bJ h
 |gu=>exact bJ h
 |bool b=>exact k1 (congrArg V.bool (ig h))
 |ref i=>
  have h:(match σ[i]? with|some (.list xs)=>if xs.length<aJ then some (!xs.isEmpty)else none|_=>none)=some r:=h
  revert h
  cases e:σ[i]? with
  |none=>exact bJ
  |some o=>cases o with
   |list xs=>exact fun h=>lK h fun q h=>k2 i xs rfl e q (ig h)
   |dict=>exact bJ
   |bE=>exact bJ
theorem sL{α:Type}{x y:Nat}{v w:α}{ρ:List (Nat×α)}{G:Prop}(h:ay y ((x,v)::ρ)=some w)(k1:y=x->v=w->G)(k2:y≠x->ay y ρ=some w->G):G:=by
 have h:(if y=x then some v else ay y ρ)=some w:=h
 by_cases q:y=x
 ·rw[aI q]at h;exact k1 q (ig h)
 ·rw[aG q]at h;exact k2 q h
theorem Wr{σ:H}{o:V}{xs:List V}{G:Prop}(h:ny σ o=some xs)(k1:o=.ak xs->G)(k2:∀i,o=.ref i->σ[i]? =some (.list xs)->G)(k3:∀i d es,o=.ref i->σ[i]? =some (.dict d es)->(d=1\/d=0)->es.map (·.1)=xs->G):G:=by
 cases o with
 |none=>exact bJ h
 |bool=>exact bJ h
 |int=>exact bJ h
 |str=>exact bJ h
 |gu=>exact bJ h
 |ak xs=>exact k1 (congrArg V.ak (ig h))
 |ref i=>
  have h:(match σ[i]? with|some (.list xs)=>some xs|some (.dict k es)=>if k==0||k==1 then some (es.map (·.1))else none|_=>none)=some xs:=h
  revert h
  cases e:σ[i]? with
  |none=>exact bJ
  |some o=>cases o with
   |list xs=>exact fun h=>k2 i rfl (e.trans (congrArg (fun x=>some (Ob.list x)) (ig h)))
   |dict d es=>exact fun h=>lK h fun q h=>k3 i d es rfl e ((Bool.or_eq_true_iff.mp q).symm.imp eq_of_beq eq_of_beq) (ig h)
   |bE=>exact bJ
theorem DQ{γ:Type}{σ:H}{o:V}(f:Nat->Nat->List (Nat×V)->Option γ){r:γ}{G:Prop}(h:(match o with| .ref i=>(match σ[i]? with|some (.bE c fs)=>f i c fs|_=>none)|_=>none)=some r)(k:∀i c fs,o=.ref i->σ[i]? =some (.bE c fs)->f i c fs=some r->G):G:=by
 cases o with
 |none=>exact bJ h
 |bool=>exact bJ h
 |int=>exact bJ h
 |str=>exact bJ h
 |ak=>exact bJ h
 |gu=>exact bJ h
 |ref i=>
  have h:(match σ[i]? with|some (.bE c fs)=>f i c fs|_=>none)=some r:=h
  revert h
  cases e:σ[i]? with
  |none=>exact bJ
  |some o=>cases o with
   |bE c fs=>exact k i c fs rfl e
   |list=>exact bJ
   |dict=>exact bJ
theorem vN{γ:Type}{σ:H}{o:V}(f:Nat->List V->Option γ){r:γ}{G:Prop}(h:(match o with| .ref i=>(match σ[i]? with|some (.list xs)=>f i xs|_=>none)|_=>none)=some r)(k:∀i xs,o=.ref i->σ[i]? =some (.list xs)->f i xs=some r->G):G:=by
 cases o with
 |none=>exact bJ h
 |bool=>exact bJ h
 |int=>exact bJ h
 |str=>exact bJ h
 |ak=>exact bJ h
 |gu=>exact bJ h
 |ref i=>
  have h:(match σ[i]? with|some (.list xs)=>f i xs|_=>none)=some r:=h
  revert h
  cases e:σ[i]? with
  |none=>exact bJ
  |some o=>cases o with
   |list xs=>exact k i xs rfl e
   |bE=>exact bJ
   |dict=>exact bJ
theorem DR{γ:Type}{σ:H}{o:V}(f:Nat->Nat->List (V×V)->Option γ){r:γ}{G:Prop}(h:(match o with| .ref i=>(match σ[i]? with|some (.dict n es)=>f i n es|_=>none)|_=>none)=some r)(k:∀i n es,o=.ref i->σ[i]? =some (.dict n es)->f i n es=some r->G):G:=by
 cases o with
 |none=>exact bJ h
 |bool=>exact bJ h
 |int=>exact bJ h
 |str=>exact bJ h
 |ak=>exact bJ h
 |gu=>exact bJ h
 |ref i=>
  have h:(match σ[i]? with|some (.dict n es)=>f i n es|_=>none)=some r:=h
  revert h
  cases e:σ[i]? with
  |none=>exact bJ
  |some o=>cases o with
   |dict n es=>exact k i n es rfl e
   |bE=>exact bJ
   |list=>exact bJ
theorem adv{σ:H}{o:V}{G:Prop}(h:Gl σ o=true)(k:∀i xs,o=.ref i->σ[i]? =some (.list xs)->G):G:=
 vN (γ:=Unit) (fun _ _=>some ()) (r:=()) (by
  cases o with
  |ref i=>
   have h:(match σ[i]? with|some (.list _)=>true|_=>false)=true:=h
   show(match σ[i]? with|some (.list _)=>some ()|_=>none)=some ()
   cases e:σ[i]? with
   |none=>rw[e]at h;exact nomatch h
   |some o=>cases o with
    |list=>rfl
    |dict=>rw[e]at h;exact nomatch h
    |bE=>rw[e]at h;exact nomatch h
  |_=>exact nomatch h) fun i xs e1 e2 _=>k i xs e1 e2
theorem adw{σ:H}{o:V}{G:Prop}(h:NF σ o=true)(k:∀i n es,o=.ref i->σ[i]? =some (.dict n es)->G):G:=
 DR (γ:=Unit) (fun _ _ _=>some ()) (r:=()) (by
  cases o with
  |ref i=>
   have h:(match σ[i]? with|some (.dict _ _)=>true|_=>false)=true:=h
   show(match σ[i]? with|some (.dict _ _)=>some ()|_=>none)=some ()
   cases e:σ[i]? with
   |none=>rw[e]at h;exact nomatch h
   |some o=>cases o with
    |dict=>rfl
    |list=>rw[e]at h;exact nomatch h
    |bE=>rw[e]at h;exact nomatch h
  |_=>exact nomatch h) fun i n es e1 e2 _=>k i n es e1 e2
theorem Ws{σ:H}{o:V}{xs:List V}{G:Prop}(h:uh σ o=some xs)(k1:o=.ak xs->xs.length<aJ->G)(k2:∀i,o=.ref i->σ[i]? =some (.list xs)->xs.length<aJ->G):G:=by
 cases o with
 |ak ys=>exact lK h fun q h=>by cases h;exact k1 rfl q
 |ref i=>exact vN (fun _ xs=>if xs.length<aJ then some xs else none) (o:=.ref i) h fun j ys e1 e2 h=>lK h fun q h=>by cases h;exact k2 j e1 e2 q
 |_=>exact bJ h
theorem ady{σ r:H}{o x:V}{G:Prop}(h:lZ σ o x=some r)(k:∀i xs ys,o=.ref i->x=.ak ys->σ[i]? =some (.list xs)->xs.length+ys.length<aJ->σ.set i (.list (xs++ys))=r->G):G:=by
 cases o with
 |ref i=>cases x with
  |ak ys=>exact vN (o:=.ref i) (fun i xs=>if xs.length+ys.length<aJ then some (σ.set i (.list (xs++ys)))else none) h fun j xs e1 e2 h=>lK h fun q h=>k j xs ys e1 rfl e2 q (ig h)
  |_=>exact bJ h
 |_=>exact bJ h
theorem JG{tg:List Nat}{v:V}{b:aO}{G:Prop}(h:cT tg v=some b)(k1:∀x,tg=[x]->b=[(x,v)]->G)(k2:∀vs,v=.ak vs->tg.length=vs.length->b=tg.zip vs->G):G:=by
 have AW:(∀x,tg≠[x])->G:=fun hn=>by
  cases v with
  |ak vs=>
   have h:(if tg.length=vs.length then some (tg.zip vs)else none)=some b:=by
    match tg,hn,h with
    |[],_,h=>exact h
    |[x],hn,_=>exact absurd rfl (hn x)
    |_::_::_,_,h=>exact h
   exact lK h fun q h=>k2 vs rfl q (ig h).symm
  |_=>
   match tg,hn,h with
   |[],_,h=>exact bJ h
   |[x],hn,_=>exact absurd rfl (hn x)
   |_::_::_,_,h=>exact bJ h
 match tg,h,k1,AW with
 |[],_,_,AW=>exact AW fun x=>nofun
 |[x],h,k1,_=>exact k1 x rfl (ig h).symm
 |_::_::_,_,_,AW=>exact AW fun x=>nofun
theorem kK{a b:Bool}(ha:a=true)(hb:b=true):(a&&b)=true:=(dX _ _).mpr ⟨ha,hb⟩
theorem lA{σ:H}{i:Nat}{xs:List V}{v:V}(h:σ[i]? =some (.list xs))(k:(v.cG v&&xs.all v.cG)=true):bD σ v (.ref i)=some (decide (v∈xs)):=by unfold bD;dsimp only;rw[h];exact aI k
theorem Aw{σ:H}{xs:List V}{v:V}(k:(v.cG v&&xs.all v.cG)=true):bD σ v (.ak xs)=some (decide (v∈xs)):=aI k
theorem H6{σ:H}{i n:Nat}{es:List (V×V)}{v d:V}(h:σ[i]? =some (.dict n es))(k:(v.kind !=0&&(n==0||v.kind==n))=true):j7 σ (.ref i) v d=some ((aT v es).getD d):=by unfold j7;dsimp only;rw[h];exact aI k
theorem vV{σ:H}{i n:Nat}{es:List (V×V)}{u v:V}(h:σ[i]? =some (.dict n es))(k:((n==u.kind||n==0)&&u.kind !=0&&es.length<aJ)=true):dD σ (.ref i) u v=some (σ.set i (.dict u.kind (dM u v es))):=by unfold dD;dsimp only;rw[h];exact aI k
theorem LJ{σ:H}{i:Nat}{xs:List V}(h:σ[i]? =some (.list xs)):ny σ (.ref i)=some xs:=by unfold ny;dsimp only;rw[h]
theorem Mn{σ:H}{i:Nat}{xs:List V}(h:σ[i]? =some (.list xs)):Gl σ (.ref i)=true:=by unfold Gl;dsimp only;rw[h]
theorem Mp{σ:H}{i n:Nat}{es:List (V×V)}(h:σ[i]? =some (.dict n es)):NF σ (.ref i)=true:=by unfold NF;dsimp only;rw[h]
theorem LP{gI:Nat->Nat->Bool}{σ:H}{i c a:Nat}{fs:List (Nat×V)}{v:V}(h:σ[i]? =some (.bE c fs))(k:(fs.length<500&&gI c a)=true):lO gI σ (.ref i) a v=some (σ.set i (.bE c (eX a v fs))):=by unfold lO;dsimp only;rw[h];exact aI k
theorem Mw{σ:H}{i c a:Nat}{fs:List (Nat×V)}(h:σ[i]? =some (.bE c fs)):nh σ (.ref i) a=ay a fs:=by unfold nh;dsimp only;rw[h]
theorem adq{γ:Type}{a:V}{r1:Option γ}{r:γ}{G:Prop}(h:(match a with| .gu=>r1|_=>none)=some r)(k:a=.gu->r1=some r->G):G:=by
 cases a with
 |gu=>exact k rfl h
 |_=>exact bJ h
theorem adt{P:b5}{c:Calls}{cl:Nat}{vs:List V}{σ:H}{r:V×H}{G:Prop}(h:BB P c cl vs σ=some r)
  (k1:∀f σ1,P.pD cl=some f->c f (.ref σ.length::vs) (σ++[.bE cl []])=some (.none,σ1)->some (V.ref σ.length,σ1)=some r->G)(k2:P.pD cl=none->vs=[]->some (V.ref σ.length,σ++[.bE cl []])=some r->G):G:=by
 have h:(match(generalizing:=false) P.pD cl with|some f=>(match(generalizing:=false) c f (.ref σ.length::vs) (σ++[.bE cl []])with|some (.none,aK)=>some (V.ref σ.length,aK)|_=>none)|none=>(match(generalizing:=false) vs with|[]=>some (V.ref σ.length,σ++[.bE cl []])|_=>none))=some r:=h
 cases e:P.pD cl with
 |none=>
  rw[e]at h
  cases vs with
  |nil=>exact k2 e rfl h
  |cons=>exact bJ h
 |some f=>
  rw[e]at h
  dsimp only at h
  cases e2:c f (.ref σ.length::vs) (σ++[.bE cl []])with
  |none=>rw[e2]at h;exact bJ h
  |some p=>cases p with
   |mk v σ1=>
    rw[e2]at h
    cases v with
    |none=>exact k1 f σ1 e e2 h
    |_=>exact bJ h
theorem LC{σ:H}{i n:Nat}{es:List (V×V)}(h:σ[i]? =some (.dict n es)):fX σ (.ref i)=es.length+1:=by unfold fX;dsimp only;rw[h]
theorem Ci{σ:H}{i n:Nat}{es:List (V×V)}{v:V}(h:σ[i]? =some (.dict n es))(k:(v.kind !=0&&(n==0||v.kind==n))=true):bD σ v (.ref i)=some (aT v es).isSome:=by unfold bD;dsimp only;rw[h];exact aI k
theorem PP{σ:H}{xs:List V}{i:Nat}(k:xs.length<aJ):item σ (.ak xs) (.int i)=xs[i]? :=(aI k).trans (aI (Int.natCast_nonneg i))
theorem we{σ:H}{r i:Nat}{xs:List V}(h:σ[r]? =some (.list xs))(k:xs.length<aJ):item σ (.ref r) (.int i)=xs[i]? :=by unfold item;dsimp only;rw[h];exact aI ⟨Int.natCast_nonneg i,k⟩
theorem Cz{σ:H}{r n:Nat}{es:List (V×V)}{v:V}(h:σ[r]? =some (.dict n es))(k:(v.kind==n&&n !=0)=true):item σ (.ref r) v=aT v es:=by unfold item;dsimp only;rw[h];exact aI k
theorem B6{σ:H}{i:Nat}{xs:List V}{v:V}(h:σ[i]? =some (.list xs))(k:xs.length<aJ):push σ (.ref i) v=some (σ.set i (.list (xs++[v]))):=by unfold push;dsimp only;rw[h];exact aI k
theorem As{σ:H}{i:Nat}{xs:List V}(h:σ[i]? =some (.list xs))(k:xs.length<aJ):uh σ (.ref i)=some xs:=by unfold uh;dsimp only;rw[h];exact aI k
theorem Mh{σ:H}{i:Nat}{xs:List V}(h:σ[i]? =some (.list xs))(k:xs.length<aJ):vA σ (.ref i)=some xs:=by unfold vA;dsimp only;rw[h];exact aI k
theorem Cy{σ:H}{i:Nat}{xs:List V}(h:σ[i]? =some (.list xs))(k:xs.length<aJ):ao σ (.ref i)=some xs:=by unfold ao;dsimp only;rw[h];exact aI k
theorem Lw{σ:H}{i:Nat}{xs:List V}(h:σ[i]? =some (.list xs))(k:xs.length<aJ):k9 σ (.ref i)=some (!xs.isEmpty):=by unfold k9;dsimp only;rw[h];exact aI k
theorem vU{σ:H}{i:Nat}{xs:List V}(h:σ[i]? =some (.list xs)):fX σ (.ref i)=0:=by unfold fX;dsimp only;rw[h]
theorem LK{σ:H}{xs:List V}{n k:Nat}(h:xs.length<aJ):cI σ (.ak xs) n k=some xs[k]? :=aI h
theorem O8{σ:H}{i k:Nat}{xs:List V}(e:σ[i]? =some (.list xs))(h:xs.length<aJ):cI σ (.ref i) 0 k=some xs[k]? :=by unfold cI;dsimp only;rw[e];exact aI (kK (ez h) rfl)
theorem O9{σ:H}{i d k:Nat}{es:List (V×V)}(e:σ[i]? =some (.dict d es))(h:es.length+1<aJ)(hd:d=0\/d=1):cI σ (.ref i) (es.length+1) k=some ((es[k]?).map (·.1)):=by
 unfold cI;dsimp only;rw[e];exact aI (kK (kK (beq_self_eq_true _) (ez h)) (by rcases hd with rfl|rfl<;>rfl))
theorem Cb{k v d:V}{r:List V}{σ:H}:kH (k::v::r) σ d=(match dD σ d k v with
  |some aK=>kH r aK d
  | .none=>.none):=rfl
theorem pe{fN:V->aO->H->Option (Fl×aO×H)}{s:V}{n j k:Nat}{ρ:aO}{σ:H}:forLoop fN s n (j+1) k ρ σ=(match cI σ s n k with
  | .none=>.none
  |some .none=>some (.next,ρ,σ)
  |some (some v)=>match fN v ρ σ with
   | .none=>.none
   |some (.next,cu,σ1)=>forLoop fN s n j (k+1) cu σ1
   |some (.ret v,cu,σ1)=>some (.ret v,cu,σ1)):=rfl
theorem xq{fN:V->H->Option (Option V×H)}{s:V}{n j k:Nat}{σ:H}:compLoop fN s n (j+1) k σ=(match cI σ s n k with
  | .none=>.none
  |some .none=>some ([],σ)
  |some (some v)=>match fN v σ with
   | .none=>.none
   |some (r,σ1)=>match compLoop fN s n j (k+1) σ1 with
    | .none=>.none
    |some (vs,aX)=>some (r.toList++vs,aX)):=rfl
end
section
open PySem PySem.W PyProof.Rows PySem.SeqAt
open Sem (wp)
section
structure Cx where
 prog:Program
 w:World
 K:Frag
 eG:Heap
 nm:Nat->Str
 ca:Nat->Addr
 fa:Nat->Addr
 mg:Str->Option Value
 mb:Str->Option Value
 gI:Nat->Nat->Bool
 gu:Addr
noncomputable abbrev Bt:=List (Addr×Addr)
mutual
noncomputable def aL(C:Cx)(h:Heap)(β:Bt):V->Value->Prop
 | .none,v=>v=.none
 | .bool b,v=>v=.bool b
 | .int i,v=>∃t,v=.int i t
 | .str s,v=>∃t,v=.str ⟨s.toArray⟩ t
 | .ak xs,v=>∃a vs,v=.ref a/\IsTup h a vs.toArray/\aB C h β xs vs
 | .ref i,v=>∃ad,β[i]? =some ad/\v=.ref ad.1
 | .gu,v=>v=.ref C.gu
noncomputable def aB(C:Cx)(h:Heap)(β:Bt):List V->List Value->Prop
 |[],vs=>vs=[]
 |x::r,vs=>∃v t,vs=v::t/\aL C h β x v/\aB C h β r t
end
mutual
noncomputable def mJ(w:World):V->Int
 | .int i=>hashInt i
 | .str s=>hashStr w ⟨s.toArray⟩
 | .ak xs=>reduceHash (Builtin.Tuple.tupleHashOf (lY w xs))
 |_=>0
noncomputable def lY(w:World):List V->List Int
 |[]=>[]
 |x::r=>mJ w x::lY w r
end
noncomputable def bA(C:Cx)(h:Heap)(β:Bt):List (V×V)->List DictEntry->Prop
 |[],es=>es=[]
 |(k,v)::r,es=>∃e t,es=e::t/\aL C h β k e.key/\aL C h β v e.val/\e.hash=mJ C.w k/\bA C h β r t
noncomputable def fZ(C:Cx)(h:Heap)(β:Bt):List (Nat×V)->List DictEntry->Prop
 |[],es=>es=[]
 |(a,v)::r,es=>∃e t,es=e::t/\(∃tk,e.key=.str (C.nm a) tk)/\aL C h β v e.val/\fZ C h β r t
structure dZ(k:Nat)(es:List (V×V)):Prop where
 kind:∀e∈es,e.1.kind=k
 Ul:es≠[]->k≠0
 vt:(es.map (·.1)).Nodup
noncomputable def qN(C:Cx)(h:Heap)(β:Bt)(ad:Addr×Addr):Ob->Prop
 | .list xs=>ad.2=ad.1/\∃vs n,h.get? ad.1=some (listOf vs.toArray n)/\aB C h β xs vs
 | .dict k es=>ad.2=ad.1/\dZ k es/\∃Es,h.get? ad.1=some (dictOf Es Es.length)/\bA C h β es Es
 | .bE c fs=>ad.2≠ad.1/\(∀e∈fs,C.gI c e.1=true)/\∃Es,h.get? ad.1=some (instObj (C.ca c) ad.2)/\h.get? ad.2=some (dictOf Es Es.length)/\fZ C h β fs Es
noncomputable def Fp(β:Bt)(a:Addr):Prop:=∃ad∈β,a=ad.1\/a=ad.2
structure bG(C:Cx)(h:Heap)(β:Bt)(σ:H):Prop where
 len:β.length=σ.length
 ob:∀(i:Nat) (o:Ob) (ad:Addr×Addr),σ[i]? =some o->β[i]? =some ad->qN C h β ad o
 apart:∀(i j:Nat) (ad bd:Addr×Addr),β[i]? =some ad->β[j]? =some bd->i≠j->ad.1≠bd.1/\ad.1≠bd.2/\ad.2≠bd.1/\ad.2≠bd.2
 ir:∀b o,C.eG.get? b=some o->h.get? b=some o
 new:∀ad∈β,C.eG.objs.size<=ad.1/\C.eG.objs.size<=ad.2
 uA:C.eG.objs.size<=h.objs.size
noncomputable def acv(X:Addr->Prop)(h h':Heap):Prop:=∀a o,h.get? a=some o->¬X a->h'.get? a=some o
structure aM(X:Addr->Prop)(β:Bt)(s:Shared)(bP:Bt)(s':Shared):Prop where
 xQ:∃γ,bP=β++γ/\∀ad∈γ,s.heap.objs.size<=ad.1/\s.heap.objs.size<=ad.2
 size:s.heap.objs.size<=s'.heap.objs.size
 qL:acv (fun a=>Fp β a\/X a) s.heap s'.heap
 same:s'={s with heap:=s'.heap,toks:=s'.toks}
noncomputable abbrev kQ:Addr->Prop:=fun Z=>False
variable{C:Cx}{h h':Heap}{β bP:Bt}{σ aK:H}
theorem bG.ER(S:bG C h β σ){a:Addr}(ha:Fp β a):∃o,h.get? a=some o/\o.cls≠ .type "tuple":=by
 refine aD ha fun ad hm he=> ?_
 obtain⟨i,hi,rfl⟩:=List.mem_iff_getElem.mp hm
 have Zo:i<σ.length:=S.len▸hi
 have z:=S.ob i σ[i] β[i] (pJ Zo) (pJ hi)
 cases TK:σ[i]with
 |list xs=>
  rw[TK]at z;refine vQ z fun e vs n g Z=> ?_
  rcases he with rfl|rfl<;>(try rw[e])<;>exact⟨_,g,show Value.type "list"≠ .type "tuple" by decide⟩
 |dict k es=>
  rw[TK]at z;refine sO z fun e Z Es g Z=> ?_
  rcases he with rfl|rfl<;>(try rw[e])<;>exact⟨_,g,show Value.type "dict"≠ .type "tuple" by decide⟩
 |bE c fs=>
  rw[TK]at z;refine FZ z fun Z Z Es g1 g2 Z=> ?_
  rcases he with rfl|rfl
  ·exact⟨_,g1,by simp⟩
  ·exact⟨_,g2,show Value.type "dict"≠ .type "tuple" by decide⟩
theorem bG.fL(S:bG C h β σ){a:Addr}{ao}(t:IsTup h a ao):¬Fp β a:=fun hf=>by
 refine aD (S.ER hf) fun o ho hc=> ?_
 refine dF t fun o' Ik Gn Z=> ?_
 rw[ho]at Ik;cases Ik;exact hc Gn
mutual
theorem aL.keep(hk:∀a ao,IsTup h a ao->IsTup h' a ao)(hg:∀(i:Nat) (ad:Addr×Addr),β[i]? =some ad->bP[i]? =some ad):∀(x:V) (v:Value),aL C h β x v->aL C h' bP x v
 | .none,v,r=>r
 | .bool _,v,r=>r
 | .int _,v,r=>r
 | .str _,v,r=>r
 | .ak xs,v,⟨a,vs,e,t,r⟩=>⟨a,vs,e,hk _ _ t,aB.keep hk hg xs vs r⟩
 | .ref i,v,⟨ad,e,r⟩=>⟨ad,hg _ _ e,r⟩
 | .gu,v,r=>r
theorem aB.keep(hk:∀a ao,IsTup h a ao->IsTup h' a ao)(hg:∀(i:Nat) (ad:Addr×Addr),β[i]? =some ad->bP[i]? =some ad):∀(xs:List V) (vs:List Value),aB C h β xs vs->aB C h' bP xs vs
 |[],vs,r=>r
 |x::xs,vs,⟨v,t,e,a,b⟩=>⟨v,t,e,aL.keep hk hg x v a,aB.keep hk hg xs t b⟩
end
theorem bA.keep(hk:∀a ao,IsTup h a ao->IsTup h' a ao)(hg:∀(i:Nat) (ad:Addr×Addr),β[i]? =some ad->bP[i]? =some ad):∀(xs:List (V×V)) (vs:List DictEntry),bA C h β xs vs->bA C h' bP xs vs
 |[],_,r=>r
 |(_,_)::xs,_,⟨e,t,q,a,b,c,d⟩=>⟨e,t,q,aL.keep hk hg _ _ a,aL.keep hk hg _ _ b,c,bA.keep hk hg xs t d⟩
theorem fZ.keep(hk:∀a ao,IsTup h a ao->IsTup h' a ao)(hg:∀(i:Nat) (ad:Addr×Addr),β[i]? =some ad->bP[i]? =some ad):∀(xs:List (Nat×V)) (vs:List DictEntry),fZ C h β xs vs->fZ C h' bP xs vs
 |[],_,r=>r
 |(_,_)::xs,_,⟨e,t,q,a,b,d⟩=>⟨e,t,q,a,aL.keep hk hg _ _ b,fZ.keep hk hg xs t d⟩
section
variable{X:Addr->Prop}{s s' s'':Shared}{ZG:Bt}
theorem aM.Nz{tk:Nat}(hz:s.heap.objs.size<=h'.objs.size)(k:acv (fun a=>Fp β a\/X a) s.heap h'):aM X β s β {s with heap:=h',toks:=tk}:=⟨⟨[],(lU β).symm,nofun⟩,hz,k,rfl⟩
theorem aM.rfl':aM X β s β s:=.Nz (bX _) fun Z Z e Z=>e
theorem aM.iU(n:Nat):aM X β s β {s with toks:=n}:=.Nz (bX _) fun Z Z e Z=>e
theorem aM.at(st:aM X β s bP s'):∀(i:Nat) (ad:Addr×Addr),β[i]? =some ad->bP[i]? =some ad:=by
 refine aD st.xQ fun γ q1 Z=> ?_;subst q1
 intro i ad e
 rw[mZ (kX.mp e).1,e]
theorem aM.fp(st:aM X β s bP s'){a:Addr}(ha:a<s.heap.objs.size):Fp bP a↔Fp β a:=by
 refine aD st.xQ fun γ q1 g=> ?_;subst q1
 constructor
 ·intro u0;refine aD u0 fun ad hm he=> ?_
  rcases gj.mp hm with hm|hm
  ·exact⟨ad,hm,he⟩
  ·have z:=g ad hm
   rcases he with rfl|rfl
   ·exact absurd ha (qj.mpr z.1)
   ·exact absurd ha (qj.mpr z.2)
 ·intro u0;refine aD u0 fun ad hm he=> ?_
  exact⟨ad,List.mem_append_left _ hm,he⟩
theorem aM.trans(a:aM X β s bP s')(b:aM X bP s' ZG s''):aM X β s ZG s'':=by
 have hfp:=fun{x} h=>aM.fp a (a:=x) h
 have h1:=a.size
 have h2:=a.qL
 have h3:=a.same
 refine aD a.xQ fun γ q1 g1=> ?_;subst q1
 refine aD b.xQ fun δ q1 g2=> ?_;subst q1
 refine⟨⟨γ++δ,by simp,fun ad hm=> ?_⟩,d9 h1 b.size,fun x o e hn=> ?_,?_⟩
 ·rcases gj.mp hm with hm|hm
  ·exact g1 ad hm
  ·have z:=g2 ad hm
   exact⟨d9 h1 z.1,d9 h1 z.2⟩
 ·refine b.qL _ _ (h2 _ _ e hn) fun q=>hn ?_
  rcases q with q|q
  ·exact .inl ((hfp (jr e)).mp q)
  ·exact .inr q
 ·rw[b.same,h3]
theorem aM.dP{Y:Addr->Prop}(a:aM X β s bP s')(hXY:∀x,X x->Y x):aM Y β s bP s':=
 ⟨a.xQ,a.size,fun x o e hn=>a.qL x o e fun q=>hn (q.imp id (hXY x)),a.same⟩
theorem aM.fresh(a:aM X β s bP s')(hX:∀x,X x->s.heap.objs.size<=x):aM kQ β s bP s':=
 ⟨a.xQ,a.size,fun x o e hn=>a.qL x o e fun q=>hn (q.imp id fun z=>(qj.mpr (hX x z) (jr e)).elim),a.same⟩
theorem aM.ak(S:bG C s.heap β σ)(st:aM X β s bP s')(hX:∀a ao,IsTup s.heap a ao->¬X a):∀a ao,IsTup s.heap a ao->IsTup s'.heap a ao:=
 fun a ao t=>by
  have hn:¬(Fp β a\/X a):=fun q=>q.elim (S.fL t) (hX a ao t)
  refine aD t fun o ho r=> ?_
  exact⟨o,st.qL a o ho hn,r⟩
theorem aM.ux(S:bG C s.heap β σ)(st:aM kQ β s bP s'){x:V}{v:Value}(r:aL C s.heap β x v):aL C s'.heap bP x v:=
 aL.keep (st.ak S fun Z Z Z q=>q) st.at x v r
theorem aM.IJ(S:bG C s.heap β σ)(st:aM kQ β s bP s'){xs:List V}{vs:List Value}(r:aB C s.heap β xs vs):aB C s'.heap bP xs vs:=
 aB.keep (st.ak S fun Z Z Z q=>q) st.at xs vs r
end
theorem aB.length:∀{xs:List V} {vs:List Value},aB C h β xs vs->vs.length=xs.length
 |[],_,r=>by cases r;rfl
 |_::_,_,⟨_,_,e,_,b⟩=>by subst e;simp[aB.length b]
theorem aB.get:∀{xs:List V} {vs:List Value},aB C h β xs vs->∀{k:Nat} {x:V},xs[k]? =some x->∃v,vs[k]? =some v/\aL C h β x v
 |[],_,_,k,x,e=>by exact bJ e
 |_::_,_,⟨v,t,e,a,b⟩,0,x,q=>by subst e;simp at q;subst q;exact⟨v,rfl,a⟩
 |_::_,_,⟨v,t,e,a,b⟩,k+1,x,q=>by
  subst e
  simp only[List.getElem?_cons_succ]at q
  refine aD (aB.get b q) fun v' e' r'=> ?_
  exact⟨v',by simpa using e',r'⟩
theorem aB.append:∀{xs ys:List V} {vs ws:List Value},aB C h β xs vs->aB C h β ys ws->aB C h β (xs++ys) (vs++ws)
 |[],_,_,_,r,q=>by cases r;exact q
 |_::_,_,_,_,⟨v,t,e,a,b⟩,q=>by subst e;exact⟨v,t++_,rfl,a,aB.append b q⟩
theorem aB.aE{x:V}{v:Value}(r:aL C h β x v):aB C h β [x] [v]:=⟨v,[],rfl,r,rfl⟩
end
theorem sX{M:Model}{Γ:Ctx}{p:Pos}{t:Sem Fin}{fs:List Frame}{s s':Shared}{e:End}(h:Runs M Γ p t fs s e s'):s.heap.objs.size<=s'.heap.objs.size:=by
 induction h with
 |update _ _ ih=>simpa[Heap.size_update]using ih
 |alloc _ ih=>simp only[j3]at ih;exact(dU (iY) ih)
 |call _ _ i1 i2=>exact d9 i1 i2
 |resumeFresh _ _ _ _ i1 i2=>exact d9 i1 i2
 |resumeSuspended _ _ _ _ i1 i2=>exact d9 i1 i2
 |segRet _ _ i1 i2=>exact d9 i1 i2
 |segGen _ _ i1 i2=>exact d9 i1 i2
 |segSuspGen _ _ _ _ i1 i2=>exact d9 i1 i2
 |_=>first|assumption|exact bX _
theorem D9{M:Model}{Γ:Ctx}{p:Pos}{g:Nat}{r:Resume}{s s':Shared}{res:GenResult}(h:Wakes M Γ p g r s res s'):s.heap.objs.size<=s'.heap.objs.size:=by
 unfold Wakes at h
 revert h
 cases s.gens[g]? with
 |none=>exact False.elim
 |some x=>cases x with
  |fresh c=>cases r with
   |send v=>cases v with
    |none=>exact fun h=>d7 h fun e s1 h1 _ _ q=>by rw[q];have:=sX h1;exact this
    |_=>exact fun h=>nk (congrArg (fun z:Shared=>z.heap.objs.size) h.2).symm
   |throw x=>exact fun h=>nk (congrArg (fun z:Shared=>z.heap.objs.size) h.2).symm
  |suspended=>exact fun h=>d7 h fun e s1 h1 _ _ q=>by rw[q];have:=sX h1;exact this
  |running=>exact fun h=>nk (congrArg (fun z:Shared=>z.heap.objs.size) h.2).symm
  |finished=>exact fun h=>nk (congrArg (fun z:Shared=>z.heap.objs.size) h.2).symm
theorem OU{α:Type}(M:Model)(Γ:Ctx)(n:Nat):∀(t:Sem α) (Q:α->Pos->Shared->Prop) (E:Value->Pos->Shared->Prop) (p:Pos) (s:Shared),n<=s.heap.objs.size->wp M Γ t Q E p s->
  wp M Γ t (fun a p' s'=>n<=s'.heap.objs.size/\Q a p' s') E p s:=by
 intro t
 induction t with
 |pure a=>exact fun Q E p s hn h=>⟨hn,h⟩
 |raise e=>exact fun Q E p s hn h=>h
 |unsupported _=>exact fun Q E p s hn h=>h.elim
 |finish _=>exact fun Q E p s hn h=>h.elim
 |register _ _ _=>exact fun Q E p s hn h=>h.elim
 |«yield» _ _ _ _ _=>exact fun Q E p s hn h=>h.elim
 |fork=>exact fun Q E p s hn h=>h.elim
 |await=>exact fun Q E p s hn h=>h.elim
 |rule _ k ih=>exact fun Q E p s hn h=>ih _ _ _ _ _ hn h
 |«at» _ k ih=>exact fun Q E p s hn h=>ih _ _ _ _ _ hn h
 |load a _ k ih=>exact fun Q E p s hn h=>aD h fun o e h=>⟨o,e,ih _ _ _ _ _ hn h⟩
 |update a _ f k ih=>exact fun Q E p s hn h=>⟨h.1,ih _ _ _ _ _ ((Heap.size_update ..).symm▸hn) h.2⟩
 |loadIfAlive a k ih=>exact fun Q E p s hn h=>ih _ _ _ _ _ hn h
 |point _ k ih=>exact fun Q E p s hn h=>ih _ _ _ _ _ hn h
 |alloc o k ih=>exact fun Q E p s hn h=>ih _ _ _ _ _ ((j3 ..).symm▸aZ hn) h
 |fresh k ih=>exact fun Q E p s hn h=>ih _ _ _ _ _ hn h
 |ask k ih=>exact fun Q E p s hn h=>ih _ _ _ _ _ hn h
 |choose EH m k ih=>exact fun Q E p s hn h=>⟨h.1,ih _ _ _ _ _ hn h.2⟩
 |os q _ k ih=>exact fun Q E p s hn h=>ih _ _ _ _ _ hn h
 |call c hd g l k ih=>exact fun Q E p s hn h=>lu h fun r s1 hr h=>⟨r,s1,hr,ih _ _ _ _ _ (d9 hn (sX hr)) h⟩
 |handled own k ih=>exact fun Q E p s hn h=>ih _ _ _ _ _ hn h
 |genState g k ih=>exact fun Q E p s hn h=>aD h fun st e h=>⟨st,e,ih _ _ _ _ _ hn h⟩
 |newGen c k ih=>exact fun Q E p s hn h=>ih _ _ _ _ _ hn h
 |resume g r _ k ih=>exact fun Q E p s hn h=>lu h fun res s1 hr h=>⟨res,s1,hr,ih _ _ _ _ _ (d9 hn (D9 hr)) h⟩
 |stack k ih=>exact fun Q E p s hn h=>ih _ _ _ _ _ hn h
 |thread k ih=>exact fun Q E p s hn h=>ih _ _ _ _ _ hn h
theorem jR{α:Type}{M:Model}{A:Around}{t:Sem α}{Q:α->Shared->Prop}{E:Value->Shared->Prop}{s:Shared}(h:wpAny M A t Q E s):wpAny M A t (fun a s'=>s.heap.objs.size<=s'.heap.objs.size/\Q a s') E s:=
 fun Γ p hΓ=>OU M Γ _ t _ _ p s (bX _) (h Γ p hΓ)
section
mutual
noncomputable def V.rW:V->PyData
 | .none=>.none
 | .bool b=>.bool b
 | .int i=>.int i
 | .str s=>.str ⟨s.toArray⟩
 | .ak xs=>.tuple (V.gz xs)
 | .ref _=>.none
 | .gu=>.none
noncomputable def V.gz:List V->List PyData
 |[]=>[]
 |x::r=>V.rW x::V.gz r
end
section
variable{P:Nat->V->Prop}{Q:Nat->List V->Prop}
mutual
theorem DP(hi:∀n i,P n (.int i))(hs:∀n s,(s.all fun c=>Nat.blt c 1114112)=true->P n (.str s))(ht:∀n xs,V.cX n xs=true->Q n xs->P (n+1) (.ak xs))(hn:∀n,Q n [])(hc:∀n x xs,P n x->Q n xs->Q n (x::xs)):∀n x,V.d8 n x=true->P n x
 |_,.int i,_=>hi _ i
 |_,.str s,h=>hs _ s h
 |0,.ak _,h=>nomatch h
 |n+1,.ak xs,h=>ht n xs h (DO hi hs ht hn hc n xs h)
 |_,.none,h=>nomatch h
 |_,.bool _,h=>nomatch h
 |_,.ref _,h=>nomatch h
 |_,.gu,h=>nomatch h
theorem DO(hi:∀n i,P n (.int i))(hs:∀n s,(s.all fun c=>Nat.blt c 1114112)=true->P n (.str s))(ht:∀n xs,V.cX n xs=true->Q n xs->P (n+1) (.ak xs))(hn:∀n,Q n [])(hc:∀n x xs,P n x->Q n xs->Q n (x::xs)):∀n xs,V.cX n xs=true->Q n xs
 |_,[],_=>hn _
 |n,x::xs,h=>hc n x xs (DP hi hs ht hn hc n x (Bool.and_eq_true_iff.mp h).1) (DO hi hs ht hn hc n xs (Bool.and_eq_true_iff.mp h).2)
end
theorem oE(hi:∀n i,P n (.int i))(hs:∀n s,(s.all fun c=>Nat.blt c 1114112)=true->P n (.str s))(ht:∀n xs,V.cX n xs=true->Q n xs->P (n+1) (.ak xs))(hn:∀n,Q n [])(hc:∀n x xs,P n x->Q n xs->Q n (x::xs)):(∀n x,V.d8 n x=true->P n x)/\(∀n xs,V.cX n xs=true->Q n xs):=
 ⟨DP hi hs ht hn hc,DO hi hs ht hn hc⟩
end
section
variable{C:Cx}{h:Heap}{β:Bt}
theorem wR:(∀(n:Nat) (x:V),V.d8 n x=true->∀v,aL C h β x v->∃as,Reads h v x.rW as)/\(∀(n:Nat) (xs:List V),V.cX n xs=true->∀vs,aB C h β xs vs->∃as,ReadsAll h vs (V.gz xs) as):=
 oE (fun _ i v r=>bR r fun t e=>e▸⟨_,.int i t⟩) (fun _ s _ v r=>bR r fun t e=>e▸⟨_,.str _ t⟩)
  (fun n xs _ ih v r=>aW r fun a vs e T r=>nJ T fun o ho hc m hd=>bR (ih vs r) fun as q=>e▸⟨as,.tuple ho hc hd (by rw[List.toList_toArray];exact q)⟩)
  (fun _ vs r=>(show vs=[]from r)▸⟨_,.nil⟩) (fun n x xs i1 i2 vs r=>aW r fun v t e a b=>bR (i1 v a) fun as q=>bR (i2 t b) fun bs p=>e▸⟨_,.cons q p⟩)
theorem jy(n:Nat)(x:V)(v:Value)(hk:V.d8 n x=true)(r:aL C h β x v):∃as,Reads h v x.rW as:=wR.1 n x hk v r
theorem Ef(n:Nat)(xs:List V)(vs:List Value)(hk:V.cX n xs=true)(r:aB C h β xs vs):∃as,ReadsAll h vs (V.gz xs) as:=wR.2 n xs hk vs r
end
theorem LF{s:List Nat}(h:(s.all fun c=>Nat.blt c 1114112)=true):PyData.strOk ⟨s.toArray⟩=true:=by
 unfold PyData.strOk
 simp only[List.all_toArray']
 rw[dG]at h⊢
 intro c hc
 have:=h c hc
 simpa[Nat.blt_eq]using this
theorem Cu:(∀(n:Nat) (x:V),V.d8 n x=true->x.rW.canLay0=true/\x.rW.depth<=n)/\(∀(n:Nat) (xs:List V),V.cX n xs=true->PyData.canLayAll0 (V.gz xs)=true/\PyData.depthAll (V.gz xs)<=n):=
 oE (fun _ _=>⟨rfl,Nat.zero_le _⟩) (fun _ _ h=>⟨LF h,Nat.zero_le _⟩) (fun _ _ _ ih=>⟨ih.1,Nat.succ_le_succ ih.2⟩) (fun _=>⟨rfl,Nat.zero_le _⟩)
  fun _ _ _ a b=>⟨Bool.and_eq_true_iff.mpr ⟨a.1,b.1⟩,Ju a.2 b.2⟩
theorem oz(n:Nat)(x:V)(hk:V.d8 n x=true):x.rW.canLay0=true/\x.rW.depth<=n:=Cu.1 n x hk
theorem Mk(n:Nat)(xs:List V)(hk:V.cX n xs=true):PyData.canLayAll0 (V.gz xs)=true/\PyData.depthAll (V.gz xs)<=n:=Cu.2 n xs hk
theorem Ae{m:Nat}{y:V}{G:Prop}(h:V.d8 m y=true)(k1:∀i,y=.int i->G)(k2:∀s,y=.str s->G)(k3:∀n xs,y=.ak xs->V.cX n xs=true->G):G:=
 DP (P:=fun _ z=>y=z->G) (Q:=fun _ _=>True) (fun _ i=>k1 i) (fun _ s _=>k2 s) (fun n xs h _ e=>k3 n xs e h) (fun _=>trivial) (fun _ _ _ _ _=>trivial) m y h rfl
theorem CR:(∀(n:Nat) (x:V),V.d8 n x=true->∀m y,V.d8 m y=true->(PyData.eqv x.rW y.rW=true↔x=y))/\(∀(n:Nat) (xs:List V),V.cX n xs=true->∀m ys,V.cX m ys=true->(PyData.eqvAll (V.gz xs) (V.gz ys)=true↔xs=ys)):=
 oE (fun _ i m y hy=>Ae hy (fun j e=>e▸⟨fun q=>congrArg V.int (eq_of_beq q),fun q=>V.int.inj q▸beq_self_eq_true _⟩) (fun s e=>e▸⟨nofun,nofun⟩) fun _ xs e _=>e▸⟨nofun,nofun⟩)
  (fun _ s _ m y hy=>Ae hy (fun j e=>e▸⟨nofun,nofun⟩) (fun t e=>e▸⟨fun q=>congrArg V.str (congrArg (fun z:Str=>z.cps.toList) (eq_of_beq q)),fun q=>V.str.inj q▸beq_self_eq_true _⟩) fun _ xs e _=>e▸⟨nofun,nofun⟩)
  (fun _ xs _ ih m y hy=>Ae hy (fun j e=>e▸⟨nofun,nofun⟩) (fun s e=>e▸⟨nofun,nofun⟩) fun n ys e hy=>e▸⟨fun q=>congrArg V.ak ((ih n ys hy).mp q),fun q=>(ih n ys hy).mpr (V.ak.inj q)⟩)
  (fun _ m ys _=>by cases ys with
   |nil=>exact⟨fun _=>rfl,fun _=>rfl⟩
   |cons=>exact⟨nofun,nofun⟩)
  fun _ x xs i1 i2 m ys hy=>by
   cases ys with
   |nil=>exact⟨nofun,nofun⟩
   |cons y ys=>
    have hy:=Bool.and_eq_true_iff.mp hy
    have a:=i1 m y hy.1
    have b:=i2 m ys hy.2
    show(PyData.eqv x.rW y.rW&&PyData.eqvAll (V.gz xs) (V.gz ys))=true↔_
    rw[dX,a,b,ya]
theorem FT(n m:Nat)(x y:V)(hx:V.d8 n x=true)(hy:V.d8 m y=true):PyData.eqv x.rW y.rW=true↔x=y:=CR.1 n x hx m y hy
theorem MA(n m:Nat)(xs ys:List V)(hx:V.cX n xs=true)(hy:V.cX m ys=true):PyData.eqvAll (V.gz xs) (V.gz ys)=true↔xs=ys:=CR.2 n xs hx m ys hy
theorem Ga{y:V}{G:Prop}(h:y.vO=true)(k:∀b,y=.bool b->G):G:=by
 cases y with
 |bool b=>exact k b rfl
 |_=>exact nomatch h
theorem FA{x y:V}{G:Prop}(h:x.cG y=true)(k1:x.aS=true->y.aS=true->G)(k2:∀a b,x=.bool a->y=.bool b->G):G:=
 (Bool.or_eq_true_iff.mp h).elim (fun q=>k1 (Bool.and_eq_true_iff.mp q).1 (Bool.and_eq_true_iff.mp q).2) fun q=>Ga (Bool.and_eq_true_iff.mp q).1 fun a ea=>Ga (Bool.and_eq_true_iff.mp q).2 fun b eb=>k2 a b ea eb
theorem nP{x y:V}(hl:x.cG y=true):PyData.eqv x.rW y.rW=decide (x=y):=
 FA hl (fun a b=>by
  have q:=FT 6 6 x y a b
  by_cases e:x=y
  ·rw[ez e];exact q.mpr e
  ·rw[fH e];exact Bool.eq_false_iff.mpr fun z=>e (q.mp z)) fun a b ea eb=>by
  subst ea eb
  cases a<;>cases b<;>rfl
theorem jU{C:Cx}{h:Heap}{β:Bt}{x y:V}(hl:x.cG y=true){u v:Value}(ru:aL C h β x u)(rv:aL C h β y v):
  (∃as,Reads h u x.rW as)/\(∃as,Reads h v y.rW as)/\(x.rW.canLay0=true/\x.rW.depth<=6)/\(y.rW.canLay0=true/\y.rW.depth<=6):=
 FA hl (fun a b=>⟨jy 6 x u a ru,jy 6 y v b rv,oz 6 x a,oz 6 y b⟩) fun a b ea eb=>by
  subst ea eb
  cases ru;cases rv
  exact⟨⟨_,.bool _⟩,⟨_,.bool _⟩,⟨rfl,Nat.zero_le _⟩,⟨rfl,Nat.zero_le _⟩⟩
section
variable{prog:Program}{w:World}{A:Around}{E:Value->Shared->Prop}{s:Shared}{C:Cx}{β:Bt}
theorem Di{x y:V}{u v:Value}{Q:Bool->Shared->Prop}(hl:x.cG y=true)(hu:A.units+64<cLine)(ru:aL C s.heap β x u)(rv:aL C s.heap β y v)(h:Q (decide (x=y)) s):
  wpAny (model prog w) A (eqBool u v) Q E s:=by
 refine iA (jU hl ru rv) fun u1 u2 l1 l2=> ?_;refine bR u1 fun as a=> ?_;refine bR u2 fun bs b=> ?_
 refine eqBoolOverData prog w A E s u v _ _ as bs Q a b l1.1 l2.1 ?_ (by rw[nP hl];exact h)
 have:=l1.2;have:=l2.2;lia
theorem EB{x y:V}{u v:Value}{Q:Value->Shared->Prop}(hl:x.cG y=true)(hu:A.units+64<cLine)(ru:aL C s.heap β x u)(rv:aL C s.heap β y v)(h:Q (.bool (decide (x=y))) s):
  wpAny (model prog w) A (compareOp .Eq u v) Q E s:=by
 refine iA (jU hl ru rv) fun u1 u2 l1 l2=> ?_;refine bR u1 fun as a=> ?_;refine bR u2 fun bs b=> ?_
 refine eq_dataH a b ?_ ?_ hu (by rw[nP hl];exact h)
 ·unfold shaped;rw[l1.1];exact ez (d9 l1.2 (by decide))
 ·unfold shaped;rw[l2.1];exact ez (d9 l2.2 (by decide))
theorem EA{x y:V}{u v:Value}{Q:Value->Shared->Prop}(hl:x.cG y=true)(hu:A.units+64<cLine)(ru:aL C s.heap β x u)(rv:aL C s.heap β y v)(h:Q (.bool (!decide (x=y))) s):
  wpAny (model prog w) A (compareOp .NotEq u v) Q E s:=by
 refine iA (jU hl ru rv) fun u1 u2 l1 l2=> ?_;refine bR u1 fun as a=> ?_;refine bR u2 fun bs b=> ?_
 refine ne_dataH a b ?_ ?_ hu (by rw[nP hl];exact h)
 ·unfold shaped;rw[l1.1];exact ez (d9 l1.2 (by decide))
 ·unfold shaped;rw[l2.1];exact ez (d9 l2.2 (by decide))
end
end
section
mutual
noncomputable def nC:V->Nat
 | .ak xs=>sP xs+1
 |_=>1
noncomputable def sP:List V->Nat
 |[]=>0
 |x::r=>nC x+sP r
end
section
variable{prog:Program}{w:World}{C:Cx}{β:Bt}
theorem HQ(E:Value->Shared->Prop):(∀(n:Nat) (x:V),V.d8 n x=true->∀(v:Value) (A:Around) (s:Shared) (Q:Int->Shared->Prop),aL C s.heap β x v->A.units+n<cLine->Q (mJ w x) {s with toks:=s.toks+nC x}->wpAny (model prog w) A (pyHash v) Q E s)/\
  (∀(n:Nat) (xs:List V),V.cX n xs=true->∀(vs:List Value) (A:Around) (s:Shared) (f:Value->Array Int->Sem (ForInStep (Array Int))) (Q:Array Int->Shared->Prop) (b:Array Int),aB C s.heap β xs vs->A.units+n<cLine->(∀v b,f v b=(do let r <-pyHash v;pure (.yield (b.push r))))->
   (∀(b':Array Int),b'.toList=b.toList++lY w xs->Q b' {s with toks:=s.toks+sP xs})->wpAny (model prog w) A (forIn vs b f) Q E s):=by
 refine oE (fun _ i v A s Q r _ h=>bR r fun t e=>e▸wpAny_pyHash_int h) (fun _ x _ v A s Q r _ h=>bR r fun t e=>e▸wpAny_pyHash_str h) (fun n xs _ ih v A s Q r hu h=>aW r fun a vs e T r=>nJ T fun o ho hc m hd=> ?_)
  (fun _ vs A s f Q b r _ hf h=> ?_) fun n x xs i1 i2 vs A s f Q b r hu hf h=>aW r fun v t e a r=> ?_
 ·rw[e]
  have hT:s.TypeIs (.ref a) "tuple":=⟨o,ho,hc⟩
  unfold pyHash
  first|unfold pyHashByItsType|skip
  first|refine bK (wpAny_cRoomFor_or (.inr (Bx (Nat.le_add_right _ _) hu)) ?_)|skip
  refine bK (wpAny_specialOf hT F.slot_tuple_hash.lookup ?_)
  show wpAny _ _ (if(some (Value.builtin "tuple.__hash__")==some Value.none)=true then _ else _) Q E s
  rw[aG (by rw[beq_builtin_none];exact Bool.false_ne_true)]
  refine bK (wpAny_specialOf hT F.slot_tuple_hash.lookup ?_)
  show wpAny _ _ (callSpecialIfBoundUnlessNone? (.ref a) "__hash__" _>>=_) Q E s
  refine bK (wpAny_callSpecialIfBoundUnlessNone?_slot hT F.slot_tuple_hash (yc F.slot_tuple_hash hT F.entry_tuple_hash ?_ (F.args_tuple_hash_1 _)))
  show wpAny _ _ (Builtin.Tuple.tupleItemsOf (.ref a)>>=_) _ _ s
  refine bK (wpAny_tupleItemsOf ho hd ?_)
  refine bK ?_
  rw[<-Array.forIn_toList]
  refine ih vs A.in1 s _ _ #[] r (by show A.units+1+n<cLine;rw[Nat.add_assoc,Nat.add_comm 1 n];exact hu) ?_ fun b hb=> ?_
  ·intro v b
   first
    |rfl
    |(simp only[bind_pure_comp,pure_bind];rfl)
  ·show wpAny _ _ (retInt (Builtin.Tuple.tupleHashOf b.toList)) _ _ _
   have hb:b.toList=lY w xs:=hb.trans (List.nil_append _)
   rw[hb]
   refine wpAny_ret_mkInt ?_
   show wpAny _ _ (if(decide (-(2:Int)^63<=Builtin.Tuple.tupleHashOf (lY w xs))&&decide (Builtin.Tuple.tupleHashOf (lY w xs)<2^63))=true then _ else _) Q E _
   have h:Q (reduceHash (Builtin.Tuple.tupleHashOf (lY w xs))) {s with toks:=s.toks+(sP xs+1)}:=h
   rw[<-Nat.add_assoc]at h
   unfold reduceHash at h
   by_cases hr:(decide (-(2:Int)^63<=Builtin.Tuple.tupleHashOf (lY w xs))&&decide (Builtin.Tuple.tupleHashOf (lY w xs)<2^63))=true
   ·rw[aI hr]
    simp only[aI hr]at h
    exact cW h
   ·rw[aG hr]
    simp only[aG hr]at h
    exact bK (wpAny_rule (cW h))
 ·rw[show vs=[]from r]
  exact cW (h b (lU _).symm)
 ·rw[e,zU,hf]
  refine bK (bK (i1 v A s _ a hu (cW (i2 t A {s with toks:=s.toks+nC x} f Q (b.push (mJ w x)) r hu hf fun b' e=> ?_))))
  have z:=h b' (by rw[e,Array.toList_push,List.append_assoc];rfl)
  rw[show sP (x::xs)=nC x+sP xs from rfl,<-Nat.add_assoc]at z
  exact z
theorem wj(E:Value->Shared->Prop)(n:Nat)(x:V)(v:Value)(A:Around)(s:Shared)(Q:Int->Shared->Prop)(hk:V.d8 n x=true)(r:aL C s.heap β x v)(hu:A.units+n<cLine)(h:Q (mJ w x) {s with toks:=s.toks+nC x}):wpAny (model prog w) A (pyHash v) Q E s:=
 (HQ E).1 n x hk v A s Q r hu h
end
end
section
section
variable{prog:Program}{w:World}{C:Cx}{β:Bt}
theorem Eg(A:Around)(E:Value->Shared->Prop)(s:Shared):(∀(n:Nat) (x:V),V.d8 n x=true->∀(m:Nat) (v:Value) (Q:Bool->Shared->Prop),n<=m->aL C s.heap β x v->Q true s->wpAny (model prog w) A (eqIsQuiet m v) Q E s)/\
  (∀(n:Nat) (xs:List V),V.cX n xs=true->∀(m:Nat) (vs:List Value) (f:Value->(Option Bool×PUnit)->Sem (ForInStep (Option Bool×PUnit))) (Q:(Option Bool×PUnit)->Shared->Prop),n<=m->aB C s.heap β xs vs->
   (∀v b,f v b=(do let q <-eqIsQuiet m v;if(!q)=true then pure (.done (some false,⟨⟩))else pure (.yield (none,⟨⟩))))->Q (none,⟨⟩) s->wpAny (model prog w) A (forIn vs (none,⟨⟩) f) Q E s):=by
 refine oE (fun _ i m v Q _ r h=>bR r fun t e=>by rw[e,eqIsQuiet_byValue m rfl];exact cW h) (fun _ x _ m v Q _ r h=>bR r fun t e=>by rw[e,eqIsQuiet_byValue m rfl];exact cW h)
  (fun n xs _ ih m v Q hm r h=>aW r fun a vs e T r=>nJ T fun o ho hc k hd=> ?_) (fun _ m vs f Q _ r hf h=>(show vs=[]from r)▸cW h) fun n x xs i1 i2 m vs f Q hm r hf h=>aW r fun v t e a r=> ?_
 ·cases m with
  |zero=>exact absurd hm (Nat.not_succ_le_zero n)
  |succ m=>
  rw[e]
  have hT:s.TypeIs (.ref a) "tuple":=⟨o,ho,hc⟩
  unfold eqIsQuiet
  refine bK (wpAny_specialOf hT F.slot_tuple_eq.lookup ?_)
  show wpAny _ _ (isInstance (.ref a) (.type "tuple")>>=_) _ _ s
  refine bK (wpAny_isInstance hT isSubtype_tuple_tuple ?_)
  simp only[Bool.not_true,Bw,if_false]
  refine bK (wpAny_seqItems ho hd ?_)
  refine bK ?_
  show wpAny _ _ (forIn vs.toArray _ _) _ _ s
  rw[<-Array.forIn_toList]
  exact ih m vs _ _ (Nat.le_of_succ_le_succ hm) r (fun v b=>rfl) (cW h)
 ·rw[e,zU,hf]
  refine bK (bK (i1 m v _ hm a ?_))
  simp only[Bool.not_true,Bw,if_false]
  exact cW (i2 m t f Q hm r hf h)
theorem Hs(A:Around)(E:Value->Shared->Prop)(s:Shared)(n m:Nat)(x:V)(v:Value)(Q:Bool->Shared->Prop)(hk:V.d8 n x=true)(hm:n<=m)(r:aL C s.heap β x v)(h:Q true s):wpAny (model prog w) A (eqIsQuiet m v) Q E s:=(Eg A E s).1 n x hk m v Q hm r h
theorem bY{x:V}{k:Nat}(hk:k≠0)(e:x.kind=k):x.aS=true:=by
 by_cases q:x.aS=true
 ·exact q
 ·unfold V.kind at e;rw[aG q]at e;exact absurd e.symm hk
theorem xy{h h':Heap}{d:Addr}{o:Obj}{es ep}(ho:h.get? d=some o)(hd:o.data=.dict es ep)(hs:Heap.SameBut d h h'):∀a ao,IsTup h a ao->IsTup h' a ao:=
 fun a ao ⟨o',Ik,hc,n,Iw⟩=>⟨o',(hs.2 a fun q=>by subst q;rw[ho]at Ik;cases Ik;rw[hd]at Iw;cases Iw).trans Ik,hc,n,Iw⟩
theorem LS{h:Heap}:∀(n m:Nat) (x y:V) (v:Value),V.d8 n x=true->V.d8 m y=true->aL C h β x v->aL C h β y v->x=y:=by
 intro n m x y v hx hy rx ry
 refine bR (jy n x v hx rx) fun as a=> ?_
 refine bR (jy m y v hy ry) fun bs b=> ?_
 have e:=Reads.unique _ _ _ _ _ (oz n x hx).1 a b
 have q:=FT n m x y hx hy
 exact q.mp (by rw[e];exact eqv_refl _ (e▸(oz n x hx).1))
noncomputable def An(prog:Program)(w:World)(C:Cx):HeapKind prog w V where
 is:=fun h x a=>x.kind=3/\aL C h [] x (.ref a)
 hash:=mJ w
 draws:=nC
 room:=fun A=>A.units+64<cLine
 inj:=fun a b=>LS 6 6 _ _ _ (bY (by decide) a.1) (bY (by decide) b.1) a.2 b.2
 keeps:=fun x ho hd hs=>⟨x.1,aL.keep (xy ho hd hs) (fun Z Z e=>e) _ _ x.2⟩
 pyHash:=fun hu hk h=>wj _ 6 _ _ _ _ _ (bY (by decide) hk.1) hk.2 (Bx (lS rfl) hu) h
 eqBool:=fun hu hx hy h=>Di (by unfold V.cG;rw[bY (by decide) hx.1,bY (by decide) hy.1];rfl) hu hx.2 hy.2 h
 quiet:=fun hk h=>Hs _ _ _ 6 8 _ _ _ (bY (by decide) hk.1) (by decide) hk.2 h
end
end
section
noncomputable def ni(x:V)(es:List (V×V)):Option Nat:=es.findIdx? fun e=>decide (e.1=x)
section
variable{C:Cx}{β:Bt}{h:Heap}
theorem FF(bP:Bt)(n:Nat)(x:V)(v:Value)(hk:V.d8 n x=true)(r:aL C h β x v):aL C h bP x v:=
 (oE (P:=fun _ x=>∀v,aL C h β x v->aL C h bP x v) (Q:=fun _ xs=>∀vs,aB C h β xs vs->aB C h bP xs vs) (fun _ _ _ r=>r) (fun _ _ _ _ r=>r)
  (fun _ _ _ ih v r=>aW r fun a vs e T r=>⟨a,vs,e,T,ih vs r⟩) (fun _ _ r=>r) fun _ _ _ i1 i2 vs r=>aW r fun v t e a b=>⟨v,t,e,i1 v a,i2 t b⟩).1 n x hk v r
theorem bA.length:∀{es:List (V×V)} {Es:List DictEntry},bA C h β es Es->Es.length=es.length
 |[],_,r=>by cases r;rfl
 |(_,_)::_,Ez,rz=>dQ rz fun e t q Z Z Z r=>by subst q;simp[bA.length r]
theorem bA.Bm(p:DictEntry->Bool)(x:V):∀{es:List (V×V)} {Es:List DictEntry},bA C h β es Es->(∀y v E,(y,v)∈es->aL C h β y E.key->p E=decide (y=x))->Es.findIdx? p=ni x es
 |[],_,r,_=>by cases r;rfl
 |(y,v)::es,Ez,rz,hp=>dQ rz fun e t q a Z Z r=>by
  subst q
  have ih:=bA.Bm p x r fun y v E hm=>hp y v E (.tail _ hm)
  unfold ni at ih⊢
  rw[List.findIdx?_cons,List.findIdx?_cons,hp y v e (.head _) a,ih]
theorem bA.OE:∀{es:List (V×V)} {Es:List DictEntry},bA C h β es Es->∀E∈Es,∃y v,(y,v)∈es/\aL C h β y E.key/\aL C h β v E.val/\E.hash=mJ C.w y
 |[],_,r=>by cases r;intro E hE;exact nomatch hE
 |(y,v)::es,Ez,rz=>dQ rz fun e t q a b c r=>by
  subst q
  intro E hE
  rcases cH.mp hE with rfl|hE
  ·exact⟨y,v,.head _,a,b,c⟩
  ·refine lu (bA.OE r E hE) fun y' v' m z=> ?_
   exact⟨y',v',.tail _ m,z⟩
theorem uL{x:V}{G:Prop}(k0:x.kind=0->G)(k1:∀i,x=.int i->x.kind=1->G)(k2:∀s,x=.str s->x.kind=2->G)(k3:∀xs,x=.ak xs->x.kind=3->G):G:=by
 by_cases hk:x.aS=true
 ·have e:x.kind=(match(generalizing:=false) x with| .int _=>1| .str _=>2| .ak _=>3|_=>0):=aI hk
  exact Ae hk (fun i q=>k1 i q (by rw[e,q])) (fun s q=>k2 s q (by rw[e,q])) fun _ xs q _=>k3 xs q (by rw[e,q])
 ·exact k0 (aG hk)
theorem ia{x:V}(e:x.kind=1):∃i,x=.int i:=
 uL (fun q=>absurd (q.symm.trans e) (by decide)) (fun i q _=>⟨i,q⟩) (fun _ _ q=>absurd (q.symm.trans e) (by decide)) fun _ _ q=>absurd (q.symm.trans e) (by decide)
theorem v8{x:V}(e:x.kind=2):∃i,x=.str i:=
 uL (fun q=>absurd (q.symm.trans e) (by decide)) (fun _ _ q=>absurd (q.symm.trans e) (by decide)) (fun s q _=>⟨s,q⟩) fun _ _ q=>absurd (q.symm.trans e) (by decide)
theorem Cw{x:V}(e:x.kind=3):∃i,x=.ak i:=
 uL (fun q=>absurd (q.symm.trans e) (by decide)) (fun _ _ q=>absurd (q.symm.trans e) (by decide)) (fun _ _ q=>absurd (q.symm.trans e) (by decide)) fun xs q _=>⟨xs,q⟩
theorem PK(x:V):x.kind=0\/x.kind=1\/x.kind=2\/x.kind=3:=
 uL .inl (fun _ _ q=>.inr (.inl q)) (fun _ _ q=>.inr (.inr (.inl q))) fun _ _ q=>.inr (.inr (.inr q))
noncomputable def Gz(es:List (V×V))(Es:List DictEntry):List (V×Addr×Value):=(es.zip Es).map fun p=>(p.1.1,(match p.2.key with| .ref a=>a|_=>0),p.2.val)
theorem sV:∀{es:List (V×V)} {Es:List DictEntry},bA C h β es Es->(Gz es Es).map (·.1)=es.map (·.1)
 |[],_,r=>by cases r;rfl
 |(y,v)::es,Ez,rz=>dQ rz fun e t q Z Z Z r=>by subst q;exact congrArg (List.cons y) (sV r)
theorem rO(prog:Program):∀{es:List (V×V)} {Es:List DictEntry},bA C h β es Es->(∀e∈es,e.1.kind=3)->
  Es=(Gz es Es).map (entryOfKey (An prog C.w C))/\(∀x∈Gz es Es,(An prog C.w C).is h x.1 x.2.1)
 |[],_,r,_=>by cases r;exact⟨rfl,fun Z hx=>by cases hx⟩
 |(y,v)::es,Ez,rz,hk=>dQ rz fun e t q a b c r=>by
  subst q
  refine dw (rO prog r fun e he=>hk e (.tail _ he)) fun i1 i2=> ?_
  have k3:=hk (y,v) (.head _)
  refine bR (Cw k3) fun xs q1=> ?_;subst q1
  refine aW a fun ad vs ek T rr=> ?_
  obtain⟨eh,key,val⟩:=e
  dsimp only at ek c
  subst ek c
  refine⟨?_,?_⟩
  ·exact congrArg (List.cons _) i1
  ·intro x hx
   rcases cH.mp hx with rfl|hx
   ·exact⟨k3,FF [] 6 _ _ (bY (by decide) k3) ⟨ad,vs,rfl,T,rr⟩⟩
   ·exact i2 x hx
theorem BS:∀{es:List (V×V)} {Es:List DictEntry},bA C h β es Es->∀(j:Nat) (y:V) (p:Addr×Value),(Gz es Es)[j]? =some (y,p)->∃v,es[j]? =some (y,v)
 |[],_,r,j,y,p,e=>by cases r;exact bJ e
 |(z,v)::es,Ez,rz,j,y,p,e=>dQ rz fun E t q Z Z Z r=>by
  subst q
  cases j with
  |zero=>exact⟨v,congrArg (fun q=>some (q,v)) (congrArg Prod.fst (ig e))⟩
  |succ j=>exact BS r j y p e
theorem H7{x:V}{es:List (V×V)}{j:Nat}{v:V}(hn:(es.map (·.1)).Nodup)(e:es[j]? =some (x,v)):ni x es=some j:=by
 unfold ni
 rw[List.findIdx?_eq_some_iff_getElem]
 obtain⟨hj,hv⟩:=kX.mp e
 refine⟨hj,by rw[hv];simp,fun i hi=> ?_⟩
 intro q
 have q':es[i].1=x:=jx q
 have Zo:i<es.length:=Nat.lt_trans hi hj
 have a:(es.map (·.1))[i]'(by simpa using Zo)=(es.map (·.1))[j]'(by simpa using hj):=by
  simp[q',hv]
 have b:=(List.getElem_inj hn).mp a
 omega
theorem H8{x:V}{es:List (V×V)}(hn:x∉es.map (·.1)):ni x es=none:=by
 unfold ni
 rw[List.findIdx?_eq_none_iff]
 intro e he
 exact fH fun q=>hn (eY.mpr ⟨e,he,q⟩)
end
section
variable{C:Cx}{β:Bt}{A:Around}{E:Value->Shared->Prop}{s:Shared}
theorem La{d n:Nat}{es:List (V×V)}{Es:List DictEntry}{k:Nat}{x:V}{key:Value}{Q:Option Nat->Shared->Prop}
  (ho:s.heap.get? d=some (dictOf Es n))(hE:bA C s.heap β es Es)(K:dZ k es)(hx:x.kind≠0)(hk:es=[]\/x.kind=k)(rk:aL C s.heap β x key)
  (hu:A.units+64<cLine)(h:Q (ni x es) s):wpAny (model C.prog C.w) A (dictFind d key (mJ C.w x)) Q E s:=by
 have iW:∀e∈es,e.1.kind=x.kind:=by
  intro e he
  rcases hk with rfl|hk
  ·exact nomatch he
  ·rw[K.kind e he,hk]
 rcases PK x with z|z|z|z
 ·exact absurd z hx
 ·refine bR (ia z) fun i q1=> ?_;subst q1
  refine bR rk fun t q1=> ?_;subst q1
  refine wpAny_dictFind_of (knd:=intKind C.prog C.w) (k:=i) (o:=dictOf Es n) (by simp[intKind,Value.isInt]) ho rfl ?_ ?_
  ·intro e he
   refine d7 (hE.OE e (by simpa using he)) fun y v m a b c=> ?_
   refine bR (ia ((iW _ m).trans z)) fun j q1=> ?_;subst q1
   refine bR a fun t' q=> ?_
   exact⟨j,by rw[q];simp[intKind,Value.isInt],by rw[c];rfl⟩
  ·rw[List.findIdx?_toArray,hE.Bm _ (.int i) fun y v e m a=> ?_]
   ·exact h
   ·refine bR (ia ((iW _ m).trans z)) fun j q1=> ?_;subst q1
    refine bR a fun t' q=> ?_
    rw[q]
    simp only[intKind,Value.isInt,V.int.injEq]
    first|rfl|(by_cases e:j=i<;>simp[e])
 ·refine bR (v8 z) fun i q1=> ?_;subst q1
  refine bR rk fun t q1=> ?_;subst q1
  refine wpAny_dictFind_of (knd:=PySem.strKind C.prog C.w) (k:=⟨i.toArray⟩) (o:=dictOf Es n) (by simp[PySem.strKind,Value.isStrOf]) ho rfl ?_ ?_
  ·intro e he
   refine d7 (hE.OE e (by simpa using he)) fun y v m a b c=> ?_
   refine bR (v8 ((iW _ m).trans z)) fun j q1=> ?_;subst q1
   refine bR a fun t' q=> ?_
   exact⟨⟨j.toArray⟩,by rw[q];simp[PySem.strKind,Value.isStrOf],by rw[c];rfl⟩
  ·rw[List.findIdx?_toArray,hE.Bm _ (.str i) fun y v e m a=> ?_]
   ·exact h
   ·refine bR (v8 ((iW _ m).trans z)) fun j q1=> ?_;subst q1
    refine bR a fun t' q=> ?_
    rw[q]
    simp only[PySem.strKind,Value.isStrOf]
    by_cases e:j=i
    ·simp[e]
    ·have:¬((⟨j.toArray⟩:Str)=⟨i.toArray⟩):=fun q=>e (by simpa using congrArg (fun x=>x.cps.toList) q)
     simp[e]
 ·refine bR (Cw z) fun xs q1=> ?_;subst q1
  have hi:=bY (by decide) z
  have rk':=FF [] 6 _ _ hi rk
  refine aW rk fun a vs q2 T r=> ?_;subst q2
  refine dw (rO C.prog hE fun e he=>(iW e he).trans z) fun t1 t2=> ?_
  have hn:((Gz es Es).map (·.1)).Nodup:=by rw[sV hE];exact K.vt
  refine wpAny_dictFind_heap (knd:=An C.prog C.w C) (k:=.ak xs) (xs:=Gz es Es) (o:=dictOf Es n) hu ⟨z,rk'⟩ ho rfl t1 t2 hn (fun hno=> ?_) (fun j p hj=> ?_)
  ·rw[H8]at h
   ·exact h
   ·intro hm
    rw[<-sV hE]at hm
    exact not_mem_keys_of_get hno hm
  ·refine bR (BS hE j _ _ hj) fun v hv=> ?_
   rw[H7 K.vt hv]at h
   exact h
end
end
section
section
variable{C:Cx}{β bP:Bt}{h h':Heap}{σ:H}
theorem qN.keep(hk:∀a ao,IsTup h a ao->IsTup h' a ao)(hg:∀(i:Nat) (ad:Addr×Addr),β[i]? =some ad->bP[i]? =some ad){ad:Addr×Addr}
  (h1:∀o,h.get? ad.1=some o->h'.get? ad.1=some o)(h2:∀o,h.get? ad.2=some o->h'.get? ad.2=some o):∀{o:Ob},qN C h β ad o->qN C h' bP ad o
 | .list xs,⟨e,vs,n,g,r⟩=>⟨e,vs,n,h1 _ g,aB.keep hk hg xs vs r⟩
 | .dict k es,⟨e,K,Es,g,r⟩=>⟨e,K,Es,h1 _ g,bA.keep hk hg es Es r⟩
 | .bE c fs,⟨e,q,Es,g1,g2,r⟩=>⟨e,q,Es,h1 _ g1,h2 _ g2,fZ.keep hk hg fs Es r⟩
theorem rG(k:∀a o,h.get? a=some o->h'.get? a=some o):∀a ao,IsTup h a ao->IsTup h' a ao:=
 fun a ao ⟨o,ho,r⟩=>⟨o,k a o ho,r⟩
theorem bG.keep(S:bG C h β σ)(k:∀a o,h.get? a=some o->h'.get? a=some o)(hz:h.objs.size<=h'.objs.size):bG C h' β σ:=
 ⟨S.len,fun i o ad e1 e2=>qN.keep (rG k) (fun Z Z e=>e) (k _) (k _) (S.ob i o ad e1 e2),S.apart,fun b o e=>k b o (S.ir b o e),S.new,d9 S.uA hz⟩
theorem bG.mem(S:bG C h β σ){i:Nat}{ad:Addr×Addr}(e:β[i]? =some ad):ad∈β:=vc e
theorem bG.upd(S:bG C h β σ){i:Nat}{ad:Addr×Addr}{a:Addr}{o':Ob}(jA:β[i]? =some ad)(ha:a=ad.1\/a=ad.2)(hs:Heap.SameBut a h h')(R:qN C h' β ad o'):
  bG C h' β (σ.set i o'):=by
 have hf:Fp β a:=⟨ad,S.mem jA,ha⟩
 have ht:∀b ao,IsTup h b ao->IsTup h' b ao:=fun b ao t=>by
  have:=S.fL t
  refine aD t fun o ho r=> ?_
  exact⟨o,(hs.2 b fun q=>this (q▸hf)).trans ho,r⟩
 refine⟨by rw[List.length_set];exact S.len,fun j o bd e1 e2=> ?_,S.apart,fun b o e=> ?_,S.new,hs.1▸S.uA⟩
 ·by_cases NI:i=j
  ·subst NI
   rw[jA]at e2;refine xF e2 ?_
   rw[List.getElem?_set]at e1
   simp only[if_true]at e1
   refine lK e1 fun Z e1=> ?_
   refine xF e1 ?_;exact R
  ·rw[List.getElem?_set_ne NI]at e1
   have z:=S.apart i j ad bd jA e2 NI
   have n1:bd.1≠a:=by rcases ha with rfl|rfl;exact Ne.symm z.1;exact Ne.symm z.2.2.1
   have n2:bd.2≠a:=by rcases ha with rfl|rfl;exact Ne.symm z.2.1;exact Ne.symm z.2.2.2
   exact qN.keep ht (fun Z Z e=>e) (fun o e=>(hs.2 _ n1).trans e) (fun o e=>(hs.2 _ n2).trans e) (S.ob j o bd e1 e2)
 ·refine(hs.2 b fun q=> ?_).trans (S.ir b o e)
  subst q
  have z:=S.new ad (S.mem jA)
  have l:=jr e
  rcases ha with rfl|rfl
  ·exact qj.mpr z.1 l
  ·exact qj.mpr z.2 l
theorem bG.EN(S:bG C h β σ){i:Nat}{ad:Addr×Addr}(e:β[i]? =some ad):ad.1<h.objs.size/\ad.2<h.objs.size:=by
 have hi:i<β.length:=(kX.mp e).1
 have Zo:i<σ.length:=S.len▸hi
 have z:=S.ob i σ[i] ad (pJ Zo) e
 cases TK:σ[i]with
 |list xs=>rw[TK]at z;refine vQ z fun e vs n g Z=> ?_;rw[e];exact⟨jr g,jr g⟩
 |dict k es=>rw[TK]at z;refine sO z fun e Z Es g Z=> ?_;rw[e];exact⟨jr g,jr g⟩
 |bE c fs=>rw[TK]at z;refine FZ z fun Z Z Es g1 g2 Z=> ?_;exact⟨jr g1,jr g2⟩
theorem bG.add(S:bG C h β σ){ad:Addr×Addr}{o:Ob}(k:∀a o,h.get? a=some o->h'.get? a=some o)(hz:h.objs.size<=h'.objs.size)(h1:h.objs.size<=ad.1)(h2:h.objs.size<=ad.2)
  (R:qN C h' (β++[ad]) ad o):bG C h' (β++[ad]) (σ++[o]):=by
 have S':=S.keep k hz
 have gr:∀(i:Nat) (bd:Addr×Addr),β[i]? =some bd->(β++[ad])[i]? =some bd:=fun i bd e=>by
  rw[mZ (kX.mp e).1,e]
 have qp:∀(i:Nat) (bd:Addr×Addr),(β++[ad])[i]? =some bd->β[i]? =some bd\/(i=β.length/\bd=ad):=fun i bd e=>by
  rcases Nat.lt_or_ge i β.length with Iu|Rh
  ·rw[mZ Iu]at e;exact .inl e
  ·rw[vg Rh]at e
   have:i - β.length=0:=by
    rcases Nat.eq_zero_or_pos (i - β.length)with q|q
    ·exact q
    ·rw[List.getElem?_eq_none (by simp only[yf];lia)]at e;exact bJ e
   rw[this]at e
   simp at e
   exact .inr ⟨by lia,e.symm⟩
 refine⟨by simp[S.len],fun i o' bd e1 e2=> ?_,fun i j bd cd e1 e2 NI=> ?_,S'.ir,fun bd hm=> ?_,S'.uA⟩
 ·rcases qp i bd e2 with q|⟨rfl,rfl⟩
  ·have hi:i<σ.length:=S.len▸(kX.mp q).1
   rw[mZ hi]at e1
   exact qN.keep (fun Z Z t=>t) gr (fun Z e=>e) (fun Z e=>e) (S'.ob i o' bd e1 q)
  ·rw[S.len,vg (bX _)]at e1
   simp at e1
   subst e1;exact R
 ·rcases qp i bd e1 with q|⟨rfl,rfl⟩<;>rcases qp j cd e2 with p|⟨rfl,rfl⟩
  ·exact S.apart i j bd cd q p NI
  ·have t:=S.EN q
   exact⟨qR (uu t.1 h1),qR (uu t.1 h2),qR (uu t.2 h1),qR (uu t.2 h2)⟩
  ·have t:=S.EN p
   exact⟨Nat.ne_of_gt (uu t.1 h1),Nat.ne_of_gt (uu t.2 h1),Nat.ne_of_gt (uu t.1 h2),Nat.ne_of_gt (uu t.2 h2)⟩
  ·exact absurd rfl NI
 ·rcases gj.mp hm with hm|hm
  ·exact S.new bd hm
  ·simp at hm;subst hm
   exact⟨d9 S.uA h1,d9 S.uA h2⟩
theorem adK{i:Nat}{ad:Addr×Addr}{a:Addr}(e:β[i]? =some ad)(ha:a=ad.1\/a=ad.2):Fp β a:=⟨ad,vc e,ha⟩
end
section
variable{C:Cx}{β bP:Bt}{σ:H}{X:Addr->Prop}{s:Shared}
theorem aM.fN{h':Heap}{tk:Nat}{i:Nat}{ad:Addr×Addr}{a:Addr}(e:β[i]? =some ad)(ha:a=ad.1\/a=ad.2)(hs:Heap.SameBut a s.heap h'):
  aM X β s β {s with heap:=h',toks:=tk}:=
 .Nz (nk hs.1.symm) fun b o eb hn=>(hs.2 b fun q=>hn (.inl (q▸adK e ha))).trans eb
theorem aM.EX{h':Heap}{tk:Nat}(k:∀a o,s.heap.get? a=some o->h'.get? a=some o)(hz:s.heap.objs.size<=h'.objs.size):aM X β s β {s with heap:=h',toks:=tk}:=
 .Nz hz fun b o eb Z=>k b o eb
theorem aM.more{h':Heap}{tk:Nat}{ad:Addr×Addr}(k:∀a o,s.heap.get? a=some o->h'.get? a=some o)(hz:s.heap.objs.size<=h'.objs.size)(h1:s.heap.objs.size<=ad.1)(h2:s.heap.objs.size<=ad.2):
  aM X β s (β++[ad]) {s with heap:=h',toks:=tk}:=
 ⟨⟨[ad],rfl,fun bd hm=>by simp at hm;subst hm;exact⟨h1,h2⟩⟩,hz,fun b o eb Z=>k b o eb,rfl⟩
end
section
variable{C:Cx}{β:Bt}{h:Heap}
theorem bA.at{es:List (V×V)}:∀{Es:List DictEntry},bA C h β es Es->∀{j:Nat} {y v:V},es[j]? =some (y,v)->∃E,Es[j]? =some E/\aL C h β y E.key/\aL C h β v E.val/\E.hash=mJ C.w y:=by
 induction es with
 |nil=>intro Es rz j y v e;exact bJ e
 |cons z es ih=>
  cases z with
  |mk z u=>
   intro Es rz j y v
   refine dQ rz fun E t q a b c r=> ?_
   cases j with
   |zero=>exact fun e=>kT e ⟨E,congrArg (·[0]?) q,a,b,c⟩
   |succ j=>exact fun e=>aD (ih r e) fun E' g z=>⟨E',(congrArg (·[j+1]?) q).trans g,z⟩
theorem zo(x:V):∀es:List (V×V),aT x es=(ni x es).bind fun j=>(es[j]?).map (·.2)
 |[]=>rfl
 |(y,v)::r=>by
  have ih:=zo x r
  unfold ni at ih⊢
  rw[List.findIdx?_cons]
  rw[eO]
  by_cases e:x=y
  ·subst e;simp
  ·have e':¬y=x:=fun q=>e q.symm
   simp only[aG e,fH e',Bw,if_false,ih]
   cases List.findIdx? (fun e=>decide (e.1=x)) r<;>simp
theorem wz(x v:V):∀es:List (V×V),dM x v es=match ni x es with
  |some j=>es.modify j fun e=>(e.1,v)
  |none=>es++[(x,v)]
 |[]=>rfl
 |(y,u)::r=>by
  have ih:=wz x v r
  unfold ni at ih⊢
  rw[List.findIdx?_cons]
  rw[l5]
  by_cases e:x=y
  ·subst e;simp
  ·have e':¬y=x:=fun q=>e q.symm
   simp only[aG e,fH e',Bw,if_false,ih]
   cases List.findIdx? (fun e=>decide (e.1=x)) r<;>simp[List.modify_succ_cons]
theorem bA.modify{v:V}{V':Value}(rv:aL C h β v V'):∀{es:List (V×V)} {Es:List DictEntry},bA C h β es Es->∀j,bA C h β (es.modify j fun e=>(e.1,v)) (Es.modify j fun e=>{e with val:=V'})
 |[],_,r,j=>by cases r;rw[List.modify_nil,List.modify_nil];rfl
 |(z,u)::es,Ez,rz,j=>dQ rz fun E t q a b c r=>by
  subst q
  cases j with
  |zero=>exact⟨{E with val:=V'},t,by simp,a,rv,c,r⟩
  |succ j=>
   simp only[List.modify_succ_cons]
   exact⟨E,_,rfl,a,b,c,bA.modify rv r j⟩
theorem bA.Ds{x v:V}{E:DictEntry}(a:aL C h β x E.key)(b:aL C h β v E.val)(c:E.hash=mJ C.w x):∀{es:List (V×V)} {Es:List DictEntry},bA C h β es Es->bA C h β (es++[(x,v)]) (Es++[E])
 |[],_,r=>by cases r;exact⟨E,[],rfl,a,b,c,rfl⟩
 |(z,u)::es,_,⟨E',t,q,a',b',c',r⟩=>by
  subst q
  exact⟨E',_,rfl,a',b',c',bA.Ds a b c r⟩
theorem oh(v:V):∀(es:List (V×V)) (j:Nat),(es.modify j fun e=>(e.1,v)).map (·.1)=es.map (·.1)
 |[],j=>by simp
 |e::es,0=>by simp
 |e::es,j+1=>by simp[List.modify_succ_cons,oh v es j]
theorem yj{x:V}{es:List (V×V)}(e:ni x es=none):x∉es.map (·.1):=by
 unfold ni at e
 rw[List.findIdx?_eq_none_iff]at e
 intro hm
 refine aD (eY.mp hm) fun p hp q=> ?_
 have:=e p hp
 rw[q]at this
 simp at this
theorem dZ.eX{k:Nat}{es:List (V×V)}(K:dZ k es){x v:V}(hx:x.kind≠0)(hk:es=[]\/x.kind=k):dZ x.kind (dM x v es):=by
 have iW:∀e∈es,e.1.kind=x.kind:=by
  intro e he
  rcases hk with rfl|hk
  ·exact nomatch he
  ·rw[K.kind e he,hk]
 rw[wz]
 cases hi:ni x es with
 |none=>
  refine⟨fun e he=> ?_,fun Z=>hx,?_⟩
  ·rcases gj.mp he with he|he
   ·exact iW e he
   ·simp at he;subst he;rfl
  ·rw[List.map_append,List.nodup_append]
   refine⟨K.vt,by simp,fun a ha b hb=> ?_⟩
   simp at hb;subst hb
   exact fun q=>yj hi (q▸ha)
 |some j=>
  refine⟨fun e he=> ?_,fun Z=>hx,?_⟩
  ·have:e.1∈(es.modify j fun e=>(e.1,v)).map (·.1):=eY.mpr ⟨e,he,rfl⟩
   rw[oh]at this
   refine aD (eY.mp this) fun p hp q=> ?_
   rw[<-q];exact iW p hp
  ·show((es.modify j fun e=>(e.1,v)).map (·.1)).Nodup
   rw[oh];exact K.vt
end
section
variable{C:Cx}{β:Bt}{A:Around}{E:Value->Shared->Prop}{s:Shared}
theorem JJ{d n:Nat}{es:List (V×V)}{Es:List DictEntry}{k:Nat}{x:V}{key:Value}{Q:Option Value->Shared->Prop}
  (ho:s.heap.get? d=some (dictOf Es n))(hE:bA C s.heap β es Es)(K:dZ k es)(hx:x.kind≠0)(hk:es=[]\/x.kind=k)(rk:aL C s.heap β x key)
  (hu:A.units+64<cLine)(h:∀tk r,(match aT x es with|some v=>∃u,r=some u/\aL C s.heap β v u|none=>r=none)->Q r {s with toks:=tk}):
  wpAny (model C.prog C.w) A (dictGet d key) Q E s:=by
 unfold dictGet
 try with_reducible refine j0 ?_
 refine bK (wj E 6 x key A s _ (bY hx rfl) rk (fR hu) ?_)
 refine bK (La (s:={s with toks:=s.toks+nC x}) ho hE K hx hk rk hu ?_)
 rw[zo]at h
 cases hi:ni x es with
 |none=>rw[hi]at h;exact cW (h _ none rfl)
 |some j=>
  rw[hi]at h
  refine bK (wpAny_dictEntries (s:={s with toks:=s.toks+nC x}) ho rfl (cW ?_))
  have hj:j<es.length:=by
   unfold ni at hi
   exact(List.findIdx?_eq_some_iff_getElem.mp hi).1
  refine eH (hE.at (j:=j) (y:=es[j].1) (v:=es[j].2) (pJ hj)) fun E' q a b c=> ?_
  refine h _ _ ?_
  simp only[Option.bind_some,pJ hj,Option.map_some]
  exact⟨E'.val,by simp[q],b⟩
theorem Rx{d:Nat}{es:List (V×V)}{Es:List DictEntry}{k:Nat}{x v:V}{key u:Value}{Q:Unit->Shared->Prop}
  (ho:s.heap.get? d=some (dictOf Es Es.length))(hE:bA C s.heap β es Es)(K:dZ k es)(hx:x.kind≠0)(hk:es=[]\/x.kind=k)(rk:aL C s.heap β x key)(rv:aL C s.heap β v u)
  (hu:A.units+64<cLine)(hz:es.length<aJ)
  (h:∀tk h' Gy,h'.get? d=some (dictOf Gy Gy.length)->bA C s.heap β (dM x v es) Gy->Heap.SameBut d s.heap h'->Q () {s with heap:=h',toks:=tk}):
  wpAny (model C.prog C.w) A (dictSet d key u) Q E s:=by
 unfold dictSet
 try with_reducible refine j0 ?_
 refine bK (wj E 6 x key A s _ (bY hx rfl) rk (fR hu) ?_)
 unfold dictSetHashed
 try with_reducible refine j0 ?_
 refine bK (La (s:={s with toks:=s.toks+nC x}) ho hE K hx hk rk hu ?_)
 rw[wz]at h
 cases hi:ni x es with
 |some j=>
  rw[hi]at h
  refine bK (wpAny_rule (bK (wpAny_updateDict (s:={s with toks:=s.toks+nC x}) ho rfl (wpAny_point ?_))))
  refine h _ _ (Es.modify j fun e=>{e with val:=u}) ?_ (hE.modify rv j) (Heap.SameBut.update ..)
  have:=Heap.get?_update_self (Obj.mapDict fun es=>es.modify j fun e=>{e with val:=u}) ho rfl
  rw[this]
  show some ({cls:=.type "dict",data:=.dict (Es.toArray.modify j fun e=>{e with val:=u}) Es.length}:Obj)=_
  rw[List.modify_toArray,List.length_modify]
 |none=>
  rw[hi]at h
  have hsz:Es.toArray.size<=sizeLine:=by
   rw[mY,hE.length,sizeLine_eq]
   unfold aJ at hz;exact(GR hz rfl)
  refine bK (wpAny_rule (wpAny_updateDictKeys (hz:=hsz) (s:={s with toks:=s.toks+nC x}) ho rfl ?_))
  refine h _ _ (Es++[⟨mJ C.w x,key,u⟩]) ?_ (hE.Ds rk rv rfl) (Heap.SameBut.update ..)
  have:=Heap.get?_update_self (Obj.mapDictKeys fun es=>es.push ⟨mJ C.w x,key,u⟩) ho rfl
  rw[this]
  show some ({cls:=.type "dict",data:=.dict (Es.toArray.push ⟨mJ C.w x,key,u⟩) (Es.length+1)}:Obj)=_
  rw[List.push_toArray,fV]
  rfl
end
end
section
section
variable{C:Cx}{β:Bt}{σ:H}{A:Around}{E:Value->Shared->Prop}{s:Shared}
theorem bG.get(S:bG C s.heap β σ){i:Nat}{o:Ob}(e:σ[i]? =some o){v:Value}(r:aL C s.heap β (.ref i) v):∃ad,β[i]? =some ad/\v=.ref ad.1/\qN C s.heap β ad o:=by
 refine aD r fun ad h1 h2=> ?_
 exact⟨ad,h1,h2,S.ob i o ad e h1⟩
theorem v9:∀{xs:List V},xs.all V.aS=true->V.cX 6 xs=true
 |[],_=>rfl
 |x::r,h=>by
  rw[List.all_cons,dX]at h
  exact kK h.1 (v9 h.2)
theorem wZ{a:Addr}{xs:List V}{vs:List Value}{n:Nat}(g:s.heap.get? a=some (W.listOf vs.toArray n))(r:aB C s.heap β xs vs)(hk:V.cX 6 xs=true):
  ∃as,Reads s.heap (.ref a) (.list (V.gz xs)) as:=by
 refine bR (Ef 6 xs vs hk r) fun as q=> ?_
 exact⟨_,.list g rfl rfl (q)⟩
theorem kc{xs:List V}(hk:V.cX 6 xs=true):SeqAt.shaped (.list (V.gz xs))=true:=by
 have l:=Mk 6 xs hk
 unfold SeqAt.shaped
 simp only[PyData.canLay0,PyData.depth,l.1]
 exact ez (by have:=l.2;omega)
theorem Cr{xs ys:List V}(hx:V.cX 6 xs=true)(hy:V.cX 6 ys=true):PyData.eqv (.list (V.gz xs)) (.list (V.gz ys))=decide (xs=ys):=by
 have q:=MA 6 6 xs ys hx hy
 by_cases e:xs=ys
 ·rw[ez e];exact q.mpr e
 ·rw[fH e];exact Bool.eq_false_iff.mpr fun z=>e (q.mp z)
noncomputable def dJ(es:List (V×V))(Es:List DictEntry):List (Int×Value):=(es.zip Es).map fun p=>((match p.1.1 with| .int i=>i|_=>0),p.2.val)
theorem iP:∀{es:List (V×V)} {Es:List DictEntry},bA C s.heap β es Es->(dJ es Es).length=es.length
 |[],_,r=>by cases r;rfl
 |(_,_)::_,Ez,rz=>dQ rz fun e t q Z Z Z r=>by
  subst q
  exact congrArg Nat.succ (iP r)
theorem t6(prog:Program)(w:World):∀{es:List (V×V)} {Es:List DictEntry},bA C s.heap β es Es->(∀e∈es,e.1.kind=1)->Pairs (intKind prog w) Es (dJ es Es)
 |[],_,r,_=>by cases r;exact .nil
 |(y,v)::es,Ez,rz,hk=>dQ rz fun e t q a b c r=>by
  subst q
  refine bR (ia (hk _ (.head _))) fun i q1=> ?_;subst q1
  refine bR a fun tk ek=> ?_
  refine .cons ?_ rfl (t6 prog w r fun e he=>hk e (.tail _ he))
  rw[ek];simp[intKind,Value.isInt]
theorem qy:∀{es:List (V×V)} {Es:List DictEntry},bA C s.heap β es Es->(∀e∈es,e.1.kind=1)->(dJ es Es).map (fun p=>V.int p.1)=es.map (·.1)
 |[],_,r,_=>by cases r;rfl
 |(y,v)::es,Ez,rz,hk=>dQ rz fun e t q a b c r=>by
  subst q
  refine bR (ia (hk _ (.head _))) fun i q1=> ?_;subst q1
  exact congrArg (V.int i::·) (qy r fun e he=>hk e (.tail _ he))
theorem G5{i:Int}{u:Value}{r:List (Int×Value)}:valueAt ((i,u)::r) i=some u:=congrArg (Option.map fun z:Int×Value=>z.2) (List.find?_cons_of_pos (a:=(i,u)) (p:=fun z:Int×Value=>decide (z.1=i)) (ez rfl))
theorem G6{i j:Int}{u:Value}{r:List (Int×Value)}(h:¬j=i):valueAt ((j,u)::r) i=valueAt r i:=congrArg (Option.map fun z:Int×Value=>z.2) (List.find?_cons_of_neg (a:=(j,u)) (p:=fun z:Int×Value=>decide (z.1=i)) (fun q=>h (jx q)))
theorem CF:∀{es:List (V×V)} {Es:List DictEntry},bA C s.heap β es Es->(∀e∈es,e.1.kind=1)->∀i:Int,(match aT (.int i) es with|some v=>∃u,valueAt (dJ es Es) i=some u/\aL C s.heap β v u|none=>valueAt (dJ es Es) i=none)
 |[],_,r,_,i=>by cases r;rfl
 |(y,v)::es,Ez,rz,hk,i=>dQ rz fun e t q a b c r=>by
  subst q
  refine bR (ia (hk _ (.head _))) fun j q1=> ?_;subst q1
  have ih:=CF r (fun e he=>hk e (.tail _ he)) i
  rw[eO]
  by_cases ej:(V.int i)=V.int j
  ·rw[aI ej]
   injection ej with ej
   subst ej
   exact⟨e.val,G5,b⟩
  ·rw[aG ej]
   have ne:¬j=i:=fun q=>ej (by rw[q])
   have e2:valueAt (dJ ((V.int j,v)::es) (e::t)) i=valueAt (dJ es t) i:=by
    exact G6 ne
   rw[e2];exact ih
theorem qz{d:Addr}{n:Nat}{es:List (V×V)}{Es:List DictEntry}(g:s.heap.get? d=some (dictOf Es n))(r:bA C s.heap β es Es)(hk:∀e∈es,e.1.kind=1)(hn:(es.map (·.1)).Nodup):
  s.heap.DictOf (intKind C.prog C.w) d (dJ es Es):=by
 refine⟨_,Es.toArray,n,g,⟨rfl,rfl,rfl⟩,rfl,?_,t6 C.prog C.w r hk,?_⟩
 ·intro e he
  refine d7 (r.OE e (by simpa using he)) fun y v m a b c=> ?_
  refine bR (ia (hk _ m)) fun j q1=> ?_;subst q1
  refine bR a fun t' q=> ?_
  exact⟨j,by rw[q];simp[intKind,Value.isInt],by rw[c];rfl⟩
 ·rw[<-qy r hk]at hn
  have:(dJ es Es).map (fun p=>V.int p.1)=((dJ es Es).map (·.1)).map V.int:=by simp
  rw[this]at hn
  exact(List.pairwise_map.mp hn).imp fun h e=>h (by rw[e])
theorem zm{k u:V}:∀{fs:List (V×V)},aT k fs=some u->∃e∈fs,e.2=u
 |[],hl=>by exact nomatch hl
 |(k',x)::fs,hl=>by
  rw[eO]at hl
  by_cases q:k=k'
  ·rw[aI q]at hl;exact xF hl ⟨_,.head _,rfl⟩
  ·rw[aG q]at hl;exact aD (zm hl) fun e' m q=>⟨e',.tail _ m,q⟩
theorem pO{A:Around}(hu:A.units+64<cLine){fs:List (V×V)}{Fs:List DictEntry}(rf:bA C s.heap β fs Fs)(kf:∀e∈fs,e.1.kind=1)(vf:∀e∈fs,e.2.aS=true):
  ∀{es:List (V×V)} {Es:List DictEntry},bA C s.heap β es Es->(∀e∈es,e.1.kind=1)->(∀e∈es,e.2.aS=true)->KeqHits A s (dJ fs Fs) (dJ es Es) (es.all fun e=>aT e.1 fs==some e.2)
 |[],_,r,_,_=>by cases r;exact .nil
 |(y,v)::es,Ez,rz,hk,hv=>dQ rz fun e t q a b c r=>by
  subst q
  refine bR (ia (hk _ (.head _))) fun j q1=> ?_;subst q1
  have ih:=pO hu rf kf vf r (fun e he=>hk e (.tail _ he)) fun e he=>hv e (.tail _ he)
  have z:=CF rf kf j
  rw[List.all_cons]
  show KeqHits A s (dJ fs Fs) ((j,e.val)::dJ es t) _
  cases hl:aT (.int j) fs with
  |none=>
   rw[hl]at z
   change KeqHits A s (dJ fs Fs) ((j,e.val)::dJ es t) (((none:Option V)==some v)&&_)
   rw[show((none:Option V)==some v)=false from rfl,Bool.false_and]
   exact .miss z
  |some u=>
   rw[hl]at z
   refine aD z fun U z1 z2=> ?_
   refine aD (zm hl) fun p hp q2=> ?_;subst q2
   have kv:v.aS=true:=hv _ (.head _)
   have ku:=vf p hp
   refine bR (jy 6 v e.val kv b) fun as ra=> ?_
   refine bR (jy 6 p.2 U ku z2) fun bs rb=> ?_
   have l1:=oz 6 v kv
   have l2:=oz 6 p.2 ku
   have lk:v.cG p.2=true:=by unfold V.cG;rw[kv,ku];rfl
   have ea:EqAt A s e.val U (decide (v=p.2)):=by
    rw[<-nP lk]
    exact eqAt_reads _ _ A s _ _ as bs ra rb l1.1 l2.1 (by have:=l1.2;have:=l2.2;omega)
   have ee:(some p.2==some v)=decide (v=p.2):=by
    by_cases q:v=p.2
    ·subst q;simp
    ·have q':¬p.2=v:=fun x=>q x.symm
     simp[q,q']
   change KeqHits A s (dJ fs Fs) ((j,e.val)::dJ es t) ((some p.2==some v)&&_)
   rw[ee]
   exact .hit z1 ea ih
end
end
section
theorem Po{a n:Addr}(h1:sysModules<n)(h2:n<=a):(a==sysModules)=false:=by
 have:a≠sysModules:=fun q=>qj.mpr h2 (q▸h1)
 simpa using this
section
variable{C:Cx}{β:Bt}{σ:H}{A:Around}{E:Value->Shared->Prop}{s:Shared}
theorem b9{d:Addr}{Es:List DictEntry}{n:Nat}(ho:s.heap.get? d=some (dictOf Es n)):s.TypeIs (.ref d) "dict":=⟨_,ho,rfl⟩
section
variable{d n:Nat}{es:List (V×V)}{Es:List DictEntry}{k:Nat}{x:V}{key:Value}
theorem xm{Q:Bool->Shared->Prop}(hd:(d==sysModules)=false)
  (ho:s.heap.get? d=some (dictOf Es n))(hE:bA C s.heap β es Es)(K:dZ k es)(hx:x.kind≠0)(hk:es=[]\/x.kind=k)(rk:aL C s.heap β x key)
  (hu:A.units+65<cLine)(h:∀tk,Q (aT x es).isSome {s with toks:=tk}):wpAny (model C.prog C.w) A (contains (.ref d) key) Q E s:=by
 unfold contains
 try with_reducible refine j0 ?_
 refine bK (wpAny_specialOf (b9 ho) slot_dict_contains.lookup ?_)
 refine bK (wpAny_callSpecialUnlessNone?_slot (name:=Str.ofString "__contains__") (b9 ho) slot_dict_contains
  (yc slot_dict_contains (b9 ho) entry_dict_contains ?_ (args_dict_contains _ _)))
 show wpAny _ _ (dictGet d key>>=_) _ _ s
 refine bK (JJ ho hE K hx hk rk (show A.units+1+64<cLine by omega) fun tk r hr=> ?_)
 cases hf:aT x es with
 |some p=>
  rw[hf]at hr
  refine aD hr fun u q1 Z=> ?_;subst q1
  have h':=h tk
  rw[hf]at h'
  exact cW ⟨_,rfl,wpAny_truthy_bool h'⟩
 |none=>
  rw[hf]at hr
  have hr:r=none:=hr
  subst hr
  have h':=h tk
  rw[hf]at h'
  exact bK (wpAny_pendingKey_other hd (cW ⟨_,rfl,wpAny_truthy_bool h'⟩))
theorem agF{Q:Value->Shared->Prop}(hd:(d==sysModules)=false)
  (ho:s.heap.get? d=some (dictOf Es n))(hE:bA C s.heap β es Es)(K:dZ k es)(hx:x.kind≠0)(hk:es=[]\/x.kind=k)(rk:aL C s.heap β x key)
  (hu:A.units+65<cLine)(h:∀tk,Q (.bool (aT x es).isSome) {s with toks:=tk}):wpAny (model C.prog C.w) A (compareOp .In key (.ref d)) Q E s:=by
 exact bK (xm hd ho hE K hx hk rk hu fun tk=>cW (h tk))
theorem Pp{Q:Value->Shared->Prop}(hd:(d==sysModules)=false)
  (ho:s.heap.get? d=some (dictOf Es n))(hE:bA C s.heap β es Es)(K:dZ k es)(hx:x.kind≠0)(hk:es=[]\/x.kind=k)(rk:aL C s.heap β x key)
  (hu:A.units+65<cLine)(h:∀tk,Q (.bool (!(aT x es).isSome)) {s with toks:=tk}):wpAny (model C.prog C.w) A (compareOp .NotIn key (.ref d)) Q E s:=by
 exact bK (xm hd ho hE K hx hk rk hu fun tk=>cW (h tk))
theorem xz{v:V}{Q:Value->Shared->Prop}
  (ho:s.heap.get? d=some (dictOf Es n))(hE:bA C s.heap β es Es)(K:dZ k es)(hx:x.kind≠0)(hk:x.kind=k)(rk:aL C s.heap β x key)(hl:aT x es=some v)
  (hu:A.units+65<cLine)(h:∀tk u,aL C s.heap β v u->Q u {s with toks:=tk}):wpAny (model C.prog C.w) A (getItem (.ref d) key) Q E s:=by
 unfold getItem
 try with_reducible refine j0 ?_
 refine bK (wpAny_sequenceKey (b9 ho) (rfl) ?_)
 refine bK (wpAny_callSpecial?_slot (name:=Str.ofString "__getitem__") (b9 ho) slot_dict_getitem
  (yc slot_dict_getitem (b9 ho) entry_dict_getitem ?_ (args_dict_getitem _ _)))
 show wpAny _ _ (dictGet d key>>=_) _ _ s
 refine bK (JJ ho hE K hx (.inr hk) rk (show A.units+1+64<cLine by omega) fun tk r hr=> ?_)
 rw[hl]at hr
 refine aD hr fun u q1 ru=> ?_;subst q1
 exact cW ⟨u,rfl,cW (h tk u ru)⟩
theorem xw{v:V}{u:Value}{Q:Unit->Shared->Prop}
  (ho:s.heap.get? d=some (dictOf Es Es.length))(hE:bA C s.heap β es Es)(K:dZ k es)(hx:x.kind≠0)(hk:es=[]\/x.kind=k)(rk:aL C s.heap β x key)(rv:aL C s.heap β v u)
  (hu:A.units+65<cLine)(hz:es.length<aJ)
  (h:∀tk h' Gy,h'.get? d=some (dictOf Gy Gy.length)->bA C s.heap β (dM x v es) Gy->Heap.SameBut d s.heap h'->Q () {s with heap:=h',toks:=tk}):
  wpAny (model C.prog C.w) A (setItem (.ref d) key u) Q E s:=by
 unfold setItem
 try with_reducible refine j0 ?_
 refine bK (wpAny_sequenceKey (b9 ho) (rfl) ?_)
 refine bK (wpAny_callSpecial?_slot (name:=Str.ofString "__setitem__") (b9 ho) slot_dict_setitem
  (yc slot_dict_setitem (b9 ho) entry_dict_setitem ?_ (args_dict_setitem _ _ _)))
 refine bK (wpAny_notOrdered_dict (b9 ho) ?_)
 show wpAny _ _ (dictSet d key u>>=_) _ _ s
 exact bK (Rx ho hE K hx hk rk rv (show A.units+1+64<cLine by omega) hz fun tk h' Gy a b c=>cW ⟨.none,rfl,cW (h tk h' Gy a b c)⟩)
theorem yh{v:V}{u:Value}{Q:Value->Shared->Prop}(hd:(d==sysModules)=false)
  (ho:s.heap.get? d=some (dictOf Es n))(hE:bA C s.heap β es Es)(K:dZ k es)(hx:x.kind≠0)(hk:es=[]\/x.kind=k)(rk:aL C s.heap β x key)(rv:aL C s.heap β v u)
  (hu:A.units+65<cLine)(h:∀tk r,aL C s.heap β ((aT x es).getD v) r->Q r {s with toks:=tk}):
  wpAny (model C.prog C.w) A (call (.builtin "dict.get") [.ref d,key,u]) Q E s:=by
 refine yc F.slot_dict_get (b9 ho) F.entry_dict_get ?_ (F.args_dict_get_3 _ _ _)
 show wpAny _ _ (dictGet d key>>=_) _ _ s
 refine bK (JJ ho hE K hx hk rk (show A.units+1+64<cLine by omega) fun tk r hr=> ?_)
 have h':=h tk
 cases hf:aT x es with
 |some p=>
  rw[hf]at hr h'
  refine aD hr fun w q1 rw=> ?_;subst q1
  exact cW ⟨w,rfl,h' w rw⟩
 |none=>
  rw[hf]at hr h'
  have hr:r=none:=hr
  subst hr
  exact bK (wpAny_missed_other hd (cW ⟨u,rfl,h' u rv⟩))
end
structure cN(C:Cx):Prop where
 sys:sysModules<C.eG.objs.size
 X:C.K.In C.eG
 hg:C.eG.Ns mainGlobals C.mg
 hb:C.eG.Ns builtinsNs C.mb
 lim:C.eG.NoLimit
theorem bG.lX(ok:cN C)(S:bG C s.heap β σ){i:Nat}{ad:Addr×Addr}(e:β[i]? =some ad):(ad.1==sysModules)=false:=Po ok.sys (S.new ad (S.mem e)).1
theorem rj{x:V}:∀{xs:List V},xs.all x.cG=true->((V.gz xs).any fun y=>PyData.eqv y x.rW)=decide (x∈xs)
 |[],_=>rfl
 |y::r,h=>by
  rw[List.all_cons,dX]at h
  have l:y.cG x=true:=by
   have:=h.1
   unfold V.cG at this⊢
   rw[je,dX,dX]at this⊢
   exact this.imp And.symm And.symm
  rw[V.gz,List.any_cons,rj h.2,nP l]
  by_cases e:x=y
  ·subst e;simp
  ·have e':¬y=x:=fun q=>e q.symm
   simp[e,e']
theorem nZ{x:V}{u:Value}(ru:aL C s.heap β x u):∀{xs:List V} {vs:List Value},xs.all x.cG=true->aB C s.heap β xs vs->∃as,ReadsAll s.heap vs (V.gz xs) as/\PyData.canLayAll0 (V.gz xs)=true/\PyData.depthAll (V.gz xs)<=6
 |[],_,_,r=>by cases r;exact⟨_,.nil,rfl,by simp[V.gz,PyData.depthAll]⟩
 |y::r,_,h,⟨v,t,e,a,b⟩=>by
  subst e
  rw[List.all_cons,dX]at h
  refine dF (nZ ru h.2 b) fun as p l1 l2=> ?_
  refine Ai (jU h.1 ru a) fun Z u1 Z l3 l4=> ?_;refine bR u1 fun bs q=> ?_
  refine⟨_,.cons q p,?_,?_⟩
  ·rw[V.gz,PyData.canLayAll0,l3,l1];rfl
  ·rw[V.gz,PyData.depthAll];omega
theorem Ct{x:V}(h:x.aS=true\/x.vO=true){u:Value}(ru:aL C s.heap β x u):∃as,Reads s.heap u x.rW as/\x.rW.canLay0=true/\x.rW.depth<=6:=by
 have l:x.cG x=true:=by
  unfold V.cG
  rw[je,dX,dX]
  exact h.imp (fun q=>⟨q,q⟩) fun q=>⟨q,q⟩
 refine iA (jU l ru ru) fun u1 Z l1 Z=> ?_;refine bR u1 fun as p=> ?_
 exact⟨as,p,l1⟩
theorem za{x y:V}(h:x.cG y=true):x.aS=true\/x.vO=true:=by
 unfold V.cG at h
 rw[je,dX,dX]at h
 exact h.imp And.left And.left
end
end
section
section
variable{C:Cx}{β:Bt}{σ:H}{A:Around}{E:Value->Shared->Prop}{s:Shared}
noncomputable def BH:Op->CmpOp
 | .eq=>.Eq| .ne=>.NotEq| .lt=>.Lt| .le=>.LtE| .gt=>.Gt| .ge=>.GtE| .cZ=>.In| .gw=>.NotIn
theorem aaL(ok:cN C)(S:bG C s.heap β σ){x y:V}{u v:Value}{r:Bool}(hr:eqv σ x y=some r)(hu:A.units+66<cLine)(ru:aL C s.heap β x u)(rv:aL C s.heap β y v):
  (∀Q:Value->Shared->Prop,Q (.bool r) s->wpAny (model C.prog C.w) A (compareOp .Eq u v) Q E s)/\
  (∀Q:Value->Shared->Prop,Q (.bool !r) s->wpAny (model C.prog C.w) A (compareOp .NotEq u v) Q E s):=by
 have hu':A.units+64<cLine:=uY hu rfl
 refine Bd fun G kG=>adz hr (fun hl e=> ?_) (fun i j xs ys ex ey e1 e2 kx ky e=> ?_) fun i j xs ys ex ey e1 e2 kx ky e=> ?_
 all_goals subst e
 ·exact kG ⟨fun Q h=>EB hl hu' ru rv h,fun Q h=>EA hl hu' ru rv h⟩
 all_goals rw[ex]at ru;rw[ey]at rv
 ·have kx:=v9 kx
  have ky:=v9 ky
  refine dm (S.get e1 ru) fun ad jA q2 Z vs n g rr=>dm (S.get e2 rv) fun bd UQ q3 Z ws m g' Io=> ?_
  refine bR (wZ g rr kx) fun as q=>bR (wZ g' Io ky) fun bs q'=>kG ?_
  rw[q2,q3]
  exact⟨fun Q h=>eq_dataH q q' (kc kx) (kc ky) hu' (by rw[Cr kx ky];exact h),fun Q h=>ne_dataH q q' (kc kx) (kc ky) hu' (by rw[Cr kx ky];exact h)⟩
 ·refine fD (S.get e1 ru) fun ad jA q2 Z K Es g rr=>fD (S.get e2 rv) fun bd UQ q3 Z K' Fs g' Io=>kG ?_
  rw[q2,q3]
  have d1:=qz (C:=C) g rr K.kind K.vt
  have d2:=qz (C:=C) g' Io K'.kind K'.vt
  have aal:=pO (A:=A.in1) (show A.units+65<cLine from uY hu rfl) Io K'.kind (dG.mp ky) rr K.kind (dG.mp kx)
  have e:((dJ xs Es).length==(dJ ys Fs).length&&xs.all fun e=>aT e.1 ys==some e.2)=jN xs ys:=by
   unfold jN;rw[iP rr,iP Io]
  have hv:A.units<cLine:=ur hu
  exact⟨fun Q h=>keq_eq (S.lX ok jA) (S.lX ok UQ) d1 d2 hv (fun Z=>aal) (by rw[e];exact h),fun Q h=>keq_ne (S.lX ok jA) (S.lX ok UQ) d1 d2 hv (fun Z=>aal) (by rw[e];exact h)⟩
theorem dZ.any{k:Nat}{es:List (V×V)}(K:dZ k es){x:V}(h:(x.kind !=0&&(k==0||x.kind==k))=true):x.kind≠0/\(es=[]\/x.kind=k):=by
 rw[dX,je,bne_iff_ne,jE,jE]at h
 refine⟨h.1,h.2.imp (fun q=> ?_) id⟩
 cases es with
 |nil=>rfl
 |cons e r=>exact absurd q (K.Ul (by simp))
theorem dZ.aau{n k:Nat}{es:List (V×V)}(K:dZ n es)(h:(n==k||n==0)=true):es=[]\/k=n:=
 (Bool.or_eq_true_iff.mp h).elim (fun q=>.inr (eq_of_beq q).symm) fun q=>.inl (by
  cases es with
  |nil=>rfl
  |cons e r=>exact absurd (eq_of_beq q) (K.Ul nofun))
theorem Cg(ok:cN C)(S:bG C s.heap β σ){x y:V}{u v:Value}{r:Bool}(hr:bD σ x y=some r)(hu:A.units+66<cLine)(ru:aL C s.heap β x u)(rv:aL C s.heap β y v):
  (∀Q:Value->Shared->Prop,(∀tk,Q (.bool r) {s with toks:=tk})->wpAny (model C.prog C.w) A (compareOp .In u v) Q E s)/\
  (∀Q:Value->Shared->Prop,(∀tk,Q (.bool !r) {s with toks:=tk})->wpAny (model C.prog C.w) A (compareOp .NotIn u v) Q E s):=by
 refine Bd fun G kG=>adu hr (fun xs ey hl e=> ?_) (fun i xs ey e1 hl e=> ?_) fun i k es ey e1 hk e=> ?_
 all_goals subst e;rw[ey]at rv
 ·rw[dX]at hl
  refine aW rv fun a vs q2 u1 rr=>nJ u1 fun o ho hc m hd=>dF (nZ ru hl.2 rr) fun as p l1 l2=>dF (Ct (za hl.1) ru) fun bs q l3 l4=>kG ?_
  rw[q2]
  have rc:Reads s.heap (.ref a) (.tuple (V.gz xs)) _:=.tuple ho hc hd (by rw[List.toList_toArray];exact p)
  have hb:A.units+1+min (PyData.depthAll (V.gz xs)) x.rW.depth<cLine:=by
   exact Bx (Nat.add_le_add_left (d9 (Nat.min_le_right _ _) l4) _) (show A.units+7<cLine from uY hu rfl)
  exact⟨fun Q h=>in_tuple_reads rc q l1 l3 hb (by rw[rj hl.2];exact h s.toks),fun Q h=>notIn_tuple_reads rc q l1 l3 hb (by rw[rj hl.2];exact h s.toks)⟩
 ·rw[dX]at hl
  refine dm (S.get e1 rv) fun ad jA q2 Z vs n g rr=>dF (nZ ru hl.2 rr) fun as p l1 l2=>dF (Ct (za hl.1) ru) fun bs q l3 l4=>kG ?_
  rw[q2]
  have rc:Reads s.heap (.ref ad.1) (.list (V.gz xs)) _:=.list g rfl rfl (by simpa[W.listOf]using p)
  have hb:A.units+1+min (PyData.depthAll (V.gz xs)) x.rW.depth<cLine:=by
   exact Bx (Nat.add_le_add_left (d9 (Nat.min_le_right _ _) l4) _) (show A.units+7<cLine from uY hu rfl)
  exact⟨fun Q h=>in_list_reads rc q l1 l3 hb (by rw[rj hl.2];exact h s.toks),fun Q h=>notIn_list_reads rc q l1 l3 hb (by rw[rj hl.2];exact h s.toks)⟩
 ·refine fD (S.get e1 rv) fun ad jA q2 Z K Es g rr=>dw (K.any hk) fun k1 k2=>kG ?_
  rw[q2]
  have hv:A.units+65<cLine:=uY hu rfl
  exact⟨fun Q h=>agF (S.lX ok jA) g rr K k1 k2 ru hv h,fun Q h=>Pp (S.lX ok jA) g rr K k1 k2 ru hv h⟩
theorem ZO(ok:cN C)(S:bG C s.heap β σ){op:Op}{x y z:V}{u v:Value}(hr:xH σ op x y=some z)(hu:A.units+66<cLine)(ru:aL C s.heap β x u)(rv:aL C s.heap β y v){Q:Value->Shared->Prop}
  (h:∀tk r,aL C s.heap β z r->Q r {s with toks:=tk}):wpAny (model C.prog C.w) A (compareOp (BH op) u v) Q E s:=by
 cases op with
 |eq=>refine aD (ve.mp hr) fun r hq q2=> ?_;subst q2;exact(aaL ok S hq hu ru rv).1 _ (h s.toks _ rfl)
 |ne=>refine aD (ve.mp hr) fun r hq q2=> ?_;subst q2;exact(aaL ok S hq hu ru rv).2 _ (h s.toks _ rfl)
 |cZ=>refine aD (ve.mp hr) fun r hq q2=> ?_;subst q2;exact(Cg ok S hq hu ru rv).1 _ fun tk=>h tk _ rfl
 |gw=>refine aD (ve.mp hr) fun r hq q2=> ?_;subst q2;exact(Cg ok S hq hu ru rv).2 _ fun tk=>h tk _ rfl
 |lt=>refine i8 hr fun i j q0 q1 hr=> ?_;subst q0 q1;revert h;refine xF hr fun h=> ?_;refine bR ru fun Z q1=> ?_;subst q1;refine bR rv fun Z q1=> ?_;subst q1;exact P.lt_int (h s.toks _ rfl)
 |le=>refine i8 hr fun i j q0 q1 hr=> ?_;subst q0 q1;revert h;refine xF hr fun h=> ?_;refine bR ru fun Z q1=> ?_;subst q1;refine bR rv fun Z q1=> ?_;subst q1;exact P.le_int (h s.toks _ rfl)
 |gt=>refine i8 hr fun i j q0 q1 hr=> ?_;subst q0 q1;revert h;refine xF hr fun h=> ?_;refine bR ru fun Z q1=> ?_;subst q1;refine bR rv fun Z q1=> ?_;subst q1;exact P.gt_int (h s.toks _ rfl)
 |ge=>refine i8 hr fun i j q0 q1 hr=> ?_;subst q0 q1;revert h;refine xF hr fun h=> ?_;refine bR ru fun Z q1=> ?_;subst q1;refine bR rv fun Z q1=> ?_;subst q1;exact P.ge_int (h s.toks _ rfl)
end
end
section
section
variable{C:Cx}{β:Bt}{σ:H}{A:Around}{E:Value->Shared->Prop}{s:Shared}
theorem fz{n:Nat}(h:n<aJ):n<=sizeLine:=by
 exact(GR h rfl)
theorem bG.push(S:bG C s.heap β σ)(o:Obj):bG C (s.heap.push o) β σ:=
 S.keep (fun a o' e=>k8 o e) (by simp[Heap.push])
theorem aM.push(o:Obj):aM kQ β s β {s with heap:=s.heap.push o}:=
 .Nz (by simp[Heap.push]) fun b o' eb Z=>k8 o eb
theorem aL.push{x:V}{v:Value}(r:aL C s.heap β x v)(o:Obj):aL C (s.heap.push o) β x v:=
 aL.keep (fun a ao t=>t.push o) (fun Z Z e=>e) x v r
theorem aB.push{x:List V}{v:List Value}(r:aB C s.heap β x v)(o:Obj):aB C (s.heap.push o) β x v:=
 aB.keep (fun a ao t=>t.push o) (fun Z Z e=>e) x v r
noncomputable def vD:Ar->Operator
 | .add=>.Add| .sub=>.Sub| .mod=>.Mod
noncomputable abbrev Out(C:Cx)(β:Bt)(σ:H)(s:Shared)(z:V)(Q:Value->Shared->Prop):Prop:=
 ∀r s',aM kQ β s β s'->bG C s'.heap β σ->aL C s'.heap β z r->Q r s'
theorem Out.iU(S:bG C s.heap β σ){z:V}{Q:Value->Shared->Prop}(h:Out C β σ s z Q){r:Value}(hr:aL C s.heap β z r)(n:Nat):Q r {s with toks:=n}:=
 h r _ (aM.iU n) S hr
theorem ze{h:Heap}{a:Addr}{ao:Array Value}(t:IsTup h a ao):∃n dd sl,h.get? a=some (⟨.type "tuple",dd,.seq ao n,sl⟩:Obj):=
 nJ t fun o ho hc n hd=>by
  cases o
  cases hc;cases hd
  exact⟨n,_,_,ho⟩
theorem aB.some{h:Heap}{xs:List V}{us:List Value}(r:aB C h β xs us)(hx:(!xs.isEmpty)=true):¬us.toArray.isEmpty=true:=by
 cases xs with
 |nil=>exact nomatch hx
 |cons=>exact lu r fun v0 t0 e Z=>e▸Bool.false_ne_true
theorem ahe(S:bG C s.heap β σ){op:Ar}{x y z:V}{u v:Value}(hr:NR op x y=some z)(ru:aL C s.heap β x u)(rv:aL C s.heap β y v){Q:Value->Shared->Prop}(h:Out C β σ s z Q):
  wpAny (model C.prog C.w) A (binaryOp (vD op) u v) Q E s:=by
 cases op with
 |sub=>refine i8 hr fun i j q0 q1 hr=> ?_;subst q0 q1;revert h;refine xF hr fun h=> ?_;refine bR ru fun Z q1=> ?_;subst q1;refine bR rv fun Z q1=> ?_;subst q1;exact P.sub_int (h.iU S ⟨_,rfl⟩ _)
 |mod=>
  refine i8 hr fun a b q0 q1 hr=> ?_
  subst q0 q1
  refine lK hr fun hb hr=> ?_
  revert h;refine xF hr fun h=> ?_;refine bR ru fun Z q1=> ?_;subst q1;refine bR rv fun Z q1=> ?_;subst q1
  refine mod_int' (by lia) (h.iU S ?_ _)
  rw[Int.fmod_eq_emod_of_nonneg a (by lia)]
  exact⟨_,rfl⟩
 |add=>cases x with
  |ak a=>cases y with
   |ak b=>
    refine lK hr fun hc hr=> ?_
    rw[dX,dX,lW]at hc
    refine aW ru fun c vs q2 t1 r1=>aW rv fun d ws q3 t2 r2=> ?_
    rw[q2,q3]
    refine tQ (ze t1) fun n dd sl g1=>tQ (ze t2) fun n2 dd2 sl2 g2=> ?_
    have hsz:vs.toArray.size+ws.toArray.size<=sizeLine:=by
     rw[mY,mY,r1.length,r2.length];exact fz hc.1.1
    refine concat_meets ⟨_,g1,rfl⟩ ⟨_,g2,rfl⟩ noFill_tuple_add seq_tuple_add PySem.F.slot_tuple_add PySem.F.entry_tuple_add (PySem.F.args_tuple_add_2 _ _)
     (tuple_addW2 c d vs.toArray ws.toArray n n2 dd dd2 sl sl2 (r1.some hc.1.2) (r2.some hc.2) hsz) ⟨g1,g2,?_⟩
    rw[show vs.toArray++ws.toArray=(vs++ws).toArray from by simp]
    have q:V.ak (a++b)=z:=ig hr
    exact h _ _ (aM.push _) (S.push _) (q▸(⟨_,vs++ws,rfl,IsTup.new _ _,(aB.append r1 r2).push _⟩:aL C _ β (.ak (a++b)) _))
   |_=>exact bJ hr
  |int i=>cases y with
   |int j=>revert h;refine xF hr fun h=> ?_;refine bR ru fun Z q1=> ?_;subst q1;refine bR rv fun Z q1=> ?_;subst q1;exact wpAny_add_int (h.iU S ⟨_,rfl⟩ _)
   |_=>exact bJ hr
  |_=>exact bJ hr
theorem Pk{xs:List V}{i:Int}{v:V}(hm:xs.length<aJ)(h:nth xs i=some v):(-(2^63)<=i/\i<2^63)/\∃j,seqIndex? i xs.length=some j/\xs[j]? =some v:=by
 unfold aJ at hm
 unfold nth at h
 unfold seqIndex?
 by_cases h0:0<=i
 ·rw[aI h0]at h
  have hl:=(kX.mp h).1
  refine⟨by lia,i.toNat,?_,h⟩
  have e2:i<(xs.length:Int):=by lia
  simp[Int.not_lt.mpr h0,h0,e2]
 ·rw[aG h0]at h
  refine lK h fun h1 h=> ?_
  have hl:=(kX.mp h).1
  refine⟨by lia,(i+xs.length).toNat,?_,h⟩
  have e2:0<=i+(xs.length:Int):=by lia
  have e3:i+(xs.length:Int)<(xs.length:Int):=by lia
  simp[Int.not_le.mp h0,e2,e3]
theorem K9{i:Int}{n:Nat}(h0:0<=i)(h:i<n)(hm:n<aJ):i<2^63:=by unfold aJ at hm;lia
theorem KZ(ok:cN C)(S:bG C s.heap β σ){x y z:V}{u v:Value}(hr:item σ x y=some z)(hu:A.units+66<cLine)(ru:aL C s.heap β x u)(rv:aL C s.heap β y v){Q:Value->Shared->Prop}
  (h:∀tk r,aL C s.heap β z r->Q r {s with toks:=tk}):
  wpAny (model C.prog C.w) A (getItem u v) Q E s/\∃T id,s.TypeIs u T/\typeLookup (.type T) "__getitem__"=pure (some (.builtin id)):=by
 refine Bd fun G kG=>Wt hr (fun xs i ex ey hz hr=> ?_) (fun xs i ex ey hz hr=> ?_) (fun r xs i ex ey e hz hr=> ?_) fun r k es ex e hk hk0 hr=> ?_
 all_goals rw[ex]at ru
 ·rw[ey]at rv
  refine aW ru fun c vs q2 t1 r1=>bR rv fun tk q1=>dw (Pk hz hr) fun hi u=>aD u fun j hj hx=>aD (r1.get hx) fun w hw rw=>kG ?_
  rw[q2,q1]
  exact⟨getItem_tuple t1 hi.1 hi.2 (j:=j) (by rw[mY,r1.length];exact hj) (by rw[List.getElem?_toArray];exact hw) (h s.toks w rw),_,_,t1.typeIs,slot_tuple_getitem.lookup⟩
 ·rw[ey]at rv
  refine bR ru fun t1 q1=>bR rv fun tk q3=>aD (ve.mp hr) fun c hc q2=>kG ?_
  rw[q1,q3]
  have hl:i<(xs.length:Int):=(Int.toNat_lt hz.1).mp (kX.mp hc).1
  have hch:Txt.charAt ⟨xs.toArray⟩ i=some c:=by
   unfold Txt.charAt
   have:seqIndex? i (Str.length ⟨xs.toArray⟩)=some i.toNat:=seqIndex_of hz.1 hl
   rw[this];exact List.getElem?_toArray.trans hc
  refine⟨SB.getItem ?_ (by rw[hch];rfl) (h _ _ (q2▸⟨s.toks,?_⟩)),_,_,typeIs_str _ _ _,F.slot_str_getitem.lookup⟩
  ·unfold fitsSsize
   have:=K9 hz.1 hl hz.2
   have:=hz.1
   simp;lia
  ·unfold Txt.item
   rw[hch];rfl
 ·rw[ey]at rv
  refine bR rv fun tk q1=>dm (S.get e ru) fun ad jA q2 Z vs n g rr=>aD (rr.get hr) fun w hw rw=>kG ?_
  rw[q1,q2]
  have il:s.heap.IsList ad.1 vs.toArray:=⟨_,g,rfl,_,rfl⟩
  have hl:=(Int.toNat_lt hz.1).mp (kX.mp hr).1
  exact⟨wpAny_getItem_list il hz.1 (K9 hz.1 hl hz.2) (by rw[List.getElem?_toArray];exact hw) (h s.toks w rw),_,_,il.typeIs,slot_list_getitem.lookup⟩
 ·refine fD (S.get e ru) fun ad jA q2 Z K Es g rr=>kG ?_
  rw[q2]
  exact⟨xz g rr K (hk▸hk0) hk rv hr (fR hu) fun tk w rw=>h tk w rw,_,_,b9 g,slot_dict_getitem.lookup⟩
theorem uD(S:bG C s.heap β σ){x:V}{b:Bool}{u:Value}(hr:k9 σ x=some b)(ru:aL C s.heap β x u){Q:Bool->Shared->Prop}(h:∀tk,Q b {s with toks:=tk}):wpAny (model C.prog C.w) A (truthy u) Q E s:=by
 refine Bd fun G kG=>PN hr (fun ex=> ?_) fun i xs ex e hz eb=> ?_
 all_goals rw[ex]at ru
 ·exact kG ((show u=.bool b from ru)▸wpAny_truthy_bool (h s.toks))
 ·refine dm (S.get e ru) fun ad jA q2 Z vs n g rr=>kG (q2▸wpAny_truthy_list ⟨_,g,rfl,_,rfl⟩ (items:=vs.toArray) ?_ ?_)
  ·rw[mY,rr.length];unfold aJ at hz;lia
  ·have e:(!vs.toArray.isEmpty)= !xs.isEmpty:=by
    cases xs with
    |nil=>cases rr;rfl
    |cons=>exact lu rr fun v0 t0 e Z=>e▸rfl
   rw[e,eb];exact h _
end
end
section
structure bz(C:Cx)where
 ok:Nat->Bool
 inj:∀x y,ok x=true->ok y=true->C.nm x=C.nm y->x=y
 TS:∀x,ok x=true->(C.nm x==("__debug__":Str))=false
 SA:∀x,ok x=true->(C.nm x==("__classdict__":Str))=false
structure aF(C:Cx)(N:bz C)(s:Shared)(β:Bt)(ai:Env)(ρ:aO):Prop where
 kind:ai.scope.kind=.function
 aC:ai.globals=mainGlobals
 blt:ai.builtins=builtinsNs
 names:∀x v,ay x ρ=some v->N.ok x=true
 ah:∃m,s.heap.Ns ai.locals m/\¬Fp β ai.locals/\C.eG.objs.size<=ai.locals/\∀x v,ay x ρ=some v->∃u,aL C s.heap β v u/\
  ((ai.kindOf (C.nm x)=some .local/\m (C.nm x)=some u)\/((ai.kindOf (C.nm x)=some .cell\/ai.kindOf (C.nm x)=some .free)/\∃c,ai.cells.lookup (C.nm x)=some c/\s.heap.IsCell c (some u)))
 cells:∀x c,(x,c)∈ai.cells->¬Fp β c/\c≠ai.locals/\C.eG.objs.size<=c/\∃v,s.heap.IsCell c v
 apart:ai.cells.Pairwise fun x y=>x.2≠y.2
noncomputable def bH(C:Cx)(β:Bt)(s:Shared)(v:V)(aK:H)(r:Value)(s':Shared):Prop:=∃bP,aM kQ β s bP s'/\bG C s'.heap bP aK/\aL C s'.heap bP v r
noncomputable def pM(C:Cx)(β:Bt)(s:Shared)(vs:List V)(aK:H)(rs:List Value)(s':Shared):Prop:=∃bP,aM kQ β s bP s'/\bG C s'.heap bP aK/\aB C s'.heap bP vs rs
noncomputable def jF(C:Cx)(β:Bt)(s:Shared)(b:Bool)(aK:H)(r:Bool)(s':Shared):Prop:=r=b/\∃bP,aM kQ β s bP s'/\bG C s'.heap bP aK
noncomputable def gO(d:Nat)(EU:Bool)(A:Around):Prop:=A.handled=none/\A.depth+10*d+(if EU then 4 else 8)<recursionLimit/\A.units+200*d+(if EU then 300 else 400)<cLine
theorem gO.units{d:Nat}{b:Bool}{A:Around}(h:gO d b A):A.units+66<cLine:=by
 have:=h.2.2;cases b<;>simp at this<;>exact(ON this rfl)
theorem gO.EU{d:Nat}{b:Bool}{A:Around}(h:gO d b A):gO d true A:=by
 refine⟨h.1,?_,?_⟩
 ·have:=h.2.1;cases b<;>simp at*<;>lia
 ·have:=h.2.2;cases b<;>simp at*<;>lia
section
variable{C:Cx}{N:bz C}{β bL:Bt}{σ σ1 aK:H}{A:Around}{E:Value->Shared->Prop}{s s1:Shared}{ai:Env}{ρ:aO}
theorem aM.oO(st:aM kQ β s bL s1){a:Addr}{o:Obj}(e:s.heap.get? a=some o)(hn:¬Fp β a):s1.heap.get? a=some o:=
 st.qL a o e fun q=>q.elim hn id
theorem aM.JD(st:aM kQ β s bL s1){a:Addr}(hl:a<s.heap.objs.size)(hn:¬Fp β a):¬Fp bL a:=fun q=>hn ((st.fp hl).mp q)
theorem aF.step(F:aF C N s β ai ρ)(S:bG C s.heap β σ)(st:aM kQ β s bL s1):aF C N s1 bL ai ρ:=by
 refine eH F.ah fun m u1 hf hb hv=> ?_;refine sN u1 fun o es n hn r=> ?_
 have hl:=jr hn
 refine⟨F.kind,F.aC,F.blt,F.names,⟨m,⟨o,es,n,st.oO hn hf,r⟩,st.JD hl hf,hb,fun x v e=> ?_⟩,fun x c hm=> ?_,F.apart⟩
 ·refine aD (hv x v e) fun u ru q=> ?_
  refine⟨u,st.ux S ru,q.imp id fun⟨k,c,hc,o,ho,hd⟩=>⟨k,c,hc,o,?_,hd⟩⟩
  exact st.oO ho (F.cells _ _ (qk hc)).1
 ·refine CT (F.cells x c hm) fun h1 h2 h3 v o ho hd=> ?_
  exact⟨st.JD (jr ho) h1,h2,h3,v,o,st.oO ho h1,hd⟩
theorem bH.cont{v:V}{m:Sem Value}{Q:Value->Shared->Prop}(h:wpAny (model C.prog C.w) A m (bH C β s v σ1) E s)
  (k:∀r s1 bL,aM kQ β s bL s1->bG C s1.heap bL σ1->aL C s1.heap bL v r->Q r s1):wpAny (model C.prog C.w) A m Q E s:=
 dN h (fun r s1 ⟨bL,a,b,c⟩=>k r s1 bL a b c) fun Z Z x=>x
theorem pM.cont{v:List V}{m:Sem (List Value)}{Q:List Value->Shared->Prop}(h:wpAny (model C.prog C.w) A m (pM C β s v σ1) E s)
  (k:∀r s1 bL,aM kQ β s bL s1->bG C s1.heap bL σ1->aB C s1.heap bL v r->Q r s1):wpAny (model C.prog C.w) A m Q E s:=
 dN h (fun r s1 ⟨bL,a,b,c⟩=>k r s1 bL a b c) fun Z Z x=>x
theorem jF.cont{v:Bool}{m:Sem Bool}{Q:Bool->Shared->Prop}(h:wpAny (model C.prog C.w) A m (jF C β s v σ1) E s)
  (k:∀s1 bL,aM kQ β s bL s1->bG C s1.heap bL σ1->Q v s1):wpAny (model C.prog C.w) A m Q E s:=
 dN h (fun r s1 ⟨e,bL,a,b⟩=>e▸k s1 bL a b) fun Z Z x=>x
theorem bH.here{v:V}{r:Value}(S:bG C s.heap β σ)(h:aL C s.heap β v r):bH C β s v σ r s:=⟨β,aM.rfl',S,h⟩
theorem bH.iU{v:V}{r:Value}{n:Nat}(S:bG C s.heap β σ)(h:aL C s.heap β v r):bH C β s v σ r {s with toks:=n}:=⟨β,aM.iU n,S,h⟩
theorem bH.after{v:V}{r:Value}{s2:Shared}(a:aM kQ β s bL s1)(h:bH C bL s1 v aK r s2):bH C β s v aK r s2:=let⟨bP,x,y,z⟩:=h;⟨bP,a.trans x,y,z⟩
theorem pM.after{v:List V}{r:List Value}{s2:Shared}(a:aM kQ β s bL s1)(h:pM C bL s1 v aK r s2):pM C β s v aK r s2:=let⟨bP,x,y,z⟩:=h;⟨bP,a.trans x,y,z⟩
theorem jF.after{v:Bool}{r:Bool}{s2:Shared}(a:aM kQ β s bL s1)(h:jF C bL s1 v aK r s2):jF C β s v aK r s2:=let⟨e,bP,x,y⟩:=h;⟨e,bP,a.trans x,y⟩
end
noncomputable def SE(C:Cx)(N:bz C)(P:b5)(c:Calls)(d:Nat)(b:Bool)(ai:Env)(x:Ex)(e:Expr):Prop:=
 ∀(ρ:aO) (σ:H) (v:V) (aK:H),gK P c x ρ σ=some (v,aK)->∀(A:Around) (E:Value->Shared->Prop) (s:Shared) (β:Bt),gO d b A->bG C s.heap β σ->aF C N s β ai ρ->
  wpAny (model C.prog C.w) A (eval e ai) (bH C β s v aK) E s
noncomputable def SL(C:Cx)(N:bz C)(P:b5)(c:Calls)(d:Nat)(b:Bool)(ai:Env)(xs:List Ex)(es:List Expr):Prop:=
 ∀(ρ:aO) (σ:H) (vs:List V) (aK:H),zE P c xs ρ σ=some (vs,aK)->∀(A:Around) (E:Value->Shared->Prop) (s:Shared) (β:Bt) (pos:Pos),gO d b A->bG C s.heap β σ->aF C N s β ai ρ->
  wpAny (model C.prog C.w) A (spliced (backTo pos (starEach es ai))) (pM C β s vs aK) E s
noncomputable def SC(C:Cx)(N:bz C)(P:b5)(c:Calls)(d:Nat)(b:Bool)(ai:Env)(x:Cd)(e:Expr):Prop:=
 ∀(ρ:aO) (σ:H) (v:Bool) (aK:H),TR P c x ρ σ=some (v,aK)->∀(A:Around) (E:Value->Shared->Prop) (s:Shared) (β:Bt),gO d b A->bG C s.heap β σ->aF C N s β ai ρ->
  wpAny (model C.prog C.w) A (isTrue e ai (eval e ai)) (jF C β s v aK) E s
noncomputable def ST(C:Cx)(N:bz C)(P:b5)(c:Calls)(d:Nat)(b:Bool)(ai:Env)(all:Bool)(xs:List Cd)(es:List Expr):Prop:=
 ∀(ρ:aO) (σ:H) (v:Bool) (aK:H),Nm P c all xs ρ σ=some (v,aK)->∀(A:Around) (E:Value->Shared->Prop) (s:Shared) (β:Bt),gO d b A->bG C s.heap β σ->aF C N s β ai ρ->
  wpAny (model C.prog C.w) A (allTrue (if all then .And else .Or) es ai) (jF C β s v aK) E s
noncomputable def SB(C:Cx)(N:bz C)(P:b5)(c:Calls)(d:Nat)(b:Bool)(ai:Env)(all:Bool)(xs:List Ex)(es:List Expr):Prop:=
 ∀(ρ:aO) (σ:H) (v:V) (aK:H),evB P c all xs ρ σ=some (v,aK)->∀(A:Around) (E:Value->Shared->Prop) (s:Shared) (β:Bt) (pos:Pos),gO d b A->bG C s.heap β σ->aF C N s β ai ρ->
  wpAny (model C.prog C.w) A (boolOp pos (if all then .And else .Or) (evalEach es ai)) (bH C β s v aK) E s
section
variable{C:Cx}{N:bz C}{P:b5}{c:Calls}{d:Nat}{b:Bool}{ai:Env}
theorem Q0{k pos}:SE C N P c d b ai (.cst .none) (.Constant .none k pos):=fun ρ σ v aK h A E s β R S F=>by
 refine kT h ?_
 exact wpAny_Constant_none (.here S rfl)
theorem Q9{x k pos}:SE C N P c d b ai (.cst (.bool x)) (.Constant (.bool x) k pos):=fun ρ σ v aK h A E s β R S F=>by
 refine kT h ?_
 exact wpAny_Constant_bool (.here S rfl)
theorem Yn{x:Int}{k pos}:SE C N P c d b ai (.cst (.int x)) (.Constant (.int x) k pos):=fun ρ σ v aK h A E s β R S F=>by
 refine kT h ?_
 exact wpAny_Constant_int (.iU S ⟨_,rfl⟩)
theorem Yg{x:List Nat}{y:Str}{k pos}(hy:y=⟨x.toArray⟩):SE C N P c d b ai (.cst (.str x)) (.Constant (.str y) k pos):=fun ρ σ v aK h A E s β R S F=>by
 refine kT h ?_
 subst hy
 exact wpAny_Constant_str (.iU S ⟨_,rfl⟩)
theorem Yk{x:Nat}{n:Str}{pos}(hn:n=C.nm x):SE C N P c d b ai (.ah x) (.Name n pos):=fun ρ σ v aK h A E s β R S F=>by
 subst hn
 refine sj h fun v' e h=> ?_
 refine kT h ?_
 refine eH F.ah fun m ns hf hb hv=> ?_
 refine aD (hv x _ e) fun u ru q=> ?_
 have ok:=F.names x _ e
 refine wpAny_Name ?_ (N.TS x ok)
 rcases q with⟨k,e⟩|⟨k|k,c,hc,ic⟩
 ·exact wpAny_loadName_local F.kind k ns e (.here S ru)
 ·exact wpAny_loadName_cell F.kind k hc ic (.here S ru)
 ·exact wpAny_loadName_free F.kind k hc ic (.here S ru) (N.SA x ok)
theorem Yr{op:Op}{o:CmpOp}{x y:Ex}{e f:Expr}{pos}(ok:cN C)(ho:o=BH op)(hx:SE C N P c d b ai x e)(hy:SE C N P c d b ai y f)(hm:behindInMarks o f=false):
  SE C N P c d b ai (.bF op x y) (.Compare e [o] [f] pos):=fun ρ σ v aK h A E s β R S F=>by
 subst ho
 refine bB h fun a σ1 e1 h=> ?_
 refine bB h fun b' aX e2 h=> ?_
 refine sj h fun v' e3 h=> ?_
 refine kT h ?_
 refine wpAny_Compare1 (bH.cont (hx ρ σ a σ1 e1 A E s β R S F) fun r1 s1 bL bw S1 mR=> ?_) hm
 have F1:=F.step S bw
 refine bH.cont (hy ρ σ1 b' aX e2 A E s1 bL R S1 F1) fun r2 s2 iD bS S2 Ip=> ?_
 exact ZO ok S2 e3 R.units (bS.ux S1 mR) Ip fun tk r rr=>.after (bw.trans bS) (.iU S2 rr)
theorem aeL{op:Ar}{o:Operator}{x y:Ex}{e f:Expr}{pos}(ho:o=vD op)(hx:SE C N P c d b ai x e)(hy:SE C N P c d b ai y f):
  SE C N P c d b ai (.ar op x y) (.BinOp e o f pos):=fun ρ σ v aK h A E s β R S F=>by
 subst ho
 refine bB h fun a σ1 e1 h=> ?_
 refine bB h fun b' aX e2 h=> ?_
 refine sj h fun v' e3 h=> ?_
 refine kT h ?_
 refine wpAny_BinOp (bH.cont (hx ρ σ a σ1 e1 A E s β R S F) fun r1 s1 bL bw S1 mR=> ?_)
 refine bH.cont (hy ρ σ1 b' aX e2 A E s1 bL R S1 (F.step S bw)) fun r2 s2 iD bS S2 Ip=> ?_
 exact ahe S2 e3 (bS.ux S1 mR) Ip fun r s3 eV S3 r3=>⟨iD,(bw.trans bS).trans eV,S3,r3⟩
theorem Ym{t:Cd}{x y:Ex}{et ex ey:Expr}{pos}(ht:SC C N P c d b ai t et)(hx:SE C N P c d b ai x ex)(hy:SE C N P c d b ai y ey):
  SE C N P c d b ai (.ite t x y) (.IfExp et ex ey pos):=fun ρ σ v aK h A E s β R S F=>by
 refine yx h fun tb σ1 e1 h=> ?_
 refine wpAny_IfExp (jF.cont (ht ρ σ tb σ1 e1 A E s β R S F) fun s1 bL bw S1=> ?_)
 have F1:=F.step S bw
 cases tb with
 |true=>exact bH.cont (hx ρ σ1 v aK h A E s1 bL R S1 F1) fun r s2 iD bS S2 r2=>⟨iD,bw.trans bS,S2,r2⟩
 |false=>exact bH.cont (hy ρ σ1 v aK h A E s1 bL R S1 F1) fun r s2 iD bS S2 r2=>⟨iD,bw.trans bS,S2,r2⟩
theorem Yu{t:Cd}{e:Expr}{pos}(h:SC C N P c d b ai t e):SC C N P c d b ai (.not t) (.UnaryOp .Not e pos):=fun ρ σ v aK hv A E s β R S F=>by
 refine yx hv fun b' σ1 e1 hv=> ?_
 refine kT hv ?_
 exact wpAny_isTrue_Not (jF.cont (h ρ σ b' σ1 e1 A E s β R S F) fun s1 bL bw S1=>⟨rfl,bL,bw,S1⟩)
theorem Yw{all:Bool}{op:BoolOp}{ts:List Cd}{es:List Expr}{pos}(ho:op=if all then .And else .Or)(h:ST C N P c d b ai all ts es):SC C N P c d b ai (.eW all ts) (.BoolOp op es pos):=fun ρ σ v aK hv A E s β R S F=>by
 subst ho
 exact wpAny_isTrue_BoolOp (h ρ σ v aK hv A E s β R S F)
theorem X6{all:Bool}:ST C N P c d b ai all [] []:=fun ρ σ v aK hv A E s β R S F=>by
 refine kT hv ?_
 cases all with
 |true=>exact wpAny_allTrue_And_nil ⟨rfl,β,.rfl',S⟩
 |false=>exact wpAny_allTrue_Or_nil ⟨rfl,β,.rfl',S⟩
theorem QL{all:Bool}{t:Cd}{ts:List Cd}{e:Expr}{es:List Expr}(h:SC C N P c d b ai t e)(hs:ST C N P c d b ai all ts es):ST C N P c d b ai all (t::ts) (e::es):=fun ρ σ v aK hv A E s β R S F=>by
 refine yx hv fun b' σ1 e1 hv=> ?_
 have hh:=h ρ σ b' σ1 e1 A E s β R S F
 cases all with
 |true=>
  refine wpAny_allTrue_And_cons (jF.cont hh fun s1 bL bw S1=> ?_)
  cases b' with
  |true=>
   exact jF.cont (hs ρ σ1 v aK hv A E s1 bL R S1 (F.step S bw)) fun s2 iD bS S2=>⟨rfl,iD,bw.trans bS,S2⟩
  |false=>
   simp only[Bw,if_false,ne_eq,not_false_eq_true,show(false==true)=false from rfl,Option.some.injEq,Prod.mk.injEq]at hv⊢
   refine dw hv fun q0 q1=> ?_;subst q0;subst q1
   exact⟨rfl,bL,bw,S1⟩
 |false=>
  refine wpAny_allTrue_Or_cons (jF.cont hh fun s1 bL bw S1=> ?_)
  cases b' with
  |false=>
   exact jF.cont (hs ρ σ1 v aK hv A E s1 bL R S1 (F.step S bw)) fun s2 iD bS S2=>⟨rfl,iD,bw.trans bS,S2⟩
  |true=>
   simp only[Bw,if_false,if_true,show(true==false)=false from rfl,Option.some.injEq,Prod.mk.injEq]at hv⊢
   refine dw hv fun q0 q1=> ?_;subst q0;subst q1
   exact⟨rfl,bL,bw,S1⟩
theorem aeM{x:Ex}{e:Expr}(h:SE C N P c d b ai x e)(he:∀vm,isTrue e ai vm=(do let v <-vm;standAt e.pos;holding [v] (truthy v))):SC C N P c d b ai (.ex x) e:=fun ρ σ v aK hv A E s β R S F=>by
 refine bB hv fun a σ1 e1 hv=> ?_
 refine OB hv fun t e2 hv=> ?_
 refine kT hv ?_
 refine wpAny_isTrue_value (bH.cont (h ρ σ a σ1 e1 A E s β R S F) fun r1 s1 bL bw S1 mR=> ?_) (he _)
 exact uD S1 e2 mR fun tk=>⟨rfl,bL,bw.trans (.iU tk),S1⟩
theorem Yv{op:Op}{o:CmpOp}{x y:Ex}{e f:Expr}{pos}(ok:cN C)(ho:o=BH op)(hx:SE C N P c d b ai x e)(hy:SE C N P c d b ai y f)(hm:behindInMarks o f=false):
  SC C N P c d b ai (.ex (.bF op x y)) (.Compare e [o] [f] pos):=fun ρ σ v aK hv A E s β R S F=>by
 subst ho
 refine bB hv fun a0 σ0 hh hv=> ?_
 refine OB hv fun t e4 hv=> ?_
 refine kT hv ?_
 refine bB hh fun a σ1 e1 hh=> ?_
 refine bB hh fun b' aX e2 hh=> ?_
 refine sj hh fun v' e3 hh=> ?_
 revert e4;refine kT hh fun e4=> ?_
 refine wpAny_isTrue_Compare1 (bH.cont (hx ρ σ a σ1 e1 A E s β R S F) fun r1 s1 bL bw S1 mR=> ?_) hm
 refine bH.cont (hy ρ σ1 b' aX e2 A E s1 bL R S1 (F.step S bw)) fun r2 s2 iD bS S2 Ip=> ?_
 refine ZO ok S2 e3 R.units (bS.ux S1 mR) Ip fun tk r rr=> ?_
 exact uD (s:={s2 with toks:=tk}) S2 e4 rr fun YB=>⟨rfl,iD,((bw.trans bS).trans (.iU tk)).trans (.iU YB),S2⟩
theorem uE{e:Expr}{r:List Expr}{ai:Env}(he:isStarred e=false):starEach (e::r) ai=(false,eval e ai)::starEach r ai:=by cases e<;>first|rfl|cases he
theorem sR:SL C N P c d b ai [] []:=fun ρ σ vs aK h A E s β pos R S F=>by
 refine kT h ?_
 exact wpAny_items_nil ⟨β,.rfl',S,rfl⟩
theorem mh{x:Ex}{xs:List Ex}{e:Expr}{es:List Expr}(hx:SE C N P c d b ai x e)(hs:SL C N P c d b ai xs es)(he:isStarred e=false):SL C N P c d b ai (x::xs) (e::es):=fun ρ σ vs aK h A E s β pos R S F=>by
 refine bB h fun a σ1 e1 h=> ?_
 refine lq h fun as aX e2 h=> ?_
 refine kT h ?_
 refine wpAny_items_cons (bH.cont (hx ρ σ a σ1 e1 A E s β R S F) fun r1 s1 bL bw S1 mR=> ?_) (uE he)
 exact pM.cont (hs ρ σ1 as aX e2 A E s1 bL pos R S1 (F.step S bw)) fun r2 s2 iD bS S2 Ip=>⟨iD,bw.trans bS,S2,_,_,rfl,bS.ux S1 mR,Ip⟩
theorem AH{P:b5}{c:Calls}{ρ:aO}:∀{xs:List Ex} {σ:H} {vs:List V} {aK:H},zE P c xs ρ σ=some (vs,aK)->vs.length=xs.length
 |[],σ,vs,aK,h=>Bc h▸rfl
 |x::xs,σ,vs,aK,h=>by
  refine bB h fun Z Z Z h=>lq h fun Z Z e2 h=> ?_
  exact Bc h▸congrArg Nat.succ (AH e2)
theorem Ye{xs:List Ex}{es:List Expr}{k pos}(hs:SL C N P c d b ai xs es)(hz:xs.length<aJ):SE C N P c d b ai (.ak xs) (.Tuple es k pos):=fun ρ σ v aK h A E s β R S F=>by
 refine lq h fun as σ1 e1 h=> ?_
 refine kT h ?_
 refine wpAny_Tuple (pM.cont (hs ρ σ as σ1 e1 A E s β pos R S F) fun rs s1 bL bw S1 rr=> ?_)
 refine⟨fz (by rw[rr.length,AH e1];exact hz),bL,bw.trans (aM.push _),S1.push _,_,rs,rfl,IsTup.new _ _,rr.push _⟩
theorem Q3{xs:List Ex}{es:List Expr}{pos}(hs:SL C N P c d b ai xs es)(hz:xs.length<aJ):SE C N P c d b ai (.list xs) (.List es pos):=fun ρ σ v aK h A E s β R S F=>by
 refine lq h fun as σ1 e1 h=> ?_
 refine kT h ?_
 refine wpAny_List (pM.cont (hs ρ σ as σ1 e1 A E s β pos R S F) fun rs s1 bL bw S1 rr=> ?_)
 refine⟨fz (by rw[rr.length,AH e1];exact hz),?_⟩
 have hk:∀a o,s1.heap.get? a=some o->(s1.heap.push {cls:=.type "list",data:=.seq rs.toArray}).get? a=some o:=fun a o e=>k8 _ e
 have hz':s1.heap.objs.size<=(s1.heap.push {cls:=.type "list",data:=.seq rs.toArray}).objs.size:=by simp[Heap.push]
 refine⟨bL++[(s1.heap.objs.size,s1.heap.objs.size)],bw.trans (aM.more (tk:=s1.toks) hk hz' (bX _) (bX _)),?_,?_⟩
 ·refine S1.add hk hz' (bX _) (bX _) ⟨rfl,rs,0,sH _ rfl,?_⟩
  exact aB.keep (fun a ao t=>t.push _) (fun i bd e=>by rw[mZ (kX.mp e).1,e]) _ _ rr
 ·exact⟨_,show(bL++[(s1.heap.objs.size,s1.heap.objs.size)])[σ1.length]? =some (s1.heap.objs.size,s1.heap.objs.size) by rw[<-S1.len];simp,rfl⟩
end
end
section
section
variable{C:Cx}{N:bz C}{P:b5}{c:Calls}{d:Nat}{b:Bool}{ai:Env}{β:Bt}{σ:H}{s:Shared}
theorem Yj{x:Nat}{k p pos}:SE C N P c d b ai (.cst (.int (-(x:Int)))) (.UnaryOp .USub (.Constant (.int (x:Int)) k p) pos):=fun ρ σ v aK h A E s β R S F=>by
 refine kT h ?_
 exact wpAny_UnaryOp (wpAny_Constant_int (PySem.P.neg_int ⟨β,(aM.iU _).trans (aM.iU _),S,_,rfl⟩))
theorem Yx{all:Bool}{x:Ex}{e:Expr}(h:SE C N P c d b ai x e):SB C N P c d b ai all [x] [e]:=fun ρ σ v aK hv A E s β pos R S F=>by
 refine bB hv fun a σ1 e1 hv=> ?_
 simp only[List.isEmpty_nil,if_true,Option.some.injEq,Prod.mk.injEq]at hv;refine dw hv fun q0 q1=> ?_;subst q0;subst q1
 exact h ρ σ a σ1 e1 A E s β R S F
theorem Rb{all:Bool}{x y:Ex}{ys:List Ex}{e f:Expr}{fs:List Expr}(h:SE C N P c d b ai x e)(hs:SB C N P c d b ai all (y::ys) (f::fs)):SB C N P c d b ai all (x::y::ys) (e::f::fs):=fun ρ σ v aK hv A E s β pos R S F=>by
 refine bB hv fun a σ1 e1 hv=> ?_
 refine OB hv fun t e2 hv=> ?_
 refine bK (bH.cont (h ρ σ a σ1 e1 A E s β R S F) fun r1 s1 bL bw S1 mR=>bK (sF (bK (j0 (uD S1 e2 mR fun tk=> ?_)))))
 have go:wpAny (model C.prog C.w) A (boolOp pos (if all then BoolOp.And else BoolOp.Or) (evalEach (f::fs) ai)) (bH C β s v aK) E {s1 with toks:=tk}\/True:=.inr trivial
 by_cases hc:(t==all)=true
 ·rw[aI hc]at hv
  have:=hs ρ σ1 v aK hv A E {s1 with toks:=tk} bL pos R S1 ((F.step S bw).step S1 (.iU tk))
  have:=dN this (fun r s2 q=>bH.after (bw.trans (.iU tk)) q) fun Z Z x=>x
  cases all<;>cases t<;>first|exact this|exact absurd hc (by decide)
 ·rw[aG hc]at hv
  refine kT hv ?_
  have:=bH.after bw (bH.iU (n:=tk) S1 mR)
  cases all<;>cases t<;>first|exact absurd rfl hc|exact cW this
theorem Ys{all:Bool}{op:BoolOp}{xs:List Ex}{es:List Expr}{pos}(ho:op=if all then .And else .Or)(h:SB C N P c d b ai all xs es):SE C N P c d b ai (.eW all xs) (.BoolOp op es pos):=fun ρ σ v aK hv A E s β R S F=>by
 subst ho
 exact h ρ σ v aK hv A E s β pos R S F
theorem Yo{x y:Ex}{e f:Expr}{pos}(ok:cN C)(hx:SE C N P c d b ai x e)(hy:SE C N P c d b ai y f)(hs:∀o i,subscripted f false o i=operate [o,i] (getItem o i)):
  SE C N P c d b ai (.bO x y) (.Subscript e f pos):=fun ρ σ v aK h A E s β R S F=>by
 refine bB h fun a σ1 e1 h=> ?_
 refine bB h fun b' aX e2 h=> ?_
 refine sj h fun v' e3 h=> ?_
 refine kT h ?_
 refine Subscript_ (bH.cont (hx ρ σ a σ1 e1 A E s β R S F) fun r1 s1 bL bw S1 mR=> ?_)
 refine bH.cont (hy ρ σ1 b' aX e2 A E s1 bL R S1 (F.step S bw)) fun r2 s2 iD bS S2 Ip=> ?_
 refine vQ (KZ (E:=E) (Q:=bH C β s v' aX) ok S2 e3 R.units (bS.ux S1 mR) Ip fun tk r rr=>.after (bw.trans bS) (.iU S2 rr)) fun hi T id hT hl=> ?_
 exact tail_any hT hl hi (hs _ _)
theorem AV(n:Nat)(h:1<=n):Builtin.Slice.sliceAdjust none (some (-1)) 1 (n:Int)=(0,((n - 1:Nat):Int)):=by
 unfold Builtin.Slice.sliceAdjust
 have h1:¬((1:Int)<0):=by lia
 have h2:((-1:Int)<0):=by lia
 simp only[h2,if_false,if_true]
 congr 1
 lia
theorem AN(n:Nat)(h:1<=n):Builtin.Slice.slicePlaces 0 ((n - 1:Nat):Int) 1=n - 1:=by
 unfold Builtin.Slice.slicePlaces
 have h1:(1:Int)>0:=(GU (gP rfl))
 simp only[h1,if_true,Int.ediv_one]
 split<;>lia
theorem qF{prog:Program}{w:World}{A:Around}{E:Value->Shared->Prop}{s:Shared}{sl:Addr}{n:Nat}{u:Tok}{Q:Int×Int×Nat->Shared->Prop}(hs:s.heap.IsSliceOf sl .none (.int (-1) u) .none)(hn:1<=n)(h:Q (0,1,n - 1) s):
  wpAny (model prog w) A (Builtin.Slice.sliceApplied (.ref sl) (pure (n:Int))) Q E s:=by
 refine dF (id hs) fun os Nf hcs hds=> ?_
 refine bK (bK (wpAny_field Nf hds (x:=.none) rfl (bK (wpAny_field Nf hds (x:=.int (-1) u) rfl (bK (wpAny_field Nf hds (x:=.none) rfl (cW ?_)))))))
 refine bK (slicePart_none ?_)
 refine bK (slicePart_none (bK (slicePart_int (bK (cW ?_)))))
 show wpAny _ _ (match Builtin.Slice.sliceAdjust none (some (-1)) 1 (n:Int)with|(lo,hi)=>pure (lo,(1:Int),Builtin.Slice.slicePlaces lo hi 1)) _ _ s
 rw[AV n hn]
 show wpAny _ _ (pure ((0:Int),(1:Int),Builtin.Slice.slicePlaces 0 ((n - 1:Nat):Int) 1)) _ _ s
 rw[AN n hn]
 exact cW h
theorem Eh(xs:Array Value):((List.range (xs.size - 1)).filterMap fun(k:Nat)=>xs[((0:Int)+(k:Int)*1).toNat]?).toArray=xs.toList.dropLast.toArray:=by
 have e:(fun(k:Nat)=>xs[((0:Int)+(k:Int)*1).toNat]?)=fun k=>xs[k]? :=by
  funext k
  have:((0:Int)+(k:Int)*1).toNat=k:=by lia
  rw[this]
 rw[e]
 congr 1
 apply List.ext_getElem?
 intro i
 have key:∀n,n<=xs.size->(List.range n).filterMap (fun k=>xs[k]?)=xs.toList.take n:=by
  intro n
  induction n with
  |zero=>intro _;simp
  |succ n ih=>
   intro hn
   rw[List.range_succ,List.filterMap_append,ih (dU (iY) hn),List.take_add_one]
   have:n<xs.size:=by lia
   simp[this]
 rw[key _ (by lia),List.dropLast_eq_take,Array.length_toList]
theorem yi{prog:Program}{w:World}{A:Around}{E:Value->Shared->Prop}{s:Shared}{t sl:Addr}{ao:Array Value}{u:Tok}{Q:Value->Shared->Prop}(ht:IsTup s.heap t ao)(hs:s.heap.IsSliceOf sl .none (.int (-1) u) .none)(h1:1<=ao.size)
  (h:Q (.ref s.heap.objs.size) {s with heap:=s.heap.push {cls:=.type "tuple",data:=.seq ao.toList.dropLast.toArray}})
  (hsz:ao.size<=sizeLine):wpAny (model prog w) A (getItem (.ref t) (.ref sl)) Q E s:=by
 have EW:sizeOk (.seq ao.toList.dropLast.toArray):=by
  show ao.toList.dropLast.toArray.size<=sizeLine
  rw[mY,List.length_dropLast,Array.length_toList]
  lia
 refine dF (id hs) fun os Nf hcs hds=> ?_
 have hTs:s.TypeIs (.ref sl) "slice":=⟨os,Nf,hcs⟩
 unfold getItem
 try with_reducible refine j0 ?_
 first|refine bK (cW ?_)|skip
 refine bK (wpAny_sequenceKey ht.typeIs (rfl) ?_)
 refine bK (wpAny_callSpecial?_slot (name:=Str.ofString "__getitem__") ht.typeIs slot_tuple_getitem
  (yc slot_tuple_getitem ht.typeIs entry_tuple_getitem ?_ (args_tuple_getitem _ _)))
 show wpAny _ _ (Builtin.Tuple.tupleItemsOf (.ref t)>>=_) _ _ s
 refine bK (tupleItemsOf_ ht ?_)
 refine bK (wpAny_typeOf hTs ?_)
 refine bK (qF hs h1 ?_)
 have hno:¬(((0:Int)==0&&(1:Int)==1&&(ao.size - 1)==ao.size)=true):=by
  have:((ao.size - 1)==ao.size)=false:=by rw[beq_eq_false_iff_ne];lia
  rw[this];simp
 show wpAny _ _ (if((0:Int)==0&&(1:Int)==1&&(ao.size - 1)==ao.size)=true then _ else _) _ _ s
 rw[aG hno,Eh ao]
 first
  |exact bK (m:=Builtin.Tuple.tupleExact _) (wpAny_newObj_type (cW ⟨_,rfl,cW h⟩) EW)
  |exact bK (m:=Builtin.Tuple.tupleExact _) (wpAny_newObj_type (bK (cW (cW ⟨_,rfl,cW h⟩))) EW)
  |exact bK (bK (m:=Builtin.Tuple.tupleExact _) (wpAny_newObj_type (cW (cW ⟨_,rfl,cW h⟩)) EW))
  |exact bK (bK (m:=Builtin.Tuple.tupleExact _) (wpAny_newObj_type (cW ⟨_,rfl,cW h⟩) EW))
theorem aB.jm{h:Heap}{β:Bt}:∀{xs:List V} {vs:List Value},aB C h β xs vs->aB C h β xs.dropLast vs.dropLast
 |[],_,r=>by cases r;rfl
 |[x],_,⟨v,t,e,a,q⟩=>by subst e;cases q;rfl
 |x::y::r,_,⟨v,t,e,a,q⟩=>by
  subst e
  have ih:=aB.jm q
  refine aW q fun v2 t2 e2 a2 q2=> ?_
  subst e2
  exact⟨v,_,rfl,a,ih⟩
theorem MZ{x:Ex}{e:Expr}{k p1 p2 p3 pos}(hx:SE C N P c d b ai x e):
  SE C N P c d b ai (.jm x) (.Subscript e (.Slice none (some (.UnaryOp .USub (.Constant (.int (1:Int)) k p1) p2)) none p3) pos):=fun ρ σ v aK h A E s β R S F=>by
 refine bB h fun a σ1 e1 h=> ?_
 cases a with
 |ak xs=>
  refine lK h fun hz h=> ?_
  refine kT h ?_
  refine Subscript_ (bH.cont (hx ρ σ _ σ1 e1 A E s β R S F) fun r1 s1 bL bw S1 mR=> ?_)
  refine aW mR fun t vs q2 ht rr=> ?_;subst q2
  rw[dX,lW]at hz
  refine wpAny_Slice ?_
  refine cW ?_
  refine wpAny_UnaryOp (wpAny_Constant_int (PySem.P.neg_int ?_))
  refine cW ?_
  have US:1<=vs.toArray.size:=by
   rw[mY,rr.length]
   cases xs with
   |nil=>simp at hz
   |cons=>simp
  have NG:=ht.push {cls:=.type "slice",data:=.fields #[.none,.int (-1) (s1.toks+1),.none]}
  refine tail_any (T:="tuple") (s:={s1 with heap:=s1.heap.push {cls:=.type "slice",data:=.fields #[.none,.int (-1) (s1.toks+1),.none]},toks:=s1.toks+1+1}) NG.typeIs slot_tuple_getitem.lookup
   (yi NG (Heap.IsSliceOf.new ..) US ?_ (by rw[mY,rr.length];exact fz hz.1)) rfl
  refine⟨bL,bw.trans (((aM.push _).trans (aM.iU _)).trans (aM.push _)),bG.keep (S1.push {cls:=.type "slice",data:=.fields #[.none,.int (-1) (s1.toks+1),.none]}) (fun a o e=>k8 _ e) (by simp only[j3];exact lT _),_,vs.dropLast,rfl,?_,?_⟩
  ·have:=IsTup.new (s1.heap.push {cls:=.type "slice",data:=.fields #[.none,.int (-1) (s1.toks+1),.none]}) vs.dropLast.toArray
   exact this
  ·have q:=((rr.jm).push {cls:=.type "slice",data:=.fields #[.none,.int (-1) (s1.toks+1),.none]})
   exact aB.keep (fun a ao t=>t.push _) (fun Z Z e=>e) _ _ q
 |_=>exact bJ h
structure Fb(C:Cx)(P:b5):Prop where
 at_:∃vs o n,C.eG.get? C.gu=some o/\o.cls=.type "list"/\o.data=.seq (List.toArray vs) n/\IntsAre vs P.z4
 jW:P.z4.length<aJ
theorem aB.intz{h:Heap}{β:Bt}:∀{vs:List Value} {l:List Int},IntsAre vs l->aB C h β (l.map V.int) vs
 |_,_,.nil=>rfl
 |_,_,.cons n t r=>⟨_,_,rfl,⟨t,rfl⟩,aB.intz r⟩
theorem CD:∀{vs:List Value} {l:List Int},IntsAre vs l->vs.length=l.length
 |_,_,.nil=>rfl
 |_,_,.cons n t r=>by simp[CD r]
theorem bH.list(S:bG C s.heap β σ){h':Heap}{tk:Nat}{a:Addr}{xs:List V}{vs:List Value}{n:Nat}(h1:∀a o,s.heap.get? a=some o->h'.get? a=some o)(h2:s.heap.objs.size<=h'.objs.size)(ha:s.heap.objs.size<=a)
  (g:h'.get? a=some (W.listOf vs.toArray n))(r:aB C s.heap β xs vs):bH C β s (.ref σ.length) (σ++[.list xs]) (.ref a) {s with heap:=h',toks:=tk}:=by
 refine⟨β++[(a,a)],aM.more (tk:=tk) h1 h2 ha ha,?_,_,show(β++[(a,a)])[σ.length]? =some (a,a) by rw[<-S.len];simp,rfl⟩
 refine S.add h1 h2 ha ha ⟨rfl,vs,n,g,?_⟩
 exact aB.keep (rG h1) (fun i bd e=>by rw[mZ (kX.mp e).1,e]) _ _ r
theorem Yq{x:Ex}{e:Expr}{n:Nat}{k p1 p3 pos}(so:Fb C P)(hx:SE C N P c d b ai x e)(ht:∀o r,letTemporaryGo e o r=pure ()):
  SE C N P c d b ai (.Gs x n) (.Subscript e (.Slice none (some (.Constant (.int (n:Int)) k p1)) none p3) pos):=fun ρ σ v aK h A E s β R S F=>by
 refine bB h fun a σ1 e1 h=> ?_
 refine adq h fun q0 h=> ?_
 subst q0
 ·refine kT h ?_
  refine wpAny_Subscript_list_slice (bH.cont (hx ρ σ _ σ1 e1 A E s β R S F) fun r1 s1 bL bw S1 mR=> ?_) ht
  cases mR
  refine cW ?_
  show wpAny _ _ (eval _ ai) _ _ _
  refine wpAny_Constant_int ?_
  refine nS so.at_ fun vs o m ho hc hd hi=> ?_
  have ho1:=S1.ir _ _ ho
  have hsz:vs.toArray.size<=sizeLine:=by rw[mY,CD hi];exact fz so.jW
  have hp:=slice_ints_uptoW hi (y:=(n:Int)) (Int.natCast_nonneg n)
  refine⟨C.gu,vs.toArray,none,some (n:Int),rfl,⟨o,ho1,hc,_,hd⟩,hsz,.none,.int _ _,?_⟩
  refine bH.after bw (bH.list (vs:=(slicePick vs.toArray none (some (n:Int)) none).toList) (n:=0) S1 (fun a o' e=>k8 _ (k8 _ e)) (by rw[j3,j3];exact d9 (lT _) (lT _)) (lT _) ?_ (aB.intz hp))
  have:=sH (s1.heap.push {cls:=.type "slice",data:=.fields #[.none,.int n s1.toks,.none]}) (o:={cls:=.type "list",data:=.seq (slicePick vs.toArray none (some (n:Int)) none)}) rfl
  rw[j3]at this
  exact this
end
end
section
section
variable{C:Cx}{N:bz C}{P:b5}{c:Calls}{d:Nat}{b:Bool}{ai:Env}{β:Bt}{σ:H}{s:Shared}{A:Around}{E:Value->Shared->Prop}
theorem bG.mg(ok:cN C)(S:bG C s.heap β σ):s.heap.Ns mainGlobals C.mg:=let⟨o,es,n,h,r⟩:=ok.hg;⟨o,es,n,S.ir _ _ h,r⟩
theorem bG.mb(ok:cN C)(S:bG C s.heap β σ):s.heap.Ns builtinsNs C.mb:=let⟨o,es,n,h,r⟩:=ok.hb;⟨o,es,n,S.ir _ _ h,r⟩
theorem bG.K(ok:cN C)(S:bG C s.heap β σ):C.K.In s.heap:=fun a o e=>S.ir _ _ (ok.X a o e)
theorem bG.Gc(S:bG C s.heap β σ){v:V}{u:Value}(r:aL C C.eG [] v u):aL C s.heap β v u:=
 aL.keep (fun a ao ⟨o,ho,q⟩=>⟨o,S.ir _ _ ho,q⟩) (fun i ad e=>by exact nomatch e) _ _ r
theorem Q4{x:Nat}{n:Str}{v:V}{u:Value}{pos}(ok:cN C)(hx:ai.kindOf n=some .globalImplicit)(hg:C.mg n=some u)(hr:aL C C.eG [] v u)(hd:(n==("__debug__":Str))=false):
  SE C N P c d b ai (.aC x v) (.Name n pos):=fun ρ σ v' aK h A E s β R S F=>by
 refine kT h ?_
 exact Calls.Name_function_global F.kind hx (Calls.loadGlobal_global (F.aC▸S.mg ok) hg (.here S (S.Gc hr))) hd
theorem vz(ok:cN C){n:Str}{u:Value}{pos}{ρ:aO}(S:bG C s.heap β σ)(F:aF C N s β ai ρ)(hx:ai.kindOf n=some .globalImplicit)(hd:(n==("__debug__":Str))=false)
  (hg:C.mg n=some u\/(C.mg n=none/\C.mb n=some u)){Q:Value->Shared->Prop}(h:Q u s):wpAny (model C.prog C.w) A (eval (.Name n pos) ai) Q E s:=by
 refine Calls.Name_function_global F.kind hx ?_ hd
 rcases hg with hg|⟨h1,h2⟩
 ·exact Calls.loadGlobal_global (F.aC▸S.mg ok) hg h
 ·exact Calls.loadGlobal_builtin (F.aC▸S.mg ok) h1 (F.blt▸S.mb ok) h2 h
theorem f9{es:List Expr}(he:es.all (fun e=> !isStarred e)=true)(ai:Env)(pos:Pos):(backTo pos (starEach es ai)).any (·.1)=false:=by
 induction es with
 |nil=>rfl
 |cons e r ih=>
  rw[List.all_cons,dX,zV]at he
  rw[uE he.1]
  show(false||(backTo pos (starEach r ai)).any (·.1))=false
  rw[ih he.2];rfl
theorem dW{xs:List Ex}{es:List Expr}{f:Value}{pos:Pos}{ρ:aO}{vs:List V}{aK:H}(hs:SL C N P c d b ai xs es)(hl:xs.length=es.length)(he:es.all (fun e=> !isStarred e)=true)(h:zE P c xs ρ σ=some (vs,aK))(R:gO d b A)
  (S:bG C s.heap β σ)(F:aF C N s β ai ρ){Q:Args->Shared->Prop}
  (k:∀us s1 bL,aM kQ β s bL s1->bG C s1.heap bL aK->aB C s1.heap bL vs us->Q ⟨us,[]⟩ s1):
  wpAny (model C.prog C.w) A (evalArgs f true (backTo pos (starEach es ai)) []) Q E s:=by
 cases es with
 |nil=>
  cases xs with
  |cons=>exact nomatch hl
  |nil=>exact evalArgs_nil3 (k [] s β .rfl' (AX h▸S) (Bc h▸rfl))
 |cons e r=>
  rw[List.all_cons,dX,zV]at he
  have Ri:=uE he.1 (r:=r) (ai:=ai)
  have:=pM.cont (hs ρ σ vs aK h A E s β pos R S F) (Q:=fun us s'=>Q ⟨us,[]⟩ s') k
  rw[Ri]at this⊢
  exact Calls.evalArgs_plain this
theorem Gf{x y:Ex}{e:Expr}{n:Str}{id:String}{p1 pos}(ok:cN C)(hx:ai.kindOf n=some .globalImplicit)(hd:(n==("__debug__":Str))=false)(hg:C.mg n=none)(hb:C.mb n=some (.builtin id))(he:isStarred e=false)
  (hs:SE C N P c d b ai x e)(hy:∀(ρ:aO) (σ:H) (v:V) (aK:H),gK P c y ρ σ=some (v,aK)->∃a σ1,gK P c x ρ σ=some (a,σ1)/\∀(A:Around) (E:Value->Shared->Prop) (s:Shared) (β:Bt) (u:Value),gO d b A->bG C s.heap β σ1->aL C s.heap β a u->
   wpAny (model C.prog C.w) A (call (.builtin id) [u]) (bH C β s v aK) E s):
  SE C N P c d b ai y (.Call (.Name n p1) [e] [] pos):=fun ρ σ v aK h A E s β R S F=>by
 refine lu (hy ρ σ v aK h) fun a σ1 e1 k=> ?_
 refine wpAny_Call_ofName (vz ok S F hx hd (.inr ⟨hg,hb⟩) ?_)
 have hl:SL C N P c d b ai [x] [e]:=mh hs sR he
 have iW:[e].all (fun e=> !isStarred e)=true:=congrArg (fun b=> !b&&true) he
 refine Calls.callWith_builtin (f9 iW ai pos) ?_
 refine dW hl rfl iW (rB e1) R S F fun us s1 bL bw S1 rr=> ?_
 refine aW rr fun u t q2 ru rt=> ?_;subst q2
 cases rt
 exact dN (k A E s1 bL u R S1 ru) (fun r s2 q=>q.after bw) fun Z Z x=>x
theorem C4{x y:Ex}{e:Expr}{n:Str}{T:String}{p1 pos}(ok:cN C)(hx:ai.kindOf n=some .globalImplicit)(hd:(n==("__debug__":Str))=false)(hg:C.mg n=none)(hb:C.mb n=some (.type T))(he:isStarred e=false)
  (hs:SE C N P c d b ai x e)(hy:∀(ρ:aO) (σ:H) (v:V) (aK:H),gK P c y ρ σ=some (v,aK)->∃a σ1,gK P c x ρ σ=some (a,σ1)/\∀(A:Around) (E:Value->Shared->Prop) (s:Shared) (β:Bt) (u:Value),gO d b A->bG C s.heap β σ1->aL C s.heap β a u->
   wpAny (model C.prog C.w) A (call (.type T) [u]) (bH C β s v aK) E s):
  SE C N P c d b ai y (.Call (.Name n p1) [e] [] pos):=fun ρ σ v aK h A E s β R S F=>by
 refine lu (hy ρ σ v aK h) fun a σ1 e1 k=> ?_
 refine wpAny_Call_ofName (vz ok S F hx hd (.inr ⟨hg,hb⟩) ?_)
 have hl:SL C N P c d b ai [x] [e]:=mh hs sR he
 have iW:[e].all (fun e=> !isStarred e)=true:=congrArg (fun b=> !b&&true) he
 refine PyProof.Rows.callWith_type (f9 iW ai pos) ?_
 refine dW hl rfl iW (rB e1) R S F fun us s1 bL bw S1 rr=> ?_
 refine aW rr fun u t q2 ru rt=> ?_;subst q2
 cases rt
 exact dN (k A E s1 bL u R S1 ru) (fun r s2 q=>q.after bw) fun Z Z x=>x
theorem ac2(S:bG C s.heap β σ){x:V}{xs:List V}{u:Value}(hx:uh σ x=some xs)(ru:aL C s.heap β x u):
  xs.length<aJ/\∃a vs,u=.ref a/\aB C s.heap β xs vs/\(IsTup s.heap a vs.toArray\/s.heap.IsList a vs.toArray):=by
 refine Ws hx (fun eo hz=> ?_) fun i eo e hz=> ?_
 all_goals rw[eo]at ru
 ·exact aW ru fun a vs q2 t r=>⟨hz,a,vs,q2,r,.inl t⟩
 ·exact dm (S.get e ru) fun ad jA q2 Z vs n g rr=>⟨hz,_,vs,q2,rr,.inr ⟨_,g,rfl,_,rfl⟩⟩
theorem Yl{x:Ex}{e:Expr}{n:Str}{p1 pos}(ok:cN C)(hx:ai.kindOf n=some .globalImplicit)(hd:(n==("__debug__":Str))=false)(hg:C.mg n=none)(hb:C.mb n=some (.builtin "len"))(he:isStarred e=false)
  (hs:SE C N P c d b ai x e):SE C N P c d b ai (.len x) (.Call (.Name n p1) [e] [] pos):=
 Gf ok hx hd hg hb he hs fun ρ σ v aK h=>by
  refine bB h fun o σ1 e1 h=> ?_
  refine GK h fun xs e2 h=> ?_
  refine kT h ?_
  refine⟨o,σ1,e1,fun A E s β u R S ru=> ?_⟩
  refine FY (ac2 S e2 ru) fun hz a vs q3 rr q=> ?_;subst q3
  have aam:(vs.toArray.size:Int)<2^63:=by rw[mY,rr.length];unfold aJ at hz;omega
  have fm:∀n m,bH C β s (.int xs.length) σ1 (.int vs.toArray.size n) {s with toks:=m}:=fun n m=>.iU S ⟨n,by rw[mY,rr.length]⟩
  rcases q with q|q
  ·exact len_tuple q aam (fm _ _)
  ·exact Calls.call_len_list q aam (fm _ _)
theorem AS{Q:List Value->Shared->Prop}(it:Addr){o:Obj}{ao:Array Value}{n:Nat}
  (ho:s.heap.get? it=some o)(hc:o.cls=.type "list")(hd:o.data=.seq ao n)(hsz:ao.size<=sizeLine)
  (hQ:∀h',(∀b o',s.heap.get? b=some o'->h'.get? b=some o')->s.heap.objs.size<=h'.objs.size->Q ao.toList {s with heap:=h'}):wpAny (model C.prog C.w) A (collect (.ref it)) Q E s:=by
 exact dN (jR (wpAny_collect_seq (Q:=fun l s'=>∃h',s'={s with heap:=h'}/\l=ao.toList/\∀b o,s.heap.get? b=some o->h'.get? b=some o) it (.inl rfl) ho hc hd (fun h' hk=>⟨h',rfl,rfl,hk⟩) hsz))
  (fun l s' u=>DV u fun hz h' q2 q3 hk=>by subst q2;subst q3;exact hQ h' hk hz) fun Z Z x=>x
theorem uw(l:Addr)(o:Obj)(ao:Array Value)(n:Nat)(hc:o.cls=.type "list")(hd:o.data=.seq ao n)(hsz:ao.size<=sizeLine):
  MeetsIn C.prog C.w (Builtin.«tuple.__new__» ⟨[.type "tuple",.ref l],[]⟩)
   (fun Z R s=>s.heap.get? l=some o/\∀h':Heap,(∀b o',s.heap.get? b=some o'->h'.get? b=some o')->s.heap.objs.size<=h'.objs.size->R (.ok (.ret (.ref h'.objs.size))) {s with heap:=h'.push {cls:=.type "tuple",data:=.seq ao}}):=
 .of_wp fun A R s h=>by
  obtain⟨hp,g,d,tk,os⟩:=s;refine dw h fun ht h=> ?_
  have ahC:=sub_tuple_self
  have ahy:=init_tuple_lookup
  have hmh:=madeHere_tuple
  have hT:Shared.TypeIs ⟨hp,g,d,tk,os⟩ (.ref l) "list":=⟨o,ht,hc⟩
  wp_walk using AutoSeq1.wpAny_loadPart' ht,wpAny_typeOf hT,AS l ht hc hd hsz
  intro h' hk hz
  show wpAny _ _ (Builtin.Tuple.tupleExact ao.toList.toArray>>=fun v=>ret v) _ _ _
  refine bK (wpAny_newObj_type ?_ (by exact hsz))
  refine cW ⟨_,rfl,?_⟩
  have e:ao.toList.toArray=ao:=rfl
  exact h h' hk hz
theorem yg{l:Addr}{ao:Array Value}{Q:Value->Shared->Prop}(hl:s.heap.IsList l ao)(hsz:ao.size<=sizeLine)
  (h:∀h':Heap,(∀b o',s.heap.get? b=some o'->h'.get? b=some o')->s.heap.objs.size<=h'.objs.size->Q (.ref h'.objs.size) {s with heap:=h'.push {cls:=.type "tuple",data:=.seq ao}}):
  wpAny (model C.prog C.w) A (call (.type "tuple") [.ref l]) Q E s:=by
 refine nJ hl fun o ho hc n hd=> ?_
 exact callType_newIn F.called_tuple (rfl) (F.typeCall_tuple_1 _) (F.newCall_tuple_1 _) (fun obj=>F.args_object_init_2 obj _) F.entry_tuple_new
  (uw l o ao n hc hd hsz) ⟨ho,fun h' hk hz=>⟨⟨_,sH _ rfl,rfl⟩,h h' hk hz⟩⟩
theorem MX{x:Ex}{e:Expr}{n:Str}{p1 pos}(ok:cN C)(hx:ai.kindOf n=some .globalImplicit)(hd:(n==("__debug__":Str))=false)(hg:C.mg n=none)(hb:C.mb n=some (.type "tuple"))(he:isStarred e=false)
  (hs:SE C N P c d b ai x e):SE C N P c d b ai (.tuple x) (.Call (.Name n p1) [e] [] pos):=
 C4 ok hx hd hg hb he hs fun ρ σ v aK h=>by
  refine bB h fun o σ1 e1 h=> ?_
  refine GK h fun xs e2 h=> ?_
  refine kT h ?_
  refine⟨o,σ1,e1,fun A E s β u R S ru=> ?_⟩
  refine vN (fun _ xs=>if xs.length<aJ then some xs else none) e2 fun i xs eo e3 e2=>lK e2 fun hz e2=> ?_
  rw[eo]at ru
  refine dm (S.get e3 ru) fun ad jA q2 Z vs n g rr=> ?_
  rw[q2,<-ig e2]
  refine yg (ao:=vs.toArray) ⟨_,g,rfl,_,rfl⟩ (by rw[mY,rr.length];exact fz hz) fun h' hk hz'=> ?_
  have k2:∀a o,s.heap.get? a=some o->(h'.push {cls:=.type "tuple",data:=.seq vs.toArray}).get? a=some o:=fun a o e=>k8 _ (hk a o e)
  have hz2:s.heap.objs.size<=(h'.push {cls:=.type "tuple",data:=.seq vs.toArray}).objs.size:=by rw[j3];exact Nat.le_succ_of_le hz'
  exact⟨β,aM.EX (tk:=s.toks) k2 hz2,S.keep k2 hz2,_,vs,rfl,IsTup.new _ _,aB.keep (rG k2) (fun Z Z e=>e) _ _ rr⟩
theorem QY{x:Ex}{e:Expr}{n:Str}{p1 pos}(ok:cN C)(hx:ai.kindOf n=some .globalImplicit)(hd:(n==("__debug__":Str))=false)(hg:C.mg n=none)(hb:C.mb n=some (.type "str"))(he:isStarred e=false)
  (hs:SE C N P c d b ai x e):SE C N P c d b ai (.pX x) (.Call (.Name n p1) [e] [] pos):=
 C4 ok hx hd hg hb he hs fun ρ σ v aK h=>by
  refine bB h fun o σ1 e1 h=> ?_
  refine sj h fun t e2 h=> ?_
  refine kT h ?_
  refine⟨o,σ1,e1,fun A E s β u R S ru=> ?_⟩
  cases o with
  |int k=>
   refine lK e2 fun hz e2=>bR ru fun tk q1=> ?_
   rw[q1,<-ig e2]
   refine str_of_int_fit (N:=1000000000) (by split<;>omega) (by decide+kernel) fun Z=>.iU S ⟨s.toks,?_⟩
   congr 1
   rw[<-String.ofList_toList (s:=toString k),PySem.W.Fast.ofString_ofList]
   simp
  |_=>exact bJ e2
theorem MY{x:Ex}{e:Expr}{n n2:Str}{p1 p2 pos}(ok:cN C)(hx:ai.kindOf n=some .globalImplicit)(hd:(n==("__debug__":Str))=false)(hg:C.mg n=none)(hb:C.mb n=some (.builtin "isinstance"))
  (hx2:ai.kindOf n2=some .globalImplicit)(hd2:(n2==("__debug__":Str))=false)(hg2:C.mg n2=none)(hb2:C.mb n2=some (.type "str"))(he:isStarred e=false)
  (hs:SE C N P c d b ai x e):SE C N P c d b ai (.isStr x) (.Call (.Name n p1) [e,.Name n2 p2] [] pos):=fun ρ σ v aK h A E s β R S F=>by
 refine bB h fun o σ1 e1 h=> ?_
 refine sj h fun t e2 h=> ?_
 refine kT h ?_
 refine wpAny_Call_ofName (vz ok S F hx hd (.inr ⟨hg,hb⟩) ?_)
 refine Calls.callWith_builtin (f9 (by rw[List.all_cons,he];rfl) ai pos) ?_
 have Ri:=uE he (r:=[.Name n2 p2]) (ai:=ai)
 have key:wpAny (model C.prog C.w) A (spliced (backTo pos (starEach [e,.Name n2 p2] ai))) (fun vs s'=>wpAny (model C.prog C.w) A (call (.builtin "isinstance") ([]++vs)) (bH C β s t σ1) E s') E s:=by
  refine wpAny_items_cons (bH.cont (hs ρ σ o σ1 e1 A E s β R S F) fun r1 s1 bL bw S1 mR=> ?_) Ri
  refine wpAny_items_cons (vz ok S1 (F.step S bw) hx2 hd2 (.inr ⟨hg2,hb2⟩) (wpAny_items_nil ?_))
  cases o with
  |str=>exact bR mR fun tk q1=>by rw[q1,<-ig e2];exact IsiPair.str_str ⟨bL,bw,S1,rfl⟩
  |int=>exact bR mR fun tk q1=>by rw[q1,<-ig e2];exact IsiPair.int_str ⟨bL,bw.trans (.iU _),S1,rfl⟩
  |_=>exact bJ e2
 rw[Ri]at key⊢
 exact Calls.evalArgs_plain key
end
end
section
structure tU(C:Cx)(N:bz C)(P:b5)(k:Nat):Prop where
 plain:plainGet C.K (C.ca k) Str.empty=true
 aan:hasDictIn C.K (C.ca k)=true
 set:findIn C.K (.ref (C.ca k)) "__setattr__"=some (some (.builtin "object.__setattr__"))
 over:plainOver C.K (C.ca k)=true
 field:∀a,C.gI k a=true->N.ok a=true/\findIn C.K (.ref (C.ca k)) (C.nm a)=some none
 bM:∀m f,P.bM k m=some f->N.ok m=true/\findIn C.K (.ref (C.ca k)) (C.nm m)=some (some (.ref (C.fa f)))/\typeIn C.K (.ref (C.fa f))=some (.type "function")/\keepIn C.K (.ref (C.fa f))=true
section
variable{C:Cx}{N:bz C}{P:b5}{h:Heap}{β:Bt}
theorem aL.Wy:∀{v:V} {u:Value},aL C h β v u->handedIn u=true
 | .none,u,r=>by cases r;rfl
 | .bool _,u,r=>by cases r;rfl
 | .int _,u,⟨t,e⟩=>by subst e;rfl
 | .str _,u,⟨t,e⟩=>by subst e;rfl
 | .ak _,u,⟨a,vs,e,_⟩=>by subst e;rfl
 | .ref _,u,⟨ad,_,e⟩=>by subst e;rfl
 | .gu,u,r=>by cases r;rfl
theorem qx(n:Str)(t:Tok):(Value.str n t).isStr n=true:=by simp[Value.isStr]
theorem rJ{n m:Str}(t:Tok)(h:n≠m):(Value.str n t).isStr m=false:=by simpa[Value.isStr]using h
theorem fZ.Bm{gI:Nat->Bool}(Ng:∀x,gI x=true->N.ok x=true){a:Nat}(ha:N.ok a=true):∀{fs:List (Nat×V)} {Es:List DictEntry},(∀e∈fs,gI e.1=true)->fZ C h β fs Es->
  (∀v,ay a fs=some v->∃E,Es.find? (·.key.isStr (C.nm a))=some E/\aL C h β v E.val)/\(ay a fs=none->Es.find? (·.key.isStr (C.nm a))=none/\Es.any (·.refKey)=false)
 |[],Es,_,r=>by rw[show Es=[]from r];exact⟨fun v e=>bJ e,fun Z=>⟨rfl,rfl⟩⟩
 |(y,w)::fs,Es,hf,r=>d7 r fun E t q ek rv r=>bR ek fun tk ek=>by
  have ih:=fZ.Bm Ng ha (fun e he=>hf e (.tail _ he)) r
  have nn:a≠y->C.nm y≠C.nm a:=fun e q=>e (N.inj a y ha (Ng y (hf _ (.head _))) q.symm)
  rw[q]
  refine⟨fun v hv=>sL hv (fun q ew=>⟨E,by rw[List.find?_cons,ek,q,qx],ew▸rv⟩) fun ne hv=>aD (ih.1 v hv) fun E' f r=>⟨E',by rw[List.find?_cons,ek,rJ tk (nn ne)];exact f,r⟩,fun hn=> ?_⟩
  have hn:(if a=y then some w else ay a fs)=none:=hn
  have ne:a≠y:=fun q=>by rw[aI q]at hn;cases hn
  rw[aG ne]at hn
  refine⟨by rw[List.find?_cons,ek,rJ tk (nn ne)];exact(ih.2 hn).1,?_⟩
  rw[List.any_cons,(ih.2 hn).2,Bool.or_false]
  unfold DictEntry.refKey
  rw[ek]
theorem fZ.eX{gI:Nat->Bool}(Ng:∀x,gI x=true->N.ok x=true){a:Nat}(ha:N.ok a=true){v:V}{u:Value}{hsh:Int}{tk:Tok}(rv:aL C h β v u):∀{fs:List (Nat×V)} {Es:List DictEntry},(∀e∈fs,gI e.1=true)->fZ C h β fs Es->
  fZ C h β (eX a v fs) (putL (C.nm a) hsh (.str (C.nm a) tk) u Es)/\(putL (C.nm a) hsh (.str (C.nm a) tk) u Es).length=putN (C.nm a) Es Es.length
 |[],Es,_,r=>by rw[show Es=[]from r];exact⟨⟨_,[],rfl,⟨tk,rfl⟩,rv,rfl⟩,rfl⟩
 |(y,w)::fs,Es,hf,r=>d7 r fun E t q ek rv' r=>bR ek fun YB ek=>by
  have ih:=fZ.eX Ng ha rv (hsh:=hsh) (tk:=tk) (fun e he=>hf e (.tail _ he)) r
  rw[q]
  rw[yu]
  unfold putL putN
  by_cases e:a=y
  ·rw[aI e,ek,e,qx,aI rfl,List.any_cons,ek,qx,Bool.true_or,aI rfl]
   exact⟨⟨_,t,rfl,⟨YB,rfl⟩,rv,r⟩,rfl⟩
  ·have ne:C.nm y≠C.nm a:=fun q=>e (N.inj a y ha (Ng y (hf _ (.head _))) q.symm)
   rw[aG e,ek,rJ YB ne,aG Bool.false_ne_true,List.any_cons,ek,rJ YB ne,Bool.false_or]
   refine⟨⟨E,_,rfl,⟨YB,ek⟩,rv',ih.1⟩,(congrArg Nat.succ ih.2).trans ?_⟩
   unfold putN
   by_cases z:(t.any fun x=>x.key.isStr (C.nm a))=true
   ·rw[aI z,aI z];rfl
   ·rw[aG z,aG z];rfl
end
section
variable{C:Cx}{N:bz C}{P:b5}{c:Calls}{d:Nat}{b:Bool}{ai:Env}{β:Bt}{σ:H}{s:Shared}{A:Around}{E:Value->Shared->Prop}
theorem InstAt.of{ad:Addr×Addr}{k:Nat}{Es:List DictEntry}{h:Heap}(g1:h.get? ad.1=some (instObj (C.ca k) ad.2))(g2:h.get? ad.2=some (dictOf Es Es.length)):InstAt h ad.1 (instObj (C.ca k) ad.2) (C.ca k) (some (dictOf Es Es.length)):=
 ⟨g1,rfl,rfl,g2⟩
theorem Co{p:Nat->Bool}{a:Nat}{v:V}:∀{fs:List (Nat×V)},(∀e∈fs,p e.1=true)->ay a fs=some v->p a=true
 |[],_,h=>bJ h
 |(y,w)::r,hf,h=>sL h (fun q _=>q▸hf _ (.head _)) fun _ h=>Co (fun e he=>hf e (.tail _ he)) h
theorem Ln(ok:cN C)(cls:∀k,tU C N P k)(S:bG C s.heap β σ){o v:V}{a:Nat}{u:Value}{ex:Bool}(ha:N.ok a=true)(hr:nh σ o a=some v)(ru:aL C s.heap β o u){Q:Value->Shared->Prop}
  (h:∀tk r,aL C s.heap β v r->Q r {s with toks:=tk}):wpAny (model C.prog C.w) A (getAttr u (C.nm a) ex) Q E s:=by
 refine DQ (fun _ _ fs=>ay a fs) hr fun i k fs eo e hr=> ?_
 rw[eo]at ru
 refine qB (S.get e ru) fun ad jA q2 Nh hf Es g1 g2 rr=>aD ((fZ.Bm (N:=N) (gI:=C.gI k) (fun x hx=>((cls k).field x hx).1) ha hf rr).1 v hr) fun E' hE rv=> ?_
 rw[q2]
 refine get_value (S.K ok) (InstAt.of g1 g2) (plainGet_of (cls k).plain).1 (findObj_own (cls k).aan ((cls k).field a (Co hf hr)).2 rfl ?_) rv.Wy (h _ _ rv)
 show getL (C.nm a) Es=some (some E'.val)
 unfold getL
 rw[hE]
theorem Ra{x:Ex}{e:Expr}{a:Nat}{n:Str}{pos}(ok:cN C)(cls:∀k,tU C N P k)(ha:N.ok a=true)(hn:n=C.nm a)(hx:SE C N P c d b ai x e)(hb:attributeBase e n ai (eval e ai)=eval e ai):
  SE C N P c d b ai (.aq x a) (.Attribute e n pos):=fun ρ σ v aK h A E s β R S F=>by
 subst hn
 refine bB h fun o σ1 e1 h=> ?_
 refine sj h fun v' e2 h=> ?_
 refine kT h ?_
 rw[arm_eval_Attribute,hb]
 refine bK (bH.cont (hx ρ σ o σ1 e1 A E s β R S F) fun r1 s1 bL bw S1 mR=>bK (sF (bK (j0 (Ln ok cls S1 ha e2 mR fun tk r rr=> ?_)))))
 exact bK (wpAny_letTemporaryGo (cW (.after bw (.iU S1 rr))))
theorem Fv{k a:Nat}{v:V}(ha:C.gI k a=true):∀{fs:List (Nat×V)},(∀e∈fs,C.gI k e.1=true)->∀e∈eX a v fs,C.gI k e.1=true
 |[],_,e,he=>eZ.mp he▸ha
 |(y,w)::r,hf,e,he=>by
  have he:e∈if a=y then(a,v)::r else(y,w)::eX a v r:=he
  by_cases q:a=y
  ·rw[aI q]at he
   exact(cH.mp he).elim (fun q=>q▸ha) fun he=>hf e (.tail _ he)
  ·rw[aG q]at he
   exact(cH.mp he).elim (fun q=>q▸hf _ (.head _)) fun he=>Fv ha (fun e he=>hf e (.tail _ he)) e he
theorem LY{C0 x dx:Addr}{es:List DictEntry}{n:Nat}{name:Str}{tk:Tok}{v:Value}{R:Result->Shared->Prop}(X:C.K.In s.heap)(I:InstAt s.heap x (instObj C0 dx) C0 (some (dictOf es n)))
  (hp:plainOver C.K C0=true)(ht:takerIn C.K C0 name=some none)(hh:(clsIn C.K C0).any (·.hasDict)=true)(cnd:(!es.any (·.key.isStr name)&&es.any (·.refKey))=false)(hz:es.length<=1000)
  (h:∀h',Heap.SameBut dx s.heap h'->h'.get? dx=some (dictOf (putL name (PyData.keyHash C.w.params name) (.str name s.toks) v es) (putN name es n))->R (.ok (.ret .none)) {s with heap:=h',toks:=s.toks+1}):
  codeAny (model C.prog C.w) A (.call (.builtin "object.__setattr__") ⟨[.ref x,.str name tk,v],[]⟩) R s:=by
 refine osa_open X I hp ht fun b=> ?_
 refine aD (any_some hh) fun cd hc Iw=> ?_
 have D:s.heap.get? dx=some (dictOf es n):=I.dict
 have hx:=I.at_
 refine bK (cW (bK (bK (wpAny_loadPart hx (bK ((looks_clsIn X hc).here ?_))))))
 rw[Iw]
 refine cW (a:=some dx) (bK (cW (bK ?_)))
 refine bK (bK (wpAny_askSetting (cW (bK (wpAny_mkText (bK (wpAny_loadPart D ?_)))))))
 have c:(!es.toArray.any (·.key.isStr name)&&es.toArray.any (·.refKey))=false:=by
  rw[<-Array.any_toList,<-Array.any_toList];exact cnd
 dsimp only
 rw[aRefKeyMayBeTheName_at,c]
 refine wpAny_updatePart D ?_
 have D':=Heap.get?_update_self (Obj.putName name (PyData.keyHash C.w.params name) (.str name s.toks) v) D (by rw[putName_dict];rfl)
 rw[putName_dict]at D'
 have k6:(putL name (PyData.keyHash C.w.params name) (.str name s.toks) v es).length<=es.length+1:=by
  have:∀l:List DictEntry,(putL name (PyData.keyHash C.w.params name) (.str name s.toks) v l).length<=l.length+1:=by
   intro l
   induction l with
   |nil=>simp[putL]
   |cons e r ih=>unfold putL;split<;>simp<;>exact ih
  exact this es
 refine bK (wpAny_lookBehind D' (pastItsLine_dict (by exact(uZ k6 (qO hz rfl)))) ?_)
 exact cW (h _ (Heap.SameBut.update ..) D')
theorem fZ.length{h:Heap}:∀{fs:List (Nat×V)} {Es:List DictEntry},fZ C h β fs Es->Es.length=fs.length
 |[],Es,q=>congrArg List.length (show Es=[]from q)
 |_::r,Es,q=>d7 q fun E t q _ _ q2=>(congrArg List.length q).trans (congrArg Nat.succ q2.length)
theorem Km(ok:cN C)(cls:∀k,tU C N P k)(hP:P.gI=C.gI)(S:bG C s.heap β σ){o v:V}{a:Nat}{u r:Value}{aK:H}(hr:lO P.gI σ o a v=some aK)(ru:aL C s.heap β o u)(rv:aL C s.heap β v r){Q:Unit->Shared->Prop}
  (h:∀s',aM kQ β s β s'->bG C s'.heap β aK->Q () s'):wpAny (model C.prog C.w) A (setAttr u (C.nm a) r) Q E s:=by
 rw[hP]at hr
 refine DQ (fun i c fs=>if fs.length<500&&C.gI c a then some (σ.set i (.bE c (eX a v fs)))else none) hr fun i k fs eo e hr=>lK hr fun hz hr=> ?_
 rw[eo]at ru
 rw[dX,lW]at hz
 refine qB (S.get e ru) fun ad jA q2 Nh hf Es g1 g2 rr=>dw ((cls k).field a hz.2) fun ha fa=> ?_
 rw[q2]
 have I:InstAt s.heap ad.1 (instObj (C.ca k) ad.2) (C.ca k) (some (dictOf Es Es.length)):=InstAt.of g1 g2
 have ht:takerIn C.K (C.ca k) (C.nm a)=some none:=by unfold takerIn;rw[fa];rfl
 have cnd:(!Es.any (·.key.isStr (C.nm a))&&Es.any (·.refKey))=false:=by
  have Zu:=fZ.Bm (N:=N) (gI:=C.gI k) (fun x hx=>((cls k).field x hx).1) ha hf rr
  cases hl:ay a fs with
  |none=>rw[(Zu.2 hl).2,Bool.and_false]
  |some v0=>exact aD (Zu.1 v0 hl) fun E' hE Z=>by rw[List.any_eq_true.mpr ⟨E',List.mem_of_find?_eq_some hE,List.find?_some hE⟩];rfl
 refine set_plain (S.K ok) I (cls k).set (LY (s:={s with toks:=s.toks+1}) (S.K ok) I (cls k).over ht (cls k).aan cnd (by rw[rr.length];exact(GR hz.1 rfl)) fun h' uf D'=> ?_)
 refine dw (fZ.eX (N:=N) (gI:=C.gI k) (fun x hx=>((cls k).field x hx).1) ha rv (hsh:=PyData.keyHash C.w.params (C.nm a)) (tk:=s.toks+1) hf rr) fun p1 p2=> ?_
 rw[<-p2]at D'
 refine h _ (aM.fN (tk:=s.toks+1+1) jA (.inr rfl) uf) (ig hr▸S.upd jA (.inr rfl) uf ⟨Nh,Fv hz.2 hf,_,(uf.2 _ (Ne.symm Nh)).trans g1,D',fZ.keep (fun b ao q=> ?_) (fun Z Z e=>e) _ _ p1⟩)
 exact aD q fun ob TN q'=>⟨ob,(uf.2 _ fun z=>S.fL q ⟨ad,S.mem jA,.inr z⟩).trans TN,q'⟩
end
end
section
noncomputable def BJ(d:Nat)(A:Around):Prop:=A.handled=none/\A.depth+10*d+2<recursionLimit/\A.units+200*d+250<cLine
theorem gO.call{d:Nat}{b:Bool}{A:Around}(h:gO d b A):BJ d A:=by
 refine⟨h.1,?_,?_⟩
 ·have:=h.2.1;cases b<;>simp at*<;>lia
 ·have:=h.2.2;cases b<;>simp at*<;>exact(Jr this rfl)
noncomputable def fk(C:Cx)(P:b5)(c:Calls)(d:Nat):Prop:=
 ∀(f:Nat) (vs:List V) (σ:H) (v:V) (aK:H),c f vs σ=some (v,aK)->∀(A:Around) (s:Shared) (β:Bt) (us:List Value),BJ d A->bG C s.heap β σ->aB C s.heap β vs us->
  codeAny (model C.prog C.w) A (.call (.ref (C.fa f)) ⟨us,[]⟩) (fun r s'=>∃u,r=.ok (.ret u)/\bH C β s v aK u s') s
noncomputable def jG(C:Cx)(P:b5)(c:Calls)(d:Nat):Prop:=
 ∀(k:Nat) (vs:List V) (σ:H) (v:V) (aK:H),BB P c k vs σ=some (v,aK)->∀(A:Around) (s:Shared) (β:Bt) (us:List Value),gO d true A->bG C s.heap β σ->aB C s.heap β vs us->
  codeAny (model C.prog C.w) A (.call (.ref (C.ca k)) ⟨us,[]⟩) (fun r s'=>∃u,r=.ok (.ret u)/\bH C β s v aK u s') s
theorem uP{C:Cx}{A:Around}{E:Value->Shared->Prop}{f:Value}{us:List Value}{s:Shared}{Q:Value->Shared->Prop}
  (h:codeAny (model C.prog C.w) A (.call f ⟨us,[]⟩) (fun r s'=>∃u,r=.ok (.ret u)/\Q u s') s):wpAny (model C.prog C.w) A (call f us) Q E s:=
 wpAny_call (codeAny_mono h fun r s' ⟨u,e,q⟩=>by subst e;exact q)
section
variable{C:Cx}{N:bz C}{P:b5}{c:Calls}{d:Nat}{b:Bool}{ai:Env}{β:Bt}{σ:H}{s:Shared}{A:Around}{E:Value->Shared->Prop}
theorem Q8{f:Nat}{xs:List Ex}{es:List Expr}{n:Str}{p1 pos}(ok:cN C)(co:fk C P c d)(hx:ai.kindOf n=some .globalImplicit)(hd:(n==("__debug__":Str))=false)(hg:C.mg n=some (.ref (C.fa f)))(hk:keepIn C.K (.ref (C.fa f))=true)
  (hl:xs.length=es.length)(he:es.all (fun e=> !isStarred e)=true)(hs:SL C N P c d b ai xs es):SE C N P c d b ai (.call f xs) (.Call (.Name n p1) es [] pos):=fun ρ σ v aK h A E s β R S F=>by
 refine lq h fun vs σ1 e1 h=> ?_
 refine wpAny_Call_ofName (vz ok S F hx hd (.inl hg) ?_)
 refine callWith_of (P:=C.K.In) (by rw[f9 he];rfl) (keeps_K hk) (dW hs hl he e1 R S F fun us s1 bL bw S1 rr=>⟨S1.K ok,?_⟩)
 exact dN (uP (co f vs σ1 v aK h A s1 bL us R.call S1 rr)) (fun r s2 q=>q.after bw) fun Z Z x=>x
theorem Yi{k:Nat}{xs:List Ex}{es:List Expr}{n:Str}{p1 pos}(ok:cN C)(co:jG C P c d)(hx:ai.kindOf n=some .globalImplicit)(hd:(n==("__debug__":Str))=false)(hg:C.mg n=some (.ref (C.ca k)))(hk:keepIn C.K (.ref (C.ca k))=true)
  (hl:xs.length=es.length)(he:es.all (fun e=> !isStarred e)=true)(hs:SL C N P c d b ai xs es):SE C N P c d b ai (.new k xs) (.Call (.Name n p1) es [] pos):=fun ρ σ v aK h A E s β R S F=>by
 refine lq h fun vs σ1 e1 h=> ?_
 refine wpAny_Call_ofName (vz ok S F hx hd (.inl hg) ?_)
 refine callWith_of (P:=C.K.In) (by rw[f9 he];rfl) (keeps_K hk) (dW hs hl he e1 R S F fun us s1 bL bw S1 rr=>⟨S1.K ok,?_⟩)
 exact dN (uP (co k vs σ1 v aK h A s1 bL us R.EU S1 rr)) (fun r s2 q=>q.after bw) fun Z Z x=>x
theorem j9{o:Expr}{name:Str}{pY pos:Pos}{es:List Expr}{Q:Value->Shared->Prop}(hb:attributeBase o name ai (eval o ai)=eval o ai)(he:es.all (fun e=> !isStarred e)=true)(hn:es.length<29)(hl:(pY.endLine==pos.line)=true)
  (h:wpAny (model C.prog C.w) A (eval o ai) (fun ov s1=>∃f first,(∀pl (Q':Value×List Value->Shared->Prop),Q' (f,first) s1->wpAny (model C.prog C.w) A (getMethod ov name pl) Q' E s1)/\
   wpAny (model C.prog C.w) A (callWith pos f first (backTo pos (starEach es ai)) []) Q E s1) E s):
  wpAny (model C.prog C.w) A (eval (.Call (.Attribute o name pY) es [] pos) ai) Q E s:=by
 rw[arm_eval_Call,hb]
 refine bK (dN h (fun ov s1 h1=> ?_) fun Z Z e=>e)
 refine lu h1 fun f first hm hc=> ?_
 refine bK (sF ?_)
 have adD:methodCallForm (es.length+([]:List Keyword).length) (backTo pos (starEach es ai)) (backToKw pos (keywordEach [] ai))=true:=by
  unfold methodCallForm
  have p:=f9 he ai pos
  have p':(backTo pos (starEach es ai)).all (fun x=> !x.1)=true:=by
   rw[dG]
   intro x hx
   rw[List.any_eq_false]at p
   have:=p x hx
   cases hq:x.1
   ·rfl
   ·exact absurd hq this
  rw[p']
  show(true&&decide (es.length+0+0<30))=true
  rw[Bool.true_and,lW];exact(OT (acN hn))
 have US:methodCallPos true o ai pY pos=pure pos:=by unfold methodCallPos;simp[hl]
 unfold methodCall
 rw[adD]
 refine bK (j0 (hm _ _ ?_))
 exact bK (wpAny_of_eq US hc)
theorem Q2{x:Ex}{m:Nat}{xs:List Ex}{o:Expr}{es:List Expr}{n:Str}{pY pos}(ok:cN C)(cls:∀k,tU C N P k)(co:fk C P c d)(hn:n=C.nm m)(hb:attributeBase o n ai (eval o ai)=eval o ai)
  (hl:xs.length=es.length)(he:es.all (fun e=> !isStarred e)=true)(k6:es.length<29)(vC:(pY.endLine==pos.line)=true)(hx:SE C N P c d b ai x o)(hs:SL C N P c d b ai xs es):
  SE C N P c d b ai (.bM x m xs) (.Call (.Attribute o n pY) es [] pos):=fun ρ σ v aK h A E s β R S F=>by
 subst hn
 refine bB h fun ov σ1 e1 h=>agC h fun f e2 h=>lq h fun vs aX e3 h=> ?_
 refine j9 hb he k6 vC (bH.cont (hx ρ σ ov σ1 e1 A E s β R S F) fun r1 s1 bL bw S1 mR=> ?_)
 refine DQ (fun _ k fs=>match ay m fs with| .none=>P.bM k m|some _=>.none) e2 fun i k fs eo e4 e2=> ?_
 have mR:aL C s1.heap bL (.ref i) r1:=eo▸mR
 refine qB (S1.get e4 mR) fun ad jA q2 Nh hf Es g1 g2 rr=> ?_
 have e5:ay m fs=none:=by
  cases q:ay m fs with
  |none=>rfl
  |some _=>rw[q]at e2;exact nomatch e2
 rw[e5]at e2
 refine iA ((cls k).bM m f e2) fun m1 m2 m3 m4=> ?_
 have pg:=plainGet_of (cls k).plain
 have Zu:=(fZ.Bm (N:=N) (gI:=C.gI k) (fun x hx=>((cls k).field x hx).1) m1 hf rr).2 e5
 refine⟨.ref (C.fa f),[r1],fun pl Q' hq=>q2▸method_fn (S1.K ok) (InstAt.of g1 g2) pg.1 pg.2 m2 m3 ?_ (q2▸hq),?_⟩
 ·show(getL (C.nm m) Es).map _=_
  unfold getL
  rw[Zu.1,Zu.2];rfl
 ·refine callWith_of (P:=C.K.In) (by rw[f9 he];rfl) (keeps_K m4) (dW hs hl he e3 R S1 (F.step S bw) fun us s2 iD bS S2 Ih=>⟨S2.K ok,?_⟩)
  exact dN (uP (co f _ aX v aK h A s2 iD (r1::us) R.call S2 ⟨_,_,rfl,eo▸bS.ux S1 mR,Ih⟩)) (fun r s3 q=>q.after (bw.trans bS)) fun Z Z x=>x
theorem V5(S:bG C s.heap β σ){o x:V}{aK:H}{u r:Value}(hr:push σ o x=some aK)(ru:aL C s.heap β o u)(rx:aL C s.heap β x r){Q:Value->Shared->Prop}(h:∀s',aM kQ β s β s'->bG C s'.heap β aK->Q .none s'):
  ∃a,u=.ref a/\s.TypeIs u "list"/\(∃ob,s.heap.get? a=some ob/\ob.dict=none)/\wpAny (model C.prog C.w) A (call (.builtin "list.append") [u,r]) Q E s:=by
 refine vN (fun i xs=>if xs.length<aJ then some (σ.set i (.list (xs++[x])))else none) hr fun i xs eo e hr=>lK hr fun hz hr=> ?_
 rw[eo]at ru
 refine dm (S.get e ru) fun ad jA q2 e' vs n g rr=> ?_
 rw[q2]
 refine⟨ad.1,rfl,⟨_,g,rfl⟩,⟨_,g,rfl⟩,append_at (its:=vs.toArray) (n:=n) g (fun h' uf g'=> ?_) (by rw[mY,rr.length];exact fz hz)⟩
 refine h _ (aM.fN (tk:=s.toks) jA (.inl rfl) uf) (ig hr▸S.upd jA (.inl rfl) uf ⟨e',vs++[r],n+1,?_,?_⟩)
 ·rw[g'];simp[W.listOf]
 ·exact aB.keep (fun a ao t=>aD t fun ob TN q=>⟨ob,(uf.2 _ fun q=>S.fL t ⟨ad,S.mem jA,.inl q⟩).trans TN,q⟩) (fun Z Z e=>e) _ _ (aB.append rr (aB.aE rx))
theorem K2{o:V}(S:bG C s.heap β σ){u:Value}(h:Gl σ o=true)(ru:aL C s.heap β o u):∃a ob,u=.ref a/\s.heap.get? a=some ob/\ob.cls=.type "list"/\ob.dict=none:=
 adv h fun i xs eo e=>dm (S.get e (eo▸ru)) fun ad jA q2 Z vs n g rr=>⟨_,_,q2,g,rfl,rfl⟩
theorem Wv{o:V}(S:bG C s.heap β σ){u:Value}(h:NF σ o=true)(ru:aL C s.heap β o u):∃a ob,u=.ref a/\s.heap.get? a=some ob/\ob.cls=.type "dict"/\ob.dict=none:=
 adw h fun i n es eo e=>fD (S.get e (eo▸ru)) fun ad jA q2 Z Z Es g rr=>⟨_,_,q2,g,rfl,rfl⟩
theorem Qu{ρ:aO}{x y:Ex}{σ1 aX:H}{a b:V}(e1:gK P c x ρ σ=some (a,σ1))(e2:gK P c y ρ σ1=some (b,aX)):zE P c [x,y] ρ σ=some ([a,b],aX):=by
 show(match gK P c x ρ σ with|some (v,σ1)=>(match zE P c [y] ρ σ1 with|some (vs,aX)=>some (v::vs,aX)|none=>none)|none=>none)=_
 rw[e1]
 show(match zE P c [y] ρ σ1 with|some (vs,aX)=>some (a::vs,aX)|none=>none)=_
 rw[rB e2]
theorem Yt{x y:Ex}{o e:Expr}{pY pos}(hb:attributeBase o "append" ai (eval o ai)=eval o ai)(he:isStarred e=false)(vC:(pY.endLine==pos.line)=true)(hx:SE C N P c d b ai x o)(hy:SE C N P c d b ai y e):
  SE C N P c d b ai (.rV x y) (.Call (.Attribute o "append" pY) [e] [] pos):=fun ρ σ v aK h A E s β R S F=>by
 refine bB h fun ov σ1 e1 h=> ?_
 refine lK h fun hL h=> ?_
 refine bB h fun w aX e2 h=> ?_
 refine Dv h fun kU e3 h=> ?_
 refine kT h ?_
 have iW:[e].all (fun e=> !isStarred e)=true:=congrArg (fun b=> !b&&true) he
 refine j9 hb iW (gP rfl) vC (bH.cont (hx ρ σ ov σ1 e1 A E s β R S F) fun r1 s1 bL bw S1 mR=> ?_)
 refine d7 (K2 S1 hL mR) fun a ob q2 g hc hd=> ?_;subst q2
 refine⟨.builtin "list.append",[.ref a],fun pl Q' hq=>getMethod_builtin ⟨_,g,hc⟩ PySem.F.plainAttrs_list PySem.F.slot_list_append PySem.F.type_list_append (fun a e=>by cases e;exact⟨_,g,hd⟩) hq,?_⟩
 refine Calls.callWith_builtin (f9 iW ai pos) ?_
 refine dW (mh hy sR he) rfl iW (rB e2) R S1 (F.step S bw) fun us s2 iD bS S2 rr=> ?_
 refine aW rr fun u t q2 ru rt=> ?_;subst q2
 cases rt
 refine eH (V5 (A:=A) (E:=E) (Q:=bH C β s .none kU) S2 e3 (bS.ux S1 mR) ru fun s' eV S3=>⟨iD,(bw.trans bS).trans eV,S3,rfl⟩) fun a' Z Z Z hw=> ?_
 exact hw
theorem Q6{x y z:Ex}{o e f:Expr}{pY pos}(ok:cN C)(hb:attributeBase o "get" ai (eval o ai)=eval o ai)(he:isStarred e=false)(hf:isStarred f=false)(vC:(pY.endLine==pos.line)=true)(hx:SE C N P c d b ai x o)(hy:SE C N P c d b ai y e)(hz:SE C N P c d b ai z f):
  SE C N P c d b ai (.sy x y z) (.Call (.Attribute o "get" pY) [e,f] [] pos):=fun ρ σ v aK h A E s β R S F=>by
 refine bB h fun ov σ1 e1 h=> ?_
 refine lK h fun hL h=> ?_
 refine bB h fun kv aX e2 h=> ?_
 refine bB h fun dv kU e3 h=> ?_
 refine sj h fun w e4 h=> ?_
 refine kT h ?_
 have iW:[e,f].all (fun e=> !isStarred e)=true:=by simp[he,hf]
 refine j9 hb iW (gP rfl) vC (bH.cont (hx ρ σ ov σ1 e1 A E s β R S F) fun r1 s1 bL bw S1 mR=> ?_)
 refine d7 (Wv S1 hL mR) fun a ob q2 g hc hd=> ?_;subst q2
 refine⟨.builtin "dict.get",[.ref a],fun pl Q' hq=>getMethod_builtin ⟨_,g,hc⟩ PySem.F.plainAttrs_dict PySem.F.slot_dict_get PySem.F.type_dict_get (fun a e=>by cases e;exact⟨_,g,hd⟩) hq,?_⟩
 refine Calls.callWith_builtin (f9 iW ai pos) ?_
 refine dW (mh hy (mh hz sR hf) he) rfl iW (Qu e2 e3) R S1 (F.step S bw) fun us s2 iD bS S2 rr=> ?_
 refine aW rr fun u t q2 ru rt=> ?_;subst q2
 refine aW rt fun u2 t2 q2 ru2 rt2=> ?_;subst q2
 cases rt2
 refine DR (fun _ n es=>if kv.kind !=0&&(n==0||kv.kind==n)then some ((aT kv es).getD dv)else none) e4 fun i k es eo e5 e4=>lK e4 fun hk e4=> ?_
 have Ip:aL C s2.heap iD (.ref i) (.ref a):=eo▸bS.ux S1 mR
 refine fD (S2.get e5 Ip) fun ad jA Ri Z K Es g2 Ih=>dw (K.any hk) fun k1 k2=> ?_
 cases Ri
 exact yh (S2.lX ok jA) g2 Ih K k1 k2 ru ru2 (fR R.units) fun tk r q=>.after (bw.trans bS) (.iU S2 (ig e4▸q))
end
end
section
theorem kN{α:Type}{r:α->α->Prop}(acr:∀a b,r a b->r b a->a=b):∀{l1 l2:List α},l1.Perm l2->l1.Pairwise r->l2.Pairwise r->l1=l2
 |[],l2,h,_,_=>h.symm.eq_nil.symm
 |a::t,[],h,_,_=>h.eq_nil
 |a::t,b::u,h,h1,h2=>by
  refine dw (sG.mp h1) fun p1 p2=> ?_
  refine dw (sG.mp h2) fun q1 q2=> ?_
  have e:a=b:=by
   rcases cH.mp (h.mem_iff.mp (List.mem_cons_self (a:=a) (l:=t)))with e|m1
   ·exact e
   ·rcases cH.mp (h.mem_iff.mpr (List.mem_cons_self (a:=b) (l:=u)))with e|m2
    ·exact e.symm
    ·exact acr _ _ (p1 _ m2) (q1 _ m1)
  subst e
  rw[kN acr (List.Perm.cons_inv h) p2 q2]
theorem rK(x:V):∀l:List V,(Gm x l).Perm (x::l)
 |[]=>.refl _
 |y::r=>by
  rw[ET]
  split
  ·exact .refl _
  ·exact((rK x r).cons y).trans (List.Perm.swap x y r)
theorem xg:∀(xs bV:List V),(xs.foldl (fun bV x=>Gm x bV) bV).Perm (xs++bV)
 |[],bV=>.refl _
 |x::r,bV=>by
  refine(xg r (Gm x bV)).trans ?_
  refine(List.Perm.append_left r (rK x bV)).trans ?_
  exact List.perm_middle
theorem gp(xs:List V):(qW xs).Perm xs:=by have:=xg xs [];rw[lU]at this;exact this
noncomputable def Ii(a b:V):Prop:=V.lt b a=false
structure Jz(p:V->Bool):Prop where
 trans:∀a b c,p a=true->p b=true->p c=true->V.lt a b=true->Ii b c->Ii a c
 acq:∀a b,p a=true->p b=true->Ii a b->Ii b a->a=b
 aeJ:∀a b,p a=true->p b=true->V.lt a b=true->Ii a b
theorem xj{p:V->Bool}(F:Jz p){x:V}(hx:p x=true):∀{l:List V},(∀y∈l,p y=true)->l.Pairwise Ii->(Gm x l).Pairwise Ii
 |[],_,_=>List.pairwise_singleton _ _
 |y::r,hp,h=>by
  refine dw (sG.mp h) fun h1 h2=> ?_
  rw[ET]
  split
  ·rename_i hl
   refine sG.mpr ⟨fun z hz=> ?_,h⟩
   rcases cH.mp hz with rfl|hz
   ·exact F.aeJ _ _ hx (hp _ (.head _)) hl
   ·exact F.trans _ _ _ hx (hp _ (.head _)) (hp _ (.tail _ hz)) hl (h1 _ hz)
  ·rename_i hl
   refine sG.mpr ⟨fun z hz=> ?_,xj F hx (fun y hy=>hp y (.tail _ hy)) h2⟩
   rcases cH.mp ((rK x r).mem_iff.mp hz)with rfl|hz
   ·exact Bool.eq_false_iff.mpr hl
   ·exact h1 _ hz
theorem t8{p:V->Bool}(F:Jz p):∀(xs bV:List V),(∀y∈xs,p y=true)->(∀y∈bV,p y=true)->bV.Pairwise Ii->(xs.foldl (fun bV x=>Gm x bV) bV).Pairwise Ii
 |[],_,_,_,h=>h
 |x::r,bV,h1,h2,h=>t8 F r _ (fun y hy=>h1 y (.tail _ hy)) (fun y hy=>by
   rcases cH.mp ((rK x bV).mem_iff.mp hy)with rfl|hy
   ·exact h1 _ (.head _)
   ·exact h2 _ hy) (xj F (h1 _ (.head _)) h2 h)
theorem rQ{p:V->Bool}(F:Jz p){xs:List V}(h:∀y∈xs,p y=true):(qW xs).Pairwise Ii:=t8 F xs [] h (by simp) .nil
noncomputable def NE:V->Bool
 | .int _=>true
 |_=>false
noncomputable def ND:V->Bool
 | .str _=>true
 |_=>false
theorem NC{v:V}{G:Prop}(h:NE v=true)(k:∀i,v=.int i->G):G:=by
 cases v with
 |int i=>exact k i rfl
 |_=>exact nomatch h
theorem NB{v:V}{G:Prop}(h:ND v=true)(k:∀i,v=.str i->G):G:=by
 cases v with
 |str i=>exact k i rfl
 |_=>exact nomatch h
theorem So:Jz NE:=by
 refine⟨fun a b c ha hb hc h1 h2=>NC ha fun i ea=>NC hb fun j eb=>NC hc fun k ec=> ?_,fun a b ha hb h1 h2=>NC ha fun i ea=>NC hb fun j eb=> ?_,fun a b ha hb h=>NC ha fun i ea=>NC hb fun j eb=> ?_⟩
 ·subst ea eb ec
  exact fH fun q=>of_decide_eq_false h2 (Int.lt_trans q (jx h1))
 ·subst ea eb
  exact congrArg V.int (Int.le_antisymm (Int.not_lt.mp (of_decide_eq_false h1)) (Int.not_lt.mp (of_decide_eq_false h2)))
 ·subst ea eb
  exact fH (Int.lt_asymm (jx h))
theorem Sn:Jz ND:=by
 refine⟨fun a b c ha hb hc h1 h2=>NB ha fun i ea=>NB hb fun j eb=>NB hc fun k ec=> ?_,fun a b ha hb h1 h2=>NB ha fun i ea=>NB hb fun j eb=> ?_,fun a b ha hb h=>NB ha fun i ea=>NB hb fun j eb=> ?_⟩
 ·subst ea eb ec
  exact fH fun q=>of_decide_eq_false h2 (List.lt_trans q (jx h1))
 ·subst ea eb
  exact congrArg V.str (List.le_antisymm (List.not_lt.mp (of_decide_eq_false h1)) (List.not_lt.mp (of_decide_eq_false h2)))
 ·subst ea eb
  exact fH (List.lt_asymm (jx h))
theorem mO:∀(l:List Str) (p:Str),risingS p l=true->(p::l).Pairwise fun a b=>¬b.cps.toList<a.cps.toList
 |[],p,_=>by simp
 |x::r,p,h=>by
  have h':(!PySem.Spec.ltCps x.cps.toList p.cps.toList&&risingS x r)=true:=h
  rw[dX,zV,ltCps_eq,decide_eq_false_iff_not]at h'
  have ih:=mO r x h'.2
  refine sG.mpr ⟨fun z hz=> ?_,ih⟩
  rcases cH.mp hz with rfl|hz
  ·exact h'.1
  ·have h1:=(sG.mp ih).1 z hz
   exact List.not_lt.mpr (List.le_trans (List.not_lt.mp h'.1) (List.not_lt.mp h1))
theorem tN(l:List Str)(h:sortedS l=true):l.Pairwise fun a b=>¬b.cps.toList<a.cps.toList:=by
 cases l with
 |nil=>exact .nil
 |cons x r=>exact mO r x h
theorem EG{xs:List V}(h:Ak xs=true):∀y∈xs,NE y=true:=fun y hy=>by
 have:=dG.mp h y hy
 cases y<;>exact this
theorem EF{xs:List V}(h:DZ xs=true):∀y∈xs,ND y=true:=fun y hy=>by
 have:=dG.mp h y hy
 cases y<;>exact this
section
variable{C:Cx}{N:bz C}{P:b5}{c:Calls}{d:Nat}{b:Bool}{ai:Env}{β:Bt}{σ:H}{s:Shared}{A:Around}{E:Value->Shared->Prop}{xs:List V}
theorem wQ{h:Heap}:∀{xs:List V} {vs:List Value},(∀y∈xs,NE y=true)->aB C h β xs vs->∃ns,IntsAre vs ns/\xs=ns.map V.int
 |[],_,_,r=>by cases r;exact⟨[],.nil,rfl⟩
 |x::xs,_,hi,r=>aW r fun v t e a r=>aD (wQ (fun y hy=>hi y (.tail _ hy)) r) fun ns h1 h2=>NC (hi x (.head _)) fun i ei=>by
  rw[ei]at a⊢
  exact bR a fun tk q1=>⟨i::ns,by rw[e,q1];exact .cons i tk h1,by rw[h2];rfl⟩
theorem wP{h:Heap}:∀{xs:List V} {vs:List Value},(∀y∈xs,ND y=true)->aB C h β xs vs->∃ss:List (List Nat),StrsAre vs (ss.map fun l=>⟨l.toArray⟩)/\xs=ss.map V.str
 |[],_,_,r=>by cases r;exact⟨[],.nil,rfl⟩
 |x::xs,_,hi,r=>aW r fun v t e a r=>aD (wP (fun y hy=>hi y (.tail _ hy)) r) fun ns h1 h2=>NB (hi x (.head _)) fun i ei=>by
  rw[ei]at a⊢
  exact bR a fun tk q1=>⟨i::ns,by rw[e,q1];exact .cons _ tk h1,by rw[h2];rfl⟩
theorem xh{h:Heap}:∀{vs:List Value} {ns:List Int},IntsAre vs ns->aB C h β (ns.map V.int) vs
 |_,_,.nil=>rfl
 |_,_,.cons n t r=>⟨_,_,rfl,⟨t,rfl⟩,xh r⟩
theorem wM{h:Heap}:∀{vs:List Value} {ss:List Str},StrsAre vs ss->aB C h β (ss.map fun x=>V.str x.cps.toList) vs
 |_,_,.nil=>rfl
 |_,_,.cons x t r=>⟨_,_,rfl,⟨t,by rfl⟩,wM r⟩
theorem Dc{u:Value}{Q:Value->Shared->Prop}(hc:∀(R:List Value->Shared->Prop),(∀h' tk vs,(∀b o,s.heap.get? b=some o->h'.get? b=some o)->s.heap.objs.size<=h'.objs.size->aB C h' β xs vs->R vs {s with heap:=h',toks:=tk})->wpAny (model C.prog C.w) A.in1 (collect u) R (fun e s'=>False) s)
  (h64:xs.length<64)(hk:(∀y∈xs,NE y=true)\/(∀y∈xs,ND y=true))
  (h:∀h' tk a n vs,(∀b o,s.heap.get? b=some o->h'.get? b=some o)->s.heap.objs.size<=h'.objs.size->s.heap.objs.size<=a->h'.get? a=some (W.listOf (List.toArray vs) n)->aB C h' β (qW xs) vs->Q (.ref a) {s with heap:=h',toks:=tk}):
  wpAny (model C.prog C.w) A (call (.builtin "sorted") [u]) Q E s:=by
 refine Calls.call_function_entry kind_sorted plain_sorted entry_sorted (args_sorted1 _) ?_
 refine bK (m:=checkCount "sorted" 1 1 _) (cW ?_)
 refine bK (dN (hc _ ?_) (fun Z Z x=>x) fun Z Z x=>x.elim)
 intro h' tk vs hkp hsz rr
 have lv:vs.length<64:=by rw[rr.length];exact h64
 refine bK (wpAny_newList (hsz:=by exact(GR lv rfl)) ?_)
 have Zm:(h'.push (seqObj "list" vs.toArray 0)).get? h'.objs.size=some (seqObj "list" vs.toArray 0):=sH _ rfl
 have fm:∀(cz:Array Value),aB C (sortedHeap (h'.push (seqObj "list" vs.toArray 0)) h'.objs.size vs cz) β (qW xs) cz.toList->Q (.ref h'.objs.size) {s with heap:=sortedHeap (h'.push (seqObj "list" vs.toArray 0)) h'.objs.size vs cz,toks:=tk}:=by
  intro cz ro
  refine bR (sortedHeap_at (out:=cz) Zm) fun e he=> ?_
  refine h _ tk _ e cz.toList (fun b o hb=> ?_) ?_ hsz ?_ ro
  ·have hb':=hkp b o hb
   have Iu:=jr hb'
   rw[sortedHeap_old (qR Iu) (by rw[j3];exact Nat.lt_succ_of_lt Iu)]
   exact k8 _ hb'
  ·unfold sortedHeap
   simp only[Heap.size_update,j3]
   exact(uZ (aZ hsz) (VH))
  ·rw[he]
 rcases hk with hk|hk
 ·refine aD (wQ hk rr) fun ns hI q2=> ?_;subst q2
  refine bK (j0 (yc slot_list_sort ⟨_,Zm,rfl⟩ entry_list_sort (list_sort_tree (s:={s with heap:=h'.push (seqObj "list" vs.toArray 0),toks:=tk}) Zm hI lv fun cz Gj a1 a2 a3=>⟨_,rfl,?_⟩) (args_list_sort _)))
  refine cW ⟨_,rfl,fm cz ?_⟩
  have e:qW (ns.map V.int)=Gj.map V.int:=by
   refine kN (r:=fun a b=>Ii a b/\NE a=true/\NE b=true) (fun a b p q=>So.acq a b p.2.1 p.2.2 p.1 q.1) ((gp _).trans (a2.symm.map V.int)) ?_ ?_
   ·refine(rQ So hk).imp_of_mem fun m1 m2 q=>⟨q,?_,?_⟩
    ·exact hk _ ((gp _).mem_iff.mp m1)
    ·exact hk _ ((gp _).mem_iff.mp m2)
   ·refine List.pairwise_map.mpr (a3.imp fun q=>⟨?_,rfl,rfl⟩)
    exact fH (by lia)
  rw[e]
  exact xh a1
 ·refine aD (wP hk rr) fun ss hS q2=> ?_;subst q2
  refine bK (j0 (yc slot_list_sort ⟨_,Zm,rfl⟩ entry_list_sort (list_sort_treeK (s:={s with heap:=h'.push (seqObj "list" vs.toArray 0),toks:=tk}) strKind_oneLt Zm hS.keysOf (fun v1 v2 rest e=>keyKind_strs (by rw[<-e];exact hS)) lv fun Nu hp hs=>⟨_,rfl,?_⟩) (args_list_sort _)))
  refine dF (sorted_out_str hS hp hs) fun ss' h1 h2 h3=> ?_
  refine cW ⟨_,rfl,fm _ ?_⟩
  have e:qW (ss.map V.str)=ss'.map fun x=>V.str x.cps.toList:=by
   have pm:(ss'.map fun x=>V.str x.cps.toList).Perm (ss.map V.str):=by
    have:=h2.map (fun x:Str=>V.str x.cps.toList)
    simpa[List.map_map,Function.comp_def]using this
   refine kN (r:=fun a b=>Ii a b/\ND a=true/\ND b=true) (fun a b p q=>Sn.acq a b p.2.1 p.2.2 p.1 q.1) ((gp _).trans pm.symm) ?_ ?_
   ·refine(rQ Sn hk).imp_of_mem fun m1 m2 q=>⟨q,?_,?_⟩
    ·exact hk _ ((gp _).mem_iff.mp m1)
    ·exact hk _ ((gp _).mem_iff.mp m2)
   ·refine List.pairwise_map.mpr ((tN _ h3).imp fun q=>⟨?_,rfl,rfl⟩)
    exact fH q
  rw[e]
  exact wM h1
theorem Eo{es:List (V×V)}{Es:List DictEntry}{bV:Array Value}{h:Heap}{s0:Shared}(rr:bA C s0.heap β es Es)(hk:∀e∈es,e.1.kind=1)(hI:ItemsOf (fun i v=>∃k x,(dJ es Es)[i]? =some (k,x)/\(intKind C.prog C.w).is k v=true) bV (dJ es Es).length):
  aB C h β (es.map (·.1)) bV.toList:=by
 have key:∀(ks:List V) (af:List (Int×Value)) (vs:List Value),ks=af.map (fun p=>V.int p.1)->vs.length=af.length->(∀(j:Nat) (v:Value),vs[j]? =some v->∃k x,af[j]? =some (k,x)/\(intKind C.prog C.w).is k v=true)->aB C h β ks vs:=by
  intro ks af
  induction af generalizing ks with
  |nil=>intro vs e hl _;subst e;cases vs with
   |nil=>rfl
   |cons=>simp at hl
  |cons r af ih=>
   intro vs e hl hv
   subst e
   cases vs with
   |nil=>simp at hl
   |cons v vs=>
    refine lu (hv 0 v rfl) fun k x hr hi=> ?_
    simp at hr
    refine⟨v,vs,rfl,?_,ih _ vs rfl (by simpa using hl) fun j w hw=>hv (j+1) w (hw)⟩
    cases v with
    |int i t=>
     have:i=k:=by simpa[intKind,Value.isInt]using hi
     subst this
     exact⟨t,by rw[hr]⟩
    |_=>simp[intKind,Value.isInt]at hi
 refine key _ (dJ es Es) bV.toList (qy rr hk).symm (by exact hI.1) fun j v hj=>hI.2 j v (by rw[<-Array.getElem?_toList];exact hj)
theorem aB.aat{h h2:Heap}{iD:Bt}:∀{xs:List V} {vs:List Value},(∀y∈xs,NE y=true\/ND y=true)->aB C h β xs vs->aB C h2 iD xs vs
 |[],_,_,r=>r
 |x::xs,_,hi,r=>aW r fun v t e a r=>⟨v,t,e,(hi x (.head _)).elim (fun q=>NC q fun i ei=>by rw[ei]at a⊢;exact a) (fun q=>NB q fun i ei=>by rw[ei]at a⊢;exact a),aB.aat (fun y hy=>hi y (.tail _ hy)) r⟩
theorem uO{a:Addr}{k:Nat}{es:List (V×V)}{Es:List DictEntry}(g:s.heap.get? a=some (dictOf Es Es.length))(rr:bA C s.heap β es Es)(K:dZ k es)(hz:k=1\/k=0):(∀e∈es,e.1.kind=1)/\s.heap.DictAt (intKind C.prog C.w) a (dJ es Es) es.length:=by
 have TP:∀e∈es,e.1.kind=1:=fun p hp=>hz.elim (fun q=>q▸K.kind p hp) fun q=>absurd q (K.Ul (List.ne_nil_of_mem hp))
 refine⟨TP,Ew (qz (C:=C) g rr TP K.vt) fun ob Rk ep d1 d2 d3 d4 d5 d6=> ?_⟩
 have q:dictOf Es Es.length=ob:=ig (g.symm.trans d1)
 subst q
 cases d3
 exact rr.length▸⟨_,_,d1,d2,rfl,d4,d5,d6⟩
theorem VW(ok:cN C)(S:bG C s.heap β σ){o:V}{u:Value}{ys:List V}(hA:A.handled=none)(h1:ny σ o=some xs)(h2:sorted xs=some ys)(ru:aL C s.heap β o u):
  wpAny (model C.prog C.w) A (call (.builtin "sorted") [u]) (bH C β s (.ref σ.length) (σ++[.list ys])) E s:=by
 refine lK h2 fun hq h2=>xF h2 ?_
 rw[dX,je,lW]at hq
 have hk:(∀y∈xs,NE y=true)\/(∀y∈xs,ND y=true):=hq.1.imp EG EF
 refine Dc (β:=β) (xs:=xs) (fun R hR=> ?_) hq.2 hk fun h' tk a n vs k1 k2 k3 k4 k5=>bH.list S k1 k2 k3 k4 (aB.aat (fun y hy=> ?_) k5)
 ·have seq:∀(c:Addr) (T:String) (hT:T="list"\/T="tuple") (ob:Obj) (vs:List Value) (m:Nat),s.heap.get? c=some ob->ob.cls=.type T->ob.data=.seq vs.toArray m->aB C s.heap β xs vs->wpAny (model C.prog C.w) A.in1 (collect (.ref c)) R (fun e s'=>False) s:=
   fun c T hT ob vs m ho hc hd rr=>dN (jR (wpAny_collect_seq (Q:=fun l s'=>∃h',s'={s with heap:=h'}/\l=vs/\∀b o,s.heap.get? b=some o->h'.get? b=some o) c hT ho hc hd (fun h' hk=>⟨h',rfl,rfl,hk⟩) (by rw[mY,rr.length,sizeLine_eq];exact(GR hq.2 rfl))))
    (fun l s' u=>DV u fun hz h' q2 q3 Iv=>by subst q2;subst q3;exact hR h' s.toks l Iv hz (aB.keep (rG Iv) (fun Z Z e=>e) _ _ rr)) fun Z Z x=>x
  refine Wr h1 (fun eo=> ?_) (fun i eo e=> ?_) fun i k es eo e hz ex=> ?_
  all_goals rw[eo]at ru
  ·exact aW ru fun c vs q2 u1 rr=>nJ u1 fun ob ho hc m hd=>q2▸seq c _ (.inr rfl) ob vs m ho hc hd rr
  ·exact dm (S.get e ru) fun ad jA q2 Z vs n g rr=>q2▸seq ad.1 _ (.inl rfl) _ vs n g rfl rfl rr
  ·refine fD (S.get e ru) fun ad jA q2 Z K Es g rr=>dw (uO g rr K hz) fun TP TU=> ?_
   rw[q2]
   have len:(dJ es Es).length<=sizeLine:=by rw[iP rr,sizeLine_eq,<-fU,ex];exact(GR hq.2 rfl)
   exact dN (jR (kdu_collect (R:=fun l s'=>∃h' tk,s'={s with heap:=h',toks:=tk}/\(∀b o,s.heap.get? b=some o->h'.get? b=some o)/\aB C h' β (es.map (·.1)) l) (kdl_dict (prog:=C.prog) (w:=C.w) (S.lX ok jA)) hA TU len
    (fun h' tk bV Iv hI=>⟨h',tk,rfl,Iv,Eo rr TP hI⟩))) (fun l s' u=>FY u fun hz h' tk q3 Iv Io=>by subst q3;exact hR h' tk l Iv hz (ex▸Io)) fun Z Z x=>x
 ·have:=(gp xs).mem_iff.mp hy
  exact hk.imp (fun q=>q y this) fun q=>q y this
theorem QZ{x:Ex}{e:Expr}{n:Str}{p1 pos}(ok:cN C)(hx:ai.kindOf n=some .globalImplicit)(hd:(n==("__debug__":Str))=false)(hg:C.mg n=none)(hb:C.mb n=some (.builtin "sorted"))(he:isStarred e=false)
  (hs:SE C N P c d b ai x e):SE C N P c d b ai (.pB x) (.Call (.Name n p1) [e] [] pos):=
 Gf ok hx hd hg hb he hs fun ρ σ v aK h=>by
  refine bB h fun o σ1 e1 h=> ?_
  refine GK h fun xs e2 h=> ?_
  refine GK h fun ys e3 h=> ?_
  refine kT h ?_
  exact⟨o,σ1,e1,fun A E s β u R S ru=>VW ok S R.1 e2 e3 ru⟩
end
end
section
noncomputable def FX(ai:Env)(a:Addr):Prop:=a=ai.locals\/∃n,(n,a)∈ai.cells
noncomputable def Gg(C:Cx)(h:Heap)(β:Bt):Fl->Flow->Prop
 | .next,fl=>fl=.next
 | .ret v,fl=>∃u,fl=.ret u/\aL C h β v u
noncomputable def tT(C:Cx)(N:bz C)(ai:Env)(β:Bt)(s:Shared)(f:Fl)(be:aO)(aK:H)(fl:Flow)(s':Shared):Prop:=
 ∃bP,aM (FX ai) β s bP s'/\bG C s'.heap bP aK/\aF C N s' bP ai be/\Gg C s'.heap bP f fl
section
variable{C:Cx}{N:bz C}{P:b5}{c:Calls}{d:Nat}{b:Bool}{ai:Env}{β bL:Bt}{σ σ1:H}{s s1:Shared}{A:Around}{E:Value->Shared->Prop}{ρ:aO}{h h':Heap}
theorem iN{a:Addr}(hs:Heap.SameBut a h h')(ht:∀ao,¬IsTup h a ao):∀b ao,IsTup h b ao->IsTup h' b ao:=fun b ao t=>by
 have:b≠a:=fun q=>ht ao (q▸t)
 refine aD t fun o ho r=> ?_
 exact⟨o,(hs.2 b this).trans ho,r⟩
theorem aM.aE{X:Addr->Prop}{a:Addr}{tk:Nat}(hs:Heap.SameBut a s.heap h')(hX:Fp β a\/X a):aM X β s β {s with heap:=h',toks:=tk}:=
 .Nz (nk hs.1.symm) fun b o e hn=>(hs.2 b fun q=>hn (q▸hX)).trans e
theorem aL.cD{a:Addr}{v:V}{u:Value}(hs:Heap.SameBut a h h')(ht:∀ao,¬IsTup h a ao)(r:aL C h β v u):aL C h' β v u:=aL.keep (iN hs ht) (fun Z Z e=>e) _ _ r
theorem aB.cD{a:Addr}{v:List V}{u:List Value}(hs:Heap.SameBut a h h')(ht:∀ao,¬IsTup h a ao)(r:aB C h β v u):aB C h' β v u:=aB.keep (iN hs ht) (fun Z Z e=>e) _ _ r
theorem bG.cD{a:Addr}(S:bG C h β σ)(hs:Heap.SameBut a h h')(hf:¬Fp β a)(hb:C.eG.objs.size<=a)(ht:∀ao,¬IsTup h a ao):bG C h' β σ:=by
 refine⟨S.len,fun i o ad e1 e2=> ?_,S.apart,fun b o e=> ?_,S.new,hs.1▸S.uA⟩
 ·have n1:ad.1≠a:=fun q=>hf ⟨ad,S.mem e2,.inl q.symm⟩
  have n2:ad.2≠a:=fun q=>hf ⟨ad,S.mem e2,.inr q.symm⟩
  exact qN.keep (iN hs ht) (fun Z Z e=>e) (fun o e=>(hs.2 _ n1).trans e) (fun o e=>(hs.2 _ n2).trans e) (S.ob i o ad e1 e2)
 ·refine(hs.2 b fun q=> ?_).trans (S.ir b o e)
  subst q
  exact qj.mpr hb (jr e)
theorem lE{a:Addr}{m:Str->Option Value}(n:h.Ns a m):∀ao,¬IsTup h a ao:=fun ao ⟨o',Ik,_,k,Iw⟩=>by
 refine AI n fun o es ep ho hd Z=> ?_
 rw[ho]at Ik;cases Ik
 rw[hd]at Iw;cases Iw
theorem uc{a:Addr}{v:Option Value}(n:h.IsCell a v):∀ao,¬IsTup h a ao:=fun ao ⟨o',Ik,_,k,Iw⟩=>by
 refine aD n fun o ho hd=> ?_
 rw[ho]at Ik;cases Ik
 rw[hd]at Iw;cases Iw
theorem qZ{x:Nat}{v:V}{u:Value}(S:bG C s.heap β σ)(F:aF C N s β ai ρ)(hx:N.ok x=true)(hk:ai.kindOf (C.nm x)=some .local)(rv:aL C s.heap β v u){Q:Unit->Shared->Prop}
  (h:∀s',aM (fun a=>a=ai.locals) β s β s'->bG C s'.heap β σ->aF C N s' β ai ((x,v)::ρ)->Q () s'):wpAny (model C.prog C.w) A (storeName ai (C.nm x) u) Q E s:=by
 refine eH F.ah fun m ns hf hb hv=>wpAny_storeName_local hk ns (fun h' Gj hs=> ?_) (by rw[F.kind];rfl)
 have ht:=lE ns
 refine h _ (.aE hs (.inr rfl)) (S.cD hs hf hb ht) ⟨F.kind,F.aC,F.blt,fun y w e=>sL e (fun q _=>q▸hx) fun _ e=>F.names y w e,⟨_,Gj,hf,hb,fun y w e=>sL e (fun q e=> ?_) fun ne e=> ?_⟩,fun y c hm=> ?_,F.apart⟩
 ·rw[q,<-e];exact⟨u,rv.cD hs ht,.inl ⟨hk,aI rfl⟩⟩
 ·exact aD (hv y w e) fun w' rw q=>⟨w',rw.cD hs ht,q.imp (fun q=>⟨q.1,(aG fun q=>ne (N.inj y x (F.names y w e) hx q)).trans q.2⟩) fun u=>Sv u fun k c hc ic=>⟨k,c,hc,ic.sameBut hs (F.cells _ _ (qk hc)).2.1⟩⟩
 ·exact l0 (F.cells y c hm) fun h1 h2 h3 v ic=>⟨h1,h2,h3,v,ic.sameBut hs h2⟩
theorem Aq{x:Nat}{v:V}{u:Value}(S:bG C s.heap β σ)(F:aF C N s β ai ρ)(hx:N.ok x=true)(hk:ai.kindOf (C.nm x)=some .local\/(ai.kindOf (C.nm x)=some .cell/\(ai.cells.lookup (C.nm x)).isSome=true))(rv:aL C s.heap β v u){Q:Unit->Shared->Prop}
  (h:∀s',aM (FX ai) β s β s'->bG C s'.heap β σ->aF C N s' β ai ((x,v)::ρ)->Q () s'):wpAny (model C.prog C.w) A (storeName ai (C.nm x) u) Q E s:=by
 refine hk.elim (fun hk=>qZ S F hx hk rv fun s' st=>h s' (st.dP fun _=>.inl)) fun⟨hk,hc⟩=>bR (zW.mp hc) fun c Gn=> ?_
 have Ni:=qk Gn
 refine l0 (F.cells _ _ Ni) fun h1 h2 h3 v0 ic=>wpAny_storeName_cell F.kind hk Gn ic fun h' ic' hs=> ?_
 have ht:=uc ic
 refine eH F.ah fun m ns hf hb hv=>h {s with heap:=h'} (.aE hs (.inr (.inr ⟨_,Ni⟩))) (S.cD hs h1 h3 ht) ⟨F.kind,F.aC,F.blt,fun y w e=>sL e (fun q _=>q▸hx) fun _ e=>F.names y w e,⟨m,?_,hf,hb,fun y w e=>sL e (fun q e=> ?_) fun ne e=> ?_⟩,fun y c2 hm=> ?_,F.apart⟩
 ·exact sN ns fun o es n ho r=>⟨o,es,n,(hs.2 _ (Ne.symm h2)).trans ho,r⟩
 ·rw[q,<-e];exact⟨u,rv.cD hs ht,.inr ⟨.inl hk,c,Gn,ic'⟩⟩
 ·exact aD (hv y w e) fun w' rw q=>⟨w',rw.cD hs ht,q.imp id fun u=>Sv u fun k c2 hc2 ic2=>⟨k,c2,hc2,ic2.sameBut hs fun q=>ne (N.inj y x (F.names y w e) hx (name_of_addr F.apart (q▸qk hc2) Ni))⟩⟩
 ·refine l0 (F.cells y c2 hm) fun k1 k2 k3 v ic2=>⟨k1,k2,k3,?_⟩
  by_cases q:c2=c
  ·rw[q];exact⟨_,ic'⟩
  ·exact⟨v,ic2.sameBut hs q⟩
theorem aM.qK(st:aM kQ β s bL s1):aM (FX ai) β s bL s1:=st.dP fun Z h=>h.elim
noncomputable def BO(C:Cx)(N:bz C)(ai:Env)(x:Nat):Prop:=N.ok x=true/\(ai.kindOf (C.nm x)=some .local\/(ai.kindOf (C.nm x)=some .cell/\(ai.cells.lookup (C.nm x)).isSome=true))
noncomputable def SS(C:Cx)(N:bz C)(P:b5)(c:Calls)(d:Nat)(ai:Env)(x:St)(st:Stmt):Prop:=
 ∀(ρ:aO) (σ:H) (f:Fl) (be:aO) (aK:H),exS P c x ρ σ=some (f,be,aK)->∀(A:Around) (E:Value->Shared->Prop) (s:Shared) (β:Bt),gO d false A->bG C s.heap β σ->aF C N s β ai ρ->
  wpAny (model C.prog C.w) A (exec st ai) (tT C N ai β s f be aK) E s
noncomputable def ID(C:Cx)(N:bz C)(P:b5)(c:Calls)(d:Nat)(ai:Env)(xs:List St)(Bb:List Stmt):Prop:=
 ∀(ρ:aO) (σ:H) (f:Fl) (be:aO) (aK:H),kW P c xs ρ σ=some (f,be,aK)->∀(A:Around) (E:Value->Shared->Prop) (s:Shared) (β:Bt),gO d false A->bG C s.heap β σ->aF C N s β ai ρ->
  wpAny (model C.prog C.w) A (execs Bb ai) (tT C N ai β s f be aK) E s
theorem tT.after{f:Fl}{be:aO}{aK:H}{fl:Flow}{s2:Shared}(a:aM (FX ai) β s bL s1)(h:tT C N ai bL s1 f be aK fl s2):tT C N ai β s f be aK fl s2:=
 let⟨bP,x,y⟩:=h;⟨bP,a.trans x,y⟩
theorem QM:ID C N P c d ai [] []:=fun ρ σ f be aK h A E s β R S F=>by
 refine Ij h ?_
 exact cW ⟨β,.rfl',S,F,rfl⟩
theorem MV{x:St}{xs:List St}{st:Stmt}{Bb:List Stmt}(hx:SS C N P c d ai x st)(hs:ID C N P c d ai xs Bb):ID C N P c d ai (x::xs) (st::Bb):=fun ρ σ f be aK h A E s β R S F=>by
 refine adp h (fun cu σ1 e1 h=> ?_) fun v cu σ1 e1 h=> ?_
 ·refine wpAny_execs_cons (dN (hx ρ σ _ cu σ1 e1 A E s β R S F) (fun fl s1 q=> ?_) fun Z Z x=>x)
  refine eH q fun bL bw S1 F1 fr=> ?_
  cases fr
  exact dN (hs cu σ1 f be aK h A E s1 bL R S1 F1) (fun fl s2 q=>q.after bw) fun Z Z x=>x
 ·refine Ij h ?_
  refine wpAny_execs_cons (dN (hx ρ σ _ cu σ1 e1 A E s β R S F) (fun fl s1 q=> ?_) fun Z Z x=>x)
  refine MC q fun bL bw S1 F1 u q5 ru=> ?_;subst q5
  exact⟨bL,bw,S1,F1,u,rfl,ru⟩
theorem X9{x:Ex}{e:Expr}{pos}(hx:SE C N P c d false ai x e):SS C N P c d ai (.ret x) (.Return (some e) pos):=fun ρ σ f be aK h A E s β R S F=>by
 refine bB h fun v σ1 e1 h=> ?_
 refine Ij h ?_
 refine bK (sF ?_)
 exact bK (bH.cont (hx ρ σ v σ1 e1 A E s β R S F) fun r s1 bL bw S1 rr=>cW ⟨bL,bw.qK,S1,F.step S bw,r,rfl,rr⟩)
theorem QN{pos}:SS C N P c d ai (.ret (.cst .none)) (.Return none pos):=fun ρ σ f be aK h A E s β R S F=>by
 refine Ij h ?_
 exact bK (sF (cW ⟨β,.rfl',S,F,.none,rfl,rfl⟩))
theorem Yb{t:Cd}{xs ys:List St}{e:Expr}{as bs:List Stmt}{pos}(ht:SC C N P c d false ai t e)(hx:ID C N P c d ai xs as)(hy:ID C N P c d ai ys bs):SS C N P c d ai (.ifs t xs ys) (.If e as bs pos):=fun ρ σ f be aK h A E s β R S F=>by
 refine yx h fun tb σ1 e1 h=> ?_
 refine bK (sF (bK (jF.cont (ht ρ σ tb σ1 e1 A E s β R S F) fun s1 bL bw S1=> ?_)))
 have F1:=F.step S bw
 cases tb with
 |true=>exact dN (hx ρ σ1 f be aK h A E s1 bL R S1 F1) (fun fl s2 q=>q.after bw.qK) fun Z Z x=>x
 |false=>exact dN (hy ρ σ1 f be aK h A E s1 bL R S1 F1) (fun fl s2 q=>q.after bw.qK) fun Z Z x=>x
theorem Yd{x:Nat}{y:Ex}{e:Expr}{n:Str}{p1 pos}(hn:n=C.nm x)(hb:BO C N ai x)(hy:SE C N P c d false ai y e)(TM:swapsWith e (some (.Name n p1)) pos.line ai=pure false):
  SS C N P c d ai (.aQ (.nm x) y) (.Assign [.Name n p1] e pos):=fun ρ σ f be aK h A E s β R S F=>by
 subst hn
 refine bB h fun v σ1 e1 h=> ?_
 refine Ij h ?_
 refine wpAny_Assign_Name (bH.cont (hy ρ σ v σ1 e1 A E s β R S F) fun r s1 bL bw S1 rr=> ?_) TM
 exact Aq S1 (F.step S bw) hb.1 hb.2 rr fun s2 bS S2 F2=>⟨bL,bw.qK.trans bS,S2,F2,rfl⟩
end
end
section
inductive g7(C:Cx)(N:bz C)(ai:Env):List Nat->List Expr->Prop
 |nil:g7 C N ai [] []
 |cons {x:Nat} {xs:List Nat} {p:Pos} {es:List Expr}:BO C N ai x->g7 C N ai xs es->g7 C N ai (x::xs) (.Name (C.nm x) p::es)
section
variable{C:Cx}{N:bz C}{P:b5}{c:Calls}{d:Nat}{b:Bool}{ai:Env}{β bL:Bt}{σ σ1:H}{s s1:Shared}{A:Around}{E:Value->Shared->Prop}{ρ:aO}{h h':Heap}
theorem g7.len{xs:List Nat}{es:List Expr}(h:g7 C N ai xs es):es.length=xs.length/\(assignEach es ai).length=xs.length/\(assignEach es ai).findIdx? (·.1)=none:=by
 induction h with
 |nil=>exact⟨rfl,rfl,rfl⟩
 |cons _ _ ih=>
  refine iX ih fun h1 h2 h3=>⟨congrArg Nat.succ h1,congrArg Nat.succ h2,?_⟩
  show((false,_)::assignEach _ ai).findIdx? (·.1)=none
  rw[List.findIdx?_cons,h3];rfl
theorem tM(F:aF C N s β ai ρ):∀a ao,IsTup s.heap a ao->¬FX ai a:=fun a ao t=>by
 refine eH F.ah fun m ns hf Z Z=> ?_
 rintro(rfl|⟨nn,hm⟩)
 ·exact lE ns ao t
 ·refine l0 (F.cells _ _ hm) fun Z Z Z Z ic=> ?_
  exact uc ic ao t
theorem Hh{xs:List Nat}{es:List Expr}{Q:Unit->Shared->Prop}(ht:g7 C N ai xs es):∀{vs:List V} {us:List Value} {ρ:aO} {s:Shared},vs.length=xs.length->bG C s.heap β σ->aF C N s β ai ρ->aB C s.heap β vs us->
  (∀s',aM (FX ai) β s β s'->bG C s'.heap β σ->aF C N s' β ai ((xs.zip vs).reverse++ρ)->Q () s')->wpAny (model C.prog C.w) A (assignInOrder ((assignEach es ai).map (·.2)) us) Q E s:=by
 induction ht with
 |nil=>exact fun _ S F _ h=>cW (h _ .rfl' S F)
 |cons hb _ ih=>
  intro vs us ρ s hl S F r h
  cases vs with
  |nil=>exact nomatch hl
  |cons v vs=>
   refine aW r fun u ut q ru rt=> ?_
   rw[q]
   refine bK (j0 (wpAny_assign_Name (Aq S F hb.1 hb.2 ru fun s1 bw S1 F1=> ?_)))
   refine ih (Nat.succ.inj hl) S1 F1 (aB.keep (bw.ak S (tM F)) (fun Z Z e=>e) _ _ rt) fun s2 bS S2 F2=>h s2 (bw.trans bS) S2 ?_
   rw[List.zip_cons_cons,List.reverse_cons,List.append_assoc];exact F2
theorem BR{a:Addr}{us:List Value}{xs:List V}{elts:List Expr}{k p}{tg:List Nat}{Q:Unit->Shared->Prop}(hA:A.handled=none)(ht:g7 C N ai tg elts)(hl:xs.length=tg.length)(t1:IsTup s.heap a us.toArray)(r1:aB C s.heap β xs us)(S:bG C s.heap β σ)(F:aF C N s β ai ρ)
  (h:∀s',aM kQ β s β s'->bG C s'.heap β σ->aF C N s' β ai ρ->aB C s'.heap β xs us->wpAny (model C.prog C.w) A (assignInOrder ((assignEach elts ai).map (·.2)) us) Q E s'):wpAny (model C.prog C.w) A (assign (.Tuple elts k p) ai (.ref a)) Q E s:=by
 refine iX ht.len fun l1 l2 l3=> ?_
 rw[assign_Tuple]
 refine bK (sF ?_)
 unfold unpack
 have hsz:us.toArray.size=(assignEach elts ai).length:=by rw[mY,r1.length,l2];exact hl
 rw[l3,<-hsz]
 refine bK (j0 (dN (jR (unpackItems_tuple (Q:=fun l s'=>l=us/\∃h',s'={s with heap:=h'}/\Heap.ExtBut s.heap.objs.size s.heap h') hA t1 fun h' he=>⟨rfl,h',rfl,he⟩)) (fun l s2 u=>sO u fun hz q1 h' q3 he=> ?_) fun Z Z x=>x))
 have hk:∀a o,s.heap.get? a=some o->h'.get? a=some o:=fun a o e=>he a o (qR (jr e)) e
 have bS:aM kQ β s β s2:=by rw[q3];exact aM.EX (tk:=s.toks) hk (by rw[q3]at hz;exact hz)
 exact q1▸h s2 bS (by rw[q3]at hz⊢;exact S.keep hk hz) (F.step S bS) (bS.IJ S r1)
theorem wK{a:Addr}{us:List Value}{xs:List V}{elts:List Expr}{k p}{tg:List Nat}{Q:Unit->Shared->Prop}(hA:A.handled=none)(ht:g7 C N ai tg elts)(hl:xs.length=tg.length)(t1:IsTup s.heap a us.toArray)(r1:aB C s.heap β xs us)(S:bG C s.heap β σ)(F:aF C N s β ai ρ)
  (h:∀s',aM (FX ai) β s β s'->bG C s'.heap β σ->aF C N s' β ai ((tg.zip xs).reverse++ρ)->Q () s'):wpAny (model C.prog C.w) A (assign (.Tuple elts k p) ai (.ref a)) Q E s:=
 BR hA ht hl t1 r1 S F fun s2 bS S2 F2 r2=>Hh ht hl S2 F2 r2 fun s3 eV S3 F3=>h s3 (bS.qK.trans eV) S3 F3
theorem QU{xs:List Nat}{y:Ex}{e:Expr}{elts:List Expr}{k Uc pos}(ht:g7 C N ai xs elts)(hy:SE C N P c d false ai y e)
  (hs:swapsWithSole [.Tuple elts k Uc] e pos.line ai=pure false)(hw:swappedStores [.Tuple elts k Uc] e ai=pure none):
  SS C N P c d ai (.aQ (.ak xs) y) (.Assign [.Tuple elts k Uc] e pos):=fun ρ σ f be aK h A E s β R S F=>by
 refine bB h fun v σ1 e1 h1=>JF h1 fun cu aX e2 h2=> ?_
 cases v with
 |ak vs=>
  refine lK e2 fun hl e3=> ?_
  refine Ij h2 ?_
  refine kT e3 ?_
  exact Assign_Tuple (bH.cont (hy ρ σ _ _ e1 A E s β R S F) fun r s1 bL bw S1 rr=>aW rr fun a us q2 t1 r1=>q2▸wK R.1 ht hl.symm t1 r1 S1 (F.step S bw) fun s3 eV S3 F3=>⟨bL,bw.qK.trans eV,S3,F3,rfl⟩) hs hw
 |_=>exact bJ e2
theorem QX{x y:Ex}{a:Nat}{o e:Expr}{n:Str}{p1 pos}(ok:cN C)(cls:∀k,tU C N P k)(hP:P.gI=C.gI)(hn:n=C.nm a)(hx:SE C N P c d false ai x o)(hy:SE C N P c d false ai y e)(TM:swapsWith e (some (.Attribute o n p1)) pos.line ai=pure false):
  SS C N P c d ai (.aQ (.aq x a) y) (.Assign [.Attribute o n p1] e pos):=fun ρ σ f be aK h A E s β R S F=>by
 subst hn
 refine bB h fun v σ1 e1 h=>JF h fun cu aX e2 h=>bB e2 fun ov kU e3 e2=>Dv e2 fun TA e4 e2=> ?_
 revert h;refine kT e2 fun h=> ?_;refine Ij h ?_
 refine plainObj_wpAny_Assign_Attribute (bH.cont (hy ρ σ v σ1 e1 A E s β R S F) fun r s1 bL bw S1 rr=> ?_) TM
 refine bH.cont (hx ρ σ1 ov kU e3 A E s1 bL R S1 (F.step S bw)) fun r2 s2 iD bS S2 Ih=> ?_
 refine Km ok cls hP S2 e4 Ih (bS.ux S1 rr) fun s3 eV S3=>⟨iD,((bw.trans bS).trans eV).qK,S3,((F.step S bw).step S1 bS).step S2 eV,rfl⟩
theorem xe(ok:cN C)(S:bG C s.heap β σ){o k v:V}{u uk uv:Value}{aK:H}(hu:A.units+66<cLine)(hr:dD σ o k v=some aK)(ru:aL C s.heap β o u)(rk:aL C s.heap β k uk)(rv:aL C s.heap β v uv){Q:Unit->Shared->Prop}
  (h:∀s',aM kQ β s β s'->bG C s'.heap β aK->Q () s'):wpAny (model C.prog C.w) A (setItem u uk uv) Q E s:=by
 refine DR (fun i n es=>if(n==k.kind||n==0)&&k.kind !=0&&es.length<aJ then some (σ.set i (.dict k.kind (dM k v es)))else none) hr fun i n es eo e hr=>lK hr fun hc hr=> ?_
 rw[eo]at ru
 rw[dX,dX,bne_iff_ne,lW]at hc
 refine fD (S.get e ru) fun ad jA q2 e' K Es g rr=> ?_
 rw[q2]
 have hk:=K.aau hc.1.1
 refine xw g rr K hc.1.2 hk rk rv (fR hu) hc.2 fun tk h' Gy g' Io uf=> ?_
 refine h _ (aM.fN (tk:=tk) jA (.inl rfl) uf) (ig hr▸S.upd jA (.inl rfl) uf ⟨e',K.eX hc.1.2 hk,Gy,g',?_⟩)
 exact bA.keep (fun a ao t=>aD t fun ob TN q=>⟨ob,(uf.2 _ fun q=>S.fL t ⟨ad,S.mem jA,.inl q⟩).trans TN,q⟩) (fun Z Z e=>e) _ _ Io
theorem QV{x k y:Ex}{o i e:Expr}{p1 pos}(ok:cN C)(hx:SE C N P c d false ai x o)(hk:SE C N P c d false ai k i)(hy:SE C N P c d false ai y e)(TM:swapsWith e (some (.Subscript o i p1)) pos.line ai=pure false):
  SS C N P c d ai (.aQ (.sub x k) y) (.Assign [.Subscript o i p1] e pos):=fun ρ σ f be aK h A E s β R S F=>by
 refine bB h fun v σ1 e1 h=>JF h fun cu aX e2 h=>bB e2 fun ov kU e3 e2=>bB e2 fun kv TA e4 e2=>Dv e2 fun σ5 e5 e2=> ?_
 revert h;refine kT e2 fun h=> ?_;refine Ij h ?_
 refine wpAny_Assign_Subscript (bH.cont (hy ρ σ v σ1 e1 A E s β R S F) fun r s1 bL bw S1 rr=> ?_) TM
 have F1:=F.step S bw
 refine bH.cont (hx ρ σ1 ov kU e3 A E s1 bL R S1 F1) fun r2 s2 iD bS S2 Ih=> ?_
 have F2:=F1.step S1 bS
 refine bH.cont (hk ρ kU kv TA e4 A E s2 iD R S2 F2) fun r3 s3 Yz eV S3 Y0=> ?_
 refine xe ok S3 R.units e5 (eV.ux S2 Ih) Y0 ((bS.trans eV).ux S1 rr) fun s4 lJ S4=>⟨Yz,(((bw.trans bS).trans eV).trans lJ).qK,S4,(F2.step S2 eV).step S3 lJ,rfl⟩
theorem QO{x:Ex}{e:Expr}{pos}(hx:SE C N P c d false ai x e)(hi:interactive ai=false)(hs:swapsWith e none pos.line ai=pure false):SS C N P c d ai (.expr x) (.Expr e pos):=fun ρ σ f be aK h A E s β R S F=>by
 refine bB h fun v σ1 e1 h=> ?_
 refine Ij h ?_
 rw[arm_exec_Expr]
 refine bK (sF ?_)
 rw[hi,hs]
 show wpAny _ _ (do if<-(pure false:Sem Bool)then _ else dropValue e pos (<-eval e ai)) _ _ _
 refine bK (cW ?_)
 rw[aG (by decide)]
 exact bK (bH.cont (hx ρ σ v _ e1 A E s β R S F) fun r s1 bL bw S1 rr=>wpAny_dropValue ⟨bL,bw.qK,S1,F.step S bw,rfl⟩)
end
end
section
noncomputable def jZ(C:Cx)(h:Heap)(β:Bt)(it:Addr)(s0:V)(n k:Nat):Prop:=match s0 with
 | .ak xs=>(∃t vs,IsTup h t (List.toArray vs)/\aB C h β xs vs/\IsTupIter h it t k)\/(∃m,xs=(List.range m).map (fun i=>.int (Int.ofNat i))/\k<=m/\IsRangeIter h it k ((m:Int) - k) 1)
 | .ref i=>∃ad,β[i]? =some ad/\((n=0/\h.IsListIter it ad.1 k)\/∃m,n=m+1/\h.IsKeyIter it ad.1 k m m)
 |_=>False
section
variable{C:Cx}{N:bz C}{P:b5}{c:Calls}{d:Nat}{b:Bool}{ai:Env}{β bL:Bt}{σ σ1:H}{s s1:Shared}{A:Around}{E:Value->Shared->Prop}{ρ:aO}{h h':Heap}{X:Addr->Prop}
theorem aM.tF{bP:Bt}{s':Shared}{it:Addr}(st:aM (fun a=>X a\/a=it) β s bP s')(hf:s.heap.objs.size<=it):aM X β s bP s':=
 ⟨st.xQ,st.size,fun a o e hn=>st.qL a o e fun q=>hn (q.imp id fun z=>z.resolve_right fun y=>qj.mpr hf (y▸jr e)),st.same⟩
theorem jZ.step{it:Addr}{s0:V}{n k:Nat}(I:jZ C s.heap β it s0 n k)(S:bG C s.heap β σ)(st:aM X β s bL s1)(hX:∀a ao,IsTup s.heap a ao->¬X a)(hit:¬Fp β it)(hx:¬X it):jZ C s1.heap bL it s0 n k:=by
 have keep:∀o,s.heap.get? it=some o->s1.heap.get? it=some o:=fun o e=>st.qL it o e fun q=>q.elim hit hx
 cases s0 with
 |ak xs=>
  exact I.imp (fun u=>Qx u fun t vs t1 r o u=>⟨t,vs,st.ak S hX _ _ t1,aB.keep (st.ak S hX) st.at _ _ r,o,keep o u.1,u.2⟩) fun u=>dF u fun m e hm q=>⟨m,e,hm,keep _ q⟩
 |ref i=>
  exact aD I fun ad e q=>⟨ad,st.at _ _ e,q.imp (fun u=>aaM u fun z o u=>⟨z,o,keep o u.1,u.2⟩) fun u=>adM u fun m z o u=>⟨m,z,o,keep o u.1,u.2⟩⟩
 |_=>exact I.elim
theorem ade{a:Addr}{o:Obj}(g:h.get? a=some o)(hc:o.cls≠Value.type "tuple"):∀ao,¬IsTup h a ao:=fun ao ⟨o',ho,Gn,_⟩=>hc (ig (g.symm.trans ho)▸Gn)
noncomputable def Un:List String:=["tuple","enumerate","zip","dict_itemiterator","dict_reverseitemiterator","odict_iterator","itertools.zip_longest","itertools.pairwise"]
theorem jZ.at{it:Addr}{s0:V}{n k:Nat}(I:jZ C h β it s0 n k):∃o T vs,h.get? it=some o/\o.cls=.type T/\o.data=.fields vs/\Un.contains T=false:=by
 cases s0 with
 |ak xs=>exact I.elim (fun u=>aW u fun Z Z Z Z u=>dF u fun o g hc hd=>⟨o,_,_,g,hc,hd,by decide⟩) fun u=>dF u fun Z Z Z g=>⟨_,_,_,g,rfl,rfl,by decide⟩
 |ref i=>exact aD I fun ad Z q=>q.elim (fun u=>dw u fun Z u=>dF u fun o g hc hd=>⟨o,_,_,g,hc,hd,by decide⟩) fun u=>aD u fun Z Z u=>dF u fun o g hc hd=>⟨o,_,_,g,hc,hd,by decide⟩
 |_=>exact I.elim
theorem jZ.lt{it:Addr}{s0:V}{n k:Nat}(I:jZ C h β it s0 n k):it<h.objs.size:=nS I.at fun Z Z Z g Z Z Z=>jr g
theorem jZ.fL{it:Addr}{s0:V}{n k:Nat}(I:jZ C h β it s0 n k):∀ao,¬IsTup h it ao:=
 nS I.at fun o T vs g hc _ hT=>ade g fun q=>by
  have:T="tuple":=Value.type.inj (hc.symm.trans q)
  rw[this]at hT;exact nomatch hT
theorem Kr{it:Addr}{s0:V}{n k:Nat}{v:V}(ok:cN C)(I:jZ C s.heap β it s0 n k)(S:bG C s.heap β σ)(hs:cI σ s0 n k=some (some v))(hf:¬Fp β it)(hb:C.eG.objs.size<=it){Q:Option Value->Shared->Prop}
  (hQ:∀h' tk r,Heap.SameBut it s.heap h'->bG C h' β σ->jZ C h' β it s0 n (k+1)->aL C h' β v r->Q (some r) {s with heap:=h',toks:=tk}):wpAny (model C.prog C.w) A (pyNext (.ref it)) Q E s:=by
 have nt:=I.fL
 have hQ:∀h' tk r,Heap.SameBut it s.heap h'->jZ C h' β it s0 n (k+1)->aL C h' β v r->Q (some r) {s with heap:=h',toks:=tk}:=fun h' tk r q=>hQ h' tk r q (S.cD q hf hb nt)
 refine Bd fun G kG=>JH hs (fun xs e0 _ z=> ?_) (fun i xs e0 e hl n0 z=> ?_) fun i d es e0 e h1 h2 hz z=> ?_
 all_goals subst e0
 ·refine I.elim (fun u=>aW u fun t vs t1 r ti=>aD (r.get z) fun u hu ru=>kG (next_tuple_item ti t1 (x:=u) (by rw[List.getElem?_toArray];exact hu) fun h' Nt Iq=> ?_)) fun u=>dF u fun m e hm ti=> ?_
  ·exact hQ h' s.toks u Iq (.inl ⟨t,vs,iN Iq nt _ _ t1,r.cD Iq nt,Nt⟩) (ru.cD Iq nt)
  ·subst e
   rw[u9]at z
   refine aD (ve.mp z) fun j hj q2=> ?_
   have hl:=kX.mp hj
   refine bR hl fun h1 h2=> ?_
   rw[List.length_range]at h1
   rw[List.getElem_range]at h2
   refine kG (wpAny_pyNext_range_item ti (by lia) fun h' Nt Iq=>hQ h' _ _ Iq (.inr ⟨m,rfl,h1,?_⟩) ?_)
   ·have e2:((m:Int) - k - 1)=(m:Int) - ((k+1:Nat):Int):=Int.sub_sub _ _ _
    rw[e2]at Nt
    exact Nt
   ·rw[<-q2,<-h2];exact⟨_,rfl⟩
 ·refine aD I fun ad e1 q=>q.elim (fun u=>dw u fun h0 ti=> ?_) fun u=>aD u fun m hm Z=> ?_
  ·refine vQ (S.ob i _ ad e e1) fun Z vs n' g rr=> ?_
   refine aD (rr.get z) fun u hu ru=>kG (wpAny_pyNext_list_item ti (items:=vs.toArray) ⟨_,g,rfl,_,rfl⟩ (x:=u) (by rw[List.getElem?_toArray];exact hu) fun h' Nt Iq=> ?_)
   exact hQ h' s.toks u Iq ⟨ad,e1,.inl ⟨h0,Nt⟩⟩ (ru.cD Iq nt)
  ·exact(Nat.succ_ne_zero _ (hm.symm.trans n0)).elim
 ·refine aD I fun ad e1 q=>q.elim (fun u=>Nat.succ_ne_zero _ (h1.trans u.1)|>.elim) fun u=>aD u fun m hm ti=> ?_
  refine sO (S.ob i _ ad e e1) fun Z K Es g rr=> ?_
  have Ni:m=es.length:=Nat.succ.inj (hm.symm.trans h1.symm)
  subst Ni
  refine dw (uO g rr K hz) fun TP TU=> ?_
  refine aD (ve.mp z) fun p hp q2=> ?_
  refine eH (rr.at hp) fun E' hE r1 r2 r3=> ?_
  refine bR (ia (TP _ (vc hp))) fun i0 q1=> ?_
  have hl:=iP rr
  have UR:(dJ es Es)[k]? =some (i0,E'.val):=by
   unfold dJ
   rw[u9,(List.getElem?_zip_eq_some (z:=(p,E'))).mpr ⟨hp,hE⟩,Option.map_some,q1]
  rw[<-hl]at ti TU
  refine kG (wpAny_pyNext_dict_item ti TU UR fun key h' aak Nt Iq=>hQ h' s.toks key Iq ⟨ad,e1,.inr ⟨es.length,hm,by rw[hl]at Nt;exact Nt⟩⟩ ?_)
  rw[<-q2,q1]
  cases key with
  |int j t=>
   have:j=i0:=eq_of_beq aak
   exact⟨t,this▸rfl⟩
  |_=>exact nomatch aak
theorem Ca{it:Addr}{s0:V}{n k:Nat}(ok:cN C)(hA:A.handled=none)(I:jZ C s.heap β it s0 n k)(S:bG C s.heap β σ)(hs:cI σ s0 n k=some none)(hf:¬Fp β it){Q:Option Value->Shared->Prop}
  (hQ:∀h',Heap.ExtBut it s.heap h'->s.heap.objs.size<=h'.objs.size->Q none {s with heap:=h'}):wpAny (model C.prog C.w) A (pyNext (.ref it)) Q E s:=by
 suffices hh:wpAny (model C.prog C.w) A (pyNext (.ref it)) (fun r s'=>r=none/\∃h',s'={s with heap:=h'}/\Heap.ExtBut it s.heap h') E s from
  dN (jR hh) (fun r s' u=>sO u fun hz q1 h' q2 he=>by subst q1;subst q2;exact hQ h' he hz) fun Z Z x=>x
 have fm:∀h',Heap.ExtBut it s.heap h'->(none:Option Value)=none/\∃h'',{s with heap:=h'}={s with heap:=h''}/\Heap.ExtBut it s.heap h'':=fun h' he=>⟨rfl,h',rfl,he⟩
 refine Bd fun G kG=>JH hs (fun xs e0 _ z=> ?_) (fun i xs e0 e hl n0 z=> ?_) fun i d es e0 e h1 h2 hz z=> ?_
 all_goals subst e0
 ·rw[GY]at z
  refine I.elim (fun u=>aW u fun t vs t1 r ti=>kG (next_tuple_end hA ti t1 (by rw[List.getElem?_toArray,GY,r.length];exact z) fm)) fun⟨m,e,hm,ti⟩=> ?_
  subst e
  rw[fU,List.length_range]at z
  exact kG (wpAny_pyNext_range_end hA ti (by lia) fm)
 ·refine aD I fun ad e1 q=>q.elim (fun u=>dw u fun h0 ti=> ?_) fun u=>aD u fun m hm Z=> ?_
  ·refine vQ (S.ob i _ ad e e1) fun Z vs n' g rr=> ?_
   rw[GY]at z
   exact kG (wpAny_pyNext_list_end hA ti (items:=vs.toArray) ⟨_,g,rfl,_,rfl⟩ (by rw[List.getElem?_toArray,GY,rr.length];exact z) fm)
  ·exact(Nat.succ_ne_zero _ (hm.symm.trans n0)).elim
 ·refine aD I fun ad e1 q=>q.elim (fun u=>Nat.succ_ne_zero _ (h1.trans u.1)|>.elim) fun u=>aD u fun m hm ti=> ?_
  refine sO (S.ob i _ ad e e1) fun Z K Es g rr=> ?_
  have Ni:m=es.length:=Nat.succ.inj (hm.symm.trans h1.symm)
  subst Ni
  refine dw (uO g rr K hz) fun TP TU=> ?_
  have hl:=iP rr
  have UR:(dJ es Es)[k]? =none:=by
   rw[Option.map_eq_none_iff,GY]at z
   rw[GY,hl];exact z
  rw[<-hl]at ti TU
  exact kG (wpAny_pyNext_dict_end hA ti TU UR fm)
end
end
section
inductive qY(C:Cx)(N:bz C)(ai:Env):List Nat->Expr->Prop
 |aE {x:Nat} {p:Pos}:BO C N ai x->qY C N ai [x] (.Name (C.nm x) p)
 |ak {tg:List Nat} {elts:List Expr} {k:Nat} {p:Pos}:g7 C N ai tg elts->2<=tg.length->qY C N ai tg (.Tuple elts k p)
section
variable{C:Cx}{N:bz C}{P:b5}{c:Calls}{d:Nat}{b:Bool}{ai:Env}{β bL:Bt}{σ σ1:H}{s s1:Shared}{A:Around}{E:Value->Shared->Prop}{ρ:aO}{h h':Heap}{X:Addr->Prop}
theorem C1{tg:List Nat}{t:Expr}{v:V}{b:aO}{r:Value}{Q:Unit->Shared->Prop}(hA:A.handled=none)(ht:qY C N ai tg t)(hb:cT tg v=some b)(rv:aL C s.heap β v r)(S:bG C s.heap β σ)(F:aF C N s β ai ρ)
  (h:∀s',aM (FX ai) β s β s'->bG C s'.heap β σ->aF C N s' β ai (b.reverse++ρ)->Q () s'):wpAny (model C.prog C.w) A (assign t ai r) Q E s:=by
 cases ht with
 |aE hx=>
  revert h
  exact xF hb fun h=>wpAny_assign_Name (Aq S F hx.1 hx.2 rv h)
 |ak ht h2=>
  refine Bd fun G kG=>JG hb (fun x e _=>absurd (e▸h2:2<=[x].length) (Nat.not_succ_le_self 1)) fun vs q1 hl q3=> ?_
  have rv:aL C s.heap β (.ak vs) r:=q1▸rv
  exact aW rv fun a us q2 t1 r1=>kG (q2▸wK hA ht hl.symm t1 r1 S F (q3▸h))
theorem xd{tg:List Nat}{t:Expr}{it:Addr}{v:Value}{s0:V}{n k:Nat}{Q:Unit->Shared->Prop}(ht:qY C N ai tg t)(I:jZ C s.heap β it s0 n k)(h:Q () s):wpAny (model C.prog C.w) A (letOwnedTupleGo t (.ref it) v) Q E s:=by
 cases ht with
 |aE=>exact cW h
 |ak=>
 cases v with
 |ref a=>
  refine nS I.at fun o T vs ho hc hd hT=> ?_
  unfold letOwnedTupleGo
  refine bK (wpAny_load ho ?_)
  rw[hc,hd]
  show wpAny _ A (if(Un.tail.contains T&&_)=true then _ else _) Q E s
  rw[show Un.tail.contains T=false from(Bool.or_eq_false_iff.mp hT).2,Bool.false_and,aG Bool.false_ne_true]
  exact cW h
 |_=>exact cW h
theorem KY{s0:V}{xs:List V}{u:Value}(ok:cN C)(S:bG C s.heap β σ)(hx:ao σ s0=some xs)(ru:aL C s.heap β s0 u){Q:Value->Shared->Prop}
  (h:∀o,jZ C (s.heap.push o) β s.heap.objs.size s0 (fX σ s0) 0->Q (.ref s.heap.objs.size) {s with heap:=s.heap.push o}):wpAny (model C.prog C.w) A (pyIter u) Q E s:=by
 refine Bd fun G kG=>PO hx (fun xs e0=> ?_) (fun i ys e0 e=> ?_) fun i k es e0 e hz=> ?_
 all_goals rw[e0]at ru h
 ·exact aW ru fun t vs q2 t1 r1=>kG (q2▸iter_tuple t1 (h _ (.inl ⟨t,vs,t1.push _,r1.push _,_,sH _ rfl,rfl,rfl⟩)))
 ·refine dm (S.get e ru) fun ad jA q2 Z vs n g rr=>kG (q2▸wpAny_pyIter_list (items:=vs.toArray) ⟨_,g,rfl,_,rfl⟩ (h _ ⟨ad,jA,.inl ⟨?_,_,sH _ rfl,rfl,rfl⟩⟩))
  exact vU e
 ·refine fD (S.get e ru) fun ad jA q2 Z K Es g rr=> ?_
  have hl:=iP rr
  refine kG (q2▸wpAny_pyIter_dict (S.lX ok jA) (uO g rr K hz).2 (h _ ⟨ad,jA,.inr ⟨es.length,?_,_,sH _ rfl,rfl,?_⟩⟩))
  ·exact LC e
  ·rw[hl];rfl
noncomputable def X5(C:Cx)(N:bz C)(d:Nat)(ai:Env)(T:V->aO->H->Option (Fl×aO×H))(target:Expr)(body:List Stmt):Prop:=
 ∀(v:V) (ρ:aO) (σ:H) (f:Fl) (be:aO) (aK:H),T v ρ σ=some (f,be,aK)->∀(A:Around) (E1 E2:Value->Shared->Prop) (s:Shared) (β:Bt) (r:Value),gO d false A->bG C s.heap β σ->aF C N s β ai ρ->aL C s.heap β v r->
  wpAny (model C.prog C.w) A (assign target ai r) (fun Z s2=>wpAny (model C.prog C.w) A (execs body ai) (tT C N ai β s f be aK) E2 s2) E1 s
theorem aF.cD{it:Addr}(F:aF C N s β ai ρ)(hs:Heap.SameBut it s.heap h')(ht:∀ao,¬IsTup s.heap it ao)(hx:¬FX ai it):aF C N {s with heap:=h'} β ai ρ:=by
 refine eH F.ah fun m u1 hf hb hv=> ?_;refine sN u1 fun o es n ho r=> ?_
 refine⟨F.kind,F.aC,F.blt,F.names,⟨m,⟨o,es,n,(hs.2 _ fun q=>hx (.inl q.symm)).trans ho,r⟩,hf,hb,fun x v e=> ?_⟩,fun x c hm=> ?_,F.apart⟩
 ·refine aD (hv x v e) fun u ru q=> ?_
  refine⟨u,ru.cD hs ht,q.imp id fun⟨k,c,hc,ic⟩=>⟨k,c,hc,ic.sameBut hs fun q=>hx (.inr ⟨_,q▸qk hc⟩)⟩⟩
 ·refine l0 (F.cells x c hm) fun h1 h2 h3 v ic=> ?_
  exact⟨h1,h2,h3,v,ic.sameBut hs fun q=>hx (.inr ⟨_,q▸hm⟩)⟩
end
end
section
structure Fo where
 prog:Program
 w:World
 A:Around
 R:Result->Shared->Prop
 it:Value
 target:Expr
 body:List Stmt
 ai:Env
section
variable(c:Fo)(J:Shared->Prop)
noncomputable def fE:Value->Shared->Prop:=notedBy (model c.prog c.w) c.A c.ai fun e s'=>c.R (.error e) s'
noncomputable def f3(f:Flow)(s:Shared):Prop:=match f with
 | .next| .cont=>J s
 | .brk=>c.R (.ok .next) s
 | .ret v=>c.R (.ok (.ret v)) s
noncomputable def f2(_:Unit)(s:Shared):Prop:=wpAny (model c.prog c.w) c.A (execs c.body c.ai) (f3 c J) (fE c) s
noncomputable def f1(v:Value)(_:Unit)(s:Shared):Prop:=wpAny (model c.prog c.w) c.A (assign c.target c.ai v) (f2 c J) (fE c) s
noncomputable def f0(r:Option Value)(s:Shared):Prop:=match r with
 |none=>c.R (.ok .next) s
 |some v=>wpAny (model c.prog c.w) c.A (letOwnedTupleGo c.target c.it v) (f1 c J v) (fE c) s
end
noncomputable def jn(I:Nat->Shared->Prop)(n:Nat)(s:Shared):Prop:=∃m,m<n/\I m s
theorem PW{c:Fo}{s:Shared}(I:Nat->Shared->Prop)(fN:∀n s,I n s->wpAny (model c.prog c.w) c.A (pyNext c.it) (f0 c (jn I n)) (fE c) s)(n:Nat)(h:I n s):codeAny (model c.prog c.w) c.A (.forLoop c.target c.it c.body [] c.ai) c.R s:=
 codeAny_forLoop_any I (fun n s hI=>dN (fN n s hI) (fun r s1 h=>by
  cases r with
  |none=>exact cW h
  |some v=>exact dN h (fun _ _ h=>dN h (fun _ _ h=>dN h (fun f _ h=>by cases f<;>exact h) fun Z Z x=>x) fun Z Z x=>x) fun Z Z x=>x) fun Z Z x=>x) n h
noncomputable def FI(C:Cx)(N:bz C)(ai:Env)(T:V->aO->H->Option (Fl×aO×H))(s0:V)(n:Nat)(x:Fl×aO×H)(it:Addr)(β:Bt)(s:Shared)(m:Nat)(s':Shared):Prop:=
 ∃k TF Im ue,forLoop T s0 n m k TF Im=some x/\aM (fun a=>FX ai a\/a=it) β s ue s'/\bG C s'.heap ue Im/\aF C N s' ue ai TF/\jZ C s'.heap ue it s0 n k
section
variable{C:Cx}{N:bz C}{P:b5}{c:Calls}{d:Nat}{b:Bool}{ai:Env}{β bL:Bt}{σ σ1:H}{s s1:Shared}{A:Around}{E:Value->Shared->Prop}{ρ:aO}{h h':Heap}{X:Addr->Prop}
theorem Fe{a:Addr}(k:∀b o,b≠a->h.get? b=some o->h'.get? b=some o)(ht:∀ao,¬IsTup h a ao):∀b ao,IsTup h b ao->IsTup h' b ao:=fun b ao t=>by
 have:b≠a:=fun q=>ht ao (q▸t)
 refine aD t fun o ho r=> ?_
 exact⟨o,k b o this ho,r⟩
theorem bG.ZA{a:Addr}(S:bG C h β σ)(k:∀b o,b≠a->h.get? b=some o->h'.get? b=some o)(hz:h.objs.size<=h'.objs.size)(hf:¬Fp β a)(hb:C.eG.objs.size<=a)(ht:∀ao,¬IsTup h a ao):bG C h' β σ:=by
 refine⟨S.len,fun i o ad e1 e2=> ?_,S.apart,fun b o e=> ?_,S.new,d9 S.uA hz⟩
 ·have n1:ad.1≠a:=fun q=>hf ⟨ad,S.mem e2,.inl q.symm⟩
  have n2:ad.2≠a:=fun q=>hf ⟨ad,S.mem e2,.inr q.symm⟩
  exact qN.keep (Fe k ht) (fun Z Z e=>e) (fun o e=>k _ _ n1 e) (fun o e=>k _ _ n2 e) (S.ob i o ad e1 e2)
 ·refine k b o (fun q=> ?_) (S.ir b o e)
  subst q
  exact qj.mpr hb (jr e)
theorem aF.ZA{it:Addr}(F:aF C N s β ai ρ)(k:∀b o,b≠it->s.heap.get? b=some o->h'.get? b=some o)(ht:∀ao,¬IsTup s.heap it ao)(hx:¬FX ai it):aF C N {s with heap:=h'} β ai ρ:=by
 refine eH F.ah fun m u1 hf hb hv=> ?_;refine sN u1 fun o es n ho r=> ?_
 refine⟨F.kind,F.aC,F.blt,F.names,⟨m,⟨o,es,n,k _ _ (fun q=>hx (.inl q.symm)) ho,r⟩,hf,hb,fun x v e=> ?_⟩,fun x c hm=> ?_,F.apart⟩
 ·refine aD (hv x v e) fun u ru q=> ?_
  refine⟨u,aL.keep (Fe k ht) (fun Z Z e=>e) _ _ ru,q.imp id fun⟨kk,c,hc,o,ho,hd⟩=>⟨kk,c,hc,o,k _ _ (fun q=>hx (.inr ⟨_,q▸qk hc⟩)) ho,hd⟩⟩
 ·refine CT (F.cells x c hm) fun h1 h2 h3 v o ho hd=> ?_
  exact⟨h1,h2,h3,v,o,k _ _ (fun q=>hx (.inr ⟨_,q▸hm⟩)) ho,hd⟩
theorem aF.toks(F:aF C N s β ai ρ)(n:Nat):aF C N {s with toks:=n} β ai ρ:=⟨F.kind,F.aC,F.blt,F.names,F.ah,F.cells,F.apart⟩
set_option tactic.hygienic true in
theorem Sm{T:V->aO->H->Option (Fl×aO×H)}{tg:List Nat}{target:Expr}{body:List Stmt}{s0:V}{n j:Nat}{f:Fl}{be:aO}{aK:H}{it:Addr}(ok:cN C)(HT:X5 C N d ai T target body)(ht:qY C N ai tg target)
  (BD:forLoop T s0 n j 0 ρ σ=some (f,be,aK))(R:gO d false A)(S:bG C s.heap β σ)(F:aF C N s β ai ρ)(I0:jZ C s.heap β it s0 n 0)(hf:¬Fp β it)(hb:C.eG.objs.size<=it)(hx:¬FX ai it)
  {K:Result->Shared->Prop}(hK:∀fl s' bP,aM (fun a=>FX ai a\/a=it) β s bP s'->bG C s'.heap bP aK->aF C N s' bP ai be->Gg C s'.heap bP f fl->K (.ok fl) s'):
  codeAny (model C.prog C.w) A (.forLoop target (.ref it) body [] ai) K s:=by
 have BE:=I0.lt
 refine PW (c:=⟨C.prog,C.w,A,K,.ref it,target,body,ai⟩) (FI C N ai T s0 n (f,be,aK) it β s) ?_ j ⟨0,ρ,σ,β,BD,.rfl',S,F,I0⟩
 refine fun m s1 u0=>Ev u0 fun k TF Im ue hl st S1 F1 I1=> ?_
 have Nj:¬Fp ue it:=fun q=>hf ((st.fp BE).mp q)
 have nt:=I1.fL
 refine Bd fun G kG=>adx hl (fun m' _ e1 e=> ?_) fun m' v fl cu σ1 qm e1 e2 hn hr=>kG ?_
 ·revert kG hK
  refine Ij e fun hK kG=>kG (Ca ok R.1 I1 S1 e1 Nj fun h2 he hz=> ?_)
  have hk:∀b o,b≠it->s1.heap.get? b=some o->h2.get? b=some o:=fun b o hb e=>he b o hb e
  exact hK .next {s1 with heap:=h2} ue (st.trans (.Nz hz fun a o e hn=>hk a o (fun q=>hn (.inr (.inr q))) e)) (S1.ZA hk hz Nj hb nt) (F1.ZA hk nt hx) rfl
 refine Kr ok I1 S1 e1 Nj hb fun h2 tk r hs S2 I2 rv=>xd (s:={s1 with heap:=h2,toks:=tk}) ht I2 ?_
 have F2:aF C N {s1 with heap:=h2,toks:=tk} ue ai TF:=(F1.cD hs nt hx).toks tk
 refine dN (HT v TF Im _ cu σ1 e2 A _ _ {s1 with heap:=h2,toks:=tk} ue r R S2 F2 rv) (fun Z s3 hh=>dN hh (fun f4 s4 q=>eH q fun Ie lJ S4 F4 fr=> ?_) fun Z Z x=>x) fun Z Z x=>x
 have ym:aM (fun a=>FX ai a\/a=it) β s Ie s4:=(st.trans (.aE hs (.inr (.inr rfl)))).trans (lJ.dP fun Z q=>.inl q)
 cases fl with
 |next=>cases fr;exact⟨m',qm▸Nat.lt_succ_self m',k+1,cu,σ1,Ie,hn rfl,ym,S4,F4,I2.step S2 lJ (tM F2) Nj hx⟩
 |ret w=>
  revert hK
  refine Ij (hr w rfl) fun hK=>aD fr fun u q5 ru=> ?_
  subst q5;exact hK (.ret u) s4 Ie ym S4 F4 ⟨u,rfl,ru⟩
theorem MW{tg:List Nat}{x:Ex}{body:List St}{t e:Expr}{Bb:List Stmt}{pos}(ok:cN C)(ht:qY C N ai tg t)(hx:SE C N P c d false ai x e)(JI:ID C N P c d ai body Bb)(hs:∀x,foldedSetIterable e ai x=pure x):
  SS C N P c d ai (.cY tg x body) (.For t e Bb [] pos):=fun ρ σ f be aK h A E s β R S F=>by
 refine bB h fun s0 σ1 e1 h=> ?_
 refine GK h fun xs e2 h=> ?_
 refine wpAny_For (bH.cont (hx ρ σ s0 σ1 e1 A E s β R S F) fun r s1 bL bw S1 rr=> ?_) hs
 refine KY ok S1 e2 rr fun o I0=> ?_
 have F1:=(F.step S bw).step S1 (aM.push o)
 have S2:=S1.push o
 have hnf:¬Fp bL s1.heap.objs.size:=by
  intro u0;refine aD u0 fun ad hm q=> ?_
  obtain⟨i,hi,he⟩:=List.mem_iff_getElem.mp hm
  have th:=S1.EN (show bL[i]? =some ad by rw[pJ hi,he])
  rcases q with q|q
  ·exact Nat.lt_irrefl _ (q▸th.1)
  ·exact Nat.lt_irrefl _ (q▸th.2)
 have hnx:¬FX ai s1.heap.objs.size:=by
  have F0:=F.step S bw
  refine aD F0.ah fun m u1 Z=> ?_;refine sN u1 fun ob es nn ho Z=> ?_
  rintro(q|⟨nn,hm⟩)
  ·exact Nat.lt_irrefl _ (q▸jr ho)
  ·refine l0 (F0.cells _ _ hm) fun Z Z Z Z ic=> ?_
   exact Nat.lt_irrefl _ ic.lt
 refine Sm (s:={s1 with heap:=s1.heap.push o}) (tg:=tg) ok ?_ ht h R S2 F1 I0 hnf (d9 S1.uA (bX _)) hnx fun fl s' bP Nu S' F' fr=> ?_
 ·intro v TF Im f' aeQ aeP NG A E1 E2 s2 iD r2 R2 S2' YV TJ
  dsimp only at NG
  refine agD NG fun bb e4 NG=> ?_
  exact C1 R2.1 ht e4 TJ S2' YV fun s3 eV S3 F3=>dN (JI _ _ _ _ _ NG A E2 s3 iD R2 S3 F3) (fun fl s4 q=>q.after eV) fun Z Z x=>x
 ·exact⟨bP,bw.qK.trans (aM.tF (((aM.push o).dP fun Z q=>q.elim).trans Nu) (bX _)),S',F',fr⟩
end
end
section
section
variable{C:Cx}{N:bz C}{P:b5}{c:Calls}{d:Nat}{b:Bool}{ai:Env}{β bL:Bt}{σ σ1:H}{s s1:Shared}{A:Around}{E:Value->Shared->Prop}{ρ:aO}{h h':Heap}{X:Addr->Prop}
theorem bG.jh(S:bG C s.heap β σ){a:Addr}(ha:s.heap.objs.size<=a):¬Fp β a:=by
 intro u0;refine aD u0 fun ad hm q=> ?_
 obtain⟨i,hi,he⟩:=List.mem_iff_getElem.mp hm
 have th:=S.EN (show β[i]? =some ad by rw[pJ hi,he])
 rcases q with q|q
 ·exact qj.mpr ha (q▸th.1)
 ·exact qj.mpr ha (q▸th.2)
theorem aF.jh(F:aF C N s β ai ρ){a:Addr}(ha:s.heap.objs.size<=a):¬FX ai a:=by
 refine aD F.ah fun m u1 Z=> ?_;refine sN u1 fun ob es nn ho Z=> ?_
 rintro(q|⟨nn,hm⟩)
 ·exact qj.mpr ha (q▸jr ho)
 ·refine l0 (F.cells _ _ hm) fun Z Z Z Z ic=> ?_
  exact qj.mpr ha ic.lt
theorem X8{x n:Nat}{body:List St}{nr:Str}{t:Expr}{k rp p1 ae4 pos}{Bb:List Stmt}(ok:cN C)(ht:qY C N ai [x] t)(JI:ID C N P c d ai body Bb)(hx:ai.kindOf nr=some .globalImplicit)(hd:(nr==("__debug__":Str))=false)(hg:C.mg nr=none)(hb:C.mb nr=some (.type "range"))(hn:n<aJ):
  SS C N P c d ai (.Na x n body) (.For t (.Call (.Name nr rp) [.Constant (.int (n:Int)) k p1] [] ae4) Bb [] pos):=fun ρ σ f be aK h A E s β R S F=>by
 refine wpAny_For ?_ (fun Z=>rfl)
 refine wpAny_Call_ofName (vz ok S F hx hd (.inr ⟨hg,hb⟩) ?_)
 refine PyProof.Rows.callWith_type rfl (Calls.evalArgs_plain (Calls.spliced_cons (wpAny_Constant_int (k:=k) (pos:=p1) (Calls.spliced_nil ?_))))
 refine call_range_1 ?_
 have hlo: -(2^62)<=(n:Int):=by lia
 have hhi:(n:Int)<2^62:=by unfold aJ at hn;lia
 refine wpAny_pyIter_range (IsRange.new ..) (small_one (by decide) (by decide) hlo hhi) ?_
 have hsz:Builtin.Range.rangeSize 0 (n:Int) 1=(n:Int):=by rw[rangeSize_one];split<;>lia
 rw[hsz]
 have key:∀(o1 o2:Obj) (tk:Nat),IsRangeIter ((s.heap.push o1).push o2) (s.heap.push o1).objs.size 0 (n:Int) 1->
   codeAny (model C.prog C.w) A (.forLoop t (.ref (s.heap.push o1).objs.size) Bb [] ai) (fun r s'=>match r with| .ok fl=>tT C N ai β s f be aK fl s'| .error e=>cameBackBy (model C.prog C.w) A ai E e s') {s with heap:=(s.heap.push o1).push o2,toks:=tk}:=by
  intro o1 o2 tk hr
  have S2:bG C ((s.heap.push o1).push o2) β σ:=S.keep (fun a o e=>k8 _ (k8 _ e)) (by rw[j3,j3];exact Nat.le_succ_of_le (lT _))
  have bS:aM kQ β s β {s with heap:=(s.heap.push o1).push o2,toks:=tk}:=aM.EX (fun a o e=>k8 _ (k8 _ e)) (by rw[j3,j3];exact Nat.le_succ_of_le (lT _))
  have F2:=F.step S bS
  have Rh:s.heap.objs.size<=(s.heap.push o1).objs.size:=by rw[j3];exact lT _
  refine Sm (s:={s with heap:=(s.heap.push o1).push o2,toks:=tk}) (tg:=[x]) ok (T:=fun v ρ σ=>kW P c body ((x,v)::ρ) σ) ?_ ht h R S2 F2 (.inr ⟨n,rfl,Nat.zero_le _,hr⟩) (S.jh Rh) (d9 S.uA Rh) (F.jh Rh) fun fl s' bP Nu S' F' fr=> ?_
  ·intro v TF Im f' aeQ aeP NG A E1 E2 s2 iD r2 R2 S2' YV TJ
   exact C1 R2.1 ht (by rfl:cT [x] v=some [(x,v)]) TJ S2' YV fun s3 eV S3 F3=>dN (JI _ _ _ _ _ NG A E2 s3 iD R2 S3 F3) (fun fl s4 q=>q.after eV) fun Z Z x=>x
  ·exact⟨bP,aM.tF ((bS.dP fun Z q=>q.elim).trans Nu) Rh,S',F',fr⟩
 exact key _ _ _ (sH _ rfl)
theorem X7{xs ys:List St}{as:List Stmt}{f0:Stmt}{fs:List Stmt}{pos}(hx:ID C N P c d ai xs as)(hy:ID C N P c d ai ys (f0::fs)):SS C N P c d ai (.zH xs ys) (.Try as [] [] (f0::fs) pos):=fun ρ σ f be aK h A E s β R S F=>by
 refine ado h fun f1 cu σ1 xD aX e1 e2 h=> ?_
 refine Ij h ?_
 refine wpAny_Try_finally (dN (hx ρ σ f1 cu σ1 e1 A _ s β R S F) (fun fl s1 q=> ?_) fun Z Z x=>x)
 refine eH q fun bL bw S1 F1 fr=> ?_
 cases f1 with
 |next=>
  cases fr
  refine cW ?_
  refine dN (hy cu σ1 .next _ _ e2 A _ s1 bL R S1 F1) (fun g s2 q=> ?_) fun Z Z x=>x
  refine eH q fun iD bS S2 F2 fr2=> ?_
  cases fr2
  exact⟨iD,bw.trans bS,S2,F2,rfl⟩
 |ret v=>
  refine aD fr fun u q1 ru=> ?_;subst q1
  refine dN (hy cu σ1 .next _ _ e2 A _ s1 bL R S1 F1) (fun g s2 q=> ?_) fun Z Z x=>x
  refine eH q fun iD bS S2 F2 fr2=> ?_
  cases fr2
  exact⟨iD,bw.trans bS,S2,F2,u,rfl,aL.keep (bS.ak S1 (tM F1)) bS.at _ _ ru⟩
theorem Tm(S:bG C s.heap β σ){op:Ar}{x y z:V}{u v:Value}(hr:sC op x y=some z)(ru:aL C s.heap β x u)(rv:aL C s.heap β y v){Q:Value->Shared->Prop}(h:∀tk r,aL C s.heap β z r->Q r {s with toks:=tk}):
  wpAny (model C.prog C.w) A (inplaceOp (vD op) u v) Q E s:=by
 cases op with
 |add=>refine i8 hr fun i j q0 q1 hr=> ?_;subst q0 q1;revert h;refine xF hr fun h=> ?_;refine bR ru fun Z q1=> ?_;subst q1;refine bR rv fun Z q1=> ?_;subst q1;exact wpAny_iadd_int (h _ _ ⟨_,rfl⟩)
 |sub=>refine i8 hr fun i j q0 q1 hr=> ?_;subst q0 q1;revert h;refine xF hr fun h=> ?_;refine bR ru fun Z q1=> ?_;subst q1;refine bR rv fun Z q1=> ?_;subst q1;exact PySem.P.isub_int (h _ _ ⟨_,rfl⟩)
 |mod=>exact bJ hr
theorem QT{x y:Ex}{a:Nat}{op:Ar}{o:Operator}{e v:Expr}{n:Str}{p1 pos}(ok:cN C)(cls:∀k,tU C N P k)(hP:P.gI=C.gI)(ha:N.ok a=true)(hn:n=C.nm a)(ho:o=vD op)(hx:SE C N P c d false ai x e)(hy:SE C N P c d false ai y v):
  SS C N P c d ai (.sE x a op y) (.AugAssign (.Attribute e n p1) o v pos):=fun ρ σ f be aK h A E s β R S F=>by
 subst hn ho
 refine bB h fun ov σ1 e1 h=> ?_
 refine sj h fun old e2 h=> ?_
 refine bB h fun w aX e3 h=> ?_
 refine sj h fun nw e4 h=> ?_
 refine Dv h fun kU e5 h=> ?_
 cases h
 refine wpAny_AugAssign_AttributeAny (bH.cont (hx ρ σ ov σ1 e1 A E s β R S F) fun r1 s1 bL bw S1 Y3=>Ln ok cls S1 ha e2 Y3 fun tk r2 Ih=> ?_)
 have aeX:=bw.trans (aM.iU (β:=bL) (X:=kQ) (s:=s1) tk)
 have F1:=(F.step S bw).step S1 (aM.iU tk)
 refine bH.cont (hy ρ σ1 w aX e3 A E {s1 with toks:=tk} bL R S1 F1) fun r3 s3 Yz eV S3 Y0=> ?_
 refine Tm S3 e4 (eV.ux (s:={s1 with toks:=tk}) S1 Ih) Y0 fun tk4 r4 rr4=> ?_
 have F3:=(F1.step S1 eV).step S3 (aM.iU tk4)
 refine Km (s:={s3 with toks:=tk4}) ok cls hP S3 e5 (eV.ux (s:={s1 with toks:=tk}) S1 Y3) rr4 fun s5 ym S5=>⟨Yz,(((aeX.trans eV).trans (aM.iU tk4)).trans ym).qK,S5,F3.step S3 ym,rfl⟩
theorem QS{x k y:Ex}{op:Ar}{o:Operator}{e i v:Expr}{p1 pos}(ok:cN C)(ho:o=vD op)(hx:SE C N P c d false ai x e)(hk:SE C N P c d false ai k i)(hy:SE C N P c d false ai y v)
  (hi:∀ov iv new,augStore i ov iv new=(do holding [new,ov,iv] (setItem ov iv new);release [new,ov,iv] [];pure .next)):
  SS C N P c d ai (.sD x k op y) (.AugAssign (.Subscript e i p1) o v pos):=fun ρ σ f be aK h A E s β R S F=>by
 subst ho
 refine bB h fun ov σ1 e1 h=> ?_
 refine bB h fun kv aX e2 h=> ?_
 refine sj h fun old e3 h=> ?_
 refine bB h fun w kU e4 h=> ?_
 refine sj h fun nw e5 h=> ?_
 refine Dv h fun TA e6 h=> ?_
 cases h
 refine wpAny_AugAssign_SubscriptAny (bH.cont (hx ρ σ ov σ1 e1 A E s β R S F) fun r1 s1 bL bw S1 Y3=> ?_) hi
 have F1:=F.step S bw
 refine bH.cont (hk ρ σ1 kv aX e2 A E s1 bL R S1 F1) fun r2 s2 iD bS S2 Ih=> ?_
 have F2:=F1.step S1 bS
 refine(KZ ok S2 e3 R.units (bS.ux S1 Y3) Ih fun tk r3 Y0=> ?_).1
 have YV:=F2.step S2 (aM.iU tk)
 refine bH.cont (hy ρ aX w kU e4 A E {s2 with toks:=tk} iD R S2 YV) fun r4 s4 Ie lJ S4 rr4=> ?_
 refine Tm S4 e5 (lJ.ux (s:={s2 with toks:=tk}) S2 Y0) rr4 fun tk5 r5 rr5=> ?_
 have F4:=(YV.step S2 lJ).step S4 (aM.iU tk5)
 refine xe (s:={s4 with toks:=tk5}) ok S4 R.units e6 (lJ.ux (s:={s2 with toks:=tk}) S2 (bS.ux S1 Y3)) (lJ.ux (s:={s2 with toks:=tk}) S2 Ih) rr5 fun s6 Ig S6=>⟨Ie,(((((bw.trans bS).trans (aM.iU tk)).trans lJ).trans (aM.iU tk5)).trans Ig).qK,S6,F4.step S4 Ig,rfl⟩
theorem Yc{st:Stmt}:SS C N P c d ai .Gw st:=fun ρ σ f be aK h=>bJ h
end
end
theorem mz:∀{ns:List Str} {vs:List Value} {i:Nat} {n:Str} {v:Value},ns.Nodup->ns[i]? =some n->vs[i]? =some v->(ns.zip vs).lookup n=some v
 |[],_,i,n,v,_,e,_=>by exact bJ e
 |x::ns,[],i,n,v,_,_,e=>by exact bJ e
 |x::ns,y::vs,0,n,v,_,e,q=>by simp at e q;subst e q;simp
 |x::ns,y::vs,i+1,n,v,nd,e,q=>by
  simp at e q
  have Y8:=u8.mp nd
  have hm:n∈ns:=vc e
  rw[List.zip_cons_cons,qS]
  have:(n==x)=false:=by
   rw[beq_eq_false_iff_ne];intro z;subst z;exact Y8.1 hm
  rw[this]
  exact mz Y8.2 e q
theorem mP:∀{ns:List Str} {vs:List Value} {i:Nat} {n:Str},ns.Nodup->ns[i]? =some n->vs.length<=i->(ns.zip vs).lookup n=none
 |[],_,i,n,_,e,_=>by exact bJ e
 |x::ns,[],i,n,_,_,_=>rfl
 |x::ns,y::vs,0,n,_,e,q=>by simp at q
 |x::ns,y::vs,i+1,n,nd,e,q=>by
  simp at e q
  have Y8:=u8.mp nd
  have hm:n∈ns:=vc e
  rw[List.zip_cons_cons,qS]
  have:(n==x)=false:=by
   rw[beq_eq_false_iff_ne];intro z;subst z;exact Y8.1 hm
  rw[this]
  exact mP Y8.2 e q
theorem wW{α:Type}:∀(a b:List (Str×α)) (n:Str),(a++b).lookup n=(a.lookup n).or (b.lookup n)
 |[],b,n=>by simp
 |(k,v)::a,b,n=>by
  rw[List.cons_append,qS,qS]
  cases n==k<;>simp[wW a b n]
noncomputable def yD:List (Str×Value)->List (Str×Value)->List (Str×Value)
 |[],sl=>sl
 |(n,d)::r,sl=>yD r (if(sl.lookup n).isNone then sl++[(n,d)]else sl)
theorem FP{n:Str}{d:Value}{r sl:List (Str×Value)}:yD ((n,d)::r) sl=yD r (if(sl.lookup n).isNone then sl++[(n,d)]else sl):=rfl
theorem rR:∀(l sl:List (Str×Value)) (n:Str),(yD l sl).lookup n=(sl.lookup n).or (l.lookup n)
 |[],sl,n=>by rw[List.lookup_nil,Option.or_none];rfl
 |(k,v)::r,sl,n=>by
  rw[FP,rR r]
  split
  ·rename_i h
   rw[wW,qS,qS]
   by_cases q:n=k
   ·subst q
    simp[h]
   ·have:(n==k)=false:=beq_eq_false_iff_ne.mpr q
    simp[this]
  ·rename_i h
   by_cases q:n=k
   ·subst q
    have:(sl.lookup n).isSome:=by
     cases hz:sl.lookup n with
     |none=>simp[hz]at h
     |some _=>rfl
    refine bR (zW.mp this) fun w hw=> ?_
    simp[hw]
   ·have:(n==k)=false:=beq_eq_false_iff_ne.mpr q
    rw[qS,this]
theorem pN:∀(ns:List Str) (ws:List Value) (f:Str->Option Value),ns.length=ws.length->(∀(i:Nat) (n:Str) (v:Value),ns[i]? =some n->ws[i]? =some v->f n=some v)->ns.filterMap (fun n=>(f n).map (n,·))=ns.zip ws
 |[],ws,f,_,_=>rfl
 |n::ns,[],f,h,_=>by cases h
 |n::ns,w::ws,f,h,hf=>by
  have h0:=hf 0 n w rfl rfl
  rw[List.filterMap_cons,h0]
  simp only[Option.map_some,List.zip_cons_cons]
  rw[pN ns ws f (by simpa using h) fun i m v e q=>hf (i+1) m v (e) (q)]
theorem tE{M:Model}{A:Around}{E:Value->Shared->Prop}{s:Shared}(f:Str×Value->List (Str×Value)->Sem (ForInStep (List (Str×Value))))
  (hf:∀n d sl,f (n,d) sl=if(sl.lookup n).isNone then pure (.yield (sl++[(n,d)]))else pure (.yield sl)):
  ∀(l sl:List (Str×Value)) (Q:List (Str×Value)->Shared->Prop),Q (yD l sl) s->wpAny M A (forIn l sl f) Q E s
 |[],sl,Q,h=>by exact cW h
 |(n,d)::r,sl,Q,h=>by
  rw[zU,hf]
  rw[FP]at h
  split
  ·rename_i q
   rw[aI q]at h
   exact bK (cW (tE f hf r _ Q h))
  ·rename_i q
   rw[aG q]at h
   exact bK (cW (tE f hf r _ Q h))
theorem DS{α:Type}{M:Model}{A:Around}{E:Value->Shared->Prop}{s:Shared}{c:Bool}{a b:Sem α}{Q:α->Shared->Prop}(hc:c=false)(h:wpAny M A b Q E s):wpAny M A (if c=true then a else b) Q E s:=by
 subst hc;exact h
theorem ahg{n d u i:Nat}(h0:u<=n)(h1:n<=u+d)(h2:d<=n)(h3:¬i<u):d - (n - u)+(i - u)=i - (n - d):=by
 obtain⟨b,rfl⟩:=Nat.exists_eq_add_of_le (Nat.le_of_not_lt h3)
 obtain⟨a,rfl⟩:=Nat.exists_eq_add_of_le h0
 obtain⟨c,rfl⟩:=Nat.exists_eq_add_of_le (Nat.le_of_add_le_add_left h1)
 have hc:c<=u:=Nat.le_of_add_le_add_left (Nat.add_comm u a▸h2)
 rw[Nat.add_sub_cancel_left,Nat.add_sub_cancel_left,Nat.add_sub_cancel_left,Nat.add_comm u a,Nat.add_sub_add_left,Nat.add_comm u b,Nat.add_sub_assoc (Nat.sub_le u c),Nat.sub_sub_self hc,Nat.add_comm]
theorem aco{n d u:Nat}(h0:u<=n)(h1:n<=u+d):n=u+(d - (d - (n - u))):=by
 rw[Nat.sub_sub_self (Nat.sub_le_iff_le_add'.mpr h1),Nat.add_sub_cancel' h0]
theorem ahf{n d u i:Nat}(h1:n<=u+d)(h3:¬i<u):n - d<=i:=d9 (Nat.sub_le_iff_le_add.mpr h1) (Nat.le_of_not_lt h3)
theorem acn{n d u i:Nat}(h:i<min (n - d) n)(h1:n<=u+d):i<n/\i<u:=
 ⟨uu h (Nat.min_le_right _ _),uu h (d9 (Nat.min_le_left _ _) (Nat.sub_le_iff_le_add.mpr h1))⟩
theorem L6{names:List Str}{us dv:List Value}(nd:names.Nodup)(hd:names.length<=us.length+dv.length)(hl:dv.length<=names.length):List.filter (fun n=>(List.lookup n (names.zip us)).isNone) (List.take (names.length - (dv.drop (dv.length - names.length)).length) names)=[]:=by
 rw[Nat.sub_eq_zero_of_le hl,List.filter_eq_nil_iff]
 intro n hm
 obtain⟨i,hi,e⟩:=List.mem_take_iff_getElem.mp hm
 rw[mz nd (i:=i) (kX.mpr ⟨(acn hi hd).1,e⟩) (pJ (acn hi hd).2)]
 exact Bool.false_ne_true
theorem MK{names:List Str}{us dv:List Value}(nd:names.Nodup)(hu:us.length<=names.length)(hd:names.length<=us.length+dv.length)(hl:dv.length<=names.length):
  List.filterMap (fun n=>((yD ((names.drop (names.length - (dv.drop (dv.length - names.length)).length)).zip (dv.drop (dv.length - names.length))) (names.zip us)).lookup n).map (n,·)) (names++[])=names.zip (us++dv.drop (dv.length - (names.length - us.length))):=by
 rw[Nat.sub_eq_zero_of_le hl,List.drop_zero,lU]
 refine pN names _ _ (by rw[fV,List.length_drop];exact aco hu hd) fun i n v e q=> ?_
 rw[rR]
 have hi:i<names.length:=(kX.mp e).1
 by_cases z:i<us.length
 ·rw[mZ z]at q
  rw[mz nd e q];rfl
 ·rw[mP nd e (Nat.le_of_not_lt z)]
  rw[vg (Nat.le_of_not_lt z),List.getElem?_drop]at q
  refine mz (i:=i - (names.length - dv.length)) (nd.sublist (List.drop_sublist _ _)) ?_ ?_
  ·rw[List.getElem?_drop,Nat.add_sub_cancel' (ahf hd z)];exact e
  ·rw[<-ahg hu hd hl z];exact q
theorem Dk{fd:FuncData}{us:List Value}{names:List Str}{dv:Array Value}{od:Option (Array Value)}{s:Shared}(hp:fd.params.posonlyargs=[])(hn:fd.params.args.map (·.arg)=names)(hk:fd.params.kwonlyargs=[])(hv:fd.params.vararg=none)(hw:fd.params.kwarg=none)(nd:names.Nodup)
  (hu:us.length<=names.length)(hd:names.length<=us.length+dv.toList.length)(hl:dv.toList.length<=names.length)(ho:od.getD #[]=dv)
  (hq:∀(M:Model) (A:Around) (E:Value->Shared->Prop) (Q:Option (Array Value)->Shared->Prop),Q od s->wpAny M A (seqItems? fd.defaults) Q E s):
  BindsTo s fd ⟨us,[]⟩ (names.zip (us++dv.toList.drop (dv.toList.length - (names.length - us.length)))):=fun M A E Q h=>by
 cases fd with|mk f1 f2 pr f4 f5 f6 f7 df kd=>
 cases pr with|mk po ar va ko kds kw ds=>
 obtain rfl:po=[]:=hp
 obtain rfl:ko=[]:=hk
 obtain rfl:va=none:=hv
 obtain rfl:kw=none:=hw
 obtain rfl:ar.map (·.arg)=names:=hn
 subst ho
 refine bK (cW (bK (hq _ _ _ _ ?_)))
 refine DS (congrArg (·&&true) (fH (qj.mpr hu))) (DS (congrArg (fun l=> !l.isEmpty) (L6 nd hd hl)) ?_)
 refine bK (tE _ (fun n d sl=>rfl) _ _ _ ?_)
 refine bK (cW (DS rfl (cW ?_)))
 exact(congrArg (fun l=>Q l s) (MK nd hu hd hl)).mpr h
section
noncomputable def Tz(sc:Scope)(ai:Env):Prop:=ai.scope=sc/\∀x,ai.kindOf x=some .cell->(ai.cells.lookup x).isSome=true
structure GX(C:Cx)(N:bz C)(P:b5)(f:Nat)(fn:Fn)(fd:FuncData)(body:List Stmt):Prop where
 aA:∃o,C.eG.get? (C.fa f)=some o/\o.data=.func fd
 Rn:fd.body=.stmts body
 aC:fd.globals=mainGlobals
 blt:fd.builtins=builtinsNs
 clo:fd.closure=[]
 co:fd.scope.isCoroutine=false
 gen:fd.scope.isGenerator=false
 kind:fd.scope.kind=.function
 code:C.eG.CodeRec fd.code fd.qualname
 pp:fd.params.posonlyargs=[]
 pn:fd.params.args.map (·.arg)=fn.params.map C.nm
 pk:fd.params.kwonlyargs=[]
 pv:fd.params.vararg=none
 pw:fd.params.kwarg=none
 nd:(fn.params.map C.nm).Nodup
 ok:∀x∈fn.params,N.ok x=true
 apart:(fd.scope.names.map (·.1)).Nodup
 ER:∀x∈fn.params,fd.scope.names.lookup (C.nm x)=some .local\/fd.scope.names.lookup (C.nm x)=some .cell
 dfl:(fn.j8=[]/\fd.defaults=.none)\/∃T o dv n,fd.defaults=.ref T/\C.eG.get? T=some o/\o.data=.seq dv n/\aB C C.eG [] fn.j8 dv.toList
 ag9:fn.j8.length<=fn.params.length
 rep:∀c d ai,Tz fd.scope ai->fk C P c d->jG C P c d->ID C N P c d ai fn.body body
theorem xr:∀{xs:List Nat} {vs ds:List V} {ρ:aO},Mine.bindL xs vs ds=some ρ->vs.length<=xs.length/\xs.length<=vs.length+ds.length/\ρ=xs.zip (vs++ds.drop (ds.length - (xs.length - vs.length)))
 |[],[],ds,ρ,h=>(ig h:[]=ρ)▸⟨bX _,Nat.zero_le _,rfl⟩
 |[],v::vs,ds,ρ,h=>bJ h
 |x::xs,[],ds,ρ,h=>lK h fun q h=>⟨Nat.zero_le _,(Nat.zero_add ds.length).symm▸q,(ig h).symm⟩
 |x::xs,v::vs,ds,ρ,h=>aD (ve.mp h) fun r e q2=>iX (xr e) fun a b q3=>by
  refine⟨Nat.succ_le_succ a,by rw[ql,ql,Nat.add_right_comm];exact Nat.succ_le_succ b,?_⟩
  rw[<-q2,q3,ql,ql,Nat.add_sub_add_right];rfl
theorem iT:∀(names:List (Str×NameKind)) (n:Nat) (bV:List (Str×Addr)) (x:Str),((x,NameKind.cell)∈names\/(bV.lookup x).isSome=true)->((cellsFrom n names bV).lookup x).isSome=true
 |[],n,bV,x,h=>by
  rcases h with h|h
  ·exact nomatch h
  ·exact h
 |(y,k)::r,n,bV,x,h=>by
  unfold cellsFrom
  split
  ·rename_i q
   refine iT r _ _ x ?_
   rcases h with h|h
   ·rcases cH.mp h with h|h
    ·cases h;right;simp
    ·exact .inl h
   ·right
    rw[qS]
    cases hb:x==y
    ·exact h
    ·rfl
  ·rename_i q
   refine iT r _ _ x ?_
   rcases h with h|h
   ·rcases cH.mp h with h|h
    ·cases h;exact absurd rfl q
    ·exact .inl h
   ·exact .inr h
theorem jV:∀(names:List (Str×NameKind)) (n:Nat) (bV:List (Str×Addr)),(names.map (·.1)).Nodup->(bV.map (·.1)).Nodup->(∀x∈bV,x.1∉names.map (·.1))->((cellsFrom n names bV).map (·.1)).Nodup
 |[],n,bV,_,h,_=>h
 |(y,k)::r,n,bV,h1,h2,h3=>by
  rw[fT,u8]at h1
  unfold cellsFrom
  split
  ·refine jV r _ _ h1.2 ?_ ?_
   ·rw[fT,u8]
    refine⟨fun q=> ?_,h2⟩
    refine aD (eY.mp q) fun z hz e=> ?_
    exact h3 z hz (by rw[e];simp)
   ·intro z hz
    rcases cH.mp hz with rfl|hz
    ·exact h1.1
    ·exact fun q=>h3 z hz (by exact ye _ q)
  ·refine jV r _ _ h1.2 h2 fun z hz q=>h3 z hz (by exact ye _ q)
theorem pP:∀{l:List (Str×Addr)} {n:Str} {c:Addr},(l.map (·.1)).Nodup->(n,c)∈l->l.lookup n=some c
 |[],_,_,_,h=>nomatch h
 |(k,v)::r,n,c,nd,h=>by
  rw[fT,u8]at nd
  rw[qS]
  rcases cH.mp h with h|h
  ·cases h;simp
  ·have:(n==k)=false:=by
    rw[beq_eq_false_iff_ne];intro q;subst q
    exact nd.1 (eY.mpr ⟨(n,c),by assumption,rfl⟩)
   rw[this];exact pP nd.2 h
section
variable{kindOf:Str->Option NameKind}
theorem zw:∀(l:List (Str×Value)) (m:Str->Option Value) (n:Str),n∉l.map (·.1)->PySem.bindL kindOf l m n=m n
 |[],m,n,_=>rfl
 |(k,v)::r,m,n,h=>by
  rw[fT,cH,not_or]at h
  refine(zw r _ n h.2).trans ?_
  by_cases q:kindOf k=some .local
  ·exact(congrFun (aI q) n).trans (aG h.1)
  ·exact congrFun (aG q) n
theorem zx:∀(l:List (Str×Value)) (m:Str->Option Value) (n:Str),n∉l.map (·.1)->bindC kindOf l m n=m n
 |[],m,n,_=>rfl
 |(k,v)::r,m,n,h=>by
  rw[fT,cH,not_or]at h
  refine(zx r _ n h.2).trans ?_
  by_cases q:kindOf k=some .local
  ·exact congrFun (aI q) n
  ·exact(congrFun (aG q) n).trans (aG h.1)
theorem CV:∀(l:List (Str×Value)) (m:Str->Option Value) (n:Str) (v:Value),(l.map (·.1)).Nodup->(n,v)∈l->kindOf n=some .local->PySem.bindL kindOf l m n=some v
 |[],_,_,_,_,h,_=>nomatch h
 |(k,u)::r,m,n,v,nd,h,hk=>by
  rw[fT,u8]at nd
  rcases cH.mp h with h|h
  ·cases h;exact(zw r _ _ nd.1).trans ((congrFun (aI hk) _).trans (aI rfl))
  ·exact CV r _ n v nd.2 h hk
theorem CW:∀(l:List (Str×Value)) (m:Str->Option Value) (n:Str) (v:Value),(l.map (·.1)).Nodup->(n,v)∈l->kindOf n≠some .local->bindC kindOf l m n=some v
 |[],_,_,_,_,h,_=>nomatch h
 |(k,u)::r,m,n,v,nd,h,hk=>by
  rw[fT,u8]at nd
  rcases cH.mp h with h|h
  ·cases h;exact(zx r _ _ nd.1).trans ((congrFun (aG hk) _).trans (aI rfl))
  ·exact CW r _ n v nd.2 h hk
end
theorem Cm:∀{xs:List Nat} {vs:List V} {us:List Value} {R:V->Value->Prop} {nm:Nat->Str} {x:Nat} {v:V},vs.length=us.length->(∀(i:Nat) (w:V),vs[i]? =some w->∃u,us[i]? =some u/\R w u)->
  ay x (xs.zip vs)=some v->∃u,(nm x,u)∈(xs.map nm).zip us/\R v u/\x∈xs
 |[],vs,us,R,nm,x,v,_,_,h=>by exact bJ h
 |y::xs,[],us,R,nm,x,v,_,_,h=>by exact bJ h
 |y::xs,w::vs,[],R,nm,x,v,hl,_,h=>by simp at hl
 |y::xs,w::vs,u::us,R,nm,x,v,hl,hr,h=>by
  rw[List.zip_cons_cons,gk]at h
  by_cases q:x=y
  ·rw[aI q]at h;refine xF h ?_;subst q
   refine aD (hr 0 w rfl) fun u' e r=> ?_
   simp at e;subst e
   exact⟨u,by simp,r,by simp⟩
  ·rw[aG q]at h;refine dF (Cm (R:=R) (nm:=nm) (by simpa using hl) (fun i w' e=>hr (i+1) w' (e)) h) fun u' hm r hx=> ?_
   exact⟨u',by exact ye _ hm,r,ye _ hx⟩
theorem yk{h h':Heap}{c:Value}{q:Str}(x:h.CodeRec c q)(k:∀a o,h.get? a=some o->h'.get? a=some o):h'.CodeRec c q:=
 Xh x fun a o vs t u=>⟨a,o,vs,t,u.1,k _ _ u.2.1,u.2.2⟩
theorem tY:∀{ns:List Str} {us:List Value},ns.length<=us.length->(ns.zip us).map (·.1)=ns
 |[],us,_=>rfl
 |n::ns,[],h=>by cases h
 |n::ns,u::us,h=>by rw[List.zip_cons_cons,fT,tY (by simpa using h)]
theorem aB.drop{C:Cx}{h:Heap}{β:Bt}:∀{n:Nat} {xs:List V} {us:List Value},aB C h β xs us->aB C h β (xs.drop n) (us.drop n)
 |0,_,_,r=>r
 |n+1,[],_,r=>by cases r;exact rfl
 |n+1,x::xs,_,⟨v,t,e,a,b⟩=>by subst e;rw[List.drop_succ_cons];exact aB.drop b
theorem bG.CZ{C:Cx}{s:Shared}{β:Bt}{σ:H}(S:bG C s.heap β σ):∀{vs:List V} {us:List Value},aB C C.eG [] vs us->aB C s.heap β vs us
 |[],_,r=>r
 |x::xs,_,⟨v,t,e,a,b⟩=>⟨v,t,e,S.Gc a,S.CZ b⟩
section
variable{C:Cx}{N:bz C}{P:b5}{c:Calls}{d:Nat}
theorem Mx{f:Nat}{fn:Fn}{fd:FuncData}{body:List Stmt}{s s1:Shared}{β:Bt}{σ:H}{vs:List V}{us:List Value}{a:Addr}(Fn:GX C N P f fn fd body)(S:bG C s.heap β σ)(S1:bG C s1.heap β σ)(k6:vs.length=fn.params.length)(rv:aB C s1.heap β vs us)
  (x:InCallC s (callEnvC fd s.heap.objs.size a).locals (PySem.bindL (callEnvC fd s.heap.objs.size a).kindOf ((fn.params.map C.nm).zip us) fun Z=>none) (callEnvC fd s.heap.objs.size a).cells (bindC (callEnvC fd s.heap.objs.size a).kindOf ((fn.params.map C.nm).zip us) fun Z=>none) s1):
  aF C N s1 β (callEnvC fd s.heap.objs.size a) (fn.params.zip vs):=by
 have hul:us.length=fn.params.length:=by rw[rv.length,k6]
 have nn:∀b,s.heap.objs.size<=b->¬Fp β b:=fun b hb=>S.jh hb
 have hL:(callEnvC fd s.heap.objs.size a).locals=s.heap.objs.size:=rfl
 have Sj:(((fn.params.map C.nm).zip us).map (·.1)).Nodup:=by rw[tY (by simp[hul])];exact Fn.nd
 have hk:∀y,(callEnvC fd s.heap.objs.size a).kindOf y=fd.scope.names.lookup y:=fun Z=>rfl
 have lk:∀y v,ay y (fn.params.zip vs)=some v->∃u,(C.nm y,u)∈(fn.params.map C.nm).zip us/\aL C s1.heap β v u/\y∈fn.params:=
  fun y v e=>Cm (R:=aL C s1.heap β) (nm:=C.nm) (by rw[k6,hul]) (fun i w e=>rv.get e) e
 have ck:((callEnvC fd s.heap.objs.size a).cells.map (·.1)).Nodup:=jV _ _ _ Fn.apart List.nodup_nil fun Z hm=>nomatch hm
 refine⟨Fn.kind,Fn.aC,Fn.blt,fun y v e=> ?_,⟨_,x.toInCall.ns,nn _ (bX _),S.uA,fun y v e=> ?_⟩,fun y c hm=> ?_,x.apart⟩
 ·refine dF (lk y v e) fun u Z Z hy=> ?_
  exact Fn.ok y hy
 ·refine dF (lk y v e) fun u hm r hy=> ?_
  refine⟨u,r,?_⟩
  rcases Fn.ER y hy with q|q
  ·exact .inl ⟨q,CV _ _ _ _ Sj hm q⟩
  ·right
   have hc:(C.nm y,NameKind.cell)∈fd.scope.names:=qk q
   refine bR (zW.mp (iT fd.scope.names (s.heap.objs.size+1) [] (C.nm y) (.inl hc))) fun c Gn=> ?_
   refine⟨.inl q,c,Gn,?_⟩
   have:=x.cell _ c Gn
   rwa[CW _ _ _ _ Sj hm (by rw[hk,q];decide)]at this
 ·have ab:=x.above y c hm
  refine⟨nn _ (Nat.le_of_lt ab),by exact Nat.ne_of_gt ab,d9 S.uA (Nat.le_of_lt ab),_,x.cell y c (pP ck hm)⟩
theorem MM{f:Nat}{fn:Fn}{fd:FuncData}{body:List Stmt}{vs:List V}{ρ:aO}{s:Shared}{β:Bt}{σ:H}{us:List Value}(Fn:GX C N P f fn fd body)(hb:Mine.bindL fn.params vs fn.j8=some ρ)(S:bG C s.heap β σ)(rr:aB C s.heap β vs us):
  ∃vs' ws,BindsTo s fd ⟨us,[]⟩ ((fn.params.map C.nm).zip ws)/\aB C s.heap β vs' ws/\vs'.length=fn.params.length/\ρ=fn.params.zip vs':=by
 refine iX (xr hb) fun h1 h2 q2=> ?_
 have hd:∃(dv:Array Value) (od:Option (Array Value)),od.getD #[]=dv/\aB C C.eG [] fn.j8 dv.toList/\(∀(M:Model) (A:Around) (E:Value->Shared->Prop) (Q:Option (Array Value)->Shared->Prop),Q od s->wpAny M A (seqItems? fd.defaults) Q E s):=
  Fn.dfl.elim (fun u=>⟨#[],none,rfl,by rw[u.1];exact rfl,fun M A E Q q=>by rw[u.2];exact cW q⟩) fun u=>jz u fun T o dv n e1 e2 e3 e4=>⟨dv,some dv,rfl,e4,fun M A E Q q=>by rw[e1];exact wpAny_seqItems (S.ir _ _ e2) e3 q⟩
 refine aW hd fun dv od hod hdv agK=>⟨_,_,?_,rr.append (S.CZ hdv).drop,?_,q2⟩
 ·have hdl:=hdv.length
  have hus:=rr.length
  have bd:=Dk (s:=s) (us:=us) Fn.pp Fn.pn Fn.pk Fn.pv Fn.pw Fn.nd (by rw[fU,hus];exact h1) (by rw[fU,hus,hdl];exact h2) (by rw[fU,hdl];exact Fn.ag9) hod agK
  rw[fU,hus,hdl]at bd
  exact bd
 ·rw[fV,List.length_drop];exact(aco h1 h2).symm
theorem MI(ok:cN C){f:Nat}{fn:Fn}{fd:FuncData}{body:List Stmt}(Fn:GX C N P f fn fd body)(co:fk C P c d)(nw:jG C P c d){vs:List V}{ρ:aO}{σ aK:H}{fl:Fl}{be:aO}(hb:Mine.bindL fn.params vs fn.j8=some ρ)(hx:kW P c fn.body ρ σ=some (fl,be,aK))
  {A:Around}{s:Shared}{β:Bt}{us:List Value}(R:BJ (d+1) A)(S:bG C s.heap β σ)(rr:aB C s.heap β vs us):
  codeAny (model C.prog C.w) A (.call (.ref (C.fa f)) ⟨us,[]⟩) (fun r s'=>∃u,r=.ok (.ret u)/\bH C β s (match fl with| .ret v=>v| .next=>.none) aK u s') s:=by
 refine aD Fn.aA fun o ho hd=>d7 (MM Fn hb S rr) fun vs' ws bd rw' k6 q2=> ?_
 have keep:=S.ir
 refine codeAny_call_function (ur (ur R.2.1)) (keep _ _ ho) hd Fn.co Fn.gen Fn.Rn (yk Fn.code keep) (bd _ _ _ _ ?_)
 rw[Fn.clo]
 have cl:∀y,fd.scope.names.lookup y=some .cell->((callEnvC fd s.heap.objs.size (C.fa f)).cells.lookup y).isSome=true:=fun y q=>iT fd.scope.names _ [] y (.inl (qk q))
 refine wpAny_newFunctionEnv_cells Fn.kind (fun y hy=>aD (eY.mp (List.of_mem_zip hy).1) fun p hp e=> ?_) fun ai he s1 x=> ?_
 ·show fd.scope.names.lookup y.1=_\/_
  rw[<-e];exact(Fn.ER p hp).imp id fun q=>⟨q,cl _ q⟩
 have Ri:ai=callEnvC fd s.heap.objs.size (C.fa f):=he
 subst Ri
 have hsz:s.heap.objs.size<=s1.heap.objs.size:=Nat.le_of_lt x.toInCall.ns.lt
 have st:aM kQ β s β s1:=Vy x.toInCall.same fun h' tk e=>e▸ .Nz (by rw[e]at hsz;exact hsz) fun a o g Z=>by have:=x.toInCall.keep a o g;rw[e]at this;exact this
 have S1:bG C s1.heap β σ:=S.keep x.toInCall.keep hsz
 refine⟨(ok.lim.keeps keep).keeps x.toInCall.keep,codeAny_func ?_⟩
 have R':gO d false (A.deeper (callEnvC fd s.heap.objs.size (C.fa f))):=by
  refine iX R fun r1 r2 r3=>⟨r1,?_,?_⟩
  ·show A.depth+1+10*d+8<_;lia
  ·show A.units+3+200*d+400<_;lia
 refine dN (Fn.rep c d (callEnvC fd s.heap.objs.size (C.fa f)) ⟨rfl,cl⟩ co nw _ _ _ _ _ hx _ _ s1 β R' S1 (q2▸Mx Fn S S1 k6 (st.IJ S rw') x)) (fun fl' s2 q=>eH q fun iD bS S2 F2 fr=> ?_) fun Z Z x=>x
 have eV:aM kQ β s iD s2:=(st.qK.trans bS).fresh fun z hz=>hz.elim (fun q=>q▸bX _) fun⟨n,hm⟩=>Nat.le_of_lt (x.above n z hm)
 cases fl with
 |next=>cases fr;exact⟨_,rfl,iD,eV,S2,rfl⟩
 |ret v=>exact aD fr fun u q1 ru=>by subst q1;exact⟨_,rfl,iD,eV,S2,ru⟩
theorem Kn(ok:cN C)(fns:∀f fn,P.fn f=some fn->∃fd body,GX C N P f fn fd body)(nw:∀c d,fk C P c d->jG C P c d):∀d,fk C P (bC P d) d
 |0=>fun f vs σ v aK h=>bJ h
 |d+1=>fun f vs σ v aK h A s β us R S rr=>agE h fun fn e1 h=>aae h fun ρ e2 h=>ads h fun fl cu σ1 e3 h=>Vy (fns f fn e1) fun fd body Fn=>by
  refine kT h ?_
  have co:=Kn ok fns nw d
  exact MI ok Fn co (nw _ _ co) e2 e3 R S rr
end
end
section
structure D0(C:Cx)(P:b5)(k:Nat):Prop where
 adh:makesIn C.K (C.ca k)=true
 own:∀f,P.pD k=some f->findIn C.K (.ref (C.ca k)) "__init__"=some (some (.ref (C.fa f)))/\typeIn C.K (.ref (C.fa f))=some (.type "function")
 none:P.pD k=Option.none->findIn C.K (.ref (C.ca k)) "__init__"=some (some (.builtin "object.__init__"))
section
variable{C:Cx}{N:bz C}{P:b5}{c:Calls}{d:Nat}
theorem Mq{s:Shared}{β:Bt}{σ:H}(S:bG C s.heap β σ)(k:Nat):
  let h':=(s.heap.push emptyDict).push (instObj (C.ca k) s.heap.objs.size)
  bG C h' (β++[(s.heap.objs.size+1,s.heap.objs.size)]) (σ++[.bE k []])/\aM kQ β s (β++[(s.heap.objs.size+1,s.heap.objs.size)]) {s with heap:=h'}/\
   (β++[(s.heap.objs.size+1,s.heap.objs.size)])[σ.length]? =some (s.heap.objs.size+1,s.heap.objs.size):=by
 intro h'
 have hk:∀a o,s.heap.get? a=some o->h'.get? a=some o:=fun a o e=>k8 _ (k8 _ e)
 have hz:s.heap.objs.size<=h'.objs.size:=by rw[j3,j3];exact(VH)
 have g1:h'.get? (s.heap.objs.size+1)=some (instObj (C.ca k) s.heap.objs.size):=(by have:=sH (s.heap.push emptyDict) (o:=instObj (C.ca k) s.heap.objs.size) rfl;rwa[j3]at this)
 have g2:h'.get? s.heap.objs.size=some (dictOf [] 0):=k8 _ (sH _ rfl)
 refine⟨S.add hk hz (lT _) (bX _) ⟨(qR (Nat.lt_succ_self _)),fun Z hm=>(nomatch hm),[],g1,g2,rfl⟩,aM.more (tk:=s.toks) hk hz (lT _) (bX _),?_⟩
 rw[<-S.len];simp
theorem Wg(ok:cN C)(mk:∀k,D0 C P k)(co:fk C P c d):jG C P c d:=fun k vs σ v aK h A s β us R S rr=>by
 obtain⟨hh,g,dr,t,os⟩:=s
 have X:C.K.In hh:=S.K ok
 have Y:=makes_of (M:=model C.prog C.w) X (mk k).adh
 refine iX (Mq S k) fun S1 bw e1=> ?_
 refine adt h (fun f σ1 e e2 h=> ?_) fun e ev q0=> ?_
 ·refine dw ((mk k).own f e) fun f1 f2=> ?_
  ·refine kT h ?_
   refine make_core Y (looks_findIn X f1) (fun self=>bind_fn X self f2) (.inl rfl) ?_
   have R':BJ d (A.under (.builtin "type.__call__" ⟨.ref (C.ca k)::us,[]⟩)):=by
    refine iX R fun q1 q2 q3=> ?_
    simp only[if_true]at q2 q3
    refine⟨q1,?_,?_⟩
    ·show A.depth+1+10*d+2<_;lia
    ·show A.units+1+200*d+250<_;lia
   refine codeAny_mono (co f _ _ _ _ e2 _ _ _ (.ref (hh.objs.size+1)::us) R' S1 ⟨_,_,rfl,⟨_,e1,rfl⟩,bw.IJ S rr⟩) fun r s' q=> ?_
   refine Qy q fun u q1 iD bS S2 ru=> ?_;subst q1
   exact⟨ru,_,rfl,iD,bw.trans bS,S2,_,bS.at _ _ e1,rfl⟩
 ·subst ev
  ·refine kT q0 ?_
   cases rr
   refine make_core Y (looks_findIn X ((mk k).none e)) (fun self=>Looks.of_pure (oi_bind self)) (.inr ⟨rfl,rfl⟩) ?_
   have hx:((hh.push emptyDict).push (instObj (C.ca k) hh.objs.size)).get? (hh.objs.size+1)=some (instObj (C.ca k) hh.objs.size):=(by have:=sH (hh.push emptyDict) (o:=instObj (C.ca k) hh.objs.size) rfl;rwa[j3]at this)
   have t1:Looks (model C.prog C.w) ((hh.push emptyDict).push (instObj (C.ca k) hh.objs.size)) (typeOf (.ref (hh.objs.size+1))) (.ref (C.ca k)):=(Looks.ld hx).andThen .now
   have t2:Looks (model C.prog C.w) ((hh.push emptyDict).push (instObj (C.ca k) hh.objs.size)) (isInstance (.ref (hh.objs.size+1)) (.type "object")) true:=t1.andThen (Y.top.keeps fun b o e=>k8 _ (k8 _ e))
   refine codeAny_call_builtin oi_plain entry_oi (@check_slot (model C.prog C.w) _ _ _ "object.__init__" "object" "__init__" (.ref (hh.objs.size+1)) [] [] _ oi_kind oi_split t2 (oi_args (.ref (hh.objs.size+1))) ?_)
   rw[oi_run]
   exact cW (And.intro rfl ⟨_,rfl,_,bw,S1,_,e1,rfl⟩)
end
end
structure iH(names:List (Str×NameKind))(ai:Env):Prop where
 aC:∀n,names.lookup n=some .globalImplicit->ai.kindOf n=some .globalImplicit
 ah:∀n,names.lookup n=some .local->ai.kindOf n=some .local
 cell:∀n,names.lookup n=some .cell->ai.kindOf n=some .cell/\(ai.cells.lookup n).isSome=true
 free:∀n,names.lookup n=some .free->(ai.kindOf n=some .cell\/ai.kindOf n=some .free)/\(ai.cells.lookup n).isSome=true
 kind:ai.scope.kind=.function
noncomputable def gy(cells:List (Str×Addr)):List (Str×NameKind)->List (Str×Addr)->List (Str×Addr)
 |[],bV=>bV
 |(n,k)::r,bV=>gy cells r (if k==.free then(match cells.lookup n with|some a=>(n,a)::bV|none=>bV)else bV)
theorem F9{cells:List (Str×Addr)}{n:Str}{k:NameKind}{r:List (Str×NameKind)}{bV:List (Str×Addr)}:gy cells ((n,k)::r) bV=gy cells r (if k==.free then(match cells.lookup n with|some a=>(n,a)::bV|none=>bV)else bV):=rfl
theorem tK{cells:List (Str×Addr)}:∀(names:List (Str×NameKind)) (bV:List (Str×Addr)) (x:Str×Addr),x∈gy cells names bV->x∈bV\/(cells.lookup x.1=some x.2/\(x.1,NameKind.free)∈names)
 |[],bV,x,h=>.inl h
 |(n,k)::r,bV,x,h=>by
  rcases tK r _ x h with g|⟨h1,h2⟩
  ·by_cases q:(k==NameKind.free)=true
   ·skip
    rw[jE]at q;subst q
    cases e:cells.lookup n with
    |some a=>
     rw[e]at g
     rcases cH.mp g with rfl|g
     ·exact .inr ⟨e,by simp⟩
     ·exact .inl g
    |none=>rw[e]at g;exact .inl g
   ·rw[aG q]at g;exact .inl g
  ·exact .inr ⟨h1,ye _ h2⟩
theorem zu{cells:List (Str×Addr)}{x:Str}:∀(names:List (Str×NameKind)) (bV:List (Str×Addr)),((x,NameKind.free)∈names/\(cells.lookup x).isSome=true)\/(bV.lookup x).isSome=true->((gy cells names bV).lookup x).isSome=true
 |[],bV,h=>by
  rcases h with⟨h,_⟩|h
  ·cases h
  ·exact h
 |(n,k)::r,bV,h=>by
  refine zu r _ ?_
  rcases h with⟨h,hc⟩|h
  ·rcases cH.mp h with h|h
   ·cases h
    right
    obtain⟨a,e⟩:=zW.mp hc
    simp[e]
   ·exact .inl ⟨h,hc⟩
  ·right
   split
   ·split
    ·rw[qS];cases x==n<;>simp[h]
    ·exact h
   ·exact h
theorem mD{cells:List (Str×Addr)}:∀(names:List (Str×NameKind)) (bV:List (Str×Addr)),(names.map (·.1)).Nodup->(bV.map (·.1)).Nodup->(∀x∈bV,x.1∉names.map (·.1))->((gy cells names bV).map (·.1)).Nodup
 |[],bV,_,h,_=>h
 |(y,k)::r,bV,h1,h2,h3=>by
  rw[fT,u8]at h1
  rw[F9]
  have h3':∀x∈bV,x.1∉r.map (·.1):=fun z hz q=>h3 z hz (by exact ye _ q)
  split
  ·split
   ·refine mD r _ h1.2 ?_ ?_
    ·rw[fT,u8]
     refine⟨fun q=> ?_,h2⟩
     obtain⟨z,hz,e⟩:=eY.mp q
     exact h3 z hz (by rw[e];simp)
    ·intro z hz
     rcases cH.mp hz with rfl|hz
     ·exact h1.1
     ·exact h3' z hz
   ·exact mD r _ h1.2 h2 h3'
  ·exact mD r _ h1.2 h2 h3'
theorem QF{scope:Scope}{ai:Env}(h:∀n,(n,NameKind.free)∈scope.names->(ai.cells.lookup n).isSome=true):closureFor scope ai=pure (gy ai.cells scope.names []):=by
 unfold closureFor
 have key:∀(names:List (Str×NameKind)) (bV:List (Str×Addr)),(∀n,(n,NameKind.free)∈names->(ai.cells.lookup n).isSome=true)->
   (forIn names bV (fun x (cs:List (Str×Addr))=>(match x with|(name,kind)=>if(kind==NameKind.free)=true then(do let a <-cellOf ai name;pure (ForInStep.yield ((name,a)::cs)))else pure (ForInStep.yield cs):Sem (ForInStep (List (Str×Addr))))))=(pure (gy ai.cells names bV):Sem _):=by
  intro names
  induction names with
  |nil=>intro bV _;rfl
  |cons x r ih=>
   obtain⟨n,k⟩:=x
   intro bV hh
   rw[zU,F9]
   by_cases q:(k==NameKind.free)=true
   ·have q':=q
    rw[jE]at q';subst q'
    obtain⟨a,e⟩:=zW.mp (hh n (by simp))
    have hc:cellOf ai n=pure a:=by unfold cellOf;rw[e]
    simp only[if_true,hc,pure_bind,e]
    exact ih _ fun m hm=>hh m (ye _ hm)
   ·simp only[q,pure_bind,Bw]
    exact ih _ fun m hm=>hh m (ye _ hm)
 have:=key scope.names [] h
 simp only[bind_pure]
 exact this
theorem oi{ai:Env}:∀{names:List (Str×NameKind)} {x:Str} {k:NameKind},names.lookup x=some k->
  (names.map fun(n,k)=>if(k==NameKind.free&&ai.scope.kind==.function&&ai.kindOf n==some .cell)then(n,NameKind.cell)else(n,k)).lookup x=some (if(k==NameKind.free&&ai.scope.kind==.function&&ai.kindOf x==some .cell)then .cell else k)
 |[],_,_,h=>by exact bJ h
 |(n,k)::r,x,k',h=>by
  have ih:=@oi ai r x k'
  show List.lookup x ((if(k==NameKind.free&&ai.scope.kind==.function&&ai.kindOf n==some .cell)=true then(n,NameKind.cell)else(n,k))::_)=_
  cases hx:x==n with
  |true=>
   simp only[qS,hx]at h
   refine xF h ?_
   have:x=n:=jE.mp hx
   subst this
   split<;>simp
  |false=>
   simp only[qS,hx]at h
   by_cases hc:(k==NameKind.free&&ai.scope.kind==.function&&ai.kindOf n==some .cell)=true
   ·rw[aI hc];simp only[qS,hx];exact ih h
   ·rw[aG hc];simp only[qS,hx];exact ih h
theorem HY{ai:Env}{scope:Scope}{L:Addr}(hk:scope.kind=.function)(adF:∀y∈scope.names,y.2≠ .cell)(hf:∀n,(n,NameKind.free)∈scope.names->(ai.cells.lookup n).isSome=true):
  iH scope.names (compEnvC scope (gy ai.cells scope.names []) L ai):=by
 have hr:∀{n k},scope.names.lookup n=some k->(compEnvC scope (gy ai.cells scope.names []) L ai).kindOf n=some (if(k==NameKind.free&&ai.scope.kind==.function&&ai.kindOf n==some .cell)then .cell else k):=fun h=>oi h
 refine⟨fun n h=> ?_,fun n h=> ?_,fun n h=> ?_,fun n h=> ?_,hk⟩
 ·rw[hr h];rfl
 ·rw[hr h];rfl
 ·exact absurd rfl (adF _ (qk h))
 ·refine⟨?_,zu _ _ (.inl ⟨qk h,hf n (qk h)⟩)⟩
  rw[hr h]
  split
  ·exact .inl rfl
  ·exact .inr rfl
theorem Qw{sc:Scope}{ai:Env}(E:Tz sc ai)(hk:sc.kind=.function)(adC:∀y∈sc.names,y.2≠ .free):iH sc.names ai:=by
 have hr:∀n,ai.kindOf n=sc.names.lookup n:=fun n=>by unfold Env.kindOf;rw[E.1]
 refine⟨fun n h=>by rw[hr,h],fun n h=>by rw[hr,h],fun n h=>⟨by rw[hr,h],E.2 n (by rw[hr,h])⟩,fun n h=>absurd rfl (adC _ (qk h)),by rw[E.1];exact hk⟩
section
noncomputable def DC(C:Cx)(N:bz C)(ai:Env)(x:Nat):Prop:=N.ok x=true/\ai.kindOf (C.nm x)=some .local
inductive tR(C:Cx)(N:bz C)(ai:Env):List Nat->Expr->Prop
 |aE {x:Nat} {p:Pos}:DC C N ai x->tR C N ai [x] (.Name (C.nm x) p)
 |AW {x y:Nat} {p q r:Pos} {k:Nat}:x≠y->DC C N ai x->DC C N ai y->tR C N ai [x,y] (.Tuple [.Name (C.nm x) p,.Name (C.nm y) q] k r)
section
variable{C:Cx}{N:bz C}{P:b5}{c:Calls}{d:Nat}{b:Bool}{ai:Env}{β bL:Bt}{σ σ1:H}{s s1:Shared}{A:Around}{E:Value->Shared->Prop}{ρ:aO}{h h':Heap}{X:Addr->Prop}
theorem DC.BI{x:Nat}(h:DC C N ai x):BO C N ai x:=⟨h.1,.inl h.2⟩
theorem tR.rep{tg:List Nat}{t:Expr}(h:tR C N ai tg t):qY C N ai tg t:=by
 cases h with
 |aE h=>exact .aE h.BI
 |AW _ h1 h2=>exact .ak (.cons h1.BI (.cons h2.BI .nil)) (bX 2)
theorem V1{it:Addr}{s0:V}{n k:Nat}(I:jZ C s.heap β it s0 n k){Q:Value->Shared->Prop}(h:Q (.ref it) s):wpAny (model C.prog C.w) A (pyIter (.ref it)) Q E s:=by
 cases s0 with
 |ak xs=>
  rcases I with⟨t,vs,t1,r,o,ho,hc,hd⟩|⟨m,e,hm,ti⟩
  ·have hT:s.TypeIs (.ref it) "tuple_iterator":=⟨_,ho,hc⟩
   refine wpAny_pyIter_slot hT F.slot_tuple_iterator_iter (yc F.slot_tuple_iterator_iter hT F.entry_tuple_iterator_iter ?_ (F.args_tuple_iterator_iter_1 _))
   exact cW ⟨_,rfl,"tuple_iterator",_,hT,F.slot_tuple_iterator_next.lookup,h⟩
  ·exact wpAny_pyIter_rangeiter ti h
 |ref i=>
  refine aD I fun ad Z q=> ?_
  rcases q with⟨_,ti⟩|⟨m,_,ti⟩
  ·exact wpAny_pyIter_listiter ti h
  ·exact wpAny_pyIter_keyiter ti h
 |_=>exact I.elim
theorem wX(F:aF C N s β ai ρ):∀a ao,IsTup s.heap a ao->a≠ai.locals:=fun a ao t q=>by
 refine eH F.ah fun m ns hf Z Z=> ?_
 subst q;exact lE ns ao t
theorem aF.ZH{be:aO}(F:aF C N s β ai ρ)(h:∀x v,ay x be=some v->ay x ρ=some v):aF C N s β ai be:=
 ⟨F.kind,F.aC,F.blt,fun x v e=>F.names x v (h x v e),let⟨m,a,b,c,e⟩:=F.ah;⟨m,a,b,c,fun x v q=>e x v (h x v q)⟩,F.cells,F.apart⟩
theorem Cp{α:Type}:∀(a b:List (Nat×α)) (x:Nat),ay x (a++b)=(ay x a).or (ay x b)
 |[],b,x=>rfl
 |(y,v)::a,b,x=>by
  rw[List.cons_append,gk,gk]
  split
  ·simp
  ·exact Cp a b x
theorem MQ{tg:List Nat}{t:Expr}{v:V}{b:aO}{r:Value}{Q:Unit->Shared->Prop}(hA:A.handled=none)(ht:tR C N ai tg t)(hb:cT tg v=some b)(rv:aL C s.heap β v r)(S:bG C s.heap β σ)(F:aF C N s β ai ρ)
  (h:∀s',aM (fun a=>a=ai.locals) β s β s'->bG C s'.heap β σ->aF C N s' β ai (b++ρ)->Q () s'):wpAny (model C.prog C.w) A (assign t ai r) Q E s:=by
 cases ht with
 |aE hx=>
  revert h
  exact xF hb fun h=>wpAny_assign_Name (qZ S F hx.1 hx.2 rv h)
 | @AW x y p q k r' Nh hx hy=>
  refine Bd fun G kG=>JG hb (fun _ e _=>nomatch e) fun vs q1 hl q3=> ?_
  cases vs with
  |nil=>exact nomatch hl
  |cons v1 vs=>cases vs with
  |nil=>exact nomatch hl
  |cons v2 vs=>cases vs with
  |cons=>exact nomatch hl
  |nil=>
  have rv:aL C s.heap β (.ak [v1,v2]) r:=q1▸rv
  refine aW rv fun a us q2 t1 r1=>kG (q2▸BR hA (.cons hx.BI (.cons hy.BI .nil)) rfl t1 r1 S F fun s2 bS S2 F2 r2=> ?_)
  refine aW r2 fun u1 us' q6 r1 r2=>aW r2 fun u2 aeU q10 r2 q11=> ?_
  have q11:aeU=[]:=q11
  rw[q6,q10,q11]
  refine bK (j0 (wpAny_assign_Name (qZ S2 F2 hx.1 hx.2 r1 fun s3 eV S3 F3=> ?_)))
  have r3:aL C s3.heap β v2 u2:=aL.keep (eV.ak S2 fun a ao t=>wX F2 a ao t) (fun Z Z e=>e) _ _ r2
  refine bK (j0 (wpAny_assign_Name (qZ S3 F3 hy.1 hy.2 r3 fun s4 lJ S4 F4=>cW (h s4 (((bS.dP fun Z q=>q.elim).trans eV).trans lJ) S4 (F4.ZH fun z w e=> ?_)))))
  rw[q3]at e
  have e:(if z=x then some v1 else if z=y then some v2 else ay z ρ)=some w:=e
  show(if z=y then some v2 else if z=x then some v1 else ay z ρ)=some w
  by_cases z1:z=x
  ·have z2:¬z=y:=fun q=>Nh (z1▸q)
   rw[aI z1]at e
   rw[aG z2,aI z1];exact e
  ·rw[aG z1]at e
   by_cases z2:z=y
   ·rw[aI z2]at e⊢;exact e
   ·rw[aG z2]at e⊢
    rw[aG z1];exact e
inductive TW(C:Cx)(N:bz C)(P:b5)(c:Calls)(d:Nat)(b:Bool)(ai:Env):List Cd->List Expr->Prop
 |nil:TW C N P c d b ai [] []
 |cons {x:Cd} {xs:List Cd} {e:Expr} {es:List Expr}:SC C N P c d b ai x e->TW C N P c d b ai xs es->TW C N P c d b ai (x::xs) (e::es)
theorem tW{E:Value->Shared->Prop}{s:Shared}{Q:Bool->Shared->Prop}(h:Q false s):∀es:List Expr,
  wpAny (model C.prog C.w) A (forIn es false fun c r=>if r=true then do let ok <-isTrue c ai (eval c ai);pure (ForInStep.yield ok)else pure (ForInStep.yield r)) Q E s
 |[]=>cW h
 |e::es=>by
  rw[zU]
  exact bK (cW (tW h es))
theorem O0{xs:List Cd}{es:List Expr}{ρ:aO}{aK:H}{t:Bool}(hs:TW C N P c d b ai xs es):∀{σ:H} {s:Shared} {β:Bt} {Q:Bool->Shared->Prop},Nm P c true xs ρ σ=some (t,aK)->gO d b A->bG C s.heap β σ->aF C N s β ai ρ->
  (∀s' bP,aM kQ β s bP s'->bG C s'.heap bP aK->Q t s')->
  wpAny (model C.prog C.w) A (forIn es true fun c r=>if r=true then do let ok <-isTrue c ai (eval c ai);pure (ForInStep.yield ok)else pure (ForInStep.yield r)) Q E s:=by
 induction hs with
 |nil=>
  intro σ s β Q h R S F hQ
  exact cW (Bc h▸hQ s β .rfl' (AX h▸S))
 |cons hc _ ih=>
  intro σ s β Q h R S F hQ
  refine yx h fun b1 σ1 e1 h=> ?_
  rw[zU,aI rfl]
  refine bK (bK (jF.cont (hc ρ σ b1 σ1 e1 A E s β R S F) fun s1 bL bw S1=>cW ?_))
  cases b1 with
  |true=>exact ih h R S1 (F.step S bw) fun s2 iD bS S2=>hQ s2 iD (bw.trans bS) S2
  |false=>
   have h:some (false,σ1)=some (t,aK):=h
   exact tW (Bc h▸hQ s1 bL bw (AX h▸S1)) _
end
end
section
structure Clp where
 prog:Program
 w:World
 A:Around
 R:Result->Shared->Prop
 it:Value
 bV:Value
 target:Expr
 qG:Expr
 ifs:List Expr
 ai:Env
section
variable(c:Clp)(J:Shared->Prop)
noncomputable def kE:Value->Shared->Prop:=notedBy (model c.prog c.w) c.A c.ai fun e s'=>c.R (.error e) s'
noncomputable def k4(x:Value)(s:Shared):Prop:=wpAny (model c.prog c.w) c.A (call (.builtin "list.append") [c.bV,x]) (fun _ s=>J s) (kE c) s
noncomputable def k3(ok:Bool)(s:Shared):Prop:=if ok=true then wpAny (model c.prog c.w) c.A (eval c.qG c.ai) (k4 c J) (kE c) s else J s
noncomputable def k2(_:Unit)(s:Shared):Prop:=wpAny (model c.prog c.w) c.A (forIn c.ifs true fun e r=>if r=true then do let ok <-isTrue e c.ai (eval e c.ai);pure (ForInStep.yield ok)else pure (ForInStep.yield r)) (k3 c J) (kE c) s
noncomputable def k1(v:Value)(_:Unit)(s:Shared):Prop:=wpAny (model c.prog c.w) c.A (assign c.target c.ai v) (k2 c J) (kE c) s
noncomputable def k0(r:Option Value)(s:Shared):Prop:=match r with
 |none=>c.R (.ok .next) s
 |some v=>wpAny (model c.prog c.w) c.A (letOwnedTupleGo c.target c.it v) (k1 c J v) (kE c) s
end
theorem Xn{c:Clp}{iter:Expr}{scope:Scope}{pos:Pos}{s:Shared}(I:Nat->Shared->Prop)(fN:∀n s,I n s->wpAny (model c.prog c.w) c.A (pyNext c.it) (k0 c (jn I n)) (kE c) s)(n:Nat)(h:I n s):
  codeAny (model c.prog c.w) c.A (.compLoop (.ListComp c.qG [⟨c.target,iter,c.ifs,0⟩] scope pos) 0 c.it c.bV c.ai) c.R s:=by
 refine codeAny_loop rfl I (fun n s hI=> ?_) n h
 show wpAny _ c.A ((compTurn (.ListComp c.qG [⟨c.target,iter,c.ifs,0⟩] scope pos) 0 c.it c.bV c.ai).onRaise (fun x=>do noteFrame x c.ai;theTreesLotGoes x)) _ _ s
 refine wpAny_noted ?_
 rw[compTurn_list]
 refine bK (sF (bK (dN (fN n s hI) (fun r aeW aai=> ?_) fun Z Z h'=>h')))
 cases r with
 |none=>exact cW aai
 |some v=>
  refine bK (dN aai (fun Z ahx adB=> ?_) fun Z Z h'=>h')
  refine bK (dN adB (fun Z ahA agJ=>bK (dN agJ (fun ok ZJ aah=> ?_) fun Z Z h'=>h')) fun Z Z h'=>h')
  cases ok with
  |false=>exact cW ⟨rfl,aah⟩
  |true=>
   exact bK (bK (dN aah (fun x ZI agI=>bK (dN agI (fun Z ahz agH=>cW (cW ⟨rfl,agH⟩)) fun Z Z h'=>h')) fun Z Z h'=>h'))
section
variable{C:Cx}{N:bz C}{P:b5}{c:Calls}{d:Nat}{b:Bool}{ai:Env}{β bL:Bt}{σ σ1:H}{s s1:Shared}{A:Around}{E:Value->Shared->Prop}{ρ:aO}{h h':Heap}{X:Addr->Prop}
set_option tactic.hygienic true in
theorem Ho{s0:V}{n k:Nat}{v:V}(h:cI σ s0 n k=some (some v)):k<aJ:=
 JH h (fun _ _ q e=>Nat.lt_trans (kX.mp e).1 q) (fun _ _ _ _ q _ e=>Nat.lt_trans (kX.mp e).1 q) fun _ _ _ _ _ q h _ e=>
  aD (ve.mp e) fun p hp _=>Nat.lt_trans (Nat.lt_succ_of_lt (kX.mp hp).1) (show _+1<aJ from q.symm▸h)
noncomputable def fM(h:Heap)(D:Addr)(us:List Value):Prop:=∃n,h.get? D=some {cls:=.type "list",data:=.seq us.toArray n}
theorem fM.fL{D:Addr}{us:List Value}(l:fM h D us):∀ao,¬IsTup h D ao:=fun ao ⟨o,ho,hc,_⟩=>by
 refine bR l fun n g=> ?_
 rw[g]at ho;cases ho;exact absurd (show Value.type "list"=Value.type "tuple" from hc) (by decide)
theorem Cn{α:Type}:∀{l:List (Nat×α)} {x:Nat} {v:α},ay x l=some v->x∈l.map (·.1)
 |(y,u)::r,x,v,h=>by
  rw[gk]at h
  split at h
  ·rename_i q;subst q;simp
  ·exact ye _ (Cn h)
theorem C7{tg:List Nat}{v:V}{b:aO}(h:cT tg v=some b):b.map (·.1)=tg:=
 JG h (fun x e q=>by rw[e,q];rfl) fun vs _ hl q=>q▸List.map_fst_zip (nk hl)
theorem aF.Kh{tg:List Nat}{v:V}{b:aO}(e:cT tg v=some b)(GN:∀x∈tg,ay x ρ=none)(F:aF C N s β ai (b++ρ)):aF C N s β ai ρ:=F.ZH fun x v h=>by
 rw[Cp]
 cases q:ay x b with
 |none=>exact h
 |some w=>exact bJ ((GN x (C7 e▸Cn q)).symm.trans h)
noncomputable def EM(P:b5)(c:Calls)(el:Ex)(tg:List Nat)(cond:List Cd)(ρ:aO):V->H->Option (Option V×H):=fun v σ=>match cT tg v with
 | .none=>.none
 |some b=>match Nm P c true cond (b++ρ) σ with
  | .none=>.none
  |some (t,σ1)=>if t then(match gK P c el (b++ρ) σ1 with
    |some (v,aX)=>some (some v,aX)
    | .none=>.none)else some (.none,σ1)
noncomputable abbrev XC(it D L:Addr):Addr->Prop:=fun a=>a=it\/a=D\/a=L
set_option tactic.hygienic true in
noncomputable def CI(C:Cx)(N:bz C)(ai:Env)(ρ:aO)(T:V->H->Option (Option V×H))(s0:V)(n:Nat)(vs:List V)(aK:H)(it D:Addr)(β:Bt)(s:Shared)(m:Nat)(s':Shared):Prop:=
 ∃k Im ue zP rest us,compLoop T s0 n m k Im=some (rest,aK)/\zP++rest=vs/\zP.length<=k/\fM s'.heap D us/\aB C s'.heap ue zP us/\aM (XC it D ai.locals) β s ue s'/\bG C s'.heap ue Im/\aF C N s' ue ai ρ/\jZ C s'.heap ue it s0 n k
theorem fM.at(l:fM h D us)(k:h'.get? D=h.get? D):fM h' D us:=let⟨n,g⟩:=l;⟨n,k.trans g⟩
theorem Pr{el:Ex}{tg:List Nat}{cond:List Cd}{qG target iter:Expr}{ifs:List Expr}{scope:Scope}{pos:Pos}{s0:V}{n j:Nat}{vs:List V}{aK:H}{it D:Addr}(ok:cN C)(ht:tR C N ai tg target)(hel:SE C N P c d b ai el qG)(adE:TW C N P c d b ai cond ifs)
  (GN:∀x∈tg,ay x ρ=none)(BD:compLoop (EM P c el tg cond ρ) s0 n j 0 σ=some (vs,aK))(R:gO d b A)(S:bG C s.heap β σ)(F:aF C N s β ai ρ)(I0:jZ C s.heap β it s0 n 0)(hf:¬Fp β it)(hb:C.eG.objs.size<=it)(hx:¬FX ai it)
  (hD:fM s.heap D [])(hDf:¬Fp β D)(hDb:C.eG.objs.size<=D)(hDx:¬FX ai D)(hDi:D≠it)
  {K:Result->Shared->Prop}(hK:∀s' bP us,aM (XC it D ai.locals) β s bP s'->bG C s'.heap bP aK->aF C N s' bP ai ρ->fM s'.heap D us->aB C s'.heap bP vs us->K (.ok .next) s'):
  codeAny (model C.prog C.w) A (.compLoop (.ListComp qG [⟨target,iter,ifs,0⟩] scope pos) 0 (.ref it) (.ref D) ai) K s:=by
 have BE:=I0.lt
 have Jl:D<s.heap.objs.size:=let⟨_,g⟩:=hD;jr g
 refine Xn (c:=⟨C.prog,C.w,A,K,.ref it,.ref D,target,qG,ifs,ai⟩) (CI C N ai ρ (EM P c el tg cond ρ) s0 n vs aK it D β s) ?_ j
  ⟨0,σ,β,[],vs,[],BD,rfl,bX _,hD,rfl,.rfl',S,F,I0⟩
 refine fun m s1 u0=>tP u0 fun k Im ue zP rest us hl q7 Jk D1 ru st S1 F1 I1=> ?_
 have Nj:¬Fp ue it:=fun q=>hf ((st.fp BE).mp q)
 have aao:¬Fp ue D:=fun q=>hDf ((st.fp Jl).mp q)
 have nt:=I1.fL
 refine Bd fun G kG=>Wu hl (fun j _ e1 e=> ?_) fun j v r0 σ1 us2 aX qm e1 e2 e3 e=> ?_
 ·refine kG (Ca ok R.1 I1 S1 e1 Nj fun h2 he hz=> ?_)
  have hk:∀b o,b≠it->s1.heap.get? b=some o->h2.get? b=some o:=fun b o hb e=>he b o hb e
  have bS:aM (fun a=>a=it) ue s1 ue {s1 with heap:=h2}:=.Nz hz fun a o e hn=>hk a o (fun q=>hn (.inr q)) e
  have ev:zP=vs:=(lU zP).symm.trans (Bc e▸q7)
  have es:Im=aK:=AX e
  exact hK _ ue us (st.trans (bS.dP fun Z q=>.inl q)) (es▸S1.ZA hk hz Nj hb nt) (F1.ZA hk nt hx) (let⟨n',g⟩:=D1;⟨n',hk _ _ hDi g⟩)
   (ev▸aB.keep (bS.ak S1 fun a ao t q=>nt ao (q▸t)) (fun Z Z e=>e) _ _ ru)
 subst qm
 refine aae e2 fun bb e4 e2=>adn e2 fun t kU e6 e2=> ?_
 have ev:r0.toList++us2=rest:=Bc e
 have e3:compLoop (EM P c el tg cond ρ) s0 n j (k+1) σ1=some (us2,aK):=AX e▸e3
 refine kG (Kr ok I1 S1 e1 Nj hb fun h2 tk r hs S2 I2 rv=> ?_)
 have F2:aF C N {s1 with heap:=h2,toks:=tk} ue ai ρ:=(F1.cD hs nt hx).toks tk
 have bS:aM (fun a=>a=it) ue s1 ue {s1 with heap:=h2,toks:=tk}:=.aE hs (.inr rfl)
 refine xd (s:={s1 with heap:=h2,toks:=tk}) ht.rep I2 (MQ R.1 ht e4 rv S2 F2 fun s3 eV S3 F3=> ?_)
 have nl:∀a ao,IsTup h2 a ao->¬a=ai.locals:=fun a ao t q=>wX F2 a ao t q
 have ru3:aB C s3.heap ue zP us:=aB.keep (eV.ak S2 nl) (fun Z Z e=>e) _ _ (ru.cD hs nt)
 have D3:fM s3.heap D us:=let⟨n',g⟩:=D1;⟨n',eV.qL _ _ ((hs.2 _ hDi).trans g) fun q=>q.elim aao fun q=>hDx (.inl q)⟩
 have I3:=I2.step S2 eV nl Nj fun q=>hx (.inl q)
 have stA:=(st.trans (bS.dP fun Z q=>.inl q)).trans (eV.dP fun Z q=>.inr (.inr q))
 refine O0 adE e6 R S3 F3 fun s4 Ie lJ S4=> ?_
 have F4:=F3.step S3 lJ
 have YC:=stA.trans (lJ.dP fun Z q=>q.elim)
 have ru4:=lJ.IJ S3 ru3
 have hf4:¬Fp Ie it:=fun q=>hf ((YC.fp BE).mp q)
 have D4:fM s4.heap D us:=let⟨n',g⟩:=D3;⟨n',lJ.oO g aao⟩
 have I4:=I3.step S3 lJ (fun Z Z Z q=>q) Nj id
 cases t with
 |false=>
  have e5:some ((none:Option V),kU)=some (r0,σ1):=e2
  have er:none=r0:=Bc e5
  exact⟨j,Nat.lt_succ_self j,k+1,kU,Ie,zP,us2,us,(AX e5).symm▸e3,by rw[<-q7,<-ev,<-er];rfl,Nat.le_succ_of_le Jk,D4,ru4,YC,S4,F4.Kh e4 GN,I4⟩
 |true=>
  refine bB e2 fun w TA e7 e2=> ?_
  have er:some w=r0:=Bc e2
  refine bH.cont (hel _ _ _ _ e7 A _ s4 Ie R S4 F4) fun r5 s5 β5 ym S5 rv5=> ?_
  have stC:=YC.trans (ym.dP fun Z q=>q.elim)
  have ru5:=ym.IJ S4 ru4
  refine bR D4 fun n' g=> ?_
  have agM:¬Fp Ie D:=fun q=>hDf ((YC.fp Jl).mp q)
  have g5:=ym.oO g agM
  have Y7:∀ao,¬IsTup s5.heap D ao:=fM.fL ⟨n',g5⟩
  refine append_at g5 (fun h6 Zl g6=> ?_) (by rw[mY,ru5.length];exact fz (Bx Jk (Ho e1)))
  have Ig:aM (fun a=>a=D) β5 s5 β5 {s5 with heap:=h6}:=.aE Zl (.inr rfl)
  exact⟨j,Nat.lt_succ_self j,k+1,TA,β5,zP++[w],us2,us++[r5],(AX e2).symm▸e3,by rw[<-q7,<-ev,<-er,List.append_assoc];rfl,by rw[fV];exact Nat.succ_le_succ Jk,⟨n'+1,by rw[g6];simp⟩,
   (ru5.cD Zl Y7).append (aB.aE (rv5.cD Zl Y7)),stC.trans (Ig.dP fun Z q=>.inr (.inl q)),S5.cD Zl (fun q=>hDf ((stC.fp Jl).mp q)) hDb Y7,((F4.step S4 ym).cD Zl Y7 hDx).Kh e4 GN,
   (I4.step S4 ym (fun Z Z Z q=>q) hf4 id).step S5 Ig (fun a ao t q=>Y7 ao (q▸t)) (fun q=>hf ((stC.fp BE).mp q)) fun q=>hDi q.symm⟩
end
end
section
structure Am(C:Cx)(N:bz C)(P:b5)(c:Calls)(d:Nat)(b:Bool)(iZ:List (Str×NameKind))(el:Ex)(tg:List Nat)(jb:List Nat)(cond:List Cd)(qG target iter:Expr)(ifs:List Expr)(scope:Scope):Prop where
 agO:∀ai x,foldedSetIterable iter ai x=pure x
 kind:scope.kind=.function
 cell:∀y∈scope.names,y.2≠ .cell
 nd:(scope.names.map (·.1)).Nodup
 Ox:∀x∈scope.names,x.2=.local->scope.names.lookup x.1=some .local
 free:∀n,(n,NameKind.free)∈scope.names->iZ.lookup n=some .cell\/iZ.lookup n=some .free
 OG:∀x∈jb,scope.names.lookup (C.nm x)=some .free
 tgt:∀ai,iH scope.names ai->tR C N ai tg target
 dis:∀x∈tg,jb.contains x=false
 elem:∀ai,iH scope.names ai->SE C N P c d b ai el qG
 acX:∀ai,iH scope.names ai->TW C N P c d b ai cond ifs
section
variable{C:Cx}{N:bz C}{P:b5}{c:Calls}{d:Nat}{b:Bool}{ai:Env}{β bL:Bt}{σ σ1:H}{s s1:Shared}{A:Around}{E:Value->Shared->Prop}{ρ:aO}{h h':Heap}{X:Addr->Prop}
theorem ja{p:Nat->Bool}:∀{l:aO} {x:Nat} {v:V},ay x (l.filter fun e=>p e.1)=some v->ay x l=some v/\p x=true
 |(y,u)::r,x,v,h=>by
  rw[List.filter_cons]at h
  split at h
  ·rename_i hp
   rw[gk]at h⊢
   split at h
   ·rename_i q;subst q;exact⟨by rw[aI rfl];exact h,hp⟩
   ·rename_i q
    rw[aG q];exact ja h
  ·rename_i hp
   refine dw (ja h) fun h1 h2=> ?_
   rw[gk]
   refine⟨?_,h2⟩
   split
   ·rename_i q;subst q;exact absurd h2 hp
   ·exact h1
theorem nU{scope:Scope}{x:Str×Addr}(h:x∈gy ai.cells scope.names []):x∈ai.cells:=by
 rcases tK _ _ x h with h|⟨h,_⟩
 ·exact nomatch h
 ·exact qk h
theorem EC{scope:Scope}(hn:(scope.names.map (·.1)).Nodup)(ha:ai.cells.Pairwise fun x y=>x.2≠y.2):(gy ai.cells scope.names []).Pairwise fun x y=>x.2≠y.2:=by
 have hk:((gy ai.cells scope.names []).map (·.1)).Nodup:=mD _ _ hn List.nodup_nil fun Z hm=>nomatch hm
 have Iv:(gy ai.cells scope.names []).Pairwise fun x y=>x.1≠y.1:=List.pairwise_map.mp hk
 refine Iv.imp_of_mem fun{x y} hx hy Nh q=>Nh ?_
 exact name_of_addr ha (nU hx) (q▸nU hy)
theorem Xl{iZ:List (Str×NameKind)}{el:Ex}{tg jb:List Nat}{cond:List Cd}{qG target iter:Expr}{ifs:List Expr}{scope:Scope}{pos:Pos}{s0:V}{n j:Nat}{vs:List V}{aK:H}{it:Addr}(ok:cN C)(V:iH iZ ai)(K:Am C N P c d b iZ el tg jb cond qG target iter ifs scope)
  (BD:compLoop (EM P c el tg cond (ρ.filter fun e=>jb.contains e.1)) s0 n j 0 σ=some (vs,aK))(R:gO d b A)(S:bG C s.heap β σ)(F:aF C N s β ai ρ)(I0:jZ C s.heap β it s0 n 0)(hf:¬Fp β it)(hb:C.eG.objs.size<=it)(hx:¬FX ai it)
  {RR:Value->Addr->Result->Shared->Prop}
  (hR:∀D L s' bP us m,D≠L->L≠it->s.heap.objs.size<=D->s.heap.objs.size<=L->L<s'.heap.objs.size->D<s'.heap.objs.size->¬Fp bP D->¬Fp bP L->s'.heap.Ns L m->aM (XC it D L) β s bP s'->bG C s'.heap bP aK->fM s'.heap D us->aB C s'.heap bP vs us->RR (.ref D) L (.ok .next) s'):
  wpAny (model C.prog C.w) A (newList []) (fun bV ZJ=>wpAny (model C.prog C.w) A (newFunctionEnv scope ai.globals (gy ai.cells scope.names []) [] ai.qual none .none (some ai)) (fun ab3 ZI=>
   codeAny (model C.prog C.w) A (.compStart (.ListComp qG [⟨target,iter,ifs,0⟩] scope pos) 0 (.ref it) bV {ab3 with scope:=relabel scope ai}) (RR bV ab3.locals) ZI) E ZJ) E s:=by
 have cf:∀n,(n,NameKind.free)∈scope.names->(ai.cells.lookup n).isSome=true:=fun n hn=>by
  rcases K.free n hn with q|q
  ·exact(V.cell n q).2
  ·exact(V.free n q).2
 have UO:=I0.lt
 refine wpAny_newObj_type (wpAny_newFunctionEnv K.cell (by intro y hy;simp at hy) (fun h1 aaj OC=> ?_) K.kind)
 generalize hH2:s.heap.push {cls:=.type "list",dict:=none,data:=.seq ([]:List Value).toArray}=H2 at aaj OC⊢
 have hC:H2.objs.size=s.heap.objs.size+1:=by rw[<-hH2,j3]
 have hDC:s.heap.objs.size≠H2.objs.size:=by rw[hC];exact qR (Nat.lt_succ_self _)
 have old:∀a o,s.heap.get? a=some o->h1.get? a=some o:=fun a o e=>by
  have lt:=jr e
  exact OC.extBut a o (by rw[hC];exact qR (Nat.lt_succ_of_lt lt)) (k8 _ (hH2▸k8 _ e))
 have hz1:h1.objs.size=H2.objs.size+1:=by rw[OC.1,j3]
 have hz:s.heap.objs.size<=h1.objs.size:=by rw[hz1,hC];exact(VH)
 have Jk:fM h1 s.heap.objs.size []:=⟨_,OC.extBut _ _ hDC (k8 _ (hH2▸sH _ rfl))⟩
 generalize hs4:({s with heap:=h1,toks:=s.toks+([]:List (Str×Value)).length}:Shared)=s4
 have lJ:aM kQ β s β s4:=by rw[<-hs4];exact aM.EX old hz
 have S4:bG C s4.heap β σ:=by rw[<-hs4];exact S.keep old hz
 have F4:=F.step S lJ
 have h4:s4.heap=h1:=by rw[<-hs4]
 have I4:jZ C s4.heap β it s0 n 0:=I0.step S lJ (fun Z Z Z q=>q) hf id
 have nL:¬Fp β H2.objs.size:=S.jh (by rw[hC];exact lT _)
 have nD:¬Fp β s.heap.objs.size:=S.jh (bX _)
 have V':iH scope.names (compEnvC scope (gy ai.cells scope.names []) H2.objs.size ai):=HY K.kind K.cell cf
 have Lg:∀x c,(x,c)∈ai.cells->c<s.heap.objs.size:=fun x c hm=>by
  refine l0 (F.cells x c hm) fun Z Z Z v ic=> ?_
  exact ic.lt
 have FC:aF C N s4 β (compEnvC scope (gy ai.cells scope.names []) H2.objs.size ai) (ρ.filter fun e=>jb.contains e.1):=by
  refine⟨K.kind,F.aC,F.blt,fun x v e=>F.names x v (ja e).1,⟨_,h4▸aaj,nL,d9 S.uA (by show s.heap.objs.size<=H2.objs.size;rw[hC];exact lT _),fun x v e=> ?_⟩,fun x c hm=> ?_,EC K.nd F.apart⟩
  ·refine dw (ja e) fun e1 e2=> ?_
   refine eH F4.ah fun m Z Z Z hv=> ?_
   refine aD (hv x v e1) fun u ru q=> ?_
   refine⟨u,ru,.inr ?_⟩
   have hfr:=K.OG x (by simpa using e2)
   have hof:=K.free _ (qk hfr)
   have hnl:ai.kindOf (C.nm x)≠some .local:=by
    rcases hof with q|q
    ·rw[(V.cell _ q).1];decide
    ·rcases(V.free _ q).1 with z|z<;>(rw[z];decide)
   rcases q with⟨q,_⟩|⟨_,c,hc,ic⟩
   ·exact absurd q hnl
   ·refine⟨(V'.free _ hfr).1,c,?_,ic⟩
    refine bR (zW.mp (V'.free _ hfr).2) fun c' Gn=> ?_
    rcases tK _ _ _ (qk Gn)with z|⟨z,_⟩
    ·cases z
    ·have:c'=c:=by rw[hc]at z;exact(ig z).symm
     exact this▸Gn
  ·have Ni:=nU hm
   refine l0 (F4.cells x c Ni) fun k1 k2 k3 v ic=> ?_
   have lt:=Lg x c Ni
   exact⟨k1,by show c≠H2.objs.size;rw[hC];exact qR (Nat.lt_succ_of_lt lt),k3,v,ic⟩
 have fxn:∀a,a<s.heap.objs.size->¬FX ai a->¬FX (compEnvC scope (gy ai.cells scope.names []) H2.objs.size ai) a:=fun a ha hn q=>by
  rcases q with q|⟨nn,hm⟩
  ·have q':a=H2.objs.size:=q
   rw[hC]at q';lia
  ·exact hn (.inr ⟨nn,nU hm⟩)
 have fxD:¬FX (compEnvC scope (gy ai.cells scope.names []) H2.objs.size ai) s.heap.objs.size:=fun q=>by
  rcases q with q|⟨nn,hm⟩
  ·exact hDC q
  ·exact Nat.lt_irrefl _ (Lg _ _ (nU hm))
 have GN:∀x∈tg,ay x (ρ.filter fun e=>jb.contains e.1)=none:=fun x hx=>by
  cases q:ay x (ρ.filter fun e=>jb.contains e.1)with
  |none=>rfl
  |some v=>have:=(ja (p:=fun y=>jb.contains y) q).2;rw[K.dis x hx]at this;cases this
 have hLi:H2.objs.size≠it:=by rw[hC];exact Nat.ne_of_gt (Nat.lt_succ_of_lt UO)
 have hLs:s.heap.objs.size<=H2.objs.size:=by rw[hC];exact lT _
 have ZW:codeAny (model C.prog C.w) A (.compLoop (.ListComp qG [⟨target,iter,ifs,0⟩] scope pos) 0 (.ref it) (.ref s.heap.objs.size) (compEnvC scope (gy ai.cells scope.names []) H2.objs.size ai)) (RR (.ref s.heap.objs.size) H2.objs.size) s4:=by
  refine Pr ok (K.tgt _ V') (K.elem _ V') (K.acX _ V') GN BD R S4 FC I4 hf hb (fxn _ UO hx) (h4▸Jk) nD S.uA fxD (Nat.ne_of_gt UO) fun s' bP us Nu S' F' D' ru=> ?_
  refine dF F'.ah fun m' Gj nL' Z=> ?_
  have Jl:s.heap.objs.size<s4.heap.objs.size:=by rw[h4,hz1,hC];exact(OT (iY))
  have nD':¬Fp bP s.heap.objs.size:=fun q=>nD ((Nu.fp Jl).mp q)
  exact hR s.heap.objs.size H2.objs.size s' bP us m' hDC hLi (bX _) hLs Gj.lt (let⟨_,g⟩:=D';jr g) nD' nL' Gj ((lJ.dP fun Z q=>q.elim).trans Nu) S' D' ru
 exact codeAny_compStart_list ZW (V1 I4 ZW)
end
end
section
section
variable{C:Cx}{h h':Heap}{β bP:Bt}{σ aK:H}
theorem bG.Ds(S:bG C h β σ){D:Addr}{o:Ob}(hf:¬Fp β D)(hb:C.eG.objs.size<=D)(R:qN C h (β++[(D,D)]) (D,D) o):bG C h (β++[(D,D)]) (σ++[o]):=by
 have gr:∀(i:Nat) (bd:Addr×Addr),β[i]? =some bd->(β++[(D,D)])[i]? =some bd:=fun i bd e=>by
  rw[mZ (kX.mp e).1,e]
 have qp:∀(i:Nat) (bd:Addr×Addr),(β++[(D,D)])[i]? =some bd->β[i]? =some bd\/(i=β.length/\bd=(D,D)):=fun i bd e=>by
  rcases Nat.lt_or_ge i β.length with Iu|Rh
  ·rw[mZ Iu]at e;exact .inl e
  ·rw[vg Rh]at e
   have:i - β.length=0:=by
    rcases Nat.eq_zero_or_pos (i - β.length)with q|q
    ·exact q
    ·rw[List.getElem?_eq_none (by simp only[yf];lia)]at e;exact bJ e
   rw[this]at e
   simp at e
   exact .inr ⟨by lia,e.symm⟩
 have ne:∀{i:Nat} {bd:Addr×Addr},β[i]? =some bd->bd.1≠D/\bd.2≠D:=fun e=>⟨fun q=>hf ⟨_,S.mem e,.inl q.symm⟩,fun q=>hf ⟨_,S.mem e,.inr q.symm⟩⟩
 refine⟨by simp[S.len],fun i o' bd e1 e2=> ?_,fun i j bd cd e1 e2 NI=> ?_,S.ir,fun bd hm=> ?_,S.uA⟩
 ·rcases qp i bd e2 with q|⟨rfl,rfl⟩
  ·have hi:i<σ.length:=S.len▸(kX.mp q).1
   rw[mZ hi]at e1
   exact qN.keep (fun Z Z t=>t) gr (fun Z e=>e) (fun Z e=>e) (S.ob i o' bd e1 q)
  ·rw[S.len,vg (bX _)]at e1
   simp at e1
   subst e1;exact R
 ·rcases qp i bd e1 with q|⟨rfl,rfl⟩<;>rcases qp j cd e2 with p|⟨rfl,rfl⟩
  ·exact S.apart i j bd cd q p NI
  ·exact⟨(ne q).1,(ne q).1,(ne q).2,(ne q).2⟩
  ·exact⟨(ne p).1.symm,(ne p).2.symm,(ne p).1.symm,(ne p).2.symm⟩
  ·exact absurd rfl NI
 ·rcases gj.mp hm with hm|hm
  ·exact S.new bd hm
  ·simp at hm;subst hm
   exact⟨hb,hb⟩
end
section
variable{C:Cx}{N:bz C}{P:b5}{c:Calls}{d:Nat}{b:Bool}{ai:Env}{β bL:Bt}{σ σ1:H}{s s1:Shared}{A:Around}{E:Value->Shared->Prop}{ρ:aO}{h h':Heap}{X:Addr->Prop}
theorem y9{s':Shared}{bP:Bt}{aK:H}{D:Addr}{us:List Value}{vs:List V}(S':bG C s'.heap bP aK)(hD:fM s'.heap D us)(ru:aB C s'.heap bP vs us)(hf:¬Fp bP D)(hb:C.eG.objs.size<=D):
  bG C s'.heap (bP++[(D,D)]) (aK++[.list vs])/\aL C s'.heap (bP++[(D,D)]) (.ref aK.length) (.ref D):=by
 obtain⟨n,g⟩:=hD
 refine⟨S'.Ds hf hb ⟨rfl,us,n,g,aB.keep (fun Z Z t=>t) (fun i bd e=>by rw[mZ (kX.mp e).1,e]) _ _ ru⟩,(D,D),?_,rfl⟩
 rw[<-S'.len];simp
theorem xo{iZ:List (Str×NameKind)}{el x:Ex}{tg jb:List Nat}{cond:List Cd}{qG target iter:Expr}{ifs:List Expr}{scope:Scope}{pos:Pos}{v:V}{aK:H}{use:Option (Value->Sem Unit)}{Q:Value->Shared->Prop}(ok:cN C)(V:iH iZ ai)(K:Am C N P c d b iZ el tg jb cond qG target iter ifs scope)(hx:SE C N P c d b ai x iter)
  (he:gK P c (.comp el tg x jb cond) ρ σ=some (v,aK))(R:gO d b A)(S:bG C s.heap β σ)(F:aF C N s β ai ρ)
  (hQ:∀D L s' bP us m vs σ1,v=.ref σ1.length->aK=σ1++[.list vs]->D≠L->s.heap.objs.size<=D->s.heap.objs.size<=L->¬Fp bP L->¬Fp bP D->s'.heap.Ns L m->aM kQ β s bP s'->bG C s'.heap bP σ1->fM s'.heap D us->aB C s'.heap bP vs us->
   compPost (model C.prog C.w) A E use Q (.ref D) L (.ok .next) s'):
  wpAny (model C.prog C.w) A (comprehension (.ListComp qG [⟨target,iter,ifs,0⟩] scope pos) scope ai (firstIterPos [⟨target,iter,ifs,0⟩] pos) (newList []) false (eval iter ai) use) Q E s:=by
 refine bB he fun s0 σ0 e1 he=> ?_
 refine GK he fun xs e2 he=> ?_
 refine lq he fun vs σ1 e3 he=> ?_
 simp only[Option.some.injEq,Prod.mk.injEq]at he;obtain⟨rfl,rfl⟩:=he
 have cf:∀n,(n,NameKind.free)∈scope.names->(ai.cells.lookup n).isSome=true:=fun n hn=>by
  rcases K.free n hn with q|q
  ·exact(V.cell n q).2
  ·exact(V.free n q).2
 refine wpAny_comprehension_free rfl (K.agO ai) (QF cf) K.kind K.Ox (bH.cont (hx ρ σ s0 σ0 e1 A E s β R S F) fun r s1 bL bw S1 rr=> ?_)
 refine KY ok S1 e2 rr fun o I0=> ?_
 have F1:=(F.step S bw).step S1 (aM.push o)
 have S2:=S1.push o
 have bS:aM kQ β s bL {s1 with heap:=s1.heap.push o}:=bw.trans (aM.push o)
 have F0:=F.step S bw
 refine Xl (s:={s1 with heap:=s1.heap.push o}) ok V K (n:=fX σ0 s0) (j:=xs.length+1) (s0:=s0) e3 R S2 F1 I0 (S1.jh (bX _)) (d9 S1.uA (bX _)) (F0.jh (bX _)) fun D L s' bP us m YJ hLi hD hL hLs hDs nD nL Gj Nu S' D' ru=> ?_
 have hsz:s.heap.objs.size<=s1.heap.objs.size:=bw.size
 have hpz:(s1.heap.push o).objs.size=s1.heap.objs.size+1:=j3 ..
 have hD':s1.heap.objs.size+1<=D:=hpz▸hD
 have hL':s1.heap.objs.size+1<=L:=hpz▸hL
 have eV:aM kQ β s bP s':=by
  have:=(bS.dP fun Z q=>q.elim).trans Nu
  refine this.fresh fun z hz=> ?_
  rcases hz with rfl|rfl|rfl<;>lia
 exact hQ D L s' bP us m vs σ1 rfl rfl YJ (dU (aZ hsz) hD') (dU (aZ hsz) hL') nL nD Gj eV S' D' ru
theorem Q7{iZ:List (Str×NameKind)}{el x:Ex}{tg jb:List Nat}{cond:List Cd}{qG target iter:Expr}{ifs:List Expr}{scope:Scope}{pos:Pos}(ok:cN C)(V:iH iZ ai)(K:Am C N P c d b iZ el tg jb cond qG target iter ifs scope)(hx:SE C N P c d b ai x iter):
  SE C N P c d b ai (.comp el tg x jb cond) (.ListComp qG [⟨target,iter,ifs,0⟩] scope pos):=fun ρ σ v aK h A E s β R S F=>by
 rw[eval_ListComp]
 refine xo (use:=none) ok V K hx h R S F fun D L s' bP us m vs σ1 e1 e2 YJ hD hL nL nD Gj st S' D' ru=>⟨m,Gj,fun h' hs=> ?_⟩
 subst e1 e2
 have nt:=lE Gj
 have tk:=iN hs nt
 have S2:bG C h' bP σ1:=S'.cD hs nL (d9 S.uA hL) nt
 have D2:fM h' D us:=by obtain⟨n,g⟩:=D';exact⟨n,(hs.2 _ YJ).trans g⟩
 have M:=y9 (s':={s' with heap:=h'}) S2 D2 (aB.keep tk (fun Z Z e=>e) _ _ ru) nD (d9 S.uA hD)
 have bS:aM kQ β s bP {s' with heap:=h'}:=by
  have:aM (fun a=>a=L) β s bP {s' with heap:=h'}:=(st.dP fun Z q=>q.elim).trans (.aE hs (.inr rfl))
  exact this.fresh fun z hz=>hz▸hL
 have eV:aM kQ β s (bP++[(D,D)]) {s' with heap:=h'}:=by
  obtain⟨γ,e,g⟩:=bS.xQ
  refine⟨⟨γ++[(D,D)],by rw[e];simp,fun ad hm=> ?_⟩,bS.size,bS.qL,bS.same⟩
  rcases gj.mp hm with hm|hm
  ·exact g ad hm
  ·simp at hm;subst hm;exact⟨hD,hD⟩
 exact⟨_,eV,M.1,M.2⟩
theorem QW{iZ:List (Str×NameKind)}{el x:Ex}{y:Nat}{tg jb:List Nat}{cond:List Cd}{qG target iter:Expr}{ifs:List Expr}{scope:Scope}{pos p1 ZL:Pos}{n:Str}(ok:cN C)(V:iH iZ ai)(K:Am C N P c d false iZ el tg jb cond qG target iter ifs scope)(hx:SE C N P c d false ai x iter)
  (hn:n=C.nm y)(hy:DC C N ai y)(TM:swapsWith (.ListComp qG [⟨target,iter,ifs,0⟩] scope pos) (some (.Name n p1)) ZL.line ai=pure true):
  SS C N P c d ai (.aQ (.nm y) (.comp el tg x jb cond)) (.Assign [.Name n p1] (.ListComp qG [⟨target,iter,ifs,0⟩] scope pos) ZL):=fun ρ σ f be aK h A E s β R S F=>by
 subst hn
 refine bB h fun v aX e0 h=> ?_
 have h:some (Fl.next,(y,v)::ρ,aX)=some (f,be,aK):=h
 cases h
 rw[exec_Assign_Name_used _ _ _ _ TM]
 refine bK (sF (bK ?_))
 show wpAny _ A (do let _ <-comprehension (.ListComp qG [⟨target,iter,ifs,0⟩] scope pos) scope ai _ (newList []) false (eval iter ai) (some (assign (.Name (C.nm y) p1) ai))) _ _ s
 refine bK (dN (xo (use:=some (assign (.Name (C.nm y) p1) ai)) (Q:=fun Z s'=>tT C N ai β s .next ((y,v)::ρ) aK .next s') ok V K hx e0 R S F fun D L s' bP us m vs σ1 e1 e2 YJ hD hL nL nD Gj st S' D' ru=> ?_) (fun Z s' hq=>cW (cW hq)) fun Z Z e=>e)
 subst e1 e2
 have M:=y9 S' D' ru nD (d9 S.uA hD)
 have bw:aM kQ β s (bP++[(D,D)]) s':=by
  obtain⟨γ,e,g⟩:=st.xQ
  refine⟨⟨γ++[(D,D)],by rw[e];simp,fun ad hm=> ?_⟩,st.size,st.qL,st.same⟩
  rcases gj.mp hm with hm|hm
  ·exact g ad hm
  ·simp at hm;subst hm;exact⟨hD,hD⟩
 have F1:=F.step S bw
 show wpAny _ A (assign (.Name (C.nm y) p1) ai (.ref D)) _ _ _
 refine wpAny_assign_Name (qZ M.1 F1 hy.1 hy.2 M.2 fun s3 eV S3 F3=> ?_)
 have hLl:L≠ai.locals:=fun q=>(F.jh hL) (.inl q)
 have ns3:s3.heap.Ns L m:=by
  obtain⟨o,es,n',ho,r⟩:=Gj
  refine⟨o,es,n',eV.qL _ _ ho fun q=> ?_,r⟩
  rcases q with⟨ad,hm,q⟩|q
  ·rcases gj.mp hm with hm|hm
   ·exact nL ⟨ad,hm,q⟩
   ·simp at hm;subst hm
    rcases q with q|q<;>exact YJ q.symm
  ·exact hLl q
 refine⟨m,ns3,fun h' hs=> ?_⟩
 have nt:=lE ns3
 have nL3:¬Fp (bP++[(D,D)]) L:=by
  intro u0;obtain⟨ad,hm,q⟩:=u0
  rcases gj.mp hm with hm|hm
  ·exact nL ⟨ad,hm,q⟩
  ·simp at hm;subst hm
   rcases q with q|q<;>exact YJ q.symm
 refine⟨bP++[(D,D)],?_,S3.cD hs nL3 (d9 S.uA hL) nt,F3.cD hs nt (F.jh hL),rfl⟩
 have stA:aM (FX ai) β s (bP++[(D,D)]) s3:=bw.qK.trans (eV.dP fun Z q=>.inl q)
 have YC:aM (fun a=>FX ai a\/a=L) β s (bP++[(D,D)]) {s3 with heap:=h'}:=(stA.dP fun Z q=>.inl q).trans (.aE hs (.inr (.inr rfl)))
 exact aM.tF YC hL
end
end
section
section
variable{prog:Program}{w:World}{A:Around}{E:Value->Shared->Prop}{s:Shared}
theorem HV{D t:Addr}{its ys:Array Value}{n:Nat}{Q:Value->Shared->Prop}(ho:s.heap.get? D=some {cls:=.type "list",data:=.seq its n})(ht:IsTup s.heap t ys)(hsz:its.size+ys.size<=sizeLine)
  (h:∀h',Heap.SameBut D s.heap h'->(∃k,h'.get? D=some {cls:=.type "list",data:=.seq (its++ys) k})->Q .none {s with heap:=h'}):
  wpAny (model prog w) A (call (.builtin "list.extend") [.ref D,.ref t]) Q E s:=by
 refine nJ ht fun ot Zk TL k ht3=> ?_
 refine yc PySem.F.slot_list_extend ⟨_,ho,rfl⟩ PySem.F.entry_list_extend ?_ (PySem.F.args_list_extend_2 _ _)
 show wpAny _ _ (Builtin.List.listExtendWith (.ref D) (.ref t) .none) _ _ s
 refine bK (wpAny_typeOf (T:="tuple") ⟨_,Zk,TL⟩ ?_)
 rw[aI (by rw[je];right;decide)]
 refine bK (listItems_at Zk ht3 ?_)
 refine bK (listItems_at ho rfl ?_)
 have hz:Builtin.List.listTooLong (its.size+ys.size)=false:=by
  unfold Builtin.List.listTooLong;simp;exact hsz
 rw[hz,Bool.and_false]
 refine bK (listUpdate_at ho rfl ?_ (dU (iY) hsz) (by rw[Array.size_append];exact(aZ hsz)))
 refine cW ⟨.none,rfl,h _ (Heap.SameBut.update ..) ?_⟩
 have hm:∃k,Obj.mapSeq (fun x=>x++ys) {cls:=.type "list",data:=.seq its n}={cls:=.type "list",data:=.seq (its++ys) k}:=⟨_,rfl⟩
 refine bR hm fun k hm=> ?_
 exact⟨k,by rw[Heap.get?_update_self _ ho (by rw[hm];rfl),hm]⟩
end
section
variable{C:Cx}{N:bz C}{P:b5}{c:Calls}{d:Nat}{b:Bool}{ai:Env}{β bL:Bt}{σ σ1:H}{s s1:Shared}{A:Around}{E:Value->Shared->Prop}{ρ:aO}{h h':Heap}{X:Addr->Prop}
theorem Yp{x y:Ex}{o e:Expr}{pY pos}(hb:attributeBase o "extend" ai (eval o ai)=eval o ai)(he:isStarred e=false)(vC:(pY.endLine==pos.line)=true)(hx:SE C N P c d b ai x o)(hy:SE C N P c d b ai y e):
  SE C N P c d b ai (.ext x y) (.Call (.Attribute o "extend" pY) [e] [] pos):=fun ρ σ v aK h A E s β R S F=>by
 refine bB h fun ov σ1 e1 h=> ?_
 refine lK h fun hL h=> ?_
 refine bB h fun w aX e2 h=> ?_
 refine Dv h fun kU e3 h=> ?_
 refine kT h ?_
 have iW:[e].all (fun e=> !isStarred e)=true:=congrArg (fun b=> !b&&true) he
 refine j9 hb iW (gP rfl) vC (bH.cont (hx ρ σ ov σ1 e1 A E s β R S F) fun r1 s1 bL bw S1 mR=> ?_)
 refine d7 (K2 S1 hL mR) fun a ob q2 g hc hd=> ?_;subst q2
 refine⟨.builtin "list.extend",[.ref a],fun pl Q' hq=>getMethod_builtin ⟨_,g,hc⟩ PySem.F.plainAttrs_list PySem.F.slot_list_extend PySem.F.type_list_extend (fun a e=>by cases e;exact⟨_,g,hd⟩) hq,?_⟩
 refine Calls.callWith_builtin (f9 iW ai pos) ?_
 refine dW (mh hy sR he) rfl iW (rB e2) R S1 (F.step S bw) fun us s2 iD bS S2 rr=> ?_
 refine aW rr fun u t q ru rt=> ?_
 rw[q,show t=[]from rt]
 refine ady e3 fun j xs ys eo ew e4 hz e3=> ?_
 have r2:aL C s2.heap iD (.ref j) (.ref a):=eo▸bS.ux S1 mR
 have ru:aL C s2.heap iD (.ak ys) u:=ew▸ru
 refine dm (S2.get e4 r2) fun ad jA ea e' vs n g2 rr=>aW ru fun t us q2 t1 rt=> ?_
 rw[ea,q2]
 refine HV (its:=vs.toArray) (n:=n) g2 t1 (by rw[mY,mY,rr.length,rt.length];exact fz hz) fun h' uf u=>bR u fun k' g'=> ?_
 refine⟨iD,(bw.trans bS).trans (aM.fN (tk:=s2.toks) jA (.inl rfl) uf),e3▸S2.upd jA (.inl rfl) uf ⟨e',vs++us,k',by rw[g'];simp[W.listOf],?_⟩,rfl⟩
 exact aB.keep (fun b ao t=>aD t fun ob TN q=>⟨ob,(uf.2 _ fun q=>S2.fL t ⟨ad,S2.mem jA,.inl q⟩).trans TN,q⟩) (fun Z Z e=>e) _ _ (aB.append rr rt)
end
end
section
noncomputable def Ny:List V->Nat->List (V×V)->Option (Nat×List (V×V))
 |k::v::r,n,es=>if(n==k.kind||n==0)&&k.kind !=0&&es.length<aJ then Ny r k.kind (dM k v es)else .none
 |[],n,es=>some (n,es)
 |[_],_,_=>.none
theorem adg{k v:V}{r:List V}{n:Nat}{es:List (V×V)}:Ny (k::v::r) n es=if(n==k.kind||n==0)&&k.kind !=0&&es.length<aJ then Ny r k.kind (dM k v es)else .none:=rfl
theorem yX:∀(ws:List V) (σ:H) (n:Nat) (es:List (V×V)),kH ws (σ++[.dict n es]) (.ref σ.length)=(Ny ws n es).map fun r=>σ++[.dict r.1 r.2]
 |[],σ,n,es=>rfl
 |[w],σ,n,es=>rfl
 |k::v::r,σ,n,es=>by
  have hs:dD (σ++[.dict n es]) (.ref σ.length) k v=if(n==k.kind||n==0)&&k.kind !=0&&es.length<aJ then some (σ++[.dict k.kind (dM k v es)])else .none:=by
   have:(σ++[Ob.dict n es])[σ.length]? =some (.dict n es):=by simp
   by_cases q:((n==k.kind||n==0)&&k.kind !=0&&decide (es.length<aJ))=true
   ·rw[vV this q,aI q];simp
   ·rw[aG q];unfold dD;dsimp only;rw[this];exact aG q
  rw[Cb,hs,adg]
  by_cases q:((n==k.kind||n==0)&&k.kind !=0&&decide (es.length<aJ))=true
  ·rw[aI q,aI q]
   exact yX r σ k.kind (dM k v es)
  ·rw[aG q,aG q];rfl
inductive BK(C:Cx)(h:Heap)(β:Bt):List V->List (Value×Value)->Prop
 |nil:BK C h β [] []
 |cons {w1 w2:V} {ws:List V} {u1 u2:Value} {ps:List (Value×Value)}:aL C h β w1 u1->aL C h β w2 u2->BK C h β ws ps->BK C h β (w1::w2::ws) ((u1,u2)::ps)
inductive Np(C:Cx)(N:bz C)(P:b5)(c:Calls)(d:Nat)(b:Bool)(ai:Env):List Ex->List (Option Expr)->List Expr->Prop
 |nil:Np C N P c d b ai [] [] []
 |cons {xk xv:Ex} {xs:List Ex} {k v:Expr} {ks:List (Option Expr)} {vs:List Expr}:SE C N P c d b ai xk k->SE C N P c d b ai xv v->Np C N P c d b ai xs ks vs->Np C N P c d b ai (xk::xv::xs) (some k::ks) (v::vs)
structure iM(C:Cx)(s:Shared)(β:Bt)(D:Addr)(n:Nat)(es:List (V×V)):Prop where
 gi:dZ n es
 at':∃Es,s.heap.get? D=some (dictOf Es Es.length)/\bA C s.heap β es Es
section
variable{C:Cx}{N:bz C}{P:b5}{c:Calls}{d:Nat}{b:Bool}{ai:Env}{β bL:Bt}{σ σ1:H}{s s1:Shared}{A:Around}{E:Value->Shared->Prop}{ρ:aO}{h h':Heap}{X:Addr->Prop}
theorem iM.fL{D:Addr}{n:Nat}{es:List (V×V)}(x:iM C s β D n es):∀ao,¬IsTup s.heap D ao:=fun ao ⟨o,ho,hc,_⟩=>by
 obtain⟨Es,g,_⟩:=x.at'
 rw[g]at ho;cases ho;exact absurd (show Value.type "dict"=Value.type "tuple" from hc) (by decide)
theorem iM.step{D:Addr}{n:Nat}{es:List (V×V)}(x:iM C s β D n es)(S:bG C s.heap β σ)(st:aM kQ β s bL s1)(hD:¬Fp β D):iM C s1 bL D n es:=by
 obtain⟨K,Es,g,r⟩:=x
 exact⟨K,Es,st.oO g hD,bA.keep (st.ak S fun Z Z Z q=>q) st.at _ _ r⟩
theorem Lc{D:Addr}{n:Nat}{es:List (V×V)}{k v:V}{u1 u2:Value}{Q:Unit->Shared->Prop}(R:gO d b A)(S:bG C s.heap β σ)(x:iM C s β D n es)(hD:¬Fp β D)(hb:C.eG.objs.size<=D)(r1:aL C s.heap β k u1)(r2:aL C s.heap β v u2)
  (hc:((n==k.kind||n==0)&&k.kind !=0&&decide (es.length<aJ))=true)
  (h:∀s',aM (fun a=>a=D) β s β s'->bG C s'.heap β σ->iM C s' β D k.kind (dM k v es)->(∃h' tk,s'={s with heap:=h',toks:=tk}/\Heap.SameBut D s.heap h')->Q () s'):wpAny (model C.prog C.w) A (dictSet D u1 u2) Q E s:=by
 have nt:=x.fL
 obtain⟨K,Es,g,rr⟩:=x
 rw[dX,dX,bne_iff_ne,lW]at hc
 have hk:=K.aau hc.1.1
 have hu:=R.units
 refine Rx g rr K hc.1.2 hk r1 r2 (fR hu) hc.2 fun tk h' Gy g' Io uf=> ?_
 have t:=iN uf nt
 exact h _ (.aE uf (.inr rfl)) (S.cD uf hD hb nt) ⟨K.eX hc.1.2 hk,Gy,g',bA.keep t (fun Z Z e=>e) _ _ Io⟩ ⟨h',tk,rfl,uf⟩
theorem Xb{D:Addr}{h0:Heap}{ws:List V}{ps:List (Value×Value)}{n':Nat}{Rk:List (V×V)}{Q:PUnit->Shared->Prop}(rp:BK C h0 β ws ps)(R:gO d b A)(hD:¬Fp β D)(hb:C.eG.objs.size<=D):
  ∀{n:Nat} {es:List (V×V)} {s:Shared},Ny ws n es=some (n',Rk)->(∀a ao,IsTup h0 a ao->IsTup s.heap a ao)->bG C s.heap β σ->iM C s β D n es->
  (∀s',aM (fun a=>a=D) β s β s'->bG C s'.heap β σ->iM C s' β D n' Rk->Q ⟨⟩ s')->wpAny (model C.prog C.w) A (storeAll D ps) Q E s:=by
 induction rp with
 |nil=>exact fun hm _ S x h=>cW (h _ .rfl' S (Bc hm▸AX hm▸x))
 |cons r1 r2 _ ih=>
  intro n es s hm t S x h
  refine lK hm fun hc hm=> ?_
  unfold storeAll
  rw[zU]
  refine bK (bK (Lc R S x hD hb (aL.keep t (fun Z Z e=>e) _ _ r1) (aL.keep t (fun Z Z e=>e) _ _ r2) hc fun s1 bw S1 x1 t1=>cW ?_))
  refine ih hm (fun a ao q=> ?_) S1 x1 fun s2 bS S2 x2=>h s2 (bw.trans bS) S2 x2
  exact lu t1 fun h' tk q2 uf=>q2▸iN uf x.fL a ao (t a ao q)
theorem Pg{pos:Pos}{xs:List Ex}{ks:List (Option Expr)}{vs:List Expr}(hs:Np C N P c d b ai xs ks vs):∀{ws:List V} {σ σ1:H} {s:Shared} {β:Bt} {Q:List (Value×Value)->Shared->Prop},zE P c xs ρ σ=some (ws,σ1)->gO d b A->bG C s.heap β σ->aF C N s β ai ρ->
  (∀ps s' bP,aM kQ β s bP s'->bG C s'.heap bP σ1->BK C s'.heap bP ws ps->Q ps s')->
  wpAny (model C.prog C.w) A (evalPairs (pairTrees ks vs ai pos)) Q E s:=by
 induction hs with
 |nil=>exact fun he R S F h=>cW (h [] _ _ .rfl' (AX he▸S) (Bc he▸ .nil))
 |cons hk hv _ ih=>
  intro ws σ σ1 s β Q he R S F h
  refine Bd fun G kG=>bB he fun a YY e1 he=>lq he fun as σb e2 he=>bB e2 fun b' σc e3 e2=>lq e2 fun bs σd e4 e2=>kG ?_
  have q1:a::b'::bs=ws:=(congrArg (a::·) (Bc e2)).trans (Bc he)
  have q2:σd=σ1:=(AX e2).trans (AX he)
  refine bK (bH.cont (hk ρ σ a YY e1 A E s β R S F) fun r1 s1 bL bw S1 rv1=> ?_)
  have F1:=F.step S bw
  refine bK (j0 (bK (bH.cont (hv ρ YY b' σc e3 A E s1 bL R S1 F1) fun r2 s2 iD bS S2 TJ=> ?_)))
  refine bK (sF (cW ?_))
  refine bK (j0 (ih e4 R S2 (F1.step S1 bS) fun ps s3 Yz eV S3 rp=>cW ?_))
  exact h _ s3 Yz ((bw.trans bS).trans eV) (q2▸S3) (q1▸ .cons (eV.ux S2 (bS.ux S1 rv1)) (eV.ux S2 TJ) rp)
end
end
section
section
variable{C:Cx}{N:bz C}{P:b5}{c:Calls}{d:Nat}{b:Bool}{ai:Env}{β bL:Bt}{σ σ1:H}{s s1:Shared}{A:Around}{E:Value->Shared->Prop}{ρ:aO}{h h':Heap}{X:Addr->Prop}
theorem Np.len{xs:List Ex}{ks:List (Option Expr)}{vs:List Expr}(h:Np C N P c d b ai xs ks vs):ks.all (·.isSome)=true/\ks.length=vs.length:=by
 induction h with
 |nil=>exact⟨rfl,rfl⟩
 |cons _ _ _ ih=>exact⟨ih.1,congrArg Nat.succ ih.2⟩
theorem qE(S:bG C s.heap β σ):bG C (s.heap.push {cls:=.type "dict",data:=.dict #[]}) β σ/\aM kQ β s β {s with heap:=s.heap.push {cls:=.type "dict",data:=.dict #[]}}/\¬Fp β s.heap.objs.size/\
  iM C {s with heap:=s.heap.push {cls:=.type "dict",data:=.dict #[]}} β s.heap.objs.size 0 []:=
 ⟨S.push _,aM.push _,S.jh (bX _),⟨fun Z h=>(nomatch h),fun h=>absurd rfl h,List.nodup_nil⟩,[],sH _ rfl,rfl⟩
theorem wF{s':Shared}{bP:Bt}{D n:Nat}{es:List (V×V)}(S':bG C s'.heap bP σ1)(x:iM C s' bP D n es)(hD:¬Fp bP D)(hb:C.eG.objs.size<=D)(hs:s.heap.objs.size<=D)(st:aM kQ β s bP s'):bH C β s (.ref σ1.length) (σ1++[.dict n es]) (.ref D) s':=by
 obtain⟨K,Es,g,r⟩:=x
 refine⟨bP++[(D,D)],?_,S'.Ds hD hb ⟨rfl,K,Es,g,bA.keep (fun Z Z t=>t) (fun i bd e=>by rw[mZ (kX.mp e).1,e]) _ _ r⟩,(D,D),by rw[<-S'.len];simp,rfl⟩
 refine aD st.xQ fun γ e gg=> ?_
 refine⟨⟨γ++[(D,D)],by rw[e];simp,fun ad hm=> ?_⟩,st.size,st.qL,st.same⟩
 rcases gj.mp hm with hm|hm
 ·exact gg ad hm
 ·simp at hm;subst hm;exact⟨hs,hs⟩
theorem M8{pos:Pos}:SE C N P c d b ai (.dict []) (.Dict [] [] pos):=fun ρ σ v aK h A E s β R S F=>by
 refine kT h ?_
 refine iA (qE S) fun S1 bw nD x=> ?_
 exact wpAny_Dict_empty (wF (s':={s with heap:=s.heap.push {cls:=.type "dict",data:=.dict #[]}}) S1 x nD S.uA (bX _) bw)
theorem CQ{AY:List Ex}{v:V}{σ aK:H}(h:gK P c (.dict AY) ρ σ=some (v,aK)):∃ws σ1 n es,zE P c AY ρ σ=some (ws,σ1)/\Ny ws 0 []=some (n,es)/\v=.ref σ1.length/\aK=σ1++[.dict n es]:=by
 refine lq h fun ws σ1 e1 h=> ?_
 refine Dv h fun aX e2 h=> ?_
 refine kT h ?_
 rw[yX]at e2
 refine aD (ve.mp e2) fun r hr q2=> ?_;subst q2
 exact⟨ws,σ1,r.1,r.2,e1,hr,rfl,rfl⟩
theorem Q5{AY:List Ex}{gi:List (Option Expr)}{values:List Expr}{pos:Pos}(hs:Np C N P c d b ai AY gi values)(h0:gi≠[])(k6:gi.length<=15):SE C N P c d b ai (.dict AY) (.Dict gi values pos):=fun ρ σ v aK h A E s β R S F=>by
 refine jz (CQ h) fun ws σ1 n es e1 e2 q6 q7=> ?_;subst q6;subst q7
 refine dw hs.len fun l1 l2=> ?_
 refine iA (qE S) fun S1 bw nD x=> ?_
 refine wpAny_Dict_any l1 l2 h0 k6 ?_
 refine Pg hs e1 R S1 (F.step S bw) fun ps s2 iD bS S2 rp=> ?_
 have Iu:s.heap.objs.size<(s.heap.push {cls:=.type "dict",data:=.dict #[]}).objs.size:=by rw[j3];exact Nat.lt_succ_self _
 have Y9:¬Fp iD s.heap.objs.size:=fun q=>nD ((bS.fp Iu).mp q)
 refine Xb rp R Y9 S.uA e2 (fun Z Z t=>t) S2 (x.step S1 bS nD) fun s3 eV S3 x3=> ?_
 refine wF S3 x3 Y9 S.uA (bX _) ?_
 exact(((bw.trans bS).dP fun Z q=>q.elim).trans eV).fresh fun z hz=>by rw[hz];exact bX _
theorem t7(f:(Option (Sem Value)×Sem Value)->(Option Addr×List (Sem Value×Sem Value))->Sem (ForInStep (Option Addr×List (Sem Value×Sem Value))))(tail:List (Option (Sem Value)×Sem Value))
  (hf:∀(p:Sem Value×Sem Value) (bC:List (Sem Value×Sem Value)),bC.length+1<17->f (some p.1,p.2) (none,bC)=pure (.yield (none,bC++[p]))):
  ∀(ao bC:List (Sem Value×Sem Value)),bC.length+ao.length<17->forIn (ao.map (fun p=>(some p.1,p.2))++tail) ((none:Option Addr),bC) f=forIn tail (none,bC++ao) f
 |[],bC,_=>by simp
 |p::rest,bC,h=>by
  rw[fT,List.cons_append,zU,hf p bC (by simp at h;exact(uY h rfl)),pure_bind]
  have:=t7 f tail hf rest (bC++[p]) (by simp at h⊢;lia)
  simpa using this
theorem xA(yv:List (Sem Value×Sem Value))(k6:yv.length=17):
  dictDisplay (yv.map fun p=>(some p.1,p.2))=(do let d <-subDict yv;pure (.ref d)):=by
 have hsp:∃pD ZZ,yv=pD++[ZZ]/\pD.length=16:=by
  refine⟨yv.dropLast,yv.getLast (by intro q;rw[q]at k6;cases k6),(List.dropLast_concat_getLast _).symm,by rw[List.length_dropLast,k6]⟩
 refine lu hsp fun pD ZZ q2 hi=> ?_;subst q2
 unfold dictDisplay
 dsimp only
 rw[List.map_append,t7 _ _ (fun p bC h=>by
  have Nh:((bC++[(p.1,p.2)]).length==17)=false:=by simp;exact(ahp (xX h rfl))
  simp only[Nh,Bw,if_false]) pD [] (by simp[hi])]
 simp[hi]
theorem Wl{pos:Pos}{D:Addr}{xs:List Ex}{ks:List (Option Expr)}{vs:List Expr}{n':Nat}{Rk:List (V×V)}{Q:PUnit->Shared->Prop}(hs:Np C N P c d b ai xs ks vs)(R:gO d b A)(hb:C.eG.objs.size<=D)(hx:¬FX ai D):
  ∀{ws:List V} {σ:H} {n:Nat} {es:List (V×V)} {s:Shared} {β:Bt},zE P c xs ρ σ=some (ws,σ1)->Ny ws n es=some (n',Rk)->bG C s.heap β σ->aF C N s β ai ρ->iM C s β D n es->¬Fp β D->
  (∀s' bP,aM (fun a=>a=D) β s bP s'->bG C s'.heap bP σ1->iM C s' bP D n' Rk->¬Fp bP D->Q ⟨⟩ s')->
  wpAny (model C.prog C.w) A (forIn (pairTrees ks vs ai pos) PUnit.unit fun(p:Sem Value×Sem Value) (_:PUnit)=>(do let kv <-p.1;let vv <-holding [kv] p.2;holding [kv,vv] (dictSet D kv vv);pure (ForInStep.yield PUnit.unit):Sem (ForInStep PUnit))) Q E s:=by
 induction hs with
 |nil=>
  intro ws σ n es s β he hm S F x hD h
  have hm:some (n,es)=some (n',Rk):=(congrArg (fun z=>Ny z n es) (Bc he)).trans hm
  exact cW (h s β .rfl' (AX he▸S) (Bc hm▸AX hm▸x) hD)
 |cons hk hv _ ih=>
  intro ws σ n es s β he hm S F x hD h
  refine Bd fun G kG=>bB he fun a YY e1 he=>lq he fun as σb e2 he=>bB e2 fun b' σc e3 e2=>lq e2 fun bs σd e4 e2=> ?_
  have q1:a::b'::bs=ws:=(congrArg (a::·) (Bc e2)).trans (Bc he)
  have q2:σd=σ1:=(AX e2).trans (AX he)
  have hm:Ny (a::b'::bs) n es=some (n',Rk):=q1▸hm
  refine lK hm fun hc hm=>kG ?_
  rw[pairTrees,zU]
  refine bK (bK (bH.cont (hk ρ σ a YY e1 A E s β R S F) fun r1 s1 bL bw S1 rv1=> ?_))
  have F1:=F.step S bw
  refine bK (j0 (bK (bH.cont (hv ρ YY b' σc e3 A E s1 bL R S1 F1) fun r2 s2 iD bS S2 TJ=> ?_)))
  refine bK (sF (cW ?_))
  have zI:=bw.trans bS
  have Y9:¬Fp iD D:=zI.JD (let⟨_,g,_⟩:=x.at';jr g) hD
  have x2:=x.step S zI hD
  refine bK (j0 (Lc R S2 x2 Y9 hb (bS.ux S1 rv1) TJ hc fun s3 eV S3 x3 t3=>cW ?_))
  have F3:aF C N s3 iD ai ρ:=lu t3 fun h' tk q2 uf=>q2▸((F1.step S1 bS).cD uf x2.fL hx).toks tk
  exact ih (q2▸e4) hm S3 F3 x3 Y9 fun s4 Ie lJ S4 x4 nD4=>h s4 Ie (((zI.dP fun Z q=>q.elim).trans eV).trans lJ) S4 x4 nD4
end
end
section
section
variable{C:Cx}{N:bz C}{P:b5}{c:Calls}{d:Nat}{b:Bool}{ai:Env}{β bL:Bt}{σ σ1:H}{s s1:Shared}{A:Around}{E:Value->Shared->Prop}{ρ:aO}{h h':Heap}{X:Addr->Prop}
theorem Ic{AY:List Ex}{gi:List (Option Expr)}{values:List Expr}{pos:Pos}(hs:Np C N P c d b ai AY gi values)(k6:gi.length=17):SE C N P c d b ai (.dict AY) (.Dict gi values pos):=fun ρ σ v aK h A E s β R S F=>by
 refine jz (CQ h) fun ws σ1 n es e1 e2 q6 q7=> ?_;subst q6;subst q7
 refine dw hs.len fun l1 l2=> ?_
 refine iA (qE S) fun S1 bw nD x=> ?_
 have hn:=pairTrees_length gi values ai pos l1 l2
 rw[arm_eval_Dict,zip_pairTrees gi values ai pos l1 l2,xA _ (by rw[hn,k6])]
 refine bK (sF (bK ?_))
 unfold subDict
 refine bK (wpAny_alloc ?_)
 refine bK (j0 ?_)
 rw[aG (by rw[hn,k6];decide)]
 refine bK (wpAny_rule (bK ?_))
 refine Wl hs R S.uA (F.jh (bX _)) e1 e2 S1 (F.step S bw) x nD fun s3 Yz eV S3 x3 nD3=> ?_
 refine cW (cW (cW ?_))
 refine wF S3 x3 nD3 S.uA (bX _) ?_
 exact((bw.dP fun Z q=>q.elim).trans eV).fresh fun z hz=>by rw[hz];exact bX _
end
end
structure uU where
 nm:Nat->Str
 ok:Nat->Bool
 Zt:Nat->Str
 fok:Nat->Bool
 Zx:Nat->Str
 cok:Nat->Bool
 val:Nat->Option V
 blt:Str->Bool
noncomputable abbrev Ns:=List (Str×NameKind)
noncomputable def Dw(ns:Ns)(n:Str):Bool:=decide (ns.lookup n=some .globalImplicit)
noncomputable def vB(ns:Ns)(n:Str):Bool:=decide (ns.lookup n=some .local)
noncomputable def Jj(ns:Ns)(n:Str):Bool:=decide (ns.lookup n=some .local)||decide (ns.lookup n=some .cell)
theorem aN{G:Prop}(h:false=true):G:=nomatch h
theorem nt{b:Bool}(h:(!b)=true):b=false:=by cases b with|false=>rfl|true=>exact aN h
theorem j4{a b:Bool}{G:Prop}(h:(a&&b)=true)(k:a=true->b=true->G):G:=by
 rw[dX]at h;exact k h.1 h.2
theorem Ba{a b c:Bool}{G:Prop}(h:(a&&b&&c)=true)(k:a=true->b=true->c=true->G):G:=j4 h fun h z=>j4 h fun qa qb=>k qa qb z
theorem Gx{a b c d:Bool}{G:Prop}(h:(a&&b&&c&&d)=true)(k:a=true->b=true->c=true->d=true->G):G:=j4 h fun h z=>Ba h fun qa qb qc=>k qa qb qc z
theorem YU{a b c d e:Bool}{G:Prop}(h:(a&&b&&c&&d&&e)=true)(k:a=true->b=true->c=true->d=true->e=true->G):G:=j4 h fun h z=>Gx h fun qa qb qc qd=>k qa qb qc qd z
theorem an6{a b c d e f:Bool}{G:Prop}(h:(a&&b&&c&&d&&e&&f)=true)(k:a=true->b=true->c=true->d=true->e=true->f=true->G):G:=j4 h fun h z=>YU h fun qa qb qc qd qe=>k qa qb qc qd qe z
theorem an7{a b c d e f g:Bool}{G:Prop}(h:(a&&b&&c&&d&&e&&f&&g)=true)(k:a=true->b=true->c=true->d=true->e=true->f=true->g=true->G):G:=j4 h fun h z=>an6 h fun qa qb qc qd qe qf=>k qa qb qc qd qe qf z
theorem an8{a b c d e f g i:Bool}{G:Prop}(h:(a&&b&&c&&d&&e&&f&&g&&i)=true)(k:a=true->b=true->c=true->d=true->e=true->f=true->g=true->i=true->G):G:=j4 h fun h z=>an7 h fun qa qb qc qd qe qf qg=>k qa qb qc qd qe qf qg z
theorem an9{a b c d e f g i j:Bool}{G:Prop}(h:(a&&b&&c&&d&&e&&f&&g&&i&&j)=true)(k:a=true->b=true->c=true->d=true->e=true->f=true->g=true->i=true->j=true->G):G:=j4 h fun h z=>an8 h fun qa qb qc qd qe qf qg qi=>k qa qb qc qd qe qf qg qi z
noncomputable def xE(e:Expr)(se:Bool:=false)(sc:Bool:=false)(dc:Bool:=false)(bo:BoolOp->List Expr->Bool:=fun Z Z=>false)(bi:Expr->Operator->Expr->Bool:=fun Z Z Z=>false)(un:UnaryOp->Expr->Bool:=fun Z Z=>false)(it:Expr->Expr->Expr->Bool:=fun Z Z Z=>false)(di:List (Option Expr)->List Expr->Bool:=fun Z Z=>false)(lc:Expr->List Comprehension->Scope->Pos->Bool:=fun Z Z Z Z=>false)(cm:Expr->List CmpOp->List Expr->Bool:=fun Z Z Z=>false)(ca:Expr->List Expr->List Keyword->Pos->Bool:=fun Z Z Z Z=>false)(co:Const->Bool:=fun Z=>false)(at_:Expr->Str->Pos->Bool:=fun Z Z Z=>false)(su:Expr->Expr->Bool:=fun Z Z=>false)(na:Str->Bool:=fun Z=>false)(li:List Expr->Bool:=fun Z=>false)(tu:List Expr->Bool:=fun Z=>false)(sl:Option Expr->Option Expr->Option Expr->Bool:=fun Z Z Z=>false):Bool:=match e with
 | .BoolOp a b _=>bo a b
 | .BinOp a b c _=>bi a b c
 | .UnaryOp a b _=>un a b
 | .IfExp a b c _=>it a b c
 | .Dict a b _=>di a b
 | .ListComp a b c p=>lc a b c p
 | .Compare a b c _=>cm a b c
 | .Call a b c p=>ca a b c p
 | .Constant a _ _=>co a
 | .Attribute a b p=>at_ a b p
 | .Subscript a b _=>su a b
 | .Name a _=>na a
 | .List a _=>li a
 | .Tuple a _ _=>tu a
 | .Slice a b c _=>sl a b c
 | .Set _ _ _=>se
 | .SetComp _ _ _ _=>sc
 | .DictComp _ _ _ _ _=>dc
 |_=>false
@[elab_as_elim] theorem Do{bo:BoolOp->List Expr->Bool}{bi:Expr->Operator->Expr->Bool}{un:UnaryOp->Expr->Bool}{it:Expr->Expr->Expr->Bool}{di:List (Option Expr)->List Expr->Bool}{lc:Expr->List Comprehension->Scope->Pos->Bool}{cm:Expr->List CmpOp->List Expr->Bool}{ca:Expr->List Expr->List Keyword->Pos->Bool}{co:Const->Bool}{at_:Expr->Str->Pos->Bool}{su:Expr->Expr->Bool}{na:Str->Bool}{li:List Expr->Bool}{tu:List Expr->Bool}{sl:Option Expr->Option Expr->Option Expr->Bool}{e:Expr}{G:Expr->Prop}(h:xE e (bo:=bo) (bi:=bi) (un:=un) (it:=it) (di:=di) (lc:=lc) (cm:=cm) (ca:=ca) (co:=co) (at_:=at_) (su:=su) (na:=na) (li:=li) (tu:=tu) (sl:=sl)=true)(kbo:∀a b z0,bo a b=true->G (.BoolOp a b z0))(kbi:∀a b c z0,bi a b c=true->G (.BinOp a b c z0))(kun:∀a b z0,un a b=true->G (.UnaryOp a b z0))(kit:∀a b c z0,it a b c=true->G (.IfExp a b c z0))(kdi:∀a b z0,di a b=true->G (.Dict a b z0))(klc:∀a b c p,lc a b c p=true->G (.ListComp a b c p))(kcm:∀a b c z0,cm a b c=true->G (.Compare a b c z0))(kca:∀a b c p,ca a b c p=true->G (.Call a b c p))(kco:∀a z0 z1,co a=true->G (.Constant a z0 z1))(agy:∀a b p,at_ a b p=true->G (.Attribute a b p))(ksu:∀a b z0,su a b=true->G (.Subscript a b z0))(kna:∀a z0,na a=true->G (.Name a z0))(kli:∀a z0,li a=true->G (.List a z0))(ktu:∀a z0 z1,tu a=true->G (.Tuple a z0 z1))(ksl:∀a b c z0,sl a b c=true->G (.Slice a b c z0)):G e:=by
 cases e<;>first|exact aN h|exact kbo _ _ _ h|exact kbi _ _ _ _ h|exact kun _ _ _ h|exact kit _ _ _ _ h|exact kdi _ _ _ h|exact klc _ _ _ _ h|exact kcm _ _ _ _ h|exact kca _ _ _ _ h|exact kco _ _ _ h|exact agy _ _ _ h|exact ksu _ _ _ h|exact kna _ _ h|exact kli _ _ h|exact ktu _ _ _ h|exact ksl _ _ _ _ h
@[elab_as_elim] theorem Fc{f:BoolOp->List Expr->Bool}{e:Expr}{G:Expr->Prop}(h:xE e (bo:=f)=true)(k:∀a b z0,f a b=true->G (.BoolOp a b z0)):G e:=Do h k (fun Z Z Z Z=>aN) (fun Z Z Z=>aN) (fun Z Z Z Z=>aN) (fun Z Z Z=>aN) (fun Z Z Z Z=>aN) (fun Z Z Z Z=>aN) (fun Z Z Z Z=>aN) (fun Z Z Z=>aN) (fun Z Z Z=>aN) (fun Z Z Z=>aN) (fun Z Z=>aN) (fun Z Z=>aN) (fun Z Z Z=>aN) (fun Z Z Z Z=>aN)
@[elab_as_elim] theorem VS{f:Expr->Operator->Expr->Bool}{e:Expr}{G:Expr->Prop}(h:xE e (bi:=f)=true)(k:∀a b c z0,f a b c=true->G (.BinOp a b c z0)):G e:=Do h (fun Z Z Z=>aN) k (fun Z Z Z=>aN) (fun Z Z Z Z=>aN) (fun Z Z Z=>aN) (fun Z Z Z Z=>aN) (fun Z Z Z Z=>aN) (fun Z Z Z Z=>aN) (fun Z Z Z=>aN) (fun Z Z Z=>aN) (fun Z Z Z=>aN) (fun Z Z=>aN) (fun Z Z=>aN) (fun Z Z Z=>aN) (fun Z Z Z Z=>aN)
@[elab_as_elim] theorem rE{f:UnaryOp->Expr->Bool}{e:Expr}{G:Expr->Prop}(h:xE e (un:=f)=true)(k:∀a b z0,f a b=true->G (.UnaryOp a b z0)):G e:=Do h (fun Z Z Z=>aN) (fun Z Z Z Z=>aN) k (fun Z Z Z Z=>aN) (fun Z Z Z=>aN) (fun Z Z Z Z=>aN) (fun Z Z Z Z=>aN) (fun Z Z Z Z=>aN) (fun Z Z Z=>aN) (fun Z Z Z=>aN) (fun Z Z Z=>aN) (fun Z Z=>aN) (fun Z Z=>aN) (fun Z Z Z=>aN) (fun Z Z Z Z=>aN)
@[elab_as_elim] theorem VR{f:Expr->Expr->Expr->Bool}{e:Expr}{G:Expr->Prop}(h:xE e (it:=f)=true)(k:∀a b c z0,f a b c=true->G (.IfExp a b c z0)):G e:=Do h (fun Z Z Z=>aN) (fun Z Z Z Z=>aN) (fun Z Z Z=>aN) k (fun Z Z Z=>aN) (fun Z Z Z Z=>aN) (fun Z Z Z Z=>aN) (fun Z Z Z Z=>aN) (fun Z Z Z=>aN) (fun Z Z Z=>aN) (fun Z Z Z=>aN) (fun Z Z=>aN) (fun Z Z=>aN) (fun Z Z Z=>aN) (fun Z Z Z Z=>aN)
@[elab_as_elim] theorem acR{f:List (Option Expr)->List Expr->Bool}{e:Expr}{G:Expr->Prop}(h:xE e (di:=f)=true)(k:∀a b z0,f a b=true->G (.Dict a b z0)):G e:=Do h (fun Z Z Z=>aN) (fun Z Z Z Z=>aN) (fun Z Z Z=>aN) (fun Z Z Z Z=>aN) k (fun Z Z Z Z=>aN) (fun Z Z Z Z=>aN) (fun Z Z Z Z=>aN) (fun Z Z Z=>aN) (fun Z Z Z=>aN) (fun Z Z Z=>aN) (fun Z Z=>aN) (fun Z Z=>aN) (fun Z Z Z=>aN) (fun Z Z Z Z=>aN)
@[elab_as_elim] theorem GZ{f:Expr->List Comprehension->Scope->Pos->Bool}{e:Expr}{G:Expr->Prop}(h:xE e (lc:=f)=true)(k:∀a b c p,f a b c p=true->G (.ListComp a b c p)):G e:=Do h (fun Z Z Z=>aN) (fun Z Z Z Z=>aN) (fun Z Z Z=>aN) (fun Z Z Z Z=>aN) (fun Z Z Z=>aN) k (fun Z Z Z Z=>aN) (fun Z Z Z Z=>aN) (fun Z Z Z=>aN) (fun Z Z Z=>aN) (fun Z Z Z=>aN) (fun Z Z=>aN) (fun Z Z=>aN) (fun Z Z Z=>aN) (fun Z Z Z Z=>aN)
@[elab_as_elim] theorem BP{f:Expr->List CmpOp->List Expr->Bool}{e:Expr}{G:Expr->Prop}(h:xE e (cm:=f)=true)(k:∀a b c z0,f a b c=true->G (.Compare a b c z0)):G e:=Do h (fun Z Z Z=>aN) (fun Z Z Z Z=>aN) (fun Z Z Z=>aN) (fun Z Z Z Z=>aN) (fun Z Z Z=>aN) (fun Z Z Z Z=>aN) k (fun Z Z Z Z=>aN) (fun Z Z Z=>aN) (fun Z Z Z=>aN) (fun Z Z Z=>aN) (fun Z Z=>aN) (fun Z Z=>aN) (fun Z Z Z=>aN) (fun Z Z Z Z=>aN)
@[elab_as_elim] theorem Rp{f:Expr->List Expr->List Keyword->Pos->Bool}{e:Expr}{G:Expr->Prop}(h:xE e (ca:=f)=true)(k:∀a b c p,f a b c p=true->G (.Call a b c p)):G e:=Do h (fun Z Z Z=>aN) (fun Z Z Z Z=>aN) (fun Z Z Z=>aN) (fun Z Z Z Z=>aN) (fun Z Z Z=>aN) (fun Z Z Z Z=>aN) (fun Z Z Z Z=>aN) k (fun Z Z Z=>aN) (fun Z Z Z=>aN) (fun Z Z Z=>aN) (fun Z Z=>aN) (fun Z Z=>aN) (fun Z Z Z=>aN) (fun Z Z Z Z=>aN)
@[elab_as_elim] theorem oS{f:Const->Bool}{e:Expr}{G:Expr->Prop}(h:xE e (co:=f)=true)(k:∀a z0 z1,f a=true->G (.Constant a z0 z1)):G e:=Do h (fun Z Z Z=>aN) (fun Z Z Z Z=>aN) (fun Z Z Z=>aN) (fun Z Z Z Z=>aN) (fun Z Z Z=>aN) (fun Z Z Z Z=>aN) (fun Z Z Z Z=>aN) (fun Z Z Z Z=>aN) k (fun Z Z Z=>aN) (fun Z Z Z=>aN) (fun Z Z=>aN) (fun Z Z=>aN) (fun Z Z Z=>aN) (fun Z Z Z Z=>aN)
@[elab_as_elim] theorem mq{f:Expr->Str->Pos->Bool}{e:Expr}{G:Expr->Prop}(h:xE e (at_:=f)=true)(k:∀a b p,f a b p=true->G (.Attribute a b p)):G e:=Do h (fun Z Z Z=>aN) (fun Z Z Z Z=>aN) (fun Z Z Z=>aN) (fun Z Z Z Z=>aN) (fun Z Z Z=>aN) (fun Z Z Z Z=>aN) (fun Z Z Z Z=>aN) (fun Z Z Z Z=>aN) (fun Z Z Z=>aN) k (fun Z Z Z=>aN) (fun Z Z=>aN) (fun Z Z=>aN) (fun Z Z Z=>aN) (fun Z Z Z Z=>aN)
@[elab_as_elim] theorem mj{f:Expr->Expr->Bool}{e:Expr}{G:Expr->Prop}(h:xE e (su:=f)=true)(k:∀a b z0,f a b=true->G (.Subscript a b z0)):G e:=Do h (fun Z Z Z=>aN) (fun Z Z Z Z=>aN) (fun Z Z Z=>aN) (fun Z Z Z Z=>aN) (fun Z Z Z=>aN) (fun Z Z Z Z=>aN) (fun Z Z Z Z=>aN) (fun Z Z Z Z=>aN) (fun Z Z Z=>aN) (fun Z Z Z=>aN) k (fun Z Z=>aN) (fun Z Z=>aN) (fun Z Z Z=>aN) (fun Z Z Z Z=>aN)
@[elab_as_elim] theorem pK{f:Str->Bool}{e:Expr}{G:Expr->Prop}(h:xE e (na:=f)=true)(k:∀a z0,f a=true->G (.Name a z0)):G e:=Do h (fun Z Z Z=>aN) (fun Z Z Z Z=>aN) (fun Z Z Z=>aN) (fun Z Z Z Z=>aN) (fun Z Z Z=>aN) (fun Z Z Z Z=>aN) (fun Z Z Z Z=>aN) (fun Z Z Z Z=>aN) (fun Z Z Z=>aN) (fun Z Z Z=>aN) (fun Z Z Z=>aN) k (fun Z Z=>aN) (fun Z Z Z=>aN) (fun Z Z Z Z=>aN)
@[elab_as_elim] theorem acQ{f:List Expr->Bool}{e:Expr}{G:Expr->Prop}(h:xE e (li:=f)=true)(k:∀a z0,f a=true->G (.List a z0)):G e:=Do h (fun Z Z Z=>aN) (fun Z Z Z Z=>aN) (fun Z Z Z=>aN) (fun Z Z Z Z=>aN) (fun Z Z Z=>aN) (fun Z Z Z Z=>aN) (fun Z Z Z Z=>aN) (fun Z Z Z Z=>aN) (fun Z Z Z=>aN) (fun Z Z Z=>aN) (fun Z Z Z=>aN) (fun Z Z=>aN) k (fun Z Z Z=>aN) (fun Z Z Z Z=>aN)
@[elab_as_elim] theorem zX{f:List Expr->Bool}{e:Expr}{G:Expr->Prop}(h:xE e (tu:=f)=true)(k:∀a z0 z1,f a=true->G (.Tuple a z0 z1)):G e:=Do h (fun Z Z Z=>aN) (fun Z Z Z Z=>aN) (fun Z Z Z=>aN) (fun Z Z Z Z=>aN) (fun Z Z Z=>aN) (fun Z Z Z Z=>aN) (fun Z Z Z Z=>aN) (fun Z Z Z Z=>aN) (fun Z Z Z=>aN) (fun Z Z Z=>aN) (fun Z Z Z=>aN) (fun Z Z=>aN) (fun Z Z=>aN) k (fun Z Z Z Z=>aN)
@[elab_as_elim] theorem VP{f:Option Expr->Option Expr->Option Expr->Bool}{e:Expr}{G:Expr->Prop}(h:xE e (sl:=f)=true)(k:∀a b c z0,f a b c=true->G (.Slice a b c z0)):G e:=Do h (fun Z Z Z=>aN) (fun Z Z Z Z=>aN) (fun Z Z Z=>aN) (fun Z Z Z Z=>aN) (fun Z Z Z=>aN) (fun Z Z Z Z=>aN) (fun Z Z Z Z=>aN) (fun Z Z Z Z=>aN) (fun Z Z Z=>aN) (fun Z Z Z=>aN) (fun Z Z Z=>aN) (fun Z Z=>aN) (fun Z Z=>aN) (fun Z Z Z=>aN) k
noncomputable def xC{α:Type}(l:List α)(f:α->List α->Bool):Bool:=match l with
 |a::r=>f a r
 |[]=>false
@[elab_as_elim] theorem yC{α:Type}{l:List α}{f:α->List α->Bool}{G:List α->Prop}(h:xC l f=true)(k:∀a r,f a r=true->G (a::r)):G l:=by
 cases l with
 |nil=>exact aN h
 |cons a r=>exact k a r h
@[elab_as_elim] theorem y0{α:Type}{l:List α}{G:List α->Prop}(h:l.isEmpty=true)(k:G []):G l:=by
 cases l with
 |nil=>exact k
 |cons a r=>exact aN h
noncomputable def x1{α:Type}(l:List α)(f:α->Bool):Bool:=xC l fun a r=>r.isEmpty&&f a
@[elab_as_elim] theorem y1{α:Type}{l:List α}{f:α->Bool}{G:List α->Prop}(h:x1 l f=true)(k:∀a,f a=true->G [a]):G l:=
 yC h fun a r h=>j4 h fun h1 h2=>y0 h1 (k a h2)
noncomputable def xO{α:Type}(o:Option α)(f:α->Bool):Bool:=match o with
 |some a=>f a
 |none=>false
@[elab_as_elim] theorem yO{α:Type}{o:Option α}{f:α->Bool}{G:Option α->Prop}(h:xO o f=true)(k:∀a,f a=true->G (some a)):G o:=by
 cases o with
 |none=>exact aN h
 |some a=>exact k a h
@[elab_as_elim] theorem yZ{α:Type}{o:Option α}{G:Option α->Prop}(h:o.isNone=true)(k:G none):G o:=by
 cases o with
 |none=>exact k
 |some a=>exact aN h
noncomputable def rH(e:Expr):Bool:= !xE e (sl:=fun Z Z Z=>true)
noncomputable def K1(e:Expr):Bool:=xE e (na:=fun Z=>true)
noncomputable def l9(e:Expr):Bool:= !xE e (lc:=fun Z Z Z Z=>true) (sc:=true) (dc:=true)
noncomputable def sJ(e:Expr):Bool:= !xE e (se:=true)
noncomputable def B7(e:Expr):Bool:= !xE e (tu:=fun Z=>true)
noncomputable def yQ(e:Expr):Bool:= !xE e (un:=fun Z Z=>true) (bo:=fun Z Z=>true) (it:=fun Z Z Z=>true) (cm:=fun Z Z Z=>true)
noncomputable def o7(e:Expr):Bool:= !xE e (ca:=fun g es kw Z=>es.isEmpty&&kw.isEmpty&&xE g (na:=fun n=>n=="super"))
theorem ie{e:Expr}{n:Str}{ai:Env}{w:Sem Value}(h:o7 e=true):attributeBase e n ai w=w:=by
 cases e with
 |Call g es kw p=>
  cases g with
  |Name id q=>
   cases es with
   |cons _ _=>rfl
   |nil=>cases kw with
    |cons _ _=>rfl
    |nil=>
     have h:(!(id=="super"))=true:=h
     unfold attributeBase
     dsimp only
     rw[aI (by unfold bne;rw[h];rfl)]
     first|done|simp
  |_=>rfl
 |_=>rfl
theorem Df{f:Expr}(h:rH f=true)(o i:Value):subscripted f false o i=operate [o,i] (getItem o i):=by
 cases f<;>first|rfl|exact aN h
theorem AO{f:Expr}(h:rH f=true)(ov iv new:Value):augStore f ov iv new=(do holding [new,ov,iv] (setItem ov iv new);release [new,ov,iv] [];pure .next):=by
 cases f<;>first|rfl|exact aN h
theorem HN{e:Expr}(h:K1 e=true)(o r:Value):letTemporaryGo e o r=pure ():=by
 cases e<;>first|rfl|exact aN h
theorem jT{e:Expr}(h:l9 e=true)(t:Option Expr)(l:Nat)(ai:Env):swapsWith e t l ai=pure false:=by
 cases e<;>first|rfl|exact aN h
theorem AP{e t:Expr}(h:l9 e=true)(l:Nat)(ai:Env):swapsWithSole [t] e l ai=pure false:=jT h _ _ _
theorem s8{e:Expr}(h:sJ e=true)(ai:Env)(x:Value):foldedSetIterable e ai x=pure x:=by
 cases e<;>first|rfl|exact aN h
theorem rP{e:Expr}{o:CmpOp}(h:sJ e=true):behindInMarks o e=false:=by
 cases e<;>first|rfl|exact aN h
theorem De{e:Expr}{ts:List Expr}{k p}(h:B7 e=true)(ai:Env):swappedStores [.Tuple ts k p] e ai=pure none:=by
 cases e<;>first|rfl|exact aN h
theorem AM{e:Expr}(h:yQ e=true)(ai:Env)(vm:Sem Value):isTrue e ai vm=(do let v <-vm;standAt e.pos;holding [v] (truthy v)):=by
 cases e<;>first|rfl|exact aN h
noncomputable def ZP(a:Op)(b:CmpOp):Bool:=decide (b=BH a)
theorem Fw{a:Op}{b:CmpOp}(h:ZP a b=true):b=BH a:=jx h
noncomputable def OJ(a:Ar)(b:Operator):Bool:=decide (b=vD a)
theorem AJ{a:Ar}{b:Operator}(h:OJ a b=true):b=vD a:=jx h
noncomputable def VD(a:Bool)(b:BoolOp):Bool:=decide (b=if a then .And else .Or)
theorem Gb{a:Bool}{b:BoolOp}(h:VD a b=true):b=if a then .And else .Or:=jx h
noncomputable def GL(u o:UnaryOp):Bool:=decide (o=u)
@[elab_as_elim] theorem yUn{u o:UnaryOp}{G:UnaryOp->Prop}(h:GL u o=true)(k:G u):G o:=by
 have h:o=u:=jx h
 rw[h];exact k
noncomputable def xN(e:Expr)(f:Str->List Expr->Bool):Bool:=xE e (ca:=fun g es kw Z=>kw.isEmpty&&xE g (na:=fun n=>f n es))
@[elab_as_elim] theorem yN{e:Expr}{f:Str->List Expr->Bool}{G:Expr->Prop}(h:xN e f=true)(k:∀n p es q,f n es=true->G (.Call (.Name n p) es [] q)):G e:=
 Rp h fun g es kw q h=>j4 h fun h1 h2=>y0 h1 (pK h2 fun n p h=>k n p es q h)
noncomputable def xM(e:Expr)(f:Expr->Str->List Expr->Bool):Bool:=xE e (ca:=fun g es kw p=>kw.isEmpty&&xE g (at_:=fun o n ap=>o7 o&&Nat.beq ap.endLine p.line&&f o n es))
@[elab_as_elim] theorem yM{e:Expr}{f:Expr->Str->List Expr->Bool}{G:Expr->Prop}(h:xM e f=true)(k:∀o n ap es p,o7 o=true->(ap.endLine==p.line)=true->f o n es=true->G (.Call (.Attribute o n ap) es [] p)):G e:=
 Rp h fun g es kw q h=>j4 h fun h1 h2=>y0 h1 (mq h2 fun o n ap h=>Ba h fun h1 h2 h3=>k o n ap es q h1 (jE.mpr (vd h2)) h3)
noncomputable def xB(T:uU)(ns:Ns)(e:Expr)(s:Str)(f:List Expr->Bool):Bool:=xN e fun n es=>Dw ns n&&n==s&&T.blt n&&f es
@[elab_as_elim] theorem yB{T:uU}{ns:Ns}{e:Expr}{s:Str}{f:List Expr->Bool}{G:Expr->Prop}(h:xB T ns e s f=true)(k:∀p es q,Dw ns s=true->T.blt s=true->f es=true->G (.Call (.Name s p) es [] q)):G e:=
 yN h fun n p es q h=>Gx h fun h1 h2 h3 h4=>by
  have h2:=eq_of_beq h2;subst h2;exact k p es q h1 h3 h4
noncomputable def xK(c:Const)(i:Int->Bool:=fun Z=>false)(b:Bool->Bool:=fun Z=>false)(s:Str->Bool:=fun Z=>false)(n:Bool:=false):Bool:=match c with
 | .int y=>i y
 | .bool y=>b y
 | .str y=>s y
 | .none=>n
 |_=>false
noncomputable def xCI(c:Const)(f:Int->Bool):Bool:=xK c (i:=f)
@[elab_as_elim] theorem yCI{c:Const}{f:Int->Bool}{G:Const->Prop}(h:xCI c f=true)(k:∀y,f y=true->G (.int y)):G c:=by
 cases c<;>first|exact k _ h|exact aN h
noncomputable def xI(e:Expr)(f:Int->Bool):Bool:=xE e (co:=fun c=>xCI c f)
@[elab_as_elim] theorem yI{e:Expr}{f:Int->Bool}{G:Expr->Prop}(h:xI e f=true)(k:∀y a b,f y=true->G (.Constant (.int y) a b)):G e:=
 oS h fun c a b h=>yCI h fun y h=>k y a b h
noncomputable def xU(e:Expr)(f:Expr->Expr->Bool):Bool:=xE e (su:=fun g s=>xE s (sl:=fun a u b=>a.isNone&&b.isNone&&xO u (f g)))
@[elab_as_elim] theorem yU{e:Expr}{f:Expr->Expr->Bool}{G:Expr->Prop}(h:xU e f=true)(k:∀g u p q,f g u=true->G (.Subscript g (.Slice none (some u) none p) q)):G e:=
 mj h fun g s q h=>VP h fun a u b p h=>Ba h fun h1 h2 h3=>
  yZ h1 (yZ h2 (yO h3 fun u h=>k g u p q h))
noncomputable def xL(e:Expr)(f:Expr->Expr->Expr->List Expr->Scope->Pos->Bool):Bool:=xE e (lc:=fun a gs sc p=>x1 gs fun g=>decide (g.is_async=0)&&f a g.target g.iter g.ifs sc p)
@[elab_as_elim] theorem yL{e:Expr}{f:Expr->Expr->Expr->List Expr->Scope->Pos->Bool}{G:Expr->Prop}(h:xL e f=true)(k:∀a t i c sc p,f a t i c sc p=true->G (.ListComp a [⟨t,i,c,0⟩] sc p)):G e:=
 GZ h fun a gs sc p h=>y1 h fun g h=>j4 h fun h1 h2=>by
  obtain⟨t,i,c,n⟩:=g
  have h1:n=0:=jx h1
  subst h1;exact k a t i c sc p h2
noncomputable def xCB(c:Const)(f:Bool->Bool):Bool:=xK c (b:=f)
@[elab_as_elim] theorem yCB{c:Const}{f:Bool->Bool}{G:Const->Prop}(h:xCB c f=true)(k:∀y,f y=true->G (.bool y)):G c:=by
 cases c<;>first|exact k _ h|exact aN h
noncomputable def xCS(c:Const)(f:Str->Bool):Bool:=xK c (s:=f)
@[elab_as_elim] theorem yCS{c:Const}{f:Str->Bool}{G:Const->Prop}(h:xCS c f=true)(k:∀y,f y=true->G (.str y)):G c:=by
 cases c<;>first|exact k _ h|exact aN h
noncomputable def xCN(c:Const):Bool:=xK c (n:=true)
@[elab_as_elim] theorem yCN{c:Const}{G:Const->Prop}(h:xCN c=true)(k:G .none):G c:=by
 cases c<;>first|exact k|exact aN h
noncomputable def Sx:V->Expr->Bool
 | .none,e=>xE e (co:=xCN)
 | .bool x,e=>xE e (co:=fun c=>xCB c fun y=>x==y)
 | .int x,e=>(xI e fun y=>decide (x=y))||xE e (un:=fun o f=>GL .USub o&&xI f fun y=>decide (x= -y)&&decide (0<=y))
 | .str x,e=>xE e (co:=fun c=>xCS c fun y=>decide (y=⟨x.toArray⟩))
 | .ak _,_=>false
 | .ref _,_=>false
 | .gu,_=>false
noncomputable def Ao(T:uU)(ns:Ns):List Nat->Expr->Bool
 |[],_=>false
 |[x],e=>xE e (na:=fun n=>n==T.nm x&&T.ok x&&vB ns n)
 |x::y::r,e=>r.isEmpty&&xE e (tu:=fun es=>xC es fun a es=>x1 es fun b=>xE a (na:=fun n=>xE b (na:=fun m=> !Nat.beq x y&&n==T.nm x&&m==T.nm y&&T.ok x&&T.ok y&&vB ns n&&vB ns m)))
noncomputable def o5(T:uU)(ns:Ns):List Nat->List Expr->Bool
 |[],es=>es.isEmpty
 |x::xs,es=>xC es fun e es=>xE e (na:=fun n=>n==T.nm x&&T.ok x&&Jj ns n)&&o5 T ns xs es
noncomputable def Ue(T:uU)(ns:Ns):List Nat->Expr->Bool
 |[],_=>false
 |[x],e=>xE e (na:=fun n=>n==T.nm x&&T.ok x&&Jj ns n)
 |x::y::r,e=>xE e (tu:=fun es=>o5 T ns (x::y::r) es)
noncomputable def At(T:uU)(iZ:Ns)(tg jb:List Nat)(sc:Scope):Bool:=
 decide (sc.kind=.function)&&sc.names.all (fun y=> !decide (y.2=.cell))&&decide ((sc.names.map (·.1)).Nodup)&&
 sc.names.all (fun y=> !decide (y.2=.local)||vB sc.names y.1)&&
 sc.names.all (fun y=> !decide (y.2=.free)||(decide (iZ.lookup y.1=some .cell)||decide (iZ.lookup y.1=some .free)))&&
 jb.all (fun x=>decide (sc.names.lookup (T.nm x)=some .free))&&tg.all fun x=> !jb.contains x
noncomputable def adA:Ex->Bool
 | .bF .. =>true
 |_=>false
mutual
noncomputable def cJ(T:uU)(ns:Ns):Ex->Expr->Bool
 | .cst v,e=>Sx v e
 | .ah x,e=>xE e (na:=fun n=>n==T.nm x)
 | .aC x v,e=>xE e (na:=fun n=>Dw ns n&&n==T.nm x&&xO (T.val x) fun u=>decide (u=v))
 | .aq x a,e=>xE e (at_:=fun o n Z=>T.ok a&&n==T.nm a&&o7 o&&cJ T ns x o)
 | .call f xs,e=>xN e fun n es=>Dw ns n&&n==T.Zt f&&T.fok f&&Bj T ns xs es
 | .new k xs,e=>xN e fun n es=>Dw ns n&&n==T.Zx k&&T.cok k&&Bj T ns xs es
 | .bM x m xs,e=>xM e fun o n es=>n==T.nm m&&Nat.blt es.length 29&&cJ T ns x o&&Bj T ns xs es
 | .rV x y,e=>xM e fun o n es=>n=="append"&&x1 es fun f=> !isStarred f&&cJ T ns x o&&cJ T ns y f
 | .ext x y,e=>xM e fun o n es=>n=="extend"&&x1 es fun f=> !isStarred f&&cJ T ns x o&&cJ T ns y f
 | .sy x y z,e=>xM e fun o n es=>n=="get"&&xC es fun f es=>x1 es fun g=> !isStarred f&& !isStarred g&&cJ T ns x o&&cJ T ns y f&&cJ T ns z g
 | .len x,e=>xB T ns e "len" fun es=>x1 es fun f=> !isStarred f&&cJ T ns x f
 | .pB x,e=>xB T ns e "sorted" fun es=>x1 es fun f=> !isStarred f&&cJ T ns x f
 | .tuple x,e=>xB T ns e "tuple" fun es=>x1 es fun f=> !isStarred f&&cJ T ns x f
 | .pX x,e=>xB T ns e "str" fun es=>x1 es fun f=> !isStarred f&&cJ T ns x f
 | .isStr x,e=>xB T ns e "isinstance" fun es=>xC es fun f es=>x1 es fun g=>xE g (na:=fun m=>Dw ns m&&m=="str"&&T.blt m&& !isStarred f&&cJ T ns x f)
 | .bF op x y,e=>xE e (cm:=fun f os gs=>x1 os fun o=>x1 gs fun g=>ZP op o&&sJ g&&cJ T ns x f&&cJ T ns y g)
 | .eW all xs,e=>xE e (bo:=fun o es=>VD all o&&Uk T ns xs es)
 | .not (.ex x),e=>xE e (un:=fun o f=>GL .Not o&&cJ T ns x f)
 | .not (.not _),_=>false
 | .not (.eW _ _),_=>false
 | .ar op x y,e=>xE e (bi:=fun f o g=>OJ op o&&cJ T ns x f&&cJ T ns y g)
 | .bO x y,e=>xE e (su:=fun f g=>rH g&&cJ T ns x f&&cJ T ns y g)
 | .Gs x n,e=>xU e fun f u=>xI u fun m=>decide (m=(n:Int))&&K1 f&&cJ T ns x f
 | .jm x,e=>xU e fun f u=>xE u (un:=fun o v=>GL .USub o&&xI v fun m=>decide (m=1)&&cJ T ns x f)
 | .ite c x y,e=>xE e (it:=fun t f g=>II T ns c t&&cJ T ns x f&&cJ T ns y g)
 | .ak xs,e=>xE e (tu:=fun es=>Nat.blt xs.length aJ&&Bj T ns xs es)
 | .list xs,e=>xE e (li:=fun es=>Nat.blt xs.length aJ&&Bj T ns xs es)
 | .dict xs,e=>xE e (di:=fun ks vs=>(Nat.ble ks.length 15||Nat.beq ks.length 17)&&Uj T ns xs ks vs)
 | .comp el tg it jb cond,e=>xL e fun qG t iter ifs sc Z=>sJ iter&&At T ns tg jb sc&&Ao T sc.names tg t&&cJ T ns it iter&&cJ T sc.names el qG&&GB T sc.names cond ifs
noncomputable def Bj(T:uU)(ns:Ns):List Ex->List Expr->Bool
 |[],es=>es.isEmpty
 |x::xs,es=>xC es fun e es=> !isStarred e&&cJ T ns x e&&Bj T ns xs es
noncomputable def Uk(T:uU)(ns:Ns):List Ex->List Expr->Bool
 |[],_=>false
 |x::xs,es=>xC es fun e es=>cJ T ns x e&&((xs.isEmpty&&es.isEmpty)||Uk T ns xs es)
noncomputable def Uj(T:uU)(ns:Ns):List Ex->List (Option Expr)->List Expr->Bool
 |[],ks,vs=>ks.isEmpty&&vs.isEmpty
 |[_],_,_=>false
 |x::y::xs,ks,vs=>xC ks fun k ks=>xC vs fun v vs=>xO k fun k=>cJ T ns x k&&cJ T ns y v&&Uj T ns xs ks vs
noncomputable def II(T:uU)(ns:Ns):Cd->Expr->Bool
 | .not c,e=>xE e (un:=fun o f=>GL .Not o&&II T ns c f)
 | .eW all cs,e=>xE e (bo:=fun o es=>VD all o&&GB T ns cs es)
 | .ex x,e=>(yQ e||adA x)&&cJ T ns x e
noncomputable def GB(T:uU)(ns:Ns):List Cd->List Expr->Bool
 |[],es=>es.isEmpty
 |c::cs,es=>xC es fun e es=>II T ns c e&&GB T ns cs es
end
section
structure tS(C:Cx)(N:bz C)(T:uU):Prop where
 nm:∀x,T.nm x=C.nm x
 ok:∀x,T.ok x=true->N.ok x=true
 fn:∀f,T.fok f=true->C.mg (T.Zt f)=some (.ref (C.fa f))/\keepIn C.K (.ref (C.fa f))=true/\(T.Zt f==("__debug__":Str))=false
 cls:∀f,T.cok f=true->C.mg (T.Zx f)=some (.ref (C.ca f))/\keepIn C.K (.ref (C.ca f))=true/\(T.Zx f==("__debug__":Str))=false
 val:∀x v,T.val x=some v->∃u,C.mg (T.nm x)=some u/\aL C C.eG [] v u/\(T.nm x==("__debug__":Str))=false
 blt:∀n,T.blt n=true->C.mg n=none/\(n==("__debug__":Str))=false
 len:C.mb "len"=some (.builtin "len")
 sorted:C.mb "sorted"=some (.builtin "sorted")
 isi:C.mb "isinstance"=some (.builtin "isinstance")
 tuple:C.mb "tuple"=some (.type "tuple")
 str:C.mb "str"=some (.type "str")
 range:C.mb "range"=some (.type "range")
structure qQ(C:Cx)(N:bz C)(P:b5)(T:uU):Prop where
 ok:cN C
 kP:tS C N T
 cls:∀k,tU C N P k
 gu:Fb C P
 gI:P.gI=C.gI
theorem iR{ns:Ns}{n:Str}(h:Dw ns n=true):ns.lookup n=some .globalImplicit:=jx h
theorem wh{ns:Ns}{n:Str}(h:vB ns n=true):ns.lookup n=some .local:=jx h
section
variable{C:Cx}{N:bz C}{P:b5}{T:uU}{c:Calls}{d:Nat}{b:Bool}{ai:Env}{ns:Ns}
theorem rM(V:iH ns ai){n:Str}{x:Nat}(B:tS C N T)(hn:n=T.nm x)(ho:T.ok x=true)(h:Jj ns n=true):n=C.nm x/\BO C N ai x:=by
 have e:n=C.nm x:=hn.trans (B.nm x)
 exact⟨e,B.ok x ho,e▸((je _ _).mp h).imp (fun q=>V.ah n (jx q)) fun q=>V.cell n (jx q)⟩
theorem qu(V:iH ns ai)(B:tS C N T):∀{xs:List Nat} {es:List Expr},o5 T ns xs es=true->g7 C N ai xs es
 |[],es,h=>y0 h .nil
 |x::xs,es,h=>yC h fun e es h=>j4 h fun h h4=>pK h fun n p h=>Ba h fun h1 h2 h3=>
  let q:=rM V B (eq_of_beq h1) h2 h3
  q.1▸ .cons q.2 (qu V B h4)
theorem Ru(V:iH ns ai)(B:tS C N T):∀{xs:List Nat} {t:Expr},Ue T ns xs t=true->qY C N ai xs t
 |[],_,h=>aN h
 |[x],t,h=>pK h fun n p h=>Ba h fun h1 h2 h3=>
  let q:=rM V B (eq_of_beq h1) h2 h3
  q.1▸ .aE q.2
 |x::y::r,t,h=>zX h fun es k p h=>.ak (qu V B h) (Nat.le_add_left 2 r.length)
theorem z9(V:iH ns ai){n:Str}{x:Nat}(B:tS C N T)(hn:n=T.nm x)(ho:T.ok x=true)(h:vB ns n=true):n=C.nm x/\DC C N ai x:=by
 have e:n=C.nm x:=hn.trans (B.nm x)
 exact⟨e,B.ok x ho,e▸V.ah n (wh h)⟩
theorem BU(V:iH ns ai)(B:tS C N T):∀{xs:List Nat} {t:Expr},Ao T ns xs t=true->tR C N ai xs t
 |[],_,h=>aN h
 |[x],t,h=>pK h fun n p h=>Ba h fun h1 h2 h3=>
  let q:=z9 V B (eq_of_beq h1) h2 h3
  q.1▸ .aE q.2
 |x::y::r,t,h=>j4 h fun h h'=>y0 h (zX h' fun es k z h=>
  yC h fun a es h=>y1 h fun b h=>
  pK h fun n p h=>pK h fun m q h=>an7 h fun h0 h1 h2 h3 h4 h5 h6=>
  let u:=z9 V B (eq_of_beq h1) h3 h5
  let v:=z9 V B (eq_of_beq h2) h4 h6
  u.1▸v.1▸ .AW (fun e=>by subst e;simp at h0) u.2 v.2)
theorem Xj{v:V}{e:Expr}(h:Sx v e=true):SE C N P c d b ai (.cst v) e:=by
 cases v with
 |none=>exact oS h fun k a p h=>yCN h Q0
 |bool x=>exact oS h fun k a p h=>yCB h fun y h=>eq_of_beq h▸Q9
 |int x=>
  have h:(xI e (fun y=>decide (x=y))||xE e (un:=fun o f=>GL .USub o&&xI f fun y=>decide (x= -y)&&decide (0<=y)))=true:=h
  cases(je _ _).mp h with
  |inl h=>exact yI h fun y a p h=>jx h▸Yn
  |inr h=>exact rE h fun o f p h=>j4 h fun h h2=>yUn h (yI h2 fun y a q h=>j4 h fun h1 h2=>by
    have h1:x= -y:=jx h1
    refine bR (Int.eq_ofNat_of_zero_le (jx h2)) fun n q1=> ?_;subst q1
    rw[h1];exact Yj)
 |str x=>exact oS h fun k a p h=>yCS h fun y h=>Yg (jx h)
 |ak _=>exact aN h
 |ref _=>exact aN h
 |gu=>exact aN h
end
theorem yS{p:Prop} [Decidable p]{b:Bool}{G:Prop}(h:(!decide p||b)=true)(hp:p)(k:b=true->G):G:=
 ((je _ _).mp h).elim (fun q=>absurd ((nt q).symm.trans (ez hp)) Bool.false_ne_true) k
structure QK(C:Cx)(ns:Ns)(tg jb:List Nat)(sc:Scope):Prop where
 kind:sc.kind=.function
 cell:∀y∈sc.names,y.2≠ .cell
 nd:(sc.names.map (·.1)).Nodup
 Ox:∀x∈sc.names,x.2=.local->sc.names.lookup x.1=some .local
 free:∀n,(n,NameKind.free)∈sc.names->ns.lookup n=some .cell\/ns.lookup n=some .free
 OG:∀x∈jb,sc.names.lookup (C.nm x)=some .free
 dis:∀x∈tg,jb.contains x=false
theorem BY{C:Cx}{N:bz C}{T:uU}(B:tS C N T){ns:Ns}{tg jb:List Nat}{sc:Scope}(h:At T ns tg jb sc=true):QK C ns tg jb sc:=by
 refine an7 h fun h1 h2 h3 h4 h5 h6 h7=>⟨jx h1,fun y hy q=> ?_,jx h3,fun x hx q=> ?_,fun n hn=> ?_,fun x hx=> ?_,fun x hx=>nt (dG.mp h7 x hx)⟩
 ·exact Bool.false_ne_true ((nt (dG.mp h2 y hy)).symm.trans (ez q))
 ·exact yS (dG.mp h4 x hx) q wh
 ·exact yS (dG.mp h5 _ hn) rfl fun h=>((je _ _).mp h).imp jx jx
 ·exact B.nm x▸jx (dG.mp h6 x hx)
end
section
section
variable{C:Cx}{N:bz C}{P:b5}{T:uU}{c:Calls}{d:Nat}{b:Bool}
theorem jO{ns:Ns}:∀{xs:List Ex} {es:List Expr},Bj T ns xs es=true->xs.length=es.length/\es.all (fun e=> !isStarred e)=true
 |[],es,h=>y0 h ⟨rfl,rfl⟩
 |x::xs,es,h=>yC h fun e es h=>Ba h fun h1 h2 h3=>by
  have q:=jO h3
  exact⟨congrArg Nat.succ q.1,by rw[List.all_cons,h1,q.2];rfl⟩
theorem Yh{x:Ex}{e:Expr}{pos}{ai:Env}(h:SE C N P c d b ai x e):SE C N P c d b ai (.not (.ex x)) (.UnaryOp .Not e pos):=fun ρ σ v aK hv A E s β R S F=>by
 refine yx hv fun bb σ1 e1 hv=> ?_
 refine bB e1 fun w aX e2 e1=> ?_
 refine OB e1 fun tb e3 e1=> ?_
 revert hv;refine kT e1 fun hv=> ?_
 refine kT hv ?_
 refine wpAny_UnaryOp (bH.cont (h ρ σ w aX e2 A E s β R S F) fun r1 s1 bL bw S1 rr=> ?_)
 refine j0 ?_
 refine bK (uD S1 e3 rr fun tk=>cW ?_)
 exact⟨bL,bw.trans (aM.iU tk),S1,rfl⟩
mutual
theorem aP(B:qQ C N P T)(co:fk C P c d)(nw:jG C P c d):∀(x:Ex) (ns:Ns) (e:Expr) (ai:Env),iH ns ai->cJ T ns x e=true->SE C N P c d b ai x e
 | .cst v,ns,e,ai,V,h=>Xj h
 | .ah x,ns,e,ai,V,h=>pK h fun n p h=>Yk ((eq_of_beq h).trans (B.kP.nm x))
 | .aC x v,ns,e,ai,V,h=>pK h fun n p h=>Ba h fun h1 h2 h3=>by
  cases hu:T.val x with
  |none=>rw[hu]at h3;exact aN h3
  |some u=>
   rw[hu]at h3
   have h3:u=v:=jx h3
   have h2:=eq_of_beq h2
   obtain⟨w,g1,g2,g3⟩:=B.kP.val x u hu
   rw[h3]at g2
   exact Q4 B.ok (V.aC _ (iR h1)) (h2▸g1) g2 (h2▸g3)
 | .aq x a,ns,e,ai,V,h=>mq h fun o n p h=>Gx h fun h1 h2 h3 h4=>
  Ra B.ok B.cls (B.kP.ok a h1) ((eq_of_beq h2).trans (B.kP.nm a)) (aP B co nw x ns _ ai V h4) (ie h3)
 | .call f xs,ns,e,ai,V,h=>yN h fun n p es q h=>Gx h fun h1 h2 h3 h4=>
  let g:=B.kP.fn f h3
  Q8 B.ok co (V.aC _ (iR h1)) (eq_of_beq h2▸g.2.2) (eq_of_beq h2▸g.1) g.2.1 (jO h4).1 (jO h4).2 (oq B co nw xs ns _ ai V h4)
 | .new k xs,ns,e,ai,V,h=>yN h fun n p es q h=>Gx h fun h1 h2 h3 h4=>
  let g:=B.kP.cls k h3
  Yi B.ok nw (V.aC _ (iR h1)) (eq_of_beq h2▸g.2.2) (eq_of_beq h2▸g.1) g.2.1 (jO h4).1 (jO h4).2 (oq B co nw xs ns _ ai V h4)
 | .bM x m xs,ns,e,ai,V,h=>yM h fun o n ap es p hb hp h=>Gx h fun h1 h3 h5 h6=>
  Q2 B.ok B.cls co ((eq_of_beq h1).trans (B.kP.nm m)) (ie hb) (jO h6).1 (jO h6).2 (by simpa using h3) hp (aP B co nw x ns _ ai V h5) (oq B co nw xs ns _ ai V h6)
 | .rV x y,ns,e,ai,V,h=>yM h fun o n ap es p hb hp h=>j4 h fun h1 h=>by
  have h1:=eq_of_beq h1;subst h1
  exact y1 h fun f h=>Ba h fun h3 h5 h6=>Yt (ie hb) (nt h3) hp (aP B co nw x ns _ ai V h5) (aP B co nw y ns _ ai V h6)
 | .ext x y,ns,e,ai,V,h=>yM h fun o n ap es p hb hp h=>j4 h fun h1 h=>by
  have h1:=eq_of_beq h1;subst h1
  exact y1 h fun f h=>Ba h fun h3 h5 h6=>Yp (ie hb) (nt h3) hp (aP B co nw x ns _ ai V h5) (aP B co nw y ns _ ai V h6)
 | .sy x y z,ns,e,ai,V,h=>yM h fun o n ap es p hb hp h=>j4 h fun h1 h=>by
  have h1:=eq_of_beq h1;subst h1
  exact yC h fun f es h=>y1 h fun g h=>YU h fun h3 h4 h6 h7 h8=>Q6 B.ok (ie hb) (nt h3) (nt h4) hp (aP B co nw x ns _ ai V h6) (aP B co nw y ns _ ai V h7) (aP B co nw z ns _ ai V h8)
 | .len x,ns,e,ai,V,h=>yB h fun p es q h1 h3 h=>y1 h fun f h=>j4 h fun h4 h5=>
  Yl B.ok (V.aC _ (iR h1)) (B.kP.blt _ h3).2 (B.kP.blt _ h3).1 B.kP.len (nt h4) (aP B co nw x ns _ ai V h5)
 | .pB x,ns,e,ai,V,h=>yB h fun p es q h1 h3 h=>y1 h fun f h=>j4 h fun h4 h5=>
  QZ B.ok (V.aC _ (iR h1)) (B.kP.blt _ h3).2 (B.kP.blt _ h3).1 B.kP.sorted (nt h4) (aP B co nw x ns _ ai V h5)
 | .tuple x,ns,e,ai,V,h=>yB h fun p es q h1 h3 h=>y1 h fun f h=>j4 h fun h4 h5=>
  MX B.ok (V.aC _ (iR h1)) (B.kP.blt _ h3).2 (B.kP.blt _ h3).1 B.kP.tuple (nt h4) (aP B co nw x ns _ ai V h5)
 | .pX x,ns,e,ai,V,h=>yB h fun p es q h1 h3 h=>y1 h fun f h=>j4 h fun h4 h5=>
  QY B.ok (V.aC _ (iR h1)) (B.kP.blt _ h3).2 (B.kP.blt _ h3).1 B.kP.str (nt h4) (aP B co nw x ns _ ai V h5)
 | .isStr x,ns,e,ai,V,h=>yB h fun p es q h1 h3 h=>yC h fun f es h=>y1 h fun g h=>
  pK h fun m r h=>YU h fun h4 h5 h6 h7 h8=>by
  have h5:=eq_of_beq h5;subst h5
  exact MY B.ok (V.aC _ (iR h1)) (B.kP.blt _ h3).2 (B.kP.blt _ h3).1 B.kP.isi (V.aC _ (iR h4)) (B.kP.blt _ h6).2 (B.kP.blt _ h6).1 B.kP.str (nt h7) (aP B co nw x ns _ ai V h8)
 | .bF op x y,ns,e,ai,V,h=>BP h fun f os gs p h=>y1 h fun o h=>y1 h fun g h=>Gx h fun h1 h2 h3 h4=>
  Yr B.ok (Fw h1) (aP B co nw x ns _ ai V h3) (aP B co nw y ns _ ai V h4) (rP h2)
 | .eW all xs,ns,e,ai,V,h=>Fc h fun o es p h=>j4 h fun h1 h2=>Ys (Gb h1) (Fq B co nw all xs ns _ ai V h2)
 | .not (.ex x),ns,e,ai,V,h=>rE h fun o f p h=>j4 h fun h1 h2=>yUn h1 (Yh (aP B co nw x ns _ ai V h2))
 | .not (.not _),ns,e,ai,V,h=>aN h
 | .not (.eW _ _),ns,e,ai,V,h=>aN h
 | .ar op x y,ns,e,ai,V,h=>VS h fun f o g p h=>Ba h fun h1 h2 h3=>aeL (AJ h1) (aP B co nw x ns _ ai V h2) (aP B co nw y ns _ ai V h3)
 | .bO x y,ns,e,ai,V,h=>mj h fun f g p h=>Ba h fun h1 h2 h3=>Yo B.ok (aP B co nw x ns _ ai V h2) (aP B co nw y ns _ ai V h3) (Df h1)
 | .Gs x n,ns,e,ai,V,h=>yU h fun f u p q h=>yI h fun m r t h=>Ba h fun h1 h2 h3=>by
  have h1:=jx h1;subst h1
  exact Yq B.gu (aP B co nw x ns _ ai V h3) (HN h2)
 | .jm x,ns,e,ai,V,h=>yU h fun f u p q h=>rE h fun o v r h=>j4 h fun h1 h2=>
  yUn h1 (yI h2 fun m s t h=>j4 h fun h1 h3=>by
  have h1:=jx h1;subst h1
  exact MZ (aP B co nw x ns _ ai V h3))
 | .ite t x y,ns,e,ai,V,h=>VR h fun q f g p h=>Ba h fun h1 h2 h3=>Ym (rg B co nw t ns _ ai V h1) (aP B co nw x ns _ ai V h2) (aP B co nw y ns _ ai V h3)
 | .ak xs,ns,e,ai,V,h=>zX h fun es k p h=>j4 h fun h1 h2=>Ye (oq B co nw xs ns _ ai V h2) (by simpa using h1)
 | .list xs,ns,e,ai,V,h=>acQ h fun es p h=>j4 h fun h1 h2=>Q3 (oq B co nw xs ns _ ai V h2) (by simpa using h1)
 | .dict xs,ns,e,ai,V,h=>acR h fun ks vs p h=>j4 h fun h1 h2=>by
  have hs:=Fk B co nw xs ns ks vs ai V h2
  cases(je _ _).mp h1 with
  |inl q=>
   cases hs with
   |nil=>exact M8
   |cons a b c=>exact Q5 (.cons a b c) nofun (by simpa using q)
  |inr q=>exact Ic hs (by simpa using q)
 | .comp el tg it jb cond,ns,e,ai,V,h=>yL h fun qG t iter ifs sc p h=>an6 h fun h1 h2 h3 h4 h5 h6=>
  let K:=BY B.kP h2
  Q7 B.ok V ⟨fun ai x=>s8 h1 ai x,K.kind,K.cell,K.nd,K.Ox,K.free,K.OG,fun ai V=>BU V B.kP h3,K.dis,fun ai V=>aP B co nw el sc.names _ ai V h5,fun ai V=>vW B co nw cond sc.names _ ai V h6⟩ (aP B co nw it ns _ ai V h4)
theorem oq(B:qQ C N P T)(co:fk C P c d)(nw:jG C P c d):∀(xs:List Ex) (ns:Ns) (es:List Expr) (ai:Env),iH ns ai->Bj T ns xs es=true->SL C N P c d b ai xs es
 |[],ns,es,ai,V,h=>y0 h sR
 |x::xs,ns,es,ai,V,h=>yC h fun e es h=>Ba h fun h1 h2 h3=>mh (aP B co nw x ns _ ai V h2) (oq B co nw xs ns _ ai V h3) (nt h1)
theorem Fq(B:qQ C N P T)(co:fk C P c d)(nw:jG C P c d)(all:Bool):∀(xs:List Ex) (ns:Ns) (es:List Expr) (ai:Env),iH ns ai->Uk T ns xs es=true->SB C N P c d b ai all xs es
 |[],ns,es,ai,V,h=>aN h
 |x::xs,ns,es,ai,V,h=>yC h fun e es h=>j4 h fun h1 h2=>by
  have hx:=aP B co nw x ns _ ai V h1
  cases(je _ _).mp h2 with
  |inl q=>exact j4 q fun q1 q2=>y0 q1 (y0 q2 (Yx hx))
  |inr q=>
   have r:=Fq B co nw all xs ns _ ai V q
   cases xs with
   |nil=>exact aN q
   |cons y ys=>exact yC q (fun f fs Z r=>Rb hx r) r
theorem Fk(B:qQ C N P T)(co:fk C P c d)(nw:jG C P c d):∀(xs:List Ex) (ns:Ns) (ks:List (Option Expr)) (vs:List Expr) (ai:Env),iH ns ai->Uj T ns xs ks vs=true->Np C N P c d b ai xs ks vs
 |[],ns,ks,vs,ai,V,h=>j4 h fun h1 h2=>y0 h1 (y0 h2 .nil)
 |[_],ns,ks,vs,ai,V,h=>aN h
 |x::y::xs,ns,ks,vs,ai,V,h=>yC h fun k ks h=>yC h fun v vs h=>yO h fun k h=>Ba h fun h1 h2 h3=>
  .cons (aP B co nw x ns _ ai V h1) (aP B co nw y ns _ ai V h2) (Fk B co nw xs ns _ _ ai V h3)
theorem rg(B:qQ C N P T)(co:fk C P c d)(nw:jG C P c d):∀(t:Cd) (ns:Ns) (e:Expr) (ai:Env),iH ns ai->II T ns t e=true->SC C N P c d b ai t e
 | .not t,ns,e,ai,V,h=>rE h fun o f p h=>j4 h fun h1 h2=>yUn h1 (Yu (rg B co nw t ns _ ai V h2))
 | .eW all cs,ns,e,ai,V,h=>Fc h fun o es p h=>j4 h fun h1 h2=>Yw (Gb h1) (Fj B co nw all cs ns _ ai V h2)
 | .ex x,ns,e,ai,V,h=>j4 h fun h1 h2=>by
  cases(je _ _).mp h1 with
  |inl q=>exact aeM (aP B co nw x ns _ ai V h2) (fun vm=>AM q ai vm)
  |inr q=>
   cases x with
   |bF op y z=>exact(BP h2 fun f os gs p h=>y1 h fun o h=>y1 h fun g h=>Gx h fun h1 h2 h3 h4=>
    Yv B.ok (Fw h1) (aP B co nw y ns _ ai V h3) (aP B co nw z ns _ ai V h4) (rP h2))
   |_=>exact aN q
theorem Fj(B:qQ C N P T)(co:fk C P c d)(nw:jG C P c d)(all:Bool):∀(cs:List Cd) (ns:Ns) (es:List Expr) (ai:Env),iH ns ai->GB T ns cs es=true->ST C N P c d b ai all cs es
 |[],ns,es,ai,V,h=>y0 h X6
 |t::cs,ns,es,ai,V,h=>yC h fun e es h=>j4 h fun h1 h2=>QL (rg B co nw t ns _ ai V h1) (Fj B co nw all cs ns _ ai V h2)
theorem vW(B:qQ C N P T)(co:fk C P c d)(nw:jG C P c d):∀(cs:List Cd) (ns:Ns) (es:List Expr) (ai:Env),iH ns ai->GB T ns cs es=true->TW C N P c d b ai cs es
 |[],ns,es,ai,V,h=>y0 h .nil
 |t::cs,ns,es,ai,V,h=>yC h fun e es h=>j4 h fun h1 h2=>.cons (rg B co nw t ns _ ai V h1) (vW B co nw cs ns _ ai V h2)
end
end
end
section
noncomputable def xS(e:Stmt)(re:Option Expr->Bool:=fun Z=>false)(iff:Expr->List Stmt->List Stmt->Bool:=fun Z Z Z=>false)(No:List Expr->Expr->Bool:=fun Z Z=>false)(au:Expr->Operator->Expr->Bool:=fun Z Z Z=>false)(ex:Expr->Bool:=fun Z=>false)(fo:Expr->Expr->List Stmt->List Stmt->Bool:=fun Z Z Z Z=>false)(tr:List Stmt->List ExceptHandler->List Stmt->List Stmt->Bool:=fun Z Z Z Z=>false):Bool:=match e with
 | .Return a _=>re a
 | .If a b c _=>iff a b c
 | .Assign a b _=>No a b
 | .AugAssign a b c _=>au a b c
 | .Expr a _=>ex a
 | .For a b c d _=>fo a b c d
 | .Try a b c d _=>tr a b c d
 |_=>false
@[elab_as_elim] theorem TG{re:Option Expr->Bool}{iff:Expr->List Stmt->List Stmt->Bool}{No:List Expr->Expr->Bool}{au:Expr->Operator->Expr->Bool}{ex:Expr->Bool}{fo:Expr->Expr->List Stmt->List Stmt->Bool}{tr:List Stmt->List ExceptHandler->List Stmt->List Stmt->Bool}{e:Stmt}{G:Stmt->Prop}(h:xS e (re:=re) (iff:=iff) (No:=No) (au:=au) (ex:=ex) (fo:=fo) (tr:=tr)=true)(kre:∀a z0,re a=true->G (.Return a z0))(agx:∀a b c z0,iff a b c=true->G (.If a b c z0))(agz:∀a b z0,No a b=true->G (.Assign a b z0))(kau:∀a b c z0,au a b c=true->G (.AugAssign a b c z0))(kex:∀a z0,ex a=true->G (.Expr a z0))(kfo:∀a b c d z0,fo a b c d=true->G (.For a b c d z0))(ktr:∀a b c d z0,tr a b c d=true->G (.Try a b c d z0)):G e:=by
 cases e<;>first|exact aN h|exact kre _ _ h|exact agx _ _ _ _ h|exact agz _ _ _ h|exact kau _ _ _ _ h|exact kex _ _ h|exact kfo _ _ _ _ _ h|exact ktr _ _ _ _ _ h
@[elab_as_elim] theorem Lp{f:Option Expr->Bool}{e:Stmt}{G:Stmt->Prop}(h:xS e (re:=f)=true)(k:∀a z0,f a=true->G (.Return a z0)):G e:=TG h k (fun Z Z Z Z=>aN) (fun Z Z Z=>aN) (fun Z Z Z Z=>aN) (fun Z Z=>aN) (fun Z Z Z Z Z=>aN) (fun Z Z Z Z Z=>aN)
@[elab_as_elim] theorem aeR{f:Expr->List Stmt->List Stmt->Bool}{e:Stmt}{G:Stmt->Prop}(h:xS e (iff:=f)=true)(k:∀a b c z0,f a b c=true->G (.If a b c z0)):G e:=TG h (fun Z Z=>aN) k (fun Z Z Z=>aN) (fun Z Z Z Z=>aN) (fun Z Z=>aN) (fun Z Z Z Z Z=>aN) (fun Z Z Z Z Z=>aN)
@[elab_as_elim] theorem rF{f:List Expr->Expr->Bool}{e:Stmt}{G:Stmt->Prop}(h:xS e (No:=f)=true)(k:∀a b z0,f a b=true->G (.Assign a b z0)):G e:=TG h (fun Z Z=>aN) (fun Z Z Z Z=>aN) k (fun Z Z Z Z=>aN) (fun Z Z=>aN) (fun Z Z Z Z Z=>aN) (fun Z Z Z Z Z=>aN)
@[elab_as_elim] theorem tV{f:Expr->Operator->Expr->Bool}{e:Stmt}{G:Stmt->Prop}(h:xS e (au:=f)=true)(k:∀a b c z0,f a b c=true->G (.AugAssign a b c z0)):G e:=TG h (fun Z Z=>aN) (fun Z Z Z Z=>aN) (fun Z Z Z=>aN) k (fun Z Z=>aN) (fun Z Z Z Z Z=>aN) (fun Z Z Z Z Z=>aN)
@[elab_as_elim] theorem VQ{f:Expr->Bool}{e:Stmt}{G:Stmt->Prop}(h:xS e (ex:=f)=true)(k:∀a z0,f a=true->G (.Expr a z0)):G e:=TG h (fun Z Z=>aN) (fun Z Z Z Z=>aN) (fun Z Z Z=>aN) (fun Z Z Z Z=>aN) k (fun Z Z Z Z Z=>aN) (fun Z Z Z Z Z=>aN)
@[elab_as_elim] theorem Ro{f:Expr->Expr->List Stmt->List Stmt->Bool}{e:Stmt}{G:Stmt->Prop}(h:xS e (fo:=f)=true)(k:∀a b c d z0,f a b c d=true->G (.For a b c d z0)):G e:=TG h (fun Z Z=>aN) (fun Z Z Z Z=>aN) (fun Z Z Z=>aN) (fun Z Z Z Z=>aN) (fun Z Z=>aN) k (fun Z Z Z Z Z=>aN)
@[elab_as_elim] theorem acP{f:List Stmt->List ExceptHandler->List Stmt->List Stmt->Bool}{e:Stmt}{G:Stmt->Prop}(h:xS e (tr:=f)=true)(k:∀a b c d z0,f a b c d=true->G (.Try a b c d z0)):G e:=TG h (fun Z Z=>aN) (fun Z Z Z Z=>aN) (fun Z Z Z=>aN) (fun Z Z Z Z=>aN) (fun Z Z=>aN) (fun Z Z Z Z Z=>aN) k
noncomputable def aaf:Ex->Bool
 | .cst .none=>true
 |_=>false
theorem PS{x:Ex}(h:aaf x=true):x=.cst .none:=by
 cases x with
 |cst v=>cases v<;>first|rfl|exact aN h
 |_=>exact aN h
noncomputable def Rq(y:Ex)(f:Ex->List Nat->Ex->List Nat->List Cd->Bool):Bool:=match y with
 | .comp el tg it jb cond=>f el tg it jb cond
 |_=>false
@[elab_as_elim] theorem acS{y:Ex}{f:Ex->List Nat->Ex->List Nat->List Cd->Bool}{G:Ex->Prop}(h:Rq y f=true)(k:∀el tg it jb cond,f el tg it jb cond=true->G (.comp el tg it jb cond)):G y:=by
 cases y<;>first|exact aN h|exact k _ _ _ _ _ h
noncomputable def Kl(T:uU)(ns:Ns)(y:Ex)(n:Str)(p1:Pos)(e:Expr):Bool:=Rq y fun el tg it jb cond=>xL e fun qG t iter ifs sc pos=>
  vB ns n&&(p1.line==pos.line)&& !(sc.names.any fun(m,k)=>m==n&&(k==.local||k==.cell))&&sJ iter&&At T ns tg jb sc&&Ao T sc.names tg t&&cJ T ns it iter&&cJ T sc.names el qG&&GB T sc.names cond ifs
mutual
noncomputable def ZN(T:uU)(ns:Ns):St->Stmt->Bool
 | .Gw,_=>true
 | .ret x,s=>xS s (re:=fun o=>(xO o fun e=>cJ T ns x e)||(o.isNone&&aaf x))
 | .ifs t xs ys,s=>xS s (iff:=fun e as bs=>II T ns t e&&qV T ns xs as&&qV T ns ys bs)
 | .aQ (.nm x) y,s=>xS s (No:=fun ts e=>x1 ts fun t=>xE t (na:=fun n=>n==T.nm x&&T.ok x&&Jj ns n&&((l9 e&&cJ T ns y e)||Kl T ns y n t.pos e)))
 | .aQ (.ak xs) y,s=>xS s (No:=fun ts e=>x1 ts fun t=>xE t (tu:=fun es=>o5 T ns xs es&&l9 e&&B7 e&&cJ T ns y e))
 | .aQ (.aq x a) y,s=>xS s (No:=fun ts e=>x1 ts fun t=>xE t (at_:=fun o n Z=>n==T.nm a&&l9 e&&cJ T ns x o&&cJ T ns y e))
 | .aQ (.sub x k) y,s=>xS s (No:=fun ts e=>x1 ts fun t=>xE t (su:=fun o i=>l9 e&&cJ T ns x o&&cJ T ns k i&&cJ T ns y e))
 | .sE x a op y,s=>xS s (au:=fun t o v=>xE t (at_:=fun e n Z=>T.ok a&&n==T.nm a&&OJ op o&&cJ T ns x e&&cJ T ns y v))
 | .sD x k op y,s=>xS s (au:=fun t o v=>xE t (su:=fun e i=>OJ op o&&rH i&&cJ T ns x e&&cJ T ns k i&&cJ T ns y v))
 | .expr x,s=>xS s (ex:=fun e=>l9 e&&cJ T ns x e)
 | .Na x n body,s=>xS s (fo:=fun t it Bb el=>el.isEmpty&&xB T ns it "range" fun es=>x1 es fun m=>xI m fun m=>decide (m=(n:Int))&&Nat.blt n aJ&&Ue T ns [x] t&&qV T ns body Bb)
 | .cY tg x body,s=>xS s (fo:=fun t e Bb el=>el.isEmpty&&Ue T ns tg t&&sJ e&&cJ T ns x e&&qV T ns body Bb)
 | .zH xs ys,s=>xS s (tr:=fun as hs es fs=>hs.isEmpty&&es.isEmpty&&xC fs fun f fs=>qV T ns xs as&&qV T ns ys (f::fs))
noncomputable def qV(T:uU)(ns:Ns):List St->List Stmt->Bool
 |[],ss=>ss.isEmpty
 |x::xs,ss=>xC ss fun s ss=>ZN T ns x s&&qV T ns xs ss
end
section
variable{C:Cx}{N:bz C}{P:b5}{T:uU}{c:Calls}{d:Nat}
theorem O5(B:qQ C N P T)(co:fk C P c d)(nw:jG C P c d){ns:Ns}{ai:Env}(V:iH ns ai){x:Nat}{y:Ex}{n:Str}{p1 pos:Pos}{e:Expr}(hn:n=T.nm x)(ho:T.ok x=true)(h:Kl T ns y n p1 e=true):
  SS C N P c d ai (.aQ (.nm x) y) (.Assign [.Name n p1] e pos):=by
 exact acS h fun el tg it jb cond h=>yL h fun qG t iter ifs sc lp h=>an9 h fun h1 h2 h3 h4 h5 h6 h7 h8 h9=>by
  have K:=BY B.kP h5
  have L:=z9 V B.kP hn ho h1
  refine QW B.ok V ⟨fun ai x=>s8 h4 ai x,K.kind,K.cell,K.nd,K.Ox,K.free,K.OG,fun ai V=>BU V B.kP h6,K.dis,fun ai V=>aP B co nw el sc.names _ ai V h8,fun ai V=>vW B co nw cond sc.names _ ai V h9⟩ (aP B co nw it ns _ ai V h7) L.1 L.2 ?_
  have hb:ai.blockKind=.function:=by unfold Env.blockKind;rw[iH.kind V];rfl
  show(pure (ai.blockKind==.function&&ai.kindOf n==some .local&&p1.line==lp.line&& !(sc.names.any fun(m,k)=>m==n&&(k==.local||k==.cell))):Sem Bool)=pure true
  rw[hb,V.ah n (wh h1),h2,nt h3];rfl
mutual
theorem Pc(B:qQ C N P T)(co:fk C P c d)(nw:jG C P c d):∀(x:St) (ns:Ns) (s:Stmt) (ai:Env),iH ns ai->ZN T ns x s=true->SS C N P c d ai x s
 | .Gw,ns,s,ai,V,h=>Yc
 | .ret x,ns,s,ai,V,h=>Lp h fun o p h=>by
  cases(je _ _).mp h with
  |inl h=>exact yO h fun e h=>X9 (aP B co nw x ns _ ai V h)
  |inr h=>exact j4 h fun h1 h2=>yZ h1 (PS h2▸QN)
 | .ifs t xs ys,ns,s,ai,V,h=>aeR h fun e as bs p h=>Ba h fun h1 h2 h3=>Yb (rg B co nw t ns _ ai V h1) (i9 B co nw xs ns _ ai V h2) (i9 B co nw ys ns _ ai V h3)
 | .aQ (.nm x) y,ns,s,ai,V,h=>rF h fun ts e p h=>y1 h fun t h=>
  @pK _ _ (fun t'=>t=t'->SS C N P c d ai (.aQ (.nm x) y) (.Assign [t'] e p)) h (fun n q h z=>Gx h fun h1 h2 h3 h4=>by
   subst z
   cases(je _ _).mp h4 with
   |inl h=>exact j4 h fun h5 h6=>Yd (rM V B.kP (eq_of_beq h1) h2 h3).1 (rM V B.kP (eq_of_beq h1) h2 h3).2 (aP B co nw y ns _ ai V h6) (jT h5 _ _ _)
   |inr h=>exact O5 B co nw V (eq_of_beq h1) h2 h) rfl
 | .aQ (.ak xs) y,ns,s,ai,V,h=>rF h fun ts e p h=>y1 h fun t h=>
  zX h fun es k q h=>Gx h fun h1 h2 h3 h4=>
  QU (qu V B.kP h1) (aP B co nw y ns _ ai V h4) (AP h2 _ _) (De h3 _)
 | .aQ (.aq x a) y,ns,s,ai,V,h=>rF h fun ts e p h=>y1 h fun t h=>
  mq h fun o n q h=>Gx h fun h1 h2 h3 h4=>
  QX B.ok B.cls B.gI ((eq_of_beq h1).trans (B.kP.nm a)) (aP B co nw x ns _ ai V h3) (aP B co nw y ns _ ai V h4) (jT h2 _ _ _)
 | .aQ (.sub x k) y,ns,s,ai,V,h=>rF h fun ts e p h=>y1 h fun t h=>
  mj h fun o i q h=>Gx h fun h1 h2 h3 h4=>
  QV B.ok (aP B co nw x ns _ ai V h2) (aP B co nw k ns _ ai V h3) (aP B co nw y ns _ ai V h4) (jT h1 _ _ _)
 | .sE x a op y,ns,s,ai,V,h=>tV h fun t o v p h=>mq h fun e n q h=>YU h fun h1 h2 h3 h4 h5=>
  QT B.ok B.cls B.gI (B.kP.ok a h1) ((eq_of_beq h2).trans (B.kP.nm a)) (AJ h3) (aP B co nw x ns _ ai V h4) (aP B co nw y ns _ ai V h5)
 | .sD x k op y,ns,s,ai,V,h=>tV h fun t o v p h=>mj h fun e i q h=>YU h fun h1 h2 h3 h4 h5=>
  QS B.ok (AJ h1) (aP B co nw x ns _ ai V h3) (aP B co nw k ns _ ai V h4) (aP B co nw y ns _ ai V h5) (AO h2)
 | .expr x,ns,s,ai,V,h=>VQ h fun e p h=>j4 h fun h1 h2=>QO (aP B co nw x ns _ ai V h2) (by unfold interactive;rw[iH.kind V];rfl) (jT h1 _ _ _)
 | .Na x n body,ns,s,ai,V,h=>Ro h fun t it Bb el p h=>j4 h fun h0 h=>y0 h0
  (yB h fun q es r h1 h3 h=>y1 h fun m h=>
  yI h fun m u v h=>Gx h fun h4 h5 h6 h7=>by
   have h4:=jx h4;subst h4
   exact X8 B.ok (Ru V B.kP h6) (i9 B co nw body ns _ ai V h7) (V.aC _ (iR h1)) (B.kP.blt _ h3).2 (B.kP.blt _ h3).1 B.kP.range (by simpa using h5))
 | .cY tg x body,ns,s,ai,V,h=>Ro h fun t e Bb el p h=>YU h fun h0 h1 h2 h3 h4=>y0 h0
  (MW B.ok (Ru V B.kP h1) (aP B co nw x ns _ ai V h3) (i9 B co nw body ns _ ai V h4) (s8 h2 ai))
 | .zH xs ys,ns,s,ai,V,h=>acP h fun as hs es fs p h=>Ba h fun h0 h1 h=>y0 h0 (y0 h1
  (yC h fun f fs h=>j4 h fun h1 h2=>X7 (i9 B co nw xs ns _ ai V h1) (i9 B co nw ys ns _ ai V h2)))
theorem i9(B:qQ C N P T)(co:fk C P c d)(nw:jG C P c d):∀(xs:List St) (ns:Ns) (ss:List Stmt) (ai:Env),iH ns ai->qV T ns xs ss=true->ID C N P c d ai xs ss
 |[],ns,ss,ai,V,h=>y0 h QM
 |x::xs,ns,ss,ai,V,h=>yC h fun s ss h=>j4 h fun h1 h2=>MV (Pc B co nw x ns _ ai V h1) (i9 B co nw xs ns _ ai V h2)
end
end
end
end
section
open PySem
inductive Tr(α:Type)where
 |nil|aE (k:Nat) (a:α)|br (l r:Tr α)
noncomputable def Tr.get{α:Type}:Tr α->Nat->Option α
 | .nil,_=>none
 | .aE k a,x=>cond (Nat.beq k x) (some a) none
 | .br l r,x=>cond (Nat.beq (Nat.mod x 2) 0) (l.get (Nat.div x 2)) (r.get (Nat.div x 2))
noncomputable def nmT:Tr Str:=(.br (.br (.br (.br (.br (.br (.br (.br (.br (.aE 0 ⟨#[107]⟩) (.aE 0 ⟨#[101]⟩)) (.aE 0 ⟨#[110,111,116,101,115]⟩)) (.br (.aE 0 ⟨#[83,84,82,73,78,71]⟩) (.aE 0 ⟨#[116,114,105,101,100]⟩))) (.br (.br (.aE 0 ⟨#[70,73,82,83,84,95,82,79,87,83]⟩) (.aE 0 ⟨#[99,97,108,108,101,101,115]⟩)) (.br (.aE 0 ⟨#[102,108,111,119]⟩) (.aE 0 ⟨#[116,112,108,95,102,105,116,115]⟩)))) (.br (.br (.br (.aE 0 ⟨#[100,105,97,103]⟩) (.aE 0 ⟨#[103,108,111,98,97,108,115]⟩)) (.br (.aE 0 ⟨#[89,95,66,79,79,76]⟩) (.aE 0 ⟨#[109,111,115,116,95,114,111,117,110,100,115]⟩))) (.br (.br (.aE 0 ⟨#[102,114,101,115,104]⟩) (.aE 0 ⟨#[112,108,97,99,101,115]⟩)) (.br (.aE 0 ⟨#[85,95,65,78,89]⟩) (.aE 0 ⟨#[95,108,97,119,95,119,111,114,100,115]⟩))))) (.br (.br (.br (.br (.br (.aE 0 ⟨#[95,95,119,101,97,107,114,101,102,95,95]⟩) (.aE 0 ⟨#[115,99,114,105,112,116]⟩)) (.aE 0 ⟨#[98,111,117,110,100,95,100,101,99,108,115]⟩)) (.br (.aE 0 ⟨#[65,78,89]⟩) (.aE 0 ⟨#[114,101,115,117,108,116]⟩))) (.br (.br (.aE 0 ⟨#[115,116,97,116,105,99]⟩) (.aE 0 ⟨#[97,115,107,101,114]⟩)) (.br (.aE 0 ⟨#[101,120,99,101,115,115]⟩) (.aE 0 ⟨#[101,114,114,111,114,95,99,108,97,115,115]⟩)))) (.br (.br (.br (.aE 0 ⟨#[100,101,99,108,115]⟩) (.aE 0 ⟨#[108,101,110,116]⟩)) (.br (.aE 0 ⟨#[119,97,110,116]⟩) (.aE 0 ⟨#[101,114,97,115,101,100]⟩))) (.br (.br (.aE 0 ⟨#[89,95,69,78,85,77]⟩) (.aE 0 ⟨#[119,97,110,116,115]⟩)) (.br (.aE 0 ⟨#[115,101,108,102,95,107,105,110,100]⟩) (.aE 0 ⟨#[111,119,110]⟩)))))) (.br (.br (.br (.br (.br (.br (.aE 0 ⟨#[95,95,109,111,100,117,108,101,95,95]⟩) (.aE 0 ⟨#[101,113,117,97,108]⟩)) (.aE 0 ⟨#[116,121,112,101,115]⟩)) (.br (.aE 0 ⟨#[70,65,76,83,69,95,84]⟩) (.aE 0 ⟨#[77,79,83,84,95,68,69,69,80]⟩))) (.br (.br (.aE 0 ⟨#[110,97,109,101]⟩) (.aE 0 ⟨#[103,117,101,115,115,101,115]⟩)) (.br (.aE 0 ⟨#[116,101,108,108]⟩) (.aE 0 ⟨#[102,111,114,103,101,116]⟩)))) (.br (.br (.br (.aE 0 ⟨#[102,111,117,110,100]⟩) (.aE 0 ⟨#[112,97,105,114,101,100]⟩)) (.br (.aE 0 ⟨#[107,105,100,115]⟩) (.aE 0 ⟨#[108,105,98]⟩))) (.br (.br (.aE 0 ⟨#[118,97,108,117,101]⟩) (.aE 0 ⟨#[101,120,112,114]⟩)) (.br (.aE 0 ⟨#[108,101,97,102]⟩) (.aE 0 ⟨#[104,111,108,100,115]⟩))))) (.br (.br (.br (.br (.aE 0 ⟨#[102,105,108,101]⟩) (.aE 0 ⟨#[116,114,97,105,108]⟩)) (.br (.aE 0 ⟨#[112,97,114,116]⟩) (.aE 0 ⟨#[114,117,108,101]⟩))) (.br (.br (.aE 0 ⟨#[118,97,114,105,97,110,99,101,115]⟩) (.aE 0 ⟨#[114,111,97,100,115]⟩)) (.br (.aE 0 ⟨#[109,101,116]⟩) (.aE 0 ⟨#[111,117,116]⟩)))) (.br (.br (.br (.aE 0 ⟨#[111,114,105,103,105,110,115]⟩) (.aE 0 ⟨#[116,104,105,115,95,111,102]⟩)) (.br (.aE 0 ⟨#[97,99,99,101,115,115]⟩) (.aE 0 ⟨#[112,117,116,95,99,111,110,100]⟩))) (.br (.br (.aE 0 ⟨#[100,101,99,108]⟩) (.aE 0 ⟨#[110,111,116,101]⟩)) (.br (.aE 0 ⟨#[98,111,117,110,100]⟩) (.aE 0 ⟨#[75,95,83,84,82]⟩))))))) (.br (.br (.br (.br (.br (.br (.br (.aE 0 ⟨#[116,101,120,116]⟩) (.aE 0 ⟨#[113,117,105,101,116]⟩)) (.aE 0 ⟨#[115,116,109,116,115]⟩)) (.br (.aE 0 ⟨#[77,65,82,75,69,68,95,82,79,87,83]⟩) (.aE 0 ⟨#[115,104,111,114,116]⟩))) (.br (.br (.aE 0 ⟨#[100,105,100]⟩) (.aE 0 ⟨#[98,97,110,103,101,100]⟩)) (.br (.aE 0 ⟨#[117,110,115,101,116]⟩) (.aE 0 ⟨#[112,117,116,95,105,110]⟩)))) (.br (.br (.br (.aE 0 ⟨#[110,117,109,98,101,114,115]⟩) (.aE 0 ⟨#[114,111,111,116,115]⟩)) (.br (.aE 0 ⟨#[119,104,111,108,101]⟩) (.aE 0 ⟨#[109,111,115,116,95,100,101,101,112]⟩))) (.br (.br (.aE 0 ⟨#[110]⟩) (.aE 0 ⟨#[115,105,100]⟩)) (.br (.aE 0 ⟨#[115,105,110,107]⟩) (.aE 0 ⟨#[116,101,120,116,115]⟩))))) (.br (.br (.br (.br (.br (.aE 0 ⟨#[97,116]⟩) (.aE 0 ⟨#[108,97,112]⟩)) (.aE 0 ⟨#[114,101,116,115]⟩)) (.br (.aE 0 ⟨#[85,78,75,78,79,87,78]⟩) (.aE 0 ⟨#[78,85,76,76,84]⟩))) (.br (.br (.aE 0 ⟨#[97,98,115,116,114,97,99,116]⟩) (.aE 0 ⟨#[106,117,100,103,101]⟩)) (.br (.aE 0 ⟨#[115,97,109,101]⟩) (.aE 0 ⟨#[95,108,97,119,95,111,119,110]⟩)))) (.br (.br (.br (.aE 0 ⟨#[100,101,102,97,117,108,116,115]⟩) (.aE 0 ⟨#[109,97,114,107,115]⟩)) (.br (.aE 0 ⟨#[111,98,106]⟩) (.aE 0 ⟨#[102,111,114,99,101]⟩))) (.br (.br (.aE 0 ⟨#[114,111]⟩) (.aE 0 ⟨#[100,101,99,108,97,114,101,100,95,111,102]⟩)) (.br (.aE 0 ⟨#[99,104,101,99,107]⟩) (.aE 0 ⟨#[85,95,69,78,85,77]⟩)))))) (.br (.br (.br (.br (.br (.br (.aE 0 ⟨#[95,95,105,110,105,116,95,95]⟩) (.aE 0 ⟨#[111,114,100,101,114]⟩)) (.aE 0 ⟨#[99,111,110,115,116,115]⟩)) (.br (.aE 0 ⟨#[84,82,85,69,95,84]⟩) (.aE 0 ⟨#[108,101,102,116]⟩))) (.br (.br (.aE 0 ⟨#[98,111,100,121]⟩) (.aE 0 ⟨#[99,111,110,115,116,95,101,110,117,109,115]⟩)) (.br (.aE 0 ⟨#[102,105,116,115]⟩) (.aE 0 ⟨#[108,105,115,116,95,105,110,100,101,120]⟩)))) (.br (.br (.br (.aE 0 ⟨#[99,108,101,97,110]⟩) (.aE 0 ⟨#[117,110,100,101,114]⟩)) (.br (.aE 0 ⟨#[99,120]⟩) (.aE 0 ⟨#[112,105,100,115]⟩))) (.br (.br (.aE 0 ⟨#[104,101,108,100]⟩) (.aE 0 ⟨#[116,121,112,101,100]⟩)) (.br (.aE 0 ⟨#[101,108,101,109,101,110,116]⟩) (.aE 0 ⟨#[118]⟩))))) (.br (.br (.br (.br (.aE 0 ⟨#[95,95,100,105,99,116,95,95]⟩) (.aE 0 ⟨#[108,97,116,101]⟩)) (.br (.aE 0 ⟨#[107,101,112,116]⟩) (.aE 0 ⟨#[75,95,70,65,76,83,69]⟩))) (.br (.br (.aE 0 ⟨#[110,105,100]⟩) (.aE 0 ⟨#[103,105,118,101,114]⟩)) (.br (.aE 0 ⟨#[85,78,68,69,70]⟩) (.aE 0 ⟨#[110,101,119]⟩)))) (.br (.br (.br (.aE 0 ⟨#[115,104,97,112,105,110,103]⟩) (.aE 0 ⟨#[115,101,108,118,101,115,95,111,102]⟩)) (.br (.aE 0 ⟨#[114,101,99,107,111,110,115]⟩) (.aE 0 ⟨#[115,104,97,112,101]⟩))) (.br (.br (.aE 0 ⟨#[89,95,85,78,73,79,78]⟩) (.aE 0 ⟨#[100,101,99,108,97,114,101]⟩)) (.br (.aE 0 ⟨#[110,97,109,101,114]⟩) (.aE 0 ⟨#[115,105,103,110]⟩)))))))) (.br (.br (.br (.br (.br (.br (.br (.br (.aE 0 ⟨#[115,101,108,102]⟩) (.aE 0 ⟨#[97,108,111,110,101]⟩)) (.aE 0 ⟨#[101,120,112,114,115]⟩)) (.br (.aE 0 ⟨#[78,85,77,66,69,82]⟩) (.aE 0 ⟨#[115,111,108,105,100]⟩))) (.br (.br (.aE 0 ⟨#[116]⟩) (.aE 0 ⟨#[104,101,97,100,115]⟩)) (.br (.aE 0 ⟨#[100,101,99,108,97,114,101,100]⟩) (.aE 0 ⟨#[115,104,97,112,101,95,102,105,116,115]⟩)))) (.br (.br (.br (.aE 0 ⟨#[112,117,116]⟩) (.aE 0 ⟨#[108,111,111,112,115]⟩)) (.br (.aE 0 ⟨#[66,79,79,76,69,65,78]⟩) (.aE 0 ⟨#[77,79,83,84,95,82,79,85,78,68,83]⟩))) (.br (.br (.aE 0 ⟨#[89,95,83,84,82]⟩) (.aE 0 ⟨#[100,101,101,112]⟩)) (.br (.aE 0 ⟨#[112,97,116,116,101,114,110]⟩) (.aE 0 ⟨#[79,66,74,69,67,84,84]⟩))))) (.br (.br (.br (.br (.br (.aE 0 ⟨#[95,95,100,111,99,95,95]⟩) (.aE 0 ⟨#[106,117,100,103,101,115]⟩)) (.aE 0 ⟨#[105,110,115,105,100,101]⟩)) (.br (.aE 0 ⟨#[69,82,82]⟩) (.aE 0 ⟨#[111,110,101]⟩))) (.br (.br (.aE 0 ⟨#[101,120,116,101,110,100,115,95,99,108,97,115,115]⟩) (.aE 0 ⟨#[115,116,111,112,115]⟩)) (.br (.aE 0 ⟨#[109,101,101,116,115]⟩) (.aE 0 ⟨#[120]⟩)))) (.br (.br (.br (.aE 0 ⟨#[98,111,117,110,100,115]⟩) (.aE 0 ⟨#[100,114,111,112,112,101,100]⟩)) (.br (.aE 0 ⟨#[107,105,110,100,95,111,102]⟩) (.aE 0 ⟨#[107,105,110,100,115]⟩))) (.br (.br (.aE 0 ⟨#[101,108,101,109]⟩) (.aE 0 ⟨#[102,117,110,99]⟩)) (.br (.aE 0 ⟨#[98,97,115,101,95,107,105,110,100]⟩) (.aE 0 ⟨#[121,101,115]⟩)))))) (.br (.br (.br (.br (.br (.br (.aE 0 ⟨#[95,95,102,105,114,115,116,108,105,110,101,110,111,95,95]⟩) (.aE 0 ⟨#[68,95,69,78,85,77]⟩)) (.aE 0 ⟨#[99,97,108,108,101,100]⟩)) (.br (.aE 0 ⟨#[70,82,69,83,72,95,70]⟩) (.aE 0 ⟨#[111,112]⟩))) (.br (.br (.aE 0 ⟨#[112,97,114,97,109,115]⟩) (.aE 0 ⟨#[114,101,97,100,121]⟩)) (.br (.aE 0 ⟨#[119,111,114,100,115]⟩) (.aE 0 ⟨#[108,105,115,116,95,112,114,111,112]⟩)))) (.br (.br (.br (.aE 0 ⟨#[99,111,100,101,115]⟩) (.aE 0 ⟨#[103,111,116,95,98,121]⟩)) (.br (.aE 0 ⟨#[102,108,97,103,115]⟩) (.aE 0 ⟨#[109,97,112,112,105,110,103]⟩))) (.br (.br (.aE 0 ⟨#[111,116,104,101,114]⟩) (.aE 0 ⟨#[115,116,109,116]⟩)) (.br (.aE 0 ⟨#[115,112,114,101,97,100]⟩) (.aE 0 ⟨#[119,104,111,108,101,115]⟩))))) (.br (.br (.br (.br (.aE 0 ⟨#[114,111,119]⟩) (.aE 0 ⟨#[108,97,116,101,114]⟩)) (.br (.aE 0 ⟨#[116,111,112]⟩) (.aE 0 ⟨#[75,95,84,82,85,69]⟩))) (.br (.br (.aE 0 ⟨#[98,117,115,121]⟩) (.aE 0 ⟨#[112,97,116,116,101,114,110,115]⟩)) (.br (.aE 0 ⟨#[101,120,112,108,97,105,110]⟩) (.aE 0 ⟨#[119,111,114,100]⟩)))) (.br (.br (.br (.aE 0 ⟨#[114,101,110,97,109,101,100]⟩) (.aE 0 ⟨#[102,117,110,99,95,97,116]⟩)) (.br (.aE 0 ⟨#[114,101,97,100,111,110,108,121]⟩) (.aE 0 ⟨#[108,97,121,95,114,111,119]⟩))) (.br (.br (.aE 0 ⟨#[78,69,86,69,82]⟩) (.aE 0 ⟨#[107,101,101,112]⟩)) (.br (.aE 0 ⟨#[103,114,97,112,104]⟩) (.aE 0 ⟨#[75,95,85,78,68,69,70]⟩))))))) (.br (.br (.br (.br (.br (.br (.br (.aE 0 ⟨#[110,117,109,98,101,114]⟩) (.aE 0 ⟨#[115,105,100,101]⟩)) (.aE 0 ⟨#[115,111,114,116,115]⟩)) (.br (.aE 0 ⟨#[103,111,116]⟩) (.aE 0 ⟨#[114,111,97,100]⟩))) (.br (.br (.aE 0 ⟨#[107,105,110,100]⟩) (.aE 0 ⟨#[116,111,108,100,95,110,97,109,101,115]⟩)) (.br (.aE 0 ⟨#[115]⟩) (.aE 0 ⟨#[111,119,110,95,115,105,103]⟩)))) (.br (.br (.br (.aE 0 ⟨#[99,111,100,101]⟩) (.aE 0 ⟨#[105,110,105,116,115]⟩)) (.br (.aE 0 ⟨#[97]⟩) (.aE 0 ⟨#[77,79,83,84,95,83,72,65,80,69,83]⟩))) (.br (.br (.aE 0 ⟨#[89,95,78,85,77]⟩) (.aE 0 ⟨#[109,97,114,107]⟩)) (.br (.aE 0 ⟨#[75,95,78,65,77,69]⟩) (.aE 0 ⟨#[109,111,115,116]⟩))))) (.br (.br (.br (.br (.aE 0 ⟨#[97,114,103,115]⟩) (.aE 0 ⟨#[99,104,97,105,110,115]⟩)) (.br (.aE 0 ⟨#[112,97,114,116,115]⟩) (.aE 0 ⟨#[111,112,115]⟩))) (.br (.br (.aE 0 ⟨#[109,101,109,98,101,114,115]⟩) (.aE 0 ⟨#[103,117,97,114,100]⟩)) (.br (.aE 0 ⟨#[114,101,100,117,99,101,100]⟩) (.aE 0 ⟨#[98,111,116,104]⟩)))) (.br (.br (.br (.aE 0 ⟨#[110,97,109,101,115]⟩) (.aE 0 ⟨#[111,119,110,101,114,115]⟩)) (.br (.aE 0 ⟨#[116,97,114,103,101,116]⟩) (.aE 0 ⟨#[112,117,116,95,100,101,102,101,114,114,101,100]⟩))) (.br (.br (.aE 0 ⟨#[89,95,65,82,82,65,89]⟩) (.aE 0 ⟨#[102,97,117,108,116]⟩)) (.br (.aE 0 ⟨#[104,111,115,116]⟩) (.aE 0 ⟨#[75,95,78,85,77]⟩)))))) (.br (.br (.br (.br (.br (.br (.aE 0 ⟨#[95,95,115,116,97,116,105,99,95,97,116,116,114,105,98,117,116,101,115,95,95]⟩) (.aE 0 ⟨#[119,111,114,100,121]⟩)) (.aE 0 ⟨#[115,105,103,115]⟩)) (.br (.aE 0 ⟨#[70,82,69,83,72,95,84]⟩) (.aE 0 ⟨#[114,105,103,104,116]⟩))) (.br (.br (.aE 0 ⟨#[98,97,115,101,115]⟩) (.aE 0 ⟨#[112,114,101,115,101,116]⟩)) (.br (.aE 0 ⟨#[108,105,101,115]⟩) (.aE 0 ⟨#[101,108,101,109,95,109,101,116]⟩)))) (.br (.br (.br (.aE 0 ⟨#[105,110,100,101,120]⟩) (.aE 0 ⟨#[100,114,97,119,110]⟩)) (.br (.aE 0 ⟨#[110,111,100,101]⟩) (.aE 0 ⟨#[101,120,116]⟩))) (.br (.br (.aE 0 ⟨#[116,111,108,100]⟩) (.aE 0 ⟨#[114,101,97,100]⟩)) (.br (.aE 0 ⟨#[107,101,121]⟩) (.aE 0 ⟨#[115,111,114,116]⟩))))) (.br (.br (.br (.br (.aE 0 ⟨#[114,111,119,115]⟩) (.aE 0 ⟨#[116,97,114,103,101,116,115]⟩)) (.br (.aE 0 ⟨#[77,65,88,95,85,78,73,79,78]⟩) (.aE 0 ⟨#[75,95,78,85,76,76]⟩))) (.br (.br (.aE 0 ⟨#[116,97,98]⟩) (.aE 0 ⟨#[102,117,110,99,115]⟩)) (.br (.aE 0 ⟨#[86,79,73,68]⟩) (.aE 0 ⟨#[104,111,119]⟩)))) (.br (.br (.br (.aE 0 ⟨#[112,117,116,116,105,110,103]⟩) (.aE 0 ⟨#[114,111,117,110,100,115]⟩)) (.br (.aE 0 ⟨#[103,105,118,101,110]⟩) (.aE 0 ⟨#[105,110,102,101,114,115]⟩))) (.br (.br (.aE 0 ⟨#[89,95,84,80,76]⟩) (.aE 0 ⟨#[98,97,99,107]⟩)) (.br (.aE 0 ⟨#[100,105,97,103,115]⟩) (.aE 0 ⟨#[75,95,66,73,78,65,82,89]⟩)))))))))
noncomputable def nc(x:Nat):Str:=(nmT.get x).getD ⟨#[]⟩
noncomputable def f96:Fn:=⟨[1,3,10,11,12],[],[.aQ (.aq (.ah 1) 3) (.ah 3),.aQ (.aq (.ah 1) 10) (.ah 10),.aQ (.aq (.ah 1) 11) (.ah 11),.aQ (.aq (.ah 1) 12) (.ah 12)]⟩
noncomputable def Vw:Fn:=⟨[1],[],[.ret (.ak [.aq (.ah 1) 3,.aq (.ah 1) 10,.aq (.ah 1) 11])]⟩
noncomputable def aaK:Fn:=⟨[1,12],[.str []],[.aQ (.aq (.ah 1) 15) (.list []),.aQ (.aq (.ah 1) 12) (.ah 12)]⟩
noncomputable def Vv:Fn:=⟨[1,3,10,11],[],[.expr (.rV (.aq (.ah 1) 15) (.new 106 [.ah 3,.ah 10,.ah 11,.aq (.ah 1) 12]))]⟩
noncomputable def aaJ:Fn:=⟨[1],[],[.aQ (.aq (.ah 1) 15) (.list [])]⟩
noncomputable def Vu:Fn:=⟨[1,19,10],[],[.expr (.rV (.aq (.ah 1) 15) (.ak [.ah 19,.ah 10]))]⟩
noncomputable def aaI:Fn:=⟨[1],[],[.aQ (.aq (.ah 1) 15) (.list []),.aQ (.aq (.ah 1) 23) (.dict []),.aQ (.aq (.ah 1) 24) (.list [.cst .none]),.aQ (.aq (.ah 1) 25) (.list []),.aQ (.aq (.ah 1) 26) (.list []),.aQ (.aq (.ah 1) 27) (.list []),.aQ (.aq (.ah 1) 28) (.dict []),.aQ (.aq (.ah 1) 29) (.dict []),.aQ (.aq (.ah 1) 30) (.cst (.int 0)),.aQ (.aq (.ah 1) 31) (.cst (.int 0)),.cY [13] (.aC 32 (.ak [.ak [.int 1,.str [97,110,121]],.ak [.int 1,.str [117,110,107,110,111,119,110]],.ak [.int 1,.str [110,101,118,101,114]],.ak [.int 1,.str [118,111,105,100]],.ak [.int 1,.str [117,110,100,101,102,105,110,101,100]],.ak [.int 1,.str [110,117,108,108]],.ak [.int 1,.str [115,116,114,105,110,103]],.ak [.int 1,.str [110,117,109,98,101,114]],.ak [.int 2,.int 0,.int 0],.ak [.int 2,.int 1,.int 0],.ak [.int 1,.str [111,98,106,101,99,116]],.ak [.int 8,.ak [],.ak [],.ak [],.ak [],.ak [],.int 0],.ak [.int 6,.ak [.int 8,.int 9]],.ak [.int 1,.str [101,114,114,111,114]],.ak [.int 2,.int 0,.int 1],.ak [.int 2,.int 1,.int 1]])) [.expr (.bM (.ah 1) 17 [.ah 13])]]⟩
noncomputable def aaH:Fn:=⟨[1,33],[],[.ret (.bO (.aq (.ah 1) 15) (.ah 33))]⟩
noncomputable def Vt:Fn:=⟨[1,13],[],[.ifs (.ex (.bF .cZ (.ah 13) (.aq (.ah 1) 23))) [.ret (.bO (.aq (.ah 1) 23) (.ah 13))] [],.aQ (.nm 33) (.len (.aq (.ah 1) 15)),.expr (.rV (.aq (.ah 1) 15) (.ah 13)),.aQ (.sub (.aq (.ah 1) 23) (.ah 13)) (.ah 33),.ret (.ah 33)]⟩
noncomputable def aaG:Fn:=⟨[1,34,35,36],[],[.aQ (.aq (.ah 1) 34) (.ah 34),.aQ (.aq (.ah 1) 35) (.ah 35),.aQ (.aq (.ah 1) 36) (.ah 36),.aQ (.aq (.ah 1) 37) (.ak []),.aQ (.aq (.ah 1) 38) (.cst (.int (-1))),.aQ (.aq (.ah 1) 39) (.ak []),.aQ (.aq (.ah 1) 40) (.cst (.int (-1))),.aQ (.aq (.ah 1) 41) (.cst (.int 0)),.aQ (.aq (.ah 1) 42) (.cst (.bool false)),.aQ (.aq (.ah 1) 43) (.list []),.aQ (.aq (.ah 1) 44) (.list []),.aQ (.aq (.ah 1) 45) (.cst (.int 0)),.aQ (.aq (.ah 1) 10) (.cst (.int 0)),.aQ (.aq (.ah 1) 12) (.cst (.str [])),.aQ (.aq (.ah 1) 46) (.cst (.int 0))]⟩
noncomputable def Vs:Fn:=⟨[47,33],[],[.ret (.bO (.bO (.aq (.ah 47) 15) (.ah 33)) (.cst (.int 0)))]⟩
noncomputable def Vr:Fn:=⟨[47,2,48],[.int 0],[.ret (.bM (.ah 47) 17 [.ak [.aC 49 (.int 3),.ah 2,.ah 48]])]⟩
noncomputable def Vq:Fn:=⟨[47,50,48],[.int 0],[.ret (.bM (.ah 47) 17 [.ak [.aC 51 (.int 4),.ah 50,.ah 48]])]⟩
noncomputable def aaF:Fn:=⟨[47,34,36,52,48],[.int 0],[.Gw,.cY [53,54] (.ah 55) [.ifs (.ex (.bF .eq (.ah 54) (.ah 52))) [.ret (.bM (.ah 47) 17 [.ak [.aC 56 (.int 5),.ah 34,.ah 53,.ah 52,.ah 48]])] []],.ret (.bM (.ah 47) 17 [.ak [.aC 56 (.int 5),.ah 34,.ah 36,.ah 52,.ah 48]])]⟩
noncomputable def Vp:Fn:=⟨[47,57,58],[.int 0],[.ret (.bM (.ah 47) 17 [.ak [.aC 59 (.int 11),.ah 57,.ah 58]])]⟩
noncomputable def aaE:Fn:=⟨[47,35,36],[],[.aQ (.nm 60) (.new 262 [.len (.aq (.ah 47) 24),.ah 35,.ah 36]),.expr (.rV (.aq (.ah 47) 24) (.ah 60)),.ret (.ah 60)]⟩
noncomputable def Vo:Fn:=⟨[47,33],[],[.ifs (.ex (.bF .eq (.ah 33) (.aC 61 (.int 2)))) [.ret (.ak [])] [],.aQ (.nm 13) (.bO (.aq (.ah 47) 15) (.ah 33)),.ifs (.ex (.bF .eq (.bO (.ah 13) (.cst (.int 0))) (.aC 62 (.int 6)))) [.ret (.bO (.ah 13) (.cst (.int 1)))] [],.ret (.ak [.ah 33])]⟩
noncomputable def aaD:Fn:=⟨[13],[],[.aQ (.nm 35) (.bO (.ah 13) (.cst (.int 0))),.ifs (.eW false [.ex (.bF .eq (.ah 35) (.aC 49 (.int 3))),.ex (.bF .eq (.ah 35) (.aC 63 (.int 18)))]) [.ret (.aC 64 (.int 6))] [],.ifs (.ex (.bF .eq (.ah 35) (.aC 51 (.int 4)))) [.ret (.aC 65 (.int 7))] [],.ifs (.ex (.bF .eq (.ah 35) (.aC 56 (.int 5)))) [.ret (.ite (.ex (.isStr (.bO (.ah 13) (.cst (.int 3))))) (.aC 64 (.int 6)) (.aC 65 (.int 7)))] [],.ret (.cst (.int (-1)))]⟩
noncomputable def Vn:Fn:=⟨[47,33],[],[.aQ (.nm 13) (.bO (.aq (.ah 47) 15) (.ah 33)),.ifs (.eW true [.ex (.bF .cZ (.bO (.ah 13) (.cst (.int 0))) (.aC 66 (.ak [.int 2,.int 3,.int 4,.int 5,.int 8]))),.ex (.bF .eq (.bO (.ah 13) (.cst (.int (-1)))) (.cst (.int 1)))]) [.ret (.sy (.aq (.ah 47) 23) (.ar .add (.jm (.ah 13)) (.ak [.cst (.int 0)])) (.cst (.int (-1))))] [],.ret (.cst (.int (-1)))]⟩
noncomputable def Vm:Fn:=⟨[67],[],[.ifs (.eW true [.eW false [.ex (.bF .cZ (.aC 68 (.int 8)) (.ah 67)),.ex (.bF .cZ (.aC 69 (.int 14)) (.ah 67))],.eW false [.ex (.bF .cZ (.aC 70 (.int 9)) (.ah 67)),.ex (.bF .cZ (.aC 71 (.int 15)) (.ah 67))]]) [.aQ (.sub (.ah 67) (.aC 68 (.int 8))) (.cst (.int 1)),.aQ (.sub (.ah 67) (.aC 70 (.int 9))) (.cst (.int 1))] []]⟩
noncomputable def Vl:Fn:=⟨[47,67,33],[],[.ifs (.ex (.bF .cZ (.call 333 [.ah 47,.ah 33]) (.ah 67))) [.ret (.cst (.bool false))] [],.ret (.bF .gw (.call 326 [.bO (.aq (.ah 47) 15) (.ah 33)]) (.ah 67))]⟩
noncomputable def Vk:Fn:=⟨[67],[],[.cY [33] (.ak [.aC 72 (.int 0),.aC 73 (.int 13),.aC 74 (.int 1)]) [.ifs (.ex (.bF .cZ (.ah 33) (.ah 67))) [.ret (.ah 33)] []],.ret (.cst (.int (-1)))]⟩
noncomputable def Vj:Fn:=⟨[47,75],[],[.aQ (.nm 67) (.dict []),.cY [33] (.ah 75) [.cY [76] (.call 319 [.ah 47,.ah 33]) [.aQ (.sub (.ah 67) (.ah 76)) (.cst (.int 1))]],.aQ (.nm 77) (.call 354 [.ah 67]),.ifs (.ex (.bF .ge (.ah 77) (.cst (.int 0)))) [.ret (.ah 77)] [],.expr (.call 340 [.ah 67]),.aQ (.nm 78) (.comp (.ah 33) [33] (.pB (.ah 67)) [67,47] [.ex (.call 347 [.ah 47,.ah 67,.ah 33])]),.ifs (.not (.ex (.ah 78))) [.ret (.aC 61 (.int 2))] [],.ifs (.ex (.bF .eq (.len (.ah 78)) (.cst (.int 1)))) [.ret (.bO (.ah 78) (.cst (.int 0)))] [],.ifs (.ex (.bF .gt (.len (.ah 78)) (.aC 79 (.int 400)))) [.Gw] [],.ret (.bM (.ah 47) 17 [.ak [.aC 62 (.int 6),.tuple (.ah 78)]])]⟩
noncomputable def Vi:Fn:=⟨[47,33],[],[.aQ (.nm 13) (.bO (.aq (.ah 47) 15) (.ah 33)),.ret (.eW true [.bF .cZ (.bO (.ah 13) (.cst (.int 0))) (.aC 66 (.ak [.int 2,.int 3,.int 4,.int 5,.int 8])),.bF .eq (.bO (.ah 13) (.cst (.int (-1)))) (.cst (.int 1))])]⟩
noncomputable def Vh:Fn:=⟨[47,33],[],[.ifs (.ex (.call 366 [.ah 47,.ah 33])) [.ret (.bM (.ah 47) 17 [.ar .add (.jm (.bO (.aq (.ah 47) 15) (.ah 33))) (.ak [.cst (.int 0)])])] [],.ret (.ah 33)]⟩
noncomputable def Vg:Fn:=⟨[47,33],[],[.ifs (.ex (.bF .eq (.call 273 [.ah 47,.ah 33]) (.aC 62 (.int 6)))) [.ret (.call 359 [.ah 47,.comp (.call 373 [.ah 47,.ah 76]) [76] (.call 319 [.ah 47,.ah 33]) [47] []])] [],.ret (.call 373 [.ah 47,.ah 33])]⟩
noncomputable def aaC:Fn:=⟨[47,34],[],[.aQ (.nm 60) (.bO (.aq (.ah 47) 24) (.ah 34)),.ifs (.ex (.bF .ge (.aq (.ah 60) 38) (.cst (.int 0)))) [.ret (.aq (.ah 60) 38)] [],.ret (.call 359 [.ah 47,.comp (.call 297 [.ah 47,.ah 34,.ah 36,.ah 52]) [36,52] (.aq (.ah 60) 43) [34,47] []])]⟩
noncomputable def Vf:Fn:=⟨[47,33],[],[.aQ (.nm 13) (.bO (.aq (.ah 47) 15) (.ah 33)),.ifs (.ex (.bF .eq (.bO (.ah 13) (.cst (.int 0))) (.aC 80 (.int 2)))) [.ret (.aC 81 (.int 12))] [],.ifs (.ex (.bF .eq (.bO (.ah 13) (.cst (.int 0))) (.aC 56 (.int 5)))) [.ret (.call 383 [.ah 47,.bO (.ah 13) (.cst (.int 1))])] [],.aQ (.nm 82) (.call 326 [.ah 13]),.ret (.ite (.ex (.bF .ge (.ah 82) (.cst (.int 0)))) (.ah 82) (.ah 33))]⟩
noncomputable def Ve:Fn:=⟨[47,33],[],[.ret (.call 359 [.ah 47,.comp (.call 390 [.ah 47,.ah 76]) [76] (.call 319 [.ah 47,.ah 33]) [47] []])]⟩
noncomputable def Vd:Fn:=⟨[1,35,83,84,85,10],[],[.aQ (.aq (.ah 1) 35) (.ah 35),.aQ (.aq (.ah 1) 83) (.ah 83),.aQ (.aq (.ah 1) 84) (.ah 84),.aQ (.aq (.ah 1) 85) (.ah 85),.aQ (.aq (.ah 1) 10) (.ah 10),.aQ (.aq (.ah 1) 46) (.cst (.int 0))]⟩
noncomputable def Vc:Fn:=⟨[35,83,84,10],[],[.ret (.new 418 [.ah 35,.ah 83,.ah 84,.cst (.int 0),.ah 10])]⟩
noncomputable def aaB:Fn:=⟨[1],[],[.aQ (.aq (.ah 1) 95) (.dict [])]⟩
noncomputable def aaA:Fn:=⟨[1],[],[.aQ (.aq (.ah 1) 95) (.dict [])]⟩
noncomputable def Vb:Fn:=⟨[1,86,99,33],[],[.ret (.sy (.aq (.ah 1) 95) (.ak [.ah 99,.ah 33]) (.ak [.bF .eq (.ah 99) (.ah 33),.list []]))]⟩
noncomputable def aaz:Fn:=⟨[1,86,99,33],[],[.ret (.cst (.str []))]⟩
noncomputable def Va:Fn:=⟨[1,86,99,33],[],[.ret (.bF .eq (.ah 99) (.ah 33))]⟩
noncomputable def U':Fn:=⟨[1,86,33],[],[.ret (.pX (.ah 33))]⟩
noncomputable def aay:Fn:=⟨[1,86,87,99,33,10,3],[],[.expr (.bM (.ah 86) 100 [.ah 3,.ah 10,.ak [.bM (.ah 86) 101 [.ah 99],.bM (.ah 86) 101 [.ah 33]]])]⟩
noncomputable def U9:Fn:=⟨[1,86,99,33],[],[.ret (.call 651 [.aq (.ah 86) 47,.ah 99,.ah 33])]⟩
noncomputable def U8:Fn:=⟨[1,86,99,33],[],[.ret (.call 658 [.aq (.ah 86) 47,.ah 99,.ah 33])]⟩
noncomputable def U7:Fn:=⟨[47,99,33],[],[.ifs (.eW false [.ex (.bF .eq (.ah 99) (.ah 33)),.ex (.bF .cZ (.ah 33) (.ak [.aC 72 (.int 0),.aC 74 (.int 1),.aC 73 (.int 13)])),.ex (.bF .cZ (.ah 99) (.ak [.aC 61 (.int 2),.aC 73 (.int 13)]))]) [.ret (.cst (.bool true))] [],.ifs (.ex (.bF .eq (.ah 99) (.aC 72 (.int 0)))) [.ret (.bF .ne (.ah 33) (.aC 61 (.int 2)))] [],.ifs (.eW true [.ex (.bF .eq (.ah 99) (.aC 110 (.int 4))),.ex (.bF .eq (.ah 33) (.aC 111 (.int 3)))]) [.ret (.cst (.bool true))] [],.ret (.bF .eq (.call 326 [.bO (.aq (.ah 47) 15) (.ah 99)]) (.ah 33))]⟩
noncomputable def U6:Fn:=⟨[47,99,33],[],[.aQ (.nm 21) (.list []),.aQ (.nm 33) (.call 378 [.ah 47,.ah 33]),.cY [76] (.call 319 [.ah 47,.call 378 [.ah 47,.ah 99]]) [.aQ (.nm 54) (.cst (.bool false)),.cY [53] (.call 319 [.ah 47,.ah 33]) [.ifs (.ex (.call 644 [.ah 47,.ah 76,.ah 53])) [.aQ (.nm 54) (.cst (.bool true))] []],.ifs (.not (.ex (.ah 54))) [.ret (.ak [.cst (.bool false),.list []])] [],.ifs (.eW true [.ex (.bF .eq (.ah 76) (.aC 72 (.int 0))),.ex (.bF .gw (.ah 33) (.ak [.aC 72 (.int 0),.aC 74 (.int 1),.aC 73 (.int 13)]))]) [.aQ (.nm 21) (.list [.aC 112 (.int 1)])] []],.ret (.ak [.cst (.bool true),.ah 21])]⟩
noncomputable def U5:Fn:=⟨[47,99,33],[],[.ifs (.eW false [.ex (.bF .eq (.ah 99) (.aC 61 (.int 2))),.ex (.bF .eq (.ah 33) (.aC 61 (.int 2)))]) [.ret (.cst (.bool true))] [],.cY [76] (.call 319 [.ah 47,.call 378 [.ah 47,.ah 99]]) [.cY [53] (.call 319 [.ah 47,.call 378 [.ah 47,.ah 33]]) [.ifs (.eW false [.ex (.call 644 [.ah 47,.ah 76,.ah 53]),.ex (.call 644 [.ah 47,.ah 53,.ah 76])]) [.ret (.cst (.bool true))] []]],.ret (.cst (.bool false))]⟩
noncomputable def aax:Fn:=⟨[1,47,123,124,125,126,127,128],[],[.aQ (.aq (.ah 1) 47) (.ah 47),.aQ (.aq (.ah 1) 123) (.ah 123),.aQ (.aq (.ah 1) 124) (.ah 124),.aQ (.aq (.ah 1) 125) (.ah 125),.aQ (.aq (.ah 1) 126) (.ah 126),.aQ (.aq (.ah 1) 127) (.ah 127),.aQ (.aq (.ah 1) 128) (.ah 128),.aQ (.aq (.ah 1) 129) (.dict []),.aQ (.aq (.ah 1) 130) (.dict []),.aQ (.aq (.ah 1) 131) (.dict []),.aQ (.aq (.ah 1) 132) (.dict []),.aQ (.aq (.ah 1) 97) (.dict []),.aQ (.aq (.ah 1) 45) (.dict []),.aQ (.aq (.ah 1) 133) (.dict []),.aQ (.aq (.ah 1) 134) (.dict []),.aQ (.aq (.ah 1) 135) (.dict []),.aQ (.aq (.ah 1) 136) (.dict []),.aQ (.aq (.ah 1) 137) (.list []),.aQ (.aq (.ah 1) 138) (.list []),.aQ (.aq (.ah 1) 139) (.list []),.aQ (.aq (.ah 1) 140) (.list []),.aQ (.aq (.ah 1) 141) (.list []),.aQ (.aq (.ah 1) 142) (.list []),.aQ (.aq (.ah 1) 143) (.dict []),.aQ (.aq (.ah 1) 144) (.dict []),.aQ (.aq (.ah 1) 145) (.dict []),.aQ (.aq (.ah 1) 146) (.dict []),.aQ (.aq (.ah 1) 147) (.dict []),.aQ (.aq (.ah 1) 148) (.dict []),.aQ (.aq (.ah 1) 149) (.dict []),.aQ (.aq (.ah 1) 150) (.dict []),.aQ (.aq (.ah 1) 151) (.dict []),.aQ (.aq (.ah 1) 152) (.dict []),.aQ (.aq (.ah 1) 153) (.dict []),.aQ (.aq (.ah 1) 154) (.dict []),.aQ (.aq (.ah 1) 155) (.dict []),.aQ (.aq (.ah 1) 156) (.dict []),.aQ (.aq (.ah 1) 157) (.dict []),.aQ (.aq (.ah 1) 158) (.dict []),.aQ (.aq (.ah 1) 159) (.dict []),.aQ (.aq (.ah 1) 160) (.dict []),.aQ (.aq (.ah 1) 161) (.dict []),.aQ (.aq (.ah 1) 162) (.dict []),.aQ (.aq (.ah 1) 163) (.dict []),.aQ (.aq (.ah 1) 164) (.dict []),.aQ (.aq (.ah 1) 165) (.cst (.int 0)),.aQ (.aq (.ah 1) 166) (.dict []),.aQ (.aq (.ah 1) 167) (.dict []),.aQ (.aq (.ah 1) 168) (.cst .none),.aQ (.aq (.ah 1) 169) (.cst .none),.aQ (.aq (.ah 1) 170) (.new 593 []),.aQ (.aq (.ah 1) 171) (.new 481 []),.aQ (.aq (.ah 1) 172) (.new 509 []),.aQ (.aq (.ah 1) 173) (.new 689 []),.aQ (.aq (.ah 1) 174) (.new 710 []),.aQ (.aq (.ah 1) 175) (.new 759 []),.aQ (.aq (.ah 1) 176) (.new 738 []),.aQ (.aq (.ah 1) 177) (.cst (.int 0))]⟩
noncomputable def U4:Fn:=⟨[1,87,88],[],[.ret (.call 952 [.ah 1,.ah 87,.ah 88])]⟩
noncomputable def aaw:Fn:=⟨[1,87,99,33,10,3],[],[.ret (.call 976 [.ah 1,.ah 87,.ah 99,.ah 33,.ah 10,.ah 3])]⟩
noncomputable def U3:Fn:=⟨[1,3,87,11],[],[.expr (.bM (.ah 1) 100 [.ah 3,.aq (.ah 87) 10,.ah 11])]⟩
noncomputable def U1:Fn:=⟨[1,3,10,11],[],[.cY [16] (.aq (.aq (.ah 1) 127) 15) [.ifs (.eW true [.ex (.bF .eq (.aq (.ah 16) 3) (.ah 3)),.ex (.bF .eq (.aq (.ah 16) 10) (.ah 10)),.ex (.bF .eq (.aq (.ah 16) 11) (.ah 11))]) [.ret (.cst .none)] []],.expr (.bM (.aq (.ah 1) 127) 17 [.ah 3,.ah 10,.ah 11])]⟩
noncomputable def U0:Fn:=⟨[1,33],[],[.ret (.bM (.aq (.ah 1) 170) 101 [.ah 1,.ah 33])]⟩
noncomputable def UZ:Fn:=⟨[1,19,87],[],[.expr (.bM (.aq (.ah 1) 128) 17 [.ah 19,.aq (.ah 87) 10])]⟩
noncomputable def UY:Fn:=⟨[1,87,33],[],[.ifs (.ex (.bF .ne (.aq (.ah 87) 46) (.cst (.int 0)))) [.aQ (.sub (.aq (.ah 1) 132) (.aq (.ah 87) 46)) (.ah 33),.expr (.rV (.aq (.ah 1) 140) (.ak [.cst (.int 0),.aq (.ah 87) 46]))] []]⟩
noncomputable def UX:Fn:=⟨[1,87,33],[],[.ret (.ah 33)]⟩
noncomputable def UW:Fn:=⟨[86,87,88],[],[.ifs (.ex (.bF .cZ (.aq (.ah 87) 46) (.aq (.ah 86) 132))) [.ret (.bO (.aq (.ah 86) 132) (.aq (.ah 87) 46))] [],.ifs (.ex (.bF .gw (.aq (.ah 87) 35) (.aq (.ah 86) 129))) [.Gw,.ret (.aC 73 (.int 13))] [],.ifs (.ex (.bF .ge (.aq (.ah 86) 177) (.aC 196 (.int 50)))) [.Gw] [],.sE (.ah 86) 177 .add (.cst (.int 1)),.zH [.aQ (.nm 33) (.bM (.bO (.aq (.ah 86) 129) (.aq (.ah 87) 35)) 89 [.ah 86,.ah 87,.ah 88])] [.sE (.ah 86) 177 .sub (.cst (.int 1))],.expr (.bM (.ah 86) 189 [.ah 87,.ah 33]),.ret (.ah 33)]⟩
noncomputable def aav:Fn:=⟨[86,87,99,33,10,3],[],[.ifs (.eW false [.ex (.bF .eq (.ah 99) (.aC 73 (.int 13))),.ex (.bF .eq (.ah 33) (.aC 73 (.int 13)))]) [.ret (.cst (.bool true))] [],.aQ (.ak [102,21]) (.bM (.aq (.ah 86) 170) 102 [.ah 86,.ah 99,.ah 33]),.ifs (.eW true [.ex (.ah 102),.ex (.bF .eq (.bM (.aq (.ah 86) 170) 104 [.ah 86,.ah 99,.ah 33]) (.cst (.str [])))]) [.cY [19] (.ah 21) [.expr (.bM (.aq (.ah 86) 128) 17 [.ah 19,.ah 10])],.ret (.cst (.bool true))] [],.expr (.bM (.aq (.ah 86) 170) 109 [.ah 86,.ah 87,.ah 99,.ah 33,.ah 10,.ah 3]),.ret (.cst (.bool false))]⟩
noncomputable def J9:Fn:=⟨[86,33],[],[.ret (.eW true [.bF .gw (.ah 33) (.ak [.aC 72 (.int 0),.aC 73 (.int 13)]),.bO (.bM (.aq (.ah 86) 170) 102 [.ah 86,.ah 33,.aC 65 (.int 7)]) (.cst (.int 0))])]⟩
noncomputable def J8:Fn:=⟨[86,33],[],[.ret (.eW true [.bF .gw (.ah 33) (.ak [.aC 72 (.int 0),.aC 73 (.int 13)]),.bO (.bM (.aq (.ah 86) 170) 102 [.ah 86,.ah 33,.aC 64 (.int 6)]) (.cst (.int 0))])]⟩
noncomputable def J7:Fn:=⟨[86,87,33,3],[],[.aQ (.nm 33) (.bM (.ah 86) 193 [.ah 87,.ah 33]),.ifs (.ex (.bF .eq (.ah 33) (.aC 72 (.int 0)))) [.expr (.bM (.ah 86) 188 [.aC 112 (.int 1),.ah 87])] [.ifs (.eW true [.ex (.bF .ne (.ah 33) (.aC 73 (.int 13))),.not (.ex (.call 1004 [.ah 86,.ah 33]))]) [.expr (.bM (.ah 86) 187 [.ah 3,.ah 87,.ak []])] []]]⟩
noncomputable def J6:Fn:=⟨[1,86,87,197,198,199],[],[.expr (.call 1018 [.ah 86,.ah 198,.bM (.ah 86) 180 [.ah 198,.cst (.int (-1))],.cst (.int 2362)]),.expr (.call 1018 [.ah 86,.ah 199,.bM (.ah 86) 180 [.ah 199,.cst (.int (-1))],.cst (.int 2363)]),.ret (.aC 65 (.int 7))]⟩
noncomputable def J5:Fn:=⟨[86,87,197,99,33],[],[.expr (.bM (.ah 86) 187 [.cst (.int 2365),.ah 87,.ak [.ah 197,.bM (.ah 86) 101 [.ah 99],.bM (.ah 86) 101 [.ah 33]]]),.ret (.aC 73 (.int 13))]⟩
noncomputable def J4:Fn:=⟨[1,86,87,197,198,199],[],[.aQ (.nm 99) (.bM (.ah 86) 193 [.ah 198,.bM (.ah 86) 180 [.ah 198,.cst (.int (-1))]]),.aQ (.nm 33) (.bM (.ah 86) 193 [.ah 199,.bM (.ah 86) 180 [.ah 199,.cst (.int (-1))]]),.ifs (.eW false [.ex (.bF .cZ (.ah 99) (.ak [.aC 72 (.int 0),.aC 73 (.int 13)])),.ex (.bF .cZ (.ah 33) (.ak [.aC 72 (.int 0),.aC 73 (.int 13)]))]) [.ret (.aC 81 (.int 12))] [],.ifs (.not (.ex (.call 1070 [.ah 86,.ah 99,.ah 33]))) [.expr (.call 1044 [.ah 86,.ah 87,.ah 197,.call 395 [.aq (.ah 86) 47,.ah 99],.call 395 [.aq (.ah 86) 47,.ah 33]])] [],.ret (.aC 81 (.int 12))]⟩
noncomputable def E5:Fn:=⟨[86,99,33],[],[.aQ (.nm 201) (.call 1004 [.ah 86,.ah 99]),.aQ (.nm 53) (.call 1004 [.ah 86,.ah 33]),.ifs (.eW false [.ex (.ah 201),.ex (.ah 53)]) [.ret (.eW true [.ah 201,.ah 53])] [],.ifs (.eW true [.ex (.call 1011 [.ah 86,.ah 99]),.ex (.call 1011 [.ah 86,.ah 33])]) [.ret (.cst (.bool true))] [],.ret (.bM (.aq (.ah 86) 170) 105 [.ah 86,.call 395 [.aq (.ah 86) 47,.ah 99],.call 395 [.aq (.ah 86) 47,.ah 33]])]⟩
noncomputable def J3:Fn:=⟨[1,86,87,197,198,199],[],[.aQ (.nm 99) (.bM (.ah 86) 180 [.ah 198,.cst (.int (-1))]),.aQ (.nm 33) (.bM (.ah 86) 180 [.ah 199,.cst (.int (-1))]),.cY [201] (.ak [.ah 99,.ah 33]) [.ifs (.ex (.bF .cZ (.ah 201) (.ak [.aC 202 (.int 5),.aC 110 (.int 4),.aC 72 (.int 0),.aC 73 (.int 13),.aC 74 (.int 1)]))) [.ret (.aC 81 (.int 12))] []],.ifs (.not (.ex (.bM (.aq (.ah 86) 170) 105 [.ah 86,.ah 99,.ah 33]))) [.expr (.bM (.ah 86) 187 [.cst (.int 2367),.ah 87,.ak [.bM (.ah 86) 101 [.ah 99],.bM (.ah 86) 101 [.ah 33]]])] [],.ret (.aC 81 (.int 12))]⟩
noncomputable def Su:Fn:=⟨[1],[],[.aQ (.aq (.ah 1) 203) (.dict [])]⟩
noncomputable def J2:Fn:=⟨[1,86,87,88],[],[.ret (.call 1122 [.ah 86,.ah 1,.ah 87,.aq (.ah 87) 83])]⟩
noncomputable def J1:Fn:=⟨[86,204,87,197],[],[.ifs (.ex (.bF .gw (.ah 197) (.aq (.ah 204) 203))) [.expr (.bM (.ah 86) 187 [.cst (.int 9002),.ah 87,.ak [.ah 197]]),.ret (.aC 73 (.int 13))] [],.ret (.bM (.bO (.aq (.ah 204) 203) (.ah 197)) 200 [.ah 86,.ah 87,.ah 197,.bO (.aq (.ah 87) 84) (.cst (.int 0)),.bO (.aq (.ah 87) 84) (.cst (.int 1))])]⟩
noncomputable def J0:Fn:=⟨[1,86,87,88],[],[.ret (.call 289 [.aq (.ah 86) 47,.aq (.ah 87) 83,.cst (.int 1)])]⟩
noncomputable def JZ:Fn:=⟨[1,86,87,88],[],[.ret (.call 281 [.aq (.ah 86) 47,.aq (.ah 87) 83,.cst (.int 1)])]⟩
noncomputable def JY:Fn:=⟨[1,86,87,88],[],[.ifs (.ex (.bF .eq (.aq (.ah 87) 35) (.aC 205 (.int 4)))) [.ret (.aC 71 (.int 15))] [],.ifs (.ex (.bF .eq (.aq (.ah 87) 35) (.aC 206 (.int 5)))) [.ret (.aC 69 (.int 14))] [],.ret (.ite (.ex (.bF .eq (.aq (.ah 87) 35) (.aC 207 (.int 6)))) (.aC 202 (.int 5)) (.aC 110 (.int 4)))]⟩
noncomputable def Ss:Fn:=⟨[1,47],[],[.aQ (.aq (.ah 1) 47) (.ah 47),.aQ (.aq (.ah 1) 177) (.cst (.int 0)),.aQ (.aq (.ah 1) 208) (.aC 209 (.int 200)),.aQ (.aq (.ah 1) 210) (.aC 211 (.int 40)),.aQ (.aq (.ah 1) 212) (.cst .none)]⟩
noncomputable def Sq:Fn:=⟨[1,99,33],[],[.Gw]⟩
noncomputable def JX:Fn:=⟨[99,50],[],[.aQ (.nm 10) (.bO (.ah 99) (.cst (.str [97,116]))),.aQ (.sub (.ah 99) (.cst (.str [97,116]))) (.ar .add (.ah 10) (.cst (.int 1))),.aQ (.nm 233) (.bO (.aC 234 (.ak [.int 0,.int 0,.int 0,.int 1,.int 0,.int 4,.int 2,.int 0,.int 4,.int 3,.int 0,.int 6,.int 11,.int 4,.int 0,.int 0,.int 6,.int 0,.int 5,.int 1,.int 2,.int 5,.int 1,.int 6,.int 0,.int 0,.int 3,.int 0,.int 3,.int 9,.int 1,.int 2,.int 1,.int 0,.int 3,.int 2,.int 0,.int 5,.int 1,.int 0,.int 4,.int 7,.int 3,.int 2,.int 1,.int 1,.int 3,.int 0,.int 3,.int 6,.int 0,.int 3,.int 1,.int 2,.int 0,.int 9,.int 12,.int 3,.int 1,.int 4,.int 5,.int 5,.int 2,.int 6])) (.ar .mod (.ah 10) (.cst (.int 64)))),.ifs (.ex (.bF .gt (.len (.bO (.ah 99) (.cst (.str [110,117,109,115])))) (.cst (.int 0)))) [.aQ (.nm 233) (.ar .add (.ah 233) (.bO (.bO (.ah 99) (.cst (.str [110,117,109,115]))) (.ar .mod (.ah 10) (.len (.bO (.ah 99) (.cst (.str [110,117,109,115])))))))] [],.ret (.ar .mod (.ah 233) (.ah 50))]⟩
noncomputable def E4:Fn:=⟨[101,48],[],[.aQ (.nm 54) (.dict [.cst (.str [110,48]),.cst (.str [78]),.cst (.str [110,49]),.cst (.str [78]),.cst (.str [101,65]),.cst (.str [78]),.cst (.str [115,97]),.cst (.str [83]),.cst (.str [101,66]),.cst (.str [83])]),.aQ (.nm 235) (.eW true [.bF .cZ (.cst (.str [84])) (.ah 101),.bF .cZ (.cst (.str [70])) (.ah 101)]),.aQ (.nm 236) (.list []),.cY [237] (.pB (.ah 101)) [.aQ (.nm 238) (.ite (.eW false [.ex (.bF .cZ (.ah 237) (.ah 54)),.eW true [.ex (.bF .cZ (.ah 237) (.ak [.cst (.str [84]),.cst (.str [70])])),.not (.ex (.ah 235))]]) (.ah 48) (.cst (.int 0))),.ifs (.eW true [.ex (.bF .gw (.ak [.ah 237,.ah 238]) (.ah 236)),.ex (.bF .gw (.sy (.ah 54) (.ah 237) (.cst (.str []))) (.ah 101))]) [.expr (.rV (.ah 236) (.ak [.ah 237,.ah 238]))] []],.ret (.tuple (.ah 236))]⟩
noncomputable def E3:Fn:=⟨[99],[],[.aQ (.nm 239) (.call 1335 [.ah 99,.cst (.int 12)]),.ifs (.ex (.bF .lt (.ah 239) (.cst (.int 3)))) [.ret (.call 1342 [.bO (.ak [.ak [.cst (.str [97,110,121])],.ak [.cst (.str [101,114,114])],.ak [.cst (.str [117,110,107,110,111,119,110])],.ak []]) (.call 1335 [.ah 99,.cst (.int 4)]),.cst (.int 0)])] [],.aQ (.nm 101) (.list [.bO (.aC 240 (.ak [.str [78],.str [83],.str [84],.str [70],.str [48],.str [85],.str [86],.str [79],.str [76],.str [110,48],.str [110,49],.str [115,97],.str [101,65],.str [101,66]])) (.call 1335 [.ah 99,.cst (.int 14)])]),.ifs (.ex (.bF .gt (.ah 239) (.cst (.int 5)))) [.expr (.rV (.ah 101) (.bO (.aC 240 (.ak [.str [78],.str [83],.str [84],.str [70],.str [48],.str [85],.str [86],.str [79],.str [76],.str [110,48],.str [110,49],.str [115,97],.str [101,65],.str [101,66]])) (.call 1335 [.ah 99,.cst (.int 14)])))] [],.ifs (.ex (.bF .gt (.ah 239) (.cst (.int 8)))) [.expr (.rV (.ah 101) (.bO (.ak [.cst (.str [48]),.cst (.str [85]),.cst (.str [86])]) (.ar .sub (.ah 239) (.cst (.int 9)))))] [],.ifs (.ex (.bO (.ah 99) (.cst (.str [112,108,97,105,110])))) [.aQ (.nm 101) (.comp (.ite (.ex (.bF .eq (.ah 237) (.cst (.str [76])))) (.cst (.str [79])) (.ah 237)) [237] (.ah 101) [] [])] [],.ret (.call 1342 [.ah 101,.call 1335 [.ah 99,.cst (.int 2)]])]⟩
noncomputable def JW:Fn:=⟨[47,237,48],[],[.aQ (.nm 55) (.dict [.cst (.str [78]),.aC 65 (.int 7),.cst (.str [83]),.aC 64 (.int 6),.cst (.str [48]),.aC 202 (.int 5),.cst (.str [85]),.aC 110 (.int 4),.cst (.str [86]),.aC 111 (.int 3),.cst (.str [79]),.aC 241 (.int 10),.cst (.str [97,110,121]),.aC 72 (.int 0),.cst (.str [101,114,114]),.aC 73 (.int 13),.cst (.str [117,110,107,110,111,119,110]),.aC 74 (.int 1)]),.ifs (.ex (.bF .cZ (.ah 237) (.ah 55))) [.ret (.bO (.ah 55) (.ah 237))] [],.ifs (.ex (.bF .eq (.ah 237) (.cst (.str [84])))) [.ret (.bO (.ak [.aC 70 (.int 9),.aC 71 (.int 15)]) (.ah 48))] [],.ifs (.ex (.bF .eq (.ah 237) (.cst (.str [70])))) [.ret (.bO (.ak [.aC 68 (.int 8),.aC 69 (.int 14)]) (.ah 48))] [],.ifs (.ex (.bF .eq (.ah 237) (.cst (.str [76])))) [.ret (.call 305 [.ah 47,.aC 65 (.int 7),.cst (.int 0)])] [],.ifs (.ex (.bF .eq (.ah 237) (.cst (.str [115,97])))) [.ret (.call 281 [.ah 47,.cst (.str [97]),.ah 48])] [],.ifs (.ex (.bF .eq (.ah 237) (.cst (.str [101,65])))) [.ret (.bM (.ah 47) 17 [.ak [.aC 56 (.int 5),.cst (.int 1),.cst (.str [65]),.cst (.int 0),.ah 48]])] [],.ifs (.ex (.bF .eq (.ah 237) (.cst (.str [101,66])))) [.ret (.bM (.ah 47) 17 [.ak [.aC 56 (.int 5),.cst (.int 1),.cst (.str [66]),.cst (.str [120]),.ah 48]])] [],.ret (.call 289 [.ah 47,.ite (.ex (.bF .eq (.ah 237) (.cst (.str [110,48])))) (.cst (.int 0)) (.cst (.int 1)),.ah 48])]⟩
noncomputable def JV:Fn:=⟨[47,35],[],[.ret (.call 359 [.ah 47,.comp (.call 1354 [.ah 47,.ah 237,.ah 48]) [237,48] (.ah 35) [47] []])]⟩
noncomputable def JU:Fn:=⟨[35],[],[.aQ (.nm 18) (.ak [.cst (.str [110,48]),.cst (.str [110,49]),.cst (.str [110,55]),.cst (.str [110,97,110]),.cst (.str [110,65])]),.aQ (.nm 242) (.ak [.cst (.str [115]),.cst (.str [115,97]),.cst (.str [115,66])]),.aQ (.nm 243) (.ar .add (.ar .add (.ah 18) (.ah 242)) (.ak [.cst (.str [116]),.cst (.str [102]),.cst (.str [48]),.cst (.str [117]),.cst (.str [111])])),.aQ (.nm 244) (.dict [.cst (.str [78]),.ah 18,.cst (.str [83]),.ah 242,.cst (.str [84]),.ak [.cst (.str [116])],.cst (.str [70]),.ak [.cst (.str [102])],.cst (.str [48]),.ak [.cst (.str [48])],.cst (.str [85]),.ak [.cst (.str [117])],.cst (.str [86]),.ak [.cst (.str [117])],.cst (.str [79]),.ak [.cst (.str [111])],.cst (.str [76]),.ak [.cst (.str [111])],.cst (.str [110,48]),.ak [.cst (.str [110,48])],.cst (.str [110,49]),.ak [.cst (.str [110,49])],.cst (.str [115,97]),.ak [.cst (.str [115,97])],.cst (.str [101,65]),.ak [.cst (.str [110,65])],.cst (.str [101,66]),.ak [.cst (.str [115,66])],.cst (.str [97,110,121]),.ah 243,.cst (.str [101,114,114]),.ah 243,.cst (.str [117,110,107,110,111,119,110]),.ah 243]),.aQ (.nm 236) (.list []),.cY [237,48] (.ah 35) [.expr (.ext (.ah 236) (.bO (.ah 244) (.ah 237)))],.ret (.ah 236)]⟩
noncomputable def JT:Fn:=⟨[35],[],[.aQ (.nm 245) (.dict [.cst (.str [110,48]),.ak [.cst (.str [78])],.cst (.str [110,49]),.ak [.cst (.str [78])],.cst (.str [115,97]),.ak [.cst (.str [83])],.cst (.str [84]),.ak [.cst (.str [84]),.cst (.str [70])],.cst (.str [70]),.ak [.cst (.str [84]),.cst (.str [70])],.cst (.str [101,65]),.ak [.cst (.str [101,65]),.cst (.str [101,66])],.cst (.str [101,66]),.ak [.cst (.str [101,65]),.cst (.str [101,66])]]),.aQ (.nm 101) (.list []),.cY [237,48] (.ah 35) [.expr (.ext (.ah 101) (.sy (.ah 245) (.ah 237) (.ak [.ah 237])))],.ret (.call 1342 [.ah 101,.cst (.int 0)])]⟩
noncomputable def JS:Fn:=⟨[99,201,53],[],[.ifs (.not (.ex (.bO (.ah 99) (.cst (.str [112,108,97,105,110]))))) [.ret (.bF .eq (.ah 201) (.ah 53))] [],.ifs (.eW false [.ex (.bF .eq (.len (.ah 201)) (.cst (.int 0))),.ex (.bF .eq (.len (.ah 53)) (.cst (.int 0)))]) [.ret (.cst (.bool true))] [],.aQ (.nm 54) (.call 1366 [.ah 201]),.ret (.bF .gt (.len (.comp (.ah 246) [246] (.call 1366 [.ah 53]) [54] [.ex (.bF .cZ (.ah 246) (.ah 54))])) (.cst (.int 0)))]⟩
noncomputable def JR:Fn:=⟨[99,35,237],[],[.ifs (.ex (.bF .cZ (.ah 35) (.ak [.ak [.ak [.cst (.str [97,110,121]),.cst (.int 0)]],.ak [.ak [.cst (.str [101,114,114]),.cst (.int 0)]]]))) [.ret (.cst (.bool false))] [],.ifs (.not (.ex (.bO (.ah 99) (.cst (.str [112,108,97,105,110]))))) [.ret (.sy (.bO (.ah 99) (.cst (.str [116,101,108,108,115]))) (.ak [.ah 35,.ah 237]) (.bF .eq (.ah 35) (.ak [.ak [.ah 237,.cst (.int 0)]])))] [],.aQ (.nm 247) (.bO (.dict [.cst (.str [78]),.cst (.str [110]),.cst (.str [83]),.cst (.str [115])]) (.ah 237)),.ret (.bF .eq (.len (.comp (.ah 246) [246] (.call 1366 [.ah 35]) [247] [.ex (.bF .ne (.bO (.ah 246) (.cst (.int 0))) (.ah 247))])) (.cst (.int 0)))]⟩
noncomputable def E0:Fn:=⟨[99,201,53],[],[.aQ (.nm 18) (.comp (.call 1383 [.ah 99,.ah 35,.cst (.str [78])]) [35] (.ak [.ah 201,.ah 53]) [99] []),.ifs (.ex (.bF .cZ (.cst (.bool true)) (.ah 18))) [.ret (.bF .gw (.cst (.bool false)) (.ah 18))] [],.ifs (.eW true [.ex (.call 1383 [.ah 99,.ah 201,.cst (.str [83])]),.ex (.call 1383 [.ah 99,.ah 53,.cst (.str [83])])]) [.ret (.cst (.bool true))] [],.ret (.call 1378 [.ah 99,.call 1373 [.ah 201],.call 1373 [.ah 53]])]⟩
noncomputable def JQ:Fn:=⟨[99,35,83,84,248],[],[.sD (.ah 99) (.cst (.str [112,108,97,99,101])) .add (.cst (.int 1)),.aQ (.nm 87) (.call 429 [.ah 35,.ah 83,.ah 84,.bO (.ah 99) (.cst (.str [112,108,97,99,101]))]),.aQ (.aq (.ah 87) 46) (.ite (.ex (.ah 248)) (.bO (.ah 99) (.cst (.str [112,108,97,99,101]))) (.cst (.int 0))),.ret (.ah 87)]⟩
noncomputable def EZ:Fn:=⟨[99],[],[.aQ (.nm 87) (.call 1395 [.ah 99,.aC 115 (.int 8),.cst (.str [120]),.list [],.cst (.bool true)]),.aQ (.nm 35) (.call 1347 [.ah 99]),.aQ (.nm 3) (.call 1359 [.aq (.bO (.ah 99) (.cst (.str [99,120]))) 47,.ah 35]),.aQ (.sub (.aq (.bO (.ah 99) (.cst (.str [99,120]))) 132) (.aq (.ah 87) 46)) (.ah 3),.aQ (.sub (.bO (.ah 99) (.cst (.str [104,101,108,100]))) (.aq (.ah 87) 46)) (.ah 35),.ifs (.not (.ex (.bO (.ah 99) (.cst (.str [112,108,97,105,110]))))) [.aQ (.nm 239) (.call 1335 [.ah 99,.cst (.int 6)]),.ifs (.ex (.bF .gt (.ah 239) (.cst (.int 1)))) [.cY [237,82,249] (.ak [.ak [.cst (.str [78]),.aC 65 (.int 7),.bF .cZ (.ah 239) (.ak [.cst (.int 3),.cst (.int 5)])],.ak [.cst (.str [83]),.aC 64 (.int 6),.bF .gt (.ah 239) (.cst (.int 3))]]) [.aQ (.sub (.bO (.ah 99) (.cst (.str [116,101,108,108,115]))) (.ak [.ah 35,.ah 237])) (.ah 249),.aQ (.sub (.aq (.aq (.bO (.ah 99) (.cst (.str [99,120]))) 170) 95) (.ak [.ah 3,.ah 82])) (.ak [.ah 249,.list [.aC 250 (.int 10)]])]] []] [],.ret (.ak [.cst (.str [108,101,97,102]),.ah 35,.cst .none,.cst .none,.ah 87])]⟩
noncomputable def JP:Fn:=⟨[99],[],[.aQ (.ak [35,83,237]) (.bO (.ak [.ak [.aC 251 (.int 1),.cst (.int 0),.cst (.str [110,48])],.ak [.aC 251 (.int 1),.cst (.int 1),.cst (.str [110,49])],.ak [.aC 252 (.int 2),.cst (.str [97]),.cst (.str [115,97])],.ak [.aC 205 (.int 4),.cst (.str []),.cst (.str [84])],.ak [.aC 206 (.int 5),.cst (.str []),.cst (.str [70])],.ak [.aC 207 (.int 6),.cst (.str []),.cst (.str [48])],.ak [.aC 253 (.int 7),.cst (.str []),.cst (.str [85])]]) (.call 1335 [.ah 99,.cst (.int 7)])),.ret (.ak [.cst (.str [108,101,97,102]),.call 1342 [.ak [.ah 237],.cst (.int 1)],.cst .none,.cst .none,.call 1395 [.ah 99,.ah 35,.ah 83,.list [],.cst (.bool true)]])]⟩
noncomputable def BG:Fn:=⟨[99],[],[.aQ (.nm 239) (.call 1335 [.ah 99,.cst (.int 9)]),.ifs (.ex (.bF .lt (.ah 239) (.cst (.int 4)))) [.ret (.call 1402 [.ah 99])] [],.ifs (.ex (.bF .lt (.ah 239) (.cst (.int 6)))) [.ret (.call 1409 [.ah 99])] [],.aQ (.nm 198) (.call 1402 [.ah 99]),.aQ (.nm 199) (.ite (.ex (.bF .eq (.call 1335 [.ah 99,.cst (.int 2)]) (.cst (.int 1)))) (.call 1409 [.ah 99]) (.call 1402 [.ah 99])),.aQ (.nm 248) (.eW false [.bF .gt (.ah 239) (.cst (.int 6)),.bF .eq (.call 1335 [.ah 99,.cst (.int 2)]) (.cst (.int 0))]),.aQ (.nm 254) (.bO (.ak [.cst (.str [45]),.cst (.str [61,61,61]),.cst (.str [60])]) (.ar .sub (.ah 239) (.cst (.int 6)))),.ret (.ak [.ah 254,.ak [],.ah 198,.ah 199,.call 1395 [.ah 99,.aC 255 (.int 23),.ah 254,.list [.bO (.ah 198) (.cst (.int 4)),.bO (.ah 199) (.cst (.int 4))],.ah 248]])]⟩
noncomputable def JO:Fn:=⟨[99,3,10,101],[],[.ifs (.ex (.bF .gw (.ak [.ah 3,.ah 10,.ah 101]) (.bO (.ah 99) (.cst (.str [116,111,108,100]))))) [.expr (.rV (.bO (.ah 99) (.cst (.str [116,111,108,100]))) (.ak [.ah 3,.ah 10,.ah 101]))] []]⟩
noncomputable def JN:Fn:=⟨[99,256],[],[.aQ (.nm 47) (.aq (.bO (.ah 99) (.cst (.str [99,120]))) 47),.aQ (.nm 201) (.call 1435 [.ah 99,.bO (.ah 256) (.cst (.int 2))]),.aQ (.nm 53) (.call 1435 [.ah 99,.bO (.ah 256) (.cst (.int 3))]),.aQ (.nm 257) (.comp (.bO (.bO (.ah 35) (.cst (.int 0))) (.cst (.int 0))) [35] (.ak [.ah 201,.ah 53]) [] [.ex (.bF .eq (.len (.ah 35)) (.cst (.int 1)))]),.ifs (.eW false [.ex (.bF .cZ (.cst (.str [97,110,121])) (.ah 257)),.ex (.bF .cZ (.cst (.str [101,114,114])) (.ah 257))]) [.ret (.ak [.ah 201,.ah 53])] [],.ifs (.ex (.bF .cZ (.bO (.ah 256) (.cst (.int 0))) (.ak [.cst (.str [61,61]),.cst (.str [33,61]),.cst (.str [61,61,61]),.cst (.str [33,61,61])]))) [.aQ (.nm 258) (.eW false [.bF .cZ (.cst (.str [117,110,107,110,111,119,110])) (.ah 257),.bF .cZ (.cst (.str [48])) (.ah 257),.bF .cZ (.cst (.str [85])) (.ah 257)]),.ifs (.eW true [.not (.ex (.ah 258)),.not (.ex (.call 1378 [.ah 99,.ah 201,.ah 53]))]) [.expr (.call 1423 [.ah 99,.cst (.int 2367),.aq (.bO (.ah 256) (.cst (.int 4))) 10,.ak [.pX (.call 1359 [.ah 47,.ah 201]),.pX (.call 1359 [.ah 47,.ah 53])]])] []] [.ifs (.not (.ex (.call 1388 [.ah 99,.ah 201,.ah 53]))) [.aQ (.nm 245) (.comp (.pX (.call 1359 [.ah 47,.call 1373 [.ah 35]])) [35] (.ak [.ah 201,.ah 53]) [47] []),.expr (.call 1423 [.ah 99,.cst (.int 2365),.aq (.bO (.ah 256) (.cst (.int 4))) 10,.ak [.bO (.ah 256) (.cst (.int 0)),.bO (.ah 245) (.cst (.int 0)),.bO (.ah 245) (.cst (.int 1))]])] []],.ret (.ak [.ah 201,.ah 53])]⟩
noncomputable def JM:Fn:=⟨[99,256],[],[.aQ (.nm 87) (.bO (.ah 256) (.cst (.int 4))),.aQ (.nm 35) (.bO (.ah 256) (.cst (.int 1))),.ifs (.ex (.bF .cZ (.aq (.ah 87) 46) (.bO (.ah 99) (.cst (.str [104,101,108,100]))))) [.ret (.bO (.bO (.ah 99) (.cst (.str [104,101,108,100]))) (.aq (.ah 87) 46))] [],.ifs (.ex (.bF .eq (.bO (.ah 256) (.cst (.int 0))) (.cst (.str [45])))) [.cY [259,3] (.ak [.ak [.bO (.ah 256) (.cst (.int 2)),.cst (.int 2362)],.ak [.bO (.ah 256) (.cst (.int 3)),.cst (.int 2363)]]) [.aQ (.nm 35) (.call 1435 [.ah 99,.ah 259]),.ifs (.ex (.bF .eq (.ah 35) (.ak [.ak [.cst (.str [97,110,121]),.cst (.int 0)]]))) [.expr (.rV (.bO (.ah 99) (.cst (.str [110,111,116,101,100]))) (.ak [.aC 112 (.int 1),.aq (.bO (.ah 259) (.cst (.int 4))) 10]))] [.ifs (.eW true [.ex (.bF .ne (.ah 35) (.ak [.ak [.cst (.str [101,114,114]),.cst (.int 0)]])),.not (.ex (.call 1383 [.ah 99,.ah 35,.cst (.str [78])]))]) [.expr (.call 1423 [.ah 99,.ah 3,.aq (.bO (.ah 259) (.cst (.int 4))) 10,.ak []])] []]],.aQ (.nm 35) (.ak [.ak [.cst (.str [78]),.cst (.int 0)]])] [.ifs (.ex (.bF .ne (.bO (.ah 256) (.cst (.int 0))) (.cst (.str [108,101,97,102])))) [.expr (.call 1428 [.ah 99,.ah 256]),.aQ (.nm 35) (.ak [.ak [.cst (.str [70]),.cst (.int 0)],.ak [.cst (.str [84]),.cst (.int 0)]])] []],.ifs (.ex (.bF .gt (.aq (.ah 87) 46) (.cst (.int 0)))) [.aQ (.sub (.bO (.ah 99) (.cst (.str [104,101,108,100]))) (.aq (.ah 87) 46)) (.ah 35),.expr (.rV (.bO (.ah 99) (.cst (.str [116,114,97,105,108]))) (.ak [.cst (.int 0),.aq (.ah 87) 46]))] [],.ret (.ah 35)]⟩
noncomputable def Sp:Fn:=⟨[260],[],[.aQ (.nm 47) (.new 241 []),.aQ (.nm 60) (.call 312 [.ah 47,.aC 261 (.int 5),.cst (.str [69])]),.aQ (.aq (.ah 60) 43) (.list [.ak [.cst (.str [65]),.cst (.int 0)],.ak [.cst (.str [66]),.cst (.str [120])]]),.aQ (.aq (.ah 60) 38) (.call 1359 [.ah 47,.ak [.ak [.cst (.str [101,65]),.cst (.int 0)],.ak [.cst (.str [101,66]),.cst (.int 0)]]]),.aQ (.nm 86) (.new 941 [.ah 47,.new 1322 [.ah 47],.cst .none,.cst .none,.cst .none,.new 140 [],.new 182 []]),.aQ (.nm 204) (.new 1113 []),.aQ (.nm 262) (.new 1061 []),.aQ (.aq (.ah 204) 203) (.dict [.cst (.str [45]),.new 1035 [],.cst (.str [61,61]),.ah 260,.cst (.str [33,61]),.ah 260,.cst (.str [61,61,61]),.ah 260,.cst (.str [33,61,61]),.ah 260,.cst (.str [60]),.ah 262,.cst (.str [62]),.ah 262,.cst (.str [60,61]),.ah 262,.cst (.str [62,61]),.ah 262]),.aQ (.nm 263) (.new 1177 []),.aQ (.aq (.ah 86) 129) (.dict [.aC 255 (.int 23),.ah 204,.aC 251 (.int 1),.new 1139 [],.aC 252 (.int 2),.new 1158 [],.aC 205 (.int 4),.ah 263,.aC 206 (.int 5),.ah 263,.aC 207 (.int 6),.ah 263,.aC 253 (.int 7),.ah 263]),.ret (.ah 86)]⟩
noncomputable def j5:Fn:=⟨[264],[],[.aQ (.nm 260) (.new 1087 []),.aQ (.nm 86) (.call 1442 [.ah 260]),.aQ (.nm 265) (.ak [.new 593 [],.new 635 []]),.aQ (.nm 99) (.dict [.cst (.str [110,117,109,115]),.Gs (.ah 264) 63,.cst (.str [97,116]),.cst (.int 0),.cst (.str [112,108,97,99,101]),.cst (.int 0),.cst (.str [99,120]),.ah 86,.cst (.str [112,108,97,105,110]),.cst (.bool false),.cst (.str [116,101,108,108,115]),.dict [],.cst (.str [104,101,108,100]),.dict [],.cst (.str [116,111,108,100]),.list [],.cst (.str [110,111,116,101,100]),.list [],.cst (.str [116,114,97,105,108]),.list []]),.Na 266 5 [.aQ (.sub (.ah 99) (.cst (.str [112,108,97,105,110]))) (.bF .gt (.call 1335 [.ah 99,.cst (.int 5)]) (.cst (.int 2))),.aQ (.aq (.ah 86) 170) (.ite (.ex (.bO (.ah 99) (.cst (.str [112,108,97,105,110])))) (.bO (.ah 265) (.cst (.int 1))) (.bO (.ah 265) (.cst (.int 0)))),.aQ (.nm 198) (.call 1416 [.ah 99]),.aQ (.nm 199) (.call 1416 [.ah 99]),.aQ (.nm 254) (.bO (.ak [.cst (.str [61,61]),.cst (.str [33,61]),.cst (.str [61,61,61]),.cst (.str [33,61,61])]) (.call 1335 [.ah 99,.cst (.int 4)])),.aQ (.nm 87) (.call 1395 [.ah 99,.aC 255 (.int 23),.ah 254,.list [.bO (.ah 198) (.cst (.int 4)),.bO (.ah 199) (.cst (.int 4))],.cst (.bool true)]),.ifs (.ex (.bF .ne (.bM (.ah 260) 200 [.ah 86,.ah 87,.ah 254,.bO (.ah 198) (.cst (.int 4)),.bO (.ah 199) (.cst (.int 4))]) (.aC 81 (.int 12)))) [.ret (.cst (.bool false))] [],.aQ (.ak [201,53]) (.call 1428 [.ah 99,.ak [.ah 254,.ak [],.ah 198,.ah 199,.ah 87]]),.aQ (.nm 254) (.bO (.ak [.cst (.str [60]),.cst (.str [62]),.cst (.str [60,61]),.cst (.str [62,61]),.cst (.str [61,61]),.cst (.str [33,61]),.cst (.str [61,61,61]),.cst (.str [33,61,61])]) (.call 1335 [.ah 99,.cst (.int 8)])),.aQ (.nm 87) (.call 1395 [.ah 99,.aC 255 (.int 23),.ah 254,.list [.bO (.ah 198) (.cst (.int 4)),.bO (.ah 199) (.cst (.int 4))],.cst (.bool true)]),.ifs (.ex (.bF .ne (.bM (.ah 86) 180 [.ah 87,.cst (.int (-1))]) (.aC 81 (.int 12)))) [.ret (.cst (.bool false))] [],.expr (.call 1435 [.ah 99,.ak [.ah 254,.ak [],.ah 198,.ah 199,.ah 87]]),.ifs (.ex (.bF .ne (.call 1070 [.ah 86,.call 1359 [.aq (.ah 86) 47,.ah 201],.call 1359 [.aq (.ah 86) 47,.ah 53]]) (.call 1388 [.ah 99,.ah 201,.ah 53]))) [.ret (.cst (.bool false))] []],.aQ (.nm 217) (.dict []),.cY [46] (.bO (.ah 99) (.cst (.str [104,101,108,100]))) [.aQ (.sub (.ah 217) (.ah 46)) (.call 1359 [.aq (.ah 86) 47,.bO (.bO (.ah 99) (.cst (.str [104,101,108,100]))) (.ah 46)])],.ifs (.eW false [.ex (.bF .ne (.aq (.ah 86) 132) (.ah 217)),.ex (.bF .ne (.aq (.ah 86) 140) (.bO (.ah 99) (.cst (.str [116,114,97,105,108])))),.ex (.bF .ne (.aq (.ah 86) 177) (.cst (.int 0)))]) [.ret (.cst (.bool false))] [],.ret (.eW true [.bF .eq (.comp (.bM (.ah 201) 13 []) [201] (.aq (.aq (.ah 86) 127) 15) [] []) (.bO (.ah 99) (.cst (.str [116,111,108,100]))),.bF .eq (.aq (.aq (.ah 86) 128) 15) (.bO (.ah 99) (.cst (.str [110,111,116,101,100])))])]⟩
noncomputable def fnL:List (Nat×Fn):=[(96,f96),(103,Vw),(125,aaK),(132,Vv),(158,aaJ),(165,Vu),(224,aaI),(231,aaH),(238,Vt),(259,aaG),(273,Vs),(281,Vr),(289,Vq),(297,aaF),(305,Vp),(312,aaE),(319,Vo),(326,aaD),(333,Vn),(340,Vm),(347,Vl),(354,Vk),(359,Vj),(366,Vi),(373,Vh),(378,Vg),(383,aaC),(390,Vf),(395,Ve),(415,Vd),(429,Vc),(499,aaB),(527,aaA),(534,Vb),(548,aaz),(555,Va),(583,U'),(590,aay),(611,U9),(625,U8),(644,U7),(651,U6),(658,U5),(777,aax),(784,U4),(819,aaw),(840,U3),(847,U1),(854,U0),(861,UZ),(868,UY),(924,UX),(952,UW),(976,aav),(1004,J9),(1011,J8),(1018,J7),(1032,J6),(1044,J5),(1058,J4),(1070,E5),(1084,J3),(1103,Su),(1110,J2),(1122,J1),(1136,J0),(1155,JZ),(1174,JY),(1193,Ss),(1242,Sq),(1335,JX),(1342,E4),(1347,E3),(1354,JW),(1359,JV),(1366,JU),(1373,JT),(1378,JS),(1383,JR),(1388,E0),(1395,JQ),(1402,EZ),(1409,JP),(1416,BG),(1423,JO),(1428,JN),(1435,JM),(1442,Sp),(1447,j5)]
noncomputable def GQ:List Nat:=[106,140,182,241,262,418,481,509,593,635,689,710,738,759,941,1035,1061,1087,1113,1139,1158,1177,1322]
noncomputable def kj(k:Nat):Nat:=cond (GQ.contains k) k 106
noncomputable def EV:Tr Nat:=(.br (.br (.aE 35 125) (.br (.br (.aE 26 415) (.br (.br .nil (.br (.aE 10 1193) (.aE 0 96))) .nil)) (.br (.br (.aE 8 259) (.aE 5 158)) .nil))) (.br (.br (.br (.br .nil (.br (.aE 9 527) (.aE 3 224))) (.aE 69 1103)) (.br .nil (.br (.aE 29 777) (.aE 15 499)))) (.aE 158 527)))
noncomputable def UV:Tr (List Nat):=(.br (.br (.aE 35 [15,12]) (.br (.br (.aE 26 [35,83,84,85,10,46]) (.br (.br .nil (.br (.aE 10 [47,177,208,210,212]) (.aE 0 [3,10,11,12]))) .nil)) (.br (.br (.aE 8 [34,35,36,37,38,39,40,41,42,43,44,45,10,12,46]) (.aE 5 [15])) .nil))) (.br (.br (.br (.br .nil (.br (.aE 9 [95]) (.aE 3 [15,23,24,25,26,27,28,29,30,31]))) (.aE 69 [203])) (.br .nil (.br (.aE 29 [47,123,124,125,126,127,128,129,130,131,132,97,45,133,134,135,136,137,138,139,140,141,142,143,144,145,146,147,148,149,150,151,152,153,154,155,156,157,158,159,160,161,162,163,164,165,166,167,168,169,170,171,172,173,174,175,176,177]) (.aE 15 [95])))) (.aE 158 [95])))
noncomputable def JE:Tr (List (Nat×Nat)):=(.br (.br (.aE 35 [(17,132)]) (.br (.br .nil (.br (.br .nil (.br (.aE 10 [(102,1242)]) (.aE 0 [(13,103)]))) .nil)) (.br (.br (.aE 36 [(89,1155)]) (.aE 5 [(17,165)])) .nil))) (.br (.br (.br (.br .nil (.br (.aE 9 [(101,583),(102,534),(104,548),(105,555),(109,590)]) (.aE 3 [(13,231),(17,238)]))) (.br .nil (.br (.br (.aE 9 [(89,1174)]) (.aE 8 [(89,1110)])) .nil))) (.br (.aE 66 [(200,1058)]) (.aE 58 [(100,847),(101,854),(102,819),(180,784),(187,840),(188,861),(189,868),(193,924)]))) (.br (.br (.aE 71 [(89,1136)]) (.br (.aE 32 [(200,1032)]) (.aE 19 [(101,583),(102,611),(104,548),(105,625),(109,590)]))) (.aE 135 [(200,1084)]))))
noncomputable def P(l:List Int):b5:=⟨l,fun f=>ay f fnL,fun k=>EV.get (kj k),fun k m=>(JE.get (kj k)).bind (ay m),fun k a=>match UV.get (kj k)with|some l=>l.contains a| .none=>false⟩
noncomputable def Jm:List (Nat×Str):=[(273,⟨#[107,105,110,100,95,111,102]⟩),(281,⟨#[115,116,114,95,116,121,112,101]⟩),(289,⟨#[110,117,109,95,116,121,112,101]⟩),(297,⟨#[109,101,109,98,101,114,95,116,121,112,101]⟩),(305,⟨#[97,114,114,97,121,95,116,121,112,101]⟩),(312,⟨#[110,101,119,95,100,101,99,108]⟩),(319,⟨#[112,97,114,116,115,95,111,102]⟩),(326,⟨#[119,104,111,108,101,95,111,102,95,114,111,119]⟩),(333,⟨#[114,101,103,117,108,97,114,95,116,119,105,110]⟩),(340,⟨#[106,111,105,110,95,98,111,111,108,115]⟩),(347,⟨#[115,116,97,121,115,95,98,101,115,105,100,101]⟩),(354,⟨#[116,111,112,95,111,102]⟩),(359,⟨#[117,110,105,111,110]⟩),(366,⟨#[105,115,95,102,114,101,115,104]⟩),(373,⟨#[114,101,103,117,108,97,114,95,111,110,101]⟩),(378,⟨#[114,101,103,117,108,97,114]⟩),(383,⟨#[101,110,117,109,95,116,121,112,101]⟩),(390,⟨#[119,104,111,108,101,95,111,102]⟩),(395,⟨#[98,97,115,101,95,111,102,95,108,105,116,101,114,97,108]⟩),(429,⟨#[116,119,105,103]⟩),(644,⟨#[112,108,97,105,110,95,112,97,114,116]⟩),(651,⟨#[99,99,111,114,101,95,112,108,97,105,110,95,102,105,116,115]⟩),(658,⟨#[99,99,111,114,101,95,112,108,97,105,110,95,109,101,101,116,115]⟩),(952,⟨#[101,120,112,114,95,107,105,110,100]⟩),(976,⟨#[119,97,110,116,95,102,105,116]⟩),(1004,⟨#[108,101,116,115,95,110,117,109,98,101,114]⟩),(1011,⟨#[108,101,116,115,95,116,101,120,116]⟩),(1018,⟨#[110,101,101,100,95,110,117,109,98,101,114]⟩),(1044,⟨#[111,112,95,102,97,117,108,116]⟩),(1070,⟨#[111,114,100,101,114,101,100]⟩),(1122,⟨#[98,105,110,97,114,121,95,107,105,110,100]⟩),(1335,⟨#[95,108,97,119,95,112,117,108,108]⟩),(1342,⟨#[95,108,97,119,95,99,97,110,111,110]⟩),(1347,⟨#[95,108,97,119,95,107,105,110,100]⟩),(1354,⟨#[95,108,97,119,95,111,110,101]⟩),(1359,⟨#[95,108,97,119,95,110,117,109,98,101,114]⟩),(1366,⟨#[95,108,97,119,95,118,97,108,117,101,115]⟩),(1373,⟨#[95,108,97,119,95,98,97,115,101]⟩),(1378,⟨#[95,108,97,119,95,109,101,101,116,115]⟩),(1383,⟨#[95,108,97,119,95,103,111,101,115]⟩),(1388,⟨#[95,108,97,119,95,111,114,100,101,114,101,100]⟩),(1395,⟨#[95,108,97,119,95,108,97,105,100]⟩),(1402,⟨#[95,108,97,119,95,108,101,97,102]⟩),(1409,⟨#[95,108,97,119,95,108,105,116,101,114,97,108]⟩),(1416,⟨#[95,108,97,119,95,115,105,100,101]⟩),(1423,⟨#[95,108,97,119,95,116,111,108,100]⟩),(1428,⟨#[95,108,97,119,95,97,115,107,101,100]⟩),(1435,⟨#[95,108,97,119,95,119,97,108,107]⟩),(1442,⟨#[95,108,97,119,95,115,104,101,101,116]⟩)]
noncomputable def Jp:List (Nat×Str):=[(106,⟨#[68,105,97,103]⟩),(140,⟨#[68,105,97,103,115]⟩),(182,⟨#[78,111,116,101,115]⟩),(241,⟨#[84,121,112,101,84,97,98,108,101]⟩),(262,⟨#[68,101,99,108]⟩),(418,⟨#[78,111,100,101]⟩),(481,⟨#[71,117,97,114,100]⟩),(509,⟨#[82,111,97,100,115]⟩),(593,⟨#[74,117,100,103,101]⟩),(635,⟨#[80,108,97,105,110,74,117,100,103,101]⟩),(689,⟨#[80,97,116,116,101,114,110,115]⟩),(710,⟨#[71,105,118,101,114]⟩),(738,⟨#[80,108,97,99,101,115]⟩),(759,⟨#[70,117,110,99,82,117,108,101]⟩),(941,⟨#[83,104,101,101,116]⟩),(1035,⟨#[65,114,105,116,104,109,101,116,105,99,79,112]⟩),(1061,⟨#[79,114,100,101,114,79,112]⟩),(1087,⟨#[69,113,117,97,108,79,112]⟩),(1113,⟨#[66,105,110,97,114,121,82,117,108,101]⟩),(1139,⟨#[78,117,109,82,117,108,101]⟩),(1158,⟨#[83,116,114,82,117,108,101]⟩),(1177,⟨#[87,111,114,100,82,117,108,101]⟩),(1322,⟨#[84,104,105,110]⟩)]
noncomputable def Ua:List (Nat×V):=[(32,.ak [.ak [.int 1,.str [97,110,121]],.ak [.int 1,.str [117,110,107,110,111,119,110]],.ak [.int 1,.str [110,101,118,101,114]],.ak [.int 1,.str [118,111,105,100]],.ak [.int 1,.str [117,110,100,101,102,105,110,101,100]],.ak [.int 1,.str [110,117,108,108]],.ak [.int 1,.str [115,116,114,105,110,103]],.ak [.int 1,.str [110,117,109,98,101,114]],.ak [.int 2,.int 0,.int 0],.ak [.int 2,.int 1,.int 0],.ak [.int 1,.str [111,98,106,101,99,116]],.ak [.int 8,.ak [],.ak [],.ak [],.ak [],.ak [],.int 0],.ak [.int 6,.ak [.int 8,.int 9]],.ak [.int 1,.str [101,114,114,111,114]],.ak [.int 2,.int 0,.int 1],.ak [.int 2,.int 1,.int 1]]),(49,.int 3),(51,.int 4),(56,.int 5),(59,.int 11),(61,.int 2),(62,.int 6),(63,.int 18),(64,.int 6),(65,.int 7),(66,.ak [.int 2,.int 3,.int 4,.int 5,.int 8]),(68,.int 8),(69,.int 14),(70,.int 9),(71,.int 15),(72,.int 0),(73,.int 13),(74,.int 1),(79,.int 400),(80,.int 2),(81,.int 12),(110,.int 4),(111,.int 3),(112,.int 1),(115,.int 8),(196,.int 50),(202,.int 5),(205,.int 4),(206,.int 5),(207,.int 6),(209,.int 200),(211,.int 40),(234,.ak [.int 0,.int 0,.int 0,.int 1,.int 0,.int 4,.int 2,.int 0,.int 4,.int 3,.int 0,.int 6,.int 11,.int 4,.int 0,.int 0,.int 6,.int 0,.int 5,.int 1,.int 2,.int 5,.int 1,.int 6,.int 0,.int 0,.int 3,.int 0,.int 3,.int 9,.int 1,.int 2,.int 1,.int 0,.int 3,.int 2,.int 0,.int 5,.int 1,.int 0,.int 4,.int 7,.int 3,.int 2,.int 1,.int 1,.int 3,.int 0,.int 3,.int 6,.int 0,.int 3,.int 1,.int 2,.int 0,.int 9,.int 12,.int 3,.int 1,.int 4,.int 5,.int 5,.int 2,.int 6]),(240,.ak [.str [78],.str [83],.str [84],.str [70],.str [48],.str [85],.str [86],.str [79],.str [76],.str [110,48],.str [110,49],.str [115,97],.str [101,65],.str [101,66]]),(241,.int 10),(250,.int 10),(251,.int 1),(252,.int 2),(253,.int 7),(255,.int 23),(261,.int 5)]
noncomputable def ack:List Str:=[⟨#[108,101,110]⟩,⟨#[115,111,114,116,101,100]⟩,⟨#[116,117,112,108,101]⟩,⟨#[115,116,114]⟩,⟨#[105,115,105,110,115,116,97,110,99,101]⟩,⟨#[114,97,110,103,101]⟩]
noncomputable def vI:Nat:=267
end
section
open PySem PySem.W PyProof.Rows PySem.SeqAt
open Sem (wp)
noncomputable def MH:List Nat:=GQ++[446,993]
noncomputable def Pn:List Nat:=[105,139,181,240,261,417,480,508,592,634,688,709,737,758,940,1034,1060,1086,1112,1138,1157,1176,1321,445,992]
noncomputable def KX:List Nat:=fnL.map (·.1)++MH++Pn
noncomputable def KK(P:Params):Frag:=KX.filterMap fun a=>((bZ P).get a).map fun o=>(a,o)
noncomputable def AB:Data->Bool
 | .freed=>true
 |_=>false
noncomputable def nI(o:Obj):Bool:=AB o.data
noncomputable def gm(P:Params)(h:Heap):Prop:=∀a o,a<1448->(bZ P).get a=some o->nI o=false->h.get? a=some o
theorem MU{o:Obj}(h:nI o=false):alive o=some o:=by
 obtain⟨c,d,dt,sl⟩:=o
 cases dt<;>first|rfl|exact nomatch h
theorem Hl{w:World}{h:Heap}(q:rN w h):gm w.params h:=fun a o la e f=>
 q a o ((abs_get la e).trans (MU f))
theorem tO{f:Nat->Option Obj}{a:Nat}{o:Obj}{l:List Nat}:(l.filterMap fun a=>(f a).map fun o=>(a,o)).lookup a=some o->f a=some o/\a∈l:=by
 induction l with
 |nil=>exact bJ
 |cons b r ih=>
  rw[List.filterMap_cons]
  have ih:=fun h=>And.imp_right (List.Mem.tail b) (ih h)
  cases e:f b with
  |none=>exact ih
  |some x=>
   show(match a==b with|true=>some x|false=>(r.filterMap fun a=>(f a).map fun o=>(a,o)).lookup a)=some o->_
   cases q:a==b with
   |true=>exact fun h=>⟨(congrArg f (eq_of_beq q)).trans (e.trans h),eq_of_beq q▸ .head _⟩
   |false=>exact ih
theorem adk(P:Params):KX.all (fun a=>Nat.blt a 1448&&match(bZ P).get a with|some o=> !nI o|none=>true)=true:=by kernel_rfl
theorem ahw{P:Params}{h:Heap}(S:gm P h):(KK P).In h:=fun a o e=>by
 refine dw (tO e) fun g m=> ?_
 have q:=dG.mp (adk P) a m
 rw[g,dX,zV]at q
 exact S a o (mH q.1) g q.2
noncomputable def JC(v:Value):Bool:=Value.casesOn (motive:=fun Z=>Bool) v true false false (fun Z=>false) (fun Z Z=>false) (fun Z Z=>false) (fun Z Z=>false) (fun Z Z=>false) (fun Z=>false) (fun Z=>false) (fun Z=>false)
noncomputable def Tk(v:Value):Option Bool:=Value.casesOn (motive:=fun Z=>Option Bool) v none none none some (fun Z Z=>none) (fun Z Z=>none) (fun Z Z=>none) (fun Z Z=>none) (fun Z=>none) (fun Z=>none) (fun Z=>none)
noncomputable def aag(v:Value):Option (Int×Tok):=Value.casesOn (motive:=fun Z=>Option (Int×Tok)) v none none none (fun Z=>none) (fun a b=>some (a,b)) (fun Z Z=>none) (fun Z Z=>none) (fun Z Z=>none) (fun Z=>none) (fun Z=>none) (fun Z=>none)
noncomputable def Uf(v:Value):Option (Str×Tok):=Value.casesOn (motive:=fun Z=>Option (Str×Tok)) v none none none (fun Z=>none) (fun Z Z=>none) (fun Z Z=>none) (fun a b=>some (a,b)) (fun Z Z=>none) (fun Z=>none) (fun Z=>none) (fun Z=>none)
noncomputable def tyO(v:Value):Option String:=Value.casesOn (motive:=fun Z=>Option String) v none none none (fun Z=>none) (fun Z Z=>none) (fun Z Z=>none) (fun Z Z=>none) (fun Z Z=>none) some (fun Z=>none) (fun Z=>none)
noncomputable def NZ(v:Value):Option Nat:=Value.casesOn (motive:=fun Z=>Option Nat) v none none none (fun Z=>none) (fun Z Z=>none) (fun Z Z=>none) (fun Z Z=>none) (fun Z Z=>none) (fun Z=>none) (fun Z=>none) some
noncomputable def Uh(v:Data):Option (Array Value×Nat):=Data.casesOn (motive:=fun Z=>Option (Array Value×Nat)) v none (fun Z=>none) (fun a b=>some (a,b)) (fun Z Z=>none) (fun Z Z Z=>none) (fun Z Z=>none) (fun Z=>none) (fun Z=>none) (fun Z=>none) (fun Z=>none) none
theorem B3{v:Value}:JC v=true->v=.none:=by cases v<;>first|exact fun Z=>rfl|exact fun h=>absurd h Bool.false_ne_true
theorem ML{v:Value}{a:Bool}:Tk v=some a->v=.bool a:=by cases v<;>first|exact bJ|exact fun h=>ig h▸rfl
theorem PT{v:Value}{a:Int×Tok}:aag v=some a->v=.int a.1 a.2:=by cases v<;>first|exact bJ|exact fun h=>ig h▸rfl
theorem Ff{v:Value}{a:Str×Tok}:Uf v=some a->v=.str a.1 a.2:=by cases v<;>first|exact bJ|exact fun h=>ig h▸rfl
theorem VT{v:Value}{a:String}:tyO v=some a->v=.type a:=by cases v<;>first|exact bJ|exact fun h=>ig h▸rfl
theorem Av{v:Value}{a:Nat}:NZ v=some a->v=.ref a:=by cases v<;>first|exact bJ|exact fun h=>ig h▸rfl
theorem uG{v:Data}{a:Array Value×Nat}:Uh v=some a->v=.seq a.1 a.2:=by cases v<;>first|exact bJ|exact fun h=>ig h▸rfl
noncomputable def aas(v:Data):Option (Array Value):=Data.casesOn (motive:=fun Z=>Option (Array Value)) v none (fun Z=>none) (fun Z Z=>none) (fun Z Z=>none) (fun Z Z Z=>none) (fun Z Z=>none) (fun Z=>none) (fun Z=>none) (fun Z=>none) some none
noncomputable def aar(v:Data):Option FuncData:=Data.casesOn (motive:=fun Z=>Option FuncData) v none (fun Z=>none) (fun Z Z=>none) (fun Z Z=>none) (fun Z Z Z=>none) (fun Z Z=>none) (fun Z=>none) some (fun Z=>none) (fun Z=>none) none
theorem FO{v:Data}{a:Array Value}:aas v=some a->v=.fields a:=by cases v<;>first|exact bJ|exact fun h=>ig h▸rfl
theorem FM{v:Data}{a:FuncData}:aar v=some a->v=.func a:=by cases v<;>first|exact bJ|exact fun h=>ig h▸rfl
noncomputable def Vz(v:Data):Option (Array DictEntry×Nat):=Data.casesOn (motive:=fun Z=>Option (Array DictEntry×Nat)) v none (fun Z=>none) (fun Z Z=>none) (fun a b=>some (a,b)) (fun Z Z Z=>none) (fun Z Z=>none) (fun Z=>none) (fun Z=>none) (fun Z=>none) (fun Z=>none) none
theorem F6{v:Data}{a:Array DictEntry×Nat}:Vz v=some a->v=.dict a.1 a.2:=by cases v<;>first|exact bJ|exact fun h=>ig h▸rfl
theorem eL{α:Type}{k:α->Bool}{o:Option α}(e:o.any k=true){G:Prop}(g:∀a,o=some a->k a=true->G):G:=by
 cases o with
 |none=>exact absurd e Bool.false_ne_true
 |some a=>exact g a rfl e
noncomputable def IL(get:Nat->Option Obj)(a:Nat)(k:Obj->Bool):Bool:=Nat.blt a 1448&&(get a).any k
theorem uI{P:Params}{h:Heap}(S:gm P h){a:Nat}{k:Obj->Bool}(e:IL (bZ P).get a k=true){G:Prop}(g:∀o,(nI o=false->h.get? a=some o)->k o=true->G):G:=
 dw ((dX _ _).mp e) fun la e=>eL e fun o q e=>g o (S a o (mH la) q) e
mutual
noncomputable def NY(get:Nat->Option Obj):V->Value->Bool
 | .none,v=>JC v
 | .bool a,v=>(Tk v).any fun b=>b==a
 | .int i,v=>(aag v).any fun j=>decide (j.1=i)
 | .str s,v=>(Uf v).any fun t=>t.1==⟨s.toArray⟩
 | .ak xs,v=>(NZ v).any fun a=>IL get a fun o=>(tyO o.cls).any (fun t=>t=="tuple")&&(Uh o.data).any fun l=>EO get xs l.1.toList
 | .ref _,_=>false
 | .gu,_=>false
noncomputable def EO(get:Nat->Option Obj):List V->List Value->Bool
 |[],vs=>vs.isEmpty
 |x::r,vs=>(match vs with|v::t=>NY get x v&&EO get r t|[]=>false)
end
theorem lG{o:Obj}{x:Data}(h:o.data=x)(k:AB x=false):nI o=false:=(congrArg AB h).trans k
noncomputable def DE(get:Nat->Option Obj)(C:Cx)(h:Heap)(x:V):Prop:=∀v,NY get x v=true->aL C h [] x v
noncomputable def BN(get:Nat->Option Obj)(C:Cx)(h:Heap)(xs:List V):Prop:=∀vs,EO get xs vs=true->aB C h [] xs vs
theorem LU{C:Cx}{P:Params}{h:Heap}(S:gm P h){xs:List V}(ih:BN (bZ P).get C h xs):DE (bZ P).get C h (.ak xs):=fun v e=>
 eL e fun a q e=>uI S e fun o g e=>dw ((dX _ _).mp e) fun t e=>eL t fun y q2 t=>eL e fun l d e=>
 ⟨a,l.1.toList,Av q,⟨o,g (lG (uG d) rfl),VT (eq_of_beq t▸q2),l.2,uG d⟩,ih _ e⟩
theorem yP{get:Nat->Option Obj}{C:Cx}{h:Heap}{x:V}{r:List V}(hx:DE get C h x)(hr:BN get C h r):BN get C h (x::r):=fun vs=>by
 cases vs with
 |nil=>exact nofun
 |cons v t=>exact fun e=>dw ((dX _ _).mp e) fun a b=>⟨v,t,rfl,hx v a,hr t b⟩
theorem Hr{get:Nat->Option Obj}{C:Cx}{h:Heap}(b:Bool):DE get C h (.bool b):=fun v e=>eL e fun a q e=>eq_of_beq e▸ML q
theorem LW{get:Nat->Option Obj}{C:Cx}{h:Heap}(b:Int):DE get C h (.int b):=fun v e=>eL e fun a q e=>⟨a.2,jx e▸PT q⟩
theorem LV{get:Nat->Option Obj}{C:Cx}{h:Heap}(b:List Nat):DE get C h (.str b):=fun v e=>eL e fun a q e=>⟨a.2,eq_of_beq e▸Ff q⟩
theorem Ft{C:Cx}{P:Params}{h:Heap}(S:gm P h)(x:V):DE (bZ P).get C h x:=
 @V.rec (DE (bZ P).get C h) (BN (bZ P).get C h) (fun v=>B3) Hr LW LV (fun xs=>LU S) (fun i v=>nofun) (fun v=>nofun) (fun vs=>List.isEmpty_iff.mp) (fun x r=>yP) x
theorem B0{C:Cx}{P:Params}{h:Heap}(S:gm P h):∀xs:List V,BN (bZ P).get C h xs
 |[]=>fun vs=>List.isEmpty_iff.mp
 |x::r=>yP (Ft S x) (B0 S r)
noncomputable def um(x:Nat):Bool:=Nat.blt x vI&& !(nc x==("__debug__":Str))&& !(nc x==("__classdict__":Str))
theorem Ph{x:Nat}(h:um x=true):x<vI:=mH ((dX _ _).mp ((dX _ _).mp h).1).1
theorem L1{x:Nat}(h:um x=true):(nc x==("__debug__":Str))=false:=nt ((dX _ _).mp ((dX _ _).mp h).1).2
theorem Pj{x:Nat}(h:um x=true):(nc x==("__classdict__":Str))=false:=nt ((dX _ _).mp h).2
noncomputable def RD(n:Str):Nat:=((List.range vI).find? fun x=>nc x==n).getD vI
theorem Hz:((List.range vI).all fun x=>Nat.beq (RD (nc x)) x)=true:=by kernel_rfl
theorem B9{x:Nat}(h:um x=true):RD (nc x)=x:=
 vd (dG.mp Hz x (jt.mpr (Ph h)))
theorem We(x y:Nat)(hx:um x=true)(hy:um y=true)(e:nc x=nc y):x=y:=by
 rw[<-B9 hx,<-B9 hy,e]
noncomputable def CC(prog:Program)(w:World)(h:Heap)(mg mb:Str->Option Value)(gu:Addr):Cx where
 prog:=prog
 w:=w
 K:=KK w.params
 eG:=h
 nm:=nc
 ca:=kj
 fa:=fun f=>f
 mg:=mg
 mb:=mb
 gI:=(P []).gI
 gu:=gu
noncomputable def NN{prog w h mg mb gu}:bz (CC prog w h mg mb gu)where
 ok:=um
 inj:=We
 TS:=fun x h=>by
  exact L1 h
 SA:=fun x h=>by
  exact Pj h
noncomputable def TT:uU where
 nm:=nc
 ok:=um
 Zt:=fun f=>(ay f Jm).getD ⟨#[]⟩
 fok:=fun f=>(ay f Jm).isSome
 Zx:=fun f=>(ay f Jp).getD ⟨#[]⟩
 cok:=fun f=>(ay f Jp).isSome
 val:=fun x=>ay x Ua
 blt:=fun n=>ack.contains n
theorem L2(k:Nat):kj k∈GQ:=by
 unfold kj
 cases h:GQ.contains k with
 |true=>exact List.contains_iff_mem.mp h
 |false=>exact(by decide:(106:Nat)∈GQ)
theorem zF{a b:Bool}(h:(a&&b)=true){G:Prop}(g:a=true->b=true->G):G:=g ((dX _ _).mp h).1 ((dX _ _).mp h).2
noncomputable def Sy(get:Nat->Option Obj)(cd:Value)(q:Str):Bool:=(NZ cd).any fun c=>IL get c fun o=>(aas o.data).any fun vs=>(vs[1]? :Option Value).any fun v=>(Uf v).any fun s=>s.1==q
theorem MG{P:Params}{h:Heap}(S:gm P h){cd:Value}{q:Str}(e:Sy (bZ P).get cd q=true):h.CodeRec cd q:=
 eL e fun c ec e=>uI S e fun o g e=>eL e fun vs d e=>eL e fun v ev e=>eL e fun s es e=>
 ⟨c,o,vs,s.2,Av ec,g (lG (FO d) rfl),FO d,eq_of_beq e▸ev.trans (congrArg some (Ff es))⟩
noncomputable def ab2(get:Nat->Option Obj)(ds:List V)(v:Value):Bool:=(JC v&&ds.isEmpty)||(NZ v).any fun T=>IL get T fun o=>(Uh o.data).any fun l=>EO get ds l.1.toList
theorem QC{C:Cx}{P:Params}{h:Heap}(S:gm P h){ds:List V}{v:Value}(e:ab2 (bZ P).get ds v=true):(ds=[]/\v=.none)\/∃T o dv n,v=.ref T/\h.get? T=some o/\o.data=.seq dv n/\aB C h [] ds dv.toList:=
 ((je _ _).mp e).imp (fun e=>dw ((dX _ _).mp e) fun a b=>⟨List.isEmpty_iff.mp b,B3 a⟩) fun e=>
 eL e fun T eT e=>uI S e fun o g e=>eL e fun l d e=>⟨T,o,l.1,l.2,Av eT,g (lG (uG d) rfl),uG d,B0 S _ _ e⟩
noncomputable def ZK(b:FuncBody):Option (List Stmt):=FuncBody.casesOn (motive:=fun Z=>Option (List Stmt)) b some (fun Z=>none)
theorem O7{b:FuncBody}{l:List Stmt}:ZK b=some l->b=.stmts l:=by
 cases b with
 |stmts=>exact fun h=>ig h▸rfl
 |expr=>exact bJ
noncomputable def Wc(ns:Ns):Bool:=ns.all fun y=> !decide (y.2=.free)
noncomputable def cS(get:Nat->Option Obj)(T:uU)(f:Nat)(fn:Fn):Bool:=IL get f fun o=>(aar o.data).any fun fd=>(ZK fd.body).any fun body=>
  Nat.beq fd.globals mainGlobals&&(Nat.beq fd.builtins builtinsNs&&(fd.closure.isEmpty&&(!fd.scope.isCoroutine&&(!fd.scope.isGenerator&&(decide (fd.scope.kind=.function)&&(Sy get fd.code fd.qualname&&
  (fd.params.posonlyargs.isEmpty&&(fd.params.args.map (·.arg)==fn.params.map T.nm&&(fd.params.kwonlyargs.isEmpty&&(fd.params.vararg.isNone&&(fd.params.kwarg.isNone&&
  (decide ((fn.params.map T.nm).Nodup)&&(fn.params.all T.ok&&(decide ((fd.scope.names.map (·.1)).Nodup)&&(fn.params.all (fun x=>Jj fd.scope.names (T.nm x))&&
  (ab2 get fn.j8 fd.defaults&&(Nat.ble fn.j8.length fn.params.length&&(Wc fd.scope.names&&qV T fd.scope.names fn.body body))))))))))))))))))
theorem Xa{prog w h mg mb gu}(S:gm w.params h){P:b5}(B:qQ (CC prog w h mg mb gu) NN P TT){f:Nat}{fn:Fn}(e:cS (bZ w.params).get TT f fn=true):
  ∃fd body,GX (CC prog w h mg mb gu) NN P f fn fd body:=
 uI S e fun o g e=>eL e fun fd d e=>eL e fun body eb e=>
 zF e fun e1 e=>zF e fun e2 e=>zF e fun e3 e=>zF e fun e4 e=>zF e fun e5 e=>zF e fun e6 e=>zF e fun e7 e=>zF e fun e8 e=>zF e fun e9 e=>zF e fun e10 e=>zF e fun e11 e=>zF e fun e12 e=>
 zF e fun e13 e=>zF e fun e14 e=>zF e fun e15 e=>zF e fun e16 e=>zF e fun e17 e=>zF e fun YN e=>zF e fun e19 e20=>
 ⟨fd,body,⟨o,g (lG (FM d) rfl),FM d⟩,O7 eb,vd e1,vd e2,List.isEmpty_iff.mp e3,nt e4,nt e5,jx e6,MG S e7,List.isEmpty_iff.mp e8,eq_of_beq e9,
  List.isEmpty_iff.mp e10,Option.isNone_iff_eq_none.mp e11,Option.isNone_iff_eq_none.mp e12,jx e13,fun x hx=>dG.mp e14 x hx,jx e15,
  fun x hx=>((je _ _).mp (dG.mp e16 x hx)).imp jx jx,QC S e17,mH YN,fun cc dd ai E co nw=>
  i9 B co nw fn.body fd.scope.names body ai (Qw E (jx e6) fun y hy z=>Bool.false_ne_true ((nt (dG.mp e19 y hy)).symm.trans (ez z))) e20⟩
theorem ag'(P:Params):cS (bZ P).get TT 96 f96=true:=by kernel_rfl
theorem aeE(P:Params):cS (bZ P).get TT 103 Vw=true:=by kernel_rfl
theorem aeD(P:Params):cS (bZ P).get TT 125 aaK=true:=by kernel_rfl
theorem aeC(P:Params):cS (bZ P).get TT 132 Vv=true:=by kernel_rfl
theorem aeB(P:Params):cS (bZ P).get TT 158 aaJ=true:=by kernel_rfl
theorem aeA(P:Params):cS (bZ P).get TT 165 Vu=true:=by kernel_rfl
theorem aez(P:Params):cS (bZ P).get TT 224 aaI=true:=by kernel_rfl
theorem aey(P:Params):cS (bZ P).get TT 231 aaH=true:=by kernel_rfl
theorem aex(P:Params):cS (bZ P).get TT 238 Vt=true:=by kernel_rfl
theorem aew(P:Params):cS (bZ P).get TT 259 aaG=true:=by kernel_rfl
theorem aev(P:Params):cS (bZ P).get TT 273 Vs=true:=by kernel_rfl
theorem aeu(P:Params):cS (bZ P).get TT 281 Vr=true:=by kernel_rfl
theorem aet(P:Params):cS (bZ P).get TT 289 Vq=true:=by kernel_rfl
theorem aes(P:Params):cS (bZ P).get TT 297 aaF=true:=by kernel_rfl
theorem aer(P:Params):cS (bZ P).get TT 305 Vp=true:=by kernel_rfl
theorem aeq(P:Params):cS (bZ P).get TT 312 aaE=true:=by kernel_rfl
theorem aep(P:Params):cS (bZ P).get TT 319 Vo=true:=by kernel_rfl
theorem aeo(P:Params):cS (bZ P).get TT 326 aaD=true:=by kernel_rfl
theorem aen(P:Params):cS (bZ P).get TT 333 Vn=true:=by kernel_rfl
theorem aem(P:Params):cS (bZ P).get TT 340 Vm=true:=by kernel_rfl
theorem ael(P:Params):cS (bZ P).get TT 347 Vl=true:=by kernel_rfl
theorem aek(P:Params):cS (bZ P).get TT 354 Vk=true:=by kernel_rfl
theorem aej(P:Params):cS (bZ P).get TT 359 Vj=true:=by kernel_rfl
theorem aei(P:Params):cS (bZ P).get TT 366 Vi=true:=by kernel_rfl
theorem aeh(P:Params):cS (bZ P).get TT 373 Vh=true:=by kernel_rfl
theorem aeg(P:Params):cS (bZ P).get TT 378 Vg=true:=by kernel_rfl
theorem aef(P:Params):cS (bZ P).get TT 383 aaC=true:=by kernel_rfl
theorem aee(P:Params):cS (bZ P).get TT 390 Vf=true:=by kernel_rfl
theorem aed(P:Params):cS (bZ P).get TT 395 Ve=true:=by kernel_rfl
theorem aec(P:Params):cS (bZ P).get TT 415 Vd=true:=by kernel_rfl
theorem aeb(P:Params):cS (bZ P).get TT 429 Vc=true:=by kernel_rfl
theorem aea(P:Params):cS (bZ P).get TT 499 aaB=true:=by kernel_rfl
theorem ad'(P:Params):cS (bZ P).get TT 527 aaA=true:=by kernel_rfl
theorem ad9(P:Params):cS (bZ P).get TT 534 Vb=true:=by kernel_rfl
theorem ad8(P:Params):cS (bZ P).get TT 548 aaz=true:=by kernel_rfl
theorem ad7(P:Params):cS (bZ P).get TT 555 Va=true:=by kernel_rfl
theorem ad6(P:Params):cS (bZ P).get TT 583 U'=true:=by kernel_rfl
theorem ad5(P:Params):cS (bZ P).get TT 590 aay=true:=by kernel_rfl
theorem ad4(P:Params):cS (bZ P).get TT 611 U9=true:=by kernel_rfl
theorem ad3(P:Params):cS (bZ P).get TT 625 U8=true:=by kernel_rfl
theorem ad2(P:Params):cS (bZ P).get TT 644 U7=true:=by kernel_rfl
theorem ad1(P:Params):cS (bZ P).get TT 651 U6=true:=by kernel_rfl
theorem ad0(P:Params):cS (bZ P).get TT 658 U5=true:=by kernel_rfl
theorem adZ(P:Params):cS (bZ P).get TT 777 aax=true:=by kernel_rfl
theorem adY(P:Params):cS (bZ P).get TT 784 U4=true:=by kernel_rfl
theorem adX(P:Params):cS (bZ P).get TT 819 aaw=true:=by kernel_rfl
theorem adW(P:Params):cS (bZ P).get TT 840 U3=true:=by kernel_rfl
theorem adV(P:Params):cS (bZ P).get TT 847 U1=true:=by kernel_rfl
theorem adU(P:Params):cS (bZ P).get TT 854 U0=true:=by kernel_rfl
theorem adT(P:Params):cS (bZ P).get TT 861 UZ=true:=by kernel_rfl
theorem adS(P:Params):cS (bZ P).get TT 868 UY=true:=by kernel_rfl
theorem adR(P:Params):cS (bZ P).get TT 924 UX=true:=by kernel_rfl
theorem adQ(P:Params):cS (bZ P).get TT 952 UW=true:=by kernel_rfl
theorem adP(P:Params):cS (bZ P).get TT 976 aav=true:=by kernel_rfl
theorem X3(P:Params):cS (bZ P).get TT 1004 J9=true:=by kernel_rfl
theorem X0(P:Params):cS (bZ P).get TT 1011 J8=true:=by kernel_rfl
theorem XZ(P:Params):cS (bZ P).get TT 1018 J7=true:=by kernel_rfl
theorem XY(P:Params):cS (bZ P).get TT 1032 J6=true:=by kernel_rfl
theorem XX(P:Params):cS (bZ P).get TT 1044 J5=true:=by kernel_rfl
theorem XW(P:Params):cS (bZ P).get TT 1058 J4=true:=by kernel_rfl
theorem XV(P:Params):cS (bZ P).get TT 1070 E5=true:=by kernel_rfl
theorem XU(P:Params):cS (bZ P).get TT 1084 J3=true:=by kernel_rfl
theorem XT(P:Params):cS (bZ P).get TT 1103 Su=true:=by kernel_rfl
theorem XS(P:Params):cS (bZ P).get TT 1110 J2=true:=by kernel_rfl
theorem XR(P:Params):cS (bZ P).get TT 1122 J1=true:=by kernel_rfl
theorem XQ(P:Params):cS (bZ P).get TT 1136 J0=true:=by kernel_rfl
theorem XO(P:Params):cS (bZ P).get TT 1155 JZ=true:=by kernel_rfl
theorem XN(P:Params):cS (bZ P).get TT 1174 JY=true:=by kernel_rfl
theorem XM(P:Params):cS (bZ P).get TT 1193 Ss=true:=by kernel_rfl
theorem XK(P:Params):cS (bZ P).get TT 1242 Sq=true:=by kernel_rfl
theorem XJ(P:Params):cS (bZ P).get TT 1335 JX=true:=by kernel_rfl
theorem XI(P:Params):cS (bZ P).get TT 1342 E4=true:=by kernel_rfl
theorem XH(P:Params):cS (bZ P).get TT 1347 E3=true:=by kernel_rfl
theorem XG(P:Params):cS (bZ P).get TT 1354 JW=true:=by kernel_rfl
theorem XF(P:Params):cS (bZ P).get TT 1359 JV=true:=by kernel_rfl
theorem XE(P:Params):cS (bZ P).get TT 1366 JU=true:=by kernel_rfl
theorem XD(P:Params):cS (bZ P).get TT 1373 JT=true:=by kernel_rfl
theorem XA(P:Params):cS (bZ P).get TT 1378 JS=true:=by kernel_rfl
theorem Xz(P:Params):cS (bZ P).get TT 1383 JR=true:=by kernel_rfl
theorem Xy(P:Params):cS (bZ P).get TT 1388 E0=true:=by kernel_rfl
theorem Xx(P:Params):cS (bZ P).get TT 1395 JQ=true:=by kernel_rfl
theorem Xw(P:Params):cS (bZ P).get TT 1402 EZ=true:=by kernel_rfl
theorem Xv(P:Params):cS (bZ P).get TT 1409 JP=true:=by kernel_rfl
theorem Xu(P:Params):cS (bZ P).get TT 1416 BG=true:=by kernel_rfl
theorem Xs(P:Params):cS (bZ P).get TT 1423 JO=true:=by kernel_rfl
theorem Xr(P:Params):cS (bZ P).get TT 1428 JN=true:=by kernel_rfl
theorem Xq(P:Params):cS (bZ P).get TT 1435 JM=true:=by kernel_rfl
theorem Xp(P:Params):cS (bZ P).get TT 1442 Sp=true:=by kernel_rfl
theorem Xo(P:Params):cS (bZ P).get TT 1447 j5=true:=by kernel_rfl
section
theorem ow{α:Type}{x:Nat}{v:α}:∀{l:List (Nat×α)},ay x l=some v->(x,v)∈l
 |[],h=>bJ h
 |(y,u)::r,h=>by
  rw[gk]at h
  by_cases q:x=y
  ·rw[aI q]at h;exact xF h (q▸ .head _)
  ·rw[aG q]at h;exact .tail _ (ow h)
noncomputable def Dz(K:Frag)(k:Nat):Bool:=
 plainGet K k Str.empty&&hasDictIn K k&&findIn K (.ref k) "__setattr__"==some (some (.builtin "object.__setattr__"))&&plainOver K k&&
 (match UV.get k with|some l=>l.all (fun a=>um a&&findIn K (.ref k) (nc a)==some none)|none=>true)&&
 (match JE.get k with|some l=>l.all (fun e=>um e.1&&findIn K (.ref k) (nc e.1)==some (some (.ref e.2))&&typeIn K (.ref e.2)==some (.type "function")&&keepIn K (.ref e.2))|none=>true)&&
 makesIn K k&&(match EV.get k with
  |some f=>findIn K (.ref k) "__init__"==some (some (.ref f))&&typeIn K (.ref f)==some (.type "function")
  |none=>findIn K (.ref k) "__init__"==some (some (.builtin "object.__init__")))
theorem Xm(P:Params):GQ.all (Dz (KK P))=true:=by kernel_rfl
theorem adO(P:Params)(k:Nat):Dz (KK P) (kj k)=true:=dG.mp (Xm P) _ (L2 k)
section
variable{C:Cx}{N:bz C}{l:List Int}
theorem QE(k:Nat)(NJ:C.ca k=kj k)(Zp:∀f,C.fa f=f)(hnm:∀x,C.nm x=nc x)(Ng:∀x,N.ok x=um x)(hf:C.gI=(P l).gI)(q:Dz C.K (kj k)=true):tU C N (P l) k:=by
 unfold Dz at q
 simp only[dX,jE]at q
 refine dw q fun u1 q8=> ?_;refine dw u1 fun u2 q7=> ?_;refine dw u2 fun u3 q6=> ?_;refine dw u3 fun u4 q5=> ?_;refine dw u4 fun u5 q4=> ?_;refine dw u5 fun u6 q3=> ?_;refine dw u6 fun q1 q2=> ?_
 rw[<-NJ]at q1 q2 q3 q4
 refine⟨q1,q2,q3,q4,fun a ha=> ?_,fun m f hm=> ?_⟩
 ·rw[hf]at ha
  have ha:(match UV.get (kj k)with|some l=>l.contains a|none=>false)=true:=ha
  rw[NJ,Ng,hnm]
  split at q5
  ·rename_i l' e
   rw[e]at ha
   have z:=dG.mp q5 a (List.contains_iff_mem.mp ha)
   rw[dX,jE]at z
   exact z
  ·rename_i e;rw[e]at ha;exact nomatch ha
 ·have hm:(JE.get (kj k)).bind (ay m)=some f:=hm
  rw[NJ,Ng,hnm,Zp]
  split at q6
  ·rename_i l' e
   rw[e]at hm
   have z:=dG.mp q6 (m,f) (ow hm)
   simp only[dX,jE]at z
   exact⟨z.1.1.1,z.1.1.2,z.1.2,z.2⟩
  ·rename_i e;rw[e]at hm;exact bJ hm
theorem Mg(k:Nat)(NJ:C.ca k=kj k)(Zp:∀f,C.fa f=f)(q:Dz C.K (kj k)=true):D0 C (P l) k:=by
 unfold Dz at q
 simp only[dX,jE]at q
 refine dw q fun u1 q8=> ?_;refine dw u1 fun u2 q7=> ?_;refine dw u2 fun u3 q6=> ?_;refine dw u3 fun u4 q5=> ?_;refine dw u4 fun u5 q4=> ?_;refine dw u5 fun u6 q3=> ?_;refine dw u6 fun q1 q2=> ?_
 rw[<-NJ]at q7
 refine⟨q7,fun f hf=> ?_,fun hf=> ?_⟩
 ·have hf:EV.get (kj k)=some f:=hf
  rw[hf]at q8
  simp only[dX,jE]at q8
  rw[NJ,Zp]
  exact q8
 ·have hf:EV.get (kj k)=none:=hf
  rw[hf]at q8
  simp only[jE]at q8
  rw[NJ]
  exact q8
end
noncomputable def TS(n:Str):Bool:=n==("__debug__":Str)
noncomputable def GO(o:Option Obj):Array DictEntry:=o.elim #[] fun o=>(Vz o.data).elim #[] fun p=>p.1
noncomputable def NW(K:Frag)(get:Nat->Option Obj)(es:Array DictEntry):Bool:=
 Jm.all (fun e=>nsFind es e.2==some (.ref e.1)&&keepIn K (.ref e.1)&& !TS e.2)&&
 Jp.all (fun e=>nsFind es e.2==some (.ref (kj e.1))&&keepIn K (.ref (kj e.1))&& !TS e.2)&&
 Ua.all (fun e=>(match nsFind es (nc e.1)with|some u=>NY get e.2 u|none=>false)&& !TS (nc e.1))&&
 ack.all (fun n=>(nsFind es n).isNone&& !TS n)
theorem VU(P:Params):NW (KK P) (bZ P).get (GO ((bZ P).get mainGlobals))=true:=by kernel_rfl
noncomputable def K3(o:Option Obj):Bool:=o.any fun o=>(Vz o.data).any fun Z=>true
theorem Wz(P:Params):K3 ((bZ P).get mainGlobals)=true:=by kernel_rfl
theorem Wi{t:Option Obj}(q:K3 t=true){h:Heap}(S:∀o,t=some o->nI o=false->h.get? mainGlobals=some o){mg:Str->Option Value}(g:h.Ns mainGlobals mg)(n:Str):mg n=nsFind (GO t) n:=by
 refine eL q fun o e q=>eL q fun p q2 Z=>nS g fun o' es ep e1 e2 Z e3=> ?_
 have eo:o=o':=ig ((S o e (lG (F6 q2) rfl)).symm.trans e1)
 have es:es=p.1:=(Data.dict.inj (e2.symm.trans ((congrArg Obj.data eo).symm.trans (F6 q2)))).1
 rw[e,<-e3 n,es]
 exact congrArg (fun z=>nsFind (z.elim #[] fun p=>p.1) n) q2.symm
theorem RE{P:Params}{h:Heap}(S:gm P h){mg:Str->Option Value}(g:h.Ns mainGlobals mg)(n:Str):mg n=nsFind (GO ((bZ P).get mainGlobals)) n:=
 Wi (Wz P) (fun o e f=>S mainGlobals o (by decide) e f) g n
set_option tactic.hygienic true in
theorem O3{C:Cx}{N:bz C}{es:Array DictEntry}{get:Nat->Option Obj}(hnm:∀x,nc x=C.nm x)(Ng:∀x,um x=true->N.ok x=true)(Zp:∀f,C.fa f=f)(NJ:∀f,C.ca f=kj f)(g:∀n,C.mg n=nsFind es n)
  (hr:∀x v,NY get x v=true->aL C C.eG [] x v)(hb:∀x:Str,x≠"__name__"->C.mb x=bootBuiltins x)(q:NW C.K get es=true):tS C N TT:=by
 unfold NW at q
 simp only[dX]at q
 refine dw q fun u1 q4=> ?_;refine dw u1 fun u2 q3=> ?_;refine dw u2 fun q1 q2=> ?_
 refine⟨hnm,Ng,fun f hf=> ?_,fun f hf=> ?_,fun x v hx=> ?_,fun n hn=> ?_,(hb _ (by decide)).trans (by kernel_rfl),(hb _ (by decide)).trans (by kernel_rfl),(hb _ (by decide)).trans (by kernel_rfl),(hb _ (by decide)).trans (by kernel_rfl),(hb _ (by decide)).trans (by kernel_rfl),(hb _ (by decide)).trans (by kernel_rfl)⟩
 ·have hf:(ay f Jm).isSome=true:=hf
  refine bR (zW.mp hf) fun n e=> ?_
  have z:=dG.mp q1 _ (ow e)
  simp only[dX,jE,zV]at z
  have e2:TT.Zt f=n:=by show(ay f Jm).getD _=n;rw[e];rfl
  rw[e2,g,Zp]
  exact⟨z.1.1,z.1.2,z.2⟩
 ·have hf:(ay f Jp).isSome=true:=hf
  refine bR (zW.mp hf) fun n e=> ?_
  have z:=dG.mp q2 _ (ow e)
  simp only[dX,jE,zV]at z
  have e2:TT.Zx f=n:=by show(ay f Jp).getD _=n;rw[e];rfl
  rw[e2,g,NJ]
  exact⟨z.1.1,z.1.2,z.2⟩
 ·have z:=dG.mp q3 _ (ow (show ay x Ua=some v from hx))
  simp only[dX,zV]at z
  refine dw z fun z1 z2=> ?_
  split at z1
  ·rename_i u e
   exact⟨u,(g _).trans e,hr _ _ z1,z2⟩
  ·cases z1
 ·have z:=dG.mp q4 n (List.contains_iff_mem.mp hn)
  simp only[dX,zV,Option.isNone_iff_eq_none]at z
  exact⟨(g n).trans z.1,z.2⟩
noncomputable def Rw(o:Option Obj):Bool:=o.any fun o=> !nI o
theorem LD(P:Params):Rw ((bZ P).get sysModules)=true:=by kernel_rfl
theorem O4{t:Option Obj}{h:Heap}(q:Rw t=true)(S:∀o,t=some o->nI o=false->h.get? sysModules=some o):sysModules<h.objs.size:=by
 exact eL q fun o e f=>jr (S o e (nt f))
theorem VV{P:Params}{h:Heap}(S:gm P h):sysModules<h.objs.size:=@O4 ((bZ P).get sysModules) h (LD P) (fun o e f=>S sysModules o (by decide) e f)
section
variable{prog:Program}{w:World}{h:Heap}{mg mb:Str->Option Value}{gu:Addr}
theorem VO:(CC prog w h mg mb gu).K=KK w.params:=by dsimp only[CC]
theorem Lo(k:Nat):Dz (CC prog w h mg mb gu).K (kj k)=true:=by rw[VO];exact adO w.params k
theorem Yy:NW (CC prog w h mg mb gu).K (bZ w.params).get (GO ((bZ w.params).get mainGlobals))=true:=by rw[VO];exact VU w.params
theorem aeN(S:gm w.params h):(CC prog w h mg mb gu).K.In h:=by rw[VO];exact ahw S
theorem QG{l:List Int}(S:gm w.params h)(g:h.Ns mainGlobals mg)(b:h.Ns builtinsNs mb)(lim:h.NoLimit)(hb:∀x:Str,x≠"__name__"->mb x=bootBuiltins x)(so:Fb (CC prog w h mg mb gu) (P l)):
  qQ (CC prog w h mg mb gu) NN (P l) TT where
 ok:=⟨VV S,aeN S,g,b,lim⟩
 kP:=@O3 (CC prog w h mg mb gu) NN (GO ((bZ w.params).get mainGlobals)) (bZ w.params).get (fun Z=>rfl) (fun Z e=>e) (fun Z=>rfl) (fun Z=>rfl) (fun n=>RE S g n) (fun x v e=>Ft S x v e) hb Yy
 cls:=fun k=>QE k rfl (fun Z=>rfl) (fun Z=>rfl) (fun Z=>rfl) rfl (Lo k)
 gu:=so
 gI:=rfl
theorem Mf{l:List Int}(k:Nat):D0 (CC prog w h mg mb gu) (P l) k:=Mg k rfl (fun Z=>rfl) (Lo k)
end
end
section
noncomputable abbrev C5:Prop:=∀l:List Int,l.length<=63->∃σ,bC (P l) 40 1447 [.gu] []=some (.bool true,σ)
section
variable{R:WRecords}{cl:Str->Option Addr}
theorem Ww{h:Heap}{v:Value}{i:Int}{as:List Addr}(r:ReadsW R cl h v (.int i) as):∃t,v=.int i t:=by
 cases r with
 |int _ t=>exact⟨t,rfl⟩
theorem ints_of{h:Heap}{xs:List WData}:∀{vs:List Value} {as:List Addr},ReadsAllW R cl h vs xs as->WShape.hasItems R xs .int=true->∃l:List Int,l.length=xs.length/\IntsAre vs l:=by
 induction xs with
 |nil=>
  intro vs as r q
  cases r
  exact⟨[],rfl,.nil⟩
 |cons x xs ih=>
  intro vs as r q
  refine dw ((dX _ _).mp q) fun q1 q2=>bR (hasW_int q1) fun i e=> ?_
  cases r with
  |cons r1 r2=>
   subst e
   refine aD (ih r2 q2) fun l e2 z=>bR (Ww r1) fun t et=> ?_
   subst et
   exact⟨i::l,congrArg Nat.succ e2,.cons i t z⟩
end
theorem aeZ{C:Cx}:bG C C.eG [] []:=⟨rfl,fun i o ad e=>by exact bJ e,fun i j ad bd e=>by exact bJ e,fun Z Z e=>e,fun ad h=>by simp at h,bX _⟩
theorem bq{Q:Params}{x:Nat}{f:Fn}{xs:List (Nat×Fn)}(h:cS (bZ Q).get TT x f=true)(t:∀y∈xs,cS (bZ Q).get TT y.1 y.2=true):∀y∈(x,f)::xs,cS (bZ Q).get TT y.1 y.2=true:=By.mpr ⟨h,t⟩
theorem ahh(Q:Params):∀y∈fnL,cS (bZ Q).get TT y.1 y.2=true:=
 bq (ag' Q)<|bq (aeE Q)<|bq (aeD Q)<|bq (aeC Q)<|bq (aeB Q)<|bq (aeA Q)<|bq (aez Q)<|bq (aey Q)<|bq (aex Q)<|bq (aew Q)<|
 bq (aev Q)<|bq (aeu Q)<|bq (aet Q)<|bq (aes Q)<|bq (aer Q)<|bq (aeq Q)<|bq (aep Q)<|bq (aeo Q)<|bq (aen Q)<|bq (aem Q)<|
 bq (ael Q)<|bq (aek Q)<|bq (aej Q)<|bq (aei Q)<|bq (aeh Q)<|bq (aeg Q)<|bq (aef Q)<|bq (aee Q)<|bq (aed Q)<|bq (aec Q)<|
 bq (aeb Q)<|bq (aea Q)<|bq (ad' Q)<|bq (ad9 Q)<|bq (ad8 Q)<|bq (ad7 Q)<|bq (ad6 Q)<|bq (ad5 Q)<|bq (ad4 Q)<|bq (ad3 Q)<|
 bq (ad2 Q)<|bq (ad1 Q)<|bq (ad0 Q)<|bq (adZ Q)<|bq (adY Q)<|bq (adX Q)<|bq (adW Q)<|bq (adV Q)<|bq (adU Q)<|bq (adT Q)<|
 bq (adS Q)<|bq (adR Q)<|bq (adQ Q)<|bq (adP Q)<|bq (X3 Q)<|bq (X0 Q)<|bq (XZ Q)<|bq (XY Q)<|bq (XX Q)<|bq (XW Q)<|
 bq (XV Q)<|bq (XU Q)<|bq (XT Q)<|bq (XS Q)<|bq (XR Q)<|bq (XQ Q)<|bq (XO Q)<|bq (XN Q)<|bq (XM Q)<|bq (XK Q)<|
 bq (XJ Q)<|bq (XI Q)<|bq (XH Q)<|bq (XG Q)<|bq (XF Q)<|bq (XE Q)<|bq (XD Q)<|bq (XA Q)<|bq (Xz Q)<|bq (Xy Q)<|
 bq (Xx Q)<|bq (Xw Q)<|bq (Xv Q)<|bq (Xu Q)<|bq (Xs Q)<|bq (Xr Q)<|bq (Xq Q)<|bq (Xp Q)<|bq (Xo Q)<|fun Z h=>nomatch h
theorem WA{prog w h mg mb gu}{l:List Int}(S:gm w.params h)(B:qQ (CC prog w h mg mb gu) NN (P l) TT)(f:Nat)(fn:Fn)(e:(P l).fn f=some fn):∃fd body,GX (CC prog w h mg mb gu) NN (P l) f fn fd body:=by
 exact Xa S B (ahh w.params _ (ow e))
theorem adj(P:Params):nsFind (GO ((bZ P).get mainGlobals)) GF=some (.ref 1447):=by kernel_rfl
theorem ac3:BJ 40 callerA:=⟨rfl,by decide,by decide⟩
end
theorem aeK:lP.row.toRowW.args=[.list .int]:=by kernel_rfl
theorem Pd:lP.row.toRowW.raises=[]:=by kernel_rfl
theorem ae8:lP.row.toRowW.pre=.and (.not (.lt (.lit (.int 63)) (.len (.arg 0)))) (.lit (.bool true)):=by kernel_rfl
theorem LQ:lP.row.toRowW.returns=.bool:=by kernel_rfl
theorem ac8:lP.row.toRowW.post=.eq .res (.lit (.bool true)):=by kernel_rfl
theorem Xc{R:WRecords}{xs:List WData}(h:(WTm.and (.not (.lt (.lit (.int 63)) (.len (.arg 0)))) (.lit (.bool true))).holds R {args:=[.list xs]}=true):xs.length<=63:=by
 by_cases q:xs.length<=63
 ·exact q
 ·exfalso
  have q':((63:Int)<xs.length):=by lia
  revert h
  have z:less? (WData.int 63) (WData.int ↑xs.length)=some true:=by simp[less?,Num.less?,q']
  unfold WTm.holds
  simp only[WTm.value,List.getElem?_cons_zero,Option.map_some,z]
  simp
theorem Mu{r:RowW}(h2:r.raises=[])(h3:r.returns=.bool)(h4:r.post=.eq .res (.lit (.bool true))){args:List WData}{s s':Shared}{cl agt}(k:∀b o,s.heap.get? b=some o->s'.heap.get? b=some o)(os:s'.os=s.os)(g:s'.gens= #[]):
  GoodWG r.claim cl agt args s (.ok (.ret (.bool true))) s':=by
 refine⟨.inl ⟨_,.bool true,[],rfl,fun c=> ?_,.bool true,?_,fun Z=>⟨List.nodup_nil,by simp⟩⟩,.of_keep k,os,.of_eq g⟩
 ·unfold RowW.claim
  dsimp only
  rw[h2];rfl
 ·unfold RowW.claim
  dsimp only
  rw[h3,h4]
  simp[WShape.has,WShape.arms,WTm.holds,WTm.value,same]
set_option tactic.hygienic true in
theorem Wx{r:RowW}(h1:r.args=[.list .int])(h2:r.pre=.and (.not (.lt (.lit (.int 63)) (.len (.arg 0)))) (.lit (.bool true))){args:List WData}{TZ:List Value}{as:List Addr}{cl:Str->Option Addr}{h:Heap}
  (hp:r.claim.pre args=true)(hr:ReadsAllW r.records cl h TZ args as):∃a o vs n l,TZ=[.ref a]/\h.get? a=some o/\o.cls=.type "list"/\o.data=.seq (List.toArray vs) n/\IntsAre vs l/\l.length<=63:=by
 refine dw (pre_splitW hp) fun p1 p2=> ?_
 rw[h1]at p1
 refine aW (hasAllW_cons p1) fun d t q2 p3 p4=> ?_;subst q2
 have e0:=hasAllW_nil p4
 subst e0
 refine aD (hasW_list p3) fun xs q1 p5=> ?_;subst q1
 rw[h2]at p2
 have jW:=Xc p2
 cases hr with
 |cons r1 r2=>
  cases r2
  cases r1 with
  |list e1 e2 e3 e4=>
   rename_i vs n as
   refine aD (ints_of e4 p5) fun l e z=> ?_
   exact⟨_,_,vs.toList,n,l,rfl,e1,e2,e3,z,(dU (OR e) jW)⟩
theorem LI{C:Cx}{s s':Shared}{bP:Bt}(st:aM kQ [] s bP s'):(∀b o,s.heap.get? b=some o->s'.heap.get? b=some o)/\s'.os=s.os/\s'.gens=s.gens:=by
 refine⟨fun b o e=>st.qL b o e ?_,?_,?_⟩
 ·rintro(⟨ad,h,_⟩|h)
  ·cases h
  ·exact h
 ·rw[st.same]
 ·rw[st.same]
theorem Mv{w:World}{s:Shared}{mg mb:Str->Option Value}{lim:s.heap.NoLimit}(law:C5)(Y:gm w.params s.heap)(hg:s.heap.Ns mainGlobals mg)(hm:s.heap.Ns builtinsNs mb)(hb:∀x:Str,x≠"__name__"->mb x=bootBuiltins x)
  {prog:Program}{a:Addr}{o:Obj}{vs:List Value}{n:Nat}{l:List Int}(e1:s.heap.get? a=some o)(e2:o.cls=.type "list")(e3:o.data=.seq (List.toArray vs) n)(e4:IntsAre vs l)(jW:l.length<=63){Q E:Value->Shared->Prop}
  (k:∀s',(∀b o,s.heap.get? b=some o->s'.heap.get? b=some o)->s'.os=s.os->s'.gens=s.gens->Q (.bool true) s'):wpAny (model prog w) callerA (PySem.call (.ref 1447) [.ref a]) Q E s:=by
 have so:Fb (CC prog w s.heap mg mb a) (P l):=⟨⟨vs,o,n,e1,e2,e3,e4⟩,Bx jW ((gP rfl))⟩
 have B:qQ (CC prog w s.heap mg mb a) NN (P l) TT:=QG Y hg hm lim hb so
 refine bR (law l jW) fun σ hl=> ?_
 have co:=Kn (C:=CC prog w s.heap mg mb a) (N:=NN) B.ok (WA Y B) (fun c d co=>Wg B.ok Mf co) 40
 refine dN (uP (C:=CC prog w s.heap mg mb a) (Q:=fun v s'=>bH (CC prog w s.heap mg mb a) [] s (.bool true) σ v s') (co 1447 [.gu] [] _ _ hl callerA s [] [.ref a] ac3 aeZ ⟨_,_,rfl,rfl,rfl⟩)) (fun v s' q=> ?_) fun Z Z x=>x
 refine dF q fun bP st Z rv=> ?_
 refine iX (LI (C:=CC prog w s.heap mg mb a) st) fun z1 z2 z3=> ?_
 have rv:v=.bool true:=rv
 subst rv
 exact k s' z1 z2 z3
theorem YX(law:C5):wI:=by
 intro w ahB aeW mg mb G Y a o pm cd doc dV kV ho hd hcd hD hmg hg args TZ as agL ahD hrd hwl hlo
 have S:=Hl Y
 refine mF (Wx aeK ae8 agL hrd) fun x ox vs n l q5 e1 e2 e3 e4 jW=> ?_;subst q5
 have ea:a=1447:=by
  have q1:=(RE S G.T.g GF).symm.trans hmg
  rw[adj]at q1
  cases q1;rfl
 subst ea
 exact Mv law S G.T.g G.T.b G.T.builtins e1 e2 e3 e4 jW (lim:=G.T.nolimit) fun s' k1 k2 k3=>Mu Pd LQ ac8 k1 k2 (k3.trans hg)
end
section
open PySem
noncomputable abbrev az:=List Nat
noncomputable def JA:List (List Nat):=[[48],[70],[76],[78],[79],[83],[84],[85],[86],[97,110,121],[101,65],[101,66],[101,114,114],[110,48],[110,49],[115,97],[117,110,107,110,111,119,110]]
noncomputable def wv(w:Nat):V:=.str ((JA[w]?).getD [])
noncomputable def nv(n:Nat):V:=.int (n:Nat)
noncomputable def av(a:Nat):V:=.ak [wv (a / 2),nv (a % 2)]
noncomputable def kv(K:az):V:=.ak (K.map av)
structure W where
 af:List V
 cA:List Nat
 cE:List V
 bu:Nat
 jp:Bool
 aR:List (Nat×Nat)
 bk:List V
 given:List (V×V)
 at_:Nat
 aA:Nat
 plain:Bool
 aj:List (V×V)
 cK:List (Nat×az)
 fJ:List V
 ef:List V
 iI:List V
 cB:List V
noncomputable def gh(af:List V):List (V×V):=af.zipIdx.map fun e=>(e.1,nv e.2)
noncomputable def dh(t:List (Nat×Nat)):List (V×V):=t.map fun e=>(nv e.1,nv e.2)
noncomputable def i6(t:List (Nat×az)):List (V×V):=t.map fun e=>(nv e.1,kv e.2)
noncomputable def gv(k:Nat)(es:List (V×V)):Ob:=.dict (if es.isEmpty then 0 else k) es
noncomputable def ir(w:W):H:=[
 .bE 1087 [],
 .bE 241 [(15,.ref 2),(23,.ref 3),(24,.ref 4),(25,.ref 5),(26,.ref 6),(27,.ref 7),(28,.ref 8),(29,.ref 9),(30,.int 0),(31,.int 0)],
 .list w.af,
 .dict 3 (gh w.af),
 .list [.none,.ref 10],
 .list [],
 .list [],
 .list [],
 .dict 0 [],
 .dict 0 [],
 .bE 262 [(34,.int 1),(35,.int 5),(36,.str [69]),(37,.ak []),(38,.int 18),(39,.ak []),(40,.int (-1)),(41,.int 0),(42,.bool false),(43,.ref 13),(44,.ref 12),(45,.int 0),(10,.int 0),(12,.str []),(46,.int 0)],
 .list [],
 .list [],
 .list [.ak [.str [65],.int 0],.ak [.str [66],.str [120]]],
 .dict 2 [(.str [78],.int 7),(.str [83],.int 6),(.str [48],.int 5),(.str [85],.int 4),(.str [86],.int 3),(.str [79],.int 10),(.str [97,110,121],.int 0),(.str [101,114,114],.int 13),(.str [117,110,107,110,111,119,110],.int 1)],
 .dict 2 [(.str [78],.int 7),(.str [83],.int 6),(.str [48],.int 5),(.str [85],.int 4),(.str [86],.int 3),(.str [79],.int 10),(.str [97,110,121],.int 0),(.str [101,114,114],.int 13),(.str [117,110,107,110,111,119,110],.int 1)],
 .list [.int 16,.int 17],
 .dict 1 [(.int 16,.int 1),(.int 17,.int 1)],
 .list [.int 16,.int 17],
 .list [.int 16,.int 17],
 .bE 1322 [(47,.ref 1),(177,.int 0),(208,.int 200),(210,.int 40),(212,.none)],
 .bE 140 [(15,.ref 22),(12,.str [])],
 .list (w.cA.map fun k=>.ref (95+k)),
 .bE 182 [(15,.ref 24)],
 .list w.cE,
 .bE 941 [(47,.ref 1),(123,.ref 20),(124,.none),(125,.none),(126,.none),(127,.ref 21),(128,.ref 23),(129,.ref 83),(130,.ref 27),(131,.ref 28),(132,.ref 29),(97,.ref 30),(45,.ref 31),(133,.ref 32),(134,.ref 33),(135,.ref 34),(136,.ref 35),(137,.ref 36),(138,.ref 37),(139,.ref 38),(140,.ref 39),(141,.ref 40),(142,.ref 41),(143,.ref 42),(144,.ref 43),(145,.ref 44),(146,.ref 45),(147,.ref 46),(148,.ref 47),(149,.ref 48),(150,.ref 49),(151,.ref 50),(152,.ref 51),(153,.ref 52),(154,.ref 53),(155,.ref 54),(156,.ref 55),(157,.ref 56),(158,.ref 57),(159,.ref 58),(160,.ref 59),(161,.ref 60),(162,.ref 61),(163,.ref 62),(164,.ref 63),(165,.int 0),(166,.ref 64),(167,.ref 65),(168,.none),(169,.none),(170,.ref (if w.jp then 86 else 84)),(171,.ref 68),(172,.ref 69),(173,.ref 71),(174,.ref 72),(175,.ref 73),(176,.ref 74),(177,nv w.bu)],
 .dict 0 [],
 .dict 0 [],
 .dict 0 [],
 gv 1 (dh w.aR),
 .dict 0 [],
 .dict 0 [],
 .dict 0 [],
 .dict 0 [],
 .dict 0 [],
 .dict 0 [],
 .list [],
 .list [],
 .list [],
 .list w.bk,
 .list [],
 .list [],
 .dict 0 [],
 .dict 0 [],
 .dict 0 [],
 .dict 0 [],
 .dict 0 [],
 .dict 0 [],
 .dict 0 [],
 .dict 0 [],
 .dict 0 [],
 .dict 0 [],
 .dict 0 [],
 .dict 0 [],
 .dict 0 [],
 .dict 0 [],
 .dict 0 [],
 .dict 0 [],
 .dict 0 [],
 .dict 0 [],
 .dict 0 [],
 .dict 0 [],
 .dict 0 [],
 .dict 0 [],
 .dict 0 [],
 .dict 0 [],
 .bE 593 [(95,.ref 67)],
 .dict 0 [],
 .bE 481 [],
 .bE 509 [(95,.ref 70)],
 .dict 0 [],
 .bE 689 [],
 .bE 710 [],
 .bE 759 [],
 .bE 738 [],
 .bE 1113 [(203,.ref 79)],
 .dict 0 [],
 .bE 1061 [],
 .bE 1035 [],
 .dict 2 [(.str [45],.ref 78),(.str [61,61],.ref 0),(.str [33,61],.ref 0),(.str [61,61,61],.ref 0),(.str [33,61,61],.ref 0),(.str [60],.ref 77),(.str [62],.ref 77),(.str [60,61],.ref 77),(.str [62,61],.ref 77)],
 .bE 1177 [],
 .bE 1139 [],
 .bE 1158 [],
 .dict 1 [(.int 23,.ref 75),(.int 1,.ref 81),(.int 2,.ref 82),(.int 4,.ref 80),(.int 5,.ref 80),(.int 6,.ref 80),(.int 7,.ref 80)],
 .bE 593 [(95,.ref 85)],
 gv 3 w.given,
 .bE 635 [(95,.ref 87)],
 .dict 0 [],
 .list w.cB,
 gv 3 w.aj,
 gv 1 (i6 w.cK),
 .list w.fJ,
 .list w.ef,
 .list w.iI,
 .dict 2 [(.str [110,117,109,115],.ref 88),(.str [97,116],nv w.at_),(.str [112,108,97,99,101],nv w.aA),(.str [99,120],.ref 25),(.str [112,108,97,105,110],.bool w.plain),(.str [116,101,108,108,115],.ref 89),(.str [104,101,108,100],.ref 90),(.str [116,111,108,100],.ref 91),(.str [110,111,116,101,100],.ref 92),(.str [116,114,97,105,108],.ref 93)]]
noncomputable def heap(w:W)(rest:H):H:=ir w++rest
theorem nW(w:W):(ir w).length=95:=rfl
theorem nR(w:W)(rest:H):(heap w rest).length=95+rest.length:=by
 unfold heap;rw[fV,nW]
theorem CH(w:W)(rest:H)(l:H):heap w rest++l=heap w (rest++l):=by unfold heap;rw[List.append_assoc]
theorem fC(w:W)(rest:H)(k:Nat):(heap w rest)[95+k]? =rest[k]? :=by
 unfold heap;rw[vg (by rw[nW];exact(iY)),nW];congr 1;lia
theorem o9(w:W)(rest:H)(k:Nat)(o:Ob):(heap w rest).set (95+k) o=heap w (rest.set k o):=by
 unfold heap;rw[List.set_append_right _ _ (by rw[nW];exact(iY)),nW];congr 2;lia
theorem VE(w:W)(rest:H):(heap w rest)[(2:Nat)]? =some (.list w.af):=rfl
theorem acm(w:W)(rest:H):(heap w rest)[(3:Nat)]? =some (.dict 3 (gh w.af)):=rfl
theorem Ke(w:W)(rest:H):(heap w rest)[(22:Nat)]? =some (.list (w.cA.map fun k=>.ref (95+k))):=rfl
theorem Tu(w:W)(rest:H):(heap w rest)[(24:Nat)]? =some (.list w.cE):=rfl
theorem E9(w:W)(rest:H):(heap w rest)[(29:Nat)]? =some (gv 1 (dh w.aR)):=rfl
theorem Tt(w:W)(rest:H):(heap w rest)[(39:Nat)]? =some (.list w.bk):=rfl
theorem Tq(w:W)(rest:H):(heap w rest)[(85:Nat)]? =some (gv 3 w.given):=rfl
theorem Tp(w:W)(rest:H):(heap w rest)[(89:Nat)]? =some (gv 3 w.aj):=rfl
theorem Kd(w:W)(rest:H):(heap w rest)[(90:Nat)]? =some (gv 1 (i6 w.cK)):=rfl
theorem Kc(w:W)(rest:H):(heap w rest)[(91:Nat)]? =some (.list w.fJ):=rfl
theorem To(w:W)(rest:H):(heap w rest)[(92:Nat)]? =some (.list w.ef):=rfl
theorem Tn(w:W)(rest:H):(heap w rest)[(93:Nat)]? =some (.list w.iI):=rfl
theorem V0(w:W)(rest:H)(k:Nat):(heap w rest).set 22 (.list ((w.cA.map fun k=>V.ref (95+k))++[.ref (95+k)]))=heap {w with cA:=w.cA++[k]} rest:=by
 simp[heap,ir]
theorem adL(l:List Int):(P l).fn 96=some f96:=rfl
theorem W9(l:List Int):(P l).fn 103=some Vw:=rfl
theorem W8(l:List Int):(P l).fn 132=some Vv:=rfl
theorem W7(l:List Int):(P l).fn 165=some Vu:=rfl
theorem W6(l:List Int):(P l).fn 238=some Vt:=rfl
theorem W5(l:List Int):(P l).fn 273=some Vs:=rfl
theorem W4(l:List Int):(P l).fn 281=some Vr:=rfl
theorem W3(l:List Int):(P l).fn 289=some Vq:=rfl
theorem W2(l:List Int):(P l).fn 305=some Vp:=rfl
theorem W1(l:List Int):(P l).fn 319=some Vo:=rfl
theorem WZ(l:List Int):(P l).fn 333=some Vn:=rfl
theorem WY(l:List Int):(P l).fn 340=some Vm:=rfl
theorem WX(l:List Int):(P l).fn 347=some Vl:=rfl
theorem WW(l:List Int):(P l).fn 354=some Vk:=rfl
theorem WV(l:List Int):(P l).fn 359=some Vj:=rfl
theorem K8(l:List Int):(P l).fn 366=some Vi:=rfl
theorem K7(l:List Int):(P l).fn 373=some Vh:=rfl
theorem WU(l:List Int):(P l).fn 378=some Vg:=rfl
theorem WT(l:List Int):(P l).fn 390=some Vf:=rfl
theorem WS(l:List Int):(P l).fn 395=some Ve:=rfl
theorem WR(l:List Int):(P l).fn 415=some Vd:=rfl
theorem WQ(l:List Int):(P l).fn 429=some Vc:=rfl
theorem WP(l:List Int):(P l).fn 534=some Vb:=rfl
theorem WO(l:List Int):(P l).fn 555=some Va:=rfl
theorem WN(l:List Int):(P l).fn 583=some U':=rfl
theorem WM(l:List Int):(P l).fn 611=some U9:=rfl
theorem WL(l:List Int):(P l).fn 625=some U8:=rfl
theorem WK(l:List Int):(P l).fn 644=some U7:=rfl
theorem WJ(l:List Int):(P l).fn 651=some U6:=rfl
theorem WI(l:List Int):(P l).fn 658=some U5:=rfl
theorem WH(l:List Int):(P l).fn 784=some U4:=rfl
theorem WG(l:List Int):(P l).fn 840=some U3:=rfl
theorem WF(l:List Int):(P l).fn 847=some U1:=rfl
theorem WE(l:List Int):(P l).fn 854=some U0:=rfl
theorem WD(l:List Int):(P l).fn 861=some UZ:=rfl
theorem WC(l:List Int):(P l).fn 868=some UY:=rfl
theorem WB(l:List Int):(P l).fn 924=some UX:=rfl
theorem K6(l:List Int):(P l).fn 952=some UW:=rfl
theorem Qs(l:List Int):(P l).fn 1004=some J9:=rfl
theorem Qq(l:List Int):(P l).fn 1011=some J8:=rfl
theorem Qp(l:List Int):(P l).fn 1018=some J7:=rfl
theorem Qo(l:List Int):(P l).fn 1032=some J6:=rfl
theorem Qn(l:List Int):(P l).fn 1044=some J5:=rfl
theorem Qm(l:List Int):(P l).fn 1058=some J4:=rfl
theorem Ql(l:List Int):(P l).fn 1070=some E5:=rfl
theorem Qk(l:List Int):(P l).fn 1084=some J3:=rfl
theorem Qj(l:List Int):(P l).fn 1110=some J2:=rfl
theorem Qi(l:List Int):(P l).fn 1122=some J1:=rfl
theorem FN(l:List Int):(P l).fn 1136=some J0:=rfl
theorem Qh(l:List Int):(P l).fn 1155=some JZ:=rfl
theorem uN(l:List Int):(P l).fn 1174=some JY:=rfl
theorem Qg(l:List Int):(P l).fn 1335=some JX:=rfl
theorem Qf(l:List Int):(P l).fn 1342=some E4:=rfl
theorem Qe(l:List Int):(P l).fn 1347=some E3:=rfl
theorem Qd(l:List Int):(P l).fn 1354=some JW:=rfl
theorem Qc(l:List Int):(P l).fn 1359=some JV:=rfl
theorem Qa(l:List Int):(P l).fn 1366=some JU:=rfl
theorem P9(l:List Int):(P l).fn 1373=some JT:=rfl
theorem P8(l:List Int):(P l).fn 1378=some JS:=rfl
theorem P7(l:List Int):(P l).fn 1383=some JR:=rfl
theorem P6(l:List Int):(P l).fn 1388=some E0:=rfl
theorem P5(l:List Int):(P l).fn 1395=some JQ:=rfl
theorem P4(l:List Int):(P l).fn 1402=some EZ:=rfl
theorem P3(l:List Int):(P l).fn 1409=some JP:=rfl
theorem P0(l:List Int):(P l).fn 1416=some BG:=rfl
theorem PZ(l:List Int):(P l).fn 1423=some JO:=rfl
theorem PY(l:List Int):(P l).fn 1428=some JN:=rfl
theorem AF(l:List Int):(P l).fn 1435=some JM:=rfl
theorem PX(l:List Int):(P l).fn 1447=some j5:=rfl
noncomputable def exF(P:b5)(c:Calls)(b:List St)(ρ:aO)(σ:H):Option (V×H):=match kW P c b ρ σ with
 |some (.ret v,_,σ1)=>some (v,σ1)
 |some (.next,_,σ1)=>some (.none,σ1)
 | .none=>.none
theorem V3{l:List Int}{d f:Nat}{fn:Fn}{vs:List V}{ρ:aO}{σ:H}{r:Option (V×H)}(e:(P l).fn f=some fn)(b:Mine.bindL fn.params vs fn.j8=some ρ)(h:exF (P l) (bC (P l) d) fn.body ρ σ=r):bC (P l) (d+1) f vs σ=r:=by
 rw[Ry,e]
 dsimp only
 rw[b]
 rw[<-h]
 rfl
section
noncomputable def oK{α:Type}(K:α->Prop)(x:Option α):Prop:=Option.rec (motive:=fun Z=>Prop) False K x
noncomputable def bI(a b:Prop)(x:Bool):Prop:=Bool.rec (motive:=fun Z=>Prop) b a x
inductive fq{α:Type}(K:α->H->Prop):Option (α×H)->Prop
 |mk {v:α} {σ:H}:K v σ->fq K (some (v,σ))
inductive jB(N:aO->H->Prop)(R:V->H->Prop):Option (Fl×aO×H)->Prop
 |next {ρ:aO} {σ:H}:N ρ σ->jB N R (some (.next,ρ,σ))
 |ret {v:V} {ρ:aO} {σ:H}:R v σ->jB N R (some (.ret v,ρ,σ))
theorem IC{α:Type}{K:α->H->Prop}{r:Option (α×H)}{v:α}{σ:H}(h:r=some (v,σ))(k:K v σ):fq K r:=h▸ .mk k
section
variable(Q:b5)(c:Calls)
noncomputable def wN(cl:Nat)(vs:List V)(σ:H)(K:V->H->Prop):Prop:=
 Option.rec (motive:=fun Z=>Prop) (List.rec (motive:=fun Z=>Prop) (K (.ref σ.length) (σ++[.bE cl []])) (fun Z Z Z=>False) vs)
  (fun f=>fq (fun v aK=>v=.none/\K (.ref σ.length) aK) (c f (.ref σ.length::vs) (σ++[.bE cl []]))) (Q.pD cl)
noncomputable def Ub(xs:List Nat)(v:V)(ρ:aO):Option aO:=match v with
 | .ak vs=>if xs.length=vs.length then some ((xs.zip vs).reverse++ρ)else .none
 |_=>.none
noncomputable def Ah:V->Option V
 | .ak xs=>if xs.length<aJ&& !xs.isEmpty then some (.ak xs.dropLast)else .none
 |_=>.none
noncomputable def Ui:V->Option Unit
 | .gu=>some ()
 |_=>.none
noncomputable def vp(el:Ex)(tg:List Nat)(cond:List Cd)(ρ:aO):V->H->Option (Option V×H):=fun v σ=>match cT tg v with
 | .none=>.none
 |some b=>match Nm Q c true cond (b++ρ) σ with
  | .none=>.none
  |some (t,σ1)=>if t then(match gK Q c el (b++ρ) σ1 with
    |some (v,aX)=>some (some v,aX)
    | .none=>.none)else some (.none,σ1)
mutual
noncomputable def wE:Ex->aO->H->(V->H->Prop)->Prop
 | .cst v,_,σ,K=>K v σ
 | .aC _ v,_,σ,K=>K v σ
 | .ah x,ρ,σ,K=>oK (fun v=>K v σ) (ay x ρ)
 | .aq e a,ρ,σ,K=>wE e ρ σ fun o σ1=>oK (fun v=>K v σ1) (nh σ1 o a)
 | .call f args,ρ,σ,K=>wL args ρ σ fun vs σ1=>fq K (c f vs σ1)
 | .new cl args,ρ,σ,K=>wL args ρ σ fun vs σ1=>wN Q c cl vs σ1 K
 | .bM e m args,ρ,σ,K=>wE e ρ σ fun o σ1=>oK (fun f=>wL args ρ σ1 fun vs aX=>fq K (c f (o::vs) aX)) (iJ Q o m σ1)
 | .rV e x,ρ,σ,K=>wE e ρ σ fun o σ1=>bI (wE x ρ σ1 fun v aX=>oK (K .none) (push aX o v)) False (Gl σ1 o)
 | .ext e x,ρ,σ,K=>wE e ρ σ fun o σ1=>bI (wE x ρ σ1 fun v aX=>oK (K .none) (lZ aX o v)) False (Gl σ1 o)
 | .sy e k d,ρ,σ,K=>wE e ρ σ fun o σ1=>bI (wE k ρ σ1 fun kv aX=>wE d ρ aX fun dv kU=>oK (fun v=>K v kU) (j7 kU o kv dv)) False (NF σ1 o)
 | .len e,ρ,σ,K=>wE e ρ σ fun o σ1=>oK (fun xs=>K (.int xs.length) σ1) (uh σ1 o)
 | .pB e,ρ,σ,K=>wE e ρ σ fun o σ1=>oK (fun xs=>oK (fun ys=>K (.ref σ1.length) (σ1++[.list ys])) (sorted xs)) (ny σ1 o)
 | .tuple e,ρ,σ,K=>wE e ρ σ fun o σ1=>oK (fun xs=>K (.ak xs) σ1) (vA σ1 o)
 | .pX e,ρ,σ,K=>wE e ρ σ fun v σ1=>oK (fun t=>K t σ1) (yt v)
 | .isStr e,ρ,σ,K=>wE e ρ σ fun v σ1=>oK (fun t=>K t σ1) (Af v)
 | .bF op a b,ρ,σ,K=>wE a ρ σ fun x σ1=>wE b ρ σ1 fun y aX=>oK (fun v=>K v aX) (xH aX op x y)
 | .eW all es,ρ,σ,K=>wB all es ρ σ K
 | .not e,ρ,σ,K=>wC e ρ σ fun b σ1=>K (.bool !b) σ1
 | .ar op a b,ρ,σ,K=>wE a ρ σ fun x σ1=>wE b ρ σ1 fun y aX=>oK (fun v=>K v aX) (NR op x y)
 | .bO a i,ρ,σ,K=>wE a ρ σ fun x σ1=>wE i ρ σ1 fun y aX=>oK (fun v=>K v aX) (item aX x y)
 | .Gs a n,ρ,σ,K=>wE a ρ σ fun o σ1=>oK (fun Z=>K (.ref σ1.length) (σ1++[.list ((Q.z4.take n).map .int)])) (Ui o)
 | .jm a,ρ,σ,K=>wE a ρ σ fun o σ1=>oK (fun v=>K v σ1) (Ah o)
 | .ite t a b,ρ,σ,K=>wC t ρ σ fun t σ1=>bI (wE a ρ σ1 K) (wE b ρ σ1 K) t
 | .ak es,ρ,σ,K=>wL es ρ σ fun vs σ1=>K (.ak vs) σ1
 | .list es,ρ,σ,K=>wL es ρ σ fun vs σ1=>K (.ref σ1.length) (σ1++[.list vs])
 | .dict AY,ρ,σ,K=>wL AY ρ σ fun vs σ1=>oK (K (.ref σ1.length)) (kH vs (σ1++[.dict 0 []]) (.ref σ1.length))
 | .comp el tg it jb cond,ρ,σ,K=>wE it ρ σ fun s σ1=>oK (fun xs=>fq (fun vs aX=>K (.ref aX.length) (aX++[.list vs]))
   (compLoop (vp Q c el tg cond (ρ.filter fun e=>jb.contains e.1)) s (fX σ1 s) (xs.length+1) 0 σ1)) (ao σ1 s)
noncomputable def wL:List Ex->aO->H->(List V->H->Prop)->Prop
 |[],_,σ,K=>K [] σ
 |e::r,ρ,σ,K=>wE e ρ σ fun v σ1=>wL r ρ σ1 fun vs aX=>K (v::vs) aX
noncomputable def wB:Bool->List Ex->aO->H->(V->H->Prop)->Prop
 |_,[],_,_,_=>False
 |all,e::r,ρ,σ,K=>wE e ρ σ fun v σ1=>bI (K v σ1) (oK (fun b=>bI (wB all r ρ σ1 K) (K v σ1) (b==all)) (k9 σ1 v)) r.isEmpty
noncomputable def wC:Cd->aO->H->(Bool->H->Prop)->Prop
 | .ex e,ρ,σ,K=>wE e ρ σ fun v σ1=>oK (fun b=>K b σ1) (k9 σ1 v)
 | .not e,ρ,σ,K=>wC e ρ σ fun b σ1=>K (!b) σ1
 | .eW all es,ρ,σ,K=>wT all es ρ σ K
noncomputable def wT:Bool->List Cd->aO->H->(Bool->H->Prop)->Prop
 |all,[],_,σ,K=>K all σ
 |all,e::r,ρ,σ,K=>wC e ρ σ fun b σ1=>bI (wT all r ρ σ1 K) (K b σ1) (b==all)
end
noncomputable def vo(tg:List Nat)(body:List St):V->aO->H->Option (Fl×aO×H):=fun v ρ σ=>match cT tg v with
 |some b=>kW Q c body (b.reverse++ρ) σ
 | .none=>.none
noncomputable def wA:Tg->V->aO->H->(aO->H->Prop)->Prop
 | .nm x,v,ρ,σ,N=>N ((x,v)::ρ) σ
 | .ak xs,v,ρ,σ,N=>oK (fun cu=>N cu σ) (Ub xs v ρ)
 | .aq e a,v,ρ,σ,N=>wE Q c e ρ σ fun o σ1=>oK (N ρ) (lO Q.gI σ1 o a v)
 | .sub e k,v,ρ,σ,N=>wE Q c e ρ σ fun o σ1=>wE Q c k ρ σ1 fun kv aX=>oK (N ρ) (dD aX o kv v)
mutual
noncomputable def wS:St->aO->H->(aO->H->Prop)->(V->H->Prop)->Prop
 | .expr e,ρ,σ,N,_=>wE Q c e ρ σ fun Z σ1=>N ρ σ1
 | .aQ t e,ρ,σ,N,_=>wE Q c e ρ σ fun v σ1=>wA Q c t v ρ σ1 N
 | .sE e a op x,ρ,σ,N,_=>wE Q c e ρ σ fun o σ1=>oK (fun u=>wE Q c x ρ σ1 fun v aX=>oK (fun w=>oK (N ρ) (lO Q.gI aX o a w)) (sC op u v)) (nh σ1 o a)
 | .sD e k op x,ρ,σ,N,_=>wE Q c e ρ σ fun o σ1=>wE Q c k ρ σ1 fun kv aX=>oK (fun u=>wE Q c x ρ aX fun v kU=>oK (fun w=>oK (N ρ) (dD kU o kv w)) (sC op u v)) (item aX o kv)
 | .Gw,_,_,_,_=>False
 | .ifs t a b,ρ,σ,N,R=>wC Q c t ρ σ fun t σ1=>bI (YA a ρ σ1 N R) (YA b ρ σ1 N R) t
 | .Na x n body,ρ,σ,N,R=>jB N R (forLoop (fun v ρ σ=>kW Q c body ((x,v)::ρ) σ) (.ak ((List.range n).map fun i=>.int (Int.ofNat i))) 0 (n+1) 0 ρ σ)
 | .cY tg it body,ρ,σ,N,R=>wE Q c it ρ σ fun s σ1=>oK (fun xs=>jB N R (forLoop (vo Q c tg body) s (fX σ1 s) (xs.length+1) 0 ρ σ1)) (ao σ1 s)
 | .ret e,ρ,σ,_,R=>wE Q c e ρ σ R
 | .zH body fm,ρ,σ,N,R=>jB (fun cu σ1=>jB N (fun Z Z=>False) (kW Q c fm cu σ1)) (fun Z Z=>False) (kW Q c body ρ σ)
noncomputable def YA:List St->aO->H->(aO->H->Prop)->(V->H->Prop)->Prop
 |[],ρ,σ,N,_=>N ρ σ
 |s::r,ρ,σ,N,R=>wS s ρ σ (fun cu σ1=>YA r cu σ1 N R) R
end
end
section
variable{Q:b5}{c:Calls}
theorem fq.eF{α:Type}{K L:α->H->Prop}{r:Option (α×H)}(h:fq K r)(k:∀v σ,K v σ->L v σ):fq L r:=by cases h with|mk h=>exact .mk (k _ _ h)
theorem fq.vh{β:Type}{K:V->H->Prop}{L:β->H->Prop}{r:Option (V×H)}{f:V->H->Option (β×H)}(h:fq K r)(k:∀v σ,K v σ->fq L (f v σ)):fq L (match(generalizing:=false) r with|some (a,b)=>f a b|none=>none):=by cases h with|mk h=>exact k _ _ h
theorem fq.lh{β:Type}{K:List V->H->Prop}{L:β->H->Prop}{r:Option (List V×H)}{f:List V->H->Option (β×H)}(h:fq K r)(k:∀v σ,K v σ->fq L (f v σ)):fq L (match(generalizing:=false) r with|some (a,b)=>f a b|none=>none):=by cases h with|mk h=>exact k _ _ h
theorem fq.bh{β:Type}{K:Bool->H->Prop}{L:β->H->Prop}{r:Option (Bool×H)}{f:Bool->H->Option (β×H)}(h:fq K r)(k:∀v σ,K v σ->fq L (f v σ)):fq L (match(generalizing:=false) r with|some (a,b)=>f a b|none=>none):=by cases h with|mk h=>exact k _ _ h
theorem oK.Bo{β:Type}{K:V->Prop}{L:β->H->Prop}{r:Option (V)}{f:V->Option (β×H)}(h:oK K r)(k:∀v,K v->fq L (f v)):fq L (match(generalizing:=false) r with|some v=>f v|none=>none):=by
 cases r with
 |none=>exact h.elim
 |some v=>exact k v h
theorem oK.VB{β:Type}{K:H->Prop}{L:β->H->Prop}{r:Option (H)}{f:H->Option (β×H)}(h:oK K r)(k:∀v,K v->fq L (f v)):fq L (match(generalizing:=false) r with|some v=>f v|none=>none):=by
 cases r with
 |none=>exact h.elim
 |some v=>exact k v h
theorem oK.aha{β:Type}{K:Nat->Prop}{L:β->H->Prop}{r:Option (Nat)}{f:Nat->Option (β×H)}(h:oK K r)(k:∀v,K v->fq L (f v)):fq L (match(generalizing:=false) r with|some v=>f v|none=>none):=by
 cases r with
 |none=>exact h.elim
 |some v=>exact k v h
theorem oK.Jq{β:Type}{K:List V->Prop}{L:β->H->Prop}{r:Option (List V)}{f:List V->Option (β×H)}(h:oK K r)(k:∀v,K v->fq L (f v)):fq L (match(generalizing:=false) r with|some v=>f v|none=>none):=by
 cases r with
 |none=>exact h.elim
 |some v=>exact k v h
theorem oK.ab4{β:Type}{K:Bool->Prop}{L:β->H->Prop}{r:Option (Bool)}{f:Bool->Option (β×H)}(h:oK K r)(k:∀v,K v->fq L (f v)):fq L (match(generalizing:=false) r with|some v=>f v|none=>none):=by
 cases r with
 |none=>exact h.elim
 |some v=>exact k v h
theorem bI.IC{β:Type}{a b:Prop}{L:β->H->Prop}{x:Bool}{f g:Option (β×H)}(h:bI a b x)(k:a->fq L f)(k2:b->fq L g):fq L (if x=true then f else g):=by
 cases x
 ·exact k2 h
 ·exact k h
theorem wN.IC{cl:Nat}{vs:List V}{σ:H}{K:V->H->Prop}(h:wN Q c cl vs σ K):fq K (BB Q c cl vs σ):=by
 unfold wN at h;unfold BB
 generalize Q.pD cl=o at h⊢
 cases o with
 |none=>cases vs with
  |nil=>exact .mk h
  |cons=>exact h.elim
 |some f=>
  have h:fq _ (c f _ _):=h
  dsimp only
  generalize c f _ _=r at h⊢
  cases h with
  |mk h=>obtain⟨rfl,h⟩:=h;exact .mk h
end
section
variable{Q:b5}{c:Calls}
mutual
theorem bQ:∀(e:Ex) (ρ:aO) (σ:H) (K:V->H->Prop),wE Q c e ρ σ K->fq K (gK Q c e ρ σ)
 | .cst v,ρ,σ,K,h=>.mk h
 | .aC _ v,ρ,σ,K,h=>.mk h
 | .ah x,ρ,σ,K,h=>oK.Bo h fun v h=>.mk h
 | .aq e a,ρ,σ,K,h=>(bQ e ρ σ _ h).vh fun o σ1 h=>oK.Bo h fun v h=>.mk h
 | .call f es,ρ,σ,K,h=>(vn es ρ σ _ h).lh fun vs σ1 h=>h
 | .new f es,ρ,σ,K,h=>(vn es ρ σ _ h).lh fun vs σ1 h=>wN.IC h
 | .bM e m es,ρ,σ,K,h=>(bQ e ρ σ _ h).vh fun o σ1 h=>oK.aha h fun f h=>(vn es ρ σ1 _ h).lh fun vs σ1 h=>h
 | .rV e x,ρ,σ,K,h=>(bQ e ρ σ _ h).vh fun o σ1 h=>bI.IC h (fun h=>(bQ x ρ σ1 _ h).vh fun v aX h=>oK.VB h fun kU h=>.mk h) False.elim
 | .ext e x,ρ,σ,K,h=>(bQ e ρ σ _ h).vh fun o σ1 h=>bI.IC h (fun h=>(bQ x ρ σ1 _ h).vh fun v aX h=>oK.VB h fun kU h=>.mk h) False.elim
 | .sy e k d,ρ,σ,K,h=>(bQ e ρ σ _ h).vh fun o σ1 h=>bI.IC h (fun h=>(bQ k ρ σ1 _ h).vh fun v aX h=>(bQ d ρ aX _ h).vh fun v aX h=>oK.Bo h fun kU h=>.mk h) False.elim
 | .len e,ρ,σ,K,h=>(bQ e ρ σ _ h).vh fun o σ1 h=>oK.Jq h fun v h=>.mk h
 | .pB e,ρ,σ,K,h=>(bQ e ρ σ _ h).vh fun o σ1 h=>oK.Jq h fun v h=>oK.Jq h fun v h=>.mk h
 | .tuple e,ρ,σ,K,h=>(bQ e ρ σ _ h).vh fun o σ1 h=>oK.Jq h fun v h=>.mk h
 | .pX e,ρ,σ,K,h=>(bQ e ρ σ _ h).vh fun o σ1 h=>oK.Bo h fun v h=>.mk h
 | .isStr e,ρ,σ,K,h=>(bQ e ρ σ _ h).vh fun o σ1 h=>oK.Bo h fun v h=>.mk h
 | .bF op a b,ρ,σ,K,h=>(bQ a ρ σ _ h).vh fun o σ1 h=>(bQ b ρ σ1 _ h).vh fun o σ1 h=>oK.Bo h fun v h=>.mk h
 | .eW all es,ρ,σ,K,h=>Rs all es ρ σ K h
 | .not e,ρ,σ,K,h=>(yr e ρ σ _ h).bh fun o σ1 h=>.mk h
 | .ar op a b,ρ,σ,K,h=>(bQ a ρ σ _ h).vh fun o σ1 h=>(bQ b ρ σ1 _ h).vh fun o σ1 h=>oK.Bo h fun v h=>.mk h
 | .bO a b,ρ,σ,K,h=>(bQ a ρ σ _ h).vh fun o σ1 h=>(bQ b ρ σ1 _ h).vh fun o σ1 h=>oK.Bo h fun v h=>.mk h
 | .Gs a n,ρ,σ,K,h=>(bQ a ρ σ _ h).vh fun o σ1 h=>by cases o<;>first|exact h.elim|exact .mk h
 | .jm a,ρ,σ,K,h=>(bQ a ρ σ _ h).vh fun o σ1 h=>by
  cases o<;>first|exact h.elim|skip
  rename_i xs
  show fq K (if _ then _ else _)
  have h:oK _ (if _ then _ else _):=h
  split
  ·rename_i q
   rw[aI q]at h;exact .mk h
  ·rename_i q
   rw[aG q]at h;exact h.elim
 | .ite t a b,ρ,σ,K,h=>(yr t ρ σ _ h).bh fun o σ1 h=>bI.IC h (bQ a ρ σ1 K) (bQ b ρ σ1 K)
 | .ak es,ρ,σ,K,h=>(vn es ρ σ _ h).lh fun vs σ1 h=>.mk h
 | .list es,ρ,σ,K,h=>(vn es ρ σ _ h).lh fun vs σ1 h=>.mk h
 | .dict es,ρ,σ,K,h=>(vn es ρ σ _ h).lh fun vs σ1 h=>oK.VB h fun aX h=>.mk h
 | .comp el tg it jb cond,ρ,σ,K,h=>(bQ it ρ σ _ h).vh fun s σ1 h=>oK.Jq h fun xs h=>h.lh fun vs aX h=>.mk h
theorem vn:∀(es:List Ex) (ρ:aO) (σ:H) (K:List V->H->Prop),wL Q c es ρ σ K->fq K (zE Q c es ρ σ)
 |[],ρ,σ,K,h=>.mk h
 |e::r,ρ,σ,K,h=>(bQ e ρ σ _ h).vh fun v σ1 h=>(vn r ρ σ1 _ h).lh fun vs aX h=>.mk h
theorem Rs:∀(all:Bool) (es:List Ex) (ρ:aO) (σ:H) (K:V->H->Prop),wB Q c all es ρ σ K->fq K (evB Q c all es ρ σ)
 |all,[],ρ,σ,K,h=>False.elim h
 |all,e::r,ρ,σ,K,h=>(bQ e ρ σ _ h).vh fun v σ1 h=>bI.IC h (fun h=>.mk h) fun h=>oK.ab4 h fun b h=>bI.IC h (Rs all r ρ σ1 K) fun h=>.mk h
theorem yr:∀(e:Cd) (ρ:aO) (σ:H) (K:Bool->H->Prop),wC Q c e ρ σ K->fq K (TR Q c e ρ σ)
 | .ex e,ρ,σ,K,h=>(bQ e ρ σ _ h).vh fun v σ1 h=>oK.ab4 h fun v h=>.mk h
 | .not e,ρ,σ,K,h=>(yr e ρ σ _ h).bh fun v σ1 h=>.mk h
 | .eW all es,ρ,σ,K,h=>Rr all es ρ σ K h
theorem Rr:∀(all:Bool) (es:List Cd) (ρ:aO) (σ:H) (K:Bool->H->Prop),wT Q c all es ρ σ K->fq K (Nm Q c all es ρ σ)
 |all,[],ρ,σ,K,h=>.mk h
 |all,e::r,ρ,σ,K,h=>(yr e ρ σ _ h).bh fun v σ1 h=>bI.IC h (Rr all r ρ σ1 K) fun h=>.mk h
end
end
section
variable{Q:b5}{c:Calls}{N N1:aO->H->Prop}{R R1:V->H->Prop}
theorem fq.vl{K:V->H->Prop}{r:Option (V×H)}{f:V->H->Option (Fl×aO×H)}(h:fq K r)(k:∀v σ,K v σ->jB N R (f v σ)):jB N R (match(generalizing:=false) r with|some (a,b)=>f a b|none=>none):=by cases h with|mk h=>exact k _ _ h
theorem fq.bl{K:Bool->H->Prop}{r:Option (Bool×H)}{f:Bool->H->Option (Fl×aO×H)}(h:fq K r)(k:∀v σ,K v σ->jB N R (f v σ)):jB N R (match(generalizing:=false) r with|some (a,b)=>f a b|none=>none):=by cases h with|mk h=>exact k _ _ h
theorem oK.lV{K:V->Prop}{r:Option V}{f:V->Option (Fl×aO×H)}(h:oK K r)(k:∀v,K v->jB N R (f v)):jB N R (match(generalizing:=false) r with|some v=>f v|none=>none):=by
 cases r with
 |none=>exact h.elim
 |some v=>exact k v h
theorem oK.lH{K:H->Prop}{r:Option H}{f:H->Option (Fl×aO×H)}(h:oK K r)(k:∀v,K v->jB N R (f v)):jB N R (match(generalizing:=false) r with|some v=>f v|none=>none):=by
 cases r with
 |none=>exact h.elim
 |some v=>exact k v h
theorem oK.lL{K:List V->Prop}{r:Option (List V)}{f:List V->Option (Fl×aO×H)}(h:oK K r)(k:∀v,K v->jB N R (f v)):jB N R (match(generalizing:=false) r with|some v=>f v|none=>none):=by
 cases r with
 |none=>exact h.elim
 |some v=>exact k v h
inductive TX(N:aO->H->Prop):Option (aO×H)->Prop
 |mk {ρ:aO} {σ:H}:N ρ σ->TX N (some (ρ,σ))
theorem fq.va{K:V->H->Prop}{r:Option (V×H)}{f:V->H->Option (aO×H)}(h:fq K r)(k:∀v σ,K v σ->TX N (f v σ)):TX N (match(generalizing:=false) r with|some (a,b)=>f a b|none=>none):=by cases h with|mk h=>exact k _ _ h
theorem oK.aH{ρ:aO}{r:Option H}(h:oK (N ρ) r):TX N (match(generalizing:=false) r with|some v=>some (ρ,v)|none=>none):=by
 cases r with
 |none=>exact h.elim
 |some v=>exact .mk h
theorem acU{v:V}{ρ:aO}{σ:H}:∀{t:Tg},wA Q c t v ρ σ N->TX N (aQ Q c t v ρ σ)
 | .nm x,h=>.mk h
 | .ak xs,h=>by
  unfold wA Ub at h
  unfold aQ
  cases v with
  |ak vs=>
   dsimp only at h⊢
   split
   ·rename_i q
    rw[aI q]at h;exact .mk h
   ·rename_i q
    rw[aG q]at h;exact h.elim
  |_=>exact h.elim
 | .aq e a,h=>(bQ e ρ σ _ h).va fun o σ1 h=>oK.aH h
 | .sub e k,h=>(bQ e ρ σ _ h).va fun o σ1 h=>(bQ k ρ σ1 _ h).va fun o aX h=>oK.aH h
theorem TX.l{r:Option (aO×H)}(h:TX N r):jB N R (match(generalizing:=false) r with|some (a,b)=>some (.next,a,b)|none=>none):=by cases h with|mk h=>exact .next h
theorem bI.l{a b:Prop}{x:Bool}{f g:Option (Fl×aO×H)}(h:bI a b x)(k:a->jB N R f)(k2:b->jB N R g):jB N R (if x=true then f else g):=by
 cases x
 ·exact k2 h
 ·exact k h
theorem jB.seq{r:Option (Fl×aO×H)}{f:aO->H->Option (Fl×aO×H)}(h:jB N R r)(k:∀ρ σ,N ρ σ->jB N1 R (f ρ σ)):jB N1 R (match(generalizing:=false) r with|some (.next,a,b)=>f a b|some (.ret v,a,b)=>some (.ret v,a,b)|none=>none):=by
 cases h with
 |next h=>exact k _ _ h
 |ret h=>exact .ret h
set_option tactic.hygienic true in
mutual
theorem acT:∀(s:St) (ρ:aO) (σ:H) (N:aO->H->Prop) (R:V->H->Prop),wS Q c s ρ σ N R->jB N R (exS Q c s ρ σ)
 | .expr e,ρ,σ,N,R,h=>(bQ e ρ σ _ h).vl fun v σ1 h=>.next h
 | .aQ t e,ρ,σ,N,R,h=>(bQ e ρ σ _ h).vl fun v σ1 h=>(acU h).l
 | .sE e a op x,ρ,σ,N,R,h=>(bQ e ρ σ _ h).vl fun v σ1 h=>oK.lV h fun u h=>(bQ x ρ σ1 _ h).vl fun v aX h=>oK.lV h fun w h=>oK.lH h fun kU h=>.next h
 | .sD e k op x,ρ,σ,N,R,h=>(bQ e ρ σ _ h).vl fun v σ1 h=>(bQ k ρ σ1 _ h).vl fun kv aX h=>oK.lV h fun u h=>(bQ x ρ aX _ h).vl fun v aX h=>oK.lV h fun w h=>oK.lH h fun kU h=>.next h
 | .Gw,ρ,σ,N,R,h=>False.elim h
 | .ifs t a b,ρ,σ,N,R,h=>(yr t ρ σ _ h).bl fun x σ1 h=>bI.l h (kD a ρ σ1 N R) (kD b ρ σ1 N R)
 | .Na x n body,ρ,σ,N,R,h=>h
 | .cY tg it body,ρ,σ,N,R,h=>(bQ it ρ σ _ h).vl fun v σ1 h=>oK.lL h fun xs h=>h
 | .ret e,ρ,σ,N,R,h=>(bQ e ρ σ _ h).vl fun v σ1 h=>.ret h
 | .zH body fm,ρ,σ,N,R,h=>by
  show jB N R (match kW Q c body ρ σ with
   |some (f,cu,σ1)=>(match kW Q c fm cu σ1 with
    |some (.next,xD,aX)=>some (f,xD,aX)
    |_=>.none)
   | .none=>.none)
  have h1:jB _ _ _:=h
  generalize kW Q c body ρ σ=r at h1⊢
  cases h1 with
  |ret h1=>exact h1.elim
  |next h1=>
   rename_i cu σ1
   dsimp only
   generalize kW Q c fm cu σ1=r at h1⊢
   cases h1 with
   |ret h1=>exact h1.elim
   |next h1=>exact .next h1
theorem kD:∀(ss:List St) (ρ:aO) (σ:H) (N:aO->H->Prop) (R:V->H->Prop),YA Q c ss ρ σ N R->jB N R (kW Q c ss ρ σ)
 |[],ρ,σ,N,R,h=>.next h
 |s::r,ρ,σ,N,R,h=>(acT s ρ σ _ R h).seq fun cu σ1 h=>kD r cu σ1 N R h
end
end
section
variable{l:List Int}{d f:Nat}{fn:Fn}{vs:List V}{ρ:aO}{σ:H}{K:V->H->Prop}
theorem ZM(e:(P l).fn f=some fn)(b:Mine.bindL fn.params vs fn.j8=some ρ)(h:YA (P l) (bC (P l) d) fn.body ρ σ (fun Z aK=>K .none aK) K):fq K (bC (P l) (d+1) f vs σ):=by
 have h:=kD _ _ _ _ _ h
 rw[Ry,e]
 dsimp only
 rw[b]
 dsimp only
 generalize kW (P l) (bC (P l) d) fn.body ρ σ=r at h⊢
 cases h with
 |next h=>exact .mk h
 |ret h=>exact .mk h
theorem fq.eq{r:Option (V×H)}{v:V}(h:fq (fun x y=>x=v/\y=σ) r):r=some (v,σ):=by
 cases h with|mk h=>rw[h.1,h.2]
end
end
section
structure Ma where
 l:List Int
 d:Nat
 N:aO->H->Prop
 R:V->H->Prop
inductive Ac where
 |call (f:Nat)|new (cl:Nat)|ak|list|dict
inductive Fr where
 |aq (a:Nat)|arg (a:Ac) (es:List Ex) (vs:List V)|bM (m:Nat) (es:List Ex)
 |rV (x:Ex)|VG (o:V)|ext (x:Ex)|Vx (o:V)|dg (k d:Ex)|dg2 (o:V) (d:Ex)|dg3 (o k:V)
 |len|pB|tuple|pX|isStr|bF (op:Op) (b:Ex)|VA (op:Op) (x:V)|eW (all:Bool) (r:List Ex)|not
 |ar (op:Ar) (b:Ex)|ar2 (op:Ar) (x:V)|bO (i:Ex)|UP (x:V)|Gs (n:Nat)|jm|ite (a b:Ex)
 |comp (el:Ex) (tg:List Nat) (jb:List Nat) (cond:List Cd)|cex|Jo|zO (all:Bool) (r:List Cd)
 |drop (r:List St)|aQ (t:Tg) (r:List St)|VF (a:Nat) (v:V) (r:List St)|OI (k:Ex) (v:V) (r:List St)|Kf (o v:V) (r:List St)
 |sE (a:Nat) (op:Ar) (x:Ex) (r:List St)|E8 (o:V) (a:Nat) (op:Ar) (u:V) (r:List St)
 |sD (k:Ex) (op:Ar) (x:Ex) (r:List St)|Ka (o:V) (op:Ar) (x:Ex) (r:List St)|E7 (o kv:V) (op:Ar) (u:V) (r:List St)
 |ifs (a b r:List St)|cY (tg:List Nat) (body r:List St)|ret|seq (r:List St)|Nl (el:Ex)
inductive Cf where
 |e (x:Ex) (k:List Fr)|a (a:Ac) (es:List Ex) (vs:List V) (k:List Fr)|c (x:Cd) (k:List Fr)|v (v:V) (k:List Fr)|b (b:Bool) (k:List Fr)|s (ss:List St) (k:List Fr)
inductive Bg(p:Prop):Prop|mk:p->Bg p
theorem Bg.cz{p:Prop}(h:Bg p):p:=by cases h with|mk h=>exact h
noncomputable abbrev jw{α:Type}(K:α->Prop)(x:Option α):Prop:=Option.rec (motive:=fun Z=>Prop) False K x
noncomputable abbrev Gv(a b:Prop)(x:Bool):Prop:=Bool.rec (motive:=fun Z=>Prop) b a x
noncomputable def go:Nat->Ma->Cf->aO->H->Prop
 |0,_,_,_,_=>False
 |n+1,M,.e x k,ρ,σ=>match x with
  | .cst v=>go n M (.v v k) ρ σ
  | .aC _ v=>go n M (.v v k) ρ σ
  | .ah x=>jw (fun v=>go n M (.v v k) ρ σ) (ay x ρ)
  | .aq e a=>go n M (.e e (.aq a::k)) ρ σ
  | .call f es=>go n M (.a (.call f) es [] k) ρ σ
  | .new f es=>go n M (.a (.new f) es [] k) ρ σ
  | .bM e m es=>go n M (.e e (.bM m es::k)) ρ σ
  | .rV e x=>go n M (.e e (.rV x::k)) ρ σ
  | .ext e x=>go n M (.e e (.ext x::k)) ρ σ
  | .sy e kk d=>go n M (.e e (.dg kk d::k)) ρ σ
  | .len e=>go n M (.e e (.len::k)) ρ σ
  | .pB e=>go n M (.e e (.pB::k)) ρ σ
  | .tuple e=>go n M (.e e (.tuple::k)) ρ σ
  | .pX e=>go n M (.e e (.pX::k)) ρ σ
  | .isStr e=>go n M (.e e (.isStr::k)) ρ σ
  | .bF op a b=>go n M (.e a (.bF op b::k)) ρ σ
  | .eW all es=>(match es with|[]=>False|e::r=>go n M (.e e (.eW all r::k)) ρ σ)
  | .not c=>go n M (.c c (.not::k)) ρ σ
  | .ar op a b=>go n M (.e a (.ar op b::k)) ρ σ
  | .bO a i=>go n M (.e a (.bO i::k)) ρ σ
  | .Gs a m=>go n M (.e a (.Gs m::k)) ρ σ
  | .jm a=>go n M (.e a (.jm::k)) ρ σ
  | .ite t a b=>go n M (.c t (.ite a b::k)) ρ σ
  | .ak es=>go n M (.a .ak es [] k) ρ σ
  | .list es=>go n M (.a .list es [] k) ρ σ
  | .dict es=>go n M (.a .dict es [] k) ρ σ
  | .comp el tg it jb cond=>go n M (.e it (.comp el tg jb cond::k)) ρ σ
 |n+1,M,.a a es vs k,ρ,σ=>match es with
  |e::r=>go n M (.e e (.arg a r vs::k)) ρ σ
  |[]=>match a with
   | .call f=>fq (fun v aK=>go n M (.v v k) ρ aK) (bC (P M.l) M.d f vs.reverse σ)
   | .new cl=>Bg (wN (P M.l) (bC (P M.l) M.d) cl vs.reverse σ fun v aK=>go n M (.v v k) ρ aK)
   | .ak=>go n M (.v (.ak vs.reverse) k) ρ σ
   | .list=>Bg (go n M (.v (.ref σ.length) k) ρ (σ++[.list vs.reverse]))
   | .dict=>Bg (jw (fun aX=>go n M (.v (.ref σ.length) k) ρ aX) (kH vs.reverse (σ++[.dict 0 []]) (.ref σ.length)))
 |n+1,M,.c x k,ρ,σ=>match x with
  | .ex e=>go n M (.e e (.cex::k)) ρ σ
  | .not c=>go n M (.c c (.Jo::k)) ρ σ
  | .eW all cs=>(match cs with|[]=>go n M (.b all k) ρ σ|c::r=>go n M (.c c (.zO all r::k)) ρ σ)
 |n+1,M,.b b k,ρ,σ=>match k with
  | .Jo::k=>go n M (.b (!b) k) ρ σ
  | .zO all r::k=>(match r with|[]=>go n M (.b b k) ρ σ|c::r=>Gv (go n M (.c c (.zO all r::k)) ρ σ) (go n M (.b b k) ρ σ) (b==all))
  | .ifs a a2 r::k=>Gv (go n M (.s a (.seq r::k)) ρ σ) (go n M (.s a2 (.seq r::k)) ρ σ) b
  | .ite a a2::k=>Gv (go n M (.e a k) ρ σ) (go n M (.e a2 k) ρ σ) b
  | .not::k=>go n M (.v (.bool !b) k) ρ σ
  | .Nl el::_=>Gv (go n M (.e el []) ρ σ) (M.N ρ σ) b
  |_=>False
 |n+1,M,.v v k,ρ,σ=>match k with
  |[]=>M.R v σ
  |f::k=>match f with
   | .aq a=>jw (fun u=>go n M (.v u k) ρ σ) (nh σ v a)
   | .arg a es vs=>go n M (.a a es (v::vs) k) ρ σ
   | .bM m es=>jw (fun f=>go n M (.a (.call f) es [v] k) ρ σ) (iJ (P M.l) v m σ)
   | .rV x=>Gv (go n M (.e x (.VG v::k)) ρ σ) False (Gl σ v)
   | .VG o=>jw (fun aX=>go n M (.v .none k) ρ aX) (push σ o v)
   | .ext x=>Gv (go n M (.e x (.Vx v::k)) ρ σ) False (Gl σ v)
   | .Vx o=>jw (fun aX=>go n M (.v .none k) ρ aX) (lZ σ o v)
   | .dg kk d=>Gv (go n M (.e kk (.dg2 v d::k)) ρ σ) False (NF σ v)
   | .dg2 o d=>go n M (.e d (.dg3 o v::k)) ρ σ
   | .dg3 o kv=>jw (fun u=>go n M (.v u k) ρ σ) (j7 σ o kv v)
   | .len=>jw (fun xs=>go n M (.v (.int xs.length) k) ρ σ) (uh σ v)
   | .pB=>jw (fun xs=>jw (fun ys=>Bg (go n M (.v (.ref σ.length) k) ρ (σ++[.list ys]))) (sorted xs)) (ny σ v)
   | .tuple=>jw (fun xs=>go n M (.v (.ak xs) k) ρ σ) (vA σ v)
   | .pX=>jw (fun u=>go n M (.v u k) ρ σ) (yt v)
   | .isStr=>jw (fun u=>go n M (.v u k) ρ σ) (Af v)
   | .bF op b=>go n M (.e b (.VA op v::k)) ρ σ
   | .VA op x=>jw (fun u=>go n M (.v u k) ρ σ) (xH σ op x v)
   | .eW all r=>(match r with|[]=>go n M (.v v k) ρ σ|e::r=>jw (fun b=>Gv (go n M (.e e (.eW all r::k)) ρ σ) (go n M (.v v k) ρ σ) (b==all)) (k9 σ v))
   | .ar op b=>go n M (.e b (.ar2 op v::k)) ρ σ
   | .ar2 op x=>jw (fun u=>go n M (.v u k) ρ σ) (NR op x v)
   | .bO i=>go n M (.e i (.UP v::k)) ρ σ
   | .UP x=>jw (fun u=>go n M (.v u k) ρ σ) (item σ x v)
   | .Gs m=>jw (fun Z=>Bg (go n M (.v (.ref σ.length) k) ρ (σ++[.list ((M.l.take m).map .int)]))) (Ui v)
   | .jm=>jw (fun u=>go n M (.v u k) ρ σ) (Ah v)
   | .comp el tg jb cond=>jw (fun xs=>fq (fun vs aX=>go n M (.v (.ref aX.length) k) ρ (aX++[.list vs])) (compLoop (vp (P M.l) (bC (P M.l) M.d) el tg cond (ρ.filter fun e=>jb.contains e.1)) v (fX σ v) (xs.length+1) 0 σ)) (ao σ v)
   | .cex=>jw (fun b=>go n M (.b b k) ρ σ) (k9 σ v)
   | .drop r=>go n M (.s r k) ρ σ
   | .aQ t r=>(match t with
    | .nm x=>go n M (.s r k) ((x,v)::ρ) σ
    | .ak xs=>jw (fun cu=>go n M (.s r k) cu σ) (Ub xs v ρ)
    | .aq e a=>go n M (.e e (.VF a v r::k)) ρ σ
    | .sub e kk=>go n M (.e e (.OI kk v r::k)) ρ σ)
   | .VF a u r=>jw (fun aX=>go n M (.s r k) ρ aX) (lO (P M.l).gI σ v a u)
   | .OI kk u r=>go n M (.e kk (.Kf v u r::k)) ρ σ
   | .Kf o u r=>jw (fun aX=>go n M (.s r k) ρ aX) (dD σ o v u)
   | .sE a op x r=>jw (fun u=>go n M (.e x (.E8 v a op u r::k)) ρ σ) (nh σ v a)
   | .E8 o a op u r=>jw (fun w=>jw (fun aX=>go n M (.s r k) ρ aX) (lO (P M.l).gI σ o a w)) (sC op u v)
   | .sD kk op x r=>go n M (.e kk (.Ka v op x r::k)) ρ σ
   | .Ka o op x r=>jw (fun u=>go n M (.e x (.E7 o v op u r::k)) ρ σ) (item σ o v)
   | .E7 o kv op u r=>jw (fun w=>jw (fun aX=>go n M (.s r k) ρ aX) (dD σ o kv w)) (sC op u v)
   | .cY tg body r=>jw (fun xs=>jB (fun be aK=>go n M (.s r k) be aK) M.R (forLoop (vo (P M.l) (bC (P M.l) M.d) tg body) v (fX σ v) (xs.length+1) 0 ρ σ)) (ao σ v)
   | .ret=>M.R v σ
   |_=>False
 |n+1,M,.s ss k,ρ,σ=>match ss with
  |[]=>(match k with
   |[]=>M.N ρ σ
   | .seq r::k=>go n M (.s r k) ρ σ
   |_=>False)
  |s::r=>match s with
   | .expr e=>go n M (.e e (.drop r::k)) ρ σ
   | .aQ t e=>go n M (.e e (.aQ t r::k)) ρ σ
   | .sE e a op x=>go n M (.e e (.sE a op x r::k)) ρ σ
   | .sD e kk op x=>go n M (.e e (.sD kk op x r::k)) ρ σ
   | .Gw=>False
   | .ifs t a b=>go n M (.c t (.ifs a b r::k)) ρ σ
   | .Na x m body=>jB (fun be aK=>go n M (.s r k) be aK) M.R (forLoop (fun v ρ σ=>kW (P M.l) (bC (P M.l) M.d) body ((x,v)::ρ) σ) (.ak ((List.range m).map fun i=>.int (Int.ofNat i))) 0 (m+1) 0 ρ σ)
   | .cY tg it body=>go n M (.e it (.cY tg body r::k)) ρ σ
   | .ret e=>go n M (.e e (.ret::k)) ρ σ
   | .zH body fm=>go n ⟨M.l,M.d,fun cu σ1=>go n ⟨M.l,M.d,fun xD aX=>go n M (.s r k) xD aX,fun Z Z=>False⟩ (.s fm []) cu σ1,fun Z Z=>False⟩ (.s body []) ρ σ
noncomputable def dA(M:Ma)(a:Ac)(xs:List V)(σ:H)(K:V->H->Prop):Prop:=match a with
 | .call f=>fq K (bC (P M.l) M.d f xs σ)
 | .new cl=>wN (P M.l) (bC (P M.l) M.d) cl xs σ K
 | .ak=>K (.ak xs) σ
 | .list=>K (.ref σ.length) (σ++[.list xs])
 | .dict=>oK (K (.ref σ.length)) (kH xs (σ++[.dict 0 []]) (.ref σ.length))
section
variable(M:Ma)
noncomputable abbrev mE:=wE (P M.l) (bC (P M.l) M.d)
noncomputable abbrev mL:=wL (P M.l) (bC (P M.l) M.d)
noncomputable abbrev mC:=wC (P M.l) (bC (P M.l) M.d)
noncomputable abbrev mS:=YA (P M.l) (bC (P M.l) M.d)
noncomputable def dS:List Fr->aO->H->Prop
 |[],ρ,σ=>M.N ρ σ
 | .seq r::k,ρ,σ=>mS M r ρ σ (dS k) M.R
 |_,_,_=>False
mutual
noncomputable def dB:List Fr->aO->Bool->H->Prop
 | .Jo::k,ρ,b,σ=>dB k ρ (!b) σ
 | .zO all r::k,ρ,b,σ=>bI (wT (P M.l) (bC (P M.l) M.d) all r ρ σ (dB k ρ)) (dB k ρ b σ) (b==all)
 | .ifs a a2 r::k,ρ,b,σ=>bI (mS M a ρ σ (fun cu σ1=>mS M r cu σ1 (dS M k) M.R) M.R) (mS M a2 ρ σ (fun cu σ1=>mS M r cu σ1 (dS M k) M.R) M.R) b
 | .ite a a2::k,ρ,b,σ=>bI (mE M a ρ σ (dV k ρ)) (mE M a2 ρ σ (dV k ρ)) b
 | .not::k,ρ,b,σ=>dV k ρ (.bool !b) σ
 | .Nl el::_,ρ,b,σ=>bI (mE M el ρ σ M.R) (M.N ρ σ) b
 |_,_,_,_=>False
noncomputable def dV:List Fr->aO->V->H->Prop
 |[],ρ,v,σ=>M.R v σ
 | .aq a::k,ρ,v,σ=>oK (fun u=>dV k ρ u σ) (nh σ v a)
 | .arg a es vs::k,ρ,v,σ=>mL M es ρ σ fun us σ1=>dA M a (vs.reverse++v::us) σ1 (dV k ρ)
 | .bM m es::k,ρ,v,σ=>oK (fun f=>mL M es ρ σ fun us σ1=>fq (dV k ρ) (bC (P M.l) M.d f (v::us) σ1)) (iJ (P M.l) v m σ)
 | .rV x::k,ρ,v,σ=>bI (mE M x ρ σ fun u σ1=>oK (dV k ρ .none) (push σ1 v u)) False (Gl σ v)
 | .VG o::k,ρ,v,σ=>oK (dV k ρ .none) (push σ o v)
 | .ext x::k,ρ,v,σ=>bI (mE M x ρ σ fun u σ1=>oK (dV k ρ .none) (lZ σ1 v u)) False (Gl σ v)
 | .Vx o::k,ρ,v,σ=>oK (dV k ρ .none) (lZ σ o v)
 | .dg kk d::k,ρ,v,σ=>bI (mE M kk ρ σ fun kv σ1=>mE M d ρ σ1 fun dv aX=>oK (fun u=>dV k ρ u aX) (j7 aX v kv dv)) False (NF σ v)
 | .dg2 o d::k,ρ,v,σ=>mE M d ρ σ fun dv aX=>oK (fun u=>dV k ρ u aX) (j7 aX o v dv)
 | .dg3 o kv::k,ρ,v,σ=>oK (fun u=>dV k ρ u σ) (j7 σ o kv v)
 | .len::k,ρ,v,σ=>oK (fun xs=>dV k ρ (.int xs.length) σ) (uh σ v)
 | .pB::k,ρ,v,σ=>oK (fun xs=>oK (fun ys=>dV k ρ (.ref σ.length) (σ++[.list ys])) (sorted xs)) (ny σ v)
 | .tuple::k,ρ,v,σ=>oK (fun xs=>dV k ρ (.ak xs) σ) (vA σ v)
 | .pX::k,ρ,v,σ=>oK (fun u=>dV k ρ u σ) (yt v)
 | .isStr::k,ρ,v,σ=>oK (fun u=>dV k ρ u σ) (Af v)
 | .bF op b::k,ρ,v,σ=>mE M b ρ σ fun y aX=>oK (fun u=>dV k ρ u aX) (xH aX op v y)
 | .VA op x::k,ρ,v,σ=>oK (fun u=>dV k ρ u σ) (xH σ op x v)
 | .eW all r::k,ρ,v,σ=>bI (dV k ρ v σ) (oK (fun b=>bI (wB (P M.l) (bC (P M.l) M.d) all r ρ σ (dV k ρ)) (dV k ρ v σ) (b==all)) (k9 σ v)) r.isEmpty
 | .ar op b::k,ρ,v,σ=>mE M b ρ σ fun y aX=>oK (fun u=>dV k ρ u aX) (NR op v y)
 | .ar2 op x::k,ρ,v,σ=>oK (fun u=>dV k ρ u σ) (NR op x v)
 | .bO b::k,ρ,v,σ=>mE M b ρ σ fun y aX=>oK (fun u=>dV k ρ u aX) (item aX v y)
 | .UP x::k,ρ,v,σ=>oK (fun u=>dV k ρ u σ) (item σ x v)
 | .Gs m::k,ρ,v,σ=>oK (fun Z=>dV k ρ (.ref σ.length) (σ++[.list ((M.l.take m).map .int)])) (Ui v)
 | .jm::k,ρ,v,σ=>oK (fun u=>dV k ρ u σ) (Ah v)
 | .comp el tg jb cond::k,ρ,v,σ=>oK (fun xs=>fq (fun vs aX=>dV k ρ (.ref aX.length) (aX++[.list vs])) (compLoop (vp (P M.l) (bC (P M.l) M.d) el tg cond (ρ.filter fun e=>jb.contains e.1)) v (fX σ v) (xs.length+1) 0 σ)) (ao σ v)
 | .cex::k,ρ,v,σ=>oK (fun b=>dB k ρ b σ) (k9 σ v)
 | .drop r::k,ρ,v,σ=>mS M r ρ σ (dS M k) M.R
 | .aQ t r::k,ρ,v,σ=>wA (P M.l) (bC (P M.l) M.d) t v ρ σ fun cu σ1=>mS M r cu σ1 (dS M k) M.R
 | .VF a u r::k,ρ,v,σ=>oK (fun σ1=>mS M r ρ σ1 (dS M k) M.R) (lO (P M.l).gI σ v a u)
 | .OI kk u r::k,ρ,v,σ=>mE M kk ρ σ fun kv aX=>oK (fun σ1=>mS M r ρ σ1 (dS M k) M.R) (dD aX v kv u)
 | .Kf o u r::k,ρ,v,σ=>oK (fun σ1=>mS M r ρ σ1 (dS M k) M.R) (dD σ o v u)
 | .sE a op x r::k,ρ,v,σ=>oK (fun u=>mE M x ρ σ fun y aX=>oK (fun w=>oK (fun σ1=>mS M r ρ σ1 (dS M k) M.R) (lO (P M.l).gI aX v a w)) (sC op u y)) (nh σ v a)
 | .E8 o a op u r::k,ρ,v,σ=>oK (fun w=>oK (fun σ1=>mS M r ρ σ1 (dS M k) M.R) (lO (P M.l).gI σ o a w)) (sC op u v)
 | .sD kk op x r::k,ρ,v,σ=>mE M kk ρ σ fun kv aX=>oK (fun u=>mE M x ρ aX fun y kU=>oK (fun w=>oK (fun σ1=>mS M r ρ σ1 (dS M k) M.R) (dD kU v kv w)) (sC op u y)) (item aX v kv)
 | .Ka o op x r::k,ρ,v,σ=>oK (fun u=>mE M x ρ σ fun y kU=>oK (fun w=>oK (fun σ1=>mS M r ρ σ1 (dS M k) M.R) (dD kU o v w)) (sC op u y)) (item σ o v)
 | .E7 o kv op u r::k,ρ,v,σ=>oK (fun w=>oK (fun σ1=>mS M r ρ σ1 (dS M k) M.R) (dD σ o kv w)) (sC op u v)
 | .cY tg body r::k,ρ,v,σ=>oK (fun xs=>jB (fun cu σ1=>mS M r cu σ1 (dS M k) M.R) M.R (forLoop (vo (P M.l) (bC (P M.l) M.d) tg body) v (fX σ v) (xs.length+1) 0 ρ σ)) (ao σ v)
 | .ret::_,ρ,v,σ=>M.R v σ
 |_,_,_,_=>False
end
end
noncomputable def acO(M:Ma):Cf->aO->H->Prop
 | .e x k,ρ,σ=>mE M x ρ σ (dV M k ρ)
 | .a a es vs k,ρ,σ=>mL M es ρ σ fun us σ1=>dA M a (vs.reverse++us) σ1 (dV M k ρ)
 | .c x k,ρ,σ=>mC M x ρ σ (dB M k ρ)
 | .v v k,ρ,σ=>dV M k ρ v σ
 | .b b k,ρ,σ=>dB M k ρ b σ
 | .s ss k,ρ,σ=>mS M ss ρ σ (dS M k) M.R
theorem oK.eF{α:Type}{K L:α->Prop}{x:Option α}(h:jw K x)(k:∀v,K v->L v):oK L x:=by
 cases x with
 |none=>exact h
 |some v=>exact k v h
theorem bI.eF{a b c d:Prop}{x:Bool}(h:Gv a b x)(k:a->c)(k2:b->d):bI c d x:=by
 cases x
 ·exact k2 h
 ·exact k h
theorem jB.eF{N N1:aO->H->Prop}{R:V->H->Prop}{r:Option (Fl×aO×H)}(h:jB N R r)(k:∀ρ σ,N ρ σ->N1 ρ σ):jB N1 R r:=by
 cases h with
 |next h=>exact .next (k _ _ h)
 |ret h=>exact .ret h
theorem wN.eF{Q:b5}{c:Calls}{cl:Nat}{vs:List V}{σ:H}{K L:V->H->Prop}(h:wN Q c cl vs σ K)(k:∀v σ,K v σ->L v σ):wN Q c cl vs σ L:=by
 unfold wN at h⊢
 generalize Q.pD cl=o at h⊢
 cases o with
 |none=>cases vs with
  |nil=>exact k _ _ h
  |cons=>exact h
 |some f=>exact fq.eF h fun v σ h=>⟨h.1,k _ _ h.2⟩
theorem qX:∀(n:Nat) (M:Ma) (cf:Cf) (ρ:aO) (σ:H),go n M cf ρ σ->acO M cf ρ σ:=by
 intro n
 induction n with
 |zero=>exact fun Z Z Z Z h=>h.elim
 |succ n ih=>
  intro M cf ρ σ h
  cases cf with
  |e x k=>
   cases x with
   |ah x=>exact oK.eF h fun v h=>(ih _ _ _ _ h:)
   |eW all es=>cases es with
    |nil=>exact h
    |cons e r=>exact(ih _ _ _ _ h:)
   |_=>exact(ih _ _ _ _ h:)
  |a a es vs k=>cases es with
   |cons e r=>exact(ih _ _ _ _ h:)
   |nil=>
    show dA M a (vs.reverse++[]) σ _
    rw[lU]
    cases a with
    |call f=>exact fq.eF h fun v σ h=>(ih _ _ _ _ h:)
    |new f=>exact wN.eF (K:=fun v aK=>go n M (.v v k) ρ aK) (Bg.cz h) fun v σ h=>(ih _ _ _ _ h:)
    |list=>exact(ih _ _ _ _ (Bg.cz h):)
    |dict=>exact oK.eF (Bg.cz h) fun v h=>(ih _ _ _ _ h:)
    |_=>exact(ih _ _ _ _ h:)
  |c x k=>cases x with
   |eW all cs=>cases cs with
    |nil=>exact(ih _ _ _ _ h:)
    |cons e r=>exact(ih _ _ _ _ h:)
   |_=>exact(ih _ _ _ _ h:)
  |b b k=>cases k with
   |nil=>exact h
   |cons f k=>cases f with
    |Jo=>exact(ih _ _ _ _ h:)
    |not=>exact(ih _ _ _ _ h:)
    |zO all r=>cases r with
     |nil=>
      have h2:=(ih _ _ _ _ h:)
      clear h
      cases all<;>cases b<;>exact h2
     |cons c r=>exact bI.eF h (ih _ _ _ _) (ih _ _ _ _)
    |ifs a a2 r=>exact bI.eF h (ih _ _ _ _) (ih _ _ _ _)
    |ite a a2=>exact bI.eF h (ih _ _ _ _) (ih _ _ _ _)
    |Nl el=>exact bI.eF h (fun h=>(ih _ _ _ _ h:)) id
    |_=>exact h
  |s ss k=>cases ss with
   |nil=>cases k with
    |nil=>exact h
    |cons f k=>cases f with
     |seq r=>exact(ih _ _ _ _ h:)
     |_=>exact h
   |cons s r=>cases s with
    |Gw=>exact h
    |Na x m body=>exact jB.eF h fun ρ σ h=>(ih _ _ _ _ h:)
    |zH body fm=>exact jB.eF (kD _ _ _ _ _ (ih _ _ _ _ h:)) fun ρ σ h=>jB.eF (kD _ _ _ _ _ (ih _ _ _ _ h:)) fun ρ σ h=>(ih _ _ _ _ h:)
    |_=>exact(ih _ _ _ _ h:)
  |v v k=>cases k with
   |nil=>exact h
   |cons f k=>cases f with
    |arg a es vs=>
     have h:=(ih _ _ _ _ h:)
     show mL M es ρ σ fun us σ1=>dA M a (vs.reverse++v::us) σ1 _
     simpa[acO]using h
    |aq a=>exact oK.eF h fun v h=>(ih _ _ _ _ h:)
    |bM m es=>exact oK.eF h fun v h=>(ih _ _ _ _ h:)
    |rV x=>exact bI.eF h (fun h=>(ih _ _ _ _ h:)) id
    |ext x=>exact bI.eF h (fun h=>(ih _ _ _ _ h:)) id
    |dg x d=>exact bI.eF h (fun h=>(ih _ _ _ _ h:)) id
    |dg2 x d=>exact(ih _ _ _ _ h:)
    |bF op b=>exact(ih _ _ _ _ h:)
    |ar op b=>exact(ih _ _ _ _ h:)
    |bO b=>exact(ih _ _ _ _ h:)
    |drop b=>exact(ih _ _ _ _ h:)
    |OI kk u r=>exact(ih _ _ _ _ h:)
    |sD kk op x r=>exact(ih _ _ _ _ h:)
    |pB=>exact oK.eF h fun v h=>oK.eF h fun v h=>(ih _ _ _ _ (Bg.cz h):)
    |Gs=>exact oK.eF h fun v h=>(ih _ _ _ _ (Bg.cz h):)
    |E8=>exact oK.eF h fun v h=>oK.eF h fun v h=>(ih _ _ _ _ h:)
    |E7=>exact oK.eF h fun v h=>oK.eF h fun v h=>(ih _ _ _ _ h:)
    |eW all r=>cases r with
     |nil=>exact(ih _ _ _ _ h:)
     |cons e r=>exact oK.eF h fun v h=>bI.eF h (fun h=>(ih _ _ _ _ h:)) fun h=>(ih _ _ _ _ h:)
    |comp=>exact oK.eF h fun v h=>fq.eF h fun v σ h=>(ih _ _ _ _ h:)
    |aQ t r=>cases t with
     |ak xs=>exact oK.eF h fun v h=>(ih _ _ _ _ h:)
     |_=>exact(ih _ _ _ _ h:)
    |cY=>exact oK.eF h fun v h=>jB.eF h fun ρ σ h=>(ih _ _ _ _ h:)
    |ret=>exact h
    |ifs=>exact h
    |ite=>exact h
    |Jo=>exact h
    |not=>exact h
    |zO=>exact h
    |seq=>exact h
    |Nl=>exact h
    |_=>exact oK.eF h fun v h=>(ih _ _ _ _ h:)
section
variable{M:Ma}{n:Nat}{k:List Fr}{ρ:aO}{σ:H}
noncomputable abbrev Rt(M:Ma)(n:Nat)(k:List Fr)(ρ:aO)(v:V)(σ:H):Prop:=go n M (.v v k) ρ σ
noncomputable def Cl(M:Ma)(n:Nat)(k:List Fr)(ρ:aO)(r:Option (V×H)):Prop:=fq (fun v aK=>go n M (.v v k) ρ aK) r
noncomputable def oV(M:Ma)(n:Nat)(k:List Fr)(ρ:aO)(σ:H)(x:Option V):Prop:=jw (fun v=>go n M (.v v k) ρ σ) x
noncomputable def oB(M:Ma)(n:Nat)(k:List Fr)(ρ:aO)(σ:H)(x:Option Bool):Prop:=jw (fun v=>go n M (.b v k) ρ σ) x
noncomputable def oH(M:Ma)(n:Nat)(ss:List St)(k:List Fr)(ρ:aO)(x:Option H):Prop:=jw (fun σ=>go n M (.s ss k) ρ σ) x
noncomputable def oU(M:Ma)(n:Nat)(v:V)(k:List Fr)(ρ:aO)(x:Option H):Prop:=jw (fun σ=>go n M (.v v k) ρ σ) x
noncomputable def iS(M:Ma)(n:Nat)(a b:List St)(k:List Fr)(ρ:aO)(σ:H)(x:Bool):Prop:=Gv (go n M (.s a k) ρ σ) (go n M (.s b k) ρ σ) x
noncomputable def oA(M:Ma)(n:Nat)(k:List Fr)(ρ:aO)(σ:H)(o:Ob):Prop:=Bg (go n M (.v (.ref σ.length) k) ρ (σ++[o]))
noncomputable def oC(M:Ma)(n:Nat)(k:List Fr)(ρ:aO)(r:Option (List V×H)):Prop:=fq (fun vs aX=>go n M (.v (.ref aX.length) k) ρ (aX++[.list vs])) r
noncomputable def oD(M:Ma)(n:Nat)(k:List Fr)(ρ:aO)(σ:H)(xs:List V):Prop:=Bg (jw (fun aX=>go n M (.v (.ref σ.length) k) ρ aX) (kH xs (σ++[.dict 0 []]) (.ref σ.length)))
noncomputable def oN(M:Ma)(n:Nat)(k:List Fr)(ρ:aO)(σ:H)(cl:Nat)(xs:List V):Prop:=Bg (wN (P M.l) (bC (P M.l) M.d) cl xs σ fun v aK=>go n M (.v v k) ρ aK)
noncomputable def oL(M:Ma)(n:Nat)(r:List St)(k:List Fr)(x:Option (Fl×aO×H)):Prop:=jB (fun be aK=>go n M (.s r k) be aK) M.R x
noncomputable def oX(M:Ma)(n:Nat)(k:List Fr)(ρ:aO)(σ:H)(x:Option (List V)):Prop:=jw (fun xs=>go n M (.v (.int xs.length) k) ρ σ) x
noncomputable def oY(M:Ma)(n:Nat)(k:List Fr)(ρ:aO)(σ:H)(x:Option (List V)):Prop:=jw (fun xs=>go n M (.v (.ak xs) k) ρ σ) x
noncomputable def oZ(M:Ma)(n:Nat)(k:List Fr)(ρ:aO)(σ:H)(x:Option (List V)):Prop:=jw (fun xs=>jw (fun ys=>Bg (go n M (.v (.ref σ.length) k) ρ (σ++[.list ys]))) (sorted xs)) x
noncomputable def oW(M:Ma)(n:Nat)(es:List Ex)(v:V)(k:List Fr)(ρ:aO)(σ:H)(x:Option Nat):Prop:=jw (fun f=>go n M (.a (.call f) es [v] k) ρ σ) x
theorem gX{x:Option (List V)}{xs:List V}(h:x=some xs)(g:go n M (.v (.int xs.length) k) ρ σ):oX M n k ρ σ x:=h▸g
theorem gY{x:Option (List V)}{xs:List V}(h:x=some xs)(g:go n M (.v (.ak xs) k) ρ σ):oY M n k ρ σ x:=h▸g
theorem gZ{x:Option (List V)}{xs ys:List V}(h:x=some xs)(h2:sorted xs=some ys)(g:oA M n k ρ σ (.list ys)):oZ M n k ρ σ x:=by
 subst h
 show jw _ (sorted xs)
 rw[h2];exact g
theorem gW{es:List Ex}{v:V}{x:Option Nat}{f:Nat}(h:x=some f)(g:go n M (.a (.call f) es [v] k) ρ σ):oW M n es v k ρ σ x:=h▸g
noncomputable def oJ(M:Ma)(n:Nat)(x:Ex)(k:List Fr)(ρ:aO)(σ:H)(b:Bool):Prop:=Gv (go n M (.e x k) ρ σ) False b
theorem gJ{x:Ex}{b:Bool}(h:b=true)(g:go n M (.e x k) ρ σ):oJ M n x k ρ σ b:=h▸g
noncomputable def iC(M:Ma)(n:Nat)(c:Cd)(all b:Bool)(r:List Cd)(k:List Fr)(ρ:aO)(σ:H)(x:Bool):Prop:=Gv (go n M (.c c (.zO all r::k)) ρ σ) (go n M (.b b k) ρ σ) x
theorem Rj{c:Cd}{all b:Bool}{r:List Cd}{x:Bool}(h:x=true)(g:go n M (.c c (.zO all r::k)) ρ σ):iC M n c all b r k ρ σ x:=h▸g
theorem NO{c:Cd}{all b:Bool}{r:List Cd}{x:Bool}(h:x=false)(g:go n M (.b b k) ρ σ):iC M n c all b r k ρ σ x:=h▸g
noncomputable def oQ(M:Ma)(n:Nat)(o:V)(a:Nat)(r:List St)(k:List Fr)(ρ:aO)(σ:H)(x:Option V):Prop:=jw (fun w=>jw (fun aX=>go n M (.s r k) ρ aX) (lO (P M.l).gI σ o a w)) x
theorem gQ{aX:H}{o w:V}{a:Nat}{r:List St}{x:Option V}(h:x=some w)(h2:lO (P M.l).gI σ o a w=some aX)(g:go n M (.s r k) ρ aX):oQ M n o a r k ρ σ x:=by
 subst h
 show jw _ (lO _ _ _ _ _)
 rw[h2];exact g
theorem gC{r:Option (V×H)}{v:V}(h:r=some (v,σ))(g:go n M (.v v k) ρ σ):Cl M n k ρ r:=h▸ .mk g
theorem gV{x:Option V}{v:V}(h:x=some v)(g:go n M (.v v k) ρ σ):oV M n k ρ σ x:=h▸g
theorem gB{x:Option Bool}{v:Bool}(h:x=some v)(g:go n M (.b v k) ρ σ):oB M n k ρ σ x:=h▸g
theorem gH{ss:List St}{x:Option H}(h:x=some σ)(g:go n M (.s ss k) ρ σ):oH M n ss k ρ x:=h▸g
theorem gU{v:V}{x:Option H}(h:x=some σ)(g:go n M (.v v k) ρ σ):oU M n v k ρ x:=h▸g
theorem gT{a b:List St}{x:Bool}(h:x=true)(g:go n M (.s a k) ρ σ):iS M n a b k ρ σ x:=h▸g
theorem gF{a b:List St}{x:Bool}(h:x=false)(g:go n M (.s b k) ρ σ):iS M n a b k ρ σ x:=h▸g
variable{w:W}{r:H}
theorem gA{o:Ob}(g:∀r' i,r<+:r'->r'[i]? =some o->go n M (.v (.ref (95+i)) k) ρ (heap w r')):oA M n k ρ (heap w r) o:=by
 refine .mk ?_
 rw[nR,CH]
 exact g _ _ ⟨_,rfl⟩ (by simp)
variable{l:List Int}{d f:Nat}{fn:Fn}{vs:List V}{ρ0:aO}
theorem Rn(e:(P l).fn f=some fn)(b:Mine.bindL fn.params vs fn.j8=some ρ0)
  (h:∀N R,(∀be aK,go n M (.v .none k) ρ aK->N be aK)->(∀v aK,go n M (.v v k) ρ aK->R v aK)->go 1000 ⟨l,d,N,R⟩ (.s fn.body []) ρ0 σ):Cl M n k ρ (bC (P l) (d+1) f vs σ):=
 ZM (K:=fun v aK=>go n M (.v v k) ρ aK) e b (qX _ _ _ _ _ (h (fun Z aK=>go n M (.v .none k) ρ aK) (fun v aK=>go n M (.v v k) ρ aK) (fun Z Z h=>h) fun Z Z h=>h))
theorem YT{v:V}{σ1:H}(e:(P l).fn f=some fn)(b:Mine.bindL fn.params vs fn.j8=some ρ0)
  (h:∀N R,(v=.none->∀be,N be σ1)->R v σ1->go 1000 ⟨l,d,N,R⟩ (.s fn.body []) ρ0 σ):bC (P l) (d+1) f vs σ=some (v,σ1):=
 fq.eq (ZM e b (qX _ _ _ _ _ (h (fun Z aK=>V.none=v/\aK=σ1) (fun v' aK=>v'=v/\aK=σ1) (fun e Z=>⟨e.symm,rfl⟩) ⟨rfl,rfl⟩)))
variable{p1 p2 p3 p4 p5:Nat}{v1 v2 v3 v4 v5:V}{ds:List V}{bd:List St}
theorem DA(e:(P l).fn f=some ⟨[p1],ds,bd⟩)(h:∀N R,(∀be aK,go n M (.v .none k) ρ aK->N be aK)->(∀v aK,go n M (.v v k) ρ aK->R v aK)->go 1000 ⟨l,d,N,R⟩ (.s bd []) [(p1,v1)] σ):Cl M n k ρ (bC (P l) (d+1) f [v1] σ):=Rn e rfl h
theorem uX(e:(P l).fn f=some ⟨[p1,p2],ds,bd⟩)(h:∀N R,(∀be aK,go n M (.v .none k) ρ aK->N be aK)->(∀v aK,go n M (.v v k) ρ aK->R v aK)->go 1000 ⟨l,d,N,R⟩ (.s bd []) [(p1,v1),(p2,v2)] σ):Cl M n k ρ (bC (P l) (d+1) f [v1,v2] σ):=Rn e rfl h
theorem xV(e:(P l).fn f=some ⟨[p1,p2,p3],ds,bd⟩)(h:∀N R,(∀be aK,go n M (.v .none k) ρ aK->N be aK)->(∀v aK,go n M (.v v k) ρ aK->R v aK)->go 1000 ⟨l,d,N,R⟩ (.s bd []) [(p1,v1),(p2,v2),(p3,v3)] σ):Cl M n k ρ (bC (P l) (d+1) f [v1,v2,v3] σ):=Rn e rfl h
theorem nj(e:(P l).fn f=some ⟨[p1,p2,p3,p4],ds,bd⟩)(h:∀N R,(∀be aK,go n M (.v .none k) ρ aK->N be aK)->(∀v aK,go n M (.v v k) ρ aK->R v aK)->go 1000 ⟨l,d,N,R⟩ (.s bd []) [(p1,v1),(p2,v2),(p3,v3),(p4,v4)] σ):Cl M n k ρ (bC (P l) (d+1) f [v1,v2,v3,v4] σ):=Rn e rfl h
theorem ahb(e:(P l).fn f=some ⟨[p1,p2,p3,p4,p5],ds,bd⟩)(h:∀N R,(∀be aK,go n M (.v .none k) ρ aK->N be aK)->(∀v aK,go n M (.v v k) ρ aK->R v aK)->go 1000 ⟨l,d,N,R⟩ (.s bd []) [(p1,v1),(p2,v2),(p3,v3),(p4,v4),(p5,v5)] σ):Cl M n k ρ (bC (P l) (d+1) f [v1,v2,v3,v4,v5] σ):=Rn e rfl h
theorem acj{v:V}{σ1:H}(e:(P l).fn f=some ⟨[p1],ds,bd⟩)(h:∀N R,(v=.none->∀be,N be σ1)->R v σ1->go 1000 ⟨l,d,N,R⟩ (.s bd []) [(p1,v1)] σ):bC (P l) (d+1) f [v1] σ=some (v,σ1):=YT e rfl h
theorem xT{v:V}{σ1:H}(e:(P l).fn f=some ⟨[p1,p2],ds,bd⟩)(h:∀N R,(v=.none->∀be,N be σ1)->R v σ1->go 1000 ⟨l,d,N,R⟩ (.s bd []) [(p1,v1),(p2,v2)] σ):bC (P l) (d+1) f [v1,v2] σ=some (v,σ1):=YT e rfl h
theorem xR{v:V}{σ1:H}(e:(P l).fn f=some ⟨[p1,p2,p3],ds,bd⟩)(h:∀N R,(v=.none->∀be,N be σ1)->R v σ1->go 1000 ⟨l,d,N,R⟩ (.s bd []) [(p1,v1),(p2,v2),(p3,v3)] σ):bC (P l) (d+1) f [v1,v2,v3] σ=some (v,σ1):=YT e rfl h
theorem aci{v:V}{σ1:H}(e:(P l).fn f=some ⟨[p1,p2,p3,p4],ds,bd⟩)(h:∀N R,(v=.none->∀be,N be σ1)->R v σ1->go 1000 ⟨l,d,N,R⟩ (.s bd []) [(p1,v1),(p2,v2),(p3,v3),(p4,v4)] σ):bC (P l) (d+1) f [v1,v2,v3,v4] σ=some (v,σ1):=YT e rfl h
theorem ach{v:V}{σ1:H}(e:(P l).fn f=some ⟨[p1,p2,p3,p4,p5],ds,bd⟩)(h:∀N R,(v=.none->∀be,N be σ1)->R v σ1->go 1000 ⟨l,d,N,R⟩ (.s bd []) [(p1,v1),(p2,v2),(p3,v3),(p4,v4),(p5,v5)] σ):bC (P l) (d+1) f [v1,v2,v3,v4,v5] σ=some (v,σ1):=YT e rfl h
end
end
section
noncomputable def NS(σ:H)(s:V)(n:Nat)(xs:List V):Prop:=∀k,cI σ s n k=some xs[k]?
theorem uF{σ:H}{xs:List V}(h:xs.length<aJ)(n:Nat):NS σ (.ak xs) n xs:=fun k=>LK h
theorem BW{σ:H}{i:Nat}{xs:List V}(e:σ[i]? =some (.list xs))(h:xs.length<aJ):NS σ (.ref i) 0 xs:=fun k=>O8 e h
theorem LL{σ:H}{i d:Nat}{es:List (V×V)}(e:σ[i]? =some (.dict d es))(h:es.length+1<aJ)(hd:d=0\/d=1):NS σ (.ref i) (es.length+1) (es.map (·.1)):=fun k=>by
 rw[u9];exact O9 e h hd
theorem Kv{α:Type}{f:α->V}{s:V}{nn:Nat}{fN:V->aO->H->Option (Fl×aO×H)}{N:aO->H->Prop}{R:V->H->Prop}{ys:List α}(I:List α->aO->H->Prop)
  (EH:∀dn ρ σ,I dn ρ σ->NS σ s nn (ys.map f))(step:∀dn y r,ys=dn++y::r->∀ρ σ,I dn ρ σ->jB (I (dn++[y])) R (fN (f y) ρ σ))(fm:∀ρ σ,I ys ρ σ->N ρ σ)
  (r:List α):∀(dn:List α),ys=dn++r->∀ρ σ,I dn ρ σ->jB N R (forLoop fN s nn (r.length+1) dn.length ρ σ):=by
 induction r with
 |nil=>
  intro dn e ρ σ q
  rw[lU]at e
  have h:=EH dn ρ σ q dn.length
  rw[e,List.getElem?_eq_none (by simp)]at h
  rw[pe,h]
  exact .next (fm ρ σ (e▸q))
 |cons y r ih=>
  intro dn e ρ σ q
  have h:=EH dn ρ σ q dn.length
  rw[u9,e,vg (bX _),Nat.sub_self]at h
  have h1:=step dn y r e ρ σ q
  rw[pe,h]
  dsimp only[List.getElem?_cons_zero,Option.map_some]
  generalize fN (f y) ρ σ=x at h1⊢
  cases h1 with
  |ret h1=>exact .ret h1
  |next h1=>
   have:=ih (dn++[y]) (by rw[e];simp) _ _ h1
   rwa[fV]at this
theorem Xk{α:Type}{f:α->V}{s:V}{nn:Nat}{fN:V->H->Option (Option V×H)}{ys:List α}(I:List α->List V->H->Prop)
  (EH:∀dn cz σ,I dn cz σ->NS σ s nn (ys.map f))(step:∀dn y r,ys=dn++y::r->∀cz σ,I dn cz σ->fq (fun v aK=>I (dn++[y]) (cz++v.toList) aK) (fN (f y) σ))
  (r:List α):∀(dn:List α),ys=dn++r->∀cz σ,I dn cz σ->fq (fun vs aK=>I ys (cz++vs) aK) (compLoop fN s nn (r.length+1) dn.length σ):=by
 induction r with
 |nil=>
  intro dn e cz σ q
  rw[lU]at e
  have h:=EH dn cz σ q dn.length
  rw[e,List.getElem?_eq_none (by simp)]at h
  rw[xq,h]
  refine .mk ?_
  rw[lU,e];exact q
 |cons y r ih=>
  intro dn e cz σ q
  have h:=EH dn cz σ q dn.length
  rw[u9,e,vg (bX _),Nat.sub_self]at h
  have h1:=step dn y r e cz σ q
  rw[xq,h]
  dsimp only[List.getElem?_cons_zero,Option.map_some]
  generalize fN (f y) σ=x at h1⊢
  cases h1 with
  |mk h1=>
   have:=ih (dn++[y]) (by rw[e];simp) _ _ h1
   rw[fV]at this
   dsimp only
   generalize e2:compLoop fN s nn (r.length+1) (dn.length+1) _=z
   have this:fq _ z:=e2▸this
   cases this with
   |mk h2=>
    refine .mk ?_
    rwa[List.append_assoc]at h2
section
variable{l:List Int}{d:Nat}{N0:aO->H->Prop}{R:V->H->Prop}{n:Nat}{r:List St}{k:List Fr}{ρ:aO}{σ:H}{α:Type}{f:α->V}{ys:List α}
noncomputable def oF(M:Ma)(n:Nat)(tg:List Nat)(body r:List St)(k:List Fr)(ρ:aO)(σ:H)(v:V)(x:Option (List V)):Prop:=
 jw (fun xs=>jB (fun be aK=>go n M (.s r k) be aK) M.R (forLoop (vo (P M.l) (bC (P M.l) M.d) tg body) v (fX σ v) (xs.length+1) 0 ρ σ)) x
noncomputable def oM(M:Ma)(n:Nat)(el:Ex)(tg:List Nat)(cond:List Cd)(mQ:aO)(k:List Fr)(ρ:aO)(σ:H)(v:V)(x:Option (List V)):Prop:=
 jw (fun xs=>fq (fun vs aX=>go n M (.v (.ref aX.length) k) ρ (aX++[.list vs])) (compLoop (vp (P M.l) (bC (P M.l) M.d) el tg cond mQ) v (fX σ v) (xs.length+1) 0 σ)) x
theorem aaq{tg:List Nat}{body:List St}{v:V}{nn:Nat}{x:Option (List V)}{b:α->aO}(I:List α->aO->H->Prop)(hx:x=some (ys.map f))(ht:fX σ v=nn)(EH:∀dn ρ σ,I dn ρ σ->NS σ v nn (ys.map f))
  (hb:∀y,cT tg (f y)=some (b y))(h0:I [] ρ σ)
  (step:∀dn y r,ys=dn++y::r->∀ρ σ,I dn ρ σ->∀N,(∀be aK,I (dn++[y]) be aK->N be aK)->go 1000 ⟨l,d,N,R⟩ (.s body []) ((b y).reverse++ρ) σ)
  (fm:∀ρ σ,I ys ρ σ->go n ⟨l,d,N0,R⟩ (.s r k) ρ σ):oF ⟨l,d,N0,R⟩ n tg body r k ρ σ v x:=by
 subst hx ht
 show jB _ _ _
 rw[fU]
 refine Kv I EH (fun dn y r e ρ σ q=> ?_) fm ys [] rfl ρ σ h0
 have:=kD _ _ _ _ _ (qX _ _ _ _ _ (step dn y r e ρ σ q _ fun Z Z h=>h))
 show jB _ _ (match cT tg (f y)with|some b=>kW (P l) (bC (P l) d) body (b.reverse++ρ) σ|none=>none)
 rw[hb]
 exact this
theorem JK{t:Nat}{body:List St}{v:V}{nn:Nat}{x:Option (List V)}{w:W}{rr:H}(I:List α->aO->W->H->Prop)(hx:x=some (ys.map f))(ht:fX (heap w rr) v=nn)(EH:∀dn ρ w r,I dn ρ w r->NS (heap w r) v nn (ys.map f))
  (h0:I [] ρ w rr)
  (step:∀dn y r,ys=dn++y::r->∀ρ w r,I dn ρ w r->∀N,(∀be w' r',I (dn++[y]) be w' r'->N be (heap w' r'))->go 1000 ⟨l,d,N,R⟩ (.s body []) ((t,f y)::ρ) (heap w r))
  (fm:∀ρ w' r',I ys ρ w' r'->go n ⟨l,d,N0,R⟩ (.s r k) ρ (heap w' r')):oF ⟨l,d,N0,R⟩ n [t] body r k ρ (heap w rr) v x:=
 aaq (b:=fun y=>[(t,f y)]) (fun dn ρ σ=>∃w r,σ=heap w r/\I dn ρ w r) hx ht (fun dn ρ σ ⟨w,r,e,h⟩=>e▸EH dn ρ w r h) (fun Z=>rfl) ⟨w,rr,rfl,h0⟩
  (fun dn y r e ρ σ ⟨w,r,e2,h⟩ N hN=>e2▸step dn y _ e ρ w r h N fun be w' r' h=>hN _ _ ⟨w',r',rfl,h⟩) fun ρ σ ⟨w,r,e,h⟩=>e▸fm ρ w r h
theorem EY{t:Nat}{body:List St}{w:W}{rr:H}(I:List α->aO->W->H->Prop)(hl:ys.length<aJ)(h0:I [] ρ w rr)
  (step:∀dn y r,ys=dn++y::r->∀ρ w r,I dn ρ w r->∀N,(∀be w' r',I (dn++[y]) be w' r'->N be (heap w' r'))->go 1000 ⟨l,d,N,R⟩ (.s body []) ((t,f y)::ρ) (heap w r))
  (fm:∀ρ w' r',I ys ρ w' r'->go n ⟨l,d,N0,R⟩ (.s r k) ρ (heap w' r')):oF ⟨l,d,N0,R⟩ n [t] body r k ρ (heap w rr) (.ak (ys.map f)) (ao (heap w rr) (.ak (ys.map f))):=
 have hl:(ys.map f).length<aJ:=by rw[fU];exact hl
 JK I (aI hl) rfl (fun Z Z Z Z Z=>uF hl _) h0 step fm
theorem JL{t i:Nat}{body:List St}{w:W}{rr:H}(I:List α->aO->W->H->Prop)(hl:ys.length<aJ)(at_:∀dn ρ w r,I dn ρ w r->(heap w r)[i]? =some (.list (ys.map f)))(h0:I [] ρ w rr)
  (step:∀dn y r,ys=dn++y::r->∀ρ w r,I dn ρ w r->∀N,(∀be w' r',I (dn++[y]) be w' r'->N be (heap w' r'))->go 1000 ⟨l,d,N,R⟩ (.s body []) ((t,f y)::ρ) (heap w r))
  (fm:∀ρ w' r',I ys ρ w' r'->go n ⟨l,d,N0,R⟩ (.s r k) ρ (heap w' r')):oF ⟨l,d,N0,R⟩ n [t] body r k ρ (heap w rr) (.ref i) (ao (heap w rr) (.ref i)):=
 have hl:(ys.map f).length<aJ:=by rw[fU];exact hl
 have h:=at_ _ _ _ _ h0
 JK I (Cy h hl) (vU h) (fun Z Z Z Z q=>BW (at_ _ _ _ _ q) hl) h0 step fm
set_option tactic.hygienic true in
theorem adJ{el:Ex}{tg:List Nat}{cond:List Cd}{mQ:aO}{v:V}{nn:Nat}{x:Option (List V)}{b:α->aO}(I:List α->List V->H->Prop)(hx:x=some (ys.map f))(ht:fX σ v=nn)(EH:∀dn cz σ,I dn cz σ->NS σ v nn (ys.map f))
  (hb:∀y,cT tg (f y)=some (b y))(h0:I [] [] σ)
  (step:∀dn y r,ys=dn++y::r->∀cz σ,I dn cz σ->∀N R1,(∀be aK,I (dn++[y]) cz aK->N be aK)->(∀u aK,I (dn++[y]) (cz++[u]) aK->R1 u aK)->go 1000 ⟨l,d,N,R1⟩ (.c (.eW true cond) [.Nl el]) (b y++mQ) σ)
  (fm:∀vs aK,I ys vs aK->oA ⟨l,d,N0,R⟩ n k ρ aK (.list vs)):oM ⟨l,d,N0,R⟩ n el tg cond mQ k ρ σ v x:=by
 subst hx ht
 show fq _ _
 rw[fU]
 refine fq.eF (Xk I EH (fun dn y r e cz σ q=> ?_) ys [] rfl [] σ h0) fun vs aK h=>(fm vs aK h).cz
 have h:=yr _ _ _ _ (qX _ _ _ _ _ (step dn y r e cz σ q (fun Z aK=>I (dn++[y]) cz aK) (fun u aK=>I (dn++[y]) (cz++[u]) aK) (fun Z Z h=>h) fun Z Z h=>h))
 unfold vp
 rw[hb]
 have h:fq _ (Nm (P l) (bC (P l) d) true cond (b y++mQ) σ):=h
 dsimp only
 generalize Nm (P l) (bC (P l) d) true cond (b y++mQ) σ=z at h⊢
 cases h with
 |mk h=>
  rename_i t σ1
  cases t with
  |false=>exact .mk (by rw[Option.toList_none,lU];exact h)
  |true=>
   have h:=bQ _ _ _ _ h
   dsimp only
   generalize gK (P l) (bC (P l) d) el (b y++mQ) σ1=z at h⊢
   cases h with
   |mk h=>exact .mk h
theorem K5{β:Type}{fo:β->V}{el:Ex}{tg:List Nat}{cond:List Cd}{mQ:aO}{v:V}{nn:Nat}{x:Option (List V)}{b:α->aO}{w:W}{rr:H}(I:List α->List β->W->H->Prop)(hx:x=some (ys.map f))(ht:fX (heap w rr) v=nn)
  (EH:∀dn cz w r,I dn cz w r->NS (heap w r) v nn (ys.map f))(hb:∀y,cT tg (f y)=some (b y))(h0:I [] [] w rr)
  (step:∀dn y r,ys=dn++y::r->∀cz w r,I dn cz w r->∀N R1,(∀be w' r',I (dn++[y]) cz w' r'->N be (heap w' r'))->(∀u w' r',I (dn++[y]) (cz++[u]) w' r'->R1 (fo u) (heap w' r'))->go 1000 ⟨l,d,N,R1⟩ (.c (.eW true cond) [.Nl el]) (b y++mQ) (heap w r))
  (fm:∀vs w' r',I ys vs w' r'->oA ⟨l,d,N0,R⟩ n k ρ (heap w' r') (.list (vs.map fo))):oM ⟨l,d,N0,R⟩ n el tg cond mQ k ρ (heap w rr) v x:=
 adJ (fun dn cz σ=>∃o w r,cz=o.map fo/\σ=heap w r/\I dn o w r) hx ht (fun dn cz σ ⟨o,w,r,_,e,h⟩=>e▸EH dn o w r h) hb ⟨[],w,rr,rfl,rfl,h0⟩
  (fun dn y r e cz σ ⟨o,w,r,e1,e2,h⟩ N R1 hN hR=>by
   subst e1 e2
   exact step dn y _ e o w r h N R1 (fun be w' r' h=>hN be _ ⟨o,w',r',rfl,rfl,h⟩) fun u w' r' h=>hR _ _ ⟨o++[u],w',r',by simp,rfl,h⟩) fun vs σ ⟨o,w,r,e1,e2,h⟩=>by subst e1 e2;exact fm o w r h
theorem DU{β:Type}{fo:β->V}{el:Ex}{tg:List Nat}{cond:List Cd}{mQ:aO}{b:α->aO}{w:W}{rr:H}(I:List α->List β->W->H->Prop)(hl:ys.length<aJ)(hb:∀y,cT tg (f y)=some (b y))(h0:I [] [] w rr)
  (step:∀dn y r,ys=dn++y::r->∀cz w r,I dn cz w r->∀N R1,(∀be w' r',I (dn++[y]) cz w' r'->N be (heap w' r'))->(∀u w' r',I (dn++[y]) (cz++[u]) w' r'->R1 (fo u) (heap w' r'))->go 1000 ⟨l,d,N,R1⟩ (.c (.eW true cond) [.Nl el]) (b y++mQ) (heap w r))
  (fm:∀vs w' r',I ys vs w' r'->oA ⟨l,d,N0,R⟩ n k ρ (heap w' r') (.list (vs.map fo))):oM ⟨l,d,N0,R⟩ n el tg cond mQ k ρ (heap w rr) (.ak (ys.map f)) (ao (heap w rr) (.ak (ys.map f))):=
 have hl:(ys.map f).length<aJ:=by rw[fU];exact hl
 K5 I (aI hl) rfl (fun Z Z Z Z Z=>uF hl _) hb h0 step fm
theorem Ag{β:Type}{fo:β->V}{el:Ex}{t i:Nat}{cond:List Cd}{mQ:aO}{w:W}{rr:H}(I:List α->List β->W->H->Prop)(hl:ys.length<aJ)(at_:∀dn cz w r,I dn cz w r->(heap w r)[i]? =some (.list (ys.map f)))(h0:I [] [] w rr)
  (step:∀dn y r,ys=dn++y::r->∀cz w r,I dn cz w r->∀N R1,(∀be w' r',I (dn++[y]) cz w' r'->N be (heap w' r'))->(∀u w' r',I (dn++[y]) (cz++[u]) w' r'->R1 (fo u) (heap w' r'))->go 1000 ⟨l,d,N,R1⟩ (.c (.eW true cond) [.Nl el]) ((t,f y)::mQ) (heap w r))
  (fm:∀vs w' r',I ys vs w' r'->oA ⟨l,d,N0,R⟩ n k ρ (heap w' r') (.list (vs.map fo))):oM ⟨l,d,N0,R⟩ n el [t] cond mQ k ρ (heap w rr) (.ref i) (ao (heap w rr) (.ref i)):=
 have hl:(ys.map f).length<aJ:=by rw[fU];exact hl
 have h:=at_ _ _ _ _ h0
 K5 (b:=fun y=>[(t,f y)]) I (Cy h hl) (vU h) (fun Z Z Z Z q=>BW (at_ _ _ _ _ q) hl) (fun Z=>rfl) h0 step fm
noncomputable def oG(M:Ma)(n:Nat)(tg:List Nat)(body r:List St)(k:List Fr)(s:V)(nn j i:Nat)(ρ:aO)(σ:H):Prop:=
 jB (fun be aK=>go n M (.s r k) be aK) M.R (forLoop (vo (P M.l) (bC (P M.l) M.d) tg body) s nn j i ρ σ)
theorem Nk{tg:List Nat}{body:List St}{s v:V}{nn j i:Nat}{b:aO}(h:cI σ s nn i=some (some v))(hb:cT tg v=some b)
  (g:∀N,(∀be aK,oG ⟨l,d,N0,R⟩ n tg body r k s nn j (i+1) be aK->N be aK)->go 1000 ⟨l,d,N,R⟩ (.s body []) (b.reverse++ρ) σ):oG ⟨l,d,N0,R⟩ n tg body r k s nn (j+1) i ρ σ:=by
 have h1:=kD _ _ _ _ _ (qX _ _ _ _ _ (g _ fun Z Z h=>h))
 unfold oG
 rw[pe,h]
 dsimp only
 have e:vo (P l) (bC (P l) d) tg body v ρ σ=kW (P l) (bC (P l) d) body (b.reverse++ρ) σ:=by unfold vo;rw[hb]
 rw[e]
 have h1:jB _ _ (kW (P l) (bC (P l) d) body (b.reverse++ρ) σ):=h1
 generalize kW (P l) (bC (P l) d) body (b.reverse++ρ) σ=x at h1⊢
 cases h1 with
 |ret h1=>exact .ret h1
 |next h1=>exact h1
theorem YL{tg:List Nat}{body:List St}{s:V}{nn j i:Nat}(h:cI σ s nn i=some none)(g:go n ⟨l,d,N0,R⟩ (.s r k) ρ σ):oG ⟨l,d,N0,R⟩ n tg body r k s nn (j+1) i ρ σ:=by
 unfold oG
 rw[pe,h]
 exact .next g
end
end
theorem DW(k:Nat)(es:List (V×V)):∃n,gv k es=.dict n es/\(n=0\/n=k):=by
 cases es with
 |nil=>exact⟨0,rfl,.inl rfl⟩
 |cons x r=>exact⟨k,rfl,.inr rfl⟩
theorem QD{k:Nat}{u v:V}{es:List (V×V)}:gv k (dM u v es)=.dict k (dM u v es):=by
 cases es with
 |nil=>rfl
 |cons x t=>rw[l5];split<;>rfl
theorem Si{a n k:Nat}(hv:a=k)(hk:k≠0)(q:n=0\/n=k):(a !=0&&(n==0||a==n))=true:=by
 subst hv
 refine kK (bne_iff_ne.mpr hk) ?_
 rcases q with rfl|rfl
 ·rfl
 ·exact(congrArg (_||·) (beq_self_eq_true _)).trans (Bool.or_true _)
theorem vZ{i k:Nat}{es:List (V×V)}{v:V}{σ:H}(h:σ[i]? =some (gv k es))(hv:v.kind=k)(hk:k≠0):bD σ v (.ref i)=some (aT v es).isSome:=
 aD (DW k es) fun n e q=>Ci (h.trans (congrArg some e)) (Si hv hk q)
theorem tH{i k:Nat}{es:List (V×V)}{v u:V}{σ:H}(h:σ[i]? =some (gv k es))(hv:v.kind=k)(hk:k≠0):j7 σ (.ref i) v u=some ((aT v es).getD u):=
 aD (DW k es) fun n e q=>H6 (h.trans (congrArg some e)) (Si hv hk q)
theorem tD{i k:Nat}{es:List (V×V)}{v u:V}{σ:H}(h:σ[i]? =some (gv k es))(hv:v.kind=k)(hk:k≠0)(hu:aT v es=some u):item σ (.ref i) v=some u:=by
 cases es with
 |nil=>exact bJ hu
 |cons x es=>exact(Cz h (kK (jE.mpr hv) (bne_iff_ne.mpr hk))).trans hu
theorem jS{i k:Nat}{es:List (V×V)}{u v:V}{σ:H}(h:σ[i]? =some (gv k es))(hv:u.kind=k)(hk:k≠0)(hl:es.length<aJ):dD σ (.ref i) u v=some (σ.set i (gv k (dM u v es))):=by
 refine aD (DW k es) fun n e q=> ?_
 rw[vV (h.trans (congrArg some e)) (kK (kK ?_ (bne_iff_ne.mpr (hv▸hk))) (ez hl)),hv,QD]
 rw[hv]
 rcases q with rfl|rfl
 ·exact Bool.or_true _
 ·exact congrArg (·||_) (beq_self_eq_true _)
theorem ua(r:V):∀(af:List V) (n:Nat),aT r ((af.zipIdx n).map fun e=>(e.1,nv e.2))=if r∈af then some (nv (n+af.idxOf r))else none
 |[],n=>rfl
 |x::af,n=>by
  rw[List.zipIdx_cons,fT,eO]
  by_cases h:r=x
  ·subst h;simp
  ·rw[aG h,ua r af (n+1)]
   have h':(x==r)=false:=by simpa using fun q=>h q.symm
   simp only[cH,h,false_or,List.idxOf_cons,h',cond_false]
   split
   ·congr 2;lia
   ·rfl
theorem kO(r:V)(af:List V):aT r (gh af)=if r∈af then some (nv (af.idxOf r))else none:=by
 unfold gh;rw[ua];simp
theorem wu{k v:V}:∀{es:List (V×V)},aT k es=none->dM k v es=es++[(k,v)]
 |[],_=>rfl
 |(y,u)::r,h=>by
  have h:(if k=y then some u else aT k r)=none:=h
  by_cases q:k=y
  ·rw[aI q]at h;exact bJ h.symm
  ·rw[aG q]at h;rw[l5,aG q,wu h];rfl
theorem Ey{r:V}{af:List V}(h:r∉af):dM r (nv af.length) (gh af)=gh (af++[r]):=by
 rw[wu (by rw[kO,aG h])]
 unfold gh;rw[List.zipIdx_append];simp
noncomputable def kY(af:List V)(r:V):List V:=if r∈af then af else af++[r]
theorem HG(af:List V):(gh af).length=af.length:=by simp[gh]
theorem HC(w:W)(rest:H){r:V}(hr:r.kind=3):bD (heap w rest) r (.ref 3)=some (aT r (gh w.af)).isSome:=Ci (acm w rest) (by rw[hr];rfl)
theorem rS{σ:H}{o v:V}{x:Bool}(h:bD σ o v=some x):xH σ .cZ o v=some (.bool x):=congrArg (Option.map _) h
theorem zK{σ:H}{o v:V}{x:Bool}(h:bD σ o v=some x):xH σ .gw o v=some (.bool !x):=congrArg (Option.map _) h
theorem Nv{σ:H}{o v:V}{x:Bool}(h:eqv σ o v=some x):xH σ .eq o v=some (.bool x):=congrArg (Option.map _) h
theorem Y6{σ:H}{o v:V}{x:Bool}(h:eqv σ o v=some x):xH σ .ne o v=some (.bool !x):=congrArg (Option.map _) h
theorem iO{i:Nat}{xs:List V}{v:V}{σ:H}(h:σ[i]? =some (.list xs))(hl:xs.length<aJ):push σ (.ref i) v=some (σ.set i (.list (xs++[v]))):=by
 exact B6 h hl
theorem g8{l:List Int}{d:Nat}{w:W}{rest:H}{r:V}(hr:r.kind=3)(hl:w.af.length<aJ):bC (P l) (d+1) 238 [.ref 1,r] (heap w rest)=some (nv ((kY w.af r).idxOf r),heap {w with af:=kY w.af r} rest):=by
 refine xT (W6 l) fun N R Z hR=> ?_
 have m:=HC w rest hr
 have h:=kO r w.af
 unfold kY at hR
 by_cases q:r∈w.af
 ·rw[aI q]at h hR
  rw[h]at m
  exact gV (rS m) (gV ((Cz (acm w rest) (by rw[hr];rfl)).trans h) hR)
 ·rw[aG q]at h hR
  rw[h]at m
  have e:List.idxOf r (w.af++[r])=w.af.length:=by rw[List.idxOf_append,aG q];simp
  rw[e]at hR
  have e2:=Ey q
  unfold nv at e2
  refine gV (rS m) (gX (xs:=w.af) (As (VE w rest) hl) (gU (iO (VE w rest) hl) (gH ((vV (n:=3) (es:=gh w.af) (show((heap w rest).set 2 (.list (w.af++[r])))[3]? =_ from rfl) (by rw[hr,HG];exact ez hl)).trans (by rw[hr,e2];rfl)) hR)))
noncomputable def aU:List Nat:=[0,2,3,4,6,8,10,12,13,14,16,18,20,21,22,23,24,26,27,28,29,30,31,32]
noncomputable def key(s:List Nat):V:=.ak [.int 1,.str s]
noncomputable def ae5:List V:=[
 key [110,117,108,108],.none,
 .ak [.int 2,.int 0,.int 0],.ak [.int 2,.int 0,.int 1],
 .ak [.int 11,.int 7,.int 0],.none,
 key [110,117,109,98,101,114],.none,
 key [111,98,106,101,99,116],.none,
 key [115,116,114,105,110,103],.none,
 .ak [.int 2,.int 1,.int 0],.ak [.int 2,.int 1,.int 1],
 key [117,110,100,101,102,105,110,101,100],.none,
 key [118,111,105,100],.none,
 key [97,110,121],.none,
 .ak [.int 5,.int 1,.str [65],.int 0,.int 0],.ak [.int 5,.int 1,.str [65],.int 0,.int 1],
 .ak [.int 5,.int 1,.str [66],.str [120],.int 0],.ak [.int 5,.int 1,.str [66],.str [120],.int 1],
 key [101,114,114,111,114],.none,
 .ak [.int 4,.int 0,.int 0],.ak [.int 4,.int 0,.int 1],
 .ak [.int 4,.int 1,.int 0],.ak [.int 4,.int 1,.int 1],
 .ak [.int 3,.str [97],.int 0],.ak [.int 3,.str [97],.int 1],
 key [117,110,107,110,111,119,110],.none]
noncomputable def aV(a:Nat):V:=(ae5[a]?).getD .none
noncomputable def BA:List V:=[.ak [.int 1,.str [97,110,121]],.ak [.int 1,.str [117,110,107,110,111,119,110]],.ak [.int 1,.str [110,101,118,101,114]],.ak [.int 1,.str [118,111,105,100]],.ak [.int 1,.str [117,110,100,101,102,105,110,101,100]],.ak [.int 1,.str [110,117,108,108]],.ak [.int 1,.str [115,116,114,105,110,103]],.ak [.int 1,.str [110,117,109,98,101,114]],.ak [.int 2,.int 0,.int 0],.ak [.int 2,.int 1,.int 0],.ak [.int 1,.str [111,98,106,101,99,116]],.ak [.int 8,.ak [],.ak [],.ak [],.ak [],.ak [],.int 0],.ak [.int 6,.ak [.int 8,.int 9]],.ak [.int 1,.str [101,114,114,111,114]],.ak [.int 2,.int 0,.int 1],.ak [.int 2,.int 1,.int 1],.ak [.int 5,.int 1,.str [65],.int 0,.int 0],.ak [.int 5,.int 1,.str [66],.str [120],.int 0],.ak [.int 6,.ak [.int 16,.int 17]]]
noncomputable def Dl(ns:List Nat):V:=.ak [.int 6,.ak (ns.map nv)]
structure dj(af:List V):Prop where
 pre:∃more,af=BA++more
 nd:af.Nodup
 len:af.length<90000
noncomputable def aY(af:List V)(a n:Nat):Prop:=af[n]? =some (aV a)
structure f8(af:List V)(ns:List Nat)(K:az):Prop where
 Re:ns.Pairwise (·<·)
 mem:∀n,n∈ns↔∃a∈K,aY af a n
 has:∀a∈K,∃n,aY af a n
 at_:∀a∈K,a∈aU
noncomputable def zR(af:List V)(n:Nat)(ns:List Nat):Prop:=(ns=[]/\n=2)\/ns=[n]\/(2<=ns.length/\af[n]? =some (Dl ns))
noncomputable def fF(af:List V)(n:Nat)(K:az):Prop:=∃ns,f8 af ns K/\zR af n ns
structure lN(af Rz:List V)(c:Nat):Prop where
 more:∃m,Rz=af++m/\m.length<=c
 nd:af.Nodup->Rz.Nodup
theorem lN.refl(af:List V):lN af af 0:=⟨⟨[],by simp⟩,id⟩
theorem lN.trans{a b c:List V}{m n:Nat}(x:lN a b m)(y:lN b c n):lN a c (m+n):=by
 obtain⟨u1,xn⟩:=x;obtain⟨p,rfl,hp⟩:=u1
 obtain⟨u1,yn⟩:=y;obtain⟨q,rfl,hq⟩:=u1
 exact⟨⟨p++q,by simp,by simp;exact(Jt hp hq)⟩,fun h=>yn (xn h)⟩
theorem lN.le{a b:List V}{m n:Nat}(x:lN a b m)(h:m<=n):lN a b n:=⟨let⟨p,e,hp⟩:=x.more;⟨p,e,d9 hp h⟩,x.nd⟩
theorem lN.get{a b:List V}{m n:Nat}(x:lN a b m){r:V}(h:a[n]? =some r):b[n]? =some r:=by
 refine aD x.more fun p q1 hp=> ?_;subst q1
 rw[mZ (kX.mp h).1,h]
theorem lN.len{a b:List V}{m:Nat}(x:lN a b m):b.length<=a.length+m:=by
 refine aD x.more fun p q1 hp=> ?_;subst q1;rw[fV];exact(Br hp)
theorem lN.iU{a b:List V}{m:Nat}(x:lN a b m)(T:dj a)(h:a.length+m<90000):dj b:=by
 refine⟨?_,x.nd T.nd,Bx x.len h⟩
 refine aD x.more fun p q1 hp=> ?_;subst q1
 refine bR T.pre fun q q1=> ?_;subst q1
 exact⟨q++p,rfl⟩
structure Gr(w w':W)(c:Nat):Prop where
 same:w'={w with af:=w'.af}
 ext:lN w.af w'.af c
theorem Gr.refl(w:W):Gr w w 0:=⟨rfl,lN.refl _⟩
theorem Gr.trans{a b c:W}{m n:Nat}(x:Gr a b m)(y:Gr b c n):Gr a c (m+n):=⟨y.same.trans (by rw[x.same]),x.ext.trans y.ext⟩
theorem Gr.le{a b:W}{m n:Nat}(x:Gr a b m)(h:m<=n):Gr a b n:=⟨x.same,x.ext.le h⟩
theorem Gr.len{a b:W}{m:Nat}(x:Gr a b m):b.af.length<=a.af.length+m:=x.ext.len
theorem Gr.iU{a b:W}{m:Nat}(x:Gr a b m)(T:dj a.af)(h:a.af.length+m<90000):dj b.af:=x.ext.iU T h
theorem FQ(af:List V)(r:V):lN af (kY af r) 1:=by
 unfold kY
 split
 ·exact(lN.refl af).le (mX)
 ·rename_i q
  refine⟨⟨[r],rfl,(bX _)⟩,fun h=> ?_⟩
  rw[List.nodup_append]
  exact⟨h,by simp,fun a ha b hb e=>by simp at hb;subst hb;exact q (e▸ha)⟩
theorem Gr.plain{a b:W}{m:Nat}(x:Gr a b m):b.plain=a.plain:=by rw[x.same]
theorem Gr.aj{a b:W}{m:Nat}(x:Gr a b m):b.aj=a.aj:=by rw[x.same]
theorem Gr.jp{a b:W}{m:Nat}(x:Gr a b m):b.jp=a.jp:=by rw[x.same]
theorem Gr.bu{a b:W}{m:Nat}(x:Gr a b m):b.bu=a.bu:=by rw[x.same]
theorem Gr.aR{a b:W}{m:Nat}(x:Gr a b m):b.aR=a.aR:=by rw[x.same]
theorem Gr.bk{a b:W}{m:Nat}(x:Gr a b m):b.bk=a.bk:=by rw[x.same]
theorem Gr.ahc{a b:W}{m e:Nat}(x:Gr {a with bu:=e} b m):Gr a {b with bu:=a.bu} m:=⟨by rw[x.same],x.ext⟩
theorem Gr.eX(w:W)(r:V):Gr w {w with af:=kY w.af r} 1:=⟨rfl,FQ _ _⟩
theorem Pe(af:List V)(r:V):r∈kY af r:=by
 unfold kY
 split
 ·assumption
 ·simp
theorem AD{af:List V}{r:V}(h:r∈af):af[af.idxOf r]? =some r:=by
 have q:=List.idxOf_lt_length_iff.mpr h
 rw[pJ q,List.getElem_idxOf]
theorem ou(af:List V)(r:V):(kY af r)[(kY af r).idxOf r]? =some r:=AD (Pe af r)
theorem BZ{af:List V}(nd:af.Nodup){n m:Nat}{r:V}(h:af[n]? =some r)(g:af[m]? =some r):n=m:=by
 obtain⟨h1,h2⟩:=kX.mp h
 obtain⟨g1,g2⟩:=kX.mp g
 exact(List.getElem_inj nd).mp (h2.trans g2.symm)
theorem dj.cU{af:List V}(T:dj af){n:Nat}{r:V}(h:BA[n]? =some r):af[n]? =some r:=by
 refine bR T.pre fun p q1=> ?_;subst q1
 rw[mZ (kX.mp h).1,h]
theorem yl:(aU.all fun a=>aU.all fun b=>decide (aV a=aV b->a=b))=true:=by decide+kernel
theorem MP{a b:Nat}(ha:a∈aU)(hb:b∈aU)(h:aV a=aV b):a=b:=
 jx (dG.mp (dG.mp yl a ha) b hb) h
noncomputable def rk:V->Int
 | .ak (.int h::_)=>h
 |_=> -5
theorem QH:(aU.all fun a=>rk (aV a) !=6&&rk (aV a) != -5&&(aV a).kind==3&&decide (aV a≠key [110,101,118,101,114]))=true:=by decide+kernel
theorem ac4{r:V}(h:rk r≠ -5):∃i t,r=.ak (.int i::t)/\rk r=i:=by
 have Bd:∀q:Prop,((∃i t,r=.ak (.int i::t)/\rk r=i)->q)->q:=by
  intro q k
  cases r with
  |ak xs=>cases xs with
   |nil=>exact absurd rfl h
   |cons x t=>cases x with
    |int i=>exact k ⟨i,t,rfl,rfl⟩
    |_=>exact absurd rfl h
  |_=>exact absurd rfl h
 exact Bd _ id
theorem lI{a:Nat}(ha:a∈aU):∃i t,aV a=.ak (.int i::t)/\i≠6/\(aV a).kind=3/\aV a≠key [110,101,118,101,114]:=by
 have q:=dG.mp QH a ha
 simp only[dX,bne_iff_ne,jE,lW]at q
 refine lu (ac4 q.1.1.2) fun i t e f=> ?_
 exact⟨i,t,e,f▸q.1.1.1,q.1.2,q.2⟩
theorem dj.AW{af:List V}(T:dj af):af[2]? =some (key [110,101,118,101,114]):=T.cU rfl
theorem aY.YE{af:List V}(T:dj af){a n:Nat}(ha:a∈aU)(h:aY af a n):n≠2:=fun e=>by
 subst e
 have:=T.AW
 rw[h]at this
 refine d7 (lI ha) fun Z Z Z Z Z q=> ?_
 exact q (ig this)
theorem aY.ext{a b:List V}{m:Nat}(x:lN a b m){c n:Nat}(h:aY a c n):aY b c n:=x.get h
theorem aY.pA{af:List V}(T:dj af){a n m:Nat}(h:aY af a n)(g:aY af a m):n=m:=BZ T.nd h g
theorem aY.xW{af:List V}{a b n:Nat}(ha:a∈aU)(hb:b∈aU)(h:aY af a n)(g:aY af b n):a=b:=by
 unfold aY at h g;rw[h]at g;exact MP ha hb (ig g)
theorem f8.ext{a b:List V}{m:Nat}(x:lN a b m)(T:dj b){ns:List Nat}{K:az}(p:f8 a ns K):f8 b ns K:=by
 refine⟨p.Re,fun n=>⟨fun h=> ?_,fun⟨c,hc,h⟩=> ?_⟩,fun c hc=> ?_,p.at_⟩
 ·refine aD ((p.mem n).mp h) fun c hc q=> ?_;exact⟨c,hc,q.ext x⟩
 ·refine bR (p.has c hc) fun k hk=> ?_
  rw[h.pA T (hk.ext x)]
  exact(p.mem k).mpr ⟨c,hc,hk⟩
 ·refine bR (p.has c hc) fun k hk=> ?_;exact⟨k,hk.ext x⟩
theorem zR.ext{a b:List V}{m n:Nat}(x:lN a b m){ns:List Nat}(p:zR a n ns):zR b n ns:=
 p.imp id fun p=>p.imp id fun p=>⟨p.1,x.get p.2⟩
theorem fF.ext{a b:List V}{m n:Nat}(x:lN a b m)(T:dj b){K:az}(p:fF a n K):fF b n K:=by
 refine aD p fun ns h g=> ?_;exact⟨ns,h.ext x T,g.ext x⟩
theorem qw:∀{a b:List Nat},a.Pairwise (·<·)->b.Pairwise (·<·)->(∀n,n∈a↔n∈b)->a=b
 |[],[],_,_,_=>rfl
 |[],y::b,_,_,h=>by have:=(h y).mpr (by simp);simp at this
 |x::a,[],_,_,h=>by have:=(h x).mp (by simp);simp at this
 |x::a,y::b,ha,hb,h=>by
  rw[sG]at ha hb
  have e:x=y:=by
   have h1:=(h x).mp (by simp)
   have h2:=(h y).mpr (by simp)
   rcases cH.mp h1 with h1|h1
   ·exact h1
   ·rcases cH.mp h2 with h2|h2
    ·exact h2.symm
    ·have:=ha.1 y h2;have:=hb.1 x h1;lia
  subst e
  rw[qw ha.2 hb.2 fun n=> ?_]
  constructor
  ·intro q
   rcases cH.mp ((h n).mp (by simp[q]))with r|r
   ·subst r;exact absurd (ha.1 n q) (Nat.lt_irrefl _)
   ·exact r
  ·intro q
   rcases cH.mp ((h n).mpr (by simp[q]))with r|r
   ·subst r;exact absurd (hb.1 n q) (Nat.lt_irrefl _)
   ·exact r
theorem dY{a b:Nat}(h:nv a=nv b):a=b:=by unfold nv at h;injection h with h;exact Int.ofNat.inj h
theorem wV:∀{a b:List Nat},a.map nv=b.map nv->a=b
 |[],[],_=>rfl
 |[],_::_,h=>by simp at h
 |_::_,[],h=>by simp at h
 |x::a,y::b,h=>by
  rw[fT,fT,ya]at h
  rw[dY h.1,wV h.2]
theorem OX{a b:List Nat}(h:Dl a=Dl b):a=b:=by
 unfold Dl at h;simp only[V.ak.injEq,ya,and_true,true_and]at h;exact wV h
theorem nY{a:Nat}{ns:List Nat}(ha:a∈aU):aV a≠Dl ns:=fun e=>by
 refine aW (lI ha) fun i t q h Z=> ?_
 rw[q]at e;unfold Dl at e
 simp only[V.ak.injEq,ya,V.int.injEq]at e
 exact h e.1
theorem qt{ns:List Nat}:key [110,101,118,101,114]≠Dl ns:=fun e=>by
 unfold Dl key at e;simp at e
theorem zR.pA{af:List V}(T:dj af){n:Nat}{ns ms:List Nat}{K L:az}(p:f8 af ns K)(q:f8 af ms L)(h:zR af n ns)(g:zR af n ms):ns=ms:=by
 have aE:∀{ns:List Nat} {K:az},f8 af ns K->ns=[n]->∃a∈aU,aY af a n:=fun p e=>by
  refine aD ((p.mem n).mp (by rw[e];simp)) fun a ha h=> ?_
  exact⟨a,p.at_ a ha,h⟩
 rcases h with⟨rfl,rfl⟩|h|⟨h1,h2⟩<;>rcases g with⟨rfl,g⟩|g|⟨g1,g2⟩
 ·rfl
 ·refine aD (aE q g) fun a ha z=> ?_;exact absurd rfl (z.YE T ha)
 ·rw[T.AW]at g2;exact absurd (ig g2) qt
 ·refine aD (aE p h) fun a ha z=> ?_;exact absurd g (z.YE T ha)
 ·rw[h,g]
 ·refine aD (aE p h) fun a ha z=> ?_;unfold aY at z;rw[z]at g2;exact absurd (ig g2) (nY ha)
 ·subst g;rw[T.AW]at h2;exact absurd (ig h2) qt
 ·refine aD (aE q g) fun a ha z=> ?_;unfold aY at z;rw[z]at h2;exact absurd (ig h2) (nY ha)
 ·rw[h2]at g2;exact OX (ig g2)
theorem f8.set{af:List V}{ns:List Nat}{K L:az}(p:f8 af ns K)(q:f8 af ns L)(a:Nat)(ha:a∈K):a∈L:=by
 refine bR (p.has a ha) fun n hn=> ?_
 refine aD ((q.mem n).mp ((p.mem n).mpr ⟨a,ha,hn⟩)) fun b hb g=> ?_
 rw[hn.xW (p.at_ a ha) (q.at_ b hb) g];exact hb
theorem f8.Wb{af:List V}(T:dj af){ns ms:List Nat}{K L:az}(p:f8 af ns K)(q:f8 af ms L)(h:∀a,a∈K↔a∈L):ns=ms:=
 qw p.Re q.Re fun n=>by rw[p.mem,q.mem];exact⟨fun⟨a,x,y⟩=>⟨a,(h a).mp x,y⟩,fun⟨a,x,y⟩=>⟨a,(h a).mpr x,y⟩⟩
theorem fF.set{af:List V}(T:dj af){n:Nat}{K L:az}(h:fF af n K)(g:fF af n L)(a:Nat):a∈K↔a∈L:=by
 refine aD h fun ns p d=> ?_
 refine aD g fun ms q e=> ?_
 have:=zR.pA T p q d e
 subst this
 exact⟨p.set q a,q.set p a⟩
theorem fF.num{af:List V}(T:dj af){n m:Nat}{K L:az}(h:fF af n K)(g:fF af m L)(e:∀a,a∈K↔a∈L):n=m:=by
 refine aD h fun ns p d=> ?_
 refine aD g fun ms q f=> ?_
 have:=p.Wb T q e
 subst this
 rcases d with⟨rfl,rfl⟩|d|⟨d1,d2⟩<;>rcases f with⟨f,g⟩|f|⟨f1,f2⟩
 ·exact g.symm
 ·simp at f
 ·simp at f1
 ·rw[f]at d;simp at d
 ·rw[f]at d;simpa using d.symm
 ·rw[d]at f1;simp at f1
 ·rw[f]at d1;simp at d1
 ·rw[f]at d1;simp at d1
 ·exact BZ T.nd d2 f2
section
variable{l:List Int}{d:Nat}{w:W}{rest:H}
theorem eB{rest:H}{n:Nat}{r:V}(T:dj w.af)(h:w.af[n]? =some r):item (heap w rest) (.ref 2) (nv n)=some r:=by
 have:=T.len
 have:w.af.length<aJ:=by exact(jd this rfl)
 exact(we (VE w rest) this).trans h
theorem Xg(σ:H)(n:Int)(i:Int):eqv σ (.int n) (.int i)=some (decide (n=i)):=by
 exact congrArg some (iu.mpr ⟨V.int.inj,congrArg V.int⟩)
theorem eu(σ:H)(xs:List V)(i:Nat)(h:xs.length<aJ):item σ (.ak xs) (.int i)=xs[i]? :=by
 exact PP h
theorem it0(σ:H)(x:V)(t:List V):item σ (.ak (x::t)) (.int 0)=if t.length+1<aJ then some x else none:=rfl
theorem nvi{n i:Nat}(h:n≠i):decide (nv n=.int (i:Nat))=false:=fH fun e=>h (dY e)
theorem gn{ns:List Nat}{K:az}{n:Nat}(T:dj w.af)(p:f8 w.af ns K)(q:zR w.af n ns):bC (P l) (d+1) 319 [.ref 1,nv n] (heap w rest)=some (.ak (ns.map nv),heap w rest):=by
 refine xT (W1 l) fun N R Z r=> ?_
 rcases q with⟨rfl,rfl⟩|rfl|⟨q1,q2⟩
 ·exact r
 ·refine aD ((p.mem n).mp (by simp)) fun a ha h=> ?_
  have h2:=h.YE T (p.at_ a ha)
  refine aW (lI (p.at_ a ha)) fun i t e hi Z=> ?_
  have hr:=eB (rest:=rest) T h
  rw[e]at hr
  have lt:t.length+1<aJ:=by
   have:=dG.mp (show(aU.all fun a=>match aV a with| .ak xs=>Nat.blt xs.length 100|_=>true)=true by decide+kernel) a (p.at_ a ha)
   rw[e]at this
   have:=mH this
   exact(fR (qh this rfl))
  refine gF (nvi h2) (gV hr ?_)
  refine gV ((it0 _ _ _).trans (aI lt)) ?_
  exact gF (fH fun e=>hi (V.int.inj e)) r
 ·have hr:=eB (rest:=rest) T q2
  have h2:n≠2:=fun e=>by
   subst e;rw[T.AW]at q2;exact qt (ig q2)
  exact gF (nvi h2) (gV hr r)
end
section
variable{l:List Int}{d:Nat}{w:W}{rest:H}
noncomputable def dO(a:Nat):Option Nat:=if a=30\/a=31\/a=22\/a=23 then some 10 else if a=20\/a=21\/(26<=a/\a<=29)then some 6 else none
noncomputable def sI(a:Nat):Int:=match dO a with|some 10=>6|some _=>7|none=> -1
theorem yG:∀a∈aU,∀(l:List Int) (d:Nat) (σ:H),bC (P l) (d+1) 326 [aV a] σ=some (.int (sI a),σ):=by
 simp only[aU,By,qn,false_implies,implies_true,and_true]
 refine⟨?_,?_,?_,?_,?_,?_,?_,?_,?_,?_,?_,?_,?_,?_,?_,?_,?_,?_,?_,?_,?_,?_,?_,?_⟩<;>exact fun l d σ=>rfl
noncomputable def gE(ks:List Nat):List (V×V):=ks.map fun m=>(nv m,.int 1)
theorem tG(m:Nat):∀ks:List Nat,aT (nv m) (gE ks)=if m∈ks then some (.int 1)else none
 |[]=>rfl
 |x::ks=>by
  show(if nv m=nv x then some (.int 1)else aT (nv m) (gE ks))=_
  by_cases e:m=x
  ·subst e;simp
  ·rw[aG (fun q=>e (dY q)),tG m ks];simp[e]
theorem pT:∀ks:List Nat,aT (.int (-1)) (gE ks)=none
 |[]=>rfl
 |x::ks=>by
  show(if V.int (-1)=nv x then some (.int 1)else aT (.int (-1)) (gE ks))=_
  rw[aG (by unfold nv;intro q;injection q with q;lia),pT ks]
theorem uJ{rest:H}{g:Nat}{es:List (V×V)}{v:V}{k:Nat}(h:rest[g]? =some (gv k es))(hv:v.kind=k)(hk:k≠0):bD (heap w rest) v (.ref (95+g))=some (aT v es).isSome:=vZ ((fC _ _ _).trans h) hv hk
theorem ri{rest:H}{g:Nat}{ks:List Nat}(h:rest[g]? =some (gv 1 (gE ks)))(m:Nat):bD (heap w rest) (nv m) (.ref (95+g))=some (decide (m∈ks)):=by
 rw[uJ h rfl (by decide),tG]
 by_cases q:m∈ks<;>simp[q]
theorem n9{rest:H}{g:Nat}{ks:List Nat}(h:rest[g]? =some (gv 1 (gE ks))):bD (heap w rest) (.int (-1)) (.ref (95+g))=some false:=by
 rw[uJ h rfl (by decide),pT];rfl
noncomputable def JB(af:List V)(a:Nat):V:=if a % 2=1 then(aT (aV (a - 1)) (gh af)).getD (.int (-1))else .int (-1)
theorem G7(T:dj w.af){n a:Nat}(ha:a∈aU)(h:aY w.af a n):bC (P l) (d+1) 333 [.ref 1,nv n] (heap w rest)=some (JB w.af a,heap w rest):=by
 refine xT (WZ l) fun N R Z hR=>gV (eB T h) ?_
 revert a
 simp only[aU,By,qn,false_implies,implies_true,and_true]
 refine⟨?_,?_,?_,?_,?_,?_,?_,?_,?_,?_,?_,?_,?_,?_,?_,?_,?_,?_,?_,?_,?_,?_,?_,?_⟩<;>exact fun Z Z hR=>hR
theorem Mc{g:Nat}{ks:List Nat}{A:az}{a:Nat}(T:dj w.af)(ha:a∈aU)(hA:∀b∈A,b∈aU)(h:rest[g]? =some (gv 1 (gE ks)))(hk:∀m,m∈ks↔∃b∈A,aY w.af b m)(hh:∀b∈A,∃m,aY w.af b m):
  bD (heap w rest) (JB w.af a) (.ref (95+g))=some (decide (a % 2=1/\a - 1∈A)):=by
 unfold JB
 by_cases o:a % 2=1
 ·rw[aI o,kO]
  by_cases q:aV (a - 1)∈w.af
  ·rw[aI q]
   simp only[Option.getD_some]
   rw[ri h]
   congr 2
   simp only[o,true_and,eq_iff_iff]
   rw[hk]
   have hn:aY w.af (a - 1) (w.af.idxOf (aV (a - 1))):=AD q
   have hb:a - 1∈aU:=by
    have:=dG.mp (show(aU.all fun a=>a % 2==0||aU.contains (a - 1))=true by decide) a ha
    simp only[je,List.contains_iff_mem]at this
    rcases this with h|h
    ·lia
    ·exact h
   exact⟨fun⟨b,h1,h2⟩=>by rw[hn.xW hb (hA b h1) h2];exact h1,fun z=>⟨_,z,hn⟩⟩
  ·rw[aG q]
   simp only[Option.getD_none]
   rw[n9 h]
   have:a - 1∉A:=fun z=>by
    have hb:=hA _ z
    obtain⟨m,hm⟩:=hh _ z
    exact q (vc hm)
   simp[this]
 ·rw[aG o,n9 h];simp[o]
end
section
variable{l:List Int}{d:Nat}{w:W}{rest:H}
structure pI(af:List V)(ks:List Nat)(A:az):Prop where
 at_:∀b∈A,b∈aU
 has:∀b∈A,∃m,aY af b m
 mem:∀m,m∈ks↔∃b∈A,aY af b m
theorem pI.num{af:List V}(T:dj af){ks:List Nat}{A:az}(k:pI af ks A){a m:Nat}(ha:a∈aU)(h:aY af a m):m∈ks↔a∈A:=
 (k.mem m).trans ⟨fun⟨b,h1,h2⟩=>by rw[h.xW ha (k.at_ b h1) h2];exact h1,fun z=>⟨a,z,h⟩⟩
noncomputable def jg(A:az)(a:Nat):Bool:= !decide (a % 2=1/\a - 1∈A)&& !(match dO a with|some b=>decide (b∈A)|none=>false)
theorem ZQ(T:dj w.af):aY w.af 10 6:=T.cU rfl
theorem Um(T:dj w.af):aY w.af 6 7:=T.cU rfl
theorem HA{g:Nat}{ks:List Nat}{A:az}{a:Nat}(T:dj w.af)(ha:a∈aU)(h:rest[g]? =some (gv 1 (gE ks)))(k:pI w.af ks A):
  bD (heap w rest) (.int (sI a)) (.ref (95+g))=some (match dO a with|some b=>decide (b∈A)|none=>false):=by
 unfold sI
 have q:=dG.mp (show(aU.all fun a=>decide (dO a=none\/dO a=some 10\/dO a=some 6))=true by decide) a ha
 rw[lW]at q
 rcases q with q|q|q<;>rw[q]
 ·exact n9 h
 ·refine(ri h 6).trans ?_
  congr 2
  exact propext (k.num T (by decide) (ZQ T))
 ·refine(ri h 7).trans ?_
  congr 2
  exact propext (k.num T (by decide) (Um T))
theorem Ec{g:Nat}{ks:List Nat}{A:az}{a n:Nat}(T:dj w.af)(ha:a∈aU)(hn:aY w.af a n)(h:rest[g]? =some (gv 1 (gE ks)))(k:pI w.af ks A):
  bC (P l) (d+2) 347 [.ref 1,.ref (95+g),nv n] (heap w rest)=some (.bool (jg A a),heap w rest):=by
 refine xR (WX l) fun N R Z hR=>gC (G7 T ha hn) (gV (rS (Mc T ha k.at_ h k.mem k.has)) ?_)
 unfold jg at hR
 cases e:decide (a % 2=1/\a - 1∈A)<;>rw[e]at hR
 ·exact gV (eB T hn) (gC (yG a ha l d _) (gV (zK (HA T ha h k)) hR))
 ·exact hR
noncomputable def IF(A:az):Int:=if 18∈A then 0 else if 24∈A then 13 else if 32∈A then 1 else -1
theorem nF(T:dj w.af):aY w.af 18 0:=T.cU rfl
theorem qo(T:dj w.af):aY w.af 24 13:=T.cU rfl
theorem z8(T:dj w.af):aY w.af 32 1:=T.cU rfl
theorem Ly{g:Nat}{ks:List Nat}{A:az}(T:dj w.af)(h:rest[g]? =some (gv 1 (gE ks)))(k:pI w.af ks A):
  bC (P l) (d+1) 354 [.ref (95+g)] (heap w rest)=some (.int (IF A),heap w rest):=by
 have m:∀{n a:Nat},aY w.af a n->a∈aU->∀{b:Bool},decide (a∈A)=b->xH (heap w rest) .cZ (nv n) (.ref (95+g))=some (.bool b):=fun hn ha b e=>
  rS ((ri h _).trans (by rw[<-e];congr 2;exact propext (k.num T ha hn)))
 refine acj (WW l) fun N R Z hR=> ?_
 unfold IF at hR
 refine Nk (v:=nv 0) rfl rfl fun N1 h1=> ?_
 by_cases q0:18∈A
 ·rw[aI q0]at hR
  exact gV (m (nF T) (by decide) (ez q0)) hR
 rw[aG q0]at hR
 refine gV (m (nF T) (by decide) (fH q0)) (h1 _ _ (Nk (v:=nv 13) rfl rfl fun N2 h2=> ?_))
 by_cases q1:24∈A
 ·rw[aI q1]at hR
  exact gV (m (qo T) (by decide) (ez q1)) hR
 rw[aG q1]at hR
 refine gV (m (qo T) (by decide) (fH q1)) (h2 _ _ (Nk (v:=nv 1) rfl rfl fun N3 h3=> ?_))
 by_cases q2:32∈A
 ·rw[aI q2]at hR
  exact gV (m (z8 T) (by decide) (ez q2)) hR
 rw[aG q2]at hR
 exact gV (m (z8 T) (by decide) (fH q2)) (h3 _ _ (YL rfl hR))
noncomputable def iL(A:az):Prop:=(2∈A\/3∈A)/\(12∈A\/13∈A)->2∈A/\12∈A
theorem N7(T:dj w.af):aY w.af 2 8:=T.cU rfl
theorem RB(T:dj w.af):aY w.af 3 14:=T.cU rfl
theorem N6(T:dj w.af):aY w.af 12 9:=T.cU rfl
theorem RA(T:dj w.af):aY w.af 13 15:=T.cU rfl
theorem wD:∀{ks:List Nat} {m:Nat},m∈ks->dM (nv m) (.int 1) (gE ks)=gE ks
 |[],m,h=>by simp at h
 |x::ks,m,h=>by
  have e0:gE (x::ks)=(nv x,.int 1)::gE ks:=rfl
  rw[e0,l5]
  by_cases e:m=x
  ·subst e;simp
  ·rw[aG (fun q=>e (dY q)),wD ((cH.mp h).resolve_left e)]
theorem HZ{ks:List Nat}{m:Nat}(h:m∉ks):dM (nv m) (.int 1) (gE ks)=gE (ks++[m]):=by
 rw[wu (by rw[tG,aG h])];simp[gE]
theorem FL(ks:List Nat):(gE ks).length=ks.length:=by simp[gE]
theorem o6{rest:H}{g:Nat}{es:List (V×V)}{u v:V}{k:Nat}(h:rest[g]? =some (gv k es))(hv:u.kind=k)(hk:k≠0)(hl:es.length<aJ):dD (heap w rest) (.ref (95+g)) u v=some (heap w (rest.set g (gv k (dM u v es)))):=(jS ((fC _ _ _).trans h) hv hk hl).trans (congrArg some (o9 _ _ _ _))
theorem LO{rest:H}{g:Nat}{o:Ob}(h:rest[g]? =some o):rest.set g o=rest:=by
 obtain⟨h1,h2⟩:=kX.mp h
 rw[<-h2];exact List.set_getElem_self h1
theorem HK{g:Nat}{ks:List Nat}{A:az}(T:dj w.af)(h:rest[g]? =some (gv 1 (gE ks)))(k:pI w.af ks A)(j:iL A)(hl:ks.length<aJ):
  bC (P l) (d+1) 340 [.ref (95+g)] (heap w rest)=some (.none,heap w rest):=by
 have m:∀{n a:Nat},aY w.af a n->a∈aU->∀{b:Bool},decide (a∈A)=b->xH (heap w rest) .cZ (nv n) (.ref (95+g))=some (.bool b):=fun hn ha b e=>
  rS ((ri h _).trans (by rw[<-e];congr 2;exact propext (k.num T ha hn)))
 have s:∀{n a:Nat},aY w.af a n->a∈aU->a∈A->dD (heap w rest) (.ref (95+g)) (nv n) (.int 1)=some (heap w rest):=fun hn ha q=>by
  rw[o6 h rfl (by decide) (by rw[FL];exact hl),wD ((k.num T ha hn).mpr q),LO h]
 refine acj (WY l) fun N R hN Z=> ?_
 have e:∀a b:Nat,(a∈A\/b∈A)\/(decide (a∈A)=false/\decide (b∈A)=false):=fun a b=>by simp only[decide_eq_false_iff_not];exact(Classical.em _).imp id not_or.mp
 rcases e 2 3 with q|⟨q1,q2⟩
 ·have t:∀n,go (n+100) ⟨l,d,N,R⟩ (.c (.eW false [.ex (.bF .cZ (.aC 70 (.int 9)) (.ah 67)),.ex (.bF .cZ (.aC 71 (.int 15)) (.ah 67))]) [.zO true [],.ifs [.aQ (.sub (.ah 67) (.aC 68 (.int 8))) (.cst (.int 1)),.aQ (.sub (.ah 67) (.aC 70 (.int 9))) (.cst (.int 1))] [] []]) [(67,.ref (95+g))] (heap w rest):=fun n=>by
   rcases e 12 13 with q'|⟨q1,q2⟩
   ·have st:=fun n=>show go (n+50) ⟨l,d,N,R⟩ (.s [.aQ (.sub (.ah 67) (.aC 68 (.int 8))) (.cst (.int 1)),.aQ (.sub (.ah 67) (.aC 70 (.int 9))) (.cst (.int 1))] [.seq []]) [(67,.ref (95+g))] (heap w rest)from gH (s (N7 T) (by decide) (j ⟨q,q'⟩).1) (gH (s (N6 T) (by decide) (j ⟨q,q'⟩).2) (hN rfl _))
    by_cases p:12∈A
    ·exact gV (m (N6 T) (by decide) (ez p)) (st _)
    ·exact gV (m (N6 T) (by decide) (fH p)) (gV (m (RA T) (by decide) (ez (q'.resolve_left p))) (st _))
   ·exact gV (m (N6 T) (by decide) q1) (gV (m (RA T) (by decide) q2) (hN rfl _))
  by_cases p:2∈A
  ·exact gV (m (N7 T) (by decide) (ez p)) (t _)
  ·exact gV (m (N7 T) (by decide) (fH p)) (gV (m (RB T) (by decide) (ez (q.resolve_left p))) (t _))
 ·exact gV (m (N7 T) (by decide) q1) (gV (m (RB T) (by decide) q2) (hN rfl _))
end
section
variable{l:List Int}{d:Nat}{w:W}{rest:H}
theorem Ay{a b:List Nat}(nd:a.Nodup)(h:∀x∈a,x∈b):a.length<=b.length:=nd.length_le_of_subset h
theorem pI.len{af:List V}(T:dj af){ks:List Nat}{A:az}(k:pI af ks A)(nd:ks.Nodup):ks.length<=24:=by
 refine Ay (b:=aU.map fun a=>af.idxOf (aV a)) nd fun m hm=> ?_
 refine aD ((k.mem m).mp hm) fun b hb hn=> ?_
 exact eY.mpr ⟨b,k.at_ b hb,(aY.pA T (AD (vc hn)) hn)⟩
noncomputable def mV(x:Nat):List Nat->List Nat
 |[]=>[x]
 |y::r=>if x<y then x::y::r else y::mV x r
theorem vJ{x y:Nat}{r:List Nat}:mV x (y::r)=if x<y then x::y::r else y::mV x r:=rfl
noncomputable def gx(xs:List Nat):List Nat:=xs.foldl (fun bV x=>mV x bV) []
theorem FH(x:Nat):∀r:List Nat,Gm (nv x) (r.map nv)=(mV x r).map nv
 |[]=>rfl
 |y::r=>by
  rw[fT,ET,vJ]
  have e:V.lt (nv x) (nv y)=decide (x<y):=iu.mpr Int.ofNat_lt
  rw[e]
  by_cases h:x<y
  ·simp[h]
  ·simp[h,FH x r]
theorem HM(xs:List Nat):qW (xs.map nv)=(gx xs).map nv:=by
 have:∀(xs bV:List Nat),(xs.map nv).foldl (fun bV x=>Gm x bV) (bV.map nv)=(xs.foldl (fun bV x=>mV x bV) bV).map nv:=by
  intro xs
  induction xs with
  |nil=>intro bV;rfl
  |cons x xs ih=>intro bV;rw[fT,zT,zT,FH,ih]
 exact this xs []
theorem lz{x n:Nat}:∀{r:List Nat},n∈mV x r↔n=x\/n∈r
 |[]=>by simp[show mV x []=[x]from rfl]
 |y::r=>by
  rw[vJ];split
  ·simp
  ·rw[cH,lz,cH];exact or_left_comm
theorem Cc{x:Nat}:∀{r:List Nat},r.Pairwise (·<·)->x∉r->(mV x r).Pairwise (·<·)
 |[],_,_=>by simp[show mV x []=[x]from rfl]
 |y::r,h,hx=>by
  rw[vJ];split
  ·rename_i q
   rw[sG]at h⊢
   exact⟨fun z hz=>by rcases cH.mp hz with rfl|hz;exact q;exact Nat.lt_trans q (h.1 z hz),sG.mpr h⟩
  ·rename_i q
   rw[sG]at h⊢
   rw[cH,not_or]at hx
   exact⟨fun z hz=>by rcases lz.mp hz with rfl|hz;lia;exact h.1 z hz,Cc h.2 hx.2⟩
theorem Ek(xs:List Nat)(nd:xs.Nodup):(gx xs).Pairwise (·<·)/\∀n,n∈gx xs↔n∈xs:=by
 unfold gx
 have:∀(xs bV:List Nat),xs.Nodup->bV.Pairwise (·<·)->(∀x∈xs,x∉bV)->(xs.foldl (fun bV x=>mV x bV) bV).Pairwise (·<·)/\∀n,n∈xs.foldl (fun bV x=>mV x bV) bV↔n∈xs\/n∈bV:=by
  intro xs
  induction xs with
  |nil=>intro bV _ h _;exact⟨h,fun n=>by simp⟩
  |cons x xs ih=>
   intro bV nd h hx
   rw[u8]at nd
   obtain⟨i1,i2⟩:=ih (mV x bV) nd.2 (Cc h (hx x (.head _))) fun y hy q=>by
    rcases lz.mp q with rfl|q
    ·exact nd.1 hy
    ·exact hx y (.tail _ hy) q
   refine⟨i1,fun n=> ?_⟩
   rw[zT,i2,lz,cH]
   constructor
   ·rintro(q|q|q)
    ·exact .inl (.inr q)
    ·exact .inl (.inl q)
    ·exact .inr q
   ·rintro((q|q)|q)
    ·exact .inr (.inl q)
    ·exact .inl q
    ·exact .inr (.inr q)
 refine dw (this xs [] nd (by simp) (by simp)) fun a b=> ?_
 exact⟨a,fun n=>by rw[b];simp⟩
noncomputable def pZ(ks:List Nat)(n:Nat):List Nat:=if n∈ks then ks else ks++[n]
theorem MD(ks:List Nat)(n:Nat):dM (nv n) (.int 1) (gE ks)=gE (pZ ks n):=by
 unfold pZ;split
 ·rename_i h;exact wD h
 ·rename_i h;exact HZ h
theorem Pq{ks:List Nat}{n m:Nat}:m∈pZ ks n↔m∈ks\/m=n:=by
 unfold pZ;split
 ·rename_i h;exact⟨.inl,fun q=>q.elim id fun e=>e▸h⟩
 ·simp
theorem Wh{ks:List Nat}{n:Nat}(h:ks.Nodup):(pZ ks n).Nodup:=by
 unfold pZ;split
 ·exact h
 ·rename_i q
  rw[List.nodup_append]
  exact⟨h,by simp,fun a ha b hb e=>by simp at hb;subst hb;exact q (e▸ha)⟩
theorem Cj{m:Nat}:∀{ns ks:List Nat},m∈ns.foldl pZ ks↔m∈ks\/m∈ns
 |[],ks=>by simp
 |n::ns,ks=>by rw[zT,Cj,Pq,cH,or_assoc]
theorem Fz:∀{ns ks:List Nat},ks.Nodup->(ns.foldl pZ ks).Nodup
 |[],ks,h=>h
 |n::ns,ks,h=>by rw[zT];exact Fz (Wh h)
theorem C3:∀(a b:List Nat),(a.foldl pZ b).length<=b.length+a.length
 |[],b=>by simp
 |x::a,b=>by
  have:=C3 a (pZ b x)
  have:(pZ b x).length<=b.length+1:=by unfold pZ;split<;>simp
  rw[zT,ql];lia
end
section
variable{l:List Int}{d:Nat}{w:W}{rest:H}
structure zS(af:List V)(ms:List Nat)(Ks:List az):Prop where
 len:ms.length=Ks.length
 at_:∀(k:Nat) (m:Nat) (K:az),ms[k]? =some m->Ks[k]? =some K->fF af m K
theorem pI.ada{af:List V}{ks ns:List Nat}{A K:az}(k:pI af ks A)(p:f8 af ns K):pI af (ns.foldl pZ ks) (A++K)where
 at_:=fun b hb=>(gj.mp hb).elim (k.at_ b) (p.at_ b)
 has:=fun b hb=>(gj.mp hb).elim (k.has b) (p.has b)
 mem:=fun m=>by
  rw[Cj,k.mem,p.mem]
  constructor
  ·rintro(⟨b,h1,h2⟩|⟨b,h1,h2⟩)
   ·exact⟨b,List.mem_append_left _ h1,h2⟩
   ·exact⟨b,List.mem_append_right _ h1,h2⟩
  ·intro u0;refine aD u0 fun b h1 h2=> ?_
   exact(gj.mp h1).imp (fun q=>⟨b,q,h2⟩) fun q=>⟨b,q,h2⟩
theorem pI.nil(af:List V):pI af [] []:=⟨fun b h=>by simp at h,fun b h=>by simp at h,fun m=>by simp⟩
theorem f8.jW{af:List V}(T:dj af){ns:List Nat}{K:az}(p:f8 af ns K):ns.length<=24:=
 pI.len (A:=K) T ⟨p.at_,p.has,p.mem⟩ (p.Re.imp fun h=>qR h)
theorem Lv(ns:List Nat):(Dl ns).kind=3:=by
 have h:∀ns:List Nat,V.cX 4 (ns.map nv)=true:=by
  intro ns
  induction ns with
  |nil=>rfl
  |cons n ns ih=>rw[fT,b7,ih];rfl
 unfold Dl V.kind V.aS
 rw[kI,b7,b7,PM,vM,kI,h]
 rfl
theorem ly(w:W)(rest:H)(l:List Int):iJ (P l) (.ref 1) 17 (heap w rest)=some 238:=rfl
end
section
variable{l:List Int}{d:Nat}{w:W}{rest:H}
theorem rI{p:Nat->Bool}{x:Nat}(h:p x=true):∀{ρ:aO},ay x (ρ.filter fun e=>p e.1)=ay x ρ
 |[]=>rfl
 |(y,v)::r=>by
  rw[List.filter_cons]
  by_cases q:p y=true
  ·rw[aI q,gk,gk,rI h]
  ·have:x≠y:=fun e=>q (e▸h)
   rw[aG q,gk,aG this,rI h]
noncomputable def eM(A:az):az:=if 18∈A then [18]else if 24∈A then [24]else if 32∈A then [32]else A.filter (jg A)
theorem cj{af:List V}{a n:Nat}(T:dj af)(ha:a∈aU)(h:aY af a n):fF af n [a]:=
 ⟨[n],⟨by simp,fun m=>⟨fun q=>⟨a,by simp,by rw[eZ.mp q];exact h⟩,fun⟨b,h1,h2⟩=>by
  rw[eZ.mp h1]at h2;rw[h2.pA T h];simp⟩,fun b hb=>⟨n,by rw[eZ.mp hb];exact h⟩,fun b hb=>by rw[eZ.mp hb];exact ha⟩,.inr (.inl rfl)⟩
theorem fK{r r':H}{i:Nat}{o:Ob}(h:r[i]? =some o)(x:r<+:r'):r'[i]? =some o:=by
 obtain⟨j,rfl⟩:=x
 rw[mZ (kX.mp h).1,h]
theorem k7{r:H}{i:Nat}{o:Ob}(h:r[i]? =some o):(heap w r)[95+i]? =some o:=by rw[fC,h]
theorem Eb{r:H}{i:Nat}{xs:List V}(h:r[i]? =some (.list xs))(hl:xs.length<aJ):k9 (heap w r) (.ref (95+i))=some (!xs.isEmpty):=Lw (k7 h) hl
theorem nO{r:H}{i:Nat}{xs:List V}(h:r[i]? =some (.list xs))(hl:xs.length<aJ):uh (heap w r) (.ref (95+i))=some xs:=As (k7 h) hl
theorem wY{r:H}{i:Nat}{xs:List V}(h:r[i]? =some (.list xs))(hl:xs.length<aJ):vA (heap w r) (.ref (95+i))=some xs:=Mh (k7 h) hl
theorem lF{g:Nat}{xs:List V}{i:Nat}{v:V}(h:rest[g]? =some (.list xs))(hl:xs.length<aJ)(hv:xs[i]? =some v):item (heap w rest) (.ref (95+g)) (.int (i:Nat))=some v:=by
 exact(we (k7 h) hl).trans hv
theorem b6{o:Ob}:(rest++[o])[rest.length]? =some o:=by simp
theorem jM{o o':Ob}:(rest++[o]).set rest.length o'=rest++[o']:=by simp
theorem bx{j:H}:rest<+:rest++j:=⟨j,rfl⟩
section
variable{M:Ma}{n:Nat}{k:List Fr}{ρ:aO}
theorem gD0(g:go n M (.v (.ref (95+rest.length)) k) ρ (heap w (rest++[gv 1 []]))):oD M n k ρ (heap w rest) []:=by
 refine .mk ?_
 show go n M (.v (.ref (heap w rest).length) k) ρ (heap w rest++[.dict 0 []])
 rw[nR]
 exact g
theorem IA{o:Ob}(g:go n M (.v (.ref (95+rest.length)) k) ρ (heap w (rest++[o]))):oA M n k ρ (heap w rest) o:=by
 refine .mk ?_
 rw[nR]
 exact g
end
end
section
variable{l:List Int}{d:Nat}{w:W}{rest:H}
theorem Qt{af:List V}{ns:List Nat}{A:az}(T:dj af)(p:f8 af ns A)(h2:2<=ns.length)(hl:af.length+1<90000):
  fF (kY af (Dl ns)) ((kY af (Dl ns)).idxOf (Dl ns)) A:=by
 have x:=FQ af (Dl ns)
 exact⟨ns,p.ext x (x.iU T hl),.inr (.inr ⟨h2,ou af (Dl ns)⟩)⟩
theorem Hi{ks:List Nat}{m:Nat}(hl:ks.length<aJ):dD (heap w (rest++[gv 1 (gE ks)])) (.ref (95+rest.length)) (nv m) (.int 1)=some (heap w (rest++[gv 1 (gE (pZ ks m))])):=by
 rw[o6 (u:=nv m) (k:=1) b6 rfl (by decide) (by rw[FL];exact hl),MD,jM]
theorem LM{ks:List Nat}{r:H}{i:Nat}(h:r[i]? =some (gv 1 (gE ks))):ny (heap w r) (.ref (95+i))=some (ks.map nv):=by
 unfold ny
 dsimp only
 rw[fC,h]
 cases ks with
 |nil=>rfl
 |cons x ks=>simp[gE,gv]
theorem Hp{ks:List Nat}(h:ks.length<64):sorted (ks.map nv)=some ((gx ks).map nv):=by
 have:Ak (ks.map nv)=true:=by simp[Ak,nv]
 unfold sorted
 rw[this,HM]
 simp[h]
theorem G9(T:dj w.af)(A:az):(∃a n,a∈aU/\aY w.af a n/\IF A=(n:Nat)/\eM A=[a])\/(IF A= -1/\eM A=A.filter (jg A)):=by
 unfold IF eM
 by_cases q1:18∈A
 ·simp only[q1];exact .inl ⟨18,0,by decide,nF T,rfl,rfl⟩
 by_cases q2:24∈A
 ·simp only[q1,q2,if_false];exact .inl ⟨24,13,by decide,qo T,rfl,rfl⟩
 by_cases q3:32∈A
 ·simp only[q1,q2,q3,if_false];exact .inl ⟨32,1,by decide,z8 T,rfl,rfl⟩
 ·exact .inr (by simp[q1,q2,q3])
section
variable{M:Ma}{n:Nat}{k:List Fr}{ρ:aO}
theorem vS{p:Nat}{ms:List Nat}{Ks:List az}(T:dj w.af)(hl:w.af.length+1<90000)(D:zS w.af ms Ks)(hp:rest[p]? =some (.list (ms.map nv)))(hm:ms.length<aJ)(j:iL Ks.flatten)
  (g:∀m w' r',rest<+:r'->Gr w w' 1->fF w'.af m (eM Ks.flatten)->Rt M n k ρ (nv m) (heap w' r')):Cl M n k ρ (bC (P l) (d+3) 359 [.ref 1,.ref (95+p)] (heap w rest)):=by
 refine uX (WV l) fun N R Z hR=>gD0 ?_
 have g0:∀m r',rest<+:r'->fF w.af m (eM Ks.flatten)->R (nv m) (heap w r'):=fun m r' x D=>hR _ _ (g m w r' x ((Gr.refl _).le (mX)) D)
 refine JL (f:=nv) (ys:=ms) (fun dn be w' r'=>w=w'/\∃ks,r'=rest++[gv 1 (gE ks)]/\pI w.af ks (Ks.take dn.length).flatten/\ks.Nodup/\ay 67 be=some (.ref (95+rest.length))/\ay 47 be=some (.ref 1))
  hm (fun dn be w' r' u=>bR u.2 fun ks e=>k7 (e.1▸fK hp bx)) ⟨rfl,[],rfl,pI.nil _,List.nodup_nil,rfl,rfl⟩ (fun dn m r e cu w' r' u N1 hN=> ?_) fun cu w' r' u=> ?_
 ·refine CS u fun q1 ks q hk nd YK Gp=> ?_
  subst q q1
  have hi:ms[dn.length]? =some m:=by rw[e];simp
  have hK:dn.length<Ks.length:=by rw[<-D.len];exact(kX.mp hi).1
  refine aD (D.at_ dn.length m Ks[dn.length] hi (pJ hK)) fun ns pp dd=> ?_
  have l1:=hk.len T nd
  have l2:=pp.jW T
  refine gV Gp (gC (gn T pp dd) (EY (f:=nv) (ys:=ns) (fun dn be w' r'=>w=w'/\r'=rest++[gv 1 (gE (dn.foldl pZ ks))]/\ay 67 be=some (.ref (95+rest.length))/\ay 47 be=some (.ref 1))
   (by exact(qh l2 rfl)) ⟨rfl,rfl,YK,Gp⟩ (fun dn m r e cu w' r' u N2 hN=> ?_) fun cu w' r' u=>hN _ _ _ ⟨u.1,_,u.2.1,?_,Fz nd,u.2.2⟩))
  ·refine iX u fun q1 q h=> ?_
   subst q q1
   have:=C3 dn ks
   have:=congrArg List.length e
   rw[fV]at this
   refine gV h.1 (gH (Hi (by unfold aJ;lia)) (hN _ _ _ ⟨rfl,by rw[List.foldl_append];rfl,h⟩))
  ·rw[fV,yf,List.take_succ_eq_append_getElem hK,List.flatten_append,List.flatten_cons,List.flatten_nil,lU]
   exact hk.ada pp
 refine CS u fun q1 ks q hk nd YK Gp=> ?_
 subst q q1
 rw[D.len,List.take_length]at hk
 have jW:=hk.len T nd
 refine gV YK (gC (Ly T b6 hk) ?_)
 refine(G9 T Ks.flatten).elim (fun u=>d7 u fun a m ha hn e eU=> ?_) fun u=>dw u fun e hU=> ?_
 ·rw[e]
  exact g0 m _ bx (by rw[eU];exact cj T ha hn)
 rw[e]
 rw[hU]at g g0
 refine gV YK (gC (HK T b6 hk j (by exact(qh jW rfl))) ?_)
 refine dw (Ek ks nd) fun so sm=> ?_
 have ags:(gx ks).length<=ks.length:=Ay (so.imp fun h=>qR h) fun x hx=>(sm x).mp hx
 have hg:=fK (b6 (rest:=rest) (o:=gv 1 (gE ks))) (bx (j:=[Ob.list ((gx ks).map nv)]))
 refine gV YK (gZ (LM b6) (Hp (qh jW rfl)) (IA ?_))
 refine Ag (f:=nv) (fo:=nv) (ys:=gx ks) (fun dn ns w' r'=>w=w'/\r'=rest++[gv 1 (gE ks)]++[.list ((gx ks).map nv)]/\ns.Sublist dn/\∀m,m∈ns↔m∈dn/\∃a∈Ks.flatten,aY w.af a m/\jg Ks.flatten a=true)
  (by exact(iG ags (qh jW rfl))) (fun dn cz w' r' u=>k7 (u.2.1▸b6)) ⟨rfl,rfl,.slnil,fun m=>by simp⟩ (fun dn m r e ns w' r' u N2 R2 hN NK=> ?_) fun ns w' r' u=> ?_
 ·refine iA u fun q1 q2 sub hm=> ?_
  subst q1 q2
  refine aD ((hk.mem m).mp ((sm m).mp (by rw[e];simp))) fun a ha EI=> ?_
  have gw:m∉dn:=fun q=>by
   have nd2:(gx ks).Nodup:=so.imp fun h=>qR h
   rw[e,List.nodup_append]at nd2
   exact nd2.2.2 m q m (by simp) rfl
  refine gV ((rI (p:=fun x=>[67,47].contains x) rfl).trans Gp) (gV ((rI (p:=fun x=>[67,47].contains x) rfl).trans YK) (gC (Ec T (hk.at_ a ha) EI hg hk) ?_))
  cases st:jg Ks.flatten a with
  |true=>
   refine NK m _ _ ⟨rfl,rfl,sub.append (List.Sublist.refl _),fun b=> ?_⟩
   rw[gj,gj,hm,eZ]
   exact⟨fun h=>h.elim (fun h=>⟨.inl h.1,h.2⟩) fun h=>⟨.inr h,a,ha,h▸EI,st⟩,fun h=>h.1.elim (fun q=>.inl ⟨q,h.2⟩) .inr⟩
  |false=>
   refine hN _ _ _ ⟨rfl,rfl,sub.trans (List.sublist_append_left _ _),fun b=> ?_⟩
   rw[hm,gj,eZ]
   refine⟨fun h=>⟨.inl h.1,h.2⟩,fun h=>⟨h.1.resolve_right fun q=> ?_,h.2⟩⟩
   subst q
   refine dF h.2 fun b hb Zn sb=> ?_
   rw[EI.xW (hk.at_ a ha) (hk.at_ b hb) Zn]at st
   rw[st]at sb;cases sb
 refine iA u fun q1 q2 sub hm=> ?_
 subst q1 q2
 have pp:f8 w.af ns (Ks.flatten.filter (jg Ks.flatten)):=⟨so.sublist sub,fun m=>by
  rw[hm]
  exact⟨fun h=>DV h fun Z a ha h1 h2=>⟨a,yb.mpr ⟨ha,h2⟩,h1⟩,fun h=>aD h fun a ha h1=>dw (yb.mp ha) fun ha h2=>⟨(sm m).mpr ((hk.mem m).mpr ⟨a,ha,h1⟩),a,ha,h1,h2⟩⟩,
  fun a ha=>hk.has a (yb.mp ha).1,fun a ha=>hk.at_ a (yb.mp ha).1⟩
 have GD:=pp.jW T
 refine gA fun r2 i x2 h2=> ?_
 have x2:=(bx.trans bx).trans x2
 have lt:(ns.map nv).length<aJ:=by rw[fU];unfold aJ;exact(qh GD rfl)
 refine gB (Eb h2 lt) ?_
 match ns,pp,GD,h2,lt with
 |[],pp,GD,h2,lt=>exact g0 2 _ x2 ⟨[],pp,.inl ⟨rfl,rfl⟩⟩
 |[m],pp,GD,h2,lt=>exact gX (nO h2 lt) (gV (lF (i:=0) h2 lt rfl) (g0 m _ x2 ⟨[m],pp,.inr (.inl rfl)⟩))
 |m1::m2::ns,pp,GD,h2,lt=>
  simp only[ql]at GD
  refine gX (nO h2 lt) (gX (nO h2 lt) ?_)
  refine gF (fH ?_) ?_
  ·rw[fU,ql,ql];lia
  refine gV Gp (gW (ly w r2 l) (gY (wY h2 lt) ?_))
  exact gC (g8 (Lv (m1::m2::ns)) (by exact(xX hl rfl))) (hR _ _ (g _ _ _ x2 (Gr.eX _ _) (Qt T pp (by simp) hl)))
end
end
section
variable{l:List Int}{d:Nat}{w:W}{rest:H}
noncomputable def Zw:List V->List (V×V)->List (V×V)
 |k::v::r,es=>Zw r (dM k v es)
 |_,es=>es
noncomputable def Ad(n:Nat):List V->Bool
 |k::_::r=>Nat.beq k.kind n&&Ad n r
 |[]=>true
 |_=>false
theorem lC{k v:V}:∀{es:List (V×V)},(dM k v es).length<=es.length+1
 |[]=>(bX _)
 |(y,u)::r=>by
  rw[l5];split
  ·simp
  ·have:=lC (k:=k) (v:=v) (es:=r);exact(jD this)
theorem yW{n:Nat}(hn:n≠0):∀{AY:List V} {es:List (V×V)},Ad n AY=true->AY.length+es.length<1000->kH AY (heap w (rest++[gv n es])) (.ref (95+rest.length))=some (heap w (rest++[gv n (Zw AY es)]))
 |[],es,_,_=>rfl
 |[x],es,h,_=>nomatch h
 |k::v::r,es,h,hl=>by
  have h:=(dX _ _).mp (show(Nat.beq k.kind n&&Ad n r)=true from h)
  have hk:=vd h.1
  have hat:(rest++[gv n es])[rest.length]? =some (gv n es):=by simp
  rw[Cb,o6 hat hk hn (by simp only[ql]at hl;unfold aJ;lia)]
  dsimp only
  have hs:(rest++[gv n es]).set rest.length (gv n (dM k v es))=rest++[gv n (dM k v es)]:=by simp
  rw[hs,yW hn h.2 (by have:=lC (k:=k) (v:=v) (es:=es);simp only[ql]at hl;lia)]
  rfl
theorem wg{rest:H}{g:Nat}{es:List (V×V)}{v:V}{k:Nat}{u:V}(h:rest[g]? =some (gv k es))(hv:v.kind=k)(hk:k≠0)(hu:aT v es=some u):item (heap w rest) (.ref (95+g)) v=some u:=by
 exact tD ((fC _ _ _).trans h) hv hk hu
theorem MJ{a b:V}(hk:(V.ak [.int 11,a,b]).kind=3)(hl:w.af.length<aJ):bC (P l) (d+2) 305 [.ref 1,a,b] (heap w rest)=some (nv ((kY w.af (.ak [.int 11,a,b])).idxOf (.ak [.int 11,a,b])),heap {w with af:=kY w.af (.ak [.int 11,a,b])} rest):=
 xR (W2 l) fun N R Z hR=>gW (ly w rest l) (gC (g8 hk hl) hR)
theorem wH{a b:V}(hk:(V.ak [.int 3,a,b]).kind=3)(hl:w.af.length<aJ):bC (P l) (d+2) 281 [.ref 1,a,b] (heap w rest)=some (nv ((kY w.af (.ak [.int 3,a,b])).idxOf (.ak [.int 3,a,b])),heap {w with af:=kY w.af (.ak [.int 3,a,b])} rest):=
 xR (W4 l) fun N R Z hR=>gW (ly w rest l) (gC (g8 hk hl) hR)
theorem lD{a b:V}(hk:(V.ak [.int 4,a,b]).kind=3)(hl:w.af.length<aJ):bC (P l) (d+2) 289 [.ref 1,a,b] (heap w rest)=some (nv ((kY w.af (.ak [.int 4,a,b])).idxOf (.ak [.int 4,a,b])),heap {w with af:=kY w.af (.ak [.int 4,a,b])} rest):=
 xR (W3 l) fun N R Z hR=>gW (ly w rest l) (gC (g8 hk hl) hR)
theorem tL{p:Nat->Prop}(h0:p 0)(h2:p 2)(h3:p 3)(h4:p 4)(h6:p 6)(h8:p 8)(h10:p 10)(h12:p 12)(h13:p 13)(h14:p 14)(h16:p 16)(uS:p 18)(h20:p 20)(Zr:p 21)(h22:p 22)(h23:p 23)(yp:p 24)(h26:p 26)(h27:p 27)(h28:p 28)(h29:p 29)(h30:p 30)(h31:p 31)(h32:p 32):∀a∈aU,p a:=by
 simp only[aU,By,qn,false_implies,implies_true,and_true]
 exact⟨h0,h2,h3,h4,h6,h8,h10,h12,h13,h14,h16,uS,h20,Zr,h22,h23,yp,h26,h27,h28,h29,h30,h31,h32⟩
section
variable{M:Ma}{n:Nat}{k:List Fr}{ρ:aO}
theorem gD{vs:List V}{m:Nat}(hm:m≠0)(hk:Ad m vs=true)(hl:vs.length<1000)(g:∀r' i,rest<+:r'->r'[i]? =some (gv m (Zw vs []))->go n M (.v (.ref (95+i)) k) ρ (heap w r')):oD M n k ρ (heap w rest) vs:=by
 refine .mk ?_
 rw[CH,nR,show rest++[Ob.dict 0 []]=rest++[gv m []]from rfl,yW hm hk (by simpa using hl)]
 exact g _ _ bx b6
theorem Wa(T:dj w.af)(a:Nat)(ha:a∈aU)(g:∀m w' r',rest<+:r'->Gr w w' 1->aY w'.af a m->Rt M n k ρ (nv m) (heap w' r')):Cl M n k ρ (bC (P l) (d+3) 1354 [.ref 1,wv (a / 2),nv (a % 2)] (heap w rest)):=by
 refine xV (Qd l) fun N R Z hR=>gD (m:=2) (by decide) rfl ((gP rfl)) fun r i x h=> ?_
 have fx:∀m,aY w.af a m->R (nv m) (heap w r):=fun m hn=>hR _ _ (g m w r x ((Gr.refl _).le (mX)) hn)
 have nw:R (nv ((kY w.af (aV a)).idxOf (aV a))) (heap {w with af:=kY w.af (aV a)} r):=hR _ _ (g _ _ r x (Gr.eX _ _) (ou _ _))
 have mm:=fun v hv=>rS (uJ (w:=w) (v:=v) h hv (by decide))
 have it:=fun v u hv hu=>wg (w:=w) (v:=v) (u:=u) h hv (by decide) hu
 have lt:w.af.length<aJ:=by have:=T.len;exact(jd this rfl)
 have me:=ly w r l
 clear g hR
 revert a
 refine tL ?_ ?_ ?_ ?_ ?_ ?_ ?_ ?_ ?_ ?_ ?_ ?_ ?_ ?_ ?_ ?_ ?_ ?_ ?_ ?_ ?_ ?_ ?_ ?_
 ·exact fun fx Z=>gV (mm (.str [48]) rfl) (gV (it _ _ rfl rfl) (fx 5 (T.cU rfl)))
 ·exact fun fx Z=>gV (mm (.str [70]) rfl) (fx 8 (T.cU rfl))
 ·exact fun fx Z=>gV (mm (.str [70]) rfl) (fx 14 (T.cU rfl))
 ·exact fun Z nw=>gV (mm (.str [76]) rfl) (gC (MJ rfl lt) nw)
 ·exact fun fx Z=>gV (mm (.str [78]) rfl) (gV (it _ _ rfl rfl) (fx 7 (T.cU rfl)))
 ·exact fun fx Z=>gV (mm (.str [79]) rfl) (gV (it _ _ rfl rfl) (fx 10 (T.cU rfl)))
 ·exact fun fx Z=>gV (mm (.str [83]) rfl) (gV (it _ _ rfl rfl) (fx 6 (T.cU rfl)))
 ·exact fun fx Z=>gV (mm (.str [84]) rfl) (fx 9 (T.cU rfl))
 ·exact fun fx Z=>gV (mm (.str [84]) rfl) (fx 15 (T.cU rfl))
 ·exact fun fx Z=>gV (mm (.str [85]) rfl) (gV (it _ _ rfl rfl) (fx 4 (T.cU rfl)))
 ·exact fun fx Z=>gV (mm (.str [86]) rfl) (gV (it _ _ rfl rfl) (fx 3 (T.cU rfl)))
 ·exact fun fx Z=>gV (mm (.str [97,110,121]) rfl) (gV (it _ _ rfl rfl) (fx 0 (T.cU rfl)))
 ·exact fun Z nw=>gV (mm (.str [101,65]) rfl) (gW me (gC (g8 rfl lt) nw))
 ·exact fun Z nw=>gV (mm (.str [101,65]) rfl) (gW me (gC (g8 rfl lt) nw))
 ·exact fun Z nw=>gV (mm (.str [101,66]) rfl) (gW me (gC (g8 rfl lt) nw))
 ·exact fun Z nw=>gV (mm (.str [101,66]) rfl) (gW me (gC (g8 rfl lt) nw))
 ·exact fun fx Z=>gV (mm (.str [101,114,114]) rfl) (gV (it _ _ rfl rfl) (fx 13 (T.cU rfl)))
 ·exact fun Z nw=>gV (mm (.str [110,48]) rfl) (gC (lD rfl lt) nw)
 ·exact fun Z nw=>gV (mm (.str [110,48]) rfl) (gC (lD rfl lt) nw)
 ·exact fun Z nw=>gV (mm (.str [110,49]) rfl) (gC (lD rfl lt) nw)
 ·exact fun Z nw=>gV (mm (.str [110,49]) rfl) (gC (lD rfl lt) nw)
 ·exact fun Z nw=>gV (mm (.str [115,97]) rfl) (gC (wH rfl lt) nw)
 ·exact fun Z nw=>gV (mm (.str [115,97]) rfl) (gC (wH rfl lt) nw)
 ·exact fun fx Z=>gV (mm (.str [117,110,107,110,111,119,110]) rfl) (gV (it _ _ rfl rfl) (fx 1 (T.cU rfl)))
end
end
section
variable{l:List Int}{d:Nat}{w:W}{rest:H}
theorem zy(a:Nat)(x y:Nat):cT [x,y] (av a)=some [(x,wv (a / 2)),(y,nv (a % 2))]:=rfl
theorem wk:∀K:az,(K.map fun a=>[a]).flatten=K
 |[]=>rfl
 |a::K=>by rw[fT,List.flatten_cons,wk K];rfl
theorem Hv{M:Ma}{n:Nat}{k:List Fr}{ρ:aO}{K:az}(T:dj w.af)(ha:∀a∈K,a∈aU)(j:iL K)(hl:w.af.length+K.length+1<90000)
  (g:∀m w' r',rest<+:r'->Gr w w' (K.length+1)->fF w'.af m (eM K)->Rt M n k ρ (nv m) (heap w' r')):Cl M n k ρ (bC (P l) (d+4) 1359 [.ref 1,kv K] (heap w rest)):=by
 refine uX (Qc l) fun N R Z hR=> ?_
 refine DU (f:=av) (fo:=nv) (ys:=K) (mQ:=[(47,.ref 1)]) (b:=fun a=>[(237,wv (a / 2)),(48,nv (a % 2))])
  (fun dn ms w1 r1=>rest<+:r1/\Gr w w1 dn.length/\ms.length=dn.length/\∀(i:Nat) (a m:Nat),K[i]? =some a->ms[i]? =some m->aY w1.af a m)
  (by unfold aJ;lia) (fun a=>zy a 237 48) ⟨List.prefix_refl _,Gr.refl _,rfl,fun i a m Z h=>by exact bJ h⟩ (fun dn a r e ms w1 r1 u N1 R1 hN NL=> ?_) fun ms w1 r1 u=> ?_
 ·have lx:=u.2.1
  have hK:K[dn.length]? =some a:=by rw[e];simp
  have dl:=(kX.mp hK).1
  refine Wa (lx.iU T (by lia)) a (ha a (vc hK)) fun m w2 r2 x2 l2 hn2=>NL m _ _ ⟨u.1.trans x2,by rw[fV];exact lx.trans l2,by simp[u.2.2.1],fun i b c h1 h2=> ?_⟩
  by_cases q:i<ms.length
  ·rw[mZ q]at h2
   exact(u.2.2.2 i b c h1 h2).ext l2.ext
  ·have hi:=(kX.mp h2).1
   have hm:=u.2.2.1
   rw[fV,yf]at hi
   have hi:i=dn.length:=by lia
   rw[hi,hK]at h1
   rw[hi,vg (OR hm),hm,Nat.sub_self]at h2
   cases h1;cases h2;exact hn2
 have lx:=u.2.1
 have T1:=lx.iU T (ur hl)
 have l1:=lx.len
 have hm:=u.2.2.1
 refine gA fun r2 i x2 h2=>vS T1 (xZ l1 hl rfl) ⟨by simp[hm],fun i m K' h2 h3=> ?_⟩ h2 (by unfold aJ;lia) ((wk K).symm▸j) fun m w2 r3 x3 l3 D2=>hR _ _ (g m w2 r3 (u.1.trans (x2.trans x3)) (lx.trans l3) (wk K▸D2))
 rw[u9,ve]at h3
 refine aD h3 fun a h4 q=> ?_
 subst q
 exact cj T1 (ha a (vc h4)) (u.2.2.2 i a m h4 h2)
end
section
variable{l:List Int}{d:Nat}{w:W}{rest:H}
theorem G0:((List.range 17).all fun c=>(wv c).aS&&(wv c).kind==2)=true:=by decide+kernel
theorem G1:((List.range 17).all fun a=>(List.range 17).all fun b=>decide (wv a=wv b->a=b))=true:=by decide+kernel
theorem Lq:((List.range 17).all fun a=>(List.range 17).all fun b=>V.lt (wv a) (wv b)==decide (a<b))=true:=by decide+kernel
theorem Ia:((List.range 34).all fun a=>(av a).aS)=true:=by decide+kernel
theorem Ib:((List.range 34).all fun a=>(List.range 34).all fun b=>decide (av a=av b->a=b))=true:=by decide+kernel
theorem uV{c:Nat}(h:c<17):(wv c).aS=true/\(wv c).kind=2:=by
 have:=dG.mp G0 c (jt.mpr h)
 rw[dX,jE]at this;exact this
theorem TY{a b:Nat}(ha:a<17)(hb:b<17)(h:wv a=wv b):a=b:=
 jx (dG.mp (dG.mp G1 a (jt.mpr ha)) b (jt.mpr hb)) h
theorem wlt{a b:Nat}(ha:a<17)(hb:b<17):V.lt (wv a) (wv b)=decide (a<b):=by
 have:=dG.mp (dG.mp Lq a (jt.mpr ha)) b (jt.mpr hb)
 rwa[jE]at this
theorem acs{a:Nat}(h:a<34):(av a).aS=true:=dG.mp Ia a (jt.mpr h)
theorem acu{a b:Nat}(ha:a<34)(hb:b<34)(h:av a=av b):a=b:=
 jx (dG.mp (dG.mp Ib a (jt.mpr ha)) b (jt.mpr hb)) h
theorem eN{u v:V}(h:u.aS=true)(g:v.aS=true):u.cG v=true:=by unfold V.cG;rw[h,g];rfl
theorem s9{W:List Nat}(hW:∀c∈W,c<17){c:Nat}(hc:c<17):(wv c∈W.map wv)↔c∈W:=
 ⟨fun h=>by refine aD (eY.mp h) fun x h1 h2=> ?_;rw[<-TY (hW x h1) hc h2];exact h1,fun h=>eY.mpr ⟨c,h,rfl⟩⟩
theorem HD{K:az}(hK:∀a∈K,a<34){a:Nat}(ha:a<34):(av a∈K.map av)↔a∈K:=
 ⟨fun h=>by refine aD (eY.mp h) fun x h1 h2=> ?_;rw[<-acu (hK x h1) ha h2];exact h1,fun h=>eY.mpr ⟨a,h,rfl⟩⟩
theorem w9{W:List Nat}(hW:∀c∈W,c<17){v:V}(h:v.aS=true):(v.cG v&&(W.map wv).all v.cG)=true:=by
 rw[dX]
 refine⟨eN h h,dG.mpr fun x hx=> ?_⟩
 refine aD (eY.mp hx) fun c h1 q2=> ?_;subst q2
 exact eN h (uV (hW c h1)).1
theorem El{K:az}(hK:∀c∈K,c<34){v:V}(h:v.aS=true):(v.cG v&&(K.map av).all v.cG)=true:=by
 rw[dX]
 refine⟨eN h h,dG.mpr fun x hx=> ?_⟩
 refine aD (eY.mp hx) fun c h1 q2=> ?_;subst q2
 exact eN h (acs (hK c h1))
theorem Dg:∀(xs:List Nat),(∀c∈xs,c<17)->qW (xs.map wv)=(gx xs).map wv:=by
 have i1:∀(x:Nat) (r:List Nat),x<17->(∀c∈r,c<17)->Gm (wv x) (r.map wv)=(mV x r).map wv:=by
  intro x r
  induction r with
  |nil=>intro _ _;rfl
  |cons y r ih=>
   intro hx hr
   rw[fT,ET,vJ,wlt hx (hr y (by simp))]
   by_cases h:x<y
   ·simp[h]
   ·simp[h,ih hx fun c hc=>hr c (by simp[hc])]
 have:∀(xs bV:List Nat),(∀c∈xs,c<17)->(∀c∈bV,c<17)->(xs.map wv).foldl (fun bV x=>Gm x bV) (bV.map wv)=(xs.foldl (fun bV x=>mV x bV) bV).map wv:=by
  intro xs
  induction xs with
  |nil=>intro bV _ _;rfl
  |cons x xs ih=>
   intro bV h1 h2
   rw[fT,zT,i1 x bV (h1 x (by simp)) h2]
   exact ih _ (fun c hc=>h1 c (by simp[hc])) fun c hc=>by
    rcases lz.mp hc with rfl|hc
    ·exact h1 _ (by simp)
    ·exact h2 _ hc
 intro xs h
 exact this xs [] h (by simp)
theorem o8{xs:List Nat}{n:Nat}(h:n∈gx xs):n∈xs:=by
 have:∀(xs bV:List Nat),n∈xs.foldl (fun bV x=>mV x bV) bV->n∈xs\/n∈bV:=by
  intro xs
  induction xs with
  |nil=>intro bV h;exact .inr h
  |cons x xs ih=>
   intro bV h
   rcases ih _ h with h|h
   ·exact .inl (by simp[h])
   ·rcases lz.mp h with rfl|h
    ·exact .inl (by simp)
    ·exact .inr h
 exact(this xs [] h).elim id fun q=>by simp at q
theorem Ce(x:Nat):∀r:List Nat,(mV x r).length=r.length+1
 |[]=>rfl
 |y::r=>by rw[vJ];split<;>simp[Ce x r]
theorem yV(xs:List Nat):(gx xs).length=xs.length:=by
 have:∀(xs bV:List Nat),(xs.foldl (fun bV x=>mV x bV) bV).length=xs.length+bV.length:=by
  intro xs
  induction xs with
  |nil=>intro bV;simp
  |cons x xs ih=>intro bV;rw[zT,ih,Ce];simp;lia
 exact(this xs []).trans (by simp)
noncomputable def eS(rest:H)(v:V)(W:List Nat):Prop:=v=.ak (W.map wv)\/∃p,v=.ref (95+p)/\rest[p]? =some (.list (W.map wv))
theorem eS.pre{r:H}{v:V}{W:List Nat}(h:eS rest v W)(x:rest<+:r):eS r v W:=h.imp id fun⟨p,e,q⟩=>⟨p,e,fK q x⟩
theorem eS.mem{v:V}{W:List Nat}(h:eS rest v W)(hW:∀c∈W,c<17){u:V}(hu:u.aS=true):bD (heap w rest) u v=some (decide (u∈W.map wv)):=by
 rcases h with rfl|⟨p,rfl,q⟩
 ·exact Aw (w9 hW hu)
 ·exact lA (k7 q) (w9 hW hu)
theorem eS.Ow{v:V}{W:List Nat}(h:eS rest v W)(hW:∀c∈W,c<17){c:Nat}(hc:c<17){b:Bool}(e:decide (c∈W)=b):xH (heap w rest) .cZ (wv c) v=some (.bool b):=
 rS ((h.mem hW (uV hc).1).trans (congrArg some ((iu.mpr (s9 hW hc)).trans e)))
theorem eS.pB{v:V}{W:List Nat}(h:eS rest v W):ny (heap w rest) v=some (W.map wv):=by
 rcases h with rfl|⟨p,rfl,q⟩
 ·rfl
 ·exact LJ (k7 q)
noncomputable def jJ(c:Nat):Option Nat:=if c=13\/c=14\/c=10 then some 3 else if c=15\/c=11 then some 5 else none
noncomputable def BF:List (V×V):=[(wv 13,wv 3),(wv 14,wv 3),(wv 10,wv 3),(wv 15,wv 5),(wv 11,wv 5)]
theorem Ms:((List.range 17).all fun c=>decide (aT (wv c) BF=(jJ c).map wv))=true:=by decide+kernel
theorem zf{c:Nat}(h:c<17):aT (wv c) BF=(jJ c).map wv:=jx (dG.mp Ms c (jt.mpr h))
noncomputable def ff(W:List Nat)(f c:Nat):Nat:=if(jJ c).isSome\/((c=6\/c=1)/\¬(6∈W/\1∈W))then f else 0
noncomputable def uQ(W:List Nat)(c:Nat):Bool:=match jJ c with|some h=>decide (h∈W)|none=>false
noncomputable def cO(W:List Nat)(f:Nat)(cz:az)(c:Nat):az:=if(2*c+ff W f c)∈cz\/uQ W c=true then cz else cz++[2*c+ff W f c]
noncomputable def dI(W:List Nat)(f:Nat):az:=(gx W).foldl (cO W f) []
theorem AU{W:List Nat}{f:Nat}(hf:f<2){cz:az}{c:Nat}(hc:c<17)(h:∀a∈cz,a<34):∀a∈cO W f cz c,a<34:=by
 intro a ha
 unfold cO at ha
 split at ha
 ·exact h a ha
 ·rcases gj.mp ha with ha|ha
  ·exact h a ha
  ·have:=eZ.mp ha
   have:ff W f c<2:=by unfold ff;split<;>lia
   lia
end
section
variable{l:List Int}{d:Nat}{w:W}{rest:H}
theorem OH{a b:Ob}:(rest++[a]++[b])[rest.length]? =some a:=fK b6 bx
theorem ac1{a b o:Ob}:(rest++[a]++[b]).set rest.length o=rest++[o]++[b]:=by rw[List.set_append_left _ _ (by simp),jM]
theorem zp{rest:H}{g:Nat}{es:List (V×V)}{v u:V}{k:Nat}(h:rest[g]? =some (gv k es))(hv:v.kind=k)(hk:k≠0):j7 (heap w rest) (.ref (95+g)) v u=some ((aT v es).getD u):=tH (k7 h) hv hk
theorem sZ{rest:H}{g:Nat}{xs:List V}{v:V}(h:rest[g]? =some (.list xs))(hl:xs.length<aJ):push (heap w rest) (.ref (95+g)) v=some (heap w (rest.set g (.list (xs++[v])))):=(B6 (k7 h) hl).trans (congrArg some (o9 _ _ _ _))
theorem nQ{rest:H}{g:Nat}{xs:List V}(h:rest[g]? =some (.list xs)):Gl (heap w rest) (.ref (95+g))=true:=Mn (k7 h)
theorem CB{rest:H}{g n:Nat}{es:List (V×V)}(h:rest[g]? =some (gv n es)):NF (heap w rest) (.ref (95+g))=true:=Mp (k7 h)
theorem LH:(V.str []).aS=true:=rfl
theorem LG(W:List Nat)(hW:∀c∈W,c<17):V.str []∉W.map wv:=fun h=>by
 refine aD (eY.mp h) fun c h1 h2=> ?_
 have:=dG.mp (show((List.range 17).all fun c=>decide (wv c≠V.str []))=true by decide+kernel) c (jt.mpr (hW c h1))
 exact jx this h2
noncomputable def zv:List St:=[.aQ (.nm 238) (.ite (.eW false [.ex (.bF .cZ (.ah 237) (.ah 54)),.eW true [.ex (.bF .cZ (.ah 237) (.ak [.cst (.str [84]),.cst (.str [70])])),.not (.ex (.ah 235))]]) (.ah 48) (.cst (.int 0))),.ifs (.eW true [.ex (.bF .gw (.ak [.ah 237,.ah 238]) (.ah 236)),.ex (.bF .gw (.sy (.ah 54) (.ah 237) (.cst (.str []))) (.ah 101))]) [.expr (.rV (.ah 236) (.ak [.ah 237,.ah 238]))] []]
theorem yJ{σ:H}{c:Nat}(hc:c<17){b:Bool}(e:decide (c=6\/c=1)=b):xH σ .cZ (wv c) (.ak [.str [84],.str [70]])=some (.bool b):=by
 have:=eS.Ow (w:=⟨[],[],[],0,false,[],[],[],0,0,false,[],[],[],[],[],[]⟩) (rest:=[]) (v:=.ak [.str [84],.str [70]]) (W:=[6,1]) (.inl rfl) (by decide) hc (b:=b) (by simpa using e)
 exact this
theorem CG{r:H}{i c:Nat}(h:r[i]? =some (gv 2 BF))(hc:c<17){b:Bool}(e:(jJ c).isSome=b):xH (heap w r) .cZ (wv c) (.ref (95+i))=some (.bool b):=by
 refine rS ?_
 rw[uJ h (uV hc).2 (by decide),zf hc,<-e];simp
theorem Mr{r:H}{i c:Nat}(h:r[i]? =some (gv 2 BF))(hc:c<17):j7 (heap w r) (.ref (95+i)) (wv c) (.str [])=some (((jJ c).map wv).getD (.str [])):=by
 rw[zp h (uV hc).2 (by decide),zf hc]
theorem FJ{c h:Nat}(e:jJ c=some h):h<17:=by
 unfold jJ at e;split at e
 ·cases e;decide
 ·split at e
  ·cases e;decide
  ·cases e
theorem ud{r:H}{v:V}{W:List Nat}{c:Nat}(h:eS r v W)(hW:∀c∈W,c<17){b:Bool}(e:uQ W c=b):xH (heap w r) .gw (((jJ c).map wv).getD (.str [])) v=some (.bool !b):=by
 refine zK ?_
 unfold uQ at e
 cases q:jJ c with
 |none=>
  rw[q]at e
  rw[Option.map_none,Option.getD_none,h.mem hW LH,<-e]
  simp[LG W hW]
 |some x=>
  rw[q]at e
  rw[Option.map_some,Option.getD_some,h.mem hW (uV (FJ q)).1,<-e]
  congr 1
  rw[iu];exact s9 hW (FJ q)
theorem L5(W:List Nat){f c:Nat}(hf:f<2):ff W f c<2:=by unfold ff;split<;>lia
theorem J'{n c:Nat}(h:n<2):V.ak [wv c,nv n]=av (2*c+n):=by
 unfold av
 rw[show(2*c+n) / 2=c by lia,show(2*c+n) % 2=n by lia]
theorem ED{vj:V}{W:List Nat}{f c i:Nat}{cz:az}{S:Ob}{ρ:aO}{N:aO->H->Prop}{R:V->H->Prop}(hw:eS rest vj W)(hW:∀c∈W,c<17)(hf:f<2)(hc:c<17)(ho:∀a∈cz,a<34)(hl:cz.length<100)(hi:rest[i]? =some (gv 2 BF))
  (l54:ay 54 ρ=some (.ref (95+i)))(agv:ay 235 ρ=some (.bool (decide (6∈W/\1∈W))))(aaa:ay 236 ρ=some (.ref (95+rest.length)))(agw:ay 101 ρ=some vj)(l48:ay 48 ρ=some (nv f))
  (hN:N ((238,nv (ff W f c))::(237,wv c)::ρ) (heap w (rest++[.list ((cO W f cz c).map av)]++[S]))):
  go 1000 ⟨l,d,N,R⟩ (.s zv []) ((237,wv c)::ρ) (heap w (rest++[.list (cz.map av)]++[S])):=by
 have hi:=fK hi (bx.trans bx:rest<+:rest++[.list (cz.map av)]++[S])
 have hw:=hw.pre (bx.trans bx:rest<+:rest++[.list (cz.map av)]++[S])
 have hn:=L5 W (c:=c) hf
 unfold cO at hN
 have next:∀n,go (n+500) ⟨l,d,N,R⟩ (.v (nv (ff W f c)) [.aQ (.nm 238) (zv.drop 1)]) ((237,wv c)::ρ) (heap w (rest++[.list (cz.map av)]++[S])):=fun n=>by
  have m:∀{b:Bool},decide (2*c+ff W f c∈cz)=b->xH (heap w (rest++[.list (cz.map av)]++[S])) .gw (.ak [wv c,nv (ff W f c)]) (.ref (95+rest.length))=some (.bool !b):=fun e=>by
   refine zK ?_
   rw[<-e,J' hn]
   exact(lA (k7 OH) (El ho (acs (show 2*c+ff W f c<34 by lia)))).trans (congrArg some (iu.mpr (HD ho (by lia))))
  refine gV aaa ?_
  by_cases q:2*c+ff W f c∈cz
  ·rw[aI (.inl q)]at hN
   exact gV (m (ez q)) hN
  refine gV (m (fH q)) (gV l54 (gJ (CB hi) ?_))
  apply gV (Mr (w:=w) hi hc)
  refine gV agw ?_
  cases b:uQ W c with
  |true=>
   rw[aI (.inr b)]at hN
   exact gV (ud hw hW b) hN
  |false=>
   rw[aG (by rw[b];simp[q]),List.map_append]at hN
   have p:=sZ (w:=w) (v:=av (2*c+ff W f c)) (OH (rest:=rest) (a:=.list (cz.map av)) (b:=S)) (by rw[fU];exact(jd hl rfl))
   rw[ac1,<-J' hn]at p
   refine gV (ud hw hW b) (gV aaa (gJ (nQ OH) (gU p ?_)))
   rw[J' hn];exact hN
 cases e1:(jJ c).isSome with
 |true=>
  have e:ff W f c=f:=by unfold ff;rw[aI (.inl e1)]
  rw[e]at next
  exact gV l54 (gV (CG hi hc e1) (gV l48 (next _)))
 |false=>
  refine gV l54 (gV (CG hi hc e1) ?_)
  by_cases e2:c=6\/c=1
  ·refine gV (yJ hc (ez e2)) (gV agv ?_)
   by_cases e3:6∈W/\1∈W
   ·rw[ez e3]
    have e:ff W f c=0:=by unfold ff;rw[aG (by rw[e1];simp[e3])]
    rw[e]at next
    exact next _
   ·rw[fH e3]
    have e:ff W f c=f:=by unfold ff;rw[aI (.inr ⟨e2,e3⟩)]
    rw[e]at next
    exact gV l48 (next _)
  ·have e:ff W f c=0:=by unfold ff;rw[aG (by rw[e1];simp[e2])]
   rw[e]at next
   exact gV (yJ hc (fH e2)) (next _)
end
section
variable{l:List Int}{d:Nat}{w:W}{rest:H}
theorem pq{W:List Nat}{f:Nat}(hf:f<2):∀(xs:List Nat),(∀c∈xs,c<17)->∀(cz:az),(∀a∈cz,a<34)->(∀a∈xs.foldl (cO W f) cz,a<34)/\(xs.foldl (cO W f) cz).length<=cz.length+xs.length
 |[],_,cz,h=>⟨h,(bX _)⟩
 |x::xs,hx,cz,h=>by
  obtain⟨i1,i2⟩:=pq hf xs (fun c hc=>hx c (by simp[hc])) (cO W f cz x) (AU hf (hx x (by simp)) h)
  refine⟨i1,?_⟩
  rw[zT]
  have:(cO W f cz x).length<=cz.length+1:=by unfold cO;split<;>simp
  simp only[ql];lia
theorem ahd{a b:Ob}:(rest++[a]++[b])[rest.length+1]? =some b:=by simp
theorem AL{W:List Nat}(hW:∀c∈W,c<17)(h:W.length<64):sorted (W.map wv)=some ((gx W).map wv):=by
 have:DZ (W.map wv)=true:=dG.mpr fun x hx=>aD (eY.mp hx) fun c _ e=>e▸rfl
 unfold sorted
 rw[Dg W hW,this]
 simp[h]
theorem nV{M:Ma}{n:Nat}{k:List Fr}{ρ:aO}{vj:V}{W:List Nat}{f:Nat}(hw:eS rest vj W)(hW:∀c∈W,c<17)(k6:W.length<60)(hf:f<2)
  (g:∀r',rest<+:r'->Rt M n k ρ (kv (dI W f)) (heap w r')):Cl M n k ρ (bC (P l) (d+1) 1342 [vj,nv f] (heap w rest)):=by
 refine uX (Qf l) fun N R Z hR=>gD (m:=2) (by decide) rfl ((gP rfl)) fun r i x h=> ?_
 have hw:=hw.pre x
 have aeY:(gx W).length<60:=by rw[yV];exact k6
 have next:∀n,go (n+500) ⟨l,d,N,R⟩ (.v (.bool (decide (6∈W/\1∈W))) [.aQ (.nm 235) (E4.body.drop 2)]) [(54,.ref (95+i)),(101,vj),(48,nv f)] (heap w r):=fun n=>by
  refine IA (gZ ((hw.pre bx).pB (w:=w)) (AL hW (jd k6 rfl)) (IA ?_))
  refine JL (f:=wv) (ys:=gx W) (fun dn be w' r'=>w=w'/\r'=r++[.list ((dn.foldl (cO W f) []).map av)]++[.list ((gx W).map wv)]/\ay 54 be=some (.ref (95+i))/\ay 235 be=some (.bool (decide (6∈W/\1∈W)))/\ay 236 be=some (.ref (95+r.length))/\ay 101 be=some vj/\ay 48 be=some (nv f))
   (by exact(jd aeY rfl)) (fun dn be w' r' u=>k7 (by rw[u.2.1,fV];exact ahd)) ⟨rfl,rfl,rfl,rfl,rfl,rfl,rfl⟩ (fun dn c r e cu w' r' u N1 hN=> ?_) fun cu w' r' u=> ?_
  ·refine lB u fun q1 q h54 UT OD UU h48=> ?_
   subst q q1
   have hS:∀x∈dn++c::r,x<17:=fun x hx=>hW x (o8 (e▸hx))
   have b:=pq (W:=W) hf dn (fun x hx=>hS x (List.mem_append_left _ hx)) [] (by simp)
   have:=congrArg List.length e
   rw[fV]at this
   refine ED hw hW hf (hS c (by simp)) b.1 (by have:=b.2;rw[List.length_nil]at this;lia) h h54 UT OD UU h48 (hN _ _ _ ⟨rfl,?_,h54,UT,OD,UU,h48⟩)
   rw[List.foldl_append];rfl
  ·refine lB u fun q1 q h54 UT OD UU h48=> ?_
   subst q q1
   have b:=(pq (W:=W) hf (gx W) (fun x hx=>hW x (o8 hx)) [] (by simp)).2
   exact gV OD (gY (wY OH (by rw[fU];unfold aJ;rw[List.length_nil]at b;lia)) (hR _ _ (g _ (x.trans (bx.trans bx)))))
 by_cases q6:6∈W
 ·refine gV (hw.Ow hW (by decide) (c:=6) (ez q6)) ?_
  refine gV (hw.Ow hW ((gP rfl)) (c:=1) rfl) ?_
  have e:decide (6∈W/\1∈W)=decide (1∈W):=by simp[q6]
  rw[<-e]
  exact next _
 ·have e:decide (6∈W/\1∈W)=false:=by simp[q6]
  rw[e]at next
  exact gV (hw.Ow hW (by decide) (c:=6) (fH q6)) (next _)
end
section
variable{l:List Int}{d:Nat}{w:W}{rest:H}
noncomputable def IK:List V:=[.int 0,.int 0,.int 0,.int 1,.int 0,.int 4,.int 2,.int 0,.int 4,.int 3,.int 0,.int 6,.int 11,.int 4,.int 0,.int 0,.int 6,.int 0,.int 5,.int 1,.int 2,.int 5,.int 1,.int 6,.int 0,.int 0,.int 3,.int 0,.int 3,.int 9,.int 1,.int 2,.int 1,.int 0,.int 3,.int 2,.int 0,.int 5,.int 1,.int 0,.int 4,.int 7,.int 3,.int 2,.int 1,.int 1,.int 3,.int 0,.int 3,.int 6,.int 0,.int 3,.int 1,.int 2,.int 0,.int 9,.int 12,.int 3,.int 1,.int 4,.int 5,.int 5,.int 2,.int 6]
noncomputable def DT:V->Bool
 | .int _=>true
 |_=>false
theorem CA{v:V}(h:DT v=true):∃i,v=.int i:=by cases v<;>first|exact⟨_,rfl⟩|cases h
theorem V8(n:Nat):∃i,∀σ,item σ (.ak IK) (.int ((n % 64:Nat):Int))=some (.int i):=by
 have h:n % 64<IK.length:=Nat.mod_lt _ (by decide)
 refine bR (CA (dG.mp (show IK.all DT=true by decide) IK[n % 64] (Bv h))) fun i e=> ?_
 refine⟨i,fun σ=> ?_⟩
 rw[eu σ IK (n % 64) (by decide),pJ h,e]
structure qq(w:W):Prop where
 intz:∀v∈w.cB,DT v=true
 jW:w.cB.length<=63
structure ZD(hp:W->H)(rest:H):Prop where
 f1:∀w,item (hp w) (.ref 94) (.str [97,116])=some (nv w.at_)
 f2:∀w n,dD (hp w) (.ref 94) (.str [97,116]) (nv n)=some (hp {w with at_:=n})
 f3:∀w,item (hp w) (.ref 94) (.str [110,117,109,115])=some (.ref 88)
 f4:∀w,(hp w)[88]? =some (.list w.cB)
 f5:∀w b,dD (hp w) (.ref 94) (.str [112,108,97,105,110]) (.bool b)=some (hp {w with plain:=b})
 f6:∀w,item (hp w) (.ref 94) (.str [112,108,97,105,110])=some (.bool w.plain)
 f7:∀w b,lO (P []).gI (hp w) (.ref 25) 170 (.ref (if b then 86 else 84))=some (heap {w with jp:=b} rest)
theorem CM(rest:H):ZD (fun w=>heap w rest) rest:=
 ⟨fun Z=>rfl,fun Z Z=>rfl,fun Z=>rfl,fun Z=>rfl,fun Z Z=>rfl,fun Z=>rfl,fun w b=>by cases b<;>rfl⟩
section
variable{M:Ma}{m:Nat}{k:List Fr}{ρ:aO}
theorem Ku{n:Nat}(hn:0<n)(x:Int):∃k,k<n/\NR .mod (.int x) (nv n)=some (nv k):=by
 have h1:=Int.emod_nonneg x (show(n:Int)≠0 by exact(ahq hn))
 have h2:=Int.emod_lt_of_pos x (show(0:Int)<n by exact(GU hn))
 refine bR (Int.eq_ofNat_of_zero_le h1) fun k hk=>⟨k,by lia,?_⟩
 exact(aI (show(0:Int)<n by exact(GU hn))).trans (congrArg (fun x=>some (V.int x)) hk)
theorem B5{hp:W->H}(F:ZD hp rest){n:Nat}(N:qq w)(hn:0<n)(g:∀j,j<n->Rt M m k ρ (nv j) (hp {w with at_:=w.at_+1})):Cl M m k ρ (bC (P l) (d+1) 1335 [.ref 94,nv n] (hp w)):=by
 refine uX (Qg l) fun N1 R Z hR=>gV (F.f1 w) (gH (F.f2 w (w.at_+1)) ?_)
 refine bR (V8 w.at_) fun i hi=>gV (hi _) ?_
 have lt:w.cB.length<aJ:=by have:=N.jW;exact(qh this rfl)
 have sq:uh (hp {w with at_:=w.at_+1}) (.ref 88)=some w.cB:=As (F.f4 _) lt
 refine gV (F.f3 _) (gX sq ?_)
 by_cases q:w.cB.length=0
 ·exact gF (fH (acI q)) (aD (Ku hn i) fun j hj e=>gV e (hR _ _ (g j hj)))
 refine gT (ez (VI q)) (gV (F.f3 _) (gV (F.f3 _) (gX sq ?_)))
 have Iu:w.at_ % w.cB.length<w.cB.length:=Nat.mod_lt _ (acF q)
 have e2:NR .mod (nv w.at_) (.int (w.cB.length:Int))=some (.int ((w.at_ % w.cB.length:Nat):Int)):=aI (show(0:Int)<w.cB.length by exact(VI q))
 refine bR (CA (N.intz w.cB[w.at_ % w.cB.length] (Bv Iu))) fun x hx=> ?_
 have ij:item (hp {w with at_:=w.at_+1}) (.ref 88) (.int ((w.at_ % w.cB.length:Nat):Int))=some (.int x):=by
  exact(we (F.f4 {w with at_:=w.at_+1}) lt).trans ((pJ Iu).trans (congrArg some hx))
 refine gV e2 (gV ij (aD (Ku hn (i+x)) fun j hj e=> ?_))
 apply gV e
 exact hR _ _ (g j hj)
theorem fu{n:Nat}(N:qq w)(hn:0<n)(g:∀j,j<n->Rt M m k ρ (nv j) (heap {w with at_:=w.at_+1} rest)):Cl M m k ρ (bC (P l) (d+1) 1335 [.ref 94,nv n] (heap w rest)):=
 B5 (CM rest) N hn g
end
end
section
variable{l:List Int}{d:Nat}{w:W}{rest:H}
noncomputable def aeT:List (List Nat):=[[110,48],[110,49],[110,55],[110,97,110],[110,65],[115],[115,97],[115,66],[116],[102],[48],[117],[111]]
noncomputable def vv(c:Nat):V:=.str ((aeT[c]?).getD [])
noncomputable def acV:List (List Nat):=[[10],[9],[12],[0,1,2,3,4],[12],[5,6,7],[8],[11],[11],[0,1,2,3,4,5,6,7,8,9,10,11,12],[4],[7],[0,1,2,3,4,5,6,7,8,9,10,11,12],[0],[1],[6],[0,1,2,3,4,5,6,7,8,9,10,11,12]]
noncomputable def fh(c:Nat):List Nat:=(acV[c]?).getD []
noncomputable def fW(K:az):List Nat:=K.flatMap fun a=>fh (a / 2)
noncomputable def tv(xs:List Nat):V:=.ak (xs.map vv)
noncomputable def uM:List (V×V):=[3,5,6,1,0,7,8,4,2,13,14,15,10,11,9,12,16].map fun c=>(wv c,tv (fh c))
theorem HP:((List.range 17).all fun c=>decide (aT (wv c) uM=some (tv (fh c)))&&Nat.blt (fh c).length 20&&(fh c).all (fun x=>Nat.blt x 13))=true:=by decide+kernel
theorem rL{c:Nat}(h:c<17):aT (wv c) uM=some (tv (fh c))/\(fh c).length<20/\∀x∈fh c,x<13:=by
 have:=dG.mp HP c (jt.mpr h)
 simp only[dX,lW]at this
 exact⟨this.1.1,mH this.1.2,fun x hx=>mH (dG.mp this.2 x hx)⟩
theorem Ls:((List.range 13).all fun c=>(vv c).aS)=true:=by decide+kernel
theorem Lu:((List.range 13).all fun a=>(List.range 13).all fun b=>decide (vv a=vv b->a=b))=true:=by decide+kernel
theorem NV{c:Nat}(h:c<13):(vv c).aS=true:=dG.mp Ls c (jt.mpr h)
theorem aeS{a b:Nat}(ha:a<13)(hb:b<13)(h:vv a=vv b):a=b:=
 jx (dG.mp (dG.mp Lu a (jt.mpr ha)) b (jt.mpr hb)) h
theorem vR{K:az}(hK:∀a∈K,a<34):∀v∈fW K,v<13:=fun v hv=>by
 refine aD (yd.mp hv) fun a ha h=> ?_
 exact(rL (show a / 2<17 by have:=hK a ha;exact(Bq this))).2.2 v h
theorem Dh{rest:H}{g:Nat}{xs ys:List V}(h:rest[g]? =some (.list xs))(hl:xs.length+ys.length<aJ):lZ (heap w rest) (.ref (95+g)) (.ak ys)=some (heap w (rest.set g (.list (xs++ys)))):=by
 simp only[lZ,fC,h,hl,if_true,o9]
theorem CJ{f:Nat->List Nat}{n:Nat}(h:∀a,a<34->(f a).length<n):∀K:az,(∀a∈K,a<34)->(K.flatMap f).length<=K.length*n
 |[],_=>by simp
 |a::K,hK=>by
  have:=CJ h K fun b hb=>hK b (by simp[hb])
  have:=h a (hK a (by simp))
  rw[List.flatMap_cons,fV,ql];lia
noncomputable def dK(K:az):Prop:=(∀a∈K,a<34)/\K.length<40
theorem dK.lt{K:az}(h:dK K):(K.map av).length<aJ:=by rw[fU];have:=h.2;exact(jd this rfl)
theorem Sl{n:Nat}{r:List St}{k:List Fr}{ρ:aO}{N0:aO->H->Prop}{R:V->H->Prop}{x y:Nat}{body:List St}{K:az}(I:List Nat->aO->W->H->Prop)(hK:dK K)(h0:I [] ρ w rest)
  (step:∀dn b r,K=dn++b::r->∀ρ w r,I dn ρ w r->∀N,(∀be w' r',I (dn++[b]) be w' r'->N be (heap w' r'))->go 1000 ⟨l,d,N,R⟩ (.s body []) ((y,nv (b % 2))::(x,wv (b / 2))::ρ) (heap w r))
  (fm:∀ρ w' r',I K ρ w' r'->go n ⟨l,d,N0,R⟩ (.s r k) ρ (heap w' r')):oF ⟨l,d,N0,R⟩ n [x,y] body r k ρ (heap w rest) (kv K) (ao (heap w rest) (kv K)):=
 aaq (f:=av) (b:=fun b=>[(x,wv (b / 2)),(y,nv (b % 2))]) (fun dn ρ σ=>∃w r,σ=heap w r/\I dn ρ w r) (by simp only[ao,kv,hK.lt,if_true]) rfl (fun Z Z Z Z=>uF hK.lt _) (fun b=>zy b x y) ⟨w,rest,rfl,h0⟩
  (fun dn y r e ρ σ ⟨w,r,e2,h⟩ N hN=>e2▸step dn y _ e ρ w r h N fun be w' r' h=>hN _ _ ⟨w',r',rfl,h⟩) fun ρ σ ⟨w,r,e,h⟩=>e▸fm ρ w r h
theorem CN{xs ys:List V}(h:xs.length+ys.length<aJ):lZ (heap w (rest++[.list xs])) (.ref (95+rest.length)) (.ak ys)=some (heap w (rest++[.list (xs++ys)])):=by
 rw[Dh b6 h,jM]
theorem CK{f:Nat->List V}(hf:∀b,b<34->(f b).length<20){K dn r:az}{b:Nat}(hK:dK K)(e:K=dn++b::r):(dn.flatMap f).length+(f b).length<aJ:=by
 have fl:∀(xs:List Nat),(∀b∈xs,b<34)->(xs.flatMap f).length<=xs.length*20:=by
  intro xs
  induction xs with
  |nil=>intro _;simp
  |cons b xs ih=>
   intro h
   have:=ih fun c hc=>h c (by simp[hc])
   have:=hf b (h b (by simp))
   rw[List.flatMap_cons,fV,ql];lia
 have h:=hK.2
 have h1:=fl dn fun c hc=>hK.1 c (by rw[e];exact List.mem_append_left _ hc)
 have h2:=hf b (hK.1 b (by rw[e];simp))
 rw[e,fV]at h
 unfold aJ;lia
theorem Eu(K:az):(K.flatMap fun b=>(fh (b / 2)).map vv)=(fW K).map vv:=by
 unfold fW;rw[List.map_flatMap]
theorem Ep:Zw [.str [78],tv [0,1,2,3,4],.str [83],tv [5,6,7],.str [84],tv [8],.str [70],tv [9],.str [48],tv [10],.str [85],tv [11],.str [86],tv [11],.str [79],tv [12],.str [76],tv [12],.str [110,48],tv [0],.str [110,49],tv [1],.str [115,97],tv [6],.str [101,65],tv [4],.str [101,66],tv [7],.str [97,110,121],tv (List.range 13),.str [101,114,114],tv (List.range 13),.str [117,110,107,110,111,119,110],tv (List.range 13)] []=uM:=by decide+kernel
theorem sU{M:Ma}{n:Nat}{k:List Fr}{ρ:aO}{K:az}(hK:dK K)(g:∀r' p,rest<+:r'->r'[p]? =some (.list ((fW K).map vv))->Rt M n k ρ (.ref (95+p)) (heap w r')):Cl M n k ρ (bC (P l) (d+1) 1366 [kv K] (heap w rest)):=by
 refine DA (Qa l) fun N R Z hR=>gD (m:=2) (by decide) rfl ((gP rfl)) fun r i x h=>IA ?_
 have h:r[i]? =some (gv 2 uM):=h.trans (congrArg (fun x=>some (gv 2 x)) Ep)
 have hf:∀b,b<34->((fh (b / 2)).map vv).length<20:=fun b hb=>by rw[fU];exact(rL (Bq hb)).2.1
 refine Sl (fun dn be w' r'=>w=w'/\r'=r++[.list (dn.flatMap fun b=>(fh (b / 2)).map vv)]/\ay 236 be=some (.ref (95+r.length))/\ay 244 be=some (.ref (95+i))) hK ⟨rfl,rfl,rfl,rfl⟩ (fun dn b r e cu w' r' u N1 hN=> ?_) fun cu w' r' u=> ?_
 ·refine iA u fun q1 q h1 h2=> ?_
  subst q q1
  have Zs:b / 2<17:=by have:=hK.1 b (by rw[e];simp);exact(Bq this)
  refine gV h1 (gJ (nQ b6) (gV h2 (gV (wg (w:=w) (fK h bx) (uV Zs).2 (by decide) (rL Zs).1) ?_)))
  apply gU (CN (CK hf hK e))
  exact hN _ _ _ ⟨rfl,by simp,h1,h2⟩
 ·refine iA u fun q1 q h1 h2=> ?_
  subst q q1
  exact gV h1 (hR _ _ (g _ _ (x.trans bx) (by rw[b6,Eu])))
end
section
variable{l:List Int}{d:Nat}{w:W}{rest:H}
noncomputable def OV:List (List Nat):=[[0],[6,1],[2],[3],[4],[5],[6,1],[7],[8],[9],[10,11],[10,11],[12],[3],[3],[5],[16]]
noncomputable def jf(c:Nat):List Nat:=(OV[c]?).getD []
noncomputable def pL(K:az):List Nat:=K.flatMap fun a=>jf (a / 2)
noncomputable def ww(xs:List Nat):V:=.ak (xs.map wv)
noncomputable def uB:List (V×V):=[13,14,15,6,1,10,11].map fun c=>(wv c,ww (jf c))
theorem D8:((List.range 17).all fun c=>decide ((aT (wv c) uB).getD (.ak [wv c])=ww (jf c))&&Nat.blt (jf c).length 20&&(jf c).all (fun x=>Nat.blt x 17))=true:=by decide+kernel
theorem sS{c:Nat}(h:c<17):(aT (wv c) uB).getD (.ak [wv c])=ww (jf c)/\(jf c).length<20/\∀x∈jf c,x<17:=by
 have:=dG.mp D8 c (jt.mpr h)
 simp only[dX,lW]at this
 exact⟨this.1.1,mH this.1.2,fun x hx=>mH (dG.mp this.2 x hx)⟩
theorem CY{K:az}(hK:∀a∈K,a<34):∀v∈pL K,v<17:=fun v hv=>by
 refine aD (yd.mp hv) fun a ha h=> ?_
 exact(sS (show a / 2<17 by have:=hK a ha;exact(Bq this))).2.2 v h
theorem Et(K:az):(K.flatMap fun b=>(jf (b / 2)).map wv)=(pL K).map wv:=by
 unfold pL;rw[List.map_flatMap]
theorem C6:Zw [.str [110,48],ww [3],.str [110,49],ww [3],.str [115,97],ww [5],.str [84],ww [6,1],.str [70],ww [6,1],.str [101,65],ww [10,11],.str [101,66],ww [10,11]] []=uB:=by decide+kernel
theorem uR{M:Ma}{n:Nat}{k:List Fr}{ρ:aO}{K:az}(hK:dK K)(hb:(pL K).length<60)(g:∀r',rest<+:r'->Rt M n k ρ (kv (dI (pL K) 0)) (heap w r')):Cl M n k ρ (bC (P l) (d+2) 1373 [kv K] (heap w rest)):=by
 refine DA (P9 l) fun N R Z hR=>gD (m:=2) (by decide) rfl (by decide) fun r i x h=>IA ?_
 have h:r[i]? =some (gv 2 uB):=h.trans (congrArg (fun x=>some (gv 2 x)) C6)
 have hf:∀b,b<34->((jf (b / 2)).map wv).length<20:=fun b hb=>by rw[fU];exact(sS (Bq hb)).2.1
 refine Sl (fun dn be w' r'=>w=w'/\r'=r++[.list (dn.flatMap fun b=>(jf (b / 2)).map wv)]/\ay 101 be=some (.ref (95+r.length))/\ay 245 be=some (.ref (95+i))) hK ⟨rfl,rfl,rfl,rfl⟩ (fun dn b r e cu w' r' u N1 hN=> ?_) fun cu w' r' u=> ?_
 ·refine iA u fun q1 q h1 h2=> ?_
  subst q q1
  have Zs:b / 2<17:=by have:=hK.1 b (by rw[e];simp);exact(Bq this)
  have hd:=zp (w:=w) (u:=.ak [wv (b / 2)]) (fK h (bx (j:=[Ob.list (dn.flatMap fun b=>(jf (b / 2)).map wv)]))) (uV Zs).2 (by decide)
  rw[(sS Zs).1]at hd
  refine gV h1 (gJ (nQ b6) (gV h2 (gJ (CB (fK h bx)) ?_)))
  apply gV hd
  apply gU (CN (CK hf hK e))
  exact hN _ _ _ ⟨rfl,by simp,h1,h2⟩
 ·refine iA u fun q1 q h1 h2=> ?_
  subst q q1
  refine gV h1 (nV (f:=0) (.inr ⟨_,rfl,b6.trans (by rw[Et])⟩) (CY hK.1) hb (by decide) fun r' x'=>hR _ _ (g _ (x.trans (bx.trans x'))))
theorem vK{K:az}(h:∀a∈K,a<34):(kv K).aS=true:=by
 have k5:∀a,a<34->V.d8 5 (av a)=true:=fun a ha=>dG.mp (show((List.range 34).all fun a=>V.d8 5 (av a))=true by decide+kernel) a (jt.mpr ha)
 have:∀K:az,(∀a∈K,a<34)->V.cX 5 (K.map av)=true:=by
  intro K
  induction K with
  |nil=>intro _;rfl
  |cons a K ih=>intro h;rw[fT,b7,k5 a (h a (by simp)),ih fun b hb=>h b (by simp[hb])];rfl
 exact this K h
theorem vL{K L:az}(hK:∀a∈K,a<34)(hL:∀a∈L,a<34)(h:kv K=kv L):K=L:=by
 have:∀K L:az,(∀a∈K,a<34)->(∀a∈L,a<34)->K.map av=L.map av->K=L:=by
  intro K
  induction K with
  |nil=>intro L _ _ h;cases L with|nil=>rfl|cons=>simp at h
  |cons a K ih=>
   intro L hK hL h
   cases L with
   |nil=>simp at h
   |cons b L=>
    rw[fT,fT,ya]at h
    rw[acu (hK a (by simp)) (hL b (by simp)) h.1,ih L (fun c hc=>hK c (by simp[hc])) (fun c hc=>hL c (by simp[hc])) h.2]
 unfold kv at h
 exact this K L hK hL (V.ak.inj h)
theorem E6(σ:H){K L:az}(hK:∀a∈K,a<34)(hL:∀a∈L,a<34):eqv σ (kv K) (kv L)=some (decide (K=L)):=by
 have:eqv σ (kv K) (kv L)=if(kv K).cG (kv L)then some (decide (kv K=kv L))else none:=rfl
 rw[this,eN (vK hK) (vK hL),aI rfl]
 congr 1
 rw[iu]
 exact⟨vL hK hL,fun e=>by rw[e]⟩
noncomputable def ji(plain:Bool)(K L:az):Bool:=if plain then decide (K=[]\/L=[]\/∃v∈fW L,v∈fW K)else decide (K=L)
theorem zh{n:Nat}{k:List Fr}{ρ mQ:aO}{N0:aO->H->Prop}{R:V->H->Prop}{xs:List Nat}{p:Nat->Bool}{q:Nat}{cond:List Cd}(hl:xs.length<1000)(hq:rest[q]? =some (.list (xs.map vv)))
  (hc:∀x∈xs,∀N R1,(p x=false->∀be,N be (heap w rest))->(p x=true->R1 (vv x) (heap w rest))->go 1000 ⟨l,d,N,R1⟩ (.c (.eW true cond) [.Nl (.ah 246)]) ((246,vv x)::mQ) (heap w rest))
  (fm:∀r' i,rest<+:r'->r'[i]? =some (.list ((xs.filter p).map vv))->go n ⟨l,d,N0,R⟩ (.v (.ref (95+i)) k) ρ (heap w r')):oM ⟨l,d,N0,R⟩ n (.ah 246) [246] cond mQ k ρ (heap w rest) (.ref (95+q)) (ao (heap w rest) (.ref (95+q))):=by
 refine Ag (f:=vv) (fo:=vv) (ys:=xs) (fun dn cz w' r'=>w=w'/\rest=r'/\cz=dn.filter p) (by exact(jd hl rfl)) (fun dn cz w' r' u=>by rw[<-u.2.1];exact k7 hq) ⟨rfl,rfl,rfl⟩ (fun dn x r e cz w' r' u N1 R1 hN hR=> ?_) fun vs w' r' u=> ?_
 ·refine iX u fun q1 q2 q3=> ?_
  subst q1 q2 q3
  exact hc x (by rw[e];simp) N1 R1 (fun h be=>hN be _ _ ⟨rfl,rfl,by simp[h]⟩) fun h=>hR x _ _ ⟨rfl,rfl,by simp[h]⟩
 ·refine iX u fun q1 q2 q3=> ?_
  subst q1 q2 q3
  exact gA fm
theorem o4{K:az}(hK:dK K):(fW K).length<1000:=by
 have:=CJ (f:=fun a=>fh (a / 2)) (n:=20) (fun a ha=>(rL (show a / 2<17 by exact(Bq ha))).2.1) K hK.1
 have h2:=hK.2
 unfold fW
 lia
theorem DJ(σ:H){K:az}(hK:dK K):uh σ (kv K)=some (K.map av):=by
 have h:=hK.lt
 unfold kv uh
 dsimp only
 rw[aI h]
end
section
variable{l:List Int}{d:Nat}{w:W}{rest:H}
theorem L7{g:Nat}{xs:List Nat}{v:Nat}(h:rest[g]? =some (.list (xs.map vv)))(hx:∀x∈xs,x<13)(hv:v<13):bD (heap w rest) (vv v) (.ref (95+g))=some (decide (v∈xs)):=by
 have lk:(V.cG (vv v) (vv v)&&(xs.map vv).all (V.cG (vv v)))=true:=by
  rw[dX]
  refine⟨eN (NV hv) (NV hv),dG.mpr fun x hx'=> ?_⟩
  refine aD (eY.mp hx') fun c h1 q2=> ?_;subst q2
  exact eN (NV hv) (NV (hx c h1))
 refine(lA (k7 h) lk).trans (congrArg some (iu.mpr ⟨fun q=>by refine aD (eY.mp q) fun y h1 h2=> ?_;rw[<-aeS (hx y h1) hv h2];exact h1,fun q=>eY.mpr ⟨v,q,rfl⟩⟩))
theorem Pv{xs:List Nat}{p:Nat->Bool}:decide ((0:Int)<((xs.filter p).map vv).length)=decide (∃v∈xs,p v=true):=by
 rw[iu,fU]
 constructor
 ·intro h
  have:0<(xs.filter p).length:=by lia
  refine bR (List.exists_mem_of_length_pos this) fun v hv=> ?_
  exact⟨v,(yb.mp hv).1,(yb.mp hv).2⟩
 ·intro u0;refine aD u0 fun v h1 h2=> ?_
  have:=List.length_pos_of_mem (yb.mpr ⟨h1,h2⟩)
  exact(GU this)
theorem Ck{M:Ma}{n:Nat}{k:List Fr}{ρ:aO}{K L:az}(hK:dK K)(hL:dK L)(g:∀r',rest<+:r'->Rt M n k ρ (.bool (ji w.plain K L)) (heap w r')):Cl M n k ρ (bC (P l) (d+2) 1378 [.ref 94,kv K,kv L] (heap w rest)):=by
 refine xV (P8 l) fun N R Z hR=> ?_
 have g:∀r' b,rest<+:r'->ji w.plain K L=b->R (.bool b) (heap w r'):=fun r' b x e=>hR _ _ (e▸g r' x)
 unfold ji at g
 cases hp:w.plain with
 |false=>exact gT (by rw[hp];rfl) (gV (Nv (E6 _ hK.1 hL.1)) (g _ _ (List.prefix_refl _) (by rw[hp];rfl)))
 |true=>
  rw[hp,aI rfl]at g
  refine gF (by rw[hp];rfl) ?_
  cases K with
  |nil=>exact(g _ _ (List.prefix_refl _) (ez (.inl rfl)))
  |cons a K=>
   refine gX (DJ _ hK) ?_
   cases L with
   |nil=>exact(g _ _ (List.prefix_refl _) (ez (.inr (.inl rfl))))
   |cons b L=>
    refine gX (DJ _ hL) (sU hK fun r1 p1 x1 h1=>sU hL fun r2 p2 x2 h2=>zh (mQ:=[(54,.ref (95+p1))]) (p:=fun v=>decide (v∈fW (a::K))) (o4 hL) h2 (fun x hx N1 R1 hN NL=> ?_) fun r3 i x3 h3=> ?_)
    ·have m:=L7 (w:=w) (v:=x) (fK h1 x2) (vR hK.1) (vR hL.1 x hx)
     refine gV (rS m) ?_
     cases e:decide (x∈fW (a::K))with
     |true=>exact NL e
     |false=>exact hN e _
    ·refine gX (nO h3 (by rw[fU];have:=o4 hL;have:=List.length_filter_le (fun v=>decide (v∈fW (a::K))) (fW (b::L));unfold aJ;lia)) (g _ _ (x1.trans (x2.trans x3)) (.trans ?_ (Pv (xs:=fW (b::L)) (p:=fun v=>decide (v∈fW (a::K)))).symm))
     simp
end
section
variable{l:List Int}{d:Nat}{w:W}{rest:H}
noncomputable def fcT:List Nat:=[110,110,110,110,110,115,115,115,116,102,48,117,111]
noncomputable def fc(v:Nat):Nat:=(fcT[v]?).getD 0
noncomputable def NX:V->List Nat
 | .str s=>s
 |_=>[]
theorem Xe:((List.range 13).all fun v=>decide ((NX (vv v))[0]? =some (fc v))&&Nat.blt (NX (vv v)).length 10&&Nat.blt (fc v) 1000)=true:=by decide+kernel
theorem PR{v:Nat}(h:v<13)(σ:H):item σ (vv v) (.int 0)=some (.str [fc v])/\fc v<1000:=by
 have:=dG.mp Xe v (jt.mpr h)
 simp only[dX,lW]at this
 refine dw this fun u1 h3=> ?_;refine dw u1 fun h1 h2=> ?_
 have h2:=mH h2
 have e:vv v=.str (NX (vv v)):=rfl
 refine⟨?_,mH h3⟩
 rw[e]
 have:(NX (vv v)).length<aJ:=by unfold aJ;lia
 exact(aI ⟨Int.natCast_nonneg _,this⟩).trans (by rw[show Int.toNat 0=0 from rfl,h1];rfl)
theorem Qv(σ:H){a b:Nat}(ha:a<1000)(hb:b<1000):eqv σ (.str [a]) (.str [b])=some (decide (a=b)):=by
 have k:∀a,a<1000->V.aS (.str [a])=true:=fun a h=>by
  have:a<1114112:=(jd h rfl)
  simp[V.aS,V.d8,this]
 have e:eqv σ (.str [a]) (.str [b])=if(V.str [a]).cG (.str [b])then some (decide (V.str [a]=.str [b]))else none:=rfl
 rw[e,eN (k a ha) (k b hb)]
 simp
noncomputable def qU(wc:Nat):Nat:=if wc=3 then 110 else 115
noncomputable def vH(aj:List (V×V))(K:az)(wc:Nat):Bool:=match aT (.ak [kv K,wv wc]) aj with
 |some (.bool b)=>b
 |some _=>false
 |none=>decide (K=[2*wc])
noncomputable def b8(plain:Bool)(aj:List (V×V))(K:az)(wc:Nat):Bool:=
 if K=[18]\/K=[24]then false else if plain then decide (∀v∈fW K,fc v=qU wc)else vH aj K wc
noncomputable def oR(aj:List (V×V)):Prop:=∀k v,aT k aj=some v->∃b,v=.bool b
theorem zk{aj:List (V×V)}(h:oR aj)(k:V)(b:Bool):oR (dM k (.bool b) aj):=by
 have dl:∀(es:List (V×V)) (k':V),aT k' (dM k (.bool b) es)=if k'=k then some (.bool b)else aT k' es:=by
  intro es
  induction es with
  |nil=>intro k';rfl
  |cons x es ih=>
   intro k'
   obtain⟨y,u⟩:=x
   rw[l5]
   by_cases e:k=y
   ·subst e
    rw[aI rfl,eO,eO]
    by_cases q:k'=k<;>simp[q]
   ·rw[aG e,eO,eO,ih]
    by_cases q:k'=y
    ·subst q
     have:¬k'=k:=fun z=>e z.symm
     simp[this]
    ·simp[q]
 intro k' v hv
 rw[dl]at hv
 split at hv
 ·refine xF hv ?_;exact⟨b,rfl⟩
 ·exact h k' v hv
theorem yR{K:az}(h:∀a∈K,a<34){c:Nat}(hc:c<17):(V.ak [kv K,wv c]).kind=3:=by
 have k4:∀a,a<34->V.d8 4 (av a)=true:=fun a ha=>dG.mp (show((List.range 34).all fun a=>V.d8 4 (av a))=true by decide+kernel) a (jt.mpr ha)
 have:∀K:az,(∀a∈K,a<34)->V.cX 4 (K.map av)=true:=by
  intro K
  induction K with
  |nil=>intro _;rfl
  |cons a K ih=>intro h;rw[fT,b7,k4 a (h a (by simp)),ih fun b hb=>h b (by simp[hb])];rfl
 have k5:V.d8 5 (wv c)=true:=dG.mp (show((List.range 17).all fun a=>V.d8 5 (wv a))=true by decide+kernel) c (jt.mpr hc)
 unfold V.kind V.aS kv
 rw[kI,b7,b7,kI,this K h,k5]
 rfl
theorem HB(σ:H){K:az}(hK:∀a∈K,a<34):bD σ (kv K) (.ak [kv [18],kv [24]])=some (decide (K=[18]\/K=[24])):=by
 have k:=vK hK
 have lk:(V.cG (kv K) (kv K)&&[kv [18],kv [24]].all (V.cG (kv K)))=true:=by
  simp[eN k k,eN k (vK (K:=[18]) (by decide)),eN k (vK (K:=[24]) (by decide))]
 refine(Aw lk).trans (congrArg some (iu.mpr ?_))
 simp only[cH,qn,or_false]
 exact⟨fun h=>h.imp (vL hK (by decide)) (vL hK (by decide)),fun h=>h.imp (fun e=>by rw[e]) fun e=>by rw[e]⟩
theorem Lz{K:az}{wc:Nat}(hK:∀a∈K,a<34)(Gh:wc<17)(hT:oR w.aj):j7 (heap w rest) (.ref 89) (.ak [kv K,wv wc]) (.bool (decide (K=[2*wc])))=some (.bool (vH w.aj K wc)):=by
 have kk:=yR hK Gh
 have:j7 (heap w rest) (.ref 89) (.ak [kv K,wv wc]) (.bool (decide (K=[2*wc])))=some ((aT (.ak [kv K,wv wc]) w.aj).getD (.bool (decide (K=[2*wc])))):=by
  exact tH (Tp w rest) kk (by decide)
 rw[this]
 unfold vH
 cases e:aT (.ak [kv K,wv wc]) w.aj with
 |none=>rfl
 |some v=>refine bR (hT _ _ e) fun b q=> ?_;subst q;rfl
theorem HX(σ:H){K:az}{wc:Nat}(hK:∀a∈K,a<34)(Gh:wc<17):xH σ .eq (kv K) (.ak [.ak [wv wc,.int 0]])=some (.bool (decide (K=[2*wc]))):=by
 have e:V.ak [.ak [wv wc,.int 0]]=kv [2*wc]:=by
  unfold kv av
  rw[fT,Nat.mul_div_cancel_left wc (by decide),Nat.mul_mod_right];rfl
 rw[e]
 exact Nv (E6 σ hK (by simp;lia))
theorem rq{M:Ma}{n:Nat}{k:List Fr}{ρ:aO}{K:az}{wc:Nat}(hK:dK K)(hw:wc=3\/wc=5)(hT:oR w.aj)(g:∀r',rest<+:r'->Rt M n k ρ (.bool (b8 w.plain w.aj K wc)) (heap w r')):Cl M n k ρ (bC (P l) (d+2) 1383 [.ref 94,kv K,wv wc] (heap w rest)):=by
 refine xV (P7 l) fun N R Z hR=> ?_
 have g:∀r' b,rest<+:r'->b8 w.plain w.aj K wc=b->R (.bool b) (heap w r'):=fun r' b x e=>hR _ _ (e▸g r' x)
 unfold b8 at g
 have Gh:wc<17:=by lia
 have mk:=HB (heap w rest) hK.1
 by_cases h0:K=[18]\/K=[24]
 ·rw[ez h0]at mk
  exact gV (rS mk) (g _ _ (List.prefix_refl _) (aI h0))
 rw[fH h0]at mk
 rw[aG h0]at g
 refine gV (rS mk) ?_
 cases hp:w.plain with
 |false=>exact gT (by rw[hp];rfl) (gV (HX _ hK.1 Gh) (gV (Lz hK.1 Gh hT) (g _ _ (List.prefix_refl _) (by rw[hp];rfl))))
 |true=>
  rw[hp]at g
  have sc:qU wc<1000:=by unfold qU;split<;>decide
  refine gF (by rw[hp];rfl) (gD (m:=2) (by decide) rfl (by decide) fun r i x h=> ?_)
  refine gV (wg (w:=w) (u:=.str [qU wc]) h (uV Gh).2 (by decide) (by rcases hw with rfl|rfl<;>rfl)) ?_
  refine sU hK fun r2 p2 x2 h2=>zh (mQ:=[(247,.str [qU wc])]) (p:=fun v=> !decide (fc v=qU wc)) (o4 hK) h2 (fun y hy N1 R1 hN NL=> ?_) fun r3 j x3 h3=> ?_
  ·refine dw (PR (vR hK.1 y hy) (heap w r2)) fun i1 i2=>gV i1 ?_
   apply gV (Y6 (Qv _ i2 sc))
   cases e: !decide (fc y=qU wc)with
   |true=>exact NL e
   |false=>exact hN e _
  ·refine gX (nO h3 (by rw[fU];have:=o4 hK;have:=List.length_filter_le (fun v=> !decide (fc v=qU wc)) (fW K);unfold aJ;lia)) ?_
   apply gV (Nv (Xg (heap w r3) _ _))
   refine g _ _ (x.trans (x2.trans x3)) (iu.mpr ?_)
   rw[fU]
   constructor
   ·intro h
    rw[List.filter_eq_nil_iff.mpr fun v hv=>by simp[h v hv]];rfl
   ·intro h v hv
    simpa using List.filter_eq_nil_iff.mp (List.eq_nil_of_length_eq_zero (show((fW K).filter fun v=> !decide (fc v=qU wc)).length=0 by lia)) v hv
end
section
variable{l:List Int}{d:Nat}{w:W}{rest:H}
noncomputable def i7(K:az):az:=dI (pL K) 0
noncomputable def gf(plain:Bool)(aj:List (V×V))(K L:az):Bool:=
 if b8 plain aj K 3||b8 plain aj L 3 then b8 plain aj K 3&&b8 plain aj L 3
 else if b8 plain aj K 5&&b8 plain aj L 5 then true else ji plain (i7 K) (i7 L)
structure ZC(K:az):Prop where
 len:dK K
 ir:(pL K).length<40
theorem ZC.Gd{K:az}(h:ZC K):dK (i7 K):=by
 refine dw (pq (W:=pL K) (f:=0) ((gP rfl)) (gx (pL K)) (fun c hc=>CY h.len.1 c (o8 hc)) [] (by simp)) fun h1 h2=> ?_
 refine⟨h1,?_⟩
 rw[yV]at h2
 have:=h.ir
 simp at h2
 exact(iG h2 this)
theorem Lf{M:Ma}{n:Nat}{k:List Fr}{ρ:aO}{σ:H}{el:Ex}{tg:Nat}{mQ:aO}{x y:V}{m:Nat}
  (h:∀R,(∀u1 σ1,(∀R2,(∀u2 aX,oA M n k ρ aX (.list [u1,u2])->R2 u2 aX)->go 1000 ⟨l,d,fun Z Z=>False,R2⟩ (.e el []) ((tg,y)::mQ) σ1)->R u1 σ1)->go 1000 ⟨l,d,fun Z Z=>False,R⟩ (.e el []) ((tg,x)::mQ) σ):
  oC M n k ρ (compLoop (vp (P l) (bC (P l) d) el [tg] [] mQ) (.ak [x,y]) m 3 0 σ):=by
 have h1:=bQ _ _ _ _ (qX _ _ _ _ _ (h _ fun u1 σ1 h=>h))
 have e:∀v σ,vp (P l) (bC (P l) d) el [tg] [] mQ v σ=match gK (P l) (bC (P l) d) el ((tg,v)::mQ) σ with|some (v,aX)=>some (some v,aX)|none=>none:=fun v σ=>rfl
 simp only[compLoop,cI,aJ,ql,List.length_nil,Nat.reduceAdd,Nat.reduceLT,if_true,List.getElem?_cons_zero,List.getElem?_cons_succ,List.getElem?_nil,e]
 generalize gK (P l) (bC (P l) d) el ((tg,x)::mQ) σ=q at h1⊢
 cases h1 with
 |mk h1=>
  have h2:=bQ _ _ _ _ (qX _ _ _ _ _ (h1 _ fun u1 σ1 h=>h))
  dsimp only
  generalize gK (P l) (bC (P l) d) el ((tg,y)::mQ) _=q at h2⊢
  cases h2 with
  |mk h2=>exact .mk h2.cz
theorem L8{σ:H}{i:Nat}{a b:Bool}(h:σ[i]? =some (.list [.bool a,.bool b])):bD σ (.bool true) (.ref i)=some (a||b):=by
 refine(lA h (by cases a<;>cases b<;>rfl)).trans ?_
 cases a<;>cases b<;>rfl
theorem Mb{σ:H}{i:Nat}{a b:Bool}(h:σ[i]? =some (.list [.bool a,.bool b])):bD σ (.bool false) (.ref i)=some (!(a&&b)):=by
 refine(lA h (by cases a<;>cases b<;>rfl)).trans ?_
 cases a<;>cases b<;>rfl
theorem pQ{M:Ma}{n:Nat}{k:List Fr}{ρ:aO}{K L:az}(hK:ZC K)(hL:ZC L)(hT:oR w.aj)(g:∀r',rest<+:r'->Rt M n k ρ (.bool (gf w.plain w.aj K L)) (heap w r')):Cl M n k ρ (bC (P l) (d+3) 1388 [.ref 94,kv K,kv L] (heap w rest)):=by
 refine xV (P6 l) fun N R Z hR=> ?_
 have g:∀r' b,rest<+:r'->gf w.plain w.aj K L=b->R (.bool b) (heap w r'):=fun r' b x e=>hR _ _ (e▸g r' x)
 unfold gf at g
 refine Lf (mQ:=[(99,.ref 94)]) fun R1 h1=>rq (wc:=3) hK.len (.inl rfl) hT fun r1 x1=>h1 _ _ fun R2 h2=>rq (wc:=3) hL.len (.inl rfl) hT fun r2 x2=>h2 _ _ (gA fun r3 i x3 h3=> ?_)
 have x3:=x1.trans (x2.trans x3)
 generalize b8 w.plain w.aj K 3=a at h3 g
 generalize b8 w.plain w.aj L 3=b at h3 g
 have at2:=k7 (w:=w) h3
 have mT:=L8 at2
 cases q:a||b with
 |true=>
  rw[q]at mT g
  exact gV (rS mT) (gV (zK (Mb at2)) (g _ _ x3 (by rw[Bool.not_not];rfl)))
 |false=>
  rw[q]at mT g
  refine gV (rS mT) (rq (wc:=5) hK.len (.inr rfl) hT fun r4 x4=> ?_)
  have fm:∀n r',r3<+:r'->(b8 w.plain w.aj K 5&&b8 w.plain w.aj L 5)=false->go (n+200) ⟨l,d+2,N,R⟩ (.s (E0.body.drop 3) []) [(18,.ref (95+i)),(99,.ref 94),(201,kv K),(53,kv L)] (heap w r'):=fun n r' x e=>
   uR hK.len (jd hK.ir rfl) fun r6 x6=>uR hL.len (jd hL.ir rfl) fun r7 x7=>Ck hK.Gd hL.Gd fun r8 x8=>g _ _ (x3.trans (x.trans (x6.trans (x7.trans x8)))) (by rw[e];rfl)
  cases e:b8 w.plain w.aj K 5 with
  |false=>exact fm _ _ x4 (by rw[e];rfl)
  |true=>
   refine rq (wc:=5) hL.len (.inr rfl) hT fun r5 x5=> ?_
   cases e2:b8 w.plain w.aj L 5 with
   |false=>exact fm _ _ (x4.trans x5) (by rw[e2,Bool.and_false])
   |true=>exact g _ _ (x3.trans (x4.trans x5)) (by rw[e,e2];rfl)
end
section
variable{l:List Int}{d:Nat}{w:W}{rest:H}
noncomputable def iB(A B:az):Prop:=∀a,a∈A↔a∈B
theorem iB.refl(A:az):iB A A:=fun Z=>Iff.rfl
theorem iB.symm{A B:az}(h:iB A B):iB B A:=fun a=>(h a).symm
theorem iB.trans{A B C:az}(h:iB A B)(g:iB B C):iB A C:=fun a=>(h a).trans (g a)
theorem fF.congr{af:List V}{n:Nat}{A B:az}(h:fF af n A)(e:iB A B):fF af n B:=by
 refine aD h fun ns p q=> ?_
 exact⟨ns,⟨p.Re,fun n=>by rw[p.mem];exact⟨fun⟨a,x,y⟩=>⟨a,(e a).mp x,y⟩,fun⟨a,x,y⟩=>⟨a,(e a).mpr x,y⟩⟩,fun a ha=>p.has a ((e a).mpr ha),fun a ha=>p.at_ a ((e a).mpr ha)⟩,q⟩
theorem AK{A B:az}(e:iB A B)(a:Nat):jg A a=jg B a:=by
 unfold jg
 congr 2
 ·rw[iu];exact and_congr Iff.rfl (e _)
 ·cases dO a with
  |none=>rfl
  |some b=>rw[iu];exact e b
theorem n8{A B:az}(e:iB A B):iB (eM A) (eM B):=fun a=>by
 unfold eM
 simp only[e 18,e 24,e 32]
 split
 ·exact Iff.rfl
 ·split
  ·exact Iff.rfl
  ·split
   ·exact Iff.rfl
   ·rw[yb,yb,e a,AK e a]
theorem iL.congr{A B:az}(e:iB A B)(h:iL A):iL B:=by
 unfold iL at h⊢
 simp only[<-e 2,<-e 3,<-e 12,<-e 13];exact h
theorem zS.rV{af:List V}{ms:List Nat}{Ks:List az}(h:zS af ms Ks){m:Nat}{K:az}(g:fF af m K):zS af (ms++[m]) (Ks++[K]):=by
 refine⟨by simp[h.len],fun k x L h1 h2=> ?_⟩
 by_cases q:k<ms.length
 ·rw[mZ q]at h1
  rw[mZ (by rw[<-h.len];exact q)]at h2
  exact h.at_ k x L h1 h2
 ·have hk:=(kX.mp h1).1
  rw[fV]at hk
  have e:k=ms.length:=(ahi q hk)
  subst e
  rw[vg (bX _),Nat.sub_self]at h1
  rw[h.len,vg (bX _),Nat.sub_self]at h2
  simp at h1 h2
  subst h1;subst h2;exact g
theorem zS.ext{a b:List V}{c:Nat}(x:lN a b c)(T:dj b){ms:List Nat}{Ks:List az}(h:zS a ms Ks):zS b ms Ks:=
 ⟨h.len,fun k m K h1 h2=>(h.at_ k m K h1 h2).ext x T⟩
theorem K4{n:Nat}{k:List Fr}{ρ:aO}{N0:aO->H->Prop}{R:V->H->Prop}{el:Ex}{x:Nat}{mQ:aO}{K:az}{ns:List Nat}{g:Nat->az}(T:dj w.af)(hl:w.af.length+30<90000)(p:f8 w.af ns K)
  (step:∀w1 r1 a m,a∈aU->aY w1.af a m->dj w1.af->w1.af.length+1<90000->∀N R1,(∀m w2 r2,r1<+:r2->Gr w1 w2 1->fF w2.af m (g a)->R1 (nv m) (heap w2 r2))->go 1000 ⟨l,d,N,R1⟩ (.c (.eW true []) [.Nl el]) ((x,nv m)::mQ) (heap w1 r1))
  (fm:∀ms Ks w' r' i,rest<+:r'->Gr w w' 24->zS w'.af ms Ks->ms.length<=24->iB Ks.flatten (K.flatMap g)->r'[i]? =some (.list (ms.map nv))->go n ⟨l,d,N0,R⟩ (.v (.ref (95+i)) k) ρ (heap w' r')):
  oM ⟨l,d,N0,R⟩ n el [x] [] mQ k ρ (heap w rest) (.ak (ns.map nv)) (ao (heap w rest) (.ak (ns.map nv))):=by
 have jW:=p.jW T
 refine DU (f:=nv) (fo:=nv) (ys:=ns) (b:=fun m=>[(x,nv m)]) (fun dn ms w1 r1=>rest<+:r1/\Gr w w1 dn.length/\ms.length=dn.length/\∃Ks,zS w1.af ms Ks/\∀b,b∈Ks.flatten↔∃a∈K,(∃m∈dn,aY w.af a m)/\b∈g a)
  (by exact(qh jW rfl)) (fun Z=>rfl) ⟨List.prefix_refl _,Gr.refl _,rfl,[],⟨rfl,fun k m K h=>by exact bJ h⟩,fun b=>by simp⟩ (fun dn m r e ms w1 r1 u N1 R1 hN hR=> ?_) fun ms w1 r1 u=> ?_
 ·refine F5 u fun x1 l1 hm Ks D h=> ?_
  refine aD ((p.mem m).mp (by rw[e];simp)) fun a ha EI=> ?_
  have:=congrArg List.length e
  rw[fV]at this
  have lx:=l1.len
  have T1:=l1.iU T (by lia)
  refine step w1 r1 a m (p.at_ a ha) (EI.ext l1.ext) T1 (by lia) N1 R1 fun m2 w2 r2 x2 l2 D2=>hR m2 w2 r2 ⟨x1.trans x2,by rw[fV];exact l1.trans l2,by simp[hm],Ks++[g a],(D.ext l2.ext (l2.iU T1 (by lia))).rV D2,fun b=> ?_⟩
  rw[List.flatten_append,List.flatten_singleton,gj,h]
  refine⟨fun q=>q.elim (fun q=>dF q fun c h1 u h4=>aD u fun k h2 h3=>⟨c,h1,⟨k,List.mem_append_left _ h2,h3⟩,h4⟩) fun q=>⟨a,ha,⟨m,by simp,EI⟩,q⟩,fun q=>dF q fun c h1 u h4=>aD u fun k h2 h3=> ?_⟩
  refine(gj.mp h2).imp (fun h2=>⟨c,h1,⟨k,h2,h3⟩,h4⟩) fun h2=> ?_
  have:=eZ.mp h2
  subst this
  rw[h3.xW (p.at_ c h1) (p.at_ a ha) EI]at h4
  exact h4
 ·refine F5 u fun x1 l1 hm Ks D h=>gA fun r2 i x2 h2=>fm ms Ks w1 r2 i (x1.trans x2) (l1.le jW) D (dU (OR hm) jW) (fun b=> ?_) h2
  rw[h,yd]
  exact⟨fun q=>dF q fun a h1 Z h3=>⟨a,h1,h3⟩,fun q=>aD q fun a h1 h3=>bR (p.has a h1) fun m hm=>⟨a,h1,⟨m,(p.mem m).mpr ⟨a,h1,hm⟩,hm⟩,h3⟩⟩
end
section
variable{l:List Int}{d:Nat}{w:W}{rest:H}
theorem Er(T:dj w.af){n:Nat}(a:Nat)(ha:a∈aU)(h:aY w.af a n):bC (P l) (d+1) 366 [.ref 1,nv n] (heap w rest)=some (.bool (decide (a % 2=1)),heap w rest):=by
 refine xT (K8 l) fun N R Z hR=>gV (eB T h) ?_
 clear h
 revert a
 refine tL ?_ ?_ ?_ ?_ ?_ ?_ ?_ ?_ ?_ ?_ ?_ ?_ ?_ ?_ ?_ ?_ ?_ ?_ ?_ ?_ ?_ ?_ ?_ ?_<;>exact fun Z h=>h
noncomputable def nu:V->List V
 | .ak xs=>xs
 |_=>[]
theorem Fy:(aU.all fun a=>a % 2==0||(decide (aV a=.ak (nu (aV a)))&&Nat.blt (nu (aV a)).length 20&& !(nu (aV a)).isEmpty&& !(nu (aV a)).dropLast.isEmpty&&decide (V.ak ((nu (aV a)).dropLast++[.int 0])=aV (a - 1))&&aU.contains (a - 1)))=true:=by decide+kernel
theorem CP{a:Nat}(h:¬a % 2=1):a - a % 2=a:=by lia
noncomputable def jq(a:Nat):Nat:=a - a % 2
theorem Au{a:Nat}(ha:a∈aU):jq a∈aU:=by
 have:=dG.mp Fy a ha
 unfold jq
 by_cases o:a % 2=1
 ·simp only[o,je,dX,List.contains_iff_mem]at this
  rcases this with h|h
  ·simp at h
  ·rw[o];exact h.2
 ·rw[CP o];exact ha
theorem HU{a:Nat}(ha:a∈aU)(o:a % 2=1):Ah (aV a)=some (.ak (nu (aV a)).dropLast)/\NR .add (.ak (nu (aV a)).dropLast) (.ak [.int 0])=some (aV (a - 1))/\a - 1∈aU:=by
 have q:=dG.mp Fy a ha
 simp only[o,je,dX,lW,List.contains_iff_mem]at q
 rcases q with q|⟨⟨⟨⟨⟨q1,q2⟩,q3⟩,q4⟩,q5⟩,q6⟩
 ·simp at q
 have q2:=mH q2
 have lt:(nu (aV a)).length<aJ:=by unfold aJ;lia
 refine⟨?_,?_,q6⟩
 ·generalize nu (aV a)=xs at*
  rw[q1]
  exact aI (kK (ez lt) q3)
 ·rw[<-q5]
  show(if _ then _ else _)=_
  have l1:(nu (aV a)).dropLast.length+[V.int 0].length<aJ:=by rw[List.length_dropLast];simp only[yf];unfold aJ;lia
  simp only[l1,decide_true,q4,Bool.not_false,List.isEmpty_cons,Bool.and_self,if_true]
section
variable{M:Ma}{k:List Fr}{ρ:aO}{m:Nat}
theorem Fx(T:dj w.af)(hl:w.af.length+1<90000){n a:Nat}(ha:a∈aU)(h:aY w.af a n)(g:∀j w',Gr w w' 1->aY w'.af (jq a) j->Rt M m k ρ (nv j) (heap w' rest)):Cl M m k ρ (bC (P l) (d+2) 373 [.ref 1,nv n] (heap w rest)):=by
 refine uX (K7 l) fun N R Z hR=>gC (Er T a ha h) ?_
 unfold jq at g
 by_cases o:a % 2=1
 ·rw[ez o]
  rw[o]at g
  refine iX (HU ha o) fun f1 f2 f3=> ?_
  refine d7 (lI f3) fun Z Z Z Z kd Z=> ?_
  refine gW (ly w rest l) (gV (eB T h) (gV f1 ?_))
  apply gV f2
  exact gC (g8 kd (by exact(xX hl rfl))) (hR _ _ (g _ _ (Gr.eX _ _) (ou _ _)))
 ·rw[fH o]
  rw[CP o]at g
  exact hR _ _ (g n w ((Gr.refl _).le (mX)) h)
theorem OY(T:dj w.af):bC (P l) (d+2) 373 [.ref 1,.int 2] (heap w rest)=some (.int 2,heap w rest):=
 xT (K7 l) fun N R Z hR=>gC (xT (v:=.bool false) (σ1:=heap w rest) (K8 l) fun N R Z hR=>gV (eB (n:=2) T T.AW) hR) hR
theorem tC{n:Nat}{i:Int}{t:List V}(T:dj w.af)(h:w.af[n]? =some (.ak (.int i::t)))(lt:t.length+1<aJ):bC (P l) (d+1) 273 [.ref 1,nv n] (heap w rest)=some (.int i,heap w rest):=
 xT (W5 l) fun N R Z hR=>gV (eB T h) (gV ((it0 _ _ _).trans (aI lt)) hR)
end
theorem Hy{a:Nat}(ha:a∈aU):eM [a]=[a]:=by
 have:=dG.mp (show(aU.all fun a=>decide (eM [a]=[a]))=true by decide+kernel) a ha
 exact jx this
theorem EE{a:Nat}(ha:a∈aU){i:V}{t:List V}(e:aV a=.ak (i::t)):t.length+1<aJ:=by
 have:=dG.mp (show(aU.all fun a=>Nat.blt (nu (aV a)).length 20)=true by decide+kernel) a ha
 have:=mH this
 rw[e]at this
 exact(fR (qh this rfl))
theorem mw{M:Ma}{k:List Fr}{ρ:aO}{m:Nat}{K:az}{n:Nat}(T:dj w.af)(hl:w.af.length+40<90000)(D:fF w.af n K)(j:iL (K.flatMap fun a=>[jq a]))
  (g:∀j w' r',rest<+:r'->Gr w w' 25->fF w'.af j (eM (K.flatMap fun a=>[jq a]))->Rt M m k ρ (nv j) (heap w' r')):Cl M m k ρ (bC (P l) (d+4) 378 [.ref 1,nv n] (heap w rest)):=by
 refine uX (WU l) fun N R Z hR=> ?_
 refine aD D fun ns p q=> ?_
 rcases q with⟨rfl,rfl⟩|rfl|⟨q1,q2⟩
 ·have e:K=[]:=by
   cases K with
   |nil=>rfl
   |cons a K=>refine bR (p.has a (by simp)) fun n hn=> ?_;have:=(p.mem n).mpr ⟨a,by simp,hn⟩;simp at this
  subst e
  exact gC (tC (n:=2) T T.AW ((gP rfl))) (gC (OY T) (hR _ _ (g 2 w _ (List.prefix_refl _) ((Gr.refl _).le (mX)) ⟨[],⟨by simp,by simp[eM],by simp[eM],by simp[eM]⟩,.inl ⟨rfl,rfl⟩⟩)))
 ·refine aD ((p.mem n).mp (by simp)) fun a ha hn=> ?_
  have aa:=p.at_ a ha
  refine aW (lI aa) fun i t e h6 Z=> ?_
  have sK:iB [jq a] (K.flatMap fun a=>[jq a]):=fun b=>by
   rw[eZ,yd]
   refine⟨fun q=>⟨a,ha,eZ.mpr q⟩,fun u=>aD u fun c hc h=>bR (p.has c hc) fun k' Iv=> ?_⟩
   have:=eZ.mp ((p.mem k').mpr ⟨c,hc,Iv⟩)
   subst this
   rw[hn.xW aa (p.at_ c hc) Iv]
   exact eZ.mp h
  refine gC (tC T (by rw[<-e];exact hn) (EE aa e)) (gF (fH fun e=>h6 (V.int.inj e)) ?_)
  refine Fx T (fR hl) aa hn fun j w' x hm=>hR _ _ (g j w' _ (List.prefix_refl _) (x.le (pH rfl)) ?_)
  have:=cj (x.iU T (fR hl)) (Au aa) hm
  rw[<-Hy (Au aa)]at this
  exact this.congr (n8 sK)
 ·refine gC (tC T (show w.af[n]? =some (.ak (.int 6::[.ak (ns.map nv)]))from q2) (by simp[aJ])) (gC (gn T p (.inr (.inr ⟨q1,q2⟩))) ?_)
  refine K4 (mQ:=[(47,.ref 1)]) (g:=fun a=>[jq a]) T (fR hl) p (fun w1 r1 a n aa hn T1 hl1 N1 R1 h=>Fx T1 hl1 aa hn fun j w2 x hm=>h j w2 r1 (List.prefix_refl _) x (cj (x.iU T1 hl1) (Au aa) hm)) fun ms Ks w1 r1 i x1 l1 D1 len same h=> ?_
  have lx:=l1.len
  exact vS (l1.iU T (fR hl)) (qP lx hl rfl) D1 h (by exact(qh len rfl)) (j.congr same.symm) fun m w2 r2 x2 l2 D2=>hR _ _ (g m w2 r2 (x1.trans x2) (l1.trans l2) (D2.congr (n8 same)))
end
section
variable{l:List Int}{d:Nat}{w:W}{rest:H}
noncomputable def DF(a n:Nat):Nat:=if a=2\/a=3\/a=12\/a=13 then 12 else if 20<=a/\a<=23 then 18 else match dO a with|some 10=>6|some _=>7|none=>n
noncomputable def jH(a:Nat):az:=if a=2\/a=3\/a=12\/a=13 then [2,12]else if 20<=a/\a<=23 then [20,22]else match dO a with|some b=>[b]|none=>[a]
theorem F7{af:List V}(T:dj af){a b n i k:Nat}(ha:a∈aU)(hb:b∈aU)(hi:aY af a i)(hk:aY af b k)(lt:i<k)(h:af[n]? =some (Dl [i,k])):fF af n [a,b]:=by
 refine⟨[i,k],⟨by simp[lt],fun m=> ?_,?_,?_⟩,.inr (.inr ⟨(bX _),h⟩)⟩
 ·simp only[cH,qn,or_false]
  constructor
  ·rintro(rfl|rfl)
   ·exact⟨a,.inl rfl,hi⟩
   ·exact⟨b,.inr rfl,hk⟩
  ·rintro⟨c,rfl|rfl,h⟩
   ·exact .inl (h.pA T hi)
   ·exact .inr (h.pA T hk)
 ·intro c hc
  rcases cH.mp hc with rfl|hc
  ·exact⟨i,hi⟩
  ·rw[eZ.mp hc];exact⟨k,hk⟩
 ·intro c hc
  rcases cH.mp hc with rfl|hc
  ·exact ha
  ·rw[eZ.mp hc];exact hb
theorem jQ{af:List V}(T:dj af):fF af 12 [2,12]:=F7 T (by decide) (by decide) (T.cU (n:=8) rfl) (T.cU (n:=9) rfl) ((gP rfl)) (T.cU rfl)
theorem MF{af:List V}(T:dj af):fF af 18 [20,22]:=F7 T (by decide) (by decide) (T.cU (n:=16) rfl) (T.cU (n:=17) rfl) ((gP rfl)) (T.cU rfl)
theorem wJ:(aU.all fun a=>decide (dO a=none\/dO a=some 10\/dO a=some 6))=true:=rfl
theorem G3(T:dj w.af){n:Nat}(a:Nat)(ha:a∈aU)(h:aY w.af a n):bC (P l) (d+2) 390 [.ref 1,nv n] (heap w rest)=some (nv (DF a n),heap w rest):=by
 refine xT (WT l) fun N R Z hR=>gV (eB T h) ?_
 clear h
 revert a
 refine tL ?_ ?_ ?_ ?_ ?_ ?_ ?_ ?_ ?_ ?_ ?_ ?_ ?_ ?_ ?_ ?_ ?_ ?_ ?_ ?_ ?_ ?_ ?_ ?_<;>first|exact fun Z h=>h|exact fun Z h=>gC rfl h
theorem G4(T:dj w.af){n a:Nat}(ha:a∈aU)(h:aY w.af a n):fF w.af (DF a n) (jH a):=by
 unfold DF jH
 by_cases q1:a=2\/a=3\/a=12\/a=13
 ·rw[aI q1,aI q1];exact jQ T
 ·rw[aG q1,aG q1]
  by_cases q2:20<=a/\a<=23
  ·rw[aI q2,aI q2];exact MF T
  ·rw[aG q2,aG q2]
   have:=dG.mp wJ a ha
   rw[lW]at this
   rcases this with q|q|q<;>rw[q]
   ·exact cj T ha h
   ·exact cj T (by decide) (T.cU (n:=6) rfl)
   ·exact cj T (by decide) (T.cU (n:=7) rfl)
theorem ki{M:Ma}{k:List Fr}{ρ:aO}{m:Nat}{K:az}{n:Nat}(T:dj w.af)(hl:w.af.length+40<90000)(D:fF w.af n K)(j:iL (K.flatMap jH))
  (g:∀j w' r',rest<+:r'->Gr w w' 25->fF w'.af j (eM (K.flatMap jH))->Rt M m k ρ (nv j) (heap w' r')):Cl M m k ρ (bC (P l) (d+4) 395 [.ref 1,nv n] (heap w rest)):=by
 refine uX (WS l) fun N R Z hR=>aD D fun ns p q=>gC (gn T p q) ?_
 refine K4 (mQ:=[(47,.ref 1)]) (g:=jH) T (fR hl) p (fun w1 r1 a n aa hn T1 hl1 N1 R1 h=>gC (G3 T1 a aa hn) (h _ w1 r1 (List.prefix_refl _) ((Gr.refl _).le (mX)) (G4 T1 aa hn))) fun ms Ks w1 r1 i x1 l1 D1 len same h=> ?_
 have lx:=l1.len
 exact vS (l1.iU T (fR hl)) (qP lx hl rfl) D1 h (by exact(qh len rfl)) (j.congr same.symm) fun m w2 r2 x2 l2 D2=>hR _ _ (g m w2 r2 (x1.trans x2) (l1.trans l2) (D2.congr (n8 same)))
noncomputable def kF(a b:Nat):Bool:=a==b||b==18||b==32||b==24||a==24||a==18||(a==14&&b==16)||dO a==some b
end
section
variable{l:List Int}{d:Nat}{w:W}{rest:H}
theorem jI{af:List V}(T:dj af){a c n k:Nat}(ha:a∈aU)(hc:c∈aU)(h:aY af a n)(g:aY af c k):n=k↔a=c:=
 ⟨fun e=>by subst e;exact h.xW ha hc g,fun e=>by subst e;exact h.pA T g⟩
theorem Jh(σ:H)(n:Nat)(xs:List Nat):bD σ (nv n) (.ak (xs.map nv))=some (decide (n∈xs)):=by
 have lk:((nv n).cG (nv n)&&(xs.map nv).all (nv n).cG)=true:=by
  rw[dX]
  refine⟨rfl,dG.mpr fun x hx=> ?_⟩
  refine aD (eY.mp hx) fun c h1 q2=> ?_;subst q2
  rfl
 exact(Aw lk).trans (congrArg some (iu.mpr ⟨fun h=>aD (eY.mp h) fun y h1 h2=>dY h2▸h1,fun h=>eY.mpr ⟨n,h,rfl⟩⟩))
theorem fY(n m:Nat):decide (nv n=nv m)=decide (n=m):=iu.mpr ⟨dY,fun e=>e▸rfl⟩
theorem Lr{af:List V}(T:dj af){a b t:Nat}(ha:a∈aU)(hb:b∈aU)(ht:aY af b t):decide (V.int (sI a)=nv t)=decide (dO a=some b):=by
 rw[iu]
 unfold sI
 have q:=dG.mp wJ a ha
 rw[lW]at q
 rcases q with q|q|q<;>rw[q]
 ·exact⟨fun h=>by have:=V.int.inj h;lia,fun h=>by cases h⟩
 ·have:=jI T hb (c:=10) (by decide) ht (T.cU (n:=6) rfl)
  exact⟨fun h=>congrArg some (this.mp (dY h.symm)).symm,fun h=>congrArg nv (this.mpr (ig h).symm).symm⟩
 ·have:=jI T hb (c:=6) (by decide) ht (T.cU (n:=7) rfl)
  exact⟨fun h=>congrArg some (this.mp (dY h.symm)).symm,fun h=>congrArg nv (this.mpr (ig h).symm).symm⟩
theorem Hu(a b:Nat):kF a b=(decide (a=b)||decide (b=18\/b=32\/b=24)||decide (a=24)||decide (a=18)||(decide (a=14)&&decide (b=16))||decide (dO a=some b)):=by
 have e:∀x y1 y2 y3 z u p q v:Bool,(x||y1||y2||y3||z||u||(p&&q)||v)=(x||(y1||(y2||y3))||z||u||(p&&q)||v):=by decide
 rw[Bool.decide_or,Bool.decide_or]
 refine .trans ?_ (e _ _ _ _ _ _ _ _ _)
 rw[show decide (dO a=some b)=(dO a==some b)from Bool.eq_iff_iff.mpr (by simp)]
 rfl
theorem s7(T:dj w.af){a b s t:Nat}(ha:a∈aU)(hb:b∈aU)(hs:aY w.af a s)(ht:aY w.af b t):bC (P l) (d+2) 644 [.ref 1,nv s,nv t] (heap w rest)=some (.bool (kF a b),heap w rest):=by
 refine xR (WK l) fun N R Z hR=> ?_
 have e0:decide (nv s=nv t)=decide (a=b):=(fY s t).trans (iu.mpr (jI T ha hb hs ht))
 have e1:bD (heap w rest) (nv t) (.ak [.int 0,.int 1,.int 13])=some (decide (b=18\/b=32\/b=24)):=(Jh _ t [0,1,13]).trans (by
  congr 1;skip
  simp only[cH,qn,or_false,jI T hb (by decide) ht (nF T),jI T hb (by decide) ht (z8 T),jI T hb (by decide) ht (qo T)])
 have e2:bD (heap w rest) (nv s) (.ak [.int 2,.int 13])=some (decide (a=24)):=(Jh _ s [2,13]).trans (by
  congr 1;rw[iu]
  have:=hs.YE T ha
  simp only[cH,qn,or_false,jI T ha (by decide) hs (qo T),this,false_or])
 have e3:decide (nv s=nv 0)=decide (a=18):=(fY s 0).trans (iu.mpr (jI T ha (by decide) hs (nF T)))
 have e4:decide (nv s=nv 4)=decide (a=14):=(fY s 4).trans (iu.mpr (jI T ha (by decide) hs (T.cU rfl)))
 have e5:decide (nv t=nv 3)=decide (b=16):=(fY t 3).trans (iu.mpr (jI T hb (by decide) ht (T.cU rfl)))
 have e6:decide (nv t=nv 2)=false:=(fY t 2).trans (fH (ht.YE T hb))
 have e9:=Lr T ha hb ht
 rw[Hu]at hR
 generalize decide (a=b)=x0 at*
 generalize decide (b=18\/b=32\/b=24)=x1 at*
 generalize decide (a=24)=x2 at*
 generalize decide (a=18)=x3 at*
 generalize decide (a=14)=x4 at*
 generalize decide (b=16)=x5 at*
 generalize decide (dO a=some b)=x6 at*
 cases x0 with
 |true=>exact NO (congrArg (·==false) e0) (gT e0 hR)
 |false=>
 refine Rj (congrArg (·==false) e0) (gV (rS e1) ?_)
 cases x1 with
 |true=>exact hR
 |false=>
 refine gV (rS e2) ?_
 cases x2 with
 |true=>exact hR
 |false=>
 cases x3 with
 |true=>
  have h:R (.bool !decide (nv t=nv 2)) (heap w rest):=by rw[e6];exact hR
  exact gT e3 h
 |false=>
 refine gF e3 ?_
 have fm:∀n,(x4&&x5)=false->go (n+100) ⟨l,d+1,N,R⟩ (.s [.ret (.bF .eq (.call 326 [.bO (.aq (.ah 47) 15) (.ah 99)]) (.ah 33))] []) [(47,.ref 1),(99,nv s),(33,nv t)] (heap w rest):=fun n e=>by
  have h:R (.bool (decide (V.int (sI a)=nv t))) (heap w rest):=by rw[e9];rw[e]at hR;exact hR
  exact gV (eB T hs) (gC (yG a ha l d _) h)
 cases x4 with
 |false=>exact NO (congrArg (·==true) e4) (gF e4 (fm _ rfl))
 |true=>
  refine Rj (congrArg (·==true) e4) ?_
  cases x5 with
  |false=>exact gF e5 (fm _ rfl)
  |true=>exact gT e5 hR
end
section
variable{l:List Int}{d:Nat}{w:W}{rest:H}
noncomputable def pm(a b:Nat):Bool:=kF a b||kF b a
noncomputable def jX(K:az):az:=eM (K.flatMap fun a=>[jq a])
noncomputable def BL(K:az):Prop:=iL (K.flatMap fun a=>[jq a])
noncomputable def jP(K L:az):Bool:=decide (K=[]\/L=[]\/∃a∈jX K,∃b∈jX L,pm a b=true)
theorem F8{af:List V}(T:dj af):fF af 2 []:=⟨[],⟨by simp,by simp,by simp,by simp⟩,.inl ⟨rfl,rfl⟩⟩
theorem kh{af:List V}(T:dj af){n:Nat}{K:az}(D:fF af n K):n=2↔K=[]:=by
 constructor
 ·intro e
  subst e
  have:=D.set T (F8 T)
  exact List.eq_nil_iff_forall_not_mem.mpr fun a ha=>by have:=(this a).mp ha;simp at this
 ·intro e
  subst e
  exact D.num T (F8 T) fun Z=>Iff.rfl
theorem ac9{K L:az}(nK:K≠[])(nL:L≠[])(h:∀a∈jX K,∀b∈jX L,pm a b=false):jP K L=false:=by
 unfold jP
 rw[decide_eq_false_iff_not]
 rintro(q|q|⟨a,ha,b,hb,q⟩)
 ·exact nK q
 ·exact nL q
 ·rw[h a ha b hb]at q;cases q
theorem V6{K L:az}{a b:Nat}(ha:a∈jX K)(hb:b∈jX L)(h:pm a b=true):jP K L=true:=ez (.inr (.inr ⟨a,ha,b,hb,h⟩))
theorem Dd{M:Ma}{n:Nat}{k:List Fr}{ρ:aO}{K L:az}{s t:Nat}(T:dj w.af)(hl:w.af.length+1000<90000)(DK:fF w.af s K)(DL:fF w.af t L)(jK:BL K)(jL:BL L)
  (g:∀w' r',rest<+:r'->Gr w w' 700->Rt M n k ρ (.bool (jP K L)) (heap w' r')):Cl M n k ρ (bC (P l) (d+5) 658 [.ref 1,nv s,nv t] (heap w rest)):=by
 refine xV (WI l) fun N R Z hR=> ?_
 have g:∀b w' r',rest<+:r'->Gr w w' 700->jP K L=b->R (.bool b) (heap w' r'):=fun b w' r' x y e=>hR _ _ (e▸g w' r' x y)
 by_cases h0:s=2
 ·exact NO (congrArg (·==false) ((fY s 2).trans (ez h0))) (gT ((fY s 2).trans (ez h0)) (g _ w _ (List.prefix_refl _) ((Gr.refl _).le (mX)) (ez (.inl ((kh T DK).mp h0)))))
 refine Rj (congrArg (·==false) ((fY s 2).trans (fH h0))) ?_
 by_cases h1:t=2
 ·exact gT ((fY t 2).trans (ez h1)) (g _ w _ (List.prefix_refl _) ((Gr.refl _).le (mX)) (ez (.inr (.inl ((kh T DL).mp h1)))))
 refine gF ((fY t 2).trans (fH h1)) (mw T (fR hl) DK jK fun m w1 r1 x1 l1 D1=> ?_)
 have nK:K≠[]:=fun e=>h0 ((kh T DK).mpr e)
 have nL:L≠[]:=fun e=>h1 ((kh T DL).mpr e)
 have T1:=l1.iU T (fR hl)
 refine aD D1 fun ns p q=>gC (gn T1 p q) ?_
 have jW:=p.jW T1
 refine EY (f:=nv) (ys:=ns) (fun dn be w' r'=>r1<+:r'/\Gr w1 w' (25*dn.length)/\ay 47 be=some (.ref 1)/\ay 33 be=some (nv t)/\∀n∈dn,∀a∈jX K,aY w1.af a n->∀b∈jX L,pm a b=false)
  (by exact(qh jW rfl)) ⟨List.prefix_refl _,Gr.refl _,rfl,rfl,by simp⟩ (fun dn n r e cu w2 r2 u N1 hN=> ?_) fun cu w2 r2 u=> ?_
 ·refine Ai u fun x2 l2 Gp Zq h4=> ?_
  have:=congrArg List.length e
  rw[fV]at this
  have lx1:=l1.len
  have lx2:=l2.len
  refine aD ((p.mem n).mp (by rw[e];simp)) fun a ha EI=> ?_
  have T2:=l2.iU T1 (by lia)
  refine gV Gp (gV Gp (gV Zq (mw T2 (by lia) ((DL.ext l1.ext T1).ext l2.ext T2) jL fun m3 w3 r3 x3 l3 D3=> ?_)))
  have lx3:=l3.len
  have T3:=l3.iU T2 (by lia)
  refine aD D3 fun ms p3 q3=>gC (gn T3 p3 q3) ?_
  have agP:=p3.jW T3
  have hs:=(EI.ext l2.ext).ext l3.ext
  refine EY (f:=nv) (ys:=ms) (fun dn be w' r'=>w3=w'/\r3=r'/\ay 47 be=some (.ref 1)/\ay 33 be=some (nv t)/\ay 76 be=some (nv n)/\∀m∈dn,∀b∈jX L,aY w3.af b m->pm a b=false)
   (by exact(qh agP rfl)) ⟨rfl,rfl,Gp,Zq,rfl,by simp⟩ (fun dn2 m r e2 xD w' r' u N2 hN2=> ?_) fun xD w' r' u=> ?_
  ·refine ju u fun q1 q2 Zj k33 k76 h5=> ?_
   subst q1 q2
   refine aD ((p3.mem m).mp (by rw[e2];simp)) fun b hb Zn=> ?_
   have yes:pm a b=true->R (.bool true) (heap w3 r3):=fun hp=>g _ _ _ (x1.trans (x2.trans x3)) ((l1.trans (l2.trans l3)).le (by lia)) (V6 ha hb hp)
   refine gV Zj (gV k76 (gC (s7 T3 (p.at_ a ha) (p3.at_ b hb) hs Zn) ?_))
   cases c1:kF a b with
   |true=>exact yes (by unfold pm;rw[c1];rfl)
   |false=>
    refine gV Zj (gV k76 (gC (s7 T3 (p3.at_ b hb) (p.at_ a ha) Zn hs) ?_))
    cases c2:kF b a with
    |true=>exact yes (by unfold pm;rw[c2,Bool.or_true])
    |false=>
     refine hN2 _ _ _ ⟨rfl,rfl,Zj,k33,k76,fun k hk c hc Ir=> ?_⟩
     refine(gj.mp hk).elim (fun hk=>h5 k hk c hc Ir) fun hk=> ?_
     rw[eZ.mp hk]at Ir
     rw[Ir.xW (p3.at_ c hc) (p3.at_ b hb) Zn]
     unfold pm;rw[c1,c2];rfl
  ·refine ju u fun q1 q2 Zj k33 k76 h5=> ?_
   subst q1 q2
   refine hN _ _ _ ⟨x2.trans x3,(l2.trans l3).le (by simp;exact(lS rfl)),Zj,k33,fun k hk c hc Ir b hb=> ?_⟩
   refine(gj.mp hk).elim (fun hk=>h4 k hk c hc Ir b hb) fun hk=> ?_
   rw[eZ.mp hk]at Ir
   rw[Ir.xW (p.at_ c hc) (p.at_ a ha) EI]
   exact bR (p3.has b hb) fun m hm=>h5 m ((p3.mem m).mpr ⟨b,hb,hm⟩) b hb hm
 ·refine Ai u fun x2 l2 Z Z h4=>g _ _ _ (x1.trans x2) ((l1.trans l2).le (by lia)) (ac9 nK nL fun a ha b hb=> ?_)
  exact bR (p.has a ha) fun n hn=>h4 n ((p.mem n).mpr ⟨a,ha,hn⟩) a ha hn b hb
end
section
variable{l:List Int}{d:Nat}{w:W}{rest:H}
noncomputable def l8(K:az)(b:Nat):Bool:=decide (∀a∈jX K,kF a b=true)
theorem Ei{M:Ma}{n:Nat}{k:List Fr}{ρ:aO}{K:az}{s t b:Nat}(T:dj w.af)(hl:w.af.length+1000<90000)(DK:fF w.af s K)(jK:BL K)(uS:18∉jX K)(hbt:(b=6/\t=7)\/(b=10/\t=6))
  (g:∀v w' r',rest<+:r'->Gr w w' 50->Rt M n k ρ (.ak [.bool (l8 K b),v]) (heap w' r')):Cl M n k ρ (bC (P l) (d+5) 651 [.ref 1,nv s,nv t] (heap w rest)):=by
 have hb:b∈aU:=by rcases hbt with⟨rfl,_⟩|⟨rfl,_⟩<;>decide
 have ht:aY w.af b t:=by
  rcases hbt with⟨rfl,rfl⟩|⟨rfl,rfl⟩
  ·exact Um T
  ·exact ZQ T
 have er:eM ([b].flatMap fun a=>[jq a])=[b]:=by rcases hbt with⟨rfl,_⟩|⟨rfl,_⟩<;>decide
 refine xV (WJ l) fun N R Z hR=>gA fun r0 i x0 Z=> ?_
 refine mw T (fR hl) (cj T hb ht) (by rcases hbt with⟨rfl,_⟩|⟨rfl,_⟩<;>(intro h;revert h;decide)) fun m w1 r1 x1 l1 D1=> ?_
 rw[er]at D1
 have lx1:=l1.len
 have T1:=l1.iU T (fR hl)
 have Zk:=ht.ext l1.ext
 have em:m=t:=D1.num T1 (cj T1 hb Zk) fun Z=>Iff.rfl
 subst em
 refine mw T1 (qP lx1 hl rfl) (DK.ext l1.ext T1) jK fun k w2 r2 x2 l2 D2=> ?_
 have lx2:=l2.len
 have T2:=l2.iU T1 (qP lx1 hl rfl)
 have TL:=Zk.ext l2.ext
 have P1:f8 w2.af [m] [b]:=aD (cj T2 hb TL) fun ns p q=>by
  have:ns=[m]:=by
   rcases q with⟨rfl,rfl⟩|q|⟨q1,q2⟩
   ·exact absurd rfl (TL.YE T2 hb)
   ·exact q
   ·unfold aY at TL;rw[TL]at q2;exact absurd (ig q2) (nY hb)
  rw[<-this];exact p
 refine aD D2 fun ns p q=>gC (gn T2 p q) ?_
 have jW:=p.jW T2
 have g:∀c v r',r2<+:r'->l8 K b=c->R (.ak [.bool c,v]) (heap w2 r'):=fun c v r' x e=>hR _ _ (e▸g v w2 r' (x0.trans (x1.trans (x2.trans x))) (l1.trans l2))
 refine EY (f:=nv) (ys:=ns) (fun dn be w' r'=>w2=w'/\r2=r'/\ay 47 be=some (.ref 1)/\ay 33 be=some (nv m)/\ay 21 be=some (.ref (95+i))/\∀n∈dn,∀a∈jX K,aY w2.af a n->kF a b=true)
  (by exact(qh jW rfl)) ⟨rfl,rfl,rfl,rfl,rfl,by simp⟩ (fun dn n r e cu w' r' u N1 hN=> ?_) fun cu w' r' u=> ?_
 ·refine ju u fun q1 q2 Gp Zq Zr h4=> ?_
  subst q1 q2
  refine aD ((p.mem n).mp (by rw[e];simp)) fun a ha EI=> ?_
  have aa:=p.at_ a ha
  have n0:decide (nv n=nv 0)=false:=(fY n 0).trans (fH fun e=>uS ((jI T2 aa (by decide) EI (nF T2)).mp e▸ha))
  refine gV Gp (gV Zq (gC (gn T2 P1 (.inr (.inl rfl))) (Nk (v:=nv m) rfl rfl fun N2 h2=>gV Gp (gC (s7 T2 aa hb EI TL) ?_))))
  cases c:kF a b with
  |false=>exact h2 _ _ (YL rfl (gA fun r3 j x3 Z=>g _ _ _ x3 (fH fun h=>by rw[h a ha]at c;cases c)))
  |true=>
   refine h2 _ _ (YL rfl (NO (congrArg (·==true) n0) (gF n0 (hN _ _ _ ⟨rfl,rfl,Gp,Zq,Zr,fun k hk c' hc Ir=> ?_⟩))))
   refine(gj.mp hk).elim (fun hk=>h4 k hk c' hc Ir) fun hk=> ?_
   rw[eZ.mp hk]at Ir
   rw[Ir.xW (p.at_ c' hc) aa EI];exact c
 ·refine ju u fun q1 q2 Z Z Zr h4=> ?_
  subst q1 q2
  exact gV Zr (g _ _ _ (List.prefix_refl _) (ez fun a ha=>bR (p.has a ha) fun n hn=>h4 n ((p.mem n).mpr ⟨a,ha,hn⟩) a ha hn))
end
noncomputable def has(l:List Nat)(a:Nat):Bool:=l.any fun b=>Nat.beq a b
theorem gS{l:List Nat}{a:Nat}:has l a=true↔a∈l:=by
 unfold has;rw[List.any_eq_true]
 exact⟨fun⟨b,h1,h2⟩=>by rw[vd h2];exact h1,fun h=>⟨a,h,by simp⟩⟩
noncomputable def BC(A:az):Bool:= !((has A 2||has A 3)&&(has A 12||has A 13))||(has A 2&&has A 12)
theorem AA{A:az}(h:BC A=true):iL A:=by
 intro q
 unfold BC at h
 simp only[je,dX,gS]at h
 rcases h with h|h
 ·exfalso
  have:((has A 2||has A 3)&&(has A 12||has A 13))=true:=by
   simp only[dX,je,gS];exact q
  rw[this]at h;exact nomatch h
 ·exact h
noncomputable def N4:List Nat->Bool
 |a::b::r=>Nat.blt a b&&N4 (b::r)
 |_=>true
theorem Ko:∀{l:List Nat},N4 l=true->l.Pairwise (·<·)
 |[],_=>.nil
 |[a],_=>by simp
 |a::b::r,h=>by
  have h:=(dX _ _).mp (show(Nat.blt a b&&N4 (b::r))=true from h)
  have ih:=Ko h.2
  have lt:=mH h.1
  rw[sG]at ih⊢
  refine⟨fun c hc=> ?_,sG.mpr ih⟩
  rcases cH.mp hc with rfl|hc
  ·exact lt
  ·exact Nat.lt_trans lt (ih.1 c hc)
noncomputable def zZ(A:az)(a:Nat):Bool:= !(Nat.beq (a % 2) 1&&has A (a - 1))&& !(match dO a with|some b=>has A b|none=>false)
theorem Hj(A:az)(a:Nat):zZ A a=jg A a:=by
 unfold zZ
 congr 2
 ·rw[Bool.eq_iff_iff];simp only[dX,gS,lW]
  exact and_congr ⟨vd,fun h=>by rw[h];rfl⟩ Iff.rfl
 ·cases dO a with
  |none=>rfl
  |some b=>rw[Bool.eq_iff_iff,gS,lW]
noncomputable def yw(A:az):az:=cond (has A 18) [18] (cond (has A 24) [24] (cond (has A 32) [32] (A.filter (zZ A))))
theorem vX(A:az):yw A=eM A:=by
 have e:zZ A=jg A:=funext (Hj A)
 have c:∀a,(has A a=true)=(a∈A):=fun a=>propext gS
 unfold yw eM
 rw[e]
 simp only[<-c]
 cases has A 18<;>cases has A 24<;>cases has A 32<;>simp
noncomputable def NP:List Nat->List Nat->Bool
 |[],[]=>true
 |a::r,b::t=>Nat.beq a b&&NP r t
 |_,_=>false
theorem sM:∀{a b:List Nat},NP a b=true->a=b
 |[],[],_=>rfl
 |a::r,b::t,h=>by
  have h:=(dX _ _).mp (show(Nat.beq a b&&NP r t)=true from h)
  rw[vd h.1,sM h.2]
 |[],_::_,h=>absurd h Bool.false_ne_true
 |_::_,[],h=>absurd h Bool.false_ne_true
noncomputable def sub(A B:az):Bool:=A.all (has B)
noncomputable def yz(R:az)(b:Nat):Bool:=R.all fun a=>kF a b
noncomputable def yE(K:az)(c:Nat):Bool:=K.all fun a=>(fh (a / 2)).all fun v=>Nat.beq (fc v) c
noncomputable def zJ(K:az):az:=K.map jq
noncomputable def OF(K:az):Bool:=
 sub K aU&&Nat.blt K.length 20&&Nat.blt (pL K).length 40&&N4 K&&BC K&&NP (yw K) K&&BC (zJ K)&&NP (yw (zJ K)) (zJ K)&&(NP K [18]|| !has K 18)
noncomputable def pF(K:az):Bool:=
 OF K&&OF (i7 K)&&((NP K [18]||NP K [24])||((yz (zJ K) 6==yE K 110)&&(yz (zJ K) 10==yE K 115)))&&BC (K.flatMap jH)&&(sub (yw (K.flatMap jH)) (i7 K)&&sub (i7 K) (yw (K.flatMap jH)))
structure Core(K:az):Prop where
 at_:∀a∈K,a∈aU
 ok:ZC K
 Re:K.Pairwise (·<·)
 agB:iL K
 kj:eM K=K
 reg:BL K
 jX:jX K=K.map jq
 top:18∈K->K=[18]
structure gG(K:az):Prop extends Core K where
 ir:Core (i7 K)
 num:K≠[18]->K≠[24]->l8 K 6=decide (∀v∈fW K,fc v=110)
 str:K≠[18]->K≠[24]->l8 K 10=decide (∀v∈fW K,fc v=115)
 ES:iL (K.flatMap jH)
 same:iB (eM (K.flatMap jH)) (i7 K)
theorem DI{A B:az}(h:sub A B=true):∀a∈A,a∈B:=fun a ha=>gS.mp (dG.mp h a ha)
theorem MO:∀a∈aU,a<34:=by decide
theorem t9(K:az):(K.flatMap fun a=>[jq a])=K.map jq:=by
 induction K with
 |nil=>rfl
 |cons a K ih=>rw[List.flatMap_cons,ih];rfl
theorem jv{K:az}(h:OF K=true):Core K:=by
 unfold OF at h
 simp only[dX]at h
 refine dw h fun u1 h9=> ?_;refine dw u1 fun u2 h8=> ?_;refine dw u2 fun u3 h7=> ?_;refine dw u3 fun u4 h6=> ?_;refine dw u4 fun u5 h5=> ?_;refine dw u5 fun u6 h4=> ?_;refine dw u6 fun u7 h3=> ?_;refine dw u7 fun h1 h2=> ?_
 have at_:=DI h1
 have len:=mH h2
 have ahE:=mH h3
 refine⟨at_,⟨⟨fun a ha=>MO a (at_ a ha),by lia⟩,by lia⟩,Ko h4,AA h5,by rw[<-vX];exact sM h6,?_,?_,fun q=> ?_⟩
 ·unfold BL;rw[t9];exact AA h7
 ·unfold jX;rw[t9,<-vX];exact sM h8
 ·rw[je]at h9
  rcases h9 with h|h
  ·exact sM h
  ·rw[gS.mpr q]at h;exact nomatch h
theorem C2(K:az)(c:Nat):yE K c=decide (∀v∈fW K,fc v=c):=by
 rw[Bool.eq_iff_iff,lW]
 unfold yE fW
 simp only[dG,yd]
 constructor
 ·intro h v u0;refine aD u0 fun a ha hv=> ?_;exact vd (h a ha v hv)
 ·intro h a ha v hv;rw[h v ⟨a,ha,hv⟩];simp
theorem CL{K:az}(h:jX K=K.map jq)(b:Nat):yz (zJ K) b=l8 K b:=by
 rw[Bool.eq_iff_iff]
 unfold yz l8 zJ
 rw[lW,h,dG]
theorem fy{K:az}(h:pF K=true):gG K:=by
 unfold pF at h
 simp only[dX]at h
 refine iX h fun u1 h5 h6=> ?_;refine dw u1 fun u2 h4=> ?_;refine dw u2 fun u3 h3=> ?_;refine dw u3 fun h1 h2=> ?_
 have c:=jv h1
 have f:K≠[18]->K≠[24]->(yz (zJ K) 6==yE K 110)=true/\(yz (zJ K) 10==yE K 115)=true:=fun n1 n2=>by
  simp only[je,dX]at h3
  rcases h3 with(h|h)|h
  ·exact absurd (sM h) n1
  ·exact absurd (sM h) n2
  ·exact h
 refine⟨c,jv h2,fun n1 n2=> ?_,fun n1 n2=> ?_,AA h4,fun a=> ?_⟩
 ·have:=(f n1 n2).1
  rw[jE,CL c.jX,C2]at this;exact this
 ·have:=(f n1 n2).2
  rw[jE,CL c.jX,C2]at this;exact this
 ·rw[vX]at h5 h6;exact⟨DI h5 a,DI h6 a⟩
theorem Core.eq{K L:az}(a:Core K)(b:Core L)(h:iB K L):K=L:=qw a.Re b.Re h
noncomputable def drawn:List Nat:=[3,5,6,1,0,7,8,4,2,13,14,15,10,11]
theorem Wq:(drawn.all fun a=>pF (dI [a] 0)&&pF (dI [a] 1))=true:=by decide+kernel
theorem Mm:(pF (dI [9] 0)&&pF (dI [12] 0)&&pF (dI [16] 0)&&pF (dI [] 0)&&pF [6]&&pF [2,12]&&pF [20,22])=true:=by decide+kernel
theorem Wp:(drawn.all fun a=>drawn.all fun b=>pF (dI [a,b] 0)&&pF (dI [a,b] 1))=true:=by decide+kernel
theorem Wo:(drawn.all fun a=>drawn.all fun b=>[0,7,8].all fun c=>pF (dI [a,b,c] 0)&&pF (dI [a,b,c] 1))=true:=by decide+kernel
section
variable{l:List Int}{d:Nat}{w:W}{rest:H}
theorem Em:iJ (P l) (.ref (if w.jp then 86 else 84)) 102 (heap w rest)=some (if w.jp then 611 else 534):=by
 cases w.jp<;>rfl
theorem tZ:iJ (P l) (.ref (if w.jp then 86 else 84)) 105 (heap w rest)=some (if w.jp then 625 else 555):=by
 cases w.jp<;>rfl
noncomputable def NT(plain:Bool)(K:az):Prop:=plain=true->4∉K
theorem Pf:(aU.all fun a=>aU.all fun b=>Nat.beq a 4||Nat.beq b 4||(pm (jq a) (jq b)==(fh (b / 2)).any fun v=>has (fh (a / 2)) v))=true:=by decide+kernel
theorem Me{K L:az}(hK:Core K)(hL:Core L)(nK:4∉K)(nL:4∉L):jP K L=ji true K L:=by
 unfold jP ji
 rw[aI rfl,iu,hK.jX,hL.jX]
 refine or_congr Iff.rfl (or_congr Iff.rfl ?_)
 have key:∀a∈K,∀b∈L,pm (jq a) (jq b)=true↔∃v∈fh (b / 2),v∈fh (a / 2):=fun a ha b hb=>by
  have:=dG.mp (dG.mp Pf a (hK.at_ a ha)) b (hL.at_ b hb)
  simp only[je,jE]at this
  rcases this with(h|h)|h
  ·exact absurd (vd h▸ha) nK
  ·exact absurd (vd h▸hb) nL
  ·rw[h,List.any_eq_true]
   exact⟨fun⟨v,h1,h2⟩=>⟨v,h1,gS.mp h2⟩,fun⟨v,h1,h2⟩=>⟨v,h1,gS.mpr h2⟩⟩
 constructor
 ·intro u0;refine Xi u0 fun x hx y hy h=> ?_
  refine aD (eY.mp hx) fun a ha q2=> ?_;subst q2
  refine aD (eY.mp hy) fun b hb q2=> ?_;subst q2
  refine aD ((key a ha b hb).mp h) fun v h1 h2=> ?_
  exact⟨v,yd.mpr ⟨b,hb,h1⟩,yd.mpr ⟨a,ha,h2⟩⟩
 ·intro u0;refine aD u0 fun v h1 h2=> ?_
  refine aD (yd.mp h1) fun b hb h1=> ?_
  refine aD (yd.mp h2) fun a ha h2=> ?_
  exact⟨jq a,eY.mpr ⟨a,ha,rfl⟩,jq b,eY.mpr ⟨b,hb,rfl⟩,(key a ha b hb).mpr ⟨v,h1,h2⟩⟩
theorem kJ{af:List V}(T:dj af){K L:az}{s t:Nat}(hK:Core K)(hL:Core L)(DK:fF af s K)(DL:fF af t L):s=t↔K=L:=
 ⟨fun e=>hK.eq hL (DK.set T (e▸DL)),fun e=>by subst e;exact DK.num T DL fun Z=>Iff.rfl⟩
section
variable{M:Ma}{n:Nat}{k:List Fr}{ρ:aO}
theorem pR{K L:az}{s t:Nat}(T:dj w.af)(hl:w.af.length+1000<90000)(hK:Core K)(hL:Core L)(nK:NT w.jp K)(nL:NT w.jp L)(DK:fF w.af s K)(DL:fF w.af t L)
  (g:∀w' r',rest<+:r'->Gr w w' 700->Rt M n k ρ (.bool (ji w.jp K L)) (heap w' r')):Cl M n k ρ (bC (P l) (d+6) (if w.jp then 625 else 555) [.ref (if w.jp then 86 else 84),.ref 25,nv s,nv t] (heap w rest)):=by
 cases hj:w.jp with
 |false=>
  have e:decide (nv s=nv t)=ji false K L:=(fY s t).trans (iu.mpr (kJ T hK hL DK DL))
  rw[hj,<-e]at g
  exact nj (WO l) fun N R Z hR=>hR _ _ (g w _ (List.prefix_refl _) ((Gr.refl _).le (mX)))
 |true=>
  rw[hj,<-Me hK hL (nK hj) (nL hj)]at g
  exact nj (WL l) fun N R Z hR=>Dd T hl DK DL hK.reg hL.reg fun w' r' x y=>hR _ _ (g w' r' x y)
end
structure Nq(af:List V)(given aj:List (V×V)):Prop where
 fst:∀k v,aT k given=some v->∃n K b u wc t,k=.ak [nv n,nv t]/\v=.ak [.bool b,u]/\fF af n K/\Core K/\((wc=3/\t=7)\/(wc=5/\t=6))/\aT (.ak [kv K,wv wc]) aj=some (.bool b)
 snd:∀K wc v,Core K->aT (.ak [kv K,wv wc]) aj=some v->∃n b u t,((wc=3/\t=7)\/(wc=5/\t=6))/\v=.bool b/\fF af n K/\aT (.ak [nv n,nv t]) given=some (.ak [.bool b,u])
theorem Nq.ext{a b:List V}{c:Nat}{given aj:List (V×V)}(x:lN a b c)(T:dj b)(g:Nq a given aj):Nq b given aj:=
 ⟨fun k v h=>by refine Dj (g.fst k v h) fun n K b' u wc t h1 h2 h3 h4=> ?_;exact⟨n,K,b',u,wc,t,h1,h2,h3.ext x T,h4⟩,
  fun K wc v hK h=>by refine jz (g.snd K wc v hK h) fun n b' u t h1 h2 h3 h4=> ?_;exact⟨n,b',u,t,h1,h2,h3.ext x T,h4⟩⟩
theorem Nq.at{af:List V}{given aj:List (V×V)}(T:dj af)(g:Nq af given aj){n:Nat}{K:az}(D:fF af n K)(hK:Core K){wc t:Nat}(hp:(wc=3/\t=7)\/(wc=5/\t=6)):
  (aT (.ak [nv n,nv t]) given=none/\aT (.ak [kv K,wv wc]) aj=none)\/∃b u,aT (.ak [nv n,nv t]) given=some (.ak [.bool b,u])/\aT (.ak [kv K,wv wc]) aj=some (.bool b):=by
 cases e:aT (.ak [nv n,nv t]) given with
 |some v=>
  refine pS (g.fst _ _ e) fun n' K' b u Nr t' h1 q7 h3 h4 h5 h6=> ?_;subst q7
  have e1:nv n=nv n'/\nv t=nv t':=by simpa using h1
  have e2:=dY e1.1
  have e3:=dY e1.2
  subst e2;subst e3
  have:K'=K:=h4.eq hK (h3.set T D)
  subst this
  have:Nr=wc:=by lia
  subst this
  exact .inr ⟨b,u,rfl,h6⟩
 |none=>
  cases e2:aT (.ak [kv K,wv wc]) aj with
  |none=>exact .inl ⟨rfl,rfl⟩
  |some v=>
   refine jz (g.snd K wc v hK e2) fun n' b u t' h1 q5 h3 h4=> ?_;subst q5
   have:n'=n:=h3.num T D fun Z=>Iff.rfl
   subst this
   have:t'=t:=by lia
   subst this
   rw[e]at h4;exact bJ h4
theorem Ej{K:az}{wc:Nat}{te:List (V×V)}(hK:gG K)(uS:K≠[18])(yp:K≠[24])(hp:wc=3\/wc=5):l8 K (wc*2)=b8 true te K wc:=by
 unfold b8
 rw[aG (fun h=>h.elim uS yp)]
 rcases hp with rfl|rfl
 ·exact hK.num uS yp
 ·exact hK.str uS yp
theorem ac6{K:az}(hK:gG K)(uS:K≠[18]):18∉jX K:=fun h=>by
 rw[hK.jX]at h
 refine aD (eY.mp h) fun a ha e=> ?_
 have:a=18:=by
  have:=dG.mp (show(aU.all fun a=> !Nat.beq (jq a) 18||Nat.beq a 18)=true by decide+kernel) a (hK.at_ a ha)
  rw[e]at this
  simp at this
  exact this
 subst this
 exact uS (hK.top ha)
theorem Ed{af:List V}(T:dj af){wc t:Nat}(hp:(wc=3/\t=7)\/(wc=5/\t=6)):Core [2*wc]/\fF af t [2*wc]:=by
 rcases hp with⟨rfl,rfl⟩|⟨rfl,rfl⟩
 ·exact⟨jv (by decide+kernel),cj T (by decide) (T.cU (n:=7) rfl)⟩
 ·exact⟨jv (by decide+kernel),cj T (by decide) (T.cU (n:=6) rfl)⟩
theorem HS{s t:Nat}{u:V}:j7 (heap w rest) (.ref 85) (.ak [nv s,nv t]) u=some ((aT (.ak [nv s,nv t]) w.given).getD u):=by
 have kk:(V.ak [nv s,nv t]).kind=3:=rfl
 exact tH (Tq w rest) kk (by decide)
theorem AQ{M:Ma}{n:Nat}{k:List Fr}{ρ:aO}{K:az}{s t wc:Nat}(T:dj w.af)(hl:w.af.length+1000<90000)(hK:gG K)(uS:K≠[18])(yp:K≠[24])(DK:fF w.af s K)(hp:(wc=3/\t=7)\/(wc=5/\t=6))(hj:w.jp=w.plain)(G:Nq w.af w.given w.aj)
  (g:∀v w' r',rest<+:r'->Gr w w' 50->Rt M n k ρ (.ak [.bool (b8 w.plain w.aj K wc),v]) (heap w' r')):Cl M n k ρ (bC (P l) (d+6) (if w.jp then 611 else 534) [.ref (if w.jp then 86 else 84),.ref 25,nv s,nv t] (heap w rest)):=by
 rw[hj]
 cases hb:w.plain with
 |true=>
  rw[hb,<-Ej hK uS yp (acw hp)]at g
  exact nj (WM l) fun N R Z hR=>Ei T hl DK hK.reg (ac6 hK uS) (by lia) fun v w' r' x y=>hR _ _ (g v w' r' x y)
 |false=>
  have eg:b8 w.plain w.aj K wc=vH w.aj K wc:=by unfold b8;rw[aG (fun h=>h.elim uS yp),hb];rfl
  rw[eg]at g
  unfold vH at g
  refine nj (WP l) fun N R Z hR=>gA fun r i x Z=>gV HS ?_
  have y:=(Gr.refl w).le (show 0<=50 by exact(mX))
  rcases G.at T DK hK.toCore hp with⟨h1,h2⟩|⟨b,u,h1,h2⟩
  ·rw[h1]
   rw[h2]at g
   have sd:=Ed T hp
   have e:decide (nv s=nv t)=decide (K=[2*wc]):=(fY s t).trans (iu.mpr (kJ T hK.toCore sd.1 DK sd.2))
   have g:∀v w' r',rest<+:r'->Gr w w' 50->Rt M n k ρ (.ak [.bool (decide (nv s=nv t)),v]) (heap w' r'):=e.symm▸g
   exact hR _ _ (g _ w r x y)
  ·rw[h1]
   rw[h2]at g
   exact hR _ _ (g u w r x y)
end
section
variable{l:List Int}{d:Nat}{w:W}{rest:H}
structure lM(w:W):Prop where
 T:dj w.af
 cB:qq w
 aj:oR w.aj
 jp:w.jp=w.plain
 G:Nq w.af w.given w.aj
theorem lM.gr{w':W}{c:Nat}(I:lM w)(x:Gr w w' c)(hl:w.af.length+c<90000):lM w':=by
 have T:=x.iU I.T hl
 have G:=I.G.ext x.ext T
 have e:=x.same
 generalize w'.af=r at*
 subst e
 exact⟨T,⟨I.cB.intz,I.cB.jW⟩,I.aj,I.jp,G⟩
theorem DY:Core [18]:=jv (by decide+kernel)
theorem DX:Core [24]:=jv (by decide+kernel)
theorem Ax(T:dj w.af){K:az}{s:Nat}(hK:Core K)(D:fF w.af s K):bD (heap w rest) (nv s) (.ak [.int 0,.int 13])=some (decide (K=[18]\/K=[24])):=
 (Jh _ s [0,13]).trans (by
  congr 1;rw[iu]
  simp only[cH,qn,or_false]
  exact or_congr (kJ T hK DY D (cj T (by decide) (nF T))) (kJ T hK DX D (cj T (by decide) (qo T))))
section
variable{M:Ma}{n:Nat}{k:List Fr}{ρ:aO}
theorem FD{f g0 wc t:Nat}{K:az}{s:Nat}(e:(P l).fn f=some ⟨[86,33],[],[.ret (.eW true [.bF .gw (.ah 33) (.ak [.aC 72 (.int 0),.aC 73 (.int 13)]),.bO (.bM (.aq (.ah 86) 170) 102 [.ah 86,.ah 33,.aC g0 (nv t)]) (.cst (.int 0))])]⟩)(hp:(wc=3/\t=7)\/(wc=5/\t=6))(I:lM w)(hl:w.af.length+1000<90000)(hK:gG K)(D:fF w.af s K)
  (g:∀w' r',rest<+:r'->Gr w w' 50->Rt M n k ρ (.bool (b8 w.plain w.aj K wc)) (heap w' r')):Cl M n k ρ (bC (P l) (d+7) f [.ref 25,nv s] (heap w rest)):=by
 refine uX e fun N R Z hR=> ?_
 have m:=Ax (rest:=rest) I.T hK.toCore D
 by_cases h:K=[18]\/K=[24]
 ·have e:b8 w.plain w.aj K wc=false:=by unfold b8;rw[aI h]
  rw[ez h]at m
  rw[e]at g
  exact gV (zK m) (hR _ _ (g w _ (List.prefix_refl _) ((Gr.refl _).le (mX))))
 ·rw[fH h]at m
  exact gV (zK m) (gW Em (AQ I.T hl hK (fun q=>h (.inl q)) (fun q=>h (.inr q)) D hp I.jp I.G fun v w' r' x y=>hR _ _ (g w' r' x y)))
theorem v7{K:az}{s:Nat}(I:lM w)(hl:w.af.length+1000<90000)(hK:gG K)(D:fF w.af s K)(g:∀w' r',rest<+:r'->Gr w w' 50->Rt M n k ρ (.bool (b8 w.plain w.aj K 3)) (heap w' r')):Cl M n k ρ (bC (P l) (d+7) 1004 [.ref 25,nv s] (heap w rest)):=
 FD (t:=7) (Qs l) (.inl ⟨rfl,rfl⟩) I hl hK D g
theorem Cs{K:az}{s:Nat}(I:lM w)(hl:w.af.length+1000<90000)(hK:gG K)(D:fF w.af s K)(g:∀w' r',rest<+:r'->Gr w w' 50->Rt M n k ρ (.bool (b8 w.plain w.aj K 5)) (heap w' r')):Cl M n k ρ (bC (P l) (d+7) 1011 [.ref 25,nv s] (heap w rest)):=
 FD (t:=6) (Qq l) (.inr ⟨rfl,rfl⟩) I hl hK D g
end
end
section
variable{l:List Int}{d:Nat}{w:W}{rest:H}
theorem OW:(aU.all fun a=> !has (jH a) 4||Nat.beq a 4)=true:=by decide+kernel
theorem Hx{A:az}{a:Nat}(h:a∈eM A):a∈A:=by
 unfold eM at h
 split at h
 ·rename_i q;rw[eZ.mp h];exact q
 ·split at h
  ·rename_i q;rw[eZ.mp h];exact q
  ·split at h
   ·rename_i q;rw[eZ.mp h];exact q
   ·exact(yb.mp h).1
theorem B8{K:az}(hK:gG K){b:Bool}(n:NT b K):NT b (i7 K):=fun e h=>by
 have h2:=Hx ((hK.same 4).mpr h)
 refine aD (yd.mp h2) fun a ha h3=> ?_
 have:=dG.mp OW a (hK.at_ a ha)
 rw[gS.mpr h3]at this
 simp at this
 subst this
 exact n e ha
theorem wU{M:Ma}{n:Nat}{k:List Fr}{ρ:aO}{K L:az}{s t:Nat}(I:lM w)(hl:w.af.length+3000<90000)(hK:gG K)(hL:gG L)(nK:NT w.plain K)(nL:NT w.plain L)(DK:fF w.af s K)(DL:fF w.af t L)
  (g:∀w' r',rest<+:r'->Gr w w' 1000->Rt M n k ρ (.bool (gf w.plain w.aj K L)) (heap w' r')):Cl M n k ρ (bC (P l) (d+8) 1070 [.ref 25,nv s,nv t] (heap w rest)):=by
 refine xV (Ql l) fun N R Z hR=> ?_
 have g:∀b w' r',rest<+:r'->Gr w w' 1000->gf w.plain w.aj K L=b->R (.bool b) (heap w' r'):=fun b w' r' x y e=>hR _ _ (e▸g w' r' x y)
 unfold gf at g
 refine v7 I (fR hl) hK DK fun w1 r1 x1 y1=> ?_
 have z1:=y1.len
 have I1:=I.gr y1 (fR hl)
 refine v7 I1 (qP z1 hl rfl) hL (DL.ext y1.ext I1.T) fun w2 r2 x2 y2=> ?_
 have z2:=y2.len
 have I2:=I1.gr y2 (qP z1 hl rfl)
 have x2:=x1.trans x2
 have y2:=y1.trans y2
 rw[y1.plain,y1.aj]
 have fm:∀n w5 r5,r2<+:r5->Gr w w5 200->(b8 w.plain w.aj K 5&&b8 w.plain w.aj L 5)=false->(b8 w.plain w.aj K 3||b8 w.plain w.aj L 3)=false->go (n+200) ⟨l,d+7,N,R⟩ (.s (E5.body.drop 4) []) [(53,.bool (b8 w.plain w.aj L 3)),(201,.bool (b8 w.plain w.aj K 3)),(86,.ref 25),(99,nv s),(33,nv t)] (heap w5 r5):=fun n w5 r5 x5 y5 e5 e3=>by
  have z5:=y5.len
  have I5:=I.gr y5 (fR hl)
  rw[e3,e5]at g
  refine gW tZ (ki I5.T (qP z5 hl rfl) (DK.ext y5.ext I5.T) hK.ES fun m6 w6 r6 x6 y6 D6=> ?_)
  have z6:=y6.len
  have I6:=I5.gr y6 (qP z5 hl rfl)
  have y6:=y5.trans y6
  refine ki I6.T (Bs z6 z5 hl rfl) (DL.ext y6.ext I6.T) hL.ES fun m7 w7 r7 x7 y7 D7=> ?_
  have z7:=y7.len
  have I7:=I6.gr y7 (Bs z6 z5 hl rfl)
  have ej:=(y6.trans y7).jp.trans I.jp
  rw[<-y6.jp.trans y5.jp.symm,<-y7.jp]
  refine pR I7.T (OM z7 z6 z5 hl rfl) hK.ir hL.ir (B8 hK (ej▸nK)) (B8 hL (ej▸nL)) ((D6.ext y7.ext I7.T).congr hK.same) (D7.congr hL.same) fun w8 r8 x8 y8=>g _ _ _ (x2.trans (x5.trans (x6.trans (x7.trans x8)))) ((y6.trans (y7.trans y8)).le (pH rfl)) (by rw[ej];rfl)
 cases ha:b8 w.plain w.aj K 3 with
 |true=>
  refine g _ _ _ x2 (y2.le (pH rfl)) ?_
  rw[ha];rfl
 |false=>
  cases hb:b8 w.plain w.aj L 3 with
  |true=>exact g _ _ _ x2 (y2.le (pH rfl)) (by rw[ha,hb];rfl)
  |false=>
   rw[ha,hb]at fm
   refine Cs I2 (Bs z2 z1 hl rfl) hK (DK.ext y2.ext I2.T) fun w3 r3 x3 y3=> ?_
   have z3:=y3.len
   have I3:=I2.gr y3 (Bs z2 z1 hl rfl)
   have y3:=y2.trans y3
   rw[y2.plain,y2.aj]
   cases hc:b8 w.plain w.aj K 5 with
   |false=>exact fm _ _ _ x3 (y3.le (pH rfl)) (by rw[hc];rfl) rfl
   |true=>
    refine Cs I3 (OM z3 z2 z1 hl rfl) hL (DL.ext y3.ext I3.T) fun w4 r4 x4 y4=> ?_
    have y4:=y3.trans y4
    rw[y3.plain,y3.aj]
    cases he:b8 w.plain w.aj L 5 with
    |false=>exact fm _ _ _ (x3.trans x4) (y4.le (lR)) (by rw[he,Bool.and_false]) rfl
    |true=>exact g _ _ _ (x2.trans (x3.trans x4)) (y4.le (pH rfl)) (by rw[ha,hb,hc,he];rfl)
end
section
variable{l:List Int}{d:Nat}{w:W}{rest:H}
noncomputable abbrev HL:=List (Nat×az)
inductive pG(af:List V):List (Nat×Nat)->HL->Prop
 |nil:pG af [] []
 |cons {x n K t H}:fF af n K->gG K->pG af t H->pG af ((x,n)::t) ((x,K)::H)
theorem pG.ay{af:List V}{x:Nat}{t:List (Nat×Nat)}{H:HL}(h:pG af t H):(Mine.ay x t=none/\Mine.ay x H=none)\/∃n K,Mine.ay x t=some n/\Mine.ay x H=some K/\fF af n K/\gG K:=by
 induction h with
 |nil=>exact .inl ⟨rfl,rfl⟩
 | @cons y n K t H D G r ih=>
  by_cases e:x=y
  ·exact .inr ⟨n,K,aI e,aI e,D,G⟩
  ·exact ih.elim (fun h=>.inl ⟨(aG e).trans h.1,(aG e).trans h.2⟩) fun h=>.inr (aW h fun n' K' h1 h2 h3=>⟨n',K',(aG e).trans h1,(aG e).trans h2,h3⟩)
theorem pG.eX{af:List V}{x n:Nat}{K:az}(D:fF af n K)(G:gG K){t:List (Nat×Nat)}{H:HL}(h:pG af t H):pG af (Mine.eX x n t) (Mine.eX x K H):=by
 induction h with
 |nil=>exact .cons D G .nil
 | @cons y _ _ _ _ D' G' r ih=>
  unfold Mine.eX
  by_cases e:x=y
  ·rw[aI e,aI e];exact .cons D G r
  ·rw[aG e,aG e];exact .cons D' G' ih
theorem pG.ext{a b:List V}{c:Nat}(x:lN a b c)(T:dj b){t:List (Nat×Nat)}{H:HL}(h:pG a t H):pG b t H:=by
 induction h with
 |nil=>exact .nil
 |cons D G _ ih=>exact .cons (D.ext x T) G ih
theorem uH{α:Type}{x:Nat}{v:α}{t:List (Nat×α)}:(Mine.eX x v t).length<=t.length+1:=by
 induction t with
 |nil=>exact bX _
 |cons e r ih=>
  show(if x=e.1 then(x,v)::r else e::Mine.eX x v r).length<=r.length+1+1
  by_cases q:x=e.1
  ·rw[aI q];exact lT _
  ·rw[aG q];exact Nat.succ_le_succ ih
theorem g9{α:Type}{x y:Nat}{v:α}{t:List (Nat×α)}:Mine.ay y (Mine.eX x v t)=if y=x then some v else Mine.ay y t:=by
 induction t with
 |nil=>rfl
 |cons z r ih=>
  show Mine.ay y (if x=z.1 then(x,v)::r else z::Mine.eX x v r)=if y=x then some v else if y=z.1 then some z.2 else Mine.ay y r
  by_cases e:x=z.1
  ·rw[aI e,<-e]
   by_cases q:y=x
   ·rw[aI q];exact aI q
   ·rw[aG q,aG q];exact aG q
  ·rw[aG e]
   by_cases q:y=z.1
   ·rw[aI q,aG fun h=>e (h.symm.trans q)];exact aI q
   ·rw[aG q,<-ih];exact aG q
theorem kg{x:Nat}:∀(t:List (Nat×Nat)),aT (nv x) (dh t)=(Mine.ay x t).map nv
 |[]=>rfl
 |(y,n)::r=>by
  have e0:dh ((y,n)::r)=(nv y,nv n)::dh r:=rfl
  rw[e0,eO,gk,kg r]
  by_cases e:x=y
  ·subst e;simp
  ·rw[aG (fun q=>e (dY q)),aG e]
theorem qC{x n:Nat}:∀(t:List (Nat×Nat)),dM (nv x) (nv n) (dh t)=dh (Mine.eX x n t)
 |[]=>rfl
 |(y,m)::r=>by
  have e0:dh ((y,m)::r)=(nv y,nv m)::dh r:=rfl
  rw[e0,l5,yu,qC r]
  by_cases e:x=y
  ·subst e;rw[aI rfl,aI rfl];rfl
  ·rw[aG (fun q=>e (dY q)),aG e];rfl
theorem qD{x:Nat}:∀(t:HL),aT (nv x) (i6 t)=(Mine.ay x t).map kv
 |[]=>rfl
 |(y,n)::r=>by
  have e0:i6 ((y,n)::r)=(nv y,kv n)::i6 r:=rfl
  rw[e0,eO,gk,qD r]
  by_cases e:x=y
  ·subst e;simp
  ·rw[aG (fun q=>e (dY q)),aG e]
theorem zl{x:Nat}{K:az}:∀(t:HL),dM (nv x) (kv K) (i6 t)=i6 (Mine.eX x K t)
 |[]=>rfl
 |(y,m)::r=>by
  have e0:i6 ((y,m)::r)=(nv y,kv m)::i6 r:=rfl
  rw[e0,l5,yu,zl r]
  by_cases e:x=y
  ·subst e;rw[aI rfl,aI rfl];rfl
  ·rw[aG (fun q=>e (dY q)),aG e];rfl
theorem tX{x n:Nat}(h:w.aR.length<aJ):dD (heap w rest) (.ref 29) (nv x) (nv n)=some (heap {w with aR:=Mine.eX x n w.aR} rest):=by
 rw[jS (E9 w rest) rfl (by decide) (by simpa[dh]using h),qC];rfl
theorem wO{x:Nat}{K:az}(h:w.cK.length<aJ):dD (heap w rest) (.ref 90) (nv x) (kv K)=some (heap {w with cK:=Mine.eX x K w.cK} rest):=by
 rw[jS (Kd w rest) rfl (by decide) (by simpa[i6]using h),zl];rfl
theorem C9{u v:V}(hk:u.kind=3)(h:w.given.length<aJ):dD (heap w rest) (.ref 85) u v=some (heap {w with given:=dM u v w.given} rest):=by
 rw[jS (Tq w rest) hk (by decide) h];rfl
theorem C8{u v:V}(hk:u.kind=3)(h:w.aj.length<aJ):dD (heap w rest) (.ref 89) u v=some (heap {w with aj:=dM u v w.aj} rest):=by
 rw[jS (Tp w rest) hk (by decide) h];rfl
theorem yY(x:Nat):bD (heap w rest) (nv x) (.ref 29)=some (Mine.ay x w.aR).isSome:=by
 rw[vZ (E9 w rest) rfl (by decide),kg];cases Mine.ay x w.aR<;>rfl
theorem En{x n:Nat}(h:Mine.ay x w.aR=some n):item (heap w rest) (.ref 29) (nv x)=some (nv n):=
 tD (E9 w rest) rfl (by decide) (by rw[kg,h];rfl)
theorem vY(x:Nat):bD (heap w rest) (nv x) (.ref 90)=some (Mine.ay x w.cK).isSome:=by
 rw[vZ (Kd w rest) rfl (by decide),qD];cases Mine.ay x w.cK<;>rfl
theorem zd{x:Nat}{K:az}(h:Mine.ay x w.cK=some K):item (heap w rest) (.ref 90) (nv x)=some (kv K):=
 tD (Kd w rest) rfl (by decide) (by rw[qD,h];rfl)
noncomputable abbrev jl:=List V×List V×List V
inductive CE where
 |tr (v:V)|to (v:V)|no (v:V)
noncomputable def acp:CE->jl->jl
 | .tr v,(a,b,c)=>(a++[v],b,c)
 | .to v,(a,b,c)=>(a,if v∈b then b else b++[v],c)
 | .no v,(a,b,c)=>(a,b,c++[v])
noncomputable def jC(es:List CE)(L:jl):jl:=es.foldl (fun L e=>acp e L) L
theorem bU(a b:List CE)(L:jl):jC (a++b) L=jC b (jC a L):=List.foldl_append
inductive Arg where
 |s (op:List Nat)|k (K:az)
inductive AE where
 |tr (bN:Nat)|no (at_:Nat)|to (num at_:Nat) (args:List Arg)
noncomputable def tx(n:Nat):V:=.str ((toString (n:Int)).toList.map Char.toNat)
noncomputable def vF(af:List V):Arg->V->Prop
 | .s op,v=>v=.str op
 | .k K,v=>∃n,fF af n K/\v=tx n
noncomputable def kM(af:List V):List Arg->List V->Prop
 |[],vs=>vs=[]
 |a::r,vs=>∃v t,vs=v::t/\vF af a v/\kM af r t
noncomputable def Bu(af:List V):AE->CE->Prop
 | .tr bN,c=>c=.tr (.ak [.int 0,nv bN])
 | .no p,c=>c=.no (.ak [.int 1,nv p])
 | .to num p args,c=>∃vs,kM af args vs/\c=.to (.ak [nv num,nv p,.ak vs])
noncomputable def cL(af:List V):List AE->List CE->Prop
 |[],cs=>cs=[]
 |a::r,cs=>∃c t,cs=c::t/\Bu af a c/\cL af r t
theorem vF.ext{a b:List V}{c:Nat}(x:lN a b c)(T:dj b){g:Arg}{v:V}(h:vF a g v):vF b g v:=by
 cases g with
 |s=>exact h
 |k=>exact aD h fun n D e=>⟨n,D.ext x T,e⟩
theorem kM.ext{a b:List V}{c:Nat}(x:lN a b c)(T:dj b){g:List Arg}{v:List V}(h:kM a g v):kM b g v:=by
 induction g generalizing v with
 |nil=>exact h
 |cons _ _ ih=>exact aW h fun v t e h1 h2=>⟨v,t,e,h1.ext x T,ih h2⟩
theorem Bu.ext{a b:List V}{c:Nat}(x:lN a b c)(T:dj b){g:AE}{v:CE}(h:Bu a g v):Bu b g v:=by
 cases g with
 |to=>exact aD h fun vs h e=>⟨vs,h.ext x T,e⟩
 |_=>exact h
theorem cL.ext{a b:List V}{c:Nat}(x:lN a b c)(T:dj b){g:List AE}{v:List CE}(h:cL a g v):cL b g v:=by
 induction g generalizing v with
 |nil=>exact h
 |cons _ _ ih=>exact aW h fun v t e h1 h2=>⟨v,t,e,h1.ext x T,ih h2⟩
theorem vF.pA{af:List V}(T:dj af){g:Arg}{u v:V}(h:vF af g u)(k:vF af g v):u=v:=by
 cases g with
 |s=>exact Eq.trans h (Eq.symm k)
 |k=>exact aD h fun n D e=>aD k fun m D' e'=>e.trans ((congrArg tx (D.num T D' fun Z=>Iff.rfl)).trans e'.symm)
theorem kM.pA{af:List V}(T:dj af){g:List Arg}{u v:List V}(h:kM af g u)(k:kM af g v):u=v:=by
 induction g generalizing u v with
 |nil=>exact Eq.trans h (Eq.symm k)
 |cons _ _ ih=>exact aW h fun a t e h1 h2=>aW k fun b s e' h1' h2'=>e.trans ((congr (congrArg List.cons (h1.pA T h1')) (ih h2 h2')).trans e'.symm)
theorem Bu.pA{af:List V}(T:dj af){g:AE}{u v:CE}(h:Bu af g u)(k:Bu af g v):u=v:=by
 cases g with
 |to n p _=>exact aD h fun vs h e=>aD k fun ws h' e'=>e.trans ((congrArg (fun z=>CE.to (.ak [nv n,nv p,.ak z])) (h.pA T h')).trans e'.symm)
 |_=>exact Eq.trans h (Eq.symm k)
theorem cL.pA{af:List V}(T:dj af){g:List AE}{u v:List CE}(h:cL af g u)(k:cL af g v):u=v:=by
 induction g generalizing u v with
 |nil=>exact Eq.trans h (Eq.symm k)
 |cons _ _ ih=>exact aW h fun a t e h1 h2=>aW k fun b s e' h1' h2'=>e.trans ((congr (congrArg List.cons (h1.pA T h1')) (ih h2 h2')).trans e'.symm)
theorem cL.append{af:List V}{a b:List AE}{u v:List CE}(h:cL af a u)(k:cL af b v):cL af (a++b) (u++v):=by
 induction a generalizing u with
 |nil=>rw[show u=[]from h];exact k
 |cons _ _ ih=>exact aW h fun c t e h1 h2=>⟨c,t++v,congrArg (·++v) e,h1,ih h2⟩
theorem cL.aE{af:List V}{a:AE}{c:CE}(h:Bu af a c):cL af [a] [c]:=⟨c,[],rfl,h,rfl⟩
structure Nd where
 r:Nat
 bN:Nat
 at_:Nat
inductive Sd where
 |leaf (nd:Nd) (K:az)|lit (nd:Nd) (c:Nat)|jk (nd:Nd) (op:List Nat) (l r:Sd)
noncomputable def Sd.nd:Sd->Nd
 | .leaf n _=>n
 | .lit n _=>n
 | .jk n _ _ _=>n
noncomputable def agu:List (Nat×V×Nat):=[(1,.int 0,13),(1,.int 1,14),(2,.str [97],15),(4,.str [],6),(5,.str [],1),(6,.str [],0),(7,.str [],7)]
noncomputable def mW(c:Nat):Nat×V×Nat:=(agu[c]?).getD (0,.none,0)
noncomputable def kZ(c:Nat):az:=dI [(mW c).2.2] 1
noncomputable def qH:Sd->V
 | .leaf n K=>.ak [.str [108,101,97,102],kv K,.none,.none,.ref (95+n.r)]
 | .lit n c=>.ak [.str [108,101,97,102],kv (kZ c),.none,.none,.ref (95+n.r)]
 | .jk n op a b=>.ak [.str op,.ak [],qH a,qH b,.ref (95+n.r)]
noncomputable def cR(kind:Nat)(a bW:V)(n:Nd):Ob:=.bE 418 [(35,nv kind),(83,a),(84,bW),(85,.int 0),(10,nv n.at_),(46,nv n.bN)]
noncomputable def fG:List (List Nat):=[[45],[61,61],[33,61],[61,61,61],[33,61,61],[60],[62],[60,61],[62,61]]
noncomputable def gM(rest:H):Sd->Prop
 | .leaf n _=>∃bW,rest[n.r]? =some (cR 8 (.str [120]) bW n)
 | .lit n c=>c<7/\∃bW,rest[n.r]? =some (cR (mW c).1 (mW c).2.1 bW n)
 | .jk n op a b=>op∈fG/\(∃q,rest[n.r]? =some (cR 23 (.str op) (.ref (95+q)) n)/\rest[q]? =some (.list [.ref (95+a.nd.r),.ref (95+b.nd.r)]))/\gM rest a/\gM rest b
theorem gM.pre{r r':H}(x:r<+:r'){s:Sd}(h:gM r s):gM r' s:=by
 induction s with
 |leaf=>exact bR h fun k h=>⟨k,fK h x⟩
 |lit=>exact⟨h.1,bR h.2 fun k h=>⟨k,fK h x⟩⟩
 |jk _ _ _ _ iha ihb=>exact⟨h.1,aD h.2.1 fun q h1 h2=>⟨q,fK h1 x,fK h2 x⟩,iha h.2.2.1,ihb h.2.2.2⟩
end
section
variable{l:List Int}{d:Nat}{w:W}{rest:H}
noncomputable def sQ(num p args:V):Ob:=.bE 106 [(3,num),(10,p),(11,args),(12,.str [])]
noncomputable def om(num p:Nat)(args:V):V:=.ak [nv num,nv p,args]
inductive cF(rest:H):List Nat->List V->Prop
 |nil:cF rest [] []
 |cons {k ks vs num p args}:rest[k]? =some (sQ (nv num) (nv p) args)->args.aS=true->cF rest ks vs->cF rest (k::ks) (om num p args::vs)
theorem cF.pre{r:H}(x:rest<+:r){ks:List Nat}{vs:List V}(h:cF rest ks vs):cF r ks vs:=by
 induction h with
 |nil=>exact .nil
 |cons h k _ ih=>exact .cons (fK h x) k ih
theorem cF.at{ks:List Nat}{vs:List V}(h:cF rest ks vs):∀(i k:Nat),ks[i]? =some k->∃num p args,vs[i]? =some (om num p args)/\rest[k]? =some (sQ (nv num) (nv p) args)/\args.aS=true:=by
 induction h with
 |nil=>exact fun i k h=>nomatch h
 |cons a b _ ih=>
  intro i k h
  cases i with
  |zero=>exact⟨_,_,_,rfl,ig h▸a,b⟩
  |succ i=>exact ih i k h
theorem cF.len{ks:List Nat}{vs:List V}(h:cF rest ks vs):ks.length=vs.length:=by
 induction h with
 |nil=>rfl
 |cons _ _ _ ih=>exact congrArg (·+1) ih
theorem cF.Ds{k num p:Nat}{args:V}(h:rest[k]? =some (sQ (nv num) (nv p) args))(q:args.aS=true){ks:List Nat}{vs:List V}(r:cF rest ks vs):cF rest (ks++[k]) (vs++[om num p args]):=by
 induction r with
 |nil=>exact .cons h q .nil
 |cons a b _ ih=>exact .cons a b ih
theorem Lb(σ:H){a b:V}(ha:a.aS=true)(hb:b.aS=true):eqv σ a b=some (decide (a=b)):=by
 have:eqv σ a b=if a.cG b then some (decide (a=b))else none:=by
  cases a with
  |ref i=>exact absurd ha Bool.false_ne_true
  |_=>rfl
 rw[this,eN ha hb,aI rfl]
theorem yK{c g a:Nat}{fs:List (Nat×V)}{v:V}(h:rest[g]? =some (.bE c fs))(hl:fs.length<500)(hf:(P l).gI c a=true):lO (P l).gI (heap w rest) (.ref (95+g)) a v=some (heap w (rest.set g (.bE c (Mine.eX a v fs)))):=by
 exact(LP (k7 h) (kK (ez hl) hf)).trans (congrArg some (o9 _ _ _ _))
theorem dR{c g a:Nat}{fs:List (Nat×V)}{v:V}(h:rest[g]? =some (.bE c fs))(hv:ay a fs=some v):nh (heap w rest) (.ref (95+g)) a=some v:=by
 exact(Mw (k7 h)).trans hv
theorem eA{c a:Nat}{fs:List (Nat×V)}{v:V}(hl:fs.length<500)(hf:(P l).gI c a=true):lO (P l).gI (heap w (rest++[.bE c fs])) (.ref (95+rest.length)) a v=some (heap w (rest++[.bE c (Mine.eX a v fs)])):=by
 rw[yK b6 hl hf,jM]
theorem L4{num p args f:V}:bC (P l) (d+1) 96 [.ref (95+rest.length),num,p,args,f] (heap w (rest++[.bE 106 []]))=some (.none,heap w (rest++[.bE 106 [(3,num),(10,p),(11,args),(12,f)]])):=
 ach (adL l) fun N R hN Z=>gH (eA (mH rfl) rfl) (gH (eA (mH rfl) rfl) (gH (eA (mH rfl) rfl) (gH (eA (mH rfl) rfl) (hN rfl _))))
theorem aap{cl f n:Nat}{k:List Fr}{ρ:aO}{N:aO->H->Prop}{R:V->H->Prop}{xs:List V}{w':W}{r':H}(hi:(P l).pD cl=some f)(h:bC (P l) d f (.ref (95+rest.length)::xs) (heap w (rest++[.bE cl []]))=some (.none,heap w' r'))
  (g:go n ⟨l,d,N,R⟩ (.v (.ref (95+rest.length)) k) ρ (heap w' r')):oN ⟨l,d,N,R⟩ n k ρ (heap w rest) cl xs:=by
 refine .mk ?_
 unfold wN
 rw[hi,nR]
 exact IC h ⟨rfl,g⟩
theorem AR{num p:Nat}{args:V}(hl:w.cA.length<aJ):bC (P l) (d+2) 132 [.ref 21,nv num,nv p,args] (heap w rest)=some (.none,heap {w with cA:=w.cA++[rest.length]} (rest++[sQ (nv num) (nv p) args])):=by
 refine aci (W8 l) fun N R hN Z=>aap (w':=w) (r':=rest++[sQ (nv num) (nv p) args]) (f:=96) rfl L4 ?_
 refine gU (iO (Ke w _) (by rw[fU];exact hl)) ?_
 rw[V0]
 exact hN rfl _
theorem adN{a b p q:Nat}{u v:V}:om a p u≠om b q v↔¬(a=b/\p=q/\u=v):=by
 unfold om
 simp only[ne_eq,V.ak.injEq,ya,and_true]
 exact not_congr (and_congr ⟨dY,fun e=>e▸rfl⟩ (and_congr ⟨dY,fun e=>e▸rfl⟩ Iff.rfl))
theorem O1{M:Ma}{n:Nat}{k:List Fr}{ρ:aO}{num p:Nat}{args:V}{to:List V}(D:cF rest w.cA to)(hk:args.aS=true)(hl:w.cA.length<90000)
  (g:∀ds r',rest<+:r'->cF r' ds (if om num p args∈to then to else to++[om num p args])->ds.length<=w.cA.length+1->Rt M n k ρ .none (heap {w with cA:=ds} r')):Cl M n k ρ (bC (P l) (d+3) 847 [.ref 25,nv num,nv p,args] (heap w rest)):=by
 refine nj (WF l) fun N R hN hR=> ?_
 refine JL (f:=fun k=>.ref (95+k)) (ys:=w.cA) (fun dn be w' r'=>w=w'/\rest=r'/\ay 1 be=some (.ref 25)/\ay 3 be=some (nv num)/\ay 10 be=some (nv p)/\ay 11 be=some args/\∀v∈to.take dn.length,v≠om num p args)
  (by exact(jd hl rfl)) (fun dn be w' r' u=>by rw[<-u.1];exact Ke w _) ⟨rfl,rfl,rfl,rfl,rfl,rfl,by simp⟩ (fun dn x r e cu w' r' u N1 hN1=> ?_) fun cu w' r' u=> ?_
 ·refine lB u fun q1 q2 l1 l3 l10 l11 h4=> ?_
  subst q1 q2
  refine AI (D.at dn.length x (by rw[e];simp)) fun ZR p' Tv e1 e2 e3=> ?_
  have no:¬(ZR=num/\p'=p/\Tv=args)->N1 ((16,.ref (95+x))::cu) (heap w rest):=fun h=>hN1 _ _ _ ⟨rfl,rfl,l1,l3,l10,l11,fun v hv=>by
   have dl:=(kX.mp e1).1
   rw[fV,yf,List.take_succ_eq_append_getElem dl,(kX.mp e1).2]at hv
   exact(gj.mp hv).elim (h4 v) fun hv=>eZ.mp hv▸adN.mpr h⟩
  refine gV (dR e2 rfl) (gV l3 ?_)
  by_cases c1:ZR=num
  ·refine Rj (congrArg (·==true) ((fY _ _).trans (ez c1))) (gV (dR e2 rfl) (gV l10 ?_))
   by_cases c2:p'=p
   ·refine Rj (congrArg (·==true) ((fY _ _).trans (ez c2))) (gV (dR e2 rfl) (gV l11 (gV (Nv (Lb (heap w rest) e3 hk)) ?_)))
    by_cases c3:Tv=args
    ·rw[ez c3]
     have hm:om num p args∈to:=by rw[<-c1,<-c2,<-c3];exact vc e1
     rw[aI hm]at g
     exact hR _ _ (g w.cA rest (List.prefix_refl _) D (iY))
    ·rw[fH c3]
     exact no fun h=>c3 h.2.2
   ·exact NO (congrArg (·==true) ((fY _ _).trans (fH c2))) (gF ((fY _ _).trans (fH c2)) (no fun h=>c2 h.2.1))
  ·exact NO (congrArg (·==true) ((fY _ _).trans (fH c1))) (gF ((fY _ _).trans (fH c1)) (no fun h=>c1 h.1))
 ·refine lB u fun q1 q2 l1 l3 l10 l11 h4=> ?_
  subst q1 q2
  rw[D.len,List.take_length]at h4
  rw[aG fun h=>h4 _ h rfl]at g
  refine gV l1 ?_
  apply gV l3
  refine gV l10 (gV l11 ?_)
  exact gC (AR (by exact(jd hl rfl))) (hN _ _ (g _ _ bx (cF.Ds b6 hk (D.pre bx)) (by simp)))
end
section
variable{l:List Int}{d:Nat}{w:W}{rest:H}
theorem bg{kind r:Nat}{a bW:V}{n:Nd}(h:rest[r]? =some (cR kind a bW n)):nh (heap w rest) (.ref (95+r)) 10=some (nv n.at_)/\nh (heap w rest) (.ref (95+r)) 46=some (nv n.bN)/\nh (heap w rest) (.ref (95+r)) 35=some (nv kind)/\nh (heap w rest) (.ref (95+r)) 83=some a/\nh (heap w rest) (.ref (95+r)) 84=some bW:=
 ⟨dR h rfl,dR h rfl,dR h rfl,dR h rfl,dR h rfl⟩
section
variable{M:Ma}{n:Nat}{k:List Fr}{ρ:aO}
theorem My{num r kind:Nat}{a bW args:V}{nd:Nd}{to:List V}(hn:rest[r]? =some (cR kind a bW nd))(D:cF rest w.cA to)(hk:args.aS=true)(hl:w.cA.length<90000)
  (g:∀ds r',rest<+:r'->cF r' ds (if om num nd.at_ args∈to then to else to++[om num nd.at_ args])->ds.length<=w.cA.length+1->Rt M n k ρ .none (heap {w with cA:=ds} r')):Cl M n k ρ (bC (P l) (d+4) 840 [.ref 25,nv num,.ref (95+r),args] (heap w rest)):=
 nj (WG l) fun N R hN Z=>gV (bg hn).1 (O1 D hk hl fun ds r' x D' le=>hN _ _ (g ds r' x D' le))
end
theorem D5:iJ (P l) (.ref (if w.jp then 86 else 84)) 101 (heap w rest)=some 583:=by cases w.jp<;>rfl
theorem nN{n:Nat}(h:n<100000):yt (nv n)=some (tx n):=by
 unfold yt nv tx
 dsimp only
 rw[aI (by rw[Int.natAbs_natCast];exact(jd h rfl))]
theorem mu{n:Nat}(h:n<100000):bC (P l) (d+2) 854 [.ref 25,nv n] (heap w rest)=some (tx n,heap w rest):=
 xT (WE l) fun N R Z hR=>gW D5 (gC (xR (v:=tx n) (σ1:=heap w rest) (WN l) fun N R Z hR=>gV (nN h) hR) hR)
theorem DG{n:Nat}(h:n<100000):(tx n).aS=true:=by
 unfold tx V.aS V.d8
 rw[dG]
 intro c hc
 refine aD (eY.mp hc) fun x hx q2=> ?_;subst q2
 exact Nat.ble_eq_true_of_le (by have:=x.valid;rcases this with h|h<;>(show x.val.toNat<_;lia))
theorem HJ{r n kind:Nat}{a bW:V}{nd:Nd}(hn:rest[r]? =some (cR kind a bW nd))(h1:w.aR.length<aJ)(h2:w.bk.length<aJ):
  bC (P l) (d+1) 868 [.ref 25,.ref (95+r),nv n] (heap w rest)=some (.none,heap (if nd.bN=0 then w else{w with aR:=Mine.eX nd.bN n w.aR,bk:=w.bk++[.ak [.int 0,nv nd.bN]]}) rest):=by
 refine xR (WC l) fun N R hN Z=>gV (bg hn).2.1 ?_
 by_cases q:nd.bN=0
 ·rw[aI q]at hN
  exact gF (by rw[Bool.not_eq_false'];exact(fY _ 0).trans (ez q)) (hN rfl _)
 ·rw[aG q]at hN
  refine gT (by rw[zV];exact(fY _ 0).trans (fH q)) (gV (bg hn).2.1 ?_)
  apply gH (tX h1)
  refine gV (bg hn).2.1 (gU (iO (Tt _ rest) h2) ?_)
  exact hN rfl _
structure Sz(w:W)(B:Nat):Prop where
 af:w.af.length<=B
 cA:w.cA.length<=B
 cE:w.cE.length<=B
 aR:w.aR.length<=B
 bk:w.bk.length<=B
 given:w.given.length<=B
 aj:w.aj.length<=B
 cK:w.cK.length<=B
 fJ:w.fJ.length<=B
 ef:w.ef.length<=B
 iI:w.iI.length<=B
theorem Sz.le{B C:Nat}(h:Sz w B)(q:B<=C):Sz w C:=by
 obtain⟨a1,a2,a3,a4,a5,a6,a7,a8,a9,qJ,rX⟩:=h
 exact⟨dU a1 q,dU a2 q,dU a3 q,dU a4 q,dU a5 q,dU a6 q,dU a7 q,dU a8 q,dU a9 q,dU qJ q,dU rX q⟩
theorem Sz.gr{B c:Nat}{w':W}(h:Sz w B)(x:Gr w w' c):Sz w' (B+c):=by
 have:=x.len
 have e:=x.same
 obtain⟨a1,a2,a3,a4,a5,a6,a7,a8,a9,qJ,rX⟩:=h
 generalize w'.af=r at*
 subst e
 exact⟨uZ this a1,aZ a2,aZ a3,aZ a4,aZ a5,aZ a6,aZ a7,aZ a8,aZ a9,aZ qJ,aZ rX⟩
structure cQ(w w':W):Prop where
 same:w'={w with af:=w'.af,cA:=w'.cA,cE:=w'.cE,aR:=w'.aR,bk:=w'.bk}
 ext:∃c,lN w.af w'.af c
theorem cQ.refl(w:W):cQ w w:=⟨rfl,0,lN.refl _⟩
theorem cQ.trans{a b c:W}(x:cQ a b)(y:cQ b c):cQ a c:=by
 obtain⟨e1,c1,x1⟩:=x
 obtain⟨e2,c2,x2⟩:=y
 refine⟨?_,_,x1.trans x2⟩
 rw[e2,e1]
structure jc(w:W)(rest:H)(HH:HL)(L:jl):Prop where
 aR:pG w.af w.aR HH
 bk:w.bk=L.1
 cE:w.cE=L.2.2
 j6:cF rest w.cA L.2.1
theorem jc.gr{HH:HL}{L:jl}{w':W}{c:Nat}{r:H}(h:jc w rest HH L)(x:Gr w w' c)(T:dj w'.af)(x2:rest<+:r):jc w' r HH L:=by
 have t:=h.aR.ext x.ext T
 have e:=x.same
 generalize w'.af=r at*
 subst e
 exact⟨t,h.bk,h.cE,h.j6.pre x2⟩
theorem cQ.gr{w w':W}{c:Nat}(x:Gr w w' c):cQ w w':=⟨by rw[x.same],c,x.ext⟩
theorem jj{af:List V}{n:Nat}{K:az}(T:dj af)(D:fF af n K):n<100000:=by
 have:=T.len
 refine aD D fun ns p q=> ?_
 rcases q with⟨_,rfl⟩|rfl|⟨_,h⟩
 ·exact(gP rfl)
 ·refine aD ((p.mem n).mp (by simp)) fun a Z h=> ?_
  have:=(kX.mp h).1;lia
 ·have:=(kX.mp h).1;lia
end
section
variable{l:List Int}{d:Nat}{w:W}{rest:H}
noncomputable def pC(op:List Nat):az:=if op=[45]then [6]else [2,12]
noncomputable def kindOf:Sd->az
 | .leaf _ K=>K
 | .lit _ c=>kZ c
 | .jk _ op _ _=>pC op
noncomputable def EJ:List (List Nat):=[[61,61],[33,61],[61,61,61],[33,61,61]]
noncomputable def Bp(pl:Bool)(te:List (V×V))(K:az)(p num:Nat):List AE:=if K=[18]then [.no p]else if K=[24]\/b8 pl te K 3=true then []else [.to num p []]
noncomputable abbrev m9(K:az):Prop:=K=[18]\/K=[24]
noncomputable abbrev quiet(K:az):Prop:=K=[32]\/K=[0]\/K=[14]
noncomputable def kC(pl:Bool)(te:List (V×V))(op:List Nat)(p:Nat)(K L:az):List AE:=
 if m9 K\/m9 L then []
 else if op∈EJ then(if(quiet K\/quiet L)\/ji pl K L=true then []else [.to 2367 p [.k K,.k L]])
 else if gf pl te K L=true then []else [.to 2365 p [.s op,.k (i7 K),.k (i7 L)]]
noncomputable def sA(pl:Bool)(te:List (V×V))(op:List Nat)(p:Nat)(a b:Sd)(e1 e2:List AE):List AE:=
 if op=[45]then e1++Bp pl te (kindOf a) a.nd.at_ 2362++(e2++Bp pl te (kindOf b) b.nd.at_ 2363)else e1++e2++kC pl te op p (kindOf a) (kindOf b)
noncomputable def cg(pl:Bool)(te:List (V×V)):Sd->HL->HL×List AE
 | .leaf _ _,HH=>(HH,[])
 | .lit nd c,HH=>if(ay nd.bN HH).isSome then(HH,[])else(eX nd.bN (kZ c) HH,[.tr nd.bN])
 | .jk nd op a b,HH=>if(ay nd.bN HH).isSome then(HH,[])else
  if nd.bN=0 then((cg pl te b (cg pl te a HH).1).1,sA pl te op nd.at_ a b (cg pl te a HH).2 (cg pl te b (cg pl te a HH).1).2)
  else(eX nd.bN (pC op) (cg pl te b (cg pl te a HH).1).1,sA pl te op nd.at_ a b (cg pl te a HH).2 (cg pl te b (cg pl te a HH).1).2++[.tr nd.bN])
noncomputable def iV:Sd->List Nat
 | .leaf n _=>[n.bN]
 | .lit n _=>[n.bN]
 | .jk n _ a b=>n.bN::(iV a++iV b)
theorem Wf{n:Nd}{K:az}:iV (.leaf n K)=[n.bN]:=rfl
theorem Kq{n:Nd}{c:Nat}:iV (.lit n c)=[n.bN]:=rfl
theorem nG{n:Nd}{op:List Nat}{a b:Sd}:iV (.jk n op a b)=n.bN::(iV a++iV b):=rfl
theorem AG{pl:Bool}{te:List (V×V)}{nd:Nd}{c:Nat}{HH:HL}:cg pl te (.lit nd c) HH=if(ay nd.bN HH).isSome then(HH,[])else(eX nd.bN (kZ c) HH,[.tr nd.bN]):=rfl
theorem rA{pl:Bool}{te:List (V×V)}{nd:Nd}{op:List Nat}{a b:Sd}{HH:HL}:cg pl te (.jk nd op a b) HH=if(ay nd.bN HH).isSome then(HH,[])else
  if nd.bN=0 then((cg pl te b (cg pl te a HH).1).1,sA pl te op nd.at_ a b (cg pl te a HH).2 (cg pl te b (cg pl te a HH).1).2)
  else(eX nd.bN (pC op) (cg pl te b (cg pl te a HH).1).1,sA pl te op nd.at_ a b (cg pl te a HH).2 (cg pl te b (cg pl te a HH).1).2++[.tr nd.bN]):=rfl
noncomputable def yF:Sd->Prop
 | .leaf _ _=>True
 | .lit n _=>n.bN≠0
 | .jk _ _ a b=>yF a/\yF b
theorem eE(pl:Bool)(te:List (V×V)){x:Nat}:∀(s:Sd) (HH:HL),yF s->(x=0\/x∉iV s)->ay x (cg pl te s HH).1=ay x HH
 | .leaf _ _,HH,_,_=>rfl
 | .lit nd c,HH,lo,h=>by
  rw[AG]
  split
  ·rfl
  ·rw[g9,aG]
   rintro rfl
   rcases h with h|h
   ·exact lo h
   ·exact h (by simp[Kq])
 | .jk nd op a b,HH,lo,h=>by
  have ha:x=0\/x∉iV a:=h.imp id fun q z=>q (by simp[nG,z])
  have hb:x=0\/x∉iV b:=h.imp id fun q z=>q (by simp[nG,z])
  rw[rA]
  split
  ·rfl
  ·split
   ·dsimp only;rw[eE pl te b _ lo.2 hb,eE pl te a _ lo.1 ha]
   ·rename_i h0
    rw[g9,aG,eE pl te b _ lo.2 hb,eE pl te a _ lo.1 ha]
    rintro rfl
    rcases h with h|h
    ·exact h0 h
    ·exact h (by simp[nG])
noncomputable def mK(a b:Sd):Prop:=∀x∈iV a,x≠0->x∉iV b
noncomputable def cy(pl:Bool)(HH:HL):Sd->Prop
 | .leaf nd K=>ay nd.bN HH=some K/\gG K/\NT pl K
 | .lit nd c=>nd.bN≠0/\c<7/\(ay nd.bN HH=none\/ay nd.bN HH=some (kZ c))
 | .jk nd op a b=>(ay nd.bN HH=none\/ay nd.bN HH=some (pC op))/\(nd.bN=0->ay nd.bN HH=none)/\cy pl HH a/\cy pl HH b/\mK a b/\(nd.bN≠0->nd.bN∉iV a/\nd.bN∉iV b)
theorem cy.sf{pl:Bool}{HH:HL}:∀{s:Sd},cy pl HH s->yF s
 | .leaf _ _,_=>trivial
 | .lit _ _,h=>h.1
 | .jk _ _ _ _,h=>⟨h.2.2.1.sf,h.2.2.2.1.sf⟩
theorem cy.cD{pl:Bool}{HH H2:HL}:∀{s:Sd},cy pl HH s->(∀x∈iV s,ay x H2=ay x HH)->cy pl H2 s
 | .leaf nd K,⟨h1,h2⟩,e=>⟨by rw[e nd.bN (by simp[Wf])];exact h1,h2⟩
 | .lit nd c,⟨h1,h2,h3⟩,e=>⟨h1,h2,by rw[e nd.bN (by simp[Kq])];exact h3⟩
 | .jk nd op a b,⟨h1,h2,h3,h4,h5⟩,e=>⟨by rw[e nd.bN (by simp[nG])];exact h1,by rw[e nd.bN (by simp[nG])];exact h2,h3.cD fun x hx=>e x (by simp[nG,hx]),h4.cD fun x hx=>e x (by simp[nG,hx]),h5⟩
theorem cy.apart{pl:Bool}{te:List (V×V)}{HH:HL}{a b:Sd}(ha:yF a)(hb:cy pl HH b)(h:mK a b):cy pl (cg pl te a HH).1 b:=
 hb.cD fun x hx=>eE pl te a HH ha (by
  by_cases q:x=0
  ·exact .inl q
  ·exact .inr fun z=>h x z q hx)
theorem cy.self{pl:Bool}{te:List (V×V)}{HH:HL}:∀{s:Sd},cy pl HH s->cy pl (cg pl te s HH).1 s
 | .leaf nd K,h=>h
 | .lit nd c,⟨h1,h2,h3⟩=>by
  rw[AG]
  split
  ·exact⟨h1,h2,h3⟩
  ·exact⟨h1,h2,.inr (by rw[g9,aI rfl])⟩
 | .jk nd op a b,h=>by
  refine ju h fun h1 h2 h3 h4 h5 h6=> ?_
  rw[rA]
  split
  ·exact⟨h1,h2,h3,h4,h5,h6⟩
  ·have la:=h3.sf
   have lb:=h4.sf
   have ea:cy pl (cg pl te b (cg pl te a HH).1).1 a:=(cy.self (te:=te) h3).cD fun x hx=>eE pl te b _ lb (by
    by_cases q:x=0
    ·exact .inl q
    ·exact .inr (h5 x hx q))
   have eb:cy pl (cg pl te b (cg pl te a HH).1).1 b:=cy.self (h4.apart la h5)
   split
   ·rename_i h0
    have e0:ay nd.bN (cg pl te b (cg pl te a HH).1).1=none:=by rw[eE pl te b _ lb (.inl h0),eE pl te a _ la (.inl h0)];exact h2 h0
    exact⟨.inl e0,fun Z=>e0,ea,eb,h5,h6⟩
   ·rename_i h0
    refine dw (h6 h0) fun n1 n2=> ?_
    refine⟨.inr (by rw[g9,aI rfl]),fun q=>absurd q h0,ea.cD fun x hx=> ?_,eb.cD fun x hx=> ?_,h5,h6⟩
    ·dsimp only;rw[g9,aG];rintro rfl;exact n1 hx
    ·dsimp only;rw[g9,aG];rintro rfl;exact n2 hx
theorem Mi:((List.range 7).all fun c=>pF (kZ c)&& !has (kZ c) 4&&aU.contains ((kZ c).headD 99)&&NP (kZ c) [(kZ c).headD 99])=true:=by decide+kernel
theorem tn{c:Nat}(h:c<7):gG (kZ c)/\4∉kZ c:=by
 have:=dG.mp Mi c (jt.mpr h)
 simp only[dX]at this
 exact⟨fy this.1.1.1,fun q=>by rw[gS.mpr q]at this;cases this.1.1.2⟩
theorem Mt:gG [6]:=fy (by decide+kernel)
theorem HR:gG [2,12]:=fy (by decide+kernel)
theorem sY(op:List Nat):gG (pC op)/\4∉pC op:=by
 unfold pC
 split
 ·exact⟨Mt,by decide⟩
 ·exact⟨HR,by decide⟩
theorem cy.qM{pl:Bool}{HH:HL}:∀{s:Sd},cy pl HH s->gG (kindOf s)/\NT pl (kindOf s)
 | .leaf _ _,h=>⟨h.2.1,h.2.2⟩
 | .lit _ _,h=>⟨(tn h.2.1).1,fun Z=>(tn h.2.1).2⟩
 | .jk _ op _ _,_=>⟨(sY op).1,fun Z=>(sY op).2⟩
theorem zb{pl:Bool}{HH:HL}:∀{s:Sd},cy pl HH s->∀K,ay s.nd.bN HH=some K->K=kindOf s
 | .leaf nd K,h,L,e=>by have:ay nd.bN HH=some L:=e;rw[h.1]at this;cases this;rfl
 | .lit nd c,h,L,e=>by
  have:ay nd.bN HH=some L:=e
  rcases h.2.2 with q|q
  ·rw[q]at this;cases this
  ·rw[q]at this;cases this;rfl
 | .jk nd op a b,h,L,e=>by
  have:ay nd.bN HH=some L:=e
  rcases h.1 with q|q
  ·rw[q]at this;cases this
  ·rw[q]at this;cases this;rfl
theorem wm{pl:Bool}{te:List (V×V)}{HH:HL}:∀{s:Sd},(ay s.nd.bN HH).isSome=true->cg pl te s HH=(HH,[])
 | .leaf _ _,_=>rfl
 | .lit nd c,h=>by exact aI h
 | .jk nd op a b,h=>by exact aI h
end
section
variable{l:List Int}{d:Nat}{w:W}{rest:H}
noncomputable def bT:Sd->Nat
 | .leaf _ _=>0
 | .lit _ _=>3
 | .jk _ _ a b=>bT a+bT b+1200
theorem Ld{n:Nd}{c:Nat}:bT (.lit n c)=3:=rfl
theorem Le{n:Nd}{op:List Nat}{a b:Sd}:bT (.jk n op a b)=bT a+bT b+1200:=rfl
noncomputable def uy:Sd->Nat
 | .leaf _ _=>1
 | .lit _ _=>1
 | .jk _ _ a b=>uy a+uy b+1
noncomputable def rd:Sd->Nat
 | .leaf _ _=>13
 | .lit _ _=>13
 | .jk _ _ a b=>max (rd a) (rd b)+5
theorem ae6{n:Nd}{c:Nat}:rd (.lit n c)=13:=rfl
noncomputable def vE(w:W)(rest:H)(B cst:Nat)(K:az)(m8:HL)(L:jl)(Gq:List AE)(r:Option (V×H)):Prop:=
 ∀{M:Ma} {n:Nat} {k:List Fr} {ρ:aO},(∀j w' r' cs,rest<+:r'->cQ w w'->Sz w' (B+cst)->lM w'->fF w'.af j K->cL w'.af Gq cs->jc w' r' m8 (jC cs L)->Rt M n k ρ (nv j) (heap w' r'))->Cl M n k ρ r
noncomputable def jo(l:List Int)(s:Sd):Prop:=∀(D:Nat) (w:W) (rest:H) (HH:HL) (L:jl) (B:Nat),rd s<=D->lM w->Sz w B->B+bT s+8000<90000->w.bu+uy s<50->jc w rest HH L->gM rest s->cy w.plain HH s->
 vE w rest B (bT s) (kindOf s) (cg w.plain w.aj s HH).1 L (cg w.plain w.aj s HH).2 (bC (P l) D 952 [.ref 25,.ref (95+s.nd.r),.int (-1)] (heap w rest))
theorem wl{r n kind:Nat}{a bW:V}{nd:Nd}(hn:rest[r]? =some (cR kind a bW nd))(h:ay nd.bN w.aR=some n):bC (P l) (d+1) 952 [.ref 25,.ref (95+r),.int (-1)] (heap w rest)=some (nv n,heap w rest):=by
 have m:=yY (w:=w) (rest:=rest) nd.bN
 rw[h]at m
 refine xR (K6 l) fun N R Z hR=>gV (bg hn).2.1 (gV (rS m) ?_)
 apply gV (bg hn).2.1
 exact gV (En h) hR
theorem BX(n:Nat):lO (P l).gI (heap w rest) (.ref 25) 177 (nv n)=some (heap {w with bu:=n} rest):=rfl
noncomputable def UN(w:W)(nd:Nd)(n:Nat):W:=if nd.bN=0 then w else{w with aR:=eX nd.bN n w.aR,bk:=w.bk++[.ak [.int 0,nv nd.bN]]}
theorem CO{M:Ma}{n:Nat}{k:List Fr}{ρ:aO}{r kind f R:Nat}{a bW:V}{nd:Nd}{Q:Nat->W->H->Prop}(hn:rest[r]? =some (cR kind a bW nd))(h:ay nd.bN w.aR=none)(hd:w.bu<50)(hm:∀(u:W) (q:H),bD (heap u q) (nv kind) (.ref 83)=some true)(hi:∀(u:W) (q:H),item (heap u q) (.ref 83) (nv kind)=some (.ref R))
  (hf:∀(u:W) (q:H),iJ (P l) (.ref R) 89 (heap u q)=some f)(ask:∀{M:Ma} {n:Nat} {k:List Fr} {ρ:aO},(∀j w1 r1,Q j w1 r1->Rt M n k ρ (nv j) (heap w1 r1))->Cl M n k ρ (bC (P l) (d+1) f [.ref R,.ref 25,.ref (95+r),.int (-1)] (heap {w with bu:=w.bu+1} rest)))
  (fm:∀j w1 r1,Q j w1 r1->w1.bu=w.bu+1/\rest<+:r1/\w1.aR.length<aJ/\w1.bk.length<aJ)(g:∀j w1 r1,Q j w1 r1->Rt M n k ρ (nv j) (heap (UN {w1 with bu:=w.bu} nd j) r1)):Cl M n k ρ (bC (P l) (d+2) 952 [.ref 25,.ref (95+r),.int (-1)] (heap w rest)):=by
 have m:=yY (w:=w) (rest:=rest) nd.bN
 rw[h]at m
 refine xV (K6 l) fun N R1 Z hR=>gV (bg hn).2.1 (gV (rS m) ?_)
 refine gV (bg hn).2.2.1 (gV (zK (x:=true) (hm w rest)) ?_)
 refine gF (fH (by lia)) ?_
 refine gH (BX (l:=l) (w.bu+1)) ?_
 refine gV (bg hn).2.2.1 (gV (hi {w with bu:=w.bu+1} rest) (gW (hf {w with bu:=w.bu+1} rest) (ask fun j w1 r1 q=> ?_)))
 refine iA (fm j w1 r1 q) fun e1 x l1 l2=> ?_
 have e3:sC .sub (nv w1.bu) (.int 1)=some (nv w.bu):=by
  rw[e1];show some (V.int ((↑(w.bu+1):Int) - 1))=some (V.int ↑w.bu);congr 2;lia
 refine gQ e3 (BX (l:=l) w.bu) ?_
 exact gC (HJ (w:={w1 with bu:=w.bu}) (fK hn x) l1 l2) (hR _ _ (g j w1 r1 q))
theorem MR(nd:Nd)(K:az):jo l (.leaf nd K):=by
 intro D w rest HH L B hD I S hB gR R A O M n k ρ g
 obtain⟨d,rfl⟩:∃d,D=d+1:=⟨D - 1,by exact(DB hD rfl)⟩
 refine bR A fun bW hn=> ?_
 refine iX O fun h1 h2 h3=> ?_
 rcases R.aR.ay (x:=nd.bN)with⟨_,q⟩|⟨n,K',q1,q2,q3,q4⟩
 ·rw[h1]at q;exact nomatch q
 ·rw[h1]at q2;cases q2
  exact gC (wl hn q1) (g n w rest [] (List.prefix_refl _) (cQ.refl w) S I q3 rfl R)
end
section
variable{l:List Int}{d:Nat}{w:W}{rest:H}
structure Rc(l:List Int)(d c:Nat)(R f a:Nat):Prop where
 kind:kZ c=[a]
 at_:a∈aU
 mem:∀(u:W) (q:H),bD (heap u q) (nv (mW c).1) (.ref 83)=some true
 item:∀(u:W) (q:H),item (heap u q) (.ref 83) (nv (mW c).1)=some (.ref R)
 bM:∀(u:W) (q:H),iJ (P l) (.ref R) 89 (heap u q)=some f
 bC:∀(u:W) (q:H) (r:Nat) (bW:V) (nd:Nd),dj u.af->q[r]? =some (cR (mW c).1 (mW c).2.1 bW nd)->∀{M:Ma} {n:Nat} {k:List Fr} {ρ:aO},(∀j w',Gr u w' 1->aY w'.af a j->Rt M n k ρ (nv j) (heap w' q))->Cl M n k ρ (bC (P l) (d+3) f [.ref R,.ref 25,.ref (95+r),.int (-1)] (heap u q))
theorem DH{af:List V}(T:dj af):af.length<aJ:=by have:=T.len;exact(jd this rfl)
theorem HF{c:Nat}(h:c<7):∃R f a,Rc l d c R f a:=by
 match c,h with
 |0,_=>exact⟨81,1136,27,by decide+kernel,by decide,fun Z Z=>rfl,fun Z Z=>rfl,fun Z Z=>rfl,fun u q r bW nd T h M n k ρ g=>nj (FN l) fun N R Z hR=>gV (bg h).2.2.2.1 (gC (lD (a:=(mW 0).2.1) (b:=.int 1) rfl (DH T)) (hR _ _ (g _ _ (Gr.eX u (aV 27)) (ou _ _))))⟩
 |1,_=>exact⟨81,1136,29,by decide+kernel,by decide,fun Z Z=>rfl,fun Z Z=>rfl,fun Z Z=>rfl,fun u q r bW nd T h M n k ρ g=>nj (FN l) fun N R Z hR=>gV (bg h).2.2.2.1 (gC (lD (a:=(mW 1).2.1) (b:=.int 1) rfl (DH T)) (hR _ _ (g _ _ (Gr.eX u (aV 29)) (ou _ _))))⟩
 |2,_=>exact⟨82,1155,31,by decide+kernel,by decide,fun Z Z=>rfl,fun Z Z=>rfl,fun Z Z=>rfl,fun u q r bW nd T h M n k ρ g=>nj (Qh l) fun N R Z hR=>gV (bg h).2.2.2.1 (gC (wH (a:=(mW 2).2.1) (b:=.int 1) rfl (DH T)) (hR _ _ (g _ _ (Gr.eX u (aV 31)) (ou _ _))))⟩
 |3,_=>exact⟨80,1174,13,by decide+kernel,by decide,fun Z Z=>rfl,fun Z Z=>rfl,fun Z Z=>rfl,fun u q r bW nd T h M n k ρ g=>nj (uN l) fun N R Z hR=>gV (bg h).2.2.1 (hR _ _ (g 15 u ((Gr.refl u).le (mX)) (T.cU rfl)))⟩
 |4,_=>exact⟨80,1174,3,by decide+kernel,by decide,fun Z Z=>rfl,fun Z Z=>rfl,fun Z Z=>rfl,fun u q r bW nd T h M n k ρ g=>nj (uN l) fun N R Z hR=>gV (bg h).2.2.1 (gV (bg h).2.2.1 (hR _ _ (g 14 u ((Gr.refl u).le (mX)) (T.cU rfl))))⟩
 |5,_=>exact⟨80,1174,0,by decide+kernel,by decide,fun Z Z=>rfl,fun Z Z=>rfl,fun Z Z=>rfl,fun u q r bW nd T h M n k ρ g=>nj (uN l) fun N R Z hR=>gV (bg h).2.2.1 (gV (bg h).2.2.1 (gV (bg h).2.2.1 (hR _ _ (g 5 u ((Gr.refl u).le (mX)) (T.cU rfl)))))⟩
 |6,_=>exact⟨80,1174,14,by decide+kernel,by decide,fun Z Z=>rfl,fun Z Z=>rfl,fun Z Z=>rfl,fun u q r bW nd T h M n k ρ g=>nj (uN l) fun N R Z hR=>gV (bg h).2.2.1 (gV (bg h).2.2.1 (gV (bg h).2.2.1 (hR _ _ (g 4 u ((Gr.refl u).le (mX)) (T.cU rfl)))))⟩
theorem zc{K:az}{HH:HL}{L:jl}{n B cst:Nat}{nd:Nd}(S:Sz w B)(I:lM w)(D:fF w.af n K)(G:gG K)(R:jc w rest HH L)(h0:nd.bN≠0):
  Sz {w with aR:=eX nd.bN n w.aR,bk:=w.bk++[.ak [.int 0,nv nd.bN]]} (B+1)/\lM {w with aR:=eX nd.bN n w.aR,bk:=w.bk++[.ak [.int 0,nv nd.bN]]}/\
  jc {w with aR:=eX nd.bN n w.aR,bk:=w.bk++[.ak [.int 0,nv nd.bN]]} rest (eX nd.bN K HH) (jC [.tr (.ak [.int 0,nv nd.bN])] L):=by
 refine⟨?_,⟨I.T,⟨I.cB.intz,I.cB.jW⟩,I.aj,I.jp,I.G⟩,⟨R.aR.eX D G,?_,R.cE,R.j6⟩⟩
 ·obtain⟨a1,a2,a3,a4,a5,a6,a7,a8,a9,qJ,rX⟩:=S
  have:=uH (x:=nd.bN) (v:=n) (t:=w.aR)
  exact⟨aZ a1,aZ a2,aZ a3,uZ this a4,by rw[fV];exact jD a5,aZ a6,aZ a7,aZ a8,aZ a9,aZ qJ,aZ rX⟩
 ·show w.bk++[_]=(jC [.tr _] L).1
  rw[R.bk];rfl
theorem QI(nd:Nd)(c:Nat):jo l (.lit nd c):=by
 intro D w rest HH L B hD I S hB gR R A O M n k ρ g
 obtain⟨d,rfl⟩:∃d,D=d+4:=⟨D - 4,by exact(DB hD rfl)⟩
 refine aaM A fun Z bW hn=> ?_
 refine iX O fun h1 h2 h3=> ?_
 rcases R.aR.ay (x:=nd.bN)with⟨q1,q2⟩|⟨n,K',q1,q2,q3,q4⟩
 ·refine tQ (HF (l:=l) (d:=d) h2) fun R' f a LR=> ?_
  have ev:cg w.plain w.aj (.lit nd c) HH=(eX nd.bN (kZ c) HH,[.tr nd.bN]):=by
   exact aG (by rw[q2];decide)
  rw[ev]at g
  refine CO (Q:=fun j w1 r1=>rest=r1/\Gr {w with bu:=w.bu+1} w1 1/\aY w1.af a j) hn q1 (by exact(ur gR)) LR.mem LR.item LR.bM (fun g=>LR.bC {w with bu:=w.bu+1} rest nd.r bW nd I.T hn fun j w' x y=>g j w' rest ⟨rfl,x,y⟩) (fun j w1 r1 q=> ?_) fun j w1 r1 q=> ?_
  ·refine iX q fun e1 x Z=>⟨x.bu,e1▸List.prefix_refl _,by rw[x.aR];have:=S.aR;unfold aJ;exact(Jx this (xX hB rfl)),by rw[x.bk];have:=S.bk;unfold aJ;exact(Jx this (xX hB rfl))⟩
  ·refine iX q fun e1 x hn'=> ?_
   subst e1
   have y:=x.ahc
   have I2:=I.gr y (by have:=S.af;lia)
   have D2:fF w1.af j (kZ c):=by rw[LR.kind];exact cj I2.T LR.at_ hn'
   unfold UN
   rw[aG h1]
   refine iX (zc (nd:=nd) (cst:=0) (S.gr y) I2 D2 (tn h2).1 (R.gr y I2.T (List.prefix_refl _)) h1) fun S3 I3 R3=> ?_
   exact g j _ _ [.tr (.ak [.int 0,nv nd.bN])] (List.prefix_refl _) ⟨by rw[x.same],1,x.ext⟩ (S3.le (by rw[Ld];exact(jD (lS rfl)))) I3 D2 (cL.aE rfl) R3
 ·have:(ay (Sd.lit nd c).nd.bN HH).isSome=true:=by show(ay nd.bN HH).isSome=true;rw[q2];rfl
  rw[wm this]at g
  have eK:K'=kZ c:=by
   rcases h3 with h3|h3
   ·rw[h3]at q2;exact bJ q2
   ·rw[h3]at q2;refine xF q2 ?_;rfl
  subst eK
  exact gC (wl hn q1) (g n w rest [] (List.prefix_refl _) (cQ.refl w) (S.le (iY)) I q3 rfl R)
end
section
variable{l:List Int}{d:Nat}{w:W}{rest:H}
theorem gM.node:∀{s:Sd},gM rest s->∃kind a bW,rest[s.nd.r]? =some (cR kind a bW s.nd)
 | .leaf n K,⟨k,h⟩=>⟨_,_,_,h⟩
 | .lit n c,⟨_,k,h⟩=>⟨_,_,_,h⟩
 | .jk n op a b,⟨_,⟨q,h,_⟩,_⟩=>⟨_,_,_,h⟩
noncomputable def Kg(w:W)(rest:H)(B cst:Nat)(m8:HL)(L:jl)(Gq:List AE)(v:V)(r:Option (V×H)):Prop:=
 ∀{M:Ma} {n:Nat} {k:List Fr} {ρ:aO},(∀w' r' cs,rest<+:r'->cQ w w'->Sz w' (B+cst)->lM w'->cL w'.af Gq cs->jc w' r' m8 (jC cs L)->Rt M n k ρ v (heap w' r'))->Cl M n k ρ r
theorem Sz.dr{B:Nat}{ds:List Nat}(S:Sz w B)(h:ds.length<=B+1):Sz {w with cA:=ds} (B+1):=by
 obtain⟨a1,a2,a3,a4,a5,a6,a7,a8,a9,qJ,rX⟩:=S
 exact⟨aZ a1,h,aZ a3,aZ a4,aZ a5,aZ a6,aZ a7,aZ a8,aZ a9,aZ qJ,aZ rX⟩
theorem Sz.no{B:Nat}{ds:List V}(S:Sz w B)(h:ds.length<=B+1):Sz {w with cE:=ds} (B+1):=by
 obtain⟨a1,a2,a3,a4,a5,a6,a7,a8,a9,qJ,rX⟩:=S
 exact⟨aZ a1,aZ a2,h,aZ a4,aZ a5,aZ a6,aZ a7,aZ a8,aZ a9,aZ qJ,aZ rX⟩
theorem qA{num r kind B:Nat}{a bW:V}{vs:List V}{args:List Arg}{n:Nd}{HH:HL}{L:jl}(hn:rest[r]? =some (cR kind a bW n))(S:Sz w B)(hB:B<89000)(I:lM w)(R:jc w rest HH L)(hk:(V.ak vs).aS=true)(hc:kM w.af args vs):
  Kg w rest B 1 HH L [.to num n.at_ args] .none (bC (P l) (d+4) 840 [.ref 25,nv num,.ref (95+r),.ak vs] (heap w rest)):=fun g=>
 My hn R.j6 hk (iG S.cA (jd hB rfl)) fun ds r' x D hl=>g _ r' [.to (om num n.at_ (.ak vs))] x ⟨rfl,0,lN.refl _⟩ (S.dr (uZ hl S.cA)) ⟨I.T,⟨I.cB.intz,I.cB.jW⟩,I.aj,I.jp,I.G⟩ (cL.aE ⟨vs,hc,rfl⟩) ⟨R.aR,R.bk,R.cE,D⟩
theorem Hw{r kind B:Nat}{a bW:V}{n:Nd}{HH:HL}{L:jl}(hn:rest[r]? =some (cR kind a bW n))(S:Sz w B)(hB:B<89000)(I:lM w)(R:jc w rest HH L):
  Kg w rest B 1 HH L [.no n.at_] .none (bC (P l) (d+2) 861 [.ref 25,.int 1,.ref (95+r)] (heap w rest)):=fun g=>by
 have e:bC (P l) (d+1) 165 [.ref 23,.int 1,nv n.at_] (heap w rest)=some (.none,heap {w with cE:=w.cE++[.ak [.int 1,nv n.at_]]} rest):=by
  refine xR (W7 l) fun N R hN Z=>gU (iO (Tu w rest) (by have:=S.cE;exact(iG this (jd hB rfl)))) ?_
  exact hN rfl _
 refine xV (WD l) fun N R1 hN Z=>gV (bg hn).1 (gC e (hN _ _ (g {w with cE:=w.cE++[.ak [.int 1,nv n.at_]]} rest [.no (.ak [.int 1,nv n.at_])] (List.prefix_refl _) ⟨rfl,0,lN.refl _⟩ (S.no (by have:=S.cE;rw[fV];exact(jD this))) ⟨I.T,⟨I.cB.intz,I.cB.jW⟩,I.aj,I.jp,I.G⟩ (cL.aE rfl) ⟨R.aR,R.bk,?_,R.j6⟩)))
 show w.cE++[_]=(jC [.no _] L).2.2
 rw[R.cE];rfl
theorem wG{r n:Nat}:bC (P l) (d+1) 924 [.ref 25,.ref r,nv n] (heap w rest)=some (nv n,heap w rest):=xR (WB l) fun N R Z hR=>hR
theorem Kp{K:az}{n a:Nat}{x:Nat}(I:lM w)(G:Core K)(D:fF w.af n K)(hx:Core [a])(ha:a∈aU)(h:aY w.af a x):decide (nv n=nv x)=decide (K=[a]):=
 iu.mpr (Iff.trans ⟨dY,fun e=>e▸rfl⟩ (kJ I.T G hx D (cj I.T ha h)))
theorem yT{num r kind B n:Nat}{a bW:V}{nd:Nd}{K:az}{HH:HL}{L:jl}(hn:rest[r]? =some (cR kind a bW nd))(S:Sz w B)(hB:B+2000<89000)(I:lM w)(R:jc w rest HH L)(G:gG K)(D:fF w.af n K):
  Kg w rest B 60 HH L (Bp w.plain w.aj K nd.at_ num) .none (bC (P l) (d+8) 1018 [.ref 25,.ref (95+r),nv n,nv num] (heap w rest)):=fun g=>by
 have YN:=Kp I G.toCore D DY (by decide) (nF I.T)
 have Zv:=Kp I G.toCore D DX (by decide) (qo I.T)
 refine nj (Qp l) fun N R1 hN Z=>gC wG ?_
 unfold Bp at g
 by_cases uS:K=[18]
 ·rw[aI uS]at g
  exact gT (YN.trans (ez uS)) (Hw hn S (ur hB) I R fun w' r' cs x st sz iv cc rp=>hN _ _ (g w' r' cs x st (sz.le (lS rfl)) iv cc rp))
 ·rw[aG uS]at g
  refine gF (YN.trans (fH uS)) ?_
  by_cases yp:K=[24]
  ·rw[aI (.inl yp)]at g
   exact NO (congrArg (fun b=>(!b)==true) (Zv.trans (ez yp))) (gF (congrArg (!·) (Zv.trans (ez yp))) (hN _ _ (g w rest [] (List.prefix_refl _) (cQ.refl w) (S.le (iY)) I rfl R)))
  ·refine Rj (congrArg (fun b=>(!b)==true) (Zv.trans (fH yp))) (v7 I (VK S.af hB rfl) G D fun w1 r1 x1 y1=> ?_)
   have I1:=I.gr y1 (VK S.af hB rfl)
   have S1:=S.gr y1
   have R1':=R.gr y1 I1.T x1
   generalize b8 w.plain w.aj K 3=q at g
   cases q with
   |true=>
    rw[aI (.inr rfl)]at g
    exact hN _ _ (g w1 r1 [] x1 (.gr y1) (S1.le (lS rfl)) I1 rfl R1')
   |false=>
    rw[aG (by simp[yp])]at g
    exact qA (vs:=[]) (args:=[]) (fK hn x1) S1 (fR hB) I1 R1' rfl rfl fun w' r' cs x st sz iv cc rp=>hN _ _ (g w' r' cs (x1.trans x) ((cQ.gr y1).trans st) (sz.le (jD (lS rfl))) iv cc rp)
end
section
variable{l:List Int}{d:Nat}{w:W}{rest:H}
theorem cQ.plain{w w':W}(h:cQ w w'):w'.plain=w.plain:=by rw[h.same]
theorem cQ.aj{w w':W}(h:cQ w w'):w'.aj=w.aj:=by rw[h.same]
theorem cQ.bu{w w':W}(h:cQ w w'):w'.bu=w.bu:=by rw[h.same]
theorem cQ.jp{w w':W}(h:cQ w w'):w'.jp=w.jp:=by rw[h.same]
theorem rD{B c:Nat}{K:az}{HH:HL}{L:jl}{Gq:List AE}{D r:Nat}(h:vE w rest B c K HH L Gq (bC (P l) D 952 [.ref 25,.ref r,.int (-1)] (heap w rest))):vE w rest B c K HH L Gq (bC (P l) (D+1) 784 [.ref 25,.ref r,.int (-1)] (heap w rest)):=fun g=>
 xV (WH l) fun N R Z hR=>h fun j w' r' cs a b c d e f i=>hR _ _ (g j w' r' cs a b c d e f i)
theorem VC{M:Ma}{n:Nat}{k:List Fr}{ρ:aO}{σ:H}{f p1 p2 p3 p4 p5 p6:Nat}{v1 v2 v3 v4 v5 v6:V}{ds:List V}{bd:List St}(e:(P l).fn f=some ⟨[p1,p2,p3,p4,p5,p6],ds,bd⟩)(h:∀N R,(∀be aK,go n M (.v .none k) ρ aK->N be aK)->(∀v aK,go n M (.v v k) ρ aK->R v aK)->go 1000 ⟨l,d,N,R⟩ (.s bd []) [(p1,v1),(p2,v2),(p3,v3),(p4,v4),(p5,v5),(p6,v6)] σ):Cl M n k ρ (bC (P l) (d+1) f [v1,v2,v3,v4,v5,v6] σ):=Rn e rfl h
theorem vq:∀s:Sd,13<=rd s
 | .leaf _ _=>bX _
 | .lit _ _=>bX _
 | .jk _ _ a b=>by have:=vq a;exact(ahr this)
theorem Ge{a b:Sd}{D B:Nat}{HH:HL}{L:jl}{M:Ma}{n:Nat}{k:List Fr}{ρ:aO}(Aa:jo l a)(Ab:jo l b)(hD:max (rd a) (rd b)<=D)(I:lM w)(S:Sz w B)(hB:B+bT a+bT b+8000<90000)(gR:w.bu+uy a+uy b<50)(R:jc w rest HH L)(ta:gM rest a)(tb:gM rest b)(oa:cy w.plain HH a)(ob:cy w.plain HH b)(ap:mK a b)
  (g:∀n1 w1 r1,rest<+:r1->(∀{M:Ma} {n:Nat} {k:List Fr} {ρ:aO},(∀n2 w2 r2 cs,rest<+:r2->cQ w w2->Sz w2 (B+bT a+bT b)->lM w2->fF w2.af n1 (kindOf a)->fF w2.af n2 (kindOf b)->cL w2.af ((cg w.plain w.aj a HH).2++(cg w.plain w.aj b (cg w.plain w.aj a HH).1).2) cs->jc w2 r2 (cg w.plain w.aj b (cg w.plain w.aj a HH).1).1 (jC cs L)->Rt M n k ρ (nv n2) (heap w2 r2))->Cl M n k ρ (bC (P l) (D+1) 784 [.ref 25,.ref (95+b.nd.r),.int (-1)] (heap w1 r1)))->Rt M n k ρ (nv n1) (heap w1 r1)):
  Cl M n k ρ (bC (P l) (D+1) 784 [.ref 25,.ref (95+a.nd.r),.int (-1)] (heap w rest)):=by
 refine rD (Aa D w rest HH L B (Jv hD) I S (fR hB) (ur gR) R ta oa) fun n1 w1 r1 Be x1 bw Gi AZ d1 c1 p1=>g n1 w1 r1 x1 fun g2=> ?_
 have Y5:cy w1.plain (cg w.plain w.aj a HH).1 b:=by rw[bw.plain];exact ob.apart oa.sf ap
 refine rD (Ab D w1 r1 _ _ (B+bT a) (OQ hD) AZ Gi hB (by rw[bw.bu];exact(fR gR)) p1 (tb.pre x1) Y5) fun n2 w2 r2 IB x2 bS zB rU d2 c2 p2=> ?_
 refine bR bS.ext fun c x=> ?_
 rw[bw.plain,bw.aj]at c2 p2
 exact g2 n2 w2 r2 (Be++IB) (x1.trans x2) (bw.trans bS) zB rU (d1.ext x rU.T) d2 ((c1.ext x rU.T).append c2) (by rw[bU];exact p2)
theorem Ch{af:List V}(T:dj af)(σ:H){K:az}{s:Nat}(hK:Core K)(D:fF af s K):bD σ (nv s) (.ak [.int 5,.int 4,.int 0,.int 13,.int 1])=some (decide (quiet K\/m9 K)):=
 (Jh σ s [5,4,0,13,1]).trans (by
  congr 1;rw[iu]
  have e0:=kJ T hK (jv (K:=[0]) (by decide+kernel)) D (cj T (by decide) (T.cU (n:=5) rfl))
  have e14:=kJ T hK (jv (K:=[14]) (by decide+kernel)) D (cj T (by decide) (T.cU (n:=4) rfl))
  have YN:=kJ T hK DY D (cj T (by decide) (T.cU (n:=0) rfl))
  have Zv:=kJ T hK DX D (cj T (by decide) (T.cU (n:=13) rfl))
  have e32:=kJ T hK (jv (K:=[32]) (by decide+kernel)) D (cj T (by decide) (T.cU (n:=1) rfl))
  simp only[cH,qn,or_false,e0,e14,YN,Zv,e32]
  constructor
  ·rintro(h|h|h|h|h)
   ·exact .inl (.inr (.inl h))
   ·exact .inl (.inr (.inr h))
   ·exact .inr (.inl h)
   ·exact .inr (.inr h)
   ·exact .inl (.inl h)
  ·rintro((h|h|h)|h|h)<;>simp[h])
theorem OZ{n m:Nat}(hn:n<100000)(hm:m<100000):(V.ak [tx n,tx m]).aS=true:=by
 have k:∀{n:Nat},n<100000->V.d8 5 (tx n)=true:=fun h=>by
  have:=DG h
  exact this
 unfold V.aS
 rw[kI,b7,b7,k hn,k hm];rfl
theorem Hg{n m:Nat}{op:List Nat}(ho:op∈fG)(hn:n<100000)(hm:m<100000):(V.ak [.str op,tx n,tx m]).aS=true:=by
 have k:∀{n:Nat},n<100000->V.d8 5 (tx n)=true:=fun h=>by
  have:=DG h
  exact this
 have ko:V.d8 5 (.str op)=true:=dG.mp (show(fG.all fun o=>V.d8 5 (.str o))=true by decide+kernel) op ho
 unfold V.aS
 rw[kI,b7,b7,b7,k hn,k hm,ko];rfl
theorem FW{a b:Sd}{D B:Nat}{HH:HL}{L:jl}{op:List Nat}{nd:Nd}{kind:Nat}{xa bW:V}(Aa:jo l a)(Ab:jo l b)(hD:max (rd a) (rd b)<=D)(I:lM w)(S:Sz w B)(hB:B+bT a+bT b+9000<90000)(gR:w.bu+uy a+uy b<50)(R:jc w rest HH L)(ta:gM rest a)(tb:gM rest b)(oa:cy w.plain HH a)(ob:cy w.plain HH b)(ap:mK a b)
  (ho:op∈EJ)(hn:rest[nd.r]? =some (cR kind xa bW nd)):
  vE w rest B (bT a+bT b+1000) [2,12] (cg w.plain w.aj b (cg w.plain w.aj a HH).1).1 L ((cg w.plain w.aj a HH).2++(cg w.plain w.aj b (cg w.plain w.aj a HH).1).2++kC w.plain w.aj op nd.at_ (kindOf a) (kindOf b))
   (bC (P l) (D+2) 1084 [.ref 0,.ref 25,.ref (95+nd.r),.str op,.ref (95+a.nd.r),.ref (95+b.nd.r)] (heap w rest)):=by
 intro M n k ρ g
 have Iz:=vq a
 obtain⟨D',rfl⟩:∃D',D=D'+5:=⟨D - 5,(Jw hD Iz rfl)⟩
 refine dw oa.qM fun ga na=> ?_
 refine dw ob.qM fun gb nb=> ?_
 refine VC (Qk l) fun N R1 Z hR=>Ge Aa Ab hD I S (fR hB) gR R ta tb oa ob ap fun n1 w1 r1 x1 ask=>ask fun n2 w2 r2 cs x2 st sz iv d1 d2 cc rp=> ?_
 have sr:=sz.af
 have ec:(quiet (kindOf a)\/m9 (kindOf a))\/(quiet (kindOf b)\/m9 (kindOf b))->kC w.plain w.aj op nd.at_ (kindOf a) (kindOf b)=[]:=fun q=>by
  unfold kC
  by_cases t:m9 (kindOf a)\/m9 (kindOf b)
  ·rw[aI t]
  ·rw[not_or]at t
   exact(aG (not_or.mpr t)).trans ((aI ho).trans (aI (.inl (q.elim (fun q=>.inl (q.resolve_right t.1)) fun q=>.inr (q.resolve_right t.2)))))
 have stop:(quiet (kindOf a)\/m9 (kindOf a))\/(quiet (kindOf b)\/m9 (kindOf b))->R1 (.int 12) (heap w2 r2):=fun q=>by
  rw[ec q,lU]at g
  exact hR _ _ (g 12 w2 r2 cs x2 st (sz.le (ahm)) iv (jQ iv.T) cc rp)
 refine Nk (v:=nv n1) rfl rfl fun N2 h2=>gV (rS (Ch iv.T (heap w2 r2) ga.toCore d1)) ?_
 by_cases qa:quiet (kindOf a)\/m9 (kindOf a)
 ·exact gT (ez qa) (stop (.inl qa))
 refine gF (fH qa) (h2 _ _ (Nk (v:=nv n2) rfl rfl fun N3 h3=>gV (rS (Ch iv.T (heap w2 r2) gb.toCore d2)) ?_))
 by_cases qb:quiet (kindOf b)\/m9 (kindOf b)
 ·exact gT (ez qb) (stop (.inr qb))
 refine gF (fH qb) (h3 _ _ (YL rfl ?_))
 refine gW tZ (pR iv.T (xZ sr hB rfl) ga.toCore gb.toCore (by rw[st.jp,I.jp];exact na) (by rw[st.jp,I.jp];exact nb) d1 d2 fun w3 r3 x3 y3=> ?_)
 have mG:=iv.gr y3 (xZ sr hB rfl)
 have M9:=sz.gr y3
 have rp3:=rp.gr y3 mG.T x3
 have eV:=st.trans (.gr y3)
 have ec:kC w.plain w.aj op nd.at_ (kindOf a) (kindOf b)=if ji w2.jp (kindOf a) (kindOf b)=true then []else [.to 2367 nd.at_ [.k (kindOf a),.k (kindOf b)]]:=by
  unfold kC
  rw[st.jp,I.jp,aG fun h=>h.elim (fun h=>qa (.inr h)) fun h=>qb (.inr h),aI ho]
  exact ite_congr (propext (or_iff_right fun h=>h.elim (fun h=>qa (.inl h)) fun h=>qb (.inl h))) (fun Z=>rfl) fun Z=>rfl
 rw[ec]at g
 cases hm:ji w2.jp (kindOf a) (kindOf b)with
 |true=>
  rw[aI hm,lU]at g
  exact hR _ _ (g 12 w3 r3 cs (x2.trans x3) eV (M9.le (OP rfl)) mG (jQ mG.T) (cc.ext y3.ext mG.T) rp3)
 |false=>
  rw[aG (by rw[hm];decide)]at g
  have d13:=d1.ext y3.ext mG.T
  have d23:=d2.ext y3.ext mG.T
  have l1:=jj mG.T d13
  have l2:=jj mG.T d23
  refine gC (mu l1) (gC (mu l2) ?_)
  refine qA (num:=2367) (vs:=[tx n1,tx n2]) (args:=[.k (kindOf a),.k (kindOf b)]) (fK hn (x2.trans x3)) M9 (Jr hB rfl) mG rp3 (OZ l1 l2) ⟨_,_,rfl,⟨n1,d13,rfl⟩,_,_,rfl,⟨n2,d23,rfl⟩,rfl⟩ fun w4 r4 YO x4 lJ TH qI YR rp4=> ?_
  refine bR lJ.ext fun c5 x5=> ?_
  exact hR _ _ (g 12 w4 r4 (cs++YO) ((x2.trans x3).trans x4) (eV.trans lJ) (TH.le (by lia)) qI (jQ qI.T) (((cc.ext y3.ext mG.T).ext x5 qI.T).append YR) (by rw[bU];exact rp4))
end
section
variable{l:List Int}{d:Nat}{w:W}{rest:H}
theorem LZ{a b:Sd}{D B:Nat}{HH:HL}{L:jl}{op:List Nat}{nd:Nd}{kind:Nat}{xa bW:V}(Aa:jo l a)(Ab:jo l b)(hD:max (rd a) (rd b)<=D)(I:lM w)(S:Sz w B)(hB:B+bT a+bT b+9000<90000)(gR:w.bu+uy a+uy b<50)(R:jc w rest HH L)(ta:gM rest a)(tb:gM rest b)(oa:cy w.plain HH a)(ob:cy w.plain HH b)(ap:mK a b)
  (hs:op∈fG)(ho:op∉EJ)(hn:rest[nd.r]? =some (cR kind xa bW nd)):
  vE w rest B (bT a+bT b+1100) [2,12] (cg w.plain w.aj b (cg w.plain w.aj a HH).1).1 L ((cg w.plain w.aj a HH).2++(cg w.plain w.aj b (cg w.plain w.aj a HH).1).2++kC w.plain w.aj op nd.at_ (kindOf a) (kindOf b))
   (bC (P l) (D+2) 1058 [.ref 77,.ref 25,.ref (95+nd.r),.str op,.ref (95+a.nd.r),.ref (95+b.nd.r)] (heap w rest)):=by
 intro M n k ρ g
 have Iz:=vq a
 obtain⟨D',rfl⟩:∃D',D=D'+7:=⟨D - 7,(Jw hD Iz rfl)⟩
 refine dw oa.qM fun ga na=> ?_
 refine dw ob.qM fun gb nb=> ?_
 refine VC (Qm l) fun N R1 Z hR=>Ge Aa Ab hD I S (fR hB) gR R ta tb oa ob ap fun n1 w1 r1 x1 ask=>gC wG (ask fun n2 w2 r2 cs x2 st sz iv d1 d2 cc rp=>gC wG ?_)
 have sr:=sz.af
 have stop:kC w.plain w.aj op nd.at_ (kindOf a) (kindOf b)=[]->∀w3 r3,r2<+:r3->Gr w2 w3 1000->R1 (.int 12) (heap w3 r3):=fun e w3 r3 x3 y3=>by
  rw[e,lU]at g
  have mG:=iv.gr y3 (xZ sr hB rfl)
  exact hR _ _ (g 12 w3 r3 cs (x2.trans x3) (st.trans (.gr y3)) ((sz.gr y3).le (OP rfl)) mG (jQ mG.T) (cc.ext y3.ext mG.T) (rp.gr y3 mG.T x3))
 refine gV (rS (Ax (w:=w2) (rest:=r2) iv.T ga.toCore d1)) ?_
 by_cases ta:m9 (kindOf a)
 ·exact NO (congrArg (·==false) (ez ta)) (gT (ez ta) (stop (aI (.inl ta)) w2 r2 (List.prefix_refl _) ((Gr.refl _).le (mX))))
 refine Rj (congrArg (·==false) (fH ta)) (gV (rS (Ax (w:=w2) (rest:=r2) iv.T gb.toCore d2)) ?_)
 by_cases tb:m9 (kindOf b)
 ·exact gT (ez tb) (stop (aI (.inr tb)) w2 r2 (List.prefix_refl _) ((Gr.refl _).le (mX)))
 refine gF (fH tb) (wU iv (xZ sr hB rfl) ga gb (by rw[st.plain];exact na) (by rw[st.plain];exact nb) d1 d2 fun w3 r3 x3 y3=> ?_)
 have ec:kC w.plain w.aj op nd.at_ (kindOf a) (kindOf b)=if gf w2.plain w2.aj (kindOf a) (kindOf b)=true then []else [.to 2365 nd.at_ [.s op,.k (i7 (kindOf a)),.k (i7 (kindOf b))]]:=by
  rw[st.plain,st.aj]
  exact(aG (not_or.mpr ⟨ta,tb⟩)).trans (aG ho)
 cases hm:gf w2.plain w2.aj (kindOf a) (kindOf b)with
 |true=>exact stop (ec.trans (aI hm)) w3 r3 x3 y3
 |false=>
  rw[ec,aG (by rw[hm];decide)]at g
  have mG:=iv.gr y3 (xZ sr hB rfl)
  have l3:=y3.len
  refine ki mG.T (GV l3 sr hB rfl) (d1.ext y3.ext mG.T) ga.ES fun m6 w6 r6 x6 y6 D6=> ?_
  have l6:=y6.len
  have Rg:=mG.gr y6 (GV l3 sr hB rfl)
  have y36:=y3.trans y6
  refine ki Rg.T (acz l6 l3 sr hB rfl) (d2.ext y36.ext Rg.T) gb.ES fun m7 w7 r7 x7 y7 D7=> ?_
  have Nc:=Rg.gr y7 (acz l6 l3 sr hB rfl)
  have y37:=y36.trans y7
  have x37:=x3.trans (x6.trans x7)
  have D6':=(D6.ext y7.ext Nc.T).congr ga.same
  have D7':=D7.congr gb.same
  have l1:=jj Nc.T D6'
  have l2:=jj Nc.T D7'
  refine ahb (Qn l) fun N2 R2 Z NK=>gC (mu l1) (gC (mu l2) ?_)
  refine qA (num:=2365) (vs:=[.str op,tx m6,tx m7]) (args:=[.s op,.k (i7 (kindOf a)),.k (i7 (kindOf b))]) (fK hn (x2.trans x37)) (sz.gr y37) (Jr hB rfl) Nc (rp.gr y37 Nc.T x37) (Hg hs l1 l2) ⟨_,_,rfl,rfl,_,_,rfl,⟨m6,D6',rfl⟩,_,_,rfl,⟨m7,D7',rfl⟩,rfl⟩ fun w4 r4 YO x4 lJ TH qI YR rp4=> ?_
  refine bR lJ.ext fun c5 x5=> ?_
  exact NK _ _ (hR _ _ (g 12 w4 r4 (cs++YO) ((x2.trans x37).trans x4) ((st.trans (.gr y37)).trans lJ) (TH.le (by lia)) qI (jQ qI.T) (((cc.ext y37.ext Nc.T).ext x5 qI.T).append YR) (by rw[bU];exact rp4)))
theorem MS{a b:Sd}{D B:Nat}{HH:HL}{L:jl}{op:List Nat}{r:Nat}(Aa:jo l a)(Ab:jo l b)(hD:max (rd a) (rd b)<=D)(I:lM w)(S:Sz w B)(hB:B+bT a+bT b+9000<90000)(gR:w.bu+uy a+uy b<50)(R:jc w rest HH L)(ta:gM rest a)(tb:gM rest b)(oa:cy w.plain HH a)(ob:cy w.plain HH b)(ap:mK a b):
  vE w rest B (bT a+bT b+200) [6] (cg w.plain w.aj b (cg w.plain w.aj a HH).1).1 L ((cg w.plain w.aj a HH).2++Bp w.plain w.aj (kindOf a) a.nd.at_ 2362++((cg w.plain w.aj b (cg w.plain w.aj a HH).1).2++Bp w.plain w.aj (kindOf b) b.nd.at_ 2363))
   (bC (P l) (D+2) 1032 [.ref 78,.ref 25,.ref (95+r),.str op,.ref (95+a.nd.r),.ref (95+b.nd.r)] (heap w rest)):=by
 intro M n k ρ g
 have Iz:=vq a
 refine dw oa.qM fun ga na=> ?_
 refine dw ob.qM fun gb nb=> ?_
 obtain⟨D',rfl⟩:∃D',D=D'+7:=⟨D - 7,(Jw hD Iz rfl)⟩
 refine tQ ta.node fun Z Z Z na1=> ?_
 refine tQ tb.node fun Z Z Z nb1=> ?_
 refine VC (Qo l) fun N R1 Z hR=>rD (Aa (D'+7) w rest HH L B (Jv hD) I S (ON hB rfl) (ur gR) R ta oa) fun n1 w1 r1 Be x1 bw Gi AZ d1 c1 p1=> ?_
 refine yT (num:=2362) (fK na1 x1) Gi (ON hB rfl) AZ p1 ga d1 fun w2 r2 IB x2 bS zB rU c2 p2=> ?_
 have zI:=bw.trans bS
 have x12:=x1.trans x2
 rw[bw.plain,bw.aj]at c2
 have Y5:cy w2.plain (cg w.plain w.aj a HH).1 b:=by rw[zI.plain];exact ob.apart oa.sf ap
 refine rD (Ab (D'+7) w2 r2 _ _ (B+bT a+60) (OQ hD) rU zB (acB hB rfl) (by rw[zI.bu];exact(fR gR)) p2 (tb.pre x12) Y5) fun n3 w3 r3 YQ x3 eV M9 mG d3 c3 p3=> ?_
 rw[zI.plain,zI.aj]at c3 p3
 have x13:=x12.trans x3
 refine yT (num:=2363) (fK nb1 x13) M9 (acB hB rfl) mG p3 gb d3 fun w4 r4 YO x4 lJ TH qI c4 p4=> ?_
 have Ug:=zI.trans eV
 rw[Ug.plain,Ug.aj]at c4
 refine bR (bS.trans (eV.trans lJ)).ext fun Z e2=> ?_
 refine bR (eV.trans lJ).ext fun Z e3=> ?_
 refine bR lJ.ext fun Z e4=> ?_
 exact hR _ _ (g 7 w4 r4 ((Be++IB)++(YQ++YO)) (x13.trans x4) (Ug.trans lJ) (TH.le (acE rfl)) qI (cj qI.T (by decide) (Um qI.T)) (((c1.ext e2 qI.T).append (c2.ext e3 qI.T)).append ((c3.ext e4 qI.T).append c4)) (by rw[bU,bU,bU];exact p4))
end
section
variable{l:List Int}{d:Nat}{w:W}{rest:H}
noncomputable def N5(op:List Nat):Nat×Nat:=if op=[45]then(78,1032)else if op∈EJ then(0,1084)else(77,1058)
theorem L0:∀op∈fG,∀(l:List Int) (u:W) (q:H),bD (heap u q) (.str op) (.ref 79)=some true/\item (heap u q) (.ref 79) (.str op)=some (.ref (N5 op).1)/\iJ (P l) (.ref (N5 op).1) 200 (heap u q)=some (N5 op).2:=by
 simp only[fG,By,qn,false_implies,implies_true,and_true]
 refine⟨?_,?_,?_,?_,?_,?_,?_,?_,?_⟩<;>exact fun l u q=>⟨rfl,rfl,rfl⟩
theorem MN{a b:Sd}{D B q:Nat}{HH:HL}{L:jl}{op:List Nat}{nd:Nd}(Aa:jo l a)(Ab:jo l b)(hD:max (rd a) (rd b)<=D)(I:lM w)(S:Sz w B)(hB:B+bT a+bT b+9000<90000)(gR:w.bu+uy a+uy b<50)(R:jc w rest HH L)(ta:gM rest a)(tb:gM rest b)(oa:cy w.plain HH a)(ob:cy w.plain HH b)(ap:mK a b)
  (hs:op∈fG)(hn:rest[nd.r]? =some (cR 23 (.str op) (.ref (95+q)) nd))(hq:rest[q]? =some (.list [.ref (95+a.nd.r),.ref (95+b.nd.r)])):
  vE w rest B (bT a+bT b+1100) (pC op) (cg w.plain w.aj b (cg w.plain w.aj a HH).1).1 L (sA w.plain w.aj op nd.at_ a b (cg w.plain w.aj a HH).2 (cg w.plain w.aj b (cg w.plain w.aj a HH).1).2)
   (bC (P l) (D+4) 1110 [.ref 75,.ref 25,.ref (95+nd.r),.int (-1)] (heap w rest)):=by
 intro M n k ρ g
 refine iX (L0 op hs l w rest) fun f1 f2 f3=> ?_
 refine Ai (bg (w:=w) hn) fun Z Z Z g83 g84=> ?_
 refine nj (Qj l) fun N R1 Z NL=>gV g83 (nj (Qi l) fun N R2 Z NK=>gV (zK f1) (gV f2 (gW f3 (gV g84 (gV (lF (i:=0) hq (mH rfl) rfl) (gV g84 (gV (lF (i:=1) hq (mH rfl) rfl) ?_)))))))
 have g:∀j w' r' cs,rest<+:r'->cQ w w'->Sz w' (B+(bT a+bT b+1100))->lM w'->_:=fun j w' r' cs x1 x2 x3 x4 x5 x6 x7=>NK _ _ (NL _ _ (g j w' r' cs x1 x2 x3 x4 x5 x6 x7))
 unfold sA pC at g
 unfold N5
 by_cases h1:op=[45]
 ·rw[aI h1,aI h1]at g
  rw[aI h1]
  exact MS Aa Ab hD I S hB gR R ta tb oa ob ap fun n w' j cs x st sz=>g n w' j cs x st (sz.le (Js rfl))
 ·rw[aG h1,aG h1]at g
  rw[aG h1]
  by_cases h2:op∈EJ
  ·rw[aI h2]
   exact FW Aa Ab hD I S hB gR R ta tb oa ob ap h2 hn fun n w' j cs x st sz=>g n w' j cs x st (sz.le (Js rfl))
  ·rw[aG h2]
   exact LZ Aa Ab hD I S hB gR R ta tb oa ob ap hs h2 hn fun n w' j cs x st sz=>g n w' j cs x st (sz.le (lR))
noncomputable def Sk(pl:Bool)(te:List (V×V))(nd:Nd)(op:List Nat)(a b:Sd)(HH:HL):HL×List AE:=
 if nd.bN=0 then((cg pl te b (cg pl te a HH).1).1,sA pl te op nd.at_ a b (cg pl te a HH).2 (cg pl te b (cg pl te a HH).1).2)
 else(eX nd.bN (pC op) (cg pl te b (cg pl te a HH).1).1,sA pl te op nd.at_ a b (cg pl te a HH).2 (cg pl te b (cg pl te a HH).1).2++[.tr nd.bN])
theorem QJ{a b:Sd}(Aa:jo l a)(Ab:jo l b)(nd:Nd)(op:List Nat):jo l (.jk nd op a b):=by
 intro D w rest HH L B hD I S hB gR R A O M n k ρ g
 rw[Le]at hB
 obtain⟨D',rfl⟩:∃D',D=D'+5:=⟨D - 5,(DB hD rfl)⟩
 refine iA A fun hs u1 ta tb=> ?_;refine aD u1 fun q hn hq=> ?_
 refine ju O fun h1 h0 oa ob ap Z=> ?_
 rcases R.aR.ay (x:=nd.bN)with⟨q1,q2⟩|⟨n,K',q1,q2,q3,q4⟩
 ·have I0:lM {w with bu:=w.bu+1}:=⟨I.T,⟨I.cB.intz,I.cB.jW⟩,I.aj,I.jp,I.G⟩
  have S0:Sz {w with bu:=w.bu+1} B:=⟨S.af,S.cA,S.cE,S.aR,S.bk,S.given,S.aj,S.cK,S.fJ,S.ef,S.iI⟩
  have R0:jc {w with bu:=w.bu+1} rest HH L:=⟨R.aR,R.bk,R.cE,R.j6⟩
  have ev:cg w.plain w.aj (.jk nd op a b) HH=Sk w.plain w.aj nd op a b HH:=aG (by rw[q2];decide)
  rw[ev]at g
  unfold Sk at g
  refine CO (Q:=fun j w1 r1=>∃cs,rest<+:r1/\cQ {w with bu:=w.bu+1} w1/\Sz w1 (B+(bT a+bT b+1100))/\lM w1/\fF w1.af j (pC op)/\cL w1.af (sA w.plain w.aj op nd.at_ a b (cg w.plain w.aj a HH).2 (cg w.plain w.aj b (cg w.plain w.aj a HH).1).2) cs/\jc w1 r1 (cg w.plain w.aj b (cg w.plain w.aj a HH).1).1 (jC cs L)) (f:=1110) (R:=75) hn q1 (ur gR) (fun Z Z=>rfl) (fun Z Z=>rfl) (fun Z Z=>rfl)
   (fun g2=>MN (nd:=nd) (B:=B) Aa Ab (D:=D') (acK hD) I0 S0 (OO hB rfl) (by exact(ahj gR)) R0 ta tb oa ob ap hs hn hq fun j w' r' cs x1 x2 x3 x4 x5 x6 x7=>g2 j w' r' ⟨cs,x1,x2,x3,x4,x5,x6,x7⟩) (fun j w1 r1 q=> ?_) fun j w1 r1 q=> ?_
  ·refine zj q fun cs x st sz Z Z Z Z=>⟨st.bu,x,by have:=sz.aR;exact(acA this hB rfl),by have:=sz.bk;exact(acA this hB rfl)⟩
  ·refine zj q fun cs x st sz iv dn cc rp=> ?_
   have bS:cQ w {w1 with bu:=w.bu}:=⟨congrArg (fun x:W=>{x with bu:=w.bu}) st.same,st.ext⟩
   have zB:Sz {w1 with bu:=w.bu} (B+(bT a+bT b+1100)):=⟨sz.af,sz.cA,sz.cE,sz.aR,sz.bk,sz.given,sz.aj,sz.cK,sz.fJ,sz.ef,sz.iI⟩
   have rU:lM {w1 with bu:=w.bu}:=⟨iv.T,⟨iv.cB.intz,iv.cB.jW⟩,iv.aj,iv.jp,iv.G⟩
   have rp2:jc {w1 with bu:=w.bu} r1 _ _:=⟨rp.aR,rp.bk,rp.cE,rp.j6⟩
   unfold UN
   by_cases hz:nd.bN=0
   ·rw[aI hz]at g⊢
    exact g j _ r1 cs x bS (zB.le (by exact(Js rfl))) rU dn cc rp2
   ·rw[aG hz]at g⊢
    refine iX (zc (nd:=nd) (cst:=0) zB rU dn (sY op).1 rp2 hz) fun S3 I3 R3=> ?_
    exact g j _ r1 (cs++[CE.tr (V.ak [.int 0,nv nd.bN])]) x ⟨congrArg (fun x:W=>{x with aR:=eX nd.bN j w1.aR,bk:=w1.bk++[V.ak [V.int 0,nv nd.bN]]}) bS.same,bS.ext⟩ (S3.le (by exact(acD rfl))) I3 dn (cc.append (cL.aE (c:=CE.tr (V.ak [.int 0,nv nd.bN])) rfl)) (by rw[bU];exact R3)
 ·have:(ay (Sd.jk nd op a b).nd.bN HH).isSome=true:=by show(ay nd.bN HH).isSome=true;rw[q2];rfl
  rw[wm this]at g
  have eK:K'=pC op:=zb O K' q2
  subst eK
  exact gC (wl hn q1) (g n w rest [] (List.prefix_refl _) (cQ.refl w) (S.le (iY)) I q3 rfl R)
theorem rC(l:List Int):∀s:Sd,jo l s
 | .leaf nd K=>MR nd K
 | .lit nd c=>QI nd c
 | .jk nd op a b=>QJ (rC l a) (rC l b) nd op
end
section
variable{l:List Int}{d:Nat}{w:W}{rest:H}
structure cM(w w':W):Prop where
 same:w'={w with af:=w'.af,cK:=w'.cK,fJ:=w'.fJ,ef:=w'.ef,iI:=w'.iI}
 ext:∃c,lN w.af w'.af c
theorem cM.refl(w:W):cM w w:=⟨rfl,0,lN.refl _⟩
theorem cM.trans{a b c:W}(x:cM a b)(y:cM b c):cM a c:=by
 obtain⟨e1,c1,x1⟩:=x
 obtain⟨e2,c2,x2⟩:=y
 refine⟨?_,_,x1.trans x2⟩
 rw[e2,e1]
theorem cM.plain{w w':W}(h:cM w w'):w'.plain=w.plain:=by rw[h.same]
theorem cM.aj{w w':W}(h:cM w w'):w'.aj=w.aj:=by rw[h.same]
structure lQ(w:W)(HH:HL)(L:jl):Prop where
 cK:w.cK=HH
 bk:w.iI=L.1
 fJ:w.fJ=L.2.1
 ef:w.ef=L.2.2
 key:∀v∈w.fJ,v.aS=true
theorem lQ.gr{HH:HL}{L:jl}{w':W}{c:Nat}(h:lQ w HH L)(x:Gr w w' c):lQ w' HH L:=by
 have e:=x.same
 generalize w'.af=r at*
 subst e
 exact⟨h.cK,h.bk,h.fJ,h.ef,h.key⟩
theorem cM.gr{w w':W}{c:Nat}(x:Gr w w' c):cM w w':=⟨by rw[x.same],c,x.ext⟩
noncomputable def Al(w:W)(rest:H)(B cst:Nat)(m8:HL)(L:jl)(Gq:List AE)(v:V)(r:Option (V×H)):Prop:=
 ∀{M:Ma} {n:Nat} {k:List Fr} {ρ:aO},(∀w' r' cs,rest<+:r'->cM w w'->Sz w' (B+cst)->lM w'->cL w'.af Gq cs->lQ w' m8 (jC cs L)->Rt M n k ρ v (heap w' r'))->Cl M n k ρ r
noncomputable def l7(l:List Int)(s:Sd):Prop:=∀(D:Nat) (w:W) (rest:H) (HH:HL) (L:jl) (B:Nat),rd s<=D->lM w->Sz w B->B+bT s+8000<90000->lQ w HH L->gM rest s->cy w.plain HH s->
 Al w rest B (bT s) (cg w.plain w.aj s HH).1 L (cg w.plain w.aj s HH).2 (kv (kindOf s)) (bC (P l) D 1435 [.ref 94,qH s] (heap w rest))
theorem uC{n:Nat}(h:n<100000)(k:Nat):V.d8 k (tx n)=true:=by
 have:=DG h
 cases k<;>(exact this)
theorem QB(num p:Nat):(om num p (.ak [])).aS=true:=rfl
theorem QA(num p:Nat){n m:Nat}(hn:n<100000)(hm:m<100000):(om num p (.ak [tx n,tx m])).aS=true:=by
 unfold om V.aS nv
 rw[kI,b7,b7,b7,vM,vM,kI,b7,b7,uC hn,uC hm];rfl
theorem Qz(num p:Nat){n m:Nat}{op:List Nat}(ho:op∈fG)(hn:n<100000)(hm:m<100000):(om num p (.ak [.str op,tx n,tx m])).aS=true:=by
 have ko:V.d8 4 (.str op)=true:=dG.mp (show(fG.all fun o=>V.d8 4 (.str o))=true by decide+kernel) op ho
 unfold om V.aS nv
 rw[kI,b7,b7,b7,vM,vM,kI,b7,b7,b7,uC hn,uC hm,ko];rfl
theorem sW{num p B:Nat}{vs:List V}{args:List Arg}{HH:HL}{L:jl}(S:Sz w B)(hB:B<89000)(I:lM w)(R:lQ w HH L)(hk:(om num p (.ak vs)).aS=true)(hc:kM w.af args vs):
  Al w rest B 1 HH L [.to num p args] .none (bC (P l) (d+1) 1423 [.ref 94,nv num,nv p,.ak vs] (heap w rest)):=by
 have lk:((om num p (.ak vs)).cG (om num p (.ak vs))&&w.fJ.all (om num p (.ak vs)).cG)=true:=by
  rw[dX]
  exact⟨eN hk hk,dG.mpr fun x hx=>eN hk (R.key x hx)⟩
 have m:bD (heap w rest) (.ak [nv num,nv p,.ak vs]) (.ref 91)=some (decide (om num p (.ak vs)∈w.fJ)):=by
  have:bD (heap w rest) (om num p (.ak vs)) (.ref 91)=some (decide (om num p (.ak vs)∈w.fJ)):=by
   exact lA (Kc w rest) lk
  exact this
 intro M n k ρ g
 refine nj (PZ l) fun N R1 hN Z=> ?_
 apply gV (zK m)
 by_cases q:om num p (.ak vs)∈w.fJ
 ·have ea:jC [.to (om num p (.ak vs))] L=L:=by show(L.1,(if _ then _ else _),L.2.2)=L;rw[aI (R.fJ▸q)]
  rw[ez q]
  exact hN _ _ (g w rest [.to (om num p (.ak vs))] (List.prefix_refl _) (cM.refl w) (S.le (iY)) I (cL.aE ⟨vs,hc,rfl⟩) (by rw[ea];exact R))
 ·have ea:jC [.to (om num p (.ak vs))] L=(L.1,L.2.1++[om num p (.ak vs)],L.2.2):=by show(L.1,(if _ then _ else _),L.2.2)=_;rw[aG (R.fJ▸q)]
  rw[fH q]
  have pb:=iO (v:=om num p (.ak vs)) (Kc w rest) (by have:=S.fJ;exact(iG this (jd hB rfl)))
  refine gU pb (hN _ _ (g {w with fJ:=w.fJ++[om num p (.ak vs)]} rest [.to (om num p (.ak vs))] (List.prefix_refl _) ⟨rfl,0,lN.refl _⟩ ?_ ⟨I.T,⟨I.cB.intz,I.cB.jW⟩,I.aj,I.jp,I.G⟩ (cL.aE ⟨vs,hc,rfl⟩) ?_))
  ·obtain⟨a1,a2,a3,a4,a5,a6,a7,a8,a9,qJ,rX⟩:=S
   exact⟨aZ a1,aZ a2,aZ a3,aZ a4,aZ a5,aZ a6,aZ a7,aZ a8,by rw[fV];exact jD a9,aZ qJ,aZ rX⟩
  ·rw[ea]
   exact⟨R.cK,R.bk,congrArg (·++_) R.fJ,R.ef,fun v hv=>(gj.mp hv).elim (R.key v) fun hv=>eZ.mp hv▸hk⟩
theorem nE{M:Ma}{n:Nat}{k:List Fr}{ρ:aO}{K:az}(G:Core K)(T:dj w.af)(hl:w.af.length+50<90000)(g:∀m w' r',rest<+:r'->Gr w w' 41->fF w'.af m K->Rt M n k ρ (nv m) (heap w' r')):Cl M n k ρ (bC (P l) (d+4) 1359 [.ref 1,kv K] (heap w rest)):=
 Hv T G.at_ G.agB (by have:=G.ok.len.2;lia) fun m w' r' x y D=>g m w' r' x (y.le (jD (acN G.ok.len.2))) (G.kj▸D)
noncomputable def iK:az->List Nat
 |[a]=>[a / 2]
 |_=>[]
noncomputable def Ud:List (Nat×Nat):=[(9,18),(12,24),(16,32),(0,0),(7,14)]
theorem Lx:(aU.all fun b=>Ud.all fun p=>(p.1==b / 2)==(b==p.2))=true:=by decide+kernel
theorem zz{K:az}(G:Core K){c a:Nat}(h:(c,a)∈Ud):c∈iK K↔K=[a]:=by
 match K with
 |[]=>exact⟨nofun,nofun⟩
 |_::_::_=>exact⟨nofun,nofun⟩
 |[b]=>
  have q:=dG.mp (dG.mp Lx b (G.at_ b (List.mem_cons_self ..))) (c,a) h
  have q:=Bool.eq_iff_iff.mp (eq_of_beq q)
  rw[jE,jE]at q
  exact eZ.trans (q.trans ⟨fun e=>e▸rfl,fun e=>List.head_eq_of_cons_eq e⟩)
theorem zA{K:az}(h:∀a∈K,a<34):∀c∈iK K,c<17:=by
 unfold iK
 split
 ·intro c hc;have:=h _ (eZ.mpr rfl);rw[eZ.mp hc];exact(Bq this)
 ·intro c hc;simp at hc
theorem MT{n:Nat}{k:List Fr}{ρ:aO}{N:aO->H->Prop}{R:V->H->Prop}{K L:az}(hK:dK K)(hL:dK L)(g:∀r' i,rest<+:r'->r'[i]? =some (.list ((iK K++iK L).map wv))->Rt ⟨l,d,N,R⟩ n k ρ (.ref (95+i)) (heap w r')):
  oM ⟨l,d,N,R⟩ n (.bO (.bO (.ah 35) (.cst (.int 0))) (.cst (.int 0))) [35] [.ex (.bF .eq (.len (.ah 35)) (.cst (.int 1)))] [] k ρ (heap w rest) (.ak [kv K,kv L]) (ao (heap w rest) (.ak [kv K,kv L])):=by
 refine DU (f:=kv) (fo:=wv) (ys:=[K,L]) (b:=fun K=>[(35,kv K)]) (fun dn cz w' r'=>w=w'/\rest=r'/\cz=dn.flatMap iK) (mH rfl) (fun Z=>rfl) ⟨rfl,rfl,rfl⟩ (fun dn A r e cz w' r' u N1 R1 hN hR=> ?_) fun vs w' r' u=> ?_
 ·refine iX u fun q1 q2 q3=> ?_
  subst q1 q2 q3
  have hA:dK A:=by
   have:A∈[K,L]:=e▸List.mem_append_right dn (List.mem_cons_self ..)
   rcases cH.mp this with h|h
   ·exact h▸hK
   ·exact(eZ.mp h)▸hL
  refine gX (DJ _ hA) ?_
  have skip:iK A=[]->∀be,N1 be (heap w rest):=fun h be=>hN be _ _ ⟨rfl,rfl,by rw[List.flatMap_append,List.flatMap_singleton,h,lU]⟩
  match A with
  |[]=>exact skip rfl _
  |a::b::r=>exact skip rfl _
  |[a]=>exact hR (a / 2) _ _ ⟨rfl,rfl,by rw[List.flatMap_append];rfl⟩
 ·refine iX u fun q1 q2 q3=> ?_
  subst q1 q2 q3
  exact gA fun r' i x h=>g r' i x (by rw[h,List.flatMap_cons,List.flatMap_cons,List.flatMap_nil,lU])
end
section
variable{l:List Int}{d:Nat}{w:W}{rest:H}
theorem FU{op:List Nat}(h:op∈fG)(σ:H):bD σ (.str op) (.ak [.str [61,61],.str [33,61],.str [61,61,61],.str [33,61,61]])=some (decide (op∈EJ)):=by
 have:∀o∈fG,∀σ:H,bD σ (.str o) (.ak [.str [61,61],.str [33,61],.str [61,61,61],.str [33,61,61]])=some (decide (o∈EJ)):=by
  simp only[fG,By,qn,false_implies,implies_true,and_true]
  refine⟨?_,?_,?_,?_,?_,?_,?_,?_,?_⟩<;>exact fun σ=>rfl
 exact this op h σ
theorem kL{A B:az}{r:H}{i:Nat}(ha:Core A)(hb:Core B)(h:r[i]? =some (.list ((iK A++iK B).map wv)))(c x:Nat)(hc:c<17)(q:(c,x)∈Ud){b:Bool}(e:decide (A=[x]\/B=[x])=b):
  xH (heap w r) .cZ (wv c) (.ref (95+i))=some (.bool b):=by
 have hW:∀c∈iK A++iK B,c<17:=fun c hc=>(gj.mp hc).elim (zA ha.ok.len.1 c) (zA hb.ok.len.1 c)
 have wa:eS r (.ref (95+i)) (iK A++iK B):=.inr ⟨_,rfl,h⟩
 rw[<-e]
 refine rS ((wa.mem hW (uV hc).1).trans (congrArg some ?_))
 rw[iu,s9 hW hc,gj,zz ha q,zz hb q]
theorem xu{a b:Sd}{D B:Nat}{HH:HL}{L:jl}{op:List Nat}{nd:Nd}{kind:Nat}{xa bW:V}(Aa:l7 l a)(Ab:l7 l b)(hD:max (rd a) (rd b)<=D)(I:lM w)(S:Sz w B)(hB:B+bT a+bT b+9000<90000)(R:lQ w HH L)(ta:gM rest a)(tb:gM rest b)(oa:cy w.plain HH a)(ob:cy w.plain HH b)(ap:mK a b)
  (hs:op∈fG)(hn:rest[nd.r]? =some (cR kind xa bW nd)):
  Al w rest B (bT a+bT b+1000) (cg w.plain w.aj b (cg w.plain w.aj a HH).1).1 L ((cg w.plain w.aj a HH).2++(cg w.plain w.aj b (cg w.plain w.aj a HH).1).2++kC w.plain w.aj op nd.at_ (kindOf a) (kindOf b)) (.ak [kv (kindOf a),kv (kindOf b)])
   (bC (P l) (D+2) 1428 [.ref 94,.ak [.str op,.ak [],qH a,qH b,.ref (95+nd.r)]] (heap w rest)):=by
 have Iz:=vq a
 obtain⟨D,rfl⟩:∃D',D=D'+5:=⟨D - 5,(Jw hD Iz rfl)⟩
 intro M n k ρ g
 refine uX (PY l) fun N R' Z hR=> ?_
 refine Aa (D+6) w rest HH L B (acL (Jv hD) rfl) I S (ON hB rfl) R ta oa fun w1 r1 Be x1 bw Gi AZ c1 p1=> ?_
 refine Ab (D+6) w1 r1 _ _ (B+bT a) (acL (OQ hD) rfl) AZ Gi (fR hB) p1 (tb.pre x1) (by rw[bw.plain];exact ob.apart oa.sf ap) fun w2 r2 IB x2 bS zB rU c2 p2=> ?_
 rw[bw.plain,bw.aj]at c2 p2
 refine bR bS.ext fun c xx=> ?_
 have cc:=(c1.ext xx rU.T).append c2
 have st:=bw.trans bS
 rw[<-bU]at p2
 refine dw oa.qM fun ga na=> ?_
 refine dw ob.qM fun gb nb=> ?_
 refine MT ga.ok.len gb.ok.len fun r3 i x3 h3=> ?_
 have YI:=fK hn ((x1.trans x2).trans x3)
 have fm:∀w6 r6 cs6,r3<+:r6->cM w2 w6->Sz w6 (B+bT a+bT b+900)->lM w6->cL w6.af (kC w.plain w.aj op nd.at_ (kindOf a) (kindOf b)) cs6->lQ w6 (cg w.plain w.aj b (cg w.plain w.aj a HH).1).1 (jC cs6 (jC (Be++IB) L))->R' (.ak [kv (kindOf a),kv (kindOf b)]) (heap w6 r6):=fun w6 r6 cs6 x6 Ig sz6 Rg c6 p6=>
  bR Ig.ext fun c7 x7=>hR _ _ (g w6 r6 _ ((x1.trans (x2.trans x3)).trans x6) (st.trans Ig) (sz6.le (OP rfl)) Rg ((cc.ext x7 Rg.T).append c6) (by rw[bU];exact p6))
 have Dy:∀r6,r3<+:r6->kC w.plain w.aj op nd.at_ (kindOf a) (kindOf b)=[]->R' (.ak [kv (kindOf a),kv (kindOf b)]) (heap w2 r6):=fun r6 x6 e=>
  fm w2 r6 [] x6 (cM.refl _) (zB.le (iY)) rU (by rw[e];rfl) p2
 by_cases t1:kindOf a=[18]\/kindOf b=[18]
 ·exact gV (kL ga.toCore gb.toCore h3 9 18 (by decide) (by decide) (ez t1)) (Dy _ (List.prefix_refl _) (by unfold kC;rw[aI (by unfold m9;lia)]))
 refine gV (kL ga.toCore gb.toCore h3 9 18 (by decide) (by decide) (fH t1)) ?_
 by_cases t2:kindOf a=[24]\/kindOf b=[24]
 ·exact gV (kL ga.toCore gb.toCore h3 12 24 (by decide) (by decide) (ez t2)) (Dy _ (List.prefix_refl _) (by unfold kC;rw[aI (by unfold m9;lia)]))
 refine gV (kL ga.toCore gb.toCore h3 12 24 (by decide) (by decide) (fH t2)) ?_
 have nt:¬(m9 (kindOf a)\/m9 (kindOf b)):=by lia
 have sr:=zB.af
 by_cases ho:op∈EJ
 ·refine gV (rS ((FU hs _).trans (congrArg some (ez ho)))) ?_
  by_cases q1:kindOf a=[32]\/kindOf b=[32]
  ·exact gV (kL ga.toCore gb.toCore h3 16 32 (by decide) (by decide) (ez q1)) (Dy _ (List.prefix_refl _) (by unfold kC;rw[aG nt,aI ho,aI (by unfold quiet;lia)]))
  refine gV (kL ga.toCore gb.toCore h3 16 32 (by decide) (by decide) (fH q1)) ?_
  by_cases q2:kindOf a=[0]\/kindOf b=[0]
  ·exact gV (kL ga.toCore gb.toCore h3 0 0 (by decide) (by decide) (ez q2)) (Dy _ (List.prefix_refl _) (by unfold kC;rw[aG nt,aI ho,aI (by unfold quiet;lia)]))
  refine gV (kL ga.toCore gb.toCore h3 0 0 (by decide) (by decide) (fH q2)) ?_
  by_cases q3:kindOf a=[14]\/kindOf b=[14]
  ·exact gV (kL ga.toCore gb.toCore h3 7 14 (by decide) (by decide) (ez q3)) (Dy _ (List.prefix_refl _) (by unfold kC;rw[aG nt,aI ho,aI (by unfold quiet;lia)]))
  refine gV (kL ga.toCore gb.toCore h3 7 14 (by decide) (by decide) (fH q3)) ?_
  have nq:¬(quiet (kindOf a)\/quiet (kindOf b)):=by lia
  refine Ck ga.ok.len gb.ok.len fun r4 x4=> ?_
  cases hm:ji w2.plain (kindOf a) (kindOf b)with
  |true=>exact Dy _ x4 (by unfold kC;rw[aG nt,aI ho,aI (.inr (by rw[<-st.plain];exact hm))])
  |false=>
   refine gV ((bg (fK YI x4)).1) ?_
   refine nE ga.toCore rU.T (xZ sr hB rfl) fun n1 w3 r5 x5 y1 d1=> ?_
   have l1:=y1.len
   have mG:=rU.gr y1 (xZ sr hB rfl)
   refine gV (nN (jj mG.T d1)) ?_
   refine nE gb.toCore mG.T (GV l1 sr hB rfl) fun n2 w4 r6 x6 y2 d2=> ?_
   have qI:=mG.gr y2 (GV l1 sr hB rfl)
   refine gV (nN (jj qI.T d2)) ?_
   have d1:=d1.ext y2.ext qI.T
   have yy:=y1.trans y2
   refine sW (vs:=[tx n1,tx n2]) (args:=[.k (kindOf a),.k (kindOf b)]) (zB.gr yy) (Jr hB rfl) qI (p2.gr yy) (QA _ _ (jj qI.T d1) (jj qI.T d2)) ⟨_,_,rfl,⟨n1,d1,rfl⟩,_,_,rfl,⟨n2,d2,rfl⟩,rfl⟩ fun w7 r7 cs7 x7 st7 sz7 Nc cc7 p7=> ?_
   refine fm w7 r7 cs7 (x4.trans (x5.trans (x6.trans x7))) ((cM.gr yy).trans st7) (sz7.le (jD (lS rfl))) Nc ?_ p7
   unfold kC;rw[aG nt,aI ho,aG (by rw[<-st.plain,hm];exact fun h=>h.elim nq (by decide))];exact cc7
 ·refine gV (rS ((FU hs _).trans (congrArg some (fH ho)))) ?_
  refine pQ ga.ok gb.ok rU.aj fun r4 x4=> ?_
  cases hm:gf w2.plain w2.aj (kindOf a) (kindOf b)with
  |true=>exact Dy _ x4 (by unfold kC;rw[aG nt,aG ho,aI (by rw[<-st.plain,<-st.aj];exact hm)])
  |false=>
   refine Lf (mQ:=[(47,.ref 1)]) fun R1 NL=> ?_
   refine uR ga.ok.len (jd ga.ok.ir rfl) fun r5 x5=> ?_
   refine nE ga.ir rU.T (xZ sr hB rfl) fun n1 w3 r6 x6 y1 d1=> ?_
   have l1:=y1.len
   have mG:=rU.gr y1 (xZ sr hB rfl)
   refine gV (nN (jj mG.T d1)) (NL _ _ fun R2 NK=> ?_)
   refine uR gb.ok.len (jd gb.ok.ir rfl) fun r7 x7=> ?_
   refine nE gb.ir mG.T (GV l1 sr hB rfl) fun n2 w4 r8 x8 y2 d2=> ?_
   have qI:=mG.gr y2 (GV l1 sr hB rfl)
   refine gV (nN (jj qI.T d2)) (NK _ _ (gA fun r9 j x9 h9=> ?_))
   have d1:=d1.ext y2.ext qI.T
   have yy:=y1.trans y2
   have xx:=x4.trans (x5.trans (x6.trans (x7.trans (x8.trans x9))))
   refine gV ((bg (fK YI xx)).1) (gV (lF h9 (mH rfl) rfl) (gV (lF h9 (mH rfl) rfl) ?_))
   refine sW (vs:=[.str op,tx n1,tx n2]) (args:=[.s op,.k (i7 (kindOf a)),.k (i7 (kindOf b))]) (zB.gr yy) (Jr hB rfl) qI (p2.gr yy) (Qz _ _ hs (jj qI.T d1) (jj qI.T d2)) ⟨_,_,rfl,rfl,_,_,rfl,⟨n1,d1,rfl⟩,_,_,rfl,⟨n2,d2,rfl⟩,rfl⟩ fun w7 r7 cs7 x7 st7 sz7 Nc cc7 p7=> ?_
   refine fm w7 r7 cs7 (xx.trans x7) ((cM.gr yy).trans st7) (sz7.le (jD (lS rfl))) Nc ?_ p7
   unfold kC;rw[aG nt,aG ho,aG (by rw[<-st.plain,<-st.aj,hm];decide)];exact cc7
end
section
variable{l:List Int}{d:Nat}{w:W}{rest:H}
theorem uW(s:Sd)(σ:H):item σ (qH s) (.int 4)=some (.ref (95+s.nd.r)):=by cases s<;>(rfl)
noncomputable def V2:Sd->V
 | .leaf _ K=>kv K
 | .lit _ c=>kv (kZ c)
 | .jk _ _ _ _=>.ak []
theorem ae1(s:Sd)(σ:H):item σ (qH s) (.int 1)=some (V2 s):=by cases s<;>(rfl)
theorem yH{s:Sd}{K:az}(ta:gM rest s)(hz:ay s.nd.bN w.cK=some K):bC (P l) (d+1) 1435 [.ref 94,qH s] (heap w rest)=some (kv K,heap w rest):=by
 refine tQ ta.node fun kind a bW hn=> ?_
 have m:=vY (w:=w) (rest:=rest) s.nd.bN
 rw[hz]at m
 refine xT (AF l) fun N R Z hR=>gV (uW s _) (gV (ae1 s _) (gV (bg hn).2.1 ?_))
 apply gV (rS m)
 refine gV (bg hn).2.1 ?_
 apply gV (zd hz)
 exact hR
noncomputable def BQ:List St:=[.ifs (.ex (.bF .gt (.aq (.ah 87) 46) (.cst (.int 0)))) [.aQ (.sub (.bO (.ah 99) (.cst (.str [104,101,108,100]))) (.aq (.ah 87) 46)) (.ah 35),.expr (.rV (.bO (.ah 99) (.cst (.str [116,114,97,105,108]))) (.ak [.cst (.int 0),.aq (.ah 87) 46]))] [],.ret (.ah 35)]
theorem FG{n:Nat}{N:aO->H->Prop}{R1:V->H->Prop}{K:az}{ρ:aO}{nd:Nd}{kind B:Nat}{xa bW:V}{HH:HL}{L:jl}(hn:rest[nd.r]? =some (cR kind xa bW nd))(h35:ay 35 ρ=some (kv K))(h87:ay 87 ρ=some (.ref (95+nd.r)))(TQ:ay 99 ρ=some (.ref 94))(S:Sz w B)(hB:B<89000)(I:lM w)(R:lQ w HH L)
  (g:∀w' cs,cM w w'->Sz w' (B+1)->lM w'->cL w'.af (if nd.bN=0 then []else [.tr nd.bN]) cs->lQ w' (if nd.bN=0 then HH else eX nd.bN K HH) (jC cs L)->R1 (kv K) (heap w' rest)):go (n+100) ⟨l,d,N,R1⟩ (.s BQ []) ρ (heap w rest):=by
 refine gV h87 (gV (bg hn).2.1 ?_)
 by_cases q:nd.bN=0
 ·rw[aI q,aI q]at g
  exact gF (fH (by show¬((nd.bN:Int)>0);exact(acI q))) (gV h35 (g w [] (cM.refl w) (S.le (iY)) I rfl R))
 ·rw[aG q,aG q]at g
  refine gT (ez (by show(nd.bN:Int)>0;exact(VI q))) (gV h35 (gV TQ (gV h87 (gV (bg hn).2.1 (gH (wO (by have:=S.cK;unfold aJ;exact(iG this (jd hB rfl)))) (gV TQ (gV h87 (gV (bg hn).2.1 ?_))))))))
  have pb:=iO (v:=.ak [.int 0,nv nd.bN]) (Tn {w with cK:=eX nd.bN K w.cK} rest) (by have:=S.iI;unfold aJ;exact(iG this (jd hB rfl)))
  refine gU pb (gV h35 (g {w with cK:=eX nd.bN K w.cK,iI:=w.iI++[.ak [.int 0,nv nd.bN]]} [.tr (.ak [.int 0,nv nd.bN])] ⟨rfl,0,lN.refl _⟩ ?_ ⟨I.T,⟨I.cB.intz,I.cB.jW⟩,I.aj,I.jp,I.G⟩ (cL.aE (c:=CE.tr (V.ak [V.int 0,nv nd.bN])) rfl) ⟨congrArg (eX _ _) R.cK,congrArg (·++_) R.bk,R.fJ,R.ef,R.key⟩))
  have:=uH (x:=nd.bN) (v:=K) (t:=w.cK)
  obtain⟨a1,a2,a3,a4,a5,a6,a7,a8,a9,qJ,rX⟩:=S
  exact⟨aZ a1,aZ a2,aZ a3,aZ a4,aZ a5,aZ a6,aZ a7,uZ this a8,aZ a9,aZ qJ,by rw[fV];exact jD rX⟩
theorem Ml(nd:Nd)(K:az):l7 l (.leaf nd K):=by
 intro D w rest HH L B hD I S hB R A O M n k ρ g
 obtain⟨d,rfl⟩:∃d,D=d+1:=⟨D - 1,by exact(DB hD rfl)⟩
 have hz:ay (Sd.leaf nd K).nd.bN w.cK=some K:=by rw[R.cK];exact O.1
 exact gC (yH A hz) (g w rest [] (List.prefix_refl _) (cM.refl w) S I rfl R)
theorem Cv{s:Sd}{D B:Nat}{HH:HL}{L:jl}(hD:1<=D)(I:lM w)(S:Sz w B)(R:lQ w HH L)(A:gM rest s)(O:cy w.plain HH s)(h:(ay s.nd.bN HH).isSome=true):
  Al w rest B (bT s) (cg w.plain w.aj s HH).1 L (cg w.plain w.aj s HH).2 (kv (kindOf s)) (bC (P l) D 1435 [.ref 94,qH s] (heap w rest)):=by
 obtain⟨d,rfl⟩:∃d,D=d+1:=⟨D - 1,(DB hD rfl)⟩
 refine bR (zW.mp h) fun K hK=> ?_
 have e:=zb O K hK
 subst e
 rw[wm h]
 exact fun g=>gC (yH A (by rw[R.cK];exact hK)) (g w rest [] (List.prefix_refl _) (cM.refl w) (S.le (iY)) I rfl R)
theorem Py(nd:Nd)(c:Nat):l7 l (.lit nd c):=by
 intro D w rest HH L B hD I S hB R A O
 rw[ae6]at hD
 rw[Ld]at hB
 cases hl:ay nd.bN HH with
 |some K=>exact Cv (acJ hD rfl) I S R A O (by show(ay nd.bN HH).isSome=true;rw[hl];rfl)
 |none=>
  intro M n k ρ g
  obtain⟨d,rfl⟩:∃d,D=d+1:=⟨D - 1,(DB hD rfl)⟩
  refine tQ A.node fun kind xa bW hn=> ?_
  have ev:cg w.plain w.aj (.lit nd c) HH=(eX nd.bN (kZ c) HH,[.tr nd.bN]):=aG (by rw[hl];decide)
  rw[ev]at g
  have m:=vY (w:=w) (rest:=rest) nd.bN
  rw[R.cK,hl]at m
  refine uX (AF l) fun N R1 Z hR=>gV (bg hn).2.1 ?_
  apply gV (rS m)
  have ke:=FG (l:=l) (d:=d) (n:=500) (N:=N) (R1:=R1) (nd:=nd) (K:=kZ c) (ρ:=[(35,kv (kZ c)),(87,.ref (95+nd.r)),(99,.ref 94),(256,qH (.lit nd c))]) hn rfl rfl rfl S (xX (fR hB) rfl) I R fun w' cs st sz iv cc rp=>by
   rw[aG O.1]at cc rp
   exact hR _ _ (g w' rest cs (List.prefix_refl _) st (sz.le (by exact(lS rfl))) iv cc rp)
  exact ke
end
section
variable{l:List Int}{d:Nat}{w:W}{rest:H}
noncomputable def LN:List St:=[.aQ (.nm 35) (.call 1435 [.ah 99,.ah 259]),.ifs (.ex (.bF .eq (.ah 35) (.ak [.ak [.cst (.str [97,110,121]),.cst (.int 0)]]))) [.expr (.rV (.bO (.ah 99) (.cst (.str [110,111,116,101,100]))) (.ak [.aC 112 (.int 1),.aq (.bO (.ah 259) (.cst (.int 4))) 10]))] [.ifs (.eW true [.ex (.bF .ne (.ah 35) (.ak [.ak [.cst (.str [101,114,114]),.cst (.int 0)]])),.not (.ex (.call 1383 [.ah 99,.ah 35,.cst (.str [78])]))]) [.expr (.call 1423 [.ah 99,.ah 3,.aq (.bO (.ah 259) (.cst (.int 4))) 10,.ak []])] []]]
theorem Fi{a:Sd}{n D B num:Nat}{HH:HL}{L:jl}{ρ:aO}{N:aO->H->Prop}{R1:V->H->Prop}(Aa:l7 l a)(hD:rd a<=D)(I:lM w)(S:Sz w B)(hB:B+bT a+8000<90000)(R:lQ w HH L)(ta:gM rest a)(oa:cy w.plain HH a)(TQ:ay 99 ρ=some (.ref 94))
  (g:∀w' r' cs,rest<+:r'->cM w w'->Sz w' (B+bT a+1)->lM w'->cL w'.af ((cg w.plain w.aj a HH).2++Bp w.plain w.aj (kindOf a) a.nd.at_ num) cs->lQ w' (cg w.plain w.aj a HH).1 (jC cs L)->N ((35,kv (kindOf a))::(3,nv num)::(259,qH a)::ρ) (heap w' r')):
  go (n+300) ⟨l,D,N,R1⟩ (.s LN []) ((3,nv num)::(259,qH a)::ρ) (heap w rest):=by
 have Iz:=vq a
 obtain⟨D',rfl⟩:∃D',D=D'+2:=⟨D - 2,(acH hD Iz rfl)⟩
 refine gV TQ (Aa (D'+2) w rest HH L B hD I S hB R ta oa fun w1 r1 Be x1 bw Gi AZ c1 p1=> ?_)
 refine dw oa.qM fun ga na=> ?_
 refine tQ (ta.pre x1).node fun kind xa bW hn=> ?_
 have q18:=E6 (heap w1 r1) ga.ok.len.1 (L:=[18]) (by decide)
 have q24:=E6 (heap w1 r1) ga.ok.len.1 (L:=[24]) (by decide)
 unfold Bp at g
 refine gV (Nv q18) ?_
 by_cases uS:kindOf a=[18]
 ·rw[aI uS]at g
  have pb:=iO (v:=.ak [.int 1,nv a.nd.at_]) (To w1 r1) (by have:=Gi.ef;exact(iG this (xX hB rfl)))
  refine gT (ez uS) (gV TQ (gV (uW a _) (gV (bg hn).1 (gU pb (g {w1 with ef:=w1.ef++[.ak [.int 1,nv a.nd.at_]]} r1 (Be++[.no (.ak [.int 1,nv a.nd.at_])]) x1 (bw.trans ⟨rfl,0,lN.refl _⟩) ?_ ⟨AZ.T,⟨AZ.cB.intz,AZ.cB.jW⟩,AZ.aj,AZ.jp,AZ.G⟩ (c1.append (cL.aE (a:=AE.no a.nd.at_) (c:=CE.no (V.ak [V.int 1,nv a.nd.at_])) rfl)) ?_)))))
  ·obtain⟨a1,a2,a3,a4,a5,a6,a7,a8,a9,qJ,rX⟩:=Gi
   constructor<;>dsimp only<;>(try rw[fV,yf])<;>lia
  ·rw[bU]
   exact⟨p1.cK,p1.bk,p1.fJ,congrArg (·++_) p1.ef,p1.key⟩
 ·rw[aG uS]at g
  refine gF (fH uS) (gV (Y6 q24) ?_)
  by_cases yp:kindOf a=[24]
  ·rw[aI (.inl yp),lU]at g
   exact NO (congrArg (fun b=>(!b)==true) (ez yp)) (gF (congrArg (!·) (ez yp)) (g w1 r1 Be x1 bw (Gi.le (iY)) AZ c1 p1))
  ·refine Rj (congrArg (fun b=>(!b)==true) (fH yp)) (gV TQ (rq (wc:=3) ga.ok.len (.inl rfl) AZ.aj fun r2 x2=> ?_))
   rw[bw.plain,bw.aj]
   generalize b8 w.plain w.aj (kindOf a) 3=q at g
   cases q with
   |true=>
    rw[aI (.inr rfl),lU]at g
    exact g w1 r2 Be (x1.trans x2) bw (Gi.le (iY)) AZ c1 p1
   |false=>
    rw[aG (fun h=>h.elim yp (by decide))]at g
    refine gV TQ (gV (uW a _) (gV (bg (fK hn x2)).1 ?_))
    refine sW (vs:=[]) (args:=[]) Gi (xX hB rfl) AZ p1 (QB _ _) rfl fun w3 r3 YQ x3 eV M9 mG Zy p3=> ?_
    exact bR eV.ext fun x ex=>g w3 r3 (Be++YQ) ((x1.trans x2).trans x3) (bw.trans eV) M9 mG ((c1.ext ex mG.T).append Zy) (by rw[bU];exact p3)
theorem V9{op:List Nat}(hs:op∈fG)(σ:H):eqv σ (.str op) (.str [45])=some (decide (op=[45]))/\eqv σ (.str op) (.str [108,101,97,102])=some false:=by
 have ok:∀o∈fG,∀σ:H,eqv σ (.str o) (.str [45])=some (decide (o=[45]))/\eqv σ (.str o) (.str [108,101,97,102])=some false:=by
  simp only[fG,By,qn,false_implies,implies_true,and_true]
  refine⟨?_,?_,?_,?_,?_,?_,?_,?_,?_⟩<;>exact fun σ=>⟨rfl,rfl⟩
 exact ok op hs σ
theorem PA{a b:Sd}(Aa:l7 l a)(Ab:l7 l b)(nd:Nd)(op:List Nat):l7 l (.jk nd op a b):=by
 intro D w rest HH L B hD I S hB R A O
 rw[Le]at hB
 have Iz:=vq a
 cases hl:ay nd.bN HH with
 |some K=>
  intro M n k ρ g
  exact Cv (acJ hD rfl) I S R A O (by show(ay nd.bN HH).isSome=true;rw[hl];rfl) g
 |none=>
  intro M n k ρ g
  obtain⟨d,rfl⟩:∃d,D=d+4:=⟨D - 4,(ahu hD Iz rfl)⟩
  refine iA A fun hs u1 ta tb=> ?_
  refine aD u1 fun q hn hq=> ?_
  refine ju O fun h1 h0 oa ob ap Z=> ?_
  refine dw (V9 hs (heap w rest)) fun ok1 ok2=> ?_
  have ev:cg w.plain w.aj (.jk nd op a b) HH=(if nd.bN=0 then(cg w.plain w.aj b (cg w.plain w.aj a HH).1).1 else eX nd.bN (pC op) (cg w.plain w.aj b (cg w.plain w.aj a HH).1).1,sA w.plain w.aj op nd.at_ a b (cg w.plain w.aj a HH).2 (cg w.plain w.aj b (cg w.plain w.aj a HH).1).2++(if nd.bN=0 then []else [.tr nd.bN])):=by
   rw[rA,aG (by rw[hl];decide)]
   by_cases hz:nd.bN=0
   ·rw[aI hz,aI hz,aI hz,lU]
   ·rw[aG hz,aG hz,aG hz]
  rw[ev]at g
  have m:=vY (w:=w) (rest:=rest) nd.bN
  rw[R.cK,hl]at m
  refine uX (AF l) fun N R1 Z hR=>gV (bg hn).2.1 ?_
  apply gV (rS m)
  have next:∀(n:Nat) (xD:aO) w2 r2 cs,ay 35 xD=some (kv (pC op))->ay 87 xD=some (.ref (95+nd.r))->ay 99 xD=some (.ref 94)->rest<+:r2->cM w w2->Sz w2 (B+(bT a+bT b+1100))->lM w2->cL w2.af (sA w.plain w.aj op nd.at_ a b (cg w.plain w.aj a HH).2 (cg w.plain w.aj b (cg w.plain w.aj a HH).1).2) cs->lQ w2 (cg w.plain w.aj b (cg w.plain w.aj a HH).1).1 (jC cs L)->go (n+100) ⟨l,d+3,N,R1⟩ (.s BQ []) xD (heap w2 r2):=fun n xD w2 r2 cs NA Zi pU x2 bS zB rU Rl p2=>
   FG (nd:=nd) (fK hn x2) NA Zi pU zB (acC hB rfl) rU p2 fun w3 YQ eV M9 mG Zy p3=>bR eV.ext fun x ex=>
    hR _ _ (g w3 r2 (cs++YQ) x2 (bS.trans eV) (M9.le (by exact(acD rfl))) mG ((Rl.ext ex mG.T).append Zy) (by rw[bU];exact p3))
  refine gV (Nv ok1) ?_
  by_cases hm:op=[45]
  ·have er:pC op=[6]:=aI hm
   refine gT (ez hm) (Nk (b:=[(259,qH a),(3,nv 2362)]) rfl rfl fun N1 h1=> ?_)
   refine Fi (n:=600) (num:=2362) Aa (aht hD rfl) I S (ahl hB rfl) R ta oa rfl fun w1 r1 Be x1 bw Gi AZ cc1 p1=> ?_
   refine h1 _ _ (Nk (b:=[(259,qH b),(3,nv 2363)]) rfl rfl fun N2 h2=> ?_)
   have Y5:cy w1.plain (cg w.plain w.aj a HH).1 b:=by rw[bw.plain];exact ob.apart oa.sf ap
   refine Fi (n:=600) (num:=2363) Ab (ahs hD rfl) AZ Gi (ahk hB rfl) p1 (tb.pre x1) Y5 rfl fun w2 r2 IB x2 bS zB rU Rl p2=> ?_
   rw[bw.plain,bw.aj]at Rl p2
   refine bR bS.ext fun x ex=>h2 _ _ (YL rfl ?_)
   exact next 500 [(35,kv [6]),(35,kv (kindOf b)),(3,nv 2363),(259,qH b),(35,kv (kindOf a)),(3,nv 2362),(259,qH a),(35,.ak []),(87,.ref (95+nd.r)),(99,.ref 94),(256,qH (.jk nd op a b))] w2 r2 (Be++IB) (by rw[er];rfl) rfl rfl (x1.trans x2) (bw.trans bS) (zB.le (acE rfl)) rU (by unfold sA;rw[aI hm];exact(cc1.ext ex rU.T).append Rl) (by rw[bU];exact p2)
  ·have er:pC op=[2,12]:=aG hm
   refine gF (fH hm) (gV (Y6 ok2) ?_)
   refine xu (D:=d+1) Aa Ab (VJ hD rfl) I S (OO hB rfl) R ta tb oa ob ap hs hn fun w2 r2 cs x2 bS zB rU Rl p2=> ?_
   exact next 500 [(35,kv [2,12]),(35,.ak []),(87,.ref (95+nd.r)),(99,.ref 94),(256,qH (.jk nd op a b))] w2 r2 cs (by rw[er];rfl) rfl rfl x2 bS (zB.le (Js rfl)) rU (by unfold sA;rw[aG hm];exact Rl) p2
theorem rm(l:List Int):∀s:Sd,l7 l s
 | .leaf nd K=>Ml nd K
 | .lit nd c=>Py nd c
 | .jk nd op a b=>PA (rm l a) (rm l b) nd op
end
section
variable{l:List Int}{d:Nat}{w:W}{rest:H}
theorem L3{kind a bW p:V}:bC (P l) (d+1) 415 [.ref (95+rest.length),kind,a,bW,.int 0,p] (heap w (rest++[.bE 418 []]))=some (.none,heap w (rest++[.bE 418 [(35,kind),(83,a),(84,bW),(85,.int 0),(10,p),(46,.int 0)]])):=
 YT (WR l) rfl fun N R hN Z=>gH (eA (mH rfl) rfl) (gH (eA (mH rfl) rfl) (gH (eA (mH rfl) rfl) (gH (eA (mH rfl) rfl) (gH (eA (mH rfl) rfl) (gH (eA (mH rfl) rfl) (hN rfl _))))))
theorem G8{kind a bW p:V}:bC (P l) (d+2) 429 [kind,a,bW,p] (heap w rest)=some (.ref (95+rest.length),heap w (rest++[.bE 418 [(35,kind),(83,a),(84,bW),(85,.int 0),(10,p),(46,.int 0)]])):=
 aci (WQ l) fun N R Z hR=>aap (f:=415) rfl L3 hR
theorem Ht(n:Nat):dD (heap w rest) (.ref 94) (.str [112,108,97,99,101]) (nv n)=some (heap {w with aA:=n} rest):=rfl
theorem tB{kind:Nat}{a bW:V}{own:Bool}:bC (P l) (d+3) 1395 [.ref 94,nv kind,a,bW,.bool own] (heap w rest)=
  some (.ref (95+rest.length),heap {w with aA:=w.aA+1} (rest++[cR kind a bW ⟨rest.length,if own then w.aA+1 else 0,w.aA+1⟩])):=by
 refine ach (P5 l) fun N R Z hR=> ?_
 apply gH (Ht (w.aA+1))
 refine gC G8 ?_
 have st:∀own:Nat,_:=fun own=>yK (l:=l) (w:={w with aA:=w.aA+1}) (g:=rest.length) (a:=46) (v:=nv own) (b6 (rest:=rest) (o:=.bE 418 [(35,nv kind),(83,a),(84,bW),(85,.int 0),(10,nv (w.aA+1)),(46,.int 0)])) (mH rfl) rfl
 have st:=fun own=>(st own).trans (congrArg (fun r=>some (heap _ r)) jM)
 cases own with
 |true=>exact gH (st (w.aA+1)) hR
 |false=>exact gH (st 0) hR
theorem Az{M:Ma}{n:Nat}{k:List Fr}{ρ:aO}{kind:Nat}{a bW:V}{own:Bool}(g:∀(nd:Nd) r',rest<+:r'->nd.bN=(if own then w.aA+1 else 0)->r'[nd.r]? =some (cR kind a bW nd)->Rt M n k ρ (.ref (95+nd.r)) (heap {w with aA:=w.aA+1} r')):
  Cl M n k ρ (bC (P l) (d+3) 1395 [.ref 94,nv kind,a,bW,.bool own] (heap w rest)):=gC tB (g ⟨rest.length,_,_⟩ _ bx rfl b6)
theorem H9{W:List Nat}{f:Nat}(hf:f<2)(hW:2∉W):4∉dI W f:=by
 have:∀(xs:List Nat) (cz:az),(∀c∈xs,c∈W)->4∉cz->4∉xs.foldl (cO W f) cz:=by
  intro xs
  induction xs with
  |nil=>intro cz _ h;exact h
  |cons x xs ih=>
   intro cz hx h
   refine ih _ (fun c hc=>hx c (by simp[hc])) ?_
   unfold cO
   split
   ·exact h
   ·intro q
    rcases gj.mp q with q|q
    ·exact h q
    ·have q:=eZ.mp q
     have hn:ff W f x<2:=by unfold ff;split<;>lia
     have:x=2:=by lia
     exact hW (this▸hx x (by simp))
 exact this _ [] (fun c hc=>o8 hc) (by simp)
noncomputable def vG:List V:=[.str [78],.str [83],.str [84],.str [70],.str [48],.str [85],.str [86],.str [79],.str [76],.str [110,48],.str [110,49],.str [115,97],.str [101,65],.str [101,66]]
theorem G2:vG=drawn.map wv:=rfl
theorem Fd{k:Nat}(h:k<14)(σ:H):∃c∈drawn,c<17/\item σ (.ak vG) (nv k)=some (wv c):=by
 have hl:k<drawn.length:=h
 refine⟨drawn[k],Bv hl,?_,?_⟩
 ·exact(show∀c∈drawn,c<17 by decide) _ (Bv hl)
 ·have:item σ (.ak vG) (nv k)=vG[k]? :=eu σ vG k (by decide)
  rw[this,G2,u9,pJ hl];rfl
theorem adI{a f:Nat}(ha:a∈drawn)(hf:f<2):gG (dI [a] f):=by
 have:=dG.mp Wq a ha
 rw[dX]at this
 match f,hf with
 |0,_=>exact fy this.1
 |1,_=>exact fy this.2
theorem adH{a b f:Nat}(ha:a∈drawn)(hb:b∈drawn)(hf:f<2):gG (dI [a,b] f):=by
 have:=dG.mp (dG.mp Wp a ha) b hb
 rw[dX]at this
 match f,hf with
 |0,_=>exact fy this.1
 |1,_=>exact fy this.2
theorem adG{a b c f:Nat}(ha:a∈drawn)(hb:b∈drawn)(hc:c∈[0,7,8])(hf:f<2):gG (dI [a,b,c] f):=by
 have:=dG.mp (dG.mp (dG.mp Wo a ha) b hb) c hc
 rw[dX]at this
 match f,hf with
 |0,_=>exact fy this.1
 |1,_=>exact fy this.2
noncomputable def Drawn(W:List Nat):Prop:=(∃a,W=[a]/\a∈drawn)\/(∃a b,W=[a,b]/\a∈drawn/\b∈drawn)\/∃a b c,W=[a,b,c]/\a∈drawn/\b∈drawn/\c∈[0,7,8]
theorem Drawn.qM{W:List Nat}(h:Drawn W){f:Nat}(hf:f<2):gG (dI W f):=by
 rcases h with⟨a,rfl,ha⟩|⟨a,b,rfl,ha,hb⟩|⟨a,b,c,rfl,ha,hb,hc⟩
 ·exact adI ha hf
 ·exact adH ha hb hf
 ·exact adG ha hb hc hf
theorem nT:∀c∈drawn,c<17:=by decide
theorem Drawn.lt{W:List Nat}(h:Drawn W):(∀c∈W,c<17)/\W.length<60:=by
 rcases h with⟨a,rfl,ha⟩|⟨a,b,rfl,ha,hb⟩|⟨a,b,c,rfl,ha,hb,hc⟩
 ·exact⟨fun x hx=>by rw[eZ.mp hx];exact nT a ha,by simp⟩
 ·refine⟨fun x hx=> ?_,by simp⟩
  simp only[cH,qn,or_false]at hx
  rcases hx with rfl|rfl
  ·exact nT _ ha
  ·exact nT _ hb
 ·refine⟨fun x hx=> ?_,by simp⟩
  simp only[cH,qn,or_false]at hx hc
  rcases hx with rfl|rfl|rfl
  ·exact nT _ ha
  ·exact nT _ hb
  ·lia
noncomputable def qT(c:Nat):Nat:=if c=2 then 4 else c
theorem Drawn.swap{W:List Nat}(h:Drawn W):Drawn (W.map qT)/\2∉W.map qT:=by
 have sw:∀a∈drawn,qT a∈drawn:=by decide
 have s3:∀c∈[0,7,8],qT c∈[0,7,8]:=by decide
 refine⟨?_,fun q=> ?_⟩
 ·rcases h with⟨a,rfl,ha⟩|⟨a,b,rfl,ha,hb⟩|⟨a,b,c,rfl,ha,hb,hc⟩
  ·exact .inl ⟨_,rfl,sw a ha⟩
  ·exact .inr (.inl ⟨_,_,rfl,sw a ha,sw b hb⟩)
  ·exact .inr (.inr ⟨_,_,_,rfl,sw a ha,sw b hb,s3 c hc⟩)
 ·refine aD (eY.mp q) fun c Z hc=> ?_
  unfold qT at hc
  split at hc<;>lia
end
section
variable{l:List Int}{d:Nat}{w:W}{rest:H}
noncomputable def GA:List (List Nat):=[[9],[12],[16],[]]
theorem Hf:∀W∈GA,gG (dI W 0)/\4∉dI W 0/\(∀c∈W,c<17)/\W.length<60:=by
 have:=Mm
 simp only[dX]at this
 obtain⟨u1,_⟩:=this;obtain⟨u2,_⟩:=u1;obtain⟨u3,_⟩:=u2;obtain⟨u4,h4⟩:=u3;obtain⟨u5,h3⟩:=u4;obtain⟨h1,h2⟩:=u5
 simp only[GA,By,qn,false_implies,implies_true,and_true]
 exact⟨⟨fy h1,by decide+kernel,by decide,by decide⟩,⟨fy h2,by decide+kernel,by decide,by decide⟩,⟨fy h3,by decide+kernel,by decide,by decide⟩,⟨fy h4,by decide+kernel,by decide,by decide⟩⟩
theorem O6{n:Nat}{k:List Fr}{ρ:aO}{N:aO->H->Prop}{R:V->H->Prop}{W:List Nat}{p:Nat}(hW:∀c∈W,c<17)(hl:W.length<60)(hp:rest[p]? =some (.list (W.map wv)))
  (g:∀r' i,rest<+:r'->r'[i]? =some (.list ((W.map qT).map wv))->Rt ⟨l,d,N,R⟩ n k ρ (.ref (95+i)) (heap w r')):
  oM ⟨l,d,N,R⟩ n (.ite (.ex (.bF .eq (.ah 237) (.cst (.str [76])))) (.cst (.str [79])) (.ah 237)) [237] [] [] k ρ (heap w rest) (.ref (95+p)) (ao (heap w rest) (.ref (95+p))):=by
 refine Ag (f:=wv) (fo:=wv) (ys:=W) (fun dn cz w' r'=>w=w'/\rest=r'/\cz=dn.map qT) (by exact(jd hl rfl)) (fun dn cz w' r' u=>by rw[<-u.2.1];exact k7 hp) ⟨rfl,rfl,rfl⟩ (fun dn x r e cz w' r' u N1 R1 hN hR=> ?_) fun vs w' r' u=> ?_
 ·refine iX u fun q1 q2 q3=> ?_
  subst q1 q2 q3
  have hx:=hW x (by rw[e];simp)
  have eq:eqv (heap w rest) (wv x) (.str [76])=some (decide (x=2)):=(Lb (b:=wv 2) _ (uV hx).1 (uV (by decide)).1).trans (congrArg some (iu.mpr ⟨TY hx (by decide),fun e=>by rw[e]⟩))
  refine gV (Nv eq) ?_
  have hR:=hR (qT x) w rest ⟨rfl,rfl,by rw[List.map_append];rfl⟩
  unfold qT at hR
  by_cases q:x=2
  ·rw[aI q]at hR
   rw[ez q]
   exact hR
  ·rw[aG q]at hR
   rw[fH q]
   exact hR
 ·refine iX u fun q1 q2 q3=> ?_
  subst q1 q2 q3
  exact gA g
theorem acW{k:Nat}(h:k<12)(h8:8<k):∃c∈[0,7,8],∀σ,item σ (.ak [.str [48],.str [85],.str [86]]) (.int ((k:Int) - 9))=some (wv c):=by
 have:k=9\/k=10\/k=11:=by lia
 rcases this with h|h|h
 ·exact⟨0,by decide,fun σ=>by rw[h];exact eu σ _ 0 (by decide)⟩
 ·exact⟨7,by decide,fun σ=>by rw[h];exact eu σ _ 1 (by decide)⟩
 ·exact⟨8,by decide,fun σ=>by rw[h];exact eu σ _ 2 (by decide)⟩
theorem qq.at(N:qq w)(n:Nat):qq {w with at_:=n}:=⟨N.intz,N.jW⟩
theorem PL{M:Ma}{n:Nat}{k:List Fr}{ρ:aO}(Nw:qq w)(g:∀K m r',rest<+:r'->gG K->NT w.plain K->Rt M n k ρ (kv K) (heap {w with at_:=m} r')):Cl M n k ρ (bC (P l) (d+2) 1347 [.ref 94] (heap w rest)):=by
 refine DA (Qe l) fun N R Z hR=>fu (n:=12) Nw ((gP rfl)) fun k hk=> ?_
 have N1:=Nw.at (w.at_+1)
 by_cases h3:k<3
 ·refine gT (ez (by show(k:Int)<3;lia)) (fu (n:=4) N1 ((gP rfl)) fun k2 hk2=> ?_)
  have hl:k2<GA.length:=hk2
  refine iA (Hf _ (Bv hl)) fun g1 g2 g3 g4=> ?_
  have it:∀σ,item σ (.ak [.ak [.str [97,110,121]],.ak [.str [101,114,114]],.ak [.str [117,110,107,110,111,119,110]],.ak []]) (nv k2)=some (.ak (GA[k2].map wv)):=fun σ=>by
   have:item σ (.ak (GA.map fun W=>.ak (W.map wv))) (nv k2)=(GA.map fun W=>V.ak (W.map wv))[k2]? :=eu σ _ k2 ((gP rfl))
   rw[u9,pJ hl]at this
   exact this
  exact gV (it _) (nV (f:=0) (.inl rfl) g3 g4 (by decide) fun r' x=>hR _ _ (g _ _ r' x g1 fun Z=>g2))
 refine gF (fH (by show¬(k:Int)<3;lia)) (fu (n:=14) N1 (by decide) fun ka hka=> ?_)
 refine dF (Fd hka (heap {w with at_:=w.at_+1+1} rest)) fun a ha a17 ita=>gV ita (IA ?_)
 have next:∀n W m,Drawn W->go (n+500) ⟨l,d+1,N,R⟩ (.s (E3.body.drop 5) []) [(101,.ref (95+rest.length)),(239,nv k),(99,.ref 94)] (heap {w with at_:=m} (rest++[.list (W.map wv)])):=fun n W m hD=>by
  refine dw hD.lt fun Gh w60=> ?_
  have N3:=Nw.at m
  by_cases hp:w.plain=true
  ·refine dw hD.swap fun hD2 n2=> ?_
   apply gT hp
   refine O6 Gh w60 b6 fun r1 i x1 h1=>fu (n:=2) N3 (by decide) fun f hf=> ?_
   exact nV (.inr ⟨_,rfl,h1⟩) hD2.lt.1 hD2.lt.2 hf fun r' x=>hR _ _ (g _ _ r' (bx.trans (x1.trans x)) (hD2.qM hf) fun Z=>H9 hf n2)
  ·have hp:=Bool.eq_false_iff.mpr hp
   apply gF hp
   refine fu (n:=2) N3 (by decide) fun f hf=> ?_
   exact nV (.inr ⟨_,rfl,b6⟩) Gh w60 hf fun r' x=>hR _ _ (g _ _ r' (bx.trans x) (hD.qM hf) fun q=>nomatch hp.symm.trans q)
 by_cases h5:5<k
 ·refine gT (ez (by show(k:Int)>5;lia)) (gJ (nQ b6) (fu (n:=14) (Nw.at _) (by decide) fun kb hkb=> ?_))
  refine dF (Fd hkb (heap {w with at_:=w.at_+1+1+1} (rest++[.list ([a].map wv)]))) fun b hb b17 itb=>gV itb ?_
  have pr:=sZ (w:={w with at_:=w.at_+1+1+1}) (v:=wv b) (b6 (rest:=rest) (o:=.list ([a].map wv))) (mH rfl)
  rw[jM]at pr
  refine gU pr ?_
  by_cases h8:8<k
  ·refine aD (acW hk h8) fun c hc itc=> ?_
   have AX:=sZ (w:={w with at_:=w.at_+1+1+1}) (v:=wv c) (b6 (rest:=rest) (o:=.list ([a,b].map wv))) (mH rfl)
   rw[jM]at AX
   refine gT (ez (by show(k:Int)>8;lia)) (gJ (nQ b6) (gV (itc _) (gU AX ?_)))
   exact next _ [a,b,c] _ (.inr (.inr ⟨a,b,c,rfl,ha,hb,hc⟩))
  ·refine gF (fH (by show¬(k:Int)>8;lia)) ?_
   exact(next _ [a,b] _ (.inr (.inl ⟨a,b,rfl,ha,hb⟩)))
 ·refine gF (fH (by show¬(k:Int)>5;lia)) (gF (fH (by show¬(k:Int)>8;lia)) ?_)
  exact next _ [a] _ (.inl ⟨a,rfl,ha⟩)
end
section
variable{l:List Int}{d:Nat}{w:W}{rest:H}
theorem gq{k v:V}:∀(es:List (V×V)) (k':V),aT k' (dM k v es)=if k'=k then some v else aT k' es
 |[],k'=>rfl
 |(y,u)::es,k'=>by
  rw[l5]
  by_cases e:k=y
  ·subst e
   rw[aI rfl,eO,eO]
   by_cases q:k'=k<;>simp[q]
  ·rw[aG e,eO,eO,gq es]
   by_cases q:k'=y
   ·subst q
    have:¬k'=k:=fun z=>e z.symm
    simp[this]
   ·simp[q]
theorem KW{K L:az}{a b:Nat}(hK:∀x∈K,x<34)(hL:∀x∈L,x<34)(ha:a<17)(hb:b<17)(h:V.ak [kv K,wv a]=V.ak [kv L,wv b]):K=L/\a=b:=by
 simp only[V.ak.injEq,ya,and_true]at h
 exact⟨vL hK hL h.1,TY ha hb h.2⟩
theorem Wd{n m t s:Nat}(h:V.ak [nv n,nv t]=V.ak [nv m,nv s]):n=m/\t=s:=by
 simp only[V.ak.injEq,ya,and_true]at h
 exact⟨dY h.1,dY h.2⟩
theorem Nq.eX{af:List V}{given aj:List (V×V)}{n t wc:Nat}{K:az}{y:Bool}{u:V}(T:dj af)(g:Nq af given aj)(D:fF af n K)(hK:Core K)(hp:(wc=3/\t=7)\/(wc=5/\t=6)):
  Nq af (dM (.ak [nv n,nv t]) (.ak [.bool y,u]) given) (dM (.ak [kv K,wv wc]) (.bool y) aj):=by
 have Gh:wc<17:=(acy hp)
 refine⟨fun k v h=> ?_,fun L Nr v hL h=> ?_⟩
 ·rw[gq]at h
  by_cases e:k=.ak [nv n,nv t]
  ·rw[aI e]at h;refine xF h ?_
   exact⟨n,K,y,u,wc,t,e,rfl,D,hK,hp,by rw[gq,aI rfl]⟩
  ·rw[aG e]at h
   refine pS (g.fst k v h) fun n0 K0 b0 u0 wc0 t0 h1 h2 h3 h4 h5 h6=> ?_
   refine⟨n0,K0,b0,u0,wc0,t0,h1,h2,h3,h4,h5,?_⟩
   rw[gq,aG,h6]
   intro q
   refine dw (KW h4.ok.len.1 hK.ok.len.1 (acy h5) Gh q) fun q1 q2=> ?_
   subst q1;subst q2
   have:n0=n:=h3.num T D fun Z=>Iff.rfl
   have:t0=t:=by lia
   subst this;subst n
   exact e h1
 ·rw[gq]at h
  by_cases e:V.ak [kv L,wv Nr]=.ak [kv K,wv wc]
  ·rw[aI e]at h;refine xF h ?_
   have q1:L=K:=by
    simp only[V.ak.injEq,ya]at e
    exact vL hL.ok.len.1 hK.ok.len.1 e.1
   have q2:Nr=wc:=by
    by_cases q:Nr<17
    ·exact(KW hL.ok.len.1 hK.ok.len.1 q Gh e).2
    ·exfalso
     simp only[V.ak.injEq,ya,and_true]at e
     have e:=e.2
     have z:wv Nr=.str []:=by unfold wv;rw[List.getElem?_eq_none (show JA.length<=Nr from by have:JA.length=17:=rfl;exact(dU (OR this) (acG q)))];rfl
     rw[z]at e
     have:=dG.mp (show((List.range 17).all fun c=>decide (V.str []≠wv c))=true by decide+kernel) wc (jt.mpr Gh)
     exact jx this e
   subst q1;subst q2
   exact⟨n,y,u,t,hp,rfl,D,by rw[gq,aI rfl]⟩
  ·rw[aG e]at h
   refine jz (g.snd L Nr v hL h) fun n0 b0 u0 t0 h1 h2 h3 h4=> ?_
   refine⟨n0,b0,u0,t0,h1,h2,h3,?_⟩
   rw[gq,aG,h4]
   intro q
   refine dw (Wd q) fun q1 q2=> ?_
   subst q1;subst q2
   have:L=K:=hL.eq hK (h3.set T D)
   subst this
   have:Nr=wc:=by lia
   subst this
   exact e rfl
theorem B4{α:Type}{x:Nat}{v:α}:∀{t:List (Nat×α)},((eX x v t).map (·.1))=if x∈t.map (·.1)then t.map (·.1)else t.map (·.1)++[x]
 |[]=>rfl
 |(y,u)::r=>by
  rw[yu]
  by_cases e:x=y
  ·subst e;simp
  ·rw[aG e,fT,B4,fT]
   by_cases q:x∈r.map (·.1)
   ·rw[aI q,aI (ye _ q)]
   ·rw[aG q,aG (fun h=>(cH.mp h).elim e q)];rfl
theorem DM{α:Type}{x:Nat}{v:α}{t:List (Nat×α)}(h:(t.map (·.1)).Nodup):((eX x v t).map (·.1)).Nodup:=by
 rw[B4]
 split
 ·exact h
 ·rename_i q
  rw[List.nodup_append]
  exact⟨h,by simp,fun a ha b hb e=>by rw[eZ.mp hb]at e;exact q (e▸ha)⟩
structure cV(w:W)(rest:H)(HH:HL)(L:jl)(B:Nat):Prop where
 iF:lM w
 sz:Sz w B
 bu:w.bu=0
 c:jc w rest HH L
 l:lQ w HH L
 pV:∀x K,ay x HH=some K->1<=x/\x<=w.aA
 nd:(HH.map (·.1)).Nodup
 gi:(∀v∈L.1,v.aS=true)/\∀v∈L.2.2,v.aS=true
structure nX(w w':W)(ac5:H)(HH m8:HL)(sd:Sd):Prop where
 plain:w'.plain=w.plain
 aA:w.aA<=w'.aA
 at_:gM ac5 sd
 ok:cy w.plain m8 sd
 pV:∀x∈iV sd,x=0\/(w.aA<x/\x<=w'.aA)
 old:∀x,x<=w.aA->ay x m8=ay x HH
 up:w'.aA<=w.aA+uy sd
theorem cV.at{HH:HL}{L:jl}{B p a:Nat}{r:H}(S:cV w rest HH L B)(h:w.aA<=p)(x:rest<+:r):cV {w with aA:=p,at_:=a} r HH L B:=by
 obtain⟨a1,a2,a3,a4,a5,a6,a7,a8,a9,qJ,rX⟩:=S.sz
 exact⟨⟨S.iF.T,⟨S.iF.cB.intz,S.iF.cB.jW⟩,S.iF.aj,S.iF.jp,S.iF.G⟩,⟨a1,a2,a3,a4,a5,a6,a7,a8,a9,qJ,rX⟩,S.bu,⟨S.c.aR,S.c.bk,S.c.cE,S.c.j6.pre x⟩,⟨S.l.cK,S.l.bk,S.l.fJ,S.l.ef,S.l.key⟩,fun y K e=>⟨(S.pV y K e).1,d9 (S.pV y K e).2 h⟩,S.nd,S.gi⟩
theorem cV.gr{HH:HL}{L:jl}{B c:Nat}{w':W}{r:H}(S:cV w rest HH L B)(x:Gr w w' c)(h:B+c<90000)(x2:rest<+:r):cV w' r HH L (B+c):=by
 have I:=S.iF.gr x (iG (jD S.sz.af) h)
 exact⟨I,S.sz.gr x,by rw[x.bu];exact S.bu,S.c.gr x I.T x2,S.l.gr x,by rw[show w'.aA=w.aA by rw[x.same]];exact S.pV,S.nd,S.gi⟩
theorem cV.eX{HH:HL}{L:jl}{B x n:Nat}{K:az}(S:cV w rest HH L B)(D:fF w.af n K)(G:gG K)(h:1<=x/\x<=w.aA):cV {w with aR:=eX x n w.aR,cK:=eX x K w.cK} rest (Mine.eX x K HH) L (B+1):=by
 have lt:=uH (x:=x) (v:=n) (t:=w.aR)
 have lh:=uH (x:=x) (v:=K) (t:=w.cK)
 refine⟨⟨S.iF.T,⟨S.iF.cB.intz,S.iF.cB.jW⟩,S.iF.aj,S.iF.jp,S.iF.G⟩,?_,S.bu,⟨S.c.aR.eX D G,S.c.bk,S.c.cE,S.c.j6⟩,⟨congrArg (Mine.eX x K) S.l.cK,S.l.bk,S.l.fJ,S.l.ef,S.l.key⟩,fun y K' hy=> ?_,DM S.nd,S.gi⟩
 ·obtain⟨a1,a2,a3,a4,a5,a6,a7,a8,a9,qJ,rX⟩:=S.sz
  exact⟨aZ a1,aZ a2,aZ a3,uZ lt a4,aZ a5,aZ a6,aZ a7,uZ lh a8,aZ a9,aZ qJ,aZ rX⟩
 ·rw[g9]at hy
  by_cases q:y=x
  ·rw[q];exact h
  ·rw[aG q]at hy
   exact S.pV y K' hy
noncomputable def Tw(w:W)(rest:H)(HH:HL)(L:jl)(B c D cs h:Nat)(r:Option (V×H)):Prop:=
 ∀{M:Ma} {n:Nat} {k:List Fr} {ρ:aO},(∀sd w' r' m8,rest<+:r'->cV w' r' m8 L (B+c)->nX w w' r' HH m8 sd->rd sd<=D->bT sd<=cs->uy sd<=h->Rt M n k ρ (qH sd) (heap w' r'))->Cl M n k ρ r
noncomputable def LB:List St:=[.aQ (.sub (.bO (.ah 99) (.cst (.str [116,101,108,108,115]))) (.ak [.ah 35,.ah 237])) (.ah 249),.aQ (.sub (.aq (.aq (.bO (.ah 99) (.cst (.str [99,120]))) 170) 95) (.ak [.ah 3,.ah 82])) (.ak [.ah 249,.list [.aC 250 (.int 10)]])]
theorem BV{m:Nat}{N:aO->H->Prop}{R:V->H->Prop}{K:az}{n t wc:Nat}{y:Bool}{ρ:aO}(hj:w.jp=false)(hK:∀a∈K,a<34)(hw:wc<17)(h1:w.given.length<aJ)(h2:w.aj.length<aJ)(NA:ay 35 ρ=some (kv K))(k3:ay 3 ρ=some (nv n))(pU:ay 99 ρ=some (.ref 94))
  (g:∀r' u,rest<+:r'->N ((249,.bool y)::(82,nv t)::(237,wv wc)::ρ) (heap {w with aj:=dM (.ak [kv K,wv wc]) (.bool y) w.aj,given:=dM (.ak [nv n,nv t]) (.ak [.bool y,u]) w.given} r')):
  go (m+300) ⟨l,d,N,R⟩ (.s LB []) ((249,.bool y)::(82,nv t)::(237,wv wc)::ρ) (heap w rest):=by
 refine gV pU (gV NA (gH (C8 (yR hK hw) h2) (gA fun r' i x Z=>gV pU (gV ?_ (gV k3 (gH (C9 rfl h1) (g r' _ x)))))))
 rw[hj];rfl
end
section
variable{l:List Int}{d:Nat}{w:W}{rest:H}
theorem Wj(σ:H)(k:Nat):bD σ (nv k) (.ak [.int 3,.int 5])=some (decide (k∈[3,5])):=Jh σ k [3,5]
theorem LA{m r:Nat}{N:aO->H->Prop}{R:V->H->Prop}{K:az}{n:Nat}{ρ:aO}{HH:HL}{L:jl}{B:Nat}(S:cV w rest HH L B)(hB:B+100<89000)(G:gG K)(D:fF w.af n K)(NA:ay 35 ρ=some (kv K))(k3:ay 3 ρ=some (nv n))(pU:ay 99 ρ=some (.ref 94))(Zi:ay 87 ρ=some (.ref r))
  (g:∀w' r',rest<+:r'->cV w' r' HH L (B+2)->w'.plain=w.plain->w'.aA=w.aA->R (.ak [.str [108,101,97,102],kv K,.none,.none,.ref r]) (heap w' r')):go (m+800) ⟨l,d+1,N,R⟩ (.s (EZ.body.drop 5) []) ρ (heap w rest):=by
 refine gV pU ?_
 obtain⟨a1,a2,a3,a4,a5,a6,a7,a8,a9,qJ,rX⟩:=S.sz
 by_cases hp:w.plain=true
 ·apply gF (congrArg (!·) hp)
  exact gV NA (gV Zi (g w rest (List.prefix_refl _) ⟨S.iF,S.sz.le (iY),S.bu,S.c,S.l,S.pV,S.nd,S.gi⟩ rfl rfl))
 have hp:=Bool.eq_false_iff.mpr hp
 have hj:w.jp=false:=S.iF.jp.trans hp
 apply gT (congrArg (!·) hp)
 refine gV pU (fu (n:=6) S.iF.cB ((gP rfl)) fun k hk=> ?_)
 by_cases h1:1<k
 ·refine gT (ez (by show(k:Int)>1;lia)) (gV (rS (Wj (heap {w with at_:=w.at_+1} rest) k)) (Nk (b:=[(237,wv 3),(82,nv 7),(249,.bool (decide (k∈[3,5])))]) rfl rfl fun N1 h1=> ?_))
  refine BV (m:=600) (t:=7) (wc:=3) (ρ:=(239,nv k)::ρ) hj G.ok.len.1 ((gP rfl)) (by unfold aJ;exact(iG a6 (xX hB rfl))) (by unfold aJ;exact(iG a7 (xX hB rfl))) NA k3 pU fun r1 u1 x1=>h1 _ _ (Nk (b:=[(237,wv 5),(82,nv 6),(249,.bool (decide ((k:Int)>3)))]) rfl rfl fun N2 h2=> ?_)
  have lg:=lC (k:=.ak [nv n,nv 7]) (v:=.ak [.bool (decide (k∈[3,5])),u1]) (es:=w.given)
  have lt:=lC (k:=.ak [kv K,wv 3]) (v:=.bool (decide (k∈[3,5]))) (es:=w.aj)
  refine BV (m:=600) (t:=6) (wc:=5) (ρ:=(249,.bool (decide (k∈[3,5])))::(82,nv 7)::(237,wv 3)::(239,nv k)::ρ) hj G.ok.len.1 ((gP rfl)) (by exact(OS lg (Jx a6 hB) rfl)) (by exact(OS lt (Jx a7 hB) rfl)) NA k3 pU fun r2 u2 x2=>h2 _ _ (YL rfl (gV NA (gV Zi (g _ r2 (x1.trans x2) ?_ rfl rfl))))
  have lg2:=lC (k:=.ak [nv n,nv 6]) (v:=.ak [.bool (decide ((k:Int)>3)),u2]) (es:=dM (.ak [nv n,nv 7]) (.ak [.bool (decide (k∈[3,5])),u1]) w.given)
  have lt2:=lC (k:=.ak [kv K,wv 5]) (v:=.bool (decide ((k:Int)>3))) (es:=dM (.ak [kv K,wv 3]) (.bool (decide (k∈[3,5]))) w.aj)
  refine⟨⟨S.iF.T,⟨S.iF.cB.intz,S.iF.cB.jW⟩,zk (zk S.iF.aj _ _) _ _,S.iF.jp,(S.iF.G.eX S.iF.T D G.toCore (.inl ⟨rfl,rfl⟩)).eX S.iF.T D G.toCore (.inr ⟨rfl,rfl⟩)⟩,?_,S.bu,⟨S.c.aR,S.c.bk,S.c.cE,S.c.j6.pre (x1.trans x2)⟩,⟨S.l.cK,S.l.bk,S.l.fJ,S.l.ef,S.l.key⟩,S.pV,S.nd,S.gi⟩
  exact⟨aZ a1,aZ a2,aZ a3,aZ a4,aZ a5,VL lg2 (uZ lg a6) rfl,VL lt2 (uZ lt a7) rfl,aZ a8,aZ a9,aZ qJ,aZ rX⟩
 ·refine gF (fH (by show¬(k:Int)>1;lia)) (gV NA (gV Zi (g _ rest (List.prefix_refl _) ?_ rfl rfl)))
  exact⟨⟨S.iF.T,⟨S.iF.cB.intz,S.iF.cB.jW⟩,S.iF.aj,S.iF.jp,S.iF.G⟩,⟨aZ a1,aZ a2,aZ a3,aZ a4,aZ a5,aZ a6,aZ a7,aZ a8,aZ a9,aZ qJ,aZ rX⟩,S.bu,⟨S.c.aR,S.c.bk,S.c.cE,S.c.j6⟩,⟨S.l.cK,S.l.bk,S.l.fJ,S.l.ef,S.l.key⟩,S.pV,S.nd,S.gi⟩
theorem tw{HH:HL}{L:jl}{B:Nat}(S:cV w rest HH L B)(hB:B+200<89000):Tw w rest HH L B 60 13 0 1 (bC (P l) (d+5) 1402 [.ref 94] (heap w rest)):=by
 intro M n k ρ g
 refine DA (P4 l) fun N R Z hR=>IA (gC tB (PL ⟨S.iF.cB.intz,S.iF.cB.jW⟩ fun K n2 r2 x2 G nL=> ?_))
 obtain⟨nd,NH⟩:∃nd:Nd,(⟨(rest++[Ob.list []]).length,w.aA+1,w.aA+1⟩:Nd)=nd:=⟨_,rfl⟩
 have bN:nd.bN=w.aA+1:=by rw[<-NH]
 have S1:cV {w with aA:=w.aA+1,at_:=n2} r2 HH L B:=S.at (lT _) (bx.trans (bx.trans x2))
 refine nE G.toCore S1.iF.T (by have:=S.sz.af;exact(VK this hB rfl)) fun m w3 r3 x3 y3 D3=> ?_
 have S3:=S1.gr y3 (xY hB rfl) x3
 have YI:r3[nd.r]? =some (cR 8 (.str [120]) (.ref (95+rest.length)) nd):=by rw[<-NH];exact fK b6 (x2.trans x3)
 have pl:w3.aA=w.aA+1:=by rw[y3.same]
 have pp:w3.plain=w.plain:=by rw[y3.same]
 have S5:=S3.eX (x:=nd.bN) D3 G (by rw[bN,pl];exact⟨(pH rfl),bX _⟩)
 have g:∀w' r',r3<+:r'->cV w' r' (eX nd.bN K HH) L (B+41+1+2)->w'.plain=w.plain->w'.aA=w.aA+1->R (qH (.leaf nd K)) (heap w' r'):=fun w' r' x S6 p1 p2=>hR _ _ (g (.leaf nd K) w' r' (eX nd.bN K HH) (bx.trans (bx.trans (x2.trans (x3.trans x)))) ⟨S6.iF,S6.sz.le (by lia),S6.bu,S6.c,S6.l,S6.pV,S6.nd,S6.gi⟩
  ⟨p1,by rw[p2];exact(iY),⟨_,fK YI x⟩,⟨by rw[g9,aI rfl],G,nL⟩,fun y hy=>.inr (by rw[eZ.mp hy,bN,p2];exact⟨(OT (lR)),bX _⟩),fun y hy=>by rw[g9,aG (by lia)],by rw[p2];exact bX _⟩ (bX _) (bX _) (bX _))
 subst NH
 refine gV (bg YI).2.1 (gH (tX (by have:=S3.sz.aR;exact(OS this (ur hB) rfl))) (gV (bg YI).2.1 (gH (wO (by have:=S3.sz.cK;exact(OS this (ur hB) rfl))) ?_)))
 exact LA S5 (Bs (lR) (lR) hB rfl) G D3 rfl rfl rfl rfl fun w' r' x S6 p1 p2=>g w' r' x S6 (p1.trans pp) (p2.trans pl)
end
section
variable{l:List Int}{d:Nat}{w:W}{rest:H}
theorem cV.le{HH:HL}{L:jl}{B C:Nat}(S:cV w rest HH L B)(h:B<=C):cV w rest HH L C:=⟨S.iF,S.sz.le h,S.bu,S.c,S.l,S.pV,S.nd,S.gi⟩
noncomputable def ZY(c:Nat):V:=.ak [nv (mW c).1,(mW c).2.1,wv (mW c).2.2]
noncomputable def EP:List V:=[.ak [.int 1,.int 0,.str [110,48]],.ak [.int 1,.int 1,.str [110,49]],.ak [.int 2,.str [97],.str [115,97]],.ak [.int 4,.str [],.str [84]],.ak [.int 5,.str [],.str [70]],.ak [.int 6,.str [],.str [48]],.ak [.int 7,.str [],.str [85]]]
theorem Mj{c:Nat}(h:c<7)(σ:H):item σ (.ak EP) (nv c)=some (ZY c):=by
 have:item σ (.ak EP) (nv c)=EP[c]? :=eu σ _ c ((gP rfl))
 rw[this]
 have:EP=(List.range 7).map ZY:=rfl
 rw[this,u9,List.getElem?_range h];rfl
theorem Pu{c:Nat}(h:c<7):(mW c).2.2<17:=by
 have:=dG.mp (show((List.range 7).all fun c=>Nat.blt (mW c).2.2 17)=true by decide) c (jt.mpr h)
 exact mH this
theorem DN{HH:HL}{L:jl}{B:Nat}(S:cV w rest HH L B){x:Nat}(h:x=0\/w.aA<x):ay x HH=none:=by
 cases e:ay x HH with
 |none=>rfl
 |some K=>have:=S.pV x K e;lia
theorem Cq{HH:HL}{L:jl}{B:Nat}(S:cV w rest HH L B):Tw w rest HH L B 60 13 3 1 (bC (P l) (d+4) 1409 [.ref 94] (heap w rest)):=by
 intro M n k ρ g
 refine DA (P3 l) fun N R Z hR=>fu (n:=7) S.iF.cB ((gP rfl)) fun c hc=>gV (Mj hc _) ?_
 refine nV (W:=[(mW c).2.2]) (f:=1) (.inl rfl) (by intro x hx;rw[eZ.mp hx];exact Pu hc) (mH rfl) ((gP rfl)) fun r2 x2=>IA (gC tB ?_)
 obtain⟨nd,NH⟩:∃nd:Nd,(⟨(r2++[Ob.list []]).length,w.aA+1,w.aA+1⟩:Nd)=nd:=⟨_,rfl⟩
 have bN:nd.bN=w.aA+1:=by rw[<-NH]
 have xx:=x2.trans ((bx (j:=[Ob.list []])).trans (bx (j:=[cR (mW c).1 (mW c).2.1 (.ref (95+r2.length)) nd])))
 have g:=hR _ _ (g (.lit nd c) {w with at_:=w.at_+1,aA:=w.aA+1} _ HH xx ((S.at (lT _) xx).le (iY)) ⟨rfl,lT _,⟨hc,_,by rw[<-NH];exact b6⟩,⟨by lia,hc,.inl (DN S (.inr (by lia)))⟩,fun x hx=>.inr (by rw[eZ.mp hx,bN];exact⟨(OT (lR)),bX _⟩),fun Z Z=>rfl,bX _⟩ (bX _) (bX _) (bX _))
 subst NH
 exact g
end
section
variable{l:List Int}{d:Nat}{w:W}{rest:H}
theorem VZ{k:Nat}(h:¬k<6)(h2:k<9):∃op∈fG,∀σ,item σ (.ak [.str [45],.str [61,61,61],.str [60]]) (.int ((k:Int) - 6))=some (.str op):=by
 have:k=6\/k=7\/k=8:=by lia
 rcases this with h|h|h
 ·exact⟨[45],by decide,fun σ=>by rw[h];exact eu σ _ 0 (by decide)⟩
 ·exact⟨[61,61,61],by decide,fun σ=>by rw[h];exact eu σ _ 1 (by decide)⟩
 ·exact⟨[60],by decide,fun σ=>by rw[h];exact eu σ _ 2 (by decide)⟩
section
variable{M:Ma}{n:Nat}{k:List Fr}{ρ:aO}{σ:H}
noncomputable def iE(M:Ma)(n:Nat)(e:Ex)(all:Bool)(r:List Ex)(v:V)(k:List Fr)(ρ:aO)(σ:H)(x:Bool):Prop:=Gv (go n M (.e e (.eW all r::k)) ρ σ) (go n M (.v v k) ρ σ) x
theorem gMo{e:Ex}{all:Bool}{r:List Ex}{v:V}{x:Bool}(h:x=true)(g:go n M (.e e (.eW all r::k)) ρ σ):iE M n e all r v k ρ σ x:=h▸g
theorem gSt{e:Ex}{all:Bool}{r:List Ex}{v:V}{x:Bool}(h:x=false)(g:go n M (.v v k) ρ σ):iE M n e all r v k ρ σ x:=h▸g
end
theorem CX{HH NU:HL}{L:jl}{B:Nat}{a b:Sd}{w1 w2:W}{r1 r2:H}{HH1:HL}{op:List Nat}{nd:Nd}{q:Nat}(p1:nX w w1 r1 HH HH1 a)(p2:nX w1 w2 r2 HH1 NU b)(S2:cV w2 r2 NU L B)(h1:r1<+:r2)(ho:op∈fG)(hz:nd.bN=0\/nd.bN=w2.aA+1)
  {r3:H}(hr3:r2<+:r3)(hn:r3[nd.r]? =some (cR 23 (.str op) (.ref (95+q)) nd))(hq:r3[q]? =some (.list [.ref (95+a.nd.r),.ref (95+b.nd.r)])):
  gM r3 (.jk nd op a b)/\cy w.plain NU (.jk nd op a b)/\(∀x∈iV (.jk nd op a b),x=0\/(w.aA<x/\x<=w2.aA+1))/\(∀x,x<=w.aA->ay x NU=ay x HH)/\cy w.plain NU a/\cy w.plain NU b/\mK a b:=by
 have pl:=p1.aA
 have pl2:=p2.aA
 have sa:=p1.at_.pre (h1.trans hr3)
 have sb:=p2.at_.pre hr3
 have oa:cy w.plain NU a:=p1.ok.cD fun x hx=>p2.old x (aho (p1.pV x hx))
 have ob:cy w.plain NU b:=by have:=p2.ok;rw[p1.plain]at this;exact this
 have ap:mK a b:=fun x hx h0 hb=>by
  have i1:=p1.pV x hx
  have i2:=p2.pV x hb
  lia
 have ln:ay nd.bN NU=none:=DN S2 (by lia)
 refine⟨⟨ho,⟨q,hn,hq⟩,sa,sb⟩,⟨.inl ln,fun Z=>ln,oa,ob,ap,fun h0=>⟨fun hx=> ?_,fun hx=> ?_⟩⟩,fun x hx=> ?_,fun x hx=>(p2.old x (dU hx pl)).trans (p1.old x hx),oa,ob,ap⟩
 ·have:=p1.pV _ hx;lia
 ·have:=p2.pV _ hx;lia
 ·simp only[nG,cH,gj]at hx
  rcases hx with rfl|hx|hx
  ·lia
  ·have:=p1.pV x hx;lia
  ·have:=p2.pV x hx;lia
theorem CU{M:Ma}{n:Nat}{k:List Fr}{ρ:aO}{HH:HL}{L:jl}{B:Nat}(S:cV w rest HH L B)(hB:B+1000<89000)(g:∀sd w' r' m8,rest<+:r'->cV w' r' m8 L (B+200)->nX w w' r' HH m8 sd->rd sd<=18->bT sd<=1206->uy sd<=3->Rt M n k ρ (qH sd) (heap w' r')):
  Cl M n k ρ (bC (P l) (d+6) 1416 [.ref 94] (heap w rest)):=by
 refine DA (P0 l) fun N R Z hR=>fu (n:=9) S.iF.cB ((gP rfl)) fun k hk=> ?_
 have S1:cV {w with at_:=w.at_+1} rest HH L B:=S.at (bX _) (List.prefix_refl _)
 by_cases h4:k<4
 ·exact gT (ez (by show(k:Int)<4;lia)) (tw S1 (fR hB) fun sd w' r' m8 x S' sp q1 q2 q3=>hR _ _ (g sd w' r' m8 x (S'.le (lS rfl)) ⟨sp.plain,sp.aA,sp.at_,sp.ok,sp.pV,sp.old,sp.up⟩ (qO q1 rfl) (qO q2 rfl) (qO q3 rfl)))
 refine gF (fH (by show¬(k:Int)<4;lia)) ?_
 by_cases h6:k<6
 ·exact gT (ez (by show(k:Int)<6;lia)) (Cq S1 fun sd w' r' m8 x S' sp q1 q2 q3=>hR _ _ (g sd w' r' m8 x (S'.le (lS rfl)) ⟨sp.plain,sp.aA,sp.at_,sp.ok,sp.pV,sp.old,sp.up⟩ (qO q1 rfl) (qO q2 rfl) (qO q3 rfl)))
 refine gF (fH (by show¬(k:Int)<6;lia)) (tw S1 (fR hB) fun sa w2 r2 H2 x2 S2 p2 ra ca ga=>fu (n:=2) S2.iF.cB (by decide) fun k2 hk2=> ?_)
 have S3:cV {w2 with at_:=w2.at_+1} r2 H2 L (B+60):=S2.at (bX _) (List.prefix_refl _)
 have next:∀n sb w5 r5 H5,r2<+:r5->cV w5 r5 H5 L (B+60+60)->nX {w2 with at_:=w2.at_+1} w5 r5 H2 H5 sb->rd sb<=13->bT sb<=3->uy sb<=1->go (n+900) ⟨l,d+5,N,R⟩ (.v (qH sb) [.aQ (.nm 199) (BG.body.drop 5)]) [(198,qH sa),(239,nv k),(99,.ref 94)] (heap w5 r5):=fun n sb w5 r5 H5 x5 S5 p5 rb cb gb=>by
  have fm:∀n bo m,go (n+500) ⟨l,d+5,N,R⟩ (.v (.bool bo) [.aQ (.nm 248) (BG.body.drop 6)]) [(199,qH sb),(198,qH sa),(239,nv k),(99,.ref 94)] (heap {w5 with at_:=m} r5):=fun n bo m=>by
   refine aD (VZ h6 hk) fun op ho ios=>gV (ios _) (gV (uW sa _) (gV (uW sb _) (IA (Az fun nd r7 x7 NH hn7=> ?_))))
   have hz:nd.bN=0\/nd.bN=w5.aA+1:=by rw[NH];cases bo<;>simp
   have xx:=(bx (j:=[Ob.list [V.ref (95+sa.nd.r),V.ref (95+sb.nd.r)]])).trans x7
   have S7:cV {w5 with at_:=m,aA:=w5.aA+1} r7 H5 L (B+60+60):=S5.at (lT _) xx
   refine lB (CX (w:=w) (op:=op) (nd:=nd) (q:=r5.length) ⟨p2.plain,p2.aA,p2.at_,p2.ok,p2.pV,p2.old,p2.up⟩ ⟨p5.plain,p5.aA,p5.at_,p5.ok,p5.pV,p5.old,p5.up⟩ S5 x5 ho hz xx hn7 (fK b6 x7)) fun b1 b2 b3 b4 Z Z Z=> ?_
   have pl:w.aA<=w2.aA:=p2.aA
   have pl5:w2.aA<=w5.aA:=p5.aA
   have u1:w2.aA<=w.aA+uy sa:=p2.up
   have u2:w5.aA<=w2.aA+uy sb:=p5.up
   exact hR _ _ (g (.jk nd op sa sb) {w5 with at_:=m,aA:=w5.aA+1} r7 H5 (x2.trans (x5.trans xx)) (S7.le (jD (lS rfl))) ⟨p5.plain.trans p2.plain,by exact(aZ (dU pl pl5)),b1,b2,b3,b4,by show w5.aA+1<=w.aA+(uy sa+uy sb+1);lia⟩ (by exact(jD (Ju ra rb))) (by exact(OL (Jt ca cb) rfl)) (by exact(OL (Jt ga gb) rfl)))
  by_cases h7:6<k
  ·refine gSt (congrArg (·==false) (ez (by show(k:Int)>6;lia))) ?_
   exact fm 300 _ _
  ·refine gMo (congrArg (·==false) (fH (by show¬(k:Int)>6;lia))) (fu (n:=2) S5.iF.cB (by decide) fun k3 hk3=> ?_)
   exact fm 300 _ _
 match k2,hk2 with
 |0,_=>exact tw S3 (qP (lR) hB rfl) fun sd w' r' m8 x S' sp q1 q2 q3=>next 0 sd w' r' m8 x S' sp q1 (qO q2 rfl) q3
 |1,_=>exact Cq S3 fun sd w' r' m8 x S' sp q1 q2 q3=>next 0 sd w' r' m8 x S' sp q1 q2 q3
end
section
variable{l:List Int}{d:Nat}{w:W}{rest:H}
theorem vP(pl:Bool)(te:List (V×V)):∀(s:Sd) (HH:HL),(HH.map (·.1)).Nodup->((cg pl te s HH).1.map (·.1)).Nodup
 | .leaf _ _,HH,h=>h
 | .lit nd c,HH,h=>by
  rw[AG];split
  ·exact h
  ·exact DM h
 | .jk nd op a b,HH,h=>by
  have h2:=vP pl te b _ (vP pl te a HH h)
  rw[rA];split
  ·exact h
  ·split
   ·exact h2
   ·exact DM h2
theorem zq{af:List V}:∀{Gq:List AE} {cs:List CE} {L:jl},cL af Gq cs->((∀v∈L.1,v.aS=true)/\∀v∈L.2.2,v.aS=true)->(∀v∈(jC cs L).1,v.aS=true)/\∀v∈(jC cs L).2.2,v.aS=true
 |[],cs,L,h,k=>by rw[show cs=[]from h];exact k
 |a::r,cs,L,⟨c,t,e,h1,h2⟩,k=>by
  subst e
  refine zq (L:=acp c L) h2 ?_
  cases a with
  |tr bN=>
   rw[show c=_ from h1]
   refine⟨fun v hv=> ?_,k.2⟩
   rcases gj.mp hv with hv|hv
   ·exact k.1 v hv
   ·rw[eZ.mp hv];rfl
  |no p=>
   rw[show c=_ from h1]
   refine⟨k.1,fun v hv=> ?_⟩
   rcases gj.mp hv with hv|hv
   ·exact k.2 v hv
   ·rw[eZ.mp hv];rfl
  |to n p g=>
   refine aD h1 fun vs Z q2=> ?_;subst q2
   exact k
theorem lQ.Rv{w':W}{HH:HL}{L:jl}(st:cQ w w')(h:lQ w HH L):lQ w' HH L:=by
 rw[st.same];exact⟨h.cK,h.bk,h.fJ,h.ef,h.key⟩
theorem jc.acZ{w':W}{HH:HL}{L:jl}(st:cM w w')(T:dj w'.af)(h:jc w rest HH L){r:H}(y:rest<+:r):jc w' r HH L:=by
 refine bR st.ext fun c x=> ?_
 have e:=st.same
 have ht:=h.aR.ext x T
 have h2:=h.bk
 have h3:=h.cE
 have h4:=h.j6.pre y
 have e1:w'.aR=w.aR:=by rw[e]
 have e2:w'.bk=w.bk:=by rw[e]
 have e3:w'.cE=w.cE:=by rw[e]
 have e4:w'.cA=w.cA:=by rw[e]
 exact⟨by rw[e1];exact ht,by rw[e2];exact h2,by rw[e3];exact h3,by rw[e4];exact h4⟩
theorem cQ.aA{w w':W}(h:cQ w w'):w'.aA=w.aA:=by rw[h.same]
theorem cM.aA{w w':W}(h:cM w w'):w'.aA=w.aA:=by rw[h.same]
theorem cM.bu{w w':W}(h:cM w w'):w'.bu=w.bu:=by rw[h.same]
theorem cM.jp{w w':W}(h:cM w w'):w'.jp=w.jp:=by rw[h.same]
theorem cV.ZX{w1 w2:W}{q1 q2:H}{HH H2:HL}{L:jl}{B c1 c2:Nat}{Gq:List AE}{Be IB:List CE}(S:cV w rest HH L B)(bw:cQ w w1)(cc1:cL w1.af Gq Be)(r1:jc w1 q1 H2 (jC Be L))(y:q1<+:q2)
  (bS:cM w1 w2)(zB:Sz w2 (B+c1+c2))(rU:lM w2)(Rl:cL w2.af Gq IB)(r2:lQ w2 H2 (jC IB L))(pV:∀x K,ay x H2=some K->1<=x/\x<=w.aA)(nd:(H2.map (·.1)).Nodup):cV w2 q2 H2 (jC Be L) (B+c1+c2):=by
 refine bR bS.ext fun c x=> ?_
 have e:Be=IB:=(cc1.ext x rU.T).pA rU.T Rl
 subst e
 exact⟨rU,zB,by rw[bS.bu,bw.bu];exact S.bu,r1.acZ bS rU.T y,r2,by rw[bS.aA,bw.aA];exact pV,nd,zq cc1 S.gi⟩
theorem AC{pl:Bool}{te:List (V×V)}{s:Sd}{HH:HL}{n:Nat}(lo:yF s)(h:∀x K,ay x HH=some K->1<=x/\x<=n)(hs:∀x∈iV s,x=0\/x<=n):∀x K,ay x (cg pl te s HH).1=some K->1<=x/\x<=n:=fun x K e=>by
 by_cases q:x=0\/x∉iV s
 ·rw[eE pl te s HH lo q]at e;exact h x K e
 ·rw[not_or]at q
  have:x∈iV s:=by
   by_cases z:x∈iV s
   ·exact z
   ·exact absurd z q.2
  have:=hs x this
  lia
theorem cy.AW{pl:Bool}{te:List (V×V)}{HH:HL}{a b:Sd}(oa:cy pl HH a)(ob:cy pl HH b)(ap:mK a b):cy pl (cg pl te b (cg pl te a HH).1).1 a/\cy pl (cg pl te b (cg pl te a HH).1).1 b:=
 ⟨(oa.self (te:=te)).cD fun x hx=>eE pl te b _ ob.sf (by
  by_cases q:x=0
  ·exact .inl q
  ·exact .inr (ap x hx q)),(ob.apart (te:=te) oa.sf ap).self⟩
noncomputable def Oz:List St:=match(j5.body[4]? :Option St)with
 |some (.Na _ _ b)=>b
 |_=>[]
theorem VY{k:Nat}(h:k<4):∃op∈EJ,op∈fG/\∀σ,item σ (.ak [.str [61,61],.str [33,61],.str [61,61,61],.str [33,61,61]]) (nv k)=some (.str op):=by
 have hl:k<EJ.length:=h
 refine⟨EJ[k],Bv hl,(show∀o∈EJ,o∈fG by decide) _ (Bv hl),fun σ=> ?_⟩
 have:item σ (.ak (EJ.map V.str)) (nv k)=(EJ.map V.str)[k]? :=eu σ _ k (by decide)
 rw[u9,pJ hl]at this
 exact this
noncomputable def q9:List (List Nat):=[[60],[62],[60,61],[62,61],[61,61],[33,61],[61,61,61],[33,61,61]]
theorem VX{k:Nat}(h:k<8):∃op∈fG,op≠[45]/\∀σ,item σ (.ak [.str [60],.str [62],.str [60,61],.str [62,61],.str [61,61],.str [33,61],.str [61,61,61],.str [33,61,61]]) (nv k)=some (.str op):=by
 have hl:k<q9.length:=h
 have q:=(show∀o∈q9,o∈fG/\o≠[45] by decide) _ (Bv hl)
 refine⟨q9[k],q.1,q.2,fun σ=> ?_⟩
 have:item σ (.ak (q9.map V.str)) (nv k)=(q9.map V.str)[k]? :=eu σ _ k (by decide)
 rw[u9,pJ hl]at this
 exact this
end
section
variable{l:List Int}{d:Nat}{w:W}{rest:H}
theorem adf(σ:H){x y:Bool}(h:x=y):xH σ .ne (.bool x) (.bool y)=some (.bool false):=by
 subst h;cases x<;>rfl
theorem V4{α:Type}{x:Nat}{v:α}{t:List (Nat×α)}:eX x v t≠[]:=by
 cases t with
 |nil=>exact List.cons_ne_nil _ _
 |cons y r=>obtain⟨a,b⟩:=y;rw[yu];split<;>exact List.cons_ne_nil _ _
structure Lk(ρ:aO):Prop where
 pU:ay 99 ρ=some (.ref 94)
 Dp:ay 86 ρ=some (.ref 25)
 OA:ay 260 ρ=some (.ref 0)
 Ji:ay 265 ρ=some (.ak [.ref 84,.ref 86])
theorem RC{af:List V}{n:Nat}(T:dj af)(D:fF af n [2,12]):(!decide (nv n=.int 12))=false:=by
 rw[D.num T (jQ T) fun Z=>Iff.rfl];rfl
theorem PC{n:Nat}{N:aO->H->Prop}{R:V->H->Prop}{a b:Sd}{HH:HL}{L:jl}{B:Nat}{ρ:aO}(S:cV w rest HH L B)(hB:B+16200<90000)(ta:gM rest a)(tb:gM rest b)(oa:cy w.plain HH a)(ob:cy w.plain HH b)(ap:mK a b)(i1:∀x∈iV a,x=0\/x<=w.aA)(i2:∀x∈iV b,x=0\/x<=w.aA)
  (ca:bT a<=1206)(cb:bT b<=1206)(ra:rd a<=18)(rb:rd b<=18)(ga:uy a<=3)(gb:uy b<=3)(aad:ay 198 ρ=some (qH a))(aac:ay 199 ρ=some (qH b))(aab:ay 201 ρ=some (kv (kindOf a)))(k53:ay 53 ρ=some (kv (kindOf b)))(K:Lk ρ)
  (g:∀be w' r' m8 L',rest<+:r'->cV w' r' m8 L' (B+8400)->w'.aA<=w.aA+1->m8≠[]->Lk be->N be (heap w' r')):go (n+600) ⟨l,39,N,R⟩ (.s (Oz.drop 8) []) ρ (heap w rest):=by
 refine gV K.pU (fu (n:=8) S.iF.cB ((gP rfl)) fun k hk=> ?_)
 refine dF (VX hk) fun op Nf hon hoi=>gV (hoi _) (gV K.pU (gV aad (gV (uW a _) (gV aac (gV (uW b _) (IA (Az (own:=true) fun nd r2 x2 GM hn2=> ?_)))))))
 have GM:nd.bN=w.aA+1:=GM
 have x2':=(bx (j:=[Ob.list [V.ref (95+a.nd.r),V.ref (95+b.nd.r)]])).trans x2
 obtain⟨w2,hw2⟩:∃w2:W,{w with at_:=w.at_+1,aA:=w.aA+1}=w2:=⟨_,rfl⟩
 have S2:cV w2 r2 HH L B:=by rw[<-hw2];exact S.at (lT _) x2'
 have pl2:w2.plain=w.plain:=by rw[<-hw2]
 have pc2:w2.aA=w.aA+1:=by rw[<-hw2]
 have tc:gM r2 (.jk nd op a b):=⟨Nf,⟨_,hn2,fK b6 x2⟩,ta.pre x2',tb.pre x2'⟩
 have ln:ay nd.bN HH=none:=DN S (.inr (by lia))
 have oc:cy w2.plain HH (.jk nd op a b):=by
  rw[pl2]
  exact⟨.inl ln,fun Z=>ln,oa,ob,ap,fun h0=>⟨fun hx=>by have:=i1 _ hx;lia,fun hx=>by have:=i2 _ hx;lia⟩⟩
 have cc:bT (.jk nd op a b)<=3612:=by exact(OL (Jt ca cb) rfl)
 have rc:rd (.jk nd op a b)<=23:=by exact(jD (Ju ra rb))
 have gc:uy (.jk nd op a b)<=7:=by exact(OL (Jt ga gb) rfl)
 have Bd:∀x∈iV (.jk nd op a b),x=0\/x<=w2.aA:=fun x hx=>by
  rcases cH.mp hx with rfl|hx
  ·lia
  ·exact(gj.mp hx).elim (fun hx=>(GS pc2 (i1 x hx))) fun hx=>(GS pc2 (i2 x hx))
 refine gV K.Dp ?_
 rw[hw2]
 refine rD (rC l (.jk nd op a b) 38 w2 r2 HH L B (qO rc rfl) S2.iF S2.sz (qP (Br cc) hB rfl) (by rw[S2.bu];exact(qh (Br gc) rfl)) S2.c tc oc) fun n w3 r3 YQ x3 eV M9 mG dn Zy rp3=> ?_
 rw[show kindOf (.jk nd op a b)=[2,12]from aG hon]at dn
 refine gF (RC mG.T dn) (gV K.pU (gV aad (gV aac ?_)))
 refine rm l (.jk nd op a b) 39 w3 r3 HH L _ (qO rc rfl) mG M9 (Bs (Br cc) (Br cc) hB rfl) (S2.l.Rv eV) (tc.pre x3) (by rw[eV.plain];exact oc) fun w4 r4 YO x4 lJ TH qI YR p4=> ?_
 rw[eV.plain,eV.aj]at YR p4
 have S4:=S2.ZX (c1:=bT (.jk nd op a b)) (c2:=bT (.jk nd op a b)) eV Zy rp3 x4 lJ TH qI YR p4 (AC oc.sf S2.pV Bd) (vP _ _ _ _ S2.nd)
 have S4:cV w4 r4 _ _ (B+7224):=S4.le (VL (Br cc) (Br cc) rfl)
 refine dw oa.qM fun gA nA=> ?_
 refine dw ob.qM fun gB nB=> ?_
 have pl4:w4.plain=w.plain:=by rw[lJ.plain,eV.plain,pl2]
 have sr:=S4.sz.af
 refine gV K.Dp (gV K.Dp (gV (v:=.ref 1) rfl (gV aab (nE gA.toCore qI.T (qP sr hB rfl) fun n1 w5 r5 x5 y5 d5=> ?_))))
 have S5:=S4.gr y5 (qP (lR) hB rfl) x5
 have s5:=S5.sz.af
 refine gV K.Dp (gV (v:=.ref 1) rfl (gV k53 (nE gB.toCore S5.iF.T (Bs s5 (lR) hB rfl) fun n2 w6 r6 x6 y6 d6=> ?_)))
 have S6:=S5.gr y6 (Bs (lR) (lR) hB rfl) x6
 have s6:=S6.sz.af
 have Y4:w6.plain=w.plain:=by rw[y6.plain,y5.plain,pl4]
 refine wU S6.iF (OM s6 (lR) (lR) hB rfl) gA gB (by rw[Y4];exact nA) (by rw[Y4];exact nB) (d5.ext y6.ext S6.iF.T) d6 fun w7 r7 x7 y7=> ?_
 have S7:=S6.gr y7 (OM (lR) (lR) (lR) hB rfl) x7
 refine gV K.pU (gV aab (gV k53 (pQ gA.ok gB.ok S7.iF.aj fun r8 x8=> ?_)))
 refine gV (adf _ (by rw[y7.plain,y7.aj])) ?_
 refine g _ w7 r8 _ _ (x2'.trans (x3.trans (x4.trans (x5.trans (x6.trans (x7.trans x8)))))) ⟨S7.iF,S7.sz.le (by lia),S7.bu,⟨S7.c.aR,S7.c.bk,S7.c.cE,S7.c.j6.pre x8⟩,S7.l,S7.pV,S7.nd,S7.gi⟩ ?_ ?_ ⟨K.pU,K.Dp,K.OA,K.Ji⟩
 ·rw[show w7.aA=w6.aA by rw[y7.same],show w6.aA=w5.aA by rw[y6.same],show w5.aA=w4.aA by rw[y5.same],lJ.aA,eV.aA,pc2]
  exact bX _
 ·rw[rA,aG (by rw[ln];decide),aG (by lia)]
  exact V4
end
section
variable{l:List Int}{d:Nat}{w:W}{rest:H}
theorem FE{n:Nat}{N:aO->H->Prop}{R:V->H->Prop}{HH:HL}{L:jl}{B:Nat}{ρ:aO}(S:cV w rest HH L B)(hB:B+24000<90000)(K:Lk ρ)
  (g:∀be w' r' m8 L',rest<+:r'->cV w' r' m8 L' (B+15700)->w'.aA<=w.aA+8->m8≠[]->Lk be->N be (heap w' r')):go (n+980) ⟨l,39,N,R⟩ (.s (Oz.drop 2) []) ρ (heap w rest):=by
 refine gV K.pU (CU (d:=33) S (xY hB rfl) fun a w1 r1 H1 x1 S1 p1 ra ca ga=> ?_)
 refine gV K.pU (CU (d:=33) S1 (ahv (lR) hB rfl) fun b w2 r2 H2 x2 S2 p2 rb cb gb=> ?_)
 refine gV K.pU (fu (n:=4) S2.iF.cB ((gP rfl)) fun k hk=> ?_)
 refine dF (VY hk) fun op hoe Nf hoi=>gV (hoi _) (gV K.pU (gV (uW a _) (gV (uW b _) (IA (Az (own:=true) fun nd r4 x4 GM hn4=> ?_)))))
 have GM:nd.bN=w2.aA+1:=GM
 have YZ:=(bx (j:=[Ob.list [V.ref (95+a.nd.r),V.ref (95+b.nd.r)]])).trans x4
 refine lB (CX p1 p2 S2 x2 Nf (.inr GM) YZ hn4 (fK b6 x4)) fun b1 b2 b3 b4 oa ob ap=> ?_
 have ta:=p1.at_.pre (x2.trans YZ)
 have tb:=p2.at_.pre YZ
 obtain⟨w4,hw4⟩:∃w4:W,{w2 with at_:=w2.at_+1,aA:=w2.aA+1}=w4:=⟨_,rfl⟩
 have S4:cV w4 r4 H2 L (B+200+200):=by rw[<-hw4];exact S2.at (lT _) YZ
 have pl4:w4.plain=w.plain:=by rw[<-hw4];exact p2.plain.trans p1.plain
 have pc4:w4.aA=w2.aA+1:=by rw[<-hw4]
 have oa4:cy w4.plain H2 a:=by rw[pl4];exact oa
 have ob4:cy w4.plain H2 b:=by rw[pl4];exact ob
 refine gV K.OA (gV K.Dp (gV (uW a _) (gV (uW b _) ?_)))
 rw[hw4]
 refine FW (D:=37) (rC l a) (rC l b) (Ju (qO ra rfl) (qO rb rfl)) S4.iF S4.sz (by lia) (by rw[S4.bu];lia) S4.c ta tb oa4 ob4 ap hoe hn4 fun n w5 r5 cs5 x5 ym sz5 iv5 dn cc5 rp5=> ?_
 refine gF (RC iv5.T dn) (gV K.pU ?_)
 refine xu (D:=37) (rm l a) (rm l b) (Ju (qO ra rfl) (qO rb rfl)) iv5 sz5 (by lia) (S4.l.Rv ym) (ta.pre x5) (tb.pre x5) (by rw[ym.plain];exact oa4) (by rw[ym.plain];exact ob4) ap Nf (fK hn4 x5) fun w6 r6 cs6 x6 Ig sz6 Rg cc6 p6=> ?_
 rw[ym.plain,ym.aj]at cc6 p6
 have i1:∀x∈iV a,x=0\/x<=w2.aA:=fun x hx=>by have:=p1.pV x hx;have:=p2.aA;lia
 have i2:∀x∈iV b,x=0\/x<=w2.aA:=fun x hx=>(ahn (p2.pV x hx))
 have agG:∀x K,ay x (cg w4.plain w4.aj b (cg w4.plain w4.aj a H2).1).1=some K->1<=x/\x<=w4.aA:=
  AC ob.sf (AC oa.sf S4.pV (fun x hx=>(GS pc4 (i1 x hx)))) (fun x hx=>(GS pc4 (i2 x hx)))
 have S6:=S4.ZX (c1:=bT a+bT b+1000) (c2:=bT a+bT b+1000) ym cc5 rp5 x6 Ig sz6 Rg cc6 p6 agG (vP _ _ b _ (vP _ _ a _ S4.nd))
 have S6:cV w6 r6 _ _ (B+7300):=S6.le (by lia)
 refine dw (oa4.AW (te:=w4.aj) ob4 ap) fun oa6 ob6=> ?_
 have Y4:w6.plain=w4.plain:=by rw[Ig.plain,ym.plain]
 have pc6:w6.aA=w2.aA+1:=by rw[Ig.aA,ym.aA,pc4]
 have u1:=p1.up
 have u2:=p2.up
 exact PC (ρ:=(53,kv (kindOf b))::(201,kv (kindOf a))::(87,.ref (95+nd.r))::(254,.str op)::(199,qH b)::(198,qH a)::ρ) (a:=a) (b:=b) S6 (qP (lR) hB rfl) (ta.pre (x5.trans x6)) (tb.pre (x5.trans x6)) (by rw[Y4];exact oa6) (by rw[Y4];exact ob6) ap (fun x hx=>(GS pc6 (i1 x hx))) (fun x hx=>(GS pc6 (i2 x hx))) ca cb ra rb ga gb rfl rfl rfl rfl ⟨K.pU,K.Dp,K.OA,K.Ji⟩
  fun be w' r' m8 L' x S' q ne K'=>g be w' r' m8 L' (x1.trans (x2.trans (YZ.trans (x5.trans (x6.trans x))))) (S'.le (lR)) (by lia) ne K'
end
section
variable{l:List Int}{d:Nat}{w:W}{rest:H}
theorem Wn{hp:W->H}{N:aO->H->Prop}{R:V->H->Prop}{HH:HL}{L:jl}{B:Nat}{ρ:aO}(F:ZD hp rest)(S:cV w rest HH L B)(hB:B+24000<90000)(K:Lk ρ)
  (g:∀be w' r' m8 L',rest<+:r'->cV w' r' m8 L' (B+15700)->w'.aA<=w.aA+8->m8≠[]->Lk be->N be (heap w' r')):go 1050 ⟨l,39,N,R⟩ (.s Oz []) ρ (hp w):=by
 refine gV K.pU (B5 (n:=5) F S.iF.cB ((gP rfl)) fun k hk=>gV K.pU ?_)
 obtain⟨b,hb⟩:∃b,decide ((k:Int)>2)=b:=⟨_,rfl⟩
 refine gH (σ:=hp {w with at_:=w.at_+1,plain:=b}) (hb▸F.f5 {w with at_:=w.at_+1} (decide ((k:Int)>2))) (gV K.pU (gV (F.f6 {w with at_:=w.at_+1,plain:=b}) ?_))
 have S1:cV {w with at_:=w.at_+1,plain:=b,jp:=b} rest HH L B:=by
  obtain⟨a1,a2,a3,a4,a5,a6,a7,a8,a9,qJ,rX⟩:=S.sz
  exact⟨⟨S.iF.T,⟨S.iF.cB.intz,S.iF.cB.jW⟩,S.iF.aj,rfl,S.iF.G⟩,⟨a1,a2,a3,a4,a5,a6,a7,a8,a9,qJ,rX⟩,S.bu,⟨S.c.aR,S.c.bk,S.c.cE,S.c.j6⟩,⟨S.l.cK,S.l.bk,S.l.fJ,S.l.ef,S.l.key⟩,S.pV,S.nd,S.gi⟩
 have f7:=F.f7 {w with at_:=w.at_+1,plain:=b} b
 cases b with
 |false=>exact gV K.Ji (gV K.Dp (gH f7 (FE S1 hB K g)))
 |true=>exact gV K.Ji (gV K.Dp (gH f7 (FE S1 hB K g)))
theorem agN{x m n:Nat}{N0:aO->H->Prop}{R:V->H->Prop}{k:List Fr}{r body:List St}{ρ:aO}{σ:H}(I:List Nat->aO->H->Prop)(hm:m<aJ)(h0:I [] ρ σ)
  (step:∀dn y r,List.range m=dn++y::r->∀ρ σ,I dn ρ σ->∀N1,(∀be aK,I (dn++[y]) be aK->N1 be aK)->go 1050 ⟨l,d,N1,R⟩ (.s body []) ((x,.int (Int.ofNat y))::ρ) σ)(fm:∀be aK,I (List.range m) be aK->go n ⟨l,d,N0,R⟩ (.s r k) be aK):
  oL ⟨l,d,N0,R⟩ n r k (forLoop (fun v ρ σ=>kW (P l) (bC (P l) d) body ((x,v)::ρ) σ) (.ak ((List.range m).map fun i=>.int (Int.ofNat i))) 0 (m+1) 0 ρ σ):=by
 have:=Kv (nn:=0) (f:=fun i=>V.int (Int.ofNat i)) (ys:=List.range m) (fN:=fun v ρ σ=>kW (P l) (bC (P l) d) body ((x,v)::ρ) σ) I (fun Z Z Z Z=>uF (by rw[fU,List.length_range];exact hm) _)
  (fun dn y r e ρ σ q=>kD _ _ _ _ _ (qX _ _ _ _ _ (step dn y r e ρ σ q _ fun Z Z h=>h))) fm (List.range m) [] rfl ρ σ h0
 rwa[List.length_range]at this
end
section
variable{l:List Int}{d:Nat}{w:W}{rest:H}
theorem pG.at{af:List V}:∀{t:List (Nat×Nat)} {H:HL},pG af t H->∀(i x:Nat) (K:az),H[i]? =some (x,K)->∃n,t[i]? =some (x,n)/\fF af n K/\gG K
 |_,_,.nil,i,x,K,h=>by exact nomatch h
 |_,_,.cons D G r,0,x,K,h=>by
  simp only[List.getElem?_cons_zero,Option.some.injEq,Prod.mk.injEq]at h
  refine dw h fun q0 q1=> ?_;subst q0;subst q1
  exact⟨_,rfl,D,G⟩
 |_,_,.cons D G r,i+1,x,K,h=>by exact r.at i x K h
theorem pG.gi{af:List V}:∀{t:List (Nat×Nat)} {H:HL},pG af t H->t.map (·.1)=H.map (·.1)
 |_,_,.nil=>rfl
 |_,_,.cons D G r=>by rw[fT,fT,r.gi]
theorem HE{α:Type}{x:Nat}:∀{t:List (Nat×α)},x∉t.map (·.1)->ay x t=none
 |[],_=>rfl
 |(y,v)::r,h=>by
  rw[fT,cH,not_or]at h
  rw[gk,aG h.1,HE h.2]
theorem uK{α:Type}{x:Nat}{v:α}:∀{t:List (Nat×α)},(t.map (·.1)).Nodup->(x,v)∈t->ay x t=some v
 |(y,u)::r,nd,h=>by
  rw[fT,u8]at nd
  rcases cH.mp h with h|h
  ·cases h;rw[gk,aI rfl]
  ·have:x≠y:=fun e=>nd.1 (e▸eY.mpr ⟨_,h,rfl⟩)
   rw[gk,aG this,uK nd.2 h]
theorem Fu{α:Type}{x:Nat}{v:α}:∀{t:List (Nat×α)},x∉t.map (·.1)->eX x v t=t++[(x,v)]
 |[],_=>rfl
 |(y,u)::r,h=>by
  rw[fT,cH,not_or]at h
  rw[yu,aG h.1,Fu h.2];rfl
theorem Pw{HH:HL}{n:Nat}(nd:(HH.map (·.1)).Nodup)(h:∀x K,ay x HH=some K->1<=x/\x<=n):HH.length<=n+1:=by
 have:(HH.map (·.1)).length<=(List.range (n+1)).length:=Ay nd fun x hx=>by
  obtain⟨u1,hy,rfl⟩:=eY.mp hx;obtain⟨y,K⟩:=u1
  have:=(h y K (uK nd hy)).2
  exact jt.mpr (Nat.lt_succ_of_le this)
 rwa[fU,List.length_range]at this
theorem Ea{t:List (Nat×Nat)}(nd:(t.map (·.1)).Nodup):jN (dh t) (dh t)=true:=by
 unfold jN
 rw[dX]
 refine⟨by simp,dG.mpr fun e he=> ?_⟩
 refine aD (eY.mp he) fun u1 hx q2=> ?_;subst q2;obtain⟨x,n⟩:=u1
 have:aT (nv x) (dh t)=some (nv n):=by rw[kg,uK nd hx];rfl
 rw[this];simp
theorem HW{σ:H}{i j:Nat}{t:List (Nat×Nat)}(ne:t≠[])(nd:(t.map (·.1)).Nodup)(h1:σ[i]? =some (gv 1 (dh t)))(h2:σ[j]? =some (gv 1 (dh t))):eqv σ (.ref i) (.ref j)=some true:=by
 have e:gv 1 (dh t)=.dict 1 (dh t):=by
  cases t with
  |nil=>exact absurd rfl ne
  |cons x r=>rfl
 rw[e]at h1 h2
 have k:((dh t).all fun e=>e.2.aS)=true:=dG.mpr fun e he=>by
  refine aD (eY.mp he) fun u1 hx q2=> ?_;subst q2;obtain⟨x,n⟩:=u1
  rfl
 rw[eqv,h1,h2]
 simp[k,Ea nd]
theorem wo{σ:H}{i j:Nat}{xs:List V}(k:∀v∈xs,v.aS=true)(h1:σ[i]? =some (.list xs))(h2:σ[j]? =some (.list xs)):eqv σ (.ref i) (.ref j)=some true:=by
 have k:(xs.all V.aS)=true:=dG.mpr k
 rw[eqv,h1,h2]
 simp[k]
theorem ae7{r:H}{i:Nat}{o:Ob}(x:rest<+:r)(h:rest.length<=i):rest<+:r.set i o:=by
 obtain⟨j,rfl⟩:=x
 rw[List.set_append_right _ _ h]
 exact⟨_,rfl⟩
theorem ae0{r:H}{i:Nat}{o o':Ob}(h:r[i]? =some o):(r.set i o')[i]? =some o':=List.getElem?_set_self (kX.mp h).1
theorem zg{HH:HL}(h:w.cK=HH)(ne:HH≠[])(r:H):(heap w r)[(90:Nat)]? =some (.dict 1 (i6 HH)):=by
 show some (gv 1 (i6 w.cK))=_
 rw[h]
 cases HH with
 |nil=>exact absurd rfl ne
 |cons x r=>rfl
theorem PU{n:Nat}{N0:aO->H->Prop}{R:V->H->Prop}{k:List Fr}{t:List St}{HH:HL}{L:jl}{B:Nat}{ρ:aO}(S:cV w rest HH L B)(hB:B+50*HH.length+100<90000)(pU:ay 99 ρ=some (.ref 94))(Dp:ay 86 ρ=some (.ref 25))(agA:ay 217 ρ=some (.ref (95+rest.length)))(ne:HH≠[])
  (fm:∀be w' r',rest<+:r'->Gr w w' (41*HH.length)->r'[rest.length]? =some (gv 1 (dh w.aR))->ay 99 be=some (.ref 94)->ay 86 be=some (.ref 25)->ay 217 be=some (.ref (95+rest.length))->go n ⟨l,39,N0,R⟩ (.s t k) be (heap w' r')):
  oF ⟨l,39,N0,R⟩ n [46] [.aQ (.sub (.ah 217) (.ah 46)) (.call 1359 [.aq (.ah 86) 47,.bO (.bO (.ah 99) (.cst (.str [104,101,108,100]))) (.ah 46)])] t k ρ (heap w (rest++[gv 1 []])) (.ref 90) (ao (heap w (rest++[gv 1 []])) (.ref 90)):=by
 have len:(i6 HH).length=HH.length:=by simp[i6]
 have lm:(i6 HH).length<aJ:=by rw[len];unfold aJ;lia
 have kk:(i6 HH).map (·.1)=HH.map fun e=>nv e.1:=by simp[i6]
 have d90:=zg S.l.cK ne (rest++[gv 1 []])
 have tl:=congrArg List.length S.c.aR.gi
 rw[fU,fU]at tl
 refine JK (f:=fun e:Nat×az=>nv e.1) (ys:=HH) (nn:=HH.length+1) (fun dn be w' r'=>Gr w w' (41*dn.length)/\rest<+:r'/\r'[rest.length]? =some (gv 1 (dh (w.aR.take dn.length)))/\ay 99 be=some (.ref 94)/\ay 86 be=some (.ref 25)/\ay 217 be=some (.ref (95+rest.length))) (by simp[ao,d90,lm,kk]) (by simp[fX,d90,len]) (fun dn be w' r' u=> ?_) ⟨Gr.refl w,bx,b6,pU,Dp,agA⟩ (fun dn e r ex cu w1 r1 u N1 hN=> ?_) fun be w' r' u=> ?_
 ·rw[<-kk,<-len]
  exact LL (zg ((by rw[u.1.same]:w'.cK=w.cK).trans S.l.cK) ne r') (by rw[len];unfold aJ;lia) (.inr rfl)
 ·refine ju u fun y1 x1 h1 Rd Nb GC=> ?_
  obtain⟨x,K⟩:=e
  have hk:HH[dn.length]? =some (x,K):=by rw[ex];simp
  have dl:dn.length<HH.length:=(kX.mp hk).1
  refine dF (S.c.aR.at _ _ _ hk) fun m0 ht D G=> ?_
  have sr:=S.sz.af
  have iv:=S.iF.gr y1 (by lia)
  have l1:=y1.len
  have lk:ay x w1.cK=some K:=by rw[y1.same];exact(congrArg (ay x) S.l.cK).trans (uK S.nd (vc hk))
  refine gV Nb (gV (v:=.ref 1) rfl (gV Rd (gV (zd lk) (nE G.toCore iv.T (by lia) fun m w2 r2 x2 y2 D2=> ?_))))
  have T2:=y2.iU iv.T (by lia)
  have emn:m=m0:=D2.num T2 ((D.ext y1.ext iv.T).ext y2.ext T2) fun Z=>Iff.rfl
  have tl2:dn.length<w.aR.length:=(kX.mp ht).1
  have te:w.aR.take (dn.length+1)=w.aR.take dn.length++[(x,m)]:=by
   rw[emn,List.take_succ_eq_append_getElem tl2,(kX.mp ht).2]
  have fresh:x∉(w.aR.take dn.length).map (·.1):=fun q=>by
   have nd:((w.aR.take (dn.length+1)).map (·.1)).Nodup:=by
    rw[List.map_take,S.c.aR.gi]
    exact S.nd.sublist (List.take_sublist _ _)
   rw[te,List.map_append,List.nodup_append]at nd
   exact nd.2.2 x q x (by simp) rfl
  have lt:(dh (w.aR.take dn.length)).length<aJ:=by
   rw[dh,fU,List.length_take];lia
  have st:=o6 (w:=w2) (u:=nv x) (v:=nv m) (fK h1 x2) rfl (by decide) lt
  rw[qC,Fu fresh,<-te]at st
  refine gV GC (gH st (hN _ _ _ ⟨(y1.trans y2).le ?_,ae7 (x1.trans x2) (bX _),?_,Rd,Nb,GC⟩))
  ·rw[fV];exact(lS rfl)
  ·rw[fV];exact ae0 (fK h1 x2)
 ·refine ju u fun y1 x1 h1 Rd Nb GC=> ?_
  rw[<-tl,List.take_length]at h1
  exact fm be w' r' x1 y1 h1 Rd Nb GC
theorem ME{n:Nat}{N:aO->H->Prop}{R:V->H->Prop}{k:List Fr}{ρ:aO}{to:List V}(D:cF rest w.cA to)(hl:w.cA.length<90000)(g:∀r' i,rest<+:r'->r'[i]? =some (.list to)->Rt ⟨l,d+1,N,R⟩ n k ρ (.ref (95+i)) (heap w r')):
  oM ⟨l,d+1,N,R⟩ n (.bM (.ah 201) 13 []) [201] [] [] k ρ (heap w rest) (.ref 22) (ao (heap w rest) (.ref 22)):=by
 refine Ag (f:=fun k=>.ref (95+k)) (fo:=id) (ys:=w.cA) (fun dn cz w' r'=>w=w'/\rest=r'/\cz=to.take dn.length) (by exact(jd hl rfl)) (fun dn cz w' r' u=>by rw[<-u.1];exact Ke w _) ⟨rfl,rfl,rfl⟩ (fun dn y r ex cz w' r' u N1 R1 hN hR=> ?_) fun vs w' r' u=> ?_
 ·refine iX u fun q1 q2 q3=> ?_
  subst q1 q2 q3
  refine AI (D.at dn.length y (by rw[ex];simp)) fun num p args e1 e2 e3=> ?_
  have hm:iJ (P l) (.ref (95+y)) 13 (heap w rest)=some 103:=by
   simp only[iJ,fC,e2,sQ]
   rfl
  refine gW hm (DA (W9 l) fun N2 R2 Z NK=>gV (dR e2 rfl) (gV (dR e2 rfl) (gV (dR e2 rfl) (NK _ _ (hR (om num p args) w rest ⟨rfl,rfl,?_⟩)))))
  rw[fV,yf,List.take_succ_eq_append_getElem (kX.mp e1).1,(kX.mp e1).2]
 ·refine iX u fun q1 q2 q3=> ?_
  subst q1 q2 q3
  rw[D.len,List.take_length,List.map_id]
  exact gA g
theorem O2{n:Nat}{HH:HL}{L:jl}{B:Nat}{ρ:aO}(S:cV w rest HH L B)(hB:B+50*HH.length+100<90000)(pU:ay 99 ρ=some (.ref 94))(Dp:ay 86 ρ=some (.ref 25))(ne:HH≠[]):
  go (n+900) ⟨l,39,fun Z Z=>False,fun v Z=>v=.bool true⟩ (.s (j5.body.drop 5) []) ρ (heap w rest):=by
 refine gD0 (gV pU (PU S hB pU Dp rfl ne fun xD w2 r2 x2 y2 g0 Rd Nb GC=> ?_))
 have tne:w.aR≠[]:=fun q=>by
  have h2:=congrArg List.length S.c.aR.gi
  rw[fU,fU,q]at h2
  exact ne (List.length_eq_zero_iff.mp h2.symm)
 have tnd:(w.aR.map (·.1)).Nodup:=by rw[S.c.aR.gi];exact S.nd
 have wt:w2.aR=w.aR:=by rw[y2.same]
 have w39:w2.bk=L.1:=by rw[y2.same];exact S.c.bk
 have w93:w2.iI=L.1:=by rw[y2.same];exact S.l.bk
 have w24:w2.cE=L.2.2:=by rw[y2.same];exact S.c.cE
 have w92:w2.ef=L.2.2:=by rw[y2.same];exact S.l.ef
 have w91:w2.fJ=L.2.1:=by rw[y2.same];exact S.l.fJ
 have wdr:w2.cA=w.cA:=by rw[y2.same]
 have wdp:w2.bu=0:=by rw[y2.same];exact S.bu
 have v1:eqv (heap w2 r2) (.ref 29) (.ref (95+rest.length))=some true:=HW tne tnd (by rw[E9,wt]) (by rw[fC,g0])
 have v2:eqv (heap w2 r2) (.ref 39) (.ref 93)=some true:=wo S.gi.1 (by rw[Tt,w39]) (by rw[Tn,w93])
 have v3:xH (heap w2 r2) .ne (nv w2.bu) (.int 0)=some (.bool false):=by rw[wdp];rfl
 refine gV Nb (gV (v:=.ref 29) rfl (gV GC (gV (Y6 v1) (gV Nb (gV (v:=.ref 39) rfl (gV Rd (gV (Y6 v2) (gV Nb (gV (v:=nv w2.bu) rfl (gV v3 ?_))))))))))
 refine gV Nb (gV (v:=.ref 21) rfl (gV (v:=.ref 22) rfl (ME (d:=38) (by rw[wdr];exact S.c.j6.pre x2) (by rw[wdr];have:=S.sz.cA;exact(Jx this (fR hB))) fun r3 i x3 h3=> ?_)))
 have v4:eqv (heap w2 r3) (.ref (95+i)) (.ref 91)=some true:=wo (fun v hv=>S.l.key v (by rw[S.l.fJ];exact hv)) (by rw[fC];exact h3) (by rw[Kc,w91])
 have v5:eqv (heap w2 r3) (.ref 24) (.ref 92)=some true:=wo S.gi.2 (by rw[Tu,w24]) (by rw[To,w92])
 refine gV Rd (gV (Nv v4) (gV Nb (gV (v:=.ref 23) rfl (gV (v:=.ref 24) rfl (gV Rd (gV (Nv v5) ?_))))))
 exact rfl
end
section
variable{l:List Int}{d:Nat}{w:W}{rest:H}
noncomputable def YD(w:W):Ob:=.bE 941 [(47,.ref 1),(123,.ref 20),(124,.none),(125,.none),(126,.none),(127,.ref 21),(128,.ref 23),(129,.ref 83),(130,.ref 27),(131,.ref 28),(132,.ref 29),(97,.ref 30),(45,.ref 31),(133,.ref 32),(134,.ref 33),(135,.ref 34),(136,.ref 35),(137,.ref 36),(138,.ref 37),(139,.ref 38),(140,.ref 39),(141,.ref 40),(142,.ref 41),(143,.ref 42),(144,.ref 43),(145,.ref 44),(146,.ref 45),(147,.ref 46),(148,.ref 47),(149,.ref 48),(150,.ref 49),(151,.ref 50),(152,.ref 51),(153,.ref 52),(154,.ref 53),(155,.ref 54),(156,.ref 55),(157,.ref 56),(158,.ref 57),(159,.ref 58),(160,.ref 59),(161,.ref 60),(162,.ref 61),(163,.ref 62),(164,.ref 63),(165,.int 0),(166,.ref 64),(167,.ref 65),(168,.none),(169,.none),(170,.ref 66),(171,.ref 68),(172,.ref 69),(173,.ref 71),(174,.ref 72),(175,.ref 73),(176,.ref 74),(177,nv w.bu)]
theorem Mz:ZD (fun w=>(heap w []).set 25 (YD w)) []:=
 ⟨fun Z=>rfl,fun Z Z=>rfl,fun Z=>rfl,fun Z=>rfl,fun Z Z=>rfl,fun Z=>rfl,fun w b=>by cases b<;>rfl⟩
noncomputable def W0(l:List Int):W:=⟨BA,[],[],0,false,[],[],[],0,0,false,[],[],[],[],[],(l.take 63).map .int⟩
noncomputable def IG:aO:=[(99,.ref 94),(265,.ak [.ref 84,.ref 86]),(86,.ref 25),(260,.ref 0),(264,.gu)]
theorem ac0(l:List Int):kW (P l) (bC (P l) 39) (j5.body.take 4) [(264,.gu)] []=some (.next,IG,(heap (W0 l) []).set 25 (YD (W0 l))):=by kernel_rfl
theorem aeV:dj BA:=⟨⟨[],by simp⟩,by decide+kernel,by decide+kernel⟩
theorem acY(l:List Int):cV (W0 l) [] [] ([],[],[]) 63:=by
 refine⟨⟨aeV,⟨?_,?_⟩,fun k v=>bJ,rfl,⟨fun k v=>bJ,fun K wc v Z=>bJ⟩⟩,?_,rfl,⟨.nil,rfl,rfl,.nil⟩,⟨rfl,rfl,rfl,rfl,nofun⟩,fun x K=>bJ,List.nodup_nil,⟨fun v h=>by simp at h,fun v h=>by simp at h⟩⟩
 ·intro v hv
  refine aD (eY.mp hv) fun i Z q2=> ?_;subst q2
  rfl
 ·show((l.take 63).map V.int).length<=63
  rw[fU,List.length_take];lia
 ·constructor<;>simp[W0,BA]
theorem FS{Q:b5}{c:Calls}{b:List St}{cu:aO}{σ1:H}{r:Option (Fl×aO×H)}(hb:kW Q c b cu σ1=r):∀{a:List St} {ρ:aO} {σ:H},kW Q c a ρ σ=some (.next,cu,σ1)->kW Q c (a++b) ρ σ=r
 |[],ρ,σ,h=>by
  cases h;exact hb
 |s::t,ρ,σ,h=>by
  rw[kW]at h
  rw[List.cons_append,kW]
  split at h
  ·exact FS hb h
  ·exact nomatch h
  ·exact bJ h
theorem PB(l:List Int):go 1050 ⟨l,39,fun Z Z=>False,fun v Z=>v=.bool true⟩ (.s (j5.body.drop 4) []) IG ((heap (W0 l) []).set 25 (YD (W0 l))):=by
 refine agN (body:=Oz) (fun dn ρ σ=>∃hp w r HH L,ZD hp r/\hp w=σ/\cV w r HH L (63+15700*dn.length)/\w.aA<=8*dn.length/\(dn≠[]->HH≠[]/\heap w r=hp w)/\Lk ρ) (mH rfl) ⟨_,_,_,_,_,Mz,rfl,acY l,bX _,fun h=>absurd rfl h,⟨rfl,rfl,rfl,rfl⟩⟩ (fun dn y r e ρ σ u N1 hN=> ?_) fun ρ σ u=> ?_
 ·refine mF u fun hp w r HH L F e2 S pl Z K=> ?_
  subst e2
  have len:dn.length<5:=by have:=congrArg List.length e;rw[fV,ql,List.length_range]at this;lia
  refine Wn F S (by lia) ⟨K.pU,K.Dp,K.OA,K.Ji⟩ fun be w' r' m8 L' x S' q ne K'=>hN _ _ ⟨fun w=>heap w r',w',r',m8,L',CM r',rfl,S'.le ?_,?_,fun Z=>⟨ne,rfl⟩,K'⟩
  ·rw[fV,yf];lia
  ·rw[fV,yf];exact(uZ q pl)
 ·refine mF u fun hp w r HH L F e2 S pl ne K=> ?_
  subst e2
  refine dw (ne nofun) fun ne e=> ?_
  rw[<-e]
  have pl:w.aA<=8*5:=pl
  have S:cV w r HH L (63+15700*5):=S
  exact O2 S (by have:=Pw S.nd S.pV;lia) K.pU K.Dp ne
theorem YW:∀l:List Int,l.length<=63->∃σ,bC (P l) 40 1447 [.gu] []=some (.bool true,σ):=fun l Z=>by
 have h:jB _ _ (kW (P l) (bC (P l) 39) (j5.body.drop 4) IG ((heap (W0 l) []).set 25 (YD (W0 l)))):=kD _ _ _ _ _ (qX _ _ _ _ _ (PB l))
 have e:∃ρ σ,kW (P l) (bC (P l) 39) (j5.body.drop 4) IG ((heap (W0 l) []).set 25 (YD (W0 l)))=some (.ret (.bool true),ρ,σ):=by
  generalize kW (P l) (bC (P l) 39) (j5.body.drop 4) IG ((heap (W0 l) []).set 25 (YD (W0 l)))=x at h⊢
  cases h with
  |ret h=>exact⟨_,_,by rw[h]⟩
  |next h=>exact h.elim
 refine Vy e fun ρ σ e=>⟨σ,V3 (PX l) rfl ?_⟩
 have:kW (P l) (bC (P l) 39) j5.body [(264,.gu)] []=some (.ret (.bool true),ρ,σ):=
  (congrArg (fun b=>kW (P l) (bC (P l) 39) b [(264,.gu)] []) (List.take_append_drop 4 j5.body).symm).trans (FS (a:=j5.body.take 4) (b:=j5.body.drop 4) e (ac0 l))
 unfold exF
 rw[this]
end
end
end Mine.Internal.Mine
theorem PySem.Challenge.cw_xw0130_01_holds : PySem.Challenge.rw_xw0130_01.Holds :=
  Mine.Internal.Mine.aeO (Mine.Internal.Mine.YX Mine.Internal.Mine.YW)
