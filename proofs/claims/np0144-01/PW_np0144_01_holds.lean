import PyProof.Rows.All
import Wide.All
import OpenK.AllK
import Wide.FinOn
import Lean
import PySem.Challenge.RW_np0144_01
set_option Elab.async false
set_option maxRecDepth 100000
set_option linter.unusedVariables false
set_option genInjectivity false
set_option genSizeOf false
set_option tactic.hygienic false
set_option bootstrap.genMatcherCode false
set_option genCtorIdx false
set_option compiler.extract_closed false
open PySem PySem.W PyProof.Rows
namespace Mine.Internal
section
open PySem.Calls
noncomputable abbrev rw0:OpenLaw:=PySem.Challenge.rw_np0144_01
noncomputable def qv:Program:={ rw0.prog with main:={ rw0.prog.main with body:=rw0.prog.main.body.drop 67 } }
theorem s_3:namesResolve rw0.row.toRowW.prog=true:=by kernel_rfl
theorem s_5:noRoadLSs { strict:=!(importedModules rw0.row.toRowW.prog.main.body).all cThrough.contains,foot:=none,bare:=(["vars","dir","locals"]:List Str).filter (readsOut rw0.row.toRowW.prog rw0.row.toRowW.prog.main.body) } rw0.row.toRowW.prog.main.body=true:=by kernel_rfl
theorem s_6:namesMeet rw0.row.toRowW.prog rw0.row.toRowW.prog.main.body (fun _ n=>attrL n)=true:=by kernel_rfl
theorem RD:looksOpen rw0.row.toRowW.prog=true:=by
 unfold looksOpen
 rw[s_3,s_5,s_6]
 kernel_rfl
theorem VI:rw0.row.wellSaid=true:=by
 unfold OpenRow.wellSaid OpenRow.partSaid
 rw[RD]
 kernel_rfl
theorem QO:rw0.wellSaid=true:=by
 unfold OpenLaw.wellSaid
 rw[VI]
 kernel_rfl
end
section
open PySem.Calls
noncomputable def JP:DefRec:=match(defOf qv rw0.row.name)with|some x=>x.1|none=>{ name:=Str.empty,params:={ posonlyargs:=[],args:=[],vararg:=none,kwonlyargs:=[],kw_defaults:=[],kwarg:=none,defaults:=[] },body:=[],scope:={ kind:=.function,names:=[],isGenerator:=false,isCoroutine:=false,more:=[] },pos:=⟨0,0,0,0⟩ }
theorem VJ:defOf qv rw0.row.name=some (JP,[]):=by kernel_rfl
theorem VH:rw0.row.prog.theDef rw0.row.name=some (JP.params,JP.body,JP.scope):=by kernel_rfl
theorem ZP:(chainsOk qv&&opensWell rw0.row.prog&&(frees rw0.row.toRowW&&rw0.row.toRowW.within.isEmpty))=true:=by kernel_rfl
theorem QR:rw0.row.prog.bare:=⟨rfl,rfl,rfl,rfl,rfl,by decide +kernel⟩
theorem QP:rw0.row.toRowW.promised:=⟨[.list []],by decide +kernel,by decide +kernel⟩
end
section
open PySem.Calls
noncomputable abbrev rp:Program:=rw0.row.toRowW.prog
noncomputable def z0:Pos:=⟨0,0,0,0⟩
noncomputable def JF:Env:={ scope:=rp.main.scope,locals:=mainNs,globals:=mainNs,cells:=[],code:=.ref 13,frame:=some 14 }
noncomputable def cE:Code:=.body (behindTheImports rp) JF
noncomputable def H0(w:World):Heap:=boot_heap w.params
noncomputable def S0(w:World)(os:OsState):Shared:=⟨H0 w,⟨[]⟩,boot_drawn,boot_toks,os⟩
noncomputable def Sa(w:World)(os:OsState):Shared:=match topGo treeTable rp w 11 (some (.ref 6)) 12 (S0 w os) (topStub rp)with|some x=>x.1|none=>S0 w os
theorem TG(w:World)(os:OsState):topGo treeTable rp w 11 (some (.ref 6)) 12 (S0 w os) (topStub rp)=some (Sa w os,⟨denote treeTable cE,cE,z0,[topFrame z0]⟩):=by kernel_rfl
noncomputable def Sb(w:World)(os:OsState):Shared:=match segRun treeTable rp w 11 (some (.ref 6)) 1 2 (Sa w os) (blockOf (behindTheImports rp) JF cE z0 [topFrame z0])with|some x=>x.2.1|none=>S0 w os
theorem TJ(w:World)(os:OsState):segRun treeTable rp w 11 (some (.ref 6)) 1 2 (Sa w os) (blockOf (behindTheImports rp) JF cE z0 [topFrame z0])=some (.next,Sb w os,cE,z0):=by kernel_rfl
noncomputable def QH(l:List Obj):BT:=((List.range l.length).zip l).foldl (fun t x=>t.ins x.1 x.2) .nil
noncomputable def T0(w:World)(os:OsState):SharedT:=⟨QH (Sb w os).heap.objs.toList,15,{},⟨[]⟩,{},187,os⟩
theorem YF(w:World)(os:OsState):(T0 w os).abs=Sb w os:=by kernel_rfl
end
section
open PySem.Calls
noncomputable def lq:List Str:=((rw0.prog.main.scope.names.map (·.1)).filter (fun x=>x != Str.ofString "law"))
noncomputable def XtQ(s:Shared):Bool:=xlAt qv [] s&&recOk (RowW.records rw0.row.toRowW) s
noncomputable def AX(w:World)(os:OsState):Option (Flow×SharedT×Code×Pos):=segRunT treeTable rp w 11 (some (.ref 6)) 1 5506 (T0 w os) (piecesOf (behindTheImports rp) JF cE z0 [topFrame z0])
noncomputable def hW(w:World)(os:OsState):Option (Flow×SharedT×Code×Pos):=PySem.W.Fast.tw10110043849684766642 PySem.W.Fast.tw14364793385576792824 rp w 11 (some (.ref 6)) 1 5506 (T0 w os) (piecesOf (behindTheImports rp) JF cE z0 [topFrame z0])
theorem yA(w:World)(os:OsState):AX w os=hW w os:=by
 unfold AX hW
 rw[PySem.W.Fast.te10110043849684766642,PySem.W.Fast.te14364793385576792824]
noncomputable def HQ:Flow→Bool
 |.next=>true
 |_=>false
noncomputable def AR(w:World)(s:Shared):=((staticsOk (importedModules rp.main.body) (H0 w) s.heap&&namesBound rp s.heap&&gensDone s&&laidKept (H0 w) s.heap),openSeen qv lq (importedModules rp.main.body) XtQ true s)
theorem NM(w:World)(os:OsState):(hW w os).map (fun x=>AR w x.2.1.abs)=(hW w os).map (fun _=>(true,openGood qv lq)):=by kernel_rfl
end
section
theorem ZS{a n v:Nat}(h:a≤n)(g:n≤a+v):a+(v - (a+v - n))=n:=by
 obtain⟨k,rfl⟩:=Nat.le.dest h
 rw[Nat.add_sub_add_left,Nat.sub_sub_self (Nat.le_of_add_le_add_left g)]
theorem ZR{m l i:Nat}(h:m≤i):m+(l+(i - m) - l)=i:=by rw[Nat.add_sub_cancel_left,Nat.add_sub_cancel' h]
theorem dp1{a d l:Nat}(h:a+3*(d+1)+2<l):a+1+3*d+3<l:=by
 rw[Nat.add_right_comm a 1]
 exact Nat.lt_of_le_of_lt (Nat.add_le_add_left (show 4≤5 by decide) (a+3*d)) h
theorem un1{a d l:Nat}(h:a+12*(d+1)+6<l):a+3+12*d+12<l:=by
 rw[Nat.add_right_comm a 3]
 exact Nat.lt_of_le_of_lt (Nat.add_le_add_left (show 15≤18 by decide) (a+12*d)) h
theorem tc{a b x k j l:Nat}(h:a≤b+k)(g:b+x+(k+j)<l):a+x+j<l:=by
 refine Nat.lt_of_le_of_lt ?_ g
 rw[←Nat.add_assoc,Nat.add_right_comm b x k]
 exact Nat.add_le_add_right (Nat.add_le_add_right h x) j
theorem ml{a k d d' j l:Nat}(h:d≤d')(g:a+k*d'+j<l):a+k*d+j<l:=Nat.lt_of_le_of_lt (Nat.add_le_add_right (Nat.add_le_add_left (Nat.mul_le_mul_left k h) a) j) g
theorem mx{a b k d:Nat}(h:a+k≤d)(g:b+k≤d):max a b+k≤d:=by
 rcases Nat.le_total a b with q|q
 ·rw[Nat.max_eq_right q];exact g
 ·rw[Nat.max_eq_left q];exact h
theorem lf{a b f k d:Nat}(h:b+20*f≤d)(e:a+k≤b):a+20*f+k≤d:=Nat.le_trans (by rw[Nat.add_right_comm];exact Nat.add_le_add_right e _) h
theorem lc{b f k d:Nat}(h:b+20*f≤d)(e:k≤b):k≤d:=Nat.le_trans e (Nat.le_trans (Nat.le_add_right _ _) h)
theorem c74{k c f:Nat}(h:k≤c):k≤c+20*f:=Nat.le_trans h (Nat.le_add_right _ _)
theorem mk2{a b f k c:Nat}(h:a+k≤c)(g:b+k≤c):max (a+20*f) b+k≤c+20*f:=mx (lf (Nat.le_refl _) h) (c74 g)
theorem mk3{a b f k c d:Nat}(q:c+20*f≤d)(h:a+k≤c)(g:b+k≤c):max (a+20*f) b+k≤d:=Nat.le_trans (mk2 h g) q
theorem sl{n m l:Nat}(h:n+m≤l):n≤l:=Nat.le_trans (Nat.le_add_right _ _) h
theorem rs{s a b l:Nat}(h:s+(a+b)≤l):s+a≤l:=Nat.le_trans (Nat.add_le_add_left (Nat.le_add_right a b) s) h
theorem mxl{a b k d:Nat}(h:max a b+k≤d):a+k≤d:=Nat.le_trans (Nat.add_le_add_right (Nat.le_max_left _ _) _) h
theorem mxr{a b k d:Nat}(h:max a b+k≤d):b+k≤d:=Nat.le_trans (Nat.add_le_add_right (Nat.le_max_right _ _) _) h
theorem pt{a b c m n:Nat}(x:b≤a+m)(y:c≤b+n):c≤a+(m+n):=Nat.le_trans y (Nat.le_trans (Nat.add_le_add_right x n) (Nat.le_of_eq (Nat.add_assoc a m n)))
theorem rl{s s' m n l:Nat}(h:s+(m+n)≤l)(x:s'≤s+m):s'+n≤l:=Nat.le_trans (Nat.add_le_add_right x n) (Nat.le_trans (Nat.le_of_eq (Nat.add_assoc s m n)) h)
theorem fk5{f k n:Nat}(h:5≤f+1+k)(g:k<n):5≤f+n:=Nat.le_trans h (by rw[Nat.add_assoc,Nat.add_comm 1 k];exact Nat.add_le_add_left g f)
theorem sbs{n k:Nat}(h:k≤n):n+1 - k=n - k+1:=Nat.succ_sub h
theorem xl{lim deep:Int}{f:Nat}(g:deep+1>lim)(x:lim=40)(y:deep+((f+1:Nat):Int)≤40):False :=
 Int.not_lt.mpr (Int.le_trans (Int.add_le_add_left (Int.ofNat_le.mpr (Nat.succ_le_succ (Nat.zero_le f))) deep) y) (x▸g)
theorem kq{k:Nat}{x:Int}(h0:0≤x)(h:x<4 - (k:Int)):k+1+x.toNat≤4:=by
 obtain⟨n,rfl⟩:=Int.eq_ofNat_of_zero_le h0
 show k+1+n≤4
 rw[Nat.add_right_comm,Nat.add_comm k n]
 exact Int.ofNat_lt.mp (Int.add_lt_of_lt_sub_right h)
theorem mq4:∀n,n<4→1+((n:Nat):Int)∈[(1:Int),2,3,4]:=by decide
theorem le5:∀n,n≤5→n=0∨n=1∨n=2∨n=3∨n=4∨n=5:=by decide
theorem lt5:∀n,n<5→n=0∨n=1∨n=2∨n=3∨n=4:=by decide
noncomputable def lQ:Str⊕Bool→Value→Bool
 |.inl x,v=>Value.isStrOf x v
 |.inr b,.bool c=>b==c
 |.inr _,_=>false
theorem dF{x:Str}{v:Value}(h:lQ (.inl x) v=true):∃t,v = .str x t:=Value.isStrOf_shape h
theorem dX{b:Bool}{v:Value}(h:lQ (.inr b) v=true):v = .bool b:=by
 cases v with
 |bool c=>exact congrArg Value.bool (eq_of_beq h).symm
 |_=>exact Bool.noConfusion h
section
variable{prog:Program}{w:World}{A:Around}{E:Value→Shared→Prop}{s:Shared}
theorem tP{b:Bool}{Q:Int→Shared→Prop}(h:Q (if b then 1 else 0) { s with toks:=s.toks+1 }):wpAny (model prog w) A (pyHash (.bool b)) Q E s:=by
 unfold pyHash
 have hv:[Value.bool b].any Value.onHeap=false:=rfl
 refine wpAny_bind ?_
 rw[cRoomFor,if_neg (by rw[hv];exact Bool.false_ne_true)];refine wpAny_pure ?_
 refine wpAny_bind (wpAny_specialOf (PyProof.Rows.typeIs_bool s b) PySem.F.slot_bool_hash.lookup ?_)
 show wpAny _ _ (if(some (Value.builtin "int.__hash__")==some Value.none)=true then _ else _) Q E s
 rw[if_neg (by rw[beq_builtin_none];exact Bool.false_ne_true)]
 refine wpAny_bind (wpAny_specialOf (PyProof.Rows.typeIs_bool s b) PySem.F.slot_bool_hash.lookup ?_)
 show wpAny _ _ (callSpecialIfBoundUnlessNone? (.bool b) "__hash__" _>>=_) Q E s
 cases b
 ·refine wpAny_bind (wpAny_callSpecialIfBoundUnlessNone?_slot (PyProof.Rows.typeIs_bool s false) PySem.F.slot_bool_hash
   (wpAny_call_entry PySem.F.slot_bool_hash (PyProof.Rows.typeIs_bool s false) PySem.F.entry_int_hash
    (show wpAny _ _ (do ret (←mkInt 0)) _ _ s from wpAny_ret_mkInt ?_) (PySem.F.args_int_hash_1 _)))
  exact wpAny_pure h
 ·refine wpAny_bind (wpAny_callSpecialIfBoundUnlessNone?_slot (PyProof.Rows.typeIs_bool s true) PySem.F.slot_bool_hash
   (wpAny_call_entry PySem.F.slot_bool_hash (PyProof.Rows.typeIs_bool s true) PySem.F.entry_int_hash
    (show wpAny _ _ (do ret (←mkInt 1)) _ _ s from wpAny_ret_mkInt ?_) (PySem.F.args_int_hash_1 _)))
  exact wpAny_pure h
theorem lB{a b:Value}{v:Bool}{Q:Bool→Shared→Prop}(hf:∀f g,eqBool.match_1 (fun _=>Sem Bool) (a,b) f g=g (a,b))(hv:(a==b)=true→v=true)(hc:(a==b)=false→∀Q' E,Q' (.bool v) s→wpAny (model prog w) A (compareOp .Eq a b) Q' E s)
  (h:Q v s):wpAny (model prog w) A (eqBool a b) Q E s:=by
 unfold eqBool
 try with_reducible refine wpAny_holding ?_
 cases q:a==b with
 |true =>
  rw[if_pos rfl]
  exact wpAny_bind (wpAny_rule (wpAny_pure (hv q▸h)))
 |false =>
  rw[if_neg Bool.false_ne_true]
  dsimp only
  rw[hf]
  exact wpAny_bind (hc q _ _ (wpAny_truthy_bool h))
end
inductive KV:Str⊕Bool→Value→Prop
 |s(x:Str)(t:Tok):KV (.inl x) (.str x t)
 |b(c:Bool):KV (.inr c) (.bool c)
theorem PK{k:Str⊕Bool}{v:Value}(h:lQ k v=true):KV k v:=by
 cases k with
 |inl x=>obtain⟨t,rfl⟩:=dF h;exact .s x t
 |inr c=>rw[dX h];exact .b c
theorem SQ(x y:Str):decide (Sum.inl x=(Sum.inl y:Str⊕Bool))=decide (x=y):=by simp
theorem UL(x y:Bool):decide (Sum.inr x=(Sum.inr y:Str⊕Bool))=(x==y):=by cases x<;>cases y<;>rfl
noncomputable def AE(prog:Program)(w:World):KeyKind prog w (Str⊕Bool) where
 is:=lQ
 hash:=fun k=>match k with | .inl x=>hashStr w x | .inr b=>if b then 1 else 0
 inj:=fun v a b ha hb=>by
  cases a with
  |inl x =>
   obtain⟨t,rfl⟩:=dF ha
   cases b with
   |inl y=>obtain⟨u,e⟩:=dF hb;injection e with e;rw[e]
   |inr y=>cases dX hb
  |inr x =>
   have:=dX ha;subst this
   cases b with
   |inl y=>obtain⟨u,e⟩:=dF hb;cases e
   |inr y=>have:=dX hb;injection this with e;rw[e]
 byValue:=fun k v h=>by
  cases k with
  |inl x=>obtain⟨t,rfl⟩:=dF h;rfl
  |inr x=>have:=dX h;subst this;rfl
 pyHash:=fun{A E s k v Q} hv h=>by
  cases k with
  |inl x=>obtain⟨t,rfl⟩:=dF hv;exact wpAny_pyHash_str h
  |inr x=>have:=dX hv;subst this;exact tP h
 eqBool:=fun{A E s a b u v Q} hu hv h=>by
  have hu:=PK hu
  have hv:=PK hv
  cases hu with
  |s x t =>
   cases hv with
   |s y t'=>exact wpAny_eqBool_str (SQ x y▸h)
   |b y=>exact lB (v:=false) (fun _ _=>rfl) (fun q=>nomatch q) (fun _ _ _ q=>PySem.EqMixed.eq_str_bool q) h
  |b x =>
   cases hv with
   |s y t'=>exact lB (v:=false) (fun _ _=>rfl) (fun q=>nomatch q) (fun _ _ _ q=>PySem.EqMixed.eq_bool_str q) h
   |b y=>exact lB (v:=x==y) (fun _ _=>rfl) (fun q=>by simpa using q) (fun _ _ _ q=>eq_bool q) (UL x y▸h)
 «strs»:=fun k x t v h=>by
  cases k with
  |inl y =>
   obtain⟨u,e⟩:=dF h;injection e with e;subst e
   cases v<;>rfl
  |inr y=>cases h
end
section
set_option genCtorIdx true in
inductive BI where
 |len | isinst | append | pop | index | dget | dpop | join | split | einit
noncomputable def BI.id:BI→String
 |.len=>"len" | .isinst=>"isinstance" | .append=>"list.append" | .pop=>"list.pop" | .index=>"list.index" | .dget=>"dict.get" | .dpop=>"dict.pop"
 |.join=>"str.join" | .split=>"str.split" | .einit=>"Exception.__init__"
set_option genCtorIdx true in
inductive IC where
 |slice | range | rangeIt
noncomputable def IC.id:IC→String
 |.slice=>"slice" | .range=>"range" | .rangeIt=>"range_iterator"
set_option genCtorIdx true in
inductive TY where
 |exc | str | range
noncomputable def TY.id:TY→String
 |.exc=>"Exception" | .str=>"str" | .range=>"range"
inductive CK where
 |none | bool(b:Bool) | int(i:Int) | str(s:Str)
mutual
inductive IE where
 |cst(k:CK)(u:Nat)(p:Pos)
 |loc(i:Nat)(p:Pos)
 |glb(i:Nat)(p:Pos)
 |attr(o:IE)(n:Nat)(p:Pos)
 |call(f:IE)(args:IEs)(p:Pos)
 |meth(o:IE)(n:Nat)(ap:Pos)(args:IEs)(p:Pos)
 |bin(l:IE)(op:Operator)(r:IE)(p:Pos)
 |cmp(l:IE)(op:CmpOp)(r:IE)(p:Pos)
 |bool(op:BoolOp)(vs:IEs)(p:Pos)
 |not(e:IE)(p:Pos)
 |neg(k:Int)(u:Nat)(q p:Pos)
 |ite(t b o:IE)(p:Pos)
 |sub(v s:IE)(p:Pos)
 |sFrom(l:IE)(p:Pos)
 |sTo(l:IE)(p:Pos)
 |tup(es:IEs)(k:Nat)(p:Pos)
 |list(es:IEs)(p:Pos)
 |dict(ks vs:IEs)(p:Pos)
 |comp(elt:IE)(t:IT)(it:IE)(sc:Scope)(vars:List Str)(gs:List Nat)(p:Pos)
inductive IEs where
 |nil
 |cons(e:IE)(r:IEs)
inductive IT where
 |name(i:Nat)(p:Pos)
 |attr(o:IE)(n:Nat)(p:Pos)
 |sub(o i:IE)(p:Pos)
 |tup(is:List (Nat×Pos))(k:Nat)(p:Pos)
end
mutual
inductive IS where
 |expr(e:IE)(p:Pos)
 |retN(p:Pos)
 |ret(e:IE)(p:Pos)
 |asg(t:IT)(v:IE)(p:Pos)
 |aug(o:IE)(n:Nat)(tp:Pos)(op:Operator)(v:IE)(p:Pos)
 |ifs(t:IE)(b e:ISs)(p:Pos)
 |fors(t:IT)(it:IE)(b:ISs)(p:Pos)
 |whl(t:IE)(b:ISs)(p:Pos)
 |raise(e:IE)(p:Pos)
 |tryX(b:ISs)(ty:IE)(nm:Nat)(hb:ISs)(hp:Pos)(fin:ISs)(p:Pos)
 |tryF(b:ISs)(fin:ISs)(p:Pos)
 |pass(p:Pos)
inductive ISs where
 |nil
 |cons(s:IS)(r:ISs)
end
mutual
inductive SV where
 |none | bool(b:Bool) | int(i:Int) | str(s:Str) | top(a:Nat) | bi(id:BI) | ty(n:TY)
 |ref(i:Nat) | ext(a:Nat) | opq(n:Nat) | any | fz(o:SO) | txt(l:List (Str×Str)) | pce(v n:Str) | raw(i:Int) | ostr(o:Option Str) | sm(n:Nat)
inductive SO where
 |inst(C:Nat)(d:Option Nat)
 |exc(C:Nat)(d:Option Nat)(ctx:SV)(tb:Bool)
 |idict(m:List (Nat×SV))
 |list(xs:List SV)
 |clist(xs:List SV)
 |tuple(xs:List SV)
 |sdict(m:List (Str×SV))
 |tdict(m:List (List SV×SV))
 |iter(cls:IC)(vs:List SV)
 |lit(l:SV)(k:Nat)
 |finst(C:Nat)(m:List (Nat×SV))
 |dead
end
noncomputable def SV.ctorIdx(x:SV):Nat:=SV.casesOn (motive_1:=fun _=>Nat) x 0 (fun _=>1) (fun _=>2) (fun _=>3) (fun _=>4) (fun _=>5) (fun _=>6) (fun _=>7) (fun _=>8) (fun _=>9) 10 (fun _=>11) (fun _=>12) (fun _ _=>13) (fun _=>14) (fun _=>15) (fun _=>16)
noncomputable def SO.ctorIdx(x:SO):Nat:=SO.casesOn (motive_2:=fun _=>Nat) x (fun _ _=>0) (fun _ _ _ _=>1) (fun _=>2) (fun _=>3) (fun _=>4) (fun _=>5) (fun _=>6) (fun _=>7) (fun _ _=>8) (fun _ _=>9) (fun _ _=>10) 11
structure Tr where
 a:List Addr
 z:List (Addr×SO)
noncomputable def sp1:Str:=⟨#[32]⟩
noncomputable def BR:Str:=⟨#[59]⟩
noncomputable def pieceOf(x:Str×Str):Str:=x.1++sp1++x.2
noncomputable def aO:List (Str×Str)→Str
 |[]=>""
 |[x]=>pieceOf x
 |x::r=>pieceOf x++BR++aO r
noncomputable def wH(s:Str):Prop:=s.cps.toList≠[]∧32∉s.cps.toList∧59∉s.cps.toList
noncomputable def VR(ρ:Tr):SV→Value→Prop
 |.none,v=>v = .none
 |.bool b,v=>v = .bool b
 |.int i,v=>∃t,v = .int i t
 |.raw i,v=>v = .int i 0
 |.str s,v=>∃t,v = .str s t
 |.top a,v=>v = .ref a
 |.bi id,v=>v = .builtin id.id
 |.ty n,v=>v = .type n.id
 |.ref i,v=>∃a,ρ.a[i]?=some a∧v = .ref a
 |.ext a,v=>v = .ref a
 |.opq n,v=>∃s t,v = .str s t∧s.length≠0∧s.length≤n
 |.any,v=>handedIn v=true
 |.ostr o,v=>match o with
  |some s=>∃t,v = .str s t
  |none=>v = .none
 |.sm j,v=>match j with
  |0=>∃t,v = .str "" t
  |j+1=>∃s t,v = .str s t∧s.length≠0∧s.length≤300*(j+1)
 |.fz o,v=>∃a,(a,o)∈ρ.z∧v = .ref a
 |.txt l,v=>∃t,v = .str (aO l) t∧(l≠[]∧(aO l).length≤1000000)∧∀x∈l,wH x.1∧wH x.2
 |.pce a b,v=>∃t,v = .str (pieceOf (a,b)) t∧(wH a∧wH b)∧(pieceOf (a,b)).length≤1000000
structure Tr.Le(ρ ρ':Tr):Prop where
 a:∃l,ρ'.a=ρ.a++l
 z:∀x∈ρ.z,x∈ρ'.z
theorem Tr.Le.refl{ρ:Tr}:Tr.Le ρ ρ:=⟨⟨[],by simp⟩,fun _ h=>h⟩
theorem Tr.Le.idx{ρ ρ':Tr}(x:Tr.Le ρ ρ'){i:Nat}{a:Addr}(h:ρ.a[i]?=some a):ρ'.a[i]?=some a:=by
 obtain⟨l,e⟩:=x.a;rw[e,List.getElem?_append_left (List.getElem?_eq_some_iff.mp h).1];exact h
noncomputable def Tr.add(ρ:Tr)(a:Addr):Tr:=⟨ρ.a++[a],ρ.z⟩
theorem Tr.le_add{ρ:Tr}{a:Addr}:Tr.Le ρ (ρ.add a):=⟨⟨[a],rfl⟩,fun _ h=>h⟩
theorem VR.mono{ρ ρ':Tr}(L:Tr.Le ρ ρ'){x:SV}{v:Value}(h:VR ρ x v):VR ρ' x v:=by
 cases x<;>try exact h
 ·obtain⟨a,ha,e⟩:=h;exact⟨a,L.idx ha,e⟩
 ·obtain⟨a,ha,e⟩:=h;exact⟨a,L.z _ ha,e⟩
theorem aN{a b:Bool}(h:(a&&b)=true):a=true∧b=true:=Bool.and_eq_true_iff.mp h
inductive OC {α:Type}(a:Option α)(b:Option (List α))(c:List α):Prop
 | mk (x:α)(l:List α)(h1:a=some x)(h2:b=some l)(e:c=x::l)
noncomputable def mV {α:Type}:Option α→Option (List α)→Option (List α)
 | some x,some l=>some (x::l)
 | _,_=>none
theorem zU{α:Type}{a:Option α}{b:Option (List α)}{c:List α}(h:mV a b=some c):OC a b c:=by
 cases a with
 |none=>cases h
 |some x =>
  cases b with
  |none=>cases h
  |some l=>exact⟨x,l,rfl,rfl,(Option.some.inj h).symm⟩
theorem nos{α:Type}{a:α}{C:Prop}(h:none=some a):C:=nomatch h
noncomputable def aK{α β:Type}(R:α→β→Prop):List α→List β→Prop
 |[],[]=>True
 |a::l,b::r=>R a b∧aK R l r
 |_,_=>False
theorem aK.imp {α β:Type}{R R':α→β→Prop}(f:∀ a b,R a b→R' a b):∀ {l:List α}{r:List β},aK R l r→aK R' l r
 | [],[],_=>trivial
 | _::_,_::_,h=>⟨f _ _ h.1,aK.imp f h.2⟩
 | [],_::_,h=>h.elim
 | _::_,[],h=>h.elim
theorem aK.cons_inv {α β:Type}{R:α→β→Prop}{a:α}{l:List α}{r:List β}(h:aK R (a::l) r):∃ b r',r=b::r'∧R a b∧aK R l r':=by
 cases r with
 | nil=>exact h.elim
 | cons b r=>exact ⟨b,r,rfl,h.1,h.2⟩
theorem aK.nil_inv{α β:Type}{R:α→β→Prop}{r:List β}(h:aK R [] r):r=[]:=by
 cases r with
 |nil=>rfl
 |cons b r=>exact h.elim
theorem aK.one{α β:Type}{R:α→β→Prop}{a:α}{r:List β}(h:aK R [a] r):∃x,r=[x]∧R a x :=
 let⟨x,_,e,h1,h⟩:=h.cons_inv
 ⟨x,h.nil_inv▸e,h1⟩
theorem aK.two{α β:Type}{R:α→β→Prop}{a b:α}{r:List β}(h:aK R [a,b] r):∃x y,r=[x,y]∧R a x∧R b y :=
 let⟨x,_,e,h1,h⟩:=h.cons_inv
 let⟨y,e',h2⟩:=h.one
 ⟨x,y,e'▸e,h1,h2⟩
theorem aK.three{α β:Type}{R:α→β→Prop}{a b c:α}{r:List β}(h:aK R [a,b,c] r):∃x y z,r=[x,y,z]∧R a x∧R b y∧R c z :=
 let⟨x,_,e,h1,h⟩:=h.cons_inv
 let⟨y,z,e',h2,h3⟩:=h.two
 ⟨x,y,z,e'▸e,h1,h2,h3⟩
theorem aK.length{α β:Type}{R:α→β→Prop}:∀{l:List α}{r:List β},aK R l r→l.length=r.length
 |[],[],_=>rfl
 |_::_,_::_,h=>congrArg (· + 1) (aK.length h.2)
 |[],_::_,h=>h.elim
 |_::_,[],h=>h.elim
theorem aK.append{α β:Type}{R:α→β→Prop}:∀{l:List α}{r:List β}{l':List α}{r':List β},aK R l r→aK R l' r'→aK R (l++l') (r++r')
 |[],[],_,_,_,h=>h
 |_::_,_::_,_,_,h,h'=>⟨h.1,aK.append h.2 h'⟩
 |[],_::_,_,_,h,_=>h.elim
 |_::_,[],_,_,h,_=>h.elim
theorem aK.get{α β:Type}{R:α→β→Prop}:∀{l:List α}{r:List β},aK R l r→∀{i:Nat}{a:α},l[i]?=some a→∃b,r[i]?=some b∧R a b
 |[],[],_,_,_,e=>by simp at e
 |_::_,_::_,h,0,_,e=>by simp at e;subst e;exact⟨_,rfl,h.1⟩
 |_::_,_::_,h,i+1,a,e=>by simp at e;obtain⟨b,h1,h2⟩:=aK.get h.2 e;exact⟨b,by simpa using h1,h2⟩
 |[],_::_,h,_,_,_=>h.elim
 |_::_,[],h,_,_,_=>h.elim
theorem aK.take{α β:Type}{R:α→β→Prop}:∀{l:List α}{r:List β}(n:Nat),aK R l r→aK R (l.take n) (r.take n)
 |[],[],n,_=>by cases n<;>exact trivial
 |_::_,_::_,0,_=>trivial
 |_::_,_::_,n+1,h=>⟨h.1,aK.take n h.2⟩
 |[],_::_,_,h=>h.elim
 |_::_,[],_,h=>h.elim
theorem aK.drop{α β:Type}{R:α→β→Prop}:∀{l:List α}{r:List β}(n:Nat),aK R l r→aK R (l.drop n) (r.drop n)
 |[],[],n,_=>by cases n<;>exact trivial
 |_::_,_::_,0,h=>h
 |_::_,_::_,n+1,h=>aK.drop n h.2
 |[],_::_,_,h=>h.elim
 |_::_,[],_,h=>h.elim
end
section
inductive Query where
 |call(f:Nat)(args:List SV)(hd:Option Nat)(d:Nat)(objs:List SO)(out:Except SV SV)(objs':List SO)
 |loop(t:IE)(b:ISs)(hd:Option Nat)(d:Nat)(loc:List (Option SV))(objs:List SO)(out:Except SV SV)(loc':List (Option SV))(objs':List SO)
 |eq(a b:Int)
 |get(m:List (List SV×SV))(k:List (Str⊕Bool))(v:SV)
 |absent(m:List (List SV×SV))(k:List (Str⊕Bool))
 |small(xs:List SV)
 |lt(a b:Int)(t:Bool)
 |at(xs:List SV)(k:Int)(v:SV)
 |eqs(xs ys:List SV)
 |mem(kk xs:List SV)(t:Bool)
noncomputable def Query.ctorIdx(x:Query):Nat:=Query.casesOn (motive:=fun _=>Nat) x (fun _ _ _ _ _ _ _=>0) (fun _ _ _ _ _ _ _ _ _=>1) (fun _ _=>2) (fun _ _ _=>3) (fun _ _=>4) (fun _=>5) (fun _ _ _=>6) (fun _ _ _=>7) (fun _ _=>8) (fun _ _ _=>9)
structure Ora where
 out:List SO→Except SV SV
 objs:List SO→List SO
 loc:List (Option SV)→List (Option SV)
 lp:Nat
structure St where
 loc:List (Option SV)
 objs:List SO
 orc:List Ora
 pr:List Int
 qs:List Query
 d:Nat
noncomputable abbrev M(α:Type):=St→Option (Except SV α×St)
noncomputable def aG{α:Type}(a:α):M α:=fun s=>some (.ok a,s)
noncomputable def thr{α:Type}(e:SV):M α:=fun s=>some (.error e,s)
noncomputable def aH{α:Type}:M α:=fun _=>none
noncomputable def bnd{α β:Type}(m:M α)(f:α→M β):M β:=fun s=>match m s with
 |none=>none
 |some (.error e,s')=>some (.error e,s')
 |some (.ok a,s')=>f a s'
inductive BS{α β:Type}(m:M α)(f:α→M β)(s:St)(r:Except SV β)(s':St):Prop
 |err(e:SV)(h1:m s=some (.error e,s'))(h2:r = .error e)
 |ok(a:α)(s1:St)(h1:m s=some (.ok a,s1))(h2:f a s1=some (r,s'))
set_option tactic.hygienic true in
theorem aT{α β:Type}{m:M α}{f:α→M β}{s:St}{r:Except SV β}{s':St}(h:bnd m f s=some (r,s')):BS m f s r s':=by
 unfold bnd at h
 split at h
 ·cases h
 ·rename_i e s1 q;cases h;exact .err e q rfl
 ·rename_i a s1 q;exact .ok a s1 q h
noncomputable def Grows{α:Type}(m:M α):Prop:=∀s r s',m s=some (r,s')→∃l,s'.qs=l++s.qs
theorem Grows.ret{α:Type}{a:α}:Grows (aG a):=fun _ _ _ h=>by cases h;exact⟨[],rfl⟩
theorem Grows.bnd{α β:Type}{m:M α}{f:α→M β}(hm:Grows m)(hf:∀a,Grows (f a)):Grows (bnd m f):=by
 intro s r s' h
 rcases aT h with⟨e,h1,_⟩|⟨a,s1,h1,h2⟩
 ·exact hm _ _ _ h1
 ·obtain⟨l,e1⟩:=hm _ _ _ h1
  obtain⟨l',e2⟩:=hf a _ _ _ h2
  exact⟨l'++l,by rw[e2,e1,List.append_assoc]⟩
structure Eqv(b:Addr)(o o':Obj):Prop where
 cls:o'.cls=o.cls
 dict:o'.dict=o.dict
 data:¬(o.cls = .type "traceback"∧∃vs,o.data = .fields vs)→o'.data=o.data
 slots:o.cls≠.type "frame"→o'.slots=o.slots
 size:∀vs,o.data = .fields vs→∃vs',o'.data = .fields vs'∧vs'.size=vs.size
 low:b≤822→o'=o
theorem Eqv.refl{b:Addr}(o:Obj):Eqv b o o:=⟨rfl,rfl,fun _=>rfl,fun _=>rfl,fun vs h=>⟨vs,h,rfl⟩,fun _=>rfl⟩
theorem Eqv.trans{q:Addr}{a b c:Obj}(x:Eqv q a b)(y:Eqv q b c):Eqv q a c :=
 ⟨y.cls.trans x.cls,y.dict.trans x.dict,fun h=>(y.data (by rw[x.cls,x.data h];exact h)).trans (x.data h),fun h=>(y.slots (by rw[x.cls];exact h)).trans (x.slots h),
  fun vs h=>let⟨v1,h1,e1⟩:=x.size vs h;let⟨v2,h2,e2⟩:=y.size v1 h1;⟨v2,h2,e2.trans e1⟩,fun h=>(y.low h).trans (x.low h)⟩
theorem Eqv.eq{b:Addr}{o o':Obj}(x:Eqv b o o')(h1:o.cls≠.type "traceback")(h2:o.cls≠.type "frame"):o'=o:=by
 obtain⟨c,d,dt,sl⟩:=o
 obtain⟨c',d',dt',sl'⟩:=o'
 obtain⟨e1,e2,e3,e4,_,_⟩:=x
 simp only at e1 e2 e3 e4 h1 h2
 rw[e1,e2,e3 (fun z=>h1 z.1),e4 h2]
structure Kept(o o':Obj):Prop where
 cls:o'.cls=o.cls
 dict:∀es ep,o.data = .dict es ep→∃es' ep',o'.data = .dict es' ep'
theorem Kept.refl(o:Obj):Kept o o:=⟨rfl,fun es ep h=>⟨es,ep,h⟩⟩
theorem Kept.trans{a b c:Obj}(x:Kept a b)(y:Kept b c):Kept a c:=⟨y.cls.trans x.cls,fun es ep h=>let⟨es',ep',h'⟩:=x.dict es ep h;y.dict es' ep' h'⟩
theorem Eqv.kept{b:Addr}{o o':Obj}(x:Eqv b o o'):Kept o o':=⟨x.cls,fun es ep h=>⟨es,ep,(x.data (fun⟨_,vs,e⟩=>by rw[h]at e;cases e)).trans h⟩⟩
inductive bW(h':Heap)(b:Addr)(o:Obj):Prop
 |mk(o':Obj)(e:h'.get? b=some o')(q:Eqv b o o')
inductive KeptAt(h':Heap)(b:Addr)(o:Obj):Prop
 |mk(o':Obj)(e:h'.get? b=some o')(q:Kept o o')
noncomputable def Same(X:Addr→Prop)(h h':Heap):Prop:=∀b o,h.get? b=some o→¬X b→bW h' b o
theorem Same.refl(X:Addr→Prop)(h:Heap):Same X h h:=fun _ o e _=>⟨o,e,Eqv.refl o⟩
structure aF(L:Addr)(ρ:Tr)(s:Shared)(ρ':Tr)(s':Shared):Prop where
 pre:∃l,ρ'.a=ρ.a++l∧∀a∈l,s.heap.get? a=none
 zin:∀x∈ρ.z,x∈ρ'.z
 zout:∀x∈ρ'.z,x∈ρ.z∨x.1∈ρ.a∨s.heap.get? x.1=none
 same:Same (fun b=>b∈ρ.a∨b=L) s.heap s'.heap
 dom:∀b o,s.heap.get? b=some o→KeptAt s'.heap b o
 gens:s'.gens=s.gens
 os:s'.os=s.os
theorem aF.refl{L:Addr}{ρ:Tr}{s:Shared}:aF L ρ s ρ s:=⟨⟨[],by simp,by simp⟩,fun _ h=>h,fun _ h=>.inl h,Same.refl _ _,fun _ o e=>⟨o,e,Kept.refl o⟩,rfl,rfl⟩
theorem aF.le{L:Addr}{ρ ρ':Tr}{s s':Shared}(x:aF L ρ s ρ' s'):Tr.Le ρ ρ':=let⟨l,e,_⟩:=x.pre;⟨⟨l,e⟩,x.zin⟩
theorem aF.fresh{L:Addr}{ρ ρ':Tr}{s s':Shared}(x:aF L ρ s ρ' s'){b:Addr}(h:s'.heap.get? b=none):s.heap.get? b=none:=by
 cases q:s.heap.get? b with
 |none=>rfl
 |some o=>obtain⟨o',e',_⟩:=x.dom b o q;rw[h]at e';cases e'
theorem aF.trans{L:Addr}{ρ₁ ρ₂ ρ₃:Tr}{s₁ s₂ s₃:Shared}(x:aF L ρ₁ s₁ ρ₂ s₂)(y:aF L ρ₂ s₂ ρ₃ s₃):aF L ρ₁ s₁ ρ₃ s₃:=by
 obtain⟨l,e1,f1⟩:=x.pre
 obtain⟨l',e2,f2⟩:=y.pre
 refine⟨⟨l++l',by rw[e2,e1,List.append_assoc],fun a ha=>?_⟩,fun q h=>y.zin q (x.zin q h),fun q h=>?_,fun b o e hb=>?_,fun b o e=>?_,y.gens.trans x.gens,y.os.trans x.os⟩
 ·rcases List.mem_append.mp ha with h|h
  ·exact f1 a h
  ·exact x.fresh (f2 a h)
 ·rcases y.zout q h with h|h|h
  ·exact x.zout q h
  ·rw[e1]at h
   rcases List.mem_append.mp h with h|h
   ·exact .inr (.inl h)
   ·exact .inr (.inr (f1 _ h))
  ·exact .inr (.inr (x.fresh h))
 ·obtain⟨o1,e1',q1⟩:=x.same b o e hb
  have:¬(b∈ρ₂.a∨b=L):=by
   rintro(hm|hm)
   ·rw[e1]at hm
    rcases List.mem_append.mp hm with h|h
    ·exact hb (.inl h)
    ·rw[f1 b h]at e;cases e
   ·exact hb (.inr hm)
  obtain⟨o2,e2',q2⟩:=y.same b o1 e1' this
  exact⟨o2,e2',q1.trans q2⟩
 ·obtain⟨o1,e1',q1⟩:=x.dom b o e
  obtain⟨o2,e2',q2⟩:=y.dom b o1 e1'
  exact⟨o2,e2',q1.trans q2⟩
theorem aF.vr{L:Addr}{ρ ρ':Tr}{s s':Shared}(x:aF L ρ s ρ' s'){v:SV}{r:Value}(h:VR ρ v r):VR ρ' v r:=h.mono x.le
theorem aF.vrs{L:Addr}{ρ ρ':Tr}{s s':Shared}(x:aF L ρ s ρ' s'){v:List SV}{r:List Value}(h:aK (VR ρ) v r):aK (VR ρ') v r:=h.imp fun _ _=>x.vr
theorem aF.idx{L:Addr}{ρ ρ':Tr}{s s':Shared}(x:aF L ρ s ρ' s'){i:Nat}{a:Addr}(h:ρ.a[i]?=some a):ρ'.a[i]?=some a:=x.le.idx h
noncomputable def clV:SV→Bool
 |.ref _=>false
 |_=>true
noncomputable def clO:SO→Bool
 |.idict m=>m.all fun x=>clV x.2
 |.list xs=>xs.all clV
 |.tuple xs=>xs.all clV
 |.finst _ m=>m.all fun x=>clV x.2
 |.clist _=>true
 |_=>false
noncomputable def dAt:SV→Option PyData
 |.bool b=>some (.bool b)
 |.int i=>some (.int i)
 |.str s=>some (.str s)
 |.ostr (some s)=>some (.str s)
 |.txt l=>some (.str (aO l))
 |_=>none
noncomputable def dsA:List SV→Option (List PyData)
 |[]=>some []
 |x::r=>mV (dAt x) (dsA r)
noncomputable def dFz:SO→Option PyData
 |.tuple xs=>(dsA xs).map .tuple
 |_=>none
noncomputable def dOf:SV→Option PyData
 |.fz o=>dFz o
 |x=>dAt x
noncomputable def dsOf:List SV→Option (List PyData)
 |[]=>some []
 |x::r=>mV (dOf x) (dsOf r)
noncomputable def DEq(xs ys:List SV):Prop:=∃ds,dsOf xs=some ds∧dsOf ys=some ds∧PyData.canLayAll0 ds=true∧PyData.depthAll ds≤6∧PyData.eqvAll ds ds=true
noncomputable def DMem(kk xs:List SV)(t:Bool):Prop:=∃k ds,dsA kk=some k∧dsOf xs=some ds∧PyData.canLayAll0 k=true∧PyData.canLayAll0 ds=true∧PyData.depthAll k≤6∧(ds.any fun y=>PyData.eqv y (.tuple k))=t
noncomputable def SY:SV→Option (Str⊕Bool)
 |.str s=>some (.inl s)
 |.txt l=>some (.inl (aO l))
 |.bool b=>some (.inr b)
 |_=>none
noncomputable def iS:List SV→Option (List (Str⊕Bool))
 |[]=>some []
 |x::r=>mV (SY x) (iS r)
noncomputable def getT:List (List SV×SV)→List (Str⊕Bool)→Option SV
 |[],_=>none
 |(kk,v)::r,k=>bif decide (iS kk=some k)then some v else getT r k
noncomputable def atI(xs:List SV):Int→Option SV
 |.ofNat n=>xs[n]?
 |.negSucc n=>bif Nat.ble (n+1) xs.length then xs[xs.length - (n+1)]? else none
structure Gl where
 an:Nat→Str
 nA:Nat
 ca:Nat→Nat→Option (Option Nat)
 pc:Nat→Bool
 xc:Nat→Bool
 gl:List (Str×SV)
 lm:Nat→Option BI
 dm:Nat→Option BI
 sm:Nat→Option BI
 cm:SV→Nat→Option SV
 is1:List (Nat×Nat)
 is0:List (Nat×Nat)
 isn:List Nat
 K:Frag
 prog:Program
 w:World
 V:Query→Prop
 mb:Str→Option Value
noncomputable def Gl.tk(G:Gl):HeapKind G.prog G.w (List (Str⊕Bool)):=tupleKind (AE G.prog G.w)
noncomputable def rv:SV→Value
 |.bool b=>.bool b
 |.top a=>.ref a
 |.bi i=>.builtin i.id
 |.ty n=>.type n.id
 |_=>.none
noncomputable abbrev GPc(K:Frag)(C:Nat):Prop:=plainGet K C "" = true∧hasDictIn K C=true∧findIn K (.ref C) "__setattr__" = some (some (.builtin "object.__setattr__"))∧plainOver K C=true
noncomputable abbrev GXc(K:Frag)(C:Nat):Prop:=findIn K (.ref C) "__getattribute__" = some (some (.builtin "BaseException.__getattribute__"))∧findIn K (.ref C) "__getattr__" = some none∧mroIn K C (.type "BaseException")=some true ∧
  hasDictIn K C=true∧findIn K (.ref C) "__setattr__" = some (some (.builtin "object.__setattr__"))
noncomputable abbrev GSt(K:Frag)(C:Nat):Prop:=∃cd,clsIn K C=some cd∧cd.hasDict=true∧cd.mro.isEmpty=false∧cd.mro.contains (.type "object")=true∧(∀self,refuseLoop self "__setattr__" cd.mro=pure ()) ∧
  findIn K (.ref C) "__setattr__" = some (some (.builtin "object.__setattr__"))
noncomputable abbrev GSl(T:String)(n:Str)(id:BI):Prop:=Slot T n id.id∧typeOf (.builtin id.id)=pure (.type "method_descriptor")
noncomputable abbrev GCm(G:Gl)(c:SV)(n:Nat)(v:SV):Prop:=(∃C,c = .top C∨∃T,c = .ty T)∧VR ⟨[],[]⟩ v (rv v)∧∀(A:Around)(Q:Value×List Value→Shared→Prop) E(s:Shared) pl,G.K.In s.heap→(∀tk,Q (rv v,[]) { s with toks:=tk })→wpAny (model G.prog G.w) A (getMethod (rv c) (G.an n) pl) Q E s
noncomputable abbrev GGl(G:Gl)(n:Str)(v:SV):Prop:=(n==("__debug__" : Str))=false∧VR ⟨[],[]⟩ v (rv v)∧∀h,G.K.In h→(∃mg,h.Ns mainGlobals mg∧mg n=some (rv v)) ∨
  ∃mg,h.Ns mainGlobals mg∧mg n=none∧G.mb n=some (rv v)
structure GOK(G:Gl):Prop where
 inj:∀i j,i<G.nA→G.an i=G.an j→i=j
 ca0:∀C n,G.ca C n=some none→findIn G.K (.ref C) (G.an n)=some none
 ca1:∀C n f,G.ca C n=some (some f)→findIn G.K (.ref C) (G.an n)=some (some (.ref f))∧typeIn G.K (.ref f)=some (.type "function")
 pc:∀C,G.pc C=true→GPc G.K C
 xc:∀C,G.xc C=true→GXc G.K C
 st:∀C,(G.pc C||G.xc C)=true→GSt G.K C
 lm:∀n id,G.lm n=some id→GSl "list" (G.an n) id
 dm:∀n id,G.dm n=some id→GSl "dict" (G.an n) id
 sm:∀n id,G.sm n=some id→GSl "str" (G.an n) id
 cm:∀c n v,G.cm c n=some v→GCm G c n v
 veq:∀a b,G.V (.eq a b)→a=b
 vget:∀m k v,G.V (.get m k v)→(getT m k).getD .none=v
 vabs:∀m k,G.V (.absent m k)→getT m k=none∧m.length≤1000
 vsmall:∀xs,G.V (.small xs)→xs.length≤100000
 vlt:∀a b t,G.V (.lt a b t)→decide (a<b)=t
 vat:∀xs k v,G.V (.at xs k v)→atI xs k=some v
 veqs:∀xs ys,G.V (.eqs xs ys)→DEq xs ys
 vmem:∀kk xs t,G.V (.mem kk xs t)→DMem kk xs t
 big:∀h,G.K.In h→822<h.objs.size
 gl:∀(i:Nat)(n:Str)(v:SV),G.gl[i]?=some (n,v)→GGl G n v
 nolim:∀h,G.K.In h→h.NoLimit
 cls:∀a o,G.K.lookup a=some o→o.cls≠.type "frame"∧o.cls≠.type "traceback"
noncomputable def lk{α:Type}:List (Nat×α)→Nat→Option α
 |[],_=>none
 |(j,v)::r,i=>bif Nat.beq j i then some v else lk r i
noncomputable def lV(ρ:Tr)(d:Option Nat)(dr:Option Addr):Prop:=match d with
 |none=>dr=none
 |some i=>∃x,ρ.a[i]?=some x∧dr=some x
noncomputable def TbR(h:Heap)(t:Value):Prop:=t = .none∨∃b ob tv,t = .ref b∧h.get? b=some ob∧ob.cls = .type "traceback"∧ob.data = .fields tv∧5≤tv.size∧822<b
noncomputable def UP(ρ:Tr)(m:List (List SV×SV))(xs:List (List (Str⊕Bool)×Addr×Value)):Prop:=aK (fun e x=>iS e.1=some x.1∧VR ρ e.2 x.2.2∧(x.2.1,SO.tuple e.1)∈ρ.z∧clV e.2=true) m xs
inductive ORi(ρ:Tr)(h:Heap)(a:Addr)(C:Nat)(d:Option Nat):Prop
 |mk(dr:Option Addr)(e1:h.get? a=some { cls:=.ref C,dict:=dr,data:=.plain })(e2:lV ρ d dr)
inductive ORx(ρ:Tr)(h:Heap)(a:Addr)(C:Nat)(d:Option Nat)(ctx:SV)(tb:Bool):Prop
 |mk(o:Obj)(vs:Array Value)(c t:Value)(e1:h.get? a=some o)(e2:o.cls = .ref C)(e3:o.data = .fields vs)(e4:6≤vs.size)(e5:lV ρ d o.dict)(e6:vs[2]?=some c)(e7:VR ρ ctx c)(e8:vs[1]?=some t)(e9:TbR h t)(e10:tb=true→t≠.none)
inductive ORd(P:(Str→Option Value)→Prop)(h:Heap)(a:Addr)(n:Nat):Prop
 |mk(mr:Str→Option Value)(es:Array DictEntry)(ep:Nat)(e1:h.get? a=some { cls:=.type "dict",data:=.dict es ep })(e2:es.size≤n)(e3:h.Ns a mr)(e4:P mr)
inductive ORl(ρ:Tr)(h:Heap)(a:Addr)(T:String)(xs:List SV):Prop
 |mk(vs:Array Value)(n:Nat)(e1:h.get? a=some { cls:=.type T,data:=.seq vs n })(e2:aK (VR ρ) xs vs.toList)
inductive ORc(ρ:Tr)(h:Heap)(a:Addr)(xs:List SV):Prop
 |mk(vs:Array Value)(n:Nat)(e1:h.get? a=some { cls:=.type "list",data:=.seq vs n })(e2:aK (VR ρ) xs vs.toList)(e3:∀x∈xs,clV x=true)
inductive ORs(P:List (Str×Value)→Prop)(ρ:Tr)(h:Heap)(a:Addr)(m:List (Str×SV)):Prop
 |mk(kvs:List (Str×Value))(es:Array DictEntry)(ep:Nat)(e1:h.get? a=some { cls:=.type "dict",data:=.dict es ep })(e2:P kvs)(e3:aK (fun e kv=>e.1=kv.1∧VR ρ e.2 kv.2) m kvs)
inductive ORt(P:Array DictEntry→List (List (Str⊕Bool)×Addr×Value)→Prop)(ρ:Tr)(h:Heap)(a:Addr)(m:List (List SV×SV)):Prop
 |mk(xs:List (List (Str⊕Bool)×Addr×Value))(es:Array DictEntry)(ep:Nat)(e1:h.get? a=some { cls:=.type "dict",data:=.dict es ep })(e2:P es xs)(e3:(xs.map (·.1)).Nodup)(e4:UP ρ m xs)
inductive ORn(ρ:Tr)(h:Heap)(a:Addr)(T:String)(xs:List SV):Prop
 |mk(vs:Array Value)(e1:h.get? a=some { cls:=.type T,data:=.fields vs })(e2:aK (VR ρ) xs vs.toList)
inductive aCd(ρ:Tr)(h:Heap)(a:Addr)(l:SV)(k:Nat):Prop
 |mk(o:Obj)(p:Addr)(e1:h.get? a=some o)(e2:o.cls = .type "list_iterator")(e3:VR ρ l (.ref p))(e4:o.data = .fields #[.ref p,.int k 0])
section
variable(G:Gl)
noncomputable def lX{α:Type}:List (Nat×α)→Nat→α→List (Nat×α)
 |[],i,v=>[(i,v)]
 |(j,x)::r,i,v=>bif Nat.beq j i then(j,v)::r else(j,x)::lX r i v
theorem dA{i j:Nat}(h:Nat.beq i j=true):i=j:=Nat.eq_of_beq_eq_true h
theorem wF{i j:Nat}(h:Nat.beq i j=false):i≠j:=Nat.ne_of_beq_eq_false h
theorem AS{α:Type}(v:α)(i j:Nat):∀m:List (Nat×α),lk (lX m i v) j=bif Nat.beq i j then some v else lk m j
 |[]=>rfl
 |(k,x)::r=>by
  show lk (bif Nat.beq k i then(k,v)::r else(k,x)::lX r i v) j=_
  cases q:Nat.beq k i with
  |true =>
   have e:=dA q;subst e
   show(bif Nat.beq k j then some v else lk r j)=bif Nat.beq k j then some v else bif Nat.beq k j then some x else lk r j
   cases Nat.beq k j<;>rfl
  |false =>
   show(bif Nat.beq k j then some x else lk (lX r i v) j)=bif Nat.beq i j then some v else bif Nat.beq k j then some x else lk r j
   rw[AS v i j r]
   cases z:Nat.beq k j with
   |false=>rfl
   |true =>
    have e:=dA z;subst e
    have:Nat.beq i k=false:=by
     cases y:Nat.beq i k with
     |false=>rfl
     |true=>exact absurd (dA y).symm (wF q)
    rw[this];rfl
theorem lN{α:Type}(v:α)(i:Nat):∀m:List (Nat×α),(lX m i v).length=bif (lk m i).isSome then m.length else m.length+1
 |[]=>rfl
 |(k,x)::r=>by
  show(bif Nat.beq k i then(k,v)::r else(k,x)::lX r i v).length=bif (bif Nat.beq k i then some x else lk r i).isSome then r.length+1 else r.length+1+1
  cases Nat.beq k i with
  |true=>rfl
  |false =>
   show(lX r i v).length+1=bif (lk r i).isSome then r.length+1 else r.length+1+1
   rw[lN v i r]
   cases(lk r i).isSome<;>rfl
noncomputable def NsR(ρ:Tr)(m:List (Nat×SV))(mr:Str→Option Value):Prop :=
 (∀i,match lk m i with|some v=>∃x,mr (G.an i)=some x∧VR ρ v x|none=>mr (G.an i)=none)
noncomputable def lkS{α:Type}:List (Str×α)→Str→Option α
 |[],_=>none
 |(j,v)::r,i=>bif decide (j=i)then some v else lkS r i
noncomputable def OR(ρ:Tr)(h:Heap)(a:Addr):SO→Prop
 |.inst C d=>ORi ρ h a C d
 |.exc C d ctx tb=>ORx ρ h a C d ctx tb
 |.idict m=>ORd (NsR G ρ m) h a m.length
 |.list xs=>ORl ρ h a "list" xs
 |.clist xs=>ORc ρ h a xs
 |.tuple xs=>ORl ρ h a "tuple" xs
 |.sdict m=>ORs (h.DictOf (strKind G.prog G.w) a) ρ h a m
 |.tdict m=>ORt (fun es xs=>es.toList=xs.map (entryOfKey G.tk)) ρ h a m
 |.iter c xs=>ORn ρ h a c.id xs
 |.lit l k=>aCd ρ h a l k
 |.finst C m=>∃dx,(dx,SO.idict m)∈ρ.z∧h.get? a=some { cls:=.ref C,dict:=some dx,data:=.plain }
 |.dead=>True
structure Rep(ρ:Tr)(objs:List SO)(h:Heap):Prop where
 kin:G.K.In h
 len:ρ.a.length=objs.length
 nodup:ρ.a.Nodup
 off:∀a∈ρ.a,G.K.lookup a=none
 low:∀a∈ρ.a,822<a
 nofr:∀a∈ρ.a,∃o,h.get? a=some o∧o.cls≠.type "frame"∧o.cls≠.type "traceback"
 ob:∀(i:Nat)(o:SO)(a:Addr),objs[i]?=some o→ρ.a[i]?=some a→OR G ρ h a o
 fz:∀a o,(a,o)∈ρ.z→OR G ρ h a o∧(clO o=true∧822<a)∧(∃ob,h.get? a=some ob∧ob.cls≠.type "frame"∧ob.cls≠.type "traceback")∧∀i:Nat,ρ.a[i]?=some a→objs[i]?=some SO.dead
 bn:h.Ns builtinsNs G.mb
noncomputable def offK(L:Addr):Prop:=G.K.lookup L=none∧L≠builtinsNs
noncomputable def FrR(ρ:Tr)(h:Heap)(L:Addr)(vars:List Str)(loc:List (Option SV)):Prop :=
 ∃o mr,h.get? L=some o∧o.cls≠.type "traceback"∧h.Ns L mr ∧
  ∀(i:Nat)(x:Str),vars[i]?=some x→match loc[i]? with|some (some v)=>∃y,mr x=some y∧VR ρ v y|_=>True
end
noncomputable def FrsOK(h:Heap)(l:List Env):Prop:=∀e∈l,e.scope.kind = .function∧∃L o es ep,e.frame=some L∧h.get? L=some o∧o.cls = .type "frame"∧o.data = .dict es ep∧822<L
structure Ac where
 A:Around
 env:Env
 fl:List Env
 vars:List Str
 hd:Option Nat
structure Now(G:Gl)(c:Ac)(ρ:Tr)(st:St)(h:Heap):Prop where
 frames:c.A.frames=some c.fl
 depth:c.A.depth+3*st.d+3<recursionLimit
 units:c.A.units+12*st.d+12<cLine
 hd:match c.hd with|none=>c.A.handled=none|some i=>∃a,ρ.a[i]?=some a∧c.A.handled=some (.ref a)
 rep:Rep G ρ st.objs h
 fr:FrR ρ h c.env.locals c.vars st.loc
 frs:FrsOK h c.fl
 lo:c.env.locals∉ρ.a∧(∀o,(c.env.locals,o)∉ρ.z)∧offK G c.env.locals
noncomputable def WP{α:Type}(G:Gl)(c:Ac)(t:Sem α)(Q:α→Shared→Prop)(E:Value→Shared→Prop)(s:Shared):Prop:=wpAny (model G.prog G.w) c.A t Q E s
noncomputable def fK(G:Gl)(st:St):Prop:=∀q∈st.qs,G.V q
noncomputable def ZI{α β:Type}(G:Gl)(c:Ac)(R:Tr→α→β→Prop)(ρ:Tr)(s:Shared)(Q:β→Shared→Prop)(E:Value→Shared→Prop)(r:Except SV α)(st':St):Prop :=
 ∀ρ' s',aF c.env.locals ρ s ρ' s'→Now G c ρ' st' s'.heap→match r with
   |.ok a=>∀b,R ρ' a b→Q b s'
   |.error e=>∀x,VR ρ' e x→E x s'
noncomputable def oP(G:Gl)(c:Ac)(ρ:Tr)(s:Shared)(st':St)(K:Shared→Prop):Prop:=∀ρ' s',aF c.env.locals ρ s ρ' s'→Now G c ρ' st' s'.heap→K s'
noncomputable def SA{α β:Type}(G:Gl)(c:Ac)(R:Tr→α→β→Prop)(t:Sem β)(m:M α)(ρ:Tr)(st:St)(s:Shared):Prop :=
 ∀r st',m st=some (r,st')→fK G st'→∀(Q:β→Shared→Prop)(E:Value→Shared→Prop),ZI G c R ρ s Q E r st'→WP G c t Q E s
section
variable{α β γ δ:Type}{G:Gl}{c:Ac}{R:Tr→α→β→Prop}{R':Tr→γ→δ→Prop}{ρ:Tr}{st:St}{s:Shared}
theorem SA.pure{a:α}{b:β}(N:Now G c ρ st s.heap)(h:R ρ a b):SA G c R (pure b) (aG a) ρ st s:=by
 intro r st' hm hv Q E post
 cases hm
 exact wpAny_pure (post ρ s aF.refl N b h)
theorem SA.bind{t:Sem β}{f:β→Sem δ}{m:M α}{g:α→M γ}(hg:∀a,Grows (g a))(hm:SA G c R t m ρ st s)
  (hf:∀ρ₁ st₁ s₁ a b,aF c.env.locals ρ s ρ₁ s₁→Now G c ρ₁ st₁ s₁.heap→m st=some (.ok a,st₁)→R ρ₁ a b→SA G c R' (f b) (g a) ρ₁ st₁ s₁) :
  SA G c R' (t>>=f) (bnd m g) ρ st s:=by
 intro r st' h hv Q E post
 refine wpAny_bind ?_
 rcases aT h with⟨e,h1,rfl⟩|⟨a,st₁,h1,h2⟩
 ·exact hm _ _ h1 hv _ _ fun ρ' s' S N=>post ρ' s' S N
 ·obtain⟨l,hl⟩:=hg a _ _ _ h2
  refine hm _ _ h1 (fun q hq=>hv q (by rw[hl];exact List.mem_append_right _ hq)) _ _ fun ρ₁ s₁ S₁ N₁ b hb=>?_
  exact hf ρ₁ st₁ s₁ a b S₁ N₁ h1 hb r st' h2 hv Q E fun ρ' s' S N=>post ρ' s' (S₁.trans S) N
theorem SA.pre_unit{t:Sem Unit}{f:Unit→Sem β}{m:M α}(ht:∀(Q:Unit→Shared→Prop) E,Q () s→WP G c t Q E s)(hf:SA G c R (f ()) m ρ st s) :
  SA G c R (t>>=f) m ρ st s :=
 fun r st' h hv Q E post=>wpAny_bind (ht _ _ (hf r st' h hv Q E post))
theorem SA.look{t:Sem δ}{f:δ→Sem β}{m:M α}{x:δ}(ht:∀(Q:δ→Shared→Prop) E,Q x s→WP G c t Q E s)(hf:SA G c R (f x) m ρ st s) :
  SA G c R (t>>=f) m ρ st s :=
 fun r st' h hv Q E post=>wpAny_bind (ht _ _ (hf r st' h hv Q E post))
theorem SA.holding{vs:List Value}{t:Sem β}{m:M α}(h:SA G c R t m ρ st s):SA G c R (PySem.holding vs t) m ρ st s :=
 fun r st' hm hv Q E post=>wpAny_holding (h r st' hm hv Q E post)
theorem SA.standAt{p:Pos}{f:Unit→Sem β}{m:M α}(h:SA G c R (f ()) m ρ st s):SA G c R (PySem.standAt p>>=f) m ρ st s :=
 SA.pre_unit (fun _ _ q=>wpAny_standAt q) h
theorem SA.eq {t t':Sem β}{m:M α}(e:t=t')(h:SA G c R t' m ρ st s):SA G c R t m ρ st s:=e▸h
theorem SA.fail {t:Sem β}:SA G c R t (aH:M α) ρ st s:=fun _ _ h=>by cases h
end
end
section
theorem dD{α:Type}{l:List α}(hn:l.Nodup){i j:Nat}(li:i<l.length)(lj:j<l.length)(e:l[i]=l[j]):i=j:=by
 rcases Nat.lt_trichotomy i j with h|h|h
 ·exact absurd e (List.pairwise_iff_getElem.mp hn i j li lj h)
 ·exact h
 ·exact absurd e.symm (List.pairwise_iff_getElem.mp hn j i lj li h)
section
variable{G:Gl}{c:Ac}{ρ ρ':Tr}{h h':Heap}{objs:List SO}{st:St}
theorem lV.mono(L:Tr.Le ρ ρ'){d:Option Nat}{dr:Option Addr}(x:lV ρ d dr):lV ρ' d dr:=by
 cases d with
 |none=>exact x
 |some i=>obtain⟨y,hy,e⟩:=x;exact⟨y,L.idx hy,e⟩
set_option tactic.hygienic true in
theorem NsR.mono(L:Tr.Le ρ ρ'){m:List (Nat×SV)}{mr:Str→Option Value}(x:NsR G ρ m mr):NsR G ρ' m mr:=fun i=>by
 have:=x i
 split at this
 ·rename_i v q;obtain⟨y,e,r⟩:=this;exact⟨y,e,r.mono L⟩
 ·exact this
theorem TbR.keep{t:Value}(x:TbR h t)(tb:∀b o,h.get? b=some o→o.cls = .type "traceback"→bW h' b o):TbR h' t:=by
 rcases x with x|⟨b,ob,tv,e1,e2,e3,e4,e5,e6⟩
 ·exact .inl x
 ·obtain⟨o',g,q⟩:=tb b ob e2 e3
  obtain⟨tv',d',z⟩:=q.size tv e4
  exact .inr ⟨b,o',tv',e1,g,q.cls.trans e3,d',by lia,e6⟩
theorem Ns.at{a:Addr}{m:Str→Option Value}(x:h.Ns a m)(k:∀o,h.get? a=some o→∃o',h'.get? a=some o'∧o'.data=o.data):h'.Ns a m:=by
 obtain⟨o,es,ep,e,d,r⟩:=x
 obtain⟨o',e',d'⟩:=k o e
 exact⟨o',es,ep,e',d'.trans d,r⟩
theorem OR.keep(L:Tr.Le ρ ρ'){a:Addr}{so:SO}(x:OR G ρ h a so)(own:∀o,h.get? a=some o→h'.get? a=some o)
  (tb:∀b o,h.get? b=some o→o.cls = .type "traceback"→bW h' b o):OR G ρ' h' a so:=by
 cases so with
 |inst C d=>obtain⟨o,e,r3⟩:=x;exact⟨o,own _ e,r3.mono L⟩
 |exc C d ctx tb0=>obtain⟨o,vs,cx,t,e,r1,r2,r3,r4,r5,r6,r7,r8,r9⟩:=x;exact⟨o,vs,cx,t,own _ e,r1,r2,r3,r4.mono L,r5,r6.mono L,r7,r8.keep tb,r9⟩
 |idict m=>obtain⟨mr,es,ep,e,r5,r2,r3⟩:=x;exact⟨mr,es,ep,own _ e,r5,Ns.at r2 (fun o' e'=>⟨o',own _ e',rfl⟩),r3.mono L⟩
 |list xs=>obtain⟨vs,n,e,r3⟩:=x;exact⟨vs,n,own _ e,r3.imp fun _ _ z=>z.mono L⟩
 |clist xs=>obtain⟨vs,n,e,r3,r4⟩:=x;exact⟨vs,n,own _ e,r3.imp fun _ _ z=>z.mono L,r4⟩
 |tuple xs=>obtain⟨vs,n,e,r3⟩:=x;exact⟨vs,n,own _ e,r3.imp fun _ _ z=>z.mono L⟩
 |sdict m=>obtain⟨kvs,es,ep,e,⟨o2,es2,ep2,g2,r2⟩,r3⟩:=x;exact⟨kvs,es,ep,own _ e,⟨o2,es2,ep2,own _ g2,r2⟩,r3.imp fun _ _ z=>⟨z.1,z.2.mono L⟩⟩
 |tdict m=>obtain⟨xs,es,ep,e,r1,r2,r3⟩:=x;exact⟨xs,es,ep,own _ e,r1,r2,r3.imp fun _ _ z=>⟨z.1,z.2.1.mono L,L.z _ z.2.2.1,z.2.2.2⟩⟩
 |iter cl xs=>obtain⟨vs,e,r3⟩:=x;exact⟨vs,own _ e,r3.imp fun _ _ z=>z.mono L⟩
 |lit l k=>obtain⟨o,p,e,r1,r2,r3⟩:=x;exact⟨o,p,own _ e,r1,r2.mono L,r3⟩
 |finst C m=>obtain⟨dx,e,r⟩:=x;exact⟨dx,L.z _ e,own _ r⟩
 |dead=>trivial
theorem Ns.eqv{a:Addr}{m:Str→Option Value}(x:h.Ns a m)(k:∀o,h.get? a=some o→bW h' a o):h'.Ns a m:=by
 obtain⟨o,es,ep,e,d,r⟩:=x
 obtain⟨o',e',q⟩:=k o e
 exact⟨o',es,ep,e',(q.data fun⟨_,vs,z⟩=>by rw[d]at z;cases z).trans d,r⟩
theorem Rep.outer(R:Rep G ρ objs h)(H:GOK G){X:Addr→Prop}(e:∀b o,h.get? b=some o→¬X b→bW h' b o)
  (hX:∀b,X b→b∉ρ.a∧(∀o,(b,o)∉ρ.z)∧offK G b∧∀o,h.get? b=some o→o.cls≠.type "traceback"):Rep G ρ objs h':=by
 have exact_:∀b o,¬X b→h.get? b=some o→o.cls≠.type "frame"→o.cls≠.type "traceback"→h'.get? b=some o:=fun b o nx eb h1 h2=>by
  obtain⟨o',e',q⟩:=e b o eb nx;rw[e',q.eq h2 h1]
 have tbk:∀b o,h.get? b=some o→o.cls = .type "traceback"→bW h' b o:=fun b o2 e2 c3=>e b o2 e2 fun hx=>(hX b hx).2.2.2 o2 e2 c3
 refine⟨fun a o hk=>exact_ a o (fun hx=>by have:=(hX a hx).2.2.1.1;rw[hk]at this;cases this) (R.kin a o hk) (H.cls a o hk).1 (H.cls a o hk).2,R.len,R.nodup,R.off,R.low,fun a ha=>?_,fun i o a ho ha=>?_,fun a o hz=>?_,
  Ns.eqv R.bn fun o q=>e _ o q fun hx=>(hX _ hx).2.2.1.2 rfl⟩
 ·obtain⟨o,e',c1,c2⟩:=R.nofr a ha;exact⟨o,exact_ a o (fun hx=>(hX a hx).1 ha) e' c1 c2,c1,c2⟩
 ·obtain⟨o',e',c1,c2⟩:=R.nofr a (List.mem_of_getElem? ha)
  exact(R.ob i o a ho ha).keep Tr.Le.refl (fun o2 e2=>by rw[e']at e2;cases e2;exact exact_ a _ (fun hx=>(hX a hx).1 (List.mem_of_getElem? ha)) e' c1 c2) tbk
 ·obtain⟨r1,r2,⟨ob,r3,r4,r5⟩,r6⟩:=R.fz a o hz
  have nx:¬X a:=fun hx=>(hX a hx).2.1 o hz
  exact⟨r1.keep Tr.Le.refl (fun o2 e2=>by rw[r3]at e2;cases e2;exact exact_ a _ nx r3 r4 r5) tbk,r2,⟨ob,exact_ a _ nx r3 r4 r5,r4,r5⟩,r6⟩
theorem sI{ρ:List Addr}{i j:Nat}{a b:Addr}(hn:ρ.Nodup)(hi:ρ[i]?=some a)(hj:ρ[j]?=some b)(hij:i≠j):a≠b:=by
 intro e
 subst e
 obtain⟨li,ei⟩:=List.getElem?_eq_some_iff.mp hi
 obtain⟨lj,ej⟩:=List.getElem?_eq_some_iff.mp hj
 exact hij (dD hn li lj (ei.trans ej.symm))
noncomputable def lI(objs:List SO)(i:Nat):Prop:=objs[i]?≠some .dead
theorem Rep.change(R:Rep G ρ objs h)(H:GOK G){i:Nat}{a:Addr}{so:SO}(hi:ρ.a[i]?=some a)(hl:lI objs i)
  (e:∀b o,h.get? b=some o→b≠a→bW h' b o)(new:OR G ρ h' a so)
  (nof:∃o,h'.get? a=some o∧o.cls≠.type "frame"∧o.cls≠.type "traceback"):Rep G ρ (objs.set i so) h':=by
 have hm:=List.mem_of_getElem? hi
 have exact_:∀b o,h.get? b=some o→b≠a→o.cls≠.type "frame"→o.cls≠.type "traceback"→h'.get? b=some o:=fun b o eb hb h1 h2=>by
  obtain⟨o',e',q⟩:=e b o eb hb;rw[e',q.eq h2 h1]
 have tbk:∀b o,h.get? b=some o→o.cls = .type "traceback"→bW h' b o:=fun b2 o2 e2 c3=>e b2 o2 e2 fun q=>by
     subst q
     obtain⟨o3,e3,_,c5⟩:=R.nofr _ hm
     rw[e2]at e3;cases e3;exact c5 c3
 refine⟨fun b o hk=>exact_ b o (R.kin b o hk) (fun z=>by rw[z]at hk;rw[R.off a hm]at hk;cases hk) (H.cls b o hk).1 (H.cls b o hk).2,by rw[List.length_set];exact R.len,R.nodup,R.off,R.low,fun b hb=>?_,fun j o b ho hb=>?_,fun b o hz=>?_,
  Ns.eqv R.bn fun o q=>e _ o q fun hx=>by have:=R.low a hm;rw[←hx]at this;exact absurd this (by decide)⟩
 ·by_cases z:b=a
  ·subst z;exact nof
  ·obtain⟨o,e',c1,c2⟩:=R.nofr b hb;exact⟨o,exact_ b o e' z c1 c2,c1,c2⟩
 ·by_cases z:i=j
  ·subst z
   rw[hi]at hb;cases hb
   have:o=so:=by
    rw[List.getElem?_set]at ho
    simp only[if_true]at ho
    split at ho
    ·exact(Option.some.inj ho).symm
    ·cases ho
   subst this;exact new
  ·rw[List.getElem?_set_ne z]at ho
   have hne:b≠a:=fun q=>sI R.nodup hi hb z q.symm
   obtain⟨o',e',c1,c2⟩:=R.nofr b (List.mem_of_getElem? hb)
   exact(R.ob j o b ho hb).keep Tr.Le.refl (fun o2 e2=>by rw[e']at e2;cases e2;exact exact_ b _ e' hne c1 c2) tbk
 ·obtain⟨r1,r2,⟨ob,r3,r4,r5⟩,r6⟩:=R.fz b o hz
  have hne:b≠a:=fun q=>by subst q;exact hl (r6 i hi)
  refine⟨r1.keep Tr.Le.refl (fun o2 e2=>by rw[r3]at e2;cases e2;exact exact_ b _ r3 hne r4 r5) tbk,r2,⟨ob,exact_ b _ r3 hne r4 r5,r4,r5⟩,fun j hj=>?_⟩
  have z:i≠j:=fun q=>by subst q;rw[hi]at hj;cases hj;exact hne rfl
  rw[List.getElem?_set_ne z];exact r6 j hj
theorem Rep.alloc(R:Rep G ρ objs h)(H:GOK G){o:Obj}{so:SO}(hf:o.isFreed=false)(c1:o.cls≠.type "frame")(c2:o.cls≠.type "traceback")
  (new:OR G (ρ.add h.objs.size) (h.push o) h.objs.size so):Rep G (ρ.add h.objs.size) (objs++[so]) (h.push o):=by
 have kp:∀b o',h.get? b=some o'→(h.push o).get? b=some o':=fun b o' e=>Heap.get?_push_of_some o e
 have fr:∀b o',h.get? b=some o'→b≠h.objs.size:=fun b o' e q=>by subst q;exact absurd (Heap.lt_size e) (Nat.lt_irrefl _)
 have nin:h.objs.size∉ρ.a:=fun hm=>by obtain⟨o',e',_⟩:=R.nofr _ hm;exact fr _ _ e' rfl
 refine⟨fun a o' hk=>kp a o' (R.kin a o' hk),by show(ρ.a++[_]).length=_;rw[List.length_append,List.length_append,R.len];rfl,?_,fun a ha=>?_,fun a ha=>?_,fun a ha=>?_,fun j o' b ho hb=>?_,fun b o' hz=>?_,Ns.eqv R.bn fun o q=>⟨o,kp _ _ q,Eqv.refl o⟩⟩
 ·refine List.nodup_append.mpr ⟨R.nodup,by simp,fun x hx y hy=>?_⟩
  rw[List.mem_singleton]at hy;subst hy;exact fun q=>nin (q▸hx)
 ·rcases List.mem_append.mp ha with hm|hm
  ·exact R.off a hm
  ·rw[List.mem_singleton]at hm;subst hm
   cases q:G.K.lookup h.objs.size with
   |none=>rfl
   |some o'=>exact absurd rfl (fr _ _ (R.kin _ _ q))
 ·rcases List.mem_append.mp ha with hm|hm
  ·exact R.low a hm
  ·rw[List.mem_singleton]at hm;subst hm;exact H.big h R.kin
 ·rcases List.mem_append.mp ha with hm|hm
  ·obtain⟨o',e',c⟩:=R.nofr a hm;exact⟨o',kp _ _ e',c⟩
  ·rw[List.mem_singleton]at hm;subst hm;exact⟨o,Heap.get?_push_size _ hf,c1,c2⟩
 ·have hb:(ρ.a++[h.objs.size])[j]?=some b:=hb
  by_cases z:j<ρ.a.length
  ·rw[List.getElem?_append_left z]at hb
   rw[List.getElem?_append_left (R.len▸z)]at ho
   exact(R.ob j o' b ho hb).keep Tr.le_add (fun o2 e2=>kp _ _ e2) (fun b2 o2 e2 _=>⟨o2,kp _ _ e2,Eqv.refl o2⟩)
  ·have z:=Nat.le_of_not_lt z
   rw[List.getElem?_append_right z]at hb
   rw[List.getElem?_append_right (R.len▸z)]at ho
   rw[←R.len]at ho
   cases q:j - ρ.a.length with
   |zero=>rw[q]at hb ho;simp at hb ho;subst hb;subst ho;exact new
   |succ n=>rw[q]at hb;simp at hb
 ·obtain⟨r1,r2,⟨ob,r3,r4,r5⟩,r6⟩:=R.fz b o' hz
  refine⟨r1.keep Tr.le_add (fun o2 e2=>kp _ _ e2) (fun b2 o2 e2 _=>⟨o2,kp _ _ e2,Eqv.refl o2⟩),r2,⟨ob,kp _ _ r3,r4,r5⟩,fun j hj=>?_⟩
  have hj:(ρ.a++[h.objs.size])[j]?=some b:=hj
  by_cases z:j<ρ.a.length
  ·rw[List.getElem?_append_left z]at hj
   rw[List.getElem?_append_left (R.len▸z)];exact r6 j hj
  ·have z:=Nat.le_of_not_lt z
   rw[List.getElem?_append_right z]at hj
   cases q:j - ρ.a.length with
   |zero=>rw[q]at hj;simp at hj;exact absurd hj.symm (fr _ _ r3)
   |succ n=>rw[q]at hj;simp at hj
theorem FrR.keep(Le:Tr.Le ρ ρ'){L:Addr}{vars:List Str}{loc:List (Option SV)}(x:FrR ρ h L vars loc)(k:∀o,h.get? L=some o→∃o',h'.get? L=some o'∧o'.cls=o.cls∧o'.data=o.data):FrR ρ' h' L vars loc:=by
 obtain⟨o,mr,e,hc,ns,r⟩:=x
 obtain⟨o',e',c',d'⟩:=k o e
 refine⟨o',mr,e',by rw[c'];exact hc,Ns.at ns (fun o2 e2=>by rw[e]at e2;cases e2;exact⟨o',e',d'⟩),fun i x hx=>?_⟩
 have:=r i x hx
 split at this
 ·obtain⟨y,h1,h2⟩:=this;exact⟨y,h1,h2.mono Le⟩
 ·exact this
theorem FrsOK.keep{l:List Env}(x:FrsOK h l)(k:∀b o,h.get? b=some o→KeptAt h' b o):FrsOK h' l:=fun e he =>
 let⟨a,L,o,es,ep,b,c,d,dd,lo⟩:=x e he
 let⟨o',e',c'⟩:=k L o c
 let⟨es',ep',q⟩:=c'.dict es ep dd
 ⟨a,L,o',es',ep',b,e',c'.cls.trans d,q,lo⟩
theorem Now.frame_ne(N:Now G c ρ st h){a:Addr}(ha:a∈ρ.a):a≠c.env.locals:=by
 rintro rfl
 exact N.lo.1 ha
theorem Now.alloc(N:Now G c ρ st h)(H:GOK G){o:Obj}{so:SO}(hf:o.isFreed=false)(c1:o.cls≠.type "frame")(c2:o.cls≠.type "traceback")
  (new:OR G (ρ.add h.objs.size) (h.push o) h.objs.size so):Now G c (ρ.add h.objs.size) { st with objs:=st.objs++[so] } (h.push o):=by
 have kp:∀b o',h.get? b=some o'→(h.push o).get? b=some o':=fun b o' e=>Heap.get?_push_of_some o e
 refine⟨N.frames,N.depth,N.units,?_,N.rep.alloc H hf c1 c2 new,N.fr.keep Tr.le_add fun o' e'=>⟨o',kp _ _ e',rfl,rfl⟩,N.frs.keep fun b o' e'=>⟨o',kp _ _ e',Kept.refl o'⟩,?_,N.lo.2⟩
 have:=N.hd
 split at this
 ·exact this
 ·obtain⟨a,h1,h2⟩:=this;exact⟨a,Tr.le_add.idx h1,h2⟩
 ·intro hm
  rcases List.mem_append.mp hm with hm|hm
  ·exact N.lo.1 hm
  ·rw[List.mem_singleton]at hm
   obtain⟨o',_,e,_⟩:=N.fr
   rw[hm]at e;exact absurd (Heap.lt_size e) (Nat.lt_irrefl _)
theorem aF.alloc{L:Addr}{s:Shared}{o:Obj}{tk:Nat}:aF L ρ s (ρ.add s.heap.objs.size) { s with heap:=s.heap.push o,toks:=tk }:=by
 refine⟨⟨[s.heap.objs.size],rfl,fun a ha=>?_⟩,fun _ h=>h,fun _ h=>.inl h,fun b o' e _=>⟨o',Heap.get?_push_of_some o e,Eqv.refl o'⟩,fun b o' e=>⟨o',Heap.get?_push_of_some o e,Kept.refl o'⟩,rfl,rfl⟩
 rw[List.mem_singleton]at ha;subst ha
 cases q:s.heap.get? s.heap.objs.size with
 |none=>rfl
 |some o'=>exact absurd (Heap.lt_size q) (Nat.lt_irrefl _)
theorem Now.change(N:Now G c ρ st h)(H:GOK G){i:Nat}{a:Addr}{so:SO}(hi:ρ.a[i]?=some a)(hl:lI st.objs i)
  (e:∀b o,h.get? b=some o→b≠a→bW h' b o)(new:OR G ρ h' a so)
  (nof:∃o,h'.get? a=some o∧o.cls≠.type "frame"∧o.cls≠.type "traceback")(hcl:∀o,h.get? a=some o→KeptAt h' a o):Now G c ρ { st with objs:=st.objs.set i so } h':=by
 have hm:=List.mem_of_getElem? hi
 have e':∀b o,h.get? b=some o→KeptAt h' b o:=fun b o q=>by
  by_cases z:b=a
  ·subst z;exact hcl o q
  ·obtain⟨o',x,y⟩:=e b o q z;exact⟨o',x,y.kept⟩
 refine⟨N.frames,N.depth,N.units,N.hd,N.rep.change H hi hl e new nof,?_,N.frs.keep e',N.lo⟩
 have:=N.fr.keep Tr.Le.refl (h':=h') fun o q=>by
  obtain⟨o',x,y⟩:=e _ o q (Ne.symm (N.frame_ne hm))
  refine⟨o',x,y.cls,y.data (fun z=>?_)⟩
  obtain⟨oL,_,eL,cL,_⟩:=N.fr
  rw[q]at eL;cases eL;exact cL z.1
 simpa using this
theorem aF.change{L:Addr}{s:Shared}{a:Addr}{tk:Nat}{h':Heap}(ha:a∈ρ.a)(e:∀b o,s.heap.get? b=some o→b≠a→bW h' b o)
  (hcl:∀o,s.heap.get? a=some o→KeptAt h' a o):aF L ρ s ρ { s with heap:=h',toks:=tk }:=by
 refine⟨⟨[],by simp,by simp⟩,fun _ h=>h,fun _ h=>.inl h,fun b o q hb=>e b o q fun z=>hb (.inl (z▸ha)),fun b o q=>?_,rfl,rfl⟩
 by_cases z:b=a
 ·subst z;exact hcl o q
 ·obtain⟨o',x,y⟩:=e b o q z;exact⟨o',x,y.kept⟩
theorem iX{a:Addr}{o:Obj}{vs:Array Value}(e1:h.get? a=some o)(e3:o.data = .fields vs)(f:Array Value→Array Value) :
  ∃o',(h.update a (Obj.mapFields f)).get? a=some o'∧o'.cls=o.cls∧o'.dict=o.dict∧o'.data = .fields (f vs)∧∀b,b≠a→(h.update a (Obj.mapFields f)).get? b=h.get? b:=by
 have e3':=Obj.data_mapFields e3 f
 refine⟨_,Heap.get?_update_self (Obj.mapFields f) e1 (Obj.isFreed_of_fields e3'),Obj.cls_mapFields _ _,?_,e3',fun b hb=>Heap.get?_update_other _ _ (Ne.symm hb)⟩
 obtain⟨c0,d0,dt,sl⟩:=o
 cases e3;rfl
theorem Now.excPut(H:GOK G)(N:Now G c ρ st h){i:Nat}{a:Addr}{C:Nat}{d d':Option Nat}{ctx ctx':SV}{tb tb':Bool}{o o':Obj}{vs:Array Value}(ha:ρ.a[i]?=some a)(ho:st.objs[i]?=some (.exc C d ctx tb))
  (e1:h.get? a=some o)(e2:o.cls = .ref C)(e3:o.data = .fields vs)(f1:h'.get? a=some o')(f2:o'.cls = .ref C)(oth:∀b,b≠a→h'.get? b=h.get? b)(new:(∀{t},TbR h t→TbR h' t)→ORx ρ h' a C d' ctx' tb') :
  Now G c ρ { st with objs:=st.objs.set i (.exc C d' ctx' tb') } h'∧∀{L:Addr}{s:Shared}{tk:Nat},s.heap=h→aF L ρ s ρ { s with heap:=h',toks:=tk }:=by
 have ox:∀b ob,h.get? b=some ob→b≠a→bW h' b ob:=fun b ob hb hne=>⟨ob,(oth b hne).trans hb,Eqv.refl ob⟩
 have e5:∀{o1},h.get? a=some o1→o=o1:=fun q=>Option.some.inj (e1.symm.trans q)
 have hcl:∀o1,h.get? a=some o1→KeptAt h' a o1:=fun o1 q=>⟨o',f1,by rw[←e5 q];exact f2.trans e2.symm,fun es ep z=>by rw[←e5 q,e3]at z;exact nomatch z⟩
 have TB:∀{t},TbR h t→TbR h' t:=fun q=>q.keep fun b o1 q hc=>by
  by_cases zz:b=a
  ·subst zz;rw[←e5 q,e2]at hc;exact nomatch hc
  ·exact ox b o1 q zz
 exact⟨N.change H ha (fun q=>by rw[ho]at q;exact nomatch q) ox (new TB) ⟨o',f1,by rw[f2];exact⟨(fun q=>nomatch q),(fun q=>nomatch q)⟩⟩ hcl,fun e=>by subst e;exact aF.change (List.mem_of_getElem? ha) ox hcl⟩
theorem Now.store(N:Now G c ρ st h)(H:GOK G){i:Nat}{x:Str}{v:SV}{r:Value}(hx:c.vars[i]?=some x)(hn:c.vars.Nodup)(hv:VR ρ v r)(hlen:i<st.loc.length)
  (hns:∀m,h.Ns c.env.locals m→h'.Ns c.env.locals (fun y=>if y=x then some r else m y))(hcl:∀o,h.get? c.env.locals=some o→KeptAt h' c.env.locals o)
  (hsb:Heap.SameBut c.env.locals h h'):Now G c ρ { st with loc:=st.loc.set i (some v) } h':=by
 have e':∀b o,h.get? b=some o→KeptAt h' b o:=fun b o q=>by
  by_cases z:b=c.env.locals
  ·subst z;exact hcl o q
  ·exact⟨o,(hsb.2 b z).trans q,Kept.refl o⟩
 refine⟨N.frames,N.depth,N.units,N.hd,N.rep.outer H (X:=fun b=>b=c.env.locals) (fun b o q hb=>⟨o,(hsb.2 b hb).trans q,Eqv.refl o⟩) (fun b hb=>?_),?_,N.frs.keep e',N.lo⟩
 ·subst hb;obtain⟨o,_,e,hc,_⟩:=N.fr;exact⟨N.lo.1,N.lo.2.1,N.lo.2.2,fun o' e'=>by rw[e]at e';cases e';exact hc⟩
 ·obtain⟨o,mr,e,hc,ns,rr⟩:=N.fr
  obtain⟨o',e2,c2⟩:=hcl o e
  refine⟨o',_,e2,by rw[c2.cls];exact hc,hns mr ns,fun j y hy=>?_⟩
  by_cases z:i=j
  ·subst z
   rw[hx]at hy;cases hy
   rw[List.getElem?_set]
   simp only[if_true,if_pos hlen]
   exact⟨r,rfl,hv⟩
  ·rw[List.getElem?_set_ne z]
   have ne:y≠x:=fun q=>by
    subst q
    obtain⟨l1,f1⟩:=List.getElem?_eq_some_iff.mp hx
    obtain⟨l2,f2⟩:=List.getElem?_eq_some_iff.mp hy
    exact z (dD hn l1 l2 (f1.trans f2.symm))
   simp only[if_neg ne]
   exact rr j y hy
theorem aF.store{s:Shared}{L:Addr}{tk:Nat}{h':Heap}(hsb:Heap.SameBut L s.heap h')(hcl:∀o,s.heap.get? L=some o→KeptAt h' L o) :
  aF L ρ s ρ { s with heap:=h',toks:=tk }:=by
 refine⟨⟨[],by simp,by simp⟩,fun _ h=>h,fun _ h=>.inl h,fun b o q hb=>⟨o,(hsb.2 b fun z=>hb (.inr z)).trans q,Eqv.refl o⟩,fun b o q=>?_,rfl,rfl⟩
 by_cases z:b=L
 ·subst z;exact hcl o q
 ·exact⟨o,(hsb.2 b z).trans q,Kept.refl o⟩
theorem aF.toks{s:Shared}{L:Addr}{tk:Nat}:aF L ρ s ρ { s with toks:=tk }:=⟨⟨[],by simp,by simp⟩,fun _ h=>h,fun _ h=>.inl h,Same.refl _ _,fun _ o e=>⟨o,e,Kept.refl o⟩,rfl,rfl⟩
end
end
section
structure EnvB(c:Ac):Prop where
 kind:c.env.scope.kind = .function
 loc:∀x∈c.vars,c.env.kindOf x=some .local∧(x==("__debug__" : Str))=false
 nodup:c.vars.Nodup
 glob:c.env.globals=mainGlobals
 blt:c.env.builtins=builtinsNs
structure bG(c:Ac):Prop extends EnvB c where
 frame:c.env.frame=some c.env.locals
 fl:∃o,c.fl=c.env::o
noncomputable def bJ(so:SO):M SV:=fun st=>some (.ok (.ref st.objs.length),{ st with objs:=st.objs++[so] })
theorem aJ{so:SO}:Grows (bJ so):=fun _ _ _ h=>by cases h;exact⟨[],rfl⟩
noncomputable def CO(i:Nat):M SV:=fun st=>match st.loc[i]? with
 |some (some v)=>some (.ok v,st)
 |_=>none
theorem CZ{i:Nat}:Grows (CO i):=fun s r s' h=>by
 unfold CO at h;split at h<;>cases h;exact⟨[],rfl⟩
noncomputable def nJ(i:Nat)(v:SV):M Unit:=fun st=>bif Nat.blt i st.loc.length then some (.ok (),{ st with loc:=st.loc.set i (some v) })else none
theorem dG{i:Nat}{v:SV}:Grows (nJ i v):=fun s r s' h=>by
 unfold nJ at h;cases q:Nat.blt i s.loc.length<;>rw[q]at h<;>cases h;exact⟨[],rfl⟩
noncomputable def bP(i:Nat):M SO:=fun st=>match st.objs[i]? with
 |some o=>some (.ok o,st)
 |none=>none
theorem aS{i:Nat}:Grows (bP i):=fun s r s' h=>by
 unfold bP at h;split at h<;>cases h;exact⟨[],rfl⟩
noncomputable def eX(i:Nat)(o:SO):M Unit:=fun st=>some (.ok (),{ st with objs:=st.objs.set i o })
theorem aZ{i:Nat}{o:SO}:Grows (eX i o):=fun _ _ _ h=>by cases h;exact⟨[],rfl⟩
theorem fD(name:Str)(h:Int)(key v:Value)(o:Obj):(o.putName name h key v).cls=o.cls∧(o.putName name h key v).dict=o.dict∧(o.putName name h key v).slots=o.slots:=by
 obtain⟨cl,d,dt,sl⟩:=o
 cases dt<;>first|exact⟨rfl,rfl,rfl⟩|(unfold Obj.putName;dsimp only;split<;>exact⟨rfl,rfl,rfl⟩)
theorem aP{a b:String}(h:(a==b)=false):Value.type a≠.type b:=fun e=>by
 have:=Value.type.inj e;subst this;simp at h
theorem rC(name:Str)(h:Int)(key v:Value)(o:Obj) {es ep}(hd:o.data = .dict es ep):(o.putName name h key v).isFreed=false:=by
 obtain⟨cl,d,dt,sl⟩:=o
 simp only at hd;subst hd
 simp only[Obj.putName];split<;>rfl
theorem rB(name:Str)(h:Int)(key v:Value)(o:Obj) {es ep}(hd:o.data = .dict es ep) :
  ∃es' ep',(o.putName name h key v).data = .dict es' ep'∧es'.size=bif (nsFind es name).isSome then es.size else es.size+1:=by
 obtain⟨cl,d,dt,sl⟩:=o
 simp only at hd;subst hd
 have e:nsFind es name=_:=findBy_of_findIdx? (fun n v=>v.isStr n) es name
 rw[e]
 simp only[Obj.putName_eq,Obj.putNameByArray]
 cases q:es.findIdx? (·.key.isStr name)with
 |none=>exact⟨_,_,rfl,by simp⟩
 |some i =>
  refine⟨_,_,rfl,?_⟩
  have:i<es.size:=(Array.findIdx?_eq_some_iff_getElem.mp q).1
  simp[this]
theorem dR{M:Model}{A:Around}{E:Value→Shared→Prop}{s:Shared}{a:Addr}{m:Str→Option Value}{name:Str}{v:Value}{Q:Unit→Shared→Prop}(hn:s.heap.Ns a m)
  (hQ:∀h',h'.Ns a (fun x=>if x=name then some v else m x)→Heap.SameBut a s.heap h' →
   (∀o,s.heap.get? a=some o→∃o',h'.get? a=some o'∧o'.cls=o.cls∧o'.dict=o.dict∧o'.slots=o.slots ∧
    ∀es ep,o.data = .dict es ep→∃es' ep',o'.data = .dict es' ep'∧es'.size=bif (m name).isSome then es.size else es.size+1)→Q () { s with heap:=h',toks:=s.toks+1 }) :
  wpAny M A (nsSet a name v) Q E s:=fun Γ p _=>by
 have hn':=hn
 obtain⟨o,es,ep,ho,hd,hk,hm⟩:=hn
 have key:=Sem.wp_nsSet M Γ (fun e _ s'=>E e s') p s hn' name v (fun _ _ s'=>(∃h',s'={ s with heap:=h',toks:=s.toks+1 }∧h'.Ns a (fun x=>if x=name then some v else m x)∧Heap.SameBut a s.heap h'))
  (fun h' h1 h2=>⟨h',rfl,h1,h2⟩)
 simp only[nsSet,strHash,Sem.wp_bind',Sem.wp_cmd_ask,Sem.wp_pure',Sem.wp_cmd_mkText]at key ⊢
 rw[Sem.wp_loadPart_of M Γ _ p { s with toks:=s.toks+1 } (o:=o) _ ho]at key ⊢
 have hany:es.any (·.refKey)=false:=by
  rw[Array.any_eq_false'];intro e he;obtain⟨n,t,h⟩:=hk e he;simp[DictEntry.refKey,h]
 simp only[hd,aRefKeyMayBeTheName_eq,aRefKeyMayBeTheNameByArray,hany,Bool.and_false,Bool.false_eq_true,if_false,Sem.wp_cmd_updatePart]at key ⊢
 refine⟨key.1,?_⟩
 obtain⟨h',e1,e2,e3⟩:=key.2
 have e1:=congrArg Shared.heap e1
 simp only at e1
 subst e1
 refine hQ _ e2 e3 fun o' ho'=>⟨_,Heap.get?_update_self _ ho' (by rw[ho]at ho';cases ho';exact rC _ _ _ _ _ hd),(fD ..).1,(fD ..).2.1,(fD ..).2.2,fun es' ep' hd'=>?_⟩
 rw[ho]at ho';cases ho'
 rw[hd]at hd';cases hd'
 rw[←hm name]
 exact rB _ _ _ _ _ hd
section
variable{G:Gl}{c:Ac}{ρ:Tr}{st:St}{s:Shared}{α β:Type}{R:Tr→α→β→Prop}
theorem SA.alloc(H:GOK G)(N:Now G c ρ st s.heap){t:Sem Value}{o:Obj}{so:SO}{tk:Nat}(hf:o.isFreed=false)(c1:o.cls≠.type "frame")(c2:o.cls≠.type "traceback")
  (new:OR G (ρ.add s.heap.objs.size) (s.heap.push o) s.heap.objs.size so)
  (ht:∀(Q:Value→Shared→Prop) E,Q (.ref s.heap.objs.size) { s with heap:=s.heap.push o,toks:=tk }→WP G c t Q E s):SA G c VR t (bJ so) ρ st s:=by
 intro r st' hm hv Q E post
 cases hm
 refine ht Q E (post _ _ aF.alloc (N.alloc H hf c1 c2 new) _ ⟨s.heap.objs.size,?_,rfl⟩)
 show(ρ.a++[_])[_]?=_
 rw[←N.rep.len,List.getElem?_append_right (Nat.le_refl _),Nat.sub_self];rfl
theorem SA.newTuple(H:GOK G)(N:Now G c ρ st s.heap){xs:List SV}{vs:List Value}(hx:aK (VR ρ) xs vs)(hn:xs.length≤1000):SA G c VR (newTuple vs) (bJ (.tuple xs)) ρ st s :=
 SA.alloc H N (o:={ cls:=.type "tuple",data:=.seq vs.toArray }) (tk:=s.toks) rfl (aP rfl) (aP rfl) ⟨_,_,Heap.get?_push_size _ rfl,hx.imp fun _ _ z=>z.mono Tr.le_add⟩
  fun Q E q=>wpAny_newObj_type q (by show vs.toArray.size≤sizeLine;rw[List.size_toArray,←hx.length,sizeLine_eq];lia)
theorem SA.newList(H:GOK G)(N:Now G c ρ st s.heap){xs:List SV}{vs:List Value}(hx:aK (VR ρ) xs vs)(hn:xs.length≤1000):SA G c VR (newList vs) (bJ (.list xs)) ρ st s :=
 SA.alloc H N (o:={ cls:=.type "list",data:=.seq vs.toArray }) (tk:=s.toks) rfl (aP rfl) (aP rfl) ⟨_,_,Heap.get?_push_size _ rfl,hx.imp fun _ _ z=>z.mono Tr.le_add⟩
  fun Q E q=>wpAny_newObj_type q (by show vs.toArray.size≤sizeLine;rw[List.size_toArray,←hx.length,sizeLine_eq];lia)
set_option tactic.hygienic true in
theorem SA.loadLocal(EO:EnvB c)(N:Now G c ρ st s.heap){i:Nat}{x:Str}(hx:c.vars[i]?=some x):SA G c VR (loadName c.env x) (CO i) ρ st s:=by
 intro r st' hm hv Q E post
 unfold CO at hm
 split at hm
 ·rename_i v q
  cases hm
  obtain⟨o,mr,e,hc,ns,rr⟩:=N.fr
  have:=rr i x hx
  rw[q]at this
  obtain⟨y,hy,hr⟩:=this
  exact wpAny_loadName_local EO.kind (EO.loc x (List.mem_of_getElem? hx)).1 ns hy (post ρ s aF.refl N y hr)
 ·cases hm
theorem SA.storeLocal(H:GOK G)(EO:EnvB c)(N:Now G c ρ st s.heap){i:Nat}{x:Str}{v:SV}{y:Value}(hx:c.vars[i]?=some x)(hv:VR ρ v y) :
  SA G c (fun _ _ _=>True) (storeName c.env x y) (nJ i v) ρ st s:=by
 intro r st' hm hq Q E post
 unfold nJ at hm
 cases q:Nat.blt i st.loc.length with
 |false=>rw[q]at hm;cases hm
 |true =>
  rw[q]at hm;cases hm
  have hlt:i<st.loc.length:=Nat.le_of_ble_eq_true q
  rw[storeName_local (EO.loc x (List.mem_of_getElem? hx)).1 (by rw[EO.kind];rfl)]
  obtain⟨o,mr,e,hc,ns,rr⟩:=N.fr
  refine dR ns fun h' hns hsb hk=>?_
  have hcl:∀o,s.heap.get? c.env.locals=some o→KeptAt h' c.env.locals o:=fun o ho=>let⟨o',a,b,_,_,z⟩:=hk o ho;⟨o',a,b,fun es ep hd=>let⟨es',ep',q,_⟩:=z es ep hd;⟨es',ep',q⟩⟩
  refine post ρ _ (aF.store hsb hcl) (N.store H hx EO.nodup hv hlt (fun m hm=>?_) hcl hsb) () trivial
  have:m=mr:=by
   funext z
   obtain⟨o1,es1,ep1,g1,d1,k1,f1⟩:=hm
   obtain⟨o2,es2,ep2,g2,d2,k2,f2⟩:=ns
   rw[g1]at g2;cases g2;rw[d1]at d2;cases d2
   rw[←f1 z,←f2 z]
  rw[this];exact hns
end
end
section
open PySem.Calls
theorem fV{h:Heap}{d:Addr}{o:Obj}{m:Str→Option Value}(hn:h.Ns d m)(ho:h.get? d=some o)(name:Str):lookIn name o=some (m name):=by
 obtain⟨o',es,ep,e,hd,hk,hf⟩:=hn
 rw[ho]at e;cases e
 unfold lookIn
 rw[hd]
 dsimp only
 have q:=hf name
 unfold nsFind findBy at q
 rw[←Array.find?_toList]at q
 cases z:es.toList.find? (fun e=>e.key.isStr name)with
 |some en=>rw[z]at q;dsimp only;rw[←q];rfl
 |none =>
  rw[z]at q
  dsimp only
  rw[if_neg,←q];rfl
  rw[Array.any_toList]
  have:es.any (·.refKey)=false:=by
   rw[Array.any_eq_false'];intro e he;obtain⟨n,t,h⟩:=hk e he;simp[DictEntry.refKey,h]
  rw[this];decide
section
variable{prog:Program}{w:World}{A:Around}{E:Value→Shared→Prop}{s:Shared}{K:Frag}{x C:Addr}{ox:Obj}{od:Option Obj}{name:Str}{expr:Bool}{Q:Value→Shared→Prop}
theorem pD{v:Value}(X:K.In s.heap)(I:InstAt s.heap x ox C od)(hga:findIn K (.ref C) "__getattribute__" = some (some (.builtin "BaseException.__getattribute__")))
  (hk:findIn K (.ref C) "__getattr__" = some none)(hb:mroIn K C (.type "BaseException")=some true)
  (hf:findObj K C od name=some (.value v))(hh:handedIn v=true)(h:Q v { s with toks:=s.toks+1 }):wpAny (model prog w) A (getAttr (.ref x) name expr) Q E s:=by
 obtain⟨hp,g,d,t,os⟩:=s
 have L0:=I.type (M:=model prog w)
 have L1:=looks_findIn (M:=model prog w) X hga
 have L2:Looks (model prog w) hp (hookBefore (.ref C)) none:=looks_hook X (by rw[if_pos (show onTheHeap (Value.ref C)=true from rfl)];exact hk)
 have L3:=looks_find (M:=model prog w) X I hf
 have L4:Looks (model prog w) hp (isInstance (.ref x) (.type "BaseException")) true:=L0.andThen (looks_mroIn X hb)
 have hx2:(Value.builtin "BaseException.__getattribute__"==Value.builtin "object.__getattribute__")=false:=by decide +kernel
 have hx0:(expr&&onTheHeap (Value.builtin "BaseException.__getattribute__"))=false:=by cases expr<;>rfl
 unfold getAttr getAttrBy
 refine wpAny_bind (wpAny_mkText (wpAny_holding (wpAny_bind (L0.at (wpAny_bind (L1.at ?_))))))
 dsimp only
 rw[hx2,Bool.and_false,if_neg Bool.false_ne_true]
 unfold getAttrByItsOwn
 refine wpAny_bind (L2.at (wpAny_bind (wpAny_attempt ?_)))
 refine wpAny_holding ?_
 unfold callGetattribute
 rw[hx0,if_neg Bool.false_ne_true]
 unfold boundAndCalled
 have hbind:bindSpecial (.builtin "BaseException.__getattribute__") (.ref x)=pure (.builtin "BaseException.__getattribute__",[.ref x]):=by kernel_rfl
 rw[hbind]
 refine wpAny_bind (wpAny_pure (wpAny_call ?_))
 have kk:builtinKind "BaseException.__getattribute__" = some .slot:=by decide +kernel
 have sp:splitId "BaseException.__getattribute__" = some ("BaseException","__getattribute__"):=by decide +kernel
 refine codeAny_call_builtin (by decide +kernel) F.entry_bexc_ga (@check_slot (model prog w) _ _ _ "BaseException.__getattribute__" "BaseException" "__getattribute__" (.ref x) [.str name t] [] _ kk sp L4 (F.args_bexc_ga (.ref x) (.str name t)) ?_)
 unfold Builtin.«object.__getattribute__»
 refine wpAny_bind (wpAny_pure (wpAny_bind (wpAny_pure (wpAny_bind (L0.at (wpAny_bind (L3.at ?_)))))))
 refine wpAny_pure ?_
 show wpAny _ _ (handedOut v) _ _ _
 rw[handedOut_of hh];exact wpAny_pure h
end
section
variable{prog:Program}{w:World}{A:Around}{E:Value→Shared→Prop}{s:Shared}{K:Frag}{x C dx:Addr}{ox od:Obj}{name:Str}{v:Value}{m:Str→Option Value}{es:Array DictEntry}{ep:Nat}
theorem RM{R:Result→Shared→Prop}{tk:Tok}{cd:ClassData}(X:K.In s.heap)(I:W.InstAt s.heap x ox C (some od))(hd:ox.dict=some dx)(hc:clsIn K C=some cd)(h1:cd.hasDict=true)(h2:cd.mro.isEmpty=false)
  (h3:cd.mro.contains (.type "object")=true)(h4:∀self,refuseLoop self "__setattr__" cd.mro=pure ())(ht:findIn K (.ref C) name=some none)(hod:s.heap.get? dx=some od)(hde:od.data = .dict es ep)(hz:es.size≤1000)(hn:s.heap.Ns dx m)
  (h:∀h',h'.Ns dx (fun x=>if x=name then some v else m x)→Heap.SameBut dx s.heap h' →
   (∃o' es' ep',h'.get? dx=some o'∧o'.cls=od.cls∧o'.dict=od.dict∧o'.slots=od.slots∧o'.data = .dict es' ep'∧es'.size=bif (m name).isSome then es.size else es.size+1)→R (.ok (.ret .none)) { s with heap:=h',toks:=s.toks+1 }) :
  codeAny (model prog w) A (.call (.builtin "object.__setattr__") ⟨[.ref x,.str name tk,v],[]⟩) R s:=by
 have SF:=PySem.F.store_object
 have sub:Looks (model prog w) s.heap (isInstance (.ref x) (.type "object")) true:=I.type.andThen (looks_mroIn X (by unfold mroIn;rw[hc,Option.bind_some,if_neg (by rw[h2];decide),h3]))
 refine codeAny_call_builtin SF.slot.plain SF.entry (@check_slot (model prog w) _ _ s "object.__setattr__" "object" "__setattr__" (.ref x) [.str name tk,v] [] _ SF.kind SF.split sub (SF.args (.ref x) (.str name tk) v) ?_)
 have hm:Looks (model prog w) s.heap (mroOf (.ref C)) cd.mro:=(looks_clsIn X hc).andThen .now
 rw[osa_eq,refuse_eq]
 refine wpAny_bind (wpAny_bind (I.type.here (wpAny_bind (hm.here ?_))))
 rw[h4]
 refine wpAny_pure (wpAny_bind (I.type.here (wpAny_bind ((looks_findIn X ht).here (wpAny_bind (wpAny_pure ?_))))))
 obtain⟨hx,hcl,hnc,-⟩:=I
 obtain⟨oc,odi,oda,osl⟩:=ox
 dsimp only at hcl hd
 subst hcl hd
 refine wpAny_bind (wpAny_pure (wpAny_bind (wpAny_bind (wpAny_loadPart hx (wpAny_bind ((looks_clsIn X hc).here ?_))))))
 rw[h1]
 refine wpAny_pure (a:=some dx) (wpAny_bind (wpAny_pure (wpAny_bind (dR hn fun h' a1 a2 a3=>?_))))
 obtain⟨o',g1,g2,g3,g4,g5⟩:=a3 od hod
 obtain⟨es',ep',g6,g7⟩:=g5 es ep hde
 have hz':es'.size≤sizeLine+1:=by
  rw[g7,sizeLine_eq];cases(m name).isSome<;>simp<;>omega
 refine wpAny_bind (wpAny_lookBehind g1 (by rw[g6];exact pastItsLine_dict hz') ?_)
 exact wpAny_pure (h _ a1 a2 ⟨o',es',ep',g1,g2,g3,g4,g6,g7⟩)
end
noncomputable def okv:Option SV→Option SV
 |some (.bi _)=>none
 |x=>x
set_option tactic.hygienic true in
theorem jO{x:Option SV}{v:SV}(h:okv x=some v):x=some v∧∀i,v≠.bi i:=by
 unfold okv at h
 split at h
 ·cases h
 ·rename_i q;subst h;exact⟨rfl,fun i e=>q i (by rw[e])⟩
noncomputable def bO{α:Type}(x:Option α):M α:=match x with
 |some v=>aG v
 |none=>aH
theorem nK{α:Type}{x:Option α}{st st':St}{r:Except SV α}(h:bO x st=some (r,st')):∃v,x=some v∧r = .ok v∧st'=st:=by
 cases x with
 |none=>cases h
 |some v=>cases h;exact⟨v,rfl,rfl,rfl⟩
noncomputable def nN(d n:Nat):M SV:=bnd (bP d) fun o=>match o with
 |.idict m=>bO (okv (lk m n))
 |_=>aH
noncomputable def rU{α:Type}(ok:Bool)(ca:Option (Option Nat))(m:M α):M α:=match ok,ca with
 |true,some none=>m
 |_,_=>aH
noncomputable def cD(v:SV):M SO:=match v with
 |.ref i=>bP i
 |.fz o=>aG o
 |_=>aH
noncomputable def GV(G:Gl)(v:SV)(n:Nat):M SV:=bnd (cD v) fun o=>match o with
 |.inst C (some d)=>rU (G.pc C) (G.ca C n) (nN d n)
 |.exc C (some d) _ _=>rU (G.xc C) (G.ca C n) (nN d n)
 |.finst C m=>rU (G.pc C) (G.ca C n) (bO (okv (lk m n)))
 |_=>aH
theorem aV{v:SV}:Grows (cD v):=by
 unfold cD;split
 ·exact aS
 ·exact Grows.ret
 ·exact fun _ _ _ h=>by cases h
theorem uL{α:Type}{ok:Bool}{ca:Option (Option Nat)}{m:M α}{st st':St}{r:Except SV α}(h:rU ok ca m st=some (r,st')):ok=true∧ca=some none∧m st=some (r,st'):=by
 unfold rU at h
 split at h
 ·exact⟨rfl,rfl,h⟩
 ·cases h
theorem fY {α:Type}{ok:Bool}{ca:Option (Option Nat)}{m:M α}(hm:Grows m):Grows (rU ok ca m):=fun s r s' h=>hm s r s' (uL h).2.2
theorem aB {α:Type}:Grows (aH:M α):=fun _ _ _ h=>by cases h
theorem aL{α:Type}{x:Option α}:Grows (bO x):=fun _ _ _ h=>by obtain⟨v,_,_,rfl⟩:=nK h;exact⟨[],rfl⟩
theorem jA{d n:Nat}:Grows (nN d n):=Grows.bnd aS fun o=>by
 split
 ·exact aL
 ·exact aB
theorem iM{G:Gl}{v:SV}{n:Nat}:Grows (GV G v n):=Grows.bnd aV fun o=>by
 cases o with
 |inst C d=>cases d<;>first | exact fY jA | exact aB
 |exc C d _ _=>cases d<;>first | exact fY jA | exact aB
 |finst C m=>exact fY aL
 |_=>exact aB
noncomputable def NoE{α:Type}(m:M α):Prop:=∀s e s',m s≠some (.error e,s')
inductive BO{α β:Type}(m:M α)(f:α→M β)(s:St)(x:Option (Except SV β×St)):Prop
 |mk(a:α)(s1:St)(h1:m s=some (.ok a,s1))(h2:f a s1=x)
inductive BE{α β:Type}(m:M α)(f:α→M β)(g:SV→M β)(s:St)(x:Option (Except SV β×St)):Prop
 |err(e:SV)(s1:St)(h1:m s=some (.error e,s1))(h2:g e s1=x)
 |ok(a:α)(s1:St)(h1:m s=some (.ok a,s1))(h2:f a s1=x)
theorem fJ{α β:Type}{m:M α}{f:α→M β}{s s':St}{r:Except SV β}(n:NoE m)(h:bnd m f s=some (r,s')):BO m f s (some (r,s')):=by
 rcases aT h with⟨e,h1,_⟩|⟨a,s1,h1,h2⟩
 ·exact absurd h1 (n _ _ _)
 ·exact⟨a,s1,h1,h2⟩
noncomputable def lF{α β:Type}(m:M α)(f:α→M β)(g:SV→M β):M β:=fun s=>match m s with
 |none=>none
 |some (.error e,s')=>g e s'
 |some (.ok a,s')=>f a s'
set_option tactic.hygienic true in
theorem cV{α β:Type}{m:M α}{f:α→M β}{g:SV→M β}{s s':St}{r:Except SV β}(h:lF m f g s=some (r,s')):BE m f g s (some (r,s')):=by
 unfold lF at h
 split at h
 ·cases h
 ·rename_i e s1 q;exact .err e s1 q h
 ·rename_i a s1 q;exact .ok a s1 q h
theorem Grows.bndE {α β:Type}{m:M α}{f:α→M β}{g:SV→M β}(hm:Grows m)(hf:∀ a,Grows (f a))(hg:∀ e,Grows (g e)):Grows (lF m f g):=by
 intro s r s' h
 have app:∀ {x:M β}{s1:St}{y:Except SV α},Grows x→m s=some (y,s1)→x s1=some (r,s')→∃ l,s'.qs=l++s.qs:=fun gx h1 h2=>by
  obtain ⟨l,e1⟩:=hm _ _ _ h1
  obtain ⟨l',e2⟩:=gx _ _ _ h2
  exact ⟨l'++l,by rw [e2,e1,List.append_assoc]⟩
 rcases cV h with ⟨e,s1,h1,h2⟩|⟨a,s1,h1,h2⟩
 ·exact app (hg e) h1 h2
 ·exact app (hf a) h1 h2
theorem Grows.thr {α:Type}{e:SV}:Grows (thr e:M α):=fun _ _ _ h=>by cases h;exact ⟨[],rfl⟩
noncomputable def onI{α:Type}(x:SV)(k:Int→M α):M α:=match x with
 |.int i=>k i
 |_=>aH
noncomputable def onS{α:Type}(x:SV)(k:Str→M α):M α:=match x with
 |.str i=>k i
 |_=>aH
noncomputable def onN{α:Type}(x:SV)(m:M α):M α:=match x with
 |.none=>m
 |_=>aH
noncomputable def pO{α:Type}(v:SV)(f:SO→M α):M α:=match v with
 |.ref i=>bnd (bP i) f
 |_=>aH
noncomputable def WS{α:Type}(i:Nat)(f:Nat→Nat→Option Nat→SV→Bool→M α)(o:SO):M α:=match o with
 |.exc C d ctx tb=>f i C d ctx tb
 |_=>aH
noncomputable def onX{α:Type}(v:SV)(f:Nat→Nat→Option Nat→SV→Bool→M α):M α:=match v with
 |.ref i=>bnd (bP i) (WS i f)
 |_=>aH
noncomputable def on1{α:Type}(l:List SV)(k:SV→M α):M α:=match l with
 |[a]=>k a
 |_=>aH
noncomputable def on2{α:Type}(l:List SV)(k:SV→SV→M α):M α:=match l with
 |[a,b]=>k a b
 |_=>aH
noncomputable def oT{α:Type}(q:Query)(a:α):M α:=fun st=>some (.ok a,{ st with qs:=q::st.qs })
noncomputable def told{α:Type}(k:Int→M α)(m:M α):M α:=fun st=>match st.pr with
 |[]=>m st
 |p::r=>k p { st with pr:=r }
noncomputable def wX:List Ora→Option (SV×List Ora)
 |[]=>none
 |w::r=>match w.out []with
  |.ok v=>some (v,r)
  |.error _=>none
noncomputable def FI(k:SV→M SV):M SV:=fun st=>match wX st.orc with
 |some p=>k p.1 { st with orc:=p.2 }
 |none=>none
theorem bU{α:Type}{q:Query}{a:α}:Grows (oT q a):=fun _ _ _ h=>by cases h;exact⟨[_],rfl⟩
theorem Grows.told{α:Type}{k:Int→M α}{m:M α}(h1:∀p,Grows (k p))(h2:Grows m):Grows (told k m):=fun s=>by
 obtain⟨x1,x2,x3,pr,x4,x5⟩:=s
 cases pr with
 |nil=>exact h2 _
 |cons p r=>exact h1 p ⟨x1,x2,x3,r,x4,x5⟩
theorem tU{k:SV→M SV}{st st':St}{r:Except SV SV}(h:FI k st=some (r,st')):∃v l,k v { st with orc:=l }=some (r,st'):=by
 have h:(match wX st.orc with|some p=>k p.1 { st with orc:=p.2 }|none=>none)=some (r,st'):=h
 cases q:wX st.orc with
 |none=>rw[q]at h;exact nos h
 |some p=>rw[q]at h;exact⟨_,_,h⟩
theorem Grows.oraV{k:SV→M SV}(h:∀v,Grows (k v)):Grows (FI k):=fun s r s' hm =>
 let⟨v,_,hm⟩:=tU hm
 have q:=h v _ r s' hm
 q
theorem Grows.onRef{α:Type}{x:SV}{k:SO→M α}(h:∀i,Grows (k i)):Grows (pO x k):=by
 cases x with
 |ref i=>exact Grows.bnd aS h
 |_=>exact aB
noncomputable def onT{α:Type}(x:SV)(k:Nat→M α):M α:=match x with
 |.top i=>k i
 |_=>aH
noncomputable def mX{α:Type}(o:SO)(k:List SV→M α):M α:=match o with
 |.list xs=>k xs
 |_=>aH
noncomputable def MK{α:Type}(o:SO)(k:List (Str×SV)→M α):M α:=match o with
 |.sdict m=>k m
 |_=>aH
noncomputable def MJ{α:Type}(o:SO)(k:List (List SV×SV)→M α):M α:=match o with
 |.tdict m=>k m
 |_=>aH
noncomputable def mW{α:Type}(o:SO)(k:List SV→M α):M α:=match o with
 |.tuple xs=>k xs
 |_=>aH
noncomputable def tV{α:Type}(v:SV)(f:Nat→SO→M α):M α:=match v with
 |.ref i=>bnd (bP i) (f i)
 |_=>aH
noncomputable def on3{α:Type}(l:List SV)(k:SV→SV→SV→M α):M α:=match l with
 |[a,b,c]=>k a b c
 |_=>aH
theorem Grows.onT{α:Type}{x:SV}{k:Nat→M α}(h:∀i,Grows (k i)):Grows (onT x k):=by
 cases x with
 |top i=>exact h i
 |_=>exact aB
theorem Grows.onList{α:Type}{o:SO}{k:List SV→M α}(h:∀i,Grows (k i)):Grows (mX o k):=by
 cases o with
 |list i=>exact h i
 |_=>exact aB
theorem Grows.onSD{α:Type}{o:SO}{k:List (Str×SV)→M α}(h:∀i,Grows (k i)):Grows (MK o k):=by
 cases o with
 |sdict i=>exact h i
 |_=>exact aB
theorem Grows.onTD{α:Type}{o:SO}{k:List (List SV×SV)→M α}(h:∀i,Grows (k i)):Grows (MJ o k):=by
 cases o with
 |tdict i=>exact h i
 |_=>exact aB
theorem Grows.onTup{α:Type}{o:SO}{k:List SV→M α}(h:∀i,Grows (k i)):Grows (mW o k):=by
 cases o with
 |tuple i=>exact h i
 |_=>exact aB
theorem Grows.onRi{α:Type}{x:SV}{k:Nat→SO→M α}(h:∀i o,Grows (k i o)):Grows (tV x k):=by
 cases x with
 |ref i=>exact Grows.bnd aS (h i)
 |_=>exact aB
theorem Grows.on3{α:Type}{l:List SV}{k:SV→SV→SV→M α}(h:∀i j m,Grows (k i j m)):Grows (on3 l k):=by
 rcases l with _|⟨a,_|⟨b,_|⟨d,_|⟨e,l⟩⟩⟩⟩<;>first|exact h _ _ _|exact aB
theorem Grows.onX{α:Type}{v:SV}{f:Nat→Nat→Option Nat→SV→Bool→M α}(h:∀i C d x t,Grows (f i C d x t)):Grows (onX v f):=by
 cases v with
 |ref i =>
  refine Grows.bnd aS fun o=>?_
  cases o with
  |exc C d x t=>exact h _ _ _ _ _
  |_=>exact aB
 |_=>exact aB
theorem Grows.on1{α:Type}{l:List SV}{k:SV→M α}(h:∀i,Grows (k i)):Grows (on1 l k):=by
 rcases l with _|⟨a,_|⟨b,l⟩⟩<;>first|exact h _|exact aB
theorem Grows.on2{α:Type}{l:List SV}{k:SV→SV→M α}(h:∀i j,Grows (k i j)):Grows (on2 l k):=by
 rcases l with _|⟨a,_|⟨b,_|⟨d,l⟩⟩⟩<;>first|exact h _ _|exact aB
theorem Grows.onI{α:Type}{x:SV}{k:Int→M α}(h:∀i,Grows (k i)):Grows (onI x k):=by
 cases x with
 |int i=>exact h i
 |_=>exact aB
theorem Grows.onS{α:Type}{x:SV}{k:Str→M α}(h:∀i,Grows (k i)):Grows (onS x k):=by
 cases x with
 |str i=>exact h i
 |_=>exact aB
theorem Grows.onN{α:Type}{x:SV}{k:M α}(h:Grows k):Grows (onN x k):=by
 cases x with
 |none=>exact h
 |_=>exact aB
theorem GP{i:Nat}{st st':St}{o:SO}(h:bP i st=some (.ok o,st')):st.objs[i]?=some o∧st'=st:=by
 unfold bP at h;split at h
 ·rename_i q;cases h;exact⟨q,rfl⟩
 ·cases h
theorem xO{i:Nat}{st st':St}{e:SV}:bP i st≠some (.error e,st'):=fun h=>by
 unfold bP at h;split at h<;>cases h
inductive OI{α:Type}(i:Nat)(f:SO→M α)(st:St)(x:Option (Except SV α×St)):Prop
 |mk(o:SO)(h1:st.objs[i]?=some o)(h2:f o st=x)
theorem dW{α:Type}{i:Nat}{f:SO→M α}{st st':St}{r:Except SV α}(h:bnd (bP i) f st=some (r,st')):OI i f st (some (r,st')):=by
 rcases aT h with⟨e,h1,_⟩|⟨o,s1,h1,h2⟩
 ·exact absurd h1 xO
 ·obtain⟨a,rfl⟩:=GP h1;exact⟨o,a,h2⟩
set_option tactic.hygienic true in
theorem qA{d n:Nat}{st st':St}{r:Except SV SV}(h:nN d n st=some (r,st')):∃m v,st.objs[d]?=some (.idict m)∧lk m n=some v∧(∀i,v≠.bi i)∧r = .ok v∧st'=st:=by
 obtain⟨o,ho,h⟩:=dW h
 split at h
 ·rename_i m
  obtain⟨v,hv,rfl,rfl⟩:=nK h
  obtain⟨h1,h2⟩:=jO hv
  exact⟨m,v,ho,h1,h2,rfl,rfl⟩
 ·cases h
inductive XI{α:Type}(v:SV)(f:Nat→Nat→Option Nat→SV→Bool→M α)(st:St)(x:Option (Except SV α×St)):Prop
 |mk(i C:Nat)(d:Option Nat)(ctx:SV)(tb:Bool)(e1:v = .ref i)(e2:st.objs[i]?=some (.exc C d ctx tb))(e3:f i C d ctx tb st=x)
theorem rJ{α:Type}{v:SV}{f:Nat→Nat→Option Nat→SV→Bool→M α}{st st':St}{r:Except SV α}(h:onX v f st=some (r,st')):XI v f st (some (r,st')):=by
 cases v with
 |ref i =>
  obtain⟨o,ho,h⟩:=dW h
  cases o with
  |exc C d x t=>exact⟨i,C,d,x,t,rfl,ho,h⟩
  |_=>exact nos h
 |_=>exact nos h
section
variable{G:Gl}{c:Ac}{ρ:Tr}{st:St}{s:Shared}
theorem Now.oat(N:Now G c ρ st s.heap){i:Nat}{a:Addr}{o:SO}(ha:ρ.a[i]?=some a)(h:st.objs[i]?=some o):OR G ρ s.heap a o:=N.rep.ob i o a h ha
inductive LI{α:Type}(G:Gl)(ρ:Tr)(h:Heap)(x:Value)(f:SO→M α)(st:St)(y:Option (Except SV α×St)):Prop
 |mk(o:SO)(a:Addr)(e:x = .ref a)(ho:OR G ρ h a o)(hm:f o st=y)(hs:(a==sysModules)=false)
theorem Now.look(N:Now G c ρ st s.heap){v:SV}{x:Value}(hv:VR ρ v x){α:Type}{f:SO→M α}{st':St}{r:Except SV α}(h:bnd (cD v) f st=some (r,st')):LI G ρ s.heap x f st (some (r,st')):=by
 have lo:∀a:Addr,822<a→(a==sysModules)=false:=fun a q=>by
  rw[beq_eq_false_iff_ne];intro z;rw[z]at q;exact absurd q (by decide)
 cases v with
 |ref i =>
  obtain⟨a,ha,rfl⟩:=hv
  obtain⟨o,ho,h⟩:=dW h
  have q:=N.oat ha ho
  exact⟨o,a,rfl,q,h,lo a (N.rep.low a (List.mem_of_getElem? ha))⟩
 |fz o =>
  obtain⟨a,ha,rfl⟩:=hv
  exact⟨o,a,rfl,(N.rep.fz a o ha).1,h,lo a (N.rep.fz a o ha).2.1.2⟩
 |_=>cases h
theorem VR.handed{v:SV}{x:Value}(h:VR ρ v x)(hb:∀i,v≠.bi i):handedIn x=true:=by
 cases v with
 |bi i=>exact absurd rfl (hb i)
 |int i=>obtain⟨t,rfl⟩:=h;rfl
 |str i=>obtain⟨t,rfl⟩:=h;rfl
 |ref i=>obtain⟨t,_,rfl⟩:=h;rfl
 |opq n=>obtain⟨x,t,rfl,_⟩:=h;rfl
 |any=>exact h
 |fz o=>obtain⟨t,_,rfl⟩:=h;rfl
 |txt l=>obtain⟨t,rfl,_⟩:=h;rfl
 |pce a b=>obtain⟨t,rfl,_⟩:=h;rfl
 |ostr o =>
  cases o with
  |none=>cases h;rfl
  |some s=>obtain⟨t,rfl⟩:=h;rfl
 |sm n =>
  cases n with
  |zero=>obtain⟨t,rfl⟩:=h;rfl
  |succ n=>obtain⟨x,t,rfl,_⟩:=h;rfl
 |_=>cases h;rfl
theorem Now.asked{h:Heap}(N:Now G c ρ st h){l:List Int}{q:List Query}{o:List Ora}:Now G c ρ { st with pr:=l,qs:=q,orc:=o } h:=⟨N.frames,N.depth,N.units,N.hd,N.rep,N.fr,N.frs,N.lo⟩
theorem Now.room{h:Heap}(N:Now G c ρ st h){n:Nat}(h:n≤12):c.A.units+n<cLine:=Nat.lt_of_le_of_lt (Nat.add_le_add (Nat.le_add_right _ _) h) N.units
section
variable{α β:Type}{R:Tr→α→β→Prop}
theorem SA.push(N:Now G c ρ st s.heap){t:Sem β}{q:Query}{a:α}(h:G.V q→∀(Q:β→Shared→Prop) E,(∀b tk,R ρ a b→Q b { s with toks:=tk })→WP G c t Q E s):SA G c R t (oT q a) ρ st s:=by
 intro r st' hm hq Q E post
 cases hm
 exact h (hq _ (.head _)) Q E fun b tk hb=>post ρ { s with toks:=tk } aF.toks N.asked b hb
theorem SA.told(N:Now G c ρ st s.heap){t:Sem β}{k:Int→M α}{m:M α}(h1:∀p st,Now G c ρ st s.heap→SA G c R t (k p) ρ st s)(h2:SA G c R t m ρ st s):SA G c R t (told k m) ρ st s:=by
 obtain⟨x1,x2,x3,pr,x4,x5⟩:=st
 cases pr with
 |nil=>exact h2
 |cons p r=>exact h1 p ⟨x1,x2,x3,r,x4,x5⟩ N.asked
theorem SA.ret0(N:Now G c ρ st s.heap){t:Sem β}{a:α}{b:β}(hr:R ρ a b)
  (h:∀(Q:β→Shared→Prop) E,(∀tk,Q b { s with toks:=tk })→WP G c t Q E s):SA G c R t (aG a) ρ st s:=by
 intro r st' hm hq Q E post
 cases hm
 exact h Q E fun tk=>post ρ { s with toks:=tk } aF.toks N _ hr
theorem SA.onI{T:Value→Sem β}{x:SV}{a:Value}{k:Int→M α}(hx:VR ρ x a)(h:∀i t,SA G c R (T (.int i t)) (k i) ρ st s):SA G c R (T a) (onI x k) ρ st s:=by
 cases x with
 |int i=>obtain⟨t,rfl⟩:=hx;exact h i t
 |_=>exact SA.fail
theorem SA.onS{T:Value→Sem β}{x:SV}{a:Value}{k:Str→M α}(hx:VR ρ x a)(h:∀i t,SA G c R (T (.str i t)) (k i) ρ st s):SA G c R (T a) (onS x k) ρ st s:=by
 cases x with
 |str i=>obtain⟨t,rfl⟩:=hx;exact h i t
 |_=>exact SA.fail
theorem SA.onN{T:Value→Sem β}{x:SV}{a:Value}{m:M α}(hx:VR ρ x a)(h:SA G c R (T .none) m ρ st s):SA G c R (T a) (onN x m) ρ st s:=by
 cases x with
 |none=>cases hx;exact h
 |_=>exact SA.fail
theorem SA.on1{T:List Value→Sem β}{l:List SV}{vs:List Value}{k:SV→M α}(ha:aK (VR ρ) l vs)(h:∀a x,VR ρ a x→SA G c R (T [x]) (k a) ρ st s):SA G c R (T vs) (on1 l k) ρ st s:=by
 rcases l with _|⟨a,_|⟨b,l⟩⟩
 ·exact SA.fail
 ·obtain⟨x,rfl,h1⟩:=ha.one;exact h _ _ h1
 ·exact SA.fail
theorem SA.on2{T:List Value→Sem β}{l:List SV}{vs:List Value}{k:SV→SV→M α}(ha:aK (VR ρ) l vs)(h:∀a x b y,VR ρ a x→VR ρ b y→SA G c R (T [x,y]) (k a b) ρ st s):SA G c R (T vs) (on2 l k) ρ st s:=by
 rcases l with _|⟨a,_|⟨b,_|⟨d,l⟩⟩⟩
 ·exact SA.fail
 ·exact SA.fail
 ·obtain⟨x,y,rfl,h1,h2⟩:=ha.two;exact h _ _ _ _ h1 h2
 ·exact SA.fail
theorem SA.on3{T:List Value→Sem β}{l:List SV}{vs:List Value}{k:SV→SV→SV→M α}(ha:aK (VR ρ) l vs)(h:∀a x b y d z,VR ρ a x→VR ρ b y→VR ρ d z→SA G c R (T [x,y,z]) (k a b d) ρ st s):SA G c R (T vs) (on3 l k) ρ st s:=by
 rcases l with _|⟨a,_|⟨b,_|⟨d,_|⟨e,l⟩⟩⟩⟩
 ·exact SA.fail
 ·exact SA.fail
 ·exact SA.fail
 ·obtain⟨x,y,z,rfl,h1,h2,h3⟩:=ha.three;exact h _ _ _ _ _ _ h1 h2 h3
 ·exact SA.fail
theorem SA.onT{T:Value→Sem β}{x:SV}{a:Value}{k:Nat→M α}(hx:VR ρ x a)(h:∀C,SA G c R (T (.ref C)) (k C) ρ st s):SA G c R (T a) (onT x k) ρ st s:=by
 cases x with
 |top i=>cases hx;exact h i
 |_=>exact SA.fail
theorem SA.onList{t:Sem β}{o:SO}{p:Addr}{k:List SV→M α}(ho:OR G ρ s.heap p o)(h:∀xs vs n,o = .list xs→s.heap.get? p=some { cls:=.type "list",data:=.seq vs n }→aK (VR ρ) xs vs.toList→SA G c R t (k xs) ρ st s):SA G c R t (mX o k) ρ st s:=by
 cases o with
 |list xs=>obtain⟨vs,n,e1,e2⟩:=ho;exact h xs vs n rfl e1 e2
 |_=>exact SA.fail
theorem SA.onSD{t:Sem β}{o:SO}{p:Addr}{k:List (Str×SV)→M α}(ho:OR G ρ s.heap p o)(h:∀m,ORs (s.heap.DictOf (strKind G.prog G.w) p) ρ s.heap p m→SA G c R t (k m) ρ st s):SA G c R t (MK o k) ρ st s:=by
 cases o with
 |sdict m=>exact h m ho
 |_=>exact SA.fail
theorem SA.onTD{t:Sem β}{o:SO}{p:Addr}{k:List (List SV×SV)→M α}(ho:OR G ρ s.heap p o)(h:∀m,OR G ρ s.heap p (.tdict m)→o = .tdict m→SA G c R t (k m) ρ st s):SA G c R t (MJ o k) ρ st s:=by
 cases o with
 |tdict m=>exact h m ho rfl
 |_=>exact SA.fail
theorem SA.onTup{t:Sem β}{o:SO}{p:Addr}{k:List SV→M α}(ho:OR G ρ s.heap p o)(h:∀m,OR G ρ s.heap p (.tuple m)→o = .tuple m→SA G c R t (k m) ρ st s):SA G c R t (mW o k) ρ st s:=by
 cases o with
 |tuple m=>exact h m ho rfl
 |_=>exact SA.fail
theorem SA.onObj{t:Sem β}{i:Nat}{f:SO→M α}(h:∀o,st.objs[i]?=some o→SA G c R t (f o) ρ st s):SA G c R t (bnd (bP i) f) ρ st s:=fun r st' hm =>
 let⟨o,ho,hm⟩:=dW hm
 h o ho r st' hm
theorem SA.onLook(N:Now G c ρ st s.heap){T:Value→Sem β}{v:SV}{x:Value}{f:SO→M α}(hv:VR ρ v x)(h:∀o a,OR G ρ s.heap a o→(a==sysModules)=false→SA G c R (T (.ref a)) (f o) ρ st s):SA G c R (T x) (bnd (cD v) f) ρ st s:=fun r st' hm=>by
 obtain⟨o,a,rfl,ho,hm,hs⟩:=N.look hv hm
 exact h o a ho hs r st' hm
theorem SA.onLookR(N:Now G c ρ st s.heap){t:Sem β}{v:SV}{p:Addr}{f:SO→M α}(hv:VR ρ v (.ref p))(h:∀o,OR G ρ s.heap p o→SA G c R t (f o) ρ st s):SA G c R t (bnd (cD v) f) ρ st s:=fun r st' hm=>by
 obtain⟨o,a,e,ho,hm,hs⟩:=N.look hv hm
 cases e
 exact h o ho r st' hm
theorem SA.onRef{T:Value→Sem β}{v:SV}{x:Value}{f:SO→M α}(hv:VR ρ v x)(h:∀(i:Nat) o a,ρ.a[i]?=some a→st.objs[i]?=some o→SA G c R (T (.ref a)) (f o) ρ st s):SA G c R (T x) (pO v f) ρ st s:=by
 cases v with
 |ref i=>obtain⟨a,ha,rfl⟩:=hv;exact SA.onObj fun o ho=>h i o a ha ho
 |_=>exact SA.fail
theorem SA.onRi{T:Value→Sem β}{v:SV}{x:Value}{f:Nat→SO→M α}(hv:VR ρ v x)(h:∀(i:Nat) o a,v = .ref i→ρ.a[i]?=some a→st.objs[i]?=some o→SA G c R (T (.ref a)) (f i o) ρ st s):SA G c R (T x) (tV v f) ρ st s:=by
 cases v with
 |ref i=>obtain⟨a,ha,rfl⟩:=hv;exact SA.onObj fun o ho=>h i o a rfl ha ho
 |_=>exact SA.fail
theorem SA.onX{T:Value→Sem β}{v:SV}{x:Value}{f:Nat→Nat→Option Nat→SV→Bool→M α}(hv:VR ρ v x)(h:∀(i:Nat) a C d y t,ρ.a[i]?=some a→st.objs[i]?=some (.exc C d y t)→SA G c R (T (.ref a)) (f i C d y t) ρ st s):SA G c R (T x) (onX v f) ρ st s:=fun r st' hm=>by
 obtain⟨i,C,d,y,t,rfl,ho,hm2⟩:=rJ hm
 obtain⟨a,ha,rfl⟩:=hv
 exact h i a C d y t ha ho r st' hm2
theorem SA.onOpt{t:Sem β}{γ:Type}{x:Option γ}{f:γ→M α}(h:∀v,x=some v→SA G c R t (f v) ρ st s):SA G c R t (bnd (bO x) f) ρ st s:=by
 cases x with
 |none=>exact SA.fail
 |some v=>exact h v rfl
theorem SA.opt{t:Sem β}{x:Option α}(h:∀v,x=some v→SA G c R t (aG v) ρ st s):SA G c R t (bO x) ρ st s:=by
 cases x with
 |none=>exact SA.fail
 |some v=>exact h v rfl
theorem SA.own{t:Sem β}{ok:Bool}{ca:Option (Option Nat)}{m:M α}(h:ok=true→ca=some none→SA G c R t m ρ st s):SA G c R t (rU ok ca m) ρ st s:=fun r st' hm =>
 let⟨h1,h2,hm⟩:=uL hm
 h h1 h2 r st' hm
theorem SA.onGetD{t:Sem β}{d n:Nat}{f:SV→M α}(h:∀m v,st.objs[d]?=some (.idict m)→lk m n=some v→(∀i,v≠.bi i)→SA G c R t (f v) ρ st s):SA G c R t (bnd (nN d n) f) ρ st s:=fun r st' hm=>by
 rcases aT hm with⟨e,h1,_⟩|⟨y,s1,h1,h2⟩
 ·obtain⟨_,_,_,_,_,q,_⟩:=qA h1;cases q
 ·obtain⟨m,v,hd,hl,hb,q,rfl⟩:=qA h1
  cases q
  exact h m _ hd hl hb r _ h2
end
theorem SA.getD{t:Sem Value}{d n:Nat}(h:∀m v,st.objs[d]?=some (.idict m)→lk m n=some v→(∀i,v≠.bi i)→SA G c VR t (aG v) ρ st s):SA G c VR t (nN d n) ρ st s:=SA.onObj fun o ho=>by
 cases o with
 |idict m=>exact SA.opt fun v hv=>h m v ho (jO hv).1 (jO hv).2
 |_=>exact SA.fail
theorem SA.oraV{R:Tr→SV→Value→Prop}(N:Now G c ρ st s.heap){t:Sem Value}{k:SV→M SV}(h:∀v st,Now G c ρ st s.heap→SA G c R t (k v) ρ st s):SA G c R t (FI k) ρ st s:=fun r st' hm =>
 let⟨v,l,hm⟩:=tU hm
 h v _ N.asked r st' hm
theorem NsR.at{m:List (Nat×SV)}{mr:Str→Option Value}(g:NsR G ρ m mr){n:Nat}{v:SV}(h:lk m n=some v):∃y,mr (G.an n)=some y∧VR ρ v y:=by
 have:=g n
 rw[h]at this
 exact this
theorem SA.get(H:GOK G)(N:Now G c ρ st s.heap){v:SV}{x:Value}(hv:VR ρ v x){n:Nat}{name:Str}{expr:Bool}(hn:name=G.an n):SA G c VR (getAttr x name expr) (GV G v n) ρ st s:=by
 subst hn
 have X:=N.rep.kin
 refine SA.onLook (T:=fun x=>getAttr x (G.an n) expr) N hv fun o a ho _=>?_
 cases o with
 |inst C d =>
  cases d with
  |none=>exact SA.fail
  |some d =>
   refine SA.own fun hp hca=>SA.getD fun m v hd hl hb=>?_
   obtain⟨dr,e1,dx,hdx,e5⟩:=ho
   obtain⟨mr,es,ep,g1,g4,g5,g6⟩:=N.oat hdx hd
   obtain⟨y,hy,hr⟩:=g6.at hl
   have p:=H.pc C hp
   exact SA.ret0 N hr fun Q E q=>get_value X ⟨e1,rfl,rfl,by rw[e5];exact g1⟩ (plainGet_of p.1).1 (findObj_own p.2.1 (H.ca0 C n hca) (by rfl) (by rw[fV g5 g1,hy])) (hr.handed hb) (q _)
 |exc C d ctx tb =>
  cases d with
  |none=>exact SA.fail
  |some d =>
   refine SA.own fun hp hca=>SA.getD fun m v hd hl hb=>?_
   obtain⟨o,vs,cx,tt,e1,e2,e3,e3',⟨dx,hdx,e5⟩,_⟩:=ho
   obtain⟨mr,es,ep,g1,g4,g5,g6⟩:=N.oat hdx hd
   obtain⟨y,hy,hr⟩:=g6.at hl
   have p:=H.xc C hp
   exact SA.ret0 N hr fun Q E q=>pD X ⟨e1,e2,by unfold notCls;rw[e3],by rw[e5];exact g1⟩ p.1 p.2.1 p.2.2.1 (findObj_own p.2.2.2.1 (H.ca0 C n hca) (by rfl) (by rw[fV g5 g1,hy])) (hr.handed hb) (q _)
 |finst C m =>
  refine SA.own fun hp hca=>SA.opt fun v hv=>?_
  obtain⟨hl,hb⟩:=jO hv
  obtain⟨dx,hz,e1⟩:=ho
  obtain⟨mr,es,ep,g1,g4,g5,g6⟩:=(N.rep.fz _ _ hz).1
  obtain⟨y,hy,hr⟩:=g6.at hl
  have p:=H.pc C hp
  exact SA.ret0 N hr fun Q E q=>get_value X ⟨e1,rfl,rfl,g1⟩ (plainGet_of p.1).1 (findObj_own p.2.1 (H.ca0 C n hca) (by rfl) (by rw[fV g5 g1,hy])) (hr.handed hb) (q _)
 |_=>exact SA.fail
end
end
section
open PySem.Calls
noncomputable def mIf{α:Type}(b:Bool)(m:M α):M α:=bif b then m else aH
theorem cY{α:Type}{b:Bool}{m:M α}{st st':St}{r:Except SV α}(h:mIf b m st=some (r,st')):b=true∧m st=some (r,st'):=by
 cases b with
 |true=>exact⟨rfl,h⟩
 |false=>cases h
theorem aD{α:Type}{b:Bool}{m:M α}(hm:Grows m):Grows (mIf b m):=fun s r s' h=>hm s r s' (cY h).2
noncomputable def rO(G:Gl)(d n:Nat)(x:SV):M Unit:=bnd (bP d) fun o=>match o with
 |.idict m=>mIf (Nat.blt n G.nA&&Nat.ble m.length 500) (eX d (.idict (lX m n x)))
 |_=>aH
noncomputable def PL:SO→Option (Nat×Nat)
 |.inst C d=>d.map fun d=>(C,d)
 |.exc C d _ _=>d.map fun d=>(C,d)
 |_=>none
noncomputable def AJ(G:Gl)(v:SV)(n:Nat)(x:SV):M Unit:=pO v fun o=>bnd (bO (PL o)) fun p=>rU (G.pc p.1||G.xc p.1) (G.ca p.1 n) (rO G p.2 n x)
theorem sJ{G:Gl}{d n:Nat}{x:SV}:Grows (rO G d n x):=Grows.bnd aS fun o=>by
 cases o with
 |idict m=>exact aD aZ
 |_=>exact aB
theorem nY{G:Gl}{v:SV}{n:Nat}{x:SV}:Grows (AJ G v n x):=Grows.onRef fun o=>Grows.bnd aL fun p=>fY sJ
section
variable{G:Gl}{c:Ac}{ρ:Tr}{st:St}{s:Shared}
theorem NsR.put{m:List (Nat×SV)}{mr:Str→Option Value}(H:GOK G)(x:NsR G ρ m mr){n:Nat}(hn:n<G.nA){v:SV}{y:Value}(hv:VR ρ v y) :
  NsR G ρ (lX m n v) (fun z=>if z=G.an n then some y else mr z):=fun i=>by
 rw[AS]
 cases q:Nat.beq n i with
 |true =>
  have e:=dA q;subst e
  simp only[cond_true,if_true]
  exact⟨y,rfl,hv⟩
 |false =>
  have ne:G.an i≠G.an n:=fun e=>wF q (H.inj n i hn e.symm)
  simp only[cond_false,if_neg ne]
  exact x i
theorem Now.putD(H:GOK G)(N:Now G c ρ st s.heap){d:Nat}{dx:Addr}{m:List (Nat×SV)}{n:Nat}{v:SV}{y:Value}(hd:st.objs[d]?=some (.idict m))(hdx:ρ.a[d]?=some dx)
  {mr:Str→Option Value}{es:Array DictEntry}{ep:Nat}(g1:s.heap.get? dx=some { cls:=.type "dict",data:=.dict es ep })(g4:es.size≤m.length)(g5:s.heap.Ns dx mr)(g6:NsR G ρ m mr)
  (hn:n<G.nA)(hv:VR ρ v y){h':Heap}(a1:h'.Ns dx (fun x=>if x=G.an n then some y else mr x))(a2:Heap.SameBut dx s.heap h')
  (a3:∃o' es' ep',h'.get? dx=some o'∧o'.cls = .type "dict"∧o'.dict=none∧o'.slots = #[]∧o'.data = .dict es' ep'∧es'.size=bif (mr (G.an n)).isSome then es.size else es.size+1){tk:Nat} :
  aF c.env.locals ρ s ρ { s with heap:=h',toks:=tk }∧Now G c ρ { st with objs:=st.objs.set d (.idict (lX m n v)) } h':=by
 obtain⟨o',es',ep',e1,e2,e3,e4,e5,e6⟩:=a3
 have hcl:∀o,s.heap.get? dx=some o→KeptAt h' dx o:=fun o ho=>by rw[g1]at ho;cases ho;exact⟨o',e1,e2,fun _ _ _=>⟨es',ep',e5⟩⟩
 have hx:∀b o,s.heap.get? b=some o→b≠dx→bW h' b o:=fun b o ho hb=>⟨o,(a2.2 b hb).trans ho,Eqv.refl o⟩
 have e0:o'={ cls:=.type "dict",data:=.dict es' ep' }:=by
  obtain⟨x1,x2,x3,x4⟩:=o'
  simp only at e2 e3 e4 e5
  rw[e2,e3,e4,e5]
 subst e0
 refine⟨aF.change (List.mem_of_getElem? hdx) hx hcl,N.change H hdx (fun q=>by rw[hd]at q;cases q) hx ⟨_,es',ep',e1,?_,a1,g6.put H hn hv⟩ ⟨_,e1,aP rfl,aP rfl⟩ hcl⟩
 rw[e6,lN]
 have:=g6 n
 cases q:lk m n with
 |none=>rw[q]at this;rw[this];simp;assumption
 |some z=>rw[q]at this;obtain⟨y',hy,_⟩:=this;rw[hy];simp;assumption
section
variable{α β:Type}{R:Tr→α→β→Prop}
theorem SA.if{t:Sem β}{b:Bool}{m:M α}(h:b=true→SA G c R t m ρ st s):SA G c R t (mIf b m) ρ st s:=by
 cases b with
 |true=>exact h rfl
 |false=>exact SA.fail
end
theorem SA.put{t:Sem Unit}{i:Nat}{so:SO}(h:∀(Q:Unit→Shared→Prop) E,(∀s',aF c.env.locals ρ s ρ s'→Now G c ρ { st with objs:=st.objs.set i so } s'.heap→Q () s')→WP G c t Q E s):SA G c (fun _ _ _=>True) t (eX i so) ρ st s:=by
 intro r st' hm hq Q E post
 cases hm
 exact h Q E fun s' S N'=>post ρ s' S N' () trivial
theorem SA.putR{α β:Type}{R:Tr→α→β→Prop}{t:Sem β}{i:Nat}{so:SO}{x:α}{y:β}(hr:R ρ x y)(h:∀(Q:β→Shared→Prop) E,(∀s',aF c.env.locals ρ s ρ s'→Now G c ρ { st with objs:=st.objs.set i so } s'.heap→Q y s')→WP G c t Q E s):SA G c R t (bnd (eX i so) fun _=>aG x) ρ st s:=by
 intro r st' hm hq Q E post
 cases hm
 exact h Q E fun s' S N'=>post ρ s' S N' y hr
theorem SA.storeD{t:Sem Unit}{d n:Nat}{x:SV}(h:∀m,st.objs[d]?=some (.idict m)→n<G.nA→m.length≤500→SA G c (fun _ _ _=>True) t (eX d (.idict (lX m n x))) ρ st s):SA G c (fun _ _ _=>True) t (rO G d n x) ρ st s:=SA.onObj fun o ho=>by
 cases o with
 |idict m=>exact SA.if fun q=>h m ho (Nat.le_of_ble_eq_true (aN q).1) (Nat.le_of_ble_eq_true (aN q).2)
 |_=>exact SA.fail
theorem OR.inst{h:Heap}{a:Addr}{o:SO}(q:OR G ρ h a o){C d:Nat}(e:PL o=some (C,d)):∃dx ox,ρ.a[d]?=some dx∧ox.dict=some dx∧∀od,h.get? dx=some od→W.InstAt h a ox C (some od):=by
 cases o with
 |inst C d =>
  obtain⟨d',hd,e⟩:=Option.map_eq_some_iff.mp e
  cases e;subst hd
  obtain⟨dr,e1,dx,h1,h2⟩:=q
  exact⟨dx,_,h1,h2,fun od ho=>⟨e1,rfl,rfl,by rw[h2];exact ho⟩⟩
 |exc C d ctx tb =>
  obtain⟨d',hd,e⟩:=Option.map_eq_some_iff.mp e
  cases e;subst hd
  obtain⟨o,vs,cx,tt,e1,e2,e3,e3',⟨dx,h1,h2⟩,_⟩:=q
  exact⟨dx,o,h1,h2,fun od ho=>⟨e1,e2,by unfold notCls;rw[e3],by rw[h2];exact ho⟩⟩
 |_=>cases e
theorem SA.setA(H:GOK G)(N:Now G c ρ st s.heap){v:SV}{x:Value}(hv:VR ρ v x){n:Nat}{name:Str}(hn:name=G.an n){y:SV}{z:Value}(hy:VR ρ y z) :
  SA G c (fun _ _ _=>True) (setAttr x name z) (AJ G v n y) ρ st s:=by
 subst hn
 refine SA.onRef (T:=fun x=>setAttr x (G.an n) z) hv fun i o a ha ho=>SA.onOpt fun p hp=>SA.own fun hpc hca=>SA.storeD fun m hd hn hz=>SA.put fun Q E post=>?_
 obtain⟨dx,ox,hdx,e5,I⟩:=(N.oat ha ho).inst hp
 obtain⟨mr,es,ep,g1,g4,g5,g6⟩:=N.oat hdx hd
 obtain⟨cd,p1,p2,p3,p4,p5,p6⟩:=H.st _ hpc
 refine set_plain N.rep.kin (I _ g1) p6 (RM (s:={ s with toks:=s.toks+1 }) N.rep.kin (I _ g1) e5 p1 p2 p3 p4 p5 (H.ca0 _ n hca) g1 rfl (Nat.le_trans g4 (Nat.le_trans hz (by decide))) g5 fun h' a1 a2 a3=>?_)
 have q:=N.putD H hd hdx g1 g4 g5 g6 hn hy a1 a2 a3 (tk:=s.toks+1+1)
 exact post _ q.1 q.2
end
end
section
open PySem.Calls
noncomputable def GW{α:Type}(ok:Bool)(ca:Option (Option Nat))(m1:Nat→M α)(m2:M α):M α:=match ok,ca with
 |true,some (some f)=>m1 f
 |true,some none=>m2
 |_,_=>aH
set_option tactic.hygienic true in
theorem uN{α:Type}{ok:Bool}{ca:Option (Option Nat)}{m1:Nat→M α}{m2:M α}{st st':St}{r:Except SV α}(h:GW ok ca m1 m2 st=some (r,st')) :
  ok=true∧((∃f,ca=some (some f)∧m1 f st=some (r,st'))∨(ca=some none∧m2 st=some (r,st'))):=by
 unfold GW at h
 split at h
 ·rename_i f;exact⟨rfl,.inl ⟨f,rfl,h⟩⟩
 ·exact⟨rfl,.inr ⟨rfl,h⟩⟩
 ·cases h
theorem DE{α:Type}{ok:Bool}{ca:Option (Option Nat)}{m1:Nat→M α}{m2:M α}(h1:∀f,Grows (m1 f))(h2:Grows m2):Grows (GW ok ca m1 m2):=fun s r s' h=>by
 rcases(uN h).2 with⟨f,_,q⟩|⟨_,q⟩
 ·exact h1 f _ _ _ q
 ·exact h2 _ _ _ q
noncomputable def rR(d n:Nat)(x:SV×List SV):M (SV×List SV):=bnd (bP d) fun o=>match o with
 |.idict m=>mIf (lk m n).isNone (aG x)
 |_=>aH
noncomputable def dM(x:Option BI)(v:SV):M (SV×List SV):=bnd (bO x) fun id=>aG (.bi id,[v])
noncomputable def xP(G:Gl)(v:SV)(n:Nat)(o:SO):M (SV×List SV):=match o with
 |.inst C d=>bnd (bO d) fun d=>GW (G.pc C) (G.ca C n) (fun f=>rR d n (.top f,[v])) (bnd (nN d n) fun x=>aG (x,[]))
 |.list _=>dM (G.lm n) v
 |.clist _=>dM (G.lm n) v
 |.sdict _=>dM (G.dm n) v
 |.tdict _=>dM (G.dm n) v
 |_=>aH
noncomputable def GQ(G:Gl)(v:SV)(n:Nat):M (SV×List SV):=match v with
 |.ref i=>bnd (bP i) (xP G v n)
 |.str _=>dM (G.sm n) v
 |.opq _=>dM (G.sm n) v
 |.txt _=>dM (G.sm n) v
 |.pce _ _=>dM (G.sm n) v
 |.top _=>bnd (bO (G.cm v n)) fun x=>aG (x,[])
 |.ty _=>bnd (bO (G.cm v n)) fun x=>aG (x,[])
 |_=>aH
theorem sK{d n:Nat}{x:SV×List SV}:Grows (rR d n x):=Grows.bnd aS fun o=>by
 cases o with
 |idict m=>exact aD Grows.ret
 |_=>exact aB
theorem bT{x:Option BI}{v:SV}:Grows (dM x v):=Grows.bnd aL fun _=>Grows.ret
theorem vE{G:Gl}{v:SV}{n:Nat}{o:SO}:Grows (xP G v n o):=by
 cases o with
 |inst C d=>exact Grows.bnd aL fun _=>DE (fun _=>sK) (Grows.bnd jA fun _=>Grows.ret)
 |list _=>exact bT
 |clist _=>exact bT
 |sdict _=>exact bT
 |tdict _=>exact bT
 |_=>exact aB
theorem oB{G:Gl}{v:SV}{n:Nat}:Grows (GQ G v n):=by
 cases v with
 |ref i=>exact Grows.bnd aS fun o=>vE
 |str _=>exact bT
 |opq _=>exact bT
 |txt _=>exact bT
 |pce _ _=>exact bT
 |top _=>exact Grows.bnd aL fun _=>Grows.ret
 |ty _=>exact Grows.bnd aL fun _=>Grows.ret
 |_=>exact aB
inductive PI{α β:Type}(x:Option α)(f:α→M β)(st:St)(y:Option (Except SV β×St)):Prop
 |mk(v:α)(h1:x=some v)(h2:f v st=y)
theorem BG{α β:Type}{x:Option α}{f:α→M β}{st st':St}{r:Except SV β}(h:bnd (bO x) f st=some (r,st')):PI x f st (some (r,st')):=by
 cases x with
 |none=>cases h
 |some v=>exact⟨v,rfl,h⟩
noncomputable def PR(ρ:Tr)(x:SV×List SV)(y:Value×List Value):Prop:=VR ρ x.1 y.1∧aK (VR ρ) x.2 y.2
theorem VR.nil{ρ:Tr}{v:SV}{x:Value}(h:VR ⟨[],[]⟩ v x):VR ρ v x:=h.mono ⟨⟨ρ.a,rfl⟩,fun _ q=>by cases q⟩
section
variable{G:Gl}{c:Ac}{ρ:Tr}{st:St}{s:Shared}
section
variable{α β:Type}{R:Tr→α→β→Prop}
theorem SA.fun{t:Sem β}{ok:Bool}{ca:Option (Option Nat)}{m1:Nat→M α}{m2:M α}(h1:ok=true→∀f,ca=some (some f)→SA G c R t (m1 f) ρ st s)(h2:ok=true→ca=some none→SA G c R t m2 ρ st s):SA G c R t (GW ok ca m1 m2) ρ st s:=fun r st' hm=>by
 obtain⟨h,⟨f,q,hm⟩|⟨q,hm⟩⟩:=uN hm
 ·exact h1 h f q r st' hm
 ·exact h2 h q r st' hm
end
theorem SA.shadow{R:Tr→SV×List SV→Value×List Value→Prop}{t:Sem (Value×List Value)}{d n:Nat}{x:SV×List SV}(h:∀m,st.objs[d]?=some (.idict m)→lk m n=none→SA G c R t (aG x) ρ st s):SA G c R t (rR d n x) ρ st s:=SA.onObj fun o ho=>by
 cases o with
 |idict m=>exact SA.if fun q=>h m ho (Option.isNone_iff_eq_none.mp q)
 |_=>exact SA.fail
theorem SA.slot(N:Now G c ρ st s.heap){v:SV}{x:Value}(hv:VR ρ v x){n:Nat}{pl:Sem Bool}{T:String}{f:Nat→Option BI}(hT:s.TypeIs x T)(pa:PlainAttrs T)(hs:∀n id,f n=some id→Slot T (G.an n) id.id∧typeOf (.builtin id.id)=Pure.pure (Value.type "method_descriptor"))
  (hd:∀a,x = .ref a→∃o,s.heap.get? a=some o∧o.dict=none):SA G c PR (getMethod x (G.an n) pl) (dM (f n) v) ρ st s :=
 SA.onOpt fun id h=>SA.ret0 N (⟨rfl,hv,trivial⟩:PR ρ (.bi id,[v]) (.builtin id.id,[x])) fun Q E q=>getMethod_builtin hT pa (hs n id h).1 (hs n id h).2 hd (q s.toks)
theorem SA.slotO(N:Now G c ρ st s.heap){v:SV}{a:Addr}(hv:VR ρ v (.ref a)){n:Nat}{pl:Sem Bool}{T:String}{f:Nat→Option BI}{dt:Data}(e1:s.heap.get? a=some { cls:=.type T,data:=dt })(pa:PlainAttrs T)(hs:∀n id,f n=some id→Slot T (G.an n) id.id∧typeOf (.builtin id.id)=Pure.pure (Value.type "method_descriptor")) :
  SA G c PR (getMethod (.ref a) (G.an n) pl) (dM (f n) v) ρ st s :=
 SA.slot N hv ⟨_,e1,rfl⟩ pa hs fun b e=>⟨_,by cases e;exact e1,rfl⟩
theorem SA.slotS(H:GOK G)(N:Now G c ρ st s.heap){v:SV}{y:Str}{t:Tok}(hv:VR ρ v (.str y t)){n:Nat}{pl:Sem Bool}:SA G c PR (getMethod (.str y t) (G.an n) pl) (dM (G.sm n) v) ρ st s :=
 SA.slot N hv rfl PySem.F.plainAttrs_str H.sm fun a e=>nomatch e
theorem SA.cls(H:GOK G)(N:Now G c ρ st s.heap){v:SV}{x:Value}(hv:x=rv v){n:Nat}{pl:Sem Bool}:SA G c PR (getMethod x (G.an n) pl) (bnd (bO (G.cm v n)) fun x=>aG (x,[])) ρ st s:=by
 subst hv
 refine SA.onOpt fun u h1=>?_
 obtain⟨_,hu,h3⟩:=H.cm v n u h1
 exact SA.ret0 N (⟨hu.nil,trivial⟩:PR ρ (u,[]) (rv u,[])) fun Q E q=>h3 _ _ _ _ _ N.rep.kin q
theorem SA.methO(H:GOK G)(N:Now G c ρ st s.heap){v:SV}{a:Addr}{n:Nat}{pl:Sem Bool}(hv:VR ρ v (.ref a)){o:SO}(ho:OR G ρ s.heap a o):SA G c PR (getMethod (.ref a) (G.an n) pl) (xP G v n o) ρ st s:=by
 cases o with
 |inst C d =>
  refine SA.onOpt fun d hd=>?_
  subst hd
  obtain⟨dr,e1,dx,hdx,e5⟩:=ho
  have X:=N.rep.kin
  refine SA.fun (fun hp f hf=>SA.shadow fun m hd hl=>SA.ret0 N (b:=(.ref f,[.ref a])) ⟨rfl,hv,trivial⟩ fun Q E q=>?_) fun hp hf=>SA.onGetD fun m v hd hl hb=>?_
  ·obtain⟨mr,es,ep,g1,g4,g5,g6⟩:=N.oat hdx hd
   have q1:=g6 n
   rw[hl]at q1
   have f1:=H.ca1 C n f hf
   have p:=plainGet_of (H.pc C hp).1
   have I:W.InstAt s.heap a _ C (some _):=⟨e1,rfl,rfl,by rw[e5];exact g1⟩
   exact method_fn X I p.1 p.2 f1.1 f1.2 (by show(lookIn _ _).map _=_;rw[fV g5 g1,q1];rfl) (q s.toks)
  ·obtain⟨mr,es,ep,g1,g4,g5,g6⟩:=N.oat hdx hd
   obtain⟨z,hy,hr⟩:=g6.at hl
   have p:=plainGet_of (H.pc C hp).1
   have I:W.InstAt s.heap a _ C (some _):=⟨e1,rfl,rfl,by rw[e5];exact g1⟩
   exact SA.ret0 N (⟨hr,trivial⟩:PR ρ (v,[]) (z,[])) fun Q E q=>method_usual X I p.1 p.2 (H.ca0 C n hf) rfl (get_value X I p.1 (findObj_own (H.pc C hp).2.1 (H.ca0 C n hf) (by rfl) (by rw[fV g5 g1,hy])) (hr.handed hb) (q _))
 |list xs=>obtain⟨vs,k,e1,_⟩:=ho;exact SA.slotO N hv e1 PySem.F.plainAttrs_list H.lm
 |clist xs=>obtain⟨vs,k,e1,_,_⟩:=ho;exact SA.slotO N hv e1 PySem.F.plainAttrs_list H.lm
 |sdict m=>obtain⟨mr,vs,k,e1,_,_⟩:=ho;exact SA.slotO N hv e1 PySem.F.plainAttrs_dict H.dm
 |tdict m=>obtain⟨xs,es,ep,e1,_,_,_⟩:=ho;exact SA.slotO N hv e1 PySem.F.plainAttrs_dict H.dm
 |_=>exact SA.fail
theorem SA.meth(H:GOK G)(N:Now G c ρ st s.heap){v:SV}{x:Value}(hv:VR ρ v x){n:Nat}{name:Str}{pl:Sem Bool}(hn:name=G.an n):SA G c PR (getMethod x name pl) (GQ G v n) ρ st s:=by
 subst hn
 cases v with
 |ref i =>
  obtain⟨a,ha,rfl⟩:=id hv
  exact SA.onObj fun o ho=>SA.methO H N hv (N.oat ha ho)
 |str y=>obtain⟨t,rfl⟩:=id hv;exact SA.slotS H N hv
 |opq y=>obtain⟨z,t,rfl,_⟩:=id hv;exact SA.slotS H N hv
 |txt y=>obtain⟨t,rfl,_⟩:=id hv;exact SA.slotS H N hv
 |pce y z=>obtain⟨t,rfl,_⟩:=id hv;exact SA.slotS H N hv
 |top a=>exact SA.cls (v:=.top a) H N hv
 |ty a=>exact SA.cls (v:=.ty a) H N hv
 |_=>exact SA.fail
end
end
section
open PySem.Calls
noncomputable def MZ(v:SV):M Unit:=onX v fun _ _ _ _ _=>aG ()
noncomputable def eN(v:SV):M Unit:=onX v fun i C d ctx _=>eX i (.exc C d ctx true)
theorem gM{v:SV}:Grows (eN v):=Grows.onX fun _ _ _ _ _=>aZ
inductive aCf(v:SV)(st:St)(r:Except SV Unit)(st':St):Prop
 |mk(i C:Nat)(d:Option Nat)(ctx:SV)(tb:Bool)(e1:v = .ref i)(e2:st.objs[i]?=some (.exc C d ctx tb))(e3:r = .ok ())(e4:st'=st)
inductive ZJ(v:SV)(st:St)(r:Except SV Unit)(st':St):Prop
 |mk(i C:Nat)(d:Option Nat)(ctx:SV)(tb:Bool)(e1:v = .ref i)(e2:st.objs[i]?=some (.exc C d ctx tb))(e3:r = .ok ())(e4:st'={ st with objs:=st.objs.set i (.exc C d ctx true) })
theorem iJ{v:SV}{st st':St}{r:Except SV Unit}(h:eN v st=some (r,st')):ZJ v st r st':=by
 obtain⟨i,C,d,x,t,e,ho,h⟩:=rJ h
 cases h;exact⟨i,C,d,x,t,e,ho,rfl,rfl⟩
section
variable{G:Gl}{c:Ac}{ρ:Tr}{st:St}{s:Shared}{h h':Heap}
theorem Now.eqv(N:Now G c ρ st h)(H:GOK G)(e:∀b o,h.get? b=some o→bW h' b o):Now G c ρ st h':=by
 refine⟨N.frames,N.depth,N.units,N.hd,N.rep.outer H (X:=fun _=>False) (fun b o q _=>e b o q) (fun _ z=>z.elim),?_,N.frs.keep fun b o q=>let⟨o',x,y⟩:=e b o q;⟨o',x,y.kept⟩,N.lo⟩
 have:=N.fr.keep Tr.Le.refl (h':=h') fun o q=>by
  obtain⟨o',x,y⟩:=e _ o q
  refine⟨o',x,y.cls,y.data (fun z=>?_)⟩
  obtain⟨oL,_,eL,cL,_⟩:=N.fr
  rw[q]at eL;cases eL;exact cL z.1
 simpa using this
theorem aF.eqv{L:Addr}{tk:Nat}(e:∀b o,s.heap.get? b=some o→bW h' b o):aF L ρ s ρ { s with heap:=h',toks:=tk } :=
 ⟨⟨[],by simp,by simp⟩,fun _ h=>h,fun _ h=>.inl h,fun b o q _=>e b o q,fun b o q=>let⟨o',x,y⟩:=e b o q;⟨o',x,y.kept⟩,rfl,rfl⟩
theorem jD{b:Addr}{o:Obj}{vs:Array Value}{k:Nat}{x:Value}(lo:822<b)(hb:h.get? b=some o)(hc:o.cls = .type "traceback")(hd:o.data = .fields vs) :
  ∀a o1,h.get? a=some o1→bW (h.update b (Obj.mapFields (·.setIfInBounds k x))) a o1:=by
 intro a o1 ha
 by_cases z:a=b
 ·subst z
  rw[hb]at ha;cases ha
  have e2:=Obj.data_mapFields hd (·.setIfInBounds k x)
  refine⟨_,Heap.get?_update_self (Obj.mapFields (·.setIfInBounds k x)) hb (Obj.isFreed_of_fields e2),Obj.cls_mapFields _ _,?_,fun n=>absurd ⟨hc,vs,hd⟩ n,fun _=>?_,fun vs' h'=>?_,fun q=>?_⟩
  ·obtain⟨c0,d0,dt,sl⟩:=o;simp only at hd;subst hd;rfl
  ·obtain⟨c0,d0,dt,sl⟩:=o;simp only at hd;subst hd;rfl
  ·rw[hd]at h';cases h';exact⟨_,e2,by simp⟩
  ·exact absurd q (Nat.not_le_of_lt lo)
 ·exact⟨o1,(Heap.get?_update_other h _ (Ne.symm z)).trans ha,Eqv.refl o1⟩
theorem kH{o:Obj}:∀a o1,h.get? a=some o1→bW (h.push o) a o1:=fun a o1 ha=>⟨o1,Heap.get?_push_of_some o ha,Eqv.refl o1⟩
theorem DR{S:List Addr}(x:Heap.SlotsOnly S h h')(hS:∀b∈S,∃o,h.get? b=some o∧o.cls = .type "frame"∧822<b):∀a o1,h.get? a=some o1→bW h' a o1:=by
 intro a o1 ha
 by_cases z:a∈S
 ·obtain⟨o,ho,hc,lo⟩:=hS a z
  rw[ha]at ho;cases ho
  obtain⟨sl,e⟩:=x.2.2 a o1 ha
  exact⟨_,e,rfl,rfl,fun _=>rfl,fun n=>absurd hc n,fun vs h=>⟨vs,h,rfl⟩,fun q=>absurd q (Nat.not_le_of_lt lo)⟩
 ·exact⟨o1,(x.2.1 a z).trans ha,Eqv.refl o1⟩
theorem SA.setFlight(H:GOK G)(N:Now G c ρ st s.heap){v:SV}{x:Value}(hv:VR ρ v x){fr:Option Addr}:SA G c (fun _ _ _=>True) (PySem.setFlight x fr) (MZ v) ρ st s :=
 SA.onX (T:=fun x=>PySem.setFlight x fr) hv fun i a C d ctx tb ha ho r st' hm hq Q E post=>by
  cases hm
  obtain⟨o,vs,cx,t,e1,e2,e3,e4,e5,e6,e7,e8,e9,e10⟩:=N.oat ha ho
  unfold PySem.setFlight
  refine wpAny_bind (wpAny_field e1 e3 e8 ?_)
  rcases e9 with rfl|⟨b,ob,tv,rfl,g1,g2,g3,g4,g5⟩
  ·exact wpAny_pure (post ρ s aF.refl N () trivial)
  ·exact wpAny_setField g1 g3 (Nat.lt_of_lt_of_le (by decide) g4) (post ρ _ (aF.eqv (tk:=s.toks) (jD g5 g1 g2 g3)) (N.eqv H (jD g5 g1 g2 g3)) () trivial)
theorem FrsOK.fun{l:List Env}(x:FrsOK h l):h.FunFrames {} l:=by
 induction l with
 |nil=>trivial
 |cons e r ih =>
  obtain⟨a,L,o,es,ep,b,c,d,dd⟩:=x e (.head _)
  exact⟨by rw[a];decide,⟨L,o,b,rfl,c,fun vs q=>by rw[dd.1]at q;cases q⟩,ih fun e' he'=>x e' (.tail _ he')⟩
theorem FrsOK.addrs{l:List Env}(x:FrsOK h l):∀b∈l.filterMap (·.frame),∃o,h.get? b=some o∧o.cls = .type "frame"∧822<b:=fun b hb=>by
 obtain⟨e,he,q⟩:=List.mem_filterMap.mp hb
 obtain⟨a,L,o,es,ep,b',c,d,dd⟩:=x e he
 rw[b']at q;cases q
 exact⟨o,c,d,dd.2⟩
theorem nC(H:GOK G)(EO:bG c)(N:Now G c ρ st s.heap){i:Nat}{a:Addr}{C:Nat}{d:Option Nat}{ctx:SV}{tb:Bool}(ha:ρ.a[i]?=some a)(ho:st.objs[i]?=some (.exc C d ctx tb)){Q:Unit→Shared→Prop}{E:Value→Shared→Prop}
  (post:∀s',aF c.env.locals ρ s ρ s'→Now G c ρ { st with objs:=st.objs.set i (.exc C d ctx true) } s'.heap→Q () s'){h1:Heap}{hn:Bool}{head:Value}(q1:∀b o,s.heap.get? b=some o→bW h1 b o) :
  WP G c (do let f ←frameOf c.env;let pl ←entryPlaceOf c.env.locals hn;let b ←EntryCells.newEntry head f .none (rawInt c.env.locals) .none pl;setField (.ref a) 1 b) Q E { s with heap:=h1 }:=by
 obtain⟨out,hfl⟩:=EO.fl
 have N1:=N.eqv H q1
 have S1:aF c.env.locals ρ s ρ { s with heap:=h1,toks:=s.toks }:=aF.eqv q1
 refine wpAny_bind (wpAny_frameOf_fun (N1.frames.trans (by rw[hfl])) (hfl▸N1.frs).fun EO.frame fun h2 hs2=>?_)
 have q2:=DR hs2 (hfl▸N1.frs).addrs
 have N2:=N1.eqv H q2
 have S2:=S1.trans (aF.eqv (s:={ s with heap:=h1 }) (tk:=s.toks) q2)
 refine wpAny_bind (wpAny_entryPlaceOf fun pl hpl=>?_)
 unfold EntryCells.newEntry newFields
 refine wpAny_bind (wpAny_newObj_type ?_ (hpl.sizeOk5 _ _ _ _ _))
 generalize hT:([head,Value.ref c.env.locals,Value.none,rawInt c.env.locals,Value.none]++(if pl.isEmpty then List.replicate 6 Value.none else pl))=T
 have hTl:5≤T.length:=by rw[←hT,List.length_append];exact Nat.le_add_right _ _
 have q3:=kH (h:=h2) (o:={ cls:=.type "traceback",dict:=none,data:=.fields T.toArray })
 have N3:=N2.eqv H q3
 have S3:=S2.trans (aF.eqv (s:={ s with heap:=h2 }) (tk:=s.toks) q3)
 obtain⟨o,vs,cx,t,e1,e2,e3,e4,e5,e6,e7,e8,e9,e10⟩:=N3.rep.ob _ _ _ ho ha
 refine wpAny_setField e1 e3 (Nat.lt_of_lt_of_le (by decide) e4) ?_
 obtain⟨o',f1,f2,f3,f4,f5⟩:=iX e1 e3 (·.setIfInBounds 1 (Value.ref h2.objs.size))
 have hlt:a<h2.objs.size:=by
  obtain⟨o2,_,_,_,f1,_⟩:=N2.rep.ob _ _ _ ho ha
  exact Heap.lt_size f1
 have hbT:=(f5 h2.objs.size (Nat.ne_of_gt hlt)).trans (Heap.get?_push_size _ rfl)
 have X:=N3.excPut H (tb':=true) ha ho e1 e2 e3 f1 (f2.trans e2) f5 fun TB=>⟨o',_,cx,Value.ref h2.objs.size,f1,f2.trans e2,f4,by rw[Array.size_setIfInBounds];exact e4,by rw[f3];exact e5,by rw[Array.getElem?_setIfInBounds_ne (by decide)];exact e6,e7,
  Array.getElem?_setIfInBounds_self_of_lt (Nat.lt_of_lt_of_le (by decide) e4),.inr ⟨h2.objs.size,_,T.toArray,rfl,hbT,rfl,rfl,hTl,H.big _ N2.rep.kin⟩,fun _ q=>nomatch q⟩
 exact post _ (S3.trans (X.2 (tk:=s.toks) rfl)) X.1
theorem SA.noteFrame(H:GOK G)(EO:bG c)(N:Now G c ρ st s.heap){v:SV}{x:Value}(hv:VR ρ v x):SA G c (fun _ _ _=>True) (PySem.noteFrame x c.env) (eN v) ρ st s :=
 SA.onX (T:=fun x=>PySem.noteFrame x c.env) hv fun i a C d ctx tb ha ho=>SA.put fun Q E post=>by
  obtain⟨o,vs,cx,t,e1,e2,e3,e4,e5,e6,e7,e8,e9,e10⟩:=N.oat ha ho
  unfold PySem.noteFrame
  simp only[EO.frame]
  refine wpAny_bind (wpAny_field e1 e3 e8 ?_)
  rcases e9 with rfl|⟨b,ob,tv,rfl,g1,g2,g3,g4,g5⟩
  ·exact nC H EO N ha ho post fun b o q=>⟨o,q,Eqv.refl o⟩
  ·have h3:tv[3]?=some tv[3]:=Array.getElem?_eq_getElem (Nat.lt_of_lt_of_le (by decide) g4)
   refine wpAny_bind (wpAny_field g1 g3 h3 ?_)
   by_cases z:(tv[3]==rawInt c.env.locals)=true
   ·rw[if_pos z]
    exact wpAny_pure (post s aF.refl (N.excPut H ha ho e1 e2 e3 e1 e2 (fun _ _=>rfl) fun TB=>⟨o,vs,cx,Value.ref b,e1,e2,e3,e4,e5,e6,e7,e8,.inr ⟨b,ob,tv,rfl,g1,g2,g3,g4,g5⟩,fun _ q=>nomatch q⟩).1)
   ·rw[if_neg z]
    exact wpAny_bind (wpAny_setField g1 g3 (Nat.lt_of_lt_of_le (by decide) g4) (nC H EO N ha ho post (jD g5 g1 g2 g3)))
end
end
section
open PySem.Calls
noncomputable def small(a:Int):Bool:=decide (-(2 ^ 64)<a)&&decide (a<2 ^ 64)
noncomputable def mPr(v:Int):M SV:=told (fun p=>oT (.eq v p) (.int p)) (aG (.int v))
theorem jX{v:Int}:Grows (mPr v):=Grows.told (fun _=>bU) Grows.ret
noncomputable def XU(x y:SV):M SV:=match x with
 |.int a=>onI y fun b=>aG (.int (a+b))
 |.str a=>onS y fun b=>mIf (Nat.ble (a.length+b.length) 100000) (aG (.str (a++b)))
 |.opq n=>onS y fun b=>mIf (Nat.ble (n+b.length) 100000) (aG (.opq (n+b.length)))
 |_=>aH
noncomputable def aAs(n:Int)(o:SO):M SV:=match o with
 |.list xs=>mIf (decide (n=0)&&Nat.ble xs.length 1000) (bJ (.list []))
 |_=>aH
noncomputable def XH(x y:SV):M SV:=match x with
 |.int a=>onI y fun b=>mIf (small a) (aG (.int (a*b)))
 |.ref i=>onI y fun n=>bnd (bP i) (aAs n)
 |_=>aH
noncomputable def SK(op:Operator)(x y:SV):M SV:=match op with
 |.Add=>XU x y
 |.Sub=>onI x fun a=>onI y fun b=>aG (.int (a - b))
 |.Mult=>XH x y
 |.Mod=>onI x fun a=>onI y fun b=>mIf (decide (b≠0)) (mPr (a.fmod b))
 |.FloorDiv=>onI x fun a=>onI y fun b=>mIf (decide (b≠0)&&decide (b.natAbs<1073741824)) (mPr (a.fdiv b))
 |_=>aH
theorem kW{op:Operator}{x y:SV}:Grows (SK op x y):=by
 cases op with
 |Add =>
  cases x with
  |int a=>exact Grows.onI fun _=>Grows.ret
  |str a=>exact Grows.onS fun _=>aD Grows.ret
  |opq a=>exact Grows.onS fun _=>aD Grows.ret
  |_=>exact aB
 |Sub=>exact Grows.onI fun _=>Grows.onI fun _=>Grows.ret
 |Mult =>
  cases x with
  |int a=>exact Grows.onI fun _=>aD Grows.ret
  |ref a =>
   refine Grows.onI fun _=>Grows.bnd aS fun o=>?_
   cases o with
   |list xs=>exact aD aJ
   |_=>exact aB
  |_=>exact aB
 |Mod=>exact Grows.onI fun _=>Grows.onI fun _=>aD jX
 |FloorDiv=>exact Grows.onI fun _=>Grows.onI fun _=>aD jX
 |_=>exact aB
section
variable{G:Gl}{c:Ac}{ρ:Tr}{st:St}{s:Shared}
theorem Now.lists(N:Now G c ρ st s.heap){i:Nat}{xs:List SV}(h:st.objs[i]?=some (.list xs)){a:Addr}(ha:ρ.a[i]?=some a):ORl ρ s.heap a "list" xs:=N.oat ha h
theorem BQ{a b:Int}(h:small a=true):IntMulOk a b:=by
 obtain⟨h1,h2⟩:=Bool.and_eq_true_iff.mp h
 have q:=intBits_le_64 (of_decide_eq_true h1) (of_decide_eq_true h2)
 intro z
 have:=(Bool.and_eq_true_iff.mp (Bool.and_eq_true_iff.mp z).1).1
 have:=of_decide_eq_true this
 exact Nat.not_lt.mpr q this
theorem SA.retI(N:Now G c ρ st s.heap){t:Sem Value}{i:Int}{tk:Nat}(h:∀(Q:Value→Shared→Prop) E,Q (.int i s.toks) { s with toks:=tk }→WP G c t Q E s):SA G c VR t (aG (.int i)) ρ st s :=
 SA.ret0 N (R:=VR) (a:=.int i) ⟨s.toks,rfl⟩ fun Q E q=>h Q E (q tk)
theorem SA.prI(H:GOK G)(N:Now G c ρ st s.heap){t:Sem Value}{i:Int}{tk:Nat}(h:∀(Q:Value→Shared→Prop) E,Q (.int i s.toks) { s with toks:=tk }→WP G c t Q E s):SA G c VR t (mPr i) ρ st s :=
 SA.told N (fun p st N=>SA.push N fun v Q E q=>h Q E (q _ tk ⟨s.toks,by rw[H.veq _ _ v]⟩)) (SA.retI N h)
theorem SA.add(N:Now G c ρ st s.heap){x y:SV}{a b:Value}(hx:VR ρ x a)(hy:VR ρ y b):SA G c VR (binaryOp .Add a b) (XU x y) ρ st s:=by
 cases x with
 |int i=>obtain⟨t,rfl⟩:=hx;exact SA.onI hy fun j u=>SA.retI N fun Q E q=>PySem.P.add_int q
 |str z =>
  obtain⟨t,rfl⟩:=hx
  refine SA.onS hy fun j u=>SA.if fun g r st' hm hq Q E post=>?_
  cases hm
  exact SBL.add (fun t' k _=>post ρ { s with toks:=k } aF.toks N _ ⟨t',rfl⟩) (Nat.le_trans (Nat.le_of_ble_eq_true g) (by decide))
 |opq n =>
  obtain⟨z,t,rfl,z1,z2⟩:=hx
  refine SA.onS hy fun j u=>SA.if fun g r st' hm hq Q E post=>?_
  cases hm
  have g:=Nat.le_of_ble_eq_true g
  exact SBL.add (fun t' k e=>post ρ { s with toks:=k } aF.toks N _ ⟨_,t',rfl,fun z=>z1 (Nat.eq_zero_of_add_eq_zero_right (Nat.le_zero.mp (z▸e.1))),Nat.le_trans e.2 (Nat.add_le_add_right z2 _)⟩) (Nat.le_trans (Nat.add_le_add_right z2 _) (Nat.le_trans g (by decide)))
 |_=>exact SA.fail
theorem SA.mul(H:GOK G)(N:Now G c ρ st s.heap){x y:SV}{a b:Value}(hx:VR ρ x a)(hy:VR ρ y b):SA G c VR (binaryOp .Mult a b) (XH x y) ρ st s:=by
 cases x with
 |int i=>obtain⟨t,rfl⟩:=hx;exact SA.onI hy fun j u=>SA.if fun g=>SA.retI N fun Q E q=>PySem.P.mul_int q (BQ g)
 |ref i =>
  obtain⟨p,hp,rfl⟩:=hx
  refine SA.onI hy fun n u=>SA.onObj fun o ho=>?_
  cases o with
  |list xs =>
   refine SA.if fun g=>?_
   obtain⟨g1,g2⟩:=aN g
   have g1:n=0:=of_decide_eq_true g1
   subst g1
   obtain⟨vs,k,e1,e2⟩:=N.lists ho hp
   have e0:(List.foldl (fun x1 x2=>x1++x2) #[] (List.replicate (if vs.isEmpty=true then 0 else(0:Int).toNat) vs):Array Value) = #[]:=by
    have:(if vs.isEmpty=true then 0 else(0:Int).toNat)=0:=by split<;>rfl
    rw[this];rfl
   refine SA.alloc H N (o:={ cls:=.type "list",data:=.seq #[] }) (tk:=s.toks) rfl (aP rfl) (aP rfl) (so:=.list []) ⟨_,_,Heap.get?_push_size _ rfl,trivial⟩ (fun Q E q=>?_)
   exact wpAny_binaryOp_repeat_ref (T:="list") (U:="int") (by decide) ⟨_,e1,rfl⟩ (fun s'=>typeIs_int s' 0 u) noFill_list_mul F.fills_int_mul F.slot_int_rmul repeat_list F.slot_int_index.lookup
    (call_meets F.slot_int_rmul (typeIs_int s 0 u) F.entry_int_rmul (F.args_int_rmul_2 _ _) (int___rmul___int_list 0 u p vs k)
     ⟨e1,rfl,⟨_,e1,rfl⟩,call_meets F.slot_list_mul ⟨_,e1,rfl⟩ F.entry_list_mul (F.args_list_mul_2 _ _)
      (AutoListH.list___mul___list_int_3 p vs k 0 u (by simp[Builtin.List.listFitsIndex]) (by simp) (by simp[Builtin.List.listTooLong]))
      ⟨e1,by rw[e0];exact q⟩⟩)
  |_=>exact SA.fail
 |_=>exact SA.fail
theorem SA.bin(H:GOK G)(N:Now G c ρ st s.heap){op:Operator}{x y:SV}{a b:Value}(hx:VR ρ x a)(hy:VR ρ y b):SA G c VR (binaryOp op a b) (SK op x y) ρ st s:=by
 cases op with
 |Add=>exact SA.add N hx hy
 |Sub=>exact SA.onI (T:=fun a=>binaryOp .Sub a b) hx fun i t=>SA.onI hy fun j u=>SA.retI N fun Q E q=>PySem.P.sub_int q
 |Mult=>exact SA.mul H N hx hy
 |Mod=>exact SA.onI (T:=fun a=>binaryOp .Mod a b) hx fun i t=>SA.onI hy fun j u=>SA.if fun g=>SA.prI H N fun Q E q=>PyProof.Rows.mod_int' (of_decide_eq_true g) q
 |FloorDiv=>exact SA.onI (T:=fun a=>binaryOp .FloorDiv a b) hx fun i t=>SA.onI hy fun j u=>SA.if fun g=>SA.prI H N fun Q E q=>PyProof.Rows.floordiv_int (of_decide_eq_true (aN g).1) q (.inl (PyProof.noPylong_small (of_decide_eq_true (aN g).2)))
 |_=>exact SA.fail
end
end
section
open PySem.Calls
noncomputable def sD:SV→Bool
 |.ostr o=>o.isNone
 |.none=>true
 |_=>false
noncomputable def GB:SV→Option Bool
 |.none=>some true
 |.any=>none
 |.ostr o=>some o.isNone
 |_=>some false
theorem uC {x:SV}{b:Bool}(h:GB x=some b):x≠.any∧b=sD x:=by
 cases x with
 | any=>cases h
 | _=>exact ⟨nofun,(Option.some.inj h).symm⟩
noncomputable def sH:List SV→Option (List Int)
  | []=>some []
  | .int i::r=>(sH r).map (i::·)
  | _=>none
noncomputable def mP:List SV→Option (List Str)
 | []=>some []
 | .str i::r=>(mP r).map (i::·)
 | _=>none
noncomputable def MS(k:Int):List Int→Bool
 |[]=>false
 |x::r=>decide (x=k)||MS k r
noncomputable def RV(k:Str):List Str→Bool
 |[]=>false
 |x::r=>decide (x=k)||RV k r
theorem oN(k:Int):∀l:List Int,(l.any fun x=>x==k)=MS k l
 |[]=>rfl
 |x::r=>by
  rw[List.any_cons,oN k r]
  have:(x==k)=decide (x=k):=by by_cases h:x=k<;>simp[h]
  rw[this];rfl
theorem wG(k:Str):∀l:List Str,(l.any fun x=>x==k)=RV k l
 |[]=>rfl
 |x::r=>by
  rw[List.any_cons,wG k r]
  have:(x==k)=decide (x=k):=by by_cases h:x=k<;>simp[h]
  rw[this];rfl
theorem gK{ρ:Tr}{xs:List SV}:∀{ns:List Int}{vs:List Value},sH xs=some ns→aK (VR ρ) xs vs→IntsAre vs ns:=by
 induction xs with
 |nil=>intro ns vs h a;cases vs with
  |nil=>cases h;exact .nil
  |cons _ _=>exact a.elim
 |cons x r ih=>intro ns vs h a;cases vs with
  |nil=>exact a.elim
  |cons v vs=>cases x with
   |int i =>
    obtain⟨m,hm,rfl⟩:=Option.map_eq_some_iff.mp h
    obtain⟨⟨t,rfl⟩,a2⟩:=a
    exact .cons i t (ih hm a2)
   |_=>exact nos h
theorem gE{ρ:Tr}{xs:List SV}:∀{ns:List Str}{vs:List Value},mP xs=some ns→aK (VR ρ) xs vs→StrsAre vs ns:=by
 induction xs with
 |nil=>intro ns vs h a;cases vs with
  |nil=>cases h;exact .nil
  |cons _ _=>exact a.elim
 |cons x r ih=>intro ns vs h a;cases vs with
  |nil=>exact a.elim
  |cons v vs=>cases x with
   |str i =>
    obtain⟨m,hm,rfl⟩:=Option.map_eq_some_iff.mp h
    obtain⟨⟨t,rfl⟩,a2⟩:=a
    exact .cons i t (ih hm a2)
   |_=>exact nos h
noncomputable def XJ(kk xs:List SV):M Bool:=told (fun p=>oT (.mem kk xs (decide (p≠0))) (decide (p≠0))) aH
theorem CY{kk xs:List SV}:Grows (XJ kk xs):=Grows.told (fun _=>bU) aB
noncomputable def PH(xs:List SV):SO→M Bool
 |.tuple kk=>XJ kk xs
 |_=>aH
theorem yB{xs:List SV}:∀{k:SO},Grows (PH xs k):=by
 intro k;cases k<;>first|exact CY|exact aB
noncomputable def XR(b:Str):Option Str→M SV
 |some a=>aG (.bool (a.cps.toList==b.cps.toList))
 |none=>aH
theorem DG{b:Str}:∀{o:Option Str},Grows (XR b o):=by
 intro o;cases o<;>first|exact Grows.ret|exact aB
noncomputable def XO(xs ys:List SV):M SV:=oT (.eqs xs ys) (.bool false)
theorem DF{xs ys:List SV}:Grows (XO xs ys):=bU
noncomputable def LO(o o':SO):Option (List SV×List SV):=match o with
 |.tuple xs=>match o' with
  |.tuple ys=>some (xs,ys)
  |_=>none
 |.clist xs=>match o' with
  |.clist ys=>some (xs,ys)
  |.list ys=>some (xs,ys)
  |_=>none
 |.list xs=>match o' with
  |.list ys=>some (xs,ys)
  |_=>none
 |_=>none
noncomputable def XF:Option (List SV×List SV)→M SV
 |some p=>XO p.1 p.2
 |none=>aH
noncomputable def SC(x y:SV):M SV:=bnd (cD x) fun o=>bnd (cD y) fun o'=>XF (LO o o')
theorem CX{x y:SV}:Grows (SC x y):=Grows.bnd aV fun o=>Grows.bnd aV fun o'=>by
 cases LO o o' with
 |some p=>exact DF
 |none=>exact aB
noncomputable def aAu(i:Str)(o:SO):M Bool:=match o with
 |.list xs=>bnd (bO (mP xs)) fun ns=>aG (RV i ns)
 |.sdict m=>aG (lkS m i).isSome
 |_=>aH
noncomputable def aAv(i:Int)(o:SO):M Bool:=match o with
 |.list xs=>bnd (bO (sH xs)) fun ns=>aG (MS i ns)
 |.tuple xs=>bnd (bO (sH xs)) fun ns=>aG (MS i ns)
 |_=>aH
noncomputable def aAt(k:SO)(o:SO):M Bool:=match o with
 |.clist xs=>PH xs k
 |_=>aH
noncomputable def mIn(x:SV)(o:SO):M Bool:=match x with
 |.int i=>aAv i o
 |.str i=>aAu i o
 |.fz k=>aAt k o
 |_=>aH
noncomputable def mLt(a b:Int):M SV:=told (fun p=>oT (.lt a b (decide (p≠0))) (.bool (decide (p≠0)))) (aG (.bool (decide (a<b))))
theorem vF{a b:Int}:Grows (mLt a b):=Grows.told (fun _=>bU) Grows.ret
noncomputable def XQ(x y:SV):M SV:=match x with
 |.int a=>onI y fun b=>aG (.bool (a==b))
 |.str a=>onS y fun b=>aG (.bool (a.cps.toList==b.cps.toList))
 |.ostr o=>onS y fun b=>XR b o
 |.opq _=>onS y fun b=>mIf (Nat.beq b.length 0) (aG (.bool false))
 |_=>aH
noncomputable def XG(x y:SV):M SV:=match x with
 |.int a=>onI y fun b=>aG (.bool (a != b))
 |.str a=>onS y fun b=>aG (.bool (a.cps.toList != b.cps.toList))
 |.ref i=>SC (.ref i) y
 |_=>aH
noncomputable def CP(op:CmpOp)(x y:SV):M SV:=match op with
 |.Eq=>XQ x y
 |.NotEq=>XG x y
 |.Lt=>onI x fun a=>onI y fun b=>mLt a b
 |.LtE=>onI x fun a=>onI y fun b=>aG (.bool (decide (a≤b)))
 |.Gt=>onI x fun a=>onI y fun b=>mLt b a
 |.GtE=>onI x fun a=>onI y fun b=>aG (.bool (decide (a ≥ b)))
 |.Is=>onN y (bnd (bO (GB x)) fun b=>aG (.bool b))
 |.IsNot=>onN y (bnd (bO (GB x)) fun b=>aG (.bool (!b)))
 |.In=>bnd (cD y) fun o=>bnd (mIn x o) fun b=>aG (.bool b)
 |.NotIn=>bnd (cD y) fun o=>bnd (mIn x o) fun b=>aG (.bool (!b))
theorem vI{x:SV}{o:SO}:Grows (mIn x o):=by
 cases x with
 |int i=>cases o<;>first | exact Grows.bnd aL fun _=>Grows.ret | exact aB
 |str i=>cases o<;>first | exact Grows.bnd aL fun _=>Grows.ret | exact Grows.ret | exact aB
 |fz k=>cases o<;>first | exact yB | exact aB
 |_=>exact aB
theorem dY{op:CmpOp}{x y:SV}:Grows (CP op x y):=by
 cases op with
 |Eq=>cases x<;>first | exact Grows.onI fun _=>Grows.ret | exact Grows.onS fun _=>Grows.ret | exact Grows.onS fun _=>DG | exact Grows.onS fun _=>aD Grows.ret | exact aB
 |NotEq=>cases x<;>first | exact Grows.onI fun _=>Grows.ret | exact Grows.onS fun _=>Grows.ret | exact CX | exact aB
 |Lt=>exact Grows.onI fun _=>Grows.onI fun _=>vF
 |LtE=>exact Grows.onI fun _=>Grows.onI fun _=>Grows.ret
 |Gt=>exact Grows.onI fun _=>Grows.onI fun _=>vF
 |GtE=>exact Grows.onI fun _=>Grows.onI fun _=>Grows.ret
 |Is=>exact Grows.onN (Grows.bnd aL fun _=>Grows.ret)
 |IsNot=>exact Grows.onN (Grows.bnd aL fun _=>Grows.ret)
 |In=>exact Grows.bnd aV fun _=>Grows.bnd vI fun _=>Grows.ret
 |NotIn=>exact Grows.bnd aV fun _=>Grows.bnd vI fun _=>Grows.ret
section
variable{prog:Program}{w:World}{A:Around}{E:Value→Shared→Prop}{s:Shared}{d:Addr}{m:Str→Option Value}{k:Str}{tk:Tok}{es:Array DictEntry}{ep:Nat}
end
section
variable{G:Gl}{c:Ac}{ρ:Tr}{st:St}{s:Shared}
theorem VR.isNone{x:SV}{a:Value}(hn:x≠.any)(h:VR ρ x a):(a==Value.none)=sD x:=by
 cases x with
 |int i=>obtain⟨t,rfl⟩:=h;rfl
 |str i=>obtain⟨t,rfl⟩:=h;rfl
 |ref i=>obtain⟨t,_,rfl⟩:=h;rfl
 |opq n=>obtain⟨x,t,rfl,_⟩:=h;rfl
 |fz o=>obtain⟨t,_,rfl⟩:=h;rfl
 |txt l=>obtain⟨t,rfl,_⟩:=h;rfl
 |pce a b=>obtain⟨t,rfl,_⟩:=h;rfl
 |ostr o =>
  cases o with
  |none=>cases h;rfl
  |some s=>obtain⟨t,rfl⟩:=h;rfl
 |sm n =>
  cases n with
  |zero=>obtain⟨t,rfl⟩:=h;rfl
  |succ n=>obtain⟨x,t,rfl,_⟩:=h;rfl
 |any=>exact absurd rfl (hn)
 |_=>cases h;rfl
theorem zF{ρ:Tr}:∀{m:List (Str×SV)}{kvs:List (Str×Value)},aK (fun e kv=>e.1=kv.1∧VR ρ e.2 kv.2) m kvs→∀k:Str,match lkS m k with|some v=>∃x,valueAt kvs k=some x∧VR ρ v x|none=>valueAt kvs k=none
 |[],[],_,k=>rfl
 |(j,v)::m,(j',y)::kvs,⟨⟨e,h1⟩,h2⟩,k=>by
  have e:j=j':=e
  subst e
  by_cases z:j=k
  ·subst z
   have e1:lkS ((j,v)::m) j=some v:=by show(bif decide (j=j)then some v else lkS m j)=_;rw[decide_eq_true rfl];rfl
   have e2:valueAt ((j,y)::kvs) j=some y:=by simp[valueAt]
   rw[e1,e2];exact⟨y,rfl,h1⟩
  ·have e1:lkS ((j,v)::m) k=lkS m k:=by show(bif decide (j=k)then some v else lkS m k)=_;rw[decide_eq_false z];rfl
   have e2:valueAt ((j,y)::kvs) k=valueAt kvs k:=by simp[valueAt,z]
   rw[e1,e2];exact zF h2 k
 |[],_::_,h,_=>h.elim
 |_::_,[],h,_=>h.elim
theorem tO{ρ:Tr}{h:Heap}{x:SV}{d:PyData}{v:Value}(hd:dAt x=some d)(hv:VR ρ x v):Reads h v d []:=by
 cases x with
 |bool b=>cases hd;cases hv;exact .bool b
 |int i=>cases hd;obtain⟨t,rfl⟩:=hv;exact .int i t
 |str z=>cases hd;obtain⟨t,rfl⟩:=hv;exact .str z t
 |ostr o=>cases o with
  |none=>cases hd
  |some z=>cases hd;obtain⟨t,rfl⟩:=hv;exact .str z t
 |txt l=>cases hd;obtain⟨t,rfl,_⟩:=hv;exact .str _ t
 |_=>cases hd
set_option tactic.hygienic true in
theorem pL{ρ:Tr}{h:Heap}:∀{xs:List SV}{ds:List PyData}{vs:List Value},dsA xs=some ds→aK (VR ρ) xs vs→∃as,ReadsAll h vs ds as
 |[],_,[],hd,_=>by cases hd;exact⟨_,.nil⟩
 |x::r,_,v::vs,hd,a=>by
  obtain⟨d,l,h1,h2,rfl⟩:=zU (show mV (dAt x) (dsA r)=_ from hd)
  obtain⟨as,ra⟩:=pL h2 a.2
  exact⟨_,.cons (tO h1 a.1) ra⟩
 |[],_,_::_,_,a=>a.elim
 |_::_,_,[],_,a=>a.elim
theorem pK{ρ:Tr}{h:Heap}{p:Addr}{xs:List SV}{ds:List PyData}(q:OR G ρ h p (.tuple xs))(hd:dsA xs=some ds):∃as,Reads h (.ref p) (.tuple ds) as:=by
 obtain⟨vs,n,e1,e2⟩:=q
 obtain⟨as,ra⟩:=pL (h:=h) hd e2
 exact⟨as,.tuple e1 rfl rfl ra⟩
theorem FB{ρ:Tr}{objs:List SO}{h:Heap}(R:Rep G ρ objs h){x:SV}{d:PyData}{v:Value}(hd:dOf x=some d)(hv:VR ρ x v):∃as,Reads h v d as:=by
 by_cases z:∃o,x = .fz o
 ·obtain⟨o,rfl⟩:=z
  cases o with
  |tuple xs =>
   obtain⟨ds,h1,rfl⟩:=Option.map_eq_some_iff.mp (show(dsA xs).map PyData.tuple=some d from hd)
   obtain⟨b,hb,rfl⟩:=hv
   exact pK (R.fz b _ hb).1 h1
  |_=>cases hd
 ·have e:dOf x=dAt x:=by cases x<;>first|rfl|exact absurd ⟨_,rfl⟩ z
  rw[e]at hd
  exact⟨_,tO hd hv⟩
set_option tactic.hygienic true in
theorem kQ{ρ:Tr}{objs:List SO}{h:Heap}(R:Rep G ρ objs h):∀{xs:List SV}{ds:List PyData}{vs:List Value},dsOf xs=some ds→aK (VR ρ) xs vs→∃as,ReadsAll h vs ds as
 |[],_,[],hd,_=>by cases hd;exact⟨_,.nil⟩
 |x::r,_,v::vs,hd,a=>by
  obtain⟨d,l,h1,h2,rfl⟩:=zU (show mV (dOf x) (dsOf r)=_ from hd)
  obtain⟨as,ra⟩:=kQ R h2 a.2
  obtain⟨bs,rb⟩:=FB R h1 a.1
  exact⟨_,.cons rb ra⟩
 |[],_,_::_,_,a=>a.elim
 |_::_,_,[],_,a=>a.elim
theorem jK{ρ:Tr}{objs:List SO}{h:Heap}{p:Addr}{xs:List SV}{ds:List PyData}(R:Rep G ρ objs h)(q:OR G ρ h p (.list xs))(hd:dsOf xs=some ds):∃as,Reads h (.ref p) (.list ds) as:=by
 obtain⟨vs,n,e1,e2⟩:=q
 obtain⟨as,ra⟩:=kQ R hd e2
 exact⟨_,.list e1 rfl rfl ra⟩
theorem jL{ρ:Tr}{objs:List SO}{h:Heap}{p:Addr}{xs:List SV}{ds:List PyData}(R:Rep G ρ objs h)(q:OR G ρ h p (.clist xs))(hd:dsOf xs=some ds):∃as,Reads h (.ref p) (.list ds) as :=
 let⟨vs,n,e1,e2,_⟩:=q
 jK R ⟨vs,n,e1,e2⟩ hd
theorem tN{ρ:Tr}{objs:List SO}{h:Heap}{p:Addr}{xs:List SV}{ds:List PyData}(R:Rep G ρ objs h)(q:OR G ρ h p (.tuple xs))(hd:dsOf xs=some ds):∃as,Reads h (.ref p) (.tuple ds) as:=by
 obtain⟨vs,n,e1,e2⟩:=q
 obtain⟨as,ra⟩:=kQ R hd e2
 exact⟨_,.tuple e1 rfl rfl ra⟩
theorem wM(N:Now G c ρ st s.heap){o o':SO}{xy:List SV×List SV}(h:LO o o'=some xy){p p':Addr}(ho:OR G ρ s.heap p o)(ho':OR G ρ s.heap p' o'){ds:List PyData}(h1:dsOf xy.1=some ds)(h2:dsOf xy.2=some ds) :
  ∃(F:List PyData→PyData),(F=PyData.list∨F=PyData.tuple)∧(∃as,Reads s.heap (.ref p) (F ds) as)∧∃bs,Reads s.heap (.ref p') (F ds) bs:=by
 cases o with
 |tuple xs=>cases o' with
  |tuple ys=>cases h;exact⟨_,.inr rfl,tN N.rep ho h1,tN N.rep ho' h2⟩
  |_=>cases h
 |clist xs=>cases o' with
  |clist ys=>cases h;exact⟨_,.inl rfl,jL N.rep ho h1,jL N.rep ho' h2⟩
  |list ys=>cases h;exact⟨_,.inl rfl,jL N.rep ho h1,jK N.rep ho' h2⟩
  |_=>cases h
 |list xs=>cases o' with
  |list ys=>cases h;exact⟨_,.inl rfl,jK N.rep ho h1,jK N.rep ho' h2⟩
  |_=>cases h
 |_=>cases h
theorem RO (H : GOK G) (N : Now G c ρ st s.heap) {x y : SV} {a b : Value} (hx : VR ρ x a) (hy : VR ρ y b) : SA G c VR (compareOp .NotEq a b) (SC x y) ρ st s := by
  refine SA.onLook (T := fun a => compareOp .NotEq a b) N hx fun o p ho _ => SA.onLook (T := fun b => compareOp .NotEq (.ref p) b) N hy fun o' p' ho' _ => ?_
  cases hxy : LO o o' with
  | none => exact SA.fail
  | some xy =>
    refine SA.push N fun v Q E post => ?_
    obtain ⟨ds, h1, h2, h3, h4, h5⟩ := H.veqs _ _ v
    obtain ⟨F, hF, ⟨as, ra⟩, bs, rb⟩ := wM N hxy ho ho' h1 h2
    have e : (F ds).canLay0 = true ∧ (F ds).depth ≤ 12 ∧ PyData.eqv (F ds) (F ds) = true := by
      have h4 : PyData.depthAll ds + 1 ≤ 12 := Nat.le_trans (Nat.succ_le_succ h4) (by decide)
      rcases hF with rfl | rfl
      · exact ⟨h3, by simp only [PyData.depth]; exact h4, h5⟩
      · exact ⟨h3, by simp only [PyData.depth]; exact h4, h5⟩
    refine PySem.SeqAt.compareNe_reads ra rb e.1 e.1 ?_ ?_
    · rw [Nat.min_self]; exact N.room e.2.1
    · rw [e.2.2]; exact post _ _ rfl
theorem SA.inB (H : GOK G) (N : Now G c ρ st s.heap) {x : SV} {a : Value} (hx : VR ρ x a) {p : Addr} {o : SO} (q : OR G ρ s.heap p o) (hs : (p == sysModules) = false) {op : CmpOp} {f : Bool → Bool} (hop : op = .In ∧ f = id ∨ op = .NotIn ∧ f = not) :
    SA G c (fun _ b v => v = Value.bool (f b)) (compareOp op a (.ref p)) (mIn x o) ρ st s := by
  cases x with
  | int i =>
    obtain ⟨t, rfl⟩ := hx
    cases o with
    | list xs =>
      obtain ⟨vs, n, e1, e2⟩ := q
      refine SA.onOpt fun ns hn => SA.ret0 N rfl fun Q E q => ?_
      rw [← oN] at q
      rcases hop with ⟨rfl, rfl⟩ | ⟨rfl, rfl⟩
      · exact in_list_ints (vs := vs.toList) ⟨_, e1, rfl, n, rfl⟩ (gK hn e2) (q s.toks)
      · exact notin_list_ints (vs := vs.toList) ⟨_, e1, rfl, n, rfl⟩ (gK hn e2) (q s.toks)
    | tuple xs =>
      obtain ⟨vs, n, e1, e2⟩ := q
      refine SA.onOpt fun ns hn => SA.ret0 N rfl fun Q E q => ?_
      rw [← oN] at q
      rcases hop with ⟨rfl, rfl⟩ | ⟨rfl, rfl⟩
      · exact in_tuple_ints ⟨_, e1, rfl, n, rfl⟩ (gK hn e2) (q s.toks)
      · exact notin_tuple_ints ⟨_, e1, rfl, n, rfl⟩ (gK hn e2) (q s.toks)
    | _ => exact SA.fail
  | str k =>
    obtain ⟨t, rfl⟩ := hx
    cases o with
    | list xs =>
      obtain ⟨vs, n, e1, e2⟩ := q
      refine SA.onOpt fun ns hn => SA.ret0 N rfl fun Q E q => ?_
      rw [← wG] at q
      rcases hop with ⟨rfl, rfl⟩ | ⟨rfl, rfl⟩
      · exact in_list_strs (vs := vs.toList) ⟨_, e1, rfl, n, rfl⟩ (gE hn e2) (q s.toks)
      · exact notin_list_strs (vs := vs.toList) ⟨_, e1, rfl, n, rfl⟩ (gE hn e2) (q s.toks)
    | sdict m =>
      obtain ⟨kvs, es, ep, e1, e2, e3⟩ := q
      have hb : (valueAt kvs k).isSome = (lkS m k).isSome := by
        have := zF e3 k
        cases z : lkS m k with
        | none => rw [z] at this; rw [this]; rfl
        | some v => rw [z] at this; obtain ⟨y, z, _⟩ := this; rw [z]; rfl
      refine SA.ret0 N rfl fun Q E q => ?_
      rw [← hb] at q
      rcases hop with ⟨rfl, rfl⟩ | ⟨rfl, rfl⟩
      · exact wpAny_in_of (strKind_is _ _ k t) hs e2.mapOf (q _)
      · exact wpAny_notIn_of (strKind_is _ _ k t) hs e2.mapOf (q _)
    | _ => exact SA.fail
  | fz ko =>
    cases o with
    | clist xs => cases ko with
      | tuple kk =>
        obtain ⟨b, hb, rfl⟩ := hx
        refine SA.told N (fun z st N' => SA.push N' fun v Q E post => ?_) SA.fail
        obtain ⟨k, ds, h1, h2, h3, h4, h5, h6⟩ := H.vmem _ _ _ v
        obtain ⟨as, ra⟩ := pK (N.rep.fz b _ hb).1 h1
        obtain ⟨bs, rb⟩ := jL N.rep q h2
        have hu : c.A.units + 1 + min (PyData.depthAll ds) (PyData.depth (.tuple k)) < cLine := by
          rw [Nat.add_assoc]
          refine N.room (Nat.le_trans (Nat.add_le_add_left (Nat.le_trans (Nat.min_le_right _ _) ?_) 1) (by decide : 1 + 7 ≤ 12))
          simp only [PyData.depth]; exact Nat.succ_le_succ h5
        have post := post _ s.toks rfl
        rcases hop with ⟨rfl, rfl⟩ | ⟨rfl, rfl⟩
        · exact PySem.SeqAt.in_list_reads rb ra h4 (show PyData.canLayAll0 k = true from h3) hu (by rw [h6]; exact post)
        · exact PySem.SeqAt.notIn_list_reads rb ra h4 (show PyData.canLayAll0 k = true from h3) hu (by rw [h6]; exact post)
      | _ => exact SA.fail
    | _ => exact SA.fail
  | _ => exact SA.fail
theorem SA.lt(H:GOK G)(N:Now G c ρ st s.heap){t:Sem Value}{a b:Int}(h:∀(Q:Value→Shared→Prop) E,Q (.bool (decide (a<b))) s→WP G c t Q E s):SA G c VR t (mLt a b) ρ st s :=
 SA.told N (fun p st N=>SA.push N fun v Q E q=>h Q E (q _ s.toks (by rw[H.vlt _ _ _ v];rfl))) (SA.ret0 N rfl fun Q E q=>h Q E (q s.toks))
theorem SA.eqq(N:Now G c ρ st s.heap){x y:SV}{a b:Value}(hx:VR ρ x a)(hy:VR ρ y b):SA G c VR (compareOp .Eq a b) (XQ x y) ρ st s:=by
 cases x with
 |int i =>
  obtain⟨t,rfl⟩:=hx
  exact SA.onI hy fun j u=>SA.ret0 N rfl fun Q E q=>PySem.P.eq_int (q s.toks)
 |str i =>
  obtain⟨t,rfl⟩:=hx
  exact SA.onS hy fun j u=>SA.ret0 N rfl fun Q E q=>PySem.P.eq_str (q s.toks)
 |ostr o =>
  refine SA.onS (T:=fun b=>compareOp .Eq a b) hy fun j u=>?_
  cases o with
  |none=>exact SA.fail
  |some z=>obtain⟨t,rfl⟩:=hx;exact SA.ret0 N rfl fun Q E q=>PySem.P.eq_str (q s.toks)
 |opq n =>
  obtain⟨z,t,rfl,z1,z2⟩:=hx
  refine SA.onS hy fun bs u r st' hm hq Q E post=>?_
  obtain⟨g,hm⟩:=cY hm
  cases hm
  refine PySem.P.eq_str (post ρ s aF.refl N _ ?_)
  have:(z.cps.toList==bs.cps.toList)=false:=by
   cases q:z.cps.toList==bs.cps.toList with
   |false=>rfl
   |true =>
    have e:z.length=bs.length:=by rw[←show z.cps.toList.length=z.length from Array.length_toList,beq_iff_eq.mp q];exact Array.length_toList
    exact absurd (e.trans (dA g)) z1
  rw[this];rfl
 |_=>exact SA.fail
theorem SA.nee(H:GOK G)(N:Now G c ρ st s.heap){x y:SV}{a b:Value}(hx:VR ρ x a)(hy:VR ρ y b):SA G c VR (compareOp .NotEq a b) (XG x y) ρ st s:=by
 cases x with
 |int i =>
  obtain⟨t,rfl⟩:=hx
  exact SA.onI hy fun j u=>SA.ret0 N rfl fun Q E q=>PySem.P.ne_int (q s.toks)
 |str i =>
  obtain⟨t,rfl⟩:=hx
  exact SA.onS hy fun j u=>SA.ret0 N rfl fun Q E q=>PySem.P.ne_str (q s.toks)
 |ref i=>exact RO H N hx hy
 |_=>exact SA.fail
theorem SA.thenB{t:Sem Value}{m:M Bool}{f:Bool→Bool}(h:SA G c (fun _ b v=>v=Value.bool (f b)) t m ρ st s):SA G c VR t (bnd m fun b=>aG (.bool (f b))) ρ st s:=fun r st' hm hq Q E post=>by
 rcases aT hm with⟨e,h1,rfl⟩|⟨b,st1,h1,h2⟩
 ·exact h _ _ h1 hq Q E fun ρ' s' S N'=>post ρ' s' S N'
 ·cases h2
  exact h _ _ h1 hq Q E fun ρ' s' S N' b' hb'=>post ρ' s' S N' b' hb'
theorem SA.cmp(H:GOK G)(N:Now G c ρ st s.heap){op:CmpOp}{x y:SV}{a b:Value}(hx:VR ρ x a)(hy:VR ρ y b):SA G c VR (compareOp op a b) (CP op x y) ρ st s:=by
 cases op with
 |Eq=>exact SA.eqq N hx hy
 |NotEq=>exact SA.nee H N hx hy
 |Lt=>exact SA.onI (T:=fun a=>compareOp .Lt a b) hx fun i t=>SA.onI hy fun j u=>SA.lt H N fun Q E q=>PySem.P.lt_int q
 |LtE=>exact SA.onI (T:=fun a=>compareOp .LtE a b) hx fun i t=>SA.onI hy fun j u=>SA.ret0 N rfl fun Q E q=>PySem.P.le_int (q s.toks)
 |Gt=>exact SA.onI (T:=fun a=>compareOp .Gt a b) hx fun i t=>SA.onI hy fun j u=>SA.lt H N fun Q E q=>PySem.P.gt_int q
 |GtE=>exact SA.onI (T:=fun a=>compareOp .GtE a b) hx fun i t=>SA.onI hy fun j u=>SA.ret0 N rfl fun Q E q=>PySem.P.ge_int (q s.toks)
 |Is =>
  refine SA.onN (T:=fun b=>compareOp .Is a b) hy (SA.onOpt fun b hb=>?_)
  obtain⟨h1,rfl⟩:=uC hb
  have e:=hx.isNone h1
  refine SA.ret0 N rfl fun Q E q=>?_
  by_cases z:a = .none
  ·subst z
   rw[←e]at q
   exact wpAny_is_self rfl (q s.toks)
  ·have:sD x=false:=by rw[←e];simpa using z
   rw[this]at q
   exact is_none_ne z (q s.toks)
 |IsNot =>
  refine SA.onN (T:=fun b=>compareOp .IsNot a b) hy (SA.onOpt fun b hb=>?_)
  obtain⟨h1,rfl⟩:=uC hb
  exact SA.ret0 N rfl fun Q E q=>isnot_none_gen (by rw[hx.isNone h1];exact q s.toks)
 |In=>exact SA.onLook (T:=fun b=>compareOp .In a b) N hy fun o p ho hs=>SA.thenB (f:=id) (SA.inB H N hx ho hs (.inl ⟨rfl,rfl⟩))
 |NotIn=>exact SA.onLook (T:=fun b=>compareOp .NotIn a b) N hy fun o p ho hs=>SA.thenB (f:=not) (SA.inB H N hx ho hs (.inr ⟨rfl,rfl⟩))
end
end
section
open PySem.Calls
noncomputable def GK(o:SO):M Bool:=match o with
 |.list xs=>mIf (Nat.ble xs.length 100000) (aG (!xs.isEmpty))
 |_=>aH
noncomputable def dU(v:SV):M Bool:=match v with
 |.none=>aG false
 |.bool b=>aG b
 |.ref i=>bnd (cD (.ref i)) GK
 |_=>aH
theorem bA{v:SV}:Grows (dU v):=by
 cases v with
 |none=>exact Grows.ret
 |bool b=>exact Grows.ret
 |ref i =>
  refine Grows.bnd aV fun o=>?_
  cases o with
  |list xs=>exact aD Grows.ret
  |_=>exact aB
 |_=>exact aB
noncomputable def okI(k:Int):Bool:=decide (-(2 ^ 62)≤k)&&decide (k<2 ^ 62)
noncomputable def mAt(xs:List SV)(k:Int):M SV:=FI fun v=>oT (.at xs k v) v
theorem IJ{xs:List SV}{k:Int}:Grows (mAt xs k):=Grows.oraV fun _=>bU
noncomputable def isN(v:SV):Bool:=match v with
 |.none=>true
 |_=>false
noncomputable def asI(v:SV):Option Int:=match v with
 |.int i=>some i
 |_=>none
noncomputable def slc(a b:SV):Option (Bool×Int):=bif isN b then(asI a).map fun i=>(true,i)else bif isN a then(asI b).map fun i=>(false,i)else none
noncomputable def VO(l:List SV):Option (Bool×Int):=match l with
 |[a,b,c]=>bif isN c then slc a b else none
 |_=>none
noncomputable def aBd(c:IC):Bool:=match c with
 |.slice=>true
 |_=>false
noncomputable def QZ(o:SO):Option (Bool×Int):=match o with
 |.iter c l=>bif aBd c then VO l else none
 |_=>none
noncomputable def PF(k:Int)(o:SO):M SV:=match o with
 |.list xs=>bO (atI xs k)
 |.tuple xs=>bO (atI xs k)
 |.clist xs=>mAt xs k
 |_=>aH
noncomputable def XB(k:Str)(o:SO):M SV:=match o with
 |.sdict m=>bO (lkS m k)
 |_=>aH
noncomputable def GN(o:SO)(p:Bool×Int):M SV:=match o with
 |.list xs=>mIf (decide (0≤p.2)&&Nat.ble xs.length 100000) (bJ (.list (bif p.1 then xs.drop p.2.toNat else xs.take p.2.toNat)))
 |_=>aH
noncomputable def XC(i:SV)(o:SO):M SV:=match i with
 |.int k=>mIf (okI k) (PF k o)
 |.str k=>XB k o
 |.ref j=>bnd (bP j) fun o'=>bnd (bO (QZ o')) (GN o)
 |_=>aH
noncomputable def ZQ(o:SO):Option String:=match o with
 |.list _=>some "list"
 |.clist _=>some "list"
 |.tuple _=>some "tuple"
 |.sdict _=>some "dict"
 |_=>none
noncomputable def GM(o i:SV):M SV:=bnd (cD o) fun o=>bnd (bO (ZQ o)) fun _=>XC i o
theorem kT{o i:SV}:Grows (GM o i):=by
 refine Grows.bnd aV fun o=>Grows.bnd aL fun _=>?_
 cases i with
 |int k=>exact aD (by cases o<;>first | exact aL | exact IJ | exact aB)
 |str k=>cases o<;>first | exact aL | exact aB
 |ref k=>exact Grows.bnd aS fun o'=>Grows.bnd aL fun _=>by cases o<;>first | exact aD aJ | exact aB
 |_=>exact aB
theorem pick_from(vs:Array Value){x:Int}(h:0≤x):slicePick vs (some x) none none=(vs.toList.drop x.toNat).toArray:=by
 obtain⟨n,rfl⟩:=Int.eq_ofNat_of_zero_le h
 exact slicePick_from' vs n
theorem BZ(vs:Array Value){y:Int}(h:0≤y):slicePick vs none (some y) none=(vs.toList.take y.toNat).toArray:=by
 obtain⟨n,rfl⟩:=Int.eq_ofNat_of_zero_le h
 exact slicePick_upto' vs n
section
variable{G:Gl}{c:Ac}{ρ:Tr}{st:St}{s:Shared}
theorem SA.truthy(H:GOK G)(N:Now G c ρ st s.heap){x:SV}{a:Value}(hx:VR ρ x a):SA G c (fun _ b b'=>b'=b) (truthy a) (dU x) ρ st s:=by
 cases x with
 |none=>cases hx;exact SA.ret0 N rfl fun Q E q=>truthy_none (q s.toks)
 |bool b=>cases hx;exact SA.ret0 N rfl fun Q E q=>wpAny_truthy_bool (q s.toks)
 |ref i =>
  refine SA.onLook N hx fun o p ho _=>?_
  cases o with
  |list xs =>
   refine SA.if fun g=>?_
   obtain⟨vs,n,e1,e2⟩:=ho
   have hl:xs.length=vs.size:=e2.length
   have e:(!xs.isEmpty) = !vs.isEmpty:=by
    cases xs with
    |nil=>rw[Array.isEmpty,←hl];rfl
    |cons _ _=>rw[Array.isEmpty,←hl];rfl
   refine SA.ret0 N rfl fun Q E q=>?_
   rw[e]at q
   exact wpAny_truthy_list (items:=vs) ⟨_,e1,rfl,n,rfl⟩ (Int.lt_of_le_of_lt (Int.ofNat_le.mpr (hl▸Nat.le_of_ble_eq_true g:vs.size≤100000)) (by decide)) (q _)
  |_=>exact SA.fail
 |_=>exact SA.fail
theorem KE{xs:List SV}{vs:Array Value}(h:aK (VR ρ) xs vs.toList){k:Int}{v:SV}(e:atI xs k=some v) :
  (0≤k∧∃y,vs[k.toNat]?=some y∧VR ρ v y)∨(k<0∧-(vs.size:Int)≤k∧∃y,vs[(k+vs.size).toNat]?=some y∧VR ρ v y):=by
 have hl:xs.length=vs.size:=h.length
 cases k with
 |ofNat n =>
  obtain⟨y,h1,h2⟩:=h.get (show xs[n]?=some v from e)
  exact .inl ⟨Int.natCast_nonneg n,y,by simpa using h1,h2⟩
 |negSucc n =>
  have e:(bif Nat.ble (n+1) xs.length then xs[xs.length - (n+1)]? else none)=some v:=e
  cases q:Nat.ble (n+1) xs.length with
  |false=>rw[q]at e;exact nos e
  |true =>
   rw[q,cond_true]at e
   have q:=Nat.le_of_ble_eq_true q
   obtain⟨y,h1,h2⟩:=h.get e
   refine .inr ⟨Int.negSucc_lt_zero n,Int.neg_le_neg (Int.ofNat_le.mpr (hl▸q)),y,?_,h2⟩
   have:(Int.negSucc n+(vs.size:Int)).toNat=xs.length - (n+1):=by
    rw[Int.add_comm,hl];exact Int.toNat_sub _ (n+1)
   rw[this];simpa using h1
theorem xB{k:Int}(g:okI k=true) : -(2 ^ 63)≤k∧k<2 ^ 63:=⟨Int.le_trans (by decide) (of_decide_eq_true (aN g).1),Int.lt_trans (of_decide_eq_true (aN g).2) (by decide)⟩
theorem item_list{p:Addr}{k:Int}{t:Tok}{xs:List SV}{v:SV}(ho:ORl ρ s.heap p "list" xs)(g:okI k=true)(hv:atI xs k=some v){Q:Value→Shared→Prop} {E}(q:∀z,VR ρ v z→Q z s):WP G c (getItem (.ref p) (.int k t)) Q E s:=by
 obtain⟨vs,n,e1,e2⟩:=ho
 rcases KE e2 hv with⟨h0,z,h1,h2⟩|⟨h0,h00,z,h1,h2⟩
 ·exact wpAny_getItem_list (items:=vs) ⟨_,e1,rfl,n,rfl⟩ h0 (xB g).2 h1 (q z h2)
 ·exact wpAny_getItem_list_neg (items:=vs) ⟨_,e1,rfl,n,rfl⟩ h0 h00 (xB g).1 h1 (q z h2)
theorem item_tuple{p:Addr}{k:Int}{t:Tok}{xs:List SV}{v:SV}(ho:ORl ρ s.heap p "tuple" xs)(g:okI k=true)(hv:atI xs k=some v){Q:Value→Shared→Prop} {E}(q:∀z,VR ρ v z→Q z s):WP G c (getItem (.ref p) (.int k t)) Q E s:=by
 obtain⟨vs,n,e1,e2⟩:=ho
 have g:=xB g
 rcases KE e2 hv with⟨h0,z,h1,h2⟩|⟨h0,h00,z,h1,h2⟩
 ·exact getItem_tuple (items:=vs) ⟨_,e1,rfl,n,rfl⟩ g.1 g.2 (seqIndex_of h0 ((Int.toNat_lt h0).mp (Array.getElem?_eq_some_iff.mp h1).1)) h1 (q z h2)
 ·exact getItem_tuple (items:=vs) ⟨_,e1,rfl,n,rfl⟩ g.1 g.2 (PySem.seqIndex_neg h0 h00) h1 (q z h2)
theorem SA.at(H:GOK G)(N:Now G c ρ st s.heap){t:Sem Value}{xs:List SV}{k:Int}(h:∀v,atI xs k=some v→∀(Q:Value→Shared→Prop) E,(∀z,VR ρ v z→Q z s)→WP G c t Q E s):SA G c VR t (mAt xs k) ρ st s :=
 SA.oraV N fun v st N=>SA.push N fun hv Q E q=>h v (H.vat _ _ _ hv) Q E fun z hz=>q z s.toks hz
theorem SA.optV(N:Now G c ρ st s.heap){t:Sem Value}{x:Option SV}(h:∀v,x=some v→∀(Q:Value→Shared→Prop) E,(∀z tk,VR ρ v z→Q z { s with toks:=tk })→WP G c t Q E s):SA G c VR t (bO x) ρ st s :=
 SA.opt fun v hv r st' hm hq Q E post=>by
  cases hm
  exact h v hv Q E fun z tk hz=>post ρ { s with toks:=tk } aF.toks N z hz
theorem sG{a:SV}(h:isN a=true):a = .none:=by
 cases a with
 |none=>rfl
 |_=>exact Bool.noConfusion h
theorem tA{a:SV}{f:Bool}{p:Bool×Int}(h:((asI a).map fun i=>(f,i))=some p):a = .int p.2∧f=p.1:=by
 cases a with
 |int j=>cases h;exact⟨rfl,rfl⟩
 |_=>exact nos h
theorem cJ{α:Type}{b:Bool}{x y:Option α}{r:α}(h:(bif b then x else y)=some r):(b=true∧x=some r)∨y=some r:=by
 cases b with
 |true=>exact .inl ⟨rfl,h⟩
 |false=>exact .inr h
theorem QY{a b:SV}{p:Bool×Int}(h:slc a b=some p):(a = .int p.2∧b = .none∧true=p.1)∨(a = .none∧b = .int p.2∧false=p.1):=by
 rcases cJ h with⟨h1,h2⟩|h
 ·exact .inl ⟨(tA h2).1,sG h1,(tA h2).2⟩
 ·rcases cJ h with⟨h1,h2⟩|h
  ·exact .inr ⟨sG h1,(tA h2).1,(tA h2).2⟩
  ·exact nos h
theorem LM{l:List SV}{p:Bool×Int}(h:VO l=some p):∃a b,l=[a,b,.none]∧slc a b=some p:=by
 rcases l with _|⟨a,_|⟨b,_|⟨c,_|⟨d,l⟩⟩⟩⟩
 ·exact nos h
 ·exact nos h
 ·exact nos h
 ·rcases cJ h with⟨h1,h2⟩|h
  ·exact⟨a,b,by rw[sG h1],h2⟩
  ·exact nos h
 ·exact nos h
theorem LL{o:SO}{f:Bool}{i:Int}(h:QZ o=some (f,i)){p:Addr}(q:OR G ρ s.heap p o):∃t,s.heap.get? p=some { cls:=.type "slice",data:=.fields (bif f then #[.int i t,.none,.none]else #[.none,.int i t,.none]) }:=by
 cases o with
 |iter cl l =>
  obtain⟨⟨us⟩,e1,e2⟩:=q
  rcases cJ h with⟨h1,h⟩|h
  ·obtain⟨a,b,rfl,h⟩:=LM h
   obtain⟨x,y,z,rfl,h3,h4,h5⟩:=aK.three e2
   cases cl with
   |slice =>
    cases h5
    rcases QY h with⟨rfl,rfl,h⟩|⟨rfl,rfl,h⟩
    ·cases h;obtain⟨t,rfl⟩:=h3;cases h4;exact⟨t,e1⟩
    ·cases h;obtain⟨t,rfl⟩:=h4;cases h3;exact⟨t,e1⟩
   |_=>exact Bool.noConfusion h1
  ·exact nos h
 |_=>exact nos h
theorem SA.slice(H:GOK G)(N:Now G c ρ st s.heap){p q:Addr}{o o':SO}(ho:OR G ρ s.heap p o)(ho':OR G ρ s.heap q o'):SA G c VR (getItem (.ref p) (.ref q)) (bnd (bO (QZ o')) (GN o)) ρ st s:=by
 refine SA.onOpt fun fi hfi=>?_
 cases o with
 |list xs =>
  refine SA.if fun g=>?_
  obtain⟨f,a⟩:=fi
  have g1:0≤a:=of_decide_eq_true (aN g).1
  obtain⟨t,f1⟩:=LL hfi ho'
  obtain⟨vs,n,e1,e2⟩:=ho
  have hl:vs.size≤sizeLine:=(show xs.length=vs.size from e2.length)▸Nat.le_trans (Nat.le_of_ble_eq_true (aN g).2) (by decide)
  cases f with
  |true =>
   refine SA.alloc H N (o:={ cls:=.type "list",data:=.seq (vs.toList.drop a.toNat).toArray }) (tk:=s.toks) rfl (aP rfl) (aP rfl) (so:=.list (xs.drop a.toNat))
    ⟨_,_,Heap.get?_push_size _ rfl,(aK.drop a.toNat e2).imp fun _ _ z=>z.mono Tr.le_add⟩ fun Q E z=>?_
   refine wpAny_getItem_list_slice (items:=vs) (lo:=some a) (hi:=none) (st:=none) ⟨_,e1,rfl,n,rfl⟩ ⟨_,f1,rfl,rfl⟩ (.int a t) .none .none (fun q=>nomatch q) ?_ hl
   rw[pick_from vs g1];exact z
  |false =>
   refine SA.alloc H N (o:={ cls:=.type "list",data:=.seq (vs.toList.take a.toNat).toArray }) (tk:=s.toks) rfl (aP rfl) (aP rfl) (so:=.list (xs.take a.toNat))
    ⟨_,_,Heap.get?_push_size _ rfl,(aK.take a.toNat e2).imp fun _ _ z=>z.mono Tr.le_add⟩ fun Q E z=>?_
   refine wpAny_getItem_list_slice (items:=vs) (lo:=none) (hi:=some a) (st:=none) ⟨_,e1,rfl,n,rfl⟩ ⟨_,f1,rfl,rfl⟩ .none (.int a t) .none (fun q=>nomatch q) ?_ hl
   rw[BZ vs g1];exact z
 |_=>exact SA.fail
theorem SA.subI(H:GOK G)(N:Now G c ρ st s.heap){p:Addr}{o:SO}(ho:OR G ρ s.heap p o){k:Int}{t:Tok}(g:okI k=true):SA G c VR (getItem (.ref p) (.int k t)) (PF k o) ρ st s:=by
 cases o with
 |list xs=>exact SA.optV N fun v hv Q E q=>item_list ho g hv fun z hz=>q z _ hz
 |tuple xs=>exact SA.optV N fun v hv Q E q=>item_tuple ho g hv fun z hz=>q z _ hz
 |clist xs=>exact SA.at H N fun v hv Q E q=>item_list (let⟨vs,n,e1,e2,_⟩:=ho;⟨vs,n,e1,e2⟩) g hv q
 |_=>exact SA.fail
theorem SA.sub(H:GOK G)(N:Now G c ρ st s.heap){x y:SV}{a b:Value}(hx:VR ρ x a)(hy:VR ρ y b):SA G c VR (getItem a b) (GM x y) ρ st s:=by
 refine SA.onLook (T:=fun a=>getItem a b) N hx fun o p ho _=>SA.onOpt fun _ _=>?_
 cases y with
 |int k=>obtain⟨t,rfl⟩:=hy;exact SA.if fun g=>SA.subI H N ho g
 |str k =>
  obtain⟨t,rfl⟩:=hy
  cases o with
  |sdict m =>
   refine SA.optV N fun v hv Q E q=>?_
   obtain⟨kvs,es,ep,e1,e2,e3⟩:=ho
   have:=zF e3 k
   rw[hv]at this
   obtain⟨z,h1,h2⟩:=this
   exact wpAny_getItem_of (strKind_is _ _ k t) e2.mapOf h1 (q z _ h2)
  |_=>exact SA.fail
 |ref j =>
  obtain⟨q,hq,rfl⟩:=hy
  exact SA.onObj fun o' ho'=>SA.slice H N ho (N.oat hq ho')
 |_=>exact SA.fail
end
end
section
open PySem.Calls
theorem rM{T:String}(its:Array Value)(n:Nat)(f:Array Value→Array Value) :
  ∃k,Obj.mapSeq f { cls:=.type T,data:=.seq its n }={ cls:=.type T,data:=.seq (f its) k }:=by
 unfold Obj.mapSeq
 exact⟨_,rfl⟩
noncomputable def xL(xs:List SV):M Unit:=oT (.small xs) ()
theorem lR{xs:List SV}:Grows (xL xs):=bU
noncomputable def aAx(x:SV)(i:Nat)(o:SO):M SV:=match o with
 |.list xs=>mIf (Nat.ble xs.length 100000) (bnd (eX i (.list (xs++[x]))) fun _=>aG .none)
 |.clist xs=>mIf (clV x) (bnd (xL xs) fun _=>bnd (eX i (.clist (xs++[x]))) fun _=>aG .none)
 |_=>aH
noncomputable def rY (v x:SV):M SV:=tV v (aAx x)
noncomputable def HK:List SV→Option SV
  | []=>none
  | [x]=>some x
  | _::y::r=>HK (y::r)
noncomputable def uY:List SV→List SV
 | []=>[]
 | [x]=>[]
 | x::y::r=>x::uY (y::r)
noncomputable def RY(v:SV):M SV:=tV v fun i o=>mX o fun xs=>mIf (Nat.ble xs.length 100000) (bnd (bO (HK xs)) fun y=>bnd (eX i (.list (uY xs))) fun _=>aG y)
theorem kC{v x:SV}:Grows (rY v x):=Grows.onRi fun i o=>by
 cases o with
 |list xs=>exact aD (Grows.bnd aZ fun _=>Grows.ret)
 |clist xs=>exact aD (Grows.bnd lR fun _=>Grows.bnd aZ fun _=>Grows.ret)
 |_=>exact aB
theorem CW {v:SV}:Grows (RY v):=Grows.onRi fun _ _=>Grows.onList fun _=>aD (Grows.bnd aL fun _=>Grows.bnd aZ fun _=>Grows.ret)
theorem uW:∀ {xs:List SV}{y:SV},HK xs=some y→xs=uY xs++[y]
 | [],_,h=>by cases h
 | [x],_,h=>by cases h;rfl
 | x::y::r,z,h=>by
  have:=uW (xs:=y::r) h
  show x::y::r=x::uY (y::r)++[z]
  rw [List.cons_append,← this]
theorem aK.snoc_inv{α β:Type}{R:α→β→Prop}:∀{l:List α}{a:α}{r:List β},aK R (l++[a]) r→∃r' b,r=r'++[b]∧aK R l r'∧R a b
 |[],a,[b],h=>⟨[],b,rfl,trivial,h.1⟩
 |[],a,b::c::r,h=>h.2.elim
 |[],a,[],h=>h.elim
 |x::l,a,y::r,h=>by
  obtain⟨r',b,e,h1,h2⟩:=aK.snoc_inv (l:=l) h.2
  exact⟨y::r',b,by rw[e];rfl,⟨h.1,h1⟩,h2⟩
 |x::l,a,[],h=>h.elim
section
variable{G:Gl}{c:Ac}{ρ:Tr}{st:St}{s:Shared}
theorem Now.lset(H:GOK G)(N:Now G c ρ st s.heap){i:Nat}{p:Addr}{so:SO}(hp:ρ.a[i]?=some p)(hl:lI st.objs i){vs:Array Value}{n:Nat}{f:Array Value→Array Value}
  (e1:s.heap.get? p=some { cls:=.type "list",data:=.seq vs n })(new:∀h' k,h'.get? p=some { cls:=.type "list",data:=.seq (f vs) k }→OR G ρ h' p so){tk:Nat} :
  aF c.env.locals ρ s ρ { s with heap:=s.heap.update p (Obj.mapSeq f),toks:=tk }∧Now G c ρ { st with objs:=st.objs.set i so } (s.heap.update p (Obj.mapSeq f)):=by
 obtain⟨k,e2⟩:=rM (T:="list") vs n f
 have e3:(s.heap.update p (Obj.mapSeq f)).get? p=some { cls:=.type "list",data:=.seq (f vs) k }:=by
  rw[Heap.get?_update_self _ e1 (by rw[e2];rfl),e2]
 have oth:∀b o,s.heap.get? b=some o→b≠p→bW (s.heap.update p (Obj.mapSeq f)) b o:=fun b o ho hb=>⟨o,(Heap.get?_update_other _ _ (Ne.symm hb)).trans ho,Eqv.refl o⟩
 have hcl:∀o,s.heap.get? p=some o→KeptAt (s.heap.update p (Obj.mapSeq f)) p o:=fun o ho=>by rw[e1]at ho;cases ho;exact⟨_,e3,rfl,fun _ _ q=>by cases q⟩
 exact⟨aF.change (List.mem_of_getElem? hp) oth hcl,N.change H hp hl oth (new _ k e3) ⟨_,e3,aP rfl,aP rfl⟩ hcl⟩
theorem lI.of{objs:List SO}{i:Nat}{o:SO}(h:objs[i]?=some o)(hn:o≠.dead):lI objs i:=fun q=>hn (Option.some.inj (h.symm.trans q))
theorem uT(H:GOK G)(N:Now G c ρ st s.heap){i:Nat}{p:Addr}{so:SO}(hp:ρ.a[i]?=some p)(hl:lI st.objs i){xs:List SV}(q:ORl ρ s.heap p "list" xs)(g:xs.length≤100000){x:SV}{b:Value}(hx:VR ρ x b)
  (new:∀h',ORl ρ h' p "list" (xs++[x])→OR G ρ h' p so){Q:Value→Shared→Prop}{E:Value→Shared→Prop}(post:∀s',aF c.env.locals ρ s ρ s'→Now G c ρ { st with objs:=st.objs.set i so } s'.heap→Q .none s'):WP G c (call (.builtin "list.append") [.ref p,b]) Q E s:=by
 obtain⟨vs,n,e1,e2⟩:=q
 have hz:vs.size≤100000:=(show xs.length=vs.size from e2.length)▸g
 have X:=N.lset H hp hl (f:=fun y=>y.push b) (so:=so) e1 (fun h' k e=>new h' ⟨_,k,e,by rw[Array.toList_push];exact e2.append ⟨hx,trivial⟩⟩) (tk:=s.toks)
 exact call_meets PySem.F.slot_list_append ⟨_,e1,rfl⟩ PySem.F.entry_list_append (PySem.F.args_list_append_2 _ _) (AutoListH.list_append_list_val_0 p vs n b (by rw[sizeLine_eq];lia)) ⟨e1,post _ X.1 X.2⟩
theorem SA.append(H:GOK G)(N:Now G c ρ st s.heap){v x:SV}{a b:Value}(hv:VR ρ v a)(hx:VR ρ x b):SA G c VR (call (.builtin "list.append") [a,b]) (rY v x) ρ st s:=by
 refine SA.onRi (T:=fun a=>call (.builtin "list.append") [a,b]) hv fun i o p _ hp ho=>?_
 have q:=N.oat hp ho
 cases o with
 |list xs=>exact SA.if fun g=>SA.putR (R:=VR) (y:=.none) rfl fun Q E post=>uT H N hp (so:=.list (xs++[x])) (lI.of ho fun q=>nomatch q) q (Nat.le_of_ble_eq_true g) hx (fun h' z=>z) post
 |clist xs =>
  refine SA.if fun g0 r st' hm hq Q E post=>?_
  cases hm
  obtain⟨vs,n,e1,e2,e3⟩:=q
  refine uT H N hp (so:=.clist (xs++[x])) (lI.of ho fun q=>nomatch q) ⟨vs,n,e1,e2⟩ (H.vsmall _ (hq _ (.head _))) hx (fun h' ⟨vs,n,f1,f2⟩=>⟨vs,n,f1,f2,fun z hz=>?_⟩) fun s' S N'=>post ρ s' S N'.asked _ rfl
  rcases List.mem_append.mp hz with hz|hz
  ·exact e3 z hz
  ·rw[List.mem_singleton.mp hz];exact g0
 |_=>exact SA.fail
theorem SA.pop(H:GOK G)(N:Now G c ρ st s.heap){v:SV}{a:Value}(hv:VR ρ v a):SA G c VR (call (.builtin "list.pop") [a]) (RY v) ρ st s:=by
 refine SA.onRi (T:=fun a=>call (.builtin "list.pop") [a]) hv fun i o p _ hp ho=>SA.onList (N.oat hp ho) fun xs vs n eo e1 e2=>SA.if fun g=>SA.onOpt fun y hy=>?_
 have hl:vs.size≤100000:=(show xs.length=vs.size from e2.length)▸Nat.le_of_ble_eq_true g
 rw[uW hy]at e2
 obtain⟨ys,z,e4,e5,e6⟩:=aK.snoc_inv e2
 have hsz:vs.size - 1=ys.length:=by rw[←Array.length_toList,e4,List.length_append];rfl
 have hz:vs[vs.size - 1]?=some z:=by rw[←Array.getElem?_toList,e4,hsz,List.getElem?_append_right (Nat.le_refl _),Nat.sub_self];rfl
 refine SA.putR e6 fun Q E post=>?_
 have X:=N.lset H hp (so:=.list (uY xs)) (lI.of ho fun q=>nomatch eo.symm.trans q) (f:=fun y=>y.eraseIdxIfInBounds (vs.size - 1)) e1 (fun h' k e=>⟨_,k,e,by
  rw[Array.toList_eraseIdxIfInBounds,e4,hsz,List.eraseIdx_append_of_length_le (Nat.le_refl _),Nat.sub_self]
  exact(List.append_nil ys).symm▸e5⟩) (tk:=s.toks)
 exact call_meets PySem.F.slot_list_pop ⟨_,e1,rfl⟩ PySem.F.entry_list_pop (PySem.F.args_list_pop_1 _) (MeetsSeq.list_pop_last p vs n z hz (by rw[sizeLine_eq];lia)) ⟨e1,post _ X.1 X.2⟩
end
end
section
open PySem.Calls
open Builtin Builtin.Str
section
theorem mZ(s:Str)(c:Nat)(lim:Nat):∀(l:List Nat)(st:Array Nat×Nat),(∀i∈l,s.cps.toList[i]?≠some c) →
  (forIn l st (StrLaws.occBody s ⟨#[c]⟩ s.length lim)).run=st
 |[],st,_=>rfl
 |a::l,st,h=>by
  rw[List.forIn_cons]
  unfold StrLaws.occBody
  rw[if_neg fun q=>h a (List.mem_cons_self ..) ((StrLaws.subAt_one s c a).mp ⟨q.1.2,q.2⟩)]
  exact mZ s c lim l _ fun i hi=>h i (List.mem_cons_of_mem _ hi)
theorem qI{β:Type}(l r:List Nat)(st:β)(f:Nat→β→Id (ForInStep β))(hf:∀a b,∃b',f a b=pure (ForInStep.yield b')):(forIn (l++r) st f).run=(forIn r (forIn l st f).run f).run:=by
 induction l generalizing st with
 |nil=>rfl
 |cons a l ih =>
  rw[List.cons_append,List.forIn_cons,List.forIn_cons]
  obtain⟨b',e⟩:=hf a st
  rw[e]
  exact ih b'
theorem zT(s:Str)(c:Nat)(u v:List Nat)(e:s.cps.toList=u++c::v)(hu:c∉u)(hv:c∉v):occurrences s ⟨#[c]⟩ 0 s.length (s.length+1)=[u.length]:=by
 have hn:s.length=u.length+1+v.length:=by
  have:s.length=s.cps.toList.length:=by simp[Str.length]
  rw[this,e];simp;lia
 rw[StrLaws.occ_eq]
 have r:List.range' 0 (s.length+1 - 0)=List.range' 0 u.length++([u.length]++List.range' (u.length+1) (v.length+1)):=by
  rw[List.singleton_append,←List.range'_succ,hn]
  have:=List.range'_append (s:=0) (m:=u.length) (n:=v.length+1+1) (step:=1)
  rw[Nat.zero_add,Nat.one_mul]at this
  rw[this]
  congr 1
  lia
 have hf:∀a b,∃b',StrLaws.occBody s ⟨#[c]⟩ s.length (s.length+1) a b=pure (ForInStep.yield b'):=fun a b=>by
  unfold StrLaws.occBody;split<;>exact⟨_,rfl⟩
 rw[r,qI _ _ _ _ hf,qI _ _ _ _ hf,mZ s c _ (List.range' 0 u.length)]
 ·have hit:StrLaws.occBody s ⟨#[c]⟩ s.length (s.length+1) u.length ((#[]:Array Nat),0)=pure (ForInStep.yield (#[u.length],u.length+1)):=by
   unfold StrLaws.occBody
   have q:=(StrLaws.subAt_one s c u.length).mpr (by rw[e];simp)
   rw[if_pos ⟨⟨⟨by simp,Nat.zero_le _⟩,q.1⟩,q.2⟩]
   rfl
  have:(forIn [u.length] ((#[]:Array Nat),0) (StrLaws.occBody s ⟨#[c]⟩ s.length (s.length+1))).run=(#[u.length],u.length+1):=by
   rw[List.forIn_cons,hit];rfl
  rw[this,mZ s c]
  intro i hi
  rw[List.mem_range']at hi
  obtain⟨k,hk,rfl⟩:=hi
  rw[e,List.getElem?_append_right (by lia)]
  rw[Nat.one_mul,Nat.add_assoc,Nat.add_sub_cancel_left,Nat.add_comm 1 k,List.getElem?_cons_succ]
  intro q
  exact hv (List.mem_of_getElem? q)
 ·intro i hi
  rw[List.mem_range']at hi
  obtain⟨k,hk,rfl⟩:=hi
  rw[e,List.getElem?_append_left (by lia)]
  intro q
  exact hu (List.mem_of_getElem? q)
theorem tI(x:Str)(c:Nat)(h:c<256):decide (strKind x<strKind ⟨#[c]⟩)=false:=by
 have:strKind ⟨#[c]⟩=1:=by
  unfold Builtin.Str.strKind
  rw[if_pos (by simp[h])]
 rw[this]
 refine decide_eq_false ?_
 unfold Builtin.Str.strKind
 split
 ·lia
 ·split<;>omega
theorem CB(x a b:Str)(c:Nat)(hc:c<256)(e:x=a++⟨#[c]⟩++b)(ha:c∉a.cps.toList)(hb:c∉b.cps.toList) :
  partsBetween x (occurrences x ⟨#[c]⟩ 0 x.length (x.length+1)) 1=[a,b]:=by
 have ex:x.cps.toList=a.cps.toList++c::b.cps.toList:=by rw[e];show(a.cps++#[c]++b.cps).toList=_;simp
 rw[zT x c _ _ ex ha hb]
 have l1:a.cps.toList.length=a.cps.size:=Array.length_toList
 unfold partsBetween
 show[strSub x 0 a.cps.toList.length,strSub x (a.cps.toList.length+1) x.length]=_
 have lx:x.length=a.cps.size+1+b.cps.size:=by
  have:x.length=x.cps.toList.length:=by simp[Str.length]
  rw[this,ex];simp;lia
 have h1:strSub x 0 a.cps.toList.length=a:=by
  unfold strSub
  have:(x.cps.extract 0 a.cps.toList.length)=a.cps:=by
   apply Array.toList_inj.mp
   rw[Array.toList_extract,ex]
   simp[List.extract]
  rw[this]
 have h2:strSub x (a.cps.toList.length+1) x.length=b:=by
  unfold strSub
  have:(x.cps.extract (a.cps.toList.length+1) x.length)=b.cps:=by
   apply Array.toList_inj.mp
   rw[Array.toList_extract,ex,lx]
   simp only[List.extract,l1]
   rw[List.drop_append,List.drop_of_length_le (by simp),List.nil_append]
   simp only[Array.length_toList]
   rw[Nat.add_sub_cancel_left (n:=a.cps.size) (m:=1)]
   show List.take _ b.cps.toList=_
   rw[List.take_of_length_le (by simp)]
  rw[this]
 rw[h1,h2]
end
section
variable{prog:Program}{w:World}{A:Around}{E:Value→Shared→Prop}{s:Shared}{Q:Value→Shared→Prop}
theorem pJ{x a b:Str}{c:Nat}{t u:Tok}(hc:c<256)(e:x=a++⟨#[c]⟩++b)(ha:c∉a.cps.toList)(hb:c∉b.cps.toList)(hl:x.length≤1000000)
  (h:Q (.ref s.heap.objs.size) { s with heap:=s.heap.push { cls:=.type "list",data:=.seq #[.str a s.toks,.str b (s.toks+1)] },toks:=s.toks+2 }) :
  wpAny (model prog w) A (call (.builtin "str.split") [.str x t,.str ⟨#[c]⟩ u]) Q E s:=by
 obtain⟨raising,tree⟩:=split_sep_tree x ⟨#[c]⟩ t u
 refine wpAny_call (codeAny_call_builtin PySem.F.slot_str_split.plain PySem.F.entry_str_split (PySem.F.slot_str_split.check _ _ _ _ _ _ _ _ (typeIs_str _ _ _) (PySem.F.args_str_split_2 _ _) ?_))
 rw[tree]
 have ex:x.cps.toList=a.cps.toList++c::b.cps.toList:=by rw[e];show(a.cps++#[c]++b.cps).toList=_;simp
 have lx:x.length=a.cps.size+1+b.cps.size:=by
  have:x.length=x.cps.toList.length:=by simp[Str.length]
  rw[this,ex];simp;lia
 have e1:(decide (x.length<(⟨#[c]⟩:Str).length)||decide (strKind x<strKind ⟨#[c]⟩))=false:=by
  rw[tI x c hc,Bool.or_false]
  refine decide_eq_false ?_
  show ¬(x.length<1)
  rw[lx,Nat.add_right_comm]
  exact Nat.not_lt.mpr (Nat.le_add_left 1 _)
 have e2:((⟨#[c]⟩:Str).length==0)=false:=rfl
 have e3:(true&&(occurrences x ⟨#[c]⟩ 0 x.length (x.length+1)).isEmpty)=false:=by rw[zT x c _ _ ex ha hb];rfl
 have e4:partsBetween x (occurrences x ⟨#[c]⟩ 0 x.length (x.length+1)) (⟨#[c]⟩:Str).length=[a,b]:=CB x a b c hc e ha hb
 rw[e1,e2,e3,e4]
 simp only[Bool.false_eq_true,if_false]
 rw[List.mapM_cons,List.mapM_cons,List.mapM_nil]
 refine wpAny_bind (wpAny_bind ?_)
 have la:a.length≤sizeLine:=by rw[sizeLine_eq];exact Nat.le_trans (sl (sl (lx▸hl))) (by decide)
 have lb:b.length≤sizeLine:=by rw[sizeLine_eq];exact Nat.le_trans (Nat.le_trans (Nat.le_add_left _ _) (lx▸hl)) (by decide)
 refine wpAny_mkStr ?_ la
 refine wpAny_bind (wpAny_bind (wpAny_mkStr ?_ lb))
 refine wpAny_bind (wpAny_pure (wpAny_pure (wpAny_pure ?_)))
 exact wpAny_bind (wpAny_newList (wpAny_pure h) (by show 2≤sizeLine;decide))
theorem join_list{sep:Str}{t:Tok}{a:Addr}{o:Obj}{n:Nat}(l:List (Str×Tok))(h2:2≤l.length)(hl:tooLong ((l.map (·.1)).toArray.foldl (· + ·.length+sep.length) 0)=false)
  (hg:(glued sep (l.map (·.1))).length≤sizeLine)(ho:s.heap.get? a=some o)(hc:o.cls = .type "list")(hd:o.data = .seq (strValues l).toArray n)(h:Q (.str (glued sep (l.map (·.1))) s.toks) { s with toks:=s.toks+1 }) :
  wpAny (model prog w) A (call (.builtin "str.join") [.str sep t,.ref a]) Q E s:=by
 obtain⟨other,htree⟩:=join_tree sep t a
 refine wpAny_call (codeAny_call_builtin PySem.F.slot_str_join.plain PySem.F.entry_str_join (PySem.F.slot_str_join.check _ _ _ _ _ _ _ _ (typeIs_str _ _ _) (PySem.F.args_str_join_2 _ _) ?_))
 rw[htree]
 refine wpAny_bind (wpAny_typeOf (T:="list") ⟨o,ho,hc⟩ ?_)
 show wpAny _ _ (do
   match ←seqItems? (.ref a)with
   |some xs=>joinTail sep xs.toList
   |none=>unsupported "internal:str.join") _ _ s
 unfold seqItems?
 refine wpAny_bind (wpAny_bind (wpAny_load ho ?_))
 rw[hd]
 refine wpAny_pure ?_
 show wpAny _ _ (joinTail sep (strValues l).toArray.toList) _ _ s
 rw[List.toList_toArray]
 have g:=gives_joinTail sep l hl
 cases l with
 |nil=>simp at h2
 |cons p r=>cases r with
  |nil=>simp at h2
  |cons q r'=>exact g prog w A (fun r s'=>match r with | .ok (.ret v)=>Q v s' | .ok _=>False | .error e=>E e s') s ⟨hg,h⟩
end
end
section
open PySem.Calls
section
variable{prog:Program}{w:World}{A:Around}{E:Value→Shared→Prop}{s:Shared}{K:Frag}{x C D:Addr}{ox od:Obj}{od':Option Obj}
theorem oM{R:Result→Shared→Prop}(X:K.In s.heap)(I:W.InstAt s.heap x ox C od')(hb:C≠x)(hs:subIn K (.ref C) (.type "object")=some true)(hq:R (.ok (.ret (.ref C))) s) :
  codeAny (model prog w) A (.call (.builtin "getset_descriptor.__get__") ⟨[.builtin "object.__class__",.ref x,.ref C],[]⟩) R s:=by
 have hT5:s.TypeIs (.builtin "object.__class__") "getset_descriptor":=PySem.F.typeOf_object_class
 have L0:=I.type (M:=model prog w)
 have L1:Looks (model prog w) s.heap (isInstance (.ref x) (.type "object")) true:=L0.andThen (looks_subIn X hs)
 refine codeAny_call_builtin PySem.F.slot_gs_get.plain PySem.F.entry_gs_get (PySem.F.slot_gs_get.check _ _ _ _ _ _ _ _ hT5 (PySem.F.args_gs_get _ _ _) ?_)
 show wpAny _ _ (Builtin.Getset_descriptor.descrGetter (.builtin "object.__class__") (some (.ref x))) _ _ s
 unfold Builtin.Getset_descriptor.descrGetter
 refine wpAny_bind ?_
 show wpAny _ _ (do if !(←isInstance (.ref x) (.type (Builtin.Getset_descriptor.descrOwnerAndName "object.__class__").1))then _) _ _ s
 have e:(Builtin.Getset_descriptor.descrOwnerAndName "object.__class__").1 = "object":=by decide +kernel
 rw[e]
 refine wpAny_bind (L1.here ?_)
 refine wpAny_pure ?_
 refine wpAny_pure ⟨Code.quiet_builtin _ (by decide +kernel),codeAny_builtin PySem.F.entry_object_class ?_⟩
 show wpAny _ _ (shownTypeOf (.ref x)>>=ret) _ _ s
 unfold shownTypeOf
 refine wpAny_bind (wpAny_bind (L0.here ?_))
 rw[if_neg (fun q=>by cases beq_iff_eq.mp q)]
 exact wpAny_pure (wpAny_pure hq)
theorem HV(X:K.In s.heap)(I:W.InstAt s.heap x ox C (some od))(hb:C≠x)(hg:plainGet K C "__class__" = true)(hc:(clsIn K C).isSome=true)
  (ha:findIn K (.ref C) "__class__" = some (some (.builtin "object.__class__")))(hn:specialIn K (.builtin "object.__class__") "__get__" = some (some (.builtin "getset_descriptor.__get__")))
  (ht:takesIn K (.builtin "object.__class__")=some true)(hs:subIn K (.ref C) (.type "object")=some true){Q:Option Value→Shared→Prop}(h:Q (some (.ref C)) { s with toks:=s.toks+1 }) :
  wpAny (model prog w) A (getAttr? (.ref x) "__class__") Q E s:=by
 have hf:=findObj_data (od:=od) hc ha hn ht
 obtain⟨g1,g2⟩:=plainGet_of hg
 have L0:=I.type (M:=model prog w)
 have L1:=looks_findIn (M:=model prog w) X g1
 have L2:=looks_find (M:=model prog w) X I hf
 have L3:=looks_findIn (M:=model prog w) X g2
 unfold getAttr?
 refine wpAny_bind (wpAny_mkText ?_)
 unfold getAttrBy?
 refine wpAny_bind (wpAny_attempt ?_)
 unfold getAttrBy
 refine wpAny_holding (wpAny_bind (L0.at (wpAny_bind (L1.at ?_))))
 show wpAny _ _ (getAttrEveryday _ _ _) _ _ _
 refine wpAny_bind (wpAny_onRaise (wpAny_runValue (codeAny_builtin PySem.F.plainObj_entry_getattr_hooked ?_)))
 refine wpAny_bind (wpAny_pure (wpAny_bind (L0.at (wpAny_bind (L2.at (wpAny_bind (L3.at ?_)))))))
 show wpAny _ _ (holding [Value.builtin "object.__class__"] (call (.builtin "getset_descriptor.__get__") [.builtin "object.__class__",.ref x,.ref C])>>=ret) _ _ _
 refine wpAny_bind (wpAny_holding (wpAny_call (oM (s:={ s with toks:=s.toks+1 }) X I hb hs (wpAny_pure ?_))))
 refine wpAny_pure ?_
 exact wpAny_pure h
noncomputable def isNotI(K:Frag)(D C:Addr):Bool:=(clsIn K C).isSome&&typeIn K (.ref C)==some (.type "type")&&instIn K (.ref C) (.type "type")==some true&&subIn K (.ref D) (.ref C)==some false &&
 plainGet K D "__class__"&&(clsIn K D).isSome&&findIn K (.ref D) "__class__"==some (some (.builtin "object.__class__"))&&specialIn K (.builtin "object.__class__") "__get__"==some (some (.builtin "getset_descriptor.__get__")) &&
 takesIn K (.builtin "object.__class__")==some true&&subIn K (.ref D) (.type "object")==some true&&D != C
theorem HP{dep:Int}{tk:Tok}{Q:Fin→Shared→Prop}(X:K.In s.heap)(I:W.InstAt s.heap x ox D (some od))(hb:D≠x)(e:isNotI K D C=true)(h:Q (.done (.ret (.bool false))) { s with toks:=s.toks+1 }) :
  wpAny (model prog w) A (Builtin.«isinstance.nested» ⟨[.ref x,.ref C,.int dep tk],[]⟩) Q E s:=by
 unfold isNotI at e
 simp only[Bool.and_eq_true]at e
 obtain⟨⟨⟨⟨⟨⟨⟨⟨⟨⟨e0,e1⟩,e2⟩,e3⟩,e4⟩,e5⟩,e6⟩,e7⟩,e8⟩,e9⟩,e10⟩:=e
 have ca:∀{A:Around}{E:Value→Shared→Prop}{Q:Option Value→Shared→Prop},Q (some (.ref D)) { s with toks:=s.toks+1 }→wpAny (model prog w) A (getAttr? (.ref x) "__class__") Q E s :=
  fun q=>HV X I hb e4 e5 (beq_iff_eq.mp e6) (beq_iff_eq.mp e7) (beq_iff_eq.mp e8) (beq_iff_eq.mp e9) q
 obtain⟨hh,g,d,tt,os⟩:=s
 have ht:=I.type (M:=model prog w)
 have hne:D≠C:=by simpa using e10
 unfold Builtin.«isinstance.nested»
 refine wpAny_bind (ht.at ?_)
 rw[if_neg (fun q=>hne (by have:=beq_iff_eq.mp q;injection this))]
 have L1:=looks_typeIn (M:=model prog w) X (beq_iff_eq.mp e1)
 have L2:=looks_instIn (M:=model prog w) X (beq_iff_eq.mp e2)
 have L4:Looks (model prog w) hh (isSubtype (.ref D) (.ref C)) false:=looks_subIn X (beq_iff_eq.mp e3)
 have L3:Looks (model prog w) hh (isInstance (.ref x) (.ref C)) false:=ht.andThen L4
 refine wpAny_bind (L1.at ?_)
 rw[if_pos (by decide)]
 k_delta "plainIsInstance"
 unfold isType
 repeat lk
 unfold clsIn at e0
 split at e0
 ·rename_i ho
  refine nd_load (X _ _ ho) (nd_pure (wpAny_pure ?_))
  simp only[Bool.not_true,Bool.false_eq_true,if_false]
  refine wpAny_bind (L3.at ?_)
  simp only[Bool.false_eq_true,if_false]
  refine wpAny_bind (ca ?_)
  unfold clsIn at e5
  split at e5
  ·rename_i ho2
   have hl:∀{A:Around}{E:Value→Shared→Prop}{tk:Nat}{Q:Obj→Shared→Prop},Q _ ⟨hh,g,d,tk,os⟩→wpAny (model prog w) A (loadHead D) Q E ⟨hh,g,d,tk,os⟩:=fun q=>wpAny_loadPart (X _ _ ho2) q
   refine wpAny_bind (wpAny_bind (hl (wpAny_pure ?_)))
   simp only[Bool.not_true,Bool.false_eq_true,if_false]
   refine wpAny_bind (wpAny_rule ?_)
   refine L4.at ?_
   exact wpAny_pure h
  ·cases e5
 ·cases e0
theorem oX{Q:Value→Shared→Prop}(X:K.In s.heap)(I:W.InstAt s.heap x ox D (some od))(hb:D≠x)(e:isNotI K D C=true)(h:Q (.bool false) { s with toks:=s.toks+1 }) :
  wpAny (model prog w) A (call (.builtin "isinstance") [.ref x,.ref C]) Q E s :=
 call_isinstance (S:=fun _ R s=>(K.In s.heap∧W.InstAt s.heap x ox D (some od))∧R (.ok (.ret (.bool false))) { s with toks:=s.toks+1 })
  (fun _ _ _ _ _ hs=>isinstance_outer (HP hs.1.1 hs.1.2 hb e hs.2) (fun q=>by cases q)) ⟨⟨X,I⟩,h⟩
end
end
section
open PySem.Calls
noncomputable def CL(D C:Nat):List (Nat×Nat)→Bool
 |[]=>false
 |x::r=>(Nat.beq x.1 D&&Nat.beq x.2 C)||CL D C r
noncomputable def cW(C:Nat):List Nat→Bool
 |[]=>false
 |x::r=>Nat.beq x C||cW C r
theorem nF{D C:Nat}:∀{l:List (Nat×Nat)},CL D C l=true→(D,C)∈l
 |[],h=>by cases h
 |(a,b)::r,h=>by
  rcases Bool.or_eq_true_iff.mp h with h|h
  ·obtain⟨h1,h2⟩:=Bool.and_eq_true_iff.mp h
   have h1:a=D:=Nat.eq_of_beq_eq_true h1
   have h2:b=C:=Nat.eq_of_beq_eq_true h2
   subst h1;subst h2
   exact .head _
  ·exact .tail _ (nF h)
theorem eI{C:Nat}:∀{l:List Nat},cW C l=true→C∈l
 |[],h=>by cases h
 |a::r,h=>by
  rcases Bool.or_eq_true_iff.mp h with h|h
  ·have h:a=C:=Nat.eq_of_beq_eq_true h
   subst h;exact .head _
  ·exact .tail _ (eI h)
inductive ExcC(G:Gl)(C:Nat):Prop
 |mk(nm:Str)(q:Str)(N:Addr)(bs bm:List Value)(hdct:Bool)(sn:List Str)(sub:List Value)(ab:Bool)(col:Option Bool)(dd:Option Addr)(k0 k1 k2 k3 k5:Option Value)(l:G.K.lookup C=some (excClassObj nm q C N bs bm hdct sn sub ab col dd k0 k1 k2 k3 k5 "Exception.__new__"))(F:ExcBaseFacts "Exception" "Exception.__new__" "Exception.__init__" bm)
structure GOK2(G:Gl):Prop extends GOK G where
 is1:∀p∈G.is1,isIn G.K (.ref p.1) p.2=true
 is0:∀p∈G.is0,isNotI G.K p.1 p.2=true
 isn:∀C∈G.isn,isNotIn G.K "str" C=true
 exc:∀C,G.xc C=true→ExcC G C
noncomputable def AM(o:SO):M SV:=match o with
 |.list xs=>mIf (Nat.ble xs.length 100000) (aG (.int xs.length))
 |.clist xs=>bnd (xL xs) fun _=>aG (.int xs.length)
 |_=>aH
noncomputable def SD(v:SV):M SV:=match v with
 |.str x=>mIf (Nat.ble x.length 1000000) (aG (.int x.length))
 |.ref i=>bnd (cD (.ref i)) AM
 |.fz o=>bnd (cD (.fz o)) AM
 |_=>aH
noncomputable def isD(o:SO):Bool:=match o with
 |.idict _=>true
 |_=>false
noncomputable def XM(G:Gl)(C:Nat)(o:SO):M SV:=match o with
 |.inst D d=>bnd (bO d) fun d=>bif CL D C G.is1 then aG (.bool true)else mIf (CL D C G.is0) (bnd (bP d) fun o'=>mIf (isD o') (aG (.bool false)))
 |_=>aH
noncomputable def SH(G:Gl)(v:SV)(C:Nat):M SV:=match v with
 |.str _=>mIf (cW C G.isn) (aG (.bool false))
 |.ref i=>bnd (bP i) (XM G C)
 |_=>aH
noncomputable def NJ:List Str→Str→Nat→Option Nat
 |[],_,_=>none
 |x::r,k,j=>bif decide (x=k)then some j else NJ r k (j+1)
noncomputable def xR(v x:SV):M SV:=onS x fun k=>bnd (cD v) fun o=>mX o fun xs=>bnd (bO (mP xs)) fun ns=>bnd (bO (NJ ns k 0)) fun j=>mIf (Nat.blt j 1000) (aG (.int j))
noncomputable def MV(l:List (Str×Str))(y:Str):M SV:=match l with
 |[a,b]=>mIf (decide (y=BR)) (bJ (.list [.pce a.1 a.2,.pce b.1 b.2]))
 |_=>aH
noncomputable def xJ(v x:SV):M SV:=match v with
 |.txt l=>onS x (MV l)
 |.pce a b=>onS x fun y=>mIf (decide (y=sp1)) (bJ (.list [.str a,.str b]))
 |_=>aH
noncomputable def AU(sep:Str)(ns:List Str):Nat:=(ns.map (·.length)).sum+ns.length*sep.length
noncomputable def GS(v x:SV):M SV:=onS v fun sep=>bnd (cD x) fun o=>mX o fun xs=>bnd (bO (mP xs)) fun ns=>mIf (Nat.ble 2 ns.length&&Nat.ble (AU sep ns) 100000) (aG (.str (Builtin.Str.glued sep ns)))
noncomputable def GX(v x y:SV):M SV:=onS x fun k=>onN y (pO v fun o=>MK o fun m=>mIf (lkS m k).isNone (aG .none))
noncomputable def xT(G:Gl)(v:SV):M SV:=onX v fun _ C _ _ _=>mIf (G.xc C) (aG .none)
noncomputable def TE:Int→Option Str
 |.ofNat n=>bif Nat.blt n 10 then some ⟨#[48+n]⟩else bif Nat.beq n 2001 then some ⟨#[50,48,48,49]⟩else none
 |.negSucc 0=>some ⟨#[45,49]⟩
 |.negSucc (_+1)=>none
noncomputable def RX(v:SV):M SV:=onI v fun a=>bnd (bO (TE a)) fun s=>aG (.str s)
noncomputable def xM(v:SV):M SV:=onI v fun n=>bJ (.iter .range [.int 0,.int n,.int 1])
theorem oC{o:SO}:Grows (AM o):=by
 cases o with
 |list xs=>exact aD Grows.ret
 |clist xs=>exact Grows.bnd lR fun _=>Grows.ret
 |_=>exact aB
theorem DA{v:SV}:Grows (SD v):=by
 cases v with
 |str x=>exact aD Grows.ret
 |ref i=>exact Grows.bnd aV fun o=>oC
 |fz i=>exact Grows.bnd (m:=cD (.fz i)) aV fun o=>oC
 |_=>exact aB
theorem DB{G:Gl}{v:SV}{C:Nat}:Grows (SH G v C):=by
 cases v with
 |str x=>exact aD Grows.ret
 |ref i =>
  refine Grows.bnd aS fun o=>?_
  cases o with
  |inst D d =>
   refine Grows.bnd aL fun d=>?_
   cases CL D C G.is1
   ·exact aD (Grows.bnd aS fun o'=>aD Grows.ret)
   ·exact Grows.ret
  |_=>exact aB
 |_=>exact aB
theorem vH{v x:SV}:Grows (xR v x):=Grows.onS fun _=>Grows.bnd aV fun _=>Grows.onList fun _=>Grows.bnd aL fun _=>Grows.bnd aL fun _=>aD Grows.ret
theorem vA{v x:SV}:Grows (xJ v x):=by
 cases v with
 |txt l=>exact Grows.onS fun y=>by rcases l with _ | ⟨a,_ | ⟨b,_ | ⟨d,l⟩⟩⟩<;>first | exact aD aJ | exact aB
 |pce a b=>exact Grows.onS fun _=>aD aJ
 |_=>exact aB
theorem yD{v x:SV}:Grows (GS v x):=Grows.onS fun _=>Grows.bnd aV fun _=>Grows.onList fun _=>Grows.bnd aL fun _=>aD Grows.ret
theorem yE{v x y:SV}:Grows (GX v x y):=Grows.onS fun _=>Grows.onN (Grows.onRef fun _=>Grows.onSD fun _=>aD Grows.ret)
theorem vK{G:Gl}{v:SV}:Grows (xT G v):=Grows.onX fun _ _ _ _ _=>aD Grows.ret
theorem CU{v:SV}:Grows (RX v):=Grows.onI fun _=>Grows.bnd aL fun _=>Grows.ret
theorem vD{v:SV}:Grows (xM v):=Grows.onI fun _=>aJ
set_option tactic.hygienic true in
theorem NH{a:Int}{s:Str}(h:TE a=some s):s=Str.ofString (toString a)∧a.natAbs.log2<1920:=by
 unfold TE at h
 split at h
 ·rename_i n
  cases q:Nat.blt n 10 with
  |true =>
   rw[q]at h
   have q:n<10:=Nat.le_of_ble_eq_true q
   cases h
   have key:∀n:Fin 10,(⟨#[48+n.val]⟩:Str)=Str.ofString (toString (Int.ofNat n.val))∧(Int.ofNat n.val).natAbs.log2<1920:=by decide +kernel
   exact key ⟨n,q⟩
  |false =>
   rw[q]at h
   cases q2:Nat.beq n 2001 with
   |true =>
    rw[q2]at h
    have q2:n=2001:=Nat.eq_of_beq_eq_true q2
    subst q2
    cases h
    decide +kernel
   |false=>rw[q2]at h;cases h
 ·cases h;decide +kernel
 ·cases h
section
variable{G:Gl}{c:Ac}{ρ:Tr}{st:St}{s:Shared}
theorem SA.lenO (H : GOK G) (N : Now G c ρ st s.heap) {o : SO} {p : Addr} (ho : OR G ρ s.heap p o) : SA G c VR (call (.builtin "len") [.ref p]) (AM o) ρ st s := by
  have key : ∀ {xs : List SV}, ORl ρ s.heap p "list" xs → xs.length ≤ 100000 → ∀ {Q E}, (∀ z tk, VR ρ (.int xs.length) z → Q z { s with toks := tk }) → WP G c (call (.builtin "len") [.ref p]) Q E s := fun {xs} ⟨vs, n, e1, e2⟩ g Q E q => by
    have hl : xs.length = vs.size := e2.length
    exact call_len_list (items := vs) ⟨_, e1, rfl, n, rfl⟩ (by lia) (q _ _ ⟨_, by rw [hl]⟩)
  cases o with
  | list xs => exact SA.if fun g r st' hm hq Q E post => by cases hm; exact key ho (Nat.le_of_ble_eq_true g) fun z tk hz => post ρ { s with toks := tk } aF.toks N z hz
  | clist xs =>
    intro r st' hm hq Q E post
    cases hm
    obtain ⟨vs, n, e1, e2, -⟩ := ho
    exact key ⟨vs, n, e1, e2⟩ (H.vsmall _ (hq _ (.head _))) fun z tk hz => post ρ { s with toks := tk } aF.toks N.asked z hz
  | _ => exact SA.fail
theorem SA.len (H : GOK G) (N : Now G c ρ st s.heap) {v : SV} {a : Value} (hv : VR ρ v a) : SA G c VR (call (.builtin "len") [a]) (SD v) ρ st s := by
  cases v with
  | str x =>
    obtain ⟨t, rfl⟩ := hv
    refine SA.if fun g => SA.ret0 N (R := VR) (a := .int x.length) (b := .int x.length (s.toks + 1)) ⟨_, rfl⟩ fun Q E q => ?_
    exact PySem.P.len_str (Int.not_le.mpr (Int.lt_of_le_of_lt (Int.ofNat_le.mpr (Nat.le_of_ble_eq_true g)) (by decide : ((1000000 : Nat) : Int) < 2 ^ 63))) (q _)
  | ref i => exact SA.onLook (T := fun a => call (.builtin "len") [a]) N hv fun o p ho _ => SA.lenO H N ho
  | fz i => exact SA.onLook (T := fun a => call (.builtin "len") [a]) N hv fun o p ho _ => SA.lenO H N ho
  | _ => exact SA.fail
theorem SA.isi(H:GOK2 G)(N:Now G c ρ st s.heap){v:SV}{a:Value}(hv:VR ρ v a){C:Nat}:SA G c VR (call (.builtin "isinstance") [a,.ref C]) (SH G v C) ρ st s:=by
 have X:=N.rep.kin
 cases v with
 |str x =>
  obtain⟨t,rfl⟩:=hv
  exact SA.if fun g=>SA.ret0 N rfl fun Q E q=>isn_call (P:=fun _=>True) X (fun M=>Looks.of_pure rfl) (H.isn C (eI g)) (fun e=>nomatch e) trivial str_cls (q _)
 |ref i =>
  obtain⟨p,hp,rfl⟩:=hv
  refine SA.onObj fun o ho=>?_
  have q:=N.oat hp ho
  cases o with
  |inst D d =>
   refine SA.onOpt fun d hd=>?_
   subst hd
   obtain⟨dr,e1,dx,hdx,e5⟩:=q
   cases g:CL D C G.is1 with
   |true=>exact SA.ret0 N rfl fun Q E q=>isi_call X (fun M=>(Looks.ld e1).andThen .now) (H.is1 _ (nF g)) (fun e=>nomatch e) (q s.toks)
   |false =>
    refine SA.if fun g=>SA.onObj fun o' ho'=>SA.if fun g'=>SA.ret0 N rfl fun Q E q=>?_
    have hi:=H.is0 _ (nF g)
    cases o' with
    |idict m =>
     obtain⟨mr,es,ep,g1,g4,g5,g6⟩:=N.oat hdx ho'
     have I:W.InstAt s.heap p _ D (some _):=⟨e1,rfl,rfl,by rw[e5];exact g1⟩
     refine oX X I (fun z=>?_) hi (q _)
     subst z
     unfold isNotI at hi
     simp only[Bool.and_eq_true]at hi
     have hc:=hi.1.1.1.1.1.2
     unfold clsIn at hc
     rw[N.rep.off D (List.mem_of_getElem? hp)]at hc
     exact Bool.noConfusion hc
    |_=>exact Bool.noConfusion g'
  |_=>exact SA.fail
 |_=>exact SA.fail
theorem AW:∀{ns:List Str}{k:Str}{j i:Nat},NJ ns k j=some i→j≤i∧ns[i - j]?=some k∧∀m y,m<i - j→ns[m]?=some y→y≠k
 |[],_,_,_,h=>by cases h
 |x::r,k,j,i,h=>by
  have h:(bif decide (x=k)then some j else NJ r k (j+1))=some i:=h
  by_cases e:x=k
  ·rw[decide_eq_true e]at h;cases h
   exact⟨Nat.le_refl _,by simp[e],fun m y hm=>absurd (Nat.sub_self j▸hm) (Nat.not_lt_zero m)⟩
  ·rw[decide_eq_false e]at h
   obtain⟨h1,h2,h3⟩:=AW (ns:=r) h
   have:i - j=i - (j+1)+1:=(Nat.succ_pred_eq_of_pos (Nat.sub_pos_of_lt h1)).symm
   refine⟨Nat.le_of_succ_le h1,by rw[this,List.getElem?_cons_succ];exact h2,fun m y hm hy=>?_⟩
   cases m with
   |zero=>simp at hy;subst hy;exact e
   |succ m=>rw[List.getElem?_cons_succ]at hy;exact h3 m y (Nat.lt_of_succ_lt_succ (Nat.lt_of_lt_of_eq hm this)) hy
theorem lL:∀{vs:List Value}{ns:List Str},StrsAre vs ns→∀{m:Nat}{v:Value},vs[m]?=some v→∃y t,ns[m]?=some y∧v = .str y t
 |_,_,.nil,m,v,h=>by simp at h
 |_,_,.cons n t h,0,v,e=>by simp at e;subst e;exact⟨n,t,rfl,rfl⟩
 |_,_,.cons n t h,m+1,v,e=>by rw[List.getElem?_cons_succ]at e ⊢;exact lL h e
theorem lK : ∀ {vs : List Value} {ns : List Str}, StrsAre vs ns → vs.length = ns.length
  | _, _, .nil => rfl
  | _, _, .cons n t h => congrArg (· + 1) (lK h)
theorem SA.index (H : GOK G) (N : Now G c ρ st s.heap) {v x : SV} {a b : Value} (hv : VR ρ v a) (hx : VR ρ x b) : SA G c VR (call (.builtin "list.index") [a, b]) (xR v x) ρ st s := by
  refine SA.onS (T := fun b => call (.builtin "list.index") [a, b]) hx fun k t => SA.onLook (T := fun a => call (.builtin "list.index") [a, _]) N hv fun o p ho _ => SA.onList ho fun xs vs n _ e1 e2 => SA.onOpt fun ns hn => SA.onOpt fun j hj => SA.if fun g => ?_
  have S := gE hn e2
  obtain ⟨-, h2, h3⟩ := AW hj
  rw [Nat.sub_zero] at h2 h3
  have hl : vs.size = ns.length := lK S
  have hjl : j < vs.size := by rw [hl]; exact (List.getElem?_eq_some_iff.mp h2).1
  have ev : ∀ m (hm : m < vs.size), ∃ t', vs[m] = .str (ns[m]'(hl ▸ hm)) t' := fun m hm => by
    obtain ⟨y, t', h4, h5⟩ := lL S (show vs.toList[m]? = some vs[m] by rw [Array.getElem?_toList, Array.getElem?_eq_getElem hm])
    rw [List.getElem?_eq_getElem (hl ▸ hm)] at h4
    exact ⟨t', Option.some.inj h4 ▸ h5⟩
  refine SA.ret0 N (R := VR) (a := .int j) (b := .int j s.toks) ⟨_, rfl⟩ fun Q E q => ?_
  refine call_meets PySem.F.slot_list_index ⟨_, e1, rfl⟩ PySem.F.entry_list_index (PySem.F.args_list_index_2 _ _)
    (MeetsSeq.list_index p vs n (.str k t) (isStrOf k) (fun y hy => eq_isStrOf k t S y (by simpa using hy)) j hjl (Int.lt_of_lt_of_le (Int.ofNat_lt.mpr (Nat.le_of_ble_eq_true g)) (by decide : ((1000 : Nat) : Int) ≤ 2 ^ 63 - 1)) ?_ fun m hm hmj => ?_)
    ⟨e1, q _⟩
  · obtain ⟨t', h5⟩ := ev j hjl
    rw [List.getElem?_eq_getElem (hl ▸ hjl)] at h2
    rw [h5, Option.some.inj h2]; simp [isStrOf]
  · obtain ⟨t', h5⟩ := ev m hm
    have := h3 m _ hmj (List.getElem?_eq_getElem (hl ▸ hm))
    rw [h5]
    simp [isStrOf, this]
end
end
section
open PySem.Calls
theorem mJ(a b:Str):(a++b).cps.toList=a.cps.toList++b.cps.toList:=by show(a.cps++b.cps).toList=_;simp
theorem lD(a:Str×Str):(pieceOf a).cps.toList=a.1.cps.toList++32::a.2.cps.toList:=by
 unfold pieceOf;rw[mJ,mJ];simp[sp1]
theorem tS(a:Str×Str)(h1:wH a.1)(h2:wH a.2):59∉(pieceOf a).cps.toList:=by
 rw[lD,List.mem_append,List.mem_cons]
 rintro(h|h|h)
 ·exact h1.2.2 h
 ·cases h
 ·exact h2.2.2 h
theorem lJ:∀{vs:List Value}{ns:List Str},StrsAre vs ns→∃l:List (Str×Tok),PySem.strValues l=vs∧l.map (·.1)=ns
 |_,_,.nil=>⟨[],rfl,rfl⟩
 |_,_,.cons n t h=>by
  obtain⟨l,h1,h2⟩:=lJ h
  exact⟨(n,t)::l,by rw[←h1];rfl,by rw[←h2];rfl⟩
theorem vV(k:Nat):∀(l:List Str)(i:Nat),l.foldl (fun n s=>n+s.length+k) i=i+(l.map (·.length)).sum+l.length*k
 |[],i=>by simp
 |x::r,i=>by
  rw[List.foldl_cons,vV k r]
  simp only[List.map_cons,List.sum_cons,List.length_cons,Nat.succ_mul]
  lia
section
variable{G:Gl}{c:Ac}{ρ:Tr}{st:St}{s:Shared}
theorem KN(p q:Str×Str):(aO [p,q]).length=(pieceOf p).length+1+(pieceOf q).length:=by
 show((pieceOf p).cps++BR.cps++(pieceOf q).cps).size=_
 rw[Array.size_append,Array.size_append];rfl
theorem SA.split(H:GOK G)(N:Now G c ρ st s.heap){v x:SV}{a b:Value}(hv:VR ρ v a)(hx:VR ρ x b):SA G c VR (call (.builtin "str.split") [a,b]) (xJ v x) ρ st s:=by
 cases v with
 |txt l =>
  obtain⟨t,rfl,⟨-,hl⟩,hw⟩:=hv
  refine SA.onS (T:=fun b=>call (.builtin "str.split") [_,b]) hx fun y u=>?_
  rcases l with _|⟨p,_|⟨q,_|⟨d,l⟩⟩⟩
  ·exact SA.fail
  ·exact SA.fail
  ·refine SA.if fun g=>?_
   have g:y=BR:=of_decide_eq_true g
   subst g
   have hp:=hw p (.head _)
   have hq2:=hw q (.tail _ (.head _))
   have hl2:=KN p q▸hl
   exact SA.alloc H N (o:={ cls:=.type "list",data:=.seq #[.str (pieceOf p) s.toks,.str (pieceOf q) (s.toks+1)] }) (tk:=s.toks+2) (so:=.list [.pce p.1 p.2,.pce q.1 q.2]) rfl (aP rfl) (aP rfl)
    ⟨_,_,Heap.get?_push_size _ rfl,⟨_,rfl,⟨hp.1,hp.2⟩,Nat.le_trans (Nat.le_trans (Nat.le_succ _) (Nat.le_add_right _ _)) hl2⟩,⟨_,rfl,⟨hq2.1,hq2.2⟩,Nat.le_trans (Nat.le_add_left _ _) hl2⟩,trivial⟩
    fun Q E z=>pJ (c:=59) (by decide) rfl (tS p hp.1 hp.2) (tS q hq2.1 hq2.2) hl z
  ·exact SA.fail
 |pce p q =>
  obtain⟨t,rfl,⟨h1,h2⟩,hl⟩:=hv
  refine SA.onS (T:=fun b=>call (.builtin "str.split") [_,b]) hx fun y u=>SA.if fun g=>?_
  have g:y=sp1:=of_decide_eq_true g
  subst g
  exact SA.alloc H N (o:={ cls:=.type "list",data:=.seq #[.str p s.toks,.str q (s.toks+1)] }) (tk:=s.toks+2) (so:=.list [.str p,.str q]) rfl (aP rfl) (aP rfl)
   ⟨_,_,Heap.get?_push_size _ rfl,⟨_,rfl⟩,⟨_,rfl⟩,trivial⟩ fun Q E z=>pJ (c:=32) (by decide) rfl h1.2.1 h2.2.1 hl z
 |_=>exact SA.fail
theorem SA.join(H:GOK G)(N:Now G c ρ st s.heap){v x:SV}{a b:Value}(hv:VR ρ v a)(hx:VR ρ x b):SA G c VR (call (.builtin "str.join") [a,b]) (GS v x) ρ st s:=by
 refine SA.onS (T:=fun a=>call (.builtin "str.join") [a,b]) hv fun sep t=>SA.onLook (T:=fun b=>call (.builtin "str.join") [_,b]) N hx fun o p ho _=>SA.onList ho fun xs vs n _ e1 e2=>SA.onOpt fun ns hn=>SA.if fun g=>SA.ret0 N (R:=VR) (a:=.str (Builtin.Str.glued sep ns)) (b:=.str (Builtin.Str.glued sep ns) s.toks) ⟨_,rfl⟩ fun Q E q=>?_
 have g1:=Nat.le_of_ble_eq_true (aN g).1
 have g2:=Nat.le_of_ble_eq_true (aN g).2
 obtain⟨l,h1,h2⟩:=lJ (gE hn e2)
 have ll:l.length=ns.length:=by rw[←h2,List.length_map]
 have e3:vs=(PySem.strValues l).toArray:=by rw[h1]
 unfold AU at g2
 have sg:=size_glued sep ns
 have hle:(ns.length - 1)*sep.length≤ns.length*sep.length:=Nat.mul_le_mul_right _ (Nat.sub_le _ _)
 have post':=q (s.toks+1)
 rw[←h2]at post'
 refine join_list l (ll▸g1) ?_ (by rw[h2,sizeLine_eq];lia) e1 rfl (by rw[e3]) post'
 rw[h2]
 show decide (_>sizeLine)=false
 refine decide_eq_false ?_
 rw[sizeLine_eq,List.foldl_toArray,vV]
 lia
theorem SA.str(H:GOK G)(N:Now G c ρ st s.heap){v:SV}{a:Value}(hv:VR ρ v a):SA G c VR (call (.type "str") [a]) (RX v) ρ st s :=
 SA.onI (T:=fun a=>call (.type "str") [a]) hv fun i t=>SA.onOpt fun x hx=>by
  obtain⟨rfl,h2⟩:=NH hx
  exact SA.ret0 N (R:=VR) (a:=.str _) ⟨_,rfl⟩ fun Q E q=>PySem.P.str_of_int h2 (q _)
theorem SA.range(H:GOK G)(N:Now G c ρ st s.heap){v:SV}{a:Value}(hv:VR ρ v a):SA G c VR (call (.type "range") [a]) (xM v) ρ st s :=
 SA.onI (T:=fun a=>call (.type "range") [a]) hv fun n t =>
  SA.alloc H N (o:={ cls:=.type "range",data:=.fields #[.int 0 s.toks,.int n t,.int 1 (s.toks+1)] }) (tk:=s.toks+1+1) rfl (aP rfl) (aP rfl) ⟨_,Heap.get?_push_size _ rfl,⟨_,rfl⟩,⟨_,rfl⟩,⟨_,rfl⟩,trivial⟩ fun Q E z=>call_range_1 z
end
end
section
open PySem.Calls
section
variable{G:Gl}{c:Ac}{ρ ρ':Tr}{st:St}{s:Shared}{h:Heap}{objs:List SO}
noncomputable def Tr.frz(ρ:Tr)(a:Addr)(o:SO):Tr:=⟨ρ.a,(a,o)::ρ.z⟩
theorem Tr.le_frz{a:Addr}{o:SO}:Tr.Le ρ (ρ.frz a o):=⟨⟨[],by simp[Tr.frz]⟩,fun x h=>.tail _ h⟩
theorem OR.le(L:Tr.Le ρ ρ'){a:Addr}{so:SO}(x:OR G ρ h a so):OR G ρ' h a so:=x.keep L (fun _ e=>e) (fun b o e _=>⟨o,e,Eqv.refl o⟩)
theorem Rep.freeze(R:Rep G ρ objs h){i:Nat}{a:Addr}{so o0:SO}(hi:ρ.a[i]?=some a)(ho:objs[i]?=some o0)(new:OR G (ρ.frz a so) h a so)(hc:clO so=true):Rep G (ρ.frz a so) (objs.set i .dead) h:=by
 have hm:=List.mem_of_getElem? hi
 refine⟨R.kin,by rw[List.length_set];exact R.len,R.nodup,R.off,R.low,R.nofr,fun j o b hj hb=>?_,fun b o hz=>?_,R.bn⟩
 ·by_cases z:i=j
  ·subst z
   rw[List.getElem?_set]at hj
   simp only[if_true]at hj
   split at hj
   ·cases hj;trivial
   ·cases hj
  ·rw[List.getElem?_set_ne z]at hj
   exact(R.ob j o b hj hb).le Tr.le_frz
 ·have dead:∀j:Nat,ρ.a[j]?=some a→(objs.set i .dead)[j]?=some SO.dead:=fun j hj=>by
   obtain⟨li,ei⟩:=List.getElem?_eq_some_iff.mp hi
   obtain⟨lj,ej⟩:=List.getElem?_eq_some_iff.mp hj
   have:i=j:=dD R.nodup li lj (ei.trans ej.symm)
   subst this
   rw[List.getElem?_set_self (List.getElem?_eq_some_iff.mp ho).1]
  rcases List.mem_cons.mp hz with e|hz
  ·cases e
   exact⟨new,⟨hc,R.low a hm⟩,R.nofr a hm,dead⟩
  ·obtain⟨r1,r2,r3,r6⟩:=R.fz b o hz
   refine⟨r1.le Tr.le_frz,r2,r3,fun j hj=>?_⟩
   have:=r6 j hj
   by_cases z:i=j
   ·subst z
    rw[List.getElem?_set_self (List.getElem?_eq_some_iff.mp this).1]
   ·rw[List.getElem?_set_ne z];exact this
theorem FrR.le (L:Tr.Le ρ ρ'){A:Addr}{vars:List Str}{loc:List (Option SV)}(x:FrR ρ h A vars loc):FrR ρ' h A vars loc:=x.keep L fun o e=>⟨o,e,rfl,rfl⟩
theorem Now.freeze (N:Now G c ρ st h){i:Nat}{a:Addr}{so o0:SO}(hi:ρ.a[i]?=some a)(ho:st.objs[i]?=some o0)(new:OR G (ρ.frz a so) h a so)(hc:clO so=true) :
    Now G c (ρ.frz a so) { st with objs:=st.objs.set i .dead } h:=⟨N.frames,N.depth,N.units,N.hd,N.rep.freeze hi ho new hc,N.fr.le Tr.le_frz,N.frs,N.lo.1,fun o hz=>by
      rcases List.mem_cons.mp hz with e|hz
      · exact N.lo.1 (by have:c.env.locals=a:=congrArg Prod.fst e
                         rw [this];exact List.mem_of_getElem? hi)
      · exact N.lo.2.1 o hz,N.lo.2.2⟩
theorem aF.freeze{L:Addr}{i:Nat}{a:Addr}{so:SO}(hi:ρ.a[i]?=some a):aF L ρ s (ρ.frz a so) s :=
 ⟨⟨[],by simp[Tr.frz],by simp⟩,fun x h=>.tail _ h,fun x hx=>by
  rcases List.mem_cons.mp hx with e|hx
  ·subst e;exact .inr (.inl (List.mem_of_getElem? hi))
  ·exact .inl hx,Same.refl _ _,fun _ o e=>⟨o,e,Kept.refl o⟩,rfl,rfl⟩
noncomputable def SJ(f:SO→Bool)(v:SV)(i:Nat)(o:SO):M SV:=bif f o then bnd (eX i .dead) fun _=>aG (.fz o)else aG v
noncomputable def mFz(f:SO→Bool)(v:SV):M SV:=match v with
 |.ref i=>bnd (bP i) (SJ f v i)
 |_=>aG v
noncomputable def isT(o:SO):Bool:=match o with
 |.tuple xs=>xs.all clV
 |_=>false
noncomputable def jS(v:SV):M SV:=mFz isT v
theorem IG{f:SO→Bool}{v:SV}:Grows (mFz f v):=by
 cases v with
 |ref i =>
  refine Grows.bnd aS fun o=>?_
  unfold SJ
  cases f o
  ·exact Grows.ret
  ·exact Grows.bnd aZ fun _=>Grows.ret
 |_=>exact Grows.ret
theorem gO{v:SV}:Grows (jS v):=IG
theorem SA.fz(N:Now G c ρ st s.heap){f:SO→Bool}(hf:∀o,f o=true→clO o=true){v:SV}{x:Value}(hv:VR ρ v x):SA G c VR (Pure.pure x) (mFz f v) ρ st s:=by
 cases v with
 |ref i =>
  obtain⟨a,ha,rfl⟩:=id hv
  refine SA.onObj fun o ho=>?_
  unfold SJ
  cases g:f o with
  |true =>
   intro r st' hm hq Q E post
   cases hm
   exact wpAny_pure (post _ s (aF.freeze ha) (N.freeze ha ho (so:=o) ((N.oat ha ho).le Tr.le_frz) (hf o g)) _ ⟨a,.head _,rfl⟩)
  |false=>exact SA.pure N hv
 |_=>exact SA.pure N hv
theorem TA(o:SO)(h:isT o=true):clO o=true:=by
 cases o with
 |tuple xs=>exact h
 |_=>exact Bool.noConfusion h
theorem SA.freeze(N:Now G c ρ st s.heap){v:SV}{x:Value}(hv:VR ρ v x):SA G c VR (Pure.pure x) (jS v) ρ st s:=SA.fz N TA hv
noncomputable def jT(v x:SV):M SV:=bnd (jS x) fun y=>rY v y
theorem cF{v x:SV}:Grows (jT v x):=Grows.bnd gO fun _=>kC
theorem SA.appendF(H:GOK G)(N:Now G c ρ st s.heap){v x:SV}{a b:Value}(hv:VR ρ v a)(hx:VR ρ x b):SA G c VR (call (.builtin "list.append") [a,b]) (jT v x) ρ st s:=by
 refine SA.eq (t':=(Pure.pure b>>=fun b=>call (.builtin "list.append") [a,b])) rfl ?_
 exact SA.bind (fun _=>kC) (SA.freeze N hx) fun ρ₁ st₁ s₁ y b' S N₁ _ hy=>SA.append H N₁ (S.vr hv) hy
theorem Rep.reset(R:Rep G ρ objs h){i:Nat}{a:Addr}{so o0:SO}(hi:ρ.a[i]?=some a)(ho:objs[i]?=some o0)(hd:o0≠.dead)(new:OR G ρ h a so):Rep G ρ (objs.set i so) h:=by
 refine⟨R.kin,by rw[List.length_set];exact R.len,R.nodup,R.off,R.low,R.nofr,fun j o b hj hb=>?_,fun b o hz=>?_,R.bn⟩
 ·by_cases z:i=j
  ·subst z
   rw[List.getElem?_set_self (List.getElem?_eq_some_iff.mp ho).1]at hj
   cases hj
   rw[hi]at hb;cases hb
   exact new
  ·rw[List.getElem?_set_ne z]at hj
   exact R.ob j o b hj hb
 ·obtain⟨r1,r2,r3,r6⟩:=R.fz b o hz
  refine⟨r1,r2,r3,fun j hj=>?_⟩
  have q:=r6 j hj
  by_cases z:i=j
  ·subst z;rw[ho]at q;cases q;exact absurd rfl hd
  ·rw[List.getElem?_set_ne z];exact q
theorem Now.reset(N:Now G c ρ st h){i:Nat}{a:Addr}{so o0:SO}(hi:ρ.a[i]?=some a)(ho:st.objs[i]?=some o0)(hd:o0≠.dead)(new:OR G ρ h a so):Now G c ρ { st with objs:=st.objs.set i so } h :=
 ⟨N.frames,N.depth,N.units,N.hd,N.rep.reset hi ho hd new,N.fr,N.frs,N.lo⟩
noncomputable def aAw(i:Nat)(v:SV)(j:Nat)(o:SO):M SV:=mW o fun ys=>mIf (ys.all clV&&!Nat.beq i j) (bnd (eX j .dead) fun _=>bnd (eX i (.clist [.fz (.tuple ys)])) fun _=>aG v)
noncomputable def SI(i:Nat)(v:SV)(l:List SV):M SV:=match l with
 |[]=>bnd (eX i (.clist [])) fun _=>aG v
 |[x]=>tV x (aAw i v)
 |_=>aH
noncomputable def XN(v:SV)(i:Nat)(o:SO):M SV:=match o with
 |.list xs=>SI i v xs
 |_=>jS v
noncomputable def GU(v:SV):M SV:=match v with
 |.ref i=>bnd (bP i) (XN v i)
 |_=>aG v
noncomputable def HS(l:List Ora):Bool:=match l with
 |w::_=>Nat.beq w.lp 999999
 |[]=>false
noncomputable def xS(v:SV):M SV:=fun st=>bif HS st.orc then GU v { st with orc:=st.orc.tail,qs:=.small []::st.qs }else some (.ok v,st)
theorem DC{i:Nat}{v:SV}{xs:List SV}:Grows (SI i v xs):=by
 rcases xs with _|⟨a,_|⟨b,l⟩⟩
 ·exact Grows.bnd aZ fun _=>Grows.ret
 ·exact Grows.onRi fun _ _=>Grows.onTup fun _=>aD (Grows.bnd aZ fun _=>Grows.bnd aZ fun _=>Grows.ret)
 ·exact aB
theorem DD{v:SV}:Grows (GU v):=by
 cases v with
 |ref i =>
  refine Grows.bnd aS fun o=>?_
  cases o with
  |list xs=>exact DC
  |_=>exact gO
 |_=>exact Grows.ret
theorem vJ{v:SV}:Grows (xS v):=fun s r s' h=>by
 have h:(bif HS s.orc then GU v { s with orc:=s.orc.tail,qs:=.small []::s.qs }else some (.ok v,s))=some (r,s'):=h
 cases q:HS s.orc with
 |true =>
  rw[q]at h
  obtain⟨l,hl⟩:=DD _ r s' h
  exact⟨l++[.small []],by rw[hl,List.append_assoc];rfl⟩
 |false=>rw[q]at h;cases h;exact⟨[],rfl⟩
theorem SA.goL(N:Now G c ρ st s.heap){i:Nat}{a:Addr}(hv:VR ρ (.ref i) (.ref a))(ha:ρ.a[i]?=some a){xs:List SV}(ho:st.objs[i]?=some (.list xs)):SA G c VR (Pure.pure (.ref a)) (SI i (.ref i) xs) ρ st s:=by
 obtain⟨vs,n,e1,e2⟩:=N.oat ha ho
 rcases xs with _|⟨w,_|⟨w2,l⟩⟩
 ·exact SA.putR hv fun Q E post=>wpAny_pure (post s aF.refl (N.reset ha ho (fun q=>nomatch q) ⟨vs,n,e1,e2,fun _ h=>nomatch h⟩))
 ·obtain⟨x,hx,hr⟩:=e2.one
  refine SA.onRi (T:=fun _=>(Pure.pure (Value.ref a):Sem Value)) hr fun j o b ew hb ho2=>SA.onTup (N.oat hb ho2) fun ys q2 eo=>SA.if fun g r st' hm hq Q E post=>?_
  subst ew
  have g1:=(aN g).1
  have ne:i≠j:=fun z=>by
   have g2:=(aN g).2
   rw[z,show Nat.beq j j=true from Nat.beq_refl j]at g2;exact Bool.noConfusion g2
  cases hm
  have N1:=N.freeze hb ho2 (so:=.tuple ys) (q2.le Tr.le_frz) g1
  have ho':(st.objs.set j .dead)[i]?=some (.list [.ref j]):=by rw[List.getElem?_set_ne (Ne.symm ne)];exact ho
  obtain⟨b',hb',rfl⟩:=hr
  have eb:b=b':=Option.some.inj (hb.symm.trans hb')
  have N2:=N1.reset (so:=.clist [.fz (.tuple ys)]) ha ho' (fun q=>nomatch q) ⟨vs,n,e1,by rw[hx];exact⟨⟨b',eb▸.head _,rfl⟩,trivial⟩,fun z hz=>by rw[List.mem_singleton.mp hz];rfl⟩
  exact wpAny_pure (post _ s (aF.freeze hb) N2 _ (hv.mono Tr.le_frz))
 ·exact SA.fail
theorem SA.gho(N:Now G c ρ st s.heap){v:SV}{x:Value}(hv:VR ρ v x):SA G c VR (Pure.pure x) (GU v) ρ st s:=by
 cases v with
 |ref i =>
  obtain⟨a,ha,rfl⟩:=id hv
  refine SA.onObj fun o ho=>?_
  cases o with
  |list xs=>exact SA.goL N hv ha ho
  |_=>exact SA.freeze N hv
 |_=>exact SA.pure N hv
theorem SA.ghost(N:Now G c ρ st s.heap){v:SV}{x:Value}(hv:VR ρ v x):SA G c VR (Pure.pure x) (xS v) ρ st s:=fun r st' hm=>by
 have hm:(bif HS st.orc then GU v { st with orc:=st.orc.tail,qs:=.small []::st.qs }else some (.ok v,st))=some (r,st'):=hm
 cases q:HS st.orc with
 |true=>rw[q]at hm;exact SA.gho (st:={ st with orc:=st.orc.tail,qs:=.small []::st.qs }) N.asked hv r st' hm
 |false=>rw[q]at hm;exact SA.pure N hv r st' hm
end
end
section
open PySem.Calls
noncomputable def XT(m:List (List SV×SV))(k:List (Str⊕Bool)):M SV:=FI fun v=>oT (.get m k v) v
noncomputable def AQ(m:List (List SV×SV))(k:List (Str⊕Bool)):M Unit:=oT (.absent m k) ()
theorem DI{m:List (List SV×SV)}{k:List (Str⊕Bool)}:Grows (XT m k):=Grows.oraV fun _=>bU
theorem sL{m:List (List SV×SV)}{k:List (Str⊕Bool)}:Grows (AQ m k):=bU
noncomputable def GZ(v x:SV):M SV:=pO v fun o=>MJ o fun m=>bnd (cD x) fun o2=>mW o2 fun kk=>bnd (bO (iS kk)) fun k=>XT m k
noncomputable def BY(m:List (Str×SV))(k:Str)(v:SV):List (Str×SV) :=
 bif (lkS m k).isSome then m.map (fun e=>bif decide (e.1=k)then(e.1,v)else e)else m++[(k,v)]
noncomputable def XE(i:Nat)(v:SV)(y:SO):M Unit:=mW y fun kk=>bnd (bO (iS kk)) fun k=>bnd (bP i) fun o=>MJ o fun m=>mIf (clV v) (bnd (AQ m k) fun _=>eX i (.tdict (m++[(kk,v)])))
noncomputable def GO(i:Nat)(v:SV)(y:SV):M Unit:=match y with
 |.fz o=>XE i v o
 |_=>aH
noncomputable def MU(k v:SV)(i:Nat)(o:SO):M Unit:=match o with
 |.sdict m=>onS k fun x=>mIf (Nat.ble m.length 1000) (eX i (.sdict (BY m x v)))
 |.tdict _=>bnd (jS k) fun y=>GO i v y
 |_=>aH
noncomputable def rN(o k v:SV):M Unit:=tV o (MU k v)
theorem yG{v x:SV}:Grows (GZ v x):=Grows.onRef fun _=>Grows.onTD fun _=>Grows.bnd aV fun _=>Grows.onTup fun _=>Grows.bnd aL fun _=>DI
theorem nZ{i:Nat}{v y:SV}:Grows (GO i v y):=by
 cases y with
 |fz o=>exact Grows.onTup fun _=>Grows.bnd aL fun _=>Grows.bnd aS fun _=>Grows.onTD fun _=>aD (Grows.bnd sL fun _=>aZ)
 |_=>exact aB
theorem gL{o k v:SV}:Grows (rN o k v):=Grows.onRi fun i o=>by
 cases o with
 |sdict m=>exact Grows.onS fun _=>aD aZ
 |tdict m=>exact Grows.bnd gO fun _=>nZ
 |_=>exact aB
section
variable{G:Gl}{c:Ac}{ρ ρ':Tr}{st:St}{s:Shared}{h:Heap}
theorem NF{x:SV}{k:Str⊕Bool}(h:SY x=some k){v:Value}(hv:VR ρ x v):lQ k v=true:=by
 cases x with
 |str a=>cases h;obtain⟨t,rfl⟩:=hv;simp[lQ,Value.isStrOf]
 |txt l=>cases h;obtain⟨t,rfl,_⟩:=hv;simp[lQ,Value.isStrOf]
 |bool b=>cases h;cases hv;simp[lQ]
 |_=>cases h
set_option tactic.hygienic true in
theorem uX:∀{kk:List SV}{ks:List (Str⊕Bool)}{vs:List Value},iS kk=some ks→aK (VR ρ) kk vs→ItemsAre (AE G.prog G.w) ks vs
 |[],_,[],h,_=>by cases h;exact .nil
 |x::r,ks,v::vs,h,a=>by
  obtain⟨k,l,hk,hl,rfl⟩:=zU (show mV (SY x) (iS r)=_ from h)
  exact .cons (NF hk a.1) (uX hl a.2)
 |[],_,_::_,_,a=>a.elim
 |_::_,_,[],_,a=>a.elim
theorem kN{a:Addr}{kk:List SV}{ks:List (Str⊕Bool)}(q:OR G ρ h a (.tuple kk))(hk:iS kk=some ks):G.tk.is h ks a:=by
 obtain⟨vs,n,e1,e2⟩:=q
 exact⟨_,vs,n,e1,rfl,rfl,uX hk e2⟩
theorem wJ:∀{m:List (List SV×SV)}{xs:List (List (Str⊕Bool)×Addr×Value)},UP ρ m xs→∀k,match getT m k with|some v=>∃a y,atKey xs k=some (a,y)∧VR ρ v y|none=>atKey xs k=none
 |[],[],_,k=>rfl
 |(kk,v)::m,(ks,a,y)::xs,⟨⟨e,h1,h2,h3⟩,h4⟩,k=>by
  have e:iS kk=some ks:=e
  by_cases z:ks=k
  ·subst z
   have e1:getT ((kk,v)::m) ks=some v:=by show(bif decide (iS kk=some ks)then some v else getT m ks)=_;rw[decide_eq_true e];rfl
   have e2:atKey ((ks,a,y)::xs) ks=some (a,y):=by simp[atKey]
   rw[e1,e2];exact⟨a,y,rfl,h1⟩
  ·have e1:getT ((kk,v)::m) k=getT m k:=by show(bif decide (iS kk=some k)then some v else getT m k)=_;rw[decide_eq_false fun q=>z (Option.some.inj (e.symm.trans q))];rfl
   have e2:atKey ((ks,a,y)::xs) k=atKey xs k:=by simp[atKey,z]
   rw[e1,e2];exact wJ h4 k
 |[],_::_,h,_=>h.elim
 |_::_,[],h,_=>h.elim
theorem aK.mem_right{α β:Type}{R:α→β→Prop}:∀{l:List α}{r:List β},aK R l r→∀x∈r,∃e∈l,R e x
 |[],[],_,x,hx=>by cases hx
 |a::l,b::r,h,x,hx=>by
  rcases List.mem_cons.mp hx with rfl|hx
  ·exact⟨a,.head _,h.1⟩
  ·obtain⟨e,he,hr⟩:=aK.mem_right h.2 x hx;exact⟨e,.tail _ he,hr⟩
 |[],_::_,h,_,_=>h.elim
 |_::_,[],h,_,_=>h.elim
theorem Now.tab (N:Now G c ρ st s.heap){p:Addr}{es:Array DictEntry}{ep:Nat}{m:List (List SV×SV)}{xs:List (List (Str⊕Bool)×Addr×Value)}(e1:s.heap.get? p=some { cls:=.type "dict",data:=.dict es ep })
  (e2:es.toList=xs.map (entryOfKey G.tk))(e3:(xs.map (·.1)).Nodup)(e4:UP ρ m xs):s.heap.DictOfH G.tk p xs:=by
 refine ⟨_,es,ep,e1,⟨rfl,rfl,rfl⟩,rfl,e2,fun x hx=>?_,e3⟩
 obtain ⟨e,he,h1,h2,h3,h4⟩:=aK.mem_right e4 x hx
 exact kN (N.rep.fz _ _ h3).1 h1
theorem SA.dget (H:GOK G)(N:Now G c ρ st s.heap){v x:SV}{a b:Value}(hv:VR ρ v a)(hx:VR ρ x b):SA G c VR (call (.builtin "dict.get") [a,b]) (GZ v x) ρ st s:=by
 refine SA.onRef (T:=fun a=>call (.builtin "dict.get") [a,b]) hv fun i o p hp ho=>SA.onTD (N.oat hp ho) fun m q _=>SA.onLook (T:=fun b=>call (.builtin "dict.get") [_,b]) N hx fun o2 p2 ho2 _=>SA.onTup ho2 fun kk ho2 _=>SA.onOpt fun k hk=>SA.oraV N fun v st N'=>SA.push N' fun hv Q E post=>?_
 obtain ⟨xs,es,ep,e1,e2,e3,e4⟩:=q
 have hd:=N.tab e1 e2 e3 e4
 have lo:(p==sysModules)=false:=beq_eq_false_iff_ne.mpr fun z=>absurd (z▸N.rep.low p (List.mem_of_getElem? hp)) (by decide)
 refine call_meetsIn PySem.F.slot_dict_get hd.typeIs PySem.F.entry_dict_get (PySem.F.args_dict_get_2 _ _) (meetsH_dict_get G.tk p p2 lo) ⟨N.room (by decide:1≤12),k,xs,kN ho2 hk,hd,post _ _ ?_⟩
 rw [← H.vget _ _ _ hv]
 have z:=wJ e4 k
 cases hu:getT m k with
 | some u =>
  rw [hu] at z
  obtain ⟨a,y,h1,h2⟩:=z
  rw [h1];exact h2
 | none=>rw [hu] at z;rw [z];rfl
theorem Now.dset(H:GOK G)(N:Now G c ρ st s.heap){i:Nat}{p:Addr}{so:SO}(hp:ρ.a[i]?=some p)(hl:lI st.objs i){es:Array DictEntry}{ep:Nat}{h':Heap}
  (e1:s.heap.get? p=some { cls:=.type "dict",data:=.dict es ep })(sb:Heap.SameBut p s.heap h'){es':Array DictEntry}{ep':Nat}(e2:h'.get? p=some { cls:=.type "dict",data:=.dict es' ep' })
  (new:OR G ρ h' p so){tk:Nat}:aF c.env.locals ρ s ρ { s with heap:=h',toks:=tk }∧Now G c ρ { st with objs:=st.objs.set i so } h':=by
 have oth:∀b o,s.heap.get? b=some o→b≠p→bW h' b o:=fun b o ho hb=>⟨o,(sb.2 b hb).trans ho,Eqv.refl o⟩
 have hcl:∀o,s.heap.get? p=some o→KeptAt h' p o:=fun o ho=>by rw[e1]at ho;cases ho;exact⟨_,e2,rfl,fun _ _ _=>⟨_,_,rfl⟩⟩
 exact⟨aF.change (List.mem_of_getElem? hp) oth hcl,N.change H hp hl oth new ⟨_,e2,aP rfl,aP rfl⟩ hcl⟩
theorem jC{o:Obj}{es:Array DictEntry}{ep:Nat}(h:o.ExactDict)(hd:o.data = .dict es ep):o={ cls:=.type "dict",data:=.dict es ep }:=by
 obtain⟨a,b,d,e⟩:=o
 obtain⟨h1,h2,h3⟩:=h
 simp only at h1 h2 h3 hd
 rw[h1,h2,h3,hd]
theorem EQ {m:List (Str×SV)}{kvs:List (Str×Value)}(h:aK (fun e kv=>e.1=kv.1∧VR ρ e.2 kv.2) m kvs)(k:Str){v:SV}{y:Value}(hv:VR ρ v y) :
  aK (fun e kv=>e.1=kv.1∧VR ρ e.2 kv.2) (BY m k v) (stored kvs k y):=by
 have e:(kvs.any fun kv=>kv.1=k)=(lkS m k).isSome:=by
  induction m generalizing kvs with
  | nil=>cases kvs with
   | nil=>rfl
   | cons _ _=>exact h.elim
  | cons x r ih =>
   cases kvs with
   | nil=>exact h.elim
   | cons z kvs =>
    obtain ⟨⟨e1,e2⟩,e3⟩:=h
    rw [List.any_cons,ih e3]
    obtain ⟨x1,x2⟩:=x
    have e1:x1=z.1:=e1
    show (decide (z.1=k)||_)=(bif decide (x1=k) then some x2 else lkS r k).isSome
    rw [← e1]
    cases decide (x1=k)<;>rfl
 unfold BY stored
 rw [e]
 cases (lkS m k).isSome with
 | true =>
  simp only [cond_true,if_true]
  clear e
  induction m generalizing kvs with
  | nil=>cases kvs with
   | nil=>trivial
   | cons _ _=>exact h.elim
  | cons x r ih =>
   cases kvs with
   | nil=>exact h.elim
   | cons z kvs =>
    obtain ⟨⟨e1,e2⟩,e3⟩:=h
    refine ⟨?_,ih e3⟩
    show (bif decide (x.1=k) then (x.1,v) else x).1=(if z.1=k then (z.1,y) else z).1∧VR ρ (bif decide (x.1=k) then (x.1,v) else x).2 (if z.1=k then (z.1,y) else z).2
    by_cases q:x.1=k
    ·rw [decide_eq_true q,cond_true,if_pos (e1▸q)];exact ⟨e1,hv⟩
    ·rw [decide_eq_false q,cond_false,if_neg (e1▸q)];exact ⟨e1,e2⟩
 | false =>
  simp only [cond_false,Bool.false_eq_true,if_false]
  exact h.append ⟨⟨rfl,hv⟩,trivial⟩
theorem SA.putT (H:GOK G)(N:Now G c ρ st s.heap){i:Nat}{p:Addr}(hp:ρ.a[i]?=some p){k v:SV}{b y:Value}(hk:VR ρ k b)(hv:VR ρ v y):SA G c (fun _ _ _=>True) (setItem (.ref p) b y) (GO i v k) ρ st s:=by
 cases k with
 | fz ko =>
  obtain ⟨pk,hz,rfl⟩:=hk
  refine SA.onTup (N.rep.fz _ _ hz).1 fun kk hkk ek=>SA.onOpt fun ks hks=>SA.onObj fun o ho=>SA.onTD (N.oat hp ho) fun m q eo=>SA.if fun g r st' hm hq Q E post=>?_
  subst ek eo
  cases hm
  obtain ⟨xs,es,ep,e1,e2,e3,e4⟩:=q
  have hd:=N.tab e1 e2 e3 e4
  obtain ⟨hab,g2⟩:=H.vabs _ _ (hq _ (.head _))
  have hat:=wJ e4 ks
  rw [hab] at hat
  refine wpAny_setItem_heap (N.room (by decide:1≤12)) (kN hkk hks) hd (fun h' hd' sb=>?_) (e4.length▸Nat.le_trans g2 (by decide))
  rw [storedH_new hat] at hd'
  obtain ⟨o',es',ep',g3,g4,g5,g6,g7,g8⟩:=id hd'
  have:=jC g4 g5
  subst this
  have X:=N.dset H hp (lI.of ho fun q=>nomatch q) e1 sb g3 (so:=.tdict (m++[(kk,v)])) ⟨_,es',ep',g3,g6,g8,e4.append ⟨⟨hks,hv,hz,g⟩,trivial⟩⟩ (tk:=s.toks+G.tk.draws ks)
  exact post ρ _ X.1 X.2.asked () trivial
 | _=>exact SA.fail
theorem SA.storeI(H:GOK G)(N:Now G c ρ st s.heap){o k v:SV}{a b y:Value}(ho:VR ρ o a)(hk:VR ρ k b)(hv:VR ρ v y):SA G c (fun _ _ _=>True) (setItem a b y) (rN o k v) ρ st s:=by
 refine SA.onRi (T:=fun a=>setItem a b y) ho fun i o p _ hp ho=>?_
 have q:=N.oat hp ho
 cases o with
 |sdict m =>
  refine SA.onS (T:=fun b=>setItem _ b y) hk fun x t=>SA.if fun g=>SA.put fun Q E post=>?_
  obtain⟨kvs,es,ep,e1,e2,e3⟩:=q
  refine wpAny_setItem_pairs (strKind_is _ _ _ t) e2 (fun h' hd sb=>?_) (e3.length▸Nat.le_trans (Nat.le_of_ble_eq_true g) (by decide))
  obtain⟨o',es',ep',g1,g2,g3,g4⟩:=id hd
  have:=jC g2 g3
  subst this
  have X:=N.dset H hp (lI.of ho fun q=>nomatch q) e1 sb g1 (so:=.sdict (BY m _ v)) ⟨_,es',ep',g1,hd,EQ e3 _ hv⟩ (tk:=s.toks+1)
  exact post _ X.1 X.2
 |tdict m =>
  refine SA.eq (t':=(Pure.pure b>>=fun b=>setItem (.ref p) b y)) rfl ?_
  exact SA.bind (fun _=>nZ) (SA.freeze N hk) fun ρ₁ st₁ s₁ z b' S N₁ _ hz=>SA.putT H N₁ (S.idx hp) hz (S.vr hv)
 |_=>exact SA.fail
end
end
section
open PySem.Calls
section
variable{prog:Program}{w:World}{A:Around}{E:Value→Shared→Prop}{s:Shared}{K:Frag}{x C:Addr}{ox:Obj}{name:Str}{v:Value}
theorem MH{R:Result→Shared→Prop}{tk:Tok}{cd:ClassData}{vs:Array Value}(X:K.In s.heap)(hx:s.heap.get? x=some ox)(hcl:ox.cls = .ref C)(hdn:ox.dict=none)(hdat:ox.data = .fields vs)(hc:clsIn K C=some cd)(h1:cd.hasDict=true)(h2:cd.mro.isEmpty=false)
  (h3:cd.mro.contains (.type "object")=true)(h4:∀self,refuseLoop self "__setattr__" cd.mro=pure ())(ht:findIn K (.ref C) name=some none)
  (h:∀h',h'.Ns s.heap.objs.size (fun x=>if x=name then some v else none)→Heap.SameBut s.heap.objs.size ((s.heap.push { cls:=.type "dict",data:=.dict #[] }).update x fun o=>{ o with dict:=some s.heap.objs.size }) h' →
   (∃o' es' ep',h'.get? s.heap.objs.size=some o'∧o'.cls = .type "dict"∧o'.dict=none∧o'.slots = #[]∧o'.data = .dict es' ep'∧es'.size=1)→R (.ok (.ret .none)) { s with heap:=h',toks:=s.toks+1 }) :
  codeAny (model prog w) A (.call (.builtin "object.__setattr__") ⟨[.ref x,.str name tk,v],[]⟩) R s:=by
 have SF:=PySem.F.store_object
 have L0:Looks (model prog w) s.heap (typeOf (.ref x)) (.ref C):=hcl▸(Looks.ld hx).andThen .now
 have sub:Looks (model prog w) s.heap (isInstance (.ref x) (.type "object")) true:=L0.andThen (looks_mroIn X (by unfold mroIn;rw[hc,Option.bind_some,if_neg (by rw[h2];decide),h3]))
 refine codeAny_call_builtin SF.slot.plain SF.entry (@check_slot (model prog w) _ _ s "object.__setattr__" "object" "__setattr__" (.ref x) [.str name tk,v] [] _ SF.kind SF.split sub (SF.args (.ref x) (.str name tk) v) ?_)
 have hm:Looks (model prog w) s.heap (mroOf (.ref C)) cd.mro:=(looks_clsIn X hc).andThen .now
 rw[osa_eq,refuse_eq]
 refine wpAny_bind (wpAny_bind (L0.here (wpAny_bind (hm.here ?_))))
 rw[h4]
 refine wpAny_pure (wpAny_bind (L0.here (wpAny_bind ((looks_findIn X ht).here (wpAny_bind (wpAny_pure ?_))))))
 have hlt:=Heap.lt_size hx
 obtain⟨oc,odi,oda,osl⟩:=ox
 dsimp only at hcl hdn hdat
 subst hcl hdn hdat
 refine wpAny_bind (wpAny_pure (wpAny_bind (wpAny_bind (wpAny_loadPart hx (wpAny_bind ((looks_clsIn X hc).here ?_))))))
 rw[h1]
 have hx1:=Heap.get?_push_of_some { cls:=.type "dict",data:=.dict #[] } hx
 refine wpAny_bind (wpAny_alloc (wpAny_bind (wpAny_update hx1 ?_)))
 refine wpAny_pure (a:=some s.heap.objs.size) (wpAny_bind (wpAny_pure (wpAny_bind ?_)))
 have hd0:((s.heap.push { cls:=.type "dict",data:=.dict #[] }).update x fun o=>{ o with dict:=some s.heap.objs.size }).get? s.heap.objs.size=some { cls:=.type "dict",data:=.dict #[] }:=by
  rw[Heap.get?_update_other _ _ (Nat.ne_of_lt hlt)];exact Heap.get?_push_size _ rfl
 have hns:((s.heap.push { cls:=.type "dict",data:=.dict #[] }).update x fun o=>{ o with dict:=some s.heap.objs.size }).Ns s.heap.objs.size (fun _=>none) :=
  ⟨_,#[],0,hd0,rfl,fun e he=>by simp at he,fun n=>rfl⟩
 refine dR (s:={ s with heap:=(s.heap.push { cls:=.type "dict",data:=.dict #[] }).update x fun o=>{ o with dict:=some s.heap.objs.size } }) hns fun h' a1 a2 a3=>?_
 obtain⟨o',g1,g2,g3,g4,g5⟩:=a3 _ hd0
 obtain⟨es',ep',g6,g7⟩:=g5 #[] 0 rfl
 have g7:es'.size=1:=g7
 refine wpAny_bind (wpAny_lookBehind g1 (by rw[g6];exact pastItsLine_dict (by rw[g7,sizeLine_eq];decide)) ?_)
 exact wpAny_pure (h _ a1 a2 ⟨o',es',ep',g1,g2,g3,g4,g6,g7⟩)
end
noncomputable def PG(G:Gl)(i C n:Nat)(ctx:SV)(tb:Bool)(x:SV):M Unit:=mIf (Nat.blt n G.nA) fun st =>
 some (.ok (),{ st with objs:=((st.objs++[SO.idict []]).set i (SO.exc C (some st.objs.length) ctx tb)).set st.objs.length (SO.idict (lX [] n x)) })
noncomputable def XD(G:Gl)(v:SV)(n:Nat)(x:SV)(i:Nat)(o:SO):M Unit:=match o with
 |.exc C d ctx tb=>match d with
  |none=>rU (G.xc C) (G.ca C n) (PG G i C n ctx tb x)
  |some _=>AJ G v n x
 |_=>AJ G v n x
noncomputable def pV(G:Gl)(v:SV)(n:Nat)(x:SV):M Unit:=tV v (XD G v n x)
theorem eO{G:Gl}{v:SV}{n:Nat}{x:SV}:Grows (pV G v n x):=Grows.onRi fun i o=>by
 cases o with
 |exc C d ctx tb=>cases d with
  |none=>exact fY (aD fun _ _ _ h=>by cases h;exact⟨[],rfl⟩)
  |some _=>exact nY
 |_=>exact nY
section
variable{G:Gl}{c:Ac}{ρ ρ':Tr}{st:St}{s:Shared}{h:Heap}
theorem nB{h:Heap}{a:Addr}(e:h.get? a=some { cls:=.type "dict",data:=.dict #[] }):h.Ns a (fun _=>none):=⟨_,#[],0,e,rfl,fun e he=>absurd he (Array.not_mem_empty e),fun n=>rfl⟩
theorem SA.newD(H:GOK G)(N:Now G c ρ st s.heap){i:Nat}{a:Addr}{C:Nat}{ctx:SV}{tb:Bool}(ha:ρ.a[i]?=some a)(ho:st.objs[i]?=some (.exc C none ctx tb)){n:Nat}(hp:G.xc C=true)(hca:G.ca C n=some none){y:SV}{z:Value}(hy:VR ρ y z) :
  SA G c (fun _ _ _=>True) (setAttr (.ref a) (G.an n) z) (PG G i C n ctx tb y) ρ st s:=by
 refine SA.if fun hb r st' hm hq Q E post=>?_
 have hb:n<G.nA:=Nat.le_of_ble_eq_true hb
 cases hm
 have X:=N.rep.kin
 obtain⟨o,vs,cx,tt,e1,e2,e3,e3',e4,e5,e6,e7,e8,e9⟩:=N.oat ha ho
 have e4:o.dict=none:=e4
 obtain⟨cd,p1,p2,p3,p4,p5,p6⟩:=H.st C (by rw[hp,Bool.or_true])
 have I:W.InstAt s.heap a o C none:=⟨e1,e2,by unfold notCls;rw[e3],by rw[e4];trivial⟩
 refine set_plain X I p6 (MH (s:={ s with toks:=s.toks+1 }) X e1 e2 e4 e3 p1 p2 p3 p4 p5 (H.ca0 C n hca) fun h' a1 a2 a3=>?_)
 have N1:=N.alloc H (o:={ cls:=.type "dict",data:=.dict #[] }) (so:=.idict []) rfl (aP rfl) (aP rfl)
  ⟨fun _=>none,#[],0,Heap.get?_push_size _ rfl,Nat.le_refl _,nB (Heap.get?_push_size _ rfl),fun i=>rfl⟩
 have hlt:=Heap.lt_size e1
 have hil:=(List.getElem?_eq_some_iff.mp ho).1
 have ho1:(st.objs++[SO.idict []])[i]?=some (.exc C none ctx tb):=by rw[List.getElem?_append_left hil];exact ho
 have ha1:(ρ.add s.heap.objs.size).a[i]?=some a:=Tr.le_add.idx ha
 have g1:=Heap.get?_push_of_some { cls:=.type "dict",data:=.dict #[] } e1
 have g2:=Heap.get?_update_self (fun o=>{ o with dict:=some s.heap.objs.size }) g1 (by
  obtain⟨c0,d0,dt,sl⟩:=o;cases e3;rfl)
 have hd:(ρ.add s.heap.objs.size).a[st.objs.length]?=some s.heap.objs.size:=by
  show(ρ.a++[_])[_]?=_
  rw[←N.rep.len,List.getElem?_append_right (Nat.le_refl _),Nat.sub_self];rfl
 have N2:=N1.excPut H (d':=some st.objs.length) (tb':=tb) ha1 ho1 g1 e2 e3 g2 e2 (fun b hb=>Heap.get?_update_other _ _ (Ne.symm hb)) fun TB=>⟨_,vs,cx,tt,g2,e2,e3,e3',⟨_,hd,rfl⟩,e5,e6.mono Tr.le_add,e7,TB (e8.keep fun b o1 q _=>⟨o1,Heap.get?_push_of_some _ q,Eqv.refl o1⟩),e9⟩
 have g3:=(Heap.get?_update_other (s.heap.push { cls:=.type "dict",data:=.dict #[] }) (fun o=>{ o with dict:=some s.heap.objs.size }) (Nat.ne_of_lt hlt)).trans (Heap.get?_push_size _ rfl)
 have ho2:((st.objs++[SO.idict []]).set i (.exc C (some st.objs.length) ctx tb))[st.objs.length]?=some (.idict []):=by
  rw[List.getElem?_set_ne (Nat.ne_of_lt hil),List.getElem?_append_right (Nat.le_refl _),Nat.sub_self];rfl
 have N3:=Now.putD (s:={ s with heap:=(s.heap.push { cls:=.type "dict",data:=.dict #[] }).update a fun o=>{ o with dict:=some s.heap.objs.size } }) H N2.1 (n:=n) (v:=y) (y:=z) ho2 hd (mr:=fun _=>none) g3 (Nat.le_refl _)
  (nB g3) (fun i=>rfl) hb (hy.mono Tr.le_add) a1 a2 a3 (tk:=s.toks+1+1)
 have S1:aF c.env.locals ρ s (ρ.add s.heap.objs.size) { s with heap:=s.heap.push { cls:=.type "dict",data:=.dict #[] },toks:=s.toks }:=aF.alloc
 exact post _ _ ((S1.trans (N2.2 (tk:=s.toks) rfl)).trans N3.1) N3.2 () trivial
theorem SA.setX(H:GOK G)(N:Now G c ρ st s.heap){v:SV}{x:Value}(hv:VR ρ v x){n:Nat}{name:Str}(hn:name=G.an n){y:SV}{z:Value}(hy:VR ρ y z) :
  SA G c (fun _ _ _=>True) (setAttr x name z) (pV G v n y) ρ st s:=by
 subst hn
 refine SA.onRi (T:=fun x=>setAttr x (G.an n) z) hv fun i o a ev ha ho=>?_
 have hv:VR ρ v (.ref a):=ev▸⟨a,ha,rfl⟩
 cases o with
 |exc C d ctx tb=>cases d with
  |none=>exact SA.own fun hp hca=>SA.newD H N ha ho hp hca hy
  |some _=>exact SA.setA H N hv rfl hy
 |_=>exact SA.setA H N hv rfl hy
end
end
section
open PySem.Calls
theorem fG:entryFor table "proto.unchain" = some Builtin.«proto.unchain»:=entryFor_of_tree (by kernel_rfl)
noncomputable def KI(h:Heap)(ah:Addr)(c:Value)(ne:Addr→Prop):Prop:=c = .none∨∃k ok vk,c = .ref k∧k≠ah∧ne k∧h.get? k=some ok∧ok.data = .fields vk∧vk[2]?=some .none
noncomputable def US(A:Around)(h:Heap):Prop:=A.handled=none∨∃ah oh vh c,A.handled=some (.ref ah)∧h.get? ah=some oh∧oh.data = .fields vh∧vh[2]?=some c∧KI h ah c fun _=>True
section
variable{prog:Program}{w:World}{A:Around}{E:Value→Shared→Prop}{s:Shared}
theorem oS{args:Args}:(Code.builtin "proto.unchain" args).quiet=true:=Code.quiet_builtin _ (by decide +kernel)
theorem mT{α:Type}{Q:α→Shared→Prop}{a ah:Addr}{oh oe:Obj}{vh ve:Array Value}{cx:Value}(hh:A.handled=some (.ref ah))(e1:s.heap.get? ah=some oh)(e2:oh.data = .fields vh)(e3:vh[2]?=some cx)(ec:KI s.heap ah cx fun k=>k≠a)
  (f1:s.heap.get? a=some oe)(f2:oe.data = .fields ve)(f3:2<ve.size)(hne:ah≠a)(h:E (.ref a) { s with heap:=s.heap.update a (Obj.mapFields (·.setIfInBounds 2 (.ref ah))) }) :
  wpAny (model prog w) A (raiseNew (.ref a):Sem α) Q E s:=by
 unfold raiseNew
 refine wpAny_bind (wpAny_handled ?_)
 rw[hh]
 dsimp only
 rw[if_pos (show(Value.ref ah != Value.ref a)=true from by simp[hne])]
 have fin:wpAny (model prog w) A (updateField a 2 (.ref ah)>>=fun _=>(throw (Value.ref a):Sem α)) Q E s:=by
  refine wpAny_bind ?_
  have:updateField a 2 (.ref ah)=setField (.ref a) 2 (.ref ah):=rfl
  rw[this]
  exact wpAny_setField f1 f2 f3 (wpAny_throw h)
 rcases ec with rfl|⟨k,ok,vk,rfl,hk1,hk2,g1,g2,g3⟩
 ·refine wpAny_bind (wpAny_holding (wpAny_runValue (codeAny_builtin fG ?_)))
  unfold Builtin.«proto.unchain»
  refine wpAny_bind (wpAny_field e1 e2 e3 ?_)
  rw[if_pos (by decide)]
  refine wpAny_bind (wpAny_pure (wpAny_pure ?_))
  exact fin
 ·refine wpAny_bind (wpAny_holding (wpAny_runValue (codeAny_builtin fG ?_)))
  unfold Builtin.«proto.unchain»
  refine wpAny_bind (wpAny_field e1 e2 e3 ?_)
  rw[if_neg (show ¬((Value.ref k==Value.none)=true) from by simp)]
  show wpAny _ _ (if(Value.ref k==Value.ref a)=true then _ else _) _ _ _
  rw[if_neg (show ¬((Value.ref k==Value.ref a)=true) from by simp[hk2])]
  show wpAny _ _ (if(Value.ref k==Value.ref ah)=true then _ else _) _ _ _
  rw[if_neg (show ¬((Value.ref k==Value.ref ah)=true) from by simp[hk1])]
  show wpAny _ _ (if false=true then _ else _) _ _ _
  rw[if_neg (by decide)]
  refine wpAny_bind (wpAny_pure ?_)
  refine wpAny_pure ⟨oS,codeAny_builtin fG ?_⟩
  unfold Builtin.«proto.unchain»
  refine wpAny_bind (wpAny_field g1 g2 g3 ?_)
  rw[if_pos (by decide)]
  refine wpAny_bind (wpAny_pure (wpAny_pure ?_))
  exact fin
theorem lM{α:Type}{Q:α→Shared→Prop}{X:String}(hk:US A s.heap)(hX:firstArgMember (.type X) []=pure .none)(hO:ownMembersOf (.type X) [] = #[])
  (h:∀h' a,(∀b o,s.heap.get? b=some o→h'.get? b=some o)→(∃o,h'.get? a=some o∧o.cls = .type X)→E (.ref a) { s with heap:=h' }) :
  wpAny (model prog w) A (do raiseNew (←newExc (.type X) []):Sem α) Q E s:=by
 refine wpAny_bind ?_
 unfold newExc newTuple
 refine wpAny_bind (wpAny_newObj_type ?_ (by size_fits))
 refine wpAny_bind (wpAny_of_eq hX ?_)
 rw[hO]
 refine wpAny_newObj_type ?_ (by size_fits)
 generalize hT:({ cls:=.type "tuple",data:=.seq ([]:List Value).toArray }:Obj)=T
 have k:∀{o2:Obj} b o,s.heap.get? b=some o→((s.heap.push T).push o2).get? b=some o:=fun b o e=>Heap.get?_push_of_some _ (Heap.get?_push_of_some _ e)
 rcases hk with hh|⟨ah,oh,vh,cx,hh,e1,e2,e3,ec⟩
 ·exact wpAny_raiseNew_none hh (h _ _ k ⟨_,Heap.get?_push_size _ rfl,rfl⟩)
 ·have hlt:=Heap.lt_size e1
  have hne:ah≠(s.heap.push T).objs.size:=by rw[Heap.size_push];exact Nat.ne_of_lt (Nat.lt_succ_of_lt hlt)
  have ec:KI ((s.heap.push T).push { cls:=.type X,data:=.fields #[.ref s.heap.objs.size,.none,.none,.none,.bool false,.none] }) ah cx fun k=>k≠(s.heap.push T).objs.size:=by
   rcases ec with rfl|⟨q,oq,vq,rfl,h1,_,h2,h3,h4⟩
   ·exact .inl rfl
   ·exact .inr ⟨q,oq,vq,rfl,h1,by rw[Heap.size_push];exact Nat.ne_of_lt (Nat.lt_succ_of_lt (Heap.lt_size h2)),k _ _ h2,h3,h4⟩
  refine mT (s:={ s with heap:=_ }) hh (k _ _ e1) e2 e3 ec (Heap.get?_push_size _ rfl) rfl (by simp) hne ?_
  refine h _ _ (fun b o e=>?_) ⟨_,Heap.get?_update_self _ (Heap.get?_push_size _ rfl) rfl,rfl⟩
  have:=Heap.lt_size e
  rw[Heap.get?_update_other _ _ (by rw[Heap.size_push];exact Nat.ne_of_gt (Nat.lt_succ_of_lt this))]
  exact k b o e
theorem oV{it l:Addr}{i:Nat} {items}{Q:Option Value→Shared→Prop}{o:Obj}(hk:∀h',(∀b o,b≠it→s.heap.get? b=some o→h'.get? b=some o)→US A h')(ho:s.heap.get? it=some o)(hc:o.cls = .type "list_iterator")(hd:o.data = .fields #[.ref l,.int i 0])(hl:s.heap.IsList l items)(hx:items[i]?=none)
  (hQ:∀h',(∀b o,b≠it→s.heap.get? b=some o→h'.get? b=some o)→(∃o,h'.get? it=some o∧o.cls = .type "list_iterator"∧o.dict=none∨True)→(∃o',h'.get? it=some o'∧o'.cls = .type "list_iterator"∧Kept o o')→Q none { s with heap:=h' }):wpAny (model prog w) A (pyNext (.ref it)) Q E s:=by
 have hit:s.heap.IsListIter it l i:=⟨o,ho,hc,hd⟩
 obtain⟨ol,hol,_,nl,hdl⟩:=hl
 unfold pyNext
 refine wpAny_bind (wpAny_attempt (wpAny_callSpecial?_slot (name:=Str.ofString "__next__") hit.typeIs slot_listiter_next
  (wpAny_call_entry slot_listiter_next hit.typeIs entry_listiter_next ?_ (args_listiter_next _))))
 show wpAny _ _ (field (.ref it) 0>>=_) _ _ s
 refine wpAny_bind (wpAny_field ho hd (x:=.ref l) rfl ?_)
 show wpAny _ _ (if(Value.ref l==Value.none)=true then _ else _) _ _ s
 rw[if_neg (show ¬((Value.ref l==Value.none)=true) from Bool.false_ne_true)]
 show wpAny _ _ (field (.ref it) 1>>=_) _ _ s
 refine wpAny_bind (wpAny_field ho hd (x:=.int i 0) rfl ?_)
 show wpAny _ _ (seqItems? (.ref l)>>=_) _ _ s
 refine wpAny_bind (wpAny_seqItems hol hdl ?_)
 simp only[Int.toNat_natCast,hx]
 refine wpAny_bind (wpAny_rule (wpAny_bind (wpAny_setField ho hd (by simp) ?_)))
 have e2:=Obj.data_mapFields hd (·.setIfInBounds 0 Value.none)
 have e1:=Heap.get?_update_self (Obj.mapFields (·.setIfInBounds 0 Value.none)) ho (Obj.isFreed_of_fields e2)
 have oth:∀b o,b≠it→s.heap.get? b=some o→(s.heap.update it (Obj.mapFields (·.setIfInBounds 0 Value.none))).get? b=some o:=fun b o hb e=>(Heap.get?_update_other _ _ (Ne.symm hb)).trans e
 refine lM (X:="StopIteration") (hk _ oth) (by first|rfl|(simp only[firstArgMember];rfl)) rfl fun h' a k ⟨oa,ha,hca⟩=>?_
 refine wpAny_bind (wpAny_isInstance (T:="StopIteration") (b:=true) ⟨oa,ha,hca⟩ isSubtype_stop ?_)
 exact wpAny_pure (hQ _ (fun b o hb e=>k _ _ (oth b o hb e)) ⟨o,.inr trivial⟩ ⟨_,k _ _ e1,(Obj.cls_mapFields _ _).trans hc,Obj.cls_mapFields _ _,fun es ep q=>by rw[hd]at q;cases q⟩)
end
end
section
open PySem.Calls
noncomputable def aBv(o:SO):Option SV:=match o with
 |.exc _ _ x _=>some x
 |_=>none
noncomputable def lC(os:List SO)(k:Nat):Option SV:=os[k]?.bind aBv
noncomputable def TC(x:Option SV):Bool:=match x with
 |some v=>isN v
 |none=>false
noncomputable def HB(p:List SO→Bool):M Unit:=fun st=>bif p st.objs then some (.ok (),st)else none
noncomputable def PJ(k:Nat):M Unit:=HB fun os=>TC (lC os k)
noncomputable def hdC(os:List SO)(x:SV):Bool:=match x with
 |.none=>true
 |.ref k=>TC (lC os k)
 |_=>false
noncomputable def hdB(os:List SO)(hd:Option Nat):Bool:=match hd with
 |none=>true
 |some i=>match lC os i with
  |some x=>hdC os x
  |none=>false
noncomputable def mHd(hd:Option Nat):M Unit:=HB fun os=>hdB os hd
theorem DH{p:List SO→Bool}:Grows (HB p):=fun s r s' h=>by
 rcases cJ h with⟨_,h⟩|h
 ·cases h;exact⟨[],rfl⟩
 ·exact nos h
theorem uP{p:List SO→Bool}{st st':St}{r:Except SV Unit}(h:HB p st=some (r,st')):p st.objs=true∧r = .ok ()∧st'=st:=by
 rcases cJ h with⟨q,h⟩|h
 ·cases h;exact⟨q,rfl,rfl⟩
 ·exact nos h
theorem mK{α:Type}{p:List SO→Bool}{f:Unit→M α}{st st':St}{r:Except SV α}(h:bnd (HB p) f st=some (r,st')):p st.objs=true∧f () st=some (r,st'):=by
 rcases aT h with⟨e,h1,_⟩|⟨a,s1,h1,h2⟩
 ·exact nomatch (uP h1).2.1
 ·obtain⟨q,_,rfl⟩:=uP h1;exact⟨q,h2⟩
theorem AV{x:Option SV}(h:TC x=true):x=some .none:=by
 cases x with
 |none=>exact Bool.noConfusion h
 |some v=>rw[sG h]
theorem JR{os:List SO}{k:Nat}{x:SV}(h:lC os k=some x):∃C d tb,os[k]?=some (.exc C d x tb):=by
 obtain⟨o,ho,h⟩:=Option.bind_eq_some_iff.mp h
 cases o with
 |exc C d y tb=>cases h;exact⟨C,d,tb,ho⟩
 |_=>exact nos h
noncomputable def HdS(st:St)(hd:Option Nat):Prop:=hd=none∨∃i x,hd=some i∧lC st.objs i=some x∧(x = .none∨∃k,x = .ref k∧lC st.objs k=some .none)
theorem HW{st:St}{hd:Option Nat}(h:hdB st.objs hd=true):HdS st hd:=by
 cases hd with
 |none=>exact .inl rfl
 |some i =>
  have h:(match lC st.objs i with|some x=>hdC st.objs x|none=>false)=true:=h
  cases q:lC st.objs i with
  |none=>rw[q]at h;exact Bool.noConfusion h
  |some x =>
   rw[q]at h
   refine .inr ⟨i,x,rfl,q,?_⟩
   cases x with
   |none=>exact .inl rfl
   |ref k=>exact .inr ⟨k,rfl,AV h⟩
   |_=>exact Bool.noConfusion h
noncomputable def isI(v:SV)(k:Int):Bool:=match asI v with
 |some i=>decide (i=k)
 |none=>false
noncomputable def RJ(l:List SV):Option Int:=match l with
 |[a,b,c]=>bif isI a 0&&isI c 1 then asI b else none
 |_=>none
noncomputable def FD(c:IC)(l:List SV):Option Int:=match c with
 |.range=>RJ l
 |_=>none
noncomputable def SG(v:SV)(o:SO):M SV:=match o with
 |.list _=>bJ (.lit v 0)
 |.iter c l=>bnd (bO (FD c l)) fun n=>mIf (decide (0≤n)&&decide (n<1000)) (bJ (.iter .rangeIt [.raw 0,.raw n,.raw 1]))
 |.lit _ _=>aG v
 |_=>aH
noncomputable def SE(v:SV)(o:SO):M SV:=match o with
 |.list _=>bJ (.lit v 0)
 |_=>aH
noncomputable def hH(v:SV):M SV:=match v with
 |.ref i=>bnd (bP i) (SG v)
 |.fz o=>SE v o
 |_=>aH
noncomputable def asR(v:SV):Option Int:=match v with
 |.raw i=>some i
 |_=>none
noncomputable def aAh(l:List SV):Option (Int×Int):=match l with
 |[a,b,c]=>(asR a).bind fun x=>(asR b).bind fun n=>(asR c).bind fun k=>bif decide (k=1)then some (x,n)else none
 |_=>none
noncomputable def WE(c:IC)(l:List SV):Option (Int×Int):=match c with
 |.rangeIt=>aAh l
 |_=>none
noncomputable def AI(hd:Option Nat)(i:Nat):M (Option SV):=bnd (mHd hd) fun _=>bnd (eX i .dead) fun _=>aG none
noncomputable def rV(hd:Option Nat)(i:Nat)(l:SV)(k:Nat)(x:Option SV):M (Option SV):=match x with
 |some x=>bnd (eX i (.lit l (k+1))) fun _=>aG (some x)
 |none=>AI hd i
noncomputable def SB(hd:Option Nat)(i:Nat)(l:SV)(k:Nat)(o:SO):M (Option SV):=match o with
 |.list xs=>rV hd i l k xs[k]?
 |_=>aH
noncomputable def RZ(hd:Option Nat)(i:Nat)(o:SO):M (Option SV):=match o with
 |.lit l k=>bnd (cD l) (SB hd i l k)
 |.iter c l=>bnd (bO (WE c l)) fun p=>bif decide (0<p.2)then bnd (eX i (.iter .rangeIt [.raw (p.1+1),.raw (p.2 - 1),.raw 1])) fun _=>aG (some (.int p.1))else AI hd i
 |_=>aH
noncomputable def lP(hd:Option Nat)(v:SV):M (Option SV):=match v with
 |.ref i=>bnd (bP i) (RZ hd i)
 |_=>aH
theorem nX{hd:Option Nat}{i:Nat}:Grows (AI hd i):=Grows.bnd DH fun _=>Grows.bnd aZ fun _=>Grows.ret
theorem gN{v:SV}:Grows (hH v):=by
 cases v with
 |ref i=>exact Grows.bnd aS fun o=>by cases o<;>first | exact aJ | exact Grows.bnd aL fun _=>aD aJ | exact Grows.ret | exact aB
 |fz o=>cases o<;>first | exact aJ | exact aB
 |_=>exact aB
theorem oA{hd:Option Nat}{v:SV}:Grows (lP hd v):=by
 cases v with
 |ref i =>
  refine Grows.bnd aS fun o=>?_
  cases o with
  |lit l k =>
   refine Grows.bnd aV fun o=>?_
   cases o with
   |list xs =>
    show Grows (rV hd i l k xs[k]?)
    cases xs[k]? with
    |some x=>exact Grows.bnd aZ fun _=>Grows.ret
    |none=>exact nX
   |_=>exact aB
  |iter c l =>
   refine Grows.bnd aL fun p=>?_
   cases decide (0<p.2)
   ·exact nX
   ·exact Grows.bnd aZ fun _=>Grows.ret
  |_=>exact aB
 |_=>exact aB
theorem UO{a:SV}{i:Int}(h:asI a=some i):a = .int i:=by
 cases a with
 |int j=>cases h;rfl
 |_=>exact nos h
theorem HR{a:SV}{k:Int}(h:isI a k=true):a = .int k:=by
 cases a with
 |int j=>rw[of_decide_eq_true (show decide (j=k)=true from h)]
 |_=>exact Bool.noConfusion h
theorem yU{a:SV}{i:Int}(h:asR a=some i):a = .raw i:=by
 cases a with
 |raw j=>cases h;rfl
 |_=>exact nos h
theorem BW{c:IC}{l:List SV}{n:Int}(h:FD c l=some n):c = .range∧l=[.int 0,.int n,.int 1]:=by
 cases c with
 |range =>
  rcases l with _|⟨a,_|⟨b,_|⟨c,_|⟨d,l⟩⟩⟩⟩
  ·exact nos h
  ·exact nos h
  ·exact nos h
  ·rcases cJ h with⟨h1,h2⟩|h
   ·rw[HR (aN h1).1,HR (aN h1).2,UO h2];exact⟨rfl,rfl⟩
   ·exact nos h
  ·exact nos h
 |_=>exact nos h
theorem LV{c:IC}{l:List SV}{p:Int×Int}(h:WE c l=some p):c = .rangeIt∧l=[.raw p.1,.raw p.2,.raw 1]:=by
 cases c with
 |rangeIt =>
  rcases l with _|⟨a,_|⟨b,_|⟨c,_|⟨d,l⟩⟩⟩⟩
  ·exact nos h
  ·exact nos h
  ·exact nos h
  ·obtain⟨x,q1,h⟩:=Option.bind_eq_some_iff.mp (show(asR a).bind _=_ from h)
   obtain⟨n,q2,h⟩:=Option.bind_eq_some_iff.mp h
   obtain⟨k,q3,h⟩:=Option.bind_eq_some_iff.mp h
   rcases cJ h with⟨h1,h⟩|h
   ·cases h
    have h1:k=1:=of_decide_eq_true h1
    rw[yU q1,yU q2,yU q3,h1];exact⟨rfl,rfl⟩
   ·exact nos h
  ·exact nos h
 |_=>exact nos h
section
variable{G:Gl}{c:Ac}{ρ ρ':Tr}{st:St}{s:Shared}{h:Heap}
theorem Now.hdok(N:Now G c ρ st s.heap){hd:Option Nat}(hh:c.hd=hd)(q:HdS st hd){j:Nat}{it:Addr}(hj:ρ.a[j]?=some it)
  (hne:lC st.objs j=none):∀h',(∀b o,b≠it→s.heap.get? b=some o→h'.get? b=some o)→US c.A h':=by
 intro h' k
 have ex:∀{i:Nat}{x:SV}{a:Addr},lC st.objs i=some x→ρ.a[i]?=some a→∃o vs cx,h'.get? a=some o∧o.data = .fields vs∧vs[2]?=some cx∧VR ρ x cx:=fun hx ha=>by
  obtain⟨C,d,tb,ho⟩:=JR hx
  obtain⟨o,vs,cx,t,e1,e2,e3,e4,e5,e6,e7,_⟩:=N.oat ha ho
  exact⟨o,vs,cx,k _ o (sI N.rep.nodup ha hj fun q=>by rw[←q,hx]at hne;exact nos hne.symm) e1,e3,e6,e7⟩
 have nh:=N.hd
 subst hh
 rcases q with q|⟨i,x,q,ho,hx⟩
 ·rw[q]at nh;exact .inl nh
 ·rw[q]at nh
  obtain⟨a,ha,hA⟩:=nh
  obtain⟨o,vs,cx,e1,e3,e6,e7⟩:=ex ho ha
  refine .inr ⟨a,o,vs,cx,hA,e1,e3,e6,?_⟩
  rcases hx with rfl|⟨kk,rfl,hk⟩
  ·exact .inl e7
  ·obtain⟨b,hb,rfl⟩:=e7
   obtain⟨o2,vs2,cx2,f1,f3,f6,f7⟩:=ex hk hb
   have f7:cx2 = .none:=f7
   exact .inr ⟨b,o2,vs2,rfl,sI N.rep.nodup hb ha (fun q=>by rw[q,ho]at hk;cases hk),trivial,f1,f3,f7▸f6⟩
theorem SA.lit(H:GOK G)(N:Now G c ρ st s.heap){v:SV}{p:Addr}(hv:VR ρ v (.ref p)){xs:List SV}(q:ORl ρ s.heap p "list" xs):SA G c VR (pyIter (.ref p)) (bJ (.lit v 0)) ρ st s:=by
 obtain⟨vs,n,e1,e2⟩:=q
 exact SA.alloc H N (o:={ cls:=.type "list_iterator",data:=.fields #[.ref p,.int 0 0] }) (tk:=s.toks) rfl (aP rfl) (aP rfl) (so:=.lit v 0)
  ⟨_,p,Heap.get?_push_size _ rfl,rfl,hv.mono Tr.le_add,rfl⟩ fun Q E z=>wpAny_pyIter_list (items:=vs) ⟨_,e1,rfl,n,rfl⟩ z
theorem SA.iter(H:GOK G)(N:Now G c ρ st s.heap){v:SV}{x:Value}(hv:VR ρ v x):SA G c VR (pyIter x) (hH v) ρ st s:=by
 cases v with
 |ref i =>
  obtain⟨p,hp,rfl⟩:=id hv
  refine SA.onObj fun o ho=>?_
  have q:=N.oat hp ho
  cases o with
  |list xs=>exact SA.lit H N hv q
  |iter cl l =>
   refine SA.onOpt fun n hn=>SA.if fun g=>?_
   obtain⟨rfl,rfl⟩:=BW hn
   have g1:0≤n:=of_decide_eq_true (aN g).1
   have g2:n<1000:=of_decide_eq_true (aN g).2
   obtain⟨⟨us⟩,e1,e2⟩:=q
   obtain⟨_,_,_,rfl,⟨t,rfl⟩,⟨u,rfl⟩,w,rfl⟩:=aK.three e2
   have sz:Builtin.Range.rangeSize 0 n 1=n:=by rw[rangeSize_one];split<;>omega
   refine SA.alloc H N (o:={ cls:=.type "range_iterator",data:=.fields #[rawInt 0,rawInt n,rawInt 1] }) (tk:=s.toks) rfl (aP rfl) (aP rfl) (so:=.iter .rangeIt [.raw 0,.raw n,.raw 1])
    ⟨_,Heap.get?_push_size _ rfl,rfl,rfl,rfl,trivial⟩ fun Q E z=>?_
   exact wpAny_pyIter_range e1 (small_one (by decide) (by decide) (Int.le_trans (by decide) g1) (Int.lt_trans g2 (by decide))) (by rw[sz];exact z)
  |lit l k =>
   refine SA.ret0 N hv fun Q E z=>?_
   obtain⟨o,q,e1,e2,e3,e4⟩:=q
   have hT:s.TypeIs (.ref p) "list_iterator":=⟨o,e1,e2⟩
   refine wpAny_pyIter_slot hT slot_listiter_iter (wpAny_call_entry slot_listiter_iter hT entry_listiter_iter ?_ (args_listiter_iter _))
   exact wpAny_pure ⟨_,rfl,"list_iterator",_,hT,slot_listiter_next.lookup,z s.toks⟩
  |_=>exact SA.fail
 |fz o =>
  obtain⟨a,ha,rfl⟩:=id hv
  cases o with
  |list xs=>exact SA.lit H N hv (N.rep.fz _ _ ha).1
  |_=>exact SA.fail
 |_=>exact SA.fail
noncomputable def OO(ρ:Tr):Option SV→Option Value→Prop
 |none,none=>True
 |some a,some b=>VR ρ a b
 |_,_=>False
theorem SA.nextPut(H:GOK G)(N:Now G c ρ st s.heap){i:Nat}{p:Addr}{o so:SO}(hp:ρ.a[i]?=some p)(ho:st.objs[i]?=some o)(hl:o≠.dead){oi:Obj}(e1:s.heap.get? p=some oi)(e2:oi.cls≠.type "frame")(e3:oi.cls≠.type "traceback"){t:Sem (Option Value)}{r:Option SV}{y:Option Value}(hr:OO ρ r y)
  (h:∀(Q:Option Value→Shared→Prop) E,(∀h' tk,(∀b o,b≠p→s.heap.get? b=some o→h'.get? b=some o)→(∃o',h'.get? p=some o'∧o'.cls=oi.cls∧Kept oi o'∧OR G ρ h' p so)→Q y { s with heap:=h',toks:=tk })→WP G c t Q E s) :
  SA G c OO t (bnd (eX i so) fun _=>aG r) ρ st s:=by
 intro r st' hm hq Q E post
 cases hm
 refine h Q E fun h' tk sb ⟨o',g1,g2,g3,g4⟩=>?_
 have oth:∀b o,s.heap.get? b=some o→b≠p→bW h' b o:=fun b o q hb=>⟨o,sb b o hb q,Eqv.refl o⟩
 have hcl:∀o,s.heap.get? p=some o→KeptAt h' p o:=fun o q=>⟨o',g1,Option.some.inj (e1.symm.trans q)▸g3⟩
 exact post ρ _ (aF.change (List.mem_of_getElem? hp) oth hcl) (N.change H hp (fun q=>hl (Option.some.inj (ho.symm.trans q))) oth g4 ⟨o',g1,g2▸e2,g2▸e3⟩ hcl) _ hr
theorem SA.next(H:GOK G)(N:Now G c ρ st s.heap){hd:Option Nat}(hh:c.hd=hd){v:SV}{x:Value}(hv:VR ρ v x):SA G c OO (pyNext x) (lP hd v) ρ st s:=by
 cases v with
 |ref i =>
  obtain⟨p,hp,rfl⟩:=hv
  refine SA.onObj fun o ho=>?_
  have q:=N.oat hp ho
  cases o with
  |lit l k =>
   obtain⟨oi,pl,e1,e2,e3,e4⟩:=q
   have ne1:oi.cls≠.type "frame":=e2▸aP rfl
   have ne2:oi.cls≠.type "traceback":=e2▸aP rfl
   have kp:∀{o'},o'.cls = .type "list_iterator"→Kept oi o':=fun e=>⟨e.trans e2.symm,fun es ep q=>nomatch e4.symm.trans q⟩
   refine SA.onLookR N e3 fun ol hol=>?_
   cases ol with
   |list xs =>
    obtain⟨vs,n,f1,f2⟩:=hol
    show SA G c OO _ (rV hd i l k xs[k]?) ρ st s
    cases hy:xs[k]? with
    |some y =>
     obtain⟨z,hz,hr⟩:=f2.get hy
     refine SA.nextPut H N hp ho (fun q=>nomatch q) e1 ne1 ne2 (y:=some z) hr fun Q E post=>?_
     refine wpAny_pyNext_list_item (i:=k) (items:=vs) ⟨oi,e1,e2,e4⟩ ⟨_,f1,rfl,n,rfl⟩ (by simpa using hz) fun h' hit sb=>?_
     obtain⟨o',g1,g2,g3⟩:=hit
     exact post h' _ (fun b o hb q=>(sb.2 b hb).trans q) ⟨o',g1,g2.trans e2.symm,kp g2,o',pl,g1,g2,e3,g3⟩
    |none =>
     intro r st' hm
     obtain⟨hq1,hm⟩:=mK hm
     have hv:vs[k]?=none:=by
      rw[←Array.getElem?_toList,List.getElem?_eq_none_iff,←f2.length]
      exact List.getElem?_eq_none_iff.mp hy
     refine SA.nextPut H N hp ho (fun q=>nomatch q) e1 ne1 ne2 (so:=.dead) (r:=none) (y:=none) trivial (fun Q E post=>?_) r st' hm
     exact oV (N.hdok hh (HW hq1) hp (by rw[lC,ho];rfl)) e1 e2 e4 ⟨_,f1,rfl,n,rfl⟩ hv fun h' sb _ ⟨o',g1,g2,g3⟩=>post h' _ sb ⟨o',g1,g2.trans e2.symm,g3,trivial⟩
   |_=>exact SA.fail
  |iter cl l =>
   refine SA.onOpt fun z hz=>?_
   obtain⟨x,n⟩:=z
   obtain⟨rfl,rfl⟩:=LV hz
   obtain⟨⟨us⟩,e1,e2⟩:=q
   obtain⟨_,_,_,rfl,rfl,rfl,rfl⟩:=aK.three e2
   cases g:decide (0<n)with
   |true =>
    refine SA.nextPut H N hp ho (fun q=>nomatch q) e1 (aP rfl) (aP rfl) (y:=some (.int x s.toks)) ⟨_,rfl⟩ fun Q E post=>?_
    exact wpAny_pyNext_range_item e1 (of_decide_eq_true g) fun h' g1 sb=>post h' _ (fun b o hb q=>(sb.2 b hb).trans q) ⟨_,g1,rfl,⟨rfl,fun es ep q=>nomatch q⟩,_,g1,rfl,rfl,rfl,trivial⟩
   |false =>
    intro r st' hm
    obtain⟨hq1,hm⟩:=mK hm
    refine SA.nextPut H N hp ho (fun q=>nomatch q) e1 (aP rfl) (aP rfl) (so:=.dead) (r:=none) (y:=none) trivial (fun Q E post=>?_) r st' hm
    have hT:s.TypeIs (.ref p) "range_iterator":=⟨_,e1,rfl⟩
    unfold pyNext
    refine wpAny_bind (wpAny_attempt (wpAny_callSpecial?_slot (name:=Str.ofString "__next__") hT PySem.F.slot_range_iterator_next
     (wpAny_call_entry PySem.F.slot_range_iterator_next hT PySem.F.entry_range_iterator_next ?_ (PySem.F.args_range_iterator_next_1 _))))
    show wpAny _ _ (field (.ref p) 0>>=_) _ _ s
    refine wpAny_bind (wpAny_field e1 rfl (x:=rawInt x) rfl ?_)
    show wpAny _ _ (field (.ref p) 1>>=_) _ _ s
    refine wpAny_bind (wpAny_field e1 rfl (x:=rawInt n) rfl ?_)
    show wpAny _ _ (field (.ref p) 2>>=_) _ _ s
    refine wpAny_bind (wpAny_field e1 rfl (x:=rawInt 1) rfl ?_)
    show wpAny _ _ (if n≤0 then _ else _) _ _ s
    rw[if_pos (Int.not_lt.mp (of_decide_eq_false g))]
    refine wpAny_bind (wpAny_rule ?_)
    refine wpAny_bind ?_
    refine lM (X:="StopIteration") (N.hdok hh (HW hq1) hp (by rw[lC,ho];rfl) _ fun b o _ e=>e) (by first|rfl|(simp only[firstArgMember];rfl)) rfl fun h' a k ⟨oa,ha,hca⟩=>?_
    refine wpAny_bind (wpAny_isInstance (T:="StopIteration") (b:=true) ⟨oa,ha,hca⟩ isSubtype_stop ?_)
    exact wpAny_pure (post h' _ (fun b o _ q=>k b o q) ⟨_,k _ _ e1,rfl,Kept.refl _,trivial⟩)
  |_=>exact SA.fail
 |_=>exact SA.fail
end
end
section
open PySem.Calls
noncomputable def YQ(scope:Scope)(L:Addr)(qual:Str)(f:Addr)(code:Value):Env:=newEnv scope L mainGlobals [] qual (some f) code none builtinsNs
theorem JH{M:Model}{A:Around}{E:Value→Shared→Prop}{s:Shared}{scope:Scope}{binds:List (Str×Value)}{qual:Str}{f:Addr}{code:Value}{Q:Env→Shared→Prop}
  (hc:∀x∈scope.names,x.2≠.cell)(hl:∀x∈binds,scope.names.lookup x.1=some .local)(hk:scope.kind = .function)
  (hQ:∀h' o es ep,h'.Ns s.heap.objs.size (fun x=>binds.reverse.lookup x)→Heap.SameBut s.heap.objs.size (s.heap.push { cls:=.type "frame",data:=.dict #[] }) h' →
   h'.get? s.heap.objs.size=some o→o.cls = .type "frame"→o.data = .dict es ep→Q (YQ scope s.heap.objs.size qual f code) { s with heap:=h',toks:=s.toks+binds.length }) :
  wpAny M A (newFunctionEnv scope mainGlobals [] binds qual (some f) code none builtinsNs) Q E s:=by
 simp only[newFunctionEnv,Option.isSome_none,Bool.false_eq_true,if_false]
 refine wpAny_bind (wpAny_alloc ?_)
 rw[forIn_yield_id ([]:List (Str×Addr)) (fun x hx c=>by
  obtain⟨name,kind⟩:=x
  have:(kind==NameKind.cell)=false:=by simpa using hc _ hx
  simp only[this,Bool.false_eq_true,if_false])]
 refine wpAny_bind (wpAny_pure (wpAny_bind ?_))
 refine wpAny_forIn_list _
  (fun rest _ s'=>∃done h' o es ep,binds=done++rest∧s'={ s with heap:=h',toks:=s.toks+done.length } ∧
   h'.Ns s.heap.objs.size (fun x=>done.reverse.lookup x)∧Heap.SameBut s.heap.objs.size (s.heap.push { cls:=.type "frame",data:=.dict #[] }) h' ∧
   h'.get? s.heap.objs.size=some o∧o.cls = .type "frame"∧o.data = .dict es ep) _ ?_ ?_ binds _
  ⟨[],_,_,#[],0,rfl,rfl,Heap.Ns.new ..,Heap.SameBut.refl ..,Heap.get?_push_size _ rfl,rfl,rfl⟩
 ·rintro⟨name,v⟩ rest _ s' ⟨done,h',o,es,ep,hb,rfl,hns,hsb,ho,hcl,hd⟩
  have hk':Env.kindOf { scope,locals:=s.heap.objs.size,globals:=mainGlobals,cells:=[],qual,func:=some f,code,frame:=some s.heap.objs.size,builtins:=builtinsNs } name=some .local :=
   hl (name,v) (by rw[hb];simp)
  have hp:(({ scope,locals:=s.heap.objs.size,globals:=mainGlobals,cells:=[],qual,func:=some f,code,frame:=some s.heap.objs.size,builtins:=builtinsNs }:Env).scope.kind==.class||(({ scope,locals:=s.heap.objs.size,globals:=mainGlobals,cells:=[],qual,func:=some f,code,frame:=some s.heap.objs.size,builtins:=builtinsNs }:Env).scope.kind==.module &&
    ({ scope,locals:=s.heap.objs.size,globals:=mainGlobals,cells:=[],qual,func:=some f,code,frame:=some s.heap.objs.size,builtins:=builtinsNs }:Env).locals != ({ scope,locals:=s.heap.objs.size,globals:=mainGlobals,cells:=[],qual,func:=some f,code,frame:=some s.heap.objs.size,builtins:=builtinsNs }:Env).globals))=false:=by
   show(scope.kind==.class||(scope.kind==.module&&_))=false
   rw[hk];rfl
  simp only[storeName_local hk' hp]
  refine wpAny_bind (dR hns fun h'' hns' hsb' hkk=>?_)
  obtain⟨o',g1,g2,_,_,g5⟩:=hkk o ho
  obtain⟨es',ep',g6,_⟩:=g5 es ep hd
  refine wpAny_pure ⟨done++[(name,v)],h'',o',es',ep',by simp[hb],?_,?_,hsb.trans hsb',g1,g2.trans hcl,g6⟩
  ·simp[Nat.add_assoc]
  ·rw[lookup_reverse_snoc];exact hns'
 ·rintro _ s' ⟨done,h',o,es,ep,hb,rfl,hns,hsb,ho,hcl,hd⟩
  rw[List.append_nil]at hb;subst hb
  exact wpAny_pure (hQ h' o es ep hns hsb ho hcl hd)
section
variable{G:Gl}{c:Ac}{ρ ρ':Tr}{st:St}{s s₁ s':Shared}{h:Heap}
theorem aF.call{L L':Addr}(hL':s.heap.get? L'=none)(k:∀b o,s.heap.get? b=some o→s₁.heap.get? b=some o)(hg:s₁.gens=s.gens)(ho:s₁.os=s.os)(S:aF L' ρ s₁ ρ' s'):aF L ρ s ρ' s':=by
 have fr:∀a,s₁.heap.get? a=none→s.heap.get? a=none:=fun a q=>by
  cases z:s.heap.get? a with
  |none=>rfl
  |some o=>rw[k a o z]at q;cases q
 obtain⟨l,e,f⟩:=S.pre
 refine⟨⟨l,e,fun a ha=>fr a (f a ha)⟩,S.zin,fun x hx=>?_,fun b o e hb=>?_,fun b o e=>S.dom b o (k b o e),S.gens.trans hg,S.os.trans ho⟩
 ·rcases S.zout x hx with q|q|q
  ·exact .inl q
  ·exact .inr (.inl q)
  ·exact .inr (.inr (fr _ q))
 ·refine S.same b o (k b o e) ?_
  rintro(q|q)
  ·exact hb (.inl q)
  ·subst q;rw[hL']at e;cases e
theorem Now.back{c':Ac}{loc:List (Option SV)}{st':St}(H:GOK G)(N:Now G c ρ st s.heap){L':Addr}(hL':s.heap.get? L'=none)(k:∀b o,s.heap.get? b=some o→s₁.heap.get? b=some o)
  (hg:s₁.gens=s.gens)(ho:s₁.os=s.os)(S:aF L' ρ s₁ ρ' s')(R:Rep G ρ' st'.objs s'.heap)(hloc:st'.loc=st.loc)(hd:st'.d=st.d):Now G c ρ' st' s'.heap:=by
 have S0:aF c.env.locals ρ s ρ' s':=aF.call hL' k hg ho S
 obtain⟨oL0,_,eL0,_⟩:=N.fr
 refine⟨N.frames,by rw[hd];exact N.depth,by rw[hd];exact N.units,?_,R,?_,N.frs.keep S0.dom,fun hm=>?_,fun o hz=>?_,N.lo.2.2⟩
 ·have:=N.hd
  split at this
  ·exact this
  ·obtain⟨a,h1,h2⟩:=this;exact⟨a,S0.idx h1,h2⟩
 ·rw[hloc]
  refine N.fr.keep S0.le fun o e=>?_
  obtain⟨o',e',q⟩:=S.same _ o (k _ o e) (by
   rintro(q|q)
   ·exact N.frame_ne q rfl
   ·rw[q,hL']at e;cases e)
  refine⟨o',e',q.cls,q.data fun z=>?_⟩
  obtain⟨oL,_,eL,cL,_⟩:=N.fr
  rw[e]at eL;cases eL;exact cL z.1
 ·obtain⟨l,e,f⟩:=S0.pre
  rw[e]at hm
  rcases List.mem_append.mp hm with hm|hm
  ·exact N.lo.1 hm
  ·rw[f _ hm]at eL0;cases eL0
 ·rcases S0.zout _ hz with q|q|q
  ·exact N.lo.2.1 o q
  ·exact N.lo.1 q
  ·simp only at q;rw[eL0]at q;cases q
theorem Rep.grow(R:Rep G ρ st.objs h)(H:GOK G){h':Heap}(k:∀b o,h.get? b=some o→h'.get? b=some o):Rep G ρ st.objs h' :=
 R.outer H (X:=fun _=>False) (fun b o e _=>⟨o,k b o e,Eqv.refl o⟩) (fun _ z=>z.elim)
end
end
section
open PySem.Calls
noncomputable def CK.con:CK→Const
 |.none=>.none
 |.bool b=>.bool b
 |.int i=>.int i
 |.str s=>.str s
noncomputable def dB(l:List Str)(i:Nat):Str:=l.getD i Str.empty
noncomputable def glAt(G:Gl)(i:Nat):Str:=((G.gl[i]?).map (·.1)).getD Str.empty
section
variable(G:Gl)
mutual
noncomputable def dE(vs:List Str):IE→Expr
 |.cst k u p=>.Constant k.con u p
 |.loc i p=>.Name (dB vs i) p
 |.glb i p=>.Name (glAt G i) p
 |.attr o n p=>.Attribute (dE vs o) (G.an n) p
 |.call f args p=>.Call (dE vs f) (dEs vs args) [] p
 |.meth o n ap args p=>.Call (.Attribute (dE vs o) (G.an n) ap) (dEs vs args) [] p
 |.bin l op r p=>.BinOp (dE vs l) op (dE vs r) p
 |.cmp l op r p=>.Compare (dE vs l) [op] [dE vs r] p
 |.bool op l p=>.BoolOp op (dEs vs l) p
 |.not e p=>.UnaryOp .Not (dE vs e) p
 |.neg k u q p=>.UnaryOp .USub (.Constant (.int k) u q) p
 |.ite t b o p=>.IfExp (dE vs t) (dE vs b) (dE vs o) p
 |.sub v s p=>.Subscript (dE vs v) (dE vs s) p
 |.sFrom l p=>.Slice (some (dE vs l)) none none p
 |.sTo l p=>.Slice none (some (dE vs l)) none p
 |.tup es k p=>.Tuple (dEs vs es) k p
 |.list es p=>.List (dEs vs es) p
 |.dict ks l p=>.Dict (dKs vs ks) (dEs vs l) p
 |.comp elt t it sc cv cgs p=>.ListComp (dE cv elt) [⟨dT cv t,dE vs it,[],0⟩] sc p
noncomputable def dEs(vs:List Str):IEs→List Expr
 |.nil=>[]
 |.cons e r=>dE vs e::dEs vs r
noncomputable def dKs(vs:List Str):IEs→List (Option Expr)
 |.nil=>[]
 |.cons e r=>some (dE vs e)::dKs vs r
noncomputable def dT(vs:List Str):IT→Expr
 |.name i p=>.Name (dB vs i) p
 |.attr o n p=>.Attribute (dE vs o) (G.an n) p
 |.sub o i p=>.Subscript (dE vs o) (dE vs i) p
 |.tup is k p=>.Tuple (is.map fun x=>.Name (dB vs x.1) x.2) k p
end
mutual
noncomputable def dS(vs:List Str):IS→Stmt
 |.expr e p=>.Expr (dE G vs e) p
 |.retN p=>.Return none p
 |.ret e p=>.Return (some (dE G vs e)) p
 |.asg t v p=>.Assign [dT G vs t] (dE G vs v) p
 |.aug o n tp op v p=>.AugAssign (.Attribute (dE G vs o) (G.an n) tp) op (dE G vs v) p
 |.ifs t b e p=>.If (dE G vs t) (dSS vs b) (dSS vs e) p
 |.fors t it b p=>.For (dT G vs t) (dE G vs it) (dSS vs b) [] p
 |.whl t b p=>.While (dE G vs t) (dSS vs b) [] p
 |.raise e p=>.Raise (some (dE G vs e)) none p
 |.tryX b ty nm hb hp fin p=>.Try (dSS vs b) [.ExceptHandler (some (dE G vs ty)) (some (dB vs nm)) (dSS vs hb) hp] [] (dSS vs fin) p
 |.tryF b fin p=>.Try (dSS vs b) [] [] (dSS vs fin) p
 |.pass p=>.Pass p
noncomputable def dSS(vs:List Str):ISs→List Stmt
 |.nil=>[]
 |.cons s r=>dS vs s::dSS vs r
end
end
noncomputable def rF:IE→Bool
 |.call _ .nil _=>false
 |_=>true
noncomputable def zZ:IE→Bool
 |.attr _ _ _=>false
 |_=>true
noncomputable def WW:IE→Bool
 |.sFrom _ _=>false
 |.sTo _ _=>false
 |_=>true
noncomputable def IEs.len:IEs→Nat
 |.nil=>0
 |.cons _ r=>r.len+1
mutual
noncomputable def wE(n:Nat)(gs:List Nat):IE→Bool
 |.cst ..=>true
 |.loc i _=>Nat.blt i n
 |.glb i _=>cW i gs
 |.attr o _ _=>rF o&&wE n gs o
 |.call f args _=>zZ f&&Nat.ble args.len 20&&wE n gs f&&wEs n gs args
 |.meth o _ ap args p=>rF o&&Nat.beq ap.endLine p.line&&Nat.ble args.len 20&&wE n gs o&&wEs n gs args
 |.bin l _ r _=>wE n gs l&&wE n gs r
 |.cmp l _ r _=>wE n gs l&&wE n gs r
 |.bool _ l _=>wEs n gs l
 |.not e _=>wE n gs e
 |.neg ..=>true
 |.ite t b o _=>wE n gs t&&wE n gs b&&wE n gs o
 |.sub v s _=>WW v&&wE n gs v&&wE n gs s
 |.sFrom l _=>wE n gs l
 |.sTo l _=>wE n gs l
 |.tup es _ _=>wEs n gs es
 |.list es _=>wEs n gs es
 |.dict ks l _=>wEs n gs ks&&wEs n gs l
 |.comp elt t it _ cv _ _=>wE n gs it
noncomputable def wEs(n:Nat)(gs:List Nat):IEs→Bool
 |.nil=>true
 |.cons e r=>wE n gs e&&wEs n gs r
end
noncomputable def wT(n:Nat)(gs:List Nat):IT→Bool
 |.name i _=>Nat.blt i n
 |.attr o _ _=>wE n gs o
 |.sub o i _=>wE n gs o&&wE n gs i
 |.tup is _ _=>is.all fun x=>Nat.blt x.1 n
noncomputable def zY:IE→Bool
 |.comp ..=>false
 |_=>true
noncomputable def KF:IT→IE→Bool
 |.tup ..,.tup ..=>false
 |.attr ..,.comp ..=>false
 |.sub ..,.comp ..=>false
 |.tup ..,.comp ..=>false
 |_,_=>true
noncomputable def ISs.some:ISs→Bool
 |.nil=>false
 |_=>true
mutual
noncomputable def wS(n:Nat)(gs:List Nat):IS→Bool
 |.expr e _=>zY e&&wE n gs e
 |.retN _=>true
 |.ret e _=>wE n gs e
 |.asg t v _=>KF t v&&wT n gs t&&wE n gs v
 |.aug o _ _ _ v _=>wE n gs o&&wE n gs v
 |.ifs t b e _=>wE n gs t&&wSS n gs b&&wSS n gs e
 |.fors t it b _=>wT n gs t&&wE n gs it&&wSS n gs b
 |.whl t b _=>wE n gs t&&wSS n gs b
 |.raise e _=>wE n gs e
 |.tryX b ty nm hb _ fin _=>hb.some&&wSS n gs b&&wE n gs ty&&Nat.blt nm n&&wSS n gs hb&&wSS n gs fin
 |.tryF b fin _=>fin.some&&wSS n gs b&&wSS n gs fin
 |.pass _=>true
noncomputable def wSS(n:Nat)(gs:List Nat):ISs→Bool
 |.nil=>true
 |.cons s r=>wS n gs s&&wSS n gs r
end
inductive Flo where
 |next | brk | cont | ret(v:SV)
noncomputable def Flo.ctorIdx(x:Flo):Nat:=Flo.casesOn (motive:=fun _=>Nat) x 0 1 2 (fun _=>3)
noncomputable def cQ(ρ:Tr):Flo→Flow→Prop
 |.next,.next=>True
 |.brk,.brk=>True
 |.cont,.cont=>True
 |.ret a,.ret b=>VR ρ a b
 |_,_=>False
end
section
open PySem.Calls
structure Fn where
 np:Nat
 dv:List SV
 vars:List Str
 gs:List Nat
 body:ISs
 con:Bool
structure Pg where
 fn:Nat→Option Fn
 kl:Nat→Option (Nat×Bool)
structure Rec where
 ev:Option Nat→IE→M SV
 tst:Option Nat→IE→M Bool
 ex:Option Nat→ISs→M Flo
 call:Option Nat→SV→List SV→M SV
 whl:Option Nat→IE→ISs→Pos→M Flo
 fors:Option Nat→IT→SV→ISs→M Flo
 comp:Option Nat→IE→IT→SV→SV→M Unit
noncomputable def Rec.bot:Rec:=⟨fun _ _=>aH,fun _ _=>aH,fun _ _=>aH,fun _ _ _=>aH,fun _ _ _ _=>aH,fun _ _ _ _=>aH,fun _ _ _ _ _=>aH⟩
noncomputable def CK.sv:CK→SV
 |.none=>.none
 |.bool b=>.bool b
 |.int i=>.int i
 |.str s=>.str s
noncomputable def eK{α:Type}(m:M α):M α:=lF m aG fun e=>bnd (eN e) fun _=>thr e
noncomputable def Fn.full(F:Fn)(args:List SV):Option (List SV) :=
 bif Nat.ble args.length F.np&&Nat.ble F.np (args.length+F.dv.length)then some (args++F.dv.drop (args.length+F.dv.length - F.np))else none
noncomputable def aBg:Flo→SV
 |.ret v=>v
 |_=>.none
noncomputable def mFn(F:Fn)(body:M Flo)(args:List SV):M SV:=fun st=>match F.full args,st.d with
 |some l,d+1=>match eK body { st with loc:=l.map some++List.replicate (F.vars.length - F.np) none,d:=d }with
  |none=>none
  |some (.ok f,s1)=>some (.ok (aBg f),{ s1 with loc:=st.loc,d:=st.d })
  |some (.error e,s1)=>some (.error e,{ s1 with loc:=st.loc,d:=st.d })
 |_,_=>none
noncomputable def uR(f:Nat)(hd:Option Nat)(args:List SV):M SV:=fun st=>match st.orc with
 |w::r=>bif Nat.beq w.lp 0 then some (w.out st.objs,{ st with objs:=w.objs st.objs,orc:=r,qs:=.call f args hd st.d st.objs (w.out st.objs) (w.objs st.objs)::st.qs })else none
 |[]=>none
noncomputable def mBi(G:Gl)(id:BI)(args:List SV):M SV:=match id with
 |.len=>on1 args SD
 |.isinst=>on2 args fun a b=>onT b fun C=>SH G a C
 |.append=>on2 args jT
 |.pop=>on1 args RY
 |.index=>on2 args xR
 |.dget=>on2 args GZ
 |.dpop=>on3 args GX
 |.join=>on2 args GS
 |.split=>on2 args xJ
 |.einit=>on2 args fun a _=>xT G a
noncomputable def mTy(t:TY)(args:List SV):M SV:=match t with
 |.str=>on1 args RX
 |.range=>on1 args xM
 |.exc=>aH
noncomputable def iK(v:SV):Bool:=match v with
 |.none=>true
 |_=>false
section
variable(G:Gl)(P:Pg)(r:Rec)
noncomputable def uM(hd:Option Nat)(C:Nat)(F:Fn)(x:Bool)(args:List SV):M SV:=fun st =>
 bif x then bnd (mFn F (r.ex hd F.body) (.ref st.objs.length::args)) (fun v=>mIf (iK v) (aG (.ref st.objs.length))) { st with objs:=st.objs++[.exc C none .none false] }
 else bnd (mFn F (r.ex hd F.body) (.ref (st.objs.length+1)::args)) (fun v=>mIf (iK v) (aG (.ref (st.objs.length+1)))) { st with objs:=st.objs++[.idict []]++[.inst C (some st.objs.length)] }
noncomputable def mS (hd:Option Nat)(f:SV)(args:List SV):M SV:=match f with
 | .top a=>match P.fn a with
  | some F=>bif F.con then uR a hd args else mFn F (r.ex hd F.body) args
  | none=>match P.kl a with
   | some (init,x)=>match P.fn init with
    | some F=>uM r hd a F x args
    | none=>aH
   | none=>aH
 | .bi id=>mBi G id args
 | .ty t=>mTy t args
 | _=>aH
noncomputable def evs (hd:Option Nat):IEs→M (List SV)
 | .nil=>aG []
 | .cons e l=>bnd (r.ev hd e) fun v=>bnd (evs hd l) fun vs=>aG (v::vs)
noncomputable def evp(hd:Option Nat):IEs→IEs→M (List (Str×SV))
 |.nil,.nil=>aG []
 |.cons k ks,.cons e l=>bnd (r.ev hd k) fun kv=>onS kv fun s=>bnd (r.ev hd e) fun v=>bnd (evp hd ks l) fun vs=>aG ((s,v)::vs)
 |_,_=>aH
noncomputable def uQ(hd:Option Nat)(op:BoolOp):IEs→M SV
 |.nil=>aH
 |.cons e .nil=>r.ev hd e
 |.cons e l=>bnd (r.ev hd e) fun v=>bnd (dU v) fun t=>match op,t with
  |.And,false=>aG v
  |.Or,true=>aG v
  |_,_=>uQ hd op l
noncomputable def HC(hd:Option Nat)(op:BoolOp):IEs→M Bool
 |.nil=>aG (match op with | .And=>true | .Or=>false)
 |.cons e l=>bnd (r.tst hd e) fun t=>match op,t with
  |.And,false=>aG false
  |.Or,true=>aG true
  |_,_=>HC hd op l
noncomputable def isInt(v:SV):Bool:=match v with
 |.int _=>true
 |_=>false
noncomputable def BU:List (Str×SV)→List (Str×SV)→List (Str×SV)
 |acc,[]=>acc
 |acc,(k,v)::l=>BU (BY acc k v) l
noncomputable def rS(d:SV)(m:List (Str×SV)):M SV:=tV d fun i o=>MK o fun m0=>mIf m0.isEmpty (bnd (eX i (.sdict (BU [] m))) fun _=>aG d)
noncomputable def xU(hd:Option Nat)(ks l:IEs):M SV:=mIf (Nat.ble ks.len 15&&Nat.beq ks.len l.len) (bnd (bJ (.sdict [])) fun d=>bnd (evp r hd ks l) fun m=>rS d m)
noncomputable def GY(hd:Option Nat)(ks l:IEs):M SV:=match ks with
 |.nil=>match l with
  |.nil=>bJ (.sdict [])
  |.cons _ _=>aH
 |.cons k ks=>xU r hd (.cons k ks) l
noncomputable def sZ(G:Gl)(sc:Scope)(cv:List Str)(cgs:List Nat)(elt:IE)(t:IT):Bool :=
 (sc.kind==.function)&&(sc.names.all fun x=>(x.2 != .free)&&(x.2 != .cell)&&((x.2 != .local)||(sc.names.lookup x.1==some .local))) &&
  (cv.all fun x=>(sc.names.lookup x==some .local)&&!(x==("__debug__" : Str)))&&decide cv.Nodup &&
  (cgs.all fun i=>sc.names.lookup (glAt G i)==some .globalImplicit)&&wE cv.length cgs elt&&wT cv.length cgs t
noncomputable def XS(acc:SV)(loc:List (Option SV))(d:Nat)(x:Option (Except SV Unit×St)):Option (Except SV SV×St):=match x with
 |some (.ok _,s1)=>some (.ok acc,{ s1 with loc:=loc,d:=d })
 |_=>none
noncomputable def mCp(hd:Option Nat)(elt:IE)(t:IT)(i acc:SV)(n:Nat):M SV:=fun st=>XS acc st.loc st.d (r.comp hd elt t i acc { st with loc:=List.replicate n none })
noncomputable def YD(o:SO):Bool:=match o with
 |.lit _ _=>true
 |_=>false
noncomputable def MW(v:SV):M Unit:=pO v fun o=>mIf (YD o) (aG ())
noncomputable def mIp(op:Operator)(x y:SV):M SV:=match op with
 |.Add=>onI x fun a=>onI y fun b=>mPr (a+b)
 |.Sub=>onI x fun a=>onI y fun b=>mPr (a - b)
 |_=>aH
noncomputable def sE(hd:Option Nat):IE→M SV
 |.cst k _ _=>aG k.sv
 |.loc i _=>CO i
 |.glb i _=>bO ((G.gl[i]?).map (·.2))
 |.attr o n _=>bnd (r.ev hd o) fun v=>GV G v n
 |.call f args _=>bnd (r.ev hd f) fun fv=>bnd (evs r hd args) fun vs=>r.call hd fv vs
 |.meth o n _ args _=>bnd (r.ev hd o) fun ov=>bnd (GQ G ov n) fun p=>bnd (evs r hd args) fun vs=>r.call hd p.1 (p.2++vs)
 |.bin l op e _=>bnd (r.ev hd l) fun a=>bnd (r.ev hd e) fun b=>SK op a b
 |.cmp l op e _=>bnd (r.ev hd l) fun a=>bnd (r.ev hd e) fun b=>CP op a b
 |.bool op l _=>uQ r hd op l
 |.not e _=>bnd (r.ev hd e) fun v=>bnd (dU v) fun b=>aG (.bool (!b))
 |.neg k _ _ _=>aG (.int (-k))
 |.ite t b o _=>bnd (r.tst hd t) fun c=>bif c then r.ev hd b else r.ev hd o
 |.sub v s _=>bnd (r.ev hd v) fun a=>bnd (r.ev hd s) fun b=>GM a b
 |.sFrom l _=>bnd (r.ev hd l) fun v=>mIf (isInt v) (bJ (.iter .slice [v,.none,.none]))
 |.sTo l _=>bnd (r.ev hd l) fun v=>mIf (isInt v) (bJ (.iter .slice [.none,v,.none]))
 |.tup es _ _=>bnd (evs r hd es) fun vs=>mIf (Nat.ble vs.length 1000) (bJ (.tuple vs))
 |.list es _=>bnd (evs r hd es) fun vs=>mIf (Nat.ble vs.length 1000) (bJ (.list vs))
 |.dict ks l _=>GY r hd ks l
 |.comp elt t it sc cv cgs _=>mIf (sZ G sc cv cgs elt t) (bnd (r.ev hd it) fun x=>bnd (hH x) fun i=>bnd (bJ (.list [])) fun acc=>bnd (MW i) fun _=>mCp r hd elt t i acc cv.length)
noncomputable def sT(hd:Option Nat):IE→M Bool
 |.not e _=>bnd (r.tst hd e) fun b=>aG (!b)
 |.bool op l _=>HC r hd op l
 |.ite t b o _=>bnd (r.tst hd t) fun c=>bif c then r.tst hd b else r.tst hd o
 |.cmp l op e _=>bnd (r.ev hd l) fun a=>bnd (r.ev hd e) fun b=>bnd (CP op a b) fun c=>dU c
 |e=>bnd (r.ev hd e) fun v=>dU v
noncomputable def nL:List (Nat×Pos)→List SV→M Unit
 |[],[]=>aG ()
 |x::l,v::vs=>bnd (nJ x.1 v) fun _=>nL l vs
 |_,_=>aH
noncomputable def rW(hd:Option Nat)(v:SV)(n:Nat):M (List SV):=mIf hd.isNone (bnd (cD v) fun o=>mW o fun xs=>mIf (Nat.beq xs.length n) (aG xs))
noncomputable def sA(hd:Option Nat)(v:SV):IT→M Unit
 |.name i _=>bnd (xS v) fun y=>nJ i y
 |.attr o n _=>bnd (r.ev hd o) fun ov=>pV G ov n v
 |.sub o i _=>bnd (r.ev hd o) fun ov=>bnd (r.ev hd i) fun iv=>rN ov iv v
 |.tup is _ _=>bnd (rW hd v is.length) fun xs=>nL is xs
noncomputable def mTb(e:SV):M Unit:=onX e fun _ _ _ _ t=>mIf t (aG ())
noncomputable def nO{α:Type}(m:M α):M α:=lF m aG fun e=>bnd (mTb e) fun _=>thr e
noncomputable def mRz{α:Type}(hd:Option Nat)(i C:Nat)(d:Option Nat)(tb:Bool):M α:=match hd with
 |none=>thr (.ref i)
 |some j=>bif Nat.beq i j then thr (.ref i)else bnd (PJ j) fun _=>bnd (eX i (.exc C d (.ref j) tb)) fun _=>thr (.ref i)
noncomputable def xN{α:Type}(G:Gl)(hd:Option Nat)(v:SV):M α:=onX v fun i C d _ tb=>mIf (G.xc C) (mRz hd i C d tb)
noncomputable def HA(i:Nat):M Unit:=fun st=>bif Nat.blt i st.loc.length then some (.ok (),{ st with loc:=st.loc.set i none })else none
noncomputable def MX(i:Nat)(ty:IE):M Unit:=lF (r.ev (some i) ty) (fun v=>onT v fun C=>bnd (bP i) fun o=>WS i (fun _ D _ _ _=>mIf (Nat.beq C D&&G.xc D) (aG ())) o) fun _=>aH
noncomputable def pZ(nm:Nat):M Unit:=bnd (nJ nm .none) fun _=>HA nm
noncomputable def GL(i:Nat)(nm:Nat)(hb:ISs):M Flo:=lF (r.ex (some i) hb) (fun f=>bnd (pZ nm) fun _=>aG f) fun x=>bnd (eN x) fun _=>bnd (pZ nm) fun _=>thr x
noncomputable def rX(hd:Option Nat)(e:SV)(ty:IE)(nm:Nat)(hb:ISs):M Flo:=match e with
 |.ref i=>bnd (eN e) fun _=>bnd (MX G r i ty) fun _=>bnd (nJ nm e) fun _=>GL r i nm hb
 |_=>aH
noncomputable def GJ(hd:Option Nat)(b:ISs)(ty:IE)(nm:Nat)(hb:ISs):M Flo:=lF (r.ex hd b) aG fun e=>rX G r hd e ty nm hb
noncomputable def aBe(f:Flo):Bool:=match f with
 |.next=>true
 |_=>false
noncomputable def AG{α:Type}(m:M Flo)(k:M α):M α:=lF m (fun f=>mIf (aBe f) k) fun _=>aH
noncomputable def AO(e:SV)(fin:ISs):M Flo:=match e with
 |.ref i=>bnd (eN e) fun _=>AG (r.ex (some i) fin) (bnd (mTb e) fun _=>thr e)
 |_=>aH
noncomputable def MY(hd:Option Nat)(m:M Flo)(fin:ISs):M Flo:=match fin with
 |.nil=>m
 |fin=>lF m (fun f=>AG (r.ex hd fin) (aG f)) fun e=>AO r e fin
noncomputable def xQ:Except SV SV→Except SV Flo
 |.ok .none=>.ok .next
 |.ok (.bool true)=>.ok (.ret .none)
 |.ok v=>.ok (.ret v)
 |.error e=>.error e
noncomputable def nH(hd:Option Nat)(t:IE)(b:ISs):M (Option Flo):=eK (bnd (r.tst hd t) fun c=>bif c then bnd (r.ex hd b) fun f=>aG (some f)else aG none)
noncomputable def dN(o:Option Flo)(m:M Flo):M Flo:=match o with
 |none=>aG .next
 |some .next=>m
 |some .cont=>m
 |some .brk=>aG .next
 |some (.ret v)=>aG (.ret v)
noncomputable def sW(hd:Option Nat)(t:IE)(b:ISs)(p:Pos):M Flo:=fun st=>match st.orc with
 |⟨out,ob,lo,lp+1⟩::rest=>bif Nat.beq lp p.line then some (xQ (out st.objs),{ st with objs:=ob st.objs,loc:=lo st.loc,orc:=rest,qs:=.loop t b hd st.d st.loc st.objs (out st.objs) (lo st.loc) (ob st.objs)::st.qs })else
   bnd (nH r hd t b) (fun o=>dN o (r.whl hd t b p)) st
 |_=>bnd (nH r hd t b) (fun o=>dN o (r.whl hd t b p)) st
noncomputable def sF(hd:Option Nat)(t:IT)(it:SV)(b:ISs):M Flo:=bnd (eK (bnd (lP hd it) fun o=>match o with
 |none=>aG none
 |some v=>bnd (sA G r hd v t) fun _=>bnd (r.ex hd b) fun f=>aG (some f))) fun o=>dN o (r.fors hd t it b)
noncomputable def sCt(hd:Option Nat)(elt:IE)(t:IT)(it acc:SV):M Bool:=bnd (lP hd it) fun o=>match o with
 |none=>aG false
 |some v=>bnd (sA G r hd v t) fun _=>bnd (r.ev hd elt) fun x=>bnd (jT acc x) fun _=>aG true
noncomputable def sC(hd:Option Nat)(elt:IE)(t:IT)(it acc:SV):M Unit:=bnd (sCt G r hd elt t it acc) fun b=>bif b then r.comp hd elt t it acc else aG ()
noncomputable def sS(hd:Option Nat):IS→M Flo
 |.expr e _=>bnd (r.ev hd e) fun _=>aG .next
 |.retN _=>aG (.ret .none)
 |.ret e _=>bnd (r.ev hd e) fun v=>aG (.ret v)
 |.asg t v _=>bnd (r.ev hd v) fun x=>bnd (sA G r hd x t) fun _=>aG .next
 |.aug o n _ op v _=>bnd (r.ev hd o) fun ov=>bnd (GV G ov n) fun old=>bnd (r.ev hd v) fun x=>bnd (mIp op old x) fun y=>bnd (pV G ov n y) fun _=>aG .next
 |.ifs t b e _=>bnd (r.tst hd t) fun c=>bif c then r.ex hd b else r.ex hd e
 |.fors t it b _=>bnd (r.ev hd it) fun x=>bnd (hH x) fun i=>nO (r.fors hd t i b)
 |.whl t b p=>nO (r.whl hd t b p)
 |.raise e _=>bnd (r.ev hd e) fun v=>xN G hd v
 |.tryX b ty nm hb _ fin _=>MY r hd (GJ G r hd b ty nm hb) fin
 |.tryF b fin _=>MY r hd (eK (r.ex hd b)) fin
 |.pass _=>aG .next
noncomputable def sSS(hd:Option Nat):ISs→M Flo
 |.nil=>aG .next
 |.cons s l=>bnd (sS G r hd s) fun f=>match f with
  |.next=>sSS hd l
  |f=>aG f
noncomputable def step:Rec:=⟨sE G r,sT r,sSS G r,mS G P r,sW r,sF G r,sC G r⟩
end
noncomputable def run(G:Gl)(P:Pg)(n:Nat):Rec:=Nat.rec Rec.bot (fun _ r=>step G P r) n
end
section
open PySem.Calls
inductive FnObj(G:Gl)(f np:Nat)(dv:List SV)(vars:List Str)(gs:List Nat)(body:ISs):Prop
 |mk(oc:Value)(od:Option Addr)(osl:Array (Option Value))(qual name:Str)(params:Arguments)(scope:Scope)(dV kV doc pm:Value)(an:Option Addr)(cdv ct:Value)
  (lkf:G.K.lookup f=some ⟨oc,od,.func (fnOf name qual params (dSS G vars body) scope dV kV doc pm an cdv ct),osl⟩)(cd:codeIn G.K cdv qual=true)(kn:scope.kind = .function)(co:scope.isCoroutine=false)(ge:scope.isGenerator=false)
  (ce:∀x∈scope.names,x.2≠.cell)(lo:∀x∈vars,scope.names.lookup x=some .local)(gl:∀i∈gs,∀n v,G.gl[i]?=some (n,v)→scope.names.lookup n=some .globalImplicit)
  (bi:∀(vs:List Value) l,vs.length=l→np≤l+dv.length→l≤np→∃ds,aK (VR ⟨[],[]⟩) (dv.drop (l+dv.length - np)) ds ∧
   ∀s:Shared,G.K.In s.heap→BindsTo s (fnOf name qual params (dSS G vars body) scope dV kV doc pm an cdv ct) ⟨vs,[]⟩ ((vars.take np).zip (vs++ds)))
structure FnOK(G:Gl)(f:Nat)(F:Fn):Prop where
 obj:FnObj G f F.np F.dv F.vars F.gs F.body
 dbg:∀x∈F.vars,(x==("__debug__" : Str))=false
 nd:F.vars.Nodup
 np:F.np≤F.vars.length
 small:F.vars.length≤1000
 wf:wSS F.vars.length F.gs F.body=true
inductive KxI(G:Gl)(C i:Nat):Prop
 |mk(oi:Obj)(mN:Str→Option Value)(nm:Str)(q:Str)(N:Addr)(bs bm:List Value)(hdct:Bool)(sn:List Str)(sub:List Value)(ab:Bool)(col:Option Bool)(dd:Option Addr)(k0 k1 k2 k3 k5:Option Value)
  (l:G.K.lookup C=some (excClassObj nm q C N bs bm hdct sn sub ab col dd k0 k1 k2 k3 k5 "Exception.__new__"))(F:ExcBaseFacts "Exception" "Exception.__new__" "Exception.__init__" bm)(li:G.K.lookup i=some oi)(ci:oi.cls = .type "function")(mi:mN "__init__" = some (.ref i))(ns:∀h,G.K.In h→h.Ns N mN)
structure wI(G:Gl)(P:Pg):Prop where
 fn:∀f F,P.fn f=some F→FnOK G f F
 kl:∀C i,P.kl C=some (i,false)→makesIn G.K C=true∧findIn G.K (.ref C) "__init__" = some (some (.ref i))∧typeIn G.K (.ref i)=some (.type "function")∧(∀h,G.K.In h→∃o cd,h.get? C=some o∧o.data = .cls cd)∧(P.fn i).isSome=true∧P.fn C=none
 kx:∀C i,P.kl C=some (i,true)→G.xc C=true∧(P.fn i).isSome=true∧P.fn C=none∧KxI G C i
noncomputable def EnvG(G:Gl)(c:Ac)(gs:List Nat):Prop:=∀i∈gs,∀n v,G.gl[i]?=some (n,v)→c.env.kindOf n=some .globalImplicit
noncomputable def KindOK(P:Pg)(f:SV):Prop:=(∃id,f = .bi id)∨(∃t,f = .ty t)∨∃a,f = .top a∧((P.fn a).isSome=true∨(P.kl a).isSome=true)
noncomputable abbrev SEv(G:Gl)(r:Rec):Prop:=∀{c:Ac}{gs:List Nat}{ρ:Tr}{st:St}{s:Shared},EnvB c→EnvG G c gs→Now G c ρ st s.heap→∀e,wE c.vars.length gs e=true→SA G c VR (eval (dE G c.vars e) c.env) (r.ev c.hd e) ρ st s
noncomputable abbrev STst(G:Gl)(r:Rec):Prop:=∀{c:Ac}{gs:List Nat}{ρ:Tr}{st:St}{s:Shared},EnvB c→EnvG G c gs→Now G c ρ st s.heap→∀e,wE c.vars.length gs e=true→SA G c (fun _ b b'=>b'=b) (isTrue (dE G c.vars e) c.env (eval (dE G c.vars e) c.env)) (r.tst c.hd e) ρ st s
noncomputable abbrev SCal(G:Gl)(r:Rec):Prop:=∀{c:Ac}{ρ:Tr}{st:St}{s:Shared},Now G c ρ st s.heap→∀f fv a vs,VR ρ f fv→aK (VR ρ) a vs→SA G c VR (call fv vs) (r.call c.hd f a) ρ st s
structure SRec(G:Gl)(P:Pg)(r:Rec):Prop where
 gev:∀hd e,Grows (r.ev hd e)
 gtst:∀hd e,Grows (r.tst hd e)
 gex:∀hd b,Grows (r.ex hd b)
 gcall:∀hd f a,Grows (r.call hd f a)
 gwhl:∀hd t b p,Grows (r.whl hd t b p)
 gfors:∀hd t i b,Grows (r.fors hd t i b)
 gcomp:∀hd e t i a,Grows (r.comp hd e t i a)
 kind:∀hd f a st x,r.call hd f a st=some x→KindOK P f
 ev:SEv G r
 tst:STst G r
 call:SCal G r
theorem bX{r:Rec}{hd:Option Nat}(h:∀hd e,Grows (r.ev hd e)):∀l,Grows (evs r hd l)
 |.nil=>Grows.ret
 |.cons e l=>Grows.bnd (h hd e) fun _=>Grows.bnd (bX h l) fun _=>Grows.ret
section
variable {G:Gl}{P:Pg}{r:Rec}{c:Ac}{gs:List Nat}{ρ ρ':Tr}{st:St}{s:Shared}
theorem jI (vs:List Str)(env:Env):∀ l:IEs,starEach (dEs G vs l) env=(evalEach (dEs G vs l) env).map fun t=>(false,t)
 | .nil=>rfl
 | .cons e l=>by
  have:=jI vs env l
  show starEach (dE G vs e::dEs G vs l) env=(false,eval (dE G vs e) env)::(evalEach (dEs G vs l) env).map fun t=>(false,t)
  rw [← this]
  cases e<;>rfl
theorem gB(vs:List Str)(env:Env)(p:Pos)(l:IEs):backTo p (starEach (dEs G vs l) env)=(evalEach (dEs G vs l) env).map fun t=>(false,t):=by
 rw[jI]
 unfold backTo
 rw[List.map_map]
 rfl
theorem vU{it:IE}{env:Env}{x:Value}:foldedSetIterable (dE G c.vars it) env x=Pure.pure x:=by
 cases it<;>rfl
theorem fP{n:Nat}{e:IE}{l:IEs}(h:wEs n gs (.cons e l)=true):wE n gs e=true∧wEs n gs l=true:=Bool.and_eq_true_iff.mp h
theorem gG(S:SRec G P r)(EB:EnvB c)(EG:EnvG G c gs):∀(l:IEs){ρ:Tr}{st:St}{s:Shared},Now G c ρ st s.heap→wEs c.vars.length gs l=true →
  SA G c (fun ρ a b=>aK (VR ρ) a b) (spliced ((evalEach (dEs G c.vars l) c.env).map fun t=>(false,t))) (evs r c.hd l) ρ st s
 |.nil,ρ,st,s,N,_=>SA.pure N trivial
 |.cons e l,ρ,st,s,N,h=>by
  obtain⟨h1,h2⟩:=fP h
  show SA G c _ (do
   let v ←eval (dE G c.vars e) c.env
   let here ←pure [v]
   return here++(←holding here (PySem.spliced ((evalEach (dEs G c.vars l) c.env).map fun t=>(false,t))))) _ ρ st s
  refine SA.bind (fun _=>Grows.bnd (bX S.gev l) fun _=>Grows.ret) (S.ev EB EG N e h1) fun ρ₁ st₁ s₁ a b S₁ N₁ _ hab=>?_
  refine SA.look (x:=[b]) (fun Q E q=>wpAny_pure q) ?_
  refine SA.bind (fun _=>Grows.ret) (SA.holding (gG S EB EG l N₁ h2)) fun ρ₂ st₂ s₂ as bs S₂ N₂ _ hs=>?_
  exact SA.pure N₂ ⟨S₂.vr hab,hs⟩
theorem evalArgs_plain{M:Model}{A:Around}{E:Value→Shared→Prop}{s:Shared}{f:Value}{Q:Args→Shared→Prop}(ts:List (Sem Value))(h:wpAny M A (PySem.spliced (ts.map fun t=>(false,t))) (fun vs s'=>Q ⟨vs,[]⟩ s') E s) :
  wpAny M A (evalArgs f true (ts.map fun t=>(false,t)) []) Q E s:=by
 have fin:∀vs s₁,Q ⟨vs,[]⟩ s₁→wpAny M A (evalAll []>>=fun ks=>Pure.pure vs>>=fun p=>Pure.pure (⟨p,(([]:List (Option Str×Sem Value)).filterMap (·.1)).zip ks⟩:Args)) Q E s₁:=fun vs s₁ q=>wpAny_bind (wpAny_pure (wpAny_bind (wpAny_pure (wpAny_pure q))))
 unfold evalArgs
 match ts,h with
 |[],h =>
  show wpAny M A (PySem.spliced []>>=_) Q E s
  refine wpAny_bind (wpAny_mono h (fun vs s₁ q=>wpAny_bind (wpAny_pure (wpAny_holding (fin vs s₁ q)))) fun _ _ x=>x)
 |[t],h =>
  show wpAny M A (PySem.spliced [(false,t)]>>=_) Q E s
  refine wpAny_bind (wpAny_mono h (fun vs s₁ q=>wpAny_bind (wpAny_pure (wpAny_holding (fin vs s₁ q)))) fun _ _ x=>x)
 |t::u::l,h =>
  show wpAny M A (PySem.spliced ((false,t)::(false,u)::l.map fun t=>(false,t))>>=_) Q E s
  refine wpAny_bind (wpAny_mono h (fun vs s₁ q=>wpAny_bind (wpAny_pure (wpAny_holding (fin vs s₁ q)))) fun _ _ x=>x)
theorem MP(S:SRec G P r)(EB:EnvB c)(EG:EnvG G c gs)(N:Now G c ρ st s.heap)(l:IEs)(h:wEs c.vars.length gs l=true)(f:Value)(p:Pos) :
  SA G c (fun ρ a b=>aK (VR ρ) a b.pos∧b.kw=[]) (evalArgs f true (backTo p (starEach (dEs G c.vars l) c.env)) (backToKw p (keywordEach [] c.env))) (evs r c.hd l) ρ st s:=by
 rw[gB]
 intro r' st' hm hq Q E post
 have key:=gG S EB EG l N h r' st' hm hq
 refine evalArgs_plain _ (key _ _ fun ρ' s' S' N'=>?_)
 have q:=post ρ' s' S' N'
 cases r' with
 |error e=>exact q
 |ok as=>exact fun bs hb=>q ⟨bs,[]⟩ ⟨hb,rfl⟩
theorem jU(vs:List Str)(env:Env):∀l:IEs,(evalEach (dEs G vs l) env).length=l.len
 |.nil=>rfl
 |.cons e l=>congrArg (· + 1) (jU vs env l)
theorem CT(PO:wI G P)(N:Now G c ρ st s.heap){f:SV}{fv:Value}(hk:KindOK P f)(hf:VR ρ f fv){Q:Keeper→Shared→Prop}{E:Value→Shared→Prop}(h:∀k,k = .machine∨k = .frame→Q k s):WP G c (keeperOf fv) Q E s:=by
 have X:=N.rep.kin
 rcases hk with⟨id,rfl⟩|⟨t,rfl⟩|⟨a,rfl,hk⟩
 ·cases hf;exact wpAny_pure (h _ (.inl rfl))
 ·cases hf;exact wpAny_pure (h _ (.inl rfl))
 ·cases hf
  rcases hk with hk|hk
  ·obtain⟨F,hF⟩:=Option.isSome_iff_exists.mp hk
   obtain⟨oc,od,osl,qual,name,params,scope,dV,kV,doc,pm,an,cdv,ct,ho,_⟩:=(PO.fn a F hF).obj
   exact wpAny_bind (wpAny_load (X _ _ ho) (wpAny_pure (h _ (.inr rfl))))
  ·obtain⟨⟨i,x⟩,hx⟩:=Option.isSome_iff_exists.mp hk
   cases x with
   |true =>
    obtain⟨_,_,_,oi,mN,nm,q,N,bs,bm,hdct,sn,sub,ab,col,dd,k0,k1,k2,k3,k5,hC,_⟩:=PO.kx a i hx
    obtain⟨hp,gg,d,t,os⟩:=s
    exact wpAny_keeperOf_exc (X _ _ hC) (h _ (.inl rfl))
   |false =>
    obtain⟨hmk,_,_,hc,_⟩:=PO.kl a i hx
    obtain⟨o,cd,ho,hd⟩:=hc _ X
    refine wpAny_bind (wpAny_load ho ?_)
    rw[hd]
    refine wpAny_bind ((makes_of (M:=model G.prog G.w) X hmk).call.here ?_)
    rw[if_pos (by decide)]
    exact wpAny_pure (h _ (.inl rfl))
theorem tW{α:Type}{R:Tr→α→Value→Prop}{t:Sem Value}{m:M α}(h:SA G c R t m ρ st s):SA G c R (t>>=fun r=>PySem.holding [r] PySem.point>>=fun _=>Pure.pure r) m ρ st s:=fun r' st' hm hq Q E post =>
 wpAny_bind (h r' st' hm hq _ _ fun ρ' s' S' N'=>by
  have q:=post ρ' s' S' N'
  cases r' with
  |error e=>exact q
  |ok a=>exact fun b hb=>wpAny_bind (wpAny_holding (wpAny_point (wpAny_pure (q b hb)))))
theorem HM{p:Pos}{env:Env}:backToKw p (keywordEach [] env)=[]:=rfl
theorem LF{l:IEs}{p:Pos}{vs:List Str}{env:Env}:((backTo p (starEach (dEs G vs l) env)).any (·.1)||(backToKw p (keywordEach [] env)).any (·.1.isNone))=false:=by
 rw[gB,HM,List.any_nil,Bool.or_false]
 simp
theorem TS{l:IEs}{p:Pos}{vs:List Str}{env:Env}(hl:l.len≤20):¬((backTo p (starEach (dEs G vs l) env)).length+2*(backToKw p (keywordEach [] env)).length>30):=by
 rw[gB,List.length_map,jU]
 exact Nat.not_lt_of_le (Nat.le_trans hl (by decide))
theorem lO(H:GOK2 G)(PO:wI G P)(S:SRec G P r)(EB:EnvB c)(EG:EnvG G c gs)(N:Now G c ρ st s.heap){f:SV}{fv:Value}(hf:VR ρ f fv){first:List SV}{fs:List Value}(hfs:aK (VR ρ) first fs)(l:IEs)
  (h:wEs c.vars.length gs l=true)(hl:l.len≤20)(p:Pos) :
  SA G c VR (callWith p fv fs (backTo p (starEach (dEs G c.vars l) c.env)) (backToKw p (keywordEach [] c.env))) (bnd (evs r c.hd l) fun vs=>r.call c.hd f (first++vs)) ρ st s:=by
 unfold PySem.callWith
 refine SA.bind (fun _=>S.gcall _ _ _) (SA.holding (MP S EB EG N l h fv p)) fun ρ₁ st₁ s₁ as a S₁ N₁ _ ha=>SA.standAt ?_
 obtain⟨apos,akw⟩:=a
 obtain⟨ha,hk⟩:=ha
 cases(show akw=[] from hk)
 intro r' st' hm hq Q E post
 have hf1:=S₁.vr hf
 have key:SA G c VR (PySem.call fv (fs++apos) []) (r.call c.hd f (first++as)) ρ₁ st₁ s₁:=S.call N₁ f fv _ _ hf1 ((S₁.vrs hfs).append ha)
 dsimp only
 rw[LF]
 refine wpAny_bind (CT PO N₁ (S.kind _ _ _ _ _ hm) hf1 fun k hk=>?_)
 rcases hk with rfl|rfl
 ·exact tW key r' st' hm hq Q E fun ρ' s' S' N'=>post ρ' s' S' N'
 ·show wpAny _ _ (if _>30 then _ else _) _ _ _
  rw[if_neg (TS hl)]
  exact tW (t:=callMarked plainCall fv (fs++apos) []) (fun r' st' hm hq Q E post=>by unfold callMarked;exact wpAny_keep (key r' st' hm hq Q E post)) r' st' hm hq Q E fun ρ' s' S' N'=>post ρ' s' S' N'
end
end
section
open PySem.Calls
section
variable{G:Gl}{P:Pg}{r:Rec}{c:Ac}{gs:List Nat}{ρ ρ':Tr}{st:St}{s:Shared}
theorem zM{α β:Type}{R:Tr→α→β→Prop}(N:Now G c ρ st s.heap){t:Sem β}{a:α}{b:Nat→β}(hr:∀k,R ρ a (b k))(h:∀(Q:β→Shared→Prop) E,(∀tk,Q (b s.toks) { s with toks:=tk })→WP G c t Q E s):SA G c R t (aG a) ρ st s :=
 SA.ret0 N (hr s.toks) h
theorem FU(N:Now G c ρ st s.heap)(k:CK):SA G c VR (constValue c.env k.con) (aG k.sv) ρ st s:=by
 cases k with
 |none=>exact SA.pure N rfl
 |bool b=>exact SA.pure N rfl
 |int i=>exact zM N (b:=fun k=>.int i k) (fun k=>⟨k,rfl⟩) fun Q E q=>wpAny_mkInt (q _)
 |str x=>exact zM N (b:=fun k=>.str x k) (fun k=>⟨k,rfl⟩) fun Q E q=>wpAny_mkText (q _)
theorem NT{i:Nat}{n:Str}{v:SV}(h:G.gl[i]?=some (n,v)):glAt G i=n:=by unfold glAt;rw[h];rfl
theorem RS(H:GOK G)(EB:EnvB c)(EG:EnvG G c gs)(N:Now G c ρ st s.heap){i:Nat}(hi:i∈gs)(p:Pos):SA G c VR (eval (.Name (glAt G i) p) c.env) (bO ((G.gl[i]?).map (·.2))) ρ st s:=by
 intro r st' hm hq Q E post
 obtain⟨v,hv,rfl,rfl⟩:=nK hm
 obtain⟨⟨n,v'⟩,h1,h2⟩:=Option.map_eq_some_iff.mp hv
 have h2:v'=v:=h2
 subst h2
 rw[NT h1]
 obtain⟨g1,g2,g3⟩:=H.gl i n v' h1
 rw[arm_eval_Name]
 refine wpAny_bind (wpAny_standAt ?_)
 rw[if_neg (by rw[g1];exact Bool.false_ne_true),loadName_read EB.kind (EG i hi n v' h1)]
 have post':=post ρ s aF.refl N (rv v') g2.nil
 rcases g3 _ N.rep.kin with⟨mg,e1,e2⟩|⟨mg,e1,e2,e4⟩
 ·exact loadGlobal_global (by rw[EB.glob];exact e1) e2 post'
 ·exact loadGlobal_builtin (by rw[EB.glob];exact e1) e2 (by rw[EB.blt];exact N.rep.bn) e4 post'
theorem MR{l:List Str}{i:Nat}(h:i<l.length):l[i]?=some (dB l i):=by
 unfold dB
 rw[List.getD_eq_getElem?_getD,List.getElem?_eq_getElem h];rfl
theorem UK{a b:Nat}(h:Nat.blt a b=true):a<b:=Nat.le_of_ble_eq_true h
theorem RQ(EB:EnvB c)(N:Now G c ρ st s.heap){i:Nat}(hi:Nat.blt i c.vars.length=true)(p:Pos):SA G c VR (eval (.Name (dB c.vars i) p) c.env) (CO i) ρ st s:=by
 have hx:=MR (UK hi)
 rw[arm_eval_Name]
 refine SA.standAt ?_
 rw[if_neg (by rw[(EB.loc _ (List.mem_of_getElem? hx)).2];exact Bool.false_ne_true)]
 exact SA.loadLocal EB N hx
theorem zS{o:IE}(h:rF o=true)(vs:List Str)(attr:Str)(env:Env)(whole:Sem Value):attributeBase (dE G vs o) attr env whole=whole:=by
 unfold attributeBase
 cases o with
 |call f args p =>
  cases args with
  |nil=>cases h
  |cons e l=>cases f<;>rfl
 |meth=>rfl
 |_=>rfl
theorem gH{α:Type}{R:Tr→α→Value→Prop}{vs:List Value}{t:Sem Value}{m:M α}(h:SA G c R t m ρ st s):SA G c R (operate vs t) m ρ st s :=
 fun r st' hm hq Q E post=>wpAny_operating (h r st' hm hq Q E post)
theorem MO(H:GOK2 G)(S:SRec G P r)(EB:EnvB c)(EG:EnvG G c gs)(N:Now G c ρ st s.heap){o:IE}{n:Nat}{p:Pos}(h1:rF o=true)(h2:wE c.vars.length gs o=true) :
  SA G c VR (eval (.Attribute (dE G c.vars o) (G.an n) p) c.env) (bnd (r.ev c.hd o) fun v=>GV G v n) ρ st s:=by
 rw[arm_eval_Attribute,zS h1]
 refine SA.bind (fun _=>iM) (S.ev EB EG N o h2) fun ρ₁ st₁ s₁ a b S₁ N₁ _ hab=>?_
 refine SA.standAt ?_
 have g:=SA.holding (vs:=[b]) (SA.get (expr:=true) H.toGOK N₁ hab (n:=n) rfl)
 intro r' st' hm hq Q E post
 refine wpAny_bind (g r' st' hm hq _ _ fun ρ' s' S' N'=>?_)
 have q:=post ρ' s' S' N'
 cases r' with
 |error e=>exact q
 |ok a=>exact fun b hb=>wpAny_bind (wpAny_letTemporaryGo (wpAny_pure (q b hb)))
theorem CN(N:Now G c ρ st s.heap){x y:SV}{a:Value}(hx:VR ρ x a){r':Except SV SV}{st':St}(hm:GM x y st=some (r',st')) :
  ∃T id,s.TypeIs a T∧typeLookup (.type T) "__getitem__" = pure (some (.builtin id))∧∃p,a = .ref p:=by
 obtain⟨o,p,rfl,ho,hm,-⟩:=N.look hx hm
 obtain⟨T,hT,_⟩:=BG hm
 cases o with
 |list xs=>obtain⟨vs,n,e1,_⟩:=ho;exact⟨"list",_,⟨_,e1,rfl⟩,slot_list_getitem.lookup,p,rfl⟩
 |tuple xs=>obtain⟨vs,n,e1,_⟩:=ho;exact⟨"tuple",_,⟨_,e1,rfl⟩,PySem.F.slot_tuple_getitem.lookup,p,rfl⟩
 |clist xs=>obtain⟨vs,n,e1,_,_⟩:=ho;exact⟨"list",_,⟨_,e1,rfl⟩,slot_list_getitem.lookup,p,rfl⟩
 |sdict m=>obtain⟨vs,n,ep,e1,_,_⟩:=ho;exact⟨"dict",_,⟨_,e1,rfl⟩,PySem.F.slot_dict_getitem.lookup,p,rfl⟩
 |_=>exact nos hT
theorem jH(slice:Expr)(o i:Value):∃vs,subscripted slice false o i=operate vs (getItem o i):=by
 cases slice with
 |Slice a b d p=>cases d<;>exact⟨_,rfl⟩
 |_=>exact⟨_,rfl⟩
theorem RN(H:GOK2 G)(S:SRec G P r)(EB:EnvB c)(EG:EnvG G c gs)(N:Now G c ρ st s.heap){v i:IE}{p:Pos}(h1:wE c.vars.length gs v=true)(h2:wE c.vars.length gs i=true) :
  SA G c VR (eval (.Subscript (dE G c.vars v) (dE G c.vars i) p) c.env) (bnd (r.ev c.hd v) fun a=>bnd (r.ev c.hd i) fun b=>GM a b) ρ st s:=by
 rw[arm_eval_Subscript]
 refine SA.bind (fun _=>Grows.bnd (S.gev _ _) fun _=>kT) (S.ev EB EG N v h1) fun ρ₁ st₁ s₁ a b S₁ N₁ _ hab=>?_
 refine SA.bind (fun _=>kT) (SA.holding (S.ev EB EG N₁ i h2)) fun ρ₂ st₂ s₂ x y S₂ N₂ _ hxy=>?_
 refine SA.standAt ?_
 intro r' st' hm hq Q E post
 obtain⟨T,id,hT,hl,pa,hpa⟩:=CN N₂ (S₂.vr hab) hm
 have g:=SA.sub H.toGOK N₂ (S₂.vr hab) hxy r' st' hm hq
 rw[getitemInPython_of_ne (by rw[hpa];exact fun q=>by cases q)]
 refine wpAny_bind (wpAny_bind (wpAny_specialOf hT hl (wpAny_pure ?_)))
 obtain⟨vs,e⟩:=jH (dE G c.vars i) b y
 rw[e]
 refine wpAny_bind (wpAny_operating (g _ _ fun ρ' s' S' N'=>?_))
 have q:=post ρ' s' S' N'
 cases r' with
 |error e=>exact q
 |ok a=>exact fun b hb=>wpAny_bind (wpAny_letTemporaryGo (wpAny_pure (q b hb)))
theorem jB{r:Rec}{hd:Option Nat}{op:BoolOp}(h:∀hd e,Grows (r.ev hd e)):∀l,Grows (uQ r hd op l)
 |.nil=>aB
 |.cons e .nil=>h _ _
 |.cons e (.cons e' l)=>by
  have ih:=jB (hd:=hd) (op:=op) h (.cons e' l)
  show Grows (bnd (r.ev hd e) fun v=>bnd (dU v) fun t=>match op,t with
   |.And,false=>aG v
   |.Or,true=>aG v
   |_,_=>uQ r hd op (.cons e' l))
  refine Grows.bnd (h _ _) fun _=>Grows.bnd bA fun t=>?_
  cases op<;>cases t<;>first|exact Grows.ret|exact ih
theorem kX{r:Rec}{hd:Option Nat}{op:BoolOp}(h:∀hd e,Grows (r.tst hd e)):∀l,Grows (HC r hd op l)
 |.nil=>Grows.ret
 |.cons e l=>by
  have ih:=kX (hd:=hd) (op:=op) h l
  show Grows (bnd (r.tst hd e) fun t=>match op,t with
   |.And,false=>aG false
   |.Or,true=>aG true
   |_,_=>HC r hd op l)
  refine Grows.bnd (h _ _) fun t=>?_
  cases op<;>cases t<;>first|exact Grows.ret|exact ih
theorem zR(S:SRec G P r)(H:GOK2 G)(EB:EnvB c)(EG:EnvG G c gs)(op:BoolOp)(p:Pos):∀(l:IEs){ρ:Tr}{st:St}{s:Shared},Now G c ρ st s.heap→wEs c.vars.length gs l=true →
  SA G c VR (boolOp p op (evalEach (dEs G c.vars l) c.env)) (uQ r c.hd op l) ρ st s
 |.nil,_,_,_,_,_=>SA.fail
 |.cons e .nil,_,_,_,N,h=>S.ev EB EG N e (fP h).1
 |.cons e (.cons e' l),ρ,st,s,N,h=>by
  obtain⟨h1,h2⟩:=fP h
  have gr:=jB (hd:=c.hd) (op:=op) S.gev
  show SA G c VR (do
   let v ←eval (dE G c.vars e) c.env
   PySem.standAt p
   let t ←PySem.holding [v] (PySem.truthy v)
   match op,t with
   |.And,false | .Or,true=>Pure.pure v
   |_,_=>boolOp p op (evalEach (dEs G c.vars (.cons e' l)) c.env)) _ ρ st s
  refine SA.bind (fun _=>Grows.bnd bA fun t=>?_) (S.ev EB EG N e h1) fun ρ₁ st₁ s₁ a b S₁ N₁ _ hab=>?_
  ·cases op<;>cases t<;>first|exact Grows.ret|exact gr _
  refine SA.standAt ?_
  refine SA.bind (fun t=>?_) (SA.holding (SA.truthy H.toGOK N₁ hab)) fun ρ₂ st₂ s₂ t t' S₂ N₂ _ ht=>?_
  ·cases op<;>cases t<;>first|exact Grows.ret|exact gr _
  have ht:t'=t:=ht
  subst ht
  have rec':=zR S H EB EG op p (.cons e' l) N₂ h2
  cases op<;>cases t'
  ·exact SA.pure N₂ (S₂.vr hab)
  ·exact rec'
  ·exact rec'
  ·exact SA.pure N₂ (S₂.vr hab)
end
end
section
open PySem.Calls
section
variable{G:Gl}{P:Pg}{r:Rec}{c:Ac}{gs:List Nat}{ρ ρ':Tr}{st:St}{s:Shared}
noncomputable def SdR(ρ:Tr)(m:List (Str×SV))(kvs:List (Str×Value)):Prop:=aK (fun e kv=>e.1=kv.1∧VR ρ e.2 kv.2) m kvs
theorem ES:∀{m:List (Str×SV)}{kvs:List (Str×Value)}{acc:List (Str×SV)}{akv:List (Str×Value)},SdR ρ m kvs→SdR ρ acc akv→SdR ρ (BU acc m) (merged akv kvs)
 |[],[],_,_,_,h=>h
 |(k,v)::m,(k',y)::kvs,acc,akv,h,ha=>by
  obtain⟨⟨e,h1⟩,h2⟩:=h
  have e:k=k':=e
  subst e
  show SdR ρ (BU (BY acc k v) m) (merged (stored akv k y) kvs)
  exact ES h2 (EQ ha k h1)
 |[],_::_,_,_,h,_=>h.elim
 |_::_,[],_,_,h,_=>h.elim
noncomputable def RP(G:Gl)(ρ:Tr)(m:List (Str×SV))(vs:List (Value×Value)):Prop:=∃kvs,Carries (strKind G.prog G.w) vs kvs∧SdR ρ m kvs
theorem iN(h:∀hd e,Grows (r.ev hd e)){hd:Option Nat}:∀ks l,Grows (evp r hd ks l)
 |.nil,.nil=>Grows.ret
 |.cons k ks,.cons e l=>by
  have ih:=iN h (hd:=hd) ks l
  exact Grows.bnd (h _ _) fun kv=>Grows.onS fun _=>Grows.bnd (h _ _) fun _=>Grows.bnd ih fun _=>Grows.ret
 |.nil,.cons _ _=>aB
 |.cons _ _,.nil=>aB
noncomputable def prs(G:Gl)(vs:List Str)(env:Env)(p:Pos):IEs→IEs→List (Sem Value×Sem Value)
 |.cons k ks,.cons e l=>(eval (dE G vs k) env,(do let x ←eval (dE G vs e) env;standAt p;Pure.pure x))::prs G vs env p ks l
 |_,_=>[]
theorem pM(vs:List Str)(env:Env)(p:Pos):∀ks l:IEs,ks.len=l.len →
  (evalEachOpt (dKs G vs ks) env).zip ((evalEach (dEs G vs l) env).map fun v=>do let x ←v;standAt p;Pure.pure x)=(prs G vs env p ks l).map fun q=>(some q.1,q.2)
 |.nil,.nil,_=>rfl
 |.cons k ks,.cons e l,h=>by
  have:=pM vs env p ks l (Nat.succ.inj h)
  exact congrArg (fun t=>(some (eval (dE G vs k) env),(do let x ←eval (dE G vs e) env;standAt p;Pure.pure x))::t) this
 |.nil,.cons _ _,h=>by cases h
 |.cons _ _,.nil,h=>by cases h
theorem zK(vs:List Str)(env:Env)(p:Pos):∀ks l:IEs,ks.len=l.len→(prs G vs env p ks l).length=ks.len
 |.nil,.nil,_=>rfl
 |.cons k ks,.cons e l,h=>congrArg (· + 1) (zK vs env p ks l (Nat.succ.inj h))
 |.nil,.cons _ _,h=>by cases h
 |.cons _ _,.nil,h=>by cases h
theorem tY(S:SRec G P r)(EB:EnvB c)(EG:EnvG G c gs)(p:Pos):∀(ks l:IEs){ρ:Tr}{st:St}{s:Shared},Now G c ρ st s.heap→wEs c.vars.length gs ks=true→wEs c.vars.length gs l=true→ks.len=l.len →
  SA G c (RP G) (evalPairs (prs G c.vars c.env p ks l)) (evp r c.hd ks l) ρ st s
 |.nil,.nil,_,_,_,N,_,_,_=>SA.pure N ⟨[],trivial,trivial⟩
 |.cons k ks,.cons e l,ρ,st,s,N,h1,h2,hl=>by
  obtain⟨h1,h1'⟩:=fP h1
  obtain⟨h2,h2'⟩:=fP h2
  show SA G c _ (do
   let kv ←eval (dE G c.vars k) c.env
   let vv ←PySem.holding [kv] (do let x ←eval (dE G c.vars e) c.env;PySem.standAt p;Pure.pure x)
   return(kv,vv)::(←PySem.holding [kv,vv] (evalPairs (prs G c.vars c.env p ks l)))) _ ρ st s
  refine SA.bind (fun kv=>Grows.onS fun _=>Grows.bnd (S.gev _ _) fun _=>Grows.bnd (iN S.gev _ _) fun _=>Grows.ret) (S.ev EB EG N k h1) fun ρ₁ st₁ s₁ a b S₁ N₁ _ hab=>?_
  cases a with
  |str x =>
   obtain⟨t,rfl⟩:=hab
   have inner:SA G c VR (do let x ←eval (dE G c.vars e) c.env;PySem.standAt p;Pure.pure x) (r.ev c.hd e) ρ₁ st₁ s₁:=by
    intro r' st' hm hq Q E post
    refine wpAny_bind (S.ev EB EG N₁ e h2 r' st' hm hq _ _ fun ρ' s' S' N'=>?_)
    have q:=post ρ' s' S' N'
    cases r' with
    |error e=>exact q
    |ok a=>exact fun b hb=>wpAny_bind (wpAny_standAt (wpAny_pure (q b hb)))
   refine SA.bind (fun _=>Grows.bnd (iN S.gev _ _) fun _=>Grows.ret) (SA.holding inner) fun ρ₂ st₂ s₂ v y S₂ N₂ _ hv=>?_
   refine SA.bind (fun _=>Grows.ret) (SA.holding (tY S EB EG p ks l N₂ h1' h2' (Nat.succ.inj hl))) fun ρ₃ st₃ s₃ m vs S₃ N₃ _ hm=>?_
   obtain⟨kvs,g1,g2⟩:=hm
   exact SA.pure N₃ ⟨(x,y)::kvs,⟨strKind_is _ _ x t,rfl,g1⟩,⟨rfl,S₃.vr hv⟩,g2⟩
  |_=>exact SA.fail
 |.nil,.cons _ _,_,_,_,_,_,_,h=>by cases h
 |.cons _ _,.nil,_,_,_,_,_,_,h=>by cases h
theorem lT{d:SV}{m:List (Str×SV)}:Grows (rS d m):=Grows.onRi fun _ _=>Grows.onSD fun _=>aD (Grows.bnd aZ fun _=>Grows.ret)
theorem vL(h:∀hd e,Grows (r.ev hd e)){hd:Option Nat}{ks l:IEs}:Grows (xU r hd ks l):=aD (Grows.bnd aJ fun _=>Grows.bnd (iN h _ _) fun _=>lT)
theorem yF(h:∀hd e,Grows (r.ev hd e)){hd:Option Nat}{ks l:IEs}:Grows (GY r hd ks l):=by
 cases ks with
 |nil=>cases l with
  |nil=>exact aJ
  |cons _ _=>exact aB
 |cons k ks=>exact vL h
theorem BX{i:Nat}{m:List (Str×SV)}{st':St}{r':Except SV SV}(h:rS (.ref i) m st=some (r',st')):st.objs[i]?=some (.sdict [])∧some (.ok (.ref i),{ st with objs:=st.objs.set i (.sdict (BU [] m)) })=some (r',st'):=by
 obtain⟨o,ho,h⟩:=dW h
 cases o with
 |sdict m0 =>
  obtain⟨g,h⟩:=cY h
  rw[List.isEmpty_iff.mp g]at ho
  exact⟨ho,h⟩
 |_=>exact nos h
theorem ER(N:Now G c ρ st s.heap):OR G (ρ.add s.heap.objs.size) (s.heap.push { cls:=.type "dict",data:=.dict #[] }) s.heap.objs.size (.sdict []) :=
 ⟨[],#[],0,Heap.get?_push_size _ rfl,⟨_,#[],0,Heap.get?_push_size _ rfl,⟨rfl,rfl,rfl⟩,rfl,fun e he=>by simp at he,.nil,List.nodup_nil⟩,trivial⟩
theorem FS(H:GOK2 G)(S:SRec G P r)(EB:EnvB c)(EG:EnvG G c gs)(N:Now G c ρ st s.heap){ks l:IEs}(hn:ks≠.nil){p:Pos}(h1:wEs c.vars.length gs ks=true)(h2:wEs c.vars.length gs l=true) :
  SA G c VR (eval (.Dict (dKs G c.vars ks) (dEs G c.vars l) p) c.env) (xU r c.hd ks l) ρ st s:=by
 refine SA.if fun g r' st' hm hq Q E post=>?_
 have g1:=Nat.le_of_ble_eq_true (aN g).1
 have g2:ks.len=l.len:=Nat.eq_of_beq_eq_true (aN g).2
 have hl:=zK (G:=G) c.vars c.env p ks l g2
 have h0:prs G c.vars c.env p ks l≠[]:=fun z=>by
  rw[z]at hl
  cases ks with
  |nil=>exact hn rfl
  |cons _ _=>exact nomatch hl
 refine wpAny_Dict_pairs (knd:=strKind G.prog G.w) (pM c.vars c.env p ks l g2) h0 (by rw[hl];exact Nat.le_trans g1 (by decide)) ?_
 have N1:=N.alloc H.toGOK (o:={ cls:=.type "dict",data:=.dict #[] }) (so:=.sdict []) rfl (aP rfl) (aP rfl) (ER N)
 have hm:bnd (evp r c.hd ks l) (fun m=>rS (.ref st.objs.length) m) { st with objs:=st.objs++[.sdict []] }=some (r',st'):=hm
 have S1:aF c.env.locals ρ s (ρ.add s.heap.objs.size) { s with heap:=s.heap.push { cls:=.type "dict",data:=.dict #[] },toks:=s.toks }:=aF.alloc
 have hd:(ρ.add s.heap.objs.size).a[st.objs.length]?=some s.heap.objs.size:=by
  show(ρ.a++[_])[_]?=_
  rw[←N.rep.len,List.getElem?_append_right (Nat.le_refl _),Nat.sub_self];rfl
 have key:=tY S EB EG p ks l (s:={ s with heap:=s.heap.push { cls:=.type "dict",data:=.dict #[] },toks:=s.toks }) N1 h1 h2 g2
 rcases aT hm with⟨e,q1,rfl⟩|⟨m,st1,q1,q2⟩
 ·exact key _ _ q1 hq _ _ fun ρ' s' S' N'=>post ρ' s' (S1.trans S') N'
 ·obtain⟨lq,hlq⟩:=lT _ _ _ q2
  refine key _ _ q1 (fun q hq'=>hq q (by rw[hlq];exact List.mem_append_right _ hq')) _ _ fun ρ' s' S' N' vs ⟨kvs,c1,c2⟩=>?_
  obtain⟨ho,q2⟩:=BX q2
  cases q2
  have hd':=S'.idx hd
  obtain⟨akv,es,ep,e1,e2,e3⟩:=N'.oat hd' ho
  have:akv=[]:=e3.nil_inv
  subst this
  refine⟨kvs,c1,e2,fun h' hD sb=>?_⟩
  obtain⟨o',es',ep',f1,f2,f3,f4⟩:=id hD
  have:=jC f2 f3
  subst this
  have X:=N'.dset H.toGOK hd' (lI.of ho fun q=>nomatch q) e1 sb f1 (so:=.sdict (BU [] m)) ⟨_,es',ep',f1,hD,ES c2 trivial⟩ (tk:=s'.toks+vs.length)
  exact post _ _ ((S1.trans S').trans X.1) X.2 _ ⟨_,X.1.idx hd',rfl⟩
theorem ML(H:GOK2 G)(S:SRec G P r)(EB:EnvB c)(EG:EnvG G c gs)(N:Now G c ρ st s.heap){ks l:IEs}{p:Pos}(h1:wEs c.vars.length gs ks=true)(h2:wEs c.vars.length gs l=true) :
  SA G c VR (eval (.Dict (dKs G c.vars ks) (dEs G c.vars l) p) c.env) (GY r c.hd ks l) ρ st s:=by
 cases ks with
 |nil=>cases l with
  |nil =>
   rw[arm_eval_Dict]
   refine SA.standAt ?_
   refine SA.alloc H.toGOK N (o:={ cls:=.type "dict",data:=.dict #[] }) (tk:=s.toks) (so:=.sdict []) rfl (aP rfl) (aP rfl) (ER N) fun Q E z=>?_
   exact wpAny_newObj_type z (by size_fits)
  |cons _ _=>exact SA.fail
 |cons k ks=>exact FS H S EB EG N (ks:=.cons k ks) (fun q=>absurd (congrArg IEs.len q) (Nat.succ_ne_zero _)) h1 h2
end
end
section
open PySem.Calls
section
variable{G:Gl}{P:Pg}{r:Rec}{c:Ac}{gs:List Nat}{ρ ρ':Tr}{st:St}{s:Shared}
theorem OM{a b c:Bool}(h:(a&&b&&c)=true):a=true∧b=true∧c=true:=by
 obtain⟨h1,h2⟩:=Bool.and_eq_true_iff.mp h
 obtain⟨h0,h1⟩:=Bool.and_eq_true_iff.mp h1
 exact⟨h0,h1,h2⟩
theorem FV(S:SRec G P r)(H:GOK2 G)(EB:EnvB c)(EG:EnvG G c gs)(op:BoolOp):∀(l:IEs){ρ:Tr}{st:St}{s:Shared},Now G c ρ st s.heap→wEs c.vars.length gs l=true →
  SA G c (fun _ b b'=>b'=b) (allTrue op (dEs G c.vars l) c.env) (HC r c.hd op l) ρ st s
 |.nil,ρ,st,s,N,_=>by
  cases op
  ·exact SA.pure N rfl
  ·exact SA.pure N rfl
 |.cons e l,ρ,st,s,N,h=>by
  obtain⟨h1,h2⟩:=fP h
  show SA G c _ (do
   match op,←isTrue (dE G c.vars e) c.env (eval (dE G c.vars e) c.env)with
   |.And,false=>Pure.pure false
   |.Or,true=>Pure.pure true
   |_,_=>allTrue op (dEs G c.vars l) c.env) _ ρ st s
  refine SA.bind (fun t=>?_) (S.tst EB EG N e h1) fun ρ₁ st₁ s₁ t t' S₁ N₁ _ ht=>?_
  ·have ih:=kX (hd:=c.hd) (op:=op) S.gtst l
   cases op<;>cases t<;>first|exact Grows.ret|exact ih
  have ht:t'=t:=ht
  subst ht
  have rec':=FV S H EB EG op l N₁ h2
  cases op<;>cases t'
  ·exact SA.pure N₁ rfl
  ·exact rec'
  ·exact rec'
  ·exact SA.pure N₁ rfl
theorem RT(S:SRec G P r)(H:GOK2 G)(EB:EnvB c)(EG:EnvG G c gs)(N:Now G c ρ st s.heap){l e:IE}{op:CmpOp}{p:Pos}(h1:wE c.vars.length gs l=true)(h2:wE c.vars.length gs e=true) :
  SA G c VR (eval (.Compare (dE G c.vars l) [op] [dE G c.vars e] p) c.env) (bnd (r.ev c.hd l) fun a=>bnd (r.ev c.hd e) fun b=>CP op a b) ρ st s:=by
 rw[arm_eval_Compare]
 refine SA.bind (fun _=>Grows.bnd (S.gev _ _) fun _=>dY) (S.ev EB EG N l h1) fun ρ₁ st₁ s₁ a b S₁ N₁ _ hab=>?_
 have mk:markedEach [op] [dE G c.vars e] (evalEach [dE G c.vars e] c.env)=[eval (dE G c.vars e) c.env]:=by
  show[markedBehindIn op (dE G c.vars e) (eval (dE G c.vars e) c.env)]=_
  cases e<;>rfl
 rw[mk]
 show SA G c VR (do
  let rv ←PySem.holding [b] (eval (dE G c.vars e) c.env)
  PySem.standAt p
  operate [b,rv] (compareOp op b rv)) _ ρ₁ st₁ s₁
 refine SA.bind (fun _=>dY) (SA.holding (S.ev EB EG N₁ e h2)) fun ρ₂ st₂ s₂ x y S₂ N₂ _ hxy=>?_
 exact SA.standAt (gH (SA.cmp H.toGOK N₂ (S₂.vr hab) hxy))
theorem MN(S:SRec G P r)(H:GOK2 G)(EB:EnvB c)(EG:EnvG G c gs)(N:Now G c ρ st s.heap){l e:IE}{op:CmpOp}{p:Pos}{w:Sem Value}(h1:wE c.vars.length gs l=true)(h2:wE c.vars.length gs e=true) :
  SA G c (fun _ b b'=>b'=b) (isTrue (.Compare (dE G c.vars l) [op] [dE G c.vars e] p) c.env w) (bnd (r.ev c.hd l) fun a=>bnd (r.ev c.hd e) fun b=>bnd (CP op a b) fun c=>dU c) ρ st s:=by
 show SA G c _ (do testChain p (←eval (dE G c.vars l) c.env) [op] (markedEach [op] [dE G c.vars e] (evalEach [dE G c.vars e] c.env))) _ ρ st s
 refine SA.bind (fun _=>Grows.bnd (S.gev _ _) fun _=>Grows.bnd dY fun _=>bA) (S.ev EB EG N l h1) fun ρ₁ st₁ s₁ a b S₁ N₁ _ hab=>?_
 have mk:markedEach [op] [dE G c.vars e] (evalEach [dE G c.vars e] c.env)=[eval (dE G c.vars e) c.env]:=by
  show[markedBehindIn op (dE G c.vars e) (eval (dE G c.vars e) c.env)]=_
  cases e<;>rfl
 rw[mk]
 show SA G c _ (do
  let rv ←PySem.holding [b] (eval (dE G c.vars e) c.env)
  PySem.standAt p
  let x ←operate [b,rv] (compareOp op b rv)
  PySem.holding [x] (PySem.truthy x)) _ ρ₁ st₁ s₁
 refine SA.bind (fun _=>Grows.bnd dY fun _=>bA) (SA.holding (S.ev EB EG N₁ e h2)) fun ρ₂ st₂ s₂ x y S₂ N₂ _ hxy=>?_
 refine SA.standAt ?_
 refine SA.bind (fun _=>bA) (gH (SA.cmp H.toGOK N₂ (S₂.vr hab) hxy)) fun ρ₃ st₃ s₃ z z' S₃ N₃ _ hz=>?_
 exact SA.holding (SA.truthy H.toGOK N₃ hz)
theorem bD(S:SRec G P r)(H:GOK2 G)(EB:EnvB c)(EG:EnvG G c gs)(N:Now G c ρ st s.heap){e:IE}{p:Pos}(h:wE c.vars.length gs e=true) :
  SA G c (fun _ b b'=>b'=b) (do let v ←eval (dE G c.vars e) c.env;PySem.standAt p;PySem.holding [v] (PySem.truthy v)) (bnd (r.ev c.hd e) fun v=>dU v) ρ st s:=by
 refine SA.bind (fun _=>bA) (S.ev EB EG N e h) fun ρ₁ st₁ s₁ a b S₁ N₁ _ hab=>?_
 exact SA.standAt (SA.holding (SA.truthy H.toGOK N₁ hab))
theorem VV(S:SRec G P r)(H:GOK2 G)(EB:EnvB c)(EG:EnvG G c gs)(N:Now G c ρ st s.heap)(e:IE)(h:wE c.vars.length gs e=true) :
  SA G c (fun _ b b'=>b'=b) (isTrue (dE G c.vars e) c.env (eval (dE G c.vars e) c.env)) (sT r c.hd e) ρ st s:=by
 cases e with
 |not e p =>
  show SA G c _ (do return !(←isTrue (dE G c.vars e) c.env (eval (dE G c.vars e) c.env))) _ ρ st s
  refine SA.bind (fun _=>Grows.ret) (S.tst EB EG N e h) fun ρ₁ st₁ s₁ t t' S₁ N₁ _ ht=>?_
  have ht:t'=t:=ht
  subst ht
  exact SA.pure N₁ rfl
 |bool op l p=>exact FV S H EB EG op l N h
 |ite t b o p =>
  obtain⟨h1,h2,h3⟩:=OM h
  show SA G c _ (do if ←isTrue (dE G c.vars t) c.env (eval (dE G c.vars t) c.env)then isTrue (dE G c.vars b) c.env (eval (dE G c.vars b) c.env)else isTrue (dE G c.vars o) c.env (eval (dE G c.vars o) c.env)) _ ρ st s
  refine SA.bind (fun t=>by cases t<;>exact S.gtst _ _) (S.tst EB EG N t h1) fun ρ₁ st₁ s₁ t t' S₁ N₁ _ ht=>?_
  have ht:t'=t:=ht
  subst ht
  cases t'
  ·exact S.tst EB EG N₁ o h3
  ·exact S.tst EB EG N₁ b h2
 |cmp l op e p =>
  obtain⟨h1,h2⟩:=aN h
  exact MN S H EB EG N h1 h2
 |cst k u p=>exact bD S H EB EG N (e:=.cst k u p) h
 |loc i p=>exact bD S H EB EG N (e:=.loc i p) h
 |glb i p=>exact bD S H EB EG N (e:=.glb i p) h
 |attr o n p=>exact bD S H EB EG N (e:=.attr o n p) h
 |call f a p=>exact bD S H EB EG N (e:=.call f a p) h
 |meth o n ap a p=>exact bD S H EB EG N (e:=.meth o n ap a p) h
 |bin l op e p=>exact bD S H EB EG N (e:=.bin l op e p) h
 |neg k u q p=>exact bD S H EB EG N (e:=.neg k u q p) h
 |sub v i p=>exact bD S H EB EG N (e:=.sub v i p) h
 |sFrom l p=>exact bD S H EB EG N (e:=.sFrom l p) h
 |sTo l p=>exact bD S H EB EG N (e:=.sTo l p) h
 |tup es k p=>exact bD S H EB EG N (e:=.tup es k p) h
 |list es p=>exact bD S H EB EG N (e:=.list es p) h
 |dict ks l p=>exact bD S H EB EG N (e:=.dict ks l p) h
 |comp a b d sc cv cgs p=>exact bD S H EB EG N (e:=.comp a b d sc cv cgs p) h
theorem HZ(S:SRec G P r){hd:Option Nat}{e:IE}:Grows (sT r hd e):=by
 cases e with
 |not e p=>exact Grows.bnd (S.gtst _ _) fun _=>Grows.ret
 |bool op l p=>exact kX S.gtst l
 |ite t b o p=>exact Grows.bnd (S.gtst _ _) fun t=>by cases t<;>exact S.gtst _ _
 |cmp l op e p=>exact Grows.bnd (S.gev _ _) fun _=>Grows.bnd (S.gev _ _) fun _=>Grows.bnd dY fun _=>bA
 |_=>exact Grows.bnd (S.gev _ _) fun _=>bA
theorem AT(vs:List Str):∀l:IEs,(dEs G vs l).length=l.len
 |.nil=>rfl
 |.cons e l=>congrArg (· + 1) (AT vs l)
theorem jQ(Q:Value→Shared→Prop)(E:Value→Shared→Prop){M:Model}{A:Around}(vs:List Value)(hl:sizeOk (.fields vs.toArray))(h:Q (.ref s.heap.objs.size) { s with heap:=s.heap.push { cls:=.type "slice",data:=.fields vs.toArray } }):wpAny M A (newFields "slice" vs) Q E s:=by
 unfold newFields
 exact wpAny_newObj_type h hl
theorem DQ{f:IE}{args:IEs}{p:Pos}{vs:List Str}{env:Env}(h:zZ f=true) :
  eval (.Call (dE G vs f) (dEs G vs args) [] p) env=(do callWith p (←eval (dE G vs f) env) [] (backTo p (starEach (dEs G vs args) env)) (backToKw p (keywordEach [] env))):=by
 cases f<;>first|rfl|exact Bool.noConfusion h
theorem TR{args:IEs}{p:Pos}{vs:List Str}{env:Env}(h:args.len≤20) :
  methodCallForm ((dEs G vs args).length+([]:List Keyword).length) (backTo p (starEach (dEs G vs args) env)) (backToKw p (keywordEach [] env))=true:=by
 unfold methodCallForm
 rw[gB,AT vs args,HM]
 simp
 lia
theorem FH{few:Bool}{o:Expr}{env:Env}{ap p:Pos}(h:Nat.beq ap.endLine p.line=true):methodCallPos few o env ap p=pure p:=by
 unfold methodCallPos
 rw[if_pos (by rw[Nat.eq_of_beq_eq_true h,beq_self_eq_true,Bool.or_true])]
theorem VY(S:SRec G P r)(H:GOK2 G)(PO:wI G P)(EB:EnvB c)(EG:EnvG G c gs)(N:Now G c ρ st s.heap)(e:IE)(h:wE c.vars.length gs e=true)
  (hcomp:∀elt t it sc cv cgs p,e = .comp elt t it sc cv cgs p→SA G c VR (eval (dE G c.vars e) c.env) (sE G r c.hd e) ρ st s) :
  SA G c VR (eval (dE G c.vars e) c.env) (sE G r c.hd e) ρ st s:=by
 cases e with
 |cst k u p=>exact FU N k
 |loc i p=>exact RQ EB N h p
 |glb i p=>exact RS H.toGOK EB EG N (eI h) p
 |attr o n p =>
  obtain⟨h1,h2⟩:=aN h
  exact MO H S EB EG N h1 h2
 |call f args p =>
  obtain⟨h0,h4⟩:=aN h
  obtain⟨h0,h3⟩:=aN h0
  obtain⟨h1,h2⟩:=aN h0
  show SA G c VR (eval (.Call (dE G c.vars f) (dEs G c.vars args) [] p) c.env) _ ρ st s
  rw[DQ h1]
  refine SA.bind (fun _=>Grows.bnd (bX S.gev _) fun _=>S.gcall _ _ _) (S.ev EB EG N f h3) fun ρ₁ st₁ s₁ a b S₁ N₁ _ hab=>?_
  exact lO H PO S EB EG N₁ hab (first:=[]) (fs:=[]) trivial args h4 (Nat.le_of_ble_eq_true h2) p
 |meth o n ap args p =>
  obtain⟨h0,h5⟩:=aN h
  obtain⟨h0,h4⟩:=aN h0
  obtain⟨h0,h3⟩:=aN h0
  obtain⟨h1,h2⟩:=aN h0
  show SA G c VR (eval (.Call (.Attribute (dE G c.vars o) (G.an n) ap) (dEs G c.vars args) [] p) c.env) _ ρ st s
  rw[arm_eval_Call,zS h1]
  refine SA.bind (fun _=>Grows.bnd oB fun _=>Grows.bnd (bX S.gev _) fun _=>S.gcall _ _ _) (S.ev EB EG N o h4) fun ρ₁ st₁ s₁ a b S₁ N₁ _ hab=>?_
  refine SA.standAt ?_
  have hle:=Nat.le_of_ble_eq_true h3
  have hfew:=TR (G:=G) (vs:=c.vars) (env:=c.env) (p:=p) hle
  unfold methodCall
  rw[FH h2,hfew]
  unfold calleeOf
  rw[if_pos rfl]
  refine SA.bind (fun _=>Grows.bnd (bX S.gev _) fun _=>S.gcall _ _ _) (SA.holding (SA.meth H.toGOK N₁ hab (n:=n) rfl)) fun ρ₂ st₂ s₂ x y S₂ N₂ _ hxy=>?_
  refine SA.look (x:=p) (fun Q E q=>wpAny_pure q) ?_
  exact lO H PO S EB EG N₂ hxy.1 hxy.2 args h5 hle p
 |bin l op e p =>
  obtain⟨h1,h2⟩:=aN h
  show SA G c VR (eval (.BinOp (dE G c.vars l) op (dE G c.vars e) p) c.env) _ ρ st s
  rw[arm_eval_BinOp]
  refine SA.bind (fun _=>Grows.bnd (S.gev _ _) fun _=>kW) (S.ev EB EG N l h1) fun ρ₁ st₁ s₁ a b S₁ N₁ _ hab=>?_
  refine SA.bind (fun _=>kW) (SA.holding (S.ev EB EG N₁ e h2)) fun ρ₂ st₂ s₂ x y S₂ N₂ _ hxy=>?_
  exact SA.standAt (gH (SA.bin H.toGOK N₂ (S₂.vr hab) hxy))
 |cmp l op e p =>
  obtain⟨h1,h2⟩:=aN h
  exact RT S H EB EG N h1 h2
 |bool op l p=>exact zR S H EB EG op p l N h
 |not e p =>
  show SA G c VR (eval (.UnaryOp .Not (dE G c.vars e) p) c.env) _ ρ st s
  rw[arm_eval_UnaryOp]
  refine SA.bind (fun _=>Grows.bnd bA fun _=>Grows.ret) (S.ev EB EG N e h) fun ρ₁ st₁ s₁ a b S₁ N₁ _ hab=>?_
  refine SA.standAt (SA.holding ?_)
  intro r' st' hm hq Q E post
  refine not_of ?_
  rcases aT hm with⟨x,q1,rfl⟩|⟨t,st2,q1,q2⟩
  ·exact SA.truthy H.toGOK N₁ hab _ _ q1 hq _ _ fun ρ' s' S' N'=>post ρ' s' S' N'
  ·cases q2
   exact SA.truthy H.toGOK N₁ hab _ _ q1 hq _ _ fun ρ' s' S' N' t' ht=>by
    have ht:t'=t:=ht
    subst ht
    exact post ρ' s' S' N' _ rfl
 |neg k u q p =>
  show SA G c VR (eval (.UnaryOp .USub (.Constant (.int k) u q) p) c.env) _ ρ st s
  rw[arm_eval_UnaryOp]
  intro r' st' hm hq Q E post
  cases hm
  refine wpAny_bind (wpAny_mkInt (wpAny_bind (wpAny_standAt (wpAny_holding (PySem.P.neg_int ?_)))))
  exact post ρ { s with toks:=s.toks+1+1 } aF.toks N _ ⟨_,rfl⟩
 |ite t b o p =>
  obtain⟨h1,h2,h3⟩:=OM h
  show SA G c VR (eval (.IfExp (dE G c.vars t) (dE G c.vars b) (dE G c.vars o) p) c.env) _ ρ st s
  rw[arm_eval_IfExp]
  refine SA.bind (fun t=>by cases t<;>exact S.gev _ _) (S.tst EB EG N t h1) fun ρ₁ st₁ s₁ t t' S₁ N₁ _ ht=>?_
  have ht:t'=t:=ht
  subst ht
  cases t'
  ·exact S.ev EB EG N₁ o h3
  ·exact S.ev EB EG N₁ b h2
 |sub v i p =>
  obtain⟨h0,h2⟩:=aN h
  obtain⟨_,h1⟩:=aN h0
  exact RN H S EB EG N h1 h2
 |sFrom l p =>
  show SA G c VR (eval (.Slice (some (dE G c.vars l)) none none p) c.env) _ ρ st s
  rw[arm_eval_Slice]
  refine SA.bind (fun _=>aD aJ) (S.ev EB EG N l h) fun ρ₁ st₁ s₁ a b S₁ N₁ _ hab=>?_
  refine SA.look (x:=Value.none) (fun Q E q=>wpAny_holding (wpAny_pure q)) ?_
  refine SA.look (x:=Value.none) (fun Q E q=>wpAny_holding (wpAny_pure q)) ?_
  refine SA.if fun g=>SA.alloc H.toGOK N₁ (o:={ cls:=.type "slice",data:=.fields #[b,.none,.none] }) (tk:=s₁.toks) (so:=.iter .slice [a,.none,.none]) rfl (aP rfl) (aP rfl)
   ⟨_,Heap.get?_push_size _ rfl,hab.mono Tr.le_add,rfl,rfl,trivial⟩ fun Q E z=>?_
  exact jQ Q E [b,.none,.none] (by size_fits) z
 |sTo l p =>
  show SA G c VR (eval (.Slice none (some (dE G c.vars l)) none p) c.env) _ ρ st s
  rw[arm_eval_Slice]
  refine SA.look (x:=Value.none) (fun Q E q=>wpAny_pure q) ?_
  refine SA.bind (fun _=>aD aJ) (SA.holding (S.ev EB EG N l h)) fun ρ₁ st₁ s₁ a b S₁ N₁ _ hab=>?_
  refine SA.look (x:=Value.none) (fun Q E q=>wpAny_holding (wpAny_pure q)) ?_
  refine SA.if fun g=>SA.alloc H.toGOK N₁ (o:={ cls:=.type "slice",data:=.fields #[.none,b,.none] }) (tk:=s₁.toks) (so:=.iter .slice [.none,a,.none]) rfl (aP rfl) (aP rfl)
   ⟨_,Heap.get?_push_size _ rfl,rfl,hab.mono Tr.le_add,rfl,trivial⟩ fun Q E z=>?_
  exact jQ Q E [.none,b,.none] (by size_fits) z
 |tup es k p =>
  show SA G c VR (eval (.Tuple (dEs G c.vars es) k p) c.env) _ ρ st s
  rw[arm_eval_Tuple,gB]
  refine SA.standAt ?_
  refine SA.bind (fun _=>aD aJ) (gG S EB EG es N h) fun ρ₁ st₁ s₁ a b S₁ N₁ _ hab=>?_
  exact SA.if fun g=>SA.newTuple H.toGOK N₁ hab (Nat.le_of_ble_eq_true g)
 |list es p =>
  show SA G c VR (eval (.List (dEs G c.vars es) p) c.env) _ ρ st s
  rw[arm_eval_List,gB]
  refine SA.standAt ?_
  refine SA.bind (fun _=>aD aJ) (gG S EB EG es N h) fun ρ₁ st₁ s₁ a b S₁ N₁ _ hab=>?_
  exact SA.if fun g=>SA.newList H.toGOK N₁ hab (Nat.le_of_ble_eq_true g)
 |dict ks l p =>
  obtain⟨h1,h2⟩:=aN h
  exact ML H S EB EG N h1 h2
 |comp a b d sc cv cgs p=>exact hcomp _ _ _ _ _ _ _ rfl
end
end
section
open PySem.Calls
theorem tD:∀(ks:List Str)(ys:List Value)(x:Str),x∉ks→(ks.zip ys).reverse.lookup x=none
 |[],ys,x,_=>by simp
 |k::ks,[],x,_=>by simp
 |k::ks,y::ys,x,h=>by
  rw[List.zip_cons_cons,List.reverse_cons,List.lookup_append,tD ks ys x (fun q=>h (.tail _ q))]
  have:(x==k)=false:=beq_eq_false_iff_ne.mpr fun q=>h (q▸.head _)
  simp[List.lookup_cons,this]
theorem DY:∀(ks:List Str)(ys:List Value),ks.Nodup→∀(i:Nat)(x:Str),ks[i]?=some x→(ks.zip ys).reverse.lookup x=ys[i]?
 |[],ys,_,i,x,h=>by simp at h
 |k::ks,[],_,i,x,h=>by simp
 |k::ks,y::ys,nd,0,x,h=>by
  simp at h;subst h
  obtain⟨n1,n2⟩:=List.nodup_cons.mp nd
  rw[List.zip_cons_cons,List.reverse_cons,List.lookup_append,tD ks ys k n1]
  simp[List.lookup_cons]
 |k::ks,y::ys,nd,i+1,x,h=>by
  rw[List.getElem?_cons_succ]at h ⊢
  obtain⟨n1,n2⟩:=List.nodup_cons.mp nd
  rw[List.zip_cons_cons,List.reverse_cons,List.lookup_append,DY ks ys n2 i x h]
  have hne:x≠k:=fun q=>n1 (q▸List.mem_of_getElem? h)
  have:(x==k)=false:=beq_eq_false_iff_ne.mpr hne
  cases ys[i]?<;>simp[List.lookup_cons,this]
section
variable{G:Gl}{P:Pg}{r:Rec}{c:Ac}{gs:List Nat}{ρ ρ':Tr}{st st':St}{s:Shared}
noncomputable def ExOK(G:Gl)(r:Rec):Prop:=∀{c:Ac}{gs:List Nat}{ρ:Tr}{st:St}{s:Shared},bG c→EnvG G c gs→Now G c ρ st s.heap→∀b,wSS c.vars.length gs b=true→SA G c cQ (execs (dSS G c.vars b) c.env) (r.ex c.hd b) ρ st s
theorem vR{F:Fn}{a l:List SV}(h:F.full a=some l):a.length≤F.np∧F.np≤a.length+F.dv.length∧l=a++F.dv.drop (a.length+F.dv.length - F.np):=by
 unfold Fn.full at h
 cases q:Nat.ble a.length F.np&&Nat.ble F.np (a.length+F.dv.length)with
 |false=>rw[q]at h;cases h
 |true =>
  rw[q]at h
  obtain⟨h1,h2⟩:=aN q
  cases h
  exact⟨Nat.le_of_ble_eq_true h1,Nat.le_of_ble_eq_true h2,rfl⟩
theorem jP{e:SV}:NoE (eN e):=fun s x s' h=>by
 obtain⟨i,C,d,ctx,tb,_,_,q,_⟩:=iJ h
 exact nomatch q
inductive NI{α:Type}(m:M α)(st:St)(r':Except SV α)(st':St):Prop
 |ok(a:α)(h1:r' = .ok a)(h2:m st=some (.ok a,st'))
 |err(e:SV)(s1:St)(h1:r' = .error e)(h2:m st=some (.error e,s1))(h3:eN e s1=some (.ok (),st'))
theorem eJ{α:Type}{m:M α}{r':Except SV α}(h:eK m st=some (r',st')):NI m st r' st':=by
 rcases cV h with⟨e,s1,q,h⟩|⟨a,s1,q,h⟩
 ·obtain⟨u,s2,h1,h2⟩:=fJ jP h
  cases h2;exact .err e s1 rfl q h1
 ·cases h;exact .ok a rfl q
theorem gI{e:SV}{s1 s2:St}(h:eN e s1=some (.ok (),s2)):s2.qs=s1.qs∧s2.loc=s1.loc∧s2.d=s1.d:=by
 obtain⟨i,C,d,ctx,tb,_,_,_,rfl⟩:=iJ h
 exact⟨rfl,rfl,rfl⟩
theorem GA{e:SV}{s1 s2:St}(h:eN e s1=some (.ok (),s2)):MZ e s2=some (.ok (),s2):=by
 obtain⟨i,C,d,ctx,tb,rfl,ho,_,rfl⟩:=iJ h
 show bnd (bP i) _ _=_
 unfold bnd bP
 rw[show(s1.objs.set i (SO.exc C d ctx true))[i]?=some (.exc C d ctx true) from List.getElem?_set_self (List.getElem?_eq_some_iff.mp ho).1]
 rfl
theorem cT{α:Type}{m:M α}(h:Grows m):Grows (eK m):=fun s r' s' q=>by
 rcases eJ q with⟨a,_,q⟩|⟨e,s1,_,q,n⟩
 ·exact h _ _ _ q
 ·obtain⟨l,hl⟩:=h _ _ _ q
  exact⟨l,by rw[(gI n).1,hl]⟩
theorem wY(H:GOK G)(EO:bG c)(N:Now G c ρ st s.heap){e:SV}{x:Value}(hx:VR ρ e x)(hm:eN e st=some (.ok (),st')){Q:Unit→Shared→Prop}{E:Value→Shared→Prop}
  (hv:fK G st')(post:oP G c ρ s st' (Q ())):WP G c (leaving c.env x) Q E s:=by
 unfold leaving
 refine wpAny_bind (SA.noteFrame H EO N hx _ _ hm hv _ _ fun ρ₁ s₁ S₁ N₁ _ _=>?_)
 exact SA.setFlight H N₁ (S₁.vr hx) (fr:=none) _ _ (GA hm) hv _ _ fun ρ₂ s₂ S₂ N₂ _ _=>post ρ₂ s₂ (S₁.trans S₂) N₂
structure OP(G:Gl)(A:Around)(hd:Option Nat)(ρ:Tr)(objs:List SO)(d:Nat)(h:Heap):Prop where
 frs:∃fl,A.frames=some fl∧FrsOK h fl
 depth:A.depth+3*d+2<recursionLimit
 units:A.units+12*d+6<cLine
 hd:match hd with|none=>A.handled=none|some i=>∃a,ρ.a[i]?=some a∧A.handled=some (.ref a)
 rep:Rep G ρ objs h
theorem qH{ρ:Tr}{objs:List SO}{h:Heap}(H:GOK G)(R:Rep G ρ objs h):offK G h.objs.size:=by
 refine⟨?_,fun q=>?_⟩
 ·cases q:G.K.lookup h.objs.size with
  |none=>rfl
  |some o=>have:=Heap.lt_size (R.kin _ _ q);exact absurd this (Nat.lt_irrefl _)
 ·have:=H.big h R.kin;rw[q]at this;exact absurd this (by decide)
set_option tactic.hygienic true in
theorem wZ(H:GOK2 G){f:Nat}{F:Fn}(FO:FnOK G f F)(X:ExOK G r){A':Around}{hdx:Option Nat}(N:OP G A' hdx ρ st.objs st.d s.heap)
  {a:List SV}{vs:List Value}(ha:aK (VR ρ) a vs){r':Except SV SV}(hm:mFn F (r.ex hdx F.body) a st=some (r',st'))(hq:fK G st'){RR:Result→Shared→Prop}
  (post:∀ρ' s',aF s.heap.objs.size ρ s ρ' s'→Rep G ρ' st'.objs s'.heap→match r' with
   |.ok a=>∀b,VR ρ' a b→RR (.ok (.ret b)) s'
   |.error e=>∀x,VR ρ' e x→RR (.error x) s'):codeAny (model G.prog G.w) A' (.call (.ref f) ⟨vs,[]⟩) RR s:=by
 obtain⟨oc,od,osl,qual,name,params,scope,dV,kV,doc,pm,an,cdv,ct,ho,hcd,hk,hco,hgen,hcell,hloc,hglob,hbind⟩:=FO.obj
 unfold mFn at hm
 split at hm
 ·rename_i l d hl hd
  obtain⟨f1,f2,f3⟩:=vR hl
  have hlen:=ha.length
  obtain⟨ds,hds,hB⟩:=hbind vs a.length hlen.symm f2 f1
  have XK:=N.rep.kin
  obtain⟨fl,hfl,hfrs⟩:=N.frs
  have hD:=N.depth
  have hU:=N.units
  rw[hd]at hD hU
  have hroom:A'.depth<recursionLimit:=Nat.lt_of_le_of_lt (Nat.le_trans (Nat.le_add_right _ _) (Nat.le_add_right _ _)) hD
  have hlv:aK (VR ρ) l (vs++ds):=by rw[f3];exact ha.append (hds.imp fun _ _ z=>z.nil)
  have hll:l.length=F.np:=by rw[f3,List.length_append,List.length_drop];exact ZS f1 f2
  have hlv2:=hlv.length
  have hbl:∀y∈(F.vars.take F.np).zip (vs++ds),scope.names.lookup y.1=some .local:=fun y hy=>hloc _ (List.mem_of_mem_take (List.of_mem_zip hy).1)
  refine codeAny_call_function hroom (XK _ _ ho) rfl hco hgen rfl (codeRec_of XK hcd) (hB s XK _ _ _ _ ?_)
  refine JH hcell hbl hk fun h₁ oL es ep hns hsb hoL hcL hdL=>⟨(H.nolim _ XK).fresh _ hsb,codeAny_func ?_⟩
  have hnone:s.heap.get? s.heap.objs.size=none:=Heap.get?_none_of_le (Nat.le_refl _)
  have kp:∀b o,s.heap.get? b=some o→h₁.get? b=some o:=fun b o e=>(hsb.2 b (Nat.ne_of_lt (Heap.lt_size e))).trans (Heap.get?_push_of_some _ e)
  generalize hE:YQ scope s.heap.objs.size (qual++".<locals>.") f cdv=env
  have eL:env.locals=s.heap.objs.size:=by rw[←hE];rfl
  have eS:env.scope=scope:=by rw[←hE];rfl
  have eF:env.frame=some s.heap.objs.size:=by rw[←hE];rfl
  have eG:env.globals=mainGlobals:=by rw[←hE];rfl
  have eB:env.builtins=builtinsNs:=by rw[←hE];rfl
  let c':Ac:=⟨A'.deeper env,env,env::fl,F.vars,hdx⟩
  let st1:St:={ st with loc:=l.map some++List.replicate (F.vars.length - F.np) none,d:=d }
  let s₁:Shared:={ s with heap:=h₁,toks:=s.toks+((F.vars.take F.np).zip (vs++ds)).length }
  have EO:bG c':={
   kind:=by show env.scope.kind=_;rw[eS];exact hk
   loc:=fun x hx=>⟨by show env.scope.names.lookup x=_;rw[eS];exact hloc x hx,FO.dbg x hx⟩
   nodup:=FO.nd
   glob:=eG
   blt:=eB
   frame:=by show env.frame=some env.locals;rw[eF,eL]
   fl:=⟨fl,rfl⟩ }
  have EG:EnvG G c' F.gs:=fun i hi n v hg=>by show env.scope.names.lookup n=_;rw[eS];exact hglob i hi n v hg
  have N1:Now G c' ρ st1 s₁.heap:={
   frames:=by show(A'.frames).map _=_;rw[hfl];rfl
   depth:=dp1 hD
   units:=un1 hU
   hd:=by
    exact N.hd
   rep:=N.rep.grow H.toGOK kp
   fr:=by
    show FrR ρ h₁ env.locals F.vars st1.loc
    rw[eL]
    refine⟨oL,_,hoL,by rw[hcL];exact aP rfl,hns,fun i x hx=>?_⟩
    have hi:i<F.vars.length:=(List.getElem?_eq_some_iff.mp hx).1
    by_cases z:i<F.np
    ·have e1:st1.loc[i]?=some (some (l[i]'(Nat.lt_of_lt_of_eq z hll.symm))):=by
      show(l.map some++_)[i]?=_
      rw[List.getElem?_append_left (by rw[List.length_map,hll];exact z),List.getElem?_map,List.getElem?_eq_getElem (Nat.lt_of_lt_of_eq z hll.symm)];rfl
     rw[e1]
     obtain⟨y,hy,hr⟩:=hlv.get (List.getElem?_eq_getElem (Nat.lt_of_lt_of_eq z hll.symm))
     refine⟨y,?_,hr⟩
     show((F.vars.take F.np).zip (vs++ds)).reverse.lookup x=some y
     rw[DY _ _ (FO.nd.sublist (List.take_sublist _ _)) i x (by rw[List.getElem?_take_of_lt z];exact hx)]
     exact hy
    ·have e1:st1.loc[i]?=some none:=by
      show(l.map some++_)[i]?=_
      rw[List.getElem?_append_right (by rw[List.length_map,hll];exact Nat.le_of_not_lt z),List.getElem?_replicate,if_pos (by rw[List.length_map,hll];exact Nat.sub_lt_sub_right (Nat.le_of_not_lt z) hi)]
     rw[e1]
     trivial
   frs:=by
    intro e he
    rcases List.mem_cons.mp he with rfl|he
    ·exact⟨by rw[eS];exact hk,s.heap.objs.size,oL,es,ep,eF,hoL,hcL,hdL,H.big _ N.rep.kin⟩
    ·exact(hfrs.keep fun b o q=>⟨o,kp b o q,Kept.refl o⟩) e he
   lo:=by
    show env.locals∉ρ.a∧(∀o,(env.locals,o)∉ρ.z)∧offK G env.locals
    rw[eL]
    refine⟨fun hm=>?_,fun o hz=>?_,?_⟩
    ·obtain⟨o,e,_⟩:=N.rep.nofr _ hm;rw[hnone]at e;cases e
    ·obtain⟨_,_,⟨ob,e,_⟩,_⟩:=N.rep.fz _ _ hz;rw[hnone]at e;cases e
    ·exact qH H.toGOK N.rep }
  have key:=X EO EG N1 F.body FO.wf
  have back:∀ρ' s',aF c'.env.locals ρ s₁ ρ' s'→aF s.heap.objs.size ρ s ρ' s':=fun ρ' s' S=>by
   have S':aF s.heap.objs.size ρ s₁ ρ' s':=by have:=S;rw[show c'.env.locals=s.heap.objs.size from eL]at this;exact this
   exact aF.call (s₁:=s₁) hnone kp rfl rfl S'
  split at hm
  ·cases hm
  ·rename_i fl s1 hb
   cases hm
   rcases eJ hb with⟨a',e,hb⟩|⟨e,s2,q,_,_⟩
   ·cases e
    refine key _ _ hb hq _ _ fun ρ' s' S' N' f hf=>?_
    refine post ρ' s' (back ρ' s' S') N'.rep _ ?_
    cases fl<;>cases f<;>first|exact hf|exact hf.elim|rfl
   ·cases q
  ·rename_i e s1 hb
   cases hm
   rcases eJ hb with⟨a',q,hb⟩|⟨e',s2,q,hb,hn⟩
   ·cases q
   ·cases q
    have hqs:=(gI hn).1
    refine key _ _ hb (fun q hq'=>hq q (by show q∈s1.qs;rw[hqs];exact hq')) _ _ fun ρ₁ s₂ S₁ N₁ x hx=>?_
    refine wY H.toGOK EO N₁ hx hn hq fun ρ₂ s₃ S₂ N₂=>?_
    exact post ρ₂ s₃ (back ρ₂ s₃ (S₁.trans S₂)) N₂.rep x (S₂.vr hx)
 ·cases hm
theorem Now.toC(N:Now G c ρ st s.heap){A':Around}(hA1:A'.handled=c.A.handled)(hA2:A'.frames=c.A.frames)(hA3:A'.depth≤c.A.depth+1)(hA4:A'.units≤c.A.units+6):OP G A' c.hd ρ st.objs st.d s.heap :=
 ⟨⟨c.fl,by rw[hA2];exact N.frames,N.frs⟩,tc (k:=1) hA3 N.depth,tc (k:=6) hA4 N.units,by rw[hA1];exact N.hd,N.rep⟩
theorem Now.fromC(H:GOK G)(N:Now G c ρ st s.heap){L':Addr}{s':Shared}(hL:s.heap.get? L'=none)(S:aF L' ρ s ρ' s')(R:Rep G ρ' st'.objs s'.heap)(h1:st'.loc=st.loc)(h2:st'.d=st.d):aF c.env.locals ρ s ρ' s'∧Now G c ρ' st' s'.heap :=
 ⟨aF.call (s₁:=s) hL (fun _ _ e=>e) rfl rfl S,N.back (s₁:=s) (c':=c) (loc:=[]) H hL (fun _ _ e=>e) rfl rfl S R h1 h2⟩
theorem IQ{F:Fn}{m:M Flo}{a:List SV}{r':Except SV SV}(hm:mFn F m a st=some (r',st')):st'.loc=st.loc∧st'.d=st.d:=by
 unfold mFn at hm
 split at hm
 ·split at hm<;>cases hm<;>exact⟨rfl,rfl⟩
 ·cases hm
theorem FR(H:GOK2 G){f:Nat}{F:Fn}(FO:FnOK G f F)(X:ExOK G r)(N:Now G c ρ st s.heap){A':Around}(hA1:A'.handled=c.A.handled)(hA2:A'.frames=c.A.frames)(hA3:A'.depth≤c.A.depth+1)(hA4:A'.units≤c.A.units+6)
  {a:List SV}{vs:List Value}(ha:aK (VR ρ) a vs){r':Except SV SV}(hm:mFn F (r.ex c.hd F.body) a st=some (r',st'))(hq:fK G st'){RR:Result→Shared→Prop}
  (post:∀ρ' s',aF c.env.locals ρ s ρ' s'→Now G c ρ' st' s'.heap→match r' with
   |.ok a=>∀b,VR ρ' a b→RR (.ok (.ret b)) s'
   |.error e=>∀x,VR ρ' e x→RR (.error x) s'):codeAny (model G.prog G.w) A' (.call (.ref f) ⟨vs,[]⟩) RR s:=by
 obtain⟨k1,k2⟩:=IQ hm
 refine wZ H FO X (N.toC hA1 hA2 hA3 hA4) ha hm hq fun ρ' s' S R=>?_
 obtain⟨S2,N2⟩:=N.fromC H.toGOK (Heap.get?_none_of_le (Nat.le_refl _)) S R k1 k2
 have q:=post ρ' s' S2 N2
 cases r' with
 |ok a=>exact fun y hy=>q y hy
 |error e=>exact fun y hy=>q y hy
end
end
section
open PySem.Calls
structure ZH(A A':Around):Prop where
 h1:A'.handled=A.handled
 h2:A'.frames=A.frames
 h3:A'.depth≤A.depth+1
 h4:A'.units≤A.units+6
noncomputable def CallOK(G:Gl)(f:Nat)(args:List SV)(hd:Option Nat)(d:Nat)(objs:List SO)(out:Except SV SV)(objs':List SO):Prop :=
 ∀(A:Around)(ρ:Tr)(s:Shared),OP G A hd ρ objs d s.heap→∀vs,aK (VR ρ) args vs→∀RR:Result→Shared→Prop,
  (∀L' ρ' s',s.heap.get? L'=none→aF L' ρ s ρ' s'→Rep G ρ' objs' s'.heap→match out with
   |.ok a=>∀b,VR ρ' a b→RR (.ok (.ret b)) s'
   |.error e=>∀x,VR ρ' e x→RR (.error x) s')→codeAny (model G.prog G.w) A (.call (.ref f) ⟨vs,[]⟩) RR s
noncomputable def LoopOK(G:Gl)(t:IE)(b:ISs)(hd:Option Nat)(d:Nat)(loc:List (Option SV))(objs:List SO)(out:Except SV SV)(loc':List (Option SV))(objs':List SO):Prop :=
 ∀(c:Ac)(gs:List Nat)(ρ:Tr)(st:St)(s:Shared),bG c→EnvG G c gs→wE c.vars.length gs t=true→wSS c.vars.length gs b=true→c.hd=hd→st.d=d→st.loc=loc→st.objs=objs→Now G c ρ st s.heap→∀RR:Result→Shared→Prop,
  (∀ρ' s',aF c.env.locals ρ s ρ' s'→Now G c ρ' { st with loc:=loc',objs:=objs' } s'.heap→match xQ out with
   |.ok a=>∀f,cQ ρ' a f→RR (.ok f) s'
   |.error e=>∀x,VR ρ' e x→RR (.error x) s')→codeAny (model G.prog G.w) c.A (.whileLoop (dE G c.vars t) (dSS G c.vars b) [] c.env) RR s
structure iV(G:Gl):Prop extends GOK2 G where
 vcall:∀f a hd d o out o',G.V (.call f a hd d o out o')→CallOK G f a hd d o out o'
 vloop:∀t b hd d l o out l' o',G.V (.loop t b hd d l o out l' o')→LoopOK G t b hd d l o out l' o'
theorem Now.like{G:Gl}{c:Ac}{ρ:Tr}{st st2:St}{h:Heap}(N:Now G c ρ st h)(h1:st2.loc=st.loc)(h2:st2.objs=st.objs)(h3:st2.d=st.d):Now G c ρ st2 h :=
 ⟨N.frames,by rw[h3];exact N.depth,by rw[h3];exact N.units,N.hd,by rw[h2];exact N.rep,by rw[h1];exact N.fr,N.frs,N.lo⟩
section
variable{G:Gl}{P:Pg}{r:Rec}{c:Ac}{gs:List Nat}{ρ ρ':Tr}{st st':St}{s:Shared}
theorem qE{F:Fn}{m:M Flo}(h:Grows m){a:List SV}:Grows (mFn F m a):=fun s r' s' q=>by
 unfold mFn at q
 split at q
 ·split at q
  ·cases q
  ·rename_i f s1 hb
   cases q
   obtain⟨l,hl⟩:=cT h _ _ _ hb
   exact⟨l,hl⟩
  ·rename_i e s1 hb
   cases q
   obtain⟨l,hl⟩:=cT h _ _ _ hb
   exact⟨l,hl⟩
 ·cases q
set_option tactic.hygienic true in
theorem yH{f:Nat}{hd:Option Nat}{a:List SV}:Grows (uR f hd a):=fun s r' s' q=>by
 unfold uR at q
 split at q
 ·rename_i w l _
  cases z:Nat.beq w.lp 0 with
  |true=>rw[z]at q;cases q;exact⟨[_],rfl⟩
  |false=>rw[z]at q;cases q
 ·cases q
theorem II{id:BI}{a:List SV}:Grows (mBi G id a):=by
 cases id with
 |len=>exact Grows.on1 fun _=>DA
 |isinst=>exact Grows.on2 fun _ _=>Grows.onT fun _=>DB
 |append=>exact Grows.on2 fun _ _=>cF
 |pop=>exact Grows.on1 fun _=>CW
 |index=>exact Grows.on2 fun _ _=>vH
 |dget=>exact Grows.on2 fun _ _=>yG
 |dpop=>exact Grows.on3 fun _ _ _=>yE
 |join=>exact Grows.on2 fun _ _=>yD
 |split=>exact Grows.on2 fun _ _=>vA
 |einit=>exact Grows.on2 fun _ _=>vK
theorem HX {t : TY} {a : List SV} : Grows (mTy t a) := by
  cases t with
  | str => exact Grows.on1 fun _ => CU
  | range => exact Grows.on1 fun _ => vD
  | exc => exact aB
theorem yC (h : ∀ hd b, Grows (r.ex hd b)) {hd : Option Nat} {C : Nat} {F : Fn} {x : Bool} {a : List SV} : Grows (uM r hd C F x a) := fun s r' s' q => by
  unfold uM at q
  have g : ∀ o, Grows (bnd (mFn F (r.ex hd F.body) (o :: a)) fun v => mIf (iK v) (aG o)) := fun o => Grows.bnd (qE (h _ _)) fun _ => aD Grows.ret
  cases x
  · obtain ⟨l, hl⟩ := g _ _ _ _ q; exact ⟨l, hl⟩
  · obtain ⟨l, hl⟩ := g _ _ _ _ q; exact ⟨l, hl⟩
set_option tactic.hygienic true in
theorem vB(h2:∀hd b,Grows (r.ex hd b)){hd:Option Nat}{f:SV}{a:List SV}:Grows (mS G P r hd f a):=by
 unfold mS
 split
 ·split
  ·rename_i F _
   cases F.con
   ·exact qE (h2 _ _)
   ·exact yH
  ·split
   ·split
    ·exact yC h2
    ·exact aB
   ·exact aB
 ·exact II
 ·exact HX
 ·exact aB
theorem OB(H:GOK G)(N:Now G c ρ st s.heap){v x y:SV}{a b z:Value}(hv:VR ρ v a)(hx:VR ρ x b)(hy:VR ρ y z):SA G c VR (call (.builtin "dict.pop") [a,b,z]) (GX v x y) ρ st s:=by
 refine SA.onS (T:=fun b=>call (.builtin "dict.pop") [a,b,z]) hx fun k t=>SA.onN (T:=fun z=>call (.builtin "dict.pop") [a,_,z]) hy (SA.onRef (T:=fun a=>call (.builtin "dict.pop") [a,_,_]) hv fun i o p hp ho=>SA.onSD (N.oat hp ho) fun m q=>SA.if fun g=>SA.ret0 N rfl fun Q E post=>?_)
 obtain⟨kvs,es,ep,e1,e2,e3⟩:=q
 have lo:(p==sysModules)=false:=beq_eq_false_iff_ne.mpr fun z=>absurd (z▸N.rep.low p (List.mem_of_getElem? hp)) (by decide)
 have nk:=zF e3 k
 rw[Option.isNone_iff_eq_none.mp g]at nk
 exact call_meetsIn PySem.F.slot_dict_pop e2.typeIs PySem.F.entry_dict_pop (PySem.F.args_dict_pop_3 _ _ _) (meets_dict_pop_default (strKind G.prog G.w) p (strKind_is _ _ k t) lo rfl .none)
  ⟨kvs,e2,nk,post _⟩
theorem JJ(H:GOK2 G)(N:Now G c ρ st s.heap){v x:SV}{a b:Value}(hv:VR ρ v a)(hx:VR ρ x b):SA G c VR (call (.builtin "Exception.__init__") [a,b]) (xT G v) ρ st s:=by
 refine SA.onX (T:=fun a=>call (.builtin "Exception.__init__") [a,b]) hv fun i p C d ctx tb hp ho=>SA.if fun g r' st' hm hq Q E post=>?_
 cases hm
 obtain⟨nm,qn,Nn,bs,bm,hdct,sn,sub,ab,col,dd,k0,k1,k2,k3,k5,hC,F⟩:=H.exc C g
 have hC:=N.rep.kin _ _ hC
 obtain⟨oe,vs,cx,tt,e1,e2,e3,e3',e4,e5,e6,e7,e8,e9⟩:=N.oat hp ho
 have h0:vs[0]?=some vs[0]:=Array.getElem?_eq_getElem (Nat.lt_of_lt_of_le (by decide) e3')
 refine wpAny_call (codeAny_call_builtin F.init.plain F.initEntry (wpAny_check_init_sub F hC e1 e2 ?_))
 unfold Builtin.«BaseException.__init__»
 dsimp only
 rw[if_neg (by simp)]
 unfold newTuple Builtin.BaseException.bexcPut
 have he₁:=Heap.get?_push_of_some (h:=s.heap) { cls:=.type "tuple",data:=.seq [b].toArray } e1
 refine wpAny_bind (wpAny_newObj_type (wpAny_bind (wpAny_bind (wpAny_field he₁ e3 h0 (wpAny_bind (wpAny_setField he₁ e3 (Nat.lt_of_lt_of_le (by decide) e3') ?_))))) (by size_fits))
 have q1:=kH (h:=s.heap) (o:={ cls:=.type "tuple",data:=.seq [b].toArray })
 have N1:=N.eqv H.toGOK q1
 obtain⟨o',f1,f2,f3,f4,f5⟩:=iX he₁ e3 (·.setIfInBounds 0 (Value.ref s.heap.objs.size))
 have X:=N1.excPut H.toGOK (d':=d) (ctx':=ctx) (tb':=tb) hp ho he₁ e2 e3 f1 (f2.trans e2) f5 fun TB=>⟨o',_,cx,tt,f1,f2.trans e2,f4,by rw[Array.size_setIfInBounds];exact e3',by rw[f3];exact e4,
  by rw[Array.getElem?_setIfInBounds_ne (by decide)];exact e5,e6,by rw[Array.getElem?_setIfInBounds_ne (by decide)];exact e7,TB (e8.keep fun b' o1 q _=>q1 b' o1 q),e9⟩
 have same:st.objs=st.objs.set i (.exc C d ctx tb):=by
  obtain⟨li,ei⟩:=List.getElem?_eq_some_iff.mp ho
  rw[←ei];exact(List.set_getElem_self li).symm
 have fin:=post ρ _ ((aF.eqv (tk:=s.toks) q1).trans (X.2 (tk:=s.toks) rfl)) (X.1.like rfl same rfl) .none rfl
 generalize vs[0]=old
 cases old<;>first|exact wpAny_letGo (wpAny_pure fin)|exact wpAny_pure (wpAny_pure fin)
theorem ZF(H:GOK2 G)(N:Now G c ρ st s.heap){id:BI}{a:List SV}{vs:List Value}(ha:aK (VR ρ) a vs):SA G c VR (call (.builtin id.id) vs) (mBi G id a) ρ st s:=by
 cases id with
 |len=>exact SA.on1 (T:=fun vs=>call _ vs) ha fun _ _ h1=>SA.len H.toGOK N h1
 |isinst=>exact SA.on2 (T:=fun vs=>call _ vs) ha fun _ x _ _ h1 h2=>SA.onT (T:=fun y=>call _ [x,y]) h2 fun _=>SA.isi H N h1
 |append=>exact SA.on2 (T:=fun vs=>call _ vs) ha fun _ _ _ _ h1 h2=>SA.appendF H.toGOK N h1 h2
 |pop=>exact SA.on1 (T:=fun vs=>call _ vs) ha fun _ _ h1=>SA.pop H.toGOK N h1
 |index=>exact SA.on2 (T:=fun vs=>call _ vs) ha fun _ _ _ _ h1 h2=>SA.index H.toGOK N h1 h2
 |dget=>exact SA.on2 (T:=fun vs=>call _ vs) ha fun _ _ _ _ h1 h2=>SA.dget H.toGOK N h1 h2
 |dpop=>exact SA.on3 (T:=fun vs=>call _ vs) ha fun _ _ _ _ _ _ h1 h2 h3=>OB H.toGOK N h1 h2 h3
 |join=>exact SA.on2 (T:=fun vs=>call _ vs) ha fun _ _ _ _ h1 h2=>SA.join H.toGOK N h1 h2
 |split=>exact SA.on2 (T:=fun vs=>call _ vs) ha fun _ _ _ _ h1 h2=>SA.split H.toGOK N h1 h2
 |einit=>exact SA.on2 (T:=fun vs=>call _ vs) ha fun _ _ _ _ h1 h2=>JJ H N h1 h2
theorem UX(H:GOK2 G)(N:Now G c ρ st s.heap){t:TY}{a:List SV}{vs:List Value}(ha:aK (VR ρ) a vs):SA G c VR (call (.type t.id) vs) (mTy t a) ρ st s:=by
 cases t with
 |str=>exact SA.on1 (T:=fun vs=>call _ vs) ha fun _ _ h1=>SA.str H.toGOK N h1
 |range=>exact SA.on1 (T:=fun vs=>call _ vs) ha fun _ _ h1=>SA.range H.toGOK N h1
 |exc=>exact SA.fail
end
end
section
open PySem.Calls
section
variable{prog:Program}{w:World}{A:Around}{E:Value→Shared→Prop}{h:Heap}{g:Array GenState}{d:Drawn}{t:Nat}{os:OsState}
variable{nm q:Str}{C N:Addr}{bs bm:List Value}{hdct:Bool}{sn:List Str}{sub:List Value}{ab:Bool}{col:Option Bool}{dd:Option Addr}{k0 k1 k2 k3 k5:Option Value}{B newId initId:String}
noncomputable abbrev JC(C t:Addr):Obj:={ cls:=.ref C,data:=.fields #[.ref t,.none,.none,.none,.bool false,.none] }
theorem JB(F:ExcBaseFacts B newId initId bm){mN:Str→Option Value}{rest:List Value}{fI:Addr}{oI:Obj}{Q:Fin→Shared→Prop}
  (hC:h.get? C=some (excClassObj nm q C N bs bm hdct sn sub ab col dd k0 k1 k2 k3 k5 newId))(hn:h.Ns N mN)(hi:mN "__init__" = some (.ref fI))(hfI:h.get? fI=some oI)(hfc:oI.cls = .type "function")(hrest:rest.length≤sizeLine)
  (hq:wpAny (model prog w) A (call (.ref fI) (.ref (h.objs.size+1)::rest)) (fun r s'=>r = .none∧Q (.done (.ret (.ref (h.objs.size+1)))) s') E
   ⟨(h.push { cls:=.type "tuple",data:=.seq rest.toArray }).push { cls:=.ref C,data:=.fields #[.ref h.objs.size,.none,.none,.none,.bool false,.none] },g,d,t,os⟩) :
  wpAny (model prog w) A (Builtin.«type.__call__» ⟨.ref C::rest,[]⟩) Q E ⟨h,g,d,t,os⟩:=by
 repeat (first|with_reducible refine wpAny_loadPart_at hC ?_|with_reducible refine wpAny_madeBy_exc hC ?_|wp_step)
 refine codeAny_call_builtin_code (Code.quiet_builtin _ F.quiet) (wpAny_check_new_sub F hC (codeAny_exc_new_sub F hC ?_ hrest))
 show wpAny _ _ _ _ _ _
 have up:∀b o,h.get? b=some o→((h.push { cls:=.type "tuple",data:=.seq rest.toArray }).push { cls:=.ref C,data:=.fields #[.ref h.objs.size,.none,.none,.none,.bool false,.none] }).get? b=some o:=fun b o e=>Heap.get?_push_of_some _ (Heap.get?_push_of_some _ e)
 have hx:((h.push { cls:=.type "tuple",data:=.seq rest.toArray }).push { cls:=.ref C,data:=.fields #[.ref h.objs.size,.none,.none,.none,.bool false,.none] }).get? (h.objs.size+1)=some { cls:=.ref C,data:=.fields #[.ref h.objs.size,.none,.none,.none,.bool false,.none] }:=by heap_get
 have hn₁:((h.push { cls:=.type "tuple",data:=.seq rest.toArray }).push { cls:=.ref C,data:=.fields #[.ref h.objs.size,.none,.none,.none,.bool false,.none] }).Ns N mN:=let⟨o,es,ep,e,r⟩:=hn;⟨o,es,ep,up _ _ e,r⟩
 have hcC:(Value.ref C::bm).contains (.ref C)=true:=by simp
 have hC₁:=up _ _ hC
 unfold isInstance
 repeat (first|with_reducible refine wpAny_loadPart_at hx ?_|(with_reducible refine wpAny_isSubtype_exc hC₁ ?_;rw[hcC])|wp_step)
 show wpAny _ _ (typeLookup (.ref C) _) _ _ _
 refine wpAny_typeLookup_exc hC₁ hn₁ F.mroIs F.init.lookup ?_
 rw[hi]
 refine wpAny_holding (wpAny_bind ?_)
 unfold bindSpecial
 refine wpAny_bind (wpAny_typeOf (T:="function") ⟨_,up _ _ hfI,hfc⟩ ?_)
 rw[if_pos (by decide)]
 refine wpAny_pure (wpAny_bind (wpAny_mono hq (fun r s' hr=>?_) fun _ _ e=>e))
 obtain⟨rfl,hQ⟩:=hr
 wp_walk
 exact hQ
theorem JA(F:ExcBaseFacts B newId initId bm){mN:Str→Option Value}{rest:List Value}{fI:Addr}{oI:Obj}{Q:Value→Shared→Prop}
  (hC:h.get? C=some (excClassObj nm q C N bs bm hdct sn sub ab col dd k0 k1 k2 k3 k5 newId))(hn:h.Ns N mN)(hi:mN "__init__" = some (.ref fI))(hfI:h.get? fI=some oI)(hfc:oI.cls = .type "function")(hrest:rest.length≤sizeLine)
  (hq:wpAny (model prog w) (A.under (.builtin "type.__call__" ⟨.ref C::rest,[]⟩)) (call (.ref fI) (.ref (h.objs.size+1)::rest)) (fun r s'=>r = .none∧Q (.ref (h.objs.size+1)) s') E
   ⟨(h.push { cls:=.type "tuple",data:=.seq rest.toArray }).push { cls:=.ref C,data:=.fields #[.ref h.objs.size,.none,.none,.none,.bool false,.none] },g,d,t,os⟩):wpAny (model prog w) A (call (.ref C) rest) Q E ⟨h,g,d,t,os⟩:=by
 have f1:=tc_lookup
 have f2:=tc_bind (.ref C)
 have hT:(⟨h,g,d,t,os⟩:Shared).TypeIs (.ref C) "type":=⟨_,hC,rfl⟩
 refine wpAny_call (codeAny_of_tree ?_)
 show wpAny _ _ (callAny (.ref C) _) _ _ _
 repeat (any_goals (first|assumption|with_reducible refine wpAny_loadPart_at hC ?_|wp_step))
 refine⟨rfl,?_⟩
 exact codeAny_call_builtin_at (Code.quiet_builtin _ (by decide +kernel)) entry_typeCall (wpAny_check_type_call_sub hC (JB F hC hn hi hfI hfc hrest hq))
end
section
variable{G:Gl}{P:Pg}{r:Rec}{c:Ac}{gs:List Nat}{ρ ρ':Tr}{st st':St}{s:Shared}
theorem bS{A:Around}{C:Addr}{rest:List Value}:ZH A (A.under (.builtin "type.__call__" ⟨.ref C::rest,[]⟩)):=by
 have w:(Code.builtin "type.__call__" ⟨.ref C::rest,[]⟩).weight=1:=by kernel_rfl
 have u:(Code.builtin "type.__call__" ⟨.ref C::rest,[]⟩).cUnits=1:=by kernel_rfl
 have e:(Code.builtin "type.__call__" ⟨.ref C::rest,[]⟩).envs=[]:=by kernel_rfl
 refine⟨rfl,?_,?_,?_⟩
 ·unfold Around.under;rw[e];rfl
 ·unfold Around.under;rw[w];exact Nat.le_refl _
 ·unfold Around.under;rw[u];exact Nat.add_le_add_left (by decide) _
set_option tactic.hygienic true in
theorem AN{F:Fn}{m:M Flo}{a:List SV}{x:Option (Except SV SV×St)}(hm:mFn F m a st=x)(hx:x.isSome=true):a.length≤F.np:=by
 unfold mFn at hm
 split at hm
 ·rename_i l d hl hd
  exact(vR hl).1
 ·subst hm;exact Bool.noConfusion hx
theorem OE{F:Fn}{m:M Flo}{a:List SV}{f:SV→M SV}{x:Except SV SV}(h:bnd (mFn F m a) f st=some (x,st')):a.length≤F.np:=by
 rcases aT h with⟨e,q,_⟩|⟨v,s1,q,_⟩
 ·exact AN q rfl
 ·exact AN q rfl
theorem uJ(H:GOK2 G){i:Nat}{F:Fn}(FO:FnOK G i F)(X:ExOK G r){ρ₂:Tr}{st₂:St}{s₂:Shared}(N:Now G c ρ₂ st₂ s₂.heap)(S:aF c.env.locals ρ s ρ₂ s₂){j:Nat}{b C:Addr}{rest:List Value}(hj:ρ₂.a[j]?=some b){a:List SV}{vs:List Value}(ha:aK (VR ρ) a vs){r':Except SV SV}
  (hm:bnd (mFn F (r.ex c.hd F.body) (.ref j::a)) (fun v=>mIf (iK v) (aG (.ref j))) st₂=some (r',st'))(hq:fK G st'){Q:Value→Shared→Prop}{E:Value→Shared→Prop}(post:ZI G c VR ρ s Q E r' st'){RR:Result→Shared→Prop}
  (h1:∀s',Q (.ref b) s'→RR (.ok (.ret .none)) s')(h2:∀x s',E x s'→RR (.error x) s'):codeAny (model G.prog G.w) (c.A.under (.builtin "type.__call__" ⟨.ref C::rest,[]⟩)) (.call (.ref i) ⟨.ref b::vs,[]⟩) RR s₂:=by
 have ha2:aK (VR ρ₂) (.ref j::a) (.ref b::vs):=⟨⟨_,hj,rfl⟩,S.vrs ha⟩
 rcases aT hm with⟨e,q1,rfl⟩|⟨v,s1,q1,q2⟩
 ·exact FR H FO X N bS.h1 bS.h2 bS.h3 bS.h4 ha2 q1 hq fun ρ' s' S' N'=>fun x hx=>h2 _ _ (post ρ' s' (S.trans S') N' x hx)
 ·obtain⟨g,q2⟩:=cY q2
  cases q2
  refine FR H FO X N bS.h1 bS.h2 bS.h3 bS.h4 ha2 q1 hq fun ρ' s' S' N'=>fun y hy=>?_
  cases v with
  |none =>
   cases(show y = .none from hy)
   exact h1 _ (post ρ' s' (S.trans S') N' _ ⟨_,S'.idx hj,rfl⟩)
  |_=>exact Bool.noConfusion g
theorem aF.push2{L:Addr}{s₁:Shared}{o p:Obj}{tk:Nat}(e:s₁.heap=s.heap.push p):aF L ρ s₁ (ρ.add (s.heap.objs.size+1)) { s₁ with heap:=s₁.heap.push o,toks:=tk }:=by
 have h:=aF.alloc (L:=L) (ρ:=ρ) (s:=s₁) (o:=o) (tk:=tk)
 rw[show s₁.heap.objs.size=s.heap.objs.size+1 from by rw[e];exact Heap.size_push ..]at h
 exact h
set_option tactic.hygienic true in
theorem MT(H:GOK2 G)(PO:wI G P)(X:ExOK G r)(N:Now G c ρ st s.heap){C i:Nat}{F:Fn}{x:Bool}(hk:P.kl C=some (i,x))(hF:P.fn i=some F){a:List SV}{vs:List Value}(ha:aK (VR ρ) a vs) :
  SA G c VR (call (.ref C) vs) (uM r c.hd C F x a) ρ st s:=by
 intro r' st' hm hq Q E post
 have FO:=PO.fn i F hF
 have XK:=N.rep.kin
 have hidx:∀b,(ρ.add b).a[st.objs.length]?=some b:=fun b=>by
  show(ρ.a++[_])[_]?=_
  rw[←N.rep.len,List.getElem?_append_right (Nat.le_refl _),Nat.sub_self];rfl
 cases x with
 |true =>
  obtain⟨hxc,_,_,oi,mN,nm,qn,Nn,bs,bm,hdct,sn,sub,ab,col,dd,k0,k1,k2,k3,k5,hC,FF,hoi,hfc,hmi,hns⟩:=PO.kx C i hk
  have hm:bnd (mFn F (r.ex c.hd F.body) (.ref st.objs.length::a)) (fun v=>mIf (iK v) (aG (.ref st.objs.length))) { st with objs:=st.objs++[.exc C none .none false] }=some (r',st'):=hm
  have hlt:vs.length≤sizeLine:=ha.length▸Nat.le_trans (Nat.le_of_succ_le (OE hm)) (Nat.le_trans FO.np (Nat.le_trans FO.small (by decide)))
  refine JA FF (XK _ _ hC) (hns _ XK) hmi (XK _ _ hoi) hfc hlt (wpAny_call ?_)
  have q1:=kH (h:=s.heap) (o:={ cls:=.type "tuple",data:=.seq vs.toArray })
  have hs1:(s.heap.push { cls:=.type "tuple",data:=.seq vs.toArray }).objs.size=s.heap.objs.size+1:=Heap.size_push ..
  have N2:=(N.eqv H.toGOK q1).alloc H.toGOK (o:=JC C s.heap.objs.size) (so:=.exc C none .none false) rfl (fun q=>nomatch q) (fun q=>nomatch q)
   ⟨_,_,.none,.none,Heap.get?_push_size _ rfl,rfl,rfl,Nat.le_refl 6,rfl,rfl,rfl,rfl,.inl rfl,fun q=>nomatch q⟩
  rw[hs1]at N2
  exact uJ H FO X (s₂:={ s with heap:=(s.heap.push { cls:=.type "tuple",data:=.seq vs.toArray }).push (JC C s.heap.objs.size) }) N2 ((aF.eqv (tk:=s.toks) q1).trans (aF.push2 (s:=s) (tk:=s.toks) rfl)) (hidx _) ha hm hq post (fun s' q=>⟨rfl,q⟩) fun _ _ q=>q
 |false =>
  obtain⟨hmk,hi,hf,_,_⟩:=PO.kl C i hk
  have hm:bnd (mFn F (r.ex c.hd F.body) (.ref (st.objs.length+1)::a)) (fun v=>mIf (iK v) (aG (.ref (st.objs.length+1)))) { st with objs:=st.objs++[.idict []]++[.inst C (some st.objs.length)] }=some (r',st'):=hm
  refine wpAny_call (make_core (makes_of XK hmk) (looks_findIn XK hi) (fun self=>bind_fn XK self hf) (.inl rfl) ?_)
  have N1:=N.alloc H.toGOK (o:=emptyDict) (so:=.idict []) rfl (aP rfl) (aP rfl)
   ⟨fun _=>none,#[],0,Heap.get?_push_size _ rfl,Nat.le_refl _,nB (Heap.get?_push_size _ rfl),fun i=>rfl⟩
  have hs1:(s.heap.push emptyDict).objs.size=s.heap.objs.size+1:=Heap.size_push ..
  have N2:=N1.alloc H.toGOK (o:=instObj C s.heap.objs.size) (so:=.inst C (some st.objs.length)) rfl (fun q=>nomatch q) (fun q=>nomatch q) ⟨_,Heap.get?_push_size _ rfl,_,Tr.le_add.idx (hidx _),rfl⟩
  rw[hs1]at N2
  have hidx2:((ρ.add s.heap.objs.size).add (s.heap.objs.size+1)).a[st.objs.length+1]?=some (s.heap.objs.size+1):=by
   show((ρ.a++[_])++[_])[_]?=_
   rw[List.getElem?_append_right (by rw[List.length_append,N.rep.len];exact Nat.le_refl _),List.length_append,N.rep.len]
   simp
  exact uJ H FO X (s₂:={ s with heap:=(s.heap.push emptyDict).push (instObj C s.heap.objs.size) }) N2 ((aF.alloc (tk:=s.toks)).trans (aF.push2 (s:=s) (tk:=s.toks) rfl)) hidx2 ha hm hq post (fun s' q=>⟨rfl,q⟩) fun _ _ q=>q
set_option tactic.hygienic true in
theorem EV(H:iV G)(PO:wI G P)(X:ExOK G r)(N:Now G c ρ st s.heap)(f:SV)(fv:Value)(a:List SV)(vs:List Value)(hf:VR ρ f fv)(ha:aK (VR ρ) a vs):SA G c VR (call fv vs) (mS G P r c.hd f a) ρ st s:=by
 unfold mS
 split
 ·rename_i b
  cases hf
  split
  ·rename_i F hF
   cases hcon:F.con with
   |false =>
    intro r' st' hm hq Q E post
    exact wpAny_call (FR H.toGOK2 (PO.fn b F hF) X N rfl rfl (Nat.le_succ _) (Nat.le_add_right _ _) ha hm hq fun ρ' s' S' N'=>by
     have q:=post ρ' s' S' N'
     cases r' with
     |ok a=>exact fun y hy=>q y hy
     |error e=>exact fun y hy=>q y hy)
   |true =>
    intro r' st' hm hq Q E post
    have hm:uR b c.hd a st=some (r',st'):=hm
    unfold uR at hm
    split at hm
    ·rename_i w l ho
     cases z:Nat.beq w.lp 0 with
     |false=>rw[z]at hm;cases hm
     |true =>
      rw[z]at hm;cases hm
      have V:=H.vcall _ _ _ _ _ _ _ (hq _ (.head _))
      refine wpAny_call (V c.A ρ s (N.toC rfl rfl (Nat.le_succ _) (Nat.le_add_right _ _)) vs ha _ fun L' ρ' s' hL S R=>?_)
      obtain⟨S2,N2⟩:=N.fromC (st':={ st with objs:=w.objs st.objs,orc:=l,qs:=.call b a c.hd st.d st.objs (w.out st.objs) (w.objs st.objs)::st.qs }) H.toGOK hL S R rfl rfl
      have q:=post ρ' s' S2 N2
      cases ho2:w.out st.objs with
      |ok a=>rw[ho2]at q;exact fun y hy=>q y hy
      |error e=>rw[ho2]at q;exact fun y hy=>q y hy
    ·cases hm
  ·cases hk:P.kl b with
   |none=>exact SA.fail
   |some ix =>
    obtain⟨i,x⟩:=ix
    show SA G c VR _ (match P.fn i with|some F=>uM r c.hd b F x a|none=>aH) ρ st s
    cases hF:P.fn i with
    |none=>exact SA.fail
    |some F=>exact MT H.toGOK2 PO X N hk hF ha
 ·cases hf;exact ZF H.toGOK2 N ha
 ·cases hf;exact UX H.toGOK2 N ha
 ·exact SA.fail
set_option tactic.hygienic true in
theorem wN{hd:Option Nat}{f:SV}{a:List SV}{x:Except SV SV×St}(h:mS G P r hd f a st=some x):KindOK P f:=by
 unfold mS at h
 split at h
 ·rename_i b
  refine .inr (.inr ⟨b,rfl,?_⟩)
  cases hF:P.fn b with
  |some F=>exact .inl rfl
  |none =>
   rw[hF]at h
   cases hk:P.kl b with
   |some ix=>exact .inr rfl
   |none=>rw[hk]at h;cases h
 ·exact .inl ⟨_,rfl⟩
 ·exact .inr (.inl ⟨_,rfl⟩)
 ·cases h
end
end
section
open PySem.Calls
theorem find_erase{α:Type}(p:α→Bool):∀(l:List α)(i:Nat)(h:i<l.length),p l[i]=false→(l.eraseIdx i).find? p=l.find? p
 |x::l,0,h,hp=>by
  have hp:p x=false:=hp
  simp[hp]
 |x::l,i+1,h,hp=>by
  have ih:=find_erase p l i (Nat.lt_of_succ_lt_succ h) hp
  simp only[List.eraseIdx_cons_succ,List.find?_cons,ih]
section
variable{M:Model}{A:Around}{E:Value→Shared→Prop}{s:Shared}
theorem qR{a:Addr}{m:Str→Option Value}{name:Str}{Q:Bool→Shared→Prop}(hn:s.heap.Ns a m)
  (hQ:∀h' m',h'.Ns a m'→(∀y,y≠name→m' y=m y)→Heap.SameBut a s.heap h'→(∀o,s.heap.get? a=some o→KeptAt h' a o)→Q (m name).isSome { s with heap:=h' }):wpAny M A (nsDel a name) Q E s:=by
 obtain⟨o,es,ep,ho,hd,hk,hm⟩:=id hn
 have hany:es.any (·.refKey)=false:=by
  rw[Array.any_eq_false'];intro e he;obtain⟨n,t,h⟩:=hk e he;simp[DictEntry.refKey,h]
 have hsome:(m name).isSome=es.any (·.key.isStr name):=by
  rw[←hm name];simp only[nsFind,findBy,Option.isSome_map]
  rw[Bool.eq_iff_iff];simp only[Array.find?_isSome,Array.any_eq_true]
  constructor
  ·rintro⟨x,hx,hp⟩;obtain⟨i,hi,rfl⟩:=Array.mem_iff_getElem.mp hx;exact⟨i,hi,hp⟩
  ·rintro⟨i,hi,hp⟩;exact⟨_,Array.getElem_mem hi,hp⟩
 have hhas:nsHas name o=Pure.pure (es.any (·.key.isStr name)):=by
  rw[nsHas_eq];unfold nsHasByArray;rw[hd]
  show(if(es.any fun x=>x.key.isStr name)=true then _ else _)=_
  generalize (es.any fun x=>x.key.isStr name)=b
  cases b<;>simp[hany]
 unfold nsDel
 refine wpAny_bind (wpAny_loadPart ho ?_)
 rw[hhas]
 refine wpAny_bind (wpAny_pure ?_)
 rw[←hsome]
 cases hmn:(m name).isSome
 ·have:=hQ s.heap m hn (fun _ _=>rfl) (.refl ..) (fun o q=>⟨o,q,Kept.refl o⟩)
  rw[hmn]at this
  exact wpAny_pure this
 ·refine wpAny_bind (wpAny_updatePart ho (wpAny_pure ?_))
  have key:∃m',(s.heap.update a (Obj.dropName name)).Ns a m'∧(∀y,y≠name→m' y=m y)∧KeptAt (s.heap.update a (Obj.dropName name)) a o:=by
   obtain⟨cl,d,dt,sl⟩:=o
   simp only at hd
   subst hd
   cases hi:es.findIdx? (·.key.isStr name)with
   |some i =>
    have e1:Obj.dropName name ⟨cl,d,.dict es ep,sl⟩=⟨cl,d,.dict (es.eraseIdxIfInBounds i) (ep+1),sl⟩:=by simp only[Obj.dropName_eq,Obj.dropNameByArray,hi]
    have g:=Heap.get?_update_self (Obj.dropName name) ho (by rw[e1];rfl)
    rw[e1]at g
    have hlt:=(Array.findIdx?_eq_some_iff_getElem.mp hi).1
    have hp:=(Array.findIdx?_eq_some_iff_getElem.mp hi).2.1
    refine⟨fun y=>nsFind (es.eraseIdxIfInBounds i) y,⟨_,_,ep+1,g,rfl,hk.erase i,fun _=>rfl⟩,fun y hy=>?_,_,g,rfl,fun es0 ep0 q=>⟨_,_,rfl⟩⟩
    rw[←hm y]
    unfold nsFind findBy
    have e2:es.eraseIdxIfInBounds i=es.eraseIdx i hlt:=by unfold Array.eraseIdxIfInBounds;rw[dif_pos hlt]
    rw[e2]
    obtain⟨l⟩:=es
    simp only[List.eraseIdx_toArray,List.find?_toArray]
    refine congrArg (Option.map (·.val)) (find_erase (fun e=>e.key.isStr y) l i (by simpa using hlt) ?_)
    obtain⟨n,t,hkey⟩:=hk l[i] (by simp)
    simp only[List.getElem_toArray]at hp
    rw[hkey]at hp ⊢
    simp only[Value.isStr,beq_iff_eq,decide_eq_true_eq]at hp
    simp only[Value.isStr,beq_eq_false_iff_ne,decide_eq_false_iff_not]
    intro q
    first
     |exact hy (q.symm.trans hp)
     |exact hy (hp.symm.trans q).symm
     |exact hy (q▸hp)
   |none=>exact absurd hi (by
     intro q
     have:es.any (·.key.isStr name)=true:=by rw[←hsome];exact hmn
     rw[Array.any_eq_true]at this
     obtain⟨j,hj,hp⟩:=this
     have:=Array.findIdx?_eq_none_iff.mp q es[j] (Array.getElem_mem hj)
     rw[hp]at this;cases this)
  obtain⟨m',hm',hy,o',g,kk⟩:=key
  have:=hQ _ m' hm' hy (Heap.SameBut.update ..) (fun o1 q=>by rw[ho]at q;cases q;exact⟨o',g,kk⟩)
  rw[hmn]at this
  exact this
end
section
variable{G:Gl}{P:Pg}{r:Rec}{c:Ac}{gs:List Nat}{ρ ρ':Tr}{st st':St}{s:Shared}
theorem Now.del{h h':Heap}(N:Now G c ρ st h)(H:GOK G){i:Nat}{x:Str}(hx:c.vars[i]?=some x)(hn:c.vars.Nodup)
  (hns:∀m,h.Ns c.env.locals m→∃m',h'.Ns c.env.locals m'∧∀y,y≠x→m' y=m y)(hcl:∀o,h.get? c.env.locals=some o→KeptAt h' c.env.locals o)
  (hsb:Heap.SameBut c.env.locals h h'):Now G c ρ { st with loc:=st.loc.set i none } h':=by
 have e':∀b o,h.get? b=some o→KeptAt h' b o:=fun b o q=>by
  by_cases z:b=c.env.locals
  ·subst z;exact hcl o q
  ·exact⟨o,(hsb.2 b z).trans q,Kept.refl o⟩
 refine⟨N.frames,N.depth,N.units,N.hd,N.rep.outer H (X:=fun b=>b=c.env.locals) (fun b o q hb=>⟨o,(hsb.2 b hb).trans q,Eqv.refl o⟩) (fun b hb=>?_),?_,N.frs.keep e',N.lo⟩
 ·subst hb;obtain⟨o,_,e,hc,_⟩:=N.fr;exact⟨N.lo.1,N.lo.2.1,N.lo.2.2,fun o' e'=>by rw[e]at e';cases e';exact hc⟩
 ·obtain⟨o,mr,e,hc,ns,rr⟩:=N.fr
  obtain⟨o',e2,c2⟩:=hcl o e
  obtain⟨m',ns',hy'⟩:=hns mr ns
  refine⟨o',m',e2,by rw[c2.cls];exact hc,ns',fun j y hy=>?_⟩
  by_cases z:i=j
  ·subst z
   rw[List.getElem?_set]
   simp only[if_true]
   split
   ·rename_i q;split at q<;>cases q
   ·trivial
  ·rw[List.getElem?_set_ne z]
   have ne:y≠x:=fun q=>by
    subst q
    obtain⟨l1,f1⟩:=List.getElem?_eq_some_iff.mp hx
    obtain⟨l2,f2⟩:=List.getElem?_eq_some_iff.mp hy
    exact z (dD hn l1 l2 (f1.trans f2.symm))
   have:=rr j y hy
   rw[hy' y ne];exact this
theorem GC{i:Nat}(h:Nat.blt i c.vars.length=true):c.vars[i]?=some (dB c.vars i):=by
 have hi:i<c.vars.length:=Nat.le_of_ble_eq_true h
 unfold dB
 rw[List.getD_eq_getElem?_getD,List.getElem?_eq_getElem hi];rfl
theorem rK(H:GOK G)(EB:EnvB c)(N:Now G c ρ st s.heap){i:Nat}(hi:Nat.blt i c.vars.length=true){v:SV}{y:Value}(hv:VR ρ v y) :
  SA G c (fun _ _ _=>True) (bindName c.env (dB c.vars i) y) (nJ i v) ρ st s:=by
 unfold bindName
 refine SA.pre_unit (fun _ _ q=>wpAny_holding (wpAny_point q)) ?_
 intro r' st' hm hq Q E post
 refine wpAny_bind (SA.storeLocal H EB N (GC hi) hv r' st' hm hq _ _ fun ρ' s' S' N'=>?_)
 have q:=post ρ' s' S' N'
 cases r' with
 |ok a=>exact fun b hb=>wpAny_point (q b trivial)
 |error e=>exact q
theorem CE(H:GOK G)(EB:EnvB c)(N:Now G c ρ st s.heap){i:Nat}(hi:Nat.blt i c.vars.length=true){v:SV}(hl:st.loc[i]?=some (some v)){p:Pos} :
  SA G c (fun _ _ _=>True) (unbindBehindTheSuite c.env (dB c.vars i) p) (HA i) ρ st s:=by
 intro r' st' hm hq Q E post
 unfold HA at hm
 cases q:Nat.blt i st.loc.length with
 |false=>rw[q]at hm;cases hm
 |true =>
  rw[q]at hm;cases hm
  have hx:=GC hi
  obtain⟨o,mr,e,hc,ns,rr⟩:=N.fr
  have hsome:=rr i _ hx
  rw[hl]at hsome
  obtain⟨y,hy,_⟩:=hsome
  unfold unbindBehindTheSuite unbindName
  refine wpAny_onRaise (wpAny_bind (wpAny_point (wpAny_bind ?_)))
  unfold deleteName
  simp only[(EB.loc _ (List.mem_of_getElem? hx)).1,EB.kind]
  refine wpAny_bind (m:=nsDel c.env.locals (dB c.vars i)) (qR ns fun h' m' hn' hy' hsb hcl=>?_)
  rw[hy]
  refine wpAny_pure (wpAny_point ?_)
  refine post ρ _ (aF.store (s:=s) (tk:=s.toks) hsb hcl) (N.del H hx EB.nodup (fun m hm=>⟨m',hn',fun z hz=>?_⟩) hcl hsb) () trivial
  have:m=mr:=by
   funext z
   obtain⟨o1,es1,ep1,g1,d1,k1,f1⟩:=hm
   obtain⟨o2,es2,ep2,g2,d2,k2,f2⟩:=ns
   rw[g1]at g2;cases g2;rw[d1]at d2;cases d2
   rw[←f1 z,←f2 z]
  rw[this];exact hy' z hz
end
end
section
open PySem.Calls
theorem hZ:∀{l:List (Nat×Pos)}{vs:List SV},Grows (nL l vs)
 |[],[]=>Grows.ret
 |x::l,v::vs=>Grows.bnd dG fun _=>hZ
 |[],_::_=>aB
 |_::_,[]=>aB
theorem iL{v:SV}:Grows (MW v):=Grows.onRef fun _=>aD Grows.ret
theorem vG{hd:Option Nat}{v:SV}{n:Nat}:Grows (rW hd v n):=aD (Grows.bnd aV fun _=>Grows.onTup fun _=>aD Grows.ret)
theorem CD{α:Type}{o:SO}{k:List SV→M α}{st st':St}{x:Except SV α}(h:mW o k st=some (x,st')):∃xs,o = .tuple xs∧k xs st=some (x,st'):=by
 cases o with
 |tuple xs=>exact⟨xs,rfl,h⟩
 |_=>exact nos h
theorem fW{G:Gl}{r:Rec}(h:∀hd e,Grows (r.ev hd e)){hd:Option Nat}{v:SV}{t:IT}:Grows (sA G r hd v t):=by
 cases t with
 |name i p=>exact Grows.bnd vJ fun _=>dG
 |attr o n p=>exact Grows.bnd (h _ _) fun _=>eO
 |sub o i p=>exact Grows.bnd (h _ _) fun _=>Grows.bnd (h _ _) fun _=>gL
 |tup is k p=>exact Grows.bnd vG fun _=>hZ
section
variable{G:Gl}{P:Pg}{r:Rec}{c:Ac}{gs:List Nat}{ρ ρ':Tr}{st st':St}{s:Shared}
theorem gR(env:Env)(vars:List Str):∀l:List (Nat×Pos),assignEach (l.map fun x=>Expr.Name (dB vars x.1) x.2) env=l.map fun x=>(false,assign (.Name (dB vars x.1) x.2) env)
 |[]=>rfl
 |x::l=>by
  show(false,assign (.Name (dB vars x.1) x.2) env)::assignEach (l.map fun x=>Expr.Name (dB vars x.1) x.2) env=_
  rw[gR env vars l];rfl
theorem uA(H:GOK G)(EB:EnvB c):∀(l:List (Nat×Pos))(xs:List SV)(vs:List Value){ρ:Tr}{st:St}{s:Shared},Now G c ρ st s.heap→(l.all fun x=>Nat.blt x.1 c.vars.length)=true→aK (VR ρ) xs vs →
  SA G c (fun _ _ _=>True) (assignInOrder (l.map fun x=>assign (.Name (dB c.vars x.1) x.2) c.env) vs) (nL l xs) ρ st s
 |[],[],[],ρ,st,s,N,_,_=>SA.pure N trivial
 |x::l,v::xs,y::ys,ρ,st,s,N,h,ha=>by
  rw[List.all_cons]at h
  obtain⟨h1,h2⟩:=aN h
  show SA G c _ (do PySem.holding ys (assign (.Name (dB c.vars x.1) x.2) c.env y);assignInOrder (l.map fun x=>assign (.Name (dB c.vars x.1) x.2) c.env) ys) _ ρ st s
  have e:assign (.Name (dB c.vars x.1) x.2) c.env y=(do PySem.standAt x.2;bindName c.env (dB c.vars x.1) y):=rfl
  rw[e]
  refine SA.bind (fun _=>hZ) (SA.holding (SA.standAt (rK H EB N h1 ha.1))) fun ρ₁ st₁ s₁ _ _ S₁ N₁ _ _=>?_
  exact uA H EB l xs ys N₁ h2 (S₁.vrs ha.2)
 |[],_::_,_,ρ,st,s,N,_,_=>SA.fail
 |_::_,[],_,ρ,st,s,N,_,_=>SA.fail
 |_::_,_::_,[],ρ,st,s,N,_,ha=>ha.elim
 |[],[],_::_,ρ,st,s,N,_,ha=>ha.elim
theorem iI(S:SRec G P r)(H:GOK2 G)(EB:EnvB c)(EG:EnvG G c gs)(N:Now G c ρ st s.heap)(t:IT)(h:wT c.vars.length gs t=true){v:SV}{y:Value}(hv:VR ρ v y) :
  SA G c (fun _ _ _=>True) (assign (dT G c.vars t) c.env y) (sA G r c.hd v t) ρ st s:=by
 cases t with
 |name i p =>
  refine SA.eq (t':=(Pure.pure y>>=fun y=>(do PySem.standAt p;bindName c.env (dB c.vars i) y))) rfl ?_
  exact SA.bind (fun _=>dG) (SA.ghost N hv) fun ρ₁ st₁ s₁ a b S₁ N₁ _ hab=>SA.standAt (rK H.toGOK EB N₁ h hab)
 |attr o n p =>
  show SA G c _ (do
   let ov ←PySem.holding [y] (eval (dE G c.vars o) c.env)
   PySem.standAt p.atName
   PySem.holding [y,ov] (setAttr ov (G.an n) y)
   release [y,ov] []) _ ρ st s
  refine SA.bind (fun _=>eO) (SA.holding (S.ev EB EG N o h)) fun ρ₁ st₁ s₁ a b S₁ N₁ _ hab=>?_
  refine SA.standAt ?_
  intro r' st' hm hq Q E post
  refine wpAny_bind (wpAny_holding (SA.setX H.toGOK N₁ hab (n:=n) rfl (S₁.vr hv) r' st' hm hq _ _ fun ρ' s' S' N'=>?_))
  have q:=post ρ' s' S' N'
  cases r' with
  |ok a=>exact fun b hb=>wpAny_release (q () trivial)
  |error e=>exact q
 |sub o i p =>
  obtain⟨h1,h2⟩:=aN h
  show SA G c _ (do
   let ov ←PySem.holding [y] (eval (dE G c.vars o) c.env)
   let iv ←PySem.holding [y,ov] (eval (dE G c.vars i) c.env)
   PySem.standAt p
   PySem.holding [y,ov,iv] (setItem ov iv y)
   release (match dE G c.vars i with | .Slice _ _ none _=>[iv,y,ov]|_=>[y,ov,iv]) []) _ ρ st s
  refine SA.bind (fun _=>Grows.bnd (S.gev _ _) fun _=>gL) (SA.holding (S.ev EB EG N o h1)) fun ρ₁ st₁ s₁ a b S₁ N₁ _ hab=>?_
  refine SA.bind (fun _=>gL) (SA.holding (S.ev EB EG N₁ i h2)) fun ρ₂ st₂ s₂ a' b' S₂ N₂ _ hab'=>?_
  refine SA.standAt ?_
  intro r' st' hm hq Q E post
  refine wpAny_bind (wpAny_holding (SA.storeI H.toGOK N₂ (S₂.vr hab) hab' (S₂.vr (S₁.vr hv)) r' st' hm hq _ _ fun ρ' s' S' N'=>?_))
  have q:=post ρ' s' S' N'
  cases r' with
  |ok a=>exact fun b hb=>wpAny_release (q () trivial)
  |error e=>exact q
 |tup is k p =>
  intro r' st' hm hq Q E post
  have hm:bnd (rW c.hd v is.length) (fun xs=>nL is xs) st=some (r',st'):=hm
  have eT:dT G c.vars (.tup is k p) = .Tuple (is.map fun x=>Expr.Name (dB c.vars x.1) x.2) k p:=rfl
  rw[eT]
  have items:∀{x s1},rW c.hd v is.length st=some (x,s1)→c.hd=none∧∃xs p,y = .ref p∧OR G ρ s.heap p (.tuple xs)∧xs.length=is.length∧x = .ok xs∧s1=st:=fun q1=>by
   obtain⟨g0,q1⟩:=cY q1
   obtain⟨o,pl,hpl,ho,q1,_⟩:=N.look hv q1
   obtain⟨xs,rfl,q1⟩:=CD q1
   obtain⟨g1,q1⟩:=cY q1
   cases q1
   exact⟨Option.isNone_iff_eq_none.mp g0,xs,pl,hpl,ho,Nat.eq_of_beq_eq_true g1,rfl,rfl⟩
  rcases aT hm with⟨e,q1,_⟩|⟨x1,s1,q1,hm2⟩
  ·obtain⟨_,_,_,_,_,_,q,_⟩:=items q1;exact nomatch q
  obtain⟨hh,xs,pl,rfl,⟨vs,n,e1,e2⟩,hl,e3,rfl⟩:=items q1
  cases e3
  have hA:c.A.handled=none:=by have:=N.hd;rw[hh]at this;exact this
  have hvl:is.length=vs.size:=hl▸e2.length
  refine wpAny_assign_Tuple hA ⟨_,e1,rfl,n,rfl⟩ (by rw[gR,List.length_map];exact hvl) (by rw[gR];simp[List.findIdx?_eq_none_iff]) fun h' he=>?_
  have eq:∀b o,s.heap.get? b=some o→bW h' b o:=fun b o q=>⟨o,he b o (Nat.ne_of_lt (Heap.lt_size q)) q,Eqv.refl o⟩
  have N1:=N.eqv H.toGOK eq
  rw[gR,List.map_map]
  refine uA H.toGOK EB is _ vs.toList (s:={ s with heap:=h' }) N1 h e2 r' st' hm2 hq Q E fun ρ' s' S' N'=>?_
  exact post ρ' s' ((aF.eqv (s:=s) (tk:=s.toks) eq).trans S') N'
end
end
section
open PySem.Calls
inductive Tb(st:St)(e:SV):Prop
 |mk(i C:Nat)(d:Option Nat)(ctx:SV)(e1:e = .ref i)(e2:st.objs[i]?=some (.exc C d ctx true))
theorem AH{e:SV}{st st':St}{r:Except SV Unit}(h:mTb e st=some (r,st')):r = .ok ()∧st'=st∧Tb st e:=by
 obtain⟨i,C,d,ctx,tb,e1,e2,h⟩:=rJ h
 obtain⟨ht,h⟩:=cY h
 subst ht
 cases h;exact⟨rfl,rfl,i,C,d,ctx,e1,e2⟩
theorem QM{e:SV}:NoE (mTb e):=fun s x s' h=>nomatch (AH h).1
theorem KA{α:Type}{e:SV}{f:Unit→M α}{st st':St}{r:Except SV α}(h:bnd (mTb e) f st=some (r,st')):Tb st e∧f () st=some (r,st'):=by
 obtain⟨u,s1,h1,h2⟩:=fJ QM h
 obtain⟨_,rfl,T⟩:=AH h1
 exact⟨T,h2⟩
theorem Tb.noted{e:SV}{s1 s2:St}(h:eN e s1=some (.ok (),s2)):Tb s2 e:=by
 obtain⟨i,C,d,ctx,tb,rfl,ho,_,rfl⟩:=iJ h
 exact⟨i,C,d,ctx,rfl,List.getElem?_set_self (List.getElem?_eq_some_iff.mp ho).1⟩
theorem Tb.note{e:SV}{st:St}(T:Tb st e):eN e st=some (.ok (),st):=by
 obtain⟨i,C,d,ctx,rfl,ho⟩:=T
 show bnd (bP i) _ _=_
 unfold bnd bP
 rw[ho]
 show some (Except.ok (),{ st with objs:=st.objs.set i (.exc C d ctx true) })=_
 obtain⟨li,ei⟩:=List.getElem?_eq_some_iff.mp ho
 rw[show st.objs.set i (SO.exc C d ctx true)=st.objs from by rw[←ei];exact List.set_getElem_self li]
theorem Tb.exc{e:SV}{st:St}(T:Tb st e):MZ e st=some (.ok (),st):=by
 obtain⟨i,C,d,ctx,rfl,ho⟩:=T
 show bnd (bP i) _ _=_
 unfold bnd bP
 rw[ho];rfl
inductive CI{α:Type}(m:M α)(st:St)(r':Except SV α)(st':St):Prop
 |ok(a:α)(h1:r' = .ok a)(h2:m st=some (.ok a,st'))
 |err(e:SV)(h1:r' = .error e)(h2:m st=some (.error e,st'))(h3:Tb st' e)
theorem CR{α:Type}{m:M α}{st st':St}{r':Except SV α}(h:nO m st=some (r',st')):CI m st r' st':=by
 rcases cV h with⟨e,s1,q,h⟩|⟨a,s1,q,h⟩
 ·obtain⟨T,h⟩:=KA h
  cases h;exact .err e rfl q T
 ·cases h;exact .ok a rfl q
section
variable{G:Gl}{P:Pg}{r:Rec}{c:Ac}{gs:List Nat}{ρ ρ':Tr}{st st':St}{s:Shared}
theorem PA(N:Now G c ρ st s.heap){e:SV}{x:Value}(hx:VR ρ e x)(T:Tb st e){Q:Value→Shared→Prop}{E:Value→Shared→Prop}(h:∀t,t≠.none→Q t s):WP G c (field x 1) Q E s:=by
 obtain⟨i,C,d,ctx,rfl,ho⟩:=T
 obtain⟨a,ha,rfl⟩:=hx
 obtain⟨o,vs,cx,t,e1,e2,e3,e4,e5,e6,e7,e8,e9,e10⟩:=N.oat ha ho
 exact wpAny_field e1 e3 e8 (h t (e10 rfl))
theorem iH(H:GOK G)(N:Now G c ρ st s.heap){e:SV}{x:Value}(hx:VR ρ e x)(T:Tb st e){fr:Option Addr}(hv:fK G st){Q:Unit→Shared→Prop}{E:Value→Shared→Prop}
  (post:oP G c ρ s st (Q ())):WP G c (setFlight x fr) Q E s :=
 SA.setFlight H N hx (fr:=fr) _ _ T.exc hv _ _ fun ρ' s' S' N' _ _=>post ρ' s' S' N'
theorem zQ(H:GOK G)(N:Now G c ρ st s.heap){e:SV}{x:Value}(hx:VR ρ e x)(T:Tb st e)(hv:fK G st){E:Value→Shared→Prop}
  (post:oP G c ρ s st (E x)):cameBackBy (model G.prog G.w) c.A c.env E x s:=by
 unfold cameBackBy
 refine wpAny_bind (PA N hx T fun t ht=>?_)
 rw[if_neg (by simpa using ht)]
 exact iH H N hx T hv post
theorem zN{α:Type}(H:GOK G)(N:Now G c ρ st s.heap){e:SV}{x:Value}(hx:VR ρ e x)(T:Tb st e)(hv:fK G st){w:String}{Q:α→Shared→Prop}{E:Value→Shared→Prop}
  (post:oP G c ρ s st (E x)):WP G c (PySem.passOn w x c.env:Sem α) Q E s:=by
 unfold PySem.passOn
 refine wpAny_bind (PA N hx T fun t ht=>?_)
 rw[if_neg (by simpa using ht)]
 exact wpAny_bind (iH H N hx T hv fun ρ' s' S' N'=>wpAny_throw (post ρ' s' S' N'))
theorem iG(H:GOK G)(EO:bG c)(N:Now G c ρ st s.heap){e:SV}{x:Value}(hx:VR ρ e x)(hm:eN e st=some (.ok (),st'))(hv:fK G st'){Q:Unit→Shared→Prop}{E:Value→Shared→Prop}
  (post:oP G c ρ s st' (Q ())):WP G c (noteFrame x c.env) Q E s :=
 SA.noteFrame H EO N hx _ _ hm hv _ _ fun ρ' s' S' N' _ _=>post ρ' s' S' N'
theorem mY{α β:Type}{R:Tr→α→β→Prop}{t:Sem β}{m:M α}(H:GOK G)(EO:bG c)(T:SA G c R t m ρ st s):SA G c R (t.onRaise fun x=>do noteFrame x c.env;theTreesLotGoes x) (eK m) ρ st s:=by
 intro r' st' hm hq Q E post
 refine wpAny_noted ?_
 rcases eJ hm with⟨a,rfl,q⟩|⟨e,s1,rfl,q,hn⟩
 ·exact T _ _ q hq _ _ fun ρ' s' S' N'=>post ρ' s' S' N'
 ·have hqs:=(gI hn).1
  refine T _ _ q (fun z hz=>hq z (by rw[hqs];exact hz)) _ _ fun ρ₁ s₁ S₁ N₁ x hx=>?_
  exact iG H EO N₁ hx hn hq fun ρ₂ s₂ S₂ N₂=>post ρ₂ s₂ (S₁.trans S₂) N₂ x (S₂.vr hx)
noncomputable def CA(G:Gl)(c:Ac)(code:Code)(m:M Flo)(ρ:Tr)(st:St)(s:Shared):Prop :=
 ∀r' st',m st=some (r',st')→fK G st'→∀RR:Result→Shared→Prop,
  (∀ρ' s',aF c.env.locals ρ s ρ' s'→Now G c ρ' st' s'.heap→match r' with
   |.ok a=>∀f,cQ ρ' a f→RR (.ok f) s'
   |.error e=>∀x,VR ρ' e x→RR (.error x) s')→codeAny (model G.prog G.w) c.A code RR s
noncomputable abbrev LWhl(G:Gl)(r:Rec):Prop:=∀{c:Ac}{gs:List Nat}{ρ:Tr}{st:St}{s:Shared},bG c→EnvG G c gs→Now G c ρ st s.heap→∀t b p,wE c.vars.length gs t=true→wSS c.vars.length gs b=true →
  CA G c (.whileLoop (dE G c.vars t) (dSS G c.vars b) [] c.env) (r.whl c.hd t b p) ρ st s
noncomputable abbrev LFors(G:Gl)(r:Rec):Prop:=∀{c:Ac}{gs:List Nat}{ρ:Tr}{st:St}{s:Shared},bG c→EnvG G c gs→Now G c ρ st s.heap→∀t i v b,VR ρ i v→wT c.vars.length gs t=true→wSS c.vars.length gs b=true →
  CA G c (.forLoop (dT G c.vars t) v (dSS G c.vars b) [] c.env) (r.fors c.hd t i b) ρ st s
noncomputable abbrev LComp(G:Gl)(r:Rec):Prop:=∀{c:Ac}{gs:List Nat}{ρ:Tr}{st st':St}{s:Shared},EnvB c→EnvG G c gs→Now G c ρ st s.heap→∀elt t iter sc p i v a acc,VR ρ i v→VR ρ a acc→wE c.vars.length gs elt=true→wT c.vars.length gs t=true →
  r.comp c.hd elt t i a st=some (.ok (),st')→fK G st'→∀RR:Result→Shared→Prop,(∀ρ' s',aF c.env.locals ρ s ρ' s'→Now G c ρ' st' s'.heap→RR (.ok .next) s') →
  codeAny (model G.prog G.w) c.A (.compLoop (.ListComp (dE G c.vars elt) [⟨dT G c.vars t,iter,[],0⟩] sc p) 0 v acc c.env) RR s
structure LOK(G:Gl)(r:Rec):Prop where
 whl:LWhl G r
 fors:LFors G r
 comp:LComp G r
 use:∀{c:Ac}{gs:List Nat}{ρ:Tr}{st:St}{s:Shared},EnvB c→EnvG G c gs→Now G c ρ st s.heap→∀elt t it sc cv cgs p,wE c.vars.length gs it=true→∀(u:Value→Sem Unit)(m:SV→M Unit),(∀a,Grows (m a)) →
  (∀{ρ st s a v},Now G c ρ st s.heap→VR ρ a v→SA G c (fun _ _ _=>True) (u v) (m a) ρ st s) →
  SA G c (fun _ _ _=>True) (evalThenUse (dE G c.vars (.comp elt t it sc cv cgs p)) c.env u) (bnd (r.ev c.hd (.comp elt t it sc cv cgs p)) m) ρ st s
noncomputable def PY(code:Code)(dn:Fin)(ρ:Tr)(o:Option Flo)(fin:Fin):Prop:=match o with
 |none=>fin=dn
 |some .next=>fin = .again code
 |some .cont=>fin = .again code
 |some .brk=>fin = .done .next
 |some (.ret v)=>∃x,fin = .done (.ret x)∧VR ρ v x
noncomputable def BM(G:Gl)(c:Ac)(RR:Result→Shared→Prop)(s:Shared):Fin→Prop
 |.done f=>RR (.ok f) s
 |.again c'=>c'.quiet=true∧codeAny (model G.prog G.w) c.A c' RR s
theorem IY{RR:Result→Shared→Prop}{fin:Fin}(h:BM G c RR s fin):match(motive:=Fin→Prop) fin with | .done f=>RR (.ok f) s | .again c'=>c'.quiet=true∧codeAny (model G.prog G.w) c.A c' RR s:=by
 cases fin<;>exact h
theorem BF{code:Code}{dn:Fin}{D:Sem Fin}{m1:M (Option Flo)}{m2:M Flo}(hq:code.quiet=true)(T:SA G c (PY code dn) D m1 ρ st s)
  (hden:∀RR:Result→Shared→Prop,WP G c D (fun fin s'=>BM G c RR s' fin) (fun e s'=>RR (.error e) s') s→codeAny (model G.prog G.w) c.A code RR s)
  (hdn:∀(RR:Result→Shared→Prop) s',RR (.ok .next) s'→BM G c RR s' dn)
  (g2:Grows m2)(nx:∀ρ₁ st₁ s₁,aF c.env.locals ρ s ρ₁ s₁→Now G c ρ₁ st₁ s₁.heap→CA G c code m2 ρ₁ st₁ s₁):CA G c code (bnd m1 fun o=>dN o m2) ρ st s:=by
 intro r' st' hm hq' RR post
 refine hden RR ?_
 rcases aT hm with⟨e,q,rfl⟩|⟨o,s1,q1,q2⟩
 ·exact T _ _ q hq' _ _ fun ρ' s' S' N'=>post ρ' s' S' N'
 ·have goon:∀ρ₁ s₁,aF c.env.locals ρ s ρ₁ s₁→Now G c ρ₁ s1 s₁.heap→m2 s1=some (r',st')→code.quiet=true∧codeAny (model G.prog G.w) c.A code RR s₁:=fun ρ₁ s₁ S₁ N₁ h =>
   ⟨hq,nx ρ₁ s1 s₁ S₁ N₁ r' st' h hq' RR fun ρ' s' S' N'=>post ρ' s' (S₁.trans S') N'⟩
  have hq1:fK G s1:=by
   have gr:Grows (dN o m2):=by
    unfold dN;split
    ·exact Grows.ret
    ·exact g2
    ·exact g2
    ·exact Grows.ret
    ·exact Grows.ret
   obtain⟨l,hl⟩:=gr _ _ _ q2
   exact fun q hz=>hq' q (by rw[hl];exact List.mem_append_right _ hz)
  refine T _ _ q1 hq1 _ _ fun ρ₁ s₁ S₁ N₁ fin hf=>?_
  match o,hf,q2 with
  |none,hf,q2=>cases hf;cases q2;exact hdn _ _ (post ρ₁ s₁ S₁ N₁ .next trivial)
  |some .next,hf,q2=>cases hf;exact goon ρ₁ s₁ S₁ N₁ q2
  |some .cont,hf,q2=>cases hf;exact goon ρ₁ s₁ S₁ N₁ q2
  |some .brk,hf,q2=>cases hf;cases q2;exact post ρ₁ s₁ S₁ N₁ .next trivial
  |some (.ret v),hf,q2=>obtain⟨x,rfl,hx⟩:=hf;cases q2;exact post ρ₁ s₁ S₁ N₁ (.ret x) hx
set_option tactic.hygienic true in
theorem VU(H:iV G)(S:SRec G P r)(X:ExOK G r)(L:LOK G r)(EO:bG c)(EG:EnvG G c gs)(N:Now G c ρ st s.heap)(t:IE)(b:ISs)(p:Pos)(h1:wE c.vars.length gs t=true)(h2:wSS c.vars.length gs b=true) :
  CA G c (.whileLoop (dE G c.vars t) (dSS G c.vars b) [] c.env) (sW r c.hd t b p) ρ st s:=by
 have plain:CA G c (.whileLoop (dE G c.vars t) (dSS G c.vars b) [] c.env) (bnd (nH r c.hd t b) fun o=>dN o (r.whl c.hd t b p)) ρ st s:=by
  refine BF (dn:=.done .next) (D:=(whileTurn (dE G c.vars t) (dSS G c.vars b) [] c.env).onRaise fun x=>do noteFrame x c.env;theTreesLotGoes x) rfl (mY H.toGOK EO ?_) (fun RR h=>codeAny_of_tree (wpAny_mono h (fun _ _ q=>IY q) fun _ _ q=>q)) (fun _ _ h=>h) (S.gwhl _ _ _ _) (fun ρ₁ st₁ s₁ _ N₁=>L.whl EO EG N₁ t b p h1 h2)
  unfold whileTurn
  refine SA.bind (fun c=>?_) (S.tst EO.toEnvB EG N t h1) fun ρ₁ st₁ s₁ a a' S₁ N₁ _ ha=>?_
  ·cases c
   ·exact Grows.ret
   ·exact Grows.bnd (S.gex _ _) fun _=>Grows.ret
  have ha:a'=a:=ha
  subst ha
  cases a' with
  |false =>
   show SA G c _ (do return Fin.done (←execs [] c.env)) (aG none) ρ₁ st₁ s₁
   exact SA.look (x:=Flow.next) (fun Q E q=>wpAny_pure q) (SA.pure N₁ rfl)
  |true =>
   simp only[if_true]
   refine SA.bind (fun _=>Grows.ret) (X EO EG N₁ b h2) fun ρ₂ st₂ s₂ f f' S₂ N₂ _ hf=>?_
   cases f<;>cases f'<;>first|exact hf.elim|exact SA.pure N₂ rfl|exact SA.pure N₂ ⟨_,rfl,hf⟩
 intro r' st' hm hq RR post
 unfold sW at hm
 split at hm
 ·rename_i out ob lo lp rest ho
  cases z:Nat.beq lp p.line with
  |false=>rw[z]at hm;exact plain r' st' hm hq RR post
  |true =>
   rw[z]at hm
   cases hm
   have V:=H.vloop _ _ _ _ _ _ _ _ _ (hq _ (.head _))
   refine V c gs ρ st s EO EG h1 h2 rfl rfl rfl rfl N RR fun ρ' s' S' N'=>?_
   exact post ρ' s' S' (N'.like rfl rfl rfl)
 ·exact plain r' st' hm hq RR post
end
end
section
open PySem.Calls
section
variable{G:Gl}{P:Pg}{r:Rec}{c:Ac}{gs:List Nat}{ρ ρ':Tr}{st st':St}{s:Shared}
theorem KB{α:Type}{v:SV}{f:SO→M α}{x:Except SV α}(h:bnd (cD v) f st=some (x,st')):∃o,f o st=some (x,st'):=by
 cases v with
 |ref i=>obtain⟨o,_,h⟩:=dW h;exact⟨o,h⟩
 |fz o=>exact⟨o,h⟩
 |_=>exact nos h
theorem AA{hd:Option Nat}{i:Nat}{v:SV}{C:Prop}(h:AI hd i st=some (.ok (some v),st')):C:=nomatch (mK h).2
theorem uD{hd:Option Nat}{i:SV}{v:SV}(h:lP hd i st=some (.ok (some v),st')):∃j,i = .ref j∧((∃l k,st'.objs[j]?=some (.lit l k))∨∃vs,st'.objs[j]?=some (.iter .rangeIt vs)):=by
 cases i with
 |ref j =>
  obtain⟨o,ho,h⟩:=dW h
  have hj:=(List.getElem?_eq_some_iff.mp ho).1
  refine⟨j,rfl,?_⟩
  cases o with
  |lit l k =>
   obtain⟨o',h⟩:=KB h
   cases o' with
   |list xs =>
    have h:rV hd j l k xs[k]? st=_:=h
    cases hy:xs[k]? with
    |some x=>rw[hy]at h;cases h;exact .inl ⟨l,k+1,List.getElem?_set_self hj⟩
    |none=>rw[hy]at h;exact AA h
   |_=>exact nos h
  |iter c l =>
   obtain⟨p,_,h⟩:=BG h
   cases q:decide (0<p.2)with
   |true=>rw[q]at h;cases h;exact .inr ⟨_,List.getElem?_set_self hj⟩
   |false=>rw[q]at h;exact AA h
  |_=>exact nos h
 |_=>exact nos h
theorem tT{M:Model}{A:Around}{E:Value→Shared→Prop}{target:Expr}{p:Addr}{v:Value}{o:Obj}{n:String}{Q:Unit→Shared→Prop}(ho:s.heap.get? p=some o)(hc:o.cls = .type n)(hn:n = "list_iterator"∨n = "range_iterator")(h:Q () s) :
  wpAny M A (letOwnedTupleGo target (.ref p) v) Q E s:=by
 have key:∀{a:Addr},wpAny M A (do
   let o ←load p
   match o.cls,o.data with
   |.type n,.fields vs =>
    if["enumerate","zip","dict_itemiterator","dict_reverseitemiterator","odict_iterator","itertools.zip_longest","itertools.pairwise"].contains n&&vs[0]?==some (rawInt a)then
     rule "for.unpacks-the-owned-tuple"
     updateField p 0 .none
   |_,_=>Pure.pure ():Sem Unit) Q E s:=by
  intro a
  refine wpAny_bind (wpAny_load ho ?_)
  obtain⟨cl,d,dt,sl⟩:=o
  simp only at hc;subst hc
  cases dt with
  |fields vs =>
   have:["enumerate","zip","dict_itemiterator","dict_reverseitemiterator","odict_iterator","itertools.zip_longest","itertools.pairwise"].contains n=false:=by
    rcases hn with rfl|rfl<;>decide
   simp only[this,Bool.false_and,Bool.false_eq_true,if_false]
   exact wpAny_pure h
  |_=>exact wpAny_pure h
 unfold letOwnedTupleGo
 cases target with
 |Tuple es k pp =>
  cases v with
  |ref a=>exact key
  |_=>exact wpAny_pure h
 |List es pp =>
  cases v with
  |ref a=>exact key
  |_=>exact wpAny_pure h
 |_=>exact wpAny_pure h
theorem SA.owned{α β:Type}{R:Tr→α→β→Prop}(N:Now G c ρ st s.heap){i:SV}{it:Value}(hi:VR ρ i it)(hj:∃j,i = .ref j∧((∃l k,st.objs[j]?=some (.lit l k))∨∃vs,st.objs[j]?=some (.iter .rangeIt vs)))
  {target:Expr}{v:Value}{f:Unit→Sem β}{m:M α}(h:SA G c R (f ()) m ρ st s):SA G c R (letOwnedTupleGo target it v>>=f) m ρ st s:=by
 obtain⟨j,rfl,hj⟩:=hj
 obtain⟨p,hp,rfl⟩:=hi
 rcases hj with⟨l,k,ho⟩|⟨vs,ho⟩
 ·obtain⟨o,q,e1,e2,_⟩:=N.oat hp ho
  exact SA.pre_unit (fun Q E q=>tT e1 e2 (.inl rfl) q) h
 ·obtain⟨us,e1,_⟩:=N.oat hp ho
  exact SA.pre_unit (fun Q E q=>tT e1 rfl (.inr rfl) q) h
theorem SA.standRaise{α β:Type}{R:Tr→α→β→Prop}{t:Sem β}{m:M α}{p:Pos}(h:SA G c R t m ρ st s):SA G c R (t.onRaise fun _=>PySem.standAt p) m ρ st s :=
 fun r' st' hm hq Q E post=>wpAny_onRaise (h r' st' hm hq _ _ fun ρ' s' S' N'=>by
  have q:=post ρ' s' S' N'
  cases r' with
  |ok a=>exact q
  |error e=>exact fun x hx=>wpAny_standAt (q x hx))
theorem hY(S:SRec G P r){hd:Option Nat}{t:IT}{b:ISs}(o:Option SV):Grows (match o with
 |none=>aG none
 |some v=>bnd (sA G r hd v t) fun _=>bnd (r.ex hd b) fun f=>aG (some f)):=by
 cases o with
 |none=>exact Grows.ret
 |some v=>exact Grows.bnd (fW S.gev) fun _=>Grows.bnd (S.gex _ _) fun _=>Grows.ret
theorem VX(H:iV G)(S:SRec G P r)(X:ExOK G r)(L:LOK G r)(EO:bG c)(EG:EnvG G c gs)(N:Now G c ρ st s.heap)(t:IT)(i:SV)(it:Value)(b:ISs)(hi:VR ρ i it)(h1:wT c.vars.length gs t=true)(h2:wSS c.vars.length gs b=true) :
  CA G c (.forLoop (dT G c.vars t) it (dSS G c.vars b) [] c.env) (sF G r c.hd t i b) ρ st s:=by
 unfold sF
 refine BF (dn:=.again (.block [] c.env)) (D:=(forTurn (dT G c.vars t) it (dSS G c.vars b) [] c.env).onRaise fun x=>do noteFrame x c.env;theTreesLotGoes x) rfl (mY H.toGOK EO ?_)
  (fun RR h=>codeAny_of_tree (wpAny_mono h (fun _ _ q=>IY q) fun _ _ q=>q)) (fun RR s' h=>⟨rfl,codeAny_block (show wpAny _ _ (execs [] c.env) _ _ _ from wpAny_pure h)⟩) (S.gfors _ _ _ _)
  (fun ρ₁ st₁ s₁ S₁ N₁=>L.fors EO EG N₁ t i it b (S₁.vr hi) h1 h2)
 unfold forTurn
 ·refine SA.standAt ?_
  refine SA.bind (hY S) (SA.standRaise (SA.next H.toGOK N rfl hi)) fun ρ₁ st₁ s₁ o o' S₁ N₁ hm₁ ho=>?_
  cases o with
  |none =>
   cases o' with
   |none=>exact SA.pure N₁ rfl
   |some v=>exact ho.elim
  |some v =>
   cases o' with
   |none=>exact ho.elim
   |some y =>
    refine SA.owned N₁ (S₁.vr hi) (uD hm₁) ?_
    refine SA.bind (fun _=>Grows.bnd (S.gex _ _) fun _=>Grows.ret) (iI S H.toGOK2 EO.toEnvB EG N₁ t h1 ho) fun ρ₂ st₂ s₂ _ _ S₂ N₂ _ _=>?_
    refine SA.bind (fun _=>Grows.ret) (X EO EG N₂ b h2) fun ρ₃ st₃ s₃ f f' S₃ N₃ _ hf=>?_
    cases f<;>cases f'<;>first|exact hf.elim|exact SA.pure N₃ rfl|exact SA.pure N₃ ⟨_,rfl,hf⟩
end
end
section
open PySem.Calls
section
variable{G:Gl}{P:Pg}{r:Rec}{c:Ac}{gs:List Nat}{ρ ρ':Tr}{st st':St}{s s':Shared}
theorem CV(S:SRec G P r){hd:Option Nat}{elt:IE}{t:IT}{i a:SV}:Grows (sCt G r hd elt t i a):=by
 unfold sCt
 refine Grows.bnd oA fun o=>?_
 cases o with
 |none=>exact Grows.ret
 |some v=>exact Grows.bnd (fW S.gev) fun _=>Grows.bnd (S.gev _ _) fun _=>Grows.bnd cF fun _=>Grows.ret
theorem IF(S:SRec G P r){hd:Option Nat}{elt:IE}{t:IT}{i a:SV}:Grows (sC G r hd elt t i a):=by
 unfold sC
 refine Grows.bnd (CV S) fun b=>?_
 cases b
 ·exact Grows.ret
 ·exact S.gcomp _ _ _ _ _
theorem RE(H:iV G)(S:SRec G P r)(EB:EnvB c)(EG:EnvG G c gs)(N:Now G c ρ st s.heap)(elt:IE)(t:IT)(iter:Expr)(sc:Scope)(p:Pos)(i:SV)(v:Value)(a:SV)(acc:Value)(hi:VR ρ i v)(ha:VR ρ a acc)
  (h1:wE c.vars.length gs elt=true)(h2:wT c.vars.length gs t=true) :
  SA G c (fun _ b fin=>fin=bif b then .again (.compLoop (.ListComp (dE G c.vars elt) [⟨dT G c.vars t,iter,[],0⟩] sc p) 0 v acc c.env)else .done .next)
   (compTurn (.ListComp (dE G c.vars elt) [⟨dT G c.vars t,iter,[],0⟩] sc p) 0 v acc c.env) (sCt G r c.hd elt t i a) ρ st s:=by
 rw[compTurn_list1]
 refine SA.standAt ?_
 refine SA.bind (fun o=>?_) (SA.next H.toGOK N rfl hi) fun ρ₁ st₁ s₁ o o' S₁ N₁ hm₁ ho=>?_
 ·cases o with
  |none=>exact Grows.ret
  |some v=>exact Grows.bnd (fW S.gev) fun _=>Grows.bnd (S.gev _ _) fun _=>Grows.bnd cF fun _=>Grows.ret
 cases o with
 |none =>
  cases o' with
  |none=>exact SA.pure N₁ rfl
  |some v=>exact ho.elim
 |some w =>
  cases o' with
  |none=>exact ho.elim
  |some y =>
   refine SA.owned N₁ (S₁.vr hi) (uD hm₁) ?_
   refine SA.bind (fun _=>Grows.bnd (S.gev _ _) fun _=>Grows.bnd cF fun _=>Grows.ret) (iI S H.toGOK2 EB EG N₁ t h2 ho) fun ρ₂ st₂ s₂ _ _ S₂ N₂ _ _=>?_
   have e:∀f:Unit→Sem Fin,((eval (dE G c.vars elt) c.env>>=fun x=>call (.builtin "list.append") [acc,x]>>=fun _=>Pure.pure ())>>=f)=(eval (dE G c.vars elt) c.env>>=fun x=>call (.builtin "list.append") [acc,x]>>=fun _=>f ()):=fun f=>by
    simp only[bind_assoc,pure_bind]
   rw[e]
   refine SA.bind (fun _=>Grows.bnd cF fun _=>Grows.ret) (S.ev EB EG N₂ elt h1) fun ρ₃ st₃ s₃ x x' S₃ N₃ _ hx=>?_
   refine SA.bind (fun _=>Grows.ret) (SA.appendF H.toGOK N₃ (S₃.vr (S₂.vr (S₁.vr ha))) hx) fun ρ₄ st₄ s₄ _ _ S₄ N₄ _ _=>?_
   exact SA.pure N₄ rfl
theorem VZ(H:iV G)(S:SRec G P r)(L:LOK G r)(EB:EnvB c)(EG:EnvG G c gs)(N:Now G c ρ st s.heap)(elt:IE)(t:IT)(iter:Expr)(sc:Scope)(p:Pos)(i:SV)(v:Value)(a:SV)(acc:Value)(hi:VR ρ i v)(ha:VR ρ a acc)
  (h1:wE c.vars.length gs elt=true)(h2:wT c.vars.length gs t=true)(hm:sC G r c.hd elt t i a st=some (.ok (),st'))(hq:fK G st')(RR:Result→Shared→Prop)
  (post:oP G c ρ s st' (RR (.ok .next))) :
  codeAny (model G.prog G.w) c.A (.compLoop (.ListComp (dE G c.vars elt) [⟨dT G c.vars t,iter,[],0⟩] sc p) 0 v acc c.env) RR s:=by
 unfold sC at hm
 rcases aT hm with⟨e,_,q⟩|⟨b,s1,q1,q2⟩
 ·cases q
 refine codeAny_of_tree ?_
 show wpAny _ c.A ((compTurn (.ListComp (dE G c.vars elt) [⟨dT G c.vars t,iter,[],0⟩] sc p) 0 v acc c.env).onRaise (fun x=>do noteFrame x c.env;theTreesLotGoes x)) _ _ s
 have hq1:fK G s1:=by
  have gr:Grows (bif b then r.comp c.hd elt t i a else aG ()):=by
   cases b
   ·exact Grows.ret
   ·exact S.gcomp _ _ _ _ _
  obtain⟨l,hl⟩:=gr _ _ _ q2
  exact fun q hz=>hq q (by rw[hl];exact List.mem_append_right _ hz)
 refine wpAny_onRaise (RE H S EB EG N elt t iter sc p i v a acc hi ha h1 h2 _ _ q1 hq1 _ _ fun ρ₁ s₁ S₁ N₁ fin hf=>?_)
 cases b with
 |false=>cases hf;cases q2;exact post ρ₁ s₁ S₁ N₁
 |true =>
  cases hf
  exact⟨rfl,L.comp EB EG N₁ elt t iter sc p i v a acc (S₁.vr hi) (S₁.vr ha) h1 h2 q2 hq RR fun ρ' s' S' N'=>post ρ' s' (S₁.trans S') N'⟩
theorem aF.beyond{L:Addr}(S:aF L ρ s ρ' s'){b:Addr}(hb:s.heap.get? b=none){h':Heap}(hsb:Heap.SameBut b s'.heap h'):aF L ρ s ρ' { s' with heap:=h' }:=by
 have ne:∀x o,s.heap.get? x=some o→x≠b:=fun x o e q=>by subst q;rw[hb]at e;cases e
 refine⟨S.pre,S.zin,S.zout,fun x o e hx=>?_,fun x o e=>?_,S.gens,S.os⟩
 ·obtain⟨o',e',q⟩:=S.same x o e hx;exact⟨o',(hsb.2 x (ne x o e)).trans e',q⟩
 ·obtain⟨o',e',q⟩:=S.dom x o e;exact⟨o',(hsb.2 x (ne x o e)).trans e',q⟩
theorem Now.beyond(N:Now G c ρ st s.heap)(H:GOK G){b:Addr}(h1:b∉ρ.a)(h2:∀o,(b,o)∉ρ.z)(h3:offK G b)(h4:∀o,s.heap.get? b=some o→o.cls≠.type "traceback")(h5:c.env.locals≠b)
  (h6:∀e∈c.fl,e.frame≠some b){h':Heap}(hsb:Heap.SameBut b s.heap h'):Now G c ρ st h':=by
 refine⟨N.frames,N.depth,N.units,N.hd,N.rep.outer H (X:=fun x=>x=b) (fun x o q hb=>⟨o,(hsb.2 x hb).trans q,Eqv.refl o⟩) (fun x hx=>by subst hx;exact⟨h1,h2,h3,h4⟩),N.fr.keep Tr.Le.refl fun o e=>⟨o,(hsb.2 _ h5).trans e,rfl,rfl⟩,fun e he=>?_,N.lo⟩
 obtain⟨k,L,o,es,ep,q1,q2,q3,q4⟩:=N.frs e he
 have:L≠b:=fun q=>h6 e he (by rw[q1,q])
 exact⟨k,L,o,es,ep,q1,(hsb.2 _ this).trans q2,q3,q4⟩
end
section
variable{M:Model}{A:Around}{E:Value→Shared→Prop}{s:Shared}{env:Env}
noncomputable def UA(scope:Scope)(L:Addr)(env:Env):Env:={ scope,locals:=L,globals:=env.globals,cells:=[],qual:=env.qual,func:=none,code:=env.code,frame:=env.frame,builtins:=env.builtins }
theorem uE{scope:Scope}{Q:Env→Shared→Prop}(hc:∀x∈scope.names,x.2≠.cell)(h:Q (UA scope s.heap.objs.size env) { s with heap:=s.heap.push { cls:=.type "dict",data:=.dict #[] } }) :
  wpAny M A (newFunctionEnv scope env.globals [] [] env.qual none .none (some env)) Q E s:=by
 simp only[newFunctionEnv,Option.isSome_some,if_true]
 refine wpAny_bind (wpAny_alloc ?_)
 rw[forIn_yield_id ([]:List (Str×Addr)) (fun x hx c=>by
  obtain⟨name,kind⟩:=x
  have:(kind==NameKind.cell)=false:=by simpa using hc _ hx
  simp only[this,Bool.false_eq_true,if_false])]
 refine wpAny_bind (wpAny_pure ?_)
 rw[List.forIn_nil]
 exact wpAny_bind (wpAny_pure (wpAny_pure h))
theorem JS{e:Expr}{scope:Scope}{pos:Pos}{newAcc first:Sem Value}{g:Comprehension}{gs:List Comprehension}{Q:Value→Shared→Prop}{u:Value→Sem Unit}
  (hcl:clausesOf e=g::gs)(hs:∀x,foldedSetIterable g.iter env x=Pure.pure x)
  (hfree:∀x∈scope.names,x.2≠.free)(hkind:scope.kind = .function)(hnames:∀x∈scope.names,x.2 = .local→scope.names.lookup x.1=some .local)
  (h:wpAny M A first (fun x s₁=>wpAny M A (pyIter x) (fun it s₂=>wpAny M A newAcc (fun acc s₃ =>
   wpAny M A (newFunctionEnv scope env.globals [] [] env.qual none .none (some env)) (fun cenv s₄ =>
    codeAny M A (.compStart e 0 it acc { cenv with scope:=scope }) (fun r s'=>match r with
     |.ok _=>wpAny M A (u acc) (fun _ s''=>∃m,s''.heap.Ns cenv.locals m∧∀h',Heap.SameBut cenv.locals s''.heap h'→Q .none { s'' with heap:=h' }) E s'
     |.error x=>False) s₄) E s₃) E s₂) E s₁) E s) :
  wpAny M A (comprehension e scope env pos newAcc false first (some u)) Q E s:=by
 unfold comprehension
 rw[closureFor_none hfree,hcl]
 refine wpAny_bind (wpAny_mono h (fun x s₁ h₁=>wpAny_bind (wpAny_standAt (wpAny_bind (wpAny_of_eq (hs x) (wpAny_bind (wpAny_holding (wpAny_mono h₁ (fun it s₂ h₂ =>
  wpAny_standIf (wpAny_bind (wpAny_mono h₂ (fun acc s₃ h₃=>wpAny_bind (wpAny_pure (wpAny_bind (wpAny_mono h₃ (fun cenv s₄ h₄=>?_) fun _ _ h'=>h')))) fun _ _ h'=>h')))
   fun _ _ h'=>h'))))))) fun _ _ h'=>h')
 dsimp only
 rw[map_eq_self (l:=scope.names) (fun x hx=>by
  obtain⟨n,k⟩:=x
  have:(k==NameKind.free)=false:=by simpa using hfree _ hx
  simp[this])]
 refine wpAny_holding (wpAny_bind (wpAny_attempt (wpAny_holding (wpAny_run (codeAny_mono h₄ fun r s' hr=>?_)))))
 have hv:∀(l:List (Str×NameKind)),(∀x∈l,x∈(scope.names.filter fun x=>(x.2==.local||x.2==.cell)&&x.1 != (".0" : Str)).reverse)→∀x∈l,x.2 = .local→Env.kindOf { cenv with scope:=scope } x.1=some .local :=
  fun l hl x hx hk=>hnames x (List.mem_filter.mp (List.mem_reverse.mp (hl x hx))).1 hk
 cases r with
 |ok f =>
  refine wpAny_bind (wpAny_rule (wpAny_bind (wpAny_holding (wpAny_mono hr (fun _ s'' hr2=>?_) fun _ _ z=>z))))
  obtain⟨m,hn,hr2⟩:=hr2
  refine wpAny_bind (wpAny_comp_letGo (cenv:={ cenv with scope:=scope }) hkind _ s'' m (hv _ fun x hx=>?_) hn fun h' m' _ hs'=>wpAny_pure (hr2 h' hs'))
  rcases List.mem_append.mp hx with hx|hx
  ·exact List.mem_of_mem_drop hx
  ·exact List.mem_of_mem_take hx
 |error x=>exact hr.elim
end
end
section
open PySem.Calls
structure tB(G:Gl)(sc:Scope)(cv:List Str)(cgs:List Nat)(elt:IE)(t:IT):Prop where
 kind:sc.kind = .function
 free:∀x∈sc.names,x.2≠.free
 cell:∀x∈sc.names,x.2≠.cell
 loc:∀x∈sc.names,x.2 = .local→sc.names.lookup x.1=some .local
 own:∀x∈cv,sc.names.lookup x=some .local∧(x==("__debug__" : Str))=false
 nd:cv.Nodup
 glob:∀i∈cgs,sc.names.lookup (glAt G i)=some .globalImplicit
 elt:wE cv.length cgs elt=true
 t:wT cv.length cgs t=true
theorem yR{G:Gl}{sc:Scope}{cv:List Str}{cgs:List Nat}{elt:IE}{t:IT}(h:sZ G sc cv cgs elt t=true):tB G sc cv cgs elt t:=by
 unfold sZ at h
 obtain⟨h,h7⟩:=aN h
 obtain⟨h,h6⟩:=aN h
 obtain⟨h,h5⟩:=aN h
 obtain⟨h,h4⟩:=aN h
 obtain⟨h,h3⟩:=aN h
 obtain⟨h1,h2⟩:=aN h
 have h2':∀x∈sc.names,(x.2≠.free∧x.2≠.cell)∧(x.2≠.local∨sc.names.lookup x.1=some .local):=fun x hx=>by
  have:=List.all_eq_true.mp h2 x hx
  obtain⟨a,b⟩:=aN this
  obtain⟨a1,a2⟩:=aN a
  refine⟨⟨by simpa using a1,by simpa using a2⟩,?_⟩
  rcases Bool.or_eq_true_iff.mp b with b|b
  ·exact .inl (by simpa using b)
  ·exact .inr (by simpa using b)
 refine⟨by simpa using h1,fun x hx=>(h2' x hx).1.1,fun x hx=>(h2' x hx).1.2,fun x hx hl=>?_,fun x hx=>?_,of_decide_eq_true h4,fun i hi=>by simpa using List.all_eq_true.mp h5 i hi,h6,h7⟩
 ·rcases(h2' x hx).2 with q|q
  ·exact absurd hl q
  ·exact q
 ·obtain⟨a,b⟩:=aN (List.all_eq_true.mp h3 x hx)
  exact⟨by simpa using a,by simpa using b⟩
section
variable{G:Gl}{P:Pg}{r:Rec}{c:Ac}{gs:List Nat}{ρ ρ':Tr}{st st':St}{s s':Shared}
theorem GR {α:Type}{i:SV}{f:Unit→M α}{x:Except SV α}(h:bnd (MW i) f st=some (x,st')):(∃ j l k,i = .ref j∧st.objs[j]?=some (.lit l k))∧f () st=some (x,st'):=by
 have key:∀ {y s1},MW i st=some (y,s1)→(∃ j l k,i = .ref j∧st.objs[j]?=some (.lit l k))∧y = .ok ()∧s1=st:=fun {y s1} q=>by
  cases i with
  | ref j =>
   obtain ⟨o,ho,q⟩:=dW q
   obtain ⟨g,q⟩:=cY q
   cases q
   cases o with
   | lit l k=>exact ⟨⟨j,l,k,rfl,ho⟩,rfl,rfl⟩
   | _=>exact Bool.noConfusion g
  | _=>exact nos q
 rcases aT h with ⟨e,q,_⟩|⟨u,s1,q1,q2⟩
 ·exact nomatch (key q).2.1
 ·obtain ⟨h1,_,rfl⟩:=key q1;exact ⟨h1,q2⟩
theorem DV (H:iV G)(S:SRec G P r)(L:LOK G r)(EB:EnvB c)(N:Now G c ρ st s.heap){elt:IE}{t:IT}{iter:Expr}{sc:Scope}{cv:List Str}{cgs:List Nat}{p:Pos}(C:tB G sc cv cgs elt t){i a:SV}{it acc:Value}
  (hi:VR ρ i it)(ha:VR ρ a acc)(hlit:∃ j l k,i = .ref j∧st.objs[j]?=some (.lit l k))(hm:r.comp c.hd elt t i a { st with loc:=List.replicate cv.length none }=some (.ok (),st'))(hq:fK G st'){RR:Addr→Result→Shared→Prop}{E:Value→Shared→Prop}
  (post:∀ ρ' s',aF c.env.locals ρ s ρ' s'→Now G c ρ' { st' with loc:=st.loc,d:=st.d } s'.heap→(∃ m,s'.heap.Ns s.heap.objs.size m)→s.heap.objs.size∉ρ'.a→(∀ o,(s.heap.objs.size,o)∉ρ'.z)→offK G s.heap.objs.size →
   (∀ o,s'.heap.get? s.heap.objs.size=some o→o.cls≠.type "traceback")→RR s.heap.objs.size (.ok .next) s') :
  WP G c (newFunctionEnv sc c.env.globals [] [] c.env.qual none .none (some c.env)) (fun cenv s₄ =>
   codeAny (model G.prog G.w) c.A (.compStart (.ListComp (dE G cv elt) [⟨dT G cv t,iter,[],0⟩] sc p) 0 it acc { cenv with scope:=sc }) (RR cenv.locals) s₄) E s:=by
 refine uE C.cell ?_
 have hnone:s.heap.get? s.heap.objs.size=none:=Heap.get?_none_of_le (Nat.le_refl _)
 have kp:∀ b o,s.heap.get? b=some o→(s.heap.push { cls:=.type "dict",data:=.dict #[] }).get? b=some o:=fun b o e=>Heap.get?_push_of_some _ e
 let s₁:Shared:={ s with heap:=s.heap.push { cls:=.type "dict",data:=.dict #[] } }
 let c':Ac:=⟨c.A,UA sc s.heap.objs.size c.env,c.fl,cv,c.hd⟩
 have EB':EnvB c':=⟨C.kind,fun x hx=>C.own x hx,C.nd,EB.glob,EB.blt⟩
 have EG':EnvG G c' cgs:=fun j hj n v e=>by
  have:=C.glob j hj
  unfold glAt at this
  rw [e] at this
  exact this
 have N1:Now G c' ρ { st with loc:=List.replicate cv.length none } s₁.heap:=by
  refine ⟨N.frames,N.depth,N.units,N.hd,(N.eqv H.toGOK (kH (h:=s.heap))).rep,⟨_,fun _=>none,Heap.get?_push_size _ rfl,by simp,⟨_,#[],0,Heap.get?_push_size _ rfl,rfl,fun e he=>by simp at he,fun n=>rfl⟩,fun j x _=>?_⟩,
   N.frs.keep fun b o q=>⟨o,kp b o q,Kept.refl o⟩,fun hm=>?_,fun o hz=>?_,?_⟩
  ·have:∀ j:Nat,(List.replicate cv.length (none:Option SV))[j]?=none∨(List.replicate cv.length (none:Option SV))[j]?=some none:=fun j=>by
    rw [List.getElem?_replicate];split<;>simp
   rcases this j with q|q<;>(simp only [q])
  ·obtain ⟨o,e,_⟩:=N.rep.nofr _ hm;rw [show c'.env.locals=s.heap.objs.size from rfl,hnone] at e;cases e
  ·obtain ⟨_,_,⟨ob,e,_⟩,_⟩:=N.rep.fz _ _ hz;rw [show c'.env.locals=s.heap.objs.size from rfl,hnone] at e;cases e
  ·exact qH H.toGOK N.rep
 have run:∀ ρ₁ s₂ it',aF c'.env.locals ρ s₁ ρ₁ s₂→Now G c' ρ₁ { st with loc:=List.replicate cv.length none } s₂.heap→VR ρ₁ i it'→codeAny (model G.prog G.w) c.A (.compLoop (.ListComp (dE G cv elt) [⟨dT G cv t,iter,[],0⟩] sc p) 0 it' acc (UA sc s.heap.objs.size c.env)) (RR s.heap.objs.size) s₂:=fun ρ₁ s₂ it' S₁ N₁ hi'=>by
  refine L.comp (c:=c') EB' EG' N₁ elt t iter sc p i it' a acc hi' (S₁.vr ha) C.elt C.t hm hq (RR s.heap.objs.size) fun ρ' s' S' N'=>?_
  have S'':aF s.heap.objs.size ρ s₁ ρ' s':=S₁.trans S'
  refine post ρ' s' (aF.call (s₁:=s₁) hnone kp rfl rfl S'') (N.back (s₁:=s₁) (c':=c') (loc:=[]) (st':={ st' with loc:=st.loc,d:=st.d }) H.toGOK hnone kp rfl rfl S'' N'.rep rfl rfl) ?_ N'.lo.1 N'.lo.2.1 N'.lo.2.2 fun o ho=>?_
  ·obtain ⟨o,mr,e,hc,ns,_⟩:=N'.fr;exact ⟨mr,ns⟩
  ·obtain ⟨o',mr,e,hc,ns,_⟩:=N'.fr
   have e:s'.heap.get? s.heap.objs.size=some o':=e
   rw [ho] at e;cases e;exact hc
 refine codeAny_compStart_list (run ρ s₁ it aF.refl N1 hi) ?_
 obtain ⟨j,l,k,rfl,ho⟩:=hlit
 have hI:hH (.ref j) { st with loc:=List.replicate cv.length none }=some (.ok (.ref j),{ st with loc:=List.replicate cv.length none }):=by
  unfold hH bnd bP
  simp only [ho]
  rfl
 refine SA.iter (c:=c') (s:=s₁) H.toGOK N1 hi _ _ hI (fun q hz=>hq q ?_) _ _ fun ρ' s' S' N' b hb=>run ρ' s' b S' N' hb
 obtain ⟨l',hl⟩:=S.gcomp _ _ _ _ _ _ _ _ hm
 rw [hl];exact List.mem_append_right _ hz
end
end
section
open PySem.Calls
section
variable{G:Gl}{P:Pg}{r:Rec}{c:Ac}{gs:List Nat}{ρ ρ':Tr}{st st':St}{s s':Shared}
structure Own(G:Gl)(c:Ac)(ρ:Tr)(s:Shared)(L:Addr):Prop where
 ns:∃m,s.heap.Ns L m
 a:L∉ρ.a
 z:∀o,(L,o)∉ρ.z
 k:offK G L
 tb:∀o,s.heap.get? L=some o→o.cls≠.type "traceback"
 loc:c.env.locals≠L
 fl:∀e∈c.fl,e.frame≠some L
theorem fB{α:Type}{m:M α}(g:Grows m){s1:St}{x:Except SV α}(h:m s1=some (x,st'))(hq:fK G st'):fK G s1:=by
 obtain⟨l,hl⟩:=g _ _ _ h
 exact fun q hz=>hq q (by rw[hl];exact List.mem_append_right _ hz)
noncomputable def yV(G:Gl)(c:Ac)(elt:IE)(t:IT)(it:IE)(sc:Scope)(cv:List Str)(p:Pos)(E:Value→Shared→Prop)(K:Value→Addr→Shared→Prop)(s:Shared):Prop :=
 WP G c (eval (dE G c.vars it) c.env) (fun x s₁=>WP G c (pyIter x) (fun i s₂=>WP G c (newList []) (fun acc s₃ =>
   WP G c (newFunctionEnv sc c.env.globals [] [] c.env.qual none .none (some c.env)) (fun cenv s₄ =>
    codeAny (model G.prog G.w) c.A (.compStart (.ListComp (dE G cv elt) [⟨dT G cv t,dE G c.vars it,[],0⟩] sc p) 0 i acc { cenv with scope:=sc }) (fun r s'=>∃f,r = .ok f∧K acc cenv.locals s') s₄) E s₃) E s₂) E s₁) E s
theorem AP{hd:Option Nat}{elt:IE}{t:IT}{i acc:SV}{n:Nat}{x:Except SV SV}(h:mCp r hd elt t i acc n st=some (x,st')):∃s5,r.comp hd elt t i acc { st with loc:=List.replicate n none }=some (.ok (),s5)∧some (.ok acc,{ s5 with loc:=st.loc,d:=st.d })=some (x,st'):=by
 have h:XS acc st.loc st.d (r.comp hd elt t i acc { st with loc:=List.replicate n none })=some (x,st'):=h
 cases q:r.comp hd elt t i acc { st with loc:=List.replicate n none }with
 |none=>rw[q]at h;exact nos h
 |some y =>
  obtain⟨y,s5⟩:=y
  rw[q]at h
  cases y with
  |ok u=>exact⟨s5,rfl,h⟩
  |error e=>exact nos h
theorem kB(S:SRec G P r){hd:Option Nat}{elt:IE}{t:IT}{i acc:SV}{n:Nat}:Grows (mCp r hd elt t i acc n):=fun s x s' h=>by
 obtain⟨s5,q,h⟩:=AP h
 cases h
 have g:=S.gcomp _ _ _ _ _ _ _ _ q
 exact g
theorem oK(H:iV G)(S:SRec G P r)(L:LOK G r)(EB:EnvB c)(EG:EnvG G c gs)(N:Now G c ρ st s.heap){elt:IE}{t:IT}{it:IE}{sc:Scope}{cv:List Str}{cgs:List Nat}{p:Pos}(hw:wE c.vars.length gs it=true)
  {r':Except SV SV}(hm:sE G r c.hd (.comp elt t it sc cv cgs p) st=some (r',st'))(hq:fK G st'){E:Value→Shared→Prop}{K:Value→Addr→Shared→Prop}
  (err:∀ρ' s',aF c.env.locals ρ s ρ' s'→Now G c ρ' st' s'.heap→∀e,r' = .error e→∀x,VR ρ' e x→E x s')
  (okk:∀ρ' s',aF c.env.locals ρ s ρ' s'→Now G c ρ' st' s'.heap→∀a,r' = .ok a→∀v,VR ρ' a v→∀L,s.heap.get? L=none→Own G c ρ' s' L→K v L s') :
  tB G sc cv cgs elt t∧yV G c elt t it sc cv p E K s:=by
 have hm:mIf (sZ G sc cv cgs elt t) _ st=some (r',st'):=hm
 obtain⟨hc,hm⟩:=cY hm
 have C:=yR hc
 refine⟨C,?_⟩
 unfold yV
 rcases aT hm with⟨e,q,rfl⟩|⟨x,s1,q1,hm⟩
 ·exact S.ev EB EG N it hw _ _ q hq _ _ fun ρ' s' S' N' y hy=>err ρ' s' S' N' e rfl y hy
 refine S.ev EB EG N it hw _ _ q1 (fB (Grows.bnd gN fun _=>Grows.bnd aJ fun _=>Grows.bnd iL fun _=>kB S) hm hq) _ _ fun ρ₁ s₁ S₁ N₁ xv hx=>?_
 rcases aT hm with⟨e,q,rfl⟩|⟨i,s2,q2,hm⟩
 ·exact SA.iter H.toGOK N₁ hx _ _ q hq _ _ fun ρ' s' S' N' y hy=>err ρ' s' (S₁.trans S') N' e rfl y hy
 refine SA.iter H.toGOK N₁ hx _ _ q2 (fB (Grows.bnd aJ fun _=>Grows.bnd iL fun _=>kB S) hm hq) _ _ fun ρ₂ s₂ S₂ N₂ iv hi=>?_
 rcases aT hm with⟨e,q,rfl⟩|⟨a,s3,q3,hm⟩
 ·cases q
 refine SA.newList H.toGOK N₂ (xs:=[]) (vs:=[]) trivial (by decide) _ _ q3 (fB (Grows.bnd iL fun _=>kB S) hm hq) _ _ fun ρ₃ s₃ S₃ N₃ acc ha=>?_
 obtain⟨hlit,hm⟩:=GR hm
 obtain⟨s5,q5,hm⟩:=AP hm
 cases hm
 have S03:=(S₁.trans S₂).trans S₃
 refine DV H S L EB N₃ C (S₃.vr hi) ha hlit q5 hq (RR:=fun L r s'=>∃f,r = .ok f∧K acc L s') fun ρ' s' S' N' ns h1 h2 h3 h4=>⟨_,rfl,?_⟩
 have hnone:s₃.heap.get? s₃.heap.objs.size=none:=Heap.get?_none_of_le (Nat.le_refl _)
 refine okk ρ' s' (S03.trans S') N' _ rfl _ (S'.vr ha) _ (S03.fresh hnone) ⟨ns,h1,h2,h3,h4,fun q=>?_,fun e he q=>?_⟩
 ·obtain⟨o,_,e,_⟩:=N₃.fr;rw[q,hnone]at e;exact nos e
 ·obtain⟨_,L',o,_,_,e1,e2,_⟩:=N₃.frs e he
  rw[Option.some.inj (e1.symm.trans q),hnone]at e2;exact nos e2
theorem MM(H:iV G)(S:SRec G P r)(L:LOK G r)(EB:EnvB c)(EG:EnvG G c gs)(N:Now G c ρ st s.heap){elt:IE}{t:IT}{it:IE}{sc:Scope}{cv:List Str}{cgs:List Nat}{p:Pos}(hw:wE c.vars.length gs it=true) :
  SA G c VR (eval (dE G c.vars (.comp elt t it sc cv cgs p)) c.env) (sE G r c.hd (.comp elt t it sc cv cgs p)) ρ st s:=by
 intro r' st' hm hq Q E post
 have key:=oK (K:=fun v L s'=>∃m,s'.heap.Ns L m∧∀h',Heap.SameBut L s'.heap h'→Q v { s' with heap:=h' }) H S L EB EG N hw hm hq
  (fun ρ' s' S' N' e he x hx=>by subst he;exact post ρ' s' S' N' x hx)
  (fun ρ' s' S' N' a he v hv L hL O=>by
   subst he
   obtain⟨m,hn⟩:=O.ns
   exact⟨m,hn,fun h' hsb=>post ρ' _ (S'.beyond hL hsb) (N'.beyond H.toGOK O.a O.z O.k O.tb O.loc O.fl hsb) v hv⟩)
 obtain⟨C,key⟩:=key
 have e:dE G c.vars (.comp elt t it sc cv cgs p) = .ListComp (dE G cv elt) [⟨dT G cv t,dE G c.vars it,[],0⟩] sc p:=rfl
 rw[e]
 refine wpAny_ListComp C.free C.kind C.loc (wpAny_mono key (fun x s₁ h₁=>wpAny_mono h₁ (fun i s₂ h₂=>wpAny_mono h₂ (fun acc s₃ h₃=>wpAny_mono h₃ (fun cenv s₄ h₄=>codeAny_mono h₄ fun rr s₅ h₅=>?_) fun _ _ q=>q) fun _ _ q=>q) fun _ _ q=>q) fun _ _ q=>q) ?_
 ·obtain⟨f,rfl,m,hn,hk⟩:=h₅
  exact⟨m,hn,hk⟩
 ·intro x
  cases it<;>rfl
theorem xA(H:iV G)(S:SRec G P r)(L:LOK G r)(EB:EnvB c)(EG:EnvG G c gs)(N:Now G c ρ st s.heap){elt:IE}{t:IT}{it:IE}{sc:Scope}{cv:List Str}{cgs:List Nat}{p:Pos}(hw:wE c.vars.length gs it=true)
  {u:Value→Sem Unit}{m:SV→M Unit}(gm:∀a,Grows (m a))(hu:∀{ρ st s a v},Now G c ρ st s.heap→VR ρ a v→SA G c (fun _ _ _=>True) (u v) (m a) ρ st s) :
  SA G c (fun _ _ _=>True) (evalThenUse (dE G c.vars (.comp elt t it sc cv cgs p)) c.env u) (bnd (sE G r c.hd (.comp elt t it sc cv cgs p)) m) ρ st s:=by
 intro r' st' hm hq Q E post
 have e:dE G c.vars (.comp elt t it sc cv cgs p) = .ListComp (dE G cv elt) [⟨dT G cv t,dE G c.vars it,[],0⟩] sc p:=rfl
 rw[e]
 show wpAny _ _ (do
  let _ ←comprehension (.ListComp (dE G cv elt) [⟨dT G cv t,dE G c.vars it,[],0⟩] sc p) sc c.env _ (newList []) false (eval (dE G c.vars it) c.env) (some u)) Q E s
 refine wpAny_bind ?_
 have fin:tB G sc cv cgs elt t∧yV G c elt t it sc cv p E (fun v L s'=>WP G c (u v) (fun _ s''=>∃m,s''.heap.Ns L m∧∀h',Heap.SameBut L s''.heap h'→WP G c (Pure.pure ():Sem Unit) Q E { s'' with heap:=h' }) E s') s:=by
  rcases aT hm with⟨e,q,rfl⟩|⟨a,s1,q1,q2⟩
  ·exact oK (K:=fun v L s'=>WP G c (u v) (fun _ s''=>∃m,s''.heap.Ns L m∧∀h',Heap.SameBut L s''.heap h'→WP G c (Pure.pure ():Sem Unit) Q E { s'' with heap:=h' }) E s') H S L EB EG N hw q hq
    (fun ρ' s' S' N' e' he x hx=>by cases he;exact post ρ' s' S' N' x hx)
    (fun ρ' s' S' N' a he v hv L hL O=>by cases he)
  ·exact oK (K:=fun v L s'=>WP G c (u v) (fun _ s''=>∃m,s''.heap.Ns L m∧∀h',Heap.SameBut L s''.heap h'→WP G c (Pure.pure ():Sem Unit) Q E { s'' with heap:=h' }) E s') H S L EB EG N hw q1 (fB (gm a) q2 hq)
    (fun ρ' s' S' N' e' he x hx=>by cases he)
    (fun ρ' s' S' N' a' he v hv L hL O=>by
     cases he
     refine hu N' hv _ _ q2 hq _ _ fun ρ'' s'' S'' N''=>?_
     have q:=post ρ'' s'' (S'.trans S'') N''
     cases r' with
     |error e=>exact fun x hx=>q x hx
     |ok b =>
      intro _ _
      obtain⟨mm,oo,es,ep,hg,hd,hk,hf⟩:=O.ns
      obtain⟨o',g',v'⟩:=S''.same _ oo hg (by
       rintro(z|z)
       ·exact O.a z
       ·exact O.loc z.symm)
      have cl:=O.tb oo hg
      have dd:o'.data=oo.data:=v'.data fun z=>cl z.1
      refine⟨mm,⟨o',es,ep,g',dd.trans hd,hk,hf⟩,fun h' hsb=>wpAny_pure (post ρ'' _ ((S'.trans S'').beyond hL hsb) (N''.beyond H.toGOK ?_ ?_ O.k (fun o ho=>?_) O.loc O.fl hsb) () trivial)⟩
      ·intro z
       obtain⟨l,e1,f1⟩:=S''.pre
       rw[e1]at z
       rcases List.mem_append.mp z with z|z
       ·exact O.a z
       ·rw[f1 _ z]at hg;cases hg
      ·intro o z
       rcases S''.zout _ z with z|z|z
       ·exact O.z _ z
       ·exact O.a z
       ·simp only at z;rw[hg]at z;cases z
      ·rw[g']at ho;cases ho;rw[v'.cls];exact cl)
 obtain⟨C,key⟩:=fin
 refine JS (gs:=[]) rfl (fun x=>vU) C.free C.kind C.loc (wpAny_mono key (fun x s₁ h₁=>wpAny_mono h₁ (fun i s₂ h₂=>wpAny_mono h₂ (fun acc s₃ h₃=>wpAny_mono h₃ (fun cenv s₄ h₄=>codeAny_mono h₄ fun rr s₅ h₅=>?_) fun _ _ q=>q) fun _ _ q=>q) fun _ _ q=>q) fun _ _ q=>q)
 obtain⟨f,rfl,hk⟩:=h₅
 exact hk
end
end
section
open PySem.Calls
section
variable{G:Gl}{P:Pg}{r:Rec}{c:Ac}{gs:List Nat}{ρ ρ':Tr}{st st':St}{s s':Shared}
inductive RzI(hd:Option Nat)(i C:Nat)(d:Option Nat)(tb:Bool)(st st':St):Prop
 |no(h:hd=none)(e:st'=st)
 |own(h:hd=some i)(e:st'=st)
 |ctx(j:Nat)(h:hd=some j)(hne:i≠j)(hj:lC st.objs j=some .none)(e:st'={ st with objs:=st.objs.set i (.exc C d (.ref j) tb) })
theorem AL{hd:Option Nat}{i C:Nat}{d:Option Nat}{tb:Bool}{x:Except SV Flo}(h:mRz hd i C d tb st=some (x,st')):x = .error (.ref i)∧RzI hd i C d tb st st':=by
 cases hd with
 |none=>cases h;exact⟨rfl,.no rfl rfl⟩
 |some j =>
  have h:(bif Nat.beq i j then thr (.ref i)else bnd (PJ j) fun _=>bnd (eX i (.exc C d (.ref j) tb)) fun _=>thr (.ref i):M Flo) st=some (x,st'):=h
  cases q:Nat.beq i j with
  |true =>
   rw[q]at h
   cases h;exact⟨rfl,.own (by rw[dA q]) rfl⟩
  |false =>
   rw[q]at h
   obtain⟨h1,h⟩:=mK h
   cases h
   exact⟨rfl,.ctx j rfl (wF q) (AV h1) rfl⟩
theorem RzI.qs {hd:Option Nat}{i C:Nat}{d:Option Nat}{tb:Bool}(h:RzI hd i C d tb st st'):st'.qs=st.qs:=by
 rcases h with ⟨_,rfl⟩|⟨_,rfl⟩|⟨_,_,_,_,rfl⟩<;>rfl
theorem lS {hd:Option Nat}{v:SV}:Grows (xN G hd v:M Flo):=Grows.onX fun i C d _ tb=>aD fun s r s' h=>⟨[],(AL h).2.qs⟩
theorem FM(H:GOK2 G)(N:Now G c ρ st s.heap){v:SV}{x:Value}(hv:VR ρ v x){p:Pos} :
  SA G c cQ (raiseStmt c.env (some (do PySem.standAt p;Pure.pure x)) none) (xN G c.hd v) ρ st s:=by
 refine SA.onX (T:=fun x=>raiseStmt c.env (some (do PySem.standAt p;Pure.pure x)) none) hv fun i a C d ctx tb ha ho=>SA.if fun hx r' st' hm hq Q E post=>?_
 obtain⟨rfl,hst⟩:=AL hm
 obtain⟨o,vs,cx,t,e1,e2,e3,e4,e5,e6,e7,e8,e9,e10⟩:=N.oat ha ho
 obtain⟨nm,q,NN,bs,bm,hdct,sn,sub,ab,col,dd,k0,k1,k2,k3,k5,hC,F⟩:=H.exc C hx
 have hC:=N.rep.kin _ _ hC
 have hcB:(Value.ref C::bm).contains (.type "BaseException")=true:=by rw[List.contains_cons,F.hasBase,Bool.or_true]
 obtain⟨hp,g,dw,tk,os⟩:=s
 have hT:(⟨hp,g,dw,tk,os⟩:Shared).TypeIs (.ref C) "type":=⟨_,hC,rfl⟩
 have tyO:∀{Q':Value→Shared→Prop}{E':Value→Shared→Prop},Q' (.ref C) ⟨hp,g,dw,tk,os⟩→WP G c (typeOf (.ref a)) Q' E' ⟨hp,g,dw,tk,os⟩:=fun q=>by
  simp only[typeOf,loadHead]
  refine wpAny_bind (wpAny_loadPart e1 ?_)
  rw[e2];exact wpAny_pure q
 have hnt:∀{Q':Bool→Shared→Prop}{E':Value→Shared→Prop},Q' false ⟨hp,g,dw,tk,os⟩→WP G c (isType (.ref a)) Q' E' ⟨hp,g,dw,tk,os⟩:=by
  intro Q' E' hq'
  simp only[isType,loadHead]
  refine wpAny_bind (wpAny_loadPart e1 ?_)
  rw[e3];exact wpAny_pure hq'
 unfold raiseStmt
 refine wpAny_bind (wpAny_bind (wpAny_standAt (wpAny_pure ?_)))
 refine wpAny_bind (wpAny_pure ?_)
 dsimp only
 refine wpAny_bind (wpAny_holding ?_)
 unfold excFromValue isExcClass
 refine wpAny_bind (wpAny_bind (hnt ?_))
 simp only[Bool.false_eq_true,if_false]
 refine wpAny_pure ?_
 simp only[Bool.false_eq_true,if_false]
 refine wpAny_bind (m:=isInstance _ _) (by
  unfold isInstance
  refine wpAny_bind (tyO ?_)
  refine wpAny_isSubtype_exc hC ?_
  rw[hcB]
  simp only[if_true]
  refine wpAny_pure ?_
  refine wpAny_bind (hnt ?_)
  simp only[Bool.false_eq_true,if_false]
  unfold raisedInstance
  refine wpAny_bind (wpAny_bind (tyO (wpAny_bind (wpAny_typeOf hT ?_))))
  rw[if_pos (by decide)]
  refine wpAny_pure ?_
  refine wpAny_bind ?_
  have hmE:MZ (.ref i) st=some (.ok (),st):=by
   show bnd (bP i) _ _=_
   unfold bnd bP
   rw[ho];rfl
  have gq:fK G st:=fun z hz=>hq z (hst.qs▸hz)
  refine SA.setFlight H.toGOK N (v:=.ref i) ⟨a,ha,rfl⟩ (fr:=none) _ _ hmE gq _ _ fun ρ₁ s₁ S₁ N₁ _ _=>?_
  have ha1:=S₁.idx ha
  have hA:=N₁.hd
  rcases hst with⟨hh,rfl⟩|⟨hh,rfl⟩|⟨j,hh,hne,hj,rfl⟩
  ·rw[hh]at hA
   exact wpAny_raiseNew_none hA (post ρ₁ s₁ S₁ N₁ _ ⟨a,ha1,rfl⟩)
  ·rw[hh]at hA
   obtain⟨ah,hah,hA⟩:=hA
   rw[ha1]at hah;cases hah
   unfold raiseNew
   refine wpAny_bind (wpAny_handled ?_)
   rw[hA]
   dsimp only
   rw[if_neg (by simp)]
   exact wpAny_bind (wpAny_pure (wpAny_throw (post ρ₁ s₁ S₁ N₁ _ ⟨a,ha1,rfl⟩)))
  ·rw[hh]at hA
   obtain⟨ah,hah,hA⟩:=hA
   obtain⟨C',d',tb',hj⟩:=JR hj
   obtain⟨oj,vj,cj,tj,g1,g2,g3,g4,g5,g6,g7,_⟩:=N₁.oat hah hj
   have g7:cj = .none:=g7
   subst g7
   obtain⟨o₁,vs₁,cx₁,t₁,f1,f2,f3,f4,f5,f6,f7,f8,f9,f10⟩:=N₁.oat ha1 ho
   refine mT hA g1 g3 g6 (.inl rfl) f1 f3 (Nat.lt_of_lt_of_le (by decide) f4) (sI N₁.rep.nodup hah ha1 (Ne.symm hne)) ?_
   obtain⟨o',u1,u2,u3,u4,u5⟩:=iX f1 f3 (·.setIfInBounds 2 (Value.ref ah))
   have X:=N₁.excPut H.toGOK (d':=d) (ctx':=.ref j) (tb':=tb) ha1 ho f1 f2 f3 u1 (u2.trans f2) u5 fun TB=>⟨o',_,Value.ref ah,t₁,u1,u2.trans f2,u4,by rw[Array.size_setIfInBounds];exact f4,by rw[u3];exact f5,
    Array.getElem?_setIfInBounds_self_of_lt (Nat.lt_of_lt_of_le (by decide) f4),⟨ah,hah,rfl⟩,by rw[Array.getElem?_setIfInBounds_ne (by decide)];exact f8,TB f9,f10⟩
   exact post ρ₁ _ (S₁.trans (X.2 (tk:=s₁.toks) rfl)) X.1 _ ⟨a,ha1,rfl⟩)
end
end
section
open PySem.Calls
inductive HI(G:Gl)(r:Rec)(i:Nat)(ty:IE)(st:St)(x:Except SV Unit)(st':St):Prop
 |mk(h:x = .ok ())(C:Nat)(d:Option Nat)(ctx:SV)(tb:Bool)(q:r.ev (some i) ty st=some (.ok (.top C),st'))(ho:st'.objs[i]?=some (.exc C d ctx tb))(hx:G.xc C=true)
theorem nM{G:Gl}{r:Rec}{i:Nat}{ty:IE}{st st':St}{x:Except SV Unit}(h:MX G r i ty st=some (x,st')):HI G r i ty st x st':=by
 rcases cV h with⟨e,s1,_,h⟩|⟨v,s1,q,h⟩
 ·exact nos h
 ·cases v with
  |top C =>
   obtain⟨o,ho,h⟩:=dW h
   cases o with
   |exc D d ctx tb =>
    obtain⟨z,h⟩:=cY h
    cases h
    have e:C=D:=dA (aN z).1
    subst e
    exact⟨rfl,C,d,ctx,tb,q,ho,(aN z).2⟩
   |_=>exact nos h
  |_=>exact nos h
theorem NK{G:Gl}{r:Rec}{i:Nat}{ty:IE}:NoE (MX G r i ty):=fun s x s' h=>nomatch (nM h).1
theorem qD{G:Gl}{P:Pg}{r:Rec}(S:SRec G P r){i:Nat}{ty:IE}:Grows (MX G r i ty):=fun s x s' h=>by
 obtain⟨_,C,d,ctx,tb,q,_,_⟩:=nM h
 exact S.gev _ _ _ _ _ q
theorem uO{i:Nat}{st st':St}{x:Except SV Unit}(h:HA i st=some (x,st')):x = .ok ()∧st'={ st with loc:=st.loc.set i none }:=by
 rcases cJ h with⟨_,h⟩|h
 ·cases h;exact⟨rfl,rfl⟩
 ·exact nos h
theorem nI{i:Nat}{v:SV}{st st':St}{x:Except SV Unit}(h:nJ i v st=some (x,st')):x = .ok ()∧st'={ st with loc:=st.loc.set i (some v) }∧i<st.loc.length:=by
 rcases cJ h with⟨q,h⟩|h
 ·cases h;exact⟨rfl,rfl,Nat.le_of_ble_eq_true q⟩
 ·exact nos h
theorem zE{i:Nat}{v:SV}:NoE (nJ i v):=fun s x s' h=>nomatch (nI h).1
theorem qG{i:Nat}:Grows (HA i):=fun s x s' h=>⟨[],by rw[(uO h).2];rfl⟩
theorem eQ{i:Nat}:Grows (pZ i):=Grows.bnd dG fun _=>qG
theorem pW{i:Nat}{st st':St}{x:Except SV Unit}(h:pZ i st=some (x,st')):x = .ok ()∧st'.objs=st.objs:=by
 obtain⟨u,s1,h1,h2⟩:=fJ zE h
 obtain⟨e,e2⟩:=uO h2
 exact⟨e,by rw[e2,(nI h1).2.1]⟩
theorem vM{i:Nat}:NoE (pZ i):=fun s x s' h=>nomatch (pW h).1
section
variable{G:Gl}{P:Pg}{r:Rec}{c:Ac}{gs:List Nat}{ρ ρ':Tr}{st st':St}{s s':Shared}
noncomputable def Ac.under(c:Ac)(i:Nat)(x:Value):Ac:={ c with A:=c.A.mark (some x),hd:=some i }
theorem Now.under(N:Now G c ρ st s.heap){i:Nat}{a:Addr}(ha:ρ.a[i]?=some a):Now G (c.under i (.ref a)) ρ st s.heap :=
 ⟨N.frames,N.depth,N.units,⟨a,ha,rfl⟩,N.rep,N.fr,N.frs,N.lo⟩
theorem Now.over{i:Nat}{x:Value}{h h':Heap}{st0:St}{ρ0:Tr}(N0:Now G c ρ0 st0 h)(L:∀{j:Nat}{a:Addr},ρ0.a[j]?=some a→ρ.a[j]?=some a)(N:Now G (c.under i x) ρ st h'):Now G c ρ st h':=by
 refine⟨N.frames,N.depth,N.units,?_,N.rep,N.fr,N.frs,N.lo⟩
 have:=N0.hd
 split at this
 ·exact this
 ·obtain⟨a,h1,h2⟩:=this;exact⟨a,L h1,h2⟩
theorem bG.under(EO:bG c){i:Nat}{x:Value}:bG (c.under i x):=⟨EO.toEnvB.1 |> fun _=>⟨EO.kind,EO.loc,EO.nodup,EO.glob,EO.blt⟩,EO.frame,EO.fl⟩
theorem cQ.mono{ρ ρ':Tr}(L:Tr.Le ρ ρ'){f:Flo}{g:Flow}(h:cQ ρ f g):cQ ρ' f g:=by
 cases f<;>cases g<;>first|exact h|exact VR.mono L h
theorem zP(H:GOK G)(EB:EnvB c)(N:Now G c ρ st s.heap){i:Nat}(hi:Nat.blt i c.vars.length=true){p:Pos} :
  SA G c (fun _ _ _=>True) (do bindName c.env (dB c.vars i) .none;unbindBehindTheSuite c.env (dB c.vars i) p) (pZ i) ρ st s:=by
 refine SA.bind (fun _=>qG) (rK H EB N hi rfl) fun ρ₁ st₁ s₁ _ _ S₁ N₁ hm _=>?_
 obtain⟨_,rfl,q⟩:=nI hm
 exact CE H EB N₁ hi (v:=.none) (List.getElem?_set_self q)
theorem fC(S:SRec G P r){i nm:Nat}{hb:ISs}:Grows (GL r i nm hb):=Grows.bndE (S.gex _ _) (fun _=>Grows.bnd eQ fun _=>Grows.ret) fun _=>Grows.bnd gM fun _=>Grows.bnd eQ fun _=>Grows.thr
theorem CF(H:GOK2 G)(S:SRec G P r)(X:ExOK G r)(EO:bG c)(EG:EnvG G c gs)(N:Now G c ρ st s.heap){ty:IE}{nm:Nat}{hb:ISs}{hp:Pos}(h0:hb.some=true)(h1:wE c.vars.length gs ty=true)(h2:Nat.blt nm c.vars.length=true)
  (h3:wSS c.vars.length gs hb=true){e:SV}{x:Value}(hx:VR ρ e x) :
  SA G c cQ (do noteFrame x c.env;PySem.setFlight x none;handleBy x c.env [.ExceptHandler (some (dE G c.vars ty)) (some (dB c.vars nm)) (dSS G c.vars hb) hp]) (rX G r c.hd e ty nm hb) ρ st s:=by
 intro r' st' hm hq Q E post
 cases e with
 |ref i =>
  obtain⟨a,ha,rfl⟩:=hx
  obtain⟨_,s1,q1,hm⟩:=fJ jP hm
  have T1:=Tb.noted q1
  have hq1:=fB (Grows.bnd (qD S) fun _=>Grows.bnd dG fun _=>fC S) hm hq
  refine wpAny_bind (iG (e:=.ref i) H.toGOK EO N ⟨a,ha,rfl⟩ q1 hq1 fun ρ₁ s₁ S₁ N₁=>?_)
  refine wpAny_bind (iH (e:=.ref i) H.toGOK N₁ ⟨a,S₁.idx ha,rfl⟩ T1 hq1 fun ρ₂ s₂ S₂ N₂=>?_)
  have ha2:=S₂.idx (S₁.idx ha)
  obtain⟨_,s2,q2,hm⟩:=fJ NK hm
  obtain⟨_,C,d,ctx,tb,qe,ho,hxc⟩:=nM q2
  have hq2:fK G s2:=fB (Grows.bnd dG fun _=>fC S) hm hq
  refine wpAny_handleBy_cons (codeAny_handlers_test ?_) (fun q=>nomatch q)
  refine S.ev (c:=c.under i (.ref a)) EO.under.toEnvB EG (N₂.under ha2) ty h1 _ _ qe hq2 _ _ fun ρ₃ s₃ S₃ N₃ cv hcv=>?_
  cases hcv
  have ha3:=S₃.idx ha2
  obtain⟨nmq,qn,NN,bs,bm,hdct,sn,sub,ab,col,dd,k0,k1,k2,k3,k5,hC,F⟩:=H.exc C hxc
  obtain⟨o,vs,cx,t,e1,e2,e3,_⟩:=N₃.oat ha3 ho
  have hC:=N₃.rep.kin _ _ hC
  have em:∀{Q:Bool→Shared→Prop}{E:Value→Shared→Prop},Q true s₃→wpAny (model G.prog G.w) (c.under i (.ref a)).A (excMatches (.ref a) (.ref C)) Q E s₃:=fun q=>by
   obtain⟨hp,g,dw,tk,os⟩:=s₃
   exact wpAny_excMatches_sub_self hC e1 e2 F.hasBase q
  refine em ?_
  obtain⟨_,s3,q3,hm⟩:=fJ zE hm
  have hq3:=fB (fC S) hm hq
  obtain⟨b₀,bl,hbe⟩:∃b₀ bl,dSS G c.vars hb=b₀::bl:=by
   cases hb with
   |nil=>cases h0
   |cons s l=>exact⟨_,_,rfl⟩
  rw[hbe]
  refine codeAny_handlers_suite_as ?_
  rw[←hbe]
  refine SA.setFlight (c:=c.under i (.ref a)) H.toGOK N₃ (v:=.ref i) ⟨a,ha3,rfl⟩ (fr:=none) (.ok ()) s2 ?_ hq2 _ _ fun ρ₄ s₄ S₄ N₄ _ _=>?_
  ·show bnd (bP i) _ _=_
   unfold bnd bP
   rw[ho];rfl
  refine SA.storeLocal (c:=c.under i (.ref a)) H.toGOK EO.under.toEnvB N₄ (GC h2) (v:=.ref i) ⟨a,S₄.idx ha3,rfl⟩ _ _ q3 hq3 _ _ fun ρ₅ s₅ S₅ N₅ _ _=>?_
  have S05:aF c.env.locals ρ s ρ₅ s₅:=(((S₁.trans S₂).trans S₃).trans S₄).trans S₅
  rcases cV hm with⟨y,s4,q4,hm⟩|⟨f,s4,q4,hm⟩
  ·have hq4:=fB (Grows.bnd gM fun _=>Grows.bnd eQ fun _=>Grows.thr) hm hq
   refine X (c:=c.under i (.ref a)) EO.under EG N₅ hb h3 _ _ q4 hq4 _ _ fun ρ₆ s₆ S₆ N₆ yv hy=>?_
   have S06:=S05.trans S₆
   obtain⟨_,s5,q5,hm⟩:=fJ jP hm
   have T5:=Tb.noted q5
   have hq5:=fB (Grows.bnd eQ fun _=>Grows.thr) hm hq
   refine iG (c:=c.under i (.ref a)) H.toGOK EO.under N₆ hy q5 hq5 fun ρ₇ s₇ S₇ N₇=>?_
   obtain⟨_,s6,q6,hm⟩:=fJ vM hm
   cases hm
   have T6:Tb st' y:=by
    obtain⟨i6,C6,d6,c6,e6,o6⟩:=T5
    exact⟨i6,C6,d6,c6,e6,by rw[(pW q6).2];exact o6⟩
   refine zP (c:=c.under i (.ref a)) H.toGOK EO.under.toEnvB N₇ h2 _ _ q6 hq _ _ fun ρ₈ s₈ S₈ N₈=>fun _ _=>?_
   have hy8:=S₈.vr (S₇.vr hy)
   refine zN (c:=c.under i (.ref a)) H.toGOK N₈ hy8 T6 hq fun ρ₉ s₉ S₉ N₉=>?_
   have hy9:=S₉.vr hy8
   refine iG (c:=c.under i (.ref a)) H.toGOK EO.under N₉ hy9 T6.note hq fun ρa sa Sa Na=>?_
   have S0a:=(((S06.trans S₇).trans S₈).trans S₉).trans Sa
   refine zQ H.toGOK (Now.over N (fun h=>S0a.idx h) Na) (Sa.vr hy9) T6 hq fun ρb sb Sb Nb=>?_
   exact post ρb sb (S0a.trans Sb) Nb _ (Sb.vr (Sa.vr hy9))
  ·have hq4:=fB (Grows.bnd eQ fun _=>Grows.ret) hm hq
   refine X (c:=c.under i (.ref a)) EO.under EG N₅ hb h3 _ _ q4 hq4 _ _ fun ρ₆ s₆ S₆ N₆ f' hf=>?_
   have S06:=S05.trans S₆
   obtain⟨_,s5,q5,hm⟩:=fJ vM hm
   cases hm
   exact zP H.toGOK EO.toEnvB (Now.over N (fun h=>S06.idx h) N₆) h2 _ _ q5 hq _ _ fun ρ₇ s₇ S₇ N₇=>fun _ _=>post ρ₇ s₇ (S06.trans S₇) N₇ _ (hf.mono S₇.le)
 |_=>exact nos hm
end
end
section
open PySem.Calls
section
variable{G:Gl}{P:Pg}{r:Rec}
theorem jZ(S:SRec G P r){hd:Option Nat}{e:SV}{ty:IE}{nm:Nat}{hb:ISs}:Grows (rX G r hd e ty nm hb):=by
 cases e with
 |ref i=>exact Grows.bnd gM fun _=>Grows.bnd (qD S) fun _=>Grows.bnd dG fun _=>fC S
 |_=>exact aB
theorem nV(S:SRec G P r){hd:Option Nat}{b:ISs}{ty:IE}{nm:Nat}{hb:ISs}:Grows (GJ G r hd b ty nm hb):=Grows.bndE (S.gex _ _) (fun _=>Grows.ret) fun _=>jZ S
theorem uZ{e:SV}:Grows (mTb e):=Grows.onX fun _ _ _ _ _=>aD Grows.ret
theorem nW{α:Type}{m:M Flo}{k:M α}(hm:Grows m)(hk:Grows k):Grows (AG m k):=Grows.bndE hm (fun _=>aD hk) fun _=>aB
theorem kA(S:SRec G P r){e:SV}{fin:ISs}:Grows (AO r e fin):=by
 cases e with
 |ref i=>exact Grows.bnd gM fun _=>nW (S.gex _ _) (Grows.bnd uZ fun _=>Grows.thr)
 |_=>exact aB
theorem qF(S:SRec G P r){hd:Option Nat}{m:M Flo}(gm:Grows m){fin:ISs}:Grows (MY r hd m fin):=by
 cases fin with
 |nil=>exact gm
 |cons s l=>exact Grows.bndE gm (fun _=>nW (S.gex _ _) Grows.ret) fun _=>kA S
inductive TI{α:Type}(m:M Flo)(k:M α)(st:St)(x:Option (Except SV α×St)):Prop
 |mk(s1:St)(h1:m st=some (.ok .next,s1))(h2:k s1=x)
theorem pU{α:Type}{m:M Flo}{k:M α}{st st':St}{x:Except SV α}(h:AG m k st=some (x,st')):TI m k st (some (x,st')):=by
 rcases cV h with⟨e,s1,_,h⟩|⟨f,s1,q,h⟩
 ·exact nos h
 ·obtain⟨g,h⟩:=cY h
  cases f with
  |next=>exact⟨s1,q,h⟩
  |_=>exact Bool.noConfusion g
end
section
variable{G:Gl}{P:Pg}{r:Rec}{c:Ac}{gs:List Nat}{ρ ρ':Tr}{st st':St}{s s':Shared}
noncomputable def nG(body:Sem Flow)(handlers:List ExceptHandler)(env:Env):Sem Flow:=do
 match ←body.attempt with
 |.ok .next=>execs [] env
 |.ok f=>Pure.pure f
 |.error e =>
  noteFrame e env
  if handlers.isEmpty then throw e
  setFlight e none
  if false&&handlers.any (fun | .ExceptHandler none ..=>true|_=>false)then unsupported "internal:except-star-without-type"
  if false then runOwn (.starHandlers e e (←newList []) handlers env) env (some e)else handleBy e env handlers
theorem FP(H:GOK2 G)(S:SRec G P r)(X:ExOK G r)(EO:bG c)(EG:EnvG G c gs)(N:Now G c ρ st s.heap){b:ISs}{ty:IE}{nm:Nat}{hb:ISs}{hp:Pos}(hw:wSS c.vars.length gs b=true)(h0:hb.some=true)(h1:wE c.vars.length gs ty=true)(h2:Nat.blt nm c.vars.length=true)
  (h3:wSS c.vars.length gs hb=true):SA G c cQ (nG (execs (dSS G c.vars b) c.env) [.ExceptHandler (some (dE G c.vars ty)) (some (dB c.vars nm)) (dSS G c.vars hb) hp] c.env) (GJ G r c.hd b ty nm hb) ρ st s:=by
 intro r' st' hm hq Q E post
 unfold nG
 rcases cV hm with⟨e,s1,q,hm⟩|⟨f,s1,q,hm⟩
 ·refine wpAny_bind (wpAny_attempt (X EO EG N b hw _ _ q (fB (jZ S) hm hq) _ _ fun ρ₁ s₁ S₁ N₁ x hx=>?_))
  exact CF H S X EO EG N₁ h0 h1 h2 h3 hx _ _ hm hq Q E fun ρ' s' S' N'=>post ρ' s' (S₁.trans S') N'
 ·cases hm
  exact wpAny_bind (wpAny_attempt (X EO EG N b hw _ _ q hq _ _ fun ρ₁ s₁ S₁ N₁ f' hf=>by cases f'<;>exact wpAny_pure (post ρ₁ s₁ S₁ N₁ _ hf)))
theorem FQ(H:GOK2 G)(S:SRec G P r)(X:ExOK G r)(EO:bG c)(EG:EnvG G c gs)(N:Now G c ρ st s.heap){b:ISs}(hw:wSS c.vars.length gs b=true) :
  SA G c cQ (nG (execs (dSS G c.vars b) c.env) [] c.env) (eK (r.ex c.hd b)) ρ st s:=by
 intro r' st' hm hq Q E post
 unfold nG
 rcases eJ hm with⟨a,rfl,q⟩|⟨e,s1,rfl,q,hn⟩
 ·exact wpAny_bind (wpAny_attempt (X EO EG N b hw _ _ q hq _ _ fun ρ₁ s₁ S₁ N₁ f' hf=>by cases f'<;>exact wpAny_pure (post ρ₁ s₁ S₁ N₁ _ hf)))
 ·refine wpAny_bind (wpAny_attempt (X EO EG N b hw _ _ q (fun z hz=>hq z (by rw[(gI hn).1];exact hz)) _ _ fun ρ₁ s₁ S₁ N₁ x hx=>?_))
  refine wpAny_bind (iG H.toGOK EO N₁ hx hn hq fun ρ₂ s₂ S₂ N₂=>?_)
  exact wpAny_throw (post ρ₂ s₂ (S₁.trans S₂) N₂ x (S₂.vr hx))
theorem uB(H:GOK2 G)(X:ExOK G r)(EO:bG c)(EG:EnvG G c gs)(N:Now G c ρ st s.heap){b:ISs}(hw:wSS c.vars.length gs b=true)(hm:r.ex c.hd b st=some (.ok .next,st'))(hq:fK G st'){RR:Result→Shared→Prop}
  (post:oP G c ρ s st' (RR (.ok .next))):codeAny (model G.prog G.w) c.A (.block (dSS G c.vars b) c.env) RR s:=by
 refine codeAny_block (X EO EG N b hw _ _ hm hq _ _ fun ρ₁ s₁ S₁ N₁ f hf=>?_)
 cases f<;>first|exact hf.elim|exact post ρ₁ s₁ S₁ N₁
theorem FL(H:GOK2 G)(S:SRec G P r)(X:ExOK G r)(EO:bG c)(EG:EnvG G c gs)(N:Now G c ρ st s.heap){b fin:ISs}{hs:List ExceptHandler}{m:M Flo}(hw:wSS c.vars.length gs fin=true)(gm:Grows m)
  (T:SA G c cQ (nG (execs (dSS G c.vars b) c.env) hs c.env) m ρ st s):SA G c cQ (tryStmt false (execs (dSS G c.vars b) c.env) hs (execs [] c.env) (dSS G c.vars fin) c.env) (MY r c.hd m fin) ρ st s:=by
 intro r' st' hm hq Q E post
 cases fin with
 |nil =>
  have e:tryStmt false (execs (dSS G c.vars b) c.env) hs (execs [] c.env) (dSS G c.vars .nil) c.env=nG (execs (dSS G c.vars b) c.env) hs c.env:=rfl
  rw[e]
  exact T r' st' hm hq Q E post
 |cons s0 l0 =>
  have e:tryStmt false (execs (dSS G c.vars b) c.env) hs (execs [] c.env) (dSS G c.vars (.cons s0 l0)) c.env=(do
   match ←(nG (execs (dSS G c.vars b) c.env) hs c.env).attempt with
   |.ok f =>
    let keep:=match f with | .ret v=>[v]|_=>[]
    match ←PySem.holding keep (runOwn (.block (dSS G c.vars (.cons s0 l0)) c.env) c.env)with
    |.next=>Pure.pure f
    |f'=>PySem.rule "try.finally-overrides-flow";Pure.pure f'
   |.error e =>
    noteFrame e c.env
    setFlight e none
    match ←PySem.holding [e] (runOwn (.block (dSS G c.vars (.cons s0 l0)) c.env) c.env (some e))with
    |.next=>PySem.passOn "try.finally" e c.env
    |f'=>PySem.rule "try.finally-swallows-exception";setFlight e none;Pure.pure f'):=rfl
  rw[e]
  rcases cV hm with⟨e,s1,q1,hm⟩|⟨f,s1,q1,hm⟩
  ·refine wpAny_bind (wpAny_attempt (T _ _ q1 (fB (kA S) hm hq) _ _ fun ρ₁ s₁ S₁ N₁ x hx=>?_))
   dsimp only
   cases e with
   |ref i =>
    obtain⟨a,ha,rfl⟩:=hx
    obtain⟨_,s2,q2,hm⟩:=fJ jP hm
    have T2:=Tb.noted q2
    obtain⟨s3,q3,hm⟩:=pU hm
    obtain⟨T3,hm⟩:=KA hm
    cases hm
    have hq2:=fB (S.gex _ _) q3 hq
    refine wpAny_bind (iG (e:=.ref i) H.toGOK EO N₁ ⟨a,ha,rfl⟩ q2 hq2 fun ρ₂ s₂ S₂ N₂=>?_)
    have ha2:=S₂.idx ha
    refine wpAny_bind (iH (e:=.ref i) H.toGOK N₂ ⟨a,ha2,rfl⟩ T2 hq2 fun ρ₃ s₃ S₃ N₃=>?_)
    have ha3:=S₃.idx ha2
    refine wpAny_bind (wpAny_holding (wpAny_runOwn (uB (c:=c.under i (.ref a)) H X EO.under EG (N₃.under ha3) hw q3 hq fun ρ₄ s₄ S₄ N₄=>?_) (fun q=>nomatch q)))
    have S4:aF c.env.locals ρ₃ s₃ ρ₄ s₄:=S₄
    refine zN (e:=.ref i) H.toGOK (Now.over N₃ (fun h=>S4.idx h) N₄) ⟨a,S4.idx ha3,rfl⟩ T3 hq fun ρ₅ s₅ S₅ N₅=>?_
    exact post ρ₅ s₅ ((((S₁.trans S₂).trans S₃).trans S4).trans S₅) N₅ _ ⟨a,S₅.idx (S4.idx ha3),rfl⟩
   |_=>exact nos hm
  ·obtain⟨s2,q2,hm⟩:=pU hm
   cases hm
   refine wpAny_bind (wpAny_attempt (T _ _ q1 (fB (S.gex _ _) q2 hq) _ _ fun ρ₁ s₁ S₁ N₁ f' hf=>?_))
   dsimp only
   refine wpAny_bind (wpAny_holding (wpAny_runOwn (h:=none) (uB H X EO EG N₁ hw q2 hq fun ρ₂ s₂ S₂ N₂=>?_) (fun q=>nomatch q)))
   exact wpAny_pure (post ρ₂ s₂ (S₁.trans S₂) N₂ f' (hf.mono S₂.le))
end
end
section
open PySem.Calls
theorem jY{op:Operator}{a b:SV}:Grows (mIp op a b):=by
 cases op with
 |Add=>exact Grows.onI fun _=>Grows.onI fun _=>jX
 |Sub=>exact Grows.onI fun _=>Grows.onI fun _=>jX
 |_=>exact aB
theorem gP{α:Type}{m:M α}(h:Grows m):Grows (nO m):=Grows.bndE h (fun _=>Grows.ret) fun _=>Grows.bnd uZ fun _=>Grows.thr
theorem lE{α β γ:Type}(m:M α)(f:α→M β)(g:β→M γ):bnd (bnd m f) g=bnd m fun a=>bnd (f a) g:=by
 funext z
 unfold bnd
 cases m z with
 |none=>rfl
 |some y=>obtain⟨y1,y2⟩:=y;cases y1<;>rfl
theorem IA{G:Gl}{P:Pg}{r:Rec}(S:SRec G P r){hd:Option Nat}(x:IS):Grows (sS G r hd x):=by
 cases x with
 |expr e p=>exact Grows.bnd (S.gev _ _) fun _=>Grows.ret
 |retN p=>exact Grows.ret
 |ret e p=>exact Grows.bnd (S.gev _ _) fun _=>Grows.ret
 |asg t v p=>exact Grows.bnd (S.gev _ _) fun _=>Grows.bnd (fW S.gev) fun _=>Grows.ret
 |aug o n tp op v p=>exact Grows.bnd (S.gev _ _) fun _=>Grows.bnd iM fun _=>Grows.bnd (S.gev _ _) fun _=>Grows.bnd jY fun _=>Grows.bnd eO fun _=>Grows.ret
 |ifs t b e p=>exact Grows.bnd (S.gtst _ _) fun c=>by cases c<;>exact S.gex _ _
 |fors t it b p=>exact Grows.bnd (S.gev _ _) fun _=>Grows.bnd gN fun _=>gP (S.gfors _ _ _ _)
 |whl t b p=>exact gP (S.gwhl _ _ _ _)
 |raise e p=>exact Grows.bnd (S.gev _ _) fun _=>lS
 |tryX b ty nm hb hp fin p=>exact qF S (nV S)
 |tryF b fin p=>exact qF S (cT (S.gex _ _))
 |pass p=>exact Grows.ret
theorem kU{G:Gl}{P:Pg}{r:Rec}(S:SRec G P r){hd:Option Nat}:∀b:ISs,Grows (sSS G r hd b)
 |.nil=>Grows.ret
 |.cons s l=>Grows.bnd (IA S s) fun f=>by
  cases f with
  |next=>exact kU S l
  |_=>exact Grows.ret
section
variable{G:Gl}{P:Pg}{r:Rec}{c:Ac}{gs:List Nat}{ρ ρ':Tr}{st st':St}{s s':Shared}
theorem WT(H:GOK G)(N:Now G c ρ st s.heap){op:Operator}{x y:SV}{a b:Value}(hx:VR ρ x a)(hy:VR ρ y b):SA G c VR (inplaceOp op a b) (mIp op x y) ρ st s:=by
 cases op with
 |Add=>exact SA.onI (T:=fun a=>inplaceOp .Add a b) hx fun i t=>SA.onI hy fun j u=>SA.prI H N fun Q E q=>PySem.AutoIntOps.iadd_0 q
 |Sub=>exact SA.onI (T:=fun a=>inplaceOp .Sub a b) hx fun i t=>SA.onI hy fun j u=>SA.prI H N fun Q E q=>PySem.AutoIntOps.isub_0 q
 |_=>exact SA.fail
theorem FN(H:GOK G){code:Code}{m:M Flo}(C:CA G c code m ρ st s):SA G c cQ (runOwn code c.env) (nO m) ρ st s:=by
 intro r' st' hm hq Q E post
 rcases CR hm with⟨a,rfl,q⟩|⟨e,rfl,q,T⟩
 ·exact wpAny_runOwn (h:=none) (C _ _ q hq _ fun ρ' s' S' N'=>post ρ' s' S' N') (by intro q;cases q)
 ·refine wpAny_runOwn (h:=none) (C _ _ q hq _ fun ρ' s' S' N'=>fun x hx=>?_) (by intro q;cases q)
  exact zQ H N' hx T hq fun ρ'' s'' S'' N''=>post ρ'' s'' (S'.trans S'') N'' x (S''.vr hx)
theorem LA{t:IT}{v:IE}(env:Env)(h:KF t v=true):swappedStores [dT G c.vars t] (dE G c.vars v) env=Pure.pure none:=by
 cases t with
 |tup is k p=>cases v<;>first | rfl | exact Bool.noConfusion h
 |_=>rfl
theorem LB{e:IE}(env:Env)(l:Nat)(h:zY e=true):swapsWith (dE G c.vars e) none l env=Pure.pure false:=by
 cases e<;>first|rfl|exact Bool.noConfusion h
theorem JK{t:IT}{env:Env}:(assignEach [dT G c.vars t] env).map (·.2)=[assign (dT G c.vars t) env]:=by
 cases t<;>rfl
theorem KZ{t:IT}{v:IE}(env:Env)(l:Nat)(h:KF t v=true):∃b:Bool,swapsWithSole [dT G c.vars t] (dE G c.vars v) l env=Pure.pure b∧(b=true→∃elt ct it sc cv cgs cp,v = .comp elt ct it sc cv cgs cp):=by
 cases v with
 |comp elt ct it sc cv cgs cp =>
  cases t with
  |name i np=>exact⟨_,rfl,fun _=>⟨_,_,_,_,_,_,_,rfl⟩⟩
  |_=>exact Bool.noConfusion h
 |_=>exact⟨false,rfl,fun q=>nomatch q⟩
theorem VW(H:iV G)(S:SRec G P r)(X:ExOK G r)(L:LOK G r)(EO:bG c)(EG:EnvG G c gs)(N:Now G c ρ st s.heap)(x:IS)(h:wS c.vars.length gs x=true) :
  SA G c cQ (exec (dS G c.vars x) c.env) (sS G r c.hd x) ρ st s:=by
 have EB:=EO.toEnvB
 cases x with
 |expr e p =>
  obtain⟨h1,h2⟩:=aN h
  show SA G c cQ (exec (.Expr (dE G c.vars e) p) c.env) _ ρ st s
  have hi:interactive c.env=false:=by unfold interactive;rw[EB.kind];rfl
  have hs:=LB (G:=G) (c:=c) c.env p.line h1
  rw[exec_Expr c.env _ p hi hs]
  refine SA.standAt ?_
  refine SA.bind (fun _=>Grows.ret) (S.ev EB EG N e h2) fun ρ₁ st₁ s₁ a b S₁ N₁ _ hab=>?_
  intro r' st' hm hq Q E post
  cases hm
  exact wpAny_dropValue (post ρ₁ s₁ aF.refl N₁ _ trivial)
 |retN p =>
  show SA G c cQ (do PySem.standAt p;return .ret .none) _ ρ st s
  exact SA.standAt (SA.pure N rfl)
 |ret e p =>
  show SA G c cQ (do PySem.standAt p;return .ret (←eval (dE G c.vars e) c.env)) _ ρ st s
  refine SA.standAt ?_
  refine SA.bind (fun _=>Grows.ret) (S.ev EB EG N e h) fun ρ₁ st₁ s₁ a b S₁ N₁ _ hab=>?_
  exact SA.pure N₁ hab
 |asg t v p =>
  obtain⟨h0,h3⟩:=aN h
  obtain⟨h1,h2⟩:=aN h0
  show SA G c cQ (exec (.Assign [dT G c.vars t] (dE G c.vars v) p) c.env) _ ρ st s
  rw[arm_exec_Assign]
  refine SA.standAt ?_
  have hw:=LA (G:=G) (c:=c) c.env h1
  rw[hw,JK]
  have plain:SA G c cQ (do let v ←eval (dE G c.vars v) c.env;assignStores c.env v (←(Pure.pure none:Sem (Option (List Str)))) [assign (dT G c.vars t) c.env]) (sS G r c.hd (.asg t v p)) ρ st s:=by
   refine SA.bind (fun _=>Grows.bnd (fW S.gev) fun _=>Grows.ret) (S.ev EB EG N v h3) fun ρ₁ st₁ s₁ a b S₁ N₁ _ hab=>?_
   refine SA.look (x:=none) (fun Q E q=>wpAny_pure q) ?_
   show SA G c cQ (do assign (dT G c.vars t) c.env b;Pure.pure .next) _ ρ₁ st₁ s₁
   refine SA.bind (fun _=>Grows.ret) (iI S H.toGOK2 EB EG N₁ t h2 hab) fun ρ₂ st₂ s₂ _ _ S₂ N₂ _ _=>SA.pure N₂ trivial
  obtain⟨b,hb,hv⟩:=KZ (G:=G) (c:=c) c.env p.line h1
  rw[hb]
  refine SA.look (x:=b) (fun Q E q=>wpAny_pure q) ?_
  cases b with
  |false=>exact plain
  |true =>
   obtain⟨elt,ct,it,sc,cv,cgs,cp,rfl⟩:=hv rfl
   simp only[if_true]
   have assoc:sS G r c.hd (.asg t (.comp elt ct it sc cv cgs cp) p)=bnd (bnd (r.ev c.hd (.comp elt ct it sc cv cgs cp)) fun x=>sA G r c.hd x t) fun _=>aG .next:=(lE _ _ _).symm
   rw[assoc]
   refine SA.bind (fun _=>Grows.ret) (L.use EB EG N elt ct it sc cv cgs cp h3 _ _ (fun _=>fW S.gev) fun N' hv=>?_) fun ρ₁ st₁ s₁ _ _ S₁ N₁ _ _=>SA.pure N₁ trivial
   exact iI S H.toGOK2 EB EG N' t h2 hv
 |aug o n tp op v p =>
  obtain⟨h1,h2⟩:=aN h
  show SA G c cQ (exec (.AugAssign (.Attribute (dE G c.vars o) (G.an n) tp) op (dE G c.vars v) p) c.env) _ ρ st s
  rw[arm_exec_AugAssign_2]
  refine SA.standAt ?_
  refine SA.bind (fun _=>Grows.bnd iM fun _=>Grows.bnd (S.gev _ _) fun _=>Grows.bnd jY fun _=>Grows.bnd eO fun _=>Grows.ret) (S.ev EB EG N o h1) fun ρ₁ st₁ s₁ ov ovv S₁ N₁ _ hov=>?_
  rw[show(fun old=>bnd (r.ev c.hd v) fun x=>bnd (mIp op old x) fun y=>bnd (pV G ov n y) fun _=>aG Flo.next)=fun old=>bnd (bnd (r.ev c.hd v) fun x=>mIp op old x) fun y=>bnd (pV G ov n y) fun _=>aG .next from funext fun old=>(lE _ _ _).symm,←lE]
  refine SA.bind (R:=VR) (fun _=>Grows.bnd eO fun _=>Grows.ret) (SA.holding (SA.standAt (SA.bind (fun _=>Grows.bnd (S.gev _ _) fun _=>jY) (SA.get (expr:=true) H.toGOK N₁ hov (n:=n) rfl) fun ρ₂ st₂ s₂ old oldv S₂ N₂ _ hold=>?_))) fun ρ₄ st₄ s₄ y yv S₄ N₄ _ hy=>?_
  ·refine SA.bind (fun _=>jY) (SA.holding (S.ev EB EG N₂ v h2)) fun ρ₃ st₃ s₃ x xv S₃ N₃ _ hx=>?_
   exact SA.standAt (gH (WT H.toGOK N₃ (S₃.vr hold) hx))
  ·refine SA.standAt ?_
   refine SA.bind (fun _=>Grows.ret) (SA.holding (SA.setX H.toGOK N₄ (S₄.vr hov) (n:=n) rfl hy)) fun ρ₅ st₅ s₅ _ _ S₅ N₅ _ _=>?_
   exact SA.pre_unit (fun Q E q=>wpAny_release q) (SA.pure N₅ trivial)
 |ifs t b e p =>
  obtain⟨h1,h2,h3⟩:=OM h
  show SA G c cQ (exec (.If (dE G c.vars t) (dSS G c.vars b) (dSS G c.vars e) p) c.env) _ ρ st s
  rw[arm_exec_If]
  refine SA.standAt ?_
  refine SA.bind (fun t=>by cases t<;>exact S.gex _ _) (S.tst EB EG N t h1) fun ρ₁ st₁ s₁ t t' S₁ N₁ _ ht=>?_
  have ht:t'=t:=ht
  subst ht
  cases t'
  ·exact X EO EG N₁ e h3
  ·exact X EO EG N₁ b h2
 |fors t it b p =>
  obtain⟨h1,h2,h3⟩:=OM h
  show SA G c cQ (exec (.For (dT G c.vars t) (dE G c.vars it) (dSS G c.vars b) [] p) c.env) _ ρ st s
  rw[arm_exec_For]
  refine SA.standAt ?_
  refine SA.bind (fun _=>Grows.bnd gN fun _=>gP (S.gfors _ _ _ _)) (S.ev EB EG N it h2) fun ρ₁ st₁ s₁ a b' S₁ N₁ _ hab=>?_
  rw[vU]
  refine SA.look (x:=b') (fun Q E q=>wpAny_pure q) ?_
  refine SA.standAt ?_
  refine SA.bind (fun _=>gP (S.gfors _ _ _ _)) (SA.holding (SA.iter H.toGOK N₁ hab)) fun ρ₂ st₂ s₂ i iv S₂ N₂ _ hi=>?_
  exact FN H.toGOK (L.fors EO EG N₂ t i iv b hi h1 h3)
 |whl t b p =>
  obtain⟨h1,h2⟩:=aN h
  show SA G c cQ (exec (.While (dE G c.vars t) (dSS G c.vars b) [] p) c.env) _ ρ st s
  rw[arm_exec_While]
  exact SA.standAt (FN H.toGOK (L.whl EO EG N t b p h1 h2))
 |raise e p =>
  show SA G c cQ (do PySem.standAt p;raiseStmt c.env (some (do let v ←eval (dE G c.vars e) c.env;PySem.standAt p;Pure.pure v)) none) _ ρ st s
  refine SA.standAt ?_
  have e1:raiseStmt c.env (some (do let v ←eval (dE G c.vars e) c.env;PySem.standAt p;Pure.pure v)) none=(do let v ←eval (dE G c.vars e) c.env;raiseStmt c.env (some (do PySem.standAt p;Pure.pure v)) none):=by
   unfold raiseStmt
   simp only[bind_assoc]
  rw[e1]
  refine SA.bind (fun _=>lS) (S.ev EB EG N e h) fun ρ₁ st₁ s₁ a b S₁ N₁ _ hab=>?_
  exact FM H.toGOK2 N₁ hab
 |tryX b ty nm hb hp fin p =>
  obtain⟨h,h6⟩:=aN h
  obtain⟨h,h5⟩:=aN h
  obtain⟨h,h4⟩:=aN h
  obtain⟨h,h3⟩:=aN h
  obtain⟨h1,h2⟩:=aN h
  show SA G c cQ (do PySem.standAt p;tryStmt false (execs (dSS G c.vars b) c.env) [.ExceptHandler (some (dE G c.vars ty)) (some (dB c.vars nm)) (dSS G c.vars hb) hp] (execs [] c.env) (dSS G c.vars fin) c.env) _ ρ st s
  exact SA.standAt (FL H.toGOK2 S X EO EG N h6 (nV S) (FP H.toGOK2 S X EO EG N h2 h1 h3 h4 h5))
 |tryF b fin p =>
  obtain⟨h,h3⟩:=aN h
  obtain⟨h1,h2⟩:=aN h
  show SA G c cQ (do PySem.standAt p;tryStmt false (execs (dSS G c.vars b) c.env) [] (execs [] c.env) (dSS G c.vars fin) c.env) _ ρ st s
  exact SA.standAt (FL H.toGOK2 S X EO EG N h3 (cT (S.gex _ _)) (FQ H.toGOK2 S X EO EG N h2))
 |pass p =>
  show SA G c cQ (do PySem.standAt p;Pure.pure .next) _ ρ st s
  exact SA.standAt (SA.pure N trivial)
theorem ET(H:iV G)(S:SRec G P r)(X:ExOK G r)(L:LOK G r)(EO:bG c)(EG:EnvG G c gs):∀(b:ISs){ρ:Tr}{st:St}{s:Shared},Now G c ρ st s.heap→wSS c.vars.length gs b=true →
  SA G c cQ (execs (dSS G c.vars b) c.env) (sSS G r c.hd b) ρ st s
 |.nil,ρ,st,s,N,_=>SA.pure N trivial
 |.cons x l,ρ,st,s,N,h=>by
  obtain⟨h1,h2⟩:=aN h
  show SA G c cQ (do
   match ←exec (dS G c.vars x) c.env with
   |.next=>execs (dSS G c.vars l) c.env
   |f=>Pure.pure f) _ ρ st s
  refine SA.bind (fun f=>?_) (VW H S X L EO EG N x h1) fun ρ₁ st₁ s₁ f f' S₁ N₁ _ hf=>?_
  ·cases f with
   |next=>exact kU S l
   |_=>exact Grows.ret
  cases f<;>cases f'<;>first|exact hf.elim|exact ET H S X L EO EG l N₁ h2|exact SA.pure N₁ hf
end
end
section
open PySem.Calls
section
variable{G:Gl}{P:Pg}{r:Rec}
theorem ID(S:SRec G P r){hd:Option Nat}(e:IE):Grows (sE G r hd e):=by
 cases e with
 |cst k u p=>exact Grows.ret
 |loc i p=>exact CZ
 |glb i p=>exact aL
 |attr o n p=>exact Grows.bnd (S.gev _ _) fun _=>iM
 |call f a p=>exact Grows.bnd (S.gev _ _) fun _=>Grows.bnd (bX S.gev _) fun _=>S.gcall _ _ _
 |meth o n ap a p=>exact Grows.bnd (S.gev _ _) fun _=>Grows.bnd oB fun _=>Grows.bnd (bX S.gev _) fun _=>S.gcall _ _ _
 |bin l op e p=>exact Grows.bnd (S.gev _ _) fun _=>Grows.bnd (S.gev _ _) fun _=>kW
 |cmp l op e p=>exact Grows.bnd (S.gev _ _) fun _=>Grows.bnd (S.gev _ _) fun _=>dY
 |bool op l p=>exact jB S.gev l
 |not e p=>exact Grows.bnd (S.gev _ _) fun _=>Grows.bnd bA fun _=>Grows.ret
 |neg k u q p=>exact Grows.ret
 |ite t b o p=>exact Grows.bnd (S.gtst _ _) fun c=>by cases c<;>exact S.gev _ _
 |sub v s p=>exact Grows.bnd (S.gev _ _) fun _=>Grows.bnd (S.gev _ _) fun _=>kT
 |sFrom l p=>exact Grows.bnd (S.gev _ _) fun _=>aD aJ
 |sTo l p=>exact Grows.bnd (S.gev _ _) fun _=>aD aJ
 |tup es k p=>exact Grows.bnd (bX S.gev _) fun _=>aD aJ
 |list es p=>exact Grows.bnd (bX S.gev _) fun _=>aD aJ
 |dict ks l p=>exact yF S.gev
 |comp elt t it sc cv cgs p =>
  exact aD (Grows.bnd (S.gev _ _) fun _=>Grows.bnd gN fun _=>Grows.bnd aJ fun _=>Grows.bnd iL fun _=>kB S)
theorem lU{m:M Flo}(h:Grows m){o:Option Flo}:Grows (dN o m):=by
 unfold dN;split<;>first|exact Grows.ret|exact h
theorem nU(S:SRec G P r){hd:Option Nat}{t:IE}{b:ISs}:Grows (nH r hd t b) :=
 cT (Grows.bnd (S.gtst _ _) fun c=>by
  cases c
  ·exact Grows.ret
  ·exact Grows.bnd (S.gex _ _) fun _=>Grows.ret)
set_option tactic.hygienic true in
theorem HY(S:SRec G P r){hd:Option Nat}{t:IE}{b:ISs}{p:Pos}:Grows (sW r hd t b p):=fun s r' s' h=>by
 have g:Grows (bnd (nH r hd t b) fun o=>dN o (r.whl hd t b p)):=Grows.bnd (nU S) fun _=>lU (S.gwhl _ _ _ _)
 unfold sW at h
 split at h
 ·rename_i out ob lo lp rest ho
  cases z:Nat.beq lp p.line with
  |false=>rw[z]at h;exact g _ _ _ h
  |true=>rw[z]at h;cases h;exact⟨[_],rfl⟩
 ·exact g _ _ _ h
theorem IB(S:SRec G P r){hd:Option Nat}{t:IT}{i:SV}{b:ISs}:Grows (sF G r hd t i b) :=
 Grows.bnd (cT (Grows.bnd oA (hY S))) fun _=>lU (S.gfors _ _ _ _)
structure BL(G:Gl)(P:Pg)(r:Rec):Prop where
 S:SRec G P r
 X:ExOK G r
 L:LOK G r
theorem BN:BL G P Rec.bot where
 S:=⟨fun _ _=>aB,fun _ _=>aB,fun _ _=>aB,fun _ _ _=>aB,fun _ _ _ _=>aB,fun _ _ _ _=>aB,fun _ _ _ _ _=>aB,fun _ _ _ _ _ h=>(by cases h),
  fun _ _ _ _ _=>SA.fail,fun _ _ _ _ _=>SA.fail,fun _ _ _ _ _ _ _=>SA.fail⟩
 X:=fun _ _ _ _ _=>SA.fail
 L:=⟨fun _ _ _ _ _ _ _ _ _ _ h=>(by cases h),fun _ _ _ _ _ _ _ _ _ _ _ _ h=>(by cases h),fun _ _ _ _ _ _ _ _ _ _ _ _ _ _ _ _ h=>(by cases h),fun _ _ _ _ _ _ _ _ _ _ _ _ _ _ _=>fun _ _ h=>(by cases h)⟩
theorem wL(H:iV G)(PO:wI G P)(R:BL G P r):BL G P (step G P r) where
 S:=⟨fun _ _=>ID R.S _,fun _ _=>HZ R.S,fun _ _=>kU R.S _,fun _ _ _=>vB R.S.gex,fun _ _ _ _=>HY R.S,fun _ _ _ _=>IB R.S,fun _ _ _ _ _=>IF R.S,fun _ _ _ _ _ h=>wN h,
  fun EB EG N e h=>VY R.S H.toGOK2 PO EB EG N e h (fun elt t it sc cv cgs p he=>by subst he;exact MM H R.S R.L EB EG N h),
  fun EB EG N e h=>VV R.S H.toGOK2 EB EG N e h,fun N f fv a vs hf ha=>EV H PO R.X N f fv a vs hf ha⟩
 X:=fun EO EG N b h=>ET H R.S R.X R.L EO EG b N h
 L:=⟨fun EO EG N t b p h1 h2=>VU H R.S R.X R.L EO EG N t b p h1 h2,fun EO EG N t i v b hi h1 h2=>VX H R.S R.X R.L EO EG N t i v b hi h1 h2,
  fun EB EG N elt t iter sc p i v a acc hi ha h1 h2 hm hq RR post=>VZ H R.S R.L EB EG N elt t iter sc p i v a acc hi ha h1 h2 hm hq RR post,
  fun EB EG N elt t it sc cv cgs p hw u m gm hu=>xA H R.S R.L EB EG N hw gm hu⟩
theorem iD(H:iV G)(PO:wI G P):∀n,BL G P (run G P n)
 |0=>BN
 |n+1=>wL H PO (iD H PO n)
end
end
section
open PySem.Calls
noncomputable abbrev IEs.o(e:IE):IEs:=.cons e .nil
noncomputable abbrev IEs.t(e f:IE):IEs:=.cons e (.o f)
noncomputable abbrev ISs.o(e:IS):ISs:=.cons e .nil
noncomputable abbrev ISs.t(e f:IS):ISs:=.cons e (.o f)
noncomputable abbrev Ps.p(l a b:Nat):Pos:=⟨l,a,l,b⟩
open Ps
noncomputable abbrev IE.l(i l a b:Nat):IE:=.loc i (p l a b)
noncomputable abbrev IE.g(i l a b:Nat):IE:=.glb i (p l a b)
noncomputable abbrev IE.s(x:Str)(l a b:Nat):IE:=.cst (.str x) 0 (p l a b)
noncomputable abbrev IE.i(k:Int)(l a b:Nat):IE:=.cst (.int k) 0 (p l a b)
noncomputable abbrev IE.a(i n l a b c:Nat):IE:=.attr (.l i l a b) n (p l a c)
noncomputable abbrev IS.m(o:IE)(n:Nat)(q:Pos)(es:IEs)(r:Pos):IS:=.expr (.meth o n q es r) r
noncomputable def sP:Fn:=⟨6,[.top 73,.int 0,.int 0],["self","code","value","errorcode","level","ret"],[0],
 (.cons (.m (.g 0 17 8 17) 9 (p 17 8 26) (.t (.l 0 17 27 31) (.l 2 17 33 38)) (p 17 8 39))
  (.cons (.asg (.attr (.l 0 18 8 12) 8 (p 18 8 17)) (.l 1 18 20 24) (p 18 8 24))
  (.cons (.asg (.attr (.l 0 19 8 12) 7 (p 19 8 18)) (.l 2 19 21 26) (p 19 8 26))
  (.cons (.asg (.attr (.l 0 20 8 12) 6 (p 20 8 22)) (.l 3 20 25 34) (p 20 8 34))
  (.cons (.asg (.attr (.l 0 21 8 12) 5 (p 21 8 18)) (.l 4 21 21 26) (p 21 8 26))
  (.cons (.asg (.attr (.l 0 22 8 12) 4 (p 22 8 16)) (.l 5 22 19 22) (p 22 8 22))
  (.cons (.asg (.attr (.l 0 23 8 12) 3 (p 23 8 17)) (.s "" 23 20 22) (p 23 8 22))
  (.cons (.asg (.attr (.l 0 24 8 12) 2 (p 24 8 21)) (.cst (.bool false) 0 (p 24 24 29)) (p 24 8 29))
  (.t (.asg (.attr (.l 0 25 8 12) 1 (p 25 8 17)) (.i 0 25 20 21) (p 25 8 21))
  (.asg (.attr (.l 0 26 8 12) 0 (p 26 8 18)) (.list .nil (p 26 21 23)) (p 26 8 23))))))))))),false⟩
noncomputable def yM:Fn:=⟨5,[.none,.bool false,.str ""],["self","script","back","is_proc","label"],[],
 (.cons (.asg (.attr (.l 0 30 8 12) 13 (p 30 8 19)) (.l 1 30 22 28) (p 30 8 28))
  (.cons (.asg (.attr (.l 0 31 8 12) 12 (p 31 8 17)) (.l 2 31 20 24) (p 31 8 24))
  (.t (.asg (.attr (.l 0 32 8 12) 11 (p 32 8 20)) (.l 3 32 23 30) (p 32 8 30))
  (.asg (.attr (.l 0 33 8 12) 10 (p 33 8 18)) (.l 4 33 21 26) (p 33 8 26))))),false⟩
noncomputable def vX:Fn:=⟨3,[],["self","kind","words"],[],
 (.t (.asg (.attr (.l 0 37 8 12) 15 (p 37 8 17)) (.l 1 37 20 24) (p 37 8 24))
  (.asg (.attr (.l 0 38 8 12) 14 (p 38 8 18)) (.l 2 38 21 26) (p 38 8 26))),false⟩
noncomputable def TU:Fn:=⟨2,[.top 131],["text","errorcode"],[1],
 (.o (.ret (.call (.g 1 40 11 17) (.cons (.i 1 40 18 19) (.t (.l 0 40 21 25) (.l 1 40 27 36))) (p 40 11 37)) (p 40 4 37))),false⟩
noncomputable def aBh:Fn:=⟨2,[],["text","most"],[2],
 (.t (.ifs (.cmp (.call (.g 2 42 7 10) (.o (.l 0 42 11 15)) (p 42 7 16)) .Gt (.l 1 42 19 23) (p 42 7 23)) (.o (.ret (.bin (.sub (.l 0 43 15 19) (.sTo (.l 1 43 21 25) (p 43 20 25)) (p 43 15 26)) .Add (.s "..." 43 29 34) (p 43 15 34)) (p 43 8 34))) .nil ⟨42,4,43,34⟩)
  (.ret (.l 0 44 11 15) (p 44 4 15))),false⟩
noncomputable def YL:Fn:=⟨2,[],["raised","source"],[3],
 (.cons (.ifs (.cmp (.a 0 8 46 7 13 18) .NotEq (.i 1 46 22 23) (p 46 7 23)) (.o (.retN (p 47 8 14))) .nil ⟨46,4,47,14⟩)
  (.t (.ifs (.cmp (.a 0 3 48 7 13 18) .Eq (.s "" 48 22 24) (p 48 7 24)) (.o (.asg (.attr (.l 0 49 8 14) 3 (p 49 8 19)) (.bin (.bin (.bin (.a 0 7 49 22 28 34) .Add (.s "\n    while executing\n\"" 49 37 63) (p 49 22 63)) .Add (.call (.g 3 49 66 69) (.t (.l 1 49 70 76) (.i 150 49 78 81)) (p 49 66 82)) (p 49 22 82)) .Add (.s "\"" 49 85 88) (p 49 22 88)) (p 49 8 88))) (.o (.ifs (.a 0 2 50 9 15 24) (.o (.asg (.attr (.l 0 51 8 14) 3 (p 51 8 19)) (.bin (.bin (.bin (.a 0 3 51 22 28 33) .Add (.s "\n    invoked from within\n\"" 51 36 66) (p 51 22 66)) .Add (.call (.g 3 51 69 72) (.t (.l 1 51 73 79) (.i 150 51 81 84)) (p 51 69 85)) (p 51 22 85)) .Add (.s "\"" 51 88 91) (p 51 22 91)) (p 51 8 91))) .nil ⟨50,4,51,91⟩)) ⟨48,4,51,91⟩)
  (.asg (.attr (.l 0 52 4 10) 2 (p 52 4 19)) (.cst (.bool true) 0 (p 52 22 26)) (p 52 4 26)))),false⟩
noncomputable def DM:Fn:=⟨2,[],["raised","text"],[],
 (.cons (.ifs (.cmp (.a 0 8 54 7 13 18) .NotEq (.i 1 54 22 23) (p 54 7 23)) (.o (.retN (p 55 8 14))) .nil ⟨54,4,55,14⟩)
  (.cons (.ifs (.cmp (.a 0 3 56 7 13 18) .Eq (.s "" 56 22 24) (p 56 7 24)) (.o (.asg (.attr (.l 0 57 8 14) 3 (p 57 8 19)) (.a 0 7 57 22 28 34) (p 57 8 34))) .nil ⟨56,4,57,34⟩)
  (.t (.asg (.attr (.l 0 58 4 10) 3 (p 58 4 15)) (.bin (.bin (.a 0 3 58 18 24 29) .Add (.s "\n    " 58 32 40) (p 58 18 40)) .Add (.l 1 58 43 47) (p 58 18 47)) (p 58 4 47))
  (.asg (.attr (.l 0 59 4 10) 2 (p 59 4 19)) (.cst (.bool true) 0 (p 59 22 26)) (p 59 4 26))))),false⟩
noncomputable def vW:Fn:=⟨1,[],["raised"],[],
 (.cons (.ifs (.cmp (.a 0 4 61 7 13 17) .Eq (.i 0 61 21 22) (p 61 7 22)) (.o (.ret (.a 0 7 62 15 21 27) (p 62 8 27))) .nil ⟨61,4,62,27⟩)
  (.cons (.asg (.attr (.l 0 63 4 10) 8 (p 63 4 15)) (.a 0 4 63 18 24 28) (p 63 4 28))
  (.cons (.asg (.attr (.l 0 64 4 10) 5 (p 64 4 16)) (.ite (.cmp (.a 0 4 64 24 30 34) .Eq (.i 2 64 38 39) (p 64 24 39)) (.i 1 64 19 20) (.i 0 64 45 46) (p 64 19 46)) (p 64 4 46))
  (.cons (.asg (.attr (.l 0 65 4 10) 4 (p 65 4 14)) (.i 0 65 17 18) (p 65 4 18))
  (.t (.asg (.attr (.l 0 66 4 10) 2 (p 66 4 19)) (.cst (.bool true) 0 (p 66 22 26)) (p 66 4 26))
  (.raise (.l 0 67 10 16) (p 67 4 16))))))),false⟩
noncomputable def bK:Fn:=⟨2,[],["nest","raised","fault","word"],[4,3,5,6,7],
 (.cons (.ifs (.cmp (.a 1 8 69 7 13 18) .Eq (.i 2 69 22 23) (p 69 7 23)) (.t (.ifs (.cmp (.a 1 5 70 11 17 23) .Gt (.i 1 70 26 27) (p 70 11 27)) (.t (.asg (.attr (.l 1 71 12 18) 5 (p 71 12 24)) (.bin (.a 1 5 71 27 33 39) .Sub (.i 1 71 42 43) (p 71 27 43)) (p 71 12 43))
  (.raise (.l 1 72 18 24) (p 72 12 24))) .nil ⟨70,8,72,24⟩)
  (.ret (.call (.g 7 73 15 25) (.o (.l 1 73 26 32)) (p 73 15 33)) (p 73 8 33))) .nil ⟨69,4,73,33⟩)
  (.cons (.asg (.name 2 (p 74 4 9)) (.l 1 74 12 18) (p 74 4 18))
  (.cons (.ifs (.cmp (.a 1 8 75 7 13 18) .In (.tup (.t (.i 3 75 23 24) (.i 4 75 26 27)) 0 (p 75 22 28)) (p 75 7 28)) (.cons (.asg (.name 3 (p 76 8 12)) (.ite (.cmp (.a 1 8 76 26 32 37) .Eq (.i 3 76 41 42) (p 76 26 42)) (.s "break" 76 15 22) (.s "continue" 76 48 58) (p 76 15 58)) (p 76 8 58))
  (.t (.asg (.name 2 (p 77 8 13)) (.call (.g 6 77 16 21) (.t (.bin (.bin (.s "invoked \"" 77 22 33) .Add (.l 3 77 36 40) (p 77 22 40)) .Add (.s "\" outside of a loop" 77 43 64) (p 77 22 64)) (.tup (.cons (.s "TCL" 77 67 72) (.t (.s "RESULT" 77 74 82) (.s "UNEXPECTED" 77 84 96))) 0 (p 77 66 97))) (p 77 16 98)) (p 77 8 98))
  (.asg (.attr (.l 2 78 8 13) 1 (p 78 8 18)) (.a 1 1 78 21 27 32) (p 78 8 32)))) .nil ⟨75,4,78,32⟩)
  (.cons (.expr (.call (.g 4 79 4 12) (.t (.l 2 79 13 18) (.bin (.bin (.bin (.bin (.s "(procedure \"" 79 20 34) .Add (.call (.g 3 79 37 40) (.t (.a 0 10 79 41 45 51) (.i 60 79 53 55)) (p 79 37 56)) (p 79 20 56)) .Add (.s "\" line " 79 59 68) (p 79 20 68)) .Add (.call (.g 5 79 71 74) (.o (.a 2 1 79 75 80 85)) (p 79 71 86)) (p 79 20 86)) .Add (.s ")" 79 89 92) (p 79 20 92))) (p 79 4 93)) (p 79 4 93))
  (.t (.asg (.attr (.l 2 80 4 9) 1 (p 80 4 14)) (.i 0 80 17 18) (p 80 4 18))
  (.raise (.l 2 81 10 15) (p 81 4 15))))))),false⟩
noncomputable def vT:Fn:=⟨1,[],["raised","code"],[5],
 (.cons (.asg (.name 1 (p 94 4 8)) (.a 0 8 94 11 17 22) (p 94 4 22))
  (.cons (.ifs (.bool .And (.t (.cmp (.l 1 95 7 11) .Eq (.i 2 95 15 16) (p 95 7 16)) (.cmp (.a 0 5 95 21 27 33) .LtE (.i 1 95 37 38) (p 95 21 38))) (p 95 7 38)) (.o (.asg (.name 1 (p 96 8 12)) (.a 0 4 96 15 21 25) (p 96 8 25))) .nil ⟨95,4,96,25⟩)
  (.cons (.ifs (.cmp (.l 1 97 7 11) .In (.tup (.t (.i 0 97 16 17) (.i 1 97 19 20)) 0 (p 97 15 21)) (p 97 7 21)) (.o (.ret (.tup (.t (.l 1 98 16 20) (.a 0 7 98 22 28 34)) 0 (p 98 15 35)) (p 98 8 35))) .nil ⟨97,4,98,35⟩)
  (.cons (.ifs (.cmp (.l 1 99 7 11) .Eq (.i 3 99 15 16) (p 99 7 16)) (.o (.ret (.tup (.t (.i 1 100 16 17) (.s "invoked \"break\" outside of a loop" 100 19 54)) 0 (p 100 15 55)) (p 100 8 55))) .nil ⟨99,4,100,55⟩)
  (.t (.ifs (.cmp (.l 1 101 7 11) .Eq (.i 4 101 15 16) (p 101 7 16)) (.o (.ret (.tup (.t (.i 1 102 16 17) (.s "invoked \"continue\" outside of a loop" 102 19 57)) 0 (p 102 15 58)) (p 102 8 58))) .nil ⟨101,4,102,58⟩)
  (.ret (.tup (.t (.i 1 103 12 13) (.bin (.s "command returned bad code: " 103 15 44) .Add (.call (.g 5 103 47 50) (.o (.l 1 103 51 55)) (p 103 47 56)) (p 103 15 56))) 0 (p 103 11 57)) (p 103 4 57))))))),false⟩
noncomputable def yO:Fn:=⟨3,[.int 40,.none],["self","limit","fuel"],[],
 (.cons (.asg (.attr (.l 0 107 8 12) 24 (p 107 8 18)) (.dict .nil .nil (p 107 21 23)) (p 107 8 23))
  (.cons (.asg (.attr (.l 0 108 8 12) 23 (p 108 8 19)) (.dict .nil .nil (p 108 22 24)) (p 108 8 24))
  (.cons (.asg (.attr (.l 0 109 8 12) 22 (p 109 8 18)) (.l 1 109 21 26) (p 109 8 26))
  (.cons (.asg (.attr (.l 0 110 8 12) 21 (p 110 8 17)) (.l 2 110 20 24) (p 110 8 24))
  (.cons (.asg (.attr (.l 0 111 8 12) 20 (p 111 8 18)) (.i 0 111 21 22) (p 111 8 22))
  (.cons (.asg (.attr (.l 0 112 8 12) 19 (p 112 8 18)) (.i 0 112 21 22) (p 112 8 22))
  (.cons (.asg (.attr (.l 0 113 8 12) 18 (p 113 8 18)) (.i 0 113 21 22) (p 113 8 22))
  (.t (.asg (.attr (.l 0 114 8 12) 17 (p 114 8 18)) (.cst .none 0 (p 114 21 25)) (p 114 8 25))
  (.asg (.attr (.l 0 115 8 12) 16 (p 115 8 22)) (.cst .none 0 (p 115 25 29)) (p 115 8 29)))))))))),false⟩
noncomputable def yN:Fn:=⟨2,[],["self","name"],[8],
 (.t (.ifs (.cmp (.l 1 118 11 15) .NotIn (.a 0 24 118 23 27 33) (p 118 11 33)) (.o (.raise (.call (.g 8 119 18 25) (.o (.bin (.s "the host lacks the tool " 119 26 52) .Add (.l 1 119 55 59) (p 119 26 59))) (p 119 18 60)) (p 119 12 60))) .nil ⟨118,8,119,60⟩)
  (.ret (.sub (.a 0 24 120 15 19 25) (.l 1 120 26 30) (p 120 15 31)) (p 120 8 31))),false⟩
noncomputable def vZ:Fn:=⟨1,[],["self"],[9],
 (.t (.aug (.l 0 123 8 12) 19 (p 123 8 18) .Add (.i 1 123 22 23) (p 123 8 23))
  (.ifs (.bool .And (.t (.cmp (.a 0 21 124 11 15 20) .IsNot (.cst .none 0 (p 124 28 32)) (p 124 11 32)) (.cmp (.a 0 19 124 37 41 47) .Gt (.a 0 21 124 50 54 59) (p 124 37 59))) (p 124 11 59)) (.o (.raise (.call (.g 9 125 18 27) (.o (.s "the script spent all its fuel" 125 28 59)) (p 125 18 60)) (p 125 12 60))) .nil ⟨124,8,125,60⟩)),false⟩
noncomputable def vY:Fn:=⟨1,[],["self"],[],
 (.o (.ret (.s "::" 128 15 19) (p 128 8 19))),false⟩
noncomputable def dK:Fn:=⟨2,[],["self","script","runner"],[6],
 (.cons (.ifs (.cmp (.a 0 20 131 11 15 21) .GtE (.a 0 22 131 25 29 35) (p 131 11 35)) (.o (.raise (.call (.g 6 132 18 23) (.t (.s "too many nested evaluations (infinite loop?)" 132 24 70) (.tup (.cons (.s "TCL" 132 73 78) (.t (.s "LIMIT" 132 80 87) (.s "STACK" 132 89 96))) 0 (p 132 72 97))) (p 132 18 98)) (p 132 12 98))) .nil ⟨131,8,132,98⟩)
  (.cons (.asg (.name 2 (p 133 8 14)) (.meth (.l 0 133 17 21) 25 (p 133 17 26) (.o (.s "run" 133 27 32)) (p 133 17 33)) (p 133 8 33))
  (.t (.aug (.l 0 134 8 12) 20 (p 134 8 18) .Add (.i 1 134 22 23) (p 134 8 23))
  (.tryF (.o (.ret (.call (.l 2 136 19 25) (.t (.l 0 136 26 30) (.l 1 136 32 38)) (p 136 19 39)) (p 136 12 39))) (.o (.aug (.l 0 138 12 16) 20 (p 138 12 22) .Sub (.i 1 138 26 27) (p 138 12 27))) ⟨135,8,138,27⟩)))),false⟩
noncomputable def lA:Fn:=⟨2,[],["self","script"],[],
 (.o (.ret (.meth (.l 0 141 15 19) 26 (p 141 15 23) (.o (.l 1 141 24 30)) (p 141 15 31)) (p 141 8 31))),false⟩
noncomputable def bV:Fn:=⟨2,[],["self","words","got"],[10,11,6,12],
 (.cons (.ifs (.not (.l 1 144 15 20) (p 144 11 20)) (.o (.ret (.s "" 145 19 21) (p 145 12 21))) .nil ⟨144,8,145,21⟩)
  (.cons (.asg (.name 2 (p 146 8 11)) (.meth (.l 0 146 14 18) 28 (p 146 14 24) (.o (.l 1 146 25 30)) (p 146 14 31)) (p 146 8 31))
  (.cons (.ifs (.call (.g 10 147 11 21) (.t (.l 2 147 22 25) (.g 12 147 27 31)) (p 147 11 32)) (.o (.ret (.meth (.l 0 148 19 23) 27 (p 148 19 30) (.o (.l 2 148 31 34)) (p 148 19 35)) (p 148 12 35))) .nil ⟨147,8,148,35⟩)
  (.t (.ifs (.call (.g 10 149 11 21) (.t (.l 2 149 22 25) (.g 11 149 27 32)) (p 149 11 33)) (.o (.raise (.call (.g 6 150 18 23) (.t (.s "cannot yield: C stack busy" 150 24 52) (.tup (.cons (.s "TCL" 150 55 60) (.t (.s "COROUTINE" 150 62 73) (.s "CANT_YIELD" 150 75 87))) 0 (p 150 54 88))) (p 150 18 89)) (p 150 12 89))) .nil ⟨149,8,150,89⟩)
  (.ret (.l 2 151 15 18) (p 151 8 18)))))),false⟩
noncomputable def aW:Fn:=⟨2,[],["self","nest","raised"],[1,13],
 (.o (.tryX (.o (.ret (.meth (.l 0 155 19 23) 26 (p 155 19 27) (.o (.a 1 13 155 28 32 39)) (p 155 19 40)) (p 155 12 40))) (.g 1 156 15 21) 2 (.t (.ifs (.a 1 11 157 15 19 27) (.o (.ret (.call (.g 13 158 23 31) (.t (.l 1 158 32 36) (.l 2 158 38 44)) (p 158 23 45)) (p 158 16 45))) .nil ⟨157,12,158,45⟩)
  (.raise (.l 2 159 18 24) (p 159 12 24))) ⟨156,8,159,24⟩ (.o (.m (.l 0 161 12 16) 29 (p 161 12 22) (.o (.l 1 161 23 27)) (p 161 12 28))) ⟨154,8,161,28⟩)),false⟩
noncomputable def wA:Fn:=⟨2,[],["self","nest"],[],
 (.o (.ifs (.cmp (.a 1 12 164 11 15 20) .IsNot (.cst .none 0 (p 164 28 32)) (p 164 11 32)) (.o (.asg (.attr (.l 0 165 12 16) 17 (p 165 12 22)) (.a 1 12 165 25 29 34) (p 165 12 34))) .nil ⟨164,8,165,34⟩)),false⟩
noncomputable def fF:Fn:=⟨2,[],["self","script","raised"],[1,14],
 (.o (.tryX (.o (.ret (.tup (.t (.i 0 169 20 21) (.meth (.l 0 169 23 27) 30 (p 169 23 38) (.o (.l 1 169 39 45)) (p 169 23 46))) 0 (p 169 19 47)) (p 169 12 47))) (.g 1 170 15 21) 2 (.o (.ret (.call (.g 14 171 19 29) (.o (.l 2 171 30 36)) (p 171 19 37)) (p 171 12 37))) ⟨170,8,171,37⟩ .nil ⟨168,8,171,37⟩)),false⟩
noncomputable def aBi:Fn:=⟨4,[],["host","words","action","data"],[],
 (.t (.ifs (.cmp (.l 3 191 7 11) .Is (.cst .none 0 (p 191 15 19)) (p 191 7 19)) (.o (.ret (.call (.l 2 192 15 21) (.t (.l 0 192 22 26) (.l 1 192 28 33)) (p 192 15 34)) (p 192 8 34))) .nil ⟨191,4,192,34⟩)
  (.ret (.call (.l 2 193 11 17) (.cons (.l 0 193 18 22) (.t (.l 1 193 24 29) (.l 3 193 31 35))) (p 193 11 36)) (p 193 4 36))),false⟩
noncomputable def mA:Fn:=⟨3,[.int 40,.none],["self","limit","fuel"],[15],
 (.cons (.m (.g 15 197 8 12) 9 (p 197 8 21) (.cons (.l 0 197 22 26) (.t (.l 1 197 28 33) (.l 2 197 35 39))) (p 197 8 40))
  (.cons (.asg (.attr (.l 0 198 8 12) 33 (p 198 8 17)) (.dict .nil .nil (p 198 20 22)) (p 198 8 22))
  (.t (.asg (.attr (.l 0 199 8 12) 32 (p 199 8 21)) (.dict .nil .nil (p 199 24 26)) (p 199 8 26))
  (.asg (.attr (.l 0 200 8 12) 31 (p 200 8 19)) (.dict .nil .nil (p 200 22 24)) (p 200 8 24))))),false⟩
noncomputable def oG:Fn:=⟨4,[.none],["self","name","action","data"],[],
 (.t (.m (.l 0 235 8 12) 34 (p 235 8 19) (.o (.l 1 235 20 24)) (p 235 8 25))
  (.asg (.sub (.a 0 32 236 8 12 21) (.l 1 236 22 26) (p 236 8 27)) (.tup (.t (.l 2 236 31 37) (.l 3 236 39 43)) 0 (p 236 30 44)) (p 236 8 44))),false⟩
noncomputable def kG:Fn:=⟨2,[],["self","name"],[],
 (.cons (.m (.a 0 32 239 8 12 21) 35 (p 239 8 25) (.t (.l 1 239 26 30) (.cst .none 0 (p 239 32 36))) (p 239 8 37))
  (.t (.m (.a 0 31 240 8 12 19) 35 (p 240 8 23) (.t (.l 1 240 24 28) (.cst .none 0 (p 240 30 34))) (p 240 8 35))
  (.ifs (.cmp (.l 1 241 11 15) .In (.a 0 23 241 19 23 30) (p 241 11 30)) (.o (.aug (.l 0 242 12 16) 18 (p 242 12 22) .Add (.i 1 242 26 27) (p 242 12 27))) .nil ⟨241,8,242,27⟩))),false⟩
noncomputable def aI:Fn:=⟨2,[],["self","words","action","data"],[16,6],
 (.cons (.ifs (.cmp (.sub (.l 1 251 11 16) (.i 0 251 17 18) (p 251 11 19)) .NotIn (.a 0 32 251 27 31 40) (p 251 11 40)) (.o (.raise (.call (.g 6 252 18 23) (.t (.bin (.bin (.s "invalid command name \"" 252 24 48) .Add (.sub (.l 1 252 51 56) (.i 0 252 57 58) (p 252 51 59)) (p 252 24 59)) .Add (.s "\"" 252 62 65) (p 252 24 65)) (.tup (.cons (.s "TCL" 252 68 73) (.cons (.s "LOOKUP" 252 75 83) (.t (.s "COMMAND" 252 85 94) (.sub (.l 1 252 96 101) (.i 0 252 102 103) (p 252 96 104))))) 0 (p 252 67 105))) (p 252 18 106)) (p 252 12 106))) .nil ⟨251,8,252,106⟩)
  (.cons (.m (.l 0 253 8 12) 36 (p 253 8 18) .nil (p 253 8 20))
  (.t (.asg (.tup [(2,(p 254 8 14)),(3,(p 254 16 20))] 0 (p 254 8 20)) (.sub (.a 0 32 254 23 27 36) (.sub (.l 1 254 37 42) (.i 0 254 43 44) (p 254 37 45)) (p 254 23 46)) (p 254 8 46))
  (.ret (.call (.g 16 255 15 18) (.cons (.l 0 255 19 23) (.cons (.l 1 255 25 30) (.t (.l 2 255 32 38) (.l 3 255 40 44)))) (p 255 15 45)) (p 255 8 45))))),false⟩
noncomputable def DP:Fn:=⟨3,[],["self","code","nest"],[2],
 (.cons (.asg (.attr (.l 0 260 8 12) 8 (p 260 8 17)) (.l 1 260 20 24) (p 260 8 24))
  (.cons (.asg (.attr (.l 0 261 8 12) 43 (p 261 8 17)) (.l 2 261 20 24) (p 261 8 24))
  (.cons (.asg (.attr (.l 0 262 8 12) 42 (p 262 8 15)) (.i 0 262 18 19) (p 262 8 19))
  (.cons (.asg (.attr (.l 0 263 8 12) 41 (p 263 8 18)) (.list .nil (p 263 21 23)) (p 263 8 23))
  (.cons (.asg (.attr (.l 0 264 8 12) 39 (p 264 8 18)) (.bin (.list (.o (.cst .none 0 (p 264 22 26))) (p 264 21 27)) .Mult (.call (.g 2 264 30 33) (.o (.a 1 40 264 34 38 44)) (p 264 30 45)) (p 264 21 45)) (p 264 8 45))
  (.t (.asg (.attr (.l 0 265 8 12) 38 (p 265 8 17)) (.dict .nil .nil (p 265 20 22)) (p 265 8 22))
  (.asg (.attr (.l 0 266 8 12) 37 (p 266 8 19)) (.tup (.cons (.i 0 266 23 24) (.t (.s "" 266 26 28) (.cst .none 0 (p 266 30 34)))) 0 (p 266 22 35)) (p 266 8 35)))))))),false⟩
noncomputable def TN:Fn:=⟨3,[],["ranges","place","code","held","kind","first","behind","to_break","to_continue","depth"],[],
 (.t (.fors (.name 3 (p 268 8 12)) (.l 0 268 16 22) (.t (.asg (.tup [(4,(p 269 8 12)),(5,(p 269 14 19)),(6,(p 269 21 27)),(7,(p 269 29 37)),(8,(p 269 39 50)),(9,(p 269 52 57))] 0 (p 269 8 57)) (.l 3 269 60 64) (p 269 8 64))
  (.ifs (.bool .And (.t (.cmp (.l 5 270 11 16) .LtE (.l 1 270 20 25) (p 270 11 25)) (.cmp (.l 1 270 30 35) .Lt (.l 6 270 38 44) (p 270 30 44))) (p 270 11 44)) (.o (.ifs (.bool .Or (.cons (.cmp (.l 4 271 15 19) .Eq (.s "catch" 271 23 30) (p 271 15 30)) (.t (.cmp (.l 2 271 34 38) .Eq (.i 3 271 42 43) (p 271 34 43)) (.bool .And (.t (.cmp (.l 2 271 48 52) .Eq (.i 4 271 56 57) (p 271 48 57)) (.cmp (.l 8 271 62 73) .IsNot (.cst .none 0 (p 271 81 85)) (p 271 62 85))) (p 271 48 85)))) (p 271 15 86)) (.o (.ret (.l 3 272 23 27) (p 272 16 27))) .nil ⟨271,12,272,27⟩)) .nil ⟨270,8,272,27⟩)) ⟨268,4,272,27⟩)
  (.ret (.cst .none 0 (p 273 11 15)) (p 273 4 15))),false⟩
noncomputable def sM:Fn:=⟨2,[],["act","raised","place","first","behind","text"],[17],
 (.t (.asg (.name 2 (p 275 4 9)) (.bin (.a 0 42 275 12 15 18) .Sub (.i 1 275 21 22) (p 275 12 22)) (p 275 4 22))
  (.fors (.tup [(3,(p 276 8 13)),(4,(p 276 15 21)),(5,(p 276 23 27))] 0 (p 276 8 27)) (.attr (.a 0 8 276 31 34 39) 44 (p 276 31 47)) (.o (.ifs (.bool .And (.t (.cmp (.l 3 277 11 16) .LtE (.l 2 277 20 25) (p 277 11 25)) (.cmp (.l 2 277 30 35) .Lt (.l 4 277 38 44) (p 277 30 44))) (p 277 11 44)) (.t (.expr (.call (.g 17 278 12 16) (.t (.l 1 278 17 23) (.l 5 278 25 29)) (p 278 12 30)) (p 278 12 30))
  (.retN (p 279 12 18))) .nil ⟨277,8,279,18⟩)) ⟨276,4,279,18⟩)),false⟩
noncomputable def pA:Fn:=⟨4,[],["self","host","ops","maker"],[],
 (.cons (.asg (.attr (.l 0 283 8 12) 52 (p 283 8 17)) (.l 1 283 20 24) (p 283 8 24))
  (.cons (.asg (.attr (.l 0 284 8 12) 51 (p 284 8 16)) (.l 2 284 19 22) (p 284 8 22))
  (.cons (.asg (.attr (.l 0 285 8 12) 50 (p 285 8 18)) (.l 3 285 21 26) (p 285 8 26))
  (.cons (.asg (.attr (.l 0 286 8 12) 49 (p 286 8 17)) (.list .nil (p 286 20 22)) (p 286 8 22))
  (.cons (.asg (.attr (.l 0 287 8 12) 48 (p 287 8 17)) (.dict .nil .nil (p 287 20 22)) (p 287 8 22))
  (.cons (.asg (.attr (.l 0 288 8 12) 47 (p 288 8 18)) (.cst .none 0 (p 288 21 25)) (p 288 8 25))
  (.t (.asg (.attr (.l 0 289 8 12) 46 (p 289 8 18)) (.i 0 289 21 22) (p 289 8 22))
  (.asg (.attr (.l 0 290 8 12) 45 (p 290 8 17)) (.s "" 290 20 22) (p 290 8 22))))))))),false⟩
noncomputable def cZ:Fn:=⟨3,[],["self","text","is_slots","key","code"],[],
 (.cons (.asg (.name 3 (p 293 8 11)) (.tup (.cons (.l 1 293 15 19) (.t (.l 2 293 21 29) (.meth (.a 0 52 293 31 35 40) 54 (p 293 31 46) .nil (p 293 31 48)))) 0 (p 293 14 49)) (p 293 8 49))
  (.cons (.asg (.name 4 (p 294 8 12)) (.meth (.a 0 48 294 15 19 24) 53 (p 294 15 28) (.o (.l 3 294 29 32)) (p 294 15 33)) (p 294 8 33))
  (.t (.ifs (.bool .Or (.t (.cmp (.l 4 295 11 15) .Is (.cst .none 0 (p 295 19 23)) (p 295 11 23)) (.cmp (.a 4 18 295 27 31 37) .NotEq (.attr (.a 0 52 295 41 45 50) 18 (p 295 41 56)) (p 295 27 56))) (p 295 11 56)) (.t (.asg (.name 4 (p 296 12 16)) (.meth (.l 0 296 19 23) 50 (p 296 19 29) (.cons (.a 0 52 296 30 34 39) (.t (.l 1 296 41 45) (.l 2 296 47 55))) (p 296 19 56)) (p 296 12 56))
  (.asg (.sub (.a 0 48 297 12 16 21) (.l 3 297 22 25) (p 297 12 26)) (.l 4 297 29 33) (p 297 12 33))) .nil ⟨295,8,297,33⟩)
  (.ret (.l 4 298 15 19) (p 298 8 19))))),false⟩
noncomputable def oJ:Fn:=⟨2,[],["self","nest"],[18,2,6],
 (.t (.ifs (.cmp (.call (.g 2 301 11 14) (.o (.a 0 49 301 15 19 24)) (p 301 11 25)) .GtE (.attr (.a 0 52 301 29 33 38) 22 (p 301 29 44)) (p 301 11 44)) (.t (.m (.a 0 52 302 12 16 21) 29 (p 302 12 27) (.o (.l 1 302 28 32)) (p 302 12 33))
  (.raise (.call (.g 6 303 18 23) (.t (.s "too many nested evaluations (infinite loop?)" 303 24 70) (.tup (.cons (.s "TCL" 303 73 78) (.t (.s "LIMIT" 303 80 87) (.s "STACK" 303 89 96))) 0 (p 303 72 97))) (p 303 18 98)) (p 303 12 98))) .nil ⟨301,8,303,98⟩)
  (.m (.a 0 49 304 8 12 17) 55 (p 304 8 24) (.o (.call (.g 18 304 25 28) (.t (.meth (.l 0 304 29 33) 56 (p 304 29 42) (.t (.a 1 13 304 43 47 54) (.a 1 11 304 56 60 68)) (p 304 29 69)) (.l 1 304 71 75)) (p 304 25 76))) (p 304 8 77))),false⟩
noncomputable def pC:Fn:=⟨1,[],["self"],[],
 (.o (.m (.a 0 52 307 8 12 17) 29 (p 307 8 23) (.o (.attr (.meth (.a 0 49 307 24 28 33) 35 (p 307 24 37) .nil (p 307 24 39)) 43 (p 307 24 44))) (p 307 8 45))),false⟩
noncomputable def pB:Fn:=⟨2,[],["self","text"],[2],
 (.t (.asg (.attr (.l 0 310 8 12) 47 (p 310 8 18)) (.cst .none 0 (p 310 21 25)) (p 310 8 25))
  (.ifs (.cmp (.call (.g 2 311 11 14) (.o (.a 0 49 311 15 19 24)) (p 311 11 25)) .Gt (.i 0 311 28 29) (p 311 11 29)) (.o (.m (.attr (.sub (.a 0 49 312 12 16 21) (.neg 1 0 (p 312 23 24) (p 312 22 24)) (p 312 12 25)) 41 (p 312 12 31)) 55 (p 312 12 38) (.o (.l 1 312 39 43)) (p 312 12 44))) (.o (.asg (.attr (.l 0 314 12 16) 45 (p 314 12 21)) (.l 1 314 24 28) (p 314 12 28))) ⟨311,8,314,28⟩)),false⟩
noncomputable def oH:Fn:=⟨2,[],["self","text"],[],
 (.t (.m (.l 0 317 8 12) 58 (p 317 8 17) .nil (p 317 8 19))
  (.m (.l 0 318 8 12) 57 (p 318 8 17) (.o (.l 1 318 18 22)) (p 318 8 23))),false⟩
noncomputable def oY:Fn:=⟨2,[],["self","result","coro"],[10,12,11,6],
 (.o (.ifs (.call (.g 10 321 11 21) (.t (.l 1 321 22 28) (.g 12 321 30 34)) (p 321 11 35)) (.o (.m (.l 0 322 12 16) 59 (p 322 12 22) (.o (.l 1 322 23 29)) (p 322 12 30))) (.o (.ifs (.call (.g 10 323 13 23) (.t (.l 1 323 24 30) (.g 11 323 32 37)) (p 323 13 38)) (.cons (.asg (.attr (.l 0 324 12 16) 47 (p 324 12 22)) (.l 1 324 25 31) (p 324 12 31))
  (.t (.asg (.name 2 (p 325 12 16)) (.attr (.a 0 52 325 19 23 28) 16 (p 325 19 38)) (p 325 12 38))
  (.ifs (.bool .Or (.t (.cmp (.l 2 326 15 19) .Is (.cst .none 0 (p 326 23 27)) (p 326 15 27)) (.cmp (.attr (.a 2 60 326 31 35 43) 47 (p 326 31 49)) .Is (.cst .none 0 (p 326 53 57)) (p 326 31 57))) (p 326 15 57)) (.t (.asg (.attr (.l 0 327 16 20) 47 (p 327 16 26)) (.cst .none 0 (p 327 29 33)) (p 327 16 33))
  (.raise (.call (.g 6 328 22 27) (.t (.s "cannot yield: C stack busy" 328 28 56) (.tup (.cons (.s "TCL" 328 59 64) (.t (.s "COROUTINE" 328 66 77) (.s "CANT_YIELD" 328 79 91))) 0 (p 328 58 92))) (p 328 22 93)) (p 328 16 93))) .nil ⟨326,12,328,93⟩))) (.o (.m (.l 0 330 12 16) 57 (p 330 12 21) (.o (.l 1 330 22 28)) (p 330 12 29))) ⟨323,8,330,29⟩)) ⟨321,8,330,29⟩)),false⟩
noncomputable def bN:Fn:=⟨2,[],["self","raised","act","held","fault"],[2,13,1,19,20],
 (.t (.whl (.cmp (.call (.g 2 344 14 17) (.o (.a 0 49 344 18 22 27)) (p 344 14 28)) .Gt (.i 0 344 31 32) (p 344 14 32)) (.cons (.asg (.name 2 (p 345 12 15)) (.sub (.a 0 49 345 18 22 27) (.neg 1 0 (p 345 29 30) (p 345 28 30)) (p 345 18 31)) (p 345 12 31))
  (.cons (.expr (.call (.g 20 346 12 23) (.t (.l 2 346 24 27) (.l 1 346 29 35)) (p 346 12 36)) (p 346 12 36))
  (.cons (.asg (.name 3 (p 347 12 16)) (.call (.g 19 347 19 24) (.cons (.attr (.a 2 8 347 25 28 33) 62 (p 347 25 40)) (.t (.bin (.a 2 42 347 42 45 48) .Sub (.i 1 347 51 52) (p 347 42 52)) (.a 1 8 347 54 60 65))) (p 347 19 66)) (p 347 12 66))
  (.cons (.ifs (.cmp (.l 3 348 15 19) .IsNot (.cst .none 0 (p 348 27 31)) (p 348 15 31)) (.t (.m (.l 0 349 16 20) 61 (p 349 16 26) (.cons (.l 2 349 27 30) (.t (.l 3 349 32 36) (.l 1 349 38 44))) (p 349 16 45))
  (.retN (p 350 16 22))) .nil ⟨348,12,350,22⟩)
  (.t (.ifs (.attr (.a 2 43 351 15 18 23) 11 (p 351 15 31)) (.o (.tryX (.t (.m (.l 0 353 20 24) 29 (p 353 20 30) (.o (.call (.g 13 353 31 39) (.t (.a 2 43 353 40 43 48) (.l 1 353 50 56)) (p 353 31 57))) (p 353 20 58))
  (.retN (p 354 20 26))) (.g 1 355 23 29) 4 (.o (.asg (.name 1 (p 356 20 26)) (.l 4 356 29 34) (p 356 20 34))) ⟨355,16,356,34⟩ .nil ⟨352,16,356,34⟩)) .nil ⟨351,12,356,34⟩)
  (.m (.l 0 357 12 16) 58 (p 357 12 21) .nil (p 357 12 23))))))) ⟨344,8,357,23⟩)
  (.raise (.l 1 358 14 20) (p 358 8 20))),false⟩
noncomputable def oZ:Fn:=⟨1,[],["self","act","op","a","b","raised"],[1,8,2],
 (.cons (.asg (.name 1 (p 361 8 11)) (.sub (.a 0 49 361 14 18 23) (.neg 1 0 (p 361 25 26) (p 361 24 26)) (p 361 14 27)) (p 361 8 27))
  (.cons (.ifs (.cmp (.a 1 42 362 11 14 17) .GtE (.call (.g 2 362 21 24) (.o (.attr (.a 1 8 362 25 28 33) 64 (p 362 25 38))) (p 362 21 39)) (p 362 11 39)) (.t (.m (.l 0 363 12 16) 29 (p 363 12 22) (.o (.ite (.cmp (.call (.g 2 363 42 45) (.o (.a 1 41 363 46 49 55)) (p 363 42 56)) .Gt (.i 0 363 59 60) (p 363 42 60)) (.meth (.a 1 41 363 23 26 32) 35 (p 363 23 36) .nil (p 363 23 38)) (.s "" 363 66 68) (p 363 23 68))) (p 363 12 69))
  (.retN (p 364 12 18))) .nil ⟨362,8,364,18⟩)
  (.cons (.asg (.tup [(2,(p 365 8 10)),(3,(p 365 12 13)),(4,(p 365 15 16))] 0 (p 365 8 16)) (.sub (.attr (.a 1 8 365 19 22 27) 64 (p 365 19 32)) (.a 1 42 365 33 36 39) (p 365 19 40)) (p 365 8 40))
  (.cons (.aug (.l 1 366 8 11) 42 (p 366 8 14) .Add (.i 1 366 18 19) (p 366 8 19))
  (.cons (.aug (.l 0 367 8 12) 46 (p 367 8 18) .Add (.i 1 367 22 23) (p 367 8 23))
  (.t (.ifs (.cmp (.l 2 368 11 13) .NotIn (.a 0 51 368 21 25 29) (p 368 11 29)) (.o (.raise (.call (.g 8 369 18 25) (.o (.bin (.s "there is no op " 369 26 43) .Add (.l 2 369 46 48) (p 369 26 48))) (p 369 18 49)) (p 369 12 49))) .nil ⟨368,8,369,49⟩)
  (.tryX (.o (.expr (.call (.sub (.a 0 51 371 12 16 20) (.l 2 371 21 23) (p 371 12 24)) (.cons (.l 0 371 25 29) (.cons (.l 1 371 31 34) (.t (.l 3 371 36 37) (.l 4 371 39 40)))) (p 371 12 41)) (p 371 12 41))) (.g 1 372 15 21) 5 (.o (.m (.l 0 373 12 16) 63 (p 373 12 23) (.o (.l 5 373 24 30)) (p 373 12 31))) ⟨372,8,373,31⟩ .nil ⟨370,8,373,31⟩))))))),false⟩
noncomputable def bZ:Fn:=⟨1,[],["self","host"],[2,6],
 (.cons (.asg (.name 1 (p 376 8 12)) (.a 0 52 376 15 19 24) (p 376 8 24))
  (.cons (.aug (.l 1 377 8 12) 20 (p 377 8 18) .Add (.i 1 377 22 23) (p 377 8 23))
  (.cons (.tryF (.t (.ifs (.cmp (.a 1 20 379 15 19 25) .Gt (.a 1 22 379 28 32 38) (p 379 15 38)) (.o (.m (.l 0 380 16 20) 63 (p 380 16 27) (.o (.call (.g 6 380 28 33) (.t (.s "too many nested evaluations (infinite loop?)" 380 34 80) (.tup (.cons (.s "TCL" 380 83 88) (.t (.s "LIMIT" 380 90 97) (.s "STACK" 380 99 106))) 0 (p 380 82 107))) (p 380 28 108))) (p 380 16 109))) .nil ⟨379,12,380,109⟩)
  (.whl (.bool .And (.t (.cmp (.a 0 47 381 18 22 28) .Is (.cst .none 0 (p 381 32 36)) (p 381 18 36)) (.cmp (.call (.g 2 381 41 44) (.o (.a 0 49 381 45 49 54)) (p 381 41 55)) .Gt (.i 0 381 58 59) (p 381 41 59))) (p 381 18 59)) (.o (.m (.l 0 382 16 20) 65 (p 382 16 25) .nil (p 382 16 27))) ⟨381,12,382,27⟩)) (.o (.aug (.l 1 384 12 16) 20 (p 384 12 22) .Sub (.i 1 384 26 27) (p 384 12 27))) ⟨378,8,384,27⟩)
  (.t (.ifs (.cmp (.a 0 47 385 11 15 21) .IsNot (.cst .none 0 (p 385 29 33)) (p 385 11 33)) (.o (.ret (.tup (.t (.s "pause" 386 20 27) (.a 0 47 386 29 33 39)) 0 (p 386 19 40)) (p 386 12 40))) .nil ⟨385,8,386,40⟩)
  (.ret (.tup (.t (.s "done" 387 16 22) (.a 0 45 387 24 28 33)) 0 (p 387 15 34)) (p 387 8 34)))))),false⟩
noncomputable def iO:Fn:=⟨2,[],["machine","code","frame","acts","sort","text"],[8,18,12],
 (.cons (.asg (.name 2 (p 389 4 9)) (.attr (.a 0 52 389 12 19 24) 17 (p 389 12 30)) (p 389 4 30))
  (.cons (.asg (.name 3 (p 390 4 8)) (.a 0 49 390 11 18 23) (p 390 4 23))
  (.cons (.asg (.attr (.l 0 391 4 11) 49 (p 391 4 16)) (.list (.o (.call (.g 18 391 20 23) (.t (.l 1 391 24 28) (.call (.g 12 391 30 34) (.o (.s "" 391 35 37)) (p 391 30 38))) (p 391 20 39))) (p 391 19 40)) (p 391 4 40))
  (.cons (.tryF (.o (.asg (.tup [(4,(p 393 8 12)),(5,(p 393 14 18))] 0 (p 393 8 18)) (.meth (.l 0 393 21 28) 26 (p 393 21 32) .nil (p 393 21 34)) (p 393 8 34))) (.cons (.asg (.attr (.l 0 395 8 15) 49 (p 395 8 20)) (.l 3 395 23 27) (p 395 8 27))
  (.t (.asg (.attr (.l 0 396 8 15) 47 (p 396 8 21)) (.cst .none 0 (p 396 24 28)) (p 396 8 28))
  (.asg (.attr (.a 0 52 397 8 15 20) 17 (p 397 8 26)) (.l 2 397 29 34) (p 397 8 34)))) ⟨392,4,397,34⟩)
  (.t (.ifs (.cmp (.l 4 398 7 11) .NotEq (.s "done" 398 15 21) (p 398 7 21)) (.o (.raise (.call (.g 8 399 14 21) (.o (.s "a code that pauses is no coroutine's" 399 22 60)) (p 399 14 61)) (p 399 8 61))) .nil ⟨398,4,399,61⟩)
  (.ret (.l 5 400 11 15) (p 400 4 15))))))),false⟩
noncomputable def iA:Fn:=⟨3,[],["host","machine","script","raised"],[21,1,14],
 (.o (.tryX (.o (.ret (.tup (.t (.i 0 403 16 17) (.call (.g 21 403 19 27) (.t (.l 1 403 28 35) (.meth (.l 1 403 37 44) 50 (p 403 37 50) (.cons (.l 0 403 51 55) (.t (.l 2 403 57 63) (.cst (.bool false) 0 (p 403 65 70)))) (p 403 37 71))) (p 403 19 72))) 0 (p 403 15 73)) (p 403 8 73))) (.g 1 404 11 17) 3 (.o (.ret (.call (.g 14 405 15 25) (.o (.l 3 405 26 32)) (p 405 15 33)) (p 405 8 33))) ⟨404,4,405,33⟩ .nil ⟨402,4,405,33⟩)),false⟩
noncomputable def yP:Fn:=⟨6,[],["self","rows","ranges","names","sources","epoch"],[],
 (.cons (.asg (.attr (.l 0 410 8 12) 64 (p 410 8 17)) (.l 1 410 20 24) (p 410 8 24))
  (.cons (.asg (.attr (.l 0 411 8 12) 62 (p 411 8 19)) (.l 2 411 22 28) (p 411 8 28))
  (.cons (.asg (.attr (.l 0 412 8 12) 40 (p 412 8 18)) (.l 3 412 21 26) (p 412 8 26))
  (.t (.asg (.attr (.l 0 413 8 12) 44 (p 413 8 20)) (.l 4 413 23 30) (p 413 8 30))
  (.asg (.attr (.l 0 414 8 12) 18 (p 414 8 18)) (.l 5 414 21 26) (p 414 8 26)))))),false⟩
noncomputable def TO:Fn:=⟨2,[],["act","count","at","texts"],[2],
 (.cons (.asg (.name 2 (p 421 4 6)) (.bin (.call (.g 2 421 9 12) (.o (.a 0 41 421 13 16 22)) (p 421 9 23)) .Sub (.l 1 421 26 31) (p 421 9 31)) (p 421 4 31))
  (.cons (.asg (.name 3 (p 422 4 9)) (.sub (.a 0 41 422 12 15 21) (.sFrom (.l 2 422 22 24) (p 422 22 25)) (p 422 12 26)) (p 422 4 26))
  (.t (.asg (.attr (.l 0 423 4 7) 41 (p 423 4 13)) (.sub (.a 0 41 423 16 19 25) (.sTo (.l 2 423 27 29) (p 423 26 29)) (p 423 16 30)) (p 423 4 30))
  (.ret (.l 3 424 11 16) (p 424 4 16))))),false⟩
noncomputable def IP:Fn:=⟨4,[],["machine","act","a","b"],[],
 (.o (.m (.a 1 41 426 4 7 13) 55 (p 426 4 20) (.o (.l 2 426 21 22)) (p 426 4 23))),false⟩
noncomputable def NW:Fn:=⟨4,[],["machine","act","a","b"],[],
 (.o (.m (.a 1 41 428 4 7 13) 35 (p 428 4 17) .nil (p 428 4 19))),false⟩
noncomputable def bL:Fn:=⟨2,[],["machine","words"],[2],
 (.o (.ifs (.cmp (.call (.g 2 447 7 10) (.o (.l 1 447 11 16)) (p 447 7 17)) .Eq (.i 0 447 21 22) (p 447 7 22)) (.o (.m (.l 0 448 8 15) 57 (p 448 8 20) (.o (.s "" 448 21 23)) (p 448 8 24))) (.o (.m (.l 0 450 8 15) 66 (p 450 8 20) (.o (.meth (.a 0 52 450 21 28 33) 28 (p 450 21 39) (.o (.l 1 450 40 45)) (p 450 21 46))) (p 450 8 47))) ⟨447,4,450,47⟩)),false⟩
noncomputable def yL:Fn:=⟨4,[],["machine","act","a","b"],[22,23],
 (.o (.expr (.call (.g 22 452 4 8) (.t (.l 0 452 9 16) (.call (.g 23 452 18 23) (.t (.l 1 452 24 27) (.l 2 452 29 30)) (p 452 18 31))) (p 452 4 32)) (p 452 4 32))),false⟩
noncomputable def yJ:Fn:=⟨0,[],[],[24,25,26,27,28,29,30,31,32,33,34,35,36],
 (.o (.ret (.dict (.cons (.s "push" 472 12 18) (.cons (.s "pop" 472 29 34) (.cons (.s "load" 472 44 50) (.cons (.s "load_name" 472 61 72) (.cons (.s "load_element" 472 88 102) (.cons (.s "store" 472 121 128) (.cons (.s "store_name" 472 140 152) (.cons (.s "store_element" 472 169 184) (.cons (.s "join" 472 204 210) (.cons (.s "invoke" 472 221 229) (.cons (.s "start" 472 242 249) (.t (.s "jump" 472 261 267) (.s "fail" 472 278 284))))))))))))) (.cons (.g 36 472 20 27) (.cons (.g 35 472 36 42) (.cons (.g 34 472 52 59) (.cons (.g 33 472 74 86) (.cons (.g 32 472 104 119) (.cons (.g 31 472 130 138) (.cons (.g 30 472 154 167) (.cons (.g 29 472 186 202) (.cons (.g 28 472 212 219) (.cons (.g 27 472 231 240) (.cons (.g 26 472 251 259) (.t (.g 25 472 269 276) (.g 24 472 286 293))))))))))))) (p 472 11 294)) (p 472 4 294))),false⟩
noncomputable def eR:Fn:=⟨2,[],["script","place"],[2],
 (.o (.ret (.ite (.cmp (.l 1 475 28 33) .Lt (.call (.g 2 475 36 39) (.o (.l 0 475 40 46)) (p 475 36 47)) (p 475 28 47)) (.sub (.l 0 475 11 17) (.l 1 475 18 23) (p 475 11 24)) (.i 0 475 53 54) (p 475 11 54)) (p 475 4 54))),false⟩
noncomputable def bY:Fn:=⟨4,[],["script","first","is_narrow","round_two","scripts","k","commands","c","digit","number","verb"],[37,38],
 (.cons (.asg (.name 4 (p 477 4 11)) (.list .nil (p 477 14 16)) (p 477 4 16))
  (.t (.fors (.name 5 (p 478 8 9)) (.call (.g 37 478 13 18) (.o (.i 5 478 19 20)) (p 478 13 21)) (.cons (.asg (.name 6 (p 479 8 16)) (.list .nil (p 479 19 21)) (p 479 8 21))
  (.t (.fors (.name 7 (p 480 12 13)) (.call (.g 37 480 17 22) (.o (.i 2 480 23 24)) (p 480 17 25)) (.cons (.asg (.name 8 (p 481 12 17)) (.bin (.call (.g 38 481 20 30) (.t (.l 0 481 31 37) (.bin (.bin (.l 1 481 39 44) .Add (.bin (.i 2 481 47 48) .Mult (.l 5 481 51 52) (p 481 47 52)) (p 481 39 52)) .Add (.l 7 481 55 56) (p 481 39 56))) (p 481 20 57)) .Add (.bin (.l 3 481 60 69) .Mult (.sub (.list (.cons (.i 4 481 73 74) (.cons (.i 2 481 76 77) (.cons (.i 5 481 79 80) (.t (.i 1 481 82 83) (.i 0 481 85 86))))) (p 481 72 87)) (.l 5 481 88 89) (p 481 72 90)) (p 481 60 90)) (p 481 20 90)) (p 481 12 90))
  (.cons (.asg (.name 9 (p 482 12 18)) (.bin (.l 8 482 21 26) .FloorDiv (.i 8 482 30 31) (p 482 21 31)) (p 482 12 31))
  (.cons (.asg (.name 10 (p 483 12 16)) (.sub (.list (.cons (.s "n" 483 20 23) (.cons (.s "t" 483 25 28) (.cons (.s "n" 483 30 33) (.cons (.s "f" 483 35 38) (.cons (.s "d" 483 40 43) (.cons (.s "m" 483 45 48) (.t (.s "x" 483 50 53) (.s "p" 483 55 58)))))))) (p 483 19 59)) (.bin (.bin (.l 8 483 61 66) .Add (.l 7 483 69 70) (p 483 61 70)) .Mod (.i 8 483 74 75) (p 483 60 75)) (p 483 19 76)) (p 483 12 76))
  (.cons (.ifs (.cmp (.l 5 484 15 16) .Eq (.i 4 484 20 21) (p 484 15 21)) (.o (.asg (.name 10 (p 485 16 20)) (.sub (.list (.cons (.s "f" 485 24 27) (.cons (.s "t" 485 29 32) (.t (.s "x" 485 34 37) (.s "p" 485 39 42)))) (p 485 23 43)) (.bin (.bin (.l 8 485 45 50) .Add (.l 7 485 53 54) (p 485 45 54)) .Mod (.i 4 485 58 59) (p 485 44 59)) (p 485 23 60)) (p 485 16 60))) .nil ⟨484,12,485,60⟩)
  (.t (.ifs (.bool .And (.t (.l 2 486 15 24) (.cmp (.l 10 486 29 33) .In (.list (.t (.s "d" 486 38 41) (.s "m" 486 43 46)) (p 486 37 47)) (p 486 29 47))) (p 486 15 47)) (.o (.asg (.name 10 (p 487 16 20)) (.s "t" 487 23 26) (p 487 16 26))) .nil ⟨486,12,487,26⟩)
  (.ifs (.cmp (.l 10 488 15 19) .In (.list (.cons (.s "n" 488 24 27) (.t (.s "d" 488 29 32) (.s "m" 488 34 37))) (p 488 23 38)) (p 488 15 38)) (.o (.m (.l 6 489 16 24) 55 (p 489 16 31) (.o (.tup (.t (.l 10 489 33 37) (.bin (.bin (.l 5 489 39 40) .Add (.i 1 489 43 44) (p 489 39 44)) .Add (.bin (.l 9 489 47 53) .Mod (.bin (.i 4 489 57 58) .Sub (.l 5 489 61 62) (p 489 57 62)) (p 489 47 63)) (p 489 39 63))) 0 (p 489 32 64))) (p 489 16 65))) (.o (.m (.l 6 491 16 24) 55 (p 491 16 31) (.o (.tup (.t (.l 10 491 33 37) (.bin (.l 9 491 39 45) .Mod (.i 6 491 48 49) (p 491 39 49))) 0 (p 491 32 50))) (p 491 16 51))) ⟨488,12,491,51⟩)))))) ⟨480,8,491,51⟩)
  (.m (.l 4 492 8 15) 55 (p 492 8 22) (.o (.l 6 492 23 31)) (p 492 8 32)))) ⟨478,4,492,32⟩)
  (.ret (.l 4 493 11 18) (p 493 4 18)))),false⟩
noncomputable def cU:Fn:=⟨2,[],["script","first","faults","k","digit","code","level","ret"],[37,5,38],
 (.cons (.asg (.name 2 (p 495 4 10)) (.list .nil (p 495 13 15)) (p 495 4 15))
  (.t (.fors (.name 3 (p 496 8 9)) (.call (.g 37 496 13 18) (.o (.i 6 496 19 20)) (p 496 13 21)) (.cons (.asg (.name 4 (p 497 8 13)) (.call (.g 38 497 16 26) (.t (.l 0 497 27 33) (.bin (.l 1 497 35 40) .Add (.l 3 497 43 44) (p 497 35 44))) (p 497 16 45)) (p 497 8 45))
  (.cons (.asg (.name 5 (p 498 8 12)) (.sub (.list (.cons (.i 2 498 16 17) (.cons (.i 1 498 19 20) (.cons (.i 3 498 22 23) (.cons (.i 4 498 25 26) (.t (.sub (.list (.cons (.i 5 498 29 30) (.cons (.i 6 498 32 33) (.t (.neg 1 0 (p 498 36 37) (p 498 35 37)) (.i 2001 498 39 43)))) (p 498 28 44)) (.bin (.bin (.l 4 498 45 50) .FloorDiv (.i 24 498 54 56) (p 498 45 56)) .Mod (.i 4 498 59 60) (p 498 45 60)) (p 498 28 61)) (.i 2 498 63 64)))))) (p 498 15 65)) (.l 3 498 66 67) (p 498 15 68)) (p 498 8 68))
  (.cons (.asg (.name 6 (p 499 8 13)) (.ite (.cmp (.l 5 499 43 47) .Eq (.i 2 499 51 52) (p 499 43 52)) (.bin (.i 1 499 16 17) .Add (.bin (.bin (.bin (.l 4 499 21 26) .Add (.l 3 499 29 30) (p 499 21 30)) .Add (.i 1 499 33 34) (p 499 21 34)) .Mod (.i 4 499 38 39) (p 499 20 39)) (p 499 16 39)) (.i 0 499 58 59) (p 499 16 59)) (p 499 8 59))
  (.t (.asg (.name 7 (p 500 8 11)) (.ite (.cmp (.l 5 500 58 62) .Eq (.i 2 500 66 67) (p 500 58 67)) (.sub (.list (.cons (.i 0 500 15 16) (.cons (.i 1 500 18 19) (.cons (.i 3 500 21 22) (.cons (.i 4 500 24 25) (.t (.i 5 500 27 28) (.i 0 500 30 31)))))) (p 500 14 32)) (.bin (.bin (.bin (.l 4 500 34 39) .FloorDiv (.i 4 500 43 44) (p 500 34 44)) .Add (.l 3 500 47 48) (p 500 34 48)) .Mod (.i 6 500 52 53) (p 500 33 53)) (p 500 14 54)) (.i 0 500 73 74) (p 500 14 74)) (p 500 8 74))
  (.m (.l 2 501 8 14) 55 (p 501 8 21) (.o (.tup (.cons (.l 5 501 23 27) (.cons (.bin (.s "w" 501 29 32) .Add (.call (.g 5 501 35 38) (.o (.l 3 501 39 40)) (p 501 35 41)) (p 501 29 41)) (.t (.l 6 501 43 48) (.l 7 501 50 53)))) 0 (p 501 22 54))) (p 501 8 55)))))) ⟨496,4,501,55⟩)
  (.ret (.l 2 502 11 17) (p 502 4 17)))),false⟩
noncomputable def iQ:Fn:=⟨1,[],["commands"],[],
 (.o (.ret (.meth (.s ";" 504 11 14) 67 (p 504 11 19) (.o (.comp (.bin (.bin (.l 0 504 21 25) .Add (.s " " 504 28 31) (p 504 21 31)) .Add (.call (.g 5 504 34 37) (.o (.l 1 504 38 44)) (p 504 34 45)) (p 504 21 45)) (.tup [(0,(p 504 50 54)),(1,(p 504 56 62))] 0 (p 504 50 62)) (.l 0 504 66 74) { kind:=.function,names:=[(PySem.Str.ofString ".0",.local),(PySem.Str.ofString "verb",.local),(PySem.Str.ofString "number",.local),(PySem.Str.ofString "str",.globalImplicit)],isGenerator:=false,isCoroutine:=false,more:=[] } ["verb","number"] [5] (p 504 20 75))) (p 504 11 76)) (p 504 4 76))),false⟩
noncomputable def dI:Fn:=⟨2,[],["host","text","result","piece"],[],
 (.cons (.asg (.name 2 (p 506 4 10)) (.s "" 506 13 15) (p 506 4 15))
  (.t (.fors (.name 3 (p 507 8 13)) (.meth (.l 1 507 17 21) 68 (p 507 17 27) (.o (.s ";" 507 28 31)) (p 507 17 32)) (.o (.asg (.name 2 (p 508 8 14)) (.meth (.l 0 508 17 21) 69 (p 508 17 26) (.o (.meth (.l 3 508 27 32) 68 (p 508 27 38) (.o (.s " " 508 39 42)) (p 508 27 43))) (p 508 17 44)) (p 508 8 44))) ⟨507,4,508,44⟩)
  (.ret (.l 2 509 11 17) (p 509 4 17)))),false⟩
noncomputable def oF:Fn:=⟨3,[],["host","text","is_slots","rows","piece","words","word"],[39,2],
 (.cons (.m (.sub (.a 0 24 511 4 8 14) (.s "made" 511 15 21) (p 511 4 22)) 55 (p 511 4 29) (.o (.tup (.t (.l 1 511 31 35) (.l 2 511 37 45)) 0 (p 511 30 46))) (p 511 4 47))
  (.cons (.asg (.name 3 (p 512 4 8)) (.list .nil (p 512 11 13)) (p 512 4 13))
  (.t (.fors (.name 4 (p 513 8 13)) (.meth (.l 1 513 17 21) 68 (p 513 17 27) (.o (.s ";" 513 28 31)) (p 513 17 32)) (.cons (.ifs (.cmp (.call (.g 2 514 11 14) (.o (.l 3 514 15 19)) (p 514 11 20)) .Gt (.i 0 514 23 24) (p 514 11 24)) (.o (.m (.l 3 515 12 16) 55 (p 515 12 23) (.o (.tup (.cons (.s "pop" 515 25 30) (.t (.cst .none 0 (p 515 32 36)) (.cst .none 0 (p 515 38 42)))) 0 (p 515 24 43))) (p 515 12 44))) .nil ⟨514,8,515,44⟩)
  (.cons (.asg (.name 5 (p 516 8 13)) (.meth (.l 4 516 16 21) 68 (p 516 16 27) (.o (.s " " 516 28 31)) (p 516 16 32)) (p 516 8 32))
  (.t (.fors (.name 6 (p 517 12 16)) (.l 5 517 20 25) (.o (.m (.l 3 518 12 16) 55 (p 518 12 23) (.o (.tup (.cons (.s "push" 518 25 31) (.t (.l 6 518 33 37) (.cst .none 0 (p 518 39 43)))) 0 (p 518 24 44))) (p 518 12 45))) ⟨517,8,518,45⟩)
  (.m (.l 3 519 8 12) 55 (p 519 8 19) (.o (.tup (.cons (.s "invoke" 519 21 29) (.t (.call (.g 2 519 31 34) (.o (.l 5 519 35 40)) (p 519 31 41)) (.cst .none 0 (p 519 43 47)))) 0 (p 519 20 48))) (p 519 8 49))))) ⟨513,4,519,49⟩)
  (.ret (.call (.g 39 520 11 15) (.cons (.l 3 520 16 20) (.cons (.list .nil (p 520 22 24)) (.cons (.list .nil (p 520 26 28)) (.t (.list .nil (p 520 30 32)) (.a 0 18 520 34 38 44))))) (p 520 11 45)) (p 520 4 45))))),false⟩
noncomputable def IV:Fn:=⟨3,[],["host","words","data","texts","shapes","faults","machines","log","number","code","value","level","ret","is_proc","is_framed","back"],[12,21,2,1,11],
 (.cons (.asg (.tup [(3,(p 522 4 9)),(4,(p 522 11 17)),(5,(p 522 19 25)),(6,(p 522 27 35)),(7,(p 522 37 40))] 0 (p 522 4 40)) (.l 2 522 43 47) (p 522 4 47))
  (.cons (.asg (.name 8 (p 523 4 10)) (.meth (.list (.cons (.s "0" 523 14 17) (.cons (.s "1" 523 19 22) (.cons (.s "2" 523 24 27) (.cons (.s "3" 523 29 32) (.t (.s "4" 523 34 37) (.s "5" 523 39 42)))))) (p 523 13 43)) 70 (p 523 13 49) (.o (.sub (.l 1 523 50 55) (.i 1 523 56 57) (p 523 50 58))) (p 523 13 59)) (p 523 4 59))
  (.cons (.m (.l 7 524 4 7) 55 (p 524 4 14) (.o (.tup (.cons (.sub (.l 1 524 16 21) (.i 0 524 22 23) (p 524 16 24)) (.t (.l 8 524 26 32) (.a 0 17 524 34 38 44))) 0 (p 524 15 45))) (p 524 4 46))
  (.cons (.ifs (.cmp (.sub (.l 1 525 7 12) (.i 0 525 13 14) (p 525 7 15)) .Eq (.s "t" 525 19 22) (p 525 7 22)) (.o (.ret (.bin (.s "v" 526 15 18) .Add (.sub (.l 1 526 21 26) (.i 1 526 27 28) (p 526 21 29)) (p 526 15 29)) (p 526 8 29))) .nil ⟨525,4,526,29⟩)
  (.cons (.ifs (.cmp (.sub (.l 1 527 7 12) (.i 0 527 13 14) (p 527 7 15)) .Eq (.s "p" 527 19 22) (p 527 7 22)) (.o (.ret (.call (.g 11 528 15 20) (.t (.s "yield" 528 21 28) (.l 1 528 30 35)) (p 528 15 36)) (p 528 8 36))) .nil ⟨527,4,528,36⟩)
  (.cons (.ifs (.cmp (.sub (.l 1 529 7 12) (.i 0 529 13 14) (p 529 7 15)) .Eq (.s "f" 529 19 22) (p 529 7 22)) (.t (.asg (.tup [(9,(p 530 8 12)),(10,(p 530 14 19)),(11,(p 530 21 26)),(12,(p 530 28 31))] 0 (p 530 8 31)) (.sub (.l 5 530 34 40) (.l 8 530 41 47) (p 530 34 48)) (p 530 8 48))
  (.raise (.call (.g 1 531 14 20) (.cons (.l 9 531 21 25) (.cons (.l 10 531 27 32) (.cons (.tup (.o (.s "NONE" 531 35 41)) 0 (p 531 34 43)) (.t (.l 11 531 45 50) (.l 12 531 52 55))))) (p 531 14 56)) (p 531 8 56))) .nil ⟨529,4,531,56⟩)
  (.cons (.ifs (.cmp (.sub (.l 1 532 7 12) (.i 0 532 13 14) (p 532 7 15)) .Eq (.s "d" 532 19 22) (p 532 7 22)) (.o (.ret (.meth (.l 0 533 15 19) 26 (p 533 15 23) (.o (.sub (.l 3 533 24 29) (.l 8 533 30 36) (p 533 24 37))) (p 533 15 38)) (p 533 8 38))) .nil ⟨532,4,533,38⟩)
  (.cons (.ifs (.cmp (.sub (.l 1 534 7 12) (.i 0 534 13 14) (p 534 7 15)) .Eq (.s "m" 534 19 22) (p 534 7 22)) (.t (.ifs (.cmp (.call (.g 2 535 11 14) (.o (.l 6 535 15 23)) (p 535 11 24)) .Eq (.i 0 535 28 29) (p 535 11 29)) (.o (.ret (.meth (.l 0 536 19 23) 26 (p 536 19 27) (.o (.sub (.l 3 536 28 33) (.l 8 536 34 40) (p 536 28 41))) (p 536 19 42)) (p 536 12 42))) .nil ⟨535,8,536,42⟩)
  (.ret (.call (.g 21 537 15 23) (.t (.sub (.l 6 537 24 32) (.i 0 537 33 34) (p 537 24 35)) (.meth (.sub (.l 6 537 37 45) (.i 0 537 46 47) (p 537 37 48)) 50 (p 537 37 54) (.cons (.l 0 537 55 59) (.t (.sub (.l 3 537 61 66) (.l 8 537 67 73) (p 537 61 74)) (.cst (.bool false) 0 (p 537 76 81)))) (p 537 37 82))) (p 537 15 83)) (p 537 8 83))) .nil ⟨534,4,537,83⟩)
  (.cons (.asg (.tup [(13,(p 538 4 11)),(14,(p 538 13 22))] 0 (p 538 4 22)) (.sub (.l 4 538 25 31) (.l 8 538 32 38) (p 538 25 39)) (p 538 4 39))
  (.cons (.asg (.name 15 (p 539 4 8)) (.cst .none 0 (p 539 11 15)) (p 539 4 15))
  (.t (.ifs (.l 14 540 7 16) (.t (.asg (.name 15 (p 541 8 12)) (.a 0 17 541 15 19 25) (p 541 8 25))
  (.asg (.attr (.l 0 542 8 12) 17 (p 542 8 18)) (.bin (.s "f" 542 21 24) .Add (.sub (.l 1 542 27 32) (.i 1 542 33 34) (p 542 27 35)) (p 542 21 35)) (p 542 8 35))) .nil ⟨540,4,542,35⟩)
  (.ret (.call (.g 12 543 11 15) (.cons (.sub (.l 3 543 16 21) (.l 8 543 22 28) (p 543 16 29)) (.cons (.l 15 543 31 35) (.t (.l 13 543 37 44) (.bin (.s "p" 543 46 49) .Add (.sub (.l 1 543 52 57) (.i 1 543 58 59) (p 543 52 60)) (p 543 46 60))))) (p 543 11 61)) (p 543 4 61))))))))))))),false⟩
noncomputable def DN:Fn:=⟨2,[],["limit","data","host","verb"],[40,41,42],
 (.cons (.asg (.name 2 (p 545 4 8)) (.call (.g 42 545 11 20) (.o (.l 0 545 21 26)) (p 545 11 27)) (p 545 4 27))
  (.cons (.asg (.attr (.l 2 546 4 8) 17 (p 546 4 14)) (.s "top" 546 17 22) (p 546 4 22))
  (.cons (.asg (.sub (.a 2 24 547 4 8 14) (.s "run" 547 15 20) (p 547 4 21)) (.g 41 547 24 34) (p 547 4 34))
  (.cons (.asg (.sub (.a 2 24 548 4 8 14) (.s "made" 548 15 21) (p 548 4 22)) (.list .nil (p 548 25 27)) (p 548 4 27))
  (.t (.fors (.name 3 (p 549 8 12)) (.list (.cons (.s "t" 549 17 20) (.cons (.s "p" 549 22 25) (.cons (.s "f" 549 27 30) (.cons (.s "d" 549 32 35) (.t (.s "m" 549 37 40) (.s "n" 549 42 45)))))) (p 549 16 46)) (.o (.m (.l 2 550 8 12) 71 (p 550 8 16) (.cons (.l 3 550 17 21) (.t (.g 40 550 23 31) (.l 1 550 33 37))) (p 550 8 38))) ⟨549,4,550,38⟩)
  (.ret (.l 2 551 11 15) (p 551 4 15))))))),false⟩
noncomputable def dJ:Fn:=⟨1,[],["told","code","value","level","ret"],[],
 (.cons (.asg (.tup [(1,(p 553 4 8)),(2,(p 553 10 15)),(3,(p 553 17 22)),(4,(p 553 24 27))] 0 (p 553 4 27)) (.l 0 553 30 34) (p 553 4 34))
  (.cons (.ifs (.cmp (.l 1 554 7 11) .Eq (.i 2 554 15 16) (p 554 7 16)) (.t (.ifs (.cmp (.l 3 555 11 16) .Gt (.i 1 555 19 20) (p 555 11 20)) (.o (.ret (.tup (.cons (.i 2 556 20 21) (.cons (.l 2 556 23 28) (.t (.bin (.l 3 556 30 35) .Sub (.i 1 556 38 39) (p 556 30 39)) (.l 4 556 41 44)))) 0 (p 556 19 45)) (p 556 12 45))) .nil ⟨555,8,556,45⟩)
  (.ret (.tup (.cons (.l 4 557 16 19) (.cons (.l 2 557 21 26) (.t (.i 0 557 28 29) (.i 0 557 31 32)))) 0 (p 557 15 33)) (p 557 8 33))) .nil ⟨554,4,557,33⟩)
  (.t (.ifs (.cmp (.l 1 558 7 11) .In (.list (.t (.i 3 558 16 17) (.i 4 558 19 20)) (p 558 15 21)) (p 558 7 21)) (.o (.ret (.tup (.cons (.i 1 559 16 17) (.cons (.bin (.bin (.s "invoked \"" 559 19 30) .Add (.sub (.list (.t (.s "break" 559 34 41) (.s "continue" 559 43 53)) (p 559 33 54)) (.bin (.l 1 559 55 59) .Sub (.i 3 559 62 63) (p 559 55 63)) (p 559 33 64)) (p 559 19 64)) .Add (.s "\" outside of a loop" 559 67 88) (p 559 19 88)) (.t (.i 0 559 90 91) (.i 0 559 93 94)))) 0 (p 559 15 95)) (p 559 8 95))) .nil ⟨558,4,559,95⟩)
  (.ret (.l 0 560 11 15) (p 560 4 15))))),false⟩
noncomputable def sN:Fn:=⟨6,[],["world","verb","number","frame","deep","is_fast","scripts","shapes","faults","limit","log","made","seen","is_proc","is_framed","key","told"],[43,44,5,45],
 (.cons (.asg (.tup [(6,(p 562 4 11)),(7,(p 562 13 19)),(8,(p 562 21 27)),(9,(p 562 29 34)),(10,(p 562 36 39)),(11,(p 562 41 45)),(12,(p 562 47 51))] 0 (p 562 4 51)) (.l 0 562 54 59) (p 562 4 59))
  (.cons (.ifs (.cmp (.l 1 563 7 11) .Eq (.s "x" 563 15 18) (p 563 7 18)) (.o (.ret (.tup (.cons (.i 1 564 16 17) (.cons (.s "invalid command name \"x\"" 564 19 45) (.t (.i 0 564 47 48) (.i 0 564 50 51)))) 0 (p 564 15 52)) (p 564 8 52))) .nil ⟨563,4,564,52⟩)
  (.cons (.m (.l 10 565 4 7) 55 (p 565 4 14) (.o (.tup (.cons (.l 1 565 16 20) (.t (.l 2 565 22 28) (.l 3 565 30 35))) 0 (p 565 15 36))) (p 565 4 37))
  (.cons (.ifs (.cmp (.l 1 566 7 11) .Eq (.s "t" 566 15 18) (p 566 7 18)) (.o (.ret (.tup (.cons (.i 0 567 16 17) (.cons (.bin (.s "v" 567 19 22) .Add (.call (.g 5 567 25 28) (.o (.l 2 567 29 35)) (p 567 25 36)) (p 567 19 36)) (.t (.i 0 567 38 39) (.i 0 567 41 42)))) 0 (p 567 15 43)) (p 567 8 43))) .nil ⟨566,4,567,43⟩)
  (.cons (.ifs (.cmp (.l 1 568 7 11) .Eq (.s "p" 568 15 18) (p 568 7 18)) (.o (.ret (.tup (.cons (.i 1 569 16 17) (.cons (.s "cannot yield: C stack busy" 569 19 47) (.t (.i 0 569 49 50) (.i 0 569 52 53)))) 0 (p 569 15 54)) (p 569 8 54))) .nil ⟨568,4,569,54⟩)
  (.cons (.ifs (.cmp (.l 1 570 7 11) .Eq (.s "f" 570 15 18) (p 570 7 18)) (.o (.ret (.sub (.l 8 571 15 21) (.l 2 571 22 28) (p 571 15 29)) (p 571 8 29))) .nil ⟨570,4,571,29⟩)
  (.cons (.ifs (.cmp (.l 1 572 7 11) .Eq (.s "d" 572 15 18) (p 572 7 18)) (.o (.ret (.call (.g 44 573 15 24) (.cons (.l 0 573 25 30) (.cons (.l 2 573 32 38) (.cons (.l 3 573 40 45) (.t (.bin (.l 4 573 47 51) .Add (.i 1 573 54 55) (p 573 47 55)) (.cst (.bool false) 0 (p 573 57 62)))))) (p 573 15 63)) (p 573 8 63))) .nil ⟨572,4,573,63⟩)
  (.cons (.ifs (.cmp (.l 1 574 7 11) .Eq (.s "m" 574 15 18) (p 574 7 18)) (.t (.m (.l 11 575 8 12) 55 (p 575 8 19) (.o (.tup (.t (.call (.g 45 575 21 30) (.o (.sub (.l 6 575 31 38) (.l 2 575 39 45) (p 575 31 46))) (p 575 21 47)) (.cst (.bool false) 0 (p 575 49 54))) 0 (p 575 20 55))) (p 575 8 56))
  (.ret (.call (.g 44 576 15 24) (.cons (.l 0 576 25 30) (.cons (.l 2 576 32 38) (.cons (.l 3 576 40 45) (.t (.bin (.l 4 576 47 51) .Add (.i 1 576 54 55) (p 576 47 55)) (.cst (.bool true) 0 (p 576 57 61)))))) (p 576 15 62)) (p 576 8 62))) .nil ⟨574,4,576,62⟩)
  (.cons (.asg (.tup [(13,(p 577 4 11)),(14,(p 577 13 22))] 0 (p 577 4 22)) (.sub (.l 7 577 25 31) (.l 2 577 32 38) (p 577 25 39)) (p 577 4 39))
  (.cons (.ifs (.cmp (.bin (.l 4 578 7 11) .Add (.i 1 578 14 15) (p 578 7 15)) .Gt (.l 9 578 18 23) (p 578 7 23)) (.o (.ret (.tup (.cons (.i 1 579 16 17) (.cons (.s "too many nested evaluations (infinite loop?)" 579 19 65) (.t (.i 0 579 67 68) (.i 0 579 70 71)))) 0 (p 579 15 72)) (p 579 8 72))) .nil ⟨578,4,579,72⟩)
  (.cons (.asg (.name 15 (p 580 4 7)) (.tup (.t (.call (.g 45 580 11 20) (.o (.sub (.l 6 580 21 28) (.l 2 580 29 35) (p 580 21 36))) (p 580 11 37)) (.l 13 580 39 46)) 0 (p 580 10 47)) (p 580 4 47))
  (.cons (.ifs (.bool .And (.t (.l 5 581 7 14) (.cmp (.l 15 581 19 22) .NotIn (.l 12 581 30 34) (p 581 19 34))) (p 581 7 34)) (.t (.m (.l 12 582 8 12) 55 (p 582 8 19) (.o (.l 15 582 20 23)) (p 582 8 24))
  (.m (.l 11 583 8 12) 55 (p 583 8 19) (.o (.l 15 583 20 23)) (p 583 8 24))) .nil ⟨581,4,583,24⟩)
  (.t (.asg (.name 16 (p 584 4 8)) (.call (.g 44 584 11 20) (.cons (.l 0 584 21 26) (.cons (.l 2 584 28 34) (.cons (.ite (.l 14 584 57 66) (.bin (.s "f" 584 36 39) .Add (.call (.g 5 584 42 45) (.o (.l 2 584 46 52)) (p 584 42 53)) (p 584 36 53)) (.l 3 584 72 77) (p 584 36 77)) (.t (.bin (.l 4 584 79 83) .Add (.i 1 584 86 87) (p 584 79 87)) (.l 5 584 89 96))))) (p 584 11 97)) (p 584 4 97))
  (.ret (.ite (.l 13 585 31 38) (.call (.g 43 585 11 21) (.o (.l 16 585 22 26)) (p 585 11 27)) (.l 16 585 44 48) (p 585 11 48)) (p 585 4 48))))))))))))))),false⟩
noncomputable def iR:Fn:=⟨5,[],["world","k","frame","deep","is_fast","told","verb","number"],[46],
 (.cons (.asg (.name 5 (p 587 4 8)) (.tup (.cons (.i 0 587 12 13) (.cons (.s "" 587 15 17) (.t (.i 0 587 19 20) (.i 0 587 22 23)))) 0 (p 587 11 24)) (p 587 4 24))
  (.t (.fors (.tup [(6,(p 588 8 12)),(7,(p 588 14 20))] 0 (p 588 8 20)) (.sub (.sub (.l 0 588 24 29) (.i 0 588 30 31) (p 588 24 32)) (.l 1 588 33 34) (p 588 24 35)) (.t (.asg (.name 5 (p 589 8 12)) (.call (.g 46 589 15 22) (.cons (.l 0 589 23 28) (.cons (.l 6 589 30 34) (.cons (.l 7 589 36 42) (.cons (.l 2 589 44 49) (.t (.l 3 589 51 55) (.l 4 589 57 64)))))) (p 589 15 65)) (p 589 8 65))
  (.ifs (.cmp (.sub (.l 5 590 11 15) (.i 0 590 16 17) (p 590 11 18)) .NotEq (.i 0 590 22 23) (p 590 11 23)) (.o (.ret (.l 5 591 19 23) (p 591 12 23))) .nil ⟨590,8,591,23⟩)) ⟨588,4,591,23⟩)
  (.ret (.l 5 592 11 15) (p 592 4 15)))),false⟩
noncomputable def kF:Fn:=⟨1,[],["told","code","value","level","ret"],[5],
 (.cons (.asg (.tup [(1,(p 594 4 8)),(2,(p 594 10 15)),(3,(p 594 17 22)),(4,(p 594 24 27))] 0 (p 594 4 27)) (.l 0 594 30 34) (p 594 4 34))
  (.cons (.ifs (.bool .And (.t (.cmp (.l 1 595 7 11) .Eq (.i 2 595 15 16) (p 595 7 16)) (.cmp (.l 3 595 21 26) .Eq (.i 1 595 30 31) (p 595 21 31))) (p 595 7 31)) (.o (.asg (.name 1 (p 596 8 12)) (.l 4 596 15 18) (p 596 8 18))) .nil ⟨595,4,596,18⟩)
  (.cons (.ifs (.cmp (.l 1 597 7 11) .In (.list (.t (.i 0 597 16 17) (.i 1 597 19 20)) (p 597 15 21)) (p 597 7 21)) (.o (.ret (.tup (.t (.l 1 598 16 20) (.l 2 598 22 27)) 0 (p 598 15 28)) (p 598 8 28))) .nil ⟨597,4,598,28⟩)
  (.t (.ifs (.cmp (.l 1 599 7 11) .In (.list (.t (.i 3 599 16 17) (.i 4 599 19 20)) (p 599 15 21)) (p 599 7 21)) (.o (.ret (.tup (.t (.i 1 600 16 17) (.bin (.bin (.s "invoked \"" 600 19 30) .Add (.sub (.list (.t (.s "break" 600 34 41) (.s "continue" 600 43 53)) (p 600 33 54)) (.bin (.l 1 600 55 59) .Sub (.i 3 600 62 63) (p 600 55 63)) (p 600 33 64)) (p 600 19 64)) .Add (.s "\" outside of a loop" 600 67 88) (p 600 19 88))) 0 (p 600 15 89)) (p 600 8 89))) .nil ⟨599,4,600,89⟩)
  (.ret (.tup (.t (.i 1 601 12 13) (.bin (.s "command returned bad code: " 601 15 44) .Add (.call (.g 5 601 47 50) (.o (.l 1 601 51 55)) (p 601 47 56)) (p 601 15 56))) 0 (p 601 11 57)) (p 601 4 57)))))),false⟩
noncomputable def gQ:Fn:=⟨3,[],["script","first","round_two","digit","limit","scripts","texts","faults","shapes","k","machines","log","host","machine","told","plain_log","plain","plain_told","due_log","made","due"],[47,44,48,49,50,51,52,37,38,53,54],
 (.cons (.asg (.name 3 (p 603 4 9)) (.call (.g 38 603 12 22) (.t (.l 0 603 23 29) (.bin (.l 1 603 31 36) .Add (.i 21 603 39 41) (p 603 31 41))) (p 603 12 42)) (p 603 4 42))
  (.cons (.asg (.name 4 (p 604 4 9)) (.ite (.cmp (.bin (.l 3 604 34 39) .Mod (.i 4 604 42 43) (p 604 34 43)) .Eq (.i 1 604 47 48) (p 604 34 48)) (.bin (.i 2 604 12 13) .Add (.bin (.bin (.l 3 604 16 21) .FloorDiv (.i 4 604 25 26) (p 604 16 26)) .Mod (.i 4 604 29 30) (p 604 16 30)) (p 604 12 30)) (.i 40 604 54 56) (p 604 12 56)) (p 604 4 56))
  (.cons (.asg (.name 5 (p 605 4 11)) (.call (.g 54 605 14 26) (.cons (.l 0 605 27 33) (.cons (.l 1 605 35 40) (.t (.cmp (.l 4 605 42 47) .Lt (.i 40 605 50 52) (p 605 42 52)) (.l 2 605 54 63)))) (p 605 14 64)) (p 605 4 64))
  (.cons (.asg (.name 6 (p 606 4 9)) (.comp (.call (.g 45 606 13 22) (.o (.l 0 606 23 31)) (p 606 13 32)) (.name 0 (p 606 37 45)) (.l 5 606 49 56) { kind:=.function,names:=[(PySem.Str.ofString ".0",.local),(PySem.Str.ofString "commands",.local),(PySem.Str.ofString "_law_text",.globalImplicit)],isGenerator:=false,isCoroutine:=false,more:=[] } ["commands"] [45] (p 606 12 57)) (p 606 4 57))
  (.cons (.asg (.name 7 (p 607 4 10)) (.call (.g 53 607 13 24) (.t (.l 0 607 25 31) (.bin (.l 1 607 33 38) .Add (.i 10 607 41 43) (p 607 33 43))) (p 607 13 44)) (p 607 4 44))
  (.cons (.asg (.name 8 (p 608 4 10)) (.list .nil (p 608 13 15)) (p 608 4 15))
  (.cons (.fors (.name 9 (p 609 8 9)) (.call (.g 37 609 13 18) (.o (.i 5 609 19 20)) (p 609 13 21)) (.t (.asg (.name 3 (p 610 8 13)) (.call (.g 38 610 16 26) (.t (.l 0 610 27 33) (.bin (.bin (.l 1 610 35 40) .Add (.i 16 610 43 45) (p 610 35 45)) .Add (.l 9 610 48 49) (p 610 35 49))) (p 610 16 50)) (p 610 8 50))
  (.m (.l 8 611 8 14) 55 (p 611 8 21) (.o (.tup (.t (.cmp (.bin (.bin (.bin (.l 3 611 24 29) .Add (.l 9 611 32 33) (p 611 24 33)) .Add (.l 2 611 36 45) (p 611 24 45)) .Mod (.i 2 611 49 50) (p 611 23 50)) .Eq (.i 1 611 54 55) (p 611 23 55)) (.cmp (.bin (.bin (.bin (.l 3 611 58 63) .FloorDiv (.i 2 611 67 68) (p 611 58 68)) .Add (.l 9 611 71 72) (p 611 58 72)) .Mod (.i 3 611 76 77) (p 611 57 77)) .Lt (.i 2 611 80 81) (p 611 57 81))) 0 (p 611 22 82))) (p 611 8 83))) ⟨609,4,611,83⟩)
  (.cons (.asg (.name 10 (p 612 4 12)) (.list .nil (p 612 15 17)) (p 612 4 17))
  (.cons (.asg (.name 11 (p 613 4 7)) (.list .nil (p 613 10 12)) (p 613 4 12))
  (.cons (.asg (.name 12 (p 614 4 8)) (.call (.g 48 614 11 20) (.t (.l 4 614 21 26) (.tup (.cons (.l 6 614 29 34) (.cons (.l 8 614 36 42) (.cons (.l 7 614 44 50) (.t (.l 10 614 52 60) (.l 11 614 62 65))))) 0 (p 614 28 66))) (p 614 11 67)) (p 614 4 67))
  (.cons (.asg (.name 13 (p 615 4 11)) (.call (.g 50 615 14 21) (.cons (.l 12 615 22 26) (.t (.call (.g 52 615 28 37) .nil (p 615 28 39)) (.g 51 615 41 51))) (p 615 14 52)) (p 615 4 52))
  (.cons (.m (.l 10 616 4 12) 55 (p 616 4 19) (.o (.l 13 616 20 27)) (p 616 4 28))
  (.cons (.asg (.name 14 (p 617 4 8)) (.call (.g 49 617 11 21) (.cons (.l 12 617 22 26) (.t (.l 13 617 28 35) (.sub (.l 6 617 37 42) (.i 0 617 43 44) (p 617 37 45)))) (p 617 11 46)) (p 617 4 46))
  (.cons (.asg (.name 15 (p 618 4 13)) (.list .nil (p 618 16 18)) (p 618 4 18))
  (.cons (.asg (.name 16 (p 619 4 9)) (.call (.g 48 619 12 21) (.t (.l 4 619 22 27) (.tup (.cons (.l 6 619 30 35) (.cons (.l 8 619 37 43) (.cons (.l 7 619 45 51) (.t (.list .nil (p 619 53 55)) (.l 15 619 57 66))))) 0 (p 619 29 67))) (p 619 12 68)) (p 619 4 68))
  (.cons (.asg (.name 17 (p 620 4 14)) (.meth (.l 16 620 17 22) 72 (p 620 17 30) (.o (.sub (.l 6 620 31 36) (.i 0 620 37 38) (p 620 31 39))) (p 620 17 40)) (p 620 4 40))
  (.cons (.asg (.name 18 (p 621 4 11)) (.list .nil (p 621 14 16)) (p 621 4 16))
  (.cons (.asg (.name 19 (p 622 4 8)) (.list (.o (.tup (.t (.sub (.l 6 622 13 18) (.i 0 622 19 20) (p 622 13 21)) (.cst (.bool false) 0 (p 622 23 28))) 0 (p 622 12 29))) (p 622 11 30)) (p 622 4 30))
  (.cons (.asg (.name 20 (p 623 4 7)) (.call (.g 47 623 10 18) (.o (.call (.g 44 623 19 28) (.cons (.tup (.cons (.l 5 623 30 37) (.cons (.l 8 623 39 45) (.cons (.l 7 623 47 53) (.cons (.l 4 623 55 60) (.cons (.l 18 623 62 69) (.t (.l 19 623 71 75) (.list .nil (p 623 77 79)))))))) 0 (p 623 29 80)) (.cons (.i 0 623 82 83) (.cons (.s "top" 623 85 90) (.t (.i 1 623 92 93) (.cst (.bool true) 0 (p 623 95 99)))))) (p 623 19 100))) (p 623 10 101)) (p 623 4 101))
  (.cons (.ifs (.bool .Or (.cons (.cmp (.l 14 624 7 11) .NotEq (.l 20 624 15 18) (p 624 7 18)) (.cons (.cmp (.l 17 624 22 32) .NotEq (.l 20 624 36 39) (p 624 22 39)) (.t (.cmp (.l 11 624 43 46) .NotEq (.l 18 624 50 57) (p 624 43 57)) (.cmp (.l 15 624 62 71) .NotEq (.l 18 624 75 82) (p 624 62 82))))) (p 624 7 83)) (.o (.ret (.cst (.bool false) 0 (p 625 15 20)) (p 625 8 20))) .nil ⟨624,4,625,20⟩)
  (.t (.ifs (.bool .Or (.cons (.cmp (.sub (.a 12 24 626 7 11 17) (.s "made" 626 18 24) (p 626 7 25)) .NotEq (.l 19 626 29 33) (p 626 7 33)) (.t (.cmp (.sub (.a 16 24 626 37 42 48) (.s "made" 626 49 55) (p 626 37 56)) .NotEq (.list .nil (p 626 60 62)) (p 626 37 62)) (.cmp (.a 13 49 626 66 73 78) .NotEq (.list .nil (p 626 82 84)) (p 626 66 84)))) (p 626 7 84)) (.o (.ret (.cst (.bool false) 0 (p 627 15 20)) (p 627 8 20))) .nil ⟨626,4,627,20⟩)
  (.ret (.bool .And (.cons (.cmp (.a 12 17 628 11 15 21) .Eq (.s "top" 628 25 30) (p 628 11 30)) (.cons (.cmp (.a 16 17 628 35 40 46) .Eq (.s "top" 628 50 55) (p 628 35 55)) (.t (.cmp (.a 12 20 628 61 65 71) .Eq (.i 0 628 75 76) (p 628 61 76)) (.cmp (.a 16 20 628 83 88 94) .Eq (.i 0 628 98 99) (p 628 83 99))))) (p 628 11 100)) (p 628 4 100))))))))))))))))))))))),false⟩
noncomputable def NX:Fn:=⟨1,[],["script"],[55],
 (.o (.ret (.bool .And (.t (.call (.g 55 630 11 21) (.cons (.l 0 630 22 28) (.t (.i 0 630 30 31) (.i 0 630 33 34))) (p 630 11 35)) (.call (.g 55 630 40 50) (.cons (.l 0 630 51 57) (.t (.i 22 630 59 61) (.i 1 630 63 64))) (p 630 40 65))) (p 630 11 65)) (p 630 4 65))),false⟩
noncomputable def lH:List Str:=List.map Str.ofString ["extra","line","is_noted","info","ret","level","errorcode","value","code","__init__","label","is_proc","back","script","words","kind","coroutine","frame","epoch","spent","depth","fuel","limit","inline","tools","tool","run","finish","begin","leave","run_global","firsts","commands","vars","remove","pop","spend","caught","each","slots","names","stack","pc","nest","sources","text","steps","pause","book","acts","maker","ops","host","get","where","append","code_for","give","drop","enter","machine","go_on","ranges","unwind","rows","step","take","join","split","call","index","put","outcome"]
noncomputable def NR:List (String×SV):=[("Exception",.ty .exc),("Raised",.top 84),("len",.bi .len),("cut",.top 146),("note_row",.top 160),("str",.ty .str),("error",.top 139),("end_return",.top 167),("Misused",.top 51),("OutOfFuel",.top 63),("isinstance",.bi .isinst),("Pause",.top 126),("Nest",.top 105),("end_proc",.top 174),("outcome_of",.top 202),("Host",.top 283),("act",.top 322),("note",.top 153),("Act",.top 458),("taker",.top 469),("note_source",.top 476),("run_code",.top 574),("call",.top 686),("taken",.top 616),("op_fail",.top 721),("op_jump",.top 714),("op_start",.top 707),("op_invoke",.top 693),("op_join",.top 679),("op_store_element",.top 672),("op_store_name",.top 665),("op_store",.top 658),("op_load_element",.top 651),("op_load_name",.top 644),("op_load",.top 637),("op_pop",.top 630),("op_push",.top 623),("range",.ty .range),("_law_digit",.top 735),("Code",.top 598),("_law_act",.top 775),("_law_plain",.top 761),("SmallHost",.top 439),("_law_ended",.top 789),("_law_rule",.top 803),("_law_text",.top 754),("_law_do",.top 796),("_law_top",.top 810),("_law_host",.top 782),("outcome_by",.top 581),("Machine",.top 563),("_law_maker",.top 768),("plain_ops",.top 728),("_law_faults",.top 749),("_law_scripts",.top 742),("_law_round",.top 815)]
noncomputable def nT:List (Str×SV):=NR.map fun x=>(Str.ofString x.1,x.2)
noncomputable def xG:List (Nat×List (Nat×Nat)):=[(38,[(9,35)]),(51,[(9,35)]),(63,[(9,35)]),(84,[(9,81)]),(105,[(9,102)]),(126,[(9,123)]),(283,[(9,217),(25,224),(36,231),(54,238),(26,245),(30,252),(69,259),(27,266),(29,273),(72,280)]),(439,[(9,337),(58,386),(71,408),(34,415),(28,436),(25,224),(36,231),(54,238),(26,245),(30,252),(69,259),(27,266),(29,273),(72,280)]),(458,[(9,455)]),(563,[(9,490),(56,497),(59,504),(58,511),(57,518),(29,525),(66,532),(61,539),(63,546),(65,553),(26,560)]),(598,[(9,595)])]
noncomputable def ftable:List (Nat×Fn):=[(81,sP),(102,yM),(123,vX),(139,TU),(146,aBh),(153,YL),(160,DM),(167,vW),(174,bK),(202,vT),(217,yO),(224,yN),(231,vZ),(238,vY),(245,dK),(252,lA),(259,bV),(266,aW),(273,wA),(280,fF),(322,aBi),(337,mA),(408,oG),(415,kG),(436,aI),(455,DP),(469,TN),(476,sM),(490,pA),(497,cZ),(504,oJ),(511,pC),(518,pB),(525,oH),(532,oY),(546,bN),(553,oZ),(560,bZ),(574,iO),(581,iA),(595,yP),(616,TO),(623,IP),(630,NW),(686,bL),(693,yL),(728,yJ),(735,eR),(742,bY),(749,cU),(754,iQ),(761,dI),(768,oF),(775,IV),(782,DN),(789,dJ),(796,sN),(803,iR),(810,kF),(815,gQ),(822,NX)]
noncomputable def xX:List (Nat×(Nat×Bool)):=[(84,(81,true)),(105,(102,false)),(126,(123,false)),(283,(217,false)),(439,(337,false)),(458,(455,false)),(563,(490,false)),(598,(595,false))]
end
section
open PySem.Calls
noncomputable def tAn(i:Nat):Str:=lH.getD i Str.empty
noncomputable def tCa(C n:Nat):Option (Option Nat):=bif Nat.blt n 73 then match lk xG C with|some ms=>some (lk ms n)|none=>none else none
noncomputable def tCm:SV→Nat→Option SV
 |.ty .exc,n=>bif Nat.beq n 9 then some (.bi .einit)else none
 |.top C,n=>bif Nat.beq C 283&&Nat.beq n 9 then some (.top 217)else none
 |_,_=>none
noncomputable def theG(K:Frag)(prog:Program)(w:World)(mb:Str→Option Value)(V:Query→Prop):Gl where
 an:=tAn
 nA:=73
 ca:=tCa
 pc:=fun C=>cW C [105,126,439,458,563,598]
 xc:=fun C=>cW C [84]
 gl:=nT
 lm:=fun n=>lk [(35,BI.pop),(55,.append),(70,.index)] n
 dm:=fun n=>lk [(35,BI.dpop),(53,.dget)] n
 sm:=fun n=>lk [(67,BI.join),(68,.split)] n
 cm:=tCm
 is1:=[(105,105),(126,126)]
 is0:=[(126,105)]
 isn:=[105,126]
 K:=K
 prog:=prog
 w:=w
 V:=V
 mb:=mb
end
section
open PySem.Calls
theorem hV{α:Type}{v:α}{i:Nat}:∀{l:List (Nat×α)},lk l i=some v→(i,v)∈l
 |[],h=>by cases h
 |(j,x)::r,h=>by
  have h:(bif Nat.beq j i then some x else lk r i)=some v:=h
  cases q:Nat.beq j i with
  |true=>rw[q]at h;cases h;have:=dA q;subst this;exact .head _
  |false=>rw[q]at h;exact .tail _ (hV h)
noncomputable def kZ(K:Frag)(f:Nat):Obj:=(K.lookup f).getD { cls:=.none,data:=.plain }
noncomputable def fdOf(o:Obj):FuncData:=match o.data with
 |.func fd=>fd
 |_=>fnOf Str.empty Str.empty { posonlyargs:=[],args:=[],vararg:=none,kwonlyargs:=[],kw_defaults:=[],kwarg:=none,defaults:=[] } [] { kind:=.function,names:=[],isGenerator:=false,isCoroutine:=false,more:=[] } .none .none .none .none none .none .none
noncomputable def TD(o:Obj):Bool:=match o.data with
 |.func _=>true
 |_=>false
noncomputable def IU(K:Frag)(gl:List (Str×SV))(fd:FuncData)(F:Fn):List Bool :=
 [codeIn K fd.code fd.qualname,fd.scope.kind==.function,!fd.scope.isCoroutine,!fd.scope.isGenerator,fd.scope.names.all fun x=>x.2 != .cell,
 F.vars.all fun x=>fd.scope.names.lookup x==some .local,F.gs.all fun i=>match gl[i]? with|some (n,_)=>fd.scope.names.lookup n==some .globalImplicit|none=>true,
 F.vars.all fun x=>!(x==("__debug__" : Str)),decide F.vars.Nodup,Nat.ble F.np F.vars.length,Nat.ble F.vars.length 1000,wSS F.vars.length F.gs F.body,
 fd.globals==mainGlobals,fd.closure.isEmpty,fd.builtins==builtinsNs]
noncomputable def dvV:SV→Nat→Value
 |.bool b,_=>.bool b
 |.int i,t=>.int i t
 |.str s,t=>.str s t
 |.top a,_=>.ref a
 |_,_=>.none
noncomputable def dvB:SV→Bool
 |.bool _=>true
 |.int _=>true
 |.str _=>true
 |.top _=>true
 |.none=>true
 |_=>false
noncomputable def OA:List SV→List Nat→List Value
 |[],_=>[]
 |v::r,ts=>dvV v (ts.headD 0)::OA r ts.tail
noncomputable def dvT:List (Nat×List Nat):=[(81,[0,270,271]),(102,[0,0,313]),(139,[0]),(217,[475,0]),(337,[634,0]),(408,[0])]
noncomputable def toks(f:Nat):List Nat:=(lk dvT f).getD []
noncomputable abbrev QA:=(Nat→Value)→Setting→Option (List (Str×Value))
noncomputable def lsF(F:Fn):List Nat:=(List.range (F.np+1)).filter fun l=>Nat.ble F.np (l+F.dv.length)
noncomputable def fnL(K:Frag)(x:Nat×Fn):Bool×FuncBody×List QA :=
 ((K.lookup x.1).isSome&&TD (kZ K x.1)&&(IU K nT (fdOf (kZ K x.1)) x.2).all id&&x.2.dv.all dvB,(fdOf (kZ K x.1)).body,
  (lsF x.2).map fun l vs S=>peek K S (bindArgs (fdOf (kZ K x.1)) ⟨(List.range l).map vs,[]⟩))
noncomputable def fnR(G:Gl)(x:Nat×Fn):Bool×FuncBody×List QA :=
 (true,.stmts (dSS G x.2.vars x.2.body),(lsF x.2).map fun l vs _=>some ((x.2.vars.take x.2.np).zip ((List.range l).map vs++(OA x.2.dv (toks x.1)).drop (l+x.2.dv.length - x.2.np))))
theorem zX{b:Bool}(h:(!b)=true):b=false:=by cases b<;>first|rfl|cases h
theorem JL:∀{l:List SV}(ts:List Nat)(k:Nat),l.all dvB=true→aK (VR ⟨[],[]⟩) (l.drop k) ((OA l ts).drop k)
 |[],_,0,_=>trivial
 |[],_,_+1,_=>trivial
 |v::r,ts,0,h=>by
  obtain⟨h1,h2⟩:=aN h
  refine⟨?_,JL (l:=r) ts.tail 0 h2⟩
  cases v<;>first|exact absurd h1 Bool.false_ne_true|exact rfl|exact⟨_,rfl⟩
 |v::r,ts,k+1,h=>JL (l:=r) ts.tail k (aN h).2
theorem BV(vs:List Value):(List.range vs.length).map (fun i=>vs.getD i .none)=vs:=by
 refine List.ext_getElem (by rw[List.length_map,List.length_range]) fun i h1 h2=>?_
 rw[List.getElem_map,List.getElem_range,List.getD_eq_getElem?_getD,List.getElem?_eq_getElem h2];rfl
theorem HT {oc od osl}{dt:Data}(h:TD ⟨oc,od,dt,osl⟩=true):∃fd,dt = .func fd:=by
 cases dt<;>first|exact⟨_,rfl⟩|exact absurd h Bool.false_ne_true
theorem XA{G:Gl}{f:Nat}{F:Fn}{o:Obj}(ho:G.K.lookup f=some o)(d2:TD o=true)(eb:(fdOf o).body = .stmts (dSS G F.vars F.body))(d4:F.dv.all dvB=true)
  (c:∀(i:Nat)(b:Bool),(IU G.K G.gl (fdOf o) F)[i]?=some b→b=true)
  (hb:∀l∈lsF F,(fun(vs:Nat→Value) S=>peek G.K S (bindArgs (fdOf o) ⟨(List.range l).map vs,[]⟩))=fun vs _=>some ((F.vars.take F.np).zip ((List.range l).map vs++(OA F.dv (toks f)).drop (l+F.dv.length - F.np)))):FnOK G f F:=by
 obtain⟨oc,od,dt,osl⟩:=o
 obtain⟨fd,rfl⟩:=HT d2
 obtain⟨name,qual,params,body,scope,gl,cl,dV,kV,doc,pm,an,cdv,ct,bl⟩:=fd
 obtain rfl:body=_:=eb
 obtain rfl:gl=mainGlobals:=eq_of_beq (c 12 _ rfl)
 obtain rfl:cl=[]:=List.isEmpty_iff.mp (c 13 _ rfl)
 obtain rfl:bl=builtinsNs:=eq_of_beq (c 14 _ rfl)
 refine⟨⟨oc,od,osl,qual,name,params,scope,dV,kV,doc,pm,an,cdv,ct,ho,c 0 _ rfl,eq_of_beq (c 1 _ rfl),zX (c 2 _ rfl),zX (c 3 _ rfl),fun x hx=>bne_iff_ne.mp (List.all_eq_true.mp (c 4 _ rfl) x hx),fun x hx=>eq_of_beq (List.all_eq_true.mp (c 5 _ rfl) x hx),fun i hi n v hg=>?_,fun vs l hl h1 h2=>?_⟩,
  fun x hx=>zX (List.all_eq_true.mp (c 7 _ rfl) x hx),of_decide_eq_true (c 8 _ rfl),Nat.le_of_ble_eq_true (c 9 _ rfl),Nat.le_of_ble_eq_true (c 10 _ rfl),c 11 _ rfl⟩
 ·have:=List.all_eq_true.mp (c 6 _ rfl) i hi
  rw[hg]at this
  exact eq_of_beq this
 ·subst hl
  have hm:vs.length∈lsF F:=List.mem_filter.mpr ⟨List.mem_range.mpr (Nat.lt_succ_of_le h2),Nat.ble_eq_true_of_le h1⟩
  refine⟨_,JL (toks f) (vs.length+F.dv.length - F.np) d4,fun s X=>kp_binds X fun S=>?_⟩
  have:=congrFun (congrFun (hb _ hm) fun i=>vs.getD i .none) S
  rw[BV vs]at this
  exact this
theorem aAm{G:Gl}{x:Nat×Fn}(hg:G.gl=nT)(h:fnL G.K x=fnR G x):FnOK G x.1 x.2:=by
 obtain⟨f,F⟩:=x
 have h1:=congrArg (·.1) h
 have eb:(fdOf (kZ G.K f)).body = .stmts (dSS G F.vars F.body):=congrArg (·.2.1) h
 have hb:(lsF F).map _=(lsF F).map _:=congrArg (·.2.2) h
 have hb:=List.map_inj_left.mp hb
 clear h
 dsimp only [fnL,fnR]at h1
 obtain⟨h1,d4⟩:=aN h1
 obtain⟨h1,chk⟩:=aN h1
 obtain⟨d1,d2⟩:=aN h1
 obtain⟨o,ho⟩:=Option.isSome_iff_exists.mp d1
 have e:kZ G.K f=o:=by unfold kZ;rw[ho];rfl
 rw[e]at eb chk d2 hb
 rw[←hg]at chk
 have c:∀(i:Nat)(b:Bool),(IU G.K G.gl (fdOf o) F)[i]?=some b→b=true:=fun i b h=>List.all_eq_true.mp chk b (List.mem_of_getElem? h)
 clear chk h1
 exact XA ho d2 eb d4 c hb
end
section
open PySem.Calls
theorem GG:lH.Nodup:=by decide +kernel
theorem GF:(lH.all fun x=>!(x==Str.empty))=true:=by decide +kernel
theorem CJ:lH.length=73:=by decide +kernel
theorem YK:∀i j,i<73→tAn i=tAn j→i=j:=fun i j hi h=>by
 have li:i<lH.length:=by rw[CJ];exact hi
 unfold tAn at h
 rw[List.getD_eq_getElem?_getD,List.getElem?_eq_getElem li,List.getD_eq_getElem?_getD]at h
 by_cases lj:j<lH.length
 ·rw[List.getElem?_eq_getElem lj]at h
  exact dD GG li lj h
 ·rw[List.getElem?_eq_none (Nat.le_of_not_lt lj)]at h
  have:=List.all_eq_true.mp GF _ (List.getElem_mem li)
  simp only[Option.getD_some,Option.getD_none]at h
  rw[h]at this
  exact absurd this (by decide +kernel)
noncomputable def aBz(K:Frag)(x:Nat×List (Nat×Nat)):Bool:=(List.range 73).all fun n=>match lk x.2 n with
 |some f=>findIn K (.ref x.1) (tAn n)==some (some (.ref f))&&typeIn K (.ref f)==some (.type "function")
 |none=>findIn K (.ref x.1) (tAn n)==some none
set_option tactic.hygienic true in
theorem UI{C n:Nat}{x:Option Nat}(h:tCa C n=some x):∃ms,n<73∧(C,ms)∈xG∧lk ms n=x:=by
 unfold tCa at h
 cases q:Nat.blt n 73 with
 |false=>rw[q]at h;cases h
 |true =>
  rw[q]at h
  simp only[cond_true]at h
  split at h
  ·rename_i ms hm;cases h;exact⟨ms,Nat.le_of_ble_eq_true q,hV hm,rfl⟩
  ·cases h
noncomputable def cI(K:Frag)(C:Nat):ClassData:=match clsIn K C with
 |some cd=>cd
 |none=>{ name:=Str.empty,bases:=[],mro:=[],ns:=0,qualname:=Str.empty,hasDict:=false,slotNames:=[],subclasses:=[],abstract:=false,collection:=none,hasDel:=false }
noncomputable def aBx(K:Frag)(C:Nat):Bool:=plainGet K C ""&&hasDictIn K C&&findIn K (.ref C) "__setattr__"==some (some (.builtin "object.__setattr__"))&&plainOver K C
noncomputable def aBw(K:Frag)(C:Nat):Bool:=(clsIn K C).isSome&&(cI K C).hasDict&&!(cI K C).mro.isEmpty&&(cI K C).mro.contains (.type "object")&&findIn K (.ref C) "__setattr__"==some (some (.builtin "object.__setattr__"))
noncomputable def mQ(K:Frag)(a:Nat):Bool:=match K.lookup a with
 |some ⟨_,_,.dict es _,_⟩=>es.toList.all fun e=>match e.key with | .str _ _=>true | _=>false
 |_=>false
set_option tactic.hygienic true in
theorem zW{K:Frag}{a:Nat}{h:Heap}(X:K.In h)(e:mQ K a=true):∃mg,h.Ns a mg∧∀n r,nsIn K a n=some r→mg n=r:=by
 unfold mQ at e
 split at e
 ·rename_i oc od es ep osl ho
  refine⟨nsFind es,⟨_,es,ep,X _ _ ho,rfl,fun x hx=>?_,fun _=>rfl⟩,fun n r hr=>?_⟩
  ·have:=List.all_eq_true.mp e x (by simpa using hx)
   split at this
   ·rename_i n t q;exact⟨n,t,q⟩
   ·cases this
  ·unfold nsIn at hr
   rw[ho]at hr
   dsimp only at hr
   unfold nsFind findBy
   rw[←Array.find?_toList]
   split at hr
   ·rename_i e' q;cases hr;rw[q];rfl
   ·rename_i q;rw[q]
    split at hr
    ·cases hr
    ·cases hr;rfl
 ·cases e
set_option tactic.hygienic true in
theorem WV{K:Frag}{a:Nat}{mg:Str→Option Value}(e:mQ K a=true)(at_:∀n r,nsIn K a n=some r→mg n=r)(n:Str):mg n=(nsIn K a n).getD none:=by
 have:∃r,nsIn K a n=some r:=by
  unfold mQ at e
  split at e
  ·rename_i oc od es ep osl ho
   unfold nsIn
   rw[ho]
   dsimp only
   split
   ·exact⟨_,rfl⟩
   ·rw[if_neg ?_]
    ·exact⟨_,rfl⟩
    ·intro h
     obtain⟨x,hx,hr⟩:=List.any_eq_true.mp h
     have:=List.all_eq_true.mp e x hx
     split at this
     ·rename_i k t q;unfold DictEntry.refKey at hr;rw[q]at hr;simp at hr
     ·cases this
  ·cases e
 obtain⟨r,hr⟩:=this
 rw[at_ n r hr,hr];rfl
noncomputable def aBy(K:Frag)(x:Str×SV):Bool:=!(x.1==("__debug__" : Str))&&!(x.1==("__name__" : Str))&&match x.2 with
 |.top a=>nsIn K 3 x.1==some (some (.ref a))
 |.bi i=>nsIn K 3 x.1==some none&&bootBuiltins x.1==some (.builtin i.id)
 |.ty i=>nsIn K 3 x.1==some none&&bootBuiltins x.1==some (.type i.id)
 |_=>false
noncomputable def ZE(K:Frag)(x:Nat×(Nat×Bool)):Bool:=x.2.2||(makesIn K x.1&&findIn K (.ref x.1) "__init__"==some (some (.ref x.2.1))&&typeIn K (.ref x.2.1)==some (.type "function")&&(clsIn K x.1).isSome&&(lk ftable x.2.1).isSome&&(lk ftable x.1).isNone)
noncomputable def ZD(K:Frag):List Bool:=[xG.all (aBz K),[105,126,439,458,563,598].all (aBx K),[105,126,439,458,563,598,84].all (aBw K),
 findIn K (.ref 84) "__getattribute__"==some (some (.builtin "BaseException.__getattribute__")),findIn K (.ref 84) "__getattr__"==some none,mroIn K 84 (.type "BaseException")==some true,hasDictIn K 84,
 findIn K (.ref 84) "__setattr__"==some (some (.builtin "object.__setattr__")),mQ K 3,mQ K 2,nsIn K 2 "sys.recursionlimit"==some none,nT.all (aBy K),
 K.all fun p=>!(p.2.cls==.type "frame")&&!(p.2.cls==.type "traceback"),(K.lookup 822).isSome,isIn K (.ref 105) 105,isIn K (.ref 126) 126,isNotI K 126 105,isNotIn K "str" 105,isNotIn K "str" 126,
 readsIn K 283 (.type "type"),specialIn K (.ref 283) "__getattribute__"==some (some (.builtin "type.__getattribute__")),nsIn K cStatics "thirdparty.any"==some none,
 findIn K (.type "type") "__getattribute__"==some (some (.builtin "type.__getattribute__")),subIn K (.type "type") (.type "type")==some true,xX.all (ZE K),mQ K (cI K 84).ns,
 nsIn K (cI K 84).ns "__init__"==some (some (.ref 81)),typeIn K (.ref 81)==some (.type "function"),nsIn K 3 "law"==some (some (.ref 822))]
noncomputable def YP(K:Frag):Obj:=excClassObj (cI K 84).name (cI K 84).qualname 84 (cI K 84).ns (cI K 84).bases [.type "Exception",.type "BaseException",.type "object"]
  (cI K 84).hasDict (cI K 84).slotNames (cI K 84).subclasses (cI K 84).abstract (cI K 84).collection (kZ K 84).dict
  ((kZ K 84).slots.getD 0 none) ((kZ K 84).slots.getD 1 none) ((kZ K 84).slots.getD 2 none) ((kZ K 84).slots.getD 3 none) ((kZ K 84).slots.getD 5 none) "Exception.__new__"
noncomputable def fkL(K:Frag):=((ZD K).all id,[105,126,439,458,563,598,84].map fun C self=>refuseLoop self "__setattr__" (cI K C).mro,K.lookup 84,findCls K (.ref 283) (.type "type") "__init__",findCls K (.type "Exception") (.type "type") "__init__")
noncomputable def fkR(K:Frag):=(true,[105,126,439,458,563,598,84].map fun _(_:Value)=>(Pure.pure ():Sem Unit),some (YP K),some (CFound.val (.ref 217)),some (CFound.val (.builtin "Exception.__init__")))
structure Facts(K:Frag):Prop where
 a:fkL K=fkR K
 f:∀prog w mb V,ftable.map (fnL K)=ftable.map (fnR (theG K prog w mb V))
section
variable{K:Frag}(H:Facts K)
include H
theorem Facts.at(i:Nat){b:Bool}(h:(ZD K)[i]?=some b):b=true :=
 List.all_eq_true.mp (congrArg (·.1) H.a) b (List.mem_of_getElem? h)
theorem Facts.fn (prog w mb V){f:Nat}{F:Fn}(h:lk ftable f=some F):FnOK (theG K prog w mb V) f F :=
 aAm (x:=(f,F)) rfl (List.map_inj_left.mp (H.f prog w mb V) _ (hV h))
theorem Facts.ref{C:Nat}(h:cW C [105,126,439,458,563,598,84]=true)(self:Value):refuseLoop self "__setattr__" (cI K C).mro=Pure.pure () :=
 congrFun (List.map_inj_left.mp (show[105,126,439,458,563,598,84].map (fun C self=>refuseLoop self "__setattr__" (cI K C).mro)=[105,126,439,458,563,598,84].map fun _ _=>Pure.pure () from congrArg (·.2.1) H.a) C (eI h)) self
theorem Facts.e84:K.lookup 84=some (YP K):=congrArg (·.2.2.1) H.a
theorem Facts.c283:findCls K (.ref 283) (.type "type") "__init__" = some (.val (.ref 217)):=congrArg (·.2.2.2.1) H.a
theorem Facts.cexc:findCls K (.type "Exception") (.type "type") "__init__" = some (.val (.builtin "Exception.__init__")):=congrArg (·.2.2.2.2) H.a
end
end
section
open PySem.Calls
structure VOK(V:Query→Prop):Prop where
 veq:∀a b,V (.eq a b)→a=b
 vget:∀m k v,V (.get m k v)→(getT m k).getD .none=v
 vabs:∀m k,V (.absent m k)→getT m k=none∧m.length≤1000
 vsmall:∀xs,V (.small xs)→xs.length≤100000
 vlt:∀a b t,V (.lt a b t)→decide (a<b)=t
 vat:∀xs k v,V (.at xs k v)→atI xs k=some v
 veqs:∀xs ys,V (.eqs xs ys)→DEq xs ys
 vmem:∀kk xs t,V (.mem kk xs t)→DMem kk xs t
noncomputable def BootOK(mb:Str→Option Value):Prop:=∀x:Str,x≠("__name__" : Str)→mb x=bootBuiltins x
section
variable(prog:Program)(w:World)(mb:Str→Option Value)(V:Query→Prop){K:Frag}
theorem MI{h:Heap}(X:K.In h)(e:nsIn K cStatics "thirdparty.any" = some none):Looks (model prog w) h (opaqueClassAbove (.type "Exception")) none :=
 Looks.of_pure (by show(if Manifest.isStub "Exception" = true then pure (some ("Exception" : Str))else pure none:Sem (Option Str))=pure none;rw[if_neg (show ¬(Manifest.isStub "Exception" = true)by decide +kernel)])
theorem zA:typeOf (.type "Exception")=pure (.type "type"):=by kernel_rfl
set_option tactic.hygienic true in
theorem ZC(H:Facts K){c:SV}{n:Nat}{v:SV}(h:tCm c n=some v):(∃C,c = .top C∨∃T,c = .ty T)∧VR ⟨[],[]⟩ v (rv v)∧∀(A:Around)(Q:Value×List Value→Shared→Prop) E(s:Shared) pl,Frag.In K s.heap→(∀tk,Q (rv v,[]) { s with toks:=tk })→wpAny (model prog w) A (getMethod (rv c) (tAn n) pl) Q E s:=by
 have nm:tAn 9 = "__init__":=by decide +kernel
 unfold tCm at h
 split at h
 ·rename_i n'
  cases q:Nat.beq n 9 with
  |false=>rw[q]at h;cases h
  |true =>
   rw[q]at h;cases h
   have:=dA q;subst this
   refine⟨⟨0,.inr ⟨_,rfl⟩⟩,rfl,fun A Q E s pl X k=>?_⟩
   rw[nm]
   show wpAny _ _ (getMethod (.type "Exception") "__init__" pl) Q E s
   unfold getMethod
   refine wpAny_bind (((Looks.of_pure zA).andThen (looks_findIn X (eq_of_beq (H.at 22 rfl))):Looks (model prog w) s.heap (specialOf (.type "Exception") "__getattribute__") _).here ?_)
   dsimp only
   rw[if_pos canon_tga]
   refine wpAny_bind (wpAny_mono (Q:=fun v=>Q (v,[])) (cls_open X (MI prog w X (eq_of_beq (H.at 21 rfl))) (Looks.of_pure zA) (eq_of_beq (H.at 22 rfl)) (looks_hook X (mc:=.type "type") (r:=none) rfl) (eq_of_beq (H.at 23 rfl)) H.cexc ?_) (fun _ _ z=>wpAny_pure z) fun _ _ z=>z)
   exact wpAny_pure (by show wpAny _ _ (handedOut (.builtin "Exception.__init__")) _ _ _;rw[handedOut_of (show handedIn (.builtin "Exception.__init__")=true by decide +kernel)];exact wpAny_pure (k _))
 ·rename_i x1 C
  cases q:Nat.beq C 283&&Nat.beq n 9 with
  |false=>rw[q]at h;cases h
  |true =>
   rw[q]at h;cases h
   obtain⟨q1,q2⟩:=aN q
   have:=dA q1;subst this
   have:=dA q2;subst this
   refine⟨⟨_,.inl rfl⟩,rfl,fun A Q E s pl X k=>?_⟩
   rw[nm]
   exact method_cls X (eq_of_beq (H.at 20 rfl)) (cls_value X (H.at 19 rfl) H.c283 rfl (k _))
 ·cases h
theorem fld{K:Frag}{P:Nat→Bool}{l:List Nat}(h:l.all P=true){C:Nat}(hc:cW C l=true):P C=true:=List.all_eq_true.mp h C (eI hc)
theorem JX(H:Facts K){C n:Nat}{x:Option Nat}(h:tCa C n=some x):match x with
  |some f=>findIn K (.ref C) (tAn n)=some (some (.ref f))∧typeIn K (.ref f)=some (.type "function")
  |none=>findIn K (.ref C) (tAn n)=some none:=by
 obtain⟨ms,hn,hm,hl⟩:=UI h
 have:=List.all_eq_true.mp (H.at 0 rfl) _ hm
 have:=List.all_eq_true.mp this n (List.mem_range.mpr hn)
 simp only[hl]at this
 cases x with
 |none=>exact eq_of_beq this
 |some f=>obtain⟨a,b⟩:=aN this;exact⟨eq_of_beq a,eq_of_beq b⟩
theorem XV{n:Nat}{id:BI}(h:lk [(35,BI.pop),(55,.append),(70,.index)] n=some id):Slot "list" (tAn n) id.id∧typeOf (.builtin id.id)=pure (.type "method_descriptor"):=by
 have:=hV h
 simp only[List.mem_cons,Prod.mk.injEq,List.not_mem_nil,or_false]at this
 rcases this with⟨rfl,rfl⟩|⟨rfl,rfl⟩|⟨rfl,rfl⟩
 ·exact⟨(show tAn 35 = "pop" by decide +kernel)▸PySem.F.slot_list_pop,PySem.F.type_list_pop⟩
 ·exact⟨(show tAn 55 = "append" by decide +kernel)▸PySem.F.slot_list_append,PySem.F.type_list_append⟩
 ·exact⟨(show tAn 70 = "index" by decide +kernel)▸PySem.F.slot_list_index,PySem.F.type_list_index⟩
theorem YW{n:Nat}{id:BI}(h:lk [(35,BI.dpop),(53,.dget)] n=some id):Slot "dict" (tAn n) id.id∧typeOf (.builtin id.id)=pure (.type "method_descriptor"):=by
 have:=hV h
 simp only[List.mem_cons,Prod.mk.injEq,List.not_mem_nil,or_false]at this
 rcases this with⟨rfl,rfl⟩|⟨rfl,rfl⟩
 ·exact⟨(show tAn 35 = "pop" by decide +kernel)▸PySem.F.slot_dict_pop,PySem.F.type_dict_pop⟩
 ·exact⟨(show tAn 53 = "get" by decide +kernel)▸PySem.F.slot_dict_get,PySem.F.type_dict_get⟩
theorem VN{n:Nat}{id:BI}(h:lk [(67,BI.join),(68,.split)] n=some id):Slot "str" (tAn n) id.id∧typeOf (.builtin id.id)=pure (.type "method_descriptor"):=by
 have:=hV h
 simp only[List.mem_cons,Prod.mk.injEq,List.not_mem_nil,or_false]at this
 rcases this with⟨rfl,rfl⟩|⟨rfl,rfl⟩
 ·exact⟨(show tAn 67 = "join" by decide +kernel)▸PySem.F.slot_str_join,PySem.F.type_str_join⟩
 ·exact⟨(show tAn 68 = "split" by decide +kernel)▸PySem.F.slot_str_split,PySem.F.type_str_split⟩
theorem YJ(H:Facts K)(B:BootOK mb){i:Nat}{n:Str}{v:SV}(h:nT[i]?=some (n,v)):(n==("__debug__" : Str))=false∧VR ⟨[],[]⟩ v (rv v)∧∀hp,Frag.In K hp→(∃mg,hp.Ns mainGlobals mg∧mg n=some (rv v)) ∨
  ∃mg,hp.Ns mainGlobals mg∧mg n=none∧mb n=some (rv v):=by
 have:=List.all_eq_true.mp (H.at 11 rfl) _ (List.mem_of_getElem? h)
 obtain⟨q,q3⟩:=aN this
 obtain⟨q1,q2⟩:=aN q
 have nn:n≠("__name__" : Str):=by simpa using q2
 refine⟨by simpa using q1,?_,fun hp X=>?_⟩
 ·simp only at q3
  split at q3<;>first|rfl|cases q3
 ·obtain⟨mg,hmg,at_⟩:=zW X (H.at 8 rfl)
  simp only at q3
  split at q3
  ·exact .inl ⟨mg,hmg,at_ _ _ (eq_of_beq q3)⟩
  ·obtain⟨a,b⟩:=aN q3
   exact .inr ⟨mg,hmg,at_ _ _ (eq_of_beq a),by rw[B n nn];exact eq_of_beq b⟩
  ·obtain⟨a,b⟩:=aN q3
   exact .inr ⟨mg,hmg,at_ _ _ (eq_of_beq a),by rw[B n nn];exact eq_of_beq b⟩
  ·cases q3
theorem DZ{C:Nat}(h:cW C [84]=true):C=84:=by
 have:=eI h;simpa using this
theorem VM(H:Facts K){C:Nat}(h:cW C [105,126,439,458,563,598,84]=true):∃cd,clsIn K C=some cd∧cd.hasDict=true∧cd.mro.isEmpty=false∧cd.mro.contains (.type "object")=true∧(∀self,refuseLoop self "__setattr__" cd.mro=pure ()) ∧
  findIn K (.ref C) "__setattr__" = some (some (.builtin "object.__setattr__")):=by
 obtain⟨q,q5⟩:=aN (fld (K:=[]) (H.at 2 rfl) h)
 obtain⟨q,q4⟩:=aN q
 obtain⟨q,q3⟩:=aN q
 obtain⟨q1,q2⟩:=aN q
 obtain⟨cd,hcd⟩:=Option.isSome_iff_exists.mp q1
 have e:cI K C=cd:=by unfold cI;rw[hcd]
 exact⟨cd,hcd,e▸q2,e▸zX q3,e▸q4,e▸H.ref h,eq_of_beq q5⟩
theorem KX(H:Facts K)(O:VOK V)(B:BootOK mb):GOK (theG K prog w mb V) where
 inj:=YK
 ca0:=fun C n h=>JX H h
 ca1:=fun C n f h=>JX H h
 pc:=fun C h=>by
  obtain⟨q,q4⟩:=aN (fld (K:=[]) (H.at 1 rfl) h)
  obtain⟨q,q3⟩:=aN q
  obtain⟨q1,q2⟩:=aN q
  exact⟨q1,q2,eq_of_beq q3,q4⟩
 xc:=fun C h=>by have:=DZ h;subst this;exact⟨eq_of_beq (H.at 3 rfl),eq_of_beq (H.at 4 rfl),eq_of_beq (H.at 5 rfl),H.at 6 rfl,eq_of_beq (H.at 7 rfl)⟩
 st:=fun C h=>VM H (by
  rcases Bool.or_eq_true_iff.mp h with h|h
  ·have:=eI h
   simp only[List.mem_cons,List.not_mem_nil,or_false]at this
   rcases this with rfl|rfl|rfl|rfl|rfl|rfl<;>rfl
  ·have:=DZ h;subst this;rfl)
 lm:=fun n id h=>XV h
 dm:=fun n id h=>YW h
 sm:=fun n id h=>VN h
 cm:=fun c n v h=>ZC prog w H h
 veq:=O.veq
 vget:=O.vget
 vabs:=O.vabs
 vsmall:=O.vsmall
 vlt:=O.vlt
 vat:=O.vat
 veqs:=O.veqs
 vmem:=O.vmem
 big:=fun h X=>by
  obtain⟨o,ho⟩:=Option.isSome_iff_exists.mp (H.at 13 rfl)
  exact Heap.lt_size (X _ _ ho)
 gl:=fun i n v h=>YJ mb H B h
 nolim:=fun h X=>by
  obtain⟨mg,hmg,at_⟩:=zW X (H.at 9 rfl)
  exact⟨mg,hmg,at_ _ _ (eq_of_beq (H.at 10 rfl))⟩
 cls:=fun a o h=>by
  have hm:(a,o)∈K:=by
   have:∀(l:Frag),l.lookup a=some o→(a,o)∈l:=by
    intro l
    induction l with
    |nil=>intro h;cases h
    |cons x r ih =>
     obtain⟨b,y⟩:=x
     intro h
     rw[List.lookup_cons]at h
     split at h
     ·rename_i q;cases h;have:=eq_of_beq q;subst this;exact .head _
     ·exact .tail _ (ih h)
   exact this _ h
  have:=List.all_eq_true.mp (H.at 12 rfl) _ hm
  obtain⟨a1,a2⟩:=aN this
  exact⟨by simpa using a1,by simpa using a2⟩
theorem EF(H:Facts K)(O:VOK V)(B:BootOK mb):GOK2 (theG K prog w mb V) where
 toGOK:=KX prog w mb V H O B
 is1:=fun p hp=>by
  have:p=(105,105)∨p=(126,126):=by simpa [theG]using hp
  rcases this with rfl|rfl
  ·exact H.at 14 rfl
  ·exact H.at 15 rfl
 is0:=fun p hp=>by
  have:p=(126,105):=by simpa [theG]using hp
  subst this;exact H.at 16 rfl
 isn:=fun C hc=>by
  have:C=105∨C=126:=by simpa [theG]using hc
  rcases this with rfl|rfl
  ·exact H.at 17 rfl
  ·exact H.at 18 rfl
 exc:=fun C h=>by
  have:=DZ h;subst this
  exact⟨_,_,_,_,_,_,_,_,_,_,_,_,_,_,_,_,H.e84,PySem.F.excBase_Exception⟩
end
end
section
open PySem.Calls
theorem FnOK.con{G:Gl}{f:Nat}{F:Fn}(h:FnOK G f F)(b:Bool):FnOK G f { F with con:=b }:=⟨h.obj,h.dbg,h.nd,h.np,h.small,h.wf⟩
noncomputable def pgC(cs:List Nat):Pg where
 fn:=fun f=>(lk ftable f).map fun F=>{ F with con:=cW f cs }
 kl:=fun C=>lk xX C
section
variable(prog:Program)(w:World)(mb:Str→Option Value)(V:Query→Prop){K:Frag}
theorem SZ:(xX.all fun x=>!x.2.2||(Nat.beq x.1 84&&Nat.beq x.2.1 81))=true:=by decide +kernel
theorem UG{K:Frag}{C:Nat}{cd:ClassData}(h:clsIn K C=some cd):∃o,K.lookup C=some o∧o.data = .cls cd:=by
 unfold clsIn at h
 split at h
 ·rename_i q;cases h;exact⟨_,q,rfl⟩
 ·cases h
theorem wW(H:Facts K)(cs:List Nat):wI (theG K prog w mb V) (pgC cs) where
 fn:=fun f F h=>by
  obtain⟨F0,h0,rfl⟩:=Option.map_eq_some_iff.mp h
  exact(H.fn prog w mb V h0).con _
 kl:=fun C i h=>by
  have:=List.all_eq_true.mp (H.at 24 rfl) _ (hV h)
  unfold ZE at this
  simp only[Bool.false_or]at this
  obtain⟨q,q6⟩:=aN this
  obtain⟨q,q5⟩:=aN q
  obtain⟨q,q4⟩:=aN q
  obtain⟨q,q3⟩:=aN q
  obtain⟨q1,q2⟩:=aN q
  obtain⟨cd,hcd⟩:=Option.isSome_iff_exists.mp q4
  refine⟨q1,eq_of_beq q2,eq_of_beq q3,fun hp X=>?_,?_,?_⟩
  ·obtain⟨o,h1,h2⟩:=UG hcd
   exact⟨o,cd,X _ _ h1,h2⟩
  ·show((lk ftable i).map fun F=>{ F with con:=cW i cs }).isSome=true
   rw[Option.isSome_map];exact q5
  ·show((lk ftable C).map fun F=>{ F with con:=cW C cs })=none
   rw[Option.isNone_iff_eq_none.mp q6];rfl
 kx:=fun C i h=>by
  have:=List.all_eq_true.mp SZ _ (hV h)
  simp only[Bool.not_true,Bool.false_or]at this
  obtain⟨q1,q2⟩:=aN this
  have:=dA q1;subst this
  have:=dA q2;subst this
  refine⟨rfl,?_,?_,?_⟩
  ·show((lk ftable 81).map fun F=>{ F with con:=cW 81 cs }).isSome=true
   rw[Option.isSome_map];decide +kernel
  ·show((lk ftable 84).map fun F=>{ F with con:=cW 84 cs })=none
   rw[show lk ftable 84=none from rfl];rfl
  ·obtain⟨oi,h1,h2⟩:=Option.map_eq_some_iff.mp (show(K.lookup 81).map (·.cls)=some (.type "function") from eq_of_beq (H.at 27 rfl))
   refine⟨oi,fun n=>(nsIn K (cI K 84).ns n).getD none,_,_,_,_,_,_,_,_,_,_,_,_,_,_,_,_,H.e84,PySem.F.excBase_Exception,h1,h2,?_,?_⟩
   ·show(nsIn _ _ _).getD none=_
    rw[eq_of_beq (H.at 26 rfl)];rfl
   ·intro hp X
    obtain⟨mg,hmg,at_⟩:=zW X (H.at 25 rfl)
    have:mg=fun n=>(nsIn K (cI K 84).ns n).getD none:=by
     funext n
     exact WV (H.at 25 rfl) at_ n
    rw[←this];exact hmg
end
end
section
open PySem.Calls
noncomputable def adK:List Nat:=[2,3,35,37,38,50,51,62,63,74,83,84,95,104,105,125,126,132,210,282,283,330,386,401,438,439,457,458,539,562,563,597,598]++ftable.flatMap fun x=>[x.1,x.1 - 1]
noncomputable def fragOf(h:Heap):Frag:=adK.filterMap fun a=>(h.get? a).map fun o=>(a,o)
noncomputable def VQ(x:Option (Flow×SharedT×Code×Pos)):=(x.isSome,x.map fun x=>(HQ x.1,x.2.2.1,Nat.beq x.2.1.n 823,fkL (fragOf x.2.1.abs.heap)))
noncomputable def VP(x:Option (Flow×SharedT×Code×Pos)):=(true,x.map fun x=>(true,cE,true,fkR (fragOf x.2.1.abs.heap)))
theorem TL(w:World)(os:OsState):VQ (hW w os)=VP (hW w os):=by kernel_rfl
theorem YI(w:World)(os:OsState)(prog:Program)(w2:World)(mb:Str→Option Value)(V:Query→Prop):((hW w os).map fun x=>ftable.map (fnL (fragOf x.2.1.abs.heap)))=(hW w os).map fun x=>ftable.map (fnR (theG (fragOf x.2.1.abs.heap) prog w2 mb V)):=by kernel_rfl
end
section
open PySem.Calls
noncomputable def rnV(g:Nat→SV):SV→SV
 |.ref i=>g i
 |v=>v
noncomputable def rnD(g:Nat→SV):Option Nat→Option (Option Nat)
 |none=>some none
 |some i=>match g i with
  |.ref j=>some (some j)
  |_=>none
noncomputable def rnO(g:Nat→SV)(w:Nat→SV→SV):SO→SO
 |.inst C d=>match rnD g d with
  |some d'=>.inst C d'
  |none=>.dead
 |.exc C d ctx tb=>match rnD g d with
  |some d'=>.exc C d' (rnV g ctx) tb
  |none=>.dead
 |.idict m=>.idict (m.map fun x=>(x.1,w x.1 (rnV g x.2)))
 |.list xs=>.list (xs.map (rnV g))
 |.tuple xs=>.tuple (xs.map (rnV g))
 |.sdict m=>.sdict (m.map fun x=>(x.1,rnV g x.2))
 |.iter c xs=>.iter c (xs.map (rnV g))
 |.lit l k=>.lit (rnV g l) k
 |o=>o
noncomputable def eY(w:Nat→SV→SV):Prop:=∀n v ρ x,VR ρ v x→VR ρ (w n v) x
theorem xV{α β:Type}(f:Nat→α→β)(i:Nat):∀m:List (Nat×α),lk (m.map fun x=>(x.1,f x.1 x.2)) i=(lk m i).map (f i)
 |[]=>rfl
 |(j,v)::r=>by
  show(bif Nat.beq j i then some (f j v)else lk (r.map _) i)=Option.map (f i) (bif Nat.beq j i then some v else lk r i)
  cases q:Nat.beq j i with
  |true=>have:=dA q;subst this;rfl
  |false=>exact xV f i r
theorem gC{α β γ:Type}{R:α→β→Prop}{R':γ→β→Prop}{f:α→γ}(h:∀a b,R a b→R' (f a) b):∀{l:List α}{r:List β},aK R l r→aK R' (l.map f) r
 |[],[],_=>trivial
 |_::_,_::_,x=>⟨h _ _ x.1,gC h x.2⟩
 |[],_::_,x=>x.elim
 |_::_,[],x=>x.elim
section
variable{G:Gl}{ρ ρ':Tr}{h h':Heap}{g:Nat→SV}{w:Nat→SV→SV}
theorem VR.rn(hg:∀(i:Nat) b,ρ.a[i]?=some b→VR ρ' (g i) (.ref b))(hz:∀x∈ρ.z,x∈ρ'.z){v:SV}{x:Value}(r:VR ρ v x):VR ρ' (rnV g v) x:=by
 cases v with
 |ref i=>obtain⟨a,ha,rfl⟩:=r;exact hg i a ha
 |fz o=>obtain⟨a,ha,e⟩:=r;exact⟨a,hz _ ha,e⟩
 |_=>exact r
set_option tactic.hygienic true in
theorem lV.rn (hg:∀ (i:Nat) b,ρ.a[i]?=some b→VR ρ' (g i) (.ref b)){d d':Option Nat}{dr:Option Addr}(r:lV ρ d dr)(e:rnD g d=some d'):lV ρ' d' dr:=by
  cases d with
  | none=>cases e;exact r
  | some i =>
    obtain ⟨x,hx,rfl⟩:=r
    have:=hg i x hx
    unfold rnD at e
    simp only at e
    split at e
    · rename_i j q
      cases e
      rw [q] at this
      obtain ⟨a,ha,q⟩:=this
      cases q
      exact ⟨x,ha,rfl⟩
    · cases e
set_option tactic.hygienic true in
theorem OR.rn (hg : ∀ (i : Nat) b, ρ.a[i]? = some b → VR ρ' (g i) (.ref b)) (hz : ∀ x ∈ ρ.z, x ∈ ρ'.z) (hw : eY w) {a : Addr} {o : SO} (r : OR G ρ h a o) : OR G ρ' h a (rnO g w o) := by
  cases o with
  | inst C d =>
    obtain ⟨o, e, r3⟩ := r
    show OR G ρ' h a (match rnD g d with | some d' => .inst C d' | none => .dead)
    cases q : rnD g d with
    | none => trivial
    | some d' => exact ⟨o, e, r3.rn hg q⟩
  | exc C d ctx tb0 =>
    obtain ⟨o, vs, cx, t, e, r1, r2, r3, r4, r5, r6, r7, r8, r9⟩ := r
    show OR G ρ' h a (match rnD g d with | some d' => .exc C d' (rnV g ctx) tb0 | none => .dead)
    cases q : rnD g d with
    | none => trivial
    | some d' => exact ⟨o, vs, cx, t, e, r1, r2, r3, r4.rn hg q, r5, r6.rn hg hz, r7, r8, r9⟩
  | idict m =>
    obtain ⟨mr, es, ep, e, r5, r2, r3⟩ := r
    refine ⟨mr, es, ep, e, by rw [List.length_map]; exact r5, r2, fun i => ?_⟩
    have := r3 i
    rw [xV (fun n v => w n (rnV g v)) i m]
    split at this
    · rename_i v q
      obtain ⟨x, hx, hv⟩ := this
      rw [q]
      exact ⟨x, hx, hw _ _ _ _ (hv.rn hg hz)⟩
    · rename_i q
      rw [q]; exact this
  | list xs => obtain ⟨vs, n, e, r3⟩ := r; exact ⟨vs, n, e, gC (fun _ _ z => z.rn hg hz) r3⟩
  | clist xs => obtain ⟨vs, n, e, r3, r4⟩ := r; refine ⟨vs, n, e, ?_, r4⟩
                exact (by
                  have : ∀ {l : List SV} {r : List Value}, (∀ x ∈ l, clV x = true) → aK (VR ρ) l r → aK (VR ρ') l r := by
                    intro l
                    induction l with
                    | nil => intro r _ h; cases r <;> exact h
                    | cons x l ih =>
                      intro r hc h
                      cases r with
                      | nil => exact h
                      | cons y r =>
                        refine ⟨?_, ih (fun x hx => hc x (.tail _ hx)) h.2⟩
                        have q := h.1.rn (ρ' := ρ') hg hz
                        have c := hc x (.head _)
                        cases x <;> first | exact q | cases c
                  exact this r4 r3)
  | tuple xs => obtain ⟨vs, n, e, r3⟩ := r; exact ⟨vs, n, e, gC (fun _ _ z => z.rn hg hz) r3⟩
  | sdict m => obtain ⟨kvs, es, ep, e, r2, r3⟩ := r; exact ⟨kvs, es, ep, e, r2, gC (f := fun x : Str × SV => (x.1, rnV g x.2)) (fun _ _ z => ⟨z.1, z.2.rn hg hz⟩) r3⟩
  | tdict m =>
    obtain ⟨xs, es, ep, e, r1, r2, r3⟩ := r
    refine ⟨xs, es, ep, e, r1, r2, r3.imp fun x _ z => ⟨z.1, ?_, hz _ z.2.2.1, z.2.2.2⟩⟩
    have q := z.2.1.rn (ρ' := ρ') hg hz
    have c := z.2.2.2
    obtain ⟨k, v⟩ := x
    cases v <;> first | exact q | cases c
  | iter cl xs => obtain ⟨vs, e, r3⟩ := r; exact ⟨vs, e, gC (fun _ _ z => z.rn hg hz) r3⟩
  | lit l k => obtain ⟨o, p, e, r1, r2, r3⟩ := r; exact ⟨o, p, e, r1, r2.rn hg hz, r3⟩
  | finst C m => obtain ⟨dx, e, r⟩ := r; exact ⟨dx, hz _ e, r⟩
  | dead => trivial
theorem aC:eY fun _ v=>v:=fun _ _ _ _ h=>h
theorem GI{l:List SV}(h:l.all clV=true):l.map (rnV g)=l:=by
 induction l with
 |nil=>rfl
 |cons x l ih =>
  obtain⟨a,b⟩:=Bool.and_eq_true_iff.mp (show(clV x&&l.all clV)=true from h)
  rw[List.map_cons,ih b]
  cases x<;>first|rfl|cases a
theorem RH{o:SO}(h:clO o=true):rnO g (fun _ v=>v) o=o:=by
 cases o with
 |idict m =>
  show SO.idict _=_
  congr 1
  have h:(m.all fun x=>clV x.2)=true:=h
  induction m with
  |nil=>rfl
  |cons x l ih =>
   obtain⟨a,b⟩:=Bool.and_eq_true_iff.mp (show(clV x.2&&l.all fun x=>clV x.2)=true from h)
   rw[List.map_cons,ih b b]
   obtain⟨k,v⟩:=x
   cases v<;>first|rfl|cases a
 |list xs=>show SO.list _=_;rw[GI h]
 |tuple xs=>show SO.tuple _=_;rw[GI h]
 |finst C m=>rfl
 |clist xs=>rfl
 |_=>cases h
theorem OR.cl(hz:∀x∈ρ.z,x∈ρ'.z){a:Addr}{o:SO}(hc:clO o=true)(r:OR G ρ h a o):OR G ρ' h a o:=by
 have:=r.rn (ρ':=ρ') (g:=fun _=>.any) (w:=fun _ v=>v) (fun _ _ _=>rfl) hz aC
 rwa[RH hc]at this
end
end
section
open PySem.Calls
noncomputable def pos:List Nat→Nat→Nat→Option Nat
 |[],_,_=>none
 |x::r,j,k=>bif Nat.beq x j then some k else pos r j (k+1)
theorem eA:∀{l:List Nat}{j k i:Nat},pos l j k=some i→∃t,i=k+t∧l[t]?=some j
 |[],_,_,_,h=>by cases h
 |x::r,j,k,i,h=>by
  have h:(bif Nat.beq x j then some k else pos r j (k+1))=some i:=h
  cases q:Nat.beq x j with
  |true=>rw[q]at h;cases h;exact⟨0,rfl,by rw[←dA q];rfl⟩
  |false =>
   rw[q]at h
   obtain⟨t,e,z⟩:=eA h
   exact⟨t+1,by lia,z⟩
theorem jM:∀{l:List Nat}{j k:Nat},pos l j k=none→j∉l
 |[],_,_,_=>by simp
 |x::r,j,k,h=>by
  have h:(bif Nat.beq x j then some k else pos r j (k+1))=none:=h
  cases q:Nat.beq x j with
  |true=>rw[q]at h;cases h
  |false =>
   rw[q]at h
   intro z
   rcases List.mem_cons.mp z with e|z
   ·exact wF q e.symm
   ·exact jM h z
noncomputable def dH(ψ:List Nat)(j:Nat):SV:=match pos ψ j 0 with
 |some i=>.ref i
 |none=>.any
noncomputable def nat? {α:Type}(l:List α)(i:Nat)(d:α):α:=match l,i with
 |[],_=>d
 |x::_,0=>x
 |_::r,i+1=>nat? r i d
theorem nat?_eq{α:Type}{d:α}:∀{l:List α}{i:Nat}{x:α},l[i]?=some x→nat? l i d=x
 |[],_,_,h=>by simp at h
 |y::_,0,x,h=>by simp at h;exact h
 |_::r,i+1,x,h=>nat?_eq (l:=r) (by simpa using h)
noncomputable def EN(w:Nat→SV→SV)(ψ:List Nat)(raw:List SO):List SO:=ψ.map fun p=>rnO (dH ψ) w (nat? raw p .dead)
noncomputable def Tr.sel(ρ:Tr)(ψ:List Nat):Tr:=⟨ψ.map fun p=>nat? ρ.a p 0,ρ.z⟩
noncomputable def ZG(n:Nat)(l:List Nat):Bool:=l.all fun x=>Nat.blt x n
noncomputable def xE:List Nat→Bool
 |[]=>true
 |x::r=>(pos r x 0).isNone&&xE r
theorem pP:∀{l:List Nat},xE l=true→l.Nodup
 |[],_=>List.nodup_nil
 |x::r,h=>by
  obtain⟨a,b⟩:=Bool.and_eq_true_iff.mp h
  exact List.nodup_cons.mpr ⟨jM (Option.isNone_iff_eq_none.mp a),pP b⟩
noncomputable def eD(ψ:List Nat)(n:Nat):Bool:=ZG n ψ&&xE ψ
theorem eC{ψ:List Nat}{n:Nat}(h:eD ψ n=true){p:Nat}(hp:p∈ψ):p<n:=Nat.le_of_ble_eq_true (List.all_eq_true.mp (Bool.and_eq_true_iff.mp h).1 p hp)
theorem FW{ψ:List Nat}{n:Nat}(h:eD ψ n=true):ψ.Nodup:=pP (Bool.and_eq_true_iff.mp h).2
section
variable{G:Gl}{ρ ρ':Tr}{h h':Heap}{w:Nat→SV→SV}{objs:List SO}{ψ:List Nat}
theorem fA{i:Nat}{b:Addr}(hb:(ρ.sel ψ).a[i]?=some b)(hl:∀p∈ψ,p<ρ.a.length):∃p,ψ[i]?=some p∧ρ.a[p]?=some b:=by
 unfold Tr.sel at hb
 rw[List.getElem?_map]at hb
 obtain⟨p,hp,rfl⟩:=Option.map_eq_some_iff.mp hb
 have:=hl p (List.mem_of_getElem? hp)
 exact⟨p,hp,by rw[List.getElem?_eq_getElem this,nat?_eq (List.getElem?_eq_getElem this)]⟩
theorem kD{i p:Nat}{b:Addr}(hp:ψ[i]?=some p)(hb:ρ.a[p]?=some b):(ρ.sel ψ).a[i]?=some b:=by
 unfold Tr.sel
 rw[List.getElem?_map,hp]
 exact congrArg some (nat?_eq hb)
theorem kE(i:Nat)(b:Addr)(hb:ρ.a[i]?=some b):VR (ρ.sel ψ) (dH ψ i) (.ref b):=by
 unfold dH
 cases q:pos ψ i 0 with
 |none=>rfl
 |some k =>
  obtain⟨t,e,z⟩:=eA q
  have:k=t:=by lia
  subst this
  exact⟨b,kD z hb,rfl⟩
theorem eZ{b:Addr}(hb:b∈(ρ.sel ψ).a)(hl:∀p∈ψ,p<ρ.a.length):∃p∈ψ,ρ.a[p]?=some b:=by
 obtain⟨i,hi⟩:=List.getElem?_of_mem hb
 obtain⟨p,hp,e⟩:=fA hi hl
 exact⟨p,List.mem_of_getElem? hp,e⟩
theorem mI{l:List Addr}(nd:l.Nodup){i j:Nat}{b:Addr}(hi:l[i]?=some b)(hj:l[j]?=some b):i=j:=by
 obtain⟨li,ei⟩:=List.getElem?_eq_some_iff.mp hi
 obtain⟨lj,ej⟩:=List.getElem?_eq_some_iff.mp hj
 exact dD nd li lj (ei.trans ej.symm)
theorem Rep.sel(R:Rep G ρ objs h)(hw:eY w)(ok:eD ψ objs.length=true):Rep G (ρ.sel ψ) (EN w ψ objs) h:=by
 have hl:∀p∈ψ,p<ρ.a.length:=fun p hp=>by rw[R.len];exact eC ok hp
 refine⟨R.kin,by simp[Tr.sel,EN],?_,fun a ha=>?_,fun a ha=>?_,fun a ha=>?_,fun i o a hi ha=>?_,fun a o hz=>?_,R.bn⟩
 ·refine List.pairwise_iff_getElem.mpr fun i j li lj hij e=>?_
  obtain⟨p,hp,e1⟩:=fA (List.getElem?_eq_getElem lj) hl
  obtain⟨q,hq,e2⟩:=fA (List.getElem?_eq_getElem li) hl
  rw[e]at e2
  have:=mI R.nodup e1 e2
  subst this
  have nd:=FW ok
  obtain⟨a1,b1⟩:=List.getElem?_eq_some_iff.mp hp
  obtain⟨a2,b2⟩:=List.getElem?_eq_some_iff.mp hq
  have:=dD nd a1 a2 (b1.trans b2.symm)
  lia
 ·obtain⟨p,hp,e⟩:=eZ ha hl;exact R.off a (List.mem_of_getElem? e)
 ·obtain⟨p,hp,e⟩:=eZ ha hl;exact R.low a (List.mem_of_getElem? e)
 ·obtain⟨p,hp,e⟩:=eZ ha hl;exact R.nofr a (List.mem_of_getElem? e)
 ·obtain⟨p,hp,e⟩:=fA ha hl
  unfold EN at hi
  rw[List.getElem?_map,hp]at hi
  cases hi
  have lp:=eC ok (List.mem_of_getElem? hp)
  show OR G (ρ.sel ψ) h a (rnO (dH ψ) w (nat? objs p SO.dead))
  rw[nat?_eq (List.getElem?_eq_getElem lp)]
  exact(R.ob p _ a (List.getElem?_eq_getElem lp) e).rn kE (fun _ z=>z) hw
 ·obtain⟨r1,r2,r3,r4⟩:=R.fz a o hz
  refine⟨OR.cl (ρ:=ρ) (ρ':=ρ.sel ψ) (fun _ z=>z) r2.1 r1,r2,r3,fun i hi=>?_⟩
  obtain⟨p,hp,e⟩:=fA hi hl
  unfold EN
  rw[List.getElem?_map,hp]
  show some (rnO _ _ _)=_
  rw[nat?_eq (r4 p e)];rfl
theorem mF{n i:Nat}(h:i<n):(List.range n)[i]?=some i:=by rw[List.getElem?_range h]
theorem aF.sel{L:Addr}{s s':Shared}{ps:List Nat}(S:aF L ρ s ρ' s')(hp:∀p∈ps,ρ.a.length≤p∧p<ρ'.a.length):aF L ρ s (ρ'.sel (List.range ρ.a.length++ps)) s':=by
 obtain⟨l,e,f⟩:=S.pre
 refine⟨⟨ps.map fun p=>nat? ρ'.a p 0,?_,fun a ha=>?_⟩,S.zin,S.zout,S.same,S.dom,S.gens,S.os⟩
 ·show List.map _ _=_
  rw[List.map_append]
  congr 1
  refine List.ext_getElem? fun i=>?_
  by_cases hi:i<ρ.a.length
  ·rw[List.getElem?_map,mF hi]
   show some _=_
   rw[List.getElem?_eq_getElem hi]
   congr 1
   exact nat?_eq (by rw[e,List.getElem?_append_left hi,List.getElem?_eq_getElem hi])
  ·rw[List.getElem?_eq_none (by simp;lia),List.getElem?_eq_none (by lia)]
 ·obtain⟨p,hp',rfl⟩:=List.mem_map.mp ha
  obtain⟨h1,h2⟩:=hp p hp'
  rw[nat?_eq (List.getElem?_eq_getElem h2)]
  refine f _ ?_
  have:ρ'.a[p]?=l[p - ρ.a.length]?:=by rw[e,List.getElem?_append_right h1]
  rw[List.getElem?_eq_getElem h2]at this
  exact List.mem_of_getElem? this.symm
end
end
section
open PySem.Calls
noncomputable def gS(φ:List Nat)(n i:Nat):SV:=match φ[i]? with
 |some p=>.ref p
 |none=>.ref (n+(i - φ.length))
noncomputable def kR(f:SV→SV):Except SV SV→Except SV SV
 |.ok v=>.ok (f v)
 |.error v=>.error (f v)
noncomputable def wid:Nat→SV→SV:=fun _ v=>v
noncomputable def nD(φ:List Nat)(g:Nat→SV)(core':List SO):List SO→Nat→List SO
 |[],_=>[]
 |o::r,j=>(match pos φ j 0 with
  |some i=>rnO g wid (nat? core' i .dead)
  |none=>o)::nD φ g core' r (j+1)
noncomputable def mrg(φ:List Nat)(objs core':List SO):List SO :=
 nD φ (gS φ objs.length) core' objs 0++(core'.drop φ.length).map (rnO (gS φ objs.length) wid)
theorem pR{φ:List Nat}{g:Nat→SV}{core':List SO}:∀(l:List SO)(j:Nat),(nD φ g core' l j).length=l.length
 |[],_=>rfl
 |o::r,j=>congrArg (· + 1) (pR r (j+1))
theorem kS{φ:List Nat}{g:Nat→SV}{core':List SO}:∀(l:List SO)(k j:Nat)(o:SO),l[j]?=some o→(nD φ g core' l k)[j]?=some (match pos φ (k+j) 0 with
  |some i=>rnO g wid (nat? core' i .dead)
  |none=>o)
 |[],_,_,_,h=>by simp at h
 |x::r,k,0,o,h=>by simp at h;subst h;rfl
 |x::r,k,j+1,o,h=>by
  have:=kS (φ:=φ) (g:=g) (core':=core') r (k+1) j o (by simpa using h)
  show(nD φ g core' r (k+1))[j]?=_
  rw[this,show k+1+j=k+(j+1)by lia]
section
variable{G:Gl}{ρ ρ':Tr}{s s':Shared}{w:Nat→SV→SV}{objs core':List SO}{φ:List Nat}{L:Addr}
noncomputable def Tr.back(ρ ρ':Tr)(n:Nat):Tr:=⟨ρ.a++ρ'.a.drop n,ρ'.z⟩
theorem vQ(S:aF L (ρ.sel φ) s ρ' s')(hl:∀p∈φ,p<ρ.a.length)(i:Nat)(b:Addr)(hb:ρ'.a[i]?=some b):VR (ρ.back ρ' φ.length) (gS φ ρ.a.length i) (.ref b):=by
 obtain⟨l,e,f⟩:=S.pre
 have len:(ρ.sel φ).a.length=φ.length:=by simp[Tr.sel]
 unfold gS
 cases q:φ[i]? with
 |some p =>
  have hi:i<φ.length:=(List.getElem?_eq_some_iff.mp q).1
  rw[e,List.getElem?_append_left (by rw[len];exact hi)]at hb
  obtain⟨p',hp',e'⟩:=fA hb hl
  rw[q]at hp';cases hp'
  exact⟨b,by show(ρ.a++_)[p]?=_;rw[List.getElem?_append_left (hl p (List.mem_of_getElem? q))];exact e',rfl⟩
 |none =>
  have hi:φ.length≤i:=List.getElem?_eq_none_iff.mp q
  refine⟨b,?_,rfl⟩
  show(ρ.a++ρ'.a.drop φ.length)[ρ.a.length+(i - φ.length)]?=_
  rw[List.getElem?_append_right (Nat.le_add_right _ _),List.getElem?_drop,ZR hi]
  exact hb
theorem yI(R:Rep G ρ objs s.heap)(ok:eD φ objs.length=true)(hL:s.heap.get? L=none)(S:aF L (ρ.sel φ) s ρ' s')(R':Rep G ρ' core' s'.heap) :
  aF L ρ s (ρ.back ρ' φ.length) s'∧Rep G (ρ.back ρ' φ.length) (mrg φ objs core') s'.heap:=by
 obtain⟨l,e,f⟩:=S.pre
 have hl:∀p∈φ,p<ρ.a.length:=fun p hp=>by rw[R.len];exact eC ok hp
 have len:(ρ.sel φ).a.length=φ.length:=by simp[Tr.sel]
 have ed:ρ'.a.drop φ.length=l:=by rw[e,←len,List.drop_left]
 have ea:(ρ.back ρ' φ.length).a=ρ.a++l:=by show ρ.a++ρ'.a.drop φ.length=_;rw[ed]
 have z0:∀x∈ρ.z,x∈(ρ.back ρ' φ.length).z:=S.zin
 have selm:∀b∈(ρ.sel φ).a,b∈ρ.a:=fun b hb=>by obtain⟨p,_,e⟩:=eZ hb hl;exact List.mem_of_getElem? e
 have st:aF L ρ s (ρ.back ρ' φ.length) s':=⟨⟨l,ea,f⟩,z0,fun x hx=>by
   rcases S.zout x hx with h|h|h
   ·exact .inl h
   ·exact .inr (.inl (selm _ h))
   ·exact .inr (.inr h),fun b o hb hn=>S.same b o hb fun q=>hn (q.imp_left (selm b)),S.dom,S.gens,S.os⟩
 refine⟨st,?_⟩
 have le:Tr.Le ρ (ρ.back ρ' φ.length):=st.le
 have gb:=vQ S hl
 rw[R.len]at gb
 have keep:∀(j:Nat)(b:Addr),ρ.a[j]?=some b→pos φ j 0=none→∀o,s.heap.get? b=some o→s'.heap.get? b=some o:=by
  intro j b hj hp o ho
  obtain⟨o1,h1,h2,h3⟩:=R.nofr b (List.mem_of_getElem? hj)
  rw[ho]at h1;cases h1
  obtain⟨o',h',q⟩:=S.same b o ho (by
   rintro(hm|hm)
   ·obtain⟨p,hp',e'⟩:=eZ hm hl
    have:=mI R.nodup hj e'
    subst this
    exact jM hp hp'
   ·subst hm;rw[ho]at hL;cases hL)
  rw[q.eq h3 h2]at h';exact h'
 have tbs:∀b o,s.heap.get? b=some o→o.cls = .type "traceback"→bW s'.heap b o:=by
  intro b o ho hc
  refine S.same b o ho ?_
  rintro(hm|hm)
  ·obtain⟨o1,h1,_,h3⟩:=R.nofr b (selm b hm)
   rw[ho]at h1;cases h1
   exact h3 hc
  ·subst hm;rw[ho]at hL;cases hL
 have inρ':∀(j:Nat)(b:Addr)(i:Nat),ρ.a[j]?=some b→pos φ j 0=some i→ρ'.a[i]?=some b:=by
  intro j b i hj hp
  obtain⟨t,h1,h2⟩:=eA hp
  have:i=t:=h1.trans (Nat.zero_add t)
  subst this
  have:=kD (ρ:=ρ) h2 hj
  rw[e,List.getElem?_append_left (List.getElem?_eq_some_iff.mp this).1]
  exact this
 have mlen:(nD φ (gS φ objs.length) core' objs 0).length=objs.length:=pR _ _
 have pos0:∀j:Nat,pos φ (0+j) 0=pos φ j 0:=fun j=>by rw[Nat.zero_add]
 refine⟨R'.kin,?_,?_,fun a ha=>?_,fun a ha=>?_,fun a ha=>?_,fun j o a hj ha=>?_,fun a o hz=>?_,R'.bn⟩
 ·rw[ea]
  have:=R'.len
  rw[e,List.length_append,len]at this
  simp only[mrg,List.length_append,mlen,List.length_map,List.length_drop,R.len]
  rw[←this,Nat.add_sub_cancel_left]
 ·rw[ea]
  refine List.nodup_append.mpr ⟨R.nodup,?_,fun a ha b hb q=>?_⟩
  ·have:=R'.nodup
   rw[e]at this
   exact(List.nodup_append.mp this).2.1
  ·subst q
   obtain⟨o,ho,_⟩:=R.nofr a ha
   rw[f a hb]at ho;cases ho
 ·rw[ea]at ha
  rcases List.mem_append.mp ha with h|h
  ·exact R.off a h
  ·exact R'.off a (by rw[e];exact List.mem_append_right _ h)
 ·rw[ea]at ha
  rcases List.mem_append.mp ha with h|h
  ·exact R.low a h
  ·exact R'.low a (by rw[e];exact List.mem_append_right _ h)
 ·rw[ea]at ha
  rcases List.mem_append.mp ha with h|h
  ·obtain⟨j,hj⟩:=List.getElem?_of_mem h
   cases q:pos φ j 0 with
   |none =>
    obtain⟨o,ho,h2⟩:=R.nofr a h
    exact⟨o,keep j a hj q o ho,h2⟩
   |some i=>exact R'.nofr a (List.mem_of_getElem? (inρ' j a i hj q))
  ·exact R'.nofr a (by rw[e];exact List.mem_append_right _ h)
 ·rw[ea]at ha
  unfold mrg at hj
  by_cases lj:j<objs.length
  ·rw[List.getElem?_append_left (by rw[mlen];exact lj),kS objs 0 j _ (List.getElem?_eq_getElem lj),pos0]at hj
   rw[List.getElem?_append_left (by rw[R.len];exact lj)]at ha
   cases hj
   cases q:pos φ j 0 with
   |none =>
    exact(R.ob j _ a (List.getElem?_eq_getElem lj) ha).keep le (keep j a ha q) tbs
   |some i =>
    have hi:=inρ' j a i ha q
    have li:i<core'.length:=by rw[←R'.len];exact(List.getElem?_eq_some_iff.mp hi).1
    show OR G _ _ a (rnO (gS φ objs.length) wid (nat? core' i .dead))
    rw[nat?_eq (List.getElem?_eq_getElem li)]
    exact(R'.ob i _ a (List.getElem?_eq_getElem li) hi).rn gb (fun _ z=>z) aC
  ·rw[List.getElem?_append_right (by rw[mlen];exact Nat.le_of_not_lt lj),mlen,List.getElem?_map,List.getElem?_drop]at hj
   rw[List.getElem?_append_right (by rw[R.len];exact Nat.le_of_not_lt lj),R.len]at ha
   obtain⟨o',h1,rfl⟩:=Option.map_eq_some_iff.mp hj
   refine(R'.ob _ _ a h1 ?_).rn gb (fun _ z=>z) aC
   rw[e,List.getElem?_append_right (by rw[len];exact Nat.le_add_right _ _),len,Nat.add_sub_cancel_left]
   exact ha
 ·obtain⟨r1,r2,r3,r4⟩:=R'.fz a o hz
  refine⟨OR.cl (ρ:=ρ') (ρ':=ρ.back ρ' φ.length) (fun _ z=>z) r2.1 r1,r2,r3,fun j hj=>?_⟩
  rw[ea]at hj
  unfold mrg
  by_cases lj:j<objs.length
  ·rw[List.getElem?_append_left (by rw[R.len];exact lj)]at hj
   rw[List.getElem?_append_left (by rw[mlen];exact lj),kS objs 0 j _ (List.getElem?_eq_getElem lj),pos0]
   cases q:pos φ j 0 with
   |none =>
    show some objs[j]=some SO.dead
    rw[←List.getElem?_eq_getElem lj]
    rcases S.zout _ hz with h|h|h
    ·exact(R.fz a o h).2.2.2 j hj
    ·obtain⟨p,hp',e'⟩:=eZ h hl
     have:=mI R.nodup hj e'
     subst this
     exact absurd hp' (jM q)
    ·obtain⟨o1,h1,_⟩:=R.nofr a (List.mem_of_getElem? hj)
     rw[h]at h1;cases h1
   |some i =>
    show some (rnO _ _ _)=_
    rw[nat?_eq (r4 i (inρ' j a i hj q))];rfl
  ·rw[List.getElem?_append_right (by rw[R.len];exact Nat.le_of_not_lt lj),R.len]at hj
   rw[List.getElem?_append_right (by rw[mlen];exact Nat.le_of_not_lt lj),mlen,List.getElem?_map,List.getElem?_drop]
   rw[r4 (φ.length+(j - objs.length)) (by rw[e,List.getElem?_append_right (by rw[len];exact Nat.le_add_right _ _),len,Nat.add_sub_cancel_left];exact hj)]
   rfl
end
end
section
open PySem.Calls
noncomputable def hdM(φ:List Nat):Option Nat→Option (Option Nat)
 |none=>some none
 |some i=>match pos φ i 0 with
  |some k=>some (some k)
  |none=>none
noncomputable def nS(ks:List Nat):Nat→List SO→List SO
 |_,[]=>[]
 |i,o::r=>(bif cW i ks then .dead else o)::nS ks (i+1) r
theorem qB{ks:List Nat}:∀{l:List SO}{i:Nat},(nS ks i l).length=l.length
 |[],_=>rfl
 |_::r,i=>congrArg (· + 1) (qB (l:=r))
theorem qC{ks:List Nat}:∀{l:List SO}{i j:Nat}{o:SO},(nS ks i l)[j]?=some o→o = .dead∨l[j]?=some o
 |[],_,_,_,h=>.inr h
 |x::r,i,0,o,h=>by
  have h:some (bif cW i ks then SO.dead else x)=some o:=h
  cases q:cW i ks with
  |true=>rw[q]at h;cases h;exact .inl rfl
  |false=>rw[q]at h;cases h;exact .inr rfl
 |x::r,i,j+1,o,h=>by
  exact qC (l:=r) h
theorem nR{ks:List Nat}:∀{l:List SO}{i j:Nat},l[j]?=some .dead→(nS ks i l)[j]?=some .dead
 |[],_,_,h=>by simp at h
 |x::r,i,0,h=>by
  have h:x = .dead:=by simpa using h
  subst h
  show some (bif cW i ks then SO.dead else .dead)=_
  cases cW i ks<;>rfl
 |x::r,i,j+1,h=>by
  show(nS ks (i+1) r)[j]?=_
  exact nR (by simpa using h)
theorem Rep.kill{G:Gl}{ρ:Tr}{objs:List SO}{h:Heap}(R:Rep G ρ objs h)(ks:List Nat):Rep G ρ (nS ks 0 objs) h :=
 ⟨R.kin,by rw[qB];exact R.len,R.nodup,R.off,R.low,R.nofr,fun i o a hi ha=>by
  rcases qC hi with rfl|q
  ·trivial
  ·exact R.ob i o a q ha,fun a o hz=>let⟨r1,r2,r3,r4⟩:=R.fz a o hz;⟨r1,r2,r3,fun i hi=>nR (r4 i hi)⟩,R.bn⟩
noncomputable def mR(w:Nat→SV→SV)(ψ ks:List Nat)(raw:List SO):List SO:=nS ks 0 (EN w ψ raw)
section
variable{G:Gl}{f:Nat}{args args0:List SV}{hd hd0:Option Nat}{d:Nat}{objs core core' raw:List SO}{out out0:Except SV SV}{w:Nat→SV→SV}{φ ks:List Nat}
theorem CallOK.frame(C:CallOK G f args0 hd0 d core out0 core')(hw:eY w)(ok:eD φ objs.length=true)(hc:mR w φ ks objs=core)(ha:args.map (rnV (dH φ))=args0)(hh:hdM φ hd=some hd0) :
  CallOK G f args hd d objs (kR (rnV (gS φ objs.length)) out0) (mrg φ objs core'):=by
 intro A ρ s N vs hv RR post
 have hl:∀p∈φ,p<ρ.a.length:=fun p hp=>by rw[N.rep.len];exact eC ok hp
 have N0:OP G A hd0 (ρ.sel φ) core d s.heap:=by
  refine⟨N.frs,N.depth,N.units,?_,by rw[←hc];exact(N.rep.sel hw ok).kill ks⟩
  have:=N.hd
  cases hd with
  |none=>cases hh;exact this
  |some i =>
   obtain⟨a,h1,h2⟩:=this
   unfold hdM at hh
   simp only at hh
   cases q:pos φ i 0 with
   |none=>rw[q]at hh;cases hh
   |some k =>
    rw[q]at hh;cases hh
    obtain⟨t,e,z⟩:=eA q
    have:k=t:=by lia
    subst this
    exact⟨a,kD z h1,h2⟩
 have hv0:aK (VR (ρ.sel φ)) args0 vs:=by
  rw[←ha];exact gC (fun _ _ z=>z.rn (fun i b hb=>kE i b hb) (fun _ z=>z)) hv
 refine C A (ρ.sel φ) s N0 vs hv0 RR fun L' ρ' s' hL S R=>?_
 obtain⟨S2,R2⟩:=yI N.rep ok hL S R
 have gb:=vQ S hl
 rw[N.rep.len]at gb
 have q:=post L' _ s' hL S2 R2
 cases out0 with
 |ok a=>exact fun b hb=>q b (hb.rn gb (fun _ z=>z))
 |error e=>exact fun x hx=>q x (hx.rn gb (fun _ z=>z))
theorem CallOK.sel{ps:List Nat}(C:CallOK G f args hd d core out raw)(hw:eY w)(ok:eD (List.range core.length++ps) raw.length=true)(hp:(ps.all fun p=>Nat.ble core.length p)=true) :
  CallOK G f args hd d core (kR (rnV (dH (List.range core.length++ps))) out) (mR w (List.range core.length++ps) ks raw):=by
 intro A ρ s N vs hv RR post
 refine C A ρ s N vs hv RR fun L' ρ' s' hL S R=>?_
 have e:=N.rep.len
 have S2:=S.sel (ps:=ps) fun p hp'=>⟨by rw[e];exact Nat.le_of_ble_eq_true (List.all_eq_true.mp hp p hp'),by rw[R.len];exact eC ok (List.mem_append_right _ hp')⟩
 rw[e]at S2
 have q:=post L' _ s' hL S2 ((R.sel hw ok).kill ks)
 cases out with
 |ok a=>exact fun b hb=>q b (hb.rn (fun i b hb=>kE i b hb) (fun _ z=>z))
 |error e=>exact fun x hx=>q x (hx.rn (fun i b hb=>kE i b hb) (fun _ z=>z))
noncomputable def exG(j:Nat)(a:Addr)(i:Nat):SV:=bif Nat.beq i j then .ext a else .ref i
noncomputable def exO(j:Nat)(a:Addr):SO→SO
 |.idict m=>.idict (m.map fun x=>(x.1,rnV (exG j a) x.2))
 |o=>o
theorem YO{ρ:Tr}{j:Nat}{a:Addr}(hj:ρ.a[j]?=some a)(i:Nat)(b:Addr)(hb:ρ.a[i]?=some b):VR ρ (exG j a i) (.ref b):=by
 unfold exG
 cases q:Nat.beq i j with
 |true=>have:=dA q;subst this;rw[hj]at hb;cases hb;rfl
 |false=>exact⟨b,hb,rfl⟩
theorem NZ{ρ:Tr}{j:Nat}{a:Addr}(hj:ρ.a[j]?=some a){v:SV}{x:Value}(h:VR ρ (rnV (exG j a) v) x):VR ρ v x:=by
 cases v with
 |ref i =>
  have h:VR ρ (exG j a i) x:=h
  unfold exG at h
  cases q:Nat.beq i j with
  |true=>have:=dA q;subst this;rw[q]at h;exact⟨a,hj,h⟩
  |false=>rw[q]at h;exact h
 |_=>exact h
theorem OR.exTo{ρ:Tr}{j:Nat}{a b:Addr}{h:Heap}(hj:ρ.a[j]?=some a){o:SO}(r:OR G ρ h b o):OR G ρ h b (exO j a o):=by
 cases o with
 |idict m=>exact r.rn (ρ':=ρ) (w:=wid) (YO hj) (fun _ z=>z) aC
 |_=>exact r
theorem OR.exBack{ρ:Tr}{j:Nat}{a b:Addr}{h:Heap}(hj:ρ.a[j]?=some a){o:SO}(r:OR G ρ h b (exO j a o)):OR G ρ h b o:=by
 cases o with
 |idict m =>
  obtain⟨mr,es,ep,e,r5,r2,r3⟩:=r
  refine⟨mr,es,ep,e,by rw[List.length_map]at r5;exact r5,r2,fun i=>?_⟩
  have:=r3 i
  rw[xV (fun n v=>rnV (exG j a) v) i m]at this
  cases q:lk m i with
  |none=>rw[q]at this;exact this
  |some v=>rw[q]at this;obtain⟨x,h1,h2⟩:=this;exact⟨x,h1,NZ hj h2⟩
 |_=>exact r
theorem Rep.exTo{ρ:Tr}{j:Nat}{a:Addr}{h:Heap}(hj:ρ.a[j]?=some a)(R:Rep G ρ objs h):Rep G ρ (objs.map (exO j a)) h :=
 ⟨R.kin,by rw[List.length_map];exact R.len,R.nodup,R.off,R.low,R.nofr,fun i o b hi hb=>by
  rw[List.getElem?_map]at hi
  obtain⟨o',h1,rfl⟩:=Option.map_eq_some_iff.mp hi
  exact(R.ob i o' b h1 hb).exTo hj,fun b o hz=>by
  obtain⟨r1,r2,r3,r4⟩:=R.fz b o hz
  exact⟨r1,r2,r3,fun i hi=>by rw[List.getElem?_map,r4 i hi];rfl⟩,R.bn⟩
theorem JD{j:Nat}{a:Addr}{o:SO}(h:exO j a o = .dead):o = .dead:=by cases o<;>first|rfl|cases h
theorem Rep.exBack{ρ:Tr}{j:Nat}{a:Addr}{h:Heap}(hj:ρ.a[j]?=some a)(R:Rep G ρ (objs.map (exO j a)) h):Rep G ρ objs h :=
 ⟨R.kin,by have:=R.len;rw[List.length_map]at this;exact this,R.nodup,R.off,R.low,R.nofr,fun i o b hi hb=>(R.ob i _ b (by rw[List.getElem?_map,hi];rfl) hb).exBack hj,fun b o hz=>by
  obtain⟨r1,r2,r3,r4⟩:=R.fz b o hz
  refine⟨r1,r2,r3,fun i hi=>?_⟩
  have:=r4 i hi
  rw[List.getElem?_map]at this
  obtain⟨o',h1,h2⟩:=Option.map_eq_some_iff.mp this
  rw[h1,JD h2],R.bn⟩
theorem CallOK.ex{j:Nat}{objs objs':List SO}(hj:j<objs.length)(C:∀a,CallOK G f args hd d (objs.map (exO j a)) out (objs'.map (exO j a))):CallOK G f args hd d objs out objs':=by
 intro A ρ s N vs hv RR post
 have hj:j<ρ.a.length:=by rw[N.rep.len];exact hj
 have e:=List.getElem?_eq_getElem hj
 refine C ρ.a[j] A ρ s ⟨N.frs,N.depth,N.units,N.hd,N.rep.exTo e⟩ vs hv RR fun L' ρ' s' hL S R=>?_
 exact post L' ρ' s' hL S (R.exBack (S.le.idx e))
theorem CallOK.weak{objs objs':List SO}(C:CallOK G f args hd d core out raw)(h1:∀ρ h,Rep G ρ objs h→Rep G ρ core h)(h2:∀ρ h,Rep G ρ raw h→Rep G ρ objs' h):CallOK G f args hd d objs out objs' :=
 fun A ρ s N vs hv RR post=>C A ρ s ⟨N.frs,N.depth,N.units,N.hd,h1 _ _ N.rep⟩ vs hv RR fun L' ρ' s' hL S R=>post L' ρ' s' hL S (h2 _ _ R)
theorem CallOK.le{d':Nat}(C:CallOK G f args hd d core out raw)(h:d≤d'):CallOK G f args hd d' core out raw :=
 fun A ρ s N vs hv RR post=>C A ρ s ⟨N.frs,ml h N.depth,ml h N.units,N.hd,N.rep⟩ vs hv RR post
end
end
section
open PySem.Calls
set_option genInjectivity false in
set_option genSizeOf false in
structure Bt where
 prog:Program
 w:World
 mb:Str→Option Value
 K:Frag
structure aE(mb:Bt):Prop where
 boot:BootOK mb.mb
 facts:Facts mb.K
section
variable(mb:Bt)
noncomputable def g0:Gl:=theG mb.K mb.prog mb.w mb.mb fun _=>True
noncomputable def v0:Query→Prop
 |.call f args hd d objs out objs'=>CallOK (g0 mb) f args hd d objs out objs'
 |.loop t b hd d loc objs out loc' objs'=>LoopOK (g0 mb) t b hd d loc objs out loc' objs'
 |.eq a b=>a=b
 |.get m k v=>(getT m k).getD .none=v
 |.absent m k=>getT m k=none∧m.length≤1000
 |.small xs=>xs.length≤100000
 |.lt a b t=>decide (a<b)=t
 |.at xs k v=>atI xs k=some v
 |.eqs xs ys=>DEq xs ys
 |.mem kk xs t=>DMem kk xs t
noncomputable def g1:Gl:=theG mb.K mb.prog mb.w mb.mb (v0 mb)
end
section
variable{mb:Bt}
theorem OY{ρ:Tr}{h:Heap}{a:Addr}{o:SO}(r:OR (g1 mb) ρ h a o):OR (g0 mb) ρ h a o:=by cases o<;>exact r
theorem OZ{ρ:Tr}{h:Heap}{a:Addr}{o:SO}(r:OR (g0 mb) ρ h a o):OR (g1 mb) ρ h a o:=by cases o<;>exact r
theorem qY{ρ:Tr}{objs:List SO}{h:Heap}(R:Rep (g1 mb) ρ objs h):Rep (g0 mb) ρ objs h:=⟨R.kin,R.len,R.nodup,R.off,R.low,R.nofr,fun i o a h1 h2=>OY (R.ob i o a h1 h2),fun a o hz=>let⟨r1,r2,r3,r4⟩:=R.fz a o hz;⟨OY r1,r2,r3,r4⟩,R.bn⟩
theorem qZ{ρ:Tr}{objs:List SO}{h:Heap}(R:Rep (g0 mb) ρ objs h):Rep (g1 mb) ρ objs h:=⟨R.kin,R.len,R.nodup,R.off,R.low,R.nofr,fun i o a h1 h2=>OZ (R.ob i o a h1 h2),fun a o hz=>let⟨r1,r2,r3,r4⟩:=R.fz a o hz;⟨OZ r1,r2,r3,r4⟩,R.bn⟩
theorem FY{c:Ac}{ρ:Tr}{st:St}{h:Heap}(N:Now (g1 mb) c ρ st h):Now (g0 mb) c ρ st h:=⟨N.frames,N.depth,N.units,N.hd,qY N.rep,N.fr,N.frs,N.lo⟩
theorem FZ{c:Ac}{ρ:Tr}{st:St}{h:Heap}(N:Now (g0 mb) c ρ st h):Now (g1 mb) c ρ st h:=⟨N.frames,N.depth,N.units,N.hd,qZ N.rep,N.fr,N.frs,N.lo⟩
mutual
theorem bB:∀(t:IE)(vs:List Str),dE (g1 mb) vs t=dE (g0 mb) vs t
 |.cst ..,_=>rfl
 |.loc ..,_=>rfl
 |.glb ..,_=>rfl
 |.attr o n p,vs=>by show Expr.Attribute _ _ _=Expr.Attribute _ _ _;rw[bB o vs];rfl
 |.call f l p,vs=>by show Expr.Call _ _ _ _=Expr.Call _ _ _ _;rw[bB f vs,jE l vs]
 |.meth o n ap l p,vs=>by show Expr.Call (.Attribute _ _ _) _ _ _=Expr.Call (.Attribute _ _ _) _ _ _;rw[bB o vs,jE l vs];rfl
 |.bin l op r p,vs=>by show Expr.BinOp _ _ _ _=Expr.BinOp _ _ _ _;rw[bB l vs,bB r vs]
 |.cmp l op r p,vs=>by show Expr.Compare _ _ [_] _=Expr.Compare _ _ [_] _;rw[bB l vs,bB r vs]
 |.bool op l p,vs=>by show Expr.BoolOp _ _ _=Expr.BoolOp _ _ _;rw[jE l vs]
 |.not e p,vs=>by show Expr.UnaryOp _ _ _=Expr.UnaryOp _ _ _;rw[bB e vs]
 |.neg ..,_=>rfl
 |.ite t b o p,vs=>by show Expr.IfExp _ _ _ _=Expr.IfExp _ _ _ _;rw[bB t vs,bB b vs,bB o vs]
 |.sub v s p,vs=>by show Expr.Subscript _ _ _=Expr.Subscript _ _ _;rw[bB v vs,bB s vs]
 |.sFrom l p,vs=>by show Expr.Slice (some _) _ _ _=Expr.Slice (some _) _ _ _;rw[bB l vs]
 |.sTo l p,vs=>by show Expr.Slice _ (some _) _ _=Expr.Slice _ (some _) _ _;rw[bB l vs]
 |.tup es k p,vs=>by show Expr.Tuple _ _ _=Expr.Tuple _ _ _;rw[jE es vs]
 |.list es p,vs=>by show Expr.List _ _=Expr.List _ _;rw[jE es vs]
 |.dict ks l p,vs=>by show Expr.Dict _ _ _=Expr.Dict _ _ _;rw[JQ ks vs,jE l vs]
 |.comp elt t it sc cv cgs p,vs=>by show Expr.ListComp _ [⟨_,_,[],0⟩] _ _=Expr.ListComp _ [⟨_,_,[],0⟩] _ _;rw[bB elt cv,JO t cv,bB it vs]
theorem jE:∀(t:IEs)(vs:List Str),dEs (g1 mb) vs t=dEs (g0 mb) vs t
 |.nil,_=>rfl
 |.cons e r,vs=>by show _::_=_::_;rw[bB e vs,jE r vs]
theorem JQ:∀(t:IEs)(vs:List Str),dKs (g1 mb) vs t=dKs (g0 mb) vs t
 |.nil,_=>rfl
 |.cons e r,vs=>by show some _::_=some _::_;rw[bB e vs,JQ r vs]
theorem JO:∀(t:IT)(vs:List Str),dT (g1 mb) vs t=dT (g0 mb) vs t
 |.name ..,_=>rfl
 |.attr o n p,vs=>by show Expr.Attribute _ _ _=Expr.Attribute _ _ _;rw[bB o vs];rfl
 |.sub o i p,vs=>by show Expr.Subscript _ _ _=Expr.Subscript _ _ _;rw[bB o vs,bB i vs]
 |.tup ..,_=>rfl
end
mutual
theorem YY:∀(t:IS)(vs:List Str),dS (g1 mb) vs t=dS (g0 mb) vs t
 |.expr e p,vs=>by show Stmt.Expr _ _=Stmt.Expr _ _;rw[bB e vs]
 |.retN p,_=>rfl
 |.ret e p,vs=>by show Stmt.Return (some _) _=Stmt.Return (some _) _;rw[bB e vs]
 |.asg t v p,vs=>by show Stmt.Assign [_] _ _=Stmt.Assign [_] _ _;rw[JO t vs,bB v vs]
 |.aug o n tp op v p,vs=>by show Stmt.AugAssign (.Attribute _ _ _) _ _ _=Stmt.AugAssign (.Attribute _ _ _) _ _ _;rw[bB o vs,bB v vs];rfl
 |.ifs t b e p,vs=>by show Stmt.If _ _ _ _=Stmt.If _ _ _ _;rw[bB t vs,dO b vs,dO e vs]
 |.fors t it b p,vs=>by show Stmt.For _ _ _ _ _=Stmt.For _ _ _ _ _;rw[JO t vs,bB it vs,dO b vs]
 |.whl t b p,vs=>by show Stmt.While _ _ _ _=Stmt.While _ _ _ _;rw[bB t vs,dO b vs]
 |.raise e p,vs=>by show Stmt.Raise (some _) _ _=Stmt.Raise (some _) _ _;rw[bB e vs]
 |.tryX b ty nm hb hp fin p,vs=>by show Stmt.Try _ [.ExceptHandler (some _) _ _ _] _ _ _=Stmt.Try _ [.ExceptHandler (some _) _ _ _] _ _ _;rw[dO b vs,bB ty vs,dO hb vs,dO fin vs]
 |.tryF b fin p,vs=>by show Stmt.Try _ _ _ _ _=Stmt.Try _ _ _ _ _;rw[dO b vs,dO fin vs]
 |.pass p,_=>rfl
theorem dO:∀(t:ISs)(vs:List Str),dSS (g1 mb) vs t=dSS (g0 mb) vs t
 |.nil,_=>rfl
 |.cons s r,vs=>by show _::_=_::_;rw[YY s vs,dO r vs]
end
theorem ZL:VOK (v0 mb):=⟨fun _ _ h=>h,fun _ _ _ h=>h,fun _ _ h=>h,fun _ h=>h,fun _ _ _ h=>h,fun _ _ _ h=>h,fun _ _ h=>h,fun _ _ _ h=>h⟩
theorem TM(B:aE mb):GOK2 (g1 mb):=EF mb.prog mb.w mb.mb _ B.facts ZL B.boot
theorem NS(B:aE mb):iV (g1 mb) where
 toGOK2:=TM B
 vcall:=fun f a hd d o out o' h A ρ s N vs hv RR post=>h A ρ s ⟨N.frs,N.depth,N.units,N.hd,qY N.rep⟩ vs hv RR fun L' ρ' s' hL S R=>post L' ρ' s' hL S (qZ R)
 vloop:=fun t b hd d l o out l' o' h c gs ρ st s EO EG h1 h2 h3 h4 h5 h6 N RR post=>by rw[bB,dO];exact h c gs ρ st s EO EG h1 h2 h3 h4 h5 h6 (FY N) RR fun ρ' s' S N'=>post ρ' s' S (FZ N')
end
end
section
open PySem.Calls
inductive Pl where
 |fr(f:Nat)(args:List SV)(hd:Option Nat)(d:Nat)(core:List SO)(out:Except SV SV)(core':List SO)(φ ks:List Nat)(w:Nat→SV→SV)
 |ex(f:Nat)(args:List SV)(hd:Option Nat)(d:Nat)(core:SV→List SO)(out:Except SV SV)(core':SV→List SO)(φ ks:List Nat)(w:Nat→SV→SV)(j:Nat)
 |gv(q:Query)(v:Option SV)
 |gh
 |lp(t:IE)(b:ISs)(hd:Option Nat)(d:Nat)(loc:List (Option SV))(objs:List SO)(out:Except SV SV)(loc':List (Option SV))(objs':List SO)(line:Nat)
noncomputable def gX(φ:List Nat)(j n i:Nat):SV:=bif Nat.beq i 999 then .ref j else gS φ n i
noncomputable def aAj(φ:List Nat)(j:Nat)(objs core':List SO):List SO :=
 nD φ (gX φ j objs.length) core' objs 0++(core'.drop φ.length).map (rnO (gX φ j objs.length) wid)
noncomputable def Pl.ora:Pl→Option Ora
 |.fr f args hd d core out core' φ ks w=>some ⟨fun o=>kR (rnV (gS φ o.length)) out,fun o=>mrg φ o core',fun l=>l,0⟩
 |.ex f args hd d core out core' φ ks w j=>some ⟨fun o=>kR (rnV (gS φ o.length)) out,fun o=>aAj φ j o (core' (.ref 999)),fun l=>l,0⟩
 |.gv q (some v)=>some ⟨fun _=>.ok v,fun o=>o,fun l=>l,0⟩
 |.gv q none=>none
 |.gh=>some ⟨fun _=>.ok .none,fun o=>o,fun l=>l,999999⟩
 |.lp t b hd d loc objs out loc' objs' line=>some ⟨fun _=>out,fun _=>objs',fun _=>loc',line+1⟩
noncomputable def Pl.OK(mb:Bt):Pl→Prop
 |.fr f args hd d core out core' φ ks wk=>CallOK (g0 mb) f args hd d core out core'∧eY wk
 |.ex f args hd d core out core' φ ks wk j=>(∀a,CallOK (g0 mb) f args hd d (core (.ext a)) out (core' (.ext a)))∧eY wk
 |.gv q _=>v0 mb q
 |.gh=>True
 |.lp t b hd d loc objs out loc' objs' line=>LoopOK (g0 mb) t b hd d loc objs out loc' objs'
noncomputable abbrev PT:=Nat×List SV×Option (Option Nat)×Nat×List SO×Bool×Except SV SV×List SO
structure CQ where
 f:Nat
 a:List SV
 h:Option Nat
 d:Nat
 o:List SO
 e:Except SV SV
 o':List SO
noncomputable def qc(q:Query):Option CQ:=match q with
 |.call f a h d o e o'=>some ⟨f,a,h,d,o,e,o'⟩
 |_=>none
noncomputable def frL(φ ks:List Nat)(w:Nat→SV→SV)(c:Option CQ):PT:=match c with
 |some c=>(c.f,c.a.map (rnV (dH φ)),hdM φ c.h,c.d,mR w φ ks c.o,eD φ c.o.length,c.e,c.o')
 |none=>(0,[],none,0,[],false,.ok .none,[])
noncomputable def exL(φ ks:List Nat)(w:Nat→SV→SV)(j:Nat)(a:Addr)(c:Option CQ):PT:=match c with
 |some c=>(c.f,c.a.map (rnV (dH φ)),hdM φ c.h,c.d,mR w φ ks (c.o.map (exO j a)),eD φ c.o.length&&Nat.blt j c.o.length,c.e,c.o'.map (exO j a))
 |none=>(0,[],none,0,[],false,.ok .none,[])
noncomputable def frR(f:Nat)(args:List SV)(hd:Option Nat)(d:Nat)(core:List SO)(out:Except SV SV)(φ:List Nat)(m:List SO→List SO)(c:Option CQ):PT:=match c with
 |some c=>(f,args,some hd,d,core,true,kR (rnV (gS φ c.o.length)) out,m c.o)
 |none=>(0,[],none,0,[],true,.ok .none,[])
noncomputable def ptL(p:Pl)(q:Query):Addr→Query⊕PT:=match p with
 |.gv _ _=>fun _=>.inl q
 |.gh=>fun _=>.inl q
 |.lp ..=>fun _=>.inl q
 |.fr f args hd d core out core' φ ks w=>fun _=>.inr (frL φ ks w (qc q))
 |.ex f args hd d core out core' φ ks w j=>fun a=>.inr (exL φ ks w j a (qc q))
noncomputable def ptR(p:Pl)(q:Query):Addr→Query⊕PT:=match p with
 |.gv q _=>fun _=>.inl q
 |.gh=>fun _=>.inl (.small [])
 |.lp t b hd d loc objs out loc' objs' line=>fun _=>.inl (.loop t b hd d loc objs out loc' objs')
 |.fr f args hd d core out core' φ ks w=>fun _=>.inr (frR f args hd d core out φ (fun o=>mrg φ o core') (qc q))
 |.ex f args hd d core out core' φ ks w j=>fun a=>.inr (frR f args hd d (core (.ext a)) out φ (fun o=>mrg φ (o.map (exO j a)) (core' (.ext a))) (qc q))
theorem OW{q:Query}{c:CQ}(h:qc q=some c):q = .call c.f c.a c.h c.d c.o c.e c.o':=by
 cases q with
 |call f a h d o e o'=>cases h;rfl
 |_=>exact nos h
inductive PE(x y:PT):Prop
 |mk(e1:x.1=y.1)(e2:x.2.1=y.2.1)(e3:x.2.2.1=y.2.2.1)(e4:x.2.2.2.1=y.2.2.2.1)(e5:x.2.2.2.2.1=y.2.2.2.2.1)(e6:x.2.2.2.2.2.1=y.2.2.2.2.2.1)(e7:x.2.2.2.2.2.2.1=y.2.2.2.2.2.2.1)(e8:x.2.2.2.2.2.2.2=y.2.2.2.2.2.2.2)
theorem OX{x y:PT}(h:(Sum.inr x:Query⊕PT) = .inr y):PE x y:=by
 cases h;exact⟨rfl,rfl,rfl,rfl,rfl,rfl,rfl,rfl⟩
section
variable{mb:Bt}
theorem WH{f:Nat}{args:List SV}{hd:Option Nat}{d:Nat}{core:List SO}{out:Except SV SV}{core':List SO}{φ ks:List Nat}{wk:Nat→SV→SV}{q:Query}(e:ptL (.fr f args hd d core out core' φ ks wk) q=ptR (.fr f args hd d core out core' φ ks wk) q)
  (O:CallOK (g0 mb) f args hd d core out core')(w:eY wk):v0 mb q:=by
 have e:=OX (congrFun e 0)
 cases hq:qc q with
 |none=>rw[hq]at e;exact Bool.noConfusion e.6
 |some c =>
  rw[hq]at e
  rw[OW hq]
  obtain⟨qf,qa,qh,qd,qo,qe,qo'⟩:=c
  obtain⟨e1,e2,e3,e4,e5,e6,e7,e8⟩:=e
  rw[show CQ.f _=f from e1,show CQ.d _=d from e4,show CQ.e _=_ from e7,show CQ.o' _=_ from e8]
  exact O.frame w e6 e5 e2 e3
theorem WI{f:Nat}{args:List SV}{hd:Option Nat}{d:Nat}{core:SV→List SO}{out:Except SV SV}{core':SV→List SO}{φ ks:List Nat}{wk:Nat→SV→SV}{j:Nat}{q:Query}(e:ptL (.ex f args hd d core out core' φ ks wk j) q=ptR (.ex f args hd d core out core' φ ks wk j) q)
  (O:∀a,CallOK (g0 mb) f args hd d (core (.ext a)) out (core' (.ext a)))(w:eY wk):v0 mb q:=by
 have ea:=fun a=>OX (congrFun e a)
 cases hq:qc q with
 |none=>rw[hq]at ea;exact Bool.noConfusion (ea 0).6
 |some c =>
  rw[hq]at ea
  rw[OW hq]
  obtain⟨qf,qa,qh,qd,qo,qe,qo'⟩:=c
  obtain⟨e1,e2,e3,e4,_,e6,e7,_⟩:=ea 0
  obtain⟨e6,e9⟩:=aN e6
  rw[show CQ.f _=f from e1,show CQ.d _=d from e4,show CQ.e _=_ from e7]
  refine CallOK.ex (j:=j) (Nat.le_of_ble_eq_true e9) fun a=>?_
  rw[show List.map (exO j a) (CQ.o' _)=_ from(ea a).8]
  have:=(O a).frame (objs:=qo.map (exO j a)) w (by rw[List.length_map];exact e6) (ea a).5 e2 e3
  rwa[List.length_map]at this
theorem WG{p:Pl}{q:Query}(e:ptL p q=ptR p q)(O:p.OK mb):v0 mb q:=by
 cases p with
 |gv q0 v=>exact Sum.inl.inj (congrFun e 0)▸O
 |gh=>exact Sum.inl.inj (congrFun e 0)▸Nat.zero_le _
 |lp t b hd d loc objs out loc' objs' line=>exact Sum.inl.inj (congrFun e 0)▸O
 |fr f args hd d core out core' φ ks wk=>exact WH e O.1 O.2
 |ex f args hd d core out core' φ ks wk j=>exact WI e O.1 O.2
noncomputable def qQ{α β γ:Type}(f:α→β→γ):List α→List β→List γ
 |a::l,b::r=>f a b::qQ f l r
 |_,_=>[]
theorem wR:∀{ps:List Pl}{qs:List Query},qs.length=ps.length→qQ ptL ps qs=qQ ptR ps qs→(∀p∈ps,p.OK mb)→∀q∈qs,v0 mb q
 |[],[],_,_,_,_,h=>by cases h
 |[],_::_,l,_,_,_,_=>by cases l
 |_::_,[],_,_,_,_,h=>by cases h
 |p::ps,q::qs,l,e,O,q',h=>by
  have e:ptL p q::qQ ptL ps qs=ptR p q::qQ ptR ps qs:=e
  injection e with e1 e2
  rcases List.mem_cons.mp h with rfl|h
  ·exact WG e1 (O p (.head _))
  ·exact wR (by simpa using l) e2 (fun p hp=>O p (.tail _ hp)) q' h
noncomputable abbrev FT:=Except SV SV×List SO×Bool×Nat×List (Addr→Query⊕PT)
noncomputable def cH(wk:Nat→SV→SV)(ψ ks:List Nat)(ps:List Pl):Option (Except SV SV×St)→Option FT
 |some (o,st)=>some (kR (rnV (dH ψ)) o,mR wk ψ ks st.objs,eD ψ st.objs.length,st.qs.length,qQ ptL ps st.qs)
 |none=>none
noncomputable def cG(out:Except SV SV)(core':List SO)(ps:List Pl):Option (Except SV SV×St)→Option FT
 |some (o,st)=>some (out,core',true,ps.length,qQ ptR ps st.qs)
 |none=>some (out,core',false,0,[])
noncomputable def bH(mb:Bt)(cs:List Nat)(n:Nat)(F:Fn)(hd:Option Nat)(args:List SV)(core:List SO)(d:Nat)(ps:List Pl)(pr:List Int):Option (Except SV SV×St) :=
 mFn F ((run (g1 mb) (pgC cs) n).ex hd F.body) args ⟨[],core,ps.reverse.filterMap Pl.ora,pr,[],d⟩
theorem mkC(B:aE mb){f:Nat}{F:Fn}{cs:List Nat}{n:Nat}{args:List SV}{hd:Option Nat}{core core':List SO}{d:Nat}{ps:List Pl}{pr:List Int}{out:Except SV SV}{wk:Nat→SV→SV}{ns ks:List Nat}(hF:lk ftable f=some F)(hw:eY wk)
  (h:cH wk (List.range core.length++ns) ks ps (bH mb cs n F hd args core d ps pr)=cG out core' ps (bH mb cs n F hd args core d ps pr))(hn:(ns.all fun p=>Nat.ble core.length p)=true)(O:∀p∈ps,p.OK mb) :
  CallOK (g0 mb) f args hd d core out core':=by
 cases hR:bH mb cs n F hd args core d ps pr with
 |none=>rw[hR]at h;cases h
 |some r =>
  obtain⟨o,st⟩:=r
  rw[hR]at h
  simp only[cH,cG,Option.some.injEq,Prod.mk.injEq]at h
  obtain⟨rfl,rfl,h3,h4,h5⟩:=h
  have hq:=wR h4 h5 O
  refine CallOK.sel (raw:=st.objs) (out:=o) ?_ hw h3 hn
  intro A ρ s N vs hv RR post
  have S:=iD (NS B) (wW mb.prog mb.w mb.mb (v0 mb) B.facts cs) n
  refine wZ (G:=g1 mb) (st:=⟨[],core,ps.reverse.filterMap Pl.ora,pr,[],d⟩) (TM B) (B.facts.fn mb.prog mb.w mb.mb (v0 mb) hF) S.X ⟨N.frs,N.depth,N.units,N.hd,qZ N.rep⟩ hv hR hq fun ρ' s' S R=>?_
  have q:=post s.heap.objs.size ρ' s' (Heap.get?_none_of_le (Nat.le_refl _)) S (qY R)
  cases o<;>exact q
end
end
section
open PySem.Calls
structure Ex where
 code:Int
 val:Str
 lev:Int
 ret:Int
 inf:Nat
 cx:Bool
structure Wd where
 lim:Int
 t0:List (Str×Str)
 t1:List (Str×Str)
 t2:List (Str×Str)
 t3:List (Str×Str)
 t4:List (Str×Str)
 s0:Bool×Bool
 s1:Bool×Bool
 s2:Bool×Bool
 s3:Bool×Bool
 s4:Bool×Bool
 f0:Int×Str×Int×Int
 f1:Int×Str×Int×Int
 f2:Int×Str×Int×Int
 f3:Int×Str×Int×Int
 f4:Int×Str×Int×Int
 f5:Int×Str×Int×Int
structure Sg where
 fr:Str
 dp:Int
 sp:Int
 L:List SV
 M:List SV
 B:List (List SV×SV)
 stp:Int
 txt:Str
noncomputable def oR(x:Bool×Bool):SV:=.fz (.tuple [.bool x.1,.bool x.2])
noncomputable def aR(x:Int×Str×Int×Int):SV:=.fz (.tuple [.int x.1,.str x.2.1,.int x.2.2.1,.int x.2.2.2])
noncomputable def PN(W:Wd)(σ:Sg)(ms:List SV):List SO :=
 [.inst 439 (some 1),
  .idict [(24,.ref 2),(23,.ref 3),(22,.int W.lim),(21,.none),(20,.int σ.dp),(19,.int σ.sp),(18,.int 0),(17,.ostr (some σ.fr)),(16,.none),(33,.ref 4),(32,.ref 5),(31,.ref 6)],
  .sdict [("run",.top 761),("made",.ref 7)],.sdict [],.sdict [],
  .sdict [("t",.ref 8),("p",.ref 9),("f",.ref 10),("d",.ref 11),("m",.ref 12),("n",.ref 13)],.sdict [],
  .clist σ.M,
  .tuple [.top 775,.ref 14],.tuple [.top 775,.ref 14],.tuple [.top 775,.ref 14],.tuple [.top 775,.ref 14],.tuple [.top 775,.ref 14],.tuple [.top 775,.ref 14],
  .tuple [.ref 15,.ref 16,.ref 17,.ref 18,.ref 19],
  .list [.txt W.t0,.txt W.t1,.txt W.t2,.txt W.t3,.txt W.t4],
  .list [oR W.s0,oR W.s1,oR W.s2,oR W.s3,oR W.s4],
  .list [aR W.f0,aR W.f1,aR W.f2,aR W.f3,aR W.f4,aR W.f5],
  .list ms,
  .clist σ.L]
noncomputable def aAi:List (Str×SV):=[("push",.top 623),("pop",.top 630),("load",.top 637),("load_name",.top 644),("load_element",.top 651),("store",.top 658),("store_name",.top 665),("store_element",.top 672),("join",.top 679),("invoke",.top 693),("start",.top 707),("jump",.top 714),("fail",.top 721)]
noncomputable def YZ(σ:Sg)(av:SV):List SO :=
 [.inst 563 (some 21),
  .idict [(52,.ref 0),(51,.ref 22),(50,.top 768),(49,av),(48,.ref 23),(47,.none),(46,.int σ.stp),(45,.ostr (some σ.txt))],
  .sdict aAi,.tdict σ.B]
noncomputable def core(b:Bool)(W:Wd)(σ:Sg)(av:SV):List SO:=bif b then PN W σ [.ref 20]++YZ σ av else PN W σ []
noncomputable def cN(b:Bool):Nat:=bif b then 24 else 20
noncomputable def wkA(v:SV):SV:=match v with
 |.bi b=>.bi b
 |_=>.any
noncomputable def wkI(J:Nat)(v:SV):SV:=match v with
 |.str s=>bif Nat.beq s.length 0 then .sm 0 else bif Nat.ble s.length (300*J)then(match J with | 0=>v | j+1=>.sm (j+1))else v
 |.opq m=>bif Nat.ble m (300*J)then(match J with | 0=>v | j+1=>.sm (j+1))else v
 |_=>v
noncomputable def wkF(v:SV):SV:=match v with
 |.none=>.ostr none
 |.str s=>.ostr (some s)
 |_=>v
noncomputable def wkE(B n:Nat)(v:SV):SV:=bif cW n [0,2,6,37,38,39]then wkA v else bif Nat.beq n 3 then wkI B v else bif cW n [12,17,45]then wkF v else v
theorem EA{ρ:Tr}{v:SV}{x:Value}(h:VR ρ v x):VR ρ (wkA v) x:=by
 cases v<;>first|exact h|exact VR.handed h (fun i e=>by cases e)
theorem QC{B:Nat}{ρ:Tr}{v:SV}{x:Value}(h:VR ρ v x):VR ρ (wkI B v) x:=by
 cases v with
 |str s =>
  show VR ρ (bif Nat.beq s.length 0 then .sm 0 else bif Nat.ble s.length (300*B)then(match B with|0=>.str s|j+1=>.sm (j+1))else .str s) x
  cases q0:Nat.beq s.length 0 with
  |true =>
   obtain⟨t,rfl⟩:=h
   have e:=dA q0
   have:s = "":=by
    obtain⟨c⟩:=s
    have:c.size=0:=e
    rw[Array.eq_empty_of_size_eq_zero this];rfl
   subst this
   exact⟨t,rfl⟩
  |false =>
   cases q:Nat.ble s.length (300*B)with
   |true =>
    obtain⟨t,rfl⟩:=h
    cases B with
    |zero=>exact⟨t,rfl⟩
    |succ j=>exact⟨s,t,rfl,wF q0,Nat.le_of_ble_eq_true q⟩
   |false=>exact h
 |opq m =>
  show VR ρ (bif Nat.ble m (300*B)then(match B with|0=>.opq m|j+1=>.sm (j+1))else .opq m) x
  cases q:Nat.ble m (300*B)with
  |true =>
   obtain⟨s,t,rfl,h1,h2⟩:=h
   cases B with
   |zero=>exact⟨s,t,rfl,h1,h2⟩
   |succ j=>exact⟨s,t,rfl,h1,Nat.le_trans h2 (Nat.le_of_ble_eq_true q)⟩
  |false=>exact h
 |_=>exact h
theorem bI(B:Nat):eY (wkE B):=by
 intro n v ρ x h
 show VR ρ (bif cW n [0,2,6,37,38,39]then wkA v else bif Nat.beq n 3 then wkI B v else bif cW n [12,17,45]then wkF v else v) x
 cases cW n [0,2,6,37,38,39]with
 |true=>exact EA h
 |false =>
  cases Nat.beq n 3 with
  |true=>exact QC h
  |false =>
   cases cW n [12,17,45]with
   |true=>cases v<;>exact h
   |false=>exact h
noncomputable def exD(e:Ex):SO:=.idict [(8,.int e.code),(7,.str e.val),(6,.any),(5,.int e.lev),(4,.int e.ret),(3,.sm e.inf),(2,.any),(1,.int 0),(0,.any)]
noncomputable def aBf(v:SV):SV:=match v with
 |.sm 0=>.str ""
 |.sm (j+1)=>.opq (300*(j+1))
 |_=>v
noncomputable def wkS(n:Nat)(v:SV):SV:=match n with
 |3=>aBf v
 |_=>v
theorem QB:eY wkS:=by
 intro n v ρ x h
 unfold wkS
 split
 ·cases v with
  |sm j=>cases j<;>exact h
  |_=>exact h
 ·exact h
theorem Rep.wk{G:Gl}{ρ:Tr}{objs:List SO}{h:Heap}{w:Nat→SV→SV}(hw:eY w)(R:Rep G ρ objs h):Rep G ρ (objs.map (rnO SV.ref w)) h :=
 ⟨R.kin,by rw[List.length_map];exact R.len,R.nodup,R.off,R.low,R.nofr,fun i o a hi ha=>by
  rw[List.getElem?_map]at hi
  obtain⟨o',h1,rfl⟩:=Option.map_eq_some_iff.mp hi
  exact(R.ob i o' a h1 ha).rn (ρ':=ρ) (g:=SV.ref) (w:=w) (fun i b hb=>⟨b,hb,rfl⟩) (fun _ z=>z) hw,fun a o hz=>by
  obtain⟨r1,r2,r3,r4⟩:=R.fz a o hz
  exact⟨r1,r2,r3,fun i hi=>by rw[List.getElem?_map,r4 i hi];rfl⟩,R.bn⟩
noncomputable def exS(i:Nat)(e:Ex):List SO:=bif e.cx then[.exc 84 (some (i+1)) (.ref (i+2)) true,exD e,.exc 84 (some (i+3)) .none true,.dead]else[.exc 84 (some (i+1)) .none true,exD e]
noncomputable def aY(n:Nat):Str:=match n with|0=>"0" | 1=>"1" | 2=>"2" | 3=>"3" | 4=>"4" | _=>"5"
noncomputable def vS(n:Nat):Str:=match n with|0=>"v0" | 1=>"v1" | 2=>"v2" | 3=>"v3" | 4=>"v4" | _=>"v5"
noncomputable def bM(v:Str)(n:Nat)(fr:Str):SV:=.fz (.tuple [.str v,.int n,.ostr (some fr)])
noncomputable def Sg.logged(σ:Sg)(v:Str)(n:Nat):Sg:={ σ with sp:=σ.sp+1,L:=σ.L++[bM v n σ.fr] }
end
section
open PySem.Calls
noncomputable def Wd.tx(W:Wd)(n:Nat):List (Str×Str):=match n with|0=>W.t0|1=>W.t1|2=>W.t2|3=>W.t3|_=>W.t4
noncomputable def Wd.sh(W:Wd)(n:Nat):Bool×Bool:=match n with|0=>W.s0|1=>W.s1|2=>W.s2|3=>W.s3|_=>W.s4
noncomputable def Wd.fa(W:Wd)(n:Nat):Int×Str×Int×Int:=match n with|0=>W.f0|1=>W.f1|2=>W.f2|3=>W.f3|4=>W.f4|_=>W.f5
noncomputable def exX:Ex:={ code:=1,val:="invalid command name \"x\"",lev:=0,ret:=0,inf:=0,cx:=false }
noncomputable def exN:Ex:={ code:=1,val:="too many nested evaluations (infinite loop?)",lev:=0,ret:=0,inf:=0,cx:=false }
noncomputable def exP:Ex:={ code:=1,val:="cannot yield: C stack busy",lev:=0,ret:=0,inf:=0,cx:=false }
noncomputable def Wd.exF(W:Wd)(n:Nat):Ex:={ code:=(W.fa n).1,val:=(W.fa n).2.1,lev:=(W.fa n).2.2.1,ret:=(W.fa n).2.2.2,inf:=0,cx:=false }
noncomputable def wd(v:Str)(n:Nat):SO:=.list [.str v,.str (aY n)]
noncomputable def fS(n:Nat):Str:=match n with|0=>"f0" | 1=>"f1" | 2=>"f2" | 3=>"f3" | 4=>"f4" | _=>"f5"
noncomputable def pS(n:Nat):Str:=match n with|0=>"p0" | 1=>"p1" | 2=>"p2" | 3=>"p3" | 4=>"p4" | _=>"p5"
inductive Rs where
 |ok(s:Str)
 |er(e:Ex)
noncomputable def Rs.out(i:Nat):Rs→Except SV SV
 |.ok s=>.ok (.str s)
 |.er _=>.error (.ref i)
noncomputable def Rs.objs(i:Nat):Rs→List SO
 |.ok _=>[]
 |.er e=>exS i e
noncomputable def aU(i:Nat)(l:List (Str×Str))(back:Option Str)(pr:Bool)(lab:Str):List SO:=[.inst 105 (some (i+1)),.idict [(13,.txt l),(12,.ostr back),(11,.bool pr),(10,.str lab)]]
section
variable{mb:Bt}
theorem oW{ι:Type}(l:List ι)(B:aE mb){f:Nat}{F:Fn}{cs:List Nat}{n:Nat}{args:ι→List SV}{hd:Option Nat}{core core':ι→List SO}{d:Nat}{ps:ι→List Pl}{pr:List Int}{out:ι→Except SV SV}{wk:Nat→SV→SV}{ns:ι→List Nat}{ks:List Nat}(hF:lk ftable f=some F)(hw:eY wk)
  (h:(l.map fun i=>cH wk (List.range (core i).length++ns i) ks (ps i) (bH mb cs n F hd (args i) (core i) d (ps i) pr))=l.map fun i=>cG (out i) (core' i) (ps i) (bH mb cs n F hd (args i) (core i) d (ps i) pr))
  (hn:∀i,((ns i).all fun p=>Nat.ble (core i).length p)=true)(O:∀i,∀p∈ps i,p.OK mb):∀i∈l,CallOK (g0 mb) f (args i) hd d (core i) (out i) (core' i) :=
 fun i hi=>mkC B hF hw (List.map_inj_left.mp h i hi) (hn i) (O i)
noncomputable def n6:List Nat:=[0,1,2,3,4,5]
theorem gv1{q:Query}(h:v0 mb q):∀p∈[Pl.gv q none],p.OK mb:=fun p hp=>by rw[List.mem_singleton]at hp;subst hp;exact h
theorem OG(B:aE mb)(b:Bool)(W:Wd)(σ:Sg)(hL:σ.L.length≤100000)(a:Addr)(d:Nat):∀n∈n6,CallOK (g0 mb) 436 [.ref 0,.ref (cN b)] none (d+12) (core b W σ (.ext a)++[wd "t" n]) (.ok (.str (vS n))) (core b W (σ.logged "t" n) (.ext a)++[wd "t" n]):=by
 cases b
 ·exact oW n6 B (cs:=[]) (n:=100) (ps:=fun _=>[.gv (.small σ.L) none]) (pr:=[]) (ks:=[]) (ns:=fun _=>[]) (F:=aI) rfl (bI 0) (by kernel_rfl) (fun _=>rfl) (fun _=>gv1 hL)
 ·exact oW n6 B (cs:=[]) (n:=100) (ps:=fun _=>[.gv (.small σ.L) none]) (pr:=[]) (ks:=[]) (ns:=fun _=>[]) (F:=aI) rfl (bI 0) (by kernel_rfl) (fun _=>rfl) (fun _=>gv1 hL)
theorem OF(B:aE mb)(b:Bool)(W:Wd)(σ:Sg)(a:Addr)(d:Nat):∀n∈n6,CallOK (g0 mb) 436 [.ref 0,.ref (cN b)] none (d+12) (core b W σ (.ext a)++[wd "x" n]) (.error (.ref (cN b+1))) (core b W σ (.ext a)++[wd "x" n]++exS (cN b+1) exX):=by
 cases b
 ·exact oW n6 B (cs:=[]) (n:=100) (ps:=fun _=>[]) (pr:=[]) (ks:=[]) (ns:=fun _=>[22,23]) (F:=aI) rfl (bI 0) (by kernel_rfl) (fun _=>rfl) (fun _ _ h=>nomatch h)
 ·exact oW n6 B (cs:=[]) (n:=100) (ps:=fun _=>[]) (pr:=[]) (ks:=[]) (ns:=fun _=>[26,27]) (F:=aI) rfl (bI 0) (by kernel_rfl) (fun _=>rfl) (fun _ _ h=>nomatch h)
theorem OH(B:aE mb)(b:Bool)(W:Wd)(σ:Sg)(hL:σ.L.length≤100000)(a:Addr)(d:Nat):∀n∈n6,CallOK (g0 mb) 436 [.ref 0,.ref (cN b)] none (d+12) (core b W σ (.ext a)++[wd "p" n]) (.ok (.ref (cN b+1))) (core b W (σ.logged "p" n) (.ext a)++[wd "p" n]++[.inst 126 (some (cN b+2)),.idict [(15,.str "yield"),(14,.ref (cN b))]]):=by
 cases b
 ·exact oW n6 B (cs:=[]) (n:=100) (ps:=fun _=>[.gv (.small σ.L) none]) (pr:=[]) (ks:=[]) (ns:=fun _=>[24,23]) (F:=aI) rfl (bI 0) (by kernel_rfl) (fun _=>rfl) (fun _=>gv1 hL)
 ·exact oW n6 B (cs:=[]) (n:=100) (ps:=fun _=>[.gv (.small σ.L) none]) (pr:=[]) (ks:=[]) (ns:=fun _=>[28,27]) (F:=aI) rfl (bI 0) (by kernel_rfl) (fun _=>rfl) (fun _=>gv1 hL)
theorem OJ(B:aE mb)(b:Bool)(W:Wd)(σ:Sg)(hL:σ.L.length≤100000)(a:Addr)(d:Nat):∀n∈n6,CallOK (g0 mb) 436 [.ref 0,.ref (cN b)] none (d+12) (core b W σ (.ext a)++[wd "f" n]) (.error (.ref (cN b+1))) (core b W (σ.logged "f" n) (.ext a)++[wd "f" n]++exS (cN b+1) (W.exF n)):=by
 cases b
 ·exact oW n6 B (cs:=[]) (n:=100) (ps:=fun _=>[.gv (.small σ.L) none]) (pr:=[]) (ks:=[]) (ns:=fun _=>[24,25]) (F:=aI) rfl (bI 0) (by kernel_rfl) (fun _=>rfl) (fun _=>gv1 hL)
 ·exact oW n6 B (cs:=[]) (n:=100) (ps:=fun _=>[.gv (.small σ.L) none]) (pr:=[]) (ks:=[]) (ns:=fun _=>[28,29]) (F:=aI) rfl (bI 0) (by kernel_rfl) (fun _=>rfl) (fun _=>gv1 hL)
end
end
section
open PySem.Calls
noncomputable def brk(c:Int):Str:=if c=3 then "invoked \"break\" outside of a loop" else "invoked \"continue\" outside of a loop"
noncomputable def vals:List Str:=["w0","w1","w2","w3","w4","w5","invalid command name \"x\"","too many nested evaluations (infinite loop?)","cannot yield: C stack busy"]
noncomputable def fU{α β:Type}(l:List α)(r:List β):List (α×β):=l.flatMap fun a=>r.map fun b=>(a,b)
theorem cS{α β:Type}{l:List α}{r:List β}{a:α}{b:β}(ha:a∈l)(hb:b∈r):(a,b)∈fU l r:=List.mem_flatMap.mpr ⟨a,ha,List.mem_map.mpr ⟨b,hb,rfl⟩⟩
noncomputable def n4:List Nat:=[1,2,3,4]
noncomputable def kI(core:List SO):List SO:=core.map (rnO SV.ref wkS)
section
variable{mb:Bt}
theorem CallOK.info{f:Nat}{args:List SV}{hd:Option Nat}{d:Nat}{core core':List SO}{out:Except SV SV}(C:CallOK (g0 mb) f args hd d (kI core) out core'):CallOK (g0 mb) f args hd d core out core' :=
 C.weak (fun _ _ R=>R.wk QB) (fun _ _ R=>R)
noncomputable def EPs(mb:Bt)(d:Nat)(lab:Str)(hd:Nat)(e e':Ex):Prop :=
 ∀l back,CallOK (g0 mb) 174 [.ref 0,.ref 2] (some hd) d (aU 0 l back true lab++exS 2 e) (.error (.ref 2)) (aU 0 l back true lab++exS 2 e')
noncomputable def epL(mb:Bt)(J d:Nat)(lab:Str)(hd:Nat)(e:Ex)(l:List (Str×Str))(back:Option Str):Option FT :=
 cH (wkE J) (List.range (kI (aU 0 l back true lab++exS 2 e)).length++[]) [] [] (bH mb [] 100 bK (some hd) [.ref 0,.ref 2] (kI (aU 0 l back true lab++exS 2 e)) d [] [])
noncomputable def epR(mb:Bt)(d:Nat)(lab:Str)(hd:Nat)(e e':Ex)(l:List (Str×Str))(back:Option Str):Option FT :=
 cG (.error (.ref 2)) (aU 0 l back true lab++exS 2 e') [] (bH mb [] 100 bK (some hd) [.ref 0,.ref 2] (kI (aU 0 l back true lab++exS 2 e)) d [] [])
theorem wB(B:aE mb){J d:Nat}{lab:Str}{hd:Nat}{e e':Ex}(h:∀l back,epL mb J d lab hd e l back=epR mb d lab hd e e' l back):EPs mb d lab hd e e':=fun l back =>
 CallOK.info (mkC B (ns:=[]) (F:=bK) rfl (bI J) (h l back) rfl (fun _ h=>nomatch h))
theorem ep1(B:aE mb)(d:Nat)(lab v:Str)(r:Int):∀x∈[((2:Int),(1:Int)),(3,2),(4,3)],EPs mb (d+12) lab 2 ⟨2,v,x.1,r,0,false⟩ ⟨2,v,x.2,r,0,false⟩:=by
 intro x hx
 refine wB (J:=0) B fun l back=>?_
 revert x
 apply List.map_inj_left.mp
 kernel_rfl
theorem ep2(B:aE mb)(d:Nat)(lab v:Str) (l back):CallOK (g0 mb) 174 [.ref 0,.ref 2] (some 2) (d+12) (aU 0 l back true lab++exS 2 ⟨2,v,1,0,0,false⟩) (.ok (.str v)) (aU 0 l back true lab++exS 2 ⟨2,v,1,0,0,false⟩) :=
 CallOK.info (mkC B (cs:=[]) (n:=100) (ps:=[]) (pr:=[]) (ks:=[]) (ns:=[]) (F:=bK) rfl (bI 0) (by kernel_rfl) rfl (fun _ h=>nomatch h))
theorem ep3(B:aE mb)(d:Nat)(lab v:Str):∀r∈[(1:Int),3,4,5],EPs mb (d+12) lab 2 ⟨2,v,1,r,0,false⟩ ⟨r,v,0,0,0,false⟩:=by
 intro x hx
 refine wB (J:=0) B fun l back=>?_
 revert x
 apply List.map_inj_left.mp
 kernel_rfl
theorem ep4(B:aE mb)(d:Nat)(v:Str):∀x∈fU n4 [(5:Int),6,-1,2001],EPs mb (d+12) (pS x.1) 2 ⟨x.2,v,0,0,0,false⟩ ⟨x.2,v,0,0,0,false⟩:=by
 intro x hx
 refine wB (J:=0) B fun l back=>?_
 revert x
 apply List.map_inj_left.mp
 kernel_rfl
theorem ep5(B:aE mb)(d:Nat)(v:Str) (l back):∀x∈fU n4 [(3:Int),4],CallOK (g0 mb) 174 [.ref 0,.ref 2] (some 2) (d+12) (aU 0 l back true (pS x.1)++exS 2 ⟨x.2,v,0,0,0,false⟩) (.error (.ref 4))
  (aU 0 l back true (pS x.1)++exS 2 ⟨x.2,v,0,0,0,false⟩++[.exc 84 (some 5) (.ref 2) true,exD ⟨1,brk x.2,0,0,1,true⟩]):=fun x hx=>CallOK.info <|
 oW (fU n4 [(3:Int),4]) B (cs:=[]) (n:=100) (ps:=fun _=>[]) (pr:=[]) (ks:=[]) (ns:=fun _=>[6,7]) (F:=bK) (wk:=wkE 1) (args:=fun _=>[.ref 0,.ref 2]) (out:=fun _=>.error (.ref 4))
  (core:=fun x=>kI (aU 0 l back true (pS x.1)++exS 2 ⟨x.2,v,0,0,0,false⟩)) (core':=fun x=>aU 0 l back true (pS x.1)++exS 2 ⟨x.2,v,0,0,0,false⟩++[.exc 84 (some 5) (.ref 2) true,exD ⟨1,brk x.2,0,0,1,true⟩]) rfl (bI 1) (by kernel_rfl) (fun _=>rfl) (fun _ _ h=>nomatch h) x hx
theorem ep6(B:aE mb)(d:Nat):∀x∈fU n4 vals,EPs mb (d+12) (pS x.1) 2 ⟨1,x.2,0,0,0,false⟩ ⟨1,x.2,0,0,1,false⟩:=by
 intro x hx
 refine wB (J:=1) B fun l back=>?_
 revert x
 apply List.map_inj_left.mp
 kernel_rfl
noncomputable def j5:List Nat:=[0,1,2,3,4]
theorem ep7(B:aE mb)(d:Nat)(v:Str)(cx:Bool):∀j∈j5,∀n∈n4,EPs mb (d+12) (pS n) 2 ⟨1,v,0,0,j+1,cx⟩ ⟨1,v,0,0,j+2,cx⟩:=by
 intro j hj n hn
 refine wB (J:=j+2) B fun l back=>?_
 revert n
 apply List.map_inj_left.mp
 revert j
 apply List.map_inj_left.mp
 cases cx<;>kernel_rfl
end
end
section
open PySem.Calls
noncomputable def Sg.back(σ:Sg):Option Str→Sg
 |some f=>{ σ with fr:=f }
 |none=>σ
section
variable(mb:Bt)
noncomputable def dQ(b:Bool)(W:Wd)(l:List (Str×Str))(σ:Sg)(r:Rs)(σ':Sg)(D:Nat):Prop :=
 ∀d,D≤d→∀a,CallOK (g0 mb) 245 [.ref 0,.txt l] none d (core b W σ (.ext a)) (r.out (cN b)) (core b W σ' (.ext a)++r.objs (cN b))
noncomputable def kL(b:Bool)(W:Wd)(l:List (Str×Str))(σ:Sg)(r:Rs)(σ':Sg)(D:Nat):Prop :=
 ∀d,D≤d→∀a,CallOK (g0 mb) 761 [.ref 0,.txt l] none d (core b W σ (.ext a)) (r.out (cN b)) (core b W σ' (.ext a)++r.objs (cN b))
noncomputable def iB(b:Bool)(W:Wd)(l:List (Str×Str))(bk:Option Str)(pr:Bool)(lab:Str)(σ:Sg)(r:Rs)(σ':Sg)(D:Nat):Prop :=
 ∀d,D≤d→∀a,CallOK (g0 mb) 266 [.ref 0,.ref (cN b)] none d (core b W σ (.ext a)++aU (cN b) l bk pr lab) (r.out (cN b+2)) (core b W σ' (.ext a)++aU (cN b) l bk pr lab++r.objs (cN b+2))
noncomputable def gU(b:Bool)(W:Wd)(v n:Str)(σ:Sg)(r:Rs)(σ':Sg)(D:Nat):Prop :=
 ∀d,D≤d→∀a,CallOK (g0 mb) 259 [.ref 0,.ref (cN b)] none d (core b W σ (.ext a)++[.list [.str v,.str n]]) (r.out (cN b+1)) (core b W σ' (.ext a)++[.list [.str v,.str n]]++r.objs (cN b+1))
noncomputable def cK(b:Bool)(W:Wd)(v n:Str)(σ:Sg)(out:Except SV SV)(new:List SO)(σ':Sg)(D:Nat):Prop :=
 ∀d,D≤d→∀a,CallOK (g0 mb) 436 [.ref 0,.ref (cN b)] none d (core b W σ (.ext a)++[.list [.str v,.str n]]) out (core b W σ' (.ext a)++[.list [.str v,.str n]]++new)
end
section
variable{mb:Bt}{b:Bool}{W:Wd}{l:List (Str×Str)}{bk:Option Str}{pr:Bool}{lab:Str}{σ σ':Sg}{D:Nat}{s:Str}{e e':Ex}{r r':Rs}{v n:Str}
noncomputable def RW{α β:Type}(g:α→β):List α→List β
 |[]=>[]
 |x::l=>g x::RW g l
theorem aA{α β:Type}{f g:α→β}:∀{l:List α},List.map f l=RW g l→∀x∈l,f x=g x
 |[],_,_,h=>by cases h
 |y::l,e,x,h=>by
  have e:f y::List.map f l=g y::RW g l:=e
  rcases List.mem_cons.mp h with rfl|h
  ·exact(List.cons.inj e).1
  ·exact aA (List.cons.inj e).2 x h
theorem bF{n d:Nat}(h:n≤d):∃d',d=d'+n:=⟨d - n,(Nat.sub_add_cancel h).symm⟩
theorem OL{n:Nat}{P:Nat→Prop}(h:∀d,P (d+n)):∀d,n≤d→P d:=fun d hd=>Nat.sub_add_cancel hd▸h (d - n)
theorem d20{D d:Nat}(h:max D 20+1≤d):∃d',d=d'+20∧D≤d'+19:=by
 obtain⟨k,rfl⟩:=bF (Nat.le_trans (Nat.le_succ_of_le (Nat.le_max_right D 20)) h)
 exact⟨k,rfl,Nat.le_trans (Nat.le_max_left D 20) (Nat.le_of_succ_le_succ h)⟩
theorem ok1{p:Pl}(h:p.OK mb):∀q∈[p],q.OK mb:=fun q hq=>by rw[List.mem_singleton]at hq;subst hq;exact h
theorem ok2{p p':Pl}(h:p.OK mb)(h':p'.OK mb):∀q∈[p,p'],q.OK mb:=fun q hq=>by
 rcases List.mem_cons.mp hq with rfl|hq
 ·exact h
 ·exact ok1 h' q hq
theorem ok3{p p' p'':Pl}(h:p.OK mb)(h':p'.OK mb)(h'':p''.OK mb):∀q∈[p,p',p''],q.OK mb:=fun q hq=>by
 rcases List.mem_cons.mp hq with rfl|hq
 ·exact h
 ·exact ok2 h' h'' q hq
theorem mkR(B:aE mb){f:Nat}{F:Fn}(cs:List Nat){args:List SV}{hd:Option Nat}{core core':List SO}{d:Nat}(ps:List Pl)(pr:List Int){out:Except SV SV}{wk:Nat→SV→SV}(rs ks:List Nat)(hF:lk ftable f=some F)(hw:eY wk)
  (h:cH wk (List.range core.length++rs.map (core.length+·)) ks ps (bH mb cs 100 F hd args core d ps pr)=cG out core' ps (bH mb cs 100 F hd args core d ps pr))(O:∀p∈ps,p.OK mb) :
  CallOK (g0 mb) f args hd d core out core' :=
 mkC B hF hw h (List.all_eq_true.mpr fun p hp=>by
  obtain⟨i,_,rfl⟩:=List.mem_map.mp hp
  exact Nat.ble_eq_true_of_le (Nat.le_add_right _ _)) O
noncomputable def cC(b:Bool)(W:Wd)(l:List (Str×Str))(σ:Sg)(r:Rs)(σ':Sg)(d:Nat)(a:Addr):Pl :=
 .fr 245 [.ref 0,.txt l] none d (core b W σ (.ext a)) (r.out (cN b)) (core b W σ' (.ext a)++r.objs (cN b)) (List.range (cN b)) [] wid
theorem dL{d:Nat}{a:Addr}(h:dQ mb b W l σ r σ' D)(hd:D≤d):(cC b W l σ r σ' d a).OK mb:=⟨h d hd a,aC⟩
theorem AB(B:aE mb)(h:dQ mb b W l σ (.ok s) σ' D):iB mb b W l bk pr lab σ (.ok s) (σ'.back bk) (max D 20+1):=by
 intro d hd a
 obtain⟨d,rfl,hd2⟩:=d20 hd
 have o:=dL (d:=d+19) (a:=a) h (by assumption)
 cases b<;>cases bk<;>exact mkR B [245,174] [cC _ W l σ (.ok s) σ' (d+19) a] [] [] [] (F:=aW) rfl aC (by kernel_rfl) (ok1 o)
theorem AC(B:aE mb)(h:dQ mb b W l σ (.er e) σ' D):iB mb b W l bk false lab σ (.er e) (σ'.back bk) (max D 20+1):=by
 intro d hd a
 obtain⟨d,rfl,hd2⟩:=d20 hd
 have o:=dL (d:=d+19) (a:=a) h (by assumption)
 obtain⟨c,v,le,re,j,cx⟩:=e
 cases cx
 ·cases b<;>cases bk<;>exact mkR B [245,174] [cC _ W l σ (.er ⟨c,v,le,re,j,false⟩) σ' (d+19) a] [] [0,1] [] (F:=aW) rfl aC (by kernel_rfl) (ok1 o)
 ·cases b<;>cases bk<;>exact mkR B [245,174] [cC _ W l σ (.er ⟨c,v,le,re,j,true⟩) σ' (d+19) a] [] [0,1,2,3] [] (F:=aW) rfl aC (by kernel_rfl) (ok1 o)
noncomputable def mU(b:Bool)(l:List (Str×Str))(bk:Option Str)(lab:Str)(e:Ex)(out:Except SV SV)(new:List SO)(d:Nat)(φ:List Nat):Pl :=
 .fr 174 [.ref 0,.ref 2] (some 2) d (aU 0 l bk true lab++exS 2 e) out (aU 0 l bk true lab++new) (φ.map (cN b+·)) [] wid
theorem GD(B:aE mb)(h:dQ mb b W l σ (.er e) σ' D)(hx:e.cx=false)(hE:∀d l bk,CallOK (g0 mb) 174 [.ref 0,.ref 2] (some 2) (d+12) (aU 0 l bk true lab++exS 2 e) (.ok (.str s)) (aU 0 l bk true lab++exS 2 e)) :
  iB mb b W l bk true lab σ (.ok s) (σ'.back bk) (max D 20+1):=by
 intro d hd a
 obtain⟨d,rfl,hd2⟩:=d20 hd
 have o:=dL (d:=d+19) (a:=a) h (by assumption)
 obtain⟨c,v,le,re,j,cx⟩:=e
 simp only at hx;subst hx
 have o2:(mU b l bk lab ⟨c,v,le,re,j,false⟩ (.ok (.str s)) (exS 2 ⟨c,v,le,re,j,false⟩) (d+19) [0,1,2,3]).OK mb:=⟨hE (d+7) l bk,aC⟩
 cases b<;>cases bk<;>exact mkR B [245,174] [mU _ l _ lab ⟨c,v,le,re,j,false⟩ (.ok (.str s)) (exS 2 ⟨c,v,le,re,j,false⟩) (d+19) [0,1,2,3],cC _ W l σ (.er ⟨c,v,le,re,j,false⟩) σ' (d+19) a] [] [] [] (F:=aW) rfl aC (by kernel_rfl) (ok2 o2 o)
theorem eE(B:aE mb)(h:dQ mb b W l σ (.er e) σ' D)(hx:e'.cx=e.cx)(hE:∀d,EPs mb (d+12) lab 2 e e') :
  iB mb b W l bk true lab σ (.er e') (σ'.back bk) (max D 20+1):=by
 intro d hd a
 obtain⟨d,rfl,hd2⟩:=d20 hd
 have o:=dL (d:=d+19) (a:=a) h (by assumption)
 obtain⟨c,v,le,re,j,cx⟩:=e
 obtain⟨c',v',le',re',j',cx'⟩:=e'
 simp only at hx;subst hx
 cases cx'
 ·have o2:(mU b l bk lab ⟨c,v,le,re,j,false⟩ (.error (.ref 2)) (exS 2 ⟨c',v',le',re',j',false⟩) (d+19) [0,1,2,3]).OK mb:=⟨hE (d+7) l bk,aC⟩
  cases b<;>cases bk<;>exact mkR B [245,174] [mU _ l _ lab ⟨c,v,le,re,j,false⟩ (.error (.ref 2)) (exS 2 ⟨c',v',le',re',j',false⟩) (d+19) [0,1,2,3],cC _ W l σ (.er ⟨c,v,le,re,j,false⟩) σ' (d+19) a] [] [0,1] [] (F:=aW) rfl aC (by kernel_rfl) (ok2 o2 o)
 ·have o2:(mU b l bk lab ⟨c,v,le,re,j,true⟩ (.error (.ref 2)) (exS 2 ⟨c',v',le',re',j',true⟩) (d+19) [0,1,2,3,4,5]).OK mb:=⟨hE (d+7) l bk,aC⟩
  cases b<;>cases bk<;>exact mkR B [245,174] [mU _ l _ lab ⟨c,v,le,re,j,true⟩ (.error (.ref 2)) (exS 2 ⟨c',v',le',re',j',true⟩) (d+19) [0,1,2,3,4,5],cC _ W l σ (.er ⟨c,v,le,re,j,true⟩) σ' (d+19) a] [] [0,1,2,3] [] (F:=aW) rfl aC (by kernel_rfl) (ok2 o2 o)
theorem CH(B:aE mb)(h:dQ mb b W l σ (.er e) σ' D)(hx:e.cx=false)(hx':e'.cx=true)(hE:∀d l bk,CallOK (g0 mb) 174 [.ref 0,.ref 2] (some 2) (d+12) (aU 0 l bk true lab++exS 2 e) (.error (.ref 4)) (aU 0 l bk true lab++exS 2 e++[.exc 84 (some 5) (.ref 2) true,exD e'])) :
  iB mb b W l bk true lab σ (.er e') (σ'.back bk) (max D 20+1):=by
 intro d hd a
 obtain⟨d,rfl,hd2⟩:=d20 hd
 have o:=dL (d:=d+19) (a:=a) h (by assumption)
 obtain⟨c,v,le,re,j,cx⟩:=e
 obtain⟨c',v',le',re',j',cx'⟩:=e'
 simp only at hx hx';subst hx;subst hx'
 have o2:(mU b l bk lab ⟨c,v,le,re,j,false⟩ (.error (.ref 4)) (exS 2 ⟨c,v,le,re,j,false⟩++[.exc 84 (some 5) (.ref 2) true,exD ⟨c',v',le',re',j',true⟩]) (d+19) [0,1,2,3]).OK mb:=⟨hE (d+7) l bk,aC⟩
 cases b<;>cases bk
 ·exact mkR B [245,174] [mU _ l _ lab ⟨c,v,le,re,j,false⟩ (.error (.ref 4)) (exS 2 ⟨c,v,le,re,j,false⟩++[.exc 84 (some 5) (.ref 2) true,exD ⟨c',v',le',re',j',true⟩]) (d+19) [0,1,2,3],cC _ W l σ (.er ⟨c,v,le,re,j,false⟩) σ' (d+19) a] [] [2,3,0,1] [25] (F:=aW) rfl aC (by kernel_rfl) (ok2 o2 o)
 ·exact mkR B [245,174] [mU _ l _ lab ⟨c,v,le,re,j,false⟩ (.error (.ref 4)) (exS 2 ⟨c,v,le,re,j,false⟩++[.exc 84 (some 5) (.ref 2) true,exD ⟨c',v',le',re',j',true⟩]) (d+19) [0,1,2,3],cC _ W l σ (.er ⟨c,v,le,re,j,false⟩) σ' (d+19) a] [] [2,3,0,1] [25] (F:=aW) rfl aC (by kernel_rfl) (ok2 o2 o)
 ·exact mkR B [245,174] [mU _ l _ lab ⟨c,v,le,re,j,false⟩ (.error (.ref 4)) (exS 2 ⟨c,v,le,re,j,false⟩++[.exc 84 (some 5) (.ref 2) true,exD ⟨c',v',le',re',j',true⟩]) (d+19) [0,1,2,3],cC _ W l σ (.er ⟨c,v,le,re,j,false⟩) σ' (d+19) a] [] [2,3,0,1] [29] (F:=aW) rfl aC (by kernel_rfl) (ok2 o2 o)
 ·exact mkR B [245,174] [mU _ l _ lab ⟨c,v,le,re,j,false⟩ (.error (.ref 4)) (exS 2 ⟨c,v,le,re,j,false⟩++[.exc 84 (some 5) (.ref 2) true,exD ⟨c',v',le',re',j',true⟩]) (d+19) [0,1,2,3],cC _ W l σ (.er ⟨c,v,le,re,j,false⟩) σ' (d+19) a] [] [2,3,0,1] [29] (F:=aW) rfl aC (by kernel_rfl) (ok2 o2 o)
end
end
section
open PySem.Calls
section
variable{mb:Bt}{b:Bool}{W:Wd}{l:List (Str×Str)}{bk:Option Str}{pr:Bool}{lab:Str}{σ σ1 σ2 σ':Sg}{D:Nat}{s s1:Str}{e e':Ex}{r r':Rs}{v n v2 n2:Str}
noncomputable def gZ(b:Bool)(W:Wd)(v n:Str)(σ:Sg)(out:Except SV SV)(new:List SO)(σ':Sg)(d:Nat)(a:Addr):Pl :=
 .fr 436 [.ref 0,.ref (cN b)] none d (core b W σ (.ext a)++[.list [.str v,.str n]]) out (core b W σ' (.ext a)++[.list [.str v,.str n]]++new) (List.range (cN b+1)) [] wid
noncomputable def rH(b:Bool)(W:Wd)(l:List (Str×Str))(bk:Option Str)(pr:Bool)(lab:Str)(σ:Sg)(r:Rs)(σ':Sg)(d:Nat)(a:Addr):Pl :=
 .fr 266 [.ref 0,.ref (cN b)] none d (core b W σ (.ext a)++aU (cN b) l bk pr lab) (r.out (cN b+2)) (core b W σ' (.ext a)++aU (cN b) l bk pr lab++r.objs (cN b+2)) (List.range (cN b)++[cN b+1,cN b+2]) [] wid
theorem PP(B:aE mb)(h:cK mb b W v n σ (.ok (.str s)) [] σ' D):gU mb b W v n σ (.ok s) σ' (max D 20+1):=by
 intro d hd a
 obtain⟨d,rfl,hd2⟩:=d20 hd
 have o:(gZ b W v n σ (.ok (.str s)) [] σ' (d+19) a).OK mb:=⟨h _ (by assumption) a,aC⟩
 cases b<;>exact mkR B [436,266] [gZ _ W v n σ (.ok (.str s)) [] σ' (d+19) a] [] [] [] (F:=bV) rfl aC (by kernel_rfl) (ok1 o)
theorem JV(B:aE mb)(h:cK mb b W v n σ (.error (.ref (cN b+1))) (exS (cN b+1) e) σ' D):gU mb b W v n σ (.er e) σ' (max D 20+1):=by
 intro d hd a
 obtain⟨d,rfl,hd2⟩:=d20 hd
 have o:(gZ b W v n σ (.error (.ref (cN b+1))) (exS (cN b+1) e) σ' (d+19) a).OK mb:=⟨h _ (by assumption) a,aC⟩
 obtain⟨c,v,le,re,j,cx⟩:=e
 cases cx
 ·cases b<;>exact mkR B [436,266] [gZ _ W _ n σ (.error (.ref (cN _+1))) (exS (cN _+1) ⟨c,v,le,re,j,false⟩) σ' (d+19) a] [] [0,1] [] (F:=bV) rfl aC (by kernel_rfl) (ok1 o)
 ·cases b<;>exact mkR B [436,266] [gZ _ W _ n σ (.error (.ref (cN _+1))) (exS (cN _+1) ⟨c,v,le,re,j,true⟩) σ' (d+19) a] [] [0,1,2,3] [] (F:=bV) rfl aC (by kernel_rfl) (ok1 o)
theorem ZA(B:aE mb)(h:cK mb b W v n σ (.ok (.ref (cN b+1))) [.inst 126 (some (cN b+2)),.idict [(15,.str "yield"),(14,.ref (cN b))]] σ' D):gU mb b W v n σ (.er exP) σ' (max D 20+1):=by
 intro d hd a
 obtain⟨d,rfl,hd2⟩:=d20 hd
 have o:(gZ b W v n σ (.ok (.ref (cN b+1))) [.inst 126 (some (cN b+2)),.idict [(15,.str "yield"),(14,.ref (cN b))]] σ' (d+19) a).OK mb:=⟨h _ (by assumption) a,aC⟩
 cases b<;>exact mkR B [436,266] [gZ _ W v n σ (.ok (.ref (cN _+1))) [.inst 126 (some (cN _+2)),.idict [(15,.str "yield"),(14,.ref (cN _))]] σ' (d+19) a] [] [3,4] [] (F:=bV) rfl (bI 0) (by kernel_rfl) (ok1 o)
theorem BA(B:aE mb)(h:cK mb b W v n σ (.ok (.ref (cN b+1))) (aU (cN b+1) l bk pr lab) σ1 D)(hn:iB mb b W l bk pr lab σ1 r σ' D):gU mb b W v n σ r σ' (max D 20+1):=by
 intro d hd a
 obtain⟨d,rfl,hd2⟩:=d20 hd
 have o:(gZ b W v n σ (.ok (.ref (cN b+1))) (aU (cN b+1) l bk pr lab) σ1 (d+19) a).OK mb:=⟨h _ (by assumption) a,aC⟩
 have o2:(rH b W l bk pr lab σ1 r σ' (d+19) a).OK mb:=⟨hn _ (by assumption) a,aC⟩
 cases r with
 |ok s=>cases b<;>exact mkR B [436,266] [rH _ W l bk pr lab σ1 (.ok s) σ' (d+19) a,gZ _ W v n σ (.ok (.ref (cN _+1))) (aU (cN _+1) l bk pr lab) σ1 (d+19) a] [] [] [] (F:=bV) rfl aC (by kernel_rfl) (ok2 o2 o)
 |er e =>
  obtain⟨c,ve,le,re,j,cx⟩:=e
  cases cx
  ·cases b<;>exact mkR B [436,266] [rH _ W l bk pr lab σ1 (.er ⟨c,ve,le,re,j,false⟩) σ' (d+19) a,gZ _ W v n σ (.ok (.ref (cN _+1))) (aU (cN _+1) l bk pr lab) σ1 (d+19) a] [] [2,3] [] (F:=bV) rfl aC (by kernel_rfl) (ok2 o2 o)
  ·cases b<;>exact mkR B [436,266] [rH _ W l bk pr lab σ1 (.er ⟨c,ve,le,re,j,true⟩) σ' (d+19) a,gZ _ W v n σ (.ok (.ref (cN _+1))) (aU (cN _+1) l bk pr lab) σ1 (d+19) a] [] [2,3,4,5] [] (F:=bV) rfl aC (by kernel_rfl) (ok2 o2 o)
noncomputable def gY(b:Bool)(W:Wd)(v n:Str)(σ:Sg)(r:Rs)(σ':Sg)(d:Nat)(a:Addr)(i:Nat):Pl :=
 .fr 259 [.ref 0,.ref (cN b)] none d (core b W σ (.ext a)++[.list [.str v,.str n]]) (r.out (cN b+1)) (core b W σ' (.ext a)++[.list [.str v,.str n]]++r.objs (cN b+1)) (List.range (cN b)++[cN b+i]) [] wid
theorem LY(B:aE mb)(h:gU mb b W v n σ (.er e) σ' D):kL mb b W [(v,n),(v2,n2)] σ (.er e) σ' (max D 20+1):=by
 intro d hd a
 obtain⟨d,rfl,hd2⟩:=d20 hd
 have o:(gY b W v n σ (.er e) σ' (d+19) a 2).OK mb:=⟨h _ (by assumption) a,aC⟩
 obtain⟨c,ve,le,re,j,cx⟩:=e
 cases cx
 ·cases b<;>exact mkR B [259] [gY _ W v n σ (.er ⟨c,ve,le,re,j,false⟩) σ' (d+19) a 2] [] [3,4] [] (F:=dI) rfl aC (by kernel_rfl) (ok1 o)
 ·cases b<;>exact mkR B [259] [gY _ W v n σ (.er ⟨c,ve,le,re,j,true⟩) σ' (d+19) a 2] [] [3,4,5,6] [] (F:=dI) rfl aC (by kernel_rfl) (ok1 o)
theorem LX(B:aE mb)(h:gU mb b W v n σ (.ok s1) σ1 D)(h2:gU mb b W v2 n2 σ1 r σ' D):kL mb b W [(v,n),(v2,n2)] σ r σ' (max D 20+1):=by
 intro d hd a
 obtain⟨d,rfl,hd2⟩:=d20 hd
 have o:(gY b W v n σ (.ok s1) σ1 (d+19) a 2).OK mb:=⟨h _ (by assumption) a,aC⟩
 have o2:(gY b W v2 n2 σ1 r σ' (d+19) a 3).OK mb:=⟨h2 _ (by assumption) a,aC⟩
 cases r with
 |ok s=>cases b<;>exact mkR B [259] [gY _ W v2 n2 σ1 (.ok s) σ' (d+19) a 3,gY _ W v n σ (.ok s1) σ1 (d+19) a 2] [] [] [] (F:=dI) rfl aC (by kernel_rfl) (ok2 o2 o)
 |er e =>
  obtain⟨c,ve,le,re,j,cx⟩:=e
  cases cx
  ·cases b<;>exact mkR B [259] [gY _ W v2 n2 σ1 (.er ⟨c,ve,le,re,j,false⟩) σ' (d+19) a 3,gY _ W v n σ (.ok s1) σ1 (d+19) a 2] [] [4,5] [] (F:=dI) rfl aC (by kernel_rfl) (ok2 o2 o)
  ·cases b<;>exact mkR B [259] [gY _ W v2 n2 σ1 (.er ⟨c,ve,le,re,j,true⟩) σ' (d+19) a 3,gY _ W v n σ (.ok s1) σ1 (d+19) a 2] [] [4,5,6,7] [] (F:=dI) rfl aC (by kernel_rfl) (ok2 o2 o)
noncomputable def okP:List (Int×Int):=fU [0,1,2,3,4,5] [40]++[(0,2),(1,2),(0,3),(1,3),(2,3),(0,4),(1,4),(2,4),(3,4),(0,5),(1,5),(2,5),(3,5),(4,5)]
noncomputable def CS:List (Int×Int):=[(2,2),(3,3),(4,4),(5,5)]
noncomputable def wU(b:Bool)(W:Wd)(l:List (Str×Str))(σ:Sg)(r:Rs)(σ':Sg)(d:Nat)(a:Addr):Pl :=
 .fr 761 [.ref 0,.txt l] none d (core b W σ (.ext a)) (r.out (cN b)) (core b W σ' (.ext a)++r.objs (cN b)) (List.range (cN b)) [] wid
noncomputable def rnL(mb:Bt)(b:Bool)(W:Wd)(l:List (Str×Str))(σ:Sg)(r:Rs)(σ':Sg)(d:Nat)(a:Addr)(rs:List Nat)(x:Int×Int):Option FT :=
 cH wid (List.range (core b { W with lim:=x.2 } { σ with dp:=x.1 } (.ext a)).length++rs.map ((core b { W with lim:=x.2 } { σ with dp:=x.1 } (.ext a)).length+·)) [] [wU b { W with lim:=x.2 } l { σ with dp:=x.1+1 } r { σ' with dp:=x.1+1 } d a]
  (bH mb [761] 100 dK none [.ref 0,.txt l] (core b { W with lim:=x.2 } { σ with dp:=x.1 } (.ext a)) (d+1) [wU b { W with lim:=x.2 } l { σ with dp:=x.1+1 } r { σ' with dp:=x.1+1 } d a] [])
noncomputable def rnR(mb:Bt)(b:Bool)(W:Wd)(l:List (Str×Str))(σ:Sg)(r:Rs)(σ':Sg)(d:Nat)(a:Addr)(x:Int×Int):Option FT :=
 cG (r.out (cN b)) (core b { W with lim:=x.2 } { σ' with dp:=x.1 } (.ext a)++r.objs (cN b)) [wU b { W with lim:=x.2 } l { σ with dp:=x.1+1 } r { σ' with dp:=x.1+1 } d a]
  (bH mb [761] 100 dK none [.ref 0,.txt l] (core b { W with lim:=x.2 } { σ with dp:=x.1 } (.ext a)) (d+1) [wU b { W with lim:=x.2 } l { σ with dp:=x.1+1 } r { σ' with dp:=x.1+1 } d a] [])
theorem wQ(B:aE mb){d:Nat}{a:Addr}{rs:List Nat}{x:Int×Int}(h:rnL mb b W l σ r σ' d a rs x=rnR mb b W l σ r σ' d a x)(o:(wU b W l { σ with dp:=x.1+1 } r { σ' with dp:=x.1+1 } d a).OK mb)(e:W.lim=x.2) :
  CallOK (g0 mb) 245 [.ref 0,.txt l] none (d+1) (core b W { σ with dp:=x.1 } (.ext a)) (r.out (cN b)) (core b W { σ' with dp:=x.1 } (.ext a)++r.objs (cN b)):=by
 have eW:{ W with lim:=x.2 }=W:=by rw[←e]
 unfold rnL rnR at h
 rw[eW]at h
 exact mkR B [761] [wU b W l { σ with dp:=x.1+1 } r { σ' with dp:=x.1+1 } d a] [] rs [] (F:=dK) rfl aC h (ok1 o)
theorem EW(B:aE mb)(hx:(σ.dp,W.lim)∈okP)(h:kL mb b W l { σ with dp:=σ.dp+1 } r { σ' with dp:=σ.dp+1 } D):dQ mb b W l σ r { σ' with dp:=σ.dp } (max D 20+1):=by
 intro d hd a
 obtain⟨d,rfl,hd2⟩:=d20 hd
 have o:(wU b W l { σ with dp:=σ.dp+1 } r { σ' with dp:=σ.dp+1 } (d+19) a).OK mb:=⟨h _ (by assumption) a,aC⟩
 cases r with
 |ok s =>
  have key:∀x∈okP,rnL mb b W l σ (.ok s) σ' (d+19) a [] x=rnR mb b W l σ (.ok s) σ' (d+19) a x:=by
   apply List.map_inj_left.mp
   cases b<;>kernel_rfl
  exact wQ B (key _ hx) o rfl
 |er e =>
  obtain⟨c,ve,le,re,j,cx⟩:=e
  cases cx
  ·have key:∀x∈okP,rnL mb b W l σ (.er ⟨c,ve,le,re,j,false⟩) σ' (d+19) a [0,1] x=rnR mb b W l σ (.er ⟨c,ve,le,re,j,false⟩) σ' (d+19) a x:=by
    apply List.map_inj_left.mp
    cases b<;>kernel_rfl
   exact wQ B (key _ hx) o rfl
  ·have key:∀x∈okP,rnL mb b W l σ (.er ⟨c,ve,le,re,j,true⟩) σ' (d+19) a [0,1,2,3] x=rnR mb b W l σ (.er ⟨c,ve,le,re,j,true⟩) σ' (d+19) a x:=by
    apply List.map_inj_left.mp
    cases b<;>kernel_rfl
   exact wQ B (key _ hx) o rfl
noncomputable def rlL(mb:Bt)(b:Bool)(W:Wd)(l:List (Str×Str))(σ:Sg)(d:Nat)(a:Addr)(x:Int×Int):Option FT :=
 cH (wkE 0) (List.range (core b { W with lim:=x.2 } { σ with dp:=x.1 } (.ext a)).length++[1,2].map ((core b { W with lim:=x.2 } { σ with dp:=x.1 } (.ext a)).length+·)) [] []
   (bH mb [761] 100 dK none [.ref 0,.txt l] (core b { W with lim:=x.2 } { σ with dp:=x.1 } (.ext a)) (d+20) [] [])
noncomputable def rlR(mb:Bt)(b:Bool)(W:Wd)(l:List (Str×Str))(σ:Sg)(d:Nat)(a:Addr)(x:Int×Int):Option FT :=
   cG ((Rs.er exN).out (cN b)) (core b { W with lim:=x.2 } { σ with dp:=x.1 } (.ext a)++(Rs.er exN).objs (cN b)) [] (bH mb [761] 100 dK none [.ref 0,.txt l] (core b { W with lim:=x.2 } { σ with dp:=x.1 } (.ext a)) (d+20) [] [])
theorem RI(B:aE mb){d:Nat}{a:Addr}{x:Int×Int}(h:rlL mb b W l σ d a x=rlR mb b W l σ d a x)(e:W.lim=x.2)(e2:σ.dp=x.1) :
  CallOK (g0 mb) 245 [.ref 0,.txt l] none (d+20) (core b W σ (.ext a)) ((Rs.er exN).out (cN b)) (core b W σ (.ext a)++(Rs.er exN).objs (cN b)):=by
 have eW:{ W with lim:=x.2 }=W:=by rw[←e]
 have eS:{ σ with dp:=x.1 }=σ:=by rw[←e2]
 unfold rlL rlR at h
 rw[eW,eS]at h
 exact mkR B [761] [] [] [1,2] [] (F:=dK) rfl (bI 0) h (fun _ h=>nomatch h)
theorem LS(B:aE mb)(hx:(σ.dp,W.lim)∈CS):dQ mb b W l σ (.er exN) σ 20:=by
 intro d hd a
 obtain⟨d,rfl⟩:=bF (n:=20) hd
 have key:∀x∈CS,rlL mb b W l σ d a x=rlR mb b W l σ d a x:=by
  apply List.map_inj_left.mp
  cases b<;>kernel_rfl
 exact RI B (key _ hx) rfl rfl
theorem gU.le{D':Nat}(h:gU mb b W v n σ r σ' D)(l:D≤D'):gU mb b W v n σ r σ' D':=fun d hd=>h d (by lia)
theorem dQ.le{D':Nat}(h:dQ mb b W l σ r σ' D)(hl:D≤D'):dQ mb b W l σ r σ' D':=fun d hd=>h d (by lia)
end
end
section
open PySem.Calls
noncomputable def Wd.setsh(W:Wd)(n:Nat)(x:Bool×Bool):Wd:=match n with|0=>{ W with s0:=x }|1=>{ W with s1:=x }|2=>{ W with s2:=x }|3=>{ W with s3:=x }|_=>{ W with s4:=x }
theorem dZ(W:Wd):∀n∈n4,W.setsh n (W.sh n)=W:=by
 intro n hn
 simp only[n4,List.mem_cons,List.not_mem_nil,or_false]at hn
 rcases hn with rfl|rfl|rfl|rfl<;>rfl
section
variable{mb:Bt}{b:Bool}{W:Wd}{l:List (Str×Str)}{bk:Option Str}{pr:Bool}{lab:Str}{σ σ1 σ2 σ':Sg}{D:Nat}{s s1:Str}{e e':Ex}{r r':Rs}{v n v2 n2:Str}
noncomputable def Sg.nested(σ:Sg)(n:Nat)(fb:Bool):Sg:={ σ.logged "n" n with fr:=bif fb then fS n else σ.fr }
noncomputable def bnA(mb:Bt)(b:Bool)(W:Wd)(σ:Sg)(d:Nat)(a:Addr)(x:Bool×Bool)(n:Nat):Option (Except SV SV×St) :=
 bH mb [] 100 aI none [.ref 0,.ref (cN b)] (core b (W.setsh n x) σ (.ext a)++[SO.list [.str "n",.str (aY n)]]) d [.gv (.small σ.L) none] []
noncomputable def bnL(mb:Bt)(b:Bool)(W:Wd)(σ:Sg)(d:Nat)(a:Addr)(x:Bool×Bool)(n:Nat):Option FT :=
 cH (wkE 0) (List.range (core b (W.setsh n x) σ (.ext a)++[SO.list [.str "n",.str (aY n)]]).length++[3,2].map ((core b (W.setsh n x) σ (.ext a)++[SO.list [.str "n",.str (aY n)]]).length+·)) [] [.gv (.small σ.L) none] (bnA mb b W σ d a x n)
noncomputable def bnR(mb:Bt)(b:Bool)(W:Wd)(σ:Sg)(d:Nat)(a:Addr)(x:Bool×Bool)(n:Nat):Option FT :=
 cG (.ok (.ref (cN b+1))) (core b (W.setsh n x) (σ.nested n x.2) (.ext a)++[SO.list [.str "n",.str (aY n)]]++aU (cN b+1) (W.tx n) (bif x.2 then some σ.fr else none) x.1 (pS n)) [.gv (.small σ.L) none] (bnA mb b W σ d a x n)
theorem UJ(B:aE mb){d:Nat}{a:Addr}{x:Bool×Bool}{n:Nat}(h:bnL mb b W σ d a x n=bnR mb b W σ d a x n)(e:W.setsh n x=W)(o:(Pl.gv (.small σ.L) none).OK mb) :
  CallOK (g0 mb) 436 [.ref 0,.ref (cN b)] none d (core b W σ (.ext a)++[SO.list [.str "n",.str (aY n)]]) (.ok (.ref (cN b+1))) (core b W (σ.nested n x.2) (.ext a)++[SO.list [.str "n",.str (aY n)]]++aU (cN b+1) (W.tx n) (bif x.2 then some σ.fr else none) x.1 (pS n)):=by
 unfold bnL bnR bnA at h
 rw[e]at h
 exact mkR B [] [.gv (.small σ.L) none] [] [3,2] [] (F:=aI) rfl (bI 0) h (ok1 o)
theorem BJ(B:aE mb)(hL:σ.L.length≤100000):∀n∈n4,cK mb b W "n" (aY n) σ (.ok (.ref (cN b+1))) (aU (cN b+1) (W.tx n) (bif (W.sh n).2 then some σ.fr else none) (W.sh n).1 (pS n)) (σ.nested n (W.sh n).2) 20:=by
 intro n hn d hd a
 obtain⟨d,rfl⟩:=bF (n:=20) hd
 have key:∀p q,∀n∈n4,bnL mb b W σ (d+20) a (p,q) n=bnR mb b W σ (d+20) a (p,q) n:=by
  intro p q
  apply List.map_inj_left.mp
  cases b<;>cases q<;>kernel_rfl
 have:=UJ B (key (W.sh n).1 (W.sh n).2 n hn) (dZ W n hn) hL
 exact this
noncomputable def bdA(mb:Bt)(b:Bool)(v:Str)(W:Wd)(σ:Sg)(r:Rs)(σ':Sg)(d:Nat)(a:Addr)(n:Nat):Option (Except SV SV×St) :=
 bH mb [245] 100 aI none [.ref 0,.ref (cN b)] (core b W σ (.ext a)++[SO.list [.str v,.str (aY n)]]) (d+3) [cC b W (W.tx n) (σ.logged v n) r σ' d a,.gv (.small σ.L) none] []
noncomputable def bdL(mb:Bt)(b:Bool)(v:Str)(W:Wd)(σ:Sg)(r:Rs)(σ':Sg)(d:Nat)(a:Addr)(rs:List Nat)(n:Nat):Option FT :=
 cH wid (List.range (core b W σ (.ext a)++[SO.list [.str v,.str (aY n)]]).length++rs.map ((core b W σ (.ext a)++[SO.list [.str v,.str (aY n)]]).length+·)) [] [cC b W (W.tx n) (σ.logged v n) r σ' d a,.gv (.small σ.L) none] (bdA mb b v W σ r σ' d a n)
noncomputable def bdR(mb:Bt)(b:Bool)(v:Str)(W:Wd)(σ:Sg)(r:Rs)(σ':Sg)(d:Nat)(a:Addr)(n:Nat):Option FT :=
 cG (r.out (cN b+1)) (core b W σ' (.ext a)++[SO.list [.str v,.str (aY n)]]++r.objs (cN b+1)) [cC b W (W.tx n) (σ.logged v n) r σ' d a,.gv (.small σ.L) none] (bdA mb b v W σ r σ' d a n)
theorem lG(B:aE mb){d:Nat}{a:Addr}{rs:List Nat}{v:Str}{n:Nat}(h:bdL mb b v W σ r σ' d a rs n=bdR mb b v W σ r σ' d a n)(o:(cC b W (W.tx n) (σ.logged v n) r σ' d a).OK mb)(o2:(Pl.gv (.small σ.L) none).OK mb) :
  CallOK (g0 mb) 436 [.ref 0,.ref (cN b)] none (d+3) (core b W σ (.ext a)++[SO.list [.str v,.str (aY n)]]) (r.out (cN b+1)) (core b W σ' (.ext a)++[SO.list [.str v,.str (aY n)]]++r.objs (cN b+1)):=by
 unfold bdL bdR bdA at h
 exact mkR B [245] [cC b W (W.tx n) (σ.logged v n) r σ' d a,.gv (.small σ.L) none] [] rs [] (F:=aI) rfl aC h (ok2 o o2)
theorem BK(B:aE mb)(hL:σ.L.length≤100000)(n:Nat)(hn:n∈n4)(h:dQ mb b W (W.tx n) (σ.logged "d" n) r σ' D):cK mb b W "d" (aY n) σ (r.out (cN b+1)) (r.objs (cN b+1)) σ' (D+3):=by
 intro d hd a
 obtain⟨d,rfl⟩:=bF (n:=3) (Nat.le_trans (Nat.le_add_left _ _) hd)
 have o:=dL (d:=d) (a:=a) h (by lia)
 cases r with
 |ok s =>
  have key:∀n∈n4,bdL mb b "d" W σ (.ok s) σ' d a [] n=bdR mb b "d" W σ (.ok s) σ' d a n:=by
   apply List.map_inj_left.mp
   cases b<;>kernel_rfl
  exact lG B (key n hn) o hL
 |er e =>
  obtain⟨c,ve,le,re,j,cx⟩:=e
  cases cx
  ·have key:∀n∈n4,bdL mb b "d" W σ (.er ⟨c,ve,le,re,j,false⟩) σ' d a [2,3] n=bdR mb b "d" W σ (.er ⟨c,ve,le,re,j,false⟩) σ' d a n:=by
    apply List.map_inj_left.mp
    cases b<;>kernel_rfl
   exact lG B (key n hn) o hL
  ·have key:∀n∈n4,bdL mb b "d" W σ (.er ⟨c,ve,le,re,j,true⟩) σ' d a [2,3,4,5] n=bdR mb b "d" W σ (.er ⟨c,ve,le,re,j,true⟩) σ' d a n:=by
    apply List.map_inj_left.mp
    cases b<;>kernel_rfl
   exact lG B (key n hn) o hL
theorem KD(B:aE mb)(hL:σ.L.length≤100000)(n:Nat)(hn:n∈n4)(h:dQ mb false W (W.tx n) (σ.logged "m" n) r σ' D):cK mb false W "m" (aY n) σ (r.out (cN false+1)) (r.objs (cN false+1)) σ' (D+3):=by
 intro d hd a
 obtain⟨d,rfl⟩:=bF (n:=3) (Nat.le_trans (Nat.le_add_left _ _) hd)
 have o:=dL (d:=d) (a:=a) h (by lia)
 cases r with
 |ok s =>
  have key:∀n∈n4,bdL mb false "m" W σ (.ok s) σ' d a [] n=bdR mb false "m" W σ (.ok s) σ' d a n:=by
   apply List.map_inj_left.mp
   kernel_rfl
  exact lG B (key n hn) o hL
 |er e =>
  obtain⟨c,ve,le,re,j,cx⟩:=e
  cases cx
  ·have key:∀n∈n4,bdL mb false "m" W σ (.er ⟨c,ve,le,re,j,false⟩) σ' d a [2,3] n=bdR mb false "m" W σ (.er ⟨c,ve,le,re,j,false⟩) σ' d a n:=by
    apply List.map_inj_left.mp
    kernel_rfl
   exact lG B (key n hn) o hL
  ·have key:∀n∈n4,bdL mb false "m" W σ (.er ⟨c,ve,le,re,j,true⟩) σ' d a [2,3,4,5] n=bdR mb false "m" W σ (.er ⟨c,ve,le,re,j,true⟩) σ' d a n:=by
    apply List.map_inj_left.mp
    kernel_rfl
   exact lG B (key n hn) o hL
end
end
section
open PySem.Calls
set_option genCtorIdx true in
inductive Vb where
 |t | p | x | f | d | m | n
noncomputable def Vb.str:Vb→Str
 |.t=>"t" | .p=>"p" | .x=>"x" | .f=>"f" | .d=>"d" | .m=>"m" | .n=>"n"
noncomputable abbrev Cmd:=Vb×Nat
noncomputable abbrev Scs:=Nat→Cmd×Cmd
noncomputable abbrev Told:=Int×Str×Int×Int
structure PS where
 L:List SV
 M:List SV
 S:List (Str×Bool)
noncomputable def encC(c:Cmd):Str×Str:=(c.1.str,aY c.2)
noncomputable def mkE(W:Wd)(k:Nat)(b:Bool):SV:=.fz (.tuple [.txt (W.tx k),.bool b])
noncomputable def PS.lg(s:PS)(v:Str)(n:Nat)(fr:Str):PS:={ s with L:=s.L++[bM v n fr] }
noncomputable def aX(t:Told):Told :=
 if t.1=2 then(if t.2.2.1>1 then(2,t.2.1,t.2.2.1 - 1,t.2.2.2)else(t.2.2.2,t.2.1,0,0))
 else if t.1=3∨t.1=4 then(1,brk t.1,0,0)else t
noncomputable def tH:Told:=(1,"too many nested evaluations (infinite loop?)",0,0)
noncomputable def doC(W:Wd)(rec:Nat→Str→Int→Bool→PS→Told×PS)(c:Cmd)(fr:Str)(deep:Int)(fast:Bool)(s:PS):Told×PS:=match c.1 with
 |.x=>((1,"invalid command name \"x\"",0,0),s)
 |.t=>((0,vS c.2,0,0),s.lg "t" c.2 fr)
 |.p=>((1,"cannot yield: C stack busy",0,0),s.lg "p" c.2 fr)
 |.f=>(W.fa c.2,s.lg "f" c.2 fr)
 |.d=>rec c.2 fr (deep+1) false (s.lg "d" c.2 fr)
 |.m=>rec c.2 fr (deep+1) true { s.lg "m" c.2 fr with M:=s.M++[mkE W c.2 false] }
 |.n=>if deep+1>W.lim then(tH,s.lg "n" c.2 fr)else
   let s2:=if fast=true∧(aO (W.tx c.2),(W.sh c.2).1)∉s.S then{ s.lg "n" c.2 fr with M:=s.M++[mkE W c.2 (W.sh c.2).1],S:=s.S++[(aO (W.tx c.2),(W.sh c.2).1)] }else s.lg "n" c.2 fr
   let q:=rec c.2 (bif (W.sh c.2).2 then fS c.2 else fr) (deep+1) fast s2
   (if(W.sh c.2).1=true then aX q.1 else q.1,q.2)
noncomputable def rule(W:Wd)(sc:Scs):Nat→Nat→Str→Int→Bool→PS→Told×PS
 |0,_,_,_,_,s=>((0,"",0,0),s)
 |f+1,k,fr,deep,fast,s =>
  let q:=doC W (rule W sc f) (sc k).1 fr deep fast s
  if q.1.1≠0 then q else doC W (rule W sc f) (sc k).2 fr deep fast q.2
theorem wO{W:Wd}{sc:Scs}{f k:Nat}{fr:Str}{deep:Int}{fast:Bool}{s:PS}:rule W sc (f+1) k fr deep fast s=if(doC W (rule W sc f) (sc k).1 fr deep fast s).1.1≠0 then doC W (rule W sc f) (sc k).1 fr deep fast s else doC W (rule W sc f) (sc k).2 fr deep fast (doC W (rule W sc f) (sc k).1 fr deep fast s).2:=rfl
noncomputable def toldOf:Rs→Told
 |.ok s=>(0,s,0,0)
 |.er e=>(e.code,e.val,e.lev,e.ret)
inductive EOK(J:Nat):Ex→Prop where
 |c2(v:Str)(le re:Int):v∈vals→le∈[(1:Int),2,3,4]→re∈[(0:Int),1,3,4,5]→EOK J ⟨2,v,le,re,0,false⟩
 |c34(v:Str)(c:Int):v∈vals→c∈[(3:Int),4]→EOK J ⟨c,v,0,0,0,false⟩
 |co(v:Str)(c:Int):v∈vals→c∈[(5:Int),6,-1,2001]→EOK J ⟨c,v,0,0,0,false⟩
 |c1(v:Str):v∈vals→EOK J ⟨1,v,0,0,0,false⟩
 |cj(v:Str)(j:Nat)(cx:Bool):j<J→EOK J ⟨1,v,0,0,j+1,cx⟩
noncomputable def RsOK(J:Nat):Rs→Prop
 |.ok _=>True
 |.er e=>EOK J e
theorem EOK.mono{J J':Nat}{e:Ex}(h:EOK J e)(l:J≤J'):EOK J' e:=by
 cases h with
 |c2 v le re a b c=>exact .c2 v le re a b c
 |c34 v c a b=>exact .c34 v c a b
 |co v c a b=>exact .co v c a b
 |c1 v a=>exact .c1 v a
 |cj v j cx a=>exact .cj v j cx (Nat.lt_of_lt_of_le a l)
theorem RsOK.mono{J J':Nat}{r:Rs}(h:RsOK J r)(l:J≤J'):RsOK J' r:=by
 cases r with
 |ok _=>trivial
 |er e=>exact EOK.mono h l
theorem EOK.code{J:Nat}{e:Ex}(h:EOK J e):e.code≠0:=by
 cases h with
 |c34 v c a b=>intro z;simp only at z;subst z;revert b;decide
 |co v c a b=>intro z;simp only at z;subst z;revert b;decide
 |_=>intro z;cases z
section
variable{mb:Bt}{b:Bool}{W:Wd}{l:List (Str×Str)}{bk:Option Str}{σ σ1 σ':Sg}{D J:Nat}{s:Str}{e:Ex}{r:Rs}
inductive NpR(mb:Bt)(b:Bool)(W:Wd)(l:List (Str×Str))(bk:Option Str)(lab:Str)(σ σ1:Sg)(J:Nat)(q:Told)(D:Nat):Prop
 |mk(r:Rs)(h1:toldOf r=q)(h2:RsOK J r)(h3:iB mb b W l bk true lab σ r σ1 D)
theorem pQ(B:aE mb)(h:dQ mb b W l σ r σ' D)(hr:RsOK J r)(hJ:J≤5){n:Nat}(hn:n∈n4):NpR mb b W l bk (pS n) σ (σ'.back bk) (J+1) (aX (toldOf r)) (max D 20+1):=by
 cases r with
 |ok s=>exact⟨.ok s,rfl,trivial,AB B h⟩
 |er e =>
  cases hr with
  |c2 v le re hv hl hr =>
   simp only[List.mem_cons,List.not_mem_nil,or_false]at hl
   rcases hl with rfl|hl
   ·simp only[List.mem_cons,List.not_mem_nil,or_false]at hr
    rcases hr with rfl|hr
    ·exact⟨.ok v,rfl,trivial,GD B h rfl fun d l bk=>ep2 B d _ v l bk⟩
    ·have hr':re∈[(1:Int),3,4,5]:=by simp only[List.mem_cons,List.not_mem_nil,or_false];exact hr
     refine⟨.er ⟨re,v,0,0,0,false⟩,rfl,?_,eE B h rfl fun d=>ep3 B d _ v re hr'⟩
     rcases hr with rfl|rfl|rfl|rfl
     ·exact .c1 v hv
     ·exact .c34 v 3 hv (by decide)
     ·exact .c34 v 4 hv (by decide)
     ·exact .co v 5 hv (by decide)
   ·rcases hl with rfl|rfl|rfl
    ·exact⟨.er ⟨2,v,1,re,0,false⟩,rfl,.c2 v 1 re hv (by decide) hr,eE B h rfl fun d=>ep1 B d _ v re (2,1) (by decide)⟩
    ·exact⟨.er ⟨2,v,2,re,0,false⟩,rfl,.c2 v 2 re hv (by decide) hr,eE B h rfl fun d=>ep1 B d _ v re (3,2) (by decide)⟩
    ·exact⟨.er ⟨2,v,3,re,0,false⟩,rfl,.c2 v 3 re hv (by decide) hr,eE B h rfl fun d=>ep1 B d _ v re (4,3) (by decide)⟩
  |c34 v c hv hc =>
   refine⟨.er ⟨1,brk c,0,0,1,true⟩,?_,.cj _ 0 true (Nat.succ_pos _),CH B h rfl rfl fun d l bk=>ep5 B d v l bk (n,c) (cS hn hc)⟩
   simp only[List.mem_cons,List.not_mem_nil,or_false]at hc
   rcases hc with rfl|rfl<;>rfl
  |co v c hv hc =>
   refine⟨.er ⟨c,v,0,0,0,false⟩,?_,.co v c hv hc,eE B h rfl fun d=>ep4 B d v (n,c) (cS hn hc)⟩
   simp only[List.mem_cons,List.not_mem_nil,or_false]at hc
   rcases hc with rfl|rfl|rfl|rfl<;>rfl
  |c1 v hv=>exact⟨.er ⟨1,v,0,0,1,false⟩,rfl,.cj v 0 false (Nat.succ_pos _),eE B h rfl fun d=>ep6 B d (n,v) (cS hn hv)⟩
  |cj v j cx hj =>
   have hj5:j∈j5:=by
    have:j<5:=Nat.lt_of_lt_of_le hj hJ
    simp only[j5,List.mem_cons,List.not_mem_nil,or_false];exact lt5 j this
   exact⟨.er ⟨1,v,0,0,j+2,cx⟩,rfl,.cj v (j+1) cx (Nat.succ_lt_succ hj),eE B h rfl fun d=>ep7 B d v cx j hj5 n hn⟩
structure Rel(b:Bool)(bk:List (List SV×SV)→List (Str×Bool)→Prop)(σ:Sg)(s:PS):Prop where
 L:σ.L=s.L
 M:b=true→σ.M=s.M
 B:b=true→bk σ.B s.S
structure qP(b:Bool)(bk:List (List SV×SV)→List (Str×Bool)→Prop)(σ:Sg)(J:Nat)(q:Told×PS)(r:Rs)(σ':Sg):Prop where
 told:toldOf r=q.1
 ok:RsOK J r
 rel:Rel b bk σ' q.2
 fr:σ'.fr=σ.fr
 dp:σ'.dp=σ.dp
 M:b=false→σ'.M=σ.M
end
end
section
open PySem.Calls
noncomputable def gr:Nat→Nat
 |0=>0
 |f+1=>2*(1+gr f)
theorem IK(f:Nat):gr (f+1)=(1+gr f)+(1+gr f):=Nat.two_mul _
structure PS.Le(s s':PS)(n:Nat):Prop where
 L:s'.L.length≤s.L.length+n
 M:s'.M.length≤s.M.length+n
 S:s'.S.length≤s.S.length+n
theorem PS.Le.refl(s:PS)(n:Nat):PS.Le s s n:=⟨Nat.le_add_right _ _,Nat.le_add_right _ _,Nat.le_add_right _ _⟩
theorem PS.Le.trans{a b c:PS}{m n:Nat}(x:PS.Le a b m)(y:PS.Le b c n):PS.Le a c (m+n):=⟨pt x.L y.L,pt x.M y.M,pt x.S y.S⟩
theorem PS.Le.mono{a b:PS}{m n:Nat}(x:PS.Le a b m)(h:m≤n):PS.Le a b n:=⟨Nat.le_trans x.L (Nat.add_le_add_left h _),Nat.le_trans x.M (Nat.add_le_add_left h _),Nat.le_trans x.S (Nat.add_le_add_left h _)⟩
theorem la1{α:Type}{l:List α}{x:α}:(l++[x]).length≤l.length+1:=Nat.le_of_eq List.length_append
theorem PS.le_lg(s:PS)(v:Str)(n:Nat)(fr:Str):PS.Le s (s.lg v n fr) 1:=⟨la1,Nat.le_add_right _ _,Nat.le_add_right _ _⟩
theorem NC{s:PS}{v:Str}{n:Nat}{fr:Str}{x:SV}:PS.Le s { s.lg v n fr with M:=s.M++[x] } 1:=⟨la1,la1,Nat.le_add_right _ _⟩
noncomputable def nPS(W:Wd)(s:PS)(n:Nat)(fr:Str)(fast:Bool):PS:=if fast=true∧(aO (W.tx n),(W.sh n).1)∉s.S then{ s.lg "n" n fr with M:=s.M++[mkE W n (W.sh n).1],S:=s.S++[(aO (W.tx n),(W.sh n).1)] }else s.lg "n" n fr
theorem GH{W:Wd}{s:PS}{n:Nat}{fr:Str}{fast:Bool}:PS.Le s (nPS W s n fr fast) 1:=by
 unfold nPS
 by_cases q:fast=true∧(aO (W.tx n),(W.sh n).1)∉s.S
 ·rw[if_pos q];exact⟨la1,la1,la1⟩
 ·rw[if_neg q];exact s.le_lg _ _ _
theorem yQ{W:Wd}{rec:Nat→Str→Int→Bool→PS→Told×PS}{n:Nat}{fr:Str}{dp:Int}{fast:Bool}{s:PS}(h:¬dp+1>W.lim):doC W rec (.n,n) fr dp fast s=(if(W.sh n).1=true then aX (rec n (bif (W.sh n).2 then fS n else fr) (dp+1) fast (nPS W s n fr fast)).1 else(rec n (bif (W.sh n).2 then fS n else fr) (dp+1) fast (nPS W s n fr fast)).1,(rec n (bif (W.sh n).2 then fS n else fr) (dp+1) fast (nPS W s n fr fast)).2):=by
 show(if dp+1>W.lim then _ else _)=_
 rw[if_neg h];rfl
theorem sU{W:Wd}{rec:Nat→Str→Int→Bool→PS→Told×PS}{n:Nat}{fr:Str}{dp:Int}{fast:Bool}{s:PS}(h:dp+1>W.lim):doC W rec (.n,n) fr dp fast s=(tH,s.lg "n" n fr):=by
 show(if dp+1>W.lim then _ else _)=_
 rw[if_pos h]
theorem nP{W:Wd}{rec:Nat→Str→Int→Bool→PS→Told×PS}{f:Nat}(ih:∀n fr deep fast s,PS.Le s (rec n fr deep fast s).2 (gr f))(c:Cmd)(fr:Str)(deep:Int)(fast:Bool)(s:PS):PS.Le s (doC W rec c fr deep fast s).2 (1+gr f):=by
 obtain⟨v,n⟩:=c
 have l1:=fun v=>(s.le_lg v n fr).mono (Nat.le_add_right 1 (gr f))
 cases v with
 |t=>exact l1 _
 |p=>exact l1 _
 |x=>exact PS.Le.refl s _
 |f=>exact l1 _
 |d=>exact(s.le_lg _ _ _).trans (ih _ _ _ _ _)
 |m=>exact NC.trans (ih _ _ _ _ _)
 |n =>
  by_cases h:deep+1>W.lim
  ·rw[sU h];exact l1 _
  ·rw[yQ h];exact GH.trans (ih _ _ _ _ _)
theorem mH{W:Wd}{sc:Scs}:∀(f n:Nat)(fr:Str)(deep:Int)(fast:Bool)(s:PS),PS.Le s (rule W sc f n fr deep fast s).2 (gr f)
 |0,_,_,_,_,s=>PS.Le.refl s _
 |f+1,n,fr,deep,fast,s=>by
  have ih:=mH (W:=W) (sc:=sc) f
  have h1:=nP (W:=W) ih (sc n).1 fr deep fast s
  rw[wO]
  by_cases h:(doC W (rule W sc f) (sc n).1 fr deep fast s).1.1≠0
  ·rw[if_pos h];exact h1.mono (IK f▸Nat.le_add_right _ _)
  ·rw[if_neg h];exact(h1.trans (nP (W:=W) ih (sc n).2 fr deep fast _)).mono (Nat.le_of_eq (IK f).symm)
noncomputable def Cmd.WF(W:Wd)(k:Nat)(c:Cmd):Prop:=match c.1 with
 |.d | .m=>k<c.2∧c.2≤4∧W.lim=40
 |.n=>k<c.2∧c.2≤4
 |_=>c.2≤5
structure WOK(W:Wd)(sc:Scs):Prop where
 tx:∀k,k≤4→W.tx k=[encC (sc k).1,encC (sc k).2]
 wf:∀k,k≤4→(sc k).1.WF W k∧(sc k).2.WF W k
 fa:∀n,n≤5→EOK 0 (W.exF n)
theorem eH{n:Nat}(h:n≤5):n∈n6:=List.mem_range.mpr (Nat.lt_succ_of_le h:n<6)
theorem gJ{k n:Nat}(h:k<n)(h2:n≤4):n∈n4 :=
 have q:∀n∈List.range 5,0<n→n∈n4:=by decide
 q n (List.mem_range.mpr (Nat.lt_succ_of_le h2)) (Nat.lt_of_le_of_lt (Nat.zero_le _) h)
theorem AZ:∀x∈okP,x.1≤4→(x.1+1,x.2)∈okP∨(x.1+1,x.2)∈CS:=by decide
theorem YX:∀x∈okP,¬(x.1+1>x.2):=by decide
theorem UE:∀x∈CS,x.1+1>x.2:=by decide
theorem JN:∀x∈CS,x.2≠40:=by decide
section
variable{mb:Bt}{b:Bool}{bk:List (List SV×SV)→List (Str×Bool)→Prop}{W:Wd}{sc:Scs}{fs:Bool→Prop}
structure eU(s:PS)(n:Nat):Prop where
 L:s.L.length+n≤100000
 M:s.M.length+n≤100000
 S:s.S.length+n≤1000
theorem eU.le{s s':PS}{m n:Nat}(h:eU s (m+n))(l:PS.Le s s' m):eU s' n:=⟨rl h.L l.L,rl h.M l.M,rl h.S l.S⟩
inductive RnR(mb:Bt)(b:Bool)(bk:List (List SV×SV)→List (Str×Bool)→Prop)(W:Wd)(σ:Sg)(f:Nat)(l:List (Str×Str))(q:Told×PS)(D:Nat):Prop
 |mk(r:Rs)(σ':Sg)(P:qP b bk σ f q r σ')(h:dQ mb b W l σ r σ' D)
inductive MaR(mb:Bt)(b:Bool)(bk:List (List SV×SV)→List (Str×Bool)→Prop)(W:Wd)(σ:Sg)(f n:Nat)(q:Told×PS):Prop
 |mk(r:Rs)(σ':Sg)(P:qP b bk σ f q r σ')(h:cK mb b W "m" (aY n) σ (r.out (cN b+1)) (r.objs (cN b+1)) σ' (72+20*f))
noncomputable def jF(mb:Bt)(b:Bool)(bk:List (List SV×SV)→List (Str×Bool)→Prop)(W:Wd)(sc:Scs)(fs:Bool→Prop)(f:Nat):Prop :=
 ∀k,k≤4→5≤f+k→∀σ s fast,fs fast→Rel b bk σ s→σ.dp≤(k:Int)→(σ.dp,W.lim)∈okP→eU s (gr f) →
  RnR mb b bk W σ f (W.tx k) (rule W sc f k σ.fr (σ.dp+1) fast s) (60+20*f)
theorem Rel.lg{σ:Sg}{s:PS}(R:Rel b bk σ s)(v:Str)(n:Nat){fr:Str}(h:σ.fr=fr):Rel b bk (σ.logged v n) (s.lg v n fr):=⟨by subst h;show σ.L++_=s.L++_;rw[R.L],R.M,R.B⟩
theorem uH{s:PS}{n g:Nat}{fr:Str}{fast:Bool}(hr:eU s (1+g)):eU (nPS W s n fr fast) g:=hr.le GH
noncomputable def bkO(W:Wd)(n:Nat)(fr:Str):Option Str:=bif (W.sh n).2 then some fr else none
structure Bk(τ τ':Sg)(fr:Str):Prop where
 fr:τ'.fr=fr
 dp:τ'.dp=τ.dp
 L:τ'.L=τ.L
 M:τ'.M=τ.M
 B:τ'.B=τ.B
theorem BH{τ:Sg}{n:Nat}{fr:Str}(h:τ.fr=bif (W.sh n).2 then fS n else fr):Bk τ (τ.back (bkO W n fr)) fr:=by
 unfold bkO
 cases q:(W.sh n).2 with
 |true=>exact⟨rfl,rfl,rfl,rfl,rfl⟩
 |false=>rw[q]at h;exact⟨h,rfl,rfl,rfl,rfl⟩
theorem Bk.rel{τ τ':Sg}{fr:Str}{s:PS}(k:Bk τ τ' fr)(R:Rel b bk τ s):Rel b bk τ' s:=⟨k.L.trans R.L,fun z=>k.M.trans (R.M z),fun z=>by rw[k.B];exact R.B z⟩
inductive CmA(mb:Bt)(b:Bool)(bk:List (List SV×SV)→List (Str×Bool)→Prop)(W:Wd)(σ:Sg)(f:Nat)(v:Str)(n:Nat)(q:Told×PS):Prop
 |mk(r:Rs)(σ':Sg)(P:qP b bk σ (f+1) q r σ')(h:gU mb b W v (aY n) σ r σ' (74+20*f))
theorem wC{x:Int}{k n:Nat}(h:x≤(k:Int)+1)(g:k<n):x≤(n:Int):=Int.le_trans h (Int.ofNat_le.mpr g)
theorem PV(B:aE mb)(b:Bool){σ:Sg}{n:Nat}(hL:σ.L.length≤100000)(hn:n≤5):cK mb b W "t" (aY n) σ (.ok (.str (vS n))) [] (σ.logged "t" n) 12:=OL fun d a=>by
 rw[List.append_nil]
 exact OG B b W σ hL a d n (eH hn)
theorem PU(B:aE mb)(b:Bool){σ:Sg}{n:Nat}(hn:n≤5):cK mb b W "x" (aY n) σ (.error (.ref (cN b+1))) (exS (cN b+1) exX) σ 12:=OL fun d a=>OF B b W σ a d n (eH hn)
theorem PW(B:aE mb)(b:Bool){σ:Sg}{n:Nat}(hL:σ.L.length≤100000)(hn:n≤5):cK mb b W "p" (aY n) σ (.ok (.ref (cN b+1))) [.inst 126 (some (cN b+2)),.idict [(15,.str "yield"),(14,.ref (cN b))]] (σ.logged "p" n) 12:=OL fun d a=>OH B b W σ hL a d n (eH hn)
theorem PX(B:aE mb)(b:Bool){σ:Sg}{n:Nat}(hL:σ.L.length≤100000)(hn:n≤5):cK mb b W "f" (aY n) σ (.error (.ref (cN b+1))) (exS (cN b+1) (W.exF n)) (σ.logged "f" n) 12:=OL fun d a=>OJ B b W σ hL a d n (eH hn)
theorem BB(B:aE mb)(O:WOK W sc){f:Nat}(hf:f≤4)(hb:b=true→∀x,fs x→x=false)(IH:jF mb b bk W sc fs f)(fsd:fs false){k:Nat}{σ:Sg}{s:PS}{fast:Bool}
  (hm:∀n,k<n→n≤4→5≤f+n→(σ.dp,W.lim)∈okP→MaR mb b bk W σ f n (doC W (rule W sc f) (.m,n) σ.fr σ.dp fast s))
  (hk:5≤f+1+k)(hfs:fs fast)(R:Rel b bk σ s)(hd:σ.dp≤(k:Int)+1)(hl:(σ.dp,W.lim)∈okP∨(σ.dp,W.lim)∈CS)(hr:eU s (1+gr f))(c:Cmd)(hc:c.WF W k) :
  CmA mb b bk W σ f c.1.str c.2 (doC W (rule W sc f) c σ.fr σ.dp fast s):=by
 obtain⟨v,n⟩:=c
 have hL:σ.L.length≤100000:=by rw[R.L];exact sl hr.L
 have beg:∀{r:Rs}{σ':Sg}{v:Str} {D},cK mb b W v (aY n) σ (r.out (cN b+1)) (r.objs (cN b+1)) σ' D→gU mb b W v (aY n) σ r σ' (max D 20+1):=fun{r σ' v D} h=>by
  cases r with
  |ok s=>exact PP B h
  |er e=>exact JV B h
 cases v with
 |t=>exact .mk (.ok (vS n)) (σ.logged "t" n) ⟨rfl,trivial,R.lg _ _ rfl,rfl,rfl,fun _=>rfl⟩ ((PP B (PV B b hL hc)).le (c74 (by decide)))
 |x=>exact .mk (.er exX) σ ⟨rfl,.c1 _ (by decide),R,rfl,rfl,fun _=>rfl⟩ ((JV B (PU B b hc)).le (c74 (by decide)))
 |p=>exact .mk (.er exP) (σ.logged "p" n) ⟨rfl,.c1 _ (by decide),R.lg _ _ rfl,rfl,rfl,fun _=>rfl⟩ ((ZA B (PW B b hL hc)).le (c74 (by decide)))
 |f=>exact .mk (.er (W.exF n)) (σ.logged "f" n) ⟨rfl,(O.fa n hc).mono (Nat.zero_le _),R.lg _ _ rfl,rfl,rfl,fun _=>rfl⟩ ((JV B (PX B b hL hc)).le (c74 (by decide)))
 |d =>
  obtain⟨h1,h2,h3⟩:=hc
  obtain⟨r,σ',P,hR⟩:=IH n h2 (fk5 hk h1) (σ.logged "d" n) (s.lg "d" n σ.fr) false fsd (R.lg _ _ rfl) (wC hd h1) (hl.resolve_right fun z=>JN _ z h3) (hr.le (s.le_lg _ _ _))
  exact .mk r σ' ⟨P.told,P.ok.mono (Nat.le_succ _),P.rel,P.fr,P.dp,P.M⟩ ((beg (BK B hL n (gJ h1 h2) hR)).le (mx (k:=1) (lf (a:=60) (k:=4) (Nat.le_refl (74+20*f)) (by decide)) (c74 (by decide))))
 |m =>
  obtain⟨h1,h2,h3⟩:=hc
  obtain⟨r,σ',P,hR⟩:=hm n h1 h2 (fk5 hk h1) (hl.resolve_right fun z=>JN _ z h3)
  exact .mk r σ' ⟨P.told,P.ok.mono (Nat.le_succ _),P.rel,P.fr,P.dp,P.M⟩ ((beg hR).le (mk2 (by decide) (by decide)))
 |n =>
  obtain⟨h1,h2⟩:=hc
  have hn:=gJ h1 h2
  have hB:=BJ (b:=b) (W:=W) B hL n hn
  have R1:=R.lg "n" n (fr:=σ.fr) rfl
  rcases hl with hl|hl
  ·
   have R2:Rel b bk (σ.nested n (W.sh n).2) (nPS W s n σ.fr fast):=by
    unfold nPS
    by_cases q:fast=true∧(aO (W.tx n),(W.sh n).1)∉s.S
    ·rw[if_pos q]
     have no:b≠true:=fun z=>Bool.noConfusion ((hb z fast hfs).symm.trans q.1)
     exact⟨R1.L,fun z=>(no z).elim,fun z=>(no z).elim⟩
    ·rw[if_neg q];exact⟨R1.L,R1.M,R1.B⟩
   obtain⟨r,σ',P,hR⟩:=IH n h2 (fk5 hk h1) (σ.nested n (W.sh n).2) _ fast hfs R2 (wC hd h1) hl (uH hr)
   have K:=BH (W:=W) (fr:=σ.fr) P.fr
   have D1:=K.dp.trans P.dp
   have M1:=fun z=>K.M.trans (P.M z)
   have R3:=K.rel P.rel
   show CmA mb b bk W σ f "n" n _
   rw[yQ (YX _ hl)]
   cases hp:(W.sh n).1 with
   |false =>
    rw[hp]at hB
    have hN:iB mb b W (W.tx n) (bkO W n σ.fr) false (pS n) (σ.nested n (W.sh n).2) r (σ'.back (bkO W n σ.fr)) (max (60+20*f) 20+1):=by
     cases r with
     |ok s=>exact AB B hR
     |er e=>exact AC B hR
    exact .mk r _ ⟨P.told,P.ok.mono (Nat.le_succ _),R3,K.fr,D1,M1⟩ ((BA B (fun d hd a=>hB d (lc hd (by decide)) a) (D:=62+20*f) fun d hd a=>hN d (mk3 hd (by decide) (by decide)) a).le (mk2 (by decide) (by decide)))
   |true =>
    rw[hp]at hB
    obtain⟨r',ht,hr',hN⟩:=pQ (bk:=bkO W n σ.fr) B hR P.ok (Nat.le_succ_of_le hf) hn
    exact .mk r' _ ⟨ht.trans (congrArg aX P.told),hr',R3,K.fr,D1,M1⟩ ((BA B (fun d hd a=>hB d (lc hd (by decide)) a) (D:=62+20*f) fun d hd a=>hN d (mk3 hd (by decide) (by decide)) a).le (mk2 (by decide) (by decide)))
  ·
   have hR:=LS (b:=b) (l:=W.tx n) (σ:=σ.nested n (W.sh n).2) B hl
   have K:=BH (W:=W) (τ:=σ.nested n (W.sh n).2) (n:=n) (fr:=σ.fr) rfl
   have R3:Rel b bk ((σ.nested n (W.sh n).2).back (bkO W n σ.fr)) (s.lg "n" n σ.fr):=K.rel ⟨R1.L,R1.M,R1.B⟩
   show CmA mb b bk W σ f "n" n _
   rw[sU (UE _ hl)]
   cases hp:(W.sh n).1 with
   |false =>
    rw[hp]at hB
    exact .mk (.er exN) _ ⟨rfl,.c1 _ (by decide),R3,K.fr,K.dp,fun _=>K.M⟩ ((BA B (fun d hd a=>hB d (Nat.le_trans (by decide) hd) a) (D:=40) fun d hd a=>AC B hR d (Nat.le_trans (by decide) hd) a).le (c74 (by decide)))
   |true =>
    rw[hp]at hB
    obtain⟨r',ht,hr',hN⟩:=pQ (J:=f) (bk:=bkO W n σ.fr) B hR (.c1 _ (by decide)) (Nat.le_succ_of_le hf) hn
    exact .mk r' _ ⟨ht,hr',R3,K.fr,K.dp,fun _=>K.M⟩ ((BA B (fun d hd a=>hB d (Nat.le_trans (by decide) hd) a) (D:=40) fun d hd a=>hN d (Nat.le_trans (by decide) hd) a).le (c74 (by decide)))
end
end
section
open PySem.Calls
section
variable{mb:Bt}{b:Bool}{bk:List (List SV×SV)→List (Str×Bool)→Prop}{W:Wd}{sc:Scs}{fs:Bool→Prop}
noncomputable def OQ(mb:Bt)(b:Bool)(bk:List (List SV×SV)→List (Str×Bool)→Prop)(W:Wd)(sc:Scs)(fs:Bool→Prop)(f:Nat):Prop :=
 ∀n,1≤n→n≤4→5≤f+n→∀σ s fast,fs fast→Rel b bk σ s→σ.dp≤(n:Int)→(σ.dp,W.lim)∈okP→eU s (1+gr f) →
  MaR mb b bk W σ f n (doC W (rule W sc f) (.m,n) σ.fr σ.dp fast s)
theorem pI{J:Nat}{e:Ex}(h:EOK J e):(toldOf (.er e)).1≠0:=h.code
theorem YA{f:Nat}:max (max (74+20*f) 20+1) 20+1≤60+20*(f+1) :=
 Nat.le_trans (mx (k:=1) (mx (k:=2) (lf (a:=74) (b:=80) (Nat.le_refl (80+20*f)) (by decide)) (c74 (by decide))) (c74 (by decide))) (Nat.le_of_eq (by rw[Nat.mul_succ,Nat.add_comm (20*f),←Nat.add_assoc]))
theorem tJ(B:aE mb)(O:WOK W sc){f:Nat}(hf:f≤4)(hb:b=true→∀x,fs x→x=false)(fsd:fs false)(IH:jF mb b bk W sc fs f)(IM:OQ mb b bk W sc fs f):jF mb b bk W sc fs (f+1):=by
 intro k hk hfk σ s fast hfs R hd hl hr
 obtain⟨wf1,wf2⟩:=O.wf k hk
 have hl2:=AZ _ hl (by show σ.dp≤4;lia)
 have hr1:eU s ((1+gr f)+(1+gr f)):=by
  have e:=IK f
  rw[←e];exact hr
 have ra:eU s (1+gr f):=⟨rs hr1.L,rs hr1.M,rs hr1.S⟩
 have h1:=BB (σ:={ σ with dp:=σ.dp+1 }) (k:=k) B O hf hb IH fsd (fun n h1 h2 h3 h4=>IM n (by lia) h2 h3 { σ with dp:=σ.dp+1 } s fast hfs ⟨R.L,R.M,R.B⟩ (by show σ.dp+1≤_;lia) h4 ra) (by assumption) hfs ⟨R.L,R.M,R.B⟩ (by show σ.dp+1≤_;lia) hl2 ra (sc k).1 wf1
 obtain⟨r1,τ1,P1,C1⟩:=h1
 have etx:=O.tx k hk
 have hq:=nP (W:=W) (mH (W:=W) (sc:=sc) f) (sc k).1 σ.fr (σ.dp+1) fast s
 cases r1 with
 |er e =>
  have hp:kL mb b W (W.tx k) { σ with dp:=σ.dp+1 } (.er e) τ1 (max (74+20*f) 20+1):=by rw[etx];exact LY B C1
  have hdp:τ1.dp=σ.dp+1:=P1.dp
  have ht:(doC W (rule W sc f) (sc k).1 σ.fr (σ.dp+1) fast s).1.1≠0:=by
   have:=P1.told
   show _≠_
   rw[show(doC W (rule W sc f) (sc k).1 σ.fr (σ.dp+1) fast s).1=toldOf (.er e) from this.symm]
   exact pI P1.ok
  have er:rule W sc (f+1) k σ.fr (σ.dp+1) fast s=doC W (rule W sc f) (sc k).1 σ.fr (σ.dp+1) fast s:=by
   show(if _ then _ else _)=_
   rw[if_pos ht]
  refine⟨.er e,{ τ1 with dp:=σ.dp },?_,(EW (σ':=τ1) B hl (by rw[show({ τ1 with dp:=σ.dp+1 }:Sg)=τ1 by rw[←hdp]];exact hp)).le YA⟩
  rw[er]
  exact⟨P1.told,P1.ok,⟨P1.rel.L,P1.rel.M,P1.rel.B⟩,P1.fr,rfl,P1.M⟩
 |ok s1 =>
  have ht:(doC W (rule W sc f) (sc k).1 σ.fr (σ.dp+1) fast s).1.1=0:=by
   have:=P1.told
   rw[show(doC W (rule W sc f) (sc k).1 σ.fr (σ.dp+1) fast s).1=toldOf (.ok s1) from this.symm];rfl
  have er:rule W sc (f+1) k σ.fr (σ.dp+1) fast s=doC W (rule W sc f) (sc k).2 σ.fr (σ.dp+1) fast (doC W (rule W sc f) (sc k).1 σ.fr (σ.dp+1) fast s).2:=by
   show(if _ then _ else _)=_
   rw[if_neg (by rw[ht];decide)]
  have rb:eU (doC W (rule W sc f) (sc k).1 σ.fr (σ.dp+1) fast s).2 (1+gr f):=hr1.le hq
  have hdp:τ1.dp=σ.dp+1:=P1.dp
  have hfr:τ1.fr=σ.fr:=P1.fr
  have h2:=BB (σ:=τ1) (k:=k) B O hf hb IH fsd (fun n h1 h2 h3 h4=>IM n (by lia) h2 h3 τ1 _ fast hfs P1.rel (by rw[hdp];lia) h4 rb) (by assumption) hfs P1.rel (by rw[hdp];lia) (by rw[hdp];exact hl2) rb (sc k).2 wf2
  obtain⟨r2,τ2,P2,C2⟩:=h2
  have hp:kL mb b W (W.tx k) { σ with dp:=σ.dp+1 } r2 τ2 (max (74+20*f) 20+1):=by
   rw[etx]
   exact LX B C1 C2
  have hdp2:τ2.dp=σ.dp+1:=P2.dp.trans hdp
  refine⟨r2,{ τ2 with dp:=σ.dp },?_,(EW (σ':=τ2) B hl (by rw[show({ τ2 with dp:=σ.dp+1 }:Sg)=τ2 by rw[←hdp2]];exact hp)).le YA⟩
  rw[er]
  have P2':=P2
  rw[hfr,hdp]at P2'
  exact⟨P2'.told,P2'.ok,⟨P2'.rel.L,P2'.rel.M,P2'.rel.B⟩,P2.fr.trans hfr,rfl,fun z=>(P2.M z).trans (P1.M z)⟩
theorem run_plain(B:aE mb)(O:WOK W sc):∀f,f≤5→jF mb false bk W sc (fun _=>True) f
 |0,_=>fun k hk h=>absurd h (by lia)
 |f+1,hf=>by
  have IH:=run_plain B O f (by lia)
  refine tJ B O (by lia) (fun z=>by cases z) trivial IH fun n h1 h2 h3 σ s fast _ R hd hl hr=>?_
  have hL:σ.L.length≤100000:=by rw[R.L];have:=hr.L;lia
  have R1:Rel false bk (σ.logged "m" n) { s.lg "m" n σ.fr with M:=s.M++[mkE W n false] }:=⟨(R.lg "m" n rfl).L,fun z=>(by cases z),fun z=>(by cases z)⟩
  obtain⟨r,σ',P,hR⟩:=IH n h2 h3 (σ.logged "m" n) _ true trivial R1 hd hl (hr.le NC)
  exact⟨r,σ',⟨P.told,P.ok,P.rel,P.fr,P.dp,P.M⟩,fun d hd a=>KD B hL n (gJ (k:=0) (by assumption) h2) hR d (by lia) a⟩
end
end
section
open PySem.Calls
noncomputable def cdM(a b c d:SV):List (Nat×SV):=[(64,a),(62,b),(40,c),(44,d),(18,.int 0)]
noncomputable def wP(l:List SV):SV:=.fz (.tuple l)
noncomputable def OT(v1 n1 v2 n2:Str):List SV:=[wP [.str "push",.str v1,.none],wP [.str "push",.str n1,.none],wP [.str "invoke",.int 2,.none],wP [.str "pop",.none,.none],wP [.str "push",.str v2,.none],wP [.str "push",.str n2,.none],wP [.str "invoke",.int 2,.none]]
noncomputable def wD(v1 n1 v2 n2:Str):SO:=.finst 598 (cdM (.fz (.list (OT v1 n1 v2 n2))) (.fz (.list [])) (.fz (.list [])) (.fz (.list [])))
noncomputable abbrev K2:=(Str×Str)×(Str×Str)
noncomputable def cO(k:K2):SO:=wD k.1.1 k.1.2 k.2.1 k.2.2
structure AD where
 k:K2
 pc:Int
 bk:Option Str
 pr:Bool
 lab:Str
noncomputable def KH (p : Nat) (a : AD) (stk : List SV) : List SO :=
  [.inst 458 (some (p + 1)), .idict [(8, .fz (cO a.k)), (43, .ref (p + 3)), (42, .int a.pc), (41, .ref (p + 2)), (39, .any), (38, .any), (37, .any)], .list stk,
   .inst 105 (some (p + 4)), .idict [(13, .any), (12, .ostr a.bk), (11, .bool a.pr), (10, .str a.lab)]]
noncomputable def chS (stk : List SV) : Nat → List AD → List SO
  | _, [] => []
  | p, [a] => KH p a stk
  | p, a :: b :: r => KH p a [] ++ chS stk (p + 5) (b :: r)
noncomputable def chR:Nat→List AD→List SV
 |_,[]=>[]
 |p,_::r=>.ref p::chR (p+5) r
noncomputable def stS(W:Wd)(σ:Sg)(c:List AD)(stk:List SV):List SO:=core true W σ (.ref 24)++[.list (chR 25 c)]++chS stk 25 c
noncomputable def wkM(J n:Nat)(v:SV):SV:=match n with
 |13=>wkA v
 |_=>wkE J n v
theorem bC(J:Nat):eY (wkM J):=by
 intro n v ρ x h
 unfold wkM
 split
 ·exact EA h
 ·exact bI J n v ρ x h
mutual
noncomputable def isW:IS→Option (IE×ISs)
 |.whl t b _=>some (t,b)
 |.tryF b _ _=>SL b
 |_=>none
noncomputable def SL:ISs→Option (IE×ISs)
 |.nil=>none
 |.cons s r=>match isW s with
  |some x=>some x
  |none=>SL r
end
noncomputable def yY(b:ISs):IE×ISs:=(SL b).getD (.cst .none 0 ⟨0,0,0,0⟩,.nil)
end
section
open PySem.Calls
section
variable{G:Gl}{f:Nat}{args:List SV}{hd:Option Nat}{d:Nat}{core X:List SO}{out:Except SV SV}{C:Nat}{r0 r1 r2 r3:List SV}
theorem SS(a b c e:SV)(i:Nat):lk (cdM a b c e) i=bif Nat.beq 64 i then some a else bif Nat.beq 62 i then some b else bif Nat.beq 40 i then some c else bif Nat.beq 44 i then some e else bif Nat.beq 18 i then some (.int 0)else none:=rfl
theorem XW{ρ:Tr}{mr:Str→Option Value}{a b c e a' b' c' e':SV}(h:NsR G ρ (cdM a b c e) mr)(ha:∀x,VR ρ a x→VR ρ a' x)(hb:∀x,VR ρ b x→VR ρ b' x)(hc:∀x,VR ρ c x→VR ρ c' x)(he:∀x,VR ρ e x→VR ρ e' x):NsR G ρ (cdM a' b' c' e') mr:=by
 intro i
 have:=h i
 rw[SS]at this ⊢
 revert this
 cases Nat.beq 64 i with
 |true=>exact fun t=>t.elim fun x h=>⟨x,h.1,ha x h.2⟩
 |false =>
  cases Nat.beq 62 i with
  |true=>exact fun t=>t.elim fun x h=>⟨x,h.1,hb x h.2⟩
  |false =>
   cases Nat.beq 40 i with
   |true=>exact fun t=>t.elim fun x h=>⟨x,h.1,hc x h.2⟩
   |false =>
    cases Nat.beq 44 i with
    |true=>exact fun t=>t.elim fun x h=>⟨x,h.1,he x h.2⟩
    |false=>exact id
theorem CallOK.frz(n:Nat)(hX:X.length=n)(hcn:core.length=n)(c0:r0.all clV=true)(c1:r1.all clV=true)(c2:r2.all clV=true)(c3:r3.all clV=true)
  (H:CallOK G f args hd d core (.ok (.ref n)) (X++[.inst C (some (n+1)),.idict (cdM (.ref (n+2)) (.ref (n+3)) (.ref (n+4)) (.ref (n+5))),.list r0,.list r1,.list r2,.list r3])) :
  CallOK G f args hd d core (.ok (.fz (.finst C (cdM (.fz (.list r0)) (.fz (.list r1)) (.fz (.list r2)) (.fz (.list r3)))))) (X++[.dead,.dead,.dead,.dead,.dead,.dead]):=by
 intro A ρ s N vs hv RR post
 refine H A ρ s N vs hv RR fun L' ρ' s' hL S R=>?_
 have len:=R.len
 rw[List.length_append,hX]at len
 have at_:∀i,i<6→∃a,ρ'.a[n+i]?=some a:=fun i hi=>⟨_,List.getElem?_eq_getElem (by rw[len];exact Nat.add_lt_add_left hi n)⟩
 obtain⟨p0,h0⟩:=at_ 0 (by decide)
 obtain⟨p1,h1⟩:=at_ 1 (by decide)
 obtain⟨p2,h2⟩:=at_ 2 (by decide)
 obtain⟨p3,h3⟩:=at_ 3 (by decide)
 obtain⟨p4,h4⟩:=at_ 4 (by decide)
 obtain⟨p5,h5⟩:=at_ 5 (by decide)
 have ob:∀(i:Nat)(o:SO),[SO.inst C (some (n+1)),.idict (cdM (.ref (n+2)) (.ref (n+3)) (.ref (n+4)) (.ref (n+5))),.list r0,.list r1,.list r2,.list r3][i]?=some o→(X++[SO.inst C (some (n+1)),.idict (cdM (.ref (n+2)) (.ref (n+3)) (.ref (n+4)) (.ref (n+5))),.list r0,.list r1,.list r2,.list r3])[n+i]?=some o:=fun i o h=>by
  rw[List.getElem?_append_right (hX▸Nat.le_add_right _ _),hX,Nat.add_sub_cancel_left];exact h
 generalize hraw:X++[SO.inst C (some (n+1)),.idict (cdM (.ref (n+2)) (.ref (n+3)) (.ref (n+4)) (.ref (n+5))),.list r0,.list r1,.list r2,.list r3]=raw at R ob
 have o2:=R.ob _ _ _ (ob 2 _ rfl) h2
 have R2:=R.freeze h2 (ob 2 _ rfl) (so:=.list r0) (o2.le Tr.le_frz) c0
 have b3:(raw.set (n+2) .dead)[n+3]?=some (.list r1):=by rw[List.getElem?_set_ne (by lia)];exact ob 3 _ rfl
 have o3:=R2.ob _ _ _ b3 h3
 have R3:=R2.freeze h3 b3 (so:=.list r1) (o3.le Tr.le_frz) c1
 have b4:((raw.set (n+2) .dead).set (n+3) .dead)[n+4]?=some (.list r2):=by rw[List.getElem?_set_ne (by lia),List.getElem?_set_ne (by lia)];exact ob 4 _ rfl
 have o4:=R3.ob _ _ _ b4 h4
 have R4:=R3.freeze h4 b4 (so:=.list r2) (o4.le Tr.le_frz) c2
 have b5:(((raw.set (n+2) .dead).set (n+3) .dead).set (n+4) .dead)[n+5]?=some (.list r3):=by rw[List.getElem?_set_ne (by lia),List.getElem?_set_ne (by lia),List.getElem?_set_ne (by lia)];exact ob 5 _ rfl
 have o5:=R4.ob _ _ _ b5 h5
 have R5:=R4.freeze h5 b5 (so:=.list r3) (o5.le Tr.le_frz) c3
 have b1:((((raw.set (n+2) .dead).set (n+3) .dead).set (n+4) .dead).set (n+5) .dead)[n+1]?=some (.idict (cdM (.ref (n+2)) (.ref (n+3)) (.ref (n+4)) (.ref (n+5)))):=by
  rw[List.getElem?_set_ne (by lia),List.getElem?_set_ne (by lia),List.getElem?_set_ne (by lia),List.getElem?_set_ne (by lia)];exact ob 1 _ rfl
 have o1:=R5.ob _ _ _ b1 h1
 generalize hm:cdM (.fz (.list r0)) (.fz (.list r1)) (.fz (.list r2)) (.fz (.list r3))=m
 have o1':OR G ((((ρ'.frz p2 (.list r0)).frz p3 (.list r1)).frz p4 (.list r2)).frz p5 (.list r3)) s'.heap p1 (.idict m):=by
  obtain⟨mr,es,ep,e1,e2,e3,e4⟩:=o1
  subst hm
  refine⟨mr,es,ep,e1,e2,e3,XW e4 ?_ ?_ ?_ ?_⟩
  ·rintro x ⟨a,ha,rfl⟩
   have ha:ρ'.a[n+2]?=some a:=ha
   rw[h2]at ha;cases ha;exact⟨_,.tail _ (.tail _ (.tail _ (.head _))),rfl⟩
  ·rintro x ⟨a,ha,rfl⟩
   have ha:ρ'.a[n+3]?=some a:=ha
   rw[h3]at ha;cases ha;exact⟨_,.tail _ (.tail _ (.head _)),rfl⟩
  ·rintro x ⟨a,ha,rfl⟩
   have ha:ρ'.a[n+4]?=some a:=ha
   rw[h4]at ha;cases ha;exact⟨_,.tail _ (.head _),rfl⟩
  ·rintro x ⟨a,ha,rfl⟩
   have ha:ρ'.a[n+5]?=some a:=ha
   rw[h5]at ha;cases ha;exact⟨_,.head _,rfl⟩
 have R1:=R5.freeze h1 b1 (so:=.idict m) (o1'.le Tr.le_frz) (by subst hm;rfl)
 have b0:(((((raw.set (n+2) .dead).set (n+3) .dead).set (n+4) .dead).set (n+5) .dead).set (n+1) .dead)[n]?=some (.inst C (some (n+1))):=by
  rw[List.getElem?_set_ne (by lia),List.getElem?_set_ne (by lia),List.getElem?_set_ne (by lia),List.getElem?_set_ne (by lia),List.getElem?_set_ne (by lia)];exact ob 0 _ rfl
 have o0:=R1.ob _ _ _ b0 h0
 have o0':OR G ((((((ρ'.frz p2 (.list r0)).frz p3 (.list r1)).frz p4 (.list r2)).frz p5 (.list r3)).frz p1 (.idict m)).frz p0 (.finst C m)) s'.heap p0 (.finst C m):=by
  obtain⟨dr,e1,x,e2,e3⟩:=o0
  have e2:ρ'.a[n+1]?=some x:=e2
  rw[h1]at e2;cases e2
  subst e3
  exact⟨p1,.tail _ (.head _),e1⟩
 have R0:=R1.freeze h0 b0 (so:=.finst C m) o0' (by subst hm;rfl)
 have S0:aF L' ρ s ((((((ρ'.frz p2 (.list r0)).frz p3 (.list r1)).frz p4 (.list r2)).frz p5 (.list r3)).frz p1 (.idict m)).frz p0 (.finst C m)) s' :=
  (((((S.trans (aF.freeze h2)).trans (aF.freeze (ρ:=ρ'.frz p2 (.list r0)) h3)).trans (aF.freeze (ρ:=(ρ'.frz p2 (.list r0)).frz p3 (.list r1)) h4)).trans (aF.freeze (ρ:=((ρ'.frz p2 (.list r0)).frz p3 (.list r1)).frz p4 (.list r2)) h5)).trans
   (aF.freeze (ρ:=(((ρ'.frz p2 (.list r0)).frz p3 (.list r1)).frz p4 (.list r2)).frz p5 (.list r3)) h1)).trans (aF.freeze (ρ:=((((ρ'.frz p2 (.list r0)).frz p3 (.list r1)).frz p4 (.list r2)).frz p5 (.list r3)).frz p1 (.idict m)) h0)
 have e:((((((raw.set (n+2) .dead).set (n+3) .dead).set (n+4) .dead).set (n+5) .dead).set (n+1) .dead).set n .dead)=X++[.dead,.dead,.dead,.dead,.dead,.dead]:=by
  subst hraw;subst hX
  simp[List.set_append]
 rw[show n+0=n from rfl,e]at R0
 subst hm
 rintro x ⟨a,ha,rfl⟩
 have ha:ρ'.a[n+0]?=some a:=ha
 rw[h0]at ha;cases ha
 exact post L' _ s' hL S0 R0 _ ⟨p0,.head _,rfl⟩
end
noncomputable def Sg.made(σ:Sg)(l:List (Str×Str))(b:Bool):Sg:={ σ with M:=σ.M++[.fz (.tuple [.txt l,.bool b])] }
section
variable{mb:Bt}{W:Wd}{σ:Sg}{v1 n1 v2 n2:Str}
theorem uI(B:aE mb)(hM:σ.M.length≤100000)(bb:Bool)(d:Nat)(a:Addr):CallOK (g0 mb) 768 [.ref 0,.txt [(v1,n1),(v2,n2)],.bool bb] none (d+10) (core true W σ (.ext a)) (.ok (.fz (wD v1 n1 v2 n2))) (core true W (σ.made [(v1,n1),(v2,n2)] bb) (.ext a)):=by
 have raw:CallOK (g0 mb) 768 [.ref 0,.txt [(v1,n1),(v2,n2)],.bool bb] none (d+10) (core true W σ (.ext a)) (.ok (.ref 24)) (core true W (σ.made [(v1,n1),(v2,n2)] bb) (.ext a)++[.inst 598 (some 25),.idict (cdM (.ref 26) (.ref 27) (.ref 28) (.ref 29)),.list (OT v1 n1 v2 n2),.list [],.list [],.list []]) :=
  mkR B [] [.gv (.small σ.M) none] [] [19,18,1,15,16,17] [] (F:=oF) rfl aC (by kernel_rfl) (gv1 hM)
 have fz:=CallOK.frz 24 rfl rfl rfl rfl rfl rfl raw
 have:=fz.sel (ps:=[]) (ks:=[]) aC (by rfl) (by rfl)
 exact this
end
end
section
open PySem.Calls
noncomputable def iZ(l:List (Str×Str))(b:Bool):List (Str⊕Bool):=[.inl (aO l),.inr b,.inl "::"]
noncomputable def Sg.book(σ:Sg)(l:List (Str×Str))(b:Bool)(c:SO):Sg:={ σ.made l b with B:=σ.B++[([.txt l,.bool b,.str "::"],.fz c)] }
section
variable{mb:Bt}{W:Wd}{σ σ1 σ2 σ':Sg}{v1 n1 v2 n2:Str}{c:List AD}{D:Nat}{s v n:Str}{l:List (Str×Str)}{bk:Option Str}{pr:Bool}{lab:Str}{e:Ex}{co:K2}
noncomputable def tC(mb:Bt)(W:Wd)(l:List (Str×Str))(b:Bool)(σ:Sg)(co:K2)(σ':Sg)(D:Nat):Prop :=
 ∀d,D≤d→∀a,CallOK (g0 mb) 497 [.ref 20,.txt l,.bool b] none d (core true W σ (.ext a)) (.ok (.fz (cO co))) (core true W σ' (.ext a))
theorem JT(B:aE mb)(b:Bool)(h:getT σ.B (iZ l b)=some (.fz (cO co))):tC mb W l b σ co σ 20:=by
 intro d hd a
 obtain⟨d,rfl⟩:=bF (n:=20) hd
 exact mkR B [768] [.gv (.get σ.B (iZ l b) (.fz (cO co))) (some (.fz (cO co)))] [] [] [] (F:=cZ) rfl aC (by kernel_rfl) (ok1 (show(getT _ _).getD .none=_ by rw[h];rfl))
theorem JU(B:aE mb)(b:Bool)(hM:σ.M.length≤100000)(hB:σ.B.length≤1000)(h:getT σ.B (iZ [(v1,n1),(v2,n2)] b)=none):tC mb W [(v1,n1),(v2,n2)] b σ ((v1,n1),(v2,n2)) (σ.book [(v1,n1),(v2,n2)] b (wD v1 n1 v2 n2)) 20:=by
 intro d hd a
 obtain⟨d,rfl⟩:=bF (n:=20) hd
 have o:(Pl.fr 768 [.ref 0,.txt [(v1,n1),(v2,n2)],.bool b] none (d+19) (core true W σ (.ext a)) (.ok (.fz (wD v1 n1 v2 n2))) (core true W (σ.made [(v1,n1),(v2,n2)] b) (.ext a)) (List.range 24) [] wid).OK mb:=⟨uI B hM b (d+9) a,aC⟩
 exact mkR B [768] [.gv (.absent σ.B (iZ [(v1,n1),(v2,n2)] b)) none,.fr 768 [.ref 0,.txt [(v1,n1),(v2,n2)],.bool b] none (d+19) (core true W σ (.ext a)) (.ok (.fz (wD v1 n1 v2 n2))) (core true W (σ.made [(v1,n1),(v2,n2)] b) (.ext a)) (List.range 24) [] wid,.gv (.get σ.B (iZ [(v1,n1),(v2,n2)] b) .none) (some .none)] [] [] [] (F:=cZ) rfl aC (by kernel_rfl)
  (ok3 (⟨h,hB⟩) o (show(getT _ _).getD .none=_ by rw[h];rfl))
noncomputable def aQ(W:Wd)(v n:Str)(σ:Sg)(out:Except SV SV)(new:List SO)(σ':Sg)(d q:Nat):Pl :=
 .ex 436 [.ref 0,.ref 24] none d (fun av=>core true W σ av++[.list [.str v,.str n]]) out (fun av=>core true W σ' av++[.list [.str v,.str n]]++new) (List.range 24++[q]) [] wid 24
theorem fR{out:Except SV SV}{new:List SO}{d q:Nat}(h:cK mb true W v n σ out new σ' D)(hd:D≤d):(aQ W v n σ out new σ' d q).OK mb:=⟨fun a=>h d hd a,aC⟩
noncomputable def MD(W:Wd)(l:List (Str×Str))(b:Bool)(σ:Sg)(co:K2)(σ':Sg)(d:Nat):Pl :=
 .ex 497 [.ref 20,.txt l,.bool b] none d (fun av=>core true W σ av) (.ok (.fz (cO co))) (fun av=>core true W σ' av) (List.range 24) [] wid 24
noncomputable def McOK(mb:Bt)(W:Wd)(v n:Str)(σ:Sg)(c:List AD)(out:Except SV SV)(fin:List SO)(D:Nat):Prop :=
 ∀d,D≤d→CallOK (g0 mb) 686 [.ref 20,.ref (25+5*c.length)] none d (stS W σ c []++[.list [.str v,.str n]]) out fin
noncomputable def jV(c:List AD):Prop:=1≤c.length∧c.length≤5
theorem aAn(B:aE mb)(hc:jV c)(h:cK mb true W v n σ (.ok (.str s)) [] σ' D):McOK mb W v n σ c (.ok .none) (stS W σ' c [.str s]++[.list [.str v,.str n]]) (max D 20+1):=by
 intro d hd
 obtain⟨d,rfl,hd2⟩:=d20 hd
 have o:∀q,(aQ W v n σ (.ok (.str s)) [] σ' (d+19) q).OK mb:=fun q=>fR h (by assumption)
 obtain⟨h1,h2⟩:=hc
 rcases c with _|⟨a0,_|⟨a1,_|⟨a2,_|⟨a3,_|⟨a4,_|⟨a5,c⟩⟩⟩⟩⟩⟩
 ·exact absurd h1 (by decide)
 ·exact mkR B [436,497] [aQ W v n σ (.ok (.str s)) [] σ' (d+19) 30] [] [] [] (F:=bL) rfl (bC 0) (by kernel_rfl) (ok1 (o _))
 ·exact mkR B [436,497] [aQ W v n σ (.ok (.str s)) [] σ' (d+19) 35] [] [] [] (F:=bL) rfl (bC 0) (by kernel_rfl) (ok1 (o _))
 ·exact mkR B [436,497] [aQ W v n σ (.ok (.str s)) [] σ' (d+19) 40] [] [] [] (F:=bL) rfl (bC 0) (by kernel_rfl) (ok1 (o _))
 ·exact mkR B [436,497] [aQ W v n σ (.ok (.str s)) [] σ' (d+19) 45] [] [] [] (F:=bL) rfl (bC 0) (by kernel_rfl) (ok1 (o _))
 ·exact mkR B [436,497] [aQ W v n σ (.ok (.str s)) [] σ' (d+19) 50] [] [] [] (F:=bL) rfl (bC 0) (by kernel_rfl) (ok1 (o _))
 ·exact absurd h2 (by simp)
theorem aAr(B:aE mb)(hc:jV c)(h:cK mb true W v n σ (.error (.ref 25)) (exS 25 e) σ' D):McOK mb W v n σ c (.error (.ref (26+5*c.length))) (stS W σ' c []++[.list [.str v,.str n]]++exS (26+5*c.length) e) (max D 20+1):=by
 intro d hd
 obtain⟨d,rfl,hd2⟩:=d20 hd
 have o:∀q,(aQ W v n σ (.error (.ref 25)) (exS 25 e) σ' (d+19) q).OK mb:=fun q=>fR h (by assumption)
 obtain⟨ec,ev,el,er,ej,ex⟩:=e
 obtain⟨h1,h2⟩:=hc
 rcases c with _|⟨a0,_|⟨a1,_|⟨a2,_|⟨a3,_|⟨a4,_|⟨a5,c⟩⟩⟩⟩⟩⟩
 ·exact absurd h1 (by decide)
 ·cases ex
  ·exact mkR B [436,497] [aQ W v n σ (.error (.ref 25)) (exS 25 ⟨ec,ev,el,er,ej,false⟩) σ' (d+19) 30] [] [0,1] [] (F:=bL) rfl (bC 0) (by kernel_rfl) (ok1 (o _))
  ·exact mkR B [436,497] [aQ W v n σ (.error (.ref 25)) (exS 25 ⟨ec,ev,el,er,ej,true⟩) σ' (d+19) 30] [] [0,1,2,3] [] (F:=bL) rfl (bC 0) (by kernel_rfl) (ok1 (o _))
 ·cases ex
  ·exact mkR B [436,497] [aQ W v n σ (.error (.ref 25)) (exS 25 ⟨ec,ev,el,er,ej,false⟩) σ' (d+19) 35] [] [0,1] [] (F:=bL) rfl (bC 0) (by kernel_rfl) (ok1 (o _))
  ·exact mkR B [436,497] [aQ W v n σ (.error (.ref 25)) (exS 25 ⟨ec,ev,el,er,ej,true⟩) σ' (d+19) 35] [] [0,1,2,3] [] (F:=bL) rfl (bC 0) (by kernel_rfl) (ok1 (o _))
 ·cases ex
  ·exact mkR B [436,497] [aQ W v n σ (.error (.ref 25)) (exS 25 ⟨ec,ev,el,er,ej,false⟩) σ' (d+19) 40] [] [0,1] [] (F:=bL) rfl (bC 0) (by kernel_rfl) (ok1 (o _))
  ·exact mkR B [436,497] [aQ W v n σ (.error (.ref 25)) (exS 25 ⟨ec,ev,el,er,ej,true⟩) σ' (d+19) 40] [] [0,1,2,3] [] (F:=bL) rfl (bC 0) (by kernel_rfl) (ok1 (o _))
 ·cases ex
  ·exact mkR B [436,497] [aQ W v n σ (.error (.ref 25)) (exS 25 ⟨ec,ev,el,er,ej,false⟩) σ' (d+19) 45] [] [0,1] [] (F:=bL) rfl (bC 0) (by kernel_rfl) (ok1 (o _))
  ·exact mkR B [436,497] [aQ W v n σ (.error (.ref 25)) (exS 25 ⟨ec,ev,el,er,ej,true⟩) σ' (d+19) 45] [] [0,1,2,3] [] (F:=bL) rfl (bC 0) (by kernel_rfl) (ok1 (o _))
 ·cases ex
  ·exact mkR B [436,497] [aQ W v n σ (.error (.ref 25)) (exS 25 ⟨ec,ev,el,er,ej,false⟩) σ' (d+19) 50] [] [0,1] [] (F:=bL) rfl (bC 0) (by kernel_rfl) (ok1 (o _))
  ·exact mkR B [436,497] [aQ W v n σ (.error (.ref 25)) (exS 25 ⟨ec,ev,el,er,ej,true⟩) σ' (d+19) 50] [] [0,1,2,3] [] (F:=bL) rfl (bC 0) (by kernel_rfl) (ok1 (o _))
 ·exact absurd h2 (by simp)
theorem aAo(B:aE mb)(hc:jV c)(h:cK mb true W v n σ (.ok (.ref 25)) [.inst 126 (some 26),.idict [(15,.str "yield"),(14,.ref 24)]] σ' D):McOK mb W v n σ c (.error (.ref (26+5*c.length))) (stS W σ' c []++[.list [.str v,.str n]]++exS (26+5*c.length) exP) (max D 20+1):=by
 intro d hd
 obtain⟨d,rfl,hd2⟩:=d20 hd
 have o:∀q,(aQ W v n σ (.ok (.ref 25)) [.inst 126 (some 26),.idict [(15,.str "yield"),(14,.ref 24)]] σ' (d+19) q).OK mb:=fun q=>fR h (by assumption)
 obtain⟨h1,h2⟩:=hc
 rcases c with _|⟨a0,_|⟨a1,_|⟨a2,_|⟨a3,_|⟨a4,_|⟨a5,c⟩⟩⟩⟩⟩⟩
 ·exact absurd h1 (by decide)
 ·exact mkR B [436,497] [aQ W v n σ (.ok (.ref 25)) [.inst 126 (some 26),.idict [(15,.str "yield"),(14,.ref 24)]] σ' (d+19) 30] [] [3,4] [] (F:=bL) rfl (bC 0) (by kernel_rfl) (ok1 (o _))
 ·exact mkR B [436,497] [aQ W v n σ (.ok (.ref 25)) [.inst 126 (some 26),.idict [(15,.str "yield"),(14,.ref 24)]] σ' (d+19) 35] [] [3,4] [] (F:=bL) rfl (bC 0) (by kernel_rfl) (ok1 (o _))
 ·exact mkR B [436,497] [aQ W v n σ (.ok (.ref 25)) [.inst 126 (some 26),.idict [(15,.str "yield"),(14,.ref 24)]] σ' (d+19) 40] [] [3,4] [] (F:=bL) rfl (bC 0) (by kernel_rfl) (ok1 (o _))
 ·exact mkR B [436,497] [aQ W v n σ (.ok (.ref 25)) [.inst 126 (some 26),.idict [(15,.str "yield"),(14,.ref 24)]] σ' (d+19) 45] [] [3,4] [] (F:=bL) rfl (bC 0) (by kernel_rfl) (ok1 (o _))
 ·exact mkR B [436,497] [aQ W v n σ (.ok (.ref 25)) [.inst 126 (some 26),.idict [(15,.str "yield"),(14,.ref 24)]] σ' (d+19) 50] [] [3,4] [] (F:=bL) rfl (bC 0) (by kernel_rfl) (ok1 (o _))
 ·exact absurd h2 (by simp)
noncomputable def enS(W:Wd)(σ:Sg)(c:List AD)(v n:Str)(a:AD):List SO:=core true W σ (.ref 24)++[.list (chR 25 c++[.ref (26+5*c.length)])]++chS [] 25 c++[.list [.str v,.str n]]++KH (26+5*c.length) a []
noncomputable def hG:Nat→List Int
 |1=>[40,2,3,4,5]
 |2=>[40,3,4,5]
 |3=>[40,4,5]
 |4=>[40,5]
 |_=>[]
noncomputable def DT(W:Wd)(v n:Str)(σ σ1:Sg)(l:List (Str×Str))(bk:Option Str)(pr:Bool)(lab:Str)(co:K2)(σ2:Sg)(d q:Nat):List Pl:=[MD W l pr σ1 co σ2 (d+5),aQ W v n σ (.ok (.ref 25)) (aU 25 l bk pr lab) σ1 (d+7) q]
noncomputable def enL(mb:Bt)(W:Wd)(v n:Str)(σ σ1:Sg)(l:List (Str×Str))(bk:Option Str)(pr:Bool)(lab:Str)(co:K2)(σ2:Sg)(d:Nat)(c:List AD)(L:Int):Option FT :=
 cH (wkM 0) (List.range (stS { W with lim:=L } σ c []++[SO.list [.str v,.str n]]).length++[3,2,4,0,1].map ((stS { W with lim:=L } σ c []++[SO.list [.str v,.str n]]).length+·)) [] (DT { W with lim:=L } v n σ σ1 l bk pr lab co σ2 d (25+5*c.length))
  (bH mb [436,497] 100 bL none [.ref 20,.ref (25+5*c.length)] (stS { W with lim:=L } σ c []++[SO.list [.str v,.str n]]) (d+8) (DT { W with lim:=L } v n σ σ1 l bk pr lab co σ2 d (25+5*c.length)) [])
noncomputable def enR(mb:Bt)(W:Wd)(v n:Str)(σ σ1:Sg)(l:List (Str×Str))(bk:Option Str)(pr:Bool)(lab:Str)(co:K2)(σ2:Sg)(d:Nat)(c:List AD)(L:Int):Option FT :=
 cG (.ok .none) (enS { W with lim:=L } σ2 c v n ⟨co,0,bk,pr,lab⟩) (DT { W with lim:=L } v n σ σ1 l bk pr lab co σ2 d (25+5*c.length))
  (bH mb [436,497] 100 bL none [.ref 20,.ref (25+5*c.length)] (stS { W with lim:=L } σ c []++[SO.list [.str v,.str n]]) (d+8) (DT { W with lim:=L } v n σ σ1 l bk pr lab co σ2 d (25+5*c.length)) [])
theorem UC (B:aE mb){d:Nat}(h:enL mb W v n σ σ1 l bk pr lab co σ2 d c W.lim=enR mb W v n σ σ1 l bk pr lab co σ2 d c W.lim)(o:∀ p∈DT W v n σ σ1 l bk pr lab co σ2 d (25+5*c.length),p.OK mb) :
  CallOK (g0 mb) 686 [.ref 20,.ref (25+5*c.length)] none (d+8) (stS W σ c []++[.list [.str v,.str n]]) (.ok .none) (enS W σ2 c v n ⟨co,0,bk,pr,lab⟩):=by
 unfold enL enR at h
 exact mkR B [436,497] (DT W v n σ σ1 l bk pr lab co σ2 d (25+5*c.length)) [] [3,2,4,0,1] [] (F:=bL) rfl (bC 0) h o
theorem aAp (B:aE mb)(hc:jV c)(hl:W.lim∈hG c.length)(h:cK mb true W v n σ (.ok (.ref 25)) (aU 25 l bk pr lab) σ1 D)(h':tC mb W l pr σ1 co σ2 D):McOK mb W v n σ c (.ok .none) (enS W σ2 c v n ⟨co,0,bk,pr,lab⟩) (max D 20+3):=by
 intro d hd
 obtain ⟨d,rfl⟩:∃ d',d=d'+8:=bF (n:=8) (Nat.le_trans (by decide) (mxr hd))
 have h5:D≤d+5:=Nat.le_of_add_le_add_right (mxl hd:D+3≤d+5+3)
 refine UC B ?_ (ok2 ⟨fun a=>h' _ (by first|exact h5|exact Nat.le_trans h5 (Nat.le_add_right (d+5) 2)) a,aC⟩ (fR h (by first|exact h5|exact Nat.le_trans h5 (Nat.le_add_right (d+5) 2))))
 obtain ⟨h1,h2⟩:=hc
 rcases c with _|⟨a0,_|⟨a1,_|⟨a2,_|⟨a3,_|⟨a4,_|⟨a5,c⟩⟩⟩⟩⟩⟩
 ·exact absurd h1 (by decide)
 ·have key:∀ L∈hG 1,enL mb W v n σ σ1 l bk pr lab co σ2 d [a0] L=enR mb W v n σ σ1 l bk pr lab co σ2 d [a0] L:=by
   apply List.map_inj_left.mp
   kernel_rfl
  exact key _ hl
 ·have key:∀ L∈hG 2,enL mb W v n σ σ1 l bk pr lab co σ2 d [a0,a1] L=enR mb W v n σ σ1 l bk pr lab co σ2 d [a0,a1] L:=by
   apply List.map_inj_left.mp
   kernel_rfl
  exact key _ hl
 ·have key:∀ L∈hG 3,enL mb W v n σ σ1 l bk pr lab co σ2 d [a0,a1,a2] L=enR mb W v n σ σ1 l bk pr lab co σ2 d [a0,a1,a2] L:=by
   apply List.map_inj_left.mp
   kernel_rfl
  exact key _ hl
 ·have key:∀ L∈hG 4,enL mb W v n σ σ1 l bk pr lab co σ2 d [a0,a1,a2,a3] L=enR mb W v n σ σ1 l bk pr lab co σ2 d [a0,a1,a2,a3] L:=by
   apply List.map_inj_left.mp
   kernel_rfl
  exact key _ hl
 ·have key:∀ L∈hG 5,enL mb W v n σ σ1 l bk pr lab co σ2 d [a0,a1,a2,a3,a4] L=enR mb W v n σ σ1 l bk pr lab co σ2 d [a0,a1,a2,a3,a4] L:=by
   apply List.map_inj_left.mp
   kernel_rfl
  exact key _ hl
 ·exact absurd h2 (by simp)
noncomputable def lmL(mb:Bt)(W:Wd)(v n:Str)(σ σ1:Sg)(l:List (Str×Str))(bk:Option Str)(pr:Bool)(lab:Str)(d:Nat)(c:List AD)(L:Int):Option FT :=
 cH (wkM 0) (List.range (stS { W with lim:=L } σ c []++[SO.list [.str v,.str n]]).length++[3,4].map ((stS { W with lim:=L } σ c []++[SO.list [.str v,.str n]]).length+·)) [] [aQ { W with lim:=L } v n σ (.ok (.ref 25)) (aU 25 l bk pr lab) σ1 (d+19) (25+5*c.length)]
  (bH mb [436,497] 100 bL none [.ref 20,.ref (25+5*c.length)] (stS { W with lim:=L } σ c []++[SO.list [.str v,.str n]]) (d+20) [aQ { W with lim:=L } v n σ (.ok (.ref 25)) (aU 25 l bk pr lab) σ1 (d+19) (25+5*c.length)] [])
noncomputable def lmR(mb:Bt)(W:Wd)(v n:Str)(σ σ1:Sg)(l:List (Str×Str))(bk:Option Str)(pr:Bool)(lab:Str)(d:Nat)(c:List AD)(L:Int):Option FT :=
 cG (.error (.ref (26+5*c.length))) (stS { W with lim:=L } (σ1.back bk) c []++[SO.list [.str v,.str n]]++exS (26+5*c.length) exN) [aQ { W with lim:=L } v n σ (.ok (.ref 25)) (aU 25 l bk pr lab) σ1 (d+19) (25+5*c.length)]
  (bH mb [436,497] 100 bL none [.ref 20,.ref (25+5*c.length)] (stS { W with lim:=L } σ c []++[SO.list [.str v,.str n]]) (d+20) [aQ { W with lim:=L } v n σ (.ok (.ref 25)) (aU 25 l bk pr lab) σ1 (d+19) (25+5*c.length)] [])
theorem SP(B:aE mb){d:Nat}(h:lmL mb W v n σ σ1 l bk pr lab d c W.lim=lmR mb W v n σ σ1 l bk pr lab d c W.lim)(o:(aQ W v n σ (.ok (.ref 25)) (aU 25 l bk pr lab) σ1 (d+19) (25+5*c.length)).OK mb) :
  CallOK (g0 mb) 686 [.ref 20,.ref (25+5*c.length)] none (d+20) (stS W σ c []++[.list [.str v,.str n]]) (.error (.ref (26+5*c.length))) (stS W (σ1.back bk) c []++[.list [.str v,.str n]]++exS (26+5*c.length) exN):=by
 unfold lmL lmR at h
 exact mkR B [436,497] [aQ W v n σ (.ok (.ref 25)) (aU 25 l bk pr lab) σ1 (d+19) (25+5*c.length)] [] [3,4] [] (F:=bL) rfl (bC 0) h (ok1 o)
noncomputable def ats:Nat→List Int
 |2=>[2]
 |3=>[3]
 |4=>[4]
 |5=>[5]
 |_=>[]
theorem aAq(B:aE mb)(hc:jV c)(hl:W.lim∈ats c.length)(h:cK mb true W v n σ (.ok (.ref 25)) (aU 25 l bk pr lab) σ1 D):McOK mb W v n σ c (.error (.ref (26+5*c.length))) (stS W (σ1.back bk) c []++[.list [.str v,.str n]]++exS (26+5*c.length) exN) (max D 20+1):=by
 intro d hd
 obtain⟨d,rfl,hd2⟩:=d20 hd
 refine SP B ?_ (fR h (by assumption))
 obtain⟨h1,h2⟩:=hc
 rcases c with _|⟨a0,_|⟨a1,_|⟨a2,_|⟨a3,_|⟨a4,_|⟨a5,c⟩⟩⟩⟩⟩⟩
 ·exact absurd h1 (by decide)
 ·have key:∀L∈ats 1,lmL mb W v n σ σ1 l bk pr lab d [a0] L=lmR mb W v n σ σ1 l bk pr lab d [a0] L:=by
   apply List.map_inj_left.mp
   cases bk<;>kernel_rfl
  exact key _ hl
 ·have key:∀L∈ats 2,lmL mb W v n σ σ1 l bk pr lab d [a0,a1] L=lmR mb W v n σ σ1 l bk pr lab d [a0,a1] L:=by
   apply List.map_inj_left.mp
   cases bk<;>kernel_rfl
  exact key _ hl
 ·have key:∀L∈ats 3,lmL mb W v n σ σ1 l bk pr lab d [a0,a1,a2] L=lmR mb W v n σ σ1 l bk pr lab d [a0,a1,a2] L:=by
   apply List.map_inj_left.mp
   cases bk<;>kernel_rfl
  exact key _ hl
 ·have key:∀L∈ats 4,lmL mb W v n σ σ1 l bk pr lab d [a0,a1,a2,a3] L=lmR mb W v n σ σ1 l bk pr lab d [a0,a1,a2,a3] L:=by
   apply List.map_inj_left.mp
   cases bk<;>kernel_rfl
  exact key _ hl
 ·have key:∀L∈ats 5,lmL mb W v n σ σ1 l bk pr lab d [a0,a1,a2,a3,a4] L=lmR mb W v n σ σ1 l bk pr lab d [a0,a1,a2,a3,a4] L:=by
   apply List.map_inj_left.mp
   cases bk<;>kernel_rfl
  exact key _ hl
 ·exact absurd h2 (by simp)
end
end
section
open PySem.Calls
noncomputable def jR(r:Rec)(hd:Option Nat)(t:IE)(b:ISs):Nat→M (Option Flo)
 |0=>aG (some .next)
 |k+1=>bnd (nH r hd t b) fun o=>match o with
  |some .next=>jR r hd t b k
  |o=>aG o
noncomputable def TurnEnd(G:Gl)(c:Ac)(code:Code)(RR:Result→Shared→Prop)(ρ:Tr)(s:Shared):Except SV (Option Flo)→Prop
 |.ok none=>RR (.ok .next) s
 |.ok (some .next)=>codeAny (model G.prog G.w) c.A code RR s
 |.ok (some .cont)=>codeAny (model G.prog G.w) c.A code RR s
 |.ok (some .brk)=>RR (.ok .next) s
 |.ok (some (.ret v))=>∀x,VR ρ v x→RR (.ok (.ret x)) s
 |.error e=>∀x,VR ρ e x→RR (.error x) s
section
variable{G:Gl}{P:Pg}{r:Rec}{c:Ac}{gs:List Nat}{ρ:Tr}{st:St}{s:Shared}
theorem KQ(H:iV G)(S:SRec G P r)(X:ExOK G r)(EO:bG c)(EG:EnvG G c gs)(N:Now G c ρ st s.heap)(t:IE)(b:ISs)(h1:wE c.vars.length gs t=true)(h2:wSS c.vars.length gs b=true) :
  SA G c (PY (.whileLoop (dE G c.vars t) (dSS G c.vars b) [] c.env) (.done .next)) ((whileTurn (dE G c.vars t) (dSS G c.vars b) [] c.env).onRaise fun x=>do noteFrame x c.env;theTreesLotGoes x) (nH r c.hd t b) ρ st s:=by
 refine mY H.toGOK EO ?_
 unfold whileTurn
 refine SA.bind (fun c=>?_) (S.tst EO.toEnvB EG N t h1) fun ρ₁ st₁ s₁ a a' S₁ N₁ _ ha=>?_
 ·cases c
  ·exact Grows.ret
  ·exact Grows.bnd (S.gex _ _) fun _=>Grows.ret
 have ha:a'=a:=ha
 subst ha
 cases a' with
 |false =>
  show SA G c _ (do return Fin.done (←execs [] c.env)) (aG none) ρ₁ st₁ s₁
  exact SA.look (x:=Flow.next) (fun Q E q=>wpAny_pure q) (SA.pure N₁ rfl)
 |true =>
  simp only[if_true]
  refine SA.bind (fun _=>Grows.ret) (X EO EG N₁ b h2) fun ρ₂ st₂ s₂ f f' S₂ N₂ _ hf=>?_
  cases f<;>cases f'<;>first|exact hf.elim|exact SA.pure N₂ rfl|exact SA.pure N₂ ⟨_,rfl,hf⟩
theorem jW(S:SRec G P r){hd:Option Nat}{t:IE}{b:ISs}:∀k,Grows (jR r hd t b k)
 |0=>Grows.ret
 |k+1=>Grows.bnd (nU S) fun o=>by
  split
  ·exact jW S k
  ·exact Grows.ret
theorem pH(H:iV G)(S:SRec G P r)(X:ExOK G r)(t:IE)(b:ISs):∀(k:Nat){c:Ac}{gs:List Nat}{ρ:Tr}{st st':St}{s:Shared}{res:Except SV (Option Flo)},bG c→EnvG G c gs→Now G c ρ st s.heap→wE c.vars.length gs t=true→wSS c.vars.length gs b=true →
  jR r c.hd t b k st=some (res,st')→(∀q∈st'.qs,G.V q)→∀RR:Result→Shared→Prop,
  (∀ρ' s',aF c.env.locals ρ s ρ' s'→Now G c ρ' st' s'.heap→TurnEnd G c (.whileLoop (dE G c.vars t) (dSS G c.vars b) [] c.env) RR ρ' s' res) →
  codeAny (model G.prog G.w) c.A (.whileLoop (dE G c.vars t) (dSS G c.vars b) [] c.env) RR s
 |0,c,gs,ρ,st,st',s,res,EO,EG,N,h1,h2,hm,hq,RR,post=>by
  cases hm
  exact post ρ s aF.refl N
 |k+1,c,gs,ρ,st,st',s,res,EO,EG,N,h1,h2,hm,hq,RR,post=>by
  have T:=KQ (r:=r) H S X EO EG N t b h1 h2
  refine codeAny_of_tree (wpAny_mono (Q:=fun fin s'=>BM G c RR s' fin) (E:=fun e s'=>RR (.error e) s') ?_ (fun _ _ q=>IY q) fun _ _ q=>q)
  rcases aT hm with⟨e,q,rfl⟩|⟨o,s1,q1,q2⟩
  ·exact T _ _ q hq _ _ fun ρ' s' S' N'=>post ρ' s' S' N'
  ·have g2:Grows (match o with|some .next=>jR r c.hd t b k|o=>aG o):=by
    split
    ·exact jW S k
    ·exact Grows.ret
   have hq1:∀q∈s1.qs,G.V q:=by
    obtain⟨l,hl⟩:=g2 _ _ _ q2
    exact fun q hz=>hq q (by rw[hl];exact List.mem_append_right _ hz)
   refine T _ _ q1 hq1 _ _ fun ρ₁ s₁ S₁ N₁ fin hf=>?_
   match o,hf,q2 with
   |none,hf,q2=>cases hf;cases q2;exact post ρ₁ s₁ S₁ N₁
   |some .next,hf,q2 =>
    cases hf
    exact⟨rfl,pH H S X t b k EO EG N₁ h1 h2 q2 hq RR fun ρ' s' S' N'=>post ρ' s' (S₁.trans S') N'⟩
   |some .cont,hf,q2=>cases hf;cases q2;exact⟨rfl,post ρ₁ s₁ S₁ N₁⟩
   |some .brk,hf,q2=>cases hf;cases q2;exact post ρ₁ s₁ S₁ N₁
   |some (.ret v),hf,q2=>obtain⟨x,rfl,hx⟩:=hf;cases q2;exact post ρ₁ s₁ S₁ N₁ x hx
end
structure mD(θ:List (Option Nat))(L:Addr)(ρ:Tr)(s:Shared)(ρ':Tr)(s':Shared):Prop where
 len:θ.length=ρ'.a.length
 old:∀(i j:Nat),θ[i]?=some (some j)→∃a,ρ'.a[i]?=some a∧ρ.a[j]?=some a
 new:∀(i:Nat) a,θ[i]?=some none→ρ'.a[i]?=some a→s.heap.get? a=none
 zin:∀x∈ρ.z,x∈ρ'.z
 zout:∀x∈ρ'.z,x∈ρ.z∨x.1∈ρ.a∨s.heap.get? x.1=none
 same:Same (fun b=>b∈ρ.a∨b=L) s.heap s'.heap
 dom:∀b o,s.heap.get? b=some o→KeptAt s'.heap b o
 gens:s'.gens=s.gens
 os:s'.os=s.os
noncomputable def cX(n:Nat)(ψ:List Nat):Option Nat→Option Nat
 |none=>none
 |some i=>match ψ[i]? with
  |some p=>bif Nat.blt p n then some p else none
  |none=>none
theorem mD.step{L:Addr}{ρ ρ₁ ρ':Tr}{s s₁ s':Shared}{ψ:List Nat}{θ:List (Option Nat)}(S:aF L ρ s ρ₁ s₁)(hψ:∀p∈ψ,p<ρ₁.a.length)(hθ:∀(i j:Nat),θ[i]?=some (some j)→j<ψ.length)(P:mD θ L (ρ₁.sel ψ) s₁ ρ' s'):mD (θ.map (cX ρ.a.length ψ)) L ρ s ρ' s':=by
 obtain⟨l,el,fl⟩:=S.pre
 have sub:∀b∈(ρ₁.sel ψ).a,b∈ρ.a∨s.heap.get? b=none:=fun b hb=>by
  obtain⟨p,_,e⟩:=eZ hb hψ
  have:=List.mem_of_getElem? e
  rw[el]at this
  rcases List.mem_append.mp this with h|h
  ·exact .inl h
  ·exact .inr (fl b h)
 refine⟨by rw[List.length_map];exact P.len,fun i j h=>?_,fun i a h ha=>?_,fun x h=>P.zin x (S.zin x h),fun x h=>?_,fun b o e hb=>?_,fun b o e=>?_,P.gens.trans S.gens,P.os.trans S.os⟩
 ·rw[List.getElem?_map]at h
  obtain⟨t,ht,e⟩:=Option.map_eq_some_iff.mp h
  cases t with
  |none=>cases e
  |some k =>
   have lk:=hθ i k ht
   have ek:=List.getElem?_eq_getElem lk
   unfold cX at e
   simp only[ek]at e
   cases q:Nat.blt ψ[k] ρ.a.length with
   |false=>rw[q]at e;cases e
   |true =>
    rw[q]at e;cases e
    obtain⟨a,h1,h2⟩:=P.old i k ht
    obtain⟨p,h3,h4⟩:=fA h2 hψ
    rw[ek]at h3;cases h3
    refine⟨a,h1,?_⟩
    have lt:=Nat.le_of_ble_eq_true q
    rw[el,List.getElem?_append_left lt]at h4
    exact h4
 ·rw[List.getElem?_map]at h
  obtain⟨t,ht,e⟩:=Option.map_eq_some_iff.mp h
  cases t with
  |none=>exact S.fresh (P.new i a ht ha)
  |some k =>
   have lk:=hθ i k ht
   have ek:=List.getElem?_eq_getElem lk
   unfold cX at e
   simp only[ek]at e
   cases q:Nat.blt ψ[k] ρ.a.length with
   |true=>rw[q]at e;cases e
   |false =>
    obtain⟨a',h1,h2⟩:=P.old i k ht
    rw[ha]at h1;cases h1
    obtain⟨p,h3,h4⟩:=fA h2 hψ
    rw[ek]at h3;cases h3
    have ge:ρ.a.length≤ψ[k]:=by
     refine Nat.le_of_not_lt fun z=>?_
     have:Nat.blt ψ[k] ρ.a.length=true:=Nat.ble_eq_true_of_le z
     rw[q]at this;cases this
    rw[el,List.getElem?_append_right ge]at h4
    exact fl _ (List.mem_of_getElem? h4)
 ·rcases P.zout x h with h|h|h
  ·exact S.zout x h
  ·rcases sub _ h with h|h
   ·exact .inr (.inl h)
   ·exact .inr (.inr h)
  ·exact .inr (.inr (S.fresh h))
 ·obtain⟨o1,e1,q1⟩:=S.same b o e hb
  obtain⟨o2,e2,q2⟩:=P.same b o1 e1 fun h=>by
   rcases h with h|h
   ·rcases sub b h with h|h
    ·exact hb (.inl h)
    ·rw[h]at e;cases e
   ·exact hb (.inr h)
  exact⟨o2,e2,q1.trans q2⟩
 ·obtain⟨o1,e1,q1⟩:=S.dom b o e
  obtain⟨o2,e2,q2⟩:=P.dom b o1 e1
  exact⟨o2,e2,q1.trans q2⟩
end
section
open PySem.Calls
noncomputable def tM(g:Nat→SV)(loc:List (Option SV)):List (Option SV):=loc.map (Option.map (rnV g))
theorem FrR.rn{ρ ρ':Tr}{g:Nat→SV}{h:Heap}{L:Addr}{vars:List Str}{loc:List (Option SV)}(hg:∀(i:Nat) b,ρ.a[i]?=some b→VR ρ' (g i) (.ref b))(hz:∀x∈ρ.z,x∈ρ'.z)(F:FrR ρ h L vars loc):FrR ρ' h L vars (tM g loc):=by
 obtain⟨o,mr,h1,h2,h3,h4⟩:=F
 refine⟨o,mr,h1,h2,h3,fun i x hx=>?_⟩
 have:=h4 i x hx
 unfold tM
 rw[List.getElem?_map]
 cases q:loc[i]? with
 |none=>trivial
 |some v =>
  cases v with
  |none=>trivial
  |some v =>
   rw[q]at this
   obtain⟨y,e1,e2⟩:=this
   exact⟨y,e1,e2.rn hg hz⟩
noncomputable def kY(ms:List Nat):Nat→List (Option SV)→List (Option SV)
 |_,[]=>[]
 |i,x::r=>(bif cW i ms then none else x)::kY ms (i+1) r
theorem oE{ms:List Nat}:∀{l:List (Option SV)}{i j:Nat},(kY ms i l)[j]?=l[j]?∨(kY ms i l)[j]?=some none
 |[],_,_=>.inl rfl
 |x::r,i,0=>by
  show some (bif cW i ms then none else x)=some x∨some (bif cW i ms then none else x)=some none
  cases cW i ms
  ·exact .inl rfl
  ·exact .inr rfl
 |x::r,i,j+1=>oE (l:=r) (i:=i+1) (j:=j)
theorem FrR.forget{ρ:Tr}{h:Heap}{L:Addr}{vars:List Str}{loc:List (Option SV)}(ms:List Nat)(F:FrR ρ h L vars loc):FrR ρ h L vars (kY ms 0 loc):=by
 obtain⟨o,mr,h1,h2,h3,h4⟩:=F
 refine⟨o,mr,h1,h2,h3,fun i x hx=>?_⟩
 have:=h4 i x hx
 rcases oE (ms:=ms) (l:=loc) (i:=0) (j:=i)with q|q
 ·rw[q];exact this
 ·rw[q];trivial
noncomputable abbrev TT:=Nat×Option SV×List (Option SV)×List SO×Bool×Option (Option Nat)×Nat×Nat×List (Addr→Query⊕PT)
noncomputable def QN(g:Nat→SV):Except SV (Option Flo)→Nat×Option SV
 |.ok none=>(0,none)
 |.ok (some .next)=>(1,none)
 |.ok (some (.ret v))=>(2,some (rnV g v))
 |.ok (some .brk)=>(4,none)
 |.ok (some .cont)=>(5,none)
 |.error e=>(3,some (rnV g e))
noncomputable def tnL(wk:Nat→SV→SV)(ψ ks ms:List Nat)(hd:Option Nat)(ps:List Pl):Option (Except SV (Option Flo)×St)→Option TT
 |some (o,st)=>some ((QN (dH ψ) o).1,(QN (dH ψ) o).2,kY ms 0 (tM (dH ψ) st.loc),mR wk ψ ks st.objs,eD ψ st.objs.length,hdM ψ hd,st.d,st.qs.length,qQ ptL ps st.qs)
 |none=>none
noncomputable def tnR(tag:Nat)(v:Option SV)(loc:List (Option SV))(objs:List SO)(hd':Option Nat)(d:Nat)(ps:List Pl):Option (Except SV (Option Flo)×St)→Option TT
 |some (o,st)=>some (tag,v,loc,objs,true,some hd',d,ps.length,qQ ptR ps st.qs)
 |none=>some (9,none,[],[],false,none,0,0,[])
noncomputable def gF(mb:Bt)(cs:List Nat)(hd:Option Nat)(t:IE)(b:ISs)(k:Nat)(loc:List (Option SV))(S:List SO)(d:Nat)(ps:List Pl):Option (Except SV (Option Flo)×St) :=
 jR (run (g1 mb) (pgC cs) 100) hd t b k ⟨loc,S,ps.reverse.filterMap Pl.ora,[],[],d⟩
structure aCe(mb:Bt)(c:Ac)(ρ:Tr)(loc:List (Option SV))(objs:List SO)(h:Heap):Prop where
 rep:Rep (g0 mb) ρ objs h
 fr:FrR ρ h c.env.locals c.vars loc
 frs:FrsOK h c.fl
 lo:∀o,(c.env.locals,o)∉ρ.z
noncomputable def aCc(RR:Result→Shared→Prop)(ρ:Tr)(s:Shared):Except SV SV→Prop:=fun out=>match xQ out with
 |.ok a=>∀f,cQ ρ a f→RR (.ok f) s
 |.error e=>∀x,VR ρ e x→RR (.error x) s
noncomputable def LPg(mb:Bt)(t:IE)(b:ISs)(hd:Option Nat)(D:Nat)(loc:List (Option SV))(S:List SO)(out:Except SV SV)(loc':List (Option SV))(fin:List SO)(θ:List (Option Nat)):Prop :=
 ∀(c:Ac)(gs:List Nat)(ρ:Tr)(st:St)(s:Shared),bG c→EnvG (g0 mb) c gs→wE c.vars.length gs t=true→wSS c.vars.length gs b=true→c.hd=hd→D≤st.d→st.loc=loc→st.objs=S→Now (g0 mb) c ρ st s.heap →
  ∀RR:Result→Shared→Prop,(∀ρ' s',mD θ c.env.locals ρ s ρ' s'→aCe mb c ρ' loc' fin s'.heap→aCc RR ρ' s' out) →
   codeAny (model mb.prog mb.w) c.A (.whileLoop (dE (g0 mb) c.vars t) (dSS (g0 mb) c.vars b) [] c.env) RR s
section
variable{mb:Bt}{t:IE}{b:ISs}{hd hd2:Option Nat}{D D2:Nat}{loc loc2 loc':List (Option SV)}{S S2 fin:List SO}{out:Except SV SV}{θ:List (Option Nat)}{ψ ks ms:List Nat}{wk:Nat→SV→SV}{cs:List Nat}{k:Nat}{ps:Nat→List Pl}
theorem LP{c:Ac}{ρ:Tr}{st:St}{h:Heap}(N:Now (g0 mb) c ρ st h)(hw:eY wk)(ok:eD ψ st.objs.length=true)(hh:hdM ψ c.hd=some hd2) :
  Now (g0 mb) { c with hd:=hd2 } (ρ.sel ψ) { st with loc:=kY ms 0 (tM (dH ψ) st.loc),objs:=mR wk ψ ks st.objs } h:=by
 have hl:∀p∈ψ,p<ρ.a.length:=fun p hp=>by rw[N.rep.len];exact eC ok hp
 refine⟨N.frames,N.depth,N.units,?_,(N.rep.sel hw ok).kill ks,(N.fr.rn (fun i b hb=>kE i b hb) (fun _ z=>z)).forget ms,N.frs,fun hm=>?_,N.lo.2.1,N.lo.2.2⟩
 ·have:=N.hd
  cases q:c.hd with
  |none=>rw[q]at this hh;cases hh;exact this
  |some i =>
   rw[q]at this hh
   obtain⟨a,h1,h2⟩:=this
   unfold hdM at hh
   simp only at hh
   cases z:pos ψ i 0 with
   |none=>rw[z]at hh;cases hh
   |some k =>
    rw[z]at hh;cases hh
    obtain⟨t,e,z⟩:=eA z
    have:k=t:=by lia
    subst this
    exact⟨a,kD z h1,h2⟩
 ·obtain⟨p,_,e⟩:=eZ hm hl
  exact N.lo.1 (List.mem_of_getElem? e)
theorem JG{c:Ac}(EO:bG c)(hd2:Option Nat):bG { c with hd:=hd2 }:={ EO with }
theorem zH(B:aE mb){c:Ac}{gs:List Nat}{ρ:Tr}{st:St}{s:Shared}{ps:List Pl}{tag:Nat}{v:Option SV}(EO:bG c)(EG:EnvG (g0 mb) c gs)(h1:wE c.vars.length gs t=true)(h2:wSS c.vars.length gs b=true)(hloc:st.loc=loc)(hS:st.objs=S)
  (N:Now (g0 mb) c ρ st s.heap)(hw:eY wk)(hR:tnL wk ψ ks ms c.hd ps (gF mb cs c.hd t b k loc S st.d ps)=tnR tag v loc2 S2 hd2 st.d ps (gF mb cs c.hd t b k loc S st.d ps))(O:∀p∈ps,p.OK mb)(RR:Result→Shared→Prop)
  (post:∀(ρ₁:Tr)(s₁:Shared)(o:Except SV (Option Flo))(n:Nat),aF c.env.locals ρ s ρ₁ s₁→eD ψ n=true→ρ₁.a.length=n→(∀p∈ψ,p<ρ₁.a.length)→QN (dH ψ) o=(tag,v)→Now (g0 mb) { c with hd:=hd2 } (ρ₁.sel ψ) ⟨loc2,S2,[],[],[],st.d⟩ s₁.heap →
   TurnEnd (g0 mb) c (.whileLoop (dE (g0 mb) c.vars t) (dSS (g0 mb) c.vars b) [] c.env) RR ρ₁ s₁ o) :
  codeAny (model mb.prog mb.w) c.A (.whileLoop (dE (g0 mb) c.vars t) (dSS (g0 mb) c.vars b) [] c.env) RR s:=by
 cases hr:gF mb cs c.hd t b k loc S st.d ps with
 |none=>rw[hr]at hR;cases hR
 |some r =>
  obtain⟨o,st1⟩:=r
  rw[hr]at hR
  simp only[tnL,tnR,Option.some.injEq,Prod.mk.injEq]at hR
  obtain⟨e1,e2,e3,e4,e5,e6,e7,e8,e9⟩:=hR
  have hq:=wR e8 e9 O
  have SR:=iD (NS B) (wW mb.prog mb.w mb.mb (v0 mb) B.facts cs) 100
  have N1:Now (g1 mb) c ρ ⟨loc,S,ps.reverse.filterMap Pl.ora,[],[],st.d⟩ s.heap:=FZ (N.like hloc.symm hS.symm rfl)
  have key:=pH (NS B) SR.S SR.X t b k (gs:=gs) EO (fun i hi n v h=>EG i hi n v h) N1 h1 h2 hr hq RR
  rw[bB,dO]at key
  refine key fun ρ₁ s₁ S₁ N₁=>?_
  have N0:=FY N₁
  have len:ρ₁.a.length=st1.objs.length:=N0.rep.len
  have Nn:=LP (ks:=ks) (ms:=ms) N0 hw e5 e6
  rw[e3,e4]at Nn
  have:=post ρ₁ s₁ o st1.objs.length S₁ e5 len (fun p hp=>by rw[len];exact eC e5 hp) (Prod.ext e1 e2) (by
   have:=Nn.like (st2:=⟨loc2,S2,[],[],[],st.d⟩) rfl rfl e7.symm
   exact this)
  cases o with
  |error e=>exact this
  |ok f =>
   cases f with
   |none=>exact this
   |some f=>cases f<;>exact this
theorem LPg.turn(B:aE mb)(D0:Nat)(hw:eY wk)(hR:∀d,D0≤d→tnL wk ψ ks ms hd (ps d) (gF mb cs hd t b k loc S (d+20) (ps d))=tnR 1 none loc2 S2 hd2 (d+20) (ps d) (gF mb cs hd t b k loc S (d+20) (ps d)))(O:∀d,D0≤d→∀p∈ps d,p.OK mb)
  (hθ:∀(i j:Nat),θ[i]?=some (some j)→j<ψ.length)(L2:LPg mb t b hd2 D2 loc2 S2 out loc' fin θ):LPg mb t b hd (max (D0+20) D2) loc S out loc' fin (θ.map (cX S.length ψ)):=by
 intro c gs ρ st s EO EG h1 h2 hhd hD hloc hS N RR post
 subst hhd
 obtain⟨d,hd'⟩:∃d',st.d=d'+20:=bF (n:=20) (Nat.le_trans (Nat.le_add_left _ _) (Nat.max_le.mp hD).1)
 have hd0:D0≤d:=Nat.le_of_add_le_add_right (hd'▸(Nat.max_le.mp hD).1)
 have hR':=hR d hd0
 rw[←hd']at hR'
 refine zH B EO EG h1 h2 hloc hS N hw hR' (O d hd0) RR fun ρ₁ s₁ o n S₁ ok len hl ht Nn=>?_
 have ht:o = .ok (some .next):=by
  cases o with
  |error e=>cases ht
  |ok f =>
   cases f with
   |none=>cases ht
   |some f=>cases f<;>first | rfl | cases ht
 subst ht
 have ln:ρ.a.length=S.length:=by rw[N.rep.len,hS]
 refine L2 { c with hd:=hd2 } gs _ _ s₁ (JG EO hd2) EG h1 h2 rfl (by exact(Nat.max_le.mp hD).2) rfl rfl Nn RR fun ρ' s' P E=>?_
 have P':=mD.step S₁ hl hθ P
 rw[ln]at P'
 exact post ρ' s' P' ⟨E.rep,E.fr,E.frs,E.lo⟩
noncomputable def dP(n:Nat)(ψ:List Nat):List (Option Nat):=((List.range ψ.length).map some).map (cX n ψ)
theorem mD.refl{L:Addr}{ρ:Tr}{s:Shared}{n:Nat}(h:ρ.a.length=n):mD ((List.range n).map some) L ρ s ρ s:=by
 refine⟨by simp[h],fun i j q=>?_,fun i a q=>?_,fun _ h=>h,fun _ h=>.inl h,Same.refl _ _,fun _ o e=>⟨o,e,Kept.refl o⟩,rfl,rfl⟩
 ·rw[List.getElem?_map]at q
  obtain⟨k,hk,e⟩:=Option.map_eq_some_iff.mp q
  cases e
  have hi:i<n:=by have:=(List.getElem?_eq_some_iff.mp hk).1;simpa using this
  rw[mF hi]at hk;cases hk
  exact⟨_,List.getElem?_eq_getElem (by lia),List.getElem?_eq_getElem (by lia)⟩
 ·rw[List.getElem?_map]at q
  obtain⟨k,hk,e⟩:=Option.map_eq_some_iff.mp q
  cases e
theorem mD.base{L:Addr}{ρ ρ₁:Tr}{s s₁:Shared}{ψ:List Nat}(S:aF L ρ s ρ₁ s₁)(hψ:∀p∈ψ,p<ρ₁.a.length):mD (dP ρ.a.length ψ) L ρ s (ρ₁.sel ψ) s₁ :=
 mD.step S hψ (fun i j q=>by
  rw[List.getElem?_map]at q
  obtain⟨k,hk,e⟩:=Option.map_eq_some_iff.mp q
  cases e
  have:=List.mem_of_getElem? hk
  exact List.mem_range.mp this) (mD.refl (by simp[Tr.sel]))
theorem DJ{ψ:List Nat}{v:SV}(h:rnV (dH ψ) v = .none):v = .none:=by
 cases v with
 |ref i =>
  have h:dH ψ i = .none:=h
  unfold dH at h
  split at h<;>cases h
 |_=>exact h
theorem IL{ψ:List Nat}{v:SV}{k:Nat}(h:rnV (dH ψ) v = .ref k):∃i,v = .ref i∧ψ[k]?=some i:=by
 cases v with
 |ref i =>
  have h:dH ψ i = .ref k:=h
  unfold dH at h
  split at h
  ·rename_i j q
   cases h
   obtain⟨t,e,z⟩:=eA q
   have:k=t:=by lia
   subst this
   exact⟨i,rfl,z⟩
  ·cases h
 |_=>cases h
inductive StopR:Nat→Option SV→Except SV SV→Prop where
 |done:StopR 0 none (.ok .none)
 |ret:StopR 2 (some .none) (.ok (.bool true))
 |err(k:Nat):StopR 3 (some (.ref k)) (.error (.ref k))
theorem LPg.stop(B:aE mb)(D0:Nat){tag:Nat}{v:Option SV}(hw:eY wk)(hs:StopR tag v out)(hR:∀d,D0≤d→tnL wk ψ ks ms hd (ps d) (gF mb cs hd t b k loc S (d+20) (ps d))=tnR tag v loc' fin hd2 (d+20) (ps d) (gF mb cs hd t b k loc S (d+20) (ps d)))(O:∀d,D0≤d→∀p∈ps d,p.OK mb) :
  LPg mb t b hd (D0+20) loc S out loc' fin (dP S.length ψ):=by
 intro c gs ρ st s EO EG h1 h2 hhd hD hloc hS N RR post
 subst hhd
 obtain⟨d,hd'⟩:∃d',st.d=d'+20:=bF (n:=20) (Nat.le_trans (Nat.le_add_left _ _) hD)
 have hd0:D0≤d:=Nat.le_of_add_le_add_right (hd'▸hD)
 have hR':=hR d hd0
 rw[←hd']at hR'
 refine zH B EO EG h1 h2 hloc hS N hw hR' (O d hd0) RR fun ρ₁ s₁ o n S₁ ok len hl ht Nn=>?_
 have ln:ρ.a.length=S.length:=by rw[N.rep.len,hS]
 have P:=mD.base S₁ hl
 rw[ln]at P
 have q:=post _ s₁ P ⟨Nn.rep,Nn.fr,Nn.frs,Nn.lo.2.1⟩
 cases hs with
 |done =>
  cases o with
  |error e=>cases ht
  |ok f =>
   cases f with
   |none=>exact q .next trivial
   |some f=>cases f<;>cases ht
 |ret =>
  cases o with
  |error e=>cases ht
  |ok f =>
   cases f with
   |none=>cases ht
   |some f =>
    cases f with
    |ret v0 =>
     have e:rnV (dH ψ) v0 = .none:=by
      have:=congrArg Prod.snd ht
      exact Option.some.inj this
     have:=DJ e
     subst this
     exact fun x hx=>q (.ret x) hx
    |_=>cases ht
 |err k =>
  cases o with
  |error e =>
   have e':rnV (dH ψ) e = .ref k:=by
    have:=congrArg Prod.snd ht
    exact Option.some.inj this
   obtain⟨i,rfl,hi⟩:=IL e'
   rintro x ⟨a,ha,rfl⟩
   exact q _ ⟨a,kD hi ha,rfl⟩
  |ok f =>
   cases f with
   |none=>cases ht
   |some f=>cases f<;>cases ht
noncomputable def nws(θ:List (Option Nat)):List Nat:=(List.range θ.length).filter fun i=>match θ[i]? with
 |some none=>true
 |_=>false
noncomputable def tQ:List (Option Nat)→Nat→Nat→Option Nat
 |[],_,_=>none
 |none::r,j,k=>tQ r j (k+1)
 |some x::r,j,k=>bif Nat.beq x j then some k else tQ r j (k+1)
noncomputable def gTh(n:Nat)(θ:List (Option Nat))(i:Nat):SV:=match θ[i]? with
 |some (some j)=>.ref j
 |some none=>match pos (nws θ) i 0 with
  |some k=>.ref (n+k)
  |none=>.any
 |none=>.any
noncomputable def iW(n:Nat)(θ:List (Option Nat))(fin:List SO):List SO :=
 ((List.range n).map fun j=>match tQ θ j 0 with
  |some i=>rnO (gTh n θ) wid (nat? fin i .dead)
  |none=>.dead)++(nws θ).map fun i=>rnO (gTh n θ) wid (nat? fin i .dead)
theorem iF:∀{l:List (Option Nat)}{j k i:Nat},tQ l j k=some i→∃t,i=k+t∧l[t]?=some (some j)
 |[],_,_,_,h=>by cases h
 |none::r,j,k,i,h=>by
  obtain⟨t,e,z⟩:=iF (l:=r) h
  exact⟨t+1,by lia,z⟩
 |some x::r,j,k,i,h=>by
  have h:(bif Nat.beq x j then some k else tQ r j (k+1))=some i:=h
  cases q:Nat.beq x j with
  |true=>rw[q]at h;cases h;exact⟨0,rfl,by rw[←dA q];rfl⟩
  |false =>
   rw[q]at h
   obtain⟨t,e,z⟩:=iF (l:=r) h
   exact⟨t+1,by lia,z⟩
theorem AF{θ:List (Option Nat)}{i:Nat}:i∈nws θ↔θ[i]?=some none:=by
 unfold nws
 rw[List.mem_filter,List.mem_range]
 constructor
 ·rintro⟨h1,h2⟩
  split at h2
  ·assumption
  ·cases h2
 ·intro h
  exact⟨(List.getElem?_eq_some_iff.mp h).1,by rw[h]⟩
theorem CG(θ:List (Option Nat)):(nws θ).Nodup:=List.Pairwise.filter _ List.nodup_range
end
end
section
open PySem.Calls
section
variable{mb:Bt}{t:IE}{b:ISs}{hd:Option Nat}{D d:Nat}{loc loc':List (Option SV)}{S fin:List SO}{out:Except SV SV}{θ:List (Option Nat)}
theorem qN{n:Nat}{j:Nat}(h:j<n):(iW n θ fin)[j]?=some (match tQ θ j 0 with
  |some i=>rnO (gTh n θ) wid (nat? fin i .dead)
  |none=>.dead):=by
 unfold iW
 rw[List.getElem?_append_left (by simpa using h),List.getElem?_map,mF h];rfl
theorem qM{n k:Nat}:(iW n θ fin)[n+k]?=((nws θ)[k]?).map fun i=>rnO (gTh n θ) wid (nat? fin i .dead):=by
 unfold iW
 rw[List.getElem?_append_right (by simp),List.getElem?_map]
 simp
theorem LPg.toLoop(h:LPg mb t b hd D loc S out loc' fin θ)(hs:∃tag v,StopR tag v out)(hd':D≤d) :
  LoopOK (g0 mb) t b hd d loc S (kR (rnV (gTh S.length θ)) out) (tM (gTh S.length θ) loc') (iW S.length θ fin):=by
 intro c gs ρ st s EO EG h1 h2 hhd hd2 hloc hS N RR post
 refine h c gs ρ st s EO EG h1 h2 hhd (by lia) hloc hS N RR fun ρ' s' P E=>?_
 have ln:ρ.a.length=S.length:=by rw[N.rep.len,hS]
 generalize hn:S.length=n at *
 let ρ2:Tr:=⟨ρ.a++(nws θ).map (fun i=>nat? ρ'.a i 0),ρ'.z⟩
 have nwa:∀i∈nws θ,∃a,ρ'.a[i]?=some a∧nat? ρ'.a i 0=a∧s.heap.get? a=none:=fun i hi=>by
  have hi:=AF.mp hi
  have li:i<ρ'.a.length:=by rw[←P.len];exact(List.getElem?_eq_some_iff.mp hi).1
  exact⟨ρ'.a[i],List.getElem?_eq_getElem li,nat?_eq (List.getElem?_eq_getElem li),P.new i _ hi (List.getElem?_eq_getElem li)⟩
 have at1:∀(j:Nat) b,ρ.a[j]?=some b→ρ2.a[j]?=some b:=fun j b hb=>by
  show(ρ.a++_)[j]?=_
  rw[List.getElem?_append_left (List.getElem?_eq_some_iff.mp hb).1];exact hb
 have at2:∀(k i:Nat),(nws θ)[k]?=some i→ρ2.a[n+k]?=some (nat? ρ'.a i 0):=fun k i hk=>by
  show(ρ.a++_)[n+k]?=_
  rw[List.getElem?_append_right (Nat.le_trans (Nat.le_of_eq ln) (Nat.le_add_right _ _)),List.getElem?_map,ln,Nat.add_sub_cancel_left,hk];rfl
 have gb:∀(i:Nat) b,ρ'.a[i]?=some b→VR ρ2 (gTh n θ i) (.ref b):=fun i b hb=>by
  have li:i<θ.length:=by rw[P.len];exact(List.getElem?_eq_some_iff.mp hb).1
  have et:=List.getElem?_eq_getElem li
  unfold gTh
  rw[et]
  cases ht:θ[i]with
  |some j =>
   rw[ht]at et
   obtain⟨a,e1,e2⟩:=P.old i j et
   rw[hb]at e1;cases e1
   exact⟨b,at1 j b e2,rfl⟩
  |none =>
   rw[ht]at et
   have hm:=AF.mpr et
   show VR ρ2 (match pos (nws θ) i 0 with|some k=>.ref (n+k)|none=>.any) _
   cases q:pos (nws θ) i 0 with
   |none=>rfl
   |some k =>
    obtain⟨u,e,z⟩:=eA q
    have:k=u:=by lia
    subst this
    refine⟨b,?_,rfl⟩
    rw[at2 k i z]
    exact congrArg some (nat?_eq hb)
 have St:aF c.env.locals ρ s ρ2 s':=⟨⟨_,rfl,fun a ha=>by
  obtain⟨i,hi,rfl⟩:=List.mem_map.mp ha
  obtain⟨a',_,e,z⟩:=nwa i hi
  rw[e];exact z⟩,P.zin,P.zout,P.same,P.dom,P.gens,P.os⟩
 have mem2:∀a∈ρ2.a,a∈ρ.a∨∃i∈nws θ,ρ'.a[i]?=some a∧s.heap.get? a=none:=fun a ha=>by
  rcases List.mem_append.mp ha with h|h
  ·exact .inl h
  ·obtain⟨i,hi,rfl⟩:=List.mem_map.mp h
   obtain⟨a',e0,e,z⟩:=nwa i hi
   exact .inr ⟨i,hi,by rw[e];exact e0,by rw[e];exact z⟩
 have R:Rep (g0 mb) ρ2 (iW n θ fin) s'.heap:=by
  have R0:=N.rep
  have R1:=E.rep
  refine⟨R1.kin,by simp[ρ2,iW,ln],?_,fun a ha=>?_,fun a ha=>?_,fun a ha=>?_,fun j o a hj ha=>?_,fun a o hz=>?_,R1.bn⟩
  ·refine List.nodup_append.mpr ⟨R0.nodup,?_,fun a ha b hb q=>?_⟩
   ·refine List.pairwise_map.mpr ((CG θ).imp_of_mem fun{i j} hi hj hne q=>hne ?_)
    obtain⟨a1,x1,x2,_⟩:=nwa i hi
    obtain⟨a2,y1,y2,_⟩:=nwa j hj
    rw[x2,y2]at q
    subst q
    exact mI R1.nodup x1 y1
   ·subst q
    obtain⟨i,hi,e⟩:=List.mem_map.mp hb
    obtain⟨a',_,e',z⟩:=nwa i hi
    rw[←e,e']at ha
    obtain⟨o,ho,_⟩:=R0.nofr a' ha
    rw[z]at ho;cases ho
  ·rcases mem2 a ha with h|⟨i,_,h,_⟩
   ·exact R0.off a h
   ·exact R1.off a (List.mem_of_getElem? h)
  ·rcases mem2 a ha with h|⟨i,_,h,_⟩
   ·exact R0.low a h
   ·exact R1.low a (List.mem_of_getElem? h)
  ·rcases mem2 a ha with h|⟨i,_,h,_⟩
   ·obtain⟨o,ho,c1,c2⟩:=R0.nofr a h
    obtain⟨o',ho',k⟩:=P.dom a o ho
    exact⟨o',ho',by rw[k.cls];exact c1,by rw[k.cls];exact c2⟩
   ·exact R1.nofr a (List.mem_of_getElem? h)
  ·by_cases lj:j<n
   ·rw[qN lj]at hj
    cases hj
    cases q:tQ θ j 0 with
    |none=>trivial
    |some i =>
     obtain⟨u,e,z⟩:=iF q
     have:i=u:=by lia
     subst this
     obtain⟨a',e1,e2⟩:=P.old i j z
     rw[at1 j a' e2]at ha;cases ha
     have li:i<fin.length:=by rw[←R1.len];exact(List.getElem?_eq_some_iff.mp e1).1
     show OR _ _ _ a (rnO (gTh n θ) wid (nat? fin i .dead))
     rw[nat?_eq (List.getElem?_eq_getElem li)]
     exact(R1.ob i _ a (List.getElem?_eq_getElem li) e1).rn gb (fun _ z=>z) aC
   ·obtain⟨k,rfl⟩:∃k,j=n+k:=Nat.exists_eq_add_of_le (Nat.le_of_not_lt lj)
    rw[qM]at hj
    obtain⟨i,hi,rfl⟩:=Option.map_eq_some_iff.mp hj
    obtain⟨a',e0,e,z⟩:=nwa i (List.mem_of_getElem? hi)
    rw[at2 k i hi,e]at ha;cases ha
    have li:i<fin.length:=by rw[←R1.len];exact(List.getElem?_eq_some_iff.mp e0).1
    rw[nat?_eq (List.getElem?_eq_getElem li)]
    exact(R1.ob i _ a (List.getElem?_eq_getElem li) e0).rn gb (fun _ z=>z) aC
  ·obtain⟨r1,r2,r3,r4⟩:=R1.fz a o hz
   refine⟨OR.cl (ρ:=ρ') (ρ':=ρ2) (fun _ z=>z) r2.1 r1,r2,r3,fun j hj=>?_⟩
   by_cases lj:j<n
   ·rw[qN lj]
    cases q:tQ θ j 0 with
    |none=>rfl
    |some i =>
     obtain⟨u,e,z⟩:=iF q
     have:i=u:=by lia
     subst this
     obtain⟨a',e1,e2⟩:=P.old i j z
     rw[at1 j a' e2]at hj;cases hj
     show some (rnO _ _ _)=_
     rw[nat?_eq (r4 i e1)];rfl
   ·obtain⟨k,rfl⟩:∃k,j=n+k:=Nat.exists_eq_add_of_le (Nat.le_of_not_lt lj)
    rw[qM]
    have lk:k<(nws θ).length:=by
     have:=(List.getElem?_eq_some_iff.mp hj).1
     simp[ρ2]at this;lia
    have ek:=List.getElem?_eq_getElem lk
    obtain⟨a',e0,e,z⟩:=nwa _ (List.mem_of_getElem? ek)
    rw[at2 k _ ek,e]at hj;cases hj
    rw[ek]
    show some (rnO _ _ _)=_
    rw[nat?_eq (r4 _ e0)];rfl
 have Nn:Now (g0 mb) c ρ2 { st with loc:=tM (gTh n θ) loc',objs:=iW n θ fin } s'.heap:=by
  refine⟨N.frames,N.depth,N.units,?_,R,E.fr.rn gb (fun _ z=>z),E.frs,fun hm=>?_,E.lo,N.lo.2.2⟩
  ·have:=N.hd
   cases q:c.hd with
   |none=>rw[q]at this;exact this
   |some i=>rw[q]at this;obtain⟨a,e1,e2⟩:=this;exact⟨a,at1 i a e1,e2⟩
  ·rcases mem2 _ hm with h|⟨i,_,_,h⟩
   ·exact N.lo.1 h
   ·obtain⟨o,mr,e,_⟩:=N.fr
    rw[h]at e;cases e
 have q:=post ρ2 s' St Nn
 obtain⟨tag,v,hs⟩:=hs
 cases hs with
 |done=>exact fun f hf=>q f (by cases f<;>first | exact hf.elim | trivial)
 |ret=>exact fun f hf=>q f (by cases f<;>first | exact hf.elim | exact hf)
 |err k=>exact fun x hx=>q x (hx.rn gb (fun _ z=>z))
end
end
section
open PySem.Calls
noncomputable def cB(back:Option Str)(pr:Bool)(lab:Str):List SO:=[.inst 105 (some 1),.idict [(13,.any),(12,.ostr back),(11,.bool pr),(10,.str lab)]]
section
variable{mb:Bt}
noncomputable def EPa(mb:Bt)(d:Nat)(lab:Str)(hd:Nat)(e e':Ex):Prop :=
 ∀back,CallOK (g0 mb) 174 [.ref 0,.ref 2] (some hd) d (cB back true lab++exS 2 e) (.error (.ref 2)) (cB back true lab++exS 2 e')
noncomputable def eaL(mb:Bt)(J d:Nat)(lab:Str)(hd:Nat)(e:Ex)(back:Option Str):Option FT :=
 cH (wkE J) (List.range (kI (cB back true lab++exS 2 e)).length++[]) [] [] (bH mb [] 100 bK (some hd) [.ref 0,.ref 2] (kI (cB back true lab++exS 2 e)) d [] [])
noncomputable def eaR(mb:Bt)(d:Nat)(lab:Str)(hd:Nat)(e e':Ex)(back:Option Str):Option FT :=
 cG (.error (.ref 2)) (cB back true lab++exS 2 e') [] (bH mb [] 100 bK (some hd) [.ref 0,.ref 2] (kI (cB back true lab++exS 2 e)) d [] [])
theorem qK(B:aE mb){J d:Nat}{lab:Str}{hd:Nat}{e e':Ex}(h:∀back,eaL mb J d lab hd e back=eaR mb d lab hd e e' back):EPa mb d lab hd e e':=fun back =>
 CallOK.info (mkC B (ns:=[]) (F:=bK) rfl (bI J) (h back) rfl (fun _ h=>nomatch h))
theorem ea1(B:aE mb)(d:Nat)(lab v:Str)(r:Int):∀x∈[((2:Int),(1:Int)),(3,2),(4,3)],EPa mb (d+12) lab 2 ⟨2,v,x.1,r,0,false⟩ ⟨2,v,x.2,r,0,false⟩:=by
 intro x hx
 refine qK (J:=0) B fun back=>?_
 revert x
 apply List.map_inj_left.mp
 kernel_rfl
theorem ea2(B:aE mb)(d:Nat)(lab v:Str) (back):CallOK (g0 mb) 174 [.ref 0,.ref 2] (some 2) (d+12) (cB back true lab++exS 2 ⟨2,v,1,0,0,false⟩) (.ok (.str v)) (cB back true lab++exS 2 ⟨2,v,1,0,0,false⟩) :=
 CallOK.info (mkC B (cs:=[]) (n:=100) (ps:=[]) (pr:=[]) (ks:=[]) (ns:=[]) (F:=bK) rfl (bI 0) (by kernel_rfl) rfl (fun _ h=>nomatch h))
theorem ea3(B:aE mb)(d:Nat)(lab v:Str):∀r∈[(1:Int),3,4,5],EPa mb (d+12) lab 2 ⟨2,v,1,r,0,false⟩ ⟨r,v,0,0,0,false⟩:=by
 intro x hx
 refine qK (J:=0) B fun back=>?_
 revert x
 apply List.map_inj_left.mp
 kernel_rfl
theorem ea4(B:aE mb)(d:Nat)(v:Str):∀x∈fU n4 [(5:Int),6,-1,2001],EPa mb (d+12) (pS x.1) 2 ⟨x.2,v,0,0,0,false⟩ ⟨x.2,v,0,0,0,false⟩:=by
 intro x hx
 refine qK (J:=0) B fun back=>?_
 revert x
 apply List.map_inj_left.mp
 kernel_rfl
theorem ea5(B:aE mb)(d:Nat)(v:Str) (back):∀x∈fU n4 [(3:Int),4],CallOK (g0 mb) 174 [.ref 0,.ref 2] (some 2) (d+12) (cB back true (pS x.1)++exS 2 ⟨x.2,v,0,0,0,false⟩) (.error (.ref 4))
  (cB back true (pS x.1)++exS 2 ⟨x.2,v,0,0,0,false⟩++[.exc 84 (some 5) (.ref 2) true,exD ⟨1,brk x.2,0,0,1,true⟩]):=fun x hx=>CallOK.info <|
 oW (fU n4 [(3:Int),4]) B (cs:=[]) (n:=100) (ps:=fun _=>[]) (pr:=[]) (ks:=[]) (ns:=fun _=>[6,7]) (F:=bK) (wk:=wkE 1) (args:=fun _=>[.ref 0,.ref 2]) (out:=fun _=>.error (.ref 4))
  (core:=fun x=>kI (cB back true (pS x.1)++exS 2 ⟨x.2,v,0,0,0,false⟩)) (core':=fun x=>cB back true (pS x.1)++exS 2 ⟨x.2,v,0,0,0,false⟩++[.exc 84 (some 5) (.ref 2) true,exD ⟨1,brk x.2,0,0,1,true⟩]) rfl (bI 1) (by kernel_rfl) (fun _=>rfl) (fun _ _ h=>nomatch h) x hx
theorem ea6(B:aE mb)(d:Nat):∀x∈fU n4 vals,EPa mb (d+12) (pS x.1) 2 ⟨1,x.2,0,0,0,false⟩ ⟨1,x.2,0,0,1,false⟩:=by
 intro x hx
 refine qK (J:=1) B fun back=>?_
 revert x
 apply List.map_inj_left.mp
 kernel_rfl
theorem ea7(B:aE mb)(d:Nat)(v:Str)(cx:Bool):∀j∈j5,∀n∈n4,EPa mb (d+12) (pS n) 2 ⟨1,v,0,0,j+1,cx⟩ ⟨1,v,0,0,j+2,cx⟩:=by
 intro j hj n hn
 refine qK (J:=j+2) B fun back=>?_
 revert n
 apply List.map_inj_left.mp
 revert j
 apply List.map_inj_left.mp
 cases cx<;>kernel_rfl
theorem ea8(B:aE mb)(d:Nat)(v:Str):∀j∈j5,∀n∈n4,EPa mb (d+12) (pS n) 4 ⟨1,v,0,0,j+1,true⟩ ⟨1,v,0,0,j+2,true⟩:=by
 intro j hj n hn
 refine qK (J:=j+2) B fun back=>?_
 revert n
 apply List.map_inj_left.mp
 revert j
 apply List.map_inj_left.mp
 kernel_rfl
end
end
section
open PySem.Calls
noncomputable def iwT:IE:=(yY bN.body).1
noncomputable def iwB:ISs:=(yY bN.body).2
noncomputable def qq(c:List AD):Nat:=25+5*c.length
noncomputable def loI(q:Nat):List (Option SV):=[some (.ref 20),some (.ref q),none,none,none]
noncomputable def hdI(q:Nat)(nw:Bool):Option Nat:=some (bif nw then q+2 else q)
noncomputable def LPU(mb:Bt)(W:Wd)(σ:Sg)(c:List AD)(e:Ex)(nw:Bool)(out:Except SV SV)(loc':List (Option SV))(fin:List SO)(θ:List (Option Nat))(D:Nat):Prop :=
 LPg mb iwT iwB (hdI (qq c) nw) D (loI (qq c)) (stS W σ c []++exS (qq c) e) out loc' fin θ
noncomputable def bE(e:Ex):Nat:=bif e.cx then 4 else 2
noncomputable def psU(m ex:Nat):List Nat:=List.range (25+5*m)++(List.range ex).map (30+5*m+·)
section
variable{mb:Bt}{W:Wd}{σ:Sg}{c:List AD}{e e':Ex}{nw:Bool}{out:Except SV SV}{loc':List (Option SV)}{fin:List SO}{θ:List (Option Nat)}{D:Nat}{k:K2}{pc:Int}{bk:Option Str}{lab s:Str}
theorem zJ(m ex:Nat):(psU m ex).length=25+5*m+ex:=by simp[psU]
noncomputable def tuL(mb:Bt)(W:Wd)(σ:Sg)(c:List AD)(e:Ex)(nw:Bool)(ψ ks:List Nat)(ps:List Pl)(d:Nat):Option TT :=
 tnL wid ψ ks [2,3,4] (hdI (qq c) nw) ps (gF mb [174] (hdI (qq c) nw) iwT iwB 1 (loI (qq c)) (stS W σ c []++exS (qq c) e) (d+20) ps)
noncomputable def tuR(mb:Bt)(W:Wd)(σ:Sg)(c:List AD)(e:Ex)(nw:Bool)(tag:Nat)(v:Option SV)(c2:List AD)(S2:List SO)(nw2:Bool)(ps:List Pl)(d:Nat):Option TT :=
 tnR tag v (loI (qq c2)) S2 (hdI (qq c2) nw2) (d+20) ps (gF mb [174] (hdI (qq c) nw) iwT iwB 1 (loI (qq c)) (stS W σ c []++exS (qq c) e) (d+20) ps)
noncomputable def lb:List Bool:=[false,true]
theorem nQ:∀b:Bool,b∈lb:=by decide
theorem le4{P:List AD→Prop}(h0:P [])(h1:∀a,P [a])(h2:∀a b,P [a,b])(h3:∀a b d,P [a,b,d])(h4:∀a b d e,P [a,b,d,e]):∀c:List AD,c.length≤4→P c
 |[],_=>h0
 |[_],_=>h1 _
 |[_,_],_=>h2 _ _
 |[_,_,_],_=>h3 _ _ _
 |[_,_,_,_],_=>h4 _ _ _ _
 |_::_::_::_::_::_,h=>absurd h (by simp)
noncomputable def l6(s:Str):List (Option Str×Bool×Bool):=[(none,false,false),(none,false,true),(none,true,true),(some s,false,false),(some s,false,true),(some s,true,true)]
theorem HL{bk:Option Str}{nw cx:Bool}(h:nw=true→cx=true):(bk,nw,cx)∈l6 (bk.getD ""):=by
 cases bk<;>cases nw<;>cases cx<;>first
  |exact .head _ | exact .tail _ (.head _) | exact .tail _ (.tail _ (.head _)) | exact .tail _ (.tail _ (.tail _ (.head _))) | exact .tail _ (.tail _ (.tail _ (.tail _ (.head _)))) | exact .tail _ (.tail _ (.tail _ (.tail _ (.tail _ (.head _))))) | exact absurd (h rfl) Bool.false_ne_true
noncomputable def l2(s:Str):List (Option Str):=[none,some s]
theorem xW{bk:Option Str}:bk∈l2 (bk.getD ""):=by cases bk<;>simp[l2]
set_option maxHeartbeats 4000000 in
theorem KU{ec:Int}{ev:Str}{el er:Int}{ej d:Nat}:∀c:List AD,c.length≤4→∀s,∀y∈l6 s,tuL mb W σ (c++[⟨k,pc,y.1,false,lab⟩]) ⟨ec,ev,el,er,ej,y.2.2⟩ y.2.1 (psU c.length (bE ⟨ec,ev,el,er,ej,y.2.2⟩)) [] [] d =
  tuR mb W σ (c++[⟨k,pc,y.1,false,lab⟩]) ⟨ec,ev,el,er,ej,y.2.2⟩ y.2.1 1 none c (stS W (σ.back y.1) c []++exS (qq c) ⟨ec,ev,el,er,ej,y.2.2⟩) y.2.1 [] d :=
 le4 (fun s=>aA (by kernel_rfl)) (fun _ s=>aA (by kernel_rfl)) (fun _ _ s=>aA (by kernel_rfl)) (fun _ _ _ s=>aA (by kernel_rfl)) (fun _ _ _ _ s=>aA (by kernel_rfl))
theorem HH(B:aE mb)(hc:c.length≤4)(hx:nw=true→e.cx=true)(hθ:∀(i j:Nat),θ[i]?=some (some j)→j<25+5*c.length+bE e)(h:LPU mb W (σ.back bk) c e nw out loc' fin θ D) :
  LPU mb W σ (c++[⟨k,pc,bk,false,lab⟩]) e nw out loc' fin (θ.map (cX (stS W σ (c++[⟨k,pc,bk,false,lab⟩]) []++exS (qq (c++[⟨k,pc,bk,false,lab⟩])) e).length (psU c.length (bE e)))) (max 20 D):=by
 obtain⟨ec,ev,el,er,ej,cx⟩:=e
 exact LPg.turn (k:=1) (cs:=[174]) (ps:=fun _=>[]) (ψ:=psU c.length (bE ⟨ec,ev,el,er,ej,cx⟩)) (ks:=[]) (ms:=[2,3,4]) B 0 aC (fun d _=>by exact KU (ec:=ec) (ev:=ev) (el:=el) (er:=er) (ej:=ej) c hc (bk.getD "") (bk,nw,cx) (HL hx)) (fun _ _ _ h=>nomatch h) (fun i j q=>by rw[zJ];exact hθ i j q) h
noncomputable def rI(m:Nat)(bk:Option Str)(lab:Str)(h:Nat)(e:Ex)(out:Except SV SV)(new:List SO)(d:Nat):Pl :=
 .fr 174 [.ref 0,.ref 2] (some h) d (cB bk true lab++exS 2 e) out (cB bk true lab++new) ([28+5*m,29+5*m]++(List.range (bE e)).map (30+5*m+·)) [] wid
set_option maxHeartbeats 4000000 in
theorem KT{ec ec':Int}{ev ev':Str}{el er el' er':Int}{ej ej' d:Nat}:∀c:List AD,c.length≤4→∀s,∀y∈l6 s,
  tuL mb W σ (c++[⟨k,pc,y.1,true,lab⟩]) ⟨ec,ev,el,er,ej,y.2.2⟩ y.2.1 (psU c.length (bE ⟨ec,ev,el,er,ej,y.2.2⟩)) [] [rI c.length y.1 lab (bif y.2.1 then 4 else 2) ⟨ec,ev,el,er,ej,y.2.2⟩ (.error (.ref 2)) (exS 2 ⟨ec',ev',el',er',ej',y.2.2⟩) (d+20)] d =
  tuR mb W σ (c++[⟨k,pc,y.1,true,lab⟩]) ⟨ec,ev,el,er,ej,y.2.2⟩ y.2.1 1 none c (stS W (σ.back y.1) c []++exS (qq c) ⟨ec',ev',el',er',ej',y.2.2⟩) y.2.1 [rI c.length y.1 lab (bif y.2.1 then 4 else 2) ⟨ec,ev,el,er,ej,y.2.2⟩ (.error (.ref 2)) (exS 2 ⟨ec',ev',el',er',ej',y.2.2⟩) (d+20)] d :=
 le4 (fun s=>aA (by kernel_rfl)) (fun _ s=>aA (by kernel_rfl)) (fun _ _ s=>aA (by kernel_rfl)) (fun _ _ _ s=>aA (by kernel_rfl)) (fun _ _ _ _ s=>aA (by kernel_rfl))
theorem HF(B:aE mb)(hc:c.length≤4)(hx:nw=true→e.cx=true)(hx':e'.cx=e.cx)(hE:∀d,EPa mb (d+12) lab (bif nw then 4 else 2) e e')(hθ:∀(i j:Nat),θ[i]?=some (some j)→j<25+5*c.length+bE e)(h:LPU mb W (σ.back bk) c e' nw out loc' fin θ D) :
  LPU mb W σ (c++[⟨k,pc,bk,true,lab⟩]) e nw out loc' fin (θ.map (cX (stS W σ (c++[⟨k,pc,bk,true,lab⟩]) []++exS (qq (c++[⟨k,pc,bk,true,lab⟩])) e).length (psU c.length (bE e)))) (max 20 D):=by
 obtain⟨ec,ev,el,er,ej,cx⟩:=e
 obtain⟨ec',ev',el',er',ej',cx'⟩:=e'
 cases(show cx'=cx from hx')
 exact LPg.turn (k:=1) (cs:=[174]) (ps:=fun d=>[rI c.length bk lab (bif nw then 4 else 2) ⟨ec,ev,el,er,ej,cx⟩ (.error (.ref 2)) (exS 2 ⟨ec',ev',el',er',ej',cx⟩) (d+20)]) (ψ:=psU c.length (bE ⟨ec,ev,el,er,ej,cx⟩)) (ks:=[]) (ms:=[2,3,4]) B 0 aC
  (fun d _=>by exact KT (ec:=ec) (ev:=ev) (el:=el) (er:=er) (ej:=ej) (ec':=ec') (ev':=ev') (el':=el') (er':=er') (ej':=ej') c hc (bk.getD "") (bk,nw,cx) (HL hx)) (fun d _=>ok1 ⟨hE (d+8) bk,aC⟩) (fun i j q=>by rw[zJ];exact hθ i j q) h
noncomputable def psN(m:Nat):List Nat:=List.range (25+5*m)++[34+5*m,35+5*m,30+5*m,31+5*m]
theorem LW(m:Nat):(psN m).length=25+5*m+4:=by simp[psN]
noncomputable def nwE(e e':Ex):List SO:=exS 2 e++[.exc 84 (some 5) (.ref 2) true,exD e']
set_option maxHeartbeats 4000000 in
theorem QI{ec ec':Int}{ev ev':Str}{el er el' er':Int}{ej ej' d:Nat}:∀c:List AD,c.length≤4→∀s,∀y∈l2 s,
  tuL mb W σ (c++[⟨k,pc,y,true,lab⟩]) ⟨ec,ev,el,er,ej,false⟩ false (psN c.length) [28+5*c.length] [rI c.length y lab 2 ⟨ec,ev,el,er,ej,false⟩ (.error (.ref 4)) (nwE ⟨ec,ev,el,er,ej,false⟩ ⟨ec',ev',el',er',ej',true⟩) (d+20)] d =
  tuR mb W σ (c++[⟨k,pc,y,true,lab⟩]) ⟨ec,ev,el,er,ej,false⟩ false 1 none c (stS W (σ.back y) c []++exS (qq c) ⟨ec',ev',el',er',ej',true⟩) true [rI c.length y lab 2 ⟨ec,ev,el,er,ej,false⟩ (.error (.ref 4)) (nwE ⟨ec,ev,el,er,ej,false⟩ ⟨ec',ev',el',er',ej',true⟩) (d+20)] d :=
 le4 (fun s=>aA (by kernel_rfl)) (fun _ s=>aA (by kernel_rfl)) (fun _ _ s=>aA (by kernel_rfl)) (fun _ _ _ s=>aA (by kernel_rfl)) (fun _ _ _ _ s=>aA (by kernel_rfl))
theorem NA(B:aE mb)(hc:c.length≤4)(hx:e.cx=false)(hx':e'.cx=true)(hE:∀d back,CallOK (g0 mb) 174 [.ref 0,.ref 2] (some 2) (d+12) (cB back true lab++exS 2 e) (.error (.ref 4)) (cB back true lab++exS 2 e++[.exc 84 (some 5) (.ref 2) true,exD e']))
  (hθ:∀(i j:Nat),θ[i]?=some (some j)→j<25+5*c.length+4)(h:LPU mb W (σ.back bk) c e' true out loc' fin θ D) :
  LPU mb W σ (c++[⟨k,pc,bk,true,lab⟩]) e false out loc' fin (θ.map (cX (stS W σ (c++[⟨k,pc,bk,true,lab⟩]) []++exS (qq (c++[⟨k,pc,bk,true,lab⟩])) e).length (psN c.length))) (max 20 D):=by
 obtain⟨ec,ev,el,er,ej,cx⟩:=e
 obtain⟨ec',ev',el',er',ej',cx'⟩:=e'
 cases(show cx=false from hx);cases(show cx'=true from hx')
 exact LPg.turn (k:=1) (cs:=[174]) (ps:=fun d=>[rI c.length bk lab 2 ⟨ec,ev,el,er,ej,false⟩ (.error (.ref 4)) (nwE ⟨ec,ev,el,er,ej,false⟩ ⟨ec',ev',el',er',ej',true⟩) (d+20)]) (ψ:=psN c.length) (ks:=[28+5*c.length]) (ms:=[2,3,4]) B 0 aC (fun d _=>by exact QI c hc (bk.getD "") bk xW) (fun d _=>ok1 ⟨by unfold nwE;rw[←List.append_assoc];exact hE (d+8) bk,aC⟩) (fun i j q=>by rw[LW];exact hθ i j q) h
set_option maxHeartbeats 4000000 in
theorem KS{ec:Int}{ev:Str}{el er:Int}{ej d:Nat}:∀c:List AD,c.length≤4→1≤c.length→∀s',∀y∈l2 s',
  tuL mb W σ (c++[⟨k,pc,y,true,lab⟩]) ⟨ec,ev,el,er,ej,false⟩ false (psU c.length 2) [] [rI c.length y lab 2 ⟨ec,ev,el,er,ej,false⟩ (.ok (.str s)) (exS 2 ⟨ec,ev,el,er,ej,false⟩) (d+20)] d =
  tuR mb W σ (c++[⟨k,pc,y,true,lab⟩]) ⟨ec,ev,el,er,ej,false⟩ false 2 (some .none) c (stS W (σ.back y) c [.str s]++exS (qq c) ⟨ec,ev,el,er,ej,false⟩) false [rI c.length y lab 2 ⟨ec,ev,el,er,ej,false⟩ (.ok (.str s)) (exS 2 ⟨ec,ev,el,er,ej,false⟩) (d+20)] d :=
 le4 (fun h=>absurd h (by decide)) (fun _ _ s=>aA (by kernel_rfl)) (fun _ _ _ s=>aA (by kernel_rfl)) (fun _ _ _ _ s=>aA (by kernel_rfl)) (fun _ _ _ _ _ s=>aA (by kernel_rfl))
theorem HE(B:aE mb)(h1:1≤c.length)(hc:c.length≤4)(hx:e.cx=false)(hE:∀d back,CallOK (g0 mb) 174 [.ref 0,.ref 2] (some 2) (d+12) (cB back true lab++exS 2 e) (.ok (.str s)) (cB back true lab++exS 2 e)) :
  LPU mb W σ (c++[⟨k,pc,bk,true,lab⟩]) e false (.ok (.bool true)) (loI (qq c)) (stS W (σ.back bk) c [.str s]++exS (qq c) e) (dP (stS W σ (c++[⟨k,pc,bk,true,lab⟩]) []++exS (qq (c++[⟨k,pc,bk,true,lab⟩])) e).length (psU c.length 2)) 20:=by
 obtain⟨ec,ev,el,er,ej,cx⟩:=e
 cases(show cx=false from hx)
 exact LPg.stop (k:=1) (cs:=[174]) (ps:=fun d=>[rI c.length bk lab 2 ⟨ec,ev,el,er,ej,false⟩ (.ok (.str s)) (exS 2 ⟨ec,ev,el,er,ej,false⟩) (d+20)]) (ψ:=psU c.length 2) (ks:=[]) (ms:=[2,3,4]) (hd2:=hdI (qq c) false) B 0 aC .ret (fun d _=>by exact KS c hc h1 (bk.getD "") bk xW) (fun d _=>ok1 ⟨hE (d+8) bk,aC⟩)
set_option maxHeartbeats 4000000 in
theorem HG(B:aE mb)(hx:nw=true→e.cx=true):LPU mb W σ [] e nw (.ok .none) (loI 25) (stS W σ [] []++exS 25 e) (dP (stS W σ [] []++exS (qq []) e).length (List.range (25+bE e))) 20:=by
 obtain⟨ec,ev,el,er,ej,cx⟩:=e
 cases cx
 ·cases nw
  ·exact LPg.stop (k:=1) (cs:=[174]) (ps:=fun d=>[]) (ψ:=List.range 27) (ks:=[]) (ms:=[2,3,4]) (hd:=hdI 25 false) (hd2:=hdI 25 false) B 0 aC .done (fun d _=>by kernel_rfl) (fun _ _ _ h=>nomatch h)
  ·exact(Bool.false_ne_true (hx rfl)).elim
 ·cases nw
  ·exact LPg.stop (k:=1) (cs:=[174]) (ps:=fun d=>[]) (ψ:=List.range 29) (ks:=[]) (ms:=[2,3,4]) (hd:=hdI 25 false) (hd2:=hdI 25 false) B 0 aC .done (fun d _=>by kernel_rfl) (fun _ _ _ h=>nomatch h)
  ·exact LPg.stop (k:=1) (cs:=[174]) (ps:=fun d=>[]) (ψ:=List.range 29) (ks:=[]) (ms:=[2,3,4]) (hd:=hdI 25 true) (hd2:=hdI 25 true) B 0 aC .done (fun d _=>by kernel_rfl) (fun _ _ _ h=>nomatch h)
end
end
section
open PySem.Calls
noncomputable def mC(e:Ex):Rs :=
 if e.code=2 then(if e.lev>1 then .er ⟨2,e.val,e.lev - 1,e.ret,e.inf,e.cx⟩else if e.ret=0 then .ok e.val else .er ⟨e.ret,e.val,0,0,0,false⟩)
 else if e.code=3∨e.code=4 then .er ⟨1,brk e.code,0,0,1,true⟩
 else if e.code=1 then .er ⟨1,e.val,0,0,e.inf+1,e.cx⟩else .er e
inductive UR where
 |exit(σ:Sg)(e:Ex)
 |stop(c:List AD)(σ:Sg)(s:Str)
noncomputable def QD:List AD→Sg→Ex→UR
 |[],σ,e=>.exit σ e
 |a::r,σ,e=>if a.pr=true then(match mC e with
   |.ok s=>.stop r.reverse (σ.back a.bk) s
   |.er e'=>QD r (σ.back a.bk) e')
  else QD r (σ.back a.bk) e
noncomputable def unw(c:List AD):Sg→Ex→UR:=QD c.reverse
theorem KJ(σ:Sg)(e:Ex):unw [] σ e = .exit σ e:=rfl
theorem mM(c:List AD)(a:AD)(σ:Sg)(e:Ex):unw (c++[a]) σ e=if a.pr=true then(match mC e with
   |.ok s=>.stop c (σ.back a.bk) s
   |.er e'=>unw c (σ.back a.bk) e')
  else unw c (σ.back a.bk) e:=by
 unfold unw
 rw[List.reverse_append]
 show(if a.pr=true then _ else _)=_
 split
 ·cases mC e with
  |ok s=>show UR.stop c.reverse.reverse _ _=_;rw[List.reverse_reverse]
  |er e'=>rfl
 ·rfl
noncomputable def thX(q ex:Nat):List (Option Nat):=(List.range 25).map some++(List.range ex).map fun i=>some (q+i)
noncomputable def thN(q:Nat):List (Option Nat):=(List.range 25).map some++[none,none,some q,some (q+1)]
noncomputable def thS(m q:Nat):List (Option Nat):=(List.range (25+5*m)).map some++[some q,some (q+1)]
noncomputable def m04:List Nat:=[0,1,2,3,4]
theorem cM{m:Nat}(h:m≤4):m∈m04:=List.mem_range.mpr (Nat.lt_succ_of_le h:m<5)
theorem VC:∀m∈m04,(thX (25+5*m) 2).map (cX (30+5*m+2) (psU m 2))=thX (30+5*m) 2:=by decide +kernel
theorem VB:∀m∈m04,(thX (25+5*m) 4).map (cX (30+5*m+4) (psU m 4))=thX (30+5*m) 4:=by decide +kernel
theorem ZN:∀m∈m04,(thN (25+5*m)).map (cX (30+5*m+2) (psU m 2))=thN (30+5*m):=by decide +kernel
theorem VA:∀m∈m04,(thX (25+5*m) 4).map (cX (30+5*m+2) (psN m))=thN (30+5*m):=by decide +kernel
theorem VD:∀m∈m04,dP (30+5*m+2) (psU m 2)=thS m (30+5*m):=by decide +kernel
theorem ZM:∀m∈m04,∀m'∈m04,m'≤m→(thS m' (25+5*m)).map (cX (30+5*m+2) (psU m 2))=thS m' (30+5*m):=by decide +kernel
theorem VE:dP 27 (List.range 27)=thX 25 2∧dP 29 (List.range 29)=thX 25 4:=by decide +kernel
theorem EH(q ex:Nat)(h:25≤q):∀(i j:Nat),(thX q ex)[i]?=some (some j)→j<q+ex:=by
 intro i j h'
 have:=List.mem_of_getElem? h'
 rcases List.mem_append.mp this with h1|h1
 ·obtain⟨x,hx,e⟩:=List.mem_map.mp h1
  cases e;have:=List.mem_range.mp hx;lia
 ·obtain⟨x,hx,e⟩:=List.mem_map.mp h1
  cases e;have:=List.mem_range.mp hx;lia
theorem QL(q:Nat)(h:25≤q):∀(i j:Nat),(thN q)[i]?=some (some j)→j<q+2:=by
 intro i j h'
 have:=List.mem_of_getElem? h'
 rcases List.mem_append.mp this with h1|h1
 ·obtain⟨x,hx,e⟩:=List.mem_map.mp h1
  cases e;have:=List.mem_range.mp hx;lia
 ·simp only[List.mem_cons,List.not_mem_nil,or_false,Option.some.injEq]at h1
  rcases h1 with h1|h1|h1|h1<;>first|omega|cases h1
theorem QJ (m q : Nat) (h : 25 + 5 * m ≤ q) : ∀ (i j : Nat), (thS m q)[i]? = some (some j) → j < q + 2 := by
  intro i j h'
  have := List.mem_of_getElem? h'
  rcases List.mem_append.mp this with h1 | h1
  · obtain ⟨x, hx, e⟩ := List.mem_map.mp h1
    cases e; exact Nat.lt_of_lt_of_le (List.mem_range.mp hx) (Nat.le_trans h (Nat.le_add_right q 2))
  · simp only [List.mem_cons, List.not_mem_nil, or_false, Option.some.injEq] at h1
    rcases h1 with rfl | rfl
    · exact Nat.lt_add_of_pos_right (by decide)
    · exact Nat.lt_succ_self _
theorem BC (stk : List SV) : ∀ (c : List AD) (p : Nat), (chS stk p c).length = 5 * c.length
  | [], _ => rfl
  | [a], _ => rfl
  | a :: b :: r, p => by
    show (KH p a [] ++ chS stk (p + 5) (b :: r)).length = _
    rw [List.length_append, BC stk (b :: r) (p + 5)]
    simp [KH]; lia
theorem AY(i:Nat)(e:Ex):(exS i e).length=bE e:=by
 unfold exS bE
 cases e.cx<;>rfl
theorem iC(W:Wd)(σ:Sg)(c:List AD)(stk:List SV):(stS W σ c stk).length=25+5*c.length:=by
 unfold stS
 rw[List.length_append,List.length_append,BC]
 rfl
structure pG(c:List AD):Prop where
 bot:∀a,c.head?=some a→a.pr=false
 lab:∀a∈c,a.pr=true→∃n∈n4,a.lab=pS n
section
variable{mb:Bt}{W:Wd}
inductive EpC(mb:Bt)(n J:Nat)(e:Ex):Prop
 |s(v:Str)(h:mC e = .ok v)(k:e.cx=false)(E:∀d back,CallOK (g0 mb) 174 [.ref 0,.ref 2] (some 2) (d+12) (cB back true (pS n)++exS 2 e) (.ok (.str v)) (cB back true (pS n)++exS 2 e))
 |k(e':Ex)(h:mC e = .er e')(o:EOK (J+1) e')(k:e'.cx=e.cx)(E:∀d,EPa mb (d+12) (pS n) 2 e e')(E4:e.cx=true→∀d,EPa mb (d+12) (pS n) 4 e e')
 |n(e':Ex)(h:mC e = .er e')(o:EOK (J+1) e')(k:e.cx=false)(k':e'.cx=true)(E:∀d back,CallOK (g0 mb) 174 [.ref 0,.ref 2] (some 2) (d+12) (cB back true (pS n)++exS 2 e) (.error (.ref 4)) (cB back true (pS n)++exS 2 e++[.exc 84 (some 5) (.ref 2) true,exD e']))
theorem JE(B:aE mb){J:Nat}{e:Ex}{n:Nat}(he:EOK J e)(hJ:J≤5)(hn:n∈n4):EpC mb n J e:=by
 cases he with
 |c2 v le re hv hl hr =>
  simp only[List.mem_cons,List.not_mem_nil,or_false]at hl
  rcases hl with rfl|hl
  ·simp only[List.mem_cons,List.not_mem_nil,or_false]at hr
   rcases hr with rfl|hr
   ·exact .s v rfl rfl fun d back=>ea2 B d _ v back
   ·have hr':re∈[(1:Int),3,4,5]:=by simp only[List.mem_cons,List.not_mem_nil,or_false];exact hr
    refine .k ⟨re,v,0,0,0,false⟩ ?_ ?_ rfl (fun d=>ea3 B d _ v re hr') nofun
    ·rcases hr with rfl|rfl|rfl|rfl<;>rfl
    ·rcases hr with rfl|rfl|rfl|rfl
     ·exact .c1 v hv
     ·exact .c34 v 3 hv (by decide)
     ·exact .c34 v 4 hv (by decide)
     ·exact .co v 5 hv (by decide)
  ·rcases hl with rfl|rfl|rfl
   ·exact .k ⟨2,v,1,re,0,false⟩ rfl (.c2 v 1 re hv (by decide) hr) rfl (fun d=>ea1 B d _ v re (2,1) (by decide)) nofun
   ·exact .k ⟨2,v,2,re,0,false⟩ rfl (.c2 v 2 re hv (by decide) hr) rfl (fun d=>ea1 B d _ v re (3,2) (by decide)) nofun
   ·exact .k ⟨2,v,3,re,0,false⟩ rfl (.c2 v 3 re hv (by decide) hr) rfl (fun d=>ea1 B d _ v re (4,3) (by decide)) nofun
 |c34 v c hv hc =>
  refine .n ⟨1,brk c,0,0,1,true⟩ ?_ (.cj _ 0 true (Nat.succ_pos _)) rfl rfl fun d back=>ea5 B d v back (n,c) (cS hn hc)
  simp only[List.mem_cons,List.not_mem_nil,or_false]at hc
  rcases hc with rfl|rfl<;>rfl
 |co v c hv hc =>
  refine .k ⟨c,v,0,0,0,false⟩ ?_ (.co v c hv hc) rfl (fun d=>ea4 B d v (n,c) (cS hn hc)) nofun
  simp only[List.mem_cons,List.not_mem_nil,or_false]at hc
  rcases hc with rfl|rfl|rfl|rfl<;>rfl
 |c1 v hv=>exact .k ⟨1,v,0,0,1,false⟩ rfl (.cj v 0 false (Nat.succ_pos _)) rfl (fun d=>ea6 B d (n,v) (cS hn hv)) nofun
 |cj v j cx hj =>
  have hj5:j∈j5:=List.mem_range.mpr (Nat.lt_of_lt_of_le hj hJ:j<5)
  refine .k ⟨1,v,0,0,j+2,cx⟩ rfl (.cj v (j+1) cx (Nat.succ_lt_succ hj)) rfl (fun d=>ea7 B d v cx j hj5 n hn) fun z=>?_
  cases(show cx=true from z)
  exact fun d=>ea8 B d v j hj5 n hn
inductive UwR(mb:Bt)(W:Wd)(σ:Sg)(c:List AD)(e:Ex)(nw:Bool)(J:Nat):UR→Prop
 |x(σ':Sg)(e':Ex)(h:EOK J e')(k:e'.cx=e.cx)(l:LPU mb W σ c e nw (.ok .none) (loI 25) (stS W σ' [] []++exS 25 e') (thX (qq c) (bE e)) 20):UwR mb W σ c e nw J (.exit σ' e')
 |n(σ':Sg)(e':Ex)(h:EOK J e')(k:e.cx=false)(k':e'.cx=true)(l:LPU mb W σ c e nw (.ok .none) (loI 25) (stS W σ' [] []++exS 25 e') (thN (qq c)) 20):UwR mb W σ c e nw J (.exit σ' e')
 |s(c':List AD)(σ':Sg)(s:Str)(k:e.cx=false)(h1:1≤c'.length)(r:List AD)(hr:c=c'++r)(lt:c'.length<c.length)(e':Ex)(k':e'.cx=false)(l:LPU mb W σ c e nw (.ok (.bool true)) (loI (qq c')) (stS W σ' c' [.str s]++exS (qq c') e') (thS c'.length (qq c)) 20):UwR mb W σ c e nw J (.stop c' σ' s)
theorem ex2{e:Ex}(h:e.cx=false):bE e=2:=by unfold bE;rw[h];rfl
theorem ex4{e:Ex}(h:e.cx=true):bE e=4:=by unfold bE;rw[h];rfl
theorem iE{c:List AD}{a:AD}:qq (c++[a])=30+5*c.length:=by
 unfold qq
 rw[List.length_append,List.length_singleton,Nat.mul_add,←Nat.add_assoc,Nat.add_right_comm]
theorem rZ{σ:Sg}{c:List AD}{a:AD}{e:Ex}:(stS W σ (c++[a]) []++exS (qq (c++[a])) e).length=30+5*c.length+bE e:=by
 rw[List.length_append,iC,AY,←iE (a:=a)];rfl
theorem aBo{c:List AD}{e:Ex}(mm:c.length∈m04):(thX (qq c) (bE e)).map (cX (30+5*c.length+bE e) (psU c.length (bE e)))=thX (30+5*c.length) (bE e):=by
 cases z:e.cx with
 |false=>rw[ex2 z];exact VC _ mm
 |true=>rw[ex4 z];exact VB _ mm
theorem yZ{m:Nat}{c:List AD}{σ σ1:Sg}{e e1:Ex}{nw:Bool}{J J1:Nat}{a:AD}{u:UR}(hc:c.length≤4)(hJ:J1+m≤J+(m+1))(hcx:e1.cx=e.cx)(IH:UwR mb W σ1 c e1 nw (J1+m) u)
  (hs:∀{out loc' fin θ D},(∀(i j:Nat),θ[i]?=some (some j)→j<25+5*c.length+bE e)→LPU mb W σ1 c e1 nw out loc' fin θ D →
   LPU mb W σ (c++[a]) e nw out loc' fin (θ.map (cX (stS W σ (c++[a]) []++exS (qq (c++[a])) e).length (psU c.length (bE e)))) (max 20 D)):UwR mb W σ (c++[a]) e nw (J+(m+1)) u:=by
 have mm:=cM hc
 rw[rZ]at hs
 have q25:25≤qq c:=Nat.le_add_right _ _
 have hex:bE e1=bE e:=by unfold bE;rw[hcx]
 cases IH with
 |x σ' e2 h k l =>
  refine .x σ' e2 (h.mono hJ) (k.trans hcx) ?_
  rw[hex]at l
  have:=hs (EH (qq c) (bE e) q25) l
  rw[aBo mm]at this
  rw[iE]
  exact this
 |n σ' e2 h k k' l =>
  have z:e.cx=false:=hcx▸k
  refine .n σ' e2 (h.mono hJ) z k' ?_
  rw[ex2 z]at hs
  have:=hs (QL (qq c) q25) l
  rw[show(thN (qq c)).map (cX (30+5*c.length+2) (psU c.length 2))=thN (30+5*c.length) from ZN _ mm]at this
  rw[iE]
  exact this
 |s c' σ' s k h1 r hr lt e2 k2 l =>
  have z:e.cx=false:=hcx▸k
  refine .s c' σ' s z h1 (r++[a]) (by rw[hr,List.append_assoc]) (by rw[List.length_append];exact Nat.lt_succ_of_lt lt) e2 k2 ?_
  rw[ex2 z]at hs
  have:=hs (QJ _ (qq c) (Nat.add_le_add_left (Nat.mul_le_mul_left 5 (Nat.le_of_lt lt)) 25)) l
  rw[show(thS c'.length (qq c)).map (cX (30+5*c.length+2) (psU c.length 2))=thS c'.length (30+5*c.length) from ZM _ mm _ (cM (Nat.le_trans (Nat.le_of_lt lt) hc)) (Nat.le_of_lt lt)]at this
  rw[iE]
  exact this
theorem ED(B:aE mb):∀(m:Nat)(c:List AD),c.length=m→m≤5→pG c→∀(σ:Sg)(e:Ex)(nw:Bool)(J:Nat),EOK J e→J+m≤6→(nw=true→e.cx=true)→UwR mb W σ c e nw (J+m) (unw c σ e)
 |0,c,hm,_,hc,σ,e,nw,J,he,hJ,hx=>by
  cases List.eq_nil_of_length_eq_zero hm
  rw[KJ]
  refine .x σ e he rfl ?_
  have h:=HG (W:=W) (σ:=σ) (e:=e) (nw:=nw) B hx
  have el:(stS W σ [] []++exS (qq []) e).length=25+bE e:=by rw[List.length_append,iC,AY];rfl
  rw[el]at h
  have et:dP (25+bE e) (List.range (25+bE e))=thX 25 (bE e):=by
   unfold bE
   cases e.cx
   ·exact VE.1
   ·exact VE.2
  rw[et]at h
  exact h
 |m+1,c,hm,hm5,hc,σ,e,nw,J,he,hJ,hx=>by
  rcases List.eq_nil_or_concat c with rfl|⟨c,a,rfl⟩
  ·cases hm
  ·rw[List.concat_eq_append]at *
   have hl:c.length=m:=Nat.succ.inj (List.length_append.symm.trans hm)
   have hl4:c.length≤4:=hl▸Nat.le_of_succ_le_succ hm5
   have hc':pG c:=⟨fun x hx=>hc.bot x (by cases c with|nil=>cases hx|cons y r=>exact hx),fun x hx=>hc.lab x (List.mem_append_left _ hx)⟩
   have IH:=fun e1 nw1 J1=>ED B m c hl (Nat.le_of_succ_le hm5) hc' (σ.back a.bk) e1 nw1 J1
   have hJ0:J+m≤6:=Nat.le_of_succ_le hJ
   have hJ1:J+1+m≤J+(m+1):=Nat.le_of_eq (Nat.add_right_comm J 1 m)
   have hJ5:J≤5:=Nat.le_of_succ_le_succ (Nat.le_trans (Nat.add_le_add_left (Nat.succ_le_succ (Nat.zero_le m)) J) hJ)
   have hlab:=hc.lab a (List.mem_append_right _ (.head _))
   have hbot:=hc.bot a
   rw[mM]
   obtain⟨k,pc,bk,pr,lab⟩:=a
   cases pr with
   |false =>
    rw[if_neg Bool.false_ne_true]
    exact yZ hl4 (Nat.le_succ _) rfl (IH e nw J he hJ0 hx) fun hθ h=>HH B hl4 hx hθ h
   |true =>
    rw[if_pos rfl]
    obtain⟨n,hn,e0⟩:=hlab rfl
    cases(show lab=pS n from e0)
    have hne:1≤c.length:=by
     cases c with
     |nil=>cases hbot rfl
     |cons _ _=>exact Nat.succ_le_succ (Nat.zero_le _)
    have nf:e.cx=false→nw=false:=fun z=>by
     cases nw with
     |false=>rfl
     |true=>rw[hx rfl]at z;cases z
    cases JE B he hJ5 hn with
    |s v h1 h2 h3 =>
     rw[h1]
     cases nf h2
     refine .s c _ v h2 hne [_] rfl (by rw[List.length_append];exact Nat.lt_succ_self _) e h2 ?_
     have:=HE (W:=W) (σ:=σ) (k:=k) (pc:=pc) (bk:=bk) B hne hl4 h2 h3
     rw[rZ,ex2 h2,VD _ (cM hl4)]at this
     rw[iE]
     exact this
    |k e1 h1 h2 h3 h4 h5 =>
     rw[h1]
     exact yZ hl4 hJ1 h3 (IH e1 nw (J+1) h2 (Nat.le_trans hJ1 hJ) (fun z=>h3.trans (hx z))) fun hθ h=>HF B hl4 hx h3 (by
      cases nw with
      |false=>exact h4
      |true=>exact h5 (hx rfl)) hθ h
    |n e1 h1 h2 h3 h3' h4 =>
     rw[h1]
     cases nf h3
     have IH:=IH e1 true (J+1) h2 (Nat.le_trans hJ1 hJ) fun _=>h3'
     show UwR mb W σ _ e false _ (unw c (σ.back bk) e1)
     generalize unw c (σ.back bk) e1=u at IH ⊢
     cases IH with
     |x σ' e2 g1 g3 g4 =>
      refine .n σ' e2 (g1.mono hJ1) h3 (g3.trans h3') ?_
      rw[ex4 h3']at g4
      have:=NA (W:=W) (σ:=σ) (k:=k) (pc:=pc) B hl4 h3 h3' h4 (EH (qq c) 4 (Nat.le_add_right _ _)) g4
      rw[rZ,ex2 h3,show(thX (qq c) 4).map (cX (30+5*c.length+2) (psN c.length))=thN (30+5*c.length) from VA _ (cM hl4)]at this
      rw[iE]
      exact this
     |n _ _ _ g=>rw[h3']at g;cases g
     |s _ _ _ g=>rw[h3']at g;cases g
end
end
section
open PySem.Calls
noncomputable def gA(k:Nat):List SO:=List.replicate k .dead
section
variable{mb:Bt}{W:Wd}{σ σ':Sg}{c:List AD}{e e':Ex}{D:Nat}{s:Str}
noncomputable def WQ(W:Wd)(σ:Sg)(c:List AD)(e:Ex)(out:Except SV SV)(loc':List (Option SV))(fin:List SO)(θ:List (Option Nat))(d:Nat):Pl :=
 .lp iwT iwB (hdI (qq c) false) d (loI (qq c)) (stS W σ c []++exS (qq c) e) (kR (rnV (gTh (stS W σ c []++exS (qq c) e).length θ)) out) (tM (gTh (stS W σ c []++exS (qq c) e).length θ) loc') (iW (stS W σ c []++exS (qq c) e).length θ fin) 344
noncomputable def pE(mb:Bt)(W:Wd)(σ:Sg)(c:List AD)(e:Ex)(out:Except SV SV)(fin:List SO)(D:Nat):Prop :=
 ∀d,D≤d→CallOK (g0 mb) 546 [.ref 20,.ref (qq c)] (some (qq c)) d (stS W σ c []++exS (qq c) e) out fin
noncomputable def unF(mb:Bt)(W:Wd)(σ:Sg)(c:List AD)(e:Ex)(ps:List Pl)(d:Nat):Option (Except SV SV×St):=bH mb [] 100 bN (some (qq c)) [.ref 20,.ref (qq c)] (stS W σ c []++exS (qq c) e) d ps []
noncomputable def unL(mb:Bt)(W:Wd)(σ:Sg)(c:List AD)(e:Ex)(rs:List Nat)(ps:List Pl)(d:Nat):Option FT:=cH wid (List.range (stS W σ c []++exS (qq c) e).length++rs.map ((stS W σ c []++exS (qq c) e).length+·)) [] ps (unF mb W σ c e ps d)
noncomputable def unR(mb:Bt)(W:Wd)(σ:Sg)(c:List AD)(e:Ex)(out:Except SV SV)(fin:List SO)(ps:List Pl)(d:Nat):Option FT:=cG out fin ps (unF mb W σ c e ps d)
theorem mkU(B:aE mb)(rs:List Nat){ps:List Pl}{d:Nat}{out:Except SV SV}{fin:List SO}(h:unL mb W σ c e rs ps d=unR mb W σ c e out fin ps d)(o:∀p∈ps,p.OK mb):CallOK (g0 mb) 546 [.ref 20,.ref (qq c)] (some (qq c)) d (stS W σ c []++exS (qq c) e) out fin :=
 mkR B [] ps [] rs [] (F:=bN) rfl aC h o
section
variable{ec ec':Int}{ev ev':Str}{el er el' er':Int}{ej ej' d:Nat}{x y:AD}
noncomputable def pX(W:Wd)(σ σ':Sg)(c:List AD)(e e':Ex)(θ:List (Option Nat))(d:Nat):List Pl:=[WQ W σ c e (.ok .none) (loI 25) (stS W σ' [] []++exS 25 e') θ d]
noncomputable def pY(W:Wd)(σ σ':Sg)(c r:List AD)(e e':Ex)(s:Str)(d:Nat):List Pl:=[WQ W σ (c++r) e (.ok (.bool true)) (loI (qq c)) (stS W σ' c [.str s]++exS (qq c) e') (thS c.length (qq (c++r))) d]
noncomputable def nwO (W:Wd)(σ':Sg)(c:List AD)(e':Ex):List SO:=stS W σ' [] []++gA (5*c.length)++[.exc 84 (some (qq c+1)) .none true,.dead,.exc 84 (some (qq c+3)) (.ref (qq c)) true,exD e']
set_option maxHeartbeats 4000000 in
theorem QG:∀ c:List AD,c.length≤4→∀ z∈lb,unL mb W σ (x::c) ⟨ec,ev,el,er,ej,z⟩ [] (pX W σ σ' (x::c) ⟨ec,ev,el,er,ej,z⟩ ⟨ec',ev',el',er',ej',z⟩ (thX (qq (x::c)) (bE ⟨ec,ev,el,er,ej,z⟩)) (d+19)) (d+20) =
    unR mb W σ (x::c) ⟨ec,ev,el,er,ej,z⟩ (.error (.ref (qq (x::c)))) (stS W σ' [] []++gA (5*(x::c).length)++exS (qq (x::c)) ⟨ec',ev',el',er',ej',z⟩) (pX W σ σ' (x::c) ⟨ec,ev,el,er,ej,z⟩ ⟨ec',ev',el',er',ej',z⟩ (thX (qq (x::c)) (bE ⟨ec,ev,el,er,ej,z⟩)) (d+19)) (d+20) :=
  le4 (aA (by kernel_rfl)) (fun _=>aA (by kernel_rfl)) (fun _ _=>aA (by kernel_rfl)) (fun _ _ _=>aA (by kernel_rfl)) (fun _ _ _ _=>aA (by kernel_rfl))
set_option maxHeartbeats 4000000 in
theorem UW : ∀ c : List AD, c.length ≤ 4 → unL mb W σ (x :: c) ⟨ec, ev, el, er, ej, false⟩ [0, 1] (pX W σ σ' (x :: c) ⟨ec, ev, el, er, ej, false⟩ ⟨ec', ev', el', er', ej', true⟩ (thN (qq (x :: c))) (d + 19)) (d + 20) =
    unR mb W σ (x :: c) ⟨ec, ev, el, er, ej, false⟩ (.error (.ref (qq (x :: c) + 2))) (nwO W σ' (x :: c) ⟨ec', ev', el', er', ej', true⟩) (pX W σ σ' (x :: c) ⟨ec, ev, el, er, ej, false⟩ ⟨ec', ev', el', er', ej', true⟩ (thN (qq (x :: c))) (d + 19)) (d + 20) :=
  le4 (by kernel_rfl) (fun _ => by kernel_rfl) (fun _ _ => by kernel_rfl) (fun _ _ _ => by kernel_rfl) (fun _ _ _ _ => by kernel_rfl)
set_option maxHeartbeats 4000000 in
theorem QF : ∀ c : List AD, c.length ≤ 4 → ∀ r : List AD, r.length ≤ 4 → c.length + r.length ≤ 3 → unL mb W σ (x :: c ++ y :: r) ⟨ec, ev, el, er, ej, false⟩ [] (pY W σ σ' (x :: c) (y :: r) ⟨ec, ev, el, er, ej, false⟩ ⟨ec', ev', el', er', ej', false⟩ s (d + 19)) (d + 20) =
    unR mb W σ (x :: c ++ y :: r) ⟨ec, ev, el, er, ej, false⟩ (.ok .none) (stS W σ' (x :: c) [.str s] ++ gA (5 * (y :: r).length) ++ exS (qq (x :: c ++ y :: r)) ⟨ec', ev', el', er', ej', false⟩) (pY W σ σ' (x :: c) (y :: r) ⟨ec, ev, el, er, ej, false⟩ ⟨ec', ev', el', er', ej', false⟩ s (d + 19)) (d + 20) :=
  le4 (le4 (fun _ => by kernel_rfl) (fun _ _ => by kernel_rfl) (fun _ _ _ => by kernel_rfl) (fun _ _ _ _ => by kernel_rfl) (fun _ _ _ _ h => absurd (show 4 ≤ 3 from h) (by decide)))
    (fun _ => le4 (fun _ => by kernel_rfl) (fun _ _ => by kernel_rfl) (fun _ _ _ => by kernel_rfl) (fun _ _ _ h => absurd (show 4 ≤ 3 from h) (by decide)) (fun _ _ _ _ h => absurd (show 5 ≤ 3 from h) (by decide)))
    (fun _ _ => le4 (fun _ => by kernel_rfl) (fun _ _ => by kernel_rfl) (fun _ _ h => absurd (show 4 ≤ 3 from h) (by decide)) (fun _ _ _ h => absurd (show 5 ≤ 3 from h) (by decide)) (fun _ _ _ _ h => absurd (show 6 ≤ 3 from h) (by decide)))
    (fun _ _ _ => le4 (fun _ => by kernel_rfl) (fun _ h => absurd (show 4 ≤ 3 from h) (by decide)) (fun _ _ h => absurd (show 5 ≤ 3 from h) (by decide)) (fun _ _ _ h => absurd (show 6 ≤ 3 from h) (by decide)) (fun _ _ _ _ h => absurd (show 7 ≤ 3 from h) (by decide)))
    (fun _ _ _ _ r _ h => absurd (Nat.le_trans (Nat.le_add_right _ _) h) (show ¬ 4 ≤ 3 by decide))
end
theorem KM(B:aE mb)(hc:jV c)(hx:e'.cx=e.cx)(h:LPU mb W σ c e false (.ok .none) (loI 25) (stS W σ' [] []++exS 25 e') (thX (qq c) (bE e)) D) :
  pE mb W σ c e (.error (.ref (qq c))) (stS W σ' [] []++gA (5*c.length)++exS (qq c) e') (max D 20+1):=by
 intro d hd
 obtain⟨d,rfl,hd2⟩:=d20 hd
 obtain⟨ec,ev,el,er,ej,cx⟩:=e
 obtain⟨ec',ev',el',er',ej',cx'⟩:=e'
 cases(show cx'=cx from hx)
 cases c with
 |nil=>exact absurd hc.1 (by decide)
 |cons x c=>exact mkU B [] (QG c (Nat.le_of_succ_le_succ hc.2) cx (nQ cx)) (ok1 (LPg.toLoop h ⟨_,_,.done⟩ hd2))
theorem QE(B:aE mb)(hc:jV c)(hx:e.cx=false)(hx':e'.cx=true)(h:LPU mb W σ c e false (.ok .none) (loI 25) (stS W σ' [] []++exS 25 e') (thN (qq c)) D) :
  pE mb W σ c e (.error (.ref (qq c+2))) (stS W σ' [] []++gA (5*c.length)++[.exc 84 (some (qq c+1)) .none true,.dead,.exc 84 (some (qq c+3)) (.ref (qq c)) true,exD e']) (max D 20+1):=by
 intro d hd
 obtain⟨d,rfl,hd2⟩:=d20 hd
 obtain⟨ec,ev,el,er,ej,cx⟩:=e
 obtain⟨ec',ev',el',er',ej',cx'⟩:=e'
 cases(show cx=false from hx);cases(show cx'=true from hx')
 cases c with
 |nil=>exact absurd hc.1 (by decide)
 |cons x c=>exact mkU B [0,1] (UW c (Nat.le_of_succ_le_succ hc.2)) (ok1 (LPg.toLoop h ⟨_,_,.done⟩ hd2))
theorem KL(B:aE mb){r:List AD}(h1:1≤c.length)(h2:1≤r.length)(h3:c.length+r.length≤5)(hx:e.cx=false)(hx':e'.cx=false)(h:LPU mb W σ (c++r) e false (.ok (.bool true)) (loI (qq c)) (stS W σ' c [.str s]++exS (qq c) e') (thS c.length (qq (c++r))) D) :
  pE mb W σ (c++r) e (.ok .none) (stS W σ' c [.str s]++gA (5*r.length)++exS (qq (c++r)) e') (max D 20+1):=by
 intro d hd
 obtain⟨d,rfl,hd2⟩:=d20 hd
 obtain⟨ec,ev,el,er,ej,cx⟩:=e
 obtain⟨ec',ev',el',er',ej',cx'⟩:=e'
 cases(show cx=false from hx);cases(show cx'=false from hx')
 cases c with
 |nil=>exact absurd h1 (by decide)
 |cons x c=>cases r with
  |nil=>exact absurd h2 (by decide)
  |cons y r =>
   have h3:c.length+r.length≤3:=by
    rw[List.length_cons,List.length_cons]at h3;lia
   exact mkU B [] (QF c (Nat.le_trans (Nat.le_add_right _ _) (Nat.le_succ_of_le h3)) r (Nat.le_trans (Nat.le_add_left _ _) (Nat.le_succ_of_le h3)) h3) (ok1 (LPg.toLoop h ⟨_,_,.ret⟩ hd2))
end
end
section
open PySem.Calls
noncomputable def owT:IE:=(yY bZ.body).1
noncomputable def owB:ISs:=(yY bZ.body).2
noncomputable def loO:List (Option SV):=[some (.ref 20),some (.ref 0)]
noncomputable def MG:Rs→Except SV SV
 |.ok _=>.ok .none
 |.er _=>.error (.ref 25)
noncomputable def DO(W:Wd)(σ:Sg)(r:Rs):List SO:=stS W σ [] []++r.objs 25
noncomputable def thO(r:Rs):List (Option Nat):=(List.range 25).map some++(r.objs 25).map fun _=>none
noncomputable def St3(σ:Sg):Sg:={ σ with stp:=σ.stp+1+1+1 }
noncomputable def St4(σ:Sg):Sg:={ σ with stp:=σ.stp+1+1+1+1 }
noncomputable def LPS(mb:Bt)(W:Wd)(S:List SO)(r:Rs)(τ:Sg)(D:Nat):Prop:=LPg mb owT owB none D loO S (MG r) loO (DO W τ r) (thO r)
noncomputable def yS(ψ:List Nat):Bool:=(List.range 25).all fun i=>decide (ψ[i]?=some i)
theorem BD{ψ:List Nat}(h:yS ψ=true){i:Nat}(hi:i<25):ψ[i]?=some i:=of_decide_eq_true (List.all_eq_true.mp h i (List.mem_range.mpr hi))
theorem KY{ψ:List Nat}{n:Nat}{r:Rs}(h:yS ψ=true)(hn:25≤n):(thO r).map (cX n ψ)=thO r:=by
 unfold thO
 rw[List.map_append,List.map_map,List.map_map]
 congr 1
 refine List.map_congr_left fun i hi=>?_
 have hi:=List.mem_range.mp hi
 show(match ψ[i]? with|some p=>bif Nat.blt p n then some p else none|none=>none)=some i
 rw[BD h hi]
 show(bif Nat.blt i n then some i else none)=some i
 rw[show Nat.blt i n=true from Nat.ble_eq_true_of_le (by lia)];rfl
theorem QK{ψ:List Nat}{r:Rs}(h:yS ψ=true):∀(i j:Nat),(thO r)[i]?=some (some j)→j<ψ.length:=by
 intro i j h'
 have l:24<ψ.length:=(List.getElem?_eq_some_iff.mp (BD h (i:=24) (by exact Nat.le_refl _))).1
 have:=List.mem_of_getElem? h'
 rcases List.mem_append.mp this with h1|h1
 ·obtain⟨x,hx,e⟩:=List.mem_map.mp h1
  cases e;have:=List.mem_range.mp hx;lia
 ·obtain⟨x,hx,e⟩:=List.mem_map.mp h1
  cases e
section
variable{mb:Bt}{W:Wd}{σ σ' σ2 τ:Sg}{c c2:List AD}{e e':Ex}{D D1 D2:Nat}{s s0 v1 n1 v2 n2:Str}{r:Rs}{bk:Option Str}{pr:Bool}{lab:Str}{bd:AD}
noncomputable def psT(m:Nat):List Nat:=List.range (27+5*m)++[33+5*m,28+5*m,29+5*m]
noncomputable def psE(m:Nat):List Nat:=List.range (27+5*m)++[33+5*m,28+5*m,29+5*m,34+5*m,35+5*m,36+5*m,37+5*m,38+5*m]
noncomputable def psF(ex m:Nat):List Nat:=List.range 25++(List.range ex).map (34+5*m+·)
noncomputable def psG(m:Nat):List Nat:=List.range 25++[36+5*m,37+5*m,34+5*m,35+5*m]
noncomputable def psS(m:Nat):List Nat:=List.range (25+5*m)
theorem aCa:∀m∈m04,yS (psT m)=true:=by decide +kernel
theorem aCb:∀m∈m04,yS (psE m)=true:=by decide +kernel
theorem UH:∀m∈m04,yS (psS m)=true:=by decide +kernel
theorem VG:∀m∈m04,dP (30+5*m) (psF 2 m)=(List.range 25).map some++[none,none]:=by decide +kernel
theorem VF:∀m∈m04,dP (30+5*m) (psF 4 m)=(List.range 25).map some++[none,none,none,none]:=by decide +kernel
theorem ZO:∀m∈m04,dP (30+5*m) (psG m)=(List.range 25).map some++[none,none,none,none]:=by decide +kernel
theorem EI{e:Ex}:thO (.er e)=(List.range 25).map some++(List.range (bE e)).map fun _=>none:=by
 unfold thO Rs.objs
 congr 1
 show(exS 25 e).map _=_
 unfold exS bE
 cases e.cx<;>rfl
theorem LPS.turn(B:aE mb)(D0:Nat){cs:List Nat}{k:Nat}{ps:Nat→List Pl}{ψ ks:List Nat}{wk:Nat→SV→SV}{S S2:List SO}(hw:eY wk)(h25:yS ψ=true)(hn:25≤S.length)
  (hR:∀d,D0≤d→tnL wk ψ ks [] none (ps d) (gF mb cs none owT owB k loO S (d+20) (ps d))=tnR 1 none loO S2 none (d+20) (ps d) (gF mb cs none owT owB k loO S (d+20) (ps d)))(O:∀d,D0≤d→∀p∈ps d,p.OK mb)
  (L2:LPS mb W S2 r τ D2):LPS mb W S r τ (max (D0+20) D2):=by
 have:=LPg.turn (ms:=[]) B D0 hw hR O (QK h25) L2
 rw[KY h25 hn]at this
 exact this
theorem LPS.stop(B:aE mb)(D0:Nat){cs:List Nat}{k:Nat}{ps:Nat→List Pl}{ψ ks:List Nat}{wk:Nat→SV→SV}{S:List SO}{tag:Nat}{v:Option SV}(hw:eY wk)(hs:StopR tag v (MG r))(hθ:dP S.length ψ=thO r)
  (hR:∀d,D0≤d→tnL wk ψ ks [] none (ps d) (gF mb cs none owT owB k loO S (d+20) (ps d))=tnR tag v loO (DO W τ r) none (d+20) (ps d) (gF mb cs none owT owB k loO S (d+20) (ps d)))(O:∀d,D0≤d→∀p∈ps d,p.OK mb):LPS mb W S r τ (D0+20):=by
 have:=LPg.stop (ms:=[]) B D0 hw hs hR O
 rw[hθ]at this
 exact this
noncomputable def MA(m:Nat)(W:Wd)(v n:Str)(σ:Sg)(c:List AD)(out:Except SV SV)(fin:List SO)(d:Nat):Pl :=
 .fr 686 [.ref 20,.ref (25+5*m)] none d (stS W σ c []++[.list [.str v,.str n]]) out fin (List.range (22+5*m)++[28+5*m,23+5*m,24+5*m,26+5*m]) [] wid
theorem jN{m:Nat}{W:Wd}{v n:Str}{σ:Sg}{c:List AD}{out:Except SV SV}{fin:List SO}{d:Nat}(h:McOK mb W v n σ c out fin D)(hm:c.length=m)(hd:D≤d):(MA m W v n σ c out fin d).OK mb:=by subst hm;exact⟨h d hd,aC⟩
noncomputable def WM(m:Nat)(W:Wd)(σ:Sg)(c:List AD)(e:Ex)(out:Except SV SV)(fin:List SO)(d:Nat):Pl :=
 .fr 546 [.ref 20,.ref (25+5*m)] (some (25+5*m)) d (stS W σ c []++exS (25+5*m) e) out fin (List.range (22+5*m)++[28+5*m,23+5*m,24+5*m]++(List.range (bE e)).map (29+5*m+·)) [] wid
theorem rG{m:Nat}{W:Wd}{σ:Sg}{c:List AD}{e:Ex}{out:Except SV SV}{fin:List SO}{d:Nat}(h:pE mb W σ c e out fin D)(hm:c.length=m)(hd:D≤d):(WM m W σ c e out fin d).OK mb:=by subst hm;exact⟨h d hd,aC⟩
noncomputable def AD.at(a:AD)(p:Int):AD:=⟨a.k,p,a.bk,a.pr,a.lab⟩
noncomputable def cv(b:Bool)(a:AD):Str:=bif b then a.k.2.1 else a.k.1.1
noncomputable def cn(b:Bool)(a:AD):Str:=bif b then a.k.2.2 else a.k.1.2
noncomputable def a0(b:Bool)(a:AD):AD:=a.at (bif b then 3 else 0)
noncomputable def a1(b:Bool)(a:AD):AD:=a.at (bif b then 7 else 3)
noncomputable def Sx(b:Bool)(σ:Sg):Sg:=bif b then St4 σ else St3 σ
noncomputable def skO(b:Bool)(s0:Str):List SV:=bif b then[.str s0]else[]
noncomputable def arg(b:Bool)(a:AD):List SO:=[SO.list [.str (cv b a),.str (cn b a)]]
noncomputable def up(b:Bool)(c:List AD)(a:AD):List AD:=c++[a1 b a]
noncomputable def erI(ch:List AD):Nat:=26+5*ch.length
noncomputable def Sl0(W:Wd)(σ:Sg)(b:Bool)(c:List AD)(a:AD)(s0:Str):List SO:=stS W σ (c++[a0 b a]) (skO b s0)
noncomputable def loT(mb:Bt)(W:Wd)(σ:Sg)(b:Bool)(c:List AD)(a:AD)(s0:Str)(ps:List Pl)(d:Nat):Option (Except SV (Option Flo)×St):=gF mb [686,546] none owT owB (bif b then 4 else 3) loO (Sl0 W σ b c a s0) (d+20) ps
noncomputable def loL(mb:Bt)(W:Wd)(σ:Sg)(b:Bool)(c:List AD)(a:AD)(s0:Str)(ψ ks:List Nat)(ps:List Pl)(d:Nat):Option TT:=tnL wid ψ ks [] none ps (loT mb W σ b c a s0 ps d)
noncomputable def loR(mb:Bt)(W:Wd)(σ:Sg)(b:Bool)(c:List AD)(a:AD)(s0:Str)(tag:Nat)(v:Option SV)(S2:List SO)(ps:List Pl)(d:Nat):Option TT:=tnR tag v loO S2 none (d+20) ps (loT mb W σ b c a s0 ps d)
noncomputable def lbb:List (Bool×Bool):=[(false,false),(false,true),(true,false),(true,true)]
theorem ND:∀b x:Bool,(b,x)∈lbb:=by decide
noncomputable def pT(W:Wd)(σ σ':Sg)(b:Bool)(c:List AD)(a:AD)(s:Str)(d:Nat):Pl:=MA (c.length+1) W (cv b a) (cn b a) (Sx b σ) (up b c a) (.ok .none) (stS W σ' (up b c a) [.str s]++arg b a) (d+18)
noncomputable def pN(W:Wd)(σ σ':Sg)(b:Bool)(c:List AD)(a bd:AD)(d:Nat):Pl:=MA (c.length+1) W (cv b a) (cn b a) (Sx b σ) (up b c a) (.ok .none) (enS W σ' (up b c a) (cv b a) (cn b a) bd) (d+18)
noncomputable def pF(W:Wd)(σ σ2:Sg)(b:Bool)(c:List AD)(a:AD)(e:Ex)(d:Nat):Pl:=MA (c.length+1) W (cv b a) (cn b a) (Sx b σ) (up b c a) (.error (.ref (erI (up b c a)))) (stS W σ2 (up b c a) []++arg b a++exS (erI (up b c a)) e) (d+18)
noncomputable def uF(W:Wd)(σ':Sg)(ch:List AD)(e':Ex):List SO:=stS W σ' [] []++gA (5*ch.length)++exS (qq ch) e'
noncomputable def uG(W:Wd)(σ':Sg)(ch:List AD)(e':Ex):List SO:=stS W σ' [] []++gA (5*ch.length)++[.exc 84 (some (qq ch+1)) .none true,.dead,.exc 84 (some (qq ch+3)) (.ref (qq ch)) true,exD e']
noncomputable def uS(W:Wd)(σ':Sg)(c2 r:List AD)(ch:List AD)(s:Str)(e':Ex):List SO:=stS W σ' c2 [.str s]++gA (5*r.length)++exS (qq ch) e'
noncomputable def rD(W:Wd)(σ σ2:Sg)(b:Bool)(c:List AD)(a:AD)(e:Ex)(out:Except SV SV)(fin:List SO)(d:Nat):List Pl:=[WM (c.length+1) W σ2 (up b c a) e out fin (d+19),pF W σ σ2 b c a e d]
section
variable{v1 n1 v2 n2:Str}{a:AD}{b:Bool}{pc:Int}{ec ec':Int}{ev ev':Str}{el er el' er':Int}{ej ej' d:Nat}
set_option maxHeartbeats 4000000 in
theorem k_t:∀c:List AD,c.length≤4→∀b∈lb,loL mb W σ b c ⟨((v1,n1),(v2,n2)),pc,bk,pr,lab⟩ s0 (psT c.length) [] [pT W σ σ' b c ⟨((v1,n1),(v2,n2)),pc,bk,pr,lab⟩ s d] d =
  loR mb W σ b c ⟨((v1,n1),(v2,n2)),pc,bk,pr,lab⟩ s0 1 none (stS W σ' (up b c ⟨((v1,n1),(v2,n2)),pc,bk,pr,lab⟩) [.str s]) [pT W σ σ' b c ⟨((v1,n1),(v2,n2)),pc,bk,pr,lab⟩ s d] d :=
 le4 (aA (by kernel_rfl)) (fun _=>aA (by kernel_rfl)) (fun _ _=>aA (by kernel_rfl)) (fun _ _ _=>aA (by kernel_rfl)) (fun _ _ _ _=>aA (by kernel_rfl))
set_option maxHeartbeats 4000000 in
theorem k_n:∀c:List AD,c.length≤4→c.length≤3→∀b∈lb,loL mb W σ b c ⟨((v1,n1),(v2,n2)),pc,bk,pr,lab⟩ s0 (psE c.length) [] [pN W σ σ' b c ⟨((v1,n1),(v2,n2)),pc,bk,pr,lab⟩ bd d] d =
  loR mb W σ b c ⟨((v1,n1),(v2,n2)),pc,bk,pr,lab⟩ s0 1 none (stS W σ' (c++[a1 b ⟨((v1,n1),(v2,n2)),pc,bk,pr,lab⟩,bd]) []) [pN W σ σ' b c ⟨((v1,n1),(v2,n2)),pc,bk,pr,lab⟩ bd d] d :=
 le4 (fun _=>aA (by kernel_rfl)) (fun _ _=>aA (by kernel_rfl)) (fun _ _ _=>aA (by kernel_rfl)) (fun _ _ _ _=>aA (by kernel_rfl)) (fun _ _ _ _ h=>absurd h (Nat.not_succ_le_self 3))
set_option maxHeartbeats 4000000 in
theorem k_f:∀c:List AD,c.length≤4→∀y∈lbb,loL mb W σ y.1 c ⟨((v1,n1),(v2,n2)),pc,bk,pr,lab⟩ s0 (psF (bE ⟨ec',ev',el',er',ej',y.2⟩) c.length) []
   (rD W σ σ2 y.1 c ⟨((v1,n1),(v2,n2)),pc,bk,pr,lab⟩ ⟨ec,ev,el,er,ej,y.2⟩ (.error (.ref (qq (up y.1 c ⟨((v1,n1),(v2,n2)),pc,bk,pr,lab⟩)))) (uF W σ' (up y.1 c ⟨((v1,n1),(v2,n2)),pc,bk,pr,lab⟩) ⟨ec',ev',el',er',ej',y.2⟩) d) d =
  loR mb W σ y.1 c ⟨((v1,n1),(v2,n2)),pc,bk,pr,lab⟩ s0 3 (some (.ref 25)) (DO W σ' (.er ⟨ec',ev',el',er',ej',y.2⟩))
   (rD W σ σ2 y.1 c ⟨((v1,n1),(v2,n2)),pc,bk,pr,lab⟩ ⟨ec,ev,el,er,ej,y.2⟩ (.error (.ref (qq (up y.1 c ⟨((v1,n1),(v2,n2)),pc,bk,pr,lab⟩)))) (uF W σ' (up y.1 c ⟨((v1,n1),(v2,n2)),pc,bk,pr,lab⟩) ⟨ec',ev',el',er',ej',y.2⟩) d) d :=
 le4 (aA (by kernel_rfl)) (fun _=>aA (by kernel_rfl)) (fun _ _=>aA (by kernel_rfl)) (fun _ _ _=>aA (by kernel_rfl)) (fun _ _ _ _=>aA (by kernel_rfl))
set_option maxHeartbeats 4000000 in
theorem k_g:∀c:List AD,c.length≤4→∀b∈lb,loL mb W σ b c ⟨((v1,n1),(v2,n2)),pc,bk,pr,lab⟩ s0 (psG c.length) [28]
   (rD W σ σ2 b c ⟨((v1,n1),(v2,n2)),pc,bk,pr,lab⟩ ⟨ec,ev,el,er,ej,false⟩ (.error (.ref (qq (up b c ⟨((v1,n1),(v2,n2)),pc,bk,pr,lab⟩)+2))) (uG W σ' (up b c ⟨((v1,n1),(v2,n2)),pc,bk,pr,lab⟩) ⟨ec',ev',el',er',ej',true⟩) d) d =
  loR mb W σ b c ⟨((v1,n1),(v2,n2)),pc,bk,pr,lab⟩ s0 3 (some (.ref 25)) (DO W σ' (.er ⟨ec',ev',el',er',ej',true⟩))
   (rD W σ σ2 b c ⟨((v1,n1),(v2,n2)),pc,bk,pr,lab⟩ ⟨ec,ev,el,er,ej,false⟩ (.error (.ref (qq (up b c ⟨((v1,n1),(v2,n2)),pc,bk,pr,lab⟩)+2))) (uG W σ' (up b c ⟨((v1,n1),(v2,n2)),pc,bk,pr,lab⟩) ⟨ec',ev',el',er',ej',true⟩) d) d :=
 le4 (aA (by kernel_rfl)) (fun _=>aA (by kernel_rfl)) (fun _ _=>aA (by kernel_rfl)) (fun _ _ _=>aA (by kernel_rfl)) (fun _ _ _ _=>aA (by kernel_rfl))
set_option maxHeartbeats 4000000 in
theorem k_s:∀c2:List AD,c2.length≤4→1≤c2.length→∀rr:List AD,rr.length≤4→c2.length+rr.length≤4→∀b∈lb,loL mb W σ b (c2++rr) ⟨((v1,n1),(v2,n2)),pc,bk,pr,lab⟩ s0 (psS c2.length) []
   (rD W σ σ2 b (c2++rr) ⟨((v1,n1),(v2,n2)),pc,bk,pr,lab⟩ ⟨ec,ev,el,er,ej,false⟩ (.ok .none) (uS W σ' c2 (up b rr ⟨((v1,n1),(v2,n2)),pc,bk,pr,lab⟩) (up b (c2++rr) ⟨((v1,n1),(v2,n2)),pc,bk,pr,lab⟩) s ⟨ec',ev',el',er',ej',false⟩) d) d =
  loR mb W σ b (c2++rr) ⟨((v1,n1),(v2,n2)),pc,bk,pr,lab⟩ s0 1 none (stS W σ' c2 [.str s])
   (rD W σ σ2 b (c2++rr) ⟨((v1,n1),(v2,n2)),pc,bk,pr,lab⟩ ⟨ec,ev,el,er,ej,false⟩ (.ok .none) (uS W σ' c2 (up b rr ⟨((v1,n1),(v2,n2)),pc,bk,pr,lab⟩) (up b (c2++rr) ⟨((v1,n1),(v2,n2)),pc,bk,pr,lab⟩) s ⟨ec',ev',el',er',ej',false⟩) d) d :=
 le4 (fun h=>absurd h (by decide))
  (fun _ _=>le4 (fun _=>aA (by kernel_rfl)) (fun _ _=>aA (by kernel_rfl)) (fun _ _ _=>aA (by kernel_rfl)) (fun _ _ _ _=>aA (by kernel_rfl)) (fun _ _ _ _ h=>absurd (show 5≤4 from h) (by decide)))
  (fun _ _ _=>le4 (fun _=>aA (by kernel_rfl)) (fun _ _=>aA (by kernel_rfl)) (fun _ _ _=>aA (by kernel_rfl)) (fun _ _ _ h=>absurd (show 5≤4 from h) (by decide)) (fun _ _ _ _ h=>absurd (show 6≤4 from h) (by decide)))
  (fun _ _ _ _=>le4 (fun _=>aA (by kernel_rfl)) (fun _ _=>aA (by kernel_rfl)) (fun _ _ h=>absurd (show 5≤4 from h) (by decide)) (fun _ _ _ h=>absurd (show 6≤4 from h) (by decide)) (fun _ _ _ _ h=>absurd (show 7≤4 from h) (by decide)))
  (fun _ _ _ _ _=>le4 (fun _=>aA (by kernel_rfl)) (fun _ h=>absurd (show 5≤4 from h) (by decide)) (fun _ _ h=>absurd (show 6≤4 from h) (by decide)) (fun _ _ _ h=>absurd (show 7≤4 from h) (by decide)) (fun _ _ _ _ h=>absurd (show 8≤4 from h) (by decide)))
theorem gD(c:List AD):(up b c a).length=c.length+1:=List.length_append
theorem kK(c:List AD):(Sl0 W σ b c a s0).length=25+5*(c.length+1):=by
 unfold Sl0
 rw[iC,List.length_append];rfl
theorem uU{D d:Nat}(h:D - 18≤d):D≤d+18:=Nat.sub_le_iff_le_add.mp h
theorem aAy(b:Bool)(B:aE mb)(hc:c.length≤4)(h:McOK mb W (cv b a) (cn b a) (Sx b σ) (up b c a) (.ok .none) (stS W σ' (up b c a) [.str s]++arg b a) D)(L:LPS mb W (stS W σ' (up b c a) [.str s]) r τ D2):LPS mb W (Sl0 W σ b c a s0) r τ (max (D - 18+20) D2):=by
 obtain⟨⟨⟨v1,n1⟩,v2,n2⟩,pc,bk,pr,lab⟩:=a
 exact LPS.turn (k:=bif b then 4 else 3) (cs:=[686,546]) (ks:=[]) (wk:=wid) (ψ:=psT c.length) (ps:=fun d=>[pT W σ σ' b c ⟨((v1,n1),(v2,n2)),pc,bk,pr,lab⟩ s d]) B (D - 18) aC (aCa _ (cM hc)) (by rw[kK];exact Nat.le_add_right _ _) (fun d _=>by exact k_t c hc b (nQ b)) (fun d hd=>ok1 (jN h (gD c) (uU hd))) L
theorem aBa(b:Bool)(B:aE mb)(hc:c.length≤3)(h:McOK mb W (cv b a) (cn b a) (Sx b σ) (up b c a) (.ok .none) (enS W σ' (up b c a) (cv b a) (cn b a) bd) D)(L:LPS mb W (stS W σ' (up b c a++[bd]) []) r τ D2):LPS mb W (Sl0 W σ b c a s0) r τ (max (D - 18+20) D2):=by
 obtain⟨⟨⟨v1,n1⟩,v2,n2⟩,pc,bk,pr,lab⟩:=a
 rw[up,List.append_assoc]at L
 exact LPS.turn (k:=bif b then 4 else 3) (cs:=[686,546]) (ks:=[]) (wk:=wid) (ψ:=psE c.length) (ps:=fun d=>[pN W σ σ' b c ⟨((v1,n1),(v2,n2)),pc,bk,pr,lab⟩ bd d]) B (D - 18) aC (aCb _ (cM (Nat.le_succ_of_le hc))) (by rw[kK];exact Nat.le_add_right _ _) (fun d _=>by exact k_n c (Nat.le_succ_of_le hc) hc b (nQ b)) (fun d hd=>ok1 (jN h (gD c) (uU hd))) L
theorem aBc(b:Bool)(B:aE mb)(hc:c.length≤4)(hx:e'.cx=e.cx)(h:McOK mb W (cv b a) (cn b a) (Sx b σ) (up b c a) (.error (.ref (erI (up b c a)))) (stS W σ2 (up b c a) []++arg b a++exS (erI (up b c a)) e) D)
  (u:pE mb W σ2 (up b c a) e (.error (.ref (qq (up b c a)))) (uF W σ' (up b c a) e') D):LPS mb W (Sl0 W σ b c a s0) (.er e') σ' (D - 18+20):=by
 obtain⟨⟨⟨v1,n1⟩,v2,n2⟩,pc,bk,pr,lab⟩:=a
 have et:dP (Sl0 W σ b c ⟨((v1,n1),(v2,n2)),pc,bk,pr,lab⟩ s0).length (psF (bE e') c.length)=thO (.er e'):=by
  rw[kK,EI,Nat.mul_succ,←Nat.add_assoc,Nat.add_right_comm]
  unfold bE
  cases e'.cx
  ·exact VG _ (cM hc)
  ·exact VF _ (cM hc)
 obtain⟨ec,ev,el,er,ej,cx⟩:=e
 obtain⟨ec',ev',el',er',ej',cx'⟩:=e'
 cases(show cx'=cx from hx)
 exact LPS.stop (k:=bif b then 4 else 3) (cs:=[686,546]) (ks:=[]) (wk:=wid) (ψ:=psF (bE ⟨ec',ev',el',er',ej',cx⟩) c.length) (tag:=3) (v:=some (.ref 25)) (ps:=fun d=>rD W σ σ2 b c ⟨((v1,n1),(v2,n2)),pc,bk,pr,lab⟩ ⟨ec,ev,el,er,ej,cx⟩ (.error (.ref (qq (up b c ⟨((v1,n1),(v2,n2)),pc,bk,pr,lab⟩)))) (uF W σ' (up b c ⟨((v1,n1),(v2,n2)),pc,bk,pr,lab⟩) ⟨ec',ev',el',er',ej',cx⟩) d) B (D - 18) aC (.err 25) et
  (fun d _=>by exact k_f c hc (b,cx) (ND b cx)) (fun d hd=>ok2 (rG u (gD c) (Nat.le_succ_of_le (uU hd))) (jN h (gD c) (uU hd)))
theorem aBb(b:Bool)(B:aE mb)(hc:c.length≤4)(hx:e.cx=false)(hx':e'.cx=true)(h:McOK mb W (cv b a) (cn b a) (Sx b σ) (up b c a) (.error (.ref (erI (up b c a)))) (stS W σ2 (up b c a) []++arg b a++exS (erI (up b c a)) e) D)
  (u:pE mb W σ2 (up b c a) e (.error (.ref (qq (up b c a)+2))) (uG W σ' (up b c a) e') D):LPS mb W (Sl0 W σ b c a s0) (.er e') σ' (D - 18+20):=by
 obtain⟨⟨⟨v1,n1⟩,v2,n2⟩,pc,bk,pr,lab⟩:=a
 have et:dP (Sl0 W σ b c ⟨((v1,n1),(v2,n2)),pc,bk,pr,lab⟩ s0).length (psG c.length)=thO (.er e'):=by
  rw[kK,EI,Nat.mul_succ,←Nat.add_assoc,Nat.add_right_comm]
  unfold bE
  rw[hx']
  exact ZO _ (cM hc)
 obtain⟨ec,ev,el,er,ej,cx⟩:=e
 obtain⟨ec',ev',el',er',ej',cx'⟩:=e'
 cases(show cx=false from hx);cases(show cx'=true from hx')
 exact LPS.stop (k:=bif b then 4 else 3) (cs:=[686,546]) (ks:=[28]) (wk:=wid) (ψ:=psG c.length) (tag:=3) (v:=some (.ref 25)) (ps:=fun d=>rD W σ σ2 b c ⟨((v1,n1),(v2,n2)),pc,bk,pr,lab⟩ ⟨ec,ev,el,er,ej,false⟩ (.error (.ref (qq (up b c ⟨((v1,n1),(v2,n2)),pc,bk,pr,lab⟩)+2))) (uG W σ' (up b c ⟨((v1,n1),(v2,n2)),pc,bk,pr,lab⟩) ⟨ec',ev',el',er',ej',true⟩) d) B (D - 18) aC (.err 25) et
  (fun d _=>by exact k_g c hc b (nQ b)) (fun d hd=>ok2 (rG u (gD c) (Nat.le_succ_of_le (uU hd))) (jN h (gD c) (uU hd)))
theorem aAz(b:Bool)(B:aE mb){rr:List AD}(hc:(c2++rr).length≤4)(h1:1≤c2.length)(hx:e.cx=false)(hx':e'.cx=false)(h:McOK mb W (cv b a) (cn b a) (Sx b σ) (up b (c2++rr) a) (.error (.ref (erI (up b (c2++rr) a)))) (stS W σ2 (up b (c2++rr) a) []++arg b a++exS (erI (up b (c2++rr) a)) e) D)
  (u:pE mb W σ2 (up b (c2++rr) a) e (.ok .none) (uS W σ' c2 (up b rr a) (up b (c2++rr) a) s e') D)(L:LPS mb W (stS W σ' c2 [.str s]) r τ D2):LPS mb W (Sl0 W σ b (c2++rr) a s0) r τ (max (D - 18+20) D2):=by
 obtain⟨⟨⟨v1,n1⟩,v2,n2⟩,pc,bk,pr,lab⟩:=a
 obtain⟨ec,ev,el,er,ej,cx⟩:=e
 obtain⟨ec',ev',el',er',ej',cx'⟩:=e'
 cases(show cx=false from hx);cases(show cx'=false from hx')
 have hs:c2.length+rr.length≤4:=List.length_append▸hc
 have hc2:=Nat.le_trans (Nat.le_add_right _ _) hs
 exact LPS.turn (k:=bif b then 4 else 3) (cs:=[686,546]) (ks:=[]) (wk:=wid) (ψ:=psS c2.length) (ps:=fun d=>rD W σ σ2 b (c2++rr) ⟨((v1,n1),(v2,n2)),pc,bk,pr,lab⟩ ⟨ec,ev,el,er,ej,false⟩ (.ok .none) (uS W σ' c2 (up b rr ⟨((v1,n1),(v2,n2)),pc,bk,pr,lab⟩) (up b (c2++rr) ⟨((v1,n1),(v2,n2)),pc,bk,pr,lab⟩) s ⟨ec',ev',el',er',ej',false⟩) d) B (D - 18) aC (UH _ (cM hc2)) (by rw[kK];exact Nat.le_add_right _ _)
  (fun d _=>by exact k_s c2 hc2 h1 rr (Nat.le_trans (Nat.le_add_left _ _) hs) hs b (nQ b)) (fun d hd=>ok2 (rG u (gD _) (Nat.le_succ_of_le (uU hd))) (jN h (gD _) (uU hd))) L
end
noncomputable def leT(mb:Bt)(W:Wd)(σ:Sg)(c:List AD)(a:AD)(s:Str)(d:Nat):Option (Except SV (Option Flo)×St):=gF mb [686,546] none owT owB 1 loO (stS W σ (c++[a]) [.str s]) (d+20) []
set_option maxHeartbeats 4000000 in
theorem YC{d:Nat}:∀c:List AD,c.length≤4→1≤c.length→∀s',∀y∈l2 s',tnL wid (psS c.length) [] [] none [] (leT mb W σ c ⟨((v1,n1),(v2,n2)),7,y,pr,lab⟩ s d) =
  tnR 1 none loO (stS W (σ.back y) c [.str s]) none (d+20) [] (leT mb W σ c ⟨((v1,n1),(v2,n2)),7,y,pr,lab⟩ s d) :=
 le4 (fun h=>absurd h (by decide)) (fun _ _ s=>aA (by kernel_rfl)) (fun _ _ _ s=>aA (by kernel_rfl)) (fun _ _ _ _ s=>aA (by kernel_rfl)) (fun _ _ _ _ _ s=>aA (by kernel_rfl))
theorem SM(B:aE mb)(h1:1≤c.length)(hc:c.length≤4)(L:LPS mb W (stS W (σ.back bk) c [.str s]) r τ D2):LPS mb W (stS W σ (c++[⟨((v1,n1),(v2,n2)),7,bk,pr,lab⟩]) [.str s]) r τ (max 20 D2) :=
 LPS.turn (k:=1) (cs:=[686,546]) (ks:=[]) (wk:=wid) (ψ:=psS c.length) (ps:=fun d=>[]) B 0 aC (UH _ (cM hc)) (by rw[iC];exact Nat.le_add_right _ _) (fun d _=>by exact YC c hc h1 (bk.getD "") bk xW) (fun d _ _ h=>nomatch h) L
set_option maxHeartbeats 4000000 in
theorem SN(B:aE mb)(L:LPS mb W (stS W { σ.back bk with txt:=s } [] []) r τ D2):LPS mb W (stS W σ [⟨((v1,n1),(v2,n2)),7,bk,pr,lab⟩] [.str s]) r τ (max 20 D2):=by
 have key:∀d,tnL (wkM 0) (psS 0) [] [] none [] (gF mb [686,546] none owT owB 1 loO (stS W σ [⟨((v1,n1),(v2,n2)),7,bk,pr,lab⟩] [.str s]) (d+20) [])=tnR 1 none loO (stS W { σ.back bk with txt:=s } [] []) none (d+20) [] (gF mb [686,546] none owT owB 1 loO (stS W σ [⟨((v1,n1),(v2,n2)),7,bk,pr,lab⟩] [.str s]) (d+20) []):=by
  intro d
  clear L
  cases bk<;>kernel_rfl
 refine LPS.turn (k:=1) (cs:=[686,546]) (ks:=[]) (wk:=wkM 0) (ψ:=psS 0) (ps:=fun d=>[]) B 0 (bC 0) (UH 0 (cM (by exact Nat.le_add_left _ _))) (by rw[iC];exact Nat.le_add_right _ _) ?_ ?_ L
 ·exact fun d _=>key d
 ·exact fun d _ _ h=>nomatch h
theorem NB(B:aE mb):LPS mb W (stS W σ [] []) (.ok s) σ 20:=by
 have key:∀d,tnL wid (psS 0) [] [] none [] (gF mb [686,546] none owT owB 1 loO (stS W σ [] []) (d+20) [])=tnR 0 none loO (DO W σ (.ok s)) none (d+20) [] (gF mb [686,546] none owT owB 1 loO (stS W σ [] []) (d+20) []):=by
  intro d
  kernel_rfl
 have et:dP (stS W σ [] []).length (psS 0)=thO (.ok s):=by
  rw[iC]
  show dP 25 (psS 0)=(List.range 25).map some++[]
  decide +kernel
 refine LPS.stop (k:=1) (cs:=[686,546]) (ks:=[]) (wk:=wid) (ψ:=psS 0) (tag:=0) (v:=none) (ps:=fun d=>[]) B 0 aC .done et ?_ ?_
 ·exact fun d _=>key d
 ·exact fun d _ _ h=>nomatch h
end
end
section
open PySem.Calls
noncomputable def KK(sc:Scs)(k:Nat):K2:=(encC (sc k).1,encC (sc k).2)
noncomputable def dC(W:Wd)(sc:Scs)(B:List (List SV×SV))(S:List (Str×Bool)):Prop :=
 B.length=S.length∧∀k,k≤4→∀b,((aO (W.tx k),b)∈S→getT B (iZ (W.tx k) b)=some (.fz (cO (KK sc k))))∧((aO (W.tx k),b)∉S→getT B (iZ (W.tx k) b)=none)
theorem mE{a b:Str}(h:a.cps.toList=b.cps.toList):a=b:=by
 obtain⟨a⟩:=a
 obtain⟨b⟩:=b
 exact congrArg Str.mk (Array.toList_inj.mp h)
theorem mL(v:Vb):v.str.cps.toList.length=1:=by cases v<;>rfl
theorem rL(n:Nat):(aY n).cps.toList.length=1:=by unfold aY;split<;>rfl
theorem mO (x y:Str×Str):(aO [x,y]).cps.toList=x.1.cps.toList++32::(x.2.cps.toList++59::(y.1.cps.toList++32::y.2.cps.toList)):=by
 show (pieceOf x++BR++pieceOf y).cps.toList=_
 rw [mJ,mJ,lD,lD]
 simp [BR]
theorem KP {a b a' b':Cmd}(h:aO [encC a,encC b]=aO [encC a',encC b']):encC a=encC a'∧encC b=encC b':=by
 have h:=congrArg (fun s:Str=>s.cps.toList) h
 simp only [mO] at h
 obtain ⟨h1,h⟩:=List.append_inj h (by show (Vb.str _).cps.toList.length=(Vb.str _).cps.toList.length;rw [mL,mL])
 have h:=(List.cons.inj h).2
 obtain ⟨h2,h⟩:=List.append_inj h (by show (aY _).cps.toList.length=(aY _).cps.toList.length;rw [rL,rL])
 have h:=(List.cons.inj h).2
 obtain ⟨h3,h⟩:=List.append_inj h (by show (Vb.str _).cps.toList.length=(Vb.str _).cps.toList.length;rw [mL,mL])
 have h4:=(List.cons.inj h).2
 exact ⟨Prod.ext (mE h1) (mE h2),Prod.ext (mE h3) (mE h4)⟩
theorem vN{B:List (List SV×SV)}{kk:List SV}{v:SV}{k:List (Str⊕Bool)}:getT (B++[(kk,v)]) k=match getT B k with|some x=>some x|none=>bif decide (iS kk=some k)then some v else none:=by
 induction B with
 |nil=>rfl
 |cons x r ih =>
  obtain⟨a,c⟩:=x
  show(bif decide (iS a=some k)then some c else getT (r++[(kk,v)]) k)=match(bif decide (iS a=some k)then some c else getT r k)with|some x=>some x|none=>_
  cases decide (iS a=some k)with
  |true=>rfl
  |false=>exact ih
theorem HN(l:List (Str×Str))(b:Bool):iS [.txt l,.bool b,.str "::"]=some (iZ l b):=rfl
theorem HO{l l':List (Str×Str)}{b b':Bool}(h:iZ l b=iZ l' b'):aO l=aO l'∧b=b':=by
 have h1:=(List.cons.inj h).1
 have h2:=(List.cons.inj (List.cons.inj h).2).1
 exact⟨Sum.inl.inj h1,Sum.inr.inj h2⟩
section
variable{W:Wd}{sc:Scs}{B:List (List SV×SV)}{S:List (Str×Bool)}
theorem DX(O:WOK W sc)(h:dC W sc B S){n:Nat}(hn:n≤4){b:Bool}(hS:(aO (W.tx n),b)∉S):dC W sc (B++[([.txt (W.tx n),.bool b,.str "::"],.fz (cO (KK sc n)))]) (S++[(aO (W.tx n),b)]):=by
 refine⟨by simp[h.1],fun k hk b'=>⟨fun hm=>?_,fun hm=>?_⟩⟩
 ·rw[vN]
  by_cases hS':(aO (W.tx k),b')∈S
  ·rw[(h.2 k hk b').1 hS']
  ·rw[(h.2 k hk b').2 hS']
   have e:=(List.mem_append.mp hm).resolve_left hS'
   rw[List.mem_singleton]at e
   have e1:=congrArg Prod.fst e
   have e2:=congrArg Prod.snd e
   simp only at e1 e2
   have ek:iZ (W.tx n) b=iZ (W.tx k) b':=by unfold iZ;rw[e1,e2]
   rw[HN,ek]
   simp only[decide_true,cond_true]
   rw[O.tx k hk,O.tx n hn]at e1
   obtain⟨x1,x2⟩:=KP e1
   have:KK sc n=KK sc k:=Prod.ext x1.symm x2.symm
   rw[this]
 ·have h1:(aO (W.tx k),b')∉S:=fun z=>hm (List.mem_append_left _ z)
  rw[vN,(h.2 k hk b').2 h1,HN]
  have:¬(some (iZ (W.tx n) b)=some (iZ (W.tx k) b')):=fun z=>by
   obtain⟨e1,e2⟩:=HO (Option.some.inj z)
   exact hm (List.mem_append_right _ (by rw[e1,e2];exact List.mem_singleton.mpr rfl))
  simp only[this,decide_false,cond_false]
theorem kP(hl:W.lim=40):∀(f k:Nat)(fr:Str)(d1 d2:Int)(fast:Bool)(s:PS),d1+f≤40→d2+f≤40→rule W sc f k fr d1 fast s=rule W sc f k fr d2 fast s
 |0,_,_,_,_,_,_,_,_=>rfl
 |f+1,k,fr,d1,d2,fast,s,h1,h2=>by
  have ih:=kP hl f
  have hd:∀(c:Cmd)(s:PS),doC W (rule W sc f) c fr d1 fast s=doC W (rule W sc f) c fr d2 fast s:=by
   rintro⟨v,n⟩ s
   cases v with
   |d=>exact ih _ _ _ _ _ _ (by lia) (by lia)
   |m=>exact ih _ _ _ _ _ _ (by lia) (by lia)
   |n =>
    show(if d1+1>W.lim then _ else _)=(if d2+1>W.lim then _ else _)
    rw[if_neg (show ¬(d1+1>W.lim)by rw[hl];lia),if_neg (show ¬(d2+1>W.lim)by rw[hl];lia)]
    simp only[ih _ _ (d1+1) (d2+1) _ _ (show d1+1+(f:Int)≤40 by lia) (show d2+1+(f:Int)≤40 by lia)]
   |_=>rfl
  rw[wO,wO,hd,hd]
end
theorem qJ{J:Nat}{e:Ex}(he:EOK J e):toldOf (mC e)=aX (toldOf (.er e))∧RsOK (J+1) (mC e):=by
 cases he with
 |c2 v le re hv hl hr =>
  simp only[List.mem_cons,List.not_mem_nil,or_false]at hl
  rcases hl with rfl|rfl|rfl|rfl
  ·simp only[List.mem_cons,List.not_mem_nil,or_false]at hr
   rcases hr with rfl|rfl|rfl|rfl|rfl
   ·exact⟨rfl,trivial⟩
   ·exact⟨rfl,.c1 v hv⟩
   ·exact⟨rfl,.c34 v 3 hv (by decide)⟩
   ·exact⟨rfl,.c34 v 4 hv (by decide)⟩
   ·exact⟨rfl,.co v 5 hv (by decide)⟩
  ·exact⟨rfl,.c2 v 1 re hv (by decide) hr⟩
  ·exact⟨rfl,.c2 v 2 re hv (by decide) hr⟩
  ·exact⟨rfl,.c2 v 3 re hv (by decide) hr⟩
 |c34 v c hv hc =>
  simp only[List.mem_cons,List.not_mem_nil,or_false]at hc
  rcases hc with rfl|rfl
  ·exact⟨rfl,.cj _ 0 true (Nat.succ_pos _)⟩
  ·exact⟨rfl,.cj _ 0 true (Nat.succ_pos _)⟩
 |co v c hv hc =>
  simp only[List.mem_cons,List.not_mem_nil,or_false]at hc
  rcases hc with rfl|rfl|rfl|rfl
  ·exact⟨rfl,.co v 5 hv (by decide)⟩
  ·exact⟨rfl,.co v 6 hv (by decide)⟩
  ·exact⟨rfl,.co v (-1) hv (by decide)⟩
  ·exact⟨rfl,.co v 2001 hv (by decide)⟩
 |c1 v hv=>exact⟨rfl,.cj v 0 false (Nat.succ_pos _)⟩
 |cj v j cx hj=>exact⟨rfl,.cj v (j+1) cx (Nat.succ_lt_succ hj)⟩
end
section
open PySem.Calls
section
variable(mb:Bt)(W:Wd)(rr:Rs)(τ:Sg)(DL:Nat)
noncomputable def FE:UR→Prop
 |.exit σ e=>rr = .er e∧τ=σ
 |.stop c σ s=>LPS mb W (stS W σ c [.str s]) rr τ DL
noncomputable def FIN(ch:List AD)(r:Rs)(σ:Sg):Prop:=match r with
 |.ok s=>LPS mb W (stS W σ ch [.str s]) rr τ DL
 |.er e=>FE mb W rr τ DL (unw ch σ e)
structure qO(v n:Str)(σ:Sg)(ch:List AD)(S:List SO):Prop where
 tt:∀{σ' s},McOK mb W v n σ ch (.ok .none) (stS W σ' ch [.str s]++[SO.list [.str v,.str n]]) (DL - 2)→LPS mb W (stS W σ' ch [.str s]) rr τ DL→LPS mb W S rr τ DL
 nn:∀{σ' bd},ch.length≤4→McOK mb W v n σ ch (.ok .none) (enS W σ' ch v n bd) (DL - 2)→LPS mb W (stS W σ' (ch++[bd]) []) rr τ DL→LPS mb W S rr τ DL
 ee:∀{σ2 e J},McOK mb W v n σ ch (.error (.ref (26+5*ch.length))) (stS W σ2 ch []++[SO.list [.str v,.str n]]++exS (26+5*ch.length) e) (DL - 2)→EOK J e→J+ch.length≤6→FE mb W rr τ DL (unw ch σ2 e)→LPS mb W S rr τ DL
end
section
variable{mb:Bt}{W:Wd}{sc:Scs}{rr:Rs}{τ:Sg}{σ:Sg}{c:List AD}{v1 n1 v2 n2:Str}{bk:Option Str}{pr:Bool}{lab s0:Str}{DL:Nat}
theorem McOK.le{v n:Str}{ch:List AD}{out:Except SV SV}{fin:List SO}{D D':Nat}(h:McOK mb W v n σ ch out fin D)(l:D≤D'):McOK mb W v n σ ch out fin D':=fun d hd=>h d (by lia)
theorem pE.le{e:Ex}{ch:List AD}{out:Except SV SV}{fin:List SO}{D D':Nat}(h:pE mb W σ ch e out fin D)(l:D≤D'):pE mb W σ ch e out fin D':=fun d hd=>h d (by lia)
theorem LPS.le{S:List SO}{D D':Nat}(h:LPS mb W S rr τ D)(l:D≤D'):LPS mb W S rr τ D':=fun c gs ρ st s a b d e f g=>h c gs ρ st s a b d e f (Nat.le_trans l g)
theorem JY(c:List AD)(a:AD):(c++[a]).length=c.length+1:=by simp
theorem wK {c c' r:List AD}{a:AD}(h:c++[a]=c'++r)(l:c'.length<(c++[a]).length):∃ rr,c=c'++rr∧r=rr++[a]:=by
 have hr:r≠[]:=by
  intro z;subst z;rw [List.append_nil] at h;rw [h] at l;exact Nat.lt_irrefl _ l
 obtain ⟨rr,x,rfl⟩:∃ rr x,r=rr++[x]:=⟨r.dropLast,r.getLast hr,(List.dropLast_concat_getLast hr).symm⟩
 rw [← List.append_assoc] at h
 obtain ⟨h1,h2⟩:=List.append_inj' h rfl
 cases h2
 exact ⟨rr,h1,rfl⟩
theorem zB (b:Bool)(B:aE mb)(hD:25≤DL)(hc:c.length≤4){a:AD}(ok:pG (up b c a)):qO mb W rr τ DL (cv b a) (cn b a) (Sx b σ) (up b c a) (Sl0 W σ b c a s0):=by
 have l:∀ {D},D≤DL - 2→D - 18+20≤DL:=fun {D} h=>Nat.le_trans (Nat.add_le_add_right (Nat.sub_le_sub_right h 18) 20) (by obtain ⟨x,rfl⟩:=bF (n:=25) hD;exact Nat.add_le_add_left (by decide:25≤25) x)
 have l2:∀ {S:List SO}{r:Rs}{τ:Sg},LPS mb W S r τ (max (DL - 2 - 18+20) DL)→LPS mb W S r τ DL:=fun h=>h.le (Nat.max_le.mpr ⟨l (Nat.le_refl _),Nat.le_refl _⟩)
 have hl:(up b c a).length=c.length+1:=gD c
 refine ⟨fun h L=>l2 (aAy b B hc h L),fun hl' h L=>l2 (aBa b B (Nat.le_of_succ_le_succ (hl▸hl':c.length+1≤3+1)) h L),fun {σ2 e J} h he hJ hF=>?_⟩
 have U:=ED (W:=W) B _ _ rfl (hl▸Nat.succ_le_succ hc) ok σ2 e false J he hJ (fun z=>nomatch z)
 have lok:jV (up b c a):=⟨hl▸Nat.succ_le_succ (Nat.zero_le _),hl▸Nat.succ_le_succ hc⟩
 have l4:max 20 20+1≤DL - 2:=Nat.le_sub_of_add_le (Nat.le_trans (by decide) hD)
 have l3:20≤DL - 2:=sl l4
 generalize unw (up b c a) σ2 e=u at U hF
 cases U with
 | x σ' e' _ hx hU =>
  obtain ⟨rfl,rfl⟩:=hF
  exact (aBc b B hc hx h ((KM B lok hx hU).le l4)).le (l (Nat.le_refl _))
 | n σ' e' _ hx hx' hU =>
  obtain ⟨rfl,rfl⟩:=hF
  exact (aBb b B hc hx hx' h ((QE B lok hx hx' hU).le l4)).le (l (Nat.le_refl _))
 | s c' σ' s hx h1 r hr hlt e2 hx2 hU =>
  obtain ⟨rr',rfl,rfl⟩:=wK hr hlt
  have hN:=KL (r:=rr'++[a1 b a]) B h1 (by rw [List.length_append];exact Nat.succ_le_succ (Nat.zero_le _)) (by rw [JY];rw [List.length_append] at hc;lia) hx hx2 (by rw [← List.append_assoc];exact hU)
  rw [← List.append_assoc] at hN
  exact l2 (aAz b B hc h1 hx hx2 h (hN.le l4) hF)
theorem LD(B:aE mb)(hD:25≤DL)(hc:c.length≤4)(ok:pG (c++[⟨((v1,n1),(v2,n2)),3,bk,pr,lab⟩])) :
  qO mb W rr τ DL v1 n1 (St3 σ) (c++[⟨((v1,n1),(v2,n2)),3,bk,pr,lab⟩]) (stS W σ (c++[⟨((v1,n1),(v2,n2)),0,bk,pr,lab⟩]) []):=zB false (a:=⟨((v1,n1),(v2,n2)),0,bk,pr,lab⟩) (s0:="") B hD hc ok
theorem LC(B:aE mb)(hD:25≤DL)(hc:c.length≤4)(ok:pG (c++[⟨((v1,n1),(v2,n2)),7,bk,pr,lab⟩])) :
  qO mb W rr τ DL v2 n2 (St4 σ) (c++[⟨((v1,n1),(v2,n2)),7,bk,pr,lab⟩]) (stS W σ (c++[⟨((v1,n1),(v2,n2)),3,bk,pr,lab⟩]) [.str s0]):=zB true (a:=⟨((v1,n1),(v2,n2)),3,bk,pr,lab⟩) B hD hc ok
noncomputable def YR(pr:Bool):Rs→Rs
 |.ok s=>.ok s
 |.er e=>bif pr then mC e else .er e
theorem IX(B:aE mb)(hD:25≤DL){ch:List AD}{K:K2}{r:Rs}(h1:1≤ch.length)(hc:ch.length≤4)(h:FIN mb W rr τ DL ch (YR pr r) (σ.back bk)):FIN mb W rr τ DL (ch++[⟨K,7,bk,pr,lab⟩]) r σ:=by
 obtain⟨⟨v1,n1⟩,v2,n2⟩:=K
 cases r with
 |ok s =>
  have h:LPS mb W (stS W (σ.back bk) ch [.str s]) rr τ DL:=by cases pr<;>exact h
  exact(SM B h1 hc h).le (by lia)
 |er e =>
  show FE mb W rr τ DL (unw _ σ e)
  rw[mM]
  cases pr with
  |false=>exact h
  |true =>
   rw[if_pos rfl]
   have h:FIN mb W rr τ DL ch (mC e) (σ.back bk):=h
   show FE mb W rr τ DL (match mC e with | .ok s=>_ | .er e'=>_)
   cases q:mC e with
   |ok s=>rw[q]at h;exact h
   |er e'=>rw[q]at h;exact h
theorem NY(B:aE mb)(hD:25≤DL){K:K2}{r:Rs}:FIN mb W r (match r with | .ok s=>{ σ.back bk with txt:=s } | .er _=>σ.back bk) DL [⟨K,7,bk,false,lab⟩] r σ:=by
 obtain⟨⟨v1,n1⟩,v2,n2⟩:=K
 cases r with
 |ok s=>exact(SN B (NB (s:=s) B)).le (by lia)
 |er e=>exact⟨rfl,rfl⟩
end
end
section
open PySem.Calls
noncomputable def oQ(W:Wd)(deep:Int)(m f:Nat):Prop:=(W.lim=40∧deep+f≤40)∨(W.lim∈[(2:Int),3,4,5]∧deep=m∧deep≤W.lim)
theorem RL{m:Nat}(h1:1≤m)(h2:m≤4):(40:Int)∈hG m :=
 have q:∀m∈List.range 5,1≤m→(40:Int)∈hG m:=by decide
 q m (List.mem_range.mpr (Nat.lt_succ_of_le h2)) h1
theorem ME{m:Nat}{l:Int}(h1:1≤m)(h2:m≤4)(hl:l∈[(2:Int),3,4,5])(h:¬((m:Int)+1>l)):l∈hG m :=
 have q:∀m∈List.range 5,1≤m→∀l∈[(2:Int),3,4,5],¬((m:Int)+1>l)→l∈hG m:=by decide
 q m (List.mem_range.mpr (Nat.lt_succ_of_le h2)) h1 l hl h
theorem UN{m:Nat}{l:Int}(hl:l∈[(2:Int),3,4,5])(h:(m:Int)=l):l∈ats m:=by
 subst h
 have q:∀l∈[(2:Int),3,4,5],l∈ats l.toNat:=by decide
 exact q _ hl
section
variable(mb:Bt)(W:Wd)(sc:Scs)
inductive SgR(σ:Sg)(f:Nat)(q:Told×PS)(ch ch0:List AD):Prop
 |mk(r:Rs)(σ':Sg)(P:qP true (dC W sc) σ f q r σ')(F:∀rr τ DL,60+20*f≤DL→FIN mb W rr τ DL ch r σ'→LPS mb W (stS W σ ch0 []) rr τ DL)
noncomputable def Seg(f:Nat):Prop:=∀k,k≤4→5≤f+k→∀c bk pr lab,pG (c++[⟨KK sc k,0,bk,pr,lab⟩])→c.length+f≤5→∀σ s deep,Rel true (dC W sc) σ s→σ.dp≤(k:Int)+1→(σ.dp,W.lim)∈okP→oQ W deep (c.length+1) f→eU s (gr f) →
 SgR mb W sc σ f (rule W sc f k σ.fr deep true s) (c++[⟨KK sc k,7,bk,pr,lab⟩]) (c++[⟨KK sc k,0,bk,pr,lab⟩])
end
section
variable{mb:Bt}{W:Wd}{sc:Scs}
theorem FX:∀x∈okP,x.1≤5:=by decide
theorem q80{D f k DL:Nat}(h:80+20*f≤DL)(g:D≤72+20*f)(hk:k≤6:=by decide):max D 20+k≤DL - 2 :=
 Nat.le_sub_of_add_le (Nat.le_trans (Nat.add_le_add_right (mx (Nat.add_le_add g hk) (Nat.add_le_add (c74 (show 20≤72 by decide)) hk)) 2) (lf (a:=72) (k:=8) h (by decide)))
theorem UD{x:Int}{f:Nat}(h:x+((f+1:Nat):Int)≤40):x+1+(f:Int)≤40:=by lia
inductive CmM(mb:Bt)(W:Wd)(sc:Scs)(σ:Sg)(f:Nat)(ch:List AD)(v n:Str)(q:Told×PS):Prop
 |mk(r:Rs)(σ':Sg)(P:qP true (dC W sc) σ (f+1) q r σ')(h:∀rr τ DL,80+20*f≤DL→∀S,qO mb W rr τ DL v n σ ch S→FIN mb W rr τ DL ch r σ'→LPS mb W S rr τ DL)
theorem DW(B:aE mb)(O:WOK W sc){σ:Sg}{s:PS}{g n:Nat}(R:Rel true (dC W sc) σ s)(R1:Rel true (dC W sc) (σ.nested n (W.sh n).2) (s.lg "n" n σ.fr))(hr:eU s (1+g))(h2:n≤4) :
  ∃σ2,tC mb W (W.tx n) (W.sh n).1 (σ.nested n (W.sh n).2) (KK sc n) σ2 20∧Rel true (dC W sc) σ2 (nPS W s n σ.fr true)∧σ2.fr=(bif (W.sh n).2 then fS n else σ.fr)∧σ2.dp=σ.dp:=by
 have bR:=R.B rfl
 unfold nPS
 by_cases hS:(aO (W.tx n),(W.sh n).1)∈s.S
 ·rw[if_neg (fun z=>z.2 hS)]
  exact⟨_,JT B (W.sh n).1 ((bR.2 n h2 _).1 hS),R1,rfl,rfl⟩
 ·rw[if_pos ⟨rfl,hS⟩]
  have etx:W.tx n=[((sc n).1.1.str,aY (sc n).1.2),((sc n).2.1.str,aY (sc n).2.2)]:=O.tx n h2
  have hc:=JU (W:=W) (σ:=σ.nested n (W.sh n).2) (v1:=(sc n).1.1.str) (n1:=aY (sc n).1.2) (v2:=(sc n).2.1.str) (n2:=aY (sc n).2.2) B (W.sh n).1 (by show σ.M.length≤_;rw[R.M rfl];exact sl hr.M) (by show σ.B.length≤_;rw[bR.1];exact Nat.le_trans (sl hr.S) (by decide)) (etx▸(bR.2 n h2 (W.sh n).1).2 hS)
  exact⟨(σ.nested n (W.sh n).2).book (W.tx n) (W.sh n).1 (cO (KK sc n)),by rw[etx];exact hc,⟨R1.L,fun _=>(show σ.M++_=s.M++_ by rw[R.M rfl];rfl),fun _=>DX O bR h2 hS⟩,rfl,rfl⟩
theorem FK{ch:List AD}(ok:pG ch)(l1:1≤ch.length){n:Nat}(hn:n∈n4){k:K2}{bo:Option Str}{pr:Bool}:pG (ch++[⟨k,0,bo,pr,pS n⟩]):=by
 refine⟨fun a ha=>ok.bot a ?_,fun a ha hp=>?_⟩
 ·cases ch with
  |nil=>exact absurd l1 (by decide)
  |cons x r=>exact ha
 ·rcases List.mem_append.mp ha with h|h
  ·exact ok.lab a h hp
  ·rw[List.mem_singleton]at h
   subst h
   exact⟨n,hn,rfl⟩
theorem ZB(B:aE mb)(O:WOK W sc){f:Nat}(hf:f≤4)(IS:Seg mb W sc f)(IR:W.lim=40→jF mb true (dC W sc) W sc (· = false) f)(IM:W.lim=40→OQ mb true (dC W sc) W sc (· = false) f)
  {k:Nat}(hk:5≤f+1+k){σ:Sg}{s:PS}{deep:Int}{ch:List AD}(ok:pG ch)(l1:1≤ch.length)(l2:ch.length+f≤5)(R:Rel true (dC W sc) σ s)(hd:σ.dp≤(k:Int)+1)(hl:(σ.dp,W.lim)∈okP)(hdp:oQ W deep ch.length (f+1))(hr:eU s (1+gr f))(c:Cmd)(hc:c.WF W k) :
  CmM mb W sc σ f ch c.1.str (aY c.2) (doC W (rule W sc f) c σ.fr deep true s):=by
 obtain⟨v,n⟩:=c
 have hL:σ.L.length≤100000:=by rw[R.L];exact sl hr.L
 have l5:ch.length≤5:=sl l2
 have lok:jV ch:=⟨l1,l5⟩
 have l6:0+ch.length≤6:=Nat.le_trans (Nat.le_of_eq (Nat.zero_add _)) (Nat.le_succ_of_le l5)
 have done:∀{v:Str}{J:Nat}{r:Rs}{σ':Sg}{D:Nat},cK mb true W v (aY n) σ (r.out (cN true+1)) (r.objs (cN true+1)) σ' D→D≤72+20*f→RsOK J r→J+ch.length≤6→∀rr τ DL,80+20*f≤DL→∀S,qO mb W rr τ DL v (aY n) σ ch S→FIN mb W rr τ DL ch r σ'→LPS mb W S rr τ DL:=by
  intro v J r σ' D hB hDl hJ hJl rr τ DL hDL S st hF
  cases r with
  |ok s=>exact st.tt ((aAn B lok hB).le (q80 hDL hDl)) hF
  |er e=>exact st.ee ((aAr B lok hB).le (q80 hDL hDl)) hJ hJl hF
 have j6:f+ch.length≤6:=Nat.le_trans (Nat.le_of_eq (Nat.add_comm _ _)) (Nat.le_succ_of_le l2)
 have d40:W.lim=40→σ.dp+1+(f:Int)≤40∧deep+(f+1:Nat)≤40:=fun h3=>⟨by have h5:σ.dp≤5:=FX _ hl;lia,by
  rcases hdp with h|h
  ·exact h.2
  ·have:=h.1;rw[h3]at this;exact absurd this (by decide)⟩
 cases v with
 |t=>exact .mk (.ok (vS n)) (σ.logged "t" n) ⟨rfl,trivial,R.lg _ _ rfl,rfl,rfl,fun _=>rfl⟩ (done (J:=0) (r:=.ok (vS n)) (PV B true hL hc) (c74 (by decide)) trivial l6)
 |x=>exact .mk (.er exX) σ ⟨rfl,.c1 _ (by decide),R,rfl,rfl,fun _=>rfl⟩ (done (J:=0) (r:=.er exX) (PU B true hc) (c74 (by decide)) (.c1 _ (by decide)) l6)
 |p=>exact .mk (.er exP) (σ.logged "p" n) ⟨rfl,.c1 _ (by decide),R.lg _ _ rfl,rfl,rfl,fun _=>rfl⟩ fun rr τ DL hDL S st hF=>st.ee (J:=0) ((aAo B lok (PW B true hL hc)).le (q80 hDL (c74 (by decide)))) (.c1 _ (by decide)) l6 hF
 |f=>exact .mk (.er (W.exF n)) (σ.logged "f" n) ⟨rfl,(O.fa n hc).mono (Nat.zero_le _),R.lg _ _ rfl,rfl,rfl,fun _=>rfl⟩ (done (J:=0) (r:=.er (W.exF n)) (PX B true hL hc) (c74 (by decide)) (O.fa n hc) l6)
 |d =>
  obtain⟨h1,h2,h3⟩:=hc
  obtain⟨x1,x2⟩:=d40 h3
  obtain⟨r,σ',P,hR⟩:=IR h3 n h2 (fk5 hk h1) (σ.logged "d" n) (s.lg "d" n σ.fr) false rfl (R.lg _ _ rfl) (wC hd h1) hl (hr.le (s.le_lg _ _ _))
  have e:doC W (rule W sc f) (.d,n) σ.fr deep true s=rule W sc f n (σ.logged "d" n).fr ((σ.logged "d" n).dp+1) false (s.lg "d" n σ.fr):=kP h3 f n _ _ _ _ _ (UD x2) x1
  show CmM mb W sc σ f ch "d" _ _
  rw[e]
  exact .mk r σ' ⟨P.told,P.ok.mono (Nat.le_succ _),P.rel,P.fr,P.dp,P.M⟩ (done (BK B hL n (gJ h1 h2) hR) (by rw[Nat.add_right_comm];exact Nat.add_le_add_right (by decide) _) P.ok j6)
 |m =>
  obtain⟨h1,h2,h3⟩:=hc
  obtain⟨x1,x2⟩:=d40 h3
  obtain⟨r,σ',P,hR⟩:=IM h3 n (Nat.le_trans (Nat.succ_le_succ (Nat.zero_le k)) h1) h2 (fk5 hk h1) σ s false rfl R (wC hd h1) hl hr
  have e:doC W (rule W sc f) (.m,n) σ.fr deep true s=doC W (rule W sc f) (.m,n) σ.fr σ.dp false s:=kP h3 f n _ _ _ _ _ (UD x2) x1
  show CmM mb W sc σ f ch "m" _ _
  rw[e]
  exact .mk r σ' ⟨P.told,P.ok.mono (Nat.le_succ _),P.rel,P.fr,P.dp,P.M⟩ (done hR (Nat.le_refl _) P.ok j6)
 |n =>
  obtain⟨h1,h2⟩:=hc
  have hn:=gJ h1 h2
  have hB:=BJ (b:=true) (W:=W) B hL n hn
  have f1:1≤f:=Nat.le_of_add_le_add_left (a:=4) (Nat.le_trans (fk5 hk h1) (Nat.le_trans (Nat.add_le_add_left h2 f) (Nat.le_of_eq (Nat.add_comm f 4))))
  have l4:ch.length≤4:=Nat.le_of_add_le_add_right (Nat.le_trans (Nat.add_le_add_left f1 _) l2)
  have R1:=R.lg "n" n (fr:=σ.fr) rfl
  have R1:Rel true (dC W sc) (σ.nested n (W.sh n).2) (s.lg "n" n σ.fr):=⟨R1.L,R1.M,R1.B⟩
  show CmM mb W sc σ f ch "n" _ _
  by_cases hlim:deep+1>W.lim
  ·
   have hat:W.lim∈ats ch.length:=by
    rcases hdp with h|⟨ha,hb,hc⟩
    ·exact(xl hlim h.1 h.2).elim
    ·exact UN ha (hb▸Int.le_antisymm hc (Int.le_of_lt_add_one hlim))
   have K:=BH (W:=W) (τ:=σ.nested n (W.sh n).2) (n:=n) (fr:=σ.fr) rfl
   rw[sU hlim]
   exact .mk (.er exN) _ ⟨rfl,.c1 _ (by decide),K.rel R1,K.fr,K.dp,fun z=>nomatch z⟩ fun rr τ DL hDL S st hF=>st.ee (J:=0) ((aAq B lok hat hB).le (q80 hDL (c74 (by decide)))) (.c1 _ (by decide)) l6 hF
  ·
   have hov:W.lim∈hG ch.length:=by
    rcases hdp with⟨h,_⟩|⟨ha,hb,hc⟩
    ·rw[h];exact RL l1 l4
    ·exact ME l1 l4 ha (hb▸hlim)
   have hdp':oQ W (deep+1) (ch.length+1) f:=by
    rcases hdp with⟨h,h'⟩|⟨ha,hb,hc⟩
    ·exact .inl ⟨h,UD h'⟩
    ·exact .inr ⟨ha,congrArg (· + 1) hb,Int.not_lt.mp hlim⟩
   obtain⟨σ2,hC,R2,efr,edp⟩:=DW B O R R1 hr h2
   obtain⟨r,σ',P,F⟩:=IS n h2 (fk5 hk h1) ch (bkO W n σ.fr) (W.sh n).1 (pS n) (FK ok l1 hn) l2 σ2 _ (deep+1) R2 (by rw[edp];exact Int.le_trans (wC hd h1) (Int.le_add_one (Int.le_refl _))) (by rw[edp];exact hl) hdp' (uH hr)
   have K:=BH (W:=W) (fr:=σ.fr) (P.fr.trans efr)
   rw[efr]at P
   rw[yQ hlim]
   refine .mk (YR (W.sh n).1 r) (σ'.back (bkO W n σ.fr)) ⟨?_,?_,K.rel P.rel,K.fr,K.dp.trans (P.dp.trans edp),fun z=>nomatch z⟩ fun rr τ DL hDL S st hF=>?_
   ·show _=(if(W.sh n).1=true then aX _ else _)
    rw[←P.told]
    have hok:=P.ok
    cases(W.sh n).1 with
    |false=>rw[if_neg Bool.false_ne_true];cases r<;>rfl
    |true =>
     rw[if_pos rfl]
     cases r with
     |ok s=>rfl
     |er e=>exact(qJ hok).1
   ·have hok:=P.ok
    cases(W.sh n).1 with
    |false=>cases r<;>exact hok.mono (Nat.le_succ _)
    |true =>
     cases r with
     |ok s=>trivial
     |er e=>exact(qJ hok).2
   ·exact st.nn l4 ((aAp B lok hov hB hC).le (q80 (k:=3) hDL (c74 (by decide)))) (F rr τ DL (Nat.le_trans (Nat.add_le_add_right (by decide) _) hDL) (IX B (lc hDL (by decide)) l1 l4 hF))
theorem EP(B:aE mb)(O:WOK W sc){f:Nat}(hf:f≤4)(IS:Seg mb W sc f)(IR:W.lim=40→jF mb true (dC W sc) W sc (· = false) f)(IM:W.lim=40→OQ mb true (dC W sc) W sc (· = false) f):Seg mb W sc (f+1):=by
 intro k hk hfk c bk pr lab ok hc σ s deep R hd hl hdp hr
 obtain⟨wf1,wf2⟩:=O.wf k hk
 have hr1:eU s ((1+gr f)+(1+gr f)):=by
  have e:=IK f
  rw[←e];exact hr
 have ra:eU s (1+gr f):=⟨by have:=hr1.L;lia,by have:=hr1.M;lia,by have:=hr1.S;lia⟩
 have okp:∀p,pG (c++[⟨KK sc k,p,bk,pr,lab⟩]):=fun p=>by
  refine⟨fun a ha=>?_,fun a ha hp=>?_⟩
  ·cases c with
   |nil=>cases ha;exact ok.bot ⟨KK sc k,0,bk,pr,lab⟩ rfl
   |cons x r=>exact ok.bot a ha
  ·rcases List.mem_append.mp ha with h|h
   ·exact ok.lab a (List.mem_append_left _ h) hp
   ·rw[List.mem_singleton]at h
    subst h
    exact ok.lab ⟨KK sc k,0,bk,pr,lab⟩ (List.mem_append_right _ (List.mem_singleton.mpr rfl)) hp
 have hlen:∀p,(c++[(⟨KK sc k,p,bk,pr,lab⟩:AD)]).length=c.length+1:=fun p=>JY _ _
 obtain⟨r1,τ1,P1,F1⟩:=ZB (σ:=St3 σ) (k:=k) (deep:=deep) (ch:=c++[⟨KK sc k,3,bk,pr,lab⟩]) B O hf IS IR IM (by assumption) (okp 3) (by rw[hlen];exact Nat.le_add_left _ _) (by rw[hlen];lia) ⟨R.L,R.M,R.B⟩ hd hl (by rw[hlen];exact hdp) ra (sc k).1 wf1
 have hq:=nP (W:=W) (mH (W:=W) (sc:=sc) f) (sc k).1 σ.fr deep true s
 have st1:∀rr τ DL,25≤DL→qO mb W rr τ DL (sc k).1.1.str (aY (sc k).1.2) (St3 σ) (c++[⟨KK sc k,3,bk,pr,lab⟩]) (stS W σ (c++[⟨KK sc k,0,bk,pr,lab⟩]) []):=fun rr τ DL hD=>LD (v1:=(sc k).1.1.str) (n1:=aY (sc k).1.2) (v2:=(sc k).2.1.str) (n2:=aY (sc k).2.2) B hD (by lia) (okp 3)
 cases r1 with
 |er e =>
  have ht:(doC W (rule W sc f) (sc k).1 σ.fr deep true s).1.1≠0:=by
   have:=P1.told
   show _≠_
   rw[show(doC W (rule W sc f) (sc k).1 σ.fr deep true s).1=toldOf (.er e) from this.symm]
   exact pI P1.ok
  have er:rule W sc (f+1) k σ.fr deep true s=doC W (rule W sc f) (sc k).1 σ.fr deep true s:=by
   show(if _ then _ else _)=_
   rw[if_pos ht]
  refine⟨.er e,τ1,?_,fun rr τ DL hDL hF=>F1 rr τ DL (by lia) _ (st1 rr τ DL (by lia)) ?_⟩
  ·rw[er]
   exact⟨P1.told,P1.ok,P1.rel,P1.fr,P1.dp,P1.M⟩
  ·show FE mb W rr τ DL (unw _ τ1 e)
   have hF:FE mb W rr τ DL (unw (c++[⟨KK sc k,7,bk,pr,lab⟩]) τ1 e):=hF
   rw[mM]at hF ⊢
   exact hF
 |ok s1 =>
  have ht:(doC W (rule W sc f) (sc k).1 σ.fr deep true s).1.1=0:=by
   have:=P1.told
   rw[show(doC W (rule W sc f) (sc k).1 σ.fr deep true s).1=toldOf (.ok s1) from this.symm];rfl
  have er:rule W sc (f+1) k σ.fr deep true s=doC W (rule W sc f) (sc k).2 σ.fr deep true (doC W (rule W sc f) (sc k).1 σ.fr deep true s).2:=by
   show(if _ then _ else _)=_
   rw[if_neg (by rw[ht];decide)]
  have rb:eU (doC W (rule W sc f) (sc k).1 σ.fr deep true s).2 (1+gr f):=hr1.le hq
  have hfr:τ1.fr=σ.fr:=P1.fr
  have hdp1:τ1.dp=σ.dp:=P1.dp
  obtain⟨r2,τ2,P2,F2⟩:=ZB (σ:=St4 τ1) (k:=k) (deep:=deep) (ch:=c++[⟨KK sc k,7,bk,pr,lab⟩]) B O hf IS IR IM (by assumption) (okp 7) (by rw[hlen];exact Nat.le_add_left _ _) (by rw[hlen];lia) ⟨P1.rel.L,P1.rel.M,P1.rel.B⟩ (by show τ1.dp≤_;rw[hdp1];exact hd) (by show(τ1.dp,_)∈_;rw[hdp1];exact hl) (by rw[hlen];exact hdp) rb (sc k).2 wf2
  have e4:(St4 τ1).fr=σ.fr:=hfr
  rw[e4]at P2
  refine⟨r2,τ2,?_,fun rr τ DL hDL hF=>F1 rr τ DL (by lia) _ (st1 rr τ DL (by lia)) ?_⟩
  ·rw[er]
   exact⟨P2.told,P2.ok,P2.rel,P2.fr.trans hfr,P2.dp.trans hdp1,fun z=>nomatch z⟩
  ·exact F2 rr τ DL (by lia) _ (LC (v1:=(sc k).1.1.str) (n1:=aY (sc k).1.2) (v2:=(sc k).2.1.str) (n2:=aY (sc k).2.2) B (by lia) (by lia) (okp 7)) hF
end
end
section
open PySem.Calls
noncomputable def AK(K:K2):AD:=⟨K,0,none,false,""⟩
noncomputable def IW(r:Rs)(τ:Sg):Sg:=match r with
 |.ok s=>{ τ with txt:=s }
 |.er _=>τ
noncomputable def wV(W:Wd)(σ:Sg)(K:K2)(r:Rs)(τ:Sg)(d:Nat):Pl :=
 .lp owT owB none d loO (stS W σ [AK K] []) (kR (rnV (gTh (stS W σ [AK K] []).length (thO r))) (MG r)) (tM (gTh (stS W σ [AK K] []).length (thO r)) loO) (iW (stS W σ [AK K] []).length (thO r) (DO W τ r)) 381
noncomputable def MF:Rs→Except SV SV
 |.ok _=>.ok (.ref 30)
 |.er _=>.error (.ref 30)
noncomputable def MQ:Rs→List SO
 |.ok s=>[.tuple [.str "done",.ostr (some s)]]
 |.er e=>exS 30 e
noncomputable def ZK(mb:Bt)(W:Wd)(σ:Sg)(K:K2)(r:Rs)(τ:Sg)(D:Nat):Prop :=
 ∀d,D≤d→CallOK (g0 mb) 560 [.ref 20] none d (stS W σ [AK K] []) (MF r) (stS W τ [] []++gA 5++MQ r)
noncomputable def ON(mb:Bt)(W:Wd)(σ:Sg)(K:K2)(r:Rs)(τ:Sg)(D:Nat):Prop :=
 ∀d,D≤d→∀a,CallOK (g0 mb) 574 [.ref 20,.fz (cO K)] none d (core true W σ (.ext a)) (r.out 24) (core true W τ (.ext a)++r.objs 24)
section
variable{mb:Bt}{W:Wd}{σ τ:Sg}{K:K2}{r:Rs}{D:Nat}
noncomputable def mrL(mb:Bt)(W:Wd)(σ:Sg)(K:K2)(r:Rs)(τ:Sg)(d:Nat)(rs:List Nat)(x:Int×Int):Option FT :=
 cH wid (List.range (stS { W with lim:=x.2 } { σ with dp:=x.1 } [AK K] []).length++rs.map ((stS { W with lim:=x.2 } { σ with dp:=x.1 } [AK K] []).length+·)) [] [wV { W with lim:=x.2 } { σ with dp:=x.1+1 } K r { τ with dp:=x.1+1 } d]
  (bH mb [] 100 bZ none [.ref 20] (stS { W with lim:=x.2 } { σ with dp:=x.1 } [AK K] []) (d+1) [wV { W with lim:=x.2 } { σ with dp:=x.1+1 } K r { τ with dp:=x.1+1 } d] [])
noncomputable def mrR(mb:Bt)(W:Wd)(σ:Sg)(K:K2)(r:Rs)(τ:Sg)(d:Nat)(x:Int×Int):Option FT :=
 cG (MF r) (stS { W with lim:=x.2 } { τ with dp:=x.1 } [] []++gA 5++MQ r) [wV { W with lim:=x.2 } { σ with dp:=x.1+1 } K r { τ with dp:=x.1+1 } d]
  (bH mb [] 100 bZ none [.ref 20] (stS { W with lim:=x.2 } { σ with dp:=x.1 } [AK K] []) (d+1) [wV { W with lim:=x.2 } { σ with dp:=x.1+1 } K r { τ with dp:=x.1+1 } d] [])
theorem xH(B:aE mb){d:Nat}{rs:List Nat}{x:Int×Int}(h:mrL mb W σ K r τ d rs x=mrR mb W σ K r τ d x)(o:(wV W { σ with dp:=x.1+1 } K r { τ with dp:=x.1+1 } d).OK mb)(e:W.lim=x.2) :
  CallOK (g0 mb) 560 [.ref 20] none (d+1) (stS W { σ with dp:=x.1 } [AK K] []) (MF r) (stS W { τ with dp:=x.1 } [] []++gA 5++MQ r):=by
 have eW:{ W with lim:=x.2 }=W:=by rw[←e]
 unfold mrL mrR at h
 rw[eW]at h
 exact mkR B [] [wV W { σ with dp:=x.1+1 } K r { τ with dp:=x.1+1 } d] [] rs [] (F:=bZ) rfl aC h (ok1 o)
theorem CC(r:Rs):∃tag v,StopR tag v (MG r):=by
 cases r with
 |ok s=>exact⟨_,_,.done⟩
 |er e=>exact⟨_,_,.err 25⟩
theorem WY(B:aE mb)(hx:(σ.dp,W.lim)∈okP)(h:LPS mb W (stS W { σ with dp:=σ.dp+1 } [AK K] []) r (IW r { τ with dp:=σ.dp+1 }) D):ZK mb W σ K r (IW r { τ with dp:=σ.dp }) (max D 20+1):=by
 intro d hd
 obtain⟨d,rfl,hd2⟩:=d20 hd
 have o:(wV W { σ with dp:=σ.dp+1 } K r (IW r { τ with dp:=σ.dp+1 }) (d+19)).OK mb:=LPg.toLoop h (CC r) (by assumption)
 cases r with
 |ok s =>
  have key:∀x∈okP,mrL mb W σ K (.ok s) { τ with txt:=s } (d+19) [0] x=mrR mb W σ K (.ok s) { τ with txt:=s } (d+19) x:=by
   clear h o
   apply List.map_inj_left.mp
   kernel_rfl
  exact xH B (key _ hx) o rfl
 |er e =>
  obtain⟨c,ve,le,re,j,cx⟩:=e
  cases cx
  ·have key:∀x∈okP,mrL mb W σ K (.er ⟨c,ve,le,re,j,false⟩) τ (d+19) [0,1] x=mrR mb W σ K (.er ⟨c,ve,le,re,j,false⟩) τ (d+19) x:=by
    clear h o
    apply List.map_inj_left.mp
    kernel_rfl
   exact xH B (key _ hx) o rfl
  ·have key:∀x∈okP,mrL mb W σ K (.er ⟨c,ve,le,re,j,true⟩) τ (d+19) [0,1,2,3] x=mrR mb W σ K (.er ⟨c,ve,le,re,j,true⟩) τ (d+19) x:=by
    clear h o
    apply List.map_inj_left.mp
    kernel_rfl
   exact xH B (key _ hx) o rfl
noncomputable def LZ(W:Wd)(σ:Sg)(K:K2)(r:Rs)(τ:Sg)(d:Nat):Pl :=
 .fr 560 [.ref 20] none d (stS W σ [AK K] []) (MF r) (stS W τ [] []++gA 5++MQ r) (List.range 24++[33,27,26,28,25,24]) [] (wkM 0)
theorem WD(B:aE mb)(h:ZK mb W σ K r τ D):ON mb W σ K r { τ with fr:=σ.fr } (max D 20+1):=by
 intro d hd a
 obtain⟨d,rfl,hd2⟩:=d20 hd
 have o:(LZ W σ K r τ (d+19)).OK mb:=⟨h (d+19) (by assumption),bC 0⟩
 cases r with
 |ok s =>
  have C:CallOK (g0 mb) 574 [.ref 20,.fz (cO K)] none (d+20) (core true W σ (.ext a)) (.ok (.ostr (some s))) (core true W { τ with fr:=σ.fr } (.ext a)) :=
   mkR B [560] [LZ W σ K (.ok s) τ (d+19)] [] [] [] (F:=iO) rfl aC (by kernel_rfl) (ok1 o)
  show CallOK _ _ _ _ _ _ _ (_++[])
  rw[List.append_nil]
  intro A ρ s' N vs hv RR post
  exact C A ρ s' N vs hv RR post
 |er e =>
  obtain⟨c,ve,le,re,j,cx⟩:=e
  cases cx
  ·exact mkR B [560] [LZ W σ K (.er ⟨c,ve,le,re,j,false⟩) τ (d+19)] [] [10,11] [] (F:=iO) rfl aC (by kernel_rfl) (ok1 o)
  ·exact mkR B [560] [LZ W σ K (.er ⟨c,ve,le,re,j,true⟩) τ (d+19)] [] [10,11,12,13] [] (F:=iO) rfl aC (by kernel_rfl) (ok1 o)
end
end
section
open PySem.Calls
section
variable{mb:Bt}{W:Wd}{sc:Scs}{σ τ:Sg}{K:K2}{r:Rs}{D:Nat}
noncomputable def UQ(mb:Bt)(W:Wd)(l:List (Str×Str))(σ:Sg)(K:K2):Prop :=
 ∀d,10≤d→∀a,CallOK (g0 mb) 768 [.ref 0,.txt l,.bool false] none d (core true W σ (.ext a)) (.ok (.fz (cO K))) (core true W (σ.made l false) (.ext a))
theorem PD(B:aE mb)(O:WOK W sc){n:Nat}(hn:n≤4)(hM:σ.M.length≤100000):UQ mb W (W.tx n) σ (KK sc n):=by
 intro d hd a
 obtain⟨d,rfl⟩:=bF (n:=10) hd
 rw[O.tx n hn]
 exact uI B hM false d a
noncomputable def WO(W:Wd)(l:List (Str×Str))(σ:Sg)(K:K2)(d:Nat)(a:Addr):Pl :=
 .fr 768 [.ref 0,.txt l,.bool false] none d (core true W σ (.ext a)) (.ok (.fz (cO K))) (core true W (σ.made l false) (.ext a)) (List.range 24) [] wid
noncomputable def WN(W:Wd)(σ:Sg)(K:K2)(r:Rs)(τ:Sg)(d:Nat)(a:Addr):Pl :=
 .fr 574 [.ref 20,.fz (cO K)] none d (core true W σ (.ext a)) (r.out 24) (core true W τ (.ext a)++r.objs 24) (List.range 24) [] wid
noncomputable def bmP(W:Wd)(σ:Sg)(K:K2)(r:Rs)(τ:Sg)(d:Nat)(a:Addr)(n:Nat):List Pl :=
 [WN W ((σ.logged "m" n).made (W.tx n) false) K r τ d a,WO W (W.tx n) (σ.logged "m" n) K d a,.gv (.small σ.L) none]
noncomputable def bmA(mb:Bt)(W:Wd)(σ:Sg)(K:K2)(r:Rs)(τ:Sg)(d:Nat)(a:Addr)(n:Nat):Option (Except SV SV×St) :=
 bH mb [768,574] 100 aI none [.ref 0,.ref 24] (core true W σ (.ext a)++[SO.list [.str "m",.str (aY n)]]) (d+3) (bmP W σ K r τ d a n) []
noncomputable def bmL(mb:Bt)(W:Wd)(σ:Sg)(K:K2)(r:Rs)(τ:Sg)(d:Nat)(a:Addr)(rs:List Nat)(n:Nat):Option FT :=
 cH wid (List.range (core true W σ (.ext a)++[SO.list [.str "m",.str (aY n)]]).length++rs.map ((core true W σ (.ext a)++[SO.list [.str "m",.str (aY n)]]).length+·)) [] (bmP W σ K r τ d a n) (bmA mb W σ K r τ d a n)
noncomputable def bmR(mb:Bt)(W:Wd)(σ:Sg)(K:K2)(r:Rs)(τ:Sg)(d:Nat)(a:Addr)(n:Nat):Option FT :=
 cG (r.out 25) (core true W τ (.ext a)++[SO.list [.str "m",.str (aY n)]]++r.objs 25) (bmP W σ K r τ d a n) (bmA mb W σ K r τ d a n)
theorem yT(B:aE mb){d:Nat}{a:Addr}{rs:List Nat}{n:Nat}(h:bmL mb W σ K r τ d a rs n=bmR mb W σ K r τ d a n)(o:∀p∈bmP W σ K r τ d a n,p.OK mb) :
  CallOK (g0 mb) 436 [.ref 0,.ref 24] none (d+3) (core true W σ (.ext a)++[SO.list [.str "m",.str (aY n)]]) (r.out 25) (core true W τ (.ext a)++[SO.list [.str "m",.str (aY n)]]++r.objs 25):=by
 unfold bmL bmR bmA at h
 exact mkR B [768,574] (bmP W σ K r τ d a n) [] rs [] (F:=aI) rfl aC h o
theorem KC(B:aE mb)(hL:σ.L.length≤100000)(n:Nat)(hn:n∈n4)(hK:UQ mb W (W.tx n) (σ.logged "m" n) K)(h:ON mb W ((σ.logged "m" n).made (W.tx n) false) K r τ D):cK mb true W "m" (aY n) σ (r.out (cN true+1)) (r.objs (cN true+1)) τ (max D 20+3):=by
 intro d hd a
 obtain⟨d,rfl⟩:=bF (n:=3) (Nat.le_trans (Nat.le_add_left _ _) hd)
 have o:∀p∈bmP W σ K r τ d a n,p.OK mb:=ok3 ⟨h d (Nat.le_of_add_le_add_right (mxl hd)) a,aC⟩ ⟨hK d (Nat.le_trans (by decide) (Nat.le_of_add_le_add_right (mxr hd))) a,aC⟩ hL
 cases r with
 |ok s =>
  have key:∀n∈n4,bmL mb W σ K (.ok s) τ d a [] n=bmR mb W σ K (.ok s) τ d a n:=by
   clear o h hK
   apply List.map_inj_left.mp
   kernel_rfl
  exact yT B (key n hn) o
 |er e =>
  obtain⟨c,ve,le,re,j,cx⟩:=e
  cases cx
  ·have key:∀n∈n4,bmL mb W σ K (.er ⟨c,ve,le,re,j,false⟩) τ d a [2,3] n=bmR mb W σ K (.er ⟨c,ve,le,re,j,false⟩) τ d a n:=by
    clear o h hK
    apply List.map_inj_left.mp
    kernel_rfl
   exact yT B (key n hn) o
  ·have key:∀n∈n4,bmL mb W σ K (.er ⟨c,ve,le,re,j,true⟩) τ d a [2,3,4,5] n=bmR mb W σ K (.er ⟨c,ve,le,re,j,true⟩) τ d a n:=by
    clear o h hK
    apply List.map_inj_left.mp
    kernel_rfl
   exact yT B (key n hn) o
end
end
section
open PySem.Calls
section
variable{mb:Bt}{W:Wd}{sc:Scs}{σ:Sg}{s:PS}{deep:Int}
theorem FC(B:aE mb){f:Nat}(hf:f≤5)(IS:Seg mb W sc f){n:Nat}(hn:n≤4)(hfn:5≤f+n)(R:Rel true (dC W sc) σ s)(hd:σ.dp≤(n:Int))(h1:(σ.dp,W.lim)∈okP)(h2:(σ.dp+1,W.lim)∈okP)(hdp:oQ W deep 1 f)(hr:eU s (gr f)) :
  ∃r τ,qP true (dC W sc) σ f (rule W sc f n σ.fr deep true s) r τ∧ON mb W σ (KK sc n) r τ (62+20*f):=by
 obtain⟨r,σ',P,F⟩:=IS n hn hfn [] none false "" ⟨fun a ha=>by cases ha;rfl,fun a ha hp=>by rw[List.nil_append,List.mem_singleton]at ha;subst ha;cases hp⟩ ((Nat.zero_add f).symm▸hf) { σ with dp:=σ.dp+1 } s deep ⟨R.L,R.M,R.B⟩ (Int.add_le_add_right hd 1) h2 hdp hr
 have e:({ σ' with dp:=σ.dp+1 }:Sg)=σ':=by
  have:σ'.dp=σ.dp+1:=P.dp
  rw[←this]
 have hL:LPS mb W (stS W { σ with dp:=σ.dp+1 } [AK (KK sc n)] []) r (IW r { σ' with dp:=σ.dp+1 }) (60+20*f):=by
  rw[e]
  refine F r (IW r σ') _ (Nat.le_refl _) ?_
  have:=NY (W:=W) (σ:=σ') (bk:=none) (lab:="") (K:=KK sc n) (r:=r) (DL:=60+20*f) B (c74 (by decide))
  cases r<;>exact this
 have hR:=WD B (WY (τ:=σ') B h1 hL)
 refine⟨r,_,?_,fun d hd a=>hR d (mx (k:=1) (mx (k:=2) (lf hd (by decide)) (lc hd (by decide))) (lc hd (by decide))) a⟩
 cases r<;>exact⟨P.told,P.ok,⟨P.rel.L,P.rel.M,P.rel.B⟩,rfl,rfl,fun z=>nomatch z⟩
theorem CM(B:aE mb)(O:WOK W sc){f:Nat}(hf:f≤5)(IS:Seg mb W sc f)(hl:W.lim=40):OQ mb true (dC W sc) W sc (· = false) f:=by
 intro n h1 h2 h3 σ s fast _ R hd hok hr
 have hL:σ.L.length≤100000:=by rw[R.L];exact sl hr.L
 have hM:σ.M.length≤100000:=by rw[R.M rfl];exact sl hr.M
 have R1:=R.lg "m" n (fr:=σ.fr) rfl
 have h2':(σ.dp+1,W.lim)∈okP:=(AZ _ hok (by show σ.dp≤4;lia)).resolve_right fun z=>JN _ z hl
 have h5:=FX _ hok
 obtain⟨r,τ,P,hR⟩:=FC (σ:=(σ.logged "m" n).made (W.tx n) false) (s:={ s.lg "m" n σ.fr with M:=s.M++[mkE W n false] }) (deep:=σ.dp+1) B hf IS h2 h3 ⟨R1.L,fun _=>(by show σ.M++_=s.M++_;rw[R.M rfl];rfl),R1.B⟩ hd hok h2' (.inl ⟨hl,by have:σ.dp≤5:=h5;lia⟩) (hr.le NC)
 exact⟨r,τ,⟨P.told,P.ok,P.rel,P.fr,P.dp,fun z=>nomatch z⟩,fun d hd a=>KC B hL n (gJ (k:=0) (by assumption) h2) (PD (σ:=σ.logged "m" n) B O h2 hM) hR d (mk3 hd (by decide) (by decide)) a⟩
theorem uK(B:aE mb)(O:WOK W sc):∀f,f≤5→Seg mb W sc f∧(W.lim=40→jF mb true (dC W sc) W sc (· = false) f)
 |0,_=>⟨fun k hk h=>absurd h (by lia),fun _ k hk h=>absurd h (by lia)⟩
 |f+1,hf=>by
  obtain⟨IS,IR⟩:=uK B O f (by lia)
  have IM:=CM B O (f:=f) (by lia) IS
  exact⟨EP B O (by lia) IS IR IM,fun hl=>tJ B O (by lia) (fun _ x h=>h) rfl (IR hl) (IM hl)⟩
end
end
section
open PySem.Calls
noncomputable def UM(c:Int):Str:=if c=2 then "command returned bad code: 2" else if c=5 then "command returned bad code: 5" else if c=6 then "command returned bad code: 6" else if c=-1 then "command returned bad code: -1" else "command returned bad code: 2001"
noncomputable def lW(t:Told):Int×Str :=
 let c:=if t.1=2∧t.2.2.1=1 then t.2.2.2 else t.1
 if c=0∨c=1 then(c,t.2.1)else if c=3∨c=4 then(1,brk c)else(1,UM c)
noncomputable def tF(t:Told):SO:=.tuple [.int (lW t).1,.str (lW t).2]
noncomputable def exK:List (Int×Int×Int):=(fU [(1:Int),2,3,4] [(0:Int),1,3,4,5]).map (fun x=>((2:Int),x.1,x.2))++[(3,0,0),(4,0,0),(5,0,0),(6,0,0),(-1,0,0),(2001,0,0),(1,0,0)]
theorem sQ{J:Nat}{e:Ex}(h:EOK J e):(e.code,e.lev,e.ret)∈exK:=by
 cases h with
 |c2 v le re hv hl hr=>exact List.mem_append_left _ (List.mem_map.mpr ⟨(le,re),cS hl hr,rfl⟩)
 |c34 v c hv hc =>
  simp only[List.mem_cons,List.not_mem_nil,or_false]at hc
  rcases hc with rfl|rfl
  ·exact(by decide:((3:Int),(0:Int),(0:Int))∈exK)
  ·exact(by decide:((4:Int),(0:Int),(0:Int))∈exK)
 |co v c hv hc =>
  simp only[List.mem_cons,List.not_mem_nil,or_false]at hc
  rcases hc with rfl|rfl|rfl|rfl
  ·exact(by decide:((5:Int),(0:Int),(0:Int))∈exK)
  ·exact(by decide:((6:Int),(0:Int),(0:Int))∈exK)
  ·exact(by decide:((-1:Int),(0:Int),(0:Int))∈exK)
  ·exact(by decide:((2001:Int),(0:Int),(0:Int))∈exK)
 |c1 v hv=>show((1:Int),(0:Int),(0:Int))∈exK;decide
 |cj v j cx hj=>show((1:Int),(0:Int),(0:Int))∈exK;decide
section
variable{mb:Bt}{W:Wd}{σ τ:Sg}{K:K2}{r:Rs}{D J:Nat}{l:List (Str×Str)}
noncomputable def obP(W:Wd)(l:List (Str×Str))(σ:Sg)(K:K2)(r:Rs)(τ:Sg)(d:Nat)(a:Addr):List Pl:=[WN W (σ.made l false) K r τ d a,WO W l σ K d a]
noncomputable abbrev mB(x:Int×Int×Int)(v:Str)(j:Nat)(cx:Bool):Ex:=⟨x.1,v,x.2.1,x.2.2,j,cx⟩
noncomputable def obA(mb:Bt)(W:Wd)(l:List (Str×Str))(σ:Sg)(K:K2)(r:Rs)(τ:Sg)(d:Nat)(a:Addr):Option (Except SV SV×St) :=
 bH mb [768,574] 100 iA none [.ref 0,.ref 20,.txt l] (core true W σ (.ext a)) (d+1) (obP W l σ K r τ d a) []
noncomputable def obL(mb:Bt)(W:Wd)(l:List (Str×Str))(σ:Sg)(K:K2)(r:Rs)(τ:Sg)(d:Nat)(a:Addr)(rs:List Nat):Option FT :=
 cH wid (List.range (core true W σ (.ext a)).length++rs.map ((core true W σ (.ext a)).length+·)) [] (obP W l σ K r τ d a) (obA mb W l σ K r τ d a)
noncomputable def obR(mb:Bt)(W:Wd)(l:List (Str×Str))(σ:Sg)(K:K2)(r:Rs)(τ:Sg)(d:Nat)(a:Addr):Option FT :=
 cG (.ok (.ref 24)) (core true W τ (.ext a)++[tF (toldOf r)]) (obP W l σ K r τ d a) (obA mb W l σ K r τ d a)
theorem xD(B:aE mb){d:Nat}{a:Addr}{rs:List Nat}(h:obL mb W l σ K r τ d a rs=obR mb W l σ K r τ d a)(o:∀p∈obP W l σ K r τ d a,p.OK mb) :
  CallOK (g0 mb) 581 [.ref 0,.ref 20,.txt l] none (d+1) (core true W σ (.ext a)) (.ok (.ref 24)) (core true W τ (.ext a)++[tF (toldOf r)]):=by
 unfold obL obR obA at h
 exact mkR B [768,574] (obP W l σ K r τ d a) [] rs [] (F:=iA) rfl aC h o
theorem WU(B:aE mb)(hK:UQ mb W l σ K)(h:ON mb W (σ.made l false) K r τ D)(hr:RsOK J r):∀d,D+20≤d→∀a,
  CallOK (g0 mb) 581 [.ref 0,.ref 20,.txt l] none d (core true W σ (.ext a)) (.ok (.ref 24)) (core true W τ (.ext a)++[tF (toldOf r)]):=by
 intro d hd a
 obtain⟨d,rfl⟩:=bF (n:=20) (Nat.le_trans (Nat.le_add_left _ _) hd)
 have o:∀p∈obP W l σ K r τ (d+19) a,p.OK mb:=ok2 ⟨h (d+19) (by lia) a,aC⟩ ⟨hK (d+19) (by exact Nat.le_add_left _ _) a,aC⟩
 cases r with
 |ok s =>
  refine xD B (rs:=[0]) ?_ o
  clear o h hK
  kernel_rfl
 |er e =>
  have hx:=sQ hr
  obtain⟨c,ve,le,re,j,cx⟩:=e
  cases cx
  ·have key:∀x∈exK,obL mb W l σ K (.er (mB x ve j false)) τ (d+19) a [3]=obR mb W l σ K (.er (mB x ve j false)) τ (d+19) a:=by
    clear o h hK hr hx
    apply List.map_inj_left.mp
    kernel_rfl
   refine xD (K:=K) (r:=.er (mB (c,le,re) ve j false)) (rs:=[3]) B ?_ ?_
   ·exact key _ hx
   ·exact o
  ·have key:∀x∈exK,obL mb W l σ K (.er (mB x ve j true)) τ (d+19) a [5]=obR mb W l σ K (.er (mB x ve j true)) τ (d+19) a:=by
    clear o h hK hr hx
    apply List.map_inj_left.mp
    kernel_rfl
   refine xD (K:=K) (r:=.er (mB (c,le,re) ve j true)) (rs:=[5]) B ?_ ?_
   ·exact key _ hx
   ·exact o
noncomputable def hoA(mb:Bt)(W:Wd)(l:List (Str×Str))(σ:Sg)(r:Rs)(τ:Sg)(d:Nat)(a:Addr):Option (Except SV SV×St) :=
 bH mb [245] 100 fF none [.ref 0,.txt l] (core false W σ (.ext a)) (d+2) [cC false W l σ r τ d a] []
noncomputable def hoL(mb:Bt)(W:Wd)(l:List (Str×Str))(σ:Sg)(r:Rs)(τ:Sg)(d:Nat)(a:Addr)(rs:List Nat):Option FT :=
 cH wid (List.range (core false W σ (.ext a)).length++rs.map ((core false W σ (.ext a)).length+·)) [] [cC false W l σ r τ d a] (hoA mb W l σ r τ d a)
noncomputable def hoR(mb:Bt)(W:Wd)(l:List (Str×Str))(σ:Sg)(r:Rs)(τ:Sg)(d:Nat)(a:Addr):Option FT :=
 cG (.ok (.ref 20)) (core false W τ (.ext a)++[tF (toldOf r)]) [cC false W l σ r τ d a] (hoA mb W l σ r τ d a)
theorem xY(B:aE mb){d:Nat}{a:Addr}{rs:List Nat}(h:hoL mb W l σ r τ d a rs=hoR mb W l σ r τ d a)(o:(cC false W l σ r τ d a).OK mb) :
  CallOK (g0 mb) 280 [.ref 0,.txt l] none (d+2) (core false W σ (.ext a)) (.ok (.ref 20)) (core false W τ (.ext a)++[tF (toldOf r)]):=by
 unfold hoL hoR hoA at h
 exact mkR B [245] [cC false W l σ r τ d a] [] rs [] (F:=fF) rfl aC h (ok1 o)
theorem YE(B:aE mb)(h:dQ mb false W l σ r τ D)(hr:RsOK J r):∀d,D+20≤d→∀a,
  CallOK (g0 mb) 280 [.ref 0,.txt l] none d (core false W σ (.ext a)) (.ok (.ref 20)) (core false W τ (.ext a)++[tF (toldOf r)]):=by
 intro d hd a
 obtain⟨d,rfl⟩:=bF (n:=20) (Nat.le_trans (Nat.le_add_left _ _) hd)
 have o:=dL (d:=d+18) (a:=a) h (by lia)
 cases r with
 |ok s =>
  refine xY B (rs:=[0]) ?_ o
  clear o h
  kernel_rfl
 |er e =>
  have hx:=sQ hr
  obtain⟨c,ve,le,re,j,cx⟩:=e
  cases cx
  ·have key:∀x∈exK,hoL mb W l σ (.er (mB x ve j false)) τ (d+18) a [3]=hoR mb W l σ (.er (mB x ve j false)) τ (d+18) a:=by
    clear o h hr hx
    apply List.map_inj_left.mp
    kernel_rfl
   refine xY (r:=.er (mB (c,le,re) ve j false)) (rs:=[3]) B ?_ ?_
   ·exact key _ hx
   ·exact o
  ·have key:∀x∈exK,hoL mb W l σ (.er (mB x ve j true)) τ (d+18) a [5]=hoR mb W l σ (.er (mB x ve j true)) τ (d+18) a:=by
    clear o h hr hx
    apply List.map_inj_left.mp
    kernel_rfl
   refine xY (r:=.er (mB (c,le,re) ve j true)) (rs:=[5]) B ?_ ?_
   ·exact key _ hx
   ·exact o
end
end
section
open PySem.Calls
section
variable{G:Gl}{f:Nat}{args:List SV}{hd:Option Nat}{d:Nat}{core X:List SO}{out:Except SV SV}{xs:List SV}
theorem CallOK.frt(H:CallOK G f args hd d core (.ok (.ref core.length)) (X++[.tuple xs]))(hX:X.length=core.length)(hc:xs.all clV=true):CallOK G f args hd d core (.ok (.fz (.tuple xs))) (X++[.dead]):=by
 intro A ρ s N vs hv RR post
 refine H A ρ s N vs hv RR fun L' ρ' s' hL S R=>?_
 have len:=R.len
 rw[List.length_append,hX]at len
 have h0:∃p,ρ'.a[core.length]?=some p:=⟨_,List.getElem?_eq_getElem (by rw[len];show core.length<core.length+1;exact Nat.le_refl _)⟩
 obtain⟨p,h0⟩:=h0
 have b0:(X++[SO.tuple xs])[core.length]?=some (.tuple xs):=by rw[List.getElem?_append_right (by lia),hX,Nat.sub_self];rfl
 have o0:=R.ob _ _ _ b0 h0
 have R0:=R.freeze h0 b0 (so:=.tuple xs) (o0.le Tr.le_frz) hc
 have e:(X++[SO.tuple xs]).set core.length .dead=X++[.dead]:=by
  rw[←hX];simp[List.set_append]
 rw[e]at R0
 rintro x ⟨a,ha,rfl⟩
 rw[h0]at ha;cases ha
 exact post L' _ s' hL (S.trans (aF.freeze h0)) R0 _ ⟨p,.head _,rfl⟩
theorem CallOK.frt0(H:CallOK G f args hd d core (.ok (.ref core.length)) (X++[.tuple xs]))(hX:X.length=core.length)(hc:xs.all clV=true)(hs:eD (List.range core.length++[]) (X++[SO.dead]).length=true)
  (he:mR wid (List.range core.length++[]) [] (X++[SO.dead])=X):CallOK G f args hd d core (.ok (.fz (.tuple xs))) X:=by
 have this:CallOK G f args hd d core (.ok (.fz (.tuple xs))) (mR wid (List.range core.length++[]) [] (X++[.dead])):=(H.frt hX hc).sel (ps:=[]) (ks:=[]) aC hs rfl
 rw[he]at this
 exact this
theorem Rep.toCl{ρ:Tr}{objs:List SO}{h:Heap}(R:Rep G ρ objs h){i:Nat}(ho:objs[i]?=some (.list xs))(hc:∀x∈xs,clV x=true):Rep G ρ (objs.set i (.clist xs)) h:=by
 have li:i<ρ.a.length:=by rw[R.len];exact(List.getElem?_eq_some_iff.mp ho).1
 have ha:=List.getElem?_eq_getElem li
 obtain⟨vs,n,e1,e2⟩:=R.ob _ _ _ ho ha
 exact R.reset ha ho (fun q=>by cases q) ⟨vs,n,e1,e2,hc⟩
end
noncomputable def sxs(xs:List Int):List SV:=xs.map .int
noncomputable def scV(xs:List Int):SV:=.fz (.clist (sxs xs))
noncomputable def dgV(xs:List Int)(p:Nat):Int:=(xs[p]?).getD 0
section
variable {mb : Bt}
theorem QV {xs : List Int} {p : Nat} (h : p < xs.length) : atI (sxs xs) (p : Int) = some (.int (dgV xs p)) := by
  show (sxs xs)[p]? = _
  unfold sxs dgV
  rw [List.getElem?_map, List.getElem?_eq_getElem h]; rfl
theorem qU(xs:List Int):(sxs xs).length=xs.length:=by unfold sxs;simp
noncomputable def dgL(mb:Bt)(xs:List Int)(d:Nat)(ps:List Pl)(pr:List Int)(p:Nat):Option FT :=
 cH wid (List.range ([]:List SO).length++[]) [] ps (bH mb [] 100 eR none [scV xs,.int p] [] (d+20) ps pr)
noncomputable def dgR(mb:Bt)(xs:List Int)(d:Nat)(ps:List Pl)(pr:List Int)(v:Int)(p:Nat):Option FT :=
 cG (.ok (.int v)) [] ps (bH mb [] 100 eR none [scV xs,.int p] [] (d+20) ps pr)
theorem PM(B:aE mb){xs:List Int}(hx:xs.length≤1000){p:Nat}(hp:p∈List.range 44)(d:Nat):CallOK (g0 mb) 735 [scV xs,.int p] none (d+20) [] (.ok (.int (dgV xs p))) []:=by
 have hs:(sxs xs).length≤100000:=by rw[qU];lia
 by_cases h:p<xs.length
 ·have key:∀p∈List.range 44,∀v,dgL mb xs d [.gv (.at (sxs xs) p (.int v)) (some (.int v)),.gv (.lt p (sxs xs).length true) none,.gv (.small (sxs xs)) none] [1] p=dgR mb xs d [.gv (.at (sxs xs) p (.int v)) (some (.int v)),.gv (.lt p (sxs xs).length true) none,.gv (.small (sxs xs)) none] [1] v p:=by
   intro p hp v
   revert p
   apply aA
   kernel_rfl
  have k:=key p hp (dgV xs p)
  unfold dgL dgR at k
  exact mkC (core:=[]) B (ns:=[]) (F:=eR) rfl aC k rfl (ok3 (QV h) (show decide ((p:Int)<((sxs xs).length:Int))=true by rw[qU];exact decide_eq_true (by lia)) hs)
 ·have key:∀p∈List.range 44,dgL mb xs d [.gv (.lt p (sxs xs).length false) none,.gv (.small (sxs xs)) none] [0] p=dgR mb xs d [.gv (.lt p (sxs xs).length false) none,.gv (.small (sxs xs)) none] [0] 0 p:=by
   apply aA
   kernel_rfl
  have k:=key p hp
  have e:dgV xs p=0:=by unfold dgV;rw[List.getElem?_eq_none (by lia)];rfl
  rw[e]
  unfold dgL dgR at k
  exact mkC (core:=[]) B (ns:=[]) (F:=eR) rfl aC k rfl (ok2 (show decide ((p:Int)<((sxs xs).length:Int))=false by rw[qU];exact decide_eq_false (by lia)) hs)
end
end
section
open PySem.Calls
noncomputable def cmV(c:Cmd):SV:=.fz (.tuple [.str c.1.str,.int (c.2:Nat)])
theorem yX(v:Vb):wH v.str:=by cases v<;>exact⟨by decide,by decide,by decide⟩
theorem tE(n:Nat):wH (aY n):=by unfold aY;split<;>exact⟨by decide,by decide,by decide⟩
theorem KO(a b:Cmd):(aO [encC a,encC b]).length=7:=by
 have h:(aO [encC a,encC b]).cps.toList.length=7:=by
  rw[mO]
  simp only[List.length_append,List.length_cons,encC,mL,rL]
 rw[Array.length_toList]at h
 exact h
section
variable{mb:Bt}
noncomputable def vC(v:Vb):Nat:=match v with
 |.t=>116 | .p=>112 | .x=>120 | .f=>102 | .d=>100 | .m=>109 | .n=>110
theorem EC(v:Vb):v.str=⟨#[vC v]⟩:=by cases v<;>rfl
noncomputable def cmC(c n:Nat):SV:=.fz (.tuple [.str ⟨#[c]⟩,.int n])
theorem JW(c:Cmd):cmV c=cmC (vC c.1) c.2:=by unfold cmV cmC;rw[EC]
noncomputable def txL(mb:Bt)(d c c' n n':Nat):Option FT :=
 cH wid (List.range [SO.list [cmC c n,cmC c' n']].length++[]) [] [] (bH mb [] 100 iQ none [.ref 0] [.list [cmC c n,cmC c' n']] (d+20) [] [])
noncomputable def txR(mb:Bt)(d c c' n n':Nat):Option FT :=
 cG (.ok (.str (aO [(⟨#[c]⟩,aY n),(⟨#[c']⟩,aY n')]))) [.list [cmC c n,cmC c' n']] [] (bH mb [] 100 iQ none [.ref 0] [.list [cmC c n,cmC c' n']] (d+20) [] [])
theorem OS(B:aE mb){a b:Cmd}(ha:a.2≤5)(hb:b.2≤5)(d:Nat):CallOK (g0 mb) 754 [.ref 0] none (d+20) [.list [cmV a,cmV b]] (.ok (.txt [encC a,encC b])) [.list [cmV a,cmV b]]:=by
 have key:∀c c',∀x∈fU n6 n6,txL mb d c c' x.1 x.2=txR mb d c c' x.1 x.2:=by
  intro c c'
  apply aA
  kernel_rfl
 have k:=key (vC a.1) (vC b.1) (a.2,b.2) (cS (eH ha) (eH hb))
 unfold txL txR at k
 have ea:((⟨#[vC a.1]⟩,aY a.2):Str×Str)=encC a:=by unfold encC;rw[EC]
 have eb:((⟨#[vC b.1]⟩,aY b.2):Str×Str)=encC b:=by unfold encC;rw[EC]
 rw[ea,eb,←JW,←JW]at k
 have C:CallOK (g0 mb) 754 [.ref 0] none (d+20) [.list [cmV a,cmV b]] (.ok (.str (aO [encC a,encC b]))) [.list [cmV a,cmV b]] :=
  mkC B (ns:=[]) (F:=iQ) rfl aC k rfl (fun _ h=>nomatch h)
 intro A ρ s N vs hv RR post
 refine C A ρ s N vs hv RR fun L' ρ' s' hL S R=>?_
 have q:=post L' ρ' s' hL S R
 rintro x ⟨t,rfl⟩
 refine q _ ⟨t,rfl,⟨by simp,by rw[KO];decide⟩,fun y hy=>?_⟩
 simp only[List.mem_cons,List.not_mem_nil,or_false]at hy
 rcases hy with rfl|rfl
 ·exact⟨yX _,tE _⟩
 ·exact⟨yX _,tE _⟩
noncomputable def tdK:List (Int×Int×Int):=(0,0,0)::exK
noncomputable def TK(t:Told):Prop:=(t.1,t.2.2.1,t.2.2.2)∈tdK
theorem JI{t:Told}(h:TK t):TK (aX t):=by
 obtain⟨c,v,l,r⟩:=t
 have key:∀x∈tdK,∀v,TK (aX (x.1,v,x.2.1,x.2.2)):=by
  intro x hx v
  have k:∀x∈tdK,((aX (x.1,v,x.2.1,x.2.2)).1,(aX (x.1,v,x.2.1,x.2.2)).2.2.1,(aX (x.1,v,x.2.1,x.2.2)).2.2.2)∈tdK:=by
   intro x hx
   have k2:∀x∈tdK,((aX (x.1,"",x.2.1,x.2.2)).1,(aX (x.1,"",x.2.1,x.2.2)).2.2.1,(aX (x.1,"",x.2.1,x.2.2)).2.2.2)∈tdK:=by decide +kernel
   have k3:=k2 x hx
   have e:((aX (x.1,v,x.2.1,x.2.2)).1,(aX (x.1,v,x.2.1,x.2.2)).2.2.1,(aX (x.1,v,x.2.1,x.2.2)).2.2.2)=((aX (x.1,"",x.2.1,x.2.2)).1,(aX (x.1,"",x.2.1,x.2.2)).2.2.1,(aX (x.1,"",x.2.1,x.2.2)).2.2.2):=by
    unfold aX
    split
    ·split<;>rfl
    ·split<;>rfl
   rw[e];exact k3
  exact k x hx
 exact key (c,l,r) h v
noncomputable def DU(mb:Bt)(d:Nat)(v:Str)(rs:List Nat)(x:Int×Int×Int):Option FT :=
 cH wid (List.range ([]:List SO).length++rs) [] [] (bH mb [] 100 dJ none [aR (x.1,v,x.2.1,x.2.2)] [] (d+20) [] [])
noncomputable def DS(mb:Bt)(d:Nat)(v:Str)(out:Except SV SV)(os:List SO)(x:Int×Int×Int):Option FT :=
 cG out os [] (bH mb [] 100 dJ none [aR (x.1,v,x.2.1,x.2.2)] [] (d+20) [] [])
noncomputable def tG(t:Told):List SV:=[.int t.1,.str t.2.1,.int t.2.2.1,.int t.2.2.2]
theorem UB(B:aE mb){t:Told}(h:TK t)(d:Nat):CallOK (g0 mb) 789 [aR t] none (d+20) [] (.ok (aR (aX t))) []:=by
 obtain⟨c,v,l,r⟩:=t
 by_cases hc:c=2∨c=3∨c=4
 ·have ns:∀x∈tdK.filter (fun x=>x.1==2),DU mb d v [0] x=DS mb d v (.ok (.ref 0)) [.tuple (tG (aX (x.1,v,x.2.1,x.2.2)))] x:=by
   apply aA
   kernel_rfl
  have ns2:∀x∈tdK.filter (fun x=>x.1==3||x.1==4),DU mb d v [2] x=DS mb d v (.ok (.ref 0)) [.tuple (tG (aX (x.1,v,x.2.1,x.2.2)))] x:=by
   apply aA
   kernel_rfl
  have C:CallOK (g0 mb) 789 [aR (c,v,l,r)] none (d+20) [] (.ok (.ref 0)) [.tuple (tG (aX (c,v,l,r)))]:=by
   rcases hc with rfl|hc
   ·have k:=ns (2,l,r) (List.mem_filter.mpr ⟨h,rfl⟩)
    unfold DU DS at k
    exact mkC (core:=[]) B (ns:=[0]) (F:=dJ) rfl aC k rfl (fun _ h=>nomatch h)
   ·have k:=ns2 (c,l,r) (List.mem_filter.mpr ⟨h,by rcases hc with rfl|rfl<;>rfl⟩)
    unfold DU DS at k
    exact mkC (core:=[]) B (ns:=[2]) (F:=dJ) rfl aC k rfl (fun _ h=>nomatch h)
  exact CallOK.frt0 (core:=[]) (X:=[]) C rfl rfl rfl rfl
 ·have ns:∀x∈tdK.filter (fun x=>!(x.1==2||x.1==3||x.1==4)),DU mb d v [] x=DS mb d v (.ok (aR (aX (x.1,v,x.2.1,x.2.2)))) [] x:=by
   apply aA
   kernel_rfl
  have k:=ns (c,l,r) (List.mem_filter.mpr ⟨h,by
   have h1:c≠2:=fun z=>hc (.inl z)
   have h2:c≠3:=fun z=>hc (.inr (.inl z))
   have h3:c≠4:=fun z=>hc (.inr (.inr z))
   simp[h1,h2,h3]⟩)
  unfold DU DS at k
  exact mkC (core:=[]) B (ns:=[]) (F:=dJ) rfl aC k rfl (fun _ h=>nomatch h)
noncomputable def tpL(mb:Bt)(d:Nat)(v:Str)(rs:List Nat)(x:Int×Int×Int):Option FT :=
 cH wid (List.range ([]:List SO).length++rs) [] [] (bH mb [] 100 kF none [aR (x.1,v,x.2.1,x.2.2)] [] (d+20) [] [])
noncomputable def tpR(mb:Bt)(d:Nat)(v:Str)(x:Int×Int×Int):Option FT :=
 cG (.ok (.ref 0)) [tF (x.1,v,x.2.1,x.2.2)] [] (bH mb [] 100 kF none [aR (x.1,v,x.2.1,x.2.2)] [] (d+20) [] [])
noncomputable def UZ(x:Int×Int×Int):Nat :=
 let c:=if x.1=2∧x.2.1=1 then x.2.2 else x.1
 if c=0∨c=1 then 1 else if c=3∨c=4 then 3 else 2
theorem UY(B:aE mb){t:Told}(h:TK t)(d:Nat):CallOK (g0 mb) 810 [aR t] none (d+20) [] (.ok (.ref 0)) [tF t]:=by
 obtain⟨c,v,l,r⟩:=t
 have key:∀x∈tdK,tpL mb d v [UZ x] x=tpR mb d v x:=by
  apply aA
  kernel_rfl
 have k:=key (c,l,r) h
 unfold tpL tpR at k
 exact mkC (core:=[]) B (ns:=[UZ (c,l,r)]) (F:=kF) rfl aC k (by simp) (fun _ h=>nomatch h)
end
end
section
open PySem.Calls
noncomputable def scO(sc:Scs)(k:Nat):SO:=.list [cmV (sc k).1,cmV (sc k).2]
noncomputable def aM(W:Wd)(sc:Scs)(L M S:List SV):List SO :=
 [.tuple [.ref 1,.ref 2,.ref 3,.int W.lim,.ref 4,.ref 5,.ref 6],
  .list [.ref 7,.ref 8,.ref 9,.ref 10,.ref 11],
  .list [oR W.s0,oR W.s1,oR W.s2,oR W.s3,oR W.s4],
  .list [aR W.f0,aR W.f1,aR W.f2,aR W.f3,aR W.f4,aR W.f5],
  .clist L,.clist M,.clist S,scO sc 0,scO sc 1,scO sc 2,scO sc 3,scO sc 4]
noncomputable def frV(o:Bool)(fr:Str):SV:=bif o then .str fr else .ostr (some fr)
section
variable(mb:Bt)
noncomputable def kM(W:Wd)(sc:Scs)(c:Cmd)(fr:Str)(deep:Int)(fast:Bool)(L M S:List SV)(t:Told)(L' M' S':List SV)(D:Nat):Prop :=
 ∀d,D≤d→CallOK (g0 mb) 796 [.ref 0,.str c.1.str,.int (c.2:Nat),.ostr (some fr),.int deep,.bool fast] none d (aM W sc L M S) (.ok (aR t)) (aM W sc L' M' S')
noncomputable def oO(W:Wd)(sc:Scs)(k:Nat)(o:Bool)(fr:Str)(deep:Int)(fast:Bool)(L M S:List SV)(t:Told)(L' M' S':List SV)(D:Nat):Prop :=
 ∀d,D≤d→CallOK (g0 mb) 803 [.ref 0,.int k,frV o fr,.int deep,.bool fast] none d (aM W sc L M S) (.ok (aR t)) (aM W sc L' M' S')
end
section
variable{mb:Bt}{W:Wd}{sc:Scs}{fr:Str}{deep:Int}{fast:Bool}{L M S L1 M1 S1 L' M' S':List SV}{t t1:Told}{D:Nat}{k:Nat}
theorem EX(h:oO mb W sc k false fr deep fast L M S t L' M' S' D):∀o,oO mb W sc k o fr deep fast L M S t L' M' S' D
 |false=>h
 |true=>fun d hd A ρ s N vs hv RR post=>h d hd A ρ s N vs (by
  match vs,hv with
  |[a,b,c,e,f],hv=>exact⟨hv.1,hv.2.1,hv.2.2.1,hv.2.2.2.1,hv.2.2.2.2.1,trivial⟩
  |[],hv=>exact hv.elim
  |[a],hv=>exact hv.2.elim
  |[a,b],hv=>exact hv.2.2.elim
  |[a,b,c],hv=>exact hv.2.2.2.elim
  |[a,b,c,e],hv=>exact hv.2.2.2.2.elim
  |a::b::c::e::f::g::r,hv=>exact hv.2.2.2.2.2.elim) RR post
noncomputable def lY(W:Wd)(sc:Scs)(c:Cmd)(fr:Str)(deep:Int)(fast:Bool)(L M S:List SV)(t:Told)(L' M' S':List SV)(d:Nat):Pl :=
 .fr 796 [.ref 0,.str c.1.str,.int (c.2:Nat),.ostr (some fr),.int deep,.bool fast] none d (aM W sc L M S) (.ok (aR t)) (aM W sc L' M' S') (List.range 12) [] wid
noncomputable def n5:List Nat:=[0,1,2,3,4]
noncomputable def ruL(mb:Bt)(W:Wd)(sc:Scs)(fr:Str)(deep:Int)(fast:Bool)(L M S:List SV)(d:Nat)(ps:List Pl)(k:Nat):Option FT :=
 cH wid (List.range (aM W sc L M S).length++[]) [] ps (bH mb [796] 100 iR none [.ref 0,.int k,.ostr (some fr),.int deep,.bool fast] (aM W sc L M S) (d+1) ps [])
noncomputable def ruR(mb:Bt)(W:Wd)(sc:Scs)(fr:Str)(deep:Int)(fast:Bool)(L M S:List SV)(t:Told)(L' M' S':List SV)(d:Nat)(ps:List Pl)(k:Nat):Option FT :=
 cG (.ok (aR t)) (aM W sc L' M' S') ps (bH mb [796] 100 iR none [.ref 0,.int k,.ostr (some fr),.int deep,.bool fast] (aM W sc L M S) (d+1) ps [])
theorem EY(B:aE mb){d:Nat}{ps:List Pl}{k:Nat}(h:ruL mb W sc fr deep fast L M S d ps k=ruR mb W sc fr deep fast L M S t L' M' S' d ps k)(o:∀p∈ps,p.OK mb) :
  CallOK (g0 mb) 803 [.ref 0,.int k,.ostr (some fr),.int deep,.bool fast] none (d+1) (aM W sc L M S) (.ok (aR t)) (aM W sc L' M' S'):=by
 unfold ruL ruR at h
 exact mkC B (ns:=[]) (F:=iR) rfl aC h rfl o
theorem nE(h:k≤4):k∈n5:=List.mem_range.mpr (Nat.lt_succ_of_le h:k<5)
theorem aAc(B:aE mb)(hk:k≤4)(hn:t1.1≠0)(ht:TK t1)(h1:kM mb W sc (sc k).1 fr deep fast L M S t1 L1 M1 S1 D):oO mb W sc k false fr deep fast L M S t1 L1 M1 S1 (max D 20+1):=by
 intro d hd
 obtain⟨d,rfl,hd2⟩:=d20 hd
 have o:(lY W sc (sc k).1 fr deep fast L M S t1 L1 M1 S1 (d+19)).OK mb:=⟨h1 (d+19) (by assumption),aC⟩
 obtain⟨c,v,l,r⟩:=t1
 have hx:(c,l,r)∈exK:=by
  rcases List.mem_cons.mp ht with e|h
  ·exact absurd (congrArg Prod.fst e) hn
  ·exact h
 have key:∀k∈n5,∀x∈exK,ruL mb W sc fr deep fast L M S (d+19) [lY W sc (sc k).1 fr deep fast L M S (x.1,v,x.2.1,x.2.2) L1 M1 S1 (d+19)] k=ruR mb W sc fr deep fast L M S (x.1,v,x.2.1,x.2.2) L1 M1 S1 (d+19) [lY W sc (sc k).1 fr deep fast L M S (x.1,v,x.2.1,x.2.2) L1 M1 S1 (d+19)] k:=by
  clear hx ht hn o h1 hk
  intro k hk x hx
  revert k
  apply aA
  revert x
  apply aA
  kernel_rfl
 refine EY (t:=(c,v,l,r)) (k:=k) (ps:=[lY W sc (sc k).1 fr deep fast L M S (c,v,l,r) L1 M1 S1 (d+19)]) B ?_ (ok1 o)
 exact key k (nE hk) (c,l,r) hx
theorem aAb(B:aE mb)(hk:k≤4)(hn:t1=(0,t1.2.1,0,0))(ht:TK t)(h1:kM mb W sc (sc k).1 fr deep fast L M S t1 L1 M1 S1 D)(h2:kM mb W sc (sc k).2 fr deep fast L1 M1 S1 t L' M' S' D):oO mb W sc k false fr deep fast L M S t L' M' S' (max D 20+1):=by
 intro d hd
 obtain⟨d,rfl,hd2⟩:=d20 hd
 have o:(lY W sc (sc k).1 fr deep fast L M S t1 L1 M1 S1 (d+19)).OK mb:=⟨h1 (d+19) (by assumption),aC⟩
 have o2:(lY W sc (sc k).2 fr deep fast L1 M1 S1 t L' M' S' (d+19)).OK mb:=⟨h2 (d+19) (by assumption),aC⟩
 obtain⟨c1,v1,l1,r1⟩:=t1
 simp only[Prod.mk.injEq,true_and]at hn
 obtain⟨rfl,rfl,rfl⟩:=hn
 obtain⟨c,v,l,r⟩:=t
 have hx:(c,l,r)∈tdK:=ht
 have key:∀k∈n5,∀x∈tdK,ruL mb W sc fr deep fast L M S (d+19) [lY W sc (sc k).2 fr deep fast L1 M1 S1 (x.1,v,x.2.1,x.2.2) L' M' S' (d+19),lY W sc (sc k).1 fr deep fast L M S (0,v1,0,0) L1 M1 S1 (d+19)] k=ruR mb W sc fr deep fast L M S (x.1,v,x.2.1,x.2.2) L' M' S' (d+19) [lY W sc (sc k).2 fr deep fast L1 M1 S1 (x.1,v,x.2.1,x.2.2) L' M' S' (d+19),lY W sc (sc k).1 fr deep fast L M S (0,v1,0,0) L1 M1 S1 (d+19)] k:=by
  clear hx ht o o2 h1 h2 hk
  intro k hk x hx
  revert k
  apply aA
  revert x
  apply aA
  kernel_rfl
 refine EY (t:=(c,v,l,r)) (k:=k) (ps:=[lY W sc (sc k).2 fr deep fast L1 M1 S1 (c,v,l,r) L' M' S' (d+19),lY W sc (sc k).1 fr deep fast L M S (0,v1,0,0) L1 M1 S1 (d+19)]) B ?_ (ok2 o2 o)
 exact key k (nE hk) (c,l,r) hx
end
end
section
open PySem.Calls
section
variable{mb:Bt}{W:Wd}{sc:Scs}{fr:Str}{deep:Int}{fast:Bool}{L M S L1 M1 S1 L' M' S':List SV}{t t1:Told}{D:Nat}{k n:Nat}
noncomputable def doA(mb:Bt)(W:Wd)(sc:Scs)(v:Str)(fr:Str)(deep:Int)(fast:Bool)(L M S:List SV)(d:Nat)(ps:List Pl)(pr:List Int)(n:Nat):Option (Except SV SV×St) :=
 bH mb [754,803,789] 100 sN none [.ref 0,.str v,.int n,.ostr (some fr),.int deep,.bool fast] (aM W sc L M S) (d+1) ps pr
theorem fH(B:aE mb){v:Str}{d:Nat}{ps:List Pl}{pr:List Int}{rs:List Nat}{out:Except SV SV}{core':List SO}(h:cH wid (List.range (aM W sc L M S).length++rs.map ((aM W sc L M S).length+·)) [] ps (doA mb W sc v fr deep fast L M S d ps pr n)=cG out core' ps (doA mb W sc v fr deep fast L M S d ps pr n))(o:∀p∈ps,p.OK mb) :
  CallOK (g0 mb) 796 [.ref 0,.str v,.int n,.ostr (some fr),.int deep,.bool fast] none (d+1) (aM W sc L M S) out core':=by
 unfold doA at h
 exact mkR B [754,803,789] ps pr rs [] (F:=sN) rfl aC h o
theorem sR(t:Told)(h:∀d,D≤d→CallOK (g0 mb) 796 [.ref 0,.str v,.int n,.ostr (some fr),.int deep,.bool fast] none d (aM W sc L M S) (.ok (.ref 12)) (aM W sc L' M' S'++[.tuple (tG t)])) :
  ∀d,D≤d→CallOK (g0 mb) 796 [.ref 0,.str v,.int n,.ostr (some fr),.int deep,.bool fast] none d (aM W sc L M S) (.ok (aR t)) (aM W sc L' M' S') :=
 fun d hd=>CallOK.frt0 (X:=aM W sc L' M' S') (h d hd) rfl rfl rfl rfl
theorem aBp(B:aE mb)(hn:n≤5):kM mb W sc (.x,n) fr deep fast L M S (1,"invalid command name \"x\"",0,0) L M S 20:=by
 refine sR _ fun d hd=>?_
 obtain⟨d,rfl⟩:=bF (n:=20) hd
 have key:∀n∈n6,cH wid (List.range (aM W sc L M S).length++[0].map ((aM W sc L M S).length+·)) [] [] (doA mb W sc "x" fr deep fast L M S (d+19) [] [] n)=cG (.ok (.ref 12)) (aM W sc L M S++[.tuple (tG (1,"invalid command name \"x\"",0,0))]) [] (doA mb W sc "x" fr deep fast L M S (d+19) [] [] n):=by
  apply aA
  kernel_rfl
 exact fH B (key n (eH hn)) (fun _ h=>nomatch h)
theorem aBq(B:aE mb)(hn:n≤5)(hL:L.length≤100000):kM mb W sc (.t,n) fr deep fast L M S (0,vS n,0,0) (L++[bM "t" n fr]) M S 20:=by
 refine sR _ fun d hd=>?_
 obtain⟨d,rfl⟩:=bF (n:=20) hd
 have key:∀n∈n6,cH wid (List.range (aM W sc L M S).length++[1].map ((aM W sc L M S).length+·)) [] [.gv (.small L) none] (doA mb W sc "t" fr deep fast L M S (d+19) [.gv (.small L) none] [] n)=cG (.ok (.ref 12)) (aM W sc (L++[bM "t" n fr]) M S++[.tuple (tG (0,vS n,0,0))]) [.gv (.small L) none] (doA mb W sc "t" fr deep fast L M S (d+19) [.gv (.small L) none] [] n):=by
  apply aA
  kernel_rfl
 exact fH B (key n (eH hn)) (gv1 hL)
theorem aBr(B:aE mb)(hn:n≤5)(hL:L.length≤100000):kM mb W sc (.p,n) fr deep fast L M S (1,"cannot yield: C stack busy",0,0) (L++[bM "p" n fr]) M S 20:=by
 refine sR _ fun d hd=>?_
 obtain⟨d,rfl⟩:=bF (n:=20) hd
 have key:∀n∈n6,cH wid (List.range (aM W sc L M S).length++[1].map ((aM W sc L M S).length+·)) [] [.gv (.small L) none] (doA mb W sc "p" fr deep fast L M S (d+19) [.gv (.small L) none] [] n)=cG (.ok (.ref 12)) (aM W sc (L++[bM "p" n fr]) M S++[.tuple (tG (1,"cannot yield: C stack busy",0,0))]) [.gv (.small L) none] (doA mb W sc "p" fr deep fast L M S (d+19) [.gv (.small L) none] [] n):=by
  apply aA
  kernel_rfl
 exact fH B (key n (eH hn)) (gv1 hL)
theorem aBt(B:aE mb)(hn:n≤5)(hL:L.length≤100000):kM mb W sc (.f,n) fr deep fast L M S (W.fa n) (L++[bM "f" n fr]) M S 20:=by
 intro d hd
 obtain⟨d,rfl⟩:=bF (n:=20) hd
 have key:∀n∈n6,cH wid (List.range (aM W sc L M S).length++[].map ((aM W sc L M S).length+·)) [] [.gv (.small L) none] (doA mb W sc "f" fr deep fast L M S (d+19) [.gv (.small L) none] [] n)=cG (.ok (aR (W.fa n))) (aM W sc (L++[bM "f" n fr]) M S) [.gv (.small L) none] (doA mb W sc "f" fr deep fast L M S (d+19) [.gv (.small L) none] [] n):=by
  apply aA
  kernel_rfl
 exact fH B (key n (eH hn)) (gv1 hL)
noncomputable def tR(W:Wd)(sc:Scs)(n:Nat)(o:Bool)(fr:Str)(deep:Int)(fast:Bool)(L M S:List SV)(t:Told)(L' M' S':List SV)(d:Nat):Pl :=
 .fr 803 [.ref 0,.int n,frV o fr,.int deep,.bool fast] none d (aM W sc L M S) (.ok (aR t)) (aM W sc L' M' S') (List.range 12) [] wid
noncomputable def RK(W:Wd)(sc:Scs)(n d:Nat):Pl:=.fr 754 [.ref 0] none d [scO sc n] (.ok (.txt (W.tx n))) [scO sc n] [7+n] [] wid
noncomputable def WR(t:Told)(d:Nat):Pl:=.fr 789 [aR t] none d [] (.ok (aR (aX t))) [] [] [] wid
theorem zL(B:aE mb)(e:W.tx n=[encC (sc n).1,encC (sc n).2])(h1:(sc n).1.2≤5)(h2:(sc n).2.2≤5)(d:Nat):(RK W sc n (d+20)).OK mb:=⟨by rw[e];exact OS B h1 h2 d,aC⟩
theorem MB(B:aE mb)(h:TK t)(d:Nat):(WR t (d+20)).OK mb:=⟨UB B h d,aC⟩
theorem aBu(B:aE mb)(hn:n∈n4)(hL:L.length≤100000)(h:oO mb W sc n false fr (deep+1) false (L++[bM "d" n fr]) M S t L' M' S' D):kM mb W sc (.d,n) fr deep fast L M S t L' M' S' (max D 20+1):=by
 intro d hd
 obtain⟨d,rfl,hd2⟩:=d20 hd
 have o:(tR W sc n false fr (deep+1) false (L++[bM "d" n fr]) M S t L' M' S' (d+19)).OK mb:=⟨h _ (by assumption),aC⟩
 have key:∀n∈n4,cH wid (List.range (aM W sc L M S).length++[].map ((aM W sc L M S).length+·)) [] [tR W sc n false fr (deep+1) false (L++[bM "d" n fr]) M S t L' M' S' (d+19),.gv (.small L) none] (doA mb W sc "d" fr deep fast L M S (d+19) [tR W sc n false fr (deep+1) false (L++[bM "d" n fr]) M S t L' M' S' (d+19),.gv (.small L) none] [] n)=cG (.ok (aR t)) (aM W sc L' M' S') [tR W sc n false fr (deep+1) false (L++[bM "d" n fr]) M S t L' M' S' (d+19),.gv (.small L) none] (doA mb W sc "d" fr deep fast L M S (d+19) [tR W sc n false fr (deep+1) false (L++[bM "d" n fr]) M S t L' M' S' (d+19),.gv (.small L) none] [] n):=by
  clear h o
  apply aA
  kernel_rfl
 exact fH B (key n hn) (ok2 o hL)
noncomputable def mPs(W:Wd)(sc:Scs)(n:Nat)(fr:Str)(deep:Int)(L M S:List SV)(t:Told)(L' M' S':List SV)(d:Nat):List Pl :=
 [tR W sc n false fr (deep+1) true (L++[bM "m" n fr]) (M++[mkE W n false]) S t L' M' S' d,.gv (.small M) none,RK W sc n d,.gv (.small L) none]
theorem ok4 {p p' p'' p3:Pl}(h:p.OK mb)(h':p'.OK mb)(h'':p''.OK mb)(h3:p3.OK mb):∀ q∈[p,p',p'',p3],q.OK mb:=fun q hq=>by
 rcases List.mem_cons.mp hq with rfl|hq
 ·exact h
 ·exact ok3 h' h'' h3 q hq
theorem aBs (B:aE mb)(hn:n∈n4)(hL:L.length≤100000)(hM:M.length≤100000)(e:W.tx n=[encC (sc n).1,encC (sc n).2])(h1:(sc n).1.2≤5)(h2:(sc n).2.2≤5)
  (h:oO mb W sc n false fr (deep+1) true (L++[bM "m" n fr]) (M++[mkE W n false]) S t L' M' S' D):kM mb W sc (.m,n) fr deep fast L M S t L' M' S' (max D 40+1):=by
 intro d hd
 obtain ⟨d,rfl⟩:∃ d',d=d'+20+1:=bF (n:=21) (Nat.le_trans (by decide) (mxr hd))
 have o:(tR W sc n false fr (deep+1) true (L++[bM "m" n fr]) (M++[mkE W n false]) S t L' M' S' (d+20)).OK mb:=⟨h _ (Nat.le_of_add_le_add_right (mxl hd:D+1≤d+20+1)),aC⟩
 have key:∀ n∈n4,cH wid (List.range (aM W sc L M S).length++[].map ((aM W sc L M S).length+·)) [] (mPs W sc n fr deep L M S t L' M' S' (d+20)) (doA mb W sc "m" fr deep fast L M S (d+20) (mPs W sc n fr deep L M S t L' M' S' (d+20)) [] n)=cG (.ok (aR t)) (aM W sc L' M' S') (mPs W sc n fr deep L M S t L' M' S' (d+20)) (doA mb W sc "m" fr deep fast L M S (d+20) (mPs W sc n fr deep L M S t L' M' S' (d+20)) [] n):=by
  clear h o e h1 h2
  apply aA
  kernel_rfl
 exact fH B (key n hn) (ok4 o hM (zL B e h1 h2 d) hL)
end
end
section
open PySem.Calls
section
variable{mb:Bt}{W:Wd}{sc:Scs}{fr:Str}{deep:Int}{fast:Bool}{L M S M0 S0 L1 M1 S1 L' M' S':List SV}{t t1:Told}{D:Nat}{k n:Nat}
noncomputable def xs4:List (Bool×Bool):=[(true,true),(true,false),(false,true),(false,false)]
theorem mG(x:Bool×Bool):x∈xs4:=by obtain⟨a,b⟩:=x;cases a<;>cases b<;>decide
noncomputable def dnL(mb:Bt)(W:Wd)(sc:Scs)(fr:Str)(deep:Int)(fast:Bool)(L M S:List SV)(d:Nat)(ps:List Pl)(pr:List Int)(rs:List Nat)(n:Nat):Option FT :=
 cH wid (List.range (aM W sc L M S).length++rs.map ((aM W sc L M S).length+·)) [] ps (doA mb W sc "n" fr deep fast L M S d ps pr n)
noncomputable def dnR(mb:Bt)(W:Wd)(sc:Scs)(fr:Str)(deep:Int)(fast:Bool)(L M S:List SV)(d:Nat)(ps:List Pl)(pr:List Int)(out:Except SV SV)(core':List SO)(n:Nat):Option FT :=
 cG out core' ps (doA mb W sc "n" fr deep fast L M S d ps pr n)
noncomputable def nlP(W:Wd)(deep:Int)(L:List SV):List Pl:=[.gv (.lt W.lim (deep+1) true) none,.gv (.small L) none]
theorem YS(B:aE mb)(hn:n∈n4)(hL:L.length≤100000)(hl:deep+1>W.lim):kM mb W sc (.n,n) fr deep fast L M S tH (L++[bM "n" n fr]) M S 20:=by
 refine sR _ fun d hd=>?_
 obtain⟨d,rfl⟩:=bF (n:=20) hd
 have key:∀n∈n4,∀x∈xs4,dnL mb (W.setsh n x) sc fr deep fast L M S (d+19) (nlP (W.setsh n x) deep L) [1] [1] n=dnR mb (W.setsh n x) sc fr deep fast L M S (d+19) (nlP (W.setsh n x) deep L) [1] (.ok (.ref 12)) (aM (W.setsh n x) sc (L++[bM "n" n fr]) M S++[.tuple (tG tH)]) n:=by
  intro n hn x hx
  revert n
  apply aA
  revert x
  apply aA
  kernel_rfl
 have k:=key n hn (W.sh n) (mG _)
 rw[dZ W n hn]at k
 exact fH B k (ok2 (show decide (W.lim<deep+1)=true from decide_eq_true hl) hL)
noncomputable def nPs(W:Wd)(sc:Scs)(n:Nat)(x:Bool×Bool)(fr:Str)(deep:Int)(fast:Bool)(L M0 S0:List SV)(t:Told)(L' M' S':List SV)(mid:List Pl)(d:Nat):List Pl :=
 (bif x.1 then[WR t d]else[])++[tR W sc n x.2 (bif x.2 then fS n else fr) (deep+1) fast (L++[bM "n" n fr]) M0 S0 t L' M' S' d]++mid++[.gh,RK W sc n d,.gv (.lt W.lim (deep+1) false) none,.gv (.small L) none]
theorem xF(B:aE mb){mid:List Pl}{d:Nat}(ht:TK t)(e:W.tx n=[encC (sc n).1,encC (sc n).2])(h1:(sc n).1.2≤5)(h2:(sc n).2.2≤5)(hL:L.length≤100000)(hl:¬(deep+1>W.lim))(hm:∀p∈mid,p.OK mb)
  (h:oO mb W sc n false (bif (W.sh n).2 then fS n else fr) (deep+1) fast (L++[bM "n" n fr]) M0 S0 t L' M' S' D)(hd:D≤d+20):∀p∈nPs W sc n (W.sh n) fr deep fast L M0 S0 t L' M' S' mid (d+20),p.OK mb:=by
 intro p hp
 unfold nPs at hp
 rcases List.mem_append.mp hp with hp|hp
 ·rcases List.mem_append.mp hp with hp|hp
  ·rcases List.mem_append.mp hp with hp|hp
   ·cases q:(W.sh n).1 with
    |true=>rw[q]at hp;rw[cond_true,List.mem_singleton]at hp;subst hp;exact MB B ht d
    |false=>rw[q]at hp;cases hp
   ·rw[List.mem_singleton]at hp;subst hp
    exact⟨EX h _ _ hd,aC⟩
  ·exact hm p hp
 ·refine ok4 (p:=.gh) trivial (zL B e h1 h2 d) (p'':=.gv (.lt W.lim (deep+1) false) none) (p3:=.gv (.small L) none) ?_ hL p hp
  exact decide_eq_false (fun z=>hl z)
theorem YV(B:aE mb)(hn:n∈n4)(hL:L.length≤100000)(hl:¬(deep+1>W.lim))(ht:TK t)(e:W.tx n=[encC (sc n).1,encC (sc n).2])(h1:(sc n).1.2≤5)(h2:(sc n).2.2≤5)
  (h:oO mb W sc n false (bif (W.sh n).2 then fS n else fr) (deep+1) false (L++[bM "n" n fr]) M S t L' M' S' D):kM mb W sc (.n,n) fr deep false L M S (if(W.sh n).1=true then aX t else t) L' M' S' (max D 40+1):=by
 intro d hd
 obtain⟨d,rfl⟩:∃d',d=d'+20+1:=⟨d - 21,by lia⟩
 have key:∀n∈n4,∀x∈xs4,dnL mb (W.setsh n x) sc fr deep false L M S (d+20) (nPs (W.setsh n x) sc n x fr deep false L M S t L' M' S' [] (d+20)) [0] [] n=dnR mb (W.setsh n x) sc fr deep false L M S (d+20) (nPs (W.setsh n x) sc n x fr deep false L M S t L' M' S' [] (d+20)) [0] (.ok (aR (if x.1=true then aX t else t))) (aM (W.setsh n x) sc L' M' S') n:=by
  clear h ht e h1 h2
  intro n hn x hx
  revert n
  apply aA
  revert x
  apply aA
  kernel_rfl
 have k:=key n hn (W.sh n) (mG _)
 rw[dZ W n hn]at k
 exact fH B k (xF B ht e h1 h2 hL hl (fun _ h=>nomatch h) h (by lia))
theorem YU(B:aE mb)(hn:n∈n4)(hL:L.length≤100000)(hl:¬(deep+1>W.lim))(ht:TK t)(e:W.tx n=[encC (sc n).1,encC (sc n).2])(h1:(sc n).1.2≤5)(h2:(sc n).2.2≤5)(hS:DMem [.txt (W.tx n),.bool (W.sh n).1] S true)
  (h:oO mb W sc n false (bif (W.sh n).2 then fS n else fr) (deep+1) true (L++[bM "n" n fr]) M S t L' M' S' D):kM mb W sc (.n,n) fr deep true L M S (if(W.sh n).1=true then aX t else t) L' M' S' (max D 40+1):=by
 intro d hd
 obtain⟨d,rfl⟩:∃d',d=d'+20+1:=⟨d - 21,by lia⟩
 have key:∀n∈n4,∀x∈xs4,dnL mb (W.setsh n x) sc fr deep true L M S (d+20) (nPs (W.setsh n x) sc n x fr deep true L M S t L' M' S' [.gv (.mem [.txt (W.tx n),.bool x.1] S true) none] (d+20)) [0,1] [] n=dnR mb (W.setsh n x) sc fr deep true L M S (d+20) (nPs (W.setsh n x) sc n x fr deep true L M S t L' M' S' [.gv (.mem [.txt (W.tx n),.bool x.1] S true) none] (d+20)) [0,1] (.ok (aR (if x.1=true then aX t else t))) (aM (W.setsh n x) sc L' M' S') n:=by
  clear h ht e h1 h2 hS
  intro n hn x hx
  revert n
  apply aA
  revert x
  apply aA
  kernel_rfl
 have k:=key n hn (W.sh n) (mG _)
 rw[dZ W n hn]at k
 exact fH B k (xF B ht e h1 h2 hL hl (ok1 (p:=.gv (.mem [.txt (W.tx n),.bool (W.sh n).1] S true) none) hS) h (by lia))
theorem YT(B:aE mb)(hn:n∈n4)(hL:L.length≤100000)(hM:M.length≤100000)(hS':S.length≤100000)(hl:¬(deep+1>W.lim))(ht:TK t)(e:W.tx n=[encC (sc n).1,encC (sc n).2])(h1:(sc n).1.2≤5)(h2:(sc n).2.2≤5)(hS:DMem [.txt (W.tx n),.bool (W.sh n).1] S false)
  (h:oO mb W sc n false (bif (W.sh n).2 then fS n else fr) (deep+1) true (L++[bM "n" n fr]) (M++[mkE W n (W.sh n).1]) (S++[mkE W n (W.sh n).1]) t L' M' S' D):kM mb W sc (.n,n) fr deep true L M S (if(W.sh n).1=true then aX t else t) L' M' S' (max D 40+1):=by
 intro d hd
 obtain⟨d,rfl⟩:∃d',d=d'+20+1:=⟨d - 21,by lia⟩
 have key:∀n∈n4,∀x∈xs4,dnL mb (W.setsh n x) sc fr deep true L M S (d+20) (nPs (W.setsh n x) sc n x fr deep true L (M++[mkE W n x.1]) (S++[mkE W n x.1]) t L' M' S' [.gv (.small M) none,.gv (.small S) none,.gv (.mem [.txt (W.tx n),.bool x.1] S false) none] (d+20)) [0,0] [] n=dnR mb (W.setsh n x) sc fr deep true L M S (d+20) (nPs (W.setsh n x) sc n x fr deep true L (M++[mkE W n x.1]) (S++[mkE W n x.1]) t L' M' S' [.gv (.small M) none,.gv (.small S) none,.gv (.mem [.txt (W.tx n),.bool x.1] S false) none] (d+20)) [0,0] (.ok (aR (if x.1=true then aX t else t))) (aM (W.setsh n x) sc L' M' S') n:=by
  clear h ht e h1 h2 hS
  intro n hn x hx
  revert n
  apply aA
  revert x
  apply aA
  kernel_rfl
 have k:=key n hn (W.sh n) (mG _)
 rw[dZ W n hn]at k
 exact fH B k (xF B ht e h1 h2 hL hl (ok3 (p:=.gv (.small M) none) (p':=.gv (.small S) none) (p'':=.gv (.mem [.txt (W.tx n),.bool (W.sh n).1] S false) none) hM hS' hS) h (by lia))
end
end
section
open PySem.Calls
noncomputable abbrev sOK(x:Str):Prop:=PyData.strOk x=true
theorem EL{x:Str}(h:(x.cps.toList.all fun c=>decide (c<1114112))=true):sOK x:=by
 show(x.cps.all fun c=>decide (c<1114112))=true
 rw[←Array.all_toList];exact h
theorem qV(v:Vb):sOK v.str:=by cases v<;>decide +kernel
theorem zC(n:Nat):sOK (aY n):=by unfold aY;split<;>decide +kernel
theorem EM(n:Nat):sOK (fS n):=by unfold fS;split<;>decide +kernel
theorem QX(n:Nat):sOK (vS n):=by unfold vS;split<;>decide +kernel
theorem qW{x:Str}(h:sOK x):(x.cps.toList.all fun c=>decide (c<1114112))=true:=by
 have h:(x.cps.all fun c=>decide (c<1114112))=true:=h
 rw[←Array.all_toList]at h;exact h
theorem LH(a b:Cmd):sOK (aO [encC a,encC b]):=by
 refine EL ?_
 rw[mO]
 simp only[List.all_append,List.all_cons,Bool.and_eq_true]
 exact⟨qW (qV _),by decide,qW (zC _),by decide,qW (qV _),by decide,qW (zC _)⟩
noncomputable def GE(e:SV):Prop:=∃d,dOf e=some d∧d.canLay0=true∧d.depth≤2∧PyData.eqv d d=true
noncomputable def GoodL (L:List SV):Prop:=∀ e∈L,GE e
theorem sV:∀ {L:List SV},GoodL L→DEq L L
 | [],_=>⟨[],rfl,rfl,rfl,by decide,rfl⟩
 | x::r,h=>by
  obtain ⟨d,h1,h2,h3,h4⟩:=h x (.head _)
  obtain ⟨ds,g1,_,g2,g3,g4⟩:=sV (L:=r) fun e he=>h e (.tail _ he)
  have e:dsOf (x::r)=some (d::ds):=by
   show mV (dOf x) (dsOf r)=_
   rw [h1,g1];rfl
  refine ⟨d::ds,e,e,?_,?_,?_⟩
  ·simp only [PyData.canLayAll0,h2,g2,Bool.and_self]
  ·simp only [PyData.depthAll];lia
  ·simp only [PyData.eqvAll,h4,g4,Bool.and_self]
theorem vP{v:Str}{n:Nat}{fr:Str}(hv:sOK v)(hf:sOK fr):GE (bM v n fr):=by
 refine⟨.tuple [.str v,.int n,.str fr],rfl,?_,?_,?_⟩
 ·simp only[PyData.canLay0,PyData.canLayAll0,Bool.and_true,Bool.true_and,Bool.and_eq_true];exact⟨hv,hf⟩
 ·simp[PyData.depth,PyData.depthAll]
 ·simp[PyData.eqv,PyData.eqvAll]
theorem vO{W:Wd}{n:Nat}{b:Bool}(h:sOK (aO (W.tx n))):GE (mkE W n b):=by
 refine⟨.tuple [.str (aO (W.tx n)),.bool b],rfl,?_,?_,?_⟩
 ·simp only[PyData.canLay0,PyData.canLayAll0,Bool.and_true];exact h
 ·simp[PyData.depth,PyData.depthAll]
 ·simp[PyData.eqv,PyData.eqvAll]
theorem GoodL.snoc{L:List SV}{e:SV}(h:GoodL L)(he:GE e):GoodL (L++[e]):=fun x hx=>by
 rcases List.mem_append.mp hx with h'|h'
 ·exact h x h'
 ·rw[List.mem_singleton]at h';subst h';exact he
structure eV(s:PS):Prop where
 L:GoodL s.L
 M:GoodL s.M
section
variable{W:Wd}{sc:Scs}
theorem wf5{k:Nat}{c:Cmd}(h:c.WF W k):c.2≤5:=by
 obtain⟨v,n⟩:=c
 cases v<;>first|exact h|(have:=h.2.1;show n≤5;omega)|(have:=h.2;show n≤5;lia)
theorem iY(O:WOK W sc){n:Nat}(h:n≤4):sOK (aO (W.tx n)):=by rw[O.tx n h];exact LH _ _
theorem EE{s:Str}:TK (1,s,0,0):=by
 show((1:Int),(0:Int),(0:Int))∈tdK
 decide
theorem kJ (O:WOK W sc){f k:Nat}(ih:∀ k,k≤4→∀ fr deep fast s,eV s→sOK fr→eV (rule W sc f k fr deep fast s).2∧TK (rule W sc f k fr deep fast s).1){c:Cmd}(hc:c.WF W k)(fr:Str)(deep:Int)(fast:Bool)(s:PS)(hs:eV s)(hf:sOK fr) :
  eV (doC W (rule W sc f) c fr deep fast s).2∧TK (doC W (rule W sc f) c fr deep fast s).1:=by
 obtain ⟨v,n⟩:=c
 have lg:∀ (v:Vb),eV (s.lg v.str n fr):=fun v=>⟨hs.L.snoc (vP (qV v) hf),hs.M⟩
 cases v with
 | x=>exact ⟨hs,EE⟩
 | t=>exact ⟨lg .t,.head _⟩
 | p=>exact ⟨lg .p,EE⟩
 | f=>exact ⟨lg .f,.tail _ (sQ (O.fa n hc))⟩
 | d=>exact ih n hc.2.1 fr (deep+1) false _ (lg .d) hf
 | m=>exact ih n hc.2.1 fr (deep+1) true _ ⟨(lg .m).L,hs.M.snoc (vO (iY O hc.2.1))⟩ hf
 | n =>
  show eV (if deep+1>W.lim then _ else _:Told×PS).2∧TK (if deep+1>W.lim then _ else _:Told×PS).1
  by_cases hl:deep+1>W.lim
  ·rw [if_pos hl];exact ⟨lg .n,EE⟩
  ·rw [if_neg hl]
   have hfr:sOK (bif (W.sh n).2 then fS n else fr):=by cases (W.sh n).2<;>first|exact hf|exact EM n
   have q:eV (if fast=true∧(aO (W.tx n),(W.sh n).1)∉s.S then { s.lg "n" n fr with M:=s.M++[mkE W n (W.sh n).1],S:=s.S++[(aO (W.tx n),(W.sh n).1)] } else s.lg "n" n fr):=by
    split
    ·exact ⟨(lg .n).L,hs.M.snoc (vO (iY O hc.2))⟩
    ·exact lg .n
   have:=ih n hc.2 (bif (W.sh n).2 then fS n else fr) (deep+1) fast _ q hfr
   refine ⟨this.1,?_⟩
   show TK (if (W.sh n).1=true then aX _ else _)
   split
   ·exact JI this.2
   ·exact this.2
theorem cR (O:WOK W sc):∀ f k,k≤4→∀ fr deep fast s,eV s→sOK fr→eV (rule W sc f k fr deep fast s).2∧TK (rule W sc f k fr deep fast s).1
 | 0,_,_,_,_,_,s,hs,_=>⟨hs,.head _⟩
 | f+1,k,hk,fr,deep,fast,s,hs,hf=>by
  obtain ⟨w1,w2⟩:=O.wf k hk
  have h1:=kJ O (cR O f) w1 fr deep fast s hs hf
  show eV (if _ then _ else _:Told×PS).2∧TK (if _ then _ else _:Told×PS).1
  split
  ·exact h1
  ·exact kJ O (cR O f) w2 fr deep fast _ h1.1 hf
noncomputable def dSn(x:Str×Bool):PyData:=.tuple [.str x.1,.bool x.2]
structure gT(sn:List SV)(S:List (Str×Bool)):Prop where
 ds:dsOf sn=some (S.map dSn)
 len:sn.length=S.length
 ok:∀x∈S,sOK x.1
theorem gT.nil:gT [] []:=⟨rfl,rfl,fun x h=>by cases h⟩
theorem qL{e:SV}{d:PyData}(he:dOf e=some d):∀{L:List SV}{ds:List PyData},dsOf L=some ds→dsOf (L++[e])=some (ds++[d])
 |[],ds,h=>by
  cases h
  show mV (dOf e) (dsOf [])=_
  rw[he];rfl
 |x::r,ds,h=>by
  obtain⟨a,l,h1,h2,rfl⟩:=zU (show mV (dOf x) (dsOf r)=_ from h)
  show mV (dOf x) (dsOf (r++[e]))=_
  rw[h1,qL he h2];rfl
theorem gT.snoc(O:WOK W sc){sn:List SV}{S:List (Str×Bool)}(h:gT sn S){n:Nat}(hn:n≤4)(b:Bool):gT (sn++[mkE W n b]) (S++[(aO (W.tx n),b)]):=by
 refine⟨?_,by simp[h.len],fun x hx=>?_⟩
 ·rw[List.map_append];exact qL rfl h.ds
 ·rcases List.mem_append.mp hx with h'|h'
  ·exact h.ok x h'
  ·rw[List.mem_singleton]at h';subst h';exact iY O hn
theorem JZ{S:List (Str×Bool)}(h:∀x∈S,sOK x.1):PyData.canLayAll0 (S.map dSn)=true:=by
 induction S with
 |nil=>rfl
 |cons x r ih =>
  simp only[List.map_cons,PyData.canLayAll0,dSn,PyData.canLay0,Bool.and_true,Bool.and_eq_true]
  exact⟨h x (.head _),ih fun y hy=>h y (.tail _ hy)⟩
theorem KG{S:List (Str×Bool)}{x:Str}{b:Bool}:((S.map dSn).any fun y=>PyData.eqv y (.tuple [.str x,.bool b]))=decide ((x,b)∈S):=by
 induction S with
 |nil=>rfl
 |cons y r ih =>
  rw[List.map_cons,List.any_cons,ih]
  have e:PyData.eqv (dSn y) (.tuple [.str x,.bool b])=decide ((x,b)=y):=by
   obtain⟨y1,y2⟩:=y
   simp only[dSn,PyData.eqv,PyData.eqvAll,Bool.and_true]
   by_cases h1:y1=x
   ·by_cases h2:y2=b
    ·subst h1;subst h2;simp
    ·have:¬((x,b)=(y1,y2)):=fun z=>h2 (congrArg Prod.snd z).symm
     simp[h2,this]
   ·have:¬((x,b)=(y1,y2)):=fun z=>h1 (congrArg Prod.fst z).symm
    simp[h1,this]
  rw[e,←Bool.decide_or]
  exact decide_eq_decide.mpr List.mem_cons.symm
theorem gT.mem(O:WOK W sc){sn:List SV}{S:List (Str×Bool)}(h:gT sn S){n:Nat}(hn:n≤4)(b:Bool):DMem [.txt (W.tx n),.bool b] sn (decide ((aO (W.tx n),b)∈S)):=by
 refine⟨[.str (aO (W.tx n)),.bool b],S.map dSn,rfl,h.ds,?_,JZ h.ok,by simp[PyData.depthAll,PyData.depth],KG⟩
 simp only[PyData.canLayAll0,PyData.canLay0,Bool.and_true]
 exact iY O hn
end
section
variable{mb:Bt}{W:Wd}{sc:Scs}
inductive RuR(mb:Bt)(W:Wd)(sc:Scs)(k:Nat)(fr:Str)(deep:Int)(fast:Bool)(s:PS)(sn:List SV)(q:Told×PS)(D:Nat):Prop
 |mk(sn':List SV)(h:gT sn' q.2.S)(u:oO mb W sc k false fr deep fast s.L s.M sn q.1 q.2.L q.2.M sn' D)
inductive DoR(mb:Bt)(W:Wd)(sc:Scs)(c:Cmd)(fr:Str)(deep:Int)(fast:Bool)(s:PS)(sn:List SV)(q:Told×PS)(D:Nat):Prop
 |mk(sn':List SV)(h:gT sn' q.2.S)(u:kM mb W sc c fr deep fast s.L s.M sn q.1 q.2.L q.2.M sn' D)
noncomputable def PZ(mb:Bt)(W:Wd)(sc:Scs)(f:Nat):Prop :=
 ∀k,k≤4→5≤f+k→∀fr deep fast s sn,sOK fr→eV s→gT sn s.S→eU s (gr f) →
  RuR mb W sc k fr deep fast s sn (rule W sc f k fr deep fast s) (60+20*f)
theorem JM(B:aE mb)(O:WOK W sc){f k:Nat}(hf:f≤4)(IH:PZ mb W sc f)(hk:5≤f+1+k){c:Cmd}(hc:c.WF W k)(fr:Str)(deep:Int)(fast:Bool)(s:PS)(sn:List SV)(hfr:sOK fr)(gs:eV s)(hs:gT sn s.S)(hr:eU s (1+gr f)) :
  DoR mb W sc c fr deep fast s sn (doC W (rule W sc f) c fr deep fast s) (70+20*f):=by
 obtain⟨v,n⟩:=c
 have hL:s.L.length≤100000:=sl hr.L
 have hM:s.M.length≤100000:=sl hr.M
 have hS:sn.length≤100000:=by rw[hs.len];exact Nat.le_trans (sl hr.S) (by decide)
 have lg:∀(v:Vb),eV (s.lg v.str n fr):=fun v=>⟨gs.L.snoc (vP (qV v) hfr),gs.M⟩
 cases v with
 |x=>exact⟨sn,hs,fun d hd=>aBp B hc d (lc hd (by decide))⟩
 |t=>exact⟨sn,hs,fun d hd=>aBq B hc hL d (lc hd (by decide))⟩
 |p=>exact⟨sn,hs,fun d hd=>aBr B hc hL d (lc hd (by decide))⟩
 |f=>exact⟨sn,hs,fun d hd=>aBt B hc hL d (lc hd (by decide))⟩
 |d =>
  obtain⟨h1,h2,h3⟩:=hc
  obtain⟨sn',q,h⟩:=IH n h2 (fk5 hk h1) fr (deep+1) false (s.lg "d" n fr) sn hfr (lg .d) hs (hr.le (s.le_lg _ _ _))
  exact⟨sn',q,fun d hd=>aBu B (gJ h1 h2) hL h d (mk3 hd (by decide) (by decide))⟩
 |m =>
  obtain⟨h1,h2,h3⟩:=hc
  obtain⟨w1,w2⟩:=O.wf n h2
  obtain⟨sn',q,h⟩:=IH n h2 (fk5 hk h1) fr (deep+1) true { s.lg "m" n fr with M:=s.M++[mkE W n false] } sn hfr ⟨(lg .m).L,gs.M.snoc (vO (iY O h2))⟩ hs (hr.le NC)
  exact⟨sn',q,fun d hd=>aBs B (gJ h1 h2) hL hM (O.tx n h2) (wf5 w1) (wf5 w2) h d (mk3 hd (by decide) (by decide))⟩
 |n =>
  obtain⟨h1,h2⟩:=hc
  obtain⟨w1,w2⟩:=O.wf n h2
  have hn:=gJ h1 h2
  by_cases hl:deep+1>W.lim
  ·have e:doC W (rule W sc f) (.n,n) fr deep fast s=(tH,s.lg "n" n fr):=by
    show(if deep+1>W.lim then _ else _)=_
    rw[if_pos hl]
   rw[e]
   exact⟨sn,hs,fun d hd=>YS B hn hL hl d (lc hd (by decide))⟩
  ·have e:doC W (rule W sc f) (.n,n) fr deep fast s=(let q:=rule W sc f n (bif (W.sh n).2 then fS n else fr) (deep+1) fast (if fast=true∧(aO (W.tx n),(W.sh n).1)∉s.S then{ s.lg "n" n fr with M:=s.M++[mkE W n (W.sh n).1],S:=s.S++[(aO (W.tx n),(W.sh n).1)] }else s.lg "n" n fr);(if(W.sh n).1=true then aX q.1 else q.1,q.2)):=by
    show(if deep+1>W.lim then _ else _)=_
    rw[if_neg hl]
   rw[e]
   have hfr':sOK (bif (W.sh n).2 then fS n else fr):=by cases(W.sh n).2<;>first|exact hfr|exact EM n
   have mem:=hs.mem O h2 (W.sh n).1
   cases fast with
   |false =>
    have ef:(if false=true∧(aO (W.tx n),(W.sh n).1)∉s.S then{ s.lg "n" n fr with M:=s.M++[mkE W n (W.sh n).1],S:=s.S++[(aO (W.tx n),(W.sh n).1)] }else s.lg "n" n fr)=s.lg "n" n fr:=if_neg fun z=>Bool.false_ne_true z.1
    rw[ef]
    obtain⟨sn',q,h⟩:=IH n h2 (fk5 hk h1) (bif (W.sh n).2 then fS n else fr) (deep+1) false (s.lg "n" n fr) sn hfr' (lg .n) hs (hr.le (s.le_lg _ _ _))
    exact⟨sn',q,fun d hd=>YV B hn hL hl (cR O f n h2 _ _ _ _ (lg .n) hfr').2 (O.tx n h2) (wf5 w1) (wf5 w2) h d (mk3 hd (by decide) (by decide))⟩
   |true =>
    by_cases hm:(aO (W.tx n),(W.sh n).1)∈s.S
    ·have ef:(if true=true∧(aO (W.tx n),(W.sh n).1)∉s.S then{ s.lg "n" n fr with M:=s.M++[mkE W n (W.sh n).1],S:=s.S++[(aO (W.tx n),(W.sh n).1)] }else s.lg "n" n fr)=s.lg "n" n fr:=if_neg fun z=>z.2 hm
     rw[ef]
     rw[decide_eq_true hm]at mem
     obtain⟨sn',q,h⟩:=IH n h2 (fk5 hk h1) (bif (W.sh n).2 then fS n else fr) (deep+1) true (s.lg "n" n fr) sn hfr' (lg .n) hs (hr.le (s.le_lg _ _ _))
     exact⟨sn',q,fun d hd=>YU B hn hL hl (cR O f n h2 _ _ _ _ (lg .n) hfr').2 (O.tx n h2) (wf5 w1) (wf5 w2) mem h d (mk3 hd (by decide) (by decide))⟩
    ·have ef:(if true=true∧(aO (W.tx n),(W.sh n).1)∉s.S then{ s.lg "n" n fr with M:=s.M++[mkE W n (W.sh n).1],S:=s.S++[(aO (W.tx n),(W.sh n).1)] }else s.lg "n" n fr)={ s.lg "n" n fr with M:=s.M++[mkE W n (W.sh n).1],S:=s.S++[(aO (W.tx n),(W.sh n).1)] }:=if_pos ⟨rfl,hm⟩
     rw[ef]
     rw[decide_eq_false hm]at mem
     have g2:eV { s.lg "n" n fr with M:=s.M++[mkE W n (W.sh n).1],S:=s.S++[(aO (W.tx n),(W.sh n).1)] }:=⟨(lg .n).L,gs.M.snoc (vO (iY O h2))⟩
     obtain⟨sn',q,h⟩:=IH n h2 (fk5 hk h1) (bif (W.sh n).2 then fS n else fr) (deep+1) true { s.lg "n" n fr with M:=s.M++[mkE W n (W.sh n).1],S:=s.S++[(aO (W.tx n),(W.sh n).1)] } (sn++[mkE W n (W.sh n).1]) hfr' g2 (hs.snoc O h2 _) (hr.le ⟨la1,la1,la1⟩)
     exact⟨sn',q,fun d hd=>YT B hn hL hM hS hl (cR O f n h2 _ _ _ _ g2 hfr').2 (O.tx n h2) (wf5 w1) (wf5 w2) mem h d (mk3 hd (by decide) (by decide))⟩
theorem KW{t:Told}(h:TK t)(z:t.1=0):t=(0,t.2.1,0,0):=by
 obtain⟨c,v,l,r⟩:=t
 have key:∀x∈tdK,x.1=0→x=(0,0,0):=by decide +kernel
 have:=key (c,l,r) h z
 simp only[Prod.mk.injEq]at this
 obtain⟨rfl,rfl,rfl⟩:=this
 rfl
theorem EZ(B:aE mb)(O:WOK W sc):∀f,f≤5→PZ mb W sc f
 |0,_=>fun k hk h=>absurd h (by lia)
 |f+1,hf=>by
  have IH:=EZ B O f (by lia)
  intro k hk hfk fr deep fast s sn hfr gs hs hr
  obtain⟨w1,w2⟩:=O.wf k hk
  have hr1:eU s ((1+gr f)+(1+gr f)):=by
   have e:=IK f
   rw[←e];exact hr
  have ra:eU s (1+gr f):=⟨rs hr1.L,rs hr1.M,rs hr1.S⟩
  obtain⟨sn1,q1,h1⟩:=JM (k:=k) B O (by lia) IH (by assumption) w1 fr deep fast s sn hfr gs hs ra
  have g1:=kJ O (cR O f) w1 fr deep fast s gs hfr
  have hq:=nP (W:=W) (mH (W:=W) (sc:=sc) f) (sc k).1 fr deep fast s
  by_cases hz:(doC W (rule W sc f) (sc k).1 fr deep fast s).1.1=0
  ·have er:rule W sc (f+1) k fr deep fast s=doC W (rule W sc f) (sc k).2 fr deep fast (doC W (rule W sc f) (sc k).1 fr deep fast s).2:=by
    show(if _ then _ else _)=_
    rw[if_neg (fun z=>z hz)]
   rw[er]
   obtain⟨sn2,q2,h2⟩:=JM (k:=k) B O (by lia) IH (by assumption) w2 fr deep fast _ sn1 hfr g1.1 q1 (hr1.le hq)
   have g2:=kJ O (cR O f) w2 fr deep fast _ g1.1 hfr
   exact⟨sn2,q2,fun d hd=>aAb B hk (KW g1.2 hz) g2.2 h1 h2 d (by lia)⟩
  ·have er:rule W sc (f+1) k fr deep fast s=doC W (rule W sc f) (sc k).1 fr deep fast s:=by
    show(if _ then _ else _)=_
    rw[if_pos hz]
   rw[er]
   exact⟨sn1,q1,fun d hd=>aAc B hk hz g1.2 h1 d (by lia)⟩
end
end
section
open PySem.Calls
noncomputable abbrev Rn(mb:Bt)(cs:List Nat)(n:Nat):Rec:=run (g1 mb) (pgC cs) n
noncomputable def gV(G:Gl)(r:Rec)(hd:Option Nat)(t:IT)(i:SV)(b:ISs):M (Option Flo):=eK (bnd (lP hd i) fun o=>match o with
 |none=>aG none
 |some v=>bnd (sA G r hd v t) fun _=>bnd (r.ex hd b) fun f=>aG (some f))
noncomputable def oU:ISs→Nat→IS
 |.nil,_=>.retN ⟨0,0,0,0⟩
 |.cons s _,0=>s
 |.cons _ r,n+1=>oU r n
noncomputable def lZ:IS→IT
 |.fors t _ _ _=>t
 |_=>.name 0 ⟨0,0,0,0⟩
noncomputable def DK:IS→IE
 |.fors _ i _ _=>i
 |_=>.cst .none 0 ⟨0,0,0,0⟩
noncomputable def iT:IS→ISs
 |.fors _ _ b _=>b
 |_=>.nil
noncomputable def TQ:IS→Pos
 |.fors _ _ _ p=>p
 |_=>⟨0,0,0,0⟩
section
variable{mb:Bt}{cs:List Nat}{n:Nat}{hd:Option Nat}{t:IT}{i x:SV}{it:IE}{b l:ISs}{p:Pos}{st st' st1 sa sb sc:St}{s:IS}{G:Gl}{r:Rec}{R:Option (Except SV Flo×St)}
theorem iP(h:gV (g1 mb) (Rn mb cs n) hd t i b st=some (.ok (some .next),st'))(h2:(Rn mb cs n).fors hd t i b st'=R):(Rn mb cs (n+1)).fors hd t i b st=R:=by
 show bnd (gV (g1 mb) (Rn mb cs n) hd t i b) (fun o=>dN o ((Rn mb cs n).fors hd t i b)) st=R
 unfold bnd
 rw[h]
 exact h2
theorem EK(h:sS G r hd s st=some (.ok .next,st1)):sSS G r hd (.cons s l) st=sSS G r hd l st1:=by
 show bnd (sS G r hd s) (fun f=>match f with | .next=>sSS G r hd l|f=>aG f) st=_
 unfold bnd
 rw[h]
theorem yK(h1:r.ev hd it st=some (.ok x,sa))(h2:hH x sa=some (.ok i,sb))(h3:r.fors hd t i b sb=some (.ok .next,sc)):sS G r hd (.fors t it b p) st=some (.ok .next,sc):=by
 show bnd (r.ev hd it) (fun x=>bnd (hH x) fun i=>nO (r.fors hd t i b)) st=_
 unfold bnd
 rw[h1]
 dsimp only
 rw[h2]
 dsimp only
 unfold nO lF
 rw[h3];rfl
end
noncomputable def zO(m:Nat)(z:Nat→SO):List SO:=(List.range m).map z
noncomputable def zV(m:Nat)(z:Nat→SV):List SV:=(List.range m).map z
noncomputable def FG(xs:List Int)(a D:Int)(d:Nat)(O:List SO):Query:=.call 735 [scV xs,.int a] none d O (.ok (.int D)) (mrg [] O [])
noncomputable def MC(xs:List Int)(a D:Int)(d:Nat):Pl:=.fr 735 [scV xs,.int a] none d [] (.ok (.int D)) [] [] [] wid
noncomputable def FJ(xs:List Int)(D:Int):Ora:=⟨fun o=>kR (rnV (gS [] o.length)) (.ok (.int D)),fun o=>mrg [] o [],fun l=>l,0⟩
theorem UT(l:List SV)(m:Nat)(h:l.length=m):l=zV m fun i=>nat? l i .none:=by
 subst h
 refine List.ext_getElem? fun i=>?_
 unfold zV
 rw[List.getElem?_map]
 by_cases hi:i<l.length
 ·rw[mF hi,List.getElem?_eq_getElem hi]
  exact congrArg some (nat?_eq (List.getElem?_eq_getElem hi)).symm
 ·rw[List.getElem?_eq_none (by lia),List.getElem?_eq_none (by simp;lia)];rfl
end
section
open PySem.Calls
noncomputable def fs1:IS:=oU cU.body 0
noncomputable def fs2:IS:=oU cU.body 1
noncomputable def fs3:IS:=oU cU.body 2
theorem NU:cU.body = .cons fs1 (.cons fs2 (.cons fs3 .nil)):=by kernel_rfl
theorem TP:fs2 = .fors (lZ fs2) (DK fs2) (iT fs2) (TQ fs2):=by kernel_rfl
noncomputable def fc4(p:Int):Int:=if p=0 then 5 else if p=1 then 6 else if p=2 then -1 else 2001
noncomputable def fcd(k:Nat)(p:Int):Int:=match k with|0=>2|1=>1|2=>3|3=>4|4=>fc4 p|_=>2
noncomputable def frK(q:Int):Int:=if q=0 then 0 else if q=1 then 1 else if q=2 then 3 else if q=3 then 4 else if q=4 then 5 else 0
noncomputable def qS(k:Nat):Str:=match k with|0=>"w0" | 1=>"w1" | 2=>"w2" | 3=>"w3" | 4=>"w4" | _=>"w5"
noncomputable def f05(k:Nat):Bool:=Nat.beq k 0||Nat.beq k 5
noncomputable def fT(k:Nat)(p lv q:Int):Told:=(fcd k p,qS k,bif f05 k then 1+lv else 0,bif f05 k then frK q else 0)
noncomputable def fM (k:Nat):Nat:=match k with|0=>0|1=>4|2=>7|3=>10|4=>13|5=>16|_=>20
noncomputable def fO (xs:List Int)(k j:Nat)(z:Nat→SO)(e:Nat→SV):List SO:=[.list (zV k e),.iter .range [.int 0,.int 6,.int 1],.iter .rangeIt [.raw (j:Nat),.raw (6 - (j:Nat)),.raw 1]]++zO (fM k) z
noncomputable def YN(xs:List Int)(first:Int)(x:Nat→Option SV):List (Option SV):=[some (scV xs),some (.int first),some (.ref 0),x 0,x 1,x 2,x 3,x 4]
noncomputable def fSt(xs:List Int)(first:Int)(k:Nat)(z:Nat→SO)(e:Nat→SV)(x:Nat→Option SV)(o:List Ora)(pr:List Int)(qs:List Query)(d:Nat):St:=⟨YN xs first x,fO xs k k z e,o,pr,qs,d⟩
noncomputable def fN(k:Nat)(p:Int):List SO:=[.list [.int 5,.int 6,.int (-1),.int 2001],.list [.int 2,.int 1,.int 3,.int 4,.int (fc4 p),.int 2]]++(bif f05 k then[.list [.int 0,.int 1,.int 3,.int 4,.int 5,.int 0]]else[])++[.dead]
noncomputable def fPr(k:Nat)(a p lv a2 q:Int):List Int:=[a,p]++(bif f05 k then[lv,a2,q]else[])
noncomputable def fE(k:Nat)(D a p lv a2 q:Int):List (Int×Int):=(bif f05 k then[((a2+(k:Nat)).fmod 6,q),(D.fdiv 4,a2),((D+(k:Nat)+1).fmod 4,lv)]else[])++[(a.fmod 4,p),(D.fdiv 24,a)]
noncomputable def fQs(xs:List Int)(first:Int)(k:Nat)(z:Nat→SO)(e:Nat→SV)(D a p lv a2 q:Int)(d:Nat):List Query:=(fE k D a p lv a2 q).map (fun x=>.eq x.1 x.2)++[FG xs (first+(k:Nat)) D d (fO xs k (k+1) z e)]
noncomputable def fZ(k:Nat)(z:Nat→SO)(p:Int):Nat→SO:=fun i=>nat? (zO (fM k) z++fN k p) i .dead
noncomputable def fEv (k:Nat)(e:Nat→SV)(p lv q:Int):Nat→SV:=fun i=>nat? (zV k e++[aR (fT k p lv q)]) i .none
noncomputable def fX (k:Nat)(D p lv q:Int):Nat→Option SV:=fun i=>nat? [some (.int (k:Nat)),some (.int D),some (.int (fT k p lv q).1),some (.int (fT k p lv q).2.2.1),some (.int (fT k p lv q).2.2.2)] i none
noncomputable def zr(xs:List Int)(m:Nat)(Ds:Nat→Int):List Ora:=(List.range m).map fun i=>FJ xs (Ds i)
noncomputable def p4:List Int:=[0,1,2,3]
noncomputable def p6:List Int:=[0,1,2,3,4,5]
section
variable {mb:Bt}{xs:List Int}{first:Int}
theorem TX {k:Nat}(hk:k∈n6){p:Int}(hp:p∈p4){q:Int}(hq:q∈p6)(z:Nat→SO)(e:Nat→SV)(x:Nat→Option SV)(Ds:Nat→Int)(PR:List Int)(QS:List Query)(d:Nat)(D a lv a2:Int) :
  gV (g1 mb) (Rn mb [735] (98 - k)) none (lZ fs2) (.ref 2) (iT fs2) (fSt xs first k z e x (FJ xs D::zr xs (5 - k) Ds) (fPr k a p lv a2 q++PR) QS (d+20)) =
   some (.ok (some .next),fSt xs first (k+1) (fZ k z p) (fEv k e p lv q) (fX k D p lv q) (zr xs (5 - k) Ds) PR (fQs xs first k z e D a p lv a2 q (d+20)++QS) (d+20)):=by
 revert k
 apply aA
 revert p
 apply aA
 revert q
 apply aA
 kernel_rfl
end
end
section
open PySem.Calls
theorem yW{xs:List Int}{m:Nat}{Ds:Nat→Int}:zr xs (m+1) Ds=FJ xs (Ds 0)::zr xs m fun i=>Ds (i+1):=by
 unfold zr
 rw[List.range_succ_eq_map,List.map_cons,List.map_map]
 rfl
noncomputable def dgF(xs:List Int)(f k:Nat):Told:=fT k (((dgV xs (f+k)).fdiv 24).fmod 4) ((dgV xs (f+k)+(k:Nat)+1).fmod 4) (((dgV xs (f+k)).fdiv 4+(k:Nat)).fmod 6)
noncomputable def fL(xs:List Int)(f:Nat):Nat→Nat→List SV
 |_,0=>[]
 |k,m+1=>aR (dgF xs f k)::fL xs f (k+1) m
noncomputable def fPs(xs:List Int)(f:Nat):Nat→Nat→List Int
 |_,0=>[]
 |k,m+1=>fPr k ((dgV xs (f+k)).fdiv 24) (((dgV xs (f+k)).fdiv 24).fmod 4) ((dgV xs (f+k)+(k:Nat)+1).fmod 4) ((dgV xs (f+k)).fdiv 4) (((dgV xs (f+k)).fdiv 4+(k:Nat)).fmod 6)++fPs xs f (k+1) m
theorem xI(a:Int)(n:Nat)(h:0<(n:Int)):a.fmod n∈(List.range n).map Int.ofNat:=by
 obtain⟨m,e⟩:=Int.eq_ofNat_of_zero_le (Int.fmod_nonneg_of_pos a h)
 exact List.mem_map.mpr ⟨m,List.mem_range.mpr (Int.ofNat_lt.mp (e▸Int.fmod_lt_of_pos a h)),e.symm⟩
theorem RU(a:Int):a.fmod 4∈p4:=xI a 4 (by decide)
theorem aAl(a:Int):a.fmod 6∈p6:=xI a 6 (by decide)
section
variable{mb:Bt}{xs:List Int}
theorem oD{cs:List Nat}{n:Nat}{hd:Option Nat}{t:IT}{i:SV}{b:ISs}{st st':St}(h:gV (g1 mb) (Rn mb cs n) hd t i b st=some (.ok none,st')):(Rn mb cs (n+1)).fors hd t i b st=some (.ok .next,st'):=by
 show bnd (gV (g1 mb) (Rn mb cs n) hd t i b) (fun o=>dN o ((Rn mb cs n).fors hd t i b)) st=_
 unfold bnd
 rw[h]
 rfl
theorem zI(B:aE mb)(hx:xs.length≤1000){p:Nat}(hp:p<44)(d:Nat)(O:List SO):v0 mb (FG xs p (dgV xs p) (d+20) O) :=
 CallOK.frame (φ:=[]) (ks:=[]) (args:=[scV xs,.int p]) (hd:=none) (objs:=O) (PM B hx (List.mem_range.mpr hp) d) aC rfl rfl rfl rfl
theorem mkW(B:aE mb){f:Nat}{F:Fn}{cs:List Nat}{n:Nat}{args:List SV}{hd:Option Nat}{core:List SO}{d:Nat}{orc:List Ora}{pr:List Int}{o:Except SV SV}{st:St}(hF:lk ftable f=some F)
  (hR:mFn F ((run (g1 mb) (pgC cs) n).ex hd F.body) args ⟨[],core,orc,pr,[],d⟩=some (o,st))(hq:∀q∈st.qs,v0 mb q):CallOK (g0 mb) f args hd d core o st.objs:=by
 intro A ρ s N vs hv RR post
 have S:=iD (NS B) (wW mb.prog mb.w mb.mb (v0 mb) B.facts cs) n
 refine wZ (G:=g1 mb) (st:=⟨[],core,orc,pr,[],d⟩) (TM B) (B.facts.fn mb.prog mb.w mb.mb (v0 mb) hF) S.X ⟨N.frs,N.depth,N.units,N.hd,qZ N.rep⟩ hv hR hq fun ρ' s' S R=>?_
 have q:=post s.heap.objs.size ρ' s' (Heap.get?_none_of_le (Nat.le_refl _)) S (qY R)
 cases o<;>exact q
theorem mkV(B:aE mb){f:Nat}{F:Fn}{cs:List Nat}{n:Nat}{args l:List SV}{loc:List (Option SV)}{b:ISs}{core:List SO}{d:Nat}{orc:List Ora}{pr:List Int}{v:SV}{sf:St}(hF:lk ftable f=some F)(hl:F.full args=some l)
  (hb:F.body=b)(hc:l.map some++List.replicate (F.vars.length - F.np) none=loc)(h:sSS (g1 mb) (Rn mb cs n) none b ⟨loc,core,orc,pr,[],d⟩=some (.ok (.ret v),sf))(hq:∀q∈sf.qs,v0 mb q) :
  CallOK (g0 mb) f args none (d+1) core (.ok v) sf.objs:=by
 subst hb hc
 refine mkW (n:=n+1) (cs:=cs) (orc:=orc) (pr:=pr) (st:={ sf with loc:=[],d:=d+1 }) B hF ?_ hq
 unfold mFn
 rw[hl]
 dsimp only
 unfold eK lF
 rw[show(run (g1 mb) (pgC cs) (n+1)).ex none F.body _=_ from h]
 rfl
noncomputable def IZ(xs:List Int)(f:Nat)(l:List SV)(z:Nat→SO)(x:Nat→Option SV)(qs:List Query)(d:Nat):St :=
 ⟨YN xs f x,[.list l,.iter .range [.int 0,.int 6,.int 1],.dead]++zO 20 z,[],[],qs,d⟩
theorem TZ(B:aE mb)(hx:xs.length≤1000){f:Nat}(hf:f+6≤44)(d:Nat):∀m k,k+m=6→∀z e x QS,(∀q∈QS,v0 mb q)→∃z' x' QS',(∀q∈QS',v0 mb q) ∧
  (Rn mb [735] (99 - k)).fors none (lZ fs2) (.ref 2) (iT fs2) (fSt xs f k z e x (zr xs m fun i=>dgV xs (f+k+i)) (fPs xs f k m) QS (d+20))=some (.ok .next,IZ xs f (zV k e++fL xs f k m) z' x' QS' (d+20)):=by
 intro m
 induction m with
 |zero =>
  intro k hk z e x QS hQ
  obtain rfl:k=6:=hk
  refine⟨z,x,QS,hQ,?_⟩
  rw[show fL xs f 6 0=[] from rfl,List.append_nil]
  refine oD (n:=92) ?_
  kernel_rfl
 |succ m ih =>
  intro k hk z e x QS hQ
  have h5:5 - k=m:=Nat.sub_eq_of_eq_add ((Nat.succ.inj hk).symm.trans (Nat.add_comm k m))
  have hk6:k∈n6:=eH (by lia)
  have T:=TX (mb:=mb) (xs:=xs) (first:=f) hk6 (RU ((dgV xs (f+k)).fdiv 24)) (aAl ((dgV xs (f+k)).fdiv 4+(k:Nat))) z e x (fun i=>dgV xs (f+k+(i+1))) (fPs xs f (k+1) m) QS d (dgV xs (f+k)) ((dgV xs (f+k)).fdiv 24) ((dgV xs (f+k)+(k:Nat)+1).fmod 4) ((dgV xs (f+k)).fdiv 4)
  rw[h5]at T
  obtain⟨z',x',QS',hQ',I⟩:=ih (k+1) ((Nat.add_right_comm k 1 m).trans hk) (fZ k z (((dgV xs (f+k)).fdiv 24).fmod 4)) (fEv k e (((dgV xs (f+k)).fdiv 24).fmod 4) ((dgV xs (f+k)+(k:Nat)+1).fmod 4) (((dgV xs (f+k)).fdiv 4+(k:Nat)).fmod 6)) (fX k (dgV xs (f+k)) (((dgV xs (f+k)).fdiv 24).fmod 4) ((dgV xs (f+k)+(k:Nat)+1).fmod 4) (((dgV xs (f+k)).fdiv 4+(k:Nat)).fmod 6)) (_++QS) (fun q hq=>by
   rcases List.mem_append.mp hq with hq|hq
   ·exact(show ∀q∈fQs xs f k z e (dgV xs (f+k)) ((dgV xs (f+k)).fdiv 24) (((dgV xs (f+k)).fdiv 24).fmod 4) ((dgV xs (f+k)+(k:Nat)+1).fmod 4) ((dgV xs (f+k)).fdiv 4) (((dgV xs (f+k)).fdiv 4+(k:Nat)).fmod 6) (d+20),v0 mb q from fun q hq=>by
     rcases List.mem_append.mp hq with hq|hq
     ·obtain⟨y,hy,rfl⟩:=List.mem_map.mp hq
      show y.1=y.2
      rcases List.mem_append.mp hy with hy|hy
      ·cases hb:f05 k with
       |false=>rw[hb]at hy;cases hy
       |true =>
        rw[hb]at hy
        simp only[cond_true,List.mem_cons,List.not_mem_nil,or_false]at hy
        rcases hy with rfl|rfl|rfl<;>rfl
      ·simp only[List.mem_cons,List.not_mem_nil,or_false]at hy
       rcases hy with rfl|rfl<;>rfl
     ·rw[List.mem_singleton]at hq;subst hq
      exact zI (p:=f+k) B hx (by lia) d _) q hq
   ·exact hQ q hq)
  refine⟨z',x',QS',hQ',?_⟩
  have e1:(zr xs (m+1) fun i=>dgV xs (f+k+i))=FJ xs (dgV xs (f+k))::zr xs m fun i=>dgV xs (f+k+(i+1)):=yW
  have e2:(fun i=>dgV xs (f+k+(i+1)))=fun i=>dgV xs (f+(k+1)+i):=by funext i;rw[show f+k+(i+1)=f+(k+1)+i by lia]
  have e3:zV (k+1) (fEv k e (((dgV xs (f+k)).fdiv 24).fmod 4) ((dgV xs (f+k)+(k:Nat)+1).fmod 4) (((dgV xs (f+k)).fdiv 4+(k:Nat)).fmod 6))=zV k e++[aR (dgF xs f k)]:=(UT _ (k+1) (by simp[zV])).symm
  rw[e3,List.append_assoc]at I
  rw[e1,sbs (n:=98) (Nat.le_trans (sl (Nat.le_of_eq hk)) (by decide))]
  refine iP T ?_
  rw[e2]
  rw[Nat.add_sub_add_right 98 1 k]at I
  exact I
theorem fQ{G:Gl}{r:Rec}{hd:Option Nat}{s:IS}{l:ISs}{st st1:St}{R:Option (Except SV Flo×St)}(h:sS G r hd s st=some (.ok .next,st1))(h2:sSS G r hd l st1=R):sSS G r hd (.cons s l) st=R:=(EK h).trans h2
noncomputable def faS(xs:List Int)(f:Nat)(x:Option SV)(os:List SO)(o:List Ora)(pr:List Int)(d:Nat):St:=⟨[some (scV xs),some (.int f),x,none,none,none,none,none],os,o,pr,[],d⟩
theorem aBn(f:Nat)(Ds:Nat→Int)(pr:List Int)(d:Nat):sS (g1 mb) (Rn mb [735] 99) none fs1 (faS xs f none [] (zr xs 6 Ds) pr d)=some (.ok .next,faS xs f (some (.ref 0)) [.list []] (zr xs 6 Ds) pr d):=by kernel_rfl
theorem aBm(f:Nat)(Ds:Nat→Int)(pr:List Int)(d:Nat):(Rn mb [735] 99).ev none (DK fs2) (faS xs f (some (.ref 0)) [.list []] (zr xs 6 Ds) pr d)=some (.ok (.ref 1),faS xs f (some (.ref 0)) [.list [],.iter .range [.int 0,.int 6,.int 1]] (zr xs 6 Ds) pr d):=by kernel_rfl
theorem aBl(f:Nat)(z:Nat→SO)(e:Nat→SV)(Ds:Nat→Int)(pr:List Int)(d:Nat):hH (.ref 1) (faS xs f (some (.ref 0)) [.list [],.iter .range [.int 0,.int 6,.int 1]] (zr xs 6 Ds) pr d)=some (.ok (.ref 2),fSt xs f 0 z e (fun _=>none) (zr xs 6 Ds) pr [] d):=by kernel_rfl
theorem aBk(f:Nat)(l:List SV)(z:Nat→SO)(x:Nat→Option SV)(qs:List Query)(d:Nat):sSS (g1 mb) (Rn mb [735] 99) none (.cons fs3 .nil) (IZ xs f l z x qs d)=some (.ok (.ret (.ref 0)),IZ xs f l z x qs d):=by kernel_rfl
theorem aBj(f:Nat)(l:List SV)(z:Nat→SO)(x:Nat→Option SV)(qs:List Query)(d:Nat):eD [0] (IZ xs f l z x qs d).objs.length=true:=by kernel_rfl
theorem YM(B:aE mb)(hx:xs.length≤1000){f:Nat}(hf:f+6≤44)(d:Nat):CallOK (g0 mb) 749 [scV xs,.int f] none (d+20+1) [] (.ok (.ref 0)) [.list [aR (dgF xs f 0),aR (dgF xs f 1),aR (dgF xs f 2),aR (dgF xs f 3),aR (dgF xs f 4),aR (dgF xs f 5)]]:=by
 obtain⟨z,x,QS,hQ,I⟩:=TZ (mb:=mb) B hx hf d 6 0 rfl (fun _=>.dead) (fun _=>.none) (fun _=>none) [] (fun _ h=>nomatch h)
 have W:sSS (g1 mb) (Rn mb [735] 99) none (.cons fs1 (.cons fs2 (.cons fs3 .nil))) (faS xs f none [] (zr xs 6 fun i=>dgV xs (f+0+i)) (fPs xs f 0 6) (d+20))=some (.ok (.ret (.ref 0)),IZ xs f (fL xs f 0 6) z x QS (d+20)):=by
  refine fQ (aBn f _ _ _) (fQ ?_ (aBk f _ z x QS (d+20)))
  rw[TP]
  exact yK (aBm f _ _ _) (aBl f (fun _=>.dead) (fun _=>.none) _ _ _) I
 have C:=mkV (mb:=mb) (f:=749) (F:=cU) (args:=[scV xs,.int f]) (l:=[scV xs,.int f]) (core:=[]) B rfl rfl NU rfl W hQ
 exact CallOK.sel (core:=[]) (ps:=[0]) (ks:=[]) C aC (aBj f _ z x QS (d+20)) rfl
end
end
section
open PySem.Calls
noncomputable def ss1:IS:=oU bY.body 0
noncomputable def ss2:IS:=oU bY.body 1
noncomputable def ss3:IS:=oU bY.body 2
noncomputable def si1:IS:=oU (iT ss2) 0
noncomputable def si2:IS:=oU (iT ss2) 1
noncomputable def si3:IS:=oU (iT ss2) 2
theorem LG:bY.body = .cons ss1 (.cons ss2 (.cons ss3 .nil)):=by kernel_rfl
theorem QW:ss2 = .fors (lZ ss2) (DK ss2) (iT ss2) (TQ ss2):=by kernel_rfl
theorem LN:iT ss2 = .cons si1 (.cons si2 (.cons si3 .nil)):=by kernel_rfl
theorem RA:si2 = .fors (lZ si2) (DK si2) (iT si2) (TQ si2):=by kernel_rfl
noncomputable def cA(k:Nat):Int:=match k with|0=>4|1=>2|2=>5|3=>1|_=>0
noncomputable def v8(v:Int):Vb:=if v=0 then .n else if v=1 then .t else if v=2 then .n else if v=3 then .f else if v=4 then .d else if v=5 then .m else if v=6 then .x else .p
noncomputable def v4(v:Int):Vb:=if v=0 then .f else if v=1 then .t else if v=2 then .x else .p
noncomputable def is4(k:Nat):Bool:=Nat.beq k 4
noncomputable def ndm(v:Vb):Bool:=match v with | .n=>true | .d=>true | .m=>true|_=>false
noncomputable def dmB(v:Vb):Bool:=match v with | .d=>true | .m=>true|_=>false
noncomputable def jG(nw:Bool)(k:Nat)(v:Int):Vb :=
 let b:=bif is4 k then v4 (v.fmod 4)else v8 v
 bif nw&&dmB b then .t else b
noncomputable def UF(nw:Bool)(k:Nat)(v:Int)(n:Nat):Cmd:=(jG nw k v,bif ndm (jG nw k v)then k+1+n else n)
noncomputable def sB(nw:Bool)(k:Nat):Nat:=(bif nw then 5 else 4)+(bif is4 k then 1 else 0)
noncomputable def bQ(nw:Bool)(k:Nat):Nat:=k*(3+2*sB nw 0)
noncomputable def sCs (nw:Bool)(k:Nat):List SV:=(List.range k).map fun i=>.ref (3+bQ nw i)
noncomputable def sO (xs:List Int)(nw:Bool)(k c:Nat)(z:Nat→SO)(e:Nat→SV)(y:Nat→SO):List SO :=
  [.list (sCs nw k),.iter .range [.int 0,.int 5,.int 1],.iter .rangeIt [.raw ((k:Nat)+1),.raw (5 - (k:Nat) - 1),.raw 1]]++zO (bQ nw k) z ++
    [.list (zV c e),.iter .range [.int 0,.int 2,.int 1],.iter .rangeIt [.raw (c:Nat),.raw (2 - (c:Nat)),.raw 1]]++zO (c*sB nw k) y
noncomputable def LR (xs:List Int)(f:Int)(nw:Bool)(rt:Int)(k:Nat)(x:Nat→Option SV):List (Option SV) :=
 [some (scV xs),some (.int f),some (.bool nw),some (.int rt),some (.ref 0),some (.int (k:Nat)),some (.ref (3+bQ nw k)),x 0,x 1,x 2,x 3]
noncomputable def sSt(xs:List Int)(f:Int)(nw:Bool)(rt:Int)(k c:Nat)(z:Nat→SO)(e:Nat→SV)(y:Nat→SO)(x:Nat→Option SV)(o:List Ora)(pr:List Int)(qs:List Query)(d:Nat):St:=⟨LR xs f nw rt k x,sO xs nw k c z e y,o,pr,qs,d⟩
noncomputable def aAa(nw:Bool)(k:Nat):List SO :=
 [.list [.int 4,.int 2,.int 5,.int 1,.int 0],.list [.str "n",.str "t",.str "n",.str "f",.str "d",.str "m",.str "x",.str "p"]]++(bif is4 k then[.list [.str "f",.str "t",.str "x",.str "p"]]else[]) ++
  (bif nw then[.list [.str "d",.str "m"]]else[])++[.list [.str "n",.str "d",.str "m"],.dead]
noncomputable def sDg(rt D:Int)(k:Nat):Int:=D+rt*cA k
noncomputable def sPr (k : Nat) (a v : Int) (n : Nat) : List Int := [a, v] ++ (bif is4 k then [v.fmod 4] else []) ++ [(n : Int)]
noncomputable def sQs (xs : List Int) (f : Int) (nw : Bool) (rt : Int) (k c : Nat) (z : Nat → SO) (e : Nat → SV) (y : Nat → SO) (D a v : Int) (n : Nat) (d : Nat) : List Query :=
  [.eq (a.fmod (bif ndm (jG nw k v) then 4 - (k : Nat) else 6)) (n : Int)] ++ (bif is4 k then [.eq ((sDg rt D k + (c : Nat)).fmod 4) (v.fmod 4)] else []) ++
    [.eq ((sDg rt D k + (c : Nat)).fmod 8) v, .eq ((sDg rt D k).fdiv 8) a, FG xs (f + 2 * (k : Nat) + (c : Nat)) D d
      ([.list (sCs nw k), .iter .range [.int 0, .int 5, .int 1], .iter .rangeIt [.raw ((k : Nat) + 1), .raw (5 - (k : Nat) - 1), .raw 1]] ++ zO (bQ nw k) z ++
        [.list (zV c e), .iter .range [.int 0, .int 2, .int 1], .iter .rangeIt [.raw (c + 1 : Nat), .raw (2 - (c : Nat) - 1), .raw 1]] ++ zO (c * sB nw k) y)]
noncomputable def sY(nw:Bool)(k c:Nat)(y:Nat→SO):Nat→SO:=fun i=>nat? (zO (c*sB nw k) y++aAa nw k) i .dead
noncomputable def sE' (nw:Bool)(k c:Nat)(e:Nat→SV)(v:Int)(n:Nat):Nat→SV:=fun i=>nat? (zV c e++[cmV (UF nw k v n)]) i .none
noncomputable def sX (nw:Bool)(rt:Int)(k c:Nat)(D a v:Int):Nat→Option SV:=fun i=>nat? [some (.int (c:Nat)),some (.int (sDg rt D k)),some (.int a),some (.str (jG nw k v).str)] i none
noncomputable def p8:List Int:=[0,1,2,3,4,5,6,7]
noncomputable def p2:List Int:=[0,1]
noncomputable def n2:List Nat:=[0,1]
noncomputable def b2:List Bool:=[true,false]
section
variable {mb:Bt}{xs:List Int}{f:Int}
theorem RB {nw:Bool}(hw:nw∈b2){rt:Int}(hr:rt∈p2){k:Nat}(hk:k∈n5){c:Nat}(hc:c∈n2){v:Int}(hv:v∈p8)(z:Nat→SO)(e:Nat→SV)(y:Nat→SO)(x:Nat→Option SV)(Ds:Nat→Int)(m:Nat)(PR:List Int)(QS:List Query)(d:Nat)(D a:Int)(n:Nat) :
  gV (g1 mb) (Rn mb [735] (96 - k - c)) none (lZ si2) (.ref (5+bQ nw k)) (iT si2) (sSt xs f nw rt k c z e y x (FJ xs D::zr xs (9 - 2*k - c) Ds) (sPr k a v n++PR) QS (d+20)) =
   some (.ok (some .next),sSt xs f nw rt k (c+1) z (sE' nw k c e v n) (sY nw k c y) (sX nw rt k c D a v) (zr xs (9 - 2*k - c) Ds) PR (sQs xs f nw rt k c z e y D a v n (d+20)++QS) (d+20)):=by
 revert nw
 apply aA
 revert rt
 apply aA
 revert k
 apply aA
 revert c
 apply aA
 revert v
 apply aA
 kernel_rfl
end
end
section
open PySem.Calls
noncomputable def iU(xs:List Int)(f:Nat)(nw:Bool)(rt:Int)(k c:Nat):Cmd :=
 let g:=sDg rt (dgV xs (f+2*k+c)) k
 let v:=(g+(c:Nat)).fmod 8
 UF nw k v ((g.fdiv 8).fmod (bif ndm (jG nw k v)then 4 - (k:Nat)else 6)).toNat
noncomputable def jJ(xs:List Int)(f:Nat)(nw:Bool)(rt:Int):Scs:=fun k=>(iU xs f nw rt k 0,iU xs f nw rt k 1)
noncomputable def sP1(xs:List Int)(f:Nat)(nw:Bool)(rt:Int)(k c:Nat):List Int :=
 let g:=sDg rt (dgV xs (f+2*k+c)) k
 let v:=(g+(c:Nat)).fmod 8
 sPr k (g.fdiv 8) v ((g.fdiv 8).fmod (bif ndm (jG nw k v)then 4 - (k:Nat)else 6)).toNat
noncomputable def sPs(xs:List Int)(f:Nat)(nw:Bool)(rt:Int):Nat→Nat→List Int
 |_,0=>[]
 |k,m+1=>sP1 xs f nw rt k 0++(sP1 xs f nw rt k 1++sPs xs f nw rt (k+1) m)
theorem aAk(a:Int):a.fmod 8∈p8:=xI a 8 (by decide)
theorem WZ(a:Int):a.fmod 4=(a.fmod 8).fmod 4:=by
 rw[Int.fmod_eq_emod_of_nonneg _ (by decide),Int.fmod_eq_emod_of_nonneg _ (by decide),Int.fmod_eq_emod_of_nonneg _ (by decide)]
 exact(Int.emod_emod_of_dvd a (by decide)).symm
theorem WX(nw:Bool)(v:Int):ndm (jG nw 4 v)=false:=by
 unfold jG v4
 have:is4 4=true:=rfl
 rw[this]
 dsimp only [cond_true]
 cases nw<;>(repeat' split)<;>rfl
theorem cP(b:Bool):b∈b2:=by cases b<;>decide
section
variable{mb:Bt}{xs:List Int}{f:Nat}{nw:Bool}{rt:Int}
theorem zG(B:aE mb)(hx:xs.length≤1000)(hf:f+10≤44)(hr:rt∈p2){k:Nat}(hk:k≤4){c:Nat}(hc:c∈n2)(z:Nat→SO)(e:Nat→SV)(y:Nat→SO)(x:Nat→Option SV)(PR:List Int)(QS:List Query)(d:Nat)(hQ:∀q∈QS,v0 mb q){Ds:Nat→Int}(hD:Ds 0=dgV xs (f+2*k+c)) :
  ∃y' x' QS',(∀q∈QS',v0 mb q)∧gV (g1 mb) (Rn mb [735] (96 - k - c)) none (lZ si2) (.ref (5+bQ nw k)) (iT si2) (sSt xs f nw rt k c z e y x (zr xs (9 - 2*k - c+1) Ds) (sP1 xs f nw rt k c++PR) QS (d+20)) =
   some (.ok (some .next),sSt xs f nw rt k (c+1) z (fun i=>nat? (zV c e++[cmV (iU xs f nw rt k c)]) i .none) y' x' (zr xs (9 - 2*k - c) fun i=>Ds (i+1)) PR QS' (d+20)):=by
 have hk5:k∈n5:=nE hk
 have hc1:c≤1:=by
  simp only[n2,List.mem_cons,List.not_mem_nil,or_false]at hc;lia
 rw[yW,hD]
 refine⟨_,_,_,?_,RB (mb:=mb) (xs:=xs) (f:=f) (cP nw) hr hk5 hc (aAk (sDg rt (dgV xs (f+2*k+c)) k+(c:Nat))) z e y x (fun i=>Ds (i+1)) 0 PR QS d (dgV xs (f+2*k+c)) ((sDg rt (dgV xs (f+2*k+c)) k).fdiv 8) _⟩
 intro q hq
 rcases List.mem_append.mp hq with hq|hq
 ·rcases List.mem_append.mp hq with hq|hq
  ·rcases List.mem_append.mp hq with hq|hq
   ·rw[List.mem_singleton]at hq;subst hq
    refine(Int.toNat_of_nonneg (Int.fmod_nonneg_of_pos _ ?_)).symm
    by_cases h4:k=4
    ·subst h4;rw[WX];decide
    ·cases ndm (jG nw k ((sDg rt (dgV xs (f+2*k+c)) k+(c:Nat)).fmod 8))with
     |true=>exact Int.sub_pos_of_lt (Int.ofNat_lt.mpr (Nat.lt_of_le_of_ne hk h4))
     |false=>show(0:Int)<6;decide
   ·cases h4:is4 k with
    |false=>rw[h4]at hq;cases hq
    |true=>rw[h4]at hq;rw[cond_true,List.mem_singleton]at hq;subst hq;exact WZ _
  ·simp only[List.mem_cons,List.not_mem_nil,or_false]at hq
   rcases hq with rfl|rfl|rfl
   ·rfl
   ·rfl
   ·have e:((f:Int)+2*(k:Nat)+(c:Nat))=((f+2*k+c:Nat):Int):=rfl
    rw[e]
    exact zI (p:=f+2*k+c) B hx (by lia) d _
 ·exact hQ q hq
noncomputable def EU(xs:List Int)(nw:Bool)(k:Nat)(z:Nat→SO)(e:Nat→SV)(y:Nat→SO):List SO :=
 [.list (sCs nw k),.iter .range [.int 0,.int 5,.int 1],.iter .rangeIt [.raw ((k:Nat)+1),.raw (5 - (k:Nat) - 1),.raw 1]]++zO (bQ nw k) z ++
  [.list (zV 2 e),.iter .range [.int 0,.int 2,.int 1],.dead]++zO (2*sB nw k) y
theorem VT(hr:rt∈p2){k:Nat}(hk:k∈n5)(f:Int)(nw:Bool)(z:Nat→SO)(e:Nat→SV)(y:Nat→SO)(x:Nat→Option SV)(o:List Ora)(pr:List Int)(qs:List Query)(d:Nat) :
  gV (g1 mb) (Rn mb [735] (94 - k)) none (lZ si2) (.ref (5+bQ nw k)) (iT si2) (sSt xs f nw rt k 2 z e y x o pr qs d)=some (.ok none,⟨LR xs f nw rt k x,EU xs nw k z e y,o,pr,qs,d⟩):=by
 have hw:=cP nw
 revert nw
 intro nw hw
 revert nw
 apply aA
 revert rt
 apply aA
 revert k
 apply aA
 kernel_rfl
theorem RC(B:aE mb)(hx:xs.length≤1000)(hf:f+10≤44)(hr:rt∈p2){k:Nat}(hk:k≤4)(z:Nat→SO)(x:Nat→Option SV)(PR:List Int)(QS:List Query)(d:Nat)(hQ:∀q∈QS,v0 mb q) :
  ∃y' x' QS',(∀q∈QS',v0 mb q)∧(Rn mb [735] (97 - k)).fors none (lZ si2) (.ref (5+bQ nw k)) (iT si2) (sSt xs f nw rt k 0 z (fun _=>.none) (fun _=>.dead) x (zr xs (10 - 2*k) fun i=>dgV xs (f+2*k+i)) (sP1 xs f nw rt k 0++(sP1 xs f nw rt k 1++PR)) QS (d+20)) =
   some (.ok .next,⟨LR xs f nw rt k x',EU xs nw k z (fun i=>nat? [cmV (iU xs f nw rt k 0),cmV (iU xs f nw rt k 1)] i .none) y',zr xs (8 - 2*k) fun i=>dgV xs (f+2*(k+1)+i),PR,QS',d+20⟩):=by
 obtain⟨y1,x1,Q1,hQ1,T1⟩:=zG (mb:=mb) (nw:=nw) (c:=0) B hx hf hr hk (.head _) z (fun _=>.none) (fun _=>.dead) x (sP1 xs f nw rt k 1++PR) QS d hQ (Ds:=fun i=>dgV xs (f+2*k+i)) rfl
 obtain⟨y2,x2,Q2,hQ2,T2⟩:=zG (mb:=mb) (nw:=nw) (c:=1) B hx hf hr hk (.tail _ (.head _)) z (fun i=>nat? (zV 0 (fun _=>.none)++[cmV (iU xs f nw rt k 0)]) i .none) y1 x1 PR Q1 d hQ1 (Ds:=fun i=>dgV xs (f+2*k+(i+1))) rfl
 refine⟨y2,x2,Q2,hQ2,?_⟩
 rw[Nat.sub_right_comm 96 k 1,Nat.sub_right_comm 9 (2*k) 1]at T2
 have h8:2*k≤8:=Nat.mul_le_mul_left 2 hk
 rw[sbs (n:=96) (Nat.le_trans hk (by decide)),sbs (n:=9) (Nat.le_trans h8 (by decide))]
 refine iP T1 ?_
 simp only[Nat.sub_zero]
 rw[sbs (n:=95) (Nat.le_trans hk (by decide)),sbs (n:=8) h8]
 refine iP T2 ?_
 rw[sbs (n:=94) (Nat.le_trans hk (by decide))]
 rw[show(fun i=>dgV xs (f+2*k+(i+1+1)))=fun i=>dgV xs (f+2*(k+1)+i)by funext i;rw[show f+2*k+(i+1+1)=f+2*(k+1)+i by omega]]
 exact oD (VT hr (nE hk) _ _ _ _ _ _ _ _ _ _)
end
end
section
open PySem.Calls
noncomputable def qX(nw:Bool)(k:Nat):Nat:=bQ nw k+(bif Nat.beq k 5 then 2 else 0)
noncomputable def tHd(cs:List SV)(it:SO):List SO:=[.list cs,.iter .range [.int 0,.int 5,.int 1],it]
noncomputable def qT (xs:List Int)(f:Int)(nw:Bool)(rt:Int)(x:Nat→Option SV):List (Option SV):=[some (scV xs),some (.int f),some (.bool nw),some (.int rt),some (.ref 0),x 0,x 1,x 2,x 3,x 4,x 5]
noncomputable def tSt (xs:List Int)(f:Int)(nw:Bool)(rt:Int)(k:Nat)(z:Nat→SO)(x:Nat→Option SV)(o:List Ora)(pr:List Int)(qs:List Query)(d:Nat):St :=
 ⟨qT xs f nw rt x,tHd (sCs nw k) (.iter .rangeIt [.raw (k:Nat),.raw (5 - (k:Nat)),.raw 1])++zO (qX nw k) z,o,pr,qs,d⟩
noncomputable def tIt(k:Nat):SO:=.iter .rangeIt [.raw ((k:Nat)+1),.raw (5 - (k:Nat) - 1),.raw 1]
noncomputable def EJ (xs:List Int)(f:Int)(nw:Bool)(rt:Int)(k:Nat)(z:Nat→SO)(x:Nat→Option SV)(o:List Ora)(pr:List Int)(qs:List Query)(d:Nat):St:=⟨qT xs f nw rt x,tHd (sCs nw k) (tIt k)++zO (bQ nw k) z,o,pr,qs,d⟩
noncomputable def xK (k:Nat)(x:Nat→Option SV):Nat→Option SV
  | 0=>some (.int (k:Nat))
  | i+1=>x (i+1)
noncomputable def xC (nw:Bool)(k:Nat)(x:Nat→Option SV):Nat→Option SV
 | 0=>some (.int (k:Nat))
 | 1=>some (.ref (3+bQ nw k))
 | i+2=>x (i+2)
noncomputable def VL(xs:List Int)(f:Int)(nw:Bool)(rt:Int)(k:Nat)(z:Nat→SO)(x:Nat→Option SV)(o:List Ora)(pr:List Int)(qs:List Query)(d:Nat):St:=⟨qT xs f nw rt (xC nw k x),tHd (sCs nw k) (tIt k)++zO (bQ nw k) z++[.list []],o,pr,qs,d⟩
noncomputable def VK(xs:List Int)(f:Int)(nw:Bool)(rt:Int)(k:Nat)(z:Nat→SO)(x:Nat→Option SV)(o:List Ora)(pr:List Int)(qs:List Query)(d:Nat):St:=⟨qT xs f nw rt (xC nw k x),tHd (sCs nw k) (tIt k)++zO (bQ nw k) z++[.list [],.iter .range [.int 0,.int 2,.int 1]],o,pr,qs,d⟩
noncomputable def tZ (nw:Bool)(k:Nat)(z:Nat→SO)(a b:SV)(y:Nat→SO):Nat→SO:=fun i=>nat? (zO (bQ nw k) z++[.list [a,b],.iter .range [.int 0,.int 2,.int 1],.dead]++zO (2*sB nw k) y) i .dead
noncomputable def tX (nw:Bool)(k:Nat)(x:Nat→Option SV):Nat→Option SV:=fun i=>nat? [some (.int (k:Nat)),some (.ref (3+bQ nw k)),x 0,x 1,x 2,x 3] i none
section
variable{mb:Bt}{xs:List Int}{f:Nat}{nw:Bool}{rt:Int}
theorem KR {G:Gl}{r:Rec}{hd:Option Nat}{t:IT}{i:SV}{b:ISs}{st s1 s2 s3:St}{v:SV}(h1:lP hd i st=some (.ok (some v),s1))(h2:sA G r hd v t s1=some (.ok (),s2))(h3:r.ex hd b s2=some (.ok .next,s3)):gV G r hd t i b st=some (.ok (some .next),s3):=by
 unfold gV eK lF bnd
 dsimp only
 rw [h1]
 dsimp only
 rw [h2]
 dsimp only
 rw [h3]
 rfl
theorem t_1 {k:Nat}(hk:k∈n5)(f:Int)(nw:Bool)(rt:Int)(z:Nat→SO)(x:Nat→Option SV)(o:List Ora)(pr:List Int)(qs:List Query)(d:Nat):lP none (.ref 2) (tSt xs f nw rt k z x o pr qs d)=some (.ok (some (.int (k:Nat))),EJ xs f nw rt k z x o pr qs d):=by
  have hw:=cP nw
  revert nw
  intro nw hw
  revert nw
  apply aA
  revert k
  apply aA
  kernel_rfl
theorem t_2 {k:Nat}(hk:k∈n5)(f:Int)(nw:Bool)(rt:Int)(z:Nat→SO)(x:Nat→Option SV)(Ds:Nat→Int)(pr:List Int)(qs:List Query)(d:Nat) :
  sA (g1 mb) (Rn mb [735] (98 - k)) none (.int (k:Nat)) (lZ ss2) (EJ xs f nw rt k z x (zr xs (10 - 2*k) Ds) pr qs d)=some (.ok (),EJ xs f nw rt k z (xK k x) (zr xs (10 - 2*k) Ds) pr qs d):=by
 have hw:=cP nw
 revert nw
 intro nw hw
 revert nw
 apply aA
 revert k
 apply aA
 kernel_rfl
theorem t_3{k:Nat}(hk:k∈n5)(f:Int)(nw:Bool)(rt:Int)(z:Nat→SO)(x:Nat→Option SV)(Ds:Nat→Int)(pr:List Int)(qs:List Query)(d:Nat) :
  sS (g1 mb) (Rn mb [735] (97 - k)) none si1 (EJ xs f nw rt k z (xK k x) (zr xs (10 - 2*k) Ds) pr qs d)=some (.ok .next,VL xs f nw rt k z x (zr xs (10 - 2*k) Ds) pr qs d):=by
 have hw:=cP nw
 revert nw
 intro nw hw
 revert nw
 apply aA
 revert k
 apply aA
 kernel_rfl
theorem t_4{k:Nat}(hk:k∈n5)(f:Int)(nw:Bool)(rt:Int)(z:Nat→SO)(x:Nat→Option SV)(o:List Ora)(pr:List Int)(qs:List Query)(d:Nat) :
  (Rn mb [735] (97 - k)).ev none (DK si2) (VL xs f nw rt k z x o pr qs d)=some (.ok (.ref (4+bQ nw k)),VK xs f nw rt k z x o pr qs d):=by
 have hw:=cP nw
 revert nw
 intro nw hw
 revert nw
 apply aA
 revert k
 apply aA
 kernel_rfl
theorem t_5{k:Nat}(hk:k∈n5)(f:Int)(nw:Bool)(rt:Int)(z:Nat→SO)(x:Nat→Option SV)(o:List Ora)(pr:List Int)(qs:List Query)(d:Nat) :
  hH (.ref (4+bQ nw k)) (VK xs f nw rt k z x o pr qs d)=some (.ok (.ref (5+bQ nw k)),sSt xs f nw rt k 0 z (fun _=>.none) (fun _=>.dead) (fun i=>x (i+2)) o pr qs d):=by
 have hw:=cP nw
 revert nw
 intro nw hw
 revert nw
 apply aA
 revert k
 apply aA
 kernel_rfl
theorem t_6{k:Nat}(hk:k∈n5)(f:Int)(nw:Bool)(rt:Int)(z:Nat→SO)(a b:SV)(y:Nat→SO)(x:Nat→Option SV)(o:List Ora)(pr:List Int)(qs:List Query)(d:Nat) :
  sSS (g1 mb) (Rn mb [735] (97 - k)) none (.cons si3 .nil) ⟨LR xs f nw rt k x,EU xs nw k z (fun i=>nat? [a,b] i .none) y,o,pr,qs,d⟩=some (.ok .next,tSt xs f nw rt (k+1) (tZ nw k z a b y) (tX nw k x) o pr qs d):=by
 have hw:=cP nw
 revert nw
 intro nw hw
 revert nw
 apply aA
 revert k
 apply aA
 kernel_rfl
theorem t_7(f:Int)(nw:Bool)(rt:Int)(z:Nat→SO)(x:Nat→Option SV)(o:List Ora)(pr:List Int)(qs:List Query)(d:Nat) :
  gV (g1 mb) (Rn mb [735] 93) none (lZ ss2) (.ref 2) (iT ss2) (tSt xs f nw rt 5 z x o pr qs d)=some (.ok none,⟨qT xs f nw rt x,tHd (sCs nw 5) .dead++zO (qX nw 5) z,o,pr,qs,d⟩):=by
 have hw:=cP nw
 revert nw
 apply aA
 kernel_rfl
theorem QT{k:Nat}(hk:k∈n5)(nw:Bool)(z:Nat→SO)(a b:SV)(y:Nat→SO):(List.range k).map (fun i=>tZ nw k z a b y (bQ nw i))=(List.range k).map (fun i=>z (bQ nw i)):=by
 have hw:=cP nw
 revert nw
 intro nw hw
 revert nw
 apply aA
 revert k
 apply aA
 kernel_rfl
theorem QU{k:Nat}(hk:k∈n5)(nw:Bool)(z:Nat→SO)(a b:SV)(y:Nat→SO):tZ nw k z a b y (bQ nw k) = .list [a,b]:=by
 have hw:=cP nw
 revert nw
 intro nw hw
 revert nw
 apply aA
 revert k
 apply aA
 kernel_rfl
theorem QQ(B:aE mb)(hx:xs.length≤1000)(hf:f+10≤44)(hr:rt∈p2)(d:Nat):∀m k,k+m=5→∀z x QS,(∀q∈QS,v0 mb q)→(∀i,i<k→z (bQ nw i)=scO (jJ xs f nw rt) i)→∃z' x' QS',(∀q∈QS',v0 mb q)∧(∀i,i<5→z' (bQ nw i)=scO (jJ xs f nw rt) i) ∧
  (Rn mb [735] (99 - k)).fors none (lZ ss2) (.ref 2) (iT ss2) (tSt xs f nw rt k z x (zr xs (10 - 2*k) fun i=>dgV xs (f+2*k+i)) (sPs xs f nw rt k m) QS (d+20))=some (.ok .next,⟨qT xs f nw rt x',tHd (sCs nw 5) .dead++zO (qX nw 5) z',[],[],QS',d+20⟩):=by
 intro m
 induction m with
 |zero =>
  intro k hk z x QS hQ hz
  obtain rfl:k=5:=hk
  exact⟨z,x,QS,hQ,hz,oD (n:=93) (t_7 f nw rt z x _ _ QS (d+20))⟩
 |succ m ih =>
  intro k hk z x QS hQ hz
  have hk4:k≤4:=Nat.le_of_succ_le_succ (Nat.le_trans (Nat.add_le_add_left (Nat.succ_le_succ (Nat.zero_le m)) k) (Nat.le_of_eq hk))
  have hk5:=nE hk4
  obtain⟨y1,x1,Q1,hQ1,L⟩:=RC (mb:=mb) (nw:=nw) B hx hf hr hk4 z (fun i=>x (i+2)) (sPs xs f nw rt (k+1) m) QS d hQ
  obtain⟨z',x',QS',hQ',hz',I⟩:=ih (k+1) ((Nat.add_right_comm k 1 m).trans hk) (tZ nw k z (cmV (iU xs f nw rt k 0)) (cmV (iU xs f nw rt k 1)) y1) (tX nw k x1) Q1 hQ1 (fun i hi=>by
   by_cases e:i=k
   ·subst e;exact QU hk5 _ _ _ _ _
   ·have o:=List.map_inj_left.mp (QT hk5 nw z (cmV (iU xs f nw rt k 0)) (cmV (iU xs f nw rt k 1)) y1) i (List.mem_range.mpr (by lia))
    exact o.trans (hz i (by lia)))
  refine⟨z',x',QS',hQ',hz',?_⟩
  have body:sSS (g1 mb) (Rn mb [735] (97 - k)) none (.cons si1 (.cons si2 (.cons si3 .nil))) (EJ xs f nw rt k z (xK k x) (zr xs (10 - 2*k) fun i=>dgV xs (f+2*k+i)) (sPs xs f nw rt k (m+1)) QS (d+20)) =
    some (.ok .next,tSt xs f nw rt (k+1) (tZ nw k z (cmV (iU xs f nw rt k 0)) (cmV (iU xs f nw rt k 1)) y1) (tX nw k x1) (zr xs (8 - 2*k) fun i=>dgV xs (f+2*(k+1)+i)) (sPs xs f nw rt (k+1) m) Q1 (d+20)):=by
   refine fQ (t_3 hk5 f nw rt z x _ _ QS (d+20)) (fQ ?_ (t_6 hk5 f nw rt z _ _ y1 x1 _ _ Q1 (d+20)))
   rw[RA]
   exact yK (t_4 hk5 f nw rt z x _ _ QS (d+20)) (t_5 hk5 f nw rt z x _ _ QS (d+20)) L
  rw[←LN]at body
  have T:=KR (G:=g1 mb) (r:=Rn mb [735] (98 - k)) (t_1 hk5 f nw rt z x _ _ QS (d+20)) (t_2 hk5 f nw rt z x _ _ QS (d+20)) (b:=iT ss2) (s3:=tSt xs f nw rt (k+1) (tZ nw k z (cmV (iU xs f nw rt k 0)) (cmV (iU xs f nw rt k 1)) y1) (tX nw k x1) (zr xs (8 - 2*k) fun i=>dgV xs (f+2*(k+1)+i)) (sPs xs f nw rt (k+1) m) Q1 (d+20)) (by
   rw[sbs (n:=97) (Nat.le_trans hk4 (by decide))];exact body)
  rw[sbs (n:=98) (Nat.le_trans hk4 (by decide))]
  refine iP T ?_
  rw[Nat.add_sub_add_right 98 1 k,Nat.mul_succ,Nat.add_sub_add_right 8 2 (2*k)]at I
  exact I
noncomputable def saS(xs:List Int)(f:Int)(nw:Bool)(rt:Int)(x:Option SV)(os:List SO)(o:List Ora)(pr:List Int)(d:Nat):St:=⟨[some (scV xs),some (.int f),some (.bool nw),some (.int rt),x,none,none,none,none,none,none],os,o,pr,[],d⟩
theorem ZZ(f:Int)(nw:Bool)(rt:Int)(Ds:Nat→Int)(pr:List Int)(d:Nat):sS (g1 mb) (Rn mb [735] 99) none ss1 (saS xs f nw rt none [] (zr xs 10 Ds) pr d)=some (.ok .next,saS xs f nw rt (some (.ref 0)) [.list []] (zr xs 10 Ds) pr d):=by kernel_rfl
theorem ZY(f:Int)(nw:Bool)(rt:Int)(Ds:Nat→Int)(pr:List Int)(d:Nat):(Rn mb [735] 99).ev none (DK ss2) (saS xs f nw rt (some (.ref 0)) [.list []] (zr xs 10 Ds) pr d)=some (.ok (.ref 1),saS xs f nw rt (some (.ref 0)) [.list [],.iter .range [.int 0,.int 5,.int 1]] (zr xs 10 Ds) pr d):=by kernel_rfl
theorem ZX(f:Int)(nw:Bool)(rt:Int)(z:Nat→SO)(o:List Ora)(pr:List Int)(d:Nat):hH (.ref 1) (saS xs f nw rt (some (.ref 0)) [.list [],.iter .range [.int 0,.int 5,.int 1]] o pr d)=some (.ok (.ref 2),tSt xs f nw rt 0 z (fun _=>none) o pr [] d):=by
 have hw:=cP nw
 revert nw
 apply aA
 kernel_rfl
theorem ZW(f:Int)(nw:Bool)(rt:Int)(z:Nat→SO)(x:Nat→Option SV)(qs:List Query)(d:Nat):sSS (g1 mb) (Rn mb [735] 99) none (.cons ss3 .nil) ⟨qT xs f nw rt x,tHd (sCs nw 5) .dead++zO (qX nw 5) z,[],[],qs,d⟩=some (.ok (.ret (.ref 0)),⟨qT xs f nw rt x,tHd (sCs nw 5) .dead++zO (qX nw 5) z,[],[],qs,d⟩):=by kernel_rfl
noncomputable def saP(nw:Bool):List Nat:=[0,3+bQ nw 0,3+bQ nw 1,3+bQ nw 2,3+bQ nw 3,3+bQ nw 4]
theorem ZV(nw:Bool)(z:Nat→SO):(eD (List.range 0++saP nw) (tHd (sCs nw 5) .dead++zO (qX nw 5) z).length,(saP nw).all fun p=>Nat.ble 0 p)=(true,true):=by
 have hw:=cP nw
 revert nw
 apply aA
 kernel_rfl
theorem ZU(nw:Bool)(z:Nat→SO):mR wid (List.range 0++saP nw) [] (tHd (sCs nw 5) .dead++zO (qX nw 5) z) =
  [.list [.ref 1,.ref 2,.ref 3,.ref 4,.ref 5]]++(List.range 5).map fun i=>rnO (dH (List.range 0++saP nw)) wid (z (bQ nw i)):=by
 have hw:=cP nw
 revert nw
 apply aA
 kernel_rfl
theorem ZT(nw:Bool):(fun v=>kR (rnV (dH (List.range 0++saP nw))) (.ok v)) (.ref 0)=(.ok (.ref 0):Except SV SV):=by
 have hw:=cP nw
 revert nw
 apply aA
 kernel_rfl
theorem VS(B:aE mb)(hx:xs.length≤1000)(hf:f+10≤44)(nw:Bool)(hr:rt∈p2)(d:Nat):CallOK (g0 mb) 742 [scV xs,.int f,.bool nw,.int rt] none (d+20+1) [] (.ok (.ref 0))
  [.list [.ref 1,.ref 2,.ref 3,.ref 4,.ref 5],scO (jJ xs f nw rt) 0,scO (jJ xs f nw rt) 1,scO (jJ xs f nw rt) 2,scO (jJ xs f nw rt) 3,scO (jJ xs f nw rt) 4]:=by
 obtain⟨z,x,QS,hQ,hz,I⟩:=QQ (mb:=mb) (nw:=nw) B hx hf hr d 5 0 rfl (fun _=>.dead) (fun _=>none) [] (fun _ h=>nomatch h) (fun i h=>absurd h (Nat.not_lt_zero i))
 have W:sSS (g1 mb) (Rn mb [735] 99) none (.cons ss1 (.cons ss2 (.cons ss3 .nil))) (saS xs f nw rt none [] (zr xs 10 fun i=>dgV xs (f+2*0+i)) (sPs xs f nw rt 0 5) (d+20))=some (.ok (.ret (.ref 0)),⟨qT xs f nw rt x,tHd (sCs nw 5) .dead++zO (qX nw 5) z,[],[],QS,d+20⟩):=by
  refine fQ (ZZ f nw rt _ _ _) (fQ ?_ (ZW f nw rt z x QS (d+20)))
  rw[QW]
  exact yK (ZY f nw rt _ _ _) (ZX f nw rt (fun _=>.dead) _ _ _) I
 have C:=mkV (mb:=mb) (f:=742) (F:=bY) (args:=[scV xs,.int f,.bool nw,.int rt]) (l:=[scV xs,.int f,.bool nw,.int rt]) (core:=[]) B rfl rfl LG rfl W hQ
 have ok:=ZV nw z
 simp only[Prod.mk.injEq]at ok
 have C2:=CallOK.sel (core:=[]) (ps:=saP nw) (ks:=[]) C aC ok.1 ok.2
 have e1:=ZT nw
 have e2:=ZU nw z
 have e3:(List.range 5).map (fun i=>rnO (dH (List.range 0++saP nw)) wid (z (bQ nw i)))=[scO (jJ xs f nw rt) 0,scO (jJ xs f nw rt) 1,scO (jJ xs f nw rt) 2,scO (jJ xs f nw rt) 3,scO (jJ xs f nw rt) 4]:=by
  show[rnO _ wid (z (bQ nw 0)),rnO _ wid (z (bQ nw 1)),rnO _ wid (z (bQ nw 2)),rnO _ wid (z (bQ nw 3)),rnO _ wid (z (bQ nw 4))]=_
  rw[hz 0 (by exact Nat.le_add_left _ _),hz 1 (by exact Nat.le_add_left _ _),hz 2 (by exact Nat.le_add_left _ _),hz 3 (by exact Nat.le_add_left _ _),hz 4 (by exact Nat.le_refl _)]
  rfl
 rw[e3]at e2
 have C3:CallOK (g0 mb) 742 [scV xs,.int f,.bool nw,.int rt] none (d+20+1) [] (kR (rnV (dH (List.range 0++saP nw))) (.ok (.ref 0))) (mR wid (List.range 0++saP nw) [] (tHd (sCs nw 5) .dead++zO (qX nw 5) z)):=C2
 rw[e2]at C3
 rw[show kR (rnV (dH (List.range 0++saP nw))) (.ok (.ref 0)) = .ok (.ref 0) from e1]at C3
 exact C3
end
end
section
open PySem.Calls
section
variable{G:Gl}{f:Nat}{args:List SV}{hd:Option Nat}{d:Nat}{objs objs':List SO}{out:Except SV SV}
theorem CallOK.frp{i j:Nat}{xs:List SV}(H:CallOK G f args hd d ((objs.set j .dead).set i (.clist [.fz (.tuple xs)])) out objs')(hi:objs[i]?=some (.list [.ref j]))(hj:objs[j]?=some (.tuple xs))(hij:i≠j)(hc:xs.all clV=true):CallOK G f args hd d objs out objs':=by
 intro A ρ s N vs hv RR post
 have li:i<ρ.a.length:=by rw[N.rep.len];exact(List.getElem?_eq_some_iff.mp hi).1
 have lj:j<ρ.a.length:=by rw[N.rep.len];exact(List.getElem?_eq_some_iff.mp hj).1
 have ai:=List.getElem?_eq_getElem li
 have aj:=List.getElem?_eq_getElem lj
 have R1:=N.rep.freeze aj hj (so:=.tuple xs) ((N.rep.ob _ _ _ hj aj).le Tr.le_frz) hc
 obtain⟨ws,n,e1,e2⟩:=N.rep.ob _ _ _ hi ai
 have hi':(objs.set j .dead)[i]?=some (.list [.ref j]):=by rw[List.getElem?_set_ne (Ne.symm hij)];exact hi
 have new:OR G (ρ.frz ρ.a[j] (.tuple xs)) s.heap ρ.a[i] (.clist [.fz (.tuple xs)]):=by
  refine⟨ws,n,e1,?_,fun x hx=>by rw[List.mem_singleton]at hx;subst hx;rfl⟩
  match ws.toList,e2 with
  |[v],⟨⟨a,ha,hv⟩,_⟩ =>
   rw[aj]at ha;cases ha
   exact⟨⟨ρ.a[j],.head _,hv⟩,trivial⟩
  |[],h=>exact h.elim
  |_::_::_,h=>exact h.2.elim
 have R2:=R1.reset (i:=i) ai hi' (fun q=>by cases q) new
 exact H A (ρ.frz ρ.a[j] (.tuple xs)) s ⟨N.frs,N.depth,N.units,N.hd,R2⟩ vs (hv.imp fun _ _ z=>z.mono Tr.le_frz) RR fun L' ρ' s' hL S R=>post L' ρ' s' hL ((aF.freeze aj).trans S) R
theorem CallOK.cl1{i:Nat}(H:CallOK G f args hd d (objs.set i (.clist [])) out objs')(hi:objs[i]?=some (.list [])):CallOK G f args hd d objs out objs' :=
 H.weak (fun ρ h R=>R.toCl hi fun _ h=>nomatch h) fun _ _ R=>R
theorem CallOK.td1{i:Nat}(H:CallOK G f args hd d (objs.set i (.tdict [])) out objs')(hi:objs[i]?=some (.sdict [])):CallOK G f args hd d objs out objs' :=
 H.weak (fun ρ h R=>by
  have li:i<ρ.a.length:=by rw[R.len];exact(List.getElem?_eq_some_iff.mp hi).1
  have ai:=List.getElem?_eq_getElem li
  obtain⟨kvs,es,ep,e1,e2,e3⟩:=R.ob _ _ _ hi ai
  have:kvs=[]:=by
   match kvs,e3 with
   |[],_=>rfl
   |_::_,h=>exact h.elim
  subst this
  refine R.reset ai hi (fun q=>by cases q) ⟨[],es,ep,e1,?_,List.nodup_nil,trivial⟩
  obtain⟨o,es',ep',g1,_,g3,_,g5,_⟩:=e2
  rw[e1]at g1;cases g1;cases g3
  show es.toList=[]
  generalize es.toList=l at g5
  cases l with
  |nil=>rfl
  |cons _ _=>cases g5) fun _ _ R=>R
end
end
section
open PySem.Calls
noncomputable def roW(lim:Int)(sc:Scs)(fa:Nat→Told)(P T:Nat→Int):Wd where
 lim:=lim
 t0:=[encC (sc 0).1,encC (sc 0).2]
 t1:=[encC (sc 1).1,encC (sc 1).2]
 t2:=[encC (sc 2).1,encC (sc 2).2]
 t3:=[encC (sc 3).1,encC (sc 3).2]
 t4:=[encC (sc 4).1,encC (sc 4).2]
 s0:=(P 0==1,decide (T 0≠0))
 s1:=(P 1==1,decide (T 1≠0))
 s2:=(P 2==1,decide (T 2≠0))
 s3:=(P 3==1,decide (T 3≠0))
 s4:=(P 4==1,decide (T 4≠0))
 f0:=fa 0
 f1:=fa 1
 f2:=fa 2
 f3:=fa 3
 f4:=fa 4
 f5:=fa 5
section
variable{xs:List Int}{f:Nat}{nw:Bool}{rt:Int}{lim:Int}{fa:Nat→Told}{P T:Nat→Int}
theorem UV(k:Nat)(v:Int):dmB (jG true k v)=false:=by
 unfold jG
 dsimp only [Bool.true_and]
 generalize (bif is4 k then v4 (v.fmod 4)else v8 v)=b
 cases b<;>rfl
theorem PQ(sc:Scs)(hn:nw=false→lim=40){k:Nat}(hk:k≤4)(c:Nat):(iU xs f nw rt k c).WF (roW lim sc fa P T) k:=by
 unfold iU UF
 dsimp only
 generalize hv:(sDg rt (dgV xs (f+2*k+c)) k+(c:Nat)).fmod 8=v
 generalize (sDg rt (dgV xs (f+2*k+c)) k).fdiv 8=a
 have h1:nw=true→dmB (jG nw k v)=false:=fun z=>by subst z;exact UV k v
 have h2:k=4→ndm (jG nw k v)=false:=fun z=>by subst z;exact WX nw v
 generalize jG nw k v=b at h1 h2
 have n6:(a.fmod 6).toNat≤5:=by
  exact Int.toNat_le.mpr (Int.le_of_lt_add_one (show a.fmod 6<5+1 from Int.fmod_lt_of_pos a (by decide)))
 have key:ndm b=true→k<k+1+(a.fmod (4 - (k:Nat))).toNat∧k+1+(a.fmod (4 - (k:Nat))).toNat≤4:=fun hb=>by
  have h4:k≠4:=fun z=>by rw[h2 z]at hb;cases hb
  have h5:(0:Int)<4 - (k:Nat):=Int.sub_pos_of_lt (Int.ofNat_lt.mpr (Nat.lt_of_le_of_ne hk h4))
  exact⟨Nat.lt_of_lt_of_le (Nat.lt_succ_self k) (Nat.le_add_right _ _),kq (Int.fmod_nonneg_of_pos a h5) (Int.fmod_lt_of_pos a h5)⟩
 have l40:dmB b=true→lim=40:=fun hb=>hn (by cases nw with|false=>rfl|true=>rw[h1 rfl]at hb;cases hb)
 cases b with
 |n=>exact key rfl
 |d=>exact⟨(key rfl).1,(key rfl).2,l40 rfl⟩
 |m=>exact⟨(key rfl).1,(key rfl).2,l40 rfl⟩
 |t=>exact n6
 |p=>exact n6
 |x=>exact n6
 |f=>exact n6
theorem IN{q:Int}:frK q∈[(0:Int),1,3,4,5]:=by
 unfold frK
 repeat' split
 all_goals decide
theorem TV{p:Int}:fc4 p∈[(5:Int),6,-1,2001]:=by
 unfold fc4
 repeat' split
 all_goals decide
theorem HD(a:Int):1+a.fmod 4∈[(1:Int),2,3,4]:=by
 have h1:=Int.fmod_nonneg_of_pos a (show(0:Int)<4 by decide)
 have h2:=Int.fmod_lt_of_pos a (show(0:Int)<4 by decide)
 obtain⟨n,e⟩:=Int.eq_ofNat_of_zero_le h1
 rw[e]at h2 ⊢
 exact mq4 n (Int.ofNat_lt.mp h2)
theorem TW(sc:Scs)(g:Nat):∀n,n≤5→EOK 0 ((roW lim sc (dgF xs g) P T).exF n):=by
 intro n hn
 have:=le5 n hn
 have v:∀i:Nat,qS i∈vals:=fun i=>by unfold qS;split<;>decide
 rcases this with rfl|rfl|rfl|rfl|rfl|rfl
 ·exact .c2 (qS 0) _ _ (v 0) (HD _) IN
 ·exact .c1 (qS 1) (v 1)
 ·exact .c34 (qS 2) 3 (v 2) (by decide)
 ·exact .c34 (qS 3) 4 (v 3) (by decide)
 ·exact .co (qS 4) _ (v 4) TV
 ·exact .c2 (qS 5) _ _ (v 5) (HD _) IN
theorem RF(g:Nat)(hn:nw=false→lim=40):WOK (roW lim (jJ xs f nw rt) (dgF xs g) P T) (jJ xs f nw rt) where
 tx:=fun k hk=>by
  have:k=0∨k=1∨k=2∨k=3∨k=4:=by lia
  rcases this with rfl|rfl|rfl|rfl|rfl<;>rfl
 wf:=fun k hk=>⟨PQ _ hn hk 0,PQ _ hn hk 1⟩
 fa:=TW _ g
end
theorem zD(c:Int):sOK (brk c):=by unfold brk;split<;>decide +kernel
theorem LK(c:Int):sOK (UM c):=by
 unfold UM
 repeat' split
 all_goals decide +kernel
theorem BP{t:Told}(h:sOK t.2.1):sOK (aX t).2.1:=by
 unfold aX
 split
 ·split<;>exact h
 ·split
  ·exact zD _
  ·exact h
theorem LJ{t:Told}(h:sOK t.2.1):sOK (lW t).2:=by
 unfold lW
 dsimp only
 generalize (if t.1=2∧t.2.2.1=1 then t.2.2.2 else t.1)=c
 split
 ·exact h
 ·split
  ·exact zD _
  ·exact LK _
section
variable {W:Wd}{sc:Scs}
theorem gW (O:WOK W sc)(hf:∀ n,n≤5→sOK (W.fa n).2.1):∀ f k,k≤4→∀ fr deep fast s,sOK (rule W sc f k fr deep fast s).1.2.1
 | 0,_,_,_,_,_,_=>show sOK "" by decide +kernel
 | f+1,k,hk,fr,deep,fast,s=>by
  have step:∀ c:Cmd,c.WF W k→∀ s,sOK (doC W (rule W sc f) c fr deep fast s).1.2.1:=by
   intro c hc s
   obtain ⟨v,n⟩:=c
   cases v with
   | x=>show sOK "invalid command name \"x\"";decide +kernel
   | t=>exact QX n
   | p=>show sOK "cannot yield: C stack busy";decide +kernel
   | f=>exact hf n hc
   | d=>exact gW O hf f n hc.2.1 _ _ _ _
   | m=>exact gW O hf f n hc.2.1 _ _ _ _
   | n =>
    show sOK (if deep+1>W.lim then _ else _:Told×PS).1.2.1
    split
    ·show sOK "too many nested evaluations (infinite loop?)";decide +kernel
    ·show sOK (if (W.sh n).1=true then aX _ else _).2.1
     split
     ·exact BP (gW O hf f n hc.2 _ _ _ _)
     ·exact gW O hf f n hc.2 _ _ _ _
  obtain ⟨w1,w2⟩:=O.wf k hk
  show sOK (if _ then _ else _:Told×PS).1.2.1
  split
  ·exact step _ w1 s
  ·exact step _ w2 _
theorem OD{t:Told}(h:sOK t.2.1):DEq [.int (lW t).1,.str (lW t).2] [.int (lW t).1,.str (lW t).2]:=by
 refine⟨[.int (lW t).1,.str (lW t).2],rfl,rfl,?_,?_,?_⟩
 ·simp only[PyData.canLayAll0,PyData.canLay0,Bool.and_true,Bool.true_and];exact LJ h
 ·simp[PyData.depth,PyData.depthAll]
 ·simp[PyData.eqv,PyData.eqvAll]
end
end
section
open PySem.Calls
noncomputable def sg0:Sg:=⟨"top",0,0,[],[],[],0,""⟩
noncomputable def WK(W:Wd)(av:SV):List SO:=(((core true W sg0 av).set 7 (.list [])).set 19 (.list [])).set 23 (.sdict [])
noncomputable def WJ(W:Wd):List SO:=((core false W sg0 .none).set 7 (.list [])).set 19 (.list [])
noncomputable def WL(W:Wd)(sc:Scs):List SO:=(((aM W sc [] [] []).set 4 (.list [])).set 5 (.list [.ref 12])).set 6 (.list [])++[.tuple [.txt W.t0,.bool false]]
noncomputable def sgT(sp:Int)(L M:List SV)(B:List (List SV×SV))(stp:Int)(txt:Str):Sg:=⟨"top",0,sp,L,M,B,stp,txt⟩
structure RoD where
 sp:Int
 L:List SV
 M:List SV
 B:List (List SV×SV)
 stp:Int
 txt:Str
 sp':Int
 B':List (List SV×SV)
 stp':Int
 txt':Str
 S:List SV
 t:Told
noncomputable def RoD.m(x:RoD):Sg:=sgT x.sp x.L x.M x.B x.stp x.txt
noncomputable def RoD.p(x:RoD):Sg:=sgT x.sp' x.L [] x.B' x.stp' x.txt'
noncomputable def phM:List Nat:=[21,20,22,23,24,25,26,27,30,31,32,33,34,35,19,7,9,8,17,18,38,37,36,40]
noncomputable def phP:List Nat:=[46,45,47,48,49,50,51,52,55,56,57,58,59,60,44,7,9,8,43,42]
noncomputable def phL:List Nat:=[66,0,9,8,62,64,65,1,2,3,4,5,63]
noncomputable def kO(t:Told):List SV:=[.int (lW t).1,.str (lW t).2]
noncomputable def tL(xs:List Int)(f rt:Int)(W:Wd)(sc:Scs)(x:RoD)(D0:Int)(fst:List Pl)(t:Int)(E A Q P T:Nat→Int)(d:Nat):List Pl :=
 [MC xs (f+21) D0 d]++fst ++
 [.gv (.lt W.lim 40 (decide (t≠0))) none,
  .fr 742 [scV xs,.int f,.bool (decide (t≠0)),.int rt] none d [] (.ok (.ref 0)) [.list [.ref 1,.ref 2,.ref 3,.ref 4,.ref 5],scO sc 0,scO sc 1,scO sc 2,scO sc 3,scO sc 4] [] [] wid] ++
 ((List.range 5).map fun k=>.fr 754 [.ref 0] none d [scO sc k] (.ok (.txt (W.tx k))) [scO sc k] [1+k] [] wid) ++
 [.fr 749 [scV xs,.int (f+10)] none d [] (.ok (.ref 0)) [.list [aR W.f0,aR W.f1,aR W.f2,aR W.f3,aR W.f4,aR W.f5]] [] [] wid] ++
 ((List.range 5).map fun k=>[MC xs (f+16+(k:Nat)) (E k) d,.gv (.eq ((E k+(k:Nat)+rt).fmod 2) (P k)) none,.gv (.eq ((E k).fdiv 2) (A k)) none,.gv (.eq ((A k+(k:Nat)).fmod 3) (Q k)) none,.gv (.lt (Q k) 2 (decide (T k≠0))) none]).flatten ++
 [.ex 581 [.ref 0,.ref 20,.txt W.t0] none d (WK W) (.ok (.ref 24)) (fun av=>core true W x.m av++[.tuple (kO x.t)]) phM [] (wkE 0) 39,
  .fr 280 [.ref 0,.txt W.t0] none d (WJ W) (.ok (.ref 20)) (core false W x.p .none++[.tuple (kO x.t)]) phP [] (wkE 0),
  .fr 803 [.ref 0,.int 0,.str "top",.int 1,.bool true] none d (WL W sc) (.ok (aR x.t)) (aM W sc x.L x.M x.S++[.dead]) phL [] wid,
  .fr 810 [aR x.t] none d [] (.ok (.ref 0)) [.tuple (kO x.t)] [] [] wid,
  .gv (.eqs (kO x.t) (kO x.t)) none,.gv (.eqs (kO x.t) (kO x.t)) none,.gv (.eqs x.L x.L) none,.gv (.eqs x.L x.L) none,.gv (.eqs x.M x.M) none,.gv (.eqs [] []) none,.gv (.eqs [] []) none]
noncomputable def tK(fst:List Int)(t:Int)(A Q P T:Nat→Int):List Int:=fst++[t]++((List.range 5).map fun k=>[P k,A k,Q k,T k]).flatten
noncomputable def WC:List Nat:=[735,742,754,749,581,280,803,810]
section
variable{mb:Bt}{xs:List Int}
noncomputable def roL(mb:Bt)(xs:List Int)(f rt:Int)(ps:List Pl)(pr:List Int)(d:Nat):Option FT :=
 cH wid (List.range ([]:List SO).length++[]) [] ps (bH mb WC 100 gQ none [scV xs,.int f,.int rt] [] (d+1) ps pr)
noncomputable def roR(mb:Bt)(xs:List Int)(f rt:Int)(ps:List Pl)(pr:List Int)(d:Nat):Option FT :=
 cG (.ok (.bool true)) [] ps (bH mb WC 100 gQ none [scV xs,.int f,.int rt] [] (d+1) ps pr)
theorem WB(f rt:Int)(sc:Scs)(fa:Nat→Told)(x:RoD)(D0 a q t:Int)(E A Q P T:Nat→Int)(d:Nat) :
  roL mb xs f rt (tL xs f rt (roW (2+q) sc fa P T) sc x D0 [.gv (.eq (D0.fmod 4) 1) none,.gv (.eq (D0.fdiv 4) a) none,.gv (.eq (a.fmod 4) q) none] t E A Q P T (d+20)).reverse (tK [1,a,q] t A Q P T) (d+20) =
   roR mb xs f rt (tL xs f rt (roW (2+q) sc fa P T) sc x D0 [.gv (.eq (D0.fmod 4) 1) none,.gv (.eq (D0.fdiv 4) a) none,.gv (.eq (a.fmod 4) q) none] t E A Q P T (d+20)).reverse (tK [1,a,q] t A Q P T) (d+20):=by
 kernel_rfl
theorem WA(f rt:Int)(sc:Scs)(fa:Nat→Told)(x:RoD)(D0 t:Int)(E A Q P T:Nat→Int)(d:Nat):∀p∈[(0:Int),2,3],
  roL mb xs f rt (tL xs f rt (roW 40 sc fa P T) sc x D0 [.gv (.eq (D0.fmod 4) p) none] t E A Q P T (d+20)).reverse (tK [p] t A Q P T) (d+20) =
   roR mb xs f rt (tL xs f rt (roW 40 sc fa P T) sc x D0 [.gv (.eq (D0.fmod 4) p) none] t E A Q P T (d+20)).reverse (tK [p] t A Q P T) (d+20):=by
 apply aA
 kernel_rfl
end
end
section
open PySem.Calls
section
variable{mb:Bt}{xs:List Int}{W:Wd}{sc:Scs}{x:RoD}{d:Nat}
theorem aAg(H:∀a,CallOK (g0 mb) 581 [.ref 0,.ref 20,.txt W.t0] none d (core true W sg0 (.ext a)) (.ok (.ref 24)) (core true W x.m (.ext a)++[.tuple (kO x.t)])) :
  (Pl.ex 581 [.ref 0,.ref 20,.txt W.t0] none d (WK W) (.ok (.ref 24)) (fun av=>core true W x.m av++[.tuple (kO x.t)]) phM [] (wkE 0) 39).OK mb:=by
 refine⟨fun a=>?_,bI 0⟩
 refine CallOK.td1 (i:=23) ?_ rfl
 refine CallOK.cl1 (i:=19) ?_ rfl
 exact CallOK.cl1 (i:=7) (H a) rfl
theorem aAf(H:CallOK (g0 mb) 280 [.ref 0,.txt W.t0] none d (core false W sg0 .none) (.ok (.ref 20)) (core false W x.p .none++[.tuple (kO x.t)])) :
  (Pl.fr 280 [.ref 0,.txt W.t0] none d (WJ W) (.ok (.ref 20)) (core false W x.p .none++[.tuple (kO x.t)]) phP [] (wkE 0)).OK mb:=by
 refine⟨?_,bI 0⟩
 refine CallOK.cl1 (i:=19) ?_ rfl
 exact CallOK.cl1 (i:=7) H rfl
theorem aAe(H:CallOK (g0 mb) 803 [.ref 0,.int 0,.str "top",.int 1,.bool true] none d (aM W sc [] [mkE W 0 false] []) (.ok (aR x.t)) (aM W sc x.L x.M x.S)) :
  (Pl.fr 803 [.ref 0,.int 0,.str "top",.int 1,.bool true] none d (WL W sc) (.ok (aR x.t)) (aM W sc x.L x.M x.S++[.dead]) phL [] wid).OK mb:=by
 refine⟨?_,aC⟩
 have H1:CallOK (g0 mb) 803 [.ref 0,.int 0,.str "top",.int 1,.bool true] none d (aM W sc [] [mkE W 0 false] []++[.dead]) (.ok (aR x.t)) (aM W sc x.L x.M x.S++[.dead]) :=
  CallOK.frame (φ:=List.range 12) (ks:=[]) (args:=[.ref 0,.int 0,.str "top",.int 1,.bool true]) (hd:=none) (objs:=aM W sc [] [mkE W 0 false] []++[.dead]) H aC rfl rfl rfl rfl
 refine CallOK.cl1 (i:=6) ?_ rfl
 refine CallOK.cl1 (i:=4) ?_ rfl
 exact CallOK.frp (i:=5) (j:=12) (xs:=[.txt W.t0,.bool false]) H1 rfl rfl (by decide) rfl
theorem okD(B:aE mb)(hx:xs.length≤1000){p:Nat}{a:Int}(hp:p<44)(e:a=(p:Nat))(d:Nat):(MC xs a (dgV xs p) (d+20)).OK mb:=by
 subst e
 exact⟨PM B hx (List.mem_range.mpr hp) d,aC⟩
end
section
variable{mb:Bt}{xs:List Int}
noncomputable def HJ:List Int:=[2,3,4,5,40]
theorem SU:∀l∈HJ,((0:Int),l)∈okP∧((1:Int),l)∈okP∧(l=40∨l∈[(2:Int),3,4,5]):=by decide
theorem SW:∀l∈HJ,decide (l<40)=false→l=40:=by decide
theorem XZ:∀l∈HJ,(1:Int)≤l:=by decide
theorem XY:∀q∈p4,2+q∈HJ:=by decide
theorem XX:∀q∈p4,q≠1→q∈[(0:Int),2,3]:=by decide
noncomputable def rE(xs:List Int)(f k:Nat):Int:=dgV xs (f+16+k)
noncomputable def rP(xs:List Int)(f:Nat)(rt:Int)(k:Nat):Int:=(rE xs f k+(k:Nat)+rt).fmod 2
noncomputable def rA(xs:List Int)(f k:Nat):Int:=(rE xs f k).fdiv 2
noncomputable def rQ(xs:List Int)(f k:Nat):Int:=(rA xs f k+(k:Nat)).fmod 3
noncomputable def rT(xs:List Int)(f k:Nat):Int:=if rQ xs f k<2 then 1 else 0
theorem ltT(a b:Int):decide (a<b)=decide ((if a<b then(1:Int)else 0)≠0):=by
 by_cases h:a<b
 ·rw[if_pos h];simp[h]
 ·rw[if_neg h];simp[h]
theorem okc{p:Pl}{l:List Pl}(h:p.OK mb)(hl:∀q∈l,q.OK mb):∀q∈p::l,q.OK mb:=fun q hq=>(List.mem_cons.mp hq).elim (fun e=>e▸h) (hl q)
theorem oka{l l':List Pl}(h:∀q∈l,q.OK mb)(h':∀q∈l',q.OK mb):∀q∈l++l',q.OK mb:=fun q hq=>(List.mem_append.mp hq).elim (h q) (h' q)
theorem okm{g:Nat→Pl}(h:∀k,k≤4→(g k).OK mb):∀q∈(List.range 5).map g,q.OK mb:=fun q hq=>by
 obtain⟨k,hk,rfl⟩:=List.mem_map.mp hq
 exact h k (Nat.le_of_lt_succ (List.mem_range.mp hk))
theorem okf{g:Nat→List Pl}(h:∀k,k≤4→∀q∈g k,q.OK mb):∀q∈((List.range 5).map g).flatten,q.OK mb:=fun q hq=>by
 obtain⟨l,hl,hp⟩:=List.mem_flatten.mp hq
 obtain⟨k,hk,rfl⟩:=List.mem_map.mp hl
 exact h k (Nat.le_of_lt_succ (List.mem_range.mp hk)) q hp
inductive RoI(mb:Bt)(W:Wd)(sc:Scs):Prop
 |mk(x:RoD)(hM:∀a,CallOK (g0 mb) 581 [.ref 0,.ref 20,.txt W.t0] none 200 (core true W sg0 (.ext a)) (.ok (.ref 24)) (core true W x.m (.ext a)++[.tuple (kO x.t)]))
  (hP:CallOK (g0 mb) 280 [.ref 0,.txt W.t0] none 200 (core false W sg0 .none) (.ok (.ref 20)) (core false W x.p .none++[.tuple (kO x.t)]))
  (hR:CallOK (g0 mb) 803 [.ref 0,.int 0,.str "top",.int 1,.bool true] none 200 (aM W sc [] [mkE W 0 false] []) (.ok (aR x.t)) (aM W sc x.L x.M x.S))
  (hT:TK x.t)(hS:sOK x.t.2.1)(hL:DEq x.L x.L)(hMM:DEq x.M x.M)
theorem OU{σ:Sg}{L M:List SV}{fr:Str}{dp:Int}(h1:σ.L=L)(h2:σ.fr=fr)(h3:σ.dp=dp)(h4:σ.M=M):σ=⟨fr,dp,σ.sp,L,M,σ.B,σ.stp,σ.txt⟩:=by
 subst h1;subst h2;subst h3;subst h4;rfl
theorem RG(B:aE mb){W:Wd}{sc:Scs}(O:WOK W sc)(hfs:∀n,n≤5→sOK (W.fa n).2.1)(l0:((0:Int),W.lim)∈okP)(l1:((1:Int),W.lim)∈okP)(l2:oQ W 1 1 5):RoI mb W sc:=by
 have room:eU { L:=[],M:=[mkE W 0 false],S:=[] } (gr 5):=⟨(by decide:0+gr 5≤100000),(by decide:1+gr 5≤100000),(by decide:0+gr 5≤1000)⟩
 have good:eV { L:=[],M:=[mkE W 0 false],S:=[] }:=⟨fun _ h=>absurd h List.not_mem_nil,fun e h=>by rw[List.mem_singleton.mp h];exact vO (iY O (Nat.zero_le _))⟩
 have stop:sOK "top":=by decide +kernel
 obtain⟨sn,_,hRu⟩:=EZ B O 5 (Nat.le_refl _) 0 (Nat.zero_le _) (Nat.le_refl _) "top" 1 true _ [] stop good gT.nil room
 obtain⟨r,τ,Pm,hRc⟩:=FC (σ:=sg0.made (W.tx 0) false) (deep:=1) B (Nat.le_refl 5) (uK B O 5 (Nat.le_refl _)).1 (Nat.zero_le _) (Nat.le_refl _)
  ⟨rfl,fun _=>rfl,fun _=>⟨rfl,fun k _ b=>⟨fun h=>absurd h List.not_mem_nil,fun _=>rfl⟩⟩⟩ (show(0:Int)≤0 by decide) l0 l1 l2 room
 have hM:=WU (l:=W.tx 0) B (PD (σ:=sg0) B O (Nat.zero_le _) (by decide)) hRc Pm.ok
 obtain⟨r',τ',Pp,hRp⟩:=run_plain (bk:=fun _ _=>True) B O 5 (Nat.le_refl _) 0 (Nat.zero_le _) (Nat.le_refl _) sg0 { L:=[],M:=[mkE W 0 false],S:=[] } true trivial ⟨rfl,(fun z=>nomatch z),(fun z=>nomatch z)⟩ (show(0:Int)≤0 by decide) l0 room
 have hP:=YE B hRp Pp.ok
 rw[show toldOf r=_ from Pm.told]at hM
 rw[show toldOf r'=_ from Pp.told]at hP
 have hg:=cR O 5 0 (Nat.zero_le _) "top" 1 true _ good stop
 have hso:=gW O hfs 5 0 (Nat.zero_le _) "top" 1 true { L:=[],M:=[mkE W 0 false],S:=[] }
 have eP:=OU Pp.rel.L Pp.fr Pp.dp (Pp.M rfl)
 have eM:=OU Pm.rel.L Pm.fr Pm.dp (Pm.rel.M rfl)
 refine⟨⟨τ.sp,(rule W sc 5 0 "top" 1 true { L:=[],M:=[mkE W 0 false],S:=[] }).2.L,(rule W sc 5 0 "top" 1 true { L:=[],M:=[mkE W 0 false],S:=[] }).2.M,τ.B,τ.stp,τ.txt,τ'.sp,τ'.B,τ'.stp,τ'.txt,sn,(rule W sc 5 0 "top" 1 true { L:=[],M:=[mkE W 0 false],S:=[] }).1⟩,fun a=>?_,?_,?_,hg.2,hso,sV hg.1.L,sV hg.1.M⟩
 ·have:=hM 200 (by decide) a
  rw[eM]at this;exact this
 ·have:=hP 200 (by decide) 0
  rw[eP]at this;exact this
 ·exact EX hRu true 200 (by decide)
theorem LU(B:aE mb)(hx:xs.length≤1000){f:Nat}{rt:Int}(hf:f+22≤44){W:Wd}{sc:Scs}(hI:RoI mb W sc){fst:List Pl}{fp:List Int}(hfst:∀p∈fst,p.OK mb){t:Int}(ht:decide (W.lim<40)=decide (t≠0))
  (hsa:(Pl.fr 742 [scV xs,.int f,.bool (decide (t≠0)),.int rt] none 200 [] (.ok (.ref 0)) [.list [.ref 1,.ref 2,.ref 3,.ref 4,.ref 5],scO sc 0,scO sc 1,scO sc 2,scO sc 3,scO sc 4] [] [] wid).OK mb)
  (htx:∀k,k≤4→(Pl.fr 754 [.ref 0] none 200 [scO sc k] (.ok (.txt (W.tx k))) [scO sc k] [1+k] [] wid).OK mb)
  (hfa:(Pl.fr 749 [scV xs,.int (f+10)] none 200 [] (.ok (.ref 0)) [.list [aR W.f0,aR W.f1,aR W.f2,aR W.f3,aR W.f4,aR W.f5]] [] [] wid).OK mb)
  (key:∀(x:RoD),roL mb xs f rt (tL xs f rt W sc x (dgV xs (f+21)) fst t (rE xs f) (rA xs f) (rQ xs f) (rP xs f rt) (rT xs f) 200).reverse (tK fp t (rA xs f) (rQ xs f) (rP xs f rt) (rT xs f)) 200 =
   roR mb xs f rt (tL xs f rt W sc x (dgV xs (f+21)) fst t (rE xs f) (rA xs f) (rQ xs f) (rP xs f rt) (rT xs f) 200).reverse (tK fp t (rA xs f) (rQ xs f) (rP xs f rt) (rT xs f)) 200) :
  CallOK (g0 mb) 815 [scV xs,.int f,.int rt] none 201 [] (.ok (.bool true)) []:=by
 obtain⟨x,hM,hP,hR,hT,hS,hL,hMM⟩:=hI
 have h0:DEq [] []:=sV (L:=[]) fun _ h=>nomatch h
 have hTop:=OD hS
 have hd:∀{p:Nat}{a:Int},p<44→a=(p:Nat)→(MC xs a (dgV xs p) 200).OK mb:=fun h e=>okD B hx h e 180
 refine mkC (core:=[]) B (ns:=[]) (F:=gQ) rfl aC (key x) rfl fun p hp=>oka (oka (oka (oka (oka (oka (ok1 (hd (p:=f+21) (by assumption) (by lia))) hfst) (ok2 (p:=.gv (.lt W.lim 40 (decide (t≠0))) none) ht hsa)) (okm htx)) (ok1 hfa)) (okf fun k hk=>?_)) ?_ p (List.mem_reverse.mp hp)
 ·exact okc (hd (p:=f+16+k) (by lia) (by lia)) (okc (p:=.gv _ none) rfl (ok3 (p:=.gv _ none) (p':=.gv _ none) (p'':=.gv _ none) rfl rfl (ltT _ _)))
 ·exact okc (aAg hM) (okc (aAf hP) (okc (aAe hR) (okc ⟨UY B hT 180,aC⟩ (okc (p:=.gv _ none) hTop (okc (p:=.gv _ none) hTop (okc (p:=.gv _ none) hL (okc (p:=.gv _ none) hL (ok3 (p:=.gv _ none) (p':=.gv _ none) (p'':=.gv _ none) hMM h0 h0))))))))
theorem aAd(xs:List Int)(g:Nat)(lim:Int)(sc:Scs)(P T:Nat→Int):∀n,n≤5→sOK ((roW lim sc (dgF xs g) P T).fa n).2.1:=fun n h=>by
 match n,h with
 |0,_=>exact(by decide +kernel:sOK "w0")
 |1,_=>exact(by decide +kernel:sOK "w1")
 |2,_=>exact(by decide +kernel:sOK "w2")
 |3,_=>exact(by decide +kernel:sOK "w3")
 |4,_=>exact(by decide +kernel:sOK "w4")
 |5,_=>exact(by decide +kernel:sOK "w5")
 |n+6,h=>exact absurd h (by lia)
theorem FA(B:aE mb)(hx:xs.length≤1000){f:Nat}{rt:Int}(hf:f+22≤44)(hr:rt∈p2){lim:Int}(hl:lim∈HJ){fst:List Pl}{fp:List Int}(hfst:∀p∈fst,p.OK mb)
  (key:∀(sc:Scs)(fa:Nat→Told)(x:RoD)(t:Int)(E A Q P T:Nat→Int)(d:Nat),roL mb xs f rt (tL xs f rt (roW lim sc fa P T) sc x (dgV xs (f+21)) fst t E A Q P T (d+20)).reverse (tK fp t A Q P T) (d+20) =
   roR mb xs f rt (tL xs f rt (roW lim sc fa P T) sc x (dgV xs (f+21)) fst t E A Q P T (d+20)).reverse (tK fp t A Q P T) (d+20)) :
  CallOK (g0 mb) 815 [scV xs,.int f,.int rt] none 201 [] (.ok (.bool true)) []:=by
 obtain⟨l0,l1,l2⟩:=SU lim hl
 have hn:decide ((if lim<40 then(1:Int)else 0)≠0)=false→lim=40:=fun z=>SW lim hl ((ltT _ _).trans z)
 have O:=RF (xs:=xs) (f:=f) (nw:=decide ((if lim<40 then(1:Int)else 0)≠0)) (rt:=rt) (P:=rP xs f rt) (T:=rT xs f) (f+10) hn
 refine LU B hx hf (RG B O (aAd _ _ _ _ _ _) l0 l1 (l2.elim (fun h=>.inl ⟨h,by decide⟩) fun h=>.inr ⟨h,rfl,XZ lim hl⟩)) hfst (t:=if lim<40 then(1:Int)else 0) (ltT _ _) ⟨VS B hx (by lia) _ hr 179,aC⟩ (fun k hk=>⟨?_,aC⟩) ⟨?_,aC⟩ fun x=>key _ _ x _ _ _ _ _ _ 180
 ·obtain⟨w1,w2⟩:=O.wf k hk
  rw[O.tx k hk]
  exact OS B (wf5 w1) (wf5 w2) 180
 ·have:=YM (f:=f+10) B hx (by lia) 179
  rw[show((f+10:Nat):Int)=(f:Int)+10 by lia]at this
  exact this
theorem OV(B:aE mb)(hx:xs.length≤1000){f:Nat}{rt:Int}(hf:f+22≤44)(hr:rt∈p2):CallOK (g0 mb) 815 [scV xs,.int f,.int rt] none 201 [] (.ok (.bool true)) []:=by
 by_cases h1:(dgV xs (f+21)).fmod 4=1
 ·have hq:=RU ((dgV xs (f+21)).fdiv 4)
  refine FA (lim:=2+((dgV xs (f+21)).fdiv 4).fmod 4) B hx hf hr ?_ (fst:=[.gv (.eq ((dgV xs (f+21)).fmod 4) 1) none,.gv (.eq ((dgV xs (f+21)).fdiv 4) ((dgV xs (f+21)).fdiv 4)) none,.gv (.eq (((dgV xs (f+21)).fdiv 4).fmod 4) (((dgV xs (f+21)).fdiv 4).fmod 4)) none]) (fp:=[1,(dgV xs (f+21)).fdiv 4,((dgV xs (f+21)).fdiv 4).fmod 4]) ?_ fun sc fa x t E A Q P T d=>WB _ _ sc fa x _ _ _ t E A Q P T d
  ·exact XY _ hq
  ·exact ok3 (p:=.gv _ none) (p':=.gv _ none) (p'':=.gv _ none) h1 rfl rfl
 ·have hq:=RU (dgV xs (f+21))
  refine FA (lim:=40) B hx hf hr (by decide) (fst:=[.gv (.eq ((dgV xs (f+21)).fmod 4) ((dgV xs (f+21)).fmod 4)) none]) (fp:=[(dgV xs (f+21)).fmod 4]) (ok1 (p:=.gv _ none) rfl) fun sc fa x t E A Q P T d=>WA _ _ sc fa x _ t E A Q P T d _ ?_
  exact XX _ hq h1
end
end
section
open PySem.Calls
section
variable{mb:Bt}{xs:List Int}
noncomputable def uV(xs:List Int)(d:Nat):List Pl:=[.fr 815 [scV xs,.int 22,.int 1] none d [] (.ok (.bool true)) [] [] [] wid,.fr 815 [scV xs,.int 0,.int 0] none d [] (.ok (.bool true)) [] [] [] wid]
theorem YB(xs:List Int):cH wid (List.range 0++[]) [] (uV xs 202) (bH mb [815] 40 NX none [scV xs] [] 203 (uV xs 202) [])=cG (.ok (.bool true)) [] (uV xs 202) (bH mb [815] 40 NX none [scV xs] [] 203 (uV xs 202) []):=by kernel_rfl
theorem SX(B:aE mb)(hx:xs.length≤1000):CallOK (g0 mb) 822 [scV xs] none 203 [] (.ok (.bool true)) [] :=
 mkC B (cs:=[815]) (n:=40) (pr:=[]) (F:=NX) rfl aC (YB xs) rfl fun p hp=>by
  simp only[uV,List.mem_cons,List.not_mem_nil,or_false]at hp
  rcases hp with rfl|rfl
  ·exact⟨(OV (f:=22) B hx (by exact Nat.le_refl _) (by decide)).le (by exact Nat.le_add_left _ _),aC⟩
  ·exact⟨(OV (f:=0) B hx (by exact Nat.le_add_left _ _) (by decide)).le (by exact Nat.le_add_left _ _),aC⟩
end
end
section
open PySem.Calls
theorem NP(w:World):(fencedOpening treeTable rp w 6000).map (fun s=>(s.heap,s.gens,s.drawn,s.toks))=some (H0 w,⟨[]⟩,boot_drawn,boot_toks) :=
 boot_open (p:=rp) rfl rfl (fun s=>rfl) w
theorem NL(w:World):((H0 w).isNs mainGlobals&&(⟨[]⟩:Array GenState).size==0,(H0 w).objs.size,(H0 w).nsMap mainGlobals "__annotations__")=(true,11,some (.ref 6)):=by kernel_rfl
theorem TH(w:World)(s:Shared)(c:Code)(p:Pos):topRun treeTable rp w 11 (some (.ref 6)) 2 s ⟨doneF .next,c,p,[topFrame z0]⟩=some s:=by rfl
theorem LQ{w:World}{x:Option (Flow×SharedT×Code×Pos)}(h:VQ x=VP x)(hF:∀prog w2 mb V,(x.map fun x=>ftable.map (fnL (fragOf x.2.1.abs.heap)))=x.map fun x=>ftable.map (fnR (theG (fragOf x.2.1.abs.heap) prog w2 mb V)))(hL:x.map (fun x=>AR w x.2.1.abs)=x.map (fun _=>(true,openGood qv lq))):∃s p,x=some (.next,s,cE,p)∧(staticsOk (importedModules rp.main.body) (H0 w) s.abs.heap&&namesBound rp s.abs.heap&&gensDone s.abs&&laidKept (H0 w) s.abs.heap)=true∧openSeen qv lq (importedModules rp.main.body) XtQ true s.abs=openGood qv lq∧Facts (fragOf s.abs.heap)∧s.abs.heap.objs.size=823:=by
 cases x with
 |none=>exact absurd (congrArg (·.1) h) Bool.false_ne_true
 |some x =>
  have h1:=Option.some.inj (congrArg (·.2) h)
  obtain⟨f,s,c,p⟩:=x
  have hf:HQ f=true:=congrArg (·.1) h1
  obtain rfl:c=cE:=congrArg (·.2.1) h1
  have hl:AR w s.abs=(true,openGood qv lq):=Option.some.inj hL
  unfold AR at hl
  obtain⟨l1,l2⟩:=Prod.mk.inj hl
  refine⟨s,p,?_,l1,l2,⟨congrArg (·.2.2.2) h1,fun prog w2 mb V=>Option.some.inj (hF prog w2 mb V)⟩,(absHeap_size ..).trans (Nat.eq_of_beq_eq_true (congrArg (·.2.2.1) h1))⟩
  cases f<;>first|rfl|exact absurd hf Bool.false_ne_true
theorem TF{w:World}{os:OsState}{s:SharedT}{p:Pos}(hx:AX w os=some (.next,s,cE,p)):topRun treeTable rp w 11 (some (.ref 6)) (12+(2+(5506+2))) (S0 w os) (topStub rp)=some s.abs:=by
 refine go_top (TG w os) (piece_block (TJ w os) ?_)
 rw[←List.append_nil (behindTheImports rp)]
 refine piece_app (l:=behindTheImports rp) (rest:=[]) ?_ (p':=p) (piece_nil (TH w _ cE p))
 rw[←YF]
 exact segRun_of hx
theorem xZ{w:World}{os:OsState}{s:Shared}(r:topRun treeTable rp w 11 (some (.ref 6)) 6000 (S0 w os) (topStub rp)=some s)
  (l:(staticsOk (importedModules rp.main.body) (H0 w) s.heap&&namesBound rp s.heap&&gensDone s&&laidKept (H0 w) s.heap)=true):topFrom treeTable rp w 6000 (S0 w os)=some s:=by
 obtain⟨z1,z2,z3⟩:_∧_∧_:=by simpa only [Prod.mk.injEq]using NL w
 unfold topFrom
 show(match(H0 w).isNs mainGlobals&&(⟨[]⟩:Array GenState).size==0 with
 |true=>(topRun treeTable rp w (H0 w).objs.size ((H0 w).nsMap mainGlobals "__annotations__") 6000 (S0 w os) (topStub rp)).bind fun s₁=>match staticsOk (importedModules rp.main.body) (H0 w) s₁.heap&&namesBound rp s₁.heap&&gensDone s₁&&laidKept (H0 w) s₁.heap with
   |true=>some s₁
   |false=>none
 |false=>none)=_
 rw[z1,z2,z3,r]
 show(match staticsOk (importedModules rp.main.body) (H0 w) s.heap&&namesBound rp s.heap&&gensDone s&&laidKept (H0 w) s.heap with|true=>some s|false=>none)=_
 rw[l]
theorem NQ{w:World}{os:OsState}{s:SharedT}{p:Pos}(hx:AX w os=some (.next,s,cE,p)):topRun treeTable rp w 11 (some (.ref 6)) 6000 (S0 w os) (topStub rp)=some s.abs :=
 topRun_mono 478 _ _ _ _ (TF hx)
theorem YH{w:World}{s0:Shared}{s:Shared}(e:fencedOpening treeTable rp w 6000=some s0)(t:topFrom treeTable rp w 6000 s0=some s)(l2:openSeen qv lq (importedModules rp.main.body) XtQ true s=openGood qv lq)(hf:Facts (fragOf s.heap)∧s.heap.objs.size=823) :
  (openEnds treeTable rp w 6000).map (fun s=>(openSeen qv lq (importedModules rp.main.body) XtQ true s,Facts (fragOf s.heap)∧s.heap.objs.size=823))=some (openGood qv lq,True):=by
 unfold openEnds
 rw[e,Option.bind_some,t,Option.map_some,l2,eq_true hf]
theorem YG(w:World):∃s,(∃s0,fencedOpening treeTable rp w 6000=some s0∧topFrom treeTable rp w 6000 s0=some s)∧openSeen qv lq (importedModules rp.main.body) XtQ true s=openGood qv lq∧Facts (fragOf s.heap)∧s.heap.objs.size=823:=by
 obtain⟨⟨h,gs,d,k,os⟩,e,e'⟩:=Option.map_eq_some_iff.mp (NP w)
 obtain⟨rfl,rfl,rfl,rfl⟩:h=H0 w∧gs=⟨[]⟩∧d=boot_drawn∧k=boot_toks:=by simpa only [Prod.mk.injEq]using e'
 obtain⟨s,p,hx,l1,l2,hf⟩:=LQ (TL w os) (YI w os) (NM w os)
 exact⟨s.abs,⟨_,e,xZ (NQ ((yA w os).trans hx)) l1⟩,l2,hf⟩
theorem NO:LeftO rp qv lq XtQ (fun s=>Facts (fragOf s.heap)∧s.heap.objs.size=823) (fun _=>True) 6000:=fun w=>by
 obtain⟨s,⟨s0,e,t⟩,l2,hf⟩:=YG w
 exact YH e t l2 hf
end
section
open PySem.Calls
theorem NV(h:Heap):(fragOf h).In h:=by
 intro a o e
 have:∀(l:List Nat),(l.filterMap fun a=>(h.get? a).map fun o=>(a,o)).lookup a=some o→h.get? a=some o:=by
  intro l
  induction l with
  |nil=>intro q;cases q
  |cons b r ih =>
   intro q
   rw[List.filterMap_cons]at q
   cases hb:h.get? b with
   |none=>rw[hb]at q;exact ih q
   |some x =>
    rw[hb]at q
    simp only[Option.map_some,List.lookup_cons]at q
    split at q
    ·rename_i k;cases q;rw[eq_of_beq k];exact hb
    ·exact ih q
 exact this _ e
theorem HU{vs:List Value}{ns:List Int}(h:IntsAre vs ns)(ρ:Tr):aK (VR ρ) (sxs ns) vs:=by
 induction h with
 |nil=>trivial
 |cons n t _ ih=>exact⟨⟨t,rfl⟩,ih⟩
theorem NG(ns:List Int):∀x∈sxs ns,clV x=true:=fun x hx=>by
 obtain⟨n,_,rfl⟩:=List.mem_map.mp hx;rfl
theorem PC:Value.type "list"≠Value.type "frame":=by simp
theorem PB:Value.type "list"≠Value.type "traceback":=by simp
theorem NE{mb:Bt}(B:aE mb){s:Shared}{ns:List Int}{its:List Value}(hx:ns.length≤1000)(hI:IntsAre its ns)(hob:s.heap.get? 823=some { cls:=.type "list",data:=.seq its.toArray })(hsz:s.heap.objs.size=824)(hK:mb.K.In s.heap)(hb:s.heap.Ns builtinsNs mb.mb)(hg:s.gens = #[])
  {Q:Value→Shared→Prop}{E:Value→Shared→Prop}(post:∀s',OldK s.heap s'.heap→s'.os=s.os→s'.gens = #[]→Q (.bool true) s'):wpAny (model mb.prog mb.w) callerA (call (.ref 822) [.ref 823]) Q E s:=by
 refine wpAny_call (SX B hx callerA ⟨[],[(823,.clist (sxs ns))]⟩ s ⟨⟨[],rfl,fun e he=>(nomatch he)⟩,by decide,by decide,rfl,?_⟩ [.ref 823] ⟨⟨823,.head _,rfl⟩,trivial⟩ _ fun L' ρ' s' hL S R b hv=>?_)
 ·refine⟨hK,rfl,.nil,fun a h=>(nomatch h),fun a h=>(nomatch h),fun a h=>(nomatch h),fun i o a h1 h2=>by simp at h2,fun a o h=>?_,hb⟩
  obtain⟨rfl,rfl⟩:a=823∧o = .clist (sxs ns):=by simpa using h
  exact⟨⟨_,_,hob,HU hI _,NG ns⟩,⟨rfl,by decide⟩,⟨_,hob,PC,PB⟩,fun i h=>by simp at h⟩
 ·obtain rfl:b = .bool true:=hv
  refine post s' (.of_keep fun b o e=>?_) S.os (S.gens.trans hg)
  obtain⟨o',e',q⟩:=S.same b o e fun h=>by
   rcases h with h|rfl
   ·exact nomatch h
   ·rw[hL]at e;cases e
  by_cases hb:b≤822
  ·rw[e',q.low hb]
  ·have:b<824:=hsz▸Heap.lt_size e
   obtain rfl:b=823:=Nat.le_antisymm (Nat.le_of_lt_succ this) (Nat.lt_of_not_le hb)
   rw[hob]at e
   obtain rfl:=Option.some.inj e
   obtain⟨oc,od,dt,osl⟩:=o'
   obtain rfl:=q.cls
   obtain rfl:=q.dict
   obtain rfl:=q.data fun h=>absurd h.1 PB
   obtain rfl:=q.slots PC
   exact e'
set_option tactic.hygienic true in
theorem UU:WalkX qv lq (XL qv []) (fun s=>Facts (fragOf s.heap)∧s.heap.objs.size=823) (fun _=>True) rw0.row.toRowW JP [] fun f vs=>PySem.call f vs:=by
 intro w s₀ s₁ mg mb G Y fa o pm cd doc dV kV ho hd hcd hD hmg hg args vals as L hpre hlay hrd hwl hlo
 obtain⟨H,hn⟩:=of_eq_true Y
 wrow_args hpre hlay hrd hwl hlo
 rename_i ns hs hlay0 hL1 hr1 hl2 as1 as2 a its as3 hL ra w1 r0 hI hr hc hc'
 obtain⟨hat,hsz⟩:=PySem.W.X.script_at L
 have hob:=PySem.W.X.script_obj L hL
 rw[hn]at hat hsz
 subst hat
 have hx:ns.length≤1000:=by lia
 have hK:(fragOf s₀.heap).In s₁.heap:=fun a o e=>L.keeps _ _ (NV _ a o e)
 have B:aE ⟨rw0.row.toRowW.prog,w,mb,fragOf s₀.heap⟩:=⟨G.T.builtins,H⟩
 obtain⟨mg',h1,h2⟩:=zW hK (H.at 8 rfl)
 have h3:=h2 _ _ (eq_of_beq (H.at 28 rfl))
 have h4:mg "law" = some (.ref fa):=hmg
 rw[Heap.Ns.agree G.T.g h1,h3]at h4
 obtain rfl:822=fa:=by injection h4 with h4;injection h4
 refine NE B hx hI hob hsz hK G.T.b hg fun s' K h5 h6=>⟨.inl ⟨_,.bool true,[],rfl,fun cls=>?_,.bool true,?_,fun _=>⟨.nil,fun a h=>nomatch h⟩⟩,K,h5,?_⟩
 ·rfl
 ·wrow_post
 ·rw[h6];exact fun y h=>by simp at h
end
end Mine.Internal
theorem PySem.Challenge.cw_np0144_01_holds : PySem.Challenge.rw_np0144_01.Holds :=
 holds_law Mine.Internal.QO fun said=>holds_openX (q:=Mine.Internal.qv) (loose:=Mine.Internal.lq) (Xt:=Mine.Internal.XtQ) (XP:=XL Mine.Internal.qv []) (N:=6000) Mine.Internal.NO (fun s e=>xl_of s (Bool.and_eq_true_iff.mp e).1) XL.keeps Mine.Internal.VJ Mine.Internal.VH rfl
  (fun s e=>recFacts_of (Bool.and_eq_true_iff.mp e).2) rfl said Mine.Internal.ZP Mine.Internal.QR Mine.Internal.QP Mine.Internal.UU
